/- Part of the proof: S. Conditions: as each statement tells. -/
import Derived.Test.YtkikcohfbelmeaaGreatDoorMD
noncomputable section
set_option linter.unusedSimpArgs false
set_option linter.unusedVariables false
open BitVec renaming ofInt->B8,ofInt_natCast->D7,toNat_ofNat->E1,toNat_and->J3
open Bool renaming true->ka,false->kb,and_self->A7,true_and->C2,not_false->C6,and_eq_false_iff->E2,not_eq_true'->F7,or_eq_true->H0,eq_iff_iff->H1,and_eq_true_iff->I5,and_false->J9,false_and->K0
open Decidable renaming decide->A3
open Int renaming eq_ofNat_of_zero_le->A8,natCast_dvd_natCast->D2,toNat->D5,tdiv_eq_ediv_of_nonneg->E5,dvd_mul_of_dvd_left->E8,cast_ofNat_Int->F5,tmod_eq_emod_of_nonneg->F6,mul_fdiv_cancel_left->F8,dvd_add_left->F9,tmod->G9,fdiv->J6
open List renaming drop_eq_getElem_cons->A4,replicate->A6,append_eq->A9,getElem_mem->B3,take_succ_eq_append_getElem->B4,drop_zero->B9,nil_append->C0,all_cons->C3,take_length->C4,take_of_length_le->C7,zipWith->C8,mem_of_mem_take->C9,mem_of_mem_drop->D0,length_take->D3,replicate_succ'->D6,drop_length->D9,length_drop->E7,getElem_zip->E9,all_append->F1,map_congr_left->F2,set_cons_zero->F4,length_eq_zero_iff->G6,append_nil->G7,set_append_right->H3,take->H7,singleton_append->I0,take_zero->I4,sum_cons->I6,getD->I8,drop->I9,cons_append->J0,ext_getElem->J4
open Nat renaming lt_trans->B6,le_refl->C5,div_le_self->D1,lt_of_le_of_lt->D4,pow_le_pow_right->D8,le_of_lt->E3,mul_le_mul_right->E4,mod_eq_of_lt->E6,two_pow_pos->F0,testBit_two_pow_mul_add->F3,sub_self->G3,pow_succ->G4,mul_comm->G5,div_add_mod->G8,pow_dvd_pow->H2,mul_le_mul->I3,one_le_two_pow->I7,mul_add->J1,mul_one->J2,lt_of_not_le->J5,min_eq_left->J7,mod_lt->J8
open Sum renaming inl->B7,inr->C1
open Option renaming some->kc,none->kd
namespace Go.Ab
open Go.Proofs
set_option maxRecDepth 100000
theorem kZ:Tryz.prog.follows .mixedOrders=ka:=by kernel_rfl
theorem d3g:c2a Tryz.prog b3v=ka:=by kernel_rfl
theorem d3h:c2b Tryz.prog b1A=ka:=by kernel_rfl
theorem d3i:c2c Tryz.prog b3v b7y=ka:=by kernel_rfl
theorem laidOut:laidOutB Tryz.prog=ka:=by kernel_rfl
@[reducible] def AI(n:Nat)(s:sG):Prop:=KU Tryz.prog G0 n s/\ZJ Tryz.prog n
theorem c3U{a:List (Nat×sG)}{b:List (Nat×Ty)}{c d:Nat}(h:∀p∈a,a7w Tryz.prog G0 p.1 p.2):vC Tryz.prog (Gs a b c d):=vC.of (CxTy.of (tab:=b3v) (l:=b7y) (q:=b1A) (λ_=>rfl) (λ_=>rfl) (λ_=>rfl) d3g d3h d3i) (λ_=>rfl) h
theorem b1{n:Nat}{s:sG}{l:List (Nat×sG)}(h:AI n s)(g:∀p∈l,a7w Tryz.prog G0 p.1 p.2):∀p∈(n,s)::l,a7w Tryz.prog G0 p.1 p.2:=a1 (a:=(n,s)) h g
theorem b2{n:Nat}{s:sG}{l:List (Nat×sG)}(h:b6H Tryz.prog G0 n s)(g:∀p∈l,a7w Tryz.prog G0 p.1 p.2):∀p∈(n,s)::l,a7w Tryz.prog G0 p.1 p.2:=c0b (a:=(n,s)) h g
theorem fo {a : List (Nat × sG)} (b : List (Nat × Ty)) (c d : Nat) (H : sF) {n : Nat} {fn : Func} {e : Code} {s : sG} (h : ∀ p ∈ a, a7w Tryz.prog G0 p.1 p.2) (hf : Tryz.prog.funcs[n]? = kc fn) (hb : fn.body = kc e :=by rfl) (hk : c3z fn e H s = ka :=by kernel_rfl) (hn : (fn.name == "runtime.NumGoroutine") = kb :=by kernel_rfl) (hq : ∀ x, a2d (Gs a b c d) H fn s.ps s.rs x = s.F x :=by intro x; kernel_rfl) : AI n s :=
 ⟨KU.of (c3U h) kZ hf hb hk hq,⟨_,_,hf,hb,hn⟩⟩
theorem c5P:AI 33 a2n:=fo [] 5 0 QH a0 Tryz.func33
theorem b5g:AI 14 YV:=fo [] 5 2 QH (b1 c5P<|a0) Tryz.func14
theorem d3j:AI 34 a5H:=fo [] 5 0 d5H a0 Tryz.func34
theorem d3k:AI 35 a2o:=fo [] 5 0 d5I a0 Tryz.func35
theorem b5h:AI 15 a2p:=fo [] 19 0 QH (b1 d3j<|b1 d3k<|a0) Tryz.func15
theorem d3l:AI 16 a5I:=fo [(6,.pair QI Q7),(36,.list ka (.list ka QI)),(37,.pair QI Q7)] 931 8 d5J (b1 b5g<|b1 b5h<|a0) Tryz.func16
theorem c0Z:AI 37 kJ:=fo [] 5 2 QH a0 Tryz.func37
theorem b5i:AI 36 kK:=fo [] 85 2 d5K (b1 b5h<|b1 c5P<|b1 c0Z<|a0) Tryz.func36
theorem c2n:AI 142 a8a:=fo [] 5 0 QH a0 Tryz.func142
theorem c3V:AI 80 kL:=fo [] 85 0 d5L (b1 c2n<|a0) Tryz.func80
theorem c3W:AI 81 rP:=fo [] 19 0 d5M a0 Tryz.func81
theorem b7I:AI 75 Ck:=⟨KU.of (cx:=c5q) (c3U a0) kZ Tryz.func75 rfl (by kernel_rfl) d0L,⟨_,_,Tryz.func75,rfl,by kernel_rfl⟩⟩
theorem c5Q:AI 82 YW:=fo [(15,.list ka (.list ka QI))] 45 0 d5N (b1 b7I<|a0) Tryz.func82
theorem c5R:AI 83 cW:=fo [] 967 16 d5O (b1 c2n<|a0) Tryz.func83
theorem c5S:AI 39 b4P:=fo [] 115 0 d5P (b1 c3V<|b1 c3W<|b1 c5Q<|b1 c5R<|a0) Tryz.func39
theorem c5T:AI 140 a2q:=fo [] 237 0 d0M (b1 c3V<|a0) Tryz.func140
theorem c5U:AI 141 a5J:=fo [] 135445 0 QH a0 Tryz.func141
theorem d3m:AI 79 a8b:=fo [] 509 0 d5Q (b1 c5S<|b1 c5T<|b1 c5U<|a0) Tryz.func79
theorem d3n:AI 38 a8c:=fo [] 29 2 d5R (b1 b5i<|b1 d3m<|a0) Tryz.func38
theorem c3X:AI 84 a2r:=fo [] 21 0 d5S a0 Tryz.func84
theorem c2o:AI 143 a2s:=fo [] 5 0 QH a0 Tryz.func143
theorem c5V:AI 85 a2t:=fo [] 371 0 d5T (b1 c2o<|a0) Tryz.func85
theorem c5W:AI 144 Bz:=⟨KU.of (cx:=WX) (c3U a0) kZ Tryz.func144 rfl (by kernel_rfl) c5r,⟨_,_,Tryz.func144,rfl,by kernel_rfl⟩⟩
theorem c5X:AI 86 nB:=fo [] 45 0 d5U (b1 c5W<|a0) Tryz.func86
theorem c2p:AI 252 a5L:=fo [] 21 0 d0N a0 Tryz.func252
theorem c2q:AI 195 a5M:=fo [] 243 0 d0O (b1 c2p<|a0) Tryz.func195
theorem c5Y:AI 196 a2u:=fo [] 243 0 d0P a0 Tryz.func196
theorem c5Z:AI 145 a5N:=fo [] 509 0 d0Q (b1 c2q<|b1 c5Y<|a0) Tryz.func145
theorem b7J:AI 263 a2v:=fo [] 5 0 QH a0 Tryz.func263
theorem b7K:AI 253 iC:=fo [] 21 0 d0R (b1 b7J<|a0) Tryz.func253
theorem c2r:AI 256 rQ:=fo [] 5 0 QH a0 Tryz.func256
theorem c6a:AI 254 nC:=fo [] 493 0 d0S (b1 c2r<|a0) Tryz.func254
theorem c6b:AI 255 YG:=fo [] 1991 0 d0T a0 Tryz.func255
theorem c6c:AI 197 iD:=fo [] 16371 0 d0U (b1 b7I<|b1 b7K<|b1 c6a<|b1 c6b<|b1 c2r<|a0) Tryz.func197
theorem c6d:AI 198 rR:=fo [] 4077 0 d0V a0 Tryz.func198
theorem c6e:AI 199 rS:=fo [] 28531 0 d0W (b1 b5h<|a0) Tryz.func199
theorem c2s:AI 147 a2w:=fo [] 4039 0 QH (b1 c6c<|b1 c6d<|b1 c6e<|a0) Tryz.func147
theorem b7L:AI 260 a8d:=fo [] 5 0 QH a0 Tryz.func260
theorem b7M:AI 257 rT:=fo [] 21 0 d0X (b1 b7L<|a0) Tryz.func257
theorem c6f:AI 200 a8e:=fo [] 16327 0 d0Y (b1 b7M<|a0) Tryz.func200
theorem b7N:AI 204 b1B:=fo [] 83 8 d0Z a0 Tryz.func204
theorem c2t:AI 259 rW:=fo [] 7951 128 d1a a0 Tryz.func259
theorem b7O:AI 202 kN:=fo [] 4039 32 d1b (b1 b7N<|b1 b7M<|b1 c2t<|b1 b7L<|a0) Tryz.func202
theorem c6g:AI 258 cX:=fo [] 1 0 QH a0 Tryz.func258
theorem c6h:AI 201 kO:=fo [] 47523 0 c5s (b1 b7O<|b1 c6g<|a0) Tryz.func201
theorem c6i:AI 148 a5O:=fo [] 953 0 QH (b1 c2s<|b1 c6f<|b1 c6h<|b1 b7O<|a0) Tryz.func148
theorem c6j:AI 146 ZU:=fo [] 463 0 QH (b1 c2s<|a0) Tryz.func146
theorem d3o:AI 87 iE:=fo [(5,.list ka Hu)] 851 147573952589676412928 d5V (b1 c5Z<|b1 c6j<|b1 c6i<|a0) Tryz.func87
theorem b7P:AI 203 a5P:=fo [] 83 0 d1c a0 Tryz.func203
theorem c2u:AI 261 a2x:=fo [] 5 2 QH a0 Tryz.func261
theorem b7Q:AI 205 kP:=fo [] 5 0 d1d (b1 c2u<|a0) Tryz.func205
theorem b7R:AI 149 a3W:=fo [] 4611688217584863559 16 d1e (b1 b7P<|b1 b7N<|b1 b7Q<|a0) Tryz.func149
theorem c2v:AI 75 BZ:=⟨KU.of (cx:=c2k) (c3U a0) kZ Tryz.func75 rfl (by kernel_rfl) c5t,⟨_,_,Tryz.func75,rfl,by kernel_rfl⟩⟩
theorem c3Y:AI 206 Bv:=⟨KU.of (cx:=b7D) (c3U a0) kZ Tryz.func206 rfl (by kernel_rfl) c3T,⟨_,_,Tryz.func206,rfl,by kernel_rfl⟩⟩
theorem c2w:AI 150 a5Q:=fo [] 43523 8 d1f (b1 c2v<|b1 c3Y<|a0) Tryz.func150
theorem b7S:AI 187 cY:=fo [] 70291 4 d1g a0 Tryz.func187
theorem c2x:AI 262 iF:=fo [] 1991 0 d1h a0 Tryz.func262
theorem c6k:AI 207 a2y:=fo [] 1991 0 d1i (b1 b7P<|b1 b7K<|b1 c2x<|b1 b7J<|a0) Tryz.func207
theorem b7T:AI 267 cZ:=fo [] 5 0 QH a0 Tryz.func267
theorem c2y:AI 264 VL:=fo [] 21 0 d1j (b1 b7T<|a0) Tryz.func264
theorem c2z:AI 265 kQ:=fo [(15,.pair QI c5n),(16,.pair QI c5n)] 13 2 d1k (b1 c2u<|a0) Tryz.func265
theorem c2A:AI 295 nD:=fo [] 5 0 QH a0 Tryz.func295
theorem b7U:AI 266 Pv:=fo [] 61 0 d1l (b1 c2A<|a0) Tryz.func266
theorem c2B:AI 268 Qq:=fo [] 4202995 0 d1m (b1 b7U<|b1 c2A<|a0) Tryz.func268
theorem c6l:AI 208 a5R:=fo [] 15987 0 d1n (b1 b7I<|b1 b7Q<|b1 c2y<|b1 c2z<|b1 b7U<|b1 b7T<|b1 c2B<|a0) Tryz.func208
theorem c6m:AI 151 a8g:=fo [] 147573952727119562867 0 d1o (b1 b7I<|b1 b7S<|b1 c2q<|b1 b7O<|b1 c6k<|b1 c6l<|a0) Tryz.func151
theorem b7V:AI 214 kR:=fo [] 19 0 QH a0 Tryz.func214
theorem a8J:AI 155 YX:=fo [] 455 0 d1p (b1 b7V<|a0) Tryz.func155
theorem c2C:AI 209 a2z:=fo [] 327 0 d1q (b1 b7V<|a0) Tryz.func209
theorem c2D:AI 211 a8h:=fo [] 711 8 d1r (b1 a8J<|a0) Tryz.func211
theorem b1Z:AI 91 Nd:=fo [] 45 0 d5W (b1 b5h<|a0) Tryz.func91
theorem c2E:AI 212 a8i:=fo [] 5 0 QH (b1 b1Z<|a0) Tryz.func212
theorem b7W:AI 215 TW:=fo [] 5 0 QH a0 Tryz.func215
theorem b7X:AI 216 a8j:=fo [] 5 0 QH a0 Tryz.func216
theorem c2F:AI 217 a8k:=fo [] 141 0 QH (b1 b7X<|a0) Tryz.func217
theorem c6n:AI 270 a8l:=fo [] 51 0 d1s (b1 b7W<|b1 b7X<|b1 c2F<|a0) Tryz.func270
theorem b7Y:AI 213 b1C:=fo [] 179 0 d1t (b1 c6n<|a0) Tryz.func213
theorem c2G:AI 154 a5S:=fo [] 7951 16 d1u (b1 a8J<|b1 c2C<|b1 c2D<|b1 c2E<|b1 b7Y<|a0) Tryz.func154
theorem c6o:AI 269 a8m:=fo [] 125 0 d1v (b1 b7Y<|a0) Tryz.func269
theorem c6p:AI 210 rX:=fo [] 13 0 QH (b1 c2E<|b1 b7Y<|b1 c6o<|a0) Tryz.func210
theorem c6q:AI 152 a5T:=fo [(14,.pair QI Q2),(40,.pair QI Q2)] 440847 0 d1w (b1 c2G<|b1 a8J<|b1 c2C<|b1 c6p<|a0) Tryz.func152
theorem d3p:AI 88 b1D:=fo [] 14727 32 d5X (b1 c3X<|b1 c5V<|b1 c5X<|b1 b7R<|b1 c2w<|b1 c6m<|b1 c6q<|a0) Tryz.func88
theorem c3Z:AI 95 dA:=fo [] 5 0 QH a0 Tryz.func95
theorem c6r:AI 244 a8n:=fo [] 5 2 QH (b1 c2w<|a0) Tryz.func244
theorem c6s:AI 191 a5U:=fo [] 51 4 d1x (b1 c3X<|b1 c3Z<|b1 b7R<|b1 b7S<|b1 c2D<|b1 c6r<|a0) Tryz.func191
theorem c6t:AI 304 nE:=fo [] 11 0 QH a0 Tryz.func304
theorem c6u:AI 293 a2A:=fo [] 4296020275 0 QH (b1 c6t<|a0) Tryz.func293
theorem c6v:AI 245 a5V:=fo [] 3527 0 d1y (b1 c2p<|b1 c6u<|a0) Tryz.func245
theorem c6w:AI 246 a2B:=fo [] 14095 0 d1z (b1 b7P<|b1 b7K<|b1 c2x<|b1 b7J<|a0) Tryz.func246
theorem c6x:AI 247 a8o:=fo [] 4039 32 d1A (b1 b7N<|b1 b7M<|b1 c2t<|b1 b7L<|a0) Tryz.func247
theorem c6y:AI 248 QN:=⟨KU.yZ (cx:=c2l) (c3U (a1 b7I (a1 b7Q (a1 c2y (a1 c2z (a1 b7U (a1 b7T (a1 c2B a0)))))))) kZ (r:=c5u) ⟨c0e,c0f⟩ Tryz.func248 rfl (by kernel_rfl) c5v,⟨_,_,Tryz.func248,rfl,by kernel_rfl⟩⟩
theorem c6z:AI 249 a8p:=fo [] 371 0 d1C (b1 c2o<|a0) Tryz.func249
theorem c6A:AI 192 b1E:=fo [] 604462927822812893676787 4 d1D (b1 c6v<|b1 c6w<|b1 c6x<|b1 c6y<|b1 c6z<|a0) Tryz.func192
theorem c2H:AI 137 b4R:=fo [] 243 4 QH (b1 c6s<|b1 c6A<|a0) Tryz.func137
theorem c6B:AI 90 a3X:=fo [] 115 4 QH (b1 c2H<|a0) Tryz.func90
theorem c4a:AI 97 dB:=fo [] 3 0 d5Y a0 Tryz.func97
theorem b7Z:AI 92 dC:=fo [] 199 0 d5Z (b1 c4a<|a0) Tryz.func92
theorem c6C:AI 93 nF:=fo [] 7 0 QH (b1 b7Z<|a0) Tryz.func93
theorem d3q:AI 94 rY:=fo [] 83 8 d6a (b1 b1Z<|b1 b7Z<|b1 c6C<|a0) Tryz.func94
theorem c6D:AI 218 YH:=fo [] 19 0 d1E (b1 c4a<|a0) Tryz.func218
theorem c6E:AI 156 b1F:=fo [] 7495 0 d1F (b1 b7Z<|b1 b7W<|b1 b7X<|b1 c2F<|b1 c6D<|a0) Tryz.func156
theorem d3r:AI 96 a8q:=fo [] 97311 64 d6b (b1 b1Z<|b1 b7Z<|b1 c2G<|b1 a8J<|b1 c6E<|a0) Tryz.func96
theorem c6F:AI 42 b4S:=fo [] 11682311054023 16 d6c (b1 c6B<|b1 b1Z<|b1 b7Z<|b1 c6C<|b1 d3q<|b1 c3Z<|b1 d3r<|a0) Tryz.func42
theorem c6G:AI 153 dD:=fo [] 5 0 QH a0 Tryz.func153
theorem d3s:AI 89 b1G:=fo [(5,.pair (.list ka QV) Q0)] 19 4 QH (b1 c6F<|b1 c6G<|a0) Tryz.func89
theorem d3t:AI 40 b1H:=fo [] 50915 0 d6d (b1 c3X<|b1 c5V<|b1 c5X<|b1 d3o<|b1 d3p<|b1 d3s<|a0) Tryz.func40
theorem d3u:AI 17 a5W:=fo [(10,.pair QI c5p),(52,.pair QI a3V),(57,.pair QI a3V),(63,.pair QI a3V),(79,.pair QI a3V),(95,.pair QI a3V)] 88591 48 d6e (b1 b5g<|b1 b5i<|b1 c0Z<|b1 d3n<|b1 c5S<|b1 d3t<|a0) Tryz.func17
theorem c2I:AI 136 YY:=fo [] 5 2 QH (b1 b5g<|b1 c3W<|a0) Tryz.func136
theorem c6H:AI 138 SN:=⟨KU.yZ (cx:=c2m) (c3U (a1 c3V (a1 c3W (a1 c5Q (a1 c5R a0))))) kZ (r:=c5w) ⟨c0g,c0h⟩ Tryz.func138 rfl (by kernel_rfl) c5x,⟨_,_,Tryz.func138,rfl,by kernel_rfl⟩⟩
theorem c4b:AI 74 YZ:=fo [] 1945 2 d6f (b1 b5i<|b1 c2I<|b1 c2H<|b1 c6H<|a0) Tryz.func74
theorem c6I:AI 41 kS:=fo [] 21 2 QH (b1 c4b<|a0) Tryz.func41
theorem d3v:AI 43 YI:=fo [] 1 0 d6g (b1 c4a<|a0) Tryz.func43
theorem d3w:AI 44 YJ:=fo [] 5 0 QH a0 Tryz.func44
theorem c6J:AI 50 a8r:=fo [] 45 0 d6h a0 Tryz.func50
theorem d3x:AI 98 a8s:=fo [] 5 0 QH a0 Tryz.func98
theorem c6K:AI 99 dG:=fo [] 109 0 d6i a0 Tryz.func99
theorem d3y:AI 45 nG:=fo [] 307 4 d6j (b1 c6J<|b1 d3x<|b1 c6K<|a0) Tryz.func45
theorem c2J:AI 129 Za:=fo [] 5 0 QH a0 Tryz.func129
theorem c6L:AI 100 a2C:=fo [] 51 0 d1H (b1 c2J<|a0) Tryz.func100
theorem c6M:AI 101 PC:=⟨b7n _,⟨_,_,Tryz.func101,rfl,by kernel_rfl⟩⟩
theorem c6N:AI 46 a8t:=fo [] 51 0 QH (b1 c6L<|b1 c6M<|a0) Tryz.func46
theorem c6O:AI 47 WY:=fo [] 109 0 d6k a0 Tryz.func47
theorem c6P:AI 18 a8u:=fo [(4,.pair (.list ka QV) Q0)] 909 2 d6l (b1 c6I<|b1 c6F<|b1 d3v<|b1 d3w<|b1 d3y<|b1 c6N<|b1 c6O<|a0) Tryz.func18
theorem d3z:AI 76 dH:=fo [] 16371 0 QH a0 Tryz.func76
theorem d3A:b6H Tryz.prog G0 77 dI:=c0d _
theorem c6Q:AI 251 SP:=fo [] 5 0 c5y a0 Tryz.func251
theorem c6R:AI 194 RV:=fo [] 5 0 QH (b1 c6Q<|a0) Tryz.func194
theorem c6S:AI 139 dK:=fo [] 524231 0 d1I (b1 c6R<|a0) Tryz.func139
theorem d3B:AI 78 dL:=fo [] 455 0 QH (b1 c6S<|a0) Tryz.func78
theorem c4c:AI 32 a8v:=fo [] 967 0 QH (b1 d3z<|b2 d3A<|b1 d3B<|a0) Tryz.func32
theorem c6T:AI 13 dM:=fo [] 45 0 d6m (b1 c4c<|a0) Tryz.func13
theorem c4d:AI 30 Tz:=fo [] 93 2 d6n (b1 b5i<|b1 c0Z<|a0) Tryz.func30
theorem c6U:AI 102 a2D:=fo [] 1779 0 d1J (b1 b5h<|a0) Tryz.func102
theorem d3C:AI 48 a5X:=fo [] 13 2 d6o (b1 c4d<|b1 b5i<|b1 c6U<|a0) Tryz.func48
theorem c6V:AI 103 a5Y:=fo [] 29 0 d1K (b1 c4c<|a0) Tryz.func103
theorem d3D:AI 49 a8w:=fo [] 199 0 d6p (b1 c4c<|b1 c6V<|a0) Tryz.func49
theorem c4e:AI 19 WZ:=fo [] 243 8 QH (b1 c6T<|b1 d3C<|b1 d3D<|a0) Tryz.func19
theorem c6W:AI 29 kT:=fo [] 6653 2 d6q (b1 b5g<|b1 c6P<|b1 c4e<|b1 c4b<|a0) Tryz.func29
theorem c6X:AI 51 TY:=fo [] 109 0 d6r a0 Tryz.func51
theorem d3E:AI 20 a8x:=fo [] 5629 2 d6s (b1 c6W<|b1 c6N<|b1 c6J<|b1 c6X<|a0) Tryz.func20
theorem d4z:AI 5 Xa:=fo [(13,.pair EP c9G),(76,.pair EP b4O)] 1431311 16 H5 (b1 b5g<|b1 b5h<|b1 d3l<|b1 d3u<|b1 c6P<|b1 c4e<|b1 d3E<|a0) Tryz.func5
theorem c6Y:AI 67 Xb:=fo [] 5 0 QH a0 Tryz.func67
theorem c6Z:AI 127 Xc:=fo [] 253 0 c5z a0 Tryz.func127
theorem c7a:AI 68 Ml:=fo [] 243 0 d4r (b1 c6Z<|a0) Tryz.func68
theorem c7b:AI 69 Mm:=fo [] 5 0 QH a0 Tryz.func69
theorem c4f:AI 70 GA:=fo [] 5 0 d6t a0 Tryz.func70
theorem c7c:AI 128 Qs:=fo [] 51 0 c5A (b1 c4f<|a0) Tryz.func128
theorem d3F:AI 71 RW:=fo [] 179 0 d4s (b1 c7c<|b1 c2J<|a0) Tryz.func71
theorem c7d:AI 72 Ny:=fo [] 5 0 QH a0 Tryz.func72
theorem c7e:AI 27 PV:=fo [(4,.pair EP d0C)] 745 0 d4t (b1 b5g<|b1 c6X<|b1 c6Y<|b1 c7a<|b1 c7b<|b1 c4f<|b1 d3F<|b1 c7d<|a0) Tryz.func27
theorem c7f:AI 185 kU:=fo [] 13 0 QH a0 Tryz.func185
theorem c7g:AI 130 VM:=fo [(2,.pair QI d0G),(15,.pair QI a3V),(26,.pair QI a3V),(83,.pair QI a3V),(88,.pair QI a3V),(101,.pair QI a3V),(105,.pair QI a3V)] 4089 0 c5B (b1 c6Y<|b1 c7a<|b1 c7b<|b1 c4f<|b1 c7d<|b1 c6K<|b1 c2I<|b1 c7f<|a0) Tryz.func130
theorem c7h:AI 131 rZ:=fo [] 5 0 QH a0 Tryz.func131
theorem a4a:AI 135 CS:=fo [] 5 0 QH a0 Tryz.func135
theorem c2K:AI 133 Mn:=fo [] 5 0 d1L a0 Tryz.func133
theorem b8a:AI 190 HQ:=fo [] 19 0 QH a0 Tryz.func190
theorem a4b:AI 241 CT:=fo [] 51 0 c5C (b1 c2K<|b1 b8a<|a0) Tryz.func241
theorem b3x:AI 188 DK:=fo [] 51 0 c5D (b1 a4b<|a0) Tryz.func188
theorem c7i:AI 242 Xd:=fo [] 115 0 c5E (b1 b1Z<|b1 b3x<|b1 a4b<|a0) Tryz.func242
theorem c7j:AI 186 Zb:=fo [(2,.pair QI d0D)] 178258169 0 c5F (b1 b3x<|b1 a4b<|b1 c7i<|a0) Tryz.func186
theorem c7k:AI 309 Qt:=fo [] 115 0 c5G (b1 b8a<|a0) Tryz.func309
theorem c7l:AI 310 Zc:=fo [] 77 0 QH a0 Tryz.func310
theorem c7m:AI 303 sA:=fo [] 499 0 c5H (b1 a4a<|b1 a4b<|b1 c7k<|b1 c7l<|a0) Tryz.func303
theorem c7n:AI 292 sC:=fo [] 1991 0 c5I (b1 a4a<|b1 b7W<|b1 c7m<|a0) Tryz.func292
theorem c7o:AI 243 kV:=fo [] 4083 0 c5J (b1 b1Z<|b1 a4a<|b1 b3x<|b1 a4b<|b1 c7n<|a0) Tryz.func243
theorem c7p:AI 189 kW:=fo [(11,.pair QI Q2),(41,.pair QI Q2)] 251783 0 c5K (b1 a4a<|b1 a8J<|b1 b7V<|b1 a4b<|b1 c7o<|a0) Tryz.func189
theorem c7q:AI 132 a3Y:=fo [(7,.pair QI d0E)] 8035 0 c5L (b1 c6B<|b1 b1Z<|b1 c3Z<|b1 a4a<|b1 b7R<|b1 c7j<|b1 b7S<|b1 b3x<|b1 c7p<|a0) Tryz.func132
theorem c7r:AI 134 Qu:=fo [] 13 0 c5M (b1 b8a<|a0) Tryz.func134
theorem d3G:AI 73 dP:=fo [(5,.pair QI c5p)] 6105 0 d4u (b1 c6I<|b1 c6O<|b1 c7g<|b1 c7h<|b1 c7q<|b1 c2K<|b1 c7r<|b1 a4a<|a0) Tryz.func73
theorem c7s:AI 28 Oz:=fo [] 110623 64 d4v (b1 d3G<|b1 c4b<|a0) Tryz.func28
theorem d6K:AI 8 Vg:=fo [(6,.pair EP c9G),(20,.pair EP b4O),(24,.pair EP b4O),(48,.pair EP b4O),(90,.pair EP b4O),(96,.pair EP b4O)] 5033 0 H8 (b1 c4e<|b1 c7e<|b1 c7s<|a0) Tryz.func8
theorem d6L:AI 9 PW:=fo [] 253 2 H9 (b1 c6W<|b1 c4d<|a0) Tryz.func9
theorem d3H:AI 31 kX:=fo [(6,.pair QI Q8),(12,.pair QI Q6),(30,.pair QI Q6),(33,.pair QI Q6)] 291 12 d4w (b1 b5i<|b1 c0Z<|b1 c2v<|a0) Tryz.func31
theorem d3I:AI 10 Vh:=fo [] 327603 8 d4x (b1 c7e<|b1 c7s<|b1 c4d<|b1 d3H<|a0) Tryz.func10
theorem d3J:AI 11 Vi:=fo [] 115 4 d4y a0 Tryz.func11
theorem c4g:AI 12 Zd:=fo [] 51 0 d6u a0 Tryz.func12
theorem d6M:AI 4 Xf:=fo [] 4077 0 H4 (b1 d4z<|b1 d6K<|b1 d6L<|b1 d3I<|b1 d3J<|b1 c4g<|b1 c6T<|a0) Tryz.func4 (hq:=by intro x;exact Eq.mp (by kernel_rfl) (a2E Hb dQ VN dR dS DD Kx x))
theorem b8b:AI 21 a8z:=fo [] 5 2 QH a0 Tryz.func21
theorem d3K:AI 52 b7E:=fo [] 5 0 d6v a0 Tryz.func52
theorem d3L:AI 53 b4T:=fo [] 5 0 d6w a0 Tryz.func53
theorem b5j:AI 22 b4U:=fo [] 19 0 QH (b1 d3K<|b1 d3L<|a0) Tryz.func22
theorem d3M:AI 23 nH:=fo [(6,.pair QI Q7),(38,.list ka (.list ka QI)),(39,.pair QI Q7)] 67379619 8 d6x (b1 b8b<|b1 b5j<|a0) Tryz.func23
theorem c2L:AI 104 a8A:=fo [] 13 0 d1M a0 Tryz.func104
theorem c1a:AI 54 sE:=fo [] 29 2 d6y (b1 b5j<|b1 c2L<|a0) Tryz.func54
theorem c7t:AI 55 a0a:=fo [] 5 2 QH a0 Tryz.func55
theorem Ze:AI 159 b4V:=fo [] 5 0 QH a0 Tryz.func159
theorem Oh:AI 110 a5Z:=fo [] 13 0 d1N (b1 Ze<|a0) Tryz.func110
theorem c2M:AI 158 a2F:=fo [] 51 0 d1O a0 Tryz.func158
theorem b8c:AI 107 b1J:=fo [] 51 0 d1P (b1 c2L<|b1 Oh<|b1 c2M<|a0) Tryz.func107
theorem c2N:AI 108 a6a:=fo [(18,.list ka (.list ka QI))] 29 0 d1Q a0 Tryz.func108
theorem c2O:AI 109 b4W:=fo [] 199 16 d1R (b1 Ze<|a0) Tryz.func109
theorem c7u:AI 57 a6b:=fo [] 243 0 d6z (b1 b8c<|b1 c2N<|b1 c2O<|a0) Tryz.func57
theorem b8d:AI 157 b4X:=fo [] 5 0 QH a0 Tryz.func157
theorem c7v:AI 105 iH:=fo [] 61 0 d1S (b1 b8c<|b1 b8d<|a0) Tryz.func105
theorem c7w:AI 106 nI:=fo [] 135445 0 QH a0 Tryz.func106
theorem d3N:AI 56 a0b:=fo [] 16381 2 d6A (b1 c1a<|b1 c7u<|b1 c7v<|b1 c7w<|a0) Tryz.func56
theorem b8e:AI 112 a8B:=fo [] 61 0 d1T a0 Tryz.func112
theorem c7x:AI 160 a3Z:=fo [] 13 0 c5N a0 Tryz.func160
theorem c2P:AI 111 b4Z:=fo [] 243 0 d1U (b1 Oh<|b1 b8e<|b1 c7x<|a0) Tryz.func111
theorem b8f:AI 219 nJ:=fo [] 1011 0 d1V (b1 Oh<|a0) Tryz.func219
theorem c2Q:AI 271 kY:=fo [] 115 0 d1W (b1 b8d<|a0) Tryz.func271
theorem c7y:AI 220 dV:=fo [] 115 0 QH (b1 b8f<|b1 c2Q<|a0) Tryz.func220
theorem c7z:AI 161 nK:=fo [] 509 0 d1X (b1 b8f<|b1 c7y<|a0) Tryz.func161
theorem c2R:AI 308 b1K:=fo [] 5 0 QH a0 Tryz.func308
theorem c7A:AI 306 a6c:=fo [] 125 0 d1Y (b1 c2R<|a0) Tryz.func306
theorem c7B:AI 311 b1L:=fo [] 51 0 d1Z a0 Tryz.func311
theorem c7C:AI 307 iI:=fo [] 967 0 d2a (b1 c7B<|a0) Tryz.func307
theorem c7D:AI 296 YL:=fo [] 32755 0 d2b (b1 Oh<|b1 c7A<|b1 c7C<|b1 c2R<|a0) Tryz.func296
theorem c7E:AI 297 dW:=fo [] 509 0 d2c a0 Tryz.func297
theorem c7F:AI 298 dX:=fo [] 16371 0 d2d (b1 b5j<|a0) Tryz.func298
theorem c7G:AI 272 iJ:=fo [] 8135 0 QH (b1 c7D<|b1 c7E<|b1 c7F<|a0) Tryz.func272
theorem c2S:AI 221 a6d:=fo [] 1927 0 QH (b1 c7G<|a0) Tryz.func221
theorem c7H:AI 162 b1M:=fo [] 1295 0 QH (b1 c2S<|a0) Tryz.func162
theorem c7I:AI 222 a0c:=fo [] 35433496519 0 d2e (b1 Oh<|b1 b8d<|a0) Tryz.func222
theorem b8g:AI 226 a2G:=fo [] 51 8 d2f a0 Tryz.func226
theorem c2T:AI 274 nL:=fo [] 967 32 d2g a0 Tryz.func274
theorem b8h:AI 224 Xg:=fo [] 967 32 d2h (b1 Oh<|b1 b8g<|b1 c2T<|a0) Tryz.func224
theorem c7J:AI 273 VO:=fo [] 1 0 QH a0 Tryz.func273
theorem c7K:AI 223 Xh:=fo [] 8163 0 c5O (b1 b8h<|b1 c2Q<|b1 c7J<|a0) Tryz.func223
theorem c7L:AI 163 b1N:=fo [] 3001 0 d2i (b1 c2S<|b1 c7I<|b1 c7K<|b1 b8h<|a0) Tryz.func163
theorem c7M:AI 113 a8C:=fo [] 435 0 d2j (b1 c7z<|b1 c7H<|b1 c7L<|a0) Tryz.func113
theorem b3y:AI 225 nM:=fo [] 51 0 d2k a0 Tryz.func225
theorem c2U:AI 275 a0e:=fo [] 5 2 QH a0 Tryz.func275
theorem b8i:AI 227 a0f:=fo [] 13 0 d2l (b1 c2U<|a0) Tryz.func227
theorem c2V:AI 164 a8D:=fo [] 1152921505680593555 4 d2m (b1 b3y<|b1 b8g<|b1 b8i<|a0) Tryz.func164
theorem c7N:AI 165 a8E:=fo [] 13 0 d2n a0 Tryz.func165
theorem c2W:AI 276 eA:=fo [] 967 0 d2o (b1 Ze<|b1 b3y<|a0) Tryz.func276
theorem c7O:AI 228 iK:=fo [] 967 0 d2p (b1 Oh<|b1 b3y<|b1 c2W<|a0) Tryz.func228
theorem c2X:AI 277 nN:=fo [(15,.pair QI c5n),(16,.pair QI c5n)] 13 2 d2q (b1 c2U<|a0) Tryz.func277
theorem c2Y:AI 299 b1O:=fo [] 5 0 QH a0 Tryz.func299
theorem b8j:AI 278 ZY:=fo [] 29 0 d2r (b1 c2Y<|a0) Tryz.func278
theorem c7P:AI 300 b1P:=fo [] 77 0 QH a0 Tryz.func300
theorem c2Z:AI 279 eB:=fo [] 243 0 d2s (b1 b8j<|b1 c2Y<|b1 c7P<|a0) Tryz.func279
theorem c7Q:AI 229 nO:=fo [] 4083 0 d2t (b1 Oh<|b1 b8i<|b1 c2X<|b1 b8j<|b1 c2Z<|a0) Tryz.func229
theorem c7R:AI 166 b1Q:=fo [] 147573952593971544051 4 d2u (b1 b8f<|b1 b8h<|b1 c7O<|b1 c7Q<|a0) Tryz.func166
theorem b8k:AI 167 a2H:=fo [] 5 0 QH a0 Tryz.func167
theorem c3a:AI 230 b7F:=fo [] 19 0 QH a0 Tryz.func230
theorem b3z:AI 231 nP:=fo [] 455 0 d2v (b1 c3a<|a0) Tryz.func231
theorem b8l:AI 283 a0g:=fo [] 5 0 QH a0 Tryz.func283
theorem c3b:AI 176 b7G:=fo [] 13 0 d2w a0 Tryz.func176
theorem c3c:AI 284 b5a:=fo [] 5 0 QH (b1 Ze<|b1 c3b<|a0) Tryz.func284
theorem c7S:AI 301 a2I:=fo [] 51 0 d2x (b1 Ze<|b1 b8l<|b1 c3c<|a0) Tryz.func301
theorem b8m:AI 282 a6e:=fo [] 115 0 d2y (b1 c7S<|a0) Tryz.func282
theorem c7T:AI 280 a2J:=fo [] 29 0 d2z (b1 b8m<|a0) Tryz.func280
theorem b3A:AI 171 b1R:=fo [] 29 0 d2A (b1 b5j<|a0) Tryz.func171
theorem c3d:AI 281 a2K:=fo [] 19 0 QH (b1 b3A<|b1 b8m<|a0) Tryz.func281
theorem c7U:AI 232 b1S:=fo [] 13 0 QH (b1 c7T<|b1 c3d<|b1 b8m<|a0) Tryz.func232
theorem c3e:AI 237 a2L:=fo [] 455 8 d2B (b1 b3z<|b1 b8l<|a0) Tryz.func237
theorem c3f:AI 233 a0h:=fo [] 7951 16 d2C (b1 Oh<|b1 b3z<|b1 c3e<|b1 c3d<|a0) Tryz.func233
theorem c7V:AI 168 a0i:=fo [(15,.pair QI Q2),(48,.pair QI Q2)] 227855 0 d2D (b1 Oh<|b1 c3a<|b1 b3z<|b1 c7U<|b1 c3f<|a0) Tryz.func168
theorem c7W:AI 114 a2M:=fo [] 140746112925063 32 d2E (b1 Oh<|b1 c2P<|b1 b8e<|b1 c2V<|b1 c7N<|b1 c7R<|b1 b8k<|b1 c7V<|a0) Tryz.func114
theorem c7X:AI 286 iL:=fo [] 51 0 d2F a0 Tryz.func286
theorem c7Y:AI 287 a0j:=fo [] 19 12 QH (b1 c4g<|a0) Tryz.func287
theorem c3g:AI 235 a2N:=fo [] 19 12 QH (b1 c4g<|b1 c7X<|b1 c7Y<|a0) Tryz.func235
theorem c7Z:AI 236 a8F:=fo [] 36031004900589569 2 d2G a0 Tryz.func236
theorem c8a:AI 302 a6f:=fo [] 5 0 QH a0 Tryz.func302
theorem c8b:AI 288 nQ:=fo [] 8135 0 d2H (b1 Oh<|b1 Ze<|b1 c8a<|a0) Tryz.func288
theorem c8c:AI 289 iM:=fo [] 7951 0 d2I (b1 Oh<|b1 Ze<|b1 b3y<|b1 c2W<|a0) Tryz.func289
theorem c8d:AI 290 a0k:=fo [] 1991 32 d2J (b1 Oh<|b1 Ze<|b1 b8g<|b1 c2T<|a0) Tryz.func290
theorem c8e:AI 291 nR:=fo [] 4083 0 d2K (b1 Oh<|b1 Ze<|b1 b8i<|b1 c2X<|b1 b8j<|b1 c2Z<|a0) Tryz.func291
theorem c8f:AI 238 b1T:=fo [] 144115192371347773 2 QH (b1 c8b<|b1 c8c<|b1 c8d<|b1 c8e<|a0) Tryz.func238
theorem c8g:AI 239 c0Y:=fo [] 243 0 d2L (b1 Ze<|a0) Tryz.func239
theorem c3h:AI 178 a6g:=fo [] 8179 4 d2M (b1 Oh<|b1 c2V<|b1 b8k<|b1 c3g<|b1 c7Z<|b1 c3e<|b1 c8f<|b1 c8g<|a0) Tryz.func178
theorem c8h:AI 170 a6h:=fo [] 115 4 QH (b1 c3h<|a0) Tryz.func170
theorem a8K:AI 172 nS:=fo [] 199 0 d2N a0 Tryz.func172
theorem b8n:AI 174 a0l:=fo [] 71 0 d2O (b1 a8K<|a0) Tryz.func174
theorem c8i:AI 173 nT:=fo [] 19 8 QH (b1 b3A<|b1 a8K<|b1 b8n<|a0) Tryz.func173
theorem c8j:AI 285 eD:=fo [] 51 0 d2P a0 Tryz.func285
theorem c8k:AI 234 a6i:=fo [] 967 0 d2Q (b1 Oh<|b1 a8K<|b1 b8l<|b1 c3c<|b1 c8j<|a0) Tryz.func234
theorem c8l:AI 175 a2O:=fo [] 64543 64 d2R (b1 b3A<|b1 a8K<|b1 b8n<|b1 b3z<|b1 c3f<|b1 c8k<|a0) Tryz.func175
theorem c3i:AI 117 a6j:=fo [] 576478898540249543 16 d2S (b1 b8k<|b1 c8h<|b1 b3A<|b1 a8K<|b1 c8i<|b1 b8n<|b1 c8l<|a0) Tryz.func117
theorem c8m:AI 169 nU:=fo [] 5 0 QH a0 Tryz.func169
theorem c8n:AI 115 a2P:=fo [(6,.pair (.list ka QV) .unit),(7,.pair (.list ka QV) .unit)] 51 4 QH (b1 c3i<|b1 c8m<|a0) Tryz.func115
theorem d3O:AI 58 a2Q:=fo [] 28131 0 d6B (b1 Oh<|b1 c2P<|b1 b8e<|b1 c7M<|b1 c7W<|b1 c8n<|a0) Tryz.func58
theorem d3P:AI 24 nV:=fo [(10,.pair QI c5p),(51,.pair QI a3V),(57,.pair QI a3V),(62,.pair QI a3V)] 47631 48 d6C (b1 b8b<|b1 c1a<|b1 c7t<|b1 d3N<|b1 c7u<|b1 d3O<|a0) Tryz.func24
theorem d3Q:AI 59 b5b:=fo [] 5 0 QH a0 Tryz.func59
theorem c8o:AI 65 b7H:=fo [] 115 0 d6D a0 Tryz.func65
theorem c8p:AI 177 a2R:=fo [] 5 2 QH (b1 b8b<|b1 c2M<|a0) Tryz.func177
theorem c8q:AI 179 a0m:=fo [] 243 0 d2T (b1 b8c<|b1 c2N<|b1 c2O<|a0) Tryz.func179
theorem c3j:AI 122 iN:=fo [] 1017 2 d2U (b1 c1a<|b1 c8p<|b1 c3h<|b1 c8q<|a0) Tryz.func122
theorem c8r:AI 116 a0n:=fo [] 21 2 QH (b1 c3j<|a0) Tryz.func116
theorem c8s:AI 118 eE:=fo [] 29 0 d2V a0 Tryz.func118
theorem c8t:AI 64 a2S:=fo [] 61 0 d6E a0 Tryz.func64
theorem c8u:AI 119 b1U:=fo [] 115 4 d2W (b1 c8t<|b1 c3b<|a0) Tryz.func119
theorem c8v:AI 120 b1V:=fo [] 61 0 d2X a0 Tryz.func120
theorem c8w:AI 121 a6k:=fo [] 61 0 d2Y a0 Tryz.func121
theorem c8x:AI 60 a0o:=fo [(11,.pair (.list ka QV) .unit),(12,.pair (.list ka QV) .unit)] 253 2 d6F (b1 c8o<|b1 c8r<|b1 c3i<|b1 c8s<|b1 c8u<|b1 c8v<|b1 c8w<|a0) Tryz.func60
theorem c8y:AI 123 a8G:=fo [] 61 2 d2Z (b1 c1a<|b1 c7t<|a0) Tryz.func123
theorem d3R:AI 61 a8H:=fo [] 189 0 d6G (b1 c3j<|b1 c8y<|a0) Tryz.func61
theorem c8z:AI 180 b1W:=fo [] 5 0 QH a0 Tryz.func180
theorem c8A:AI 181 b1X:=fo [] 115 0 d3a a0 Tryz.func181
theorem c8B:AI 124 b5c:=fo [] 243 0 d3b (b1 b5j<|b1 c8z<|b1 c8A<|a0) Tryz.func124
theorem c3k:AI 182 b5d:=fo [] 19 0 QH a0 Tryz.func182
theorem c8C:AI 183 b5e:=fo [] 29 0 QH (b1 c3k<|a0) Tryz.func183
theorem c8D:AI 125 b1Y:=fo [] 29 0 d3c (b1 c3k<|b1 c8C<|a0) Tryz.func125
theorem d3S:AI 62 a2T:=fo [] 115 0 QH (b1 c8B<|b1 c8D<|a0) Tryz.func62
theorem c8E:AI 25 a8I:=fo [(6,.pair EP d4o),(22,.pair EP b4O),(27,.pair EP (.pair QI (.pair QU (.pair (.nl Q4) d0I)))),(62,.pair EP b4O)] 16291 4 d6H (b1 b8b<|b1 d3Q<|b1 c8x<|b1 d3R<|b1 d3S<|a0) Tryz.func25
theorem c8F:AI 240 nW:=fo [] 51 0 d3d a0 Tryz.func240
theorem c8G:AI 184 nX:=fo [] 51 12 d3e (b1 c3g<|b1 c8F<|a0) Tryz.func184
theorem c8H:AI 126 nY:=fo [] 115 12 d3f (b1 c8G<|a0) Tryz.func126
theorem d3T:AI 63 a0p:=fo [] 21 2 QH (b1 c8E<|b1 c8H<|a0) Tryz.func63
theorem d3U:AI 66 a0q:=fo [] 61 0 d6I a0 Tryz.func66
theorem d3V:AI 26 a0r:=fo [] 509 2 d6J (b1 c8x<|b1 d3T<|b1 c8t<|b1 c8o<|b1 d3U<|a0) Tryz.func26
theorem d6N:AI 6 eF:=fo [] 704271 16 H6 (b1 b8b<|b1 b5j<|b1 d3M<|b1 d3P<|b1 c8E<|b1 d3V<|a0) Tryz.func6
theorem d6O:AI 7 b5f:=fo [] 19 0 QH a0 Tryz.func7
theorem d6P:AI 3 Mq:=fo [] 7951 16 QH (b1 d6M<|b1 d4z<|b1 d6N<|b1 d6O<|a0) Tryz.func3
end Go.Ab
namespace Go.Ab
open IntKind renaming wrap->zB
section
variable {M β:Type} {f:M->Option (M ⊕ β)}
theorem ZZ:∀(n m:Nat)(s:M){b:β},Je f n s=kc b->Je f (n+m) s=kc b|0,_,s,b,h=>by simp[Je]at h|n+1,m,s,b,h=>by rw[show n+1+m=n+m+1 from by omega];simp only[Je]at h|-;split at h;cases h;rename_i g k;exact ZZ n m g h;exact h
theorem a4c{n m:Nat}{s:M}{b g:β}(h:Je f n s=kc b)(a:Je f m s=kc g):b=g:=by have c:=ZZ n m s h;have k:=ZZ m n s a;rw[Nat.add_comm,c]at k;exact Option.some.inj k
theorem b8o{n:Nat}{s:M}{b:β}(h:Je f n s=kc b):pU f s=kc b:=by unfold pU;have g:∃n b,Je f n s=kc b:=⟨n,b,h⟩;rw[dif_pos g];exact cG kc (a4c g.choose_spec.choose_spec h)
theorem a6l{n:Nat}{s:M}{b:β}(h:Je f n s=kc b):Ah f s=kc b:=by unfold Ah;split;rename_i g hb;rw[a4c hb h];exact b8o h
theorem a4d{s:M}(h:∀n,Je f n s=kd):Ah f s=kd:=by unfold Ah;rw[h 400];show pU f s=kd;unfold pU;rw[dif_neg];rintro⟨n,b,g⟩;rw[h n]at g;cases g
theorem Ad{s:M}{b:β}(h:f s=kc (.inr b)):Ah f s=kc b:=a6l (n:=1) (by simp[Je,h])
theorem Ag{s s':M}(h:f s=kc (.inl s')):Ah f s=Ah f s':=by
 by_cases hx:∃n b,Je f n s'=kc b;obtain⟨n,b,hb⟩:=hx;rw[a6l hb];exact a6l (n:=n+1) (by simp[Je,h,hb]);have g:∀n,Je f n s'=kd:=λn=>by cases hn:Je f n s' with|none=>rfl|some b=>exact absurd ⟨n,b,hn⟩ hx
 rw[a4d g];refine a4d λn=>?_
 cases n with|zero=>rfl|succ n=>simp[Je,h,g n]
theorem b3B(S:Nat->M)(n:Nat){b:β}(g:∀i,i<n->f (S i)=kc (.inl (S (i+1))))(h:f (S n)=kc (.inr b)):∀(k:Nat),k<=n->Ah f (S (n-k))=kc b|0,_=>Ad h|k+1,a=>by rw[Ag (g (n-(k+1)) (by omega)),show n-(k+1)+1=n-k from by omega];exact b3B S n g h k (by omega)
theorem AD(S:Nat->M)(n:Nat){b:β}(g:∀i,i<n->f (S i)=kc (.inl (S (i+1))))(h:f (S n)=kc (.inr b)):Ah f (S 0)=kc b:=by have:=b3B S n g h n (C5 _);rwa [G3]at this
end
theorem Al{n:Int}(h:-9223372036854775808<=n/\n<=9223372036854775807):zB .i64 n=n:=by simp only[zB,IntKind.bits,IntKind.signed];simp;split<;>omega
theorem Av{n:Int}(h:0<=n/\n<18446744073709551616):zB .u64 n=n:=by simp only[zB,IntKind.bits,IntKind.signed];simp;omega
theorem IZ(n:Int):zB .u8 n=n%256:=by simp[zB,IntKind.bits,IntKind.signed]
def pF:Nat->Nat->List Int|0,_=>[]|k+1,n=>((n%256:Nat):Int)::pF k (n / 256)
theorem OD:∀k n,(pF k n).length=k|0,_=>rfl|k+1,n=>by simp[pF,OD k]
theorem Xj:∀(k n:Nat),pF (k+1) n=pF k n++[((n / 256^k%256:Nat):Int)]|0,n=>by simp[pF]|k+1,n=>by rw[pF,Xj k (n / 256),pF,Nat.div_div_eq_div_mul,G4,G5 (256^k)];rfl
theorem Yq(x y:Int):En x y=min x y:=by simp only[En,cond_eq_ite,dT];split<;>omega
theorem a6m(x y:Int):DH x y=max x y:=by simp only[DH,cond_eq_ite,dT];split<;>omega
theorem AN{n:Nat}(h:n<2147483648):AZ n=ka:=by simp[AZ,h]
section
variable {α A M β:Type}
def Gq(g:A->α->A ⊕ β):List α->A->A ⊕ β|[],a=>.inl a|x::r,a=>match g a x with|.inl a'=>Gq g r a'|.inr b=>.inr b
def Sz(fin:A->β):A ⊕ β->β|.inl a=>fin a|.inr b=>b
theorem Xk{f:M->Option (M ⊕ β)}(l:List α)(S:Nat->A->M)(g:A->α->A ⊕ β)(I:Nat->A->Prop)(e:A->β) (d:∀i (h:i<l.length) a,I i a->(∀j,g a l[i]=.inl j->f (S i a)=kc (.inl (S (i+1) j))/\I (i+1) j)/\(∀b,g a l[i]=.inr b->f (S i a)=kc (.inr b))) (c:∀a,I l.length a->f (S l.length a)=kc (.inr (e a))):∀(k i:Nat)(a:A),i+k=l.length->I i a->Ah f (S i a)=kc (Sz e (Gq g (l.drop i) a))|0,i,a,t,n=>by(obtain rfl:i=l.length:=by omega);rw[D9];exact Ad (c a n)|k+1,i,a,t,n=>by(have m:i<l.length:=by omega);rw[A4 m];obtain⟨o,p⟩:=d i m a n;simp[Gq];cases hg:g a l[i]with|inl j=>(obtain⟨q,r⟩:=o j hg;rw[Ag q];exact Xk l S g I e d c k (i+1) j (by omega) r)|inr b=>exact Ad (p b hg)
theorem Bi{f:M->Option (M ⊕ β)}(l:List α)(S:Nat->A->M)(g:A->α->A ⊕ β)(I:Nat->A->Prop)(k:A->β) (d:∀i (h:i<l.length) a,I i a->(∀e,g a l[i]=.inl e->f (S i a)=kc (.inl (S (i+1) e))/\I (i+1) e)/\(∀b,g a l[i]=.inr b->f (S i a)=kc (.inr b))) (c:∀a,I l.length a->f (S l.length a)=kc (.inr (k a))){a:A}(j:I 0 a):Ah f (S 0 a)=kc (Sz k (Gq g l a)):=by have:=Xk l S g I k d c l.length 0 a (by omega) j;simp_all
theorem AY{f:M->Option (M ⊕ β)}(l:List α)(S:Nat->M)(p:α->Bool){bt bf:β} (k:∀i (h:i<l.length),p l[i]=ka->f (S i)=kc (.inl (S (i+1))))(b:∀i (h:i<l.length),p l[i]=kb->f (S i)=kc (.inr bf)) (g:f (S l.length)=kc (.inr bt)):Ah f (S 0)=kc (bif l.all p then bt else bf):=by have h:=Bi (A:=Unit) l (λi _=>S i) (λ_ x=>bif p x then .inl ()else .inr bf) (λ_ _=>True) (λ_=>bt) (λi h a _=>?_) (λ_ _=>g) (a:=()) trivial;rw[h];congr 1;clear h k b g;(induction l with|nil=>rfl|cons x l c=>simp[Gq];cases p x with|true=>simp_all|false=>rfl);grind
end
theorem Ac{α:Type}{l:List α}{i:Nat}(h:i<l.length):Aq l (i:Int)=kc l[i]:=by simp_all[Aq]
def Ae(x:Int):Bool:=A3 (-1073741824<=x)&&A3 (x<1073741824)
theorem Cp{x:Int}:Ae x=ka↔-1073741824<=x/\x<1073741824:=by simp[Ae]
def short{α:Type}(l:List α):Prop:=l.length<1000000
theorem Aa{i:Nat}(h:i<1000000):zB .i64 ((i:Int)+1)=((i+1:Nat):Int):=by grind[Al]
theorem Bp{i n:Nat}(h:i<n):A3 ((i:Int)<(n:Int))=ka:=by simp_all
theorem b0u(n:Nat):A3 ((n:Int)<(n:Int))=kb:=by simp
theorem Fi{l:LI}(b:short l):DC l=kc (l.all Ae):=by
 unfold DC
 have:=AY (f:=Dn) l (λi=>(l,(l.length:Int),(i:Int),())) Ae (bt:=B7 ()) (bf:=C1 (kb,()))
  (λi h g=>by
   have g:=Cp.1 g;have k:A3 (l[i] < -1073741824)=kb:=by simp_all
   have a:A3 (l[i]>=1073741824)=kb:=by simp_all
   simp only[Dn,Bp h,cT,Ac h,oB,k,a,cF,Aa (B6 h b)])
  (λi h g=>by
   simp only[Dn,Bp h,cT,Ac h,oB];grind[Ae])
  (by simp[Dn])
 grind
theorem JU(x:Int):IQ x=kc (Ae x):=by grind[IQ,Ae]
theorem NR(x:Int):MC x=kc (Ae x):=by grind[MC,Ae]
theorem IW(x:Int):Ku x=kc (Ae x):=by grind[Ku,Ae]
theorem CE(x:Int):Eb x=kc (Ae x):=by grind[Eb,Ae]
theorem Xl(x:Int):IP x=kc (Ae x):=by grind[IP,Ae]
theorem Jz{l:LI}(k:short l):Dp l=kc (l.all Ae):=by unfold Dp;have:=AY (f:=Ep) l (λi=>(l,(l.length:Int),(i:Int),())) Ae (bt:=B7 ()) (bf:=C1 (kb,())) (λi h g=>by simp[Ep,Ac h,JU,g,Aa (B6 h k),h]) (λi h g=>by simp_all[Ep,Ac,JU]) (by simp[Ep]);grind
theorem VP{l:LI}(k:short l):GR l=kc (l.all Ae):=by unfold GR;have:=AY (f:=FH) l (λi=>(l,(l.length:Int),(i:Int),())) Ae (bt:=B7 ()) (bf:=C1 (kb,())) (λi h g=>by simp[FH,Ac h,NR,g,Aa (B6 h k),h]) (λi h g=>by simp_all[FH,Ac,NR]) (by simp[FH]);grind
theorem Ue{l:LI}(k:short l):Il l=kc (l.all Ae):=by unfold Il;have:=AY (f:=EX) l (λi=>(l,(l.length:Int),(i:Int),())) Ae (bt:=B7 ()) (bf:=C1 (kb,())) (λi h g=>by simp[EX,Ac h,IW,g,Aa (B6 h k),h]) (λi h g=>by simp_all[EX,Ac,IW]) (by simp[EX]);grind
theorem AC{l:LI}(k:short l):AM l=kc (l.all Ae):=by unfold AM;have:=AY (f:=It) l (λi=>(l,(i:Int),())) Ae (bt:=B7 ()) (bf:=C1 (kb,())) (λi h g=>by simp[It,Ac h,CE,g,Aa (B6 h k),h]) (λi h g=>by simp_all[It,Ac,CE]) (by simp[It]);grind
theorem LF{l:LI}(h:short l):EA l=kc (l.all Ae):=by have e:VK=Dn:=rfl;(have:EA l=DC l:=by rfl);simp_all[Fi]
def lB(x:Int):Bool:=A3 (-32768<=x)&&A3 (x<32768)
def Sc(c:List Int)(s:Int):Bool:=A3 (1<=c.length)&&(A3 (c.length<=32)&&(A3 (0<=s)&&(A3 (s<=15)&&c.all lB)))
theorem Pg{c:LI}{s:Int}(b:short c):HM (c,s)=kc (Sc c s):=by
 have:=AY (f:=Ik) c (λi=>(c,(c.length:Int),(i:Int),())) lB (bt:=B7 ()) (bf:=C1 (kb,()))
  (λi h g=>by
   simp[lB]at g;have k:¬ c[i] < -32768:=by omega
   have a:¬ c[i]>=32768:=by omega
   simp[Ik,Ac h,Aa (B6 h b),h,k,a])
  (λi h g=>by
   grind[lB,Ik,Ac])
  (by simp[Ik])
 simp at this;unfold HM Sc;grind
theorem Ho{c:LI}{s:Int}(b:short c):Ej (c,s)=kc (Sc c s):=by
 have:=AY (f:=Fd) c (λi=>(c,s,(i:Int),())) lB (bt:=B7 (c,s,())) (bf:=C1 (kb,()))
  (λi h g=>by
   simp[lB]at g;have k:¬ c[i] < -32768:=by omega
   have a:¬ c[i]>=32768:=by omega
   simp[Fd,Ac h,Aa (B6 h b),h,k,a])
  (λi h g=>by
   grind[lB,Fd,Ac])
  (by simp[Fd])
 simp at this;unfold Ej Sc;grind
def b2a(x:Int):Bool:=A3 (-64<=x)&&A3 (x<=64)
def Qw(lag:Int)(t:List Int):Bool:=A3 (2<=lag)&&(A3 (lag<=1024)&&t.all b2a)
theorem Xm{t:LI}{lag:Int}(k:t.length=3):Oy (lag,t)=kc (Qw lag t):=by
 have:=AY (f:=Lo) t (λi=>(t,(i:Int),())) b2a (bt:=B7 ()) (bf:=C1 (kb,()))
  (λi h g=>by
   simp[b2a]at g;grind[Lo,Ac,Aa])
  (λi h g=>by
   grind[b2a,Lo,Ac])
  (by simp_all[Lo])
 simp at this;unfold Oy Qw;grind
theorem Sd{t:LI}{lag:Int}(k:t.length=3):IT (lag,t)=kc (Qw lag t):=by
 have:=AY (f:=Hi) t (λi=>(lag,(i:Int),t,())) b2a (bt:=B7 (lag,())) (bf:=C1 (kb,()))
  (λi h g=>by
   simp[b2a]at g;grind[Hi,Ac,Aa])
  (λi h g=>by
   grind[b2a,Hi,Ac])
  (by simp_all[Hi])
 simp at this;unfold IT Qw;grind
def tK(s:Int×(Int×Unit)):Bool:=A3 (1<=s.1)&&(A3 (s.1<=32)&&(A3 (0<=s.2.1)&&A3 (s.2.1<=8)))
def KY(l:List (Int×Int×Unit)):Bool:=A3 (l.length<=3)&&l.all tK
theorem Se(s:Int×(Int×Unit)):Lp s=kc (tK s):=by grind[Lp,tK]
theorem Qc(s:Int×(Int×Unit)):JS s=kc (tK s):=by grind[JS,tK]
theorem Vr{l:List (Int×Int×Unit)}(k:short l):MD l=kc (KY l):=by have:=AY (f:=JI) l (λi=>(l,(l.length:Int),(i:Int),())) tK (bt:=B7 ()) (bf:=C1 (kb,())) (λi h g=>by simp[JI,Ac h,Se,g,Aa (B6 h k),h]) (λi h g=>by simp_all[JI,Ac,Se]) (by simp[JI]);simp at this;unfold MD KY;grind
theorem Qf{l:List (Int×Int×Unit)}(k:short l):Hk l=kc (KY l):=by have:=AY (f:=FR) l (λi=>(l,(i:Int),())) tK (bt:=B7 (l,())) (bf:=C1 (kb,())) (λi h g=>by simp[FR,Ac h,Qc,g,Aa (B6 h k),h]) (λi h g=>by simp_all[FR,Ac,Qc]) (by simp[FR]);simp at this;unfold Hk KY;rw[this];cases l.all tK with|false=>simp|true=>by_cases h:l.length<=3;all_goals grind
@[reducible] def W(n:Int):Int:=zB .i64 n
theorem MH(n:Int):zB .i64 n=Int.bmod n 18446744073709551616:=by grind[zB,IntKind.bits,IntKind.signed]
theorem Yr{n:Int}(h:Ae n=ka):W n=n:=by grind[Cp,Al]
def JV(guess:List Int->Int):List Int->List Int->Option (List Int)|[],out=>kc out|x::r,out=>bif Ae (W (x+guess out))then JV guess r (out++[W (x+guess out)])else kd
def Tb{β:Type}(guess:List Int->Int)(bad:β)(out:List Int)(x:Int):List Int ⊕ β:=bif Ae (W (x+guess out))then .inl (out++[W (x+guess out)])else .inr bad
theorem Mr{β:Type}(h:List Int->Int)(g:β)(f:List Int->β):∀(l out:LI),Sz f (Gq (Tb h g) l out)=match JV h l out with|some r=>f r|none=>g
 | [],out=>rfl
 |x::l,out=>by
  simp[Gq,Tb,JV];cases Ae (W (x+h out))with
  |true=>simp_all[Mr]
  |false=>rfl
theorem Vs(g:List Int->Int):∀(l out r:LI),out.all Ae=ka->JV g l out=kc r->r.all Ae=ka/\r.length=out.length+l.length|[],out,r,h,e=>by simp_all[JV]|x::l,out,r,h,e=>by simp[JV]at e;cases hw:Ae (W (x+g out))with|true=>(rw[hw]at e;obtain⟨f,k⟩:=Vs g l _ r (by simp_all) e;grind)|false=>simp_all
def JW:Option (List Int)->List Int×Int|some r=>(r,0)|none=>([],6)
def a0s(out:List Int)(i:Nat):Int:=out.getD (out.length-i) 0
def Oe(o:Nat)(out:List Int):Int:=match o with|1=>a0s out 1|2=>2*a0s out 1-a0s out 2|3=>3*a0s out 1-3*a0s out 2+a0s out 3|4=>4*a0s out 1-6*a0s out 2+4*a0s out 3-a0s out 4|_=>0
theorem Vt{out:LI}{i:Nat}(hi:1<=i)(h:i<=out.length)(g:short out):Br ((i:Int),out)=kc (a0s out i,out):=by unfold Br;have g:out.length<1000000:=g;grind[Al,Ac,a0s]
theorem a0t{out:LI}{o:Nat}(j:o<=4)(h:o<=out.length)(b:short out):∃g,OP (out,(o:Int))=kc g/\∀x,W (x+g)=W (x+Oe o out):=by(have k:=λ(f:1<=out.length)=>Vt (i:=1) (by omega) f b;have a:=λ(f:2<=out.length)=>Vt (i:=2) (by omega) f b;have c:=λ(f:3<=out.length)=>Vt (i:=3) (by omega) f b;have d:=λ(f:4<=out.length)=>Vt (i:=4) (by omega) f b;simp at k a c d;unfold OP;have e:o=0\/o=1\/o=2\/o=3\/o=4:=by omega);rcases e with rfl|rfl|rfl|rfl|rfl;exact⟨0,rfl,λx=>rfl⟩;exact⟨_,by simp[k (by omega)];rfl,λx=>rfl⟩;refine⟨_,by simp[k (by omega),a (by omega)];rfl,λx=>?_⟩;simp_all[MH,Oe];refine⟨_,by simp[k (by omega),a (by omega),c (by omega)];rfl,λx=>?_⟩;simp_all[MH,Oe];refine⟨_,by simp[k (by omega),a (by omega),c (by omega),d (by omega)];rfl,λx=>?_⟩;simp_all[MH,Oe]
theorem Aw{n:Nat}(h:n<1000000):AZ n=ka:=AN (by omega)
theorem a2U{sH zC:LI}{o:Nat}(w:o<=4)(z:sH.length=o)(y:zC.length<100000):
  QK (sH,zC,(o:Int))=kc (JW (bif sH.all Ae&&zC.all Ae then JV (Oe o) zC sH else kd)):=by
 have d:short sH:=by unfold short;omega
 have n:short zC:=by unfold short;omega
 unfold QK;have q:¬ (o:Int)<0:=by omega
 have r:¬ (o:Int) > 4:=by omega
 have t:(((sH.length:Nat):Int) != (o:Int))=kb:=by simp_all
 simp only[q,r,t,decide_false,cF,oB,LF d,LF n];cases hw1:sH.all Ae with
 |false=>rfl
 |true=>
  simp only[bT,cF,oB,C2];cases hw2:zC.all Ae with
  |false=>rfl
  |true=>
   simp[Aw d]
   have:=Bi (f:=LP) zC (λi k=>((o:Int),zC,(zC.length:Int),(i:Int),k,())) (Tb (Oe o) (C1 ((6:Int),([]:List Int),())))
    (λi k=>o<=k.length/\k.length<=o+i) (λk=>B7 (k,()))
    (λi h k u=>by
     have l:i<1000000:=by omega
     have m:short k:=by unfold short;omega
     obtain⟨g,v,j⟩:=a0t w u.1 m;have e:zB .i64 (zC[i]+g)=W (zC[i]+Oe o k):=j _;have c:EA [W (zC[i]+Oe o k)]=kc (Ae (W (zC[i]+Oe o k))):=by rw[LF (by simp[short])];simp
     simp only[LP,Bp h,cT,Ac h,oB,v,e,c,Tb];cases hb:Ae (W (zC[i]+Oe o k))with
     |true=>
      simp only[cT,bT,cF,Aw (show k.length+1<1000000 by omega),Aa l];refine⟨λx p=>?_,λb hb=>(by grind)⟩;simp at p;subst p;exact⟨rfl,by grind,by grind⟩
     |false=>
      simp)
    (λk _=>by simp[LP]) (a:=sH) ⟨by omega,by omega⟩
   simp[Mr]at this;rw[this];cases JV (Oe o) zC sH<;>rfl
def oA(o:Nat):List Int:=match o with|1=>[1]|2=>[2,-1]|3=>[3,-3,1]|4=>[4,-6,4,-1]|_=>[]
theorem b5k{o:Nat}(g:o<=4):Vk (o:Int)=kc (oA o):=by(have h:o=0\/o=1\/o=2\/o=3\/o=4:=by omega);rcases h with rfl|rfl|rfl|rfl|rfl<;>rfl
theorem a8L{o:Nat}(g:o<=4):(oA o).length=o:=by(have h:o=0\/o=1\/o=2\/o=3\/o=4:=by omega);rcases h with rfl|rfl|rfl|rfl|rfl<;>rfl
def a8M(o:Nat)(out:List Int)(x:Int):Nat->Int|0=>x|k+1=>W (a8M o out x k+W ((oA o).getD k 0*a0s out (k+1)))
theorem oC{zC out:LI}{o:Nat}{i x:Int}(q:o<=4)(h:o<=out.length)(g:short out)(r:Ae x=ka):
  Ah Ff (zC,(o:Int),oA o,i,x,(0:Int),out,())=kc (zC,(o:Int),oA o,i,W (x+Oe o out),out,()):=by
 have g:out.length<1000000:=g
 have:=AD (f:=Ff) (λk=>(zC,(o:Int),oA o,i,a8M o out x k,(k:Int),out,()))
  o (b:=(zC,(o:Int),oA o,i,a8M o out x o,out,())) (λk n=>by
   have a:zB .i64 (((out.length:Nat):Int)-1)=((out.length-1:Nat):Int):=by grind[Al]
   have c:zB .i64 (((out.length-1:Nat):Int)-(k:Int))=((out.length-(k+1):Nat):Int):=by grind[Al]
   have d:(0:Int)<=((out.length-(k+1):Nat):Int):=by omega
   have e:((out.length-(k+1):Nat):Int)<((out.length:Nat):Int):=by omega
   have j:k<(oA o).length:=by simp_all[a8L]
   have l:(oA o)[k]=(oA o).getD k 0:=by simp_all
   simp only[Ff,Bp n,cT,Ac j,oB,a,c,d,e,decide_true,A7,tN,Aa (show k<1000000 by omega),a8M,a0s,l])
  (by simp[Ff])
 simp[a8M]at this;rw[this];have p:a8M o out x o=W (x+Oe o out):=by
  have m:o=0\/o=1\/o=2\/o=3\/o=4:=by omega
  rcases m with rfl|rfl|rfl|rfl|rfl;simp_all[a8M,Oe,Yr]
  all_goals
   simp only[a8M,oA,Oe,List.getD_cons_zero,List.getD_cons_succ,Nat.zero_add,Nat.reduceAdd,W,MH,Int.add_bmod_bmod,Int.bmod_add_bmod];grind
 grind
theorem iO{sH zC:LI}{o:Nat}(n:o<=4)(w:sH.length=o)(v:zC.length<100000):
  Ma (sH,zC,(o:Int))=kc (JW (bif sH.all Ae&&zC.all Ae then JV (Oe o) zC sH else kd)):=by
 have j:short sH:=by unfold short;omega
 have e:short zC:=by unfold short;omega
 unfold Ma;have p:¬ (o:Int)<0:=by omega
 have q:¬ (o:Int) > 4:=by omega
 have r:(((sH.length:Nat):Int) != (o:Int))=kb:=by simp_all
 simp only[p,q,r,decide_false,cF,oB,AC j,AC e];cases hw1:sH.all Ae with
 |false=>rfl
 |true=>
  simp only[bT,cF,oB,C2];cases hw2:zC.all Ae with
  |false=>rfl
  |true=>
   have c:AZ (0+sH.length)=ka:=Aw (by omega);simp only[bT,cF,cT,c,b5k n,oB,A9,C0]
   have:=Bi (f:=HV) zC (λi g=>(zC,(o:Int),oA o,(i:Int),g,())) (Tb (Oe o) (C1 ((6:Int),([]:List Int),())))
    (λi g=>o<=g.length/\g.length<=o+i) (λg=>B7 (g,()))
    (λi h g t=>by
     have k:i<1000000:=by omega
     have d:short g:=by unfold short;omega
     have l:Ae zC[i]=ka:=lA.1 hw2 _ (B3 h);simp only[HV,Bp h,cT,Ac h,oB,oC n t.1 d l,CE,Tb];cases hb:Ae (W (zC[i]+Oe o g))with
     |true=>
      simp only[cT,bT,cF,Aw (show g.length+1<1000000 by omega),Aa k];refine⟨λu m=>?_,λb hb=>(by grind)⟩;simp at m;subst m;exact⟨rfl,by grind,by grind⟩
     |false=>
      simp)
    (λg _=>by simp[HV]) (a:=sH) ⟨by omega,by omega⟩
   simp[Mr]at this;rw[this];cases JV (Oe o) zC sH<;>rfl
def a8N(out:List Int):List Int->Nat->Int->Int|[],_,acc=>acc|c::r,i,acc=>bif A3 (i<out.length)then a8N out r (i+1) (W (acc+W (c*a0s out (i+1))))else acc
def TB(c:List Int)(s:Int)(out:List Int):Int:=Au .i64 (a8N out c 0 0) s
theorem b8p{out:LI}{i:Nat}(h:i<out.length)(g:short out):Aq out (zB .i64 (zB .i64 ((out.length:Int)-1)-(i:Int)))=kc (a0s out (i+1)):=by have g:out.length<1000000:=g;grind[Al,Ac,a0s]
theorem b8q{out:LI}{i:Nat}(h:i<out.length)(g:out.all Ae=ka):Ae (a0s out (i+1))=ka:=by grind[a0s]
theorem eG{out c:LI}{s:Int}(a:short out)(b:short c):∀(k i:Nat)(g:Int),i+k=c.length->Ah Er (out,s,g,c,(c.length:Int),(i:Int),())=kc (s,a8N out (c.drop i) i g,())|0,i,g,h=>by(obtain rfl:i=c.length:=by omega);simp_all[Ad,Er,a8N]|k+1,i,g,h=>by(have f:i<c.length:=by omega);(have j:out.length<1000000:=a;have e:c.length<1000000:=b;rw[A4 f,a8N];have l:zB .i64 (((out.length:Nat):Int)-1)=((out.length:Nat):Int)-1:=Al (by omega);have m:zB .i64 (((out.length:Nat):Int)-1-(i:Int))=((out.length:Nat):Int)-1-(i:Int):=Al (by omega);by_cases hi:i<out.length;have d:A3 (zB .i64 (zB .i64 (((out.length:Nat):Int)-1)-(i:Int))<0)=kb:=by grind);simp[hi];rw[Ag (s':=(out,s,W (g+W (c[i]*a0s out (i+1))),c,(c.length:Int),((i+1:Nat):Int),())) (by simp only[Er,Bp f,cT,Ac f,oB,d,cF,b8p hi a,Aa (show i<1000000 by omega)])];(exact eG a b k (i+1) _ (by omega);have d:A3 (zB .i64 (zB .i64 (((out.length:Nat):Int)-1)-(i:Int))<0)=ka:=by grind);simp[hi];simp_all[Ad,Er,Ac]
theorem bB{out c:LI}{s:Int}(g:short out)(h:short c)(f:0<=s):GU (out,c,s)=kc (TB c s out):=by have:=eG (s:=s) g h c.length 0 0 (by omega);grind[GU,TB]
theorem a0u{out c:LI}{s:Int}(a:short out)(b:short c)(d:out.all Ae=ka):∀(k i:Nat)(g:Int),i+k=c.length->Ah DO (out,c,s,g,(i:Int),())=kc (B7 (s,a8N out (c.drop i) i g,()))|0,i,g,h=>by(obtain rfl:i=c.length:=by omega);simp_all[Ad,DO,a8N]|k+1,i,g,h=>by(have f:i<c.length:=by omega);have l:out.length<1000000:=a;have e:c.length<1000000:=b;rw[A4 f,a8N];by_cases hi:i<out.length;simp[hi];rw[Ag (s':=(out,c,s,W (g+W (c[i]*a0s out (i+1))),((i+1:Nat):Int),())) (by simp only[DO,Bp f,Bp hi,cT,b8p hi a,oB,CE,b8q hi d,bT,cF,Ac f,Aa (show i<1000000 by omega)])];(exact a0u a b d k (i+1) _ (by omega);have j:A3 ((i:Int)<((out.length:Nat):Int))=kb:=by simp_all);simp[hi];exact Ad (by simp only[DO,Bp f,cT,j,cF])
theorem lE{s:Int}(h:0<=s)(g:s<=64):zB .u64 s=s:=Av (by omega)
theorem Sf{out c:LI}{s:Int}(f:short out)(h:short c)(k:out.all Ae=ka)(g:Sc c s=ka):FT (out,c,s)=kc (TB c s out):=by have:=a0u (s:=s) f h k c.length 0 0 (by omega);simp at this;unfold FT;simp[Ho h,g,this];simp only[Sc,bA,dT]at g;grind[lE,TB]
def eH(sH zC c:List Int)(s:Int):Option (List Int):=bif sH.all Ae&&zC.all Ae then JV (TB c s) zC sH else kd
theorem Xn{sH zC c:LI}{s:Int}(p:Sc c s=ka)(x:sH.length=c.length)(w:zC.length<100000):
  Lu (sH,zC,c,s)=kc (JW (eH sH zC c s)):=by
 have k:=p;simp only[Sc,bA,dT]at k;have d:short c:=by unfold short;omega
 have n:short sH:=by unfold short;omega
 have m:short zC:=by unfold short;omega
 unfold Lu;have r:(((sH.length:Nat):Int) != ((c.length:Nat):Int))=kb:=by simp_all
 simp only[Pg d,p,oB,bT,cF,r,Jz n,Jz m,eH];cases hw1:sH.all Ae with
 |false=>rfl
 |true=>
  simp only[bT,cF,oB,C2];cases hw2:zC.all Ae with
  |false=>rfl
  |true=>
   have q:zB .i64 (((sH.length:Nat):Int)+((zC.length:Nat):Int))=((sH.length+zC.length:Nat):Int):=by grind[Al]
   have t:(0:Int)<=((sH.length+zC.length:Nat):Int):=by omega
   simp only[bT,cF,cT,q,t,decide_true,tN,Aw (show sH.length+zC.length<1000000 by omega),Aw (show 0+sH.length<1000000 by omega),A7,A9,C0]
   have:=Bi (f:=Kw) zC (λi g=>(c,s,zC,(zC.length:Int),(i:Int),g,())) (Tb (TB c s) (C1 ((6:Int),([]:List Int),())))
    (λi g=>g.length<=sH.length+i) (λg=>B7 (g,()))
    (λi h g v=>by
     have j:i<1000000:=by omega
     have l:short g:=by unfold short;omega
     have e:zB .i64 (TB c s g+zC[i])=W (zC[i]+TB c s g):=by grind
     simp only[Kw,Bp h,cT,Ac h,oB,bB l d k.2.2.1,e,JU,Tb];cases hb:Ae (W (zC[i]+TB c s g))with
     |true=>
      simp only[cT,bT,cF,Aw (show g.length+1<1000000 by omega),Aa j];refine⟨λu o=>?_,λb hb=>(by grind)⟩;simp at o;subst o;exact⟨rfl,by grind⟩
     |false=>
      simp)
    (λg _=>by simp[Kw]) (a:=sH) (by omega)
   simp[Mr]at this;rw[this];cases JV (TB c s) zC sH<;>rfl
theorem Tc{sH zC c:LI}{s:Int}(d:Sc c s=ka)(u:sH.length=c.length)(t:zC.length<100000):
  Hm (sH,zC,c,s)=kc (JW (eH sH zC c s)):=by
 have e:=d;simp only[Sc,bA,dT]at e;have k:short c:=by unfold short;omega
 have n:short sH:=by unfold short;omega
 have m:short zC:=by unfold short;omega
 unfold Hm;have p:(((sH.length:Nat):Int) != ((c.length:Nat):Int))=kb:=by simp_all
 simp only[Ho k,d,oB,bT,cF,p,AC n,AC m,eH];cases hw1:sH.all Ae with
 |false=>rfl
 |true=>
  simp only[bT,cF,oB,C2];cases hw2:zC.all Ae with
  |false=>rfl
  |true=>
   simp only[bT,cF,cT,Aw (show 0+sH.length<1000000 by omega),A9,C0]
   have:=Bi (f:=GG) zC (λi g=>(zC,c,s,(i:Int),g,())) (Tb (TB c s) (C1 ((6:Int),([]:List Int),())))
    (λi g=>g.length<=sH.length+i/\g.all Ae=ka) (λg=>B7 (g,()))
    (λi h g q=>by
     have j:i<1000000:=by omega
     have l:short g:=by unfold short;omega
     simp only[GG,Bp h,cT,Ac h,oB,Sf l k q.2 d,CE,Tb];cases hb:Ae (W (zC[i]+TB c s g))with
     |true=>
      simp only[cT,bT,cF,Aw (show g.length+1<1000000 by omega),Aa j];refine⟨λr o=>?_,λb hb=>(by grind)⟩;simp at o;subst o;exact⟨rfl,by grind,by simp_all⟩
     |false=>
      simp)
    (λg _=>by simp[GG]) (a:=sH) ⟨by omega,hw1⟩
   simp[Mr]at this;rw[this];cases JV (TB c s) zC sH<;>rfl
def a8O(out:List Int)(lag:Int):List Int->Nat->Int->Int|[],_,acc=>acc|t::r,i,acc=>a8O out lag r (i+1) (bif A3 (0<=(out.length:Int)-lag-1+i)then W (acc+W (t*out.getD ((out.length:Int)-lag-1+i).toNat 0))else acc)
def MI(lag:Int)(t:List Int)(out:List Int):Int:=Au .i64 (a8O out lag t 0 0) 6
theorem eI{out:LI}{j:Int}(g:0<=j)(h:j<out.length):Aq out j=kc (out.getD j.toNat 0):=by obtain⟨n,rfl⟩:=A8 g;simp_all[Ac]
theorem b3C{n i:Nat}{lag:Int}(h:2<=lag)(g:lag<=1024)(f:n<1000000)(hi:i<3):zB .i64 (zB .i64 (zB .i64 ((n:Int)-lag)-1)+(i:Int))=(n:Int)-lag-1+i:=by grind[Al]
theorem b5l{l:LI}{n j:Nat}(h:j<n):(l.take n).getD j 0=l.getD j 0:=by simp_all
theorem NS{l t:LI}{lag:Int}{n:Nat}(o:n<=l.length)(m:short l)(p:t.length=3)(b:2<=lag)(c:lag<=1024):∀(k i:Nat)(g:Int),i+k=3->Ah FI (l,(n:Int),lag,g,t,(i:Int),())=kc (a8O (l.take n) lag (t.drop i) i g,())|0,i,g,h=>by(obtain rfl:i=t.length:=by omega);grind[Ad,FI,a8O]|k+1,i,g,h=>by(have f:i<t.length:=by omega);(have a:A3 ((i:Int)<3)=ka:=by grind);(have q:l.length<1000000:=m;have j:(l.take n).length=n:=by simp_all);(have e:=b3C (n:=n) (i:=i) b c (by omega) (by omega);rw[A4 f,a8O,j];by_cases hp:0<=(n:Int)-lag-1+i;have d:A3 ((n:Int)-lag-1+i>=0)=ka:=by simp_all);simp only[hp,decide_true,cT];rw[b5l (show((n:Int)-lag-1+i).toNat<n by omega),Ag (s':=(l,(n:Int),lag,W (g+W (t[i]*l.getD ((n:Int)-lag-1+i).toNat 0)),t,((i+1:Nat):Int),())) (by simp only[FI,a,cT,Ac f,oB,e,d,eI hp (show(n:Int)-lag-1+(i:Int)<(l.length:Int)by omega),Aa (show i<1000000 by omega)])];(exact NS o m p b c k (i+1) _ (by omega);have d:A3 ((n:Int)-lag-1+i>=0)=kb:=by simp_all);simp[hp];rw[Ag (s':=(l,(n:Int),lag,g,t,((i+1:Nat):Int),())) (by simp only[FI,a,cT,Ac f,oB,e,d,cF,Aa (show i<1000000 by omega)])];exact NS o m p b c k (i+1) _ (by omega)
theorem VQ{l t:LI}{lag:Int}{n:Nat}(f:n<=l.length)(k:short l)(a:t.length=3)(h:2<=lag)(g:lag<=1024):GS (l,(n:Int),lag,t)=kc (MI lag t (l.take n)):=by have:=NS (t:=t) f k a h g 3 0 0 (by rfl);simp_all[GS,MI]
theorem oD{out t:LI}{lag:Int}(f:short out)(k:t.length=3)(h:2<=lag)(g:lag<=1024):GS (out,(out.length:Int),lag,t)=kc (MI lag t out):=by simp_all[VQ]
theorem Ms{out t:LI}{lag:Int}(j:short out)(m:t.length=3)(b:2<=lag)(c:lag<=1024):∀(k i:Nat)(g:Int),i+k=3->Ah Fc (out,lag,g,(i:Int),t,())=kc (a8O out lag (t.drop i) i g,())|0,i,g,h=>by(obtain rfl:i=t.length:=by omega);grind[Ad,Fc,a8O]|k+1,i,g,h=>by(have a:i<t.length:=by omega);(have f:A3 ((i:Int)<3)=ka:=by grind);(have l:out.length<1000000:=j;have e:=b3C (i:=i) b c l (by omega);rw[A4 a,a8O];by_cases hp:0<=(out.length:Int)-lag-1+i;have d:A3 ((out.length:Int)-lag-1+i>=0)=ka:=by simp_all);simp only[hp,decide_true,cT];rw[Ag (s':=(out,lag,W (g+W (t[i]*out.getD ((out.length:Int)-lag-1+i).toNat 0)),((i+1:Nat):Int),t,())) (by simp only[Fc,f,cT,Ac a,oB,e,d,eI hp (show(out.length:Int)-lag-1+(i:Int)<(out.length:Int)by omega),Aa (show i<1000000 by omega)])];(exact Ms j m b c k (i+1) _ (by omega);have d:A3 ((out.length:Int)-lag-1+i>=0)=kb:=by simp_all);simp[hp];rw[Ag (s':=(out,lag,g,((i+1:Nat):Int),t,())) (by simp only[Fc,f,cT,e,d,cF,Aa (show i<1000000 by omega)])];exact Ms j m b c k (i+1) _ (by omega)
theorem Ug{out t:LI}{lag:Int}(f:short out)(k:t.length=3)(h:2<=lag)(g:lag<=1024):Iy (out,lag,t)=kc (MI lag t out):=by have:=Ms (out:=out) (t:=t) f k h g 3 0 0 (by rfl);simp_all[Iy,MI]
def Zf(zC:List Int)(lag:Int)(t:List Int):Option (List Int):=bif zC.all Ae then JV (MI lag t) zC []else kd
theorem a6n{zC t:LI}{lag:Int}(d:Qw lag t=ka)(j:t.length=3)(n:zC.length<100000):SK (zC,lag,t)=kc (JW (Zf zC lag t)):=by
 have g:=d;simp only[Qw,bA,dT]at g;have k:short zC:=by unfold short;omega
 unfold SK;simp only[Xm j,d,oB,bT,cF,VP k,Zf];cases hw2:zC.all Ae with
 |false=>rfl
 |true=>
  have m:(0:Int)<=((zC.length:Nat):Int):=by omega
  simp[Aw k]
  have:=Bi (f:=Ni) zC (λi out=>(lag,zC,(zC.length:Int),(i:Int),out,t,())) (Tb (MI lag t) (C1 ((6:Int),([]:List Int),())))
   (λi out=>out.length=i) (λout=>B7 (out,()))
   (λi h out l=>by
    have b:i<1000000:=by omega
    have c:short out:=by unfold short;omega
    have e:=oD (out:=out) (t:=t) (lag:=lag) c j g.1 g.2.1;rw[l]at e;simp only[Ni,Bp h,cT,Ac h,oB,e,NR,Tb];cases hb:Ae (W (zC[i]+MI lag t out))with
    |true=>
     simp only[cT,bT,cF,Aw (show out.length+1<1000000 by omega),Aa b];simp_all
    |false=>
     simp)
   (λout _=>by simp[Ni]) (a:=[]) rfl
  simp[Mr]at this;rw[this];cases JV (MI lag t) zC []<;>rfl
theorem oE{zC t:LI}{lag:Int}(e:Qw lag t=ka)(j:t.length=3)(m:zC.length<100000):NF (zC,lag,t)=kc (JW (Zf zC lag t)):=by
 have k:=e;simp only[Qw,bA,dT]at k;have d:short zC:=by unfold short;omega
 unfold NF;simp only[Sd j,e,oB,bT,cF,AC d,Zf];cases hw2:zC.all Ae with
 |false=>rfl
 |true=>
  simp
  have:=Bi (f:=Jq) zC (λi g=>(zC,lag,(i:Int),g,t,())) (Tb (MI lag t) (C1 ((6:Int),([]:List Int),())))
   (λi g=>g.length=i) (λg=>B7 (g,()))
   (λi h g l=>by
    have b:i<1000000:=by omega
    have c:short g:=by unfold short;omega
    simp only[Jq,Bp h,cT,Ac h,oB,Ug c j k.1 k.2.1,CE,Tb];cases hb:Ae (W (zC[i]+MI lag t g))with
    |true=>
     simp only[cT,bT,cF,Aw (show g.length+1<1000000 by omega),Aa b];simp_all
    |false=>
     simp)
   (λg _=>by simp[Jq]) (a:=[]) rfl
  simp[Mr]at this;rw[this];cases JV (MI lag t) zC []<;>rfl
def iP{β:Type}(n:Int)(bad:β)(out:List Int)(x:Int):List Int ⊕ β:=bif Ae x&&Ae (AO .i64 x n)then .inl (out++[AO .i64 x n])else .inr bad
def a8P(n:Int)(l:List Int):Option (List Int):=bif l.all (λx=>Ae x&&Ae (AO .i64 x n))then kc (l.map λx=>AO .i64 x n)else kd
theorem Xo{β:Type}(n:Int)(h:β)(g:List Int->β):∀(l out:LI),Sz g (Gq (iP n h) l out)=match a8P n l with|some r=>g (out++r)|none=>h
 | [],out=>by simp[Gq,Sz,a8P]
 |x::l,out=>by
  simp only[Gq,iP,a8P,C3];cases hx:(Ae x&&Ae (AO .i64 x n))with
  |true=>
   simp only[cT,C2];rw[Xo n h g l _];simp only[a8P];cases l.all (λx=>Ae x&&Ae (AO .i64 x n))with
   |true=>simp
   |false=>rfl
  |false=>rfl
theorem a6o{l:LI}{n:Int}(e:0<=n)(j:n<=30)(o:l.length<100000):Pz (l,n)=kc (JW (a8P n l)):=by
 have d:short l:=by unfold short;omega
 have k:¬ n<0:=by omega
 have c:¬ n > 30:=by omega
 unfold Pz;simp[k,c]
 have:=Bi (f:=Nj) l (λi g=>(n,l,(l.length:Int),(i:Int),g,())) (iP n (C1 ((6:Int),([]:List Int),())))
  (λi g=>g.length=i) (λg=>B7 (g,()))
  (λi h g m=>by
   have b:i<1000000:=by omega
   simp only[Nj,Bp h,cT,Ac h,oB,Xl,iP,k,decide_false,cF];cases hb:Ae l[i]with
   |true=>
    cases hb2:Ae (AO .i64 l[i] n)with
    |true=>
     simp only[cT,bT,cF,oB,k,decide_false,Aw (show g.length+1<1000000 by omega),Aa b,A7];simp_all
    |false=>
     simp
   |false=>
    simp)
  (λg _=>by simp[Nj]) (a:=[]) rfl
 simp[Xo]at this;rw[this];cases a8P n l<;>rfl
theorem b5m{l:LI}{n:Int}(e:0<=n)(m:n<=30)(p:l.length<100000):pE (l,n)=kc (JW (a8P n l)):=by
 have j:short l:=by unfold short;omega
 have k:¬ n<0:=by omega
 have d:¬ n > 30:=by omega
 have c:=lE e (by omega);unfold pE;simp[k,d]
 have:=Bi (f:=Vm) l (λi g=>(l,n,(i:Int),g,())) (iP n (C1 ((6:Int),([]:List Int),())))
  (λi g=>g.length=i) (λg=>B7 (g,()))
  (λi h g o=>by
   have b:i<1000000:=by omega
   simp only[Vm,Bp h,cT,Ac h,oB,CE,iP,c,k,decide_false,cF];cases hb:Ae l[i]with
   |true=>
    cases hb2:Ae (AO .i64 l[i] n)with
    |true=>
     simp only[cT,bT,cF,oB,c,k,decide_false,Ac h,Aw (show g.length+1<1000000 by omega),Aa b,A7];simp_all
    |false=>
     simp
   |false=>
    simp)
  (λg _=>by simp[Vm]) (a:=[]) rfl
 simp[Xo]at this;rw[this];cases a8P n l<;>rfl
abbrev bC:Type:=Int×((List Int)×((List Int)×Unit))
def Cw(x:Int):Int:=En (DH x (-1073741824)) 1073741823
def a6p(x:Int):Int:=En (DH x (-1048576)) 1048576
theorem eJ(x:Int):-1073741824<=Cw x/\Cw x<=1073741823:=by grind[Cw,Yq,a6m]
theorem a6q(x:Int):-1048576<=a6p x/\a6p x<=1048576:=by grind[a6p,Yq,a6m]
def b5n:List Int->List Int->Int->Int|a::w,b::h,acc=>b5n w h (W (acc+W (a*b)))|_,_,acc=>acc
def Bd(f:bC):Int:=Cw (Au .i64 (b5n f.2.1 f.2.2.1 0) 16)
structure uD (f:bC):Prop where
 len:f.2.1.length=f.2.2.1.length
 pos:1<=f.2.1.length
 most:f.2.1.length<=32
 rate:0<=f.1/\f.1<=8
 small:∀x∈f.2.1,-1048576<=x/\x<=1048576
theorem Sg{l:LI}{i:Nat}(h:i<l.length):I8 l i 0=l[i]:=by simp_all
theorem Uh{f:bC}(d:uD f):∀(k i:Nat)(g:Int),i+k=f.2.1.length->Ah DW (g,(f.2.1.length:Int),(i:Int),f,())=kc (b5n (f.2.1.drop i) (f.2.2.1.drop i) g,f,())|0,i,g,h=>by(obtain rfl:i=f.2.1.length:=by omega);rw[D9,Ad (b:=(g,f,())) (by simp[DW])];rfl|k+1,i,g,h=>by(have a:i<f.2.1.length:=by omega);(have c:i<f.2.2.1.length:=by rw[<-d.len];omega);(have j:=d.most;rw[A4 a,A4 c,b5n];have e:A3 ((0:Int)<=(i:Int))=ka:=by simp);rw[Ag (s':=(W (g+W (f.2.1[i]*f.2.2.1[i])),(f.2.1.length:Int),((i+1:Nat):Int),f,())) (by simp only[DW,Bp a,Bp c,e,cT,A7,tN,Sg a,Sg c,Aa (show i<1000000 by omega)])];exact Uh d k (i+1) _ (by omega)
theorem JX{f:bC}(h:uD f):Cy f=kc (Bd f,f):=by have:=Uh h f.2.1.length 0 0 (by omega);simp at this;unfold Cy;simp only[this,oB,Im];rfl
theorem Xp{f:bC}(d:uD f):∀(k i:Nat)(g:Int),i+k=f.2.1.length->Ah Fl (g,(i:Int),f,())=kc (b5n (f.2.1.drop i) (f.2.2.1.drop i) g,f,())|0,i,g,h=>by(obtain rfl:i=f.2.1.length:=by omega);rw[D9,Ad (b:=(g,f,())) (by simp[Fl])];rfl|k+1,i,g,h=>by(have a:i<f.2.1.length:=by omega);(have c:i<f.2.2.1.length:=by rw[<-d.len];omega);(have j:=d.most;rw[A4 a,A4 c,b5n];have e:A3 ((0:Int)<=(i:Int))=ka:=by simp);rw[Ag (s':=(W (g+W (f.2.1[i]*f.2.2.1[i])),((i+1:Nat):Int),f,())) (by simp only[Fl,Bp a,Bp c,e,cT,A7,tN,Sg a,Sg c,Aa (show i<1000000 by omega)])];exact Xp d k (i+1) _ (by omega)
theorem Rc{f:bC}(h:uD f):Dr f=kc (Bd f,f):=by have:=Xp h f.2.1.length 0 0 (by omega);simp at this;unfold Dr;simp only[this,oB,RX];rfl
def Qy(x:Int):Int:=if 0<x then 1 else if x<0 then -1 else 0
def Zg(r:Int)(x g:Int):Int:=Qy (x-g)*2^r.toNat
def oF(st:Int)(w h:Int):Int:=a6p (W (w+Qy h*st))
def Ui(f:bC)(x:Int):bC:=(f.1,C8 (oF (Zg f.1 (Cw x) (Bd f))) f.2.1 f.2.2.1,Cw x::f.2.2.1.take (f.2.2.1.length-1),f.2.2.2)
theorem eL{f:bC}(k:uD f)(x:Int):uD (Ui f x):=by(obtain⟨a,b,c,g,d⟩:=k;have e:(C8 (oF (Zg f.1 (Cw x) (Bd f))) f.2.1 f.2.2.1).length=f.2.1.length:=by simp_all);(refine⟨?_,?_,?_,g,?_⟩;show(C8 _ _ _).length=(Cw x::f.2.2.1.take (f.2.2.1.length-1)).length;simp_all;show 1<=(C8 _ _ _).length;omega;show(C8 _ _ _).length<=32;omega;intro y h;have h:y∈C8 (oF (Zg f.1 (Cw x) (Bd f))) f.2.1 f.2.2.1:=h;obtain⟨i,j,rfl⟩:=List.mem_iff_getElem.1 h);simp;exact a6q _
theorem MJ(x:Int):(0<x/\Qy x=1)\/(x<0/\Qy x=-1)\/(x=0/\Qy x=0):=by unfold Qy;omega
theorem a0v{r:Int}(h:0<=r/\r<=8):(2:Int)^r.toNat<=256/\1<=(2:Int)^r.toNat:=by(have:r.toNat=0\/r.toNat=1\/r.toNat=2\/r.toNat=3\/r.toNat=4\/r.toNat=5\/r.toNat=6\/r.toNat=7\/r.toNat=8:=by omega);rcases this with e|e|e|e|e|e|e|e|e<;>rw[e]<;>decide
theorem a4e{r:Int}(h:0<=r/\r<=8){x:Int}(f:-1<=x/\x<=1):AO .i64 x r=x*2^r.toNat:=by
 have g:=a0v h;have hb:min r.toNat 64=r.toNat:=by omega
 unfold AO;show zB .i64 (x*2^(min r.toNat 64))=_;rw[hb]
 have:x=-1\/x=0\/x=1:=by omega
 rcases this with rfl|rfl|rfl;all_goals grind[Al]
theorem a2V{f:bC}(a:uD f)(x:Int):(bif A3 (Cw x > Bd f)then bif A3 (f.1<0)then(kd:Option (Int×Int×bC×Unit))else kc (Cw x,AO .i64 (1:Int) f.1,f,()) else bif A3 (Cw x<Bd f)then bif A3 (f.1<0)then kd else kc (Cw x,zB .i64 (0-(AO .i64 (1:Int) f.1)),f,()) else kc (Cw x,(0:Int),f,()))=kc (Cw x,Zg f.1 (Cw x) (Bd f),f,()):=by
 have d:¬ f.1<0:=by have:=a.rate;omega
 have e:=a0v a.rate;have b:=a4e a.rate (x:=1) (by omega);rw[Int.one_mul]at b;rcases MJ (Cw x-Bd f)with⟨c,h⟩|⟨c,h⟩|⟨c,h⟩;have g:Cw x > Bd f:=by omega
 simp only[g,d,decide_true,decide_false,cT,cF,Zg,h,Int.one_mul,b];have g:¬ Cw x > Bd f:=by omega
 have k:Cw x<Bd f:=by omega
 simp only[g,k,d,decide_true,decide_false,cT,cF,Zg,h,b];grind[Al];have g:¬ Cw x > Bd f:=by omega
 have k:¬ Cw x<Bd f:=by omega
 simp only[g,k,decide_false,cF,Zg,h,Int.zero_mul]
theorem a8Q{l z:LI}{i:Nat}(hi:i<l.length)(f:z.length=l.length):(z.take i++l.drop i).set i (z[i]'(by omega))=z.take (i+1)++l.drop (i+1):=by
 have h:(z.take i).length=i:=by grind
 have g:z.take (i+1)=z.take i++[z[i]'(by omega)]:=by simp
 rw[H3 _ _ (by omega),h,G3,A4 hi,F4,g,aA];rfl
theorem b8r{l z:LI}{i:Nat}(hi:i<l.length)(h:z.length=l.length):I8 (z.take i++l.drop i) i 0=l[i]:=by grind
theorem b5o{f:bC}(g:uD f){i:Nat}(h:i<f.2.1.length):-1048576<=f.2.1[i]/\f.2.1[i]<=1048576:=g.small _ (B3 h)
theorem oG{f:bC}(o:uD f){a st:Int}(w:-256<=st/\st<=256):
  Ah CQ (a,st,(f.2.2.1.length:Int),(0:Int),f,())=kc (a,(f.1,C8 (oF st) f.2.1 f.2.2.1,f.2.2),()):=by
 obtain⟨z,y⟩:∃z,C8 (oF st) f.2.1 f.2.2.1=z:=⟨_,rfl⟩;have r:=o.len;have j:z.length=f.2.1.length:=by grind
 have x:=o.most
 have:=AD (f:=CQ) (λi=>(a,st,(f.2.2.1.length:Int),(i:Int),(f.1,z.take i++f.2.1.drop i,f.2.2),()))
  f.2.2.1.length (b:=(a,(f.1,z,f.2.2),())) (λi q=>by
   have k:i<f.2.1.length:=by omega
   have m:A3 ((0:Int)<=(i:Int))=ka:=by simp
   have u:(z.take i++f.2.1.drop i).length=f.2.1.length:=by grind
   have g:A3 ((i:Int)<((z.take i++f.2.1.drop i).length:Int))=ka:=by simp_all
   have p:z[i]'(by omega)=oF st f.2.1[i] f.2.2.1[i]:=by grind
   have v:=b5o o k;have h:=a8Q k j;rw[p]at h;simp only[CQ,Bp q,m,g,cT,A7,tN,Sg q,b8r k j];rcases MJ f.2.2.1[i]with⟨n,c⟩|⟨n,c⟩|⟨n,c⟩;have d:f.2.2.1[i] > 0:=n;simp[oF,c]at h;simp only[d,decide_true,cT,oB,m,g,A7,tN,Aa (show i<1000000 by omega)];exact cG (λl=>kc (B7 (a,st,(f.2.2.1.length:Int),((i+1:Nat):Int),(f.1,l,f.2.2),()))) h;have d:¬ f.2.2.1[i] > 0:=by omega
   have e:f.2.1[i]+-1*st=f.2.1[i]-st:=by omega
   simp only[oF,c,e]at h;simp only[d,n,decide_true,decide_false,cT,cF,oB,m,g,A7,tN,Aa (show i<1000000 by omega)];exact cG (λl=>kc (B7 (a,st,(f.2.2.1.length:Int),((i+1:Nat):Int),(f.1,l,f.2.2),()))) h;have d:¬ f.2.2.1[i] > 0:=by omega
   have t:¬ f.2.2.1[i]<0:=by omega
   have e:W (f.2.1[i]+0*st)=f.2.1[i]:=by rw[Int.zero_mul,Int.add_zero];exact Al (by omega)
   simp only[oF,c,e]at h;simp only[d,t,decide_false,cF,oB,m,g,cT,A7,tN,Aa (show i<1000000 by omega)];exact cG (λl=>kc (B7 (a,st,(f.2.2.1.length:Int),((i+1:Nat):Int),(f.1,l,f.2.2),()))) h)
  (by
   simp_all[C7,CQ])
 simp_all
theorem a8R{f:bC}(k:uD f)(x g:Int):-256<=Zg f.1 x g/\Zg f.1 x g<=256:=by have a:=a0v k.rate;unfold Zg;rcases MJ (x-g)with⟨-,h⟩|⟨-,h⟩|⟨-,h⟩<;>rw[h]<;>omega
theorem Zh{f:bC}(h:uD f)(x:Int):Es (f,x)=kc (Ui f x):=by
 unfold Es;have d:=a2V h x;simp only[Im,oB,JX h];have g:(bif A3 (En (DH x (-1073741824)) 1073741823 > Bd f)then bif A3 (f.1<0)then(kd:Option (Int×Int×bC×Unit))else kc (En (DH x (-1073741824)) 1073741823,AO .i64 (1:Int) f.1,f,()) else bif A3 (En (DH x (-1073741824)) 1073741823<Bd f)then bif A3 (f.1<0)then kd else kc (En (DH x (-1073741824)) 1073741823,zB .i64 (0-(AO .i64 (1:Int) f.1)),f,()) else kc (En (DH x (-1073741824)) 1073741823,(0:Int),f,()))=_:=d;rw[g];simp only[oB,oG h (a8R h _ _)];have i:f.2.2.1.length>=1:=by have:=h.pos;have:=h.len;omega
 have b:A3 ((1:Int)<=(f.2.2.1.length:Int))=ka:=by grind
 have e:cH f.2.2.1 1 (f.2.2.1.length-1) f.2.2.1=f.2.2.1.take 1++f.2.2.1.take (f.2.2.1.length-1):=by simp_all[cH]
 have j:(f.2.2.1.take 1++f.2.2.1.take (f.2.2.1.length-1)).length=f.2.2.1.length:=by simp_all
 have c:A3 ((0:Int)<((f.2.2.1.take 1++f.2.2.1.take (f.2.2.1.length-1)).length:Int))=ka:=by grind
 simp only[b,cT,e,c];congr 1;have k:(f.2.2.1.take 1++f.2.2.1.take (f.2.2.1.length-1)).set 0 (Cw x)=Cw x::f.2.2.1.take (f.2.2.1.length-1):=by cases hc:f.2.2.1 with|nil=>simp_all|cons a l=>simp
 rw[k];rfl
theorem lF(x:Int):RY x=kc (Qy x):=by grind[RY,MJ]
theorem a2W{f:bC}(a:uD f){g s:Int}(x:-1<=s/\s<=1):
  Ah DP (g,s,(0:Int),([]:List Int),([]:List Int),f,())=kc (g,C8 (oF (s*2^f.1.toNat)) f.2.1 f.2.2.1,([]:List Int),f,()):=by
 obtain⟨z,y⟩:∃z,C8 (oF (s*2^f.1.toNat)) f.2.1 f.2.2.1=z:=⟨_,rfl⟩;have l:=a.len;have v:z.length=f.2.1.length:=by grind
 have w:=a.most;have t:=a.rate;have u:zB .u64 f.1=f.1:=Av (by omega);have c:¬ f.1<0:=by omega
 have:=AD (f:=DP) (λi=>(g,s,(i:Int),z.take i,([]:List Int),f,()))
  f.2.1.length (b:=(g,z,([]:List Int),f,())) (λi j=>by
   have h:i<f.2.2.1.length:=by omega
   have q:A3 ((0:Int)<=(i:Int))=ka:=by simp
   have e:z[i]'(by omega)=oF (s*2^f.1.toNat) f.2.1[i] f.2.2.1[i]:=by grind
   have d:-1<=s*Qy f.2.2.1[i]/\s*Qy f.2.2.1[i]<=1:=by
    rcases MJ f.2.2.1[i]with⟨-,k⟩|⟨-,k⟩|⟨-,k⟩<;>rw[k]<;>omega
   have m:zB .i64 (s*Qy f.2.2.1[i])=s*Qy f.2.2.1[i]:=Al (by omega);have n:=a4e t d;have o:En (DH (zB .i64 (f.2.1[i]+s*Qy f.2.2.1[i]*2^f.1.toNat)) (-1048576)) 1048576=z[i]'(by omega):=by
    rw[e,show s*Qy f.2.2.1[i]*2^f.1.toNat=Qy f.2.2.1[i]*(s*2^f.1.toNat)by grind];rfl
   have p:z.take i++[z[i]'(by omega)]=z.take (i+1):=by simp
   have r:(z.take i).length+1<1000000:=by grind
   simp only[DP,Bp j,Bp h,q,cT,A7,tN,Sg j,Sg h,lF,oB,u,c,decide_false,cF,Aw r,m,n,o,A9,p,Aa (show i<1000000 by omega)])
  (by
   simp_all[C7,DP])
 simp_all
theorem a6r(f:bC):-1073741824<=Bd f/\Bd f<=1073741823:=eJ _
theorem lH{f:bC}(h:uD f)(x:Int):FU (f,x)=kc (Ui f x):=by
 unfold FU;have m:=eJ x;have n:=a6r f;have b:zB .i64 (Cw x-Bd f)=Cw x-Bd f:=Al (by omega);have l:-1<=Qy (Cw x-Bd f)/\Qy (Cw x-Bd f)<=1:=by rcases MJ (Cw x-Bd f)with⟨-,g⟩|⟨-,g⟩|⟨-,g⟩<;>rw[g]<;>omega
 have d:RX x=kc (Cw x):=rfl;have o:=h.most;have k:=h.len;have a:=h.pos;have c:zB .i64 (((f.2.2.1.length:Nat):Int)-1)=((f.2.2.1.length-1:Nat):Int):=by grind[Al]
 have e:A3 ((0:Int)<=((f.2.2.1.length-1:Nat):Int))=ka:=by simp
 have i:A3 (((f.2.2.1.length-1:Nat):Int)<=((f.2.2.1.length:Nat):Int))=ka:=by simp
 have j:([Cw x]:List Int).length+(f.2.2.1.take (f.2.2.1.length-1)).length<1000000:=by grind
 simp only[d,oB,Rc h,b,lF,a2W h l,List.length_nil,Aw (show 0+1<1000000 by omega),cT,c,e,i,A7,tN,B9,A9,C0,Aw j];rfl
abbrev Si:Type:=Int×(Int×Unit)
theorem PG{l:LI}(h:short l):Bf l=kc l:=by have g:AZ (0+l.length)=ka:=Aw (by unfold short at h;omega);simp_all[Bf,ZQ]
def Uj(s:Si):bC:=(s.2.1,A6 s.1.toNat 0,A6 s.1.toNat 0,())
theorem pG{s:Si}(h:tK s=ka):uD (Uj s):=by simp[tK]at h;refine⟨by rfl,by simp[Uj];omega,by simp[Uj];omega,⟨h.2.2.1,h.2.2.2⟩,λx g=>?_⟩;simp_all[Uj]
theorem Vu{s:Si}(h:tK s=ka):Pu s=kc (Uj s,0):=by
 have g:=h;simp[tK]at g;unfold Pu;have f:A3 ((0:Int)<=s.1)=ka:=by grind
 have k:A3 (s.1<=s.1)=ka:=by simp
 have a:AZ s.1.toNat=ka:=Aw (by omega);simp only[Se,h,zQ,f,k,a,A7];rfl
theorem KM{s:Si}(h:tK s=ka):Iz s=kc (Uj s,0):=by
 have g:=h;simp[tK]at g;unfold Iz;have f:A3 ((0:Int)<=s.1)=ka:=by grind
 have k:A3 (s.1<=s.1)=ka:=by simp
 have a:AZ s.1.toNat=ka:=Aw (by omega);simp only[Qc,h,zQ,f,k,a,A7];rfl
def a7c:List Int->List Int->bC->Option (List Int)|[],dn,_=>kc dn|r::rs,dn,f=>bif Ae (W (Bd f+r))then a7c rs (dn++[W (Bd f+r)]) (Ui f (W (Bd f+r)))else kd
theorem Vv:∀(l g:LI)(f:bC){r},a7c l g f=kc r->r.length=g.length+l.length|[],g,f,r,h=>by simp_all[a7c]|x::l,g,f,r,h=>by simp[a7c]at h;cases hw:Ae (W (Bd f+x))with|true=>rw[hw]at h;rw[Vv l _ _ h];grind|false=>simp_all
theorem RB{f g:LI}{i:Nat}(k:f.length=i)(h:i<g.length):I8 (f++g.drop i) i 0=g[i]:=by grind
theorem eM{f g:LI}{i:Nat}(k:f.length=i)(h:i<g.length)(y:Int):(f++g.drop i).set i y=(f++[y])++g.drop (i+1):=by rw[H3 _ _ (by omega),k,G3,A4 h,F4,aA];rfl
theorem VR{g b4:LI}{b5:Int}(n:short g):∀(k i:Nat)(a:LI)(f:bC),i+k=g.length->a.length=i->uD f->
  ∃z,Ah Iq ((g.length:Int),(i:Int),b4,b5,a++g.drop i,f,())=kc z/\
   match a7c (g.drop i) a f with
   |some r=>z=.inl (b4,b5,r,())
   |none=>∃q,z=.inr (([]:List Int),(6:Int),q,())
 |0,i,a,f,h,e,d=>by
  obtain rfl:i=g.length:=by omega
  rw[D9,G7];exact⟨_,Ad (b:=B7 (b4,b5,a,())) (by simp[Iq]),rfl⟩
 |k+1,i,a,f,h,e,d=>by
  have c:i<g.length:=by omega
  have o:g.length<1000000:=n;have l:A3 ((0:Int)<=(i:Int))=ka:=by simp
  have p:(a++g.drop i).length=g.length:=by grind
  have m:A3 ((i:Int)<(((a++g.drop i).length:Nat):Int))=ka:=by simp_all
  have j:a7c (g.drop i) a f=bif Ae (W (Bd f+g[i]))then a7c (g.drop (i+1)) (a++[W (Bd f+g[i])]) (Ui f (W (Bd f+g[i])))else kd:=by
   rw[A4 c];rfl
  rw[j];cases hw:Ae (W (Bd f+g[i]))with
  |true=>
   rw[Ag (s':=((g.length:Int),((i+1:Nat):Int),b4,b5,(a++[W (Bd f+g[i])])++g.drop (i+1),Ui f (W (Bd f+g[i])),())) (by
    simp only[Iq,Bp c,l,m,cT,A7,JX d,oB,tN,RB e c,IW,hw,bT,cF,Zh d,eM e c,Aa (show i<1000000 by omega)])]
   exact VR n k (i+1) _ _ (by omega) (by simp_all) (eL d _)
  |false=>
   exact⟨_,Ad (b:=C1 (([]:List Int),(6:Int),a++g.drop i,())) (by
    simp only[Iq,Bp c,l,m,cT,A7,JX d,oB,tN,RB e c,IW,hw,C6]),_,rfl⟩
theorem Zi{g:LI}{st:List Si}{n:Int}(l:short g):∀(k i:Nat)(a:LI)(f:bC),i+k=g.length->a.length=i->uD f->
  Ah Fg (st,n,(i:Int),a++g.drop i,f,())=kc (match a7c (g.drop i) a f with
   |some r=>.inl (st,n,r,())
   |none=>.inr ((6:Int),([]:List Int),()))
 |0,i,a,f,h,c,d=>by
  obtain rfl:i=g.length:=by omega
  rw[D9,G7];have q:a.length=g.length:=c;exact Ad (b:=B7 (st,n,a,())) (by simp_all[Fg])
 |k+1,i,a,f,h,c,d=>by
  have e:i<g.length:=by omega
  have t:g.length<1000000:=l;have m:A3 ((0:Int)<=(i:Int))=ka:=by simp
  have q:(a++g.drop i).length=g.length:=by grind
  have o:A3 ((i:Int)<(((a++g.drop i).length:Nat):Int))=ka:=by simp_all
  have j:a7c (g.drop i) a f=bif Ae (W (Bd f+g[i]))then a7c (g.drop (i+1)) (a++[W (Bd f+g[i])]) (Ui f (W (Bd f+g[i])))else kd:=by
   rw[A4 e];rfl
  have p:zB .i64 (g[i]+Bd f)=W (Bd f+g[i]):=by grind
  rw[j];cases hw:Ae (W (Bd f+g[i]))with
  |true=>
   rw[Ag (s':=(st,n,((i+1:Nat):Int),(a++[W (Bd f+g[i])])++g.drop (i+1),Ui f (W (Bd f+g[i])),())) (by
    simp only[Fg,m,o,cT,A7,Rc d,oB,tN,RB c e,p,CE,hw,bT,cF,lH d,eM c e,Aa (show i<1000000 by omega)])]
   exact Zi l k (i+1) _ _ (by omega) (by simp_all) (eL d _)
  |false=>
   exact Ad (by
    simp_all[Fg,Rc,CE])
def lO:List Si->List Int->Option (List Int)|[],row=>kc row|s::r,row=>match a7c row [] (Uj s)with|some row'=>lO r row'|none=>kd
theorem a8S{st:List Si}{s:Si}{k:Int}{b4:LI}{g:LI}(h:tK s=ka)(c:short g):
  ∃z,LQ k s (st,b4,(0:Int),g,())=kc z/\match a7c g [] (Uj s)with
   |some r=>z=.inl (st,b4,(0:Int),r,())
   |none=>∃q,z=.inr (.ret,st,([]:List Int),(6:Int),q,()):=by
 obtain⟨z,f,a⟩:=VR (b4:=b4) (b5:=0) c g.length 0 [] (Uj s) (by omega) rfl (pG h);simp at f a;unfold LQ;have b:((0:Int) != 0)=kb:=rfl;simp[Vu h,f];cases hst:a7c g [] (Uj s)with
 |some r=>
  simp_all
 |none=>
  grind
theorem lI{st l:List Si}{b4:LI}(a:∀s∈l,tK s=ka):∀(n:Nat)(h:LI),n<=l.length->short h->
  ∃z,RT LQ l n (st,b4,(0:Int),h,())=kc z/\match lO (l.take n).reverse h with
   |some r=>z=.inl (st,b4,(0:Int),r,())
   |none=>∃q,z=.inr (.ret,st,([]:List Int),(6:Int),q,())
 |0,h,_,_=>⟨_,rfl,rfl⟩
 |n+1,h,e,b=>by
  have g:n<l.length:=by omega
  obtain⟨z,c,f⟩:=a8S (st:=st) (k:=(n:Int)) (b4:=b4) (a _ (B3 g)) b;have d:(l.take (n+1)).reverse=l[n]::(l.take n).reverse:=by simp
  simp[RT,lG g,c,d,lO];cases hst:a7c h [] (Uj l[n])with
  |some r=>
   rw[hst]at f;simp at f;subst f;exact lI a n r (by omega) (by have:=Vv _ _ _ hst;unfold short at b|-;simp_all)
  |none=>
   grind
def TC(zC:List Int)(st:List Si):Option (List Int):=bif zC.all Ae then lO st.reverse zC else kd
theorem a2X{zC:LI}{st:List Si}(a:KY st=ka)(c:zC.length<100000):QM (zC,st)=kc (JW (TC zC st)):=by(have f:=a;simp only[KY,bA,dT]at f;have k:short st:=by unfold short;omega);(have h:short zC:=by unfold short;omega);unfold QM;simp only[Vr k,a,zQ,Ue h,TC];cases hw:zC.all Ae with|false=>rfl|true=>obtain⟨z,b,g⟩:=lI (st:=st) (b4:=[]) (lA.1 f.2) st.length zC (C5 _) h;rw[C4]at g;simp[PG h,Aw k,b];cases hst:lO st.reverse zC with|some r=>rw[hst]at g;simp at g;subst g;rfl|none=>rw[hst]at g;obtain⟨q,rfl⟩:=g;rfl
theorem a0w{l:List Si}(b:∀s∈l,tK s=ka)(f:l.length<=3):∀(n:Nat)(h:LI),n<=l.length->short h->
  Ah HW (l,(n:Int)-1,h,())=kc (match lO (l.take n).reverse h with
   |some r=>.inl (r,())
   |none=>.inr ((6:Int),([]:List Int),()))
 |0,h,_,_=>Ad (by rfl)
 |n+1,h,m,c=>by
  have k:n<l.length:=by omega
  have g:=b _ (B3 k);have a:=Zi (st:=l) (n:=(n:Int)) c h.length 0 [] (Uj l[n]) (by omega) rfl (pG g);simp at a;have e:(l.take (n+1)).reverse=l[n]::(l.take n).reverse:=by simp
  have d:((n+1:Nat):Int)-1=(n:Int):=by omega
  have j:A3 ((n:Int)>=0)=ka:=by simp
  have i:zB .i64 ((n:Int)-1)=(n:Int)-1:=Al (by omega);rw[e,d];simp[lO];cases hst:a7c h [] (Uj l[n])with
  |some r=>
   rw[hst]at a;rw[Ag (s':=(l,(n:Int)-1,r,())) (by simp_all[HW,Ac,KM])];exact a0w b f n r (by omega) (by have:=Vv _ _ _ hst;unfold short at c|-;simp_all)
  |none=>
   simp_all[Ad,HW,Ac,KM]
theorem iQ{zC:LI}{st:List Si}(a:KY st=ka)(c:zC.length<100000):Mb (zC,st)=kc (JW (TC zC st)):=by(have h:=a;simp only[KY,bA,dT]at h;have f:short st:=by unfold short;omega);(have g:short zC:=by unfold short;omega);unfold Mb;simp only[Qf f,a,zQ,AC g,TC];cases hw:zC.all Ae with|false=>rfl|true=>have k:=a0w (lA.1 h.2) h.1 st.length zC (C5 _) g;rw[C4]at k;have b:zB .i64 ((st.length:Int)-1)=(st.length:Int)-1:=Al (by omega);simp only[zQ,Aw (show 0+zC.length<1000000 by omega),b,A9,C0,k];cases lO st.reverse zC<;>rfl
def MM(n sH:Int):Bool:=A3 (1<=n)&&(A3 (n<=4096)&&(A3 (0<=sH)&&A3 (sH<=n)))
theorem eN(n sH:Int):Pw (n,sH)=kc (MM n sH):=by grind[Pw,MM]
theorem a0x(n sH:Int):Xi (n,sH)=kc (MM n sH):=by grind[Xi,MM]
theorem c4h{o:Nat}(h:o<=8):1<=2^o/\2^o<=256:=by(have:o=0\/o=1\/o=2\/o=3\/o=4\/o=5\/o=6\/o=7\/o=8:=by omega);grind
theorem eO{N o:Nat}(h:o<=64):Au .i64 (N:Int) (o:Int)=((N / 2^o:Nat):Int):=by unfold Au;show J6 (N:Int) (2^(min (o:Int).toNat 64))=_;grind
theorem eQ{N o:Nat}(h:o<=64)(g:N*2^o<9223372036854775808):AO .i64 (N:Int) (o:Int)=((N*2^o:Nat):Int):=by unfold AO;show zB .i64 ((N:Int)*2^(min (o:Int).toNat 64))=_;grind[Al]
def Vw(o N:Nat)(sH:Int):List Int:=if N%2^o=0/\sH<=((N / 2^o:Nat):Int)then(((N / 2^o:Nat):Int)-sH)::A6 (2^o-1) ((N / 2^o:Nat):Int)else[]
def Cm(order n sH:Int):List Int:=bif MM n sH&&(A3 (0<=order)&&A3 (order<=8))then Vw order.toNat n.toNat sH else[]
theorem DT(order n sH:Int):Gg (order,n,sH)=kc (Cm order n sH):=by
 unfold Gg Cm;simp only[eN,oB];cases hr:MM n sH with
 |false=>rfl
 |true=>
  simp[MM]at hr;simp only[bT,cF,C2];by_cases h1:order<0;grind;by_cases h2:order > 8;grind;obtain⟨o,rfl⟩:=A8 (show 0<=order by omega);obtain⟨N,rfl⟩:=A8 (show 0<=n by omega);have p:o<=8:=by omega
  have q:N<=4096:=by omega
  have t:=c4h p;have m:N / 2^o*2^o<=N:=Nat.div_mul_le_self N _;have l:(0:Int)<=(o:Int):=by omega
  have g8:(o:Int)<=8:=by omega
  simp only[h1,h2,l,g8,decide_true,decide_false,cF,cT,A7,oB,eO (N:=N) (show o<=64 by omega),eQ (N:=N / 2^o) (show o<=64 by omega) (by omega),tN];have g:=G8 N (2^o);rw[G5]at g;by_cases hm:N%2^o=0;have k:(((N / 2^o*2^o:Nat):Int) != (N:Int))=kb:=by simp_all
  by_cases hw:sH<=((N / 2^o:Nat):Int);have c:A3 (((N / 2^o:Nat):Int)<sH)=kb:=dF (Int.not_lt.2 hw);have e:zB .i64 (((N / 2^o:Nat):Int)-sH)=((N / 2^o:Nat):Int)-sH:=Al (by have:=D1 N (2^o);omega);simp only[k,c,e,cF,oB,Vw,hm,hw,and_self,if_true];have d:AO .i64 (1:Int) (o:Int)=((2^o:Nat):Int):=by have:=eQ (N:=1) (show o<=64 by omega) (by omega);simp_all
  have:=AD (f:=Kv) (λi=>((o:Int),((N / 2^o:Nat):Int),(((N / 2^o:Nat):Int)-sH)::A6 i ((N / 2^o:Nat):Int),())) (2^o-1)
   (b:=((((N / 2^o:Nat):Int)-sH)::A6 (2^o-1) ((N / 2^o:Nat):Int),())) (λi r=>by
    have a:A3 ((((((N / 2^o:Nat):Int)-sH)::A6 i ((N / 2^o:Nat):Int)).length:Int)<((2^o:Nat):Int))=ka:=by
     grind
    have h:AZ (((((N / 2^o:Nat):Int)-sH)::A6 i ((N / 2^o:Nat):Int)).length+1)=ka:=Aw (by grind);have j:A6 i ((N / 2^o:Nat):Int)++[((N / 2^o:Nat):Int)]=A6 (i+1) ((N / 2^o:Nat):Int):=by grind[D6]
    simp only[Kv,h1,decide_false,cF,d,a,cT,h,A9,J0,j])
   (by
    have a:A3 ((((((N / 2^o:Nat):Int)-sH)::A6 (2^o-1) ((N / 2^o:Nat):Int)).length:Int)<((2^o:Nat):Int))=kb:=by
     simp_all
    simp only[Kv,h1,decide_false,cF,d,a])
  simp_all;have c:A3 (((N / 2^o:Nat):Int)<sH)=ka:=dE (Int.not_le.1 hw);simp_all[Vw];have k:(((N / 2^o*2^o:Nat):Int) != (N:Int))=ka:=by grind
  simp only[k,cT,oB,Vw,hm,false_and,if_false]
theorem Co(order n sH:Int):Ek (order,n,sH)=kc (Cm order n sH):=by
 unfold Ek Cm;simp only[a0x,oB];cases hr:MM n sH with
 |false=>rfl
 |true=>
  simp[MM]at hr;simp only[bT,cF,C2];by_cases h1:order<0;grind;by_cases h2:order > 8;grind;obtain⟨o,rfl⟩:=A8 (show 0<=order by omega);obtain⟨N,rfl⟩:=A8 (show 0<=n by omega);have l:o<=8:=by omega
  have t:N<=4096:=by omega
  have w:=c4h l;have j:(0:Int)<=(o:Int):=by omega
  have g8:(o:Int)<=8:=by omega
  have c:zB .u64 (o:Int)=(o:Int):=Av (by omega);have a:AO .i64 (1:Int) (o:Int)=((2^o:Nat):Int):=by have:=eQ (N:=1) (show o<=64 by omega) (by omega);simp_all
  have p:(((2^o:Nat):Int)==0)=kb:=by grind
  have m:G9 (N:Int) ((2^o:Nat):Int)=((N%2^o:Nat):Int):=by rfl
  simp only[h1,h2,j,g8,decide_true,decide_false,cF,cT,A7,c,a,p,m,eO (N:=N) (show o<=64 by omega),tN];by_cases hm:N%2^o=0;have g:(((0:Nat):Int) != 0)=kb:=rfl;by_cases hw:sH<=((N / 2^o:Nat):Int);have d:A3 (((N / 2^o:Nat):Int)<sH)=kb:=dF (Int.not_lt.2 hw);have r:zB .i64 (((N / 2^o:Nat):Int)-sH)=((N / 2^o:Nat):Int)-sH:=Al (by have:=D1 N (2^o);omega);simp only[g,d,cF,oB,Vw,hm,hw,and_self,if_true]
  have:=AD (f:=HU) (λi=>((o:Int),(N:Int),sH,(i:Int),A6 i ((N / 2^o:Nat):Int),())) (2^o)
   (b:=(sH,A6 (2^o) ((N / 2^o:Nat):Int),())) (λi u=>by
    have k:A3 ((i:Int)<((2^o:Nat):Int))=ka:=by grind
    have h:AZ ((A6 i ((N / 2^o:Nat):Int)).length+1)=ka:=Aw (by grind);have e:A6 i ((N / 2^o:Nat):Int)++[((N / 2^o:Nat):Int)]=A6 (i+1) ((N / 2^o:Nat):Int):=by grind[D6]
    simp only[HU,c,h1,decide_false,cF,a,k,cT,h,eO (N:=N) (show o<=64 by omega),A9,e,Aa (show i<1000000 by omega)])
   (by
    have k:A3 (((2^o:Nat):Int)<((2^o:Nat):Int))=kb:=by simp
    simp only[HU,c,h1,decide_false,cF,a,k])
  simp only[nZ,List.replicate_zero]at this;have v:A3 ((0:Int)<(((A6 (2^o) ((N / 2^o:Nat):Int)).length:Nat):Int))=ka:=by grind
  obtain⟨q,x⟩:∃q,2^o=q+1:=⟨2^o-1,by omega⟩;grind;have d:A3 (((N / 2^o:Nat):Int)<sH)=ka:=dE (Int.not_le.1 hw);simp_all[Vw];have g:(((N%2^o:Nat):Int) != 0)=ka:=by grind
  simp only[g,cT,oB,Vw,hm,false_and,if_false]
abbrev Xq:Type:=Int×((List Int)×Unit)
def kB(k:Int):Bool:=(A3 (0<=k)&&A3 (k<=25)) || (k==31)
def Hp(p:Xq)(n sH:Int):Bool:=!((Cm p.1 n sH).length==0)&&((Cm p.1 n sH).length==p.2.1.length&&p.2.1.all kB)
theorem Rd{p:Xq}{n sH:Int}(k:short p.2.1):Px (p,n,sH)=kc (Hp p n sH):=by
 have:=AY (f:=GW) p.2.1 (λi=>(p.2.1,(p.2.1.length:Int),(i:Int),())) kB (bt:=B7 ()) (bf:=C1 (kb,()))
  (λi h g=>by
   simp[kB]at g;by_cases h1:p.2.1[i]<0;omega;by_cases h2:p.2.1[i] > 25;have c:p.2.1[i]=31:=by omega
   have b:(p.2.1[i] != 31)=kb:=by simp_all
   simp[GW,Ac h,h,h1,h2,b,Aa (B6 h k)];simp[GW,Ac h,h,h1,h2,Aa (B6 h k)])
  (λi h g=>by
   have g:¬ (kB p.2.1[i]=ka):=by simp_all
   simp only[kB,H0,bA,dT,beq_iff_eq]at g;grind[GW,Ac])
  (by simp[GW])
 simp at this;unfold Px Hp;simp[DT];by_cases h0:(Cm p.1 n sH).length=0;simp_all
 ·have e:(((Cm p.1 n sH).length:Int)==0)=kb:=by simp_all
  have a:((Cm p.1 n sH).length==0)=kb:=by simp_all
  simp[e,a];by_cases h1:(Cm p.1 n sH).length=p.2.1.length;all_goals grind
theorem IE{p:Xq}{n sH:Int}(a:short p.2.1):IV (p,n,sH)=kc (Hp p n sH):=by
 have g:∀k:Int,DQ k=kc (A3 (0<=k)&&A3 (k<=25)):=λk=>by
  grind[DQ]
 have:=AY (f:=EM) p.2.1 (λi=>((i:Int),p,())) kB (bt:=B7 ()) (bf:=C1 (kb,()))
  (λi h b=>by
   simp only[kB,H0]at b;cases hc:(A3 (0<=p.2.1[i])&&A3 (p.2.1[i]<=25))with
   |true=>simp[EM,Ac h,h,g,hc,Aa (B6 h a)]
   |false=>
    have j:p.2.1[i]=31:=by simp_all
    have d:(p.2.1[i] != 31)=kb:=by simp_all
    simp[EM,Ac h,h,g,hc,d,Aa (B6 h a)])
  (λi h b=>by
   grind[kB,EM,Ac])
  (by simp[EM])
 simp at this;unfold IV Hp;simp[Co];by_cases h0:(Cm p.1 n sH).length=0;simp_all
 ·have e:(((Cm p.1 n sH).length:Int)==0)=kb:=by simp_all
  have c:((Cm p.1 n sH).length==0)=kb:=by simp_all
  simp[e,c];by_cases h1:(Cm p.1 n sH).length=p.2.1.length;all_goals grind
abbrev BN:Type:=Int×(Int×(Int×(Int×(Int×((List Int)×((List Int)×((List Si)×((List Int)×(Xq×((List Int)×Unit))))))))))
structure sO (s:BN):Prop where
 uV:s.2.2.2.2.2.1.length<=40
 taps:s.2.2.2.2.2.2.1.length=3
 stages:s.2.2.2.2.2.2.2.1.length<=6
 sH:s.2.2.2.2.2.2.2.2.1.length<=5000
 rest:s.2.2.2.2.2.2.2.2.2.2.1.length<=5000
 ks:s.2.2.2.2.2.2.2.2.2.1.2.1.length<=300
theorem Uk(x y:LI):gE (.arr 3 (.int .i64)) x y=A3 (x=y):=by(show((C8 (λ(a b:Int)=>a==b) x y).all id&&x.length==y.length)=_);induction x generalizing y with|nil=>(cases y<;>simp)|cons a x h=>cases y with|nil=>simp|cons b y=>grind[List.zipWith_cons_cons]
theorem bD{l:LI}(h:short l):EW l=kc l:=PG h
theorem lJ{l:List Si}(h:short l):Bu l=kc l:=by have g:AZ (0+l.length)=ka:=Aw (by unfold short at h;omega);simp_all[Bu,ZQ]
def LG(k:Int)(s:BN)(n:Int):Prop:=k=0\/k=1\/(k=2/\0<=s.2.2.1/\s.2.2.1<=4/\s.2.2.1<=n)\/(k=3/\Sc s.2.2.2.2.2.1 s.2.2.2.1=ka/\(s.2.2.2.2.2.1.length:Int)<=n)\/(k=4/\Sc s.2.2.2.2.2.1 s.2.2.2.1=ka/\(s.2.2.2.2.2.1.length:Int)<=n/\Qw s.2.2.2.2.1 s.2.2.2.2.2.2.1=ka)\/(k=5/\0<s.2.2.2.2.2.2.2.1.length/\KY s.2.2.2.2.2.2.2.1=ka)
open Classical in
def a2Y (k:Int) (s:BN) (n:Int):Bool:=decide (LG k s n)
theorem a0y{s:BN}(h:sO s)(k n:Int):TU (k,s,n)=kc (a2Y k s n):=by
 have a:short s.2.2.2.2.2.1:=by have:=h.uV;unfold short;omega
 have b:short s.2.2.2.2.2.2.2.1:=by have:=h.stages;unfold short;omega
 unfold TU a2Y LG;by_cases k0:k=0;simp_all;by_cases k1:k=1;simp_all;have g:(k==0)=kb:=by grind
 have f:(k==1)=kb:=by grind
 simp only[g,f,zQ];by_cases k2:k=2;subst k2;grind;by_cases k3:k=3;subst k3;grind[Pg];by_cases k4:k=4;subst k4;cases hl:Sc s.2.2.2.2.2.1 s.2.2.2.1<;>by_cases h2:(s.2.2.2.2.2.1.length:Int)<=n<;>simp[Pg a,Xm h.taps,hl,h2];by_cases k5:k=5
 ·subst k5;by_cases h1:0<s.2.2.2.2.2.2.2.1.length;all_goals simp_all[Vr]
 grind
def BO(s:BN)(n:Int):Int:=if s.1=0 then 1 else if s.1=1 then n else if s.1=2 then s.2.2.1 else if s.1=3\/s.1=4 then(s.2.2.2.2.2.1.length:Int)else 0
theorem Ys(s:BN)(n:Int):Nc (s,n)=kc (BO s n):=by grind[Nc,BO]
def Xr(s:BN):Prop:=(s.1≠2->s.2.2.1=0)/\(s.1≠3/\s.1≠4->s.2.2.2.1=0)/\(s.1≠4->s.2.2.2.2.1=0)/\(s.1≠4->s.2.2.2.2.2.2.1=[0,0,0])/\(s.1≠3/\s.1≠4->s.2.2.2.2.2.1=[])/\(s.1≠5->s.2.2.2.2.2.2.2.1=[])
open Classical in
def iR (s:BN):Bool:=decide (Xr s)
theorem Sj{c x:Bool}:(bif c then kc x else kc kb)=kc (c&&x):=by grind
theorem c8I{α:Type}(l:List α):((l.length:Int)==0)=A3 (l=[]):=by cases l with|nil=>rfl|cons a l=>rfl
theorem b5p(x:Int):(x==0)=A3 (x=0):=rfl
theorem a8T{s:BN}(h:sO s):SJ s=kc (iR s):=by
 have e:short s.2.2.2.2.2.1:=by have:=h.uV;unfold short;omega
 have g:short s.2.2.2.2.2.2.2.1:=by have:=h.stages;unfold short;omega
 obtain⟨k,w,o,l,j,c,t,m,n,p,r,u⟩:=s;simp only at e g;unfold SJ Kt iR Xr;have i:(A6 3 (0:Int))=[0,0,0]:=rfl;by_cases k2:k=2;simp_all[Uk,Sj,b5p];by_cases k4:k=4;simp_all[Uk,Sj,b5p,bD];by_cases k3:k=3;simp_all[Uk,Sj,b5p,bD];by_cases k5:k=5;simp_all[Uk,Sj,b5p,lJ];have f:(k==2)=kb:=by grind
 have a:(k==3)=kb:=by grind
 have b:(k==4)=kb:=by grind
 have d:(k==5)=kb:=by grind
 simp[f,a,b,d,k2,k3,k4,k5,Uk,i,Sj,c8I,b5p]
theorem OE(k:Int):Nh k=kc (A3 (k≠0/\k≠1)):=by
 unfold Nh;by_cases h0:k=0;simp_all
 ·by_cases h1:k=1;all_goals grind
def BW(s:BN)(n:Int):Prop:=1<=n/\n<=4096/\LG s.1 s n/\Xr s/\0<=s.2.1/\s.2.1<=30/\(s.1=0->s.2.1=0)/\(s.2.2.2.2.2.2.2.2.1.length:Int)=BO s n/\s.2.2.2.2.2.2.2.2.1.all Ae=ka/\s.2.2.2.2.2.2.2.2.2.2.1.all Ae=ka/\(s.1=0\/s.1=1->s.2.2.2.2.2.2.2.2.2.2.1=[]/\s.2.2.2.2.2.2.2.2.2.1.1=0/\s.2.2.2.2.2.2.2.2.2.1.2.1=[])/\(s.1≠0/\s.1≠1->(s.2.2.2.2.2.2.2.2.2.2.1.length:Int)=n-BO s n/\Hp s.2.2.2.2.2.2.2.2.2.1 n (BO s n)=ka)
theorem Xs{s:BN}(h:sO s){n:Int}(a:1<=n)(b:n<=4096)(f:LG s.1 s n):0<=BO s n/\BO s n<=4096:=by have c:=h.uV;unfold BO;rcases f with k|k|⟨k,g⟩|⟨k,g⟩|⟨k,g⟩|⟨k,g⟩<;>simp[k]<;>omega
open Classical in
theorem b5q {s:BN} (h:sO s) (n:Int):QJ (s,n)=kc (decide (BW s n)):=by
 have hw:short s.2.2.2.2.2.2.2.2.1:=by have:=h.sH;unfold short;omega
 have hr:short s.2.2.2.2.2.2.2.2.2.2.1:=by have:=h.rest;unfold short;omega
 have hk:short s.2.2.2.2.2.2.2.2.2.1.2.1:=by have:=h.ks;unfold short;omega
 unfold QJ
 by_cases h1:1<=n
 rotate_left
 ·have e1:decide (n<1)=ka:=by simp_all
  have:¬ BW s n:=λhp=>h1 hp.1
  simp_all
 have e1:decide (n<1)=kb:=by simp_all
 by_cases h2:n<=4096
 rotate_left
 ·have e2:decide (n > 4096)=ka:=by simp_all
  have:¬ BW s n:=λhp=>h2 hp.2.1
  simp_all
 have e2:decide (n > 4096)=kb:=by simp_all
 by_cases h3:LG s.1 s n
 rotate_left
 ·have e3:a2Y s.1 s n=kb:=by simp[a2Y,h3]
  have:¬ BW s n:=λhp=>h3 hp.2.2.1
  simp_all[a0y]
 have e3:a2Y s.1 s n=ka:=by simp[a2Y,h3]
 by_cases h4:Xr s
 rotate_left
 ·have e4:iR s=kb:=by simp[iR,h4]
  have:¬ BW s n:=λhp=>h4 hp.2.2.2.1
  simp_all[a0y,a8T]
 have e4:iR s=ka:=by simp[iR,h4]
 simp only[e1,e2,a0y h,e3,a8T h,e4,cF,bT,oB]
 by_cases h5:0<=s.2.1
 rotate_left
 ·have e5:decide (s.2.1<0)=ka:=by simp_all
  have:¬ BW s n:=λhp=>h5 hp.2.2.2.2.1
  simp_all
 have e5:decide (s.2.1<0)=kb:=by simp_all
 by_cases h6:s.2.1<=30
 rotate_left
 ·have e6:decide (s.2.1 > 30)=ka:=by simp_all
  have:¬ BW s n:=λhp=>h6 hp.2.2.2.2.2.1
  simp_all
 have e6:decide (s.2.1 > 30)=kb:=by simp_all
 simp only[e5,e6,cF]
 by_cases h7:s.1=0->s.2.1=0
 rotate_left
 ·have h7a:s.1=0:=Classical.byContradiction λhc=>h7 λe=>absurd e hc
  have h7b:(s.2.1 != 0)=ka:=by
   simp_all
  have e7:(s.1==0)=ka:=by simp_all
  have:¬ BW s n:=λhp=>h7 hp.2.2.2.2.2.2.1
  grind
 have e7:(bif s.1==0 then kc (n,(s.2.1 != 0,(s,())))else kc (n,(kb,(s,()))))=kc (n,(kb,(s,()))):=by
  grind
 simp only[e7,oB,cF,Ys]
 by_cases h8:(s.2.2.2.2.2.2.2.2.1.length:Int)=BO s n
 rotate_left
 ·have e8:(((s.2.2.2.2.2.2.2.2.1.length:Nat):Int) != BO s n)=ka:=by simp_all
  have:¬ BW s n:=λhp=>h8 hp.2.2.2.2.2.2.2.1
  grind
 have e8:(((s.2.2.2.2.2.2.2.2.1.length:Nat):Int) != BO s n)=kb:=by simp_all
 simp only[e8,cF,Fi hw,Fi hr,oB]
 cases h9:s.2.2.2.2.2.2.2.2.1.all Ae with
 |false=>
  have:¬ BW s n:=λhp=>by rw[hp.2.2.2.2.2.2.2.2.1]at h9;grind
  simp_all
 |true=>
  cases h10:s.2.2.2.2.2.2.2.2.2.2.1.all Ae with
  |false=>
   have:¬ BW s n:=λhp=>by rw[hp.2.2.2.2.2.2.2.2.2.1]at h10;grind
   simp_all
  |true=>
   simp only[bT,cF,oB,OE]
   have hwr:=Xs h h1 h2 h3
   by_cases k01:s.1≠0/\s.1≠1
   ·have e11:zB .i64 (n-BO s n)=n-BO s n:=Al (by omega)
    simp[k01,e11,Rd hk]
    by_cases h11:(s.2.2.2.2.2.2.2.2.2.2.1.length:Int)=n-BO s n
    ·have e12:(((s.2.2.2.2.2.2.2.2.2.2.1.length:Nat):Int)==n-BO s n)=ka:=by simp_all
     simp only[e12,cT]
     congr 1
     rw[H1,dT]
     constructor
     ·intro hp
      exact⟨h1,h2,h3,h4,h5,h6,h7,h8,h9,h10,λhc=>absurd hc (by omega),λ_=>⟨h11,hp⟩⟩
     ·intro hp;exact(hp.2.2.2.2.2.2.2.2.2.2.2 k01).2
    ·have e12:(((s.2.2.2.2.2.2.2.2.2.2.1.length:Nat):Int)==n-BO s n)=kb:=by simp_all
     have:¬ BW s n:=λhp=>h11 (hp.2.2.2.2.2.2.2.2.2.2.2 k01).1
     grind
   ·have k01':s.1=0\/s.1=1:=by omega
    simp[k01,c8I]
    simp only[b5p,Sj]
    congr 1
    rw[H1,dT]
    simp
    constructor
    ·rintro⟨g1,g2,g3⟩
     exact⟨h1,h2,h3,h4,h5,h6,h7,h8,h9,h10,λ_=>⟨g1,g2,g3⟩,λhc=>absurd hc k01⟩
    ·intro hp;exact hp.2.2.2.2.2.2.2.2.2.2.1 k01'
theorem bE{α:Type}[DecidableEq α](q:α->α->Bool)(hq:∀a b,q a b=A3 (a=b)):∀(x y:List α),x.length=y.length->((x.zip y).all λp=>q p.1 p.2)=A3 (x=y)|[],[],_=>by simp|a::x,b::y,h=>by have g:=bE q hq x y (by simp_all);simp_all
theorem Td{x y:LI}(h:short x):DD (x,y)=kc (A3 (x=y)):=by
 unfold DD;by_cases hl:x.length=y.length;have e:(((x.length:Nat):Int) != ((y.length:Nat):Int))=kb:=by simp_all
 have m:(x.zip y).length=x.length:=by simp_all
 have:=AY (f:=Hc) (x.zip y) (λi=>(x,y,(i:Int),())) (λp=>p.1==p.2) (bt:=B7 ()) (bf:=C1 (kb,()))
  (λi j c=>by
   have k:i<x.length:=by omega
   have d:i<y.length:=by omega
   rw[E9]at c;have c:x[i]=y[i]:=by simp_all
   have g:(x[i] != y[i])=kb:=by simp_all
   simp only[Hc,Bp k,cT,Ac k,Ac d,oB,g,cF,Aa (B6 k h)])
  (λi j c=>by
   have k:i<x.length:=by omega
   have d:i<y.length:=by omega
   rw[E9]at c;have g:(x[i] != y[i])=ka:=by simp_all
   simp only[Hc,Bp k,cT,Ac k,Ac d,oB,g])
  (by simp_all[Hc])
 simp at this;simp only[e,cF,this,bE (λ(a b:Int)=>a==b) (λ_ _=>rfl) x y hl];grind;have e:(((x.length:Nat):Int) != ((y.length:Nat):Int))=ka:=by grind
 have:¬ x=y:=λl=>hl (by grind)
 grind
theorem a2Z{x y:List Si}(h:short x):KI (x,y)=kc (A3 (x=y)):=by
 have k:∀a b:Si,gE (.pair (.int .i64) (.pair (.int .i64) .unit)) a b=A3 (a=b):=by
  rintro⟨a1,a2,⟨⟩⟩ ⟨b1,b2,⟨⟩⟩;show((a1==b1)&&((a2==b2)&&ka))=_;grind
 unfold KI;by_cases hl:x.length=y.length;have e:(((x.length:Nat):Int) != ((y.length:Nat):Int))=kb:=by simp_all
 have m:(x.zip y).length=x.length:=by simp_all
 have:=AY (f:=Et) (x.zip y) (λi=>(x,y,(i:Int),())) (λp=>A3 (p.1=p.2)) (bt:=B7 ()) (bf:=C1 (kb,()))
  (λi j c=>by
   have g:i<x.length:=by omega
   have d:i<y.length:=by omega
   rw[E9]at c;simp only[Et,Bp g,cT,Ac g,Ac d,oB,k,c,bT,cF,Aa (B6 g h)])
  (λi j c=>by
   have g:i<x.length:=by omega
   have d:i<y.length:=by omega
   rw[E9]at c;simp only[Et,Bp g,cT,Ac g,Ac d,oB,k,c,C6])
  (by simp_all[Et])
 simp at this;simp only[e,cF,this,bE (λ(a b:Si)=>A3 (a=b)) (λ_ _=>rfl) x y hl];grind;have e:(((x.length:Nat):Int) != ((y.length:Nat):Int))=ka:=by grind
 have:¬ x=y:=λl=>hl (by grind)
 grind
open Classical in
theorem a0z {a b:BN} (h:sO a):LC (a,b)=kc (decide (a=b)):=by
 have hc:short a.2.2.2.2.2.1:=by have:=h.uV;unfold short;omega
 have hst:short a.2.2.2.2.2.2.2.1:=by have:=h.stages;unfold short;omega
 have hw:short a.2.2.2.2.2.2.2.2.1:=by have:=h.sH;unfold short;omega
 have hr:short a.2.2.2.2.2.2.2.2.2.2.1:=by have:=h.rest;unfold short;omega
 have hk:short a.2.2.2.2.2.2.2.2.2.1.2.1:=by have:=h.ks;unfold short;omega
 unfold LC Sa;simp only[Td hc,Td hw,Td hr,Td hk,a2Z hst,Uk,oB,Sj];congr 1;grind
def bF(s:BN):BN:=
 let z:List Int:=A6 3 0
 if s.1=0 then(0,0,0,0,0,[],z,[],s.2.2.2.2.2.2.2.2.1,(0,[],()),[],())
 else if s.1=1 then(1,s.2.1,0,0,0,[],z,[],s.2.2.2.2.2.2.2.2.1,(0,[],()),[],())
 else if s.1=2 then(2,s.2.1,s.2.2.1,0,0,[],z,[],s.2.2.2.2.2.2.2.2.1,s.2.2.2.2.2.2.2.2.2.1,s.2.2.2.2.2.2.2.2.2.2.1,())
 else if s.1=3 then(3,s.2.1,0,s.2.2.2.1,0,s.2.2.2.2.2.1,z,[],s.2.2.2.2.2.2.2.2.1,s.2.2.2.2.2.2.2.2.2.1,s.2.2.2.2.2.2.2.2.2.2.1,())
 else if s.1=4 then(4,s.2.1,0,s.2.2.2.1,s.2.2.2.2.1,s.2.2.2.2.2.1,s.2.2.2.2.2.2.1,[],s.2.2.2.2.2.2.2.2.1,s.2.2.2.2.2.2.2.2.2.1,s.2.2.2.2.2.2.2.2.2.2.1,())
 else if s.1=5 then(5,s.2.1,0,0,0,[],z,s.2.2.2.2.2.2.2.1,[],s.2.2.2.2.2.2.2.2.2.1,s.2.2.2.2.2.2.2.2.2.2.1,())
 else(s.1,s.2.1,0,0,0,[],z,[],s.2.2.2.2.2.2.2.2.1,s.2.2.2.2.2.2.2.2.2.1,s.2.2.2.2.2.2.2.2.2.2.1,())
theorem b8s(s:BN):SY s=kc (bF s):=by obtain⟨k,w,o,g,h,c,t,f,a,p,r,u⟩:=s;unfold SY bF;grind
open Classical in
def TD (s:BN) (n:Int):Int:=if LG s.1 s n then BO s n else -1
theorem a0A{s:BN}(h:sO s)(n:Int):PE (s,n)=kc (TD s n):=by
 have f:short s.2.2.2.2.2.1:=by have:=h.uV;unfold short;omega
 have g:short s.2.2.2.2.2.2.2.1:=by have:=h.stages;unfold short;omega
 have a:=h.taps;obtain⟨k,w,o,d,b,c,t,e,i,p,r,u⟩:=s;simp only at f g a;unfold PE TD BO LG;by_cases k0:k=0;simp_all;by_cases k1:k=1;simp_all;by_cases k2:k=2;grind;by_cases k3:k=3;grind[Ho];by_cases k4:k=4;grind[Ho,Sd];grind[Qf]
theorem JY(k:Int):Gl k=kc (A3 (2<=k/\k<=5)):=by grind[Gl]
def c1b(s:BN)(n:Int):Prop:=1<=n/\n<=4096/\0<=s.1/\s.1<=5/\s=bF s/\0<=s.2.1/\s.2.1<=30/\LG s.1 s n/\(s.2.2.2.2.2.2.2.2.1.length:Int)=BO s n/\s.2.2.2.2.2.2.2.2.1.all Ae=ka/\s.2.2.2.2.2.2.2.2.2.2.1.all Ae=ka/\(2<=s.1/\s.1<=5->(s.2.2.2.2.2.2.2.2.2.2.1.length:Int)=n-BO s n/\Hp s.2.2.2.2.2.2.2.2.2.1 n (BO s n)=ka)
theorem Yt{k:Int}{s:BN}{n:Int}(h:LG k s n):k=0\/k=1\/k=2\/k=3\/k=4\/k=5:=by unfold LG at h;omega
theorem a8U(s:BN)(n:Int):BW s n↔c1b s n:=by(have f:LG s.1 s n->((Xr s/\(s.1=0->s.2.1=0)/\(s.2.2.2.2.2.2.2.2.1.length:Int)=BO s n/\(s.1=0\/s.1=1->s.2.2.2.2.2.2.2.2.2.2.1=[]/\s.2.2.2.2.2.2.2.2.2.1.1=0/\s.2.2.2.2.2.2.2.2.2.1.2.1=[]))↔(s=bF s/\(s.2.2.2.2.2.2.2.2.1.length:Int)=BO s n)):=by intro h;have g:(A6 3 (0:Int))=[0,0,0]:=rfl;obtain⟨k,w,o,sh,lag,c,t,st,wm,⟨po,ks,⟨⟩⟩,r,⟨⟩⟩:=s;rcases Yt h with k0|k0|k0|k0|k0|k0<;>simp only at k0<;>subst k0<;>simp[Xr,bF,BO,g]<;>(try constructor)<;>(try intros)<;>(try simp_all)<;>(try exact and_left_comm)<;>(grind));unfold BW c1b;grind[Yt]
def a8V(sH zC:List Int)(o:Int):Option (List Int):=bif sH.all Ae&&zC.all Ae then JV (Oe o.toNat) zC sH else kd
def uH(s:BN):Option (List Int):=
 if s.1=1 then Option.some s.2.2.2.2.2.2.2.2.1
 else if s.1=2 then a8V s.2.2.2.2.2.2.2.2.1 s.2.2.2.2.2.2.2.2.2.2.1 s.2.2.1
 else if s.1=3 then eH s.2.2.2.2.2.2.2.2.1 s.2.2.2.2.2.2.2.2.2.2.1 s.2.2.2.2.2.1 s.2.2.2.1
 else if s.1=4 then(eH s.2.2.2.2.2.2.2.2.1 s.2.2.2.2.2.2.2.2.2.2.1 s.2.2.2.2.2.1 s.2.2.2.1).bind λl=>Zf l s.2.2.2.2.1 s.2.2.2.2.2.2.1
 else TC s.2.2.2.2.2.2.2.2.2.2.1 s.2.2.2.2.2.2.2.1
def a8W(s:BN)(n:Int):Option (List Int):=if s.1=0 then kc (A6 n.toNat (s.2.2.2.2.2.2.2.2.1.getD 0 0))else(uH s).bind (a8P s.2.1)
theorem MK{w r c:LI}{s:Int}{l}(h:eH w r c s=kc l):l.length=w.length+r.length:=by unfold eH at h;cases hc:(w.all Ae&&r.all Ae)with|false=>simp_all|true=>rw[hc]at h;exact(Vs _ r w l (I5.1 hc).1 h).2
theorem lK{w r:LI}{o:Int}{l}(h:a8V w r o=kc l):l.length=w.length+r.length:=by unfold a8V at h;cases hc:(w.all Ae&&r.all Ae)with|false=>simp_all|true=>rw[hc]at h;exact(Vs _ r w l (I5.1 hc).1 h).2
theorem eR{r t:LI}{lag:Int}{l}(h:Zf r lag t=kc l):l.length=r.length:=by unfold Zf at h;cases hc:r.all Ae with|false=>simp_all|true=>rw[hc]at h;have:=(Vs _ r [] l rfl h).2;simp_all
theorem a4f:∀(st:List Si)(r:LI){l},lO st r=kc l->l.length=r.length|[],r,l,h=>by simp_all[lO]|s::st,r,l,h=>by simp only[lO]at h;split at h;rename_i f g;rw[a4f st f h,Vv _ _ _ g];simp;cases h
theorem Zj{r:LI}{st:List Si}{l}(h:TC r st=kc l):l.length=r.length:=by grind[TC,a4f]
theorem eS{s:BN}(h:sO s){l}(g:uH s=kc l):l.length<100000:=by have b:=h.sH;have a:=h.rest;unfold uH at g;split at g;grind;split at g;grind[lK];split at g;grind[MK];split at g;obtain⟨c,f,k⟩:=Option.bind_eq_some_iff.1 g;rw[eR k,MK f];omega;grind[Zj]
theorem b5r{s:BN}{n:Int}(c:1<=n)(d:n<=4096)(e:s.2.2.2.2.2.2.2.2.1.length=1):
  Ah Lv (n,(0:Int),([]:List Int),s,())=kc (A6 n.toNat (s.2.2.2.2.2.2.2.2.1.getD 0 0),()):=by
 obtain⟨N,rfl⟩:=A8 (show 0<=n by omega);have k:Aq s.2.2.2.2.2.2.2.2.1 (0:Int)=kc (s.2.2.2.2.2.2.2.2.1.getD 0 0):=eI (by omega) (by omega)
 have:=AD (f:=Lv) (λi=>((N:Int),(i:Int),A6 i (s.2.2.2.2.2.2.2.2.1.getD 0 0),s,())) N
  (b:=(A6 N (s.2.2.2.2.2.2.2.2.1.getD 0 0),())) (λi a=>by
   have h:AZ ((A6 i (s.2.2.2.2.2.2.2.2.1.getD 0 0)).length+1)=ka:=Aw (by grind);have g:A6 i (s.2.2.2.2.2.2.2.2.1.getD 0 0)++[s.2.2.2.2.2.2.2.2.1.getD 0 0]=A6 (i+1) (s.2.2.2.2.2.2.2.2.1.getD 0 0):=by grind[D6]
   simp only[Lv,Bp a,cT,k,oB,h,A9,g,Aa (show i<1000000 by omega)])
  (by simp[Lv])
 simp_all
theorem a3a{s:BN}{n:Int}(m:1<=n)(o:n<=4096)(q:s.2.2.2.2.2.2.2.2.1.length=1):
  Ah IA (n,(0:Int),A6 n.toNat (0:Int),s,())=kc (A6 n.toNat (s.2.2.2.2.2.2.2.2.1.getD 0 0),()):=by
 obtain⟨N,rfl⟩:=A8 (show 0<=n by omega);have j:Aq s.2.2.2.2.2.2.2.2.1 (0:Int)=kc (s.2.2.2.2.2.2.2.2.1.getD 0 0):=eI (by omega) (by omega);obtain⟨z,r⟩:∃z,A6 N (s.2.2.2.2.2.2.2.2.1.getD 0 0)=z:=⟨_,rfl⟩;have k:z.length=(A6 N (0:Int)).length:=by grind
 have d:(A6 N (0:Int)).length=N:=by simp
 have:=AD (f:=IA) (λi=>((N:Int),(i:Int),z.take i++(A6 N (0:Int)).drop i,s,())) N
  (b:=(z,())) (λi l=>by
   have h:i<(A6 N (0:Int)).length:=by omega
   have p:(z.take i++(A6 N (0:Int)).drop i).length=N:=by grind
   have e:A3 ((i:Int)<(((z.take i++(A6 N (0:Int)).drop i).length:Nat):Int))=ka:=by simp_all
   have c:A3 ((0:Int)<=(i:Int))=ka:=by simp
   have a:=a8Q h k;have g:z[i]'(by omega)=s.2.2.2.2.2.2.2.2.1.getD 0 0:=by grind
   rw[g]at a;simp only[IA,Bp l,cT,j,oB,c,e,A7,tN,a,Aa (show i<1000000 by omega)])
  (by
   simp_all[C7,IA])
 simp_all
theorem a8X{s:BN}(h:sO s){n:Int}(hp:BW s n)(z:s.1≠0):Vl s=kc (JW (uH s)):=by
 obtain⟨A,B,m,-,-,-,-,a,E,C,-⟩:=hp;have q:=h.rest;have v:=h.sH;have D:=h.taps;obtain⟨k,w,o,y,x,c,t,F,d,p,r,u⟩:=s;simp only at *;unfold Vl uH;rcases m with g|g|⟨g,f,b,e⟩|⟨g,f,b⟩|⟨g,f,b,e⟩|⟨g,f,b⟩;omega;subst g;rfl;subst g;obtain⟨O,rfl⟩:=A8 f;grind[BO,iO,a8V];grind[BO,Tc];subst g;simp only[BO]at a;have j:d.length=c.length:=by grind
 have i:=Tc (zC:=r) f j (by omega);simp only[show((4:Int)==2)=kb from rfl,show((4:Int)==3)=kb from rfl,show((4:Int)==4)=ka from rfl,zQ,i];cases hl:eH d r c y with|none=>rfl|some l=>grind[MK,oE,JW]
 grind[iQ]
theorem a8Y{s:BN}(h:sO s){n:Int}(hp:BW s n):Ve (s,n)=kc (JW (a8W s n)):=by
 have a:=λl (d:uH s=kc l)=>eS h d;obtain⟨A,B,D,-,x,v,-,g,N,M,-⟩:=hp;have G:=h.rest;have H:=h.sH;have I:=h.taps;have E:=b5r (s:=s) A B;obtain⟨k,w,o,z,K,c,t,L,f,p,r,u⟩:=s;simp only at *;have P:∀l,l.length<100000->Pz (l,w)=kc (JW (a8P w l)):=λl d=>a6o x v d;unfold Ve a8W;rcases D with b|b|⟨b,j,m,y⟩|⟨b,j,m⟩|⟨b,j,m,y⟩|⟨b,j,m⟩;grind[BO,JW];simp_all[uH]
 subst b;obtain⟨O,rfl⟩:=A8 j;have m:(O:Int)<=4:=m;simp only[BO]at g;have q:f.length=O:=by grind
 have i:=a2U (sH:=f) (zC:=r) (o:=O) (by omega) q (by omega);simp only[uH]at a|-;simp[i];have e:(bif f.all Ae&&r.all Ae then JV (Oe O) r f else kd)=a8V f r (O:Int):=rfl;rw[e];cases d:a8V f r (O:Int)with|none=>rfl|some l=>simp_all[JW]
 subst b;simp only[BO]at g;have q:f.length=c.length:=by grind
 have i:=Xn (zC:=r) j q (by omega);simp only[uH]at a|-;simp[i];cases d:eH f r c z with|none=>rfl|some l=>simp_all[JW]
 subst b;simp only[BO]at g;have q:f.length=c.length:=by grind
 have i:=Xn (zC:=r) j q (by omega);simp only[uH]at a|-;simp[i];cases d:eH f r c z with|none=>rfl|some l=>have F:=MK d;have C:=a6n (zC:=l) y I (by omega);simp[JW,C];grind[JW]
 subst b;have i:=a2X (zC:=r) m (by omega);simp only[uH]at a|-;simp[i];cases d:TC r L with|none=>rfl|some l=>simp_all[JW]
open Classical in
def EF (s:BN) (n:Int):Option (List Int):=if BW s n then a8W s n else kd
theorem a0B{s:BN}(h:sO s)(n:Int):TX (s,n)=kc (match EF s n with|some r=>(r,0)|none=>([],1)):=by unfold TX EF;simp only[b5q h,oB];by_cases hp:BW s n;simp[hp,a8Y h hp];grind[JW];simp_all
theorem b2b{s:BN}(h:sO s)(n:Int):Yl (s,n)=kc (EF s n).isSome:=by unfold Yl;simp only[a0B h,oB];cases EF s n<;>rfl
open Classical in
theorem Zk {s:BN} (h:sO s) (n:Int):NG (s,n)=kc (match EF s n with|some r=>(r,ka)|none=>([],kb)):=by
 have hw:short s.2.2.2.2.2.2.2.2.1:=by have:=h.sH;unfold short;omega
 have hr:short s.2.2.2.2.2.2.2.2.2.2.1:=by have:=h.rest;unfold short;omega
 have hk:short s.2.2.2.2.2.2.2.2.2.1.2.1:=by have:=h.ks;unfold short;omega
 have hiff:=a8U s n
 unfold NG
 have no:¬ c1b s n->EF s n=kd:=λhc=>by
  simp_all[EF]
 by_cases h1:1<=n
 rotate_left
 ·have e1:decide (n<1)=ka:=by simp_all
  rw[no λhp=>h1 hp.1]
  simp_all
 have e1:decide (n<1)=kb:=by simp_all
 by_cases h2:n<=4096
 rotate_left
 ·have e2:decide (n > 4096)=ka:=by simp_all
  rw[no λhp=>h2 hp.2.1]
  simp_all
 have e2:decide (n > 4096)=kb:=by simp_all
 by_cases h3:0<=s.1
 rotate_left
 ·have e3:decide (s.1<0)=ka:=by simp_all
  rw[no λhp=>h3 hp.2.2.1]
  simp_all
 have e3:decide (s.1<0)=kb:=by simp_all
 by_cases h4:s.1<=5
 rotate_left
 ·have e4:decide (s.1 > 5)=ka:=by simp_all
  rw[no λhp=>h4 hp.2.2.2.1]
  simp_all
 have e4:decide (s.1 > 5)=kb:=by simp_all
 simp only[e1,e2,e3,e4,cF,b8s,a0z h,oB]
 by_cases h5:s=bF s
 rotate_left
 ·rw[no λhp=>h5 hp.2.2.2.2.1]
  simp_all
 have e5:decide (s=bF s)=ka:=dE h5
 simp only[e5,bT,cF]
 by_cases h6:0<=s.2.1
 rotate_left
 ·have e6:decide (s.2.1<0)=ka:=by grind
  rw[no λhp=>h6 hp.2.2.2.2.2.1]
  grind
 have e6:decide (s.2.1<0)=kb:=by grind
 by_cases h7:s.2.1<=30
 rotate_left
 ·have e7:decide (s.2.1 > 30)=ka:=by grind
  rw[no λhp=>h7 hp.2.2.2.2.2.2.1]
  grind
 have e7:decide (s.2.1 > 30)=kb:=by grind
 simp only[e6,e7,cF,oB,a0A h]
 by_cases h8:LG s.1 s n
 rotate_left
 ·have e8:decide (TD s n<0)=ka:=by simp[TD,h8]
  rw[no λhp=>h8 hp.2.2.2.2.2.2.2.1]
  grind
 have hwr:=Xs h h1 h2 h8
 have e8':TD s n=BO s n:=by simp[TD,h8]
 have e8:decide (BO s n<0)=kb:=by grind
 simp only[e8',e8,cF]
 by_cases h9:(s.2.2.2.2.2.2.2.2.1.length:Int)=BO s n
 rotate_left
 ·have e9:(((s.2.2.2.2.2.2.2.2.1.length:Nat):Int) != BO s n)=ka:=by grind
  rw[no λhp=>h9 hp.2.2.2.2.2.2.2.2.1]
  grind
 have e9:(((s.2.2.2.2.2.2.2.2.1.length:Nat):Int) != BO s n)=kb:=by grind
 simp only[e9,cF,AC hw,AC hr,oB]
 cases h10:s.2.2.2.2.2.2.2.2.1.all Ae with
 |false=>
  rw[no λhp=>by rw[hp.2.2.2.2.2.2.2.2.2.1]at h10;grind]
  rfl
 |true=>
  cases h11:s.2.2.2.2.2.2.2.2.2.2.1.all Ae with
  |false=>
   rw[no λhp=>by rw[hp.2.2.2.2.2.2.2.2.2.2.1]at h11;grind]
   rfl
  |true=>
   simp only[bT,cF,oB,JY]
   have e11:zB .i64 (n-BO s n)=n-BO s n:=Al (by omega)
   by_cases h12:2<=s.1/\s.1<=5->(s.2.2.2.2.2.2.2.2.2.2.1.length:Int)=n-BO s n/\Hp s.2.2.2.2.2.2.2.2.2.1 n (BO s n)=ka
   rotate_left
   ·have hg:2<=s.1/\s.1<=5:=Classical.byContradiction λhc=>h12 λe=>absurd e hc
    have hn:¬ ((s.2.2.2.2.2.2.2.2.2.2.1.length:Int)=n-BO s n/\Hp s.2.2.2.2.2.2.2.2.2.1 n (BO s n)=ka):=λhc=>h12 λ_=>hc
    rw[no λhp=>h12 hp.2.2.2.2.2.2.2.2.2.2.2]
    simp only[hg,and_self,decide_true,cT,e11,Rd hk,IE hk,oB]
    grind
   have hrp:c1b s n:=⟨h1,h2,h3,h4,h5,h6,h7,h8,h9,h10,h11,h12⟩
   have hsp:=hiff.2 hrp
   have e12:(bif decide (2<=s.1/\s.1<=5)then bif (((s.2.2.2.2.2.2.2.2.2.2.1.length:Nat):Int) != zB .i64 (n-BO s n))then kc (n,(ka,(s,())))else(IV (s.2.2.2.2.2.2.2.2.2.1,(n,BO s n))).bind λy9=>kc (n,(!y9,(s,())))
     else kc (n,(kb,(s,()))))=kc (n,(kb,(s,()))):=by
    by_cases hg:2<=s.1/\s.1<=5
    ·obtain⟨g1,g2⟩:=h12 hg
     have e13:(((s.2.2.2.2.2.2.2.2.2.2.1.length:Nat):Int) != n-BO s n)=kb:=by grind
     simp only[hg,and_self,decide_true,cT,e11,e13,cF,IE hk,g2,oB,bT]
    grind
   simp only[e12,oB,cF]
   have hsub:EF s n=a8W s n:=by unfold EF;grind
   rw[hsub]
   unfold a8W
   by_cases k0:s.1=0
   ·have ek:(s.1==0)=ka:=by grind
    have hl1:s.2.2.2.2.2.2.2.2.1.length=1:=by
     have:=h9;unfold BO at this;omega
    have g1:decide ((0:Int)<=n)=ka:=by grind
    have g2:decide (n<=n)=ka:=by simp
    have g3:AZ n.toNat=ka:=Aw (by omega)
    simp only[ek,cT,g1,g2,g3,A7,a3a h1 h2 hl1,oB,k0,if_true]
    rfl
   ·have ek:(s.1==0)=kb:=by grind
    simp[ek,a8X h hsp k0,k0]
    cases hb:uH s with
    |none=>rfl
    |some l=>
     have hll:=eS h hb
     simp only[JW,b5m h6 h7 hll,oB]
     cases a8P s.2.1 l<;>simp[JW]
theorem a3b{s:BN}(h:sO s)(n:Int):QY (s,n)=kc (EF s n).isSome:=by grind[QY,Zk]
abbrev Wr:Type:=(List Int)×(Int×Unit)
def a8Z(w:Wr)(b:Int):Wr:=
 let bs:=if w.2.1%8=0 then w.1++[0]else w.1
 (bs.set (w.2.1 / 8).toNat (bits .u8 .or (bs.getD (w.2.1 / 8).toNat 0) (AO .u8 b (7-w.2.1%8))),w.2.1+1,())
def wL(L:List Int):Wr:=L.foldl a8Z ([],0,())
theorem eU(L:LI)(b:Int):wL (L++[b])=a8Z (wL L) b:=by simp[wL]
theorem a0C:∀(n:Nat)(L:LI),L.length=n->(wL L).2.1=L.length/\(wL L).1.length=(L.length+7) / 8|0,L,h=>by rw[G6.1 h];exact⟨rfl,rfl⟩|n+1,L,h=>by(obtain⟨g,b,rfl⟩:∃g b,L=g++[b]:=by rcases List.eq_nil_or_concat L with rfl|⟨g,b,e⟩;all_goals simp_all);obtain⟨f,k⟩:=a0C n g (by simp_all);rw[eU];simp only[a8Z,List.length_set,lN,List.length_singleton,f];grind
theorem NT(L:LI):(wL L).2.1=L.length/\(wL L).1.length=(L.length+7) / 8:=a0C _ L rfl
theorem a6s{L:LI}(l:L.length<1000000000)(b:Int):CR (wL L,b)=kc (wL (L++[b])):=by
 obtain⟨g,k⟩:=NT L;have p:G9 (L.length:Int) 8=(L.length:Int)%8:=F6 (by omega);have m:Int.tdiv (L.length:Int) 8=(L.length:Int) / 8:=E5 (by omega);have c:zB .i64 ((L.length:Int) / 8)=(L.length:Int) / 8:=Al (by omega);have d:zB .i64 (7-(L.length:Int)%8)=7-(L.length:Int)%8:=Al (by omega);have e:zB .i64 ((L.length:Int)+1)=(L.length:Int)+1:=Al (by omega);have i:A3 ((0:Int)<=(L.length:Int) / 8)=ka:=by rfl
 have j:A3 (7-(L.length:Int)%8<0)=kb:=by grind
 rw[eU];generalize wL L=wr at g k|-;obtain⟨f,n,u⟩:=wr;have g:n=(L.length:Int):=g;have k:f.length=(L.length+7) / 8:=k;subst g;unfold CR a8Z;by_cases h:(L.length:Int)%8=0;have hb:((L.length:Int)%8==0)=ka:=by grind
 have o:AZ (f.length+1)=ka:=AN (by omega);have a:A3 ((L.length:Int) / 8<((f++[0]).length:Int))=ka:=by grind
 simp_all;grind
def lL(v:Int)(i:Nat):Int:=zB .u8 (bits .u64 .and (Au .u64 v (i:Int)) 1)
def pb(v:Int):Nat->List Int|0=>[]|i+1=>lL v i::pb v i
theorem iS(v:Int):∀n,(pb v n).length=n|0=>rfl|n+1=>by simp[pb,iS v n]
def AJ(v:Int)(n:Nat)(L:List Int):List Int:=bif Au .u64 v (n:Int) != 0 then L else L++pb v n
theorem Az(v:Int)(n:Nat)(L:LI):L.length<=(AJ v n L).length/\(AJ v n L).length<=L.length+n:=by grind[AJ,iS]
def KN(v:Int)(n:Nat):Int:=bif Au .u64 v (n:Int) != 0 then 1 else 0
theorem a9a{v:Int}:∀(n:Nat)(L:LI),L.length+n<1000000000->Ah FK (v,(n:Int)-1,wL L,())=kc (wL (L++pb v n),())|0,L,_=>by simp_all[Ad,FK,pb]|n+1,L,h=>by(have e:((n+1:Nat):Int)-1=(n:Int):=by omega);(have g:zB .i64 ((n:Int)-1)=(n:Int)-1:=Al (by omega);have f:A3 ((n:Int)>=0)=ka:=by simp);(have k:A3 ((n:Int)<0)=kb:=by simp);rw[e,Ag (s':=(v,(n:Int)-1,wL (L++[lL v n]),())) (by simp only[FK,f,k,cT,cF,show zB .u8 (bits .u64 .and (Au .u64 v (n:Int)) 1)=lL v n from rfl,a6s (show L.length<1000000000 by omega),oB,g])];rw[a9a n (L++[lL v n]) (by simp;omega),pb];simp
theorem Ja{L:LI}{v:Int}{n:Nat}(a:n<=63)(k:L.length<999999000):Ap (wL L,v,(n:Int))=kc (KN v n,wL (AJ v n L)):=by(unfold Ap KN AJ;have g:A3 ((n:Int)<0)=kb:=by simp);(have f:A3 ((n:Int) > 64)=kb:=by grind);have h:zB .i64 ((n:Int)-1)=(n:Int)-1:=Al (by omega);simp[g,f];cases (Au .u64 v (n:Int) != 0)with|true=>rfl|false=>simp only[cF,h,a9a n L (by omega),oB]
theorem eV{v:Int}:∀(n:Nat)(L:LI),n<=64->L.length+n<1000000000->Ah HX (v,(n:Int)-1,(L,()),())=kc ((L++pb v n,()),())|0,L,_,_=>by simp_all[Ad,HX,pb]|n+1,L,h64,h=>by(have e:((n+1:Nat):Int)-1=(n:Int):=by omega);(have g:zB .i64 ((n:Int)-1)=(n:Int)-1:=Al (by omega);have f:zB .u64 (n:Int)=(n:Int):=Av (by omega);have k:A3 ((n:Int)>=0)=ka:=by simp);(have a:A3 ((n:Int)<0)=kb:=by simp);have b:AZ (L.length+1)=ka:=AN (by omega);rw[e,Ag (s':=(v,(n:Int)-1,(L++[lL v n],()),())) (by simp only[HX,k,a,f,b,cT,cF,show zB .u8 (bits .u64 .and (Au .u64 v (n:Int)) 1)=lL v n from rfl,A9,g])];rw[eV n (L++[lL v n]) (by omega) (by simp;omega),pb];simp
theorem Cc{L:LI}{v:Int}{n:Nat}(c:n<=63)(b:L.length<999999000):Ar ((L,()),v,(n:Int))=kc (KN v n,AJ v n L,()):=by
 unfold Ar KN AJ;have f:A3 ((n:Int)<0)=kb:=by simp
 have k:A3 ((n:Int) > 64)=kb:=by grind
 have a:A3 ((n:Int)<64)=ka:=by grind
 have h:zB .i64 ((n:Int)-1)=(n:Int)-1:=Al (by omega);have g:zB .u64 (n:Int)=(n:Int):=Av (by omega);simp[f,k,a,g];cases (Au .u64 v (n:Int) != 0)with|true=>rfl|false=>simp only[cF,h,eV n L (by omega) (by omega),oB]
def a2b(n:Nat)(L:List Int):List Int:=L++A6 n 0++[1]
theorem a9b{L:LI}{n:Nat}(d:n<=4096)(c:L.length<999990000):Da (wL L,(n:Int))=kc (0,wL (a2b n L)):=by
 unfold Da a2b;have g:A3 ((n:Int)<0)=kb:=by simp
 have k:A3 ((n:Int) > 4096)=kb:=by grind
 simp only[g,k,cF,oB]
 have:=AD (f:=EB) (λi=>((n:Int),(i:Int),wL (L++A6 i 0),())) n (b:=(wL (L++A6 n 0),())) (λi a=>by
   have h:L++A6 i (0:Int)++[0]=L++A6 (i+1) 0:=by simp_all[D6]
   simp only[EB,Bp a,cT,a6s (show(L++A6 i (0:Int)).length<1000000000 by grind),oB,h,Aa (show i<1000000 by omega)])
  (by simp[EB])
 grind[a6s]
theorem eW{L:LI}{n:Nat}(e:n<=4096)(d:L.length<999990000):Ed ((L,()),(n:Int))=kc (0,a2b n L,()):=by
 unfold Ed a2b;have k:A3 ((n:Int)<0)=kb:=by simp
 have a:A3 ((n:Int) > 4096)=kb:=by grind
 simp only[k,a,zQ]
 have:=AD (f:=FX) (λi=>((n:Int),(i:Int),(L++A6 i 0,()),())) n (b:=((L++A6 n 0,()),())) (λi c=>by
   have g:L++A6 i (0:Int)++[0]=L++A6 (i+1) 0:=by simp_all[D6]
   have h:AZ ((L++A6 i (0:Int)).length+1)=ka:=AN (by grind);simp only[FX,Bp c,cT,h,A9,g,Aa (show i<1000000 by omega)])
  (by simp[FX])
 have h:AZ ((L++A6 n (0:Int)).length+1)=ka:=AN (by grind);simp_all
theorem Mt(n:Nat)(L:LI):(a2b n L).length=L.length+n+1:=by simp[a2b];rfl
def Ga(x:Int)(n:Nat):Int:=bits .u64 .and (zB .u64 x) (zB .u64 ((AO .u64 1 (n:Int))-1))
def Dg(n:Nat)(l:List Int)(L:List Int):List Int:=l.foldl (λL x=>AJ (Ga x n) n L) L
theorem Gb(n:Nat):∀(l L:LI),L.length<=(Dg n l L).length/\(Dg n l L).length<=L.length+n*l.length|[],L=>by simp[Dg]|x::l,L=>by have h:=Az (Ga x n) n L;have g:=Gb n l (AJ (Ga x n) n L);have e:Dg n (x::l) L=Dg n l (AJ (Ga x n) n L):=rfl;rw[e,lC,J1,J2];omega
theorem Vx{L:LI}{x:Int}{n:Nat}(f:n<=63)(g:L.length<999999000):Ei (wL L,x,(n:Int))=kc (wL (AJ (Ga x n) n L)):=by(unfold Ei;have h:A3 ((n:Int)<0)=kb:=by simp);simp only[h,cF,show bits .u64 .and (zB .u64 x) (zB .u64 ((AO .u64 1 (n:Int))-1))=Ga x n from rfl,Ja f g,oB]
theorem KO{l L:LI}{n:Nat}(d:n<=63)(m:l.length<10000)(j:L.length<900000000):DR ((L,()),l,(n:Int))=kc (Dg n l L,()):=by(have a:zB .u64 (n:Int)=(n:Int):=Av (by omega);have b:A3 ((n:Int)<0)=kb:=by simp);(have f:∀(k i:Nat)(h:LI),i+k=l.length->h.length+64*k<999990000->Ah Jr (l,(n:Int),(i:Int),(h,()),())=kc ((Dg n (l.drop i) h,()),()):=by intro k;induction k with|zero=>(intro i h c _;obtain rfl:i=l.length:=by omega);simp_all[Ad,Jr,Dg]|succ k e=>(intro i h c hb;have g:i<l.length:=by omega);have o:=Az (Ga l[i] n) n h;rw[A4 g,Ag (s':=(l,(n:Int),((i+1:Nat):Int),(AJ (Ga l[i] n) n h,()),())) (by simp only[Jr,Bp g,cT,Ac g,oB,a,b,cF,show bits .u64 .and (zB .u64 l[i]) (zB .u64 ((AO .u64 1 (n:Int))-1))=Ga l[i] n from rfl,Cc d (show h.length<999999000 by omega),Aa (show i<1000000 by omega)])];exact e (i+1) _ (by omega) (by omega));have:=f l.length 0 L (by omega) (by omega);simp_all[DR]
def Bq(x w:Int):Bool:=A3 (1<=w)&&(A3 (w<=31)&&(A3 (AO .i64 (-1) (w-1)<=x)&&A3 (x<=zB .i64 (AO .i64 1 (w-1)-1))))
theorem NU{x:Int}{w:Nat}(a:w<=32):Cr (x,(w:Int))=kc (Bq x w):=by
 unfold Cr Bq Vc Tx;by_cases h1:1<=(w:Int);by_cases h2:(w:Int)<=31;have h:A3 ((w:Int)<1)=kb:=by simp_all
 have g:A3 ((w:Int) > 31)=kb:=by simp_all
 have e:zB .i64 ((w:Int)-1)=(w:Int)-1:=Al (by omega);have f:A3 ((w:Int)-1<0)=kb:=by simp_all
 have k:A3 ((w:Int)>=1)=ka:=by simp_all
 simp[h1,h2,h,g,f,e];grind;grind;grind
theorem Te{x:Int}{w:Nat}(b:w<=32):Hd (x,(w:Int))=kc (Bq x w):=by
 unfold Hd Bq sD iG;by_cases h1:1<=(w:Int);by_cases h2:(w:Int)<=31;have f:A3 ((w:Int)<1)=kb:=by simp_all
 have k:A3 ((w:Int) > 31)=kb:=by simp_all
 have e:zB .i64 ((w:Int)-1)=(w:Int)-1:=Al (by omega);have g:zB .u64 ((w:Int)-1)=(w:Int)-1:=Av (by omega);have a:A3 ((w:Int)-1<0)=kb:=by simp_all
 have h:A3 ((w:Int)>=1)=ka:=by simp_all
 simp only[h,h1,h2,f,k,a,e,g,decide_true,zQ,C2];grind;grind;grind
def Ee(x:Int):Nat->Nat->Nat|0,w=>w|k+1,w=>bif (x != 0)&&!Bq x w then Ee x k (w+1)else w
theorem eX(x:Int):∀(k w:Nat),Ee x k w<=w+k|0,w=>C5 _|k+1,w=>by simp[Ee];cases (x != 0)&&!Bq x w with|true=>have:=eX x k (w+1);grind|false=>simp
def Ax(l:List Int):Nat:=l.foldl (λw x=>Ee x (32-w) w) 0
theorem Zl:∀(l:LI)(w:Nat),w<=32->l.foldl (λw x=>Ee x (32-w) w) w<=32|[],w,h=>h|x::l,w,h=>Zl l _ (show Ee x (32-w) w<=32 by grind[eX])
theorem EO(l:LI):Ax l<=32:=Zl l 0 (by omega)
theorem a4g{x:Int}{l:LI}{n i:Int}:∀(k w:Nat),w+k=32->Ah DX ((w:Int),x,l,n,i,())=kc (((Ee x k w:Nat):Int),l,n,i,())|0,w,h=>by(obtain rfl:w=32:=by omega);simp_all[Ad,DX,Ee]|k+1,w,h=>by(have g:A3 ((w:Int)<32)=ka:=by grind);simp[Ee];cases hx:(x != 0)with|false=>simp_all[Ad,DX]|true=>cases hf:Bq x w with|true=>exact Ad (by simp only[DX,hx,g,NU (show w<=32 by omega),hf,oB,cT,cF,bT,J9])|false=>rw[Ag (s':=(((w+1:Nat):Int),x,l,n,i,())) (by simp only[DX,hx,g,NU (show w<=32 by omega),hf,oB,cT,C6,Aa (show w<1000000 by omega)])];exact a4g k (w+1) (by omega)
theorem IF{l:LI}(c:short l):EY l=kc ((Ax l:Nat):Int):=by
 have c:l.length<1000000:=c
 have:=Bi (f:=Jh) l (λi (w:Nat)=>((w:Int),l,(l.length:Int),(i:Int),())) (λw x=>(.inl (Ee x (32-w) w):Nat ⊕ (Int×Unit))) (λ_ w=>w<=32) (λw=>((w:Int),()))
  (λi h w e=>⟨λd k=>by
   simp at k;subst k;refine⟨?_,by grind[eX]⟩;simp only[Jh,Bp h,cT,Ac h,oB,a4g (32-w) w (by omega),Aa (show i<1000000 by omega)],λb hb=>(by grind)⟩)
  (λw _=>by simp[Jh]) (a:=0) (by omega)
 simp at this;unfold EY;rw[this];have g:∀(l:LI)(w:Nat),Gq (λw x=>(.inl (Ee x (32-w) w):Nat ⊕ (Int×Unit))) l w=.inl (l.foldl (λw x=>Ee x (32-w) w) w):=by
  intro l
  induction l with
  |nil=>intro w;rfl
  |cons x l j=>simp_all[Gq]
 rw[g];rfl
theorem Zm{l:LI}{i:Nat}(hi:i<l.length):∀(k w:Nat),w+k=32->Ah LB (l,(w:Int),(i:Int),())=kc (l,((Ee l[i] k w:Nat):Int),(i:Int),())|0,w,h=>by(obtain rfl:w=32:=by omega);rfl|k+1,w,h=>by(have g:A3 ((w:Int)<32)=ka:=by grind);simp[Ee];cases hx:(l[i] != 0)with|false=>simp_all[Ad,LB,Ac]|true=>cases hf:Bq l[i] w with|true=>exact Ad (by simp only[LB,Ac hi,hx,g,Te (show w<=32 by omega),hf,oB,cT,cF,bT,J9])|false=>rw[Ag (s':=(l,((w+1:Nat):Int),(i:Int),())) (by simp only[LB,Ac hi,hx,g,Te (show w<=32 by omega),hf,oB,cT,C6,Aa (show w<1000000 by omega)])];exact Zm hi k (w+1) (by omega)
theorem NV{l:LI}(c:short l):Mo l=kc ((Ax l:Nat):Int):=by
 have c:l.length<1000000:=c
 have:=Bi (f:=OV) l (λi (w:Nat)=>(l,(w:Int),(i:Int),())) (λw x=>(.inl (Ee x (32-w) w):Nat ⊕ (Int×Unit))) (λ_ w=>w<=32) (λw=>((w:Int),()))
  (λi h w e=>⟨λd k=>by
   simp at k;subst k;refine⟨?_,by grind[eX]⟩;simp only[OV,Bp h,cT,oB,Zm h (32-w) w (by omega),Aa (show i<1000000 by omega)],λb hb=>(by grind)⟩)
  (λw _=>by simp[OV]) (a:=0) (by omega)
 simp at this;unfold Mo;rw[this];have g:∀(l:LI)(w:Nat),Gq (λw x=>(.inl (Ee x (32-w) w):Nat ⊕ (Int×Unit))) l w=.inl (l.foldl (λw x=>Ee x (32-w) w) w):=by
  intro l
  induction l with
  |nil=>intro w;rfl
  |cons x l j=>simp_all[Gq]
 rw[g];rfl
theorem Re(x:Int):ME x=kc (Ae x):=by grind[ME,Ae]
def AU(x:Int):Nat:=if 0<=x then(2*x).toNat else(-2*x-1).toNat
theorem PH{x:Int}(h:Ae x=ka):AU x<2147483648:=by grind[Cp,AU]
theorem Rf{x:Int}(h:Ae x=ka):Py x=kc (AU x:Int):=by
 have f:=Cp.1 h;unfold Py AU;simp only[Re,h,zQ];by_cases h0:0<=x;have g:A3 (x>=0)=ka:=by simp_all
 simp only[g,cT,if_pos h0];grind[Al,Av];have g:A3 (x>=0)=kb:=by simp_all
 simp only[g,cF,if_neg h0];grind[Al,Av]
theorem b3D{y:Nat}(h:y<18446744073709551616):bits .u64 .xor (IntKind.max .u64) (y:Int)=((18446744073709551615-y:Nat):Int):=by(show zB .u64 (((B8 64 (IntKind.max .u64)) ^^^ (B8 64 (y:Int))).toNat:Int)=_;have g:B8 64 (IntKind.max .u64)=BitVec.allOnes 64:=by rfl);have f:B8 64 (y:Int)=BitVec.ofNat 64 y:=D7 64 y;rw[g,f,BitVec.allOnes_xor,BitVec.toNat_not,E1,E6 h];rw[Av (by omega)]
theorem Tf{x:Int}(h:Ae x=ka):Uc x=kc (AU x:Int):=by
 have k:=Cp.1 h;unfold Uc Ub AU;simp only[CE,h,zQ];have f:∀y:Int,AO .u64 y 1=zB .u64 (y*2):=λy=>rfl;by_cases h0:0<=x;have g:A3 (x<0)=kb:=by simp_all
 simp only[g,zQ,if_pos h0,f];grind[Av];have g:A3 (x<0)=ka:=by simp_all
 simp only[g,zQ,if_neg h0,f];grind[zB,IntKind.bits,IntKind.signed,b3D]
theorem Ef{N o:Nat}(h:o<=64):Au .u64 (N:Int) (o:Int)=((N / 2^o:Nat):Int):=eO h
theorem a4h{N o:Nat}(h:o<=64)(g:N*2^o<9223372036854775808):AO .u64 (N:Int) (o:Int)=((N*2^o:Nat):Int):=by unfold AO;show zB .u64 ((N:Int)*2^(min (o:Int).toNat 64))=_;grind[Av]
theorem Ul{y k:Nat}(c:y<18446744073709551616)(f:k<=62):bits .u64 .and (y:Int) (zB .u64 (AO .u64 1 (k:Int)-1))=((y%2^k:Nat):Int):=by
 have d:2^k<=2^62:=D8 (by simp) f;have a:1<=2^k:=I7;have b:(2:Nat)^62=4611686018427387904:=by rfl
 have h:AO .u64 1 (k:Int)=((2^k:Nat):Int):=by have:=a4h (N:=1) (o:=k) (by omega) (by omega);simp_all
 have g:zB .u64 (((2^k:Nat):Int)-1)=((2^k-1:Nat):Int):=by grind[Av]
 rw[h,g];show zB .u64 (((B8 64 (y:Int)) &&& (B8 64 ((2^k-1:Nat):Int))).toNat:Int)=_;rw[D7,D7,J3,E1,E1,E6 c,E6 (by omega),Nat.and_two_pow_sub_one_eq_mod]
 have:y%2^k<2^k:=J8 _ (by omega);exact Av (by omega)
theorem PI{q:Nat}(h:q<2147483648):zB .i64 (q:Int)=(q:Int):=Al (by omega)
def Oi(k:Nat)(x:Int)(L:List Int):List Int:=if AU x / 2^k<32 then AJ ((AU x%2^k:Nat):Int) k (a2b (AU x / 2^k) L)else AJ ((AU x:Nat):Int) 32 (a2b 32 L)
def Jb(k:Nat)(l:List Int)(L:List Int):List Int:=l.foldl (λL x=>Oi k x L) L
theorem Vy{k:Nat}(h:k<=25)(x:Int)(L:LI):L.length<=(Oi k x L).length/\(Oi k x L).length<=L.length+100:=by grind[Oi,Az,Mt]
theorem Zn{k:Nat}(h:k<=25):∀(l L:LI),L.length<=(Jb k l L).length/\(Jb k l L).length<=L.length+100*l.length|[],L=>by simp[Jb]|x::l,L=>by have g:=Vy h x L;have f:=Zn h l (Oi k x L);have e:Jb k (x::l) L=Jb k l (Oi k x L):=rfl;grind
theorem NW{k:Nat}(h:k<=25):GX (k:Int)=kc ka:=by unfold GX;grind
theorem OF{k:Nat}(h:k<=25):DQ (k:Int)=kc ka:=by unfold DQ;grind
theorem a9c{k:Nat}{l L:LI}(A:k<=25)(H:l.length<10000)(w:l.all Ae=ka)(G:L.length<900000000):Vf (wL L,(k:Int),l)=kc (0,wL (Jb k l L)):=by
 have E:=AY (f:=OQ) l (λi=>((k:Int),l,l,(l.length:Int),(i:Int),wL L,())) (λ_=>ka) (bt:=B7 ((k:Int),l,wL L,())) (bf:=B7 ((k:Int),l,wL L,()))
  (λi h _=>by
   have:=lA.1 w _ (B3 h)
   simp only[OQ,Bp h,cT,Ac h,oB,Re,this,bT,cF,Aa (show i<1000000 by omega)])
  (λi h m=>by simp_all) (by simp[OQ])
 have q:∀(j i:Nat)(g:LI),i+j=l.length->g.length+100*j<999990000->Ah Lw ((k:Int),l,(l.length:Int),(i:Int),wL g,())=kc (wL (Jb k (l.drop i) g),()):=by
  intro j
  induction j with
  |zero=>
   intro i g z _;obtain rfl:i=l.length:=by omega
   simp_all[Ad,Lw,Jb]
  |succ j D=>
   intro i g z hb;have a:i<l.length:=by omega
   have c:=lA.1 w _ (B3 a);have C:=PH c;have B:=Vy A l[i] g;have e:A3 ((k:Int)<0)=kb:=by simp
   have r:Au .u64 ((AU l[i]:Nat):Int) (k:Int)=((AU l[i] / 2^k:Nat):Int):=Ef (by omega);have p:=D1 (AU l[i]) (2^k);have t:=G8 (AU l[i]) (2^k);have d:AO .u64 ((AU l[i] / 2^k:Nat):Int) (k:Int)=((AU l[i] / 2^k*2^k:Nat):Int):=a4h (by omega) (by grind);have x:zB .u64 (((AU l[i]:Nat):Int)-((AU l[i] / 2^k*2^k:Nat):Int))=((AU l[i]%2^k:Nat):Int):=by
    rw[G5 (AU l[i] / 2^k)];grind[Av]
   have y:zB .i64 ((AU l[i] / 2^k:Nat):Int)=((AU l[i] / 2^k:Nat):Int):=PI (D4 p C);rw[A4 a,Ag (s':=((k:Int),l,(l.length:Int),((i+1:Nat):Int),wL (Oi k l[i] g),())) (by
    by_cases hq:AU l[i] / 2^k<32;have o:A3 (((AU l[i] / 2^k:Nat):Int)<32)=ka:=dE (by omega);have u:(a2b (AU l[i] / 2^k) g).length<999999000:=by
     rw[Mt];omega
    have b:=a9b (L:=g) (n:=AU l[i] / 2^k) (E3 (B6 hq (by simp))) (by omega);have m:=Ja (L:=a2b (AU l[i] / 2^k) g) (v:=((AU l[i]%2^k:Nat):Int)) (n:=k) (by omega) u;simp only[Lw,Bp a,cT,Ac a,oB,Rf c,e,cF,r,o,y,b,d,x,m,Oi,if_pos hq,Aa (show i<1000000 by omega)];have o:A3 (((AU l[i] / 2^k:Nat):Int)<32)=kb:=dF (by omega);have u:=Mt 32 g;have b:Da (wL g,(32:Int))=kc (0,wL (a2b 32 g)):=a9b (L:=g) (n:=32) (by omega) (by omega);have m:Ap (wL (a2b 32 g),((AU l[i]:Nat):Int),(32:Int))=kc (KN ((AU l[i]:Nat):Int) 32,wL (AJ ((AU l[i]:Nat):Int) 32 (a2b 32 g))):=Ja (L:=a2b 32 g) (v:=((AU l[i]:Nat):Int)) (n:=32) (by omega) (by omega);simp only[Lw,Bp a,cT,Ac a,oB,Rf c,e,cF,r,o,b,m,Oi,if_neg hq,Aa (show i<1000000 by omega)])]
   exact D (i+1) _ (by omega) (by omega)
 have F:=q l.length 0 L (by omega) (by omega);simp_all[Vf,NW]
theorem a0D{k:Nat}{l L:LI}(t:k<=25)(F:l.length<10000)(w:l.all Ae=ka)(E:L.length<900000000):QZ ((L,()),(k:Int),l)=kc (0,Jb k l L,()):=by(have p:zB .u64 (k:Int)=(k:Int):=Av (by omega);have m:∀(j i:Nat)(h:LI),i+j=l.length->h.length+100*j<999990000->Ah IC ((k:Int),l,(i:Int),(h,()),())=kc ((Jb k (l.drop i) h,()),()):=by intro j;induction j with|zero=>(intro i h z _;obtain rfl:i=l.length:=by omega);simp_all[Ad,IC,Jb]|succ j D=>(intro i h z hb;have g:i<l.length:=by omega);(have a:=lA.1 w _ (B3 g);have C:=PH a;have A:=Vy t l[i] h;have b:A3 ((k:Int)<0)=kb:=by simp);have o:Au .u64 ((AU l[i]:Nat):Int) (k:Int)=((AU l[i] / 2^k:Nat):Int):=Ef (by omega);have e:=D1 (AU l[i]) (2^k);have x:=Ul (y:=AU l[i]) (k:=k) (by omega) (by omega);have q:zB .i64 ((AU l[i] / 2^k:Nat):Int)=((AU l[i] / 2^k:Nat):Int):=PI (D4 e C);rw[A4 g,Ag (s':=((k:Int),l,((i+1:Nat):Int),(Oi k l[i] h,()),())) (by(by_cases hq:AU l[i] / 2^k<32;have c:A3 (((AU l[i] / 2^k:Nat):Int)<32)=ka:=dE (by omega);have u:(a2b (AU l[i] / 2^k) h).length<999999000:=by rw[Mt];omega);have f:=eW (L:=h) (n:=AU l[i] / 2^k) (E3 (B6 hq (by simp))) (by omega);have d:=Cc (L:=a2b (AU l[i] / 2^k) h) (v:=((AU l[i]%2^k:Nat):Int)) (n:=k) (by omega) u;simp only[IC,Bp g,cT,Ac g,oB,Tf a,p,b,cF,o,c,q,f,x,d,Oi,if_pos hq,Aa (show i<1000000 by omega)];have c:A3 (((AU l[i] / 2^k:Nat):Int)<32)=kb:=dF (by omega);have u:=Mt 32 h;have f:Ed ((h,()),(32:Int))=kc (0,a2b 32 h,()):=eW (L:=h) (n:=32) (by omega) (by omega);have d:Ar ((a2b 32 h,()),((AU l[i]:Nat):Int),(32:Int))=kc (KN ((AU l[i]:Nat):Int) 32,AJ ((AU l[i]:Nat):Int) 32 (a2b 32 h),()):=Cc (L:=a2b 32 h) (v:=((AU l[i]:Nat):Int)) (n:=32) (by omega) (by omega);simp only[IC,Bp g,cT,Ac g,oB,Tf a,p,b,cF,o,c,q,f,d,Oi,if_neg hq,Aa (show i<1000000 by omega)])];exact D (i+1) _ (by omega) (by omega));(have r:=m l.length 0 L (by omega) (by omega);simp at r;have B:short l:=by unfold short;omega);unfold QZ;simp only[OF t,oB,bT,cF,AC B,w,r]
def CG(zn:List Nat):List Int:=zn.map λ(a:Nat)=>(a:Int)
theorem a3c(n M:Nat):(A6 n M).sum=n*M:=by simp
theorem Xt{o n sH:Int}(h:(Cm o n sH).length≠0):∃k:List Nat,Cm o n sH=CG k/\(k.sum:Int)=n-sH/\k.length<=256:=by unfold Cm at h|-;cases hr:(MM n sH&&(A3 (0<=o)&&A3 (o<=8)))with|false=>simp_all|true=>(rw[hr]at h;simp only[cT]at h|-;simp[MM]at hr;unfold Vw at h|-;split at h;rename_i g;rw[if_pos g];obtain⟨O,rfl⟩:=A8 hr.2.1;obtain⟨N,rfl⟩:=A8 (show 0<=n by omega);obtain⟨w,rfl⟩:=A8 (show 0<=sH by omega);simp only[tN]at g|-;have a:=c4h (o:=O) (by omega);have f:=G8 N (2^O);rw[g.1,Nat.add_zero]at f;have b:w<=N / 2^O:=by omega);generalize N / 2^O=M at g b f|-;generalize 2^O=P at a f|-;refine⟨(M-w)::A6 (P-1) M,?_,?_,?_⟩;grind[CG,List.map_replicate];rw[I6,a3c];obtain⟨q,rfl⟩:∃q,P=q+1:=⟨P-1,by omega⟩;grind;simp_all;simp_all
def Sk(k:Int)(part L:List Int):List Int:=if k=31 then Dg (Ax part) part (AJ ((Ax part:Nat):Int) 5 (AJ (zB .u64 k) 5 L))else Jb k.toNat part (AJ (zB .u64 k) 5 L)
def Jc:List Nat->List Int->List Int->List Int->List Int|z::zs,k::ks,l,L=>Jc zs ks (l.drop z) (Sk k (l.take z) L)|_,_,_,L=>L
theorem Vz{k:Int}(h:kB k=ka)(part L:LI):L.length<=(Sk k part L).length/\(Sk k part L).length<=L.length+10+100*part.length:=by unfold Sk;have a:=Az (zB .u64 k) 5 L;split;have b:=Az (Ax part:Int) 5 (AJ (zB .u64 k) 5 L);have c:=Gb (Ax part) part (AJ (Ax part:Int) 5 (AJ (zB .u64 k) 5 L));have f:=EO part;have:Ax part*part.length<=32*part.length:=E4 _ f;omega;rename_i g;simp[kB]at h;grind[Zn]
theorem Fy{g:List Nat}{i:Nat}(h:i<g.length):I8 (CG g) i 0=(g[i]:Int):=by simp_all[CG]
theorem Be(h:List Nat):(CG h).length=h.length:=by simp[CG]
theorem PJ{g:List Nat}{i:Nat}(h:i<g.length):(g.drop i).sum=g[i]+(g.drop (i+1)).sum:=by grind[A4]
theorem a9d{part zC:LI}{wd:Nat}{a b:Int}{z:LI}{p:Xq}(c:wd<=32)(hp:part.length<10000):∀(j i:Nat)(L:LI),i+j=part.length->L.length+64*j<999990000->Ah Nl (zC,(wd:Int),a,b,part,(part.length:Int),(i:Int),z,wL L,p,())=kc (zC,a,b,z,wL (Dg wd (part.drop i) L),p,())|0,i,L,f,_=>by(obtain rfl:i=part.length:=by omega);simp_all[Ad,Nl,Dg]|j+1,i,L,f,hb=>by(have h:i<part.length:=by omega);(have g:A3 ((wd:Int)<0)=kb:=by simp);have k:=Az (Ga part[i] wd) wd L;rw[A4 h,Ag (s':=(zC,(wd:Int),a,b,part,(part.length:Int),((i+1:Nat):Int),z,wL (AJ (Ga part[i] wd) wd L),p,())) (by simp only[Nl,Bp h,cT,Ac h,oB,g,cF,show bits .u64 .and (zB .u64 part[i]) (zB .u64 ((AO .u64 1 (wd:Int))-1))=Ga part[i] wd from rfl,Ja (show wd<=63 by omega) (show L.length<999999000 by omega),Aa (show i<1000000 by omega)])];exact a9d c hp j (i+1) _ (by omega) (by omega)
theorem Xu{h:List Nat}{p:Xq}(R:p.2.1.length=h.length)(d:p.2.1.all kB=ka)(V:h.length<=256):∀(j i:Nat)(l L:LI),i+j=h.length->(h.drop i).sum=l.length->l.all Ae=ka->l.length<=5000->L.length+10*j+100*l.length<800000000->Ah GY (l,(h.length:Int),(i:Int),CG h,wL L,p,())=kc (wL (Jc (h.drop i) (p.2.1.drop i) l L),())|0,i,l,L,Q,_,_,_,_=>by(obtain rfl:i=h.length:=by omega);simp_all[Ad,GY,Jc]|j+1,i,l,L,Q,hsum,H,hl5,hb=>by(have g:i<h.length:=by omega);(have c:i<p.2.1.length:=by omega);(have u:=lA.1 d _ (B3 c);rw[PJ g]at hsum;have D:A3 ((0:Int)<=(i:Int))=ka:=by simp);(have E:A3 ((i:Int)<(((CG h).length:Nat):Int))=ka:=by simp_all[Be]);(have F:A3 ((0:Int)<=((h[i]:Nat):Int))=ka:=by simp);(have G:A3 (((h[i]:Nat):Int)<=((l.length:Nat):Int))=ka:=by grind);(have v:(l.take h[i]).length=h[i]:=by simp_all);(have r:(l.drop h[i]).length=(h.drop (i+1)).sum:=by grind);(have A:(l.take h[i]).all Ae=ka:=lA.2 λx C=>lA.1 H x (C9 C);have B:(l.drop h[i]).all Ae=ka:=lA.2 λx C=>lA.1 H x (D0 C);have U:=Vz u (l.take h[i]) L;have S:=Az (zB .u64 p.2.1[i]) 5 L;have e:Ap (wL L,zB .u64 p.2.1[i],(5:Int))=kc (KN (zB .u64 p.2.1[i]) 5,wL (AJ (zB .u64 p.2.1[i]) 5 L)):=Ja (n:=5) (by omega) (by omega);have M:h.drop i=h[i]::h.drop (i+1):=A4 g;have N:p.2.1.drop i=p.2.1[i]::p.2.1.drop (i+1):=A4 c;rw[M,N,Jc];have t:GY (l,(h.length:Int),(i:Int),CG h,wL L,p,())=kc (.inl (l.drop h[i],(h.length:Int),((i+1:Nat):Int),CG h,wL (Sk p.2.1[i] (l.take h[i]) L),p,())):=by(by_cases h31:p.2.1[i]=31;have o:(p.2.1[i] != 31)=kb:=by simp_all);(have y:=EO (l.take h[i]);have w:=IF (l:=l.take h[i]) (by unfold short;omega);have T:=Az ((Ax (l.take h[i]):Nat):Int) 5 (AJ (zB .u64 p.2.1[i]) 5 L);have O:zB .u64 ((Ax (l.take h[i]):Nat):Int)=((Ax (l.take h[i]):Nat):Int):=Av (by omega);have q:Ap (wL (AJ (zB .u64 p.2.1[i]) 5 L),((Ax (l.take h[i]):Nat):Int),(5:Int))=kc (KN ((Ax (l.take h[i]):Nat):Int) 5,wL (AJ ((Ax (l.take h[i]):Nat):Int) 5 (AJ (zB .u64 p.2.1[i]) 5 L))):=Ja (n:=5) (by omega) (by omega);have m:=a9d (part:=l.take h[i]) (zC:=l.drop h[i]) (a:=(h.length:Int)) (b:=(i:Int)) (z:=CG h) (p:=p) y (by omega) (l.take h[i]).length 0 (AJ ((Ax (l.take h[i]):Nat):Int) 5 (AJ (zB .u64 p.2.1[i]) 5 L)) (by omega) (by omega);simp only[nZ,B9]at m;simp only[GY,Bp g,D,E,Fy g,F,G,cT,A7,tN,Ac c,oB,e,o,cF,w,O,q,C4,m,Aa (show i<1000000 by omega),Sk,if_pos h31];have o:(p.2.1[i] != 31)=ka:=by simp_all);(simp[kB]at u;obtain⟨K,P⟩:=A8 (show 0<=p.2.1[i]by omega);have f:=a9c (k:=K) (l:=l.take h[i]) (L:=AJ (zB .u64 p.2.1[i]) 5 L) (by omega) (by omega) A (by omega);rw[<-P]at f;have I:K=p.2.1[i].toNat:=by omega);simp only[GY,Bp g,D,E,Fy g,F,G,cT,A7,tN,Ac c,oB,e,o,f,C4,Aa (show i<1000000 by omega),Sk,if_neg h31,I]);rw[Ag t];exact Xu R d V j (i+1) (l.drop h[i]) _ (by omega) r.symm B (by omega) (by omega)
theorem Sl{h:List Nat}{p:Xq}{l:LI}(Q:p.2.1.length=h.length)(c:p.2.1.all kB=ka)(X:h.length<=256)(G:l.all Ae=ka)(u:l.length<=5000):∀(j i off:Nat)(L:LI),i+j=h.length->off+(h.drop i).sum=l.length->L.length+10*j+100*(l.length-off)<800000000->Ah EN (l,(off:Int),(i:Int),CG h,(L,()),p,())=kc ((Jc (h.drop i) (p.2.1.drop i) (l.drop off) L,()),())|0,i,off,L,P,_,_=>by(obtain rfl:i=h.length:=by omega);simp_all[Ad,EN,Jc,Be]|j+1,i,off,L,P,hsum,hb=>by(have b:i<h.length:=by omega);(have a:i<p.2.1.length:=by omega);(have r:=lA.1 c _ (B3 a);rw[PJ b]at hsum;have A:A3 ((0:Int)<=(i:Int))=ka:=by simp);(have B:A3 ((i:Int)<(((CG h).length:Nat):Int))=ka:=by simp_all[Be]);(have z:zB .i64 ((off:Int)+((h[i]:Nat):Int))=((off+h[i]:Nat):Int):=by grind[Al]);(have C:A3 ((0:Int)<=((off+h[i]:Nat):Int))=ka:=by rfl);(have D:A3 (((off+h[i]:Nat):Int)<=((l.length:Nat):Int))=ka:=by grind);(have E:A3 ((0:Int)<=(off:Int))=ka:=by simp);(have F:A3 ((off:Int)<=((off+h[i]:Nat):Int))=ka:=by grind);(have g:I9 off (H7 (off+h[i]) l)=(l.drop off).take h[i]:=by grind);(have e:(l.drop off).drop h[i]=l.drop (off+h[i]):=by simp);(have v:((l.drop off).take h[i]).length=h[i]:=by rw[D3,E7];omega);(have y:((l.drop off).take h[i]).all Ae=ka:=lA.2 λx V=>lA.1 G x (D0 (C9 V));have T:=Vz r ((l.drop off).take h[i]) L;have R:=Az (zB .u64 p.2.1[i]) 5 L;have d:Ar ((L,()),zB .u64 p.2.1[i],(5:Int))=kc (KN (zB .u64 p.2.1[i]) 5,AJ (zB .u64 p.2.1[i]) 5 L,()):=Cc (n:=5) (by omega) (by omega);have I:h.drop i=h[i]::h.drop (i+1):=A4 b;have M:p.2.1.drop i=p.2.1[i]::p.2.1.drop (i+1):=A4 a;rw[I,M,Jc,e];have q:EN (l,(off:Int),(i:Int),CG h,(L,()),p,())=kc (.inl (l,((off+h[i]:Nat):Int),((i+1:Nat):Int),CG h,(Sk p.2.1[i] ((l.drop off).take h[i]) L,()),p,())):=by(by_cases h31:p.2.1[i]=31;have m:(p.2.1[i]==31)=ka:=by simp_all);(have U:=EO ((l.drop off).take h[i]);have w:=NV (l:=(l.drop off).take h[i]) (by unfold short;omega);have S:=Az ((Ax ((l.drop off).take h[i]):Nat):Int) 5 (AJ (zB .u64 p.2.1[i]) 5 L);have N:zB .u64 ((Ax ((l.drop off).take h[i]):Nat):Int)=((Ax ((l.drop off).take h[i]):Nat):Int):=Av (by omega);have o:Ar ((AJ (zB .u64 p.2.1[i]) 5 L,()),((Ax ((l.drop off).take h[i]):Nat):Int),(5:Int))=kc (KN ((Ax ((l.drop off).take h[i]):Nat):Int) 5,AJ ((Ax ((l.drop off).take h[i]):Nat):Int) 5 (AJ (zB .u64 p.2.1[i]) 5 L),()):=Cc (n:=5) (by omega) (by omega);have t:=KO (l:=(l.drop off).take h[i]) (L:=AJ ((Ax ((l.drop off).take h[i]):Nat):Int) 5 (AJ (zB .u64 p.2.1[i]) 5 L)) (n:=Ax ((l.drop off).take h[i])) (by omega) (by omega) (by omega);simp only[EN,A,B,Fy b,z,C,D,E,F,cT,A7,tN,Ac a,oB,d,m,g,w,N,o,t,Aa (show i<1000000 by omega),Sk,if_pos h31];have m:(p.2.1[i]==31)=kb:=by simp_all);(simp[kB]at r;obtain⟨K,O⟩:=A8 (show 0<=p.2.1[i]by omega);have f:=a0D (k:=K) (l:=(l.drop off).take h[i]) (L:=AJ (zB .u64 p.2.1[i]) 5 L) (by omega) (by omega) y (by omega);rw[<-O]at f;have H:K=p.2.1[i].toNat:=by omega);simp only[EN,A,B,Fy b,z,C,D,E,F,cT,cF,A7,tN,Ac a,oB,d,m,g,f,Aa (show i<1000000 by omega),Sk,if_neg h31,H]);rw[Ag q];exact Sl Q c X G u j (i+1) (off+h[i]) _ (by omega) (by omega) (by omega)
theorem a0E{k:Nat}(d:k<=25){x:Int}(g:Ae x=ka):∃c,MF ((k:Int),x)=kc c/\0<=c/\c<=65:=by(have e:=PH g;have f:Au .u64 ((AU x:Nat):Int) (k:Int)=((AU x / 2^k:Nat):Int):=Ef (by omega);have a:zB .i64 ((AU x / 2^k:Nat):Int)=((AU x / 2^k:Nat):Int):=PI (D4 (D1 _ _) e);have h:A3 ((k:Int)<0)=kb:=by simp);unfold MF;simp only[NW d,Re,g,oB,bT,cF,Rf g,h,f,a];generalize AU x / 2^k=q;by_cases hq:q<32;have b:A3 ((q:Int)<32)=ka:=dE (by omega);refine⟨(q:Int)+1+k,?_,by omega,by omega⟩;simp only[b,cT];grind[Al];grind
theorem eY{k:Nat}(e:k<=25){x:Int}(g:Ae x=ka):∃c,IU ((k:Int),x)=kc c/\0<=c/\c<=65:=by(have i:=PH g;have f:Au .u64 ((AU x:Nat):Int) (k:Int)=((AU x / 2^k:Nat):Int):=Ef (by omega);have b:zB .i64 ((AU x / 2^k:Nat):Int)=((AU x / 2^k:Nat):Int):=PI (D4 (D1 _ _) i);have a:zB .u64 (k:Int)=(k:Int):=Av (by omega);have h:A3 ((k:Int)<0)=kb:=by simp);unfold IU;simp only[OF e,CE,g,oB,bT,cF,Tf g,a,h,f,b];generalize AU x / 2^k=q;by_cases hq:q<32;have d:A3 ((q:Int)<32)=ka:=dE (by omega);refine⟨(q:Int)+1+k,?_,by omega,by omega⟩;simp only[d,cT];grind[Al];grind
theorem a3d{k:Nat}(q:k<=25){l:LI}(r:l.all Ae=ka)(w:l.length<10000):∃c,Gj ((k:Int),l)=kc c/\0<=c/\c<=65*l.length:=by(have f:∀(j i:Nat)(c:Int),i+j=l.length->0<=c->c<=65*i->∃g,Ah Gi ((k:Int),c,l,(l.length:Int),(i:Int),())=kc (g,())/\0<=g/\g<=65*l.length:=by intro j;induction j with|zero=>(intro i c p b a;obtain rfl:i=l.length:=by omega);simp_all[Ad,Gi]|succ j t=>(intro i c p b a;have h:i<l.length:=by omega);obtain⟨d,m,n,o⟩:=a0E q (lA.1 r _ (B3 h));have e:zB .i64 (c+d)=c+d:=Al (by omega);rw[Ag (s':=((k:Int),c+d,l,(l.length:Int),((i+1:Nat):Int),())) (by simp only[Gi,Bp h,cT,Ac h,oB,m,e,Aa (show i<1000000 by omega)])];exact t (i+1) _ (by omega) (by omega) (by omega));obtain⟨c,a,u,v⟩:=f l.length 0 0 (by omega) (by omega) (by omega);simp_all[Gj]
theorem iT{k:Nat}(q:k<=25){l:LI}(r:l.all Ae=ka)(w:l.length<10000):∃c,EE ((k:Int),l)=kc c/\0<=c/\c<=65*l.length:=by(have f:∀(j i:Nat)(c:Int),i+j=l.length->0<=c->c<=65*i->∃g,Ah El ((k:Int),l,c,(i:Int),())=kc (g,())/\0<=g/\g<=65*l.length:=by intro j;induction j with|zero=>(intro i c p b a;obtain rfl:i=l.length:=by omega);simp_all[Ad,El]|succ j t=>(intro i c p b a;have h:i<l.length:=by omega);obtain⟨d,m,n,o⟩:=eY q (lA.1 r _ (B3 h));have e:zB .i64 (c+d)=c+d:=Al (by omega);rw[Ag (s':=((k:Int),l,c+d,((i+1:Nat):Int),())) (by simp only[El,Bp h,cT,Ac h,oB,m,e,Aa (show i<1000000 by omega)])];exact t (i+1) _ (by omega) (by omega) (by omega));obtain⟨c,a,u,v⟩:=f l.length 0 0 (by omega) (by omega) (by omega);simp_all[EE]
theorem iU{w n:Nat}(g:w<=32)(f:n<10000):0<=(w:Int)*(n:Int)/\(w:Int)*(n:Int)<=32*n:=by have h:w*n<=32*n:=E4 _ g;omega
theorem a0F{l:LI}(h:l.length<10000):∃c,JJ l=kc c/\0<=c/\c<=5+32*l.length:=by have g:=iU (EO l) h;refine⟨5+(Ax l:Int)*(l.length:Int),?_,by omega,by omega⟩;unfold JJ;simp only[IF (show short l by unfold short;omega),oB];grind[Al]
theorem VS{h:List Nat}{p:Xq}(P:p.2.1.length=h.length)(f:p.2.1.all kB=ka)(Q:h.length<=256):∀(j i:Nat)(l:LI)(c:Int),i+j=h.length->(h.drop i).sum=l.length->l.all Ae=ka->l.length<=5000->4<=c->c+10*j+65*l.length<1000000->∃B,Ah BM (l,c,(h.length:Int),(i:Int),CG h,p,())=kc (B,())/\4<=B|0,i,l,c,O,_,_,_,I,_=>by(obtain rfl:i=h.length:=by omega);simp_all[Ad,BM]|j+1,i,l,c,O,hsum,G,hl5,I,hb=>by(have g:i<h.length:=by omega);(have a:i<p.2.1.length:=by omega);(have t:=lA.1 f _ (B3 a);rw[PJ g]at hsum;have C:A3 ((0:Int)<=(i:Int))=ka:=by simp);(have D:A3 ((i:Int)<(((CG h).length:Nat):Int))=ka:=by simp_all[Be]);(have E:A3 ((0:Int)<=((h[i]:Nat):Int))=ka:=by simp);(have F:A3 (((h[i]:Nat):Int)<=((l.length:Nat):Int))=ka:=by grind);(have u:(l.take h[i]).length=h[i]:=by simp_all);(have e:(l.drop h[i]).length=(h.drop (i+1)).sum:=by grind);(have y:(l.take h[i]).all Ae=ka:=lA.2 λx A=>lA.1 G x (C9 A);have z:(l.drop h[i]).all Ae=ka:=lA.2 λx A=>lA.1 G x (D0 A);have m:∃d,BM (l,c,(h.length:Int),(i:Int),CG h,p,())=kc (.inl (l.drop h[i],c+d,(h.length:Int),((i+1:Nat):Int),CG h,p,()))/\0<=d/\d<=10+65*h[i]:=by(by_cases h31:p.2.1[i]=31;have b:(p.2.1[i]==31)=ka:=by simp_all);(obtain⟨r,n,v,w⟩:=a0F (l:=l.take h[i]) (by omega);have o:zB .i64 (5+r)=5+r:=Al (by omega);have q:zB .i64 (c+(5+r))=c+(5+r):=Al (by omega);refine⟨5+r,?_,by omega,by omega⟩;simp only[BM,Bp g,C,D,Fy g,E,F,cT,A7,tN,Ac a,oB,b,n,o,q,C4,Aa (show i<1000000 by omega)];have b:(p.2.1[i]==31)=kb:=by simp_all);simp[kB]at t;obtain⟨K,H⟩:=A8 (show 0<=p.2.1[i]by omega);obtain⟨r,n,v,w⟩:=a3d (k:=K) (by omega) y (by omega);rw[<-H]at n;have o:zB .i64 (5+r)=5+r:=Al (by omega);have q:zB .i64 (c+(5+r))=c+(5+r):=Al (by omega);refine⟨5+r,?_,by omega,by omega⟩;simp only[BM,Bp g,C,D,Fy g,E,F,cT,cF,A7,tN,Ac a,oB,b,n,o,q,C4,Aa (show i<1000000 by omega)]);obtain⟨d,L,M,N⟩:=m;rw[Ag L];exact VS P f Q j (i+1) (l.drop h[i]) _ (by omega) e.symm z (by omega) (by omega) (by omega)
theorem Qz{h:List Nat}{p:Xq}{l:LI}(O:p.2.1.length=h.length)(g:p.2.1.all kB=ka)(S:h.length<=256)(w:l.all Ae=ka)(q:l.length<=5000):∀(j i off:Nat)(c:Int),i+j=h.length->off+(h.drop i).sum=l.length->4<=c->c+10*j+65*(l.length-off:Nat)<1000000->∃v,Ah CU (l,c,(off:Int),(i:Int),CG h,p,())=kc (v,())/\4<=v|0,i,off,c,N,_,H,_=>by(obtain rfl:i=h.length:=by omega);simp_all[Ad,CU,Be]|j+1,i,off,c,N,hsum,H,hb=>by(have e:i<h.length:=by omega);(have b:i<p.2.1.length:=by omega);(have o:=lA.1 g _ (B3 b);rw[PJ e]at hsum;have B:A3 ((0:Int)<=(i:Int))=ka:=by simp);(have C:A3 ((i:Int)<(((CG h).length:Nat):Int))=ka:=by simp_all[Be]);(have A:zB .i64 ((off:Int)+((h[i]:Nat):Int))=((off+h[i]:Nat):Int):=by grind[Al]);(have D:A3 ((0:Int)<=((off+h[i]:Nat):Int))=ka:=by rfl);(have E:A3 (((off+h[i]:Nat):Int)<=((l.length:Nat):Int))=ka:=by grind);(have F:A3 ((0:Int)<=(off:Int))=ka:=by simp);(have G:A3 ((off:Int)<=((off+h[i]:Nat):Int))=ka:=by grind);(have f:I9 off (H7 (off+h[i]) l)=(l.drop off).take h[i]:=by grind);(have t:((l.drop off).take h[i]).length=h[i]:=by rw[D3,E7];omega);(have u:((l.drop off).take h[i]).all Ae=ka:=lA.2 λx R=>lA.1 w x (D0 (C9 R));have a:∃d,DE (p.2.1[i],(l.drop off).take h[i])=kc d/\0<=d/\d<=5+65*h[i]:=by(unfold DE;by_cases h31:p.2.1[i]=31;have m:(p.2.1[i]==31)=ka:=by simp_all);(have U:=iU (EO ((l.drop off).take h[i])) (show((l.drop off).take h[i]).length<10000 by omega);refine⟨5+((Ax ((l.drop off).take h[i]):Nat):Int)*((((l.drop off).take h[i]).length:Nat):Int),?_,by omega,by omega⟩;simp only[m,cT,NV (show short ((l.drop off).take h[i])by unfold short;omega),oB];rw[Int.mul_comm (((((l.drop off).take h[i]).length:Nat):Int)),Al (n:=((Ax ((l.drop off).take h[i]):Nat):Int)*((((l.drop off).take h[i]).length:Nat):Int)) (by omega),Al (by omega)];have m:(p.2.1[i]==31)=kb:=by simp_all);simp[kB]at o;obtain⟨K,T⟩:=A8 (show 0<=p.2.1[i]by omega);obtain⟨r,V,P,Q⟩:=iT (k:=K) (by omega) u (by omega);grind);obtain⟨d,I,L,M⟩:=a;have y:zB .i64 (c+5)=c+5:=Al (by omega);have z:zB .i64 (c+5+d)=c+5+d:=Al (by omega);rw[Ag (s':=(l,c+5+d,((off+h[i]:Nat):Int),((i+1:Nat):Int),CG h,p,())) (by simp only[CU,B,C,Fy e,A,D,E,F,G,cT,A7,tN,Ac b,oB,f,I,y,z,Aa (show i<1000000 by omega)])];exact Qz O g S w q j (i+1) (off+h[i]) _ (by omega) (by omega) (by omega) (by omega)
structure sW (p:Xq) (n sH:Int) (l:List Int) (zn:List Nat):Prop where
 may:Hp p n sH=ka
 sizes:Cm p.1 n sH=CG zn
 sum:zn.sum=l.length
 len:zn.length<=256
 ks:p.2.1.length=zn.length
 all:p.2.1.all kB=ka
 wide:l.all Ae=ka
 short:l.length<=5000
 row:MM n sH=ka
 rest:(l.length:Int)=n-sH
 order:0<=p.1/\p.1<=8
theorem sW.of{p:Xq}{n sH:Int}{l:LI}(h:Hp p n sH=ka)(i:(l.length:Int)=n-sH)(j:l.all Ae=ka)(e:l.length<=5000):∃g,sW p n sH l g:=by(have f:=h;simp only[Hp,bA,F7,beq_eq_false_iff_ne,ne_eq,beq_iff_eq]at f;obtain⟨c,o,d⟩:=f;obtain⟨g,a,m,b⟩:=Xt c;have k:MM n sH=ka/\0<=p.1/\p.1<=8:=by grind[Cm]);exact⟨g,h,a,by omega,b,by simp_all[Be],d,j,e,k.1,i,k.2⟩
theorem Sm{n sH:Int}{l:LI}(h:MM n sH=ka)(c:(l.length:Int)=n-sH)(d:l.all Ae=ka)(a:l.length<=5000):Lr (n,sH,l)=kc ka:=by
 have e:zB .i64 (n-sH)=n-sH:=by simp[MM]at h;exact Al (by omega)
 have k:((l.length:Int) != n-sH)=kb:=by simp_all
 have f:TV=Dn:=rfl;have g:short l:=by unfold short;omega
 have b:=Fi g;simp_all[DC,Lr,eN]
theorem oH{p:Xq}{n sH:Int}{l:LI}{f:List Nat}(h:sW p n sH l f):∃c,HN (p,n,sH,l)=kc c/\4<=c:=by(have a:Go.Ab.short p.2.1:=by have:=h.ks;have:=h.len;unfold Go.Ab.short;omega);have b:=h.short;have d:=h.len;obtain⟨c,g,k⟩:=VS h.ks h.all h.len f.length 0 l 4 (by omega) (by rw[B9];exact h.sum) h.wide h.short (by omega) (by omega);simp at g;refine⟨c,?_,k⟩;unfold HN;simp only[Rd a,h.may,Sm h.row h.rest h.wide h.short,oB,bT,cF,DT,h.sizes,Be,g]
theorem bG{p:Xq}{n sH:Int}{l:LI}{f:List Nat}(h:sW p n sH l f):∃c,CV (p,n,sH,l)=kc c/\4<=c:=by
 have b:Go.Ab.short p.2.1:=by have:=h.ks;have:=h.len;unfold Go.Ab.short;omega
 have i:Go.Ab.short l:=by have:=h.short;unfold Go.Ab.short;omega
 have j:=h.short;have m:=h.len;have d:=h.row;simp[MM]at d;have e:zB .i64 (n-sH)=n-sH:=Al (by omega);have a:(((l.length:Nat):Int) != n-sH)=kb:=by rw[h.rest];simp
 obtain⟨c,g,k⟩:=Qz h.ks h.all h.len h.wide h.short f.length 0 0 4 (by omega) (by rw[B9,h.sum];omega) (by omega) (by omega);simp at g;refine⟨c,?_,k⟩;unfold CV;simp only[IE b,h.may,oB,bT,cF,e,a,AC i,h.wide,Co,h.sizes,g]
def Dt(p:Xq)(zn:List Nat)(l L:List Int):List Int:=Jc zn p.2.1 l (AJ (zB .u64 p.1) 4 L)
theorem a6t{p:Xq}{n sH:Int}{l L:LI}{a:List Nat}(h:sW p n sH l a)(j:L.length<700000000):SL (wL L,p,n,sH,l)=kc (0,wL (Dt p a l L)):=by(have i:=h.short;have m:=h.len;obtain⟨c,b,d⟩:=oH h;have k:(c==0)=kb:=by grind);have e:=Az (zB .u64 p.1) 4 L;have f:Ap (wL L,zB .u64 p.1,(4:Int))=kc (KN (zB .u64 p.1) 4,wL (AJ (zB .u64 p.1) 4 L)):=Ja (n:=4) (by omega) (by omega);have g:=Xu h.ks h.all h.len a.length 0 l (AJ (zB .u64 p.1) 4 L) (by omega) (by rw[B9];exact h.sum) h.wide h.short (by omega);simp at g;unfold SL;simp only[b,oB,k,cF,f,DT,h.sizes,Be,g,Dt]
theorem oI{p:Xq}{n sH:Int}{l L:LI}{a:List Nat}(h:sW p n sH l a)(j:L.length<700000000):OX ((L,()),p,n,sH,l)=kc (0,Dt p a l L,()):=by(have i:=h.short;have m:=h.len;obtain⟨c,b,d⟩:=bG h;have k:(c==0)=kb:=by grind);have e:=Az (zB .u64 p.1) 4 L;have f:Ar ((L,()),zB .u64 p.1,(4:Int))=kc (KN (zB .u64 p.1) 4,AJ (zB .u64 p.1) 4 L,()):=Cc (n:=4) (by omega) (by omega);have g:=Sl h.ks h.all h.len h.wide h.short a.length 0 0 (AJ (zB .u64 p.1) 4 L) (by omega) (by rw[B9,h.sum];omega) (by omega);simp at g;unfold OX;simp only[b,oB,k,cF,f,Co,h.sizes,g,Dt]
theorem a0G{c:LI}{wd:Nat}(a:wd<=32)(g:c.length<10000):∀(j i:Nat)(L:LI),i+j=c.length->L.length+64*j<999990000->Ah Ji ((wd:Int),c,(c.length:Int),(i:Int),wL L,())=kc (wL (Dg wd (c.drop i) L),())|0,i,L,f,_=>by(obtain rfl:i=c.length:=by omega);simp_all[Ad,Ji,Dg]|j+1,i,L,f,hb=>by(have h:i<c.length:=by omega);have k:=Az (Ga c[i] wd) wd L;rw[A4 h,Ag (s':=((wd:Int),c,(c.length:Int),((i+1:Nat):Int),wL (AJ (Ga c[i] wd) wd L),())) (by simp only[Ji,Bp h,cT,Ac h,oB,Vx (show wd<=63 by omega) (show L.length<999999000 by omega),Aa (show i<1000000 by omega)])];exact a0G a g j (i+1) _ (by omega) (by omega)
theorem a4i{t:LI}{n wd:Int}{s:BN}(b:t.length=3):∀(j i:Nat)(L:LI),i+j=3->L.length+64*j<999990000->Ah QP (n,wd,t,(i:Int),wL L,s,())=kc (n,wd,wL (Dg 8 (t.drop i) L),s,())|0,i,L,k,_=>by(obtain rfl:i=t.length:=by omega);grind[Ad,QP,Dg]|j+1,i,L,k,hb=>by(have h:i<t.length:=by omega);(have f:A3 ((i:Int)<3)=ka:=by grind);have a:=Az (Ga t[i] 8) 8 L;have g:Ei (wL L,t[i],(8:Int))=kc (wL (AJ (Ga t[i] 8) 8 L)):=Vx (n:=8) (by omega) (by omega);rw[A4 h,Ag (s':=(n,wd,t,((i+1:Nat):Int),wL (AJ (Ga t[i] 8) 8 L),s,())) (by simp only[QP,f,cT,Ac h,oB,g,Aa (show i<1000000 by omega)])];exact a4i b j (i+1) _ (by omega) (by omega)
theorem a4j{l:LI}{n:Int}{wd:Nat}{s:BN}(a:wd<=32)(f:l.length<10000):∀(j i:Nat)(L:LI),i+j=l.length->L.length+64*j<999990000->Ah QR (n,(wd:Int),l,(l.length:Int),(i:Int),wL L,s,())=kc (n,wL (Dg wd (l.drop i) L),s,())|0,i,L,g,_=>by(obtain rfl:i=l.length:=by omega);simp_all[Ad,QR,Dg]|j+1,i,L,g,hb=>by(have h:i<l.length:=by omega);have k:=Az (Ga l[i] wd) wd L;rw[A4 h,Ag (s':=(n,(wd:Int),l,(l.length:Int),((i+1:Nat):Int),wL (AJ (Ga l[i] wd) wd L),s,())) (by simp only[QR,Bp h,cT,Ac h,oB,Vx (show wd<=63 by omega) (show L.length<999999000 by omega),Aa (show i<1000000 by omega)])];exact a4j a f j (i+1) _ (by omega) (by omega)
def Mu(s:Si)(L:List Int):List Int:=AJ (zB .u64 s.2.1) 4 (AJ (zB .u64 (zB .i64 (s.1-1))) 5 L)
def Fm(st:List Si)(L:List Int):List Int:=st.foldl (λL s=>Mu s L) L
theorem TE(s:Si)(L:LI):(Mu s L).length<=L.length+9:=by grind[Az,Mu]
theorem Xv:∀(st:List Si)(L:LI),(Fm st L).length<=L.length+9*st.length|[],L=>by simp[Fm]|s::st,L=>by have h:=TE s L;have g:=Xv st (Mu s L);have e:Fm (s::st) L=Fm st (Mu s L):=rfl;grind
theorem lM{st:List Si}{n wd:Int}{s:BN}(b:st.length<10000):∀(j i:Nat)(L:LI),i+j=st.length->L.length+64*j<999990000->Ah QQ (n,wd,st,(st.length:Int),(i:Int),wL L,s,())=kc (n,wd,wL (Fm (st.drop i) L),s,())|0,i,L,k,_=>by(obtain rfl:i=st.length:=by omega);simp_all[Ad,QQ,Fm]|j+1,i,L,k,hb=>by(have h:i<st.length:=by omega);have a:=Az (zB .u64 (zB .i64 (st[i].1-1))) 5 L;have c:=TE st[i] L;have g:Ap (wL L,zB .u64 (zB .i64 (st[i].1-1)),(5:Int))=kc (KN (zB .u64 (zB .i64 (st[i].1-1))) 5,wL (AJ (zB .u64 (zB .i64 (st[i].1-1))) 5 L)):=Ja (n:=5) (by omega) (by omega);have f:Ap (wL (AJ (zB .u64 (zB .i64 (st[i].1-1))) 5 L),zB .u64 st[i].2.1,(4:Int))=kc (KN (zB .u64 st[i].2.1) 4,wL (Mu st[i] L)):=Ja (n:=4) (by omega) (by omega);rw[A4 h,Ag (s':=(n,wd,st,(st.length:Int),((i+1:Nat):Int),wL (Mu st[i] L),s,())) (by simp only[QQ,Bp h,cT,Ac h,oB,g,f,Aa (show i<1000000 by omega)])];exact lM b j (i+1) _ (by omega) (by omega)
theorem VT{n wd:Int}{s:BN}(b:s.2.2.2.2.2.2.2.1.length<10000):∀(j i:Nat)(L:LI),i+j=s.2.2.2.2.2.2.2.1.length->L.length+64*j<999990000->Ah Mc (n,wd,(i:Int),(L,()),s,())=kc (n,wd,(Fm (s.2.2.2.2.2.2.2.1.drop i) L,()),s,())|0,i,L,k,_=>by(obtain rfl:i=s.2.2.2.2.2.2.2.1.length:=by omega);simp_all[Ad,Mc,Fm]|j+1,i,L,k,hb=>by(have h:i<s.2.2.2.2.2.2.2.1.length:=by omega);have a:=Az (zB .u64 (zB .i64 (s.2.2.2.2.2.2.2.1[i].1-1))) 5 L;have c:=TE s.2.2.2.2.2.2.2.1[i] L;have g:Ar ((L,()),zB .u64 (zB .i64 (s.2.2.2.2.2.2.2.1[i].1-1)),(5:Int))=kc (KN (zB .u64 (zB .i64 (s.2.2.2.2.2.2.2.1[i].1-1))) 5,AJ (zB .u64 (zB .i64 (s.2.2.2.2.2.2.2.1[i].1-1))) 5 L,()):=Cc (n:=5) (by omega) (by omega);have f:Ar ((AJ (zB .u64 (zB .i64 (s.2.2.2.2.2.2.2.1[i].1-1))) 5 L,()),zB .u64 s.2.2.2.2.2.2.2.1[i].2.1,(4:Int))=kc (KN (zB .u64 s.2.2.2.2.2.2.2.1[i].2.1) 4,Mu s.2.2.2.2.2.2.2.1[i] L,()):=Cc (n:=4) (by omega) (by omega);rw[A4 h,Ag (s':=(n,wd,((i+1:Nat):Int),(Mu s.2.2.2.2.2.2.2.1[i] L,()),s,())) (by simp only[Mc,Bp h,cT,Ac h,oB,g,f,Aa (show i<1000000 by omega)])];exact VT b j (i+1) _ (by omega) (by omega)
def JZ(s:BN)(L:List Int):List Int:=Dg (Ax s.2.2.2.2.2.1) s.2.2.2.2.2.1 (AJ ((Ax s.2.2.2.2.2.1:Nat):Int) 5 (AJ (zB .u64 s.2.2.2.1) 4 (AJ (zB .u64 (zB .i64 (((s.2.2.2.2.2.1.length:Nat):Int)-1))) 5 L)))
theorem a3e{s:BN}(h:s.2.2.2.2.2.1.length<=40)(L:LI):(JZ s L).length<=L.length+2000:=by unfold JZ;have f:=Az (zB .u64 (zB .i64 ((s.2.2.2.2.2.1.length:Int)-1))) 5 L;have k:=Az (zB .u64 s.2.2.2.1) 4 (AJ (zB .u64 (zB .i64 ((s.2.2.2.2.2.1.length:Int)-1))) 5 L);have a:=Az (Ax s.2.2.2.2.2.1:Int) 5 (AJ (zB .u64 s.2.2.2.1) 4 (AJ (zB .u64 (zB .i64 ((s.2.2.2.2.2.1.length:Int)-1))) 5 L));have b:=Gb (Ax s.2.2.2.2.2.1) s.2.2.2.2.2.1 (AJ (Ax s.2.2.2.2.2.1:Int) 5 (AJ (zB .u64 s.2.2.2.1) 4 (AJ (zB .u64 (zB .i64 ((s.2.2.2.2.2.1.length:Int)-1))) 5 L)));have g:=EO s.2.2.2.2.2.1;have:Ax s.2.2.2.2.2.1*s.2.2.2.2.2.1.length<=32*40:=I3 g h;omega
theorem lP{s:BN}(h:s.2.2.2.2.2.1.length<=40){L:LI}(l:L.length<900000000):Nk (wL L,s)=kc (wL (JZ s L)):=by have e:=Az (zB .u64 (zB .i64 ((s.2.2.2.2.2.1.length:Int)-1))) 5 L;have i:=Az (zB .u64 s.2.2.2.1) 4 (AJ (zB .u64 (zB .i64 ((s.2.2.2.2.2.1.length:Int)-1))) 5 L);have j:=Az (Ax s.2.2.2.2.2.1:Int) 5 (AJ (zB .u64 s.2.2.2.1) 4 (AJ (zB .u64 (zB .i64 ((s.2.2.2.2.2.1.length:Int)-1))) 5 L));have k:=EO s.2.2.2.2.2.1;have f:zB .u64 (Ax s.2.2.2.2.2.1:Int)=(Ax s.2.2.2.2.2.1:Int):=Av (by omega);have a:Ap (wL L,zB .u64 (zB .i64 ((s.2.2.2.2.2.1.length:Int)-1)),(5:Int))=kc (KN (zB .u64 (zB .i64 ((s.2.2.2.2.2.1.length:Int)-1))) 5,wL (AJ (zB .u64 (zB .i64 ((s.2.2.2.2.2.1.length:Int)-1))) 5 L)):=Ja (n:=5) (by omega) (by omega);have b:Ap (wL (AJ (zB .u64 (zB .i64 ((s.2.2.2.2.2.1.length:Int)-1))) 5 L),zB .u64 s.2.2.2.1,(4:Int))=kc (KN (zB .u64 s.2.2.2.1) 4,wL (AJ (zB .u64 s.2.2.2.1) 4 (AJ (zB .u64 (zB .i64 ((s.2.2.2.2.2.1.length:Int)-1))) 5 L))):=Ja (n:=4) (by omega) (by omega);have d:Ap (wL (AJ (zB .u64 s.2.2.2.1) 4 (AJ (zB .u64 (zB .i64 ((s.2.2.2.2.2.1.length:Int)-1))) 5 L)),(Ax s.2.2.2.2.2.1:Int),(5:Int))=kc (KN (Ax s.2.2.2.2.2.1:Int) 5,wL (AJ (Ax s.2.2.2.2.2.1:Int) 5 (AJ (zB .u64 s.2.2.2.1) 4 (AJ (zB .u64 (zB .i64 ((s.2.2.2.2.2.1.length:Int)-1))) 5 L)))):=Ja (n:=5) (by omega) (by omega);have g:=a0G (c:=s.2.2.2.2.2.1) k (by omega) s.2.2.2.2.2.1.length 0 (AJ (Ax s.2.2.2.2.2.1:Int) 5 (AJ (zB .u64 s.2.2.2.1) 4 (AJ (zB .u64 (zB .i64 ((s.2.2.2.2.2.1.length:Int)-1))) 5 L))) (by omega) (by omega);simp at g;unfold Nk;simp only[a,b,IF (show short s.2.2.2.2.2.1 by unfold short;omega),f,d,g,oB,JZ]
theorem Um{s:BN}(h:s.2.2.2.2.2.1.length<=40){L:LI}(i:L.length<800000000):IB ((L,()),s)=kc (JZ s L,()):=by have c:=Az (zB .u64 (zB .i64 ((s.2.2.2.2.2.1.length:Int)-1))) 5 L;have d:=Az (zB .u64 s.2.2.2.1) 4 (AJ (zB .u64 (zB .i64 ((s.2.2.2.2.2.1.length:Int)-1))) 5 L);have e:=Az (Ax s.2.2.2.2.2.1:Int) 5 (AJ (zB .u64 s.2.2.2.1) 4 (AJ (zB .u64 (zB .i64 ((s.2.2.2.2.2.1.length:Int)-1))) 5 L));have j:=EO s.2.2.2.2.2.1;have f:zB .u64 (Ax s.2.2.2.2.2.1:Int)=(Ax s.2.2.2.2.2.1:Int):=Av (by omega);have k:Ar ((L,()),zB .u64 (zB .i64 ((s.2.2.2.2.2.1.length:Int)-1)),(5:Int))=kc (KN (zB .u64 (zB .i64 ((s.2.2.2.2.2.1.length:Int)-1))) 5,AJ (zB .u64 (zB .i64 ((s.2.2.2.2.2.1.length:Int)-1))) 5 L,()):=Cc (n:=5) (by omega) (by omega);have a:Ar ((AJ (zB .u64 (zB .i64 ((s.2.2.2.2.2.1.length:Int)-1))) 5 L,()),zB .u64 s.2.2.2.1,(4:Int))=kc (KN (zB .u64 s.2.2.2.1) 4,AJ (zB .u64 s.2.2.2.1) 4 (AJ (zB .u64 (zB .i64 ((s.2.2.2.2.2.1.length:Int)-1))) 5 L),()):=Cc (n:=4) (by omega) (by omega);have b:Ar ((AJ (zB .u64 s.2.2.2.1) 4 (AJ (zB .u64 (zB .i64 ((s.2.2.2.2.2.1.length:Int)-1))) 5 L),()),(Ax s.2.2.2.2.2.1:Int),(5:Int))=kc (KN (Ax s.2.2.2.2.2.1:Int) 5,AJ (Ax s.2.2.2.2.2.1:Int) 5 (AJ (zB .u64 s.2.2.2.1) 4 (AJ (zB .u64 (zB .i64 ((s.2.2.2.2.2.1.length:Int)-1))) 5 L)),()):=Cc (n:=5) (by omega) (by omega);have g:=KO (l:=s.2.2.2.2.2.1) (n:=Ax s.2.2.2.2.2.1) (L:=AJ (Ax s.2.2.2.2.2.1:Int) 5 (AJ (zB .u64 s.2.2.2.1) 4 (AJ (zB .u64 (zB .i64 ((s.2.2.2.2.2.1.length:Int)-1))) 5 L))) (by omega) (by omega) (by omega);unfold IB;simp only[k,a,NV (show short s.2.2.2.2.2.1 by unfold short;omega),f,b,g,oB,JZ]
def Tg(s:BN)(L:List Int):List Int:=AJ ((Ax s.2.2.2.2.2.2.2.2.1:Nat):Int) 5 (AJ (zB .u64 s.2.1) 5 (AJ (zB .u64 s.1) 3 L))
def CH(s:BN)(L:List Int):List Int:=
 if s.1=2 then AJ (zB .u64 s.2.2.1) 3 L
 else if s.1=3 then JZ s L
 else if s.1=4 then JZ s (Dg 8 s.2.2.2.2.2.2.1 (AJ (zB .u64 (zB .i64 (s.2.2.2.2.1-1))) 10 L))
 else if s.1=5 then Fm s.2.2.2.2.2.2.2.1 (AJ (zB .u64 ((s.2.2.2.2.2.2.2.1.length:Nat):Int)) 2 L)
 else L
theorem eZ{s:BN}(h:sO s)(L:LI):(CH s L).length<=L.length+3000:=by have f:=h.uV;have k:=h.taps;have g:=h.stages;grind[CH,Az,a3e,Gb,Xv]
theorem TF:∀(g:List Nat)(ks l L:LI),ks.all kB=ka->(Jc g ks l L).length<=L.length+10*g.length+100*l.length|z::g,k::ks,l,L,h=>by simp only[C3,bA]at h;have f:=Vz h.1 (l.take z) L;have a:=TF g ks (l.drop z) (Sk k (l.take z) L) h.2;rw[D3]at f;rw[E7]at a;simp only[Jc,lC];omega|[],_,_,_,_=>by simp_all[Jc]|_::_,[],_,_,_=>by grind[Jc]
def EG(s:BN)(zn:List Nat)(L:List Int):List Int:=
 if s.1=0\/s.1=1 then Dg (Ax s.2.2.2.2.2.2.2.2.1) s.2.2.2.2.2.2.2.2.1 (CH s (Tg s L))
 else Dt s.2.2.2.2.2.2.2.2.2.1 zn s.2.2.2.2.2.2.2.2.2.2.1 (Dg (Ax s.2.2.2.2.2.2.2.2.1) s.2.2.2.2.2.2.2.2.1 (CH s (Tg s L)))
theorem bH{s:BN}(h:sO s){n:Int}{L:LI}(U:L.length<100000000):
  ∃(e:Int)(d:LI),Ry (wL L,s,n)=kc (e,wL d)/\(e=0\/d=L)/\d.length<=L.length+700000/\
   ((EF s n).isSome=ka->e=0/\∃a,d=EG s a L/\(s.1≠0/\s.1≠1->sW s.2.2.2.2.2.2.2.2.2.1 n ((s.2.2.2.2.2.2.2.2.1.length:Nat):Int) s.2.2.2.2.2.2.2.2.2.2.1 a))/\((EF s n).isSome=kb->e=1/\d=L):=by
 unfold Ry;simp only[b2b h,oB];cases hs:(EF s n).isSome with
 |false=>exact⟨1,L,rfl,.inr rfl,by omega,λh=>(by grind),λ_=>⟨rfl,rfl⟩⟩
 |true=>
  have C:BW s n:=by
   grind[EF]
  obtain⟨S,T,B,-,-,-,-,w,G,D,-,q⟩:=C;have b:=Yt B;have o:=EO s.2.2.2.2.2.2.2.2.1;have v:short s.2.2.2.2.2.2.2.2.1:=by have:=h.sH;unfold short;omega
  have c:=h.sH;have u:=h.rest;have E:=h.stages;have F:=h.taps;have V:=Az (zB .u64 s.1) 3 L;have X:=Az (zB .u64 s.2.1) 5 (AJ (zB .u64 s.1) 3 L);have Y:=Az ((Ax s.2.2.2.2.2.2.2.2.1:Nat):Int) 5 (AJ (zB .u64 s.2.1) 5 (AJ (zB .u64 s.1) 3 L));have A:zB .u64 ((Ax s.2.2.2.2.2.2.2.2.1:Nat):Int)=((Ax s.2.2.2.2.2.2.2.2.1:Nat):Int):=Av (by omega);have N:Ap (wL L,zB .u64 s.1,(3:Int))=kc (KN (zB .u64 s.1) 3,wL (AJ (zB .u64 s.1) 3 L)):=Ja (n:=3) (by omega) (by omega);have O:Ap (wL (AJ (zB .u64 s.1) 3 L),zB .u64 s.2.1,(5:Int))=kc (KN (zB .u64 s.2.1) 5,wL (AJ (zB .u64 s.2.1) 5 (AJ (zB .u64 s.1) 3 L))):=Ja (n:=5) (by omega) (by omega);have x:Ap (wL (AJ (zB .u64 s.2.1) 5 (AJ (zB .u64 s.1) 3 L)),((Ax s.2.2.2.2.2.2.2.2.1:Nat):Int),(5:Int))=kc (KN ((Ax s.2.2.2.2.2.2.2.2.1:Nat):Int) 5,wL (Tg s L)):=Ja (n:=5) (by omega) (by omega);have P:(Tg s L).length<=L.length+13:=by unfold Tg;omega
  generalize hM:Tg s L=M at x P;have Z:=eZ h M;have Q:=Gb (Ax s.2.2.2.2.2.2.2.2.1) s.2.2.2.2.2.2.2.2.1 (CH s M);have q7:Ax s.2.2.2.2.2.2.2.2.1*s.2.2.2.2.2.2.2.2.1.length<=32*5000:=I3 o c;have g:=a4j (l:=s.2.2.2.2.2.2.2.2.1) (n:=n) (s:=s) o (by omega) s.2.2.2.2.2.2.2.2.1.length 0 (CH s M) (by omega) (by omega);simp at g

  have j:=lM (st:=s.2.2.2.2.2.2.2.1) (n:=n) (wd:=((Ax s.2.2.2.2.2.2.2.2.1:Nat):Int)) (s:=s) (by omega) s.2.2.2.2.2.2.2.1.length 0 (AJ (zB .u64 ((s.2.2.2.2.2.2.2.1.length:Nat):Int)) 2 M) (by omega) (by grind[Az]);have q8:=Az (zB .u64 (zB .i64 (s.2.2.2.2.1-1))) 10 M;have q9:=Gb 8 s.2.2.2.2.2.2.1 (AJ (zB .u64 (zB .i64 (s.2.2.2.2.1-1))) 10 M);have m:=a4i (t:=s.2.2.2.2.2.2.1) (n:=n) (wd:=((Ax s.2.2.2.2.2.2.2.2.1:Nat):Int)) (s:=s) F 3 0 (AJ (zB .u64 (zB .i64 (s.2.2.2.2.1-1))) 10 M) (by rfl) (by omega);simp at j m;have H:Ap (wL M,zB .u64 s.2.2.1,(3:Int))=kc (KN (zB .u64 s.2.2.1) 3,wL (AJ (zB .u64 s.2.2.1) 3 M)):=Ja (n:=3) (by omega) (by omega);have I:Ap (wL M,zB .u64 (zB .i64 (s.2.2.2.2.1-1)),(10:Int))=kc (KN (zB .u64 (zB .i64 (s.2.2.2.2.1-1))) 10,wL (AJ (zB .u64 (zB .i64 (s.2.2.2.2.1-1))) 10 M)):=Ja (n:=10) (by omega) (by omega);have K:Ap (wL M,zB .u64 ((s.2.2.2.2.2.2.2.1.length:Nat):Int),(2:Int))=kc (KN (zB .u64 ((s.2.2.2.2.2.2.2.1.length:Nat):Int)) 2,wL (AJ (zB .u64 ((s.2.2.2.2.2.2.2.1.length:Nat):Int)) 2 M)):=Ja (n:=2) (by omega) (by omega);have y:=lP (s:=s) h.uV (L:=M) (by omega);have z:=lP (s:=s) h.uV (L:=Dg 8 s.2.2.2.2.2.2.1 (AJ (zB .u64 (zB .i64 (s.2.2.2.2.1-1))) 10 M)) (by omega);simp only[bT,cF,IF v,oB,N,O,A,x];generalize hPM:Dg (Ax s.2.2.2.2.2.2.2.2.1) s.2.2.2.2.2.2.2.2.1 (CH s M)=PM at g Q

  have p:∀(i:s.1≠0/\s.1≠1),∃a,sW s.2.2.2.2.2.2.2.2.2.1 n ((s.2.2.2.2.2.2.2.2.1.length:Nat):Int) s.2.2.2.2.2.2.2.2.2.2.1 a:=λi=>by
   simp_all[sW.of]
  rcases b with k|k|k|k|k|k;have f:CH s M=M:=by unfold CH;grind
  rw[f]at g;refine⟨0,PM,?_,.inl rfl,by omega,λ_=>⟨rfl,[],by simp_all[EG],λh=>absurd k (by omega)⟩,λh=>by grind⟩;simp only[k,show((0:Int)==2)=kb from rfl,show((0:Int)==4)=kb from rfl,show((0:Int)==3)=kb from rfl,show((0:Int)==5)=kb from rfl,cF,oB,g,OE]
  simp
  have f:CH s M=M:=by unfold CH;grind
  rw[f]at g;refine⟨0,PM,?_,.inl rfl,by omega,λ_=>⟨rfl,[],by simp_all[EG],λh=>absurd k (by omega)⟩,λh=>by grind⟩;simp only[k,show((1:Int)==2)=kb from rfl,show((1:Int)==4)=kb from rfl,show((1:Int)==3)=kb from rfl,show((1:Int)==5)=kb from rfl,cF,oB,g,OE]
  simp
  all_goals
   obtain⟨a,r⟩:=p (by omega);have t1:=a6t (L:=PM) r (by omega);have R:(Dt s.2.2.2.2.2.2.2.2.2.1 a s.2.2.2.2.2.2.2.2.2.2.1 PM).length<=L.length+700000:=by
    have z1:=Az (zB .u64 s.2.2.2.2.2.2.2.2.2.1.1) 4 PM;have z2:=TF a s.2.2.2.2.2.2.2.2.2.1.2.1 s.2.2.2.2.2.2.2.2.2.2.1 (AJ (zB .u64 s.2.2.2.2.2.2.2.2.2.1.1) 4 PM) r.all;have z3:=r.len;grind[Dt]
   refine⟨0,Dt s.2.2.2.2.2.2.2.2.2.1 a s.2.2.2.2.2.2.2.2.2.2.1 PM,?_,.inl rfl,R,λ_=>⟨rfl,a,by simp_all[EG],λ_=>r⟩,λh=>by grind⟩
  have f:CH s M=AJ (zB .u64 s.2.2.1) 3 M:=by unfold CH;grind
  rw[f]at g;simp only[k,show((2:Int)==2)=ka from rfl,cT,H,oB,g,OE];grind;have f:CH s M=JZ s M:=by unfold CH;grind
  rw[f]at g;simp only[k,show((3:Int)==2)=kb from rfl,show((3:Int)==4)=kb from rfl,show((3:Int)==3)=ka from rfl,cT,cF,y,oB,g,OE];grind;have f:CH s M=JZ s (Dg 8 s.2.2.2.2.2.2.1 (AJ (zB .u64 (zB .i64 (s.2.2.2.2.1-1))) 10 M)):=by unfold CH;grind
  rw[f]at g;simp only[k,show((4:Int)==2)=kb from rfl,show((4:Int)==4)=ka from rfl,cT,cF,I,m,z,oB,g,OE];grind;have f:CH s M=Fm s.2.2.2.2.2.2.2.1 (AJ (zB .u64 ((s.2.2.2.2.2.2.2.1.length:Nat):Int)) 2 M):=by unfold CH;grind
  rw[f]at g;simp only[k,show((5:Int)==2)=kb from rfl,show((5:Int)==4)=kb from rfl,show((5:Int)==3)=kb from rfl,show((5:Int)==5)=ka from rfl,cT,cF,K,j,oB,g,OE];grind
theorem a0H{s:BN}(h:sO s){n:Int}{L:LI}(T:L.length<100000000):
  ∃(e:Int)(i:LI),KJ ((L,()),s,n)=kc (e,i,())/\(e=0\/i=L)/\i.length<=L.length+700000/\
   ((EF s n).isSome=ka->e=0/\∃a,i=EG s a L/\(s.1≠0/\s.1≠1->sW s.2.2.2.2.2.2.2.2.2.1 n ((s.2.2.2.2.2.2.2.2.1.length:Nat):Int) s.2.2.2.2.2.2.2.2.2.2.1 a))/\((EF s n).isSome=kb->e=1/\i=L):=by
 unfold KJ;simp only[a3b h,oB];cases hs:(EF s n).isSome with
 |false=>grind
 |true=>
  have F:BW s n:=by
   grind[EF]
  obtain⟨R,S,E,-,-,-,-,B,I,G,-,p⟩:=F;have c:=Yt E;have x:=EO s.2.2.2.2.2.2.2.2.1;have w:short s.2.2.2.2.2.2.2.2.1:=by have:=h.sH;unfold short;omega
  have d:=h.sH;have v:=h.rest;have H:=h.stages;have U:=h.taps;have V:=Az (zB .u64 s.1) 3 L;have X:=Az (zB .u64 s.2.1) 5 (AJ (zB .u64 s.1) 3 L);have Y:=Az ((Ax s.2.2.2.2.2.2.2.2.1:Nat):Int) 5 (AJ (zB .u64 s.2.1) 5 (AJ (zB .u64 s.1) 3 L));have D:zB .u64 ((Ax s.2.2.2.2.2.2.2.2.1:Nat):Int)=((Ax s.2.2.2.2.2.2.2.2.1:Nat):Int):=Av (by omega);have O:Ar ((L,()),zB .u64 s.1,(3:Int))=kc (KN (zB .u64 s.1) 3,AJ (zB .u64 s.1) 3 L,()):=Cc (n:=3) (by omega) (by omega);have P:Ar ((AJ (zB .u64 s.1) 3 L,()),zB .u64 s.2.1,(5:Int))=kc (KN (zB .u64 s.2.1) 5,AJ (zB .u64 s.2.1) 5 (AJ (zB .u64 s.1) 3 L),()):=Cc (n:=5) (by omega) (by omega);have C:Ar ((AJ (zB .u64 s.2.1) 5 (AJ (zB .u64 s.1) 3 L),()),((Ax s.2.2.2.2.2.2.2.2.1:Nat):Int),(5:Int))=kc (KN ((Ax s.2.2.2.2.2.2.2.2.1:Nat):Int) 5,Tg s L,()):=Cc (n:=5) (by omega) (by omega);have K:(Tg s L).length<=L.length+13:=by unfold Tg;omega
  generalize hM:Tg s L=M at C K;have Z:=eZ h M;have N:=Gb (Ax s.2.2.2.2.2.2.2.2.1) s.2.2.2.2.2.2.2.2.1 (CH s M);have q7:Ax s.2.2.2.2.2.2.2.2.1*s.2.2.2.2.2.2.2.2.1.length<=32*5000:=I3 x d;have g:=KO (l:=s.2.2.2.2.2.2.2.2.1) (n:=Ax s.2.2.2.2.2.2.2.2.1) (L:=CH s M) (by omega) (by omega) (by omega)

  have b:=VT (n:=n) (wd:=((Ax s.2.2.2.2.2.2.2.2.1:Nat):Int)) (s:=s) (by omega) s.2.2.2.2.2.2.2.1.length 0 (AJ (zB .u64 ((s.2.2.2.2.2.2.2.1.length:Nat):Int)) 2 M) (by omega) (by grind[Az]);have q8:=Az (zB .u64 (zB .i64 (s.2.2.2.2.1-1))) 10 M;have q9:=Gb 8 s.2.2.2.2.2.2.1 (AJ (zB .u64 (zB .i64 (s.2.2.2.2.1-1))) 10 M);have m:DR ((AJ (zB .u64 (zB .i64 (s.2.2.2.2.1-1))) 10 M,()),s.2.2.2.2.2.2.1,(8:Int))=kc (Dg 8 s.2.2.2.2.2.2.1 (AJ (zB .u64 (zB .i64 (s.2.2.2.2.1-1))) 10 M),()):=KO (n:=8) (by omega) (by omega) (by omega);have u:H7 3 s.2.2.2.2.2.2.1=s.2.2.2.2.2.2.1:=C7 (by omega);simp at b;have y:Ar ((M,()),zB .u64 s.2.2.1,(3:Int))=kc (KN (zB .u64 s.2.2.1) 3,AJ (zB .u64 s.2.2.1) 3 M,()):=Cc (n:=3) (by omega) (by omega);have z:Ar ((M,()),zB .u64 (zB .i64 (s.2.2.2.2.1-1)),(10:Int))=kc (KN (zB .u64 (zB .i64 (s.2.2.2.2.1-1))) 10,AJ (zB .u64 (zB .i64 (s.2.2.2.2.1-1))) 10 M,()):=Cc (n:=10) (by omega) (by omega);have A:Ar ((M,()),zB .u64 ((s.2.2.2.2.2.2.2.1.length:Nat):Int),(2:Int))=kc (KN (zB .u64 ((s.2.2.2.2.2.2.2.1.length:Nat):Int)) 2,AJ (zB .u64 ((s.2.2.2.2.2.2.2.1.length:Nat):Int)) 2 M,()):=Cc (n:=2) (by omega) (by omega);have r:=Um (s:=s) h.uV (L:=M) (by omega);have t:=Um (s:=s) h.uV (L:=Dg 8 s.2.2.2.2.2.2.1 (AJ (zB .u64 (zB .i64 (s.2.2.2.2.1-1))) 10 M)) (by omega);simp only[bT,cF,NV w,oB,O,P,D,C];generalize hPM:Dg (Ax s.2.2.2.2.2.2.2.2.1) s.2.2.2.2.2.2.2.2.1 (CH s M)=PM at g N

  have o:∀(j:s.1≠0/\s.1≠1),∃a,sW s.2.2.2.2.2.2.2.2.2.1 n ((s.2.2.2.2.2.2.2.2.1.length:Nat):Int) s.2.2.2.2.2.2.2.2.2.2.1 a:=λj=>by
   simp_all[sW.of]
  rcases c with k|k|k|k|k|k;have f:CH s M=M:=by unfold CH;grind
  rw[f]at g;refine⟨0,PM,?_,.inl rfl,by omega,λ_=>⟨rfl,[],by simp_all[EG],λh=>absurd k (by omega)⟩,λh=>by grind⟩;simp only[k,show((0:Int)==2)=kb from rfl,show((0:Int)==4)=kb from rfl,show((0:Int)==3)=kb from rfl,show((0:Int)==5)=kb from rfl,cF,oB,g,JY]
  simp
  have f:CH s M=M:=by unfold CH;grind
  rw[f]at g;refine⟨0,PM,?_,.inl rfl,by omega,λ_=>⟨rfl,[],by simp_all[EG],λh=>absurd k (by omega)⟩,λh=>by grind⟩;simp only[k,show((1:Int)==2)=kb from rfl,show((1:Int)==4)=kb from rfl,show((1:Int)==3)=kb from rfl,show((1:Int)==5)=kb from rfl,cF,oB,g,JY]
  simp
  all_goals
   obtain⟨a,q⟩:=o (by omega);have t2:=oI (L:=PM) q (by omega);have Q:(Dt s.2.2.2.2.2.2.2.2.2.1 a s.2.2.2.2.2.2.2.2.2.2.1 PM).length<=L.length+700000:=by
    have z1:=Az (zB .u64 s.2.2.2.2.2.2.2.2.2.1.1) 4 PM;have z2:=TF a s.2.2.2.2.2.2.2.2.2.1.2.1 s.2.2.2.2.2.2.2.2.2.2.1 (AJ (zB .u64 s.2.2.2.2.2.2.2.2.2.1.1) 4 PM) q.all;have z3:=q.len;grind[Dt]
   refine⟨0,Dt s.2.2.2.2.2.2.2.2.2.1 a s.2.2.2.2.2.2.2.2.2.2.1 PM,?_,.inl rfl,Q,λ_=>⟨rfl,a,by simp_all[EG],λ_=>q⟩,λh=>by grind⟩
  have f:CH s M=AJ (zB .u64 s.2.2.1) 3 M:=by unfold CH;grind
  rw[f]at g;simp only[k,show((2:Int)==2)=ka from rfl,cT,y,oB,g,JY];grind;have f:CH s M=JZ s M:=by unfold CH;grind
  rw[f]at g;simp only[k,show((3:Int)==2)=kb from rfl,show((3:Int)==3)=ka from rfl,cT,cF,r,oB,g,JY];grind;have f:CH s M=JZ s (Dg 8 s.2.2.2.2.2.2.1 (AJ (zB .u64 (zB .i64 (s.2.2.2.2.1-1))) 10 M)):=by unfold CH;grind
  rw[f]at g;simp only[k,show((4:Int)==2)=kb from rfl,show((4:Int)==3)=kb from rfl,show((4:Int)==4)=ka from rfl,cT,cF,z,u,m,t,oB,g,JY];grind;have f:CH s M=Fm s.2.2.2.2.2.2.2.1 (AJ (zB .u64 ((s.2.2.2.2.2.2.2.1.length:Nat):Int)) 2 M):=by unfold CH;grind
  rw[f]at g;simp only[k,show((5:Int)==2)=kb from rfl,show((5:Int)==4)=kb from rfl,show((5:Int)==3)=kb from rfl,show((5:Int)==5)=ka from rfl,cT,cF,A,b,oB,g,JY];grind
theorem PK(h:List Nat):(CG h).map D5=h:=by unfold CG;rw[List.map_map];(have:D5∘(λ(a:Nat)=>(a:Int))=id:=by rfl);simp_all
theorem b5s{p:Xq}{n sH:Int}{l:LI}{z g:List Nat}(h:sW p n sH l z)(f:sW p n sH l g):z=g:=by rw[<-PK z,<-h.sizes,f.sizes,PK]
def KS(s:BN)(n:Int):Int:=if(EF s n).isSome=ka then(((EG s ((Cm s.2.2.2.2.2.2.2.2.2.1.1 n ((s.2.2.2.2.2.2.2.2.1.length:Nat):Int)).map D5) []).length:Nat):Int)else 0
theorem pH{s:BN}{n:Int}{h:List Nat}(g:s.1≠0/\s.1≠1->sW s.2.2.2.2.2.2.2.2.2.1 n (s.2.2.2.2.2.2.2.2.1.length:Int) s.2.2.2.2.2.2.2.2.2.2.1 h)(L:LI):EG s h L=EG s ((Cm s.2.2.2.2.2.2.2.2.2.1.1 n (s.2.2.2.2.2.2.2.2.1.length:Int)).map D5) L:=by by_cases hk:s.1=0\/s.1=1;simp_all[EG];rw[(g (not_or.1 hk)).sizes,PK]
theorem b3E{s:BN}(h:sO s)(n:Int):JK (s,n)=kc (KS s n):=by obtain⟨e,f,g,-,-,k,c⟩:=bH h (n:=n) (L:=[]) (by simp);have a:wL []=(([]:List Int),(0:Int),()):=rfl;rw[a]at g;obtain⟨d,-⟩:=NT f;unfold JK KS;simp[g,Nm];cases hs:(EF s n).isSome with|false=>simp_all|true=>obtain⟨rfl,i,rfl,b⟩:=k hs;rw[if_pos rfl,<-pH b];simp_all
theorem a9e{s:BN}(h:sO s)(n:Int):OY (s,n)=kc (KS s n):=by obtain⟨e,a,g,-,-,f,b⟩:=a0H h (n:=n) (L:=[]) (by simp);unfold OY KS;simp only[g,oB,PX];cases hs:(EF s n).isSome with|false=>simp_all|true=>obtain⟨rfl,c,rfl,k⟩:=f hs;rw[if_pos rfl,<-pH k]
def a0I(L:List Int)(i:Nat):List Int:=(wL (L.take i)).1++A6 ((L.length+7) / 8-(i+7) / 8) 0
theorem a9f{L:LI}{i:Nat}(h:i<=L.length):(a0I L i).length=(L.length+7) / 8:=by grind[NT,a0I]
theorem b5t{L:LI}{i:Nat}(h:i<L.length):(a0I L i).set (i / 8) (bits .u8 .or ((a0I L i).getD (i / 8) 0) (AO .u8 L[i] (7-(i:Int)%8)))=a0I L (i+1):=by
 obtain⟨g,f⟩:=NT (L.take i);rw[D3,J7 (E3 h)]at g f;have b:L.take (i+1)=L.take i++[L[i]]:=by simp
 unfold a0I;rw[b,eU];generalize wL (L.take i)=wr at g f|-;obtain⟨a,n,u⟩:=wr;have g:n=(i:Int):=g;have f:a.length=(i+7) / 8:=f;subst g;have e8:((i:Int) / 8).toNat=i / 8:=by rfl
 unfold a8Z;simp only[e8];by_cases hz:i%8=0;have k:(i:Int)%8=0:=by omega
 rw[if_pos k];have c:(L.length+7) / 8-(i+7) / 8=((L.length+7) / 8-(i+1+7) / 8)+1:=by omega
 grind;grind
theorem a6u{L:LI}(E:L.length<1000000000):Jt (L,())=kc ((wL L).1,L,()):=by
 have x:zB .i64 (((L.length:Nat):Int)+7)=((L.length:Nat):Int)+7:=Al (by omega);have y:Int.tdiv (((L.length:Nat):Int)+7) 8=(((L.length:Nat):Int)+7) / 8:=E5 (by omega);have z:zB .i64 ((((L.length:Nat):Int)+7) / 8)=(((L.length:Nat):Int)+7) / 8:=Al (by omega);have A:D5 ((((L.length:Nat):Int)+7) / 8)=(L.length+7) / 8:=by rfl
 have B:A3 ((0:Int)<=(((L.length:Nat):Int)+7) / 8)=ka:=by rfl
 have C:A3 ((((L.length:Nat):Int)+7) / 8<=(((L.length:Nat):Int)+7) / 8)=ka:=by simp
 have D:AZ ((L.length+7) / 8)=ka:=AN (by omega);have h:a0I L 0=A6 ((L.length+7) / 8) 0:=by rfl
 have l:a0I L L.length=(wL L).1:=by simp[a0I]
 have a:=AD (f:=FY) (λi:Nat=>((i:Int),a0I L i,(L,()),())) L.length (b:=((wL L).1,(L,()),()))
  (λi m=>by
   have q:Int.tdiv (i:Int) 8=(i:Int) / 8:=E5 (by omega);have r:G9 (i:Int) 8=(i:Int)%8:=F6 (by omega);have t:zB .i64 ((i:Int) / 8)=(i:Int) / 8:=Al (by omega);have u:zB .i64 (7-(i:Int)%8)=7-(i:Int)%8:=Al (by omega);have v:zB .u64 (7-(i:Int)%8)=7-(i:Int)%8:=Av (by omega);have w:zB .i64 ((i:Int)+1)=((i+1:Nat):Int):=by grind[Al]
   have k:A3 ((i:Int)<((L.length:Nat):Int))=ka:=by simp_all
   have c:A3 ((0:Int)<=(i:Int) / 8)=ka:=by rfl
   have d:A3 ((i:Int) / 8<(((a0I L i).length:Nat):Int))=ka:=by grind[a9f]
   have e:A3 ((0:Int)<=(i:Int))=ka:=by simp
   have j:A3 (7-(i:Int)%8<0)=kb:=by grind
   have n:D5 ((i:Int) / 8)=i / 8:=by rfl
   have o:D5 (i:Int)=i:=by rfl
   have g:L.getD i 0=L[i]:=by simp_all
   have p:=b5t m;simp only[FY,q,r,t,u,v,w,k,c,d,e,j,n,o,g,p,A7,cT,cF])
  (by
   have k:A3 (((L.length:Nat):Int)<((L.length:Nat):Int))=kb:=by simp
   simp_all[FY])
 simp_all[Jt]
def a9g:List Int->List Int|a::b::r=>W (b-a)::a9g (b::r)|_=>[]
theorem Mv:∀l:List Int,(a9g l).length=l.length-1|[]=>rfl|[_]=>rfl|a::b::r=>by simp[a9g,Mv (b::r)]
theorem pI:∀(l:LI)(i:Nat)(x y:Int),l[i]?=kc x->l[i+1]?=kc y->(a9g l)[i]?=kc (W (y-x))|a::b::r,0,x,y,h,g=>by simp at h g;subst h;subst g;rfl|a::b::r,i+1,x,y,h,g=>(by simp only[a9g,List.getElem?_cons_succ]at h g|-;exact pI (b::r) i x y h g)|[_],0,x,y,h,g=>by simp_all|[_],i+1,x,y,h,g=>by simp_all|[],i,x,y,h,g=>by simp_all
def Hq:Nat->List Int->List Int|0,l=>l|o+1,l=>a9g (Hq o l)
theorem Ka(l:LI):∀o,(Hq o l).length=l.length-o|0=>rfl|o+1=>by simp only[Hq,Mv,Ka l o];omega
theorem Sn{l:LI}(h:short l)(o:Nat):short (Hq o l):=by have h:l.length<1000000:=h;show(Hq o l).length<1000000;rw[Ka];omega
def iV(l:List Int)(i:Nat):List Int:=(a9g l).take i++l.drop i
theorem Xw{l:LI}{i:Nat}(h:i<=l.length-1):(iV l i).length=l.length:=by grind[iV,Mv]
theorem a4k{l:LI}{i j:Nat}(h:i<=l.length-1)(g:i<=j):(iV l i).getD j 0=l.getD j 0:=by simp_all[Mv,iV,List.getElem?_append_right]
theorem b8t{l:LI}{i:Nat}(h:i<l.length-1):(iV l i).set i (W (l.getD (i+1) 0-l.getD i 0))=iV l (i+1):=by
 have e:((a9g l).take i).length=i:=by grind[Mv]
 have f:l[i]?=kc l[i]:=lG (by omega);have k:l[i+1]?=kc l[i+1]:=lG (by omega);have a:=pI l i _ _ f k;have g:i<(a9g l).length:=by grind
 simp only[iV];rw[List.set_append,if_neg (by omega),e,G3,A4 (show i<l.length by omega),F4,B4 g,aA];grind
theorem b2c{l:LI}{o k:Int}(g:short l)(h:1<=l.length):Ah Ii ((0:Int),o,k,l,())=kc (o,k,iV l (l.length-1),()):=by
 have g:l.length<1000000:=g;have r:iV l 0=l:=by rfl
 have:=AD (f:=Ii) (λi:Nat=>((i:Int),o,k,iV l i,())) (l.length-1) (b:=(o,k,iV l (l.length-1),()))
  (λi t=>by
   have d:zB .i64 ((i:Int)+1)=((i+1:Nat):Int):=Aa (by omega);have c:=Xw (l:=l) (i:=i) (by omega);have a:A3 (((i+1:Nat):Int)<(l.length:Int))=ka:=by grind
   have e:A3 ((0:Int)<=((i+1:Nat):Int))=ka:=by rfl
   have m:A3 ((0:Int)<=(i:Int))=ka:=by simp
   have n:A3 ((i:Int)<(l.length:Int))=ka:=by grind
   have u:D5 ((i+1:Nat):Int)=i+1:=by rfl
   have v:D5 (i:Int)=i:=by rfl
   have w:=b8t (l:=l) (i:=i) (by omega);have p:=a4k (l:=l) (i:=i) (j:=i+1) (by omega) (by omega);have q:=a4k (l:=l) (i:=i) (j:=i) (by omega) (by omega);simp_all[Ii])
  (by
   have c:=Xw (l:=l) (i:=l.length-1) (by omega);have d:zB .i64 (((l.length-1:Nat):Int)+1)=(l.length:Int):=by grind[Al]
   have a:A3 ((l.length:Int)<(l.length:Int))=kb:=by simp
   simp_all[Ii])
 simp_all
theorem b5u{l:LI}:(iV l (l.length-1)).take (l.length-1)=a9g l:=by simp_all[C7,Mv,iV]
theorem Zo{l:LI}{o:Nat}(z:o<=4)(y:o<=l.length)(g:short l)(r:l.all Ae=ka):
  HI (l,(o:Int))=kc (bif (Hq o l).all Ae then(Hq o l,0)else([],6)):=by
 have q:l.length<1000000:=g;have h:=AD (f:=LN) (λk:Nat=>((o:Int),(k:Int),Hq k l,())) o (b:=(Hq o l,()))
  (λk w=>by
   have n:1<=(Hq k l).length:=by rw[Ka];omega
   have p:(Hq k l).length<1000000:=Sn g k;have j:A3 ((k:Int)<(o:Int))=ka:=by simp_all
   have x:=Xw (l:=Hq k l) (i:=(Hq k l).length-1) (by omega);have A:zB .i64 ((((Hq k l).length:Nat):Int)-1)=(((Hq k l).length-1:Nat):Int):=by grind[Al]
   have B:zB .i64 ((k:Int)+1)=((k+1:Nat):Int):=Aa (by omega);have t:A3 ((0:Int)<=(((Hq k l).length-1:Nat):Int))=ka:=by simp
   have u:A3 ((((Hq k l).length-1:Nat):Int)<=(((Hq k l).length:Nat):Int))=ka:=by simp
   have v:A3 ((Hq k l).length-1<=(Hq k l).length)=ka:=by simp
   simp_all[Hq,LN,b2c,Sn,b5u])
  (by
   have j:A3 ((o:Int)<(o:Int))=kb:=by simp
   simp_all[LN])
 have a:A3 ((o:Int)<0)=kb:=by simp
 have c:A3 ((o:Int) > 4)=kb:=by grind
 have d:A3 (((l.length:Nat):Int)<(o:Int))=kb:=by simp_all
 have e:AZ l.length=ka:=AN (by omega);simp at h;have m:Hq 0 l=l:=rfl;rw[m]at h;unfold HI;simp only[a,c,d,e,cF,cT,oB,LF g,r,bT,h,LF (Sn g o)];grind
def ex:Nat->(Nat->Int)->Nat->Int|0,f,i=>f i|o+1,f,i=>ex o f (i+1)-ex o f i
theorem a0J{l:LI}(g:l.all Ae=ka):∀(o i:Nat),i+o<l.length->(Hq o l)[i]?=kc (W (ex o (λj=>l.getD j 0) i))|0,i,h=>by simp_all[Hq,ex,Yr]|o+1,i,h=>by have f:=a0J g o i (by omega);have k:=a0J g o (i+1) (by omega);simp_all[Hq,ex,pI,MH]
theorem b5v{l:LI}(e:l.all Ae=ka){o j:Nat}(d:o<=4)(h:o+j<l.length):W (W (ex o (λj=>l.getD j 0) j)+Oe o (l.take (o+j)))=l.getD (o+j) 0:=by
 have f:Ae (l.getD (o+j) 0)=ka:=by simp_all
 have g:∀i:Nat,1<=i->i<=o->a0s (l.take (o+j)) i=l.getD (o+j-i) 0:=λi b c=>by simp[a0s,J7 (E3 h),List.getElem?_take];grind
 have a:ex o (λj=>l.getD j 0) j+Oe o (l.take (o+j))=l.getD (o+j) 0:=by(have k:o=0\/o=1\/o=2\/o=3\/o=4:=by omega);rcases k with rfl|rfl|rfl|rfl|rfl;simp[ex,Oe];all_goals grind[ex,Oe]
 have:W (W (ex o (λj=>l.getD j 0) j)+Oe o (l.take (o+j)))=W (ex o (λj=>l.getD j 0) j+Oe o (l.take (o+j))):=by simp_all[MH]
 simp_all[Yr]
theorem a9h{l:LI}(f:l.all Ae=ka){o:Nat}(b:o<=4):∀(k j:Nat),o+j+k=l.length->JV (Oe o) ((Hq o l).drop j) (l.take (o+j))=kc l|0,j,h=>by rw[List.drop_of_length_le (by rw[Ka];omega),C7 (by omega)];rfl|k+1,j,h=>by(have g:j<(Hq o l).length:=by rw[Ka];omega);(have a:=a0J f o j (by omega);rw[lG g]at a;have e:=Option.some.inj a;have d:l.getD (o+j) 0=l[o+j]:=by grind);(have c:=b5v f b (show o+j<l.length by omega);rw[d]at c;rw[A4 g,e];simp only[JV,c,lA.1 f _ (B3 (show o+j<l.length by omega)),cT];have i:l.take (o+j)++[l[o+j]]=l.take (o+(j+1)):=by rw[show o+(j+1)=(o+j)+1 by rfl];simp);rw[i];exact a9h f b k (j+1) (by omega)
theorem b3F{M β:Type}{f:M->Option (M ⊕ β)}(I:Nat->M->Prop)(Q:β->Prop)(n:Nat)(g:∀i s,i<n->I i s->∃s',f s=kc (.inl s')/\I (i+1) s') (a:∀s,I n s->∃b,f s=kc (.inr b)/\Q b):∀(k i:Nat)(s:M),i+k=n->I i s->∃b,Ah f s=kc b/\Q b|0,i,s,h,c=>by(obtain rfl:i=n:=by omega);grind[Ad]|k+1,i,s,h,c=>by obtain⟨s',d,e⟩:=g i s (by omega) c;rw[Ag d];exact b3F I Q n g a k (i+1) s' (by omega) e
theorem lQ(y:Int):0<=zB .u64 y/\zB .u64 y<18446744073709551616:=by grind[zB,IntKind.bits,IntKind.signed]
def Zp(n:Int)(x:Int):Bool:=Ae x&&!(G9 x (AO .i64 1 n) != 0)
def fA{β:Type}(n:Int)(bad:β)(out:List Int)(x:Int):List Int ⊕ β:=bif Zp n x then .inl (out++[Au .i64 x n])else .inr bad
def Xx(n:Int)(l:List Int):Option (List Int):=bif l.all (Zp n)then kc (l.map λx=>Au .i64 x n)else kd
theorem Zq{β:Type}(n:Int)(h:β)(g:List Int->β):∀(l out:LI),Sz g (Gq (fA n h) l out)=match Xx n l with|some r=>g (out++r)|none=>h
 | [],out=>by grind[Gq,Sz,Xx]
 |x::l,out=>by
  simp only[Gq,fA,Xx,C3];cases hx:Zp n x with
  |true=>
   simp only[cT,C2];rw[Zq n h g l _];simp only[Xx];cases l.all (Zp n)with
   |true=>simp
   |false=>rfl
  |false=>rfl
theorem b8u{o:Nat}(h:o<=30):AO .i64 1 (o:Int)=((2^o:Nat):Int):=by have g:2^o<=2^30:=D8 (by omega) h;have:=eQ (N:=1) (o:=o) (by omega) (by omega);simp_all
theorem Xy{l:LI}{o:Nat}(e:o<=30)(n:l.length<100000):Ln (l,(o:Int))=kc (JW (Xx (o:Int) l)):=by
 have j:short l:=by unfold short;omega
 have k:¬ (o:Int)<0:=by omega
 have c:¬ (o:Int) > 30:=by omega
 have d:(AO .i64 (1:Int) (o:Int)==0)=kb:=by
  rw[b8u e]
  have:0<2^o:=F0 o
  grind
 unfold Ln;simp[k,c]
 have:=Bi (f:=Ko) l (λi g=>((o:Int),l,(l.length:Int),(i:Int),g,())) (fA (o:Int) (C1 ((6:Int),([]:List Int),())))
  (λi g=>g.length=i) (λg=>B7 (g,()))
  (λi h g m=>by
   have b:i<1000000:=by omega
   simp only[Ko,Bp h,cT,Ac h,oB,Xl,fA,Zp,k,d,decide_false,cF];cases hb:Ae l[i]with
   |true=>
    cases hb2:(G9 l[i] (AO .i64 1 (o:Int)) != 0)with
    |false=>
     simp only[cT,bT,cF,oB,k,decide_false,Aw (show g.length+1<1000000 by omega),Aa b,A7,C6,hb2];simp_all
    |true=>
     simp
   |false=>
    simp)
  (λg _=>by simp[Ko]) (a:=[]) rfl
 simp[Zq]at this;rw[this];cases Xx (o:Int) l<;>rfl
theorem a0K{o:Nat}(h:o<=30){x:Int}(k:Zp (o:Int) x=ka):Ae (Au .i64 x (o:Int))=ka/\AO .i64 (Au .i64 x (o:Int)) (o:Int)=x/\Ae x=ka:=by
 simp only[Zp,b8u h,bA,F7,bne_eq_false_iff_eq]at k;obtain⟨f,d⟩:=k;obtain⟨c,rfl⟩:=Int.dvd_of_tmod_eq_zero d;have g:=Cp.1 f;have e:min (D5 (o:Int)) (IntKind.bits .i64)=o:=by grind[IntKind.bits]
 have i:(0:Int)<2^o:=Int.pow_pos (by omega);have b:((2^o:Nat):Int)=2^o:=by simp
 rw[b]at g f|-;have a:Au .i64 (2^o*c) (o:Int)=c:=by unfold Au;grind[F8]
 rw[a];refine⟨Cp.2 ?_,?_,f⟩;generalize (2:Int)^o=p at i g;have j:p*c=(p-1)*c+c:=by grind
 by_cases hc:0<=c;have:=Int.mul_nonneg (show 0<=p-1 by omega) hc;omega;have:=Int.mul_nonneg (show 0<=p-1 by omega) (show 0<=-c by omega);grind;grind[AO,Al]
theorem c1c{o:Nat}(h:o<=30){l d:LI}(f:Xx (o:Int) l=kc d):d.all Ae=ka/\d.length=l.length/\a8P (o:Int) d=kc l:=by unfold Xx at f;cases ha:l.all (Zp (o:Int))with|false=>simp_all|true=>(rw[ha]at f;simp at f;subst f;have g:=lA.1 ha;refine⟨?_,by simp,?_⟩;simp_all[a0K];have a:(l.map λx=>Au .i64 x (o:Int)).all (λx=>Ae x&&Ae (AO .i64 x (o:Int)))=ka:=by(simp only[List.all_map];refine lA.2 λx k=>?_);obtain⟨c,e,i⟩:=a0K h (g x k);simp_all);unfold a8P;rw[a];simp;have b:l.map ((λx=>AO .i64 x (o:Int))∘λx=>Au .i64 x (o:Int))=l.map id:=F2 (λx k=>(a0K h (g x k)).2.1);simp_all
theorem b2d{n sH:Int}(h:MM n sH=ka):(Cm 0 n sH).length≠0:=by have g:=h;simp[MM]at g;grind[Cm,Vw]
theorem b8v{x:Int}(h:Ae x=ka):-1048576<=Au .i64 x ((10:Nat):Int)/\Au .i64 x ((10:Nat):Int)<=1048575:=by(have g:=Cp.1 h;have e:Au .i64 x ((10:Nat):Int)=x / 1024:=by show J6 x 1024=_;grind);omega
theorem a0L:∀(N:Nat)(f g:Int),g.toNat<=N->∃a b,Ah CN (f,g,())=kc (a,b,())|N,f,g,h=>by by_cases hd:g>=1099511627776;(have k:A3 (g>=(1099511627776:Int))=ka:=dE hd;have e:Au .i64 g 1=g / 2:=by show J6 g 2=_;grind);rw[Ag (s':=(Au .i64 f 1,g / 2,())) (by simp_all[CN])];(match N with|0=>omega|N+1=>exact a0L N _ _ (by omega));have k:A3 (g>=(1099511627776:Int))=kb:=dF hd;exact⟨f,g,Ad (by simp only[CN,k,cF])⟩
theorem oJ{f g:LI}{m:Nat}(x:1<=m)(u:g.length=f.length)(w:f.length<100000)(t:m<1000):∃k,CX (f,g,(m:Int))=kc k:=by
 obtain⟨b,p,d,j,q⟩:=b3F (f:=Cg) (λi n=>∃d j:Int,n=(f,g,d,j,((m+i:Nat):Int),())) (λb=>∃d j:Int,b=(d,j,())) (f.length-m)
  (λi n v h=>by
   obtain⟨d,j,rfl⟩:=h;have l:m+i<f.length:=by omega
   have e:zB .i64 (((m+i:Nat):Int)-1)=((m+i-1:Nat):Int):=by grind[Al]
   exact⟨_,by simp only[Cg,Bp l,zQ,Ac l,e,Ac (show m+i-1<g.length by omega),Aa (show m+i<1000000 by omega)]<;>rfl,_,_,rfl⟩)
  (λn h=>by
   obtain⟨d,j,rfl⟩:=h;have o:A3 (((m+(f.length-m):Nat):Int)<(f.length:Int))=kb:=dF (by omega);exact⟨_,by simp only[Cg,o,cF]<;>rfl,_,_,rfl⟩) (f.length-m) 0 (f,g,0,0,(m:Int),()) (by omega) ⟨0,0,rfl⟩
 subst q;obtain⟨a,c,r⟩:=a0L j.toNat d j (C5 _);unfold CX;simp[p,r];cases hc:(c==0)with
 |true=>simp
 |false=>
  simp
  cases A3 ((AO .i64 a 15).tmod c<0)<;>exact⟨_,rfl⟩
def b2e(c:List Int)(k:Int)(j:Nat):Int:=zB .i64 (c.getD j 0-Au .i64 (zB .i64 (k*c.getD (c.length-1-j) 0)) 14)
def Ic(c:List Int)(k:Int)(j:Nat):List Int:=(List.range j).map (b2e c k)
theorem lR(c:LI)(k:Int)(j:Nat):Ic c k (j+1)=Ic c k j++[b2e c k j]:=by simp[Ic,List.range_succ]
theorem IX(c:LI)(k:Int)(j:Nat):(Ic c k j).length=j:=by simp[Ic]
def a0M(c:List Int)(k:Int):List Int:=Ic c k c.length++[k]
def OG(ks:List Int)(i:Nat):List Int:=(ks.take i).foldl a0M []
theorem Xz{ks:LI}{i:Nat}(hi:i<ks.length):OG ks (i+1)=a0M (OG ks i) ks[i]:=by grind[OG,B4]
theorem Ph{ks:LI}:∀i,i<=ks.length->(OG ks i).length=i|0,_=>rfl|i+1,h=>by rw[Xz (by omega),a0M,lN,IX,Ph i (by omega)];rfl
def Rg(x:Int):Bool:=A3 (-16383<=x)&&A3 (x<=16383)
theorem Un{ks:LI}(b:ks.length<=32):Ah CO (ks,ks,(ks.length:Int),(0:Int),())=kc (bif ks.all Rg then .inl (ks,())else .inr (([]:List Int),(1:Int),())):=by(refine AY (f:=CO) ks (λi=>(ks,ks,(ks.length:Int),(i:Int),())) Rg (bt:=.inl (ks,())) (bf:=.inr (([]:List Int),(1:Int),())) (λi h g=>?_) (λi h g=>?_) (by simp[CO]);simp[Rg]at g;have k:A3 (ks[i]<(-16383:Int))=kb:=by simp_all);(have a:A3 (ks[i] > (16383:Int))=kb:=by simp_all);simp only[CO,Bp h,cT,cF,Ac h,oB,k,a,Aa (show i<1000000 by omega)];simp only[Rg,E2,decide_eq_false_iff_not]at g;cases k:A3 (ks[i]<(-16383:Int))with|true=>simp_all[CO,Ac]|false=>(have a:A3 (ks[i] > (16383:Int))=ka:=by grind);simp_all[CO,Ac]
theorem VU{ks:LI}(b:ks.length<=32):Ah Ca (ks,(0:Int),())=kc (bif ks.all Rg then .inl (ks,())else .inr ((1:Int),([]:List Int),())):=by(refine AY (f:=Ca) ks (λi=>(ks,(i:Int),())) Rg (bt:=.inl (ks,())) (bf:=.inr ((1:Int),([]:List Int),())) (λi h g=>?_) (λi h g=>?_) (by simp[Ca]);simp[Rg]at g;have k:A3 (ks[i]<=(-16384:Int))=kb:=by grind);(have a:A3 (ks[i]>=(16384:Int))=kb:=by grind);simp only[Ca,Bp h,cT,cF,Ac h,oB,k,a,Aa (show i<1000000 by omega)];simp only[Rg,E2,decide_eq_false_iff_not]at g;cases k:A3 (ks[i]<=(-16384:Int))with|true=>simp_all[Ca,Ac]|false=>(have a:A3 (ks[i]>=(16384:Int))=ka:=by grind);simp_all[Ca,Ac]
theorem PL{l:LI}{i:Nat}(h:i<l.length):l[i]=l.getD i 0:=by simp_all
theorem iW{c a:LI}{k n:Int}(i:c.length<=32):
  Ah FE (c,(c.length:Int),k,a,n,(c.length:Int),c,(c.length:Int),(0:Int),([]:List Int),())=kc (k,a,n,(c.length:Int),Ic c k c.length,()):=by
 have:=AD (f:=FE) (λj:Nat=>(c,(c.length:Int),k,a,n,(c.length:Int),c,(c.length:Int),(j:Int),Ic c k j,())) c.length (b:=(k,a,n,(c.length:Int),Ic c k c.length,()))
  (λj g=>by
   have d:zB .i64 ((c.length:Int)-1)=(c.length:Int)-1:=Al (by omega);have e:zB .i64 ((c.length:Int)-1-(j:Int))=((c.length-1-j:Nat):Int):=by grind[Al]
   have h:AZ ((Ic c k j).length+1)=ka:=Aw (by grind[IX]);simp only[FE,Bp g,zQ,Ac g,d,e,Ac (show c.length-1-j<c.length by omega),h,Aa (show j<1000000 by omega),A9,lR];rw[PL g,PL (show c.length-1-j<c.length by omega)];rfl)
  (by simp[FE])
 exact this
theorem a0N{A B:LI}{x y:Int}:(A++x::B).set A.length y=A++y::B:=by simp
theorem oK{c ks:LI}(o:c.length<=32)(hi:c.length<ks.length):
  Ah DM (ks,(c.length:Int),(0:Int),c,c,())=kc (ks,(c.length:Int),Ic c ks[c.length] c.length,()):=by
 have:=AD (f:=DM) (λj:Nat=>(ks,(c.length:Int),(j:Int),Ic c ks[c.length] j++c.drop j,c,())) c.length (b:=(ks,(c.length:Int),Ic c ks[c.length] c.length,()))
  (λj n=>by
   have l:zB .i64 ((c.length:Int)-1)=(c.length:Int)-1:=Al (by omega);have m:zB .i64 ((c.length:Int)-1-(j:Int))=((c.length-1-j:Nat):Int):=by grind[Al]
   have k:A3 ((0:Int)<=(j:Int))=ka:=by simp
   have a:A3 ((0:Int)<=((c.length-1-j:Nat):Int))=ka:=by simp
   have e:A3 (((c.length-1-j:Nat):Int)<(c.length:Int))=ka:=by grind
   have g:(Ic c ks[c.length] j++c.drop j).length=c.length:=by grind[IX]
   have i:A3 ((j:Int)<((Ic c ks[c.length] j++c.drop j).length:Int))=ka:=by simp_all
   have h:(Ic c ks[c.length] j++c.drop j).set j (b2e c ks[c.length] j)=Ic c ks[c.length] (j+1)++c.drop (j+1):=by
    grind[A4,lR,a0N,IX]
   simp only[DM,Bp n,k,zQ,A7,Ac hi,l,m,a,e,i,tN,Aa (show j<1000000 by omega)];rw[<-h];rfl)
  (by
   have d:A3 ((c.length:Int)<(c.length:Int))=kb:=by simp
   simp_all[DM])
 simp at this;exact this
theorem b2f{ks:LI}(x:1<=ks.length)(m:ks.length<=32):∃r,JG ks=kc r/\FQ ks=kc r/\(r.2=0->r.1.length=ks.length):=by
 have j:A3 (((ks.length:Nat):Int)<1)=kb:=dF (by omega);have l:A3 (((ks.length:Nat):Int) > 32)=kb:=dF (by omega);cases hall:ks.all Rg with
 |false=>
  refine⟨([],1),?_,?_,by simp⟩;unfold JG;simp only[j,l,cF,oB,Un m,hall];unfold FQ;simp only[j,l,cF,oB,VU m,hall]
 |true=>
  have v:=AD (f:=Jg) (λi:Nat=>(OG ks i,ks,(ks.length:Int),(i:Int),())) ks.length (b:=(OG ks ks.length,()))
   (λi d=>by
    have h:=Ph i (E3 d);have q:zB .i64 ((i:Int)+1)=((i+1:Nat):Int):=Aa (by omega);have p:A3 ((0:Int)<=((i+1:Nat):Int))=ka:=by rfl
    have u:AZ (i+1)=ka:=Aw (by omega);have g:=iW (c:=OG ks i) (a:=ks) (k:=ks[i]) (n:=(ks.length:Int)) (by omega);have o:AZ ((Ic (OG ks i) ks[i] i).length+1)=ka:=Aw (by grind[IX]);rw[h]at g;simp only[Jg,Bp d,cT,Ac d,oB,q,p,tN,u,A7,h,g,o,A9,Xz d,a0M])
   (by simp[Jg])
  have w:=AD (f:=FO) (λi:Nat=>(ks,(i:Int),OG ks i,())) ks.length (b:=(OG ks ks.length,()))
   (λi d=>by
    have h:=Ph i (E3 d);have t:AZ (0+i)=ka:=Aw (by omega);have g:=oK (c:=OG ks i) (ks:=ks) (by omega) (by omega);simp[h]at g;have o:AZ ((Ic (OG ks i) ks[i] i).length+1)=ka:=Aw (by grind[IX]);simp only[FO,Bp d,cT,t,A9,C0,g,oB,Ac d,o,Aa (show i<1000000 by omega),Xz d,a0M,h])
   (by simp[FO])
  refine⟨(OG ks ks.length,0),?_,?_,λ_=>Ph _ (C5 _)⟩;unfold JG;simp[j,l,Un m,hall];exact(cG (λz=>Option.bind z λe=>kc (e.1,(0:Int))) v).trans rfl;unfold FQ;simp[j,l,VU m,hall];exact(cG (λz=>Option.bind z λe=>kc (e.1,(0:Int))) w).trans rfl
def Rh(x:Int):Bool:=A3 (-35184372088832<=x)&&A3 (x<=35184372088832)
abbrev d3W:Type:=Int×(Int×((List Int)×Unit))
def c1d:d3W:=((0:Int),(1:Int),([]:List Int),())
theorem iX{c:LI}{w:Int}(b:c.length<=32):Ah CP (c,w,c,(c.length:Int),(0:Int),())=kc (bif c.all Rh then .inl (c,w,())else .inr c1d):=by(refine AY (f:=CP) c (λi=>(c,w,c,(c.length:Int),(i:Int),())) Rh (bt:=.inl (c,w,())) (bf:=.inr c1d) (λi h a=>?_) (λi h a=>?_) (by simp[CP]);simp[Rh]at a;have g:A3 (c[i]<(-35184372088832:Int))=kb:=by grind);(have k:A3 (c[i] > (35184372088832:Int))=kb:=by grind);simp only[CP,Bp h,cT,cF,Ac h,oB,g,k,Aa (show i<1000000 by omega)];simp only[Rh,E2,decide_eq_false_iff_not]at a;cases g:A3 (c[i]<(-35184372088832:Int))with|true=>simp only[CP,Bp h,cT,Ac h,oB,g];rfl|false=>(have k:A3 (c[i] > (35184372088832:Int))=ka:=by grind);simp only[CP,Bp h,cT,cF,Ac h,oB,g,k];rfl
theorem oL{c:LI}{w:Int}(b:c.length<=32):Ah Cb (c,w,(0:Int),())=kc (bif c.all Rh then .inl (c,w,())else .inr c1d):=by(refine AY (f:=Cb) c (λi=>(c,w,(i:Int),())) Rh (bt:=.inl (c,w,())) (bf:=.inr c1d) (λi h a=>?_) (λi h a=>?_) (by simp[Cb]);simp[Rh]at a;have g:A3 (c[i]<(-35184372088832:Int))=kb:=by grind);(have k:A3 (c[i] > (35184372088832:Int))=kb:=by grind);simp only[Cb,Bp h,cT,cF,Ac h,oB,g,k,Aa (show i<1000000 by omega)];simp only[Rh,E2,decide_eq_false_iff_not]at a;cases g:A3 (c[i]<(-35184372088832:Int))with|true=>simp only[Cb,Bp h,cT,Ac h,oB,g];rfl|false=>(have k:A3 (c[i] > (35184372088832:Int))=ka:=by grind);simp only[Cb,Bp h,cT,cF,Ac h,oB,g,k];rfl
def TG(s:Nat)(half x:Int):Int:=Au .i64 (zB .i64 (x+half)) (s:Int)
theorem Uo{c:LI}{w s:Nat}{half:Int}(l:c.length<=32)(d:w<=32):∀(m j:Nat),j+m=c.length->∃a:List Int,Ah FF (c,(w:Int),(s:Int),half,c,(c.length:Int),(j:Int),(c.take j).map (TG s half),())=kc (c,(w:Int),(s:Int),a,())/\((c.drop j).all (λx=>Bq (TG s half x) (w:Int))=ka->a=c.map (TG s half))/\((c.drop j).all (λx=>Bq (TG s half x) (w:Int))=kb->a.length≠c.length)|0,j,n=>by(obtain rfl:j=c.length:=by omega);grind[Ad,FF]|m+1,j,n=>by(have f:j<c.length:=by omega);(have b:A3 ((s:Int)<0)=kb:=by simp);have g:Cr (Au .i64 (zB .i64 (c[j]+half)) (s:Int),(w:Int))=kc (Bq (TG s half c[j]) (w:Int)):=NU d;rw[A4 f,C3];cases hf:Bq (TG s half c[j]) (w:Int)with|false=>rw[hf]at g;refine⟨(c.take j).map (TG s half),Ad (by simp only[FF,Bp f,cT,Ac f,oB,b,cF,g,C6]),λh=>(by grind),λ_=>?_⟩;grind|true=>rw[hf]at g;have k:AZ (((c.take j).map (TG s half)).length+1)=ka:=Aw (by grind);obtain⟨a,o,e,i⟩:=Uo (s:=s) (half:=half) l d m (j+1) (by omega);refine⟨a,?_,λh=>e (by grind),λh=>i (by grind)⟩;rw[Ag (s':=(c,(w:Int),(s:Int),half,c,(c.length:Int),((j+1:Nat):Int),(c.take (j+1)).map (TG s half),())) (by simp only[FF,Bp f,cT,Ac f,oB,b,cF,g,bT,k,A9,Aa (show j<1000000 by omega)];rw[B4 f,pA];rfl)];omega
theorem oM{c:LI}{w s:Nat}{half:Int}(l:c.length<=32)(i:w<=32)(m:s<=14):
  Ah CC (c,(w:Int),(s:Int),half,ka,(0:Int),([]:List Int),())=kc (c,(w:Int),(s:Int),c.all (λx=>Bq (TG s half x) (w:Int)),c.map (TG s half),()):=by
 have e:zB .u64 (s:Int)=(s:Int):=Av (by omega);have a:A3 ((s:Int)<0)=kb:=by simp
 have:=AD (f:=CC) (λj:Nat=>(c,(w:Int),(s:Int),half,(c.take j).all (λx=>Bq (TG s half x) (w:Int)),(j:Int),(c.take j).map (TG s half),())) c.length
  (b:=(c,(w:Int),(s:Int),c.all (λx=>Bq (TG s half x) (w:Int)),c.map (TG s half),()))
  (λj k=>by
   have g:Hd (Au .i64 (zB .i64 (c[j]+half)) (s:Int),(w:Int))=kc (Bq (TG s half c[j]) (w:Int)):=Te i;have h:AZ (((c.take j).map (TG s half)).length+1)=ka:=Aw (by grind);have d:c.take (j+1)=c.take j++[c[j]]:=B4 k;cases ha:(c.take j).all (λx=>Bq (TG s half x) (w:Int))with
   |true=>
    simp only[CC,Bp k,cT,Ac k,oB,e,a,cF,h,ha,g,A9,Aa (show j<1000000 by omega),d,F1,pA,C2,C3,List.all_nil,Bool.and_true];rfl
   |false=>
    simp only[CC,Bp k,cT,Ac k,oB,e,a,cF,h,ha,A9,Aa (show j<1000000 by omega),d,F1,pA,K0];rfl)
  (by
   grind[CC])
 grind
theorem a0O{c:LI}{w:Nat}(k:c.length<=32)(i:w<=32):∀(m s:Nat),s+m=15->
  ∃b,Ah FG (c,(w:Int),(s:Int),())=kc b/\Ah DN (c,(w:Int),(s:Int),())=kc b/\∀z,b=.inr z->z.2.2.1.length=c.length
 |0,s,r=>by
  obtain rfl:s=15:=by omega
  simp[Ad,FG,DN]
 |m+1,s,r=>by
  have d:A3 ((s:Int)<=14)=ka:=by grind
  have v:A3 ((0:Int)<=(c.length:Int))=ka:=by simp
  have F:AZ c.length=ka:=Aw (by omega);have t:zB .i64 ((s:Int)+1)=((s+1:Nat):Int):=Aa (by omega);obtain⟨half,p,q⟩:∃half:Int,
    ((show Option ((List Int)×(Int×Int×Int×Unit))from
     bif A3 ((s:Int) > (0:Int))then(
     bif A3 ((zB .i64 ((s:Int)-(1:Int)))<0)then kd
     else kc (c,(w:Int),(s:Int),AO .i64 (1:Int) (zB .i64 ((s:Int)-(1:Int))),()))
     else kc (c,(w:Int),(s:Int),(0:Int),()))=kc (c,(w:Int),(s:Int),half,()))/\
    ((show Option ((List Int)×(Int×Int×Int×Unit))from
     bif A3 ((s:Int) > (0:Int))then(
     bif A3 ((zB .u64 (zB .i64 ((s:Int)-(1:Int))))<0)then kd
     else kc (c,(w:Int),(s:Int),AO .i64 (1:Int) (zB .u64 (zB .i64 ((s:Int)-(1:Int)))),()))
     else kc (c,(w:Int),(s:Int),(0:Int),()))=kc (c,(w:Int),(s:Int),half,())):=by
   by_cases h0:s=0;simp_all;have y:A3 ((s:Int) > 0)=ka:=by grind
   have A:zB .i64 ((s:Int)-1)=(s:Int)-1:=Al (by omega);have B:zB .u64 ((s:Int)-1)=(s:Int)-1:=Av (by omega);have C:A3 ((s:Int)-1<0)=kb:=by grind
   exact⟨AO .i64 1 ((s:Int)-1),by grind,by grind⟩
  obtain⟨u,o,j,l⟩:=Uo (c:=c) (w:=w) (s:=s) (half:=half) k i c.length 0 (by omega);simp only[nZ,I4,List.map_nil,B9,F5]at o j l;have f:=oM (c:=c) (w:=w) (s:=s) (half:=half) k i (by omega);have a:=p;have e:=q;simp only[]at a e;cases hall:c.all (λx=>Bq (TG s half x) (w:Int))with
  |true=>
   have g:=j hall;subst g;rw[hall]at f;have h:(((c.map (TG s half)).length:Int)==(c.length:Int))=ka:=by simp
   refine⟨.inr (zB .i64 ((14:Int)-(s:Int)),(0:Int),c.map (TG s half),()),Ad ?_,Ad ?_,by simp⟩;all_goals simp_all[FG,DN]
  |false=>
   have g:=l hall;rw[hall]at f;have h:((u.length:Int)==(c.length:Int))=kb:=by grind
   obtain⟨b,D,E,n⟩:=a0O k i m (s+1) (by omega);refine⟨b,?_,?_,n⟩;rw[Ag (s':=(c,(w:Int),((s+1:Nat):Int),())) (by
    simp only[FG,d,cT];grind)]
   omega;grind[Ag,DN]
theorem b2g{c:LI}{w:Nat}(m:1<=c.length)(h:c.length<=32)(n:2<=w/\w<=16):∃r,Nb (c,(w:Int))=kc r/\Jo (c,(w:Int))=kc r/\(r.2.2=0->r.1.length=c.length):=by have k:A3 (((c.length:Nat):Int)<1)=kb:=dF (by omega);have a:A3 (((c.length:Nat):Int) > 32)=kb:=dF (by omega);have d:A3 ((w:Int)<2)=kb:=dF (by omega);have e:A3 ((w:Int) > 16)=kb:=dF (by omega);have g:=iX (c:=c) (w:=(w:Int)) h;have f:=oL (c:=c) (w:=(w:Int)) h;obtain⟨b,i,j,l⟩:=a0O (c:=c) (w:=w) h (by omega) 15 0 rfl;simp at i j;unfold Nb Jo;cases hall:c.all Rh with|false=>rw[hall]at g f;refine⟨([],0,1),?_,?_,by simp⟩;simp only[k,a,d,e,cF,oB,g];rfl;simp only[k,a,d,e,cF,oB,f];rfl|true=>rw[hall]at g f;cases b with|inl u=>refine⟨([],0,6),?_,?_,by simp⟩;all_goals grind|inr b=>refine⟨(b.2.2.1,b.1,b.2.1),?_,?_,λ_=>l _ rfl⟩;all_goals grind
def a4l(x:Int):Bool:=A3 (-1048576<=x)&&A3 (x<=1048575)
theorem fB{x:Int}:a4l x=ka↔-1048576<=x/\x<=1048575:=by simp[a4l]
theorem a0P(x:Int):(En (DH x (-1048576)) 1048575==x)=a4l x:=by rw[H1,beq_iff_eq,fB];unfold En DH;grind
theorem a6v(x:Int){s:Nat}(h:s<=64):Au .i64 x (s:Int)=x / ((2^s:Nat):Int):=by show J6 x (2^(min (s:Int).toNat 64))=_;grind
theorem b3G(x:Int){s:Nat}(f:s<=63):Au .i64 (Au .i64 x (s:Int)) 1=Au .i64 x ((s+1:Nat):Int):=by have g:Au .i64 (Au .i64 x (s:Int)) ((1:Nat):Int)=Au .i64 x (s:Int) / ((2^1:Nat):Int):=a6v _ (by omega);have h:Au .i64 (Au .i64 x (s:Int)) 1=Au .i64 x (s:Int) / ((2^1:Nat):Int):=g;rw[h,a6v x (by omega),a6v x (by omega),Int.ediv_ediv_of_nonneg (Int.natCast_nonneg _),<-Int.natCast_mul,<-G4]
theorem b8w{x:Int}(h:a4l x=ka):a4l (Au .i64 x 1)=ka:=by grind[Au,fB]
theorem a9i{x:Int}{s:Nat}:∀(d:Nat),s+d<=60->a4l (Au .i64 x (s:Int))=ka->a4l (Au .i64 x ((s+d:Nat):Int))=true|0,_,h=>h|d+1,g,h=>by have:=b8w (a9i d (by omega) h);rw[b3G x (by omega)]at this;omega
def XA(l:List Int)(s:Nat):Prop:=s<=10/\(∀x∈l,a4l (Au .i64 x (s:Int))=ka)/\∀t,t<s->∃x∈l,a4l (Au .i64 x (t:Int))=kb
theorem b5w{l:LI}{s s':Nat}(h:XA l s)(a:XA l s'):s=s':=by rcases Nat.lt_trichotomy s s' with g|g|g;obtain⟨x,k,f⟩:=a.2.2 s g;rw[h.2.1 x k]at f;grind;omega;obtain⟨x,k,f⟩:=h.2.2 s' g;rw[a.2.1 x k]at f;grind
theorem XB{x:Int}(e:Ae x=ka){a l:LI}{n i:Int}:∀(k s:Nat),s+k=10->∃s':Nat,s<=s'/\s'<=10/\a4l (Au .i64 x (s':Int))=ka/\(∀t,s<=t->t<s'->a4l (Au .i64 x (t:Int))=kb)/\Ah HJ (a,(s:Int),x,l,n,i,())=kc (a,(s':Int),l,n,i,())|k,s,o=>by(have g:A3 ((s:Int)<0)=kb:=by simp);cases hf:a4l (Au .i64 x (s:Int))with|true=>(refine⟨s,C5 _,by omega,hf,λt b f=>by omega,Ad ?_⟩;have h:(En (DH (Au .i64 x (s:Int)) (-1048576)) 1048575 != Au .i64 x (s:Int))=kb:=by simp_all[bne,a0P]);simp only[HJ,g,cF,EV,oB,h]|false=>cases k with|zero=>(obtain rfl:s=10:=by omega);grind[b8v,fB]|succ k=>(obtain⟨s',b,f,c,j,m⟩:=XB e (a:=a) (l:=l) (n:=n) (i:=i) k (s+1) (by omega);refine⟨s',by omega,f,c,λt p d=>?_,?_⟩;grind;have h:(En (DH (Au .i64 x (s:Int)) (-1048576)) 1048575 != Au .i64 x (s:Int))=ka:=by simp_all[bne,a0P]);rw[Ag (s':=(a,((s+1:Nat):Int),x,l,n,i,())) (by simp only[HJ,g,cF,EV,oB,h,cT,Aa (show s<1000000 by omega)])];omega
theorem a9j{l:LI}(F:l.all Ae=ka)(P:l.length<100000):∃s,XA l s/\Ij l=kc (l.map λx=>Au .i64 x (s:Int)):=by
 have e:∀(m i s:Nat),i+m=l.length->XA (l.take i) s->∃s',XA l s'/\Ah HK (l,(s:Int),l,(l.length:Int),(i:Int),())=kc (l,(s':Int),()):=by
  intro m
  induction m with
  |zero=>
   intro i s j o;obtain rfl:i=l.length:=by omega
   grind[Ad,HK]
  |succ m G=>
   intro i s j o;have h:i<l.length:=by omega
   obtain⟨s',r,p,M,N,D⟩:=XB (lA.1 F l[i] (B3 h)) (a:=l) (l:=l) (n:=(l.length:Int)) (i:=(i:Int)) (10-s) s (by have:=o.1;omega);have q:XA (l.take (i+1)) s':=by
    rw[B4 h];refine⟨p,λx k=>?_,λt E=>?_⟩;rcases mA.1 k with k|k
    have:=a9i (s'-s) (by omega) (o.2.1 x k)
    simp_all;simp_all;by_cases hts:t<s;obtain⟨x,k,O⟩:=o.2.2 t hts;grind;grind
   obtain⟨H,C,L⟩:=G (i+1) s' (by omega) q;refine⟨H,C,?_⟩;rw[Ag (s':=(l,(s':Int),l,(l.length:Int),((i+1:Nat):Int),())) (by
    simp only[HK,Bp h,cT,Ac h,oB,D,Aa (show i<1000000 by omega)])]
   omega
 obtain⟨s,r,p⟩:=e l.length 0 0 (by omega) ⟨by omega,λx k=>by simp_all,λt E=>by omega⟩;simp at p;refine⟨s,r,?_⟩;have I:A3 ((0:Int)<=(l.length:Int))=ka:=by simp
 have K:A3 ((l.length:Int)<=(l.length:Int))=ka:=by simp
 have Q:AZ l.length=ka:=Aw (by omega);have g:=AD (f:=HL) (λi:Nat=>((s:Int),l,(l.length:Int),(i:Int),(l.take i).map (λx=>Au .i64 x (s:Int))++A6 (l.length-i) 0,())) l.length (b:=(l.map (λx=>Au .i64 x (s:Int)),()))
  (λi j=>by
   have v:A3 ((s:Int)<0)=kb:=by simp
   have w:A3 ((0:Int)<=(i:Int))=ka:=by simp
   have z:A3 ((i:Int)<((((l.take i).map (λx=>Au .i64 x (s:Int))++A6 (l.length-i) 0).length:Nat):Int))=ka:=by
    grind
   have c:((l.take i).map (λx=>Au .i64 x (s:Int))).length=i:=by grind
   have d:=a0N (A:=(l.take i).map (λx=>Au .i64 x (s:Int))) (B:=A6 (l.length-(i+1)) 0) (x:=0) (y:=Au .i64 l[i] (s:Int));rw[c]at d;have u:A6 (l.length-i) (0:Int)=0::A6 (l.length-(i+1)) 0:=by rw[<-List.replicate_succ];grind
   simp only[HL,Bp j,cT,Ac j,oB,v,cF,w,z,A7,tN,Aa (show i<1000000 by omega)];grind[B4])
  (by simp[HL])
 simp at g;simp_all[Ij]
theorem Up{l:LI}(c:l.length<100000):Ah Fw (ka,(0:Int),l,())=kc (l.all a4l,l,()):=by
 have:=AD (f:=Fw) (λi:Nat=>((l.take i).all a4l,(i:Int),l,())) l.length (b:=(l.all a4l,l,()))
  (λi h=>by
   have k:A3 ((0:Int)<=(i:Int))=ka:=by simp
   have g:l.take (i+1)=l.take i++[l[i]]:=B4 h;have a:l.getD i 0=l[i]:=(PL h).symm;cases ha:(l.take i).all a4l with
   |true=>
    simp only[Fw,Bp h,cT,ha,k,A7,tN,OB,oB,Aa (show i<1000000 by omega),a,a0P,g,F1,C2,C3,List.all_nil,Bool.and_true]
   |false=>
    simp only[Fw,Bp h,cT,ha,cF,Aa (show i<1000000 by omega),g,F1,K0])
  (by
   have d:A3 ((l.length:Int)<(l.length:Int))=kb:=by simp
   simp_all[Fw])
 simp_all
theorem iY{l:LI}(m:l.length<100000):Ah Iw ((0:Int),l,())=kc (l.map (λx=>Au .i64 x 1),()):=by
 have:=AD (f:=Iw) (λi:Nat=>((i:Int),(l.take i).map (λx=>Au .i64 x 1)++l.drop i,())) l.length (b:=(l.map (λx=>Au .i64 x 1),()))
  (λi j=>by
   have e:A3 ((0:Int)<=(i:Int))=ka:=by simp
   have g:((l.take i).map (λx=>Au .i64 x 1)).length=i:=by grind
   have a:((l.take i).map (λx=>Au .i64 x 1)++l.drop i).length=l.length:=by grind
   have k:=a0N (A:=(l.take i).map (λx=>Au .i64 x 1)) (B:=l.drop (i+1)) (x:=l[i]) (y:=Au .i64 l[i] 1);rw[g]at k;have h:((l.take i).map (λx=>Au .i64 x 1)++l.drop i).getD i 0=l[i]:=by
    simp_all
   have c:A3 ((i:Int)<(((l.take i).map (λx=>Au .i64 x 1)++l.drop i).length:Int))=ka:=by simp_all
   simp only[Iw,c,cT,e,A7,tN,h,Aa (show i<1000000 by omega)];grind[A4])
  (by
   have d:A3 ((l.length:Int)<(l.length:Int))=kb:=by simp
   simp_all[Iw])
 simp_all
theorem b2h{l:LI}(u:l.all Ae=ka)(w:l.length<100000):∃s,XA l s/\KE l=kc (l.map λx=>Au .i64 x (s:Int)):=by(have c:∀(m k:Nat),k+m=10->(∀t,t<k->∃x∈l,a4l (Au .i64 x (t:Int))=kb)->∃s,XA l s/\Ah Ix (l.map (λx=>Au .i64 x (k:Int)),())=kc (l.map (λx=>Au .i64 x (s:Int)),()):=by intro m;induction m with|zero=>(intro k q g;obtain rfl:k=10:=by omega);(have h:(l.map (λx=>Au .i64 x ((10:Nat):Int))).all a4l=ka:=by grind[fB,b8v]);refine⟨10,⟨C5 _,λx j=>fB.2 (b8v (lA.1 u x j)),g⟩,Ad ?_⟩;simp only[Ix,Up (l:=l.map (λx=>Au .i64 x ((10:Nat):Int))) (by simp_all),oB,h,cT]|succ m v=>intro k q g;have b:=Up (l:=l.map (λx=>Au .i64 x (k:Int))) (by simp_all);cases h:(l.map (λx=>Au .i64 x (k:Int))).all a4l with|true=>rw[h]at b;have f:=h;rw[List.all_map]at f;refine⟨k,⟨by omega,λx j=>lA.1 f x j,g⟩,Ad ?_⟩;simp_all[Ix]|false=>(rw[h]at b;have p:∃x∈l,a4l (Au .i64 x (k:Int))=kb:=by simp_all);obtain⟨s,d,n⟩:=v (k+1) (by omega) (λt r=>by by_cases e:t=k;simp_all;exact g t (by omega));(refine⟨s,d,?_⟩;have a:=iY (l:=l.map (λx=>Au .i64 x (k:Int))) (by simp_all);have i:(l.map (λx=>Au .i64 x (k:Int))).map (λx=>Au .i64 x 1)=l.map (λx=>Au .i64 x ((k+1:Nat):Int)):=by grind[F2,b3G]);rw[i]at a;rw[Ag (s':=(l.map (λx=>Au .i64 x ((k+1:Nat):Int)),())) (by simp_all[Ix])];omega);(obtain⟨s,d,n⟩:=c 10 0 rfl (λt r=>by omega);have o:l.map (λx=>Au .i64 x ((0:Nat):Int))=l:=by refine(F2 λx _=>?_).trans (List.map_id _);rw[a6v x (by omega)];simp);rw[o]at n;refine⟨s,d,?_⟩;have y:AZ (0+l.length)=ka:=Aw (by omega);simp_all[KE]
theorem a9k{l:LI}(g:l.all Ae=ka)(h:l.length<100000):∃r,Ij l=kc r/\KE l=kc r/\r.length=l.length:=by grind[a9j,b2h,b5w]
theorem b8x(n:Int):zB .i64 n=if 9223372036854775808<=n%18446744073709551616 then n%18446744073709551616-18446744073709551616 else n%18446744073709551616:=by grind[zB,IntKind.bits,IntKind.signed]
theorem b2i(a b:Int):zB .i64 (a+zB .i64 b)=zB .i64 (a+b):=by grind[b8x]
theorem b5x(a b:Int):zB .i64 (zB .i64 a+b)=zB .i64 (a+b):=by simp_all[Int.add_comm,b2i]
theorem b5y:Cg=KX:=by(funext h;unfold Cg KX;have e:∀d a b:Int,zB .i64 (d+zB .i64 (zB .i64 a+zB .i64 b))=zB .i64 (zB .i64 (d+zB .i64 a)+zB .i64 b):=λd a b=>by grind[b5x]);simp_all
theorem b2j:CN=Qv:=rfl
theorem oN(x:(List Int)×((List Int)×Int)):CX x=Hh x:=by unfold CX Hh ZX;rw[b5y,b2j];congr 1;funext g;congr 1;funext h;have e:AO .i64 h.1 15=zB .i64 (h.1*32768):=rfl;grind
def d4A(x:Int):Int:=En (DH x (-1048576)) 1048575
def OH(f b:List Int)(k:Int)(i:Nat):Int:=d4A (zB .i64 (f.getD i 0-Au .i64 (zB .i64 (k*b.getD (i-1) 0)) 14))
def PN(f b:List Int)(k:Int)(i:Nat):Int:=d4A (zB .i64 (b.getD (i-1) 0-Au .i64 (zB .i64 (k*f.getD i 0)) 14))
def Sy(g:Nat->Int)(f:List Int)(lo hi:Nat):List Int:=(List.range f.length).map λi=>if lo<=i/\i<hi then g i else f.getD i 0
theorem Gm(g:Nat->Int)(f:LI)(lo hi:Nat):(Sy g f lo hi).length=f.length:=by simp[Sy]
theorem So(g:Nat->Int)(f:LI)(lo hi:Nat){i:Nat}(h:i<f.length):(Sy g f lo hi).getD i 0=if lo<=i/\i<hi then g i else f.getD i 0:=by simp_all[Sy]
theorem Sp(g:Nat->Int)(f:LI){lo hi:Nat}(h:hi<=lo\/f.length<=lo):Sy g f lo hi=f:=by(refine J4 (Gm _ _ _ _) λi a k=>?_);rw[PL a,PL k,So g f lo hi k,if_neg (by omega)]
theorem pK{g:Nat->Int}{f:LI}{lo hi a k i:Nat}(d:i<f.length)(h:∀j,j<f.length->((a<=j/\j<k)↔(j=i\/(lo<=j/\j<hi)))):(Sy g f lo hi).set i (g i)=Sy g f a k:=by
 refine J4 (by simp_all[Gm]) λj l c=>?_
 have b:j<f.length:=by simp_all[Gm]
 rw[List.getElem_set];by_cases e:i=j;subst e;rw[if_pos rfl,PL c,So g f _ _ b,if_pos ((h i b).2 (.inl rfl))];rw[if_neg e,PL (by simp_all),PL c,So g f _ _ b,So g f _ _ b];grind
theorem VV{f b ks:LI}{o m:Nat}{k:Int}(x:1<=m)(c:m<=40)(hb:b.length=f.length)(v:f.length<100000):∀(j i:Nat),i+1=m+j->i<f.length->Ah CY ((o:Int),(m:Int),k,(i:Int),Sy (OH f b k) f (i+1) f.length,Sy (PN f b k) b (i+1) f.length,ks,()) =kc ((o:Int),(m:Int),Sy (OH f b k) f m f.length,Sy (PN f b k) b m f.length,ks,())|0,i,w,h=>by(obtain rfl:m=i+1:=by omega);have d:A3 ((i:Int)>=((i+1:Nat):Int))=kb:=dF (by omega);exact Ad (by simp only[CY,d,cF])|j+1,i,w,h=>by(have d:A3 ((i:Int)>=(m:Int))=ka:=by grind);(have r:zB .i64 ((i:Int)-1)=((i-1:Nat):Int):=by grind[Al]);(have e:A3 ((0:Int)<=(i:Int))=ka:=by simp);(have l:A3 ((0:Int)<=((i-1:Nat):Int))=ka:=by simp);(have B:=Gm (OH f b k) f (i+1) f.length;have C:=Gm (PN f b k) b (i+1) f.length;have n:A3 ((i:Int)<((Sy (OH f b k) f (i+1) f.length).length:Int))=ka:=by simp_all);(have p:A3 (((i-1:Nat):Int)<((Sy (PN f b k) b (i+1) f.length).length:Int))=ka:=by grind);(have q:A3 ((i:Int)<((Sy (PN f b k) b (i+1) f.length).length:Int))=ka:=by simp_all);(have t:(Sy (OH f b k) f (i+1) f.length).getD i 0=f.getD i 0:=by rw[So _ _ _ _ h,if_neg (by omega)]);(have u:(Sy (PN f b k) b (i+1) f.length).getD (i-1) 0=b.getD (i-1) 0:=by rw[So _ _ _ _ (by omega),if_neg (by omega)]);(have z:(Sy (OH f b k) f (i+1) f.length).set i (OH f b k i)=Sy (OH f b k) f i f.length:=pK h λy a=>by omega);(have A:(Sy (PN f b k) b (i+1) f.length).set i (PN f b k i)=Sy (PN f b k) b i f.length:=pK (by omega) λy a=>by omega);(have g:i-1+1=i:=by omega);rw[Ag (s':=((o:Int),(m:Int),k,((i-1:Nat):Int),Sy (OH f b k) f i f.length,Sy (PN f b k) b i f.length,ks,())) (by simp only[CY,d,zQ,e,n,A7,r,l,p,tN,EV,q,t,u];rw[<-z,<-A];rfl)];have:=VV (ks:=ks) (o:=o) (k:=k) x c hb v j (i-1) (by omega) (by omega);rw[g]at this;exact this
theorem XC{f b ks:LI}{o m:Nat}{k:Int}(v:1<=m)(a:m<=40)(hb:b.length=f.length)(r:f.length<100000):∀(j i:Nat),i+j=f.length->m<=i->Ah Ch ((o:Int),b,(m:Int),k,(i:Int),Sy (OH f b k) f m i,ks,Sy (PN f b k) b m i,()) =kc ((o:Int),(m:Int),k,Sy (OH f b k) f m f.length,ks,Sy (PN f b k) b m f.length,())|0,i,u,t=>by(obtain rfl:i=f.length:=by omega);(have d:A3 ((f.length:Int)<((Sy (OH f b k) f m f.length).length:Int))=kb:=by rw[Gm];simp);exact Ad (by simp only[Ch,d,cF])|j+1,i,u,t=>by(have h:i<f.length:=by omega);(have n:zB .i64 ((i:Int)-1)=((i-1:Nat):Int):=by grind[Al]);(have c:A3 ((0:Int)<=(i:Int))=ka:=by simp);(have z:=Gm (OH f b k) f m i;have A:=Gm (PN f b k) b m i;have e:A3 ((i:Int)<((Sy (OH f b k) f m i).length:Int))=ka:=by simp_all);(have l:A3 ((i:Int)<((Sy (PN f b k) b m i).length:Int))=ka:=by simp_all);(have q:Aq b ((i-1:Nat):Int)=kc (b.getD (i-1) 0):=by grind[Ac]);(have p:(Sy (OH f b k) f m i).getD i 0=f.getD i 0:=by rw[So _ _ _ _ h,if_neg (by omega)]);(have x:(Sy (OH f b k) f m i).set i (OH f b k i)=Sy (OH f b k) f m (i+1):=pK h λw g=>by omega);(have y:(Sy (PN f b k) b m i).set i (PN f b k i)=Sy (PN f b k) b m (i+1):=pK (by omega) λw g=>by omega);rw[Ag (s':=((o:Int),b,(m:Int),k,((i+1:Nat):Int),Sy (OH f b k) f m (i+1),ks,Sy (PN f b k) b m (i+1),())) (by simp only[Ch,e,zQ,c,A7,n,q,tN,OB,p,l,Aa (show i<1000000 by omega)];rw[<-x,<-y];rfl)];exact XC (ks:=ks) (o:=o) (k:=k) v a hb r j (i+1) (by omega) (by omega)
theorem a3f{f b ks:LI}{o m:Nat}{k:Int}(c:1<=m)(g:m<=40)(hb:b.length=f.length)(a:f.length<100000):Ah CY ((o:Int),(m:Int),k,zB .i64 ((f.length:Int)-1),f,b,ks,()) =kc ((o:Int),(m:Int),Sy (OH f b k) f m f.length,Sy (PN f b k) b m f.length,ks,()):=by rw[Al (n:=(f.length:Int)-1) (by omega)];by_cases h:m<f.length;have:=VV (ks:=ks) (o:=o) (k:=k) c g hb a (f.length-m) (f.length-1) (by omega) (by omega);(rw[show f.length-1+1=f.length from by omega,Sp (OH f b k) f (.inl (C5 _)),Sp (PN f b k) b (.inl (C5 _)),show((f.length-1:Nat):Int)=(f.length:Int)-1 from by omega]at this;omega;rw[Sp (OH f b k) f (.inl (by omega)),Sp (PN f b k) b (.inl (by omega))];have d:A3 ((f.length:Int)-1>=(m:Int))=kb:=by grind);exact Ad (by simp only[CY,d,cF])
theorem a6w{f b ks:LI}{o m:Nat}{k:Int}(c:1<=m)(g:m<=40)(hb:b.length=f.length)(a:f.length<100000):Ah Ch ((o:Int),b,(m:Int),k,(m:Int),f,ks,b,()) =kc ((o:Int),(m:Int),k,Sy (OH f b k) f m f.length,ks,Sy (PN f b k) b m f.length,()):=by by_cases h:m<f.length;have:=XC (ks:=ks) (o:=o) (k:=k) c g hb a (f.length-m) m (by omega) (C5 _);(simp_all[Sp];rw[Sp (OH f b k) f (.inl (by omega)),Sp (PN f b k) b (.inl (by omega))];have d:A3 ((m:Int)<(f.length:Int))=kb:=by simp_all);exact Ad (by simp only[Ch,d,cF])
theorem XD{o:Nat}(q:o<=32):∀(j m:Nat)(f b ks:LI),m+j=o+1->1<=m->b.length=f.length->f.length<100000->ks.length+1=m->∃r,Ah Gw ((o:Int),(m:Int),f,b,ks,())=kc (r,())/\Ah ED ((o:Int),b,(m:Int),f,ks,())=kc (r,())/\r.length=o|0,m,f,b,ks,n,_,_,_,p=>by(have d:A3 ((m:Int)<=(o:Int))=kb:=by grind);exact⟨ks,Ad (by simp only[Gw,d,cF]),Ad (by simp only[ED,d,cF]),by omega⟩|j+1,m,f,b,ks,n,c,hb,a,p=>by(have d:A3 ((m:Int)<=(o:Int))=ka:=by grind);(obtain⟨k,i⟩:=oJ c hb a (show m<1000 by omega);have l:Hh (f,b,(m:Int))=kc k:=by simp_all[oN]);have w:=Aa (show m<1000000 by omega);have h:=AN (show ks.length+1<2147483648 by omega);have g:=AN (show 0+b.length<2147483648 by omega);obtain⟨r,t,u,e⟩:=XD q j (m+1) (Sy (OH f b k) f m f.length) (Sy (PN f b k) b m f.length) (ks++[k]) (by omega) (by omega) (by simp_all[Gm]) (by simp_all[Gm]) (by simp_all);refine⟨r,?_,?_,e⟩;rw[Ag (s':=((o:Int),((m+1:Nat):Int),Sy (OH f b k) f m f.length,Sy (PN f b k) b m f.length,ks++[k],())) (by simp only[Gw,d,cT,i,oB,h,A9];grind[a3f])];omega;rw[Ag (s':=((o:Int),Sy (PN f b k) b m f.length,((m+1:Nat):Int),Sy (OH f b k) f m f.length,ks++[k],())) (by simp only[ED,d,cT,l,oB,g,A9,C0];rw[a6w c (by omega) hb a];simp_all)];omega
theorem a6x{l:LI}(g:l.all Ae=ka)(p:l.length<=4096){o:Nat}(n:1<=o)(d:o<=32):∃ks:List Int,Kq (l,(o:Int))=kc (ks,0)/\GD (l,(o:Int))=kc (ks,0)/\ks.length=o:=by
 obtain⟨f,e,i,q⟩:=a9k g (by omega);obtain⟨r,j,m,c⟩:=XD d o 1 f f [] (by omega) (by omega) rfl (by omega) rfl;have h:short l:=by unfold short;omega
 have k:A3 ((o:Int)<1)=kb:=by grind
 have a:A3 ((o:Int) > 32)=kb:=by grind
 have b:A3 ((l.length:Int) > 4096)=kb:=by grind
 refine⟨r,?_,?_,c⟩;unfold Kq;simp[k,a,b,Jz h,g,e,PG (show short f by unfold short;omega),AN (show o<2147483648 by omega)];simp_all;unfold GD;simp[k,a,b,AC h,g,i];simp_all
theorem a4m{l:LI}(i:l.all Ae=ka)(b:l.length<=4096){o w:Nat}(f:1<=o)(k:o<=32)(a:2<=w/\w<=16):∃c g e,Gf (l,(o:Int),(w:Int))=kc (c,g,e)/\KF (l,(o:Int),(w:Int))=kc (c,g,e)/\(e=0->c.length=o):=by(obtain⟨ks,j,m,n⟩:=a6x i b f k;obtain⟨⟨c,e⟩,c1,c2,c3⟩:=b2f (ks:=ks) (by omega) (by omega);unfold Gf KF;simp[j,m,c1,c2];by_cases he:e=0;subst he;obtain⟨⟨q,g,e⟩,q1,q2,q3⟩:=b2g (c:=c) (w:=w) (by grind) (by grind) a;exact⟨q,g,e,by simp_all,by simp_all,by grind⟩;have d:(e != 0)=ka:=by simp_all);exact⟨[],0,e,by grind,by grind,λh=>absurd h he⟩
def NX(g:List Int->Int):List Int->List Int->List Int|[],_=>[]|x::r,dn=>W (x-g dn)::NX g r (dn++[x])
theorem NY(g:List Int->Int):∀r h,(NX g r h).length=r.length|[],_=>rfl|x::r,h=>by simp[NX,NY g r]
theorem b8y{x g:Int}(h:Ae x=ka):W (W (x-g)+g)=x:=by have:=Yr h;simp_all[MH]
theorem bI(g:List Int->Int):∀(r f:LI),r.all Ae=ka->JV g (NX g r f) f=kc (f++r)|[],f,_=>by simp[NX,JV]|x::r,f,h=>by rw[C3,bA]at h;simp only[NX,JV,b8y h.1,h.1,cT,bI g r (f++[x]) h.2,aA,I0]
def VW(g:List Int->Int)(r dn:List Int):Option (List Int):=bif (NX g r dn).all Ae then kc (NX g r dn)else kd
def lT{β:Type}(g:List Int->Int)(bad:β)(a:List Int×List Int)(x:Int):(List Int×List Int) ⊕ β:=bif Ae (W (x-g a.1))then .inl (a.1++[x],a.2++[W (x-g a.1)])else .inr bad
theorem bJ{β:Type}(g:List Int->Int)(k:β)(a:List Int×List Int->β):∀(r b f:LI),
  Sz a (Gq (lT g k) r (b,f))=match VW g r b with|some e=>a (b++r,f++e)|none=>k
 | [],b,f=>by grind[Gq,Sz,VW,NX]
 |x::r,b,f=>by
  simp[Gq,lT];cases h:Ae (W (x-g b))with
  |true=>
   simp
   rw[bJ g k a r];simp only[VW,NX,C3,h,C2];grind
  |false=>simp_all[Sz,VW,NX]
def a4n(g:List Int->Int)(a:List Int×List Int)(x:Int):(List Int×List Int) ⊕ (List Int×Unit):=.inl (a.1++[x],a.2++[W (x-g a.1)])
theorem bK(g:List Int->Int)(f:List Int×List Int->List Int×Unit):∀(r k h:LI),Sz f (Gq (a4n g) r (k,h))=f (k++r,h++NX g r k)|[],k,h=>by grind[Gq,Sz,NX]|x::r,k,h=>by simp only[Gq,a4n];rw[bK g f r];simp[NX]
theorem a0Q{g:List Int->Int}{r f e:LI}(h:VW g r f=kc e):e=NX g r f/\e.all Ae=ka:=by unfold VW at h;grind
theorem RC{l:LI}{i:Nat}(h:i<l.length):l.take i++[l[i]]=l.take (i+1):=by simp
theorem Uq{l:LI}{p:Int->Bool}(h:l.all p=ka)(i:Nat):(l.take i).all p=ka:=by grind
theorem a0R{l:LI}{p:Int->Bool}(h:l.all p=ka)(i:Nat):(l.drop i).all p=ka:=by grind
theorem Yu{M β:Type}{f:M->Option (M ⊕ β)}(l:LI)(k:Nat)(t:k<=l.length)(S:Nat->List Int->M)(g:List Int×List Int->Int->(List Int×List Int) ⊕ β)(d:List Int->β)
  (m:∀i (h:i<l.length) c,k<=i->c.length=i-k->(∀e,g (l.take i,c) l[i]=.inl e->f (S i c)=kc (.inl (S (i+1) e.2))/\e.1=l.take (i+1)/\e.2.length=i+1-k)/\(∀b,g (l.take i,c) l[i]=.inr b->f (S i c)=kc (.inr b)))
  (j:∀c,c.length=l.length-k->f (S l.length c)=kc (.inr (d c))):Ah f (S k [])=kc (Sz (λa=>d a.2) (Gq g (l.drop k) (l.take k,[]))):=by
 have h:=Bi (f:=f) (l.drop k) (λi a=>S (k+i) a.2) g (λi a=>a.1=l.take (k+i)/\a.2.length=i) (λa=>d a.2)
  (λi q a o=>by
   obtain⟨a1,c⟩:=a;obtain⟨n,p⟩:=o;simp only at n p;subst n;rw[E7]at q;have r:k+i<l.length:=by omega
   grind)
  (λa o=>by
   simp_all) (a:=(l.take k,[])) ⟨by simp,rfl⟩
 omega
def Zr(l c:List Int)(s:Int):Option (List Int):=bif l.all Ae then VW (TB c s) (l.drop c.length) (l.take c.length)else kd
theorem XE{l c:LI}{s:Int}(w:Sc c s=ka)(u:c.length<=l.length)(z:l.length<100000):
  Lq (l,c,s)=kc (JW (Zr l c s)):=by
 have n:short l:=by unfold short;omega
 have k:short c:=by unfold short;omega
 have e:0<=s:=by simp_all[Sc]
 have p:A3 (((l.length:Nat):Int)<((c.length:Nat):Int))=kb:=by simp_all
 unfold Lq Zr;simp only[Pg k,w,oB,bT,cF,p,Jz n];cases hw:l.all Ae with
 |false=>rfl
 |true=>
  have q:zB .i64 (((l.length:Nat):Int)-((c.length:Nat):Int))=((l.length-c.length:Nat):Int):=by grind[Al]
  have y:A3 ((0:Int)<=((l.length-c.length:Nat):Int))=ka:=by simp
  have r:AZ (l.length-c.length)=ka:=Aw (by omega);simp[q,r]
  have:=Yu (f:=GV) l c.length u (λi h=>(l,c,s,(i:Int),h,())) (lT (TB c s) (.inr ((6:Int),([]:List Int),()))) (λh=>.inl (h,()))
   (λi a h v d=>by
    have o:short (l.take i):=by unfold short;grind
    have j:A3 ((0:Int)<=(i:Int))=ka:=by simp
    have m:A3 ((i:Int)<=((l.length:Nat):Int))=ka:=by grind
    have t:AZ (h.length+1)=ka:=Aw (by omega);constructor
    ·intro x g;unfold lT at g;cases hq:Ae (W (l[i]-TB c s (l.take i)))with
     |false=>simp_all
     |true=>
      simp only[hq,cT,Sum.inl.injEq]at g;subst g;refine⟨?_,RC a,by grind⟩;simp only[GV,Bp a,cT,Ac a,oB,j,m,A7,tN,bB o k e,JU,hq,bT,cF,t,Aa (B6 a n),A9]
    ·intro b hb;unfold lT at hb;cases hq:Ae (W (l[i]-TB c s (l.take i)))with
     |true=>simp_all
     |false=>
      simp[hq]at hb;subst hb;simp only[GV,Bp a,cT,Ac a,oB,j,m,A7,tN,bB o k e,JU,hq,C6])
   (λh d=>by simp[GV])
  rw[this,bJ];cases VW (TB c s) (l.drop c.length) (l.take c.length)<;>rfl
theorem Th{l c:LI}{s:Int}(j:Sc c s=ka)(r:c.length<=l.length)(w:l.length<100000):
  KG (l,c,s)=kc (JW (Zr l c s)):=by
 have m:short l:=by unfold short;omega
 have a:short c:=by unfold short;omega
 have n:A3 (((l.length:Nat):Int)<((c.length:Nat):Int))=kb:=by simp_all
 unfold KG Zr;simp only[Ho a,j,oB,bT,cF,n,AC m];cases hw:l.all Ae with
 |false=>rfl
 |true=>
  simp only[bT,cF,cT]
  have:=Yu (f:=GF) l c.length r (λi h=>(l,c,s,(i:Int),h,())) (a4n (TB c s)) (λh=>(h,()))
   (λi d h t k=>by
    have u:short (l.take i):=by unfold short;grind
    have o:A3 ((0:Int)<=(i:Int))=ka:=by simp
    have p:A3 ((i:Int)<=((l.length:Nat):Int))=ka:=by grind
    have q:AZ (h.length+1)=ka:=Aw (by omega);refine⟨λv g=>?_,λb hb=>by cases hb⟩;simp only[a4n,Sum.inl.injEq]at g;subst g;refine⟨?_,RC d,by grind⟩;simp only[GF,Bp d,cT,Ac d,oB,o,p,A7,tN,Sf u a (Uq hw i) j,q,Aa (B6 d m),A9])
   (λh k=>by simp[GF])
  rw[this,bK];have e:short (NX (TB c s) (l.drop c.length) (l.take c.length)):=by unfold short;grind[NY]
  simp only[oB,C0,AC e,VW];cases (NX (TB c s) (l.drop c.length) (l.take c.length)).all Ae<;>rfl
theorem fC{l c r:LI}{s:Int}(h:Zr l c s=kc r):eH (l.take c.length) r c s=kc l/\r.all Ae=ka/\r.length=l.length-c.length:=by unfold Zr at h;cases hw:l.all Ae with|false=>simp_all|true=>simp[hw]at h;obtain⟨e,g⟩:=a0Q h;refine⟨?_,g,by simp_all[NY]⟩;simp[eH,Uq hw,g];grind[bI,List.take_append_drop]
def VA(l:List Int)(lag:Int)(t:List Int):Option (List Int):=bif l.all Ae then VW (MI lag t) l []else kd
theorem a6y{l t:LI}{lag:Int}(p:Qw lag t=ka)(d:t.length=3)(v:l.length<100000):
  Pt (l,lag,t)=kc (JW (VA l lag t)):=by
 have c:short l:=by unfold short;omega
 obtain⟨j,m⟩:2<=lag/\lag<=1024:=by simp_all[Qw]
 unfold Pt VA;simp only[Xm d,p,oB,bT,cF,VP c];cases hw:l.all Ae with
 |false=>rfl
 |true=>
  have u:A3 ((0:Int)<=((l.length:Nat):Int))=ka:=by simp
  have e:AZ l.length=ka:=Aw (by omega);simp[e]
  have:=Yu (f:=JH) l 0 (Nat.zero_le _) (λi h=>(l,lag,l,(l.length:Int),(i:Int),h,t,())) (lT (MI lag t) (.inr ((6:Int),([]:List Int),()))) (λh=>.inl (h,()))
   (λi a h o k=>by
    have n:AZ (h.length+1)=ka:=Aw (by omega);have q:=VQ (lag:=lag) (t:=t) (E3 a) c d j m;constructor
    ·intro r g;unfold lT at g;cases hq:Ae (W (l[i]-MI lag t (l.take i)))with
     |false=>simp_all
     |true=>
      simp only[hq,cT,Sum.inl.injEq]at g;subst g;refine⟨?_,RC a,by simp_all⟩;simp only[JH,Bp a,cT,Ac a,oB,q,NR,hq,bT,cF,n,Aa (B6 a c),A9]
    ·intro b hb;unfold lT at hb;cases hq:Ae (W (l[i]-MI lag t (l.take i)))with
     |true=>simp_all
     |false=>
      simp_all[JH,Ac,NR])
   (λh k=>by simp[JH])
  simp only[nZ]at this;rw[this,bJ,B9,I4];cases VW (MI lag t) l []<;>rfl
theorem oO{l t:LI}{lag:Int}(u:Qw lag t=ka)(j:t.length=3)(x:l.length<100000):
  JR (l,lag,t)=kc (JW (VA l lag t)):=by
 have e:short l:=by unfold short;omega
 obtain⟨m,n⟩:2<=lag/\lag<=1024:=by simp_all[Qw]
 unfold JR VA;simp only[Sd j,u,oB,bT,cF,AC e];cases hw:l.all Ae with
 |false=>rfl
 |true=>
  simp only[bT,cF,cT]
  have:=Yu (f:=Jp) l 0 (Nat.zero_le _) (λi h=>(l,lag,(i:Int),h,t,())) (a4n (MI lag t)) (λh=>(h,()))
   (λi a h r k=>by
    have d:short (l.take i):=by unfold short;grind
    have v:=Ug (out:=l.take i) (lag:=lag) (t:=t) d j m n;have p:A3 ((0:Int)<=(i:Int))=ka:=by simp
    have q:A3 ((i:Int)<=((l.length:Nat):Int))=ka:=by grind
    have o:AZ (h.length+1)=ka:=Aw (by omega);refine⟨λw g=>?_,λb hb=>by cases hb⟩;simp only[a4n,Sum.inl.injEq]at g;subst g;refine⟨?_,RC a,by simp_all⟩;simp only[Jp,Bp a,cT,Ac a,oB,p,q,A7,tN,v,o,Aa (B6 a e),A9])
   (λh k=>by simp[Jp])
  simp only[nZ]at this;rw[this,bK,B9,I4];have c:short (NX (MI lag t) l []):=by unfold short;rw[NY];omega
  simp only[oB,C0,AC c,VW];cases (NX (MI lag t) l []).all Ae<;>rfl
theorem Yv{l t r:LI}{lag:Int}(h:VA l lag t=kc r):Zf r lag t=kc l/\r.all Ae=ka/\r.length=l.length:=by unfold VA at h;cases hw:l.all Ae with|false=>simp_all|true=>simp[hw]at h;obtain⟨e,g⟩:=a0Q h;refine⟨?_,g,by rw[e,NY]⟩;simp[Zf,g];simp_all[bI]
def a9l:List Int->bC->List Int|[],_=>[]|x::r,f=>W (x-Bd f)::a9l r (Ui f x)
theorem VB:∀r f,(a9l r f).length=r.length|[],_=>rfl|x::r,f=>by simp[a9l,VB r]
def b9I:List Int->List Int->bC->Option (List Int)|[],dn,_=>kc dn|x::r,dn,f=>bif Ae (W (x-Bd f))then b9I r (dn++[W (x-Bd f)]) (Ui f x)else kd
theorem b2k:∀(r h:LI)(f:bC),b9I r h f=bif (a9l r f).all Ae then kc (h++a9l r f)else none|[],h,f=>by simp[b9I,a9l]|x::r,h,f=>by simp[b9I,a9l];cases Ae (W (x-Bd f))with|false=>rfl|true=>simp_all[b2k]
theorem b3H:∀(r z:LI)(f:bC),r.all Ae=ka->a7c (a9l r f) z f=kc (z++r)|[],z,f,_=>by simp[a9l,a7c]|x::r,z,f,h=>by(rw[C3,bA]at h;have e:W (Bd f+W (x-Bd f))=x:=by grind[b8y]);simp only[a9l,a7c,e,h.1,cT,b3H r _ _ h.2,aA,I0]
theorem VX{g:LI}{a:List Si}{b c:Int}(p:short g):∀(k i:Nat)(d:LI)(f:bC),i+k=g.length->d.length=i->uD f->
  Ah Io (a,b,c,(g.length:Int),(i:Int),d++g.drop i,f,())=kc (match b9I (g.drop i) d f with
   |some r=>.inl (a,b,c,r,())
   |none=>.inr ((6:Int),([]:List Int),()))
 |0,i,d,f,h,l,j=>by
  obtain rfl:i=g.length:=by omega
  rw[D9,G7];exact Ad (b:=B7 (a,b,c,d,())) (by simp[Io])
 |k+1,i,d,f,h,l,j=>by
  have e:i<g.length:=by omega
  have q:g.length<1000000:=p;have n:A3 ((0:Int)<=(i:Int))=ka:=by simp
  have t:(d++g.drop i).length=g.length:=by grind
  have o:A3 ((i:Int)<(((d++g.drop i).length:Nat):Int))=ka:=by simp_all
  have m:b9I (g.drop i) d f=bif Ae (W (g[i]-Bd f))then b9I (g.drop (i+1)) (d++[W (g[i]-Bd f)]) (Ui f g[i])else kd:=by
   rw[A4 e];rfl
  rw[m];cases hw:Ae (W (g[i]-Bd f))with
  |true=>
   rw[Ag (s':=(a,b,c,(g.length:Int),((i+1:Nat):Int),(d++[W (g[i]-Bd f)])++g.drop (i+1),Ui f g[i],())) (by
    simp only[Io,Bp e,n,o,cT,A7,JX j,oB,tN,RB l e,IW,hw,bT,cF,Zh j,eM l e,Aa (show i<1000000 by omega)])]
   exact VX p k (i+1) _ _ (by omega) (by simp_all) (eL j _)
  |false=>
   exact Ad (by
    simp only[Io,Bp e,n,o,cT,A7,JX j,oB,tN,RB l e,IW,hw,C6];rfl)
theorem Zs{g:LI}{a:List Si}{b:Int}(l:short g):∀(k i:Nat)(c:LI)(f:bC),i+k=g.length->c.length=i->uD f->
  Ah HT (a,b,(i:Int),c++g.drop i,f,())=kc (a,b,c++a9l (g.drop i) f,())
 |0,i,c,f,h,e,d=>by
  obtain rfl:i=g.length:=by omega
  simp_all[Ad,HT,a9l]
 |k+1,i,c,f,h,e,d=>by
  have j:i<g.length:=by omega
  have o:g.length<1000000:=l;have m:A3 ((0:Int)<=(i:Int))=ka:=by simp
  have p:(c++g.drop i).length=g.length:=by grind
  have n:A3 ((i:Int)<(((c++g.drop i).length:Nat):Int))=ka:=by simp_all
  rw[Ag (s':=(a,b,((i+1:Nat):Int),(c++[W (g[i]-Bd f)])++g.drop (i+1),Ui f g[i],())) (by
    simp only[HT,m,n,cT,A7,Rc d,oB,tN,RB e j,lH d,eM e j,Aa (show i<1000000 by omega)]),
   Zs l k (i+1) _ _ (by omega) (by simp_all) (eL d _),A4 j]
  simp_all[a9l]
def b5z:List Si->List Int->Option (List Int)|[],row=>kc row|s::r,row=>match b9I row [] (Uj s)with|some row'=>b5z r row'|none=>kd
theorem a9m{g d:LI}{f:bC}(h:b9I g [] f=kc d):d=a9l g f/\d.all Ae=ka:=by rw[b2k]at h;grind
theorem a4o:∀(a b:List Si)(h:LI),lO (a++b) h=match lO a h with|some r=>lO b r|none=>kd
 | [],b,h=>rfl
 |s::a,b,h=>by
  simp only[J0,lO];split;exact a4o a b _;rfl
theorem a9n:∀(st:List Si)(g d:LI),g.all Ae=ka->b5z st g=kc d->lO st.reverse d=kc g/\d.all Ae=ka/\d.length=g.length
 | [],g,d,k,h=>by
  simp[b5z]at h;subst h;exact⟨rfl,k,rfl⟩
 |s::st,g,d,k,h=>by
  simp only[b5z]at h;split at h;rename_i f j;obtain⟨e,a⟩:=a9m j;obtain⟨b,c,i⟩:=a9n st f d a h;refine⟨?_,c,by rw[i,e,VB]⟩;rw[List.reverse_cons,a4o,b];simp only[lO];rw[e,b3H g [] _ k,C0];cases h
theorem Ti{st:List Si}(d:∀s∈st,tK s=ka)(n:st.length<=3):∀(j k:Nat)(g:LI),k+j=st.length->short g->
  Ah Ip (st,(st.length:Int),(k:Int),g,())=kc (match b5z (st.drop k) g with
   |some r=>.inl (r,())
   |none=>.inr ((6:Int),([]:List Int),()))
 |0,k,g,h,m=>by
  obtain rfl:k=st.length:=by omega
  simp_all[Ad,Ip,b5z]
 |j+1,k,g,h,m=>by
  have e:k<st.length:=by omega
  have f:=d _ (B3 e);have i:=VX (a:=st) (b:=(st.length:Int)) (c:=(k:Int)) m g.length 0 [] (Uj st[k]) (by omega) rfl (pG f);simp at i;have l:((0:Int) != 0)=kb:=rfl;rw[A4 e];simp[b5z];cases hr:b9I g [] (Uj st[k])with
  |some r=>
   rw[hr]at i;rw[Ag (s':=(st,(st.length:Int),((k+1:Nat):Int),r,())) (by simp only[Ip,Bp e,cT,Ac e,oB,Vu f,l,cF,i,Aa (show k<1000000 by omega)])];exact Ti d n j (k+1) r (by omega) (by have:=(a9m hr).1;unfold short at m|-;simp_all[VB])
  |none=>
   simp_all[Ad,Ip,Ac,Vu]
theorem VY{st:List Si}(e:∀s∈st,tK s=ka)(m:st.length<=3):∀(j k:Nat)(f:LI),k+j=st.length->short f->
  Ah Fe (st,(k:Int),f,())=kc (match b5z (st.drop k) f with
   |some r=>.inl (r,())
   |none=>.inr ((6:Int),([]:List Int),()))
 |0,k,f,h,l=>by
  obtain rfl:k=st.length:=by omega
  simp_all[Ad,Fe,b5z]
 |j+1,k,f,h,l=>by
  have d:k<st.length:=by omega
  have g:=e _ (B3 d);have i:=Zs (a:=st) (b:=(k:Int)) l f.length 0 [] (Uj st[k]) (by omega) rfl (pG g);simp at i;have c:short (a9l f (Uj st[k])):=by unfold short;rw[VB];exact l
  rw[A4 d];simp[b5z,b2k];cases hr:(a9l f (Uj st[k])).all Ae with
  |true=>
   rw[Ag (s':=(st,((k+1:Nat):Int),a9l f (Uj st[k]),())) (by simp only[Fe,Bp d,cT,Ac d,oB,KM g,i,AC c,hr,bT,cF,Aa (show k<1000000 by omega)])];exact VY e m j (k+1) _ (by omega) c
  |false=>
   exact Ad (by simp only[Fe,Bp d,cT,Ac d,oB,KM g,i,AC c,hr,C6];rfl)
def Ri(l:List Int)(st:List Si):Option (List Int):=bif l.all Ae then b5z st l else kd
theorem a3g{l:LI}{st:List Si}(k:KY st=ka)(a:l.length<100000):QF (l,st)=kc (JW (Ri l st)):=by(have h:=k;simp only[KY,bA,dT]at h;have f:short st:=by unfold short;omega);(have g:short l:=by unfold short;omega);unfold QF Ri;simp only[Vr f,k,zQ,Ue g];cases hw:l.all Ae with|false=>rfl|true=>have:=Ti (lA.1 h.2) h.1 st.length 0 l (by omega) g;simp at this;simp[PG g,this];cases b5z st l<;>rfl
theorem iZ{l:LI}{st:List Si}(a:KY st=ka)(b:l.length<100000):LZ (l,st)=kc (JW (Ri l st)):=by(have h:=a;simp only[KY,bA,dT]at h;have k:short st:=by unfold short;omega);(have g:short l:=by unfold short;omega);have f:AZ (0+l.length)=ka:=Aw (by omega);unfold LZ Ri;simp only[Qf k,a,zQ,AC g];cases hw:l.all Ae with|false=>rfl|true=>have:=VY (lA.1 h.2) h.1 st.length 0 l (by omega) g;simp at this;simp only[zQ,f,A9,C0,this];cases b5z st l<;>rfl
theorem a0S{l r:LI}{st:List Si}(h:Ri l st=kc r):TC r st=kc l/\r.all Ae=ka/\r.length=l.length:=by unfold Ri at h;cases hw:l.all Ae with|false=>simp_all|true=>simp[hw]at h;obtain⟨f,g,k⟩:=a9n st l r hw h;exact⟨by simp only[TC,g,cT,f],g,k⟩
theorem d3X{w:Nat}(h:w<=64):((2^w:Nat):Int) ∣ 18446744073709551616:=D2.2 (H2 2 h)
theorem c4i(n:Int):∃q,zB .i64 n=n+18446744073709551616*q:=by rw[MH,Int.bmod];split;exact⟨-(n / 18446744073709551616),by omega⟩;exact⟨-(n / 18446744073709551616)-1,by omega⟩
theorem b8z{w:Nat}(h:w<=64)(n:Int):((2^w:Nat):Int) ∣ zB .i64 n↔((2^w:Nat):Int) ∣ n:=by obtain⟨q,g⟩:=c4i n;rw[g];grind[F9,E8,d3X]
theorem a4p{w:Nat}(h:w<=64)(a:Int):2^w ∣ (B8 64 a).toNat↔((2^w:Nat):Int) ∣ a:=by(have e:((B8 64 a).toNat:Int)=a+18446744073709551616*-(a / 18446744073709551616):=by rw[BitVec.toNat_ofInt];omega);rw[<-D2,e];grind[F9,E8,d3X]
theorem b2l(w x y:Nat):2^w ∣ (x ||| y)↔2^w ∣ x/\2^w ∣ y:=by simp_all[Nat.dvd_iff_mod_eq_zero,Nat.or_mod_two_pow]
theorem c4j{w:Nat}(h:w<=64)(a b:Int):((2^w:Nat):Int) ∣ bits .i64 .or a b↔((2^w:Nat):Int) ∣ a/\((2^w:Nat):Int) ∣ b:=by show((2^w:Nat):Int) ∣ zB .i64 (((B8 64 a) ||| (B8 64 b)).toNat:Int)↔_;rw[b8z h,D2,BitVec.toNat_or,b2l,a4p h,a4p h]
def a9o(l:List Int)(a:Int):Int:=l.foldl (λa x=>bits .i64 .or a x) a
theorem Yw{w:Nat}(h:w<=64):∀(l:LI)(a:Int),((2^w:Nat):Int) ∣ a9o l a↔((2^w:Nat):Int) ∣ a/\∀x∈l,((2^w:Nat):Int) ∣ x|[],a=>by simp[a9o]|x::l,a=>by show((2^w:Nat):Int) ∣ a9o l (bits .i64 .or a x)↔_;rw[Yw h l,c4j h];simp_all[and_assoc]
theorem a0T:∀(l:LI),(∀x∈l,x=0)->a9o l 0=0|[],_=>rfl|x::l,h=>by have g:=h x (List.mem_cons_self);subst g;show a9o l (bits .i64 .or 0 0)=0;rw[show bits .i64 .or 0 0=0 from by rfl];simp_all[a0T]
theorem b8A{l:LI}(k:l.all Ae=ka)(h:∃x∈l,x≠0):a9o l 0≠0:=by intro e;obtain⟨x,g,f⟩:=h;have b:=((Yw (w:=62) (by omega) l 0).1 (by omega)).2 x g;have a:=Cp.1 (lA.1 k x g);omega
def Pi(l:List Int)(w:Nat):Prop:=((∀x∈l,x=0)/\w=0)\/((∃x∈l,x≠0)/\w<=30/\(∀x∈l,((2^w:Nat):Int) ∣ x)/\(w=30\/∃x∈l,¬ ((2^(w+1):Nat):Int) ∣ x))
theorem b2m{v w:Nat}(h:v<=w){x:Int}(g:((2^w:Nat):Int) ∣ x):((2^v:Nat):Int) ∣ x:=Int.dvd_trans (D2.2 (H2 2 h)) g
theorem Pi.unique{l:LI}{v w:Nat}(hv:Pi l v)(g:Pi l w):v=w:=by
 have d:∀{v w:Nat},v<=30->w<=30->(∀x∈l,((2^w:Nat):Int) ∣ x)->(v=30\/∃x∈l,¬ ((2^(v+1):Nat):Int) ∣ x)->w<=v:=by
  grind[b2m]
 rcases hv with⟨f,hv⟩|⟨⟨x,c,h⟩,hv1,hv2,hv3⟩
 ·rcases g with⟨-,g⟩|⟨⟨x,c,h⟩,-⟩;all_goals grind
 ·rcases g with⟨f,-⟩|⟨-,k,a,b⟩;all_goals grind
theorem a9p:∀(n N:Nat),N<=n->0<N->∃k m,N=2^k*(2*m+1)|0,N,h,g=>absurd g (by omega)|n+1,N,h,g=>by by_cases he:N%2=0;obtain⟨k,m,e⟩:=a9p n (N / 2) (by omega) (by omega);refine⟨k+1,m,?_⟩;rw[G4,G5 (2^k) 2,Nat.mul_assoc,<-e];omega;exact⟨0,N / 2,by omega⟩
theorem c1e{k m:Nat}(h:2^k*(2*m+1)<2^64):(2^k*(2*m+1)) &&& (2^64-2^k*(2*m+1))=2^k:=by
 have o:1<=2^k:=I7;have n:k<64:=by(refine J5 λg=>?_);have d:2^64<=2^k:=D8 (by simp) g;grind
 have e:2^k*(2*m+1)=(2^k*(2*m)+(2^k-1))+1:=by grind
 have l:2^k*(2*m)+(2^k-1)<2^64:=by omega
 refine Nat.eq_of_testBit_eq λi=>?_
 have a:(2^64-2^k*(2*m+1)).testBit i=(A3 (i<64)&&!(2^k*(2*m)+(2^k-1)).testBit i):=by rw[e];exact Nat.testBit_two_pow_sub_succ l i
 have f:=F3 (2*m+1) (b:=0) (i:=k) (by omega) i;rw[Nat.add_zero]at f;have c:=F3 (2*m) (b:=2^k-1) (i:=k) (by omega) i;rw[Nat.testBit_and,a,f,c,Nat.testBit_two_pow];by_cases d:i<k;grind;by_cases h2:k=i;simp_all;obtain⟨j,rfl⟩:∃j,i=k+(j+1):=⟨i-k-1,by omega⟩;have p:k+(j+1)-k=j+1:=by omega
 have q:(2*m+1) / 2=m:=by omega
 simp_all[Nat.testBit_succ]
theorem b8B:∀k:Nat,k<64->YU[(2^k*285870213051353865)%18446744073709551616 / 288230376151711744]?=kc (k:Int):=by(have h:∀k:Fin 64,YU[(2^k.val*285870213051353865)%18446744073709551616 / 288230376151711744]?=kc (k.val:Int):=by decide);exact λk g=>h ⟨k,g⟩
theorem a9q{k m:Nat}:¬ 2^(k+1) ∣ 2^k*(2*m+1):=by rintro⟨c,h⟩;rw[G4,Nat.mul_assoc]at h;grind[Nat.eq_of_mul_eq_mul_left]
theorem b8C{N:Nat}(d:0<N)(h:N<18446744073709551616):∃k:Nat,BU (N:Int)=kc (k:Int)/\2^k ∣ N/\¬ 2^(k+1) ∣ N:=by
 obtain⟨k,m,e⟩:=a9p N N (C5 _) d;have n:2^k<=N:=by grind
 have i:k<64:=by(refine J5 λg=>?_);have l:2^64<=2^k:=D8 (by simp) g;omega
 refine⟨k,?_,⟨_,e⟩,e▸a9q⟩;have hb:bits .u64 .and (N:Int) (zB .u64 (0-(N:Int)))=((2^k:Nat):Int):=by(have b:zB .u64 (0-(N:Int))=((18446744073709551616-N:Nat):Int):=by grind[zB,IntKind.bits,IntKind.signed]);(rw[b];show zB .u64 (((B8 64 (N:Int)) &&& (B8 64 ((18446744073709551616-N:Nat):Int))).toNat:Int)=_;rw[D7,D7,J3,E1,E1,E6 h,E6 (by omega)]);have:=c1e (k:=k) (m:=m) (by omega);rw[<-e]at this;rw[show(18446744073709551616:Nat)=2^64 from rfl,this];exact Av (by omega)
 have j:((N:Int)==0)=kb:=by grind
 unfold BU;rw[hb,j,cF];have f:zB .u64 (((2^k:Nat):Int)*285870213051353865)=(((2^k*285870213051353865)%18446744073709551616:Nat):Int):=by rfl
 have a:=b8B k i;generalize (2^k*285870213051353865)%18446744073709551616=M at f a;have c:=Ef (N:=M) (o:=58) (by omega);rw[f,show(58:Int)=((58:Nat):Int)from rfl,c,show 2^58=288230376151711744 from rfl];generalize M / 288230376151711744=J at a;grind[Ac,Al]
theorem c8J(y:Int):bits .i64 .and y 1=y%2:=by(have h:((B8 64 y) &&& (B8 64 1)).toNat=(y%18446744073709551616).toNat%2:=by simp);show zB .i64 (((B8 64 y) &&& (B8 64 1)).toNat:Int)=_;grind[Al]
theorem a9r{n:Nat}(g:n<=62)(c:Int):Au .i64 (((2^n:Nat):Int)*c) (n:Int)=c:=by
 have f:0<2^n:=F0 n;have e:min (D5 (n:Int)) (IntKind.bits .i64)=n:=by grind[IntKind.bits]
 have h:((2^n:Nat):Int)=2^n:=by simp
 unfold Au;grind[F8]
theorem VZ{a:Int}(p:a≠0):∀(k n:Nat),n+k=30->((2^n:Nat):Int) ∣ a->∃r:Nat,Ah Hg (a,(n:Int),())=kc ((r:Int),())/\r<=30/\((2^r:Nat):Int) ∣ a/\(r=30\/¬ ((2^(r+1):Nat):Int) ∣ a)|0,n,h,i=>by(obtain rfl:n=30:=by omega);exact⟨30,Ad (by grind[Hg]),by omega,i,.inl rfl⟩|k+1,n,h,i=>by(have f:(a != 0)=ka:=by grind);(have b:A3 ((n:Int)<30)=ka:=by grind);(have e:zB .u64 (n:Int)=(n:Int):=Av (by omega);have d:A3 ((n:Int)<0)=kb:=by simp);(have j:zB .i64 ((n:Int)+1)=((n+1:Nat):Int):=Aa (by omega);obtain⟨c,l⟩:=i;have m:Au .i64 a (n:Int)=c:=by grind[a9r]);(have g:((2^(n+1):Nat):Int) ∣ a↔c%2=0:=by(have o:((2^(n+1):Nat):Int)=((2^n:Nat):Int)*2:=by rfl);rw[o,l];grind[Int.mul_dvd_mul_iff_left]);(by_cases h2:c%2=0;have hb:(bits .i64 .and c 1==0)=ka:=by rw[c8J,h2];rfl);(obtain⟨r,u,q⟩:=VZ p k (n+1) (by omega) (g.2 h2);refine⟨r,?_,q⟩;rw[Ag (s':=(a,((n+1:Nat):Int),())) (by simp only[Hg,f,cT,b,e,d,cF,m,hb,j])];omega;have hb:(bits .i64 .and c 1==0)=kb:=by simp_all[c8J]);exact⟨n,Ad (by simp only[Hg,f,cT,b,e,d,cF,m,hb]),by omega,⟨c,l⟩,.inr λt=>h2 (g.1 t)⟩
theorem b3I{l:LI}(f:short l):∀(k i:Nat)(a:Int),i+k=l.length->Ah HH (a,l,(l.length:Int),(i:Int),())=kc (a9o (l.drop i) a,())|0,i,a,h=>by(obtain rfl:i=l.length:=by omega);simp_all[Ad,HH,a9o]|k+1,i,a,h=>by(have g:i<l.length:=by omega);have b:l.length<1000000:=f;rw[A4 g,Ag (s':=(bits .i64 .or a l[i],l,(l.length:Int),((i+1:Nat):Int),())) (by simp only[HH,Bp g,cT,Ac g,oB,Aa (show i<1000000 by omega)])];exact b3I f k (i+1) _ (by omega)
theorem lU{l:LI}(f:short l):∀(k i:Nat)(a:Int),i+k=l.length->Ah NB (l,a,(i:Int),())=kc (a9o (l.drop i) a,())|0,i,a,h=>by(obtain rfl:i=l.length:=by omega);simp_all[Ad,NB,a9o]|k+1,i,a,h=>by(have g:i<l.length:=by omega);have b:l.length<1000000:=f;rw[A4 g,Ag (s':=(l,bits .i64 .or a l[i],((i+1:Nat):Int),())) (by simp only[NB,Bp g,cT,Ac g,oB,Aa (show i<1000000 by omega)])];exact lU f k (i+1) _ (by omega)
theorem lV{l:LI}{r:Nat}(g:r<=30)(h:r=30\/¬ ((2^(r+1):Nat):Int) ∣ a9o l 0):r=30\/∃x∈l,¬ ((2^(r+1):Nat):Int) ∣ x:=by grind[Yw,Int.dvd_zero]
theorem a3h{l:LI}(i:short l)(j:l.all Ae=ka):∃w:Nat,JP l=kc (w:Int)/\w<=30/\Pi l w:=by have f:=lU i l.length 0 0 (by omega);simp at f;unfold JP;simp[f];by_cases hz:∀x∈l,x=0;have e:=a0T l hz;exact⟨0,by simp_all[Ad,Hg],by omega,.inl ⟨hz,rfl⟩⟩;have h:∃x∈l,x≠0:=Classical.byContradiction λc=>hz λx h=>Classical.byContradiction λd=>c ⟨x,h,d⟩;obtain⟨r,k,g,a,b⟩:=VZ (b8A j h) 30 0 (by rfl) (by simp);rw[nZ]at k;exact⟨r,by simp_all,g,.inr ⟨h,g,((Yw (by omega) l 0).1 a).2,lV g b⟩⟩
theorem jA{l:LI}(z:short l)(j:l.all Ae=ka):∃w:Nat,Ft l=kc (w:Int)/\w<=30/\Pi l w:=by
 have a:=b3I z l.length 0 0 (by omega);simp at a;unfold Ft;simp[a];by_cases hz:∀x∈l,x=0;have e:=a0T l hz;exact⟨0,by simp_all,by omega,.inl ⟨hz,rfl⟩⟩
 ·have g:∃x∈l,x≠0:=Classical.byContradiction λm=>hz λx g=>Classical.byContradiction λt=>m ⟨x,g,t⟩;have u:=b8A j g;have n:(a9o l 0==0)=kb:=by simp_all
  obtain⟨q,y⟩:∃q,zB .u64 (a9o l 0)=a9o l 0+18446744073709551616*q:=⟨-(a9o l 0 / 18446744073709551616),by
   grind[zB,IntKind.bits,IntKind.signed]⟩
  obtain⟨C,H⟩:=lQ (a9o l 0);obtain⟨N,d⟩:=A8 C;have b:∀v,v<=64->(2^v ∣ N↔((2^v:Nat):Int) ∣ a9o l 0):=λv G=>by
   rw[<-D2,<-d,y];grind[F9,E8,d3X]
  have h:0<N:=by
   refine Nat.pos_of_ne_zero λD=>?_
   obtain⟨x,f,B⟩:=g;have F:=((Yw (w:=62) (by omega) l 0).1 ((b 62 (by omega)).1 (by omega))).2 x f;have A:=Cp.1 (lA.1 j x f);omega
  obtain⟨k,p,c,r⟩:=b8C h (by omega);have i:k<=63:=by
   refine Nat.le_of_not_lt λo=>?_
   have a:2^64<=2^k:=D8 (by simp) (by omega)
   have:=Nat.le_of_dvd h c
   omega
  simp only[n,zQ,d,p];have E:En (k:Int) 30=((min k 30:Nat):Int):=by rw[Yq];omega
  refine⟨min k 30,by grind,by omega,.inr ⟨g,by omega,?_,?_⟩⟩;all_goals grind[Yw,Nat.dvd_trans,H2,lV]
theorem c1f{l:LI}{w:Nat}(g:w<=30)(d:l.all Ae=ka)(h:Pi l w):Xx (w:Int) l=kc (l.map λx=>Au .i64 x (w:Int)):=by(have f:∀x∈l,((2^w:Nat):Int) ∣ x:=by rcases h with⟨h,-⟩|⟨-,-,h,-⟩;all_goals grind[Int.dvd_zero]);(have:l.all (Zp (w:Int))=ka:=by(rw[lA];intro x k;obtain⟨c,a⟩:=f x k;have b:G9 x (AO .i64 1 (w:Int))=0:=by simp_all[b8u]);simp_all[Zp]);simp only[Xx,this,cT]
theorem Ur{N n:Nat}(g:n<=63)(h:N<2^n)(L:LI):(AJ (N:Int) n L).length=L.length+n:=by grind[AJ,Ef,Nat.div_eq_of_lt,iS]
def IG(k:Nat)(x:Int):Nat:=if AU x / 2^k<32 then AU x / 2^k+1+k else 65
theorem a0U{k:Nat}(h:k<=25)(x:Int):IG k x<=65:=by grind[IG]
theorem b5A{k:Nat}(b:k<=25){x:Int}(f:Ae x=ka)(L:LI):(Oi k x L).length=L.length+IG k x:=by unfold Oi IG;have g:0<2^k:=F0 k;have h:AU x%2^k<2^k:=J8 _ g;have a:=PH f;split;rw[Ur (by omega) h,Mt];omega;grind[Ur,Mt]
theorem a0V{k:Nat}(g:k<=25):∀(l L:LI),l.all Ae=ka->(Jb k l L).length=L.length+(l.map (IG k)).sum|[],L,_=>by rfl|x::l,L,h=>by simp only[C3,bA]at h;have e:Jb k (x::l) L=Jb k l (Oi k x L):=rfl;rw[e,a0V g l _ h.2,b5A g h.1,List.map_cons,I6];omega
theorem a6z{k:Nat}(c:k<=25){x:Int}(g:Ae x=ka):MF ((k:Int),x)=kc ((IG k x:Nat):Int):=by(have d:=PH g;have f:Au .u64 ((AU x:Nat):Int) (k:Int)=((AU x / 2^k:Nat):Int):=Ef (by omega);have a:zB .i64 ((AU x / 2^k:Nat):Int)=((AU x / 2^k:Nat):Int):=PI (D4 (D1 _ _) d);have h:A3 ((k:Int)<0)=kb:=by simp);unfold MF IG;simp only[NW c,Re,g,oB,bT,cF,Rf g,h,f,a];generalize AU x / 2^k=q;by_cases hq:q<32;have b:A3 ((q:Int)<32)=ka:=dE (by omega);simp only[b,cT,if_pos hq];grind[Al];grind
theorem a6A{f:Int->Nat}{M:Nat}(h:∀x,f x<=M):∀l:List Int,(l.map f).sum<=M*l.length|[]=>by simp|x::l=>by have:=h x;have:=a6A h l;rw[List.map_cons,I6,lC,J1,J2];omega
theorem fD{f:Int->Nat}{l:LI}{i:Nat}(h:i<l.length):((l.take (i+1)).map f).sum=((l.take i).map f).sum+f l[i]:=by rw[B4 h,pA,List.sum_append];rfl
theorem lW{k:Nat}(a:k<=25){l:LI}(d:l.all Ae=ka)(j:l.length<10000):Gj ((k:Int),l)=kc (((l.map (IG k)).sum:Nat):Int):=by
 have:=AD (f:=Gi) (λi:Nat=>((k:Int),((((l.take i).map (IG k)).sum:Nat):Int),l,(l.length:Int),(i:Int),())) l.length (b:=((((l.map (IG k)).sum:Nat):Int),()))
  (λi h=>by
   have c:=a6z a (lA.1 d _ (B3 h));have g:=a6A (a0U a) (l.take (i+1));rw[fD h]at g;rw[D3]at g;have e:zB .i64 (((((l.take i).map (IG k)).sum:Nat):Int)+((IG k l[i]:Nat):Int))=((((l.take (i+1)).map (IG k)).sum:Nat):Int):=by
    grind[fD,Al]
   simp only[Gi,Bp h,cT,Ac h,oB,c,e,Aa (show i<1000000 by omega)])
  (by simp_all[Gi])
 unfold Gj;simp_all
theorem b8D(x:Int){n:Nat}(k:n<=62):∃N:Nat,Ga x n=(N:Int)/\N<2^n:=by obtain⟨h,f⟩:=lQ x;obtain⟨y,a⟩:=A8 h;have g:0<2^n:=F0 n;refine⟨y%2^n,?_,J8 _ g⟩;grind[Ga,Ul]
theorem Yx{n:Nat}(h:n<=62):∀(l L:LI),(Dg n l L).length=L.length+n*l.length|[],L=>by rfl|x::l,L=>by have e:Dg n (x::l) L=Dg n l (AJ (Ga x n) n L):=rfl;obtain⟨N,g,f⟩:=b8D x h;rw[e,Yx h l,g,Ur (by omega) f,lC,J1,J2];omega
theorem c4k{x:Int}(h:Ae x=ka):Bq x ((31:Nat):Int)=ka:=by
 have:=Cp.1 h;have g:AO .i64 (-1) (((31:Nat):Int)-1)=-1073741824:=by rfl
 have f:zB .i64 (AO .i64 1 (((31:Nat):Int)-1)-1)=1073741823:=by rfl
 unfold Bq;grind
theorem a0W{x:Int}(h:Ae x=ka):∀(k w:Nat),w+k=32->1<=k->Ee x k w<=31|k+1,w,g,_=>by simp[Ee];by_cases h31:w=31;grind[c4k];cases (x != 0)&&!Bq x w with|true=>exact a0W h k (w+1) (by omega) (by omega)|false=>grind
theorem Wa:∀(l:LI)(w:Nat),l.all Ae=ka->w<=31->l.foldl (λw x=>Ee x (32-w) w) w<=31|[],w,_,h=>h|x::l,w,g,h=>by simp only[C3,bA]at g;exact Wa l _ g.2 (a0W g.1 (32-w) w (by omega) (by omega))
theorem HC{l:LI}(h:l.all Ae=ka):Ax l<=31:=Wa l 0 h (by omega)
theorem VC{l:LI}(g:l.length<10000):JJ l=kc (((5+Ax l*l.length:Nat)):Int):=by have h:=EO l;have f:Ax l*l.length<=32*l.length:=E4 _ h;unfold JJ;simp only[IF (show short l by unfold short;omega),oB];grind[Al]
def Wb(k:Int)(part:List Int):Nat:=5+(if k=31 then 5+Ax part*part.length else(part.map (IG k.toNat)).sum)
def Fj:List Nat->List Int->List Int->Nat|z::zs,k::ks,l=>Wb k (l.take z)+Fj zs ks (l.drop z)|_,_,_=>0
theorem IY{q:Nat}(h:q<2147483648):zB .u64 (q:Int)=(q:Int):=Av (by omega)
theorem b5B{k:Int}(h:kB k=ka){part:LI}(g:part.all Ae=ka)(L:LI):(Sk k part L).length=L.length+Wb k part:=by simp[kB]at h;obtain⟨K,rfl⟩:=A8 (show 0<=k by omega);grind[Ur,HC,Sk,Wb,IY,Yx,a0V]
theorem a0X:∀(g:List Nat)(ks l L:LI),ks.all kB=ka->l.all Ae=ka->(Jc g ks l L).length=L.length+Fj g ks l|z::g,k::ks,l,L,h,c=>(by simp only[C3,bA]at h;have f:(l.take z).all Ae=ka:=lA.2 λx b=>lA.1 c x (C9 b);have a:(l.drop z).all Ae=ka:=lA.2 λx b=>lA.1 c x (D0 b);simp only[Jc,Fj];rw[a0X g ks _ _ h.2 a,b5B h.1 f];omega)|[],_,_,_,_,_=>by rfl|_::_,[],_,_,_,_=>by rfl
theorem a9s{k:Int}(h:kB k=ka)(part:LI):Wb k part<=10+65*part.length:=by simp[kB]at h;unfold Wb;split;have g:Ax part*part.length<=32*part.length:=E4 _ (EO part);omega;have:=a6A (a0U (k:=k.toNat) (by omega)) part;omega
theorem Us{h:List Nat}{p:Xq}(I:p.2.1.length=h.length)(b:p.2.1.all kB=ka)(L:h.length<=256):∀(j i:Nat)(l:LI)(c:Nat),i+j=h.length->(h.drop i).sum=l.length->l.all Ae=ka->l.length<=5000->c+10*j+65*l.length<1000000->Ah BM (l,(c:Int),(h.length:Int),(i:Int),CG h,p,())=kc (((c+Fj (h.drop i) (p.2.1.drop i) l:Nat):Int),())|0,i,l,c,H,_,_,_,_=>by(obtain rfl:i=h.length:=by omega);grind[Ad,BM,Fj]|j+1,i,l,c,H,hsum,F,hl5,hb=>by(have g:i<h.length:=by omega);(have a:i<p.2.1.length:=by omega);(have q:=lA.1 b _ (B3 a);rw[PJ g]at hsum;have B:A3 ((0:Int)<=(i:Int))=ka:=by simp);(have C:A3 ((i:Int)<(((CG h).length:Nat):Int))=ka:=by simp_all[Be]);(have D:A3 ((0:Int)<=((h[i]:Nat):Int))=ka:=by simp);(have E:A3 (((h[i]:Nat):Int)<=((l.length:Nat):Int))=ka:=by grind);(have e:(l.take h[i]).length=h[i]:=by simp_all);(have m:(l.drop h[i]).length=(h.drop (i+1)).sum:=by grind);(have y:(l.take h[i]).all Ae=ka:=lA.2 λx A=>lA.1 F x (C9 A);have z:(l.drop h[i]).all Ae=ka:=lA.2 λx A=>lA.1 F x (D0 A);have f:=a9s q (l.take h[i]);rw[e]at f;have o:BM (l,(c:Int),(h.length:Int),(i:Int),CG h,p,())=kc (.inl (l.drop h[i],((c+Wb p.2.1[i] (l.take h[i]):Nat):Int),(h.length:Int),((i+1:Nat):Int),CG h,p,())):=by(by_cases h31:p.2.1[i]=31;have d:(p.2.1[i]==31)=ka:=by simp_all);(have n:=VC (l:=l.take h[i]) (by omega);have w:Wb p.2.1[i] (l.take h[i])=5+(5+Ax (l.take h[i])*(l.take h[i]).length):=by simp_all[Wb]);(rw[w]at f|-;generalize 5+Ax (l.take h[i])*(l.take h[i]).length=r at n f|-;have u:zB .i64 (5+(r:Int))=5+(r:Int):=Al (by omega);have v:zB .i64 ((c:Int)+(5+(r:Int)))=((c+(5+r):Nat):Int):=by grind[Al]);(simp only[BM,Bp g,B,C,Fy g,D,E,cT,A7,tN,Ac a,oB,d,n,u,v,C4,Aa (show i<1000000 by omega)];have d:(p.2.1[i]==31)=kb:=by simp_all);(have t:=q;simp[kB]at t;obtain⟨K,G⟩:=A8 (show 0<=p.2.1[i]by omega);have n:=lW (k:=K) (by omega) y (by omega);have w:Wb p.2.1[i] (l.take h[i])=5+((l.take h[i]).map (IG K)).sum:=by simp_all[Wb]);(rw[<-G]at n;rw[w]at f|-;generalize ((l.take h[i]).map (IG K)).sum=r at n f|-;have u:zB .i64 (5+(r:Int))=5+(r:Int):=Al (by omega);have v:zB .i64 ((c:Int)+(5+(r:Int)))=((c+(5+r):Nat):Int):=by grind[Al]);simp only[BM,Bp g,B,C,Fy g,D,E,cT,cF,A7,tN,Ac a,oB,d,n,u,v,C4,Aa (show i<1000000 by omega)]);rw[Ag o,Us I b L j (i+1) (l.drop h[i]) _ (by omega) m.symm z (by omega) (by omega)];rw[A4 g,A4 a];grind[Fj]
theorem a3i{p:Xq}{n sH:Int}{l:LI}{g:List Nat}(h:sW p n sH l g):HN (p,n,sH,l)=kc ((4+Fj g p.2.1 l:Nat):Int):=by(have k:Go.Ab.short p.2.1:=by have:=h.ks;have:=h.len;unfold Go.Ab.short;omega);have a:=h.short;have b:=h.len;have f:=Us h.ks h.all h.len g.length 0 l 4 (by omega) (by rw[B9];exact h.sum) h.wide h.short (by omega);simp only[nZ,F5,B9]at f;unfold HN;simp only[Rd k,h.may,Sm h.row h.rest h.wide h.short,oB,bT,cF,DT,h.sizes,Be,f]
theorem a3j{p:Xq}{n sH:Int}{l:LI}{g:List Nat}(h:sW p n sH l g)(L:LI):(Dt p g l L).length=L.length+(4+Fj g p.2.1 l):=by obtain⟨o,f⟩:=A8 h.order.1;have k:=h.order.2;unfold Dt;rw[a0X _ _ _ _ h.all h.wide,f,IY (by omega),Ur (by omega) (by omega)];omega
def BP(o:Int):BN:=((0:Int),(0:Int),o,(0:Int),(0:Int),([]:List Int),A6 3 (0:Int),([]:List Si),([]:List Int),((0:Int),([]:List Int),()),([]:List Int),())
theorem a9t(o:Int):sO (BP o):=⟨by simp[BP],by rfl,by simp[BP],by simp[BP],by simp[BP],by simp[BP]⟩
theorem oP{k:Nat}(d:k<=25){x:Int}(g:Ae x=ka):IU ((k:Int),x)=kc ((IG k x:Nat):Int):=by(have e:=PH g;have f:Au .u64 ((AU x:Nat):Int) (k:Int)=((AU x / 2^k:Nat):Int):=Ef (by omega);have b:zB .i64 ((AU x / 2^k:Nat):Int)=((AU x / 2^k:Nat):Int):=PI (D4 (D1 _ _) e);have a:zB .u64 (k:Int)=(k:Int):=Av (by omega);have h:A3 ((k:Int)<0)=kb:=by simp);unfold IU IG;simp only[OF d,CE,g,oB,bT,cF,Tf g,a,h,f,b];generalize AU x / 2^k=q;by_cases hq:q<32;have c:A3 ((q:Int)<32)=ka:=dE (by omega);simp only[c,cT,if_pos hq];grind[Al];grind
def fE(k:Nat)(l:List Int):Nat:=(l.map (IG k)).sum
theorem NZ{k:Nat}(a:k<=25){l:LI}(d:l.all Ae=ka)(m:l.length<10000):EE ((k:Int),l)=kc ((fE k l:Nat):Int):=by
 have:=AD (f:=El) (λi:Nat=>((k:Int),l,((((l.take i).map (IG k)).sum:Nat):Int),(i:Int),())) l.length (b:=((((l.map (IG k)).sum:Nat):Int),()))
  (λi h=>by
   have c:=oP a (lA.1 d _ (B3 h));have g:=a6A (a0U a) (l.take (i+1));rw[fD h]at g;rw[D3]at g;have e:zB .i64 (((((l.take i).map (IG k)).sum:Nat):Int)+((IG k l[i]:Nat):Int))=((((l.take (i+1)).map (IG k)).sum:Nat):Int):=by
    grind[fD,Al]
   simp only[El,Bp h,cT,Ac h,oB,c,e,Aa (show i<1000000 by omega)])
  (by simp_all[El])
 unfold EE;have j:(((l.take 0).map (IG k)).sum:Nat)=0:=rfl;simp_all[fE]
def lX(l:List Int):Nat->Nat|0=>0|i+1=>if fE (i+1) l<fE (lX l i) l then i+1 else lX l i
theorem a0Y(l:LI):∀i,lX l i<=i|0=>C5 _|i+1=>by have:=a0Y l i;simp only[lX];split<;>omega
theorem bL{k:Nat}(h:k<=25){l:LI}(f:l.all Ae=ka)(g:l.length<10000):Gj ((k:Int),l)=kc (fE k l:Int):=lW h f g
theorem c1g{a b:Nat}(h:a<b):A3 ((a:Int)<(b:Int))=ka:=dE (by omega)
theorem a4q{a b:Nat}(h:¬ a<b):A3 ((a:Int)<(b:Int))=kb:=dF (by omega)
theorem fF{l:LI}(g:l.all Ae=ka)(h:l.length<10000):SI l=kc ((lX l 25:Nat):Int):=by
 have:=AD (f:=Nf) (λi:Nat=>(l,((lX l i:Nat):Int),((fE (lX l i) l:Nat):Int),((i+1:Nat):Int),())) 25 (b:=(((lX l 25:Nat):Int),()))
  (λi n=>by
   have a:A3 (((i+1:Nat):Int)<=25)=ka:=dE (by omega);have d:zB .i64 (((i+1:Nat):Int)+1)=((i+1+1:Nat):Int):=Aa (by omega);have c:=bL (k:=i+1) (by omega) g h;by_cases hlt:fE (i+1) l<fE (lX l i) l;simp_all[Nf,lX];simp only[Nf,a,cT,cF,c,oB,d,a4q hlt,lX,hlt,if_false])
  (by
   rfl)
 have m:=bL (k:=0) (by omega) g h;have j:((0+1:Nat):Int)=1:=rfl;have e:lX l 0=0:=rfl;simp_all[SI]
theorem Wc{l:LI}(a:l.all Ae=ka)(g:l.length<10000):OU l=kc ((lX l 25:Nat):Int):=by
 have:=AD (f:=KH) (λi:Nat=>(l,((lX l i:Nat):Int),((i+1:Nat):Int),())) 25 (b:=(((lX l 25:Nat):Int),()))
  (λi n=>by
   have c:A3 (((i+1:Nat):Int)<=25)=ka:=dE (by omega);have e:zB .i64 (((i+1:Nat):Int)+1)=((i+1+1:Nat):Int):=Aa (by omega);have d:=NZ (k:=i+1) (by omega) a g;have h:=NZ (k:=lX l i) (by grind[a0Y]) a g;by_cases hlt:fE (i+1) l<fE (lX l i) l;simp_all[KH,lX];simp only[KH,c,cT,cF,d,h,oB,e,a4q hlt,lX,hlt,if_false])
  (by
   rfl)
 have m:((0+1:Nat):Int)=1:=rfl;have j:lX l 0=0:=rfl;simp_all[OU]
def Rj(l:List Int):Int:=if 5+Ax l*l.length<fE (lX l 25) l then 31 else((lX l 25:Nat):Int)
theorem b2n(l:LI):kB (Rj l)=ka:=by have:=a0Y l 25;unfold Rj;split;rfl;simp only[kB,H0,bA,dT];omega
theorem oQ{l:LI}(g:l.all Ae=ka)(h:l.length<10000):Ng l=kc (Rj l):=by have a:=a0Y l 25;have f:=bL (k:=lX l 25) a g h;unfold Ng Rj;by_cases hlt:5+Ax l*l.length<fE (lX l 25) l;simp only[fF g h,VC h,f,oB,c1g hlt,cT,hlt,if_true];simp only[fF g h,VC h,f,oB,a4q hlt,cF,hlt,if_false]
theorem bM{l:LI}(g:l.length<10000):DE ((31:Int),l)=kc ((5+Ax l*l.length:Nat):Int):=by have f:=iU (EO l) g;have h:((31:Int)==31)=ka:=rfl;unfold DE;simp only[h,zQ,NV (show short l by unfold short;omega)];grind[Al]
theorem a6B{l:LI}(g:l.all Ae=ka)(h:l.length<10000):Vj l=kc (Rj l):=by have a:=a0Y l 25;have f:=NZ (k:=lX l 25) a g h;unfold Vj Rj;by_cases hlt:5+Ax l*l.length<fE (lX l 25) l;simp only[Wc g h,bM h,f,oB,c1g hlt,cT,hlt,if_true];simp only[Wc g h,bM h,f,oB,a4q hlt,cF,hlt,if_false]
def BX:List Nat->List Int->List Int|[],_=>[]|z::zs,l=>Rj (l.take z)::BX zs (l.drop z)
theorem XF:∀h l,(BX h l).length=h.length|[],_=>rfl|z::h,l=>by simp[BX,XF h]
theorem a0Z:∀h l,(BX h l).all kB=true|[],_=>rfl|z::h,l=>by simp[BX,a0Z h,b2n]
theorem Zt{g:List Nat}{n sH most least order:Int}{L:LI}{a b:Xq}(p:g.length<=256):∀(j i:Nat)(zC ks:LI),i+j=g.length->(g.drop i).sum=zC.length->zC.all Ae=ka->zC.length<=5000->ks.length=i->Ah LO (n,sH,most,L,least,order,zC,((g.length:Nat):Int),(i:Int),CG g,a,b,(order,ks,()),())=kc (n,sH,most,L,least,order,a,b,(order,ks++BX (g.drop i) zC,()),())|0,i,zC,ks,h,_,_,_,_=>by(obtain rfl:i=g.length:=by omega);simp_all[Ad,LO,BX]|j+1,i,zC,ks,h,o,hwr,hr5,hki=>by(have f:i<g.length:=by omega);(rw[PJ f]at o;have c:A3 ((0:Int)<=(i:Int))=ka:=by simp);(have d:A3 ((i:Int)<(((CG g).length:Nat):Int))=ka:=by simp_all[Be]);(have e:A3 ((0:Int)<=((g[i]:Nat):Int))=ka:=by simp);(have l:A3 (((g[i]:Nat):Int)<=((zC.length:Nat):Int))=ka:=by grind);have m:=oQ (Uq hwr g[i]) (by grind);have k:AZ (ks.length+1)=ka:=Aw (by omega);rw[A4 f,Ag (s':=(n,sH,most,L,least,order,zC.drop g[i],((g.length:Nat):Int),((i+1:Nat):Int),CG g,a,b,(order,ks++[Rj (zC.take g[i])],()),())) (by simp only[LO,Bp f,c,d,Fy f,e,l,cT,A7,tN,m,oB,k,C4,Aa (show i<1000000 by omega),A9])];rw[Zt p j (i+1) _ _ (by omega) (by grind) (a0R hwr _) (by grind) (by simp_all)];simp_all[BX]
theorem Tj{g:List Nat}{n sH most least order:Int}{l:LI}{a b:Xq}(x:g.length<=256)(d:l.all Ae=ka)(t:l.length<=5000):∀(j i off:Nat)(ks:LI),i+j=g.length->off+(g.drop i).sum=l.length->ks.length=i->Ah FV (n,sH,most,l,least,order,(off:Int),(i:Int),CG g,a,b,(order,ks,()),())=kc (n,sH,most,l,least,order,a,b,(order,ks++BX (g.drop i) (l.drop off),()),())|0,i,off,ks,h,_,_=>by(obtain rfl:i=g.length:=by omega);simp_all[Ad,FV,Be,BX]|j+1,i,off,ks,h,w,hki=>by(have k:i<g.length:=by omega);(rw[PJ k]at w;have m:A3 ((0:Int)<=(i:Int))=ka:=by simp);(have o:A3 ((i:Int)<(((CG g).length:Nat):Int))=ka:=by simp_all[Be]);(have e:zB .i64 ((off:Int)+((g[i]:Nat):Int))=((off+g[i]:Nat):Int):=by grind[Al]);(have p:A3 ((0:Int)<=((off+g[i]:Nat):Int))=ka:=by rfl);(have q:A3 (((off+g[i]:Nat):Int)<=((l.length:Nat):Int))=ka:=by grind);(have r:A3 ((0:Int)<=(off:Int))=ka:=by simp);(have u:A3 ((off:Int)<=((off+g[i]:Nat):Int))=ka:=by grind);(have f:I9 off (H7 (off+g[i]) l)=(l.drop off).take g[i]:=by grind);have v:=a6B (Uq (a0R d off) g[i]) (by grind);have c:AZ (ks.length+1)=ka:=Aw (by omega);rw[A4 k,Ag (s':=(n,sH,most,l,least,order,((off+g[i]:Nat):Int),((i+1:Nat):Int),CG g,a,b,(order,ks++[Rj ((l.drop off).take g[i])],()),())) (by simp only[FV,m,o,Fy k,e,p,q,r,u,cT,A7,tN,f,v,oB,c,Aa (show i<1000000 by omega),A9])];rw[Tj x d t j (i+1) _ _ (by omega) (by omega) (by simp_all)];simp_all[BX]
theorem oR{k:Int}(g:kB k=ka){l:LI}(a:l.all Ae=ka)(h:l.length<10000):∃d:Nat,DE (k,l)=kc (d:Int)/\Wb k l=5+d:=by(by_cases h31:k=31;subst h31;exact⟨_,bM h,by rfl⟩;have f:(k==31)=kb:=by simp_all);simp[kB]at g;obtain⟨K,rfl⟩:=A8 (show 0<=k by omega);have b:=NZ (k:=K) (by omega) a h;exact⟨fE K l,by unfold DE;grind,by unfold Wb;rw[if_neg h31];rfl⟩
theorem PO{h:List Nat}{p:Xq}{l:LI}(C:p.2.1.length=h.length)(g:p.2.1.all kB=ka)(E:h.length<=256)(n:l.all Ae=ka)(e:l.length<=5000):∀(j i off:Nat)(c:Nat),i+j=h.length->off+(h.drop i).sum=l.length->c+10*j+65*(l.length-off)<1000000->
  Ah CU (l,(c:Int),(off:Int),(i:Int),CG h,p,())=kc (((c+Fj (h.drop i) (p.2.1.drop i) (l.drop off):Nat):Int),())
 |0,i,off,c,B,_,_=>by
  obtain rfl:i=h.length:=by omega
  simp_all[Ad,CU,Be,Fj]
 |j+1,i,off,c,B,hsum,hb=>by
  have a:i<h.length:=by omega
  have k:i<p.2.1.length:=by omega
  have b:=lA.1 g _ (B3 k);rw[PJ a]at hsum;have t:A3 ((0:Int)<=(i:Int))=ka:=by simp
  have u:A3 ((i:Int)<(((CG h).length:Nat):Int))=ka:=by simp_all[Be]
  have r:zB .i64 ((off:Int)+((h[i]:Nat):Int))=((off+h[i]:Nat):Int):=by grind[Al]
  have v:A3 ((0:Int)<=((off+h[i]:Nat):Int))=ka:=by rfl
  have w:A3 (((off+h[i]:Nat):Int)<=((l.length:Nat):Int))=ka:=by grind
  have x:A3 ((0:Int)<=(off:Int))=ka:=by simp
  have y:A3 ((off:Int)<=((off+h[i]:Nat):Int))=ka:=by grind
  have f:I9 off (H7 (off+h[i]) l)=(l.drop off).take h[i]:=by grind
  have m:((l.drop off).take h[i]).length=h[i]:=by rw[D3,E7];omega
  obtain⟨d,z,A⟩:=oR b (Uq (a0R n off) h[i]) (by omega);have D:=a9s b ((l.drop off).take h[i]);have o:zB .i64 ((c:Int)+5)=((c+5:Nat):Int):=by rw[Al (by omega)];rfl
  have q:zB .i64 (((c+5:Nat):Int)+(d:Int))=((c+5+d:Nat):Int):=by rw[Al (by omega)];rfl
  rw[Ag (s':=(l,((c+5+d:Nat):Int),((off+h[i]:Nat):Int),((i+1:Nat):Int),CG h,p,())) (by
   simp only[CU,t,u,Fy a,r,v,w,x,y,cT,A7,tN,Ac k,oB,f,z,o,q,Aa (show i<1000000 by omega)]),
   PO C g E n e j (i+1) (off+h[i]) _ (by omega) (by omega) (by omega),
   A4 a,A4 k]
  simp only[Fj,List.drop_drop];congr 3;omega
theorem jB{p:Xq}{n sH:Int}{l:LI}{g:List Nat}(h:sW p n sH l g):CV (p,n,sH,l)=kc ((4+Fj g p.2.1 l:Nat):Int):=by
 have a:Go.Ab.short p.2.1:=by have:=h.ks;have:=h.len;unfold Go.Ab.short;omega
 have c:Go.Ab.short l:=by have:=h.short;unfold Go.Ab.short;omega
 have d:=h.short;have i:=h.len;have b:=h.row;simp[MM]at b;have e:zB .i64 (n-sH)=n-sH:=Al (by omega);have k:(((l.length:Nat):Int) != n-sH)=kb:=by rw[h.rest];simp
 have f:=PO h.ks h.all h.len h.wide h.short g.length 0 0 4 (by omega) (by rw[B9,h.sum];omega) (by omega);simp only[nZ,F5,B9]at f;unfold CV;simp only[IE a,h.may,oB,bT,cF,e,k,AC c,h.wide,Co,h.sizes,f]
theorem bO{o n sH:Int}{l:LI}(h:(Cm o n sH).length=0):CV ((o,([]:List Int),()),n,sH,l)=kc 0:=by(have g:Hp (o,([]:List Int),()) n sH=kb:=by simp[Hp,h]);unfold CV;simp only[IE (p:=(o,([]:List Int),())) (by simp[short]),g,oB,C6,cT]
def c4Q(o n sH:Int):List Nat:=(Cm o n sH).map D5
def Wd(o n sH:Int)(l:List Int):Xq:=(o,BX (c4Q o n sH) l,())
def a1a(o n sH:Int)(l:List Int):Nat:=4+Fj (c4Q o n sH) (BX (c4Q o n sH) l) l
def Bl(n sH:Int)(l:List Int):Nat->Xq×Nat
 |0=>((0,[],()),0)
 |i+1=>if(Cm (i:Int) n sH).length=0 then Bl n sH l i else
   if(Bl n sH l i).2=0\/a1a (i:Int) n sH l<(Bl n sH l i).2 then(Wd (i:Int) n sH l,a1a (i:Int) n sH l)else Bl n sH l i
def lY(n sH:Int)(l:List Int):Xq:=(Bl n sH l 7).1
theorem a6C{o:Nat}{n sH:Int}{l:LI}(c:(Cm (o:Int) n sH).length≠0)(a:(l.length:Int)=n-sH)(d:l.all Ae=ka)(k:l.length<=5000):∃h,Cm (o:Int) n sH=CG h/\c4Q (o:Int) n sH=h/\h.length<=256/\h.sum=l.length/\Hp (Wd (o:Int) n sH l) n sH=ka/\sW (Wd (o:Int) n sH l) n sH l h:=by
 obtain⟨h,i,j,m⟩:=Xt c;have e:c4Q (o:Int) n sH=h:=by simp_all[c4Q,PK]
 have b:Hp (Wd (o:Int) n sH l) n sH=ka:=by simp only[Hp,Wd,bA,F7,beq_eq_false_iff_ne,ne_eq,beq_iff_eq];simp_all[Be,XF,a0Z]
 obtain⟨f,g⟩:=sW.of b a d k;have:f=h:=by have p:=g.sizes;grind[Wd,PK]
 grind
theorem bP{n sH:Int}{l:LI}(b:MM n sH=ka)(f:(l.length:Int)=n-sH)(a:l.all Ae=ka)(g:l.length<=5000):∀i,1<=i->(Bl n sH l i).2≠0/\Hp (Bl n sH l i).1 n sH=true|0,h=>absurd h (by omega)|i+1,_=>by by_cases hs:(Cm (i:Int) n sH).length=0;(simp only[Bl,hs,if_true];cases i with|zero=>grind[b2d]|succ i=>exact bP b f a g (i+1) (by omega));obtain⟨d,-,-,-,-,c,-⟩:=a6C hs f a g;simp only[Bl,hs,if_false];split;simp_all[a1a];rename_i k;cases i with|zero=>exact absurd (Or.inl rfl) k|succ i=>exact bP b f a g (i+1) (by omega)
theorem b8E{n sH:Int}{l:LI}(f:MM n sH=ka)(g:(l.length:Int)=n-sH)(k:l.all Ae=ka)(h:l.length<=5000):Hp (lY n sH l) n sH=ka:=(bP f g k h 7 (by omega)).2
theorem a3k{n sH:Int}{l:LI}(B:MM n sH=ka)(y:(l.length:Int)=n-sH)(u:l.all Ae=ka)(t:l.length<=5000):
  QG (n,sH,(6:Int),l)=kc (lY n sH l,0):=by
 have:=AD (f:=Fv) (λi:Nat=>(n,sH,(6:Int),l,(((Bl n sH l i).2:Nat):Int),(i:Int),((0:Int),([]:List Int),()),(Bl n sH l i).1,())) 7 (b:=(((0:Int),([]:List Int),()),lY n sH l,()))
  (λi A=>by
   have j:A3 ((i:Int)<=En (DH 6 0) 8)=ka:=dE (by have:En (DH 6 0) 8=6:=rfl;omega);have r:zB .i64 ((i:Int)+1)=((i+1:Nat):Int):=Aa (by omega);by_cases hs:(Cm (i:Int) n sH).length=0;simp_all[Bl,Fv,DT];have hb:((((Cm (i:Int) n sH).length:Nat):Int)==0)=kb:=by simp_all
   obtain⟨h,p,o,x,z,-,q⟩:=a6C hs y u t;have d:=Zt (n:=n) (sH:=sH) (most:=6) (least:=(((Bl n sH l i).2:Nat):Int)) (order:=(i:Int)) (L:=l) (a:=((0:Int),([]:List Int),())) (b:=(Bl n sH l i).1) x h.length 0 l [] (by omega) (by simp_all) u t rfl;simp at d;have e:=a3i q;simp only[Wd,o]at e;have k:(((h.length:Nat):Int)==0)=kb:=by simp_all[Be]
   have m:(((CG h).length:Nat):Int)=((h.length:Nat):Int):=by rw[Be]
   have w:Wd (i:Int) n sH l=((i:Int),BX h l,()):=by simp only[Wd,o]
   have v:a1a (i:Int) n sH l=4+Fj h (BX h l) l:=by simp only[a1a,o]
   by_cases hz:(Bl n sH l i).2=0;have g:((((Bl n sH l i).2:Nat):Int)==0)=ka:=by simp_all
   have c:Bl n sH l (i+1)=(((i:Int),BX h l,()),4+Fj h (BX h l) l):=by simp_all[Bl]
   simp only[Fv,j,cT,DT,oB,p,m,k,cF,d,e,r,c,g];have g:((((Bl n sH l i).2:Nat):Int)==0)=kb:=by simp_all
   by_cases hlt:4+Fj h (BX h l) l<(Bl n sH l i).2;have c:Bl n sH l (i+1)=(((i:Int),BX h l,()),4+Fj h (BX h l) l):=by simp_all[Bl]
   simp only[Fv,j,cT,DT,oB,p,m,k,cF,d,e,r,c,g,c1g hlt];have c:Bl n sH l (i+1)=Bl n sH l i:=by simp only[Bl,hs,if_false,hz,false_or,w,v,hlt]
   simp only[Fv,j,cT,DT,oB,p,m,k,cF,d,e,r,c,g,a4q hlt])
  (by
   rfl)
 simp_all[Bl,QG,Sm]
theorem jC{n sH:Int}{l:LI}(v:MM n sH=ka)(B:(l.length:Int)=n-sH)(p:l.all Ae=ka)(t:l.length<=5000):
  NE (n,sH,(6:Int),l)=kc (lY n sH l,0):=by
 have:=AD (f:=Ec) (λi:Nat=>(n,sH,(6:Int),l,(((Bl n sH l i).2:Nat):Int),(i:Int),((0:Int),([]:List Int),()),(Bl n sH l i).1,())) 7 (b:=(((0:Int),([]:List Int),()),lY n sH l,()))
  (λi F=>by
   have q:A3 ((i:Int)<=En (DH 6 0) 8)=ka:=dE (by have:En (DH 6 0) 8=6:=rfl;omega);have w:zB .i64 ((i:Int)+1)=((i+1:Nat):Int):=Aa (by omega);by_cases hs:(Cm (i:Int) n sH).length=0;have C:Cm (i:Int) n sH=[]:=G6.1 hs;have c:Ah FV (n,sH,(6:Int),l,(((Bl n sH l i).2:Nat):Int),(i:Int),(0:Int),(0:Int),([]:List Int),((0:Int),([]:List Int),()),(Bl n sH l i).1,((i:Int),([]:List Int),()),())=kc (n,sH,(6:Int),l,(((Bl n sH l i).2:Nat):Int),(i:Int),((0:Int),([]:List Int),()),(Bl n sH l i).1,((i:Int),([]:List Int),()),()):=Ad (by rfl);have d:=bO (l:=l) hs;have E:A3 ((0:Int) > 0)=kb:=rfl;simp_all[Bl,Ec,Co];obtain⟨h,r,j,z,D,-,m⟩:=a6C hs B p t;have c:=Tj (n:=n) (sH:=sH) (most:=6) (least:=(((Bl n sH l i).2:Nat):Int)) (order:=(i:Int)) (a:=((0:Int),([]:List Int),())) (b:=(Bl n sH l i).1) z p t h.length 0 0 [] (by omega) (by simp_all) rfl;simp at c;have d:=jB m;simp only[Wd,j]at d;have u:A3 (((4+Fj h (BX h l) l:Nat):Int) > 0)=ka:=dE (by omega);have y:Wd (i:Int) n sH l=((i:Int),BX h l,()):=by simp only[Wd,j]
   have x:a1a (i:Int) n sH l=4+Fj h (BX h l) l:=by simp only[a1a,j]
   by_cases hz:(Bl n sH l i).2=0;have g:((((Bl n sH l i).2:Nat):Int)==0)=ka:=by simp_all
   have k:Bl n sH l (i+1)=(((i:Int),BX h l,()),4+Fj h (BX h l) l):=by simp_all[Bl]
   simp_all[Ec,Co];have g:((((Bl n sH l i).2:Nat):Int)==0)=kb:=by simp_all
   by_cases hlt:4+Fj h (BX h l) l<(Bl n sH l i).2;have k:Bl n sH l (i+1)=(((i:Int),BX h l,()),4+Fj h (BX h l) l):=by simp_all[Bl]
   simp only[Ec,q,cT,Co,oB,r,cF,c,d,u,w,k,g,c1g hlt];have k:Bl n sH l (i+1)=Bl n sH l i:=by simp only[Bl,hs,if_false,hz,false_or,y,x,hlt]
   simp only[Ec,q,cT,Co,oB,r,cF,c,d,u,w,k,g,a4q hlt])
  (by
   rfl)
 have o:=v;simp[MM]at o;have e:zB .i64 (n-sH)=n-sH:=Al (by omega);have A:(((l.length:Nat):Int) != n-sH)=kb:=by simp_all
 simp[Bl]at this;unfold NE;simp only[a0x,v,oB,bT,cF,e,A,AC (show short l by unfold short;omega),p,this]
end Go.Ab
