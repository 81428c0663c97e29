/- Part of the proof: S. Conditions: as each statement tells. -/
import Derived.Test.YtlddggjghmobhabGreatDoorMD
noncomputable section
set_option linter.unusedSimpArgs false
set_option linter.unusedVariables false
open BitVec renaming ofInt->B3,ofInt_natCast->C2,toNat_ofNat->C9,toNat_or->H1,toNat_and->J7
open Bool renaming and_self->A8,true_and->C7,not_false->D1,not_eq_true'->E8,or_eq_true->G9,and_eq_true_iff->I5,eq_iff_iff->K1,and_false->K6
open Decidable renaming decide->A3
open Int renaming eq_ofNat_of_zero_le->A7,natCast_dvd_natCast->D4,toNat->D6,tdiv_eq_ediv_of_nonneg->E4,dvd_mul_of_dvd_left->E7,mul_nonneg->F6,tmod_eq_emod_of_nonneg->F9,tmod->G3,mul_fdiv_cancel_left->G4,dvd_add_left->G5,natCast_nonneg->I8,dvd_zero->J1,fdiv->K0,tdiv->K3
open List renaming drop_eq_getElem_cons->A4,replicate->A6,getElem_mem->A9,append_eq->B4,take_length->C1,drop_zero->C3,take_of_length_le->C4,zipWith->C6,all_cons->C8,mem_of_mem_take->D2,mem_of_mem_drop->D3,replicate_succ'->D7,drop_length->E1,nil_append->E2,length_take->E5,take_succ_eq_append_getElem->E9,getElem_zip->F0,length_drop->F1,append_nil->F2,set_cons_zero->F8,set_append_right->H2,eq_nil_or_concat->I0,singleton_append->I3,sum_cons->I6,getD->J2,cons_append->J4,foldl_cons->K5,take->K7
open Nat renaming lt_trans->B6,pow_le_pow_right->B8,div_le_self->C0,lt_of_le_of_lt->D0,mod_eq_of_lt->D5,mul_le_mul_right->D8,le_refl->D9,two_pow_pos->E3,sub_self->F3,le_of_lt->F4,mod_lt->F5,testBit_two_pow_mul_add->F7,mul_comm->G6,div_div_eq_div_mul->G7,div_add_mod->G8,pow_dvd_pow->H0,mul_le_mul->I4,one_le_two_pow->I7,pow_succ->I9,add_zero->J0,or_lt_two_pow->J3,mul_add->J5,mul_one->J6,lt_of_not_le->J8,div_eq_of_lt->J9,min_eq_left->K4
open Option renaming map_eq_some_iff->C5,bind_eq_some_iff->E6
open Sum renaming inl->B7,inr->B9
namespace Go.Ab
open Go.Proofs
set_option maxRecDepth 100000
theorem cV:Tryz.prog.follows .mixedOrders=true:=by kernel_rfl
theorem c5N:b7e Tryz.prog a8B=true:=by kernel_rfl
theorem c5O:b7f Tryz.prog a6J=true:=by kernel_rfl
theorem c5P:b7g Tryz.prog a8B b2C=true:=by kernel_rfl
theorem laidOut:laidOutB Tryz.prog=true:=by kernel_rfl
@[reducible] def Bb(n:Nat)(s:sG):Prop:=JI Tryz.prog G0 n s/\Wx Tryz.prog n
theorem b8t{a:List (Nat×sG)}{b:List (Nat×Ty)}{c d:Nat}(h:∀p∈a,a2S Tryz.prog G0 p.1 p.2):vB Tryz.prog (ZC a b c d):=
 vB.of (CxTy.of (tab:=a8B) (l:=b2C) (q:=a6J) (fun _=>rfl) (fun _=>rfl) (fun _=>rfl) c5N c5O c5P) (fun _=>rfl) h
theorem b1{n:Nat}{s:sG}{l:List (Nat×sG)}(h:Bb n s)(g:∀p∈l,a2S Tryz.prog G0 p.1 p.2):∀p∈(n,s)::l,a2S Tryz.prog G0 p.1 p.2:=a1 (a:=(n,s)) h g
theorem b2{n:Nat}{s:sG}{l:List (Nat×sG)}(h:b1H Tryz.prog G0 n s)(g:∀p∈l,a2S Tryz.prog G0 p.1 p.2):∀p∈(n,s)::l,a2S Tryz.prog G0 p.1 p.2:=b5o (a:=(n,s)) h g
theorem fo {a : List (Nat × sG)} (b : List (Nat × Ty)) (c d : Nat) (H : sD) {n : Nat} {fn : Func} {e : Code} {s : sG} (h : ∀ p ∈ a, a2S Tryz.prog G0 p.1 p.2) (hf : Tryz.prog.funcs[n]? = some fn) (hb : fn.body = some e :=by rfl) (hk : b8g fn e H s = true :=by kernel_rfl) (hn : (fn.name == "runtime.NumGoroutine") = false :=by kernel_rfl) (hq : ∀ x, Zg (ZC a b c d) H fn s.ps s.rs x = s.F x :=by intro x; kernel_rfl) : Bb n s :=
 ⟨JI.of (b8t h) cV hf hb hk hq,⟨_,_,hf,hb,hn⟩⟩
theorem c0a:Bb 78 nR:=
 fo [] 5 0 QH a0 Tryz.func78
theorem b0m:Bb 33 nS:=
 fo [] 5 2 QH (b1 c0a<|a0) Tryz.func33
theorem c0b:Bb 65 a3u:=
 fo [] 5 0 QH a0 Tryz.func65
theorem c5Q:Bb 98 jJ:=
 fo [] 253 0 c8c a0 Tryz.func98
theorem c0c:Bb 66 WJ:=
 fo [] 243 0 c8d (b1 c5Q<|a0) Tryz.func66
theorem c0d:Bb 67 WK:=
 fo [] 5 0 QH a0 Tryz.func67
theorem b8u:Bb 68 VG:=
 fo [] 5 0 c8e a0 Tryz.func68
theorem c0e:Bb 93 nT:=
 fo [] 5 0 QH a0 Tryz.func93
theorem c5R:Bb 99 VH:=
 fo [] 51 0 c8f (b1 b8u<|a0) Tryz.func99
theorem c5S:Bb 69 WL:=
 fo [] 179 0 c8g (b1 c0e<|b1 c5R<|a0) Tryz.func69
theorem c0f:Bb 70 XK:=
 fo [] 5 0 QH a0 Tryz.func70
theorem c0g:Bb 71 ZD:=
 fo [] 109 0 c8h a0 Tryz.func71
theorem c0h:Bb 28 eR:=
 fo [(4,.pair HX c6X)] 745 0 c8i (b1 b0m<|b1 c0b<|b1 c0c<|b1 c0d<|b1 b8u<|b1 c5S<|b1 c0f<|b1 c0g<|a0) Tryz.func28
theorem c5T:Bb 79 a1g:=
 fo [] 5 0 c8j a0 Tryz.func79
theorem c5U:Bb 80 nU:=
 fo [] 5 0 c8k a0 Tryz.func80
theorem b0n:Bb 34 nV:=
 fo [] 19 0 QH (b1 c5T<|b1 c5U<|a0) Tryz.func34
theorem b5Z:Bb 76 a3v:=
 fo [] 5 2 QH a0 Tryz.func76
theorem b0o:Bb 75 a3w:=
 fo [] 85 2 c8l (b1 b0n<|b1 b5Z<|b1 c0a<|a0) Tryz.func75
theorem b2L:Bb 110 jK:=
 fo [] 19 0 c3Y a0 Tryz.func110
theorem c0i:Bb 87 nW:=
 fo [] 5 2 QH (b1 b0m<|b1 b2L<|a0) Tryz.func87
theorem b8v:Bb 48 a1h:=
 fo [] 5 0 QH a0 Tryz.func48
theorem b2M:Bb 113 nX:=
 fo [] 21 0 c3Z a0 Tryz.func113
theorem b2N:Bb 127 a3x:=
 fo [] 19 0 QH a0 Tryz.func127
theorem b2O:Bb 91 nY:=
 fo [] 455 0 c8m (b1 b2N<|a0) Tryz.func91
theorem b7s:Bb 123 a3y:=
 fo [] 711 8 c4a (b1 b2O<|a0) Tryz.func123
theorem b2P:Bb 186 a1i:=
 fo [] 83 0 c4b a0 Tryz.func186
theorem b2Q:Bb 187 a6K:=
 fo [] 83 8 c4c a0 Tryz.func187
theorem b7t:Bb 225 oA:=
 fo [] 5 2 QH a0 Tryz.func225
theorem b2R:Bb 188 cN:=
 fo [] 5 0 c4d (b1 b7t<|a0) Tryz.func188
theorem b2S:Bb 146 b0b:=
 fo [] 4611688217584863559 16 c4e (b1 b2P<|b1 b2Q<|b1 b2R<|a0) Tryz.func146
theorem b2T:Bb 147 a1j:=
 fo [] 70291 4 c4f a0 Tryz.func147
theorem b2U:Bb 77 Ci:=
 ⟨JI.of (cx:=b9S) (b8t a0) cV Tryz.func77 rfl (by kernel_rfl) c4g,⟨_,_,Tryz.func77,rfl,by kernel_rfl⟩⟩
theorem b7u:Bb 77 CS:=
 ⟨JI.of (cx:=b7o) (b8t a0) cV Tryz.func77 rfl (by kernel_rfl) b9T,⟨_,_,Tryz.func77,rfl,by kernel_rfl⟩⟩
theorem b8w:Bb 198 Bw:=
 ⟨JI.of (cx:=b2D) (b8t a0) cV Tryz.func198 rfl (by kernel_rfl) b8r,⟨_,_,Tryz.func198,rfl,by kernel_rfl⟩⟩
theorem b7v:Bb 160 a1k:=
 fo [] 43523 8 c4h (b1 b7u<|b1 b8w<|a0) Tryz.func160
theorem c0j:Bb 165 a3z:=
 fo [] 5 2 QH (b1 b7v<|a0) Tryz.func165
theorem c0k:Bb 120 a1l:=
 fo [] 51 4 c4i (b1 b8v<|b1 b2M<|b1 b7s<|b1 b2S<|b1 b2T<|b1 c0j<|a0) Tryz.func120
theorem b7w:Bb 203 a1m:=
 fo [] 21 0 c4j a0 Tryz.func203
theorem c0l:Bb 232 eU:=
 fo [] 11 0 QH a0 Tryz.func232
theorem c0m:Bb 204 oC:=
 fo [] 4296020275 0 QH (b1 c0l<|a0) Tryz.func204
theorem c0n:Bb 166 a1n:=
 fo [] 3527 0 c4k (b1 b7w<|b1 c0m<|a0) Tryz.func166
theorem b2V:Bb 207 oD:=
 fo [] 5 0 QH a0 Tryz.func207
theorem b2W:Bb 205 ZE:=
 fo [] 21 0 c4l (b1 b2V<|a0) Tryz.func205
theorem b7x:Bb 206 ZF:=
 fo [] 1991 0 c4m a0 Tryz.func206
theorem c0o:Bb 167 oE:=
 fo [] 14095 0 c4n (b1 b2P<|b1 b2W<|b1 b7x<|b1 b2V<|a0) Tryz.func167
theorem b2X:Bb 210 a3A:=
 fo [] 5 0 QH a0 Tryz.func210
theorem b2Y:Bb 208 jL:=
 fo [] 21 0 c4o (b1 b2X<|a0) Tryz.func208
theorem b7y:Bb 209 jM:=
 fo [] 7951 128 c4p a0 Tryz.func209
theorem c0p:Bb 168 a3B:=
 fo [] 4039 32 c4q (b1 b2Q<|b1 b2Y<|b1 b7y<|b1 b2X<|a0) Tryz.func168
theorem b2Z:Bb 215 XL:=
 fo [] 5 0 QH a0 Tryz.func215
theorem b7z:Bb 211 Tp:=
 fo [] 21 0 c4s (b1 b2Z<|a0) Tryz.func211
theorem b7A:Bb 213 cO:=
 fo [(15,.pair QI b9Q),(16,.pair QI b9Q)] 13 2 c4t (b1 b7t<|a0) Tryz.func213
theorem b7B:Bb 234 eW:=
 fo [] 5 0 QH a0 Tryz.func234
theorem b3a:Bb 214 NE:=
 fo [] 61 0 c4u (b1 b7B<|a0) Tryz.func214
theorem b7C:Bb 216 Oo:=
 fo [] 4202995 0 c4v (b1 b3a<|b1 b7B<|a0) Tryz.func216
theorem c0q:Bb 169 OA:=
 ⟨JI.zB (cx:=b7p) (b8t (a1 b2U (a1 b2R (a1 b7z (a1 b7A (a1 b3a (a1 b2Z (a1 b7C a0)))))))) cV (r:=b9U) ⟨b5s,b5t⟩ Tryz.func169 rfl (by kernel_rfl) b9V,⟨_,_,Tryz.func169,rfl,by kernel_rfl⟩⟩
theorem b7D:Bb 154 oF:=
 fo [] 5 0 QH a0 Tryz.func154
theorem c0r:Bb 170 a3C:=
 fo [] 371 0 c4x (b1 b7D<|a0) Tryz.func170
theorem c0s:Bb 121 a6L:=
 fo [] 604462927822812893676787 4 c4y (b1 c0n<|b1 c0o<|b1 c0p<|b1 c0q<|b1 c0r<|a0) Tryz.func121
theorem c0t:Bb 88 b0c:=
 fo [] 243 4 QH (b1 c0k<|b1 c0s<|a0) Tryz.func88
theorem b7E:Bb 153 a3D:=
 fo [] 5 0 QH a0 Tryz.func153
theorem b3b:Bb 109 cP:=
 fo [] 85 0 c4z (b1 b7E<|a0) Tryz.func109
theorem b7F:Bb 111 VW:=
 fo [(15,.list true (.list true QI))] 45 0 c4A (b1 b2U<|a0) Tryz.func111
theorem b7G:Bb 112 XM:=
 fo [] 967 16 c4B (b1 b7E<|a0) Tryz.func112
theorem c5V:Bb 89 PY:=
 ⟨JI.zB (cx:=b9W) (b8t (a1 b3b (a1 b2L (a1 b7F (a1 b7G a0))))) cV (r:=c7e) ⟨b5u,b5v⟩ Tryz.func89 rfl (by kernel_rfl) c4C,⟨_,_,Tryz.func89,rfl,by kernel_rfl⟩⟩
theorem b8x:Bb 42 oG:=
 fo [] 1945 2 c8o (b1 b0o<|b1 c0i<|b1 c0t<|b1 c5V<|a0) Tryz.func42
theorem c0u:Bb 18 a3E:=
 fo [] 21 2 QH (b1 b8x<|a0) Tryz.func18
theorem c0v:Bb 24 jN:=
 fo [] 109 0 c8p a0 Tryz.func24
theorem c0w:Bb 53 a1o:=
 fo [] 109 0 c8q a0 Tryz.func53
theorem c0x:Bb 144 a3F:=
 fo [] 13 0 QH a0 Tryz.func144
theorem c0y:Bb 100 eX:=
 fo [(2,.pair QI c7b),(15,.pair QI b2B),(26,.pair QI b2B),(83,.pair QI b2B),(88,.pair QI b2B),(101,.pair QI b2B),(105,.pair QI b2B)] 4089 0 c4D (b1 c0w<|b1 c0b<|b1 c0c<|b1 c0d<|b1 b8u<|b1 c0f<|b1 c0i<|b1 c0x<|a0) Tryz.func100
theorem c0z:Bb 101 a6M:=
 fo [] 5 0 QH a0 Tryz.func101
theorem c0A:Bb 43 b0d:=
 fo [] 115 4 QH (b1 c0t<|a0) Tryz.func43
theorem a7c:Bb 44 jO:=
 fo [] 45 0 c8r (b1 b0n<|a0) Tryz.func44
theorem rA:Bb 105 XN:=
 fo [] 5 0 QH a0 Tryz.func105
theorem b7H:Bb 103 WM:=
 fo [] 5 0 c4E a0 Tryz.func103
theorem b3c:Bb 150 WN:=
 fo [] 19 0 QH a0 Tryz.func150
theorem rB:Bb 184 XO:=
 fo [] 51 0 c4F (b1 b7H<|b1 b3c<|a0) Tryz.func184
theorem a8D:Bb 148 Ur:=
 fo [] 51 0 c4G (b1 rB<|a0) Tryz.func148
theorem c0B:Bb 185 jP:=
 fo [] 115 0 c4H (b1 a7c<|b1 a8D<|b1 rB<|a0) Tryz.func185
theorem c0C:Bb 145 oH:=
 fo [(2,.pair QI c6Z)] 178258169 0 c4I (b1 a8D<|b1 rB<|b1 c0B<|a0) Tryz.func145
theorem b3d:Bb 128 ZG:=
 fo [] 5 0 QH a0 Tryz.func128
theorem c0D:Bb 238 VI:=
 fo [] 115 0 c4J (b1 b3c<|a0) Tryz.func238
theorem c0E:Bb 239 oI:=
 fo [] 77 0 QH a0 Tryz.func239
theorem c0F:Bb 237 a6N:=
 fo [] 499 0 c4K (b1 rA<|b1 rB<|b1 c0D<|b1 c0E<|a0) Tryz.func237
theorem c0G:Bb 226 a6O:=
 fo [] 1991 0 c4L (b1 rA<|b1 b3d<|b1 c0F<|a0) Tryz.func226
theorem c0H:Bb 189 a3G:=
 fo [] 4083 0 c4M (b1 a7c<|b1 rA<|b1 a8D<|b1 rB<|b1 c0G<|a0) Tryz.func189
theorem c0I:Bb 149 a3H:=
 fo [(11,.pair QI Q2),(41,.pair QI Q2)] 251783 0 c4N (b1 b2O<|b1 rA<|b1 b2N<|b1 rB<|b1 c0H<|a0) Tryz.func149
theorem c0J:Bb 102 b0e:=
 fo [(7,.pair QI (.pair QI (.pair QI (.pair QI (.pair QI (.pair QL (.pair (.arr 3 QI) (.pair (.list false Q4) c3R))))))))] 8035 0 c4O (b1 c0A<|b1 a7c<|b1 b8v<|b1 rA<|b1 c0C<|b1 b2S<|b1 b2T<|b1 a8D<|b1 c0I<|a0) Tryz.func102
theorem c0K:Bb 104 VJ:=
 fo [] 13 0 c4P (b1 b3c<|a0) Tryz.func104
theorem c5W:Bb 72 a1p:=
 fo [(5,.pair QI c3T)] 6105 0 c8s (b1 c0u<|b1 c0v<|b1 c0y<|b1 c0z<|b1 c0J<|b1 b7H<|b1 c0K<|b1 rA<|a0) Tryz.func72
theorem c0L:Bb 29 ZH:=
 fo [] 110623 64 c8t (b1 b8x<|b1 c5W<|a0) Tryz.func29
theorem c5X:Bb 84 XP:=
 fo [] 16371 0 QH a0 Tryz.func84
theorem c5Y:b1H Tryz.prog G0 85 XQ:=b5r _
theorem c0M:Bb 202 XR:=
 fo [] 5 0 b9X a0 Tryz.func202
theorem c0N:Bb 164 Px:=
 fo [] 5 0 QH (b1 c0M<|a0) Tryz.func164
theorem c0O:Bb 119 XS:=
 fo [] 524231 0 c4Q (b1 c0N<|a0) Tryz.func119
theorem c5Z:Bb 86 XT:=
 fo [] 455 0 QH (b1 c0O<|a0) Tryz.func86
theorem b8y:Bb 39 a3I:=
 fo [] 967 0 QH (b1 c5X<|b2 c5Y<|b1 c5Z<|a0) Tryz.func39
theorem c0P:Bb 15 XU:=
 fo [] 45 0 c8u (b1 b8y<|a0) Tryz.func15
theorem b8z:Bb 32 oJ:=
 fo [] 93 2 c8v (b1 b0o<|b1 b5Z<|a0) Tryz.func32
theorem c0Q:Bb 106 oK:=
 fo [] 1779 0 c4R (b1 b0n<|a0) Tryz.func106
theorem c6a:Bb 73 a1q:=
 fo [] 13 2 c8w (b1 b8z<|b1 b0o<|b1 c0Q<|a0) Tryz.func73
theorem c0R:Bb 107 a1r:=
 fo [] 29 0 c4S (b1 b8y<|a0) Tryz.func107
theorem c6b:Bb 74 a3J:=
 fo [] 199 0 c8x (b1 b8y<|b1 c0R<|a0) Tryz.func74
theorem b8A:Bb 30 jQ:=
 fo [] 243 8 QH (b1 c0P<|b1 c6a<|b1 c6b<|a0) Tryz.func30
theorem c6c:Bb 9 XV:=
 fo [(6,.pair HX c3V),(20,.pair HX b9s),(24,.pair HX b9s),(48,.pair HX b9s),(90,.pair HX b9s),(96,.pair HX b9s)] 5033 0 H9 (b1 c0h<|b1 c0L<|b1 b8A<|a0) Tryz.func9
theorem c6d:Bb 31 a3K:=
 fo [(6,.pair QI Q8),(12,.pair QI Q6),(30,.pair QI Q6),(33,.pair QI Q6)] 291 12 c8y (b1 b0o<|b1 b5Z<|b1 b7u<|a0) Tryz.func31
theorem c0S:Bb 10 XW:=
 fo [] 327603 8 c8z (b1 c0h<|b1 c0L<|b1 c6d<|b1 b8z<|a0) Tryz.func10
theorem b6a:Bb 11 VX:=
 fo [] 51 0 c8A a0 Tryz.func11
theorem b8B:Bb 50 XX:=
 fo [] 3 0 c8B a0 Tryz.func50
theorem b3e:Bb 45 XY:=
 fo [] 199 0 c8C (b1 b8B<|a0) Tryz.func45
theorem c0T:Bb 46 eY:=
 fo [] 7 0 QH (b1 b3e<|a0) Tryz.func46
theorem c6e:Bb 47 jR:=
 fo [] 83 8 c8D (b1 a7c<|b1 b3e<|b1 c0T<|a0) Tryz.func47
theorem b7I:Bb 124 oL:=
 fo [] 327 0 c4T (b1 b2N<|a0) Tryz.func124
theorem b7J:Bb 125 a3L:=
 fo [] 5 0 QH (b1 a7c<|a0) Tryz.func125
theorem b3f:Bb 129 a3M:=
 fo [] 5 0 QH a0 Tryz.func129
theorem b7K:Bb 130 a3N:=
 fo [] 141 0 QH (b1 b3f<|a0) Tryz.func130
theorem c0U:Bb 172 a3O:=
 fo [] 51 0 c4U (b1 b3d<|b1 b3f<|b1 b7K<|a0) Tryz.func172
theorem b3g:Bb 126 a6P:=
 fo [] 179 0 c4V (b1 c0U<|a0) Tryz.func126
theorem c0V:Bb 90 a1s:=
 fo [] 7951 16 c8E (b1 b2O<|b1 b7s<|b1 b7I<|b1 b7J<|b1 b3g<|a0) Tryz.func90
theorem c0W:Bb 131 VK:=
 fo [] 19 0 c4W (b1 b8B<|a0) Tryz.func131
theorem c6f:Bb 92 a6Q:=
 fo [] 7495 0 c8F (b1 b3e<|b1 b3d<|b1 b3f<|b1 b7K<|b1 c0W<|a0) Tryz.func92
theorem c6g:Bb 49 a3P:=
 fo [] 97311 64 c8G (b1 a7c<|b1 b3e<|b1 c0V<|b1 b2O<|b1 c6f<|a0) Tryz.func49
theorem c0X:Bb 19 b0f:=
 fo [] 11682311054023 16 c8H (b1 c0A<|b1 a7c<|b1 b3e<|b1 c0T<|b1 c6e<|b1 b8v<|b1 c6g<|a0) Tryz.func19
theorem c6h:Bb 20 VL:=
 fo [] 1 0 c8I (b1 b8B<|a0) Tryz.func20
theorem c6i:Bb 21 VM:=
 fo [] 5 0 QH a0 Tryz.func21
theorem c6j:Bb 51 a3Q:=
 fo [] 5 0 QH a0 Tryz.func51
theorem c0Y:Bb 52 a3R:=
 fo [] 45 0 c8J a0 Tryz.func52
theorem c6k:Bb 22 eZ:=
 fo [] 307 4 c8K (b1 c6j<|b1 c0Y<|b1 c0w<|a0) Tryz.func22
theorem c6l:Bb 54 oM:=
 fo [] 51 0 c8L (b1 c0e<|a0) Tryz.func54
theorem c6m:Bb 55 NJ:=⟨b5p _,⟨_,_,Tryz.func55,rfl,by kernel_rfl⟩⟩
theorem c0Z:Bb 23 a3S:=
 fo [] 51 0 QH (b1 c6l<|b1 c6m<|a0) Tryz.func23
theorem c6n:Bb 7 a3T:=
 fo [(4,.pair (.list true QV) Q0)] 909 2 H7 (b1 c0u<|b1 c0X<|b1 c6h<|b1 c6i<|b1 c6k<|b1 c0Z<|b1 c0v<|a0) Tryz.func7
theorem c6o:Bb 35 a1t:=
 fo [(6,.pair QI Q7),(36,.list true (.list true QI)),(37,.pair QI Q7)] 931 8 c8M (b1 b0m<|b1 b0n<|a0) Tryz.func35
theorem c1a:Bb 82 b0g:=
 fo [] 115 0 c8N (b1 b3b<|b1 b2L<|b1 b7F<|b1 b7G<|a0) Tryz.func82
theorem c1b:Bb 151 oN:=
 fo [] 237 0 c4X (b1 b3b<|a0) Tryz.func151
theorem c1c:Bb 152 a1u:=
 fo [] 135445 0 QH a0 Tryz.func152
theorem c1d:Bb 108 a3U:=
 fo [] 509 0 c4Y (b1 c1a<|b1 c1b<|b1 c1c<|a0) Tryz.func108
theorem c6p:Bb 81 a3V:=
 fo [] 29 2 c8O (b1 b0o<|b1 c1d<|a0) Tryz.func81
theorem b7L:Bb 114 oO:=
 fo [] 371 0 c4Z (b1 b7D<|a0) Tryz.func114
theorem c1e:Bb 155 BB:=
 ⟨JI.of (cx:=Us) (b8t a0) cV Tryz.func155 rfl (by kernel_rfl) b9Y,⟨_,_,Tryz.func155,rfl,by kernel_rfl⟩⟩
theorem b7M:Bb 115 fA:=
 fo [] 45 0 c5a (b1 c1e<|a0) Tryz.func115
theorem b7N:Bb 190 a1w:=
 fo [] 243 0 c5b (b1 b7w<|a0) Tryz.func190
theorem c1f:Bb 191 oP:=
 fo [] 243 0 c5c a0 Tryz.func191
theorem c1g:Bb 156 a1x:=
 fo [] 509 0 c5d (b1 b7N<|b1 c1f<|a0) Tryz.func156
theorem b7O:Bb 229 jS:=
 fo [] 5 0 QH a0 Tryz.func229
theorem c1h:Bb 227 fB:=
 fo [] 493 0 c5e (b1 b7O<|a0) Tryz.func227
theorem c1i:Bb 228 VN:=
 fo [] 1991 0 c5f a0 Tryz.func228
theorem c1j:Bb 192 ZJ:=
 fo [] 16371 0 c5g (b1 b2U<|b1 b2W<|b1 c1h<|b1 c1i<|b1 b7O<|a0) Tryz.func192
theorem c1k:Bb 193 jT:=
 fo [] 4077 0 c5h a0 Tryz.func193
theorem c1l:Bb 194 jU:=
 fo [] 28531 0 c5i (b1 b0n<|a0) Tryz.func194
theorem b7P:Bb 158 oQ:=
 fo [] 4039 0 QH (b1 c1j<|b1 c1k<|b1 c1l<|a0) Tryz.func158
theorem c1m:Bb 195 a3W:=
 fo [] 16327 0 c5j (b1 b2Y<|a0) Tryz.func195
theorem b3h:Bb 197 cR:=
 fo [] 4039 32 c5k (b1 b2Q<|b1 b2Y<|b1 b7y<|b1 b2X<|a0) Tryz.func197
theorem c1n:Bb 230 XZ:=
 fo [] 1 0 QH a0 Tryz.func230
theorem c1o:Bb 196 a3X:=
 fo [] 47523 0 b9Z (b1 b3h<|b1 c1n<|a0) Tryz.func196
theorem c1p:Bb 159 a1z:=
 fo [] 953 0 QH (b1 b7P<|b1 c1m<|b1 c1o<|b1 b3h<|a0) Tryz.func159
theorem c1q:Bb 157 WP:=
 fo [] 463 0 QH (b1 b7P<|a0) Tryz.func157
theorem c1r:Bb 116 ZK:=
 fo [(5,.list true DY)] 851 147573952589676412928 c5l (b1 c1g<|b1 c1q<|b1 c1p<|a0) Tryz.func116
theorem c1s:Bb 199 oR:=
 fo [] 1991 0 c5m (b1 b2P<|b1 b2W<|b1 b7x<|b1 b2V<|a0) Tryz.func199
theorem c1t:Bb 200 a1A:=
 fo [] 15987 0 c5n (b1 b2U<|b1 b2R<|b1 b7z<|b1 b7A<|b1 b3a<|b1 b2Z<|b1 b7C<|a0) Tryz.func200
theorem c1u:Bb 161 a3Y:=
 fo [] 147573952727119562867 0 c5o (b1 b2U<|b1 b2T<|b1 b7N<|b1 b3h<|b1 c1s<|b1 c1t<|a0) Tryz.func161
theorem c1v:Bb 231 a3Z:=
 fo [] 125 0 c5p (b1 b3g<|a0) Tryz.func231
theorem c1w:Bb 201 jX:=
 fo [] 13 0 QH (b1 b7J<|b1 b3g<|b1 c1v<|a0) Tryz.func201
theorem c1x:Bb 162 a1B:=
 fo [(14,.pair QI Q2),(40,.pair QI Q2)] 440847 0 c5q (b1 c0V<|b1 b2O<|b1 b7I<|b1 c1w<|a0) Tryz.func162
theorem c1y:Bb 117 a6R:=
 fo [] 14727 32 c5r (b1 b2M<|b1 b7L<|b1 b7M<|b1 b2S<|b1 b7v<|b1 c1u<|b1 c1x<|a0) Tryz.func117
theorem c1z:Bb 163 Ya:=
 fo [] 5 0 QH a0 Tryz.func163
theorem c1A:Bb 118 a6S:=
 fo [(5,.pair (.list true QV) Q0)] 19 4 QH (b1 c0X<|b1 c1z<|a0) Tryz.func118
theorem c6q:Bb 83 a6T:=
 fo [] 50915 0 c8P (b1 b2M<|b1 b7L<|b1 b7M<|b1 c1r<|b1 c1y<|b1 c1A<|a0) Tryz.func83
theorem c6r:Bb 36 a1C:=
 fo [(10,.pair QI c3T),(52,.pair QI b2B),(57,.pair QI b2B),(63,.pair QI b2B),(79,.pair QI b2B),(95,.pair QI b2B)] 88591 48 c8Q (b1 b0m<|b1 b0o<|b1 b5Z<|b1 c6p<|b1 c1a<|b1 c6q<|a0) Tryz.func36
theorem c1B:Bb 38 a4a:=
 fo [] 6653 2 c8R (b1 c6n<|b1 b8A<|b1 b0m<|b1 b8x<|a0) Tryz.func38
theorem c6s:Bb 37 a4b:=
 fo [] 5629 2 c8S (b1 c0Z<|b1 c1B<|b1 c0Y<|b1 c0g<|a0) Tryz.func37
theorem c1C:Bb 12 Ut:=
 fo [(13,.pair HX c3V),(76,.pair HX b9s)] 1431311 16 c8T (b1 c6n<|b1 b8A<|b1 b0m<|b1 b0n<|b1 c6o<|b1 c6r<|b1 c6s<|a0) Tryz.func12
theorem c6t:Bb 13 Tq:=
 fo [] 253 2 c8U (b1 b8z<|b1 c1B<|a0) Tryz.func13
theorem c6u:Bb 14 Yb:=
 fo [] 115 4 c7f a0 Tryz.func14
theorem c9k:Bb 4 Uv:=
 fo [] 4077 0 H4 (b1 c6c<|b1 c0S<|b1 b6a<|b1 c1C<|b1 c6t<|b1 c6u<|b1 c0P<|a0) Tryz.func4 (hq:=by intro x;exact Eq.mp (by kernel_rfl) (oS GG Ek Ob Dx SD CN Jp x))
theorem c6v:Bb 16 a4c:=
 fo [] 5 2 QH a0 Tryz.func16
theorem c6w:Bb 40 b2I:=
 fo [] 5 0 c8V a0 Tryz.func40
theorem c6x:Bb 41 b0i:=
 fo [] 5 0 c8W a0 Tryz.func41
theorem c1D:Bb 17 b0j:=
 fo [] 19 0 QH (b1 c6w<|b1 c6x<|a0) Tryz.func17
theorem c9l:Bb 5 a6U:=
 fo [] 199 8 H5 (b1 c6v<|b1 c1D<|a0) Tryz.func5
theorem c9m:Bb 6 a6V:=
 fo [] 23823 16 H6 (b1 c6c<|b1 c1C<|a0) Tryz.func6
theorem c1E:Bb 61 oT:=
 fo [] 5 0 QH a0 Tryz.func61
theorem c1F:Bb 173 ZM:=
 fo [] 51 0 c5s a0 Tryz.func173
theorem c1G:Bb 174 jZ:=
 fo [] 19 12 QH (b1 b6a<|a0) Tryz.func174
theorem c1H:Bb 132 oU:=
 fo [] 19 12 QH (b1 b6a<|b1 c1F<|b1 c1G<|a0) Tryz.func132
theorem c1I:Bb 133 a4d:=
 fo [] 36031004900589569 2 c5t a0 Tryz.func133
theorem b3i:Bb 175 fC:=
 fo [] 51 0 c5u a0 Tryz.func175
theorem b7Q:Bb 176 oV:=
 fo [] 51 8 c5v a0 Tryz.func176
theorem b7R:Bb 217 kA:=
 fo [] 5 2 QH a0 Tryz.func217
theorem b7S:Bb 177 kC:=
 fo [] 13 0 c5w (b1 b7R<|a0) Tryz.func177
theorem c1J:Bb 134 a4e:=
 fo [] 1152921505680593555 4 c5x (b1 b3i<|b1 b7Q<|b1 b7S<|a0) Tryz.func134
theorem Yi:Bb 178 b0k:=
 fo [] 5 0 QH a0 Tryz.func178
theorem kH:Bb 135 a1D:=
 fo [] 13 0 c5y (b1 Yi<|a0) Tryz.func135
theorem c1K:Bb 140 b2J:=
 fo [] 19 0 QH a0 Tryz.func140
theorem b8C:Bb 96 fD:=
 fo [] 455 0 c8X (b1 c1K<|a0) Tryz.func96
theorem b3j:Bb 141 kD:=
 fo [] 5 0 QH a0 Tryz.func141
theorem b7T:Bb 136 oW:=
 fo [] 455 8 c5z (b1 b8C<|b1 b3j<|a0) Tryz.func136
theorem c1L:Bb 218 a1E:=
 fo [] 5 0 QH a0 Tryz.func218
theorem c1M:Bb 179 fE:=
 fo [] 8135 0 c5A (b1 kH<|b1 Yi<|b1 c1L<|a0) Tryz.func179
theorem c1N:Bb 219 Ye:=
 fo [] 967 0 c5B (b1 b3i<|b1 Yi<|a0) Tryz.func219
theorem c1O:Bb 180 ZN:=
 fo [] 7951 0 c5C (b1 kH<|b1 b3i<|b1 Yi<|b1 c1N<|a0) Tryz.func180
theorem c1P:Bb 220 fF:=
 fo [] 967 32 c5D a0 Tryz.func220
theorem c1Q:Bb 181 kE:=
 fo [] 1991 32 c5E (b1 kH<|b1 b7Q<|b1 Yi<|b1 c1P<|a0) Tryz.func181
theorem c1R:Bb 221 fG:=
 fo [(15,.pair QI b9Q),(16,.pair QI b9Q)] 13 2 c5F (b1 b7R<|a0) Tryz.func221
theorem b7U:Bb 235 a6W:=
 fo [] 5 0 QH a0 Tryz.func235
theorem b7V:Bb 222 WR:=
 fo [] 29 0 c5G (b1 b7U<|a0) Tryz.func222
theorem c1S:Bb 236 a6X:=
 fo [] 77 0 QH a0 Tryz.func236
theorem c1T:Bb 223 Yf:=
 fo [] 243 0 c5H (b1 b7V<|b1 b7U<|b1 c1S<|a0) Tryz.func223
theorem c1U:Bb 182 fH:=
 fo [] 4083 0 c5I (b1 kH<|b1 b7S<|b1 Yi<|b1 c1R<|b1 b7V<|b1 c1T<|a0) Tryz.func182
theorem c1V:Bb 137 a6Y:=
 fo [] 144115192371347773 2 QH (b1 c1M<|b1 c1O<|b1 c1Q<|b1 c1U<|a0) Tryz.func137
theorem c1W:Bb 138 b5Y:=
 fo [] 243 0 c5J (b1 Yi<|a0) Tryz.func138
theorem c6y:Bb 94 a1F:=
 fo [] 8179 4 c8Y (b1 c1E<|b1 c1H<|b1 c1I<|b1 c1J<|b1 kH<|b1 b7T<|b1 c1V<|b1 c1W<|a0) Tryz.func94
theorem c6z:Bb 56 a1G:=
 fo [] 115 4 QH (b1 c6y<|a0) Tryz.func56
theorem b6b:Bb 57 a6Z:=
 fo [] 29 0 c8Z (b1 c1D<|a0) Tryz.func57
theorem b3k:Bb 58 fI:=
 fo [] 199 0 c9a a0 Tryz.func58
theorem b8D:Bb 60 kF:=
 fo [] 71 0 c9b (b1 b3k<|a0) Tryz.func60
theorem c6A:Bb 59 fJ:=
 fo [] 19 8 QH (b1 b6b<|b1 b3k<|b1 b8D<|a0) Tryz.func59
theorem c1X:Bb 64 b2K:=
 fo [] 13 0 c9c a0 Tryz.func64
theorem b7W:Bb 142 b0l:=
 fo [] 5 0 QH (b1 c1X<|b1 Yi<|a0) Tryz.func142
theorem c1Y:Bb 224 oX:=
 fo [] 51 0 c5K (b1 b3j<|b1 b7W<|b1 Yi<|a0) Tryz.func224
theorem c1Z:Bb 183 a1H:=
 fo [] 115 0 c5L (b1 c1Y<|a0) Tryz.func183
theorem c2a:Bb 139 oY:=
 fo [] 19 0 QH (b1 b6b<|b1 c1Z<|a0) Tryz.func139
theorem c6B:Bb 95 kG:=
 fo [] 7951 16 c9d (b1 b8C<|b1 kH<|b1 b7T<|b1 c2a<|a0) Tryz.func95
theorem c2b:Bb 143 Yg:=
 fo [] 51 0 c5M a0 Tryz.func143
theorem c6C:Bb 97 a1I:=
 fo [] 967 0 c9e (b1 b3k<|b1 kH<|b1 b3j<|b1 b7W<|b1 c2b<|a0) Tryz.func97
theorem c6D:Bb 62 oZ:=
 fo [] 64543 64 c9f (b1 b6b<|b1 b3k<|b1 b8D<|b1 c6B<|b1 b8C<|b1 c6C<|a0) Tryz.func62
theorem c6E:Bb 25 a1J:=
 fo [] 576478898540249543 16 c9g (b1 c6z<|b1 b6b<|b1 b3k<|b1 c6A<|b1 b8D<|b1 c1E<|b1 c6D<|a0) Tryz.func25
theorem c6F:Bb 63 pB:=
 fo [] 61 0 c9h a0 Tryz.func63
theorem c6G:Bb 26 a7a:=
 fo [] 115 4 c9i (b1 c6F<|b1 c1X<|a0) Tryz.func26
theorem c6H:Bb 27 Yh:=
 fo [] 29 0 c9j a0 Tryz.func27
theorem c9n:Bb 8 a7b:=
 fo [(5,.pair (.list true QV) .unit),(6,.pair (.list true QV) .unit)] 29 2 H8 (b1 c6E<|b1 c6G<|b1 c6H<|a0) Tryz.func8
theorem c9o:Bb 3 Od:=
 fo [] 274340429951 128 H3 (b1 c9k<|b1 c9l<|b1 c9m<|b1 c6n<|b1 c9n<|b1 c6c<|b1 c0S<|b1 b6a<|a0) Tryz.func3
end Go.Ab
namespace Go.Ab
open IntKind renaming wrap->zD
section
variable {M β:Type} {f:M->Option (M ⊕ β)}
theorem WS:∀(n m:Nat)(s:M){b:β},Ih f n s=some b->Ih f (n+m) s=some b
 |0,_,s,b,h=>by simp[Ih]at h
 |n+1,m,s,b,h=>by
  rw[show n+1+m=n+m+1 from by omega];simp only[Ih]at h|-;split at h;cases h;rename_i g k;exact WS n m g h;exact h
theorem rC{n m:Nat}{s:M}{b g:β}(h:Ih f n s=some b)(a:Ih f m s=some g):b=g:=by
 have c:=WS n m s h;have k:=WS m n s a;rw[Nat.add_comm,c]at k;exact Option.some.inj k
theorem b3l{n:Nat}{s:M}{b:β}(h:Ih f n s=some b):gP f s=some b:=by
 unfold gP;have g:∃n b,Ih f n s=some b:=⟨n,b,h⟩;rw[dif_pos g];exact congrArg some (rC g.choose_spec.choose_spec h)
theorem a1K{n:Nat}{s:M}{b:β}(h:Ih f n s=some b):Al f s=some b:=by
 unfold Al;split;rename_i g hb;rw[rC hb h];exact b3l h
theorem rD{s:M}(h:∀n,Ih f n s=none):Al f s=none:=by
 unfold Al;rw[h 400];show gP f s=none;unfold gP;rw[dif_neg];rintro⟨n,b,g⟩;rw[h n]at g;cases g
theorem Ag{s:M}{b:β}(h:f s=some (.inr b)):Al f s=some b:=a1K (n:=1) (by simp[Ih,h])
theorem Ai{s s':M}(h:f s=some (.inl s')):Al f s=Al f s':=by
 by_cases hx:∃n b,Ih f n s'=some b;obtain⟨n,b,hb⟩:=hx;rw[a1K hb];exact a1K (n:=n+1) (by simp[Ih,h,hb])
 ·have g:∀n,Ih f n s'=none:=fun n=>by
   cases hn:Ih f n s' with
   |none=>rfl
   |some b=>exact absurd ⟨n,b,hn⟩ hx
  rw[rD g];refine rD fun n=>?_
  cases n with
  |zero=>rfl
  |succ n=>simp[Ih,h,g n]
theorem a8E(S:Nat->M)(n:Nat){b:β}(g:∀i,i<n->f (S i)=some (.inl (S (i+1))))(h:f (S n)=some (.inr b)):∀(k:Nat),k<=n->Al f (S (n-k))=some b
 |0,_=>Ag h
 |k+1,a=>by
  rw[Ai (g (n-(k+1)) (by omega)),show n-(k+1)+1=n-k from by omega];exact a8E S n g h k (by omega)
theorem Bz(S:Nat->M)(n:Nat){b:β}(g:∀i,i<n->f (S i)=some (.inl (S (i+1))))(h:f (S n)=some (.inr b)):Al f (S 0)=some b:=by
 have:=a8E S n g h n (D9 _)
 rwa [F3]at this
end
theorem Ae{n:Int}(h:-9223372036854775808<=n/\n<=9223372036854775807):zD .i64 n=n:=by
 simp only[zD,IntKind.bits,IntKind.signed]
 simp
 split<;>omega
theorem Aw{n:Int}(h:0<=n/\n<18446744073709551616):zD .u64 n=n:=by
 simp only[zD,IntKind.bits,IntKind.signed]
 simp
 omega
theorem JL(n:Int):zD .u8 n=n%256:=by
 simp[zD,IntKind.bits,IntKind.signed]
def a1L:Nat->Nat->List Int
 |0,_=>[]
 |k+1,n=>((n%256:Nat):Int)::a1L k (n / 256)
theorem PD:∀k n,(a1L k n).length=k
 |0,_=>rfl
 |k+1,n=>by simp[a1L,PD k]
theorem kI:∀(k n:Nat),a1L (k+1) n=a1L k n++[((n / 256^k%256:Nat):Int)]
 |0,n=>by simp[a1L]
 |k+1,n=>by
  rw[a1L,kI k (n / 256),a1L,G7,I9,G6 (256^k)];rfl
theorem Qv(x y:Int):GZ x y=min x y:=by
 simp only[GZ,cond_eq_ite,dT];split<;>omega
theorem Vo(x y:Int):EA x y=max x y:=by
 simp only[EA,cond_eq_ite,dT];split<;>omega
theorem AW{n:Nat}(h:n<2147483648):Bp n=true:=by simp[Bp,h]
section
variable {α A M β:Type}
def HJ(g:A->α->A ⊕ β):List α->A->A ⊕ β
 | [],a=>.inl a
 |x::r,a=>match g a x with
  |.inl a'=>HJ g r a'
  |.inr b=>.inr b
def SK(fin:A->β):A ⊕ β->β
 |.inl a=>fin a
 |.inr b=>b
theorem Uw{f:M->Option (M ⊕ β)}(l:List α)(S:Nat->A->M)(g:A->α->A ⊕ β)(I:Nat->A->Prop)(e:A->β)
  (d:∀i (h:i<l.length) a,I i a->(∀j,g a l[i]=.inl j->f (S i a)=some (.inl (S (i+1) j))/\I (i+1) j)/\(∀b,g a l[i]=.inr b->f (S i a)=some (.inr b)))
  (c:∀a,I l.length a->f (S l.length a)=some (.inr (e a))):∀(k i:Nat)(a:A),i+k=l.length->I i a->Al f (S i a)=some (SK e (HJ g (l.drop i) a))
 |0,i,a,t,n=>by
  obtain rfl:i=l.length:=by omega
  rw[E1];exact Ag (c a n)
 |k+1,i,a,t,n=>by
  have m:i<l.length:=by omega
  rw[A4 m];obtain⟨o,p⟩:=d i m a n;simp[HJ];cases hg:g a l[i]with
  |inl j=>
   obtain⟨q,r⟩:=o j hg;rw[Ai q];exact Uw l S g I e d c k (i+1) j (by omega) r
  |inr b=>exact Ag (p b hg)
theorem BH{f:M->Option (M ⊕ β)}(l:List α)(S:Nat->A->M)(g:A->α->A ⊕ β)(I:Nat->A->Prop)(k:A->β)
  (d:∀i (h:i<l.length) a,I i a->(∀e,g a l[i]=.inl e->f (S i a)=some (.inl (S (i+1) e))/\I (i+1) e)/\(∀b,g a l[i]=.inr b->f (S i a)=some (.inr b)))
  (c:∀a,I l.length a->f (S l.length a)=some (.inr (k a))){a:A}(j:I 0 a):Al f (S 0 a)=some (SK k (HJ g l a)):=by
 have:=Uw l S g I k d c l.length 0 a (by omega) j
 simp_all
theorem Cb{f:M->Option (M ⊕ β)}(l:List α)(S:Nat->M)(p:α->Bool){bt bf:β}
  (k:∀i (h:i<l.length),p l[i]=true->f (S i)=some (.inl (S (i+1))))(b:∀i (h:i<l.length),p l[i]=false->f (S i)=some (.inr bf))
  (g:f (S l.length)=some (.inr bt)):Al f (S 0)=some (bif l.all p then bt else bf):=by
 have h:=BH (A:=Unit) l (fun i _=>S i) (fun _ x=>bif p x then .inl ()else .inr bf) (fun _ _=>True) (fun _=>bt) (fun i h a _=>?_) (fun _ _=>g) (a:=()) trivial
 ·rw[h];congr 1;clear h k b g
  induction l with
  |nil=>rfl
  |cons x l c=>
   simp[HJ];cases p x with
   |true=>simp_all
   |false=>rfl
 grind
end
theorem Ac{α:Type}{l:List α}{i:Nat}(h:i<l.length):Az l (i:Int)=some l[i]:=by
 simp_all[Az]
def Af(x:Int):Bool:=A3 (-1073741824<=x)&&A3 (x<1073741824)
theorem CD{x:Int}:Af x=true↔-1073741824<=x/\x<1073741824:=by simp[Af]
def short{α:Type}(l:List α):Prop:=l.length<1000000
theorem Aa{i:Nat}(h:i<1000000):zD .i64 ((i:Int)+1)=((i+1:Nat):Int):=by
 grind[Ae]
theorem Cq{i n:Nat}(h:i<n):A3 ((i:Int)<(n:Int))=true:=by simp_all
theorem rE(n:Nat):A3 ((n:Int)<(n:Int))=false:=by simp
theorem GJ{l:LI}(b:short l):Dw l=some (l.all Af):=by
 unfold Dw
 have:=Cb (f:=Dp) l (fun i=>(l,(l.length:Int),(i:Int),())) Af (bt:=B7 ()) (bf:=B9 (false,()))
  (fun i h g=>by
   have g:=CD.1 g;have k:A3 (l[i] < -1073741824)=false:=by simp_all
   have a:A3 (l[i]>=1073741824)=false:=by simp_all
   simp only[Dp,Cq h,cT,Ac h,oB,k,a,cF,Aa (B6 h b)])
  (fun i h g=>by
   simp only[Dp,Cq h,cT,Ac h,oB];grind[Af])
  (by simp[Dp])
 grind
theorem IT(x:Int):HO x=some (Af x):=by
 grind[HO,Af]
theorem Mx(x:Int):Lj x=some (Af x):=by
 grind[Lj,Af]
theorem HU(x:Int):Jm x=some (Af x):=by
 grind[Jm,Af]
theorem DG(x:Int):EC x=some (Af x):=by
 grind[EC,Af]
theorem Ux(x:Int):HP x=some (Af x):=by
 grind[HP,Af]
theorem IA{l:LI}(k:short l):Dq l=some (l.all Af):=by
 unfold Dq
 have:=Cb (f:=DZ) l (fun i=>(l,(l.length:Int),(i:Int),())) Af (bt:=B7 ()) (bf:=B9 (false,()))
  (fun i h g=>by simp[DZ,Ac h,IT,g,Aa (B6 h k),h])
  (fun i h g=>by simp_all[DZ,Ac,IT])
  (by simp[DZ])
 grind
theorem Tr{l:LI}(k:short l):Gs l=some (l.all Af):=by
 unfold Gs
 have:=Cb (f:=Fv) l (fun i=>(l,(l.length:Int),(i:Int),())) Af (bt:=B7 ()) (bf:=B9 (false,()))
  (fun i h g=>by simp[Fv,Ac h,Mx,g,Aa (B6 h k),h])
  (fun i h g=>by simp_all[Fv,Ac,Mx])
  (by simp[Fv])
 grind
theorem RD{l:LI}(k:short l):Hy l=some (l.all Af):=by
 unfold Hy
 have:=Cb (f:=EL) l (fun i=>(l,(l.length:Int),(i:Int),())) Af (bt:=B7 ()) (bf:=B9 (false,()))
  (fun i h g=>by simp[EL,Ac h,HU,g,Aa (B6 h k),h])
  (fun i h g=>by simp_all[EL,Ac,HU])
  (by simp[EL])
 grind
theorem Co{l:LI}(k:short l):Ce l=some (l.all Af):=by
 unfold Ce
 have:=Cb (f:=HF) l (fun i=>(l,(i:Int),())) Af (bt:=B7 ()) (bf:=B9 (false,()))
  (fun i h g=>by simp[HF,Ac h,DG,g,Aa (B6 h k),h])
  (fun i h g=>by simp_all[HF,Ac,DG])
  (by simp[HF])
 grind
theorem Km{l:LI}(h:short l):Eh l=some (l.all Af):=by
 have e:Tn=Dp:=rfl
 have:Eh l=Dw l:=by rfl
 simp_all[GJ]
def cW(x:Int):Bool:=A3 (-32768<=x)&&A3 (x<32768)
def Rb(c:List Int)(s:Int):Bool:=A3 (1<=c.length)&&(A3 (c.length<=32)&&(A3 (0<=s)&&(A3 (s<=15)&&c.all cW)))
theorem Ns{c:LI}{s:Int}(b:short c):Hf (c,s)=some (Rb c s):=by
 have:=Cb (f:=Hx) c (fun i=>(c,(c.length:Int),(i:Int),())) cW (bt:=B7 ()) (bf:=B9 (false,()))
  (fun i h g=>by
   simp[cW]at g;have k:¬ c[i] < -32768:=by omega
   have a:¬ c[i]>=32768:=by omega
   simp[Hx,Ac h,Aa (B6 h b),h,k,a])
  (fun i h g=>by
   grind[cW,Hx,Ac])
  (by simp[Hx])
 simp at this;unfold Hf Rb;grind
theorem JD{c:LI}{s:Int}(b:short c):Fj (c,s)=some (Rb c s):=by
 have:=Cb (f:=EO) c (fun i=>(c,s,(i:Int),())) cW (bt:=B7 (c,s,())) (bf:=B9 (false,()))
  (fun i h g=>by
   simp[cW]at g;have k:¬ c[i] < -32768:=by omega
   have a:¬ c[i]>=32768:=by omega
   simp[EO,Ac h,Aa (B6 h b),h,k,a])
  (fun i h g=>by
   grind[cW,EO,Ac])
  (by simp[EO])
 simp at this;unfold Fj Rb;grind
def fK(x:Int):Bool:=A3 (-64<=x)&&A3 (x<=64)
def Qw(lag:Int)(t:List Int):Bool:=A3 (2<=lag)&&(A3 (lag<=1024)&&t.all fK)
theorem Uy{t:LI}{lag:Int}(k:t.length=3):MV (lag,t)=some (Qw lag t):=by
 have:=Cb (f:=JW) t (fun i=>(t,(i:Int),())) fK (bt:=B7 ()) (bf:=B9 (false,()))
  (fun i h g=>by
   simp[fK]at g;grind[JW,Ac,Aa])
  (fun i h g=>by
   grind[fK,JW,Ac])
  (by simp_all[JW])
 simp at this;unfold MV Qw;grind
theorem Uz{t:LI}{lag:Int}(k:t.length=3):Kk (lag,t)=some (Qw lag t):=by
 have:=Cb (f:=GH) t (fun i=>(lag,(i:Int),t,())) fK (bt:=B7 (lag,())) (bf:=B9 (false,()))
  (fun i h g=>by
   simp[fK]at g;grind[GH,Ac,Aa])
  (fun i h g=>by
   grind[fK,GH,Ac])
  (by simp_all[GH])
 simp at this;unfold Kk Qw;grind
def tJ(s:Int×(Int×Unit)):Bool:=A3 (1<=s.1)&&(A3 (s.1<=32)&&(A3 (0<=s.2.1)&&A3 (s.2.1<=8)))
def My(l:List (Int×Int×Unit)):Bool:=A3 (l.length<=3)&&l.all tJ
theorem PE(s:Int×(Int×Unit)):JX s=some (tJ s):=by
 grind[JX,tJ]
theorem Oe(s:Int×(Int×Unit)):IR s=some (tJ s):=by
 grind[IR,tJ]
theorem SL{l:List (Int×Int×Unit)}(k:short l):Lh l=some (My l):=by
 have:=Cb (f:=II) l (fun i=>(l,(l.length:Int),(i:Int),())) tJ (bt:=B7 ()) (bf:=B9 (false,()))
  (fun i h g=>by simp[II,Ac h,PE,g,Aa (B6 h k),h])
  (fun i h g=>by simp_all[II,Ac,PE])
  (by simp[II])
 simp at this;unfold Lh My;grind
theorem Tt{l:List (Int×Int×Unit)}(k:short l):IS l=some (My l):=by
 have:=Cb (f:=FD) l (fun i=>(l,(i:Int),())) tJ (bt:=B7 (l,())) (bf:=B9 (false,()))
  (fun i h g=>by simp[FD,Ac h,Oe,g,Aa (B6 h k),h])
  (fun i h g=>by simp_all[FD,Ac,Oe])
  (by simp[FD])
 simp at this;unfold IS My;rw[this];cases l.all tJ with
 |false=>simp
 |true=>
  by_cases h:l.length<=3;all_goals grind
@[reducible] def W(n:Int):Int:=zD .i64 n
theorem Lp(n:Int):zD .i64 n=Int.bmod n 18446744073709551616:=by
 grind[zD,IntKind.bits,IntKind.signed]
theorem Vp{n:Int}(h:Af n=true):W n=n:=by
 grind[CD,Ae]
def IU(guess:List Int->Int):List Int->List Int->Option (List Int)
 | [],out=>some out
 |x::r,out=>bif Af (W (x+guess out))then IU guess r (out++[W (x+guess out)])else none
def Qx{β:Type}(guess:List Int->Int)(bad:β)(out:List Int)(x:Int):List Int ⊕ β:=bif Af (W (x+guess out))then .inl (out++[W (x+guess out)])else .inr bad
theorem KQ{β:Type}(h:List Int->Int)(g:β)(f:List Int->β):∀(l out:LI),SK f (HJ (Qx h g) l out)=match IU h l out with|some r=>f r|none=>g
 | [],out=>rfl
 |x::l,out=>by
  simp[HJ,Qx,IU];cases Af (W (x+h out))with
  |true=>simp_all[KQ]
  |false=>rfl
theorem SM(g:List Int->Int):∀(l out r:LI),out.all Af=true->IU g l out=some r->r.all Af=true/\r.length=out.length+l.length
 | [],out,r,h,e=>by simp_all[IU]
 |x::l,out,r,h,e=>by
  simp[IU]at e;cases hw:Af (W (x+g out))with
  |true=>
   rw[hw]at e;obtain⟨f,k⟩:=SM g l _ r (by simp_all) e;grind
  |false=>simp_all
def KR:Option (List Int)->List Int×Int
 |some r=>(r,0)
 |none=>([],6)
def kJ(out:List Int)(i:Nat):Int:=out.getD (out.length-i) 0
def MG(o:Nat)(out:List Int):Int:=match o with
 | 1=>kJ out 1
 | 2=>2*kJ out 1-kJ out 2
 | 3=>3*kJ out 1-3*kJ out 2+kJ out 3
 | 4=>4*kJ out 1-6*kJ out 2+4*kJ out 3-kJ out 4
 |_=>0
theorem SN{out:LI}{i:Nat}(hi:1<=i)(h:i<=out.length)(g:short out):Bt ((i:Int),out)=some (kJ out i,out):=by
 unfold Bt;have g:out.length<1000000:=g;grind[Ae,Ac,kJ]
theorem kK{out:LI}{o:Nat}(j:o<=4)(h:o<=out.length)(b:short out):∃g,Nd (out,(o:Int))=some g/\∀x,W (x+g)=W (x+MG o out):=by
 have k:=fun(f:1<=out.length)=>SN (i:=1) (by omega) f b;have a:=fun(f:2<=out.length)=>SN (i:=2) (by omega) f b;have c:=fun(f:3<=out.length)=>SN (i:=3) (by omega) f b;have d:=fun(f:4<=out.length)=>SN (i:=4) (by omega) f b;simp at k a c d;unfold Nd;have e:o=0\/o=1\/o=2\/o=3\/o=4:=by omega
 rcases e with rfl|rfl|rfl|rfl|rfl;exact⟨0,rfl,fun x=>rfl⟩;exact⟨_,by simp[k (by omega)];rfl,fun x=>rfl⟩;refine⟨_,by simp[k (by omega),a (by omega)];rfl,fun x=>?_⟩;simp_all[Lp,MG];refine⟨_,by simp[k (by omega),a (by omega),c (by omega)];rfl,fun x=>?_⟩;simp_all[Lp,MG];refine⟨_,by simp[k (by omega),a (by omega),c (by omega),d (by omega)];rfl,fun x=>?_⟩;simp_all[Lp,MG]
theorem AG{n:Nat}(h:n<1000000):Bp n=true:=AW (by omega)
theorem pC{sH zG:LI}{o:Nat}(w:o<=4)(z:sH.length=o)(y:zG.length<100000):
  Oy (sH,zG,(o:Int))=some (KR (bif sH.all Af&&zG.all Af then IU (MG o) zG sH else none)):=by
 have d:short sH:=by unfold short;omega
 have n:short zG:=by unfold short;omega
 unfold Oy;have q:¬ (o:Int)<0:=by omega
 have r:¬ (o:Int) > 4:=by omega
 have t:(((sH.length:Nat):Int) != (o:Int))=false:=by simp_all
 simp only[q,r,t,decide_false,cF,oB,Km d,Km n];cases hw1:sH.all Af with
 |false=>rfl
 |true=>
  simp only[bT,cF,oB,C7];cases hw2:zG.all Af with
  |false=>rfl
  |true=>
   simp[AG d]
   have:=BH (f:=Kt) zG (fun i k=>((o:Int),zG,(zG.length:Int),(i:Int),k,())) (Qx (MG o) (B9 ((6:Int),([]:List Int),())))
    (fun i k=>o<=k.length/\k.length<=o+i) (fun k=>B7 (k,()))
    (fun i h k u=>by
     have l:i<1000000:=by omega
     have m:short k:=by unfold short;omega
     obtain⟨g,v,j⟩:=kK w u.1 m;have e:zD .i64 (zG[i]+g)=W (zG[i]+MG o k):=j _;have c:Eh [W (zG[i]+MG o k)]=some (Af (W (zG[i]+MG o k))):=by rw[Km (by simp[short])];simp
     simp only[Kt,Cq h,cT,Ac h,oB,v,e,c,Qx];cases hb:Af (W (zG[i]+MG o k))with
     |true=>
      simp only[cT,bT,cF,AG (show k.length+1<1000000 by omega),Aa l];refine⟨fun x p=>?_,fun b hb=>(by grind)⟩;simp at p;subst p;exact⟨rfl,by grind,by grind⟩
     |false=>
      simp)
    (fun k _=>by simp[Kt]) (a:=sH) ⟨by omega,by omega⟩
   simp[KQ]at this;rw[this];cases IU (MG o) zG sH<;>rfl
def fL(o:Nat):List Int:=match o with
 | 1=>[1]
 | 2=>[2,-1]
 | 3=>[3,-3,1]
 | 4=>[4,-6,4,-1]
 |_=>[]
theorem b0p{o:Nat}(g:o<=4):SG (o:Int)=some (fL o):=by
 have h:o=0\/o=1\/o=2\/o=3\/o=4:=by omega
 rcases h with rfl|rfl|rfl|rfl|rfl<;>rfl
theorem a4f{o:Nat}(g:o<=4):(fL o).length=o:=by
 have h:o=0\/o=1\/o=2\/o=3\/o=4:=by omega
 rcases h with rfl|rfl|rfl|rfl|rfl<;>rfl
def a4g(o:Nat)(out:List Int)(x:Int):Nat->Int
 |0=>x
 |k+1=>W (a4g o out x k+W ((fL o).getD k 0*kJ out (k+1)))
theorem fM{zG out:LI}{o:Nat}{i x:Int}(q:o<=4)(h:o<=out.length)(g:short out)(r:Af x=true):
  Al EP (zG,(o:Int),fL o,i,x,(0:Int),out,())=some (zG,(o:Int),fL o,i,W (x+MG o out),out,()):=by
 have g:out.length<1000000:=g
 have:=Bz (f:=EP) (fun k=>(zG,(o:Int),fL o,i,a4g o out x k,(k:Int),out,()))
  o (b:=(zG,(o:Int),fL o,i,a4g o out x o,out,())) (fun k n=>by
   have a:zD .i64 (((out.length:Nat):Int)-1)=((out.length-1:Nat):Int):=by grind[Ae]
   have c:zD .i64 (((out.length-1:Nat):Int)-(k:Int))=((out.length-(k+1):Nat):Int):=by grind[Ae]
   have d:(0:Int)<=((out.length-(k+1):Nat):Int):=by omega
   have e:((out.length-(k+1):Nat):Int)<((out.length:Nat):Int):=by omega
   have j:k<(fL o).length:=by simp_all[a4f]
   have l:(fL o)[k]=(fL o).getD k 0:=by simp_all
   simp only[EP,Cq n,cT,Ac j,oB,a,c,d,e,decide_true,A8,tN,Aa (show k<1000000 by omega),a4g,kJ,l])
  (by simp[EP])
 simp[a4g]at this;rw[this];have p:a4g o out x o=W (x+MG o out):=by
  have m:o=0\/o=1\/o=2\/o=3\/o=4:=by omega
  rcases m with rfl|rfl|rfl|rfl|rfl;simp_all[a4g,MG,Vp]
  all_goals
   simp only[a4g,fL,MG,List.getD_cons_zero,List.getD_cons_succ,Nat.zero_add,Nat.reduceAdd,W,Lp,Int.add_bmod_bmod,Int.bmod_add_bmod];grind
 grind
theorem ZO{sH zG:LI}{o:Nat}(n:o<=4)(w:sH.length=o)(v:zG.length<100000):
  KF (sH,zG,(o:Int))=some (KR (bif sH.all Af&&zG.all Af then IU (MG o) zG sH else none)):=by
 have j:short sH:=by unfold short;omega
 have e:short zG:=by unfold short;omega
 unfold KF;have p:¬ (o:Int)<0:=by omega
 have q:¬ (o:Int) > 4:=by omega
 have r:(((sH.length:Nat):Int) != (o:Int))=false:=by simp_all
 simp only[p,q,r,decide_false,cF,oB,Co j,Co e];cases hw1:sH.all Af with
 |false=>rfl
 |true=>
  simp only[bT,cF,oB,C7];cases hw2:zG.all Af with
  |false=>rfl
  |true=>
   have c:Bp (0+sH.length)=true:=AG (by omega);simp only[bT,cF,cT,c,b0p n,oB,B4,E2]
   have:=BH (f:=Hq) zG (fun i g=>(zG,(o:Int),fL o,(i:Int),g,())) (Qx (MG o) (B9 ((6:Int),([]:List Int),())))
    (fun i g=>o<=g.length/\g.length<=o+i) (fun g=>B7 (g,()))
    (fun i h g t=>by
     have k:i<1000000:=by omega
     have d:short g:=by unfold short;omega
     have l:Af zG[i]=true:=lA.1 hw2 _ (A9 h);simp only[Hq,Cq h,cT,Ac h,oB,fM n t.1 d l,DG,Qx];cases hb:Af (W (zG[i]+MG o g))with
     |true=>
      simp only[cT,bT,cF,AG (show g.length+1<1000000 by omega),Aa k];refine⟨fun u m=>?_,fun b hb=>(by grind)⟩;simp at m;subst m;exact⟨rfl,by grind,by grind⟩
     |false=>
      simp)
    (fun g _=>by simp[Hq]) (a:=sH) ⟨by omega,by omega⟩
   simp[KQ]at this;rw[this];cases IU (MG o) zG sH<;>rfl
def a4h(out:List Int):List Int->Nat->Int->Int
 | [],_,acc=>acc
 |c::r,i,acc=>bif A3 (i<out.length)then a4h out r (i+1) (W (acc+W (c*kJ out (i+1))))else acc
def TG(c:List Int)(s:Int)(out:List Int):Int:=AR .i64 (a4h out c 0 0) s
theorem b3m{out:LI}{i:Nat}(h:i<out.length)(g:short out):Az out (zD .i64 (zD .i64 (((out.length:Nat):Int)-1)-(i:Int)))=some (kJ out (i+1)):=by
 have g:out.length<1000000:=g;grind[Ae,Ac,kJ]
theorem b3n{out:LI}{i:Nat}(h:i<out.length)(g:out.all Af=true):Af (kJ out (i+1))=true:=by
 grind[kJ]
theorem Yj{out c:LI}{s:Int}(a:short out)(b:short c):∀(k i:Nat)(g:Int),i+k=c.length->
  Al Ea (out,s,g,c,(c.length:Int),(i:Int),())=some (s,a4h out (c.drop i) i g,())
 |0,i,g,h=>by
  obtain rfl:i=c.length:=by omega
  simp_all[Ag,Ea,a4h]
 |k+1,i,g,h=>by
  have f:i<c.length:=by omega
  have j:out.length<1000000:=a;have e:c.length<1000000:=b;rw[A4 f,a4h];have l:zD .i64 (((out.length:Nat):Int)-1)=((out.length:Nat):Int)-1:=Ae (by omega);have m:zD .i64 (((out.length:Nat):Int)-1-(i:Int))=((out.length:Nat):Int)-1-(i:Int):=Ae (by omega);by_cases hi:i<out.length;have d:A3 (zD .i64 (zD .i64 (((out.length:Nat):Int)-1)-(i:Int))<0)=false:=by grind
  simp[hi];rw[Ai (s':=(out,s,W (g+W (c[i]*kJ out (i+1))),c,(c.length:Int),((i+1:Nat):Int),())) (by
   simp only[Ea,Cq f,cT,Ac f,oB,d,cF,b3m hi a,Aa (show i<1000000 by omega)])]
  exact Yj a b k (i+1) _ (by omega);have d:A3 (zD .i64 (zD .i64 (((out.length:Nat):Int)-1)-(i:Int))<0)=true:=by grind
  simp[hi];simp_all[Ag,Ea,Ac]
theorem WT{out c:LI}{s:Int}(g:short out)(h:short c)(f:0<=s):Gr (out,c,s)=some (TG c s out):=by
 have:=Yj (s:=s) g h c.length 0 0 (by omega)
 grind[Gr,TG]
theorem kL{out c:LI}{s:Int}(a:short out)(b:short c)(d:out.all Af=true):∀(k i:Nat)(g:Int),i+k=c.length->
  Al DD (out,c,s,g,(i:Int),())=some (B7 (s,a4h out (c.drop i) i g,()))
 |0,i,g,h=>by
  obtain rfl:i=c.length:=by omega
  simp_all[Ag,DD,a4h]
 |k+1,i,g,h=>by
  have f:i<c.length:=by omega
  have l:out.length<1000000:=a;have e:c.length<1000000:=b;rw[A4 f,a4h];by_cases hi:i<out.length;simp[hi];rw[Ai (s':=(out,c,s,W (g+W (c[i]*kJ out (i+1))),((i+1:Nat):Int),())) (by
   simp only[DD,Cq f,Cq hi,cT,b3m hi a,oB,DG,b3n hi d,bT,cF,Ac f,Aa (show i<1000000 by omega)])]
  exact kL a b d k (i+1) _ (by omega);have j:A3 ((i:Int)<((out.length:Nat):Int))=false:=by simp_all
  simp[hi];exact Ag (by simp only[DD,Cq f,cT,j,cF])
theorem cX{s:Int}(h:0<=s)(g:s<=64):zD .u64 s=s:=Aw (by omega)
theorem WU{out c:LI}{s:Int}(f:short out)(h:short c)(k:out.all Af=true)(g:Rb c s=true):Iu (out,c,s)=some (TG c s out):=by
 have:=kL (s:=s) f h k c.length 0 0 (by omega)
 simp at this;unfold Iu;simp[JD h,g,this];simp only[Rb,EV,dT]at g;grind[cX,TG]
def Yk(sH zG c:List Int)(s:Int):Option (List Int):=bif sH.all Af&&zG.all Af then IU (TG c s) zG sH else none
theorem UA{sH zG c:LI}{s:Int}(p:Rb c s=true)(x:sH.length=c.length)(w:zG.length<100000):
  JY (sH,zG,c,s)=some (KR (Yk sH zG c s)):=by
 have k:=p;simp only[Rb,EV,dT]at k;have d:short c:=by unfold short;omega
 have n:short sH:=by unfold short;omega
 have m:short zG:=by unfold short;omega
 unfold JY;have r:(((sH.length:Nat):Int) != ((c.length:Nat):Int))=false:=by simp_all
 simp only[Ns d,p,oB,bT,cF,r,IA n,IA m,Yk];cases hw1:sH.all Af with
 |false=>rfl
 |true=>
  simp only[bT,cF,oB,C7];cases hw2:zG.all Af with
  |false=>rfl
  |true=>
   have q:zD .i64 (((sH.length:Nat):Int)+((zG.length:Nat):Int))=((sH.length+zG.length:Nat):Int):=by grind[Ae]
   have t:(0:Int)<=((sH.length+zG.length:Nat):Int):=by omega
   simp only[bT,cF,cT,q,t,decide_true,tN,AG (show sH.length+zG.length<1000000 by omega),AG (show 0+sH.length<1000000 by omega),A8,B4,E2]
   have:=BH (f:=Jl) zG (fun i g=>(c,s,zG,(zG.length:Int),(i:Int),g,())) (Qx (TG c s) (B9 ((6:Int),([]:List Int),())))
    (fun i g=>g.length<=sH.length+i) (fun g=>B7 (g,()))
    (fun i h g v=>by
     have j:i<1000000:=by omega
     have l:short g:=by unfold short;omega
     have e:zD .i64 (TG c s g+zG[i])=W (zG[i]+TG c s g):=by grind
     simp only[Jl,Cq h,cT,Ac h,oB,WT l d k.2.2.1,e,IT,Qx];cases hb:Af (W (zG[i]+TG c s g))with
     |true=>
      simp only[cT,bT,cF,AG (show g.length+1<1000000 by omega),Aa j];refine⟨fun u o=>?_,fun b hb=>(by grind)⟩;simp at o;subst o;exact⟨rfl,by grind⟩
     |false=>
      simp)
    (fun g _=>by simp[Jl]) (a:=sH) (by omega)
   simp[KQ]at this;rw[this];cases IU (TG c s) zG sH<;>rfl
theorem Qy{sH zG c:LI}{s:Int}(d:Rb c s=true)(u:sH.length=c.length)(t:zG.length<100000):
  GI (sH,zG,c,s)=some (KR (Yk sH zG c s)):=by
 have e:=d;simp only[Rb,EV,dT]at e;have k:short c:=by unfold short;omega
 have n:short sH:=by unfold short;omega
 have m:short zG:=by unfold short;omega
 unfold GI;have p:(((sH.length:Nat):Int) != ((c.length:Nat):Int))=false:=by simp_all
 simp only[JD k,d,oB,bT,cF,p,Co n,Co m,Yk];cases hw1:sH.all Af with
 |false=>rfl
 |true=>
  simp only[bT,cF,oB,C7];cases hw2:zG.all Af with
  |false=>rfl
  |true=>
   simp only[bT,cF,cT,AG (show 0+sH.length<1000000 by omega),B4,E2]
   have:=BH (f:=Gf) zG (fun i g=>(zG,c,s,(i:Int),g,())) (Qx (TG c s) (B9 ((6:Int),([]:List Int),())))
    (fun i g=>g.length<=sH.length+i/\g.all Af=true) (fun g=>B7 (g,()))
    (fun i h g q=>by
     have j:i<1000000:=by omega
     have l:short g:=by unfold short;omega
     simp only[Gf,Cq h,cT,Ac h,oB,WU l k q.2 d,DG,Qx];cases hb:Af (W (zG[i]+TG c s g))with
     |true=>
      simp only[cT,bT,cF,AG (show g.length+1<1000000 by omega),Aa j];refine⟨fun r o=>?_,fun b hb=>(by grind)⟩;simp at o;subst o;exact⟨rfl,by grind,by simp_all⟩
     |false=>
      simp)
    (fun g _=>by simp[Gf]) (a:=sH) ⟨by omega,hw1⟩
   simp[KQ]at this;rw[this];cases IU (TG c s) zG sH<;>rfl
def a4i(out:List Int)(lag:Int):List Int->Nat->Int->Int
 | [],_,acc=>acc
 |t::r,i,acc=>a4i out lag r (i+1) (bif A3 (0<=(out.length:Int)-lag-1+i)then W (acc+W (t*out.getD ((out.length:Int)-lag-1+i).toNat 0))else acc)
def NM(lag:Int)(t:List Int)(out:List Int):Int:=AR .i64 (a4i out lag t 0 0) 6
theorem Yl{out:LI}{j:Int}(g:0<=j)(h:j<out.length):Az out j=some (out.getD j.toNat 0):=by
 obtain⟨n,rfl⟩:=A7 g;simp_all[Ac]
theorem a8F{n i:Nat}{lag:Int}(h:2<=lag)(g:lag<=1024)(f:n<1000000)(hi:i<3):
  zD .i64 (zD .i64 (zD .i64 ((n:Int)-lag)-1)+(i:Int))=(n:Int)-lag-1+i:=by
 grind[Ae]
theorem b0q{l:LI}{n j:Nat}(h:j<n):(l.take n).getD j 0=l.getD j 0:=by
 simp_all
theorem Mz{l t:LI}{lag:Int}{n:Nat}(o:n<=l.length)(m:short l)(p:t.length=3)(b:2<=lag)(c:lag<=1024):∀(k i:Nat)(g:Int),i+k=3->
  Al Fw (l,(n:Int),lag,g,t,(i:Int),())=some (a4i (l.take n) lag (t.drop i) i g,())
 |0,i,g,h=>by
  obtain rfl:i=t.length:=by omega
  grind[Ag,Fw,a4i]
 |k+1,i,g,h=>by
  have f:i<t.length:=by omega
  have a:A3 ((i:Int)<3)=true:=by grind
  have q:l.length<1000000:=m;have j:(l.take n).length=n:=by simp_all
  have e:=a8F (n:=n) (i:=i) b c (by omega) (by omega);rw[A4 f,a4i,j];by_cases hp:0<=(n:Int)-lag-1+i;have d:A3 ((n:Int)-lag-1+i>=0)=true:=by simp_all
  simp only[hp,decide_true,cT];rw[b0q (show((n:Int)-lag-1+i).toNat<n by omega),Ai (s':=(l,(n:Int),lag,W (g+W (t[i]*l.getD ((n:Int)-lag-1+i).toNat 0)),t,((i+1:Nat):Int),())) (by
   simp only[Fw,a,cT,Ac f,oB,e,d,Yl hp (show(n:Int)-lag-1+(i:Int)<(l.length:Int)by omega),Aa (show i<1000000 by omega)])]
  exact Mz o m p b c k (i+1) _ (by omega);have d:A3 ((n:Int)-lag-1+i>=0)=false:=by simp_all
  simp[hp];rw[Ai (s':=(l,(n:Int),lag,g,t,((i+1:Nat):Int),())) (by
   simp only[Fw,a,cT,Ac f,oB,e,d,cF,Aa (show i<1000000 by omega)])]
  exact Mz o m p b c k (i+1) _ (by omega)
theorem Tu{l t:LI}{lag:Int}{n:Nat}(f:n<=l.length)(k:short l)(a:t.length=3)(h:2<=lag)(g:lag<=1024):
  Gu (l,(n:Int),lag,t)=some (NM lag t (l.take n)):=by
 have:=Mz (t:=t) f k a h g 3 0 0 (by rfl)
 simp_all[Gu,NM]
theorem fN{out t:LI}{lag:Int}(f:short out)(k:t.length=3)(h:2<=lag)(g:lag<=1024):Gu (out,(out.length:Int),lag,t)=some (NM lag t out):=by
 simp_all[Tu]
theorem KS{out t:LI}{lag:Int}(j:short out)(m:t.length=3)(b:2<=lag)(c:lag<=1024):∀(k i:Nat)(g:Int),i+k=3->
  Al EQ (out,lag,g,(i:Int),t,())=some (a4i out lag (t.drop i) i g,())
 |0,i,g,h=>by
  obtain rfl:i=t.length:=by omega
  grind[Ag,EQ,a4i]
 |k+1,i,g,h=>by
  have a:i<t.length:=by omega
  have f:A3 ((i:Int)<3)=true:=by grind
  have l:out.length<1000000:=j;have e:=a8F (i:=i) b c l (by omega);rw[A4 a,a4i];by_cases hp:0<=(out.length:Int)-lag-1+i;have d:A3 ((out.length:Int)-lag-1+i>=0)=true:=by simp_all
  simp only[hp,decide_true,cT];rw[Ai (s':=(out,lag,W (g+W (t[i]*out.getD ((out.length:Int)-lag-1+i).toNat 0)),((i+1:Nat):Int),t,())) (by
   simp only[EQ,f,cT,Ac a,oB,e,d,Yl hp (show(out.length:Int)-lag-1+(i:Int)<(out.length:Int)by omega),Aa (show i<1000000 by omega)])]
  exact KS j m b c k (i+1) _ (by omega);have d:A3 ((out.length:Int)-lag-1+i>=0)=false:=by simp_all
  simp[hp];rw[Ai (s':=(out,lag,g,((i+1:Nat):Int),t,())) (by
   simp only[EQ,f,cT,e,d,cF,Aa (show i<1000000 by omega)])]
  exact KS j m b c k (i+1) _ (by omega)
theorem ZP{out t:LI}{lag:Int}(f:short out)(k:t.length=3)(h:2<=lag)(g:lag<=1024):KG (out,lag,t)=some (NM lag t out):=by
 have:=KS (out:=out) (t:=t) f k h g 3 0 0 (by rfl)
 simp_all[KG,NM]
def VY(zG:List Int)(lag:Int)(t:List Int):Option (List Int):=bif zG.all Af then IU (NM lag t) zG []else none
theorem a1M{zG t:LI}{lag:Int}(d:Qw lag t=true)(j:t.length=3)(n:zG.length<100000):PW (zG,lag,t)=some (KR (VY zG lag t)):=by
 have g:=d;simp only[Qw,EV,dT]at g;have k:short zG:=by unfold short;omega
 unfold PW;simp only[Uy j,d,oB,bT,cF,Tr k,VY];cases hw2:zG.all Af with
 |false=>rfl
 |true=>
  have m:(0:Int)<=((zG.length:Nat):Int):=by omega
  simp[AG k]
  have:=BH (f:=LR) zG (fun i out=>(lag,zG,(zG.length:Int),(i:Int),out,t,())) (Qx (NM lag t) (B9 ((6:Int),([]:List Int),())))
   (fun i out=>out.length=i) (fun out=>B7 (out,()))
   (fun i h out l=>by
    have b:i<1000000:=by omega
    have c:short out:=by unfold short;omega
    have e:=fN (out:=out) (t:=t) (lag:=lag) c j g.1 g.2.1;rw[l]at e;simp only[LR,Cq h,cT,Ac h,oB,e,Mx,Qx];cases hb:Af (W (zG[i]+NM lag t out))with
    |true=>
     simp only[cT,bT,cF,AG (show out.length+1<1000000 by omega),Aa b];simp_all
    |false=>
     simp)
   (fun out _=>by simp[LR]) (a:=[]) rfl
  simp[KQ]at this;rw[this];cases IU (NM lag t) zG []<;>rfl
theorem fO{zG t:LI}{lag:Int}(e:Qw lag t=true)(j:t.length=3)(m:zG.length<100000):Mu (zG,lag,t)=some (KR (VY zG lag t)):=by
 have k:=e;simp only[Qw,EV,dT]at k;have d:short zG:=by unfold short;omega
 unfold Mu;simp only[Uz j,e,oB,bT,cF,Co d,VY];cases hw2:zG.all Af with
 |false=>rfl
 |true=>
  simp
  have:=BH (f:=Iv) zG (fun i g=>(zG,lag,(i:Int),g,t,())) (Qx (NM lag t) (B9 ((6:Int),([]:List Int),())))
   (fun i g=>g.length=i) (fun g=>B7 (g,()))
   (fun i h g l=>by
    have b:i<1000000:=by omega
    have c:short g:=by unfold short;omega
    simp only[Iv,Cq h,cT,Ac h,oB,ZP c j k.1 k.2.1,DG,Qx];cases hb:Af (W (zG[i]+NM lag t g))with
    |true=>
     simp only[cT,bT,cF,AG (show g.length+1<1000000 by omega),Aa b];simp_all
    |false=>
     simp)
   (fun g _=>by simp[Iv]) (a:=[]) rfl
  simp[KQ]at this;rw[this];cases IU (NM lag t) zG []<;>rfl
def ZQ{β:Type}(n:Int)(bad:β)(out:List Int)(x:Int):List Int ⊕ β:=bif Af x&&Af (AT .i64 x n)then .inl (out++[AT .i64 x n])else .inr bad
def a7d(n:Int)(l:List Int):Option (List Int):=bif l.all (fun x=>Af x&&Af (AT .i64 x n))then some (l.map fun x=>AT .i64 x n)else none
theorem UB{β:Type}(n:Int)(h:β)(g:List Int->β):∀(l out:LI),SK g (HJ (ZQ n h) l out)=match a7d n l with|some r=>g (out++r)|none=>h
 | [],out=>by simp[HJ,SK,a7d]
 |x::l,out=>by
  simp only[HJ,ZQ,a7d,C8];cases hx:(Af x&&Af (AT .i64 x n))with
  |true=>
   simp only[cT,C7];rw[UB n h g l _];simp only[a7d];cases l.all (fun x=>Af x&&Af (AT .i64 x n))with
   |true=>simp
   |false=>rfl
  |false=>rfl
theorem a1N{l:LI}{n:Int}(e:0<=n)(j:n<=30)(o:l.length<100000):NF (l,n)=some (KR (a7d n l)):=by
 have d:short l:=by unfold short;omega
 have k:¬ n<0:=by omega
 have c:¬ n > 30:=by omega
 unfold NF;simp[k,c]
 have:=BH (f:=LS) l (fun i g=>(n,l,(l.length:Int),(i:Int),g,())) (ZQ n (B9 ((6:Int),([]:List Int),())))
  (fun i g=>g.length=i) (fun g=>B7 (g,()))
  (fun i h g m=>by
   have b:i<1000000:=by omega
   simp only[LS,Cq h,cT,Ac h,oB,Ux,ZQ,k,decide_false,cF];cases hb:Af l[i]with
   |true=>
    cases hb2:Af (AT .i64 l[i] n)with
    |true=>
     simp only[cT,bT,cF,oB,k,decide_false,AG (show g.length+1<1000000 by omega),Aa b,A8];simp_all
    |false=>
     simp
   |false=>
    simp)
  (fun g _=>by simp[LS]) (a:=[]) rfl
 simp[UB]at this;rw[this];cases a7d n l<;>rfl
theorem b0r{l:LI}{n:Int}(e:0<=n)(m:n<=30)(p:l.length<100000):gE (l,n)=some (KR (a7d n l)):=by
 have j:short l:=by unfold short;omega
 have k:¬ n<0:=by omega
 have d:¬ n > 30:=by omega
 have c:=cX e (by omega);unfold gE;simp[k,d]
 have:=BH (f:=SI) l (fun i g=>(l,n,(i:Int),g,())) (ZQ n (B9 ((6:Int),([]:List Int),())))
  (fun i g=>g.length=i) (fun g=>B7 (g,()))
  (fun i h g o=>by
   have b:i<1000000:=by omega
   simp only[SI,Cq h,cT,Ac h,oB,DG,ZQ,c,k,decide_false,cF];cases hb:Af l[i]with
   |true=>
    cases hb2:Af (AT .i64 l[i] n)with
    |true=>
     simp only[cT,bT,cF,oB,c,k,decide_false,Ac h,AG (show g.length+1<1000000 by omega),Aa b,A8];simp_all
    |false=>
     simp
   |false=>
    simp)
  (fun g _=>by simp[SI]) (a:=[]) rfl
 simp[UB]at this;rw[this];cases a7d n l<;>rfl
abbrev Xs:Type:=Int×((List Int)×((List Int)×Unit))
def Cw(x:Int):Int:=GZ (EA x (-1073741824)) 1073741823
def a1O(x:Int):Int:=GZ (EA x (-1048576)) 1048576
theorem Ym(x:Int):-1073741824<=Cw x/\Cw x<=1073741823:=by
 grind[Cw,Qv,Vo]
theorem a1P(x:Int):-1048576<=a1O x/\a1O x<=1048576:=by
 grind[a1O,Qv,Vo]
def b0s:List Int->List Int->Int->Int
 |a::w,b::h,acc=>b0s w h (W (acc+W (a*b)))
 |_,_,acc=>acc
def Bh(f:Xs):Int:=Cw (AR .i64 (b0s f.2.1 f.2.2.1 0) 16)
structure uE (f:Xs):Prop where
 len:f.2.1.length=f.2.2.1.length
 pos:1<=f.2.1.length
 most:f.2.1.length<=32
 rate:0<=f.1/\f.1<=8
 small:∀x∈f.2.1,-1048576<=x/\x<=1048576
theorem PF{l:LI}{i:Nat}(h:i<l.length):J2 l i 0=l[i]:=by
 simp_all
theorem RE{f:Xs}(d:uE f):∀(k i:Nat)(g:Int),i+k=f.2.1.length->
  Al DL (g,(f.2.1.length:Int),(i:Int),f,())=some (b0s (f.2.1.drop i) (f.2.2.1.drop i) g,f,())
 |0,i,g,h=>by
  obtain rfl:i=f.2.1.length:=by omega
  rw[E1,Ag (b:=(g,f,())) (by simp[DL])];rfl
 |k+1,i,g,h=>by
  have a:i<f.2.1.length:=by omega
  have c:i<f.2.2.1.length:=by rw[<-d.len];omega
  have j:=d.most;rw[A4 a,A4 c,b0s];have e:A3 ((0:Int)<=(i:Int))=true:=by simp
  rw[Ai (s':=(W (g+W (f.2.1[i]*f.2.2.1[i])),(f.2.1.length:Int),((i+1:Nat):Int),f,())) (by
   simp only[DL,Cq a,Cq c,e,cT,A8,tN,PF a,PF c,Aa (show i<1000000 by omega)])]
  exact RE d k (i+1) _ (by omega)
theorem IV{f:Xs}(h:uE f):Cy f=some (Bh f,f):=by
 have:=RE h f.2.1.length 0 0 (by omega)
 simp at this;unfold Cy;simp only[this,oB,Hz];rfl
theorem UC{f:Xs}(d:uE f):∀(k i:Nat)(g:Int),i+k=f.2.1.length->
  Al EX (g,(i:Int),f,())=some (b0s (f.2.1.drop i) (f.2.2.1.drop i) g,f,())
 |0,i,g,h=>by
  obtain rfl:i=f.2.1.length:=by omega
  rw[E1,Ag (b:=(g,f,())) (by simp[EX])];rfl
 |k+1,i,g,h=>by
  have a:i<f.2.1.length:=by omega
  have c:i<f.2.2.1.length:=by rw[<-d.len];omega
  have j:=d.most;rw[A4 a,A4 c,b0s];have e:A3 ((0:Int)<=(i:Int))=true:=by simp
  rw[Ai (s':=(W (g+W (f.2.1[i]*f.2.2.1[i])),((i+1:Nat):Int),f,())) (by
   simp only[EX,Cq a,Cq c,e,cT,A8,tN,PF a,PF c,Aa (show i<1000000 by omega)])]
  exact UC d k (i+1) _ (by omega)
theorem SO{f:Xs}(h:uE f):ER f=some (Bh f,f):=by
 have:=UC h f.2.1.length 0 0 (by omega)
 simp at this;unfold ER;simp only[this,oB,Pz];rfl
def Oq(x:Int):Int:=if 0<x then 1 else if x<0 then -1 else 0
def VZ(r:Int)(x g:Int):Int:=Oq (x-g)*2^r.toNat
def fP(st:Int)(w h:Int):Int:=a1O (W (w+Oq h*st))
def Tv(f:Xs)(x:Int):Xs:=
 (f.1,C6 (fP (VZ f.1 (Cw x) (Bh f))) f.2.1 f.2.2.1,Cw x::f.2.2.1.take (f.2.2.1.length-1),f.2.2.2)
theorem kM{f:Xs}(k:uE f)(x:Int):uE (Tv f x):=by
 obtain⟨a,b,c,g,d⟩:=k;have e:(C6 (fP (VZ f.1 (Cw x) (Bh f))) f.2.1 f.2.2.1).length=f.2.1.length:=by simp_all
 refine⟨?_,?_,?_,g,?_⟩;show(C6 _ _ _).length=(Cw x::f.2.2.1.take (f.2.2.1.length-1)).length;simp_all;show 1<=(C6 _ _ _).length;omega;show(C6 _ _ _).length<=32;omega;intro y h;have h:y∈C6 (fP (VZ f.1 (Cw x) (Bh f))) f.2.1 f.2.2.1:=h;obtain⟨i,j,rfl⟩:=List.mem_iff_getElem.1 h
 simp
 exact a1P _
theorem Lq(x:Int):(0<x/\Oq x=1)\/(x<0/\Oq x=-1)\/(x=0/\Oq x=0):=by
 unfold Oq;omega
theorem kN{r:Int}(h:0<=r/\r<=8):(2:Int)^r.toNat<=256/\1<=(2:Int)^r.toNat:=by
 have:r.toNat=0\/r.toNat=1\/r.toNat=2\/r.toNat=3\/r.toNat=4\/r.toNat=5\/r.toNat=6\/r.toNat=7\/r.toNat=8:=by omega
 rcases this with e|e|e|e|e|e|e|e|e<;>rw[e]<;>decide
theorem rF{r:Int}(h:0<=r/\r<=8){x:Int}(f:-1<=x/\x<=1):AT .i64 x r=x*2^r.toNat:=by
 have g:=kN h;have hb:min r.toNat 64=r.toNat:=by omega
 unfold AT;show zD .i64 (x*2^(min r.toNat 64))=_;rw[hb]
 have:x=-1\/x=0\/x=1:=by omega
 rcases this with rfl|rfl|rfl;all_goals grind[Ae]
theorem pD{f:Xs}(a:uE f)(x:Int):
  (bif A3 (Cw x > Bh f)then bif A3 (f.1<0)then(none:Option (Int×Int×Xs×Unit))else some (Cw x,AT .i64 (1:Int) f.1,f,())
   else bif A3 (Cw x<Bh f)then bif A3 (f.1<0)then none else some (Cw x,zD .i64 (0-(AT .i64 (1:Int) f.1)),f,())
   else some (Cw x,(0:Int),f,()))=some (Cw x,VZ f.1 (Cw x) (Bh f),f,()):=by
 have d:¬ f.1<0:=by have:=a.rate;omega
 have e:=kN a.rate;have b:=rF a.rate (x:=1) (by omega);rw[Int.one_mul]at b;rcases Lq (Cw x-Bh f)with⟨c,h⟩|⟨c,h⟩|⟨c,h⟩;have g:Cw x > Bh f:=by omega
 simp only[g,d,decide_true,decide_false,cT,cF,VZ,h,Int.one_mul,b];have g:¬ Cw x > Bh f:=by omega
 have k:Cw x<Bh f:=by omega
 simp only[g,k,d,decide_true,decide_false,cT,cF,VZ,h,b];grind[Ae];have g:¬ Cw x > Bh f:=by omega
 have k:¬ Cw x<Bh f:=by omega
 simp only[g,k,decide_false,cF,VZ,h,Int.zero_mul]
theorem a4j{l z:LI}{i:Nat}(hi:i<l.length)(f:z.length=l.length):(z.take i++l.drop i).set i (z[i]'(by omega))=z.take (i+1)++l.drop (i+1):=by
 have h:(z.take i).length=i:=by grind
 have g:z.take (i+1)=z.take i++[z[i]'(by omega)]:=by simp
 rw[H2 _ _ (by omega),h,F3,A4 hi,F8,g,aA];rfl
theorem b3o{l z:LI}{i:Nat}(hi:i<l.length)(h:z.length=l.length):J2 (z.take i++l.drop i) i 0=l[i]:=by
 grind
theorem b0t{f:Xs}(g:uE f){i:Nat}(h:i<f.2.1.length):-1048576<=f.2.1[i]/\f.2.1[i]<=1048576:=g.small _ (A9 h)
theorem fQ{f:Xs}(o:uE f){a st:Int}(w:-256<=st/\st<=256):
  Al CT (a,st,(f.2.2.1.length:Int),(0:Int),f,())=some (a,(f.1,C6 (fP st) f.2.1 f.2.2.1,f.2.2),()):=by
 obtain⟨z,y⟩:∃z,C6 (fP st) f.2.1 f.2.2.1=z:=⟨_,rfl⟩;have r:=o.len;have j:z.length=f.2.1.length:=by grind
 have x:=o.most
 have:=Bz (f:=CT) (fun i=>(a,st,(f.2.2.1.length:Int),(i:Int),(f.1,z.take i++f.2.1.drop i,f.2.2),()))
  f.2.2.1.length (b:=(a,(f.1,z,f.2.2),())) (fun i q=>by
   have k:i<f.2.1.length:=by omega
   have m:A3 ((0:Int)<=(i:Int))=true:=by simp
   have u:(z.take i++f.2.1.drop i).length=f.2.1.length:=by grind
   have g:A3 ((i:Int)<((z.take i++f.2.1.drop i).length:Int))=true:=by simp_all
   have p:z[i]'(by omega)=fP st f.2.1[i] f.2.2.1[i]:=by grind
   have v:=b0t o k;have h:=a4j k j;rw[p]at h;simp only[CT,Cq q,m,g,cT,A8,tN,PF q,b3o k j];rcases Lq f.2.2.1[i]with⟨n,c⟩|⟨n,c⟩|⟨n,c⟩;have d:f.2.2.1[i] > 0:=n;simp[fP,c]at h;simp only[d,decide_true,cT,oB,m,g,A8,tN,Aa (show i<1000000 by omega)];exact congrArg (fun l=>some (B7 (a,st,(f.2.2.1.length:Int),((i+1:Nat):Int),(f.1,l,f.2.2),()))) h;have d:¬ f.2.2.1[i] > 0:=by omega
   have e:f.2.1[i]+-1*st=f.2.1[i]-st:=by omega
   simp only[fP,c,e]at h;simp only[d,n,decide_true,decide_false,cT,cF,oB,m,g,A8,tN,Aa (show i<1000000 by omega)];exact congrArg (fun l=>some (B7 (a,st,(f.2.2.1.length:Int),((i+1:Nat):Int),(f.1,l,f.2.2),()))) h;have d:¬ f.2.2.1[i] > 0:=by omega
   have t:¬ f.2.2.1[i]<0:=by omega
   have e:W (f.2.1[i]+0*st)=f.2.1[i]:=by rw[Int.zero_mul,Int.add_zero];exact Ae (by omega)
   simp only[fP,c,e]at h;simp only[d,t,decide_false,cF,oB,m,g,cT,A8,tN,Aa (show i<1000000 by omega)];exact congrArg (fun l=>some (B7 (a,st,(f.2.2.1.length:Int),((i+1:Nat):Int),(f.1,l,f.2.2),()))) h)
  (by
   simp_all[C4,CT])
 simp_all
theorem a4k{f:Xs}(k:uE f)(x g:Int):-256<=VZ f.1 x g/\VZ f.1 x g<=256:=by
 have a:=kN k.rate;unfold VZ;rcases Lq (x-g)with⟨-,h⟩|⟨-,h⟩|⟨-,h⟩<;>rw[h]<;>omega
theorem Wa{f:Xs}(h:uE f)(x:Int):Eb (f,x)=some (Tv f x):=by
 unfold Eb;have d:=pD h x;simp only[Hz,oB,IV h];have g:(bif A3 (GZ (EA x (-1073741824)) 1073741823 > Bh f)then bif A3 (f.1<0)then(none:Option (Int×Int×Xs×Unit))else some (GZ (EA x (-1073741824)) 1073741823,AT .i64 (1:Int) f.1,f,())
   else bif A3 (GZ (EA x (-1073741824)) 1073741823<Bh f)then bif A3 (f.1<0)then none else some (GZ (EA x (-1073741824)) 1073741823,zD .i64 (0-(AT .i64 (1:Int) f.1)),f,())
   else some (GZ (EA x (-1073741824)) 1073741823,(0:Int),f,()))=_:=d
 rw[g];simp only[oB,fQ h (a4k h _ _)];have i:f.2.2.1.length>=1:=by have:=h.pos;have:=h.len;omega
 have b:A3 ((1:Int)<=((f.2.2.1.length:Nat):Int))=true:=by grind
 have e:Xw f.2.2.1 1 (f.2.2.1.length-1) f.2.2.1=f.2.2.1.take 1++f.2.2.1.take (f.2.2.1.length-1):=by
  simp_all[Xw]
 have j:(f.2.2.1.take 1++f.2.2.1.take (f.2.2.1.length-1)).length=f.2.2.1.length:=by simp_all
 have c:A3 ((0:Int)<(((f.2.2.1.take 1++f.2.2.1.take (f.2.2.1.length-1)).length:Nat):Int))=true:=by grind
 simp only[b,cT,e,c];congr 1;have k:(f.2.2.1.take 1++f.2.2.1.take (f.2.2.1.length-1)).set 0 (Cw x)=Cw x::f.2.2.1.take (f.2.2.1.length-1):=by
  cases hc:f.2.2.1 with
  |nil=>simp_all
  |cons a l=>simp
 rw[k];rfl
theorem cY(x:Int):PB x=some (Oq x):=by
 grind[PB,Lq]
theorem pE{f:Xs}(a:uE f){g s:Int}(x:-1<=s/\s<=1):
  Al DE (g,s,(0:Int),([]:List Int),([]:List Int),f,())=some (g,C6 (fP (s*2^f.1.toNat)) f.2.1 f.2.2.1,([]:List Int),f,()):=by
 obtain⟨z,y⟩:∃z,C6 (fP (s*2^f.1.toNat)) f.2.1 f.2.2.1=z:=⟨_,rfl⟩;have l:=a.len;have v:z.length=f.2.1.length:=by grind
 have w:=a.most;have t:=a.rate;have u:zD .u64 f.1=f.1:=Aw (by omega);have c:¬ f.1<0:=by omega
 have:=Bz (f:=DE) (fun i=>(g,s,(i:Int),z.take i,([]:List Int),f,()))
  f.2.1.length (b:=(g,z,([]:List Int),f,())) (fun i j=>by
   have h:i<f.2.2.1.length:=by omega
   have q:A3 ((0:Int)<=(i:Int))=true:=by simp
   have e:z[i]'(by omega)=fP (s*2^f.1.toNat) f.2.1[i] f.2.2.1[i]:=by grind
   have d:-1<=s*Oq f.2.2.1[i]/\s*Oq f.2.2.1[i]<=1:=by
    rcases Lq f.2.2.1[i]with⟨-,k⟩|⟨-,k⟩|⟨-,k⟩<;>rw[k]<;>omega
   have m:zD .i64 (s*Oq f.2.2.1[i])=s*Oq f.2.2.1[i]:=Ae (by omega);have n:=rF t d;have o:GZ (EA (zD .i64 (f.2.1[i]+s*Oq f.2.2.1[i]*2^f.1.toNat)) (-1048576)) 1048576=z[i]'(by omega):=by
    rw[e,show s*Oq f.2.2.1[i]*2^f.1.toNat=Oq f.2.2.1[i]*(s*2^f.1.toNat)by grind];rfl
   have p:z.take i++[z[i]'(by omega)]=z.take (i+1):=by simp
   have r:(z.take i).length+1<1000000:=by grind
   simp only[DE,Cq j,Cq h,q,cT,A8,tN,PF j,PF h,cY,oB,u,c,decide_false,cF,AG r,m,n,o,B4,p,Aa (show i<1000000 by omega)])
  (by
   simp_all[C4,DE])
 simp_all
theorem a1Q(f:Xs):-1073741824<=Bh f/\Bh f<=1073741823:=Ym _
theorem a4l{f:Xs}(h:uE f)(x:Int):Iw (f,x)=some (Tv f x):=by
 unfold Iw;have m:=Ym x;have n:=a1Q f;have b:zD .i64 (Cw x-Bh f)=Cw x-Bh f:=Ae (by omega);have l:-1<=Oq (Cw x-Bh f)/\Oq (Cw x-Bh f)<=1:=by
  rcases Lq (Cw x-Bh f)with⟨-,g⟩|⟨-,g⟩|⟨-,g⟩<;>rw[g]<;>omega
 have d:Pz x=some (Cw x):=rfl;have o:=h.most;have k:=h.len;have a:=h.pos;have c:zD .i64 (((f.2.2.1.length:Nat):Int)-1)=((f.2.2.1.length-1:Nat):Int):=by grind[Ae]
 have e:A3 ((0:Int)<=((f.2.2.1.length-1:Nat):Int))=true:=by simp
 have i:A3 (((f.2.2.1.length-1:Nat):Int)<=((f.2.2.1.length:Nat):Int))=true:=by simp
 have j:([Cw x]:List Int).length+(f.2.2.1.take (f.2.2.1.length-1)).length<1000000:=by grind
 simp only[d,oB,SO h,b,cY,pE h l,List.length_nil,AG (show 0+1<1000000 by omega),cT,c,e,i,A8,tN,C3,B4,E2,AG j];rfl
abbrev RF:Type:=Int×(Int×Unit)
theorem NN{l:LI}(h:short l):Bi l=some l:=by
 have g:Bp (0+l.length)=true:=AG (by unfold short at h;omega);simp_all[Bi,WF]
def VO(s:RF):Xs:=(s.2.1,A6 s.1.toNat 0,A6 s.1.toNat 0,())
theorem a1R{s:RF}(h:tJ s=true):uE (VO s):=by
 simp[tJ]at h;refine⟨by rfl,by simp[VO];omega,by simp[VO];omega,⟨h.2.2.1,h.2.2.2⟩,fun x g=>?_⟩;simp_all[VO]
theorem SP{s:RF}(h:tJ s=true):ND s=some (VO s,0):=by
 have g:=h;simp[tJ]at g;unfold ND;have f:A3 ((0:Int)<=s.1)=true:=by grind
 have k:A3 (s.1<=s.1)=true:=by simp
 have a:Bp s.1.toNat=true:=AG (by omega);simp only[PE,h,oB,bT,cF,f,k,a,A8,cT];rfl
theorem RG{s:RF}(h:tJ s=true):KH s=some (VO s,0):=by
 have g:=h;simp[tJ]at g;unfold KH;have f:A3 ((0:Int)<=s.1)=true:=by grind
 have k:A3 (s.1<=s.1)=true:=by simp
 have a:Bp s.1.toNat=true:=AG (by omega);simp only[Oe,h,oB,bT,cF,f,k,a,A8,cT];rfl
def a2z:List Int->List Int->Xs->Option (List Int)
 | [],zF,_=>some zF
 |r::rs,zF,f=>bif Af (W (Bh f+r))then a2z rs (zF++[W (Bh f+r)]) (Tv f (W (Bh f+r)))else none
theorem SQ:∀(l zF:LI)(f:Xs){r},a2z l zF f=some r->r.length=zF.length+l.length
 | [],zF,f,r,h=>by simp_all[a2z]
 |x::l,zF,f,r,h=>by
  simp[a2z]at h;cases hw:Af (W (Bh f+x))with
  |true=>rw[hw]at h;rw[SQ l _ _ h];grind
  |false=>simp_all
theorem RH{zF g:LI}{i:Nat}(f:zF.length=i)(h:i<g.length):J2 (zF++g.drop i) i 0=g[i]:=by
 grind
theorem kO{zF g:LI}{i:Nat}(f:zF.length=i)(h:i<g.length)(y:Int):(zF++g.drop i).set i y=(zF++[y])++g.drop (i+1):=by
 rw[H2 _ _ (by omega),f,F3,A4 h,F8,aA];rfl
theorem Tw{g b4:LI}{b5:Int}(m:short g):∀(k i:Nat)(zF:LI)(f:Xs),i+k=g.length->zF.length=i->uE f->
  ∃z,Al HA ((g.length:Int),(i:Int),b4,b5,zF++g.drop i,f,())=some z/\
   match a2z (g.drop i) zF f with
   |some r=>z=.inl (b4,b5,r,())
   |none=>∃q,z=.inr (([]:List Int),(6:Int),q,())
 |0,i,zF,f,h,d,c=>by
  obtain rfl:i=g.length:=by omega
  rw[E1,F2];exact⟨_,Ag (b:=B7 (b4,b5,zF,())) (by simp[HA]),rfl⟩
 |k+1,i,zF,f,h,d,c=>by
  have a:i<g.length:=by omega
  have n:g.length<1000000:=m;have j:A3 ((0:Int)<=(i:Int))=true:=by simp
  have o:(zF++g.drop i).length=g.length:=by grind
  have l:A3 ((i:Int)<(((zF++g.drop i).length:Nat):Int))=true:=by simp_all
  have e:a2z (g.drop i) zF f=bif Af (W (Bh f+g[i]))then a2z (g.drop (i+1)) (zF++[W (Bh f+g[i])]) (Tv f (W (Bh f+g[i])))else none:=by
   rw[A4 a];rfl
  rw[e];cases hw:Af (W (Bh f+g[i]))with
  |true=>
   rw[Ai (s':=((g.length:Int),((i+1:Nat):Int),b4,b5,(zF++[W (Bh f+g[i])])++g.drop (i+1),Tv f (W (Bh f+g[i])),())) (by
    simp only[HA,Cq a,j,l,cT,A8,IV c,oB,tN,RH d a,HU,hw,bT,cF,Wa c,kO d a,Aa (show i<1000000 by omega)])]
   exact Tw m k (i+1) _ _ (by omega) (by simp_all) (kM c _)
  |false=>
   exact⟨_,Ag (b:=B9 (([]:List Int),(6:Int),zF++g.drop i,())) (by
    simp only[HA,Cq a,j,l,cT,A8,IV c,oB,tN,RH d a,HU,hw,D1]),_,rfl⟩
theorem Wb{g:LI}{st:List RF}{n:Int}(j:short g):∀(k i:Nat)(zF:LI)(f:Xs),i+k=g.length->zF.length=i->uE f->
  Al ES (st,n,(i:Int),zF++g.drop i,f,())=some (match a2z (g.drop i) zF f with
   |some r=>.inl (st,n,r,())
   |none=>.inr ((6:Int),([]:List Int),()))
 |0,i,zF,f,h,a,c=>by
  obtain rfl:i=g.length:=by omega
  rw[E1,F2];have p:zF.length=g.length:=a;exact Ag (b:=B7 (st,n,zF,())) (by simp_all[ES])
 |k+1,i,zF,f,h,a,c=>by
  have d:i<g.length:=by omega
  have q:g.length<1000000:=j;have l:A3 ((0:Int)<=(i:Int))=true:=by simp
  have p:(zF++g.drop i).length=g.length:=by grind
  have m:A3 ((i:Int)<(((zF++g.drop i).length:Nat):Int))=true:=by simp_all
  have e:a2z (g.drop i) zF f=bif Af (W (Bh f+g[i]))then a2z (g.drop (i+1)) (zF++[W (Bh f+g[i])]) (Tv f (W (Bh f+g[i])))else none:=by
   rw[A4 d];rfl
  have o:zD .i64 (g[i]+Bh f)=W (Bh f+g[i]):=by grind
  rw[e];cases hw:Af (W (Bh f+g[i]))with
  |true=>
   rw[Ai (s':=(st,n,((i+1:Nat):Int),(zF++[W (Bh f+g[i])])++g.drop (i+1),Tv f (W (Bh f+g[i])),())) (by
    simp only[ES,l,m,cT,A8,SO c,oB,tN,RH a d,o,DG,hw,bT,cF,a4l c,kO a d,Aa (show i<1000000 by omega)])]
   exact Wb j k (i+1) _ _ (by omega) (by simp_all) (kM c _)
  |false=>
   exact Ag (by
    simp_all[ES,SO,DG])
def lO:List RF->List Int->Option (List Int)
 | [],row=>some row
 |s::r,row=>match a2z row [] (VO s)with
  |some row'=>lO r row'
  |none=>none
theorem a4m{st:List RF}{s:RF}{k:Int}{b4:LI}{g:LI}(h:tJ s=true)(c:short g):
  ∃z,Ku k s (st,b4,(0:Int),g,())=some z/\match a2z g [] (VO s)with
   |some r=>z=.inl (st,b4,(0:Int),r,())
   |none=>∃q,z=.inr (.ret,st,([]:List Int),(6:Int),q,()):=by
 obtain⟨z,f,a⟩:=Tw (b4:=b4) (b5:=0) c g.length 0 [] (VO s) (by omega) rfl (a1R h);simp at f a;unfold Ku;have b:((0:Int) != 0)=false:=rfl;simp[SP h,f];cases hst:a2z g [] (VO s)with
 |some r=>
  simp_all
 |none=>
  grind
theorem cZ{st l:List RF}{b4:LI}(a:∀s∈l,tJ s=true):∀(n:Nat)(h:LI),n<=l.length->short h->
  ∃z,Pv Ku l n (st,b4,(0:Int),h,())=some z/\match lO (l.take n).reverse h with
   |some r=>z=.inl (st,b4,(0:Int),r,())
   |none=>∃q,z=.inr (.ret,st,([]:List Int),(6:Int),q,())
 |0,h,_,_=>⟨_,rfl,rfl⟩
 |n+1,h,e,b=>by
  have g:n<l.length:=by omega
  obtain⟨z,c,f⟩:=a4m (st:=st) (k:=(n:Int)) (b4:=b4) (a _ (A9 g)) b;have d:(l.take (n+1)).reverse=l[n]::(l.take n).reverse:=by simp
  simp[Pv,lG g,c,d,lO];cases hst:a2z h [] (VO l[n])with
  |some r=>
   rw[hst]at f;simp at f;subst f;exact cZ a n r (by omega) (by have:=SQ _ _ _ hst;unfold short at b|-;simp_all)
  |none=>
   grind
def Rc(zG:List Int)(st:List RF):Option (List Int):=bif zG.all Af then lO st.reverse zG else none
theorem pF{zG:LI}{st:List RF}(a:My st=true)(c:zG.length<100000):Oz (zG,st)=some (KR (Rc zG st)):=by
 have f:=a;simp only[My,EV,dT]at f;have k:short st:=by unfold short;omega
 have h:short zG:=by unfold short;omega
 unfold Oz;simp only[SL k,a,oB,bT,cF,RD h,Rc];cases hw:zG.all Af with
 |false=>rfl
 |true=>
  obtain⟨z,b,g⟩:=cZ (st:=st) (b4:=[]) (lA.1 f.2) st.length zG (D9 _) h;rw[C1]at g;simp[NN h,AG k,b];cases hst:lO st.reverse zG with
  |some r=>
   rw[hst]at g;simp at g;subst g;rfl
  |none=>
   rw[hst]at g;obtain⟨q,rfl⟩:=g;rfl
theorem kP{l:List RF}(b:∀s∈l,tJ s=true)(f:l.length<=3):∀(n:Nat)(h:LI),n<=l.length->short h->
  Al Hr (l,(n:Int)-1,h,())=some (match lO (l.take n).reverse h with
   |some r=>.inl (r,())
   |none=>.inr ((6:Int),([]:List Int),()))
 |0,h,_,_=>Ag (by rfl)
 |n+1,h,m,c=>by
  have k:n<l.length:=by omega
  have g:=b _ (A9 k);have a:=Wb (st:=l) (n:=(n:Int)) c h.length 0 [] (VO l[n]) (by omega) rfl (a1R g);simp at a;have e:(l.take (n+1)).reverse=l[n]::(l.take n).reverse:=by simp
  have d:((n+1:Nat):Int)-1=(n:Int):=by omega
  have j:A3 ((n:Int)>=0)=true:=by simp
  have i:zD .i64 ((n:Int)-1)=(n:Int)-1:=Ae (by omega);rw[e,d];simp[lO];cases hst:a2z h [] (VO l[n])with
  |some r=>
   rw[hst]at a;rw[Ai (s':=(l,(n:Int)-1,r,())) (by simp_all[Hr,Ac,RG])];exact kP b f n r (by omega) (by have:=SQ _ _ _ hst;unfold short at c|-;simp_all)
  |none=>
   simp_all[Ag,Hr,Ac,RG]
theorem ZR{zG:LI}{st:List RF}(a:My st=true)(c:zG.length<100000):KI (zG,st)=some (KR (Rc zG st)):=by
 have h:=a;simp only[My,EV,dT]at h;have f:short st:=by unfold short;omega
 have g:short zG:=by unfold short;omega
 unfold KI;simp only[Tt f,a,oB,bT,cF,Co g,Rc];cases hw:zG.all Af with
 |false=>rfl
 |true=>
  have k:=kP (lA.1 h.2) h.1 st.length zG (D9 _) g;rw[C1]at k;have b:zD .i64 (((st.length:Nat):Int)-1)=((st.length:Nat):Int)-1:=Ae (by omega);simp only[bT,cF,cT,AG (show 0+zG.length<1000000 by omega),b,B4,E2,k,oB];cases lO st.reverse zG<;>rfl
def Of(n sH:Int):Bool:=A3 (1<=n)&&(A3 (n<=4096)&&(A3 (0<=sH)&&A3 (sH<=n)))
theorem SR(n sH:Int):Lg (n,sH)=some (Of n sH):=by
 grind[Lg,Of]
theorem a7e(n sH:Int):Yd (n,sH)=some (Of n sH):=by
 grind[Yd,Of]
theorem b8E{o:Nat}(h:o<=8):1<=2^o/\2^o<=256:=by
 have:o=0\/o=1\/o=2\/o=3\/o=4\/o=5\/o=6\/o=7\/o=8:=by omega
 grind
theorem Yn{N o:Nat}(h:o<=64):AR .i64 (N:Int) (o:Int)=((N / 2^o:Nat):Int):=by
 unfold AR;show K0 (N:Int) (2^(min (o:Int).toNat 64))=_;grind
theorem Yo{N o:Nat}(h:o<=64)(g:N*2^o<9223372036854775808):AT .i64 (N:Int) (o:Int)=((N*2^o:Nat):Int):=by
 unfold AT;show zD .i64 ((N:Int)*2^(min (o:Int).toNat 64))=_;grind[Ae]
def SS(o N:Nat)(sH:Int):List Int:=
 if N%2^o=0/\sH<=((N / 2^o:Nat):Int)then(((N / 2^o:Nat):Int)-sH)::A6 (2^o-1) ((N / 2^o:Nat):Int)else[]
def CH(order n sH:Int):List Int:=bif Of n sH&&(A3 (0<=order)&&A3 (order<=8))then SS order.toNat n.toNat sH else[]
theorem CY(order n sH:Int):Ez (order,n,sH)=some (CH order n sH):=by
 unfold Ez CH;simp only[SR,oB];cases hr:Of n sH with
 |false=>rfl
 |true=>
  simp[Of]at hr;simp only[bT,cF,C7];by_cases h1:order<0;grind;by_cases h2:order > 8;grind;obtain⟨o,rfl⟩:=A7 (show 0<=order by omega);obtain⟨N,rfl⟩:=A7 (show 0<=n by omega);have p:o<=8:=by omega
  have q:N<=4096:=by omega
  have t:=b8E p;have m:N / 2^o*2^o<=N:=Nat.div_mul_le_self N _;have l:(0:Int)<=(o:Int):=by omega
  have g8:(o:Int)<=8:=by omega
  simp only[h1,h2,l,g8,decide_true,decide_false,cF,cT,A8,oB,Yn (N:=N) (show o<=64 by omega),Yo (N:=N / 2^o) (show o<=64 by omega) (by omega),tN];have g:=G8 N (2^o);rw[G6]at g;by_cases hm:N%2^o=0;have k:(((N / 2^o*2^o:Nat):Int) != (N:Int))=false:=by simp_all
  by_cases hw:sH<=((N / 2^o:Nat):Int);have c:A3 (((N / 2^o:Nat):Int)<sH)=false:=decide_eq_false (Int.not_lt.2 hw);have e:zD .i64 (((N / 2^o:Nat):Int)-sH)=((N / 2^o:Nat):Int)-sH:=Ae (by have:=C0 N (2^o);omega);simp only[k,c,e,cF,oB,SS,hm,hw,and_self,if_true];have d:AT .i64 (1:Int) (o:Int)=((2^o:Nat):Int):=by have:=Yo (N:=1) (show o<=64 by omega) (by omega);simp_all
  have:=Bz (f:=Jj) (fun i=>((o:Int),((N / 2^o:Nat):Int),(((N / 2^o:Nat):Int)-sH)::A6 i ((N / 2^o:Nat):Int),())) (2^o-1)
   (b:=((((N / 2^o:Nat):Int)-sH)::A6 (2^o-1) ((N / 2^o:Nat):Int),())) (fun i r=>by
    have a:A3 ((((((N / 2^o:Nat):Int)-sH)::A6 i ((N / 2^o:Nat):Int)).length:Int)<((2^o:Nat):Int))=true:=by
     grind
    have h:Bp (((((N / 2^o:Nat):Int)-sH)::A6 i ((N / 2^o:Nat):Int)).length+1)=true:=AG (by grind);have j:A6 i ((N / 2^o:Nat):Int)++[((N / 2^o:Nat):Int)]=A6 (i+1) ((N / 2^o:Nat):Int):=by grind[D7]
    simp only[Jj,h1,decide_false,cF,d,a,cT,h,B4,J4,j])
   (by
    have a:A3 ((((((N / 2^o:Nat):Int)-sH)::A6 (2^o-1) ((N / 2^o:Nat):Int)).length:Int)<((2^o:Nat):Int))=false:=by
     simp_all
    simp only[Jj,h1,decide_false,cF,d,a])
  simp_all;have c:A3 (((N / 2^o:Nat):Int)<sH)=true:=decide_eq_true (Int.not_le.1 hw);simp_all[SS];have k:(((N / 2^o*2^o:Nat):Int) != (N:Int))=true:=by grind
  simp only[k,cT,oB,SS,hm,false_and,if_false]
theorem MA(order n sH:Int):Fk (order,n,sH)=some (CH order n sH):=by
 unfold Fk CH;simp only[a7e,oB];cases hr:Of n sH with
 |false=>rfl
 |true=>
  simp[Of]at hr;simp only[bT,cF,C7];by_cases h1:order<0;grind;by_cases h2:order > 8;grind;obtain⟨o,rfl⟩:=A7 (show 0<=order by omega);obtain⟨N,rfl⟩:=A7 (show 0<=n by omega);have l:o<=8:=by omega
  have t:N<=4096:=by omega
  have w:=b8E l;have j:(0:Int)<=(o:Int):=by omega
  have g8:(o:Int)<=8:=by omega
  have c:zD .u64 (o:Int)=(o:Int):=Aw (by omega);have a:AT .i64 (1:Int) (o:Int)=((2^o:Nat):Int):=by have:=Yo (N:=1) (show o<=64 by omega) (by omega);simp_all
  have p:(((2^o:Nat):Int)==0)=false:=by grind
  have m:G3 (N:Int) ((2^o:Nat):Int)=((N%2^o:Nat):Int):=by rfl
  simp only[h1,h2,j,g8,decide_true,decide_false,cF,cT,A8,c,a,p,m,Yn (N:=N) (show o<=64 by omega),tN];by_cases hm:N%2^o=0;have g:(((0:Nat):Int) != 0)=false:=rfl;by_cases hw:sH<=((N / 2^o:Nat):Int);have d:A3 (((N / 2^o:Nat):Int)<sH)=false:=decide_eq_false (Int.not_lt.2 hw);have r:zD .i64 (((N / 2^o:Nat):Int)-sH)=((N / 2^o:Nat):Int)-sH:=Ae (by have:=C0 N (2^o);omega);simp only[g,d,cF,oB,SS,hm,hw,and_self,if_true]
  have:=Bz (f:=Hp) (fun i=>((o:Int),(N:Int),sH,(i:Int),A6 i ((N / 2^o:Nat):Int),())) (2^o)
   (b:=(sH,A6 (2^o) ((N / 2^o:Nat):Int),())) (fun i u=>by
    have k:A3 ((i:Int)<((2^o:Nat):Int))=true:=by grind
    have h:Bp ((A6 i ((N / 2^o:Nat):Int)).length+1)=true:=AG (by grind);have e:A6 i ((N / 2^o:Nat):Int)++[((N / 2^o:Nat):Int)]=A6 (i+1) ((N / 2^o:Nat):Int):=by grind[D7]
    simp only[Hp,c,h1,decide_false,cF,a,k,cT,h,Yn (N:=N) (show o<=64 by omega),B4,e,Aa (show i<1000000 by omega)])
   (by
    have k:A3 (((2^o:Nat):Int)<((2^o:Nat):Int))=false:=by simp
    simp only[Hp,c,h1,decide_false,cF,a,k])
  simp only[nZ,List.replicate_zero]at this;have v:A3 ((0:Int)<(((A6 (2^o) ((N / 2^o:Nat):Int)).length:Nat):Int))=true:=by grind
  obtain⟨q,x⟩:∃q,2^o=q+1:=⟨2^o-1,by omega⟩;grind;have d:A3 (((N / 2^o:Nat):Int)<sH)=true:=decide_eq_true (Int.not_le.1 hw);simp_all[SS];have g:(((N%2^o:Nat):Int) != 0)=true:=by grind
  simp only[g,cT,oB,SS,hm,false_and,if_false]
abbrev Vq:Type:=Int×((List Int)×Unit)
def kB(k:Int):Bool:=(A3 (0<=k)&&A3 (k<=25)) || (k==31)
def Hu(p:Vq)(n sH:Int):Bool:=!((CH p.1 n sH).length==0)&&((CH p.1 n sH).length==p.2.1.length&&p.2.1.all kB)
theorem OQ{p:Vq}{n sH:Int}(k:short p.2.1):NC (p,n,sH)=some (Hu p n sH):=by
 have:=Cb (f:=Gq) p.2.1 (fun i=>(p.2.1,(p.2.1.length:Int),(i:Int),())) kB (bt:=B7 ()) (bf:=B9 (false,()))
  (fun i h g=>by
   simp[kB]at g;by_cases h1:p.2.1[i]<0;omega;by_cases h2:p.2.1[i] > 25;have c:p.2.1[i]=31:=by omega
   have b:(p.2.1[i] != 31)=false:=by simp_all
   simp[Gq,Ac h,h,h1,h2,b,Aa (B6 h k)];simp[Gq,Ac h,h,h1,h2,Aa (B6 h k)])
  (fun i h g=>by
   have g:¬ (kB p.2.1[i]=true):=by simp_all
   simp only[kB,G9,EV,dT,beq_iff_eq]at g;grind[Gq,Ac])
  (by simp[Gq])
 simp at this;unfold NC Hu;simp[CY];by_cases h0:(CH p.1 n sH).length=0;simp_all
 ·have e:((((CH p.1 n sH).length:Nat):Int)==0)=false:=by simp_all
  have a:((CH p.1 n sH).length==0)=false:=by simp_all
  simp[e,a];by_cases h1:(CH p.1 n sH).length=p.2.1.length;all_goals grind
theorem Og{p:Vq}{n sH:Int}(a:short p.2.1):HT (p,n,sH)=some (Hu p n sH):=by
 have g:∀k:Int,DC k=some (A3 (0<=k)&&A3 (k<=25)):=fun k=>by
  grind[DC]
 have:=Cb (f:=ED) p.2.1 (fun i=>((i:Int),p,())) kB (bt:=B7 ()) (bf:=B9 (false,()))
  (fun i h b=>by
   simp only[kB,G9]at b;cases hc:(A3 (0<=p.2.1[i])&&A3 (p.2.1[i]<=25))with
   |true=>simp[ED,Ac h,h,g,hc,Aa (B6 h a)]
   |false=>
    have j:p.2.1[i]=31:=by simp_all
    have d:(p.2.1[i] != 31)=false:=by simp_all
    simp[ED,Ac h,h,g,hc,d,Aa (B6 h a)])
  (fun i h b=>by
   grind[kB,ED,Ac])
  (by simp[ED])
 simp at this;unfold HT Hu;simp[MA];by_cases h0:(CH p.1 n sH).length=0;simp_all
 ·have e:((((CH p.1 n sH).length:Nat):Int)==0)=false:=by simp_all
  have c:((CH p.1 n sH).length==0)=false:=by simp_all
  simp[e,c];by_cases h1:(CH p.1 n sH).length=p.2.1.length;all_goals grind
abbrev BS:Type:=Int×(Int×(Int×(Int×(Int×((List Int)×((List Int)×((List RF)×((List Int)×(Vq×((List Int)×Unit))))))))))
structure sN (s:BS):Prop where
 uL:s.2.2.2.2.2.1.length<=40
 taps:s.2.2.2.2.2.2.1.length=3
 stages:s.2.2.2.2.2.2.2.1.length<=6
 sH:s.2.2.2.2.2.2.2.2.1.length<=5000
 rest:s.2.2.2.2.2.2.2.2.2.2.1.length<=5000
 ks:s.2.2.2.2.2.2.2.2.2.1.2.1.length<=300
theorem RI(x y:LI):nE (.arr 3 (.int .i64)) x y=A3 (x=y):=by
 show((C6 (fun(a b:Int)=>a==b) x y).all id&&x.length==y.length)=_
 induction x generalizing y with
 |nil=>cases y<;>simp
 |cons a x h=>
  cases y with
  |nil=>simp
  |cons b y=>
   grind[List.zipWith_cons_cons]
theorem SU{l:LI}(h:short l):CR l=some l:=NN h
theorem dF{l:List RF}(h:short l):Bv l=some l:=by
 have g:Bp (0+l.length)=true:=AG (by unfold short at h;omega);simp_all[Bv,WF]
def LA(k:Int)(s:BS)(n:Int):Prop:=
 k=0\/k=1\/(k=2/\0<=s.2.2.1/\s.2.2.1<=4/\s.2.2.1<=n)\/(k=3/\Rb s.2.2.2.2.2.1 s.2.2.2.1=true/\(s.2.2.2.2.2.1.length:Int)<=n)\/
  (k=4/\Rb s.2.2.2.2.2.1 s.2.2.2.1=true/\(s.2.2.2.2.2.1.length:Int)<=n/\Qw s.2.2.2.2.1 s.2.2.2.2.2.2.1=true)\/
  (k=5/\0<s.2.2.2.2.2.2.2.1.length/\My s.2.2.2.2.2.2.2.1=true)
open Classical in
def kQ (k:Int) (s:BS) (n:Int):Bool:=decide (LA k s n)
theorem ZS{s:BS}(h:sN s)(k n:Int):MW (k,s,n)=some (kQ k s n):=by
 have a:short s.2.2.2.2.2.1:=by have:=h.uL;unfold short;omega
 have b:short s.2.2.2.2.2.2.2.1:=by have:=h.stages;unfold short;omega
 unfold MW kQ LA;by_cases k0:k=0;simp_all;by_cases k1:k=1;simp_all;have g:(k==0)=false:=by grind
 have f:(k==1)=false:=by grind
 simp only[g,f,cF,oB];by_cases k2:k=2;subst k2;grind;by_cases k3:k=3;subst k3;grind[Ns];by_cases k4:k=4;subst k4;cases hl:Rb s.2.2.2.2.2.1 s.2.2.2.1<;>by_cases h2:(s.2.2.2.2.2.1.length:Int)<=n<;>simp[Ns a,Uy h.taps,hl,h2];by_cases k5:k=5
 ·subst k5;by_cases h1:0<s.2.2.2.2.2.2.2.1.length;all_goals simp_all[SL]
 grind
def BM(s:BS)(n:Int):Int:=if s.1=0 then 1 else if s.1=1 then n else if s.1=2 then s.2.2.1 else if s.1=3\/s.1=4 then(s.2.2.2.2.2.1.length:Int)else 0
theorem RJ(s:BS)(n:Int):Hg (s,n)=some (BM s n):=by
 grind[Hg,BM]
def UD(s:BS):Prop:=
 (s.1≠2->s.2.2.1=0)/\(s.1≠3/\s.1≠4->s.2.2.2.1=0)/\(s.1≠4->s.2.2.2.2.1=0)/\(s.1≠4->s.2.2.2.2.2.2.1=[0,0,0])/\(s.1≠3/\s.1≠4->s.2.2.2.2.2.1=[])/\(s.1≠5->s.2.2.2.2.2.2.2.1=[])
open Classical in
def ZT (s:BS):Bool:=decide (UD s)
theorem PG{c x:Bool}:(bif c then some x else some false)=some (c&&x):=by grind
theorem c2c{α:Type}(l:List α):(((l.length:Nat):Int)==0)=A3 (l=[]):=by
 cases l with
 |nil=>rfl
 |cons a l=>rfl
theorem b0u(x:Int):(x==0)=A3 (x=0):=rfl
theorem a4n{s:BS}(h:sN s):PV s=some (ZT s):=by
 have e:short s.2.2.2.2.2.1:=by have:=h.uL;unfold short;omega
 have g:short s.2.2.2.2.2.2.2.1:=by have:=h.stages;unfold short;omega
 obtain⟨k,w,o,l,j,c,t,m,n,p,r,u⟩:=s;simp only at e g;unfold PV Jk ZT UD;have i:(A6 3 (0:Int))=[0,0,0]:=rfl;by_cases k2:k=2;simp_all[RI,PG,b0u];by_cases k4:k=4;simp_all[RI,PG,b0u,SU];by_cases k3:k=3;simp_all[RI,PG,b0u,SU];by_cases k5:k=5;simp_all[RI,PG,b0u,dF];have f:(k==2)=false:=by grind
 have a:(k==3)=false:=by grind
 have b:(k==4)=false:=by grind
 have d:(k==5)=false:=by grind
 simp[f,a,b,d,k2,k3,k4,k5,RI,i,PG,c2c,b0u]
theorem Lr(k:Int):Ji k=some (A3 (k≠0/\k≠1)):=by
 unfold Ji;by_cases h0:k=0;simp_all
 ·by_cases h1:k=1;all_goals grind
def BW(s:BS)(n:Int):Prop:=
 1<=n/\n<=4096/\LA s.1 s n/\UD s/\0<=s.2.1/\s.2.1<=30/\(s.1=0->s.2.1=0)/\(s.2.2.2.2.2.2.2.2.1.length:Int)=BM s n/\s.2.2.2.2.2.2.2.2.1.all Af=true/\s.2.2.2.2.2.2.2.2.2.2.1.all Af=true/\
  (s.1=0\/s.1=1->s.2.2.2.2.2.2.2.2.2.2.1=[]/\s.2.2.2.2.2.2.2.2.2.1.1=0/\s.2.2.2.2.2.2.2.2.2.1.2.1=[])/\
  (s.1≠0/\s.1≠1->(s.2.2.2.2.2.2.2.2.2.2.1.length:Int)=n-BM s n/\Hu s.2.2.2.2.2.2.2.2.2.1 n (BM s n)=true)
theorem dG{s:BS}(h:sN s){n:Int}(a:1<=n)(b:n<=4096)(f:LA s.1 s n):0<=BM s n/\BM s n<=4096:=by
 have c:=h.uL;unfold BM;rcases f with k|k|⟨k,g⟩|⟨k,g⟩|⟨k,g⟩|⟨k,g⟩<;>simp[k]<;>omega
open Classical in
theorem b0v {s:BS} (h:sN s) (n:Int):Ox (s,n)=some (decide (BW s n)):=by
 have hw:short s.2.2.2.2.2.2.2.2.1:=by have:=h.sH;unfold short;omega
 have hr:short s.2.2.2.2.2.2.2.2.2.2.1:=by have:=h.rest;unfold short;omega
 have hk:short s.2.2.2.2.2.2.2.2.2.1.2.1:=by have:=h.ks;unfold short;omega
 unfold Ox
 by_cases h1:1<=n
 rotate_left
 ·have e1:decide (n<1)=true:=by simp_all
  have:¬ BW s n:=fun hp=>h1 hp.1
  simp_all
 have e1:decide (n<1)=false:=by simp_all
 by_cases h2:n<=4096
 rotate_left
 ·have e2:decide (n > 4096)=true:=by simp_all
  have:¬ BW s n:=fun hp=>h2 hp.2.1
  simp_all
 have e2:decide (n > 4096)=false:=by simp_all
 by_cases h3:LA s.1 s n
 rotate_left
 ·have e3:kQ s.1 s n=false:=by simp[kQ,h3]
  have:¬ BW s n:=fun hp=>h3 hp.2.2.1
  simp_all[ZS]
 have e3:kQ s.1 s n=true:=by simp[kQ,h3]
 by_cases h4:UD s
 rotate_left
 ·have e4:ZT s=false:=by simp[ZT,h4]
  have:¬ BW s n:=fun hp=>h4 hp.2.2.2.1
  simp_all[ZS,a4n]
 have e4:ZT s=true:=by simp[ZT,h4]
 simp only[e1,e2,ZS h,e3,a4n h,e4,cF,bT,oB]
 by_cases h5:0<=s.2.1
 rotate_left
 ·have e5:decide (s.2.1<0)=true:=by simp_all
  have:¬ BW s n:=fun hp=>h5 hp.2.2.2.2.1
  simp_all
 have e5:decide (s.2.1<0)=false:=by simp_all
 by_cases h6:s.2.1<=30
 rotate_left
 ·have e6:decide (s.2.1 > 30)=true:=by simp_all
  have:¬ BW s n:=fun hp=>h6 hp.2.2.2.2.2.1
  simp_all
 have e6:decide (s.2.1 > 30)=false:=by simp_all
 simp only[e5,e6,cF]
 by_cases h7:s.1=0->s.2.1=0
 rotate_left
 ·have h7a:s.1=0:=Classical.byContradiction fun hc=>h7 fun e=>absurd e hc
  have h7b:(s.2.1 != 0)=true:=by
   simp_all
  have e7:(s.1==0)=true:=by simp_all
  have:¬ BW s n:=fun hp=>h7 hp.2.2.2.2.2.2.1
  grind
 have e7:(bif s.1==0 then some (n,(s.2.1 != 0,(s,())))else some (n,(false,(s,()))))=some (n,(false,(s,()))):=by
  grind
 simp only[e7,oB,cF,RJ]
 by_cases h8:(s.2.2.2.2.2.2.2.2.1.length:Int)=BM s n
 rotate_left
 ·have e8:(((s.2.2.2.2.2.2.2.2.1.length:Nat):Int) != BM s n)=true:=by simp_all
  have:¬ BW s n:=fun hp=>h8 hp.2.2.2.2.2.2.2.1
  grind
 have e8:(((s.2.2.2.2.2.2.2.2.1.length:Nat):Int) != BM s n)=false:=by simp_all
 simp only[e8,cF,GJ hw,GJ hr,oB]
 cases h9:s.2.2.2.2.2.2.2.2.1.all Af with
 |false=>
  have:¬ BW s n:=fun hp=>by rw[hp.2.2.2.2.2.2.2.2.1]at h9;grind
  simp_all
 |true=>
  cases h10:s.2.2.2.2.2.2.2.2.2.2.1.all Af with
  |false=>
   have:¬ BW s n:=fun hp=>by rw[hp.2.2.2.2.2.2.2.2.2.1]at h10;grind
   simp_all
  |true=>
   simp only[bT,cF,oB,Lr]
   have hwr:=dG h h1 h2 h3
   by_cases k01:s.1≠0/\s.1≠1
   ·have e11:zD .i64 (n-BM s n)=n-BM s n:=Ae (by omega)
    simp[k01,e11,OQ hk]
    by_cases h11:(s.2.2.2.2.2.2.2.2.2.2.1.length:Int)=n-BM s n
    ·have e12:(((s.2.2.2.2.2.2.2.2.2.2.1.length:Nat):Int)==n-BM s n)=true:=by simp_all
     simp only[e12,cT]
     congr 1
     rw[K1,dT]
     constructor
     ·intro hp
      exact⟨h1,h2,h3,h4,h5,h6,h7,h8,h9,h10,fun hc=>absurd hc (by omega),fun _=>⟨h11,hp⟩⟩
     ·intro hp;exact(hp.2.2.2.2.2.2.2.2.2.2.2 k01).2
    ·have e12:(((s.2.2.2.2.2.2.2.2.2.2.1.length:Nat):Int)==n-BM s n)=false:=by simp_all
     have:¬ BW s n:=fun hp=>h11 (hp.2.2.2.2.2.2.2.2.2.2.2 k01).1
     grind
   ·have k01':s.1=0\/s.1=1:=by omega
    simp[k01,c2c]
    simp only[b0u,PG]
    congr 1
    rw[K1,dT]
    simp
    constructor
    ·rintro⟨g1,g2,g3⟩
     exact⟨h1,h2,h3,h4,h5,h6,h7,h8,h9,h10,fun _=>⟨g1,g2,g3⟩,fun hc=>absurd hc k01⟩
    ·intro hp;exact hp.2.2.2.2.2.2.2.2.2.2.1 k01'
theorem WV{α:Type}[DecidableEq α](q:α->α->Bool)(hq:∀a b,q a b=A3 (a=b)):∀(x y:List α),x.length=y.length->((x.zip y).all fun p=>q p.1 p.2)=A3 (x=y)
 | [],[],_=>by simp
 |a::x,b::y,h=>by
  have g:=WV q hq x y (by simp_all);simp_all
theorem NO{x y:LI}(h:short x):CN (x,y)=some (A3 (x=y)):=by
 unfold CN;by_cases hl:x.length=y.length;have e:(((x.length:Nat):Int) != ((y.length:Nat):Int))=false:=by simp_all
 have m:(x.zip y).length=x.length:=by simp_all
 have:=Cb (f:=GB) (x.zip y) (fun i=>(x,y,(i:Int),())) (fun p=>p.1==p.2) (bt:=B7 ()) (bf:=B9 (false,()))
  (fun i j c=>by
   have k:i<x.length:=by omega
   have d:i<y.length:=by omega
   rw[F0]at c;have c:x[i]=y[i]:=by simp_all
   have g:(x[i] != y[i])=false:=by simp_all
   simp only[GB,Cq k,cT,Ac k,Ac d,oB,g,cF,Aa (B6 k h)])
  (fun i j c=>by
   have k:i<x.length:=by omega
   have d:i<y.length:=by omega
   rw[F0]at c;have g:(x[i] != y[i])=true:=by simp_all
   simp only[GB,Cq k,cT,Ac k,Ac d,oB,g])
  (by simp_all[GB])
 simp at this;simp only[e,cF,this,WV (fun(a b:Int)=>a==b) (fun _ _=>rfl) x y hl];grind;have e:(((x.length:Nat):Int) != ((y.length:Nat):Int))=true:=by grind
 have:¬ x=y:=fun l=>hl (by grind)
 grind
theorem pG{x y:List RF}(h:short x):JA (x,y)=some (A3 (x=y)):=by
 have k:∀a b:RF,nE (.pair (.int .i64) (.pair (.int .i64) .unit)) a b=A3 (a=b):=by
  rintro⟨a1,a2,⟨⟩⟩ ⟨b1,b2,⟨⟩⟩;show((a1==b1)&&((a2==b2)&&true))=_;grind
 unfold JA;by_cases hl:x.length=y.length;have e:(((x.length:Nat):Int) != ((y.length:Nat):Int))=false:=by simp_all
 have m:(x.zip y).length=x.length:=by simp_all
 have:=Cb (f:=Ef) (x.zip y) (fun i=>(x,y,(i:Int),())) (fun p=>A3 (p.1=p.2)) (bt:=B7 ()) (bf:=B9 (false,()))
  (fun i j c=>by
   have g:i<x.length:=by omega
   have d:i<y.length:=by omega
   rw[F0]at c;simp only[Ef,Cq g,cT,Ac g,Ac d,oB,k,c,bT,cF,Aa (B6 g h)])
  (fun i j c=>by
   have g:i<x.length:=by omega
   have d:i<y.length:=by omega
   rw[F0]at c;simp only[Ef,Cq g,cT,Ac g,Ac d,oB,k,c,D1])
  (by simp_all[Ef])
 simp at this;simp only[e,cF,this,WV (fun(a b:RF)=>A3 (a=b)) (fun _ _=>rfl) x y hl];grind;have e:(((x.length:Nat):Int) != ((y.length:Nat):Int))=true:=by grind
 have:¬ x=y:=fun l=>hl (by grind)
 grind
open Classical in
theorem a7f {a b:BS} (h:sN a):Nk (a,b)=some (decide (a=b)):=by
 have hc:short a.2.2.2.2.2.1:=by have:=h.uL;unfold short;omega
 have hst:short a.2.2.2.2.2.2.2.1:=by have:=h.stages;unfold short;omega
 have hw:short a.2.2.2.2.2.2.2.2.1:=by have:=h.sH;unfold short;omega
 have hr:short a.2.2.2.2.2.2.2.2.2.2.1:=by have:=h.rest;unfold short;omega
 have hk:short a.2.2.2.2.2.2.2.2.2.1.2.1:=by have:=h.ks;unfold short;omega
 unfold Nk Py
 simp only[NO hc,NO hw,NO hr,NO hk,pG hst,RI,oB,PG]
 congr 1
 grind
def WW(s:BS):BS:=
 let z:List Int:=A6 3 0
 if s.1=0 then(0,0,0,0,0,[],z,[],s.2.2.2.2.2.2.2.2.1,(0,[],()),[],())
 else if s.1=1 then(1,s.2.1,0,0,0,[],z,[],s.2.2.2.2.2.2.2.2.1,(0,[],()),[],())
 else if s.1=2 then(2,s.2.1,s.2.2.1,0,0,[],z,[],s.2.2.2.2.2.2.2.2.1,s.2.2.2.2.2.2.2.2.2.1,s.2.2.2.2.2.2.2.2.2.2.1,())
 else if s.1=3 then(3,s.2.1,0,s.2.2.2.1,0,s.2.2.2.2.2.1,z,[],s.2.2.2.2.2.2.2.2.1,s.2.2.2.2.2.2.2.2.2.1,s.2.2.2.2.2.2.2.2.2.2.1,())
 else if s.1=4 then(4,s.2.1,0,s.2.2.2.1,s.2.2.2.2.1,s.2.2.2.2.2.1,s.2.2.2.2.2.2.1,[],s.2.2.2.2.2.2.2.2.1,s.2.2.2.2.2.2.2.2.2.1,s.2.2.2.2.2.2.2.2.2.2.1,())
 else if s.1=5 then(5,s.2.1,0,0,0,[],z,s.2.2.2.2.2.2.2.1,[],s.2.2.2.2.2.2.2.2.2.1,s.2.2.2.2.2.2.2.2.2.2.1,())
 else(s.1,s.2.1,0,0,0,[],z,[],s.2.2.2.2.2.2.2.2.1,s.2.2.2.2.2.2.2.2.2.1,s.2.2.2.2.2.2.2.2.2.2.1,())
theorem b3p(s:BS):Qt s=some (WW s):=by
 obtain⟨k,w,o,g,h,c,t,f,a,p,r,u⟩:=s;unfold Qt WW;grind
open Classical in
def ZU (s:BS) (n:Int):Int:=if LA s.1 s n then BM s n else -1
theorem b3q{s:BS}(h:sN s)(n:Int):Qu (s,n)=some (ZU s n):=by
 have f:short s.2.2.2.2.2.1:=by have:=h.uL;unfold short;omega
 have g:short s.2.2.2.2.2.2.2.1:=by have:=h.stages;unfold short;omega
 have a:=h.taps;obtain⟨k,w,o,d,b,c,t,e,i,p,r,u⟩:=s;simp only at f g a;unfold Qu ZU BM LA;by_cases k0:k=0;simp_all;by_cases k1:k=1;simp_all;by_cases k2:k=2;grind;by_cases k3:k=3;grind[JD];by_cases k4:k=4;grind[JD,Uz];grind[Tt]
theorem KT(k:Int):Kj k=some (A3 (2<=k/\k<=5)):=by
 grind[Kj]
def b6c(s:BS)(n:Int):Prop:=
 1<=n/\n<=4096/\0<=s.1/\s.1<=5/\s=WW s/\0<=s.2.1/\s.2.1<=30/\LA s.1 s n/\(s.2.2.2.2.2.2.2.2.1.length:Int)=BM s n/\s.2.2.2.2.2.2.2.2.1.all Af=true/\s.2.2.2.2.2.2.2.2.2.2.1.all Af=true/\
  (2<=s.1/\s.1<=5->(s.2.2.2.2.2.2.2.2.2.2.1.length:Int)=n-BM s n/\Hu s.2.2.2.2.2.2.2.2.2.1 n (BM s n)=true)
theorem Vr{k:Int}{s:BS}{n:Int}(h:LA k s n):k=0\/k=1\/k=2\/k=3\/k=4\/k=5:=by
 unfold LA at h;omega
theorem a4o(s:BS)(n:Int):BW s n↔b6c s n:=by
 have f:LA s.1 s n->((UD s/\(s.1=0->s.2.1=0)/\(s.2.2.2.2.2.2.2.2.1.length:Int)=BM s n/\(s.1=0\/s.1=1->s.2.2.2.2.2.2.2.2.2.2.1=[]/\s.2.2.2.2.2.2.2.2.2.1.1=0/\s.2.2.2.2.2.2.2.2.2.1.2.1=[]))↔
   (s=WW s/\(s.2.2.2.2.2.2.2.2.1.length:Int)=BM s n)):=by
  intro h;have g:(A6 3 (0:Int))=[0,0,0]:=rfl;obtain⟨k,w,o,sh,lag,c,t,st,wm,⟨po,ks,⟨⟩⟩,r,⟨⟩⟩:=s;rcases Vr h with k0|k0|k0|k0|k0|k0<;>simp only at k0<;>subst k0<;>simp[UD,WW,BM,g]<;>(try constructor)<;>(try intros)<;>(try simp_all)<;>(try exact and_left_comm)<;>(grind)
 unfold BW b6c;grind[Vr]
def a4p(sH zG:List Int)(o:Int):Option (List Int):=bif sH.all Af&&zG.all Af then IU (MG o.toNat) zG sH else none
def uH(s:BS):Option (List Int):=
 if s.1=1 then Option.some s.2.2.2.2.2.2.2.2.1
 else if s.1=2 then a4p s.2.2.2.2.2.2.2.2.1 s.2.2.2.2.2.2.2.2.2.2.1 s.2.2.1
 else if s.1=3 then Yk s.2.2.2.2.2.2.2.2.1 s.2.2.2.2.2.2.2.2.2.2.1 s.2.2.2.2.2.1 s.2.2.2.1
 else if s.1=4 then(Yk s.2.2.2.2.2.2.2.2.1 s.2.2.2.2.2.2.2.2.2.2.1 s.2.2.2.2.2.1 s.2.2.2.1).bind fun l=>VY l s.2.2.2.2.1 s.2.2.2.2.2.2.1
 else Rc s.2.2.2.2.2.2.2.2.2.2.1 s.2.2.2.2.2.2.2.1
def a7g(s:BS)(n:Int):Option (List Int):=
 if s.1=0 then some (A6 n.toNat (s.2.2.2.2.2.2.2.2.1.getD 0 0))else(uH s).bind (a7d s.2.1)
theorem Qz{w r c:LI}{s:Int}{l}(h:Yk w r c s=some l):l.length=w.length+r.length:=by
 unfold Yk at h;cases hc:(w.all Af&&r.all Af)with
 |false=>simp_all
 |true=>
  rw[hc]at h;exact(SM _ r w l (I5.1 hc).1 h).2
theorem a4q{w r:LI}{o:Int}{l}(h:a4p w r o=some l):l.length=w.length+r.length:=by
 unfold a4p at h;cases hc:(w.all Af&&r.all Af)with
 |false=>simp_all
 |true=>
  rw[hc]at h;exact(SM _ r w l (I5.1 hc).1 h).2
theorem a1S{r t:LI}{lag:Int}{l}(h:VY r lag t=some l):l.length=r.length:=by
 unfold VY at h;cases hc:r.all Af with
 |false=>simp_all
 |true=>
  rw[hc]at h
  have:=(SM _ r [] l rfl h).2
  simp_all
theorem rG:∀(st:List RF)(r:LI){l},lO st r=some l->l.length=r.length
 | [],r,l,h=>by simp_all[lO]
 |s::st,r,l,h=>by
  simp only[lO]at h;split at h;rename_i f g;rw[rG st f h,SQ _ _ _ g];simp;cases h
theorem pH{r:LI}{st:List RF}{l}(h:Rc r st=some l):l.length=r.length:=by
 grind[Rc,rG]
theorem Yp{s:BS}(h:sN s){l}(g:uH s=some l):l.length<100000:=by
 have b:=h.sH;have a:=h.rest;unfold uH at g;split at g;grind;split at g;grind[a4q];split at g;grind[Qz];split at g;obtain⟨c,f,k⟩:=E6.1 g;rw[a1S k,Qz f];omega;grind[pH]
theorem b0w{s:BS}{n:Int}(c:1<=n)(d:n<=4096)(e:s.2.2.2.2.2.2.2.2.1.length=1):
  Al JZ (n,(0:Int),([]:List Int),s,())=some (A6 n.toNat (s.2.2.2.2.2.2.2.2.1.getD 0 0),()):=by
 obtain⟨N,rfl⟩:=A7 (show 0<=n by omega);have k:Az s.2.2.2.2.2.2.2.2.1 (0:Int)=some (s.2.2.2.2.2.2.2.2.1.getD 0 0):=Yl (by omega) (by omega)
 have:=Bz (f:=JZ) (fun i=>((N:Int),(i:Int),A6 i (s.2.2.2.2.2.2.2.2.1.getD 0 0),s,())) N
  (b:=(A6 N (s.2.2.2.2.2.2.2.2.1.getD 0 0),())) (fun i a=>by
   have h:Bp ((A6 i (s.2.2.2.2.2.2.2.2.1.getD 0 0)).length+1)=true:=AG (by grind);have g:A6 i (s.2.2.2.2.2.2.2.2.1.getD 0 0)++[s.2.2.2.2.2.2.2.2.1.getD 0 0]=A6 (i+1) (s.2.2.2.2.2.2.2.2.1.getD 0 0):=by grind[D7]
   simp only[JZ,Cq a,cT,k,oB,h,B4,g,Aa (show i<1000000 by omega)])
  (by simp[JZ])
 simp_all
theorem pI{s:BS}{n:Int}(m:1<=n)(o:n<=4096)(q:s.2.2.2.2.2.2.2.2.1.length=1):
  Al HG (n,(0:Int),A6 n.toNat (0:Int),s,())=some (A6 n.toNat (s.2.2.2.2.2.2.2.2.1.getD 0 0),()):=by
 obtain⟨N,rfl⟩:=A7 (show 0<=n by omega);have j:Az s.2.2.2.2.2.2.2.2.1 (0:Int)=some (s.2.2.2.2.2.2.2.2.1.getD 0 0):=Yl (by omega) (by omega);obtain⟨z,r⟩:∃z,A6 N (s.2.2.2.2.2.2.2.2.1.getD 0 0)=z:=⟨_,rfl⟩;have k:z.length=(A6 N (0:Int)).length:=by grind
 have d:(A6 N (0:Int)).length=N:=by simp
 have:=Bz (f:=HG) (fun i=>((N:Int),(i:Int),z.take i++(A6 N (0:Int)).drop i,s,())) N
  (b:=(z,())) (fun i l=>by
   have h:i<(A6 N (0:Int)).length:=by omega
   have p:(z.take i++(A6 N (0:Int)).drop i).length=N:=by grind
   have e:A3 ((i:Int)<(((z.take i++(A6 N (0:Int)).drop i).length:Nat):Int))=true:=by simp_all
   have c:A3 ((0:Int)<=(i:Int))=true:=by simp
   have a:=a4j h k;have g:z[i]'(by omega)=s.2.2.2.2.2.2.2.2.1.getD 0 0:=by grind
   rw[g]at a;simp only[HG,Cq l,cT,j,oB,c,e,A8,tN,a,Aa (show i<1000000 by omega)])
  (by
   simp_all[C4,HG])
 simp_all
theorem a4r{s:BS}(h:sN s){n:Int}(hp:BW s n)(z:s.1≠0):SH s=some (KR (uH s)):=by
 obtain⟨A,B,m,-,-,-,-,a,E,C,-⟩:=hp;have q:=h.rest;have v:=h.sH;have D:=h.taps;obtain⟨k,w,o,y,x,c,t,F,d,p,r,u⟩:=s;simp only at *;unfold SH uH;rcases m with g|g|⟨g,f,b,e⟩|⟨g,f,b⟩|⟨g,f,b,e⟩|⟨g,f,b⟩;omega;subst g;rfl;subst g;obtain⟨O,rfl⟩:=A7 f;grind[BM,ZO,a4p];grind[BM,Qy]
 ·subst g;simp only[BM]at a;have j:d.length=c.length:=by grind
  have i:=Qy (zG:=r) f j (by omega);simp only[show((4:Int)==2)=false from rfl,show((4:Int)==3)=false from rfl,show((4:Int)==4)=true from rfl,cT,cF,i,oB];cases hl:Yk d r c y with
  |none=>rfl
  |some l=>
   grind[Qz,fO,KR]
 grind[ZR]
theorem a4s{s:BS}(h:sN s){n:Int}(hp:BW s n):Sx (s,n)=some (KR (a7g s n)):=by
 have a:=fun l (d:uH s=some l)=>Yp h d;obtain⟨A,B,D,-,x,v,-,g,N,M,-⟩:=hp;have G:=h.rest;have H:=h.sH;have I:=h.taps;have E:=b0w (s:=s) A B;obtain⟨k,w,o,z,K,c,t,L,f,p,r,u⟩:=s;simp only at *;have P:∀l,l.length<100000->NF (l,w)=some (KR (a7d w l)):=fun l d=>a1N x v d;unfold Sx a7g;rcases D with b|b|⟨b,j,m,y⟩|⟨b,j,m⟩|⟨b,j,m,y⟩|⟨b,j,m⟩;grind[BM,KR];simp_all[uH]
 ·subst b;obtain⟨O,rfl⟩:=A7 j;have m:(O:Int)<=4:=m;simp only[BM]at g;have q:f.length=O:=by grind
  have i:=pC (sH:=f) (zG:=r) (o:=O) (by omega) q (by omega);simp only[uH]at a|-;simp[i];have e:(bif f.all Af&&r.all Af then IU (MG O) r f else none)=a4p f r (O:Int):=rfl;rw[e];cases d:a4p f r (O:Int)with
  |none=>rfl
  |some l=>simp_all[KR]
 ·subst b;simp only[BM]at g;have q:f.length=c.length:=by grind
  have i:=UA (zG:=r) j q (by omega);simp only[uH]at a|-;simp[i];cases d:Yk f r c z with
  |none=>rfl
  |some l=>simp_all[KR]
 ·subst b;simp only[BM]at g;have q:f.length=c.length:=by grind
  have i:=UA (zG:=r) j q (by omega);simp only[uH]at a|-;simp[i];cases d:Yk f r c z with
  |none=>rfl
  |some l=>
   have F:=Qz d;have C:=a1M (zG:=l) y I (by omega);simp[KR,C];grind[KR]
 ·subst b;have i:=pF (zG:=r) m (by omega);simp only[uH]at a|-;simp[i];cases d:Rc r L with
  |none=>rfl
  |some l=>simp_all[KR]
open Classical in
def F9S (s:BS) (n:Int):Option (List Int):=if BW s n then a7g s n else none
theorem kR{s:BS}(h:sN s)(n:Int):Rw (s,n)=some (match F9S s n with|some r=>(r,0)|none=>([],1)):=by
 unfold Rw F9S;simp only[b0v h,oB];by_cases hp:BW s n;simp[hp,a4s h hp];grind[KR];simp_all
theorem kS{s:BS}(h:sN s)(n:Int):Pb (s,n)=some (F9S s n).isSome:=by
 unfold Pb;simp only[kR h,oB];cases F9S s n<;>rfl
open Classical in
theorem pK {s:BS} (h:sN s) (n:Int):OM (s,n)=some (match F9S s n with|some r=>(r,true)|none=>([],false)):=by
 have hw:short s.2.2.2.2.2.2.2.2.1:=by have:=h.sH;unfold short;omega
 have hr:short s.2.2.2.2.2.2.2.2.2.2.1:=by have:=h.rest;unfold short;omega
 have hk:short s.2.2.2.2.2.2.2.2.2.1.2.1:=by have:=h.ks;unfold short;omega
 have hiff:=a4o s n
 unfold OM
 have no:¬ b6c s n->F9S s n=none:=fun hc=>by
  simp_all[F9S]
 by_cases h1:1<=n
 rotate_left
 ·have e1:decide (n<1)=true:=by simp_all
  rw[no fun hp=>h1 hp.1]
  simp_all
 have e1:decide (n<1)=false:=by simp_all
 by_cases h2:n<=4096
 rotate_left
 ·have e2:decide (n > 4096)=true:=by simp_all
  rw[no fun hp=>h2 hp.2.1]
  simp_all
 have e2:decide (n > 4096)=false:=by simp_all
 by_cases h3:0<=s.1
 rotate_left
 ·have e3:decide (s.1<0)=true:=by simp_all
  rw[no fun hp=>h3 hp.2.2.1]
  simp_all
 have e3:decide (s.1<0)=false:=by simp_all
 by_cases h4:s.1<=5
 rotate_left
 ·have e4:decide (s.1 > 5)=true:=by simp_all
  rw[no fun hp=>h4 hp.2.2.2.1]
  simp_all
 have e4:decide (s.1 > 5)=false:=by simp_all
 simp only[e1,e2,e3,e4,cF,b3p,a7f h,oB]
 by_cases h5:s=WW s
 rotate_left
 ·rw[no fun hp=>h5 hp.2.2.2.2.1]
  simp_all
 have e5:decide (s=WW s)=true:=decide_eq_true h5
 simp only[e5,bT,cF]
 by_cases h6:0<=s.2.1
 rotate_left
 ·have e6:decide (s.2.1<0)=true:=by grind
  rw[no fun hp=>h6 hp.2.2.2.2.2.1]
  grind
 have e6:decide (s.2.1<0)=false:=by grind
 by_cases h7:s.2.1<=30
 rotate_left
 ·have e7:decide (s.2.1 > 30)=true:=by grind
  rw[no fun hp=>h7 hp.2.2.2.2.2.2.1]
  grind
 have e7:decide (s.2.1 > 30)=false:=by grind
 simp only[e6,e7,cF,oB,b3q h]
 by_cases h8:LA s.1 s n
 rotate_left
 ·have e8:decide (ZU s n<0)=true:=by simp[ZU,h8]
  rw[no fun hp=>h8 hp.2.2.2.2.2.2.2.1]
  grind
 have hwr:=dG h h1 h2 h8
 have e8':ZU s n=BM s n:=by simp[ZU,h8]
 have e8:decide (BM s n<0)=false:=by grind
 simp only[e8',e8,cF]
 by_cases h9:(s.2.2.2.2.2.2.2.2.1.length:Int)=BM s n
 rotate_left
 ·have e9:(((s.2.2.2.2.2.2.2.2.1.length:Nat):Int) != BM s n)=true:=by grind
  rw[no fun hp=>h9 hp.2.2.2.2.2.2.2.2.1]
  grind
 have e9:(((s.2.2.2.2.2.2.2.2.1.length:Nat):Int) != BM s n)=false:=by grind
 simp only[e9,cF,Co hw,Co hr,oB]
 cases h10:s.2.2.2.2.2.2.2.2.1.all Af with
 |false=>
  rw[no fun hp=>by rw[hp.2.2.2.2.2.2.2.2.2.1]at h10;grind]
  rfl
 |true=>
  cases h11:s.2.2.2.2.2.2.2.2.2.2.1.all Af with
  |false=>
   rw[no fun hp=>by rw[hp.2.2.2.2.2.2.2.2.2.2.1]at h11;grind]
   rfl
  |true=>
   simp only[bT,cF,oB,KT]
   have e11:zD .i64 (n-BM s n)=n-BM s n:=Ae (by omega)
   by_cases h12:2<=s.1/\s.1<=5->(s.2.2.2.2.2.2.2.2.2.2.1.length:Int)=n-BM s n/\Hu s.2.2.2.2.2.2.2.2.2.1 n (BM s n)=true
   rotate_left
   ·have hg:2<=s.1/\s.1<=5:=Classical.byContradiction fun hc=>h12 fun e=>absurd e hc
    have hn:¬ ((s.2.2.2.2.2.2.2.2.2.2.1.length:Int)=n-BM s n/\Hu s.2.2.2.2.2.2.2.2.2.1 n (BM s n)=true):=fun hc=>h12 fun _=>hc
    rw[no fun hp=>h12 hp.2.2.2.2.2.2.2.2.2.2.2]
    simp only[hg,and_self,decide_true,cT,e11,OQ hk,Og hk,oB]
    grind
   have hrp:b6c s n:=⟨h1,h2,h3,h4,h5,h6,h7,h8,h9,h10,h11,h12⟩
   have hsp:=hiff.2 hrp
   have e12:(bif decide (2<=s.1/\s.1<=5)then bif (((s.2.2.2.2.2.2.2.2.2.2.1.length:Nat):Int) != zD .i64 (n-BM s n))then some (n,(true,(s,())))else(HT (s.2.2.2.2.2.2.2.2.2.1,(n,BM s n))).bind fun y9=>some (n,(!y9,(s,())))
     else some (n,(false,(s,()))))=some (n,(false,(s,()))):=by
    by_cases hg:2<=s.1/\s.1<=5
    ·obtain⟨g1,g2⟩:=h12 hg
     have e13:(((s.2.2.2.2.2.2.2.2.2.2.1.length:Nat):Int) != n-BM s n)=false:=by grind
     simp only[hg,and_self,decide_true,cT,e11,e13,cF,Og hk,g2,oB,bT]
    grind
   simp only[e12,oB,cF]
   have hsub:F9S s n=a7g s n:=by unfold F9S;grind
   rw[hsub]
   unfold a7g
   by_cases k0:s.1=0
   ·have ek:(s.1==0)=true:=by grind
    have hl1:s.2.2.2.2.2.2.2.2.1.length=1:=by
     have:=h9;unfold BM at this;omega
    have g1:decide ((0:Int)<=n)=true:=by grind
    have g2:decide (n<=n)=true:=by simp
    have g3:Bp n.toNat=true:=AG (by omega)
    simp only[ek,cT,g1,g2,g3,A8,pI h1 h2 hl1,oB,k0,if_true]
    rfl
   ·have ek:(s.1==0)=false:=by grind
    simp[ek,a4r h hsp k0,k0]
    cases hb:uH s with
    |none=>rfl
    |some l=>
     have hll:=Yp h hb
     simp only[KR,b0r h6 h7 hll,oB]
     cases a7d s.2.1 l<;>simp[KR]
theorem pL{s:BS}(h:sN s)(n:Int):ON (s,n)=some (F9S s n).isSome:=by
 grind[ON,pK]
abbrev Wr:Type:=(List Int)×(Int×Unit)
def a7h(w:Wr)(b:Int):Wr:=
 let bs:=if w.2.1%8=0 then w.1++[0]else w.1
 (bs.set (w.2.1 / 8).toNat (bits .u8 .or (bs.getD (w.2.1 / 8).toNat 0) (AT .u8 b (7-w.2.1%8))),w.2.1+1,())
def wL(L:List Int):Wr:=L.foldl a7h ([],0,())
theorem gF(L:LI)(b:Int):wL (L++[b])=a7h (wL L) b:=by simp[wL]
theorem kT:∀(n:Nat)(L:LI),L.length=n->(wL L).2.1=L.length/\(wL L).1.length=(L.length+7) / 8
 |0,L,h=>by
  rw[List.length_eq_zero_iff.1 h];exact⟨rfl,rfl⟩
 |n+1,L,h=>by
  obtain⟨g,b,rfl⟩:∃g b,L=g++[b]:=by
   rcases I0 L with rfl|⟨g,b,e⟩;all_goals simp_all
  obtain⟨f,k⟩:=kT n g (by simp_all);rw[gF];simp only[a7h,List.length_set,lN,List.length_singleton,f];grind
theorem GK(L:LI):(wL L).2.1=L.length/\(wL L).1.length=(L.length+7) / 8:=kT _ L rfl
theorem a1T{L:LI}(l:L.length<1000000000)(b:Int):CU (wL L,b)=some (wL (L++[b])):=by
 obtain⟨g,k⟩:=GK L;have p:G3 ((L.length:Nat):Int) 8=((L.length:Nat):Int)%8:=F9 (by omega);have m:K3 ((L.length:Nat):Int) 8=((L.length:Nat):Int) / 8:=E4 (by omega);have c:zD .i64 (((L.length:Nat):Int) / 8)=((L.length:Nat):Int) / 8:=Ae (by omega);have d:zD .i64 (7-((L.length:Nat):Int)%8)=7-((L.length:Nat):Int)%8:=Ae (by omega);have e:zD .i64 (((L.length:Nat):Int)+1)=((L.length:Nat):Int)+1:=Ae (by omega);have i:A3 ((0:Int)<=((L.length:Nat):Int) / 8)=true:=by rfl
 have j:A3 (7-((L.length:Nat):Int)%8<0)=false:=by grind
 rw[gF];generalize wL L=wr at g k|-;obtain⟨f,n,u⟩:=wr;have g:n=((L.length:Nat):Int):=g;have k:f.length=(L.length+7) / 8:=k;subst g;unfold CU a7h;by_cases h:((L.length:Nat):Int)%8=0;have hb:(((L.length:Nat):Int)%8==0)=true:=by grind
 have o:Bp (f.length+1)=true:=AW (by omega);have a:A3 (((L.length:Nat):Int) / 8<(((f++[0]).length:Nat):Int))=true:=by grind
 simp_all;grind
def MJ(v:Int)(i:Nat):Int:=zD .u8 (bits .u64 .and (AR .u64 v (i:Int)) 1)
def pb(v:Int):Nat->List Int
 |0=>[]
 |i+1=>MJ v i::pb v i
theorem Vs(v:Int):∀n,(pb v n).length=n
 |0=>rfl
 |n+1=>by simp[pb,Vs v n]
def AK(v:Int)(n:Nat)(L:List Int):List Int:=bif AR .u64 v (n:Int) != 0 then L else L++pb v n
theorem AC(v:Int)(n:Nat)(L:LI):L.length<=(AK v n L).length/\(AK v n L).length<=L.length+n:=by
 grind[AK,Vs]
def JE(v:Int)(n:Nat):Int:=bif AR .u64 v (n:Int) != 0 then 1 else 0
theorem a4t{v:Int}:∀(n:Nat)(L:LI),L.length+n<1000000000->Al Fz (v,(n:Int)-1,wL L,())=some (wL (L++pb v n),())
 |0,L,_=>by simp_all[Ag,Fz,pb]
 |n+1,L,h=>by
  have e:((n+1:Nat):Int)-1=(n:Int):=by omega
  have g:zD .i64 ((n:Int)-1)=(n:Int)-1:=Ae (by omega);have f:A3 ((n:Int)>=0)=true:=by simp
  have k:A3 ((n:Int)<0)=false:=by simp
  rw[e,Ai (s':=(v,(n:Int)-1,wL (L++[MJ v n]),())) (by
   simp only[Fz,f,k,cT,cF,show zD .u8 (bits .u64 .and (AR .u64 v (n:Int)) 1)=MJ v n from rfl,a1T (show L.length<1000000000 by omega),oB,g])]
  rw[a4t n (L++[MJ v n]) (by simp;omega),pb]
  simp
theorem HY{L:LI}{v:Int}{n:Nat}(a:n<=63)(k:L.length<999999000):Ap (wL L,v,(n:Int))=some (JE v n,wL (AK v n L)):=by
 unfold Ap JE AK;have g:A3 ((n:Int)<0)=false:=by simp
 have f:A3 ((n:Int) > 64)=false:=by grind
 have h:zD .i64 ((n:Int)-1)=(n:Int)-1:=Ae (by omega);simp[g,f];cases (AR .u64 v (n:Int) != 0)with
 |true=>rfl
 |false=>simp only[cF,h,a4t n L (by omega),oB]
theorem Yq{v:Int}:∀(n:Nat)(L:LI),n<=64->L.length+n<1000000000->Al Hs (v,(n:Int)-1,(L,()),())=some ((L++pb v n,()),())
 |0,L,_,_=>by simp_all[Ag,Hs,pb]
 |n+1,L,h64,h=>by
  have e:((n+1:Nat):Int)-1=(n:Int):=by omega
  have g:zD .i64 ((n:Int)-1)=(n:Int)-1:=Ae (by omega);have f:zD .u64 (n:Int)=(n:Int):=Aw (by omega);have k:A3 ((n:Int)>=0)=true:=by simp
  have a:A3 ((n:Int)<0)=false:=by simp
  have b:Bp (L.length+1)=true:=AW (by omega);rw[e,Ai (s':=(v,(n:Int)-1,(L++[MJ v n],()),())) (by
   simp only[Hs,k,a,f,b,cT,cF,show zD .u8 (bits .u64 .and (AR .u64 v (n:Int)) 1)=MJ v n from rfl,B4,g])]
  rw[Yq n (L++[MJ v n]) (by omega) (by simp;omega),pb]
  simp
theorem Cc{L:LI}{v:Int}{n:Nat}(c:n<=63)(b:L.length<999999000):Av ((L,()),v,(n:Int))=some (JE v n,AK v n L,()):=by
 unfold Av JE AK;have f:A3 ((n:Int)<0)=false:=by simp
 have k:A3 ((n:Int) > 64)=false:=by grind
 have a:A3 ((n:Int)<64)=true:=by grind
 have h:zD .i64 ((n:Int)-1)=(n:Int)-1:=Ae (by omega);have g:zD .u64 (n:Int)=(n:Int):=Aw (by omega);simp[f,k,a,g];cases (AR .u64 v (n:Int) != 0)with
 |true=>rfl
 |false=>simp only[cF,h,Yq n L (by omega) (by omega),oB]
def nH(n:Nat)(L:List Int):List Int:=L++A6 n 0++[1]
theorem a4u{L:LI}{n:Nat}(d:n<=4096)(c:L.length<999990000):Da (wL L,(n:Int))=some (0,wL (nH n L)):=by
 unfold Da nH;have g:A3 ((n:Int)<0)=false:=by simp
 have k:A3 ((n:Int) > 4096)=false:=by grind
 simp only[g,k,cF,oB]
 have:=Bz (f:=El) (fun i=>((n:Int),(i:Int),wL (L++A6 i 0),())) n (b:=(wL (L++A6 n 0),())) (fun i a=>by
   have h:L++A6 i (0:Int)++[0]=L++A6 (i+1) 0:=by simp_all[D7]
   simp only[El,Cq a,cT,a1T (show(L++A6 i (0:Int)).length<1000000000 by grind),oB,h,Aa (show i<1000000 by omega)])
  (by simp[El])
 grind[a1T]
theorem Yr{L:LI}{n:Nat}(e:n<=4096)(d:L.length<999990000):DP ((L,()),(n:Int))=some (0,nH n L,()):=by
 unfold DP nH;have k:A3 ((n:Int)<0)=false:=by simp
 have a:A3 ((n:Int) > 4096)=false:=by grind
 simp only[k,a,cF,oB]
 have:=Bz (f:=FE) (fun i=>((n:Int),(i:Int),(L++A6 i 0,()),())) n (b:=((L++A6 n 0,()),())) (fun i c=>by
   have g:L++A6 i (0:Int)++[0]=L++A6 (i+1) 0:=by simp_all[D7]
   have h:Bp ((L++A6 i (0:Int)).length+1)=true:=AW (by grind);simp only[FE,Cq c,cT,h,B4,g,Aa (show i<1000000 by omega)])
  (by simp[FE])
 have h:Bp ((L++A6 n (0:Int)).length+1)=true:=AW (by grind);simp_all
theorem KU(n:Nat)(L:LI):(nH n L).length=L.length+n+1:=by simp[nH];rfl
def Br(x:Int)(n:Nat):Int:=bits .u64 .and (zD .u64 x) (zD .u64 ((AT .u64 1 (n:Int))-1))
def Dh(n:Nat)(l:List Int)(L:List Int):List Int:=l.foldl (fun L x=>AK (Br x n) n L) L
theorem FG(n:Nat):∀(l L:LI),L.length<=(Dh n l L).length/\(Dh n l L).length<=L.length+n*l.length
 | [],L=>by simp[Dh]
 |x::l,L=>by
  have h:=AC (Br x n) n L;have g:=FG n l (AK (Br x n) n L);have e:Dh n (x::l) L=Dh n l (AK (Br x n) n L):=rfl;rw[e,lC,J5,J6];omega
theorem SW{L:LI}{x:Int}{n:Nat}(f:n<=63)(g:L.length<999999000):DV (wL L,x,(n:Int))=some (wL (AK (Br x n) n L)):=by
 unfold DV;have h:A3 ((n:Int)<0)=false:=by simp
 simp only[h,cF,show bits .u64 .and (zD .u64 x) (zD .u64 ((AT .u64 1 (n:Int))-1))=Br x n from rfl,HY f g,oB]
theorem JF{l L:LI}{n:Nat}(d:n<=63)(m:l.length<10000)(j:L.length<900000000):DF ((L,()),l,(n:Int))=some (Dh n l L,()):=by
 have a:zD .u64 (n:Int)=(n:Int):=Aw (by omega);have b:A3 ((n:Int)<0)=false:=by simp
 have f:∀(k i:Nat)(h:LI),i+k=l.length->h.length+64*k<999990000->Al Ix (l,(n:Int),(i:Int),(h,()),())=some ((Dh n (l.drop i) h,()),()):=by
  intro k
  induction k with
  |zero=>
   intro i h c _;obtain rfl:i=l.length:=by omega
   simp_all[Ag,Ix,Dh]
  |succ k e=>
   intro i h c hb;have g:i<l.length:=by omega
   have o:=AC (Br l[i] n) n h;rw[A4 g,Ai (s':=(l,(n:Int),((i+1:Nat):Int),(AK (Br l[i] n) n h,()),())) (by
    simp only[Ix,Cq g,cT,Ac g,oB,a,b,cF,show bits .u64 .and (zD .u64 l[i]) (zD .u64 ((AT .u64 1 (n:Int))-1))=Br l[i] n from rfl,Cc d (show h.length<999999000 by omega),Aa (show i<1000000 by omega)])]
   exact e (i+1) _ (by omega) (by omega)
 have:=f l.length 0 L (by omega) (by omega)
 simp_all[DF]
def Cu(x w:Int):Bool:=A3 (1<=w)&&(A3 (w<=31)&&(A3 (AT .i64 (-1) (w-1)<=x)&&A3 (x<=zD .i64 (AT .i64 1 (w-1)-1))))
theorem IW{x:Int}{w:Nat}(a:w<=32):CM (x,(w:Int))=some (Cu x w):=by
 unfold CM Cu Sw Ra;by_cases h1:1<=(w:Int);by_cases h2:(w:Int)<=31;have h:A3 ((w:Int)<1)=false:=by simp_all
 have g:A3 ((w:Int) > 31)=false:=by simp_all
 have e:zD .i64 ((w:Int)-1)=(w:Int)-1:=Ae (by omega);have f:A3 ((w:Int)-1<0)=false:=by simp_all
 have k:A3 ((w:Int)>=1)=true:=by simp_all
 simp[h1,h2,h,g,f,e];grind;grind;grind
theorem UE{x:Int}{w:Nat}(b:w<=32):Pe (x,(w:Int))=some (Cu x w):=by
 unfold Pe Cu jY ZL;by_cases h1:1<=(w:Int);by_cases h2:(w:Int)<=31;have f:A3 ((w:Int)<1)=false:=by simp_all
 have k:A3 ((w:Int) > 31)=false:=by simp_all
 have e:zD .i64 ((w:Int)-1)=(w:Int)-1:=Ae (by omega);have g:zD .u64 ((w:Int)-1)=(w:Int)-1:=Aw (by omega);have a:A3 ((w:Int)-1<0)=false:=by simp_all
 have h:A3 ((w:Int)>=1)=true:=by simp_all
 simp only[h,h1,h2,f,k,a,e,g,decide_true,cT,cF,oB,C7];grind;grind;grind
def DQ(x:Int):Nat->Nat->Nat
 |0,w=>w
 |k+1,w=>bif (x != 0)&&!Cu x w then DQ x k (w+1)else w
theorem Ys(x:Int):∀(k w:Nat),DQ x k w<=w+k
 |0,w=>D9 _
 |k+1,w=>by
  simp[DQ];cases (x != 0)&&!Cu x w with
  |true=>have:=Ys x k (w+1);grind
  |false=>simp
def Ar(l:List Int):Nat:=l.foldl (fun w x=>DQ x (32-w) w) 0
theorem Wc:∀(l:LI)(w:Nat),w<=32->l.foldl (fun w x=>DQ x (32-w) w) w<=32
 | [],w,h=>h
 |x::l,w,h=>Wc l _ (show DQ x (32-w) w<=32 by grind[Ys])
theorem Fl(l:LI):Ar l<=32:=Wc l 0 (by omega)
theorem rH{x:Int}{l:LI}{n i:Int}:∀(k w:Nat),w+k=32->Al DM ((w:Int),x,l,n,i,())=some (((DQ x k w:Nat):Int),l,n,i,())
 |0,w,h=>by
  obtain rfl:w=32:=by omega
  simp_all[Ag,DM,DQ]
 |k+1,w,h=>by
  have g:A3 ((w:Int)<32)=true:=by grind
  simp[DQ];cases hx:(x != 0)with
  |false=>simp_all[Ag,DM]
  |true=>
   cases hf:Cu x w with
   |true=>exact Ag (by simp only[DM,hx,g,IW (show w<=32 by omega),hf,oB,cT,cF,bT,K6])
   |false=>
    rw[Ai (s':=(((w+1:Nat):Int),x,l,n,i,())) (by simp only[DM,hx,g,IW (show w<=32 by omega),hf,oB,cT,D1,Aa (show w<1000000 by omega)])];exact rH k (w+1) (by omega)
theorem Di{l:LI}(c:short l):BO l=some ((Ar l:Nat):Int):=by
 have c:l.length<1000000:=c
 have:=BH (f:=Il) l (fun i (w:Nat)=>((w:Int),l,(l.length:Int),(i:Int),())) (fun w x=>(.inl (DQ x (32-w) w):Nat ⊕ (Int×Unit))) (fun _ w=>w<=32) (fun w=>((w:Int),()))
  (fun i h w e=>⟨fun d k=>by
   simp at k;subst k;refine⟨?_,by grind[Ys]⟩;simp only[Il,Cq h,cT,Ac h,oB,rH (32-w) w (by omega),Aa (show i<1000000 by omega)],fun b hb=>(by grind)⟩)
  (fun w _=>by simp[Il]) (a:=0) (by omega)
 simp at this;unfold BO;rw[this];have g:∀(l:LI)(w:Nat),HJ (fun w x=>(.inl (DQ x (32-w) w):Nat ⊕ (Int×Unit))) l w=.inl (l.foldl (fun w x=>DQ x (32-w) w) w):=by
  intro l
  induction l with
  |nil=>intro w;rfl
  |cons x l j=>simp_all[HJ]
 rw[g];rfl
theorem Wd{l:LI}{i:Nat}(hi:i<l.length):∀(k w:Nat),w+k=32->Al Kl (l,(w:Int),(i:Int),())=some (l,((DQ l[i] k w:Nat):Int),(i:Int),())
 |0,w,h=>by
  obtain rfl:w=32:=by omega
  rfl
 |k+1,w,h=>by
  have g:A3 ((w:Int)<32)=true:=by grind
  simp[DQ];cases hx:(l[i] != 0)with
  |false=>simp_all[Ag,Kl,Ac]
  |true=>
   cases hf:Cu l[i] w with
   |true=>exact Ag (by simp only[Kl,Ac hi,hx,g,UE (show w<=32 by omega),hf,oB,cT,cF,bT,K6])
   |false=>
    rw[Ai (s':=(l,((w+1:Nat):Int),(i:Int),())) (by simp only[Kl,Ac hi,hx,g,UE (show w<=32 by omega),hf,oB,cT,D1,Aa (show w<1000000 by omega)])];exact Wd hi k (w+1) (by omega)
theorem OR{l:LI}(c:short l):KP l=some ((Ar l:Nat):Int):=by
 have c:l.length<1000000:=c
 have:=BH (f:=Nl) l (fun i (w:Nat)=>(l,(w:Int),(i:Int),())) (fun w x=>(.inl (DQ x (32-w) w):Nat ⊕ (Int×Unit))) (fun _ w=>w<=32) (fun w=>((w:Int),()))
  (fun i h w e=>⟨fun d k=>by
   simp at k;subst k;refine⟨?_,by grind[Ys]⟩;simp only[Nl,Cq h,cT,oB,Wd h (32-w) w (by omega),Aa (show i<1000000 by omega)],fun b hb=>(by grind)⟩)
  (fun w _=>by simp[Nl]) (a:=0) (by omega)
 simp at this;unfold KP;rw[this];have g:∀(l:LI)(w:Nat),HJ (fun w x=>(.inl (DQ x (32-w) w):Nat ⊕ (Int×Unit))) l w=.inl (l.foldl (fun w x=>DQ x (32-w) w) w):=by
  intro l
  induction l with
  |nil=>intro w;rfl
  |cons x l j=>simp_all[HJ]
 rw[g];rfl
theorem OS(x:Int):Lm x=some (Af x):=by
 grind[Lm,Af]
def AN(x:Int):Nat:=if 0<=x then(2*x).toNat else(-2*x-1).toNat
theorem MB{x:Int}(h:Af x=true):AN x<2147483648:=by
 grind[CD,AN]
theorem OT{x:Int}(h:Af x=true):NH x=some ((AN x:Nat):Int):=by
 have f:=CD.1 h;unfold NH AN;simp only[OS,h,oB,bT,cF];by_cases h0:0<=x;have g:A3 (x>=0)=true:=by simp_all
 simp only[g,cT,if_pos h0];grind[Ae,Aw];have g:A3 (x>=0)=false:=by simp_all
 simp only[g,cF,if_neg h0];grind[Ae,Aw]
theorem b0x{n:Int}(h:-18446744073709551616<=n/\n<0):zD .u64 n=n+18446744073709551616:=by
 grind[zD,IntKind.bits,IntKind.signed]
theorem a8G{y:Nat}(h:y<18446744073709551616):bits .u64 .xor (IntKind.max .u64) (y:Int)=((18446744073709551615-y:Nat):Int):=by
 show zD .u64 (((B3 64 (IntKind.max .u64)) ^^^ (B3 64 (y:Int))).toNat:Int)=_;have g:B3 64 (IntKind.max .u64)=BitVec.allOnes 64:=by rfl
 have f:B3 64 (y:Int)=BitVec.ofNat 64 y:=C2 64 y;rw[g,f,BitVec.allOnes_xor,BitVec.toNat_not,C9,D5 h];rw[Aw (by omega)]
theorem UF{x:Int}(h:Af x=true):RC x=some ((AN x:Nat):Int):=by
 have k:=CD.1 h;unfold RC RB AN;simp only[DG,h,oB,bT,cF];have f:∀y:Int,AT .u64 y 1=zD .u64 (y*2):=fun y=>rfl;by_cases h0:0<=x;have g:A3 (x<0)=false:=by simp_all
 simp only[g,cF,oB,if_pos h0,f];grind[Aw];have g:A3 (x<0)=true:=by simp_all
 simp only[g,cT,oB,if_neg h0,f];grind[zD,IntKind.bits,IntKind.signed,a8G]
theorem GL{N o:Nat}(h:o<=64):AR .u64 (N:Int) (o:Int)=((N / 2^o:Nat):Int):=Yn h
theorem RK{N o:Nat}(h:o<=64)(g:N*2^o<9223372036854775808):AT .u64 (N:Int) (o:Int)=((N*2^o:Nat):Int):=by
 unfold AT;show zD .u64 ((N:Int)*2^(min (o:Int).toNat 64))=_;grind[Aw]
theorem Yt{y k:Nat}(c:y<18446744073709551616)(f:k<=62):bits .u64 .and (y:Int) (zD .u64 (AT .u64 1 (k:Int)-1))=((y%2^k:Nat):Int):=by
 have d:2^k<=2^62:=B8 (by simp) f;have a:1<=2^k:=I7;have b:(2:Nat)^62=4611686018427387904:=by rfl
 have h:AT .u64 1 (k:Int)=((2^k:Nat):Int):=by have:=RK (N:=1) (o:=k) (by omega) (by omega);simp_all
 have g:zD .u64 (((2^k:Nat):Int)-1)=((2^k-1:Nat):Int):=by grind[Aw]
 rw[h,g];show zD .u64 (((B3 64 (y:Int)) &&& (B3 64 ((2^k-1:Nat):Int))).toNat:Int)=_;rw[C2,C2,J7,C9,C9,D5 c,D5 (by omega),Nat.and_two_pow_sub_one_eq_mod]
 have:y%2^k<2^k:=F5 _ (by omega)
 exact Aw (by omega)
theorem PH{q:Nat}(h:q<2147483648):zD .i64 (q:Int)=(q:Int):=Ae (by omega)
def MK(k:Nat)(x:Int)(L:List Int):List Int:=
 if AN x / 2^k<32 then AK ((AN x%2^k:Nat):Int) k (nH (AN x / 2^k) L)else AK ((AN x:Nat):Int) 32 (nH 32 L)
def HZ(k:Nat)(l:List Int)(L:List Int):List Int:=l.foldl (fun L x=>MK k x L) L
theorem SX{k:Nat}(h:k<=25)(x:Int)(L:LI):L.length<=(MK k x L).length/\(MK k x L).length<=L.length+100:=by
 grind[MK,AC,KU]
theorem We{k:Nat}(h:k<=25):∀(l L:LI),L.length<=(HZ k l L).length/\(HZ k l L).length<=L.length+100*l.length
 | [],L=>by simp[HZ]
 |x::l,L=>by
  have g:=SX h x L;have f:=We h l (MK k x L);have e:HZ k (x::l) L=HZ k l (MK k x L):=rfl;grind
theorem MC{k:Nat}(h:k<=25):Cz (k:Int)=some true:=by
 unfold Cz;grind
theorem RL{k:Nat}(h:k<=25):DC (k:Int)=some true:=by
 unfold DC;grind
theorem a4v{k:Nat}{l L:LI}(A:k<=25)(H:l.length<10000)(w:l.all Af=true)(G:L.length<900000000):SB (wL L,(k:Int),l)=some (0,wL (HZ k l L)):=by
 have E:=Cb (f:=Ni) l (fun i=>((k:Int),l,l,(l.length:Int),(i:Int),wL L,())) (fun _=>true) (bt:=B7 ((k:Int),l,wL L,())) (bf:=B7 ((k:Int),l,wL L,()))
  (fun i h _=>by
   have:=lA.1 w _ (A9 h)
   simp only[Ni,Cq h,cT,Ac h,oB,OS,this,bT,cF,Aa (show i<1000000 by omega)])
  (fun i h m=>by simp_all) (by simp[Ni])
 have q:∀(j i:Nat)(g:LI),i+j=l.length->g.length+100*j<999990000->Al Kd ((k:Int),l,(l.length:Int),(i:Int),wL g,())=some (wL (HZ k (l.drop i) g),()):=by
  intro j
  induction j with
  |zero=>
   intro i g z _;obtain rfl:i=l.length:=by omega
   simp_all[Ag,Kd,HZ]
  |succ j D=>
   intro i g z hb;have a:i<l.length:=by omega
   have c:=lA.1 w _ (A9 a);have C:=MB c;have B:=SX A l[i] g;have e:A3 ((k:Int)<0)=false:=by simp
   have r:AR .u64 ((AN l[i]:Nat):Int) (k:Int)=((AN l[i] / 2^k:Nat):Int):=GL (by omega);have p:=C0 (AN l[i]) (2^k);have t:=G8 (AN l[i]) (2^k);have d:AT .u64 ((AN l[i] / 2^k:Nat):Int) (k:Int)=((AN l[i] / 2^k*2^k:Nat):Int):=RK (by omega) (by grind);have x:zD .u64 (((AN l[i]:Nat):Int)-((AN l[i] / 2^k*2^k:Nat):Int))=((AN l[i]%2^k:Nat):Int):=by
    rw[G6 (AN l[i] / 2^k)];grind[Aw]
   have y:zD .i64 ((AN l[i] / 2^k:Nat):Int)=((AN l[i] / 2^k:Nat):Int):=PH (D0 p C);rw[A4 a,Ai (s':=((k:Int),l,(l.length:Int),((i+1:Nat):Int),wL (MK k l[i] g),())) (by
    by_cases hq:AN l[i] / 2^k<32;have o:A3 (((AN l[i] / 2^k:Nat):Int)<32)=true:=decide_eq_true (by omega);have u:(nH (AN l[i] / 2^k) g).length<999999000:=by
     rw[KU];omega
    have b:=a4u (L:=g) (n:=AN l[i] / 2^k) (F4 (B6 hq (by simp))) (by omega);have m:=HY (L:=nH (AN l[i] / 2^k) g) (v:=((AN l[i]%2^k:Nat):Int)) (n:=k) (by omega) u;simp only[Kd,Cq a,cT,Ac a,oB,OT c,e,cF,r,o,y,b,d,x,m,MK,if_pos hq,Aa (show i<1000000 by omega)];have o:A3 (((AN l[i] / 2^k:Nat):Int)<32)=false:=decide_eq_false (by omega);have u:=KU 32 g;have b:Da (wL g,(32:Int))=some (0,wL (nH 32 g)):=a4u (L:=g) (n:=32) (by omega) (by omega);have m:Ap (wL (nH 32 g),((AN l[i]:Nat):Int),(32:Int))=some (JE ((AN l[i]:Nat):Int) 32,wL (AK ((AN l[i]:Nat):Int) 32 (nH 32 g))):=HY (L:=nH 32 g) (v:=((AN l[i]:Nat):Int)) (n:=32) (by omega) (by omega);simp only[Kd,Cq a,cT,Ac a,oB,OT c,e,cF,r,o,b,m,MK,if_neg hq,Aa (show i<1000000 by omega)])]
   exact D (i+1) _ (by omega) (by omega)
 have F:=q l.length 0 L (by omega) (by omega);simp_all[SB,MC]
theorem kU{k:Nat}{l L:LI}(t:k<=25)(F:l.length<10000)(w:l.all Af=true)(E:L.length<900000000):OP ((L,()),(k:Int),l)=some (0,HZ k l L,()):=by
 have p:zD .u64 (k:Int)=(k:Int):=Aw (by omega);have m:∀(j i:Nat)(h:LI),i+j=l.length->h.length+100*j<999990000->Al HI ((k:Int),l,(i:Int),(h,()),())=some ((HZ k (l.drop i) h,()),()):=by
  intro j
  induction j with
  |zero=>
   intro i h z _;obtain rfl:i=l.length:=by omega
   simp_all[Ag,HI,HZ]
  |succ j D=>
   intro i h z hb;have g:i<l.length:=by omega
   have a:=lA.1 w _ (A9 g);have C:=MB a;have A:=SX t l[i] h;have b:A3 ((k:Int)<0)=false:=by simp
   have o:AR .u64 ((AN l[i]:Nat):Int) (k:Int)=((AN l[i] / 2^k:Nat):Int):=GL (by omega);have e:=C0 (AN l[i]) (2^k);have x:=Yt (y:=AN l[i]) (k:=k) (by omega) (by omega);have q:zD .i64 ((AN l[i] / 2^k:Nat):Int)=((AN l[i] / 2^k:Nat):Int):=PH (D0 e C);rw[A4 g,Ai (s':=((k:Int),l,((i+1:Nat):Int),(MK k l[i] h,()),())) (by
    by_cases hq:AN l[i] / 2^k<32;have c:A3 (((AN l[i] / 2^k:Nat):Int)<32)=true:=decide_eq_true (by omega);have u:(nH (AN l[i] / 2^k) h).length<999999000:=by
     rw[KU];omega
    have f:=Yr (L:=h) (n:=AN l[i] / 2^k) (F4 (B6 hq (by simp))) (by omega);have d:=Cc (L:=nH (AN l[i] / 2^k) h) (v:=((AN l[i]%2^k:Nat):Int)) (n:=k) (by omega) u;simp only[HI,Cq g,cT,Ac g,oB,UF a,p,b,cF,o,c,q,f,x,d,MK,if_pos hq,Aa (show i<1000000 by omega)];have c:A3 (((AN l[i] / 2^k:Nat):Int)<32)=false:=decide_eq_false (by omega);have u:=KU 32 h;have f:DP ((h,()),(32:Int))=some (0,nH 32 h,()):=Yr (L:=h) (n:=32) (by omega) (by omega);have d:Av ((nH 32 h,()),((AN l[i]:Nat):Int),(32:Int))=some (JE ((AN l[i]:Nat):Int) 32,AK ((AN l[i]:Nat):Int) 32 (nH 32 h),()):=Cc (L:=nH 32 h) (v:=((AN l[i]:Nat):Int)) (n:=32) (by omega) (by omega);simp only[HI,Cq g,cT,Ac g,oB,UF a,p,b,cF,o,c,q,f,d,MK,if_neg hq,Aa (show i<1000000 by omega)])]
   exact D (i+1) _ (by omega) (by omega)
 have r:=m l.length 0 L (by omega) (by omega);simp at r;have B:short l:=by unfold short;omega
 unfold OP;simp only[RL t,oB,bT,cF,Co B,w,r]
def Cm(zn:List Nat):List Int:=zn.map fun(a:Nat)=>(a:Int)
theorem pM(n M:Nat):(A6 n M).sum=n*M:=by
 simp
theorem UG{o n sH:Int}(h:(CH o n sH).length≠0):∃k:List Nat,CH o n sH=Cm k/\(k.sum:Int)=n-sH/\k.length<=256:=by
 unfold CH at h|-;cases hr:(Of n sH&&(A3 (0<=o)&&A3 (o<=8)))with
 |false=>simp_all
 |true=>
  rw[hr]at h;simp only[cT]at h|-;simp[Of]at hr;unfold SS at h|-;split at h;rename_i g;rw[if_pos g];obtain⟨O,rfl⟩:=A7 hr.2.1;obtain⟨N,rfl⟩:=A7 (show 0<=n by omega);obtain⟨w,rfl⟩:=A7 (show 0<=sH by omega);simp only[tN]at g|-;have a:=b8E (o:=O) (by omega);have f:=G8 N (2^O);rw[g.1,J0]at f;have b:w<=N / 2^O:=by omega
  generalize N / 2^O=M at g b f|-;generalize 2^O=P at a f|-;refine⟨(M-w)::A6 (P-1) M,?_,?_,?_⟩;grind[Cm,List.map_replicate];rw[I6,pM];obtain⟨q,rfl⟩:∃q,P=q+1:=⟨P-1,by omega⟩;grind;simp_all;simp_all
def PI(k:Int)(part L:List Int):List Int:=
 if k=31 then Dh (Ar part) part (AK ((Ar part:Nat):Int) 5 (AK (zD .u64 k) 5 L))else HZ k.toNat part (AK (zD .u64 k) 5 L)
def Ia:List Nat->List Int->List Int->List Int->List Int
 |z::zs,k::ks,l,L=>Ia zs ks (l.drop z) (PI k (l.take z) L)
 |_,_,_,L=>L
theorem SY{k:Int}(h:kB k=true)(part L:LI):L.length<=(PI k part L).length/\(PI k part L).length<=L.length+10+100*part.length:=by
 unfold PI;have a:=AC (zD .u64 k) 5 L;split;have b:=AC ((Ar part:Nat):Int) 5 (AK (zD .u64 k) 5 L);have c:=FG (Ar part) part (AK ((Ar part:Nat):Int) 5 (AK (zD .u64 k) 5 L));have f:=Fl part
 have:Ar part*part.length<=32*part.length:=D8 _ f
 omega;rename_i g;simp[kB]at h;grind[We]
theorem HV{g:List Nat}{i:Nat}(h:i<g.length):J2 (Cm g) i 0=((g[i]:Nat):Int):=by
 simp_all[Cm]
theorem Bq(h:List Nat):(Cm h).length=h.length:=by simp[Cm]
theorem RM{g:List Nat}{i:Nat}(h:i<g.length):(g.drop i).sum=g[i]+(g.drop (i+1)).sum:=by
 grind[A4]
theorem a4w{part zG:LI}{wd:Nat}{a b:Int}{z:LI}{p:Vq}(c:wd<=32)(hp:part.length<10000):∀(j i:Nat)(L:LI),i+j=part.length->L.length+64*j<999990000->
  Al Mg (zG,(wd:Int),a,b,part,(part.length:Int),(i:Int),z,wL L,p,())=some (zG,a,b,z,wL (Dh wd (part.drop i) L),p,())
 |0,i,L,f,_=>by
  obtain rfl:i=part.length:=by omega
  simp_all[Ag,Mg,Dh]
 |j+1,i,L,f,hb=>by
  have h:i<part.length:=by omega
  have g:A3 ((wd:Int)<0)=false:=by simp
  have k:=AC (Br part[i] wd) wd L;rw[A4 h,Ai (s':=(zG,(wd:Int),a,b,part,(part.length:Int),((i+1:Nat):Int),z,wL (AK (Br part[i] wd) wd L),p,())) (by
   simp only[Mg,Cq h,cT,Ac h,oB,g,cF,show bits .u64 .and (zD .u64 part[i]) (zD .u64 ((AT .u64 1 (wd:Int))-1))=Br part[i] wd from rfl,HY (show wd<=63 by omega) (show L.length<999999000 by omega),Aa (show i<1000000 by omega)])]
  exact a4w c hp j (i+1) _ (by omega) (by omega)
theorem UH{h:List Nat}{p:Vq}(R:p.2.1.length=h.length)(d:p.2.1.all kB=true)(V:h.length<=256):∀(j i:Nat)(l L:LI),i+j=h.length->(h.drop i).sum=l.length->l.all Af=true->l.length<=5000->L.length+10*j+100*l.length<800000000->
  Al GC (l,(h.length:Int),(i:Int),Cm h,wL L,p,())=some (wL (Ia (h.drop i) (p.2.1.drop i) l L),())
 |0,i,l,L,Q,_,_,_,_=>by
  obtain rfl:i=h.length:=by omega
  simp_all[Ag,GC,Ia]
 |j+1,i,l,L,Q,hsum,H,hl5,hb=>by
  have g:i<h.length:=by omega
  have c:i<p.2.1.length:=by omega
  have u:=lA.1 d _ (A9 c);rw[RM g]at hsum;have D:A3 ((0:Int)<=(i:Int))=true:=by simp
  have E:A3 ((i:Int)<(((Cm h).length:Nat):Int))=true:=by simp_all[Bq]
  have F:A3 ((0:Int)<=((h[i]:Nat):Int))=true:=by simp
  have G:A3 (((h[i]:Nat):Int)<=((l.length:Nat):Int))=true:=by grind
  have v:(l.take h[i]).length=h[i]:=by simp_all
  have r:(l.drop h[i]).length=(h.drop (i+1)).sum:=by grind
  have A:(l.take h[i]).all Af=true:=lA.2 fun x C=>lA.1 H x (D2 C);have B:(l.drop h[i]).all Af=true:=lA.2 fun x C=>lA.1 H x (D3 C);have U:=SY u (l.take h[i]) L;have S:=AC (zD .u64 p.2.1[i]) 5 L;have e:Ap (wL L,zD .u64 p.2.1[i],(5:Int))=some (JE (zD .u64 p.2.1[i]) 5,wL (AK (zD .u64 p.2.1[i]) 5 L)):=HY (n:=5) (by omega) (by omega);have M:h.drop i=h[i]::h.drop (i+1):=A4 g;have N:p.2.1.drop i=p.2.1[i]::p.2.1.drop (i+1):=A4 c;rw[M,N,Ia];have t:GC (l,(h.length:Int),(i:Int),Cm h,wL L,p,())=some (.inl (l.drop h[i],(h.length:Int),((i+1:Nat):Int),Cm h,wL (PI p.2.1[i] (l.take h[i]) L),p,())):=by
   by_cases h31:p.2.1[i]=31;have o:(p.2.1[i] != 31)=false:=by simp_all
   have y:=Fl (l.take h[i]);have w:=Di (l:=l.take h[i]) (by unfold short;omega);have T:=AC ((Ar (l.take h[i]):Nat):Int) 5 (AK (zD .u64 p.2.1[i]) 5 L);have O:zD .u64 ((Ar (l.take h[i]):Nat):Int)=((Ar (l.take h[i]):Nat):Int):=Aw (by omega);have q:Ap (wL (AK (zD .u64 p.2.1[i]) 5 L),((Ar (l.take h[i]):Nat):Int),(5:Int))=some (JE ((Ar (l.take h[i]):Nat):Int) 5,wL (AK ((Ar (l.take h[i]):Nat):Int) 5 (AK (zD .u64 p.2.1[i]) 5 L))):=HY (n:=5) (by omega) (by omega);have m:=a4w (part:=l.take h[i]) (zG:=l.drop h[i]) (a:=(h.length:Int)) (b:=(i:Int)) (z:=Cm h) (p:=p) y (by omega) (l.take h[i]).length 0 (AK ((Ar (l.take h[i]):Nat):Int) 5 (AK (zD .u64 p.2.1[i]) 5 L)) (by omega) (by omega);simp only[nZ,C3]at m;simp only[GC,Cq g,D,E,HV g,F,G,cT,A8,tN,Ac c,oB,e,o,cF,w,O,q,C1,m,Aa (show i<1000000 by omega),PI,if_pos h31];have o:(p.2.1[i] != 31)=true:=by simp_all
   simp[kB]at u;obtain⟨K,P⟩:=A7 (show 0<=p.2.1[i]by omega);have f:=a4v (k:=K) (l:=l.take h[i]) (L:=AK (zD .u64 p.2.1[i]) 5 L) (by omega) (by omega) A (by omega);rw[<-P]at f;have I:K=p.2.1[i].toNat:=by omega
   simp only[GC,Cq g,D,E,HV g,F,G,cT,A8,tN,Ac c,oB,e,o,f,C1,Aa (show i<1000000 by omega),PI,if_neg h31,I]
  rw[Ai t];exact UH R d V j (i+1) (l.drop h[i]) _ (by omega) r.symm B (by omega) (by omega)
theorem PJ{h:List Nat}{p:Vq}{l:LI}(Q:p.2.1.length=h.length)(c:p.2.1.all kB=true)(X:h.length<=256)(G:l.all Af=true)(u:l.length<=5000):∀(j i off:Nat)(L:LI),i+j=h.length->off+(h.drop i).sum=l.length->L.length+10*j+100*(l.length-off)<800000000->
  Al EE (l,(off:Int),(i:Int),Cm h,(L,()),p,())=some ((Ia (h.drop i) (p.2.1.drop i) (l.drop off) L,()),())
 |0,i,off,L,P,_,_=>by
  obtain rfl:i=h.length:=by omega
  simp_all[Ag,EE,Ia,Bq]
 |j+1,i,off,L,P,hsum,hb=>by
  have b:i<h.length:=by omega
  have a:i<p.2.1.length:=by omega
  have r:=lA.1 c _ (A9 a);rw[RM b]at hsum;have A:A3 ((0:Int)<=(i:Int))=true:=by simp
  have B:A3 ((i:Int)<(((Cm h).length:Nat):Int))=true:=by simp_all[Bq]
  have z:zD .i64 ((off:Int)+((h[i]:Nat):Int))=((off+h[i]:Nat):Int):=by grind[Ae]
  have C:A3 ((0:Int)<=((off+h[i]:Nat):Int))=true:=by rfl
  have D:A3 (((off+h[i]:Nat):Int)<=((l.length:Nat):Int))=true:=by grind
  have E:A3 ((0:Int)<=(off:Int))=true:=by simp
  have F:A3 ((off:Int)<=((off+h[i]:Nat):Int))=true:=by grind
  have g:List.drop off (K7 (off+h[i]) l)=(l.drop off).take h[i]:=by grind
  have e:(l.drop off).drop h[i]=l.drop (off+h[i]):=by simp
  have v:((l.drop off).take h[i]).length=h[i]:=by rw[E5,F1];omega
  have y:((l.drop off).take h[i]).all Af=true:=lA.2 fun x V=>lA.1 G x (D3 (D2 V));have T:=SY r ((l.drop off).take h[i]) L;have R:=AC (zD .u64 p.2.1[i]) 5 L;have d:Av ((L,()),zD .u64 p.2.1[i],(5:Int))=some (JE (zD .u64 p.2.1[i]) 5,AK (zD .u64 p.2.1[i]) 5 L,()):=Cc (n:=5) (by omega) (by omega);have I:h.drop i=h[i]::h.drop (i+1):=A4 b;have M:p.2.1.drop i=p.2.1[i]::p.2.1.drop (i+1):=A4 a;rw[I,M,Ia,e];have q:EE (l,(off:Int),(i:Int),Cm h,(L,()),p,())=some (.inl (l,((off+h[i]:Nat):Int),((i+1:Nat):Int),Cm h,(PI p.2.1[i] ((l.drop off).take h[i]) L,()),p,())):=by
   by_cases h31:p.2.1[i]=31;have m:(p.2.1[i]==31)=true:=by simp_all
   have U:=Fl ((l.drop off).take h[i]);have w:=OR (l:=(l.drop off).take h[i]) (by unfold short;omega);have S:=AC ((Ar ((l.drop off).take h[i]):Nat):Int) 5 (AK (zD .u64 p.2.1[i]) 5 L);have N:zD .u64 ((Ar ((l.drop off).take h[i]):Nat):Int)=((Ar ((l.drop off).take h[i]):Nat):Int):=Aw (by omega);have o:Av ((AK (zD .u64 p.2.1[i]) 5 L,()),((Ar ((l.drop off).take h[i]):Nat):Int),(5:Int))=some (JE ((Ar ((l.drop off).take h[i]):Nat):Int) 5,AK ((Ar ((l.drop off).take h[i]):Nat):Int) 5 (AK (zD .u64 p.2.1[i]) 5 L),()):=Cc (n:=5) (by omega) (by omega);have t:=JF (l:=(l.drop off).take h[i]) (L:=AK ((Ar ((l.drop off).take h[i]):Nat):Int) 5 (AK (zD .u64 p.2.1[i]) 5 L)) (n:=Ar ((l.drop off).take h[i])) (by omega) (by omega) (by omega);simp only[EE,A,B,HV b,z,C,D,E,F,cT,A8,tN,Ac a,oB,d,m,g,w,N,o,t,Aa (show i<1000000 by omega),PI,if_pos h31];have m:(p.2.1[i]==31)=false:=by simp_all
   simp[kB]at r;obtain⟨K,O⟩:=A7 (show 0<=p.2.1[i]by omega);have f:=kU (k:=K) (l:=(l.drop off).take h[i]) (L:=AK (zD .u64 p.2.1[i]) 5 L) (by omega) (by omega) y (by omega);rw[<-O]at f;have H:K=p.2.1[i].toNat:=by omega
   simp only[EE,A,B,HV b,z,C,D,E,F,cT,cF,A8,tN,Ac a,oB,d,m,g,f,Aa (show i<1000000 by omega),PI,if_neg h31,H]
  rw[Ai q];exact PJ Q c X G u j (i+1) (off+h[i]) _ (by omega) (by omega) (by omega)
theorem kV{k:Nat}(d:k<=25){x:Int}(g:Af x=true):∃c,Ln ((k:Int),x)=some c/\0<=c/\c<=65:=by
 have e:=MB g;have f:AR .u64 ((AN x:Nat):Int) (k:Int)=((AN x / 2^k:Nat):Int):=GL (by omega);have a:zD .i64 ((AN x / 2^k:Nat):Int)=((AN x / 2^k:Nat):Int):=PH (D0 (C0 _ _) e);have h:A3 ((k:Int)<0)=false:=by simp
 unfold Ln;simp only[MC d,OS,g,oB,bT,cF,OT g,h,f,a];generalize AN x / 2^k=q;by_cases hq:q<32;have b:A3 ((q:Int)<32)=true:=decide_eq_true (by omega);refine⟨(q:Int)+1+k,?_,by omega,by omega⟩;simp only[b,cT];grind[Ae];grind
theorem Yu{k:Nat}(e:k<=25){x:Int}(g:Af x=true):∃c,Nm ((k:Int),x)=some c/\0<=c/\c<=65:=by
 have i:=MB g;have f:AR .u64 ((AN x:Nat):Int) (k:Int)=((AN x / 2^k:Nat):Int):=GL (by omega);have b:zD .i64 ((AN x / 2^k:Nat):Int)=((AN x / 2^k:Nat):Int):=PH (D0 (C0 _ _) i);have a:zD .u64 (k:Int)=(k:Int):=Aw (by omega);have h:A3 ((k:Int)<0)=false:=by simp
 unfold Nm;simp only[RL e,DG,g,oB,bT,cF,UF g,a,h,f,b];generalize AN x / 2^k=q;by_cases hq:q<32;have d:A3 ((q:Int)<32)=true:=decide_eq_true (by omega);refine⟨(q:Int)+1+k,?_,by omega,by omega⟩;simp only[d,cT];grind[Ae];grind
theorem pN{k:Nat}(q:k<=25){l:LI}(r:l.all Af=true)(w:l.length<10000):∃c,FQ ((k:Int),l)=some c/\0<=c/\c<=65*l.length:=by
 have f:∀(j i:Nat)(c:Int),i+j=l.length->0<=c->c<=65*i->∃g,Al FO ((k:Int),c,l,(l.length:Int),(i:Int),())=some (g,())/\0<=g/\g<=65*l.length:=by
  intro j
  induction j with
  |zero=>
   intro i c p b a;obtain rfl:i=l.length:=by omega
   simp_all[Ag,FO]
  |succ j t=>
   intro i c p b a;have h:i<l.length:=by omega
   obtain⟨d,m,n,o⟩:=kV q (lA.1 r _ (A9 h));have e:zD .i64 (c+d)=c+d:=Ae (by omega);rw[Ai (s':=((k:Int),c+d,l,(l.length:Int),((i+1:Nat):Int),())) (by simp only[FO,Cq h,cT,Ac h,oB,m,e,Aa (show i<1000000 by omega)])];exact t (i+1) _ (by omega) (by omega) (by omega)
 obtain⟨c,a,u,v⟩:=f l.length 0 0 (by omega) (by omega) (by omega);simp_all[FQ]
theorem ZV{k:Nat}(q:k<=25){l:LI}(r:l.all Af=true)(w:l.length<10000):∃c,OO ((k:Int),l)=some c/\0<=c/\c<=65*l.length:=by
 have f:∀(j i:Nat)(c:Int),i+j=l.length->0<=c->c<=65*i->∃g,Al KJ ((k:Int),l,c,(i:Int),())=some (g,())/\0<=g/\g<=65*l.length:=by
  intro j
  induction j with
  |zero=>
   intro i c p b a;obtain rfl:i=l.length:=by omega
   simp_all[Ag,KJ]
  |succ j t=>
   intro i c p b a;have h:i<l.length:=by omega
   obtain⟨d,m,n,o⟩:=Yu q (lA.1 r _ (A9 h));have e:zD .i64 (c+d)=c+d:=Ae (by omega);rw[Ai (s':=((k:Int),l,c+d,((i+1:Nat):Int),())) (by simp only[KJ,Cq h,cT,Ac h,oB,m,e,Aa (show i<1000000 by omega)])];exact t (i+1) _ (by omega) (by omega) (by omega)
 obtain⟨c,a,u,v⟩:=f l.length 0 0 (by omega) (by omega) (by omega);simp_all[OO]
theorem rI{w n:Nat}(g:w<=32)(f:n<10000):0<=(w:Int)*(n:Int)/\(w:Int)*(n:Int)<=32*n:=by
 have h:w*n<=32*n:=D8 _ g;omega
theorem kW{l:LI}(h:l.length<10000):∃c,IL l=some c/\0<=c/\c<=5+32*l.length:=by
 have g:=rI (Fl l) h;refine⟨5+((Ar l:Nat):Int)*((l.length:Nat):Int),?_,by omega,by omega⟩;unfold IL;simp only[Di (show short l by unfold short;omega),oB];grind[Ae]
theorem Tx{h:List Nat}{p:Vq}(P:p.2.1.length=h.length)(f:p.2.1.all kB=true)(Q:h.length<=256):∀(j i:Nat)(l:LI)(c:Int),i+j=h.length->(h.drop i).sum=l.length->l.all Af=true->l.length<=5000->4<=c->c+10*j+65*l.length<1000000->
  ∃B,Al BP (l,c,(h.length:Int),(i:Int),Cm h,p,())=some (B,())/\4<=B
 |0,i,l,c,O,_,_,_,I,_=>by
  obtain rfl:i=h.length:=by omega
  simp_all[Ag,BP]
 |j+1,i,l,c,O,hsum,G,hl5,I,hb=>by
  have g:i<h.length:=by omega
  have a:i<p.2.1.length:=by omega
  have t:=lA.1 f _ (A9 a);rw[RM g]at hsum;have C:A3 ((0:Int)<=(i:Int))=true:=by simp
  have D:A3 ((i:Int)<(((Cm h).length:Nat):Int))=true:=by simp_all[Bq]
  have E:A3 ((0:Int)<=((h[i]:Nat):Int))=true:=by simp
  have F:A3 (((h[i]:Nat):Int)<=((l.length:Nat):Int))=true:=by grind
  have u:(l.take h[i]).length=h[i]:=by simp_all
  have e:(l.drop h[i]).length=(h.drop (i+1)).sum:=by grind
  have y:(l.take h[i]).all Af=true:=lA.2 fun x A=>lA.1 G x (D2 A);have z:(l.drop h[i]).all Af=true:=lA.2 fun x A=>lA.1 G x (D3 A);have m:∃d,BP (l,c,(h.length:Int),(i:Int),Cm h,p,())=some (.inl (l.drop h[i],c+d,(h.length:Int),((i+1:Nat):Int),Cm h,p,()))/\0<=d/\d<=10+65*h[i]:=by
   by_cases h31:p.2.1[i]=31;have b:(p.2.1[i]==31)=true:=by simp_all
   obtain⟨r,n,v,w⟩:=kW (l:=l.take h[i]) (by omega);have o:zD .i64 (5+r)=5+r:=Ae (by omega);have q:zD .i64 (c+(5+r))=c+(5+r):=Ae (by omega);refine⟨5+r,?_,by omega,by omega⟩;simp only[BP,Cq g,C,D,HV g,E,F,cT,A8,tN,Ac a,oB,b,n,o,q,C1,Aa (show i<1000000 by omega)];have b:(p.2.1[i]==31)=false:=by simp_all
   simp[kB]at t;obtain⟨K,H⟩:=A7 (show 0<=p.2.1[i]by omega);obtain⟨r,n,v,w⟩:=pN (k:=K) (by omega) y (by omega);rw[<-H]at n;have o:zD .i64 (5+r)=5+r:=Ae (by omega);have q:zD .i64 (c+(5+r))=c+(5+r):=Ae (by omega);refine⟨5+r,?_,by omega,by omega⟩;simp only[BP,Cq g,C,D,HV g,E,F,cT,cF,A8,tN,Ac a,oB,b,n,o,q,C1,Aa (show i<1000000 by omega)]
  obtain⟨d,L,M,N⟩:=m;rw[Ai L];exact Tx P f Q j (i+1) (l.drop h[i]) _ (by omega) e.symm z (by omega) (by omega) (by omega)
theorem Ot{h:List Nat}{p:Vq}{l:LI}(O:p.2.1.length=h.length)(g:p.2.1.all kB=true)(S:h.length<=256)(w:l.all Af=true)(q:l.length<=5000):∀(j i off:Nat)(c:Int),i+j=h.length->off+(h.drop i).sum=l.length->4<=c->c+10*j+65*(l.length-off:Nat)<1000000->
  ∃v,Al Iy (l,c,(off:Int),(i:Int),Cm h,p,())=some (v,())/\4<=v
 |0,i,off,c,N,_,H,_=>by
  obtain rfl:i=h.length:=by omega
  simp_all[Ag,Iy,Bq]
 |j+1,i,off,c,N,hsum,H,hb=>by
  have e:i<h.length:=by omega
  have b:i<p.2.1.length:=by omega
  have o:=lA.1 g _ (A9 b);rw[RM e]at hsum;have B:A3 ((0:Int)<=(i:Int))=true:=by simp
  have C:A3 ((i:Int)<(((Cm h).length:Nat):Int))=true:=by simp_all[Bq]
  have A:zD .i64 ((off:Int)+((h[i]:Nat):Int))=((off+h[i]:Nat):Int):=by grind[Ae]
  have D:A3 ((0:Int)<=((off+h[i]:Nat):Int))=true:=by rfl
  have E:A3 (((off+h[i]:Nat):Int)<=((l.length:Nat):Int))=true:=by grind
  have F:A3 ((0:Int)<=(off:Int))=true:=by simp
  have G:A3 ((off:Int)<=((off+h[i]:Nat):Int))=true:=by grind
  have f:List.drop off (K7 (off+h[i]) l)=(l.drop off).take h[i]:=by grind
  have t:((l.drop off).take h[i]).length=h[i]:=by rw[E5,F1];omega
  have u:((l.drop off).take h[i]).all Af=true:=lA.2 fun x R=>lA.1 w x (D3 (D2 R));have a:∃d,Nn (p.2.1[i],(l.drop off).take h[i])=some d/\0<=d/\d<=5+65*h[i]:=by
   unfold Nn;by_cases h31:p.2.1[i]=31;have m:(p.2.1[i]==31)=true:=by simp_all
   have U:=rI (Fl ((l.drop off).take h[i])) (show((l.drop off).take h[i]).length<10000 by omega);refine⟨5+((Ar ((l.drop off).take h[i]):Nat):Int)*((((l.drop off).take h[i]).length:Nat):Int),?_,by omega,by omega⟩;simp only[m,cT,OR (show short ((l.drop off).take h[i])by unfold short;omega),oB];rw[Int.mul_comm (((((l.drop off).take h[i]).length:Nat):Int)),Ae (n:=((Ar ((l.drop off).take h[i]):Nat):Int)*((((l.drop off).take h[i]).length:Nat):Int)) (by omega),Ae (by omega)];have m:(p.2.1[i]==31)=false:=by simp_all
   simp[kB]at o;obtain⟨K,T⟩:=A7 (show 0<=p.2.1[i]by omega);obtain⟨r,V,P,Q⟩:=ZV (k:=K) (by omega) u (by omega);grind
  obtain⟨d,I,L,M⟩:=a;have y:zD .i64 (c+5)=c+5:=Ae (by omega);have z:zD .i64 (c+5+d)=c+5+d:=Ae (by omega);rw[Ai (s':=(l,c+5+d,((off+h[i]:Nat):Int),((i+1:Nat):Int),Cm h,p,())) (by
   simp only[Iy,B,C,HV e,A,D,E,F,G,cT,A8,tN,Ac b,oB,f,I,y,z,Aa (show i<1000000 by omega)])]
  exact Ot O g S w q j (i+1) (off+h[i]) _ (by omega) (by omega) (by omega) (by omega)
structure sV (p:Vq) (n sH:Int) (l:List Int) (zn:List Nat):Prop where
 may:Hu p n sH=true
 sizes:CH p.1 n sH=Cm zn
 sum:zn.sum=l.length
 len:zn.length<=256
 ks:p.2.1.length=zn.length
 all:p.2.1.all kB=true
 wide:l.all Af=true
 short:l.length<=5000
 row:Of n sH=true
 rest:(l.length:Int)=n-sH
 order:0<=p.1/\p.1<=8
theorem sV.of{p:Vq}{n sH:Int}{l:LI}(h:Hu p n sH=true)(i:(l.length:Int)=n-sH)(j:l.all Af=true)(e:l.length<=5000):∃g,sV p n sH l g:=by
 have f:=h;simp only[Hu,EV,E8,beq_eq_false_iff_ne,ne_eq,beq_iff_eq]at f;obtain⟨c,o,d⟩:=f;obtain⟨g,a,m,b⟩:=UG c;have k:Of n sH=true/\0<=p.1/\p.1<=8:=by
  grind[CH]
 exact⟨g,h,a,by omega,b,by simp_all[Bq],d,j,e,k.1,i,k.2⟩
theorem PK{n sH:Int}{l:LI}(h:Of n sH=true)(c:(l.length:Int)=n-sH)(d:l.all Af=true)(a:l.length<=5000):Kc (n,sH,l)=some true:=by
 have e:zD .i64 (n-sH)=n-sH:=by
  simp[Of]at h;exact Ae (by omega)
 have k:(((l.length:Nat):Int) != n-sH)=false:=by simp_all
 have f:Ry=Dp:=rfl;have g:short l:=by unfold short;omega
 have b:=GJ g;simp_all[Dw,Kc,SR]
theorem fR{p:Vq}{n sH:Int}{l:LI}{f:List Nat}(h:sV p n sH l f):∃c,Hi (p,n,sH,l)=some c/\4<=c:=by
 have a:Go.Ab.short p.2.1:=by have:=h.ks;have:=h.len;unfold Go.Ab.short;omega
 have b:=h.short;have d:=h.len;obtain⟨c,g,k⟩:=Tx h.ks h.all h.len f.length 0 l 4 (by omega) (by rw[C3];exact h.sum) h.wide h.short (by omega) (by omega);simp at g;refine⟨c,?_,k⟩;unfold Hi;simp only[OQ a,h.may,PK h.row h.rest h.wide h.short,oB,bT,cF,CY,h.sizes,Bq,g]
theorem WX{p:Vq}{n sH:Int}{l:LI}{f:List Nat}(h:sV p n sH l f):∃c,Mv (p,n,sH,l)=some c/\4<=c:=by
 have b:Go.Ab.short p.2.1:=by have:=h.ks;have:=h.len;unfold Go.Ab.short;omega
 have i:Go.Ab.short l:=by have:=h.short;unfold Go.Ab.short;omega
 have j:=h.short;have m:=h.len;have d:=h.row;simp[Of]at d;have e:zD .i64 (n-sH)=n-sH:=Ae (by omega);have a:(((l.length:Nat):Int) != n-sH)=false:=by rw[h.rest];simp
 obtain⟨c,g,k⟩:=Ot h.ks h.all h.len h.wide h.short f.length 0 0 4 (by omega) (by rw[C3,h.sum];omega) (by omega) (by omega);simp at g;refine⟨c,?_,k⟩;unfold Mv;simp only[Og b,h.may,oB,bT,cF,e,a,Co i,h.wide,MA,h.sizes,g]
def Dt(p:Vq)(zn:List Nat)(l L:List Int):List Int:=Ia zn p.2.1 l (AK (zD .u64 p.1) 4 L)
theorem a1U{p:Vq}{n sH:Int}{l L:LI}{a:List Nat}(h:sV p n sH l a)(j:L.length<700000000):Qh (wL L,p,n,sH,l)=some (0,wL (Dt p a l L)):=by
 have i:=h.short;have m:=h.len;obtain⟨c,b,d⟩:=fR h;have k:(c==0)=false:=by grind
 have e:=AC (zD .u64 p.1) 4 L;have f:Ap (wL L,zD .u64 p.1,(4:Int))=some (JE (zD .u64 p.1) 4,wL (AK (zD .u64 p.1) 4 L)):=HY (n:=4) (by omega) (by omega);have g:=UH h.ks h.all h.len a.length 0 l (AK (zD .u64 p.1) 4 L) (by omega) (by rw[C3];exact h.sum) h.wide h.short (by omega);simp at g;unfold Qh;simp only[b,oB,k,cF,f,CY,h.sizes,Bq,g,Dt]
theorem fS{p:Vq}{n sH:Int}{l L:LI}{a:List Nat}(h:sV p n sH l a)(j:L.length<700000000):Np ((L,()),p,n,sH,l)=some (0,Dt p a l L,()):=by
 have i:=h.short;have m:=h.len;obtain⟨c,b,d⟩:=WX h;have k:(c==0)=false:=by grind
 have e:=AC (zD .u64 p.1) 4 L;have f:Av ((L,()),zD .u64 p.1,(4:Int))=some (JE (zD .u64 p.1) 4,AK (zD .u64 p.1) 4 L,()):=Cc (n:=4) (by omega) (by omega);have g:=PJ h.ks h.all h.len h.wide h.short a.length 0 0 (AK (zD .u64 p.1) 4 L) (by omega) (by rw[C3,h.sum];omega) (by omega);simp at g;unfold Np;simp only[b,oB,k,cF,f,MA,h.sizes,g,Dt]
theorem kX{c:LI}{wd:Nat}(a:wd<=32)(g:c.length<10000):∀(j i:Nat)(L:LI),i+j=c.length->L.length+64*j<999990000->
  Al Ip ((wd:Int),c,(c.length:Int),(i:Int),wL L,())=some (wL (Dh wd (c.drop i) L),())
 |0,i,L,f,_=>by
  obtain rfl:i=c.length:=by omega
  simp_all[Ag,Ip,Dh]
 |j+1,i,L,f,hb=>by
  have h:i<c.length:=by omega
  have k:=AC (Br c[i] wd) wd L;rw[A4 h,Ai (s':=((wd:Int),c,(c.length:Int),((i+1:Nat):Int),wL (AK (Br c[i] wd) wd L),())) (by
   simp only[Ip,Cq h,cT,Ac h,oB,SW (show wd<=63 by omega) (show L.length<999999000 by omega),Aa (show i<1000000 by omega)])]
  exact kX a g j (i+1) _ (by omega) (by omega)
theorem rJ{t:LI}{n wd:Int}{s:BS}(b:t.length=3):∀(j i:Nat)(L:LI),i+j=3->L.length+64*j<999990000->
  Al OE (n,wd,t,(i:Int),wL L,s,())=some (n,wd,wL (Dh 8 (t.drop i) L),s,())
 |0,i,L,k,_=>by
  obtain rfl:i=t.length:=by omega
  grind[Ag,OE,Dh]
 |j+1,i,L,k,hb=>by
  have h:i<t.length:=by omega
  have f:A3 ((i:Int)<3)=true:=by grind
  have a:=AC (Br t[i] 8) 8 L;have g:DV (wL L,t[i],(8:Int))=some (wL (AK (Br t[i] 8) 8 L)):=SW (n:=8) (by omega) (by omega);rw[A4 h,Ai (s':=(n,wd,t,((i+1:Nat):Int),wL (AK (Br t[i] 8) 8 L),s,())) (by
   simp only[OE,f,cT,Ac h,oB,g,Aa (show i<1000000 by omega)])]
  exact rJ b j (i+1) _ (by omega) (by omega)
theorem rK{l:LI}{n:Int}{wd:Nat}{s:BS}(a:wd<=32)(f:l.length<10000):∀(j i:Nat)(L:LI),i+j=l.length->L.length+64*j<999990000->
  Al OG (n,(wd:Int),l,(l.length:Int),(i:Int),wL L,s,())=some (n,wL (Dh wd (l.drop i) L),s,())
 |0,i,L,g,_=>by
  obtain rfl:i=l.length:=by omega
  simp_all[Ag,OG,Dh]
 |j+1,i,L,g,hb=>by
  have h:i<l.length:=by omega
  have k:=AC (Br l[i] wd) wd L;rw[A4 h,Ai (s':=(n,(wd:Int),l,(l.length:Int),((i+1:Nat):Int),wL (AK (Br l[i] wd) wd L),s,())) (by
   simp only[OG,Cq h,cT,Ac h,oB,SW (show wd<=63 by omega) (show L.length<999999000 by omega),Aa (show i<1000000 by omega)])]
  exact rK a f j (i+1) _ (by omega) (by omega)
def KV(s:RF)(L:List Int):List Int:=AK (zD .u64 s.2.1) 4 (AK (zD .u64 (zD .i64 (s.1-1))) 5 L)
def EY(st:List RF)(L:List Int):List Int:=st.foldl (fun L s=>KV s L) L
theorem Re(s:RF)(L:LI):(KV s L).length<=L.length+9:=by
 grind[AC,KV]
theorem UI:∀(st:List RF)(L:LI),(EY st L).length<=L.length+9*st.length
 | [],L=>by simp[EY]
 |s::st,L=>by
  have h:=Re s L;have g:=UI st (KV s L);have e:EY (s::st) L=EY st (KV s L):=rfl;grind
theorem dH{st:List RF}{n wd:Int}{s:BS}(b:st.length<10000):∀(j i:Nat)(L:LI),i+j=st.length->L.length+64*j<999990000->
  Al OF (n,wd,st,(st.length:Int),(i:Int),wL L,s,())=some (n,wd,wL (EY (st.drop i) L),s,())
 |0,i,L,k,_=>by
  obtain rfl:i=st.length:=by omega
  simp_all[Ag,OF,EY]
 |j+1,i,L,k,hb=>by
  have h:i<st.length:=by omega
  have a:=AC (zD .u64 (zD .i64 (st[i].1-1))) 5 L;have c:=Re st[i] L;have g:Ap (wL L,zD .u64 (zD .i64 (st[i].1-1)),(5:Int))=some (JE (zD .u64 (zD .i64 (st[i].1-1))) 5,wL (AK (zD .u64 (zD .i64 (st[i].1-1))) 5 L)):=HY (n:=5) (by omega) (by omega);have f:Ap (wL (AK (zD .u64 (zD .i64 (st[i].1-1))) 5 L),zD .u64 st[i].2.1,(4:Int))=some (JE (zD .u64 st[i].2.1) 4,wL (KV st[i] L)):=HY (n:=4) (by omega) (by omega);rw[A4 h,Ai (s':=(n,wd,st,(st.length:Int),((i+1:Nat):Int),wL (KV st[i] L),s,())) (by
   simp only[OF,Cq h,cT,Ac h,oB,g,f,Aa (show i<1000000 by omega)])]
  exact dH b j (i+1) _ (by omega) (by omega)
theorem Tz{n wd:Int}{s:BS}(b:s.2.2.2.2.2.2.2.1.length<10000):∀(j i:Nat)(L:LI),i+j=s.2.2.2.2.2.2.2.1.length->L.length+64*j<999990000->
  Al KK (n,wd,(i:Int),(L,()),s,())=some (n,wd,(EY (s.2.2.2.2.2.2.2.1.drop i) L,()),s,())
 |0,i,L,k,_=>by
  obtain rfl:i=s.2.2.2.2.2.2.2.1.length:=by omega
  simp_all[Ag,KK,EY]
 |j+1,i,L,k,hb=>by
  have h:i<s.2.2.2.2.2.2.2.1.length:=by omega
  have a:=AC (zD .u64 (zD .i64 (s.2.2.2.2.2.2.2.1[i].1-1))) 5 L;have c:=Re s.2.2.2.2.2.2.2.1[i] L;have g:Av ((L,()),zD .u64 (zD .i64 (s.2.2.2.2.2.2.2.1[i].1-1)),(5:Int))=some (JE (zD .u64 (zD .i64 (s.2.2.2.2.2.2.2.1[i].1-1))) 5,AK (zD .u64 (zD .i64 (s.2.2.2.2.2.2.2.1[i].1-1))) 5 L,()):=Cc (n:=5) (by omega) (by omega);have f:Av ((AK (zD .u64 (zD .i64 (s.2.2.2.2.2.2.2.1[i].1-1))) 5 L,()),zD .u64 s.2.2.2.2.2.2.2.1[i].2.1,(4:Int))=some (JE (zD .u64 s.2.2.2.2.2.2.2.1[i].2.1) 4,KV s.2.2.2.2.2.2.2.1[i] L,()):=Cc (n:=4) (by omega) (by omega);rw[A4 h,Ai (s':=(n,wd,((i+1:Nat):Int),(KV s.2.2.2.2.2.2.2.1[i] L,()),s,())) (by
   simp only[KK,Cq h,cT,Ac h,oB,g,f,Aa (show i<1000000 by omega)])]
  exact Tz b j (i+1) _ (by omega) (by omega)
def IX(s:BS)(L:List Int):List Int:=
 Dh (Ar s.2.2.2.2.2.1) s.2.2.2.2.2.1 (AK ((Ar s.2.2.2.2.2.1:Nat):Int) 5 (AK (zD .u64 s.2.2.2.1) 4 (AK (zD .u64 (zD .i64 (((s.2.2.2.2.2.1.length:Nat):Int)-1))) 5 L)))
theorem pO{s:BS}(h:s.2.2.2.2.2.1.length<=40)(L:LI):(IX s L).length<=L.length+2000:=by
 unfold IX;have f:=AC (zD .u64 (zD .i64 (((s.2.2.2.2.2.1.length:Nat):Int)-1))) 5 L;have k:=AC (zD .u64 s.2.2.2.1) 4 (AK (zD .u64 (zD .i64 (((s.2.2.2.2.2.1.length:Nat):Int)-1))) 5 L);have a:=AC ((Ar s.2.2.2.2.2.1:Nat):Int) 5 (AK (zD .u64 s.2.2.2.1) 4 (AK (zD .u64 (zD .i64 (((s.2.2.2.2.2.1.length:Nat):Int)-1))) 5 L));have b:=FG (Ar s.2.2.2.2.2.1) s.2.2.2.2.2.1 (AK ((Ar s.2.2.2.2.2.1:Nat):Int) 5 (AK (zD .u64 s.2.2.2.1) 4 (AK (zD .u64 (zD .i64 (((s.2.2.2.2.2.1.length:Nat):Int)-1))) 5 L)));have g:=Fl s.2.2.2.2.2.1
 have:Ar s.2.2.2.2.2.1*s.2.2.2.2.2.1.length<=32*40:=I4 g h
 omega
theorem dI{s:BS}(h:s.2.2.2.2.2.1.length<=40){L:LI}(l:L.length<900000000):Me (wL L,s)=some (wL (IX s L)):=by
 have e:=AC (zD .u64 (zD .i64 (((s.2.2.2.2.2.1.length:Nat):Int)-1))) 5 L;have i:=AC (zD .u64 s.2.2.2.1) 4 (AK (zD .u64 (zD .i64 (((s.2.2.2.2.2.1.length:Nat):Int)-1))) 5 L);have j:=AC ((Ar s.2.2.2.2.2.1:Nat):Int) 5 (AK (zD .u64 s.2.2.2.1) 4 (AK (zD .u64 (zD .i64 (((s.2.2.2.2.2.1.length:Nat):Int)-1))) 5 L));have k:=Fl s.2.2.2.2.2.1;have f:zD .u64 ((Ar s.2.2.2.2.2.1:Nat):Int)=((Ar s.2.2.2.2.2.1:Nat):Int):=Aw (by omega);have a:Ap (wL L,zD .u64 (zD .i64 (((s.2.2.2.2.2.1.length:Nat):Int)-1)),(5:Int))=some (JE (zD .u64 (zD .i64 (((s.2.2.2.2.2.1.length:Nat):Int)-1))) 5,wL (AK (zD .u64 (zD .i64 (((s.2.2.2.2.2.1.length:Nat):Int)-1))) 5 L)):=HY (n:=5) (by omega) (by omega);have b:Ap (wL (AK (zD .u64 (zD .i64 (((s.2.2.2.2.2.1.length:Nat):Int)-1))) 5 L),zD .u64 s.2.2.2.1,(4:Int))=some (JE (zD .u64 s.2.2.2.1) 4,wL (AK (zD .u64 s.2.2.2.1) 4 (AK (zD .u64 (zD .i64 (((s.2.2.2.2.2.1.length:Nat):Int)-1))) 5 L))):=HY (n:=4) (by omega) (by omega);have d:Ap (wL (AK (zD .u64 s.2.2.2.1) 4 (AK (zD .u64 (zD .i64 (((s.2.2.2.2.2.1.length:Nat):Int)-1))) 5 L)),((Ar s.2.2.2.2.2.1:Nat):Int),(5:Int))=some (JE ((Ar s.2.2.2.2.2.1:Nat):Int) 5,wL (AK ((Ar s.2.2.2.2.2.1:Nat):Int) 5 (AK (zD .u64 s.2.2.2.1) 4 (AK (zD .u64 (zD .i64 (((s.2.2.2.2.2.1.length:Nat):Int)-1))) 5 L)))):=HY (n:=5) (by omega) (by omega);have g:=kX (c:=s.2.2.2.2.2.1) k (by omega) s.2.2.2.2.2.1.length 0 (AK ((Ar s.2.2.2.2.2.1:Nat):Int) 5 (AK (zD .u64 s.2.2.2.1) 4 (AK (zD .u64 (zD .i64 (((s.2.2.2.2.2.1.length:Nat):Int)-1))) 5 L))) (by omega) (by omega);simp at g;unfold Me;simp only[a,b,Di (show short s.2.2.2.2.2.1 by unfold short;omega),f,d,g,oB,IX]
theorem RN{s:BS}(h:s.2.2.2.2.2.1.length<=40){L:LI}(i:L.length<800000000):HH ((L,()),s)=some (IX s L,()):=by
 have c:=AC (zD .u64 (zD .i64 (((s.2.2.2.2.2.1.length:Nat):Int)-1))) 5 L;have d:=AC (zD .u64 s.2.2.2.1) 4 (AK (zD .u64 (zD .i64 (((s.2.2.2.2.2.1.length:Nat):Int)-1))) 5 L);have e:=AC ((Ar s.2.2.2.2.2.1:Nat):Int) 5 (AK (zD .u64 s.2.2.2.1) 4 (AK (zD .u64 (zD .i64 (((s.2.2.2.2.2.1.length:Nat):Int)-1))) 5 L));have j:=Fl s.2.2.2.2.2.1;have f:zD .u64 ((Ar s.2.2.2.2.2.1:Nat):Int)=((Ar s.2.2.2.2.2.1:Nat):Int):=Aw (by omega);have k:Av ((L,()),zD .u64 (zD .i64 (((s.2.2.2.2.2.1.length:Nat):Int)-1)),(5:Int))=some (JE (zD .u64 (zD .i64 (((s.2.2.2.2.2.1.length:Nat):Int)-1))) 5,AK (zD .u64 (zD .i64 (((s.2.2.2.2.2.1.length:Nat):Int)-1))) 5 L,()):=Cc (n:=5) (by omega) (by omega);have a:Av ((AK (zD .u64 (zD .i64 (((s.2.2.2.2.2.1.length:Nat):Int)-1))) 5 L,()),zD .u64 s.2.2.2.1,(4:Int))=some (JE (zD .u64 s.2.2.2.1) 4,AK (zD .u64 s.2.2.2.1) 4 (AK (zD .u64 (zD .i64 (((s.2.2.2.2.2.1.length:Nat):Int)-1))) 5 L),()):=Cc (n:=4) (by omega) (by omega);have b:Av ((AK (zD .u64 s.2.2.2.1) 4 (AK (zD .u64 (zD .i64 (((s.2.2.2.2.2.1.length:Nat):Int)-1))) 5 L),()),((Ar s.2.2.2.2.2.1:Nat):Int),(5:Int))=some (JE ((Ar s.2.2.2.2.2.1:Nat):Int) 5,AK ((Ar s.2.2.2.2.2.1:Nat):Int) 5 (AK (zD .u64 s.2.2.2.1) 4 (AK (zD .u64 (zD .i64 (((s.2.2.2.2.2.1.length:Nat):Int)-1))) 5 L)),()):=Cc (n:=5) (by omega) (by omega);have g:=JF (l:=s.2.2.2.2.2.1) (n:=Ar s.2.2.2.2.2.1) (L:=AK ((Ar s.2.2.2.2.2.1:Nat):Int) 5 (AK (zD .u64 s.2.2.2.1) 4 (AK (zD .u64 (zD .i64 (((s.2.2.2.2.2.1.length:Nat):Int)-1))) 5 L))) (by omega) (by omega) (by omega);unfold HH;simp only[k,a,OR (show short s.2.2.2.2.2.1 by unfold short;omega),f,b,g,oB,IX]
def QA(s:BS)(L:List Int):List Int:=
 AK ((Ar s.2.2.2.2.2.2.2.2.1:Nat):Int) 5 (AK (zD .u64 s.2.1) 5 (AK (zD .u64 s.1) 3 L))
def CJ(s:BS)(L:List Int):List Int:=
 if s.1=2 then AK (zD .u64 s.2.2.1) 3 L
 else if s.1=3 then IX s L
 else if s.1=4 then IX s (Dh 8 s.2.2.2.2.2.2.1 (AK (zD .u64 (zD .i64 (s.2.2.2.2.1-1))) 10 L))
 else if s.1=5 then EY s.2.2.2.2.2.2.2.1 (AK (zD .u64 ((s.2.2.2.2.2.2.2.1.length:Nat):Int)) 2 L)
 else L
theorem Yv{s:BS}(h:sN s)(L:LI):(CJ s L).length<=L.length+3000:=by
 have f:=h.uL;have k:=h.taps;have g:=h.stages;grind[CJ,AC,pO,FG,UI]
theorem Rf:∀(g:List Nat)(ks l L:LI),ks.all kB=true->(Ia g ks l L).length<=L.length+10*g.length+100*l.length
 |z::g,k::ks,l,L,h=>by
  simp only[C8,EV]at h;have f:=SY h.1 (l.take z) L;have a:=Rf g ks (l.drop z) (PI k (l.take z) L) h.2;rw[E5]at f;rw[F1]at a;simp only[Ia,lC];omega
 | [],_,_,_,_=>by simp_all[Ia]
 |_::_,[],_,_,_=>by grind[Ia]
def Er(s:BS)(zn:List Nat)(L:List Int):List Int:=
 if s.1=0\/s.1=1 then Dh (Ar s.2.2.2.2.2.2.2.2.1) s.2.2.2.2.2.2.2.2.1 (CJ s (QA s L))
 else Dt s.2.2.2.2.2.2.2.2.2.1 zn s.2.2.2.2.2.2.2.2.2.2.1 (Dh (Ar s.2.2.2.2.2.2.2.2.1) s.2.2.2.2.2.2.2.2.1 (CJ s (QA s L)))
theorem WY{s:BS}(h:sN s){n:Int}{L:LI}(U:L.length<100000000):
  ∃(e:Int)(d:LI),Pd (wL L,s,n)=some (e,wL d)/\(e=0\/d=L)/\d.length<=L.length+700000/\
   ((F9S s n).isSome=true->e=0/\∃a,d=Er s a L/\(s.1≠0/\s.1≠1->sV s.2.2.2.2.2.2.2.2.2.1 n ((s.2.2.2.2.2.2.2.2.1.length:Nat):Int) s.2.2.2.2.2.2.2.2.2.2.1 a))/\((F9S s n).isSome=false->e=1/\d=L):=by
 unfold Pd;simp only[kS h,oB];cases hs:(F9S s n).isSome with
 |false=>exact⟨1,L,rfl,.inr rfl,by omega,fun h=>(by grind),fun _=>⟨rfl,rfl⟩⟩
 |true=>
  have C:BW s n:=by
   grind[F9S]
  obtain⟨S,T,B,-,-,-,-,w,G,D,-,q⟩:=C;have b:=Vr B;have o:=Fl s.2.2.2.2.2.2.2.2.1;have v:short s.2.2.2.2.2.2.2.2.1:=by have:=h.sH;unfold short;omega
  have c:=h.sH;have u:=h.rest;have E:=h.stages;have F:=h.taps;have V:=AC (zD .u64 s.1) 3 L;have X:=AC (zD .u64 s.2.1) 5 (AK (zD .u64 s.1) 3 L);have Y:=AC ((Ar s.2.2.2.2.2.2.2.2.1:Nat):Int) 5 (AK (zD .u64 s.2.1) 5 (AK (zD .u64 s.1) 3 L));have A:zD .u64 ((Ar s.2.2.2.2.2.2.2.2.1:Nat):Int)=((Ar s.2.2.2.2.2.2.2.2.1:Nat):Int):=Aw (by omega);have N:Ap (wL L,zD .u64 s.1,(3:Int))=some (JE (zD .u64 s.1) 3,wL (AK (zD .u64 s.1) 3 L)):=HY (n:=3) (by omega) (by omega);have O:Ap (wL (AK (zD .u64 s.1) 3 L),zD .u64 s.2.1,(5:Int))=some (JE (zD .u64 s.2.1) 5,wL (AK (zD .u64 s.2.1) 5 (AK (zD .u64 s.1) 3 L))):=HY (n:=5) (by omega) (by omega);have x:Ap (wL (AK (zD .u64 s.2.1) 5 (AK (zD .u64 s.1) 3 L)),((Ar s.2.2.2.2.2.2.2.2.1:Nat):Int),(5:Int))=some (JE ((Ar s.2.2.2.2.2.2.2.2.1:Nat):Int) 5,wL (QA s L)):=HY (n:=5) (by omega) (by omega);have P:(QA s L).length<=L.length+13:=by unfold QA;omega
  generalize hM:QA s L=M at x P;have Z:=Yv h M;have Q:=FG (Ar s.2.2.2.2.2.2.2.2.1) s.2.2.2.2.2.2.2.2.1 (CJ s M);have q7:Ar s.2.2.2.2.2.2.2.2.1*s.2.2.2.2.2.2.2.2.1.length<=32*5000:=I4 o c;have g:=rK (l:=s.2.2.2.2.2.2.2.2.1) (n:=n) (s:=s) o (by omega) s.2.2.2.2.2.2.2.2.1.length 0 (CJ s M) (by omega) (by omega);simp at g

  have j:=dH (st:=s.2.2.2.2.2.2.2.1) (n:=n) (wd:=((Ar s.2.2.2.2.2.2.2.2.1:Nat):Int)) (s:=s) (by omega) s.2.2.2.2.2.2.2.1.length 0 (AK (zD .u64 ((s.2.2.2.2.2.2.2.1.length:Nat):Int)) 2 M) (by omega) (by grind[AC]);have q8:=AC (zD .u64 (zD .i64 (s.2.2.2.2.1-1))) 10 M;have q9:=FG 8 s.2.2.2.2.2.2.1 (AK (zD .u64 (zD .i64 (s.2.2.2.2.1-1))) 10 M);have m:=rJ (t:=s.2.2.2.2.2.2.1) (n:=n) (wd:=((Ar s.2.2.2.2.2.2.2.2.1:Nat):Int)) (s:=s) F 3 0 (AK (zD .u64 (zD .i64 (s.2.2.2.2.1-1))) 10 M) (by rfl) (by omega);simp at j m;have H:Ap (wL M,zD .u64 s.2.2.1,(3:Int))=some (JE (zD .u64 s.2.2.1) 3,wL (AK (zD .u64 s.2.2.1) 3 M)):=HY (n:=3) (by omega) (by omega);have I:Ap (wL M,zD .u64 (zD .i64 (s.2.2.2.2.1-1)),(10:Int))=some (JE (zD .u64 (zD .i64 (s.2.2.2.2.1-1))) 10,wL (AK (zD .u64 (zD .i64 (s.2.2.2.2.1-1))) 10 M)):=HY (n:=10) (by omega) (by omega);have K:Ap (wL M,zD .u64 ((s.2.2.2.2.2.2.2.1.length:Nat):Int),(2:Int))=some (JE (zD .u64 ((s.2.2.2.2.2.2.2.1.length:Nat):Int)) 2,wL (AK (zD .u64 ((s.2.2.2.2.2.2.2.1.length:Nat):Int)) 2 M)):=HY (n:=2) (by omega) (by omega);have y:=dI (s:=s) h.uL (L:=M) (by omega);have z:=dI (s:=s) h.uL (L:=Dh 8 s.2.2.2.2.2.2.1 (AK (zD .u64 (zD .i64 (s.2.2.2.2.1-1))) 10 M)) (by omega);simp only[bT,cF,Di v,oB,N,O,A,x];generalize hPM:Dh (Ar s.2.2.2.2.2.2.2.2.1) s.2.2.2.2.2.2.2.2.1 (CJ s M)=PM at g Q

  have p:∀(i:s.1≠0/\s.1≠1),∃a,sV s.2.2.2.2.2.2.2.2.2.1 n ((s.2.2.2.2.2.2.2.2.1.length:Nat):Int) s.2.2.2.2.2.2.2.2.2.2.1 a:=fun i=>by
   simp_all[sV.of]
  rcases b with k|k|k|k|k|k;have f:CJ s M=M:=by unfold CJ;grind
  rw[f]at g;refine⟨0,PM,?_,.inl rfl,by omega,fun _=>⟨rfl,[],by simp_all[Er],fun h=>absurd k (by omega)⟩,fun h=>by grind⟩;simp only[k,show((0:Int)==2)=false from rfl,show((0:Int)==4)=false from rfl,show((0:Int)==3)=false from rfl,show((0:Int)==5)=false from rfl,cF,oB,g,Lr]
  simp
  have f:CJ s M=M:=by unfold CJ;grind
  rw[f]at g;refine⟨0,PM,?_,.inl rfl,by omega,fun _=>⟨rfl,[],by simp_all[Er],fun h=>absurd k (by omega)⟩,fun h=>by grind⟩;simp only[k,show((1:Int)==2)=false from rfl,show((1:Int)==4)=false from rfl,show((1:Int)==3)=false from rfl,show((1:Int)==5)=false from rfl,cF,oB,g,Lr]
  simp
  all_goals
   obtain⟨a,r⟩:=p (by omega);have t1:=a1U (L:=PM) r (by omega);have R:(Dt s.2.2.2.2.2.2.2.2.2.1 a s.2.2.2.2.2.2.2.2.2.2.1 PM).length<=L.length+700000:=by
    have z1:=AC (zD .u64 s.2.2.2.2.2.2.2.2.2.1.1) 4 PM;have z2:=Rf a s.2.2.2.2.2.2.2.2.2.1.2.1 s.2.2.2.2.2.2.2.2.2.2.1 (AK (zD .u64 s.2.2.2.2.2.2.2.2.2.1.1) 4 PM) r.all;have z3:=r.len;grind[Dt]
   refine⟨0,Dt s.2.2.2.2.2.2.2.2.2.1 a s.2.2.2.2.2.2.2.2.2.2.1 PM,?_,.inl rfl,R,fun _=>⟨rfl,a,by simp_all[Er],fun _=>r⟩,fun h=>by grind⟩
  have f:CJ s M=AK (zD .u64 s.2.2.1) 3 M:=by unfold CJ;grind
  rw[f]at g;simp only[k,show((2:Int)==2)=true from rfl,cT,H,oB,g,Lr];grind;have f:CJ s M=IX s M:=by unfold CJ;grind
  rw[f]at g;simp only[k,show((3:Int)==2)=false from rfl,show((3:Int)==4)=false from rfl,show((3:Int)==3)=true from rfl,cT,cF,y,oB,g,Lr];grind;have f:CJ s M=IX s (Dh 8 s.2.2.2.2.2.2.1 (AK (zD .u64 (zD .i64 (s.2.2.2.2.1-1))) 10 M)):=by unfold CJ;grind
  rw[f]at g;simp only[k,show((4:Int)==2)=false from rfl,show((4:Int)==4)=true from rfl,cT,cF,I,m,z,oB,g,Lr];grind;have f:CJ s M=EY s.2.2.2.2.2.2.2.1 (AK (zD .u64 ((s.2.2.2.2.2.2.2.1.length:Nat):Int)) 2 M):=by unfold CJ;grind
  rw[f]at g;simp only[k,show((5:Int)==2)=false from rfl,show((5:Int)==4)=false from rfl,show((5:Int)==3)=false from rfl,show((5:Int)==5)=true from rfl,cT,cF,K,j,oB,g,Lr];grind
theorem a7i{s:BS}(h:sN s){n:Int}{L:LI}(T:L.length<100000000):
  ∃(e:Int)(i:LI),Mw ((L,()),s,n)=some (e,i,())/\(e=0\/i=L)/\i.length<=L.length+700000/\
   ((F9S s n).isSome=true->e=0/\∃a,i=Er s a L/\(s.1≠0/\s.1≠1->sV s.2.2.2.2.2.2.2.2.2.1 n ((s.2.2.2.2.2.2.2.2.1.length:Nat):Int) s.2.2.2.2.2.2.2.2.2.2.1 a))/\((F9S s n).isSome=false->e=1/\i=L):=by
 unfold Mw;simp only[pL h,oB];cases hs:(F9S s n).isSome with
 |false=>grind
 |true=>
  have F:BW s n:=by
   grind[F9S]
  obtain⟨R,S,E,-,-,-,-,B,I,G,-,p⟩:=F;have c:=Vr E;have x:=Fl s.2.2.2.2.2.2.2.2.1;have w:short s.2.2.2.2.2.2.2.2.1:=by have:=h.sH;unfold short;omega
  have d:=h.sH;have v:=h.rest;have H:=h.stages;have U:=h.taps;have V:=AC (zD .u64 s.1) 3 L;have X:=AC (zD .u64 s.2.1) 5 (AK (zD .u64 s.1) 3 L);have Y:=AC ((Ar s.2.2.2.2.2.2.2.2.1:Nat):Int) 5 (AK (zD .u64 s.2.1) 5 (AK (zD .u64 s.1) 3 L));have D:zD .u64 ((Ar s.2.2.2.2.2.2.2.2.1:Nat):Int)=((Ar s.2.2.2.2.2.2.2.2.1:Nat):Int):=Aw (by omega);have O:Av ((L,()),zD .u64 s.1,(3:Int))=some (JE (zD .u64 s.1) 3,AK (zD .u64 s.1) 3 L,()):=Cc (n:=3) (by omega) (by omega);have P:Av ((AK (zD .u64 s.1) 3 L,()),zD .u64 s.2.1,(5:Int))=some (JE (zD .u64 s.2.1) 5,AK (zD .u64 s.2.1) 5 (AK (zD .u64 s.1) 3 L),()):=Cc (n:=5) (by omega) (by omega);have C:Av ((AK (zD .u64 s.2.1) 5 (AK (zD .u64 s.1) 3 L),()),((Ar s.2.2.2.2.2.2.2.2.1:Nat):Int),(5:Int))=some (JE ((Ar s.2.2.2.2.2.2.2.2.1:Nat):Int) 5,QA s L,()):=Cc (n:=5) (by omega) (by omega);have K:(QA s L).length<=L.length+13:=by unfold QA;omega
  generalize hM:QA s L=M at C K;have Z:=Yv h M;have N:=FG (Ar s.2.2.2.2.2.2.2.2.1) s.2.2.2.2.2.2.2.2.1 (CJ s M);have q7:Ar s.2.2.2.2.2.2.2.2.1*s.2.2.2.2.2.2.2.2.1.length<=32*5000:=I4 x d;have g:=JF (l:=s.2.2.2.2.2.2.2.2.1) (n:=Ar s.2.2.2.2.2.2.2.2.1) (L:=CJ s M) (by omega) (by omega) (by omega)

  have b:=Tz (n:=n) (wd:=((Ar s.2.2.2.2.2.2.2.2.1:Nat):Int)) (s:=s) (by omega) s.2.2.2.2.2.2.2.1.length 0 (AK (zD .u64 ((s.2.2.2.2.2.2.2.1.length:Nat):Int)) 2 M) (by omega) (by grind[AC]);have q8:=AC (zD .u64 (zD .i64 (s.2.2.2.2.1-1))) 10 M;have q9:=FG 8 s.2.2.2.2.2.2.1 (AK (zD .u64 (zD .i64 (s.2.2.2.2.1-1))) 10 M);have m:DF ((AK (zD .u64 (zD .i64 (s.2.2.2.2.1-1))) 10 M,()),s.2.2.2.2.2.2.1,(8:Int))=some (Dh 8 s.2.2.2.2.2.2.1 (AK (zD .u64 (zD .i64 (s.2.2.2.2.1-1))) 10 M),()):=JF (n:=8) (by omega) (by omega) (by omega);have u:K7 3 s.2.2.2.2.2.2.1=s.2.2.2.2.2.2.1:=C4 (by omega);simp at b;have y:Av ((M,()),zD .u64 s.2.2.1,(3:Int))=some (JE (zD .u64 s.2.2.1) 3,AK (zD .u64 s.2.2.1) 3 M,()):=Cc (n:=3) (by omega) (by omega);have z:Av ((M,()),zD .u64 (zD .i64 (s.2.2.2.2.1-1)),(10:Int))=some (JE (zD .u64 (zD .i64 (s.2.2.2.2.1-1))) 10,AK (zD .u64 (zD .i64 (s.2.2.2.2.1-1))) 10 M,()):=Cc (n:=10) (by omega) (by omega);have A:Av ((M,()),zD .u64 ((s.2.2.2.2.2.2.2.1.length:Nat):Int),(2:Int))=some (JE (zD .u64 ((s.2.2.2.2.2.2.2.1.length:Nat):Int)) 2,AK (zD .u64 ((s.2.2.2.2.2.2.2.1.length:Nat):Int)) 2 M,()):=Cc (n:=2) (by omega) (by omega);have r:=RN (s:=s) h.uL (L:=M) (by omega);have t:=RN (s:=s) h.uL (L:=Dh 8 s.2.2.2.2.2.2.1 (AK (zD .u64 (zD .i64 (s.2.2.2.2.1-1))) 10 M)) (by omega);simp only[bT,cF,OR w,oB,O,P,D,C];generalize hPM:Dh (Ar s.2.2.2.2.2.2.2.2.1) s.2.2.2.2.2.2.2.2.1 (CJ s M)=PM at g N

  have o:∀(j:s.1≠0/\s.1≠1),∃a,sV s.2.2.2.2.2.2.2.2.2.1 n ((s.2.2.2.2.2.2.2.2.1.length:Nat):Int) s.2.2.2.2.2.2.2.2.2.2.1 a:=fun j=>by
   simp_all[sV.of]
  rcases c with k|k|k|k|k|k;have f:CJ s M=M:=by unfold CJ;grind
  rw[f]at g;refine⟨0,PM,?_,.inl rfl,by omega,fun _=>⟨rfl,[],by simp_all[Er],fun h=>absurd k (by omega)⟩,fun h=>by grind⟩;simp only[k,show((0:Int)==2)=false from rfl,show((0:Int)==4)=false from rfl,show((0:Int)==3)=false from rfl,show((0:Int)==5)=false from rfl,cF,oB,g,KT]
  simp
  have f:CJ s M=M:=by unfold CJ;grind
  rw[f]at g;refine⟨0,PM,?_,.inl rfl,by omega,fun _=>⟨rfl,[],by simp_all[Er],fun h=>absurd k (by omega)⟩,fun h=>by grind⟩;simp only[k,show((1:Int)==2)=false from rfl,show((1:Int)==4)=false from rfl,show((1:Int)==3)=false from rfl,show((1:Int)==5)=false from rfl,cF,oB,g,KT]
  simp
  all_goals
   obtain⟨a,q⟩:=o (by omega);have t2:=fS (L:=PM) q (by omega);have Q:(Dt s.2.2.2.2.2.2.2.2.2.1 a s.2.2.2.2.2.2.2.2.2.2.1 PM).length<=L.length+700000:=by
    have z1:=AC (zD .u64 s.2.2.2.2.2.2.2.2.2.1.1) 4 PM;have z2:=Rf a s.2.2.2.2.2.2.2.2.2.1.2.1 s.2.2.2.2.2.2.2.2.2.2.1 (AK (zD .u64 s.2.2.2.2.2.2.2.2.2.1.1) 4 PM) q.all;have z3:=q.len;grind[Dt]
   refine⟨0,Dt s.2.2.2.2.2.2.2.2.2.1 a s.2.2.2.2.2.2.2.2.2.2.1 PM,?_,.inl rfl,Q,fun _=>⟨rfl,a,by simp_all[Er],fun _=>q⟩,fun h=>by grind⟩
  have f:CJ s M=AK (zD .u64 s.2.2.1) 3 M:=by unfold CJ;grind
  rw[f]at g;simp only[k,show((2:Int)==2)=true from rfl,cT,y,oB,g,KT];grind;have f:CJ s M=IX s M:=by unfold CJ;grind
  rw[f]at g;simp only[k,show((3:Int)==2)=false from rfl,show((3:Int)==3)=true from rfl,cT,cF,r,oB,g,KT];grind;have f:CJ s M=IX s (Dh 8 s.2.2.2.2.2.2.1 (AK (zD .u64 (zD .i64 (s.2.2.2.2.1-1))) 10 M)):=by unfold CJ;grind
  rw[f]at g;simp only[k,show((4:Int)==2)=false from rfl,show((4:Int)==3)=false from rfl,show((4:Int)==4)=true from rfl,cT,cF,z,u,m,t,oB,g,KT];grind;have f:CJ s M=EY s.2.2.2.2.2.2.2.1 (AK (zD .u64 ((s.2.2.2.2.2.2.2.1.length:Nat):Int)) 2 M):=by unfold CJ;grind
  rw[f]at g;simp only[k,show((5:Int)==2)=false from rfl,show((5:Int)==4)=false from rfl,show((5:Int)==3)=false from rfl,show((5:Int)==5)=true from rfl,cT,cF,A,b,oB,g,KT];grind
theorem NP(h:List Nat):(Cm h).map D6=h:=by
 unfold Cm;rw[List.map_map]
 have:D6∘(fun(a:Nat)=>(a:Int))=id:=by rfl
 simp_all
theorem b0y{p:Vq}{n sH:Int}{l:LI}{z g:List Nat}(h:sV p n sH l z)(f:sV p n sH l g):z=g:=by
 rw[<-NP z,<-h.sizes,f.sizes,NP]
def ML(s:BS)(n:Int):Int:=
 if(F9S s n).isSome=true then(((Er s ((CH s.2.2.2.2.2.2.2.2.2.1.1 n ((s.2.2.2.2.2.2.2.2.1.length:Nat):Int)).map D6) []).length:Nat):Int)else 0
theorem a1V{s:BS}{n:Int}{h:List Nat}(g:s.1≠0/\s.1≠1->sV s.2.2.2.2.2.2.2.2.2.1 n ((s.2.2.2.2.2.2.2.2.1.length:Nat):Int) s.2.2.2.2.2.2.2.2.2.2.1 h)(L:LI):
  Er s h L=Er s ((CH s.2.2.2.2.2.2.2.2.2.1.1 n ((s.2.2.2.2.2.2.2.2.1.length:Nat):Int)).map D6) L:=by
 by_cases hk:s.1=0\/s.1=1;simp_all[Er];rw[(g (not_or.1 hk)).sizes,NP]
theorem a8H{s:BS}(h:sN s)(n:Int):Ho (s,n)=some (ML s n):=by
 obtain⟨e,f,g,-,-,k,c⟩:=WY h (n:=n) (L:=[]) (by simp);have a:wL []=(([]:List Int),(0:Int),()):=rfl;rw[a]at g;obtain⟨d,-⟩:=GK f;unfold Ho ML;simp[g,Mq];cases hs:(F9S s n).isSome with
 |false=>
  simp_all
 |true=>
  obtain⟨rfl,i,rfl,b⟩:=k hs;rw[if_pos rfl,<-a1V b];simp_all
def kY(L:List Int)(i:Nat):List Int:=(wL (L.take i)).1++A6 ((L.length+7) / 8-(i+7) / 8) 0
theorem a4x{L:LI}{i:Nat}(h:i<=L.length):(kY L i).length=(L.length+7) / 8:=by
 grind[GK,kY]
theorem b0z{L:LI}{i:Nat}(h:i<L.length):
  (kY L i).set (i / 8) (bits .u8 .or ((kY L i).getD (i / 8) 0) (AT .u8 L[i] (7-(i:Int)%8)))=kY L (i+1):=by
 obtain⟨g,f⟩:=GK (L.take i);rw[E5,K4 (F4 h)]at g f;have b:L.take (i+1)=L.take i++[L[i]]:=by simp
 unfold kY;rw[b,gF];generalize wL (L.take i)=wr at g f|-;obtain⟨a,n,u⟩:=wr;have g:n=(i:Int):=g;have f:a.length=(i+7) / 8:=f;subst g;have e8:((i:Int) / 8).toNat=i / 8:=by rfl
 unfold a7h;simp only[e8];by_cases hz:i%8=0;have k:(i:Int)%8=0:=by omega
 rw[if_pos k];have c:(L.length+7) / 8-(i+7) / 8=((L.length+7) / 8-(i+1+7) / 8)+1:=by omega
 grind;grind
theorem a1W{L:LI}(E:L.length<1000000000):Iz (L,())=some ((wL L).1,L,()):=by
 have x:zD .i64 (((L.length:Nat):Int)+7)=((L.length:Nat):Int)+7:=Ae (by omega);have y:K3 (((L.length:Nat):Int)+7) 8=(((L.length:Nat):Int)+7) / 8:=E4 (by omega);have z:zD .i64 ((((L.length:Nat):Int)+7) / 8)=(((L.length:Nat):Int)+7) / 8:=Ae (by omega);have A:D6 ((((L.length:Nat):Int)+7) / 8)=(L.length+7) / 8:=by rfl
 have B:A3 ((0:Int)<=(((L.length:Nat):Int)+7) / 8)=true:=by rfl
 have C:A3 ((((L.length:Nat):Int)+7) / 8<=(((L.length:Nat):Int)+7) / 8)=true:=by simp
 have D:Bp ((L.length+7) / 8)=true:=AW (by omega);have h:kY L 0=A6 ((L.length+7) / 8) 0:=by rfl
 have l:kY L L.length=(wL L).1:=by simp[kY]
 have a:=Bz (f:=FF) (fun i:Nat=>((i:Int),kY L i,(L,()),())) L.length (b:=((wL L).1,(L,()),()))
  (fun i m=>by
   have q:K3 (i:Int) 8=(i:Int) / 8:=E4 (by omega);have r:G3 (i:Int) 8=(i:Int)%8:=F9 (by omega);have t:zD .i64 ((i:Int) / 8)=(i:Int) / 8:=Ae (by omega);have u:zD .i64 (7-(i:Int)%8)=7-(i:Int)%8:=Ae (by omega);have v:zD .u64 (7-(i:Int)%8)=7-(i:Int)%8:=Aw (by omega);have w:zD .i64 ((i:Int)+1)=((i+1:Nat):Int):=by grind[Ae]
   have k:A3 ((i:Int)<((L.length:Nat):Int))=true:=by simp_all
   have c:A3 ((0:Int)<=(i:Int) / 8)=true:=by rfl
   have d:A3 ((i:Int) / 8<(((kY L i).length:Nat):Int))=true:=by grind[a4x]
   have e:A3 ((0:Int)<=(i:Int))=true:=by simp
   have j:A3 (7-(i:Int)%8<0)=false:=by grind
   have n:D6 ((i:Int) / 8)=i / 8:=by rfl
   have o:D6 (i:Int)=i:=by rfl
   have g:L.getD i 0=L[i]:=by simp_all
   have p:=b0z m;simp only[FF,q,r,t,u,v,w,k,c,d,e,j,n,o,g,p,A8,cT,cF])
  (by
   have k:A3 (((L.length:Nat):Int)<((L.length:Nat):Int))=false:=by simp
   simp_all[FF])
 simp_all[Iz]
def b4Q:List Int->List Int
 |a::b::r=>W (b-a)::b4Q (b::r)
 |_=>[]
theorem MX:∀l:List Int,(b4Q l).length=l.length-1
 | []=>rfl
 | [_]=>rfl
 |a::b::r=>by simp[b4Q,MX (b::r)]
theorem a1X:∀(l:LI)(i:Nat)(x y:Int),l[i]?=some x->l[i+1]?=some y->(b4Q l)[i]?=some (W (y-x))
 |a::b::r,0,x,y,h,g=>by simp at h g;subst h;subst g;rfl
 |a::b::r,i+1,x,y,h,g=>by
  simp only[b4Q,List.getElem?_cons_succ]at h g|-;exact a1X (b::r) i x y h g
 | [_],0,x,y,h,g=>by simp_all
 | [_],i+1,x,y,h,g=>by simp_all
 | [],i,x,y,h,g=>by simp_all
def JM:Nat->List Int->List Int
 |0,l=>l
 |o+1,l=>b4Q (JM o l)
theorem IY(l:LI):∀o,(JM o l).length=l.length-o
 |0=>rfl
 |o+1=>by simp only[JM,MX,IY l o];omega
theorem WZ{l:LI}(h:short l)(o:Nat):short (JM o l):=by
 have h:l.length<1000000:=h;show(JM o l).length<1000000;rw[IY];omega
def ZW(l:List Int)(i:Nat):List Int:=(b4Q l).take i++l.drop i
theorem UJ{l:LI}{i:Nat}(h:i<=l.length-1):(ZW l i).length=l.length:=by
 grind[ZW,MX]
theorem rL{l:LI}{i j:Nat}(h:i<=l.length-1)(g:i<=j):(ZW l i).getD j 0=l.getD j 0:=by
 simp_all[MX,ZW,List.getElem?_append_right]
theorem b3r{l:LI}{i:Nat}(h:i<l.length-1):(ZW l i).set i (W (l.getD (i+1) 0-l.getD i 0))=ZW l (i+1):=by
 have e:((b4Q l).take i).length=i:=by grind[MX]
 have f:l[i]?=some l[i]:=lG (by omega);have k:l[i+1]?=some l[i+1]:=lG (by omega);have a:=a1X l i _ _ f k;have g:i<(b4Q l).length:=by grind
 simp only[ZW];rw[List.set_append,if_neg (by omega),e,F3,A4 (show i<l.length by omega),F8,E9 g,aA];grind
theorem a7j{l:LI}{o k:Int}(g:short l)(h:1<=l.length):Al HB ((0:Int),o,k,l,())=some (o,k,ZW l (l.length-1),()):=by
 have g:l.length<1000000:=g;have r:ZW l 0=l:=by rfl
 have:=Bz (f:=HB) (fun i:Nat=>((i:Int),o,k,ZW l i,())) (l.length-1) (b:=(o,k,ZW l (l.length-1),()))
  (fun i t=>by
   have d:zD .i64 ((i:Int)+1)=((i+1:Nat):Int):=Aa (by omega);have c:=UJ (l:=l) (i:=i) (by omega);have a:A3 (((i+1:Nat):Int)<((l.length:Nat):Int))=true:=by grind
   have e:A3 ((0:Int)<=((i+1:Nat):Int))=true:=by rfl
   have m:A3 ((0:Int)<=(i:Int))=true:=by simp
   have n:A3 ((i:Int)<((l.length:Nat):Int))=true:=by grind
   have u:D6 ((i+1:Nat):Int)=i+1:=by rfl
   have v:D6 (i:Int)=i:=by rfl
   have w:=b3r (l:=l) (i:=i) (by omega);have p:=rL (l:=l) (i:=i) (j:=i+1) (by omega) (by omega);have q:=rL (l:=l) (i:=i) (j:=i) (by omega) (by omega);simp_all[HB])
  (by
   have c:=UJ (l:=l) (i:=l.length-1) (by omega);have d:zD .i64 (((l.length-1:Nat):Int)+1)=((l.length:Nat):Int):=by grind[Ae]
   have a:A3 (((l.length:Nat):Int)<((l.length:Nat):Int))=false:=by simp
   simp_all[HB])
 simp_all
theorem b0A{l:LI}:(ZW l (l.length-1)).take (l.length-1)=b4Q l:=by
 simp_all[C4,MX,ZW]
theorem Wg{l:LI}{o:Nat}(z:o<=4)(y:o<=l.length)(g:short l)(r:l.all Af=true):
  Hl (l,(o:Int))=some (bif (JM o l).all Af then(JM o l,0)else([],6)):=by
 have q:l.length<1000000:=g;have h:=Bz (f:=KC) (fun k:Nat=>((o:Int),(k:Int),JM k l,())) o (b:=(JM o l,()))
  (fun k w=>by
   have n:1<=(JM k l).length:=by rw[IY];omega
   have p:(JM k l).length<1000000:=WZ g k;have j:A3 ((k:Int)<(o:Int))=true:=by simp_all
   have x:=UJ (l:=JM k l) (i:=(JM k l).length-1) (by omega);have A:zD .i64 ((((JM k l).length:Nat):Int)-1)=(((JM k l).length-1:Nat):Int):=by grind[Ae]
   have B:zD .i64 ((k:Int)+1)=((k+1:Nat):Int):=Aa (by omega);have t:A3 ((0:Int)<=(((JM k l).length-1:Nat):Int))=true:=by simp
   have u:A3 ((((JM k l).length-1:Nat):Int)<=(((JM k l).length:Nat):Int))=true:=by simp
   have v:A3 ((JM k l).length-1<=(JM k l).length)=true:=by simp
   simp_all[JM,KC,a7j,WZ,b0A])
  (by
   have j:A3 ((o:Int)<(o:Int))=false:=by simp
   simp_all[KC])
 have a:A3 ((o:Int)<0)=false:=by simp
 have c:A3 ((o:Int) > 4)=false:=by grind
 have d:A3 (((l.length:Nat):Int)<(o:Int))=false:=by simp_all
 have e:Bp l.length=true:=AW (by omega);simp at h;have m:JM 0 l=l:=rfl;rw[m]at h;unfold Hl;simp only[a,c,d,e,cF,cT,oB,Km g,r,bT,h,Km (WZ g o)];grind
def ex:Nat->(Nat->Int)->Nat->Int
 |0,f,i=>f i
 |o+1,f,i=>ex o f (i+1)-ex o f i
theorem kZ{l:LI}(g:l.all Af=true):∀(o i:Nat),i+o<l.length->(JM o l)[i]?=some (W (ex o (fun j=>l.getD j 0) i))
 |0,i,h=>by
  simp_all[JM,ex,Vp]
 |o+1,i,h=>by
  have f:=kZ g o i (by omega);have k:=kZ g o (i+1) (by omega);simp_all[JM,ex,a1X,Lp]
theorem b0B{l:LI}(e:l.all Af=true){o j:Nat}(d:o<=4)(h:o+j<l.length):W (W (ex o (fun j=>l.getD j 0) j)+MG o (l.take (o+j)))=l.getD (o+j) 0:=by
 have f:Af (l.getD (o+j) 0)=true:=by
  simp_all
 have g:∀i:Nat,1<=i->i<=o->kJ (l.take (o+j)) i=l.getD (o+j-i) 0:=fun i b c=>by
  simp[kJ,K4 (F4 h),List.getElem?_take];grind
 have a:ex o (fun j=>l.getD j 0) j+MG o (l.take (o+j))=l.getD (o+j) 0:=by
  have k:o=0\/o=1\/o=2\/o=3\/o=4:=by omega
  rcases k with rfl|rfl|rfl|rfl|rfl;simp[ex,MG];all_goals grind[ex,MG]
 have:W (W (ex o (fun j=>l.getD j 0) j)+MG o (l.take (o+j)))=W (ex o (fun j=>l.getD j 0) j+MG o (l.take (o+j))):=by
  simp_all[Lp]
 simp_all[Vp]
theorem a4y{l:LI}(f:l.all Af=true){o:Nat}(b:o<=4):∀(k j:Nat),o+j+k=l.length->IU (MG o) ((JM o l).drop j) (l.take (o+j))=some l
 |0,j,h=>by
  rw[List.drop_of_length_le (by rw[IY];omega),C4 (by omega)];rfl
 |k+1,j,h=>by
  have g:j<(JM o l).length:=by rw[IY];omega
  have a:=kZ f o j (by omega);rw[lG g]at a;have e:=Option.some.inj a;have d:l.getD (o+j) 0=l[o+j]:=by grind
  have c:=b0B f b (show o+j<l.length by omega);rw[d]at c;rw[A4 g,e];simp only[IU,c,lA.1 f _ (A9 (show o+j<l.length by omega)),cT];have i:l.take (o+j)++[l[o+j]]=l.take (o+(j+1)):=by
   rw[show o+(j+1)=(o+j)+1 by rfl]
   simp
  rw[i];exact a4y f b k (j+1) (by omega)
theorem Nt{M β:Type}{f:M->Option (M ⊕ β)}(I:Nat->M->Prop)(Q:β->Prop)(n:Nat)(g:∀i s,i<n->I i s->∃s',f s=some (.inl s')/\I (i+1) s')
  (a:∀s,I n s->∃b,f s=some (.inr b)/\Q b):∀(k i:Nat)(s:M),i+k=n->I i s->∃b,Al f s=some b/\Q b
 |0,i,s,h,c=>by
  obtain rfl:i=n:=by omega
  grind[Ag]
 |k+1,i,s,h,c=>by
  obtain⟨s',d,e⟩:=g i s (by omega) c;rw[Ai d];exact Nt I Q n g a k (i+1) s' (by omega) e
theorem dJ(y:Int):0<=zD .u64 y/\zD .u64 y<18446744073709551616:=by
 grind[zD,IntKind.bits,IntKind.signed]
def Wh(n:Int)(x:Int):Bool:=Af x&&!(G3 x (AT .i64 1 n) != 0)
def Yw{β:Type}(n:Int)(bad:β)(out:List Int)(x:Int):List Int ⊕ β:=bif Wh n x then .inl (out++[AR .i64 x n])else .inr bad
def UK(n:Int)(l:List Int):Option (List Int):=bif l.all (Wh n)then some (l.map fun x=>AR .i64 x n)else none
theorem Wi{β:Type}(n:Int)(h:β)(g:List Int->β):∀(l out:LI),SK g (HJ (Yw n h) l out)=match UK n l with|some r=>g (out++r)|none=>h
 | [],out=>by grind[HJ,SK,UK]
 |x::l,out=>by
  simp only[HJ,Yw,UK,C8];cases hx:Wh n x with
  |true=>
   simp only[cT,C7];rw[Wi n h g l _];simp only[UK];cases l.all (Wh n)with
   |true=>simp
   |false=>rfl
  |false=>rfl
theorem b3s{o:Nat}(h:o<=30):AT .i64 1 (o:Int)=((2^o:Nat):Int):=by
 have g:2^o<=2^30:=B8 (by omega) h
 have:=Yo (N:=1) (o:=o) (by omega) (by omega)
 simp_all
theorem UL{l:LI}{o:Nat}(e:o<=30)(n:l.length<100000):Kf (l,(o:Int))=some (KR (UK (o:Int) l)):=by
 have j:short l:=by unfold short;omega
 have k:¬ (o:Int)<0:=by omega
 have c:¬ (o:Int) > 30:=by omega
 have d:(AT .i64 (1:Int) (o:Int)==0)=false:=by
  rw[b3s e]
  have:0<2^o:=E3 o
  grind
 unfold Kf;simp[k,c]
 have:=BH (f:=Jv) l (fun i g=>((o:Int),l,(l.length:Int),(i:Int),g,())) (Yw (o:Int) (B9 ((6:Int),([]:List Int),())))
  (fun i g=>g.length=i) (fun g=>B7 (g,()))
  (fun i h g m=>by
   have b:i<1000000:=by omega
   simp only[Jv,Cq h,cT,Ac h,oB,Ux,Yw,Wh,k,d,decide_false,cF];cases hb:Af l[i]with
   |true=>
    cases hb2:(G3 l[i] (AT .i64 1 (o:Int)) != 0)with
    |false=>
     simp only[cT,bT,cF,oB,k,decide_false,AG (show g.length+1<1000000 by omega),Aa b,A8,D1,hb2];simp_all
    |true=>
     simp
   |false=>
    simp)
  (fun g _=>by simp[Jv]) (a:=[]) rfl
 simp[Wi]at this;rw[this];cases UK (o:Int) l<;>rfl
theorem lB{o:Nat}(h:o<=30){x:Int}(k:Wh (o:Int) x=true):Af (AR .i64 x (o:Int))=true/\AT .i64 (AR .i64 x (o:Int)) (o:Int)=x/\Af x=true:=by
 simp only[Wh,b3s h,EV,E8,bne_eq_false_iff_eq]at k;obtain⟨f,d⟩:=k;obtain⟨c,rfl⟩:=Int.dvd_of_tmod_eq_zero d;have g:=CD.1 f;have e:min (D6 (o:Int)) (IntKind.bits .i64)=o:=by grind[IntKind.bits]
 have i:(0:Int)<2^o:=Int.pow_pos (by omega);have b:((2^o:Nat):Int)=2^o:=by simp
 rw[b]at g f|-;have a:AR .i64 (2^o*c) (o:Int)=c:=by
  unfold AR;grind[G4]
 rw[a];refine⟨CD.2 ?_,?_,f⟩;generalize (2:Int)^o=p at i g;have j:p*c=(p-1)*c+c:=by grind
 by_cases hc:0<=c
 have:=F6 (show 0<=p-1 by omega) hc
 omega
 have:=F6 (show 0<=p-1 by omega) (show 0<=-c by omega)
 grind;grind[AT,Ae]
theorem b6d{o:Nat}(h:o<=30){l d:LI}(f:UK (o:Int) l=some d):d.all Af=true/\d.length=l.length/\a7d (o:Int) d=some l:=by
 unfold UK at f;cases ha:l.all (Wh (o:Int))with
 |false=>simp_all
 |true=>
  rw[ha]at f;simp at f;subst f;have g:=lA.1 ha;refine⟨?_,by simp,?_⟩;simp_all[lB];have a:(l.map fun x=>AR .i64 x (o:Int)).all (fun x=>Af x&&Af (AT .i64 x (o:Int)))=true:=by
   simp only[List.all_map];refine lA.2 fun x k=>?_
   obtain⟨c,e,i⟩:=lB h (g x k);simp_all
  unfold a7d;rw[a]
  simp
  have b:l.map ((fun x=>AT .i64 x (o:Int))∘fun x=>AR .i64 x (o:Int))=l.map id:=List.map_congr_left (fun x k=>(lB h (g x k)).2.1);simp_all
theorem a7k{n sH:Int}(h:Of n sH=true):(CH 0 n sH).length≠0:=by
 have g:=h;simp[Of]at g;grind[CH,SS]
theorem a7l{x:Int}(h:-1048576<=x/\x<=1048575):GZ (EA x (-1048576)) 1048575=x:=by
 unfold GZ EA;grind
theorem c2d{x:Int}(h:Af x=true):-1048576<=AR .i64 x ((10:Nat):Int)/\AR .i64 x ((10:Nat):Int)<=1048575:=by
 have g:=CD.1 h;have e:AR .i64 x ((10:Nat):Int)=x / 1024:=by
  show K0 x 1024=_;grind
 omega
theorem rM{x:Int}(f:Af x=true){a l:LI}{n i:Int}:∀(k s:Nat),s+k=10->∃s':Nat,s'<=10/\Al EN (a,(s:Int),x,l,n,i,())=some (a,(s':Int),l,n,i,())
 |0,s,h=>by
  obtain rfl:s=10:=by omega
  have g:A3 (((10:Nat):Int)<0)=false:=by rfl
  have d:=a7l (c2d f);refine⟨10,D9 _,Ag ?_⟩;simp_all[EN,DB]
 |k+1,s,h=>by
  have g:A3 ((s:Int)<0)=false:=decide_eq_false (by omega);cases hc:(GZ (EA (AR .i64 x (s:Int)) (-1048576)) 1048575 != AR .i64 x (s:Int))with
  |false=>exact⟨s,by omega,Ag (by simp only[EN,g,cF,DB,oB,hc])⟩
  |true=>
   obtain⟨s',b,c⟩:=rM f (a:=a) (l:=l) (n:=n) (i:=i) k (s+1) (by omega);refine⟨s',b,?_⟩;rw[Ai (s':=(a,((s+1:Nat):Int),x,l,n,i,())) (by simp only[EN,g,cF,DB,oB,hc,cT,Aa (show s<1000000 by omega)])];omega
theorem a4z{l:LI}(x:l.all Af=true)(C:l.length<100000):∃r,KD l=some r/\r.length=l.length:=by
 obtain⟨b,A,s,B,w⟩:=Nt (f:=Hm) (fun i g=>∃s:Nat,s<=10/\g=(l,(s:Int),l,(l.length:Int),(i:Int),())) (fun b=>∃s:Nat,s<=10/\b=(l,(s:Int),())) l.length
  (fun i g k h=>by
   obtain⟨s,t,rfl⟩:=h;obtain⟨y,d,e⟩:=rM (lA.1 x _ (A9 k)) (a:=l) (l:=l) (n:=(l.length:Int)) (i:=(i:Int)) (10-s) s (by omega);exact⟨_,by simp only[Hm,Cq k,cT,Ac k,oB,e,Aa (show i<1000000 by omega)]<;>rfl,y,d,rfl⟩)
  (fun g h=>by
   obtain⟨s,t,rfl⟩:=h;exact⟨_,by simp_all[Hm],s,t,rfl⟩) l.length 0 _ (by omega) ⟨0,by omega,rfl⟩
 subst w;obtain⟨c,z,o,u,v⟩:=Nt (f:=Hn) (fun i g=>∃o:List Int,g=((s:Int),l,(l.length:Int),(i:Int),o,())/\o.length=l.length) (fun b=>∃o:List Int,b=(o,())/\o.length=l.length) l.length
  (fun i g k h=>by
   obtain⟨o,rfl,q⟩:=h;have j:A3 ((s:Int)<0)=false:=decide_eq_false (by omega);have m:A3 ((0:Int)<=(i:Int))=true:=by simp
   have p:A3 ((i:Int)<((o.length:Nat):Int))=true:=decide_eq_true (by omega);exact⟨_,by simp only[Hn,Cq k,cT,Ac k,oB,j,cF,m,p,A8,Aa (show i<1000000 by omega)]<;>rfl,_,rfl,by grind⟩)
  (fun g h=>by
   obtain⟨o,rfl,q⟩:=h;exact⟨_,by simp_all[Hn],o,rfl,q⟩) l.length 0 _ (by omega) ⟨A6 l.length 0,rfl,by simp⟩
 subst u;refine⟨o,?_,v⟩;have j:A3 ((0:Int)<=((l.length:Nat):Int))=true:=by simp
 have m:A3 (((l.length:Nat):Int)<=((l.length:Nat):Int))=true:=by simp
 have p:Bp l.length=true:=AG (by omega);simp_all[KD]
theorem lE:∀(N:Nat)(f g:Int),g.toNat<=N->∃a b,Al Eo (f,g,())=some (a,b,())
 |N,f,g,h=>by
  by_cases hd:g>=1099511627776
  ·have k:A3 (g>=(1099511627776:Int))=true:=decide_eq_true hd;have e:AR .i64 g 1=g / 2:=by
    show K0 g 2=_;grind
   rw[Ai (s':=(AR .i64 f 1,g / 2,())) (by simp_all[Eo])]
   match N with
   |0=>omega
   |N+1=>exact lE N _ _ (by omega)
  have k:A3 (g>=(1099511627776:Int))=false:=decide_eq_false hd;exact⟨f,g,Ag (by simp only[Eo,k,cF])⟩
theorem fT{f g:LI}{m:Nat}(x:1<=m)(u:g.length=f.length)(w:f.length<100000)(t:m<1000):∃k,Gd (f,g,(m:Int))=some k:=by
 obtain⟨b,p,d,j,q⟩:=Nt (f:=En) (fun i n=>∃d j:Int,n=(f,g,d,j,((m+i:Nat):Int),())) (fun b=>∃d j:Int,b=(d,j,())) (f.length-m)
  (fun i n v h=>by
   obtain⟨d,j,rfl⟩:=h;have l:m+i<f.length:=by omega
   have e:zD .i64 (((m+i:Nat):Int)-1)=((m+i-1:Nat):Int):=by grind[Ae]
   exact⟨_,by simp only[En,Cq l,cT,Ac l,e,Ac (show m+i-1<g.length by omega),oB,Aa (show m+i<1000000 by omega)]<;>rfl,_,_,rfl⟩)
  (fun n h=>by
   obtain⟨d,j,rfl⟩:=h;have o:A3 (((m+(f.length-m):Nat):Int)<((f.length:Nat):Int))=false:=decide_eq_false (by omega);exact⟨_,by simp only[En,o,cF]<;>rfl,_,_,rfl⟩) (f.length-m) 0 (f,g,0,0,(m:Int),()) (by omega) ⟨0,0,rfl⟩
 subst q;obtain⟨a,c,r⟩:=lE j.toNat d j (D9 _);unfold Gd;simp[p,r];cases hc:(c==0)with
 |true=>simp
 |false=>
  simp
  cases A3 ((AT .i64 a 15).tmod c<0)<;>exact⟨_,rfl⟩
theorem pP{f g ks:LI}{m:Nat}{order k:Int}(A:1<=m)(t:g.length=f.length)(z:f.length<100000)(u:m<1000):
  ∃f' a:List Int,Al Ed (order,(m:Int),k,((f.length:Nat):Int)-1,f,g,ks,())=some (order,(m:Int),f',a,ks,())/\f'.length=f.length/\a.length=f.length:=by
 obtain⟨b,v,f',a,w,x⟩:=Nt (f:=Ed) (fun i l=>∃f' a:List Int,l=(order,(m:Int),k,((f.length:Nat):Int)-1-(i:Int),f',a,ks,())/\f'.length=f.length/\a.length=f.length)
  (fun b=>∃f' a:List Int,b=(order,(m:Int),f',a,ks,())/\f'.length=f.length/\a.length=f.length) (f.length-m)
  (fun i l y h=>by
   obtain⟨f',a,rfl,c,d⟩:=h;have j:A3 (((f.length:Nat):Int)-1-(i:Int)>=(m:Int))=true:=decide_eq_true (by omega);have n:A3 ((0:Int)<=((f.length:Nat):Int)-1-(i:Int))=true:=decide_eq_true (by omega);have o:A3 (((f.length:Nat):Int)-1-(i:Int)<((f'.length:Nat):Int))=true:=decide_eq_true (by omega);have p:A3 (((f.length:Nat):Int)-1-(i:Int)<((a.length:Nat):Int))=true:=decide_eq_true (by omega);have e:zD .i64 (((f.length:Nat):Int)-1-(i:Int)-1)=((f.length:Nat):Int)-1-((i+1:Nat):Int):=by grind[Ae]
   have q:A3 ((0:Int)<=((f.length:Nat):Int)-1-((i+1:Nat):Int))=true:=decide_eq_true (by omega);have r:A3 (((f.length:Nat):Int)-1-((i+1:Nat):Int)<((a.length:Nat):Int))=true:=decide_eq_true (by omega);exact⟨_,by simp only[Ed,j,n,o,p,e,q,r,cT,A8,DB,oB]<;>rfl,_,_,rfl,by simp_all,by simp_all⟩)
  (fun l h=>by
   obtain⟨f',a,rfl,c,d⟩:=h;have j:A3 (((f.length:Nat):Int)-1-((f.length-m:Nat):Int)>=(m:Int))=false:=decide_eq_false (by omega);exact⟨_,by simp only[Ed,j,cF]<;>rfl,f',a,rfl,c,d⟩) (f.length-m) 0 _ (by omega) ⟨f,g,rfl,rfl,t⟩
 grind
theorem a1Y{f g:LI}{o:Nat}(B:o<=32)(y:g.length=f.length)(A:f.length<100000):∃ks:List Int,Al Ee ((o:Int),(1:Int),f,g,([]:List Int),())=some (ks,())/\ks.length=o:=by
 obtain⟨b,r,ks,w,x⟩:=Nt (f:=Ee) (fun i q=>∃a c ks:List Int,q=((o:Int),((i+1:Nat):Int),a,c,ks,())/\a.length=f.length/\c.length=f.length/\ks.length=i)
  (fun b=>∃ks:List Int,b=(ks,())/\ks.length=o) o
  (fun i q z h=>by
   obtain⟨a,c,ks,rfl,l,n,t⟩:=h;have j:A3 (((i+1:Nat):Int)<=(o:Int))=true:=decide_eq_true (by omega);obtain⟨k,p⟩:=fT (f:=a) (g:=c) (m:=i+1) (by omega) (by omega) (by omega) (by omega);have e:zD .i64 (((a.length:Nat):Int)-1)=((a.length:Nat):Int)-1:=Ae (by omega);obtain⟨u,v,r,w,x⟩:=pP (f:=a) (g:=c) (ks:=ks++[k]) (m:=i+1) (order:=(o:Int)) (k:=k) (by omega) (by omega) (by omega) (by omega);have d:Bp (ks.length+1)=true:=AG (by omega);exact⟨_,by simp only[Ee,j,cT,p,oB,d,e,B4,r,Aa (show i+1<1000000 by omega)]<;>rfl,u,v,ks++[k],rfl,by omega,by omega,by grind⟩)
  (fun q h=>by
   obtain⟨a,c,ks,rfl,l,n,t⟩:=h;have j:A3 (((o+1:Nat):Int)<=(o:Int))=false:=decide_eq_false (by omega);exact⟨_,by simp only[Ee,j,cF]<;>rfl,ks,rfl,t⟩) o 0 _ (by omega) ⟨f,g,[],rfl,rfl,y,rfl⟩
 simp_all
theorem a1Z{l:LI}(h:l.all Af=true)(u:l.length<=4096){o:Nat}(t:1<=o)(m:o<=32):∃ks:List Int,Jy (l,(o:Int))=some (ks,0)/\ks.length=o:=by
 have p:short l:=by unfold short;omega
 obtain⟨r,e,q⟩:=a4z h (by omega);have n:short r:=by unfold short;omega
 obtain⟨ks,i,j⟩:=a1Y (f:=r) (g:=r) m rfl (by omega);have k:A3 ((o:Int)<1)=false:=decide_eq_false (by omega);have a:A3 ((o:Int) > 32)=false:=decide_eq_false (by omega);have b:A3 (((l.length:Nat):Int) > 4096)=false:=decide_eq_false (by omega);have c:A3 ((0:Int)<=(o:Int))=true:=by simp
 have d:Bp o=true:=AG (by omega);refine⟨ks,?_,j⟩;unfold Jy;simp only[k,a,b,c,d,cF,cT,oB,IA p,h,bT,e,NN n,tN,A8,i]
theorem UM{M β:Type}{f:M->Option (M ⊕ β)}(I:Nat->M->Prop)(Q:β->Prop)(n:Nat)(g:∀i s,i<n->I i s->(∃s',f s=some (.inl s')/\I (i+1) s')\/(∃b,f s=some (.inr b)/\Q b))
  (a:∀s,I n s->∃b,f s=some (.inr b)/\Q b):∀(k i:Nat)(s:M),i+k=n->I i s->∃b,Al f s=some b/\Q b
 |0,i,s,h,e=>by
  obtain rfl:i=n:=by omega
  grind[Ag]
 |k+1,i,s,h,e=>by
  rcases g i s (by omega) e with⟨s',c,d⟩|⟨b,c,d⟩;rw[Ai c];exact UM I Q n g a k (i+1) s' (by omega) d;simp_all[Ag]
theorem a4A{ks:LI}(k:ks.length<=32):∃b,Al CV (ks,ks,(ks.length:Int),(0:Int),())=some b/\(b=.inl (ks,())\/b=.inr (([]:List Int),(1:Int),())):=
 UM (f:=CV) (fun i s=>s=(ks,ks,(ks.length:Int),(i:Int),())) (fun b=>b=.inl (ks,())\/b=.inr (([]:List Int),(1:Int),())) ks.length
  (fun i s g h=>by
   subst h;cases h1:A3 (ks[i]<(-16383:Int))with
   |true=>exact Or.inr ⟨_,by simp_all[CV,Ac],Or.inr rfl⟩
   |false=>
    cases h2:A3 (ks[i] > (16383:Int))with
    |true=>exact Or.inr ⟨_,by simp_all[CV,Ac],Or.inr rfl⟩
    |false=>exact Or.inl ⟨_,by simp only[CV,Cq g,cT,cF,Ac g,oB,h1,h2,Aa (show i<1000000 by omega)]<;>rfl,rfl⟩)
  (fun s h=>by
   subst h;exact⟨_,by simp_all[CV],Or.inl rfl⟩) ks.length 0 _ (by omega) rfl
theorem a4B{c a:LI}{i:Nat}{k n:Int}(t:c.length=i)(hi:i<=32):
  ∃g:List Int,Al FB (c,(i:Int),k,a,n,(i:Int),c,(c.length:Int),(0:Int),([]:List Int),())=some (k,a,n,(i:Int),g,())/\g.length=i:=by
 obtain⟨b,p,g,q,r⟩:=Nt (f:=FB) (fun j s=>∃g:List Int,s=(c,(i:Int),k,a,n,(i:Int),c,(c.length:Int),(j:Int),g,())/\g.length=j)
  (fun b=>∃g:List Int,b=(k,a,n,(i:Int),g,())/\g.length=c.length) c.length
  (fun j s e h=>by
   obtain⟨g,rfl,l⟩:=h;have m:zD .i64 ((i:Int)-1)=(i:Int)-1:=Ae (by omega);have o:zD .i64 ((i:Int)-1-(j:Int))=((i-1-j:Nat):Int):=by grind[Ae]
   have d:Bp (g.length+1)=true:=AG (by omega);exact⟨_,by simp only[FB,Cq e,cT,Ac e,oB,m,o,Ac (show i-1-j<c.length by omega),d,Aa (show j<1000000 by omega),B4]<;>rfl,_,rfl,by grind⟩)
  (fun s h=>by
   obtain⟨g,rfl,l⟩:=h;exact⟨_,by simp_all[FB],g,rfl,l⟩) c.length 0 _ (by omega) ⟨[],rfl,rfl⟩
 simp_all
theorem a7m{ks:LI}(B:1<=ks.length)(w:ks.length<=32):∃c e,Mm ks=some (c,e)/\(e=0->c.length=ks.length):=by
 obtain⟨b,p,q⟩:=a4A w;have j:A3 (((ks.length:Nat):Int)<1)=false:=decide_eq_false (by omega);have l:A3 (((ks.length:Nat):Int) > 32)=false:=decide_eq_false (by omega);unfold Mm;simp[j,l,p];rcases q with rfl|rfl;obtain⟨r,t,c,u,v⟩:=Nt (f:=Iq) (fun i s=>∃c:List Int,s=(c,ks,(ks.length:Int),(i:Int),())/\c.length=i) (fun r=>∃c:List Int,r=(c,())/\c.length=ks.length) ks.length
  (fun i s d h=>by
   obtain⟨c,rfl,g⟩:=h;have o:zD .i64 ((i:Int)+1)=((i+1:Nat):Int):=Aa (by omega);have m:A3 ((0:Int)<=((i+1:Nat):Int))=true:=by rfl
   have x:Bp (i+1)=true:=AG (by omega);obtain⟨A,z,C⟩:=a4B (c:=c) (a:=ks) (i:=i) (k:=ks[i]) (n:=(ks.length:Int)) g (by omega);have y:Bp (A.length+1)=true:=AG (by omega);exact⟨_,by simp only[Iq,Cq d,cT,Ac d,oB,o,m,tN,x,A8,z,y,B4]<;>rfl,_,rfl,by grind⟩)
  (fun s h=>by
   obtain⟨c,rfl,g⟩:=h;exact⟨_,by simp_all[Iq],c,rfl,g⟩) ks.length 0 _ (by omega) ⟨[],rfl,rfl⟩
 subst u;simp at t;exact⟨c,0,by simp_all,fun _=>v⟩;grind
theorem a4C{c:LI}{s:Nat}{w:Nat}{g:Int}(o:c.length<=32)(i:w<=32):
  ∃out:List Int,Al CX (c,(w:Int),(s:Int),g,c,(c.length:Int),(0:Int),([]:List Int),())=some (c,(w:Int),(s:Int),out,()):=by
 obtain⟨b,m,out,n⟩:=UM (f:=CX) (fun j d=>∃out:List Int,d=(c,(w:Int),(s:Int),g,c,(c.length:Int),(j:Int),out,())/\out.length=j)
  (fun b=>∃out:List Int,b=(c,(w:Int),(s:Int),out,())) c.length
  (fun j d a h=>by
   obtain⟨out,rfl,l⟩:=h;have e:A3 ((s:Int)<0)=false:=decide_eq_false (by omega);have k:Bp (out.length+1)=true:=AG (by omega);cases hf:Cu (AR .i64 (zD .i64 (c[j]+g)) (s:Int)) (w:Int)with
   |true=>exact Or.inl ⟨_,by simp only[CX,Cq a,cT,Ac a,oB,e,cF,IW i,hf,bT,k,Aa (show j<1000000 by omega),B4]<;>rfl,_,rfl,by grind⟩
   |false=>exact Or.inr ⟨_,by simp only[CX,Cq a,cT,Ac a,oB,e,cF,IW i,hf,D1]<;>rfl,out,rfl⟩)
  (fun d h=>by
   obtain⟨out,rfl,l⟩:=h;exact⟨_,by simp_all[CX],out,rfl⟩) c.length 0 _ (by omega) ⟨[],rfl,rfl⟩
 simp_all
theorem a4D{c:LI}{w:Int}(k:c.length<=32):∃b,Al CW (c,w,c,(c.length:Int),(0:Int),())=some b/\(b=.inl (c,w,())\/b=.inr ((0:Int),(1:Int),([]:List Int),())):=
 UM (f:=CW) (fun i s=>s=(c,w,c,(c.length:Int),(i:Int),())) (fun b=>b=.inl (c,w,())\/b=.inr ((0:Int),(1:Int),([]:List Int),())) c.length
  (fun i s g h=>by
   subst h;cases h1:A3 (c[i]<(-35184372088832:Int))with
   |true=>exact Or.inr ⟨_,by simp_all[CW,Ac],Or.inr rfl⟩
   |false=>
    cases h2:A3 (c[i] > (35184372088832:Int))with
    |true=>exact Or.inr ⟨_,by simp_all[CW,Ac],Or.inr rfl⟩
    |false=>exact Or.inl ⟨_,by simp only[CW,Cq g,cT,cF,Ac g,oB,h1,h2,Aa (show i<1000000 by omega)]<;>rfl,rfl⟩)
  (fun s h=>by
   subst h;exact⟨_,by simp_all[CW],Or.inl rfl⟩) c.length 0 _ (by omega) rfl
theorem a7n{c:LI}{w:Nat}(B:1<=c.length)(q:c.length<=32)(E:2<=w/\w<=16):∃o j e,Mn (c,(w:Int))=some (o,j,e)/\(e=0->o.length=c.length):=by
 obtain⟨b,y,z⟩:=a4D (w:=(w:Int)) q;have t:A3 (((c.length:Nat):Int)<1)=false:=decide_eq_false (by omega);have u:A3 (((c.length:Nat):Int) > 32)=false:=decide_eq_false (by omega);have v:A3 ((w:Int)<2)=false:=decide_eq_false (by omega);have x:A3 ((w:Int) > 16)=false:=decide_eq_false (by omega);unfold Mn;simp[t,u,v,x,y];rcases z with rfl|rfl
 ·obtain⟨r,C,A⟩:=UM (f:=DO) (fun i s=>s=(c,(w:Int),(i:Int),())) (fun r=>r=.inl ()\/∃(j:Int)(o:LI),r=.inr (j,(0:Int),o,())/\o.length=c.length) 15
   (fun i s D h=>by
    subst h;have d:A3 ((i:Int)<=14)=true:=decide_eq_true (by omega);have l:A3 ((0:Int)<=((c.length:Nat):Int))=true:=by simp
    have m:Bp c.length=true:=AG (by omega);have k:∀g:Int,∃o:List Int,Al CX (c,(w:Int),(i:Int),g,c,(c.length:Int),(0:Int),([]:List Int),())=some (c,(w:Int),(i:Int),o,()):=fun g=>a4C q (by omega);by_cases hp:(i:Int) > 0
    ·have p:zD .i64 ((i:Int)-1)=(i:Int)-1:=Ae (by omega);have n:A3 ((i:Int)-1<0)=false:=decide_eq_false (by omega);obtain⟨o,a⟩:=k (AT .i64 1 ((i:Int)-1));cases hc:((((o.length:Nat):Int))==((c.length:Nat):Int))with
     |true=>exact Or.inr ⟨_,by simp only[DO,d,cT,hp,decide_true,p,n,cF,oB,l,tN,m,A8,a,hc]<;>rfl,Or.inr ⟨_,o,rfl,by grind⟩⟩
     |false=>exact Or.inl ⟨_,by simp only[DO,d,cT,hp,decide_true,p,n,cF,oB,l,tN,m,A8,a,hc,Aa (show i<1000000 by omega)]<;>rfl,rfl⟩
    ·obtain⟨o,a⟩:=k 0;cases hc:((((o.length:Nat):Int))==((c.length:Nat):Int))with
     |true=>exact Or.inr ⟨_,by simp only[DO,d,cT,hp,decide_false,cF,oB,l,tN,m,A8,a,hc]<;>rfl,Or.inr ⟨_,o,rfl,by grind⟩⟩
     |false=>exact Or.inl ⟨_,by simp only[DO,d,cT,hp,decide_false,cF,oB,l,tN,m,A8,a,hc,Aa (show i<1000000 by omega)]<;>rfl,rfl⟩)
   (fun s h=>by
    subst h;have d:A3 (((15:Nat):Int)<=14)=false:=by rfl
    exact⟨_,by rfl,Or.inl rfl⟩) 15 0 (c,(w:Int),(0:Int),()) (by rfl) rfl
  rcases A with rfl|⟨j,o,rfl,a⟩;exact⟨[],0,6,by simp_all,fun h=>absurd h (by simp)⟩;exact⟨o,j,0,by simp_all,fun _=>a⟩
 grind
theorem b0C{l:LI}(m:l.all Af=true)(i:l.length<=4096){o w:Nat}(a:1<=o)(b:o<=32)(d:2<=w/\w<=16):∃c g e,FR (l,(o:Int),(w:Int))=some (c,g,e)/\(e=0->c.length=o):=by
 obtain⟨ks,f,p⟩:=a1Z m i a b;obtain⟨c,e,k,q⟩:=a7m (ks:=ks) (by omega) (by omega);unfold FR;simp[f,k];by_cases he:e=0;subst he;obtain⟨u,g,n,r,t⟩:=a7n (c:=c) (w:=w) (by omega) (by omega) d;grind;have j:(e != 0)=true:=by simp_all
 exact⟨[],0,e,by grind,fun h=>absurd h he⟩
theorem a7o{l:LI}{o:Nat}(c:l.length<100000)(d:o<=4):∃v,Nj (l,(o:Int))=some v:=by
 obtain⟨b,k,v,a⟩:=Nt (f:=GD) (fun i s=>∃v:Int,s=((o:Int),v,l,(l.length:Int),(i:Int),())) (fun b=>∃v:Int,b=(v,())) l.length
  (fun i s g h=>by
   obtain⟨v,rfl⟩:=h;cases hc:A3 (zD .i64 ((i:Int)+(o:Int))>=4)with
   |true=>exact⟨_,by simp only[GD,Cq g,cT,Ac g,oB,hc,Aa (show i<1000000 by omega)]<;>rfl,_,rfl⟩
   |false=>exact⟨_,by simp only[GD,Cq g,cT,cF,Ac g,oB,hc,Aa (show i<1000000 by omega)]<;>rfl,_,rfl⟩)
  (fun s h=>by
   obtain⟨v,rfl⟩:=h;exact⟨_,by simp_all[GD],v,rfl⟩) l.length 0 ((o:Int),(0:Int),l,(l.length:Int),(0:Int),()) (by omega) ⟨0,rfl⟩
 simp_all[Nj]
theorem fU{l:LI}{o:Nat}(h:o<=4)(b:l.length<100000)(g:l.all Af=true):∃r e,Hl (l,(o:Int))=some (r,e)/\r.length<=l.length:=by
 by_cases hn:o<=l.length
 ·rw[Wg h hn (by unfold short;omega) g];cases (JM o l).all Af with
  |true=>exact⟨_,_,rfl,by rw[IY];omega⟩
  |false=>simp
 have f:A3 ((o:Int)<0)=false:=decide_eq_false (by omega);have k:A3 ((o:Int) > 4)=false:=decide_eq_false (by omega);have a:A3 (((l.length:Nat):Int)<(o:Int))=true:=decide_eq_true (by omega);simp_all[Hl]
theorem fV{l:LI}(d:l.length<100000)(j:l.all Af=true):∃o:Nat,Jw l=some (o:Int)/\o<=4:=by
 obtain⟨b,n,o,p,q⟩:=Nt (f:=Fh) (fun i s=>∃(o:Nat)(v:Int),s=(l,(o:Int),v,(i:Int),())/\o<=4) (fun b=>∃o:Nat,b=((o:Int),())/\o<=4) 5
  (fun i s t h=>by
   obtain⟨o,v,rfl,a⟩:=h;have g:A3 ((i:Int)<=4)=true:=decide_eq_true (by omega);obtain⟨r,e,k,m⟩:=fU (o:=i) (by omega) d j;obtain⟨y,c⟩:=a7o (l:=r) (o:=i) (by omega) (by omega);cases hc:(e != 0)with
   |true=>exact⟨_,by simp only[Fh,g,cT,k,oB,hc,Aa (show i<1000000 by omega)]<;>rfl,o,v,rfl,a⟩
   |false=>
    cases h4:A3 (v<0)with
    |true=>exact⟨_,by simp only[Fh,g,cT,cF,k,oB,hc,c,h4,Aa (show i<1000000 by omega)]<;>rfl,i,y,rfl,by omega⟩
    |false=>
     cases h5:A3 (y<v)with
     |true=>exact⟨_,by simp only[Fh,g,cT,cF,k,oB,hc,c,h4,h5,Aa (show i<1000000 by omega)]<;>rfl,i,y,rfl,by omega⟩
     |false=>exact⟨_,by simp only[Fh,g,cT,cF,k,oB,hc,c,h4,h5,Aa (show i<1000000 by omega)]<;>rfl,o,v,rfl,a⟩)
  (fun s h=>by
   obtain⟨o,v,rfl,a⟩:=h;have g:A3 (((5:Nat):Int)<=4)=false:=by rfl
   exact⟨_,by rfl,o,rfl,a⟩) 5 0 (l,(0:Int),(-1:Int),(0:Int),()) (by rfl) ⟨0,-1,rfl,by omega⟩
 grind[Jw]
def TA(g:List Int->Int):List Int->List Int->List Int
 | [],_=>[]
 |x::r,zF=>W (x-g zF)::TA g r (zF++[x])
theorem SZ(g:List Int->Int):∀r zF,(TA g r zF).length=r.length
 | [],_=>rfl
 |x::r,zF=>by simp[TA,SZ g r]
theorem b3t{x g:Int}(h:Af x=true):W (W (x-g)+g)=x:=by
 have:=Vp h
 simp_all[Lp]
theorem Xa(g:List Int->Int):∀(r zF:LI),r.all Af=true->IU g (TA g r zF) zF=some (zF++r)
 | [],zF,_=>by simp[TA,IU]
 |x::r,zF,h=>by
  rw[C8,EV]at h;simp only[TA,IU,b3t h.1,h.1,cT,Xa g r (zF++[x]) h.2,aA,I3]
def Wj(g:List Int->Int)(r zF:List Int):Option (List Int):=bif (TA g r zF).all Af then some (TA g r zF)else none
def dK{β:Type}(g:List Int->Int)(bad:β)(a:List Int×List Int)(x:Int):(List Int×List Int) ⊕ β:=
 bif Af (W (x-g a.1))then .inl (a.1++[x],a.2++[W (x-g a.1)])else .inr bad
theorem Xb{β:Type}(g:List Int->Int)(k:β)(a:List Int×List Int->β):∀(r zF f:LI),
  SK a (HJ (dK g k) r (zF,f))=match Wj g r zF with|some e=>a (zF++r,f++e)|none=>k
 | [],zF,f=>by grind[HJ,SK,Wj,TA]
 |x::r,zF,f=>by
  simp[HJ,dK];cases h:Af (W (x-g zF))with
  |true=>
   simp
   rw[Xb g k a r];simp only[Wj,TA,C8,h,C7];grind
  |false=>simp_all[SK,Wj,TA]
theorem lF{g:List Int->Int}{r zF e:LI}(h:Wj g r zF=some e):e=TA g r zF/\e.all Af=true:=by
 unfold Wj at h;grind
theorem rN{l:LI}{i:Nat}(h:i<l.length):l.take i++[l[i]]=l.take (i+1):=by simp
theorem lH{l:LI}{p:Int->Bool}(h:l.all p=true)(i:Nat):(l.take i).all p=true:=by
 grind
theorem b3u{l:LI}{p:Int->Bool}(h:l.all p=true)(i:Nat):(l.drop i).all p=true:=by
 grind
theorem rO{M β:Type}{f:M->Option (M ⊕ β)}(l:LI)(k:Nat)(t:k<=l.length)(S:Nat->List Int->M)(g:List Int×List Int->Int->(List Int×List Int) ⊕ β)(d:List Int->β)
  (m:∀i (h:i<l.length) c,k<=i->c.length=i-k->(∀e,g (l.take i,c) l[i]=.inl e->f (S i c)=some (.inl (S (i+1) e.2))/\e.1=l.take (i+1)/\e.2.length=i+1-k)/\(∀b,g (l.take i,c) l[i]=.inr b->f (S i c)=some (.inr b)))
  (j:∀c,c.length=l.length-k->f (S l.length c)=some (.inr (d c))):Al f (S k [])=some (SK (fun a=>d a.2) (HJ g (l.drop k) (l.take k,[]))):=by
 have h:=BH (f:=f) (l.drop k) (fun i a=>S (k+i) a.2) g (fun i a=>a.1=l.take (k+i)/\a.2.length=i) (fun a=>d a.2)
  (fun i q a o=>by
   obtain⟨a1,c⟩:=a;obtain⟨n,p⟩:=o;simp only at n p;subst n;rw[F1]at q;have r:k+i<l.length:=by omega
   grind)
  (fun a o=>by
   simp_all) (a:=(l.take k,[])) ⟨by simp,rfl⟩
 omega
def lI(l c:List Int)(s:Int):Option (List Int):=bif l.all Af then Wj (TG c s) (l.drop c.length) (l.take c.length)else none
theorem UN{l c:LI}{s:Int}(w:Rb c s=true)(u:c.length<=l.length)(z:l.length<100000):
  Kg (l,c,s)=some (KR (lI l c s)):=by
 have n:short l:=by unfold short;omega
 have k:short c:=by unfold short;omega
 have e:0<=s:=by simp_all[Rb]
 have p:A3 (((l.length:Nat):Int)<((c.length:Nat):Int))=false:=by simp_all
 unfold Kg lI;simp only[Ns k,w,oB,bT,cF,p,IA n];cases hw:l.all Af with
 |false=>rfl
 |true=>
  have q:zD .i64 (((l.length:Nat):Int)-((c.length:Nat):Int))=((l.length-c.length:Nat):Int):=by grind[Ae]
  have y:A3 ((0:Int)<=((l.length-c.length:Nat):Int))=true:=by simp
  have r:Bp (l.length-c.length)=true:=AG (by omega);simp[q,r]
  have:=rO (f:=GF) l c.length u (fun i h=>(l,c,s,(i:Int),h,())) (dK (TG c s) (.inr ((6:Int),([]:List Int),()))) (fun h=>.inl (h,()))
   (fun i a h v d=>by
    have o:short (l.take i):=by unfold short;grind
    have j:A3 ((0:Int)<=(i:Int))=true:=by simp
    have m:A3 ((i:Int)<=((l.length:Nat):Int))=true:=by grind
    have t:Bp (h.length+1)=true:=AG (by omega);constructor
    ·intro x g;unfold dK at g;cases hq:Af (W (l[i]-TG c s (l.take i)))with
     |false=>simp_all
     |true=>
      simp only[hq,cT,Sum.inl.injEq]at g;subst g;refine⟨?_,rN a,by grind⟩;simp only[GF,Cq a,cT,Ac a,oB,j,m,A8,tN,WT o k e,IT,hq,bT,cF,t,Aa (B6 a n),B4]
    ·intro b hb;unfold dK at hb;cases hq:Af (W (l[i]-TG c s (l.take i)))with
     |true=>simp_all
     |false=>
      simp[hq]at hb;subst hb;simp only[GF,Cq a,cT,Ac a,oB,j,m,A8,tN,WT o k e,IT,hq,D1])
   (fun h d=>by simp[GF])
  rw[this,Xb];cases Wj (TG c s) (l.drop c.length) (l.take c.length)<;>rfl
theorem Yx{l c r:LI}{s:Int}(h:lI l c s=some r):Yk (l.take c.length) r c s=some l/\r.all Af=true/\r.length=l.length-c.length:=by
 unfold lI at h;cases hw:l.all Af with
 |false=>simp_all
 |true=>
  simp[hw]at h;obtain⟨e,g⟩:=lF h;refine⟨?_,g,by simp_all[SZ]⟩;simp[Yk,lH hw,g];grind[Xa,List.take_append_drop]
def ZX(l:List Int)(lag:Int)(t:List Int):Option (List Int):=bif l.all Af then Wj (NM lag t) l []else none
theorem a2a{l t:LI}{lag:Int}(p:Qw lag t=true)(d:t.length=3)(v:l.length<100000):
  NK (l,lag,t)=some (KR (ZX l lag t)):=by
 have c:short l:=by unfold short;omega
 obtain⟨j,m⟩:2<=lag/\lag<=1024:=by simp_all[Qw]
 unfold NK ZX;simp only[Uy d,p,oB,bT,cF,Tr c];cases hw:l.all Af with
 |false=>rfl
 |true=>
  have u:A3 ((0:Int)<=((l.length:Nat):Int))=true:=by simp
  have e:Bp l.length=true:=AG (by omega);simp[e]
  have:=rO (f:=IP) l 0 (Nat.zero_le _) (fun i h=>(l,lag,l,(l.length:Int),(i:Int),h,t,())) (dK (NM lag t) (.inr ((6:Int),([]:List Int),()))) (fun h=>.inl (h,()))
   (fun i a h o k=>by
    have n:Bp (h.length+1)=true:=AG (by omega);have q:=Tu (lag:=lag) (t:=t) (F4 a) c d j m;constructor
    ·intro r g;unfold dK at g;cases hq:Af (W (l[i]-NM lag t (l.take i)))with
     |false=>simp_all
     |true=>
      simp only[hq,cT,Sum.inl.injEq]at g;subst g;refine⟨?_,rN a,by simp_all⟩;simp only[IP,Cq a,cT,Ac a,oB,q,Mx,hq,bT,cF,n,Aa (B6 a c),B4]
    ·intro b hb;unfold dK at hb;cases hq:Af (W (l[i]-NM lag t (l.take i)))with
     |true=>simp_all
     |false=>
      simp_all[IP,Ac,Mx])
   (fun h k=>by simp[IP])
  simp only[nZ]at this;rw[this,Xb,C3,List.take_zero];cases Wj (NM lag t) l []<;>rfl
theorem ZY{l t r:LI}{lag:Int}(h:ZX l lag t=some r):VY r lag t=some l/\r.all Af=true/\r.length=l.length:=by
 unfold ZX at h;cases hw:l.all Af with
 |false=>simp_all
 |true=>
  simp[hw]at h;obtain⟨e,g⟩:=lF h;refine⟨?_,g,by rw[e,SZ]⟩;simp[VY,g];simp_all[Xa]
def b3v:List Int->Xs->List Int
 | [],_=>[]
 |x::r,f=>W (x-Bh f)::b3v r (Tv f x)
theorem Xc:∀r f,(b3v r f).length=r.length
 | [],_=>rfl
 |x::r,f=>by simp[b3v,Xc r]
def b4R:List Int->List Int->Xs->Option (List Int)
 | [],zF,_=>some zF
 |x::r,zF,f=>bif Af (W (x-Bh f))then b4R r (zF++[W (x-Bh f)]) (Tv f x)else none
theorem b3w:∀(r zF:LI)(f:Xs),b4R r zF f=bif (b3v r f).all Af then some (zF++b3v r f)else none
 | [],zF,f=>by simp[b4R,b3v]
 |x::r,zF,f=>by
  simp[b4R,b3v];cases Af (W (x-Bh f))with
  |false=>rfl
  |true=>simp_all[b3w]
theorem a8I:∀(r z:LI)(f:Xs),r.all Af=true->a2z (b3v r f) z f=some (z++r)
 | [],z,f,_=>by simp[b3v,a2z]
 |x::r,z,f,h=>by
  rw[C8,EV]at h;have e:W (Bh f+W (x-Bh f))=x:=by grind[b3t]
  simp only[b3v,a2z,e,h.1,cT,a8I r _ _ h.2,aA,I3]
theorem TB{g:LI}{a:List RF}{b c:Int}(o:short g):∀(k i:Nat)(zF:LI)(f:Xs),i+k=g.length->zF.length=i->uE f->
  Al HC (a,b,c,(g.length:Int),(i:Int),zF++g.drop i,f,())=some (match b4R (g.drop i) zF f with
   |some r=>.inl (a,b,c,r,())
   |none=>.inr ((6:Int),([]:List Int),()))
 |0,i,zF,f,h,j,e=>by
  obtain rfl:i=g.length:=by omega
  rw[E1,F2];exact Ag (b:=B7 (a,b,c,zF,())) (by simp[HC])
 |k+1,i,zF,f,h,j,e=>by
  have d:i<g.length:=by omega
  have p:g.length<1000000:=o;have m:A3 ((0:Int)<=(i:Int))=true:=by simp
  have q:(zF++g.drop i).length=g.length:=by grind
  have n:A3 ((i:Int)<(((zF++g.drop i).length:Nat):Int))=true:=by simp_all
  have l:b4R (g.drop i) zF f=bif Af (W (g[i]-Bh f))then b4R (g.drop (i+1)) (zF++[W (g[i]-Bh f)]) (Tv f g[i])else none:=by
   rw[A4 d];rfl
  rw[l];cases hw:Af (W (g[i]-Bh f))with
  |true=>
   rw[Ai (s':=(a,b,c,(g.length:Int),((i+1:Nat):Int),(zF++[W (g[i]-Bh f)])++g.drop (i+1),Tv f g[i],())) (by
    simp only[HC,Cq d,m,n,cT,A8,IV e,oB,tN,RH j d,HU,hw,bT,cF,Wa e,kO j d,Aa (show i<1000000 by omega)])]
   exact TB o k (i+1) _ _ (by omega) (by simp_all) (kM e _)
  |false=>
   exact Ag (by
    simp only[HC,Cq d,m,n,cT,A8,IV e,oB,tN,RH j d,HU,hw,D1];rfl)
def b6e:List RF->List Int->Option (List Int)
 | [],row=>some row
 |s::r,row=>match b4R row [] (VO s)with
  |some row'=>b6e r row'
  |none=>none
theorem a4E{g d:LI}{f:Xs}(h:b4R g [] f=some d):d=b3v g f/\d.all Af=true:=by
 rw[b3w]at h;grind
theorem rP:∀(a b:List RF)(h:LI),lO (a++b) h=match lO a h with|some r=>lO b r|none=>none
 | [],b,h=>rfl
 |s::a,b,h=>by
  simp only[J4,lO];split;exact rP a b _;rfl
theorem a4F:∀(st:List RF)(g d:LI),g.all Af=true->b6e st g=some d->lO st.reverse d=some g/\d.all Af=true/\d.length=g.length
 | [],g,d,k,h=>by
  simp[b6e]at h;subst h;exact⟨rfl,k,rfl⟩
 |s::st,g,d,k,h=>by
  simp only[b6e]at h;split at h;rename_i f j;obtain⟨e,a⟩:=a4E j;obtain⟨b,c,i⟩:=a4F st f d a h;refine⟨?_,c,by rw[i,e,Xc]⟩;rw[List.reverse_cons,rP,b];simp only[lO];rw[e,a8I g [] _ k,E2];cases h
theorem QC{st:List RF}(d:∀s∈st,tJ s=true)(n:st.length<=3):∀(j k:Nat)(g:LI),k+j=st.length->short g->
  Al HD (st,(st.length:Int),(k:Int),g,())=some (match b6e (st.drop k) g with
   |some r=>.inl (r,())
   |none=>.inr ((6:Int),([]:List Int),()))
 |0,k,g,h,m=>by
  obtain rfl:k=st.length:=by omega
  simp_all[Ag,HD,b6e]
 |j+1,k,g,h,m=>by
  have e:k<st.length:=by omega
  have f:=d _ (A9 e);have i:=TB (a:=st) (b:=(st.length:Int)) (c:=(k:Int)) m g.length 0 [] (VO st[k]) (by omega) rfl (a1R f);simp at i;have l:((0:Int) != 0)=false:=rfl;rw[A4 e];simp[b6e];cases hr:b4R g [] (VO st[k])with
  |some r=>
   rw[hr]at i;rw[Ai (s':=(st,(st.length:Int),((k+1:Nat):Int),r,())) (by simp only[HD,Cq e,cT,Ac e,oB,SP f,l,cF,i,Aa (show k<1000000 by omega)])];exact QC d n j (k+1) r (by omega) (by have:=(a4E hr).1;unfold short at m|-;simp_all[Xc])
  |none=>
   simp_all[Ag,HD,Ac,SP]
def Vt(l:List Int)(st:List RF):Option (List Int):=bif l.all Af then b6e st l else none
theorem pQ{l:LI}{st:List RF}(k:My st=true)(a:l.length<100000):OJ (l,st)=some (KR (Vt l st)):=by
 have h:=k;simp only[My,EV,dT]at h;have f:short st:=by unfold short;omega
 have g:short l:=by unfold short;omega
 unfold OJ Vt;simp only[SL f,k,oB,bT,cF,RD g];cases hw:l.all Af with
 |false=>rfl
 |true=>
  have:=QC (lA.1 h.2) h.1 st.length 0 l (by omega) g
  simp at this;simp[NN g,this];cases b6e st l<;>rfl
theorem lJ{l r:LI}{st:List RF}(h:Vt l st=some r):Rc r st=some l/\r.all Af=true/\r.length=l.length:=by
 unfold Vt at h;cases hw:l.all Af with
 |false=>simp_all
 |true=>
  simp[hw]at h;obtain⟨f,g,k⟩:=a4F st l r hw h;exact⟨by simp only[Rc,g,cT,f],g,k⟩
theorem c6I{w:Nat}(h:w<=64):((2^w:Nat):Int) ∣ 18446744073709551616:=D4.2 (H0 2 h)
theorem b8F(n:Int):∃q,zD .i64 n=n+18446744073709551616*q:=by
 rw[Lp,Int.bmod];split;exact⟨-(n / 18446744073709551616),by omega⟩;exact⟨-(n / 18446744073709551616)-1,by omega⟩
theorem b3x{w:Nat}(h:w<=64)(n:Int):((2^w:Nat):Int) ∣ zD .i64 n↔((2^w:Nat):Int) ∣ n:=by
 obtain⟨q,g⟩:=b8F n;rw[g];grind[G5,E7,c6I]
theorem rQ{w:Nat}(h:w<=64)(a:Int):2^w ∣ (B3 64 a).toNat↔((2^w:Nat):Int) ∣ a:=by
 have e:(((B3 64 a).toNat:Nat):Int)=a+18446744073709551616*-(a / 18446744073709551616):=by
  rw[BitVec.toNat_ofInt];omega
 rw[<-D4,e];grind[G5,E7,c6I]
theorem a7p(w x y:Nat):2^w ∣ (x ||| y)↔2^w ∣ x/\2^w ∣ y:=by
 simp_all[Nat.dvd_iff_mod_eq_zero,Nat.or_mod_two_pow]
theorem b8G{w:Nat}(h:w<=64)(a b:Int):((2^w:Nat):Int) ∣ bits .i64 .or a b↔((2^w:Nat):Int) ∣ a/\((2^w:Nat):Int) ∣ b:=by
 show((2^w:Nat):Int) ∣ zD .i64 ((((B3 64 a) ||| (B3 64 b)).toNat:Nat):Int)↔_;rw[b3x h,D4,H1,a7p,rQ h,rQ h]
def a7q(l:List Int)(a:Int):Int:=l.foldl (fun a x=>bits .i64 .or a x) a
theorem Yy{w:Nat}(h:w<=64):∀(l:LI)(a:Int),((2^w:Nat):Int) ∣ a7q l a↔((2^w:Nat):Int) ∣ a/\∀x∈l,((2^w:Nat):Int) ∣ x
 | [],a=>by simp[a7q]
 |x::l,a=>by
  show((2^w:Nat):Int) ∣ a7q l (bits .i64 .or a x)↔_;rw[Yy h l,b8G h];simp_all[and_assoc]
theorem a4G:∀(l:LI),(∀x∈l,x=0)->a7q l 0=0
 | [],_=>rfl
 |x::l,h=>by
  have g:=h x (List.mem_cons_self);subst g;show a7q l (bits .i64 .or 0 0)=0;rw[show bits .i64 .or 0 0=0 from by rfl];simp_all[a4G]
theorem b8H{l:LI}(k:l.all Af=true)(h:∃x∈l,x≠0):a7q l 0≠0:=by
 intro e;obtain⟨x,g,f⟩:=h;have b:=((Yy (w:=62) (by omega) l 0).1 (by omega)).2 x g;have a:=CD.1 (lA.1 k x g);omega
def OU(l:List Int)(w:Nat):Prop:=
 ((∀x∈l,x=0)/\w=0)\/((∃x∈l,x≠0)/\w<=30/\(∀x∈l,((2^w:Nat):Int) ∣ x)/\(w=30\/∃x∈l,¬ ((2^(w+1):Nat):Int) ∣ x))
theorem a7r{v w:Nat}(h:v<=w){x:Int}(g:((2^w:Nat):Int) ∣ x):((2^v:Nat):Int) ∣ x:=
 Int.dvd_trans (D4.2 (H0 2 h)) g
theorem OU.unique{l:LI}{v w:Nat}(hv:OU l v)(g:OU l w):v=w:=by
 have d:∀{v w:Nat},v<=30->w<=30->(∀x∈l,((2^w:Nat):Int) ∣ x)->(v=30\/∃x∈l,¬ ((2^(v+1):Nat):Int) ∣ x)->w<=v:=by
  grind[a7r]
 rcases hv with⟨f,hv⟩|⟨⟨x,c,h⟩,hv1,hv2,hv3⟩
 ·rcases g with⟨-,g⟩|⟨⟨x,c,h⟩,-⟩;all_goals grind
 ·rcases g with⟨f,-⟩|⟨-,k,a,b⟩;all_goals grind
theorem a4H:∀(n N:Nat),N<=n->0<N->∃k m,N=2^k*(2*m+1)
 |0,N,h,g=>absurd g (by omega)
 |n+1,N,h,g=>by
  by_cases he:N%2=0;obtain⟨k,m,e⟩:=a4H n (N / 2) (by omega) (by omega);refine⟨k+1,m,?_⟩;rw[I9,G6 (2^k) 2,Nat.mul_assoc,<-e];omega;exact⟨0,N / 2,by omega⟩
theorem b6f{k m:Nat}(h:2^k*(2*m+1)<2^64):(2^k*(2*m+1)) &&& (2^64-2^k*(2*m+1))=2^k:=by
 have o:1<=2^k:=I7;have n:k<64:=by
  refine J8 fun g=>?_
  have d:2^64<=2^k:=B8 (by simp) g;grind
 have e:2^k*(2*m+1)=(2^k*(2*m)+(2^k-1))+1:=by grind
 have l:2^k*(2*m)+(2^k-1)<2^64:=by omega
 refine Nat.eq_of_testBit_eq fun i=>?_
 have a:(2^64-2^k*(2*m+1)).testBit i=(A3 (i<64)&&!(2^k*(2*m)+(2^k-1)).testBit i):=by
  rw[e];exact Nat.testBit_two_pow_sub_succ l i
 have f:=F7 (2*m+1) (b:=0) (i:=k) (by omega) i;rw[J0]at f;have c:=F7 (2*m) (b:=2^k-1) (i:=k) (by omega) i;rw[Nat.testBit_and,a,f,c,Nat.testBit_two_pow];by_cases d:i<k;grind;by_cases h2:k=i;simp_all;obtain⟨j,rfl⟩:∃j,i=k+(j+1):=⟨i-k-1,by omega⟩;have p:k+(j+1)-k=j+1:=by omega
 have q:(2*m+1) / 2=m:=by omega
 simp_all[Nat.testBit_succ]
theorem b3y:∀k:Nat,k<64->VV[(2^k*285870213051353865)%18446744073709551616 / 288230376151711744]?=some (k:Int):=by
 have h:∀k:Fin 64,VV[(2^k.val*285870213051353865)%18446744073709551616 / 288230376151711744]?=some (k.val:Int):=by decide
 exact fun k g=>h ⟨k,g⟩
theorem a4I{k m:Nat}:¬ 2^(k+1) ∣ 2^k*(2*m+1):=by
 rintro⟨c,h⟩;rw[I9,Nat.mul_assoc]at h;grind[Nat.eq_of_mul_eq_mul_left]
theorem b3z{N:Nat}(d:0<N)(h:N<18446744073709551616):∃k:Nat,BV (N:Int)=some (k:Int)/\2^k ∣ N/\¬ 2^(k+1) ∣ N:=by
 obtain⟨k,m,e⟩:=a4H N N (D9 _) d;have n:2^k<=N:=by grind
 have i:k<64:=by
  refine J8 fun g=>?_
  have l:2^64<=2^k:=B8 (by simp) g;omega
 refine⟨k,?_,⟨_,e⟩,e▸a4I⟩;have hb:bits .u64 .and (N:Int) (zD .u64 (0-(N:Int)))=((2^k:Nat):Int):=by
  have b:zD .u64 (0-(N:Int))=((18446744073709551616-N:Nat):Int):=by
   grind[zD,IntKind.bits,IntKind.signed]
  rw[b];show zD .u64 (((B3 64 (N:Int)) &&& (B3 64 ((18446744073709551616-N:Nat):Int))).toNat:Int)=_;rw[C2,C2,J7,C9,C9,D5 h,D5 (by omega)]
  have:=b6f (k:=k) (m:=m) (by omega)
  rw[<-e]at this;rw[show(18446744073709551616:Nat)=2^64 from rfl,this];exact Aw (by omega)
 have j:((N:Int)==0)=false:=by grind
 unfold BV;rw[hb,j,cF];have f:zD .u64 (((2^k:Nat):Int)*285870213051353865)=(((2^k*285870213051353865)%18446744073709551616:Nat):Int):=by
  rfl
 have a:=b3y k i;generalize (2^k*285870213051353865)%18446744073709551616=M at f a;have c:=GL (N:=M) (o:=58) (by omega);rw[f,show(58:Int)=((58:Nat):Int)from rfl,c,show 2^58=288230376151711744 from rfl];generalize M / 288230376151711744=J at a;grind[Ac,Ae]
theorem b3A{n:Nat}(g:n<=62)(c:Int):AR .i64 (((2^n:Nat):Int)*c) (n:Int)=c:=by
 have f:0<2^n:=E3 n;have e:min (D6 (n:Int)) (IntKind.bits .i64)=n:=by grind[IntKind.bits]
 have h:((2^n:Nat):Int)=2^n:=by simp
 unfold AR;grind[G4]
theorem a8J{l:LI}(f:short l):∀(k i:Nat)(a:Int),i+k=l.length->Al Hk (a,l,(l.length:Int),(i:Int),())=some (a7q (l.drop i) a,())
 |0,i,a,h=>by
  obtain rfl:i=l.length:=by omega
  simp_all[Ag,Hk,a7q]
 |k+1,i,a,h=>by
  have g:i<l.length:=by omega
  have b:l.length<1000000:=f;rw[A4 g,Ai (s':=(bits .i64 .or a l[i],l,(l.length:Int),((i+1:Nat):Int),())) (by
   simp only[Hk,Cq g,cT,Ac g,oB,Aa (show i<1000000 by omega)])]
  exact a8J f k (i+1) _ (by omega)
theorem a4J{l:LI}{r:Nat}(g:r<=30)(h:r=30\/¬ ((2^(r+1):Nat):Int) ∣ a7q l 0):r=30\/∃x∈l,¬ ((2^(r+1):Nat):Int) ∣ x:=by
 grind[Yy,J1]
theorem ZZ{l:LI}(z:short l)(j:l.all Af=true):∃w:Nat,Fg l=some (w:Int)/\w<=30/\OU l w:=by
 have a:=a8J z l.length 0 0 (by omega);simp at a;unfold Fg;simp[a];by_cases hz:∀x∈l,x=0;have e:=a4G l hz;exact⟨0,by simp_all,by omega,.inl ⟨hz,rfl⟩⟩
 ·have g:∃x∈l,x≠0:=Classical.byContradiction fun m=>hz fun x g=>Classical.byContradiction fun t=>m ⟨x,g,t⟩;have u:=b8H j g;have n:(a7q l 0==0)=false:=by simp_all
  obtain⟨q,y⟩:∃q,zD .u64 (a7q l 0)=a7q l 0+18446744073709551616*q:=⟨-(a7q l 0 / 18446744073709551616),by
   grind[zD,IntKind.bits,IntKind.signed]⟩
  obtain⟨C,H⟩:=dJ (a7q l 0);obtain⟨N,d⟩:=A7 C;have b:∀v,v<=64->(2^v ∣ N↔((2^v:Nat):Int) ∣ a7q l 0):=fun v G=>by
   rw[<-D4,<-d,y];grind[G5,E7,c6I]
  have h:0<N:=by
   refine Nat.pos_of_ne_zero fun D=>?_
   obtain⟨x,f,B⟩:=g;have F:=((Yy (w:=62) (by omega) l 0).1 ((b 62 (by omega)).1 (by omega))).2 x f;have A:=CD.1 (lA.1 j x f);omega
  obtain⟨k,p,c,r⟩:=b3z h (by omega);have i:k<=63:=by
   refine Nat.le_of_not_lt fun o=>?_
   have a:2^64<=2^k:=B8 (by simp) (by omega)
   have:=Nat.le_of_dvd h c
   omega
  simp only[n,cF,d,p,oB];have E:GZ (k:Int) 30=((min k 30:Nat):Int):=by rw[Qv];omega
  refine⟨min k 30,by grind,by omega,.inr ⟨g,by omega,?_,?_⟩⟩;all_goals grind[Yy,Nat.dvd_trans,H0,a4J]
theorem b6g{l:LI}{w:Nat}(g:w<=30)(d:l.all Af=true)(h:OU l w):UK (w:Int) l=some (l.map fun x=>AR .i64 x (w:Int)):=by
 have f:∀x∈l,((2^w:Nat):Int) ∣ x:=by
  rcases h with⟨h,-⟩|⟨-,-,h,-⟩;all_goals grind[J1]
 have:l.all (Wh (w:Int))=true:=by
  rw[lA];intro x k;obtain⟨c,a⟩:=f x k;have b:G3 x (AT .i64 1 (w:Int))=0:=by simp_all[b3s]
  simp_all[Wh]
 simp only[UK,this,cT]
theorem RO{N n:Nat}(g:n<=63)(h:N<2^n)(L:LI):(AK (N:Int) n L).length=L.length+n:=by
 grind[AK,GL,J9,Vs]
def NQ(k:Nat)(x:Int):Nat:=if AN x / 2^k<32 then AN x / 2^k+1+k else 65
theorem a4K{k:Nat}(h:k<=25)(x:Int):NQ k x<=65:=by
 grind[NQ]
theorem b0D{k:Nat}(b:k<=25){x:Int}(f:Af x=true)(L:LI):(MK k x L).length=L.length+NQ k x:=by
 unfold MK NQ;have g:0<2^k:=E3 k;have h:AN x%2^k<2^k:=F5 _ g;have a:=MB f;split;rw[RO (by omega) h,KU];omega;grind[RO,KU]
theorem lK{k:Nat}(g:k<=25):∀(l L:LI),l.all Af=true->(HZ k l L).length=L.length+(l.map (NQ k)).sum
 | [],L,_=>by rfl
 |x::l,L,h=>by
  simp only[C8,EV]at h;have e:HZ k (x::l) L=HZ k l (MK k x L):=rfl;rw[e,lK g l _ h.2,b0D g h.1,List.map_cons,I6];omega
theorem a2b{k:Nat}(c:k<=25){x:Int}(g:Af x=true):Ln ((k:Int),x)=some ((NQ k x:Nat):Int):=by
 have d:=MB g;have f:AR .u64 ((AN x:Nat):Int) (k:Int)=((AN x / 2^k:Nat):Int):=GL (by omega);have a:zD .i64 ((AN x / 2^k:Nat):Int)=((AN x / 2^k:Nat):Int):=PH (D0 (C0 _ _) d);have h:A3 ((k:Int)<0)=false:=by simp
 unfold Ln NQ;simp only[MC c,OS,g,oB,bT,cF,OT g,h,f,a];generalize AN x / 2^k=q;by_cases hq:q<32;have b:A3 ((q:Int)<32)=true:=decide_eq_true (by omega);simp only[b,cT,if_pos hq];grind[Ae];grind
theorem a7s{f:Int->Nat}{M:Nat}(h:∀x,f x<=M):∀l:List Int,(l.map f).sum<=M*l.length
 | []=>by simp
 |x::l=>by
  have:=h x
  have:=a7s h l
  rw[List.map_cons,I6,lC,J5,J6];omega
theorem a4L{f:Int->Nat}{l:LI}{i:Nat}(h:i<l.length):((l.take (i+1)).map f).sum=((l.take i).map f).sum+f l[i]:=by
 rw[E9 h,pA,List.sum_append];rfl
theorem dL{k:Nat}(a:k<=25){l:LI}(d:l.all Af=true)(j:l.length<10000):FQ ((k:Int),l)=some (((l.map (NQ k)).sum:Nat):Int):=by
 have:=Bz (f:=FO) (fun i:Nat=>((k:Int),((((l.take i).map (NQ k)).sum:Nat):Int),l,(l.length:Int),(i:Int),())) l.length (b:=((((l.map (NQ k)).sum:Nat):Int),()))
  (fun i h=>by
   have c:=a2b a (lA.1 d _ (A9 h));have g:=a7s (a4K a) (l.take (i+1));rw[a4L h]at g;rw[E5]at g;have e:zD .i64 (((((l.take i).map (NQ k)).sum:Nat):Int)+((NQ k l[i]:Nat):Int))=((((l.take (i+1)).map (NQ k)).sum:Nat):Int):=by
    grind[a4L,Ae]
   simp only[FO,Cq h,cT,Ac h,oB,c,e,Aa (show i<1000000 by omega)])
  (by simp_all[FO])
 unfold FQ;simp_all
theorem b3B(x:Int){n:Nat}(k:n<=62):∃N:Nat,Br x n=(N:Int)/\N<2^n:=by
 obtain⟨h,f⟩:=dJ x;obtain⟨y,a⟩:=A7 h;have g:0<2^n:=E3 n;refine⟨y%2^n,?_,F5 _ g⟩;grind[Br,Yt]
theorem Vu{n:Nat}(h:n<=62):∀(l L:LI),(Dh n l L).length=L.length+n*l.length
 | [],L=>by rfl
 |x::l,L=>by
  have e:Dh n (x::l) L=Dh n l (AK (Br x n) n L):=rfl;obtain⟨N,g,f⟩:=b3B x h;rw[e,Vu h l,g,RO (by omega) f,lC,J5,J6];omega
theorem b8I{x:Int}(h:Af x=true):Cu x ((31:Nat):Int)=true:=by
 have:=CD.1 h
 have g:AT .i64 (-1) (((31:Nat):Int)-1)=-1073741824:=by rfl
 have f:zD .i64 (AT .i64 1 (((31:Nat):Int)-1)-1)=1073741823:=by rfl
 unfold Cu;grind
theorem lL{x:Int}(h:Af x=true):∀(k w:Nat),w+k=32->1<=k->DQ x k w<=31
 |k+1,w,g,_=>by
  simp[DQ];by_cases h31:w=31;grind[b8I]
  ·cases (x != 0)&&!Cu x w with
   |true=>exact lL h k (w+1) (by omega) (by omega)
   |false=>grind
theorem TC:∀(l:LI)(w:Nat),l.all Af=true->w<=31->l.foldl (fun w x=>DQ x (32-w) w) w<=31
 | [],w,_,h=>h
 |x::l,w,g,h=>by
  simp only[C8,EV]at g;exact TC l _ g.2 (lL g.1 (32-w) w (by omega) (by omega))
theorem Dj{l:LI}(h:l.all Af=true):Ar l<=31:=TC l 0 h (by omega)
theorem Ta{l:LI}(g:l.length<10000):IL l=some (((5+Ar l*l.length:Nat)):Int):=by
 have h:=Fl l;have f:Ar l*l.length<=32*l.length:=D8 _ h;unfold IL;simp only[Di (show short l by unfold short;omega),oB];grind[Ae]
def Wk(k:Int)(part:List Int):Nat:=5+(if k=31 then 5+Ar part*part.length else(part.map (NQ k.toNat)).sum)
def MD:List Nat->List Int->List Int->Nat
 |z::zs,k::ks,l=>Wk k (l.take z)+MD zs ks (l.drop z)
 |_,_,_=>0
theorem GM{q:Nat}(h:q<2147483648):zD .u64 (q:Int)=(q:Int):=Aw (by omega)
theorem b0E{k:Int}(h:kB k=true){part:LI}(g:part.all Af=true)(L:LI):(PI k part L).length=L.length+Wk k part:=by
 simp[kB]at h;obtain⟨K,rfl⟩:=A7 (show 0<=k by omega);grind[RO,Dj,PI,Wk,GM,Vu,lK]
theorem lM:∀(g:List Nat)(ks l L:LI),ks.all kB=true->l.all Af=true->(Ia g ks l L).length=L.length+MD g ks l
 |z::g,k::ks,l,L,h,c=>by
  simp only[C8,EV]at h;have f:(l.take z).all Af=true:=lA.2 fun x b=>lA.1 c x (D2 b);have a:(l.drop z).all Af=true:=lA.2 fun x b=>lA.1 c x (D3 b);simp only[Ia,MD];rw[lM g ks _ _ h.2 a,b0E h.1 f];omega
 | [],_,_,_,_,_=>by rfl
 |_::_,[],_,_,_,_=>by rfl
theorem b3C{k:Int}(h:kB k=true)(part:LI):Wk k part<=10+65*part.length:=by
 simp[kB]at h;unfold Wk;split;have g:Ar part*part.length<=32*part.length:=D8 _ (Fl part);omega
 have:=a7s (a4K (k:=k.toNat) (by omega)) part
 omega
theorem RP{h:List Nat}{p:Vq}(I:p.2.1.length=h.length)(b:p.2.1.all kB=true)(L:h.length<=256):∀(j i:Nat)(l:LI)(c:Nat),i+j=h.length->(h.drop i).sum=l.length->l.all Af=true->l.length<=5000->c+10*j+65*l.length<1000000->
  Al BP (l,(c:Int),(h.length:Int),(i:Int),Cm h,p,())=some (((c+MD (h.drop i) (p.2.1.drop i) l:Nat):Int),())
 |0,i,l,c,H,_,_,_,_=>by
  obtain rfl:i=h.length:=by omega
  grind[Ag,BP,MD]
 |j+1,i,l,c,H,hsum,F,hl5,hb=>by
  have g:i<h.length:=by omega
  have a:i<p.2.1.length:=by omega
  have q:=lA.1 b _ (A9 a);rw[RM g]at hsum;have B:A3 ((0:Int)<=(i:Int))=true:=by simp
  have C:A3 ((i:Int)<(((Cm h).length:Nat):Int))=true:=by simp_all[Bq]
  have D:A3 ((0:Int)<=((h[i]:Nat):Int))=true:=by simp
  have E:A3 (((h[i]:Nat):Int)<=((l.length:Nat):Int))=true:=by grind
  have e:(l.take h[i]).length=h[i]:=by simp_all
  have m:(l.drop h[i]).length=(h.drop (i+1)).sum:=by grind
  have y:(l.take h[i]).all Af=true:=lA.2 fun x A=>lA.1 F x (D2 A);have z:(l.drop h[i]).all Af=true:=lA.2 fun x A=>lA.1 F x (D3 A);have f:=b3C q (l.take h[i]);rw[e]at f;have o:BP (l,(c:Int),(h.length:Int),(i:Int),Cm h,p,())=some (.inl (l.drop h[i],((c+Wk p.2.1[i] (l.take h[i]):Nat):Int),(h.length:Int),((i+1:Nat):Int),Cm h,p,())):=by
   by_cases h31:p.2.1[i]=31;have d:(p.2.1[i]==31)=true:=by simp_all
   have n:=Ta (l:=l.take h[i]) (by omega);have w:Wk p.2.1[i] (l.take h[i])=5+(5+Ar (l.take h[i])*(l.take h[i]).length):=by simp_all[Wk]
   rw[w]at f|-;generalize 5+Ar (l.take h[i])*(l.take h[i]).length=r at n f|-;have u:zD .i64 (5+(r:Int))=5+(r:Int):=Ae (by omega);have v:zD .i64 ((c:Int)+(5+(r:Int)))=((c+(5+r):Nat):Int):=by grind[Ae]
   simp only[BP,Cq g,B,C,HV g,D,E,cT,A8,tN,Ac a,oB,d,n,u,v,C1,Aa (show i<1000000 by omega)];have d:(p.2.1[i]==31)=false:=by simp_all
   have t:=q;simp[kB]at t;obtain⟨K,G⟩:=A7 (show 0<=p.2.1[i]by omega);have n:=dL (k:=K) (by omega) y (by omega);have w:Wk p.2.1[i] (l.take h[i])=5+((l.take h[i]).map (NQ K)).sum:=by simp_all[Wk]
   rw[<-G]at n;rw[w]at f|-;generalize ((l.take h[i]).map (NQ K)).sum=r at n f|-;have u:zD .i64 (5+(r:Int))=5+(r:Int):=Ae (by omega);have v:zD .i64 ((c:Int)+(5+(r:Int)))=((c+(5+r):Nat):Int):=by grind[Ae]
   simp only[BP,Cq g,B,C,HV g,D,E,cT,cF,A8,tN,Ac a,oB,d,n,u,v,C1,Aa (show i<1000000 by omega)]
  rw[Ai o,RP I b L j (i+1) (l.drop h[i]) _ (by omega) m.symm z (by omega) (by omega)];rw[A4 g,A4 a];grind[MD]
theorem pR{p:Vq}{n sH:Int}{l:LI}{g:List Nat}(h:sV p n sH l g):Hi (p,n,sH,l)=some ((4+MD g p.2.1 l:Nat):Int):=by
 have k:Go.Ab.short p.2.1:=by have:=h.ks;have:=h.len;unfold Go.Ab.short;omega
 have a:=h.short;have b:=h.len;have f:=RP h.ks h.all h.len g.length 0 l 4 (by omega) (by rw[C3];exact h.sum) h.wide h.short (by omega);simp only[nZ,Int.cast_ofNat_Int,C3]at f;unfold Hi;simp only[OQ k,h.may,PK h.row h.rest h.wide h.short,oB,bT,cF,CY,h.sizes,Bq,f]
theorem pS{p:Vq}{n sH:Int}{l:LI}{g:List Nat}(h:sV p n sH l g)(L:LI):(Dt p g l L).length=L.length+(4+MD g p.2.1 l):=by
 obtain⟨o,f⟩:=A7 h.order.1;have k:=h.order.2;unfold Dt;rw[lM _ _ _ _ h.all h.wide,f,GM (by omega),RO (by omega) (by omega)];omega
def GN(o:Int):BS:=((0:Int),(0:Int),o,(0:Int),(0:Int),([]:List Int),A6 3 (0:Int),([]:List RF),([]:List Int),((0:Int),([]:List Int),()),([]:List Int),())
theorem a4M(o:Int):sN (GN o):=⟨by simp[GN],by rfl,by simp[GN],by simp[GN],by simp[GN],by simp[GN]⟩
def a4N(k:Nat)(l:List Int):Nat:=(l.map (NQ k)).sum
def a5J(l:List Int):Nat->Nat
 |0=>0
 |i+1=>if a4N (i+1) l<a4N (a5J l i) l then i+1 else a5J l i
theorem a7t(l:LI):∀i,a5J l i<=i
 |0=>D9 _
 |i+1=>by
  have:=a7t l i
  simp only[a5J];split<;>omega
theorem Xd{k:Nat}(h:k<=25){l:LI}(f:l.all Af=true)(g:l.length<10000):FQ ((k:Int),l)=some ((a4N k l:Nat):Int):=dL h f g
theorem c2e{a b:Nat}(h:a<b):A3 ((a:Int)<(b:Int))=true:=decide_eq_true (by omega)
theorem b3D{a b:Nat}(h:¬ a<b):A3 ((a:Int)<(b:Int))=false:=decide_eq_false (by omega)
theorem Yz{l:LI}(g:l.all Af=true)(h:l.length<10000):Qo l=some ((a5J l 25:Nat):Int):=by
 have:=Bz (f:=Mo) (fun i:Nat=>(l,((a5J l i:Nat):Int),((a4N (a5J l i) l:Nat):Int),((i+1:Nat):Int),())) 25 (b:=(((a5J l 25:Nat):Int),()))
  (fun i n=>by
   have a:A3 (((i+1:Nat):Int)<=25)=true:=decide_eq_true (by omega);have d:zD .i64 (((i+1:Nat):Int)+1)=((i+1+1:Nat):Int):=Aa (by omega);have c:=Xd (k:=i+1) (by omega) g h;by_cases hlt:a4N (i+1) l<a4N (a5J l i) l;simp_all[Mo,a5J];simp only[Mo,a,cT,cF,c,oB,d,b3D hlt,a5J,hlt,if_false])
  (by
   rfl)
 have m:=Xd (k:=0) (by omega) g h;have j:((0+1:Nat):Int)=1:=rfl;have e:a5J l 0=0:=rfl;simp_all[Qo]
def Vv(l:List Int):Int:=if 5+Ar l*l.length<a4N (a5J l 25) l then 31 else((a5J l 25:Nat):Int)
theorem a7u(l:LI):kB (Vv l)=true:=by
 have:=a7t l 25
 unfold Vv;split;rfl;simp only[kB,G9,EV,dT];omega
theorem fW{l:LI}(g:l.all Af=true)(h:l.length<10000):Mp l=some (Vv l):=by
 have a:=a7t l 25;have f:=Xd (k:=a5J l 25) a g h;unfold Mp Vv;by_cases hlt:5+Ar l*l.length<a4N (a5J l 25) l;simp only[Yz g h,Ta h,f,oB,c2e hlt,cT,hlt,if_true];simp only[Yz g h,Ta h,f,oB,b3D hlt,cF,hlt,if_false]
def FH:List Nat->List Int->List Int
 | [],_=>[]
 |z::zs,l=>Vv (l.take z)::FH zs (l.drop z)
theorem UO:∀h l,(FH h l).length=h.length
 | [],_=>rfl
 |z::h,l=>by simp[FH,UO h]
theorem lP:∀h l,(FH h l).all kB=true
 | [],_=>rfl
 |z::h,l=>by simp[FH,lP h,a7u]
theorem Wl{g:List Nat}{n sH most least order:Int}{L:LI}{a b:Vq}(p:g.length<=256):∀(j i:Nat)(zG ks:LI),i+j=g.length->(g.drop i).sum=zG.length->zG.all Af=true->zG.length<=5000->ks.length=i->
  Al KE (n,sH,most,L,least,order,zG,((g.length:Nat):Int),(i:Int),Cm g,a,b,(order,ks,()),())=some (n,sH,most,L,least,order,a,b,(order,ks++FH (g.drop i) zG,()),())
 |0,i,zG,ks,h,_,_,_,_=>by
  obtain rfl:i=g.length:=by omega
  simp_all[Ag,KE,FH]
 |j+1,i,zG,ks,h,o,hwr,hr5,hki=>by
  have f:i<g.length:=by omega
  rw[RM f]at o;have c:A3 ((0:Int)<=(i:Int))=true:=by simp
  have d:A3 ((i:Int)<(((Cm g).length:Nat):Int))=true:=by simp_all[Bq]
  have e:A3 ((0:Int)<=((g[i]:Nat):Int))=true:=by simp
  have l:A3 (((g[i]:Nat):Int)<=((zG.length:Nat):Int))=true:=by grind
  have m:=fW (lH hwr g[i]) (by grind);have k:Bp (ks.length+1)=true:=AG (by omega);rw[A4 f,Ai (s':=(n,sH,most,L,least,order,zG.drop g[i],((g.length:Nat):Int),((i+1:Nat):Int),Cm g,a,b,(order,ks++[Vv (zG.take g[i])],()),())) (by
   simp only[KE,Cq f,c,d,HV f,e,l,cT,A8,tN,m,oB,k,C1,Aa (show i<1000000 by omega),B4])]
  rw[Wl p j (i+1) _ _ (by omega) (by grind) (b3u hwr _) (by grind) (by simp_all)];simp_all[FH]
def b9t(o n sH:Int):List Nat:=(CH o n sH).map D6
def YA(o n sH:Int)(l:List Int):Vq:=(o,FH (b9t o n sH) l,())
def a4O(o n sH:Int)(l:List Int):Nat:=4+MD (b9t o n sH) (FH (b9t o n sH) l) l
def DH(n sH:Int)(l:List Int):Nat->Vq×Nat
 |0=>((0,[],()),0)
 |i+1=>if(CH (i:Int) n sH).length=0 then DH n sH l i else
   if(DH n sH l i).2=0\/a4O (i:Int) n sH l<(DH n sH l i).2 then(YA (i:Int) n sH l,a4O (i:Int) n sH l)else DH n sH l i
def rR(n sH:Int)(l:List Int):Vq:=(DH n sH l 7).1
theorem a8K{o:Nat}{n sH:Int}{l:LI}(c:(CH (o:Int) n sH).length≠0)(a:(l.length:Int)=n-sH)(d:l.all Af=true)(k:l.length<=5000):
  ∃h,CH (o:Int) n sH=Cm h/\b9t (o:Int) n sH=h/\h.length<=256/\h.sum=l.length/\Hu (YA (o:Int) n sH l) n sH=true/\sV (YA (o:Int) n sH l) n sH l h:=by
 obtain⟨h,i,j,m⟩:=UG c;have e:b9t (o:Int) n sH=h:=by simp_all[b9t,NP]
 have b:Hu (YA (o:Int) n sH l) n sH=true:=by
  simp only[Hu,YA,EV,E8,beq_eq_false_iff_ne,ne_eq,beq_iff_eq];simp_all[Bq,UO,lP]
 obtain⟨f,g⟩:=sV.of b a d k
 have:f=h:=by
  have p:=g.sizes;grind[YA,NP]
 grind
theorem Xe{n sH:Int}{l:LI}(b:Of n sH=true)(f:(l.length:Int)=n-sH)(a:l.all Af=true)(g:l.length<=5000):∀i,1<=i->(DH n sH l i).2≠0/\Hu (DH n sH l i).1 n sH=true
 |0,h=>absurd h (by omega)
 |i+1,_=>by
  by_cases hs:(CH (i:Int) n sH).length=0
  ·simp only[DH,hs,if_true];cases i with
   |zero=>grind[a7k]
   |succ i=>exact Xe b f a g (i+1) (by omega)
  ·obtain⟨d,-,-,-,-,c,-⟩:=a8K hs f a g;simp only[DH,hs,if_false];split;simp_all[a4O]
   ·rename_i k;cases i with
    |zero=>exact absurd (Or.inl rfl) k
    |succ i=>exact Xe b f a g (i+1) (by omega)
theorem b3E{n sH:Int}{l:LI}(f:Of n sH=true)(g:(l.length:Int)=n-sH)(k:l.all Af=true)(h:l.length<=5000):Hu (rR n sH l) n sH=true:=
 (Xe f g k h 7 (by omega)).2
theorem pT{n sH:Int}{l:LI}(B:Of n sH=true)(y:(l.length:Int)=n-sH)(u:l.all Af=true)(t:l.length<=5000):
  OL (n,sH,(6:Int),l)=some (rR n sH l,0):=by
 have:=Bz (f:=Fi) (fun i:Nat=>(n,sH,(6:Int),l,(((DH n sH l i).2:Nat):Int),(i:Int),((0:Int),([]:List Int),()),(DH n sH l i).1,())) 7 (b:=(((0:Int),([]:List Int),()),rR n sH l,()))
  (fun i A=>by
   have j:A3 ((i:Int)<=GZ (EA 6 0) 8)=true:=decide_eq_true (by have:GZ (EA 6 0) 8=6:=rfl;omega);have r:zD .i64 ((i:Int)+1)=((i+1:Nat):Int):=Aa (by omega);by_cases hs:(CH (i:Int) n sH).length=0;simp_all[DH,Fi,CY];have hb:((((CH (i:Int) n sH).length:Nat):Int)==0)=false:=by simp_all
   obtain⟨h,p,o,x,z,-,q⟩:=a8K hs y u t;have d:=Wl (n:=n) (sH:=sH) (most:=6) (least:=(((DH n sH l i).2:Nat):Int)) (order:=(i:Int)) (L:=l) (a:=((0:Int),([]:List Int),())) (b:=(DH n sH l i).1) x h.length 0 l [] (by omega) (by simp_all) u t rfl;simp at d;have e:=pR q;simp only[YA,o]at e;have k:(((h.length:Nat):Int)==0)=false:=by simp_all[Bq]
   have m:(((Cm h).length:Nat):Int)=((h.length:Nat):Int):=by rw[Bq]
   have w:YA (i:Int) n sH l=((i:Int),FH h l,()):=by simp only[YA,o]
   have v:a4O (i:Int) n sH l=4+MD h (FH h l) l:=by simp only[a4O,o]
   by_cases hz:(DH n sH l i).2=0;have g:((((DH n sH l i).2:Nat):Int)==0)=true:=by simp_all
   have c:DH n sH l (i+1)=(((i:Int),FH h l,()),4+MD h (FH h l) l):=by simp_all[DH]
   simp only[Fi,j,cT,CY,oB,p,m,k,cF,d,e,r,c,g];have g:((((DH n sH l i).2:Nat):Int)==0)=false:=by simp_all
   by_cases hlt:4+MD h (FH h l) l<(DH n sH l i).2;have c:DH n sH l (i+1)=(((i:Int),FH h l,()),4+MD h (FH h l) l):=by simp_all[DH]
   simp only[Fi,j,cT,CY,oB,p,m,k,cF,d,e,r,c,g,c2e hlt];have c:DH n sH l (i+1)=DH n sH l i:=by simp only[DH,hs,if_false,hz,false_or,w,v,hlt]
   simp only[Fi,j,cT,CY,oB,p,m,k,cF,d,e,r,c,g,b3D hlt])
  (by
   rfl)
 simp_all[DH,OL,PK]
def Bm(k:Int)(s:BS):BS:=
 (k,(0:Int),(if k=2 then s.2.2.1 else 0),(if k=3\/k=4 then s.2.2.2.1 else 0),(if k=4 then s.2.2.2.2.1 else 0),(if k=3\/k=4 then s.2.2.2.2.2.1 else[]),
  ((if k=4 then s.2.2.2.2.2.2.1 else A6 3 (0:Int)),(if k=5 then s.2.2.2.2.2.2.2.1 else[]),([]:List Int),((0:Int),([]:List Int),()),([]:List Int),()))
def z0:Vq:=((0:Int),([]:List Int),())
def FI(s:BS)(w:Nat)(wm:List Int)(p:Vq)(r:List Int):BS:=
 (s.1,(w:Int),s.2.2.1,s.2.2.2.1,s.2.2.2.2.1,s.2.2.2.2.2.1,s.2.2.2.2.2.2.1,s.2.2.2.2.2.2.2.1,wm,p,r,())
theorem b0F{s:BS}(h:sN s)(k:Int):Jk (k,s)=some (Bm k s):=by
 have f:short s.2.2.2.2.2.1:=by have:=h.uL;unfold short;omega
 have g:short s.2.2.2.2.2.2.2.1:=by have:=h.stages;unfold short;omega
 grind[Jk,Bm,SU,dF]
theorem a2c{s:BS}(h:sN s)(k:Int):sN (Bm k s):=by
 have g:=h.uL;have f:=h.taps;have a:=h.stages;refine⟨?_,?_,?_,by simp[Bm],by simp[Bm],by simp[Bm]⟩<;>simp only[Bm]<;>split<;>first|omega|simp
theorem a7v{s:BS}{k n:Int}:LA (Bm k s).1 (Bm k s) n↔LA k s n:=by
 unfold LA Bm;grind
open Classical in
def MH (l:List Int):Nat:=if h:∃w,OU l w then h.choose else 0
theorem b6h{l:LI}{w:Nat}(h:OU l w):MH l=w:=by
 unfold MH;rw[dif_pos ⟨w,h⟩];exact(Classical.choose_spec (⟨w,h⟩:∃w,OU l w)).unique h
def Cv(l:List Int):List Int:=l.map fun x=>AR .i64 x (MH l:Int)
theorem NR{l:LI}(h:short l)(g:l.all Af=true):Fg l=some ((MH l:Nat):Int)/\MH l<=30/\OU l (MH l):=by
 grind[ZZ,b6h]
theorem KW{l:LI}(a:l.length<=4096)(f:l.all Af=true):UK ((MH l:Nat):Int) l=some (Cv l)/\(Cv l).all Af=true/\(Cv l).length=l.length/\a7d ((MH l:Nat):Int) (Cv l)=some l:=by
 obtain⟨-,g,k⟩:=NR (show short l by unfold short;omega) f;have h:=b6g g f k;exact⟨h,b6d g h⟩
def NS(k:Int)(s:BS)(d:List Int):Option (List Int×List Int):=
 if k=2 then(bif (JM s.2.2.1.toNat d).all Af then Option.some (d.take s.2.2.1.toNat,JM s.2.2.1.toNat d)else Option.none)
 else if k=3 then(lI d s.2.2.2.2.2.1 s.2.2.2.1).map fun r=>(d.take s.2.2.2.2.2.1.length,r)
 else if k=4 then(ZX d s.2.2.2.2.1 s.2.2.2.2.2.2.1).bind fun x=>(lI x s.2.2.2.2.2.1 s.2.2.2.1).map fun r=>(x.take s.2.2.2.2.2.1.length,r)
 else(Vt d s.2.2.2.2.2.2.2.1).map fun r=>([],r)
theorem a4P{k:Int}{s:BS}{d f r:LI}(l:k=2\/k=3\/k=4\/k=5)(j:LA k s (d.length:Int))(o:d.all Af=true)(h:NS k s d=some (f,r)):
  f.length<=d.length/\r.length=d.length-f.length/\r.all Af=true/\f.all Af=true:=by
 have a:=j;simp only[LA]at a;rcases l with rfl|rfl|rfl|rfl
 ·have:0<=s.2.2.1/\s.2.2.1<=(d.length:Int):=by omega
  simp[NS]at h;cases hq:(JM s.2.2.1.toNat d).all Af with
  |false=>simp_all
  |true=>
   simp[hq]at h;obtain⟨rfl,rfl⟩:=h;simp_all[IY,lH]
 have:(s.2.2.2.2.2.1.length:Int)<=(d.length:Int):=by omega
 simp only[NS,show ¬ (3:Int)=2 by simp,if_false,if_true,C5,pJ]at h;obtain⟨e,g,rfl,rfl⟩:=h;obtain⟨-,b,c⟩:=Yx g;grind
 have:(s.2.2.2.2.2.1.length:Int)<=(d.length:Int):=by omega
 simp only[NS,show ¬ (4:Int)=2 by simp,show ¬ (4:Int)=3 by simp,if_false,if_true,E6,C5,pJ]at h;obtain⟨x,i,e,g,rfl,rfl⟩:=h;obtain⟨-,m,n⟩:=ZY i;obtain⟨-,b,c⟩:=Yx g;grind;simp only[NS,show ¬ (5:Int)=2 by simp,show ¬ (5:Int)=3 by simp,show ¬ (5:Int)=4 by simp,if_false,C5,pJ]at h;obtain⟨e,g,rfl,rfl⟩:=h;obtain⟨-,b,c⟩:=lJ g;simp_all
theorem b3F{k:Int}{s:BS}{d:LI}(A:k=2\/k=3\/k=4\/k=5)(h:sN s)(z:LA k s (d.length:Int))(G:d.length<=4096)(B:d.all Af=true)(w:Nat):
  Qm (FI (Bm k s) w [] z0 [],d)=some (match NS k s d with|none=>(6,FI (Bm k s) w [] z0 [])|some (wm,r)=>(0,FI (Bm k s) w wm z0 r)):=by
 have q:=h.taps;have g:=h.stages;have j:short d:=by unfold short;omega
 obtain⟨H,K,o,l,f,c,t,m,C,p,I,u⟩:=s;simp only[LA]at z q g;unfold Qm;rcases A with rfl|rfl|rfl|rfl;obtain⟨y,F,i⟩:0<=o/\o<=4/\o<=(d.length:Int):=by omega
 obtain⟨O,rfl⟩:=A7 y;have g:short (d.take O):=by unfold short;grind
 have n:A3 ((O:Int)<=((d.length:Nat):Int))=true:=by simp_all
 simp only[FI,Bm,NS,if_true,show((2:Int)==2)=true from rfl,cT,Wg (show O<=4 by omega) (show O<=d.length by omega) j B,oB,tN];grind[RJ,BM,NN]
 ·obtain⟨a,i⟩:Rb c l=true/\(c.length:Int)<=(d.length:Int):=by simp_all
  have g:short (d.take c.length):=by unfold short;grind
  have v:A3 ((0:Int)<=((c.length:Nat):Int))=true:=by simp
  have n:A3 (((c.length:Nat):Int)<=((d.length:Nat):Int))=true:=by simp_all
  simp only[FI,Bm,NS,show((3:Int)==2)=false from rfl,show((3:Int)==3)=true from rfl,show ¬ (3:Int)=2 by simp,show ¬ (3:Int)=4 by simp,show ¬ (3:Int)=5 by simp,true_or,if_true,if_false,cT,cF,UN a (show c.length<=d.length by omega) (show d.length<100000 by omega),oB];cases lI d c l with
  |none=>rfl
  |some r=>simp_all[KR,RJ,BM,NN]
 ·obtain⟨a,i,b⟩:Rb c l=true/\(c.length:Int)<=(d.length:Int)/\Qw f t=true:=by simp_all
  simp[FI,Bm,NS,a2a b q (show d.length<100000 by omega)];cases hx:ZX d f t with
  |none=>rfl
  |some x=>
   obtain⟨-,D,E⟩:=ZY hx;have g:short (x.take c.length):=by unfold short;grind
   have v:A3 ((0:Int)<=((c.length:Nat):Int))=true:=by simp
   have n:A3 (((c.length:Nat):Int)<=((x.length:Nat):Int))=true:=by simp_all
   simp[KR,UN a (show c.length<=x.length by omega) (show x.length<100000 by omega)];grind[RJ,BM,NN]
 ·obtain⟨i,e⟩:0<m.length/\My m=true:=by simp_all
  have g:short (d.take 0):=by simp[short]
  simp only[FI,Bm,NS,show((5:Int)==2)=false from rfl,show((5:Int)==3)=false from rfl,show((5:Int)==4)=false from rfl,show((5:Int)==5)=true from rfl,show ¬ (5:Int)=2 by simp,show ¬ (5:Int)=3 by simp,show ¬ (5:Int)=4 by simp,or_self,if_true,if_false,cT,cF,pQ e (show d.length<100000 by omega),oB];cases Vt d m with
  |none=>rfl
  |some r=>
   rfl
open Classical in

def Dv (k:Int) (l:List Int) (s:BS):BS×Int:=
 if ¬ (1<=l.length/\l.length<=4096/\LA k s (l.length:Int))then(GN 0,1)
 else if l.all Af=false then(GN 0,6)
 else if k=0 then(bif l.all (fun x=>x==l.headD 0)then(FI (Bm 0 s) 0 [l.headD 0] z0 [],0)else(GN 0,7))
 else if k=1 then(FI (Bm 1 s) (MH l) (Cv l) z0 [],0)
 else match NS k s (Cv l)with
  |none=>(GN 0,6)
  |some (wm,r)=>(FI (Bm k s) (MH l) wm (rR (l.length:Int) (wm.length:Int) r) r,0)
theorem b3G{l:LI}(h:1<=l.length):Az l 0=some (l.headD 0):=by
 cases l with
 |nil=>grind
 |cons a l=>rfl
theorem a2d{l:LI}(k:1<=l.length)(d:short l)(a b:BS):
  Al HS (l,l,(l.length:Int),(0:Int),a,b,())=some (bif l.all (fun x=>x==l.headD 0)then .inl (l,a,b,())else .inr ((7:Int),GN 0,())):=by
 have:=Cb (f:=HS) l (fun i=>(l,l,(l.length:Int),(i:Int),a,b,())) (fun x=>x==l.headD 0) (bt:=B7 (l,a,b,())) (bf:=B9 ((7:Int),GN 0,()))
  (fun i h c=>by
   have g:(l[i] != l.headD 0)=false:=by simp_all
   simp only[HS,Cq h,cT,Ac h,oB,b3G k,g,cF,Aa (B6 h d)])
  (fun i h c=>by
   have g:(l[i] != l.headD 0)=true:=by simp_all
   simp only[HS,Cq h,cT,Ac h,oB,b3G k,g];rfl)
  (by simp[HS])
 omega
theorem dM{k n:Int}{s:BS}(h:LA k s n)(g:k≠0)(f:k≠1):k=2\/k=3\/k=4\/k=5:=by
 rcases h with h|h|⟨h,-⟩|⟨h,-⟩|⟨h,-⟩|⟨h,-⟩;omega;omega;all_goals omega
theorem b6i{s:BS}(h:sN s)(k:Int){l:LI}(D:l.length<=100000):SC (k,l,s)=some (Dv k l s):=by
 have j:short l:=by unfold short;omega
 unfold SC Dv;by_cases h1:1<=l.length;rotate_left;have e:A3 (((l.length:Nat):Int)<1)=true:=decide_eq_true (by omega);rw[if_pos (fun g=>h1 g.1)];simp only[e,cT,oB];rfl;have a:A3 (((l.length:Nat):Int)<1)=false:=decide_eq_false (by omega);by_cases h2:l.length<=4096;rotate_left;have e:A3 (((l.length:Nat):Int) > 4096)=true:=decide_eq_true (by omega);rw[if_pos (fun g=>h2 g.2.1)];simp only[a,e,cT,cF,oB];rfl;have o:A3 (((l.length:Nat):Int) > 4096)=false:=decide_eq_false (by omega);by_cases h3:LA k s (l.length:Int);rotate_left;have b:kQ k s (l.length:Int)=false:=by simp[kQ,h3]
 rw[if_pos (fun g=>h3 g.2.2)];simp only[a,o,ZS h,b,cF,D1,cT,oB];rfl;have b:kQ k s (l.length:Int)=true:=by simp[kQ,h3]
 rw[if_neg (fun g=>g ⟨h1,h2,h3⟩)];simp only[a,o,ZS h,b,cF,bT,oB,GJ j];cases hw:l.all Af with
 |false=>rfl
 |true=>
  simp only[bT,cF,b0F h,oB];rw[if_neg (by simp)];by_cases h0:k=0
  ·subst h0;have w:=a2d h1 j (GN 0) (Bm 0 s);have v:GN 0=((0:Int),(0:Int),(0:Int),(0:Int),(0:Int),([]:(List Int)),A6 3 (0:Int),([]:(List (Int×Int×Unit))),([]:(List Int)),((0:Int),([]:(List Int)),()),([]:(List Int)),()):=rfl;rw[<-v,if_pos rfl];simp only[show((0:Int)==0)=true from rfl,cT,w,oB];cases l.all (fun x=>x==l.headD 0)with
   |false=>rfl
   |true=>simp only[cT,b3G h1,oB];rfl
  ·obtain⟨z,A,-⟩:=NR j hw;obtain⟨t,n,C,-⟩:=KW h2 hw;have c:(k==0)=false:=by grind
   rw[if_neg h0];simp only[c,cF,z,oB,UL A (show l.length<100000 by omega),t,KR,show((0:Int) != 0)=false from rfl];by_cases hk1:k=1;subst hk1;rfl
   ·have i:(k==1)=false:=by simp_all
    have p:=dM h3 h0 hk1;rw[if_neg hk1];have m:=b3F p h (d:=Cv l) (by simp_all) (by omega) n (MH l);have u:((Bm k s).1,((MH l:Nat):Int),(Bm k s).2.2)=FI (Bm k s) (MH l) [] z0 []:=rfl;simp only[i,cF,u,m,oB];cases hr:NS k s (Cv l)with
    |none=>rfl
    |some q=>
     obtain⟨B,r⟩:=q;obtain⟨E,F,y,-⟩:=a4P p (by simp_all) n hr;have f:Of (l.length:Int) (B.length:Int)=true:=by simp_all[Of]
     have hb:=pT f (l:=r) (by omega) y (by omega);simp only[show((0:Int) != 0)=false from rfl,cF,FI,hb,oB]
theorem b0G{p:Vq}{n sH:Int}(h:Hu p n sH=true):p.2.1.length<=256:=by
 simp only[Hu,EV,E8,beq_eq_false_iff_ne,ne_eq,beq_iff_eq]at h;grind[UG,Bq]
theorem Xf{s:BS}(h:sN s){w:Nat}{g r:LI}{p:Vq}(f:g.length<=5000)(k:r.length<=5000)(a:p.2.1.length<=300):sN (FI s w g p r):=
 ⟨h.uL,h.taps,h.stages,f,k,a⟩
theorem a7w{k:Int}{l:LI}{s:BS}(f:(Dv k l s).2=0):
  1<=l.length/\l.length<=4096/\LA k s (l.length:Int)/\l.all Af=true/\
   ((k=0/\l.all (fun x=>x==l.headD 0)=true/\(Dv k l s).1=FI (Bm 0 s) 0 [l.headD 0] z0 [])\/
    (k=1/\(Dv k l s).1=FI (Bm 1 s) (MH l) (Cv l) z0 [])\/
     ((k=2\/k=3\/k=4\/k=5)/\∃b r,NS k s (Cv l)=some (b,r)/\(Dv k l s).1=FI (Bm k s) (MH l) b (rR (l.length:Int) (b.length:Int) r) r)):=by
 unfold Dv at f|-;split at f;omega;rename_i g;have g:1<=l.length/\l.length<=4096/\LA k s (l.length:Int):=Classical.byContradiction g;refine⟨g.1,g.2.1,g.2.2,?_⟩;rw[if_neg (fun h=>h g)];split at f;omega;rename_i e;have a:l.all Af=true:=by simp_all
 refine⟨a,?_⟩;rw[if_neg e];split at f;grind;rename_i c;rw[if_neg c];split at f;simp_all;rename_i d;rw[if_neg d];refine .inr (.inr ⟨dM g.2.2 c d,?_⟩);grind
theorem Tb{s:BS}{k:Int}{w:Nat}{h r:LI}{p:Vq}:UD (FI (Bm k s) w h p r):=by
 unfold UD FI Bm;simp_all
theorem lQ{s:BS}{k n:Int}{w:Nat}{g r:LI}{p:Vq}(h:LA k s n):LA (FI (Bm k s) w g p r).1 (FI (Bm k s) w g p r) n:=a7v.2 h
theorem b3H{l:LI}(h:l.all (fun x=>x==l.headD 0)=true):A6 l.length (l.headD 0)=l:=by
 refine(List.eq_replicate_iff.2 ⟨rfl,fun x g=>?_⟩).symm;grind
theorem a2e{k:Int}{l:LI}{s:BS}(K:sN s)(H:(Dv k l s).2=0):
  sN (Dv k l s).1/\(Dv k l s).1.1=k/\BW (Dv k l s).1 (l.length:Int)/\F9S (Dv k l s).1 (l.length:Int)=some l:=by
 obtain⟨T,I,u,B,L⟩:=a7w H;have N:short l:=by unfold short;omega
 obtain⟨-,w3,-⟩:=NR N B;obtain⟨P,v,Q,E⟩:=KW I B;have d:∀m:BS,BW m (l.length:Int)->a7g m (l.length:Int)=some l->F9S m (l.length:Int)=some l:=fun m j n=>by simp_all[F9S]
 have b:=a2c K k;rcases L with⟨rfl,z,e⟩|⟨rfl,e⟩|⟨A,i,r,f,e⟩
 ·rw[e];have g:BW (FI (Bm 0 s) 0 [l.headD 0] z0 []) (l.length:Int):=by
   have U:Af (l.headD 0)=true:=by
    cases l with
    |nil=>rfl
    |cons a l=>simp_all
   exact⟨by omega,by omega,lQ u,Tb,Int.le_refl _,(by simp:(0:Int)<=30),fun _=>rfl,rfl,by simp_all[FI],rfl,fun _=>⟨rfl,rfl,rfl⟩,fun h=>absurd rfl h.1⟩
  refine⟨Xf b (by simp) (by simp) (by simp[z0]),rfl,g,d _ g ?_⟩;show some (A6 (l.length:Int).toNat (l.headD 0))=some l;grind[b3H]
 rw[e];have g:BW (FI (Bm 1 s) (MH l) (Cv l) z0 []) (l.length:Int):=
  ⟨by omega,by omega,lQ u,Tb,I8 _,(by show((MH l:Nat):Int)<=30;omega),fun h=>absurd h (by simp:¬ (1:Int)=0),by show(((Cv l).length:Nat):Int)=(l.length:Int);omega,v,rfl,fun _=>⟨rfl,rfl,rfl⟩,fun h=>absurd rfl h.2⟩
 refine⟨Xf b (by omega) (by simp) (by simp[z0]),rfl,g,d _ g ?_⟩;show a7d ((MH l:Nat):Int) (Cv l)=some l;omega
 ·rw[e];obtain⟨Y,Z,D,O⟩:=a4P A (by simp_all) v f;have q:Of (l.length:Int) (i.length:Int)=true:=by simp only[Of,EV,dT];omega
  have w:=b3E q (l:=r) (by omega) D (by omega);generalize rR (l.length:Int) (i.length:Int) r=p at w;have M:=b0G w

  have t:BM (FI (Bm k s) (MH l) i p r) (l.length:Int)=(i.length:Int)/\uH (FI (Bm k s) (MH l) i p r)=some (Cv l):=by
   simp only[LA]at u;rcases A with rfl|rfl|rfl|rfl
   ·obtain⟨V,X,C⟩:0<=s.2.2.1/\s.2.2.1<=4/\s.2.2.1<=(l.length:Int):=by omega
    simp[NS]at f;cases hq:(JM s.2.2.1.toNat (Cv l)).all Af with
    |false=>simp_all
    |true=>
     simp[hq]at f;obtain⟨rfl,rfl⟩:=f;refine⟨?_,?_⟩;show s.2.2.1=_;grind;show a4p ((Cv l).take s.2.2.1.toNat) (JM s.2.2.1.toNat (Cv l)) s.2.2.1=some (Cv l);have hb:=a4y v (o:=s.2.2.1.toNat) (by omega) ((Cv l).length-s.2.2.1.toNat) 0 (by omega);rw[C3,J0]at hb;grind[a4p]
   have C:(s.2.2.2.2.2.1.length:Int)<=(l.length:Int):=by omega
   simp only[NS,show ¬ (3:Int)=2 by simp,if_false,if_true,C5,pJ]at f;obtain⟨y,j,rfl,rfl⟩:=f;obtain⟨n,-,-⟩:=Yx j;refine⟨?_,?_⟩;show((s.2.2.2.2.2.1.length:Nat):Int)=_;simp_all;exact n;have C:(s.2.2.2.2.2.1.length:Int)<=(l.length:Int):=by omega
   simp only[NS,show ¬ (4:Int)=2 by simp,show ¬ (4:Int)=3 by simp,if_false,if_true,E6,C5,pJ]at f;obtain⟨x,G,y,j,rfl,rfl⟩:=f;obtain⟨R,-,S⟩:=ZY G;obtain⟨n,-,-⟩:=Yx j;refine⟨?_,?_⟩;show((s.2.2.2.2.2.1.length:Nat):Int)=_;simp_all;show(Yk (x.take s.2.2.2.2.2.1.length) y s.2.2.2.2.2.1 s.2.2.2.1).bind (fun l=>VY l s.2.2.2.2.1 s.2.2.2.2.2.2.1)=_;simp_all;simp only[NS,show ¬ (5:Int)=2 by simp,show ¬ (5:Int)=3 by simp,show ¬ (5:Int)=4 by simp,if_false,C5,pJ]at f;obtain⟨y,j,rfl,rfl⟩:=f;obtain⟨n,-,-⟩:=lJ j;exact⟨rfl,n⟩
  have c:¬ (k=0\/k=1):=by omega
  have g:BW (FI (Bm k s) (MH l) i p r) (l.length:Int):=by
   unfold BW;rw[t.1];exact⟨by omega,by omega,lQ u,Tb,I8 _,(by show((MH l:Nat):Int)<=30;omega),fun h=>absurd (.inl h) c,rfl,O,D,fun h=>absurd h c,fun _=>⟨(by show((r.length:Nat):Int)=_;omega),w⟩⟩
  refine⟨Xf b (by omega) (by omega) (by omega),rfl,g,d _ g ?_⟩;have F:¬ (FI (Bm k s) (MH l) i p r).1=0:=fun h=>c (.inl h);unfold a7g;rw[if_neg F,t.2];exact E
theorem a7x:sN (GN 0):=a4M 0
def cS(k o sh:Int)(c:List Int)(st:List RF):BS:=
 (k,(0:Int),o,sh,(0:Int),c,A6 3 (0:Int),st,([]:List Int),((0:Int),([]:List Int),()),([]:List Int),())
theorem RQ{k o f:Int}{c:LI}{st:List RF}(h:c.length<=40)(g:st.length<=6):sN (cS k o f c st):=
 ⟨h,rfl,g,by simp[cS],by simp[cS],by simp[cS]⟩
def YB(d:List Int)(o w:Int):List Int×(Int×Int):=(FR (d,o,w)).getD ([],0,1)
def bB(d:List Int)(o w:Int):List BS:=bif (YB d o w).2.2==0 then[cS 3 0 (YB d o w).2.1 (YB d o w).1 []]else[]
def b3I(d:List Int):Int:=(Jw d).getD 0
def a2f(d:List Int):BS×Bool:=(FC d).getD (GN 0,false)
def a7y(d:List Int):List BS:=bif (a2f d).2 then[(a2f d).1]else[]
def bD(i:Nat):List BS:=(List.range i).map fun(j:Nat)=>cS 2 (j:Int) 0 [] []
def GW(d:List Int):List BS:=[cS 0 0 0 [] [],cS 1 0 0 [] [],cS 2 (b3I d) 0 [] []]
def Lu(d:List Int)(k:Int):List BS:=if 1<=k then bB d 4 12++bB d 8 12 else[]
def Wm(d:List Int)(k:Int):List BS:=if 2<=k then[cS 5 0 0 [] [((16:Int),(4:Int),())],cS 5 0 0 [] [((32:Int),(3:Int),()),((16:Int),(5:Int),())]]++a7y d else[]
def a8L(d:List Int)(k:Int):List BS:=if 3<=k then bD 5++(bB d 1 12++(bB d 2 12++(bB d 12 14++bB d 16 14)))else[]
def ME(d:List Int)(k:Int):List BS:=GW d++(Lu d k++(Wm d k++a8L d k))
def a4Q(d:List Int):Prop:=FC d=some (a2f d)/\((a2f d).2=true->sN (a2f d).1)
theorem a4R{d:LI}(a:d.all Af=true)(k:d.length<=4096){o w:Nat}(h:1<=o)(g:o<=32)(f:2<=w/\w<=16):
  FR (d,(o:Int),(w:Int))=some (YB d o w)/\((YB d o w).2.2=0->(YB d o w).1.length=o):=by
 obtain⟨c,j,e,b,i⟩:=b0C a k h g f;unfold YB;simp_all
theorem RR(d:LI)(o w:Int):(bB d o w).length<=1:=by
 grind[bB]
theorem RS{d:LI}(c:d.all Af=true)(b:d.length<=4096){o w:Nat}(f:1<=o)(k:o<=32)(a:2<=w/\w<=16){L:List BS}(e:L.length<1000):
  AD ((o:Int),(w:Int),d,L)=some (d,L++bB d o w):=by
 obtain⟨g,-⟩:=a4R c b f k a;have h:Bp (L.length+1)=true:=AG (by omega);unfold AD bB;simp only[g,oB];cases (YB d o w).2.2==0 with
 |true=>simp only[cT,h];rfl
 |false=>simp
theorem a7z{d:LI}{L:List BS}(k:L.length<1000):Al Db ((0:Int),L,d,())=some (L++bD 5,d,()):=by
 have:=Bz (f:=Db) (fun i:Nat=>((i:Int),L++bD i,d,())) 5 (b:=(L++bD 5,d,()))
  (fun i a=>by
   have g:A3 ((i:Int)<5)=true:=decide_eq_true (by omega);have h:Bp ((L++bD i).length+1)=true:=AG (by simp[bD];omega);have e:(L++bD i)++[cS 2 (i:Int) 0 [] []]=L++bD (i+1):=by simp[bD,List.range_succ]
   rw[<-e];simp only[Db,g,cT,h,Aa (show i<1000000 by omega)];rfl)
  (by
   rfl)
 simp at this;rw[show bD 0=[]from rfl,F2]at this;omega
theorem b6j{d:LI}(b:d.all Af=true)(i:d.length<=4096)(m:a4Q d)(k:Int):Jz (d,k)=some (ME d k):=by
 obtain⟨o,G,H⟩:=fV (show d.length<100000 by omega) b;have hb:b3I d=(o:Int):=by simp_all[b3I]
 have F:(a7y d).length<=1:=by grind[a7y]
 have R:=RR d 4 12;have S:=RR d 8 12;have P:=RR d 1 12;have Q:=RR d 2 12;have I:=RR d 12 14;have A:=fun L (f:L.length<1000)=>RS (L:=L) b i (o:=4) (w:=12) (by omega) (by omega) (by omega) f;have B:=fun L (f:L.length<1000)=>RS (L:=L) b i (o:=8) (w:=12) (by omega) (by omega) (by omega) f;have y:=fun L (f:L.length<1000)=>RS (L:=L) b i (o:=1) (w:=12) (by omega) (by omega) (by omega) f;have z:=fun L (f:L.length<1000)=>RS (L:=L) b i (o:=2) (w:=12) (by omega) (by omega) (by omega) f;have j:=fun L (f:L.length<1000)=>RS (L:=L) b i (o:=12) (w:=14) (by omega) (by omega) (by omega) f;have l:=fun L (f:L.length<1000)=>RS (L:=L) b i (o:=16) (w:=14) (by omega) (by omega) (by omega) f;simp at A B y z j l;have T:(GW d).length=3:=rfl;have U:(Lu d k).length<=2:=by unfold Lu;split<;>simp<;>omega
 have V:(Wm d k).length<=3:=by unfold Wm;split<;>simp<;>omega
 have X:(bD 5).length=5:=rfl;have O:(bif A3 (k>=1)then((AD ((4:Int),(12:Int),d,GW d)).bind fun p=>(AD ((8:Int),(12:Int),p.1,p.2)).bind fun q=>some (k,q.1,q.2,()))else some (k,d,GW d,()))=some (k,d,GW d++Lu d k,()):=by
  unfold Lu;by_cases h:1<=k;have e:A3 (k>=1)=true:=decide_eq_true h;simp only[e,cT,A (GW d) (by omega),oB,B (GW d++bB d 4 12) (by grind),if_pos h,aA];grind
 have E:Jz (d,k)=(Jw d).bind fun C=>
   (show Option (Int×((List Int)×((List BS)×Unit)))from bif A3 (k>=1)then((AD ((4:Int),(12:Int),d,[cS 0 0 0 [] [],cS 1 0 0 [] [],cS 2 C 0 [] []])).bind fun p=>(AD ((8:Int),(12:Int),p.1,p.2)).bind fun q=>some (k,q.1,q.2,()))else some (k,d,[cS 0 0 0 [] [],cS 1 0 0 [] [],cS 2 C 0 [] []],())).bind fun g=>
   (show Option (Int×((List BS)×((List Int)×Unit)))from bif A3 (g.1>=2)then(bif Bp (g.2.2.1.length+1)then(bif Bp ((g.2.2.1++[cS 5 0 0 [] [((16:Int),(4:Int),())]]).length+1)then((FC g.2.1).bind fun r=>
    bif r.2 then(bif Bp ((g.2.2.1++[cS 5 0 0 [] [((16:Int),(4:Int),())]]++[cS 5 0 0 [] [((32:Int),(3:Int),()),((16:Int),(5:Int),())]]).length+1)then some (g.1,g.2.2.1++[cS 5 0 0 [] [((16:Int),(4:Int),())]]++[cS 5 0 0 [] [((32:Int),(3:Int),()),((16:Int),(5:Int),())]]++[r.1],g.2.1,())else none)
    else some (g.1,g.2.2.1++[cS 5 0 0 [] [((16:Int),(4:Int),())]]++[cS 5 0 0 [] [((32:Int),(3:Int),()),((16:Int),(5:Int),())]],g.2.1,()))else none)else none)else some (g.1,g.2.2.1,g.2.1,())).bind fun v=>
   (show Option ((List BS)×Unit)from bif A3 (v.1>=3)then((Al Db ((0:Int),v.2.1,v.2.2.1,())).bind fun n=>(AD ((1:Int),(12:Int),n.2.1,n.1)).bind fun t=>(AD ((2:Int),(12:Int),t.1,t.2)).bind fun u=>
    (AD ((12:Int),(14:Int),u.1,u.2)).bind fun a=>(AD ((16:Int),(14:Int),a.1,a.2)).bind fun c=>some (c.2,()))else some (v.2.1,())).bind fun x=>some x.1:=rfl
 have D:[cS 0 0 0 [] [],cS 1 0 0 [] [],cS 2 (o:Int) 0 [] []]=GW d:=by unfold GW;grind
 have Y:(bif A3 (k>=2)then(bif Bp ((GW d++Lu d k).length+1)then(bif Bp ((GW d++Lu d k++[cS 5 0 0 [] [((16:Int),(4:Int),())]]).length+1)then((FC d).bind fun r=>
    bif r.2 then(bif Bp ((GW d++Lu d k++[cS 5 0 0 [] [((16:Int),(4:Int),())]]++[cS 5 0 0 [] [((32:Int),(3:Int),()),((16:Int),(5:Int),())]]).length+1)then some (k,GW d++Lu d k++[cS 5 0 0 [] [((16:Int),(4:Int),())]]++[cS 5 0 0 [] [((32:Int),(3:Int),()),((16:Int),(5:Int),())]]++[r.1],d,())else none)
    else some (k,GW d++Lu d k++[cS 5 0 0 [] [((16:Int),(4:Int),())]]++[cS 5 0 0 [] [((32:Int),(3:Int),()),((16:Int),(5:Int),())]],d,()))else none)else none)else some (k,GW d++Lu d k,d,()):Option (Int×((List BS)×((List Int)×Unit))))=some (k,GW d++(Lu d k++Wm d k),d,()):=by
  unfold Wm;by_cases h:2<=k;have e:A3 (k>=2)=true:=decide_eq_true h;have K:Bp ((GW d++Lu d k).length+1)=true:=AG (by grind);have M:Bp ((GW d++Lu d k++[cS 5 0 0 [] [((16:Int),(4:Int),())]]).length+1)=true:=AG (by simp;omega);have N:Bp ((GW d++Lu d k++[cS 5 0 0 [] [((16:Int),(4:Int),())]]++[cS 5 0 0 [] [((32:Int),(3:Int),()),((16:Int),(5:Int),())]]).length+1)=true:=AG (by simp;omega);simp only[e,K,M,N,cT,m.1,oB,if_pos h,a7y];cases (a2f d).2<;>simp;grind
 have Z:(bif A3 (k>=3)then((Al Db ((0:Int),GW d++(Lu d k++Wm d k),d,())).bind fun n=>(AD ((1:Int),(12:Int),n.2.1,n.1)).bind fun t=>(AD ((2:Int),(12:Int),t.1,t.2)).bind fun u=>
    (AD ((12:Int),(14:Int),u.1,u.2)).bind fun a=>(AD ((16:Int),(14:Int),a.1,a.2)).bind fun c=>some (c.2,()))else some (GW d++(Lu d k++Wm d k),()):Option ((List BS)×Unit))=some (ME d k,()):=by
  unfold ME a8L;by_cases h:3<=k;have e:A3 (k>=3)=true:=decide_eq_true h;simp only[e,cT,a7z (L:=GW d++(Lu d k++Wm d k)) (by simp;omega),oB,if_pos h];rw[y _ (by simp;omega)];simp only[oB];rw[z _ (by simp;omega)];simp only[oB];rw[j _ (by simp;omega)];simp only[oB];rw[l _ (by simp;omega)]
  simp
  grind
 rw[E,G,oB,D];simp only[];rw[O];simp only[oB];simp_all
theorem lR{d:LI}(l:d.all Af=true)(i:d.length<=4096)(f:a4Q d)(k:Int):∀c∈ME d k,sN c:=by
 have g:∀(o w:Nat),1<=o->o<=32->2<=w/\w<=16->∀c∈bB d o w,sN c:=fun o w a b e c h=>by
  obtain⟨-,m⟩:=a4R l i a b e;unfold bB at h;cases he:(YB d o w).2.2==0 with
  |false=>simp_all
  |true=>
   rw[he]at h;simp at h;grind[RQ]
 intro c h;simp[ME]at h;rcases h with h|h|h|h;simp[GW]at h;rcases h with rfl|rfl|rfl<;>exact RQ (by simp) (by simp);unfold Lu at h;split at h;simp at h;rcases h with h|h;exact g 4 12 (by omega) (by omega) (by omega) c h;exact g 8 12 (by omega) (by omega) (by omega) c h;simp_all
 ·unfold Wm at h;split at h
  ·simp only[mA,mC,List.not_mem_nil,or_false]at h;rcases h with(rfl|rfl)|h;simp_all[RQ];simp_all[RQ]
   ·unfold a7y at h;cases hg:(a2f d).2 with
    |false=>simp_all
    |true=>
     rw[hg]at h;simp at h;subst h;exact f.2 hg
  simp_all
 unfold a8L at h;split at h;simp only[mA,bD,List.mem_map]at h;rcases h with⟨j,-,rfl⟩|h|h|h|h;simp_all[RQ];exact g 1 12 (by omega) (by omega) (by omega) c h;exact g 2 12 (by omega) (by omega) (by omega) c h;exact g 12 14 (by omega) (by omega) (by omega) c h;exact g 16 14 (by omega) (by omega) (by omega) c h;simp_all
theorem b3J{d:LI}(g:d.length<=256):FC d=some (GN 0,false):=by
 have h:Ql (d,(16:Int),(256:Int))=some (0,7):=by
  unfold Ql;grind
 unfold FC;simp only[h,oB,show((7:Int) != 0)=true from rfl,cT];rfl
theorem b8J{d:LI}(g:d.length<=256):a4Q d:=by
 have h:=b3J g
 have:a2f d=(GN 0,false):=by unfold a2f;simp_all
 exact⟨by simp_all,fun f=>by simp_all⟩
def YC(l:List Int)(a:Int×(Bool×BS))(c:BS):Int×(Bool×BS):=
 bif (Dv c.1 l c).2 != 0 then a else bif !a.2.1 || A3 (ML (Dv c.1 l c).1 (l.length:Int)<a.1)then(ML (Dv c.1 l c).1 (l.length:Int),true,(Dv c.1 l c).1)else a
def lT(l:List Int)(cs:List BS):Int×(Bool×BS):=cs.foldl (YC l) (0,false,GN 0)
theorem YD{α A β:Type}(g:A->α->A)(h:A->β):∀(l:List α)(a:A),SK h (HJ (fun a x=>.inl (g a x)) l a)=h (l.foldl g a)
 | [],_=>rfl
 |x::l,a=>YD g h l (g a x)
theorem a4S{k:Int}{l:LI}{s:BS}(h:sN s):sN (Dv k l s).1:=by
 by_cases h0:(Dv k l s).2=0;exact(a2e h h0).1
 have:(Dv k l s).1=GN 0:=by
  unfold Dv at h0|-;grind
 simp_all[a7x]
theorem b0H{l:LI}{cs:List BS}(j:∀c∈cs,sN c)(p:l.length<=4096)(o:cs.length<1000):
  Al Kh (l,(0:Int),false,cs,((cs.length:Nat):Int),(0:Int),GN 0,GN 0,())=some (GN 0,(lT l cs).2.2,()):=by
 have:=BH (f:=Kh) cs (fun i a=>(l,a.1,a.2.1,cs,((cs.length:Nat):Int),(i:Int),GN 0,a.2.2,())) (fun a x=>.inl (YC l a x)) (fun _ _=>True) (fun a=>(GN 0,a.2.2,()))
  (fun i g a _=>by
   refine⟨fun n h=>?_,fun b hb=>by grind⟩;simp at h;subst h;refine⟨?_,trivial⟩;have d:=j _ (A9 g);have e:=a8H (a4S (k:=cs[i].1) (l:=l) d) (l.length:Int);unfold YC;simp only[Kh,Cq g,cT,Ac g,oB,b6i d cs[i].1 (show l.length<=100000 by omega),e,Aa (show i<1000000 by omega)];cases (Dv cs[i].1 l cs[i]).2 != 0 with
   |true=>rfl
   |false=>
    have m:=Aa (show i<1000000 by omega);grind)
  (fun a _=>by simp_all[Kh]) (a:=((0:Int),false,GN 0)) trivial
 simp at this;rw[this,YD];rfl
theorem b6k{l:LI}(x:1<=l.length)(c:l.length<=4096)(a:l.all Af=true)(h:a4Q (Cv l)){k:Int}(v:0<=k)(y:k<=3):
  IQ (l,k)=some ((lT l (ME (Cv l) k)).2.2,0):=by
 have d:short l:=by unfold short;omega
 obtain⟨r,t,-⟩:=NR d a;obtain⟨e,b,u,-⟩:=KW c a;have i:A3 (((l.length:Nat):Int)<1)=false:=decide_eq_false (by omega);have j:A3 (((l.length:Nat):Int) > 4096)=false:=decide_eq_false (by omega);have m:A3 (k<0)=false:=decide_eq_false (by omega);have n:A3 (k > 3)=false:=decide_eq_false (by omega);have f:(ME (Cv l) k).length<1000:=by
  have g:=fun o w=>RR (Cv l) o w;have z:=g 4 12;have A:=g 8 12;have B:=g 1 12;have C:=g 2 12;have D:=g 12 14;have E:=g 16 14;have p:(a7y (Cv l)).length<=1:=by grind[a7y]
  simp only[ME,GW,Lu,Wm,a8L,lN];grind[bD]
 have hb:=b0H (l:=l) (lR b (by omega) h k) c f;have q:GN 0=((0:Int),(0:Int),(0:Int),(0:Int),(0:Int),([]:(List Int)),A6 3 (0:Int),([]:(List (Int×Int×Unit))),([]:(List Int)),((0:Int),([]:(List Int)),()),([]:(List Int)),()):=rfl;unfold IQ;simp only[<-q,i,j,m,n,cF,oB,GJ d,a,bT,r,UL t (show l.length<100000 by omega),e,KR,show((0:Int) != 0)=false from rfl,b6j b (show(Cv l).length<=4096 by omega) h,hb]
theorem RT(v:Int)(n:Nat)(L:LI):(AK v n L).length=L.length+(AK v n []).length:=by
 grind[AK]
theorem Vw(n:Nat):∀(l L:LI),(Dh n l L).length=L.length+(Dh n l []).length
 | [],L=>by rfl
 |x::l,L=>by
  show(Dh n l (AK (Br x n) n L)).length=L.length+(Dh n l (AK (Br x n) n [])).length;rw[Vw n l,Vw n l (AK (Br x n) n []),RT];omega
theorem UP:∀(st:List RF)(L:LI),(EY st L).length=L.length+(EY st []).length
 | [],L=>by rfl
 |s::st,L=>by
  show(EY st (KV s L)).length=L.length+(EY st (KV s [])).length;rw[UP st,UP st (KV s [])];unfold KV;rw[RT,RT _ 5 L,RT _ 4 (AK _ 5 [])];omega
theorem a7A(s:BS)(L:LI):(IX s L).length=L.length+(IX s []).length:=by
 grind[IX,Vw,RT]
theorem rS(s:BS)(L:LI):(CJ s L).length=L.length+(CJ s []).length:=by
 grind[CJ,RT,a7A,Vw,UP]
theorem b3K{s:BS}(g:0<=s.1/\s.1<=5)(f:0<=s.2.1/\s.2.1<=30)(h:s.2.2.2.2.2.2.2.2.1.all Af=true)(L:LI):(QA s L).length=L.length+13:=by
 grind[A7,Dj,QA,GM,RO]
def b6l(s:BS)(zn:List Nat):Nat:=
 13+(CJ s []).length+Ar s.2.2.2.2.2.2.2.2.1*s.2.2.2.2.2.2.2.2.1.length+if s.1=0\/s.1=1 then 0 else 4+MD zn s.2.2.2.2.2.2.2.2.2.1.2.1 s.2.2.2.2.2.2.2.2.2.2.1
theorem Xg{k n:Int}{s:BS}(h:LA k s n):0<=k/\k<=5:=by
 rcases h with h|h|⟨h,-⟩|⟨h,-⟩|⟨h,-⟩|⟨h,-⟩<;>omega
theorem QD{s:BS}{n:Int}(h:(F9S s n).isSome=true):BW s n:=by
 grind[F9S]
theorem b6m{s:BS}{n:Int}(h:(F9S s n).isSome=true){g:List Nat}(e:s.1≠0/\s.1≠1->sV s.2.2.2.2.2.2.2.2.2.1 n ((s.2.2.2.2.2.2.2.2.1.length:Nat):Int) s.2.2.2.2.2.2.2.2.2.2.1 g)(L:LI):
  (Er s g L).length=L.length+b6l s g:=by
 obtain⟨i,j,c,-,a,b,-,-,k,-⟩:=QD h;have d:=Dj k;have f:=b3K (Xg c) ⟨a,b⟩ k L;unfold Er b6l;by_cases hk:s.1=0\/s.1=1;rw[if_pos hk,if_pos hk,Vu (by omega),rS,f];omega;rw[if_neg hk,if_neg hk,pS (e (not_or.1 hk)),Vu (by omega),rS,f];omega
theorem b3L{s:BS}(h:sN s){n:Int}(f:(F9S s n).isSome=true):∃g,ML s n=((b6l s g:Nat):Int)/\(s.1≠0/\s.1≠1->sV s.2.2.2.2.2.2.2.2.2.1 n ((s.2.2.2.2.2.2.2.2.1.length:Nat):Int) s.2.2.2.2.2.2.2.2.2.2.1 g):=by
 obtain⟨e,b,-,-,-,a,-⟩:=WY h (n:=n) (L:=[]) (by simp);obtain⟨-,g,-,k⟩:=a f;refine⟨g,?_,k⟩;unfold ML;rw[if_pos f,<-a1V k,b6m f k]
 simp
structure yT (l m:List Int) (n:Nat):Prop where
 len:m.length=l.length
 wl:l.all Af=true
 wm:m.all Af=true
 down:Cv m=Cv l
 waste:MH m=MH l+n
 fl:l.all (fun x=>x==l.headD 0)=false
 fm:m.all (fun x=>x==m.headD 0)=false
structure wZ (l:List Int) (cs:List BS) (a:Int×(Bool×BS)):Prop where
 one:a.2.1=true->∃c∈cs,(Dv c.1 l c).2=0/\a.2.2=(Dv c.1 l c).1/\a.1=ML a.2.2 (l.length:Int)
 least:∀c∈cs,(Dv c.1 l c).2=0->a.2.1=true/\a.1<=ML (Dv c.1 l c).1 (l.length:Int)
theorem YE{l:LI}:∀(cs b:List BS)(a:Int×(Bool×BS)),wZ l b a->wZ l (b++cs) (cs.foldl (YC l) a)
 | [],b,a,h=>by simp_all
 |c::cs,b,a,h=>by
  rw[K5,show b++c::cs=(b++[c])++cs by simp];refine YE cs (b++[c]) _ ?_
  unfold YC;by_cases h0:(Dv c.1 l c).2=0
  ·have i:((Dv c.1 l c).2 != 0)=false:=by simp_all
   rw[i,cF];cases hq:(!a.2.1 || A3 (ML (Dv c.1 l c).1 (l.length:Int)<a.1))with
   |true=>
    refine⟨fun _=>⟨c,by simp,h0,rfl,rfl⟩,fun d f k=>⟨rfl,?_⟩⟩;rcases mA.1 f with f|f;obtain⟨j,m⟩:=h.least d f k;grind;simp_all
   |false=>
    simp only[Bool.or_eq_false_iff,Bool.not_eq_false',decide_eq_false_iff_not]at hq;refine⟨fun e=>?_,fun d f k=>?_⟩;obtain⟨d,f,g⟩:=h.one e;grind;rcases mA.1 f with f|f;exact h.least d f k;simp_all
  have i:((Dv c.1 l c).2 != 0)=true:=by simp_all
  rw[i,cT];refine⟨fun e=>?_,fun d f k=>?_⟩;obtain⟨d,f,g⟩:=h.one e;grind;rcases mA.1 f with f|f;exact h.least d f k;simp_all
theorem a2g(l:LI)(cs:List BS):wZ l cs (lT l cs):=
 YE cs [] _ ⟨fun h=>(by grind),fun _ h=>(by grind)⟩
theorem Xh{l:LI}(h:1<=l.length)(g:l.length<=4096)(f:l.all Af=true):Dv 1 l (cS 1 0 0 [] [])=(FI (Bm 1 (cS 1 0 0 [] [])) (MH l) (Cv l) z0 [],0):=by
 unfold Dv;rw[if_neg (fun q=>q ⟨h,g,.inr (.inl rfl)⟩),if_neg (by simp_all),if_neg (by simp),if_pos rfl]
theorem a7B{l:LI}(h:1<=l.length)(g:l.length<=4096)(f:l.all Af=true)(d:LI)(k:Int):(lT l (ME d k)).2.1=true:=
 ((a2g l (ME d k)).least (cS 1 0 0 [] []) (by simp[ME,GW]) (by rw[show(cS 1 0 0 [] []).1=1 from rfl,Xh h g f])).1
def a4T(x:Int)(v:Nat):Bool:=A3 (x=0) || Cu x (v:Int)
theorem b3M{x:Int}{v:Nat}:Cu x (v:Int)=true↔1<=v/\v<=31/\-((2^(v-1):Nat):Int)<=x/\x<=((2^(v-1):Nat):Int)-1:=by
 by_cases hv:1<=v/\v<=31;have e:((v:Int)-1)=((v-1:Nat):Int):=by omega
 have b:2^(v-1)<=2^30:=B8 (by omega) (by omega);have a:=E3 (v-1);have g:AT .i64 1 ((v-1:Nat):Int)=((2^(v-1):Nat):Int):=b3s (by omega);have f:AT .i64 (-1) ((v-1:Nat):Int)=-((2^(v-1):Nat):Int):=by
  grind[IntKind.bits,AT,Ae]
 have k:zD .i64 (((2^(v-1):Nat):Int)-1)=((2^(v-1):Nat):Int)-1:=Ae (by omega);simp only[Cu,e,g,f,k,EV,dT];omega;constructor;intro h;simp[Cu]at h;omega;omega
theorem gG{x:Int}{v:Nat}:a4T x v=true↔x=0\/(1<=v/\v<=31/\-((2^(v-1):Nat):Int)<=x/\x<=((2^(v-1):Nat):Int)-1):=by
 simp_all[a4T,b3M]
theorem b3N{x:Int}{v w:Nat}(h:v<=w)(c:w<=31)(g:a4T x v=true):a4T x w=true:=by
 rw[gG]at g|-;rcases g with g|⟨f,k,a,b⟩;omega
 have:2^(v-1)<=2^(w-1):=B8 (by omega) (by omega)
 omega
theorem b3O{x:Int}(h:Af x=true):a4T x 31=true:=by
 have:=CD.1 h
 rw[gG];omega
theorem rT{x:Int}(j:Af x=true):∀(k w:Nat),w+k=32->w<=31->w<=DQ x k w/\DQ x k w<=31/\a4T x (DQ x k w)=true/\∀v,w<=v->a4T x v=true->v<=31->DQ x k w<=v
 |0,w,h,g=>absurd g (by omega)
 |k+1,w,h,g=>by
  by_cases hin:a4T x w=true
  ·have:DQ x (k+1) w=w:=by
    unfold DQ;cases a:(x != 0)&&!Cu x (w:Int)with
    |false=>rfl
    |true=>
     simp at a;simp_all[a4T]
   simp_all
  have a:((x != 0)&&!Cu x (w:Int))=true:=by
   simp_all[a4T]
  have i:w≠31:=fun e=>hin (by simp_all[b3O]);have e:DQ x (k+1) w=DQ x k (w+1):=by
   show(bif (x != 0)&&!Cu x (w:Int)then DQ x k (w+1)else w)=_;grind
  obtain⟨l,b,c,d⟩:=rT j k (w+1) (by omega) (by omega);rw[e];refine⟨by omega,b,c,fun v m f g=>d v ?_ f g⟩;rcases Nat.lt_or_ge w v with q|q;exact q
  have:v=w:=by omega
  exact absurd (this▸f) hin
theorem Oh:∀(l:LI)(w:Nat),l.all Af=true->w<=31->
  w<=l.foldl (fun w x=>DQ x (32-w) w) w/\l.foldl (fun w x=>DQ x (32-w) w) w<=31/\(∀x∈l,a4T x (l.foldl (fun w x=>DQ x (32-w) w) w)=true)/\∀v,w<=v->v<=31->(∀x∈l,a4T x v=true)->l.foldl (fun w x=>DQ x (32-w) w) w<=v
 | [],w,_,h31=>⟨D9 _,h31,by simp,fun v f _ _=>f⟩
 |x::l,w,h,h31=>by
  rw[C8,EV]at h;obtain⟨j,c,m,n⟩:=rT h.1 (32-w) w (by omega) h31;obtain⟨d,b,e,i⟩:=Oh l (DQ x (32-w) w) h.2 c;simp only[K5];refine⟨by omega,b,fun y a=>?_,fun v f k g=>?_⟩
  ·rcases mC.1 a with rfl|a;all_goals grind[b3N]
  simp_all
theorem a4U{l:LI}(h:l.all Af=true):∀x∈l,a4T x (Ar l)=true:=(Oh l 0 h (by omega)).2.2.1
theorem a4V{l:LI}(h:l.all Af=true){v:Nat}(hv:v<=31)(g:∀x∈l,a4T x v=true):Ar l<=v:=(Oh l 0 h (by omega)).2.2.2 v (by omega) hv g
theorem b3P{x:Int}{w v:Nat}(i:w<=30)(k:((2^w:Nat):Int) ∣ x)(h:a4T x v=true):a4T (AR .i64 x (w:Int)) v=true:=by
 obtain⟨c,rfl⟩:=k;rw[b3A (by omega)];rw[gG]at h|-;have b:(1:Int)<=((2^w:Nat):Int):=by have:=E3 w;omega
 generalize ((2^w:Nat):Int)=p at h b;rcases h with h|⟨g,f,d,e⟩;grind[Int.mul_eq_zero];refine .inr ⟨g,f,?_,?_⟩;by_cases hc:0<=c;omega;have a:=F6 (show 0<=p-1 by omega) (show 0<=-c by omega);grind;by_cases hc:0<=c;have a:=F6 (show 0<=p-1 by omega) hc;grind;omega
theorem a7C{l:LI}(k:l.length<=4096)(h:l.all Af=true):Ar (Cv l)<=Ar l:=by
 obtain⟨-,e,c⟩:=NR (show short l by unfold short;omega) h;obtain⟨-,f,-,-⟩:=KW k h;have a:∀x∈l,((2^MH l:Nat):Int) ∣ x:=by
  rcases c with⟨g,-⟩|⟨-,-,g,-⟩;all_goals grind[J1]
 refine a4V f (Dj h) fun y b=>?_
 obtain⟨x,d,rfl⟩:=List.mem_map.1 b;grind[b3P,a4U]
theorem a7D{l:LI}(a:1<=l.length)(h:l.length<=4096)(g:l.all Af=true):ML (Dv 1 l (cS 1 0 0 [] [])).1 (l.length:Int)=((13+Ar (Cv l)*l.length:Nat):Int):=by
 have b:sN (cS 1 0 0 [] []):=RQ (by simp) (by simp);have d:=Xh a h g;obtain⟨a1,-,-,f⟩:=a2e b (k:=1) (l:=l) (by grind);obtain⟨i,c,-⟩:=b3L a1 (by rw[f];rfl);obtain⟨-,-,j,-⟩:=KW h g;rw[c,d];have e:b6l (FI (Bm 1 (cS 1 0 0 [] [])) (MH l) (Cv l) z0 []) i=13+0+Ar (Cv l)*(Cv l).length+0:=rfl;simp_all
theorem a7E{l:LI}(b:1<=l.length)(f:l.length<=4096)(a:l.all Af=true)(g:a4Q (Cv l)){k:Int}(d:0<=k)(t:k<=3):
  ∃s,IQ (l,k)=some (s,0)/\sN s/\F9S s (l.length:Int)=some l/\s=(lT l (ME (Cv l) k)).2.2/\ML s (l.length:Int)=(lT l (ME (Cv l) k)).1/\ML s (l.length:Int)<=((13+Ar l*l.length:Nat):Int)/\
   (∀c∈ME (Cv l) k,(Dv c.1 l c).2=0->ML s (l.length:Int)<=ML (Dv c.1 l c).1 (l.length:Int)):=by
 obtain⟨-,p,v,-⟩:=KW f a;have hb:=b6k b f a g d t;have j:=a7B b f a (Cv l) k;obtain⟨c,i,q,r,o⟩:=(a2g l (ME (Cv l) k)).one j;have e:=lR p (by omega) g k c i;obtain⟨m,-,-,n⟩:=a2e e q;rw[<-r]at m n;have h:∀c∈ME (Cv l) k,(Dv c.1 l c).2=0->ML (lT l (ME (Cv l) k)).2.2 (l.length:Int)<=ML (Dv c.1 l c).1 (l.length:Int):=fun c i d=>by
  rw[<-o];exact((a2g l (ME (Cv l) k)).least c i d).2
 refine⟨_,hb,m,n,rfl,o.symm,?_,h⟩;have u:=h (cS 1 0 0 [] []) (by simp[ME,GW]) (by rw[show(cS 1 0 0 [] []).1=1 from rfl,Xh b f a]);rw[show(cS 1 0 0 [] []).1=1 from rfl,a7D b f a]at u
 have:=D8 l.length (a7C f a)
 omega
abbrev Rd:Type:=(List Int)×(Int×(Int×Unit))
def CI(L:List Int):Prop:=∀b∈L,b=0\/b=1
def Vx(bs:List Int)(i:Nat):Bool:=(bs.getD (i / 8) 0).toNat.testBit (7-i%8)
theorem c9p{x y:Nat}(h:x<256)(g:y<256):bits .u8 .or (x:Int) (y:Int)=((x ||| y:Nat):Int):=by
 show zD .u8 (((B3 8 (x:Int)) ||| (B3 8 (y:Int))).toNat:Int)=_;rw[C2,C2,H1,C9,C9,D5 h,D5 g,JL]
 have:x ||| y<2^8:=J3 h g
 omega
theorem c6J{b:Int}(hb:b=0\/b=1){r:Nat}(g:r<8):AT .u8 b (7-(r:Int))=((b.toNat*2^(7-r):Nat):Int):=by
 have h:∀r:Fin 8,AT .u8 0 (7-(r.1:Int))=((0*2^(7-r.1):Nat):Int)/\AT .u8 1 (7-(r.1:Int))=((1*2^(7-r.1):Nat):Int):=by decide +kernel
 rcases hb with rfl|rfl;exact(h ⟨r,g⟩).1;exact(h ⟨r,g⟩).2
theorem b3Q{x:Nat}(h:x<256){r:Nat}(g:r<8):bits .u8 .and (AR .u8 (x:Int) (7-(r:Int))) 1=if x.testBit (7-r)then 1 else 0:=by
 have e:AR .u8 (x:Int) (7-(r:Int))=((x / 2^(7-r):Nat):Int):=by
  show K0 (x:Int) (2^(min (7-(r:Int)).toNat 8))=_;grind
 rw[e];have f:x / 2^(7-r)<256:=D0 (C0 _ _) h;show zD .u8 (((B3 8 ((x / 2^(7-r):Nat):Int)) &&& (B3 8 1)).toNat:Int)=_;grind[B3,JL]
theorem b0I(L:LI)(b:Int)(i:Nat):(L++[b]).getD i 0=if i=L.length then b else L.getD i 0:=by
 grind
theorem a4W(h:LI)(k:Nat)(y:Int)(g:k<h.length)(j:Nat):(h.set k y).getD j 0=if j=k then y else h.getD j 0:=by
 grind
theorem rU:∀(n:Nat)(L:LI),L.length=n->CI L->(∀j,0<=(wL L).1.getD j 0/\(wL L).1.getD j 0<256)/\∀i,Vx (wL L).1 i=A3 (L.getD i 0=1)
 |0,L,h,_=>by
  simp_all[wL,Vx]
 |n+1,L,h,t=>by
  obtain⟨g,b,rfl⟩:∃g b,L=g++[b]:=by
   rcases I0 L with rfl|⟨g,b,e⟩;all_goals simp_all
  have hb:b=0\/b=1:=t b (by simp);obtain⟨y,z⟩:=rU n g (by simp_all) fun c F=>t c (by grind);obtain⟨o,p⟩:=GK g;rw[gF];generalize wL g=wr at o p y z|-;obtain⟨d,m,u⟩:=wr;have o:m=(g.length:Int):=o;have p:d.length=(g.length+7) / 8:=p;subst o;have e8:((g.length:Int) / 8).toNat=g.length / 8:=by rfl
  have r:(g.length:Int)%8=((g.length%8:Nat):Int):=by rfl
  obtain⟨f,a,A,B⟩:∃f:List Int,(if(g.length:Int)%8=0 then d++[0]else d)=f/\g.length / 8<f.length/\∀j,f.getD j 0=d.getD j 0:=by
   grind
  rw[r]at a;have E:g.length%8<8:=F5 _ (by simp);obtain⟨x,v⟩:∃x:Nat,d.getD (g.length / 8) 0=(x:Int):=A7 (y _).1;have k:x<256:=by
   grind
  have w:b.toNat*2^(7-g.length%8)<256:=by
   have G:2^(7-g.length%8)<=2^7:=B8 (by simp) (by omega);grind
  have D:x ||| b.toNat*2^(7-g.length%8)<2^8:=J3 k w;have l:(a7h (d,(g.length:Int),u) b).1=f.set (g.length / 8) ((x ||| b.toNat*2^(7-g.length%8):Nat):Int):=by
   unfold a7h;simp only[a,e8,r];rw[B,v,c6J hb E,c9p k w]
  rw[l];refine⟨fun j=>?_,fun i=>?_⟩;grind[a4W]
  ·unfold Vx;rw[a4W _ _ _ A,b0I];have q:=z i;unfold Vx at q;by_cases hk:i / 8=g.length / 8
   ·rw[if_pos hk,tN,Nat.testBit_or];rw[hk,v,tN]at q;rw[q];have C:(b.toNat*2^(7-g.length%8)).testBit (7-i%8)=(A3 (b=1)&&A3 (i=g.length)):=by
     rcases hb with rfl|rfl;all_goals grind
    grind
   grind
theorem a8M{L:LI}(h:CI L):(∀j,0<=(wL L).1.getD j 0/\(wL L).1.getD j 0<256)/\∀i,Vx (wL L).1 i=A3 (L.getD i 0=1):=rU _ L rfl h
def Dm(P R:List Int):Rd:=((wL (P++R)).1,(P.length:Int),(0:Int),())
theorem a2h{L:LI}(k:CI L)(n:L.length<1000000000){i:Nat}(hi:i<L.length)(t:Int×(Int×Unit)):
  Ca (((wL L).1,t),(i:Int))=some (L.getD i 0,(wL L).1,t):=by
 obtain⟨d,e⟩:=a8M k;obtain⟨-,m⟩:=GK L;have l:G3 (i:Int) 8=((i%8:Nat):Int):=by rfl
 have j:K3 (i:Int) 8=((i / 8:Nat):Int):=by rfl
 have b:zD .i64 ((i / 8:Nat):Int)=((i / 8:Nat):Int):=Ae (by omega);have c:zD .i64 (7-((i%8:Nat):Int))=7-((i%8:Nat):Int):=Ae (by omega);have g:A3 (7-((i%8:Nat):Int)<0)=false:=by grind
 have hb:i / 8<(wL L).1.length:=by omega
 have f:(wL L).1[i / 8]=(wL L).1.getD (i / 8) 0:=by grind
 unfold Ca;simp only[l,j,b,c,g,Ac hb,oB,cF];obtain⟨x,a⟩:∃x:Nat,(wL L).1.getD (i / 8) 0=(x:Int):=A7 (d _).1;have h:x<256:=by grind
 rw[f,a,b3Q h (F5 _ (by simp))]
 have:=e i
 unfold Vx at this;rw[a,tN]at this;rw[this];have o:L.getD i 0=0\/L.getD i 0=1:=by
  have:L.getD i 0=L[i]:=by simp_all
  rw[this];exact k _ (A9 hi)
 grind
theorem b0J{v:Nat}(hv:v<18446744073709551616){i:Nat}(hi:i<=64):MJ (v:Int) i=((v / 2^i%2:Nat):Int):=by
 unfold MJ;rw[GL hi];have h:v / 2^i<18446744073709551616:=D0 (C0 _ _) hv;show zD .u8 (zD .u64 (((B3 64 ((v / 2^i:Nat):Int)) &&& (B3 64 1)).toNat:Int))=_;grind[B3,Aw,JL]
theorem CI.app{A B:LI}(h:CI A)(g:CI B):CI (A++B):=fun b hb=>(mA.1 hb).elim (h b) (g b)
theorem c9q{a b:Nat}(k:a<18446744073709551616)(hb:b<2)(f:a%2=0):bits .u64 .or (a:Int) (b:Int)=((a+b:Nat):Int):=by
 show zD .u64 (((B3 64 (a:Int) ||| B3 64 (b:Int)).toNat:Nat):Int)=_;have g:(B3 64 (a:Int)).toNat=a:=by simp_all
 have h:(B3 64 (b:Int)).toNat=b:=by grind
 rw[H1,g,h];have e:a ||| b=a+b:=by
  have:=Nat.two_pow_add_eq_or_of_lt (i:=1) (b:=b) (by omega) (a / 2)
  grind
 grind[Aw]
theorem a4X{v:Nat}(hv:v<9223372036854775808){n:Nat}(q:n<=62):∀(m:Nat)(P R:LI),m<=n->CI (P++(pb (v:Int) m++R))->(P++(pb (v:Int) m++R)).length<1000000000->
  Al Fy (((v / 2^m:Nat):Int),(n:Int),((n-m:Nat):Int),Dm P (pb (v:Int) m++R),())=some ((v:Int),Dm (P++pb (v:Int) m) R,())
 |0,P,R,_,_,_=>by
  grind[Ag,Fy,pb]
 |m+1,P,R,r,hok,hlen=>by
  have l:A3 (((n-(m+1):Nat):Int)<(n:Int))=true:=by grind
  have a:Ca (Dm P (pb (v:Int) (m+1)++R),(P.length:Int))=some (MJ v m,Dm P (pb (v:Int) (m+1)++R)):=by
   have:=a2h hok hlen (i:=P.length) (by simp[pb]) ((P.length:Int),(0:Int),())
   rw[show(P++(pb (v:Int) (m+1)++R)).getD P.length 0=MJ v m from by simp_all[pb]]at this;exact this
  have g:=b0J (v:=v) (by omega) (i:=m) (by omega);have b:v / 2^m%2<2:=F5 _ (by simp);have f:v / 2^(m+1)=v / 2^m / 2:=by grind[G7]
  have p:v / 2^m<=v:=C0 _ _;have d:AT .u64 ((v / 2^(m+1):Nat):Int) 1=((v / 2^(m+1)*2^1:Nat):Int):=RK (o:=1) (by omega) (by omega);have h:bits .u64 .or ((v / 2^(m+1)*2^1:Nat):Int) (zD .u64 (MJ (v:Int) m))=((v / 2^m:Nat):Int):=by
   rw[g,Aw (by omega),c9q (by omega) b (by omega),f];omega
  have e:zD .i64 (((n-(m+1):Nat):Int)+1)=((n-m:Nat):Int):=by grind[Ae]
  have j:zD .i64 ((P.length:Int)+1)=(((P++[MJ v m]).length:Nat):Int):=by
   grind[Ae]
  have k:P++(pb (v:Int) (m+1)++R)=(P++[MJ v m])++(pb (v:Int) m++R):=by simp[pb]
  have c:((Dm P (pb (v:Int) (m+1)++R)).1,(((P++[MJ v m]).length:Nat):Int),(Dm P (pb (v:Int) (m+1)++R)).2.2)=Dm (P++[MJ v m]) (pb (v:Int) m++R):=by
   unfold Dm;simp_all
  rw[Ai (s':=(((v / 2^m:Nat):Int),(n:Int),((n-m:Nat):Int),Dm (P++[MJ v m]) (pb (v:Int) m++R),())) (by
   simp only[Fy,l,cT];rw[show(Dm P (pb (v:Int) (m+1)++R)).2.1=(P.length:Int)from rfl,a];simp only[oB,d,h,e];rw[show(Dm P (pb (v:Int) (m+1)++R)).2.1=(P.length:Int)from rfl,j,c])]
  rw[a4X hv q m _ _ (by omega) (by simp_all) (by simp_all)];simp[pb]
theorem b3R{v n:Nat}(a:n<=62)(hv:v<2^n){P R:LI}(g:CI (P++(pb (v:Int) n++R)))(k:(P++(pb (v:Int) n++R)).length<200000000):
  Ao (Dm P (pb (v:Int) n++R),(n:Int))=some ((v:Int),Dm (P++pb (v:Int) n) R):=by
 have h:v<9223372036854775808:=Nat.lt_of_lt_of_le hv (Nat.le_trans (B8 (by simp) a) (by simp));have f:=a4X h a n P R (by omega) g (by omega);rw[J9 hv,F3]at f;simp at f;obtain⟨-,e⟩:=GK (P++(pb (v:Int) n++R));have j:=Vs (v:Int) n;have i:(P++(pb (v:Int) n++R)).length=P.length+n+R.length:=by grind
 have e8:zD .i64 ((8:Int)*(((wL (P++(pb (v:Int) n++R))).1.length:Nat):Int))=(8:Int)*(((wL (P++(pb (v:Int) n++R))).1.length:Nat):Int):=Ae (by omega);have d:zD .i64 ((8:Int)*(((wL (P++(pb (v:Int) n++R))).1.length:Nat):Int)-(P.length:Int))=(8:Int)*(((wL (P++(pb (v:Int) n++R))).1.length:Nat):Int)-(P.length:Int):=Ae (by omega);have b:A3 ((n:Int)<0)=false:=by simp
 have c:A3 ((n:Int) > 64)=false:=by grind
 have l:A3 ((n:Int) > (8:Int)*(((wL (P++(pb (v:Int) n++R))).1.length:Nat):Int)-(P.length:Int))=false:=by
  grind
 unfold Ao Dr;rw[show(Dm P (pb (v:Int) n++R)).2.2.1=0 from rfl];simp only[bne_self_eq_false,cF,b,c,oB];rw[show(Dm P (pb (v:Int) n++R)).1=(wL (P++(pb (v:Int) n++R))).1 from rfl,show(Dm P (pb (v:Int) n++R)).2.1=(P.length:Int)from rfl,e8,d];grind
end Go.Ab
