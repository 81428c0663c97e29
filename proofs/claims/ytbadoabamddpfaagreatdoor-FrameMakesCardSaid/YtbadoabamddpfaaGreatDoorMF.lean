/- Part of the proof: S. Conditions: as each statement tells. -/
import Derived.KernelRfl
import Derived.Test.YtbadoabamddpfaaGreatDoorME
noncomputable section
set_option linter.unusedSimpArgs false
set_option linter.unusedVariables false
open BitVec renaming ofInt→a09,ofInt_natCast→a30,toNat_ofNat→a33,toNat_and→a72
open Bool renaming and_self→a02,true_and→a19,not_false→a21,not_eq_true'→a48,or_eq_true→a55,eq_iff_iff→a56,and_eq_true_iff→a61,and_false→a76
open Int renaming eq_ofNat_of_zero_le→a03,natCast_dvd_natCast→a27,toNat→a35,cast_ofNat_Int→a39,dvd_mul_of_dvd_left→a40,fdiv_eq_ediv_of_nonneg→a47,mul_fdiv_cancel_left→a49,dvd_add_left→a50,tmod→a63,bmod_add_bmod→a66
open List renaming drop_eq_getElem_cons→a00,replicate→a01,getElem_mem→a04,append_eq→a05,drop_zero→a06,nil_append→a08,drop_length→a16,length_take→a17,all_cons→a18,take_length→a20,take_of_length_le→a22,zipWith→a23,mem_of_mem_take→a24,mem_of_mem_drop→a25,replicate_succ'→a29,length_drop→a32,singleton_append→a36,take_succ_eq_append_getElem→a41,getElem_zip→a42,append_nil→a43,set_cons_zero→a46,length_eq_zero_iff→a52,set_append_right→a58,take→a59,sum_cons→a62,getD→a67,drop→a68,cons_append→a69,length_zip→a74,take_zero→a77
open Nat renaming lt_trans→a07,div_le_self→a26,lt_of_le_of_lt→a28,pow_le_pow_right→a31,le_refl→a34,mul_le_mul_right→a37,mod_eq_of_lt→a38,two_pow_pos→a44,testBit_two_pow_mul_add→a45,sub_self→a51,le_of_lt→a53,div_add_mod→a54,pow_dvd_pow→a57,mul_le_mul→a60,one_le_two_pow→a64,mul_comm→a65,mul_add→a70,mul_one→a71,lt_of_not_le→a73,mod_lt→a75
namespace Go.Ab
open Go.Proofs
set_option maxRecDepth 100000
theorem b6p:Tryz.prog.follows .mixedOrders=true:=by kernel_rfl
theorem e1d:z0w Tryz.prog c5y=true:=by kernel_rfl
theorem e1e:z0u Tryz.prog c5J=true:=by kernel_rfl
theorem e1f:z0r Tryz.prog c5y c8d=true:=by kernel_rfl
theorem laidOut:laidOutB Tryz.prog=true:=by kernel_rfl
@[reducible] def Ok0(n:Nat)(s:FSem):Prop:=f0r Tryz.prog G0 n s∧i0o Tryz.prog n
theorem cxo{a:List (Nat×FSem)}{b:List (Nat×Ty)}{c d:List Nat}(h:∀p∈a,Ok0 p.1 p.2):CxOk Tryz.prog (a1O a b c d):=
 CxOk.of (CxTy.of (tab:=c5y) (l:=c8d) (q:=c5J) (fun _=>rfl) (fun _=>rfl) (fun _=>rfl) e1d e1e e1f) (fun _=>rfl) h
theorem fo (a : List (Nat × FSem)) (b : List (Nat × Ty)) (c d : List Nat) (H : Hints) {n : Nat} {fn : Func} {e : Code} {s : FSem} (h : ∀ p ∈ a, Ok0 p.1 p.2) (hf : Tryz.prog.funcs[n]? = some fn) (hb : fn.body = some e := by rfl) (hk : z0f fn e H s = true := by kernel_rfl) (hn : (fn.name == "runtime.NumGoroutine") = false := by kernel_rfl) (hq : ∀ x, z0c (a1O a b c d) H fn s.ps s.rs x = s.F x := by intro x; kernel_rfl) : Ok0 n s :=
 ⟨f0r.of (cxo h) b6p hf hb hk hq,⟨_,_,hf,hb,hn⟩⟩
theorem d3E:Ok0 22 b6Q:=
 fo [] [] [0,2] [1] H22 a0 Tryz.func22
theorem d4k:Ok0 175 b9p:=
 fo [] [] [0,2] [] d7d a0 Tryz.func175
theorem d4l:Ok0 176 b8I:=
 fo [] [] [0,2] [] d7e a0 Tryz.func176
theorem d0R:Ok0 95 b0W:=
 fo [(175,b9p),(176,b8I)] [] [0,1,4] [] H95 (a1 d4k (a1 d4l a0)) Tryz.func95
theorem d1D:Ok0 111 b3Z:=
 fo [] [] [0,2] [] d7f a0 Tryz.func111
theorem d0S:Ok0 56 b0H:=
 fo [(22,b6Q),(95,b0W),(111,b3Z)] [] [0,2,4,6] [1] H56 (a1 d3E (a1 d0R (a1 d1D a0))) Tryz.func56
theorem d3F:Ok0 57 b4a:=
 fo [(111,b3Z)] [] [0,2] [1] H57 (a1 d1D a0) Tryz.func57
theorem d1E:Ok0 189 b6R:=
 fo [] [] [0,2] [] d7g a0 Tryz.func189
theorem c8i:Ok0 113 b3k:=
 fo [(189,b6R)] [] [0,2,4,6] [] d7h (a1 d1E a0) Tryz.func113
theorem c8j:Ok0 114 b4G:=
 fo [] [] [0,1,4] [] d7i a0 Tryz.func114
theorem c2R:Ok0 183 a1a:=
 ⟨f0r.of (cx:=d1A) (cxo a0) b6p Tryz.func183 rfl (by kernel_rfl) d4e,⟨_,_,Tryz.func183,rfl,by kernel_rfl⟩⟩
theorem d1F:Ok0 115 b4b:=
 fo [(183,a1a)] [(15,.list true (.list true QI))] [0,2,3,5] [] d7k (a1 c2R a0) Tryz.func115
theorem d1G:Ok0 116 b4Z:=
 fo [(189,b6R)] [] [0,1,2,6,7,8,9] [4] d7l (a1 d1E a0) Tryz.func116
theorem d3G:Ok0 59 b9q:=
 fo [(113,b3k),(114,b4G),(115,b4b),(116,b4Z)] [] [0,1,4,5,6] [] H59 (a1 c8i (a1 c8j (a1 d1F (a1 d1G a0)))) Tryz.func59
theorem d4m:Ok0 187 b8J:=
 fo [(113,b3k)] [] [0,2,3,5,6,7] [] d7m (a1 c8i a0) Tryz.func187
theorem d4n:Ok0 188 b9r:=
 fo [] [] [0,2,4,8,12,17] [] d7n a0 Tryz.func188
theorem d4o:Ok0 112 c1n:=
 fo [(59,b9q),(187,b8J),(188,b9r)] [] [0,2,3,4,5,6,7,8] [] d7o (a1 d3G (a1 d4m (a1 d4n a0))) Tryz.func112
theorem e1g:Ok0 58 c1o:=
 fo [(56,b0H),(112,c1n)] [] [0,2,3,4] [1] H58 (a1 d0S (a1 d4o a0)) Tryz.func58
theorem c8k:Ok0 117 b0X:=
 fo [] [] [0,2,4] [] d7p a0 Tryz.func117
theorem d1H:Ok0 190 b4c:=
 fo [] [] [0,2] [] d7q a0 Tryz.func190
theorem d1I:Ok0 118 b4d:=
 fo [(190,b4c)] [] [0,1,4,5,6,8] [] d7r (a1 d1H a0) Tryz.func118
theorem d4p:Ok0 191 a1n:=
 ⟨f0r.of (cx:=b1I) (cxo a0) b6p Tryz.func191 rfl (by kernel_rfl) d4f,⟨_,_,Tryz.func191,rfl,by kernel_rfl⟩⟩
theorem d1J:Ok0 119 b1J:=
 fo [(191,a1n)] [] [0,2,3,5] [] d7s (a1 d4p a0) Tryz.func119
theorem d1K:Ok0 288 b5b:=
 fo [] [] [0,2,4] [] d7t a0 Tryz.func288
theorem d1L:Ok0 243 b5c:=
 fo [(288,b5b)] [] [0,1,4,5,6,7] [] d7u (a1 d1K a0) Tryz.func243
theorem d4q:Ok0 244 b8K:=
 fo [] [] [0,1,4,5,6,7] [] d7v a0 Tryz.func244
theorem d4r:Ok0 192 b9t:=
 fo [(243,b5c),(244,b8K)] [] [0,2,3,4,5,6,7,8] [] d7w (a1 d1L (a1 d4q a0)) Tryz.func192
theorem c8l:Ok0 292 b0Y:=
 fo [] [] [0,2] [] d7x a0 Tryz.func292
theorem c8m:Ok0 290 a7F:=
 fo [(292,b0Y)] [] [0,2,4] [] d7y (a1 c8l a0) Tryz.func290
theorem d1M:Ok0 304 b2N:=
 fo [] [] [0,2] [] d7z a0 Tryz.func304
theorem d4s:Ok0 302 b5S:=
 fo [(304,b2N)] [] [0,2,3,5,6,7,8] [] d7A (a1 d1M a0) Tryz.func302
theorem d4t:Ok0 303 b2H:=
 fo [] [] [0,1,2,6,7,8,9,10] [] d7B a0 Tryz.func303
theorem d4u:Ok0 245 b5d:=
 fo [(183,a1a),(290,a7F),(302,b5S),(303,b2H),(304,b2N)] [] [0,1,4,5,6,7,8,9,10,11,12,13] [] d7C (a1 c2R (a1 c8m (a1 d4s (a1 d4t (a1 d1M a0))))) Tryz.func245
theorem d4v:Ok0 246 b7p:=
 fo [] [] [0,2,3,5,6,7,8,9,10,11] [] d7D a0 Tryz.func246
theorem d4w:Ok0 247 b7q:=
 fo [(95,b0W)] [] [0,1,4,5,6,8,9,10,11,13,14] [] d7E (a1 d0R a0) Tryz.func247
theorem d1N:Ok0 194 b4e:=
 fo [(245,b5d),(246,b7p),(247,b7q)] [] [0,1,2,6,7,8,9,10,11] [] d7F (a1 d4u (a1 d4v (a1 d4w a0))) Tryz.func194
theorem c8n:Ok0 295 b3l:=
 fo [] [] [0,2] [] d7G a0 Tryz.func295
theorem c8o:Ok0 293 a9y:=
 fo [(295,b3l)] [] [0,2,4] [] d7H (a1 c8n a0) Tryz.func293
theorem d4x:Ok0 248 c1q:=
 fo [(293,a9y)] [] [0,1,2,6,7,8,9,10,11,12,13] [] d7I (a1 c8o a0) Tryz.func248
theorem c8p:Ok0 212 b4H:=
 fo [] [] [0,1,4,6] [3] d7J a0 Tryz.func212
theorem d1O:Ok0 294 b2O:=
 fo [] [] [0,1,2,3,8,9,10,11,12] [7] d7K a0 Tryz.func294
theorem c8q:Ok0 250 b0K:=
 fo [(212,b4H),(293,a9y),(294,b2O),(295,b3l)] [] [0,1,2,6,7,8,9,10,11] [5] d7L (a1 c8p (a1 c8o (a1 d1O (a1 c8n a0)))) Tryz.func250
theorem d4y:Ok0 305 b5e:=
 fo [] [] [0] [] d3d a0 Tryz.func305
theorem d4z:Ok0 249 c1s:=
 fo [(250,b0K),(305,b5e)] [] [0,1,5,7,8,11,12,13,15] [] d3e (a1 c8q (a1 d4y a0)) Tryz.func249
theorem d4A:Ok0 195 b9u:=
 fo [(194,b4e),(248,c1q),(249,c1s),(250,b0K)] [] [0,3,4,5,7,8,9] [] d7M (a1 d1N (a1 d4x (a1 d4z (a1 c8q a0)))) Tryz.func195
theorem d4B:Ok0 193 b3N:=
 fo [(194,b4e)] [] [0,1,2,3,6,7,8] [] d7N (a1 d1N a0) Tryz.func193
theorem d4C:Ok0 120 b5f:=
 fo [(192,b9t),(193,b3N),(195,b9u)] [(5,.list true Q39)] [0,1,4,6,8,9] [67] d7O (a1 d4r (a1 d4B (a1 d4A a0))) Tryz.func120
theorem c8r:Ok0 211 b1K:=
 fo [] [] [0,1,4,6] [] d7P a0 Tryz.func211
theorem d1P:Ok0 271 b4f:=
 fo [] [] [0,2] [1] d7Q a0 Tryz.func271
theorem c8s:Ok0 213 b3n:=
 fo [(271,b4f)] [] [0,2] [] d7R (a1 d1P a0) Tryz.func213
theorem c8t:Ok0 150 b3P:=
 fo [(211,b1K),(212,b4H),(213,b3n)] [] [0,1,2,6,8,11,27,41,62] [4] d7S (a1 c8r (a1 c8p (a1 c8s a0))) Tryz.func150
theorem d3H:Ok0 183 a2c:=
 ⟨f0r.of (cx:=c9y) (cxo a0) b6p Tryz.func183 rfl (by kernel_rfl) d3f,⟨_,_,Tryz.func183,rfl,by kernel_rfl⟩⟩
theorem d3I:Ok0 251 a1h:=
 ⟨f0r.of (cx:=c9z) (cxo a0) b6p Tryz.func251 rfl (by kernel_rfl) d3g,⟨_,_,Tryz.func251,rfl,by kernel_rfl⟩⟩
theorem d1Q:Ok0 196 b5g:=
 fo [(183,a2c),(251,a1h)] [] [0,1,9,11,13,15] [3] d7T (a1 d3H (a1 d3I a0)) Tryz.func196
theorem c8u:Ok0 151 a9f:=
 fo [] [] [0,1,4,7,9,12,16] [2] d7U a0 Tryz.func151
theorem d1R:Ok0 291 b1p:=
 fo [] [] [0,1,2,6,7,8,9,10] [] d7V a0 Tryz.func291
theorem d4D:Ok0 252 b8L:=
 fo [(211,b1K),(290,a7F),(291,b1p),(292,b0Y)] [] [0,1,2,6,7,8,9,10] [] d7W (a1 c8r (a1 c8m (a1 d1R (a1 c8l a0)))) Tryz.func252
theorem c8v:Ok0 300 b1L:=
 fo [] [] [0,2] [] d7X a0 Tryz.func300
theorem d1S:Ok0 296 b1M:=
 fo [(300,b1L)] [] [0,2,4] [] d7Y (a1 c8v a0) Tryz.func296
theorem d1T:Ok0 298 b6S:=
 fo [(271,b4f)] [(15,.pair QI Q10),(16,.pair QI Q10)] [0,2,3] [1] d7Z (a1 d1P a0) Tryz.func298
theorem d1U:Ok0 327 b1N:=
 fo [] [] [0,2] [] d8a a0 Tryz.func327
theorem c8w:Ok0 299 a4W:=
 fo [(327,b1N)] [] [0,2,3,4,5] [] d8b (a1 d1U a0) Tryz.func299
theorem d1V:Ok0 301 a8C:=
 fo [(299,a4W),(327,b1N)] [] [0,1,4,5,6,7,8,13,22] [] d8c (a1 c8w (a1 d1U a0)) Tryz.func301
theorem d4E:Ok0 253 b9v:=
 fo [(183,a1a),(213,b3n),(296,b1M),(298,b6S),(299,a4W),(300,b1L),(301,a8C)] [] [0,1,4,5,6,9,10,11,12,13] [] d8d (a1 c2R (a1 c8s (a1 d1S (a1 d1T (a1 c8w (a1 c8v (a1 d1V a0))))))) Tryz.func253
theorem d4F:Ok0 197 c1t:=
 fo [(151,a9f),(183,a1a),(243,b5c),(250,b0K),(252,b8L),(253,b9v)] [] [0,1,4,5,6,11,22,37,67] [] d8e (a1 c8u (a1 c2R (a1 d1L (a1 c8q (a1 d4D (a1 d4E a0)))))) Tryz.func197
theorem c8x:Ok0 214 b0N:=
 fo [] [] [0,1,4] [] d8f a0 Tryz.func214
theorem c2S:Ok0 201 a4C:=
 fo [(214,b0N)] [] [0,1,2,6,7,8] [] d8g (a1 c8x a0) Tryz.func201
theorem d1W:Ok0 236 b6T:=
 fo [(201,a4C)] [] [0,1,2,6,7,9] [3] d8h (a1 c2S a0) Tryz.func236
theorem d1X:Ok0 254 b4g:=
 fo [(214,b0N)] [] [0,1,2,6,8] [] d8i (a1 c8x a0) Tryz.func254
theorem b8e:Ok0 124 a1S:=
 fo [(95,b0W)] [] [0,2,3,5] [] d8j (a1 d0R a0) Tryz.func124
theorem d1Y:Ok0 256 b6U:=
 fo [(124,a1S)] [] [0,2] [] d8k (a1 b8e a0) Tryz.func256
theorem c8y:Ok0 258 a5y:=
 fo [] [] [0,2] [] d8l a0 Tryz.func258
theorem c8z:Ok0 259 b3p:=
 fo [] [] [0,2] [] d8m a0 Tryz.func259
theorem d1Z:Ok0 260 b6V:=
 fo [(259,b3p)] [] [0,2,3,7] [] d8n (a1 c8z a0) Tryz.func260
theorem d4G:Ok0 307 c1u:=
 fo [(258,a5y),(259,b3p),(260,b6V)] [] [0,1,4,5] [] d8o (a1 c8y (a1 c8z (a1 d1Z a0))) Tryz.func307
theorem c8A:Ok0 257 b4I:=
 fo [(307,c1u)] [] [0,1,4,5,7] [] d8p (a1 d4G a0) Tryz.func257
theorem d2a:Ok0 200 b5i:=
 fo [(201,a4C),(236,b6T),(254,b4g),(256,b6U),(257,b4I)] [] [0,1,2,3,8,9,10,11,12] [4] d8q (a1 c2S (a1 d1W (a1 d1X (a1 d1Y (a1 c8A a0))))) Tryz.func200
theorem d4H:Ok0 306 c1v:=
 fo [(257,b4I)] [] [0,2,3,4,5,6] [] d8r (a1 c8A a0) Tryz.func306
theorem d4I:Ok0 255 b7r:=
 fo [(256,b6U),(257,b4I),(306,c1v)] [] [0,2,3] [] d8s (a1 d1Y (a1 c8A (a1 d4H a0))) Tryz.func255
theorem d4J:Ok0 198 b9w:=
 fo [(200,b5i),(201,a4C),(254,b4g),(255,b7r)] [(14,.pair QI Q2),(40,.pair QI Q2)] [0,1,2,3,9,11,12,13,15,17,18] [] d8t (a1 d2a (a1 c2S (a1 d1X (a1 d4I a0)))) Tryz.func198
theorem d4K:Ok0 121 c2C:=
 fo [(117,b0X),(118,b4d),(119,b1J),(150,b3P),(196,b5g),(197,c1t),(198,b9w)] [] [0,1,2,7,8,11,12,13] [5] d8u (a1 c8k (a1 d1I (a1 d1J (a1 c8t (a1 d1Q (a1 d4F (a1 d4J a0))))))) Tryz.func121
theorem c8B:Ok0 128 a9h:=
 fo [] [] [0,2] [] d8v a0 Tryz.func128
theorem d4L:Ok0 235 c1w:=
 fo [(196,b5g)] [] [0,2] [1] d8w (a1 d1Q a0) Tryz.func235
theorem d4M:Ok0 184 b9x:=
 fo [(117,b0X),(128,a9h),(150,b3P),(151,a9f),(235,c1w),(236,b6T)] [] [0,1,4,5] [2] d8x (a1 c8k (a1 c8B (a1 c8t (a1 c8u (a1 d4L (a1 d1W a0)))))) Tryz.func184
theorem d4N:Ok0 325 b5T:=
 fo [] [] [0,1,3] [] d8y a0 Tryz.func325
theorem d4O:Ok0 289 b8M:=
 fo [(325,b5T)] [] [0,1,4,5,8,12,20,32] [] d8z (a1 d4N a0) Tryz.func289
theorem d4P:Ok0 237 b9y:=
 fo [(288,b5b),(289,b8M)] [] [0,1,2,6,7,8,10,11] [] d8A (a1 d1K (a1 d4O a0)) Tryz.func237
theorem d4Q:Ok0 238 b8N:=
 fo [(211,b1K),(290,a7F),(291,b1p),(292,b0Y)] [] [0,1,2,3,8,9,10,12,13] [] d8B (a1 c8r (a1 c8m (a1 d1R (a1 c8l a0)))) Tryz.func238
theorem d4R:Ok0 239 c1x:=
 fo [(212,b4H),(293,a9y),(294,b2O),(295,b3l)] [] [0,1,2,6,7,8,9,10,11] [5] d8C (a1 c8p (a1 c8o (a1 d1O (a1 c8n a0)))) Tryz.func239
theorem d4S:Ok0 240 a9i:=
 ⟨f0r.ofR (cx:=d1B) (cxo (a1 c2R (a1 c8s (a1 d1S (a1 d1T (a1 c8w (a1 c8v (a1 d1V a0)))))))) b6p (r:=d3h) ⟨d2z,d2A⟩ Tryz.func240 rfl (by kernel_rfl) d4i,⟨_,_,Tryz.func240,rfl,by kernel_rfl⟩⟩
theorem d4T:Ok0 241 c1y:=
 fo [(190,b4c)] [] [0,1,4,5,6,8] [] d8E (a1 d1H a0) Tryz.func241
theorem d4U:Ok0 185 c2D:=
 fo [(237,b9y),(238,b8N),(239,c1x),(240,a9i),(241,c1y)] [] [0,1,4,5,6,7,10,24,28,40,54,79] [2] d8F (a1 d4P (a1 d4Q (a1 d4R (a1 d4S (a1 d4T a0))))) Tryz.func185
theorem d2b:Ok0 106 b5V:=
 fo [(184,b9x),(185,c2D)] [] [0,1,4,5,6,7] [2] d8G (a1 d4M (a1 d4U a0)) Tryz.func106
theorem d2c:Ok0 123 b5X:=
 fo [(106,b5V)] [] [0,1,4,5,6] [2] d8H (a1 d2b a0) Tryz.func123
theorem c8C:Ok0 130 a4L:=
 fo [] [] [0,1] [] d8I a0 Tryz.func130
theorem c2T:Ok0 125 a3z:=
 fo [(130,a4L)] [] [0,1,2,6,7] [] d8J (a1 c8C a0) Tryz.func125
theorem d2d:Ok0 126 b1T:=
 fo [(125,a3z)] [] [0,1,2] [] d8K (a1 c2T a0) Tryz.func126
theorem d4V:Ok0 127 b7s:=
 fo [(124,a1S),(125,a3z),(126,b1T)] [] [0,1,4,6] [3] d8L (a1 b8e (a1 c2T (a1 d2d a0))) Tryz.func127
theorem d4W:Ok0 261 b2I:=
 fo [(130,a4L)] [] [0,1,4] [] d8M (a1 c8C a0) Tryz.func261
theorem d4X:Ok0 202 c2E:=
 fo [(125,a3z),(258,a5y),(259,b3p),(260,b6V),(261,b2I)] [] [0,1,2,6,8,10,11,12] [] d8N (a1 c2T (a1 c8y (a1 c8z (a1 d1Z (a1 d4W a0))))) Tryz.func202
theorem d4Y:Ok0 129 c1z:=
 fo [(124,a1S),(125,a3z),(200,b5i),(201,a4C),(202,c2E)] [] [0,1,2,3,4,10,11,12,13,14,16] [6] d8O (a1 b8e (a1 c2T (a1 d2a (a1 c2S (a1 d4X a0))))) Tryz.func129
theorem d3J:Ok0 62 b5Z:=
 fo [(123,b5X),(124,a1S),(125,a3z),(126,b1T),(127,b7s),(128,a9h),(129,c1z)] [] [0,1,2,6,7,9,13,37,39,41,43] [4] H62 (a1 d2c (a1 b8e (a1 c2T (a1 d2d (a1 d4V (a1 c8B (a1 d4Y a0))))))) Tryz.func62
theorem d4Z:Ok0 199 b4x:=
 fo [] [] [0,2] [] d8P a0 Tryz.func199
theorem d5a:Ok0 122 c2F:=
 fo [(62,b5Z),(199,b4x)] [(5,.pair (.list true (.int .u8)) Q0)] [0,1,4] [2] d8Q (a1 d3J (a1 d4Z a0)) Tryz.func122
theorem e1h:Ok0 60 c2G:=
 fo [(117,b0X),(118,b4d),(119,b1J),(120,b5f),(121,c2C),(122,c2F)] [] [0,1,5,6,7,9,10,14,15] [] H60 (a1 c8k (a1 d1I (a1 d1J (a1 d4C (a1 d4K (a1 d5a a0)))))) Tryz.func60
theorem d3K:Ok0 18 b5j:=
 fo [(22,b6Q),(56,b0H),(57,b4a),(58,c1o),(59,b9q),(60,c2G)] [(10,.pair QI Q53),(52,.pair QI Q51),(57,.pair QI Q51),(63,.pair QI Q51),(79,.pair QI Q51),(95,.pair QI Q51)] [0,1,2,3,9,11,12,14,16] [4,5] H18 (a1 d3E (a1 d0S (a1 d3F (a1 e1g (a1 d3G (a1 e1h a0)))))) Tryz.func18
theorem d2e:Ok0 105 a8j:=
 fo [(57,b4a),(114,b4G)] [] [0,2] [1] d8R (a1 d3F (a1 c8j a0)) Tryz.func105
theorem d5b:Ok0 107 a8x:=
 ⟨f0r.ofR (cx:=d1C) (cxo (a1 c8i (a1 c8j (a1 d1F (a1 d1G a0))))) b6p (r:=d3i) ⟨d2B,d2C⟩ Tryz.func107 rfl (by kernel_rfl) d4j,⟨_,_,Tryz.func107,rfl,by kernel_rfl⟩⟩
theorem d3L:Ok0 50 b4i:=
 fo [(56,b0H),(105,a8j),(106,b5V),(107,a8x)] [] [0,3,4,7,8,9,10] [1] H50 (a1 d0S (a1 d2e (a1 d2b (a1 d5b a0)))) Tryz.func50
theorem d3M:Ok0 61 b0R:=
 fo [(50,b4i)] [] [0,2,4] [1] H61 (a1 d3L a0) Tryz.func61
theorem e1i:Ok0 63 a8D:=
 fo [(130,a4L)] [] [0] [] H63 (a1 c8C a0) Tryz.func63
theorem e1j:Ok0 64 a8E:=
 fo [] [] [0,2] [] H64 a0 Tryz.func64
theorem e1k:Ok0 88 b6W:=
 fo [] [] [0,2,3,5] [] H88 a0 Tryz.func88
theorem d5c:Ok0 131 b6X:=
 fo [] [] [0,2] [] d3j a0 Tryz.func131
theorem d2f:Ok0 132 a9j:=
 fo [] [] [0,2,3,5,6] [] d3k a0 Tryz.func132
theorem e1l:Ok0 65 b1X:=
 fo [(88,b6W),(131,b6X),(132,a9j)] [] [0,1,4,5,8] [2] H65 (a1 e1k (a1 d5c (a1 d2f a0))) Tryz.func65
theorem d5d:Ok0 203 b4j:=
 fo [] [] [0,2] [] d8T a0 Tryz.func203
theorem d5e:Ok0 133 b8P:=
 fo [(203,b4j)] [] [0,1,4,5] [] d3l (a1 d5d a0) Tryz.func133
theorem d5f:Ok0 134 a6R:=⟨d0M _,⟨_,_,Tryz.func134,rfl,by kernel_rfl⟩⟩
theorem e1m:Ok0 66 b6Y:=
 fo [(133,b8P),(134,a6R)] [] [0,1,4,5] [] H66 (a1 d5e (a1 d5f a0)) Tryz.func66
theorem d3N:Ok0 67 a7i:=
 fo [] [] [0,2,3,5,6] [] H67 a0 Tryz.func67
theorem e1n:Ok0 19 c1B:=
 fo [(61,b0R),(62,b5Z),(63,a8D),(64,a8E),(65,b1X),(66,b6Y),(67,a7i)] [(4,.pair (.list true (.int .u8)) Q0)] [0,2,3,7,8,9] [1] H19 (a1 d3M (a1 d3J (a1 e1i (a1 e1j (a1 e1l (a1 e1m (a1 d3N a0))))))) Tryz.func19
theorem d5g:Ok0 143 b6Z:=
 fo [] [] [0,2] [] d8U a0 Tryz.func143
theorem d5h:Ok0 208 b2P:=
 fo [] [] [0,2,3,4,5,6,7] [] d3m a0 Tryz.func208
theorem d5i:Ok0 144 a9k:=
 fo [(208,b2P)] [] [0,1,4,5,6,7] [] d3n (a1 d5h a0) Tryz.func144
theorem d5j:Ok0 145 b7a:=
 fo [] [] [0,2,3] [] d3o a0 Tryz.func145
theorem d5k:Ok0 146 a9l:=
 fo [] [] [0,2] [] d8V a0 Tryz.func146
theorem d5l:Ok0 147 a8F:=
 fo [] [] [0,2] [] d8W a0 Tryz.func147
theorem d5m:Ok0 148 b0A:=
 fo [] [] [0,2] [] d8X a0 Tryz.func148
theorem d3O:Ok0 71 a8P:=
 fo [(105,a8j),(132,a9j),(143,b6Z),(144,a9k),(145,b7a),(146,a9l),(147,a8F),(148,b0A)] [(2,.pair QI Q52),(15,.pair QI Q51),(26,.pair QI Q51),(83,.pair QI Q51),(88,.pair QI Q51),(101,.pair QI Q51),(105,.pair QI Q51)] [0,3,4,5,6,7,8,9,10,11] [] H71 (a1 d2e (a1 d2f (a1 d5g (a1 d5i (a1 d5j (a1 d5k (a1 d5l (a1 d5m a0)))))))) Tryz.func71
theorem e1o:Ok0 72 b7W:=
 fo [] [] [0,2] [] H72 a0 Tryz.func72
theorem c4c:Ok0 76 a1e:=
 fo [] [] [0,2] [] H76 a0 Tryz.func76
theorem d3P:Ok0 74 a4f:=
 fo [] [] [0,2] [] H74 a0 Tryz.func74
theorem c8D:Ok0 154 a2n:=
 fo [] [] [0,1,4] [] d3p a0 Tryz.func154
theorem c0Y:Ok0 209 a1f:=
 fo [(74,a4f),(154,a2n)] [] [0,1,4,5] [] d3q (a1 d3P (a1 c8D a0)) Tryz.func209
theorem c5z:Ok0 152 a1x:=
 fo [(209,a1f)] [] [0,1,4,5] [] d3r (a1 c0Y a0) Tryz.func152
theorem d5n:Ok0 210 b2Q:=
 fo [(124,a1S),(152,a1x),(209,a1f)] [] [0,1,4,5,6] [] d3s (a1 b8e (a1 c5z (a1 c0Y a0))) Tryz.func210
theorem d5o:Ok0 149 b4k:=
 fo [(152,a1x),(209,a1f),(210,b2Q)] [(2,.pair QI Q35)] [0,3,4,5,6,7,21,23,25,27] [] d3t (a1 c5z (a1 c0Y (a1 d5n a0))) Tryz.func149
theorem d5p:Ok0 330 a8G:=
 fo [(154,a2n)] [] [0,1,4,5,6] [] d3u (a1 c8D a0) Tryz.func330
theorem d5q:Ok0 331 b4l:=
 fo [] [] [0,2,3,6] [] d3v a0 Tryz.func331
theorem d5r:Ok0 313 b7Y:=
 fo [(76,a1e),(209,a1f),(330,a8G),(331,b4l)] [] [0,1,4,5,6,7,8] [] d3w (a1 c4c (a1 c0Y (a1 d5p (a1 d5q a0)))) Tryz.func313
theorem d5s:Ok0 272 b7Z:=
 fo [(76,a1e),(258,a5y),(313,b7Y)] [] [0,1,2,6,7,8,9,10] [] d3x (a1 c4c (a1 c8y (a1 d5r a0))) Tryz.func272
theorem d5t:Ok0 215 b7b:=
 fo [(76,a1e),(124,a1S),(152,a1x),(209,a1f),(272,b7Z)] [] [0,1,4,5,6,7,8,9,10,11] [] d3y (a1 c4c (a1 b8e (a1 c5z (a1 c0Y (a1 d5s a0))))) Tryz.func215
theorem d5u:Ok0 153 b7c:=
 fo [(76,a1e),(201,a4C),(209,a1f),(214,b0N),(215,b7b)] [(11,.pair QI Q2),(41,.pair QI Q2)] [0,1,2,7,8,9,10,12,14,15,16,17] [] d3z (a1 c4c (a1 c2S (a1 c0Y (a1 c8x (a1 d5t a0))))) Tryz.func153
theorem e1p:Ok0 73 b9D:=
 fo [(76,a1e),(123,b5X),(124,a1S),(128,a9h),(149,b4k),(150,b3P),(151,a9f),(152,a1x),(153,b7c)] [(7,.pair QI Q36)] [0,1,5,6,8,9,10,11,12] [] H73 (a1 c4c (a1 d2c (a1 b8e (a1 c8B (a1 d5o (a1 c8t (a1 c8u (a1 c5z (a1 d5u a0))))))))) Tryz.func73
theorem e1q:Ok0 75 a8H:=
 fo [(154,a2n)] [] [0,2,3] [] H75 (a1 c8D a0) Tryz.func75
theorem d3Q:Ok0 21 b1Y:=
 fo [(61,b0R),(67,a7i),(71,a8P),(72,b7W),(73,b9D),(74,a4f),(75,a8H),(76,a1e)] [(5,.pair QI Q53)] [0,3,4,6,7,8,9,10,12] [] H21 (a1 d3M (a1 d3N (a1 d3O (a1 e1o (a1 e1p (a1 d3P (a1 e1q (a1 c4c a0)))))))) Tryz.func21
theorem e1r:Ok0 82 b6b:=
 fo [] [] [0,1,4,5] [] H82 a0 Tryz.func82
theorem d0T:Ok0 35 a8k:=
 fo [] [] [0,1,4,5] [] H35 a0 Tryz.func35
theorem d5v:Ok0 166 b5k:=
 fo [] [] [0,1,4,5] [] d8Y a0 Tryz.func166
theorem d5w:Ok0 167 b7t:=
 fo [(35,a8k)] [] [0,1,4] [2,3] d8Z (a1 d0T a0) Tryz.func167
theorem d3R:Ok0 83 b4m:=
 fo [(35,a8k),(166,b5k),(167,b7t)] [] [0,1,4] [2,3] H83 (a1 d0T (a1 d5v (a1 d5w a0))) Tryz.func83
theorem d3S:Ok0 24 b1Z:=
 fo [(82,b6b),(83,b4m)] [] [0,1,4,5] [2,3] H24 (a1 e1r (a1 d3R a0)) Tryz.func24
theorem e1s:Ok0 51 b9G:=
 fo [(71,a8P)] [] [0,3,4,5,7,8,9] [] H51 (a1 d3O a0) Tryz.func51
theorem d5x:Ok0 108 b7v:=
 fo [(35,a8k)] [] [0,1,4,5] [] d3A (a1 d0T a0) Tryz.func108
theorem e1t:Ok0 52 b6d:=
 fo [(108,b7v)] [] [0,1,4] [2,3] H52 (a1 d5x a0) Tryz.func52
theorem e1u:Ok0 53 b9I:=
 fo [(21,b1Y)] [] [0,1,4,5,7,8] [] H53 (a1 d3Q a0) Tryz.func53
theorem e1v:Ok0 15 c1C:=
 fo [(18,b5j),(19,c1B),(21,b1Y),(24,b1Z),(50,b4i),(51,b9G),(52,b6d),(53,b9I)] [] [0,4,5,6,8,9,11,13,14,15] [] H15 (a1 d3K (a1 e1n (a1 d3Q (a1 d3S (a1 d3L (a1 e1s (a1 e1t (a1 e1u a0)))))))) Tryz.func15
theorem e1w:Ok0 16 c2I:=
 fo [] [] [0,1,4,5] [2] H16 a0 Tryz.func16
theorem d3T:Ok0 54 b7e:=
 fo [] [] [0,2,3] [] H54 a0 Tryz.func54
theorem d5y:Ok0 109 c5O:=
 fo [] [] [0,2] [] d9a a0 Tryz.func109
theorem d5z:Ok0 110 c4A:=
 fo [] [] [0,2] [] d9b a0 Tryz.func110
theorem d0U:Ok0 55 b6e:=
 fo [(109,c5O),(110,c4A)] [] [0,1,4] [] H55 (a1 d5y (a1 d5z a0)) Tryz.func55
theorem d3U:Ok0 17 b2S:=
 fo [(54,b7e),(55,b6e)] [] [0,2,3,4] [1] H17 (a1 d3T (a1 d0U a0)) Tryz.func17
theorem e1x:Ok0 77 c1D:=
 fo [] [] [0,2] [1] H77 a0 Tryz.func77
theorem e1y:Ok0 78 b7w:=
 fo [] [] [0,2] [1] H78 a0 Tryz.func78
theorem b3B:Ok0 218 a4g:=
 fo [] [] [0,2] [] d9c a0 Tryz.func218
theorem a5P:Ok0 160 a1b:=
 fo [(218,a4g)] [] [0,2,3] [] d9d (a1 b3B a0) Tryz.func160
theorem d5A:Ok0 217 b8Q:=
 fo [] [] [0,1,4,5] [] d9e a0 Tryz.func217
theorem d2g:Ok0 157 b8a:=
 fo [(54,b7e),(160,a1b),(217,b8Q)] [] [0,1,4,5] [] d9f (a1 d3T (a1 a5P (a1 d5A a0))) Tryz.func157
theorem d5B:Ok0 158 b9K:=
 fo [] [(18,.list true (.list true QI))] [0,2,3,4] [] d9g a0 Tryz.func158
theorem d5C:Ok0 159 c4B:=
 fo [(218,a4g)] [] [0,1,2,6,7] [4] d9h (a1 b3B a0) Tryz.func159
theorem d3V:Ok0 80 b5l:=
 fo [(157,b8a),(158,b9K),(159,c4B)] [] [0,1,4,5,6,7] [] H80 (a1 d2g (a1 d5B (a1 d5C a0))) Tryz.func80
theorem c8E:Ok0 216 b6g:=
 fo [] [] [0,2] [] d9i a0 Tryz.func216
theorem d5D:Ok0 155 b5m:=
 fo [(157,b8a),(216,b6g)] [] [0,2,3,4,5] [] d9j (a1 d2g (a1 c8E a0)) Tryz.func155
theorem d5E:Ok0 156 b6h:=
 fo [] [] [0,2,4,8,12,17] [] d9k a0 Tryz.func156
theorem e1z:Ok0 79 b7x:=
 fo [(17,b2S),(80,b5l),(155,b5m),(156,b6h)] [] [0,2,3,4,5,6,7,8,9,10,11,12,13] [1] H79 (a1 d3U (a1 d3V (a1 d5D (a1 d5E a0)))) Tryz.func79
theorem c8F:Ok0 162 b3v:=
 fo [] [] [0,2,3,4,5] [] d9l a0 Tryz.func162
theorem d5F:Ok0 219 c4D:=
 fo [] [] [0,2,3] [] d3B a0 Tryz.func219
theorem d2h:Ok0 161 b9L:=
 fo [(160,a1b),(162,b3v),(219,c4D)] [] [0,1,4,5,6,7] [] d9m (a1 a5P (a1 c8F (a1 d5F a0))) Tryz.func161
theorem c8G:Ok0 273 a8T:=
 fo [(160,a1b)] [] [0,1,4,5,6,7,8,9] [] d9n (a1 a5P a0) Tryz.func273
theorem d2i:Ok0 314 b3x:=
 fo [(216,b6g)] [] [0,1,4,5,6] [] d9o (a1 c8E a0) Tryz.func314
theorem d5G:Ok0 274 b4y:=
 fo [(273,a8T),(314,b3x)] [] [0,1,4,5,6] [] d9p (a1 c8G (a1 d2i a0)) Tryz.func274
theorem d5H:Ok0 220 b6i:=
 fo [(273,a8T),(274,b4y)] [] [0,2,3,4,5,6,7,8] [] d9q (a1 c8G (a1 d5G a0)) Tryz.func220
theorem d2j:Ok0 339 b8b:=
 fo [] [] [0,2] [] d9r a0 Tryz.func339
theorem d5I:Ok0 337 b9M:=
 fo [(339,b8b)] [] [0,2,3,4,5,6] [] d9s (a1 d2j a0) Tryz.func337
theorem d5J:Ok0 340 c2J:=
 fo [] [] [0,1,4,5] [] d9t a0 Tryz.func340
theorem d5K:Ok0 338 b5n:=
 fo [(340,c2J)] [] [0,1,2,6,7,8,9] [] d9u (a1 d5J a0) Tryz.func338
theorem d5L:Ok0 332 b2K:=
 fo [(160,a1b),(337,b9M),(338,b5n),(339,b8b)] [] [0,1,4,5,6,7,8,9,10,11,12,13,14] [] d9v (a1 a5P (a1 d5I (a1 d5K (a1 d2j a0)))) Tryz.func332
theorem d5M:Ok0 333 b4z:=
 fo [] [] [0,2,3,4,5,6,7,8] [] d9w a0 Tryz.func333
theorem d5N:Ok0 334 b4A:=
 fo [(55,b6e)] [] [0,1,4,5,6,7,8,9,10,11,12,13] [] d9x (a1 d0U a0) Tryz.func334
theorem d5O:Ok0 315 b5o:=
 fo [(332,b2K),(333,b4z),(334,b4A)] [] [0,1,2,6,7,8,9,10,11,12] [] d9y (a1 d5L (a1 d5M (a1 d5N a0))) Tryz.func315
theorem d2k:Ok0 275 b5p:=
 fo [(315,b5o)] [] [0,1,2,7,8,9,10] [] d9z (a1 d5O a0) Tryz.func275
theorem d5P:Ok0 221 c2K:=
 fo [(275,b5p)] [] [0,1,2,3,8,10] [] d9A (a1 d2k a0) Tryz.func221
theorem d5Q:Ok0 276 b7y:=
 fo [(160,a1b),(216,b6g)] [] [0,1,2,6,7,8,9,10,11,12,13,30,35] [] d9B (a1 a5P (a1 c8E a0)) Tryz.func276
theorem c8H:Ok0 280 b1c:=
 fo [] [] [0,1,4,5] [3] d9C a0 Tryz.func280
theorem d2l:Ok0 317 b2d:=
 fo [] [] [0,1,2,6,7,8,9] [5] d9D a0 Tryz.func317
theorem c8I:Ok0 278 a7r:=
 fo [(160,a1b),(280,b1c),(317,b2d)] [] [0,1,2,6,7,8,9] [5] d9E (a1 a5P (a1 c8H (a1 d2l a0))) Tryz.func278
theorem d5R:Ok0 316 b2e:=
 fo [] [] [0] [] d3C a0 Tryz.func316
theorem d5S:Ok0 277 b7A:=
 fo [(278,a7r),(314,b3x),(316,b2e)] [] [0,1,5,6,7,8,9,10,11,12] [] d3D (a1 c8I (a1 d2i (a1 d5R a0))) Tryz.func277
theorem d5T:Ok0 222 c2M:=
 fo [(275,b5p),(276,b7y),(277,b7A),(278,a7r)] [] [0,3,4,5,7,8,9,11] [] d9F (a1 d2k (a1 d5Q (a1 d5S (a1 c8I a0)))) Tryz.func222
theorem d5U:Ok0 163 c1E:=
 fo [(220,b6i),(221,c2K),(222,c2M)] [] [0,1,4,5,7,8] [] d9G (a1 d5H (a1 d5P (a1 d5T a0))) Tryz.func163
theorem c8J:Ok0 140 b1d:=
 fo [] [] [0,2] [] d9H a0 Tryz.func140
theorem c5A:Ok0 279 a6u:=
 fo [] [] [0,1,4,5] [] d9I a0 Tryz.func279
theorem d2m:Ok0 318 b2T:=
 fo [] [] [0,2] [1] d9J a0 Tryz.func318
theorem c8K:Ok0 281 a9L:=
 fo [(318,b2T)] [] [0,2,3] [] d9K (a1 d2m a0) Tryz.func281
theorem d2n:Ok0 223 b7f:=
 fo [(279,a6u),(280,b1c),(281,a9L)] [] [0,1,4,7,9,12,30,60] [2] d9L (a1 c5A (a1 c8H (a1 c8K a0))) Tryz.func223
theorem d5V:Ok0 224 c1F:=
 fo [] [] [0,2,3] [] d9M a0 Tryz.func224
theorem d2o:Ok0 319 b0B:=
 fo [(218,a4g),(279,a6u)] [] [0,1,2,6,7,8,9] [] d9N (a1 b3B (a1 c5A a0)) Tryz.func319
theorem d5W:Ok0 282 b5q:=
 fo [(160,a1b),(279,a6u),(319,b0B)] [] [0,1,2,6,7,8,9] [] d9O (a1 a5P (a1 c5A (a1 d2o a0))) Tryz.func282
theorem d2p:Ok0 320 b2f:=
 fo [(318,b2T)] [(15,.pair QI Q10),(16,.pair QI Q10)] [0,2,3] [1] d9P (a1 d2m a0) Tryz.func320
theorem d2q:Ok0 335 b8d:=
 fo [] [] [0,2] [] d9Q a0 Tryz.func335
theorem c8L:Ok0 321 a6w:=
 fo [(335,b8d)] [] [0,2,3,4] [] d9R (a1 d2q a0) Tryz.func321
theorem d5X:Ok0 336 c2N:=
 fo [] [] [0,2,3,6] [] d9S a0 Tryz.func336
theorem d2r:Ok0 322 b0C:=
 fo [(321,a6w),(335,b8d),(336,c2N)] [] [0,1,4,5,6,7] [] d9T (a1 c8L (a1 d2q (a1 d5X a0))) Tryz.func322
theorem d5Y:Ok0 283 b6j:=
 fo [(160,a1b),(281,a9L),(320,b2f),(321,a6w),(322,b0C)] [] [0,1,4,5,6,7,8,9,10,11] [] d9U (a1 a5P (a1 c8K (a1 d2p (a1 c8L (a1 d2r a0))))) Tryz.func283
theorem d5Z:Ok0 225 c2O:=
 fo [(273,a8T),(278,a7r),(282,b5q),(283,b6j)] [] [0,1,4,5,6,7,8,9,10,11,12,13,14,17,32,67] [2] d9V (a1 c8G (a1 c8I (a1 d5W (a1 d5Y a0)))) Tryz.func225
theorem d2s:Ok0 267 c2b:=
 fo [] [] [0,1,4] [] d9W a0 Tryz.func267
theorem c5B:Ok0 206 a6z:=
 fo [(267,c2b)] [] [0,1,2,6,7,8] [] d9X (a1 d2s a0) Tryz.func206
theorem c8M:Ok0 268 a9M:=
 fo [] [] [0,2] [] d9Y a0 Tryz.func268
theorem d2t:Ok0 263 b4n:=
 fo [(206,a6z),(268,a9M)] [] [0,1,2,6,7,8] [3] d9Z (a1 c5B (a1 c8M a0)) Tryz.func263
theorem c5C:Ok0 136 b2j:=
 fo [(55,b6e)] [] [0,2,3,4] [] e0A (a1 d0U a0) Tryz.func136
theorem d6a:Ok0 142 c5P:=
 fo [] [] [0,2,3] [] e0B a0 Tryz.func142
theorem d2u:Ok0 269 b9N:=
 fo [(142,c5P),(218,a4g)] [] [0,2] [] e0C (a1 d6a (a1 b3B a0)) Tryz.func269
theorem d6b:Ok0 329 b8R:=
 fo [(218,a4g),(268,a9M),(269,b9N)] [] [0,1,4,5] [] e0D (a1 b3B (a1 c8M (a1 d2u a0))) Tryz.func329
theorem c8N:Ok0 312 b2k:=
 fo [(329,b8R)] [] [0,1,4,5,6] [] e0E (a1 d6b a0) Tryz.func312
theorem d2v:Ok0 266 b4o:=
 fo [(136,b2j),(312,b2k)] [] [0,1,4] [] e0F (a1 c5C (a1 c8N a0)) Tryz.func266
theorem d2w:Ok0 205 b2U:=
 fo [(160,a1b),(206,a6z),(263,b4n),(266,b4o)] [] [0,1,2,3,8,9,10,11,12] [4] e0G (a1 a5P (a1 c5B (a1 d2t (a1 d2v a0)))) Tryz.func205
theorem d6c:Ok0 323 b8S:=
 fo [(312,b2k)] [] [0,2,3,4] [] e0H (a1 c8N a0) Tryz.func323
theorem d6d:Ok0 284 c2P:=
 fo [(266,b4o),(312,b2k),(323,b8S)] [] [0,2,3] [] e0I (a1 d2v (a1 c8N (a1 d6c a0))) Tryz.func284
theorem d6e:Ok0 226 b7B:=
 fo [(160,a1b),(205,b2U),(206,a6z),(267,c2b),(284,c2P)] [(15,.pair QI Q2),(48,.pair QI Q2)] [0,1,2,3,9,11,12,13,14,16,17] [] e0J (a1 a5P (a1 d2w (a1 c5B (a1 d2s (a1 d6d a0))))) Tryz.func226
theorem d6f:Ok0 164 b8T:=
 fo [(140,b1d),(160,a1b),(161,b9L),(162,b3v),(223,b7f),(224,c1F),(225,c2O),(226,b7B)] [] [0,1,2,7,8,10,11,12,13,14,20,25,33,47] [5] e0K (a1 c8J (a1 a5P (a1 d2h (a1 c8F (a1 d2n (a1 d5V (a1 d5Z (a1 d6e a0)))))))) Tryz.func164
theorem d6g:Ok0 262 c1G:=
 fo [] [] [0,28,33,41,55] [1] e0L a0 Tryz.func262
theorem d6h:Ok0 328 b9O:=
 fo [] [] [0,2] [] e0M a0 Tryz.func328
theorem d6i:Ok0 308 b6k:=
 fo [(160,a1b),(218,a4g),(328,b9O)] [] [0,1,2,6,7,8,9,10,11,12] [] e0N (a1 a5P (a1 b3B (a1 d6h a0))) Tryz.func308
theorem d6j:Ok0 309 b5t:=
 fo [(160,a1b),(218,a4g),(279,a6u),(319,b0B)] [] [0,1,2,3,8,9,10,11,12] [] e0O (a1 a5P (a1 b3B (a1 c5A (a1 d2o a0)))) Tryz.func309
theorem d6k:Ok0 310 b7C:=
 fo [(160,a1b),(218,a4g),(280,b1c),(317,b2d)] [] [0,1,2,6,7,8,9,10] [5] e0P (a1 a5P (a1 b3B (a1 c8H (a1 d2l a0)))) Tryz.func310
theorem d6l:Ok0 311 b6l:=
 fo [(160,a1b),(218,a4g),(281,a9L),(320,b2f),(321,a6w),(322,b0C)] [] [0,1,4,5,6,7,8,9,10,11] [] e0Q (a1 a5P (a1 b3B (a1 c8K (a1 d2p (a1 c8L (a1 d2r a0)))))) Tryz.func311
theorem d6m:Ok0 264 c2Q:=
 fo [(308,b6k),(309,b5t),(310,b7C),(311,b6l)] [] [0,2,3,4,5,8,19,32,57] [1] e0R (a1 d6i (a1 d6j (a1 d6k (a1 d6l a0)))) Tryz.func264
theorem d6n:Ok0 265 c7x:=
 fo [(218,a4g)] [] [0,1,4,5,6,7] [] e0S (a1 b3B a0) Tryz.func265
theorem d6o:Ok0 204 b9P:=
 fo [(83,b4m),(140,b1d),(160,a1b),(223,b7f),(262,c1G),(263,b4n),(264,c2Q),(265,c7x)] [] [0,1,4,5,6,7,8,9,10,11,12] [2] e0T (a1 d3R (a1 c8J (a1 a5P (a1 d2n (a1 d6g (a1 d2t (a1 d6m (a1 d6n a0)))))))) Tryz.func204
theorem d6p:Ok0 135 b9Q:=
 fo [(204,b9P)] [] [0,1,4,5,6] [2] e0U (a1 d6o a0) Tryz.func135
theorem c2U:Ok0 137 a4v:=
 fo [] [] [0,1,2,6,7] [] e0V a0 Tryz.func137
theorem c8O:Ok0 139 a9P:=
 fo [(137,a4v)] [] [0,1,2,6] [] e0W (a1 c2U a0) Tryz.func139
theorem d6q:Ok0 138 b6m:=
 fo [(136,b2j),(137,a4v),(139,a9P)] [] [0,1,4] [3] e0X (a1 c5C (a1 c2U (a1 c8O a0))) Tryz.func138
theorem d6r:Ok0 270 b4B:=
 fo [] [] [0,1,4,5] [] e0Y a0 Tryz.func270
theorem d6s:Ok0 207 b9R:=
 fo [(137,a4v),(160,a1b),(268,a9M),(269,b9N),(270,b4B)] [] [0,1,2,6,7,8,9] [] e0Z (a1 c2U (a1 a5P (a1 c8M (a1 d2u (a1 d6r a0))))) Tryz.func207
theorem d6t:Ok0 141 b8U:=
 fo [(136,b2j),(137,a4v),(139,a9P),(205,b2U),(206,a6z),(207,b9R)] [] [0,1,2,3,4,10,11,12,13,14,15] [6] e1a (a1 c5C (a1 c2U (a1 c8O (a1 d2w (a1 c5B (a1 d6s a0)))))) Tryz.func141
theorem e1A:Ok0 68 b9S:=
 fo [(135,b9Q),(136,b2j),(137,a4v),(138,b6m),(139,a9P),(140,b1d),(141,b8U)] [] [0,1,2,6,7,8,32,39,44,59] [4] H68 (a1 d6p (a1 c5C (a1 c2U (a1 d6q (a1 c8O (a1 c8J (a1 d6t a0))))))) Tryz.func68
theorem d6u:Ok0 227 b6n:=
 fo [] [] [0,2] [] e1b a0 Tryz.func227
theorem d6v:Ok0 165 b8V:=
 fo [(68,b9S),(227,b6n)] [(6,.pair (.list true (.int .u8)) .unit),(7,.pair (.list true (.int .u8)) .unit)] [0,1,4,5] [2] e1c (a1 e1A (a1 d6u a0)) Tryz.func165
theorem e1B:Ok0 81 b8W:=
 fo [(160,a1b),(161,b9L),(162,b3v),(163,c1E),(164,b8T),(165,b8V)] [] [0,1,5,6,7,8,10,11,13,14] [] H81 (a1 a5P (a1 d2h (a1 c8F (a1 d5U (a1 d6f (a1 d6v a0)))))) Tryz.func81
theorem e1C:Ok0 23 b6o:=
 fo [(17,b2S),(77,c1D),(78,b7w),(79,b7x),(80,b5l),(81,b8W)] [(10,.pair QI Q53),(51,.pair QI Q51),(57,.pair QI Q51),(62,.pair QI Q51)] [0,1,2,3,9,11,12,13,15] [4,5] H23 (a1 d3U (a1 e1x (a1 e1y (a1 e1z (a1 d3V (a1 e1B a0)))))) Tryz.func23
theorem fs5:Ok0 5 b1r:=
 fo [(15,c1C),(16,c2I),(18,b5j),(23,b6o),(24,b1Z)] [] [0,1,2,3,8,10,12] [4,5] H5 (a1 e1v (a1 e1w (a1 d3K (a1 e1C (a1 d3S a0))))) Tryz.func5
end Go.Ab
namespace Go.Ab
open IntKind(wrap)
section
variable {σ β:Type} {f:σ→Option (σ ⊕ β)}
theorem b8f:∀(n m:Nat)(s:σ){b:β},j0o f n s=some b→j0o f (n+m) s=some b
 |0,_,s,b,h=>by simp[j0o]at h
 |n+1,m,s,b,h=>by
  rw[show n+1+m=n+m+1 from by omega];simp only[j0o]at h⊢
  split at h
  cases h;rename_i s' g;exact b8f n m s' h;exact h
theorem c4E{n m:Nat}{s:σ}{b b':β}(h:j0o f n s=some b)(k:j0o f m s=some b'):b=b':=by
 have a:=b8f n m s h;have g:=b8f m n s k;rw[Nat.add_comm,a]at g;exact Option.some.inj g
theorem d0V{n:Nat}{s:σ}{b:β}(h:j0o f n s=some b):v0d f s=some b:=by
 unfold v0d;have g:∃n b,j0o f n s=some b:=⟨n,b,h⟩;rw[dif_pos g];exact congrArg some (c4E g.choose_spec.choose_spec h)
theorem c4d{n:Nat}{s:σ}{b:β}(h:j0o f n s=some b):x0r f s=some b:=by
 unfold x0r;split;rename_i g hb;rw[c4E hb h];exact d0V h
theorem c4F{s:σ}(h:∀n,j0o f n s=none):x0r f s=none:=by
 unfold x0r;rw[h 400];show v0d f s=none;unfold v0d;rw[dif_neg]
 rintro⟨n,b,g⟩
 rw[h n]at g;cases g
theorem a0D{s:σ}{b:β}(h:f s=some (.inr b)):x0r f s=some b:=c4d (n:=1) (by simp[j0o,h])
theorem a0E{s s':σ}(h:f s=some (.inl s')):x0r f s=x0r f s':=by
 by_cases hx:∃n b,j0o f n s'=some b
 obtain⟨n,b,hb⟩:=hx;rw[c4d hb];exact c4d (n:=n+1) (by simp[j0o,h,hb])
 ·have g:∀n,j0o f n s'=none:=fun n=>by
   cases hn:j0o f n s' with
   |none=>rfl
   |some b=>exact absurd ⟨n,b,hn⟩ hx
  rw[c4F g];refine c4F fun n=>?_
  cases n with
  |zero=>rfl
  |succ n=>simp[j0o,h,g n]
theorem c7y(S:Nat→σ)(n:Nat){b:β}(g:∀i,i<n→f (S i)=some (.inl (S (i+1))))(h:f (S n)=some (.inr b)):∀(k:Nat),k≤n→x0r f (S (n-k))=some b
 |0,_=>a0D h
 |k+1,hk=>by
  rw[a0E (g (n-(k+1)) (by omega)),show n-(k+1)+1=n-k from by omega];exact c7y S n g h k (by omega)
theorem a0R(S:Nat→σ)(n:Nat){b:β}(g:∀i,i<n→f (S i)=some (.inl (S (i+1))))(h:f (S n)=some (.inr b)):x0r f (S 0)=some b:=by
 have:=c7y S n g h n (a34 _)
 rwa [a51]at this
end
theorem a0F{n:Int}(h:-9223372036854775808≤n∧n≤9223372036854775807):wrap .i64 n=n:=by
 simp only[wrap,IntKind.bits,IntKind.signed]
 simp
 split<;>omega
theorem a1m{n:Int}(h:0≤n∧n<18446744073709551616):wrap .u64 n=n:=by
 simp only[wrap,IntKind.bits,IntKind.signed]
 simp
 omega
theorem c4e(x y:Int):v0a x y=min x y:=by
 simp only[v0a,cond_eq_ite,dT]
 split<;>omega
theorem c7z(x y:Int):u0z x y=max x y:=by
 simp only[u0z,cond_eq_ite,dT]
 split<;>omega
theorem a4o{n:Nat}(h:n<2147483648):lim n=true:=by simp[lim,h]
section
variable {α A σ β:Type}
def a2i(g:A→α→A ⊕ β):List α→A→A ⊕ β
 | [],a=>.inl a
 |x::r,a=>match g a x with
  |.inl a'=>a2i g r a'
  |.inr b=>.inr b
def a8J(fin:A→β):A ⊕ β→β
 |.inl a=>fin a
 |.inr b=>b
theorem b7D{f:σ→Option (σ ⊕ β)}(l:List α)(S:Nat→A→σ)(g:A→α→A ⊕ β)(I:Nat→A→Prop)(e:A→β)
  (d:∀i (h:i<l.length) a,I i a→(∀a',g a l[i]=.inl a'→f (S i a)=some (.inl (S (i+1) a'))∧I (i+1) a')∧(∀b,g a l[i]=.inr b→f (S i a)=some (.inr b)))
  (c:∀a,I l.length a→f (S l.length a)=some (.inr (e a))):∀(k i:Nat)(a:A),i+k=l.length→I i a→x0r f (S i a)=some (a8J e (a2i g (l.drop i) a))
 |0,i,a,hi,ha=>by
  obtain rfl:i=l.length:=by omega
  rw[a16];exact a0D (c a ha)
 |k+1,i,a,hi,ha=>by
  have j:i<l.length:=by omega
  rw[a00 j];obtain⟨m,n⟩:=d i j a ha;simp only[a2i];cases hg:g a l[i]with
  |inl a'=>
   obtain⟨o,p⟩:=m a' hg;rw[a0E o];exact b7D l S g I e d c k (i+1) a' (by omega) p
  |inr b=>exact a0D (n b hg)
theorem a1L{f:σ→Option (σ ⊕ β)}(l:List α)(S:Nat→A→σ)(g:A→α→A ⊕ β)(I:Nat→A→Prop)(k:A→β)
  (d:∀i (h:i<l.length) a,I i a→(∀a',g a l[i]=.inl a'→f (S i a)=some (.inl (S (i+1) a'))∧I (i+1) a')∧(∀b,g a l[i]=.inr b→f (S i a)=some (.inr b)))
  (c:∀a,I l.length a→f (S l.length a)=some (.inr (k a))){a:A}(e:I 0 a):x0r f (S 0 a)=some (a8J k (a2i g l a)):=by
 have:=b7D l S g I k d c l.length 0 a (by omega) e
 rwa [a06]at this
theorem a0V{f:σ→Option (σ ⊕ β)}(l:List α)(S:Nat→σ)(p:α→Bool){bt bf:β}
  (k:∀i (h:i<l.length),p l[i]=true→f (S i)=some (.inl (S (i+1))))(c:∀i (h:i<l.length),p l[i]=false→f (S i)=some (.inr bf))
  (g:f (S l.length)=some (.inr bt)):x0r f (S 0)=some (bif l.all p then bt else bf):=by
 have h:=a1L (A:=Unit) l (fun i _=>S i) (fun _ x=>bif p x then .inl ()else .inr bf) (fun _ _=>True) (fun _=>bt) (fun i h a _=>?_) (fun _ _=>g) (a:=()) trivial
 ·rw[h];congr 1;clear h k c g
  induction l with
  |nil=>rfl
  |cons x l ih=>
   simp only[a2i,a18];cases p x with
   |true=>simpa using ih
   |false=>rfl
 ·cases hp:p l[i]with
  |true=>exact⟨fun d _=>⟨k i h hp,trivial⟩,fun b hb=>by simp[hp]at hb⟩
  |false=>exact⟨fun d e=>by simp[hp]at e,fun b hb=>by simp[hp]at hb;rw[←hb];exact c i h hp⟩
end
theorem a0A{α:Type}{l:List α}{i:Nat}(h:i<l.length):l0z l (i:Int)=some l[i]:=by
 unfold l0z;rw[if_pos (Int.natCast_nonneg i),tN,lG h]
def a0C(x:Int):Bool:=decide (-1073741824≤x)&&decide (x<1073741824)
theorem a1X{x:Int}:a0C x=true↔-1073741824≤x∧x<1073741824:=by simp[a0C]
def short{α:Type}(l:List α):Prop:=l.length<1000000
theorem a0B{i:Nat}(h:i<1000000):wrap .i64 ((i:Int)+1)=((i+1:Nat):Int):=by
 rw[a0F (by omega)];omega
theorem dlt{i n:Nat}(h:i<n):decide ((i:Int)<(n:Int))=true:=by simp;omega
theorem dge(n:Nat):decide ((n:Int)<(n:Int))=false:=by simp
theorem a3U{l:List Int}(a:short l):a2I l=some (l.all a0C):=by
 unfold a2I
 have:=a0V (f:=a2S) l (fun i=>(l,(l.length:Int),(i:Int),())) a0C (bt:=Sum.inl ()) (bf:=Sum.inr (false,()))
  (fun i h hp=>by
   have hp:=a1X.1 hp;have g:decide (l[i] < -1073741824)=false:=by simp;omega
   have k:decide (l[i]≥1073741824)=false:=by simp;omega
   simp only[a2S,dlt h,cT,a0A h,oB,g,k,cF,a0B (a07 h a)])
  (fun i h hp=>by
   simp only[a2S,dlt h,cT,a0A h,oB]
   by_cases g:l[i] < -1073741824
   simp[g];have k:l[i]≥1073741824:=by
    simp only[a0C,Bool.and_eq_false_iff,decide_eq_false_iff_not]at hp;omega
   simp[g,k])
  (by simp[a2S])
 simp only[nZ]at this;rw[this];cases l.all a0C<;>rfl
theorem a7t(x:Int):a5U x=some (a0C x):=by
 grind[a5U,a0C]
theorem a9n(x:Int):a8t x=some (a0C x):=by
 grind[a8t,a0C]
theorem a5Z(x:Int):a7h x=some (a0C x):=by
 grind[a7h,a0C]
theorem a2g(x:Int):a2A x=some (a0C x):=by
 grind[a2A,a0C]
theorem b7E(x:Int):a5S x=some (a0C x):=by
 grind[a5S,a0C]
theorem a4T{l:List Int}(g:short l):a2T l=some (l.all a0C):=by
 unfold a2T
 have:=a0V (f:=a3K) l (fun i=>(l,(l.length:Int),(i:Int),())) a0C (bt:=Sum.inl ()) (bf:=Sum.inr (false,()))
  (fun i h hp=>by simp[a3K,a0A h,a7t,hp,a0B (a07 h g),h])
  (fun i h hp=>by simp_all[a3K,a0A,a7t])
  (by simp[a3K])
 grind
theorem b6q{l:List Int}(g:short l):a5l l=some (l.all a0C):=by
 unfold a5l
 have:=a0V (f:=a4J) l (fun i=>(l,(l.length:Int),(i:Int),())) a0C (bt:=Sum.inl ()) (bf:=Sum.inr (false,()))
  (fun i h hp=>by simp[a4J,a0A h,a9n,hp,a0B (a07 h g),h])
  (fun i h hp=>by simp_all[a4J,a0A,a9n])
  (by simp[a4J])
 grind
theorem b5u{l:List Int}(g:short l):a6e l=some (l.all a0C):=by
 unfold a6e
 have:=a0V (f:=a4e) l (fun i=>(l,(l.length:Int),(i:Int),())) a0C (bt:=Sum.inl ()) (bf:=Sum.inr (false,()))
  (fun i h hp=>by simp[a4e,a0A h,a5Z,hp,a0B (a07 h g),h])
  (fun i h hp=>by simp_all[a4e,a0A,a5Z])
  (by simp[a4e])
 grind
theorem a0M{l:List Int}(g:short l):a0Q l=some (l.all a0C):=by
 unfold a0Q
 have:=a0V (f:=a6n) l (fun i=>(l,(i:Int),())) a0C (bt:=Sum.inl ()) (bf:=Sum.inr (false,()))
  (fun i h hp=>by simp[a6n,a0A h,a2g,hp,a0B (a07 h g),h])
  (fun i h hp=>by simp_all[a6n,a0A,a2g])
  (by simp[a6n])
 grind
theorem a8p{l:List Int}(h:short l):a3i l=some (l.all a0C):=by
 have e:b5R=a2S:=rfl
 have:a3i l=a2I l:=by rfl
 simp_all[a3U]
def b8g(x:Int):Bool:=decide (-32768≤x)&&decide (x<32768)
def a5R(c:List Int)(s:Int):Bool:=decide (1≤c.length)&&(decide (c.length≤32)&&(decide (0≤s)&&(decide (s≤15)&&c.all b8g)))
theorem b1j{c:List Int}{s:Int}(a:short c):a5u (c,s)=some (a5R c s):=by
 have:=a0V (f:=a6d) c (fun i=>(c,(c.length:Int),(i:Int),())) b8g (bt:=Sum.inl ()) (bf:=Sum.inr (false,()))
  (fun i h hp=>by
   simp[b8g]at hp;have g:¬ c[i] < -32768:=by omega
   have k:¬ c[i]≥32768:=by omega
   simp[a6d,a0A h,a0B (a07 h a),h,g,k])
  (fun i h hp=>by
   grind[b8g,a6d,a0A])
  (by simp[a6d])
 simp at this;unfold a5u a5R
 grind
theorem a5H{c:List Int}{s:Int}(a:short c):a3o (c,s)=some (a5R c s):=by
 have:=a0V (f:=a4j) c (fun i=>(c,s,(i:Int),())) b8g (bt:=Sum.inl (c,s,())) (bf:=Sum.inr (false,()))
  (fun i h hp=>by
   simp[b8g]at hp;have g:¬ c[i] < -32768:=by omega
   have k:¬ c[i]≥32768:=by omega
   simp[a4j,a0A h,a0B (a07 h a),h,g,k])
  (fun i h hp=>by
   grind[b8g,a4j,a0A])
  (by simp[a4j])
 simp at this;unfold a3o a5R
 grind
def c2d(x:Int):Bool:=decide (-64≤x)&&decide (x≤64)
def a7b(lag:Int)(t:List Int):Bool:=decide (2≤lag)&&(decide (lag≤1024)&&t.all c2d)
theorem b7g{t:List Int}{lag:Int}(g:t.length=3):a9z (lag,t)=some (a7b lag t):=by
 have:=a0V (f:=a8b) t (fun i=>(t,(i:Int),())) c2d (bt:=Sum.inl ()) (bf:=Sum.inr (false,()))
  (fun i h hp=>by
   simp[c2d]at hp
   grind[a8b,a0A,a0B])
  (fun i h hp=>by
   grind[c2d,a8b,a0A])
  (by simp_all[a8b])
 simp at this;unfold a9z a7b
 grind
theorem b2V{t:List Int}{lag:Int}(g:t.length=3):a5W (lag,t)=some (a7b lag t):=by
 have:=a0V (f:=a5E) t (fun i=>(lag,(i:Int),t,())) c2d (bt:=Sum.inl (lag,())) (bf:=Sum.inr (false,()))
  (fun i h hp=>by
   simp[c2d]at hp
   grind[a5E,a0A,a0B])
  (fun i h hp=>by
   grind[c2d,a5E,a0A])
  (by simp_all[a5E])
 simp at this;unfold a5W a7b
 grind
def a3u(s:Int×(Int×Unit)):Bool:=decide (1≤s.1)&&(decide (s.1≤32)&&(decide (0≤s.2.1)&&decide (s.2.1≤8)))
def a4U(l:List (Int×Int×Unit)):Bool:=decide (l.length≤3)&&l.all a3u
theorem b2W(s:Int×(Int×Unit)):a8c s=some (a3u s):=by
 grind[a8c,a3u]
theorem b2q(s:Int×(Int×Unit)):a7s s=some (a3u s):=by
 grind[a7s,a3u]
theorem b5v{l:List (Int×Int×Unit)}(g:short l):a8u l=some (a4U l):=by
 have:=a0V (f:=a7f) l (fun i=>(l,(l.length:Int),(i:Int),())) a3u (bt:=Sum.inl ()) (bf:=Sum.inr (false,()))
  (fun i h hp=>by simp[a7f,a0A h,b2W,hp,a0B (a07 h g),h])
  (fun i h hp=>by simp_all[a7f,a0A,b2W])
  (by simp[a7f])
 simp at this;unfold a8u a4U
 grind
theorem b2r{l:List (Int×Int×Unit)}(g:short l):a5r l=some (a4U l):=by
 have:=a0V (f:=a4P) l (fun i=>(l,(i:Int),())) a3u (bt:=Sum.inl (l,())) (bf:=Sum.inr (false,()))
  (fun i h hp=>by simp[a4P,a0A h,b2q,hp,a0B (a07 h g),h])
  (fun i h hp=>by simp_all[a4P,a0A,b2q])
  (by simp[a4P])
 simp at this;unfold a5r a4U;rw[this];cases l.all a3u with
 |false=>simp
 |true=>
  by_cases h:l.length≤3
  all_goals grind
@[reducible] def W(n:Int):Int:=wrap .i64 n
theorem a7A(n:Int):wrap .i64 n=Int.bmod n 18446744073709551616:=by
 grind[wrap,IntKind.bits,IntKind.signed]
theorem b6r{n:Int}(h:a0C n=true):W n=n:=by
 grind[a1X,a0F]
def a3v(guess:List Int→Int):List Int→List Int→Option (List Int)
 | [],out=>some out
 |x::r,out=>bif a0C (W (x+guess out))then a3v guess r (out++[W (x+guess out)])else none
def a8Y{β:Type}(guess:List Int→Int)(bad:β)(out:List Int)(x:Int):List Int ⊕ β:=bif a0C (W (x+guess out))then .inl (out++[W (x+guess out)])else .inr bad
theorem a7O{β:Type}(h:List Int→Int)(g:β)(f:List Int→β):∀(l out:List Int),a8J f (a2i (a8Y h g) l out)=match a3v h l out with|some r=>f r|none=>g
 | [],out=>rfl
 |x::l,out=>by
  simp[a2i,a8Y,a3v];cases a0C (W (x+h out))with
  |true=>simp_all[a7O]
  |false=>rfl
theorem b4R(g:List Int→Int):∀(l out r:List Int),out.all a0C=true→a3v g l out=some r→r.all a0C=true∧r.length=out.length+l.length
 | [],out,r,h,e=>by simp_all[a3v]
 |x::l,out,r,h,e=>by
  simp[a3v]at e;cases hw:a0C (W (x+g out))with
  |true=>
   rw[hw]at e;obtain⟨f,k⟩:=b4R g l _ r (by simp_all) e
   grind
  |false=>simp_all
def a2o:Option (List Int)→List Int×Int
 |some r=>(r,0)
 |none=>([],6)
def atB(out:List Int)(i:Nat):Int:=out.getD (out.length-i) 0
def a2V(o:Nat)(out:List Int):Int:=match o with
 | 1=>atB out 1
 | 2=>2*atB out 1-atB out 2
 | 3=>3*atB out 1-3*atB out 2+atB out 3
 | 4=>4*atB out 1-6*atB out 2+4*atB out 3-atB out 4
 |_=>0
theorem b4S{out:List Int}{i:Nat}(f:1≤i)(h:i≤out.length)(g:short out):a1p ((i:Int),out)=some (atB out i,out):=by
 unfold a1p;have g:out.length<1000000:=g
 grind[a0F,a0A,atB]
theorem c4f{out:List Int}{o:Nat}(e:o≤4)(h:o≤out.length)(a:short out):∃g,b0Z (out,(o:Int))=some g∧∀x,W (x+g)=W (x+a2V o out):=by
 have f:=fun(h':1≤out.length)=>b4S (i:=1) (by omega) h' a;have k:=fun(h':2≤out.length)=>b4S (i:=2) (by omega) h' a;have b:=fun(h':3≤out.length)=>b4S (i:=3) (by omega) h' a;have c:=fun(h':4≤out.length)=>b4S (i:=4) (by omega) h' a;simp at f k b c;unfold b0Z;have d:o=0∨o=1∨o=2∨o=3∨o=4:=by omega
 rcases d with rfl|rfl|rfl|rfl|rfl;exact⟨0,rfl,fun x=>rfl⟩;exact⟨_,by simp[f (by omega)];rfl,fun x=>rfl⟩;refine⟨_,by simp[f (by omega),k (by omega)];rfl,fun x=>?_⟩;simp_all[a7A,a2V];refine⟨_,by simp[f (by omega),k (by omega),b (by omega)];rfl,fun x=>?_⟩;simp_all[a7A,a2V];refine⟨_,by simp[f (by omega),k (by omega),b (by omega),c (by omega)];rfl,fun x=>?_⟩;simp_all[a7A,a2V]
theorem a0I{n:Nat}(h:n<1000000):lim n=true:=a4o (by omega)
theorem c4Z{warm rest:List Int}{o:Nat}(u:o≤4)(x:warm.length=o)(w:rest.length<100000):
  b1R (warm,rest,(o:Int))=some (a2o (bif warm.all a0C&&rest.all a0C then a3v (a2V o) rest warm else none)):=by
 have c:short warm:=by unfold short;omega
 have m:short rest:=by unfold short;omega
 unfold b1R;have p:¬ (o:Int)<0:=by omega
 have q:¬ (o:Int) > 4:=by omega
 have r:(((warm.length:Nat):Int) != (o:Int))=false:=by simp_all
 simp only[p,q,r,decide_false,cF,oB,a8p c,a8p m];cases hw1:warm.all a0C with
 |false=>rfl
 |true=>
  simp only[bT,cF,oB,a19];cases hw2:rest.all a0C with
  |false=>rfl
  |true=>
   simp[a0I c]
   have:=a1L (f:=a8N) rest (fun i out=>((o:Int),rest,(rest.length:Int),(i:Int),out,())) (a8Y (a2V o) (Sum.inr ((6:Int),([]:List Int),())))
    (fun i out=>o≤out.length∧out.length≤o+i) (fun out=>Sum.inl (out,()))
    (fun i h out s=>by
     have j:i<1000000:=by omega
     have l:short out:=by unfold short;omega
     obtain⟨g,t,d⟩:=c4f u s.1 l;have e:wrap .i64 (rest[i]+g)=W (rest[i]+a2V o out):=d _;have k:a3i [W (rest[i]+a2V o out)]=some (a0C (W (rest[i]+a2V o out))):=by rw[a8p (by simp[short])];simp
     simp only[a8N,dlt h,cT,a0A h,oB,t,e,k,a8Y];cases hb:a0C (W (rest[i]+a2V o out))with
     |true=>
      simp only[cT,bT,cF,a0I (show out.length+1<1000000 by omega),a0B j];refine⟨fun v n=>?_,fun b hb=>(by grind)⟩;simp at n;subst n;exact⟨rfl,by grind,by grind⟩
     |false=>
      simp)
    (fun out _=>by simp[a8N]) (a:=warm) ⟨by omega,by omega⟩
   simp[a7O]at this;rw[this];cases a3v (a2V o) rest warm<;>rfl
def b4p(o:Nat):List Int:=match o with
 | 1=>[1]
 | 2=>[2,-1]
 | 3=>[3,-3,1]
 | 4=>[4,-6,4,-1]
 |_=>[]
theorem c9B{o:Nat}(g:o≤4):b5s (o:Int)=some (b4p o):=by
 have h:o=0∨o=1∨o=2∨o=3∨o=4:=by omega
 rcases h with rfl|rfl|rfl|rfl|rfl<;>rfl
theorem c6X{o:Nat}(g:o≤4):(b4p o).length=o:=by
 have h:o=0∨o=1∨o=2∨o=3∨o=4:=by omega
 rcases h with rfl|rfl|rfl|rfl|rfl<;>rfl
def b9T(o:Nat)(out:List Int)(x:Int):Nat→Int
 |0=>x
 |k+1=>W (b9T o out x k+W ((b4p o).getD k 0*atB out (k+1)))
theorem c2V{rest out:List Int}{o:Nat}{i x:Int}(q:o≤4)(h:o≤out.length)(g:short out)(r:a0C x=true):
  x0r a4l (rest,(o:Int),b4p o,i,x,(0:Int),out,())=some (rest,(o:Int),b4p o,i,W (x+a2V o out),out,()):=by
 have g:out.length<1000000:=g
 have:=a0R (f:=a4l) (fun k=>(rest,(o:Int),b4p o,i,b9T o out x k,(k:Int),out,()))
  o (b:=(rest,(o:Int),b4p o,i,b9T o out x o,out,())) (fun k n=>by
   have a:wrap .i64 (((out.length:Nat):Int)-1)=((out.length-1:Nat):Int):=by grind[a0F]
   have c:wrap .i64 (((out.length-1:Nat):Int)-(k:Int))=((out.length-(k+1):Nat):Int):=by grind[a0F]
   have d:(0:Int)≤((out.length-(k+1):Nat):Int):=by omega
   have e:((out.length-(k+1):Nat):Int)<((out.length:Nat):Int):=by omega
   have j:k<(b4p o).length:=by simp_all[c6X]
   have l:(b4p o)[k]=(b4p o).getD k 0:=by simp_all
   simp only[a4l,dlt n,cT,a0A j,oB,a,c,d,e,decide_true,a02,tN,a0B (show k<1000000 by omega),b9T,atB,l])
  (by simp[a4l])
 simp[b9T]at this;rw[this];have p:b9T o out x o=W (x+a2V o out):=by
  have m:o=0∨o=1∨o=2∨o=3∨o=4:=by omega
  rcases m with rfl|rfl|rfl|rfl|rfl;simp_all[b9T,a2V,b6r]
  all_goals
   simp only[b9T,b4p,a2V,List.getD_cons_zero,List.getD_cons_succ,Nat.zero_add,Nat.reduceAdd,W,a7A,Int.add_bmod_bmod,a66]
   grind
 grind
theorem c2e{warm rest:List Int}{o:Nat}(m:o≤4)(u:warm.length=o)(t:rest.length<100000):
  a8V (warm,rest,(o:Int))=some (a2o (bif warm.all a0C&&rest.all a0C then a3v (a2V o) rest warm else none)):=by
 have e:short warm:=by unfold short;omega
 have d:short rest:=by unfold short;omega
 unfold a8V;have n:¬ (o:Int)<0:=by omega
 have p:¬ (o:Int) > 4:=by omega
 have q:(((warm.length:Nat):Int) != (o:Int))=false:=by simp_all
 simp only[n,p,q,decide_false,cF,oB,a0M e,a0M d];cases hw1:warm.all a0C with
 |false=>rfl
 |true=>
  simp only[bT,cF,oB,a19];cases hw2:rest.all a0C with
  |false=>rfl
  |true=>
   have k:lim (0+warm.length)=true:=a0I (by omega);simp only[bT,cF,cT,k,c9B m,oB,a05,a08]
   have:=a1L (f:=a6A) rest (fun i out=>(rest,(o:Int),b4p o,(i:Int),out,())) (a8Y (a2V o) (Sum.inr ((6:Int),([]:List Int),())))
    (fun i out=>o≤out.length∧out.length≤o+i) (fun out=>Sum.inl (out,()))
    (fun i h out r=>by
     have g:i<1000000:=by omega
     have c:short out:=by unfold short;omega
     have j:a0C rest[i]=true:=lA.1 hw2 _ (a04 h);simp only[a6A,dlt h,cT,a0A h,oB,c2V m r.1 c j,a2g,a8Y];cases hb:a0C (W (rest[i]+a2V o out))with
     |true=>
      simp only[cT,bT,cF,a0I (show out.length+1<1000000 by omega),a0B g];refine⟨fun s l=>?_,fun b hb=>(by grind)⟩;simp at l;subst l;exact⟨rfl,by grind,by grind⟩
     |false=>
      simp)
    (fun out _=>by simp[a6A]) (a:=warm) ⟨by omega,by omega⟩
   simp[a7O]at this;rw[this];cases a3v (a2V o) rest warm<;>rfl
def b9U(out:List Int):List Int→Nat→Int→Int
 | [],_,acc=>acc
 |c::r,i,acc=>bif decide (i<out.length)then b9U out r (i+1) (W (acc+W (c*atB out (i+1))))else acc
def a6N(c:List Int)(s:Int)(out:List Int):Int:=z0h .i64 (b9U out c 0 0) s
theorem c9C{out:List Int}{i:Nat}(h:i<out.length)(g:short out):l0z out (wrap .i64 (wrap .i64 (((out.length:Nat):Int)-1)-(i:Int)))=some (atB out (i+1)):=by
 have g:out.length<1000000:=g;have f:wrap .i64 (((out.length:Nat):Int)-1)=((out.length-1:Nat):Int):=by rw[a0F (by omega)];omega
 have k:wrap .i64 (((out.length-1:Nat):Int)-(i:Int))=((out.length-(i+1):Nat):Int):=by rw[a0F (by omega)];omega
 rw[f,k,a0A (show out.length-(i+1)<out.length by omega),atB,lD,lG (by omega)];rfl
theorem d0W{out:List Int}{i:Nat}(h:i<out.length)(g:out.all a0C=true):a0C (atB out (i+1))=true:=by
 rw[atB,lD,lG (show out.length-(i+1)<out.length by omega)];exact lA.1 g _ (a04 _)
theorem b9V{out c:List Int}{s:Int}(a:short out)(e:short c):∀(k i:Nat)(acc:Int),i+k=c.length→
  x0r a3L (out,s,acc,c,(c.length:Int),(i:Int),())=some (s,b9U out (c.drop i) i acc,())
 |0,i,acc,h=>by
  obtain rfl:i=c.length:=by omega
  rw[a16];exact a0D (by simp[a3L,b9U])
 |k+1,i,acc,h=>by
  have g:i<c.length:=by omega
  have l:out.length<1000000:=a;have j:c.length<1000000:=e;rw[a00 g,b9U];have b:wrap .i64 (((out.length:Nat):Int)-1)=((out.length:Nat):Int)-1:=a0F (by omega);have d:wrap .i64 (((out.length:Nat):Int)-1-(i:Int))=((out.length:Nat):Int)-1-(i:Int):=a0F (by omega)
  by_cases hi:i<out.length
  have f:decide (wrap .i64 (wrap .i64 (((out.length:Nat):Int)-1)-(i:Int))<0)=false:=by rw[b,d];simp;omega
  simp only[hi,decide_true,cT];rw[a0E (s':=(out,s,W (acc+W (c[i]*atB out (i+1))),c,(c.length:Int),((i+1:Nat):Int),())) (by
   simp only[a3L,dlt g,cT,a0A g,oB,f,cF,c9C hi a,a0B (show i<1000000 by omega)])]
  exact b9V a e k (i+1) _ (by omega);have f:decide (wrap .i64 (wrap .i64 (((out.length:Nat):Int)-1)-(i:Int))<0)=true:=by rw[b,d];simp;omega
  simp only[hi,decide_false,cF];exact a0D (by simp only[a3L,dlt g,cT,a0A g,oB,f])
theorem b8h{out c:List Int}{s:Int}(g:short out)(h:short c)(f:0≤s):a5v (out,c,s)=some (a6N c s out):=by
 have:=b9V (s:=s) g h c.length 0 0 (by omega)
 simp only[nZ,a06]at this;unfold a5v;simp only[this,oB]
 have:¬ s<0:=by omega
 simp[this,a6N]
theorem c2W{out c:List Int}{s:Int}(f:short out)(a:short c)(b:out.all a0C=true):∀(k i:Nat)(acc:Int),i+k=c.length→
  x0r a3p (out,c,s,acc,(i:Int),())=some (Sum.inl (s,b9U out (c.drop i) i acc,()))
 |0,i,acc,h=>by
  obtain rfl:i=c.length:=by omega
  rw[a16];exact a0D (by simp[a3p,b9U])
 |k+1,i,acc,h=>by
  have g:i<c.length:=by omega
  have j:out.length<1000000:=f;have d:c.length<1000000:=a;rw[a00 g,b9U]
  by_cases hi:i<out.length
  simp only[hi,decide_true,cT];rw[a0E (s':=(out,c,s,W (acc+W (c[i]*atB out (i+1))),((i+1:Nat):Int),())) (by
   simp only[a3p,dlt g,dlt hi,cT,c9C hi f,oB,a2g,d0W hi b,bT,cF,a0A g,a0B (show i<1000000 by omega)])]
  exact c2W f a b k (i+1) _ (by omega);have e:decide ((i:Int)<((out.length:Nat):Int))=false:=by simp;omega
  simp only[hi,decide_false,cF];exact a0D (by simp only[a3p,dlt g,cT,e,cF])
theorem c1H{s:Int}(h:0≤s)(g:s≤64):wrap .u64 s=s:=a1m (by omega)
theorem b3S{out c:List Int}{s:Int}(f:short out)(h:short c)(k:out.all a0C=true)(g:a5R c s=true):a4Q (out,c,s)=some (a6N c s out):=by
 have:=c2W (s:=s) f h k c.length 0 0 (by omega)
 simp only[nZ,a06]at this;unfold a4Q;simp only[a5H h,g,oB,bT,cF,this];simp only[a5R,bA,dT]at g
 have:¬ s<0:=by omega
 simp[c1H (show 0≤s by omega) (by omega),this,a6N]
def b2t(warm rest c:List Int)(s:Int):Option (List Int):=bif warm.all a0C&&rest.all a0C then a3v (a6N c s) rest warm else none
theorem b7F{warm rest c:List Int}{s:Int}(o:a5R c s=true)(w:warm.length=c.length)(v:rest.length<100000):
  a8f (warm,rest,c,s)=some (a2o (b2t warm rest c s)):=by
 have g:=o;simp only[a5R,bA,dT]at g;have k:short c:=by unfold short;omega
 have n:short warm:=by unfold short;omega
 have m:short rest:=by unfold short;omega
 unfold a8f;have r:(((warm.length:Nat):Int) != ((c.length:Nat):Int))=false:=by simp;omega
 simp only[b1j k,o,oB,bT,cF,r,a4T n,a4T m,b2t];cases hw1:warm.all a0C with
 |false=>rfl
 |true=>
  simp only[bT,cF,oB,a19];cases hw2:rest.all a0C with
  |false=>rfl
  |true=>
   have q:wrap .i64 (((warm.length:Nat):Int)+((rest.length:Nat):Int))=((warm.length+rest.length:Nat):Int):=by rw[a0F (by omega)];omega
   have t:(0:Int)≤((warm.length+rest.length:Nat):Int):=by omega
   simp only[bT,cF,cT,q,t,decide_true,tN,a0I (show warm.length+rest.length<1000000 by omega),a0I (show 0+warm.length<1000000 by omega),a02,a05,a08]
   have:=a1L (f:=a7I) rest (fun i out=>(c,s,rest,(rest.length:Int),(i:Int),out,())) (a8Y (a6N c s) (Sum.inr ((6:Int),([]:List Int),())))
    (fun i out=>out.length≤warm.length+i) (fun out=>Sum.inl (out,()))
    (fun i h out u=>by
     have j:i<1000000:=by omega
     have l:short out:=by unfold short;omega
     have e:wrap .i64 (a6N c s out+rest[i])=W (rest[i]+a6N c s out):=by rw[Int.add_comm]
     simp only[a7I,dlt h,cT,a0A h,oB,b8h l k g.2.2.1,e,a7t,a8Y];cases hb:a0C (W (rest[i]+a6N c s out))with
     |true=>
      simp only[cT,bT,cF,a0I (show out.length+1<1000000 by omega),a0B j];refine⟨fun p d=>?_,fun b hb=>(by cases hb)⟩;simp only[Sum.inl.injEq]at d;subst d;exact⟨rfl,by simp;omega⟩
     |false=>
      refine⟨fun p d=>(by cases d),fun b hb=>?_⟩;simp only[cF,Sum.inr.injEq]at hb;subst hb;rfl)
    (fun out _=>by simp[a7I]) (a:=warm) (by omega)
   simp only[nZ,a7O]at this;rw[this];cases a3v (a6N c s) rest warm<;>rfl
theorem b4C{warm rest c:List Int}{s:Int}(d:a5R c s=true)(t:warm.length=c.length)(r:rest.length<100000):
  a5F (warm,rest,c,s)=some (a2o (b2t warm rest c s)):=by
 have e:=d;simp only[a5R,bA,dT]at e;have g:short c:=by unfold short;omega
 have n:short warm:=by unfold short;omega
 have m:short rest:=by unfold short;omega
 unfold a5F;have q:(((warm.length:Nat):Int) != ((c.length:Nat):Int))=false:=by simp;omega
 simp only[a5H g,d,oB,bT,cF,q,a0M n,a0M m,b2t];cases hw1:warm.all a0C with
 |false=>rfl
 |true=>
  simp only[bT,cF,oB,a19];cases hw2:rest.all a0C with
  |false=>rfl
  |true=>
   simp only[bT,cF,cT,a0I (show 0+warm.length<1000000 by omega),a05,a08]
   have:=a1L (f:=a5O) rest (fun i out=>(rest,c,s,(i:Int),out,())) (a8Y (a6N c s) (Sum.inr ((6:Int),([]:List Int),())))
    (fun i out=>out.length≤warm.length+i∧out.all a0C=true) (fun out=>Sum.inl (out,()))
    (fun i h out o=>by
     have j:i<1000000:=by omega
     have l:short out:=by unfold short;omega
     simp only[a5O,dlt h,cT,a0A h,oB,b3S l g o.2 d,a2g,a8Y];cases hb:a0C (W (rest[i]+a6N c s out))with
     |true=>
      simp only[cT,bT,cF,a0I (show out.length+1<1000000 by omega),a0B j];refine⟨fun p k=>?_,fun b hb=>(by cases hb)⟩;simp only[Sum.inl.injEq]at k;subst k;exact⟨rfl,by simp;omega,by simp[o.2,hb]⟩
     |false=>
      refine⟨fun p k=>(by cases k),fun b hb=>?_⟩;simp only[cF,Sum.inr.injEq]at hb;subst hb;rfl)
    (fun out _=>by simp[a5O]) (a:=warm) ⟨by omega,hw1⟩
   simp only[nZ,a7O]at this;rw[this];cases a3v (a6N c s) rest warm<;>rfl
def b9W(out:List Int)(lag:Int):List Int→Nat→Int→Int
 | [],_,acc=>acc
 |t::r,i,acc=>b9W out lag r (i+1) (bif decide (0≤(out.length:Int)-lag-1+i)then W (acc+W (t*out.getD ((out.length:Int)-lag-1+i).toNat 0))else acc)
def a4w(lag:Int)(t:List Int)(out:List Int):Int:=z0h .i64 (b9W out lag t 0 0) 6
theorem b8i{out:List Int}{j:Int}(g:0≤j)(h:j<out.length):l0z out j=some (out.getD j.toNat 0):=by
 obtain⟨n,rfl⟩:=a03 g;simp_all[a0A]
theorem c7A{n i:Nat}{lag:Int}(h:2≤lag)(g:lag≤1024)(k:n<1000000)(f:i<3):
  wrap .i64 (wrap .i64 (wrap .i64 ((n:Int)-lag)-1)+(i:Int))=(n:Int)-lag-1+i:=by
 grind[a0F]
theorem c9D{l:List Int}{n j:Nat}(h:j<n):(l.take n).getD j 0=l.getD j 0:=by
 simp_all
theorem b0D{l t:List Int}{lag:Int}{n:Nat}(m:n≤l.length)(j:short l)(o:t.length=3)(a:2≤lag)(b:lag≤1024):∀(k i:Nat)(acc:Int),i+k=3→
  x0r a4K (l,(n:Int),lag,acc,t,(i:Int),())=some (b9W (l.take n) lag (t.drop i) i acc,())
 |0,i,acc,h=>by
  obtain rfl:i=t.length:=by omega
  grind[a0D,a4K,b9W]
 |k+1,i,acc,h=>by
  have g:i<t.length:=by omega
  have f:decide ((i:Int)<3)=true:=by grind
  have p:l.length<1000000:=j;have d:(l.take n).length=n:=by simp_all
  have e:=c7A (n:=n) (i:=i) a b (by omega) (by omega);rw[a00 g,b9W,d]
  by_cases hp:0≤(n:Int)-lag-1+i
  have c:decide ((n:Int)-lag-1+i≥0)=true:=by simp_all
  simp only[hp,decide_true,cT];rw[c9D (show((n:Int)-lag-1+i).toNat<n by omega),a0E (s':=(l,(n:Int),lag,W (acc+W (t[i]*l.getD ((n:Int)-lag-1+i).toNat 0)),t,((i+1:Nat):Int),())) (by
   simp only[a4K,f,cT,a0A g,oB,e,c,b8i hp (show(n:Int)-lag-1+(i:Int)<(l.length:Int)by omega),a0B (show i<1000000 by omega)])]
  exact b0D m j o a b k (i+1) _ (by omega);have c:decide ((n:Int)-lag-1+i≥0)=false:=by simp_all
  simp[hp];rw[a0E (s':=(l,(n:Int),lag,acc,t,((i+1:Nat):Int),())) (by
   simp only[a4K,f,cT,a0A g,oB,e,c,cF,a0B (show i<1000000 by omega)])]
  exact b0D m j o a b k (i+1) _ (by omega)
theorem b6s{l t:List Int}{lag:Int}{n:Nat}(f:n≤l.length)(k:short l)(a:t.length=3)(h:2≤lag)(g:lag≤1024):
  a5m (l,(n:Int),lag,t)=some (a4w lag t (l.take n)):=by
 have:=b0D (t:=t) f k a h g 3 0 0 (by rfl)
 simp_all[a5m,a4w]
theorem c2X{out t:List Int}{lag:Int}(f:short out)(k:t.length=3)(h:2≤lag)(g:lag≤1024):a5m (out,(out.length:Int),lag,t)=some (a4w lag t out):=by
 simp_all[b6s]
theorem a9o{out t:List Int}{lag:Int}(d:short out)(l:t.length=3)(a:2≤lag)(b:lag≤1024):∀(k i:Nat)(acc:Int),i+k=3→
  x0r a4i (out,lag,acc,(i:Int),t,())=some (b9W out lag (t.drop i) i acc,())
 |0,i,acc,h=>by
  obtain rfl:i=t.length:=by omega
  grind[a0D,a4i,b9W]
 |k+1,i,acc,h=>by
  have f:i<t.length:=by omega
  have g:decide ((i:Int)<3)=true:=by grind
  have j:out.length<1000000:=d;have e:=c7A (i:=i) a b j (by omega);rw[a00 f,b9W]
  by_cases hp:0≤(out.length:Int)-lag-1+i
  have c:decide ((out.length:Int)-lag-1+i≥0)=true:=by simp_all
  simp only[hp,decide_true,cT];rw[a0E (s':=(out,lag,W (acc+W (t[i]*out.getD ((out.length:Int)-lag-1+i).toNat 0)),((i+1:Nat):Int),t,())) (by
   simp only[a4i,g,cT,a0A f,oB,e,c,b8i hp (show(out.length:Int)-lag-1+(i:Int)<(out.length:Int)by omega),a0B (show i<1000000 by omega)])]
  exact a9o d l a b k (i+1) _ (by omega);have c:decide ((out.length:Int)-lag-1+i≥0)=false:=by simp_all
  simp[hp];rw[a0E (s':=(out,lag,acc,((i+1:Nat):Int),t,())) (by
   simp only[a4i,g,cT,e,c,cF,a0B (show i<1000000 by omega)])]
  exact a9o d l a b k (i+1) _ (by omega)
theorem b5w{out t:List Int}{lag:Int}(f:short out)(k:t.length=3)(h:2≤lag)(g:lag≤1024):a6t (out,lag,t)=some (a4w lag t out):=by
 have:=a9o (out:=out) (t:=t) f k h g 3 0 0 (by rfl)
 simp_all[a6t,a4w]
def b3C(rest:List Int)(lag:Int)(t:List Int):Option (List Int):=bif rest.all a0C then a3v (a4w lag t) rest []else none
theorem c5Q{rest t:List Int}{lag:Int}(d:a7b lag t=true)(e:t.length=3)(m:rest.length<100000):b3s (rest,lag,t)=some (a2o (b3C rest lag t)):=by
 have g:=d;simp only[a7b,bA,dT]at g;have k:short rest:=by unfold short;omega
 unfold b3s;simp only[b7g e,d,oB,bT,cF,b6q k,b3C];cases hw2:rest.all a0C with
 |false=>rfl
 |true=>
  have l:(0:Int)≤((rest.length:Nat):Int):=by omega
  simp[a0I k]
  have:=a1L (f:=a9C) rest (fun i out=>(lag,rest,(rest.length:Int),(i:Int),out,t,())) (a8Y (a4w lag t) (Sum.inr ((6:Int),([]:List Int),())))
   (fun i out=>out.length=i) (fun out=>Sum.inl (out,()))
   (fun i h out j=>by
    have b:i<1000000:=by omega
    have c:short out:=by unfold short;omega
    have hp:=c2X (out:=out) (t:=t) (lag:=lag) c e g.1 g.2.1;rw[j]at hp;simp only[a9C,dlt h,cT,a0A h,oB,hp,a9n,a8Y];cases hb:a0C (W (rest[i]+a4w lag t out))with
    |true=>
     simp only[cT,bT,cF,a0I (show out.length+1<1000000 by omega),a0B b];simp_all
    |false=>
     simp)
   (fun out _=>by simp[a9C]) (a:=[]) rfl
  simp[a7O]at this;rw[this];cases a3v (a4w lag t) rest []<;>rfl
theorem c2Y{rest t:List Int}{lag:Int}(d:a7b lag t=true)(e:t.length=3)(l:rest.length<100000):a9O (rest,lag,t)=some (a2o (b3C rest lag t)):=by
 have g:=d;simp only[a7b,bA,dT]at g;have c:short rest:=by unfold short;omega
 unfold a9O;simp only[b2V e,d,oB,bT,cF,a0M c,b3C];cases hw2:rest.all a0C with
 |false=>rfl
 |true=>
  simp
  have:=a1L (f:=a6Z) rest (fun i out=>(rest,lag,(i:Int),out,t,())) (a8Y (a4w lag t) (Sum.inr ((6:Int),([]:List Int),())))
   (fun i out=>out.length=i) (fun out=>Sum.inl (out,()))
   (fun i h out j=>by
    have k:i<1000000:=by omega
    have b:short out:=by unfold short;omega
    simp only[a6Z,dlt h,cT,a0A h,oB,b5w b e g.1 g.2.1,a2g,a8Y];cases hb:a0C (W (rest[i]+a4w lag t out))with
    |true=>
     simp only[cT,bT,cF,a0I (show out.length+1<1000000 by omega),a0B k];simp_all
    |false=>
     simp)
   (fun out _=>by simp[a6Z]) (a:=[]) rfl
  simp[a7O]at this;rw[this];cases a3v (a4w lag t) rest []<;>rfl
def b7G{β:Type}(n:Int)(bad:β)(out:List Int)(x:Int):List Int ⊕ β:=bif a0C x&&a0C (z0g .i64 x n)then .inl (out++[z0g .i64 x n])else .inr bad
def upO(n:Int)(l:List Int):Option (List Int):=bif l.all (fun x=>a0C x&&a0C (z0g .i64 x n))then some (l.map fun x=>z0g .i64 x n)else none
theorem b7h{β:Type}(n:Int)(h:β)(g:List Int→β):∀(l out:List Int),a8J g (a2i (b7G n h) l out)=match upO n l with|some r=>g (out++r)|none=>h
 | [],out=>by simp[a2i,a8J,upO]
 |x::l,out=>by
  simp only[a2i,b7G,upO,a18];cases hx:(a0C x&&a0C (z0g .i64 x n))with
  |true=>
   simp only[cT,a19];rw[b7h n h g l _];simp only[upO];cases l.all (fun x=>a0C x&&a0C (z0g .i64 x n))with
   |true=>simp
   |false=>rfl
  |false=>rfl
theorem c5R{l:List Int}{n:Int}(d:0≤n)(e:n≤30)(m:l.length<100000):b0Q (l,n)=some (a2o (upO n l)):=by
 have c:short l:=by unfold short;omega
 have g:¬ n<0:=by omega
 have b:¬ n > 30:=by omega
 unfold b0Q;simp[g,b]
 have:=a1L (f:=a9D) l (fun i out=>(n,l,(l.length:Int),(i:Int),out,())) (b7G n (Sum.inr ((6:Int),([]:List Int),())))
  (fun i out=>out.length=i) (fun out=>Sum.inl (out,()))
  (fun i h out j=>by
   have k:i<1000000:=by omega
   simp only[a9D,dlt h,cT,a0A h,oB,b7E,b7G,g,decide_false,cF];cases hb:a0C l[i]with
   |true=>
    cases hb2:a0C (z0g .i64 l[i] n)with
    |true=>
     simp only[cT,bT,cF,oB,g,decide_false,a0I (show out.length+1<1000000 by omega),a0B k,a02];simp_all
    |false=>
     simp
   |false=>
    simp)
  (fun out _=>by simp[a9D]) (a:=[]) rfl
 simp[b7h]at this;rw[this];cases upO n l<;>rfl
theorem c9E{l:List Int}{n:Int}(d:0≤n)(j:n≤30)(o:l.length<100000):c0X (l,n)=some (a2o (upO n l)):=by
 have e:short l:=by unfold short;omega
 have g:¬ n<0:=by omega
 have c:¬ n > 30:=by omega
 have b:=c1H d (by omega);unfold c0X;simp[g,c]
 have:=a1L (f:=b4Q) l (fun i out=>(l,n,(i:Int),out,())) (b7G n (Sum.inr ((6:Int),([]:List Int),())))
  (fun i out=>out.length=i) (fun out=>Sum.inl (out,()))
  (fun i h out m=>by
   have k:i<1000000:=by omega
   simp only[b4Q,dlt h,cT,a0A h,oB,a2g,b7G,b,g,decide_false,cF];cases hb:a0C l[i]with
   |true=>
    cases hb2:a0C (z0g .i64 l[i] n)with
    |true=>
     simp only[cT,bT,cF,oB,b,g,decide_false,a0A h,a0I (show out.length+1<1000000 by omega),a0B k,a02];simp_all
    |false=>
     simp
   |false=>
    simp)
  (fun out _=>by simp[b4Q]) (a:=[]) rfl
 simp[b7h]at this;rw[this];cases upO n l<;>rfl
@[reducible] def Fil:Type:=Int×((List Int)×((List Int)×Unit))
def a1B(x:Int):Int:=v0a (u0z x (-1073741824)) 1073741823
def c2Z(x:Int):Int:=v0a (u0z x (-1048576)) 1048576
theorem b9X(x:Int):-1073741824≤a1B x∧a1B x≤1073741823:=by
 grind[a1B,c4e,c7z]
theorem c5S(x:Int):-1048576≤c2Z x∧c2Z x≤1048576:=by
 grind[c2Z,c4e,c7z]
def c4g:List Int→List Int→Int→Int
 |a::w,b::h,acc=>c4g w h (W (acc+W (a*b)))
 |_,_,acc=>acc
def a0T(f:Fil):Int:=a1B (z0h .i64 (c4g f.2.1 f.2.2.1 0) 16)
structure FilOk (f:Fil):Prop where
 len:f.2.1.length=f.2.2.1.length
 pos:1≤f.2.1.length
 most:f.2.1.length≤32
 rate:0≤f.1∧f.1≤8
 small:∀x∈f.2.1,-1048576≤x∧x≤1048576
theorem b1s{l:List Int}{i:Nat}(h:i<l.length):a67 l i 0=l[i]:=by
 simp_all
theorem b5x{f:Fil}(c:FilOk f):∀(k i:Nat)(acc:Int),i+k=f.2.1.length→
  x0r a3J (acc,(f.2.1.length:Int),(i:Int),f,())=some (c4g (f.2.1.drop i) (f.2.2.1.drop i) acc,f,())
 |0,i,acc,h=>by
  obtain rfl:i=f.2.1.length:=by omega
  rw[a16,a0D (b:=(acc,f,())) (by simp[a3J])];rfl
 |k+1,i,acc,h=>by
  have g:i<f.2.1.length:=by omega
  have a:i<f.2.2.1.length:=by rw[←c.len];omega
  have e:=c.most;rw[a00 g,a00 a,c4g];have d:decide ((0:Int)≤(i:Int))=true:=by simp
  rw[a0E (s':=(W (acc+W (f.2.1[i]*f.2.2.1[i])),(f.2.1.length:Int),((i+1:Nat):Int),f,())) (by
   simp only[a3J,dlt g,dlt a,d,cT,a02,tN,b1s g,b1s a,a0B (show i<1000000 by omega)])]
  exact b5x c k (i+1) _ (by omega)
theorem a7u{f:Fil}(h:FilOk f):a2r f=some (a0T f,f):=by
 have:=b5x h f.2.1.length 0 0 (by omega)
 simp at this;unfold a2r;simp only[this,oB,a6f];rfl
theorem b7H{f:Fil}(c:FilOk f):∀(k i:Nat)(acc:Int),i+k=f.2.1.length→
  x0r a4u (acc,(i:Int),f,())=some (c4g (f.2.1.drop i) (f.2.2.1.drop i) acc,f,())
 |0,i,acc,h=>by
  obtain rfl:i=f.2.1.length:=by omega
  rw[a16,a0D (b:=(acc,f,())) (by simp[a4u])];rfl
 |k+1,i,acc,h=>by
  have g:i<f.2.1.length:=by omega
  have a:i<f.2.2.1.length:=by rw[←c.len];omega
  have e:=c.most;rw[a00 g,a00 a,c4g];have d:decide ((0:Int)≤(i:Int))=true:=by simp
  rw[a0E (s':=(W (acc+W (f.2.1[i]*f.2.2.1[i])),((i+1:Nat):Int),f,())) (by
   simp only[a4u,dlt g,dlt a,d,cT,a02,tN,b1s g,b1s a,a0B (show i<1000000 by omega)])]
  exact b7H c k (i+1) _ (by omega)
theorem b2u{f:Fil}(h:FilOk f):a2Z f=some (a0T f,f):=by
 have:=b7H h f.2.1.length 0 0 (by omega)
 simp at this;unfold a2Z;simp only[this,oB,b2g];rfl
def a7c(x:Int):Int:=if 0<x then 1 else if x<0 then -1 else 0
def b3D(r:Int)(x g:Int):Int:=a7c (x-g)*2^r.toNat
def b4q(st:Int)(w h:Int):Int:=c2Z (W (w+a7c h*st))
def a9Q(f:Fil)(x:Int):Fil:=
 (f.1,a23 (b4q (b3D f.1 (a1B x) (a0T f))) f.2.1 f.2.2.1,a1B x::f.2.2.1.take (f.2.2.1.length-1),f.2.2.2)
theorem b8j{f:Fil}(k:FilOk f)(x:Int):FilOk (a9Q f x):=by
 obtain⟨a,b,c,g,d⟩:=k;have e:(a23 (b4q (b3D f.1 (a1B x) (a0T f))) f.2.1 f.2.2.1).length=f.2.1.length:=by simp_all
 refine⟨?_,?_,?_,g,?_⟩;show(a23 _ _ _).length=(a1B x::f.2.2.1.take (f.2.2.1.length-1)).length;simp_all;show 1≤(a23 _ _ _).length;omega;show(a23 _ _ _).length≤32;omega;intro y h;have h:y∈a23 (b4q (b3D f.1 (a1B x) (a0T f))) f.2.1 f.2.2.1:=h;obtain⟨i,j,rfl⟩:=List.mem_iff_getElem.1 h
 simp
 exact c5S _
theorem a8y(x:Int):(0<x∧a7c x=1)∨(x<0∧a7c x=-1)∨(x=0∧a7c x=0):=by
 unfold a7c;omega
theorem c2f{r:Int}(h:0≤r∧r≤8):(2:Int)^r.toNat≤256∧1≤(2:Int)^r.toNat:=by
 have:r.toNat=0∨r.toNat=1∨r.toNat=2∨r.toNat=3∨r.toNat=4∨r.toNat=5∨r.toNat=6∨r.toNat=7∨r.toNat=8:=by omega
 rcases this with e|e|e|e|e|e|e|e|e<;>rw[e]<;>decide
theorem c4G{r:Int}(h:0≤r∧r≤8){x:Int}(g:-1≤x∧x≤1):z0g .i64 x r=x*2^r.toNat:=by
 have hp:=c2f h;have hb:min r.toNat 64=r.toNat:=by omega
 unfold z0g;show wrap .i64 (x*2^(min r.toNat 64))=_;rw[hb]
 have:x=-1∨x=0∨x=1:=by omega
 rcases this with rfl|rfl|rfl
 all_goals grind[a0F]
theorem c5a{f:Fil}(a:FilOk f)(x:Int):
  (bif decide (a1B x > a0T f)then bif decide (f.1<0)then(none:Option (Int×Int×Fil×Unit))else some (a1B x,z0g .i64 (1:Int) f.1,f,())
   else bif decide (a1B x<a0T f)then bif decide (f.1<0)then none else some (a1B x,wrap .i64 (0-(z0g .i64 (1:Int) f.1)),f,())
   else some (a1B x,(0:Int),f,()))=some (a1B x,b3D f.1 (a1B x) (a0T f),f,()):=by
 have d:¬ f.1<0:=by have:=a.rate;omega
 have hp:=c2f a.rate;have b:=c4G a.rate (x:=1) (by omega);rw[Int.one_mul]at b;rcases a8y (a1B x-a0T f)with⟨c,h⟩|⟨c,h⟩|⟨c,h⟩;have g:a1B x > a0T f:=by omega
 simp only[g,d,decide_true,decide_false,cT,cF,b3D,h,Int.one_mul,b];have g:¬ a1B x > a0T f:=by omega
 have k:a1B x<a0T f:=by omega
 simp only[g,k,d,decide_true,decide_false,cT,cF,b3D,h,b]
 grind[a0F]
 have g:¬ a1B x > a0T f:=by omega
 have k:¬ a1B x<a0T f:=by omega
 simp only[g,k,decide_false,cF,b3D,h,Int.zero_mul]
theorem c5T{l z:List Int}{i:Nat}(f:i<l.length)(k:z.length=l.length):(z.take i++l.drop i).set i (z[i]'(by omega))=z.take (i+1)++l.drop (i+1):=by
 have h:(z.take i).length=i:=by grind
 have g:z.take (i+1)=z.take i++[z[i]'(by omega)]:=by simp
 rw[a58 _ _ (by omega),h,a51,a00 f,a46,g,aA];rfl
theorem d0X{l z:List Int}{i:Nat}(h:i<l.length)(g:z.length=l.length):a67 (z.take i++l.drop i) i 0=l[i]:=by
 grind
theorem c9F{f:Fil}(g:FilOk f){i:Nat}(h:i<f.2.1.length):-1048576≤f.2.1[i]∧f.2.1[i]≤1048576:=g.small _ (a04 h)
theorem c3a{f:Fil}(n:FilOk f){x1 st:Int}(u:-256≤st∧st≤256):
  x0r a2H (x1,st,(f.2.2.1.length:Int),(0:Int),f,())=some (x1,(f.1,a23 (b4q st) f.2.1 f.2.2.1,f.2.2),()):=by
 obtain⟨z,w⟩:∃z,a23 (b4q st) f.2.1 f.2.2.1=z:=⟨_,rfl⟩;have q:=n.len;have d:z.length=f.2.1.length:=by grind
 have v:=n.most
 have:=a0R (f:=a2H) (fun i=>(x1,st,(f.2.2.1.length:Int),(i:Int),(f.1,z.take i++f.2.1.drop i,f.2.2),()))
  f.2.2.1.length (b:=(x1,(f.1,z,f.2.2),())) (fun i p=>by
   have k:i<f.2.1.length:=by omega
   have j:decide ((0:Int)≤(i:Int))=true:=by simp
   have s:(z.take i++f.2.1.drop i).length=f.2.1.length:=by grind
   have g:decide ((i:Int)<((z.take i++f.2.1.drop i).length:Int))=true:=by simp_all
   have o:z[i]'(by omega)=b4q st f.2.1[i] f.2.2.1[i]:=by grind
   have t:=c9F n k;have h:=c5T k d;rw[o]at h;simp only[a2H,dlt p,j,g,cT,a02,tN,b1s p,d0X k d];rcases a8y f.2.2.1[i]with⟨m,a⟩|⟨m,a⟩|⟨m,a⟩;have c:f.2.2.1[i] > 0:=m;simp[b4q,a]at h;simp only[c,decide_true,cT,oB,j,g,a02,tN,a0B (show i<1000000 by omega)];exact congrArg (fun l=>some (Sum.inl (x1,st,(f.2.2.1.length:Int),((i+1:Nat):Int),(f.1,l,f.2.2),()))) h;have c:¬ f.2.2.1[i] > 0:=by omega
   have e:f.2.1[i]+-1*st=f.2.1[i]-st:=by omega
   simp only[b4q,a,e]at h;simp only[c,m,decide_true,decide_false,cT,cF,oB,j,g,a02,tN,a0B (show i<1000000 by omega)];exact congrArg (fun l=>some (Sum.inl (x1,st,(f.2.2.1.length:Int),((i+1:Nat):Int),(f.1,l,f.2.2),()))) h;have c:¬ f.2.2.1[i] > 0:=by omega
   have r:¬ f.2.2.1[i]<0:=by omega
   have e:W (f.2.1[i]+0*st)=f.2.1[i]:=by rw[Int.zero_mul,Int.add_zero];exact a0F (by omega)
   simp only[b4q,a,e]at h;simp only[c,r,decide_false,cF,oB,j,g,cT,a02,tN,a0B (show i<1000000 by omega)];exact congrArg (fun l=>some (Sum.inl (x1,st,(f.2.2.1.length:Int),((i+1:Nat):Int),(f.1,l,f.2.2),()))) h)
  (by
   simp_all[a22,a2H])
 simp_all
theorem c6Y{f:Fil}(k:FilOk f)(x g:Int):-256≤b3D f.1 x g∧b3D f.1 x g≤256:=by
 have hp:=c2f k.rate;unfold b3D;rcases a8y (x-g)with⟨-,h⟩|⟨-,h⟩|⟨-,h⟩<;>rw[h]<;>omega
theorem b8X{f:Fil}(h:FilOk f)(x:Int):a3M (f,x)=some (a9Q f x):=by
 unfold a3M;have d:=c5a h x;simp only[a6f,oB,a7u h];have g:(bif decide (v0a (u0z x (-1073741824)) 1073741823 > a0T f)then bif decide (f.1<0)then(none:Option (Int×Int×Fil×Unit))else some (v0a (u0z x (-1073741824)) 1073741823,z0g .i64 (1:Int) f.1,f,())
   else bif decide (v0a (u0z x (-1073741824)) 1073741823<a0T f)then bif decide (f.1<0)then none else some (v0a (u0z x (-1073741824)) 1073741823,wrap .i64 (0-(z0g .i64 (1:Int) f.1)),f,())
   else some (v0a (u0z x (-1073741824)) 1073741823,(0:Int),f,()))=_:=d
 rw[g];simp only[oB,c3a h (c6Y h _ _)];have i:f.2.2.1.length≥1:=by have:=h.pos;have:=h.len;omega
 have b:decide ((1:Int)≤((f.2.2.1.length:Nat):Int))=true:=by grind
 have e:o0p f.2.2.1 1 (f.2.2.1.length-1) f.2.2.1=f.2.2.1.take 1++f.2.2.1.take (f.2.2.1.length-1):=by
  simp_all[o0p]
 have j:(f.2.2.1.take 1++f.2.2.1.take (f.2.2.1.length-1)).length=f.2.2.1.length:=by simp_all
 have c:decide ((0:Int)<(((f.2.2.1.take 1++f.2.2.1.take (f.2.2.1.length-1)).length:Nat):Int))=true:=by grind
 simp only[b,cT,e,c];congr 1;have k:(f.2.2.1.take 1++f.2.2.1.take (f.2.2.1.length-1)).set 0 (a1B x)=a1B x::f.2.2.1.take (f.2.2.1.length-1):=by
  cases hc:f.2.2.1 with
  |nil=>simp_all
  |cons a l=>simp
 rw[k];rfl
theorem c1I(x:Int):b2h x=some (a7c x):=by
 grind[b2h,a8y]
theorem c5b{f:Fil}(k:FilOk f){x1 s:Int}(w:-1≤s∧s≤1):
  x0r a3q (x1,s,(0:Int),([]:List Int),([]:List Int),f,())=some (x1,a23 (b4q (s*2^f.1.toNat)) f.2.1 f.2.2.1,([]:List Int),f,()):=by
 obtain⟨z,x⟩:∃z,a23 (b4q (s*2^f.1.toNat)) f.2.1 f.2.2.1=z:=⟨_,rfl⟩;have j:=k.len;have u:z.length=f.2.1.length:=by grind
 have v:=k.most;have r:=k.rate;have t:wrap .u64 f.1=f.1:=a1m (by omega);have a:¬ f.1<0:=by omega
 have:=a0R (f:=a3q) (fun i=>(x1,s,(i:Int),z.take i,([]:List Int),f,()))
  f.2.1.length (b:=(x1,z,([]:List Int),f,())) (fun i e=>by
   have h:i<f.2.2.1.length:=by omega
   have p:decide ((0:Int)≤(i:Int))=true:=by simp
   have d:z[i]'(by omega)=b4q (s*2^f.1.toNat) f.2.1[i] f.2.2.1[i]:=by grind
   have c:-1≤s*a7c f.2.2.1[i]∧s*a7c f.2.2.1[i]≤1:=by
    rcases a8y f.2.2.1[i]with⟨-,g⟩|⟨-,g⟩|⟨-,g⟩<;>rw[g]<;>omega
   have l:wrap .i64 (s*a7c f.2.2.1[i])=s*a7c f.2.2.1[i]:=a0F (by omega);have m:=c4G r c;have n:v0a (u0z (wrap .i64 (f.2.1[i]+s*a7c f.2.2.1[i]*2^f.1.toNat)) (-1048576)) 1048576=z[i]'(by omega):=by
    rw[d,show s*a7c f.2.2.1[i]*2^f.1.toNat=a7c f.2.2.1[i]*(s*2^f.1.toNat)by grind];rfl
   have o:z.take i++[z[i]'(by omega)]=z.take (i+1):=by simp
   have q:(z.take i).length+1<1000000:=by grind
   simp only[a3q,dlt e,dlt h,p,cT,a02,tN,b1s e,b1s h,c1I,oB,t,a,decide_false,cF,a0I q,l,m,n,a05,o,a0B (show i<1000000 by omega)])
  (by
   simp_all[a22,a3q])
 simp_all
theorem c5U(f:Fil):-1073741824≤a0T f∧a0T f≤1073741823:=b9X _
theorem c1J{f:Fil}(h:FilOk f)(x:Int):a4R (f,x)=some (a9Q f x):=by
 unfold a4R;have m:=b9X x;have n:=c5U f;have b:wrap .i64 (a1B x-a0T f)=a1B x-a0T f:=a0F (by omega);have l:-1≤a7c (a1B x-a0T f)∧a7c (a1B x-a0T f)≤1:=by
  rcases a8y (a1B x-a0T f)with⟨-,g⟩|⟨-,g⟩|⟨-,g⟩<;>rw[g]<;>omega
 have d:b2g x=some (a1B x):=rfl;have o:=h.most;have k:=h.len;have a:=h.pos;have c:wrap .i64 (((f.2.2.1.length:Nat):Int)-1)=((f.2.2.1.length-1:Nat):Int):=by grind[a0F]
 have e:decide ((0:Int)≤((f.2.2.1.length-1:Nat):Int))=true:=by simp
 have i:decide (((f.2.2.1.length-1:Nat):Int)≤((f.2.2.1.length:Nat):Int))=true:=by simp
 have j:([a1B x]:List Int).length+(f.2.2.1.take (f.2.2.1.length-1)).length<1000000:=by grind
 simp only[d,oB,b2u h,b,c1I,c5b h l,List.length_nil,a0I (show 0+1<1000000 by omega),cT,c,e,i,a02,tN,a06,a05,a08,a0I j];rfl
@[reducible] def Stg:Type:=Int×(Int×Unit)
theorem a7P{l:List Int}(h:short l):a1i l=some l:=by
 have g:lim (0+l.length)=true:=a0I (by unfold short at h;omega);simp_all[a1i,w0g]
def a7v(s:Stg):Fil:=(s.2.1,a01 s.1.toNat 0,a01 s.1.toNat 0,())
theorem c0Z{s:Stg}(h:a3u s=true):FilOk (a7v s):=by
 simp[a3u]at h;refine⟨by rfl,by simp[a7v];omega,by simp[a7v];omega,⟨h.2.2.1,h.2.2.2⟩,fun x g=>?_⟩;simp_all[a7v]
theorem b5y{s:Stg}(h:a3u s=true):b0L s=some (a7v s,0):=by
 have g:=h;simp[a3u]at g;unfold b0L;have f:decide ((0:Int)≤s.1)=true:=by grind
 have k:decide (s.1≤s.1)=true:=by simp
 have a:lim s.1.toNat=true:=a0I (by omega);simp only[b2W,h,oB,bT,cF,f,k,a,a02,cT];rfl
theorem a7Q{s:Stg}(h:a3u s=true):a6v s=some (a7v s,0):=by
 have g:=h;simp[a3u]at g;unfold a6v;have f:decide ((0:Int)≤s.1)=true:=by grind
 have k:decide (s.1≤s.1)=true:=by simp
 have a:lim s.1.toNat=true:=a0I (by omega);simp only[b2q,h,oB,bT,cF,f,k,a,a02,cT];rfl
def stO:List Int→List Int→Fil→Option (List Int)
 | [],done,_=>some done
 |r::rs,done,f=>bif a0C (W (a0T f+r))then stO rs (done++[W (a0T f+r)]) (a9Q f (W (a0T f+r)))else none
theorem b4T:∀(l done:List Int)(f:Fil){r},stO l done f=some r→r.length=done.length+l.length
 | [],done,f,r,h=>by simp_all[stO]
 |x::l,done,f,r,h=>by
  simp[stO]at h;cases hw:a0C (W (a0T f+x))with
  |true=>rw[hw]at h;rw[b4T l _ _ h];grind
  |false=>simp_all
theorem b1D{done row:List Int}{i:Nat}(g:done.length=i)(h:i<row.length):a67 (done++row.drop i) i 0=row[i]:=by
 grind
theorem b8k{done row:List Int}{i:Nat}(g:done.length=i)(h:i<row.length)(y:Int):(done++row.drop i).set i y=(done++[y])++row.drop (i+1):=by
 rw[a58 _ _ (by omega),g,a51,a00 h,a46,aA];rfl
theorem b6t{row b4:List Int}{b5:Int}(e:short row):∀(k i:Nat)(done:List Int)(f:Fil),i+k=row.length→done.length=i→FilOk f→
  ∃z,x0r a6i ((row.length:Int),(i:Int),b4,b5,done++row.drop i,f,())=some z∧
   match stO (row.drop i) done f with
   |some r=>z=.inl (b4,b5,r,())
   |none=>∃q,z=.inr (([]:List Int),(6:Int),q,())
 |0,i,done,f,h,hd,hf=>by
  obtain rfl:i=row.length:=by omega
  rw[a16,a43];exact⟨_,a0D (b:=Sum.inl (b4,b5,done,())) (by simp[a6i]),rfl⟩
 |k+1,i,done,f,h,hd,hf=>by
  have g:i<row.length:=by omega
  have j:row.length<1000000:=e;have c:decide ((0:Int)≤(i:Int))=true:=by simp
  have l:(done++row.drop i).length=row.length:=by grind
  have d:decide ((i:Int)<(((done++row.drop i).length:Nat):Int))=true:=by simp_all
  have a:stO (row.drop i) done f=bif a0C (W (a0T f+row[i]))then stO (row.drop (i+1)) (done++[W (a0T f+row[i])]) (a9Q f (W (a0T f+row[i])))else none:=by
   rw[a00 g];rfl
  rw[a];cases hw:a0C (W (a0T f+row[i]))with
  |true=>
   rw[a0E (s':=((row.length:Int),((i+1:Nat):Int),b4,b5,(done++[W (a0T f+row[i])])++row.drop (i+1),a9Q f (W (a0T f+row[i])),())) (by
    simp only[a6i,dlt g,c,d,cT,a02,a7u hf,oB,tN,b1D hd g,a5Z,hw,bT,cF,b8X hf,b8k hd g,a0B (show i<1000000 by omega)])]
   exact b6t e k (i+1) _ _ (by omega) (by simp_all) (b8j hf _)
  |false=>
   exact⟨_,a0D (b:=Sum.inr (([]:List Int),(6:Int),done++row.drop i,())) (by
    simp only[a6i,dlt g,c,d,cT,a02,a7u hf,oB,tN,b1D hd g,a5Z,hw,a21]),_,rfl⟩
theorem b8Y{row:List Int}{st:List Stg}{n:Int}(c:short row):∀(k i:Nat)(done:List Int)(f:Fil),i+k=row.length→done.length=i→FilOk f→
  x0r a4m (st,n,(i:Int),done++row.drop i,f,())=some (match stO (row.drop i) done f with
   |some r=>.inl (st,n,r,())
   |none=>.inr ((6:Int),([]:List Int),()))
 |0,i,done,f,h,hd,hf=>by
  obtain rfl:i=row.length:=by omega
  rw[a16,a43];have l:done.length=row.length:=hd;exact a0D (b:=Sum.inl (st,n,done,())) (by simp_all[a4m])
 |k+1,i,done,f,h,hd,hf=>by
  have g:i<row.length:=by omega
  have m:row.length<1000000:=c;have d:decide ((0:Int)≤(i:Int))=true:=by simp
  have l:(done++row.drop i).length=row.length:=by grind
  have e:decide ((i:Int)<(((done++row.drop i).length:Nat):Int))=true:=by simp_all
  have a:stO (row.drop i) done f=bif a0C (W (a0T f+row[i]))then stO (row.drop (i+1)) (done++[W (a0T f+row[i])]) (a9Q f (W (a0T f+row[i])))else none:=by
   rw[a00 g];rfl
  have j:wrap .i64 (row[i]+a0T f)=W (a0T f+row[i]):=by grind
  rw[a];cases hw:a0C (W (a0T f+row[i]))with
  |true=>
   rw[a0E (s':=(st,n,((i+1:Nat):Int),(done++[W (a0T f+row[i])])++row.drop (i+1),a9Q f (W (a0T f+row[i])),())) (by
    simp only[a4m,d,e,cT,a02,b2u hf,oB,tN,b1D hd g,j,a2g,hw,bT,cF,c1J hf,b8k hd g,a0B (show i<1000000 by omega)])]
   exact b8Y c k (i+1) _ _ (by omega) (by simp_all) (b8j hf _)
  |false=>
   exact a0D (by
    simp_all[a4m,b2u,a2g])
def lO:List Stg→List Int→Option (List Int)
 | [],row=>some row
 |s::r,row=>match stO row [] (a7v s)with
  |some row'=>lO r row'
  |none=>none
theorem c6Z{st:List Stg}{s:Stg}{k:Int}{b4:List Int}{row:List Int}(h:a3u s=true)(b:short row):
  ∃z,a8O k s (st,b4,(0:Int),row,())=some z∧match stO row [] (a7v s)with
   |some r=>z=.inl (st,b4,(0:Int),r,())
   |none=>∃q,z=.inr (.ret,st,([]:List Int),(6:Int),q,()):=by
 obtain⟨z,g,f⟩:=b6t (b4:=b4) (b5:=0) b row.length 0 [] (a7v s) (by omega) rfl (c0Z h);simp at g f;unfold a8O;have a:((0:Int) != 0)=false:=rfl;simp[b5y h,g];cases hst:stO row [] (a7v s)with
 |some r=>
  simp_all
 |none=>
  grind
theorem c1K{st l:List Stg}{b4:List Int}(f:∀s∈l,a3u s=true):∀(n:Nat)(row:List Int),n≤l.length→short row→
  ∃z,k0w a8O l n (st,b4,(0:Int),row,())=some z∧match lO (l.take n).reverse row with
   |some r=>z=.inl (st,b4,(0:Int),r,())
   |none=>∃q,z=.inr (.ret,st,([]:List Int),(6:Int),q,())
 |0,row,_,_=>⟨_,rfl,rfl⟩
 |n+1,row,hn,hs=>by
  have h:n<l.length:=by omega
  obtain⟨z,a,g⟩:=c6Z (st:=st) (k:=(n:Int)) (b4:=b4) (f _ (a04 h)) hs;have b:(l.take (n+1)).reverse=l[n]::(l.take n).reverse:=by simp
  simp[k0w,lG h,a,b,lO];cases hst:stO row [] (a7v l[n])with
  |some r=>
   rw[hst]at g;simp at g;subst g;exact c1K f n r (by omega) (by have:=b4T _ _ _ hst;unfold short at hs⊢;simp_all)
  |none=>
   grind
def b0U(rest:List Int)(st:List Stg):Option (List Int):=bif rest.all a0C then lO st.reverse rest else none
theorem c5c{rest:List Int}{st:List Stg}(a:a4U st=true)(c:rest.length<100000):b1S (rest,st)=some (a2o (b0U rest st)):=by
 have f:=a;simp only[a4U,bA,dT]at f;have k:short st:=by unfold short;omega
 have h:short rest:=by unfold short;omega
 unfold b1S;simp only[b5v k,a,oB,bT,cF,b5u h,b0U];cases hw:rest.all a0C with
 |false=>rfl
 |true=>
  obtain⟨z,b,g⟩:=c1K (st:=st) (b4:=[]) (lA.1 f.2) st.length rest (a34 _) h;rw[a20]at g;simp[a7P h,a0I k,b];cases hst:lO st.reverse rest with
  |some r=>
   rw[hst]at g;simp at g;subst g;rfl
  |none=>
   rw[hst]at g;obtain⟨q,rfl⟩:=g;rfl
theorem c3b{l:List Stg}(a:∀s∈l,a3u s=true)(g:l.length≤3):∀(n:Nat)(row:List Int),n≤l.length→short row→
  x0r a6B (l,(n:Int)-1,row,())=some (match lO (l.take n).reverse row with
   |some r=>.inl (r,())
   |none=>.inr ((6:Int),([]:List Int),()))
 |0,row,_,_=>a0D (by rfl)
 |n+1,row,hn,hs=>by
  have f:n<l.length:=by omega
  have h:=a _ (a04 f);have k:=b8Y (st:=l) (n:=(n:Int)) hs row.length 0 [] (a7v l[n]) (by omega) rfl (c0Z h);simp at k;have c:(l.take (n+1)).reverse=l[n]::(l.take n).reverse:=by simp
  have b:((n+1:Nat):Int)-1=(n:Int):=by omega
  have e:decide ((n:Int)≥0)=true:=by simp
  have d:wrap .i64 ((n:Int)-1)=(n:Int)-1:=a0F (by omega);rw[c,b];simp[lO];cases hst:stO row [] (a7v l[n])with
  |some r=>
   rw[hst]at k;rw[a0E (s':=(l,(n:Int)-1,r,())) (by simp_all[a6B,a0A,a7Q])];exact c3b a g n r (by omega) (by have:=b4T _ _ _ hst;unfold short at hs⊢;simp_all)
  |none=>
   simp_all[a0D,a6B,a0A,a7Q]
theorem c2g{rest:List Int}{st:List Stg}(a:a4U st=true)(c:rest.length<100000):a8W (rest,st)=some (a2o (b0U rest st)):=by
 have h:=a;simp only[a4U,bA,dT]at h;have f:short st:=by unfold short;omega
 have g:short rest:=by unfold short;omega
 unfold a8W;simp only[b2r f,a,oB,bT,cF,a0M g,b0U];cases hw:rest.all a0C with
 |false=>rfl
 |true=>
  have k:=c3b (lA.1 h.2) h.1 st.length rest (a34 _) g;rw[a20]at k;have b:wrap .i64 (((st.length:Nat):Int)-1)=((st.length:Nat):Int)-1:=a0F (by omega);simp only[bT,cF,cT,a0I (show 0+rest.length<1000000 by omega),b,a05,a08,k,oB];cases lO st.reverse rest<;>rfl
def a3h(n warm:Int):Bool:=decide (1≤n)&&(decide (n≤4096)&&(decide (0≤warm)&&decide (warm≤n)))
theorem b9Y(n warm:Int):b0M (n,warm)=some (a3h n warm):=by
 grind[b0M,a3h]
theorem c3c(n warm:Int):b5r (n,warm)=some (a3h n warm):=by
 grind[b5r,a3h]
theorem d0Y{o:Nat}(h:o≤8):1≤2^o∧2^o≤256:=by
 have:o=0∨o=1∨o=2∨o=3∨o=4∨o=5∨o=6∨o=7∨o=8:=by omega
 grind
theorem b8l{N o:Nat}(h:o≤64):z0h .i64 (N:Int) (o:Int)=((N / 2^o:Nat):Int):=by
 unfold z0h;show Int.fdiv (N:Int) (2^(min (o:Int).toNat 64))=_
 grind
theorem b8m{N o:Nat}(h:o≤64)(g:N*2^o<9223372036854775808):z0g .i64 (N:Int) (o:Int)=((N*2^o:Nat):Int):=by
 unfold z0g;show wrap .i64 ((N:Int)*2^(min (o:Int).toNat 64))=_
 grind[a0F]
def b2v(o N:Nat)(warm:Int):List Int:=
 if N%2^o=0∧warm≤((N / 2^o:Nat):Int)then(((N / 2^o:Nat):Int)-warm)::a01 (2^o-1) ((N / 2^o:Nat):Int)else[]
def a1u(order n warm:Int):List Int:=bif a3h n warm&&(decide (0≤order)&&decide (order≤8))then b2v order.toNat n.toNat warm else[]
theorem a3c(order n warm:Int):a4B (order,n,warm)=some (a1u order n warm):=by
 unfold a4B a1u;simp only[b9Y,oB];cases hr:a3h n warm with
 |false=>rfl
 |true=>
  simp[a3h]at hr;simp only[bT,cF,a19]
  by_cases h1:order<0
  grind
  by_cases h2:order > 8
  grind
  obtain⟨o,rfl⟩:=a03 (show 0≤order by omega);obtain⟨N,rfl⟩:=a03 (show 0≤n by omega);have p:o≤8:=by omega
  have q:N≤4096:=by omega
  have hp:=d0Y p;have m:N / 2^o*2^o≤N:=Nat.div_mul_le_self N _;have l:(0:Int)≤(o:Int):=by omega
  have g8:(o:Int)≤8:=by omega
  simp only[h1,h2,l,g8,decide_true,decide_false,cF,cT,a02,oB,b8l (N:=N) (show o≤64 by omega),b8m (N:=N / 2^o) (show o≤64 by omega) (by omega),tN];have g:=a54 N (2^o);rw[a65]at g
  by_cases hm:N%2^o=0
  have k:(((N / 2^o*2^o:Nat):Int) != (N:Int))=false:=by simp_all
  by_cases hw:warm≤((N / 2^o:Nat):Int)
  have c:decide (((N / 2^o:Nat):Int)<warm)=false:=decide_eq_false (Int.not_lt.2 hw);have e:wrap .i64 (((N / 2^o:Nat):Int)-warm)=((N / 2^o:Nat):Int)-warm:=a0F (by have:=a26 N (2^o);omega);simp only[k,c,e,cF,oB,b2v,hm,hw,and_self,if_true];have d:z0g .i64 (1:Int) (o:Int)=((2^o:Nat):Int):=by have:=b8m (N:=1) (show o≤64 by omega) (by omega);simp_all
  have:=a0R (f:=a7H) (fun i=>((o:Int),((N / 2^o:Nat):Int),(((N / 2^o:Nat):Int)-warm)::a01 i ((N / 2^o:Nat):Int),())) (2^o-1)
   (b:=((((N / 2^o:Nat):Int)-warm)::a01 (2^o-1) ((N / 2^o:Nat):Int),())) (fun i r=>by
    have a:decide ((((((N / 2^o:Nat):Int)-warm)::a01 i ((N / 2^o:Nat):Int)).length:Int)<((2^o:Nat):Int))=true:=by
     grind
    have h:lim (((((N / 2^o:Nat):Int)-warm)::a01 i ((N / 2^o:Nat):Int)).length+1)=true:=a0I (by grind);have j:a01 i ((N / 2^o:Nat):Int)++[((N / 2^o:Nat):Int)]=a01 (i+1) ((N / 2^o:Nat):Int):=by grind[a29]
    simp only[a7H,h1,decide_false,cF,d,a,cT,h,a05,a69,j])
   (by
    have a:decide ((((((N / 2^o:Nat):Int)-warm)::a01 (2^o-1) ((N / 2^o:Nat):Int)).length:Int)<((2^o:Nat):Int))=false:=by
     simp_all
    simp only[a7H,h1,decide_false,cF,d,a])
  simp_all;have c:decide (((N / 2^o:Nat):Int)<warm)=true:=decide_eq_true (Int.not_le.1 hw);simp_all[b2v];have k:(((N / 2^o*2^o:Nat):Int) != (N:Int))=true:=by grind
  simp only[k,cT,oB,b2v,hm,false_and,if_false]
theorem a2h(order n warm:Int):a3r (order,n,warm)=some (a1u order n warm):=by
 unfold a3r a1u;simp only[c3c,oB];cases hr:a3h n warm with
 |false=>rfl
 |true=>
  simp[a3h]at hr;simp only[bT,cF,a19]
  by_cases h1:order<0
  grind
  by_cases h2:order > 8
  grind
  obtain⟨o,rfl⟩:=a03 (show 0≤order by omega);obtain⟨N,rfl⟩:=a03 (show 0≤n by omega);have l:o≤8:=by omega
  have s:N≤4096:=by omega
  have hp:=d0Y l;have j:(0:Int)≤(o:Int):=by omega
  have g8:(o:Int)≤8:=by omega
  have c:wrap .u64 (o:Int)=(o:Int):=a1m (by omega);have a:z0g .i64 (1:Int) (o:Int)=((2^o:Nat):Int):=by have:=b8m (N:=1) (show o≤64 by omega) (by omega);simp_all
  have p:(((2^o:Nat):Int)==0)=false:=by grind
  have m:a63 (N:Int) ((2^o:Nat):Int)=((N%2^o:Nat):Int):=by rfl
  simp only[h1,h2,j,g8,decide_true,decide_false,cF,cT,a02,c,a,p,m,b8l (N:=N) (show o≤64 by omega),tN]
  by_cases hm:N%2^o=0
  have g:(((0:Nat):Int) != 0)=false:=rfl
  by_cases hw:warm≤((N / 2^o:Nat):Int)
  have d:decide (((N / 2^o:Nat):Int)<warm)=false:=decide_eq_false (Int.not_lt.2 hw);have r:wrap .i64 (((N / 2^o:Nat):Int)-warm)=((N / 2^o:Nat):Int)-warm:=a0F (by have:=a26 N (2^o);omega);simp only[g,d,cF,oB,b2v,hm,hw,and_self,if_true]
  have:=a0R (f:=a6y) (fun i=>((o:Int),(N:Int),warm,(i:Int),a01 i ((N / 2^o:Nat):Int),())) (2^o)
   (b:=(warm,a01 (2^o) ((N / 2^o:Nat):Int),())) (fun i t=>by
    have k:decide ((i:Int)<((2^o:Nat):Int))=true:=by grind
    have h:lim ((a01 i ((N / 2^o:Nat):Int)).length+1)=true:=a0I (by grind);have e:a01 i ((N / 2^o:Nat):Int)++[((N / 2^o:Nat):Int)]=a01 (i+1) ((N / 2^o:Nat):Int):=by grind[a29]
    simp only[a6y,c,h1,decide_false,cF,a,k,cT,h,b8l (N:=N) (show o≤64 by omega),a05,e,a0B (show i<1000000 by omega)])
   (by
    have k:decide (((2^o:Nat):Int)<((2^o:Nat):Int))=false:=by simp
    simp only[a6y,c,h1,decide_false,cF,a,k])
  simp only[nZ,List.replicate_zero]at this;have u:decide ((0:Int)<(((a01 (2^o) ((N / 2^o:Nat):Int)).length:Nat):Int))=true:=by grind
  obtain⟨q,v⟩:∃q,2^o=q+1:=⟨2^o-1,by omega⟩
  grind
  have d:decide (((N / 2^o:Nat):Int)<warm)=true:=decide_eq_true (Int.not_le.1 hw);simp_all[b2v];have g:(((N%2^o:Nat):Int) != 0)=true:=by grind
  simp only[g,cT,oB,b2v,hm,false_and,if_false]
@[reducible] def Prt:Type:=Int×((List Int)×Unit)
def kB(k:Int):Bool:=(decide (0≤k)&&decide (k≤25)) || (k==31)
def a3d(p:Prt)(n warm:Int):Bool:=!((a1u p.1 n warm).length==0)&&((a1u p.1 n warm).length==p.2.1.length&&p.2.1.all kB)
theorem b2w{p:Prt}{n warm:Int}(g:short p.2.1):b0O (p,n,warm)=some (a3d p n warm):=by
 have:=a0V (f:=a5n) p.2.1 (fun i=>(p.2.1,(p.2.1.length:Int),(i:Int),())) kB (bt:=Sum.inl ()) (bf:=Sum.inr (false,()))
  (fun i h hp=>by
   simp[kB]at hp
   by_cases h1:p.2.1[i]<0
   omega
   by_cases h2:p.2.1[i] > 25
   have b:p.2.1[i]=31:=by omega
   have a:(p.2.1[i] != 31)=false:=by simp_all
   simp[a5n,a0A h,h,h1,h2,a,a0B (a07 h g)];simp[a5n,a0A h,h,h1,h2,a0B (a07 h g)])
  (fun i h hp=>by
   have hp:¬ (kB p.2.1[i]=true):=by simp_all
   simp only[kB,a55,bA,dT,beq_iff_eq]at hp
   grind[a5n,a0A])
  (by simp[a5n])
 simp at this;unfold b0O a3d;simp[a3c]
 by_cases h0:(a1u p.1 n warm).length=0
 simp_all
 ·have e:((((a1u p.1 n warm).length:Nat):Int)==0)=false:=by simp_all
  have k:((a1u p.1 n warm).length==0)=false:=by simp_all
  simp[e,k]
  by_cases h1:(a1u p.1 n warm).length=p.2.1.length
  all_goals grind
theorem a6G{p:Prt}{n warm:Int}(a:short p.2.1):a5X (p,n,warm)=some (a3d p n warm):=by
 have g:∀k:Int,a3a k=some (decide (0≤k)&&decide (k≤25)):=fun k=>by
  grind[a3a]
 have:=a0V (f:=a3S) p.2.1 (fun i=>((i:Int),p,())) kB (bt:=Sum.inl ()) (bf:=Sum.inr (false,()))
  (fun i h hp=>by
   simp only[kB,a55]at hp;cases hc:(decide (0≤p.2.1[i])&&decide (p.2.1[i]≤25))with
   |true=>simp[a3S,a0A h,h,g,hc,a0B (a07 h a)]
   |false=>
    have d:p.2.1[i]=31:=by simp_all
    have c:(p.2.1[i] != 31)=false:=by simp_all
    simp[a3S,a0A h,h,g,hc,c,a0B (a07 h a)])
  (fun i h hp=>by
   grind[kB,a3S,a0A])
  (by simp[a3S])
 simp at this;unfold a5X a3d;simp[a2h]
 by_cases h0:(a1u p.1 n warm).length=0
 simp_all
 ·have e:((((a1u p.1 n warm).length:Nat):Int)==0)=false:=by simp_all
  have b:((a1u p.1 n warm).length==0)=false:=by simp_all
  simp[e,b]
  by_cases h1:(a1u p.1 n warm).length=p.2.1.length
  all_goals grind
@[reducible] def Sub:Type:=Int×(Int×(Int×(Int×(Int×((List Int)×((List Int)×((List Stg)×((List Int)×(Prt×((List Int)×Unit))))))))))
structure SmallS (s:Sub):Prop where
 coefs:s.2.2.2.2.2.1.length≤40
 taps:s.2.2.2.2.2.2.1.length=3
 stages:s.2.2.2.2.2.2.2.1.length≤6
 warm:s.2.2.2.2.2.2.2.2.1.length≤5000
 rest:s.2.2.2.2.2.2.2.2.2.2.1.length≤5000
 ks:s.2.2.2.2.2.2.2.2.2.1.2.1.length≤300
theorem b2X(x y:List Int):eqT (.arr 3 (.int .i64)) x y=decide (x=y):=by
 show((a23 (fun(a b:Int)=>a==b) x y).all id&&x.length==y.length)=_
 induction x generalizing y with
 |nil=>cases y<;>simp
 |cons a x ih=>
  cases y with
  |nil=>simp
  |cons b y=>
   grind[List.zipWith_cons_cons]
theorem b8n{l:List Int}(h:short l):a4A l=some l:=a7P h
theorem c1L{l:List Stg}(h:short l):a1D l=some l:=by
 have g:lim (0+l.length)=true:=a0I (by unfold short at h;omega);simp_all[a1D,w0g]
def a2W(k:Int)(s:Sub)(n:Int):Prop:=
 k=0∨k=1∨(k=2∧0≤s.2.2.1∧s.2.2.1≤4∧s.2.2.1≤n)∨(k=3∧a5R s.2.2.2.2.2.1 s.2.2.2.1=true∧(s.2.2.2.2.2.1.length:Int)≤n)∨
  (k=4∧a5R s.2.2.2.2.2.1 s.2.2.2.1=true∧(s.2.2.2.2.2.1.length:Int)≤n∧a7b s.2.2.2.2.1 s.2.2.2.2.2.2.1=true)∨
  (k=5∧0<s.2.2.2.2.2.2.2.1.length∧a4U s.2.2.2.2.2.2.2.1=true)
open Classical in
def b7i (k:Int) (s:Sub) (n:Int):Bool:=decide (a2W k s n)
theorem b9Z{s:Sub}(h:SmallS s)(k n:Int):b3O (k,s,n)=some (b7i k s n):=by
 have a:short s.2.2.2.2.2.1:=by have:=h.coefs;unfold short;omega
 have b:short s.2.2.2.2.2.2.2.1:=by have:=h.stages;unfold short;omega
 unfold b3O b7i a2W
 by_cases k0:k=0
 simp_all
 by_cases k1:k=1
 simp_all;have g:(k==0)=false:=by grind
 have f:(k==1)=false:=by grind
 simp only[g,f,cF,oB]
 by_cases k2:k=2
 subst k2
 grind
 by_cases k3:k=3
 subst k3
 grind[b1j]
 by_cases k4:k=4
 subst k4;cases hl:a5R s.2.2.2.2.2.1 s.2.2.2.1<;>by_cases h2:(s.2.2.2.2.2.1.length:Int)≤n<;>simp[b1j a,b7g h.taps,hl,h2]
 by_cases k5:k=5
 ·subst k5
  by_cases h1:0<s.2.2.2.2.2.2.2.1.length
  all_goals simp_all[b5v]
 grind
def a0Y(s:Sub)(n:Int):Int:=if s.1=0 then 1 else if s.1=1 then n else if s.1=2 then s.2.2.1 else if s.1=3∨s.1=4 then(s.2.2.2.2.2.1.length:Int)else 0
theorem b6u(s:Sub)(n:Int):a9e (s,n)=some (a0Y s n):=by
 grind[a9e,a0Y]
def b3T(s:Sub):Prop:=
 (s.1≠2→s.2.2.1=0)∧(s.1≠3∧s.1≠4→s.2.2.2.1=0)∧(s.1≠4→s.2.2.2.2.1=0)∧(s.1≠4→s.2.2.2.2.2.2.1=[0,0,0])∧(s.1≠3∧s.1≠4→s.2.2.2.2.2.1=[])∧(s.1≠5→s.2.2.2.2.2.2.2.1=[])
open Classical in
def b7I (s:Sub):Bool:=decide (b3T s)
theorem b1t{c x:Bool}:(bif c then some x else some false)=some (c&&x):=by grind
theorem d3W{α:Type}(l:List α):(((l.length:Nat):Int)==0)=decide (l=[]):=by
 cases l with
 |nil=>rfl
 |cons a l=>rfl
theorem c4h(x:Int):(x==0)=decide (x=0):=rfl
theorem c5V{s:Sub}(h:SmallS s):b3r s=some (b7I s):=by
 have e:short s.2.2.2.2.2.1:=by have:=h.coefs;unfold short;omega
 have g:short s.2.2.2.2.2.2.2.1:=by have:=h.stages;unfold short;omega
 obtain⟨k,w,o,sh,lag,c,t,st,j,p,r,u⟩:=s;simp only at e g;unfold b3r a7g b7I b3T;have i:(a01 3 (0:Int))=[0,0,0]:=rfl
 by_cases k2:k=2
 simp_all[b2X,b1t,c4h]
 by_cases k4:k=4
 simp_all[b2X,b1t,c4h,b8n]
 by_cases k3:k=3
 simp_all[b2X,b1t,c4h,b8n]
 by_cases k5:k=5
 simp_all[b2X,b1t,c4h,c1L];have f:(k==2)=false:=by grind
 have a:(k==3)=false:=by grind
 have b:(k==4)=false:=by grind
 have d:(k==5)=false:=by grind
 simp[f,a,b,d,k2,k3,k4,k5,b2X,i,b1t,d3W,c4h]
theorem a9p(k:Int):a9g k=some (decide (k≠0∧k≠1)):=by
 unfold a9g
 by_cases h0:k=0
 simp_all
 ·by_cases h1:k=1
  all_goals grind
def a1y(s:Sub)(n:Int):Prop:=
 1≤n∧n≤4096∧a2W s.1 s n∧b3T s∧0≤s.2.1∧s.2.1≤30∧(s.1=0→s.2.1=0)∧(s.2.2.2.2.2.2.2.2.1.length:Int)=a0Y s n∧s.2.2.2.2.2.2.2.2.1.all a0C=true∧s.2.2.2.2.2.2.2.2.2.2.1.all a0C=true∧
  (s.1=0∨s.1=1→s.2.2.2.2.2.2.2.2.2.2.1=[]∧s.2.2.2.2.2.2.2.2.2.1.1=0∧s.2.2.2.2.2.2.2.2.2.1.2.1=[])∧
  (s.1≠0∧s.1≠1→(s.2.2.2.2.2.2.2.2.2.2.1.length:Int)=n-a0Y s n∧a3d s.2.2.2.2.2.2.2.2.2.1 n (a0Y s n)=true)
theorem b7j{s:Sub}(h:SmallS s){n:Int}(a:1≤n)(b:n≤4096)(f:a2W s.1 s n):0≤a0Y s n∧a0Y s n≤4096:=by
 have c:=h.coefs;unfold a0Y;rcases f with k|k|⟨k,g⟩|⟨k,g⟩|⟨k,g⟩|⟨k,g⟩<;>simp[k]<;>omega
open Classical in
theorem c9G {s:Sub} (h:SmallS s) (n:Int):b1Q (s,n)=some (decide (a1y s n)):=by
 have hw:short s.2.2.2.2.2.2.2.2.1:=by have:=h.warm;unfold short;omega
 have hr:short s.2.2.2.2.2.2.2.2.2.2.1:=by have:=h.rest;unfold short;omega
 have hk:short s.2.2.2.2.2.2.2.2.2.1.2.1:=by have:=h.ks;unfold short;omega
 unfold b1Q
 by_cases h1:1≤n
 rotate_left
 ·have e1:decide (n<1)=true:=by simp_all
  have:¬ a1y s n:=fun hp=>h1 hp.1
  simp_all
 have e1:decide (n<1)=false:=by simp_all
 by_cases h2:n≤4096
 rotate_left
 ·have e2:decide (n > 4096)=true:=by simp_all
  have:¬ a1y s n:=fun hp=>h2 hp.2.1
  simp_all
 have e2:decide (n > 4096)=false:=by simp_all
 by_cases h3:a2W s.1 s n
 rotate_left
 ·have e3:b7i s.1 s n=false:=by simp[b7i,h3]
  have:¬ a1y s n:=fun hp=>h3 hp.2.2.1
  simp_all[b9Z]
 have e3:b7i s.1 s n=true:=by simp[b7i,h3]
 by_cases h4:b3T s
 rotate_left
 ·have e4:b7I s=false:=by simp[b7I,h4]
  have:¬ a1y s n:=fun hp=>h4 hp.2.2.2.1
  simp_all[b9Z,c5V]
 have e4:b7I s=true:=by simp[b7I,h4]
 simp only[e1,e2,b9Z h,e3,c5V h,e4,cF,bT,oB]
 by_cases h5:0≤s.2.1
 rotate_left
 ·have e5:decide (s.2.1<0)=true:=by simp_all
  have:¬ a1y s n:=fun hp=>h5 hp.2.2.2.2.1
  simp_all
 have e5:decide (s.2.1<0)=false:=by simp_all
 by_cases h6:s.2.1≤30
 rotate_left
 ·have e6:decide (s.2.1 > 30)=true:=by simp_all
  have:¬ a1y s n:=fun hp=>h6 hp.2.2.2.2.2.1
  simp_all
 have e6:decide (s.2.1 > 30)=false:=by simp_all
 simp only[e5,e6,cF]
 by_cases h7:s.1=0→s.2.1=0
 rotate_left
 ·have h7a:s.1=0:=Classical.byContradiction fun hc=>h7 fun e=>absurd e hc
  have h7b:(s.2.1 != 0)=true:=by
   simp_all
  have e7:(s.1==0)=true:=by simp_all
  have:¬ a1y s n:=fun hp=>h7 hp.2.2.2.2.2.2.1
  grind
 have e7:(bif s.1==0 then some (n,(s.2.1 != 0,(s,())))else some (n,(false,(s,()))))=some (n,(false,(s,()))):=by
  grind
 simp only[e7,oB,cF,b6u]
 by_cases h8:(s.2.2.2.2.2.2.2.2.1.length:Int)=a0Y s n
 rotate_left
 ·have e8:(((s.2.2.2.2.2.2.2.2.1.length:Nat):Int) != a0Y s n)=true:=by simp_all
  have:¬ a1y s n:=fun hp=>h8 hp.2.2.2.2.2.2.2.1
  grind
 have e8:(((s.2.2.2.2.2.2.2.2.1.length:Nat):Int) != a0Y s n)=false:=by simp_all
 simp only[e8,cF,a3U hw,a3U hr,oB]
 cases h9:s.2.2.2.2.2.2.2.2.1.all a0C with
 |false=>
  have:¬ a1y s n:=fun hp=>by rw[hp.2.2.2.2.2.2.2.2.1]at h9;grind
  simp_all
 |true=>
  cases h10:s.2.2.2.2.2.2.2.2.2.2.1.all a0C with
  |false=>
   have:¬ a1y s n:=fun hp=>by rw[hp.2.2.2.2.2.2.2.2.2.1]at h10;grind
   simp_all
  |true=>
   simp only[bT,cF,oB,a9p]
   have hwr:=b7j h h1 h2 h3
   by_cases k01:s.1≠0∧s.1≠1
   ·have e11:wrap .i64 (n-a0Y s n)=n-a0Y s n:=a0F (by omega)
    simp[k01,e11,b2w hk]
    by_cases h11:(s.2.2.2.2.2.2.2.2.2.2.1.length:Int)=n-a0Y s n
    ·have e12:(((s.2.2.2.2.2.2.2.2.2.2.1.length:Nat):Int)==n-a0Y s n)=true:=by simp_all
     simp only[e12,cT]
     congr 1
     rw[a56,dT]
     constructor
     ·intro hp
      exact⟨h1,h2,h3,h4,h5,h6,h7,h8,h9,h10,fun hc=>absurd hc (by omega),fun _=>⟨h11,hp⟩⟩
     ·intro hp;exact(hp.2.2.2.2.2.2.2.2.2.2.2 k01).2
    ·have e12:(((s.2.2.2.2.2.2.2.2.2.2.1.length:Nat):Int)==n-a0Y s n)=false:=by simp_all
     have:¬ a1y s n:=fun hp=>h11 (hp.2.2.2.2.2.2.2.2.2.2.2 k01).1
     grind
   ·have k01':s.1=0∨s.1=1:=by omega
    simp[k01,d3W]
    simp only[c4h,b1t]
    congr 1
    rw[a56,dT]
    simp
    constructor
    ·rintro⟨g1,g2,g3⟩
     exact⟨h1,h2,h3,h4,h5,h6,h7,h8,h9,h10,fun _=>⟨g1,g2,g3⟩,fun hc=>absurd hc k01⟩
    ·intro hp;exact hp.2.2.2.2.2.2.2.2.2.2.1 k01'
theorem b8o{α:Type}[DecidableEq α](q:α→α→Bool)(g:∀a b,q a b=decide (a=b)):∀(x y:List α),x.length=y.length→((x.zip y).all fun p=>q p.1 p.2)=decide (x=y)
 | [],[],_=>by simp
 |a::x,b::y,h=>by
  have f:=b8o q g x y (by simpa using h);simp only[List.zip_cons_cons,a18];rw[f,g]
  by_cases h1:a=b<;>by_cases h2:x=y<;>simp[h1,h2]
theorem b3E{x y:List Int}(h:short x):a4E (x,y)=some (decide (x=y)):=by
 unfold a4E
 by_cases hl:x.length=y.length
 have e:(((x.length:Nat):Int) != ((y.length:Nat):Int))=false:=by rw[hl];simp
 have l:(x.zip y).length=x.length:=by rw[a74];omega
 have:=a0V (f:=a5A) (x.zip y) (fun i=>(x,y,(i:Int),())) (fun p=>p.1==p.2) (bt:=Sum.inl ()) (bf:=Sum.inr (false,()))
  (fun i j hp=>by
   have k:i<x.length:=by omega
   have c:i<y.length:=by omega
   rw[a42]at hp;have hp:x[i]=y[i]:=by simpa using hp
   have g:(x[i] != y[i])=false:=by rw[hp];simp
   simp only[a5A,dlt k,cT,a0A k,a0A c,oB,g,cF,a0B (a07 k h)])
  (fun i j hp=>by
   have k:i<x.length:=by omega
   have c:i<y.length:=by omega
   rw[a42]at hp;have g:(x[i] != y[i])=true:=by simpa using hp
   simp only[a5A,dlt k,cT,a0A k,a0A c,oB,g])
  (by rw[l];simp[a5A])
 simp only[nZ]at this;simp only[e,cF,this,b8o (fun(a b:Int)=>a==b) (fun _ _=>rfl) x y hl];cases decide (x=y)<;>rfl;have e:(((x.length:Nat):Int) != ((y.length:Nat):Int))=true:=by simp only[bne_iff_ne,ne_eq];omega
 have:¬ x=y:=fun d=>hl (by rw[d])
 simp only[e,cT,this,decide_false]
theorem c5d{x y:List Stg}(h:short x):a7J (x,y)=some (decide (x=y)):=by
 have c:∀a b:Stg,eqT (.pair (.int .i64) (.pair (.int .i64) .unit)) a b=decide (a=b):=by
  rintro⟨a1,a2,⟨⟩⟩ ⟨b1,b2,⟨⟩⟩
  show((a1==b1)&&((a2==b2)&&true))=_
  by_cases g:a1=b1<;>by_cases k:a2=b2<;>simp[g,k]
 unfold a7J
 by_cases hl:x.length=y.length
 have e:(((x.length:Nat):Int) != ((y.length:Nat):Int))=false:=by rw[hl];simp
 have l:(x.zip y).length=x.length:=by rw[a74];omega
 have:=a0V (f:=a3N) (x.zip y) (fun i=>(x,y,(i:Int),())) (fun p=>decide (p.1=p.2)) (bt:=Sum.inl ()) (bf:=Sum.inr (false,()))
  (fun i j hp=>by
   have g:i<x.length:=by omega
   have k:i<y.length:=by omega
   rw[a42]at hp;simp only[a3N,dlt g,cT,a0A g,a0A k,oB,c,hp,bT,cF,a0B (a07 g h)])
  (fun i j hp=>by
   have g:i<x.length:=by omega
   have k:i<y.length:=by omega
   rw[a42]at hp;simp only[a3N,dlt g,cT,a0A g,a0A k,oB,c,hp,a21])
  (by rw[l];simp[a3N])
 simp only[nZ]at this;simp only[e,cF,this,b8o (fun(a b:Stg)=>decide (a=b)) (fun _ _=>rfl) x y hl];cases decide (x=y)<;>rfl;have e:(((x.length:Nat):Int) != ((y.length:Nat):Int))=true:=by simp only[bne_iff_ne,ne_eq];omega
 have:¬ x=y:=fun d=>hl (by rw[d])
 simp only[e,cT,this,decide_false]
open Classical in
theorem c3d {a b:Sub} (h:SmallS a):a8l (a,b)=some (decide (a=b)):=by
 have hc:short a.2.2.2.2.2.1:=by have:=h.coefs;unfold short;omega
 have hst:short a.2.2.2.2.2.2.2.1:=by have:=h.stages;unfold short;omega
 have hw:short a.2.2.2.2.2.2.2.2.1:=by have:=h.warm;unfold short;omega
 have hr:short a.2.2.2.2.2.2.2.2.2.2.1:=by have:=h.rest;unfold short;omega
 have hk:short a.2.2.2.2.2.2.2.2.2.1.2.1:=by have:=h.ks;unfold short;omega
 unfold a8l b2R
 simp only[b3E hc,b3E hw,b3E hr,b3E hk,c5d hst,b2X,oB,b1t]
 congr 1
 obtain⟨k,w,o,sh,lag,c,t,st,wm,⟨po,ks,⟨⟩⟩,r,⟨⟩⟩:=a
 obtain⟨k',w',o',sh',lag',c',t',st',wm',⟨po',ks',⟨⟩⟩,r',⟨⟩⟩:=b
 rw[a56]
 simp only[bA,dT,beq_iff_eq,pJ,and_true,and_assoc]
def b5z(s:Sub):Sub:=
 let z:List Int:=a01 3 0
 if s.1=0 then(0,0,0,0,0,[],z,[],s.2.2.2.2.2.2.2.2.1,(0,[],()),[],())
 else if s.1=1 then(1,s.2.1,0,0,0,[],z,[],s.2.2.2.2.2.2.2.2.1,(0,[],()),[],())
 else if s.1=2 then(2,s.2.1,s.2.2.1,0,0,[],z,[],s.2.2.2.2.2.2.2.2.1,s.2.2.2.2.2.2.2.2.2.1,s.2.2.2.2.2.2.2.2.2.2.1,())
 else if s.1=3 then(3,s.2.1,0,s.2.2.2.1,0,s.2.2.2.2.2.1,z,[],s.2.2.2.2.2.2.2.2.1,s.2.2.2.2.2.2.2.2.2.1,s.2.2.2.2.2.2.2.2.2.2.1,())
 else if s.1=4 then(4,s.2.1,0,s.2.2.2.1,s.2.2.2.2.1,s.2.2.2.2.2.1,s.2.2.2.2.2.2.1,[],s.2.2.2.2.2.2.2.2.1,s.2.2.2.2.2.2.2.2.2.1,s.2.2.2.2.2.2.2.2.2.2.1,())
 else if s.1=5 then(5,s.2.1,0,0,0,[],z,s.2.2.2.2.2.2.2.1,[],s.2.2.2.2.2.2.2.2.2.1,s.2.2.2.2.2.2.2.2.2.2.1,())
 else(s.1,s.2.1,0,0,0,[],z,[],s.2.2.2.2.2.2.2.2.1,s.2.2.2.2.2.2.2.2.2.1,s.2.2.2.2.2.2.2.2.2.2.1,())
theorem d0Z(s:Sub):b3A s=some (b5z s):=by
 obtain⟨k,w,o,sh,lag,c,t,st,e,p,r,u⟩:=s;unfold b3A b5z
 by_cases k0:k=0
 subst k0;rfl
 by_cases k1:k=1
 subst k1;rfl
 by_cases k2:k=2
 subst k2;rfl
 by_cases k3:k=3
 subst k3;rfl
 by_cases k4:k=4
 subst k4;rfl
 by_cases k5:k=5
 subst k5;rfl;have h:(k==0)=false:=by simp[k0]
 have g:(k==1)=false:=by simp[k1]
 have f:(k==2)=false:=by simp[k2]
 have a:(k==3)=false:=by simp[k3]
 have b:(k==4)=false:=by simp[k4]
 have d:(k==5)=false:=by simp[k5]
 simp only[h,g,f,a,b,d,cF,oB,k0,k1,k2,k3,k4,k5,if_false]
open Classical in
def b0V (s:Sub) (n:Int):Int:=if a2W s.1 s n then a0Y s n else -1
theorem c2h{s:Sub}(h:SmallS s)(n:Int):b0T (s,n)=some (b0V s n):=by
 have f:short s.2.2.2.2.2.1:=by have:=h.coefs;unfold short;omega
 have g:short s.2.2.2.2.2.2.2.1:=by have:=h.stages;unfold short;omega
 have a:=h.taps;obtain⟨k,w,o,sh,lag,c,t,st,m,p,r,u⟩:=s;simp only at f g a;unfold b0T b0V a0Y a2W
 by_cases k0:k=0
 subst k0;simp
 by_cases k1:k=1
 subst k1;simp
 by_cases k2:k=2
 subst k2
 by_cases h1:0≤o<;>by_cases h2:o≤4<;>by_cases h3:o≤n<;>simp[h1,h2,h3]
 by_cases k3:k=3
 subst k3;cases hl:a5R c sh<;>by_cases h2:(c.length:Int)≤n<;>simp[a5H f,hl,h2]
 by_cases k4:k=4
 subst k4;cases hl:a5R c sh<;>by_cases h2:(c.length:Int)≤n<;>cases h3:a7b lag t<;>simp[a5H f,b2V a,hl,h2,h3]
 by_cases k5:k=5
 subst k5
 by_cases h1:0<st.length<;>cases h2:a4U st<;>simp[b2r g,h1,h2]
 have b:(k==0)=false:=by simp[k0]
 have d:(k==1)=false:=by simp[k1]
 have e:(k==2)=false:=by simp[k2]
 have i:(k==3)=false:=by simp[k3]
 have j:(k==4)=false:=by simp[k4]
 have l:(k==5)=false:=by simp[k5]
 simp[k0,k1,k2,k3,k4,k5,b,d,e,i,j,l]
theorem a6H(k:Int):a4F k=some (decide (2≤k∧k≤5)):=by
 unfold a4F
 by_cases h1:2≤k<;>by_cases h2:k≤5<;>simp[h1,h2]
def c8P(s:Sub)(n:Int):Prop:=
 1≤n∧n≤4096∧0≤s.1∧s.1≤5∧s=b5z s∧0≤s.2.1∧s.2.1≤30∧a2W s.1 s n∧(s.2.2.2.2.2.2.2.2.1.length:Int)=a0Y s n∧s.2.2.2.2.2.2.2.2.1.all a0C=true∧s.2.2.2.2.2.2.2.2.2.2.1.all a0C=true∧
  (2≤s.1∧s.1≤5→(s.2.2.2.2.2.2.2.2.2.2.1.length:Int)=n-a0Y s n∧a3d s.2.2.2.2.2.2.2.2.2.1 n (a0Y s n)=true)
theorem b3U{k:Int}{s:Sub}{n:Int}(h:a2W k s n):k=0∨k=1∨k=2∨k=3∨k=4∨k=5:=by
 unfold a2W at h;omega
theorem c7a(s:Sub)(n:Int):a1y s n↔c8P s n:=by
 have b:a2W s.1 s n→((b3T s∧(s.1=0→s.2.1=0)∧(s.2.2.2.2.2.2.2.2.1.length:Int)=a0Y s n∧(s.1=0∨s.1=1→s.2.2.2.2.2.2.2.2.2.2.1=[]∧s.2.2.2.2.2.2.2.2.2.1.1=0∧s.2.2.2.2.2.2.2.2.2.1.2.1=[]))↔
   (s=b5z s∧(s.2.2.2.2.2.2.2.2.1.length:Int)=a0Y s n)):=by
  intro z;have B:(a01 3 (0:Int))=[0,0,0]:=rfl;obtain⟨k,w,o,sh,lag,c,t,st,wm,⟨po,ks,⟨⟩⟩,r,⟨⟩⟩:=s;rcases b3U z with k0|k0|k0|k0|k0|k0<;>simp only at k0<;>subst k0<;>simp[b3T,b5z,a0Y,B]<;>(try constructor)<;>(try intros)<;>(try simp_all)<;>(try exact and_left_comm)<;>(try exact and_comm)
 unfold a1y c8P;constructor
 rintro⟨j,l,d,v,m,p,q,a,e,h,g,f⟩
 obtain⟨i,u⟩:=(b d).1 ⟨v,q,a,g⟩;have A:=b3U d;exact⟨j,l,by omega,by omega,i,m,p,d,a,e,h,fun y=>f (by omega)⟩
 rintro⟨j,l,d,v,m,p,q,a,e,h,g,f⟩
 obtain⟨i,u,C,x⟩:=(b a).2 ⟨m,e⟩;have A:=b3U a;exact⟨j,l,a,i,p,q,u,e,h,g,x,fun y=>f (by omega)⟩
def c0A(warm rest:List Int)(o:Int):Option (List Int):=bif warm.all a0C&&rest.all a0C then a3v (a2V o.toNat) rest warm else none
def backP(s:Sub):Option (List Int):=
 if s.1=1 then some s.2.2.2.2.2.2.2.2.1
 else if s.1=2 then c0A s.2.2.2.2.2.2.2.2.1 s.2.2.2.2.2.2.2.2.2.2.1 s.2.2.1
 else if s.1=3 then b2t s.2.2.2.2.2.2.2.2.1 s.2.2.2.2.2.2.2.2.2.2.1 s.2.2.2.2.2.1 s.2.2.2.1
 else if s.1=4 then(b2t s.2.2.2.2.2.2.2.2.1 s.2.2.2.2.2.2.2.2.2.2.1 s.2.2.2.2.2.1 s.2.2.2.1).bind fun l=>b3C l s.2.2.2.2.1 s.2.2.2.2.2.2.1
 else b0U s.2.2.2.2.2.2.2.2.2.2.1 s.2.2.2.2.2.2.2.1
def c2i(s:Sub)(n:Int):Option (List Int):=
 if s.1=0 then some (a01 n.toNat (s.2.2.2.2.2.2.2.2.1.getD 0 0))else(backP s).bind (upO s.2.1)
theorem b3F{w r c:List Int}{s:Int}{l}(h:b2t w r c s=some l):l.length=w.length+r.length:=by
 unfold b2t at h;cases hc:(w.all a0C&&r.all a0C)with
 |false=>simp_all
 |true=>
  rw[hc]at h;exact(b4R _ r w l (a61.1 hc).1 h).2
theorem c7b{w r:List Int}{o:Int}{l}(h:c0A w r o=some l):l.length=w.length+r.length:=by
 unfold c0A at h;cases hc:(w.all a0C&&r.all a0C)with
 |false=>simp_all
 |true=>
  rw[hc]at h;exact(b4R _ r w l (a61.1 hc).1 h).2
theorem c5W{r t:List Int}{lag:Int}{l}(h:b3C r lag t=some l):l.length=r.length:=by
 unfold b3C at h;cases hc:r.all a0C with
 |false=>simp_all
 |true=>
  rw[hc]at h
  have:=(b4R _ r [] l rfl h).2
  simp_all
theorem c4H:∀(st:List Stg)(r:List Int){l},lO st r=some l→l.length=r.length
 | [],r,l,h=>by simp_all[lO]
 |s::st,r,l,h=>by
  simp only[lO]at h
  split at h
  rename_i f g;rw[c4H st f h,b4T _ _ _ g];simp;cases h
theorem c5e{r:List Int}{st:List Stg}{l}(h:b0U r st=some l):l.length=r.length:=by
 grind[b0U,c4H]
theorem c0B{s:Sub}(h:SmallS s){l}(g:backP s=some l):l.length<100000:=by
 have b:=h.warm;have a:=h.rest;unfold backP at g
 split at g
 grind
 split at g
 grind[c7b]
 split at g
 grind[b3F]
 split at g
 obtain⟨c,f,k⟩:=Option.bind_eq_some_iff.1 g;rw[c5W k,b3F f];omega
 grind[c5e]
theorem c9H{s:Sub}{n:Int}(c:1≤n)(d:n≤4096)(e:s.2.2.2.2.2.2.2.2.1.length=1):
  x0r a8g (n,(0:Int),([]:List Int),s,())=some (a01 n.toNat (s.2.2.2.2.2.2.2.2.1.getD 0 0),()):=by
 obtain⟨N,rfl⟩:=a03 (show 0≤n by omega);have k:l0z s.2.2.2.2.2.2.2.2.1 (0:Int)=some (s.2.2.2.2.2.2.2.2.1.getD 0 0):=b8i (by omega) (by omega)
 have:=a0R (f:=a8g) (fun i=>((N:Int),(i:Int),a01 i (s.2.2.2.2.2.2.2.2.1.getD 0 0),s,())) N
  (b:=(a01 N (s.2.2.2.2.2.2.2.2.1.getD 0 0),())) (fun i a=>by
   have h:lim ((a01 i (s.2.2.2.2.2.2.2.2.1.getD 0 0)).length+1)=true:=a0I (by grind);have g:a01 i (s.2.2.2.2.2.2.2.2.1.getD 0 0)++[s.2.2.2.2.2.2.2.2.1.getD 0 0]=a01 (i+1) (s.2.2.2.2.2.2.2.2.1.getD 0 0):=by grind[a29]
   simp only[a8g,dlt a,cT,k,oB,h,a05,g,a0B (show i<1000000 by omega)])
  (by simp[a8g])
 simp_all
theorem c5f{s:Sub}{n:Int}(m:1≤n)(o:n≤4096)(q:s.2.2.2.2.2.2.2.2.1.length=1):
  x0r a6C (n,(0:Int),a01 n.toNat (0:Int),s,())=some (a01 n.toNat (s.2.2.2.2.2.2.2.2.1.getD 0 0),()):=by
 obtain⟨N,rfl⟩:=a03 (show 0≤n by omega);have j:l0z s.2.2.2.2.2.2.2.2.1 (0:Int)=some (s.2.2.2.2.2.2.2.2.1.getD 0 0):=b8i (by omega) (by omega);obtain⟨z,r⟩:∃z,a01 N (s.2.2.2.2.2.2.2.2.1.getD 0 0)=z:=⟨_,rfl⟩;have k:z.length=(a01 N (0:Int)).length:=by grind
 have d:(a01 N (0:Int)).length=N:=by simp
 have:=a0R (f:=a6C) (fun i=>((N:Int),(i:Int),z.take i++(a01 N (0:Int)).drop i,s,())) N
  (b:=(z,())) (fun i l=>by
   have h:i<(a01 N (0:Int)).length:=by omega
   have p:(z.take i++(a01 N (0:Int)).drop i).length=N:=by grind
   have e:decide ((i:Int)<(((z.take i++(a01 N (0:Int)).drop i).length:Nat):Int))=true:=by simp_all
   have c:decide ((0:Int)≤(i:Int))=true:=by simp
   have a:=c5T h k;have g:z[i]'(by omega)=s.2.2.2.2.2.2.2.2.1.getD 0 0:=by grind
   rw[g]at a;simp only[a6C,dlt l,cT,j,oB,c,e,a02,tN,a,a0B (show i<1000000 by omega)])
  (by
   simp_all[a22,a6C])
 simp_all
theorem c7c{s:Sub}(h:SmallS s){n:Int}(hp:a1y s n)(x:s.1≠0):b4P s=some (a2o (backP s)):=by
 obtain⟨y,z,m,-,-,-,-,a,C,A,-⟩:=hp;have q:=h.rest;have v:=h.warm;have B:=h.taps;obtain⟨k,w,o,sh,lag,c,t,st,d,p,r,u⟩:=s;simp only at *;unfold b4P backP;rcases m with g|g|⟨g,f,b,e⟩|⟨g,f,b⟩|⟨g,f,b,e⟩|⟨g,f,b⟩;omega;subst g;rfl;subst g;obtain⟨O,rfl⟩:=a03 f
 grind[a0Y,c2e,c0A]
 grind[a0Y,b4C]
 ·subst g;simp only[a0Y]at a;have j:d.length=c.length:=by grind
  have i:=b4C (rest:=r) f j (by omega);simp only[show((4:Int)==2)=false from rfl,show((4:Int)==3)=false from rfl,show((4:Int)==4)=true from rfl,cT,cF,i,oB];cases hl:b2t d r c sh with
  |none=>rfl
  |some l=>
   grind[b3F,c2Y,a2o]
 grind[c2g]
theorem c7d{s:Sub}(h:SmallS s){n:Int}(hp:a1y s n):b4K (s,n)=some (a2o (c2i s n)):=by
 have a:=fun l (d:backP s=some l)=>c0B h d;obtain⟨z,A,C,-,x,v,-,g,K,I,-⟩:=hp;have F:=h.rest;have G:=h.warm;have H:=h.taps;have D:=c9H (s:=s) z A;obtain⟨k,w,o,sh,lag,c,t,st,f,p,r,u⟩:=s;simp only at *;have L:∀l,l.length<100000→b0Q (l,w)=some (a2o (upO w l)):=fun l d=>c5R x v d;unfold b4K c2i;rcases C with b|b|⟨b,j,m,y⟩|⟨b,j,m⟩|⟨b,j,m,y⟩|⟨b,j,m⟩
 grind[a0Y,a2o]
 simp_all[backP]
 ·subst b;obtain⟨O,rfl⟩:=a03 j;have m:(O:Int)≤4:=m;simp only[a0Y]at g;have q:f.length=O:=by grind
  have i:=c4Z (warm:=f) (rest:=r) (o:=O) (by omega) q (by omega);simp only[backP]at a⊢;simp[i];have e:(bif f.all a0C&&r.all a0C then a3v (a2V O) r f else none)=c0A f r (O:Int):=rfl;rw[e];cases d:c0A f r (O:Int)with
  |none=>rfl
  |some l=>simp_all[a2o]
 ·subst b;simp only[a0Y]at g;have q:f.length=c.length:=by grind
  have i:=b7F (rest:=r) j q (by omega);simp only[backP]at a⊢;simp[i];cases d:b2t f r c sh with
  |none=>rfl
  |some l=>simp_all[a2o]
 ·subst b;simp only[a0Y]at g;have q:f.length=c.length:=by grind
  have i:=b7F (rest:=r) j q (by omega);simp only[backP]at a⊢;simp[i];cases d:b2t f r c sh with
  |none=>rfl
  |some l=>
   have E:=b3F d;have B:=c5Q (rest:=l) y H (by omega);simp[a2o,B]
   grind[a2o]
 ·subst b;have i:=c5c (rest:=r) m (by omega);simp only[backP]at a⊢;simp[i];cases d:b0U r st with
  |none=>rfl
  |some l=>simp_all[a2o]
open Classical in
def a2p (s:Sub) (n:Int):Option (List Int):=if a1y s n then c2i s n else none
theorem c8Q{s:Sub}(h:SmallS s)(n:Int):b5U (s,n)=some (match a2p s n with|some r=>(r,0)|none=>([],1)):=by
 unfold b5U a2p;simp only[c9G h,oB]
 by_cases hp:a1y s n
 simp[hp,c7d h hp]
 grind[a2o]
 simp_all
theorem c8R{s:Sub}(h:SmallS s)(n:Int):b5W (s,n)=some (a2p s n).isSome:=by
 unfold b5W;simp only[c8Q h,oB];cases a2p s n<;>rfl
open Classical in
theorem c5g {s:Sub} (h:SmallS s) (n:Int):b2l (s,n)=some (match a2p s n with|some r=>(r,true)|none=>([],false)):=by
 have hw:short s.2.2.2.2.2.2.2.2.1:=by have:=h.warm;unfold short;omega
 have hr:short s.2.2.2.2.2.2.2.2.2.2.1:=by have:=h.rest;unfold short;omega
 have hk:short s.2.2.2.2.2.2.2.2.2.1.2.1:=by have:=h.ks;unfold short;omega
 have hiff:=c7a s n
 unfold b2l
 have no:¬ c8P s n→a2p s n=none:=fun hc=>by
  simp_all[a2p]
 by_cases h1:1≤n
 rotate_left
 ·have e1:decide (n<1)=true:=by simp_all
  rw[no fun hp=>h1 hp.1]
  simp_all
 have e1:decide (n<1)=false:=by simp_all
 by_cases h2:n≤4096
 rotate_left
 ·have e2:decide (n > 4096)=true:=by simp_all
  rw[no fun hp=>h2 hp.2.1]
  simp_all
 have e2:decide (n > 4096)=false:=by simp_all
 by_cases h3:0≤s.1
 rotate_left
 ·have e3:decide (s.1<0)=true:=by simp_all
  rw[no fun hp=>h3 hp.2.2.1]
  simp_all
 have e3:decide (s.1<0)=false:=by simp_all
 by_cases h4:s.1≤5
 rotate_left
 ·have e4:decide (s.1 > 5)=true:=by simp_all
  rw[no fun hp=>h4 hp.2.2.2.1]
  simp_all
 have e4:decide (s.1 > 5)=false:=by simp_all
 simp only[e1,e2,e3,e4,cF,d0Z,c3d h,oB]
 by_cases h5:s=b5z s
 rotate_left
 ·rw[no fun hp=>h5 hp.2.2.2.2.1]
  simp_all
 have e5:decide (s=b5z s)=true:=decide_eq_true h5
 simp only[e5,bT,cF]
 by_cases h6:0≤s.2.1
 rotate_left
 ·have e6:decide (s.2.1<0)=true:=by grind
  rw[no fun hp=>h6 hp.2.2.2.2.2.1]
  grind
 have e6:decide (s.2.1<0)=false:=by grind
 by_cases h7:s.2.1≤30
 rotate_left
 ·have e7:decide (s.2.1 > 30)=true:=by grind
  rw[no fun hp=>h7 hp.2.2.2.2.2.2.1]
  grind
 have e7:decide (s.2.1 > 30)=false:=by grind
 simp only[e6,e7,cF,oB,c2h h]
 by_cases h8:a2W s.1 s n
 rotate_left
 ·have e8:decide (b0V s n<0)=true:=by simp[b0V,h8]
  rw[no fun hp=>h8 hp.2.2.2.2.2.2.2.1]
  grind
 have hwr:=b7j h h1 h2 h8
 have e8':b0V s n=a0Y s n:=by simp[b0V,h8]
 have e8:decide (a0Y s n<0)=false:=by grind
 simp only[e8',e8,cF]
 by_cases h9:(s.2.2.2.2.2.2.2.2.1.length:Int)=a0Y s n
 rotate_left
 ·have e9:(((s.2.2.2.2.2.2.2.2.1.length:Nat):Int) != a0Y s n)=true:=by grind
  rw[no fun hp=>h9 hp.2.2.2.2.2.2.2.2.1]
  grind
 have e9:(((s.2.2.2.2.2.2.2.2.1.length:Nat):Int) != a0Y s n)=false:=by grind
 simp only[e9,cF,a0M hw,a0M hr,oB]
 cases h10:s.2.2.2.2.2.2.2.2.1.all a0C with
 |false=>
  rw[no fun hp=>by rw[hp.2.2.2.2.2.2.2.2.2.1]at h10;grind]
  rfl
 |true=>
  cases h11:s.2.2.2.2.2.2.2.2.2.2.1.all a0C with
  |false=>
   rw[no fun hp=>by rw[hp.2.2.2.2.2.2.2.2.2.2.1]at h11;grind]
   rfl
  |true=>
   simp only[bT,cF,oB,a6H]
   have e11:wrap .i64 (n-a0Y s n)=n-a0Y s n:=a0F (by omega)
   by_cases h12:2≤s.1∧s.1≤5→(s.2.2.2.2.2.2.2.2.2.2.1.length:Int)=n-a0Y s n∧a3d s.2.2.2.2.2.2.2.2.2.1 n (a0Y s n)=true
   rotate_left
   ·have hg:2≤s.1∧s.1≤5:=Classical.byContradiction fun hc=>h12 fun e=>absurd e hc
    have hn:¬ ((s.2.2.2.2.2.2.2.2.2.2.1.length:Int)=n-a0Y s n∧a3d s.2.2.2.2.2.2.2.2.2.1 n (a0Y s n)=true):=fun hc=>h12 fun _=>hc
    rw[no fun hp=>h12 hp.2.2.2.2.2.2.2.2.2.2.2]
    simp only[hg,and_self,decide_true,cT,e11,b2w hk,a6G hk,oB]
    grind
   have hrp:c8P s n:=⟨h1,h2,h3,h4,h5,h6,h7,h8,h9,h10,h11,h12⟩
   have hsp:=hiff.2 hrp
   have e12:(bif decide (2≤s.1∧s.1≤5)then bif (((s.2.2.2.2.2.2.2.2.2.2.1.length:Nat):Int) != wrap .i64 (n-a0Y s n))then some (n,(true,(s,())))else(a5X (s.2.2.2.2.2.2.2.2.2.1,(n,a0Y s n))).bind fun y9=>some (n,(!y9,(s,())))
     else some (n,(false,(s,()))))=some (n,(false,(s,()))):=by
    by_cases hg:2≤s.1∧s.1≤5
    ·obtain⟨g1,g2⟩:=h12 hg
     have e13:(((s.2.2.2.2.2.2.2.2.2.2.1.length:Nat):Int) != n-a0Y s n)=false:=by grind
     simp only[hg,and_self,decide_true,cT,e11,e13,cF,a6G hk,g2,oB,bT]
    grind
   simp only[e12,oB,cF]
   have hsub:a2p s n=c2i s n:=by unfold a2p;grind
   rw[hsub]
   unfold c2i
   by_cases k0:s.1=0
   ·have ek:(s.1==0)=true:=by grind
    have hl1:s.2.2.2.2.2.2.2.2.1.length=1:=by
     have:=h9;unfold a0Y at this;omega
    have g1:decide ((0:Int)≤n)=true:=by grind
    have g2:decide (n≤n)=true:=by simp
    have g3:lim n.toNat=true:=a0I (by omega)
    simp only[ek,cT,g1,g2,g3,a02,c5f h1 h2 hl1,oB,k0,if_true]
    rfl
   ·have ek:(s.1==0)=false:=by grind
    simp[ek,c7c h hsp k0,k0]
    cases hb:backP s with
    |none=>rfl
    |some l=>
     have hll:=c0B h hb
     simp only[a2o,c9E h6 h7 hll,oB]
     cases upO s.2.1 l<;>simp[a2o]
theorem c5h{s:Sub}(h:SmallS s)(n:Int):b2m (s,n)=some (a2p s n).isSome:=by
 grind[b2m,c5g]
@[reducible] def Wr:Type:=(List Int)×(Int×Unit)
def c8S(w:Wr)(b:Int):Wr:=
 let bs:=if w.2.1%8=0 then w.1++[0]else w.1
 (bs.set (w.2.1 / 8).toNat (bits .u8 .or (bs.getD (w.2.1 / 8).toNat 0) (z0g .u8 b (7-w.2.1%8))),w.2.1+1,())
def wL(L:List Int):Wr:=L.foldl c8S ([],0,())
theorem c7B(L:List Int)(b:Int):wL (L++[b])=c8S (wL L) b:=by simp[wL]
theorem c3e:∀(n:Nat)(L:List Int),L.length=n→(wL L).2.1=L.length∧(wL L).1.length=(L.length+7) / 8
 |0,L,h=>by
  rw[a52.1 h];exact⟨rfl,rfl⟩
 |n+1,L,h=>by
  obtain⟨g,b,rfl⟩:∃g b,L=g++[b]:=by
   rcases List.eq_nil_or_concat L with rfl|⟨g,b,e⟩
   all_goals simp_all
  obtain⟨f,k⟩:=c3e n g (by simp_all);rw[c7B];simp only[c8S,List.length_set,lN,List.length_singleton,f]
  grind
theorem c5X(L:List Int):(wL L).2.1=L.length∧(wL L).1.length=(L.length+7) / 8:=c3e _ L rfl
theorem c5Y{L:List Int}(l:L.length<1000000000)(b:Int):a3y (wL L,b)=some (wL (L++[b])):=by
 obtain⟨g,k⟩:=c5X L;have p:a63 ((L.length:Nat):Int) 8=((L.length:Nat):Int)%8:=Int.tmod_eq_emod_of_nonneg (by omega);have m:Int.tdiv ((L.length:Nat):Int) 8=((L.length:Nat):Int) / 8:=Int.tdiv_eq_ediv_of_nonneg (by omega);have c:wrap .i64 (((L.length:Nat):Int) / 8)=((L.length:Nat):Int) / 8:=a0F (by omega);have d:wrap .i64 (7-((L.length:Nat):Int)%8)=7-((L.length:Nat):Int)%8:=a0F (by omega);have e:wrap .i64 (((L.length:Nat):Int)+1)=((L.length:Nat):Int)+1:=a0F (by omega);have i:decide ((0:Int)≤((L.length:Nat):Int) / 8)=true:=by rfl
 have j:decide (7-((L.length:Nat):Int)%8<0)=false:=by grind
 rw[c7B];generalize wL L=wr at g k⊢;obtain⟨f,n,u⟩:=wr;have g:n=((L.length:Nat):Int):=g;have k:f.length=(L.length+7) / 8:=k;subst g;unfold a3y c8S
 by_cases h:((L.length:Nat):Int)%8=0
 have hb:(((L.length:Nat):Int)%8==0)=true:=by grind
 have o:lim (f.length+1)=true:=a4o (by omega);have a:decide (((L.length:Nat):Int) / 8<(((f++[0]).length:Nat):Int))=true:=by grind
 simp_all
 grind
def b8p(v:Int)(i:Nat):Int:=wrap .u8 (bits .u64 .and (z0h .u64 v (i:Int)) 1)
def pb(v:Int):Nat→List Int
 |0=>[]
 |i+1=>b8p v i::pb v i
theorem c0C(v:Int):∀n,(pb v n).length=n
 |0=>rfl
 |n+1=>by simp[pb,c0C v n]
def a0H(v:Int)(n:Nat)(L:List Int):List Int:=bif z0h .u64 v (n:Int) != 0 then L else L++pb v n
theorem a0L(v:Int)(n:Nat)(L:List Int):L.length≤(a0H v n L).length∧(a0H v n L).length≤L.length+n:=by
 grind[a0H,c0C]
def a2u(v:Int)(n:Nat):Int:=bif z0h .u64 v (n:Int) != 0 then 1 else 0
theorem c5Z{v:Int}:∀(n:Nat)(L:List Int),L.length+n<1000000000→x0r a4X (v,(n:Int)-1,wL L,())=some (wL (L++pb v n),())
 |0,L,_=>by simp_all[a0D,a4X,pb]
 |n+1,L,h=>by
  have e:((n+1:Nat):Int)-1=(n:Int):=by omega
  have g:wrap .i64 ((n:Int)-1)=(n:Int)-1:=a0F (by omega);have f:decide ((n:Int)≥0)=true:=by simp
  have k:decide ((n:Int)<0)=false:=by simp
  rw[e,a0E (s':=(v,(n:Int)-1,wL (L++[b8p v n]),())) (by
   simp only[a4X,f,k,cT,cF,show wrap .u8 (bits .u64 .and (z0h .u64 v (n:Int)) 1)=b8p v n from rfl,c5Y (show L.length<1000000000 by omega),oB,g])]
  rw[c5Z n (L++[b8p v n]) (by simp;omega),pb]
  simp
theorem a3O{L:List Int}{v:Int}{n:Nat}(a:n≤63)(k:L.length<999999000):a0G (wL L,v,(n:Int))=some (a2u v n,wL (a0H v n L)):=by
 unfold a0G a2u a0H;have g:decide ((n:Int)<0)=false:=by simp
 have f:decide ((n:Int) > 64)=false:=by grind
 have h:wrap .i64 ((n:Int)-1)=(n:Int)-1:=a0F (by omega);simp[g,f];cases (z0h .u64 v (n:Int) != 0)with
 |true=>rfl
 |false=>simp only[cF,h,c5Z n L (by omega),oB]
theorem c0D{v:Int}:∀(n:Nat)(L:List Int),n≤64→L.length+n<1000000000→x0r a6D (v,(n:Int)-1,(L,()),())=some ((L++pb v n,()),())
 |0,L,_,_=>by simp_all[a0D,a6D,pb]
 |n+1,L,h64,h=>by
  have e:((n+1:Nat):Int)-1=(n:Int):=by omega
  have g:wrap .i64 ((n:Int)-1)=(n:Int)-1:=a0F (by omega);have f:wrap .u64 (n:Int)=(n:Int):=a1m (by omega);have k:decide ((n:Int)≥0)=true:=by simp
  have a:decide ((n:Int)<0)=false:=by simp
  have b:lim (L.length+1)=true:=a4o (by omega);rw[e,a0E (s':=(v,(n:Int)-1,(L++[b8p v n],()),())) (by
   simp only[a6D,k,a,f,b,cT,cF,show wrap .u8 (bits .u64 .and (z0h .u64 v (n:Int)) 1)=b8p v n from rfl,a05,g])]
  rw[c0D n (L++[b8p v n]) (by omega) (by simp;omega),pb]
  simp
theorem a1M{L:List Int}{v:Int}{n:Nat}(c:n≤63)(b:L.length<999999000):a0K ((L,()),v,(n:Int))=some (a2u v n,a0H v n L,()):=by
 unfold a0K a2u a0H;have f:decide ((n:Int)<0)=false:=by simp
 have k:decide ((n:Int) > 64)=false:=by grind
 have a:decide ((n:Int)<64)=true:=by grind
 have h:wrap .i64 ((n:Int)-1)=(n:Int)-1:=a0F (by omega);have g:wrap .u64 (n:Int)=(n:Int):=a1m (by omega);simp[f,k,a,g];cases (z0h .u64 v (n:Int) != 0)with
 |true=>rfl
 |false=>simp only[cF,h,c0D n L (by omega) (by omega),oB]
def unL(n:Nat)(L:List Int):List Int:=L++a01 n 0++[1]
theorem c6a{L:List Int}{n:Nat}(d:n≤4096)(c:L.length<999990000):a2F (wL L,(n:Int))=some (0,wL (unL n L)):=by
 unfold a2F unL;have g:decide ((n:Int)<0)=false:=by simp
 have k:decide ((n:Int) > 4096)=false:=by grind
 simp only[g,k,cF,oB]
 have:=a0R (f:=a3X) (fun i=>((n:Int),(i:Int),wL (L++a01 i 0),())) n (b:=(wL (L++a01 n 0),())) (fun i a=>by
   have h:L++a01 i (0:Int)++[0]=L++a01 (i+1) 0:=by simp_all[a29]
   simp only[a3X,dlt a,cT,c5Y (show(L++a01 i (0:Int)).length<1000000000 by grind),oB,h,a0B (show i<1000000 by omega)])
  (by simp[a3X])
 grind[c5Y]
theorem c0E{L:List Int}{n:Nat}(e:n≤4096)(d:L.length<999990000):a3C ((L,()),(n:Int))=some (0,unL n L,()):=by
 unfold a3C unL;have k:decide ((n:Int)<0)=false:=by simp
 have a:decide ((n:Int) > 4096)=false:=by grind
 simp only[k,a,cF,oB]
 have:=a0R (f:=a4Z) (fun i=>((n:Int),(i:Int),(L++a01 i 0,()),())) n (b:=((L++a01 n 0,()),())) (fun i c=>by
   have g:L++a01 i (0:Int)++[0]=L++a01 (i+1) 0:=by simp_all[a29]
   have h:lim ((L++a01 i (0:Int)).length+1)=true:=a4o (by grind);simp only[a4Z,dlt c,cT,h,a05,g,a0B (show i<1000000 by omega)])
  (by simp[a4Z])
 have h:lim ((L++a01 n (0:Int)).length+1)=true:=a4o (by grind);simp_all
theorem a7R(n:Nat)(L:List Int):(unL n L).length=L.length+n+1:=by simp[unL];rfl
def a2M(x:Int)(n:Nat):Int:=bits .u64 .and (wrap .u64 x) (wrap .u64 ((z0g .u64 1 (n:Int))-1))
def a1H(n:Nat)(l:List Int)(L:List Int):List Int:=l.foldl (fun L x=>a0H (a2M x n) n L) L
theorem a4p(n:Nat):∀(l L:List Int),L.length≤(a1H n l L).length∧(a1H n l L).length≤L.length+n*l.length
 | [],L=>by simp[a1H]
 |x::l,L=>by
  have h:=a0L (a2M x n) n L;have g:=a4p n l (a0H (a2M x n) n L);have e:a1H n (x::l) L=a1H n l (a0H (a2M x n) n L):=rfl;rw[e,lC,a70,a71];omega
theorem b5A{L:List Int}{x:Int}{n:Nat}(f:n≤63)(g:L.length<999999000):a3l (wL L,x,(n:Int))=some (wL (a0H (a2M x n) n L)):=by
 unfold a3l;have h:decide ((n:Int)<0)=false:=by simp
 simp only[h,cF,show bits .u64 .and (wrap .u64 x) (wrap .u64 ((z0g .u64 1 (n:Int))-1))=a2M x n from rfl,a3O f g,oB]
theorem a7S{l L:List Int}{n:Nat}(d:n≤63)(j:l.length<10000)(e:L.length<900000000):a3b ((L,()),l,(n:Int))=some (a1H n l L,()):=by
 have a:wrap .u64 (n:Int)=(n:Int):=a1m (by omega);have b:decide ((n:Int)<0)=false:=by simp
 have f:∀(k i:Nat)(h:List Int),i+k=l.length→h.length+64*k<999990000→x0r a7a (l,(n:Int),(i:Int),(h,()),())=some ((a1H n (l.drop i) h,()),()):=by
  intro k
  induction k with
  |zero=>
   intro i h c _;obtain rfl:i=l.length:=by omega
   simp_all[a0D,a7a,a1H]
  |succ k ih=>
   intro i h c hb;have g:i<l.length:=by omega
   have hp:=a0L (a2M l[i] n) n h;rw[a00 g,a0E (s':=(l,(n:Int),((i+1:Nat):Int),(a0H (a2M l[i] n) n h,()),())) (by
    simp only[a7a,dlt g,cT,a0A g,oB,a,b,cF,show bits .u64 .and (wrap .u64 l[i]) (wrap .u64 ((z0g .u64 1 (n:Int))-1))=a2M l[i] n from rfl,a1M d (show h.length<999999000 by omega),a0B (show i<1000000 by omega)])]
   exact ih (i+1) _ (by omega) (by omega)
 have:=f l.length 0 L (by omega) (by omega)
 simp_all[a3b]
def a1l(x w:Int):Bool:=decide (1≤w)&&(decide (w≤31)&&(decide (z0g .i64 (-1) (w-1)≤x)&&decide (x≤wrap .i64 (z0g .i64 1 (w-1)-1))))
theorem a5t{x:Int}{w:Nat}(a:w≤32):a3E (x,(w:Int))=some (a1l x w):=by
 unfold a3E a1l b4Y b3Y
 by_cases h1:1≤(w:Int)
 by_cases h2:(w:Int)≤31
 have h:decide ((w:Int)<1)=false:=by simp_all
 have g:decide ((w:Int) > 31)=false:=by simp_all
 have e:wrap .i64 ((w:Int)-1)=(w:Int)-1:=a0F (by omega);have f:decide ((w:Int)-1<0)=false:=by simp_all
 have k:decide ((w:Int)≥1)=true:=by simp_all
 simp[h1,h2,h,g,f,e]
 grind
 grind
 grind
theorem b3G{x:Int}{w:Nat}(b:w≤32):a7z (x,(w:Int))=some (a1l x w):=by
 unfold a7z a1l c2a b9J
 by_cases h1:1≤(w:Int)
 by_cases h2:(w:Int)≤31
 have f:decide ((w:Int)<1)=false:=by simp_all
 have k:decide ((w:Int) > 31)=false:=by simp_all
 have e:wrap .i64 ((w:Int)-1)=(w:Int)-1:=a0F (by omega);have g:wrap .u64 ((w:Int)-1)=(w:Int)-1:=a1m (by omega);have a:decide ((w:Int)-1<0)=false:=by simp_all
 have h:decide ((w:Int)≥1)=true:=by simp_all
 simp only[h,h1,h2,f,k,a,e,g,decide_true,cT,cF,oB,a19]
 grind
 grind
 grind
def a1N(x:Int):Nat→Nat→Nat
 |0,w=>w
 |k+1,w=>bif (x != 0)&&!a1l x w then a1N x k (w+1)else w
theorem b8q(x:Int):∀(k w:Nat),a1N x k w≤w+k
 |0,w=>a34 _
 |k+1,w=>by
  simp[a1N];cases (x != 0)&&!a1l x w with
  |true=>have:=b8q x k (w+1);grind
  |false=>simp
def a0J(l:List Int):Nat:=l.foldl (fun w x=>a1N x (32-w) w) 0
theorem b8Z:∀(l:List Int)(w:Nat),w≤32→l.foldl (fun w x=>a1N x (32-w) w) w≤32
 | [],w,h=>h
 |x::l,w,h=>b8Z l _ (show a1N x (32-w) w≤32 by grind[b8q])
theorem a3e(l:List Int):a0J l≤32:=b8Z l 0 (by omega)
theorem c4I{x:Int}{l:List Int}{n i:Int}:∀(k w:Nat),w+k=32→x0r a3x ((w:Int),x,l,n,i,())=some (((a1N x k w:Nat):Int),l,n,i,())
 |0,w,h=>by
  obtain rfl:w=32:=by omega
  simp_all[a0D,a3x,a1N]
 |k+1,w,h=>by
  have g:decide ((w:Int)<32)=true:=by grind
  simp[a1N];cases hx:(x != 0)with
  |false=>simp_all[a0D,a3x]
  |true=>
   cases hf:a1l x w with
   |true=>exact a0D (by simp only[a3x,hx,g,a5t (show w≤32 by omega),hf,oB,cT,cF,bT,a76])
   |false=>
    rw[a0E (s':=(((w+1:Nat):Int),x,l,n,i,())) (by simp only[a3x,hx,g,a5t (show w≤32 by omega),hf,oB,cT,a21,a0B (show w<1000000 by omega)])];exact c4I k (w+1) (by omega)
theorem a6I{l:List Int}(c:short l):a3R l=some ((a0J l:Nat):Int):=by
 have c:l.length<1000000:=c
 have:=a1L (f:=a6S) l (fun i (w:Nat)=>((w:Int),l,(l.length:Int),(i:Int),())) (fun w x=>(.inl (a1N x (32-w) w):Nat ⊕ (Int×Unit))) (fun _ w=>w≤32) (fun w=>((w:Int),()))
  (fun i h w e=>⟨fun d k=>by
   simp at k;subst k;refine⟨?_,by grind[b8q]⟩;simp only[a6S,dlt h,cT,a0A h,oB,c4I (32-w) w (by omega),a0B (show i<1000000 by omega)],fun b hb=>(by grind)⟩)
  (fun w _=>by simp[a6S]) (a:=0) (by omega)
 simp at this;unfold a3R;rw[this];have g:∀(l:List Int)(w:Nat),a2i (fun w x=>(.inl (a1N x (32-w) w):Nat ⊕ (Int×Unit))) l w=.inl (l.foldl (fun w x=>a1N x (32-w) w) w):=by
  intro l
  induction l with
  |nil=>intro w;rfl
  |cons x l ih=>simp_all[a2i]
 rw[g];rfl
theorem b9a{l:List Int}{i:Nat}(g:i<l.length):∀(k w:Nat),w+k=32→x0r a8o (l,(w:Int),(i:Int),())=some (l,((a1N l[i] k w:Nat):Int),(i:Int),())
 |0,w,h=>by
  obtain rfl:w=32:=by omega
  rfl
 |k+1,w,h=>by
  have f:decide ((w:Int)<32)=true:=by grind
  simp[a1N];cases hx:(l[i] != 0)with
  |false=>simp_all[a0D,a8o,a0A]
  |true=>
   cases hf:a1l l[i] w with
   |true=>exact a0D (by simp only[a8o,a0A g,hx,f,b3G (show w≤32 by omega),hf,oB,cT,cF,bT,a76])
   |false=>
    rw[a0E (s':=(l,((w+1:Nat):Int),(i:Int),())) (by simp only[a8o,a0A g,hx,f,b3G (show w≤32 by omega),hf,oB,cT,a21,a0B (show w<1000000 by omega)])];exact b9a g k (w+1) (by omega)
theorem a9q{l:List Int}(c:short l):a7M l=some ((a0J l:Nat):Int):=by
 have c:l.length<1000000:=c
 have:=a1L (f:=b1e) l (fun i (w:Nat)=>(l,(w:Int),(i:Int),())) (fun w x=>(.inl (a1N x (32-w) w):Nat ⊕ (Int×Unit))) (fun _ w=>w≤32) (fun w=>((w:Int),()))
  (fun i h w e=>⟨fun d k=>by
   simp at k;subst k;refine⟨?_,by grind[b8q]⟩;simp only[b1e,dlt h,cT,oB,b9a h (32-w) w (by omega),a0B (show i<1000000 by omega)],fun b hb=>(by grind)⟩)
  (fun w _=>by simp[b1e]) (a:=0) (by omega)
 simp at this;unfold a7M;rw[this];have g:∀(l:List Int)(w:Nat),a2i (fun w x=>(.inl (a1N x (32-w) w):Nat ⊕ (Int×Unit))) l w=.inl (l.foldl (fun w x=>a1N x (32-w) w) w):=by
  intro l
  induction l with
  |nil=>intro w;rfl
  |cons x l ih=>simp_all[a2i]
 rw[g];rfl
theorem b2x(x:Int):a8v x=some (a0C x):=by
 grind[a8v,a0C]
def a0P(x:Int):Nat:=if 0≤x then(2*x).toNat else(-2*x-1).toNat
theorem b1u{x:Int}(h:a0C x=true):a0P x<2147483648:=by
 grind[a1X,a0P]
theorem b2y{x:Int}(h:a0C x=true):b0P x=some ((a0P x:Nat):Int):=by
 have f:=a1X.1 h;unfold b0P a0P;simp only[b2x,h,oB,bT,cF]
 by_cases h0:0≤x
 have g:decide (x≥0)=true:=by simp_all
 simp only[g,cT,if_pos h0]
 grind[a0F,a1m]
 have g:decide (x≥0)=false:=by simp_all
 simp only[g,cF,if_neg h0]
 grind[a0F,a1m]
theorem d2K{y:Nat}(h:y<18446744073709551616):bits .u64 .xor (IntKind.max .u64) (y:Int)=((18446744073709551615-y:Nat):Int):=by
 show wrap .u64 (((a09 64 (IntKind.max .u64)) ^^^ (a09 64 (y:Int))).toNat:Int)=_;have g:a09 64 (IntKind.max .u64)=BitVec.allOnes 64:=by rfl
 have f:a09 64 (y:Int)=BitVec.ofNat 64 y:=a30 64 y;rw[g,f,BitVec.allOnes_xor,BitVec.toNat_not,a33,a38 h];rw[a1m (by omega)]
theorem b3H{x:Int}(h:a0C x=true):b3R x=some ((a0P x:Nat):Int):=by
 have k:=a1X.1 h;unfold b3R c2c a0P;simp only[a2g,h,oB,bT,cF];have f:∀y:Int,z0g .u64 y 1=wrap .u64 (y*2):=fun y=>rfl
 by_cases h0:0≤x
 have g:decide (x<0)=false:=by simp_all
 simp only[g,cF,oB,if_pos h0,f]
 grind[a1m]
 have g:decide (x<0)=true:=by simp_all
 simp only[g,cT,oB,if_neg h0,f]
 grind[wrap,IntKind.bits,IntKind.signed,d2K]
theorem a7B{N o:Nat}(h:o≤64):z0h .u64 (N:Int) (o:Int)=((N / 2^o:Nat):Int):=b8l h
theorem c4J{N o:Nat}(h:o≤64)(g:N*2^o<9223372036854775808):z0g .u64 (N:Int) (o:Int)=((N*2^o:Nat):Int):=by
 unfold z0g;show wrap .u64 ((N:Int)*2^(min (o:Int).toNat 64))=_
 grind[a1m]
theorem c6b{y k:Nat}(c:y<18446744073709551616)(f:k≤62):bits .u64 .and (y:Int) (wrap .u64 (z0g .u64 1 (k:Int)-1))=((y%2^k:Nat):Int):=by
 have hp:2^k≤2^62:=a31 (by simp) f;have a:1≤2^k:=a64;have b:(2:Nat)^62=4611686018427387904:=by rfl
 have h:z0g .u64 1 (k:Int)=((2^k:Nat):Int):=by have:=c4J (N:=1) (o:=k) (by omega) (by omega);simp_all
 have g:wrap .u64 (((2^k:Nat):Int)-1)=((2^k-1:Nat):Int):=by grind[a1m]
 rw[h,g];show wrap .u64 (((a09 64 (y:Int)) &&& (a09 64 ((2^k-1:Nat):Int))).toNat:Int)=_;rw[a30,a30,a72,a33,a33,a38 c,a38 (by omega),Nat.and_two_pow_sub_one_eq_mod]
 have:y%2^k<2^k:=a75 _ (by omega)
 exact a1m (by omega)
theorem b2Y{q:Nat}(h:q<2147483648):wrap .i64 (q:Int)=(q:Int):=a0F (by omega)
def a7T(k:Nat)(x:Int)(L:List Int):List Int:=
 if a0P x / 2^k<32 then a0H ((a0P x%2^k:Nat):Int) k (unL (a0P x / 2^k) L)else a0H ((a0P x:Nat):Int) 32 (unL 32 L)
def a5I(k:Nat)(l:List Int)(L:List Int):List Int:=l.foldl (fun L x=>a7T k x L) L
theorem b5B{k:Nat}(h:k≤25)(x:Int)(L:List Int):L.length≤(a7T k x L).length∧(a7T k x L).length≤L.length+100:=by
 grind[a7T,a0L,a7R]
theorem b9b{k:Nat}(h:k≤25):∀(l L:List Int),L.length≤(a5I k l L).length∧(a5I k l L).length≤L.length+100*l.length
 | [],L=>by simp[a5I]
 |x::l,L=>by
  have g:=b5B h x L;have f:=b9b h l (a7T k x L);have e:a5I k (x::l) L=a5I k l (a7T k x L):=rfl
  grind
theorem b0E{k:Nat}(h:k≤25):a5x (k:Int)=some true:=by
 unfold a5x
 grind
theorem b1v{k:Nat}(h:k≤25):a3a (k:Int)=some true:=by
 unfold a3a
 grind
theorem c7e{k:Nat}{l L:List Int}(y:k≤25)(E:l.length<10000)(t:l.all a0C=true)(D:L.length<900000000):b4L (wL L,(k:Int),l)=some (0,wL (a5I k l L)):=by
 have B:=a0V (f:=b1a) l (fun i=>((k:Int),l,l,(l.length:Int),(i:Int),wL L,())) (fun _=>true) (bt:=Sum.inl ((k:Int),l,wL L,())) (bf:=Sum.inl ((k:Int),l,wL L,()))
  (fun i h _=>by
   have:=lA.1 t _ (a04 h)
   simp only[b1a,dlt h,cT,a0A h,oB,b2x,this,bT,cF,a0B (show i<1000000 by omega)])
  (fun i h hp=>by simp_all) (by simp[b1a])
 have p:∀(j i:Nat)(g:List Int),i+j=l.length→g.length+100*j<999990000→x0r a8h ((k:Int),l,(l.length:Int),(i:Int),wL g,())=some (wL (a5I k (l.drop i) g),()):=by
  intro j
  induction j with
  |zero=>
   intro i g x _;obtain rfl:i=l.length:=by omega
   simp_all[a0D,a8h,a5I]
  |succ j ih=>
   intro i g x hb;have a:i<l.length:=by omega
   have c:=lA.1 t _ (a04 a);have A:=b1u c;have z:=b5B y l[i] g;have e:decide ((k:Int)<0)=false:=by simp
   have q:z0h .u64 ((a0P l[i]:Nat):Int) (k:Int)=((a0P l[i] / 2^k:Nat):Int):=a7B (by omega);have o:=a26 (a0P l[i]) (2^k);have r:=a54 (a0P l[i]) (2^k);have d:z0g .u64 ((a0P l[i] / 2^k:Nat):Int) (k:Int)=((a0P l[i] / 2^k*2^k:Nat):Int):=c4J (by omega) (by grind);have u:wrap .u64 (((a0P l[i]:Nat):Int)-((a0P l[i] / 2^k*2^k:Nat):Int))=((a0P l[i]%2^k:Nat):Int):=by
    rw[a65 (a0P l[i] / 2^k)]
    grind[a1m]
   have w:wrap .i64 ((a0P l[i] / 2^k:Nat):Int)=((a0P l[i] / 2^k:Nat):Int):=b2Y (a28 o A);rw[a00 a,a0E (s':=((k:Int),l,(l.length:Int),((i+1:Nat):Int),wL (a7T k l[i] g),())) (by
    by_cases hq:a0P l[i] / 2^k<32
    have m:decide (((a0P l[i] / 2^k:Nat):Int)<32)=true:=decide_eq_true (by omega);have s:(unL (a0P l[i] / 2^k) g).length<999999000:=by
     rw[a7R];omega
    have b:=c6a (L:=g) (n:=a0P l[i] / 2^k) (a53 (a07 hq (by simp))) (by omega);have hp:=a3O (L:=unL (a0P l[i] / 2^k) g) (v:=((a0P l[i]%2^k:Nat):Int)) (n:=k) (by omega) s;simp only[a8h,dlt a,cT,a0A a,oB,b2y c,e,cF,q,m,w,b,d,u,hp,a7T,if_pos hq,a0B (show i<1000000 by omega)];have m:decide (((a0P l[i] / 2^k:Nat):Int)<32)=false:=decide_eq_false (by omega);have s:=a7R 32 g;have b:a2F (wL g,(32:Int))=some (0,wL (unL 32 g)):=c6a (L:=g) (n:=32) (by omega) (by omega);have hp:a0G (wL (unL 32 g),((a0P l[i]:Nat):Int),(32:Int))=some (a2u ((a0P l[i]:Nat):Int) 32,wL (a0H ((a0P l[i]:Nat):Int) 32 (unL 32 g))):=a3O (L:=unL 32 g) (v:=((a0P l[i]:Nat):Int)) (n:=32) (by omega) (by omega);simp only[a8h,dlt a,cT,a0A a,oB,b2y c,e,cF,q,m,b,hp,a7T,if_neg hq,a0B (show i<1000000 by omega)])]
   exact ih (i+1) _ (by omega) (by omega)
 have C:=p l.length 0 L (by omega) (by omega);simp_all[b4L,b0E]
theorem c4i{k:Nat}{l L:List Int}(r:k≤25)(C:l.length<10000)(t:l.all a0C=true)(B:L.length<900000000):b2n ((L,()),(k:Int),l)=some (0,a5I k l L,()):=by
 have o:wrap .u64 (k:Int)=(k:Int):=a1m (by omega);have e:∀(j i:Nat)(h:List Int),i+j=l.length→h.length+100*j<999990000→x0r a6F ((k:Int),l,(i:Int),(h,()),())=some ((a5I k (l.drop i) h,()),()):=by
  intro j
  induction j with
  |zero=>
   intro i h w _;obtain rfl:i=l.length:=by omega
   simp_all[a0D,a6F,a5I]
  |succ j ih=>
   intro i h w hb;have g:i<l.length:=by omega
   have a:=lA.1 t _ (a04 g);have A:=b1u a;have x:=b5B r l[i] h;have b:decide ((k:Int)<0)=false:=by simp
   have m:z0h .u64 ((a0P l[i]:Nat):Int) (k:Int)=((a0P l[i] / 2^k:Nat):Int):=a7B (by omega);have d:=a26 (a0P l[i]) (2^k);have u:=c6b (y:=a0P l[i]) (k:=k) (by omega) (by omega);have p:wrap .i64 ((a0P l[i] / 2^k:Nat):Int)=((a0P l[i] / 2^k:Nat):Int):=b2Y (a28 d A);rw[a00 g,a0E (s':=((k:Int),l,((i+1:Nat):Int),(a7T k l[i] h,()),())) (by
    by_cases hq:a0P l[i] / 2^k<32
    have c:decide (((a0P l[i] / 2^k:Nat):Int)<32)=true:=decide_eq_true (by omega);have s:(unL (a0P l[i] / 2^k) h).length<999999000:=by
     rw[a7R];omega
    have f:=c0E (L:=h) (n:=a0P l[i] / 2^k) (a53 (a07 hq (by simp))) (by omega);have hp:=a1M (L:=unL (a0P l[i] / 2^k) h) (v:=((a0P l[i]%2^k:Nat):Int)) (n:=k) (by omega) s;simp only[a6F,dlt g,cT,a0A g,oB,b3H a,o,b,cF,m,c,p,f,u,hp,a7T,if_pos hq,a0B (show i<1000000 by omega)];have c:decide (((a0P l[i] / 2^k:Nat):Int)<32)=false:=decide_eq_false (by omega);have s:=a7R 32 h;have f:a3C ((h,()),(32:Int))=some (0,unL 32 h,()):=c0E (L:=h) (n:=32) (by omega) (by omega);have hp:a0K ((unL 32 h,()),((a0P l[i]:Nat):Int),(32:Int))=some (a2u ((a0P l[i]:Nat):Int) 32,a0H ((a0P l[i]:Nat):Int) 32 (unL 32 h),()):=a1M (L:=unL 32 h) (v:=((a0P l[i]:Nat):Int)) (n:=32) (by omega) (by omega);simp only[a6F,dlt g,cT,a0A g,oB,b3H a,o,b,cF,m,c,p,f,hp,a7T,if_neg hq,a0B (show i<1000000 by omega)])]
   exact ih (i+1) _ (by omega) (by omega)
 have q:=e l.length 0 L (by omega) (by omega);simp at q;have z:short l:=by unfold short;omega
 unfold b2n;simp only[b1v r,oB,bT,cF,a0M z,t,q]
def a1r(zn:List Nat):List Int:=zn.map fun(a:Nat)=>(a:Int)
theorem c5i(n M:Nat):(a01 n M).sum=n*M:=by
 simp
theorem b7k{o n warm:Int}(h:(a1u o n warm).length≠0):∃zn:List Nat,a1u o n warm=a1r zn∧(zn.sum:Int)=n-warm∧zn.length≤256:=by
 unfold a1u at h⊢;cases hr:(a3h n warm&&(decide (0≤o)&&decide (o≤8)))with
 |false=>simp_all
 |true=>
  rw[hr]at h;simp only[cT]at h⊢;simp[a3h]at hr;unfold b2v at h⊢
  split at h
  rename_i g;rw[if_pos g];obtain⟨O,rfl⟩:=a03 hr.2.1;obtain⟨N,rfl⟩:=a03 (show 0≤n by omega);obtain⟨w,rfl⟩:=a03 (show 0≤warm by omega);simp only[tN]at g⊢;have hp:=d0Y (o:=O) (by omega);have f:=a54 N (2^O);rw[g.1,Nat.add_zero]at f;have k:w≤N / 2^O:=by omega
  generalize N / 2^O=M at g k f⊢;generalize 2^O=P at hp f⊢;refine⟨(M-w)::a01 (P-1) M,?_,?_,?_⟩
  grind[a1r,List.map_replicate]
  rw[a62,c5i];obtain⟨q,rfl⟩:∃q,P=q+1:=⟨P-1,by omega⟩
  grind
  simp_all;simp_all
def a9R(k:Int)(part L:List Int):List Int:=
 if k=31 then a1H (a0J part) part (a0H ((a0J part:Nat):Int) 5 (a0H (wrap .u64 k) 5 L))else a5I k.toNat part (a0H (wrap .u64 k) 5 L)
def a6J:List Nat→List Int→List Int→List Int→List Int
 |z::zs,k::ks,l,L=>a6J zs ks (l.drop z) (a9R k (l.take z) L)
 |_,_,_,L=>L
theorem b5C{k:Int}(h:kB k=true)(part L:List Int):L.length≤(a9R k part L).length∧(a9R k part L).length≤L.length+10+100*part.length:=by
 unfold a9R;have a:=a0L (wrap .u64 k) 5 L;split;have b:=a0L ((a0J part:Nat):Int) 5 (a0H (wrap .u64 k) 5 L);have c:=a4p (a0J part) part (a0H ((a0J part:Nat):Int) 5 (a0H (wrap .u64 k) 5 L));have f:=a3e part
 have:a0J part*part.length≤32*part.length:=a37 _ f
 omega;rename_i g;simp[kB]at h
 grind[b9b]
theorem a3F{zn:List Nat}{i:Nat}(h:i<zn.length):a67 (a1r zn) i 0=((zn[i]:Nat):Int):=by
 simp_all[a1r]
theorem a0Z(h:List Nat):(a1r h).length=h.length:=by simp[a1r]
theorem a9r{zn:List Nat}{i:Nat}(h:i<zn.length):(zn.drop i).sum=zn[i]+(zn.drop (i+1)).sum:=by
 grind[a00]
theorem c6c{part rest:List Int}{wd:Nat}{a b:Int}{z:List Int}{p:Prt}(k:wd≤32)(hp:part.length<10000):∀(j i:Nat)(L:List Int),i+j=part.length→L.length+64*j<999990000→
  x0r a9F (rest,(wd:Int),a,b,part,(part.length:Int),(i:Int),z,wL L,p,())=some (rest,a,b,z,wL (a1H wd (part.drop i) L),p,())
 |0,i,L,hi,_=>by
  obtain rfl:i=part.length:=by omega
  simp_all[a0D,a9F,a1H]
 |j+1,i,L,hi,hb=>by
  have h:i<part.length:=by omega
  have g:decide ((wd:Int)<0)=false:=by simp
  have f:=a0L (a2M part[i] wd) wd L;rw[a00 h,a0E (s':=(rest,(wd:Int),a,b,part,(part.length:Int),((i+1:Nat):Int),z,wL (a0H (a2M part[i] wd) wd L),p,())) (by
   simp only[a9F,dlt h,cT,a0A h,oB,g,cF,show bits .u64 .and (wrap .u64 part[i]) (wrap .u64 ((z0g .u64 1 (wd:Int))-1))=a2M part[i] wd from rfl,a3O (show wd≤63 by omega) (show L.length<999999000 by omega),a0B (show i<1000000 by omega)])]
  exact c6c k hp j (i+1) _ (by omega) (by omega)
theorem b7J{zn:List Nat}{p:Prt}(N:p.2.1.length=zn.length)(c:p.2.1.all kB=true)(R:zn.length≤256):∀(j i:Nat)(l L:List Int),i+j=zn.length→(zn.drop i).sum=l.length→l.all a0C=true→l.length≤5000→L.length+10*j+100*l.length<800000000→
  x0r a5o (l,(zn.length:Int),(i:Int),a1r zn,wL L,p,())=some (wL (a6J (zn.drop i) (p.2.1.drop i) l L),())
 |0,i,l,L,hi,_,_,_,_=>by
  obtain rfl:i=zn.length:=by omega
  simp_all[a0D,a5o,a6J]
 |j+1,i,l,L,hi,hsum,hw,hl5,hb=>by
  have h:i<zn.length:=by omega
  have f:i<p.2.1.length:=by omega
  have s:=lA.1 c _ (a04 f);rw[a9r h]at hsum;have B:decide ((0:Int)≤(i:Int))=true:=by simp
  have C:decide ((i:Int)<(((a1r zn).length:Nat):Int))=true:=by simp_all[a0Z]
  have D:decide ((0:Int)≤((zn[i]:Nat):Int))=true:=by simp
  have E:decide (((zn[i]:Nat):Int)≤((l.length:Nat):Int))=true:=by grind
  have t:(l.take zn[i]).length=zn[i]:=by simp_all
  have q:(l.drop zn[i]).length=(zn.drop (i+1)).sum:=by grind
  have w:(l.take zn[i]).all a0C=true:=lA.2 fun x A=>lA.1 hw x (a24 A);have y:(l.drop zn[i]).all a0C=true:=lA.2 fun x A=>lA.1 hw x (a25 A);have Q:=b5C s (l.take zn[i]) L;have O:=a0L (wrap .u64 p.2.1[i]) 5 L;have d:a0G (wL L,wrap .u64 p.2.1[i],(5:Int))=some (a2u (wrap .u64 p.2.1[i]) 5,wL (a0H (wrap .u64 p.2.1[i]) 5 L)):=a3O (n:=5) (by omega) (by omega);have G:zn.drop i=zn[i]::zn.drop (i+1):=a00 h;have H:p.2.1.drop i=p.2.1[i]::p.2.1.drop (i+1):=a00 f;rw[G,H,a6J];have r:a5o (l,(zn.length:Int),(i:Int),a1r zn,wL L,p,())=some (.inl (l.drop zn[i],(zn.length:Int),((i+1:Nat):Int),a1r zn,wL (a9R p.2.1[i] (l.take zn[i]) L),p,())):=by
   by_cases h31:p.2.1[i]=31
   have m:(p.2.1[i] != 31)=false:=by simp_all
   have v:=a3e (l.take zn[i]);have u:=a6I (l:=l.take zn[i]) (by unfold short;omega);have P:=a0L ((a0J (l.take zn[i]):Nat):Int) 5 (a0H (wrap .u64 p.2.1[i]) 5 L);have I:wrap .u64 ((a0J (l.take zn[i]):Nat):Int)=((a0J (l.take zn[i]):Nat):Int):=a1m (by omega);have o:a0G (wL (a0H (wrap .u64 p.2.1[i]) 5 L),((a0J (l.take zn[i]):Nat):Int),(5:Int))=some (a2u ((a0J (l.take zn[i]):Nat):Int) 5,wL (a0H ((a0J (l.take zn[i]):Nat):Int) 5 (a0H (wrap .u64 p.2.1[i]) 5 L))):=a3O (n:=5) (by omega) (by omega);have e:=c6c (part:=l.take zn[i]) (rest:=l.drop zn[i]) (a:=(zn.length:Int)) (b:=(i:Int)) (z:=a1r zn) (p:=p) v (by omega) (l.take zn[i]).length 0 (a0H ((a0J (l.take zn[i]):Nat):Int) 5 (a0H (wrap .u64 p.2.1[i]) 5 L)) (by omega) (by omega);simp only[nZ,a06]at e;simp only[a5o,dlt h,B,C,a3F h,D,E,cT,a02,tN,a0A f,oB,d,m,cF,u,I,o,a20,e,a0B (show i<1000000 by omega),a9R,if_pos h31];have m:(p.2.1[i] != 31)=true:=by simp_all
   simp[kB]at s;obtain⟨K,M⟩:=a03 (show 0≤p.2.1[i]by omega);have g:=c7e (k:=K) (l:=l.take zn[i]) (L:=a0H (wrap .u64 p.2.1[i]) 5 L) (by omega) (by omega) w (by omega);rw[←M]at g;have F:K=p.2.1[i].toNat:=by omega
   simp only[a5o,dlt h,B,C,a3F h,D,E,cT,a02,tN,a0A f,oB,d,m,g,a20,a0B (show i<1000000 by omega),a9R,if_neg h31,F]
  rw[a0E r];exact b7J N c R j (i+1) (l.drop zn[i]) _ (by omega) q.symm y (by omega) (by omega)
theorem b3V{zn:List Nat}{p:Prt}{l:List Int}(N:p.2.1.length=zn.length)(b:p.2.1.all kB=true)(T:zn.length≤256)(E:l.all a0C=true)(s:l.length≤5000):∀(j i off:Nat)(L:List Int),i+j=zn.length→off+(zn.drop i).sum=l.length→L.length+10*j+100*(l.length-off)<800000000→
  x0r a3T (l,(off:Int),(i:Int),a1r zn,(L,()),p,())=some ((a6J (zn.drop i) (p.2.1.drop i) (l.drop off) L,()),())
 |0,i,off,L,hi,_,_=>by
  obtain rfl:i=zn.length:=by omega
  simp_all[a0D,a3T,a6J,a0Z]
 |j+1,i,off,L,hi,hsum,hb=>by
  have a:i<zn.length:=by omega
  have f:i<p.2.1.length:=by omega
  have q:=lA.1 b _ (a04 f);rw[a9r a]at hsum;have y:decide ((0:Int)≤(i:Int))=true:=by simp
  have z:decide ((i:Int)<(((a1r zn).length:Nat):Int))=true:=by simp_all[a0Z]
  have w:wrap .i64 ((off:Int)+((zn[i]:Nat):Int))=((off+zn[i]:Nat):Int):=by grind[a0F]
  have A:decide ((0:Int)≤((off+zn[i]:Nat):Int))=true:=by rfl
  have B:decide (((off+zn[i]:Nat):Int)≤((l.length:Nat):Int))=true:=by grind
  have C:decide ((0:Int)≤(off:Int))=true:=by simp
  have D:decide ((off:Int)≤((off+zn[i]:Nat):Int))=true:=by grind
  have h:a68 off (a59 (off+zn[i]) l)=(l.drop off).take zn[i]:=by grind
  have d:(l.drop off).drop zn[i]=l.drop (off+zn[i]):=by simp
  have t:((l.drop off).take zn[i]).length=zn[i]:=by rw[a17,a32];omega
  have v:((l.drop off).take zn[i]).all a0C=true:=lA.2 fun x S=>lA.1 E x (a25 (a24 S));have Q:=b5C q ((l.drop off).take zn[i]) L;have O:=a0L (wrap .u64 p.2.1[i]) 5 L;have c:a0K ((L,()),wrap .u64 p.2.1[i],(5:Int))=some (a2u (wrap .u64 p.2.1[i]) 5,a0H (wrap .u64 p.2.1[i]) 5 L,()):=a1M (n:=5) (by omega) (by omega);have G:zn.drop i=zn[i]::zn.drop (i+1):=a00 a;have H:p.2.1.drop i=p.2.1[i]::p.2.1.drop (i+1):=a00 f;rw[G,H,a6J,d];have o:a3T (l,(off:Int),(i:Int),a1r zn,(L,()),p,())=some (.inl (l,((off+zn[i]:Nat):Int),((i+1:Nat):Int),a1r zn,(a9R p.2.1[i] ((l.drop off).take zn[i]) L,()),p,())):=by
   by_cases h31:p.2.1[i]=31
   have e:(p.2.1[i]==31)=true:=by simp_all
   have R:=a3e ((l.drop off).take zn[i]);have u:=a9q (l:=(l.drop off).take zn[i]) (by unfold short;omega);have P:=a0L ((a0J ((l.drop off).take zn[i]):Nat):Int) 5 (a0H (wrap .u64 p.2.1[i]) 5 L);have I:wrap .u64 ((a0J ((l.drop off).take zn[i]):Nat):Int)=((a0J ((l.drop off).take zn[i]):Nat):Int):=a1m (by omega);have m:a0K ((a0H (wrap .u64 p.2.1[i]) 5 L,()),((a0J ((l.drop off).take zn[i]):Nat):Int),(5:Int))=some (a2u ((a0J ((l.drop off).take zn[i]):Nat):Int) 5,a0H ((a0J ((l.drop off).take zn[i]):Nat):Int) 5 (a0H (wrap .u64 p.2.1[i]) 5 L),()):=a1M (n:=5) (by omega) (by omega);have r:=a7S (l:=(l.drop off).take zn[i]) (L:=a0H ((a0J ((l.drop off).take zn[i]):Nat):Int) 5 (a0H (wrap .u64 p.2.1[i]) 5 L)) (n:=a0J ((l.drop off).take zn[i])) (by omega) (by omega) (by omega);simp only[a3T,y,z,a3F a,w,A,B,C,D,cT,a02,tN,a0A f,oB,c,e,h,u,I,m,r,a0B (show i<1000000 by omega),a9R,if_pos h31];have e:(p.2.1[i]==31)=false:=by simp_all
   simp[kB]at q;obtain⟨K,M⟩:=a03 (show 0≤p.2.1[i]by omega);have g:=c4i (k:=K) (l:=(l.drop off).take zn[i]) (L:=a0H (wrap .u64 p.2.1[i]) 5 L) (by omega) (by omega) v (by omega);rw[←M]at g;have F:K=p.2.1[i].toNat:=by omega
   simp only[a3T,y,z,a3F a,w,A,B,C,D,cT,cF,a02,tN,a0A f,oB,c,e,h,g,a0B (show i<1000000 by omega),a9R,if_neg h31,F]
  rw[a0E o];exact b3V N b T E s j (i+1) (off+zn[i]) _ (by omega) (by omega) (by omega)
theorem c4j{k:Nat}(d:k≤25){x:Int}(g:a0C x=true):∃c,a8w ((k:Int),x)=some c∧0≤c∧c≤65:=by
 have e:=b1u g;have f:z0h .u64 ((a0P x:Nat):Int) (k:Int)=((a0P x / 2^k:Nat):Int):=a7B (by omega);have a:wrap .i64 ((a0P x / 2^k:Nat):Int)=((a0P x / 2^k:Nat):Int):=b2Y (a28 (a26 _ _) e);have h:decide ((k:Int)<0)=false:=by simp
 unfold a8w;simp only[b0E d,b2x,g,oB,bT,cF,b2y g,h,f,a];generalize a0P x / 2^k=q
 by_cases hq:q<32
 have b:decide ((q:Int)<32)=true:=decide_eq_true (by omega);refine⟨(q:Int)+1+k,?_,by omega,by omega⟩;simp only[b,cT]
 grind[a0F]
 grind
theorem c1m{k:Nat}(e:k≤25){x:Int}(g:a0C x=true):∃c,a5Y ((k:Int),x)=some c∧0≤c∧c≤65:=by
 have i:=b1u g;have f:z0h .u64 ((a0P x:Nat):Int) (k:Int)=((a0P x / 2^k:Nat):Int):=a7B (by omega);have b:wrap .i64 ((a0P x / 2^k:Nat):Int)=((a0P x / 2^k:Nat):Int):=b2Y (a28 (a26 _ _) i);have a:wrap .u64 (k:Int)=(k:Int):=a1m (by omega);have h:decide ((k:Int)<0)=false:=by simp
 unfold a5Y;simp only[b1v e,a2g,g,oB,bT,cF,b3H g,a,h,f,b];generalize a0P x / 2^k=q
 by_cases hq:q<32
 have d:decide ((q:Int)<32)=true:=decide_eq_true (by omega);refine⟨(q:Int)+1+k,?_,by omega,by omega⟩;simp only[d,cT]
 grind[a0F]
 grind
theorem c5j{k:Nat}(p:k≤25){l:List Int}(q:l.all a0C=true)(t:l.length<10000):∃c,a3W ((k:Int),l)=some c∧0≤c∧c≤65*l.length:=by
 have g:∀(j i:Nat)(c:Int),i+j=l.length→0≤c→c≤65*i→∃c',x0r a4D ((k:Int),c,l,(l.length:Int),(i:Int),())=some (c',())∧0≤c'∧c'≤65*l.length:=by
  intro j
  induction j with
  |zero=>
   intro i c o a f;obtain rfl:i=l.length:=by omega
   simp_all[a0D,a4D]
  |succ j ih=>
   intro i c o a f;have h:i<l.length:=by omega
   obtain⟨d,b,m,n⟩:=c4j p (lA.1 q _ (a04 h));have e:wrap .i64 (c+d)=c+d:=a0F (by omega);rw[a0E (s':=((k:Int),c+d,l,(l.length:Int),((i+1:Nat):Int),())) (by simp only[a4D,dlt h,cT,a0A h,oB,b,e,a0B (show i<1000000 by omega)])];exact ih (i+1) _ (by omega) (by omega) (by omega)
 obtain⟨c,f,r,s⟩:=g l.length 0 0 (by omega) (by omega) (by omega);simp_all[a3W]
theorem c2j{k:Nat}(p:k≤25){l:List Int}(q:l.all a0C=true)(t:l.length<10000):∃c,a3t ((k:Int),l)=some c∧0≤c∧c≤65*l.length:=by
 have g:∀(j i:Nat)(c:Int),i+j=l.length→0≤c→c≤65*i→∃c',x0r a3s ((k:Int),l,c,(i:Int),())=some (c',())∧0≤c'∧c'≤65*l.length:=by
  intro j
  induction j with
  |zero=>
   intro i c o a f;obtain rfl:i=l.length:=by omega
   simp_all[a0D,a3s]
  |succ j ih=>
   intro i c o a f;have h:i<l.length:=by omega
   obtain⟨d,b,m,n⟩:=c1m p (lA.1 q _ (a04 h));have e:wrap .i64 (c+d)=c+d:=a0F (by omega);rw[a0E (s':=((k:Int),l,c+d,((i+1:Nat):Int),())) (by simp only[a3s,dlt h,cT,a0A h,oB,b,e,a0B (show i<1000000 by omega)])];exact ih (i+1) _ (by omega) (by omega) (by omega)
 obtain⟨c,f,r,s⟩:=g l.length 0 0 (by omega) (by omega) (by omega);simp_all[a3t]
theorem c0F{w n:Nat}(g:w≤32)(f:n<10000):0≤(w:Int)*(n:Int)∧(w:Int)*(n:Int)≤32*n:=by
 have h:w*n≤32*n:=a37 _ g;omega
theorem c4k{l:List Int}(h:l.length<10000):∃c,a6L l=some c∧0≤c∧c≤5+32*l.length:=by
 have g:=c0F (a3e l) h;refine⟨5+((a0J l:Nat):Int)*((l.length:Nat):Int),?_,by omega,by omega⟩;unfold a6L;simp only[a6I (show short l by unfold short;omega),oB]
 grind[a0F]
theorem b6v{zn:List Nat}{p:Prt}(H:p.2.1.length=zn.length)(g:p.2.1.all kB=true)(I:zn.length≤256):∀(j i:Nat)(l:List Int)(c:Int),i+j=zn.length→(zn.drop i).sum=l.length→l.all a0C=true→l.length≤5000→4≤c→c+10*j+65*l.length<1000000→
  ∃c',x0r a1K (l,c,(zn.length:Int),(i:Int),a1r zn,p,())=some (c',())∧4≤c'
 |0,i,l,c,hi,_,_,_,hc,_=>by
  obtain rfl:i=zn.length:=by omega
  simp_all[a0D,a1K]
 |j+1,i,l,c,hi,hsum,hw,hl5,hc,hb=>by
  have h:i<zn.length:=by omega
  have f:i<p.2.1.length:=by omega
  have q:=lA.1 g _ (a04 f);rw[a9r h]at hsum;have z:decide ((0:Int)≤(i:Int))=true:=by simp
  have A:decide ((i:Int)<(((a1r zn).length:Nat):Int))=true:=by simp_all[a0Z]
  have B:decide ((0:Int)≤((zn[i]:Nat):Int))=true:=by simp
  have C:decide (((zn[i]:Nat):Int)≤((l.length:Nat):Int))=true:=by grind
  have s:(l.take zn[i]).length=zn[i]:=by simp_all
  have b:(l.drop zn[i]).length=(zn.drop (i+1)).sum:=by grind
  have v:(l.take zn[i]).all a0C=true:=lA.2 fun x y=>lA.1 hw x (a24 y);have w:(l.drop zn[i]).all a0C=true:=lA.2 fun x y=>lA.1 hw x (a25 y);have e:∃d,a1K (l,c,(zn.length:Int),(i:Int),a1r zn,p,())=some (.inl (l.drop zn[i],c+d,(zn.length:Int),((i+1:Nat):Int),a1r zn,p,()))∧0≤d∧d≤10+65*zn[i]:=by
   by_cases h31:p.2.1[i]=31
   have a:(p.2.1[i]==31)=true:=by simp_all
   obtain⟨r,m,t,u⟩:=c4k (l:=l.take zn[i]) (by omega);have n:wrap .i64 (5+r)=5+r:=a0F (by omega);have o:wrap .i64 (c+(5+r))=c+(5+r):=a0F (by omega);refine⟨5+r,?_,by omega,by omega⟩;simp only[a1K,dlt h,z,A,a3F h,B,C,cT,a02,tN,a0A f,oB,a,m,n,o,a20,a0B (show i<1000000 by omega)];have a:(p.2.1[i]==31)=false:=by simp_all
   simp[kB]at q;obtain⟨K,D⟩:=a03 (show 0≤p.2.1[i]by omega);obtain⟨r,m,t,u⟩:=c5j (k:=K) (by omega) v (by omega);rw[←D]at m;have n:wrap .i64 (5+r)=5+r:=a0F (by omega);have o:wrap .i64 (c+(5+r))=c+(5+r):=a0F (by omega);refine⟨5+r,?_,by omega,by omega⟩;simp only[a1K,dlt h,z,A,a3F h,B,C,cT,cF,a02,tN,a0A f,oB,a,m,n,o,a20,a0B (show i<1000000 by omega)]
  obtain⟨d,E,F,G⟩:=e;rw[a0E E];exact b6v H g I j (i+1) (l.drop zn[i]) _ (by omega) b.symm w (by omega) (by omega) (by omega)
theorem b2L{zn:List Nat}{p:Prt}{l:List Int}(H:p.2.1.length=zn.length)(h:p.2.1.all kB=true)(N:zn.length≤256)(t:l.all a0C=true)(o:l.length≤5000):∀(j i off:Nat)(c:Int),i+j=zn.length→off+(zn.drop i).sum=l.length→4≤c→c+10*j+65*(l.length-off:Nat)<1000000→
  ∃c',x0r a2y (l,c,(off:Int),(i:Int),a1r zn,p,())=some (c',())∧4≤c'
 |0,i,off,c,hi,_,hc,_=>by
  obtain rfl:i=zn.length:=by omega
  simp_all[a0D,a2y,a0Z]
 |j+1,i,off,c,hi,hsum,hc,hb=>by
  have b:i<zn.length:=by omega
  have a:i<p.2.1.length:=by omega
  have m:=lA.1 h _ (a04 a);rw[a9r b]at hsum;have y:decide ((0:Int)≤(i:Int))=true:=by simp
  have z:decide ((i:Int)<(((a1r zn).length:Nat):Int))=true:=by simp_all[a0Z]
  have w:wrap .i64 ((off:Int)+((zn[i]:Nat):Int))=((off+zn[i]:Nat):Int):=by grind[a0F]
  have A:decide ((0:Int)≤((off+zn[i]:Nat):Int))=true:=by rfl
  have B:decide (((off+zn[i]:Nat):Int)≤((l.length:Nat):Int))=true:=by grind
  have C:decide ((0:Int)≤(off:Int))=true:=by simp
  have D:decide ((off:Int)≤((off+zn[i]:Nat):Int))=true:=by grind
  have g:a68 off (a59 (off+zn[i]) l)=(l.drop off).take zn[i]:=by grind
  have q:((l.drop off).take zn[i]).length=zn[i]:=by rw[a17,a32];omega
  have s:((l.drop off).take zn[i]).all a0C=true:=lA.2 fun x M=>lA.1 t x (a25 (a24 M));have f:∃d,a2K (p.2.1[i],(l.drop off).take zn[i])=some d∧0≤d∧d≤5+65*zn[i]:=by
   unfold a2K
   by_cases h31:p.2.1[i]=31
   have e:(p.2.1[i]==31)=true:=by simp_all
   have P:=c0F (a3e ((l.drop off).take zn[i])) (show((l.drop off).take zn[i]).length<10000 by omega);refine⟨5+((a0J ((l.drop off).take zn[i]):Nat):Int)*((((l.drop off).take zn[i]).length:Nat):Int),?_,by omega,by omega⟩;simp only[e,cT,a9q (show short ((l.drop off).take zn[i])by unfold short;omega),oB];rw[Int.mul_comm (((((l.drop off).take zn[i]).length:Nat):Int)),a0F (n:=((a0J ((l.drop off).take zn[i]):Nat):Int)*((((l.drop off).take zn[i]).length:Nat):Int)) (by omega),a0F (by omega)];have e:(p.2.1[i]==31)=false:=by simp_all
   simp[kB]at m;obtain⟨K,O⟩:=a03 (show 0≤p.2.1[i]by omega);obtain⟨r,Q,I,L⟩:=c2j (k:=K) (by omega) s (by omega)
   grind
  obtain⟨d,E,F,G⟩:=f;have u:wrap .i64 (c+5)=c+5:=a0F (by omega);have v:wrap .i64 (c+5+d)=c+5+d:=a0F (by omega);rw[a0E (s':=(l,c+5+d,((off+zn[i]:Nat):Int),((i+1:Nat):Int),a1r zn,p,())) (by
   simp only[a2y,y,z,a3F b,w,A,B,C,D,cT,a02,tN,a0A a,oB,g,E,u,v,a0B (show i<1000000 by omega)])]
  exact b2L H h N t o j (i+1) (off+zn[i]) _ (by omega) (by omega) (by omega) (by omega)
structure PartsOk (p:Prt) (n warm:Int) (l:List Int) (zn:List Nat):Prop where
 may:a3d p n warm=true
 sizes:a1u p.1 n warm=a1r zn
 sum:zn.sum=l.length
 len:zn.length≤256
 ks:p.2.1.length=zn.length
 all:p.2.1.all kB=true
 wide:l.all a0C=true
 short:l.length≤5000
 row:a3h n warm=true
 rest:(l.length:Int)=n-warm
 order:0≤p.1∧p.1≤8
theorem PartsOk.of{p:Prt}{n warm:Int}{l:List Int}(h:a3d p n warm=true)(i:(l.length:Int)=n-warm)(j:l.all a0C=true)(e:l.length≤5000):∃g,PartsOk p n warm l g:=by
 have f:=h;simp only[a3d,bA,a48,beq_eq_false_iff_ne,ne_eq,beq_iff_eq]at f;obtain⟨c,o,d⟩:=f;obtain⟨g,a,m,b⟩:=b7k c;have k:a3h n warm=true∧0≤p.1∧p.1≤8:=by
  grind[a1u]
 exact⟨g,h,a,by omega,b,by simp_all[a0Z],d,j,e,k.1,i,k.2⟩
theorem b2Z{n warm:Int}{l:List Int}(h:a3h n warm=true)(c:(l.length:Int)=n-warm)(d:l.all a0C=true)(a:l.length≤5000):a8e (n,warm,l)=some true:=by
 have e:wrap .i64 (n-warm)=n-warm:=by
  simp[a3h]at h;exact a0F (by omega)
 have k:(((l.length:Nat):Int) != n-warm)=false:=by simp_all
 have f:b5h=a2S:=rfl;have g:short l:=by unfold short;omega
 have b:=a3U g;simp_all[a2I,a8e,b9Y]
theorem c3f{p:Prt}{n warm:Int}{l:List Int}{zn:List Nat}(h:PartsOk p n warm l zn):∃c,a5z (p,n,warm,l)=some c∧4≤c:=by
 have k:Go.Ab.short p.2.1:=by have:=h.ks;have:=h.len;unfold Go.Ab.short;omega
 have a:=h.short;have b:=h.len;obtain⟨c,g,f⟩:=b6v h.ks h.all h.len zn.length 0 l 4 (by omega) (by rw[a06];exact h.sum) h.wide h.short (by omega) (by omega);simp at g;refine⟨c,?_,f⟩;unfold a5z;simp only[b2w k,h.may,b2Z h.row h.rest h.wide h.short,oB,bT,cF,a3c,h.sizes,a0Z,g]
theorem c0G{p:Prt}{n warm:Int}{l:List Int}{zn:List Nat}(h:PartsOk p n warm l zn):∃c,a2t (p,n,warm,l)=some c∧4≤c:=by
 have a:Go.Ab.short p.2.1:=by have:=h.ks;have:=h.len;unfold Go.Ab.short;omega
 have d:Go.Ab.short l:=by have:=h.short;unfold Go.Ab.short;omega
 have i:=h.short;have j:=h.len;have b:=h.row;simp[a3h]at b;have e:wrap .i64 (n-warm)=n-warm:=a0F (by omega);have k:(((l.length:Nat):Int) != n-warm)=false:=by rw[h.rest];simp
 obtain⟨c,g,f⟩:=b2L h.ks h.all h.len h.wide h.short zn.length 0 0 4 (by omega) (by rw[a06,h.sum];omega) (by omega) (by omega);simp at g;refine⟨c,?_,f⟩;unfold a2t;simp only[a6G a,h.may,oB,bT,cF,e,k,a0M d,h.wide,a2h,h.sizes,g]
def a3f(p:Prt)(zn:List Nat)(l L:List Int):List Int:=a6J zn p.2.1 l (a0H (wrap .u64 p.1) 4 L)
theorem c6d{p:Prt}{n warm:Int}{l L:List Int}{zn:List Nat}(h:PartsOk p n warm l zn)(i:L.length<700000000):b3t (wL L,p,n,warm,l)=some (0,wL (a3f p zn l L)):=by
 have e:=h.short;have j:=h.len;obtain⟨c,a,b⟩:=c3f h;have k:(c==0)=false:=by grind
 have d:=a0L (wrap .u64 p.1) 4 L;have f:a0G (wL L,wrap .u64 p.1,(4:Int))=some (a2u (wrap .u64 p.1) 4,wL (a0H (wrap .u64 p.1) 4 L)):=a3O (n:=4) (by omega) (by omega);have g:=b7J h.ks h.all h.len zn.length 0 l (a0H (wrap .u64 p.1) 4 L) (by omega) (by rw[a06];exact h.sum) h.wide h.short (by omega);simp at g;unfold b3t;simp only[a,oB,k,cF,f,a3c,h.sizes,a0Z,g,a3f]
theorem c3g{p:Prt}{n warm:Int}{l L:List Int}{zn:List Nat}(h:PartsOk p n warm l zn)(i:L.length<700000000):b1h ((L,()),p,n,warm,l)=some (0,a3f p zn l L,()):=by
 have e:=h.short;have j:=h.len;obtain⟨c,a,b⟩:=c0G h;have k:(c==0)=false:=by grind
 have d:=a0L (wrap .u64 p.1) 4 L;have f:a0K ((L,()),wrap .u64 p.1,(4:Int))=some (a2u (wrap .u64 p.1) 4,a0H (wrap .u64 p.1) 4 L,()):=a1M (n:=4) (by omega) (by omega);have g:=b3V h.ks h.all h.len h.wide h.short zn.length 0 0 (a0H (wrap .u64 p.1) 4 L) (by omega) (by rw[a06,h.sum];omega) (by omega);simp at g;unfold b1h;simp only[a,oB,k,cF,f,a2h,h.sizes,g,a3f]
theorem c3h{c:List Int}{wd:Nat}(k:wd≤32)(g:c.length<10000):∀(j i:Nat)(L:List Int),i+j=c.length→L.length+64*j<999990000→
  x0r a6T ((wd:Int),c,(c.length:Int),(i:Int),wL L,())=some (wL (a1H wd (c.drop i) L),())
 |0,i,L,hi,_=>by
  obtain rfl:i=c.length:=by omega
  simp_all[a0D,a6T,a1H]
 |j+1,i,L,hi,hb=>by
  have h:i<c.length:=by omega
  have f:=a0L (a2M c[i] wd) wd L;rw[a00 h,a0E (s':=((wd:Int),c,(c.length:Int),((i+1:Nat):Int),wL (a0H (a2M c[i] wd) wd L),())) (by
   simp only[a6T,dlt h,cT,a0A h,oB,b5A (show wd≤63 by omega) (show L.length<999999000 by omega),a0B (show i<1000000 by omega)])]
  exact c3h k g j (i+1) _ (by omega) (by omega)
theorem c4K{t:List Int}{n wd:Int}{s:Sub}(a:t.length=3):∀(j i:Nat)(L:List Int),i+j=3→L.length+64*j<999990000→
  x0r b1U (n,wd,t,(i:Int),wL L,s,())=some (n,wd,wL (a1H 8 (t.drop i) L),s,())
 |0,i,L,hi,_=>by
  obtain rfl:i=t.length:=by omega
  grind[a0D,b1U,a1H]
 |j+1,i,L,hi,hb=>by
  have h:i<t.length:=by omega
  have f:decide ((i:Int)<3)=true:=by grind
  have k:=a0L (a2M t[i] 8) 8 L;have g:a3l (wL L,t[i],(8:Int))=some (wL (a0H (a2M t[i] 8) 8 L)):=b5A (n:=8) (by omega) (by omega);rw[a00 h,a0E (s':=(n,wd,t,((i+1:Nat):Int),wL (a0H (a2M t[i] 8) 8 L),s,())) (by
   simp only[b1U,f,cT,a0A h,oB,g,a0B (show i<1000000 by omega)])]
  exact c4K a j (i+1) _ (by omega) (by omega)
theorem c4L{l:List Int}{n:Int}{wd:Nat}{s:Sub}(k:wd≤32)(g:l.length<10000):∀(j i:Nat)(L:List Int),i+j=l.length→L.length+64*j<999990000→
  x0r b1W (n,(wd:Int),l,(l.length:Int),(i:Int),wL L,s,())=some (n,wL (a1H wd (l.drop i) L),s,())
 |0,i,L,hi,_=>by
  obtain rfl:i=l.length:=by omega
  simp_all[a0D,b1W,a1H]
 |j+1,i,L,hi,hb=>by
  have h:i<l.length:=by omega
  have f:=a0L (a2M l[i] wd) wd L;rw[a00 h,a0E (s':=(n,(wd:Int),l,(l.length:Int),((i+1:Nat):Int),wL (a0H (a2M l[i] wd) wd L),s,())) (by
   simp only[b1W,dlt h,cT,a0A h,oB,b5A (show wd≤63 by omega) (show L.length<999999000 by omega),a0B (show i<1000000 by omega)])]
  exact c4L k g j (i+1) _ (by omega) (by omega)
def a7w(s:Stg)(L:List Int):List Int:=a0H (wrap .u64 s.2.1) 4 (a0H (wrap .u64 (wrap .i64 (s.1-1))) 5 L)
def a3D(st:List Stg)(L:List Int):List Int:=st.foldl (fun L s=>a7w s L) L
theorem b4r(s:Stg)(L:List Int):(a7w s L).length≤L.length+9:=by
 grind[a0L,a7w]
theorem b7K:∀(st:List Stg)(L:List Int),(a3D st L).length≤L.length+9*st.length
 | [],L=>by simp[a3D]
 |s::st,L=>by
  have h:=b4r s L;have g:=b7K st (a7w s L);have e:a3D (s::st) L=a3D st (a7w s L):=rfl
  grind
theorem c1M{st:List Stg}{n wd:Int}{s:Sub}(a:st.length<10000):∀(j i:Nat)(L:List Int),i+j=st.length→L.length+64*j<999990000→
  x0r b1V (n,wd,st,(st.length:Int),(i:Int),wL L,s,())=some (n,wd,wL (a3D (st.drop i) L),s,())
 |0,i,L,hi,_=>by
  obtain rfl:i=st.length:=by omega
  simp_all[a0D,b1V,a3D]
 |j+1,i,L,hi,hb=>by
  have h:i<st.length:=by omega
  have k:=a0L (wrap .u64 (wrap .i64 (st[i].1-1))) 5 L;have b:=b4r st[i] L;have g:a0G (wL L,wrap .u64 (wrap .i64 (st[i].1-1)),(5:Int))=some (a2u (wrap .u64 (wrap .i64 (st[i].1-1))) 5,wL (a0H (wrap .u64 (wrap .i64 (st[i].1-1))) 5 L)):=a3O (n:=5) (by omega) (by omega);have f:a0G (wL (a0H (wrap .u64 (wrap .i64 (st[i].1-1))) 5 L),wrap .u64 st[i].2.1,(4:Int))=some (a2u (wrap .u64 st[i].2.1) 4,wL (a7w st[i] L)):=a3O (n:=4) (by omega) (by omega);rw[a00 h,a0E (s':=(n,wd,st,(st.length:Int),((i+1:Nat):Int),wL (a7w st[i] L),s,())) (by
   simp only[b1V,dlt h,cT,a0A h,oB,g,f,a0B (show i<1000000 by omega)])]
  exact c1M a j (i+1) _ (by omega) (by omega)
theorem b6w{n wd:Int}{s:Sub}(a:s.2.2.2.2.2.2.2.1.length<10000):∀(j i:Nat)(L:List Int),i+j=s.2.2.2.2.2.2.2.1.length→L.length+64*j<999990000→
  x0r a8X (n,wd,(i:Int),(L,()),s,())=some (n,wd,(a3D (s.2.2.2.2.2.2.2.1.drop i) L,()),s,())
 |0,i,L,hi,_=>by
  obtain rfl:i=s.2.2.2.2.2.2.2.1.length:=by omega
  simp_all[a0D,a8X,a3D]
 |j+1,i,L,hi,hb=>by
  have h:i<s.2.2.2.2.2.2.2.1.length:=by omega
  have k:=a0L (wrap .u64 (wrap .i64 (s.2.2.2.2.2.2.2.1[i].1-1))) 5 L;have b:=b4r s.2.2.2.2.2.2.2.1[i] L;have g:a0K ((L,()),wrap .u64 (wrap .i64 (s.2.2.2.2.2.2.2.1[i].1-1)),(5:Int))=some (a2u (wrap .u64 (wrap .i64 (s.2.2.2.2.2.2.2.1[i].1-1))) 5,a0H (wrap .u64 (wrap .i64 (s.2.2.2.2.2.2.2.1[i].1-1))) 5 L,()):=a1M (n:=5) (by omega) (by omega);have f:a0K ((a0H (wrap .u64 (wrap .i64 (s.2.2.2.2.2.2.2.1[i].1-1))) 5 L,()),wrap .u64 s.2.2.2.2.2.2.2.1[i].2.1,(4:Int))=some (a2u (wrap .u64 s.2.2.2.2.2.2.2.1[i].2.1) 4,a7w s.2.2.2.2.2.2.2.1[i] L,()):=a1M (n:=4) (by omega) (by omega);rw[a00 h,a0E (s':=(n,wd,((i+1:Nat):Int),(a7w s.2.2.2.2.2.2.2.1[i] L,()),s,())) (by
   simp only[a8X,dlt h,cT,a0A h,oB,g,f,a0B (show i<1000000 by omega)])]
  exact b6w a j (i+1) _ (by omega) (by omega)
def a5J(s:Sub)(L:List Int):List Int:=
 a1H (a0J s.2.2.2.2.2.1) s.2.2.2.2.2.1 (a0H ((a0J s.2.2.2.2.2.1:Nat):Int) 5 (a0H (wrap .u64 s.2.2.2.1) 4 (a0H (wrap .u64 (wrap .i64 (((s.2.2.2.2.2.1.length:Nat):Int)-1))) 5 L)))
theorem c5k{s:Sub}(h:s.2.2.2.2.2.1.length≤40)(L:List Int):(a5J s L).length≤L.length+2000:=by
 unfold a5J;have f:=a0L (wrap .u64 (wrap .i64 (((s.2.2.2.2.2.1.length:Nat):Int)-1))) 5 L;have k:=a0L (wrap .u64 s.2.2.2.1) 4 (a0H (wrap .u64 (wrap .i64 (((s.2.2.2.2.2.1.length:Nat):Int)-1))) 5 L);have a:=a0L ((a0J s.2.2.2.2.2.1:Nat):Int) 5 (a0H (wrap .u64 s.2.2.2.1) 4 (a0H (wrap .u64 (wrap .i64 (((s.2.2.2.2.2.1.length:Nat):Int)-1))) 5 L));have b:=a4p (a0J s.2.2.2.2.2.1) s.2.2.2.2.2.1 (a0H ((a0J s.2.2.2.2.2.1:Nat):Int) 5 (a0H (wrap .u64 s.2.2.2.1) 4 (a0H (wrap .u64 (wrap .i64 (((s.2.2.2.2.2.1.length:Nat):Int)-1))) 5 L)));have g:=a3e s.2.2.2.2.2.1
 have:a0J s.2.2.2.2.2.1*s.2.2.2.2.2.1.length≤32*40:=a60 g h
 omega
theorem c1N{s:Sub}(h:s.2.2.2.2.2.1.length≤40){L:List Int}(l:L.length<900000000):a9E (wL L,s)=some (wL (a5J s L)):=by
 have e:=a0L (wrap .u64 (wrap .i64 (((s.2.2.2.2.2.1.length:Nat):Int)-1))) 5 L;have i:=a0L (wrap .u64 s.2.2.2.1) 4 (a0H (wrap .u64 (wrap .i64 (((s.2.2.2.2.2.1.length:Nat):Int)-1))) 5 L);have j:=a0L ((a0J s.2.2.2.2.2.1:Nat):Int) 5 (a0H (wrap .u64 s.2.2.2.1) 4 (a0H (wrap .u64 (wrap .i64 (((s.2.2.2.2.2.1.length:Nat):Int)-1))) 5 L));have k:=a3e s.2.2.2.2.2.1;have f:wrap .u64 ((a0J s.2.2.2.2.2.1:Nat):Int)=((a0J s.2.2.2.2.2.1:Nat):Int):=a1m (by omega);have a:a0G (wL L,wrap .u64 (wrap .i64 (((s.2.2.2.2.2.1.length:Nat):Int)-1)),(5:Int))=some (a2u (wrap .u64 (wrap .i64 (((s.2.2.2.2.2.1.length:Nat):Int)-1))) 5,wL (a0H (wrap .u64 (wrap .i64 (((s.2.2.2.2.2.1.length:Nat):Int)-1))) 5 L)):=a3O (n:=5) (by omega) (by omega);have b:a0G (wL (a0H (wrap .u64 (wrap .i64 (((s.2.2.2.2.2.1.length:Nat):Int)-1))) 5 L),wrap .u64 s.2.2.2.1,(4:Int))=some (a2u (wrap .u64 s.2.2.2.1) 4,wL (a0H (wrap .u64 s.2.2.2.1) 4 (a0H (wrap .u64 (wrap .i64 (((s.2.2.2.2.2.1.length:Nat):Int)-1))) 5 L))):=a3O (n:=4) (by omega) (by omega);have d:a0G (wL (a0H (wrap .u64 s.2.2.2.1) 4 (a0H (wrap .u64 (wrap .i64 (((s.2.2.2.2.2.1.length:Nat):Int)-1))) 5 L)),((a0J s.2.2.2.2.2.1:Nat):Int),(5:Int))=some (a2u ((a0J s.2.2.2.2.2.1:Nat):Int) 5,wL (a0H ((a0J s.2.2.2.2.2.1:Nat):Int) 5 (a0H (wrap .u64 s.2.2.2.1) 4 (a0H (wrap .u64 (wrap .i64 (((s.2.2.2.2.2.1.length:Nat):Int)-1))) 5 L)))):=a3O (n:=5) (by omega) (by omega);have g:=c3h (c:=s.2.2.2.2.2.1) k (by omega) s.2.2.2.2.2.1.length 0 (a0H ((a0J s.2.2.2.2.2.1:Nat):Int) 5 (a0H (wrap .u64 s.2.2.2.1) 4 (a0H (wrap .u64 (wrap .i64 (((s.2.2.2.2.2.1.length:Nat):Int)-1))) 5 L))) (by omega) (by omega);simp at g;unfold a9E;simp only[a,b,a6I (show short s.2.2.2.2.2.1 by unfold short;omega),f,d,g,oB,a5J]
theorem b5D{s:Sub}(h:s.2.2.2.2.2.1.length≤40){L:List Int}(i:L.length<800000000):a6E ((L,()),s)=some (a5J s L,()):=by
 have c:=a0L (wrap .u64 (wrap .i64 (((s.2.2.2.2.2.1.length:Nat):Int)-1))) 5 L;have d:=a0L (wrap .u64 s.2.2.2.1) 4 (a0H (wrap .u64 (wrap .i64 (((s.2.2.2.2.2.1.length:Nat):Int)-1))) 5 L);have e:=a0L ((a0J s.2.2.2.2.2.1:Nat):Int) 5 (a0H (wrap .u64 s.2.2.2.1) 4 (a0H (wrap .u64 (wrap .i64 (((s.2.2.2.2.2.1.length:Nat):Int)-1))) 5 L));have j:=a3e s.2.2.2.2.2.1;have f:wrap .u64 ((a0J s.2.2.2.2.2.1:Nat):Int)=((a0J s.2.2.2.2.2.1:Nat):Int):=a1m (by omega);have k:a0K ((L,()),wrap .u64 (wrap .i64 (((s.2.2.2.2.2.1.length:Nat):Int)-1)),(5:Int))=some (a2u (wrap .u64 (wrap .i64 (((s.2.2.2.2.2.1.length:Nat):Int)-1))) 5,a0H (wrap .u64 (wrap .i64 (((s.2.2.2.2.2.1.length:Nat):Int)-1))) 5 L,()):=a1M (n:=5) (by omega) (by omega);have a:a0K ((a0H (wrap .u64 (wrap .i64 (((s.2.2.2.2.2.1.length:Nat):Int)-1))) 5 L,()),wrap .u64 s.2.2.2.1,(4:Int))=some (a2u (wrap .u64 s.2.2.2.1) 4,a0H (wrap .u64 s.2.2.2.1) 4 (a0H (wrap .u64 (wrap .i64 (((s.2.2.2.2.2.1.length:Nat):Int)-1))) 5 L),()):=a1M (n:=4) (by omega) (by omega);have b:a0K ((a0H (wrap .u64 s.2.2.2.1) 4 (a0H (wrap .u64 (wrap .i64 (((s.2.2.2.2.2.1.length:Nat):Int)-1))) 5 L),()),((a0J s.2.2.2.2.2.1:Nat):Int),(5:Int))=some (a2u ((a0J s.2.2.2.2.2.1:Nat):Int) 5,a0H ((a0J s.2.2.2.2.2.1:Nat):Int) 5 (a0H (wrap .u64 s.2.2.2.1) 4 (a0H (wrap .u64 (wrap .i64 (((s.2.2.2.2.2.1.length:Nat):Int)-1))) 5 L)),()):=a1M (n:=5) (by omega) (by omega);have g:=a7S (l:=s.2.2.2.2.2.1) (n:=a0J s.2.2.2.2.2.1) (L:=a0H ((a0J s.2.2.2.2.2.1:Nat):Int) 5 (a0H (wrap .u64 s.2.2.2.1) 4 (a0H (wrap .u64 (wrap .i64 (((s.2.2.2.2.2.1.length:Nat):Int)-1))) 5 L))) (by omega) (by omega) (by omega);unfold a6E;simp only[k,a,a9q (show short s.2.2.2.2.2.1 by unfold short;omega),f,b,g,oB,a5J]
def b1k(s:Sub)(L:List Int):List Int:=
 a0H ((a0J s.2.2.2.2.2.2.2.2.1:Nat):Int) 5 (a0H (wrap .u64 s.2.1) 5 (a0H (wrap .u64 s.1) 3 L))
def a1A(s:Sub)(L:List Int):List Int:=
 if s.1=2 then a0H (wrap .u64 s.2.2.1) 3 L
 else if s.1=3 then a5J s L
 else if s.1=4 then a5J s (a1H 8 s.2.2.2.2.2.2.1 (a0H (wrap .u64 (wrap .i64 (s.2.2.2.2.1-1))) 10 L))
 else if s.1=5 then a3D s.2.2.2.2.2.2.2.1 (a0H (wrap .u64 ((s.2.2.2.2.2.2.2.1.length:Nat):Int)) 2 L)
 else L
theorem c0H{s:Sub}(h:SmallS s)(L:List Int):(a1A s L).length≤L.length+3000:=by
 have f:=h.coefs;have k:=h.taps;have g:=h.stages
 grind[a1A,a0L,c5k,a4p,b7K]
theorem b4s:∀(zs:List Nat)(ks l L:List Int),ks.all kB=true→(a6J zs ks l L).length≤L.length+10*zs.length+100*l.length
 |z::zs,k::ks,l,L,h=>by
  simp only[a18,bA]at h;have g:=b5C h.1 (l.take z) L;have f:=b4s zs ks (l.drop z) (a9R k (l.take z) L) h.2;rw[a17]at g;rw[a32]at f;simp only[a6J,lC];omega
 | [],_,_,_,_=>by simp_all[a6J]
 |_::_,[],_,_,_=>by grind[a6J]
def a4x(s:Sub)(zn:List Nat)(L:List Int):List Int:=
 if s.1=0∨s.1=1 then a1H (a0J s.2.2.2.2.2.2.2.2.1) s.2.2.2.2.2.2.2.2.1 (a1A s (b1k s L))
 else a3f s.2.2.2.2.2.2.2.2.2.1 zn s.2.2.2.2.2.2.2.2.2.2.1 (a1H (a0J s.2.2.2.2.2.2.2.2.1) s.2.2.2.2.2.2.2.2.1 (a1A s (b1k s L)))
theorem c3i{s:Sub}(h:SmallS s){n:Int}{L:List Int}(S:L.length<100000000):
  ∃(e:Int)(L':List Int),b5Y (wL L,s,n)=some (e,wL L')∧(e=0∨L'=L)∧L'.length≤L.length+700000∧
   ((a2p s n).isSome=true→e=0∧∃a,L'=a4x s a L∧(s.1≠0∧s.1≠1→PartsOk s.2.2.2.2.2.2.2.2.2.1 n ((s.2.2.2.2.2.2.2.2.1.length:Nat):Int) s.2.2.2.2.2.2.2.2.2.2.1 a))∧((a2p s n).isSome=false→e=1∧L'=L):=by
 unfold b5Y;simp only[c8R h,oB];cases hs:(a2p s n).isSome with
 |false=>exact⟨1,L,rfl,.inr rfl,by omega,fun h=>(by grind),fun _=>⟨rfl,rfl⟩⟩
 |true=>
  have hp:a1y s n:=by
   grind[a2p]
  obtain⟨Q,R,A,-,-,-,-,v,E,B,-,p⟩:=hp;have b:=b3U A;have m:=a3e s.2.2.2.2.2.2.2.2.1;have u:short s.2.2.2.2.2.2.2.2.1:=by have:=h.warm;unfold short;omega
  have c:=h.warm;have r:=h.rest;have C:=h.stages;have D:=h.taps;have T:=a0L (wrap .u64 s.1) 3 L;have U:=a0L (wrap .u64 s.2.1) 5 (a0H (wrap .u64 s.1) 3 L);have V:=a0L ((a0J s.2.2.2.2.2.2.2.2.1:Nat):Int) 5 (a0H (wrap .u64 s.2.1) 5 (a0H (wrap .u64 s.1) 3 L));have z:wrap .u64 ((a0J s.2.2.2.2.2.2.2.2.1:Nat):Int)=((a0J s.2.2.2.2.2.2.2.2.1:Nat):Int):=a1m (by omega);have I:a0G (wL L,wrap .u64 s.1,(3:Int))=some (a2u (wrap .u64 s.1) 3,wL (a0H (wrap .u64 s.1) 3 L)):=a3O (n:=3) (by omega) (by omega);have K:a0G (wL (a0H (wrap .u64 s.1) 3 L),wrap .u64 s.2.1,(5:Int))=some (a2u (wrap .u64 s.2.1) 5,wL (a0H (wrap .u64 s.2.1) 5 (a0H (wrap .u64 s.1) 3 L))):=a3O (n:=5) (by omega) (by omega);have w:a0G (wL (a0H (wrap .u64 s.2.1) 5 (a0H (wrap .u64 s.1) 3 L)),((a0J s.2.2.2.2.2.2.2.2.1:Nat):Int),(5:Int))=some (a2u ((a0J s.2.2.2.2.2.2.2.2.1:Nat):Int) 5,wL (b1k s L)):=a3O (n:=5) (by omega) (by omega);have N:(b1k s L).length≤L.length+13:=by unfold b1k;omega
  generalize hM:b1k s L=M at w N;have X:=c0H h M;have O:=a4p (a0J s.2.2.2.2.2.2.2.2.1) s.2.2.2.2.2.2.2.2.1 (a1A s M);have Y:a0J s.2.2.2.2.2.2.2.2.1*s.2.2.2.2.2.2.2.2.1.length≤32*5000:=a60 m c;have g:=c4L (l:=s.2.2.2.2.2.2.2.2.1) (n:=n) (s:=s) m (by omega) s.2.2.2.2.2.2.2.2.1.length 0 (a1A s M) (by omega) (by omega);simp at g

  have i:=c1M (st:=s.2.2.2.2.2.2.2.1) (n:=n) (wd:=((a0J s.2.2.2.2.2.2.2.2.1:Nat):Int)) (s:=s) (by omega) s.2.2.2.2.2.2.2.1.length 0 (a0H (wrap .u64 ((s.2.2.2.2.2.2.2.1.length:Nat):Int)) 2 M) (by omega) (by grind[a0L]);have Z:=a0L (wrap .u64 (wrap .i64 (s.2.2.2.2.1-1))) 10 M;have q9:=a4p 8 s.2.2.2.2.2.2.1 (a0H (wrap .u64 (wrap .i64 (s.2.2.2.2.1-1))) 10 M);have j:=c4K (t:=s.2.2.2.2.2.2.1) (n:=n) (wd:=((a0J s.2.2.2.2.2.2.2.2.1:Nat):Int)) (s:=s) D 3 0 (a0H (wrap .u64 (wrap .i64 (s.2.2.2.2.1-1))) 10 M) (by rfl) (by omega);simp at i j;have F:a0G (wL M,wrap .u64 s.2.2.1,(3:Int))=some (a2u (wrap .u64 s.2.2.1) 3,wL (a0H (wrap .u64 s.2.2.1) 3 M)):=a3O (n:=3) (by omega) (by omega);have G:a0G (wL M,wrap .u64 (wrap .i64 (s.2.2.2.2.1-1)),(10:Int))=some (a2u (wrap .u64 (wrap .i64 (s.2.2.2.2.1-1))) 10,wL (a0H (wrap .u64 (wrap .i64 (s.2.2.2.2.1-1))) 10 M)):=a3O (n:=10) (by omega) (by omega);have H:a0G (wL M,wrap .u64 ((s.2.2.2.2.2.2.2.1.length:Nat):Int),(2:Int))=some (a2u (wrap .u64 ((s.2.2.2.2.2.2.2.1.length:Nat):Int)) 2,wL (a0H (wrap .u64 ((s.2.2.2.2.2.2.2.1.length:Nat):Int)) 2 M)):=a3O (n:=2) (by omega) (by omega);have x:=c1N (s:=s) h.coefs (L:=M) (by omega);have y:=c1N (s:=s) h.coefs (L:=a1H 8 s.2.2.2.2.2.2.1 (a0H (wrap .u64 (wrap .i64 (s.2.2.2.2.1-1))) 10 M)) (by omega);simp only[bT,cF,a6I u,oB,I,K,z,w];generalize hPM:a1H (a0J s.2.2.2.2.2.2.2.2.1) s.2.2.2.2.2.2.2.2.1 (a1A s M)=PM at g O

  have o:∀(d:s.1≠0∧s.1≠1),∃a,PartsOk s.2.2.2.2.2.2.2.2.2.1 n ((s.2.2.2.2.2.2.2.2.1.length:Nat):Int) s.2.2.2.2.2.2.2.2.2.2.1 a:=fun d=>by
   simp_all[PartsOk.of]
  rcases b with k|k|k|k|k|k;have f:a1A s M=M:=by unfold a1A;grind
  rw[f]at g;refine⟨0,PM,?_,.inl rfl,by omega,fun _=>⟨rfl,[],by simp_all[a4x],fun h=>absurd k (by omega)⟩,fun h=>by grind⟩;simp only[k,show((0:Int)==2)=false from rfl,show((0:Int)==4)=false from rfl,show((0:Int)==3)=false from rfl,show((0:Int)==5)=false from rfl,cF,oB,g,a9p]
  simp
  have f:a1A s M=M:=by unfold a1A;grind
  rw[f]at g;refine⟨0,PM,?_,.inl rfl,by omega,fun _=>⟨rfl,[],by simp_all[a4x],fun h=>absurd k (by omega)⟩,fun h=>by grind⟩;simp only[k,show((1:Int)==2)=false from rfl,show((1:Int)==4)=false from rfl,show((1:Int)==3)=false from rfl,show((1:Int)==5)=false from rfl,cF,oB,g,a9p]
  simp
  all_goals
   obtain⟨a,q⟩:=o (by omega);have t1:=c6d (L:=PM) q (by omega);have P:(a3f s.2.2.2.2.2.2.2.2.2.1 a s.2.2.2.2.2.2.2.2.2.2.1 PM).length≤L.length+700000:=by
    have z1:=a0L (wrap .u64 s.2.2.2.2.2.2.2.2.2.1.1) 4 PM;have z2:=b4s a s.2.2.2.2.2.2.2.2.2.1.2.1 s.2.2.2.2.2.2.2.2.2.2.1 (a0H (wrap .u64 s.2.2.2.2.2.2.2.2.2.1.1) 4 PM) q.all;have z3:=q.len
    grind[a3f]
   refine⟨0,a3f s.2.2.2.2.2.2.2.2.2.1 a s.2.2.2.2.2.2.2.2.2.2.1 PM,?_,.inl rfl,P,fun _=>⟨rfl,a,by simp_all[a4x],fun _=>q⟩,fun h=>by grind⟩
  have f:a1A s M=a0H (wrap .u64 s.2.2.1) 3 M:=by unfold a1A;grind
  rw[f]at g;simp only[k,show((2:Int)==2)=true from rfl,cT,F,oB,g,a9p]
  grind
  have f:a1A s M=a5J s M:=by unfold a1A;grind
  rw[f]at g;simp only[k,show((3:Int)==2)=false from rfl,show((3:Int)==4)=false from rfl,show((3:Int)==3)=true from rfl,cT,cF,x,oB,g,a9p]
  grind
  have f:a1A s M=a5J s (a1H 8 s.2.2.2.2.2.2.1 (a0H (wrap .u64 (wrap .i64 (s.2.2.2.2.1-1))) 10 M)):=by unfold a1A;grind
  rw[f]at g;simp only[k,show((4:Int)==2)=false from rfl,show((4:Int)==4)=true from rfl,cT,cF,G,j,y,oB,g,a9p]
  grind
  have f:a1A s M=a3D s.2.2.2.2.2.2.2.1 (a0H (wrap .u64 ((s.2.2.2.2.2.2.2.1.length:Nat):Int)) 2 M):=by unfold a1A;grind
  rw[f]at g;simp only[k,show((5:Int)==2)=false from rfl,show((5:Int)==4)=false from rfl,show((5:Int)==3)=false from rfl,show((5:Int)==5)=true from rfl,cT,cF,H,i,oB,g,a9p]
  grind
theorem c8T{s:Sub}(h:SmallS s){n:Int}{L:List Int}(Q:L.length<100000000):
  ∃(e:Int)(L':List Int),b2o ((L,()),s,n)=some (e,L',())∧(e=0∨L'=L)∧L'.length≤L.length+700000∧
   ((a2p s n).isSome=true→e=0∧∃a,L'=a4x s a L∧(s.1≠0∧s.1≠1→PartsOk s.2.2.2.2.2.2.2.2.2.1 n ((s.2.2.2.2.2.2.2.2.1.length:Nat):Int) s.2.2.2.2.2.2.2.2.2.2.1 a))∧((a2p s n).isSome=false→e=1∧L'=L):=by
 unfold b2o;simp only[c5h h,oB];cases hs:(a2p s n).isSome with
 |false=>grind
 |true=>
  have hp:a1y s n:=by
   grind[a2p]
  obtain⟨O,P,D,-,-,-,-,A,G,E,-,o⟩:=hp;have c:=b3U D;have w:=a3e s.2.2.2.2.2.2.2.2.1;have v:short s.2.2.2.2.2.2.2.2.1:=by have:=h.warm;unfold short;omega
  have d:=h.warm;have u:=h.rest;have F:=h.stages;have R:=h.taps;have S:=a0L (wrap .u64 s.1) 3 L;have T:=a0L (wrap .u64 s.2.1) 5 (a0H (wrap .u64 s.1) 3 L);have U:=a0L ((a0J s.2.2.2.2.2.2.2.2.1:Nat):Int) 5 (a0H (wrap .u64 s.2.1) 5 (a0H (wrap .u64 s.1) 3 L));have C:wrap .u64 ((a0J s.2.2.2.2.2.2.2.2.1:Nat):Int)=((a0J s.2.2.2.2.2.2.2.2.1:Nat):Int):=a1m (by omega);have K:a0K ((L,()),wrap .u64 s.1,(3:Int))=some (a2u (wrap .u64 s.1) 3,a0H (wrap .u64 s.1) 3 L,()):=a1M (n:=3) (by omega) (by omega);have r2:a0K ((a0H (wrap .u64 s.1) 3 L,()),wrap .u64 s.2.1,(5:Int))=some (a2u (wrap .u64 s.2.1) 5,a0H (wrap .u64 s.2.1) 5 (a0H (wrap .u64 s.1) 3 L),()):=a1M (n:=5) (by omega) (by omega);have B:a0K ((a0H (wrap .u64 s.2.1) 5 (a0H (wrap .u64 s.1) 3 L),()),((a0J s.2.2.2.2.2.2.2.2.1:Nat):Int),(5:Int))=some (a2u ((a0J s.2.2.2.2.2.2.2.2.1:Nat):Int) 5,b1k s L,()):=a1M (n:=5) (by omega) (by omega);have H:(b1k s L).length≤L.length+13:=by unfold b1k;omega
  generalize hM:b1k s L=M at B H;have V:=c0H h M;have I:=a4p (a0J s.2.2.2.2.2.2.2.2.1) s.2.2.2.2.2.2.2.2.1 (a1A s M);have X:a0J s.2.2.2.2.2.2.2.2.1*s.2.2.2.2.2.2.2.2.1.length≤32*5000:=a60 w d;have g:=a7S (l:=s.2.2.2.2.2.2.2.2.1) (n:=a0J s.2.2.2.2.2.2.2.2.1) (L:=a1A s M) (by omega) (by omega) (by omega)

  have b:=b6w (n:=n) (wd:=((a0J s.2.2.2.2.2.2.2.2.1:Nat):Int)) (s:=s) (by omega) s.2.2.2.2.2.2.2.1.length 0 (a0H (wrap .u64 ((s.2.2.2.2.2.2.2.1.length:Nat):Int)) 2 M) (by omega) (by grind[a0L]);have Y:=a0L (wrap .u64 (wrap .i64 (s.2.2.2.2.1-1))) 10 M;have Z:=a4p 8 s.2.2.2.2.2.2.1 (a0H (wrap .u64 (wrap .i64 (s.2.2.2.2.1-1))) 10 M);have j:a3b ((a0H (wrap .u64 (wrap .i64 (s.2.2.2.2.1-1))) 10 M,()),s.2.2.2.2.2.2.1,(8:Int))=some (a1H 8 s.2.2.2.2.2.2.1 (a0H (wrap .u64 (wrap .i64 (s.2.2.2.2.1-1))) 10 M),()):=a7S (n:=8) (by omega) (by omega) (by omega);have t:a59 3 s.2.2.2.2.2.2.1=s.2.2.2.2.2.2.1:=a22 (by omega);simp at b;have x:a0K ((M,()),wrap .u64 s.2.2.1,(3:Int))=some (a2u (wrap .u64 s.2.2.1) 3,a0H (wrap .u64 s.2.2.1) 3 M,()):=a1M (n:=3) (by omega) (by omega);have y:a0K ((M,()),wrap .u64 (wrap .i64 (s.2.2.2.2.1-1)),(10:Int))=some (a2u (wrap .u64 (wrap .i64 (s.2.2.2.2.1-1))) 10,a0H (wrap .u64 (wrap .i64 (s.2.2.2.2.1-1))) 10 M,()):=a1M (n:=10) (by omega) (by omega);have z:a0K ((M,()),wrap .u64 ((s.2.2.2.2.2.2.2.1.length:Nat):Int),(2:Int))=some (a2u (wrap .u64 ((s.2.2.2.2.2.2.2.1.length:Nat):Int)) 2,a0H (wrap .u64 ((s.2.2.2.2.2.2.2.1.length:Nat):Int)) 2 M,()):=a1M (n:=2) (by omega) (by omega);have q:=b5D (s:=s) h.coefs (L:=M) (by omega);have r:=b5D (s:=s) h.coefs (L:=a1H 8 s.2.2.2.2.2.2.1 (a0H (wrap .u64 (wrap .i64 (s.2.2.2.2.1-1))) 10 M)) (by omega);simp only[bT,cF,a9q v,oB,K,r2,C,B];generalize hPM:a1H (a0J s.2.2.2.2.2.2.2.2.1) s.2.2.2.2.2.2.2.2.1 (a1A s M)=PM at g I

  have m:∀(i:s.1≠0∧s.1≠1),∃a,PartsOk s.2.2.2.2.2.2.2.2.2.1 n ((s.2.2.2.2.2.2.2.2.1.length:Nat):Int) s.2.2.2.2.2.2.2.2.2.2.1 a:=fun i=>by
   simp_all[PartsOk.of]
  rcases c with k|k|k|k|k|k;have f:a1A s M=M:=by unfold a1A;grind
  rw[f]at g;refine⟨0,PM,?_,.inl rfl,by omega,fun _=>⟨rfl,[],by simp_all[a4x],fun h=>absurd k (by omega)⟩,fun h=>by grind⟩;simp only[k,show((0:Int)==2)=false from rfl,show((0:Int)==4)=false from rfl,show((0:Int)==3)=false from rfl,show((0:Int)==5)=false from rfl,cF,oB,g,a6H]
  simp
  have f:a1A s M=M:=by unfold a1A;grind
  rw[f]at g;refine⟨0,PM,?_,.inl rfl,by omega,fun _=>⟨rfl,[],by simp_all[a4x],fun h=>absurd k (by omega)⟩,fun h=>by grind⟩;simp only[k,show((1:Int)==2)=false from rfl,show((1:Int)==4)=false from rfl,show((1:Int)==3)=false from rfl,show((1:Int)==5)=false from rfl,cF,oB,g,a6H]
  simp
  all_goals
   obtain⟨a,p⟩:=m (by omega);have t2:=c3g (L:=PM) p (by omega);have N:(a3f s.2.2.2.2.2.2.2.2.2.1 a s.2.2.2.2.2.2.2.2.2.2.1 PM).length≤L.length+700000:=by
    have z1:=a0L (wrap .u64 s.2.2.2.2.2.2.2.2.2.1.1) 4 PM;have z2:=b4s a s.2.2.2.2.2.2.2.2.2.1.2.1 s.2.2.2.2.2.2.2.2.2.2.1 (a0H (wrap .u64 s.2.2.2.2.2.2.2.2.2.1.1) 4 PM) p.all;have z3:=p.len
    grind[a3f]
   refine⟨0,a3f s.2.2.2.2.2.2.2.2.2.1 a s.2.2.2.2.2.2.2.2.2.2.1 PM,?_,.inl rfl,N,fun _=>⟨rfl,a,by simp_all[a4x],fun _=>p⟩,fun h=>by grind⟩
  have f:a1A s M=a0H (wrap .u64 s.2.2.1) 3 M:=by unfold a1A;grind
  rw[f]at g;simp only[k,show((2:Int)==2)=true from rfl,cT,x,oB,g,a6H]
  grind
  have f:a1A s M=a5J s M:=by unfold a1A;grind
  rw[f]at g;simp only[k,show((3:Int)==2)=false from rfl,show((3:Int)==3)=true from rfl,cT,cF,q,oB,g,a6H]
  grind
  have f:a1A s M=a5J s (a1H 8 s.2.2.2.2.2.2.1 (a0H (wrap .u64 (wrap .i64 (s.2.2.2.2.1-1))) 10 M)):=by unfold a1A;grind
  rw[f]at g;simp only[k,show((4:Int)==2)=false from rfl,show((4:Int)==3)=false from rfl,show((4:Int)==4)=true from rfl,cT,cF,y,t,j,r,oB,g,a6H]
  grind
  have f:a1A s M=a3D s.2.2.2.2.2.2.2.1 (a0H (wrap .u64 ((s.2.2.2.2.2.2.2.1.length:Nat):Int)) 2 M):=by unfold a1A;grind
  rw[f]at g;simp only[k,show((5:Int)==2)=false from rfl,show((5:Int)==4)=false from rfl,show((5:Int)==3)=false from rfl,show((5:Int)==5)=true from rfl,cT,cF,z,b,oB,g,a6H]
  grind
theorem b7l(h:List Nat):(a1r h).map a35=h:=by
 unfold a1r;rw[List.map_map]
 have:a35∘(fun(a:Nat)=>(a:Int))=id:=by rfl
 simp_all
def a3Z(s:Sub)(n:Int):Int:=
 if(a2p s n).isSome=true then(((a4x s ((a1u s.2.2.2.2.2.2.2.2.2.1.1 n ((s.2.2.2.2.2.2.2.2.1.length:Nat):Int)).map a35) []).length:Nat):Int)else 0
theorem c4l{s:Sub}{n:Int}{zn:List Nat}(h:s.1≠0∧s.1≠1→PartsOk s.2.2.2.2.2.2.2.2.2.1 n ((s.2.2.2.2.2.2.2.2.1.length:Nat):Int) s.2.2.2.2.2.2.2.2.2.2.1 zn)(L:List Int):
  a4x s zn L=a4x s ((a1u s.2.2.2.2.2.2.2.2.2.1.1 n ((s.2.2.2.2.2.2.2.2.1.length:Nat):Int)).map a35) L:=by
 by_cases hk:s.1=0∨s.1=1
 unfold a4x;rw[if_pos hk,if_pos hk];rw[(h (not_or.1 hk)).sizes,b7l]
theorem d2L{s:Sub}(h:SmallS s)(n:Int):b4M (s,n)=some (a3Z s n):=by
 obtain⟨e,f,g,-,-,k,a⟩:=c3i h (n:=n) (L:=[]) (by simp);have b:wL []=(([]:List Int),(0:Int),()):=rfl;rw[b]at g;obtain⟨d,-⟩:=c5X f;unfold b4M a3Z;simp only[g,oB,a9Z];cases hs:(a2p s n).isSome with
 |false=>
  obtain⟨rfl,rfl⟩:=a hs;rfl
 |true=>
  obtain⟨rfl,i,rfl,c⟩:=k hs;rw[if_pos rfl,←c4l c];simp only[d,show((0:Int) != 0)=false from rfl,cF]
theorem c7f{s:Sub}(h:SmallS s)(n:Int):b1i (s,n)=some (a3Z s n):=by
 obtain⟨e,b,g,-,-,f,k⟩:=c8T h (n:=n) (L:=[]) (by simp);unfold b1i a3Z;simp only[g,oB,b2p];cases hs:(a2p s n).isSome with
 |false=>
  obtain⟨rfl,rfl⟩:=k hs;rfl
 |true=>
  obtain⟨rfl,c,rfl,a⟩:=f hs;rw[if_pos rfl,←c4l a]
def dif:List Int→List Int
 |a::b::r=>W (b-a)::dif (b::r)
 |_=>[]
theorem a5a:∀l:List Int,(dif l).length=l.length-1
 | []=>rfl
 | [_]=>rfl
 |a::b::r=>by simp[dif,a5a (b::r)]
theorem c1a:∀(l:List Int)(i:Nat)(x y:Int),l[i]?=some x→l[i+1]?=some y→(dif l)[i]?=some (W (y-x))
 |a::b::r,0,x,y,h1,h2=>by simp at h1 h2;subst h1;subst h2;rfl
 |a::b::r,i+1,x,y,h1,h2=>by
  simp only[dif,List.getElem?_cons_succ]at h1 h2⊢;exact c1a (b::r) i x y h1 h2
 | [_],0,x,y,h1,h2=>by simp at h2
 | [_],i+1,x,y,h1,h2=>by simp at h1
 | [],i,x,y,h1,h2=>by simp at h1
def a1F:Nat→List Int→List Int
 |0,l=>l
 |o+1,l=>dif (a1F o l)
theorem a5e(l:List Int):∀o,(a1F o l).length=l.length-o
 |0=>rfl
 |o+1=>by simp only[a1F,a5a,a5e l o];omega
theorem b2z{l:List Int}(h:short l)(o:Nat):short (a1F o l):=by
 have h:l.length<1000000:=h;show(a1F o l).length<1000000;rw[a5e];omega
def b2A(l:List Int)(i:Nat):List Int:=(dif l).take i++l.drop i
theorem b7m{l:List Int}{i:Nat}(h:i≤l.length-1):(b2A l i).length=l.length:=by
 simp only[b2A,lN,a17,a32,a5a];omega
theorem c4M{l:List Int}{i j:Nat}(h:i≤l.length-1)(g:i≤j):(b2A l i).getD j 0=l.getD j 0:=by
 have e:((dif l).take i).length=i:=by rw[a17,a5a];omega
 rw[lD,lD,b2A,List.getElem?_append_right (by omega),e,List.getElem?_drop];congr 2;omega
theorem d1a{l:List Int}{i:Nat}(h:i<l.length-1):(b2A l i).set i (W (l.getD (i+1) 0-l.getD i 0))=b2A l (i+1):=by
 have e:((dif l).take i).length=i:=by rw[a17,a5a];omega
 have f:l[i]?=some l[i]:=lG (by omega);have k:l[i+1]?=some l[i+1]:=lG (by omega);have a:=c1a l i _ _ f k;have g:i<(dif l).length:=by rw[a5a];omega
 simp only[b2A];rw[List.set_append,if_neg (by omega),e,a51,a00 (show i<l.length by omega),a46,a41 g,aA];have b:(dif l)[i]=W (l.getD (i+1) 0-l.getD i 0):=by
  rw[lG g]at a;rw[Option.some.inj a,lD,lD,f,k];rfl
 rw[b];rfl
theorem c8U{l:List Int}{o k:Int}(d:short l)(h:1≤l.length):x0r a6c ((0:Int),o,k,l,())=some (o,k,b2A l (l.length-1),()):=by
 have d:l.length<1000000:=d;have r:b2A l 0=l:=by simp[b2A]
 have:=a0R (f:=a6c) (fun i:Nat=>((i:Int),o,k,b2A l i,())) (l.length-1) (b:=(o,k,b2A l (l.length-1),()))
  (fun i u=>by
   have c:wrap .i64 ((i:Int)+1)=((i+1:Nat):Int):=a0B (by omega);have a:=b7m (l:=l) (i:=i) (by omega);have g:decide (((i+1:Nat):Int)<((l.length:Nat):Int))=true:=by simp;omega
   have e:decide ((0:Int)≤((i+1:Nat):Int))=true:=by simp;omega
   have m:decide ((0:Int)≤(i:Int))=true:=by simp
   have n:decide ((i:Int)<((l.length:Nat):Int))=true:=by simp;omega
   have s:a35 ((i+1:Nat):Int)=i+1:=by omega
   have t:a35 (i:Int)=i:=by omega
   have st:=d1a (l:=l) (i:=i) (by omega);have p:=c4M (l:=l) (i:=i) (j:=i+1) (by omega) (by omega);have q:=c4M (l:=l) (i:=i) (j:=i) (by omega) (by omega);simp only[W]at st;simp only[a6c,c,a,g,e,m,n,s,t,p,q,st,a02,cT])
  (by
   have a:=b7m (l:=l) (i:=l.length-1) (by omega);have c:wrap .i64 (((l.length-1:Nat):Int)+1)=((l.length:Nat):Int):=by rw[a0F (by omega)];omega
   have g:decide (((l.length:Nat):Int)<((l.length:Nat):Int))=false:=by simp
   simp only[a6c,c,a,g,cF])
 simp only[nZ,a39,r]at this;exact this
theorem c9I{l:List Int}:(b2A l (l.length-1)).take (l.length-1)=dif l:=by
 have e:(dif l).take (l.length-1)=dif l:=a22 (by rw[a5a];omega);rw[b2A,e,List.take_append_of_le_length (by rw[a5a];omega),e]
theorem b4t{l:List Int}{o:Nat}(A:o≤4)(z:o≤l.length)(g:short l)(v:l.all a0C=true):
  a3j (l,(o:Int))=some (bif (a1F o l).all a0C then(a1F o l,0)else([],6)):=by
 have u:l.length<1000000:=g;have h:=a0R (f:=a8L) (fun k:Nat=>((o:Int),(k:Int),a1F k l,())) o (b:=(a1F o l,()))
  (fun k y=>by
   have c:1≤(a1F k l).length:=by rw[a5e];omega
   have s:(a1F k l).length<1000000:=b2z g k;have a:decide ((k:Int)<(o:Int))=true:=by simp;omega
   have t:=b7m (l:=a1F k l) (i:=(a1F k l).length-1) (by omega);have x:wrap .i64 ((((a1F k l).length:Nat):Int)-1)=(((a1F k l).length-1:Nat):Int):=by rw[a0F (by omega)];omega
   have w2:wrap .i64 ((k:Int)+1)=((k+1:Nat):Int):=a0B (by omega);have n:decide ((0:Int)≤(((a1F k l).length-1:Nat):Int))=true:=by simp
   have p:decide ((((a1F k l).length-1:Nat):Int)≤(((a1F k l).length:Nat):Int))=true:=by simp
   have q:decide ((a1F k l).length-1≤(a1F k l).length)=true:=by simp
   have w:a35 (((a1F k l).length-1:Nat):Int)=(a1F k l).length-1:=by omega
   simp only[a8L,a,cT,c8U (b2z g k) c,oB,t,x,w2,n,p,q,w,a02,c9I,a1F])
  (by
   have a:decide ((o:Int)<(o:Int))=false:=by simp
   simp only[a8L,a,cF])
 have d:decide ((o:Int)<0)=false:=by simp
 have e:decide ((o:Int) > 4)=false:=by simp;omega
 have j:decide (((l.length:Nat):Int)<(o:Int))=false:=by simp;omega
 have m:lim l.length=true:=a4o (by omega);simp only[nZ,a39]at h;have r:a1F 0 l=l:=rfl;rw[r]at h;unfold a3j;simp only[d,e,j,m,cF,cT,oB,a8p g,v,bT,h,a8p (b2z g o)];cases (a1F o l).all a0C<;>rfl
def ex:Nat→(Nat→Int)→Nat→Int
 |0,f,i=>f i
 |o+1,f,i=>ex o f (i+1)-ex o f i
theorem c2k{l:List Int}(g:l.all a0C=true):∀(o i:Nat),i+o<l.length→(a1F o l)[i]?=some (W (ex o (fun j=>l.getD j 0) i))
 |0,i,h=>by
  have h:i<l.length:=by omega
  have e:l.getD i 0=l[i]:=by simp[lD,h]
  simp only[a1F,ex,e];rw[lG h,b6r (lA.1 g _ (a04 h))]
 |o+1,i,h=>by
  have f:=c2k g o i (by omega);have k:=c2k g o (i+1) (by omega);simp only[a1F,ex];rw[c1a _ i _ _ f k];simp only[W,a7A,Int.sub_bmod_bmod,Int.bmod_sub_bmod]
theorem c9J{l:List Int}(p:l.all a0C=true){o j:Nat}(s:o≤4)(h:o+j<l.length):W (W (ex o (fun j=>l.getD j 0) j)+a2V o (l.take (o+j)))=l.getD (o+j) 0:=by
 have a:a0C (l.getD (o+j) 0)=true:=by
  have e:l.getD (o+j) 0=l[o+j]:=by simp[lD,h]
  rw[e];exact lA.1 p _ (a04 h)
 have g:∀i:Nat,1≤i→i≤o→atB (l.take (o+j)) i=l.getD (o+j-i) 0:=fun i q r=>by
  simp only[atB,a17,Nat.min_eq_left (a53 h),lD,List.getElem?_take];rw[if_pos (by omega)]
 have d:ex o (fun j=>l.getD j 0) j+a2V o (l.take (o+j))=l.getD (o+j) 0:=by
  have n:o=0∨o=1∨o=2∨o=3∨o=4:=by omega
  rcases n with rfl|rfl|rfl|rfl|rfl;simp[ex,a2V];simp only[ex,a2V,g 1 (by omega) (by omega)];have f:1+j-1=j:=by omega
  have k:j+1=1+j:=by omega
  rw[f,k];omega;simp only[ex,a2V,g 1 (by omega) (by omega),g 2 (by omega) (by omega)];have f:2+j-1=j+1:=by omega
  have k:2+j-2=j:=by omega
  have b:j+1+1=2+j:=by omega
  rw[f,k,b];omega;simp only[ex,a2V,g 1 (by omega) (by omega),g 2 (by omega) (by omega),g 3 (by omega) (by omega)];have f:3+j-1=j+1+1:=by omega
  have k:3+j-2=j+1:=by omega
  have b:3+j-3=j:=by omega
  have c:j+1+1+1=3+j:=by omega
  rw[f,k,b,c];omega;simp only[ex,a2V,g 1 (by omega) (by omega),g 2 (by omega) (by omega),g 3 (by omega) (by omega),g 4 (by omega) (by omega)];have f:4+j-1=j+1+1+1:=by omega
  have k:4+j-2=j+1+1:=by omega
  have b:4+j-3=j+1:=by omega
  have c:4+j-4=j:=by omega
  have m:j+1+1+1+1=4+j:=by omega
  rw[f,k,b,c,m];omega
 have:W (W (ex o (fun j=>l.getD j 0) j)+a2V o (l.take (o+j)))=W (ex o (fun j=>l.getD j 0) j+a2V o (l.take (o+j))):=by
  simp only[W,a7A,a66]
 rw[this,d,b6r a]
theorem c6e{l:List Int}(f:l.all a0C=true){o:Nat}(b:o≤4):∀(k j:Nat),o+j+k=l.length→a3v (a2V o) ((a1F o l).drop j) (l.take (o+j))=some l
 |0,j,h=>by
  rw[List.drop_of_length_le (by rw[a5e];omega),a22 (by omega)];rfl
 |k+1,j,h=>by
  have g:j<(a1F o l).length:=by rw[a5e];omega
  have a:=c2k f o j (by omega);rw[lG g]at a;have e:=Option.some.inj a;have c:l.getD (o+j) 0=l[o+j]:=by simp[lD,show o+j<l.length by omega]
  have st:=c9J f b (show o+j<l.length by omega);rw[c]at st;rw[a00 g,e];simp only[a3v,st,lA.1 f _ (a04 (show o+j<l.length by omega)),cT];have d:l.take (o+j)++[l[o+j]]=l.take (o+(j+1)):=by
   rw[show o+(j+1)=(o+j)+1 by omega]
   simp
  rw[d];exact c6e f b k (j+1) (by omega)
theorem a8z{σ β:Type}{f:σ→Option (σ ⊕ β)}(I:Nat→σ→Prop)(Q:β→Prop)(n:Nat)(a:∀i s,i<n→I i s→∃s',f s=some (.inl s')∧I (i+1) s')
  (g:∀s,I n s→∃b,f s=some (.inr b)∧Q b):∀(k i:Nat)(s:σ),i+k=n→I i s→∃b,x0r f s=some b∧Q b
 |0,i,s,h,hi=>by
  obtain rfl:i=n:=by omega
  obtain⟨b,c,d⟩:=g s hi;exact⟨b,a0D c,d⟩
 |k+1,i,s,h,hi=>by
  obtain⟨s',c,d⟩:=a i s (by omega) hi;rw[a0E c];exact a8z I Q n a g k (i+1) s' (by omega) d
theorem c1O(y:Int):0≤wrap .u64 y∧wrap .u64 y<18446744073709551616:=by
 simp only[wrap,IntKind.bits,IntKind.signed]
 simp
 omega
def b3I(n:Int)(x:Int):Bool:=a0C x&&!(a63 x (z0g .i64 1 n) != 0)
def b8r{β:Type}(n:Int)(bad:β)(out:List Int)(x:Int):List Int ⊕ β:=bif b3I n x then .inl (out++[z0h .i64 x n])else .inr bad
def b2B(n:Int)(l:List Int):Option (List Int):=bif l.all (b3I n)then some (l.map fun x=>z0h .i64 x n)else none
theorem b9c{β:Type}(n:Int)(h:β)(g:List Int→β):∀(l out:List Int),a8J g (a2i (b8r n h) l out)=match b2B n l with|some r=>g (out++r)|none=>h
 | [],out=>by simp[a2i,a8J,b2B]
 |x::l,out=>by
  simp only[a2i,b8r,b2B,a18];cases hx:b3I n x with
  |true=>
   simp only[cT,a19];rw[b9c n h g l _];simp only[b2B];cases l.all (b3I n)with
   |true=>simp
   |false=>rfl
  |false=>rfl
theorem c6f{o:Nat}(h:o≤30):z0g .i64 1 (o:Int)=((2^o:Nat):Int):=by
 have g:2^o≤2^30:=a31 (by omega) h
 have:=b8m (N:=1) (o:=o) (by omega) (by omega)
 simpa using this
theorem b7L{l:List Int}{o:Nat}(m:o≤30)(q:l.length<100000):a8a (l,(o:Int))=some (a2o (b2B (o:Int) l)):=by
 have n:short l:=by unfold short;omega
 have k:¬ (o:Int)<0:=by omega
 have e:¬ (o:Int) > 30:=by omega
 have j:(z0g .i64 (1:Int) (o:Int)==0)=false:=by
  rw[c6f m]
  have:0<2^o:=a44 o
  simp only[beq_eq_false_iff_ne,ne_eq];omega
 unfold a8a;simp only[k,e,decide_false,cF,oB]
 have:=a1L (f:=a7E) l (fun i out=>((o:Int),l,(l.length:Int),(i:Int),out,())) (b8r (o:Int) (Sum.inr ((6:Int),([]:List Int),())))
  (fun i out=>out.length=i) (fun out=>Sum.inl (out,()))
  (fun i h out p=>by
   have c:i<1000000:=by omega
   simp only[a7E,dlt h,cT,a0A h,oB,b7E,b8r,b3I,k,j,decide_false,cF];cases hb:a0C l[i]with
   |true=>
    cases hb2:(a63 l[i] (z0g .i64 1 (o:Int)) != 0)with
    |false=>
     simp only[cT,bT,cF,oB,k,decide_false,a0I (show out.length+1<1000000 by omega),a0B c,a02,a21,hb2];refine⟨fun d g=>?_,fun b hb=>(by cases hb)⟩;simp only[Sum.inl.injEq]at g;subst g;exact⟨rfl,by simp;omega⟩
    |true=>
     refine⟨fun d g=>(by simp at g),fun b hb=>?_⟩;simp only[a19,bT,cF,Sum.inr.injEq]at hb;subst hb;simp[hb2]
   |false=>
    refine⟨fun d g=>(by simp at g),fun b hb=>?_⟩;simp only[Bool.false_and,cF,Sum.inr.injEq]at hb;subst hb;rfl)
  (fun out _=>by simp[a7E]) (a:=[]) rfl
 simp only[nZ,b9c,a08]at this;rw[this];cases b2B (o:Int) l<;>rfl
theorem c2l{o:Nat}(h:o≤30){x:Int}(k:b3I (o:Int) x=true):a0C (z0h .i64 x (o:Int))=true∧z0g .i64 (z0h .i64 x (o:Int)) (o:Int)=x∧a0C x=true:=by
 simp only[b3I,c6f h,bA,a48,bne_eq_false_iff_eq]at k;obtain⟨f,d⟩:=k;obtain⟨c,rfl⟩:=Int.dvd_of_tmod_eq_zero d;have g:=a1X.1 f;have e:min (a35 (o:Int)) (IntKind.bits .i64)=o:=by simp only[tN,IntKind.bits];omega
 have hp:(0:Int)<2^o:=Int.pow_pos (by omega);have b:((2^o:Nat):Int)=2^o:=by simp
 rw[b]at g f⊢;have a:z0h .i64 (2^o*c) (o:Int)=c:=by
  unfold z0h;rw[e];exact a49 _ (by omega)
 rw[a];refine⟨a1X.2 ?_,?_,f⟩;generalize (2:Int)^o=p at hp g;have i:p*c=(p-1)*c+c:=by rw[Int.sub_mul];omega
 by_cases hc:0≤c
 have:=Int.mul_nonneg (show 0≤p-1 by omega) hc
 omega
 have:=Int.mul_nonneg (show 0≤p-1 by omega) (show 0≤-c by omega)
 rw[Int.mul_neg]at this;omega;unfold z0g;rw[e,Int.mul_comm];exact a0F (by omega)
theorem d2M{o:Nat}(h:o≤30){l d:List Int}(f:b2B (o:Int) l=some d):d.all a0C=true∧d.length=l.length∧upO (o:Int) d=some l:=by
 unfold b2B at f;cases ha:l.all (b3I (o:Int))with
 |false=>rw[ha]at f;cases f
 |true=>
  rw[ha]at f;simp only[cT,sj]at f;subst f;have g:=lA.1 ha;refine⟨?_,by simp,?_⟩;simp only[List.all_map];exact lA.2 fun x k=>(c2l h (g x k)).1;have a:(l.map fun x=>z0h .i64 x (o:Int)).all (fun x=>a0C x&&a0C (z0g .i64 x (o:Int)))=true:=by
   simp only[List.all_map];refine lA.2 fun x k=>?_
   obtain⟨c,e,i⟩:=c2l h (g x k);simp only[Function.comp,c,e,i,a02]
  unfold upO;rw[a];simp only[cT,sj,List.map_map];have b:l.map ((fun x=>z0g .i64 x (o:Int))∘fun x=>z0h .i64 x (o:Int))=l.map id:=List.map_congr_left (fun x k=>(c2l h (g x k)).2.1);rw[b,List.map_id]
theorem c8V{n warm:Int}(h:a3h n warm=true):(a1u 0 n warm).length≠0:=by
 have g:=h;simp only[a3h,bA,dT]at g;unfold a1u b2v;have e:((n.toNat / 2^(0:Int).toNat:Nat):Int)=n:=by simp;omega
 have f:n.toNat%2^(0:Int).toNat=0:=by simp;omega
 simp only[h,e,f];simp[g.2.2.2]
theorem a9s{N n:Nat}(g:n≤63)(h:N<2^n)(L:List Int):(a0H (N:Int) n L).length=L.length+n:=by
 grind[a0H,a7B,Nat.div_eq_of_lt,c0C]
def a2N(k:Nat)(x:Int):Nat:=if a0P x / 2^k<32 then a0P x / 2^k+1+k else 65
theorem c2m{k:Nat}(h:k≤25)(x:Int):a2N k x≤65:=by
 grind[a2N]
theorem c9K{k:Nat}(a:k≤25){x:Int}(g:a0C x=true)(L:List Int):(a7T k x L).length=L.length+a2N k x:=by
 unfold a7T a2N;have hp:0<2^k:=a44 k;have h:a0P x%2^k<2^k:=a75 _ hp;have f:=b1u g;split;rw[a9s (by omega) h,a7R];omega
 grind[a9s,a7R]
theorem c3j{k:Nat}(g:k≤25):∀(l L:List Int),l.all a0C=true→(a5I k l L).length=L.length+(l.map (a2N k)).sum
 | [],L,_=>by rfl
 |x::l,L,h=>by
  simp only[a18,bA]at h;have e:a5I k (x::l) L=a5I k l (a7T k x L):=rfl;rw[e,c3j g l _ h.2,c9K g h.1,List.map_cons,a62];omega
theorem c6g{k:Nat}(c:k≤25){x:Int}(g:a0C x=true):a8w ((k:Int),x)=some ((a2N k x:Nat):Int):=by
 have d:=b1u g;have f:z0h .u64 ((a0P x:Nat):Int) (k:Int)=((a0P x / 2^k:Nat):Int):=a7B (by omega);have a:wrap .i64 ((a0P x / 2^k:Nat):Int)=((a0P x / 2^k:Nat):Int):=b2Y (a28 (a26 _ _) d);have h:decide ((k:Int)<0)=false:=by simp
 unfold a8w a2N;simp only[b0E c,b2x,g,oB,bT,cF,b2y g,h,f,a];generalize a0P x / 2^k=q
 by_cases hq:q<32
 have b:decide ((q:Int)<32)=true:=decide_eq_true (by omega);simp only[b,cT,if_pos hq]
 grind[a0F]
 grind
theorem c3k{f:Int→Nat}{M:Nat}(h:∀x,f x≤M):∀l:List Int,(l.map f).sum≤M*l.length
 | []=>by simp
 |x::l=>by
  have:=h x
  have:=c3k h l
  rw[List.map_cons,a62,lC,a70,a71];omega
theorem b8s{f:Int→Nat}{l:List Int}{i:Nat}(h:i<l.length):((l.take (i+1)).map f).sum=((l.take i).map f).sum+f l[i]:=by
 rw[a41 h,pA,List.sum_append];rfl
theorem c1P{k:Nat}(a:k≤25){l:List Int}(d:l.all a0C=true)(j:l.length<10000):a3W ((k:Int),l)=some (((l.map (a2N k)).sum:Nat):Int):=by
 have:=a0R (f:=a4D) (fun i:Nat=>((k:Int),((((l.take i).map (a2N k)).sum:Nat):Int),l,(l.length:Int),(i:Int),())) l.length (b:=((((l.map (a2N k)).sum:Nat):Int),()))
  (fun i h=>by
   have c:=c6g a (lA.1 d _ (a04 h));have g:=c3k (c2m a) (l.take (i+1));rw[b8s h]at g;rw[a17]at g;have e:wrap .i64 (((((l.take i).map (a2N k)).sum:Nat):Int)+((a2N k l[i]:Nat):Int))=((((l.take (i+1)).map (a2N k)).sum:Nat):Int):=by
    grind[b8s,a0F]
   simp only[a4D,dlt h,cT,a0A h,oB,c,e,a0B (show i<1000000 by omega)])
  (by simp_all[a4D])
 unfold a3W;simp_all
theorem d1b(x:Int){n:Nat}(f:n≤62):∃N:Nat,a2M x n=(N:Int)∧N<2^n:=by
 obtain⟨h,g⟩:=c1O x;obtain⟨y,k⟩:=a03 h;have hp:0<2^n:=a44 n;refine⟨y%2^n,?_,a75 _ hp⟩
 grind[a2M,c6b]
theorem b6x{n:Nat}(h:n≤62):∀(l L:List Int),(a1H n l L).length=L.length+n*l.length
 | [],L=>by rfl
 |x::l,L=>by
  have e:a1H n (x::l) L=a1H n l (a0H (a2M x n) n L):=rfl;obtain⟨N,g,f⟩:=d1b x h;rw[e,b6x h l,g,a9s (by omega) f,lC,a70,a71];omega
theorem d3X{x:Int}(h:a0C x=true):a1l x ((31:Nat):Int)=true:=by
 have:=a1X.1 h
 have g:z0g .i64 (-1) (((31:Nat):Int)-1)=-1073741824:=by rfl
 have f:wrap .i64 (z0g .i64 1 (((31:Nat):Int)-1)-1)=1073741823:=by rfl
 unfold a1l
 grind
theorem c3l{x:Int}(h:a0C x=true):∀(k w:Nat),w+k=32→1≤k→a1N x k w≤31
 |k+1,w,hk,_=>by
  simp[a1N]
  by_cases h31:w=31
  grind[d3X]
  ·cases (x != 0)&&!a1l x w with
   |true=>exact c3l h k (w+1) (by omega) (by omega)
   |false=>grind
theorem b6y:∀(l:List Int)(w:Nat),l.all a0C=true→w≤31→l.foldl (fun w x=>a1N x (32-w) w) w≤31
 | [],w,_,h=>h
 |x::l,w,hl,h=>by
  simp only[a18,bA]at hl;exact b6y l _ hl.2 (c3l hl.1 (32-w) w (by omega) (by omega))
theorem b3J{l:List Int}(h:l.all a0C=true):a0J l≤31:=b6y l 0 h (by omega)
theorem b5E{l:List Int}(g:l.length<10000):a6L l=some (((5+a0J l*l.length:Nat)):Int):=by
 have h:=a3e l;have f:a0J l*l.length≤32*l.length:=a37 _ h;unfold a6L;simp only[a6I (show short l by unfold short;omega),oB]
 grind[a0F]
def b1l(k:Int)(part:List Int):Nat:=5+(if k=31 then 5+a0J part*part.length else(part.map (a2N k.toNat)).sum)
def a2q:List Nat→List Int→List Int→Nat
 |z::zs,k::ks,l=>b1l k (l.take z)+a2q zs ks (l.drop z)
 |_,_,_=>0
theorem b6z{q:Nat}(h:q<2147483648):wrap .u64 (q:Int)=(q:Int):=a1m (by omega)
theorem c9L{k:Int}(h:kB k=true){part:List Int}(g:part.all a0C=true)(L:List Int):(a9R k part L).length=L.length+b1l k part:=by
 simp[kB]at h;obtain⟨K,rfl⟩:=a03 (show 0≤k by omega)
 grind[a9s,b3J,a9R,b1l,b6z,b6x,c3j]
theorem c3m:∀(zs:List Nat)(ks l L:List Int),ks.all kB=true→l.all a0C=true→(a6J zs ks l L).length=L.length+a2q zs ks l
 |z::zs,k::ks,l,L,h,hw=>by
  simp only[a18,bA]at h;have g:(l.take z).all a0C=true:=lA.2 fun x a=>lA.1 hw x (a24 a);have f:(l.drop z).all a0C=true:=lA.2 fun x a=>lA.1 hw x (a25 a);simp only[a6J,a2q];rw[c3m zs ks _ _ h.2 f,c9L h.1 g];omega
 | [],_,_,_,_,_=>by rfl
 |_::_,[],_,_,_,_=>by rfl
theorem c6h{k:Int}(h:kB k=true)(part:List Int):b1l k part≤10+65*part.length:=by
 simp[kB]at h;unfold b1l;split;have g:a0J part*part.length≤32*part.length:=a37 _ (a3e part);omega
 have:=c3k (c2m (k:=k.toNat) (by omega)) part
 omega
theorem b5F{zn:List Nat}{p:Prt}(E:p.2.1.length=zn.length)(a:p.2.1.all kB=true)(F:zn.length≤256):∀(j i:Nat)(l:List Int)(c:Nat),i+j=zn.length→(zn.drop i).sum=l.length→l.all a0C=true→l.length≤5000→c+10*j+65*l.length<1000000→
  x0r a1K (l,(c:Int),(zn.length:Int),(i:Int),a1r zn,p,())=some (((c+a2q (zn.drop i) (p.2.1.drop i) l:Nat):Int),())
 |0,i,l,c,hi,_,_,_,_=>by
  obtain rfl:i=zn.length:=by omega
  grind[a0D,a1K,a2q]
 |j+1,i,l,c,hi,hsum,hw,hl5,hb=>by
  have h:i<zn.length:=by omega
  have f:i<p.2.1.length:=by omega
  have o:=lA.1 a _ (a04 f);rw[a9r h]at hsum;have z:decide ((0:Int)≤(i:Int))=true:=by simp
  have A:decide ((i:Int)<(((a1r zn).length:Nat):Int))=true:=by simp_all[a0Z]
  have B:decide ((0:Int)≤((zn[i]:Nat):Int))=true:=by simp
  have C:decide (((zn[i]:Nat):Int)≤((l.length:Nat):Int))=true:=by grind
  have d:(l.take zn[i]).length=zn[i]:=by simp_all
  have e:(l.drop zn[i]).length=(zn.drop (i+1)).sum:=by grind
  have v:(l.take zn[i]).all a0C=true:=lA.2 fun x y=>lA.1 hw x (a24 y);have w:(l.drop zn[i]).all a0C=true:=lA.2 fun x y=>lA.1 hw x (a25 y);have g:=c6h o (l.take zn[i]);rw[d]at g;have n:a1K (l,(c:Int),(zn.length:Int),(i:Int),a1r zn,p,())=some (.inl (l.drop zn[i],((c+b1l p.2.1[i] (l.take zn[i]):Nat):Int),(zn.length:Int),((i+1:Nat):Int),a1r zn,p,())):=by
   by_cases h31:p.2.1[i]=31
   have b:(p.2.1[i]==31)=true:=by simp_all
   have m:=b5E (l:=l.take zn[i]) (by omega);have u:b1l p.2.1[i] (l.take zn[i])=5+(5+a0J (l.take zn[i])*(l.take zn[i]).length):=by simp_all[b1l]
   rw[u]at g⊢;generalize 5+a0J (l.take zn[i])*(l.take zn[i]).length=r at m g⊢;have s:wrap .i64 (5+(r:Int))=5+(r:Int):=a0F (by omega);have t:wrap .i64 ((c:Int)+(5+(r:Int)))=((c+(5+r):Nat):Int):=by grind[a0F]
   simp only[a1K,dlt h,z,A,a3F h,B,C,cT,a02,tN,a0A f,oB,b,m,s,t,a20,a0B (show i<1000000 by omega)];have b:(p.2.1[i]==31)=false:=by simp_all
   have q:=o;simp[kB]at q;obtain⟨K,D⟩:=a03 (show 0≤p.2.1[i]by omega);have m:=c1P (k:=K) (by omega) v (by omega);have u:b1l p.2.1[i] (l.take zn[i])=5+((l.take zn[i]).map (a2N K)).sum:=by simp_all[b1l]
   rw[←D]at m;rw[u]at g⊢;generalize ((l.take zn[i]).map (a2N K)).sum=r at m g⊢;have s:wrap .i64 (5+(r:Int))=5+(r:Int):=a0F (by omega);have t:wrap .i64 ((c:Int)+(5+(r:Int)))=((c+(5+r):Nat):Int):=by grind[a0F]
   simp only[a1K,dlt h,z,A,a3F h,B,C,cT,cF,a02,tN,a0A f,oB,b,m,s,t,a20,a0B (show i<1000000 by omega)]
  rw[a0E n,b5F E a F j (i+1) (l.drop zn[i]) _ (by omega) e.symm w (by omega) (by omega)];rw[a00 h,a00 f]
  grind[a2q]
theorem c5l{p:Prt}{n warm:Int}{l:List Int}{zn:List Nat}(h:PartsOk p n warm l zn):a5z (p,n,warm,l)=some ((4+a2q zn p.2.1 l:Nat):Int):=by
 have f:Go.Ab.short p.2.1:=by have:=h.ks;have:=h.len;unfold Go.Ab.short;omega
 have k:=h.short;have a:=h.len;have g:=b5F h.ks h.all h.len zn.length 0 l 4 (by omega) (by rw[a06];exact h.sum) h.wide h.short (by omega);simp only[nZ,a39,a06]at g;unfold a5z;simp only[b2w f,h.may,b2Z h.row h.rest h.wide h.short,oB,bT,cF,a3c,h.sizes,a0Z,g]
theorem c5m{p:Prt}{n warm:Int}{l:List Int}{zn:List Nat}(h:PartsOk p n warm l zn)(L:List Int):(a3f p zn l L).length=L.length+(4+a2q zn p.2.1 l):=by
 obtain⟨o,g⟩:=a03 h.order.1;have f:=h.order.2;unfold a3f;rw[c3m _ _ _ _ h.all h.wide,g,b6z (by omega),a9s (by omega) (by omega)];omega
def a0X(o:Int):Sub:=((0:Int),(0:Int),o,(0:Int),(0:Int),([]:List Int),a01 3 (0:Int),([]:List Stg),([]:List Int),((0:Int),([]:List Int),()),([]:List Int),())
theorem c7g(o:Int):SmallS (a0X o):=⟨by simp[a0X],by simp[a0X],by simp[a0X],by simp[a0X],by simp[a0X],by simp[a0X]⟩
theorem c8W{x:Int}(h:-1048576≤x∧x≤1048575):v0a (u0z x (-1048576)) 1048575=x:=by
 unfold v0a u0z;have g:decide ((-1048576:Int) > x)=false:=decide_eq_false (by omega);have f:decide ((1048575:Int)<x)=false:=decide_eq_false (by omega);simp only[g,cF,f]
theorem c5D{x:Int}(h:a0C x=true):-1048576≤z0h .i64 x ((10:Nat):Int)∧z0h .i64 x ((10:Nat):Int)≤1048575:=by
 have g:=a1X.1 h;have e:z0h .i64 x ((10:Nat):Int)=x / 1024:=by
  show Int.fdiv x 1024=_;exact a47 _ (by decide)
 rw[e];omega
theorem c4N{x:Int}(f:a0C x=true){a l:List Int}{n i:Int}:∀(k s:Nat),s+k=10→∃s':Nat,s'≤10∧x0r a1W (a,(s:Int),x,l,n,i,())=some (a,(s':Int),l,n,i,())
 |0,s,h=>by
  obtain rfl:s=10:=by omega
  have g:decide (((10:Nat):Int)<0)=false:=by decide
  have d:=c8W (c5D f);refine⟨10,a34 _,a0D ?_⟩;simp only[a1W,g,cF,a1R,oB,d,bne_self_eq_false]
 |k+1,s,h=>by
  have g:decide ((s:Int)<0)=false:=decide_eq_false (by omega);cases hc:(v0a (u0z (z0h .i64 x (s:Int)) (-1048576)) 1048575 != z0h .i64 x (s:Int))with
  |false=>exact⟨s,by omega,a0D (by simp only[a1W,g,cF,a1R,oB,hc])⟩
  |true=>
   obtain⟨s',b,c⟩:=c4N f (a:=a) (l:=l) (n:=n) (i:=i) k (s+1) (by omega);refine⟨s',b,?_⟩;rw[a0E (s':=(a,((s+1:Nat):Int),x,l,n,i,())) (by simp only[a1W,g,cF,a1R,oB,hc,cT,a0B (show s<1000000 by omega)])];exact c
theorem c7h{l:List Int}(y:l.all a0C=true)(A:l.length<100000):∃r,a3k l=some r∧r.length=l.length:=by
 obtain⟨b,t,s,z,x⟩:=a8z (f:=a2k) (fun i st=>∃s:Nat,s≤10∧st=(l,(s:Int),l,(l.length:Int),(i:Int),())) (fun b=>∃s:Nat,s≤10∧b=(l,(s:Int),())) l.length
  (fun i st g h=>by
   obtain⟨s,u,rfl⟩:=h;obtain⟨s',p,e⟩:=c4N (lA.1 y _ (a04 g)) (a:=l) (l:=l) (n:=(l.length:Int)) (i:=(i:Int)) (10-s) s (by omega);exact⟨_,by simp only[a2k,dlt g,cT,a0A g,oB,e,a0B (show i<1000000 by omega)]<;>rfl,s',p,rfl⟩)
  (fun st h=>by
   obtain⟨s,u,rfl⟩:=h;exact⟨_,by simp only[a2k,dge,cF]<;>rfl,s,u,rfl⟩) l.length 0 _ (by omega) ⟨0,by omega,rfl⟩
 subst x;obtain⟨c,q,o,v,w⟩:=a8z (f:=a2l) (fun i st=>∃o:List Int,st=((s:Int),l,(l.length:Int),(i:Int),o,())∧o.length=l.length) (fun b=>∃o:List Int,b=(o,())∧o.length=l.length) l.length
  (fun i st g h=>by
   obtain⟨o,rfl,m⟩:=h;have k:decide ((s:Int)<0)=false:=decide_eq_false (by omega);have d:decide ((0:Int)≤(i:Int))=true:=by simp
   have j:decide ((i:Int)<((o.length:Nat):Int))=true:=decide_eq_true (by omega);exact⟨_,by simp only[a2l,dlt g,cT,a0A g,oB,k,cF,d,j,a02,a0B (show i<1000000 by omega)]<;>rfl,_,rfl,by simp[m]⟩)
  (fun st h=>by
   obtain⟨o,rfl,m⟩:=h;exact⟨_,by simp only[a2l,dge,cF]<;>rfl,o,rfl,m⟩) l.length 0 _ (by omega) ⟨a01 l.length 0,rfl,by simp⟩
 subst v;refine⟨o,?_,w⟩;have k:decide ((0:Int)≤((l.length:Nat):Int))=true:=by simp
 have d:decide (((l.length:Nat):Int)≤((l.length:Nat):Int))=true:=by simp
 have j:lim l.length=true:=a0I (by omega);simp only[nZ]at t q;unfold a3k;simp only[t,oB,k,d,j,tN,a02,cT,q]
theorem c3n:∀(N:Nat)(num den:Int),den.toNat≤N→∃a b,x0r a2G (num,den,())=some (a,b,())
 |N,num,den,h=>by
  by_cases hd:den≥1099511627776
  ·have g:decide (den≥(1099511627776:Int))=true:=decide_eq_true hd;have e:z0h .i64 den 1=den / 2:=by
    show Int.fdiv den 2=_;exact a47 _ (by decide)
   rw[a0E (s':=(z0h .i64 num 1,den / 2,())) (by simp only[a2G,g,cT,e])]
   match N with
   |0=>omega
   |N+1=>exact c3n N _ _ (by omega)
  have g:decide (den≥(1099511627776:Int))=false:=decide_eq_false hd;exact⟨num,den,a0D (by simp only[a2G,g,cF])⟩
theorem b6A{f g:List Int}{m:Nat}(u:1≤m)(r:g.length=f.length)(t:f.length<100000)(q:m<1000):∃k,a2D (f,g,(m:Int))=some k:=by
 obtain⟨b,n,d,den,o⟩:=a8z (f:=a2e) (fun i st=>∃d den:Int,st=(f,g,d,den,((m+i:Nat):Int),())) (fun b=>∃d den:Int,b=(d,den,())) (f.length-m)
  (fun i st s h=>by
   obtain⟨d,den,rfl⟩:=h;have j:m+i<f.length:=by omega
   have e:wrap .i64 (((m+i:Nat):Int)-1)=((m+i-1:Nat):Int):=by rw[a0F (by omega)];omega
   exact⟨_,by simp only[a2e,dlt j,cT,a0A j,e,a0A (show m+i-1<g.length by omega),oB,a0B (show m+i<1000000 by omega)]<;>rfl,_,_,rfl⟩)
  (fun st h=>by
   obtain⟨d,den,rfl⟩:=h;have l:decide (((m+(f.length-m):Nat):Int)<((f.length:Nat):Int))=false:=decide_eq_false (by omega);exact⟨_,by simp only[a2e,l,cF]<;>rfl,_,_,rfl⟩) (f.length-m) 0 (f,g,0,0,(m:Int),()) (by omega) ⟨0,0,rfl⟩
 subst o;obtain⟨a,c,p⟩:=c3n den.toNat d den (a34 _);unfold a2D;simp only[n,oB,p];cases hc:(c==0)with
 |true=>exact⟨0,rfl⟩
 |false=>
  simp only[cF];cases decide ((z0g .i64 a 15).tmod c<0)<;>exact⟨_,rfl⟩
theorem c5n{f g ks:List Int}{m:Nat}{order k:Int}(y:1≤m)(u:g.length=f.length)(x:f.length<100000)(v:m<1000):
  ∃f' a:List Int,x0r a1q (order,(m:Int),k,((f.length:Nat):Int)-1,f,g,ks,())=some (order,(m:Int),f',a,ks,())∧f'.length=f.length∧a.length=f.length:=by
 obtain⟨b,l,f',a,s,t⟩:=a8z (f:=a1q) (fun i st=>∃f' a:List Int,st=(order,(m:Int),k,((f.length:Nat):Int)-1-(i:Int),f',a,ks,())∧f'.length=f.length∧a.length=f.length)
  (fun b=>∃f' a:List Int,b=(order,(m:Int),f',a,ks,())∧f'.length=f.length∧a.length=f.length) (f.length-m)
  (fun i st w h=>by
   obtain⟨f',a,rfl,c,d⟩:=h;have j:decide (((f.length:Nat):Int)-1-(i:Int)≥(m:Int))=true:=decide_eq_true (by omega);have n:decide ((0:Int)≤((f.length:Nat):Int)-1-(i:Int))=true:=decide_eq_true (by omega);have o:decide (((f.length:Nat):Int)-1-(i:Int)<((f'.length:Nat):Int))=true:=decide_eq_true (by omega);have p:decide (((f.length:Nat):Int)-1-(i:Int)<((a.length:Nat):Int))=true:=decide_eq_true (by omega);have e:wrap .i64 (((f.length:Nat):Int)-1-(i:Int)-1)=((f.length:Nat):Int)-1-((i+1:Nat):Int):=by rw[a0F (by omega)];omega
   have q:decide ((0:Int)≤((f.length:Nat):Int)-1-((i+1:Nat):Int))=true:=decide_eq_true (by omega);have r:decide (((f.length:Nat):Int)-1-((i+1:Nat):Int)<((a.length:Nat):Int))=true:=decide_eq_true (by omega);exact⟨_,by simp only[a1q,j,n,o,p,e,q,r,cT,a02,a1R,oB]<;>rfl,_,_,rfl,by simp[c],by simp[d]⟩)
  (fun st h=>by
   obtain⟨f',a,rfl,c,d⟩:=h;have j:decide (((f.length:Nat):Int)-1-((f.length-m:Nat):Int)≥(m:Int))=false:=decide_eq_false (by omega);exact⟨_,by simp only[a1q,j,cF]<;>rfl,f',a,rfl,c,d⟩) (f.length-m) 0 _ (by omega) ⟨f,g,rfl,rfl,u⟩
 subst s;simp only[nZ,Int.sub_zero]at l;exact⟨f',a,l,t⟩
theorem c6i{f g:List Int}{o:Nat}(y:o≤32)(v:g.length=f.length)(x:f.length<100000):∃ks:List Int,x0r a1P ((o:Int),(1:Int),f,g,([]:List Int),())=some (ks,())∧ks.length=o:=by
 obtain⟨b,j,ks,r,s⟩:=a8z (f:=a1P) (fun i st=>∃f' a ks:List Int,st=((o:Int),((i+1:Nat):Int),f',a,ks,())∧f'.length=f.length∧a.length=f.length∧ks.length=i)
  (fun b=>∃ks:List Int,b=(ks,())∧ks.length=o) o
  (fun i st w h=>by
   obtain⟨f',a,ks,rfl,l,n,p⟩:=h;have d:decide (((i+1:Nat):Int)≤(o:Int))=true:=decide_eq_true (by omega);obtain⟨k,q⟩:=b6A (f:=f') (g:=a) (m:=i+1) (by omega) (by omega) (by omega) (by omega);have e:wrap .i64 (((f'.length:Nat):Int)-1)=((f'.length:Nat):Int)-1:=a0F (by omega);obtain⟨t,u,j,r,s⟩:=c5n (f:=f') (g:=a) (ks:=ks++[k]) (m:=i+1) (order:=(o:Int)) (k:=k) (by omega) (by omega) (by omega) (by omega);have c:lim (ks.length+1)=true:=a0I (by omega);exact⟨_,by simp only[a1P,d,cT,q,oB,c,e,a05,j,a0B (show i+1<1000000 by omega)]<;>rfl,t,u,ks++[k],rfl,by omega,by omega,by simp[p]⟩)
  (fun st h=>by
   obtain⟨f',a,ks,rfl,l,n,p⟩:=h;have d:decide (((o+1:Nat):Int)≤(o:Int))=false:=decide_eq_false (by omega);exact⟨_,by simp only[a1P,d,cF]<;>rfl,ks,rfl,p⟩) o 0 _ (by omega) ⟨f,g,[],rfl,rfl,v,rfl⟩
 subst r;exact⟨ks,j,s⟩
theorem c0I{l:List Int}(h:l.all a0C=true)(t:l.length≤4096){o:Nat}(s:1≤o)(m:o≤32):∃ks:List Int,a2U (l,(o:Int))=some (ks,0)∧ks.length=o:=by
 have p:short l:=by unfold short;omega
 obtain⟨r,e,q⟩:=c7h h (by omega);have n:short r:=by unfold short;omega
 obtain⟨ks,i,j⟩:=c6i (f:=r) (g:=r) m rfl (by omega);have k:decide ((o:Int)<1)=false:=decide_eq_false (by omega);have a:decide ((o:Int) > 32)=false:=decide_eq_false (by omega);have b:decide (((l.length:Nat):Int) > 4096)=false:=decide_eq_false (by omega);have c:decide ((0:Int)≤(o:Int))=true:=by simp
 have d:lim o=true:=a0I (by omega);refine⟨ks,?_,j⟩;unfold a2U;simp only[k,a,b,c,d,cF,cT,oB,a4T p,h,bT,e,a7P n,tN,a02,i]
theorem b5G{σ β:Type}{f:σ→Option (σ ⊕ β)}(I:Nat→σ→Prop)(Q:β→Prop)(n:Nat)(a:∀i s,i<n→I i s→(∃s',f s=some (.inl s')∧I (i+1) s')∨(∃b,f s=some (.inr b)∧Q b))
  (g:∀s,I n s→∃b,f s=some (.inr b)∧Q b):∀(k i:Nat)(s:σ),i+k=n→I i s→∃b,x0r f s=some b∧Q b
 |0,i,s,h,hi=>by
  obtain rfl:i=n:=by omega
  obtain⟨b,c,d⟩:=g s hi;exact⟨b,a0D c,d⟩
 |k+1,i,s,h,hi=>by
  rcases a i s (by omega) hi with⟨s',c,d⟩|⟨b,c,d⟩;rw[a0E c];exact b5G I Q n a g k (i+1) s' (by omega) d;exact⟨b,a0D c,d⟩
theorem c7i{ks:List Int}(k:ks.length≤32):∃b,x0r a1c (ks,ks,(ks.length:Int),(0:Int),())=some b∧(b=.inl (ks,())∨b=.inr (([]:List Int),(1:Int),())):=
 b5G (f:=a1c) (fun i s=>s=(ks,ks,(ks.length:Int),(i:Int),())) (fun b=>b=.inl (ks,())∨b=.inr (([]:List Int),(1:Int),())) ks.length
  (fun i s g h=>by
   subst h;cases h1:decide (ks[i]<(-16383:Int))with
   |true=>exact Or.inr ⟨_,by simp only[a1c,dlt g,cT,a0A g,oB,h1]<;>rfl,Or.inr rfl⟩
   |false=>
    cases h2:decide (ks[i] > (16383:Int))with
    |true=>exact Or.inr ⟨_,by simp only[a1c,dlt g,cT,cF,a0A g,oB,h1,h2]<;>rfl,Or.inr rfl⟩
    |false=>exact Or.inl ⟨_,by simp only[a1c,dlt g,cT,cF,a0A g,oB,h1,h2,a0B (show i<1000000 by omega)]<;>rfl,rfl⟩)
  (fun s h=>by
   subst h;exact⟨_,by simp only[a1c,dge,cF]<;>rfl,Or.inl rfl⟩) ks.length 0 _ (by omega) rfl
theorem c7j{c a:List Int}{i:Nat}{k n:Int}(t:c.length=i)(u:i≤32):
  ∃g:List Int,x0r a1Q (c,(i:Int),k,a,n,(i:Int),c,(c.length:Int),(0:Int),([]:List Int),())=some (k,a,n,(i:Int),g,())∧g.length=i:=by
 obtain⟨b,p,g,q,r⟩:=a8z (f:=a1Q) (fun j s=>∃g:List Int,s=(c,(i:Int),k,a,n,(i:Int),c,(c.length:Int),(j:Int),g,())∧g.length=j)
  (fun b=>∃g:List Int,b=(k,a,n,(i:Int),g,())∧g.length=c.length) c.length
  (fun j s l h=>by
   obtain⟨g,rfl,e⟩:=h;have m:wrap .i64 ((i:Int)-1)=(i:Int)-1:=a0F (by omega);have o:wrap .i64 ((i:Int)-1-(j:Int))=((i-1-j:Nat):Int):=by rw[a0F (by omega)];omega
   have d:lim (g.length+1)=true:=a0I (by omega);exact⟨_,by simp only[a1Q,dlt l,cT,a0A l,oB,m,o,a0A (show i-1-j<c.length by omega),d,a0B (show j<1000000 by omega),a05]<;>rfl,_,rfl,by simp[e]⟩)
  (fun s h=>by
   obtain⟨g,rfl,e⟩:=h;exact⟨_,by simp only[a1Q,dge,cF]<;>rfl,g,rfl,e⟩) c.length 0 _ (by omega) ⟨[],rfl,rfl⟩
 subst q;exact⟨g,p,by omega⟩
theorem c3o{ks:List Int}(C:1≤ks.length)(w:ks.length≤32):∃c e,a3Q ks=some (c,e)∧(e=0→c.length=ks.length):=by
 obtain⟨b,q,t⟩:=c7i w;have l:decide (((ks.length:Nat):Int)<1)=false:=decide_eq_false (by omega);have m:decide (((ks.length:Nat):Int) > 32)=false:=decide_eq_false (by omega);unfold a3Q;simp only[l,m,cF,oB,q];rcases t with rfl|rfl;obtain⟨r,d,c,u,v⟩:=a8z (f:=a2x) (fun i s=>∃c:List Int,s=(c,ks,(ks.length:Int),(i:Int),())∧c.length=i) (fun r=>∃c:List Int,r=(c,())∧c.length=ks.length) ks.length
  (fun i s j h=>by
   obtain⟨c,rfl,g⟩:=h;have p:wrap .i64 ((i:Int)+1)=((i+1:Nat):Int):=a0B (by omega);have o:decide ((0:Int)≤((i+1:Nat):Int))=true:=by simp;omega
   have x:lim (i+1)=true:=a0I (by omega);obtain⟨B,z,A⟩:=c7j (c:=c) (a:=ks) (i:=i) (k:=ks[i]) (n:=(ks.length:Int)) g (by omega);have y:lim (B.length+1)=true:=a0I (by omega);exact⟨_,by simp only[a2x,dlt j,cT,a0A j,oB,p,o,tN,x,a02,z,y,a05]<;>rfl,_,rfl,by simp[A]⟩)
  (fun s h=>by
   obtain⟨c,rfl,g⟩:=h;exact⟨_,by simp only[a2x,dge,cF]<;>rfl,c,rfl,g⟩) ks.length 0 _ (by omega) ⟨[],rfl,rfl⟩
 subst u;simp only[nZ]at d;exact⟨c,0,by simp only[d,oB],fun _=>v⟩;exact⟨[],1,rfl,fun h=>absurd h (by decide)⟩
theorem c7k{c:List Int}{s:Nat}{w:Nat}{half:Int}(m:c.length≤32)(e:w≤32):
  ∃out:List Int,x0r a1s (c,(w:Int),(s:Int),half,c,(c.length:Int),(0:Int),([]:List Int),())=some (c,(w:Int),(s:Int),out,()):=by
 obtain⟨b,i,out,l⟩:=b5G (f:=a1s) (fun j st=>∃out:List Int,st=(c,(w:Int),(s:Int),half,c,(c.length:Int),(j:Int),out,())∧out.length=j)
  (fun b=>∃out:List Int,b=(c,(w:Int),(s:Int),out,())) c.length
  (fun j st k h=>by
   obtain⟨out,rfl,d⟩:=h;have a:decide ((s:Int)<0)=false:=decide_eq_false (by omega);have g:lim (out.length+1)=true:=a0I (by omega);cases hf:a1l (z0h .i64 (wrap .i64 (c[j]+half)) (s:Int)) (w:Int)with
   |true=>exact Or.inl ⟨_,by simp only[a1s,dlt k,cT,a0A k,oB,a,cF,a5t e,hf,bT,g,a0B (show j<1000000 by omega),a05]<;>rfl,_,rfl,by simp[d]⟩
   |false=>exact Or.inr ⟨_,by simp only[a1s,dlt k,cT,a0A k,oB,a,cF,a5t e,hf,a21]<;>rfl,out,rfl⟩)
  (fun st h=>by
   obtain⟨out,rfl,d⟩:=h;exact⟨_,by simp only[a1s,dge,cF]<;>rfl,out,rfl⟩) c.length 0 _ (by omega) ⟨[],rfl,rfl⟩
 subst l;exact⟨out,i⟩
theorem c7l{c:List Int}{w:Int}(k:c.length≤32):∃b,x0r a1d (c,w,c,(c.length:Int),(0:Int),())=some b∧(b=.inl (c,w,())∨b=.inr ((0:Int),(1:Int),([]:List Int),())):=
 b5G (f:=a1d) (fun i s=>s=(c,w,c,(c.length:Int),(i:Int),())) (fun b=>b=.inl (c,w,())∨b=.inr ((0:Int),(1:Int),([]:List Int),())) c.length
  (fun i s g h=>by
   subst h;cases h1:decide (c[i]<(-35184372088832:Int))with
   |true=>exact Or.inr ⟨_,by simp only[a1d,dlt g,cT,a0A g,oB,h1]<;>rfl,Or.inr rfl⟩
   |false=>
    cases h2:decide (c[i] > (35184372088832:Int))with
    |true=>exact Or.inr ⟨_,by simp only[a1d,dlt g,cT,cF,a0A g,oB,h1,h2]<;>rfl,Or.inr rfl⟩
    |false=>exact Or.inl ⟨_,by simp only[a1d,dlt g,cT,cF,a0A g,oB,h1,h2,a0B (show i<1000000 by omega)]<;>rfl,rfl⟩)
  (fun s h=>by
   subst h;exact⟨_,by simp only[a1d,dge,cF]<;>rfl,Or.inl rfl⟩) c.length 0 _ (by omega) rfl
theorem c8X{c:List Int}{w:Nat}(A:1≤c.length)(p:c.length≤32)(C:2≤w∧w≤16):∃o sh e,a5k (c,(w:Int))=some (o,sh,e)∧(e=0→o.length=c.length):=by
 obtain⟨b,x,y⟩:=c7l (w:=(w:Int)) p;have q:decide (((c.length:Nat):Int)<1)=false:=decide_eq_false (by omega);have t:decide (((c.length:Nat):Int) > 32)=false:=decide_eq_false (by omega);have u:decide ((w:Int)<2)=false:=decide_eq_false (by omega);have v:decide ((w:Int) > 16)=false:=decide_eq_false (by omega);unfold a5k;simp only[q,t,u,v,cF,oB,x];rcases y with rfl|rfl
 ·obtain⟨r,n,z⟩:=b5G (f:=a1t) (fun i s=>s=(c,(w:Int),(i:Int),())) (fun r=>r=.inl ()∨∃(sh:Int)(o:List Int),r=.inr (sh,(0:Int),o,())∧o.length=c.length) 15
   (fun i s B h=>by
    subst h;have a:decide ((i:Int)≤14)=true:=decide_eq_true (by omega);have d:decide ((0:Int)≤((c.length:Nat):Int))=true:=by simp
    have j:lim c.length=true:=a0I (by omega);have g:∀half:Int,∃o:List Int,x0r a1s (c,(w:Int),(i:Int),half,c,(c.length:Int),(0:Int),([]:List Int),())=some (c,(w:Int),(i:Int),o,()):=fun half=>c7k p (by omega)
    by_cases hp:(i:Int) > 0
    ·have m:wrap .i64 ((i:Int)-1)=(i:Int)-1:=a0F (by omega);have l:decide ((i:Int)-1<0)=false:=decide_eq_false (by omega);obtain⟨o,k⟩:=g (z0g .i64 1 ((i:Int)-1));cases hc:((((o.length:Nat):Int))==((c.length:Nat):Int))with
     |true=>exact Or.inr ⟨_,by simp only[a1t,a,cT,hp,decide_true,m,l,cF,oB,d,tN,j,a02,k,hc]<;>rfl,Or.inr ⟨_,o,rfl,by have:=beq_iff_eq.1 hc;omega⟩⟩
     |false=>exact Or.inl ⟨_,by simp only[a1t,a,cT,hp,decide_true,m,l,cF,oB,d,tN,j,a02,k,hc,a0B (show i<1000000 by omega)]<;>rfl,rfl⟩
    ·obtain⟨o,k⟩:=g 0;cases hc:((((o.length:Nat):Int))==((c.length:Nat):Int))with
     |true=>exact Or.inr ⟨_,by simp only[a1t,a,cT,hp,decide_false,cF,oB,d,tN,j,a02,k,hc]<;>rfl,Or.inr ⟨_,o,rfl,by have:=beq_iff_eq.1 hc;omega⟩⟩
     |false=>exact Or.inl ⟨_,by simp only[a1t,a,cT,hp,decide_false,cF,oB,d,tN,j,a02,k,hc,a0B (show i<1000000 by omega)]<;>rfl,rfl⟩)
   (fun s h=>by
    subst h;have a:decide (((15:Nat):Int)≤14)=false:=by decide
    exact⟨_,by simp only[a1t,a,cF]<;>rfl,Or.inl rfl⟩) 15 0 (c,(w:Int),(0:Int),()) (by omega) rfl
  rcases z with rfl|⟨sh,o,rfl,k⟩;exact⟨[],0,6,by simp only[n,oB],fun h=>absurd h (by decide)⟩;exact⟨o,sh,0,by simp only[n,oB],fun _=>k⟩
 exact⟨[],0,1,rfl,fun h=>absurd h (by decide)⟩
theorem c4O{l:List Int}(q:l.all a0C=true)(p:l.length≤4096){o w:Nat}(j:1≤o)(m:o≤32)(n:2≤w∧w≤16):∃c sh e,a2J (l,(o:Int),(w:Int))=some (c,sh,e)∧(e=0→c.length=o):=by
 obtain⟨ks,a,s⟩:=c0I q p j m;obtain⟨c,e,b,g⟩:=c3o (ks:=ks) (by omega) (by omega);unfold a2J;simp only[a,oB,show((0:Int) != 0)=false from rfl,cF,b]
 by_cases he:e=0
 subst he;obtain⟨r,sh,k,d,i⟩:=c8X (c:=c) (w:=w) (by have:=g rfl;omega) (by have:=g rfl;omega) n
 have:=g rfl
 exact⟨r,sh,k,by simp only[show((0:Int) != 0)=false from rfl,cF,d,oB],fun h=>by have:=i h;omega⟩;have f:(e != 0)=true:=by simpa using he
 exact⟨[],0,e,by simp only[f,cT],fun h=>absurd h he⟩
theorem c8Y{l:List Int}{o:Nat}(c:l.length<100000)(d:o≤4):∃v,a5T (l,(o:Int))=some v:=by
 obtain⟨b,k,v,a⟩:=a8z (f:=a1Y) (fun i s=>∃v:Int,s=((o:Int),v,l,(l.length:Int),(i:Int),())) (fun b=>∃v:Int,b=(v,())) l.length
  (fun i s g h=>by
   obtain⟨v,rfl⟩:=h;cases hc:decide (wrap .i64 ((i:Int)+(o:Int))≥4)with
   |true=>exact⟨_,by simp only[a1Y,dlt g,cT,a0A g,oB,hc,a0B (show i<1000000 by omega)]<;>rfl,_,rfl⟩
   |false=>exact⟨_,by simp only[a1Y,dlt g,cT,cF,a0A g,oB,hc,a0B (show i<1000000 by omega)]<;>rfl,_,rfl⟩)
  (fun s h=>by
   obtain⟨v,rfl⟩:=h;exact⟨_,by simp only[a1Y,dge,cF]<;>rfl,v,rfl⟩) l.length 0 ((o:Int),(0:Int),l,(l.length:Int),(0:Int),()) (by omega) ⟨0,rfl⟩
 subst a;refine⟨v,?_⟩;unfold a5T;simp only[k,oB]
theorem c3p{l:List Int}{o:Nat}(k:o≤4)(b:l.length<100000)(a:l.all a0C=true):∃r e,a3j (l,(o:Int))=some (r,e)∧r.length≤l.length:=by
 by_cases hn:o≤l.length
 ·rw[b4t k hn (by unfold short;omega) a];cases (a1F o l).all a0C with
  |true=>exact⟨_,_,rfl,by rw[a5e];omega⟩
  |false=>exact⟨_,_,rfl,by simp⟩
 have h:decide ((o:Int)<0)=false:=decide_eq_false (by omega);have g:decide ((o:Int) > 4)=false:=decide_eq_false (by omega);have f:decide (((l.length:Nat):Int)<(o:Int))=true:=decide_eq_true (by omega);exact⟨[],1,by unfold a3j;simp only[h,g,f,cF,cT,oB],by simp⟩
theorem c3q{l:List Int}(n:l.length<100000)(p:l.all a0C=true):∃o:Nat,a4c l=some (o:Int)∧o≤4:=by
 obtain⟨b,d,o,j,m⟩:=a8z (f:=a1z) (fun i s=>∃(o:Nat)(v:Int),s=(l,(o:Int),v,(i:Int),())∧o≤4) (fun b=>∃o:Nat,b=((o:Int),())∧o≤4) 5
  (fun i s t h=>by
   obtain⟨o,v,rfl,a⟩:=h;have g:decide ((i:Int)≤4)=true:=decide_eq_true (by omega);obtain⟨r,e,k,q⟩:=c3p (o:=i) (by omega) n p;obtain⟨y,c⟩:=c8Y (l:=r) (o:=i) (by omega) (by omega);cases hc:(e != 0)with
   |true=>exact⟨_,by simp only[a1z,g,cT,k,oB,hc,a0B (show i<1000000 by omega)]<;>rfl,o,v,rfl,a⟩
   |false=>
    cases h4:decide (v<0)with
    |true=>exact⟨_,by simp only[a1z,g,cT,cF,k,oB,hc,c,h4,a0B (show i<1000000 by omega)]<;>rfl,i,y,rfl,by omega⟩
    |false=>
     cases h5:decide (y<v)with
     |true=>exact⟨_,by simp only[a1z,g,cT,cF,k,oB,hc,c,h4,h5,a0B (show i<1000000 by omega)]<;>rfl,i,y,rfl,by omega⟩
     |false=>exact⟨_,by simp only[a1z,g,cT,cF,k,oB,hc,c,h4,h5,a0B (show i<1000000 by omega)]<;>rfl,o,v,rfl,a⟩)
  (fun s h=>by
   obtain⟨o,v,rfl,a⟩:=h;have g:decide (((5:Nat):Int)≤4)=false:=by decide
   exact⟨_,by simp only[a1z,g,cF]<;>rfl,o,rfl,a⟩) 5 0 (l,(0:Int),(-1:Int),(0:Int),()) (by omega) ⟨0,-1,rfl,by omega⟩
 subst j;refine⟨o,?_,m⟩;unfold a4c;simp only[d,oB]
def a5b(g:List Int→Int):List Int→List Int→List Int
 | [],_=>[]
 |x::r,done=>W (x-g done)::a5b g r (done++[x])
theorem a9t(g:List Int→Int):∀r done,(a5b g r done).length=r.length
 | [],_=>rfl
 |x::r,done=>by simp[a5b,a9t g r]
theorem c9M{x g:Int}(h:a0C x=true):W (W (x-g)+g)=x:=by
 have:=b6r h
 simp_all[a7A]
theorem b8t(g:List Int→Int):∀(r done:List Int),r.all a0C=true→a3v g (a5b g r done) done=some (done++r)
 | [],done,_=>by simp[a5b,a3v]
 |x::r,done,h=>by
  rw[a18,bA]at h;simp only[a5b,a3v,c9M h.1,h.1,cT,b8t g r (done++[x]) h.2,aA,a36]
def b1m(g:List Int→Int)(r done:List Int):Option (List Int):=bif (a5b g r done).all a0C then some (a5b g r done)else none
def b6B{β:Type}(g:List Int→Int)(bad:β)(a:List Int×List Int)(x:Int):(List Int×List Int) ⊕ β:=
 bif a0C (W (x-g a.1))then .inl (a.1++[x],a.2++[W (x-g a.1)])else .inr bad
theorem b8u{β:Type}(g:List Int→Int)(f:β)(k:List Int×List Int→β):∀(r done acc:List Int),
  a8J k (a2i (b6B g f) r (done,acc))=match b1m g r done with|some e=>k (done++r,acc++e)|none=>f
 | [],done,acc=>by grind[a2i,a8J,b1m,a5b]
 |x::r,done,acc=>by
  simp[a2i,b6B];cases h:a0C (W (x-g done))with
  |true=>
   simp
   rw[b8u g f k r];simp only[b1m,a5b,a18,h,a19]
   grind
  |false=>simp_all[a8J,b1m,a5b]
def c1b(g:List Int→Int)(a:List Int×List Int)(x:Int):(List Int×List Int) ⊕ (List Int×Unit):=.inl (a.1++[x],a.2++[W (x-g a.1)])
theorem b8v(g:List Int→Int)(h:List Int×List Int→List Int×Unit):∀(r done acc:List Int),
  a8J h (a2i (c1b g) r (done,acc))=h (done++r,acc++a5b g r done)
 | [],done,acc=>by grind[a2i,a8J,a5b]
 |x::r,done,acc=>by
  simp only[a2i,c1b];rw[b8v g h r];simp[a5b]
theorem c3s{g:List Int→Int}{r done e:List Int}(h:b1m g r done=some e):e=a5b g r done∧e.all a0C=true:=by
 unfold b1m at h
 grind
theorem b1E{l:List Int}{i:Nat}(h:i<l.length):l.take i++[l[i]]=l.take (i+1):=by simp
theorem b1w{l:List Int}{p:Int→Bool}(h:l.all p=true)(i:Nat):(l.take i).all p=true:=by
 grind
theorem c2n{l:List Int}{p:Int→Bool}(h:l.all p=true)(i:Nat):(l.drop i).all p=true:=by
 grind
theorem b6C{σ β:Type}{f:σ→Option (σ ⊕ β)}(l:List Int)(k:Nat)(r:k≤l.length)(S:Nat→List Int→σ)(g:List Int×List Int→Int→(List Int×List Int) ⊕ β)(d:List Int→β)
  (j:∀i (h:i<l.length) c,k≤i→c.length=i-k→(∀a',g (l.take i,c) l[i]=.inl a'→f (S i c)=some (.inl (S (i+1) a'.2))∧a'.1=l.take (i+1)∧a'.2.length=i+1-k)∧(∀b,g (l.take i,c) l[i]=.inr b→f (S i c)=some (.inr b)))
  (e:∀c,c.length=l.length-k→f (S l.length c)=some (.inr (d c))):x0r f (S k [])=some (a8J (fun a=>d a.2) (a2i g (l.drop k) (l.take k,[]))):=by
 have h:=a1L (f:=f) (l.drop k) (fun i a=>S (k+i) a.2) g (fun i a=>a.1=l.take (k+i)∧a.2.length=i) (fun a=>d a.2)
  (fun i p a n=>by
   obtain⟨a1,c⟩:=a;obtain⟨m,o⟩:=n;simp only at m o;subst m;rw[a32]at p;have q:k+i<l.length:=by omega
   grind)
  (fun a n=>by
   simp_all) (a:=(l.take k,[])) ⟨by simp,rfl⟩
 omega
def b3K(l c:List Int)(s:Int):Option (List Int):=bif l.all a0C then b1m (a6N c s) (l.drop c.length) (l.take c.length)else none
theorem b7M{l c:List Int}{s:Int}(w:a5R c s=true)(u:c.length≤l.length)(z:l.length<100000):
  a8d (l,c,s)=some (a2o (b3K l c s)):=by
 have n:short l:=by unfold short;omega
 have k:short c:=by unfold short;omega
 have e:0≤s:=by simp_all[a5R]
 have p:decide (((l.length:Nat):Int)<((c.length:Nat):Int))=false:=by simp_all
 unfold a8d b3K;simp only[b1j k,w,oB,bT,cF,p,a4T n];cases hw:l.all a0C with
 |false=>rfl
 |true=>
  have q:wrap .i64 (((l.length:Nat):Int)-((c.length:Nat):Int))=((l.length-c.length:Nat):Int):=by grind[a0F]
  have y:decide ((0:Int)≤((l.length-c.length:Nat):Int))=true:=by simp
  have r:lim (l.length-c.length)=true:=a0I (by omega);simp[q,r]
  have:=b6C (f:=a5w) l c.length u (fun i h=>(l,c,s,(i:Int),h,())) (b6B (a6N c s) (.inr ((6:Int),([]:List Int),()))) (fun h=>.inl (h,()))
   (fun i a h v d=>by
    have o:short (l.take i):=by unfold short;grind
    have j:decide ((0:Int)≤(i:Int))=true:=by simp
    have m:decide ((i:Int)≤((l.length:Nat):Int))=true:=by grind
    have t:lim (h.length+1)=true:=a0I (by omega);constructor
    ·intro x g;unfold b6B at g;cases hq:a0C (W (l[i]-a6N c s (l.take i)))with
     |false=>simp_all
     |true=>
      simp only[hq,cT,Sum.inl.injEq]at g;subst g;refine⟨?_,b1E a,by grind⟩;simp only[a5w,dlt a,cT,a0A a,oB,j,m,a02,tN,b8h o k e,a7t,hq,bT,cF,t,a0B (a07 a n),a05]
    ·intro b hb;unfold b6B at hb;cases hq:a0C (W (l[i]-a6N c s (l.take i)))with
     |true=>simp_all
     |false=>
      simp[hq]at hb;subst hb;simp only[a5w,dlt a,cT,a0A a,oB,j,m,a02,tN,b8h o k e,a7t,hq,a21])
   (fun h d=>by simp[a5w])
  rw[this,b8u];cases b1m (a6N c s) (l.drop c.length) (l.take c.length)<;>rfl
theorem b4D{l c:List Int}{s:Int}(j:a5R c s=true)(r:c.length≤l.length)(w:l.length<100000):
  a7L (l,c,s)=some (a2o (b3K l c s)):=by
 have m:short l:=by unfold short;omega
 have a:short c:=by unfold short;omega
 have n:decide (((l.length:Nat):Int)<((c.length:Nat):Int))=false:=by simp_all
 unfold a7L b3K;simp only[a5H a,j,oB,bT,cF,n,a0M m];cases hw:l.all a0C with
 |false=>rfl
 |true=>
  simp only[bT,cF,cT]
  have:=b6C (f:=a5N) l c.length r (fun i h=>(l,c,s,(i:Int),h,())) (c1b (a6N c s)) (fun h=>(h,()))
   (fun i d h t k=>by
    have u:short (l.take i):=by unfold short;grind
    have o:decide ((0:Int)≤(i:Int))=true:=by simp
    have p:decide ((i:Int)≤((l.length:Nat):Int))=true:=by grind
    have q:lim (h.length+1)=true:=a0I (by omega);refine⟨fun v g=>?_,fun b hb=>by cases hb⟩;simp only[c1b,Sum.inl.injEq]at g;subst g;refine⟨?_,b1E d,by grind⟩;simp only[a5N,dlt d,cT,a0A d,oB,o,p,a02,tN,b3S u a (b1w hw i) j,q,a0B (a07 d m),a05])
   (fun h k=>by simp[a5N])
  rw[this,b8v];have e:short (a5b (a6N c s) (l.drop c.length) (l.take c.length)):=by unfold short;grind[a9t]
  simp only[oB,a08,a0M e,b1m];cases (a5b (a6N c s) (l.drop c.length) (l.take c.length)).all a0C<;>rfl
theorem b8w{l c r:List Int}{s:Int}(h:b3K l c s=some r):b2t (l.take c.length) r c s=some l∧r.all a0C=true∧r.length=l.length-c.length:=by
 unfold b3K at h;cases hw:l.all a0C with
 |false=>simp_all
 |true=>
  simp[hw]at h;obtain⟨e,g⟩:=c3s h;refine⟨?_,g,by simp_all[a9t]⟩;simp[b2t,b1w hw,g]
  grind[b8t,List.take_append_drop]
def b2C(l:List Int)(lag:Int)(t:List Int):Option (List Int):=bif l.all a0C then b1m (a4w lag t) l []else none
theorem c6j{l t:List Int}{lag:Int}(p:a7b lag t=true)(d:t.length=3)(s:l.length<100000):
  b0J (l,lag,t)=some (a2o (b2C l lag t)):=by
 have c:short l:=by unfold short;omega
 obtain⟨j,m⟩:2≤lag∧lag≤1024:=by simp_all[a7b]
 unfold b0J b2C;simp only[b7g d,p,oB,bT,cF,b6q c];cases hw:l.all a0C with
 |false=>rfl
 |true=>
  have r:decide ((0:Int)≤((l.length:Nat):Int))=true:=by simp
  have e:lim l.length=true:=a0I (by omega);simp[e]
  have:=b6C (f:=a7e) l 0 (Nat.zero_le _) (fun i h=>(l,lag,l,(l.length:Int),(i:Int),h,t,())) (b6B (a4w lag t) (.inr ((6:Int),([]:List Int),()))) (fun h=>.inl (h,()))
   (fun i a h o k=>by
    have n:lim (h.length+1)=true:=a0I (by omega);have hp:=b6s (lag:=lag) (t:=t) (a53 a) c d j m;constructor
    ·intro q g;unfold b6B at g;cases hq:a0C (W (l[i]-a4w lag t (l.take i)))with
     |false=>simp_all
     |true=>
      simp only[hq,cT,Sum.inl.injEq]at g;subst g;refine⟨?_,b1E a,by simp_all⟩;simp only[a7e,dlt a,cT,a0A a,oB,hp,a9n,hq,bT,cF,n,a0B (a07 a c),a05]
    ·intro b hb;unfold b6B at hb;cases hq:a0C (W (l[i]-a4w lag t (l.take i)))with
     |true=>simp_all
     |false=>
      simp_all[a7e,a0A,a9n])
   (fun h k=>by simp[a7e])
  simp only[nZ]at this;rw[this,b8u,a06,a77];cases b1m (a4w lag t) l []<;>rfl
theorem c3t{l t:List Int}{lag:Int}(s:a7b lag t=true)(j:t.length=3)(v:l.length<100000):
  a7q (l,lag,t)=some (a2o (b2C l lag t)):=by
 have e:short l:=by unfold short;omega
 obtain⟨m,n⟩:2≤lag∧lag≤1024:=by simp_all[a7b]
 unfold a7q b2C;simp only[b2V j,s,oB,bT,cF,a0M e];cases hw:l.all a0C with
 |false=>rfl
 |true=>
  simp only[bT,cF,cT]
  have:=b6C (f:=a6Y) l 0 (Nat.zero_le _) (fun i h=>(l,lag,(i:Int),h,t,())) (c1b (a4w lag t)) (fun h=>(h,()))
   (fun i a h r k=>by
    have d:short (l.take i):=by unfold short;grind
    have hp:=b5w (out:=l.take i) (lag:=lag) (t:=t) d j m n;have p:decide ((0:Int)≤(i:Int))=true:=by simp
    have q:decide ((i:Int)≤((l.length:Nat):Int))=true:=by grind
    have o:lim (h.length+1)=true:=a0I (by omega);refine⟨fun u g=>?_,fun b hb=>by cases hb⟩;simp only[c1b,Sum.inl.injEq]at g;subst g;refine⟨?_,b1E a,by simp_all⟩;simp only[a6Y,dlt a,cT,a0A a,oB,p,q,a02,tN,hp,o,a0B (a07 a e),a05])
   (fun h k=>by simp[a6Y])
  simp only[nZ]at this;rw[this,b8v,a06,a77];have c:short (a5b (a4w lag t) l []):=by unfold short;rw[a9t];omega
  simp only[oB,a08,a0M c,b1m];cases (a5b (a4w lag t) l []).all a0C<;>rfl
theorem b6D{l t r:List Int}{lag:Int}(h:b2C l lag t=some r):b3C r lag t=some l∧r.all a0C=true∧r.length=l.length:=by
 unfold b2C at h;cases hw:l.all a0C with
 |false=>simp_all
 |true=>
  simp[hw]at h;obtain⟨e,g⟩:=c3s h;refine⟨?_,g,by rw[e,a9t]⟩;simp[b3C,g];simp_all[b8t]
def rsG:List Int→Fil→List Int
 | [],_=>[]
 |x::r,f=>W (x-a0T f)::rsG r (a9Q f x)
theorem b4U:∀r f,(rsG r f).length=r.length
 | [],_=>rfl
 |x::r,f=>by simp[rsG,b4U r]
def rsO:List Int→List Int→Fil→Option (List Int)
 | [],done,_=>some done
 |x::r,done,f=>bif a0C (W (x-a0T f))then rsO r (done++[W (x-a0T f)]) (a9Q f x)else none
theorem c6k:∀(r done:List Int)(f:Fil),rsO r done f=bif (rsG r f).all a0C then some (done++rsG r f)else none
 | [],done,f=>by simp[rsO,rsG]
 |x::r,done,f=>by
  simp only[rsO,rsG,a18];cases a0C (W (x-a0T f))with
  |false=>rfl
  |true=>simp only[cT,a19,c6k r,aA,a36]
theorem c7C:∀(r z:List Int)(f:Fil),r.all a0C=true→stO (rsG r f) z f=some (z++r)
 | [],z,f,_=>by simp[rsG,stO]
 |x::r,z,f,h=>by
  rw[a18,bA]at h;have e:W (a0T f+W (x-a0T f))=x:=by rw[Int.add_comm];exact c9M h.1
  simp only[rsG,stO,e,h.1,cT,c7C r _ _ h.2,aA,a36]
theorem b6E{row:List Int}{a:List Stg}{b c:Int}(l:short row):∀(k i:Nat)(done:List Int)(f:Fil),i+k=row.length→done.length=i→FilOk f→
  x0r a6g (a,b,c,(row.length:Int),(i:Int),done++row.drop i,f,())=some (match rsO (row.drop i) done f with
   |some r=>.inl (a,b,c,r,())
   |none=>.inr ((6:Int),([]:List Int),()))
 |0,i,done,f,h,hd,hf=>by
  obtain rfl:i=row.length:=by omega
  rw[a16,a43];exact a0D (b:=Sum.inl (a,b,c,done,())) (by simp[a6g])
 |k+1,i,done,f,h,hd,hf=>by
  have g:i<row.length:=by omega
  have n:row.length<1000000:=l;have e:decide ((0:Int)≤(i:Int))=true:=by simp
  have m:(done++row.drop i).length=row.length:=by simp;omega
  have j:decide ((i:Int)<(((done++row.drop i).length:Nat):Int))=true:=by rw[m];simp;omega
  have d:rsO (row.drop i) done f=bif a0C (W (row[i]-a0T f))then rsO (row.drop (i+1)) (done++[W (row[i]-a0T f)]) (a9Q f row[i])else none:=by
   rw[a00 g];rfl
  rw[d];cases hw:a0C (W (row[i]-a0T f))with
  |true=>
   rw[a0E (s':=(a,b,c,(row.length:Int),((i+1:Nat):Int),(done++[W (row[i]-a0T f)])++row.drop (i+1),a9Q f row[i],())) (by
    simp only[a6g,dlt g,e,j,cT,a02,a7u hf,oB,tN,b1D hd g,a5Z,hw,bT,cF,b8X hf,b8k hd g,a0B (show i<1000000 by omega)])]
   exact b6E l k (i+1) _ _ (by omega) (by simp;omega) (b8j hf _)
  |false=>
   exact a0D (by
    simp only[a6g,dlt g,e,j,cT,a02,a7u hf,oB,tN,b1D hd g,a5Z,hw,a21];rfl)
theorem b9d{row:List Int}{a:List Stg}{b:Int}(d:short row):∀(k i:Nat)(done:List Int)(f:Fil),i+k=row.length→done.length=i→FilOk f→
  x0r a6x (a,b,(i:Int),done++row.drop i,f,())=some (a,b,done++rsG (row.drop i) f,())
 |0,i,done,f,h,hd,hf=>by
  obtain rfl:i=row.length:=by omega
  rw[a16,a43];have c:done.length=row.length:=hd;exact a0D (by rw[←c];simp[a6x,rsG])
 |k+1,i,done,f,h,hd,hf=>by
  have g:i<row.length:=by omega
  have l:row.length<1000000:=d;have e:decide ((0:Int)≤(i:Int))=true:=by simp
  have c:(done++row.drop i).length=row.length:=by simp;omega
  have j:decide ((i:Int)<(((done++row.drop i).length:Nat):Int))=true:=by rw[c];simp;omega
  rw[a0E (s':=(a,b,((i+1:Nat):Int),(done++[W (row[i]-a0T f)])++row.drop (i+1),a9Q f row[i],())) (by
    simp only[a6x,e,j,cT,a02,b2u hf,oB,tN,b1D hd g,c1J hf,b8k hd g,a0B (show i<1000000 by omega)]),
   b9d d k (i+1) _ _ (by omega) (by simp;omega) (b8j hf _),a00 g]
  simp only[rsG,aA,a36]
def lRO:List Stg→List Int→Option (List Int)
 | [],row=>some row
 |s::r,row=>match rsO row [] (a7v s)with
  |some row'=>lRO r row'
  |none=>none
theorem c6l{row d:List Int}{f:Fil}(h:rsO row [] f=some d):d=rsG row f∧d.all a0C=true:=by
 rw[c6k]at h;cases hc:(rsG row f).all a0C with
 |true=>simp only[hc,cT,a08,sj]at h;subst h;exact⟨rfl,hc⟩
 |false=>simp[hc]at h
theorem c4P:∀(a b:List Stg)(row:List Int),lO (a++b) row=match lO a row with|some r=>lO b r|none=>none
 | [],b,row=>rfl
 |s::a,b,row=>by
  simp only[a69,lO];split;exact c4P a b _;rfl
theorem c6m:∀(st:List Stg)(row d:List Int),row.all a0C=true→lRO st row=some d→lO st.reverse d=some row∧d.all a0C=true∧d.length=row.length
 | [],row,d,hw,h=>by
  simp only[lRO,sj]at h;subst h;exact⟨rfl,hw,rfl⟩
 |s::st,row,d,hw,h=>by
  simp only[lRO]at h
  split at h
  rename_i g c;obtain⟨e,f⟩:=c6l c;obtain⟨k,a,b⟩:=c6m st g d f h;refine⟨?_,a,by rw[b,e,b4U]⟩;rw[List.reverse_cons,c4P,k];simp only[lO];rw[e,c7C row [] _ hw,a08];cases h
theorem b4E{st:List Stg}(i:∀s∈st,a3u s=true)(l:st.length≤3):∀(j k:Nat)(row:List Int),k+j=st.length→short row→
  x0r a6h (st,(st.length:Int),(k:Int),row,())=some (match lRO (st.drop k) row with
   |some r=>.inl (r,())
   |none=>.inr ((6:Int),([]:List Int),()))
 |0,k,row,h,hs=>by
  obtain rfl:k=st.length:=by omega
  rw[a16];exact a0D (by simp[a6h,lRO])
 |j+1,k,row,h,hs=>by
  have f:k<st.length:=by omega
  have g:=i _ (a04 f);have d:=b6E (a:=st) (b:=(st.length:Int)) (c:=(k:Int)) hs row.length 0 [] (a7v st[k]) (by omega) rfl (c0Z g);simp only[nZ,a06,a08]at d;have e:((0:Int) != 0)=false:=rfl;rw[a00 f];simp only[lRO];cases hr:rsO row [] (a7v st[k])with
  |some r=>
   rw[hr]at d;rw[a0E (s':=(st,(st.length:Int),((k+1:Nat):Int),r,())) (by simp only[a6h,dlt f,cT,a0A f,oB,b5y g,e,cF,d,a0B (show k<1000000 by omega)])];exact b4E i l j (k+1) r (by omega) (by have:=(c6l hr).1;unfold short at hs⊢;rw[this,b4U];exact hs)
  |none=>
   rw[hr]at d;exact a0D (by simp only[a6h,dlt f,cT,a0A f,oB,b5y g,e,cF,d])
theorem b6F{st:List Stg}(d:∀s∈st,a3u s=true)(i:st.length≤3):∀(j k:Nat)(row:List Int),k+j=st.length→short row→
  x0r a4k (st,(k:Int),row,())=some (match lRO (st.drop k) row with
   |some r=>.inl (r,())
   |none=>.inr ((6:Int),([]:List Int),()))
 |0,k,row,h,hs=>by
  obtain rfl:k=st.length:=by omega
  rw[a16];exact a0D (by simp[a4k,lRO])
 |j+1,k,row,h,hs=>by
  have c:k<st.length:=by omega
  have g:=d _ (a04 c);have e:=b9d (a:=st) (b:=(k:Int)) hs row.length 0 [] (a7v st[k]) (by omega) rfl (c0Z g);simp only[nZ,a06,a08]at e;have f:short (rsG row (a7v st[k])):=by unfold short;rw[b4U];exact hs
  rw[a00 c];simp only[lRO,c6k,a08];cases hr:(rsG row (a7v st[k])).all a0C with
  |true=>
   rw[a0E (s':=(st,((k+1:Nat):Int),rsG row (a7v st[k]),())) (by simp only[a4k,dlt c,cT,a0A c,oB,a7Q g,e,a0M f,hr,bT,cF,a0B (show k<1000000 by omega)])];exact b6F d i j (k+1) _ (by omega) f
  |false=>
   exact a0D (by simp only[a4k,dlt c,cT,a0A c,oB,a7Q g,e,a0M f,hr,a21];rfl)
def a9S(l:List Int)(st:List Stg):Option (List Int):=bif l.all a0C then lRO st l else none
theorem c5o{l:List Int}{st:List Stg}(k:a4U st=true)(a:l.length<100000):b1O (l,st)=some (a2o (a9S l st)):=by
 have h:=k;simp only[a4U,bA,dT]at h;have f:short st:=by unfold short;omega
 have g:short l:=by unfold short;omega
 unfold b1O a9S;simp only[b5v f,k,oB,bT,cF,b5u g];cases hw:l.all a0C with
 |false=>rfl
 |true=>
  have:=b4E (lA.1 h.2) h.1 st.length 0 l (by omega) g
  simp only[nZ,a06]at this;simp only[bT,cF,cT,a7P g,oB,this];cases lRO st l<;>rfl
theorem c2o{l:List Int}{st:List Stg}(a:a4U st=true)(b:l.length<100000):a8U (l,st)=some (a2o (a9S l st)):=by
 have h:=a;simp only[a4U,bA,dT]at h;have k:short st:=by unfold short;omega
 have g:short l:=by unfold short;omega
 have f:lim (0+l.length)=true:=a0I (by omega);unfold a8U a9S;simp only[b2r k,a,oB,bT,cF,a0M g];cases hw:l.all a0C with
 |false=>rfl
 |true=>
  have:=b6F (lA.1 h.2) h.1 st.length 0 l (by omega) g
  simp only[nZ,a06]at this;simp only[bT,cF,cT,f,oB,a05,a08,this];cases lRO st l<;>rfl
theorem c3u{l r:List Int}{st:List Stg}(h:a9S l st=some r):b0U r st=some l∧r.all a0C=true∧r.length=l.length:=by
 unfold a9S at h;cases hw:l.all a0C with
 |false=>simp[hw]at h
 |true=>
  simp only[hw,cT]at h;obtain⟨f,g,k⟩:=c6m st l r hw h;exact⟨by simp only[b0U,g,cT,f],g,k⟩
theorem p64{w:Nat}(h:w≤64):((2^w:Nat):Int) ∣ 18446744073709551616:=a27.2 (a57 2 h)
theorem d3Y(n:Int):∃q,wrap .i64 n=n+18446744073709551616*q:=by
 rw[a7A,Int.bmod];split;exact⟨-(n / 18446744073709551616),by omega⟩;exact⟨-(n / 18446744073709551616)-1,by omega⟩
theorem d1c{w:Nat}(h:w≤64)(n:Int):((2^w:Nat):Int) ∣ wrap .i64 n↔((2^w:Nat):Int) ∣ n:=by
 obtain⟨q,g⟩:=d3Y n;rw[g]
 grind[a50,a40,p64]
theorem c4Q{w:Nat}(h:w≤64)(a:Int):2^w ∣ (a09 64 a).toNat↔((2^w:Nat):Int) ∣ a:=by
 have e:(((a09 64 a).toNat:Nat):Int)=a+18446744073709551616*-(a / 18446744073709551616):=by
  rw[BitVec.toNat_ofInt];omega
 rw[←a27,e]
 grind[a50,a40,p64]
theorem c8Z(w x y:Nat):2^w ∣ (x ||| y)↔2^w ∣ x∧2^w ∣ y:=by
 simp_all[Nat.dvd_iff_mod_eq_zero,Nat.or_mod_two_pow]
theorem d3Z{w:Nat}(h:w≤64)(a b:Int):((2^w:Nat):Int) ∣ bits .i64 .or a b↔((2^w:Nat):Int) ∣ a∧((2^w:Nat):Int) ∣ b:=by
 show((2^w:Nat):Int) ∣ wrap .i64 ((((a09 64 a) ||| (a09 64 b)).toNat:Nat):Int)↔_;rw[d1c h,a27,BitVec.toNat_or,c8Z,c4Q h,c4Q h]
def orI(l:List Int)(a:Int):Int:=l.foldl (fun a x=>bits .i64 .or a x) a
theorem b4W{w:Nat}(h:w≤64):∀(l:List Int)(a:Int),((2^w:Nat):Int) ∣ orI l a↔((2^w:Nat):Int) ∣ a∧∀x∈l,((2^w:Nat):Int) ∣ x
 | [],a=>by simp[orI]
 |x::l,a=>by
  show((2^w:Nat):Int) ∣ orI l (bits .i64 .or a x)↔_;rw[b4W h l,d3Z h];simp_all[and_assoc]
theorem c2p:∀(l:List Int),(∀x∈l,x=0)→orI l 0=0
 | [],_=>rfl
 |x::l,h=>by
  have g:=h x (List.mem_cons_self);subst g;show orI l (bits .i64 .or 0 0)=0;rw[show bits .i64 .or 0 0=0 from by rfl];simp_all[c2p]
theorem c9N{l:List Int}(k:l.all a0C=true)(h:∃x∈l,x≠0):orI l 0≠0:=by
 intro e;obtain⟨x,g,f⟩:=h;have b:=((b4W (w:=62) (by omega) l 0).1 (by omega)).2 x g;have a:=a1X.1 (lA.1 k x g);omega
def a8A(l:List Int)(w:Nat):Prop:=
 ((∀x∈l,x=0)∧w=0)∨((∃x∈l,x≠0)∧w≤30∧(∀x∈l,((2^w:Nat):Int) ∣ x)∧(w=30∨∃x∈l,¬ ((2^(w+1):Nat):Int) ∣ x))
theorem c9a{v w:Nat}(h:v≤w){x:Int}(g:((2^w:Nat):Int) ∣ x):((2^v:Nat):Int) ∣ x:=
 Int.dvd_trans (a27.2 (a57 2 h)) g
theorem a8A.unique{l:List Int}{v w:Nat}(hv:a8A l v)(g:a8A l w):v=w:=by
 have d:∀{v w:Nat},v≤30→w≤30→(∀x∈l,((2^w:Nat):Int) ∣ x)→(v=30∨∃x∈l,¬ ((2^(v+1):Nat):Int) ∣ x)→w≤v:=by
  grind[c9a]
 rcases hv with⟨f,hv⟩|⟨⟨x,c,h⟩,hv1,hv2,hv3⟩
 ·rcases g with⟨-,g⟩|⟨⟨x,c,h⟩,-⟩
  all_goals grind
 ·rcases g with⟨f,-⟩|⟨-,k,a,b⟩
  all_goals grind
theorem c6n:∀(n N:Nat),N≤n→0<N→∃k m,N=2^k*(2*m+1)
 |0,N,h,h0=>absurd h0 (by omega)
 |n+1,N,h,h0=>by
  by_cases he:N%2=0
  obtain⟨k,m,e⟩:=c6n n (N / 2) (by omega) (by omega);refine⟨k+1,m,?_⟩;rw[Nat.pow_succ,a65 (2^k) 2,Nat.mul_assoc,←e];omega;exact⟨0,N / 2,by omega⟩
theorem d2N{k m:Nat}(h:2^k*(2*m+1)<2^64):(2^k*(2*m+1)) &&& (2^64-2^k*(2*m+1))=2^k:=by
 have hp:1≤2^k:=a64;have n:k<64:=by
  refine a73 fun g=>?_
  have d:2^64≤2^k:=a31 (by simp) g
  grind
 have e:2^k*(2*m+1)=(2^k*(2*m)+(2^k-1))+1:=by grind
 have l:2^k*(2*m)+(2^k-1)<2^64:=by omega
 refine Nat.eq_of_testBit_eq fun i=>?_
 have a:(2^64-2^k*(2*m+1)).testBit i=(decide (i<64)&&!(2^k*(2*m)+(2^k-1)).testBit i):=by
  rw[e];exact Nat.testBit_two_pow_sub_succ l i
 have f:=a45 (2*m+1) (b:=0) (i:=k) (by omega) i;rw[Nat.add_zero]at f;have c:=a45 (2*m) (b:=2^k-1) (i:=k) (by omega) i;rw[Nat.testBit_and,a,f,c,Nat.testBit_two_pow]
 by_cases d:i<k
 grind
 by_cases h2:k=i
 simp_all;obtain⟨j,rfl⟩:∃j,i=k+(j+1):=⟨i-k-1,by omega⟩;have o:k+(j+1)-k=j+1:=by omega
 have p:(2*m+1) / 2=m:=by omega
 simp_all[Nat.testBit_succ]
theorem d1d:∀k:Nat,k<64→b3j[(2^k*285870213051353865)%18446744073709551616 / 288230376151711744]?=some (k:Int):=by
 have h:∀k:Fin 64,b3j[(2^k.val*285870213051353865)%18446744073709551616 / 288230376151711744]?=some (k.val:Int):=by decide
 exact fun k g=>h ⟨k,g⟩
theorem c7m{k m:Nat}:¬ 2^(k+1) ∣ 2^k*(2*m+1):=by
 rintro⟨c,h⟩
 rw[Nat.pow_succ,Nat.mul_assoc]at h
 grind[Nat.eq_of_mul_eq_mul_left]
theorem d1e{N:Nat}(d:0<N)(h:N<18446744073709551616):∃k:Nat,a1V (N:Int)=some (k:Int)∧2^k ∣ N∧¬ 2^(k+1) ∣ N:=by
 obtain⟨k,m,e⟩:=c6n N N (a34 _) d;have n:2^k≤N:=by grind
 have i:k<64:=by
  refine a73 fun g=>?_
  have l:2^64≤2^k:=a31 (by simp) g;omega
 refine⟨k,?_,⟨_,e⟩,e▸c7m⟩;have hb:bits .u64 .and (N:Int) (wrap .u64 (0-(N:Int)))=((2^k:Nat):Int):=by
  have b:wrap .u64 (0-(N:Int))=((18446744073709551616-N:Nat):Int):=by
   grind[wrap,IntKind.bits,IntKind.signed]
  rw[b];show wrap .u64 (((a09 64 (N:Int)) &&& (a09 64 ((18446744073709551616-N:Nat):Int))).toNat:Int)=_;rw[a30,a30,a72,a33,a33,a38 h,a38 (by omega)]
  have:=d2N (k:=k) (m:=m) (by omega)
  rw[←e]at this;rw[show(18446744073709551616:Nat)=2^64 from rfl,this];exact a1m (by omega)
 have j:((N:Int)==0)=false:=by grind
 unfold a1V;rw[hb,j,cF];have f:wrap .u64 (((2^k:Nat):Int)*285870213051353865)=(((2^k*285870213051353865)%18446744073709551616:Nat):Int):=by
  rfl
 have a:=d1d k i;generalize (2^k*285870213051353865)%18446744073709551616=M at f a;have c:=a7B (N:=M) (o:=58) (by omega);rw[f,show(58:Int)=((58:Nat):Int)from rfl,c,show 2^58=288230376151711744 from rfl];generalize M / 288230376151711744=J at a
 grind[a0A,a0F]
theorem d4a(y:Int):bits .i64 .and y 1=y%2:=by
 have h:((a09 64 y) &&& (a09 64 1)).toNat=(y%18446744073709551616).toNat%2:=by
  simp
 show wrap .i64 ((((a09 64 y) &&& (a09 64 1)).toNat:Nat):Int)=_
 grind[a0F]
theorem c6o{n:Nat}(g:n≤62)(c:Int):z0h .i64 (((2^n:Nat):Int)*c) (n:Int)=c:=by
 have hp:0<2^n:=a44 n;have e:min (a35 (n:Int)) (IntKind.bits .i64)=n:=by grind[IntKind.bits]
 have h:((2^n:Nat):Int)=2^n:=by simp
 unfold z0h
 grind[a49]
theorem b6G{a:Int}(o:a≠0):∀(k n:Nat),n+k=30→((2^n:Nat):Int) ∣ a→
  ∃r:Nat,x0r a5p (a,(n:Int),())=some ((r:Int),())∧r≤30∧((2^r:Nat):Int) ∣ a∧(r=30∨¬ ((2^(r+1):Nat):Int) ∣ a)
 |0,n,h,hd=>by
  obtain rfl:n=30:=by omega
  exact⟨30,a0D (by grind[a5p]),by omega,hd,.inl rfl⟩
 |k+1,n,h,hd=>by
  have f:(a != 0)=true:=by grind
  have b:decide ((n:Int)<30)=true:=by grind
  have e:wrap .u64 (n:Int)=(n:Int):=a1m (by omega);have d:decide ((n:Int)<0)=false:=by simp
  have i:wrap .i64 ((n:Int)+1)=((n+1:Nat):Int):=a0B (by omega);obtain⟨c,j⟩:=hd;have l:z0h .i64 a (n:Int)=c:=by grind[c6o]
  have g:((2^(n+1):Nat):Int) ∣ a↔c%2=0:=by
   have m:((2^(n+1):Nat):Int)=((2^n:Nat):Int)*2:=by rfl
   rw[m,j]
   grind[Int.mul_dvd_mul_iff_left]
  by_cases h2:c%2=0
  have hb:(bits .i64 .and c 1==0)=true:=by rw[d4a,h2];rfl
  obtain⟨r,s,p⟩:=b6G o k (n+1) (by omega) (g.2 h2);refine⟨r,?_,p⟩;rw[a0E (s':=(a,((n+1:Nat):Int),())) (by simp only[a5p,f,cT,b,e,d,cF,l,hb,i])];omega;have hb:(bits .i64 .and c 1==0)=false:=by simp_all[d4a]
  exact⟨n,a0D (by simp only[a5p,f,cT,b,e,d,cF,l,hb]),by omega,⟨c,j⟩,.inr fun q=>h2 (g.1 q)⟩
theorem c7D{l:List Int}(f:short l):∀(k i:Nat)(a:Int),i+k=l.length→x0r a6b (a,l,(l.length:Int),(i:Int),())=some (orI (l.drop i) a,())
 |0,i,a,h=>by
  obtain rfl:i=l.length:=by omega
  simp_all[a0D,a6b,orI]
 |k+1,i,a,h=>by
  have g:i<l.length:=by omega
  have b:l.length<1000000:=f;rw[a00 g,a0E (s':=(bits .i64 .or a l[i],l,(l.length:Int),((i+1:Nat):Int),())) (by
   simp only[a6b,dlt g,cT,a0A g,oB,a0B (show i<1000000 by omega)])]
  exact c7D f k (i+1) _ (by omega)
theorem c1Q{l:List Int}(f:short l):∀(k i:Nat)(a:Int),i+k=l.length→x0r a9H (l,a,(i:Int),())=some (orI (l.drop i) a,())
 |0,i,a,h=>by
  obtain rfl:i=l.length:=by omega
  simp_all[a0D,a9H,orI]
 |k+1,i,a,h=>by
  have g:i<l.length:=by omega
  have b:l.length<1000000:=f;rw[a00 g,a0E (s':=(l,bits .i64 .or a l[i],((i+1:Nat):Int),())) (by
   simp only[a9H,dlt g,cT,a0A g,oB,a0B (show i<1000000 by omega)])]
  exact c1Q f k (i+1) _ (by omega)
theorem c1R{l:List Int}{r:Nat}(g:r≤30)(h:r=30∨¬ ((2^(r+1):Nat):Int) ∣ orI l 0):r=30∨∃x∈l,¬ ((2^(r+1):Nat):Int) ∣ x:=by
 grind[b4W,Int.dvd_zero]
theorem c5p{l:List Int}(i:short l)(j:l.all a0C=true):∃w:Nat,a6M l=some (w:Int)∧w≤30∧a8A l w:=by
 have f:=c1Q i l.length 0 0 (by omega);simp at f;unfold a6M;simp[f]
 by_cases hz:∀x∈l,x=0
 have e:=c2p l hz;exact⟨0,by simp_all[a0D,a5p],by omega,.inl ⟨hz,rfl⟩⟩;have h:∃x∈l,x≠0:=Classical.byContradiction fun c=>hz fun x h=>Classical.byContradiction fun d=>c ⟨x,h,d⟩;obtain⟨r,k,g,a,b⟩:=b6G (c9N j h) 30 0 (by rfl) (by simp);rw[nZ]at k;exact⟨r,by simp_all,g,.inr ⟨h,g,((b4W (by omega) l 0).1 a).2,c1R g b⟩⟩
theorem c2q{l:List Int}(y:short l)(j:l.all a0C=true):∃w:Nat,a4r l=some (w:Int)∧w≤30∧a8A l w:=by
 have a:=c7D y l.length 0 0 (by omega);simp at a;unfold a4r;simp[a]
 by_cases hz:∀x∈l,x=0
 have e:=c2p l hz;exact⟨0,by simp_all,by omega,.inl ⟨hz,rfl⟩⟩
 ·have g:∃x∈l,x≠0:=Classical.byContradiction fun m=>hz fun x g=>Classical.byContradiction fun s=>m ⟨x,g,s⟩;have t:=c9N j g;have n:(orI l 0==0)=false:=by simp_all
  obtain⟨q,u⟩:∃q,wrap .u64 (orI l 0)=orI l 0+18446744073709551616*q:=⟨-(orI l 0 / 18446744073709551616),by
   grind[wrap,IntKind.bits,IntKind.signed]⟩
  obtain⟨B,r2⟩:=c1O (orI l 0);obtain⟨N,d⟩:=a03 B;have b:∀v,v≤64→(2^v ∣ N↔((2^v:Nat):Int) ∣ orI l 0):=fun v hv=>by
   rw[←a27,←d,u]
   grind[a50,a40,p64]
  have h:0<N:=by
   refine Nat.pos_of_ne_zero fun C=>?_
   obtain⟨x,f,A⟩:=g;have E:=((b4W (w:=62) (by omega) l 0).1 ((b 62 (by omega)).1 (by omega))).2 x f;have z:=a1X.1 (lA.1 j x f);omega
  obtain⟨k,p,c,r⟩:=d1e h (by omega);have i:k≤63:=by
   refine Nat.le_of_not_lt fun o=>?_
   have a:2^64≤2^k:=a31 (by simp) (by omega)
   have:=Nat.le_of_dvd h c
   omega
  simp only[n,cF,d,p,oB];have D:v0a (k:Int) 30=((min k 30:Nat):Int):=by rw[c4e];omega
  refine⟨min k 30,by grind,by omega,.inr ⟨g,by omega,?_,?_⟩⟩
  all_goals grind[b4W,Nat.dvd_trans,a57,c1R]
theorem d2O{l:List Int}{w:Nat}(g:w≤30)(d:l.all a0C=true)(h:a8A l w):b2B (w:Int) l=some (l.map fun x=>z0h .i64 x (w:Int)):=by
 have f:∀x∈l,((2^w:Nat):Int) ∣ x:=by
  rcases h with⟨h,-⟩|⟨-,-,h,-⟩
  all_goals grind[Int.dvd_zero]
 have:l.all (b3I (w:Int))=true:=by
  rw[lA];intro x k;obtain⟨c,a⟩:=f x k;have b:a63 x (z0g .i64 1 (w:Int))=0:=by simp_all[c6f]
  simp_all[b3I]
 simp only[b2B,this,cT]
theorem c3v{k:Nat}(d:k≤25){x:Int}(g:a0C x=true):a5Y ((k:Int),x)=some ((a2N k x:Nat):Int):=by
 have e:=b1u g;have f:z0h .u64 ((a0P x:Nat):Int) (k:Int)=((a0P x / 2^k:Nat):Int):=a7B (by omega);have b:wrap .i64 ((a0P x / 2^k:Nat):Int)=((a0P x / 2^k:Nat):Int):=b2Y (a28 (a26 _ _) e);have a:wrap .u64 (k:Int)=(k:Int):=a1m (by omega);have h:decide ((k:Int)<0)=false:=by simp
 unfold a5Y a2N;simp only[b1v d,a2g,g,oB,bT,cF,b3H g,a,h,f,b];generalize a0P x / 2^k=q
 by_cases hq:q<32
 have c:decide ((q:Int)<32)=true:=decide_eq_true (by omega);simp only[c,cT,if_pos hq]
 grind[a0F]
 grind
def b2D(k:Nat)(l:List Int):Nat:=(l.map (a2N k)).sum
theorem a9T{k:Nat}(a:k≤25){l:List Int}(d:l.all a0C=true)(m:l.length<10000):a3t ((k:Int),l)=some ((b2D k l:Nat):Int):=by
 have:=a0R (f:=a3s) (fun i:Nat=>((k:Int),l,((((l.take i).map (a2N k)).sum:Nat):Int),(i:Int),())) l.length (b:=((((l.map (a2N k)).sum:Nat):Int),()))
  (fun i h=>by
   have c:=c3v a (lA.1 d _ (a04 h));have g:=c3k (c2m a) (l.take (i+1));rw[b8s h]at g;rw[a17]at g;have e:wrap .i64 (((((l.take i).map (a2N k)).sum:Nat):Int)+((a2N k l[i]:Nat):Int))=((((l.take (i+1)).map (a2N k)).sum:Nat):Int):=by
    grind[b8s,a0F]
   simp only[a3s,dlt h,cT,a0A h,oB,c,e,a0B (show i<1000000 by omega)])
  (by simp_all[a3s])
 unfold a3t;have j:(((l.take 0).map (a2N k)).sum:Nat)=0:=rfl;simp_all[b2D]
def rbN(l:List Int):Nat→Nat
 |0=>0
 |i+1=>if b2D (i+1) l<b2D (rbN l i) l then i+1 else rbN l i
theorem c0J(l:List Int):∀i,rbN l i≤i
 |0=>a34 _
 |i+1=>by
  have:=c0J l i
  simp only[rbN]
  split<;>omega
theorem b8x{k:Nat}(h:k≤25){l:List Int}(f:l.all a0C=true)(g:l.length<10000):a3W ((k:Int),l)=some ((b2D k l:Nat):Int):=c1P h f g
theorem c9b{a b:Nat}(h:a<b):decide ((a:Int)<(b:Int))=true:=decide_eq_true (by omega)
theorem c1c{a b:Nat}(h:¬ a<b):decide ((a:Int)<(b:Int))=false:=decide_eq_false (by omega)
theorem c0K{l:List Int}(g:l.all a0C=true)(h:l.length<10000):b3q l=some ((rbN l 25:Nat):Int):=by
 have:=a0R (f:=a9A) (fun i:Nat=>(l,((rbN l i:Nat):Int),((b2D (rbN l i) l:Nat):Int),((i+1:Nat):Int),())) 25 (b:=(((rbN l 25:Nat):Int),()))
  (fun i n=>by
   have a:decide (((i+1:Nat):Int)≤25)=true:=decide_eq_true (by omega);have d:wrap .i64 (((i+1:Nat):Int)+1)=((i+1+1:Nat):Int):=a0B (by omega);have c:=b8x (k:=i+1) (by omega) g h
   by_cases hlt:b2D (i+1) l<b2D (rbN l i) l
   simp_all[a9A,rbN];simp only[a9A,a,cT,cF,c,oB,d,c1c hlt,rbN,hlt,if_false])
  (by
   rfl)
 have m:=b8x (k:=0) (by omega) g h;have j:((0+1:Nat):Int)=1:=rfl;have e:rbN l 0=0:=rfl;simp_all[b3q]
theorem b6H{l:List Int}(a:l.all a0C=true)(g:l.length<10000):b1f l=some ((rbN l 25:Nat):Int):=by
 have:=a0R (f:=a7N) (fun i:Nat=>(l,((rbN l i:Nat):Int),((i+1:Nat):Int),())) 25 (b:=(((rbN l 25:Nat):Int),()))
  (fun i n=>by
   have c:decide (((i+1:Nat):Int)≤25)=true:=decide_eq_true (by omega);have e:wrap .i64 (((i+1:Nat):Int)+1)=((i+1+1:Nat):Int):=a0B (by omega);have d:=a9T (k:=i+1) (by omega) a g;have h:=a9T (k:=rbN l i) (by grind[c0J]) a g
   by_cases hlt:b2D (i+1) l<b2D (rbN l i) l
   simp_all[a7N,rbN];simp only[a7N,c,cT,cF,d,h,oB,e,c1c hlt,rbN,hlt,if_false])
  (by
   rfl)
 have m:((0+1:Nat):Int)=1:=rfl;have j:rbN l 0=0:=rfl;simp_all[b1f]
def a9U(l:List Int):Int:=if 5+a0J l*l.length<b2D (rbN l 25) l then 31 else((rbN l 25:Nat):Int)
theorem c9c(l:List Int):kB (a9U l)=true:=by
 have:=c0J l 25
 unfold a9U;split;rfl;simp only[kB,a55,bA,dT];omega
theorem c3w{l:List Int}(g:l.all a0C=true)(h:l.length<10000):a9B l=some (a9U l):=by
 have a:=c0J l 25;have f:=b8x (k:=rbN l 25) a g h;unfold a9B a9U
 by_cases hlt:5+a0J l*l.length<b2D (rbN l 25) l
 simp only[c0K g h,b5E h,f,oB,c9b hlt,cT,hlt,if_true];simp only[c0K g h,b5E h,f,oB,c1c hlt,cF,hlt,if_false]
theorem b8y{l:List Int}(g:l.length<10000):a2K ((31:Int),l)=some ((5+a0J l*l.length:Nat):Int):=by
 have f:=c0F (a3e l) g;have h:((31:Int)==31)=true:=rfl;unfold a2K;simp only[h,cT,a9q (show short l by unfold short;omega),oB]
 grind[a0F]
theorem c6p{l:List Int}(g:l.all a0C=true)(h:l.length<10000):b4O l=some (a9U l):=by
 have a:=c0J l 25;have f:=a9T (k:=rbN l 25) a g h;unfold b4O a9U
 by_cases hlt:5+a0J l*l.length<b2D (rbN l 25) l
 simp only[b6H g h,b8y h,f,oB,c9b hlt,cT,hlt,if_true];simp only[b6H g h,b8y h,f,oB,c1c hlt,cF,hlt,if_false]
def a1v:List Nat→List Int→List Int
 | [],_=>[]
 |z::zs,l=>a9U (l.take z)::a1v zs (l.drop z)
theorem b7N:∀zs l,(a1v zs l).length=zs.length
 | [],_=>rfl
 |z::zs,l=>by simp[a1v,b7N zs]
theorem c3x:∀zs l,(a1v zs l).all kB=true
 | [],_=>rfl
 |z::zs,l=>by simp[a1v,c3x zs,c9c]
theorem b9e{zn:List Nat}{n warm most least order:Int}{L:List Int}{a b:Prt}(m:zn.length≤256):∀(j i:Nat)(rest ks:List Int),i+j=zn.length→(zn.drop i).sum=rest.length→rest.all a0C=true→rest.length≤5000→ks.length=i→
  x0r a8M (n,warm,most,L,least,order,rest,((zn.length:Nat):Int),(i:Int),a1r zn,a,b,(order,ks,()),())=some (n,warm,most,L,least,order,a,b,(order,ks++a1v (zn.drop i) rest,()),())
 |0,i,rest,ks,h,_,_,_,_=>by
  obtain rfl:i=zn.length:=by omega
  simp_all[a0D,a8M,a1v]
 |j+1,i,rest,ks,h,hr,hwr,hr5,hki=>by
  have g:i<zn.length:=by omega
  rw[a9r g]at hr;have k:decide ((0:Int)≤(i:Int))=true:=by simp
  have c:decide ((i:Int)<(((a1r zn).length:Nat):Int))=true:=by simp_all[a0Z]
  have d:decide ((0:Int)≤((zn[i]:Nat):Int))=true:=by simp
  have e:decide (((zn[i]:Nat):Int)≤((rest.length:Nat):Int))=true:=by grind
  have l:=c3w (b1w hwr zn[i]) (by grind);have f:lim (ks.length+1)=true:=a0I (by omega);rw[a00 g,a0E (s':=(n,warm,most,L,least,order,rest.drop zn[i],((zn.length:Nat):Int),((i+1:Nat):Int),a1r zn,a,b,(order,ks++[a9U (rest.take zn[i])],()),())) (by
   simp only[a8M,dlt g,k,c,a3F g,d,e,cT,a02,tN,l,oB,f,a20,a0B (show i<1000000 by omega),a05])]
  rw[b9e m j (i+1) _ _ (by omega) (by grind) (c2n hwr _) (by grind) (by simp_all)];simp_all[a1v]
theorem b4F{zn:List Nat}{n warm most least order:Int}{l:List Int}{a b:Prt}(u:zn.length≤256)(c:l.all a0C=true)(r:l.length≤5000):∀(j i off:Nat)(ks:List Int),i+j=zn.length→off+(zn.drop i).sum=l.length→ks.length=i→
  x0r a4S (n,warm,most,l,least,order,(off:Int),(i:Int),a1r zn,a,b,(order,ks,()),())=some (n,warm,most,l,least,order,a,b,(order,ks++a1v (zn.drop i) (l.drop off),()),())
 |0,i,off,ks,h,_,_=>by
  obtain rfl:i=zn.length:=by omega
  simp_all[a0D,a4S,a0Z,a1v]
 |j+1,i,off,ks,h,hr,hki=>by
  have f:i<zn.length:=by omega
  rw[a9r f]at hr;have e:decide ((0:Int)≤(i:Int))=true:=by simp
  have m:decide ((i:Int)<(((a1r zn).length:Nat):Int))=true:=by simp_all[a0Z]
  have d:wrap .i64 ((off:Int)+((zn[i]:Nat):Int))=((off+zn[i]:Nat):Int):=by grind[a0F]
  have o:decide ((0:Int)≤((off+zn[i]:Nat):Int))=true:=by rfl
  have p:decide (((off+zn[i]:Nat):Int)≤((l.length:Nat):Int))=true:=by grind
  have q:decide ((0:Int)≤(off:Int))=true:=by simp
  have s:decide ((off:Int)≤((off+zn[i]:Nat):Int))=true:=by grind
  have g:a68 off (a59 (off+zn[i]) l)=(l.drop off).take zn[i]:=by grind
  have t:=c6p (b1w (c2n c off) zn[i]) (by grind);have k:lim (ks.length+1)=true:=a0I (by omega);rw[a00 f,a0E (s':=(n,warm,most,l,least,order,((off+zn[i]:Nat):Int),((i+1:Nat):Int),a1r zn,a,b,(order,ks++[a9U ((l.drop off).take zn[i])],()),())) (by
   simp only[a4S,e,m,a3F f,d,o,p,q,s,cT,a02,tN,g,t,oB,k,a0B (show i<1000000 by omega),a05])]
  rw[b4F u c r j (i+1) _ _ (by omega) (by omega) (by simp_all)];simp_all[a1v]
theorem c3y{k:Int}(g:kB k=true){l:List Int}(a:l.all a0C=true)(h:l.length<10000):∃d:Nat,a2K (k,l)=some (d:Int)∧b1l k l=5+d:=by
 by_cases h31:k=31
 subst h31;exact⟨_,b8y h,by rfl⟩;have f:(k==31)=false:=by simp_all
 simp[kB]at g;obtain⟨K,rfl⟩:=a03 (show 0≤k by omega);have b:=a9T (k:=K) (by omega) a h;exact⟨b2D K l,by unfold a2K;grind,by unfold b1l;rw[if_neg h31];rfl⟩
theorem b2E{zn:List Nat}{p:Prt}{l:List Int}(z:p.2.1.length=zn.length)(h:p.2.1.all kB=true)(B:zn.length≤256)(m:l.all a0C=true)(b:l.length≤5000):∀(j i off:Nat)(c:Nat),i+j=zn.length→off+(zn.drop i).sum=l.length→c+10*j+65*(l.length-off)<1000000→
  x0r a2y (l,(c:Int),(off:Int),(i:Int),a1r zn,p,())=some (((c+a2q (zn.drop i) (p.2.1.drop i) (l.drop off):Nat):Int),())
 |0,i,off,c,hi,_,_=>by
  obtain rfl:i=zn.length:=by omega
  simp_all[a0D,a2y,a0Z,a2q]
 |j+1,i,off,c,hi,hsum,hb=>by
  have k:i<zn.length:=by omega
  have f:i<p.2.1.length:=by omega
  have a:=lA.1 h _ (a04 f);rw[a9r k]at hsum;have r:decide ((0:Int)≤(i:Int))=true:=by simp
  have s:decide ((i:Int)<(((a1r zn).length:Nat):Int))=true:=by simp_all[a0Z]
  have q:wrap .i64 ((off:Int)+((zn[i]:Nat):Int))=((off+zn[i]:Nat):Int):=by grind[a0F]
  have t:decide ((0:Int)≤((off+zn[i]:Nat):Int))=true:=by rfl
  have u:decide (((off+zn[i]:Nat):Int)≤((l.length:Nat):Int))=true:=by grind
  have v:decide ((0:Int)≤(off:Int))=true:=by simp
  have w:decide ((off:Int)≤((off+zn[i]:Nat):Int))=true:=by grind
  have g:a68 off (a59 (off+zn[i]) l)=(l.drop off).take zn[i]:=by grind
  have e:((l.drop off).take zn[i]).length=zn[i]:=by rw[a17,a32];omega
  obtain⟨d,x,y⟩:=c3y a (b1w (c2n m off) zn[i]) (by omega);have A:=c6h a ((l.drop off).take zn[i]);have n:wrap .i64 ((c:Int)+5)=((c+5:Nat):Int):=by rw[a0F (by omega)];rfl
  have o:wrap .i64 (((c+5:Nat):Int)+(d:Int))=((c+5+d:Nat):Int):=by rw[a0F (by omega)];rfl
  rw[a0E (s':=(l,((c+5+d:Nat):Int),((off+zn[i]:Nat):Int),((i+1:Nat):Int),a1r zn,p,())) (by
   simp only[a2y,r,s,a3F k,q,t,u,v,w,cT,a02,tN,a0A f,oB,g,x,n,o,a0B (show i<1000000 by omega)]),
   b2E z h B m b j (i+1) (off+zn[i]) _ (by omega) (by omega) (by omega),
   a00 k,a00 f]
  simp only[a2q,List.drop_drop];congr 3;omega
theorem c2r{p:Prt}{n warm:Int}{l:List Int}{zn:List Nat}(h:PartsOk p n warm l zn):a2t (p,n,warm,l)=some ((4+a2q zn p.2.1 l:Nat):Int):=by
 have k:Go.Ab.short p.2.1:=by have:=h.ks;have:=h.len;unfold Go.Ab.short;omega
 have b:Go.Ab.short l:=by have:=h.short;unfold Go.Ab.short;omega
 have c:=h.short;have d:=h.len;have a:=h.row;simp[a3h]at a;have e:wrap .i64 (n-warm)=n-warm:=a0F (by omega);have f:(((l.length:Nat):Int) != n-warm)=false:=by rw[h.rest];simp
 have g:=b2E h.ks h.all h.len h.wide h.short zn.length 0 0 4 (by omega) (by rw[a06,h.sum];omega) (by omega);simp only[nZ,a39,a06]at g;unfold a2t;simp only[a6G k,h.may,oB,bT,cF,e,f,a0M b,h.wide,a2h,h.sizes,g]
theorem c0L{o n warm:Int}{l:List Int}(h:(a1u o n warm).length=0):a2t ((o,([]:List Int),()),n,warm,l)=some 0:=by
 have g:a3d (o,([]:List Int),()) n warm=false:=by simp[a3d,h]
 unfold a2t;simp only[a6G (p:=(o,([]:List Int),())) (by simp[short]),g,oB,a21,cT]
def zsN(o n warm:Int):List Nat:=(a1u o n warm).map a35
def b1n(o n warm:Int)(l:List Int):Prt:=(o,a1v (zsN o n warm) l,())
def b8z(o n warm:Int)(l:List Int):Nat:=4+a2q (zsN o n warm) (a1v (zsN o n warm) l) l
def a0W(n warm:Int)(l:List Int):Nat→Prt×Nat
 |0=>((0,[],()),0)
 |i+1=>if(a1u (i:Int) n warm).length=0 then a0W n warm l i else
   if(a0W n warm l i).2=0∨b8z (i:Int) n warm l<(a0W n warm l i).2 then(b1n (i:Int) n warm l,b8z (i:Int) n warm l)else a0W n warm l i
def b6I(n warm:Int)(l:List Int):Prt:=(a0W n warm l 7).1
theorem c4m{o:Nat}{n warm:Int}{l:List Int}(b:(a1u (o:Int) n warm).length≠0)(a:(l.length:Int)=n-warm)(c:l.all a0C=true)(k:l.length≤5000):
  ∃h,a1u (o:Int) n warm=a1r h∧zsN (o:Int) n warm=h∧h.length≤256∧h.sum=l.length∧a3d (b1n (o:Int) n warm l) n warm=true∧PartsOk (b1n (o:Int) n warm l) n warm l h:=by
 obtain⟨h,e,i,j⟩:=b7k b;have d:zsN (o:Int) n warm=h:=by simp_all[zsN,b7l]
 have hp:a3d (b1n (o:Int) n warm l) n warm=true:=by
  simp only[a3d,b1n,bA,a48,beq_eq_false_iff_ne,ne_eq,beq_iff_eq];simp_all[a0Z,b7N,c3x]
 obtain⟨f,g⟩:=PartsOk.of hp a c k
 have:f=h:=by
  have m:=g.sizes
  grind[b1n,b7l]
 grind
theorem b8A{n warm:Int}{l:List Int}(b:a3h n warm=true)(f:(l.length:Int)=n-warm)(a:l.all a0C=true)(g:l.length≤5000):∀i,1≤i→(a0W n warm l i).2≠0∧a3d (a0W n warm l i).1 n warm=true
 |0,h=>absurd h (by omega)
 |i+1,_=>by
  by_cases hs:(a1u (i:Int) n warm).length=0
  ·simp only[a0W,hs,if_true];cases i with
   |zero=>grind[c8V]
   |succ i=>exact b8A b f a g (i+1) (by omega)
  ·obtain⟨c,-,-,-,-,hp,-⟩:=c4m hs f a g;simp only[a0W,hs,if_false];split;simp_all[b8z]
   ·rename_i k;cases i with
    |zero=>exact absurd (Or.inl rfl) k
    |succ i=>exact b8A b f a g (i+1) (by omega)
theorem d1f{n warm:Int}{l:List Int}(f:a3h n warm=true)(g:(l.length:Int)=n-warm)(k:l.all a0C=true)(h:l.length≤5000):a3d (b6I n warm l) n warm=true:=
 (b8A f g k h 7 (by omega)).2
theorem c5q{n warm:Int}{l:List Int}(A:a3h n warm=true)(x:(l.length:Int)=n-warm)(t:l.all a0C=true)(s:l.length≤5000):
  b1P (n,warm,(6:Int),l)=some (b6I n warm l,0):=by
 have:=a0R (f:=a4s) (fun i:Nat=>(n,warm,(6:Int),l,(((a0W n warm l i).2:Nat):Int),(i:Int),((0:Int),([]:List Int),()),(a0W n warm l i).1,())) 7 (b:=(((0:Int),([]:List Int),()),b6I n warm l,()))
  (fun i z=>by
   have j:decide ((i:Int)≤v0a (u0z 6 0) 8)=true:=decide_eq_true (by have:v0a (u0z 6 0) 8=6:=rfl;omega);have r:wrap .i64 ((i:Int)+1)=((i+1:Nat):Int):=a0B (by omega)
   by_cases hs:(a1u (i:Int) n warm).length=0
   simp_all[a0W,a4s,a3c];have hb:((((a1u (i:Int) n warm).length:Nat):Int)==0)=false:=by simp_all
   obtain⟨h,p,o,w,y,-,q⟩:=c4m hs x t s;have d:=b9e (n:=n) (warm:=warm) (most:=6) (least:=(((a0W n warm l i).2:Nat):Int)) (order:=(i:Int)) (L:=l) (a:=((0:Int),([]:List Int),())) (b:=(a0W n warm l i).1) w h.length 0 l [] (by omega) (by simp_all) t s rfl;simp at d;have e:=c5l q;simp only[b1n,o]at e;have k:(((h.length:Nat):Int)==0)=false:=by simp_all[a0Z]
   have m:(((a1r h).length:Nat):Int)=((h.length:Nat):Int):=by rw[a0Z]
   have v:b1n (i:Int) n warm l=((i:Int),a1v h l,()):=by simp only[b1n,o]
   have u:b8z (i:Int) n warm l=4+a2q h (a1v h l) l:=by simp only[b8z,o]
   by_cases hz:(a0W n warm l i).2=0
   have g:((((a0W n warm l i).2:Nat):Int)==0)=true:=by simp_all
   have c:a0W n warm l (i+1)=(((i:Int),a1v h l,()),4+a2q h (a1v h l) l):=by simp_all[a0W]
   simp only[a4s,j,cT,a3c,oB,p,m,k,cF,d,e,r,c,g];have g:((((a0W n warm l i).2:Nat):Int)==0)=false:=by simp_all
   by_cases hlt:4+a2q h (a1v h l) l<(a0W n warm l i).2
   have c:a0W n warm l (i+1)=(((i:Int),a1v h l,()),4+a2q h (a1v h l) l):=by simp_all[a0W]
   simp only[a4s,j,cT,a3c,oB,p,m,k,cF,d,e,r,c,g,c9b hlt];have c:a0W n warm l (i+1)=a0W n warm l i:=by simp only[a0W,hs,if_false,hz,false_or,v,u,hlt]
   simp only[a4s,j,cT,a3c,oB,p,m,k,cF,d,e,r,c,g,c1c hlt])
  (by
   rfl)
 simp_all[a0W,b1P,b2Z]
theorem c2s{n warm:Int}{l:List Int}(t:a3h n warm=true)(z:(l.length:Int)=n-warm)(p:l.all a0C=true)(s:l.length≤5000):
  a9N (n,warm,(6:Int),l)=some (b6I n warm l,0):=by
 have:=a0R (f:=a3B) (fun i:Nat=>(n,warm,(6:Int),l,(((a0W n warm l i).2:Nat):Int),(i:Int),((0:Int),([]:List Int),()),(a0W n warm l i).1,())) 7 (b:=(((0:Int),([]:List Int),()),b6I n warm l,()))
  (fun i D=>by
   have q:decide ((i:Int)≤v0a (u0z 6 0) 8)=true:=decide_eq_true (by have:v0a (u0z 6 0) 8=6:=rfl;omega);have u:wrap .i64 ((i:Int)+1)=((i+1:Nat):Int):=a0B (by omega)
   by_cases hs:(a1u (i:Int) n warm).length=0
   have A:a1u (i:Int) n warm=[]:=a52.1 hs;have c:x0r a4S (n,warm,(6:Int),l,(((a0W n warm l i).2:Nat):Int),(i:Int),(0:Int),(0:Int),([]:List Int),((0:Int),([]:List Int),()),(a0W n warm l i).1,((i:Int),([]:List Int),()),())=some (n,warm,(6:Int),l,(((a0W n warm l i).2:Nat):Int),(i:Int),((0:Int),([]:List Int),()),(a0W n warm l i).1,((i:Int),([]:List Int),()),()):=a0D (by rfl);have d:=c0L (l:=l) hs;have C:decide ((0:Int) > 0)=false:=rfl;simp_all[a0W,a3B,a2h];obtain⟨h,r,j,x,B,-,m⟩:=c4m hs z p s;have c:=b4F (n:=n) (warm:=warm) (most:=6) (least:=(((a0W n warm l i).2:Nat):Int)) (order:=(i:Int)) (a:=((0:Int),([]:List Int),())) (b:=(a0W n warm l i).1) x p s h.length 0 0 [] (by omega) (by simp_all) rfl;simp at c;have d:=c2r m;simp only[b1n,j]at d;have hp:decide (((4+a2q h (a1v h l) l:Nat):Int) > 0)=true:=decide_eq_true (by omega);have w:b1n (i:Int) n warm l=((i:Int),a1v h l,()):=by simp only[b1n,j]
   have v:b8z (i:Int) n warm l=4+a2q h (a1v h l) l:=by simp only[b8z,j]
   by_cases hz:(a0W n warm l i).2=0
   have g:((((a0W n warm l i).2:Nat):Int)==0)=true:=by simp_all
   have k:a0W n warm l (i+1)=(((i:Int),a1v h l,()),4+a2q h (a1v h l) l):=by simp_all[a0W]
   simp_all[a3B,a2h];have g:((((a0W n warm l i).2:Nat):Int)==0)=false:=by simp_all
   by_cases hlt:4+a2q h (a1v h l) l<(a0W n warm l i).2
   have k:a0W n warm l (i+1)=(((i:Int),a1v h l,()),4+a2q h (a1v h l) l):=by simp_all[a0W]
   simp only[a3B,q,cT,a2h,oB,r,cF,c,d,hp,u,k,g,c9b hlt];have k:a0W n warm l (i+1)=a0W n warm l i:=by simp only[a0W,hs,if_false,hz,false_or,w,v,hlt]
   simp only[a3B,q,cT,a2h,oB,r,cF,c,d,hp,u,k,g,c1c hlt])
  (by
   rfl)
 have o:=t;simp[a3h]at o;have e:wrap .i64 (n-warm)=n-warm:=a0F (by omega);have y:(((l.length:Nat):Int) != n-warm)=false:=by simp_all
 simp[a0W]at this;unfold a9N;simp only[c3c,t,oB,bT,cF,e,y,a0M (show short l by unfold short;omega),p,this]
end Go.Ab
