/- Part of the proof: S. Conditions: as each statement tells. -/
import Derived.KernelRfl
import Derived.Test.YtbadoabamddpfaaGreatDoorME
noncomputable section
set_option linter.unusedSimpArgs false
set_option linter.unusedVariables false
namespace Go.Ab
variable {n:Nat}{s:FSem}
open Go.Proofs
set_option maxRecDepth 100000
theorem b2C:Tryz.prog.follows .mixedOrders=true:=by kernel_rfl
theorem e1k:B0d Tryz.prog c3I=true:=by kernel_rfl
theorem e1l:B0b Tryz.prog c3T=true:=by kernel_rfl
theorem e1m:A0y Tryz.prog c3I c7K=true:=by kernel_rfl
theorem laidOut:laidOutB Tryz.prog=true:=by kernel_rfl
@[reducible] def Ok0(n:Nat)(s:FSem):Prop:=i0y Tryz.prog G0 n s∧l0x Tryz.prog n
theorem cxo{a:List (Nat×FSem)}{b:List (Nat×Ty)}{c d:Nat}(h:∀p∈a,FOk Tryz.prog G0 p.1 p.2):CxOk Tryz.prog (b4G a b c d):=
 CxOk.of (CxTy.of (tab:=c3I) (l:=c7K) (q:=c3T) (fun _=>rfl) (fun _=>rfl) (fun _=>rfl) e1k e1l e1m) (fun _=>rfl) h
theorem b1{l:List (Nat×FSem)}(h:Ok0 n s)(g:∀p∈l,FOk Tryz.prog G0 p.1 p.2):∀p∈(n,s)::l,FOk Tryz.prog G0 p.1 p.2:=a1 (a:=(n,s)) h g
theorem b2{l:List (Nat×FSem)}(h:A0f Tryz.prog G0 n s)(g:∀p∈l,FOk Tryz.prog G0 p.1 p.2):∀p∈(n,s)::l,FOk Tryz.prog G0 p.1 p.2:=B0g (a:=(n,s)) h g
theorem fo{a:List (Nat × FSem)}(b : List (Nat × Ty))(c d : Nat)(H : Hints){fn:Func}{e:Code}(h : ∀ p ∈ a, FOk Tryz.prog G0 p.1 p.2)(hf : Tryz.prog.funcs[n]? = some fn)(hb : fn.body = some e :=by rfl)(hk : A0m fn e H s = true :=by kernel_rfl)(hn : (fn.name == "runtime.NumGoroutine") = false :=by kernel_rfl)(hq : ∀ x, A0j (b4G a b c d) H fn s.ps s.rs x = s.F x :=by intro x; kernel_rfl): Ok0 n s :=
 ⟨i0y.of (cxo h) b2C hf hb hk hq,⟨_,_,hf,hb,hn⟩⟩
theorem c8g:Ok0 22 c5B:=
 fo [] 5 2 QH a0 Tryz.func22
theorem d5b:Ok0 175 c3U:=
 fo [] 5 0 d8h a0 Tryz.func175
theorem d5c:Ok0 176 c2E:=
 fo [] 5 0 d8i a0 Tryz.func176
theorem c1v:Ok0 95 c2F:=
 fo [] 19 0 QH (b1 d5b<|b1 d5c<|a0) Tryz.func95
theorem d2h:Ok0 111 c2G:=
 fo [] 5 0 QH a0 Tryz.func111
theorem c1w:Ok0 56 c5C:=
 fo [] 85 2 H56 (b1 c8g<|b1 c1v<|b1 d2h<|a0) Tryz.func56
theorem c1x:Ok0 57 c2H:=
 fo [] 5 2 QH (b1 d2h<|a0) Tryz.func57
theorem c8h:Ok0 114 b8k:=
 fo [] 19 0 d8j a0 Tryz.func114
theorem d2i:Ok0 105 c2I:=
 fo [] 5 2 QH (b1 c1x<|b1 c8h<|a0) Tryz.func105
theorem c8i:Ok0 117 c2J:=
 fo [] 21 0 d8k a0 Tryz.func117
theorem c8j:Ok0 128 c3V:=
 fo [] 5 0 QH a0 Tryz.func128
theorem c8k:Ok0 211 c3W:=
 fo [] 83 0 d8l a0 Tryz.func211
theorem c8l:Ok0 212 c7L:=
 fo [] 83 8 d8m a0 Tryz.func212
theorem d2j:Ok0 271 c2K:=
 fo [] 5 2 QH a0 Tryz.func271
theorem c8m:Ok0 213 b6J:=
 fo [] 5 0 d8n (b1 d2j<|a0) Tryz.func213
theorem c8n:Ok0 150 c9o:=
 fo [] 4611688217584863559 16 d8o (b1 c8k<|b1 c8l<|b1 c8m<|a0) Tryz.func150
theorem c8o:Ok0 151 c3X:=
 fo [] 70291 4 d8p a0 Tryz.func151
theorem b8X:Ok0 183 a1B:=
 ⟨i0y.of (cx:=d2e) (cxo a0) b2C Tryz.func183 rfl (by kernel_rfl) d4X,⟨_,_,Tryz.func183,rfl,by kernel_rfl⟩⟩
theorem c9H:Ok0 183 a2c:=
 ⟨i0y.of (cx:=c9p) (cxo a0) b2C Tryz.func183 rfl (by kernel_rfl) d4d,⟨_,_,Tryz.func183,rfl,by kernel_rfl⟩⟩
theorem d4i:Ok0 251 a1i:=
 ⟨i0y.of (cx:=c9q) (cxo a0) b2C Tryz.func251 rfl (by kernel_rfl) d4e,⟨_,_,Tryz.func251,rfl,by kernel_rfl⟩⟩
theorem d2k:Ok0 196 c3Y:=
 fo [] 43523 8 d8q (b1 c9H<|b1 d4i<|a0) Tryz.func196
theorem d5d:Ok0 235 c5D:=
 fo [] 5 2 QH (b1 d2k<|a0) Tryz.func235
theorem c8p:Ok0 214 c5E:=
 fo [] 19 0 QH a0 Tryz.func214
theorem b8Y:Ok0 201 c2L:=
 fo [] 455 0 d8r (b1 c8p<|a0) Tryz.func201
theorem d2l:Ok0 236 c5F:=
 fo [] 711 8 d8s (b1 b8Y<|a0) Tryz.func236
theorem d5e:Ok0 184 c3Z:=
 fo [] 51 4 d8t (b1 c8i<|b1 c8j<|b1 c8n<|b1 c8o<|b1 d5d<|b1 d2l<|a0) Tryz.func184
theorem d2m:Ok0 288 c4a:=
 fo [] 21 0 d8u a0 Tryz.func288
theorem d5f:Ok0 325 b8l:=
 fo [] 11 0 QH a0 Tryz.func325
theorem d5g:Ok0 289 c2M:=
 fo [] 4296020275 0 QH (b1 d5f<|a0) Tryz.func289
theorem d5h:Ok0 237 c4b:=
 fo [] 3527 0 d8v (b1 d2m<|b1 d5g<|a0) Tryz.func237
theorem c8q:Ok0 292 c2N:=
 fo [] 5 0 QH a0 Tryz.func292
theorem c8r:Ok0 290 b7A:=
 fo [] 21 0 d8w (b1 c8q<|a0) Tryz.func290
theorem d2n:Ok0 291 b7B:=
 fo [] 1991 0 d8x a0 Tryz.func291
theorem d5i:Ok0 238 c2O:=
 fo [] 14095 0 d8y (b1 c8k<|b1 c8r<|b1 d2n<|b1 c8q<|a0) Tryz.func238
theorem c8s:Ok0 295 c5G:=
 fo [] 5 0 QH a0 Tryz.func295
theorem c8t:Ok0 293 c0G:=
 fo [] 21 0 d8z (b1 c8s<|a0) Tryz.func293
theorem d2o:Ok0 294 c0H:=
 fo [] 7951 128 d8A a0 Tryz.func294
theorem d5j:Ok0 239 c5H:=
 fo [] 4039 32 d8B (b1 c8l<|b1 c8t<|b1 d2o<|b1 c8s<|a0) Tryz.func239
theorem c8u:Ok0 300 b4H:=
 fo [] 5 0 QH a0 Tryz.func300
theorem d2p:Ok0 296 b2u:=
 fo [] 21 0 d8C (b1 c8u<|a0) Tryz.func296
theorem d2q:Ok0 298 b6K:=
 fo [(15,.pair QI Q15),(16,.pair QI Q15)] 13 2 d8D (b1 d2j<|a0) Tryz.func298
theorem d2r:Ok0 327 b8m:=
 fo [] 5 0 QH a0 Tryz.func327
theorem c8v:Ok0 299 a8W:=
 fo [] 61 0 d8E (b1 d2r<|a0) Tryz.func299
theorem d2s:Ok0 301 a9C:=
 fo [] 4202995 0 d8F (b1 c8v<|b1 d2r<|a0) Tryz.func301
theorem d5k:Ok0 240 a8Y:=
 ⟨i0y.ofR (cx:=d2f) (cxo (a1 b8X (a1 c8m (a1 d2p (a1 d2q (a1 c8v (a1 c8u (a1 d2s a0)))))))) b2C (r:=d4f) ⟨d3n,d3o⟩ Tryz.func240 rfl (by kernel_rfl) d4Y,⟨_,_,Tryz.func240,rfl,by kernel_rfl⟩⟩
theorem d2t:Ok0 190 c2P:=
 fo [] 5 0 QH a0 Tryz.func190
theorem d5l:Ok0 241 c5I:=
 fo [] 371 0 d8H (b1 d2t<|a0) Tryz.func241
theorem d5m:Ok0 185 c7M:=
 fo [] 604462927822812893676787 4 d8I (b1 d5h<|b1 d5i<|b1 d5j<|b1 d5k<|b1 d5l<|a0) Tryz.func185
theorem d2u:Ok0 106 c9r:=
 fo [] 243 4 QH (b1 d5e<|b1 d5m<|a0) Tryz.func106
theorem d2v:Ok0 189 c5J:=
 fo [] 5 0 QH a0 Tryz.func189
theorem c8w:Ok0 113 b6L:=
 fo [] 85 0 d8J (b1 d2v<|a0) Tryz.func113
theorem d2w:Ok0 115 b4i:=
 fo [(15,.list true (.list true QI))] 45 0 d8K (b1 b8X<|a0) Tryz.func115
theorem d2x:Ok0 116 b4I:=
 fo [] 967 16 d8L (b1 d2v<|a0) Tryz.func116
theorem d5n:Ok0 107 b0C:=
 ⟨i0y.ofR (cx:=d2g) (cxo (a1 c8w (a1 c8h (a1 d2w (a1 d2x a0))))) b2C (r:=d4g) ⟨d3p,d3q⟩ Tryz.func107 rfl (by kernel_rfl) d4Z,⟨_,_,Tryz.func107,rfl,by kernel_rfl⟩⟩
theorem d1l:Ok0 50 c2Q:=
 fo [] 1945 2 H50 (b1 c1w<|b1 d2i<|b1 d2u<|b1 d5n<|a0) Tryz.func50
theorem d4j:Ok0 61 c5K:=
 fo [] 21 2 QH (b1 d1l<|a0) Tryz.func61
theorem d2y:Ok0 123 c9s:=
 fo [] 115 4 QH (b1 d2u<|a0) Tryz.func123
theorem b3O:Ok0 124 c0I:=
 fo [] 45 0 d8N (b1 c1v<|a0) Tryz.func124
theorem c8x:Ok0 130 b6j:=
 fo [] 3 0 d8O a0 Tryz.func130
theorem b8Z:Ok0 125 b6k:=
 fo [] 199 0 d8P (b1 c8x<|a0) Tryz.func125
theorem d2z:Ok0 126 b8n:=
 fo [] 7 0 QH (b1 b8Z<|a0) Tryz.func126
theorem d5o:Ok0 127 c0J:=
 fo [] 83 8 d8Q (b1 b3O<|b1 b8Z<|b1 d2z<|a0) Tryz.func127
theorem d2A:Ok0 254 c2R:=
 fo [] 327 0 d8R (b1 c8p<|a0) Tryz.func254
theorem d2B:Ok0 256 c5L:=
 fo [] 5 0 QH (b1 b3O<|a0) Tryz.func256
theorem c8y:Ok0 258 b7C:=
 fo [] 5 0 QH a0 Tryz.func258
theorem c8z:Ok0 259 c5M:=
 fo [] 5 0 QH a0 Tryz.func259
theorem d2C:Ok0 260 c5N:=
 fo [] 141 0 QH (b1 c8z<|a0) Tryz.func260
theorem d5p:Ok0 307 c5O:=
 fo [] 51 0 d8S (b1 c8y<|b1 c8z<|b1 d2C<|a0) Tryz.func307
theorem c8A:Ok0 257 c7N:=
 fo [] 179 0 d8T (b1 d5p<|a0) Tryz.func257
theorem d2D:Ok0 200 c4c:=
 fo [] 7951 16 d8U (b1 b8Y<|b1 d2l<|b1 d2A<|b1 d2B<|b1 c8A<|a0) Tryz.func200
theorem d5q:Ok0 261 b4u:=
 fo [] 19 0 d8V (b1 c8x<|a0) Tryz.func261
theorem d5r:Ok0 202 c7O:=
 fo [] 7495 0 d8W (b1 b8Z<|b1 c8y<|b1 c8z<|b1 d2C<|b1 d5q<|a0) Tryz.func202
theorem d5s:Ok0 129 c5P:=
 fo [] 97311 64 d8X (b1 b3O<|b1 b8Z<|b1 d2D<|b1 b8Y<|b1 d5r<|a0) Tryz.func129
theorem d4k:Ok0 62 c9t:=
 fo [] 11682311054023 16 H62 (b1 d2y<|b1 b3O<|b1 b8Z<|b1 d2z<|b1 d5o<|b1 c8j<|b1 d5s<|a0) Tryz.func62
theorem e1n:Ok0 63 b4v:=
 fo [] 1 0 H63 (b1 c8x<|a0) Tryz.func63
theorem e1o:Ok0 64 b4w:=
 fo [] 5 0 QH a0 Tryz.func64
theorem d4l:Ok0 88 c5Q:=
 fo [] 45 0 H88 a0 Tryz.func88
theorem d5t:Ok0 131 c5R:=
 fo [] 5 0 QH a0 Tryz.func131
theorem d2E:Ok0 132 c4d:=
 fo [] 109 0 d8Y a0 Tryz.func132
theorem e1p:Ok0 65 b8o:=
 fo [] 307 4 H65 (b1 d4l<|b1 d5t<|b1 d2E<|a0) Tryz.func65
theorem d2F:Ok0 203 c2S:=
 fo [] 5 0 QH a0 Tryz.func203
theorem d5u:Ok0 133 c2T:=
 fo [] 51 0 d8Z (b1 d2F<|a0) Tryz.func133
theorem d5v:Ok0 134 a9B:=⟨d0U _,⟨_,_,Tryz.func134,rfl,by kernel_rfl⟩⟩
theorem d4m:Ok0 66 c5S:=
 fo [] 51 0 QH (b1 d5u<|b1 d5v<|a0) Tryz.func66
theorem d4n:Ok0 67 c0K:=
 fo [] 109 0 H67 a0 Tryz.func67
theorem d4o:Ok0 19 c5T:=
 fo [(4,.pair (.list true QV) Q0)] 909 2 H19 (b1 d4j<|b1 d4k<|b1 e1n<|b1 e1o<|b1 e1p<|b1 d4m<|b1 d4n<|a0) Tryz.func19
theorem d5w:Ok0 179 b6l:=
 fo [] 16371 0 QH a0 Tryz.func179
theorem d5x:A0f Tryz.prog G0 180 b6m:=d0V _
theorem d5y:Ok0 324 b6n:=
 fo [] 5 0 d9a a0 Tryz.func324
theorem d5z:Ok0 287 b1b:=
 fo [] 5 0 QH (b1 d5y<|a0) Tryz.func287
theorem d5A:Ok0 233 b6o:=
 fo [] 524231 0 d9b (b1 d5z<|a0) Tryz.func233
theorem d5B:Ok0 181 b6p:=
 fo [] 455 0 QH (b1 d5A<|a0) Tryz.func181
theorem c8B:Ok0 101 c5U:=
 fo [] 967 0 QH (b1 d5w<|b2 d5x<|b1 d5B<|a0) Tryz.func101
theorem d4p:Ok0 42 c4e:=
 fo [] 45 0 H42 (b1 c8B<|a0) Tryz.func42
theorem d1m:Ok0 86 c2U:=
 fo [] 93 2 H86 (b1 c8g<|b1 c1w<|a0) Tryz.func86
theorem d5C:Ok0 231 c2V:=
 fo [] 1779 0 d9c (b1 c1v<|a0) Tryz.func231
theorem d5D:Ok0 177 c4f:=
 fo [] 13 2 d9d (b1 c1w<|b1 d1m<|b1 d5C<|a0) Tryz.func177
theorem d5E:Ok0 232 c4g:=
 fo [] 29 0 d9e (b1 c8B<|a0) Tryz.func232
theorem d5F:Ok0 178 c5V:=
 fo [] 199 0 d9f (b1 c8B<|b1 d5E<|a0) Tryz.func178
theorem d1n:Ok0 97 c0L:=
 fo [] 243 8 QH (b1 d4p<|b1 d5D<|b1 d5F<|a0) Tryz.func97
theorem d1o:Ok0 85 c5W:=
 fo [] 6653 2 H85 (b1 d4o<|b1 d1l<|b1 c1x<|b1 d1n<|a0) Tryz.func85
theorem d4q:Ok0 27 b8p:=
 fo [] 253 2 H27 (b1 d1o<|b1 d1m<|a0) Tryz.func27
theorem d4r:Ok0 31 c4h:=
 fo [] 115 4 H31 a0 Tryz.func31
theorem c8C:Ok0 35 c2W:=
 fo [] 51 0 H35 a0 Tryz.func35
theorem d4s:Ok0 59 c9u:=
 fo [] 115 0 H59 (b1 c8w<|b1 c8h<|b1 d2w<|b1 d2x<|a0) Tryz.func59
theorem d5G:Ok0 187 c2X:=
 fo [] 237 0 d9g (b1 c8w<|a0) Tryz.func187
theorem d5H:Ok0 188 c4j:=
 fo [] 135445 0 QH a0 Tryz.func188
theorem d5I:Ok0 112 c5X:=
 fo [] 509 0 d9h (b1 d4s<|b1 d5G<|b1 d5H<|a0) Tryz.func112
theorem e1q:Ok0 58 c5Y:=
 fo [] 29 2 H58 (b1 c1w<|b1 d5I<|a0) Tryz.func58
theorem d2G:Ok0 118 c2Y:=
 fo [] 371 0 d9i (b1 d2t<|a0) Tryz.func118
theorem d5J:Ok0 191 a1j:=
 ⟨i0y.of (cx:=a9f) (cxo a0) b2C Tryz.func191 rfl (by kernel_rfl) d5a,⟨_,_,Tryz.func191,rfl,by kernel_rfl⟩⟩
theorem d2H:Ok0 119 b8q:=
 fo [] 45 0 d9j (b1 d5J<|a0) Tryz.func119
theorem d2I:Ok0 243 c4m:=
 fo [] 243 0 d9k (b1 d2m<|a0) Tryz.func243
theorem d5K:Ok0 244 c2Z:=
 fo [] 243 0 d9l a0 Tryz.func244
theorem d5L:Ok0 192 c4n:=
 fo [] 509 0 d9m (b1 d2I<|b1 d5K<|a0) Tryz.func192
theorem d2J:Ok0 304 c0Q:=
 fo [] 5 0 QH a0 Tryz.func304
theorem d5M:Ok0 302 b8u:=
 fo [] 493 0 d9n (b1 d2J<|a0) Tryz.func302
theorem d5N:Ok0 303 b4x:=
 fo [] 1991 0 d9o a0 Tryz.func303
theorem d5O:Ok0 245 b7H:=
 fo [] 16371 0 d9p (b1 b8X<|b1 c8r<|b1 d5M<|b1 d5N<|b1 d2J<|a0) Tryz.func245
theorem d5P:Ok0 246 c0R:=
 fo [] 4077 0 d9q a0 Tryz.func246
theorem d5Q:Ok0 247 c0S:=
 fo [] 28531 0 d9r (b1 c1v<|a0) Tryz.func247
theorem d2K:Ok0 194 c3a:=
 fo [] 4039 0 QH (b1 d5O<|b1 d5P<|b1 d5Q<|a0) Tryz.func194
theorem d5R:Ok0 248 c5Z:=
 fo [] 16327 0 d9s (b1 c8t<|a0) Tryz.func248
theorem c8D:Ok0 250 c6a:=
 fo [] 4039 32 d9t (b1 c8l<|b1 c8t<|b1 d2o<|b1 c8s<|a0) Tryz.func250
theorem d5S:Ok0 305 c4o:=
 fo [] 1 0 QH a0 Tryz.func305
theorem d5T:Ok0 249 c6b:=
 fo [] 47523 0 d9u (b1 c8D<|b1 d5S<|a0) Tryz.func249
theorem d5U:Ok0 195 c4p:=
 fo [] 953 0 QH (b1 d2K<|b1 d5R<|b1 d5T<|b1 c8D<|a0) Tryz.func195
theorem d5V:Ok0 193 b4S:=
 fo [] 463 0 QH (b1 d2K<|a0) Tryz.func193
theorem d5W:Ok0 120 b7I:=
 fo [(5,.list true Q43)] 851 147573952589676412928 d9v (b1 d5L<|b1 d5V<|b1 d5U<|a0) Tryz.func120
theorem d5X:Ok0 252 c3b:=
 fo [] 1991 0 d9w (b1 c8k<|b1 c8r<|b1 d2n<|b1 c8q<|a0) Tryz.func252
theorem d5Y:Ok0 253 c4q:=
 fo [] 15987 0 d9x (b1 b8X<|b1 c8m<|b1 d2p<|b1 d2q<|b1 c8v<|b1 c8u<|b1 d2s<|a0) Tryz.func253
theorem d5Z:Ok0 197 c6c:=
 fo [] 147573952727119562867 0 d9y (b1 c8o<|b1 b8X<|b1 d2I<|b1 c8D<|b1 d5X<|b1 d5Y<|a0) Tryz.func197
theorem d6a:Ok0 306 c6d:=
 fo [] 125 0 d9z (b1 c8A<|a0) Tryz.func306
theorem d6b:Ok0 255 c0Z:=
 fo [] 13 0 QH (b1 d2B<|b1 c8A<|b1 d6a<|a0) Tryz.func255
theorem d6c:Ok0 198 c4s:=
 fo [(14,.pair QI Q2),(40,.pair QI Q2)] 440847 0 d9A (b1 d2D<|b1 b8Y<|b1 d2A<|b1 d6b<|a0) Tryz.func198
theorem d6d:Ok0 121 c7Q:=
 fo [] 14727 32 d9B (b1 c8i<|b1 d2G<|b1 d2H<|b1 c8n<|b1 d2k<|b1 d5Z<|b1 d6c<|a0) Tryz.func121
theorem d6e:Ok0 199 b6w:=
 fo [] 5 0 QH a0 Tryz.func199
theorem d6f:Ok0 122 c7R:=
 fo [(5,.pair (.list true QV) Q0)] 19 4 QH (b1 d4k<|b1 d6e<|a0) Tryz.func122
theorem e1r:Ok0 60 c7S:=
 fo [] 50915 0 H60 (b1 c8i<|b1 d2G<|b1 d2H<|b1 d5W<|b1 d6d<|b1 d6f<|a0) Tryz.func60
theorem e1s:Ok0 18 c4t:=
 fo [(10,.pair QI Q57),(52,.pair QI Q55),(57,.pair QI Q55),(63,.pair QI Q55),(79,.pair QI Q55),(95,.pair QI Q55)] 88591 48 H18 (b1 c8g<|b1 c1w<|b1 c1x<|b1 e1q<|b1 d4s<|b1 e1r<|a0) Tryz.func18
theorem d4t:Ok0 89 b7K:=
 fo [] 109 0 H89 a0 Tryz.func89
theorem d4u:Ok0 29 c6e:=
 fo [] 5629 2 H29 (b1 d4m<|b1 d1o<|b1 d4l<|b1 d4t<|a0) Tryz.func29
theorem e1t:Ok0 96 c4u:=
 fo [(6,.pair QI Q7),(36,.list true (.list true QI)),(37,.pair QI Q7)] 931 8 H96 (b1 c1x<|b1 c1v<|a0) Tryz.func96
theorem e1u:Ok0 37 c1a:=
 fo [(13,.pair Q13 Q74),(76,.pair Q13 Q73)] 1431311 16 H37 (b1 e1s<|b1 d4o<|b1 d4u<|b1 c1x<|b1 c1v<|b1 e1t<|b1 d1n<|a0) Tryz.func37
theorem d2L:Ok0 143 c6f:=
 fo [] 5 0 QH a0 Tryz.func143
theorem d6g:Ok0 208 c1b:=
 fo [] 253 0 d9C a0 Tryz.func208
theorem d2M:Ok0 144 b4X:=
 fo [] 243 0 d9D (b1 d6g<|a0) Tryz.func144
theorem d2N:Ok0 146 b4Y:=
 fo [] 5 0 QH a0 Tryz.func146
theorem c8E:Ok0 147 b4B:=
 fo [] 5 0 d9E a0 Tryz.func147
theorem d2O:Ok0 148 b6A:=
 fo [] 5 0 QH a0 Tryz.func148
theorem d6h:Ok0 234 b4C:=
 fo [] 51 0 d9F (b1 c8E<|a0) Tryz.func234
theorem d6i:Ok0 182 b4Z:=
 fo [] 179 0 d9G (b1 d2F<|b1 d6h<|a0) Tryz.func182
theorem d2P:Ok0 102 b8D:=
 fo [(4,.pair Q13 Q22)] 745 0 d9H (b1 c1x<|b1 d4t<|b1 d2L<|b1 d2M<|b1 d2N<|b1 c8E<|b1 d2O<|b1 d6i<|a0) Tryz.func102
theorem d6j:Ok0 145 c6g:=
 fo [] 13 0 QH a0 Tryz.func145
theorem e1v:Ok0 71 b8E:=
 fo [(2,.pair QI Q56),(15,.pair QI Q55),(26,.pair QI Q55),(83,.pair QI Q55),(88,.pair QI Q55),(101,.pair QI Q55),(105,.pair QI Q55)] 4089 0 H71 (b1 d2i<|b1 d2E<|b1 d2L<|b1 d2M<|b1 d6j<|b1 d2N<|b1 c8E<|b1 d2O<|a0) Tryz.func71
theorem e1w:Ok0 72 c7T:=
 fo [] 5 0 QH a0 Tryz.func72
theorem c1y:Ok0 76 b6B:=
 fo [] 5 0 QH a0 Tryz.func76
theorem d4v:Ok0 74 b5d:=
 fo [] 5 0 H74 a0 Tryz.func74
theorem c8F:Ok0 154 b5e:=
 fo [] 19 0 QH a0 Tryz.func154
theorem b6c:Ok0 209 b6C:=
 fo [] 51 0 d9I (b1 d4v<|b1 c8F<|a0) Tryz.func209
theorem c3J:Ok0 152 b3M:=
 fo [] 51 0 d9J (b1 b6c<|a0) Tryz.func152
theorem d6k:Ok0 210 c1c:=
 fo [] 115 0 d9K (b1 b3O<|b1 c3J<|b1 b6c<|a0) Tryz.func210
theorem d6l:Ok0 149 c3e:=
 fo [(2,.pair QI Q40)] 178258169 0 d9L (b1 c3J<|b1 b6c<|b1 d6k<|a0) Tryz.func149
theorem d6m:Ok0 330 b4D:=
 fo [] 115 0 d9M (b1 c8F<|a0) Tryz.func330
theorem d6n:Ok0 331 c3f:=
 fo [] 77 0 QH a0 Tryz.func331
theorem d6o:Ok0 313 c7U:=
 fo [] 499 0 d9N (b1 c1y<|b1 b6c<|b1 d6m<|b1 d6n<|a0) Tryz.func313
theorem d6p:Ok0 272 c7V:=
 fo [] 1991 0 d9O (b1 c1y<|b1 c8y<|b1 d6o<|a0) Tryz.func272
theorem d6q:Ok0 215 c6h:=
 fo [] 4083 0 d9P (b1 c1y<|b1 b3O<|b1 c3J<|b1 b6c<|b1 d6p<|a0) Tryz.func215
theorem d6r:Ok0 153 c6i:=
 fo [(11,.pair QI Q2),(41,.pair QI Q2)] 251783 0 d9Q (b1 c1y<|b1 b8Y<|b1 b6c<|b1 c8p<|b1 d6q<|a0) Tryz.func153
theorem e1x:Ok0 73 c9w:=
 fo [(7,.pair QI (.pair QI (.pair QI (.pair QI (.pair QI (.pair QL (.pair (.arr 3 QI) (.pair (.list false Q4) Q24))))))))] 8035 0 H73 (b1 c1y<|b1 d2y<|b1 b3O<|b1 c8j<|b1 d6l<|b1 c8n<|b1 c8o<|b1 c3J<|b1 d6r<|a0) Tryz.func73
theorem e1y:Ok0 75 b4E:=
 fo [] 13 0 H75 (b1 c8F<|a0) Tryz.func75
theorem e1z:Ok0 21 c4w:=
 fo [(5,.pair QI Q57)] 6105 0 H21 (b1 d4j<|b1 d4n<|b1 e1v<|b1 e1w<|b1 e1x<|b1 d4v<|b1 e1y<|b1 c1y<|a0) Tryz.func21
theorem d2Q:Ok0 103 b7N:=
 fo [] 110623 64 d9R (b1 e1z<|b1 d1l<|a0) Tryz.func103
theorem d6s:Ok0 104 c6j:=
 fo [(6,.pair QI Q8),(12,.pair QI Q6),(30,.pair QI Q6),(33,.pair QI Q6)] 291 12 d9S (b1 c8g<|b1 c1w<|b1 c9H<|a0) Tryz.func104
theorem e1A:Ok0 43 c4x:=
 fo [] 327603 8 H43 (b1 d1m<|b1 d2P<|b1 d2Q<|b1 d6s<|a0) Tryz.func43
theorem e1B:Ok0 44 c4y:=
 fo [(6,.pair Q13 Q74),(20,.pair Q13 Q73),(24,.pair Q13 Q73),(48,.pair Q13 Q73),(90,.pair Q13 Q73),(96,.pair Q13 Q73)] 5033 0 H44 (b1 d1n<|b1 d2P<|b1 d2Q<|a0) Tryz.func44
theorem e1C:Ok0 25 c6k:=
 fo [] 4077 0 H25 (b1 d4q<|b1 d4r<|b1 c8C<|b1 e1u<|b1 d4p<|b1 e1A<|b1 e1B<|a0) Tryz.func25
theorem e1D:Ok0 84 c6l:=
 fo [] 19 4 QH a0 Tryz.func84
theorem e1E:Ok0 26 c6m:=
 fo [] 51 4 H26 (b1 e1D<|a0) Tryz.func26
theorem e1F:Ok0 82 b8L:=
 fo [] 51 0 H82 a0 Tryz.func82
theorem d6t:Ok0 166 b7O:=
 fo [] 51 0 d9T a0 Tryz.func166
theorem d6u:Ok0 167 c1g:=
 fo [] 19 12 QH (b1 c8C<|a0) Tryz.func167
theorem d4w:Ok0 83 c3h:=
 fo [] 19 12 QH (b1 c8C<|b1 d6t<|b1 d6u<|a0) Tryz.func83
theorem e1G:Ok0 24 b8M:=
 fo [] 51 12 H24 (b1 e1F<|b1 d4w<|a0) Tryz.func24
theorem e1H:Ok0 46 b8N:=
 fo [] 115 12 H46 (b1 e1G<|a0) Tryz.func46
theorem d4x:Ok0 77 c6n:=
 fo [] 5 2 QH a0 Tryz.func77
theorem d4y:Ok0 54 c6o:=
 fo [] 13 0 H54 a0 Tryz.func54
theorem d6v:Ok0 109 d1h:=
 fo [] 5 0 d9U a0 Tryz.func109
theorem d6w:Ok0 110 c9x:=
 fo [] 5 0 d9V a0 Tryz.func110
theorem d1p:Ok0 55 c9y:=
 fo [] 19 0 QH (b1 d6v<|b1 d6w<|a0) Tryz.func55
theorem d4z:Ok0 17 c1h:=
 fo [] 29 2 H17 (b1 d4y<|b1 d1p<|a0) Tryz.func17
theorem d2R:Ok0 140 c3i:=
 fo [] 5 0 QH a0 Tryz.func140
theorem b0P:Ok0 218 c9z:=
 fo [] 5 0 QH a0 Tryz.func218
theorem b2D:Ok0 160 c4z:=
 fo [] 13 0 d9W (b1 b0P<|a0) Tryz.func160
theorem c8G:Ok0 279 b8O:=
 fo [] 51 0 d9X a0 Tryz.func279
theorem d2S:Ok0 280 c3j:=
 fo [] 51 8 d9Y a0 Tryz.func280
theorem d2T:Ok0 318 c1i:=
 fo [] 5 2 QH a0 Tryz.func318
theorem d2U:Ok0 281 c1j:=
 fo [] 13 0 d9Z (b1 d2T<|a0) Tryz.func281
theorem d6x:Ok0 223 c6p:=
 fo [] 1152921505680593555 4 e0A (b1 c8G<|b1 d2S<|b1 d2U<|a0) Tryz.func223
theorem d6y:Ok0 262 c6q:=
 fo [] 36031004900589569 2 e0B a0 Tryz.func262
theorem d6z:Ok0 267 d1i:=
 fo [] 19 0 QH a0 Tryz.func267
theorem c8H:Ok0 206 b8P:=
 fo [] 455 0 e0C (b1 d6z<|a0) Tryz.func206
theorem c8I:Ok0 268 c1k:=
 fo [] 5 0 QH a0 Tryz.func268
theorem d2V:Ok0 263 c3k:=
 fo [] 455 8 e0D (b1 c8H<|b1 c8I<|a0) Tryz.func263
theorem d6A:Ok0 328 c4A:=
 fo [] 5 0 QH a0 Tryz.func328
theorem d6B:Ok0 308 b8Q:=
 fo [] 8135 0 e0E (b1 b2D<|b1 b0P<|b1 d6A<|a0) Tryz.func308
theorem d6C:Ok0 319 b6E:=
 fo [] 967 0 e0F (b1 b0P<|b1 c8G<|a0) Tryz.func319
theorem d6D:Ok0 309 b7Q:=
 fo [] 7951 0 e0G (b1 b2D<|b1 b0P<|b1 c8G<|b1 d6C<|a0) Tryz.func309
theorem d6E:Ok0 317 b8R:=
 fo [] 967 32 e0H a0 Tryz.func317
theorem d6F:Ok0 310 c1l:=
 fo [] 1991 32 e0I (b1 b2D<|b1 b0P<|b1 d2S<|b1 d6E<|a0) Tryz.func310
theorem d6G:Ok0 320 b8S:=
 fo [(15,.pair QI Q15),(16,.pair QI Q15)] 13 2 e0J (b1 d2T<|a0) Tryz.func320
theorem d2W:Ok0 335 c7W:=
 fo [] 5 0 QH a0 Tryz.func335
theorem d2X:Ok0 321 b5j:=
 fo [] 29 0 e0K (b1 d2W<|a0) Tryz.func321
theorem d6H:Ok0 336 c7X:=
 fo [] 77 0 QH a0 Tryz.func336
theorem d6I:Ok0 322 b6F:=
 fo [] 243 0 e0L (b1 d2X<|b1 d2W<|b1 d6H<|a0) Tryz.func322
theorem d6J:Ok0 311 b8T:=
 fo [] 4083 0 e0M (b1 b2D<|b1 b0P<|b1 d2U<|b1 d6G<|b1 d2X<|b1 d6I<|a0) Tryz.func311
theorem d6K:Ok0 264 c7Y:=
 fo [] 144115192371347773 2 QH (b1 d6B<|b1 d6D<|b1 d6F<|b1 d6J<|a0) Tryz.func264
theorem d6L:Ok0 265 d3y:=
 fo [] 243 0 e0N (b1 b0P<|a0) Tryz.func265
theorem d2Y:Ok0 204 c4B:=
 fo [] 8179 4 e0O (b1 d4w<|b1 d2R<|b1 b2D<|b1 d6x<|b1 d6y<|b1 d2V<|b1 d6K<|b1 d6L<|a0) Tryz.func204
theorem d2Z:Ok0 217 c3l:=
 fo [] 51 0 e0P a0 Tryz.func217
theorem d6M:Ok0 228 c3m:=
 fo [] 5 2 QH (b1 d4x<|b1 d2Z<|a0) Tryz.func228
theorem d6N:Ok0 157 c7Z:=
 fo [] 51 0 e0Q (b1 d4y<|b1 b2D<|b1 d2Z<|a0) Tryz.func157
theorem d6O:Ok0 158 c4C:=
 fo [(18,.list true (.list true QI))] 29 0 e0R a0 Tryz.func158
theorem d6P:Ok0 159 c9A:=
 fo [] 199 16 e0S (b1 b0P<|a0) Tryz.func159
theorem d6Q:Ok0 229 c1m:=
 fo [] 243 0 e0T (b1 d6N<|b1 d6O<|b1 d6P<|a0) Tryz.func229
theorem d3a:Ok0 168 b7R:=
 fo [] 1017 2 e0U (b1 d4z<|b1 d2Y<|b1 d6M<|b1 d6Q<|a0) Tryz.func168
theorem e1I:Ok0 78 c1n:=
 fo [] 5 2 QH a0 Tryz.func78
theorem d6R:Ok0 169 c6r:=
 fo [] 61 2 e0V (b1 d4z<|b1 e1I<|a0) Tryz.func169
theorem d4A:Ok0 87 c6s:=
 fo [] 189 0 H87 (b1 d3a<|b1 d6R<|a0) Tryz.func87
theorem d6S:Ok0 135 c4D:=
 fo [] 115 4 QH (b1 d2Y<|a0) Tryz.func135
theorem c3K:Ok0 136 c8a:=
 fo [] 29 0 e0W (b1 d1p<|a0) Tryz.func136
theorem b9a:Ok0 137 b8U:=
 fo [] 199 0 e0X a0 Tryz.func137
theorem c8J:Ok0 139 c1o:=
 fo [] 71 0 e0Y (b1 b9a<|a0) Tryz.func139
theorem d6T:Ok0 138 b8V:=
 fo [] 19 8 QH (b1 c3K<|b1 b9a<|b1 c8J<|a0) Tryz.func138
theorem d3b:Ok0 142 d1j:=
 fo [] 13 0 e0Z a0 Tryz.func142
theorem d3c:Ok0 269 c9B:=
 fo [] 5 0 QH (b1 d3b<|b1 b0P<|a0) Tryz.func269
theorem d6U:Ok0 329 c3n:=
 fo [] 51 0 e1a (b1 b0P<|b1 c8I<|b1 d3c<|a0) Tryz.func329
theorem d6V:Ok0 312 c4E:=
 fo [] 115 0 e1b (b1 d6U<|a0) Tryz.func312
theorem d6W:Ok0 266 c3o:=
 fo [] 19 0 QH (b1 c3K<|b1 d6V<|a0) Tryz.func266
theorem d6X:Ok0 205 c1p:=
 fo [] 7951 16 e1c (b1 b2D<|b1 c8H<|b1 d2V<|b1 d6W<|a0) Tryz.func205
theorem d6Y:Ok0 270 b6G:=
 fo [] 51 0 e1d a0 Tryz.func270
theorem d6Z:Ok0 207 c4F:=
 fo [] 967 0 e1e (b1 b9a<|b1 b2D<|b1 c8I<|b1 d3c<|b1 d6Y<|a0) Tryz.func207
theorem d7a:Ok0 141 c3p:=
 fo [] 64543 64 e1f (b1 c3K<|b1 b9a<|b1 c8J<|b1 d6X<|b1 c8H<|b1 d6Z<|a0) Tryz.func141
theorem e1J:Ok0 68 c4G:=
 fo [] 576478898540249543 16 H68 (b1 d6S<|b1 c3K<|b1 b9a<|b1 d6T<|b1 c8J<|b1 d2R<|b1 d7a<|a0) Tryz.func68
theorem d4B:Ok0 90 c3q:=
 fo [] 61 0 H90 a0 Tryz.func90
theorem e1K:Ok0 69 c8b:=
 fo [] 115 4 H69 (b1 d4B<|b1 d3b<|a0) Tryz.func69
theorem e1L:Ok0 70 b6H:=
 fo [] 29 0 H70 a0 Tryz.func70
theorem d4C:Ok0 92 d1k:=
 fo [] 115 0 H92 a0 Tryz.func92
theorem d7b:Ok0 170 c1q:=
 fo [] 21 2 QH (b1 d3a<|a0) Tryz.func170
theorem d7c:Ok0 171 c8c:=
 fo [] 61 0 e1g a0 Tryz.func171
theorem d7d:Ok0 172 c4H:=
 fo [] 61 0 e1h a0 Tryz.func172
theorem d4D:Ok0 91 c1r:=
 fo [(11,.pair (.list true QV) .unit),(12,.pair (.list true QV) .unit)] 253 2 H91 (b1 e1J<|b1 e1K<|b1 e1L<|b1 d4C<|b1 d7b<|b1 d7c<|b1 d7d<|a0) Tryz.func91
theorem d7e:Ok0 173 c9C:=
 fo [] 5 0 QH a0 Tryz.func173
theorem e1M:Ok0 99 c8d:=
 fo [] 5 0 QH a0 Tryz.func99
theorem d7f:Ok0 100 c8e:=
 fo [] 115 0 e1i a0 Tryz.func100
theorem e1N:Ok0 41 c9D:=
 fo [] 243 0 H41 (b1 d1p<|b1 e1M<|b1 d7f<|a0) Tryz.func41
theorem d3d:Ok0 285 c9E:=
 fo [] 19 0 QH a0 Tryz.func285
theorem d7g:Ok0 286 c9F:=
 fo [] 29 0 QH (b1 d3d<|a0) Tryz.func286
theorem d7h:Ok0 230 c8f:=
 fo [] 29 0 e1j (b1 d3d<|b1 d7g<|a0) Tryz.func230
theorem d7i:Ok0 174 c3s:=
 fo [] 115 0 QH (b1 e1N<|b1 d7h<|a0) Tryz.func174
theorem e1O:Ok0 94 c6t:=
 fo [(6,.pair Q13 Q75),(22,.pair Q13 Q73),(27,.pair Q13 (.pair QI (.pair QU (.pair (.nl Q4) Q64)))),(62,.pair Q13 Q73)] 16291 4 H94 (b1 d4x<|b1 d4A<|b1 d4D<|b1 d7e<|b1 d7i<|a0) Tryz.func94
theorem d1q:Ok0 34 c1s:=
 fo [] 21 2 QH (b1 e1H<|b1 e1O<|a0) Tryz.func34
theorem e1P:Ok0 28 b5k:=
 fo [] 61 2 QH (b1 d1q<|b1 d4A<|a0) Tryz.func28
theorem e1Q:Ok0 93 c1t:=
 fo [] 61 0 H93 a0 Tryz.func93
theorem e1R:Ok0 30 c1u:=
 fo [] 509 2 H30 (b1 d1q<|b1 d4B<|b1 d4D<|b1 d4C<|b1 e1Q<|a0) Tryz.func30
theorem e1S:Ok0 32 b8W:=
 fo [] 115 4 H32 a0 Tryz.func32
theorem e1T:Ok0 33 c6u:=
 fo [] 61 2 QH (b1 d1o<|a0) Tryz.func33
theorem e1U:Ok0 36 c9G:=
 fo [] 19 0 QH a0 Tryz.func36
theorem fs6:Ok0 6 a8F:=
 fo [] 262131 4 H6 (b1 e1C<|b1 e1E<|b1 d4q<|b1 e1P<|b1 d4u<|b1 e1R<|b1 d4r<|b1 e1S<|b1 e1T<|b1 d1q<|b1 c8C<|b1 e1U<|a0) Tryz.func6
end Go.Ab
