/- Part of the proof: S. Conditions: as each statement tells. -/
import Derived.KernelRfl
import Derived.Test.YtjoohiokfkdfpabGreatDoorMF
noncomputable section
set_option linter.unusedSimpArgs false
set_option linter.unusedVariables false
namespace Go.Ab
variable {n:Nat}{s:FSem}
open Go.Proofs
set_option maxRecDepth 100000
theorem b1q:Tryz.prog.follows .mixedOrders=true:=by kernel_rfl
theorem d8n:B0d Tryz.prog c1N=true:=by kernel_rfl
theorem d8o:B0b Tryz.prog c2a=true:=by kernel_rfl
theorem d8p:A0y Tryz.prog c1N c5K=true:=by kernel_rfl
theorem laidOut:laidOutB Tryz.prog=true:=by kernel_rfl
@[reducible] def Ok0(n:Nat)(s:FSem):Prop:=i0y Tryz.prog G0 n s∧l0x Tryz.prog n
theorem cxo{a:List (Nat×FSem)}{b:List (Nat×Ty)}{c d:Nat}(h:∀p∈a,FOk Tryz.prog G0 p.1 p.2):CxOk Tryz.prog (b3z a b c d):=
 CxOk.of (CxTy.of (tab:=c1N) (l:=c5K) (q:=c2a) (fun _=>rfl) (fun _=>rfl) (fun _=>rfl) d8n d8o d8p) (fun _=>rfl) h
theorem b1{l:List (Nat×FSem)}(h:Ok0 n s)(g:∀p∈l,FOk Tryz.prog G0 p.1 p.2):∀p∈(n,s)::l,FOk Tryz.prog G0 p.1 p.2:=a1 (a:=(n,s)) h g
theorem b2{l:List (Nat×FSem)}(h:A0f Tryz.prog G0 n s)(g:∀p∈l,FOk Tryz.prog G0 p.1 p.2):∀p∈(n,s)::l,FOk Tryz.prog G0 p.1 p.2:=B0g (a:=(n,s)) h g
theorem fo{a:List (Nat × FSem)}(b : List (Nat × Ty))(c d : Nat)(H : Hints){fn:Func}{e:Code}(h : ∀ p ∈ a, FOk Tryz.prog G0 p.1 p.2)(hf : Tryz.prog.funcs[n]? = some fn)(hb : fn.body = some e :=by rfl)(hk : A0m fn e H s = true :=by kernel_rfl)(hn : (fn.name == "runtime.NumGoroutine") = false :=by kernel_rfl)(hq : ∀ x, A0j (b3z a b c d) H fn s.ps s.rs x = s.F x :=by intro x; kernel_rfl): Ok0 n s :=
 ⟨i0y.of (cxo h) b1q hf hb hk hq,⟨_,_,hf,hb,hn⟩⟩
theorem d8q:Ok0 89 c2b:=
 fo [] 5 0 H89 a0 Tryz.func89
theorem d8r:Ok0 90 c0K:=
 fo [] 5 0 H90 a0 Tryz.func90
theorem b9q:Ok0 41 c0L:=
 fo [] 19 0 QH (b1 d8q<|b1 d8r<|a0) Tryz.func41
theorem d1C:Ok0 88 c0M:=
 fo [] 5 0 QH a0 Tryz.func88
theorem c6d:Ok0 92 c3G:=
 fo [] 5 2 QH a0 Tryz.func92
theorem b9r:Ok0 91 c3H:=
 fo [] 85 2 H91 (b1 b9q<|b1 d1C<|b1 c6d<|a0) Tryz.func91
theorem b9s:Ok0 40 c0N:=
 fo [] 5 2 QH (b1 d1C<|a0) Tryz.func40
theorem c6e:Ok0 175 b6O:=
 fo [] 19 0 d5y a0 Tryz.func175
theorem c9l:Ok0 157 c0O:=
 fo [] 5 2 QH (b1 b9s<|b1 c6e<|a0) Tryz.func157
theorem c6f:Ok0 119 c2c:=
 fo [] 5 0 QH a0 Tryz.func119
theorem c6g:Ok0 178 c0P:=
 fo [] 21 0 d5z a0 Tryz.func178
theorem c6h:Ok0 285 c2d:=
 fo [] 83 0 d5A a0 Tryz.func285
theorem c6i:Ok0 286 c5L:=
 fo [] 83 8 d5B a0 Tryz.func286
theorem c9m:Ok0 329 c0Q:=
 fo [] 5 2 QH a0 Tryz.func329
theorem c6j:Ok0 287 b5v:=
 fo [] 5 0 d5C (b1 c9m<|a0) Tryz.func287
theorem c6k:Ok0 219 c7j:=
 fo [] 4611688217584863559 16 d5D (b1 c6h<|b1 c6i<|b1 c6j<|a0) Tryz.func219
theorem c6l:Ok0 220 c2e:=
 fo [] 70291 4 d5E a0 Tryz.func220
theorem c6m:Ok0 266 c3I:=
 fo [] 19 0 QH a0 Tryz.func266
theorem b7I:Ok0 201 c0R:=
 fo [] 455 0 d5F (b1 c6m<|a0) Tryz.func201
theorem c9n:Ok0 262 c3J:=
 fo [] 711 8 d5G (b1 b7I<|a0) Tryz.func262
theorem b7J:Ok0 140 a1K:=
 ⟨i0y.of (cx:=c9i) (cxo a0) b1q Tryz.func140 rfl (by kernel_rfl) d2d,⟨_,_,Tryz.func140,rfl,by kernel_rfl⟩⟩
theorem c7z:Ok0 140 a2k:=
 ⟨i0y.of (cx:=c7k) (cxo a0) b1q Tryz.func140 rfl (by kernel_rfl) d1x,⟨_,_,Tryz.func140,rfl,by kernel_rfl⟩⟩
theorem d1D:Ok0 307 a1n:=
 ⟨i0y.of (cx:=c7l) (cxo a0) b1q Tryz.func307 rfl (by kernel_rfl) d1y,⟨_,_,Tryz.func307,rfl,by kernel_rfl⟩⟩
theorem c9o:Ok0 244 c2f:=
 fo [] 43523 8 d5H (b1 c7z<|b1 d1D<|a0) Tryz.func244
theorem d2h:Ok0 289 c3K:=
 fo [] 5 2 QH (b1 c9o<|a0) Tryz.func289
theorem d2i:Ok0 224 c2g:=
 fo [] 51 4 d5I (b1 c6f<|b1 c6g<|b1 c6k<|b1 c6l<|b1 c9n<|b1 d2h<|a0) Tryz.func224
theorem c9p:Ok0 331 c2h:=
 fo [] 21 0 d5J a0 Tryz.func331
theorem d2j:Ok0 360 b6P:=
 fo [] 11 0 QH a0 Tryz.func360
theorem d2k:Ok0 332 c0S:=
 fo [] 4296020275 0 QH (b1 d2j<|a0) Tryz.func332
theorem d2l:Ok0 290 c2i:=
 fo [] 3527 0 d5K (b1 c9p<|b1 d2k<|a0) Tryz.func290
theorem c6n:Ok0 335 c0T:=
 fo [] 5 0 QH a0 Tryz.func335
theorem c6o:Ok0 333 b5Z:=
 fo [] 21 0 d5L (b1 c6n<|a0) Tryz.func333
theorem c9q:Ok0 334 b6a:=
 fo [] 1991 0 d5M a0 Tryz.func334
theorem d2m:Ok0 291 c0U:=
 fo [] 14095 0 d5N (b1 c6h<|b1 c6o<|b1 c9q<|b1 c6n<|a0) Tryz.func291
theorem c6p:Ok0 338 c3L:=
 fo [] 5 0 QH a0 Tryz.func338
theorem c6q:Ok0 336 b8v:=
 fo [] 21 0 d5O (b1 c6p<|a0) Tryz.func336
theorem c9r:Ok0 337 b8w:=
 fo [] 7951 128 d5P a0 Tryz.func337
theorem d2n:Ok0 292 c3M:=
 fo [] 4039 32 d5Q (b1 c6i<|b1 c6q<|b1 c9r<|b1 c6p<|a0) Tryz.func292
theorem c6r:Ok0 343 b3A:=
 fo [] 5 0 QH a0 Tryz.func343
theorem c9s:Ok0 339 b1k:=
 fo [] 21 0 d5R (b1 c6r<|a0) Tryz.func339
theorem c9t:Ok0 341 b5w:=
 fo [(15,.pair QI Q16),(16,.pair QI Q16)] 13 2 d5S (b1 c9m<|a0) Tryz.func341
theorem c9u:Ok0 362 b6Q:=
 fo [] 5 0 QH a0 Tryz.func362
theorem c6s:Ok0 342 a7W:=
 fo [] 61 0 d5T (b1 c9u<|a0) Tryz.func342
theorem c9v:Ok0 344 a8x:=
 fo [] 4202995 0 d5U (b1 c6s<|b1 c9u<|a0) Tryz.func344
theorem d2o:Ok0 293 a7Y:=
 ⟨i0y.ofR (cx:=c9j) (cxo (a1 b7J (a1 c6j (a1 c9s (a1 c9t (a1 c6s (a1 c6r (a1 c9v a0)))))))) b1q (r:=d1z) ⟨d0S,d0T⟩ Tryz.func293 rfl (by kernel_rfl) d2e,⟨_,_,Tryz.func293,rfl,by kernel_rfl⟩⟩
theorem c9w:Ok0 238 c0V:=
 fo [] 5 0 QH a0 Tryz.func238
theorem d2p:Ok0 294 c3N:=
 fo [] 371 0 d5W (b1 c9w<|a0) Tryz.func294
theorem d2q:Ok0 225 c5M:=
 fo [] 604462927822812893676787 4 d5X (b1 d2l<|b1 d2m<|b1 d2n<|b1 d2o<|b1 d2p<|a0) Tryz.func225
theorem c9x:Ok0 158 c7m:=
 fo [] 243 4 QH (b1 d2i<|b1 d2q<|a0) Tryz.func158
theorem c9y:Ok0 237 c3O:=
 fo [] 5 0 QH a0 Tryz.func237
theorem c6t:Ok0 174 b5x:=
 fo [] 85 0 d5Y (b1 c9y<|a0) Tryz.func174
theorem c9z:Ok0 176 b2Y:=
 fo [(15,.list true (.list true QI))] 45 0 d5Z (b1 b7J<|a0) Tryz.func176
theorem c9A:Ok0 177 b3B:=
 fo [] 967 16 d6a (b1 c9y<|a0) Tryz.func177
theorem d2r:Ok0 159 a8V:=
 ⟨i0y.ofR (cx:=c9k) (cxo (a1 c6t (a1 c6e (a1 c9z (a1 c9A a0))))) b1q (r:=d1A) ⟨d0U,d0V⟩ Tryz.func159 rfl (by kernel_rfl) d2f,⟨_,_,Tryz.func159,rfl,by kernel_rfl⟩⟩
theorem c6u:Ok0 73 c0W:=
 fo [] 1945 2 H73 (b1 b9r<|b1 c9l<|b1 c9x<|b1 d2r<|a0) Tryz.func73
theorem d1E:Ok0 52 c3P:=
 fo [] 21 2 QH (b1 c6u<|a0) Tryz.func52
theorem c9B:Ok0 114 c7n:=
 fo [] 115 4 QH (b1 c9x<|a0) Tryz.func114
theorem b2G:Ok0 115 b8x:=
 fo [] 45 0 d6c (b1 b9q<|a0) Tryz.func115
theorem c6v:Ok0 121 b4V:=
 fo [] 3 0 d6d a0 Tryz.func121
theorem b7K:Ok0 116 b4W:=
 fo [] 199 0 d6e (b1 c6v<|a0) Tryz.func116
theorem c9C:Ok0 117 b6R:=
 fo [] 7 0 QH (b1 b7K<|a0) Tryz.func117
theorem d2s:Ok0 118 b8y:=
 fo [] 83 8 d6f (b1 b2G<|b1 b7K<|b1 c9C<|a0) Tryz.func118
theorem c9D:Ok0 263 c0X:=
 fo [] 327 0 d6g (b1 c6m<|a0) Tryz.func263
theorem c9E:Ok0 264 c3Q:=
 fo [] 5 0 QH (b1 b2G<|a0) Tryz.func264
theorem c6w:Ok0 267 b6c:=
 fo [] 5 0 QH a0 Tryz.func267
theorem c6x:Ok0 268 c3R:=
 fo [] 5 0 QH a0 Tryz.func268
theorem c9F:Ok0 269 c3S:=
 fo [] 141 0 QH (b1 c6x<|a0) Tryz.func269
theorem d2t:Ok0 320 c3T:=
 fo [] 51 0 d6h (b1 c6w<|b1 c6x<|b1 c9F<|a0) Tryz.func320
theorem c6y:Ok0 265 c5N:=
 fo [] 179 0 d6i (b1 d2t<|a0) Tryz.func265
theorem c9G:Ok0 200 c2j:=
 fo [] 7951 16 d6j (b1 b7I<|b1 c9n<|b1 c9D<|b1 c9E<|b1 c6y<|a0) Tryz.func200
theorem d2u:Ok0 270 b3m:=
 fo [] 19 0 d6k (b1 c6v<|a0) Tryz.func270
theorem d2v:Ok0 202 c5O:=
 fo [] 7495 0 d6l (b1 b7K<|b1 c6w<|b1 c6x<|b1 c9F<|b1 d2u<|a0) Tryz.func202
theorem d2w:Ok0 120 c3U:=
 fo [] 97311 64 d6m (b1 b2G<|b1 b7K<|b1 c9G<|b1 b7I<|b1 d2v<|a0) Tryz.func120
theorem d1F:Ok0 53 c7o:=
 fo [] 11682311054023 16 H53 (b1 c9B<|b1 b2G<|b1 b7K<|b1 c9C<|b1 d2s<|b1 c6f<|b1 d2w<|a0) Tryz.func53
theorem d8s:Ok0 54 b3n:=
 fo [] 1 0 H54 (b1 c6v<|a0) Tryz.func54
theorem d8t:Ok0 55 b3o:=
 fo [] 5 0 QH a0 Tryz.func55
theorem d1G:Ok0 98 c3V:=
 fo [] 45 0 H98 a0 Tryz.func98
theorem d2x:Ok0 122 c3W:=
 fo [] 5 0 QH a0 Tryz.func122
theorem c9H:Ok0 123 c2n:=
 fo [] 109 0 d6n a0 Tryz.func123
theorem d8u:Ok0 56 b6U:=
 fo [] 307 4 H56 (b1 d1G<|b1 d2x<|b1 c9H<|a0) Tryz.func56
theorem c9I:Ok0 203 c1b:=
 fo [] 5 0 QH a0 Tryz.func203
theorem d2y:Ok0 124 c1c:=
 fo [] 51 0 d6o (b1 c9I<|a0) Tryz.func124
theorem d2z:Ok0 125 a8w:=⟨c8j _,⟨_,_,Tryz.func125,rfl,by kernel_rfl⟩⟩
theorem d1H:Ok0 57 c3X:=
 fo [] 51 0 QH (b1 d2y<|b1 d2z<|a0) Tryz.func57
theorem d1I:Ok0 58 b8D:=
 fo [] 109 0 H58 a0 Tryz.func58
theorem d1J:Ok0 15 c3Y:=
 fo [(4,.pair (.list true QV) Q0)] 909 2 H15 (b1 d1E<|b1 d1F<|b1 d8s<|b1 d8t<|b1 d8u<|b1 d1H<|b1 d1I<|a0) Tryz.func15
theorem d8v:Ok0 42 c2o:=
 fo [(6,.pair QI Q8),(36,.list true (.list true QI)),(37,.pair QI Q8)] 931 8 H42 (b1 b9s<|b1 b9q<|a0) Tryz.func42
theorem d1K:Ok0 94 c7p:=
 fo [] 115 0 H94 (b1 c6t<|b1 c6e<|b1 c9z<|b1 c9A<|a0) Tryz.func94
theorem d2A:Ok0 235 c1d:=
 fo [] 237 0 d6p (b1 c6t<|a0) Tryz.func235
theorem d2B:Ok0 236 c2q:=
 fo [] 135445 0 QH a0 Tryz.func236
theorem d2C:Ok0 173 c3Z:=
 fo [] 509 0 d6q (b1 d1K<|b1 d2A<|b1 d2B<|a0) Tryz.func173
theorem d8w:Ok0 93 c4a:=
 fo [] 29 2 H93 (b1 b9r<|b1 d2C<|a0) Tryz.func93
theorem c9J:Ok0 179 c1e:=
 fo [] 371 0 d6r (b1 c9w<|a0) Tryz.func179
theorem d2D:Ok0 239 a1p:=
 ⟨i0y.of (cx:=a8b) (cxo a0) b1q Tryz.func239 rfl (by kernel_rfl) d2g,⟨_,_,Tryz.func239,rfl,by kernel_rfl⟩⟩
theorem c9K:Ok0 180 b6W:=
 fo [] 45 0 d6s (b1 d2D<|a0) Tryz.func180
theorem c9L:Ok0 299 c2t:=
 fo [] 243 0 d6t (b1 c9p<|a0) Tryz.func299
theorem d2E:Ok0 300 c1f:=
 fo [] 243 0 d6u a0 Tryz.func300
theorem d2F:Ok0 240 c2u:=
 fo [] 509 0 d6v (b1 c9L<|b1 d2E<|a0) Tryz.func240
theorem c9M:Ok0 349 b8J:=
 fo [] 5 0 QH a0 Tryz.func349
theorem d2G:Ok0 347 b7a:=
 fo [] 493 0 d6w (b1 c9M<|a0) Tryz.func347
theorem d2H:Ok0 348 b3p:=
 fo [] 1991 0 d6x a0 Tryz.func348
theorem d2I:Ok0 301 b6i:=
 fo [] 16371 0 d6y (b1 b7J<|b1 c6o<|b1 d2G<|b1 d2H<|b1 c9M<|a0) Tryz.func301
theorem d2J:Ok0 302 b8K:=
 fo [] 4077 0 d6z a0 Tryz.func302
theorem d2K:Ok0 303 b8L:=
 fo [] 28531 0 d6A (b1 b9q<|a0) Tryz.func303
theorem c9N:Ok0 242 c1g:=
 fo [] 4039 0 QH (b1 d2I<|b1 d2J<|b1 d2K<|a0) Tryz.func242
theorem d2L:Ok0 304 c4b:=
 fo [] 16327 0 d6B (b1 c6q<|a0) Tryz.func304
theorem c6z:Ok0 306 c4c:=
 fo [] 4039 32 d6C (b1 c6i<|b1 c6q<|b1 c9r<|b1 c6p<|a0) Tryz.func306
theorem d2M:Ok0 350 c2v:=
 fo [] 1 0 QH a0 Tryz.func350
theorem d2N:Ok0 305 c4d:=
 fo [] 47523 0 d6D (b1 c6z<|b1 d2M<|a0) Tryz.func305
theorem d2O:Ok0 243 c2w:=
 fo [] 953 0 QH (b1 c9N<|b1 d2L<|b1 d2N<|b1 c6z<|a0) Tryz.func243
theorem d2P:Ok0 241 b3O:=
 fo [] 463 0 QH (b1 c9N<|a0) Tryz.func241
theorem d2Q:Ok0 181 b6j:=
 fo [(5,.list true Q61)] 851 147573952589676412928 d6E (b1 d2F<|b1 d2P<|b1 d2O<|a0) Tryz.func181
theorem d2R:Ok0 308 c1h:=
 fo [] 1991 0 d6F (b1 c6h<|b1 c6o<|b1 c9q<|b1 c6n<|a0) Tryz.func308
theorem d2S:Ok0 309 c2x:=
 fo [] 15987 0 d6G (b1 b7J<|b1 c6j<|b1 c9s<|b1 c9t<|b1 c6s<|b1 c6r<|b1 c9v<|a0) Tryz.func309
theorem d2T:Ok0 245 c4e:=
 fo [] 147573952727119562867 0 d6H (b1 b7J<|b1 c6l<|b1 c9L<|b1 c6z<|b1 d2R<|b1 d2S<|a0) Tryz.func245
theorem d2U:Ok0 351 c4f:=
 fo [] 125 0 d6I (b1 c6y<|a0) Tryz.func351
theorem d2V:Ok0 310 b8S:=
 fo [] 13 0 QH (b1 c9E<|b1 c6y<|b1 d2U<|a0) Tryz.func310
theorem d2W:Ok0 246 c2y:=
 fo [(14,.pair QI Q3),(40,.pair QI Q3)] 440847 0 d6J (b1 c9G<|b1 b7I<|b1 c9D<|b1 d2V<|a0) Tryz.func246
theorem d2X:Ok0 182 c5Q:=
 fo [] 14727 32 d6K (b1 c6g<|b1 c9J<|b1 c9K<|b1 c6k<|b1 c9o<|b1 d2T<|b1 d2W<|a0) Tryz.func182
theorem d2Y:Ok0 247 b5e:=
 fo [] 5 0 QH a0 Tryz.func247
theorem d2Z:Ok0 183 c5R:=
 fo [(5,.pair (.list true QV) Q0)] 19 4 QH (b1 d1F<|b1 d2Y<|a0) Tryz.func183
theorem d8x:Ok0 95 c5S:=
 fo [] 50915 0 H95 (b1 c6g<|b1 c9J<|b1 c9K<|b1 d2Q<|b1 d2X<|b1 d2Z<|a0) Tryz.func95
theorem d8y:Ok0 43 c2z:=
 fo [(10,.pair QI Q78),(52,.pair QI Q75),(57,.pair QI Q75),(63,.pair QI Q75),(79,.pair QI Q75),(95,.pair QI Q75)] 88591 48 H43 (b1 b9s<|b1 b9r<|b1 c6d<|b1 d8w<|b1 d1K<|b1 d8x<|a0) Tryz.func43
theorem d3a:Ok0 170 b5f:=
 fo [] 16371 0 QH a0 Tryz.func170
theorem d3b:A0f Tryz.prog G0 171 b5g:=c8k _
theorem d3c:Ok0 346 b5h:=
 fo [] 5 0 d6L a0 Tryz.func346
theorem d3d:Ok0 298 a9B:=
 fo [] 5 0 QH (b1 d3c<|a0) Tryz.func298
theorem d3e:Ok0 234 b5i:=
 fo [] 524231 0 d6M (b1 d3d<|a0) Tryz.func234
theorem d3f:Ok0 172 b5j:=
 fo [] 455 0 QH (b1 d3e<|a0) Tryz.func172
theorem c8B:Ok0 87 c4g:=
 fo [] 967 0 QH (b1 d3a<|b2 d3b<|b1 d3f<|a0) Tryz.func87
theorem d1L:Ok0 39 c2A:=
 fo [] 45 0 H39 (b1 c8B<|a0) Tryz.func39
theorem c6A:Ok0 65 c1k:=
 fo [] 93 2 H65 (b1 b9r<|b1 c6d<|a0) Tryz.func65
theorem d3g:Ok0 184 c1l:=
 fo [] 1779 0 d6N (b1 b9q<|a0) Tryz.func184
theorem d8z:Ok0 96 c2B:=
 fo [] 13 2 H96 (b1 c6A<|b1 b9r<|b1 d3g<|a0) Tryz.func96
theorem d3h:Ok0 185 c2C:=
 fo [] 29 0 d6O (b1 c8B<|a0) Tryz.func185
theorem d8A:Ok0 97 c4h:=
 fo [] 199 0 H97 (b1 c8B<|b1 d3h<|a0) Tryz.func97
theorem c8C:Ok0 44 b8T:=
 fo [] 243 8 QH (b1 d1L<|b1 d8z<|b1 d8A<|a0) Tryz.func44
theorem d1M:Ok0 86 c4i:=
 fo [] 6653 2 H86 (b1 d1J<|b1 b9s<|b1 c8C<|b1 c6u<|a0) Tryz.func86
theorem d1N:Ok0 99 b6n:=
 fo [] 109 0 H99 a0 Tryz.func99
theorem d8B:Ok0 45 c4j:=
 fo [] 5629 2 H45 (b1 d1H<|b1 d1M<|b1 d1G<|b1 d1N<|a0) Tryz.func45
theorem d8C:Ok0 10 b8X:=
 fo [(13,.pair Q14 Q94),(76,.pair Q14 Q93)] 1431311 16 H10 (b1 d1J<|b1 b9s<|b1 b9q<|b1 d8v<|b1 d8y<|b1 c8C<|b1 d8B<|a0) Tryz.func10
theorem c9O:Ok0 134 c4k:=
 fo [] 5 0 QH a0 Tryz.func134
theorem d3i:Ok0 207 b8Y:=
 fo [] 253 0 d6P a0 Tryz.func207
theorem c9P:Ok0 135 b3U:=
 fo [] 243 0 d6Q (b1 d3i<|a0) Tryz.func135
theorem c9Q:Ok0 136 b3V:=
 fo [] 5 0 QH a0 Tryz.func136
theorem c6B:Ok0 137 b3v:=
 fo [] 5 0 d6R a0 Tryz.func137
theorem d3j:Ok0 208 b3w:=
 fo [] 51 0 d6S (b1 c6B<|a0) Tryz.func208
theorem d3k:Ok0 138 b3W:=
 fo [] 179 0 d6T (b1 c9I<|b1 d3j<|a0) Tryz.func138
theorem c9R:Ok0 139 b5m:=
 fo [] 5 0 QH a0 Tryz.func139
theorem d1O:Ok0 62 b7l:=
 fo [(4,.pair Q14 Q25)] 745 0 H62 (b1 b9s<|b1 d1N<|b1 c9O<|b1 c9P<|b1 c9Q<|b1 c6B<|b1 d3k<|b1 c9R<|a0) Tryz.func62
theorem d3l:Ok0 217 c4l:=
 fo [] 13 0 QH a0 Tryz.func217
theorem d3m:Ok0 151 b7m:=
 fo [(2,.pair QI Q76),(15,.pair QI Q75),(26,.pair QI Q75),(83,.pair QI Q75),(88,.pair QI Q75),(101,.pair QI Q75),(105,.pair QI Q75)] 4089 0 d6U (b1 c9H<|b1 c9O<|b1 c9P<|b1 c9Q<|b1 c6B<|b1 c9R<|b1 c9l<|b1 d3l<|a0) Tryz.func151
theorem d3n:Ok0 152 c5T:=
 fo [] 5 0 QH a0 Tryz.func152
theorem b4P:Ok0 156 b5n:=
 fo [] 5 0 QH a0 Tryz.func156
theorem c9S:Ok0 154 b3Z:=
 fo [] 5 0 d6V a0 Tryz.func154
theorem c6C:Ok0 223 b4a:=
 fo [] 19 0 QH a0 Tryz.func223
theorem b4Q:Ok0 283 b5o:=
 fo [] 51 0 d6W (b1 c9S<|b1 c6C<|a0) Tryz.func283
theorem c1O:Ok0 221 b2E:=
 fo [] 51 0 d6X (b1 b4Q<|a0) Tryz.func221
theorem d3o:Ok0 284 b8Z:=
 fo [] 115 0 d6Y (b1 b2G<|b1 c1O<|b1 b4Q<|a0) Tryz.func284
theorem d3p:Ok0 218 c1m:=
 fo [(2,.pair QI Q56)] 178258169 0 d6Z (b1 c1O<|b1 b4Q<|b1 d3o<|a0) Tryz.func218
theorem d3q:Ok0 368 b3x:=
 fo [] 115 0 d7a (b1 c6C<|a0) Tryz.func368
theorem d3r:Ok0 369 c1n:=
 fo [] 77 0 QH a0 Tryz.func369
theorem d3s:Ok0 359 c5U:=
 fo [] 499 0 d7b (b1 b4P<|b1 b4Q<|b1 d3q<|b1 d3r<|a0) Tryz.func359
theorem d3t:Ok0 330 c5V:=
 fo [] 1991 0 d7c (b1 b4P<|b1 c6w<|b1 d3s<|a0) Tryz.func330
theorem d3u:Ok0 288 c4m:=
 fo [] 4083 0 d7d (b1 b2G<|b1 b4P<|b1 c1O<|b1 b4Q<|b1 d3t<|a0) Tryz.func288
theorem d3v:Ok0 222 c4n:=
 fo [(11,.pair QI Q3),(41,.pair QI Q3)] 251783 0 d7e (b1 b4P<|b1 b7I<|b1 c6m<|b1 b4Q<|b1 d3u<|a0) Tryz.func222
theorem d3w:Ok0 153 c7r:=
 fo [(7,.pair QI (.pair QI (.pair QI (.pair QI (.pair QI (.pair QL (.pair (.arr 3 QI) (.pair (.list false Q5) Q27))))))))] 8035 0 d7f (b1 c9B<|b1 b2G<|b1 c6f<|b1 b4P<|b1 d3p<|b1 c6k<|b1 c6l<|b1 c1O<|b1 d3v<|a0) Tryz.func153
theorem d3x:Ok0 155 b3y:=
 fo [] 13 0 d7g (b1 c6C<|a0) Tryz.func155
theorem c8D:Ok0 72 c2D:=
 fo [(5,.pair QI Q78)] 6105 0 H72 (b1 d1E<|b1 d1I<|b1 d3m<|b1 d3n<|b1 d3w<|b1 c9S<|b1 d3x<|b1 b4P<|a0) Tryz.func72
theorem d1P:Ok0 63 b6o:=
 fo [] 110623 64 H63 (b1 c8D<|b1 c6u<|a0) Tryz.func63
theorem d8D:Ok0 17 c2E:=
 fo [(6,.pair Q14 Q94),(20,.pair Q14 Q93),(24,.pair Q14 Q93),(48,.pair Q14 Q93),(90,.pair Q14 Q93),(96,.pair Q14 Q93)] 5033 0 H17 (b1 c8C<|b1 d1O<|b1 d1P<|a0) Tryz.func17
theorem d8E:Ok0 64 c4o:=
 fo [(6,.pair QI Q9),(12,.pair QI Q7),(30,.pair QI Q7),(33,.pair QI Q7)] 291 12 H64 (b1 b9r<|b1 c6d<|b1 c7z<|a0) Tryz.func64
theorem d8F:Ok0 18 c2F:=
 fo [] 327603 8 H18 (b1 d1O<|b1 d1P<|b1 d8E<|b1 c6A<|a0) Tryz.func18
theorem c6D:Ok0 19 c1o:=
 fo [] 51 0 H19 a0 Tryz.func19
theorem d8G:Ok0 37 b7p:=
 fo [] 253 2 H37 (b1 c6A<|b1 d1M<|a0) Tryz.func37
theorem d8H:Ok0 38 c2G:=
 fo [] 115 4 H38 a0 Tryz.func38
theorem fs9:Ok0 9 c4p:=
 fo [] 4077 0 H9 (b1 d8C<|b1 d8D<|b1 d8F<|b1 c6D<|b1 d8G<|b1 d8H<|b1 d1L<|a0) Tryz.func9
theorem d8I:Ok0 71 c2H:=
 fo [] 435 0 H71 (b1 c8D<|a0) Tryz.func71
theorem d8J:Ok0 23 c2I:=
 fo [] 23485 0 H23 (b1 c6A<|b1 d8I<|b1 c8D<|b1 c6u<|a0) Tryz.func23
theorem d3y:Ok0 100 c8w:=
 fo [] 5 0 d7h a0 Tryz.func100
theorem d3z:Ok0 101 c7s:=
 fo [] 5 0 d7i a0 Tryz.func101
theorem d1Q:Ok0 47 c7t:=
 fo [] 19 0 QH (b1 d3y<|b1 d3z<|a0) Tryz.func47
theorem c9T:Ok0 186 c4q:=
 fo [] 13 0 d7j a0 Tryz.func186
theorem c9U:Ok0 102 b9b:=
 fo [] 29 2 d7k (b1 d1Q<|b1 c9T<|a0) Tryz.func102
theorem d8K:Ok0 46 c4s:=
 fo [] 5 2 QH a0 Tryz.func46
theorem c9V:Ok0 209 c1p:=
 fo [] 51 0 d7l a0 Tryz.func209
theorem c9W:Ok0 146 c1q:=
 fo [] 5 2 QH (b1 d8K<|b1 c9V<|a0) Tryz.func146
theorem c6E:Ok0 131 c1r:=
 fo [] 5 0 QH a0 Tryz.func131
theorem d3A:Ok0 215 b6q:=
 fo [] 51 0 d7m a0 Tryz.func215
theorem d3B:Ok0 216 b9c:=
 fo [] 19 12 QH (b1 c6D<|a0) Tryz.func216
theorem d3C:Ok0 150 c1s:=
 fo [] 19 12 QH (b1 c6D<|b1 d3A<|b1 d3B<|a0) Tryz.func150
theorem a9d:Ok0 249 c7u:=
 fo [] 5 0 QH a0 Tryz.func249
theorem b1r:Ok0 192 c2J:=
 fo [] 13 0 d7n (b1 a9d<|a0) Tryz.func192
theorem d3D:Ok0 210 c4t:=
 fo [] 36031004900589569 2 d7o a0 Tryz.func210
theorem c6F:Ok0 276 b7r:=
 fo [] 51 0 d7p a0 Tryz.func276
theorem c9X:Ok0 277 c1t:=
 fo [] 51 8 d7q a0 Tryz.func277
theorem c9Y:Ok0 322 b9d:=
 fo [] 5 2 QH a0 Tryz.func322
theorem c9Z:Ok0 278 b9e:=
 fo [] 13 0 d7r (b1 c9Y<|a0) Tryz.func278
theorem d0A:Ok0 211 c4u:=
 fo [] 1152921505680593555 4 d7s (b1 c6F<|b1 c9X<|b1 c9Z<|a0) Tryz.func211
theorem d0B:Ok0 272 c8x:=
 fo [] 19 0 QH a0 Tryz.func272
theorem c1P:Ok0 205 b7s:=
 fo [] 455 0 d7t (b1 d0B<|a0) Tryz.func205
theorem b7L:Ok0 273 b9f:=
 fo [] 5 0 QH a0 Tryz.func273
theorem d0C:Ok0 212 c1u:=
 fo [] 455 8 d7u (b1 c1P<|b1 b7L<|a0) Tryz.func212
theorem d3E:Ok0 323 c2K:=
 fo [] 5 0 QH a0 Tryz.func323
theorem d3F:Ok0 279 b7t:=
 fo [] 8135 0 d7v (b1 b1r<|b1 a9d<|b1 d3E<|a0) Tryz.func279
theorem d3G:Ok0 324 b5p:=
 fo [] 967 0 d7w (b1 a9d<|b1 c6F<|a0) Tryz.func324
theorem d3H:Ok0 280 b6r:=
 fo [] 7951 0 d7x (b1 b1r<|b1 a9d<|b1 c6F<|b1 d3G<|a0) Tryz.func280
theorem d3I:Ok0 325 b7u:=
 fo [] 967 32 d7y a0 Tryz.func325
theorem d3J:Ok0 281 b9g:=
 fo [] 1991 32 d7z (b1 b1r<|b1 a9d<|b1 c9X<|b1 d3I<|a0) Tryz.func281
theorem d3K:Ok0 326 b7v:=
 fo [(15,.pair QI Q16),(16,.pair QI Q16)] 13 2 d7A (b1 c9Y<|a0) Tryz.func326
theorem d0D:Ok0 357 c5W:=
 fo [] 5 0 QH a0 Tryz.func357
theorem d0E:Ok0 327 b4g:=
 fo [] 29 0 d7B (b1 d0D<|a0) Tryz.func327
theorem d3L:Ok0 358 c5X:=
 fo [] 77 0 QH a0 Tryz.func358
theorem d3M:Ok0 328 b5q:=
 fo [] 243 0 d7C (b1 d0E<|b1 d0D<|b1 d3L<|a0) Tryz.func328
theorem d3N:Ok0 282 b7w:=
 fo [] 4083 0 d7D (b1 b1r<|b1 a9d<|b1 c9Z<|b1 d3K<|b1 d0E<|b1 d3M<|a0) Tryz.func282
theorem d3O:Ok0 213 c5Y:=
 fo [] 144115192371347773 2 QH (b1 d3F<|b1 d3H<|b1 d3J<|b1 d3N<|a0) Tryz.func213
theorem d3P:Ok0 214 d1d:=
 fo [] 243 0 d7E (b1 a9d<|a0) Tryz.func214
theorem d0F:Ok0 147 c2L:=
 fo [] 8179 4 d7F (b1 c6E<|b1 d3C<|b1 b1r<|b1 d3D<|b1 d0A<|b1 d0C<|b1 d3O<|b1 d3P<|a0) Tryz.func147
theorem d3Q:Ok0 189 c5Z:=
 fo [] 51 0 d7G (b1 c9T<|b1 b1r<|b1 c9V<|a0) Tryz.func189
theorem d3R:Ok0 190 c2M:=
 fo [(18,.list true (.list true QI))] 29 0 d7H a0 Tryz.func190
theorem d3S:Ok0 191 c7v:=
 fo [] 199 16 d7I (b1 a9d<|a0) Tryz.func191
theorem d3T:Ok0 148 b9h:=
 fo [] 243 0 d7J (b1 d3Q<|b1 d3R<|b1 d3S<|a0) Tryz.func148
theorem d1R:Ok0 68 b6s:=
 fo [] 1017 2 H68 (b1 c9U<|b1 c9W<|b1 d0F<|b1 d3T<|a0) Tryz.func68
theorem d3U:Ok0 103 b9i:=
 fo [] 5 2 QH a0 Tryz.func103
theorem d8L:Ok0 69 c4v:=
 fo [] 61 2 H69 (b1 c9U<|b1 d3U<|a0) Tryz.func69
theorem d8M:Ok0 12 c7w:=
 fo [] 19 0 QH a0 Tryz.func12
theorem d3V:Ok0 112 c8y:=
 fo [] 115 0 d7K a0 Tryz.func112
theorem d3W:Ok0 141 b9j:=
 fo [] 5 0 QH a0 Tryz.func141
theorem d3X:Ok0 144 b6t:=
 fo [] 5 0 d7L a0 Tryz.func144
theorem d3Y:Ok0 142 b6u:=
 fo [] 51 0 d7M (b1 d3X<|a0) Tryz.func142
theorem d3Z:Ok0 143 b7x:=
 fo [] 243 0 d7N a0 Tryz.func143
theorem d4a:Ok0 168 c6a:=
 fo [] 61 0 d7O a0 Tryz.func168
theorem d0G:Ok0 227 c8z:=
 fo [] 13 0 d7P a0 Tryz.func227
theorem d4b:Ok0 160 c6b:=
 fo [(2,.pair QI Q77),(7,.pair QI Q76),(18,.pair QI Q75),(29,.pair QI Q75),(40,.pair QI Q75),(96,.pair QI Q75),(110,.pair QI Q75),(115,.pair QI Q75)] 2598684968407909558448516470177657 0 d7Q (b1 d3W<|b1 d3Y<|b1 d3Z<|b1 c9W<|b1 d4a<|b1 d0G<|a0) Tryz.func160
theorem d4c:Ok0 161 c2N:=
 fo [] 61 0 d7R a0 Tryz.func161
theorem d4d:Ok0 162 b9k:=
 fo [] 5 0 QH a0 Tryz.func162
theorem d4e:Ok0 126 c2O:=
 fo [] 115 4 QH (b1 d0F<|a0) Tryz.func126
theorem b7M:Ok0 127 c6c:=
 fo [] 29 0 d7S (b1 d1Q<|a0) Tryz.func127
theorem b7N:Ok0 128 b7y:=
 fo [] 199 0 d7T a0 Tryz.func128
theorem c6G:Ok0 130 b9l:=
 fo [] 71 0 d7U (b1 b7N<|a0) Tryz.func130
theorem d4f:Ok0 129 b7z:=
 fo [] 19 8 QH (b1 b7M<|b1 b7N<|b1 c6G<|a0) Tryz.func129
theorem d4g:Ok0 133 c8A:=
 fo [] 13 0 d7V a0 Tryz.func133
theorem d0H:Ok0 274 c7x:=
 fo [] 5 0 QH (b1 d4g<|b1 a9d<|a0) Tryz.func274
theorem d4h:Ok0 356 c1v:=
 fo [] 51 0 d7W (b1 a9d<|b1 b7L<|b1 d0H<|a0) Tryz.func356
theorem d4i:Ok0 321 c2P:=
 fo [] 115 0 d7X (b1 d4h<|a0) Tryz.func321
theorem d4j:Ok0 271 c1w:=
 fo [] 19 0 QH (b1 b7M<|b1 d4i<|a0) Tryz.func271
theorem d4k:Ok0 204 b9m:=
 fo [] 7951 16 d7Y (b1 b1r<|b1 c1P<|b1 d0C<|b1 d4j<|a0) Tryz.func204
theorem d4l:Ok0 275 b5r:=
 fo [] 51 0 d7Z a0 Tryz.func275
theorem d4m:Ok0 206 c2Q:=
 fo [] 967 0 d8a (b1 b7N<|b1 b1r<|b1 b7L<|b1 d0H<|b1 d4l<|a0) Tryz.func206
theorem d4n:Ok0 132 c1x:=
 fo [] 64543 64 d8b (b1 b7M<|b1 b7N<|b1 c6G<|b1 d4k<|b1 c1P<|b1 d4m<|a0) Tryz.func132
theorem d8N:Ok0 59 c2R:=
 fo [] 576478898540249543 16 H59 (b1 d4e<|b1 b7M<|b1 b7N<|b1 d4f<|b1 c6G<|b1 c6E<|b1 d4n<|a0) Tryz.func59
theorem c6H:Ok0 165 b6w:=
 fo [] 5 0 d8c a0 Tryz.func165
theorem c6I:Ok0 233 b7A:=
 fo [] 19 0 QH a0 Tryz.func233
theorem b4R:Ok0 228 b7B:=
 fo [] 115 0 d8d (b1 c6H<|b1 c6I<|a0) Tryz.func228
theorem d4o:Ok0 296 b4h:=
 fo [] 51 0 d8e (b1 b4R<|a0) Tryz.func296
theorem c6J:Ok0 230 b9n:=
 fo [] 455 0 d8f (b1 d4o<|a0) Tryz.func230
theorem d4p:Ok0 229 b7C:=
 fo [] 51 0 QH (b1 b4R<|b1 c6J<|a0) Tryz.func229
theorem d4q:Ok0 363 b5s:=
 fo [] 51 0 d8g (b1 c6H<|b1 c6I<|a0) Tryz.func363
theorem d4r:Ok0 364 c4w:=
 fo [] 5 0 QH (b1 d0G<|a0) Tryz.func364
theorem d4s:Ok0 345 c2S:=
 fo [] 4039 0 d8h (b1 b4R<|b1 b7L<|b1 d4q<|b1 d4r<|a0) Tryz.func345
theorem d4t:Ok0 297 c7y:=
 fo [] 967 0 d8i (b1 b7M<|b1 b4R<|b1 c6J<|b1 b7L<|b1 d4s<|a0) Tryz.func297
theorem d4u:Ok0 231 c1y:=
 fo [(9,.pair QI Q3),(24,.pair QI Q3)] 64903 0 d8j (b1 c1P<|b1 b4R<|b1 d0B<|b1 d4t<|a0) Tryz.func231
theorem d4v:Ok0 257 b7D:=
 fo [] 5 0 QH a0 Tryz.func257
theorem d4w:Ok0 232 b9o:=
 fo [] 199 0 d8k (b1 d4v<|a0) Tryz.func232
theorem d4x:Ok0 163 c2T:=
 fo [(7,.pair QI Q57),(24,.pair QI Q52),(35,.pair QI Q52),(103,.pair QI Q52),(113,.pair QI Q52),(124,.pair QI Q52),(142,.pair QI Q52),(148,.pair (.list true QV) .unit),(149,.pair (.list true QV) .unit),(162,.pair QI Q52)] 37778934257693487251299 0 d8l (b1 d8N<|b1 c6E<|b1 d0A<|b1 b4R<|b1 d4p<|b1 c6J<|b1 d4u<|b1 d4w<|a0) Tryz.func163
theorem d4y:Ok0 164 b5t:=
 fo [] 5 0 d8m (b1 c6I<|a0) Tryz.func164
theorem d4z:Ok0 166 b9p:=
 fo [] 21 2 QH (b1 d1R<|a0) Tryz.func166
theorem d1S:Ok0 75 b7E:=
 fo [(5,.pair QI Q78)] 12249 0 H75 (b1 d8M<|b1 d3V<|b1 d4b<|b1 d4c<|b1 d4d<|b1 d4x<|b1 d4y<|b1 c6H<|b1 d4z<|a0) Tryz.func75
theorem d8O:Ok0 74 b7F:=
 fo [] 435 0 H74 (b1 d1S<|a0) Tryz.func74
theorem d8P:Ok0 24 b7G:=
 fo [] 11965 0 H24 (b1 d1R<|b1 d8L<|b1 d8O<|b1 d1S<|a0) Tryz.func24
theorem d8Q:Ok0 25 b7H:=
 fo [] 51 0 H25 a0 Tryz.func25
theorem fs6:Ok0 6 a7K:=
 fo [] 125 0 QH (b1 fs9<|b1 c6D<|b1 d8J<|b1 d8P<|b1 d8Q<|a0) Tryz.func6
end Go.Ab
