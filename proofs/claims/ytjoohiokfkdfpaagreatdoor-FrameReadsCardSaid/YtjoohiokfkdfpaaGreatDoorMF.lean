/- Part of the proof: S. Conditions: as each statement tells. -/
import Derived.KernelRfl
import Derived.Test.YtjoohiokfkdfpaaGreatDoorME
noncomputable section
set_option linter.unusedSimpArgs false
set_option linter.unusedVariables false
namespace Go.Ab
variable {n:Nat}{s:FSem}
open Go.Proofs
set_option maxRecDepth 100000
theorem b0I:Tryz.prog.follows .mixedOrders=true:=by kernel_rfl
theorem d4t:B0d Tryz.prog b9A=true:=by kernel_rfl
theorem d4u:B0b Tryz.prog b9K=true:=by kernel_rfl
theorem d4v:A0y Tryz.prog b9A c3w=true:=by kernel_rfl
theorem laidOut:laidOutB Tryz.prog=true:=by kernel_rfl
@[reducible] def Ok0(n:Nat)(s:FSem):Prop:=i0y Tryz.prog G0 n s∧l0x Tryz.prog n
theorem cxo{a:List (Nat×FSem)}{b:List (Nat×Ty)}{c d:Nat}(h:∀p∈a,FOk Tryz.prog G0 p.1 p.2):CxOk Tryz.prog (b2E a b c d):=
 CxOk.of (CxTy.of (tab:=b9A) (l:=c3w) (q:=b9K) (fun _=>rfl) (fun _=>rfl) (fun _=>rfl) d4t d4u d4v) (fun _=>rfl) h
theorem b1{l:List (Nat×FSem)}(h:Ok0 n s)(g:∀p∈l,FOk Tryz.prog G0 p.1 p.2):∀p∈(n,s)::l,FOk Tryz.prog G0 p.1 p.2:=a1 (a:=(n,s)) h g
theorem b2{l:List (Nat×FSem)}(h:A0f Tryz.prog G0 n s)(g:∀p∈l,FOk Tryz.prog G0 p.1 p.2):∀p∈(n,s)::l,FOk Tryz.prog G0 p.1 p.2:=B0g (a:=(n,s)) h g
theorem fo{a:List (Nat × FSem)}(b : List (Nat × Ty))(c d : Nat)(H : Hints){fn:Func}{e:Code}(h : ∀ p ∈ a, FOk Tryz.prog G0 p.1 p.2)(hf : Tryz.prog.funcs[n]? = some fn)(hb : fn.body = some e :=by rfl)(hk : A0m fn e H s = true :=by kernel_rfl)(hn : (fn.name == "runtime.NumGoroutine") = false :=by kernel_rfl)(hq : ∀ x, A0j (b2E a b c d) H fn s.ps s.rs x = s.F x :=by intro x; kernel_rfl): Ok0 n s :=
 ⟨i0y.of (cxo h) b0I hf hb hk hq,⟨_,_,hf,hb,hn⟩⟩
theorem c5W:Ok0 60 b8z:=
 fo [] 21 0 H60 a0 Tryz.func60
theorem c6G:Ok0 138 b8A:=
 fo [] 5 0 QH a0 Tryz.func138
theorem c8i:Ok0 61 b8B:=
 fo [] 371 0 H61 (b1 c6G<|a0) Tryz.func61
theorem c8Q:Ok0 139 a1m:=
 ⟨i0y.of (cx:=a7x) (cxo a0) b0I Tryz.func139 rfl (by kernel_rfl) c8N,⟨_,_,Tryz.func139,rfl,by kernel_rfl⟩⟩
theorem c8j:Ok0 62 b5u:=
 fo [] 45 0 H62 (b1 c8Q<|a0) Tryz.func62
theorem c3P:Ok0 199 b9N:=
 fo [] 83 0 d2b a0 Tryz.func199
theorem c3Q:Ok0 200 c3y:=
 fo [] 83 8 d2c a0 Tryz.func200
theorem c6H:Ok0 268 b8C:=
 fo [] 5 2 QH a0 Tryz.func268
theorem c3R:Ok0 201 b4i:=
 fo [] 5 0 d2d (b1 c6H<|a0) Tryz.func201
theorem c3S:Ok0 129 c4J:=
 fo [] 4611688217584863559 16 d2e (b1 c3P<|b1 c3Q<|b1 c3R<|a0) Tryz.func129
theorem b6i:Ok0 192 a1E:=
 ⟨i0y.of (cx:=c6E) (cxo a0) b0I Tryz.func192 rfl (by kernel_rfl) c8O,⟨_,_,Tryz.func192,rfl,by kernel_rfl⟩⟩
theorem c8k:Ok0 192 a2a:=
 ⟨i0y.of (cx:=c4K) (cxo a0) b0I Tryz.func192 rfl (by kernel_rfl) c8e,⟨_,_,Tryz.func192,rfl,by kernel_rfl⟩⟩
theorem c8l:Ok0 204 a1l:=
 ⟨i0y.of (cx:=c4L) (cxo a0) b0I Tryz.func204 rfl (by kernel_rfl) c8f,⟨_,_,Tryz.func204,rfl,by kernel_rfl⟩⟩
theorem c6I:Ok0 134 b9O:=
 fo [] 43523 8 d2f (b1 c8k<|b1 c8l<|a0) Tryz.func134
theorem c3T:Ok0 130 b9P:=
 fo [] 70291 4 d2g a0 Tryz.func130
theorem c6J:Ok0 239 b9Q:=
 fo [] 21 0 d2h a0 Tryz.func239
theorem c6K:Ok0 205 b9R:=
 fo [] 243 0 d2i (b1 c6J<|a0) Tryz.func205
theorem c3U:Ok0 243 b8D:=
 fo [] 5 0 QH a0 Tryz.func243
theorem c3V:Ok0 241 b4J:=
 fo [] 21 0 d2j (b1 c3U<|a0) Tryz.func241
theorem c6L:Ok0 242 b4K:=
 fo [] 1991 0 d2k a0 Tryz.func242
theorem c8R:Ok0 206 b8E:=
 fo [] 1991 0 d2l (b1 c3P<|b1 c3V<|b1 c6L<|b1 c3U<|a0) Tryz.func206
theorem c3W:Ok0 246 c1F:=
 fo [] 5 0 QH a0 Tryz.func246
theorem c3X:Ok0 244 b6Z:=
 fo [] 21 0 d2m (b1 c3W<|a0) Tryz.func244
theorem c6M:Ok0 245 b7a:=
 fo [] 7951 128 d2n a0 Tryz.func245
theorem c3Y:Ok0 207 c1G:=
 fo [] 4039 32 d2o (b1 c3Q<|b1 c3X<|b1 c6M<|b1 c3W<|a0) Tryz.func207
theorem c3Z:Ok0 251 b2H:=
 fo [] 5 0 QH a0 Tryz.func251
theorem c6N:Ok0 247 b0C:=
 fo [] 21 0 d2p (b1 c3Z<|a0) Tryz.func247
theorem c6O:Ok0 249 b4j:=
 fo [(15,.pair QI Q11),(16,.pair QI Q11)] 13 2 d2q (b1 c6H<|a0) Tryz.func249
theorem c6P:Ok0 292 b5x:=
 fo [] 5 0 QH a0 Tryz.func292
theorem c4a:Ok0 250 a7A:=
 fo [] 61 0 d2r (b1 c6P<|a0) Tryz.func250
theorem c6Q:Ok0 252 a8c:=
 fo [] 4202995 0 d2s (b1 c4a<|b1 c6P<|a0) Tryz.func252
theorem c8S:Ok0 208 b9S:=
 fo [] 15987 0 d2t (b1 b6i<|b1 c3R<|b1 c6N<|b1 c6O<|b1 c4a<|b1 c3Z<|b1 c6Q<|a0) Tryz.func208
theorem c8T:Ok0 135 c1H:=
 fo [] 147573952727119562867 0 d2u (b1 c3T<|b1 b6i<|b1 c6K<|b1 c8R<|b1 c3Y<|b1 c8S<|a0) Tryz.func135
theorem c4b:Ok0 202 c1I:=
 fo [] 19 0 QH a0 Tryz.func202
theorem b6j:Ok0 194 b8F:=
 fo [] 455 0 d2v (b1 c4b<|a0) Tryz.func194
theorem c6R:Ok0 158 c1J:=
 fo [] 711 8 d2w (b1 b6j<|a0) Tryz.func158
theorem c6S:Ok0 209 b8G:=
 fo [] 327 0 d2x (b1 c4b<|a0) Tryz.func209
theorem c8U:Ok0 178 b9T:=
 fo [] 5 0 d2y a0 Tryz.func178
theorem c8V:Ok0 179 b8H:=
 fo [] 5 0 d2z a0 Tryz.func179
theorem c5X:Ok0 87 b8I:=
 fo [] 19 0 QH (b1 c8U<|b1 c8V<|a0) Tryz.func87
theorem b1P:Ok0 111 b7c:=
 fo [] 45 0 d2A (b1 c5X<|a0) Tryz.func111
theorem c6T:Ok0 262 c1K:=
 fo [] 5 0 QH (b1 b1P<|a0) Tryz.func262
theorem c4c:Ok0 264 b4N:=
 fo [] 5 0 QH a0 Tryz.func264
theorem c4d:Ok0 265 c1L:=
 fo [] 5 0 QH a0 Tryz.func265
theorem c6U:Ok0 266 c1M:=
 fo [] 141 0 QH (b1 c4d<|a0) Tryz.func266
theorem c8W:Ok0 304 c1N:=
 fo [] 51 0 d2B (b1 c4c<|b1 c4d<|b1 c6U<|a0) Tryz.func304
theorem c4e:Ok0 263 c3z:=
 fo [] 179 0 d2C (b1 c8W<|a0) Tryz.func263
theorem c6V:Ok0 193 b9U:=
 fo [] 7951 16 d2D (b1 c6R<|b1 b6j<|b1 c6S<|b1 c6T<|b1 c4e<|a0) Tryz.func193
theorem c8X:Ok0 270 c1O:=
 fo [] 125 0 d2E (b1 c4e<|a0) Tryz.func270
theorem c8Y:Ok0 210 b7e:=
 fo [] 13 0 QH (b1 c6T<|b1 c4e<|b1 c8X<|a0) Tryz.func210
theorem c8Z:Ok0 136 b9V:=
 fo [(14,.pair QI Q3),(40,.pair QI Q3)] 440847 0 d2F (b1 c6V<|b1 b6j<|b1 c6S<|b1 c8Y<|a0) Tryz.func136
theorem d4w:Ok0 58 c3A:=
 fo [] 14727 32 H58 (b1 c5W<|b1 c8i<|b1 c8j<|b1 c3S<|b1 c6I<|b1 c8T<|b1 c8Z<|a0) Tryz.func58
theorem c4f:Ok0 115 b9W:=
 fo [] 5 0 QH a0 Tryz.func115
theorem c9a:Ok0 157 c1P:=
 fo [] 5 2 QH (b1 c6I<|a0) Tryz.func157
theorem d4x:Ok0 75 b9X:=
 fo [] 51 4 H75 (b1 c5W<|b1 c4f<|b1 c3S<|b1 c3T<|b1 c9a<|b1 c6R<|a0) Tryz.func75
theorem c9b:Ok0 290 b5E:=
 fo [] 11 0 QH a0 Tryz.func290
theorem c9c:Ok0 240 b8L:=
 fo [] 4296020275 0 QH (b1 c9b<|a0) Tryz.func240
theorem c9d:Ok0 159 b9Y:=
 fo [] 3527 0 d2G (b1 c6J<|b1 c9c<|a0) Tryz.func159
theorem c9e:Ok0 160 b8M:=
 fo [] 14095 0 d2H (b1 c3P<|b1 c3V<|b1 c6L<|b1 c3U<|a0) Tryz.func160
theorem c9f:Ok0 161 c1Q:=
 fo [] 4039 32 d2I (b1 c3Q<|b1 c3X<|b1 c6M<|b1 c3W<|a0) Tryz.func161
theorem c9g:Ok0 162 a7F:=
 ⟨i0y.ofR (cx:=c6F) (cxo (a1 b6i (a1 c3R (a1 c6N (a1 c6O (a1 c4a (a1 c3Z (a1 c6Q a0)))))))) b0I (r:=c8g) ⟨c7A,c7B⟩ Tryz.func162 rfl (by kernel_rfl) c8P,⟨_,_,Tryz.func162,rfl,by kernel_rfl⟩⟩
theorem c9h:Ok0 163 c1R:=
 fo [] 371 0 d2K (b1 c6G<|a0) Tryz.func163
theorem d4y:Ok0 76 c3B:=
 fo [] 604462927822812893676787 4 H76 (b1 c9d<|b1 c9e<|b1 c9f<|b1 c9g<|b1 c9h<|a0) Tryz.func76
theorem c8m:Ok0 24 c4M:=
 fo [] 243 4 QH (b1 d4x<|b1 d4y<|a0) Tryz.func24
theorem c6W:Ok0 110 c4N:=
 fo [] 115 4 QH (b1 c8m<|a0) Tryz.func110
theorem c4g:Ok0 117 b3N:=
 fo [] 3 0 d2L a0 Tryz.func117
theorem b6k:Ok0 112 b3O:=
 fo [] 199 0 d2M (b1 c4g<|a0) Tryz.func112
theorem c6X:Ok0 113 b5F:=
 fo [] 7 0 QH (b1 b6k<|a0) Tryz.func113
theorem c9i:Ok0 114 b7f:=
 fo [] 83 8 d2N (b1 b1P<|b1 b6k<|b1 c6X<|a0) Tryz.func114
theorem c9j:Ok0 267 b2u:=
 fo [] 19 0 d2O (b1 c4g<|a0) Tryz.func267
theorem c9k:Ok0 195 c3C:=
 fo [] 7495 0 d2P (b1 b6k<|b1 c4c<|b1 c4d<|b1 c6U<|b1 c9j<|a0) Tryz.func195
theorem c9l:Ok0 116 c1S:=
 fo [] 97311 64 d2Q (b1 b1P<|b1 b6k<|b1 c6V<|b1 b6j<|b1 c9k<|a0) Tryz.func116
theorem c8n:Ok0 45 c4O:=
 fo [] 11682311054023 16 H45 (b1 c6W<|b1 b1P<|b1 b6k<|b1 c6X<|b1 c9i<|b1 c4f<|b1 c9l<|a0) Tryz.func45
theorem c9m:Ok0 137 b3Q:=
 fo [] 5 0 QH a0 Tryz.func137
theorem d4z:Ok0 59 c3D:=
 fo [(5,.pair (.list true QV) Q0)] 19 4 QH (b1 c8n<|b1 c9m<|a0) Tryz.func59
theorem c9n:Ok0 211 b8P:=
 fo [] 243 0 d2R a0 Tryz.func211
theorem c9o:Ok0 140 c0C:=
 fo [] 509 0 d2S (b1 c6K<|b1 c9n<|a0) Tryz.func140
theorem c6Y:Ok0 273 b7i:=
 fo [] 5 0 QH a0 Tryz.func273
theorem c9p:Ok0 271 b5J:=
 fo [] 493 0 d2T (b1 c6Y<|a0) Tryz.func271
theorem c9q:Ok0 272 b2v:=
 fo [] 1991 0 d2U a0 Tryz.func272
theorem c9r:Ok0 212 b4P:=
 fo [] 16371 0 d2V (b1 b6i<|b1 c3V<|b1 c9p<|b1 c9q<|b1 c6Y<|a0) Tryz.func212
theorem c9s:Ok0 213 b7j:=
 fo [] 4077 0 d2W a0 Tryz.func213
theorem c9t:Ok0 214 b7k:=
 fo [] 28531 0 d2X (b1 c5X<|a0) Tryz.func214
theorem c6Z:Ok0 142 b8Q:=
 fo [] 4039 0 QH (b1 c9r<|b1 c9s<|b1 c9t<|a0) Tryz.func142
theorem c9u:Ok0 215 c1T:=
 fo [] 16327 0 d2Y (b1 c3X<|a0) Tryz.func215
theorem c9v:Ok0 274 c0D:=
 fo [] 1 0 QH a0 Tryz.func274
theorem c9w:Ok0 216 c1U:=
 fo [] 47523 0 d2Z (b1 c3Y<|b1 c9v<|a0) Tryz.func216
theorem c9x:Ok0 143 c0E:=
 fo [] 953 0 QH (b1 c6Z<|b1 c3Y<|b1 c9u<|b1 c9w<|a0) Tryz.func143
theorem c9y:Ok0 141 b2R:=
 fo [] 463 0 QH (b1 c6Z<|a0) Tryz.func141
theorem d4A:Ok0 63 b4Q:=
 fo [(5,.list true Q50)] 851 147573952589676412928 H63 (b1 c9o<|b1 c9y<|b1 c9x<|a0) Tryz.func63
theorem d4B:Ok0 19 c3E:=
 fo [] 50915 0 H19 (b1 d4w<|b1 d4z<|b1 c5W<|b1 c8i<|b1 c8j<|b1 d4A<|a0) Tryz.func19
theorem c8o:Ok0 41 c1V:=
 fo [] 5 2 QH a0 Tryz.func41
theorem c7a:Ok0 104 b8S:=
 fo [] 5 0 QH a0 Tryz.func104
theorem c5Y:Ok0 39 c1W:=
 fo [] 85 2 H39 (b1 c8o<|b1 c5X<|b1 c7a<|a0) Tryz.func39
theorem c8p:Ok0 40 b8T:=
 fo [] 5 2 QH (b1 c7a<|a0) Tryz.func40
theorem c7b:Ok0 191 c1X:=
 fo [] 5 0 QH a0 Tryz.func191
theorem c4h:Ok0 106 b4q:=
 fo [] 85 0 d3a (b1 c7b<|a0) Tryz.func106
theorem c4i:Ok0 107 b5L:=
 fo [] 19 0 d3b a0 Tryz.func107
theorem c7c:Ok0 108 b2h:=
 fo [(15,.list true (.list true QI))] 45 0 d3c (b1 b6i<|a0) Tryz.func108
theorem c7d:Ok0 109 b2S:=
 fo [] 967 16 d3d (b1 c7b<|a0) Tryz.func109
theorem c8q:Ok0 43 c4P:=
 fo [] 115 0 H43 (b1 c4h<|b1 c4i<|b1 c7c<|b1 c7d<|a0) Tryz.func43
theorem c9z:Ok0 189 b8U:=
 fo [] 237 0 d3e (b1 c4h<|a0) Tryz.func189
theorem c9A:Ok0 190 c0G:=
 fo [] 135445 0 QH a0 Tryz.func190
theorem c9B:Ok0 105 c1Y:=
 fo [] 509 0 d3f (b1 c8q<|b1 c9z<|b1 c9A<|a0) Tryz.func105
theorem d4C:Ok0 42 c1Z:=
 fo [] 29 2 H42 (b1 c5Y<|b1 c9B<|a0) Tryz.func42
theorem d4D:Ok0 12 c0H:=
 fo [(10,.pair QI Q67),(52,.pair QI Q64),(57,.pair QI Q64),(63,.pair QI Q64),(79,.pair QI Q64),(95,.pair QI Q64)] 88591 48 H12 (b1 d4B<|b1 c5Y<|b1 c8p<|b1 c8o<|b1 d4C<|b1 c8q<|a0) Tryz.func12
theorem c8r:Ok0 72 b8V:=
 fo [] 5 2 QH (b1 c8p<|b1 c4i<|a0) Tryz.func72
theorem d4E:Ok0 73 a8C:=
 ⟨i0y.ofR (cx:=c8h) (cxo (a1 c4h (a1 c4i (a1 c7c (a1 c7d a0))))) b0I (r:=R73) ⟨c7C,c7D⟩ Tryz.func73 rfl (by kernel_rfl) d3g,⟨_,_,Tryz.func73,rfl,by kernel_rfl⟩⟩
theorem c8s:Ok0 22 b8W:=
 fo [] 1945 2 H22 (b1 c8m<|b1 c5Y<|b1 c8r<|b1 d4E<|a0) Tryz.func22
theorem c8t:Ok0 44 c2a:=
 fo [] 21 2 QH (b1 c8s<|a0) Tryz.func44
theorem d4F:Ok0 46 b2z:=
 fo [] 1 0 H46 (b1 c4g<|a0) Tryz.func46
theorem d4G:Ok0 47 b2A:=
 fo [] 5 0 QH a0 Tryz.func47
theorem c9C:Ok0 118 c2b:=
 fo [] 5 0 QH a0 Tryz.func118
theorem c9D:Ok0 119 c2c:=
 fo [] 45 0 d3h a0 Tryz.func119
theorem c7e:Ok0 120 c0I:=
 fo [] 109 0 d3i a0 Tryz.func120
theorem d4H:Ok0 48 b5N:=
 fo [] 307 4 H48 (b1 c9C<|b1 c9D<|b1 c7e<|a0) Tryz.func48
theorem c9E:Ok0 181 b8X:=
 fo [] 5 0 QH a0 Tryz.func181
theorem d4I:Ok0 91 b8Y:=
 fo [] 51 0 H91 (b1 c9E<|a0) Tryz.func91
theorem c9F:Ok0 121 a8b:=⟨c5G _,⟨_,_,Tryz.func121,rfl,by kernel_rfl⟩⟩
theorem d4J:Ok0 49 c2d:=
 fo [] 51 0 QH (b1 d4I<|b1 c9F<|a0) Tryz.func49
theorem c8u:Ok0 50 b7u:=
 fo [] 109 0 H50 a0 Tryz.func50
theorem d4K:Ok0 13 c2e:=
 fo [(4,.pair (.list true QV) Q0)] 909 2 H13 (b1 c8t<|b1 c8n<|b1 d4F<|b1 d4G<|b1 d4H<|b1 d4J<|b1 c8u<|a0) Tryz.func13
theorem c9G:Ok0 122 c2f:=
 fo [] 5 0 QH a0 Tryz.func122
theorem c9H:Ok0 196 b7w:=
 fo [] 253 0 d3j a0 Tryz.func196
theorem c9I:Ok0 123 b2W:=
 fo [] 243 0 d3k (b1 c9H<|a0) Tryz.func123
theorem c9J:Ok0 124 c2g:=
 fo [] 13 0 QH a0 Tryz.func124
theorem c9K:Ok0 125 b2X:=
 fo [] 5 0 QH a0 Tryz.func125
theorem c9L:Ok0 126 b2B:=
 fo [] 5 0 d3l a0 Tryz.func126
theorem c9M:Ok0 127 b3X:=
 fo [] 5 0 QH a0 Tryz.func127
theorem c8v:Ok0 51 b5O:=
 fo [(2,.pair QI Q65),(15,.pair QI Q64),(26,.pair QI Q64),(83,.pair QI Q64),(88,.pair QI Q64),(101,.pair QI Q64),(105,.pair QI Q64)] 4089 0 H51 (b1 c8r<|b1 c7e<|b1 c9G<|b1 c9I<|b1 c9J<|b1 c9K<|b1 c9L<|b1 c9M<|a0) Tryz.func51
theorem d4L:Ok0 52 c3F:=
 fo [] 5 0 QH a0 Tryz.func52
theorem b7N:Ok0 56 b3Y:=
 fo [] 5 0 QH a0 Tryz.func56
theorem c8w:Ok0 54 b2Y:=
 fo [] 5 0 H54 a0 Tryz.func54
theorem c4j:Ok0 133 b2Z:=
 fo [] 19 0 QH a0 Tryz.func133
theorem b3I:Ok0 197 b3Z:=
 fo [] 51 0 d3m (b1 c8w<|b1 c4j<|a0) Tryz.func197
theorem b9B:Ok0 131 b1N:=
 fo [] 51 0 d3n (b1 b3I<|a0) Tryz.func131
theorem c9N:Ok0 198 b7x:=
 fo [] 115 0 d3o (b1 b1P<|b1 b9B<|b1 b3I<|a0) Tryz.func198
theorem c9O:Ok0 128 b8Z:=
 fo [(2,.pair QI Q45)] 178258169 0 d3p (b1 b9B<|b1 b3I<|b1 c9N<|a0) Tryz.func128
theorem c9P:Ok0 321 b2C:=
 fo [] 115 0 d3q (b1 c4j<|a0) Tryz.func321
theorem c9Q:Ok0 322 b9a:=
 fo [] 77 0 QH a0 Tryz.func322
theorem c9R:Ok0 305 c3G:=
 fo [] 499 0 d3r (b1 b7N<|b1 b3I<|b1 c9P<|b1 c9Q<|a0) Tryz.func305
theorem c9S:Ok0 269 c3H:=
 fo [] 1991 0 d3s (b1 b7N<|b1 c4c<|b1 c9R<|a0) Tryz.func269
theorem c9T:Ok0 203 c2h:=
 fo [] 4083 0 d3t (b1 b7N<|b1 b1P<|b1 b9B<|b1 b3I<|b1 c9S<|a0) Tryz.func203
theorem c9U:Ok0 132 c2i:=
 fo [(11,.pair QI Q3),(41,.pair QI Q3)] 251783 0 d3u (b1 b7N<|b1 b6j<|b1 b3I<|b1 c4b<|b1 c9T<|a0) Tryz.func132
theorem d4M:Ok0 53 c4Q:=
 fo [(7,.pair QI (.pair QI (.pair QI (.pair QI (.pair QI (.pair QL (.pair (.arr 3 QI) (.pair (.list false Q5) Q18))))))))] 8035 0 H53 (b1 b7N<|b1 c6W<|b1 b1P<|b1 c4f<|b1 c9O<|b1 c3S<|b1 c3T<|b1 b9B<|b1 c9U<|a0) Tryz.func53
theorem d4N:Ok0 55 b2D:=
 fo [] 13 0 H55 (b1 c4j<|a0) Tryz.func55
theorem c5Z:Ok0 15 c0J:=
 fo [(5,.pair QI Q67)] 6105 0 H15 (b1 c8t<|b1 c8u<|b1 c8v<|b1 d4L<|b1 d4M<|b1 c8w<|b1 d4N<|b1 b7N<|a0) Tryz.func15
theorem c6a:Ok0 25 b9b:=
 fo [] 51 0 H25 a0 Tryz.func25
theorem d4O:Ok0 70 b4U:=
 fo [] 51 0 H70 a0 Tryz.func70
theorem d4P:Ok0 71 b7y:=
 fo [] 19 12 QH (b1 c6a<|a0) Tryz.func71
theorem c8x:Ok0 21 b9c:=
 fo [] 19 12 QH (b1 c6a<|b1 d4O<|b1 d4P<|a0) Tryz.func21
theorem d4Q:Ok0 57 b5P:=
 fo [] 51 0 H57 a0 Tryz.func57
theorem c8y:Ok0 16 b5Q:=
 fo [] 51 12 H16 (b1 c8x<|b1 d4Q<|a0) Tryz.func16
theorem d4R:Ok0 74 b7z:=
 fo [] 51 0 H74 (b1 c6a<|a0) Tryz.func74
theorem d4S:Ok0 23 b5R:=
 fo [] 19 12 QH (b1 d4R<|a0) Tryz.func23
theorem c8z:Ok0 27 c0K:=
 fo [] 953 0 H27 (b1 c8v<|a0) Tryz.func27
theorem d4T:Ok0 36 c0L:=
 fo [] 435 0 H36 (b1 c5Z<|a0) Tryz.func36
theorem fs9:Ok0 9 c2j:=
 fo [] 60273 0 QH (b1 d4D<|b1 d4K<|b1 c5Z<|b1 c8y<|b1 c8s<|b1 d4S<|b1 c8z<|b1 d4T<|a0) Tryz.func9
theorem d4U:Ok0 17 c4R:=
 fo [] 19 0 QH a0 Tryz.func17
theorem c9V:Ok0 164 b7A:=
 fo [] 5 0 QH a0 Tryz.func164
theorem c9W:Ok0 253 b4V:=
 fo [] 5 0 d3v a0 Tryz.func253
theorem c9X:Ok0 165 b4W:=
 fo [] 51 0 d3w (b1 c9W<|a0) Tryz.func165
theorem c9Y:Ok0 166 b5T:=
 fo [] 243 0 d3x a0 Tryz.func166
theorem c7f:Ok0 167 c5R:=
 fo [] 13 0 d3y a0 Tryz.func167
theorem c9Z:Ok0 168 c3I:=
 fo [] 61 0 d3z a0 Tryz.func168
theorem d0A:Ok0 177 c2k:=
 fo [] 5 2 QH a0 Tryz.func177
theorem c7g:Ok0 254 b9d:=
 fo [] 51 0 d3A a0 Tryz.func254
theorem c7h:Ok0 169 b9e:=
 fo [] 5 2 QH (b1 d0A<|b1 c7g<|a0) Tryz.func169
theorem c8A:Ok0 77 c3J:=
 fo [(2,.pair QI Q66),(7,.pair QI Q65),(18,.pair QI Q64),(29,.pair QI Q64),(40,.pair QI Q64),(96,.pair QI Q64),(110,.pair QI Q64),(115,.pair QI Q64)] 2598684968407909558448516470177657 0 H77 (b1 c9V<|b1 c9X<|b1 c9Y<|b1 c7f<|b1 c9Z<|b1 c7h<|a0) Tryz.func77
theorem d4V:Ok0 78 c5S:=
 fo [] 115 0 H78 a0 Tryz.func78
theorem d4W:Ok0 79 c0M:=
 fo [] 61 0 H79 a0 Tryz.func79
theorem d4X:Ok0 80 b7B:=
 fo [] 5 0 QH a0 Tryz.func80
theorem c4k:Ok0 223 b5U:=
 fo [] 51 0 d3B a0 Tryz.func223
theorem c7i:Ok0 224 b9f:=
 fo [] 51 8 d3C a0 Tryz.func224
theorem c7j:Ok0 280 b7C:=
 fo [] 5 2 QH a0 Tryz.func280
theorem c7k:Ok0 225 b7D:=
 fo [] 13 0 d3D (b1 c7j<|a0) Tryz.func225
theorem c7l:Ok0 149 c2l:=
 fo [] 1152921505680593555 4 d3E (b1 c4k<|b1 c7i<|b1 c7k<|a0) Tryz.func149
theorem c4l:Ok0 152 b9g:=
 fo [] 5 0 QH a0 Tryz.func152
theorem a8H:Ok0 144 c4S:=
 fo [] 5 0 QH a0 Tryz.func144
theorem b3e:Ok0 64 c0N:=
 fo [] 13 0 H64 (b1 a8H<|a0) Tryz.func64
theorem c7m:Ok0 228 c5T:=
 fo [] 19 0 QH a0 Tryz.func228
theorem b9C:Ok0 229 b5V:=
 fo [] 455 0 d3F (b1 c7m<|a0) Tryz.func229
theorem b6l:Ok0 293 b7E:=
 fo [] 5 0 QH a0 Tryz.func293
theorem c7n:Ok0 288 b9h:=
 fo [] 455 8 d3G (b1 b9C<|b1 b6l<|a0) Tryz.func288
theorem d0B:Ok0 295 c2m:=
 fo [] 36031004900589569 2 d3H a0 Tryz.func295
theorem d0C:Ok0 327 c0O:=
 fo [] 5 0 QH a0 Tryz.func327
theorem d0D:Ok0 316 b5W:=
 fo [] 8135 0 d3I (b1 b3e<|b1 a8H<|b1 d0C<|a0) Tryz.func316
theorem d0E:Ok0 281 b4b:=
 fo [] 967 0 d3J (b1 a8H<|b1 c4k<|a0) Tryz.func281
theorem d0F:Ok0 317 b4X:=
 fo [] 7951 0 d3K (b1 b3e<|b1 a8H<|b1 c4k<|b1 d0E<|a0) Tryz.func317
theorem d0G:Ok0 279 b5X:=
 fo [] 967 32 d3L a0 Tryz.func279
theorem d0H:Ok0 318 b7F:=
 fo [] 1991 32 d3M (b1 b3e<|b1 a8H<|b1 c7i<|b1 d0G<|a0) Tryz.func318
theorem d0I:Ok0 282 b5Y:=
 fo [(15,.pair QI Q11),(16,.pair QI Q11)] 13 2 d3N (b1 c7j<|a0) Tryz.func282
theorem c7o:Ok0 309 c3K:=
 fo [] 5 0 QH a0 Tryz.func309
theorem c7p:Ok0 283 b3b:=
 fo [] 29 0 d3O (b1 c7o<|a0) Tryz.func283
theorem d0J:Ok0 310 c3L:=
 fo [] 77 0 QH a0 Tryz.func310
theorem d0K:Ok0 284 b4c:=
 fo [] 243 0 d3P (b1 c7p<|b1 c7o<|b1 d0J<|a0) Tryz.func284
theorem d0L:Ok0 319 b5Z:=
 fo [] 4083 0 d3Q (b1 b3e<|b1 a8H<|b1 c7k<|b1 d0I<|b1 c7p<|b1 d0K<|a0) Tryz.func319
theorem d0M:Ok0 296 c3M:=
 fo [] 144115192371347773 2 QH (b1 d0D<|b1 d0F<|b1 d0H<|b1 d0L<|a0) Tryz.func296
theorem d0N:Ok0 297 c7L:=
 fo [] 243 0 d3R (b1 a8H<|a0) Tryz.func297
theorem c7q:Ok0 257 c0P:=
 fo [] 8179 4 d3S (b1 c8x<|b1 b3e<|b1 c7l<|b1 c4l<|b1 c7n<|b1 d0B<|b1 d0M<|b1 d0N<|a0) Tryz.func257
theorem d0O:Ok0 232 c0Q:=
 fo [] 115 4 QH (b1 c7q<|a0) Tryz.func232
theorem d0P:Ok0 102 c5U:=
 fo [] 5 0 d3T a0 Tryz.func102
theorem d0Q:Ok0 103 c4T:=
 fo [] 5 0 d3U a0 Tryz.func103
theorem c8B:Ok0 38 c4U:=
 fo [] 19 0 QH (b1 d0P<|b1 d0Q<|a0) Tryz.func38
theorem b6m:Ok0 233 c3N:=
 fo [] 29 0 d3V (b1 c8B<|a0) Tryz.func233
theorem b6n:Ok0 234 b6a:=
 fo [] 199 0 d3W a0 Tryz.func234
theorem c4m:Ok0 236 b7G:=
 fo [] 71 0 d3X (b1 b6n<|a0) Tryz.func236
theorem d0R:Ok0 235 b6b:=
 fo [] 19 8 QH (b1 b6m<|b1 b6n<|b1 c4m<|a0) Tryz.func235
theorem d0S:Ok0 326 c5V:=
 fo [] 13 0 d3Y a0 Tryz.func326
theorem c7r:Ok0 312 c4V:=
 fo [] 5 0 QH (b1 a8H<|b1 d0S<|a0) Tryz.func312
theorem d0T:Ok0 311 b9i:=
 fo [] 51 0 d3Z (b1 a8H<|b1 b6l<|b1 c7r<|a0) Tryz.func311
theorem d0U:Ok0 287 c0R:=
 fo [] 115 0 d4a (b1 d0T<|a0) Tryz.func287
theorem d0V:Ok0 286 b9j:=
 fo [] 19 0 QH (b1 b6m<|b1 d0U<|a0) Tryz.func286
theorem d0W:Ok0 231 b7H:=
 fo [] 7951 16 d4b (b1 b3e<|b1 b9C<|b1 d0V<|b1 c7n<|a0) Tryz.func231
theorem d0X:Ok0 313 b4d:=
 fo [] 51 0 d4c a0 Tryz.func313
theorem d0Y:Ok0 289 c0S:=
 fo [] 967 0 d4d (b1 b3e<|b1 b6n<|b1 b6l<|b1 c7r<|b1 d0X<|a0) Tryz.func289
theorem d0Z:Ok0 237 b9k:=
 fo [] 64543 64 d4e (b1 b9C<|b1 d0W<|b1 b6m<|b1 b6n<|b1 c4m<|b1 d0Y<|a0) Tryz.func237
theorem d1a:Ok0 154 c0T:=
 fo [] 576478898540249543 16 d4f (b1 c4l<|b1 d0O<|b1 b6m<|b1 b6n<|b1 d0R<|b1 c4m<|b1 d0Z<|a0) Tryz.func154
theorem c6b:Ok0 83 b5a:=
 fo [] 5 0 H83 a0 Tryz.func83
theorem c4n:Ok0 175 b6c:=
 fo [] 19 0 QH a0 Tryz.func175
theorem b3J:Ok0 170 b6d:=
 fo [] 115 0 d4g (b1 c6b<|b1 c4n<|a0) Tryz.func170
theorem d1b:Ok0 255 b3d:=
 fo [] 51 0 d4h (b1 b3J<|a0) Tryz.func255
theorem c4o:Ok0 172 b7I:=
 fo [] 455 0 d4i (b1 d1b<|a0) Tryz.func172
theorem d1c:Ok0 171 b6e:=
 fo [] 51 0 QH (b1 b3J<|b1 c4o<|a0) Tryz.func171
theorem d1d:Ok0 314 b4e:=
 fo [] 51 0 d4j (b1 c6b<|b1 c4n<|a0) Tryz.func314
theorem d1e:Ok0 315 c2n:=
 fo [] 5 0 QH (b1 c7f<|a0) Tryz.func315
theorem d1f:Ok0 294 c0U:=
 fo [] 4039 0 d4k (b1 b3J<|b1 b6l<|b1 d1d<|b1 d1e<|a0) Tryz.func294
theorem d1g:Ok0 256 c4W:=
 fo [] 967 0 d4l (b1 b3J<|b1 c4o<|b1 b6m<|b1 b6l<|b1 d1f<|a0) Tryz.func256
theorem d1h:Ok0 173 b9l:=
 fo [(9,.pair QI Q3),(24,.pair QI Q3)] 64903 0 d4m (b1 b3J<|b1 c7m<|b1 b9C<|b1 d1g<|a0) Tryz.func173
theorem d1i:Ok0 155 b6f:=
 fo [] 5 0 QH a0 Tryz.func155
theorem d1j:Ok0 174 b7J:=
 fo [] 199 0 d4n (b1 d1i<|a0) Tryz.func174
theorem d4Y:Ok0 81 c0V:=
 fo [(7,.pair QI Q46),(24,.pair QI Q41),(35,.pair QI Q41),(103,.pair QI Q41),(113,.pair QI Q41),(124,.pair QI Q41),(142,.pair QI Q41),(148,.pair (.list true QV) .unit),(149,.pair (.list true QV) .unit),(162,.pair QI Q41)] 37778934257693487251299 0 H81 (b1 c7l<|b1 c4l<|b1 d1a<|b1 b3J<|b1 d1c<|b1 c4o<|b1 d1h<|b1 d1j<|a0) Tryz.func81
theorem d4Z:Ok0 82 b4f:=
 fo [] 5 0 H82 (b1 c4n<|a0) Tryz.func82
theorem c8C:Ok0 37 c2o:=
 fo [] 13 0 H37 a0 Tryz.func37
theorem d5a:Ok0 11 b7K:=
 fo [] 29 2 H11 (b1 c8C<|b1 c8B<|a0) Tryz.func11
theorem d1k:Ok0 298 c3O:=
 fo [] 51 0 d4o (b1 c8C<|b1 b3e<|b1 c7g<|a0) Tryz.func298
theorem d1l:Ok0 299 c0W:=
 fo [(18,.list true (.list true QI))] 29 0 d4p a0 Tryz.func299
theorem d1m:Ok0 300 c4X:=
 fo [] 199 16 d4q (b1 a8H<|a0) Tryz.func300
theorem d1n:Ok0 258 b7L:=
 fo [] 243 0 d4r (b1 d1k<|b1 d1l<|b1 d1m<|a0) Tryz.func258
theorem d1o:Ok0 176 b5b:=
 fo [] 1017 2 d4s (b1 d5a<|b1 c7h<|b1 c7q<|b1 d1n<|a0) Tryz.func176
theorem d5b:Ok0 84 b7M:=
 fo [] 21 2 QH (b1 d1o<|a0) Tryz.func84
theorem d5c:Ok0 26 b6g:=
 fo [(5,.pair QI Q67)] 12249 0 H26 (b1 d4U<|b1 c8A<|b1 d4V<|b1 d4W<|b1 d4X<|b1 d4Y<|b1 d4Z<|b1 c6b<|b1 d5b<|a0) Tryz.func26
theorem d5d:Ok0 28 b6h:=
 fo [] 953 0 H28 (b1 c8A<|a0) Tryz.func28
theorem fs7:Ok0 7 a7o:=
 fo [] 122293 0 QH (b1 fs9<|b1 c5Z<|b1 c8y<|b1 d5c<|b1 c8z<|b1 d5d<|a0) Tryz.func7
end Go.Ab
