/- Part of the proof: S. Conditions: as each statement tells. -/
import Derived.KernelRfl
import Derived.Test.YtjoohiokfkdfpaaGreatDoorME
noncomputable section
set_option linter.unusedSimpArgs false
set_option linter.unusedVariables false
namespace Go.Ab
variable {n:Nat}{s:FSem}
open Go.Proofs
set_option maxRecDepth 100000
theorem b3V:Tryz.prog.follows .mixedOrders=true:=by kernel_rfl
theorem d0P:B0d Tryz.prog b8F=true:=by kernel_rfl
theorem d0Q:B0b Tryz.prog b8O=true:=by kernel_rfl
theorem d0R:A0y Tryz.prog b8F c1T=true:=by kernel_rfl
theorem laidOut:laidOutB Tryz.prog=true:=by kernel_rfl
@[reducible] def Ok0(n:Nat)(s:FSem):Prop:=i0y Tryz.prog G0 n s∧l0x Tryz.prog n
theorem cxo{a:List (Nat×FSem)}{b:List (Nat×Ty)}{c d:Nat}(h:∀p∈a,FOk Tryz.prog G0 p.1 p.2):CxOk Tryz.prog (b4J a b c d):=
 CxOk.of (CxTy.of (tab:=b8F) (l:=c1T) (q:=b8O) (fun _=>rfl) (fun _=>rfl) (fun _=>rfl) d0P d0Q d0R) (fun _=>rfl) h
theorem b1{l:List (Nat×FSem)}(h:Ok0 n s)(g:∀p∈l,FOk Tryz.prog G0 p.1 p.2):∀p∈(n,s)::l,FOk Tryz.prog G0 p.1 p.2:=a1 (a:=(n,s)) h g
theorem b2{l:List (Nat×FSem)}(h:A0f Tryz.prog G0 n s)(g:∀p∈l,FOk Tryz.prog G0 p.1 p.2):∀p∈(n,s)::l,FOk Tryz.prog G0 p.1 p.2:=B0g (a:=(n,s)) h g
theorem fo{a:List (Nat × FSem)}(b : List (Nat × Ty))(c d : Nat)(H : Hints){fn:Func}{e:Code}(h : ∀ p ∈ a, FOk Tryz.prog G0 p.1 p.2)(hf : Tryz.prog.funcs[n]? = some fn)(hb : fn.body = some e :=by rfl)(hk : A0m fn e H s = true :=by kernel_rfl)(hn : (fn.name == "runtime.NumGoroutine") = false :=by kernel_rfl)(hq : ∀ x, A0j (b4J a b c d) H fn s.ps s.rs x = s.F x :=by intro x; kernel_rfl): Ok0 n s :=
 ⟨i0y.of (cxo h) b3V hf hb hk hq,⟨_,_,hf,hb,hn⟩⟩
theorem c4g:Ok0 60 b7H:=
 fo [] 21 0 H60 a0 Tryz.func60
theorem c4M:Ok0 138 b7I:=
 fo [] 5 0 QH a0 Tryz.func138
theorem c6c:Ok0 61 b7J:=
 fo [] 371 0 H61 (b1 c4M<|a0) Tryz.func61
theorem c6y:Ok0 139 a1s:=
 ⟨i0y.of (cx:=a8p) (cxo a0) b3V Tryz.func139 rfl (by kernel_rfl) c6v,⟨_,_,Tryz.func139,rfl,by kernel_rfl⟩⟩
theorem c6d:Ok0 62 b5v:=
 fo [] 45 0 H62 (b1 c6y<|a0) Tryz.func62
theorem c2m:Ok0 199 b8R:=
 fo [] 83 0 c8r a0 Tryz.func199
theorem c2n:Ok0 200 c1V:=
 fo [] 83 8 c8s a0 Tryz.func200
theorem c4N:Ok0 268 b7K:=
 fo [] 5 2 QH a0 Tryz.func268
theorem c2o:Ok0 201 b4s:=
 fo [] 5 0 c8t (b1 c4N<|a0) Tryz.func201
theorem c4O:Ok0 129 c3o:=
 fo [] 4611688217584863559 16 c8u (b1 c2m<|b1 c2n<|b1 c2o<|a0) Tryz.func129
theorem b8G:Ok0 192 a1Q:=
 ⟨i0y.of (cx:=c4K) (cxo a0) b3V Tryz.func192 rfl (by kernel_rfl) c6w,⟨_,_,Tryz.func192,rfl,by kernel_rfl⟩⟩
theorem c6e:Ok0 192 a2m:=
 ⟨i0y.of (cx:=c3p) (cxo a0) b3V Tryz.func192 rfl (by kernel_rfl) c5Z,⟨_,_,Tryz.func192,rfl,by kernel_rfl⟩⟩
theorem c6f:Ok0 204 a1r:=
 ⟨i0y.of (cx:=c3q) (cxo a0) b3V Tryz.func204 rfl (by kernel_rfl) c6a,⟨_,_,Tryz.func204,rfl,by kernel_rfl⟩⟩
theorem c4P:Ok0 134 b8S:=
 fo [] 43523 8 c8v (b1 c6e<|b1 c6f<|a0) Tryz.func134
theorem c4Q:Ok0 130 b8T:=
 fo [] 70291 4 c8w a0 Tryz.func130
theorem c4R:Ok0 239 b8U:=
 fo [] 21 0 c8x a0 Tryz.func239
theorem c4S:Ok0 205 b8V:=
 fo [] 243 0 c8y (b1 c4R<|a0) Tryz.func205
theorem c2p:Ok0 243 b7L:=
 fo [] 5 0 QH a0 Tryz.func243
theorem c2q:Ok0 241 b4K:=
 fo [] 21 0 c8z (b1 c2p<|a0) Tryz.func241
theorem c4T:Ok0 242 b4L:=
 fo [] 1991 0 c8A a0 Tryz.func242
theorem c6z:Ok0 206 b7M:=
 fo [] 1991 0 c8B (b1 c2m<|b1 c2q<|b1 c4T<|b1 c2p<|a0) Tryz.func206
theorem c2r:Ok0 246 c0D:=
 fo [] 5 0 QH a0 Tryz.func246
theorem c2s:Ok0 244 b6E:=
 fo [] 21 0 c8C (b1 c2r<|a0) Tryz.func244
theorem c4U:Ok0 245 b6F:=
 fo [] 7951 128 c8D a0 Tryz.func245
theorem c2t:Ok0 207 c0E:=
 fo [] 4039 32 c8E (b1 c2n<|b1 c2s<|b1 c4U<|b1 c2r<|a0) Tryz.func207
theorem c2u:Ok0 251 b3o:=
 fo [] 5 0 QH a0 Tryz.func251
theorem c4V:Ok0 247 b1s:=
 fo [] 21 0 c8F (b1 c2u<|a0) Tryz.func247
theorem c4W:Ok0 249 b4t:=
 fo [(15,.pair QI Q8),(16,.pair QI Q8)] 13 2 c8G (b1 c4N<|a0) Tryz.func249
theorem c4X:Ok0 292 b5w:=
 fo [] 5 0 QH a0 Tryz.func292
theorem c2v:Ok0 250 a8q:=
 fo [] 61 0 c8H (b1 c4X<|a0) Tryz.func250
theorem c4Y:Ok0 252 a9a:=
 fo [] 4202995 0 c8I (b1 c2v<|b1 c4X<|a0) Tryz.func252
theorem c6A:Ok0 208 b8W:=
 fo [] 15987 0 c8J (b1 b8G<|b1 c2o<|b1 c4V<|b1 c4W<|b1 c2v<|b1 c2u<|b1 c4Y<|a0) Tryz.func208
theorem c6B:Ok0 135 c0F:=
 fo [] 147573952727119562867 0 c8K (b1 c4Q<|b1 b8G<|b1 c4S<|b1 c6z<|b1 c2t<|b1 c6A<|a0) Tryz.func135
theorem c4Z:Ok0 202 c0G:=
 fo [] 19 0 QH a0 Tryz.func202
theorem b8H:Ok0 194 b7N:=
 fo [] 455 0 c8L (b1 c4Z<|a0) Tryz.func194
theorem c5a:Ok0 158 c0H:=
 fo [] 711 8 c8M (b1 b8H<|a0) Tryz.func158
theorem c5b:Ok0 209 b7O:=
 fo [] 327 0 c8N (b1 c4Z<|a0) Tryz.func209
theorem c6C:Ok0 178 b8X:=
 fo [] 5 0 c8O a0 Tryz.func178
theorem c6D:Ok0 179 b7P:=
 fo [] 5 0 c8P a0 Tryz.func179
theorem c6g:Ok0 87 b7Q:=
 fo [] 19 0 QH (b1 c6C<|b1 c6D<|a0) Tryz.func87
theorem b8I:Ok0 111 b6G:=
 fo [] 45 0 c8Q (b1 c6g<|a0) Tryz.func111
theorem c5c:Ok0 262 c0I:=
 fo [] 5 0 QH (b1 b8I<|a0) Tryz.func262
theorem c5d:Ok0 264 b4M:=
 fo [] 5 0 QH a0 Tryz.func264
theorem c2w:Ok0 265 c0J:=
 fo [] 5 0 QH a0 Tryz.func265
theorem c5e:Ok0 266 c0K:=
 fo [] 141 0 QH (b1 c2w<|a0) Tryz.func266
theorem c6E:Ok0 304 c0L:=
 fo [] 51 0 c8R (b1 c5d<|b1 c2w<|b1 c5e<|a0) Tryz.func304
theorem c2x:Ok0 263 c1W:=
 fo [] 179 0 c8S (b1 c6E<|a0) Tryz.func263
theorem c5f:Ok0 193 b8Y:=
 fo [] 7951 16 c8T (b1 c5a<|b1 b8H<|b1 c5b<|b1 c5c<|b1 c2x<|a0) Tryz.func193
theorem c6F:Ok0 270 c0M:=
 fo [] 125 0 c8U (b1 c2x<|a0) Tryz.func270
theorem c6G:Ok0 210 b6H:=
 fo [] 13 0 QH (b1 c5c<|b1 c2x<|b1 c6F<|a0) Tryz.func210
theorem c6H:Ok0 136 b8Z:=
 fo [(14,.pair QI Q2),(40,.pair QI Q2)] 440847 0 c8V (b1 c5f<|b1 b8H<|b1 c5b<|b1 c6G<|a0) Tryz.func136
theorem c6h:Ok0 58 c1X:=
 fo [] 14727 32 H58 (b1 c4g<|b1 c6c<|b1 c6d<|b1 c4O<|b1 c4P<|b1 c6B<|b1 c6H<|a0) Tryz.func58
theorem c5g:Ok0 115 b9a:=
 fo [] 5 0 QH a0 Tryz.func115
theorem c6I:Ok0 157 c0N:=
 fo [] 5 2 QH (b1 c4P<|a0) Tryz.func157
theorem d0S:Ok0 75 b9b:=
 fo [] 51 4 H75 (b1 c4g<|b1 c5g<|b1 c4O<|b1 c4Q<|b1 c6I<|b1 c5a<|a0) Tryz.func75
theorem c6J:Ok0 290 b5x:=
 fo [] 11 0 QH a0 Tryz.func290
theorem c6K:Ok0 240 b7R:=
 fo [] 4296020275 0 QH (b1 c6J<|a0) Tryz.func240
theorem c6L:Ok0 159 b9c:=
 fo [] 3527 0 c8W (b1 c4R<|b1 c6K<|a0) Tryz.func159
theorem c6M:Ok0 160 b7S:=
 fo [] 14095 0 c8X (b1 c2m<|b1 c2q<|b1 c4T<|b1 c2p<|a0) Tryz.func160
theorem c6N:Ok0 161 c0O:=
 fo [] 4039 32 c8Y (b1 c2n<|b1 c2s<|b1 c4U<|b1 c2r<|a0) Tryz.func161
theorem c6O:Ok0 162 a8x:=
 ⟨i0y.ofR (cx:=c4L) (cxo (a1 b8G (a1 c2o (a1 c4V (a1 c4W (a1 c2v (a1 c2u (a1 c4Y a0)))))))) b3V (r:=c6b) ⟨c5B,c5C⟩ Tryz.func162 rfl (by kernel_rfl) c6x,⟨_,_,Tryz.func162,rfl,by kernel_rfl⟩⟩
theorem c6P:Ok0 163 c0P:=
 fo [] 371 0 c9a (b1 c4M<|a0) Tryz.func163
theorem d0T:Ok0 76 c1Y:=
 fo [] 604462927822812893676787 4 H76 (b1 c6L<|b1 c6M<|b1 c6N<|b1 c6O<|b1 c6P<|a0) Tryz.func76
theorem c6i:Ok0 24 c3s:=
 fo [] 243 4 QH (b1 d0S<|b1 d0T<|a0) Tryz.func24
theorem c6Q:Ok0 110 c3t:=
 fo [] 115 4 QH (b1 c6i<|a0) Tryz.func110
theorem c5h:Ok0 117 b4e:=
 fo [] 3 0 c9b a0 Tryz.func117
theorem b5N:Ok0 112 b4f:=
 fo [] 199 0 c9c (b1 c5h<|a0) Tryz.func112
theorem c5i:Ok0 113 b5y:=
 fo [] 7 0 QH (b1 b5N<|a0) Tryz.func113
theorem c6R:Ok0 114 b6I:=
 fo [] 83 8 c9d (b1 b8I<|b1 b5N<|b1 c5i<|a0) Tryz.func114
theorem c6S:Ok0 267 b3i:=
 fo [] 19 0 c9e (b1 c5h<|a0) Tryz.func267
theorem c6T:Ok0 195 c1Z:=
 fo [] 7495 0 c9f (b1 b5N<|b1 c5d<|b1 c2w<|b1 c5e<|b1 c6S<|a0) Tryz.func195
theorem c6U:Ok0 116 c0Q:=
 fo [] 97311 64 c9g (b1 b8I<|b1 b5N<|b1 c5f<|b1 b8H<|b1 c6T<|a0) Tryz.func116
theorem d0U:Ok0 45 c3u:=
 fo [] 11682311054023 16 H45 (b1 c6Q<|b1 b8I<|b1 b5N<|b1 c5i<|b1 c6R<|b1 c5g<|b1 c6U<|a0) Tryz.func45
theorem c6V:Ok0 137 b4g:=
 fo [] 5 0 QH a0 Tryz.func137
theorem c6j:Ok0 59 c2a:=
 fo [(5,.pair (.list true QV) Q0)] 19 4 QH (b1 d0U<|b1 c6V<|a0) Tryz.func59
theorem c6W:Ok0 211 b7T:=
 fo [] 243 0 c9h a0 Tryz.func211
theorem c6X:Ok0 140 b9d:=
 fo [] 509 0 c9i (b1 c4S<|b1 c6W<|a0) Tryz.func140
theorem c5j:Ok0 273 b6J:=
 fo [] 5 0 QH a0 Tryz.func273
theorem c6Y:Ok0 271 b5z:=
 fo [] 493 0 c9j (b1 c5j<|a0) Tryz.func271
theorem c6Z:Ok0 272 b3j:=
 fo [] 1991 0 c9k a0 Tryz.func272
theorem c7a:Ok0 212 b4N:=
 fo [] 16371 0 c9l (b1 b8G<|b1 c2q<|b1 c6Y<|b1 c6Z<|b1 c5j<|a0) Tryz.func212
theorem c7b:Ok0 213 b6K:=
 fo [] 4077 0 c9m a0 Tryz.func213
theorem c7c:Ok0 214 b6L:=
 fo [] 28531 0 c9n (b1 c6g<|a0) Tryz.func214
theorem c5k:Ok0 142 b7U:=
 fo [] 4039 0 QH (b1 c7a<|b1 c7b<|b1 c7c<|a0) Tryz.func142
theorem c7d:Ok0 215 c0R:=
 fo [] 16327 0 c9o (b1 c2s<|a0) Tryz.func215
theorem c7e:Ok0 274 b9e:=
 fo [] 1 0 QH a0 Tryz.func274
theorem c7f:Ok0 216 c0S:=
 fo [] 47523 0 c9p (b1 c2t<|b1 c7e<|a0) Tryz.func216
theorem c7g:Ok0 143 b9f:=
 fo [] 953 0 QH (b1 c5k<|b1 c2t<|b1 c7d<|b1 c7f<|a0) Tryz.func143
theorem c7h:Ok0 141 b3q:=
 fo [] 463 0 QH (b1 c5k<|a0) Tryz.func141
theorem d0V:Ok0 63 b4O:=
 fo [(5,.list true Q19)] 851 147573952589676412928 H63 (b1 c6X<|b1 c7h<|b1 c7g<|a0) Tryz.func63
theorem c6k:Ok0 19 c2b:=
 fo [] 50915 0 H19 (b1 c6h<|b1 c6j<|b1 c4g<|b1 c6c<|b1 c6d<|b1 d0V<|a0) Tryz.func19
theorem c4h:Ok0 25 b7V:=
 fo [] 51 0 H25 a0 Tryz.func25
theorem d0W:Ok0 18 c0T:=
 fo [] 93 0 QH (b1 c6k<|b1 c6i<|b1 c4h<|b1 c6h<|b1 c6j<|a0) Tryz.func18
theorem b0M:Ok0 144 c3v:=
 fo [] 5 0 QH a0 Tryz.func144
theorem a7c:Ok0 64 b9g:=
 fo [] 13 0 H64 (b1 b0M<|a0) Tryz.func64
theorem c4i:Ok0 66 c0U:=
 fo [] 61 0 H66 a0 Tryz.func66
theorem c7i:Ok0 145 c3w:=
 fo [] 13 0 c9q a0 Tryz.func145
theorem c6l:Ok0 65 c3x:=
 fo [] 243 0 H65 (b1 a7c<|b1 c4i<|b1 c7i<|a0) Tryz.func65
theorem c2y:Ok0 217 b5A:=
 fo [] 1011 0 c9r (b1 a7c<|a0) Tryz.func217
theorem c5l:Ok0 277 c3y:=
 fo [] 5 0 QH a0 Tryz.func277
theorem c5m:Ok0 275 c0V:=
 fo [] 115 0 c9s (b1 c5l<|a0) Tryz.func275
theorem c7j:Ok0 218 b4h:=
 fo [] 115 0 QH (b1 c2y<|b1 c5m<|a0) Tryz.func218
theorem c7k:Ok0 146 b5B:=
 fo [] 509 0 c9t (b1 c2y<|b1 c7j<|a0) Tryz.func146
theorem c5n:Ok0 325 c2c:=
 fo [] 5 0 QH a0 Tryz.func325
theorem c7l:Ok0 323 b9i:=
 fo [] 125 0 c9u (b1 c5n<|a0) Tryz.func323
theorem c7m:Ok0 329 c2d:=
 fo [] 51 0 c9v a0 Tryz.func329
theorem c7n:Ok0 324 b4P:=
 fo [] 967 0 c9w (b1 c7m<|a0) Tryz.func324
theorem c7o:Ok0 306 b3k:=
 fo [] 32755 0 c9x (b1 a7c<|b1 c7l<|b1 c7n<|b1 c5n<|a0) Tryz.func306
theorem c7p:Ok0 307 b4i:=
 fo [] 509 0 c9y a0 Tryz.func307
theorem c7q:Ok0 102 c4d:=
 fo [] 5 0 c9z a0 Tryz.func102
theorem c7r:Ok0 103 c3z:=
 fo [] 5 0 c9A a0 Tryz.func103
theorem c6m:Ok0 38 c3A:=
 fo [] 19 0 QH (b1 c7q<|b1 c7r<|a0) Tryz.func38
theorem c7s:Ok0 308 b4j:=
 fo [] 16371 0 c9B (b1 c6m<|a0) Tryz.func308
theorem c7t:Ok0 276 b4R:=
 fo [] 8135 0 QH (b1 c7o<|b1 c7p<|b1 c7s<|a0) Tryz.func276
theorem c5o:Ok0 219 b9j:=
 fo [] 1927 0 QH (b1 c7t<|a0) Tryz.func219
theorem c7u:Ok0 147 c2e:=
 fo [] 1295 0 QH (b1 c5o<|a0) Tryz.func147
theorem c7v:Ok0 220 b6Q:=
 fo [] 35433496519 0 c9C (b1 a7c<|b1 c5l<|a0) Tryz.func220
theorem c2z:Ok0 224 b7W:=
 fo [] 51 8 c9D a0 Tryz.func224
theorem c5p:Ok0 279 b5C:=
 fo [] 967 32 c9E a0 Tryz.func279
theorem c2A:Ok0 222 b6R:=
 fo [] 967 32 c9F (b1 a7c<|b1 c2z<|b1 c5p<|a0) Tryz.func222
theorem c7w:Ok0 278 b5D:=
 fo [] 1 0 QH a0 Tryz.func278
theorem c7x:Ok0 221 b6S:=
 fo [] 8163 0 c9G (b1 c2A<|b1 c5m<|b1 c7w<|a0) Tryz.func221
theorem c7y:Ok0 148 c2f:=
 fo [] 3001 0 c9H (b1 c5o<|b1 c7v<|b1 c7x<|b1 c2A<|a0) Tryz.func148
theorem d0X:Ok0 67 c0W:=
 fo [] 435 0 H67 (b1 c7k<|b1 c7u<|b1 c7y<|a0) Tryz.func67
theorem b8J:Ok0 223 b5E:=
 fo [] 51 0 c9I a0 Tryz.func223
theorem c5q:Ok0 280 b6T:=
 fo [] 5 2 QH a0 Tryz.func280
theorem c2B:Ok0 225 b6U:=
 fo [] 13 0 c9J (b1 c5q<|a0) Tryz.func225
theorem c5r:Ok0 149 c0X:=
 fo [] 1152921505680593555 4 c9K (b1 b8J<|b1 c2z<|b1 c2B<|a0) Tryz.func149
theorem c7z:Ok0 150 c0Y:=
 fo [] 13 0 c9L a0 Tryz.func150
theorem c5s:Ok0 281 b4n:=
 fo [] 967 0 c9M (b1 b0M<|b1 b8J<|a0) Tryz.func281
theorem c7A:Ok0 226 b4S:=
 fo [] 967 0 c9N (b1 a7c<|b1 b8J<|b1 c5s<|a0) Tryz.func226
theorem c5t:Ok0 282 b5F:=
 fo [(15,.pair QI Q8),(16,.pair QI Q8)] 13 2 c9O (b1 c5q<|a0) Tryz.func282
theorem c5u:Ok0 309 c2g:=
 fo [] 5 0 QH a0 Tryz.func309
theorem c2C:Ok0 283 b3s:=
 fo [] 29 0 c9P (b1 c5u<|a0) Tryz.func283
theorem c7B:Ok0 310 c2h:=
 fo [] 77 0 QH a0 Tryz.func310
theorem c5v:Ok0 284 b4o:=
 fo [] 243 0 c9Q (b1 c2C<|b1 c5u<|b1 c7B<|a0) Tryz.func284
theorem c7C:Ok0 227 b5G:=
 fo [] 4083 0 c9R (b1 a7c<|b1 c2B<|b1 c5t<|b1 c2C<|b1 c5v<|a0) Tryz.func227
theorem c7D:Ok0 151 c2i:=
 fo [] 147573952593971544051 4 c9S (b1 c2y<|b1 c2A<|b1 c7A<|b1 c7C<|a0) Tryz.func151
theorem c2D:Ok0 152 b7X:=
 fo [] 5 0 QH a0 Tryz.func152
theorem c5w:Ok0 228 c4e:=
 fo [] 19 0 QH a0 Tryz.func228
theorem b8K:Ok0 229 b5H:=
 fo [] 455 0 c9T (b1 c5w<|a0) Tryz.func229
theorem c2E:Ok0 293 b6V:=
 fo [] 5 0 QH a0 Tryz.func293
theorem c7E:Ok0 326 c4f:=
 fo [] 13 0 c9U a0 Tryz.func326
theorem c5x:Ok0 312 c3B:=
 fo [] 5 0 QH (b1 b0M<|b1 c7E<|a0) Tryz.func312
theorem c7F:Ok0 311 b7Y:=
 fo [] 51 0 c9V (b1 b0M<|b1 c2E<|b1 c5x<|a0) Tryz.func311
theorem c2F:Ok0 287 b9k:=
 fo [] 115 0 c9W (b1 c7F<|a0) Tryz.func287
theorem c7G:Ok0 285 b7Z:=
 fo [] 29 0 c9X (b1 c2F<|a0) Tryz.func285
theorem b8L:Ok0 233 c2j:=
 fo [] 29 0 c9Y (b1 c6m<|a0) Tryz.func233
theorem c5y:Ok0 286 b8a:=
 fo [] 19 0 QH (b1 b8L<|b1 c2F<|a0) Tryz.func286
theorem c7H:Ok0 230 c2k:=
 fo [] 13 0 QH (b1 c7G<|b1 c5y<|b1 c2F<|a0) Tryz.func230
theorem c5z:Ok0 288 b8b:=
 fo [] 455 8 c9Z (b1 b8K<|b1 c2E<|a0) Tryz.func288
theorem c5A:Ok0 231 b6W:=
 fo [] 7951 16 d0A (b1 a7c<|b1 b8K<|b1 c5y<|b1 c5z<|a0) Tryz.func231
theorem c7I:Ok0 153 b6X:=
 fo [(15,.pair QI Q2),(48,.pair QI Q2)] 227855 0 d0B (b1 a7c<|b1 c5w<|b1 b8K<|b1 c7H<|b1 c5A<|a0) Tryz.func153
theorem d0Y:Ok0 68 b8c:=
 fo [] 140746112925063 32 H68 (b1 a7c<|b1 c6l<|b1 c4i<|b1 c5r<|b1 c7z<|b1 c7D<|b1 c2D<|b1 c7I<|a0) Tryz.func68
theorem d0Z:Ok0 70 b4U:=
 fo [] 51 0 H70 a0 Tryz.func70
theorem d1a:Ok0 71 b6Y:=
 fo [] 19 12 QH (b1 c4h<|a0) Tryz.func71
theorem c6n:Ok0 21 b8d:=
 fo [] 19 12 QH (b1 c4h<|b1 d0Z<|b1 d1a<|a0) Tryz.func21
theorem c7J:Ok0 295 c0Z:=
 fo [] 36031004900589569 2 d0C a0 Tryz.func295
theorem c7K:Ok0 327 b9l:=
 fo [] 5 0 QH a0 Tryz.func327
theorem c7L:Ok0 316 b5I:=
 fo [] 8135 0 d0D (b1 a7c<|b1 b0M<|b1 c7K<|a0) Tryz.func316
theorem c7M:Ok0 317 b4V:=
 fo [] 7951 0 d0E (b1 a7c<|b1 b0M<|b1 b8J<|b1 c5s<|a0) Tryz.func317
theorem c7N:Ok0 318 b6Z:=
 fo [] 1991 32 d0F (b1 a7c<|b1 b0M<|b1 c2z<|b1 c5p<|a0) Tryz.func318
theorem c7O:Ok0 319 b5J:=
 fo [] 4083 0 d0G (b1 a7c<|b1 b0M<|b1 c2B<|b1 c5t<|b1 c2C<|b1 c5v<|a0) Tryz.func319
theorem c7P:Ok0 296 c2l:=
 fo [] 144115192371347773 2 QH (b1 c7L<|b1 c7M<|b1 c7N<|b1 c7O<|a0) Tryz.func296
theorem c7Q:Ok0 297 c5K:=
 fo [] 243 0 d0H (b1 b0M<|a0) Tryz.func297
theorem c7R:Ok0 257 b9m:=
 fo [] 8179 4 d0I (b1 c6n<|b1 a7c<|b1 c5r<|b1 c2D<|b1 c5z<|b1 c7J<|b1 c7P<|b1 c7Q<|a0) Tryz.func257
theorem c7S:Ok0 232 b9n:=
 fo [] 115 4 QH (b1 c7R<|a0) Tryz.func232
theorem b5O:Ok0 234 b5K:=
 fo [] 199 0 d0J a0 Tryz.func234
theorem c2G:Ok0 236 b7a:=
 fo [] 71 0 d0K (b1 b5O<|a0) Tryz.func236
theorem c7T:Ok0 235 b5L:=
 fo [] 19 8 QH (b1 b8L<|b1 b5O<|b1 c2G<|a0) Tryz.func235
theorem c7U:Ok0 313 b4p:=
 fo [] 51 0 d0L a0 Tryz.func313
theorem c7V:Ok0 289 b9o:=
 fo [] 967 0 d0M (b1 a7c<|b1 b5O<|b1 c2E<|b1 c5x<|b1 c7U<|a0) Tryz.func289
theorem c7W:Ok0 237 b8e:=
 fo [] 64543 64 d0N (b1 b8K<|b1 c5A<|b1 b8L<|b1 b5O<|b1 c2G<|b1 c7V<|a0) Tryz.func237
theorem c7X:Ok0 154 b9p:=
 fo [] 576478898540249543 16 d0O (b1 c2D<|b1 c7S<|b1 b8L<|b1 b5O<|b1 c7T<|b1 c2G<|b1 c7W<|a0) Tryz.func154
theorem c7Y:Ok0 155 b5M:=
 fo [] 5 0 QH a0 Tryz.func155
theorem d1b:Ok0 69 b8f:=
 fo [(6,.pair (.list true QV) .unit),(7,.pair (.list true QV) .unit)] 51 4 QH (b1 c7X<|b1 c7Y<|a0) Tryz.func69
theorem d1c:Ok0 20 b8g:=
 fo [] 28131 0 H20 (b1 a7c<|b1 c6l<|b1 c4i<|b1 d0X<|b1 d0Y<|b1 d1b<|a0) Tryz.func20
theorem fs4:Ok0 4 a9g:=
 fo [] 339 0 QH (b1 d0W<|b1 c6k<|b1 d1c<|b1 c6n<|a0) Tryz.func4
end Go.Ab
