/- Part of the proof: S. Conditions: as each statement tells. -/
import Derived.KernelRfl
import Derived.Test.YtjoohiokfkdfpaaGreatDoorME
noncomputable section
set_option linter.unusedSimpArgs false
set_option linter.unusedVariables false
namespace Go.Ab
variable {n:Nat}{s:FSem}
open Go.Proofs
set_option maxRecDepth 100000
theorem b4s:Tryz.prog.follows .mixedOrders=true:=by kernel_rfl
theorem d1s:B0d Tryz.prog b8V=true:=by kernel_rfl
theorem d1t:B0b Tryz.prog b9e=true:=by kernel_rfl
theorem d1u:A0y Tryz.prog b8V c2m=true:=by kernel_rfl
theorem laidOut:laidOutB Tryz.prog=true:=by kernel_rfl
@[reducible] def Ok0(n:Nat)(s:FSem):Prop:=i0y Tryz.prog G0 n s∧l0x Tryz.prog n
theorem cxo{a:List (Nat×FSem)}{b:List (Nat×Ty)}{c d:Nat}(h:∀p∈a,FOk Tryz.prog G0 p.1 p.2):CxOk Tryz.prog (b5d a b c d):=
 CxOk.of (CxTy.of (tab:=b8V) (l:=c2m) (q:=b9e) (fun _=>rfl) (fun _=>rfl) (fun _=>rfl) d1s d1t d1u) (fun _=>rfl) h
theorem b1{l:List (Nat×FSem)}(h:Ok0 n s)(g:∀p∈l,FOk Tryz.prog G0 p.1 p.2):∀p∈(n,s)::l,FOk Tryz.prog G0 p.1 p.2:=a1 (a:=(n,s)) h g
theorem b2{l:List (Nat×FSem)}(h:A0f Tryz.prog G0 n s)(g:∀p∈l,FOk Tryz.prog G0 p.1 p.2):∀p∈(n,s)::l,FOk Tryz.prog G0 p.1 p.2:=B0g (a:=(n,s)) h g
theorem fo{a:List (Nat × FSem)}(b : List (Nat × Ty))(c d : Nat)(H : Hints){fn:Func}{e:Code}(h : ∀ p ∈ a, FOk Tryz.prog G0 p.1 p.2)(hf : Tryz.prog.funcs[n]? = some fn)(hb : fn.body = some e :=by rfl)(hk : A0m fn e H s = true :=by kernel_rfl)(hn : (fn.name == "runtime.NumGoroutine") = false :=by kernel_rfl)(hq : ∀ x, A0j (b5d a b c d) H fn s.ps s.rs x = s.F x :=by intro x; kernel_rfl): Ok0 n s :=
 ⟨i0y.of (cxo h) b4s hf hb hk hq,⟨_,_,hf,hb,hn⟩⟩
theorem c4A:Ok0 60 b7X:=
 fo [] 21 0 H60 a0 Tryz.func60
theorem c5i:Ok0 138 b7Y:=
 fo [] 5 0 QH a0 Tryz.func138
theorem c6A:Ok0 61 b7Z:=
 fo [] 371 0 H61 (b1 c5i<|a0) Tryz.func61
theorem c6Y:Ok0 139 a1u:=
 ⟨i0y.of (cx:=a8H) (cxo a0) b4s Tryz.func139 rfl (by kernel_rfl) c6V,⟨_,_,Tryz.func139,rfl,by kernel_rfl⟩⟩
theorem c6B:Ok0 62 b5O:=
 fo [] 45 0 H62 (b1 c6Y<|a0) Tryz.func62
theorem c2F:Ok0 199 b9h:=
 fo [] 83 0 c8U a0 Tryz.func199
theorem c2G:Ok0 200 c2o:=
 fo [] 83 8 c8V a0 Tryz.func200
theorem c5j:Ok0 268 b8a:=
 fo [] 5 2 QH a0 Tryz.func268
theorem c2H:Ok0 201 b4L:=
 fo [] 5 0 c8W (b1 c5j<|a0) Tryz.func201
theorem c5k:Ok0 129 c3J:=
 fo [] 4611688217584863559 16 c8X (b1 c2F<|b1 c2G<|b1 c2H<|a0) Tryz.func129
theorem b8W:Ok0 192 a1U:=
 ⟨i0y.of (cx:=c5g) (cxo a0) b4s Tryz.func192 rfl (by kernel_rfl) c6W,⟨_,_,Tryz.func192,rfl,by kernel_rfl⟩⟩
theorem c6C:Ok0 192 a2p:=
 ⟨i0y.of (cx:=c3K) (cxo a0) b4s Tryz.func192 rfl (by kernel_rfl) c6x,⟨_,_,Tryz.func192,rfl,by kernel_rfl⟩⟩
theorem c6D:Ok0 204 a1t:=
 ⟨i0y.of (cx:=c3L) (cxo a0) b4s Tryz.func204 rfl (by kernel_rfl) c6y,⟨_,_,Tryz.func204,rfl,by kernel_rfl⟩⟩
theorem c5l:Ok0 134 b9i:=
 fo [] 43523 8 c8Y (b1 c6C<|b1 c6D<|a0) Tryz.func134
theorem c5m:Ok0 130 b9j:=
 fo [] 70291 4 c8Z a0 Tryz.func130
theorem c5n:Ok0 239 b9k:=
 fo [] 21 0 c9a a0 Tryz.func239
theorem c5o:Ok0 205 b9l:=
 fo [] 243 0 c9b (b1 c5n<|a0) Tryz.func205
theorem c2I:Ok0 243 b8b:=
 fo [] 5 0 QH a0 Tryz.func243
theorem c2J:Ok0 241 b5e:=
 fo [] 21 0 c9c (b1 c2I<|a0) Tryz.func241
theorem c5p:Ok0 242 b5f:=
 fo [] 1991 0 c9d a0 Tryz.func242
theorem c6Z:Ok0 206 b8c:=
 fo [] 1991 0 c9e (b1 c2F<|b1 c2J<|b1 c5p<|b1 c2I<|a0) Tryz.func206
theorem c2K:Ok0 246 c0U:=
 fo [] 5 0 QH a0 Tryz.func246
theorem c2L:Ok0 244 b6X:=
 fo [] 21 0 c9f (b1 c2K<|a0) Tryz.func244
theorem c5q:Ok0 245 b6Y:=
 fo [] 7951 128 c9g a0 Tryz.func245
theorem c2M:Ok0 207 c0V:=
 fo [] 4039 32 c9h (b1 c2G<|b1 c2L<|b1 c5q<|b1 c2K<|a0) Tryz.func207
theorem c2N:Ok0 251 b3L:=
 fo [] 5 0 QH a0 Tryz.func251
theorem c5r:Ok0 247 b1O:=
 fo [] 21 0 c9i (b1 c2N<|a0) Tryz.func247
theorem c5s:Ok0 249 b4M:=
 fo [(15,.pair QI Q8),(16,.pair QI Q8)] 13 2 c9j (b1 c5j<|a0) Tryz.func249
theorem c5t:Ok0 292 b5P:=
 fo [] 5 0 QH a0 Tryz.func292
theorem c2O:Ok0 250 a8I:=
 fo [] 61 0 c9k (b1 c5t<|a0) Tryz.func250
theorem c5u:Ok0 252 a9u:=
 fo [] 4202995 0 c9l (b1 c2O<|b1 c5t<|a0) Tryz.func252
theorem c7a:Ok0 208 b9m:=
 fo [] 15987 0 c9m (b1 b8W<|b1 c2H<|b1 c5r<|b1 c5s<|b1 c2O<|b1 c2N<|b1 c5u<|a0) Tryz.func208
theorem c7b:Ok0 135 c0W:=
 fo [] 147573952727119562867 0 c9n (b1 c5m<|b1 b8W<|b1 c5o<|b1 c6Z<|b1 c2M<|b1 c7a<|a0) Tryz.func135
theorem c5v:Ok0 202 c0X:=
 fo [] 19 0 QH a0 Tryz.func202
theorem b8X:Ok0 194 b8d:=
 fo [] 455 0 c9o (b1 c5v<|a0) Tryz.func194
theorem c5w:Ok0 158 c0Y:=
 fo [] 711 8 c9p (b1 b8X<|a0) Tryz.func158
theorem c5x:Ok0 209 b8e:=
 fo [] 327 0 c9q (b1 c5v<|a0) Tryz.func209
theorem c7c:Ok0 178 b9n:=
 fo [] 5 0 c9r a0 Tryz.func178
theorem c7d:Ok0 179 b8f:=
 fo [] 5 0 c9s a0 Tryz.func179
theorem c6E:Ok0 87 b8g:=
 fo [] 19 0 QH (b1 c7c<|b1 c7d<|a0) Tryz.func87
theorem b8Y:Ok0 111 b6Z:=
 fo [] 45 0 c9t (b1 c6E<|a0) Tryz.func111
theorem c5y:Ok0 262 c0Z:=
 fo [] 5 0 QH (b1 b8Y<|a0) Tryz.func262
theorem c5z:Ok0 264 b5g:=
 fo [] 5 0 QH a0 Tryz.func264
theorem c2P:Ok0 265 c1a:=
 fo [] 5 0 QH a0 Tryz.func265
theorem c5A:Ok0 266 c1b:=
 fo [] 141 0 QH (b1 c2P<|a0) Tryz.func266
theorem c7e:Ok0 304 c1c:=
 fo [] 51 0 c9u (b1 c5z<|b1 c2P<|b1 c5A<|a0) Tryz.func304
theorem c2Q:Ok0 263 c2p:=
 fo [] 179 0 c9v (b1 c7e<|a0) Tryz.func263
theorem c5B:Ok0 193 b9o:=
 fo [] 7951 16 c9w (b1 c5w<|b1 b8X<|b1 c5x<|b1 c5y<|b1 c2Q<|a0) Tryz.func193
theorem c7f:Ok0 270 c1d:=
 fo [] 125 0 c9x (b1 c2Q<|a0) Tryz.func270
theorem c7g:Ok0 210 b7a:=
 fo [] 13 0 QH (b1 c5y<|b1 c2Q<|b1 c7f<|a0) Tryz.func210
theorem c7h:Ok0 136 b9p:=
 fo [(14,.pair QI Q2),(40,.pair QI Q2)] 440847 0 c9y (b1 c5B<|b1 b8X<|b1 c5x<|b1 c7g<|a0) Tryz.func136
theorem c6F:Ok0 58 c2q:=
 fo [] 14727 32 H58 (b1 c4A<|b1 c6A<|b1 c6B<|b1 c5k<|b1 c5l<|b1 c7b<|b1 c7h<|a0) Tryz.func58
theorem c5C:Ok0 115 b9q:=
 fo [] 5 0 QH a0 Tryz.func115
theorem c7i:Ok0 157 c1e:=
 fo [] 5 2 QH (b1 c5l<|a0) Tryz.func157
theorem d1v:Ok0 75 b9r:=
 fo [] 51 4 H75 (b1 c4A<|b1 c5C<|b1 c5k<|b1 c5m<|b1 c7i<|b1 c5w<|a0) Tryz.func75
theorem c7j:Ok0 290 b5Q:=
 fo [] 11 0 QH a0 Tryz.func290
theorem c7k:Ok0 240 b8h:=
 fo [] 4296020275 0 QH (b1 c7j<|a0) Tryz.func240
theorem c7l:Ok0 159 b9s:=
 fo [] 3527 0 c9z (b1 c5n<|b1 c7k<|a0) Tryz.func159
theorem c7m:Ok0 160 b8i:=
 fo [] 14095 0 c9A (b1 c2F<|b1 c2J<|b1 c5p<|b1 c2I<|a0) Tryz.func160
theorem c7n:Ok0 161 c1f:=
 fo [] 4039 32 c9B (b1 c2G<|b1 c2L<|b1 c5q<|b1 c2K<|a0) Tryz.func161
theorem c7o:Ok0 162 a8P:=
 ⟨i0y.ofR (cx:=c5h) (cxo (a1 b8W (a1 c2H (a1 c5r (a1 c5s (a1 c2O (a1 c2N (a1 c5u a0)))))))) b4s (r:=c6z) ⟨c5Y,c5Z⟩ Tryz.func162 rfl (by kernel_rfl) c6X,⟨_,_,Tryz.func162,rfl,by kernel_rfl⟩⟩
theorem c7p:Ok0 163 c1g:=
 fo [] 371 0 c9D (b1 c5i<|a0) Tryz.func163
theorem d1w:Ok0 76 c2r:=
 fo [] 604462927822812893676787 4 H76 (b1 c7l<|b1 c7m<|b1 c7n<|b1 c7o<|b1 c7p<|a0) Tryz.func76
theorem c4B:Ok0 24 c3M:=
 fo [] 243 4 QH (b1 d1v<|b1 d1w<|a0) Tryz.func24
theorem c7q:Ok0 110 c3N:=
 fo [] 115 4 QH (b1 c4B<|a0) Tryz.func110
theorem c5D:Ok0 117 b4A:=
 fo [] 3 0 c9E a0 Tryz.func117
theorem b6g:Ok0 112 b4B:=
 fo [] 199 0 c9F (b1 c5D<|a0) Tryz.func112
theorem c5E:Ok0 113 b5R:=
 fo [] 7 0 QH (b1 b6g<|a0) Tryz.func113
theorem c7r:Ok0 114 b7b:=
 fo [] 83 8 c9G (b1 b8Y<|b1 b6g<|b1 c5E<|a0) Tryz.func114
theorem c7s:Ok0 267 b3F:=
 fo [] 19 0 c9H (b1 c5D<|a0) Tryz.func267
theorem c7t:Ok0 195 c2s:=
 fo [] 7495 0 c9I (b1 b6g<|b1 c5z<|b1 c2P<|b1 c5A<|b1 c7s<|a0) Tryz.func195
theorem c7u:Ok0 116 c1h:=
 fo [] 97311 64 c9J (b1 b8Y<|b1 b6g<|b1 c5B<|b1 b8X<|b1 c7t<|a0) Tryz.func116
theorem d1x:Ok0 45 c3O:=
 fo [] 11682311054023 16 H45 (b1 c7q<|b1 b8Y<|b1 b6g<|b1 c5E<|b1 c7r<|b1 c5C<|b1 c7u<|a0) Tryz.func45
theorem c7v:Ok0 137 b4C:=
 fo [] 5 0 QH a0 Tryz.func137
theorem c6G:Ok0 59 c2t:=
 fo [(5,.pair (.list true QV) Q0)] 19 4 QH (b1 d1x<|b1 c7v<|a0) Tryz.func59
theorem c7w:Ok0 211 b8j:=
 fo [] 243 0 c9K a0 Tryz.func211
theorem c7x:Ok0 140 b9t:=
 fo [] 509 0 c9L (b1 c5o<|b1 c7w<|a0) Tryz.func140
theorem c5F:Ok0 273 b7c:=
 fo [] 5 0 QH a0 Tryz.func273
theorem c7y:Ok0 271 b5S:=
 fo [] 493 0 c9M (b1 c5F<|a0) Tryz.func271
theorem c7z:Ok0 272 b3G:=
 fo [] 1991 0 c9N a0 Tryz.func272
theorem c7A:Ok0 212 b5h:=
 fo [] 16371 0 c9O (b1 b8W<|b1 c2J<|b1 c7y<|b1 c7z<|b1 c5F<|a0) Tryz.func212
theorem c7B:Ok0 213 b7d:=
 fo [] 4077 0 c9P a0 Tryz.func213
theorem c7C:Ok0 214 b7e:=
 fo [] 28531 0 c9Q (b1 c6E<|a0) Tryz.func214
theorem c5G:Ok0 142 b8k:=
 fo [] 4039 0 QH (b1 c7A<|b1 c7B<|b1 c7C<|a0) Tryz.func142
theorem c7D:Ok0 215 c1i:=
 fo [] 16327 0 c9R (b1 c2L<|a0) Tryz.func215
theorem c7E:Ok0 274 b9u:=
 fo [] 1 0 QH a0 Tryz.func274
theorem c7F:Ok0 216 c1j:=
 fo [] 47523 0 c9S (b1 c2M<|b1 c7E<|a0) Tryz.func216
theorem c7G:Ok0 143 b9v:=
 fo [] 953 0 QH (b1 c5G<|b1 c2M<|b1 c7D<|b1 c7F<|a0) Tryz.func143
theorem c7H:Ok0 141 b3M:=
 fo [] 463 0 QH (b1 c5G<|a0) Tryz.func141
theorem d1y:Ok0 63 b5i:=
 fo [(5,.list true Q19)] 851 147573952589676412928 H63 (b1 c7x<|b1 c7H<|b1 c7G<|a0) Tryz.func63
theorem c6H:Ok0 19 c2u:=
 fo [] 50915 0 H19 (b1 c6F<|b1 c6G<|b1 c4A<|b1 c6A<|b1 c6B<|b1 d1y<|a0) Tryz.func19
theorem c2R:Ok0 25 b8l:=
 fo [] 51 0 H25 a0 Tryz.func25
theorem d1z:Ok0 18 c1k:=
 fo [] 93 0 QH (b1 c6H<|b1 c4B<|b1 c2R<|b1 c6F<|b1 c6G<|a0) Tryz.func18
theorem b1d:Ok0 144 c3P:=
 fo [] 5 0 QH a0 Tryz.func144
theorem a7n:Ok0 64 b9w:=
 fo [] 13 0 H64 (b1 b1d<|a0) Tryz.func64
theorem c4C:Ok0 66 c1l:=
 fo [] 61 0 H66 a0 Tryz.func66
theorem c7I:Ok0 145 c3Q:=
 fo [] 13 0 c9T a0 Tryz.func145
theorem c6I:Ok0 65 c3R:=
 fo [] 243 0 H65 (b1 a7n<|b1 c4C<|b1 c7I<|a0) Tryz.func65
theorem c2S:Ok0 217 b5T:=
 fo [] 1011 0 c9U (b1 a7n<|a0) Tryz.func217
theorem c5H:Ok0 277 c3S:=
 fo [] 5 0 QH a0 Tryz.func277
theorem c5I:Ok0 275 c1m:=
 fo [] 115 0 c9V (b1 c5H<|a0) Tryz.func275
theorem c7J:Ok0 218 b4D:=
 fo [] 115 0 QH (b1 c2S<|b1 c5I<|a0) Tryz.func218
theorem c7K:Ok0 146 b5U:=
 fo [] 509 0 c9W (b1 c2S<|b1 c7J<|a0) Tryz.func146
theorem c5J:Ok0 325 c2v:=
 fo [] 5 0 QH a0 Tryz.func325
theorem c7L:Ok0 323 b9y:=
 fo [] 125 0 c9X (b1 c5J<|a0) Tryz.func323
theorem c7M:Ok0 329 c2w:=
 fo [] 51 0 c9Y a0 Tryz.func329
theorem c7N:Ok0 324 b5j:=
 fo [] 967 0 c9Z (b1 c7M<|a0) Tryz.func324
theorem c7O:Ok0 306 b3H:=
 fo [] 32755 0 d0A (b1 a7n<|b1 c7L<|b1 c7N<|b1 c5J<|a0) Tryz.func306
theorem c7P:Ok0 307 b4E:=
 fo [] 509 0 d0B a0 Tryz.func307
theorem c7Q:Ok0 102 c4x:=
 fo [] 5 0 d0C a0 Tryz.func102
theorem c7R:Ok0 103 c3T:=
 fo [] 5 0 d0D a0 Tryz.func103
theorem c6J:Ok0 38 c3U:=
 fo [] 19 0 QH (b1 c7Q<|b1 c7R<|a0) Tryz.func38
theorem c7S:Ok0 308 b4F:=
 fo [] 16371 0 d0E (b1 c6J<|a0) Tryz.func308
theorem c7T:Ok0 276 b5l:=
 fo [] 8135 0 QH (b1 c7O<|b1 c7P<|b1 c7S<|a0) Tryz.func276
theorem c5K:Ok0 219 b9z:=
 fo [] 1927 0 QH (b1 c7T<|a0) Tryz.func219
theorem c7U:Ok0 147 c2x:=
 fo [] 1295 0 QH (b1 c5K<|a0) Tryz.func147
theorem c7V:Ok0 220 b7f:=
 fo [] 35433496519 0 d0F (b1 a7n<|b1 c5H<|a0) Tryz.func220
theorem c2T:Ok0 224 b8m:=
 fo [] 51 8 d0G a0 Tryz.func224
theorem c5L:Ok0 279 b5V:=
 fo [] 967 32 d0H a0 Tryz.func279
theorem c2U:Ok0 222 b7g:=
 fo [] 967 32 d0I (b1 a7n<|b1 c2T<|b1 c5L<|a0) Tryz.func222
theorem c7W:Ok0 278 b5W:=
 fo [] 1 0 QH a0 Tryz.func278
theorem c7X:Ok0 221 b7h:=
 fo [] 8163 0 d0J (b1 c2U<|b1 c5I<|b1 c7W<|a0) Tryz.func221
theorem c7Y:Ok0 148 c2y:=
 fo [] 3001 0 d0K (b1 c5K<|b1 c7V<|b1 c7X<|b1 c2U<|a0) Tryz.func148
theorem d1A:Ok0 67 c1n:=
 fo [] 435 0 H67 (b1 c7K<|b1 c7U<|b1 c7Y<|a0) Tryz.func67
theorem b8Z:Ok0 223 b5X:=
 fo [] 51 0 d0L a0 Tryz.func223
theorem c5M:Ok0 280 b7i:=
 fo [] 5 2 QH a0 Tryz.func280
theorem c2V:Ok0 225 b7j:=
 fo [] 13 0 d0M (b1 c5M<|a0) Tryz.func225
theorem c5N:Ok0 149 c1o:=
 fo [] 1152921505680593555 4 d0N (b1 b8Z<|b1 c2T<|b1 c2V<|a0) Tryz.func149
theorem c7Z:Ok0 150 c1p:=
 fo [] 13 0 d0O a0 Tryz.func150
theorem c5O:Ok0 281 b4G:=
 fo [] 967 0 d0P (b1 b1d<|b1 b8Z<|a0) Tryz.func281
theorem c8a:Ok0 226 b5m:=
 fo [] 967 0 d0Q (b1 a7n<|b1 b8Z<|b1 c5O<|a0) Tryz.func226
theorem c5P:Ok0 282 b5Y:=
 fo [(15,.pair QI Q8),(16,.pair QI Q8)] 13 2 d0R (b1 c5M<|a0) Tryz.func282
theorem c5Q:Ok0 309 c2z:=
 fo [] 5 0 QH a0 Tryz.func309
theorem c2W:Ok0 283 b3O:=
 fo [] 29 0 d0S (b1 c5Q<|a0) Tryz.func283
theorem c8b:Ok0 310 c2A:=
 fo [] 77 0 QH a0 Tryz.func310
theorem c5R:Ok0 284 b4H:=
 fo [] 243 0 d0T (b1 c2W<|b1 c5Q<|b1 c8b<|a0) Tryz.func284
theorem c8c:Ok0 227 b5Z:=
 fo [] 4083 0 d0U (b1 a7n<|b1 c2V<|b1 c5P<|b1 c2W<|b1 c5R<|a0) Tryz.func227
theorem c8d:Ok0 151 c2B:=
 fo [] 147573952593971544051 4 d0V (b1 c2S<|b1 c2U<|b1 c8a<|b1 c8c<|a0) Tryz.func151
theorem c2X:Ok0 152 b8n:=
 fo [] 5 0 QH a0 Tryz.func152
theorem c5S:Ok0 228 c4y:=
 fo [] 19 0 QH a0 Tryz.func228
theorem b9a:Ok0 229 b6a:=
 fo [] 455 0 d0W (b1 c5S<|a0) Tryz.func229
theorem c2Y:Ok0 293 b7k:=
 fo [] 5 0 QH a0 Tryz.func293
theorem c8e:Ok0 326 c4z:=
 fo [] 13 0 d0X a0 Tryz.func326
theorem c5T:Ok0 312 c3V:=
 fo [] 5 0 QH (b1 b1d<|b1 c8e<|a0) Tryz.func312
theorem c8f:Ok0 311 b8o:=
 fo [] 51 0 d0Y (b1 b1d<|b1 c2Y<|b1 c5T<|a0) Tryz.func311
theorem c2Z:Ok0 287 b9A:=
 fo [] 115 0 d0Z (b1 c8f<|a0) Tryz.func287
theorem c8g:Ok0 285 b8p:=
 fo [] 29 0 d1a (b1 c2Z<|a0) Tryz.func285
theorem b9b:Ok0 233 c2C:=
 fo [] 29 0 d1b (b1 c6J<|a0) Tryz.func233
theorem c5U:Ok0 286 b8q:=
 fo [] 19 0 QH (b1 b9b<|b1 c2Z<|a0) Tryz.func286
theorem c8h:Ok0 230 c2D:=
 fo [] 13 0 QH (b1 c8g<|b1 c5U<|b1 c2Z<|a0) Tryz.func230
theorem c5V:Ok0 288 b8r:=
 fo [] 455 8 d1c (b1 b9a<|b1 c2Y<|a0) Tryz.func288
theorem c5W:Ok0 231 b7l:=
 fo [] 7951 16 d1d (b1 a7n<|b1 b9a<|b1 c5U<|b1 c5V<|a0) Tryz.func231
theorem c8i:Ok0 153 b7m:=
 fo [(15,.pair QI Q2),(48,.pair QI Q2)] 227855 0 d1e (b1 a7n<|b1 c5S<|b1 b9a<|b1 c8h<|b1 c5W<|a0) Tryz.func153
theorem d1B:Ok0 68 b8s:=
 fo [] 140746112925063 32 H68 (b1 a7n<|b1 c6I<|b1 c4C<|b1 c5N<|b1 c7Z<|b1 c8d<|b1 c2X<|b1 c8i<|a0) Tryz.func68
theorem d1C:Ok0 70 b5o:=
 fo [] 51 0 H70 a0 Tryz.func70
theorem d1D:Ok0 71 b7n:=
 fo [] 19 12 QH (b1 c2R<|a0) Tryz.func71
theorem c6K:Ok0 21 b8t:=
 fo [] 19 12 QH (b1 c2R<|b1 d1C<|b1 d1D<|a0) Tryz.func21
theorem c8j:Ok0 295 c1q:=
 fo [] 36031004900589569 2 d1f a0 Tryz.func295
theorem c8k:Ok0 327 b9B:=
 fo [] 5 0 QH a0 Tryz.func327
theorem c8l:Ok0 316 b6b:=
 fo [] 8135 0 d1g (b1 a7n<|b1 b1d<|b1 c8k<|a0) Tryz.func316
theorem c8m:Ok0 317 b5p:=
 fo [] 7951 0 d1h (b1 a7n<|b1 b1d<|b1 b8Z<|b1 c5O<|a0) Tryz.func317
theorem c8n:Ok0 318 b7o:=
 fo [] 1991 32 d1i (b1 a7n<|b1 b1d<|b1 c2T<|b1 c5L<|a0) Tryz.func318
theorem c8o:Ok0 319 b6c:=
 fo [] 4083 0 d1j (b1 a7n<|b1 b1d<|b1 c2V<|b1 c5P<|b1 c2W<|b1 c5R<|a0) Tryz.func319
theorem c8p:Ok0 296 c2E:=
 fo [] 144115192371347773 2 QH (b1 c8l<|b1 c8m<|b1 c8n<|b1 c8o<|a0) Tryz.func296
theorem c8q:Ok0 297 c6h:=
 fo [] 243 0 d1k (b1 b1d<|a0) Tryz.func297
theorem c8r:Ok0 257 b9C:=
 fo [] 8179 4 d1l (b1 c6K<|b1 a7n<|b1 c5N<|b1 c2X<|b1 c5V<|b1 c8j<|b1 c8p<|b1 c8q<|a0) Tryz.func257
theorem c8s:Ok0 232 b9D:=
 fo [] 115 4 QH (b1 c8r<|a0) Tryz.func232
theorem b6h:Ok0 234 b6d:=
 fo [] 199 0 d1m a0 Tryz.func234
theorem c3a:Ok0 236 b7p:=
 fo [] 71 0 d1n (b1 b6h<|a0) Tryz.func236
theorem c8t:Ok0 235 b6e:=
 fo [] 19 8 QH (b1 b9b<|b1 b6h<|b1 c3a<|a0) Tryz.func235
theorem c8u:Ok0 313 b4I:=
 fo [] 51 0 d1o a0 Tryz.func313
theorem c8v:Ok0 289 b9E:=
 fo [] 967 0 d1p (b1 a7n<|b1 b6h<|b1 c2Y<|b1 c5T<|b1 c8u<|a0) Tryz.func289
theorem c8w:Ok0 237 b8u:=
 fo [] 64543 64 d1q (b1 b9a<|b1 c5W<|b1 b9b<|b1 b6h<|b1 c3a<|b1 c8v<|a0) Tryz.func237
theorem c8x:Ok0 154 b9F:=
 fo [] 576478898540249543 16 d1r (b1 c2X<|b1 c8s<|b1 b9b<|b1 b6h<|b1 c8t<|b1 c3a<|b1 c8w<|a0) Tryz.func154
theorem c8y:Ok0 155 b6f:=
 fo [] 5 0 QH a0 Tryz.func155
theorem d1E:Ok0 69 b8v:=
 fo [(6,.pair (.list true QV) .unit),(7,.pair (.list true QV) .unit)] 51 4 QH (b1 c8x<|b1 c8y<|a0) Tryz.func69
theorem d1F:Ok0 20 b8w:=
 fo [] 28131 0 H20 (b1 a7n<|b1 c6I<|b1 c4C<|b1 d1A<|b1 d1B<|b1 d1E<|a0) Tryz.func20
theorem fs6:Ok0 6 a9A:=
 fo [] 60359 0 H6 (b1 d1z<|b1 c6H<|b1 d1F<|b1 c6K<|b1 c4B<|b1 c2R<|a0) Tryz.func6
end Go.Ab
