/- Part of the proof: S. Conditions: as each statement tells. -/
import Derived.KernelRfl
import Derived.Test.YtjoohiokfkdfpaaGreatDoorME
noncomputable section
set_option linter.unusedSimpArgs false
set_option linter.unusedVariables false
namespace Go.Ab
variable {n:Nat}{s:FSem}
open Go.Proofs
set_option maxRecDepth 100000
theorem b0P:Tryz.prog.follows .mixedOrders=true:=by kernel_rfl
theorem c9y:B0d Tryz.prog b7P=true:=by kernel_rfl
theorem c9z:B0b Tryz.prog b7V=true:=by kernel_rfl
theorem c9A:A0y Tryz.prog b7P c1x=true:=by kernel_rfl
theorem laidOut:laidOutB Tryz.prog=true:=by kernel_rfl
@[reducible] def Ok0(n:Nat)(s:FSem):Prop:=i0y Tryz.prog G0 n s∧l0x Tryz.prog n
theorem cxo{a:List (Nat×FSem)}{b:List (Nat×Ty)}{c d:Nat}(h:∀p∈a,FOk Tryz.prog G0 p.1 p.2):CxOk Tryz.prog (b2Q a b c d):=
 CxOk.of (CxTy.of (tab:=b7P) (l:=c1x) (q:=b7V) (fun _=>rfl) (fun _=>rfl) (fun _=>rfl) c9y c9z c9A) (fun _=>rfl) h
theorem b1{l:List (Nat×FSem)}(h:Ok0 n s)(g:∀p∈l,FOk Tryz.prog G0 p.1 p.2):∀p∈(n,s)::l,FOk Tryz.prog G0 p.1 p.2:=a1 (a:=(n,s)) h g
theorem b2{l:List (Nat×FSem)}(h:A0f Tryz.prog G0 n s)(g:∀p∈l,FOk Tryz.prog G0 p.1 p.2):∀p∈(n,s)::l,FOk Tryz.prog G0 p.1 p.2:=B0g (a:=(n,s)) h g
theorem fo{a:List (Nat × FSem)}(b : List (Nat × Ty))(c d : Nat)(H : Hints){fn:Func}{e:Code}(h : ∀ p ∈ a, FOk Tryz.prog G0 p.1 p.2)(hf : Tryz.prog.funcs[n]? = some fn)(hb : fn.body = some e :=by rfl)(hk : A0m fn e H s = true :=by kernel_rfl)(hn : (fn.name == "runtime.NumGoroutine") = false :=by kernel_rfl)(hq : ∀ x, A0j (b2Q a b c d) H fn s.ps s.rs x = s.F x :=by intro x; kernel_rfl): Ok0 n s :=
 ⟨i0y.of (cxo h) b0P hf hb hk hq,⟨_,_,hf,hb,hn⟩⟩
theorem c3Z:Ok0 60 b6Z:=
 fo [] 21 0 H60 a0 Tryz.func60
theorem c4T:Ok0 138 b7a:=
 fo [] 5 0 QH a0 Tryz.func138
theorem c6a:Ok0 61 b7b:=
 fo [] 371 0 H61 (b1 c4T<|a0) Tryz.func61
theorem c6J:Ok0 139 a1i:=
 ⟨i0y.of (cx:=a7W) (cxo a0) b0P Tryz.func139 rfl (by kernel_rfl) c6G,⟨_,_,Tryz.func139,rfl,by kernel_rfl⟩⟩
theorem c6b:Ok0 62 b4w:=
 fo [] 45 0 H62 (b1 c6J<|a0) Tryz.func62
theorem c1K:Ok0 199 b7Y:=
 fo [] 83 0 c8c a0 Tryz.func199
theorem c1L:Ok0 200 c1z:=
 fo [] 83 8 c8d a0 Tryz.func200
theorem c4U:Ok0 268 b7c:=
 fo [] 5 2 QH a0 Tryz.func268
theorem c1M:Ok0 201 b3C:=
 fo [] 5 0 c8e (b1 c4U<|a0) Tryz.func201
theorem c1N:Ok0 129 c2T:=
 fo [] 4611688217584863559 16 c8f (b1 c1K<|b1 c1L<|b1 c1M<|a0) Tryz.func129
theorem b4I:Ok0 192 a1y:=
 ⟨i0y.of (cx:=c4R) (cxo a0) b0P Tryz.func192 rfl (by kernel_rfl) c6H,⟨_,_,Tryz.func192,rfl,by kernel_rfl⟩⟩
theorem c6c:Ok0 192 a2a:=
 ⟨i0y.of (cx:=c2U) (cxo a0) b0P Tryz.func192 rfl (by kernel_rfl) c5W,⟨_,_,Tryz.func192,rfl,by kernel_rfl⟩⟩
theorem c6d:Ok0 204 a1g:=
 ⟨i0y.of (cx:=c2V) (cxo a0) b0P Tryz.func204 rfl (by kernel_rfl) c5X,⟨_,_,Tryz.func204,rfl,by kernel_rfl⟩⟩
theorem c4V:Ok0 134 b7Z:=
 fo [] 43523 8 c8g (b1 c6c<|b1 c6d<|a0) Tryz.func134
theorem c1O:Ok0 130 b8a:=
 fo [] 70291 4 c8h a0 Tryz.func130
theorem c4W:Ok0 239 b8b:=
 fo [] 21 0 c8i a0 Tryz.func239
theorem c4X:Ok0 205 b8c:=
 fo [] 243 0 c8j (b1 c4W<|a0) Tryz.func205
theorem c1P:Ok0 243 b7d:=
 fo [] 5 0 QH a0 Tryz.func243
theorem c1Q:Ok0 241 b3Y:=
 fo [] 21 0 c8k (b1 c1P<|a0) Tryz.func241
theorem c4Y:Ok0 242 b3Z:=
 fo [] 1991 0 c8l a0 Tryz.func242
theorem c6K:Ok0 206 b7e:=
 fo [] 1991 0 c8m (b1 c1K<|b1 c1Q<|b1 c4Y<|b1 c1P<|a0) Tryz.func206
theorem c1R:Ok0 246 b9y:=
 fo [] 5 0 QH a0 Tryz.func246
theorem c1S:Ok0 244 b5I:=
 fo [] 21 0 c8n (b1 c1R<|a0) Tryz.func244
theorem c4Z:Ok0 245 b5J:=
 fo [] 7951 128 c8o a0 Tryz.func245
theorem c1T:Ok0 207 b9z:=
 fo [] 4039 32 c8p (b1 c1L<|b1 c1S<|b1 c4Z<|b1 c1R<|a0) Tryz.func207
theorem c1U:Ok0 251 b2S:=
 fo [] 5 0 QH a0 Tryz.func251
theorem c5a:Ok0 247 b0N:=
 fo [] 21 0 c8q (b1 c1U<|a0) Tryz.func247
theorem c5b:Ok0 249 b3D:=
 fo [(15,.pair QI Q9),(16,.pair QI Q9)] 13 2 c8r (b1 c4U<|a0) Tryz.func249
theorem c5c:Ok0 292 b4x:=
 fo [] 5 0 QH a0 Tryz.func292
theorem c1V:Ok0 250 a7X:=
 fo [] 61 0 c8s (b1 c5c<|a0) Tryz.func250
theorem c5d:Ok0 252 a8t:=
 fo [] 4202995 0 c8t (b1 c1V<|b1 c5c<|a0) Tryz.func252
theorem c6L:Ok0 208 b8d:=
 fo [] 15987 0 c8u (b1 b4I<|b1 c1M<|b1 c5a<|b1 c5b<|b1 c1V<|b1 c1U<|b1 c5d<|a0) Tryz.func208
theorem c6M:Ok0 135 b9A:=
 fo [] 147573952727119562867 0 c8v (b1 c1O<|b1 b4I<|b1 c4X<|b1 c6K<|b1 c1T<|b1 c6L<|a0) Tryz.func135
theorem c1W:Ok0 202 b9B:=
 fo [] 19 0 QH a0 Tryz.func202
theorem b4J:Ok0 194 b7f:=
 fo [] 455 0 c8w (b1 c1W<|a0) Tryz.func194
theorem c5e:Ok0 158 b9C:=
 fo [] 711 8 c8x (b1 b4J<|a0) Tryz.func158
theorem c5f:Ok0 209 b7g:=
 fo [] 327 0 c8y (b1 c1W<|a0) Tryz.func209
theorem c6N:Ok0 178 b8e:=
 fo [] 5 0 c8z a0 Tryz.func178
theorem c6O:Ok0 179 b7h:=
 fo [] 5 0 c8A a0 Tryz.func179
theorem c4a:Ok0 87 b7i:=
 fo [] 19 0 QH (b1 c6N<|b1 c6O<|a0) Tryz.func87
theorem b1R:Ok0 111 b5K:=
 fo [] 45 0 c8B (b1 c4a<|a0) Tryz.func111
theorem c5g:Ok0 262 b9D:=
 fo [] 5 0 QH (b1 b1R<|a0) Tryz.func262
theorem c1X:Ok0 264 b4a:=
 fo [] 5 0 QH a0 Tryz.func264
theorem c1Y:Ok0 265 b9E:=
 fo [] 5 0 QH a0 Tryz.func265
theorem c5h:Ok0 266 b9F:=
 fo [] 141 0 QH (b1 c1Y<|a0) Tryz.func266
theorem c6P:Ok0 304 b9G:=
 fo [] 51 0 c8C (b1 c1X<|b1 c1Y<|b1 c5h<|a0) Tryz.func304
theorem c1Z:Ok0 263 c1A:=
 fo [] 179 0 c8D (b1 c6P<|a0) Tryz.func263
theorem c5i:Ok0 193 b8f:=
 fo [] 7951 16 c8E (b1 c5e<|b1 b4J<|b1 c5f<|b1 c5g<|b1 c1Z<|a0) Tryz.func193
theorem c6Q:Ok0 270 b9H:=
 fo [] 125 0 c8F (b1 c1Z<|a0) Tryz.func270
theorem c6R:Ok0 210 b5L:=
 fo [] 13 0 QH (b1 c5g<|b1 c1Z<|b1 c6Q<|a0) Tryz.func210
theorem c6S:Ok0 136 b8g:=
 fo [(14,.pair QI Q1),(40,.pair QI Q1)] 440847 0 c8G (b1 c5i<|b1 b4J<|b1 c5f<|b1 c6R<|a0) Tryz.func136
theorem c9B:Ok0 58 c1B:=
 fo [] 14727 32 H58 (b1 c3Z<|b1 c6a<|b1 c6b<|b1 c1N<|b1 c4V<|b1 c6M<|b1 c6S<|a0) Tryz.func58
theorem c2a:Ok0 115 b8h:=
 fo [] 5 0 QH a0 Tryz.func115
theorem c6T:Ok0 157 b9I:=
 fo [] 5 2 QH (b1 c4V<|a0) Tryz.func157
theorem c9C:Ok0 75 b8i:=
 fo [] 51 4 H75 (b1 c3Z<|b1 c2a<|b1 c1N<|b1 c1O<|b1 c6T<|b1 c5e<|a0) Tryz.func75
theorem c6U:Ok0 290 b4y:=
 fo [] 11 0 QH a0 Tryz.func290
theorem c6V:Ok0 240 b7j:=
 fo [] 4296020275 0 QH (b1 c6U<|a0) Tryz.func240
theorem c6W:Ok0 159 b8j:=
 fo [] 3527 0 c8H (b1 c4W<|b1 c6V<|a0) Tryz.func159
theorem c6X:Ok0 160 b7k:=
 fo [] 14095 0 c8I (b1 c1K<|b1 c1Q<|b1 c4Y<|b1 c1P<|a0) Tryz.func160
theorem c6Y:Ok0 161 b9J:=
 fo [] 4039 32 c8J (b1 c1L<|b1 c1S<|b1 c4Z<|b1 c1R<|a0) Tryz.func161
theorem c6Z:Ok0 162 a8d:=
 ⟨i0y.ofR (cx:=c4S) (cxo (a1 b4I (a1 c1M (a1 c5a (a1 c5b (a1 c1V (a1 c1U (a1 c5d a0)))))))) b0P (r:=c5Y) ⟨c5s,c5t⟩ Tryz.func162 rfl (by kernel_rfl) c6I,⟨_,_,Tryz.func162,rfl,by kernel_rfl⟩⟩
theorem c7a:Ok0 163 b9K:=
 fo [] 371 0 c8L (b1 c4T<|a0) Tryz.func163
theorem c9D:Ok0 76 c1C:=
 fo [] 604462927822812893676787 4 H76 (b1 c6W<|b1 c6X<|b1 c6Y<|b1 c6Z<|b1 c7a<|a0) Tryz.func76
theorem c6e:Ok0 24 c2W:=
 fo [] 243 4 QH (b1 c9C<|b1 c9D<|a0) Tryz.func24
theorem c5j:Ok0 110 c2X:=
 fo [] 115 4 QH (b1 c6e<|a0) Tryz.func110
theorem c2b:Ok0 117 b3u:=
 fo [] 3 0 c8M a0 Tryz.func117
theorem b4K:Ok0 112 b3v:=
 fo [] 199 0 c8N (b1 c2b<|a0) Tryz.func112
theorem c5k:Ok0 113 b4z:=
 fo [] 7 0 QH (b1 b4K<|a0) Tryz.func113
theorem c7b:Ok0 114 b5M:=
 fo [] 83 8 c8O (b1 b1R<|b1 b4K<|b1 c5k<|a0) Tryz.func114
theorem c7c:Ok0 267 b2I:=
 fo [] 19 0 c8P (b1 c2b<|a0) Tryz.func267
theorem c7d:Ok0 195 c1D:=
 fo [] 7495 0 c8Q (b1 b4K<|b1 c1X<|b1 c1Y<|b1 c5h<|b1 c7c<|a0) Tryz.func195
theorem c7e:Ok0 116 b9L:=
 fo [] 97311 64 c8R (b1 b1R<|b1 b4K<|b1 c5i<|b1 b4J<|b1 c7d<|a0) Tryz.func116
theorem c6f:Ok0 45 c2Y:=
 fo [] 11682311054023 16 H45 (b1 c5j<|b1 b1R<|b1 b4K<|b1 c5k<|b1 c7b<|b1 c2a<|b1 c7e<|a0) Tryz.func45
theorem c7f:Ok0 137 b3w:=
 fo [] 5 0 QH a0 Tryz.func137
theorem c9E:Ok0 59 c1E:=
 fo [(5,.pair (.list true QV) Q0)] 19 4 QH (b1 c6f<|b1 c7f<|a0) Tryz.func59
theorem c7g:Ok0 211 b7l:=
 fo [] 243 0 c8S a0 Tryz.func211
theorem c7h:Ok0 140 b8k:=
 fo [] 509 0 c8T (b1 c4X<|b1 c7g<|a0) Tryz.func140
theorem c5l:Ok0 273 b5N:=
 fo [] 5 0 QH a0 Tryz.func273
theorem c7i:Ok0 271 b4A:=
 fo [] 493 0 c8U (b1 c5l<|a0) Tryz.func271
theorem c7j:Ok0 272 b2J:=
 fo [] 1991 0 c8V a0 Tryz.func272
theorem c7k:Ok0 212 b4b:=
 fo [] 16371 0 c8W (b1 b4I<|b1 c1Q<|b1 c7i<|b1 c7j<|b1 c5l<|a0) Tryz.func212
theorem c7l:Ok0 213 b5O:=
 fo [] 4077 0 c8X a0 Tryz.func213
theorem c7m:Ok0 214 b5P:=
 fo [] 28531 0 c8Y (b1 c4a<|a0) Tryz.func214
theorem c5m:Ok0 142 b7m:=
 fo [] 4039 0 QH (b1 c7k<|b1 c7l<|b1 c7m<|a0) Tryz.func142
theorem c7n:Ok0 215 b9M:=
 fo [] 16327 0 c8Z (b1 c1S<|a0) Tryz.func215
theorem c7o:Ok0 274 b8l:=
 fo [] 1 0 QH a0 Tryz.func274
theorem c7p:Ok0 216 b9N:=
 fo [] 47523 0 c9a (b1 c1T<|b1 c7o<|a0) Tryz.func216
theorem c7q:Ok0 143 b8m:=
 fo [] 953 0 QH (b1 c5m<|b1 c1T<|b1 c7n<|b1 c7p<|a0) Tryz.func143
theorem c7r:Ok0 141 b2U:=
 fo [] 463 0 QH (b1 c5m<|a0) Tryz.func141
theorem c9F:Ok0 63 b4c:=
 fo [(5,.list true Q31)] 851 147573952589676412928 H63 (b1 c7h<|b1 c7r<|b1 c7q<|a0) Tryz.func63
theorem c9G:Ok0 19 c1F:=
 fo [] 50915 0 H19 (b1 c9B<|b1 c9E<|b1 c3Z<|b1 c6a<|b1 c6b<|b1 c9F<|a0) Tryz.func19
theorem c6g:Ok0 41 b9O:=
 fo [] 5 2 QH a0 Tryz.func41
theorem c5n:Ok0 104 b7n:=
 fo [] 5 0 QH a0 Tryz.func104
theorem c4b:Ok0 39 b9P:=
 fo [] 85 2 H39 (b1 c6g<|b1 c4a<|b1 c5n<|a0) Tryz.func39
theorem c6h:Ok0 40 b7o:=
 fo [] 5 2 QH (b1 c5n<|a0) Tryz.func40
theorem c5o:Ok0 191 b9Q:=
 fo [] 5 0 QH a0 Tryz.func191
theorem c2c:Ok0 106 b3F:=
 fo [] 85 0 c9b (b1 c5o<|a0) Tryz.func106
theorem c2d:Ok0 107 b4B:=
 fo [] 19 0 c9c a0 Tryz.func107
theorem c5p:Ok0 108 b2y:=
 fo [(15,.list true (.list true QI))] 45 0 c9d (b1 b4I<|a0) Tryz.func108
theorem c5q:Ok0 109 b2V:=
 fo [] 967 16 c9e (b1 c5o<|a0) Tryz.func109
theorem c6i:Ok0 43 c2Z:=
 fo [] 115 0 H43 (b1 c2c<|b1 c2d<|b1 c5p<|b1 c5q<|a0) Tryz.func43
theorem c7s:Ok0 189 b7p:=
 fo [] 237 0 c9f (b1 c2c<|a0) Tryz.func189
theorem c7t:Ok0 190 b8n:=
 fo [] 135445 0 QH a0 Tryz.func190
theorem c7u:Ok0 105 b9R:=
 fo [] 509 0 c9g (b1 c6i<|b1 c7s<|b1 c7t<|a0) Tryz.func105
theorem c9H:Ok0 42 b9S:=
 fo [] 29 2 H42 (b1 c4b<|b1 c7u<|a0) Tryz.func42
theorem c6j:Ok0 12 b8o:=
 fo [(10,.pair QI Q45),(52,.pair QI Q43),(57,.pair QI Q43),(63,.pair QI Q43),(79,.pair QI Q43),(95,.pair QI Q43)] 88591 48 H12 (b1 c9G<|b1 c4b<|b1 c6h<|b1 c6g<|b1 c9H<|b1 c6i<|a0) Tryz.func12
theorem c6k:Ok0 72 b7q:=
 fo [] 5 2 QH (b1 c6h<|b1 c2d<|a0) Tryz.func72
theorem c9I:Ok0 73 a8R:=
 ⟨i0y.ofR (cx:=c5Z) (cxo (a1 c2c (a1 c2d (a1 c5p (a1 c5q a0))))) b0P (r:=R73) ⟨c5u,c5v⟩ Tryz.func73 rfl (by kernel_rfl) c9h,⟨_,_,Tryz.func73,rfl,by kernel_rfl⟩⟩
theorem c6l:Ok0 22 b7r:=
 fo [] 1945 2 H22 (b1 c6e<|b1 c4b<|b1 c6k<|b1 c9I<|a0) Tryz.func22
theorem c6m:Ok0 44 b9T:=
 fo [] 21 2 QH (b1 c6l<|a0) Tryz.func44
theorem c9J:Ok0 46 b2K:=
 fo [] 1 0 H46 (b1 c2b<|a0) Tryz.func46
theorem c9K:Ok0 47 b2L:=
 fo [] 5 0 QH a0 Tryz.func47
theorem c7v:Ok0 118 b9U:=
 fo [] 5 0 QH a0 Tryz.func118
theorem c7w:Ok0 119 b9V:=
 fo [] 45 0 c9i a0 Tryz.func119
theorem c5r:Ok0 120 b8p:=
 fo [] 109 0 c9j a0 Tryz.func120
theorem c9L:Ok0 48 b4C:=
 fo [] 307 4 H48 (b1 c7v<|b1 c7w<|b1 c5r<|a0) Tryz.func48
theorem c7x:Ok0 181 b7s:=
 fo [] 5 0 QH a0 Tryz.func181
theorem c9M:Ok0 91 b7t:=
 fo [] 51 0 H91 (b1 c7x<|a0) Tryz.func91
theorem c7y:Ok0 121 a8s:=⟨c3S _,⟨_,_,Tryz.func121,rfl,by kernel_rfl⟩⟩
theorem c9N:Ok0 49 b9W:=
 fo [] 51 0 QH (b1 c9M<|b1 c7y<|a0) Tryz.func49
theorem c6n:Ok0 50 b5U:=
 fo [] 109 0 H50 a0 Tryz.func50
theorem c4c:Ok0 13 b9X:=
 fo [(4,.pair (.list true QV) Q0)] 909 2 H13 (b1 c6m<|b1 c6f<|b1 c9J<|b1 c9K<|b1 c9L<|b1 c9N<|b1 c6n<|a0) Tryz.func13
theorem c7z:Ok0 122 b9Y:=
 fo [] 5 0 QH a0 Tryz.func122
theorem c7A:Ok0 196 b5V:=
 fo [] 253 0 c9k a0 Tryz.func196
theorem c7B:Ok0 123 b2W:=
 fo [] 243 0 c9l (b1 c7A<|a0) Tryz.func123
theorem c7C:Ok0 124 b9Z:=
 fo [] 13 0 QH a0 Tryz.func124
theorem c7D:Ok0 125 b2X:=
 fo [] 5 0 QH a0 Tryz.func125
theorem c7E:Ok0 126 b2M:=
 fo [] 5 0 c9m a0 Tryz.func126
theorem c7F:Ok0 127 b3x:=
 fo [] 5 0 QH a0 Tryz.func127
theorem c6o:Ok0 51 b4D:=
 fo [(2,.pair QI Q44),(15,.pair QI Q43),(26,.pair QI Q43),(83,.pair QI Q43),(88,.pair QI Q43),(101,.pair QI Q43),(105,.pair QI Q43)] 4089 0 H51 (b1 c6k<|b1 c5r<|b1 c7z<|b1 c7B<|b1 c7C<|b1 c7D<|b1 c7E<|b1 c7F<|a0) Tryz.func51
theorem c9O:Ok0 52 c1G:=
 fo [] 5 0 QH a0 Tryz.func52
theorem b6a:Ok0 56 b3y:=
 fo [] 5 0 QH a0 Tryz.func56
theorem c6p:Ok0 54 b2Y:=
 fo [] 5 0 H54 a0 Tryz.func54
theorem c2e:Ok0 133 b2Z:=
 fo [] 19 0 QH a0 Tryz.func133
theorem b3p:Ok0 197 b3z:=
 fo [] 51 0 c9n (b1 c6p<|b1 c2e<|a0) Tryz.func197
theorem b7Q:Ok0 131 b1Q:=
 fo [] 51 0 c9o (b1 b3p<|a0) Tryz.func131
theorem c7G:Ok0 198 b5W:=
 fo [] 115 0 c9p (b1 b1R<|b1 b7Q<|b1 b3p<|a0) Tryz.func198
theorem c7H:Ok0 128 b7u:=
 fo [(2,.pair QI Q28)] 178258169 0 c9q (b1 b7Q<|b1 b3p<|b1 c7G<|a0) Tryz.func128
theorem c7I:Ok0 321 b2N:=
 fo [] 115 0 c9r (b1 c2e<|a0) Tryz.func321
theorem c7J:Ok0 322 b7v:=
 fo [] 77 0 QH a0 Tryz.func322
theorem c7K:Ok0 305 c1H:=
 fo [] 499 0 c9s (b1 b6a<|b1 b3p<|b1 c7I<|b1 c7J<|a0) Tryz.func305
theorem c7L:Ok0 269 c1I:=
 fo [] 1991 0 c9t (b1 b6a<|b1 c1X<|b1 c7K<|a0) Tryz.func269
theorem c7M:Ok0 203 c0A:=
 fo [] 4083 0 c9u (b1 b6a<|b1 b1R<|b1 b7Q<|b1 b3p<|b1 c7L<|a0) Tryz.func203
theorem c7N:Ok0 132 c0B:=
 fo [(11,.pair QI Q1),(41,.pair QI Q1)] 251783 0 c9v (b1 b6a<|b1 b4J<|b1 b3p<|b1 c1W<|b1 c7M<|a0) Tryz.func132
theorem c9P:Ok0 53 c3a:=
 fo [(7,.pair QI (.pair QI (.pair QI (.pair QI (.pair QI (.pair QL (.pair (.arr 3 QI) (.pair (.list false Q3) Q14))))))))] 8035 0 H53 (b1 b6a<|b1 c5j<|b1 b1R<|b1 c2a<|b1 c7H<|b1 c1N<|b1 c1O<|b1 b7Q<|b1 c7N<|a0) Tryz.func53
theorem c9Q:Ok0 55 b2O:=
 fo [] 13 0 H55 (b1 c2e<|a0) Tryz.func55
theorem c2f:Ok0 15 b8q:=
 fo [(5,.pair QI Q45)] 6105 0 H15 (b1 c6m<|b1 c6n<|b1 c6o<|b1 c9O<|b1 c9P<|b1 c6p<|b1 c9Q<|b1 b6a<|a0) Tryz.func15
theorem c4d:Ok0 25 b7w:=
 fo [] 51 0 H25 a0 Tryz.func25
theorem c9R:Ok0 70 b4d:=
 fo [] 51 0 H70 a0 Tryz.func70
theorem c9S:Ok0 71 b5X:=
 fo [] 19 12 QH (b1 c4d<|a0) Tryz.func71
theorem c9T:Ok0 21 b7x:=
 fo [] 19 12 QH (b1 c4d<|b1 c9R<|b1 c9S<|a0) Tryz.func21
theorem c9U:Ok0 57 b4E:=
 fo [] 51 0 H57 a0 Tryz.func57
theorem c6q:Ok0 16 b4F:=
 fo [] 51 12 H16 (b1 c9T<|b1 c9U<|a0) Tryz.func16
theorem c9V:Ok0 74 b5Y:=
 fo [] 51 0 H74 (b1 c4d<|a0) Tryz.func74
theorem c9W:Ok0 23 b4G:=
 fo [] 19 12 QH (b1 c9V<|a0) Tryz.func23
theorem c9X:Ok0 27 b8r:=
 fo [] 953 0 H27 (b1 c6o<|a0) Tryz.func27
theorem c9Y:Ok0 36 b8s:=
 fo [] 435 0 H36 (b1 c2f<|a0) Tryz.func36
theorem fs9:Ok0 9 c0C:=
 fo [] 60273 0 QH (b1 c6j<|b1 c4c<|b1 c2f<|b1 c6q<|b1 c6l<|b1 c9W<|b1 c9X<|b1 c9Y<|a0) Tryz.func9
theorem c9Z:Ok0 10 c1J:=
 fo [] 51 4 H10 a0 Tryz.func10
theorem d0A:Ok0 37 c0D:=
 fo [] 13 0 H37 a0 Tryz.func37
theorem c7O:Ok0 102 c3Y:=
 fo [] 5 0 c9w a0 Tryz.func102
theorem c7P:Ok0 103 c3b:=
 fo [] 5 0 c9x a0 Tryz.func103
theorem d0B:Ok0 38 c3c:=
 fo [] 19 0 QH (b1 c7O<|b1 c7P<|a0) Tryz.func38
theorem d0C:Ok0 11 b5Z:=
 fo [] 29 2 H11 (b1 d0A<|b1 d0B<|a0) Tryz.func11
theorem d0D:Ok0 14 b8t:=
 fo [] 435 0 QH (b1 c4c<|b1 c2f<|a0) Tryz.func14
theorem d0E:Ok0 17 c3d:=
 fo [] 19 0 QH a0 Tryz.func17
theorem fs3:Ok0 3 a7L:=
 fo [] 916751 16 H3 (b1 fs9<|b1 c9Z<|b1 d0C<|b1 c6j<|b1 c4c<|b1 d0D<|b1 c2f<|b1 c6q<|b1 d0E<|a0) Tryz.func3
end Go.Ab
