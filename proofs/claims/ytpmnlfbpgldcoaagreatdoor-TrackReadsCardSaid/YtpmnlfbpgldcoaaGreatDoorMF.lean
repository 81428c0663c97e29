/- Part of the proof: S. Conditions: as each statement tells. -/
import Derived.KernelRfl
import Derived.Test.YtpmnlfbpgldcoaaGreatDoorME
noncomputable section
set_option linter.unusedSimpArgs false
set_option linter.unusedVariables false
namespace Go.Ab
variable {n:Nat}{s:FSem}
open Go.Proofs
set_option maxRecDepth 100000
theorem b7L:Tryz.prog.follows .mixedOrders=true:=by kernel_rfl
theorem f3X:e4c Tryz.prog d2e=true:=by kernel_rfl
theorem f3Y:e4d Tryz.prog d3e=true:=by kernel_rfl
theorem f3Z:e4e Tryz.prog d2e d8s=true:=by kernel_rfl
theorem laidOut:laidOutB Tryz.prog=true:=by kernel_rfl
@[reducible] def Ok0(n:Nat)(s:FSem):Prop:=a5m Tryz.prog G0 n s/\b6p Tryz.prog n
theorem cxo{a:List (Nat×FSem)}{b:List (Nat×Ty)}{c d:Nat}(h:∀p∈a,FOk Tryz.prog G0 p.1 p.2):CxOk Tryz.prog (a1d a b c d):=
 CxOk.of (CxTy.of (tab:=d2e) (l:=d8s) (q:=d3e) (fun _=>rfl) (fun _=>rfl) (fun _=>rfl) f3X f3Y f3Z) (fun _=>rfl) h
theorem b1{l:List (Nat×FSem)}(h:Ok0 n s)(g:∀p∈l,FOk Tryz.prog G0 p.1 p.2):∀p∈(n,s)::l,FOk Tryz.prog G0 p.1 p.2:=a1 (a:=(n,s)) h g
theorem b2{l:List (Nat×FSem)}(h:d2C Tryz.prog G0 n s)(g:∀p∈l,FOk Tryz.prog G0 p.1 p.2):∀p∈(n,s)::l,FOk Tryz.prog G0 p.1 p.2:=e5O (a:=(n,s)) h g
theorem fo{a:List (Nat × FSem)}(b : List (Nat × Ty))(c d : Nat)(H : Hints){fn:Func}{e:Code}(h : ∀ p ∈ a, FOk Tryz.prog G0 p.1 p.2)(hf : Tryz.prog.funcs[n]? = some fn)(hb : fn.body = some e :=by rfl)(hk : e2z fn e H s = true :=by kernel_rfl)(hn : (fn.name == "runtime.NumGoroutine") = false :=by kernel_rfl)(hq : ∀ x, a1c (a1d a b c d) H fn s.ps s.rs x = s.F x :=by intro x; kernel_rfl): Ok0 n s :=
 ⟨a5m.of (cxo h) b7L hf hb hk hq,⟨_,_,hf,hb,hn⟩⟩
theorem e7L:Ok0 67 d1d:=
 fo [] 5 0 QH a0 Tryz.func67
theorem c9t:Ok0 26 a8M:=
 fo [] 5 2 QH (b1 e7L<|a0) Tryz.func26
theorem e7M:Ok0 34 d5h:=
 fo [] 5 0 QH a0 Tryz.func34
theorem f4a:Ok0 84 c8U:=
 fo [] 253 0 H84 a0 Tryz.func84
theorem e7N:Ok0 35 c1P:=
 fo [] 243 0 H35 (b1 f4a<|a0) Tryz.func35
theorem e7O:Ok0 36 c1Q:=
 fo [] 5 0 QH a0 Tryz.func36
theorem e2T:Ok0 37 c1d:=
 fo [] 5 0 H37 a0 Tryz.func37
theorem f4b:Ok0 85 c1e:=
 fo [] 51 0 H85 (b1 e2T<|a0) Tryz.func85
theorem e7P:Ok0 86 c0H:=
 fo [] 5 0 QH a0 Tryz.func86
theorem f4c:Ok0 38 c1R:=
 fo [] 179 0 H38 (b1 f4b<|b1 e7P<|a0) Tryz.func38
theorem e7Q:Ok0 39 c3K:=
 fo [] 5 0 QH a0 Tryz.func39
theorem e7R:Ok0 40 b6B:=
 fo [] 109 0 H40 a0 Tryz.func40
theorem e7S:Ok0 15 c6T:=
 fo [(4,.pair Q14 Q28)] 745 0 H15 (b1 c9t<|b1 e7M<|b1 e7N<|b1 e7O<|b1 e2T<|b1 f4c<|b1 e7Q<|b1 e7R<|a0) Tryz.func15
theorem f4d:Ok0 68 d3f:=
 fo [] 5 0 H68 a0 Tryz.func68
theorem f4e:Ok0 69 d1e:=
 fo [] 5 0 H69 a0 Tryz.func69
theorem c9u:Ok0 27 b1J:=
 fo [] 19 0 QH (b1 f4d<|b1 f4e<|a0) Tryz.func27
theorem d8N:Ok0 58 c4s:=
 fo [] 5 2 QH a0 Tryz.func58
theorem c9v:Ok0 57 b8r:=
 fo [] 85 2 H57 (b1 c9u<|b1 d8N<|b1 e7L<|a0) Tryz.func57
theorem d8O:Ok0 130 c0a:=
 fo [] 19 0 f2a a0 Tryz.func130
theorem e7T:Ok0 93 d1f:=
 fo [] 5 2 QH (b1 c9t<|b1 d8O<|a0) Tryz.func93
theorem d8P:Ok0 133 b5l:=
 fo [] 21 0 f2b a0 Tryz.func133
theorem d8Q:Ok0 144 c1S:=
 fo [] 5 0 QH a0 Tryz.func144
theorem d8R:Ok0 212 c1T:=
 fo [] 83 0 f2c a0 Tryz.func212
theorem d8S:Ok0 213 c6U:=
 fo [] 83 8 f2d a0 Tryz.func213
theorem e4k:Ok0 258 d1g:=
 fo [] 5 2 QH a0 Tryz.func258
theorem d8T:Ok0 214 b8s:=
 fo [] 5 0 f2e (b1 e4k<|a0) Tryz.func214
theorem d8U:Ok0 154 d0m:=
 fo [] 4611688217584863559 16 f2f (b1 d8R<|b1 d8S<|b1 d8T<|a0) Tryz.func154
theorem d8V:Ok0 155 c1U:=
 fo [] 70291 4 f2g a0 Tryz.func155
theorem d3J:Ok0 59 a1v:=
 ⟨a5m.of (cx:=e6Y) (cxo a0) b7L Tryz.func59 rfl (by kernel_rfl) f2h,⟨_,_,Tryz.func59,rfl,by kernel_rfl⟩⟩
theorem e4l:Ok0 59 a3y:=
 ⟨a5m.of (cx:=e4g) (cxo a0) b7L Tryz.func59 rfl (by kernel_rfl) e8V,⟨_,_,Tryz.func59,rfl,by kernel_rfl⟩⟩
theorem e7U:Ok0 246 a1Q:=
 ⟨a5m.of (cx:=e0H) (cxo a0) b7L Tryz.func246 rfl (by kernel_rfl) e6Z,⟨_,_,Tryz.func246,rfl,by kernel_rfl⟩⟩
theorem e4m:Ok0 202 c1V:=
 fo [] 43523 8 f2i (b1 e4l<|b1 e7U<|a0) Tryz.func202
theorem e8Y:Ok0 217 d5i:=
 fo [] 5 2 QH (b1 e4m<|a0) Tryz.func217
theorem d8W:Ok0 215 c4t:=
 fo [] 19 0 QH a0 Tryz.func215
theorem c7C:Ok0 207 b1K:=
 fo [] 455 0 f2j (b1 d8W<|a0) Tryz.func207
theorem e4n:Ok0 218 c4u:=
 fo [] 711 8 f2k (b1 c7C<|a0) Tryz.func218
theorem e8Z:Ok0 159 d3g:=
 fo [] 51 4 f2l (b1 d8P<|b1 d8Q<|b1 d8U<|b1 d8V<|b1 e8Y<|b1 e4n<|a0) Tryz.func159
theorem e4o:Ok0 260 c1W:=
 fo [] 21 0 f2m a0 Tryz.func260
theorem e9a:Ok0 287 c6V:=
 fo [] 11 0 QH a0 Tryz.func287
theorem e9b:Ok0 261 d1h:=
 fo [] 4296020275 0 QH (b1 e9a<|a0) Tryz.func261
theorem e9c:Ok0 219 d3h:=
 fo [] 3527 0 f2n (b1 e4o<|b1 e9b<|a0) Tryz.func219
theorem d8X:Ok0 264 c0I:=
 fo [] 5 0 QH a0 Tryz.func264
theorem d8Y:Ok0 262 b2n:=
 fo [] 21 0 f2o (b1 d8X<|a0) Tryz.func262
theorem e4p:Ok0 263 b6E:=
 fo [] 1991 0 f2p a0 Tryz.func263
theorem e9d:Ok0 220 d1i:=
 fo [] 14095 0 f2q (b1 d8R<|b1 d8Y<|b1 e4p<|b1 d8X<|a0) Tryz.func220
theorem d8Z:Ok0 267 c4v:=
 fo [] 5 0 QH a0 Tryz.func267
theorem d9a:Ok0 265 b3V:=
 fo [] 21 0 f2r (b1 d8Z<|a0) Tryz.func265
theorem e4q:Ok0 266 b8X:=
 fo [] 7951 128 f2s a0 Tryz.func266
theorem e9e:Ok0 221 d5j:=
 fo [] 4039 32 f2t (b1 d8S<|b1 d9a<|b1 e4q<|b1 d8Z<|a0) Tryz.func221
theorem d9b:Ok0 272 b6F:=
 fo [] 5 0 QH a0 Tryz.func272
theorem e4r:Ok0 268 b2W:=
 fo [] 21 0 f2u (b1 d9b<|a0) Tryz.func268
theorem e4s:Ok0 270 b8t:=
 fo [(15,.pair QI Q17),(16,.pair QI Q17)] 13 2 f2v (b1 e4k<|a0) Tryz.func270
theorem e4t:Ok0 289 c6W:=
 fo [] 5 0 QH a0 Tryz.func289
theorem d9c:Ok0 271 a8n:=
 fo [] 61 0 f2w (b1 e4t<|a0) Tryz.func271
theorem e4u:Ok0 273 a9n:=
 fo [] 4202995 0 f2x (b1 d9c<|b1 e4t<|a0) Tryz.func273
theorem e9f:Ok0 222 b2Y:=
 ⟨a5m.ofR (cx:=e4h) (cxo (a1 d3J (a1 d8T (a1 e4r (a1 e4s (a1 d9c (a1 d9b (a1 e4u a0)))))))) b7L (r:=e7a) ⟨e5R,e5S⟩ Tryz.func222 rfl (by kernel_rfl) e8W,⟨_,_,Tryz.func222,rfl,by kernel_rfl⟩⟩
theorem e4v:Ok0 196 c0J:=
 fo [] 5 0 QH a0 Tryz.func196
theorem e9g:Ok0 223 d5k:=
 fo [] 371 0 f2z (b1 e4v<|a0) Tryz.func223
theorem e9h:Ok0 160 d8t:=
 fo [] 604462927822812893676787 4 f2A (b1 e9c<|b1 e9d<|b1 e9e<|b1 e9f<|b1 e9g<|a0) Tryz.func160
theorem e7V:Ok0 94 e0I:=
 fo [] 243 4 QH (b1 e8Z<|b1 e9h<|a0) Tryz.func94
theorem e4w:Ok0 195 d5l:=
 fo [] 5 0 QH a0 Tryz.func195
theorem d9d:Ok0 129 b4u:=
 fo [] 85 0 f2B (b1 e4w<|a0) Tryz.func129
theorem e4x:Ok0 131 b5m:=
 fo [(15,.list true (.list true QI))] 45 0 f2C (b1 d3J<|a0) Tryz.func131
theorem e4y:Ok0 132 b6G:=
 fo [] 967 16 f2D (b1 e4w<|a0) Tryz.func132
theorem f4f:Ok0 95 b4w:=
 ⟨a5m.ofR (cx:=e7b) (cxo (a1 d9d (a1 d8O (a1 e4x (a1 e4y a0))))) b7L (r:=R95) ⟨e5T,e5U⟩ Tryz.func95 rfl (by kernel_rfl) f2E,⟨_,_,Tryz.func95,rfl,by kernel_rfl⟩⟩
theorem e2U:Ok0 42 c0K:=
 fo [] 1945 2 H42 (b1 c9v<|b1 e7T<|b1 e7V<|b1 f4f<|a0) Tryz.func42
theorem e7W:Ok0 73 c4w:=
 fo [] 21 2 QH (b1 e2U<|a0) Tryz.func73
theorem e7X:Ok0 79 b8Y:=
 fo [] 109 0 H79 a0 Tryz.func79
theorem e4z:Ok0 148 c1X:=
 fo [] 109 0 f2F a0 Tryz.func148
theorem e9i:Ok0 152 d5m:=
 fo [] 13 0 QH a0 Tryz.func152
theorem f4g:Ok0 87 c6X:=
 fo [(2,.pair QI Q83),(15,.pair QI Q82),(26,.pair QI Q82),(83,.pair QI Q82),(88,.pair QI Q82),(101,.pair QI Q82),(105,.pair QI Q82)] 4089 0 H87 (b1 e7M<|b1 e7N<|b1 e7O<|b1 e2T<|b1 e7Q<|b1 e7T<|b1 e4z<|b1 e9i<|a0) Tryz.func87
theorem f4h:Ok0 88 d8u:=
 fo [] 5 0 QH a0 Tryz.func88
theorem c9w:Ok0 92 c3L:=
 fo [] 5 0 QH a0 Tryz.func92
theorem e4A:Ok0 139 d0n:=
 fo [] 115 4 QH (b1 e7V<|a0) Tryz.func139
theorem c0d:Ok0 140 b0F:=
 fo [] 45 0 f2G (b1 c9u<|a0) Tryz.func140
theorem e7Y:Ok0 90 c1Y:=
 fo [] 5 0 H90 a0 Tryz.func90
theorem d9e:Ok0 158 c1Z:=
 fo [] 19 0 QH a0 Tryz.func158
theorem c3z:Ok0 210 c3M:=
 fo [] 51 0 f2H (b1 e7Y<|b1 d9e<|a0) Tryz.func210
theorem d2f:Ok0 156 c0b:=
 fo [] 51 0 f2I (b1 c3z<|a0) Tryz.func156
theorem e9j:Ok0 211 c8V:=
 fo [] 115 0 f2J (b1 c0d<|b1 d2f<|b1 c3z<|a0) Tryz.func211
theorem e9k:Ok0 153 d1j:=
 fo [(2,.pair QI Q63)] 178258169 0 f2K (b1 d2f<|b1 c3z<|b1 e9j<|a0) Tryz.func153
theorem d9f:Ok0 253 b2o:=
 fo [] 5 0 QH a0 Tryz.func253
theorem e9l:Ok0 293 c1f:=
 fo [] 115 0 f2L (b1 d9e<|a0) Tryz.func293
theorem e9m:Ok0 294 d1k:=
 fo [] 77 0 QH a0 Tryz.func294
theorem e9n:Ok0 286 d8v:=
 fo [] 499 0 f2M (b1 c9w<|b1 c3z<|b1 e9l<|b1 e9m<|a0) Tryz.func286
theorem e9o:Ok0 259 d8w:=
 fo [] 1991 0 f2N (b1 c9w<|b1 d9f<|b1 e9n<|a0) Tryz.func259
theorem e9p:Ok0 216 d5n:=
 fo [] 4083 0 f2O (b1 c9w<|b1 c0d<|b1 d2f<|b1 c3z<|b1 e9o<|a0) Tryz.func216
theorem e9q:Ok0 157 d5o:=
 fo [(11,.pair QI Q3),(41,.pair QI Q3)] 251783 0 f2P (b1 c9w<|b1 c7C<|b1 c3z<|b1 d8W<|b1 e9p<|a0) Tryz.func157
theorem f4i:Ok0 89 e0J:=
 fo [(7,.pair QI (.pair QI (.pair QI (.pair QI (.pair QI (.pair QL (.pair (.arr 3 QI) (.pair (.list false Q5) Q32))))))))] 8035 0 H89 (b1 c9w<|b1 e4A<|b1 c0d<|b1 d8Q<|b1 e9k<|b1 d8U<|b1 d8V<|b1 d2f<|b1 e9q<|a0) Tryz.func89
theorem f4j:Ok0 91 c1g:=
 fo [] 13 0 H91 (b1 d9e<|a0) Tryz.func91
theorem f4k:Ok0 41 d3i:=
 fo [(5,.pair QI Q85)] 6105 0 H41 (b1 e7W<|b1 e7X<|b1 f4g<|b1 f4h<|b1 f4i<|b1 e7Y<|b1 f4j<|b1 c9w<|a0) Tryz.func41
theorem e7Z:Ok0 16 c5E:=
 fo [] 110623 64 H16 (b1 f4k<|b1 e2U<|a0) Tryz.func16
theorem f4l:Ok0 81 c3N:=
 fo [] 16371 0 QH a0 Tryz.func81
theorem f4m:d2C Tryz.prog G0 82 c3O:=e5Q _
theorem e9r:Ok0 257 c3P:=
 fo [] 5 0 e7c a0 Tryz.func257
theorem e9s:Ok0 209 b5n:=
 fo [] 5 0 QH (b1 e9r<|a0) Tryz.func209
theorem e9t:Ok0 151 c3Q:=
 fo [] 524231 0 f2Q (b1 e9s<|a0) Tryz.func151
theorem f4n:Ok0 83 c3R:=
 fo [] 455 0 QH (b1 e9t<|a0) Tryz.func83
theorem e2V:Ok0 33 d5p:=
 fo [] 967 0 QH (b1 f4l<|b2 f4m<|b1 f4n<|a0) Tryz.func33
theorem e8a:Ok0 14 c2a:=
 fo [] 45 0 H14 (b1 e2V<|a0) Tryz.func14
theorem e2W:Ok0 22 d1l:=
 fo [] 93 2 H22 (b1 c9v<|b1 d8N<|a0) Tryz.func22
theorem f4o:Ok0 96 d1m:=
 fo [] 1779 0 H96 (b1 c9u<|a0) Tryz.func96
theorem f4p:Ok0 43 d3j:=
 fo [] 13 2 H43 (b1 e2W<|b1 c9v<|b1 f4o<|a0) Tryz.func43
theorem f4q:Ok0 97 d3k:=
 fo [] 29 0 H97 (b1 e2V<|a0) Tryz.func97
theorem f4r:Ok0 44 d5q:=
 fo [] 199 0 H44 (b1 e2V<|b1 f4q<|a0) Tryz.func44
theorem e2X:Ok0 17 b3W:=
 fo [] 243 8 QH (b1 e8a<|b1 f4p<|b1 f4r<|a0) Tryz.func17
theorem fs5:Ok0 5 c2b:=
 fo [(6,.pair Q14 d8q),(20,.pair Q14 b9Z),(24,.pair Q14 b9Z),(48,.pair Q14 b9Z),(90,.pair Q14 b9Z),(96,.pair Q14 b9Z)] 5033 0 H5 (b1 e7S<|b1 e7Z<|b1 e2X<|a0) Tryz.func5
theorem f4s:Ok0 21 d5r:=
 fo [(6,.pair QI Q9),(12,.pair QI Q7),(30,.pair QI Q7),(33,.pair QI Q7)] 291 12 H21 (b1 c9v<|b1 d8N<|b1 e4l<|a0) Tryz.func21
theorem fs7:Ok0 7 c2c:=
 fo [] 327603 8 H7 (b1 e7S<|b1 e7Z<|b1 f4s<|b1 e2W<|a0) Tryz.func7
theorem d9g:Ok0 10 c0L:=
 fo [] 51 0 H10 a0 Tryz.func10
theorem f4t:Ok0 28 c2d:=
 fo [(6,.pair QI Q8),(36,.list true (.list true QI)),(37,.pair QI Q8)] 931 8 H28 (b1 c9t<|b1 c9u<|a0) Tryz.func28
theorem e8b:Ok0 71 c2e:=
 fo [] 115 0 H71 (b1 d9d<|b1 d8O<|b1 e4x<|b1 e4y<|a0) Tryz.func71
theorem e9u:Ok0 193 c0M:=
 fo [] 237 0 e7d (b1 d9d<|a0) Tryz.func193
theorem e9v:Ok0 194 c2f:=
 fo [] 135445 0 QH a0 Tryz.func194
theorem e9w:Ok0 128 c4x:=
 fo [] 509 0 e7e (b1 e8b<|b1 e9u<|b1 e9v<|a0) Tryz.func128
theorem f4u:Ok0 70 c4y:=
 fo [] 29 2 H70 (b1 c9v<|b1 e9w<|a0) Tryz.func70
theorem e4B:Ok0 134 b5o:=
 fo [] 371 0 e7f (b1 e4v<|a0) Tryz.func134
theorem e9x:Ok0 197 a1z:=
 ⟨a5m.of (cx:=b3g) (cxo a0) b7L Tryz.func197 rfl (by kernel_rfl) e8X,⟨_,_,Tryz.func197,rfl,by kernel_rfl⟩⟩
theorem e4C:Ok0 135 b3h:=
 fo [] 45 0 e7h (b1 e9x<|a0) Tryz.func135
theorem e4D:Ok0 238 b6I:=
 fo [] 243 0 e7i (b1 e4o<|a0) Tryz.func238
theorem e9y:Ok0 239 c0N:=
 fo [] 243 0 e7j a0 Tryz.func239
theorem e9z:Ok0 198 c2h:=
 fo [] 509 0 e7k (b1 e4D<|b1 e9y<|a0) Tryz.func198
theorem e4E:Ok0 282 b3X:=
 fo [] 5 0 QH a0 Tryz.func282
theorem e9A:Ok0 280 b7D:=
 fo [] 493 0 e7l (b1 e4E<|a0) Tryz.func280
theorem e9B:Ok0 281 b3G:=
 fo [] 1991 0 e7m a0 Tryz.func281
theorem e9C:Ok0 240 b6J:=
 fo [] 16371 0 e7n (b1 d3J<|b1 d8Y<|b1 e9A<|b1 e9B<|b1 e4E<|a0) Tryz.func240
theorem e9D:Ok0 241 b8Z:=
 fo [] 4077 0 e7o a0 Tryz.func241
theorem e9E:Ok0 242 b9a:=
 fo [] 28531 0 e7p (b1 c9u<|a0) Tryz.func242
theorem e4F:Ok0 200 c0P:=
 fo [] 4039 0 QH (b1 e9C<|b1 e9D<|b1 e9E<|a0) Tryz.func200
theorem e9F:Ok0 243 c4A:=
 fo [] 16327 0 e7q (b1 d9a<|a0) Tryz.func243
theorem d9h:Ok0 245 b4z:=
 fo [] 4039 32 e7r (b1 d8S<|b1 d9a<|b1 e4q<|b1 d8Z<|a0) Tryz.func245
theorem e9G:Ok0 283 c2i:=
 fo [] 1 0 QH a0 Tryz.func283
theorem e9H:Ok0 244 c4B:=
 fo [] 47523 0 e7s (b1 d9h<|b1 e9G<|a0) Tryz.func244
theorem e9I:Ok0 201 c2j:=
 fo [] 953 0 QH (b1 e4F<|b1 e9F<|b1 e9H<|b1 d9h<|a0) Tryz.func201
theorem e9J:Ok0 199 b4Y:=
 fo [] 463 0 QH (b1 e4F<|a0) Tryz.func199
theorem e9K:Ok0 136 b6K:=
 fo [(5,.list true Q68)] 851 147573952589676412928 e7t (b1 e9z<|b1 e9J<|b1 e9I<|a0) Tryz.func136
theorem e9L:Ok0 247 c0Q:=
 fo [] 1991 0 e7u (b1 d8R<|b1 d8Y<|b1 e4p<|b1 d8X<|a0) Tryz.func247
theorem e9M:Ok0 248 c2l:=
 fo [] 15987 0 e7v (b1 d3J<|b1 d8T<|b1 e4r<|b1 e4s<|b1 d9c<|b1 d9b<|b1 e4u<|a0) Tryz.func248
theorem e9N:Ok0 203 c4C:=
 fo [] 147573952727119562867 0 e7w (b1 d3J<|b1 d8V<|b1 e4D<|b1 d9h<|b1 e9L<|b1 e9M<|a0) Tryz.func203
theorem e4G:Ok0 249 b5p:=
 fo [] 327 0 e7x (b1 d8W<|a0) Tryz.func249
theorem e4H:Ok0 251 c4E:=
 fo [] 5 0 QH (b1 c0d<|a0) Tryz.func251
theorem d9i:Ok0 254 b4A:=
 fo [] 5 0 QH a0 Tryz.func254
theorem e4I:Ok0 255 b8u:=
 fo [] 141 0 QH (b1 d9i<|a0) Tryz.func255
theorem e9O:Ok0 285 c4F:=
 fo [] 51 0 e7y (b1 d9f<|b1 d9i<|b1 e4I<|a0) Tryz.func285
theorem d9j:Ok0 252 c0c:=
 fo [] 179 0 e7z (b1 e9O<|a0) Tryz.func252
theorem e4J:Ok0 206 b6L:=
 fo [] 7951 16 e7A (b1 c7C<|b1 e4n<|b1 e4G<|b1 e4H<|b1 d9j<|a0) Tryz.func206
theorem e9P:Ok0 284 d5B:=
 fo [] 125 0 e7B (b1 d9j<|a0) Tryz.func284
theorem e9Q:Ok0 250 b9b:=
 fo [] 13 0 QH (b1 e4H<|b1 d9j<|b1 e9P<|a0) Tryz.func250
theorem e9R:Ok0 204 c2m:=
 fo [(14,.pair QI Q3),(40,.pair QI Q3)] 440847 0 e7C (b1 e4J<|b1 c7C<|b1 e4G<|b1 e9Q<|a0) Tryz.func204
theorem e9S:Ok0 137 c7b:=
 fo [] 14727 32 e7D (b1 d8P<|b1 e4B<|b1 e4C<|b1 d8U<|b1 e4m<|b1 e9N<|b1 e9R<|a0) Tryz.func137
theorem d9k:Ok0 146 a7n:=
 fo [] 3 0 e7E a0 Tryz.func146
theorem c7D:Ok0 141 a5r:=
 fo [] 199 0 e7F (b1 d9k<|a0) Tryz.func141
theorem e4K:Ok0 142 b3i:=
 fo [] 7 0 QH (b1 c7D<|a0) Tryz.func142
theorem e9T:Ok0 143 b9c:=
 fo [] 83 8 e7G (b1 c0d<|b1 c7D<|b1 e4K<|a0) Tryz.func143
theorem e9U:Ok0 256 b3H:=
 fo [] 19 0 e7H (b1 d9k<|a0) Tryz.func256
theorem e9V:Ok0 208 c7d:=
 fo [] 7495 0 e7I (b1 c7D<|b1 d9f<|b1 d9i<|b1 e4I<|b1 e9U<|a0) Tryz.func208
theorem e9W:Ok0 145 c4H:=
 fo [] 97311 64 e7J (b1 c0d<|b1 c7D<|b1 e4J<|b1 c7C<|b1 e9V<|a0) Tryz.func145
theorem e8c:Ok0 74 d0p:=
 fo [] 11682311054023 16 H74 (b1 e4A<|b1 c0d<|b1 c7D<|b1 e4K<|b1 e9T<|b1 d8Q<|b1 e9W<|a0) Tryz.func74
theorem e9X:Ok0 205 c3T:=
 fo [] 5 0 QH a0 Tryz.func205
theorem e9Y:Ok0 138 c7e:=
 fo [(5,.pair (.list true QV) Q0)] 19 4 QH (b1 e8c<|b1 e9X<|a0) Tryz.func138
theorem f4v:Ok0 72 c7f:=
 fo [] 50915 0 H72 (b1 d8P<|b1 e4B<|b1 e4C<|b1 e9K<|b1 e9S<|b1 e9Y<|a0) Tryz.func72
theorem f4w:Ok0 29 c2n:=
 fo [(10,.pair QI Q85),(52,.pair QI Q82),(57,.pair QI Q82),(63,.pair QI Q82),(79,.pair QI Q82),(95,.pair QI Q82)] 88591 48 H29 (b1 c9t<|b1 c9v<|b1 d8N<|b1 f4u<|b1 e8b<|b1 f4v<|a0) Tryz.func29
theorem f4x:Ok0 75 b3I:=
 fo [] 1 0 H75 (b1 d9k<|a0) Tryz.func75
theorem f4y:Ok0 76 b3J:=
 fo [] 5 0 QH a0 Tryz.func76
theorem e8d:Ok0 80 b8v:=
 fo [] 45 0 H80 a0 Tryz.func80
theorem e9Z:Ok0 147 c4I:=
 fo [] 5 0 QH a0 Tryz.func147
theorem f4z:Ok0 77 b7E:=
 fo [] 307 4 H77 (b1 e8d<|b1 e9Z<|b1 e4z<|a0) Tryz.func77
theorem f0a:Ok0 149 d1s:=
 fo [] 51 0 e7K (b1 e7P<|a0) Tryz.func149
theorem f0b:Ok0 150 b3F:=⟨e2D _,⟨_,_,Tryz.func150,rfl,by kernel_rfl⟩⟩
theorem e8e:Ok0 78 b8w:=
 fo [] 51 0 QH (b1 f0a<|b1 f0b<|a0) Tryz.func78
theorem e8f:Ok0 30 b8x:=
 fo [(4,.pair (.list true QV) Q0)] 909 2 H30 (b1 e7W<|b1 e8c<|b1 f4x<|b1 f4y<|b1 f4z<|b1 e8e<|b1 e7X<|a0) Tryz.func30
theorem e8g:Ok0 32 c4K:=
 fo [] 6653 2 H32 (b1 e2X<|b1 c9t<|b1 e8f<|b1 e2U<|a0) Tryz.func32
theorem f4A:Ok0 31 c4L:=
 fo [] 5629 2 H31 (b1 e8g<|b1 e7R<|b1 e8e<|b1 e8d<|a0) Tryz.func31
theorem f4B:Ok0 11 b9d:=
 fo [(13,.pair Q14 d8q),(76,.pair Q14 b9Z)] 1431311 16 H11 (b1 e2X<|b1 c9t<|b1 c9u<|b1 f4t<|b1 f4w<|b1 e8f<|b1 f4A<|a0) Tryz.func11
theorem f4C:Ok0 12 b7F:=
 fo [] 253 2 H12 (b1 e2W<|b1 e8g<|a0) Tryz.func12
theorem f4D:Ok0 13 c2p:=
 fo [] 115 4 H13 a0 Tryz.func13
theorem fs4:Ok0 4 b8z:=
 fo [] 4077 0 H4 (b1 fs5<|b1 fs7<|b1 d9g<|b1 f4B<|b1 f4C<|b1 f4D<|b1 e8a<|a0) Tryz.func4 (hq:=by intro x;exact Eq.mp (by kernel_rfl) (d1t b3Y a7M b3j a7N b6M a2p a7L x))
theorem e8h:Ok0 45 c9c:=
 fo [] 5 0 QH a0 Tryz.func45
theorem e8i:Ok0 48 c5H:=
 fo [] 5 0 H48 a0 Tryz.func48
theorem e2Y:Ok0 46 c5I:=
 fo [] 51 0 H46 (b1 e8i<|a0) Tryz.func46
theorem e8j:Ok0 47 c7h:=
 fo [] 243 0 H47 a0 Tryz.func47
theorem f4E:Ok0 49 c7i:=
 fo [] 243 0 H49 (b1 e2Y<|a0) Tryz.func49
theorem f4F:Ok0 50 c9d:=
 fo [] 61 0 H50 a0 Tryz.func50
theorem e2Z:Ok0 51 d5I:=
 fo [] 5 2 QH a0 Tryz.func51
theorem e8k:Ok0 18 d1u:=
 fo [(5,.pair Q14 Q29)] 1331825411864783514947473805148164057 0 H18 (b1 e8h<|b1 e2Y<|b1 e8j<|b1 e8i<|b1 f4E<|b1 f4F<|b1 e2Z<|a0) Tryz.func18
theorem e4L:Ok0 113 d1v:=
 fo [] 51 0 f2R a0 Tryz.func113
theorem e8l:Ok0 60 d1w:=
 fo [] 5 2 QH (b1 e2Z<|b1 e4L<|a0) Tryz.func60
theorem e4M:Ok0 110 d8C:=
 fo [] 61 0 f2S a0 Tryz.func110
theorem e4N:Ok0 162 e2O:=
 fo [] 13 0 f2T a0 Tryz.func162
theorem f4G:Ok0 98 d8D:=
 fo [(2,.pair QI Q84),(7,.pair QI Q83),(18,.pair QI Q82),(29,.pair QI Q82),(40,.pair QI Q82),(96,.pair QI Q82),(110,.pair QI Q82),(115,.pair QI Q82)] 2598684968407909558448516470177657 0 H98 (b1 e8h<|b1 e2Y<|b1 e8j<|b1 e8l<|b1 e4M<|b1 e4N<|a0) Tryz.func98
theorem f4H:Ok0 99 e0M:=
 fo [] 19 0 QH a0 Tryz.func99
theorem e4O:Ok0 100 e2P:=
 fo [] 115 0 f2U a0 Tryz.func100
theorem e4P:Ok0 101 d3y:=
 fo [] 61 0 f2V a0 Tryz.func101
theorem f0c:Ok0 102 c9e:=
 fo [] 5 0 QH a0 Tryz.func102
theorem d9l:Ok0 117 d1x:=
 fo [] 5 0 QH a0 Tryz.func117
theorem f0d:Ok0 126 c5J:=
 fo [] 51 0 f2W a0 Tryz.func126
theorem f0e:Ok0 127 c9f:=
 fo [] 19 12 QH (b1 d9g<|a0) Tryz.func127
theorem e8m:Ok0 66 d1y:=
 fo [] 19 12 QH (b1 d9g<|b1 f0d<|b1 f0e<|a0) Tryz.func66
theorem f0f:Ok0 114 d5J:=
 fo [] 36031004900589569 2 f2X a0 Tryz.func114
theorem d9m:Ok0 181 c7j:=
 fo [] 51 0 f2Y a0 Tryz.func181
theorem e4Q:Ok0 182 d1z:=
 fo [] 51 8 f2Z a0 Tryz.func182
theorem e4R:Ok0 231 c9g:=
 fo [] 5 2 QH a0 Tryz.func231
theorem e4S:Ok0 183 c9h:=
 fo [] 13 0 f3a (b1 e4R<|a0) Tryz.func183
theorem e4T:Ok0 115 d5K:=
 fo [] 1152921505680593555 4 f3b (b1 d9m<|b1 e4Q<|b1 e4S<|a0) Tryz.func115
theorem b4F:Ok0 184 e0N:=
 fo [] 5 0 QH a0 Tryz.func184
theorem b7M:Ok0 116 d3z:=
 fo [] 13 0 f3c (b1 b4F<|a0) Tryz.func116
theorem e4U:Ok0 226 e2Q:=
 fo [] 19 0 QH a0 Tryz.func226
theorem d2g:Ok0 185 c7k:=
 fo [] 455 0 f3d (b1 e4U<|a0) Tryz.func185
theorem c7E:Ok0 186 c9i:=
 fo [] 5 0 QH a0 Tryz.func186
theorem e4V:Ok0 118 d1A:=
 fo [] 455 8 f3e (b1 d2g<|b1 c7E<|a0) Tryz.func118
theorem f0g:Ok0 232 d3A:=
 fo [] 5 0 QH a0 Tryz.func232
theorem f0h:Ok0 187 c7l:=
 fo [] 8135 0 f3f (b1 b7M<|b1 b4F<|b1 f0g<|a0) Tryz.func187
theorem f0i:Ok0 233 c3U:=
 fo [] 967 0 f3g (b1 d9m<|b1 b4F<|a0) Tryz.func233
theorem f0j:Ok0 188 c5K:=
 fo [] 7951 0 f3h (b1 b7M<|b1 d9m<|b1 b4F<|b1 f0i<|a0) Tryz.func188
theorem f0k:Ok0 234 c7m:=
 fo [] 967 32 f3i a0 Tryz.func234
theorem f0l:Ok0 189 c9j:=
 fo [] 1991 32 f3j (b1 b7M<|b1 e4Q<|b1 b4F<|b1 f0k<|a0) Tryz.func189
theorem f0m:Ok0 235 c7n:=
 fo [(15,.pair QI Q17),(16,.pair QI Q17)] 13 2 f3k (b1 e4R<|a0) Tryz.func235
theorem e4W:Ok0 278 d8E:=
 fo [] 5 0 QH a0 Tryz.func278
theorem e4X:Ok0 236 c2r:=
 fo [] 29 0 f3l (b1 e4W<|a0) Tryz.func236
theorem f0n:Ok0 279 d8F:=
 fo [] 77 0 QH a0 Tryz.func279
theorem f0o:Ok0 237 c3V:=
 fo [] 243 0 f3m (b1 e4X<|b1 e4W<|b1 f0n<|a0) Tryz.func237
theorem f0p:Ok0 190 c7o:=
 fo [] 4083 0 f3n (b1 b7M<|b1 e4S<|b1 b4F<|b1 f0m<|b1 e4X<|b1 f0o<|a0) Tryz.func190
theorem f0q:Ok0 119 d8G:=
 fo [] 144115192371347773 2 QH (b1 f0h<|b1 f0j<|b1 f0l<|b1 f0p<|a0) Tryz.func119
theorem f0r:Ok0 120 e6c:=
 fo [] 243 0 f3o (b1 b4F<|a0) Tryz.func120
theorem e8n:Ok0 61 d3B:=
 fo [] 8179 4 H61 (b1 e8m<|b1 f0f<|b1 e4T<|b1 b7M<|b1 d9l<|b1 e4V<|b1 f0q<|b1 f0r<|a0) Tryz.func61
theorem f0s:Ok0 169 d3C:=
 fo [] 115 4 QH (b1 e8n<|a0) Tryz.func169
theorem f0t:Ok0 191 e2R:=
 fo [] 5 0 f3p a0 Tryz.func191
theorem f0u:Ok0 192 e0O:=
 fo [] 5 0 f3q a0 Tryz.func192
theorem d9n:Ok0 125 e0P:=
 fo [] 19 0 QH (b1 f0t<|b1 f0u<|a0) Tryz.func125
theorem c7F:Ok0 170 d8H:=
 fo [] 29 0 f3r (b1 d9n<|a0) Tryz.func170
theorem c7G:Ok0 171 c7p:=
 fo [] 199 0 f3s a0 Tryz.func171
theorem d9o:Ok0 173 c9k:=
 fo [] 71 0 f3t (b1 c7G<|a0) Tryz.func173
theorem f0v:Ok0 172 c7q:=
 fo [] 19 8 QH (b1 c7F<|b1 c7G<|b1 d9o<|a0) Tryz.func172
theorem e4Y:Ok0 176 e2S:=
 fo [] 13 0 f3u a0 Tryz.func176
theorem e4Z:Ok0 276 e0Q:=
 fo [] 5 0 QH (b1 e4Y<|b1 b4F<|a0) Tryz.func276
theorem f0w:Ok0 295 d1B:=
 fo [] 51 0 f3v (b1 b4F<|b1 c7E<|b1 e4Z<|a0) Tryz.func295
theorem f0x:Ok0 292 d3D:=
 fo [] 115 0 f3w (b1 f0w<|a0) Tryz.func292
theorem f0y:Ok0 275 d1C:=
 fo [] 19 0 QH (b1 c7F<|b1 f0x<|a0) Tryz.func275
theorem f0z:Ok0 229 c9l:=
 fo [] 7951 16 f3x (b1 b7M<|b1 e4V<|b1 d2g<|b1 f0y<|a0) Tryz.func229
theorem f0A:Ok0 277 c3W:=
 fo [] 51 0 f3y a0 Tryz.func277
theorem f0B:Ok0 230 d3E:=
 fo [] 967 0 f3z (b1 b7M<|b1 c7G<|b1 c7E<|b1 e4Z<|b1 f0A<|a0) Tryz.func230
theorem f0C:Ok0 174 d1D:=
 fo [] 64543 64 f3A (b1 c7F<|b1 c7G<|b1 d9o<|b1 d2g<|b1 f0z<|b1 f0B<|a0) Tryz.func174
theorem e5a:Ok0 107 d3F:=
 fo [] 576478898540249543 16 f3B (b1 d9l<|b1 f0s<|b1 c7F<|b1 c7G<|b1 f0v<|b1 d9o<|b1 f0C<|a0) Tryz.func107
theorem d9p:Ok0 105 c5M:=
 fo [] 5 0 f3C a0 Tryz.func105
theorem d9q:Ok0 168 c7r:=
 fo [] 19 0 QH a0 Tryz.func168
theorem c3A:Ok0 163 c7s:=
 fo [] 115 0 f3D (b1 d9p<|b1 d9q<|a0) Tryz.func163
theorem f0D:Ok0 225 c2t:=
 fo [] 51 0 f3E (b1 c3A<|a0) Tryz.func225
theorem d9r:Ok0 165 c9m:=
 fo [] 455 0 f3F (b1 f0D<|a0) Tryz.func165
theorem f0E:Ok0 164 c7t:=
 fo [] 51 0 QH (b1 c3A<|b1 d9r<|a0) Tryz.func164
theorem f0F:Ok0 290 c3X:=
 fo [] 51 0 f3G (b1 d9p<|b1 d9q<|a0) Tryz.func290
theorem f0G:Ok0 291 d5L:=
 fo [] 5 0 QH (b1 e4N<|a0) Tryz.func291
theorem f0H:Ok0 274 d3G:=
 fo [] 4039 0 f3H (b1 c3A<|b1 c7E<|b1 f0F<|b1 f0G<|a0) Tryz.func274
theorem f0I:Ok0 227 e0R:=
 fo [] 967 0 f3I (b1 c3A<|b1 d9r<|b1 c7F<|b1 c7E<|b1 f0H<|a0) Tryz.func227
theorem f0J:Ok0 166 d1E:=
 fo [(9,.pair QI Q3),(24,.pair QI Q3)] 64903 0 f3J (b1 c3A<|b1 d2g<|b1 e4U<|b1 f0I<|a0) Tryz.func166
theorem f0K:Ok0 228 c7u:=
 fo [] 5 0 QH a0 Tryz.func228
theorem f0L:Ok0 167 c9n:=
 fo [] 199 0 f3K (b1 f0K<|a0) Tryz.func167
theorem f0M:Ok0 103 d3H:=
 fo [(7,.pair QI Q64),(24,.pair QI Q59),(35,.pair QI Q59),(103,.pair QI Q59),(113,.pair QI Q59),(124,.pair QI Q59),(142,.pair QI Q59),(148,.pair (.list true QV) .unit),(149,.pair (.list true QV) .unit),(162,.pair QI Q59)] 37778934257693487251299 0 f3L (b1 e5a<|b1 e4T<|b1 d9l<|b1 c3A<|b1 f0E<|b1 d9r<|b1 f0J<|b1 f0L<|a0) Tryz.func103
theorem f0N:Ok0 104 c3Y:=
 fo [] 5 0 f3M (b1 d9q<|a0) Tryz.func104
theorem e5b:Ok0 124 d5M:=
 fo [] 13 0 f3N a0 Tryz.func124
theorem f0O:Ok0 121 d8I:=
 fo [] 51 0 f3O (b1 e4L<|b1 b7M<|b1 e5b<|a0) Tryz.func121
theorem f0P:Ok0 122 d3I:=
 fo [(18,.list true (.list true QI))] 29 0 f3P a0 Tryz.func122
theorem f0Q:Ok0 123 e0S:=
 fo [] 199 16 f3Q (b1 b4F<|a0) Tryz.func123
theorem f4I:Ok0 62 c9o:=
 fo [] 243 0 H62 (b1 f0O<|b1 f0P<|b1 f0Q<|a0) Tryz.func62
theorem e8o:Ok0 63 c9p:=
 fo [] 29 2 H63 (b1 e5b<|b1 d9n<|a0) Tryz.func63
theorem e3a:Ok0 23 c5N:=
 fo [] 1017 2 H23 (b1 e8l<|b1 e8n<|b1 f4I<|b1 e8o<|a0) Tryz.func23
theorem e5c:Ok0 106 c9q:=
 fo [] 21 2 QH (b1 e3a<|a0) Tryz.func106
theorem f4J:Ok0 52 c7v:=
 fo [(5,.pair QI Q85)] 12249 0 H52 (b1 f4G<|b1 f4H<|b1 e4O<|b1 e4P<|b1 f0c<|b1 f0M<|b1 f0N<|b1 d9p<|b1 e5c<|a0) Tryz.func52
theorem e8p:Ok0 19 c7w:=
 fo [] 26655 64 H19 (b1 f4J<|a0) Tryz.func19
theorem f4K:Ok0 53 e0T:=
 fo [] 5 0 QH a0 Tryz.func53
theorem f0R:Ok0 108 c3Z:=
 fo [] 29 0 f3R a0 Tryz.func108
theorem f0S:Ok0 175 d1F:=
 fo [] 61 0 f3S a0 Tryz.func175
theorem f0T:Ok0 109 d8J:=
 fo [] 115 4 f3T (b1 f0S<|b1 e4Y<|a0) Tryz.func109
theorem f4L:Ok0 54 c9r:=
 fo [(11,.pair (.list true QV) .unit),(12,.pair (.list true QV) .unit)] 253 2 H54 (b1 e4O<|b1 e4P<|b1 e5c<|b1 e5a<|b1 f0R<|b1 f0T<|b1 e4M<|a0) Tryz.func54
theorem f4M:Ok0 64 c9s:=
 fo [] 5 2 QH a0 Tryz.func64
theorem e8q:Ok0 24 d5N:=
 fo [] 61 2 H24 (b1 e8o<|b1 f4M<|a0) Tryz.func24
theorem f4N:Ok0 55 d5O:=
 fo [] 189 0 H55 (b1 e3a<|b1 e8q<|a0) Tryz.func55
theorem f0U:Ok0 177 d8K:=
 fo [] 5 0 QH a0 Tryz.func177
theorem f0V:Ok0 178 d8L:=
 fo [] 115 0 f3U a0 Tryz.func178
theorem f0W:Ok0 111 e0U:=
 fo [] 243 0 f3V (b1 d9n<|b1 f0U<|b1 f0V<|a0) Tryz.func111
theorem e5d:Ok0 179 e0V:=
 fo [] 19 0 QH a0 Tryz.func179
theorem f0X:Ok0 180 e0W:=
 fo [] 29 0 QH (b1 e5d<|a0) Tryz.func180
theorem f0Y:Ok0 112 d8M:=
 fo [] 29 0 f3W (b1 e5d<|b1 f0X<|a0) Tryz.func112
theorem f4O:Ok0 56 d1G:=
 fo [] 115 0 QH (b1 f0W<|b1 f0Y<|a0) Tryz.func56
theorem f4P:Ok0 20 d5P:=
 fo [(6,.pair Q14 e6W),(22,.pair Q14 b9Z),(27,.pair Q14 (.pair QI (.pair QU (.pair (.nl Q5) Q93)))),(62,.pair Q14 b9Z)] 16291 4 H20 (b1 e2Z<|b1 f4K<|b1 f4L<|b1 f4N<|b1 f4O<|a0) Tryz.func20
theorem fs6:Ok0 6 c7x:=
 fo [] 11241 0 H6 (b1 e8k<|b1 e8p<|b1 f4P<|a0) Tryz.func6
theorem fs8:Ok0 8 c7y:=
 fo [] 442291 8 H8 (b1 e8k<|b1 e8p<|b1 e3a<|b1 e8q<|a0) Tryz.func8
theorem f4Q:Ok0 65 c7z:=
 fo [] 51 0 H65 a0 Tryz.func65
theorem f4R:Ok0 25 c7A:=
 fo [] 51 12 H25 (b1 f4Q<|b1 e8m<|a0) Tryz.func25
theorem fs9:Ok0 9 c7B:=
 fo [] 115 12 H9 (b1 f4R<|a0) Tryz.func9
theorem fs3:Ok0 3 b2q:=
 fo [] 8019 8 QH (b1 fs4<|b1 fs5<|b1 fs6<|b1 fs7<|b1 fs8<|b1 fs9<|b1 d9g<|a0) Tryz.func3
end Go.Ab
