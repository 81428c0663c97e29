/- Part of the proof: S. Conditions: as each statement tells. -/
import Derived.KernelRfl
import Derived.Test.YtbadoabamddpfaaGreatDoorME
noncomputable section
set_option linter.unusedSimpArgs false
set_option linter.unusedVariables false
namespace Go.Ab
open Go.Proofs
set_option maxRecDepth 100000
theorem b4m:Tryz.prog.follows .mixedOrders=true:=by kernel_rfl
theorem d6H:B0d Tryz.prog c2P=true:=by kernel_rfl
theorem d6I:B0b Tryz.prog c2Y=true:=by kernel_rfl
theorem d6J:A0y Tryz.prog c2P c5z=true:=by kernel_rfl
theorem laidOut:laidOutB Tryz.prog=true:=by kernel_rfl
@[reducible] def Ok0(n:Nat)(s:FSem):Prop:=i0y Tryz.prog G0 n s∧l0x Tryz.prog n
theorem cxo{a:List (Nat×FSem)}{b:List (Nat×Ty)}{c d:List Nat}(h:∀p∈a,FOk Tryz.prog G0 p.1 p.2):CxOk Tryz.prog (a9T a b c d):=
 CxOk.of (CxTy.of (tab:=c2P) (l:=c5z) (q:=c2Y) (fun _=>rfl) (fun _=>rfl) (fun _=>rfl) d6H d6I d6J) (fun _=>rfl) h
theorem fo (a : List (Nat × FSem)) (b : List (Nat × Ty)) (c d : List Nat) (H : Hints) {n : Nat} {fn : Func} {e : Code} {s : FSem} (h : ∀ p ∈ a, FOk Tryz.prog G0 p.1 p.2) (hf : Tryz.prog.funcs[n]? = some fn) (hb : fn.body = some e :=by rfl) (hk : A0m fn e H s = true :=by kernel_rfl) (hn : (fn.name == "runtime.NumGoroutine") = false :=by kernel_rfl) (hq : ∀ x, A0j (a9T a b c d) H fn s.ps s.rs x = s.F x :=by intro x; kernel_rfl) : Ok0 n s :=
 ⟨i0y.of (cxo h) b4m hf hb hk hq,⟨_,_,hf,hb,hn⟩⟩
theorem c5B:Ok0 22 a7r:=
 fo [] [] [0,2] [1] QH a0 Tryz.func22
theorem d2T:Ok0 175 b6N:=
 fo [] [] [0,2] [] d4W a0 Tryz.func175
theorem d2U:Ok0 176 b6u:=
 fo [] [] [0,2] [] d4X a0 Tryz.func176
theorem c1h:Ok0 95 a3F:=
 fo [(175,b6N),(176,b6u)] [] [0,1,4] [] QH (a1 d2T (a1 d2U a0)) Tryz.func95
theorem c9A:Ok0 111 b2B:=
 fo [] [] [0,2] [] QH a0 Tryz.func111
theorem c1i:Ok0 56 a4g:=
 fo [(22,a7r),(95,a3F),(111,b2B)] [] [0,2,4,6] [1] H56 (a1 c5B (a1 c1h (a1 c9A a0))) Tryz.func56
theorem c1j:Ok0 57 a3G:=
 fo [(111,b2B)] [] [0,2] [1] QH (a1 c9A a0) Tryz.func57
theorem c5C:Ok0 114 b2T:=
 fo [] [] [0,1,4] [] d4Y a0 Tryz.func114
theorem c9B:Ok0 105 b2C:=
 fo [(57,a3G),(114,b2T)] [] [0,2] [1] QH (a1 c1j (a1 c5C a0)) Tryz.func105
theorem c5D:Ok0 117 a9r:=
 fo [] [] [0,2,4] [] d4Z a0 Tryz.func117
theorem c5E:Ok0 128 a9U:=
 fo [] [] [0,2] [] QH a0 Tryz.func128
theorem c5F:Ok0 211 a9V:=
 fo [] [] [0,1,4,6] [] d5a a0 Tryz.func211
theorem c5G:Ok0 212 b2U:=
 fo [] [] [0,1,4,6] [3] d5b a0 Tryz.func212
theorem c9C:Ok0 271 b2D:=
 fo [] [] [0,2] [1] QH a0 Tryz.func271
theorem c5H:Ok0 213 b1G:=
 fo [(271,b2D)] [] [0,2] [] d5c (a1 c9C a0) Tryz.func213
theorem c5I:Ok0 150 b4d:=
 fo [(211,a9V),(212,b2U),(213,b1G)] [] [0,1,2,6,8,11,27,41,62] [4] d5d (a1 c5F (a1 c5G (a1 c5H a0))) Tryz.func150
theorem c5J:Ok0 151 a9W:=
 fo [] [] [0,1,4,7,9,12,16] [2] d5e a0 Tryz.func151
theorem b9z:Ok0 183 a1a:=
 ⟨i0y.of (cx:=c9x) (cxo a0) b4m Tryz.func183 rfl (by kernel_rfl) d2P,⟨_,_,Tryz.func183,rfl,by kernel_rfl⟩⟩
theorem c7c:Ok0 183 a1l:=
 ⟨i0y.of (cx:=c6Z) (cxo a0) b4m Tryz.func183 rfl (by kernel_rfl) d1O,⟨_,_,Tryz.func183,rfl,by kernel_rfl⟩⟩
theorem d1W:Ok0 251 a1c:=
 ⟨i0y.of (cx:=c7a) (cxo a0) b4m Tryz.func251 rfl (by kernel_rfl) d1P,⟨_,_,Tryz.func251,rfl,by kernel_rfl⟩⟩
theorem c9D:Ok0 196 b3w:=
 fo [(183,a1l),(251,a1c)] [] [0,1,9,11,13,15] [3] d5f (a1 c7c (a1 d1W a0)) Tryz.func196
theorem d2V:Ok0 235 b7S:=
 fo [(196,b3w)] [] [0,2] [1] QH (a1 c9D a0) Tryz.func235
theorem c5K:Ok0 214 b1I:=
 fo [] [] [0,1,4] [] QH a0 Tryz.func214
theorem b9A:Ok0 201 a5a:=
 fo [(214,b1I)] [] [0,1,2,6,7,8] [] d5g (a1 c5K a0) Tryz.func201
theorem c9E:Ok0 236 b4I:=
 fo [(201,a5a)] [] [0,1,2,6,7,9] [3] d5h (a1 b9A a0) Tryz.func236
theorem d2W:Ok0 184 b6O:=
 fo [(117,a9r),(128,a9U),(150,b4d),(151,a9W),(235,b7S),(236,b4I)] [] [0,1,4,5] [2] d5i (a1 c5D (a1 c5E (a1 c5I (a1 c5J (a1 d2V (a1 c9E a0)))))) Tryz.func184
theorem c9F:Ok0 288 b3x:=
 fo [] [] [0,2,4] [] d5j a0 Tryz.func288
theorem d2X:Ok0 325 b4f:=
 fo [] [] [0,1,3] [] QH a0 Tryz.func325
theorem d2Y:Ok0 289 b6v:=
 fo [(325,b4f)] [] [0,1,4,5,8,12,20,32] [] QH (a1 d2X a0) Tryz.func289
theorem d2Z:Ok0 237 b6P:=
 fo [(288,b3x),(289,b6v)] [] [0,1,2,6,7,8,10,11] [] d5k (a1 c9F (a1 d2Y a0)) Tryz.func237
theorem c5L:Ok0 292 a9t:=
 fo [] [] [0,2] [] QH a0 Tryz.func292
theorem c5M:Ok0 290 a6D:=
 fo [(292,a9t)] [] [0,2,4] [] d5l (a1 c5L a0) Tryz.func290
theorem c9G:Ok0 291 a9E:=
 fo [] [] [0,1,2,6,7,8,9,10] [] d5m a0 Tryz.func291
theorem d3a:Ok0 238 b6w:=
 fo [(211,a9V),(290,a6D),(291,a9E),(292,a9t)] [] [0,1,2,3,8,9,10,12,13] [] d5n (a1 c5F (a1 c5M (a1 c9G (a1 c5L a0)))) Tryz.func238
theorem c5N:Ok0 295 b1J:=
 fo [] [] [0,2] [] QH a0 Tryz.func295
theorem c5O:Ok0 293 a8s:=
 fo [(295,b1J)] [] [0,2,4] [] d5o (a1 c5N a0) Tryz.func293
theorem c9H:Ok0 294 b1m:=
 fo [] [] [0,1,2,3,8,9,10,11,12] [7] d5p a0 Tryz.func294
theorem d3b:Ok0 239 b7T:=
 fo [(212,b2U),(293,a8s),(294,b1m),(295,b1J)] [] [0,1,2,6,7,8,9,10,11] [5] d5q (a1 c5G (a1 c5O (a1 c9H (a1 c5N a0)))) Tryz.func239
theorem c5P:Ok0 300 a9Z:=
 fo [] [] [0,2] [] QH a0 Tryz.func300
theorem c9I:Ok0 296 b0A:=
 fo [(300,a9Z)] [] [0,2,4] [] d5r (a1 c5P a0) Tryz.func296
theorem c9J:Ok0 298 b4J:=
 fo [(271,b2D)] [(15,.pair QI Q14),(16,.pair QI Q14)] [0,2,3] [1] d5s (a1 c9C a0) Tryz.func298
theorem c9K:Ok0 327 b0B:=
 fo [] [] [0,2] [] QH a0 Tryz.func327
theorem c5Q:Ok0 299 a3U:=
 fo [(327,b0B)] [] [0,2,3,4,5] [] d5t (a1 c9K a0) Tryz.func299
theorem c9L:Ok0 301 a7C:=
 fo [(299,a3U),(327,b0B)] [] [0,1,4,5,6,7,8,13,22] [] d5u (a1 c5Q (a1 c9K a0)) Tryz.func301
theorem d3c:Ok0 240 a7V:=
 ⟨i0y.ofR (cx:=c9y) (cxo (a1 b9z (a1 c5H (a1 c9I (a1 c9J (a1 c5Q (a1 c5P (a1 c9L a0)))))))) b4m (r:=d1Q) ⟨d0O,d0P⟩ Tryz.func240 rfl (by kernel_rfl) d2Q,⟨_,_,Tryz.func240,rfl,by kernel_rfl⟩⟩
theorem c9M:Ok0 190 b2E:=
 fo [] [] [0,2] [] QH a0 Tryz.func190
theorem d3d:Ok0 241 b7U:=
 fo [(190,b2E)] [] [0,1,4,5,6,8] [] d5w (a1 c9M a0) Tryz.func241
theorem d3e:Ok0 185 b9p:=
 fo [(237,b6P),(238,b6w),(239,b7T),(240,a7V),(241,b7U)] [] [0,1,4,5,6,7,10,24,28,40,54,79] [2] d5x (a1 d2Z (a1 d3a (a1 d3b (a1 d3c (a1 d3d a0))))) Tryz.func185
theorem c9N:Ok0 106 b6Q:=
 fo [(184,b6O),(185,b9p)] [] [0,1,4,5,6,7] [2] QH (a1 d2W (a1 d3e a0)) Tryz.func106
theorem c9O:Ok0 189 b4K:=
 fo [] [] [0,2] [] QH a0 Tryz.func189
theorem c5R:Ok0 113 b1L:=
 fo [(189,b4K)] [] [0,2,4,6] [] d5y (a1 c9O a0) Tryz.func113
theorem c9P:Ok0 115 b2F:=
 fo [(183,a1a)] [(15,.list true (.list true QI))] [0,2,3,5] [] d5z (a1 b9z a0) Tryz.func115
theorem c9Q:Ok0 116 b3y:=
 fo [(189,b4K)] [] [0,1,2,6,7,8,9] [4] d5A (a1 c9O a0) Tryz.func116
theorem d3f:Ok0 107 a9h:=
 ⟨i0y.ofR (cx:=c9z) (cxo (a1 c5R (a1 c5C (a1 c9P (a1 c9Q a0))))) b4m (r:=d1R) ⟨d0Q,d0R⟩ Tryz.func107 rfl (by kernel_rfl) d2R,⟨_,_,Tryz.func107,rfl,by kernel_rfl⟩⟩
theorem c5S:Ok0 50 a7e:=
 fo [(56,a4g),(105,b2C),(106,b6Q),(107,a9h)] [] [0,3,4,7,8,9,10] [1] H50 (a1 c1i (a1 c9B (a1 c9N (a1 d3f a0)))) Tryz.func50
theorem d1X:Ok0 61 b4L:=
 fo [(50,a7e)] [] [0,2,4] [1] QH (a1 c5S a0) Tryz.func61
theorem c9R:Ok0 123 b6R:=
 fo [(106,b6Q)] [] [0,1,4,5,6] [2] QH (a1 c9N a0) Tryz.func123
theorem b5I:Ok0 124 a2u:=
 fo [(95,a3F)] [] [0,2,3,5] [] d5C (a1 c1h a0) Tryz.func124
theorem c5T:Ok0 130 a5T:=
 fo [] [] [0,1] [] d5D a0 Tryz.func130
theorem b9B:Ok0 125 a2J:=
 fo [(130,a5T)] [] [0,1,2,6,7] [] d5E (a1 c5T a0) Tryz.func125
theorem c9S:Ok0 126 b0D:=
 fo [(125,a2J)] [] [0,1,2] [] QH (a1 b9B a0) Tryz.func126
theorem d3g:Ok0 127 b5g:=
 fo [(124,a2u),(125,a2J),(126,b0D)] [] [0,1,4,6] [3] d5F (a1 b5I (a1 b9B (a1 c9S a0))) Tryz.func127
theorem c9T:Ok0 254 b2G:=
 fo [(214,b1I)] [] [0,1,2,6,8] [] d5G (a1 c5K a0) Tryz.func254
theorem c9U:Ok0 256 b4M:=
 fo [(124,a2u)] [] [0,2] [] QH (a1 b5I a0) Tryz.func256
theorem c5U:Ok0 258 a6G:=
 fo [] [] [0,2] [] QH a0 Tryz.func258
theorem c5V:Ok0 259 b1N:=
 fo [] [] [0,2] [] QH a0 Tryz.func259
theorem c9V:Ok0 260 b4N:=
 fo [(259,b1N)] [] [0,2,3,7] [] QH (a1 c5V a0) Tryz.func260
theorem d3h:Ok0 307 b7V:=
 fo [(258,a6G),(259,b1N),(260,b4N)] [] [0,1,4,5] [] d5H (a1 c5U (a1 c5V (a1 c9V a0))) Tryz.func307
theorem c5W:Ok0 257 b2W:=
 fo [(307,b7V)] [] [0,1,4,5,7] [] d5I (a1 d3h a0) Tryz.func257
theorem c9W:Ok0 200 b3A:=
 fo [(201,a5a),(236,b4I),(254,b2G),(256,b4M),(257,b2W)] [] [0,1,2,3,8,9,10,11,12] [4] d5J (a1 b9A (a1 c9E (a1 c9T (a1 c9U (a1 c5W a0))))) Tryz.func200
theorem d3i:Ok0 261 b1e:=
 fo [(130,a5T)] [] [0,1,4] [] d5K (a1 c5T a0) Tryz.func261
theorem d3j:Ok0 202 b9q:=
 fo [(125,a2J),(258,a6G),(259,b1N),(260,b4N),(261,b1e)] [] [0,1,2,6,8,10,11,12] [] d5L (a1 b9B (a1 c5U (a1 c5V (a1 c9V (a1 d3i a0))))) Tryz.func202
theorem d3k:Ok0 129 b7W:=
 fo [(124,a2u),(125,a2J),(200,b3A),(201,a5a),(202,b9q)] [] [0,1,2,3,4,10,11,12,13,14,16] [6] d5M (a1 b5I (a1 b9B (a1 c9W (a1 b9A (a1 d3j a0))))) Tryz.func129
theorem d1Y:Ok0 62 b6S:=
 fo [(123,b6R),(124,a2u),(125,a2J),(126,b0D),(127,b5g),(128,a9U),(129,b7W)] [] [0,1,2,6,7,9,13,37,39,41,43] [4] H62 (a1 c9R (a1 b5I (a1 b9B (a1 c9S (a1 d3g (a1 c5E (a1 d3k a0))))))) Tryz.func62
theorem d6K:Ok0 63 b1f:=
 fo [(130,a5T)] [] [0] [] H63 (a1 c5T a0) Tryz.func63
theorem d6L:Ok0 64 b1g:=
 fo [] [] [0,2] [] QH a0 Tryz.func64
theorem d1Z:Ok0 88 b4O:=
 fo [] [] [0,2,3,5] [] H88 a0 Tryz.func88
theorem d3l:Ok0 131 b7X:=
 fo [] [] [0,2] [] QH a0 Tryz.func131
theorem c9X:Ok0 132 b3B:=
 fo [] [] [0,2,3,5,6] [] d5N a0 Tryz.func132
theorem d6M:Ok0 65 b4g:=
 fo [(88,b4O),(131,b7X),(132,b3B)] [] [0,1,4,5,8] [2] H65 (a1 d1Z (a1 d3l (a1 c9X a0))) Tryz.func65
theorem c9Y:Ok0 203 b2H:=
 fo [] [] [0,2] [] QH a0 Tryz.func203
theorem d3m:Ok0 133 b6x:=
 fo [(203,b2H)] [] [0,1,4,5] [] d5O (a1 c9Y a0) Tryz.func133
theorem d3n:Ok0 134 a5R:=⟨c8h _,⟨_,_,Tryz.func134,rfl,by kernel_rfl⟩⟩
theorem d2a:Ok0 66 b4P:=
 fo [(133,b6x),(134,a5R)] [] [0,1,4,5] [] QH (a1 d3m (a1 d3n a0)) Tryz.func66
theorem d2b:Ok0 67 b1n:=
 fo [] [] [0,2,3,5,6] [] H67 a0 Tryz.func67
theorem c8o:Ok0 19 b1Q:=
 fo [(61,b4L),(62,b6S),(63,b1f),(64,b1g),(65,b4g),(66,b4P),(67,b1n)] [(4,.pair (.list true QV) Q0)] [0,2,3,7,8,9] [1] H19 (a1 d1X (a1 d1Y (a1 d6K (a1 d6L (a1 d6M (a1 d2a (a1 d2b a0))))))) Tryz.func19
theorem d3o:Ok0 179 b2L:=
 fo [] [] [0,1,4,5,6,7,8,9,10,11,12,13] [] QH a0 Tryz.func179
theorem d3p:A0f Tryz.prog G0 180 b2M:=c8i _
theorem d3q:Ok0 324 b2O:=
 fo [] [] [0,2] [] d1S a0 Tryz.func324
theorem d3r:Ok0 287 a7h:=
 fo [(324,b2O)] [] [0,2] [] QH (a1 d3q a0) Tryz.func287
theorem d3s:Ok0 233 b2P:=
 fo [(287,a7h)] [] [0,1,2,6,7,8,9,10,11,12,13,14,15,16,17,18] [] d5P (a1 d3r a0) Tryz.func233
theorem d3t:Ok0 181 b2Q:=
 fo [(233,b2P)] [] [0,1,2,6,7,8] [] QH (a1 d3s a0) Tryz.func181
theorem c5X:Ok0 101 b1R:=
 fo [(179,b2L),(180,b2M),(181,b2Q)] [] [0,1,2,6,7,8,9] [] QH (a1 d3o (B0g d3p (a1 d3t a0))) Tryz.func101
theorem d2c:Ok0 42 b3C:=
 fo [(101,b1R)] [] [0,2,3,5] [] H42 (a1 c5X a0) Tryz.func42
theorem c5Y:Ok0 86 a5f:=
 fo [(22,a7r),(56,a4g)] [] [0,2,3,4,6] [1] H86 (a1 c5B (a1 c1i a0)) Tryz.func86
theorem d3u:Ok0 231 b6y:=
 fo [(95,a3F)] [] [0,1,4,5,6,7,9,10] [] d5Q (a1 c1h a0) Tryz.func231
theorem d3v:Ok0 177 b6T:=
 fo [(56,a4g),(86,a5f),(231,b6y)] [] [0,2,3] [1] d5R (a1 c1i (a1 c5Y (a1 d3u a0))) Tryz.func177
theorem d3w:Ok0 232 b6U:=
 fo [(101,b1R)] [] [0,2,3,4] [] d5S (a1 c5X a0) Tryz.func232
theorem d3x:Ok0 178 b7Y:=
 fo [(101,b1R),(232,b6U)] [] [0,1,2,6,7] [] d5T (a1 c5X (a1 d3w a0)) Tryz.func178
theorem c8p:Ok0 97 a8A:=
 fo [(42,b3C),(177,b6T),(178,b7Y)] [] [0,1,4,5,6,7] [3] QH (a1 d2c (a1 d3v (a1 d3x a0))) Tryz.func97
theorem d2d:Ok0 85 b4Q:=
 fo [(19,b1Q),(50,a7e),(57,a3G),(97,a8A)] [] [0,2,3,4,5,6,7,8,11,12] [1] H85 (a1 c8o (a1 c5S (a1 c1j (a1 c8p a0)))) Tryz.func85
theorem d6N:Ok0 27 b4i:=
 fo [(85,b4Q),(86,a5f)] [] [0,2,3,4,5,6,7] [1] H27 (a1 d2d (a1 c5Y a0)) Tryz.func27
theorem d6O:Ok0 31 b6X:=
 fo [] [] [0,1,4,5,6] [2] H31 a0 Tryz.func31
theorem d2e:Ok0 35 b2I:=
 fo [] [] [0,1,4,5] [] H35 a0 Tryz.func35
theorem d2f:Ok0 59 b6Y:=
 fo [(113,b1L),(114,b2T),(115,b2F),(116,b3y)] [] [0,1,4,5,6] [] H59 (a1 c5R (a1 c5C (a1 c9P (a1 c9Q a0)))) Tryz.func59
theorem d3y:Ok0 187 b6z:=
 fo [(113,b1L)] [] [0,2,3,5,6,7] [] d5U (a1 c5R a0) Tryz.func187
theorem d3z:Ok0 188 b6Z:=
 fo [] [] [0,2,4,8,12,17] [] QH a0 Tryz.func188
theorem d3A:Ok0 112 b7Z:=
 fo [(59,b6Y),(187,b6z),(188,b6Z)] [] [0,2,3,4,5,6,7,8] [] d5V (a1 d2f (a1 d3y (a1 d3z a0))) Tryz.func112
theorem d6P:Ok0 58 b8a:=
 fo [(56,a4g),(112,b7Z)] [] [0,2,3,4] [1] H58 (a1 c1i (a1 d3A a0)) Tryz.func58
theorem c9Z:Ok0 118 b2J:=
 fo [(190,b2E)] [] [0,1,4,5,6,8] [] d5W (a1 c9M a0) Tryz.func118
theorem d3B:Ok0 191 a1g:=
 ⟨i0y.of (cx:=b0L) (cxo a0) b4m Tryz.func191 rfl (by kernel_rfl) d2S,⟨_,_,Tryz.func191,rfl,by kernel_rfl⟩⟩
theorem d0A:Ok0 119 b0M:=
 fo [(191,a1g)] [] [0,2,3,5] [] d5X (a1 d3B a0) Tryz.func119
theorem d0B:Ok0 243 b3E:=
 fo [(288,b3x)] [] [0,1,4,5,6,7] [] d5Y (a1 c9F a0) Tryz.func243
theorem d3C:Ok0 244 b6A:=
 fo [] [] [0,1,4,5,6,7] [] d5Z a0 Tryz.func244
theorem d3D:Ok0 192 b7b:=
 fo [(243,b3E),(244,b6A)] [] [0,2,3,4,5,6,7,8] [] d6a (a1 d0B (a1 d3C a0)) Tryz.func192
theorem d0C:Ok0 304 b1o:=
 fo [] [] [0,2] [] QH a0 Tryz.func304
theorem d3E:Ok0 302 b4j:=
 fo [(304,b1o)] [] [0,2,3,5,6,7,8] [] d6b (a1 d0C a0) Tryz.func302
theorem d3F:Ok0 303 b1h:=
 fo [] [] [0,1,2,6,7,8,9,10] [] d6c a0 Tryz.func303
theorem d3G:Ok0 245 b3F:=
 fo [(183,a1a),(290,a6D),(302,b4j),(303,b1h),(304,b1o)] [] [0,1,4,5,6,7,8,9,10,11,12,13] [] d6d (a1 b9z (a1 c5M (a1 d3E (a1 d3F (a1 d0C a0))))) Tryz.func245
theorem d3H:Ok0 246 b5h:=
 fo [] [] [0,2,3,5,6,7,8,9,10,11] [] d6e a0 Tryz.func246
theorem d3I:Ok0 247 b5i:=
 fo [(95,a3F)] [] [0,1,4,5,6,8,9,10,11,13,14] [] d6f (a1 c1h a0) Tryz.func247
theorem d0D:Ok0 194 b2K:=
 fo [(245,b3F),(246,b5h),(247,b5i)] [] [0,1,2,6,7,8,9,10,11] [] QH (a1 d3G (a1 d3H (a1 d3I a0))) Tryz.func194
theorem d3J:Ok0 248 b8c:=
 fo [(293,a8s)] [] [0,1,2,6,7,8,9,10,11,12,13] [] d6g (a1 c5O a0) Tryz.func248
theorem c5Z:Ok0 250 a9m:=
 fo [(212,b2U),(293,a8s),(294,b1m),(295,b1J)] [] [0,1,2,6,7,8,9,10,11] [5] d6h (a1 c5G (a1 c5O (a1 c9H (a1 c5N a0)))) Tryz.func250
theorem d3K:Ok0 305 b3G:=
 fo [] [] [0] [] QH a0 Tryz.func305
theorem d3L:Ok0 249 b8e:=
 fo [(250,a9m),(305,b3G)] [] [0,1,5,7,8,11,12,13,15] [] d1U (a1 c5Z (a1 d3K a0)) Tryz.func249
theorem d3M:Ok0 195 b7c:=
 fo [(194,b2K),(248,b8c),(249,b8e),(250,a9m)] [] [0,3,4,5,7,8,9] [] QH (a1 d0D (a1 d3J (a1 d3L (a1 c5Z a0)))) Tryz.func195
theorem d3N:Ok0 193 b2n:=
 fo [(194,b2K)] [] [0,1,2,3,6,7,8] [] QH (a1 d0D a0) Tryz.func193
theorem d3O:Ok0 120 b3H:=
 fo [(192,b7b),(193,b2n),(195,b7c)] [(5,.list true Q42)] [0,1,4,6,8,9] [67] d6i (a1 d3D (a1 d3N (a1 d3M a0))) Tryz.func120
theorem d3P:Ok0 252 b6B:=
 fo [(211,a9V),(290,a6D),(291,a9E),(292,a9t)] [] [0,1,2,6,7,8,9,10] [] d6j (a1 c5F (a1 c5M (a1 c9G (a1 c5L a0)))) Tryz.func252
theorem d3Q:Ok0 253 b7d:=
 fo [(183,a1a),(213,b1G),(296,b0A),(298,b4J),(299,a3U),(300,a9Z),(301,a7C)] [] [0,1,4,5,6,9,10,11,12,13] [] d6k (a1 b9z (a1 c5H (a1 c9I (a1 c9J (a1 c5Q (a1 c5P (a1 c9L a0))))))) Tryz.func253
theorem d3R:Ok0 197 b8f:=
 fo [(151,a9W),(183,a1a),(243,b3E),(250,a9m),(252,b6B),(253,b7d)] [] [0,1,4,5,6,11,22,37,67] [] d6l (a1 c5J (a1 b9z (a1 d0B (a1 c5Z (a1 d3P (a1 d3Q a0)))))) Tryz.func197
theorem d3S:Ok0 306 b8g:=
 fo [(257,b2W)] [] [0,2,3,4,5,6] [] d6m (a1 c5W a0) Tryz.func306
theorem d3T:Ok0 255 b5j:=
 fo [(256,b4M),(257,b2W),(306,b8g)] [] [0,2,3] [] QH (a1 c9U (a1 c5W (a1 d3S a0))) Tryz.func255
theorem d3U:Ok0 198 b7e:=
 fo [(200,b3A),(201,a5a),(254,b2G),(255,b5j)] [(14,.pair QI Q1),(40,.pair QI Q1)] [0,1,2,3,9,11,12,13,15,17,18] [] d6n (a1 c9W (a1 b9A (a1 c9T (a1 d3T a0)))) Tryz.func198
theorem d3V:Ok0 121 b9r:=
 fo [(117,a9r),(118,b2J),(119,b0M),(150,b4d),(196,b3w),(197,b8f),(198,b7e)] [] [0,1,2,7,8,11,12,13] [5] d6o (a1 c5D (a1 c9Z (a1 d0A (a1 c5I (a1 c9D (a1 d3R (a1 d3U a0))))))) Tryz.func121
theorem d3W:Ok0 199 b2R:=
 fo [] [] [0,2] [] QH a0 Tryz.func199
theorem d3X:Ok0 122 b9s:=
 fo [(62,b6S),(199,b2R)] [(5,.pair (.list true QV) Q0)] [0,1,4] [2] QH (a1 d1Y (a1 d3W a0)) Tryz.func122
theorem d6Q:Ok0 60 b9t:=
 fo [(117,a9r),(118,b2J),(119,b0M),(120,b3H),(121,b9r),(122,b9s)] [] [0,1,5,6,7,9,10,14,15] [] H60 (a1 c5D (a1 c9Z (a1 d0A (a1 d3O (a1 d3V (a1 d3X a0)))))) Tryz.func60
theorem d6R:Ok0 18 b7f:=
 fo [(22,a7r),(56,a4g),(57,a3G),(58,b8a),(59,b6Y),(60,b9t)] [(10,.pair QI Q56),(52,.pair QI Q54),(57,.pair QI Q54),(63,.pair QI Q54),(79,.pair QI Q54),(95,.pair QI Q54)] [0,1,2,3,9,11,12,14,16] [4,5] H18 (a1 c5B (a1 c1i (a1 c1j (a1 d6P (a1 d2f (a1 d6Q a0)))))) Tryz.func18
theorem d2g:Ok0 89 a9F:=
 fo [] [] [0,2,3,5,6] [] H89 a0 Tryz.func89
theorem d6S:Ok0 29 b8h:=
 fo [(66,b4P),(85,b4Q),(88,b4O),(89,a9F)] [] [0,2,3,4,5,6,7,8,10,12] [1] H29 (a1 d2a (a1 d2d (a1 d1Z (a1 d2g a0)))) Tryz.func29
theorem d6T:Ok0 96 b7g:=
 fo [(57,a3G),(95,a3F)] [(6,.pair QI Q6),(36,.list true (.list true QI)),(37,.pair QI Q6)] [0,1,5,7,8,9] [3] H96 (a1 c1j (a1 c1h a0)) Tryz.func96
theorem d2h:Ok0 37 b1p:=
 fo [(18,b7f),(19,b1Q),(29,b8h),(57,a3G),(95,a3F),(96,b7g),(97,a8A)] [(13,.pair Q12 Q71),(76,.pair Q12 Q70)] [0,1,2,3,8,9,10,12,14,15,16,18,20] [4] H37 (a1 d6R (a1 c8o (a1 d6S (a1 c1j (a1 c1h (a1 d6T (a1 c8p a0))))))) Tryz.func37
theorem d0E:Ok0 143 b4R:=
 fo [] [] [0,2] [] QH a0 Tryz.func143
theorem d3Y:Ok0 208 b5k:=
 fo [] [] [0,2,3,4,5,6,7] [] d6p a0 Tryz.func208
theorem d0F:Ok0 144 a8a:=
 fo [(208,b5k)] [] [0,1,4,5,6,7] [] d6q (a1 d3Y a0) Tryz.func144
theorem d0G:Ok0 146 a8b:=
 fo [] [] [0,2] [] QH a0 Tryz.func146
theorem c6a:Ok0 147 a4T:=
 fo [] [] [0,2] [] d6r a0 Tryz.func147
theorem d0H:Ok0 148 a8X:=
 fo [] [] [0,2] [] QH a0 Tryz.func148
theorem d3Z:Ok0 234 b1i:=
 fo [(147,a4T)] [] [0,1,4,5] [] d6s (a1 c6a a0) Tryz.func234
theorem d4a:Ok0 182 b2o:=
 fo [(203,b2H),(234,b1i)] [] [0,1,4,5,7] [] d6t (a1 c9Y (a1 d3Z a0)) Tryz.func182
theorem d0I:Ok0 102 a7Q:=
 fo [(57,a3G),(89,a9F),(143,b4R),(144,a8a),(146,a8b),(147,a4T),(148,a8X),(182,b2o)] [(4,.pair Q12 Q21)] [0,3,5,6,7,9] [] d6u (a1 c1j (a1 d2g (a1 d0E (a1 d0F (a1 d0G (a1 c6a (a1 d0H (a1 d4a a0)))))))) Tryz.func102
theorem d4b:Ok0 145 b8i:=
 fo [] [] [0,2,3] [] QH a0 Tryz.func145
theorem d6U:Ok0 71 b4k:=
 fo [(105,b2C),(132,b3B),(143,b4R),(144,a8a),(145,b8i),(146,a8b),(147,a4T),(148,a8X)] [(2,.pair QI Q55),(15,.pair QI Q54),(26,.pair QI Q54),(83,.pair QI Q54),(88,.pair QI Q54),(101,.pair QI Q54),(105,.pair QI Q54)] [0,3,4,5,6,7,8,9,10,11] [] H71 (a1 c9B (a1 c9X (a1 d0E (a1 d0F (a1 d4b (a1 d0G (a1 c6a (a1 d0H a0)))))))) Tryz.func71
theorem d6V:Ok0 72 b9u:=
 fo [] [] [0,2] [] QH a0 Tryz.func72
theorem c1k:Ok0 76 a2e:=
 fo [] [] [0,2] [] QH a0 Tryz.func76
theorem d2i:Ok0 74 a8c:=
 fo [] [] [0,2] [] H74 a0 Tryz.func74
theorem c6b:Ok0 154 a5C:=
 fo [] [] [0,1,4] [] QH a0 Tryz.func154
theorem b7J:Ok0 209 a2f:=
 fo [(74,a8c),(154,a5C)] [] [0,1,4,5] [] d6v (a1 d2i (a1 c6b a0)) Tryz.func209
theorem c2Q:Ok0 152 a2E:=
 fo [(209,a2f)] [] [0,1,4,5] [] d6w (a1 b7J a0) Tryz.func152
theorem d4c:Ok0 210 b5l:=
 fo [(124,a2u),(152,a2E),(209,a2f)] [] [0,1,4,5,6] [] d6x (a1 b5I (a1 c2Q (a1 b7J a0))) Tryz.func210
theorem d4d:Ok0 149 b6C:=
 fo [(152,a2E),(209,a2f),(210,b5l)] [(2,.pair QI Q39)] [0,3,4,5,6,7,21,23,25,27] [] d6y (a1 c2Q (a1 b7J (a1 d4c a0))) Tryz.func149
theorem d4e:Ok0 330 b1j:=
 fo [(154,a5C)] [] [0,1,4,5,6] [] d6z (a1 c6b a0) Tryz.func330
theorem d4f:Ok0 331 b6D:=
 fo [] [] [0,2,3,6] [] QH a0 Tryz.func331
theorem d4g:Ok0 313 b9v:=
 fo [(76,a2e),(209,a2f),(330,b1j),(331,b6D)] [] [0,1,4,5,6,7,8] [] d6A (a1 c1k (a1 b7J (a1 d4e (a1 d4f a0)))) Tryz.func313
theorem d4h:Ok0 272 b9w:=
 fo [(76,a2e),(258,a6G),(313,b9v)] [] [0,1,2,6,7,8,9,10] [] d6B (a1 c1k (a1 c5U (a1 d4g a0))) Tryz.func272
theorem d4i:Ok0 215 b8j:=
 fo [(76,a2e),(124,a2u),(152,a2E),(209,a2f),(272,b9w)] [] [0,1,4,5,6,7,8,9,10,11] [] d6C (a1 c1k (a1 b5I (a1 c2Q (a1 b7J (a1 d4h a0))))) Tryz.func215
theorem d4j:Ok0 153 b8k:=
 fo [(76,a2e),(201,a5a),(209,a2f),(214,b1I),(215,b8j)] [(11,.pair QI Q1),(41,.pair QI Q1)] [0,1,2,7,8,9,10,12,14,15,16,17] [] d6D (a1 c1k (a1 b9A (a1 b7J (a1 c5K (a1 d4i a0))))) Tryz.func153
theorem d6W:Ok0 73 c1H:=
 fo [(76,a2e),(123,b6R),(124,a2u),(128,a9U),(149,b6C),(150,b4d),(151,a9W),(152,a2E),(153,b8k)] [(7,.pair QI (.pair QI (.pair QI (.pair QI (.pair QI (.pair QL (.pair (.arr 3 QI) (.pair (.list false Q3) Q23))))))))] [0,1,5,6,8,9,10,11,12] [] H73 (a1 c1k (a1 c9R (a1 b5I (a1 c5E (a1 d4d (a1 c5I (a1 c5J (a1 c2Q (a1 d4j a0))))))))) Tryz.func73
theorem d6X:Ok0 75 b1k:=
 fo [(154,a5C)] [] [0,2,3] [] H75 (a1 c6b a0) Tryz.func75
theorem c8q:Ok0 21 b0R:=
 fo [(61,b4L),(67,b1n),(71,b4k),(72,b9u),(73,c1H),(74,a8c),(75,b1k),(76,a2e)] [(5,.pair QI Q56)] [0,3,4,6,7,8,9,10,12] [] H21 (a1 d1X (a1 d2b (a1 d6U (a1 d6V (a1 d6W (a1 d2i (a1 d6X (a1 c1k a0)))))))) Tryz.func21
theorem d0J:Ok0 103 a6R:=
 fo [(21,b0R),(50,a7e)] [] [0,1,2,3,4,12,13,15,16] [6] d6E (a1 c8q (a1 c5S a0)) Tryz.func103
theorem d4k:Ok0 104 b4S:=
 fo [(22,a7r),(56,a4g),(183,a1l)] [(6,.pair QI Q7),(12,.pair QI Q5),(30,.pair QI Q5),(33,.pair QI Q5)] [0,1,5,8] [2,3] d1V (a1 c5B (a1 c1i (a1 c7c a0))) Tryz.func104
theorem d6Y:Ok0 43 b7i:=
 fo [(86,a5f),(102,a7Q),(103,a6R),(104,b4S)] [] [0,1,4,5,7,8,9,10,11,12,13,14,15,18] [3] H43 (a1 c5Y (a1 d0I (a1 d0J (a1 d4k a0)))) Tryz.func43
theorem d2j:Ok0 44 b3I:=
 fo [(97,a8A),(102,a7Q),(103,a6R)] [(6,.pair Q12 Q71),(20,.pair Q12 Q70),(24,.pair Q12 Q70),(48,.pair Q12 Q70),(90,.pair Q12 Q70),(96,.pair Q12 Q70)] [0,3,5,7,8,9,12] [] H44 (a1 c8p (a1 d0I (a1 d0J a0))) Tryz.func44
theorem d6Z:Ok0 25 b8l:=
 fo [(27,b4i),(31,b6X),(35,b2I),(37,b1p),(42,b3C),(43,b7i),(44,b3I)] [] [0,2,3,5,6,7,8,9,10,11] [] H25 (a1 d6N (a1 d6O (a1 d2e (a1 d2h (a1 d2c (a1 d6Y (a1 d2j a0))))))) Tryz.func25
theorem d4l:Ok0 109 c3c:=
 fo [] [] [0,2] [] d6F a0 Tryz.func109
theorem d4m:Ok0 110 c1I:=
 fo [] [] [0,2] [] d6G a0 Tryz.func110
theorem d7a:Ok0 55 c1J:=
 fo [(109,c3c),(110,c1I)] [] [0,1,4] [] QH (a1 d4l (a1 d4m a0)) Tryz.func55
theorem d7b:Ok0 77 b8m:=
 fo [] [] [0,2] [1] QH a0 Tryz.func77
theorem d7c:Ok0 39 b9x:=
 fo [(55,c1J),(77,b8m)] [] [0,1,2,6,7] [3] H39 (a1 d7a (a1 d7b a0)) Tryz.func39
theorem d7d:Ok0 40 b9y:=
 fo [(37,b1p),(44,b3I)] [] [0,1,2,3,8,10,11,12,14] [4] H40 (a1 d2h (a1 d2j a0)) Tryz.func40
theorem d7e:Ok0 45 b7k:=
 fo [(19,b1Q)] [] [0,1,4,5,6,7,8] [3] H45 (a1 c8o a0) Tryz.func45
theorem d7f:Ok0 53 b7l:=
 fo [(21,b0R)] [] [0,1,4,5,7,8] [] H53 (a1 c8q a0) Tryz.func53
theorem d7g:Ok0 47 b7m:=
 fo [(21,b0R),(50,a7e),(53,b7l),(86,a5f)] [] [0,2,3,4,5,7,8,9,11,12,14] [] H47 (a1 c8q (a1 c5S (a1 d7f (a1 c5Y a0)))) Tryz.func47
theorem d7h:Ok0 48 b8n:=
 fo [] [] [0,2,3,4] [] H48 a0 Tryz.func48
theorem d7i:Ok0 49 b4l:=
 fo [] [] [0,1,4,5] [] H49 a0 Tryz.func49
theorem d7j:Ok0 14 a9H:=
 fo [(25,b8l),(35,b2I),(39,b9x),(40,b9y),(45,b7k),(47,b7m),(48,b8n),(49,b4l)] [] [0,1,2,3,4,5,12,13,15,16,17,18] [6] H14 (a1 d6Z (a1 d2e (a1 d7c (a1 d7d (a1 d7e (a1 d7g (a1 d7h (a1 d7i a0)))))))) Tryz.func14
end Go.Ab
