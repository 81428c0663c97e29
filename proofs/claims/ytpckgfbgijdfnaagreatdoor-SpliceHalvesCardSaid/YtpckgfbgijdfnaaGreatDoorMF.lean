/- Part of the proof: S. Conditions: as each statement tells. -/
import Derived.KernelRfl
import Derived.Test.YtpckgfbgijdfnaaGreatDoorME
noncomputable section
set_option linter.unusedSimpArgs false
set_option linter.unusedVariables false
namespace Go.Ab
open Go.Proofs
set_option maxRecDepth 100000
theorem b4U:Tryz.prog.follows .mixedOrders=true:=by kernel_rfl
theorem d7w:B0d Tryz.prog c3J=true:=by kernel_rfl
theorem d7x:B0b Tryz.prog c3S=true:=by kernel_rfl
theorem d7y:A0y Tryz.prog c3J c6F=true:=by kernel_rfl
theorem laidOut:laidOutB Tryz.prog=true:=by kernel_rfl
@[reducible] def Ok0(n:Nat)(s:FSem):Prop:=i0y Tryz.prog G0 n s∧l0x Tryz.prog n
theorem cxo{a:List (Nat×FSem)}{b:List (Nat×Ty)}{c d:List Nat}(h:∀p∈a,FOk Tryz.prog G0 p.1 p.2):CxOk Tryz.prog (b2Z a b c d):=
 CxOk.of (CxTy.of (tab:=c3J) (l:=c6F) (q:=c3S) (fun _=>rfl) (fun _=>rfl) (fun _=>rfl) d7w d7x d7y) (fun _=>rfl) h
theorem fo (a : List (Nat × FSem)) (b : List (Nat × Ty)) (c d : List Nat) (H : Hints) {n : Nat} {fn : Func} {e : Code} {s : FSem} (h : ∀ p ∈ a, FOk Tryz.prog G0 p.1 p.2) (hf : Tryz.prog.funcs[n]? = some fn) (hb : fn.body = some e :=by rfl) (hk : A0m fn e H s = true :=by kernel_rfl) (hn : (fn.name == "runtime.NumGoroutine") = false :=by kernel_rfl) (hq : ∀ x, A0j (b2Z a b c d) H fn s.ps s.rs x = s.F x :=by intro x; kernel_rfl) : Ok0 n s :=
 ⟨i0y.of (cxo h) b4U hf hb hk hq,⟨_,_,hf,hb,hn⟩⟩
theorem d2T:Ok0 85 b3a:=
 fo [] [] [0,2] [] QH a0 Tryz.func85
theorem c1Y:Ok0 45 a4a:=
 fo [(85,b3a)] [] [0,2] [1] QH (a1 d2T a0) Tryz.func45
theorem d2U:Ok0 78 b5r:=
 fo [] [] [0,2] [] QH a0 Tryz.func78
theorem d4m:Ok0 127 b5P:=
 fo [] [] [0,2,3,4,5,6,7] [] d6f a0 Tryz.func127
theorem d2V:Ok0 79 a8q:=
 fo [(127,b5P)] [] [0,1,4,5,6,7] [] H79 (a1 d4m a0) Tryz.func79
theorem d2W:Ok0 80 a8r:=
 fo [] [] [0,2] [] QH a0 Tryz.func80
theorem c9u:Ok0 81 a5f:=
 fo [] [] [0,2] [] H81 a0 Tryz.func81
theorem d4n:Ok0 128 b1F:=
 fo [(81,a5f)] [] [0,1,4,5] [] d6g (a1 c9u a0) Tryz.func128
theorem d1h:Ok0 129 b3b:=
 fo [] [] [0,2] [] QH a0 Tryz.func129
theorem d7z:Ok0 82 b2L:=
 fo [(128,b1F),(129,b3b)] [] [0,1,4,5,7] [] H82 (a1 d4n (a1 d1h a0)) Tryz.func82
theorem d2X:Ok0 83 a9s:=
 fo [] [] [0,2] [] QH a0 Tryz.func83
theorem d2Y:Ok0 84 b0J:=
 fo [] [] [0,2,3,5,6] [] H84 a0 Tryz.func84
theorem d7A:Ok0 37 b4M:=
 fo [(45,a4a),(78,b5r),(79,a8q),(80,a8r),(81,a5f),(82,b2L),(83,a9s),(84,b0J)] [(4,.pair Q12 Q21)] [0,3,5,6,7,9] [] H37 (a1 c1Y (a1 d2U (a1 d2V (a1 d2W (a1 c9u (a1 d7z (a1 d2X (a1 d2Y a0)))))))) Tryz.func37
theorem c6H:Ok0 22 a9C:=
 fo [] [] [0,2] [1] QH a0 Tryz.func22
theorem d4o:Ok0 124 b7H:=
 fo [] [] [0,2] [] d6h a0 Tryz.func124
theorem d4p:Ok0 125 b7i:=
 fo [] [] [0,2] [] d6i a0 Tryz.func125
theorem c1Z:Ok0 71 a4c:=
 fo [(124,b7H),(125,b7i)] [] [0,1,4] [] QH (a1 d4o (a1 d4p a0)) Tryz.func71
theorem c2a:Ok0 44 a6b:=
 fo [(22,a9C),(71,a4c),(85,b3a)] [] [0,2,4,6] [1] H44 (a1 c6H (a1 c1Z (a1 d2T a0))) Tryz.func44
theorem c9v:Ok0 88 b3w:=
 fo [] [] [0,1,4] [] H88 a0 Tryz.func88
theorem d2Z:Ok0 62 b3d:=
 fo [(45,a4a),(88,b3w)] [] [0,2] [1] QH (a1 c1Y (a1 c9v a0)) Tryz.func62
theorem c9w:Ok0 91 a9U:=
 fo [] [] [0,2,4] [] H91 a0 Tryz.func91
theorem c6I:Ok0 102 b0Y:=
 fo [] [] [0,2] [] QH a0 Tryz.func102
theorem c6J:Ok0 148 b0Z:=
 fo [] [] [0,1,4,6] [] d6j a0 Tryz.func148
theorem c6K:Ok0 149 b3x:=
 fo [] [] [0,1,4,6] [3] d6k a0 Tryz.func149
theorem d1i:Ok0 181 b3e:=
 fo [] [] [0,2] [1] QH a0 Tryz.func181
theorem c6L:Ok0 150 b2h:=
 fo [(181,b3e)] [] [0,2] [] d6l (a1 d1i a0) Tryz.func150
theorem c6M:Ok0 112 b4N:=
 fo [(148,b0Z),(149,b3x),(150,b2h)] [] [0,1,2,6,8,11,27,41,62] [4] d6m (a1 c6J (a1 c6K (a1 c6L a0))) Tryz.func112
theorem c6N:Ok0 113 b1a:=
 fo [] [] [0,1,4,7,9,12,16] [2] d6n a0 Tryz.func113
theorem c3X:Ok0 65 a1b:=
 ⟨i0y.of (cx:=d2L) (cxo a0) b4U Tryz.func65 rfl (by kernel_rfl) d6o,⟨_,_,Tryz.func65,rfl,by kernel_rfl⟩⟩
theorem d1j:Ok0 65 a1v:=
 ⟨i0y.of (cx:=d1f) (cxo a0) b4U Tryz.func65 rfl (by kernel_rfl) d4j,⟨_,_,Tryz.func65,rfl,by kernel_rfl⟩⟩
theorem d3a:Ok0 170 a1f:=
 ⟨i0y.of (cx:=c8e) (cxo a0) b4U Tryz.func170 rfl (by kernel_rfl) d2M,⟨_,_,Tryz.func170,rfl,by kernel_rfl⟩⟩
theorem d1k:Ok0 139 b4b:=
 fo [(65,a1v),(170,a1f)] [] [0,1,9,11,13,15] [3] d6p (a1 d1j (a1 d3a a0)) Tryz.func139
theorem d4q:Ok0 153 b8I:=
 fo [(139,b4b)] [] [0,2] [1] QH (a1 d1k a0) Tryz.func153
theorem c6O:Ok0 151 b2j:=
 fo [] [] [0,1,4] [] QH a0 Tryz.func151
theorem c0P:Ok0 144 a5q:=
 fo [(151,b2j)] [] [0,1,2,6,7,8] [] d6q (a1 c6O a0) Tryz.func144
theorem d1l:Ok0 154 b5s:=
 fo [(144,a5q)] [] [0,1,2,6,7,9] [3] d6r (a1 c0P a0) Tryz.func154
theorem d4r:Ok0 117 b7I:=
 fo [(91,a9U),(102,b0Y),(112,b4N),(113,b1a),(153,b8I),(154,b5s)] [] [0,1,4,5] [2] d6s (a1 c9w (a1 c6I (a1 c6M (a1 c6N (a1 d4q (a1 d1l a0)))))) Tryz.func117
theorem d1m:Ok0 183 b4c:=
 fo [] [] [0,2,4] [] d6t a0 Tryz.func183
theorem d4s:Ok0 205 b4P:=
 fo [] [] [0,1,3] [] QH a0 Tryz.func205
theorem d4t:Ok0 184 b7j:=
 fo [(205,b4P)] [] [0,1,4,5,8,12,20,32] [] QH (a1 d4s a0) Tryz.func184
theorem d4u:Ok0 155 b7J:=
 fo [(183,b4c),(184,b7j)] [] [0,1,2,6,7,8,10,11] [] d6u (a1 d1m (a1 d4t a0)) Tryz.func155
theorem c6P:Ok0 187 a9W:=
 fo [] [] [0,2] [] QH a0 Tryz.func187
theorem c6Q:Ok0 185 a6V:=
 fo [(187,a9W)] [] [0,2,4] [] d6v (a1 c6P a0) Tryz.func185
theorem d1n:Ok0 186 b0K:=
 fo [] [] [0,1,2,6,7,8,9,10] [] d6w a0 Tryz.func186
theorem d4v:Ok0 156 b7k:=
 fo [(148,b0Z),(185,a6V),(186,b0K),(187,a9W)] [] [0,1,2,3,8,9,10,12,13] [] d6x (a1 c6J (a1 c6Q (a1 d1n (a1 c6P a0)))) Tryz.func156
theorem c6R:Ok0 190 b2k:=
 fo [] [] [0,2] [] QH a0 Tryz.func190
theorem c6S:Ok0 188 a8Q:=
 fo [(190,b2k)] [] [0,2,4] [] d6y (a1 c6R a0) Tryz.func188
theorem d1o:Ok0 189 b1M:=
 fo [] [] [0,1,2,3,8,9,10,11,12] [7] d6z a0 Tryz.func189
theorem d4w:Ok0 157 b8J:=
 fo [(149,b3x),(188,a8Q),(189,b1M),(190,b2k)] [] [0,1,2,6,7,8,9,10,11] [5] d6A (a1 c6K (a1 c6S (a1 d1o (a1 c6R a0)))) Tryz.func157
theorem c6T:Ok0 195 b1d:=
 fo [] [] [0,2] [] QH a0 Tryz.func195
theorem d1p:Ok0 191 b1e:=
 fo [(195,b1d)] [] [0,2,4] [] d6B (a1 c6T a0) Tryz.func191
theorem d1q:Ok0 193 b5t:=
 fo [(181,b3e)] [(15,.pair QI Q14),(16,.pair QI Q14)] [0,2,3] [1] d6C (a1 d1i a0) Tryz.func193
theorem d1r:Ok0 207 b1f:=
 fo [] [] [0,2] [] QH a0 Tryz.func207
theorem c6U:Ok0 194 a4o:=
 fo [(207,b1f)] [] [0,2,3,4,5] [] d6D (a1 d1r a0) Tryz.func194
theorem d1s:Ok0 196 a7X:=
 fo [(194,a4o),(207,b1f)] [] [0,1,4,5,6,7,8,13,22] [] d6E (a1 c6U (a1 d1r a0)) Tryz.func196
theorem d4x:Ok0 158 a8t:=
 ⟨i0y.ofR (cx:=d1g) (cxo (a1 c3X (a1 c6L (a1 d1p (a1 d1q (a1 c6U (a1 c6T (a1 d1s a0)))))))) b4U (r:=d2N) ⟨d1L,d1M⟩ Tryz.func158 rfl (by kernel_rfl) d4k,⟨_,_,Tryz.func158,rfl,by kernel_rfl⟩⟩
theorem d1t:Ok0 133 b3f:=
 fo [] [] [0,2] [] QH a0 Tryz.func133
theorem d4y:Ok0 159 b8K:=
 fo [(133,b3f)] [] [0,1,4,5,6,8] [] d6G (a1 d1t a0) Tryz.func159
theorem d4z:Ok0 118 c0E:=
 fo [(155,b7J),(156,b7k),(157,b8J),(158,a8t),(159,b8K)] [] [0,1,4,5,6,7,10,24,28,40,54,79] [2] d6H (a1 d4u (a1 d4v (a1 d4w (a1 d4x (a1 d4y a0))))) Tryz.func118
theorem d3b:Ok0 63 b7K:=
 fo [(117,b7I),(118,c0E)] [] [0,1,4,5,6,7] [2] QH (a1 d4r (a1 d4z a0)) Tryz.func63
theorem d1u:Ok0 132 b5u:=
 fo [] [] [0,2] [] QH a0 Tryz.func132
theorem c9x:Ok0 87 b2m:=
 fo [(132,b5u)] [] [0,2,4,6] [] H87 (a1 d1u a0) Tryz.func87
theorem d3c:Ok0 89 b3g:=
 fo [(65,a1b)] [(15,.list true (.list true QI))] [0,2,3,5] [] H89 (a1 c3X a0) Tryz.func89
theorem d3d:Ok0 90 b4d:=
 fo [(132,b5u)] [] [0,1,2,6,7,8,9] [4] H90 (a1 d1u a0) Tryz.func90
theorem d7B:Ok0 64 a9H:=
 ⟨i0y.ofR (cx:=d2O) (cxo (a1 c9x (a1 c9v (a1 d3c (a1 d3d a0))))) b4U (r:=R64) ⟨d1N,d1O⟩ Tryz.func64 rfl (by kernel_rfl) d6I,⟨_,_,Tryz.func64,rfl,by kernel_rfl⟩⟩
theorem c3Y:Ok0 25 a5t:=
 fo [(44,a6b),(62,b3d),(63,b7K),(64,a9H)] [] [0,3,4,7,8,9,10] [1] H25 (a1 c2a (a1 d2Z (a1 d3b (a1 d7B a0)))) Tryz.func25
theorem d3e:Ok0 49 b5v:=
 fo [(25,a5t)] [] [0,2,4] [1] QH (a1 c3Y a0) Tryz.func49
theorem d3f:Ok0 55 b1N:=
 fo [] [] [0,2,3,5,6] [] H55 a0 Tryz.func55
theorem d1v:Ok0 107 b4e:=
 fo [] [] [0,2,3,5,6] [] d6J a0 Tryz.func107
theorem d4A:Ok0 110 b8L:=
 fo [] [] [0,2,3] [] QH a0 Tryz.func110
theorem d7C:Ok0 56 b4Q:=
 fo [(62,b3d),(78,b5r),(79,a8q),(80,a8r),(81,a5f),(83,a9s),(107,b4e),(110,b8L)] [(2,.pair QI Q55),(15,.pair QI Q54),(26,.pair QI Q54),(83,.pair QI Q54),(88,.pair QI Q54),(101,.pair QI Q54),(105,.pair QI Q54)] [0,3,4,5,6,7,8,9,10,11] [] H56 (a1 d2Z (a1 d2U (a1 d2V (a1 d2W (a1 c9u (a1 d2X (a1 d1v (a1 d4A a0)))))))) Tryz.func56
theorem d7D:Ok0 57 c0F:=
 fo [] [] [0,2] [] QH a0 Tryz.func57
theorem c2b:Ok0 61 a2m:=
 fo [] [] [0,2] [] QH a0 Tryz.func61
theorem d3g:Ok0 97 b7L:=
 fo [(63,b7K)] [] [0,1,4,5,6] [2] QH (a1 d3b a0) Tryz.func97
theorem b9C:Ok0 98 a2L:=
 fo [(71,a4c)] [] [0,2,3,5] [] H98 (a1 c1Z a0) Tryz.func98
theorem d3h:Ok0 59 a8w:=
 fo [] [] [0,2] [] H59 a0 Tryz.func59
theorem c6V:Ok0 116 a5H:=
 fo [] [] [0,1,4] [] QH a0 Tryz.func116
theorem b8w:Ok0 146 a2n:=
 fo [(59,a8w),(116,a5H)] [] [0,1,4,5] [] d6K (a1 d3h (a1 c6V a0)) Tryz.func146
theorem c3K:Ok0 114 a2T:=
 fo [(146,a2n)] [] [0,1,4,5] [] d6L (a1 b8w a0) Tryz.func114
theorem d4B:Ok0 147 b5Q:=
 fo [(98,a2L),(114,a2T),(146,a2n)] [] [0,1,4,5,6] [] d6M (a1 b9C (a1 c3K (a1 b8w a0))) Tryz.func147
theorem d4C:Ok0 111 b7l:=
 fo [(114,a2T),(146,a2n),(147,b5Q)] [(2,.pair QI Q39)] [0,3,4,5,6,7,21,23,25,27] [] d6N (a1 c3K (a1 b8w (a1 d4B a0))) Tryz.func111
theorem c6W:Ok0 177 a6Z:=
 fo [] [] [0,2] [] QH a0 Tryz.func177
theorem d4D:Ok0 209 b1G:=
 fo [(116,a5H)] [] [0,1,4,5,6] [] d6O (a1 c6V a0) Tryz.func209
theorem d4E:Ok0 210 b7m:=
 fo [] [] [0,2,3,6] [] QH a0 Tryz.func210
theorem d4F:Ok0 204 c0G:=
 fo [(61,a2m),(146,a2n),(209,b1G),(210,b7m)] [] [0,1,4,5,6,7,8] [] d6P (a1 c2b (a1 b8w (a1 d4D (a1 d4E a0)))) Tryz.func204
theorem d4G:Ok0 182 c0H:=
 fo [(61,a2m),(177,a6Z),(204,c0G)] [] [0,1,2,6,7,8,9,10] [] d6Q (a1 c2b (a1 c6W (a1 d4F a0))) Tryz.func182
theorem d4H:Ok0 152 b8M:=
 fo [(61,a2m),(98,a2L),(114,a2T),(146,a2n),(182,c0H)] [] [0,1,4,5,6,7,8,9,10,11] [] d6R (a1 c2b (a1 b9C (a1 c3K (a1 b8w (a1 d4G a0))))) Tryz.func152
theorem d4I:Ok0 115 b8N:=
 fo [(61,a2m),(144,a5q),(146,a2n),(151,b2j),(152,b8M)] [(11,.pair QI Q1),(41,.pair QI Q1)] [0,1,2,7,8,9,10,12,14,15,16,17] [] d6S (a1 c2b (a1 c0P (a1 b8w (a1 c6O (a1 d4H a0))))) Tryz.func115
theorem d7E:Ok0 58 c2B:=
 fo [(61,a2m),(97,b7L),(98,a2L),(102,b0Y),(111,b7l),(112,b4N),(113,b1a),(114,a2T),(115,b8N)] [(7,.pair QI (.pair QI (.pair QI (.pair QI (.pair QI (.pair QL (.pair (.arr 3 QI) (.pair (.list false Q3) Q23))))))))] [0,1,5,6,8,9,10,11,12] [] H58 (a1 c2b (a1 d3g (a1 b9C (a1 c6I (a1 d4C (a1 c6M (a1 c6N (a1 c3K (a1 d4I a0))))))))) Tryz.func58
theorem d7F:Ok0 60 b1H:=
 fo [(116,a5H)] [] [0,2,3] [] H60 (a1 c6V a0) Tryz.func60
theorem d7G:Ok0 24 b7M:=
 fo [(49,b5v),(55,b1N),(56,b4Q),(57,c0F),(58,c2B),(59,a8w),(60,b1H),(61,a2m)] [(5,.pair QI Q56)] [0,3,4,6,7,8,9,10,12] [] H24 (a1 d3e (a1 d3f (a1 d7C (a1 d7D (a1 d7E (a1 d3h (a1 d7F (a1 c2b a0)))))))) Tryz.func24
theorem d7H:Ok0 38 b4f:=
 fo [(24,b7M),(25,a5t)] [] [0,1,2,3,4,12,13,15,16] [6] H38 (a1 d7G (a1 c3Y a0)) Tryz.func38
theorem d4J:Ok0 121 b3o:=
 fo [] [] [0,1,4,5,6,7,8,9,10,11,12,13] [] QH a0 Tryz.func121
theorem d4K:A0f Tryz.prog G0 122 b3p:=c9l _
theorem d4L:Ok0 208 b3r:=
 fo [] [] [0,2] [] d2P a0 Tryz.func208
theorem d4M:Ok0 197 a7x:=
 fo [(208,b3r)] [] [0,2] [] QH (a1 d4L a0) Tryz.func197
theorem d4N:Ok0 161 b3s:=
 fo [(197,a7x)] [] [0,1,2,6,7,8,9,10,11,12,13,14,15,16,17,18] [] d6T (a1 d4M a0) Tryz.func161
theorem d4O:Ok0 123 b3t:=
 fo [(161,b3s)] [] [0,1,2,6,7,8] [] QH (a1 d4N a0) Tryz.func123
theorem c9y:Ok0 68 b2r:=
 fo [(121,b3o),(122,b3p),(123,b3t)] [] [0,1,2,6,7,8,9] [] QH (a1 d4J (B0g d4K (a1 d4O a0))) Tryz.func68
theorem d7I:Ok0 69 b7N:=
 fo [(68,b2r)] [] [0,2,3,4] [] H69 (a1 c9y a0) Tryz.func69
theorem d3i:Ok0 29 b5w:=
 fo [(68,b2r),(69,b7N)] [] [0,1,2,6,7] [] H29 (a1 c9y (a1 d7I a0)) Tryz.func29
theorem d3j:Ok0 41 b3h:=
 fo [(22,a9C),(44,a6b)] [] [0,2,3,4,6] [1] H41 (a1 c6H (a1 c2a a0)) Tryz.func41
theorem d4P:Ok0 126 b7n:=
 fo [(71,a4c)] [] [0,1,4,5,6,7,9,10] [] d6U (a1 c1Z a0) Tryz.func126
theorem d3k:Ok0 76 b4g:=
 fo [(41,b3h),(44,a6b),(126,b7n)] [] [0,2,3] [1] H76 (a1 d3j (a1 c2a (a1 d4P a0))) Tryz.func76
theorem d3l:Ok0 77 b4h:=
 fo [(68,b2r)] [] [0,2,3,5] [] H77 (a1 c9y a0) Tryz.func77
theorem c9z:Ok0 39 a8W:=
 fo [(29,b5w),(76,b4g),(77,b4h)] [] [0,1,4,5,6,7] [3] QH (a1 d3i (a1 d3k (a1 d3l a0))) Tryz.func39
theorem c2c:Ok0 14 a4T:=
 fo [(37,b4M),(38,b4f),(39,a8W)] [(6,.pair Q12 Q71),(20,.pair Q12 Q70),(24,.pair Q12 Q70),(48,.pair Q12 Q70),(90,.pair Q12 Q70),(96,.pair Q12 Q70)] [0,3,5,7,8,9,12] [] H14 (a1 d7A (a1 d7H (a1 c9z a0))) Tryz.func14
theorem d3m:Ok0 47 b7O:=
 fo [(87,b2m),(88,b3w),(89,b3g),(90,b4d)] [] [0,1,4,5,6] [] H47 (a1 c9x (a1 c9v (a1 d3c (a1 d3d a0)))) Tryz.func47
theorem d4Q:Ok0 130 b7o:=
 fo [(87,b2m)] [] [0,2,3,5,6,7] [] d6V (a1 c9x a0) Tryz.func130
theorem d4R:Ok0 131 b7P:=
 fo [] [] [0,2,4,8,12,17] [] QH a0 Tryz.func131
theorem d7J:Ok0 86 b8O:=
 fo [(47,b7O),(130,b7o),(131,b7P)] [] [0,2,3,4,5,6,7,8] [] H86 (a1 d3m (a1 d4Q (a1 d4R a0))) Tryz.func86
theorem d7K:Ok0 46 b8P:=
 fo [(44,a6b),(86,b8O)] [] [0,2,3,4] [1] H46 (a1 c2a (a1 d7J a0)) Tryz.func46
theorem d3n:Ok0 92 b3i:=
 fo [(133,b3f)] [] [0,1,4,5,6,8] [] H92 (a1 d1t a0) Tryz.func92
theorem d4S:Ok0 134 a1i:=
 ⟨i0y.of (cx:=b1l) (cxo a0) b4U Tryz.func134 rfl (by kernel_rfl) d4l,⟨_,_,Tryz.func134,rfl,by kernel_rfl⟩⟩
theorem d3o:Ok0 93 b1m:=
 fo [(134,a1i)] [] [0,2,3,5] [] H93 (a1 d4S a0) Tryz.func93
theorem d1w:Ok0 162 b4j:=
 fo [(183,b4c)] [] [0,1,4,5,6,7] [] d6W (a1 d1m a0) Tryz.func162
theorem d4T:Ok0 163 b7p:=
 fo [] [] [0,1,4,5,6,7] [] d6X a0 Tryz.func163
theorem d4U:Ok0 135 b7R:=
 fo [(162,b4j),(163,b7p)] [] [0,2,3,4,5,6,7,8] [] d6Y (a1 d1w (a1 d4T a0)) Tryz.func135
theorem d1x:Ok0 200 b1O:=
 fo [] [] [0,2] [] QH a0 Tryz.func200
theorem d4V:Ok0 198 b4R:=
 fo [(200,b1O)] [] [0,2,3,5,6,7,8] [] d6Z (a1 d1x a0) Tryz.func198
theorem d4W:Ok0 199 b1I:=
 fo [] [] [0,1,2,6,7,8,9,10] [] d7a a0 Tryz.func199
theorem d4X:Ok0 164 b4k:=
 fo [(65,a1b),(185,a6V),(198,b4R),(199,b1I),(200,b1O)] [] [0,1,4,5,6,7,8,9,10,11,12,13] [] d7b (a1 c3X (a1 c6Q (a1 d4V (a1 d4W (a1 d1x a0))))) Tryz.func164
theorem d4Y:Ok0 165 b5R:=
 fo [] [] [0,2,3,5,6,7,8,9,10,11] [] d7c a0 Tryz.func165
theorem d4Z:Ok0 166 b5S:=
 fo [(71,a4c)] [] [0,1,4,5,6,8,9,10,11,13,14] [] d7d (a1 c1Z a0) Tryz.func166
theorem d1y:Ok0 137 b3j:=
 fo [(164,b4k),(165,b5R),(166,b5S)] [] [0,1,2,6,7,8,9,10,11] [] QH (a1 d4X (a1 d4Y (a1 d4Z a0))) Tryz.func137
theorem d5a:Ok0 167 b8R:=
 fo [(188,a8Q)] [] [0,1,2,6,7,8,9,10,11,12,13] [] d7e (a1 c6S a0) Tryz.func167
theorem c6X:Ok0 169 a9K:=
 fo [(149,b3x),(188,a8Q),(189,b1M),(190,b2k)] [] [0,1,2,6,7,8,9,10,11] [5] d7f (a1 c6K (a1 c6S (a1 d1o (a1 c6R a0)))) Tryz.func169
theorem d5b:Ok0 201 b4l:=
 fo [] [] [0] [] QH a0 Tryz.func201
theorem d5c:Ok0 168 b8T:=
 fo [(169,a9K),(201,b4l)] [] [0,1,5,7,8,11,12,13,15] [] d2R (a1 c6X (a1 d5b a0)) Tryz.func168
theorem d5d:Ok0 138 b7S:=
 fo [(137,b3j),(167,b8R),(168,b8T),(169,a9K)] [] [0,3,4,5,7,8,9] [] QH (a1 d1y (a1 d5a (a1 d5c (a1 c6X a0)))) Tryz.func138
theorem d5e:Ok0 136 b2P:=
 fo [(137,b3j)] [] [0,1,2,3,6,7,8] [] QH (a1 d1y a0) Tryz.func136
theorem d7L:Ok0 94 b4m:=
 fo [(135,b7R),(136,b2P),(138,b7S)] [(5,.list true Q42)] [0,1,4,6,8,9] [67] H94 (a1 d4U (a1 d5e (a1 d5d a0))) Tryz.func94
theorem d5f:Ok0 171 b7q:=
 fo [(148,b0Z),(185,a6V),(186,b0K),(187,a9W)] [] [0,1,2,6,7,8,9,10] [] d7g (a1 c6J (a1 c6Q (a1 d1n (a1 c6P a0)))) Tryz.func171
theorem d5g:Ok0 172 b7T:=
 fo [(65,a1b),(150,b2h),(191,b1e),(193,b5t),(194,a4o),(195,b1d),(196,a7X)] [] [0,1,4,5,6,9,10,11,12,13] [] d7h (a1 c3X (a1 c6L (a1 d1p (a1 d1q (a1 c6U (a1 c6T (a1 d1s a0))))))) Tryz.func172
theorem d5h:Ok0 140 b8U:=
 fo [(65,a1b),(113,b1a),(162,b4j),(169,a9K),(171,b7q),(172,b7T)] [] [0,1,4,5,6,11,22,37,67] [] d7i (a1 c3X (a1 c6N (a1 d1w (a1 c6X (a1 d5f (a1 d5g a0)))))) Tryz.func140
theorem d1z:Ok0 173 b3k:=
 fo [(151,b2j)] [] [0,1,2,6,8] [] d7j (a1 c6O a0) Tryz.func173
theorem d1A:Ok0 175 b5x:=
 fo [(98,a2L)] [] [0,2] [] QH (a1 b9C a0) Tryz.func175
theorem c6Y:Ok0 178 b2w:=
 fo [] [] [0,2] [] QH a0 Tryz.func178
theorem d1B:Ok0 179 b5y:=
 fo [(178,b2w)] [] [0,2,3,7] [] QH (a1 c6Y a0) Tryz.func179
theorem d5i:Ok0 203 b8V:=
 fo [(177,a6Z),(178,b2w),(179,b5y)] [] [0,1,4,5] [] d7k (a1 c6W (a1 c6Y (a1 d1B a0))) Tryz.func203
theorem c6Z:Ok0 176 b3C:=
 fo [(203,b8V)] [] [0,1,4,5,7] [] d7l (a1 d5i a0) Tryz.func176
theorem d1C:Ok0 143 b4o:=
 fo [(144,a5q),(154,b5s),(173,b3k),(175,b5x),(176,b3C)] [] [0,1,2,3,8,9,10,11,12] [4] d7m (a1 c0P (a1 d1l (a1 d1z (a1 d1A (a1 c6Z a0))))) Tryz.func143
theorem d5j:Ok0 202 b8W:=
 fo [(176,b3C)] [] [0,2,3,4,5,6] [] d7n (a1 c6Z a0) Tryz.func202
theorem d5k:Ok0 174 b5T:=
 fo [(175,b5x),(176,b3C),(202,b8W)] [] [0,2,3] [] QH (a1 d1A (a1 c6Z (a1 d5j a0))) Tryz.func174
theorem d5l:Ok0 141 b7U:=
 fo [(143,b4o),(144,a5q),(173,b3k),(174,b5T)] [(14,.pair QI Q1),(40,.pair QI Q1)] [0,1,2,3,9,11,12,13,15,17,18] [] d7o (a1 d1C (a1 c0P (a1 d1z (a1 d5k a0)))) Tryz.func141
theorem d7M:Ok0 95 c0I:=
 fo [(91,a9U),(92,b3i),(93,b1m),(112,b4N),(139,b4b),(140,b8U),(141,b7U)] [] [0,1,2,7,8,11,12,13] [5] H95 (a1 c9w (a1 d3n (a1 d3o (a1 c6M (a1 d1k (a1 d5h (a1 d5l a0))))))) Tryz.func95
theorem c7a:Ok0 104 a6o:=
 fo [] [] [0,1] [] d7p a0 Tryz.func104
theorem c3Z:Ok0 99 a3d:=
 fo [(104,a6o)] [] [0,1,2,6,7] [] H99 (a1 c7a a0) Tryz.func99
theorem d1D:Ok0 100 b1p:=
 fo [(99,a3d)] [] [0,1,2] [] QH (a1 c3Z a0) Tryz.func100
theorem d5m:Ok0 101 b5U:=
 fo [(98,a2L),(99,a3d),(100,b1p)] [] [0,1,4,6] [3] d7q (a1 b9C (a1 c3Z (a1 d1D a0))) Tryz.func101
theorem d5n:Ok0 180 b1J:=
 fo [(104,a6o)] [] [0,1,4] [] d7r (a1 c7a a0) Tryz.func180
theorem d5o:Ok0 145 c0J:=
 fo [(99,a3d),(177,a6Z),(178,b2w),(179,b5y),(180,b1J)] [] [0,1,2,6,8,10,11,12] [] d7s (a1 c3Z (a1 c6W (a1 c6Y (a1 d1B (a1 d5n a0))))) Tryz.func145
theorem d5p:Ok0 103 b8X:=
 fo [(98,a2L),(99,a3d),(143,b4o),(144,a5q),(145,c0J)] [] [0,1,2,3,4,10,11,12,13,14,16] [6] d7t (a1 b9C (a1 c3Z (a1 d1C (a1 c0P (a1 d5o a0))))) Tryz.func103
theorem d3p:Ok0 50 b7V:=
 fo [(97,b7L),(98,a2L),(99,a3d),(100,b1p),(101,b5U),(102,b0Y),(103,b8X)] [] [0,1,2,6,7,9,13,37,39,41,43] [4] H50 (a1 d3g (a1 b9C (a1 c3Z (a1 d1D (a1 d5m (a1 c6I (a1 d5p a0))))))) Tryz.func50
theorem d5q:Ok0 142 b3u:=
 fo [] [] [0,2] [] QH a0 Tryz.func142
theorem d7N:Ok0 96 c0K:=
 fo [(50,b7V),(142,b3u)] [(5,.pair (.list true QV) Q0)] [0,1,4] [2] QH (a1 d3p (a1 d5q a0)) Tryz.func96
theorem d7O:Ok0 48 c0L:=
 fo [(91,a9U),(92,b3i),(93,b1m),(94,b4m),(95,c0I),(96,c0K)] [] [0,1,5,6,7,9,10,14,15] [] H48 (a1 c9w (a1 d3n (a1 d3o (a1 d7L (a1 d7M (a1 d7N a0)))))) Tryz.func48
theorem d3q:Ok0 20 b4p:=
 fo [(22,a9C),(44,a6b),(45,a4a),(46,b8P),(47,b7O),(48,c0L)] [(10,.pair QI Q56),(52,.pair QI Q54),(57,.pair QI Q54),(63,.pair QI Q54),(79,.pair QI Q54),(95,.pair QI Q54)] [0,1,2,3,9,11,12,14,16] [4,5] H20 (a1 c6H (a1 c2a (a1 c1Y (a1 d7K (a1 d3m (a1 d7O a0)))))) Tryz.func20
theorem d7P:Ok0 26 b8Y:=
 fo [(22,a9C),(44,a6b),(65,a1v)] [(6,.pair QI Q7),(12,.pair QI Q5),(30,.pair QI Q5),(33,.pair QI Q5)] [0,1,5,8] [2,3] H26 (a1 c6H (a1 c2a (a1 d1j a0))) Tryz.func26
theorem d7Q:Ok0 35 b4S:=
 fo [(20,b4p),(25,a5t),(26,b8Y)] [] [0,1,2,7,9] [3,4] QH (a1 d3q (a1 c3Y (a1 d7P a0))) Tryz.func35
theorem d7R:Ok0 51 b1K:=
 fo [(104,a6o)] [] [0] [] H51 (a1 c7a a0) Tryz.func51
theorem d7S:Ok0 52 b1L:=
 fo [] [] [0,2] [] QH a0 Tryz.func52
theorem d5r:Ok0 105 b8Z:=
 fo [] [] [0,2] [] QH a0 Tryz.func105
theorem d1E:Ok0 106 b5z:=
 fo [] [] [0,2,3,5] [] d7u a0 Tryz.func106
theorem d7T:Ok0 53 b4T:=
 fo [(105,b8Z),(106,b5z),(107,b4e)] [] [0,1,4,5,8] [2] H53 (a1 d5r (a1 d1E (a1 d1v a0))) Tryz.func53
theorem d5s:Ok0 108 b7r:=
 fo [(129,b3b)] [] [0,1,4,5] [] d7v (a1 d1h a0) Tryz.func108
theorem d5t:Ok0 109 a6g:=⟨c9k _,⟨_,_,Tryz.func109,rfl,by kernel_rfl⟩⟩
theorem d3r:Ok0 54 b5A:=
 fo [(108,b7r),(109,a6g)] [] [0,1,4,5] [] QH (a1 d5s (a1 d5t a0)) Tryz.func54
theorem c7b:Ok0 21 a9N:=
 fo [(49,b5v),(50,b7V),(51,b1K),(52,b1L),(53,b4T),(54,b5A),(55,b1N)] [(4,.pair (.list true QV) Q0)] [0,2,3,7,8,9] [1] H21 (a1 d3e (a1 d3p (a1 d7R (a1 d7S (a1 d7T (a1 d3r (a1 d3f a0))))))) Tryz.func21
theorem d3s:Ok0 40 b5B:=
 fo [(21,a9N),(25,a5t),(39,a8W),(45,a4a)] [] [0,2,3,4,5,6,7,8,11,12] [1] H40 (a1 c7b (a1 c3Y (a1 c9z (a1 c1Y a0)))) Tryz.func40
theorem d3t:Ok0 73 b5C:=
 fo [(40,b5B),(54,b5A),(84,b0J),(106,b5z)] [] [0,2,3,4,5,6,7,8,10,12] [1] H73 (a1 d3s (a1 d3r (a1 d2Y (a1 d1E a0)))) Tryz.func73
theorem d3u:Ok0 36 a9x:=
 fo [(21,a9N),(25,a5t),(29,b5w),(73,b5C),(76,b4g),(77,b4h)] [(6,.pair Q12 Q71),(15,.pair Q12 Q70)] [0,1,4,5,7,10,11,13] [2] H36 (a1 c7b (a1 c3Y (a1 d3i (a1 d3t (a1 d3k (a1 d3l a0)))))) Tryz.func36
theorem d3v:Ok0 13 b4q:=
 fo [(14,a4T),(35,b4S),(36,a9x)] [] [0,1,2,6,7,9,10,13,14] [4] H13 (a1 c2c (a1 d7Q (a1 d3u a0))) Tryz.func13
theorem d3w:Ok0 15 b1t:=
 fo [(40,b5B),(41,b3h)] [] [0,2,3,4,5,6,7] [1] H15 (a1 d3s (a1 d3j a0)) Tryz.func15
theorem d7U:Ok0 16 b7t:=
 fo [] [] [0,1,4,5] [] H16 a0 Tryz.func16
theorem d7V:Ok0 42 a3e:=
 fo [(14,a4T),(21,a9N)] [] [0,2,4,5,8,9] [] H42 (a1 c2c (a1 c7b a0)) Tryz.func42
theorem d7W:Ok0 17 b3l:=⟨c9t d7V.1,⟨_,_,Tryz.func17,rfl,by kernel_rfl⟩⟩
theorem d7X:Ok0 70 a8n:=
 fo [] [] [0,1,4,5] [] H70 a0 Tryz.func70
theorem d3x:Ok0 30 b3m:=
 fo [(14,a4T),(15,b1t),(70,a8n)] [] [0,1,4,6,8,9] [] H30 (a1 c2c (a1 d3w (a1 d7X a0))) Tryz.func30
theorem d7Y:Ok0 72 b7W:=
 fo [(45,a4a),(71,a4c)] [(6,.pair QI Q6),(36,.list true (.list true QI)),(37,.pair QI Q6)] [0,1,5,7,8,9] [3] H72 (a1 c1Y (a1 c1Z a0)) Tryz.func72
theorem d3y:Ok0 32 b1P:=
 fo [(20,b4p),(21,a9N),(39,a8W),(45,a4a),(71,a4c),(72,b7W),(73,b5C)] [(13,.pair Q12 Q71),(76,.pair Q12 Q70)] [0,1,2,3,8,9,10,12,14,15,16,18,20] [4] H32 (a1 d3q (a1 c7b (a1 c9z (a1 c1Y (a1 c1Z (a1 d7Y (a1 d3t a0))))))) Tryz.func32
theorem fs9:Ok0 9 b9a:=
 fo [(13,b4q),(14,a4T),(15,b1t),(16,b7t),(17,b3l),(30,b3m),(32,b1P)] [] [0,2,3,4,5,7,8,9] [] QH (a1 d3v (a1 c2c (a1 d3w (a1 d7U (a1 d7W (a1 d3x (a1 d3y a0))))))) Tryz.func9
theorem d7Z:Ok0 33 b9b:=
 fo [] [] [0,2] [1] QH a0 Tryz.func33
theorem d8a:Ok0 74 c3W:=
 fo [] [] [0,2] [] H74 a0 Tryz.func74
theorem d8b:Ok0 75 c2C:=
 fo [] [] [0,2] [] H75 a0 Tryz.func75
theorem d8c:Ok0 34 c2D:=
 fo [(74,c3W),(75,c2C)] [] [0,1,4] [] QH (a1 d8a (a1 d8b a0)) Tryz.func34
theorem d8d:Ok0 10 c0M:=
 fo [(33,b9b),(34,c2D)] [] [0,1,2,6,7] [3] H10 (a1 d7Z (a1 d8c a0)) Tryz.func10
theorem d8e:Ok0 11 c0N:=
 fo [(14,a4T),(32,b1P)] [] [0,1,2,3,8,10,11,12,14] [4] H11 (a1 c2c (a1 d3y a0)) Tryz.func11
theorem d5u:Ok0 120 a3L:=
 fo [] [] [0,1,4] [] QH a0 Tryz.func120
theorem d8f:Ok0 67 a3q:=
 fo [(120,a3L)] [] [0,2,3,5,6,8] [] H67 (a1 d5u a0) Tryz.func67
theorem d8g:Ok0 28 b7v:=
 fo [(14,a4T),(36,a9x),(67,a3q)] [] [0,1,4,5,7] [52] H28 (a1 c2c (a1 d3u (a1 d8f a0))) Tryz.func28
theorem d8h:Ok0 31 c2E:=
 fo [] [] [0,1,4] [] QH a0 Tryz.func31
theorem fs6:Ok0 6 a8B:=
 fo [(9,b9a),(10,c0M),(11,c0N),(13,b4q),(28,b7v),(30,b3m),(31,c2E)] [] [0,1,2,3,4,10,11,13,14,15,16,17,18,19,20] [5] H6 (a1 fs9 (a1 d8d (a1 d8e (a1 d3v (a1 d8g (a1 d3x (a1 d8h a0))))))) Tryz.func6
end Go.Ab
