/- Part of the proof: S. Conditions: as each statement tells. -/
import Derived.KernelRfl
import Derived.Test.YtpckgfbgijdfnaaGreatDoorME
noncomputable section
set_option linter.unusedSimpArgs false
set_option linter.unusedVariables false
namespace Go.Ab
open Go.Proofs
set_option maxRecDepth 100000
theorem b4O:Tryz.prog.follows .mixedOrders=true:=by kernel_rfl
theorem d7k:B0d Tryz.prog c3y=true:=by kernel_rfl
theorem d7l:B0b Tryz.prog c3H=true:=by kernel_rfl
theorem d7m:A0y Tryz.prog c3y c6w=true:=by kernel_rfl
theorem laidOut:laidOutB Tryz.prog=true:=by kernel_rfl
@[reducible] def Ok0(n:Nat)(s:FSem):Prop:=i0y Tryz.prog G0 n s∧l0x Tryz.prog n
theorem cxo{a:List (Nat×FSem)}{b:List (Nat×Ty)}{c d:List Nat}(h:∀p∈a,FOk Tryz.prog G0 p.1 p.2):CxOk Tryz.prog (b1A a b c d):=
 CxOk.of (CxTy.of (tab:=c3y) (l:=c6w) (q:=c3H) (fun _=>rfl) (fun _=>rfl) (fun _=>rfl) d7k d7l d7m) (fun _=>rfl) h
theorem fo (a : List (Nat × FSem)) (b : List (Nat × Ty)) (c d : List Nat) (H : Hints) {n : Nat} {fn : Func} {e : Code} {s : FSem} (h : ∀ p ∈ a, FOk Tryz.prog G0 p.1 p.2) (hf : Tryz.prog.funcs[n]? = some fn) (hb : fn.body = some e :=by rfl) (hk : A0m fn e H s = true :=by kernel_rfl) (hn : (fn.name == "runtime.NumGoroutine") = false :=by kernel_rfl) (hq : ∀ x, A0j (b1A a b c d) H fn s.ps s.rs x = s.F x :=by intro x; kernel_rfl) : Ok0 n s :=
 ⟨i0y.of (cxo h) b4O hf hb hk hq,⟨_,_,hf,hb,hn⟩⟩
theorem d2H:Ok0 85 b2S:=
 fo [] [] [0,2] [] QH a0 Tryz.func85
theorem c1R:Ok0 45 a3T:=
 fo [(85,b2S)] [] [0,2] [1] QH (a1 d2H a0) Tryz.func45
theorem d2I:Ok0 78 b5m:=
 fo [] [] [0,2] [] QH a0 Tryz.func78
theorem d3Z:Ok0 127 b5L:=
 fo [] [] [0,2,3,4,5,6,7] [] d5T a0 Tryz.func127
theorem d2J:Ok0 79 a8h:=
 fo [(127,b5L)] [] [0,1,4,5,6,7] [] H79 (a1 d3Z a0) Tryz.func79
theorem d2K:Ok0 80 a8i:=
 fo [] [] [0,2] [] QH a0 Tryz.func80
theorem c9h:Ok0 81 a4Y:=
 fo [] [] [0,2] [] H81 a0 Tryz.func81
theorem d4a:Ok0 128 b1t:=
 fo [(81,a4Y)] [] [0,1,4,5] [] d5U (a1 c9h a0) Tryz.func128
theorem d0X:Ok0 129 b2T:=
 fo [] [] [0,2] [] QH a0 Tryz.func129
theorem d7n:Ok0 82 b2E:=
 fo [(128,b1t),(129,b2T)] [] [0,1,4,5,7] [] H82 (a1 d4a (a1 d0X a0)) Tryz.func82
theorem d2L:Ok0 83 a9i:=
 fo [] [] [0,2] [] QH a0 Tryz.func83
theorem d2M:Ok0 84 a9Y:=
 fo [] [] [0,2,3,5,6] [] H84 a0 Tryz.func84
theorem d7o:Ok0 37 b4G:=
 fo [(45,a3T),(78,b5m),(79,a8h),(80,a8i),(81,a4Y),(82,b2E),(83,a9i),(84,a9Y)] [(4,.pair Q12 Q21)] [0,3,5,6,7,9] [] H37 (a1 c1R (a1 d2I (a1 d2J (a1 d2K (a1 c9h (a1 d7n (a1 d2L (a1 d2M a0)))))))) Tryz.func37
theorem c6y:Ok0 22 a9r:=
 fo [] [] [0,2] [1] QH a0 Tryz.func22
theorem d4b:Ok0 124 b7A:=
 fo [] [] [0,2] [] d5V a0 Tryz.func124
theorem d4c:Ok0 125 b7d:=
 fo [] [] [0,2] [] d5W a0 Tryz.func125
theorem c1S:Ok0 71 a3V:=
 fo [(124,b7A),(125,b7d)] [] [0,1,4] [] QH (a1 d4b (a1 d4c a0)) Tryz.func71
theorem c1T:Ok0 44 a5V:=
 fo [(22,a9r),(71,a3V),(85,b2S)] [] [0,2,4,6] [1] H44 (a1 c6y (a1 c1S (a1 d2H a0))) Tryz.func44
theorem c9i:Ok0 88 b3o:=
 fo [] [] [0,1,4] [] H88 a0 Tryz.func88
theorem d2N:Ok0 62 b2V:=
 fo [(45,a3T),(88,b3o)] [] [0,2] [1] QH (a1 c1R (a1 c9i a0)) Tryz.func62
theorem c9j:Ok0 91 a9I:=
 fo [] [] [0,2,4] [] H91 a0 Tryz.func91
theorem c6z:Ok0 102 b0N:=
 fo [] [] [0,2] [] QH a0 Tryz.func102
theorem c6A:Ok0 148 b0O:=
 fo [] [] [0,1,4,6] [] d5X a0 Tryz.func148
theorem c6B:Ok0 149 b3p:=
 fo [] [] [0,1,4,6] [3] d5Y a0 Tryz.func149
theorem d0Y:Ok0 181 b2W:=
 fo [] [] [0,2] [1] QH a0 Tryz.func181
theorem c6C:Ok0 150 b2a:=
 fo [(181,b2W)] [] [0,2] [] d5Z (a1 d0Y a0) Tryz.func150
theorem c6D:Ok0 112 b4H:=
 fo [(148,b0O),(149,b3p),(150,b2a)] [] [0,1,2,6,8,11,27,41,62] [4] d6a (a1 c6A (a1 c6B (a1 c6C a0))) Tryz.func112
theorem c6E:Ok0 113 b0P:=
 fo [] [] [0,1,4,7,9,12,16] [2] d6b a0 Tryz.func113
theorem c3M:Ok0 65 a1c:=
 ⟨i0y.of (cx:=d2z) (cxo a0) b4O Tryz.func65 rfl (by kernel_rfl) d6c,⟨_,_,Tryz.func65,rfl,by kernel_rfl⟩⟩
theorem d0Z:Ok0 65 a1s:=
 ⟨i0y.of (cx:=d0V) (cxo a0) b4O Tryz.func65 rfl (by kernel_rfl) d3W,⟨_,_,Tryz.func65,rfl,by kernel_rfl⟩⟩
theorem d2O:Ok0 170 a1e:=
 ⟨i0y.of (cx:=c7T) (cxo a0) b4O Tryz.func170 rfl (by kernel_rfl) d2A,⟨_,_,Tryz.func170,rfl,by kernel_rfl⟩⟩
theorem d1a:Ok0 139 b3V:=
 fo [(65,a1s),(170,a1e)] [] [0,1,9,11,13,15] [3] d6d (a1 d0Z (a1 d2O a0)) Tryz.func139
theorem d4d:Ok0 153 b8B:=
 fo [(139,b3V)] [] [0,2] [1] QH (a1 d1a a0) Tryz.func153
theorem c6F:Ok0 151 b2c:=
 fo [] [] [0,1,4] [] QH a0 Tryz.func151
theorem c0H:Ok0 144 a5k:=
 fo [(151,b2c)] [] [0,1,2,6,7,8] [] d6e (a1 c6F a0) Tryz.func144
theorem d1b:Ok0 154 b5n:=
 fo [(144,a5k)] [] [0,1,2,6,7,9] [3] d6f (a1 c0H a0) Tryz.func154
theorem d4e:Ok0 117 b7B:=
 fo [(91,a9I),(102,b0N),(112,b4H),(113,b0P),(153,b8B),(154,b5n)] [] [0,1,4,5] [2] d6g (a1 c9j (a1 c6z (a1 c6D (a1 c6E (a1 d4d (a1 d1b a0)))))) Tryz.func117
theorem d1c:Ok0 183 b3W:=
 fo [] [] [0,2,4] [] d6h a0 Tryz.func183
theorem d4f:Ok0 205 b4J:=
 fo [] [] [0,1,3] [] QH a0 Tryz.func205
theorem d4g:Ok0 184 b7e:=
 fo [(205,b4J)] [] [0,1,4,5,8,12,20,32] [] QH (a1 d4f a0) Tryz.func184
theorem d4h:Ok0 155 b7C:=
 fo [(183,b3W),(184,b7e)] [] [0,1,2,6,7,8,10,11] [] d6i (a1 d1c (a1 d4g a0)) Tryz.func155
theorem c6G:Ok0 187 a9K:=
 fo [] [] [0,2] [] QH a0 Tryz.func187
theorem c6H:Ok0 185 a6Q:=
 fo [(187,a9K)] [] [0,2,4] [] d6j (a1 c6G a0) Tryz.func185
theorem d1d:Ok0 186 a9Z:=
 fo [] [] [0,1,2,6,7,8,9,10] [] d6k a0 Tryz.func186
theorem d4i:Ok0 156 b7f:=
 fo [(148,b0O),(185,a6Q),(186,a9Z),(187,a9K)] [] [0,1,2,3,8,9,10,12,13] [] d6l (a1 c6A (a1 c6H (a1 d1d (a1 c6G a0)))) Tryz.func156
theorem c6I:Ok0 190 b2d:=
 fo [] [] [0,2] [] QH a0 Tryz.func190
theorem c6J:Ok0 188 a8G:=
 fo [(190,b2d)] [] [0,2,4] [] d6m (a1 c6I a0) Tryz.func188
theorem d1e:Ok0 189 b1B:=
 fo [] [] [0,1,2,3,8,9,10,11,12] [7] d6n a0 Tryz.func189
theorem d4j:Ok0 157 b8C:=
 fo [(149,b3p),(188,a8G),(189,b1B),(190,b2d)] [] [0,1,2,6,7,8,9,10,11] [5] d6o (a1 c6B (a1 c6J (a1 d1e (a1 c6I a0)))) Tryz.func157
theorem c6K:Ok0 195 b0S:=
 fo [] [] [0,2] [] QH a0 Tryz.func195
theorem d1f:Ok0 191 b0T:=
 fo [(195,b0S)] [] [0,2,4] [] d6p (a1 c6K a0) Tryz.func191
theorem d1g:Ok0 193 b5o:=
 fo [(181,b2W)] [(15,.pair QI Q14),(16,.pair QI Q14)] [0,2,3] [1] d6q (a1 d0Y a0) Tryz.func193
theorem d1h:Ok0 207 b0U:=
 fo [] [] [0,2] [] QH a0 Tryz.func207
theorem c6L:Ok0 194 a4f:=
 fo [(207,b0U)] [] [0,2,3,4,5] [] d6r (a1 d1h a0) Tryz.func194
theorem d1i:Ok0 196 a7R:=
 fo [(194,a4f),(207,b0U)] [] [0,1,4,5,6,7,8,13,22] [] d6s (a1 c6L (a1 d1h a0)) Tryz.func196
theorem d4k:Ok0 158 a8k:=
 ⟨i0y.ofR (cx:=d0W) (cxo (a1 c3M (a1 c6C (a1 d1f (a1 d1g (a1 c6L (a1 c6K (a1 d1i a0)))))))) b4O (r:=d2B) ⟨d1A,d1B⟩ Tryz.func158 rfl (by kernel_rfl) d3X,⟨_,_,Tryz.func158,rfl,by kernel_rfl⟩⟩
theorem d1j:Ok0 133 b2X:=
 fo [] [] [0,2] [] QH a0 Tryz.func133
theorem d4l:Ok0 159 b8D:=
 fo [(133,b2X)] [] [0,1,4,5,6,8] [] d6u (a1 d1j a0) Tryz.func159
theorem d4m:Ok0 118 b9V:=
 fo [(155,b7C),(156,b7f),(157,b8C),(158,a8k),(159,b8D)] [] [0,1,4,5,6,7,10,24,28,40,54,79] [2] d6v (a1 d4h (a1 d4i (a1 d4j (a1 d4k (a1 d4l a0))))) Tryz.func118
theorem d2P:Ok0 63 b7D:=
 fo [(117,b7B),(118,b9V)] [] [0,1,4,5,6,7] [2] QH (a1 d4e (a1 d4m a0)) Tryz.func63
theorem d1k:Ok0 132 b5p:=
 fo [] [] [0,2] [] QH a0 Tryz.func132
theorem c9k:Ok0 87 b2f:=
 fo [(132,b5p)] [] [0,2,4,6] [] H87 (a1 d1k a0) Tryz.func87
theorem d2Q:Ok0 89 b2Y:=
 fo [(65,a1c)] [(15,.list true (.list true QI))] [0,2,3,5] [] H89 (a1 c3M a0) Tryz.func89
theorem d2R:Ok0 90 b3X:=
 fo [(132,b5p)] [] [0,1,2,6,7,8,9] [4] H90 (a1 d1k a0) Tryz.func90
theorem d7p:Ok0 64 a9w:=
 ⟨i0y.ofR (cx:=d2C) (cxo (a1 c9k (a1 c9i (a1 d2Q (a1 d2R a0))))) b4O (r:=R64) ⟨d1C,d1D⟩ Tryz.func64 rfl (by kernel_rfl) d6w,⟨_,_,Tryz.func64,rfl,by kernel_rfl⟩⟩
theorem c3N:Ok0 25 a5n:=
 fo [(44,a5V),(62,b2V),(63,b7D),(64,a9w)] [] [0,3,4,7,8,9,10] [1] H25 (a1 c1T (a1 d2N (a1 d2P (a1 d7p a0)))) Tryz.func25
theorem d2S:Ok0 49 b5q:=
 fo [(25,a5n)] [] [0,2,4] [1] QH (a1 c3N a0) Tryz.func49
theorem d2T:Ok0 55 b1C:=
 fo [] [] [0,2,3,5,6] [] H55 a0 Tryz.func55
theorem d1l:Ok0 107 b3Y:=
 fo [] [] [0,2,3,5,6] [] d6x a0 Tryz.func107
theorem d4n:Ok0 110 b8E:=
 fo [] [] [0,2,3] [] QH a0 Tryz.func110
theorem d7q:Ok0 56 b4K:=
 fo [(62,b2V),(78,b5m),(79,a8h),(80,a8i),(81,a4Y),(83,a9i),(107,b3Y),(110,b8E)] [(2,.pair QI Q55),(15,.pair QI Q54),(26,.pair QI Q54),(83,.pair QI Q54),(88,.pair QI Q54),(101,.pair QI Q54),(105,.pair QI Q54)] [0,3,4,5,6,7,8,9,10,11] [] H56 (a1 d2N (a1 d2I (a1 d2J (a1 d2K (a1 c9h (a1 d2L (a1 d1l (a1 d4n a0)))))))) Tryz.func56
theorem d7r:Ok0 57 b9W:=
 fo [] [] [0,2] [] QH a0 Tryz.func57
theorem c1U:Ok0 61 a2g:=
 fo [] [] [0,2] [] QH a0 Tryz.func61
theorem d2U:Ok0 97 b7E:=
 fo [(63,b7D)] [] [0,1,4,5,6] [2] QH (a1 d2P a0) Tryz.func97
theorem b9v:Ok0 98 a2G:=
 fo [(71,a3V)] [] [0,2,3,5] [] H98 (a1 c1S a0) Tryz.func98
theorem d2V:Ok0 59 a8n:=
 fo [] [] [0,2] [] H59 a0 Tryz.func59
theorem c6M:Ok0 116 a5A:=
 fo [] [] [0,1,4] [] QH a0 Tryz.func116
theorem b8p:Ok0 146 a2h:=
 fo [(59,a8n),(116,a5A)] [] [0,1,4,5] [] d6y (a1 d2V (a1 c6M a0)) Tryz.func146
theorem c3z:Ok0 114 a2N:=
 fo [(146,a2h)] [] [0,1,4,5] [] d6z (a1 b8p a0) Tryz.func114
theorem d4o:Ok0 147 b5M:=
 fo [(98,a2G),(114,a2N),(146,a2h)] [] [0,1,4,5,6] [] d6A (a1 b9v (a1 c3z (a1 b8p a0))) Tryz.func147
theorem d4p:Ok0 111 b7g:=
 fo [(114,a2N),(146,a2h),(147,b5M)] [(2,.pair QI Q39)] [0,3,4,5,6,7,21,23,25,27] [] d6B (a1 c3z (a1 b8p (a1 d4o a0))) Tryz.func111
theorem c6N:Ok0 177 a6U:=
 fo [] [] [0,2] [] QH a0 Tryz.func177
theorem d4q:Ok0 209 b1u:=
 fo [(116,a5A)] [] [0,1,4,5,6] [] d6C (a1 c6M a0) Tryz.func209
theorem d4r:Ok0 210 b7h:=
 fo [] [] [0,2,3,6] [] QH a0 Tryz.func210
theorem d4s:Ok0 204 b9X:=
 fo [(61,a2g),(146,a2h),(209,b1u),(210,b7h)] [] [0,1,4,5,6,7,8] [] d6D (a1 c1U (a1 b8p (a1 d4q (a1 d4r a0)))) Tryz.func204
theorem d4t:Ok0 182 b9Y:=
 fo [(61,a2g),(177,a6U),(204,b9X)] [] [0,1,2,6,7,8,9,10] [] d6E (a1 c1U (a1 c6N (a1 d4s a0))) Tryz.func182
theorem d4u:Ok0 152 b8F:=
 fo [(61,a2g),(98,a2G),(114,a2N),(146,a2h),(182,b9Y)] [] [0,1,4,5,6,7,8,9,10,11] [] d6F (a1 c1U (a1 b9v (a1 c3z (a1 b8p (a1 d4t a0))))) Tryz.func152
theorem d4v:Ok0 115 b8G:=
 fo [(61,a2g),(144,a5k),(146,a2h),(151,b2c),(152,b8F)] [(11,.pair QI Q1),(41,.pair QI Q1)] [0,1,2,7,8,9,10,12,14,15,16,17] [] d6G (a1 c1U (a1 c0H (a1 b8p (a1 c6F (a1 d4u a0))))) Tryz.func115
theorem d7s:Ok0 58 c2t:=
 fo [(61,a2g),(97,b7E),(98,a2G),(102,b0N),(111,b7g),(112,b4H),(113,b0P),(114,a2N),(115,b8G)] [(7,.pair QI (.pair QI (.pair QI (.pair QI (.pair QI (.pair QL (.pair (.arr 3 QI) (.pair (.list false Q3) Q23))))))))] [0,1,5,6,8,9,10,11,12] [] H58 (a1 c1U (a1 d2U (a1 b9v (a1 c6z (a1 d4p (a1 c6D (a1 c6E (a1 c3z (a1 d4v a0))))))))) Tryz.func58
theorem d7t:Ok0 60 b1v:=
 fo [(116,a5A)] [] [0,2,3] [] H60 (a1 c6M a0) Tryz.func60
theorem d7u:Ok0 24 b7F:=
 fo [(49,b5q),(55,b1C),(56,b4K),(57,b9W),(58,c2t),(59,a8n),(60,b1v),(61,a2g)] [(5,.pair QI Q56)] [0,3,4,6,7,8,9,10,12] [] H24 (a1 d2S (a1 d2T (a1 d7q (a1 d7r (a1 d7s (a1 d2V (a1 d7t (a1 c1U a0)))))))) Tryz.func24
theorem d7v:Ok0 38 b3Z:=
 fo [(24,b7F),(25,a5n)] [] [0,1,2,3,4,12,13,15,16] [6] H38 (a1 d7u (a1 c3N a0)) Tryz.func38
theorem d4w:Ok0 121 b3f:=
 fo [] [] [0,1,4,5,6,7,8,9,10,11,12,13] [] QH a0 Tryz.func121
theorem d4x:A0f Tryz.prog G0 122 b3g:=c8Y _
theorem d4y:Ok0 208 b3i:=
 fo [] [] [0,2] [] d2D a0 Tryz.func208
theorem d4z:Ok0 197 a7r:=
 fo [(208,b3i)] [] [0,2] [] QH (a1 d4y a0) Tryz.func197
theorem d4A:Ok0 161 b3j:=
 fo [(197,a7r)] [] [0,1,2,6,7,8,9,10,11,12,13,14,15,16,17,18] [] d6H (a1 d4z a0) Tryz.func161
theorem d4B:Ok0 123 b3k:=
 fo [(161,b3j)] [] [0,1,2,6,7,8] [] QH (a1 d4A a0) Tryz.func123
theorem c9l:Ok0 68 b2k:=
 fo [(121,b3f),(122,b3g),(123,b3k)] [] [0,1,2,6,7,8,9] [] QH (a1 d4w (B0g d4x (a1 d4B a0))) Tryz.func68
theorem d7w:Ok0 69 b7G:=
 fo [(68,b2k)] [] [0,2,3,4] [] H69 (a1 c9l a0) Tryz.func69
theorem d2W:Ok0 29 b5r:=
 fo [(68,b2k),(69,b7G)] [] [0,1,2,6,7] [] H29 (a1 c9l (a1 d7w a0)) Tryz.func29
theorem d2X:Ok0 41 b2Z:=
 fo [(22,a9r),(44,a5V)] [] [0,2,3,4,6] [1] H41 (a1 c6y (a1 c1T a0)) Tryz.func41
theorem d4C:Ok0 126 b7i:=
 fo [(71,a3V)] [] [0,1,4,5,6,7,9,10] [] d6I (a1 c1S a0) Tryz.func126
theorem d2Y:Ok0 76 b4a:=
 fo [(41,b2Z),(44,a5V),(126,b7i)] [] [0,2,3] [1] H76 (a1 d2X (a1 c1T (a1 d4C a0))) Tryz.func76
theorem d2Z:Ok0 77 b4b:=
 fo [(68,b2k)] [] [0,2,3,5] [] H77 (a1 c9l a0) Tryz.func77
theorem c9m:Ok0 39 a8M:=
 fo [(29,b5r),(76,b4a),(77,b4b)] [] [0,1,4,5,6,7] [3] QH (a1 d2W (a1 d2Y (a1 d2Z a0))) Tryz.func39
theorem c1V:Ok0 14 a3A:=
 fo [(37,b4G),(38,b3Z),(39,a8M)] [(6,.pair Q12 Q71),(20,.pair Q12 Q70),(24,.pair Q12 Q70),(48,.pair Q12 Q70),(90,.pair Q12 Q70),(96,.pair Q12 Q70)] [0,3,5,7,8,9,12] [] H14 (a1 d7o (a1 d7v (a1 c9m a0))) Tryz.func14
theorem d3a:Ok0 47 b7H:=
 fo [(87,b2f),(88,b3o),(89,b2Y),(90,b3X)] [] [0,1,4,5,6] [] H47 (a1 c9k (a1 c9i (a1 d2Q (a1 d2R a0)))) Tryz.func47
theorem d4D:Ok0 130 b7j:=
 fo [(87,b2f)] [] [0,2,3,5,6,7] [] d6J (a1 c9k a0) Tryz.func130
theorem d4E:Ok0 131 b7I:=
 fo [] [] [0,2,4,8,12,17] [] QH a0 Tryz.func131
theorem d7x:Ok0 86 b8H:=
 fo [(47,b7H),(130,b7j),(131,b7I)] [] [0,2,3,4,5,6,7,8] [] H86 (a1 d3a (a1 d4D (a1 d4E a0))) Tryz.func86
theorem d7y:Ok0 46 b8I:=
 fo [(44,a5V),(86,b8H)] [] [0,2,3,4] [1] H46 (a1 c1T (a1 d7x a0)) Tryz.func46
theorem d3b:Ok0 92 b3a:=
 fo [(133,b2X)] [] [0,1,4,5,6,8] [] H92 (a1 d1j a0) Tryz.func92
theorem d4F:Ok0 134 a1i:=
 ⟨i0y.of (cx:=b1a) (cxo a0) b4O Tryz.func134 rfl (by kernel_rfl) d3Y,⟨_,_,Tryz.func134,rfl,by kernel_rfl⟩⟩
theorem d3c:Ok0 93 b1b:=
 fo [(134,a1i)] [] [0,2,3,5] [] H93 (a1 d4F a0) Tryz.func93
theorem d1m:Ok0 162 b4d:=
 fo [(183,b3W)] [] [0,1,4,5,6,7] [] d6K (a1 d1c a0) Tryz.func162
theorem d4G:Ok0 163 b7k:=
 fo [] [] [0,1,4,5,6,7] [] d6L a0 Tryz.func163
theorem d4H:Ok0 135 b7K:=
 fo [(162,b4d),(163,b7k)] [] [0,2,3,4,5,6,7,8] [] d6M (a1 d1m (a1 d4G a0)) Tryz.func135
theorem d1n:Ok0 200 b1D:=
 fo [] [] [0,2] [] QH a0 Tryz.func200
theorem d4I:Ok0 198 b4L:=
 fo [(200,b1D)] [] [0,2,3,5,6,7,8] [] d6N (a1 d1n a0) Tryz.func198
theorem d4J:Ok0 199 b1w:=
 fo [] [] [0,1,2,6,7,8,9,10] [] d6O a0 Tryz.func199
theorem d4K:Ok0 164 b4e:=
 fo [(65,a1c),(185,a6Q),(198,b4L),(199,b1w),(200,b1D)] [] [0,1,4,5,6,7,8,9,10,11,12,13] [] d6P (a1 c3M (a1 c6H (a1 d4I (a1 d4J (a1 d1n a0))))) Tryz.func164
theorem d4L:Ok0 165 b5N:=
 fo [] [] [0,2,3,5,6,7,8,9,10,11] [] d6Q a0 Tryz.func165
theorem d4M:Ok0 166 b5O:=
 fo [(71,a3V)] [] [0,1,4,5,6,8,9,10,11,13,14] [] d6R (a1 c1S a0) Tryz.func166
theorem d1o:Ok0 137 b3b:=
 fo [(164,b4e),(165,b5N),(166,b5O)] [] [0,1,2,6,7,8,9,10,11] [] QH (a1 d4K (a1 d4L (a1 d4M a0))) Tryz.func137
theorem d4N:Ok0 167 b8K:=
 fo [(188,a8G)] [] [0,1,2,6,7,8,9,10,11,12,13] [] d6S (a1 c6J a0) Tryz.func167
theorem c6O:Ok0 169 a9z:=
 fo [(149,b3p),(188,a8G),(189,b1B),(190,b2d)] [] [0,1,2,6,7,8,9,10,11] [5] d6T (a1 c6B (a1 c6J (a1 d1e (a1 c6I a0)))) Tryz.func169
theorem d4O:Ok0 201 b4f:=
 fo [] [] [0] [] QH a0 Tryz.func201
theorem d4P:Ok0 168 b8M:=
 fo [(169,a9z),(201,b4f)] [] [0,1,5,7,8,11,12,13,15] [] d2F (a1 c6O (a1 d4O a0)) Tryz.func168
theorem d4Q:Ok0 138 b7L:=
 fo [(137,b3b),(167,b8K),(168,b8M),(169,a9z)] [] [0,3,4,5,7,8,9] [] QH (a1 d1o (a1 d4N (a1 d4P (a1 c6O a0)))) Tryz.func138
theorem d4R:Ok0 136 b2I:=
 fo [(137,b3b)] [] [0,1,2,3,6,7,8] [] QH (a1 d1o a0) Tryz.func136
theorem d7z:Ok0 94 b4g:=
 fo [(135,b7K),(136,b2I),(138,b7L)] [(5,.list true Q42)] [0,1,4,6,8,9] [67] H94 (a1 d4H (a1 d4R (a1 d4Q a0))) Tryz.func94
theorem d4S:Ok0 171 b7l:=
 fo [(148,b0O),(185,a6Q),(186,a9Z),(187,a9K)] [] [0,1,2,6,7,8,9,10] [] d6U (a1 c6A (a1 c6H (a1 d1d (a1 c6G a0)))) Tryz.func171
theorem d4T:Ok0 172 b7M:=
 fo [(65,a1c),(150,b2a),(191,b0T),(193,b5o),(194,a4f),(195,b0S),(196,a7R)] [] [0,1,4,5,6,9,10,11,12,13] [] d6V (a1 c3M (a1 c6C (a1 d1f (a1 d1g (a1 c6L (a1 c6K (a1 d1i a0))))))) Tryz.func172
theorem d4U:Ok0 140 b8N:=
 fo [(65,a1c),(113,b0P),(162,b4d),(169,a9z),(171,b7l),(172,b7M)] [] [0,1,4,5,6,11,22,37,67] [] d6W (a1 c3M (a1 c6E (a1 d1m (a1 c6O (a1 d4S (a1 d4T a0)))))) Tryz.func140
theorem d1p:Ok0 173 b3c:=
 fo [(151,b2c)] [] [0,1,2,6,8] [] d6X (a1 c6F a0) Tryz.func173
theorem d1q:Ok0 175 b5s:=
 fo [(98,a2G)] [] [0,2] [] QH (a1 b9v a0) Tryz.func175
theorem c6P:Ok0 178 b2o:=
 fo [] [] [0,2] [] QH a0 Tryz.func178
theorem d1r:Ok0 179 b5t:=
 fo [(178,b2o)] [] [0,2,3,7] [] QH (a1 c6P a0) Tryz.func179
theorem d4V:Ok0 203 b8O:=
 fo [(177,a6U),(178,b2o),(179,b5t)] [] [0,1,4,5] [] d6Y (a1 c6N (a1 c6P (a1 d1r a0))) Tryz.func203
theorem c6Q:Ok0 176 b3u:=
 fo [(203,b8O)] [] [0,1,4,5,7] [] d6Z (a1 d4V a0) Tryz.func176
theorem d1s:Ok0 143 b4i:=
 fo [(144,a5k),(154,b5n),(173,b3c),(175,b5s),(176,b3u)] [] [0,1,2,3,8,9,10,11,12] [4] d7a (a1 c0H (a1 d1b (a1 d1p (a1 d1q (a1 c6Q a0))))) Tryz.func143
theorem d4W:Ok0 202 b8P:=
 fo [(176,b3u)] [] [0,2,3,4,5,6] [] d7b (a1 c6Q a0) Tryz.func202
theorem d4X:Ok0 174 b5P:=
 fo [(175,b5s),(176,b3u),(202,b8P)] [] [0,2,3] [] QH (a1 d1q (a1 c6Q (a1 d4W a0))) Tryz.func174
theorem d4Y:Ok0 141 b7N:=
 fo [(143,b4i),(144,a5k),(173,b3c),(174,b5P)] [(14,.pair QI Q1),(40,.pair QI Q1)] [0,1,2,3,9,11,12,13,15,17,18] [] d7c (a1 d1s (a1 c0H (a1 d1p (a1 d4X a0)))) Tryz.func141
theorem d7A:Ok0 95 b9Z:=
 fo [(91,a9I),(92,b3a),(93,b1b),(112,b4H),(139,b3V),(140,b8N),(141,b7N)] [] [0,1,2,7,8,11,12,13] [5] H95 (a1 c9j (a1 d3b (a1 d3c (a1 c6D (a1 d1a (a1 d4U (a1 d4Y a0))))))) Tryz.func95
theorem c6R:Ok0 104 a6i:=
 fo [] [] [0,1] [] d7d a0 Tryz.func104
theorem c3O:Ok0 99 a2X:=
 fo [(104,a6i)] [] [0,1,2,6,7] [] H99 (a1 c6R a0) Tryz.func99
theorem d1t:Ok0 100 b1e:=
 fo [(99,a2X)] [] [0,1,2] [] QH (a1 c3O a0) Tryz.func100
theorem d4Z:Ok0 101 b5Q:=
 fo [(98,a2G),(99,a2X),(100,b1e)] [] [0,1,4,6] [3] d7e (a1 b9v (a1 c3O (a1 d1t a0))) Tryz.func101
theorem d5a:Ok0 180 b1x:=
 fo [(104,a6i)] [] [0,1,4] [] d7f (a1 c6R a0) Tryz.func180
theorem d5b:Ok0 145 c0A:=
 fo [(99,a2X),(177,a6U),(178,b2o),(179,b5t),(180,b1x)] [] [0,1,2,6,8,10,11,12] [] d7g (a1 c3O (a1 c6N (a1 c6P (a1 d1r (a1 d5a a0))))) Tryz.func145
theorem d5c:Ok0 103 b8Q:=
 fo [(98,a2G),(99,a2X),(143,b4i),(144,a5k),(145,c0A)] [] [0,1,2,3,4,10,11,12,13,14,16] [6] d7h (a1 b9v (a1 c3O (a1 d1s (a1 c0H (a1 d5b a0))))) Tryz.func103
theorem d3d:Ok0 50 b7O:=
 fo [(97,b7E),(98,a2G),(99,a2X),(100,b1e),(101,b5Q),(102,b0N),(103,b8Q)] [] [0,1,2,6,7,9,13,37,39,41,43] [4] H50 (a1 d2U (a1 b9v (a1 c3O (a1 d1t (a1 d4Z (a1 c6z (a1 d5c a0))))))) Tryz.func50
theorem d5d:Ok0 142 b3l:=
 fo [] [] [0,2] [] QH a0 Tryz.func142
theorem d7B:Ok0 96 c0B:=
 fo [(50,b7O),(142,b3l)] [(5,.pair (.list true QV) Q0)] [0,1,4] [2] QH (a1 d3d (a1 d5d a0)) Tryz.func96
theorem d7C:Ok0 48 c0C:=
 fo [(91,a9I),(92,b3a),(93,b1b),(94,b4g),(95,b9Z),(96,c0B)] [] [0,1,5,6,7,9,10,14,15] [] H48 (a1 c9j (a1 d3b (a1 d3c (a1 d7z (a1 d7A (a1 d7B a0)))))) Tryz.func48
theorem d3e:Ok0 20 b4j:=
 fo [(22,a9r),(44,a5V),(45,a3T),(46,b8I),(47,b7H),(48,c0C)] [(10,.pair QI Q56),(52,.pair QI Q54),(57,.pair QI Q54),(63,.pair QI Q54),(79,.pair QI Q54),(95,.pair QI Q54)] [0,1,2,3,9,11,12,14,16] [4,5] H20 (a1 c6y (a1 c1T (a1 c1R (a1 d7y (a1 d3a (a1 d7C a0)))))) Tryz.func20
theorem d7D:Ok0 26 b8R:=
 fo [(22,a9r),(44,a5V),(65,a1s)] [(6,.pair QI Q7),(12,.pair QI Q5),(30,.pair QI Q5),(33,.pair QI Q5)] [0,1,5,8] [2,3] H26 (a1 c6y (a1 c1T (a1 d0Z a0))) Tryz.func26
theorem d7E:Ok0 35 b4M:=
 fo [(20,b4j),(25,a5n),(26,b8R)] [] [0,1,2,7,9] [3,4] QH (a1 d3e (a1 c3N (a1 d7D a0))) Tryz.func35
theorem d7F:Ok0 51 b1y:=
 fo [(104,a6i)] [] [0] [] H51 (a1 c6R a0) Tryz.func51
theorem d7G:Ok0 52 b1z:=
 fo [] [] [0,2] [] QH a0 Tryz.func52
theorem d5e:Ok0 105 b8S:=
 fo [] [] [0,2] [] QH a0 Tryz.func105
theorem d1u:Ok0 106 b5u:=
 fo [] [] [0,2,3,5] [] d7i a0 Tryz.func106
theorem d7H:Ok0 53 b4N:=
 fo [(105,b8S),(106,b5u),(107,b3Y)] [] [0,1,4,5,8] [2] H53 (a1 d5e (a1 d1u (a1 d1l a0))) Tryz.func53
theorem d5f:Ok0 108 b7m:=
 fo [(129,b2T)] [] [0,1,4,5] [] d7j (a1 d0X a0) Tryz.func108
theorem d5g:Ok0 109 a6a:=⟨c8X _,⟨_,_,Tryz.func109,rfl,by kernel_rfl⟩⟩
theorem d3f:Ok0 54 b5v:=
 fo [(108,b7m),(109,a6a)] [] [0,1,4,5] [] QH (a1 d5f (a1 d5g a0)) Tryz.func54
theorem c6S:Ok0 21 a9C:=
 fo [(49,b5q),(50,b7O),(51,b1y),(52,b1z),(53,b4N),(54,b5v),(55,b1C)] [(4,.pair (.list true QV) Q0)] [0,2,3,7,8,9] [1] H21 (a1 d2S (a1 d3d (a1 d7F (a1 d7G (a1 d7H (a1 d3f (a1 d2T a0))))))) Tryz.func21
theorem d3g:Ok0 40 b5w:=
 fo [(21,a9C),(25,a5n),(39,a8M),(45,a3T)] [] [0,2,3,4,5,6,7,8,11,12] [1] H40 (a1 c6S (a1 c3N (a1 c9m (a1 c1R a0)))) Tryz.func40
theorem d3h:Ok0 73 b5x:=
 fo [(40,b5w),(54,b5v),(84,a9Y),(106,b5u)] [] [0,2,3,4,5,6,7,8,10,12] [1] H73 (a1 d3g (a1 d3f (a1 d2M (a1 d1u a0)))) Tryz.func73
theorem d7I:Ok0 36 b3m:=
 fo [(21,a9C),(25,a5n),(29,b5r),(73,b5x),(76,b4a),(77,b4b)] [(6,.pair Q12 Q71),(15,.pair Q12 Q70)] [0,1,4,5,7,10,11,13] [2] H36 (a1 c6S (a1 c3N (a1 d2W (a1 d3h (a1 d2Y (a1 d2Z a0)))))) Tryz.func36
theorem d3i:Ok0 13 b4k:=
 fo [(14,a3A),(35,b4M),(36,b3m)] [] [0,1,2,6,7,9,10,13,14] [4] H13 (a1 c1V (a1 d7E (a1 d7I a0))) Tryz.func13
theorem c9n:Ok0 15 a5L:=
 fo [(40,b5w),(41,b2Z)] [] [0,2,3,4,5,6,7] [1] H15 (a1 d3g (a1 d2X a0)) Tryz.func15
theorem d3j:Ok0 16 b3d:=
 fo [] [] [0,1,4,5] [] H16 a0 Tryz.func16
theorem d7J:Ok0 42 a2Y:=
 fo [(14,a3A),(21,a9C)] [] [0,2,4,5,8,9] [] H42 (a1 c1V (a1 c6S a0)) Tryz.func42
theorem d3k:Ok0 17 a9Q:=⟨c9g d7J.1,⟨_,_,Tryz.func17,rfl,by kernel_rfl⟩⟩
theorem d7K:Ok0 70 a4l:=
 fo [] [] [0,1,4,5] [] H70 a0 Tryz.func70
theorem d7L:Ok0 30 b7o:=
 fo [(14,a3A),(15,a5L),(70,a4l)] [] [0,1,4,6,8,9] [] H30 (a1 c1V (a1 c9n (a1 d7K a0))) Tryz.func30
theorem d7M:Ok0 72 b7P:=
 fo [(45,a3T),(71,a3V)] [(6,.pair QI Q6),(36,.list true (.list true QI)),(37,.pair QI Q6)] [0,1,5,7,8,9] [3] H72 (a1 c1R (a1 c1S a0)) Tryz.func72
theorem d3l:Ok0 32 b1E:=
 fo [(20,b4j),(21,a9C),(39,a8M),(45,a3T),(71,a3V),(72,b7P),(73,b5x)] [(13,.pair Q12 Q71),(76,.pair Q12 Q70)] [0,1,2,3,8,9,10,12,14,15,16,18,20] [4] H32 (a1 d3e (a1 c6S (a1 c9m (a1 c1R (a1 c1S (a1 d7M (a1 d3h a0))))))) Tryz.func32
theorem fs9:Ok0 9 b8T:=
 fo [(13,b4k),(14,a3A),(15,a5L),(16,b3d),(17,a9Q),(30,b7o),(32,b1E)] [] [0,2,3,4,5,7,8,9] [] QH (a1 d3i (a1 c1V (a1 c9n (a1 d3j (a1 d3k (a1 d7L (a1 d3l a0))))))) Tryz.func9
theorem d7N:Ok0 33 b8U:=
 fo [] [] [0,2] [1] QH a0 Tryz.func33
theorem d7O:Ok0 74 c3L:=
 fo [] [] [0,2] [] H74 a0 Tryz.func74
theorem d7P:Ok0 75 c2u:=
 fo [] [] [0,2] [] H75 a0 Tryz.func75
theorem d7Q:Ok0 34 c2v:=
 fo [(74,c3L),(75,c2u)] [] [0,1,4] [] QH (a1 d7O (a1 d7P a0)) Tryz.func34
theorem d7R:Ok0 10 c0D:=
 fo [(33,b8U),(34,c2v)] [] [0,1,2,6,7] [3] H10 (a1 d7N (a1 d7Q a0)) Tryz.func10
theorem d7S:Ok0 11 c0E:=
 fo [(14,a3A),(32,b1E)] [] [0,1,2,3,8,10,11,12,14] [4] H11 (a1 c1V (a1 d3l a0)) Tryz.func11
theorem d7T:Ok0 12 c0F:=
 fo [] [] [0,1,2,7] [] QH a0 Tryz.func12
theorem fs3:Ok0 3 b1G:=
 fo [(9,b8T),(10,c0D),(11,c0E),(12,c0F),(13,b4k),(14,a3A),(15,a5L),(16,b3d),(17,a9Q)] [] [0,1,2,3,4,5,6,14,15,17,19,20,22,23,24] [7] H3 (a1 fs9 (a1 d7R (a1 d7S (a1 d7T (a1 d3i (a1 c1V (a1 c9n (a1 d3j (a1 d3k a0))))))))) Tryz.func3
end Go.Ab
