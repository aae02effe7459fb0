/- What some calls come to, kept. -/
import Derived.Test.YtkafdfjimlihdaaGreatDoorThree
import Derived.Test.YtkafdfjimlihdaaGreatDoorQ1T
set_option linter.unusedVariables false
set_option linter.unusedSimpArgs false
namespace Go.Proofs.YtkafdfjimlihdaaGreatDoor
open Go Go.Ev
set_option maxRecDepth 100000
noncomputable def G0 : MO := .cells [.int .u32 (.ofNat 1779033703),.int .u32 (.ofNat 3144134277),.int .u32 (.ofNat 1013904242),.int .u32 (.ofNat 2773480762),.int .u32 (.ofNat 1359893119),.int .u32 (.ofNat 2600822924),.int .u32 (.ofNat 528734635),.int .u32 (.ofNat 1541459225)] 374 false true
noncomputable def G1 : MO := .cells [.int .i32 (.ofNat 0),.int .i32 (.ofNat 31),.int .i32 (.ofNat 127),.int .i32 (.ofNat 159),.int .i32 (.ofNat 8232),.int .i32 (.ofNat 8233),.int .i32 (.ofNat 8234),.int .i32 (.ofNat 8238),.int .i32 (.ofNat 8294),.int .i32 (.ofNat 8297),.int .i32 (.ofNat 57344),.int .i32 (.ofNat 63743),.int .i32 (.ofNat 983040),.int .i32 (.ofNat 1114111),.int .i32 (.ofNat 65529),.int .i32 (.ofNat 65533),.int .i32 (.ofNat 64976),.int .i32 (.ofNat 65007)] 447 false true
noncomputable def G3 : MO := .cells ([.int .u32 (.ofNat 1116352408),.int .u32 (.ofNat 1899447441),.int .u32 (.ofNat 3049323471),.int .u32 (.ofNat 3921009573),.int .u32 (.ofNat 961987163),.int .u32 (.ofNat 1508970993),.int .u32 (.ofNat 2453635748),.int .u32 (.ofNat 2870763221),.int .u32 (.ofNat 3624381080),.int .u32 (.ofNat 310598401),.int .u32 (.ofNat 607225278),.int .u32 (.ofNat 1426881987),.int .u32 (.ofNat 1925078388),.int .u32 (.ofNat 2162078206),.int .u32 (.ofNat 2614888103),.int .u32 (.ofNat 3248222580),.int .u32 (.ofNat 3835390401),.int .u32 (.ofNat 4022224774),.int .u32 (.ofNat 264347078),.int .u32 (.ofNat 604807628),.int .u32 (.ofNat 770255983),.int .u32 (.ofNat 1249150122),.int .u32 (.ofNat 1555081692),.int .u32 (.ofNat 1996064986),.int .u32 (.ofNat 2554220882),.int .u32 (.ofNat 2821834349),.int .u32 (.ofNat 2952996808),.int .u32 (.ofNat 3210313671),.int .u32 (.ofNat 3336571891),.int .u32 (.ofNat 3584528711),.int .u32 (.ofNat 113926993),.int .u32 (.ofNat 338241895)] ++ [.int .u32 (.ofNat 666307205),.int .u32 (.ofNat 773529912),.int .u32 (.ofNat 1294757372),.int .u32 (.ofNat 1396182291),.int .u32 (.ofNat 1695183700),.int .u32 (.ofNat 1986661051),.int .u32 (.ofNat 2177026350),.int .u32 (.ofNat 2456956037),.int .u32 (.ofNat 2730485921),.int .u32 (.ofNat 2820302411),.int .u32 (.ofNat 3259730800),.int .u32 (.ofNat 3345764771),.int .u32 (.ofNat 3516065817),.int .u32 (.ofNat 3600352804),.int .u32 (.ofNat 4094571909),.int .u32 (.ofNat 275423344),.int .u32 (.ofNat 430227734),.int .u32 (.ofNat 506948616),.int .u32 (.ofNat 659060556),.int .u32 (.ofNat 883997877),.int .u32 (.ofNat 958139571),.int .u32 (.ofNat 1322822218),.int .u32 (.ofNat 1537002063),.int .u32 (.ofNat 1747873779),.int .u32 (.ofNat 1955562222),.int .u32 (.ofNat 2024104815),.int .u32 (.ofNat 2227730452),.int .u32 (.ofNat 2361852424),.int .u32 (.ofNat 2428436474),.int .u32 (.ofNat 2756734187),.int .u32 (.ofNat 3204031479),.int .u32 (.ofNat 3329325298)]) 455 false true
noncomputable def G4 : MO := .cells ([.int .u32 (.ofNat 1116352408),.int .u32 (.ofNat 1899447441),.int .u32 (.ofNat 3049323471),.int .u32 (.ofNat 3921009573),.int .u32 (.ofNat 961987163),.int .u32 (.ofNat 1508970993),.int .u32 (.ofNat 2453635748),.int .u32 (.ofNat 2870763221),.int .u32 (.ofNat 3624381080),.int .u32 (.ofNat 310598401),.int .u32 (.ofNat 607225278),.int .u32 (.ofNat 1426881987),.int .u32 (.ofNat 1925078388),.int .u32 (.ofNat 2162078206),.int .u32 (.ofNat 2614888103),.int .u32 (.ofNat 3248222580),.int .u32 (.ofNat 3835390401),.int .u32 (.ofNat 4022224774),.int .u32 (.ofNat 264347078),.int .u32 (.ofNat 604807628),.int .u32 (.ofNat 770255983),.int .u32 (.ofNat 1249150122),.int .u32 (.ofNat 1555081692),.int .u32 (.ofNat 1996064986),.int .u32 (.ofNat 2554220882),.int .u32 (.ofNat 2821834349),.int .u32 (.ofNat 2952996808),.int .u32 (.ofNat 3210313671),.int .u32 (.ofNat 3336571891),.int .u32 (.ofNat 3584528711),.int .u32 (.ofNat 113926993),.int .u32 (.ofNat 338241895)] ++ [.int .u32 (.ofNat 666307205),.int .u32 (.ofNat 773529912),.int .u32 (.ofNat 1294757372),.int .u32 (.ofNat 1396182291),.int .u32 (.ofNat 1695183700),.int .u32 (.ofNat 1986661051),.int .u32 (.ofNat 2177026350),.int .u32 (.ofNat 2456956037),.int .u32 (.ofNat 2730485921),.int .u32 (.ofNat 2820302411),.int .u32 (.ofNat 3259730800),.int .u32 (.ofNat 3345764771),.int .u32 (.ofNat 3516065817),.int .u32 (.ofNat 3600352804),.int .u32 (.ofNat 4094571909),.int .u32 (.ofNat 275423344),.int .u32 (.ofNat 430227734),.int .u32 (.ofNat 506948616),.int .u32 (.ofNat 659060556),.int .u32 (.ofNat 883997877),.int .u32 (.ofNat 958139571),.int .u32 (.ofNat 1322822218),.int .u32 (.ofNat 1537002063),.int .u32 (.ofNat 1747873779),.int .u32 (.ofNat 1955562222),.int .u32 (.ofNat 2024104815),.int .u32 (.ofNat 2227730452),.int .u32 (.ofNat 2361852424),.int .u32 (.ofNat 2428436474),.int .u32 (.ofNat 2756734187),.int .u32 (.ofNat 3204031479),.int .u32 (.ofNat 3329325298)]) 455 false true
noncomputable def G5 : MO := .cells [.int .i32 (.ofNat 160),.int .i32 (.ofNat 160),.int .i32 (.ofNat 5760),.int .i32 (.ofNat 5760),.int .i32 (.ofNat 8192),.int .i32 (.ofNat 8202),.int .i32 (.ofNat 8239),.int .i32 (.ofNat 8239),.int .i32 (.ofNat 8287),.int .i32 (.ofNat 8287),.int .i32 (.ofNat 12288),.int .i32 (.ofNat 12288)] 479 false true
noncomputable def G6 : MO := .cells [.int .i32 (.ofNat 173),.int .i32 (.ofNat 173),.int .i32 (.ofNat 8203),.int .i32 (.ofNat 8205),.int .i32 (.ofNat 8288),.int .i32 (.ofNat 8288),.int .i32 (.ofNat 65024),.int .i32 (.ofNat 65039),.int .i32 (.ofNat 65279),.int .i32 (.ofNat 65279)] 480 false true
noncomputable def G7 : MO := .cells [.int .i64 (.ofNat 1),.int .u8 (.ofNat 128),.int .u8 (.ofNat 0),.int .i32 (.ofNat 0),.int .i64 (.ofNat 2),.int .u8 (.ofNat 224),.int .u8 (.ofNat 192),.int .i32 (.ofNat 128),.int .i64 (.ofNat 3),.int .u8 (.ofNat 240),.int .u8 (.ofNat 224),.int .i32 (.ofNat 2048),.int .i64 (.ofNat 4),.int .u8 (.ofNat 248),.int .u8 (.ofNat 240),.int .i32 (.ofNat 65536)] 483 false true
noncomputable def G8 : MO := .cells [.int .u64 (.ofNat 1),.int .u64 (.ofNat 10),.int .u64 (.ofNat 100),.int .u64 (.ofNat 1000),.int .u64 (.ofNat 10000),.int .u64 (.ofNat 100000),.int .u64 (.ofNat 1000000),.int .u64 (.ofNat 10000000),.int .u64 (.ofNat 100000000),.int .u64 (.ofNat 1000000000),.int .u64 (.ofNat 10000000000),.int .u64 (.ofNat 100000000000),.int .u64 (.ofNat 1000000000000),.int .u64 (.ofNat 10000000000000),.int .u64 (.ofNat 100000000000000),.int .u64 (.ofNat 1000000000000000),.int .u64 (.ofNat 10000000000000000),.int .u64 (.ofNat 100000000000000000),.int .u64 (.ofNat 1000000000000000000),.int .u64 (.ofNat 10000000000000000000)] 494 false true
noncomputable def G9 : MO := .cells (strCells [0,1,28,2,29,14,24,3,30,22,20,15,25,17,4,8,31,27,13,23,21,19,16,7,26,12,18,6,11,5,10,9]) 512 false true
noncomputable def G10 : MO := .cells (strCells [0,1,56,2,57,49,28,3,61,58,42,50,38,29,17,4,62,47,59,36,45,43,51,22,53,39,33,30,24,18,12,5,63,55,48,27,60,41,37,16,46,35,44,21,52,32,23,11,54,26,40,15,34,20,31,10,25,14,19,9,13,8,7,6]) 513 false true
noncomputable def GL : List (Pos × MO) := [(.h, G0), ((.o .h), G1), ((.o (.o .h)), G3), ((.i (.o .h)), G4), ((.o (.i .h)), G5), ((.i (.i .h)), G6), ((.o (.o (.o .h))), G7), ((.i (.o (.o .h))), G8), ((.o (.i (.o .h))), G9), ((.i (.i (.o .h))), G10)]
noncomputable def S0 : St := .mk (heapOf GL) (.i (.o (.o (.o (.o (.o .h))))))
noncomputable def mLay0X_0 : List (Pos × MO) := [(.h, G0),
  ((.o .h), G1),
  ((.o (.o .h)), G3),
  ((.i (.o .h)), G4),
  ((.o (.i .h)), G5),
  ((.i (.i .h)), G6),
  ((.o (.o (.o .h))), G7)]
noncomputable def mLay0X : List (Pos × MO) := mLay0X_0
noncomputable def mLay0Y_0 : List (Pos × MO) := [(.h, G0),
  ((.o .h), G1),
  ((.o (.o .h)), G3),
  ((.i (.o .h)), G4),
  ((.o (.i .h)), G5),
  ((.i (.i .h)), G6),
  ((.o (.o (.o .h))), G7),
  ((.i (.i (.o (.o (.o (.o .h)))))),
  .map []),
  ((.o (.o (.i (.o (.o (.o .h)))))), .cells [.int .i64 (.ofNat 8),.nils,.nils,.map (.i (.i (.o (.o (.o (.o .h)))))),.int .i64 (.negSucc 0),.int .i64 (.negSucc 0)] 287
  true true),
  ((.i (.o (.i (.o (.o (.o .h)))))), .cells [.int .i64 (.ofNat 8),.int .u64 (.ofNat 100),.ptr (.o (.o (.i (.o (.o (.o .h)))))) 0,.int .u64 (.ofNat 0),.int .u64
  (.ofNat 0),.int .u64 (.ofNat 0),.bool false] 180 true true),
  ((.o (.i (.i (.o (.o (.o .h)))))), .map []),
  ((.i (.i (.i (.o (.o (.o .h)))))), .cells [.bool false,.bool
  false,.nils,.map (.o (.i (.i (.o (.o (.o .h))))))] 194 true true),
  ((.o (.o (.o (.i (.o (.o .h)))))), .map [(.str 1 [116],.map (.o (.o (.o (.o (.i (.o .h)))))))]),
  ((.i (.o
  (.o (.i (.o (.o .h)))))), .cells [.map (.o (.o (.o (.i (.o (.o .h)))))),.int .u64 (.ofNat 2),.int .u64 (.ofNat 0)] 170 true true),
  ((.o (.i (.o (.i (.o (.o .h)))))), .cells
  [.bool false,.nils,.bool false] 92 true true),
  ((.i (.i (.o (.i (.o (.o .h)))))), .cells [.slice (.i (.i (.o (.o (.i (.o .h)))))) 0 1 1 false 1,.slice (.i (.o (.i (.i (.o (.o
  (.i (.i (.i (.o (.i (.o .h)))))))))))) 0 2 2 false 10,.int .u64 (.ofNat 2),.int .u64 (.ofNat 0)] 95 true true)]
noncomputable def mLay0Y_1 : List (Pos × MO) := [((.o (.o (.i (.i (.o (.o .h)))))), .cells [.int .i64 (.ofNat 8),.int .u64 (.ofNat 100),.nils,.int .u64 (.ofNat 0),.int .u64 (.ofNat 0),.int .u64 (.ofNat 0),.bool false] 122 true
  true),
  ((.i (.o (.i (.i (.o (.o .h)))))), .cells [.ptr (.o (.i (.o (.i (.o (.o .h)))))) 0,.ptr (.i (.i (.o (.i (.o (.o .h)))))) 0,.ptr (.o (.o (.i (.i (.o (.o .h)))))) 0,.int
  .i64 (.ofNat 2)] 79 true true),
  ((.o (.o (.o (.o (.i (.o .h)))))), .map [(.str 3 [97,110,110],.ptr (.o (.o (.i (.o (.o (.i (.i (.i (.o (.i (.o .h))))))))))) 0),(.str 3
  [98,111,98],.ptr (.o (.i (.i (.i (.i (.o (.o (.i (.i (.o (.i (.o .h)))))))))))) 0)]),
  ((.i (.i (.o (.o (.i (.o .h)))))), .cells [.str 1 [116]] 9 true false),
  ((.i (.o (.o (.i
  (.i (.o (.i (.i (.o (.o (.o .h))))))))))), .cells [.int .u8 (.ofNat 1),.int .u8 (.ofNat 2),.int .u8 (.ofNat 3)] 5 true false),
  ((.i (.i (.i (.o (.o (.i (.o (.o (.i (.o (.o
  .h))))))))))), .cells (strCells [23,126,79,174,133,134,172,127,13,235,172,107,1,185,219,202,119,149,156,254,37,21,189,219,209,0,13,117,204,195,91,73]) 5 true false),
  ((.o (.i
  (.o (.i (.i (.i (.i (.i (.i (.o (.o .h))))))))))), .cells (strCells
  [111,55,42,229,24,22,2,167,20,115,13,141,117,207,72,246,172,7,120,121,194,62,254,82,136,132,194,97,89,249,43,247]) 5 true false),
  ((.o (.o (.o (.o (.i (.i (.i (.o (.o (.i (.o
  .h))))))))))), .cells (strCells [131,105,227,226,24,194,58,83,198,212,84,143,56,155,5,178,17,251,252,189,66,217,188,37,76,13,201,7,56,109,166,117]) 5 true false),
  ((.i (.o (.i
  (.i (.i (.o (.i (.i (.o (.i (.o .h))))))))))), .cells [.int .u8 (.ofNat 1),.int .u8 (.ofNat 2),.int .u8 (.ofNat 3)] 5 true false),
  ((.i (.i (.i (.i (.i (.o (.i (.i (.o (.i (.o
  .h))))))))))), .cells (strCells [23,126,79,174,133,134,172,127,13,235,172,107,1,185,219,202,119,149,156,254,37,21,189,219,209,0,13,117,204,195,91,73]) 5 true false),
  ((.i (.o
  (.o (.o (.o (.i (.i (.i (.o (.i (.o .h))))))))))), .cells (strCells
  [111,55,42,229,24,22,2,167,20,115,13,141,117,207,72,246,172,7,120,121,194,62,254,82,136,132,194,97,89,249,43,247]) 5 true false),
  ((.i (.i (.o (.o (.o (.i (.i (.i (.o (.i (.o
  .h))))))))))), .cells (strCells [131,105,227,226,24,194,58,83,198,212,84,143,56,155,5,178,17,251,252,189,66,217,188,37,76,13,201,7,56,109,166,117]) 5 true false),
  ((.o (.o (.i
  (.o (.o (.i (.i (.i (.o (.i (.o .h))))))))))), .cells [.str 1 [116],.str 3 [97,110,110],.slice (.i (.o (.i (.i (.i (.o (.i (.i (.o (.i (.o .h))))))))))) 0 3 3 false 1,.int .i64
  (.ofNat 2),.slice (.i (.i (.i (.i (.i (.o (.i (.i (.o (.i (.o .h))))))))))) 0 32 32 false 1,.slice (.i (.o (.o (.o (.o (.i (.i (.i (.o (.i (.o .h))))))))))) 0 32 32 false
  1,.slice (.i (.i (.o (.o (.o (.i (.i (.i (.o (.i (.o .h))))))))))) 0 32 32 false 1,.int .u64 (.ofNat 1),.nils,.bool false] 48 true true),
  ((.i (.i (.o (.o (.i (.o (.o (.i (.i
  (.i (.o (.o .h)))))))))))), .cells [.int .u8 (.ofNat 1),.int .u8 (.ofNat 2),.int .u8 (.ofNat 3)] 5 true false),
  ((.i (.o (.o (.o (.o (.i (.i (.i (.i (.i (.o (.o .h)))))))))))),
  .cells (strCells [221,218,242,43,105,238,119,187,103,120,9,255,237,135,236,131,185,128,47,57,234,120,165,60,55,252,100,66,87,48,32,135]) 5 true false),
  ((.o (.o (.i (.o (.i (.i
  (.o (.i (.o (.o (.i (.o .h)))))))))))), .cells (strCells [20,250,75,83,225,152,136,123,184,40,64,73,50,30,177,101,87,197,190,93,221,206,157,187,191,92,119,92,7,120,49,28]) 5 true
  false)]
noncomputable def mLay0Y_2 : List (Pos × MO) := [((.o (.i (.o (.i (.o (.i (.o (.o (.i (.o (.i (.o .h)))))))))))), .cells (strCells
  [158,86,125,53,226,179,78,55,44,109,244,52,197,11,158,100,100,171,72,10,233,12,205,4,161,110,20,249,144,231,125,170]) 5 true false),
  ((.i (.i (.i (.o (.i (.o (.o (.i (.i (.o
  (.i (.o .h)))))))))))), .cells [.int .u8 (.ofNat 1),.int .u8 (.ofNat 2),.int .u8 (.ofNat 3)] 5 true false),
  ((.i (.o (.o (.i (.i (.o (.o (.i (.i (.o (.i (.o .h)))))))))))),
  .cells (strCells [221,218,242,43,105,238,119,187,103,120,9,255,237,135,236,131,185,128,47,57,234,120,165,60,55,252,100,66,87,48,32,135]) 5 true false),
  ((.i (.i (.o (.i (.i (.o
  (.o (.i (.i (.o (.i (.o .h)))))))))))), .cells (strCells [20,250,75,83,225,152,136,123,184,40,64,73,50,30,177,101,87,197,190,93,221,206,157,187,191,92,119,92,7,120,49,28]) 5 true
  false),
  ((.i (.o (.i (.i (.i (.o (.o (.i (.i (.o (.i (.o .h)))))))))))), .cells (strCells
  [158,86,125,53,226,179,78,55,44,109,244,52,197,11,158,100,100,171,72,10,233,12,205,4,161,110,20,249,144,231,125,170]) 5 true false),
  ((.o (.i (.i (.i (.i (.o (.o (.i (.i (.o
  (.i (.o .h)))))))))))), .cells [.str 1 [116],.str 3 [98,111,98],.slice (.i (.i (.i (.o (.i (.o (.o (.i (.i (.o (.i (.o .h)))))))))))) 0 3 3 false 1,.int .i64 (.ofNat 2),.slice
  (.i (.o (.o (.i (.i (.o (.o (.i (.i (.o (.i (.o .h)))))))))))) 0 32 32 false 1,.slice (.i (.i (.o (.i (.i (.o (.o (.i (.i (.o (.i (.o .h)))))))))))) 0 32 32 false 1,.slice (.i
  (.o (.i (.i (.i (.o (.o (.i (.i (.o (.i (.o .h)))))))))))) 0 32 32 false 1,.int .u64 (.ofNat 2),.nils,.bool false] 48 true true),
  ((.i (.o (.i (.i (.o (.o (.i (.i (.i (.o (.i
  (.o .h)))))))))))), .cells [.str 1 [116],.str 3 [97,110,110],.slice (.i (.o (.o (.i (.i (.o (.i (.i (.o (.o (.o .h))))))))))) 0 3 3 false 1,.int .i64 (.ofNat 2),.slice (.i (.i
  (.i (.o (.o (.i (.o (.o (.i (.o (.o .h))))))))))) 0 32 32 false 1,.slice (.o (.i (.o (.i (.i (.i (.i (.i (.i (.o (.o .h))))))))))) 0 32 32 false 1,.slice (.o (.o (.o (.o (.i (.i
  (.i (.o (.o (.i (.o .h))))))))))) 0 32 32 false 1,.int .u64 (.ofNat 1),.nils,.bool false,.str 1 [116],.str 3 [98,111,98],.slice (.i (.i (.o (.o (.i (.o (.o (.i (.i (.i (.o (.o
  .h)))))))))))) 0 3 3 false 1,.int .i64 (.ofNat 2),.slice (.i (.o (.o (.o (.o (.i (.i (.i (.i (.i (.o (.o .h)))))))))))) 0 32 32 false 1,.slice (.o (.o (.i (.o (.i (.i (.o (.i (.o
  (.o (.i (.o .h)))))))))))) 0 32 32 false 1,.slice (.o (.i (.o (.i (.o (.i (.o (.o (.i (.o (.i (.o .h)))))))))))) 0 32 32 false 1,.int .u64 (.ofNat 2),.nils,.bool false] 84 true
  false)]
noncomputable def mLay0Y : List (Pos × MO) := mLay0Y_0 ++ mLay0Y_1 ++ mLay0Y_2
noncomputable def mLay0 : Memo := ⟨[.bool false,.int .u64 (.ofNat 100)], (.i (.o (.o (.o (.o (.o .h)))))), mLay0X, .agg [.ptr (.i (.i (.i (.o (.o (.o .h)))))) 0,.ptr (.i (.o (.o (.i (.o (.o .h)))))) 0,.ptr (.i (.o (.i (.o (.o (.o .h)))))) 0,.int .i64 (.ofNat 2),.ptr (.i (.o (.i (.i (.o (.o .h)))))) 0], (.o (.i (.i (.i (.o (.o (.i (.i (.i (.o (.i (.o .h)))))))))))), mLay0Y⟩
noncomputable def mAwX_0 : List (Pos × MO) := [(.h, G0),
  ((.o .h), G1),
  ((.o (.o .h)), G3),
  ((.i (.o .h)), G4),
  ((.o (.i .h)), G5),
  ((.i (.i .h)), G6),
  ((.o (.o (.o .h))), G7)]
noncomputable def mAwX : List (Pos × MO) := mAwX_0
noncomputable def mAwY_0 : List (Pos × MO) := [(.h, G0),
  ((.o .h), G1),
  ((.o (.o .h)), G3),
  ((.i (.o .h)), G4),
  ((.o (.i .h)), G5),
  ((.i (.i .h)), G6),
  ((.o (.o (.o .h))), G7)]
noncomputable def mAwY : List (Pos × MO) := mAwY_0
noncomputable def mAw : Memo := ⟨[], (.i (.o (.o (.o (.o (.o .h)))))), mAwX, .bool true, (.i (.i (.i (.i (.o (.i (.i (.i (.i (.i (.o (.i (.o .h))))))))))))), mAwY⟩
noncomputable def mFin0X_0 : List (Pos × MO) := [(.h, G0),
  ((.o .h), G1),
  ((.o (.o .h)), G3),
  ((.i (.o .h)), G4),
  ((.o (.i .h)), G5),
  ((.i (.i .h)), G6),
  ((.o (.o (.o .h))), G7),
  ((.i (.i (.i (.o (.o (.o .h)))))),
  .cells [.bool false,.bool false,.nils,.map (.o (.i (.i (.o (.o (.o .h))))))] 194 true true),
  ((.o (.i (.o (.i (.o (.o .h)))))), .cells [.bool false,.nils,.bool false] 92 true
  true),
  ((.i (.o (.i (.i (.o (.o .h)))))), .cells [.ptr (.o (.i (.o (.i (.o (.o .h)))))) 0,.ptr (.i (.i (.o (.i (.o (.o .h)))))) 0,.ptr (.o (.o (.i (.i (.o (.o .h)))))) 0,.int
  .i64 (.ofNat 2)] 79 true true)]
noncomputable def mFin0X : List (Pos × MO) := mFin0X_0
noncomputable def mFin0Y_0 : List (Pos × MO) := [(.h, G0),
  ((.o .h), G1),
  ((.o (.o .h)), G3),
  ((.i (.o .h)), G4),
  ((.o (.i .h)), G5),
  ((.i (.i .h)), G6),
  ((.o (.o (.o .h))), G7),
  ((.i (.i (.i (.o (.o (.o .h)))))),
  .cells [.bool false,.bool false,.nils,.map (.o (.i (.i (.o (.o (.o .h))))))] 194 true true),
  ((.o (.i (.o (.i (.o (.o .h)))))), .cells [.bool false,.nils,.bool false] 92 true
  true),
  ((.i (.o (.i (.i (.o (.o .h)))))), .cells [.ptr (.o (.i (.o (.i (.o (.o .h)))))) 0,.ptr (.i (.i (.o (.i (.o (.o .h)))))) 0,.ptr (.o (.o (.i (.i (.o (.o .h)))))) 0,.int
  .i64 (.ofNat 2)] 79 true true)]
noncomputable def mFin0Y : List (Pos × MO) := mFin0Y_0
noncomputable def mFin0 : Memo := ⟨[.agg [.ptr (.i (.i (.i (.o (.o (.o .h)))))) 0,.ptr (.i (.o (.o (.i (.o (.o .h)))))) 0,.ptr (.i (.o (.i (.o (.o (.o .h)))))) 0,.int .i64 (.ofNat 2),.ptr (.i (.o (.i (.i (.o (.o .h)))))) 0],.str 6 [112,101,110,99,105,108],.str 14 [110,44,44,110,61,97,110,110,44,114,61,97,98,99],.str 34 [114,61,97,98,99,100,46,48,48,48,48,48,48,48,48,48,48,48,48,48,48,48,49,44,115,61,65,81,73,68,44,105,61,50],.int .u8 (.ofNat 0)], (.i (.o (.o (.i (.o (.i (.o (.o (.i (.i (.i (.o .h)))))))))))), mFin0X, .str 77 [99,61,98,105,119,115,44,114,61,97,98,99,100,46,48,48,48,48,48,48,48,48,48,48,48,48,48,48,48,49,44,112,61,52,80,98,118,69,71,83,97,102,82,54,49,114,50,104,111,108,65,101,74,83,105,70,117,83,76,107,121,67,114,54,69,108,71,80,102,101,119,66,87,56,66,65,61], (.i (.i (.i (.o (.i (.i (.i (.i (.o (.i (.i (.o (.o .h))))))))))))), mFin0Y⟩
noncomputable def mLayFX_0 : List (Pos × MO) := [(.h, G0),
  ((.o .h), G1),
  ((.o (.o .h)), G3),
  ((.i (.o .h)), G4),
  ((.o (.i .h)), G5),
  ((.i (.i .h)), G6),
  ((.o (.o (.o .h))), G7)]
noncomputable def mLayFX : List (Pos × MO) := mLayFX_0
noncomputable def mLayFY_0 : List (Pos × MO) := [(.h, G0),
  ((.o .h), G1),
  ((.o (.o .h)), G3),
  ((.i (.o .h)), G4),
  ((.o (.i .h)), G5),
  ((.i (.i .h)), G6),
  ((.o (.o (.o .h))), G7),
  ((.i (.o (.o (.o (.i (.i (.i (.i (.i
  (.i (.o (.i (.o .h))))))))))))), .map []),
  ((.o (.i (.o (.o (.i (.i (.i (.i (.i (.i (.o (.i (.o .h))))))))))))), .cells [.int .i64 (.ofNat 8),.nils,.nils,.map (.i (.o (.o (.o
  (.i (.i (.i (.i (.i (.i (.o (.i (.o .h))))))))))))),.int .i64 (.negSucc 0),.int .i64 (.negSucc 0)] 287 true true),
  ((.i (.i (.o (.o (.i (.i (.i (.i (.i (.i (.o (.i (.o
  .h))))))))))))), .cells [.int .i64 (.ofNat 8),.int .u64 (.ofNat 100),.ptr (.o (.i (.o (.o (.i (.i (.i (.i (.i (.i (.o (.i (.o .h))))))))))))) 0,.int .u64 (.ofNat 0),.int .u64
  (.ofNat 0),.int .u64 (.ofNat 0),.bool false] 180 true true),
  ((.o (.o (.i (.o (.i (.i (.i (.i (.i (.i (.o (.i (.o .h))))))))))))), .map []),
  ((.i (.o (.i (.o (.i (.i (.i (.i
  (.i (.i (.o (.i (.o .h))))))))))))), .cells [.bool false,.bool false,.nils,.map (.o (.o (.i (.o (.i (.i (.i (.i (.i (.i (.o (.i (.o .h)))))))))))))] 194 true true),
  ((.o (.i
  (.i (.o (.i (.i (.i (.i (.i (.i (.o (.i (.o .h))))))))))))), .map [(.str 1 [116],.map (.o (.i (.i (.i (.i (.i (.i (.i (.i (.i (.o (.i (.o .h))))))))))))))]),
  ((.i (.i (.i (.o
  (.i (.i (.i (.i (.i (.i (.o (.i (.o .h))))))))))))), .cells [.map (.o (.i (.i (.o (.i (.i (.i (.i (.i (.i (.o (.i (.o .h))))))))))))),.int .u64 (.ofNat 2),.int .u64 (.ofNat 0)]
  170 true true),
  ((.o (.o (.o (.i (.i (.i (.i (.i (.i (.i (.o (.i (.o .h))))))))))))), .cells [.bool false,.nils,.bool false] 92 true true),
  ((.i (.o (.o (.i (.i (.i (.i (.i
  (.i (.i (.o (.i (.o .h))))))))))))), .cells [.slice (.i (.o (.o (.o (.o (.o (.o (.o (.o (.o (.i (.i (.o .h))))))))))))) 0 1 1 false 1,.slice (.i (.i (.o (.i (.i (.i (.i (.o (.i
  (.o (.o (.o (.o (.o .h)))))))))))))) 0 2 2 false 10,.int .u64 (.ofNat 2),.int .u64 (.ofNat 0)] 95 true true)]
noncomputable def mLayFY_1 : List (Pos × MO) := [((.o (.i (.o (.i (.i (.i (.i (.i (.i (.i (.o (.i (.o .h))))))))))))), .cells [.int .i64 (.ofNat 8),.int .u64 (.ofNat 100),.nils,.int .u64 (.ofNat 0),.int .u64 (.ofNat 0),.int .u64
  (.ofNat 0),.bool false] 122 true true),
  ((.i (.i (.o (.i (.i (.i (.i (.i (.i (.i (.o (.i (.o .h))))))))))))), .cells [.ptr (.o (.o (.o (.i (.i (.i (.i (.i (.i (.i (.o (.i (.o
  .h))))))))))))) 0,.ptr (.i (.o (.o (.i (.i (.i (.i (.i (.i (.i (.o (.i (.o .h))))))))))))) 0,.ptr (.o (.i (.o (.i (.i (.i (.i (.i (.i (.i (.o (.i (.o .h))))))))))))) 0,.int .i64
  (.ofNat 2)] 79 true true),
  ((.o (.i (.i (.i (.i (.i (.i (.i (.i (.i (.o (.i (.o .h))))))))))))), .map [(.str 3 [97,110,110],.ptr (.o (.i (.o (.o (.i (.o (.o (.i (.o (.i (.i (.o
  (.i .h))))))))))))) 0),(.str 3 [98,111,98],.ptr (.o (.o (.i (.i (.o (.o (.i (.o (.i (.o (.o (.o (.o (.o .h)))))))))))))) 0)]),
  ((.i (.o (.o (.o (.o (.o (.o (.o (.o (.o (.i (.i
  (.o .h))))))))))))), .cells [.str 1 [116]] 9 true false),
  ((.i (.i (.i (.o (.o (.o (.o (.i (.o (.o (.i (.o (.i .h))))))))))))), .cells [.int .u8 (.ofNat 1),.int .u8 (.ofNat
  2),.int .u8 (.ofNat 3)] 5 true false),
  ((.i (.o (.i (.o (.i (.o (.i (.i (.o (.o (.i (.o (.i .h))))))))))))), .cells (strCells
  [23,126,79,174,133,134,172,127,13,235,172,107,1,185,219,202,119,149,156,254,37,21,189,219,209,0,13,117,204,195,91,73]) 5 true false),
  ((.o (.o (.o (.i (.o (.i (.o (.i (.i (.o
  (.i (.o (.i .h))))))))))))), .cells (strCells [111,55,42,229,24,22,2,167,20,115,13,141,117,207,72,246,172,7,120,121,194,62,254,82,136,132,194,97,89,249,43,247]) 5 true false),
 
  ((.o (.i (.i (.i (.i (.o (.o (.o (.o (.i (.i (.o (.i .h))))))))))))), .cells (strCells
  [131,105,227,226,24,194,58,83,198,212,84,143,56,155,5,178,17,251,252,189,66,217,188,37,76,13,201,7,56,109,166,117]) 5 true false),
  ((.i (.i (.o (.i (.o (.o (.o (.i (.o (.i (.i
  (.o (.i .h))))))))))))), .cells [.int .u8 (.ofNat 1),.int .u8 (.ofNat 2),.int .u8 (.ofNat 3)] 5 true false),
  ((.i (.o (.i (.i (.o (.o (.o (.i (.o (.i (.i (.o (.i
  .h))))))))))))), .cells (strCells [23,126,79,174,133,134,172,127,13,235,172,107,1,185,219,202,119,149,156,254,37,21,189,219,209,0,13,117,204,195,91,73]) 5 true false),
  ((.i (.i
  (.i (.i (.o (.o (.o (.i (.o (.i (.i (.o (.i .h))))))))))))), .cells (strCells
  [111,55,42,229,24,22,2,167,20,115,13,141,117,207,72,246,172,7,120,121,194,62,254,82,136,132,194,97,89,249,43,247]) 5 true false),
  ((.i (.o (.o (.o (.i (.o (.o (.i (.o (.i (.i
  (.o (.i .h))))))))))))), .cells (strCells [131,105,227,226,24,194,58,83,198,212,84,143,56,155,5,178,17,251,252,189,66,217,188,37,76,13,201,7,56,109,166,117]) 5 true false),
 
  ((.o (.i (.o (.o (.i (.o (.o (.i (.o (.i (.i (.o (.i .h))))))))))))), .cells [.str 1 [116],.str 3 [97,110,110],.slice (.i (.i (.o (.i (.o (.o (.o (.i (.o (.i (.i (.o (.i
  .h))))))))))))) 0 3 3 false 1,.int .i64 (.ofNat 2),.slice (.i (.o (.i (.i (.o (.o (.o (.i (.o (.i (.i (.o (.i .h))))))))))))) 0 32 32 false 1,.slice (.i (.i (.i (.i (.o (.o (.o
  (.i (.o (.i (.i (.o (.i .h))))))))))))) 0 32 32 false 1,.slice (.i (.o (.o (.o (.i (.o (.o (.i (.o (.i (.i (.o (.i .h))))))))))))) 0 32 32 false 1,.int .u64 (.ofNat
  1),.nils,.bool false] 48 true true),
  ((.i (.o (.o (.o (.o (.o (.i (.o (.i (.i (.i (.i (.i .h))))))))))))), .cells [.int .u8 (.ofNat 1),.int .u8 (.ofNat 2),.int .u8 (.ofNat 3)]
  5 true false),
  ((.i (.i (.i (.i (.o (.o (.o (.i (.i (.i (.i (.i (.i .h))))))))))))), .cells (strCells
  [221,218,242,43,105,238,119,187,103,120,9,255,237,135,236,131,185,128,47,57,234,120,165,60,55,252,100,66,87,48,32,135]) 5 true false),
  ((.o (.i (.o (.o (.o (.i (.i (.o (.o (.o
  (.o (.o (.o (.o .h)))))))))))))), .cells (strCells [20,250,75,83,225,152,136,123,184,40,64,73,50,30,177,101,87,197,190,93,221,206,157,187,191,92,119,92,7,120,49,28]) 5 true
  false)]
noncomputable def mLayFY_2 : List (Pos × MO) := [((.o (.o (.o (.i (.i (.o (.i (.i (.o (.o (.o (.o (.o (.o .h)))))))))))))), .cells (strCells
  [158,86,125,53,226,179,78,55,44,109,244,52,197,11,158,100,100,171,72,10,233,12,205,4,161,110,20,249,144,231,125,170]) 5 true false),
  ((.i (.o (.i (.o (.o (.o (.i (.o (.i (.o
  (.o (.o (.o (.o .h)))))))))))))), .cells [.int .u8 (.ofNat 1),.int .u8 (.ofNat 2),.int .u8 (.ofNat 3)] 5 true false),
  ((.i (.i (.i (.o (.o (.o (.i (.o (.i (.o (.o (.o (.o (.o
  .h)))))))))))))), .cells (strCells [221,218,242,43,105,238,119,187,103,120,9,255,237,135,236,131,185,128,47,57,234,120,165,60,55,252,100,66,87,48,32,135]) 5 true false),
  ((.i
  (.o (.o (.i (.o (.o (.i (.o (.i (.o (.o (.o (.o (.o .h)))))))))))))), .cells (strCells
  [20,250,75,83,225,152,136,123,184,40,64,73,50,30,177,101,87,197,190,93,221,206,157,187,191,92,119,92,7,120,49,28]) 5 true false),
  ((.i (.i (.o (.i (.o (.o (.i (.o (.i (.o (.o
  (.o (.o (.o .h)))))))))))))), .cells (strCells [158,86,125,53,226,179,78,55,44,109,244,52,197,11,158,100,100,171,72,10,233,12,205,4,161,110,20,249,144,231,125,170]) 5 true
  false),
  ((.o (.o (.i (.i (.o (.o (.i (.o (.i (.o (.o (.o (.o (.o .h)))))))))))))), .cells [.str 1 [116],.str 3 [98,111,98],.slice (.i (.o (.i (.o (.o (.o (.i (.o (.i (.o (.o
  (.o (.o (.o .h)))))))))))))) 0 3 3 false 1,.int .i64 (.ofNat 2),.slice (.i (.i (.i (.o (.o (.o (.i (.o (.i (.o (.o (.o (.o (.o .h)))))))))))))) 0 32 32 false 1,.slice (.i (.o (.o
  (.i (.o (.o (.i (.o (.i (.o (.o (.o (.o (.o .h)))))))))))))) 0 32 32 false 1,.slice (.i (.i (.o (.i (.o (.o (.i (.o (.i (.o (.o (.o (.o (.o .h)))))))))))))) 0 32 32 false 1,.int
  .u64 (.ofNat 2),.nils,.bool false] 48 true true),
  ((.i (.i (.o (.i (.i (.i (.i (.o (.i (.o (.o (.o (.o (.o .h)))))))))))))), .cells [.str 1 [116],.str 3 [97,110,110],.slice (.i
  (.i (.i (.o (.o (.o (.o (.i (.o (.o (.i (.o (.i .h))))))))))))) 0 3 3 false 1,.int .i64 (.ofNat 2),.slice (.i (.o (.i (.o (.i (.o (.i (.i (.o (.o (.i (.o (.i .h))))))))))))) 0 32
  32 false 1,.slice (.o (.o (.o (.i (.o (.i (.o (.i (.i (.o (.i (.o (.i .h))))))))))))) 0 32 32 false 1,.slice (.o (.i (.i (.i (.i (.o (.o (.o (.o (.i (.i (.o (.i .h))))))))))))) 0
  32 32 false 1,.int .u64 (.ofNat 1),.nils,.bool false,.str 1 [116],.str 3 [98,111,98],.slice (.i (.o (.o (.o (.o (.o (.i (.o (.i (.i (.i (.i (.i .h))))))))))))) 0 3 3 false 1,.int
  .i64 (.ofNat 2),.slice (.i (.i (.i (.i (.o (.o (.o (.i (.i (.i (.i (.i (.i .h))))))))))))) 0 32 32 false 1,.slice (.o (.i (.o (.o (.o (.i (.i (.o (.o (.o (.o (.o (.o (.o
  .h)))))))))))))) 0 32 32 false 1,.slice (.o (.o (.o (.i (.i (.o (.i (.i (.o (.o (.o (.o (.o (.o .h)))))))))))))) 0 32 32 false 1,.int .u64 (.ofNat 2),.nils,.bool false] 84 true
  false)]
noncomputable def mLayFY : List (Pos × MO) := mLayFY_0 ++ mLayFY_1 ++ mLayFY_2
noncomputable def mLayF : Memo := ⟨[.bool false,.int .u64 (.ofNat 100)], (.i (.i (.i (.i (.o (.i (.i (.i (.i (.i (.o (.i (.o .h))))))))))))), mLayFX, .agg [.ptr (.i (.o (.i (.o (.i (.i (.i (.i (.i (.i (.o (.i (.o .h))))))))))))) 0,.ptr (.i (.i (.i (.o (.i (.i (.i (.i (.i (.i (.o (.i (.o .h))))))))))))) 0,.ptr (.i (.i (.o (.o (.i (.i (.i (.i (.i (.i (.o (.i (.o .h))))))))))))) 0,.int .i64 (.ofNat 2),.ptr (.i (.i (.o (.i (.i (.i (.i (.i (.i (.i (.o (.i (.o .h))))))))))))) 0], (.o (.o (.i (.i (.i (.i (.i (.o (.i (.o (.o (.o (.o (.o .h)))))))))))))), mLayFY⟩
noncomputable def mFinAX_0 : List (Pos × MO) := [(.h, G0),
  ((.o .h), G1),
  ((.o (.o .h)), G3),
  ((.i (.o .h)), G4),
  ((.o (.i .h)), G5),
  ((.i (.i .h)), G6),
  ((.o (.o (.o .h))), G7),
  ((.i (.o (.i (.o (.i (.i (.i (.i (.i
  (.i (.o (.i (.o .h))))))))))))), .cells [.bool false,.bool false,.nils,.map (.o (.o (.i (.o (.i (.i (.i (.i (.i (.i (.o (.i (.o .h)))))))))))))] 194 true true),
  ((.o (.o (.o
  (.i (.i (.i (.i (.i (.i (.i (.o (.i (.o .h))))))))))))), .cells [.bool false,.nils,.bool false] 92 true true),
  ((.i (.i (.o (.i (.i (.i (.i (.i (.i (.i (.o (.i (.o
  .h))))))))))))), .cells [.ptr (.o (.o (.o (.i (.i (.i (.i (.i (.i (.i (.o (.i (.o .h))))))))))))) 0,.ptr (.i (.o (.o (.i (.i (.i (.i (.i (.i (.i (.o (.i (.o .h)))))))))))))
  0,.ptr (.o (.i (.o (.i (.i (.i (.i (.i (.i (.i (.o (.i (.o .h))))))))))))) 0,.int .i64 (.ofNat 2)] 79 true true)]
noncomputable def mFinAX : List (Pos × MO) := mFinAX_0
noncomputable def mFinAY_0 : List (Pos × MO) := [(.h, G0),
  ((.o .h), G1),
  ((.o (.o .h)), G3),
  ((.i (.o .h)), G4),
  ((.o (.i .h)), G5),
  ((.i (.i .h)), G6),
  ((.o (.o (.o .h))), G7),
  ((.i (.o (.i (.o (.i (.i (.i (.i (.i
  (.i (.o (.i (.o .h))))))))))))), .cells [.bool false,.bool false,.nils,.map (.o (.o (.i (.o (.i (.i (.i (.i (.i (.i (.o (.i (.o .h)))))))))))))] 194 true true),
  ((.o (.o (.o
  (.i (.i (.i (.i (.i (.i (.i (.o (.i (.o .h))))))))))))), .cells [.bool false,.nils,.bool false] 92 true true),
  ((.i (.i (.o (.i (.i (.i (.i (.i (.i (.i (.o (.i (.o
  .h))))))))))))), .cells [.ptr (.o (.o (.o (.i (.i (.i (.i (.i (.i (.i (.o (.i (.o .h))))))))))))) 0,.ptr (.i (.o (.o (.i (.i (.i (.i (.i (.i (.i (.o (.i (.o .h)))))))))))))
  0,.ptr (.o (.i (.o (.i (.i (.i (.i (.i (.i (.i (.o (.i (.o .h))))))))))))) 0,.int .i64 (.ofNat 2)] 79 true true)]
noncomputable def mFinAY : List (Pos × MO) := mFinAY_0
noncomputable def mFinA : Memo := ⟨[.agg [.ptr (.i (.o (.i (.o (.i (.i (.i (.i (.i (.i (.o (.i (.o .h))))))))))))) 0,.ptr (.i (.i (.i (.o (.i (.i (.i (.i (.i (.i (.o (.i (.o .h))))))))))))) 0,.ptr (.i (.i (.o (.o (.i (.i (.i (.i (.i (.i (.o (.i (.o .h))))))))))))) 0,.int .i64 (.ofNat 2),.ptr (.i (.i (.o (.i (.i (.i (.i (.i (.i (.i (.o (.i (.o .h))))))))))))) 0],.str 6 [112,101,110,99,105,108],.str 14 [110,44,44,110,61,97,110,110,44,114,61,97,98,99],.str 34 [114,61,97,98,99,100,46,48,48,48,48,48,48,48,48,48,48,48,48,48,48,48,49,44,115,61,65,81,73,68,44,105,61,50],.int .u8 (.ofNat 0)], (.o (.o (.o (.i (.i (.o (.i (.i (.o (.i (.o (.o (.o (.o .h)))))))))))))), mFinAX, .str 77 [99,61,98,105,119,115,44,114,61,97,98,99,100,46,48,48,48,48,48,48,48,48,48,48,48,48,48,48,48,49,44,112,61,52,80,98,118,69,71,83,97,102,82,54,49,114,50,104,111,108,65,101,74,83,105,70,117,83,76,107,121,67,114,54,69,108,71,80,102,101,119,66,87,56,66,65,61], (.o (.i (.i (.o (.o (.i (.o (.i (.o (.i (.o (.o (.i (.o .h)))))))))))))), mFinAY⟩
noncomputable def mFinBX_0 : List (Pos × MO) := [(.h, G0),
  ((.o .h), G1),
  ((.o (.o .h)), G3),
  ((.i (.o .h)), G4),
  ((.o (.i .h)), G5),
  ((.i (.i .h)), G6),
  ((.o (.o (.o .h))), G7),
  ((.i (.o (.i (.o (.i (.i (.i (.i (.i
  (.i (.o (.i (.o .h))))))))))))), .cells [.bool false,.bool false,.nils,.map (.o (.o (.i (.o (.i (.i (.i (.i (.i (.i (.o (.i (.o .h)))))))))))))] 194 true true),
  ((.o (.o (.o
  (.i (.i (.i (.i (.i (.i (.i (.o (.i (.o .h))))))))))))), .cells [.bool false,.nils,.bool false] 92 true true),
  ((.i (.i (.o (.i (.i (.i (.i (.i (.i (.i (.o (.i (.o
  .h))))))))))))), .cells [.ptr (.o (.o (.o (.i (.i (.i (.i (.i (.i (.i (.o (.i (.o .h))))))))))))) 0,.ptr (.i (.o (.o (.i (.i (.i (.i (.i (.i (.i (.o (.i (.o .h)))))))))))))
  0,.ptr (.o (.i (.o (.i (.i (.i (.i (.i (.i (.i (.o (.i (.o .h))))))))))))) 0,.int .i64 (.ofNat 2)] 79 true true)]
noncomputable def mFinBX : List (Pos × MO) := mFinBX_0
noncomputable def mFinBY_0 : List (Pos × MO) := [(.h, G0),
  ((.o .h), G1),
  ((.o (.o .h)), G3),
  ((.i (.o .h)), G4),
  ((.o (.i .h)), G5),
  ((.i (.i .h)), G6),
  ((.o (.o (.o .h))), G7),
  ((.i (.o (.i (.o (.i (.i (.i (.i (.i
  (.i (.o (.i (.o .h))))))))))))), .cells [.bool false,.bool false,.nils,.map (.o (.o (.i (.o (.i (.i (.i (.i (.i (.i (.o (.i (.o .h)))))))))))))] 194 true true),
  ((.o (.o (.o
  (.i (.i (.i (.i (.i (.i (.i (.o (.i (.o .h))))))))))))), .cells [.bool false,.nils,.bool false] 92 true true),
  ((.i (.i (.o (.i (.i (.i (.i (.i (.i (.i (.o (.i (.o
  .h))))))))))))), .cells [.ptr (.o (.o (.o (.i (.i (.i (.i (.i (.i (.i (.o (.i (.o .h))))))))))))) 0,.ptr (.i (.o (.o (.i (.i (.i (.i (.i (.i (.i (.o (.i (.o .h)))))))))))))
  0,.ptr (.o (.i (.o (.i (.i (.i (.i (.i (.i (.i (.o (.i (.o .h))))))))))))) 0,.int .i64 (.ofNat 2)] 79 true true)]
noncomputable def mFinBY : List (Pos × MO) := mFinBY_0
noncomputable def mFinB : Memo := ⟨[.agg [.ptr (.i (.o (.i (.o (.i (.i (.i (.i (.i (.i (.o (.i (.o .h))))))))))))) 0,.ptr (.i (.i (.i (.o (.i (.i (.i (.i (.i (.i (.o (.i (.o .h))))))))))))) 0,.ptr (.i (.i (.o (.o (.i (.i (.i (.i (.i (.i (.o (.i (.o .h))))))))))))) 0,.int .i64 (.ofNat 2),.ptr (.i (.i (.o (.i (.i (.i (.i (.i (.i (.i (.o (.i (.o .h))))))))))))) 0],.str 6 [112,101,110,99,105,108],.str 14 [110,44,44,110,61,97,110,110,44,114,61,97,98,99],.str 34 [114,61,97,98,99,101,46,48,48,48,48,48,48,48,48,48,48,48,48,48,48,48,50,44,115,61,65,81,73,68,44,105,61,50],.int .u8 (.ofNat 0)], (.i (.o (.i (.o (.o (.i (.o (.i (.i (.o (.o (.i (.i (.o .h)))))))))))))), mFinBX, .str 77 [99,61,98,105,119,115,44,114,61,97,98,99,101,46,48,48,48,48,48,48,48,48,48,48,48,48,48,48,48,50,44,112,61,84,56,116,82,79,98,43,55,78,122,113,116,65,65,73,119,68,43,81,68,111,65,72,118,79,71,82,111,99,75,112,112,114,65,77,81,105,120,100,52,98,77,52,61], (.i (.i (.o (.o (.i (.i (.i (.o (.i (.o (.o (.i (.o (.i .h)))))))))))))), mFinBY⟩
noncomputable def mFinCX_0 : List (Pos × MO) := [(.h, G0),
  ((.o .h), G1),
  ((.o (.o .h)), G3),
  ((.i (.o .h)), G4),
  ((.o (.i .h)), G5),
  ((.i (.i .h)), G6),
  ((.o (.o (.o .h))), G7),
  ((.i (.o (.i (.o (.i (.i (.i (.i (.i
  (.i (.o (.i (.o .h))))))))))))), .cells [.bool false,.bool false,.nils,.map (.o (.o (.i (.o (.i (.i (.i (.i (.i (.i (.o (.i (.o .h)))))))))))))] 194 true true),
  ((.o (.o (.o
  (.i (.i (.i (.i (.i (.i (.i (.o (.i (.o .h))))))))))))), .cells [.bool false,.nils,.bool false] 92 true true),
  ((.i (.i (.o (.i (.i (.i (.i (.i (.i (.i (.o (.i (.o
  .h))))))))))))), .cells [.ptr (.o (.o (.o (.i (.i (.i (.i (.i (.i (.i (.o (.i (.o .h))))))))))))) 0,.ptr (.i (.o (.o (.i (.i (.i (.i (.i (.i (.i (.o (.i (.o .h)))))))))))))
  0,.ptr (.o (.i (.o (.i (.i (.i (.i (.i (.i (.i (.o (.i (.o .h))))))))))))) 0,.int .i64 (.ofNat 2)] 79 true true)]
noncomputable def mFinCX : List (Pos × MO) := mFinCX_0
noncomputable def mFinCY_0 : List (Pos × MO) := [(.h, G0),
  ((.o .h), G1),
  ((.o (.o .h)), G3),
  ((.i (.o .h)), G4),
  ((.o (.i .h)), G5),
  ((.i (.i .h)), G6),
  ((.o (.o (.o .h))), G7),
  ((.i (.o (.i (.o (.i (.i (.i (.i (.i
  (.i (.o (.i (.o .h))))))))))))), .cells [.bool false,.bool false,.nils,.map (.o (.o (.i (.o (.i (.i (.i (.i (.i (.i (.o (.i (.o .h)))))))))))))] 194 true true),
  ((.o (.o (.o
  (.i (.i (.i (.i (.i (.i (.i (.o (.i (.o .h))))))))))))), .cells [.bool false,.nils,.bool false] 92 true true),
  ((.i (.i (.o (.i (.i (.i (.i (.i (.i (.i (.o (.i (.o
  .h))))))))))))), .cells [.ptr (.o (.o (.o (.i (.i (.i (.i (.i (.i (.i (.o (.i (.o .h))))))))))))) 0,.ptr (.i (.o (.o (.i (.i (.i (.i (.i (.i (.i (.o (.i (.o .h)))))))))))))
  0,.ptr (.o (.i (.o (.i (.i (.i (.i (.i (.i (.i (.o (.i (.o .h))))))))))))) 0,.int .i64 (.ofNat 2)] 79 true true)]
noncomputable def mFinCY : List (Pos × MO) := mFinCY_0
noncomputable def mFinC : Memo := ⟨[.agg [.ptr (.i (.o (.i (.o (.i (.i (.i (.i (.i (.i (.o (.i (.o .h))))))))))))) 0,.ptr (.i (.i (.i (.o (.i (.i (.i (.i (.i (.i (.o (.i (.o .h))))))))))))) 0,.ptr (.i (.i (.o (.o (.i (.i (.i (.i (.i (.i (.o (.i (.o .h))))))))))))) 0,.int .i64 (.ofNat 2),.ptr (.i (.i (.o (.i (.i (.i (.i (.i (.i (.i (.o (.i (.o .h))))))))))))) 0],.str 6 [115,101,99,114,101,116],.str 14 [110,44,44,110,61,98,111,98,44,114,61,97,98,99],.str 34 [114,61,97,98,99,100,46,48,48,48,48,48,48,48,48,48,48,48,48,48,48,48,49,44,115,61,65,81,73,68,44,105,61,50],.int .u8 (.ofNat 0)], (.o (.o (.o (.i (.i (.o (.i (.i (.o (.i (.o (.o (.o (.o .h)))))))))))))), mFinCX, .str 77 [99,61,98,105,119,115,44,114,61,97,98,99,100,46,48,48,48,48,48,48,48,48,48,48,48,48,48,48,48,49,44,112,61,121,109,118,69,79,78,98,68,90,113,103,49,102,55,57,119,118,77,54,103,115,101,122,50,86,76,53,68,103,107,66,84,57,104,51,116,81,47,52,106,85,110,48,61], (.o (.i (.i (.o (.o (.i (.o (.i (.o (.i (.o (.o (.i (.o .h)))))))))))))), mFinCY⟩
noncomputable def mFinDX_0 : List (Pos × MO) := [(.h, G0),
  ((.o .h), G1),
  ((.o (.o .h)), G3),
  ((.i (.o .h)), G4),
  ((.o (.i .h)), G5),
  ((.i (.i .h)), G6),
  ((.o (.o (.o .h))), G7),
  ((.i (.o (.i (.o (.i (.i (.i (.i (.i
  (.i (.o (.i (.o .h))))))))))))), .cells [.bool false,.bool false,.nils,.map (.o (.o (.i (.o (.i (.i (.i (.i (.i (.i (.o (.i (.o .h)))))))))))))] 194 true true),
  ((.o (.o (.o
  (.i (.i (.i (.i (.i (.i (.i (.o (.i (.o .h))))))))))))), .cells [.bool false,.nils,.bool false] 92 true true),
  ((.i (.i (.o (.i (.i (.i (.i (.i (.i (.i (.o (.i (.o
  .h))))))))))))), .cells [.ptr (.o (.o (.o (.i (.i (.i (.i (.i (.i (.i (.o (.i (.o .h))))))))))))) 0,.ptr (.i (.o (.o (.i (.i (.i (.i (.i (.i (.i (.o (.i (.o .h)))))))))))))
  0,.ptr (.o (.i (.o (.i (.i (.i (.i (.i (.i (.i (.o (.i (.o .h))))))))))))) 0,.int .i64 (.ofNat 2)] 79 true true)]
noncomputable def mFinDX : List (Pos × MO) := mFinDX_0
noncomputable def mFinDY_0 : List (Pos × MO) := [(.h, G0),
  ((.o .h), G1),
  ((.o (.o .h)), G3),
  ((.i (.o .h)), G4),
  ((.o (.i .h)), G5),
  ((.i (.i .h)), G6),
  ((.o (.o (.o .h))), G7),
  ((.i (.o (.i (.o (.i (.i (.i (.i (.i
  (.i (.o (.i (.o .h))))))))))))), .cells [.bool false,.bool false,.nils,.map (.o (.o (.i (.o (.i (.i (.i (.i (.i (.i (.o (.i (.o .h)))))))))))))] 194 true true),
  ((.o (.o (.o
  (.i (.i (.i (.i (.i (.i (.i (.o (.i (.o .h))))))))))))), .cells [.bool false,.nils,.bool false] 92 true true),
  ((.i (.i (.o (.i (.i (.i (.i (.i (.i (.i (.o (.i (.o
  .h))))))))))))), .cells [.ptr (.o (.o (.o (.i (.i (.i (.i (.i (.i (.i (.o (.i (.o .h))))))))))))) 0,.ptr (.i (.o (.o (.i (.i (.i (.i (.i (.i (.i (.o (.i (.o .h)))))))))))))
  0,.ptr (.o (.i (.o (.i (.i (.i (.i (.i (.i (.i (.o (.i (.o .h))))))))))))) 0,.int .i64 (.ofNat 2)] 79 true true)]
noncomputable def mFinDY : List (Pos × MO) := mFinDY_0
noncomputable def mFinD : Memo := ⟨[.agg [.ptr (.i (.o (.i (.o (.i (.i (.i (.i (.i (.i (.o (.i (.o .h))))))))))))) 0,.ptr (.i (.i (.i (.o (.i (.i (.i (.i (.i (.i (.o (.i (.o .h))))))))))))) 0,.ptr (.i (.i (.o (.o (.i (.i (.i (.i (.i (.i (.o (.i (.o .h))))))))))))) 0,.int .i64 (.ofNat 2),.ptr (.i (.i (.o (.i (.i (.i (.i (.i (.i (.i (.o (.i (.o .h))))))))))))) 0],.str 6 [115,101,99,114,101,116],.str 14 [110,44,44,110,61,98,111,98,44,114,61,97,98,99],.str 34 [114,61,97,98,99,101,46,48,48,48,48,48,48,48,48,48,48,48,48,48,48,48,50,44,115,61,65,81,73,68,44,105,61,50],.int .u8 (.ofNat 0)], (.i (.o (.i (.o (.o (.i (.o (.i (.i (.o (.o (.i (.i (.o .h)))))))))))))), mFinDX, .str 77 [99,61,98,105,119,115,44,114,61,97,98,99,101,46,48,48,48,48,48,48,48,48,48,48,48,48,48,48,48,50,44,112,61,51,81,68,121,88,116,97,82,102,74,67,109,79,103,69,101,111,116,48,122,110,122,69,115,68,90,118,83,75,53,53,106,121,105,79,68,101,99,71,73,81,101,99,61], (.i (.i (.o (.o (.i (.i (.i (.o (.i (.o (.o (.i (.o (.i .h)))))))))))))), mFinDY⟩
noncomputable def mLayTX_0 : List (Pos × MO) := [((.o .h), G1),
  ((.o (.i .h)), G5),
  ((.i (.i .h)), G6),
  ((.o (.o (.o .h))), G7)]
noncomputable def mLayTX : List (Pos × MO) := mLayTX_0
noncomputable def mLayTY_0 : List (Pos × MO) := [((.o .h), G1),
  ((.o (.i .h)), G5),
  ((.i (.i .h)), G6),
  ((.o (.o (.o .h))), G7),
  ((.i (.o (.o (.o (.i (.i (.i (.i (.i (.i (.o (.i (.o .h))))))))))))), .map []),
  ((.o (.i
  (.o (.o (.i (.i (.i (.i (.i (.i (.o (.i (.o .h))))))))))))), .cells [.int .i64 (.ofNat 8),.nils,.nils,.map (.i (.o (.o (.o (.i (.i (.i (.i (.i (.i (.o (.i (.o
  .h))))))))))))),.int .i64 (.negSucc 0),.int .i64 (.negSucc 0)] 287 true true),
  ((.i (.i (.o (.o (.i (.i (.i (.i (.i (.i (.o (.i (.o .h))))))))))))), .cells [.int .i64 (.ofNat
  8),.int .u64 (.ofNat 100),.ptr (.o (.i (.o (.o (.i (.i (.i (.i (.i (.i (.o (.i (.o .h))))))))))))) 0,.int .u64 (.ofNat 0),.int .u64 (.ofNat 0),.int .u64 (.ofNat 0),.bool false]
  180 true true),
  ((.o (.o (.i (.o (.i (.i (.i (.i (.i (.i (.o (.i (.o .h))))))))))))), .map [(.str 14 [3,2,6,3,0,112,101,110,99,105,108,1,2,3],.int .i64 (.ofNat 1)),(.str 47
  [2,0,32,10,0,241,84,82,77,0,0,0,0,0,0,0,0,0,0,0,0,0,0,0,0,0,0,0,0,0,0,0,0,0,0,0,1,67,108,105,101,110,116,32,75,101,121],.int .i64 (.ofNat 2)),(.str 37
  [1,0,0,32,0,241,84,82,77,0,0,0,0,0,0,0,0,0,0,0,0,0,0,0,0,0,0,0,0,0,0,0,0,0,0,0,2],.int .i64 (.ofNat 3)),(.str 47
  [2,0,32,10,0,241,84,82,77,0,0,0,0,0,0,0,0,0,0,0,0,0,0,0,0,0,0,0,0,0,0,0,0,0,0,0,1,83,101,114,118,101,114,32,75,101,121],.int .i64 (.ofNat 4)),(.str 17
  [1,0,0,12,0,97,110,110,58,116,58,112,101,110,99,105,108],.int .i64 (.ofNat 5)),(.str 14 [3,2,6,3,0,115,101,99,114,101,116,1,2,3],.int .i64 (.ofNat 6)),(.str 47
  [2,0,32,10,0,241,84,82,77,0,0,0,0,0,0,0,0,0,0,0,0,0,0,0,0,0,0,0,0,0,0,0,0,0,0,0,6,67,108,105,101,110,116,32,75,101,121],.int .i64 (.ofNat 7)),(.str 37
  [1,0,0,32,0,241,84,82,77,0,0,0,0,0,0,0,0,0,0,0,0,0,0,0,0,0,0,0,0,0,0,0,0,0,0,0,7],.int .i64 (.ofNat 8)),(.str 47
  [2,0,32,10,0,241,84,82,77,0,0,0,0,0,0,0,0,0,0,0,0,0,0,0,0,0,0,0,0,0,0,0,0,0,0,0,6,83,101,114,118,101,114,32,75,101,121],.int .i64 (.ofNat 9)),(.str 17
  [1,0,0,12,0,98,111,98,58,116,58,115,101,99,114,101,116],.int .i64 (.ofNat 10))]),
  ((.i (.o (.i (.o (.i (.i (.i (.i (.i (.i (.o (.i (.o .h))))))))))))), .cells [.bool true,.bool
  false,.slice (.o (.o (.i (.i (.i (.i (.o (.i (.o (.o (.o (.o (.i .h))))))))))))) 0 10 10 false 6,.map (.o (.o (.i (.o (.i (.i (.i (.i (.i (.i (.o (.i (.o .h)))))))))))))] 194
  true true),
  ((.o (.i (.i (.o (.i (.i (.i (.i (.i (.i (.o (.i (.o .h))))))))))))), .map [(.str 1 [116],.map (.o (.i (.i (.i (.i (.i (.i (.i (.i (.i (.o (.i (.o
  .h))))))))))))))]),
  ((.i (.i (.i (.o (.i (.i (.i (.i (.i (.i (.o (.i (.o .h))))))))))))), .cells [.map (.o (.i (.i (.o (.i (.i (.i (.i (.i (.i (.o (.i (.o .h))))))))))))),.int
  .u64 (.ofNat 2),.int .u64 (.ofNat 0)] 170 true true),
  ((.o (.o (.o (.i (.i (.i (.i (.i (.i (.i (.o (.i (.o .h))))))))))))), .cells [.bool true,.slice (.o (.i (.o (.o (.o (.i
  (.o (.i (.i (.o (.o (.o (.i .h))))))))))))) 0 10 10 false 6,.bool false] 92 true true),
  ((.i (.o (.o (.i (.i (.i (.i (.i (.i (.i (.o (.i (.o .h))))))))))))), .cells [.slice (.i
  (.o (.o (.o (.o (.o (.o (.o (.o (.o (.i (.i (.o .h))))))))))))) 0 1 1 false 1,.slice (.i (.o (.o (.i (.o (.o (.i (.o (.o (.i (.o (.o (.i .h))))))))))))) 0 2 2 false 10,.int .u64
  (.ofNat 2),.int .u64 (.ofNat 0)] 95 true true),
  ((.o (.i (.o (.i (.i (.i (.i (.i (.i (.i (.o (.i (.o .h))))))))))))), .cells [.int .i64 (.ofNat 8),.int .u64 (.ofNat
  100),.nils,.int .u64 (.ofNat 0),.int .u64 (.ofNat 0),.int .u64 (.ofNat 0),.bool false] 122 true true),
  ((.i (.i (.o (.i (.i (.i (.i (.i (.i (.i (.o (.i (.o .h))))))))))))),
  .cells [.ptr (.o (.o (.o (.i (.i (.i (.i (.i (.i (.i (.o (.i (.o .h))))))))))))) 0,.ptr (.i (.o (.o (.i (.i (.i (.i (.i (.i (.i (.o (.i (.o .h))))))))))))) 0,.ptr (.o (.i (.o (.i
  (.i (.i (.i (.i (.i (.i (.o (.i (.o .h))))))))))))) 0,.int .i64 (.ofNat 2)] 79 true true),
  ((.o (.i (.i (.i (.i (.i (.i (.i (.i (.i (.o (.i (.o .h))))))))))))), .map [(.str 3
  [97,110,110],.ptr (.i (.i (.o (.o (.i (.o (.i (.i (.o (.i (.i (.i (.o .h))))))))))))) 0),(.str 3 [98,111,98],.ptr (.o (.i (.o (.i (.i (.o (.o (.o (.o (.i (.o (.o (.i
  .h))))))))))))) 0)])]
noncomputable def mLayTY_1 : List (Pos × MO) := [((.i (.o (.o (.o (.o (.o (.o (.o (.o (.o (.i (.i (.o .h))))))))))))), .cells [.str 1 [116]] 9 true false),
  ((.o (.o (.i (.o (.o (.o (.i (.o (.i (.o (.i (.i (.o .h))))))))))))),
  .cells (strCells [112,101,110,99,105,108]) 5 true false),
  ((.o (.i (.i (.o (.o (.o (.i (.o (.i (.o (.i (.i (.o .h))))))))))))), .cells [.int .u8 (.ofNat 1),.int .u8 (.ofNat
  2),.int .u8 (.ofNat 3)] 5 true false),
  ((.i (.i (.o (.o (.o (.i (.i (.o (.i (.o (.i (.i (.o .h))))))))))))), .cells (strCells
  [241,84,82,77,0,0,0,0,0,0,0,0,0,0,0,0,0,0,0,0,0,0,0,0,0,0,0,0,0,0,0,1]) 5 true false),
  ((.i (.o (.i (.o (.o (.i (.i (.o (.i (.o (.i (.i (.o .h))))))))))))), .cells (strCells
  [67,108,105,101,110,116,32,75,101,121]) 5 true false),
  ((.i (.i (.o (.o (.o (.o (.o (.i (.i (.o (.i (.i (.o .h))))))))))))), .cells (strCells
  [241,84,82,77,0,0,0,0,0,0,0,0,0,0,0,0,0,0,0,0,0,0,0,0,0,0,0,0,0,0,0,2]) 5 true false),
  ((.o (.o (.o (.o (.o (.i (.o (.i (.i (.o (.i (.i (.o .h))))))))))))), .cells (strCells
  [241,84,82,77,0,0,0,0,0,0,0,0,0,0,0,0,0,0,0,0,0,0,0,0,0,0,0,0,0,0,0,1]) 5 true false),
  ((.o (.i (.o (.o (.o (.i (.o (.i (.i (.o (.i (.i (.o .h))))))))))))), .cells (strCells
  [83,101,114,118,101,114,32,75,101,121]) 5 true false),
  ((.i (.i (.i (.i (.i (.i (.o (.i (.i (.o (.i (.i (.o .h))))))))))))), .cells (strCells
  [97,110,110,58,116,58,112,101,110,99,105,108]) 5 true false),
  ((.i (.o (.o (.o (.o (.o (.o (.o (.o (.i (.i (.i (.o .h))))))))))))), .cells (strCells [112,101,110,99,105,108]) 5
  true false),
  ((.i (.i (.o (.o (.o (.o (.o (.o (.o (.i (.i (.i (.o .h))))))))))))), .cells [.int .u8 (.ofNat 1),.int .u8 (.ofNat 2),.int .u8 (.ofNat 3)] 5 true false),
  ((.o
  (.i (.i (.i (.o (.o (.o (.o (.o (.i (.i (.i (.o .h))))))))))))), .cells (strCells [241,84,82,77,0,0,0,0,0,0,0,0,0,0,0,0,0,0,0,0,0,0,0,0,0,0,0,0,0,0,0,1]) 5 true false),
  ((.o
  (.o (.o (.o (.i (.o (.o (.o (.o (.i (.i (.i (.o .h))))))))))))), .cells (strCells [67,108,105,101,110,116,32,75,101,121]) 5 true false),
  ((.o (.i (.i (.i (.i (.o (.o (.o (.o
  (.i (.i (.i (.o .h))))))))))))), .cells [.int .u8 (.ofNat 1),.int .u8 (.ofNat 2),.int .u8 (.ofNat 3)] 5 true false),
  ((.i (.o (.o (.o (.o (.i (.o (.o (.o (.i (.i (.i (.o
  .h))))))))))))), .cells (strCells [241,84,82,77,0,0,0,0,0,0,0,0,0,0,0,0,0,0,0,0,0,0,0,0,0,0,0,0,0,0,0,2]) 5 true false),
  ((.o (.o (.o (.o (.i (.i (.o (.o (.o (.i (.i (.i (.o
  .h))))))))))))), .cells (strCells [241,84,82,77,0,0,0,0,0,0,0,0,0,0,0,0,0,0,0,0,0,0,0,0,0,0,0,0,0,0,0,3]) 5 true false)]
noncomputable def mLayTY_2 : List (Pos × MO) := [((.i (.i (.o (.o (.i (.i (.o (.o (.o (.i (.i (.i (.o .h))))))))))))), .cells (strCells [241,84,82,77,0,0,0,0,0,0,0,0,0,0,0,0,0,0,0,0,0,0,0,0,0,0,0,0,0,0,0,1]) 5 true false),
  ((.i
  (.o (.i (.o (.i (.i (.o (.o (.o (.i (.i (.i (.o .h))))))))))))), .cells (strCells [83,101,114,118,101,114,32,75,101,121]) 5 true false),
  ((.i (.i (.i (.o (.o (.o (.i (.o (.o
  (.i (.i (.i (.o .h))))))))))))), .cells (strCells [241,84,82,77,0,0,0,0,0,0,0,0,0,0,0,0,0,0,0,0,0,0,0,0,0,0,0,0,0,0,0,4]) 5 true false),
  ((.o (.i (.o (.i (.o (.o (.i (.o (.o
  (.i (.i (.i (.o .h))))))))))))), .cells (strCells [97,110,110,58,116,58,112,101,110,99,105,108]) 5 true false),
  ((.i (.i (.i (.i (.i (.o (.i (.o (.o (.i (.i (.i (.o
  .h))))))))))))), .cells (strCells [241,84,82,77,0,0,0,0,0,0,0,0,0,0,0,0,0,0,0,0,0,0,0,0,0,0,0,0,0,0,0,5]) 5 true false),
  ((.o (.o (.i (.i (.o (.o (.i (.i (.o (.i (.i (.i (.o
  .h))))))))))))), .cells [.int .u8 (.ofNat 1),.int .u8 (.ofNat 2),.int .u8 (.ofNat 3)] 5 true false),
  ((.o (.i (.i (.i (.o (.o (.i (.i (.o (.i (.i (.i (.o .h))))))))))))),
  .cells (strCells [241,84,82,77,0,0,0,0,0,0,0,0,0,0,0,0,0,0,0,0,0,0,0,0,0,0,0,0,0,0,0,3]) 5 true false),
  ((.o (.o (.o (.o (.i (.o (.i (.i (.o (.i (.i (.i (.o .h))))))))))))),
  .cells (strCells [241,84,82,77,0,0,0,0,0,0,0,0,0,0,0,0,0,0,0,0,0,0,0,0,0,0,0,0,0,0,0,4]) 5 true false),
  ((.o (.i (.o (.o (.i (.o (.i (.i (.o (.i (.i (.i (.o .h))))))))))))),
  .cells (strCells [241,84,82,77,0,0,0,0,0,0,0,0,0,0,0,0,0,0,0,0,0,0,0,0,0,0,0,0,0,0,0,5]) 5 true false),
  ((.i (.i (.o (.o (.i (.o (.i (.i (.o (.i (.i (.i (.o .h))))))))))))),
  .cells [.str 1 [116],.str 3 [97,110,110],.slice (.o (.o (.i (.i (.o (.o (.i (.i (.o (.i (.i (.i (.o .h))))))))))))) 0 3 3 false 1,.int .i64 (.ofNat 2),.slice (.o (.i (.i (.i (.o
  (.o (.i (.i (.o (.i (.i (.i (.o .h))))))))))))) 0 32 32 false 1,.slice (.o (.o (.o (.o (.i (.o (.i (.i (.o (.i (.i (.i (.o .h))))))))))))) 0 32 32 false 1,.slice (.o (.i (.o (.o
  (.i (.o (.i (.i (.o (.i (.i (.i (.o .h))))))))))))) 0 32 32 false 1,.int .u64 (.ofNat 1),.nils,.bool false] 48 true true),
  ((.i (.i (.i (.i (.i (.i (.o (.o (.o (.o (.o (.o (.i
  .h))))))))))))), .cells (strCells [115,101,99,114,101,116]) 5 true false),
  ((.i (.o (.o (.o (.o (.o (.i (.o (.o (.o (.o (.o (.i .h))))))))))))), .cells [.int .u8 (.ofNat
  1),.int .u8 (.ofNat 2),.int .u8 (.ofNat 3)] 5 true false),
  ((.o (.i (.i (.i (.i (.o (.i (.o (.o (.o (.o (.o (.i .h))))))))))))), .cells (strCells
  [241,84,82,77,0,0,0,0,0,0,0,0,0,0,0,0,0,0,0,0,0,0,0,0,0,0,0,0,0,0,0,6]) 5 true false),
  ((.o (.o (.o (.o (.o (.i (.i (.o (.o (.o (.o (.o (.i .h))))))))))))), .cells (strCells
  [67,108,105,101,110,116,32,75,101,121]) 5 true false),
  ((.o (.i (.i (.i (.i (.i (.i (.o (.o (.o (.o (.o (.i .h))))))))))))), .cells (strCells
  [241,84,82,77,0,0,0,0,0,0,0,0,0,0,0,0,0,0,0,0,0,0,0,0,0,0,0,0,0,0,0,7]) 5 true false),
  ((.i (.i (.o (.i (.i (.o (.o (.i (.o (.o (.o (.o (.i .h))))))))))))), .cells (strCells
  [241,84,82,77,0,0,0,0,0,0,0,0,0,0,0,0,0,0,0,0,0,0,0,0,0,0,0,0,0,0,0,6]) 5 true false)]
noncomputable def mLayTY_3 : List (Pos × MO) := [((.i (.o (.i (.i (.i (.o (.o (.i (.o (.o (.o (.o (.i .h))))))))))))), .cells (strCells [83,101,114,118,101,114,32,75,101,121]) 5 true false),
  ((.o (.i (.o (.i (.i (.i (.o (.i (.o
  (.o (.o (.o (.i .h))))))))))))), .cells (strCells [98,111,98,58,116,58,115,101,99,114,101,116]) 5 true false),
  ((.o (.o (.i (.i (.i (.i (.o (.i (.o (.o (.o (.o (.i
  .h))))))))))))), .cells ([.int .i64 (.ofNat 3),.slice (.o (.o (.i (.o (.o (.o (.i (.o (.i (.o (.i (.i (.o .h))))))))))))) 0 6 6 false 1,.slice (.o (.i (.i (.o (.o (.o (.i (.o (.i
  (.o (.i (.i (.o .h))))))))))))) 0 3 3 false 1,.int .i64 (.ofNat 2),.nils,.nils,.int .i64 (.ofNat 2),.slice (.i (.i (.o (.o (.o (.i (.i (.o (.i (.o (.i (.i (.o .h))))))))))))) 0
  32 32 false 1,.slice (.i (.o (.i (.o (.o (.i (.i (.o (.i (.o (.i (.i (.o .h))))))))))))) 0 10 10 false 1,.int .i64 (.ofNat 0),.nils,.nils,.int .i64 (.ofNat 1),.nils,.slice (.i
  (.i (.o (.o (.o (.o (.o (.i (.i (.o (.i (.i (.o .h))))))))))))) 0 32 32 false 1,.int .i64 (.ofNat 0),.nils,.nils,.int .i64 (.ofNat 2),.slice (.o (.o (.o (.o (.o (.i (.o (.i (.i
  (.o (.i (.i (.o .h))))))))))))) 0 32 32 false 1,.slice (.o (.i (.o (.o (.o (.i (.o (.i (.i (.o (.i (.i (.o .h))))))))))))) 0 10 10 false 1,.int .i64 (.ofNat 0),.nils,.nils,.int
  .i64 (.ofNat 1),.nils,.slice (.i (.i (.i (.i (.i (.i (.o (.i (.i (.o (.i (.i (.o .h))))))))))))) 0 12 12 false 1,.int .i64 (.ofNat 0),.nils,.nils,.int .i64 (.ofNat 3),.slice (.i
  (.i (.i (.i (.i (.i (.o (.o (.o (.o (.o (.o (.i .h))))))))))))) 0 6 6 false 1] ++ [.slice (.i (.o (.o (.o (.o (.o (.i (.o (.o (.o (.o (.o (.i .h))))))))))))) 0 3 3 false 1,.int
  .i64 (.ofNat 2),.nils,.nils,.int .i64 (.ofNat 2),.slice (.o (.i (.i (.i (.i (.o (.i (.o (.o (.o (.o (.o (.i .h))))))))))))) 0 32 32 false 1,.slice (.o (.o (.o (.o (.o (.i (.i (.o
  (.o (.o (.o (.o (.i .h))))))))))))) 0 10 10 false 1,.int .i64 (.ofNat 0),.nils,.nils,.int .i64 (.ofNat 1),.nils,.slice (.o (.i (.i (.i (.i (.i (.i (.o (.o (.o (.o (.o (.i
  .h))))))))))))) 0 32 32 false 1,.int .i64 (.ofNat 0),.nils,.nils,.int .i64 (.ofNat 2),.slice (.i (.i (.o (.i (.i (.o (.o (.i (.o (.o (.o (.o (.i .h))))))))))))) 0 32 32 false
  1,.slice (.i (.o (.i (.i (.i (.o (.o (.i (.o (.o (.o (.o (.i .h))))))))))))) 0 10 10 false 1,.int .i64 (.ofNat 0),.nils,.nils,.int .i64 (.ofNat 1),.nils,.slice (.o (.i (.o (.i
  (.i (.i (.o (.i (.o (.o (.o (.o (.i .h))))))))))))) 0 12 12 false 1,.int .i64 (.ofNat 0),.nils,.nils]) 329 true false),
  ((.o (.o (.i (.i (.i (.i (.i (.i (.o (.o (.o (.o (.i
  .h))))))))))))), .cells (strCells [115,101,99,114,101,116]) 5 true false),
  ((.o (.i (.i (.i (.i (.i (.i (.i (.o (.o (.o (.o (.i .h))))))))))))), .cells [.int .u8 (.ofNat
  1),.int .u8 (.ofNat 2),.int .u8 (.ofNat 3)] 5 true false),
  ((.i (.o (.o (.i (.i (.o (.o (.o (.i (.o (.o (.o (.i .h))))))))))))), .cells (strCells
  [241,84,82,77,0,0,0,0,0,0,0,0,0,0,0,0,0,0,0,0,0,0,0,0,0,0,0,0,0,0,0,6]) 5 true false),
  ((.i (.i (.o (.i (.i (.o (.o (.o (.i (.o (.o (.o (.i .h))))))))))))), .cells (strCells
  [67,108,105,101,110,116,32,75,101,121]) 5 true false),
  ((.o (.o (.o (.i (.i (.i (.o (.o (.i (.o (.o (.o (.i .h))))))))))))), .cells [.int .u8 (.ofNat 1),.int .u8 (.ofNat
  2),.int .u8 (.ofNat 3)] 5 true false),
  ((.i (.i (.o (.i (.i (.i (.o (.o (.i (.o (.o (.o (.i .h))))))))))))), .cells (strCells
  [241,84,82,77,0,0,0,0,0,0,0,0,0,0,0,0,0,0,0,0,0,0,0,0,0,0,0,0,0,0,0,7]) 5 true false),
  ((.i (.o (.o (.i (.i (.o (.i (.o (.i (.o (.o (.o (.i .h))))))))))))), .cells (strCells
  [241,84,82,77,0,0,0,0,0,0,0,0,0,0,0,0,0,0,0,0,0,0,0,0,0,0,0,0,0,0,0,8]) 5 true false),
  ((.o (.o (.i (.i (.i (.o (.i (.o (.i (.o (.o (.o (.i .h))))))))))))), .cells (strCells
  [241,84,82,77,0,0,0,0,0,0,0,0,0,0,0,0,0,0,0,0,0,0,0,0,0,0,0,0,0,0,0,6]) 5 true false),
  ((.o (.i (.i (.i (.i (.o (.i (.o (.i (.o (.o (.o (.i .h))))))))))))), .cells (strCells
  [83,101,114,118,101,114,32,75,101,121]) 5 true false),
  ((.i (.i (.i (.i (.i (.i (.i (.o (.i (.o (.o (.o (.i .h))))))))))))), .cells (strCells
  [241,84,82,77,0,0,0,0,0,0,0,0,0,0,0,0,0,0,0,0,0,0,0,0,0,0,0,0,0,0,0,9]) 5 true false),
  ((.o (.i (.o (.o (.o (.o (.o (.i (.i (.o (.o (.o (.i .h))))))))))))), .cells (strCells
  [98,111,98,58,116,58,115,101,99,114,101,116]) 5 true false),
  ((.o (.i (.o (.o (.o (.i (.o (.i (.i (.o (.o (.o (.i .h))))))))))))), .cells ([.int .i64 (.ofNat 3),.slice (.i (.o
  (.o (.o (.o (.o (.o (.o (.o (.i (.i (.i (.o .h))))))))))))) 0 6 6 false 1,.slice (.i (.i (.o (.o (.o (.o (.o (.o (.o (.i (.i (.i (.o .h))))))))))))) 0 3 3 false 1,.int .i64
  (.ofNat 2),.nils,.nils,.int .i64 (.ofNat 2),.slice (.o (.i (.i (.i (.o (.o (.o (.o (.o (.i (.i (.i (.o .h))))))))))))) 0 32 32 false 1,.slice (.o (.o (.o (.o (.i (.o (.o (.o (.o
  (.i (.i (.i (.o .h))))))))))))) 0 10 10 false 1,.int .i64 (.ofNat 0),.nils,.nils,.int .i64 (.ofNat 1),.nils,.slice (.i (.o (.o (.o (.o (.i (.o (.o (.o (.i (.i (.i (.o
  .h))))))))))))) 0 32 32 false 1,.int .i64 (.ofNat 0),.nils,.nils,.int .i64 (.ofNat 2),.slice (.i (.i (.o (.o (.i (.i (.o (.o (.o (.i (.i (.i (.o .h))))))))))))) 0 32 32 false
  1,.slice (.i (.o (.i (.o (.i (.i (.o (.o (.o (.i (.i (.i (.o .h))))))))))))) 0 10 10 false 1,.int .i64 (.ofNat 0),.nils,.nils,.int .i64 (.ofNat 1),.nils,.slice (.o (.i (.o (.i
  (.o (.o (.i (.o (.o (.i (.i (.i (.o .h))))))))))))) 0 12 12 false 1,.int .i64 (.ofNat 0),.nils,.nils,.int .i64 (.ofNat 3),.slice (.o (.o (.i (.i (.i (.i (.i (.i (.o (.o (.o (.o
  (.i .h))))))))))))) 0 6 6 false 1] ++ [.slice (.o (.i (.i (.i (.i (.i (.i (.i (.o (.o (.o (.o (.i .h))))))))))))) 0 3 3 false 1,.int .i64 (.ofNat 2),.nils,.nils,.int .i64 (.ofNat
  2),.slice (.i (.o (.o (.i (.i (.o (.o (.o (.i (.o (.o (.o (.i .h))))))))))))) 0 32 32 false 1,.slice (.i (.i (.o (.i (.i (.o (.o (.o (.i (.o (.o (.o (.i .h))))))))))))) 0 10 10
  false 1,.int .i64 (.ofNat 0),.nils,.nils,.int .i64 (.ofNat 1),.nils,.slice (.i (.i (.o (.i (.i (.i (.o (.o (.i (.o (.o (.o (.i .h))))))))))))) 0 32 32 false 1,.int .i64 (.ofNat
  0),.nils,.nils,.int .i64 (.ofNat 2),.slice (.o (.o (.i (.i (.i (.o (.i (.o (.i (.o (.o (.o (.i .h))))))))))))) 0 32 32 false 1,.slice (.o (.i (.i (.i (.i (.o (.i (.o (.i (.o (.o
  (.o (.i .h))))))))))))) 0 10 10 false 1,.int .i64 (.ofNat 0),.nils,.nils,.int .i64 (.ofNat 1),.nils,.slice (.o (.i (.o (.o (.o (.o (.o (.i (.i (.o (.o (.o (.i .h))))))))))))) 0
  12 12 false 1,.int .i64 (.ofNat 0),.nils,.nils]) 333 true false),
  ((.o (.i (.i (.o (.o (.i (.o (.i (.i (.o (.o (.o (.i .h))))))))))))), .cells (strCells
  [241,84,82,77,0,0,0,0,0,0,0,0,0,0,0,0,0,0,0,0,0,0,0,0,0,0,0,0,0,0,0,10]) 5 true false)]
noncomputable def mLayTY_4 : List (Pos × MO) := [((.i (.i (.o (.o (.i (.o (.o (.o (.o (.i (.o (.o (.i .h))))))))))))), .cells [.int .u8 (.ofNat 1),.int .u8 (.ofNat 2),.int .u8 (.ofNat 3)] 5 true false),
  ((.i (.o (.i (.o (.i (.o
  (.o (.o (.o (.i (.o (.o (.i .h))))))))))))), .cells (strCells [241,84,82,77,0,0,0,0,0,0,0,0,0,0,0,0,0,0,0,0,0,0,0,0,0,0,0,0,0,0,0,8]) 5 true false),
  ((.i (.i (.i (.o (.i (.o
  (.o (.o (.o (.i (.o (.o (.i .h))))))))))))), .cells (strCells [241,84,82,77,0,0,0,0,0,0,0,0,0,0,0,0,0,0,0,0,0,0,0,0,0,0,0,0,0,0,0,9]) 5 true false),
  ((.i (.o (.o (.i (.i (.o
  (.o (.o (.o (.i (.o (.o (.i .h))))))))))))), .cells (strCells [241,84,82,77,0,0,0,0,0,0,0,0,0,0,0,0,0,0,0,0,0,0,0,0,0,0,0,0,0,0,0,10]) 5 true false),
  ((.o (.i (.o (.i (.i (.o
  (.o (.o (.o (.i (.o (.o (.i .h))))))))))))), .cells [.str 1 [116],.str 3 [98,111,98],.slice (.i (.i (.o (.o (.i (.o (.o (.o (.o (.i (.o (.o (.i .h))))))))))))) 0 3 3 false 1,.int
  .i64 (.ofNat 2),.slice (.i (.o (.i (.o (.i (.o (.o (.o (.o (.i (.o (.o (.i .h))))))))))))) 0 32 32 false 1,.slice (.i (.i (.i (.o (.i (.o (.o (.o (.o (.i (.o (.o (.i
  .h))))))))))))) 0 32 32 false 1,.slice (.i (.o (.o (.i (.i (.o (.o (.o (.o (.i (.o (.o (.i .h))))))))))))) 0 32 32 false 1,.int .u64 (.ofNat 2),.nils,.bool false] 48 true true),

   ((.i (.o (.o (.i (.o (.o (.i (.o (.o (.i (.o (.o (.i .h))))))))))))), .cells [.str 1 [116],.str 3 [97,110,110],.slice (.o (.i (.i (.i (.i (.o (.o (.o (.o (.i (.i (.i (.o
  .h))))))))))))) 0 3 3 false 1,.int .i64 (.ofNat 2),.slice (.o (.o (.o (.o (.i (.i (.o (.o (.o (.i (.i (.i (.o .h))))))))))))) 0 32 32 false 1,.slice (.i (.i (.i (.o (.o (.o (.i
  (.o (.o (.i (.i (.i (.o .h))))))))))))) 0 32 32 false 1,.slice (.i (.i (.i (.i (.i (.o (.i (.o (.o (.i (.i (.i (.o .h))))))))))))) 0 32 32 false 1,.int .u64 (.ofNat
  1),.nils,.bool false,.str 1 [116],.str 3 [98,111,98],.slice (.o (.o (.o (.i (.i (.i (.o (.o (.i (.o (.o (.o (.i .h))))))))))))) 0 3 3 false 1,.int .i64 (.ofNat 2),.slice (.i (.o
  (.o (.i (.i (.o (.i (.o (.i (.o (.o (.o (.i .h))))))))))))) 0 32 32 false 1,.slice (.i (.i (.i (.i (.i (.i (.i (.o (.i (.o (.o (.o (.i .h))))))))))))) 0 32 32 false 1,.slice (.o
  (.i (.i (.o (.o (.i (.o (.i (.i (.o (.o (.o (.i .h))))))))))))) 0 32 32 false 1,.int .u64 (.ofNat 2),.nils,.bool false] 84 true false)]
noncomputable def mLayTY : List (Pos × MO) := mLayTY_0 ++ mLayTY_1 ++ mLayTY_2 ++ mLayTY_3 ++ mLayTY_4
noncomputable def mLayT : Memo := ⟨[.bool true,.int .u64 (.ofNat 100)], (.i (.i (.i (.i (.o (.i (.i (.i (.i (.i (.o (.i (.o .h))))))))))))), mLayTX, .agg [.ptr (.i (.o (.i (.o (.i (.i (.i (.i (.i (.i (.o (.i (.o .h))))))))))))) 0,.ptr (.i (.i (.i (.o (.i (.i (.i (.i (.i (.i (.o (.i (.o .h))))))))))))) 0,.ptr (.i (.i (.o (.o (.i (.i (.i (.i (.i (.i (.o (.i (.o .h))))))))))))) 0,.int .i64 (.ofNat 2),.ptr (.i (.i (.o (.i (.i (.i (.i (.i (.i (.i (.o (.i (.o .h))))))))))))) 0], (.o (.i (.o (.i (.o (.o (.i (.o (.o (.i (.o (.o (.i .h))))))))))))), mLayTY⟩
noncomputable def isT (r : CR) : Bool := CR.rec (motive := fun _ => Bool) false (fun v _ => OB.rec (motive := fun _ => Bool) false (fun b => b) (asB v)) r
noncomputable def TbA : PT FnE := PT.set (some (.prim (memosP [mLay0]))) (.o (.o (.i (.i .h)))) (PT.set (some (.prim (memosP [mFin0]))) (.o (.o (.o (.o (.o .h))))) Tb)
noncomputable def TbB : PT FnE := PT.set (some (.prim (memosP [mAw]))) (.i (.i (.o (.i .h)))) (PT.set (some (.prim (memosP [mLayF, mLayT]))) (.o (.o (.i (.i .h)))) Tb)
noncomputable def TbC : PT FnE := PT.set (some (.prim (memosP [mFinA, mFinB, mFinC, mFinD]))) (.o (.o (.o (.o (.o .h))))) TbB
end Go.Proofs.YtkafdfjimlihdaaGreatDoor
