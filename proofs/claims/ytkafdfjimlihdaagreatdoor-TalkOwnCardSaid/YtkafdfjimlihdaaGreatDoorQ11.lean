/- The forms of the functions that are reached. -/
import Derived.Test.YtkafdfjimlihdaaGreatDoorThree
import Derived.KernelRfl
import Derived.Test.YtkafdfjimlihdaaGreatDoorProg
set_option linter.unusedVariables false
set_option linter.unusedSimpArgs false
namespace Go.Proofs.YtkafdfjimlihdaaGreatDoor
open Go Go.Ev
noncomputable section
set_option maxRecDepth 100000
def F158 : FnE := .body (.arg 0 fun v1 => .setv (.i .h) (.str 0 []) <| .setv (.o (.o .h)) (.int .i64 (.ofNat 0)) <| .callf (.i (.i (.o (.i (.i (.i (.i .h))))))) [v1] fun v2 => .op (.len false v2) fun v3 =>
  .setv (.i (.i (.i .h))) (.int .i64 (.ofNat 0)) <| .seq (.block 0 (.seq (.loop (.getv (.i (.i (.i .h))) fun v4 => .op (.bin .lss .no v4 v3) fun v5 => .seq (.cond v5 (.fall)
  ((.exit 0))) <| .seq (.block 1 (.op (.islc 2 v2 v4) fun v6 => .op (.load true 2 v6) fun v7 => .op (.alloc [(.int .i64 (.ofNat 0)),(.int .i64 (.ofNat 0))] 384) fun v8 => .op
  (.store 2 v8 v7) fun _ => .op (.faddr 1 v8) fun v10 => .op (.load false 1 v10) fun v11 => .op (.bin .lss .no v11 (.int .i64 (.ofNat 0))) fun v12 => .seq (.cond v12 (.setv (.i .h)
  (.str 0 []) <| .setv (.o (.o .h)) (.int .i64 (.ofNat 4)) <| .ret) (.fall)) <| .fall)) <| .op (.bin .add .no v4 (.int .i64 (.ofNat 1))) fun v13 => .setv (.i (.i (.i .h))) v13 <|
  .fall)) <| .fall)) <| .setv (.o (.o (.o .h))) .nils <| .op (.len false v2) fun v14 => .setv (.i (.o (.o (.i .h)))) (.int .i64 (.ofNat 0)) <| .seq (.block 2 (.seq (.loop (.getv
  (.i (.o (.o (.i .h)))) fun v15 => .op (.bin .lss .no v15 v14) fun v16 => .seq (.cond v16 (.fall) ((.exit 2))) <| .seq (.block 3 (.op (.islc 2 v2 v15) fun v17 => .op (.load true 2
  v17) fun v18 => .op (.alloc [(.int .i64 (.ofNat 0)),(.int .i64 (.ofNat 0))] 384) fun v19 => .op (.store 2 v19 v18) fun _ => .op (.faddr 1 v19) fun v21 => .op (.load false 1 v21)
  fun v22 => .callf (.o (.o (.i (.i (.i (.i (.i .h))))))) [v22] fun v23 => .seq (.cond v23 (.getv (.o (.o (.o .h))) fun v24 => .op (.bslice 5 1 1 [(.int .u8 (.ofNat 0))] [(0,(.int
  .u8 (.ofNat 32)))]) fun v25 => .op (.app 5 1 1 v24 v25) fun v26 => .setv (.o (.o (.o .h))) v26 <| (.exit 3)) (.fall)) <| .op (.faddr 1 v19) fun v27 => .op (.load false 1 v27) fun
  v28 => .callf (.i (.o (.i (.i (.i (.i (.i .h))))))) [v28] fun v29 => .seq (.cond v29 ((.exit 3)) (.fall)) <| .op (.faddr 1 v19) fun v30 => .op (.load false 1 v30) fun v31 =>
  .callf (.o (.i (.i (.i (.i (.i (.i .h))))))) [v31] fun v32 => .seq (.cond v32 (.setv (.i .h) (.str 0 []) <| .setv (.o (.o .h)) (.int .i64 (.ofNat 5)) <| .ret) (.fall)) <| .getv
  (.o (.o (.o .h))) fun v33 => .op (.faddr 1 v19) fun v34 => .op (.load false 1 v34) fun v35 => .callf (.i (.i (.i (.i (.i (.i (.i .h))))))) [v35] fun v36 => .op (.app 5 1 1 v33
  v36) fun v37 => .setv (.o (.o (.o .h))) v37 <| .fall)) <| .op (.bin .add .no v15 (.int .i64 (.ofNat 1))) fun v38 => .setv (.i (.o (.o (.i .h)))) v38 <| .fall)) <| .fall)) <|
  .getv (.o (.o (.o .h))) fun v39 => .op (.b2s v39) fun v40 => .setv (.i .h) v40 <| .setv (.o (.o .h)) (.int .i64 (.ofNat 0)) <| .ret) [.tmp (.i .h),.tmp (.o (.o .h))]
theorem F158_ok : toFn Tryz.prog 158 [2,3,7,14,24] = some F158 := by kernel_rfl
def F159 : FnE := .body (.arg 0 fun v1 => .arg 1 fun v2 => .setv (.i (.o .h)) (.str 0 []) <| .setv (.o (.i .h)) (.str 0 []) <| .setv (.i (.i .h)) (.bool false) <| .callf (.o (.o (.o (.o (.o (.o (.o (.o
  .h)))))))) [v1,v2] fun v3 => .op (.ext v3 0) fun v4 => .op (.ext v3 1) fun v5 => .op (.ext v3 2) fun v6 => .setv (.i (.o .h)) v4 <| .setv (.o (.i .h)) v5 <| .setv (.i (.i .h)) v6
  <| .ret) [.tmp (.i (.o .h)),.tmp (.o (.i .h)),.tmp (.i (.i .h))]
theorem F159_ok : toFn Tryz.prog 159 [4,5,6] = some F159 := by kernel_rfl
def F160 : FnE := .body (.arg 0 fun v1 => .setv (.i .h) .nilp <| .op (.build [.nils,(.bool false)] []) fun v2 => .op (.box 389 v2) fun v3 => .op (.alloc [.nilp] 291) fun v4 => .op (.store 1 v4 v3) fun _ =>
  .op (.alloc [(.int .i64 (.ofNat 0))] 3) fun v6 => .op (.store 1 v6 (.int .i64 (.ofNat 0))) fun _ => .callf (.i (.o (.o (.o (.o (.o (.o (.o .h)))))))) [v1] fun v8 => .seq (.block
  0 (.seq (.rfun v8 (.block 2 (.arg 0 fun v9 => .arg 1 fun v10 => .brnd <| .seq (.block 1 (.op (.load false 1 v4) fun v11 => .op (.load false 1 v4) fun v12 => .op (.nilck v12) fun
  v13 => .op (.faddr 0 v13) fun v14 => .op (.load false 1 v14) fun v15 => .op (.build [(.str 0 []),(.str 0 [])] [(0,1,v9),(1,1,v10)]) fun v16 => .op (.bslice 394 2 1 [(.str 0
  []),(.str 0 [])] [(0,v16)]) fun v17 => .op (.app 394 2 32 v15 v17) fun v18 => .chk false 1 v4 v11 <| .op (.nilck v11) fun v19 => .op (.faddr 0 v19) fun v20 => .op (.store 1 v20
  v18) fun _ => .fall)) <| .fall))) <| .fall)) <| .callf (.o (.i (.o (.o (.o (.o (.o (.o .h)))))))) [v1] fun v22 => .seq (.block 2 (.seq (.rfun v22 (.block 1 (.arg 0 fun _ => .brnd
  <| .seq (.block 3 (.op (.load false 1 v6) fun v24 => .op (.bin .add .no v24 (.int .i64 (.ofNat 1))) fun v25 => .op (.store 1 v6 v25) fun _ => .fall)) <| .fall))) <| .fall)) <|
  .op (.load false 1 v4) fun v27 => .op (.load false 1 v6) fun v28 => .op (.load false 1 v4) fun v29 => .op (.nilck v29) fun v30 => .op (.faddr 0 v30) fun v31 => .op (.load false 1
  v31) fun v32 => .op (.len false v32) fun v33 => .op (.bin .neq .no v28 v33) fun v34 => .op (.nilck v27) fun v35 => .op (.faddr 1 v35) fun v36 => .op (.store 1 v36 v34) fun _ =>
  .op (.load false 1 v4) fun v38 => .setv (.i .h) v38 <| .ret) [.tmp (.i .h)]
theorem F160_ok : toFn Tryz.prog 160 [2] = some F160 := by kernel_rfl
def F161 : FnE := .body (.arg 0 fun v1 => .arg 1 fun v2 => .op (.nilck v1) fun v3 => .op (.faddr 1 v3) fun v4 => .op (.load false 1 v4) fun v5 => .gop v5 false (.mv v2) fun v6 => .gop v5 false (.un .not
  v6) fun v7 => .op (.pick v5 (.bool true) v7) fun v8 => .op (.nilck v1) fun v9 => .op (.faddr 1 v9) fun v10 => .op (.store 1 v10 v8) fun _ => .fall) []
theorem F161_ok : toFn Tryz.prog 161 [] = some F161 := by kernel_rfl
def F162 : FnE := .body (.arg 0 fun v1 => .setv (.i .h) (.str 0 []) <| .setv (.o (.o .h)) (.bool false) <| .op (.bin .eql .no v1 (.str 1 [110])) fun v2 => .gop v2 false (.mv v1) fun v3 => .gop v2 false
  (.bin .eql .no v3 (.str 1 [121])) fun v4 => .op (.pick v2 (.bool true) v4) fun v5 => .seq (.cond v5 (.setv (.i .h) v1 <| .setv (.o (.o .h)) (.bool true) <| .ret) (.fall)) <|
  .callf (.o (.o (.i (.o (.o (.i (.o .h))))))) [v1,(.str 2 [112,61])] fun v6 => .op (.ext v6 0) fun v7 => .op (.ext v6 1) fun v8 => .setv (.o (.i .h)) v8 <| .op (.len true v7) fun
  v9 => .setv (.i (.i (.i (.o .h)))) (.int .i64 (.ofNat 0)) <| .seq (.block 0 (.seq (.loop (.getv (.i (.i (.i (.o .h)))) fun v10 => .op (.bin .lss .no v10 v9) fun v11 => .seq
  (.cond v11 (.fall) ((.exit 0))) <| .seq (.block 1 (.op (.ixstr v7 v10) fun v12 => .getv (.o (.i .h)) fun v13 => .gop v13 true (.mv v12) fun v14 => .gcallf v13 true (.i (.i (.o
  (.o (.o (.o (.o (.o .h)))))))) [v14] fun v15 => .gop v13 true (.mv v15) fun v16 => .gop v16 false (.mv v12) fun v17 => .gop v16 false (.bin .geq .no v17 (.int .u8 (.ofNat 48)))
  fun v18 => .gop v16 false (.mv v18) fun v19 => .gop v19 true (.mv v12) fun v20 => .gop v19 true (.bin .leq .no v20 (.int .u8 (.ofNat 57))) fun v21 => .gop v16 false (.pick v19
  v21 (.bool false)) fun v22 => .gop v13 true (.pick v16 (.bool true) v22) fun v23 => .gop v13 true (.mv v23) fun v24 => .gop v24 false (.mv v12) fun v25 => .gop v24 false (.bin
  .eql .no v25 (.int .u8 (.ofNat 46))) fun v26 => .gop v13 true (.pick v24 (.bool true) v26) fun v27 => .gop v13 true (.mv v27) fun v28 => .gop v28 false (.mv v12) fun v29 => .gop
  v28 false (.bin .eql .no v29 (.int .u8 (.ofNat 45))) fun v30 => .gop v13 true (.pick v28 (.bool true) v30) fun v31 => .op (.pick v13 v31 (.bool false)) fun v32 => .setv (.o (.i
  .h)) v32 <| .fall)) <| .op (.bin .add .no v10 (.int .i64 (.ofNat 1))) fun v33 => .setv (.i (.i (.i (.o .h)))) v33 <| .fall)) <| .fall)) <| .getv (.o (.i .h)) fun v34 => .gop v34
  true (.mv v7) fun v35 => .gop v34 true (.bin .neq .no v35 (.str 0 [])) fun v36 => .op (.pick v34 v36 (.bool false)) fun v37 => .setv (.i .h) (.str 1 [112]) <| .setv (.o (.o .h))
  v37 <| .ret) [.tmp (.i .h),.tmp (.o (.o .h))]
theorem F162_ok : toFn Tryz.prog 162 [2,3,5,22] = some F162 := by kernel_rfl
def F163 : FnE := .body (.arg 0 fun v1 => .arg 1 fun v2 => .setv (.i (.o .h)) (.str 0 []) <| .setv (.o (.i .h)) (.bool false) <| .callf (.o (.o (.i (.o (.o (.o (.o (.o .h)))))))) [v1,v2] fun v3 => .op
  (.ext v3 0) fun v4 => .op (.ext v3 1) fun v5 => .setv (.i (.o .h)) v4 <| .setv (.o (.i .h)) v5 <| .ret) [.tmp (.i (.o .h)),.tmp (.o (.i .h))]
theorem F163_ok : toFn Tryz.prog 163 [4,5] = some F163 := by kernel_rfl
def F164 : FnE := .body (.arg 0 fun v1 => .setv (.i .h) (.str 0 []) <| .setv (.o (.o .h)) (.bool false) <| .callf (.i (.o (.i (.o (.o (.o (.o (.o .h)))))))) [v1] fun v2 => .op (.ext v2 0) fun v3 => .op
  (.ext v2 1) fun v4 => .callf (.i (.i (.i (.o (.o (.i (.o .h))))))) [v1] fun v5 => .gop v5 true (.mv v4) fun v6 => .gop v5 true (.bin .eql .no v6 (.int .i64 (.ofNat 0))) fun v7 =>
  .op (.pick v5 v7 (.bool false)) fun v8 => .setv (.i .h) v3 <| .setv (.o (.o .h)) v8 <| .ret) [.tmp (.i .h),.tmp (.o (.o .h))]
theorem F164_ok : toFn Tryz.prog 164 [2,3] = some F164 := by kernel_rfl
def F165 : FnE := .body (.arg 0 fun v1 => .arg 1 fun v2 => .setv (.i (.o .h)) (.bool false) <| .op (.nilck v1) fun v3 => .op (.faddr 0 v3) fun v4 => .op (.load false 1 v4) fun v5 => .op (.len false v5) fun
  v6 => .op (.bin .gtr .no v6 (.int .i64 (.ofNat 0))) fun v7 => .gop v7 true (.mv v1) fun v8 => .gop v7 true (.nilck v8) fun v9 => .gop v7 true (.faddr 0 v9) fun v10 => .gop v7
  true (.load false 1 v10) fun v11 => .gop v7 true (.islc 2 v11 (.int .i64 (.ofNat 0))) fun v12 => .gop v7 true (.faddr 0 v12) fun v13 => .gop v7 true (.load false 1 v13) fun v14
  => .gop v7 true (.mv v2) fun v15 => .gop v7 true (.bin .eql .no v14 v15) fun v16 => .op (.pick v7 v16 (.bool false)) fun v17 => .setv (.i (.o .h)) v17 <| .ret) [.tmp (.i (.o .h))]
theorem F165_ok : toFn Tryz.prog 165 [4] = some F165 := by kernel_rfl
def F166 : FnE := .body (.arg 0 fun v1 => .setv (.i .h) (.bool false) <| .op (.bin .eql .no v1 (.str 0 [])) fun v2 => .gop v2 false (.mv v1) fun v3 => .gcallf v2 false (.o (.i (.i (.o (.o (.o (.o (.o
  .h)))))))) [v3] fun v4 => .gop v2 false (.un .not v4) fun v5 => .op (.pick v2 (.bool true) v5) fun v6 => .seq (.cond v6 (.setv (.i .h) (.bool false) <| .ret) (.fall)) <| .op
  (.len true v1) fun v7 => .setv (.o (.i (.i .h))) (.int .i64 (.ofNat 0)) <| .seq (.block 0 (.seq (.loop (.getv (.o (.i (.i .h))) fun v8 => .op (.bin .lss .no v8 v7) fun v9 => .seq
  (.cond v9 (.fall) ((.exit 0))) <| .seq (.block 1 (.op (.ixstr v1 v8) fun v10 => .op (.bin .eql .no v10 (.int .u8 (.ofNat 0))) fun v11 => .gop v11 false (.mv v1) fun v12 => .gop
  v11 false (.mv v8) fun v13 => .gop v11 false (.ixstr v12 v13) fun v14 => .gop v11 false (.bin .eql .no v14 (.int .u8 (.ofNat 44))) fun v15 => .op (.pick v11 (.bool true) v15) fun
  v16 => .seq (.cond v16 (.setv (.i .h) (.bool false) <| .ret) (.fall)) <| .fall)) <| .op (.bin .add .no v8 (.int .i64 (.ofNat 1))) fun v17 => .setv (.o (.i (.i .h))) v17 <|
  .fall)) <| .fall)) <| .setv (.i .h) (.bool true) <| .ret) [.tmp (.i .h)]
theorem F166_ok : toFn Tryz.prog 166 [2,13] = some F166 := by kernel_rfl
def F167 : FnE := .body (.arg 0 fun v1 => .arg 1 fun v2 => .setv (.i (.o .h)) (.str 0 []) <| .op (.nilck v1) fun v3 => .op (.faddr 0 v3) fun v4 => .op (.load false 1 v4) fun v5 => .op (.len false v5) fun
  v6 => .op (.bin .eql .no v6 (.int .i64 (.ofNat 0))) fun v7 => .gop v7 false (.mv v1) fun v8 => .gop v7 false (.nilck v8) fun v9 => .gop v7 false (.faddr 0 v9) fun v10 => .gop v7
  false (.load false 1 v10) fun v11 => .gop v7 false (.islc 2 v11 (.int .i64 (.ofNat 0))) fun v12 => .gop v7 false (.faddr 0 v12) fun v13 => .gop v7 false (.load false 1 v13) fun
  v14 => .gop v7 false (.mv v2) fun v15 => .gop v7 false (.bin .neq .no v14 v15) fun v16 => .op (.pick v7 (.bool true) v16) fun v17 => .seq (.cond v17 (.op (.nilck v1) fun v18 =>
  .op (.faddr 1 v18) fun v19 => .op (.store 1 v19 (.bool true)) fun _ => .setv (.i (.o .h)) (.str 0 []) <| .ret) (.fall)) <| .op (.nilck v1) fun v21 => .op (.faddr 0 v21) fun v22
  => .op (.load false 1 v22) fun v23 => .op (.islc 2 v23 (.int .i64 (.ofNat 0))) fun v24 => .op (.faddr 1 v24) fun v25 => .op (.load false 1 v25) fun v26 => .op (.nilck v1) fun v27
  => .op (.faddr 0 v27) fun v28 => .op (.load false 1 v28) fun v29 => .op (.sslc 2 v29 (some (.int .i64 (.ofNat 1))) none none) fun v30 => .op (.nilck v1) fun v31 => .op (.faddr 0
  v31) fun v32 => .op (.store 1 v32 v30) fun _ => .setv (.i (.o .h)) v26 <| .ret) [.tmp (.i (.o .h))]
theorem F167_ok : toFn Tryz.prog 167 [4] = some F167 := by kernel_rfl
def F168 : FnE := .body (.arg 0 fun v1 => .arg 1 fun v2 => .setv (.i (.o .h)) (.str 0 []) <| .callf (.i (.i (.i (.i (.o (.i (.o .h))))))) [v2] fun v3 => .callf (.o (.i (.o (.o (.o (.i (.o .h))))))) [v1,v3]
  fun _ => .setv (.i (.o .h)) v2 <| .ret) [.tmp (.i (.o .h))]
theorem F168_ok : toFn Tryz.prog 168 [4] = some F168 := by kernel_rfl
def F169 : FnE := .body (.arg 0 fun v1 => .arg 1 fun v2 => .setv (.i (.o .h)) .nils <| .setv (.o (.i .h)) .nils <| .seq (.block 0 (.seq (.loop (.op (.nilck v1) fun v3 => .op (.faddr 0 v3) fun v4 => .op
  (.load false 1 v4) fun v5 => .op (.len false v5) fun v6 => .op (.bin .gtr .no v6 v2) fun v7 => .seq (.cond v7 (.fall) ((.exit 0))) <| .seq (.block 1 (.op (.nilck v1) fun v8 =>
  .op (.faddr 0 v8) fun v9 => .op (.load false 1 v9) fun v10 => .op (.islc 2 v10 (.int .i64 (.ofNat 0))) fun v11 => .op (.load true 2 v11) fun v12 => .op (.alloc [(.str 0 []),(.str
  0 [])] 394) fun v13 => .op (.store 2 v13 v12) fun _ => .op (.faddr 0 v13) fun v15 => .op (.load false 1 v15) fun v16 => .op (.ixstr v16 (.int .i64 (.ofNat 0))) fun v17 => .callf
  (.i (.i (.o (.o (.o (.o (.o (.o .h)))))))) [v17] fun v18 => .gop v18 true (.faddr 1 v13) fun v19 => .gop v18 true (.load false 1 v19) fun v20 => .gcallf v18 true (.i (.i (.i (.o
  (.o (.i (.o .h))))))) [v20] fun v21 => .op (.pick v18 v21 (.bool false)) fun v22 => .callf (.o (.i (.o (.o (.o (.i (.o .h))))))) [v1,v22] fun _ => .getv (.o (.i .h)) fun v24 =>
  .op (.faddr 0 v13) fun v25 => .op (.load false 1 v25) fun v26 => .op (.faddr 1 v13) fun v27 => .op (.load false 1 v27) fun v28 => .op (.build [(.str 0 []),(.str 0 [])]
  [(0,1,v26),(1,1,v28)]) fun v29 => .op (.bslice 305 2 1 [(.str 0 []),(.str 0 [])] [(0,v29)]) fun v30 => .op (.app 305 2 32 v24 v30) fun v31 => .setv (.o (.i .h)) v31 <| .op
  (.nilck v1) fun v32 => .op (.faddr 0 v32) fun v33 => .op (.load false 1 v33) fun v34 => .op (.sslc 2 v34 (some (.int .i64 (.ofNat 1))) none none) fun v35 => .op (.nilck v1) fun
  v36 => .op (.faddr 0 v36) fun v37 => .op (.store 1 v37 v35) fun _ => .fall)) <| .fall)) <| .fall)) <| .getv (.o (.i .h)) fun v39 => .setv (.i (.o .h)) v39 <| .ret) [.tmp (.i (.o .h))]
theorem F169_ok : toFn Tryz.prog 169 [4,5] = some F169 := by kernel_rfl
def F170 : FnE := .body (.arg 0 fun v1 => .arg 1 fun v2 => .setv (.i (.o .h)) (.int .i64 (.ofNat 0)) <| .seq (.block 0 (.op (.nilck v1) fun v3 => .op (.faddr 1 v3) fun v4 => .op (.load false 1 v4) fun v5
  => .gop v5 false (.mv v1) fun v6 => .gop v5 false (.nilck v6) fun v7 => .gop v5 false (.faddr 0 v7) fun v8 => .gop v5 false (.load false 1 v8) fun v9 => .gop v5 false (.len false
  v9) fun v10 => .gop v5 false (.bin .gtr .no v10 (.int .i64 (.ofNat 0))) fun v11 => .op (.pick v5 (.bool true) v11) fun v12 => .seq (.cond v12 (.setv (.i (.o .h)) (.int .i64
  (.ofNat 4)) <| .ret) (.seq (.cond v2 (.setv (.i (.o .h)) (.int .i64 (.ofNat 12)) <| .ret) (.fall)) <| .fall)) <| .fall)) <| .setv (.i (.o .h)) (.int .i64 (.ofNat 0)) <| .ret) [.tmp (.i (.o .h))]
theorem F170_ok : toFn Tryz.prog 170 [4] = some F170 := by kernel_rfl
def F171 : FnE := .body (.arg 0 fun v1 => .setv (.i .h) (.bool false) <| .op (.len false v1) fun v2 => .setv (.o (.o (.o .h))) (.int .i64 (.ofNat 0)) <| .seq (.block 0 (.seq (.loop (.getv (.o (.o (.o .h)))
  fun v3 => .op (.bin .lss .no v3 v2) fun v4 => .seq (.cond v4 (.fall) ((.exit 0))) <| .seq (.block 1 (.op (.islc 2 v1 v3) fun v5 => .op (.load true 2 v5) fun v6 => .op (.alloc
  [(.str 0 []),(.str 0 [])] 305) fun v7 => .op (.store 2 v7 v6) fun _ => .op (.faddr 0 v7) fun v9 => .op (.load false 1 v9) fun v10 => .op (.bin .eql .no v10 (.str 1 [109])) fun
  v11 => .seq (.cond v11 (.setv (.i .h) (.bool true) <| .ret) (.fall)) <| .fall)) <| .op (.bin .add .no v3 (.int .i64 (.ofNat 1))) fun v12 => .setv (.o (.o (.o .h))) v12 <| .fall))
  <| .fall)) <| .setv (.i .h) (.bool false) <| .ret) [.tmp (.i .h)]
theorem F171_ok : toFn Tryz.prog 171 [2,7] = some F171 := by kernel_rfl
def F172 : FnE := .body (.arg 0 fun v1 => .op (.box 197 v1) fun v2 => .setv (.i .h) (.str 0 []) <| .setv (.o (.o .h)) (.int .i64 (.ofNat 0)) <| .op (.load true 5 v2) fun v3 => .op (.load true 5 v2) fun v4
  => .op (.load true 5 v2) fun v5 => .callf (.o (.o (.o (.i (.i (.i (.o .h))))))) [v3] fun v6 => .chk true 5 v2 v4 <| .chk true 5 v2 v5 <| .callf (.o (.i (.i (.i (.o (.i (.o
  .h))))))) [v4] fun v7 => .chk true 5 v2 v5 <| .op (.bin .add .no v6 v7) fun v8 => .callf (.i (.i (.i (.o (.o (.o (.o (.o .h)))))))) [v5] fun v9 => .callf (.i (.o (.o (.o (.i (.i
  (.o .h))))))) [v8,v9] fun v10 => .op (.ext v10 0) fun v11 => .op (.ext v10 1) fun v12 => .setv (.i .h) v11 <| .setv (.o (.o .h)) v12 <| .ret) [.tmp (.i .h),.tmp (.o (.o .h))]
theorem F172_ok : toFn Tryz.prog 172 [2,3] = some F172 := by kernel_rfl
def F173 : FnE := .body (.arg 0 fun v1 => .op (.box 197 v1) fun v2 => .setv (.i .h) (.str 0 []) <| .op (.faddr 2 v2) fun v3 => .op (.load false 1 v3) fun v4 => .op (.faddr 3 v2) fun v5 => .op (.load false
  1 v5) fun v6 => .op (.faddr 4 v2) fun v7 => .op (.load false 1 v7) fun v8 => .callf (.o (.o (.o (.i (.o (.o (.o (.o .h)))))))) [v4] fun v9 => .chk false 1 v5 v6 <| .chk false 1
  v7 v8 <| .op (.bin .add .no (.str 2 [110,61]) v9) fun v10 => .op (.bin .add .no v10 (.str 3 [44,114,61])) fun v11 => .op (.bin .add .no v11 v6) fun v12 => .callf (.o (.o (.i (.o
  (.i (.i (.o .h))))))) [v8] fun v13 => .chk false 1 v5 v6 <| .op (.bin .add .no v12 v13) fun v14 => .setv (.i .h) v14 <| .ret) [.tmp (.i .h)]
theorem F173_ok : toFn Tryz.prog 173 [2] = some F173 := by kernel_rfl
def F174 : FnE := .body (.arg 0 fun v1 => .setv (.i .h) (.bool false) <| .op (.len true v1) fun v2 => .setv (.i (.i .h)) (.int .i64 (.ofNat 0)) <| .seq (.block 0 (.seq (.loop (.getv (.i (.i .h)) fun v3 =>
  .op (.bin .lss .no v3 v2) fun v4 => .seq (.cond v4 (.fall) ((.exit 0))) <| .seq (.block 1 (.op (.ixstr v1 v3) fun v5 => .op (.bin .lss .no v5 (.int .u8 (.ofNat 33))) fun v6 =>
  .gop v6 false (.mv v1) fun v7 => .gop v6 false (.mv v3) fun v8 => .gop v6 false (.ixstr v7 v8) fun v9 => .gop v6 false (.bin .gtr .no v9 (.int .u8 (.ofNat 126))) fun v10 => .op
  (.pick v6 (.bool true) v10) fun v11 => .gop v11 false (.mv v1) fun v12 => .gop v11 false (.mv v3) fun v13 => .gop v11 false (.ixstr v12 v13) fun v14 => .gop v11 false (.bin .eql
  .no v14 (.int .u8 (.ofNat 44))) fun v15 => .op (.pick v11 (.bool true) v15) fun v16 => .seq (.cond v16 (.setv (.i .h) (.bool false) <| .ret) (.fall)) <| .fall)) <| .op (.bin .add
  .no v3 (.int .i64 (.ofNat 1))) fun v17 => .setv (.i (.i .h)) v17 <| .fall)) <| .fall)) <| .op (.bin .neq .no v1 (.str 0 [])) fun v18 => .gop v18 true (.mv v1) fun v19 => .gop v18
  true (.len true v19) fun v20 => .gop v18 true (.bin .leq .no v20 (.int .i64 (.ofNat 64))) fun v21 => .op (.pick v18 v21 (.bool false)) fun v22 => .setv (.i .h) v22 <| .ret) [.tmp (.i .h)]
theorem F174_ok : toFn Tryz.prog 174 [2,6] = some F174 := by kernel_rfl
def F175 : FnE := .body (.arg 0 fun v1 => .arg 1 fun v2 => .setv (.i (.o .h)) (.bool false) <| .op (.len false v1) fun v3 => .setv (.o (.i (.o .h))) (.int .i64 (.ofNat 0)) <| .seq (.block 0 (.seq (.loop
  (.getv (.o (.i (.o .h))) fun v4 => .op (.bin .lss .no v4 v3) fun v5 => .seq (.cond v5 (.fall) ((.exit 0))) <| .seq (.block 1 (.op (.islc 2 v1 v4) fun v6 => .op (.load true 2 v6)
  fun v7 => .op (.alloc [(.str 0 []),(.str 0 [])] 305) fun v8 => .op (.store 2 v8 v7) fun _ => .op (.faddr 0 v8) fun v10 => .op (.load false 1 v10) fun v11 => .op (.len true v11)
  fun v12 => .op (.bin .neq .no v12 (.int .i64 (.ofNat 1))) fun v13 => .gop v13 false (.faddr 0 v8) fun v14 => .gop v13 false (.load false 1 v14) fun v15 => .gop v13 false (.ixstr
  v15 (.int .i64 (.ofNat 0))) fun v16 => .gcallf v13 false (.i (.i (.o (.o (.o (.o (.o (.o .h)))))))) [v16] fun v17 => .gop v13 false (.un .not v17) fun v18 => .op (.pick v13
  (.bool true) v18) fun v19 => .gop v19 false (.faddr 1 v8) fun v20 => .gop v19 false (.load false 1 v20) fun v21 => .gcallf v19 false (.i (.i (.i (.o (.o (.i (.o .h))))))) [v21]
  fun v22 => .gop v19 false (.un .not v22) fun v23 => .op (.pick v19 (.bool true) v23) fun v24 => .gop v24 false (.faddr 0 v8) fun v25 => .gop v24 false (.load false 1 v25) fun v26
  => .gop v24 false (.bin .eql .no v26 (.str 1 [109])) fun v27 => .op (.pick v24 (.bool true) v27) fun v28 => .gop v28 false (.faddr 0 v8) fun v29 => .gop v28 false (.load false 1
  v29) fun v30 => .gop v28 false (.mv v2) fun v31 => .gop v28 false (.bin .eql .no v30 v31) fun v32 => .op (.pick v28 (.bool true) v32) fun v33 => .seq (.cond v33 (.setv (.i (.o
  .h)) (.bool false) <| .ret) (.fall)) <| .fall)) <| .op (.bin .add .no v4 (.int .i64 (.ofNat 1))) fun v34 => .setv (.o (.i (.o .h))) v34 <| .fall)) <| .fall)) <| .setv (.i (.o
  .h)) (.bool true) <| .ret) [.tmp (.i (.o .h))]
theorem F175_ok : toFn Tryz.prog 175 [4,9] = some F175 := by kernel_rfl
def F176 : FnE := .body (.arg 0 fun v1 => .arg 1 fun v2 => .setv (.i (.o .h)) (.str 0 []) <| .setv (.o (.i .h)) (.int .i64 (.ofNat 0)) <| .seq (.block 0 (.op (.un .not v2) fun v3 => .seq (.cond v3 (.setv
  (.i (.o .h)) (.str 0 []) <| .setv (.o (.i .h)) (.int .i64 (.ofNat 4)) <| .ret) (.op (.len true v1) fun v4 => .op (.bin .gtr .no v4 (.int .i64 (.ofNat 4096))) fun v5 => .seq
  (.cond v5 (.setv (.i (.o .h)) (.str 0 []) <| .setv (.o (.i .h)) (.int .i64 (.ofNat 3)) <| .ret) (.fall)) <| .fall)) <| .fall)) <| .setv (.i (.o .h)) v1 <| .setv (.o (.i .h))
  (.int .i64 (.ofNat 0)) <| .ret) [.tmp (.i (.o .h)),.tmp (.o (.i .h))]
theorem F176_ok : toFn Tryz.prog 176 [4,5] = some F176 := by kernel_rfl
def F177 : FnE := .body (.arg 0 fun v1 => .setv (.i .h) (.str 0 []) <| .callf (.i (.o (.o (.i (.o (.o (.o (.o .h)))))))) [(.str 64
  [65,66,67,68,69,70,71,72,73,74,75,76,77,78,79,80,81,82,83,84,85,86,87,88,89,90,97,98,99,100,101,102,103,104,105,106,107,108,109,110,111,112,113,114,115,116,117,118,119,120,121,122,48,49,50,51,52,53,54,55,56,57,43,47]),v1,(.bool
  true)] fun v2 => .setv (.i .h) v2 <| .ret) [.tmp (.i .h)]
theorem F177_ok : toFn Tryz.prog 177 [2] = some F177 := by kernel_rfl
def F178 : FnE := .body (.arg 0 fun v1 => .setv (.i .h) (.str 0 []) <| .callf (.o (.i (.o (.i (.o (.o (.o (.o .h)))))))) [v1] fun v2 => .setv (.i .h) v2 <| .ret) [.tmp (.i .h)]
theorem F178_ok : toFn Tryz.prog 178 [2] = some F178 := by kernel_rfl
def F179 : FnE := .body (.arg 0 fun v1 => .setv (.i .h) (.str 0 []) <| .op (.alloc [.nilp,.nils] 347) fun v2 => .op (.len false v1) fun v3 => .setv (.i (.o (.o .h))) (.int .i64 (.ofNat 0)) <| .seq (.block
  0 (.seq (.loop (.getv (.i (.o (.o .h))) fun v4 => .op (.bin .lss .no v4 v3) fun v5 => .seq (.cond v5 (.fall) ((.exit 0))) <| .seq (.block 1 (.op (.islc 2 v1 v4) fun v6 => .op
  (.load true 2 v6) fun v7 => .op (.alloc [(.str 0 []),(.str 0 [])] 305) fun v8 => .op (.store 2 v8 v7) fun _ => .op (.faddr 0 v8) fun v10 => .op (.load false 1 v10) fun v11 => .op
  (.bin .add .no (.str 1 [44]) v11) fun v12 => .op (.bin .add .no v12 (.str 1 [61])) fun v13 => .op (.faddr 1 v8) fun v14 => .op (.load false 1 v14) fun v15 => .op (.bin .add .no
  v13 v15) fun v16 => .callf (.o (.o (.i (.o (.o (.i (.i .h))))))) [v2,v16] fun _ => .fall)) <| .op (.bin .add .no v4 (.int .i64 (.ofNat 1))) fun v18 => .setv (.i (.o (.o .h))) v18
  <| .fall)) <| .fall)) <| .callf (.o (.o (.o (.i (.o (.i (.i .h))))))) [v2] fun v19 => .setv (.i .h) v19 <| .ret) [.tmp (.i .h)]
theorem F179_ok : toFn Tryz.prog 179 [2,8] = some F179 := by kernel_rfl
def F180 : FnE := .body (.arg 0 fun v1 => .arg 1 fun v2 => .arg 2 fun v3 => .arg 3 fun v4 => .setv (.i (.o (.o .h))) .nils <| .callf (.i (.i (.o (.i (.o (.o (.o (.o .h)))))))) [v2] fun v5 => .op (.ext v5
  0) fun v6 => .op (.ext v5 1) fun v7 => .op (.bin .eql .no v7 (.int .i64 (.ofNat 0))) fun v8 => .gop v8 true (.mv v6) fun v9 => .gop v8 true (.len false v9) fun v10 => .gop v8
  true (.mv v3) fun v11 => .gop v8 true (.bin .geq .no v10 v11) fun v12 => .op (.pick v8 v12 (.bool false)) fun v13 => .gop v13 true (.mv v6) fun v14 => .gop v13 true (.len false
  v14) fun v15 => .gop v13 true (.mv v4) fun v16 => .gop v13 true (.bin .leq .no v15 v16) fun v17 => .op (.pick v13 v17 (.bool false)) fun v18 => .callf (.o (.i (.o (.o (.o (.i (.o
  .h))))))) [v1,v18] fun _ => .setv (.i (.o (.o .h))) v6 <| .ret) [.tmp (.i (.o (.o .h)))]
theorem F180_ok : toFn Tryz.prog 180 [8] = some F180 := by kernel_rfl
def F181 : FnE := .body (.arg 0 fun v1 => .setv (.i .h) (.bool false) <| .setv (.o (.o .h)) (.bool false) <| .callf (.o (.o (.o (.o (.o (.i (.o .h))))))) [v1,(.str 1 [44])] fun v2 => .op (.ext v2 0) fun v3
  => .op (.ext v2 1) fun v4 => .op (.ext v2 2) fun v5 => .callf (.o (.o (.o (.o (.o (.i (.o .h))))))) [v4,(.str 1 [44])] fun v6 => .op (.ext v6 0) fun v7 => .op (.ext v6 1) fun v8
  => .op (.ext v6 2) fun v9 => .callf (.i (.i (.o (.o (.o (.i (.o .h))))))) [v3] fun v10 => .op (.ext v10 0) fun v11 => .op (.ext v10 1) fun v12 => .setv (.o (.o (.i .h))) v12 <|
  .op (.bin .neq .no v7 (.str 0 [])) fun v13 => .seq (.cond v13 (.callf (.o (.o (.i (.o (.o (.i (.o .h))))))) [v7,(.str 2 [97,61])] fun v14 => .op (.ext v14 0) fun v15 => .op (.ext
  v14 1) fun v16 => .callf (.i (.o (.i (.o (.o (.i (.o .h))))))) [v15] fun v17 => .op (.ext v17 0) fun _ => .op (.ext v17 1) fun v19 => .gop v12 true (.mv v16) fun v20 => .op
  (.pick v12 v20 (.bool false)) fun v21 => .gop v21 true (.mv v19) fun v22 => .op (.pick v21 v22 (.bool false)) fun v23 => .setv (.o (.o (.i .h))) v23 <| .fall) (.fall)) <| .gop v5
  true (.mv v9) fun v24 => .op (.pick v5 v24 (.bool false)) fun v25 => .gop v25 true (.mv v8) fun v26 => .gop v25 true (.bin .eql .no v26 (.str 0 [])) fun v27 => .op (.pick v25 v27
  (.bool false)) fun v28 => .getv (.o (.o (.i .h))) fun v29 => .gop v28 true (.mv v29) fun v30 => .op (.pick v28 v30 (.bool false)) fun v31 => .op (.bin .eql .no v11 (.str 1
  [112])) fun v32 => .setv (.i .h) v31 <| .setv (.o (.o .h)) v32 <| .ret) [.tmp (.i .h),.tmp (.o (.o .h))]
theorem F181_ok : toFn Tryz.prog 181 [2,3,11] = some F181 := by kernel_rfl
def F182 : FnE := .body (.arg 0 fun v1 => .arg 1 fun v2 => .arg 2 fun v3 => .arg 3 fun v4 => .op (.box 45 v2) fun v5 => .setv (.i (.o (.o .h))) (.int .i64 (.ofNat 0)) <| .seq (.block 0 (.op (.bin .eql .ptr
  v1 .nilp) fun v6 => .seq (.cond v6 (.setv (.i (.o (.o .h))) (.int .i64 (.ofNat 6)) <| .ret) (.op (.len false v4) fun v7 => .op (.bin .neq .no v7 (.int .i64 (.ofNat 32))) fun v8
  => .seq (.cond v8 (.setv (.i (.o (.o .h))) (.int .i64 (.ofNat 4)) <| .ret) (.fall)) <| .fall)) <| .fall)) <| .op (.faddr 2 v5) fun v9 => .op (.load false 1 v9) fun v10 => .op
  (.s2b 5 v3) fun v11 => .op (.bslice 43 1 1 [.nils] [(0,v11)]) fun v12 => .callf (.i (.o (.o (.o (.i (.i .h)))))) [v1,v10,v12] fun v13 => .callf (.o (.o (.i (.i (.o (.o (.i
  .h))))))) [v1,v4,v13] fun v14 => .op (.ext v14 0) fun v15 => .op (.ext v14 1) fun v16 => .seq (.block 1 (.op (.bin .neq .no v16 (.int .i64 (.ofNat 0))) fun v17 => .seq (.cond v17
  (.setv (.i (.o (.o .h))) v16 <| .ret) (.op (.bslice 43 1 1 [.nils] [(0,v15)]) fun v18 => .op (.faddr 2 v5) fun v19 => .op (.load false 1 v19) fun v20 => .callf (.i (.i (.o (.o
  (.i (.i .h)))))) [v1,v18] fun v21 => .chk false 1 v19 v20 <| .callf (.o (.i (.i (.o (.i (.o (.o .h))))))) [v21,v20] fun v22 => .op (.un .not v22) fun v23 => .seq (.cond v23
  (.setv (.i (.o (.o .h))) (.int .i64 (.ofNat 13)) <| .ret) (.fall)) <| .fall)) <| .fall)) <| .setv (.i (.o (.o .h))) (.int .i64 (.ofNat 0)) <| .ret) [.tmp (.i (.o (.o .h)))]
theorem F182_ok : toFn Tryz.prog 182 [8] = some F182 := by kernel_rfl
def F183 : FnE := .body (.arg 0 fun v1 => .op (.box 197 v1) fun v2 => .setv (.i .h) (.str 0 []) <| .setv (.o (.o .h)) (.str 0 []) <| .op (.faddr 1 v2) fun v3 => .op (.load false 1 v3) fun v4 => .op (.bin
  .neq .no v4 (.str 0 [])) fun v5 => .seq (.cond v5 (.op (.faddr 1 v2) fun v6 => .op (.load false 1 v6) fun v7 => .callf (.o (.o (.o (.i (.o (.o (.o (.o .h)))))))) [v7] fun v8 =>
  .op (.bin .add .no (.str 2 [97,61]) v8) fun v9 => .setv (.o (.o .h)) v9 <| .fall) (.fall)) <| .op (.faddr 0 v2) fun v10 => .op (.load false 1 v10) fun v11 => .op (.bin .add .no
  v11 (.str 1 [44])) fun v12 => .getv (.o (.o .h)) fun v13 => .op (.bin .add .no v12 v13) fun v14 => .op (.bin .add .no v14 (.str 1 [44])) fun v15 => .setv (.i .h) v15 <| .ret) [.tmp (.i .h)]
theorem F183_ok : toFn Tryz.prog 183 [2,3] = some F183 := by kernel_rfl
def F184 : FnE := .body (.arg 0 fun v1 => .arg 1 fun v2 => .arg 2 fun v3 => .arg 3 fun v4 => .setv (.i (.o (.o .h))) (.bool false) <| .callf (.o (.i (.i (.o (.o (.o .h)))))) [v1,v2,v3] fun v5 => .op (.bin
  .neq .ptr v5 .nilp) fun v6 => .gop v6 true (.mv v5) fun v7 => .gop v6 true (.nilck v7) fun v8 => .gop v6 true (.faddr 9 v8) fun v9 => .gop v6 true (.load false 1 v9) fun v10 =>
  .gop v6 true (.un .not v10) fun v11 => .op (.pick v6 v11 (.bool false)) fun v12 => .gop v12 true (.mv v5) fun v13 => .gop v12 true (.nilck v13) fun v14 => .gop v12 true (.faddr 7
  v14) fun v15 => .gop v12 true (.load false 1 v15) fun v16 => .gop v12 true (.mv v4) fun v17 => .gop v12 true (.bin .eql .no v16 v17) fun v18 => .op (.pick v12 v18 (.bool false))
  fun v19 => .setv (.i (.o (.o .h))) v19 <| .ret) [.tmp (.i (.o (.o .h)))]
theorem F184_ok : toFn Tryz.prog 184 [8] = some F184 := by kernel_rfl
def F185 : FnE := .body (.arg 0 fun v1 => .op (.box 207 v1) fun v2 => .setv (.i .h) (.str 0 []) <| .setv (.o (.o .h)) (.int .i64 (.ofNat 0)) <| .op (.faddr 0 v2) fun v3 => .op (.load false 1 v3) fun v4 =>
  .callf (.o (.i (.i (.o (.i (.i (.o .h))))))) [v4] fun v5 => .op (.ext v5 0) fun v6 => .op (.ext v5 1) fun v7 => .gop v6 true (.mv v7) fun v8 => .gop v6 true (.un .not v8) fun v9
  => .op (.pick v6 v9 (.bool false)) fun v10 => .gop v10 true (.faddr 1 v2) fun v11 => .gop v10 true (.load false 1 v11) fun v12 => .gcallf v10 true (.i (.i (.i (.i (.o (.i (.o
  .h))))))) [v12] fun v13 => .op (.pick v10 v13 (.bool false)) fun v14 => .gop v14 true (.faddr 2 v2) fun v15 => .gop v14 true (.load false 1 v15) fun v16 => .gcallf v14 true (.o
  (.o (.o (.o (.i (.i (.o .h))))))) [v16,(.str 1 [112])] fun v17 => .op (.pick v14 v17 (.bool false)) fun v18 => .gop v18 true (.faddr 3 v2) fun v19 => .gop v18 true (.load false 1
  v19) fun v20 => .gop v18 true (.len false v20) fun v21 => .gop v18 true (.bin .eql .no v21 (.int .i64 (.ofNat 32))) fun v22 => .op (.pick v18 v22 (.bool false)) fun v23 => .op
  (.load true 4 v2) fun v24 => .op (.faddr 3 v2) fun v25 => .op (.load false 1 v25) fun v26 => .callf (.i (.i (.o (.i (.i (.i (.o .h))))))) [v24] fun v27 => .chk false 1 v25 v26 <|
  .op (.bin .add .no v27 (.str 3 [44,112,61])) fun v28 => .callf (.o (.i (.o (.o (.i (.i (.o .h))))))) [v26] fun v29 => .op (.bin .add .no v28 v29) fun v30 => .callf (.i (.o (.o
  (.o (.i (.i (.o .h))))))) [v30,v23] fun v31 => .op (.ext v31 0) fun v32 => .op (.ext v31 1) fun v33 => .setv (.i .h) v32 <| .setv (.o (.o .h)) v33 <| .ret) [.tmp (.i .h),.tmp (.o (.o .h))]
theorem F185_ok : toFn Tryz.prog 185 [2,3] = some F185 := by kernel_rfl
def F186 : FnE := .body (.arg 0 fun v1 => .op (.box 207 v1) fun v2 => .setv (.i .h) (.str 0 []) <| .op (.faddr 0 v2) fun v3 => .op (.load false 1 v3) fun v4 => .op (.s2b 5 v4) fun v5 => .op (.faddr 1 v2)
  fun v6 => .op (.load false 1 v6) fun v7 => .op (.faddr 2 v2) fun v8 => .op (.load false 1 v8) fun v9 => .callf (.o (.i (.o (.o (.i (.i (.o .h))))))) [v5] fun v10 => .chk false 1
  v6 v7 <| .chk false 1 v8 v9 <| .op (.bin .add .no (.str 2 [99,61]) v10) fun v11 => .op (.bin .add .no v11 (.str 3 [44,114,61])) fun v12 => .op (.bin .add .no v12 v7) fun v13 =>
  .callf (.o (.o (.i (.o (.i (.i (.o .h))))))) [v9] fun v14 => .chk false 1 v6 v7 <| .op (.bin .add .no v13 v14) fun v15 => .setv (.i .h) v15 <| .ret) [.tmp (.i .h)]
theorem F186_ok : toFn Tryz.prog 186 [2] = some F186 := by kernel_rfl
def F187 : FnE := .body (.arg 0 fun v1 => .arg 1 fun v2 => .setv (.i (.o .h)) (.str 0 []) <| .op (.len false v1) fun v3 => .seq (.block 0 (.op (.bin .eql .no v3 (.int .i64 (.ofNat 0))) fun v4 => .seq
  (.cond v4 (.setv (.i (.o .h)) (.str 0 []) <| .ret) (.op (.bin .eql .no v3 (.int .i64 (.ofNat 1))) fun v5 => .seq (.cond v5 (.op (.islc 1 v1 (.int .i64 (.ofNat 0))) fun v6 => .op
  (.load false 1 v6) fun v7 => .setv (.i (.o .h)) v7 <| .ret) (.fall)) <| .fall)) <| .fall)) <| .setv (.o (.i .h)) (.int .i64 (.ofNat 0)) <| .op (.len true v2) fun v8 => .op (.bin
  .gtr .no v8 (.int .i64 (.ofNat 0))) fun v9 => .seq (.cond v9 (.op (.len true v2) fun v10 => .op (.len false v1) fun v11 => .op (.bin .sub .no v11 (.int .i64 (.ofNat 1))) fun v12
  => .op (.bin .quo .no (.int .i64 (.ofNat 9223372036854775807)) v12) fun v13 => .op (.bin .geq .no v10 v13) fun v14 => .seq (.cond v14 (.bad) (.fall)) <| .op (.len true v2) fun
  v15 => .op (.len false v1) fun v16 => .op (.bin .sub .no v16 (.int .i64 (.ofNat 1))) fun v17 => .op (.bin .mul .no v15 v17) fun v18 => .op (.bin .add .no (.int .i64 (.ofNat 0))
  v18) fun v19 => .setv (.o (.i .h)) v19 <| .fall) (.fall)) <| .op (.len false v1) fun v20 => .setv (.o (.i (.o (.i (.o .h))))) (.int .i64 (.ofNat 0)) <| .seq (.block 1 (.seq
  (.loop (.getv (.o (.i (.o (.i (.o .h))))) fun v21 => .op (.bin .lss .no v21 v20) fun v22 => .seq (.cond v22 (.fall) ((.exit 1))) <| .seq (.block 2 (.op (.islc 1 v1 v21) fun v23
  => .op (.load false 1 v23) fun v24 => .op (.len true v24) fun v25 => .getv (.o (.i .h)) fun v26 => .op (.bin .sub .no (.int .i64 (.ofNat 9223372036854775807)) v26) fun v27 => .op
  (.bin .gtr .no v25 v27) fun v28 => .seq (.cond v28 (.bad) (.fall)) <| .op (.len true v24) fun v29 => .op (.bin .add .no v26 v29) fun v30 => .setv (.o (.i .h)) v30 <| .fall)) <|
  .op (.bin .add .no v21 (.int .i64 (.ofNat 1))) fun v31 => .setv (.o (.i (.o (.i (.o .h))))) v31 <| .fall)) <| .fall)) <| .op (.alloc [.nilp,.nils] 347) fun v32 => .getv (.o (.i
  .h)) fun v33 => .callf (.o (.o (.i (.i (.o (.o (.o (.o .h)))))))) [v32,v33] fun _ => .op (.islc 1 v1 (.int .i64 (.ofNat 0))) fun v35 => .op (.load false 1 v35) fun v36 => .callf
  (.o (.o (.i (.o (.o (.i (.i .h))))))) [v32,v36] fun _ => .op (.sslc 1 v1 (some (.int .i64 (.ofNat 1))) none none) fun v38 => .op (.len false v38) fun v39 => .setv (.o (.i (.o (.o
  (.o (.o .h)))))) (.int .i64 (.ofNat 0)) <| .seq (.block 3 (.seq (.loop (.getv (.o (.i (.o (.o (.o (.o .h)))))) fun v40 => .op (.bin .lss .no v40 v39) fun v41 => .seq (.cond v41
  (.fall) ((.exit 3))) <| .seq (.block 4 (.op (.islc 1 v38 v40) fun v42 => .op (.load false 1 v42) fun v43 => .callf (.o (.o (.i (.o (.o (.i (.i .h))))))) [v32,v2] fun _ => .callf
  (.o (.o (.i (.o (.o (.i (.i .h))))))) [v32,v43] fun _ => .fall)) <| .op (.bin .add .no v40 (.int .i64 (.ofNat 1))) fun v46 => .setv (.o (.i (.o (.o (.o (.o .h)))))) v46 <|
  .fall)) <| .fall)) <| .callf (.o (.o (.o (.i (.o (.i (.i .h))))))) [v32] fun v47 => .setv (.i (.o .h)) v47 <| .ret) [.tmp (.i (.o .h))]
theorem F187_ok : toFn Tryz.prog 187 [4,5,41,65] = some F187 := by kernel_rfl
def F188 : FnE := .body (.arg 0 fun v1 => .op (.alloc [(.int .i64 (.ofNat 0)),(.str 0 []),(.str 0 []),(.str 0 []),(.str 0 []),.nils,.nils,(.int .i64 (.ofNat 0)),(.str 0 []),.nils,(.str 0 [])] 216) fun v2
  => .setv (.i .h) v2 <| .setv (.o (.o .h)) (.int .i64 (.ofNat 0)) <| .op (.build [(.int .i64 (.ofNat 0)),(.str 0 []),(.str 0 []),(.str 0 []),(.str 0 []),.nils,.nils,(.int .i64
  (.ofNat 0)),(.str 0 []),.nils,(.str 0 [])] []) fun v3 => .op (.store 11 v2 v3) fun _ => .setv (.o (.o .h)) v1 <| .ret) [.cell (.i .h) true 11,.tmp (.o (.o .h))]
theorem F188_ok : toFn Tryz.prog 188 [2,3] = some F188 := by kernel_rfl
def F189 : FnE := .body (.arg 0 fun v1 => .setv (.i .h) .nils <| .setv (.o (.o .h)) .nils <| .setv (.i (.o .h)) (.int .i64 (.ofNat 0)) <| .setv (.o (.i .h)) (.int .i64 (.ofNat 0)) <| .seq (.block 0 (.seq
  (.loop (.getv (.o (.i .h)) fun v2 => .op (.len true v1) fun v3 => .op (.bin .leq .no v2 v3) fun v4 => .seq (.cond v4 (.fall) ((.exit 0))) <| .seq (.block 1 (.op (.len true v1)
  fun v5 => .op (.bin .eql .no v2 v5) fun v6 => .gop v6 false (.mv v1) fun v7 => .gop v6 false (.mv v2) fun v8 => .gop v6 false (.ixstr v7 v8) fun v9 => .gop v6 false (.bin .eql
  .no v9 (.int .u8 (.ofNat 44))) fun v10 => .op (.pick v6 (.bool true) v10) fun v11 => .seq (.cond v11 (.getv (.o (.o .h)) fun v12 => .getv (.i (.o .h)) fun v13 => .op (.sstr v1
  (some v13) (some v2)) fun v14 => .op (.bslice 9 1 1 [(.str 0 [])] [(0,v14)]) fun v15 => .op (.app 9 1 16 v12 v15) fun v16 => .setv (.o (.o .h)) v16 <| .op (.bin .add .no v2 (.int
  .i64 (.ofNat 1))) fun v17 => .setv (.i (.o .h)) v17 <| .fall) (.fall)) <| .fall)) <| .op (.bin .add .no v2 (.int .i64 (.ofNat 1))) fun v18 => .setv (.o (.i .h)) v18 <| .fall)) <|
  .fall)) <| .getv (.o (.o .h)) fun v19 => .setv (.i .h) v19 <| .ret) [.tmp (.i .h)]
theorem F189_ok : toFn Tryz.prog 189 [2,3,4,5] = some F189 := by kernel_rfl
def F190 : FnE := .body (.arg 0 fun v1 => .arg 1 fun v2 => .setv (.i (.o .h)) (.str 0 []) <| .setv (.o (.i .h)) (.str 0 []) <| .setv (.i (.i .h)) (.bool false) <| .callf (.i (.o (.i (.i (.o (.o (.o (.o
  .h)))))))) [v1] fun v3 => .op (.bin .eql .no v3 (.str 0 [])) fun v4 => .seq (.cond v4 (.setv (.i (.o .h)) (.str 0 []) <| .setv (.o (.i .h)) (.str 0 []) <| .setv (.i (.i .h))
  (.bool false) <| .ret) (.fall)) <| .op (.bin .eql .no v2 (.str 0 [])) fun v5 => .seq (.cond v5 (.setv (.i (.o .h)) v3 <| .setv (.o (.i .h)) (.str 0 []) <| .setv (.i (.i .h))
  (.bool true) <| .ret) (.fall)) <| .callf (.o (.o (.o (.o (.o (.o (.i .h))))))) [v2,(.str 2 [97,61])] fun v6 => .op (.ext v6 0) fun v7 => .op (.ext v6 1) fun v8 => .callf (.o (.i
  (.o (.o (.o (.o (.i .h))))))) [v7] fun v9 => .op (.ext v9 0) fun v10 => .op (.ext v9 1) fun v11 => .gop v8 true (.mv v11) fun v12 => .op (.pick v8 v12 (.bool false)) fun v13 =>
  .setv (.i (.o .h)) v3 <| .setv (.o (.i .h)) v10 <| .setv (.i (.i .h)) v13 <| .ret) [.tmp (.i (.o .h)),.tmp (.o (.i .h)),.tmp (.i (.i .h))]
theorem F190_ok : toFn Tryz.prog 190 [4,5,6] = some F190 := by kernel_rfl
def F191 : FnE := .body (.arg 0 fun v1 => .arg 1 fun v2 => .setv (.i (.o .h)) (.str 0 []) <| .setv (.o (.i .h)) (.bool false) <| .op (.len true v1) fun v3 => .op (.len true v2) fun v4 => .op (.bin .lss .no
  v3 v4) fun v5 => .gop v5 false (.mv v1) fun v6 => .gop v5 false (.mv v2) fun v7 => .gop v5 false (.len true v7) fun v8 => .gop v5 false (.sstr v6 none (some v8)) fun v9 => .gop
  v5 false (.mv v2) fun v10 => .gop v5 false (.bin .neq .no v9 v10) fun v11 => .op (.pick v5 (.bool true) v11) fun v12 => .seq (.cond v12 (.setv (.i (.o .h)) (.str 0 []) <| .setv
  (.o (.i .h)) (.bool false) <| .ret) (.fall)) <| .op (.len true v2) fun v13 => .op (.sstr v1 (some v13) none) fun v14 => .setv (.i (.o .h)) v14 <| .setv (.o (.i .h)) (.bool true)
  <| .ret) [.tmp (.i (.o .h)),.tmp (.o (.i .h))]
theorem F191_ok : toFn Tryz.prog 191 [4,5] = some F191 := by kernel_rfl
def F192 : FnE := .body (.arg 0 fun v1 => .setv (.i .h) (.bool false) <| .callf (.i (.i (.o (.i (.i (.i (.i .h))))))) [v1] fun v2 => .op (.len false v2) fun v3 => .setv (.i (.o (.o .h))) (.int .i64 (.ofNat
  0)) <| .seq (.block 0 (.seq (.loop (.getv (.i (.o (.o .h))) fun v4 => .op (.bin .lss .no v4 v3) fun v5 => .seq (.cond v5 (.fall) ((.exit 0))) <| .seq (.block 1 (.op (.islc 2 v2
  v4) fun v6 => .op (.load true 2 v6) fun v7 => .op (.alloc [(.int .i64 (.ofNat 0)),(.int .i64 (.ofNat 0))] 384) fun v8 => .op (.store 2 v8 v7) fun _ => .op (.faddr 1 v8) fun v10
  => .op (.load false 1 v10) fun v11 => .op (.bin .leq .no v11 (.int .i64 (.ofNat 0))) fun v12 => .gop v12 false (.faddr 1 v8) fun v13 => .gop v12 false (.load false 1 v13) fun v14
  => .gop v12 false (.bin .eql .no v14 (.int .i64 (.ofNat 44))) fun v15 => .op (.pick v12 (.bool true) v15) fun v16 => .seq (.cond v16 (.setv (.i .h) (.bool false) <| .ret)
  (.fall)) <| .fall)) <| .op (.bin .add .no v4 (.int .i64 (.ofNat 1))) fun v17 => .setv (.i (.o (.o .h))) v17 <| .fall)) <| .fall)) <| .op (.len true v1) fun v18 => .op (.bin .gtr
  .no v18 (.int .i64 (.ofNat 0))) fun v19 => .setv (.i .h) v19 <| .ret) [.tmp (.i .h)]
theorem F192_ok : toFn Tryz.prog 192 [2,8] = some F192 := by kernel_rfl
def F193 : FnE := .body (.arg 0 fun v1 => .setv (.i .h) (.str 0 []) <| .setv (.o (.o .h)) (.bool false) <| .callf (.o (.i (.i (.i (.o (.o (.o (.o .h)))))))) [v1] fun v2 => .op (.ext v2 0) fun v3 => .op
  (.ext v2 1) fun v4 => .op (.bin .eql .no v4 (.int .i64 (.ofNat 0))) fun v5 => .gop v5 true (.mv v1) fun v6 => .gcallf v5 true (.i (.o (.o (.o (.o (.o (.i .h))))))) [v6] fun v7 =>
  .op (.pick v5 v7 (.bool false)) fun v8 => .setv (.i .h) v3 <| .setv (.o (.o .h)) v8 <| .ret) [.tmp (.i .h),.tmp (.o (.o .h))]
theorem F193_ok : toFn Tryz.prog 193 [2,3] = some F193 := by kernel_rfl
def F194 : FnE := .body (.arg 0 fun v1 => .setv (.i .h) .nils <| .setv (.o (.o .h)) (.bool false) <| .setv (.i (.o .h)) (.bool false) <| .setv (.o (.i .h)) .nils <| .setv (.i (.i .h)) (.bool false) <| .op
  (.len false v1) fun v2 => .setv (.o (.o (.i .h))) (.int .i64 (.ofNat 0)) <| .seq (.block 0 (.seq (.loop (.getv (.o (.o (.i .h))) fun v3 => .op (.bin .lss .no v3 v2) fun v4 =>
  .seq (.cond v4 (.fall) ((.exit 0))) <| .seq (.block 1 (.op (.islc 1 v1 v3) fun v5 => .op (.load false 1 v5) fun v6 => .op (.len true v6) fun v7 => .op (.bin .lss .no v7 (.int
  .i64 (.ofNat 2))) fun v8 => .gop v8 false (.mv v6) fun v9 => .gop v8 false (.ixstr v9 (.int .i64 (.ofNat 1))) fun v10 => .gop v8 false (.bin .neq .no v10 (.int .u8 (.ofNat 61)))
  fun v11 => .op (.pick v8 (.bool true) v11) fun v12 => .gop v12 false (.mv v6) fun v13 => .gop v12 false (.ixstr v13 (.int .i64 (.ofNat 0))) fun v14 => .gcallf v12 false (.i (.i
  (.i (.i (.o (.o (.o (.o .h)))))))) [v14] fun v15 => .gop v12 false (.un .not v15) fun v16 => .op (.pick v12 (.bool true) v16) fun v17 => .gop v17 false (.mv v6) fun v18 => .gop
  v17 false (.sstr v18 (some (.int .i64 (.ofNat 2))) none) fun v19 => .gcallf v17 false (.i (.o (.o (.o (.o (.o (.i .h))))))) [v19] fun v20 => .gop v17 false (.un .not v20) fun v21
  => .op (.pick v17 (.bool true) v21) fun v22 => .seq (.cond v22 (.setv (.i .h) .nils <| .setv (.o (.o .h)) (.bool false) <| .setv (.i (.o .h)) (.bool false) <| .ret) (.fall)) <|
  .getv (.i (.i .h)) fun v23 => .gop v23 false (.mv v6) fun v24 => .gop v23 false (.ixstr v24 (.int .i64 (.ofNat 0))) fun v25 => .gop v23 false (.bin .eql .no v25 (.int .u8 (.ofNat
  109))) fun v26 => .op (.pick v23 (.bool true) v26) fun v27 => .setv (.i (.i .h)) v27 <| .getv (.o (.i .h)) fun v28 => .op (.sstr v6 none (some (.int .i64 (.ofNat 1)))) fun v29 =>
  .op (.sstr v6 (some (.int .i64 (.ofNat 2))) none) fun v30 => .op (.build [(.str 0 []),(.str 0 [])] [(0,1,v29),(1,1,v30)]) fun v31 => .op (.bslice 305 2 1 [(.str 0 []),(.str 0
  [])] [(0,v31)]) fun v32 => .op (.app 305 2 32 v28 v32) fun v33 => .setv (.o (.i .h)) v33 <| .fall)) <| .op (.bin .add .no v3 (.int .i64 (.ofNat 1))) fun v34 => .setv (.o (.o (.i
  .h))) v34 <| .fall)) <| .fall)) <| .getv (.o (.i .h)) fun v35 => .getv (.i (.i .h)) fun v36 => .setv (.i .h) v35 <| .setv (.o (.o .h)) (.bool true) <| .setv (.i (.o .h)) v36 <|
  .ret) [.tmp (.i .h),.tmp (.o (.o .h)),.tmp (.i (.o .h))]
theorem F194_ok : toFn Tryz.prog 194 [2,3,4,5,6,11] = some F194 := by kernel_rfl
def F195 : FnE := .body (.arg 0 fun v1 => .arg 1 fun v2 => .op (.box 216 v1) fun v3 => .op (.alloc [(.int .i64 (.ofNat 0)),(.str 0 []),(.str 0 []),(.str 0 []),(.str 0 []),.nils,.nils,(.int .i64 (.ofNat
  0)),(.str 0 []),.nils,(.str 0 [])] 216) fun v4 => .setv (.i (.o .h)) v4 <| .setv (.o (.i .h)) (.int .i64 (.ofNat 0)) <| .seq (.cond v2 (.callf (.i (.o (.i (.i (.i (.i (.o
  .h))))))) [(.int .i64 (.ofNat 12))] fun v5 => .op (.ext v5 0) fun v6 => .op (.ext v5 1) fun v7 => .op (.store 11 v4 v6) fun _ => .setv (.o (.i .h)) v7 <| .ret) (.fall)) <| .op
  (.load true 11 v3) fun v9 => .op (.store 11 v4 v9) fun _ => .setv (.o (.i .h)) (.int .i64 (.ofNat 0)) <| .ret) [.cell (.i (.o .h)) true 11,.tmp (.o (.i .h))]
theorem F195_ok : toFn Tryz.prog 195 [4,5] = some F195 := by kernel_rfl
def F196 : FnE := .body (.arg 0 fun v1 => .arg 1 fun v2 => .arg 2 fun v3 => .setv (.i (.i .h)) .nils <| .setv (.o (.o (.o .h))) (.bool false) <| .callf (.o (.o (.o (.o (.i (.o (.o (.o .h)))))))) [v1,(.bool
  false)] fun v4 => .op (.ext v4 0) fun v5 => .op (.ext v4 1) fun v6 => .op (.bin .eql .no v6 (.int .i64 (.ofNat 0))) fun v7 => .gop v7 true (.mv v5) fun v8 => .gop v7 true (.len
  false v8) fun v9 => .gop v7 true (.mv v2) fun v10 => .gop v7 true (.bin .geq .no v9 v10) fun v11 => .op (.pick v7 v11 (.bool false)) fun v12 => .gop v12 true (.mv v5) fun v13 =>
  .gop v12 true (.len false v13) fun v14 => .gop v12 true (.mv v3) fun v15 => .gop v12 true (.bin .leq .no v14 v15) fun v16 => .op (.pick v12 v16 (.bool false)) fun v17 => .setv
  (.i (.i .h)) v5 <| .setv (.o (.o (.o .h))) v17 <| .ret) [.tmp (.i (.i .h)),.tmp (.o (.o (.o .h)))]
theorem F196_ok : toFn Tryz.prog 196 [6,7] = some F196 := by kernel_rfl
def F197 : FnE := .body (.arg 0 fun v1 => .setv (.i .h) (.int .i64 (.ofNat 0)) <| .setv (.o (.o .h)) (.int .i64 (.ofNat 0)) <| .setv (.i (.o .h)) (.int .i64 (.ofNat 0)) <| .seq (.block 0 (.seq (.loop
  (.getv (.i (.o .h)) fun v2 => .op (.len true v1) fun v3 => .op (.bin .lss .no v2 v3) fun v4 => .seq (.cond v4 (.fall) ((.exit 0))) <| .seq (.block 1 (.op (.ixstr v1 v2) fun v5 =>
  .op (.bin .lss .no v5 (.int .u8 (.ofNat 48))) fun v6 => .gop v6 false (.mv v1) fun v7 => .gop v6 false (.mv v2) fun v8 => .gop v6 false (.ixstr v7 v8) fun v9 => .gop v6 false
  (.bin .gtr .no v9 (.int .u8 (.ofNat 57))) fun v10 => .op (.pick v6 (.bool true) v10) fun v11 => .gop v11 false (.mv v2) fun v12 => .gop v11 false (.bin .eql .no v12 (.int .i64
  (.ofNat 0))) fun v13 => .gop v11 false (.mv v13) fun v14 => .gop v14 true (.mv v1) fun v15 => .gop v14 true (.mv v2) fun v16 => .gop v14 true (.ixstr v15 v16) fun v17 => .gop v14
  true (.bin .eql .no v17 (.int .u8 (.ofNat 48))) fun v18 => .gop v11 false (.pick v14 v18 (.bool false)) fun v19 => .op (.pick v11 (.bool true) v19) fun v20 => .gop v20 false (.mv
  v2) fun v21 => .gop v20 false (.bin .gtr .no v21 (.int .i64 (.ofNat 3))) fun v22 => .op (.pick v20 (.bool true) v22) fun v23 => .seq (.cond v23 (.setv (.i .h) (.int .i64 (.ofNat
  0)) <| .ret) (.fall)) <| .getv (.o (.o .h)) fun v24 => .op (.bin .mul .no (.int .i64 (.ofNat 10)) v24) fun v25 => .op (.ixstr v1 v2) fun v26 => .op (.bin .sub .no v26 (.int .u8
  (.ofNat 48))) fun v27 => .op (.conv .i64 v27) fun v28 => .op (.bin .add .no v25 v28) fun v29 => .setv (.o (.o .h)) v29 <| .fall)) <| .op (.bin .add .no v2 (.int .i64 (.ofNat 1)))
  fun v30 => .setv (.i (.o .h)) v30 <| .fall)) <| .fall)) <| .getv (.o (.o .h)) fun v31 => .op (.bin .gtr .no v31 (.int .i64 (.ofNat 64))) fun v32 => .seq (.cond v32 (.setv (.i .h)
  (.int .i64 (.ofNat 0)) <| .ret) (.fall)) <| .setv (.i .h) v31 <| .ret) [.tmp (.i .h)]
theorem F197_ok : toFn Tryz.prog 197 [2,3,4] = some F197 := by kernel_rfl
def F198 : FnE := .body (.arg 0 fun v1 => .setv (.i .h) (.str 0 []) <| .setv (.o (.o .h)) (.str 0 []) <| .setv (.i (.o .h)) (.int .i64 (.ofNat 0)) <| .seq (.block 0 (.seq (.loop (.getv (.i (.o .h)) fun v2
  => .op (.len true v1) fun v3 => .op (.bin .lss .no v2 v3) fun v4 => .seq (.cond v4 (.fall) ((.exit 0))) <| .seq (.block 1 (.op (.ixstr v1 v2) fun v5 => .seq (.block 2 (.op (.bin
  .eql .no v5 (.int .u8 (.ofNat 44))) fun v6 => .seq (.cond v6 (.getv (.o (.o .h)) fun v7 => .op (.bin .add .no v7 (.str 3 [61,50,67])) fun v8 => .setv (.o (.o .h)) v8 <| .fall)
  (.op (.bin .eql .no v5 (.int .u8 (.ofNat 61))) fun v9 => .seq (.cond v9 (.getv (.o (.o .h)) fun v10 => .op (.bin .add .no v10 (.str 3 [61,51,68])) fun v11 => .setv (.o (.o .h))
  v11 <| .fall) (.getv (.o (.o .h)) fun v12 => .op (.bin .add .no v2 (.int .i64 (.ofNat 1))) fun v13 => .op (.sstr v1 (some v2) (some v13)) fun v14 => .op (.bin .add .no v12 v14)
  fun v15 => .setv (.o (.o .h)) v15 <| .fall)) <| .fall)) <| .fall)) <| .fall)) <| .op (.bin .add .no v2 (.int .i64 (.ofNat 1))) fun v16 => .setv (.i (.o .h)) v16 <| .fall)) <|
  .fall)) <| .getv (.o (.o .h)) fun v17 => .setv (.i .h) v17 <| .ret) [.tmp (.i .h)]
theorem F198_ok : toFn Tryz.prog 198 [2,3,4] = some F198 := by kernel_rfl
def F199 : FnE := .body (.arg 0 fun v1 => .setv (.i .h) (.str 0 []) <| .setv (.o (.o .h)) (.str 0 []) <| .op (.len false v1) fun v2 => .setv (.i (.o (.o .h))) (.int .i64 (.ofNat 0)) <| .seq (.block 0 (.seq
  (.loop (.getv (.i (.o (.o .h))) fun v3 => .op (.bin .lss .no v3 v2) fun v4 => .seq (.cond v4 (.fall) ((.exit 0))) <| .seq (.block 1 (.op (.islc 2 v1 v3) fun v5 => .op (.load true
  2 v5) fun v6 => .op (.alloc [(.str 0 []),(.str 0 [])] 305) fun v7 => .op (.store 2 v7 v6) fun _ => .getv (.o (.o .h)) fun v9 => .op (.faddr 0 v7) fun v10 => .op (.load false 1
  v10) fun v11 => .op (.bin .add .no (.str 1 [44]) v11) fun v12 => .op (.bin .add .no v12 (.str 1 [61])) fun v13 => .op (.faddr 1 v7) fun v14 => .op (.load false 1 v14) fun v15 =>
  .op (.bin .add .no v13 v15) fun v16 => .op (.bin .add .no v9 v16) fun v17 => .setv (.o (.o .h)) v17 <| .fall)) <| .op (.bin .add .no v3 (.int .i64 (.ofNat 1))) fun v18 => .setv
  (.i (.o (.o .h))) v18 <| .fall)) <| .fall)) <| .getv (.o (.o .h)) fun v19 => .setv (.i .h) v19 <| .ret) [.tmp (.i .h)]
theorem F199_ok : toFn Tryz.prog 199 [2,3,8] = some F199 := by kernel_rfl
def F200 : FnE := .body (.arg 0 fun v1 => .arg 1 fun v2 => .setv (.i (.o .h)) (.str 0 []) <| .setv (.o (.i .h)) .nils <| .op (.len false v1) fun v3 => .op (.bin .mul .no (.int .i64 (.ofNat 8)) v3) fun v4
  => .setv (.o (.o (.o .h))) (.int .i64 (.ofNat 0)) <| .seq (.block 0 (.seq (.loop (.getv (.o (.o (.o .h))) fun v5 => .op (.bin .lss .no v5 v4) fun v6 => .seq (.cond v6 (.fall)
  ((.exit 0))) <| .seq (.block 1 (.setv (.i (.o (.o .h))) (.int .i64 (.ofNat 0)) <| .setv (.o (.i (.o .h))) v5 <| .seq (.block 2 (.seq (.loop (.getv (.o (.i (.o .h))) fun v7 => .op
  (.bin .add .no v5 (.int .i64 (.ofNat 6))) fun v8 => .op (.bin .lss .no v7 v8) fun v9 => .seq (.cond v9 (.fall) ((.exit 2))) <| .seq (.block 3 (.getv (.i (.o (.o .h))) fun v10 =>
  .op (.bin .mul .no v10 (.int .i64 (.ofNat 2))) fun v11 => .setv (.i (.o (.o .h))) v11 <| .op (.bin .lss .no v7 v4) fun v12 => .gop v12 true (.mv v1) fun v13 => .gop v12 true (.mv
  v7) fun v14 => .gop v12 true (.bin .quo .no v14 (.int .i64 (.ofNat 8))) fun v15 => .gop v12 true (.islc 1 v13 v15) fun v16 => .gop v12 true (.load false 1 v16) fun v17 => .gop
  v12 true (.mv v7) fun v18 => .gop v12 true (.bin .rem .no v18 (.int .i64 (.ofNat 8))) fun v19 => .gop v12 true (.bin .sub .no (.int .i64 (.ofNat 7)) v19) fun v20 => .gop v12 true
  (.bin .shr .no v17 v20) fun v21 => .gop v12 true (.bin .and .no v21 (.int .u8 (.ofNat 1))) fun v22 => .gop v12 true (.bin .eql .no v22 (.int .u8 (.ofNat 1))) fun v23 => .op
  (.pick v12 v23 (.bool false)) fun v24 => .seq (.cond v24 (.op (.bin .add .no v11 (.int .i64 (.ofNat 1))) fun v25 => .setv (.i (.o (.o .h))) v25 <| .fall) (.fall)) <| .fall)) <|
  .op (.bin .add .no v7 (.int .i64 (.ofNat 1))) fun v26 => .setv (.o (.i (.o .h))) v26 <| .fall)) <| .fall)) <| .getv (.o (.i .h)) fun v27 => .getv (.i (.o (.o .h))) fun v28 =>
  .callf (.i (.o (.o (.o (.i (.o (.o (.o .h)))))))) [v28,v2] fun v29 => .op (.bslice 5 1 1 [(.int .u8 (.ofNat 0))] [(0,v29)]) fun v30 => .op (.app 5 1 1 v27 v30) fun v31 => .setv
  (.o (.i .h)) v31 <| .fall)) <| .op (.bin .add .no v5 (.int .i64 (.ofNat 6))) fun v32 => .setv (.o (.o (.o .h))) v32 <| .fall)) <| .fall)) <| .seq (.block 4 (.seq (.loop (.op (.un
  .not v2) fun v33 => .getv (.o (.i .h)) fun v34 => .gop v33 true (.mv v34) fun v35 => .gop v33 true (.len false v35) fun v36 => .gop v33 true (.bin .rem .no v36 (.int .i64 (.ofNat
  4))) fun v37 => .gop v33 true (.bin .neq .no v37 (.int .i64 (.ofNat 0))) fun v38 => .op (.pick v33 v38 (.bool false)) fun v39 => .seq (.cond v39 (.fall) ((.exit 4))) <| .seq
  (.block 5 (.op (.bslice 5 1 1 [(.int .u8 (.ofNat 0))] [(0,(.int .u8 (.ofNat 61)))]) fun v40 => .op (.app 5 1 1 v34 v40) fun v41 => .setv (.o (.i .h)) v41 <| .fall)) <| .fall)) <|
  .fall)) <| .getv (.o (.i .h)) fun v42 => .op (.b2s v42) fun v43 => .setv (.i (.o .h)) v43 <| .ret) [.tmp (.i (.o .h))]
theorem F200_ok : toFn Tryz.prog 200 [4,5,7,8,9] = some F200 := by kernel_rfl
def F201 : FnE := .body (.arg 0 fun v1 => .arg 1 fun v2 => .arg 2 fun v3 => .setv (.i (.i .h)) .nils <| .callf (.o (.i (.o (.o (.i (.o (.o (.o .h)))))))) [v1,v2] fun v4 => .op (.ext v4 0) fun v5 => .op
  (.ext v4 1) fun v6 => .op (.ext v4 2) fun v7 => .callf (.o (.i (.o (.o (.i (.o (.o (.o .h)))))))) [v1,v3] fun v8 => .op (.ext v8 0) fun v9 => .op (.ext v8 1) fun v10 => .op (.ext
  v8 2) fun v11 => .op (.un .not v7) fun v12 => .gop v12 false (.mv v11) fun v13 => .gop v12 false (.un .not v13) fun v14 => .op (.pick v12 (.bool true) v14) fun v15 => .seq (.cond
  v15 (.setv (.i (.i .h)) .nils <| .ret) (.fall)) <| .setv (.o (.i (.i .h))) .nils <| .setv (.i (.i (.i .h))) (.int .i64 (.ofNat 1)) <| .seq (.block 0 (.seq (.loop (.getv (.i (.i
  (.i .h))) fun v16 => .op (.nilck v1) fun v17 => .op (.faddr 1 v17) fun v18 => .op (.load false 1 v18) fun v19 => .op (.len false v19) fun v20 => .op (.bin .leq .no v16 v20) fun
  v21 => .seq (.cond v21 (.fall) ((.exit 0))) <| .seq (.block 1 (.callf (.i (.i (.o (.o (.i (.o (.o (.o .h)))))))) [v5,v16] fun v22 => .callf (.i (.i (.o (.o (.i (.o (.o (.o
  .h)))))))) [v9,v16] fun v23 => .op (.bin .neq .basic v22 v23) fun v24 => .seq (.cond v24 (.getv (.o (.i (.i .h))) fun v25 => .op (.bslice 3 1 1 [(.int .i64 (.ofNat 0))]
  [(0,v16)]) fun v26 => .op (.app 3 1 8 v25 v26) fun v27 => .setv (.o (.i (.i .h))) v27 <| .fall) (.fall)) <| .fall)) <| .op (.bin .add .no v16 (.int .i64 (.ofNat 1))) fun v28 =>
  .setv (.i (.i (.i .h))) v28 <| .fall)) <| .fall)) <| .callf (.o (.o (.i (.o (.i (.o (.o (.o .h)))))))) [v6,v10] fun v29 => .callf (.i (.o (.i (.o (.i (.o (.o (.o .h)))))))) [v29]
  fun v30 => .op (.ext v30 0) fun _ => .op (.ext v30 1) fun v32 => .getv (.o (.i (.i .h))) fun v33 => .op (.len false v33) fun v34 => .op (.bin .eql .no v34 (.int .i64 (.ofNat 0)))
  fun v35 => .gop v35 true (.mv v1) fun v36 => .gop v35 true (.nilck v36) fun v37 => .gop v35 true (.faddr 0 v37) fun v38 => .gop v35 true (.load false 1 v38) fun v39 => .gop v35
  true (.mv v39) fun v40 => .gop v40 true (.mv v32) fun v41 => .gop v35 true (.pick v40 v41 (.bool false)) fun v42 => .gop v35 true (.un .not v42) fun v43 => .op (.pick v35 v43
  (.bool false)) fun v44 => .seq (.cond v44 (.setv (.i (.i .h)) v29 <| .ret) (.fall)) <| .op (.len false v33) fun v45 => .op (.bin .eql .no v45 (.int .i64 (.ofNat 1))) fun v46 =>
  .gop v46 true (.mv v29) fun v47 => .gop v46 true (.mkslice 5 1 1 [(.int .u8 (.ofNat 0))] (.int .i64 (.ofNat 32)) (.int .i64 (.ofNat 32))) fun v48 => .gcallf v46 true (.o (.o (.o
  (.o (.i (.o .h)))))) [v47,v48] fun v49 => .op (.pick v46 v49 (.bool false)) fun v50 => .seq (.cond v50 (.op (.islc 1 v33 (.int .i64 (.ofNat 0))) fun v51 => .op (.load false 1
  v51) fun v52 => .callf (.o (.i (.i (.o (.i (.o (.o (.o .h)))))))) [v52] fun v53 => .setv (.i (.i .h)) v53 <| .ret) (.fall)) <| .op (.build [(.int .i64 (.ofNat
  0)),.nils,.nils,(.int .i64 (.ofNat 0)),.nils,.nils] [(0,1,(.int .i64 (.ofNat 4))),(4,1,v33),(5,1,v29)]) fun v54 => .callf (.i (.o (.o (.i (.i (.o (.i .h))))))) [v1,v54] fun v55
  => .setv (.i (.i .h)) v55 <| .ret) [.tmp (.i (.i .h))]
theorem F201_ok : toFn Tryz.prog 201 [6,13,14] = some F201 := by kernel_rfl
def F202 : FnE := .body (.arg 0 fun v1 => .arg 1 fun v2 => .arg 2 fun v3 => .arg 3 fun v4 => .op (.alloc [.nils,.nils,.nils] 318) fun v5 => .setv (.i (.o (.o .h))) v5 <| .setv (.o (.i (.o .h))) (.int .i64
  (.ofNat 0)) <| .op (.bin .eql .ptr v1 .nilp) fun v6 => .seq (.cond v6 (.op (.build [.nils,.nils,.nils] []) fun v7 => .op (.store 3 v5 v7) fun _ => .setv (.o (.i (.o .h))) (.int
  .i64 (.ofNat 6)) <| .ret) (.fall)) <| .callf (.o (.i (.i (.i (.o (.i .h)))))) [v2] fun v9 => .op (.ext v9 0) fun v10 => .op (.ext v9 1) fun v11 => .seq (.block 0 (.op (.bin .neq
  .no v11 (.int .i64 (.ofNat 0))) fun v12 => .seq (.cond v12 (.op (.build [.nils,.nils,.nils] []) fun v13 => .op (.store 3 v5 v13) fun _ => .setv (.o (.i (.o .h))) v11 <| .ret)
  (.op (.len false v3) fun v15 => .op (.bin .lss .no v15 (.int .i64 (.ofNat 1))) fun v16 => .gop v16 false (.mv v3) fun v17 => .gop v16 false (.len false v17) fun v18 => .gop v16
  false (.bin .gtr .no v18 (.int .i64 (.ofNat 32))) fun v19 => .op (.pick v16 (.bool true) v19) fun v20 => .seq (.cond v20 (.op (.build [.nils,.nils,.nils] []) fun v21 => .op
  (.store 3 v5 v21) fun _ => .setv (.o (.i (.o .h))) (.int .i64 (.ofNat 1)) <| .ret) (.fall)) <| .fall)) <| .fall)) <| .op (.s2b 5 v10) fun v23 => .callf (.o (.o (.o (.o (.i (.i
  .h)))))) [v1,v23,v3,v4] fun v24 => .op (.ext v24 0) fun v25 => .op (.ext v24 1) fun v26 => .op (.bin .neq .no v26 (.int .i64 (.ofNat 0))) fun v27 => .seq (.cond v27 (.op (.build
  [.nils,.nils,.nils] []) fun v28 => .op (.store 3 v5 v28) fun _ => .setv (.o (.i (.o .h))) v26 <| .ret) (.fall)) <| .op (.bslice 5 1 10 [(.int .u8 (.ofNat 0))] [(0,(.int .u8
  (.ofNat 67))),(1,(.int .u8 (.ofNat 108))),(2,(.int .u8 (.ofNat 105))),(3,(.int .u8 (.ofNat 101))),(4,(.int .u8 (.ofNat 110))),(5,(.int .u8 (.ofNat 116))),(6,(.int .u8 (.ofNat
  32))),(7,(.int .u8 (.ofNat 75))),(8,(.int .u8 (.ofNat 101))),(9,(.int .u8 (.ofNat 121)))]) fun v30 => .op (.s2s v30) fun v31 => .op (.bslice 43 1 1 [.nils] [(0,v31)]) fun v32 =>
  .callf (.i (.o (.o (.o (.i (.i .h)))))) [v1,v25,v32] fun v33 => .op (.bslice 43 1 1 [.nils] [(0,v33)]) fun v34 => .callf (.i (.i (.o (.o (.i (.i .h)))))) [v1,v34] fun v35 => .op
  (.bslice 5 1 10 [(.int .u8 (.ofNat 0))] [(0,(.int .u8 (.ofNat 83))),(1,(.int .u8 (.ofNat 101))),(2,(.int .u8 (.ofNat 114))),(3,(.int .u8 (.ofNat 118))),(4,(.int .u8 (.ofNat
  101))),(5,(.int .u8 (.ofNat 114))),(6,(.int .u8 (.ofNat 32))),(7,(.int .u8 (.ofNat 75))),(8,(.int .u8 (.ofNat 101))),(9,(.int .u8 (.ofNat 121)))]) fun v36 => .op (.s2s v36) fun
  v37 => .op (.bslice 43 1 1 [.nils] [(0,v37)]) fun v38 => .callf (.i (.o (.o (.o (.i (.i .h)))))) [v1,v25,v38] fun v39 => .op (.build [.nils,.nils,.nils]
  [(0,1,v33),(1,1,v35),(2,1,v39)]) fun v40 => .op (.store 3 v5 v40) fun _ => .setv (.o (.i (.o .h))) (.int .i64 (.ofNat 0)) <| .ret) [.cell (.i (.o (.o .h))) true 3,.tmp (.o (.i (.o .h)))]
theorem F202_ok : toFn Tryz.prog 202 [8,9] = some F202 := by kernel_rfl
def F203 : FnE := .body (.arg 0 fun v1 => .arg 1 fun v2 => .arg 2 fun v3 => .setv (.i (.i .h)) .nils <| .setv (.o (.o (.o .h))) (.int .i64 (.ofNat 0)) <| .op (.bin .eql .ptr v1 .nilp) fun v4 => .seq (.cond
  v4 (.setv (.i (.i .h)) .nils <| .setv (.o (.o (.o .h))) (.int .i64 (.ofNat 6)) <| .ret) (.fall)) <| .callf (.i (.i (.i (.o (.i (.o (.o (.o .h)))))))) [v1,v2] fun v5 => .op (.ext
  v5 0) fun v6 => .op (.ext v5 1) fun v7 => .op (.alloc [.nils,.nils] 404) fun v8 => .op (.store 2 v8 v6) fun _ => .callf (.i (.i (.i (.o (.i (.o (.o (.o .h)))))))) [v1,v3] fun v10
  => .op (.ext v10 0) fun v11 => .op (.ext v10 1) fun v12 => .op (.alloc [.nils,.nils] 404) fun v13 => .op (.store 2 v13 v11) fun _ => .op (.un .not v7) fun v15 => .gop v15 false
  (.mv v12) fun v16 => .gop v15 false (.un .not v16) fun v17 => .op (.pick v15 (.bool true) v17) fun v18 => .seq (.cond v18 (.setv (.i (.i .h)) .nils <| .setv (.o (.o (.o .h)))
  (.int .i64 (.ofNat 4)) <| .ret) (.fall)) <| .op (.load true 2 v8) fun v19 => .op (.load true 2 v13) fun v20 => .callf (.o (.o (.o (.i (.i (.o (.o (.o .h)))))))) [v19,v20] fun v21
  => .op (.alloc [.nils,.nils] 404) fun v22 => .op (.store 2 v22 v21) fun _ => .op (.faddr 1 v22) fun v24 => .op (.load false 1 v24) fun v25 => .op (.mkslice 5 1 1 [(.int .u8
  (.ofNat 0))] (.int .i64 (.ofNat 32)) (.int .i64 (.ofNat 32))) fun v26 => .callf (.i (.o (.o (.i (.i (.o (.o (.o .h)))))))) [v25,v26] fun v27 => .seq (.block 0 (.op (.faddr 0 v22)
  fun v28 => .op (.load false 1 v28) fun v29 => .op (.len false v29) fun v30 => .op (.bin .eql .no v30 (.int .i64 (.ofNat 0))) fun v31 => .gop v31 true (.mv v1) fun v32 => .gop v31
  true (.nilck v32) fun v33 => .gop v31 true (.faddr 0 v33) fun v34 => .gop v31 true (.load false 1 v34) fun v35 => .gop v31 true (.un .not v35) fun v36 => .gop v31 true (.mv v36)
  fun v37 => .gop v37 false (.faddr 1 v22) fun v38 => .gop v37 false (.load false 1 v38) fun v39 => .gop v37 false (.sslc 1 v39 none (some (.int .i64 (.ofNat 28))) none) fun v40 =>
  .gcallf v37 false (.o (.i (.o (.i (.i (.o (.o (.o .h)))))))) [] fun v41 => .gchk v37 false false 1 v38 v39 <| .gcallf v37 false (.i (.o (.o (.i (.i (.o (.o (.o .h))))))))
  [v40,v41] fun v42 => .gop v37 false (.un .not v42) fun v43 => .gop v31 true (.pick v37 (.bool true) v43) fun v44 => .op (.pick v31 v44 (.bool false)) fun v45 => .seq (.cond v45
  (.op (.faddr 1 v22) fun v46 => .op (.load false 1 v46) fun v47 => .setv (.i (.i .h)) v47 <| .setv (.o (.o (.o .h))) (.int .i64 (.ofNat 0)) <| .ret) (.op (.faddr 0 v22) fun v48 =>
  .op (.load false 1 v48) fun v49 => .op (.len false v49) fun v50 => .op (.bin .eql .no v50 (.int .i64 (.ofNat 1))) fun v51 => .gop v51 true (.mv v27) fun v52 => .op (.pick v51 v52
  (.bool false)) fun v53 => .seq (.cond v53 (.op (.faddr 0 v22) fun v54 => .op (.load false 1 v54) fun v55 => .op (.islc 1 v55 (.int .i64 (.ofNat 0))) fun v56 => .op (.load false 1
  v56) fun v57 => .callf (.i (.i (.o (.i (.i (.o (.o (.o .h)))))))) [v57] fun v58 => .setv (.i (.i .h)) v58 <| .setv (.o (.o (.o .h))) (.int .i64 (.ofNat 0)) <| .ret) (.fall)) <|
  .fall)) <| .fall)) <| .op (.faddr 0 v22) fun v59 => .op (.load false 1 v59) fun v60 => .op (.faddr 1 v22) fun v61 => .op (.load false 1 v61) fun v62 => .op (.build [(.int .i64
  (.ofNat 0)),.nils,.nils,(.int .i64 (.ofNat 0)),.nils,.nils] [(0,1,(.int .i64 (.ofNat 4))),(4,1,v60),(5,1,v62)]) fun v63 => .callf (.o (.o (.i (.o (.i (.o (.i .h))))))) [v1,v63]
  fun v64 => .setv (.i (.i .h)) v64 <| .setv (.o (.o (.o .h))) (.int .i64 (.ofNat 0)) <| .ret) [.tmp (.i (.i .h)),.tmp (.o (.o (.o .h)))]
theorem F203_ok : toFn Tryz.prog 203 [6,7] = some F203 := by kernel_rfl
def F204 : FnE := .body (.arg 0 fun v1 => .setv (.i .h) (.str 0 []) <| .op (.bin .lss .no v1 (.int .i64 (.ofNat 0))) fun v2 => .seq (.cond v2 (.setv (.i .h) (.str 1 [45]) <| .ret) (.fall)) <| .op (.bin
  .lss .no v1 (.int .i64 (.ofNat 10))) fun v3 => .seq (.cond v3 (.op (.bin .add .no v1 (.int .i64 (.ofNat 1))) fun v4 => .op (.sstr (.str 10 [48,49,50,51,52,53,54,55,56,57]) (some
  v1) (some v4)) fun v5 => .setv (.i .h) v5 <| .ret) (.fall)) <| .op (.bin .quo .no v1 (.int .i64 (.ofNat 10))) fun v6 => .callf (.i (.o (.i (.i (.o (.o (.i .h))))))) [v6] fun v7
  => .op (.bin .rem .no v1 (.int .i64 (.ofNat 10))) fun v8 => .callf (.i (.o (.i (.i (.o (.o (.i .h))))))) [v8] fun v9 => .op (.bin .add .no v7 v9) fun v10 => .setv (.i .h) v10 <|
  .ret) [.tmp (.i .h)]
theorem F204_ok : toFn Tryz.prog 204 [2] = some F204 := by kernel_rfl
def F205 : FnE := .body (.arg 0 fun v1 => .arg 1 fun v2 => .op (.alloc [(.int .i64 (.ofNat 0)),(.str 0 []),(.str 0 []),(.str 0 []),(.str 0 []),.nils,.nils,(.int .i64 (.ofNat 0)),(.str 0 []),.nils,(.str 0
  [])] 216) fun v3 => .setv (.i (.o .h)) v3 <| .setv (.o (.i .h)) (.int .i64 (.ofNat 0)) <| .seq (.block 0 (.op (.bin .eql .no v1 (.int .i64 (.ofNat 1))) fun v4 => .seq (.cond v4
  (.callf (.i (.i (.i (.i (.i (.o .h)))))) [v2] fun v5 => .op (.ext v5 0) fun v6 => .op (.ext v5 1) fun v7 => .op (.store 11 v3 v6) fun _ => .setv (.o (.i .h)) v7 <| .ret) (.op
  (.bin .eql .no v1 (.int .i64 (.ofNat 2))) fun v9 => .seq (.cond v9 (.callf (.o (.o (.o (.o (.o (.i .h)))))) [v2] fun v10 => .op (.ext v10 0) fun v11 => .op (.ext v10 1) fun v12
  => .op (.store 11 v3 v11) fun _ => .setv (.o (.i .h)) v12 <| .ret) (.op (.bin .eql .no v1 (.int .i64 (.ofNat 3))) fun v14 => .seq (.cond v14 (.callf (.o (.o (.i (.i (.i (.o (.o
  (.o .h)))))))) [v2] fun v15 => .op (.ext v15 0) fun v16 => .op (.ext v15 1) fun v17 => .op (.store 11 v3 v16) fun _ => .setv (.o (.i .h)) v17 <| .ret) (.fall)) <| .fall)) <|
  .fall)) <| .fall)) <| .callf (.i (.o (.i (.i (.i (.o (.o (.o .h)))))))) [v2] fun v19 => .op (.ext v19 0) fun v20 => .op (.ext v19 1) fun v21 => .op (.store 11 v3 v20) fun _ =>
  .setv (.o (.i .h)) v21 <| .ret) [.cell (.i (.o .h)) true 11,.tmp (.o (.i .h))]
theorem F205_ok : toFn Tryz.prog 205 [4,5] = some F205 := by kernel_rfl
def F206 : FnE := .body (.arg 0 fun v1 => .op (.box 216 v1) fun v2 => .op (.alloc [(.int .i64 (.ofNat 0)),(.str 0 []),(.str 0 []),(.str 0 []),(.str 0 []),.nils,.nils,(.int .i64 (.ofNat 0)),(.str 0
  []),.nils,(.str 0 [])] 216) fun v3 => .setv (.i .h) v3 <| .setv (.o (.o .h)) (.int .i64 (.ofNat 0)) <| .op (.load true 11 v2) fun v4 => .op (.alloc [(.int .i64 (.ofNat 0)),(.str
  0 []),(.str 0 []),(.str 0 []),(.str 0 []),.nils,.nils,(.int .i64 (.ofNat 0)),(.str 0 []),.nils,(.str 0 [])] 216) fun v5 => .op (.store 11 v5 v4) fun _ => .op (.faddr 5 v2) fun v7
  => .op (.load false 1 v7) fun v8 => .op (.len false v8) fun v9 => .setv (.i (.o (.o (.o .h)))) (.int .i64 (.ofNat 0)) <| .seq (.block 0 (.seq (.loop (.getv (.i (.o (.o (.o .h))))
  fun v10 => .op (.bin .lss .no v10 v9) fun v11 => .seq (.cond v11 (.fall) ((.exit 0))) <| .seq (.block 1 (.op (.islc 2 v8 v10) fun v12 => .op (.load true 2 v12) fun v13 => .op
  (.alloc [(.str 0 []),(.str 0 [])] 305) fun v14 => .op (.store 2 v14 v13) fun _ => .op (.faddr 0 v14) fun v16 => .op (.load false 1 v16) fun v17 => .op (.ixstr v17 (.int .i64
  (.ofNat 0))) fun v18 => .callf (.i (.i (.i (.i (.o (.o (.o (.o .h)))))))) [v18] fun v19 => .op (.un .not v19) fun v20 => .gop v20 false (.faddr 1 v14) fun v21 => .gop v20 false
  (.load false 1 v21) fun v22 => .gcallf v20 false (.i (.o (.o (.o (.o (.o (.i .h))))))) [v22] fun v23 => .gop v20 false (.un .not v23) fun v24 => .op (.pick v20 (.bool true) v24)
  fun v25 => .gop v25 false (.faddr 0 v2) fun v26 => .gop v25 false (.load false 1 v26) fun v27 => .gop v25 false (.bin .eql .no v27 (.int .i64 (.ofNat 3))) fun v28 => .gop v25
  false (.mv v28) fun v29 => .gop v29 true (.faddr 0 v14) fun v30 => .gop v29 true (.load false 1 v30) fun v31 => .gop v29 true (.bin .eql .no v31 (.str 1 [112])) fun v32 => .gop
  v25 false (.pick v29 v32 (.bool false)) fun v33 => .op (.pick v25 (.bool true) v33) fun v34 => .seq (.cond v34 (.callf (.i (.o (.i (.i (.i (.i (.o .h))))))) [(.int .i64 (.ofNat
  4))] fun v35 => .op (.ext v35 0) fun v36 => .op (.ext v35 1) fun v37 => .op (.store 11 v3 v36) fun _ => .setv (.o (.o .h)) v37 <| .ret) (.fall)) <| .fall)) <| .op (.bin .add .no
  v10 (.int .i64 (.ofNat 1))) fun v39 => .setv (.i (.o (.o (.o .h)))) v39 <| .fall)) <| .fall)) <| .op (.faddr 5 v5) fun v40 => .op (.store 1 v40 .nils) fun _ => .setv (.o (.o (.o
  .h))) (.bool true) <| .op (.faddr 0 v2) fun v42 => .op (.load false 1 v42) fun v43 => .op (.bin .eql .no v43 (.int .i64 (.ofNat 1))) fun v44 => .seq (.cond v44 (.op (.faddr 3 v2)
  fun v45 => .op (.load false 1 v45) fun v46 => .callf (.i (.i (.i (.o (.o (.o (.i .h))))))) [v46] fun v47 => .callf (.i (.o (.o (.o (.o (.o (.i .h))))))) [v47] fun v48 => .gop v48
  true (.faddr 2 v2) fun v49 => .gop v48 true (.load false 1 v49) fun v50 => .gop v48 true (.bin .eql .no v50 (.str 0 [])) fun v51 => .gop v48 true (.mv v51) fun v52 => .gop v52
  false (.faddr 2 v2) fun v53 => .gop v52 false (.load false 1 v53) fun v54 => .gcallf v52 false (.i (.i (.i (.o (.o (.o (.i .h))))))) [v54] fun v55 => .gcallf v52 false (.i (.o
  (.o (.o (.o (.o (.i .h))))))) [v55] fun v56 => .gop v48 true (.pick v52 (.bool true) v56) fun v57 => .op (.pick v48 v57 (.bool false)) fun v58 => .setv (.o (.o (.o .h))) v58 <|
  .op (.faddr 3 v5) fun v59 => .op (.store 1 v59 (.str 1 [117])) fun _ => .op (.faddr 2 v5) fun v61 => .op (.store 1 v61 (.str 0 [])) fun _ => .fall) (.fall)) <| .op (.faddr 0 v2)
  fun v63 => .op (.load false 1 v63) fun v64 => .op (.bin .eql .no v64 (.int .i64 (.ofNat 3))) fun v65 => .seq (.cond v65 (.op (.faddr 8 v2) fun v66 => .op (.load false 1 v66) fun
  v67 => .callf (.o (.i (.i (.i (.i (.o (.o (.o .h)))))))) [v67] fun v68 => .op (.ext v68 0) fun v69 => .op (.ext v68 1) fun v70 => .gop v69 true (.mv v70) fun v71 => .gop v69 true
  (.un .not v71) fun v72 => .op (.pick v69 v72 (.bool false)) fun v73 => .setv (.o (.o (.o .h))) v73 <| .op (.faddr 8 v5) fun v74 => .op (.store 1 v74 (.str 3 [110,44,44])) fun _
  => .fall) (.fall)) <| .op (.faddr 0 v2) fun v76 => .op (.load false 1 v76) fun v77 => .op (.bin .eql .no v77 (.int .i64 (.ofNat 4))) fun v78 => .gop v78 true (.faddr 9 v2) fun
  v79 => .gop v78 true (.load false 1 v79) fun v80 => .gop v78 true (.len false v80) fun v81 => .gop v78 true (.bin .eql .no v81 (.int .i64 (.ofNat 0))) fun v82 => .op (.pick v78
  v82 (.bool false)) fun v83 => .seq (.cond v83 (.op (.faddr 10 v2) fun v84 => .op (.load false 1 v84) fun v85 => .callf (.i (.o (.o (.o (.o (.o (.i .h))))))) [v85] fun v86 =>
  .setv (.o (.o (.o .h))) v86 <| .op (.faddr 10 v5) fun v87 => .op (.store 1 v87 (.str 1 [120])) fun _ => .fall) (.fall)) <| .op (.load true 11 v5) fun v89 => .callf (.i (.o (.i
  (.o (.o (.i .h)))))) [v89] fun v90 => .op (.ext v90 0) fun _ => .op (.ext v90 1) fun v92 => .op (.bin .neq .no v92 (.int .i64 (.ofNat 0))) fun v93 => .getv (.o (.o (.o .h))) fun
  v94 => .gop v93 false (.mv v94) fun v95 => .gop v93 false (.un .not v95) fun v96 => .op (.pick v93 (.bool true) v96) fun v97 => .seq (.cond v97 (.callf (.i (.o (.i (.i (.i (.i
  (.o .h))))))) [(.int .i64 (.ofNat 4))] fun v98 => .op (.ext v98 0) fun v99 => .op (.ext v98 1) fun v100 => .op (.store 11 v3 v99) fun _ => .setv (.o (.o .h)) v100 <| .ret)
  (.fall)) <| .op (.load true 11 v2) fun v102 => .op (.store 11 v3 v102) fun _ => .setv (.o (.o .h)) (.int .i64 (.ofNat 0)) <| .ret) [.cell (.i .h) true 11,.tmp (.o (.o .h))]
theorem F206_ok : toFn Tryz.prog 206 [2,3,7,16] = some F206 := by kernel_rfl
def F207 : FnE := .body (.arg 0 fun v1 => .arg 1 fun v2 => .op (.box 216 v1) fun v3 => .op (.box 216 v2) fun v4 => .setv (.i (.o .h)) (.bool false) <| .op (.faddr 0 v3) fun v5 => .op (.load false 1 v5) fun
  v6 => .op (.faddr 0 v4) fun v7 => .op (.load false 1 v7) fun v8 => .op (.bin .eql .no v6 v8) fun v9 => .gop v9 true (.faddr 1 v3) fun v10 => .gop v9 true (.load false 1 v10) fun
  v11 => .gop v9 true (.faddr 1 v4) fun v12 => .gop v9 true (.load false 1 v12) fun v13 => .gop v9 true (.bin .eql .no v11 v13) fun v14 => .op (.pick v9 v14 (.bool false)) fun v15
  => .gop v15 true (.faddr 2 v3) fun v16 => .gop v15 true (.load false 1 v16) fun v17 => .gop v15 true (.faddr 2 v4) fun v18 => .gop v15 true (.load false 1 v18) fun v19 => .gop
  v15 true (.bin .eql .no v17 v19) fun v20 => .op (.pick v15 v20 (.bool false)) fun v21 => .gop v21 true (.faddr 3 v3) fun v22 => .gop v21 true (.load false 1 v22) fun v23 => .gop
  v21 true (.faddr 3 v4) fun v24 => .gop v21 true (.load false 1 v24) fun v25 => .gop v21 true (.bin .eql .no v23 v25) fun v26 => .op (.pick v21 v26 (.bool false)) fun v27 => .gop
  v27 true (.faddr 4 v3) fun v28 => .gop v27 true (.load false 1 v28) fun v29 => .gop v27 true (.faddr 4 v4) fun v30 => .gop v27 true (.load false 1 v30) fun v31 => .gop v27 true
  (.bin .eql .no v29 v31) fun v32 => .op (.pick v27 v32 (.bool false)) fun v33 => .gop v33 true (.faddr 5 v3) fun v34 => .gop v33 true (.load false 1 v34) fun v35 => .gop v33 true
  (.faddr 5 v4) fun v36 => .gop v33 true (.load false 1 v36) fun v37 => .gcallf v33 true (.i (.i (.i (.i (.i (.o (.o (.o .h)))))))) [v35,v37] fun v38 => .op (.pick v33 v38 (.bool
  false)) fun v39 => .gop v39 true (.faddr 6 v3) fun v40 => .gop v39 true (.load false 1 v40) fun v41 => .gop v39 true (.faddr 6 v4) fun v42 => .gop v39 true (.load false 1 v42)
  fun v43 => .gcallf v39 true (.o (.o (.o (.o (.i (.o .h)))))) [v41,v43] fun v44 => .op (.pick v39 v44 (.bool false)) fun v45 => .gop v45 true (.faddr 7 v3) fun v46 => .gop v45
  true (.load false 1 v46) fun v47 => .gop v45 true (.faddr 7 v4) fun v48 => .gop v45 true (.load false 1 v48) fun v49 => .gop v45 true (.bin .eql .no v47 v49) fun v50 => .op
  (.pick v45 v50 (.bool false)) fun v51 => .gop v51 true (.faddr 8 v3) fun v52 => .gop v51 true (.load false 1 v52) fun v53 => .gop v51 true (.faddr 8 v4) fun v54 => .gop v51 true
  (.load false 1 v54) fun v55 => .gop v51 true (.bin .eql .no v53 v55) fun v56 => .op (.pick v51 v56 (.bool false)) fun v57 => .gop v57 true (.faddr 9 v3) fun v58 => .gop v57 true
  (.load false 1 v58) fun v59 => .gop v57 true (.faddr 9 v4) fun v60 => .gop v57 true (.load false 1 v60) fun v61 => .gcallf v57 true (.o (.o (.o (.o (.i (.o .h)))))) [v59,v61] fun
  v62 => .op (.pick v57 v62 (.bool false)) fun v63 => .gop v63 true (.faddr 10 v3) fun v64 => .gop v63 true (.load false 1 v64) fun v65 => .gop v63 true (.faddr 10 v4) fun v66 =>
  .gop v63 true (.load false 1 v66) fun v67 => .gop v63 true (.bin .eql .no v65 v67) fun v68 => .op (.pick v63 v68 (.bool false)) fun v69 => .setv (.i (.o .h)) v69 <| .ret) [.tmp (.i (.o .h))]
theorem F207_ok : toFn Tryz.prog 207 [4] = some F207 := by kernel_rfl
def F208 : FnE := .body (.arg 0 fun v1 => .setv (.i .h) .nils <| .op (.bin .eql .slc v1 .nils) fun v2 => .seq (.cond v2 (.setv (.i .h) .nils <| .ret) (.fall)) <| .op (.bslice 5 1 0 [(.int .u8 (.ofNat 0))]
  []) fun v3 => .op (.app 5 1 1 v3 v1) fun v4 => .setv (.i .h) v4 <| .ret) [.tmp (.i .h)]
theorem F208_ok : toFn Tryz.prog 208 [2] = some F208 := by kernel_rfl
def F209 : FnE := .body (.arg 0 fun v1 => .setv (.i .h) .nils <| .op (.bin .eql .slc v1 .nils) fun v2 => .seq (.cond v2 (.setv (.i .h) .nils <| .ret) (.fall)) <| .op (.bslice 9 1 0 [(.str 0 [])] []) fun v3
  => .op (.app 9 1 16 v3 v1) fun v4 => .setv (.i .h) v4 <| .ret) [.tmp (.i .h)]
theorem F209_ok : toFn Tryz.prog 209 [2] = some F209 := by kernel_rfl
def F210 : FnE := .body (.arg 0 fun v1 => .arg 1 fun v2 => .setv (.i (.o .h)) (.str 0 []) <| .setv (.o (.i .h)) (.int .i64 (.ofNat 0)) <| .callf (.o (.o (.o (.o (.o (.i (.o (.o .h)))))))) [v1] fun v3 =>
  .op (.ext v3 0) fun v4 => .op (.ext v3 1) fun v5 => .seq (.block 0 (.op (.bin .neq .no v5 (.int .i64 (.ofNat 0))) fun v6 => .seq (.cond v6 (.setv (.i (.o .h)) (.str 0 []) <|
  .setv (.o (.i .h)) v5 <| .ret) (.op (.bin .eql .no v4 (.str 0 [])) fun v7 => .seq (.cond v7 (.setv (.i (.o .h)) (.str 0 []) <| .setv (.o (.i .h)) (.int .i64 (.ofNat 2)) <| .ret)
  (.op (.len true v4) fun v8 => .op (.bin .gtr .no v8 v2) fun v9 => .seq (.cond v9 (.setv (.i (.o .h)) (.str 0 []) <| .setv (.o (.i .h)) (.int .i64 (.ofNat 3)) <| .ret) (.fall)) <|
  .fall)) <| .fall)) <| .fall)) <| .setv (.i (.o .h)) v4 <| .setv (.o (.i .h)) (.int .i64 (.ofNat 0)) <| .ret) [.tmp (.i (.o .h)),.tmp (.o (.i .h))]
theorem F210_ok : toFn Tryz.prog 210 [4,5] = some F210 := by kernel_rfl
def F211 : FnE := .body (.arg 0 fun v1 => .arg 1 fun v2 => .op (.box 329 v2) fun v3 => .setv (.i (.o .h)) .nils <| .op (.load true 6 v3) fun v4 => .callf (.i (.o (.o (.o (.o (.i (.o (.o .h)))))))) [v4] fun
  v5 => .op (.nilck v1) fun v6 => .op (.faddr 3 v6) fun v7 => .op (.load false 1 v7) fun v8 => .op (.lookup true (.int .i64 (.ofNat 0)) true v8 v5) fun v9 => .op (.ext v9 0) fun
  v10 => .op (.ext v9 1) fun v11 => .seq (.block 0 (.seq (.cond v11 (.callf (.i (.i (.o (.i (.i (.o (.o (.o .h)))))))) [v10] fun v12 => .setv (.i (.o .h)) v12 <| .ret) (.op (.nilck
  v1) fun v13 => .op (.faddr 2 v13) fun v14 => .op (.load false 1 v14) fun v15 => .op (.len false v15) fun v16 => .op (.bin .geq .no v16 (.int .i64 (.ofNat 4096))) fun v17 => .seq
  (.cond v17 (.op (.nilck v1) fun v18 => .op (.faddr 1 v18) fun v19 => .op (.store 1 v19 (.bool true)) fun _ => .op (.mkslice 5 1 1 [(.int .u8 (.ofNat 0))] (.int .i64 (.ofNat 32))
  (.int .i64 (.ofNat 32))) fun v21 => .setv (.i (.o .h)) v21 <| .ret) (.fall)) <| .fall)) <| .fall)) <| .op (.nilck v1) fun v22 => .op (.faddr 2 v22) fun v23 => .op (.load false 1
  v23) fun v24 => .op (.load true 6 v3) fun v25 => .callf (.o (.i (.o (.o (.o (.i (.o (.o .h)))))))) [v25] fun v26 => .chk false 1 v23 v24 <| .op (.bslice 329 6 1 [(.int .i64
  (.ofNat 0)),.nils,.nils,(.int .i64 (.ofNat 0)),.nils,.nils] [(0,v26)]) fun v27 => .op (.app 329 6 112 v24 v27) fun v28 => .op (.nilck v1) fun v29 => .op (.faddr 2 v29) fun v30 =>
  .op (.store 1 v30 v28) fun _ => .op (.nilck v1) fun v32 => .op (.faddr 3 v32) fun v33 => .op (.load false 1 v33) fun v34 => .op (.nilck v1) fun v35 => .op (.faddr 2 v35) fun v36
  => .op (.load false 1 v36) fun v37 => .op (.len false v37) fun v38 => .op (.mapup true v34 v5 v38) fun _ => .op (.nilck v1) fun v40 => .op (.faddr 2 v40) fun v41 => .op (.load
  false 1 v41) fun v42 => .op (.len false v42) fun v43 => .callf (.i (.i (.o (.i (.i (.o (.o (.o .h)))))))) [v43] fun v44 => .setv (.i (.o .h)) v44 <| .ret) [.tmp (.i (.o .h))]
theorem F211_ok : toFn Tryz.prog 211 [4] = some F211 := by kernel_rfl
def F212 : FnE := .body (.arg 0 fun v1 => .arg 1 fun v2 => .arg 2 fun v3 => .arg 3 fun v4 => .setv (.i (.o (.o .h))) .nils <| .setv (.o (.i (.o .h))) (.int .i64 (.ofNat 0)) <| .op (.bin .lss .no v3 (.int
  .i64 (.ofNat 1))) fun v5 => .gop v5 false (.mv v3) fun v6 => .gop v5 false (.bin .gtr .no v6 (.int .i64 (.ofNat 64))) fun v7 => .op (.pick v5 (.bool true) v7) fun v8 => .gop v8
  false (.mv v4) fun v9 => .gcallf v8 false (.i (.i (.o (.o (.o (.i (.o (.o .h)))))))) [v9] fun v10 => .gop v8 false (.un .not v10) fun v11 => .op (.pick v8 (.bool true) v11) fun
  v12 => .seq (.cond v12 (.setv (.i (.o (.o .h))) .nils <| .setv (.o (.i (.o .h))) (.int .i64 (.ofNat 1)) <| .ret) (.fall)) <| .callf (.i (.o (.i (.o (.o (.i (.o (.o .h))))))))
  [v1,v2,v3] fun v13 => .callf (.o (.o (.i (.o (.o (.i (.o (.o .h)))))))) [v4,v13] fun v14 => .setv (.i (.o (.o .h))) v14 <| .setv (.o (.i (.o .h))) (.int .i64 (.ofNat 0)) <| .ret) [.tmp (.i (.o (.o .h))),.tmp (.o (.i (.o .h)))]
theorem F212_ok : toFn Tryz.prog 212 [8,9] = some F212 := by kernel_rfl
def F213 : FnE := .body (.arg 0 fun v1 => .arg 1 fun v2 => .setv (.i (.o .h)) .nils <| .op (.len false v1) fun v3 => .op (.bin .eql .no v3 (.int .i64 (.ofNat 0))) fun v4 => .seq (.cond v4 (.op (.bslice 5 1
  0 [(.int .u8 (.ofNat 0))] []) fun v5 => .setv (.i (.o .h)) v5 <| .ret) (.fall)) <| .op (.len false v1) fun v6 => .op (.bin .eql .no v6 (.int .i64 (.ofNat 1))) fun v7 => .seq
  (.cond v7 (.op (.islc 1 v1 (.int .i64 (.ofNat 0))) fun v8 => .op (.load false 1 v8) fun v9 => .op (.app 5 1 1 .nils v9) fun v10 => .setv (.i (.o .h)) v10 <| .ret) (.fall)) <|
  .setv (.o (.i .h)) (.int .i64 (.ofNat 0)) <| .op (.len false v2) fun v11 => .op (.bin .gtr .no v11 (.int .i64 (.ofNat 0))) fun v12 => .seq (.cond v12 (.op (.len false v2) fun v13
  => .op (.len false v1) fun v14 => .op (.bin .sub .no v14 (.int .i64 (.ofNat 1))) fun v15 => .op (.bin .quo .no (.int .i64 (.ofNat 9223372036854775807)) v15) fun v16 => .op (.bin
  .geq .no v13 v16) fun v17 => .seq (.cond v17 (.bad) (.fall)) <| .op (.len false v2) fun v18 => .op (.len false v1) fun v19 => .op (.bin .sub .no v19 (.int .i64 (.ofNat 1))) fun
  v20 => .op (.bin .mul .no v18 v20) fun v21 => .op (.bin .add .no (.int .i64 (.ofNat 0)) v21) fun v22 => .setv (.o (.i .h)) v22 <| .fall) (.fall)) <| .op (.len false v1) fun v23
  => .setv (.i (.o (.i (.i (.o .h))))) (.int .i64 (.ofNat 0)) <| .seq (.block 0 (.seq (.loop (.getv (.i (.o (.i (.i (.o .h))))) fun v24 => .op (.bin .lss .no v24 v23) fun v25 =>
  .seq (.cond v25 (.fall) ((.exit 0))) <| .seq (.block 1 (.op (.islc 1 v1 v24) fun v26 => .op (.load false 1 v26) fun v27 => .op (.len false v27) fun v28 => .getv (.o (.i .h)) fun
  v29 => .op (.bin .sub .no (.int .i64 (.ofNat 9223372036854775807)) v29) fun v30 => .op (.bin .gtr .no v28 v30) fun v31 => .seq (.cond v31 (.bad) (.fall)) <| .op (.len false v27)
  fun v32 => .op (.bin .add .no v29 v32) fun v33 => .setv (.o (.i .h)) v33 <| .fall)) <| .op (.bin .add .no v24 (.int .i64 (.ofNat 1))) fun v34 => .setv (.i (.o (.i (.i (.o .h)))))
  v34 <| .fall)) <| .fall)) <| .getv (.o (.i .h)) fun v35 => .callf (.o (.i (.i (.o (.o (.i (.o (.o .h)))))))) [v35] fun v36 => .op (.sslc 1 v36 none (some v35) (some v35)) fun v37
  => .op (.islc 1 v1 (.int .i64 (.ofNat 0))) fun v38 => .op (.load false 1 v38) fun v39 => .op (.copy 1 v37 v39) fun v40 => .setv (.o (.i (.o .h))) v40 <| .op (.sslc 1 v1 (some
  (.int .i64 (.ofNat 1))) none none) fun v41 => .op (.len false v41) fun v42 => .setv (.i (.o (.o (.i (.o (.o .h)))))) (.int .i64 (.ofNat 0)) <| .seq (.block 2 (.seq (.loop (.getv
  (.i (.o (.o (.i (.o (.o .h)))))) fun v43 => .op (.bin .lss .no v43 v42) fun v44 => .seq (.cond v44 (.fall) ((.exit 2))) <| .seq (.block 3 (.op (.islc 1 v41 v43) fun v45 => .op
  (.load false 1 v45) fun v46 => .getv (.o (.i (.o .h))) fun v47 => .op (.sslc 1 v37 (some v47) none none) fun v48 => .op (.copy 1 v48 v2) fun v49 => .op (.bin .add .no v47 v49)
  fun v50 => .setv (.o (.i (.o .h))) v50 <| .op (.sslc 1 v37 (some v50) none none) fun v51 => .op (.copy 1 v51 v46) fun v52 => .op (.bin .add .no v50 v52) fun v53 => .setv (.o (.i
  (.o .h))) v53 <| .fall)) <| .op (.bin .add .no v43 (.int .i64 (.ofNat 1))) fun v54 => .setv (.i (.o (.o (.i (.o (.o .h)))))) v54 <| .fall)) <| .fall)) <| .setv (.i (.o .h)) v37
  <| .ret) [.tmp (.i (.o .h))]
theorem F213_ok : toFn Tryz.prog 213 [4,5,9,44,72] = some F213 := by kernel_rfl
def F214 : FnE := .body (.arg 0 fun v1 => .arg 1 fun v2 => .setv (.i (.o .h)) .nils <| .callf (.i (.i (.i (.o (.o (.i (.o (.o .h)))))))) [v1,(.int .u8 (.ofNat 54))] fun v3 => .callf (.o (.i (.i (.o (.i (.o
  (.i .h))))))) [v2,.nils] fun v4 => .op (.bslice 43 1 2 [.nils] [(0,v3),(1,v4)]) fun v5 => .callf (.o (.o (.o (.i (.i (.o (.i .h))))))) [v5] fun v6 => .callf (.i (.i (.i (.o (.o
  (.i (.o (.o .h)))))))) [v1,(.int .u8 (.ofNat 92))] fun v7 => .op (.bslice 43 1 2 [.nils] [(0,v7),(1,v6)]) fun v8 => .callf (.o (.o (.o (.i (.i (.o (.i .h))))))) [v8] fun v9 =>
  .setv (.i (.o .h)) v9 <| .ret) [.tmp (.i (.o .h))]
theorem F214_ok : toFn Tryz.prog 214 [4] = some F214 := by kernel_rfl
def F215 : FnE := .body (.arg 0 fun v1 => .setv (.i .h) .nils <| .op (.load true 8 (.ptr .h 0)) fun v2 => .op (.alloc [(.int .u32 (.ofNat 0)),(.int .u32 (.ofNat 0)),(.int .u32 (.ofNat 0)),(.int .u32
  (.ofNat 0)),(.int .u32 (.ofNat 0)),(.int .u32 (.ofNat 0)),(.int .u32 (.ofNat 0)),(.int .u32 (.ofNat 0))] 416) fun v3 => .op (.store 8 v3 v2) fun _ => .callf (.o (.i (.i (.o (.i
  (.o (.i .h))))))) [v1,.nils] fun v5 => .callf (.o (.o (.o (.i (.o (.i (.o (.o .h)))))))) [v5] fun v6 => .seq (.block 0 (.seq (.rfun v6 (.block 1 (.arg 0 fun v7 => .brnd <| .seq
  (.block 1 (.callf (.i (.o (.o (.i (.o (.i (.o (.o .h)))))))) [v3,v7] fun _ => .fall)) <| .fall))) <| .fall)) <| .callf (.o (.i (.o (.i (.o (.i (.o (.o .h)))))))) [v3] fun v9 =>
  .setv (.i .h) v9 <| .ret) [.tmp (.i .h)]
theorem F215_ok : toFn Tryz.prog 215 [2] = some F215 := by kernel_rfl
def F216 : FnE := .body (.arg 0 fun v1 => .arg 1 fun v2 => .op (.box 333 v2) fun v3 => .setv (.i (.o .h)) .nils <| .op (.nilck v1) fun v4 => .op (.faddr 1 v4) fun v5 => .op (.load false 1 v5) fun v6 => .op
  (.len false v6) fun v7 => .setv (.i (.o (.i .h))) (.int .i64 (.ofNat 0)) <| .seq (.block 0 (.seq (.loop (.getv (.i (.o (.i .h))) fun v8 => .op (.bin .lss .no v8 v7) fun v9 =>
  .seq (.cond v9 (.fall) ((.exit 0))) <| .seq (.block 1 (.op (.islc 6 v6 v8) fun v10 => .op (.load true 6 v10) fun v11 => .op (.alloc [(.int .i64 (.ofNat 0)),.nils,.nils,(.int .i64
  (.ofNat 0)),.nils,.nils] 333) fun v12 => .op (.store 6 v12 v11) fun _ => .op (.load true 6 v12) fun v14 => .op (.load true 6 v3) fun v15 => .callf (.i (.i (.o (.i (.o (.i (.o (.o
  .h)))))))) [v14,v15] fun v16 => .seq (.cond v16 (.op (.bin .add .no v8 (.int .i64 (.ofNat 1))) fun v17 => .callf (.o (.i (.i (.o (.i (.o (.o (.o .h)))))))) [v17] fun v18 => .setv
  (.i (.o .h)) v18 <| .ret) (.fall)) <| .fall)) <| .op (.bin .add .no v8 (.int .i64 (.ofNat 1))) fun v19 => .setv (.i (.o (.i .h))) v19 <| .fall)) <| .fall)) <| .op (.nilck v1) fun
  v20 => .op (.faddr 1 v20) fun v21 => .op (.load false 1 v21) fun v22 => .op (.len false v22) fun v23 => .op (.bin .geq .no v23 (.int .i64 (.ofNat 4096))) fun v24 => .seq (.cond
  v24 (.op (.nilck v1) fun v25 => .op (.faddr 2 v25) fun v26 => .op (.store 1 v26 (.bool true)) fun _ => .op (.mkslice 5 1 1 [(.int .u8 (.ofNat 0))] (.int .i64 (.ofNat 32)) (.int
  .i64 (.ofNat 32))) fun v28 => .setv (.i (.o .h)) v28 <| .ret) (.fall)) <| .op (.bslice 333 6 0 [(.int .i64 (.ofNat 0)),.nils,.nils,(.int .i64 (.ofNat 0)),.nils,.nils] []) fun v29
  => .op (.nilck v1) fun v30 => .op (.faddr 1 v30) fun v31 => .op (.load false 1 v31) fun v32 => .op (.load true 6 v3) fun v33 => .op (.app 333 6 112 v29 v32) fun v34 => .chk true
  6 v3 v33 <| .op (.bslice 333 6 1 [(.int .i64 (.ofNat 0)),.nils,.nils,(.int .i64 (.ofNat 0)),.nils,.nils] [(0,v33)]) fun v35 => .op (.app 333 6 112 v34 v35) fun v36 => .op (.nilck
  v1) fun v37 => .op (.faddr 1 v37) fun v38 => .op (.store 1 v38 v36) fun _ => .op (.nilck v1) fun v40 => .op (.faddr 1 v40) fun v41 => .op (.load false 1 v41) fun v42 => .op (.len
  false v42) fun v43 => .callf (.o (.i (.i (.o (.i (.o (.o (.o .h)))))))) [v43] fun v44 => .setv (.i (.o .h)) v44 <| .ret) [.tmp (.i (.o .h))]
theorem F216_ok : toFn Tryz.prog 216 [4,12] = some F216 := by kernel_rfl
def F217 : FnE := .body (.arg 0 fun v1 => .arg 1 fun v2 => .arg 2 fun v3 => .arg 3 fun v4 => .setv (.i (.o (.o .h))) .nils <| .op (.bin .lss .no v3 (.int .i64 (.ofNat 1))) fun v5 => .gop v5 false (.mv v3)
  fun v6 => .gop v5 false (.bin .gtr .no v6 (.int .i64 (.ofNat 64))) fun v7 => .op (.pick v5 (.bool true) v7) fun v8 => .gop v8 false (.mv v4) fun v9 => .gop v8 false (.bin .lss
  .no v9 (.int .i64 (.ofNat 1))) fun v10 => .op (.pick v8 (.bool true) v10) fun v11 => .gop v11 false (.mv v4) fun v12 => .gop v11 false (.bin .gtr .no v12 (.int .i64 (.ofNat
  128))) fun v13 => .op (.pick v11 (.bool true) v13) fun v14 => .seq (.cond v14 (.setv (.i (.o (.o .h))) .nils <| .ret) (.fall)) <| .setv (.o (.i (.o .h))) .nils <| .setv (.i (.i
  (.o .h))) (.int .u64 (.ofNat 1)) <| .seq (.block 0 (.seq (.loop (.getv (.o (.i (.o .h))) fun v15 => .op (.len false v15) fun v16 => .op (.bin .lss .no v16 v4) fun v17 => .seq
  (.cond v17 (.fall) ((.exit 0))) <| .seq (.block 1 (.callf (.i (.i (.i (.o (.i (.i .h)))))) [v2] fun v18 => .getv (.i (.i (.o .h))) fun v19 => .callf (.o (.i (.o (.o (.o (.o
  .h)))))) [v19,(.int .i64 (.ofNat 4))] fun v20 => .op (.app 5 1 1 v18 v20) fun v21 => .callf (.i (.i (.o (.i (.i (.o (.i .h))))))) [v1,v21] fun v22 => .setv (.o (.o (.i .h))) v22
  <| .setv (.i (.o (.i .h))) v22 <| .setv (.o (.i (.i .h))) (.int .i64 (.ofNat 1)) <| .seq (.block 2 (.seq (.loop (.getv (.o (.i (.i .h))) fun v23 => .op (.bin .lss .no v23 v3) fun
  v24 => .seq (.cond v24 (.fall) ((.exit 2))) <| .seq (.block 3 (.getv (.o (.o (.i .h))) fun v25 => .callf (.i (.i (.o (.i (.i (.o (.i .h))))))) [v1,v25] fun v26 => .setv (.o (.o
  (.i .h))) v26 <| .getv (.i (.o (.i .h))) fun v27 => .callf (.o (.o (.i (.o (.i (.o (.o (.o .h)))))))) [v27,v26] fun v28 => .setv (.i (.o (.i .h))) v28 <| .fall)) <| .op (.bin
  .add .no v23 (.int .i64 (.ofNat 1))) fun v29 => .setv (.o (.i (.i .h))) v29 <| .fall)) <| .fall)) <| .getv (.i (.o (.i .h))) fun v30 => .op (.app 5 1 1 v15 v30) fun v31 => .setv
  (.o (.i (.o .h))) v31 <| .fall)) <| .getv (.i (.i (.o .h))) fun v32 => .op (.bin .add .no v32 (.int .u64 (.ofNat 1))) fun v33 => .setv (.i (.i (.o .h))) v33 <| .fall)) <| .fall))
  <| .getv (.o (.i (.o .h))) fun v34 => .op (.sslc 1 v34 none (some v4) none) fun v35 => .setv (.i (.o (.o .h))) v35 <| .ret) [.tmp (.i (.o (.o .h)))]
theorem F217_ok : toFn Tryz.prog 217 [8,9,10,11,12,13] = some F217 := by kernel_rfl
def F218 : FnE := .body (.arg 0 fun v1 => .arg 1 fun v2 => .setv (.i (.o .h)) .nils <| .callf (.o (.o (.i (.i (.o (.i (.o (.o .h)))))))) [v1,(.int .u8 (.ofNat 92))] fun v3 => .callf (.o (.o (.i (.i (.o (.i
  (.o (.o .h)))))))) [v1,(.int .u8 (.ofNat 54))] fun v4 => .op (.app 5 1 1 v4 v2) fun v5 => .callf (.o (.i (.i (.i (.i (.o (.o .h))))))) [v5] fun v6 => .op (.app 5 1 1 v3 v6) fun
  v7 => .callf (.o (.i (.i (.i (.i (.o (.o .h))))))) [v7] fun v8 => .setv (.i (.o .h)) v8 <| .ret) [.tmp (.i (.o .h))]
theorem F218_ok : toFn Tryz.prog 218 [4] = some F218 := by kernel_rfl
def F219 : FnE := .body (.arg 0 fun v1 => .arg 1 fun v2 => .op (.box 336 v1) fun v3 => .op (.load false 1 v2) fun v4 => .op (.bin .eql .ptr v4 .nilp) fun v5 => .seq (.cond v5 (.ret) (.fall)) <| .op (.load
  false 1 v2) fun v6 => .op (.nilck v6) fun v7 => .op (.faddr 2 v7) fun v8 => .op (.load false 1 v8) fun v9 => .callf (.i (.o (.i (.i (.i (.o (.i .h))))))) [v9] fun v10 => .seq
  (.block 0 (.seq (.rfun v10 (.block 2 (.arg 0 fun _ => .arg 1 fun v12 => .op (.alloc [(.str 0 []),(.int .u64 (.ofNat 0)),(.bool false),(.int .u32 (.ofNat 0))] 175) fun v13 => .op
  (.store 4 v13 v12) fun _ => .brnd <| .seq (.block 1 (.op (.load false 1 v3) fun v15 => .op (.load true 4 v13) fun v16 => .callv v15 [v16] fun v17 => .op (.un .not v17) fun v18 =>
  .seq (.cond v18 (.ret) (.fall)) <| .fall)) <| .fall))) <| .fall)) <| .fall) []
theorem F219_ok : toFn Tryz.prog 219 [] = some F219 := by kernel_rfl
def F220 : FnE := .body (.arg 0 fun v1 => .op (.box 178 v1) fun v2 => .setv (.i .h) .nilf <| .op (.mkfn (.fn (.i (.o (.i (.i (.o (.i (.o (.o .h))))))))) [] [v2]) fun v3 => .setv (.i .h) v3 <| .ret) [.tmp (.i .h)]
theorem F220_ok : toFn Tryz.prog 220 [2] = some F220 := by kernel_rfl
def F221 : FnE := .body (.arg 0 fun v1 => .arg 1 fun v2 => .setv (.i (.o .h)) (.int .i64 (.ofNat 0)) <| .op (.len true v2) fun v3 => .seq (.block 0 (.op (.bin .eql .no v3 (.int .i64 (.ofNat 0))) fun v4 =>
  .seq (.cond v4 (.op (.len true v1) fun v5 => .setv (.i (.o .h)) v5 <| .ret) (.op (.bin .eql .no v3 (.int .i64 (.ofNat 1))) fun v6 => .seq (.cond v6 (.op (.ixstr v2 (.int .i64
  (.ofNat 0))) fun v7 => .callf (.i (.i (.i (.i (.o (.i (.o (.o .h)))))))) [v1,v7] fun v8 => .setv (.i (.o .h)) v8 <| .ret) (.op (.len true v1) fun v9 => .op (.bin .eql .no v3 v9)
  fun v10 => .seq (.cond v10 (.op (.bin .eql .no v2 v1) fun v11 => .seq (.cond v11 (.setv (.i (.o .h)) (.int .i64 (.ofNat 0)) <| .ret) (.fall)) <| .setv (.i (.o .h)) (.int .i64
  (.negSucc 0)) <| .ret) (.op (.len true v1) fun v12 => .op (.bin .gtr .no v3 v12) fun v13 => .seq (.cond v13 (.setv (.i (.o .h)) (.int .i64 (.negSucc 0)) <| .ret) (.fall)) <|
  .fall)) <| .fall)) <| .fall)) <| .fall)) <| .callf (.o (.o (.o (.o (.i (.i (.o (.o .h)))))))) [v1,v2] fun v14 => .setv (.i (.o .h)) v14 <| .ret) [.tmp (.i (.o .h))]
theorem F221_ok : toFn Tryz.prog 221 [4] = some F221 := by kernel_rfl
def F222 : FnE := .body (.arg 0 fun v1 => .setv (.i .h) (.bool false) <| .op (.bin .neq .ptr v1 .nilp) fun v2 => .gop v2 true (.mv v1) fun v3 => .gcallf v2 true (.i (.o (.o (.o (.i (.i (.o (.o .h))))))))
  [v3] fun v4 => .gop v2 true (.bin .eql .no v4 (.int .i64 (.ofNat 0))) fun v5 => .op (.pick v2 v5 (.bool false)) fun v6 => .setv (.i .h) v6 <| .ret) [.tmp (.i .h)]
theorem F222_ok : toFn Tryz.prog 222 [2] = some F222 := by kernel_rfl
def F223 : FnE := .body (.arg 0 fun v1 => .arg 1 fun v2 => .op (.box 25 v1) fun v3 => .op (.box 34 v2) fun v4 => .setv (.i (.o .h)) (.int .i64 (.ofNat 0)) <| .op (.load false 1 v3) fun v5 => .op (.bin .eql
  .ptr v5 .nilp) fun v6 => .seq (.cond v6 (.setv (.i (.o .h)) (.int .i64 (.ofNat 0)) <| .ret) (.fall)) <| .op (.load false 1 v3) fun v7 => .op (.nilck v7) fun v8 => .op (.faddr 2
  v8) fun v9 => .op (.load false 1 v9) fun v10 => .op (.mkfn (.fn (.i (.i (.o (.o (.i (.i (.o (.o .h))))))))) [] [v3,v4]) fun v11 => .callf (.o (.i (.o (.o (.i (.i (.o (.o
  .h)))))))) [v10,v11] fun v12 => .setv (.i (.o .h)) v12 <| .ret) [.tmp (.i (.o .h))]
theorem F223_ok : toFn Tryz.prog 223 [4] = some F223 := by kernel_rfl
def F224 : FnE := .body (.arg 0 fun v1 => .op (.alloc [(.str 0 [])] 9) fun v2 => .setv (.i .h) v2 <| .op (.alloc [(.str 0 []),(.int .u64 (.ofNat 0)),(.bool false),(.int .u32 (.ofNat 0))] 175) fun v3 =>
  .setv (.o (.o .h)) v3 <| .op (.alloc [(.bool false)] 4) fun v4 => .setv (.i (.o .h)) v4 <| .callf (.i (.o (.i (.i (.i (.o (.i .h))))))) [v1] fun v5 => .seq (.block 0 (.seq (.rfun
  v5 (.block 2 (.arg 0 fun v6 => .arg 1 fun v7 => .op (.alloc [(.str 0 []),(.int .u64 (.ofNat 0)),(.bool false),(.int .u32 (.ofNat 0))] 175) fun v8 => .op (.store 4 v8 v7) fun _ =>
  .brnd <| .seq (.block 1 (.op (.load true 4 v8) fun v10 => .op (.store 1 v2 v6) fun _ => .chk true 4 v8 v10 <| .op (.store 4 v3 v10) fun _ => .op (.store 1 v4 (.bool true)) fun _
  => .ret)) <| .fall))) <| .fall)) <| .op (.alloc [(.str 0 []),(.int .u64 (.ofNat 0)),(.bool false),(.int .u32 (.ofNat 0))] 175) fun v14 => .op (.load true 4 v14) fun v15 => .op
  (.store 1 v2 (.str 0 [])) fun _ => .chk true 4 v14 v15 <| .op (.store 4 v3 v15) fun _ => .op (.store 1 v4 (.bool false)) fun _ => .ret) [.cell (.i .h) false 1,.cell (.o (.o .h)) true 4,.cell (.i (.o .h)) false 1]
theorem F224_ok : toFn Tryz.prog 224 [2,3,4] = some F224 := by kernel_rfl
def F225 : FnE := .body (.arg 0 fun v1 => .arg 1 fun v2 => .setv (.i (.o .h)) (.int .i64 (.ofNat 0)) <| .callf (.i (.o (.i (.i (.i (.o (.o .h))))))) [v1,v2] fun v3 => .op (.bin .eql .no v3 (.int .i64
  (.negSucc 0))) fun v4 => .seq (.cond v4 (.setv (.i (.o .h)) (.int .i64 (.ofNat 6)) <| .ret) (.fall)) <| .callf (.i (.o (.i (.o (.i (.i (.o (.o .h)))))))) [v1,v3] fun _ => .op
  (.nilck v1) fun v6 => .op (.faddr 1 v6) fun v7 => .op (.load false 1 v7) fun v8 => .op (.build [(.str 0 []),(.str 0 []),(.int .u64 (.ofNat 0)),(.bool false),(.int .u32 (.ofNat
  0)),(.int .i64 (.ofNat 0)),(.int .i64 (.ofNat 0))] []) fun v9 => .op (.islc 7 v8 v3) fun v10 => .op (.store 7 v10 v9) fun _ => .op (.nilck v1) fun v12 => .op (.faddr 2 v12) fun
  v13 => .op (.load false 1 v13) fun v14 => .op (.bslice 3 1 1 [(.int .i64 (.ofNat 0))] [(0,v3)]) fun v15 => .op (.app 3 1 8 v14 v15) fun v16 => .op (.nilck v1) fun v17 => .op
  (.faddr 2 v17) fun v18 => .op (.store 1 v18 v16) fun _ => .op (.nilck v1) fun v20 => .op (.faddr 3 v20) fun v21 => .op (.load false 1 v21) fun v22 => .op (.del true v22 v2) fun _
  => .setv (.i (.o .h)) (.int .i64 (.ofNat 0)) <| .ret) [.tmp (.i (.o .h))]
theorem F225_ok : toFn Tryz.prog 225 [4] = some F225 := by kernel_rfl
def F226 : FnE := .body (.arg 0 fun v1 => .arg 1 fun v2 => .op (.nilck v1) fun v3 => .op (.faddr 1 v3) fun v4 => .op (.load false 1 v4) fun v5 => .op (.nilck v1) fun v6 => .op (.faddr 1 v6) fun v7 => .op
  (.load false 1 v7) fun v8 => .op (.nilck v1) fun v9 => .op (.faddr 5 v9) fun v10 => .op (.load false 1 v10) fun v11 => .op (.islc 7 v5 v2) fun v12 => .op (.faddr 5 v12) fun v13
  => .op (.store 1 v13 v11) fun _ => .op (.islc 7 v8 v2) fun v15 => .op (.faddr 6 v15) fun v16 => .op (.store 1 v16 (.int .i64 (.negSucc 0))) fun _ => .op (.nilck v1) fun v18 =>
  .op (.faddr 5 v18) fun v19 => .op (.load false 1 v19) fun v20 => .op (.bin .eql .no v20 (.int .i64 (.negSucc 0))) fun v21 => .seq (.cond v21 (.op (.nilck v1) fun v22 => .op
  (.faddr 4 v22) fun v23 => .op (.store 1 v23 v2) fun _ => .fall) (.op (.nilck v1) fun v25 => .op (.faddr 1 v25) fun v26 => .op (.load false 1 v26) fun v27 => .op (.nilck v1) fun
  v28 => .op (.faddr 5 v28) fun v29 => .op (.load false 1 v29) fun v30 => .op (.islc 7 v27 v30) fun v31 => .op (.faddr 6 v31) fun v32 => .op (.store 1 v32 v2) fun _ => .fall)) <|
  .op (.nilck v1) fun v34 => .op (.faddr 5 v34) fun v35 => .op (.store 1 v35 v2) fun _ => .fall) []
theorem F226_ok : toFn Tryz.prog 226 [] = some F226 := by kernel_rfl
def F227 : FnE := .body (.arg 0 fun v1 => .arg 1 fun v2 => .setv (.i (.o .h)) (.int .i64 (.ofNat 0)) <| .setv (.o (.i .h)) .nili <| .callf (.o (.i (.i (.o (.i (.i (.o (.o .h)))))))) [v1] fun _ => .op
  (.nilck v1) fun v4 => .op (.faddr 1 v4) fun v5 => .op (.load false 1 v5) fun v6 => .op (.app 5 1 1 v6 v2) fun v7 => .op (.nilck v1) fun v8 => .op (.faddr 1 v8) fun v9 => .op
  (.store 1 v9 v7) fun _ => .op (.len true v2) fun v11 => .setv (.i (.o .h)) v11 <| .setv (.o (.i .h)) .nili <| .ret) [.tmp (.i (.o .h)),.tmp (.o (.i .h))]
theorem F227_ok : toFn Tryz.prog 227 [4,5] = some F227 := by kernel_rfl
def F231 : FnE := .body (.arg 0 fun v1 => .setv (.i .h) (.str 0 []) <| .op (.nilck v1) fun v2 => .op (.faddr 1 v2) fun v3 => .op (.load false 1 v3) fun v4 => .op (.nilck v1) fun v5 => .op (.faddr 1 v5) fun
  v6 => .op (.load false 1 v6) fun v7 => .op (.len false v7) fun v8 => .op (.sdata v4) fun v9 => .chk false 1 v6 v7 <| .op (.ustr 5 v9 v8) fun v10 => .setv (.i .h) v10 <| .ret) [.tmp (.i .h)]
theorem F231_ok : toFn Tryz.prog 231 [2] = some F231 := by kernel_rfl
def F234 : FnE := .body (.arg 0 fun v1 => .arg 1 fun v2 => .setv (.i (.o .h)) .nili <| .callf (.o (.i (.i (.o (.i (.i (.o (.o .h)))))))) [v1] fun _ => .op (.nilck v1) fun v4 => .op (.faddr 1 v4) fun v5 =>
  .op (.load false 1 v5) fun v6 => .op (.bslice 5 1 1 [(.int .u8 (.ofNat 0))] [(0,v2)]) fun v7 => .op (.app 5 1 1 v6 v7) fun v8 => .op (.nilck v1) fun v9 => .op (.faddr 1 v9) fun
  v10 => .op (.store 1 v10 v8) fun _ => .setv (.i (.o .h)) .nili <| .ret) [.tmp (.i (.o .h))]
theorem F234_ok : toFn Tryz.prog 234 [4] = some F234 := by kernel_rfl
def F239 : FnE := .body (.arg 0 fun v1 => .arg 1 fun v2 => .op (.box 9 v1) fun v3 => .op (.box 3 v2) fun v4 => .setv (.i (.o .h)) .nilf <| .op (.mkfn (.fn (.o (.o (.i (.i (.i (.i (.o (.o .h))))))))) []
  [v3,v4]) fun v5 => .setv (.i (.o .h)) v5 <| .ret) [.tmp (.i (.o .h))]
theorem F239_ok : toFn Tryz.prog 239 [4] = some F239 := by kernel_rfl
def F240 : FnE := .body (.arg 0 fun v1 => .arg 1 fun v2 => .setv (.i (.o .h)) (.int .i64 (.ofNat 0)) <| .callf (.i (.o (.i (.i (.i (.i (.o (.o .h)))))))) [v1,v2] fun v3 => .setv (.i (.o .h)) v3 <| .ret) [.tmp (.i (.o .h))]
theorem F240_ok : toFn Tryz.prog 240 [4] = some F240 := by kernel_rfl
def F241 : FnE := .body (.arg 0 fun v1 => .arg 1 fun v2 => .arg 2 fun v3 => .setv (.i (.o .h)) .nils <| .op (.bin .add .no v1 (.str 1 [32])) fun v4 => .op (.load false 1 v2) fun v5 => .op (.bin .add .no v4
  v5) fun v6 => .op (.bin .add .no v6 (.str 1 [32])) fun v7 => .op (.load false 1 v3) fun v8 => .op (.bin .add .no v7 v8) fun v9 => .op (.s2b 5 v9) fun v10 => .op (.bslice 43 1 1
  [.nils] [(0,v10)]) fun v11 => .callf (.o (.o (.o (.i (.i (.o (.i .h))))))) [v11] fun v12 => .setv (.i (.o .h)) v12 <| .ret) [.tmp (.i (.o .h))]
theorem F241_ok : toFn Tryz.prog 241 [4] = some F241 := by kernel_rfl
def F246 : FnE := .body (.arg 0 fun v1 => .arg 1 fun v2 => .setv (.o .h) v2 <| .op (.box 375 v1) fun v3 => .op (.alloc [(.int .u32 (.ofNat 0)),(.int .u32 (.ofNat 0)),(.int .u32 (.ofNat 0)),(.int .u32
  (.ofNat 0)),(.int .u32 (.ofNat 0)),(.int .u32 (.ofNat 0)),(.int .u32 (.ofNat 0)),(.int .u32 (.ofNat 0))] 375) fun v4 => .setv (.i (.o .h)) v4 <| .setv (.o (.i .h)) .nils <| .seq
  (.block 0 (.seq (.loop (.getv (.o .h) fun v5 => .op (.len false v5) fun v6 => .op (.bin .geq .no v6 (.int .i64 (.ofNat 64))) fun v7 => .seq (.cond v7 (.fall) ((.exit 0))) <| .seq
  (.block 1 (.op (.load true 8 v3) fun v8 => .op (.sslc 1 v5 none (some (.int .i64 (.ofNat 64))) none) fun v9 => .op (.sslc 1 v5 (some (.int .i64 (.ofNat 64))) none none) fun v10
  => .callf (.i (.i (.i (.i (.i (.i (.o (.o .h)))))))) [v8,v9] fun v11 => .op (.store 8 v3 v11) fun _ => .setv (.o .h) v10 <| .fall)) <| .fall)) <| .fall)) <| .op (.load true 8 v3)
  fun v13 => .getv (.o .h) fun v14 => .op (.store 8 v4 v13) fun _ => .setv (.o (.i .h)) v14 <| .ret) [.cell (.i (.o .h)) true 8,.tmp (.o (.i .h))]
theorem F246_ok : toFn Tryz.prog 246 [1,4,5] = some F246 := by kernel_rfl
def F247 : FnE := .body (.op (.alloc [(.int .u32 (.ofNat 0)),(.int .u32 (.ofNat 0)),(.int .u32 (.ofNat 0)),(.int .u32 (.ofNat 0)),(.int .u32 (.ofNat 0)),(.int .u32 (.ofNat 0)),(.int .u32 (.ofNat 0)),(.int
  .u32 (.ofNat 0))] 375) fun v1 => .setv .h v1 <| .op (.build [(.int .u32 (.ofNat 0)),(.int .u32 (.ofNat 0)),(.int .u32 (.ofNat 0)),(.int .u32 (.ofNat 0)),(.int .u32 (.ofNat
  0)),(.int .u32 (.ofNat 0)),(.int .u32 (.ofNat 0)),(.int .u32 (.ofNat 0))] [(0,1,(.int .u32 (.ofNat 1779033703))),(1,1,(.int .u32 (.ofNat 3144134277))),(2,1,(.int .u32 (.ofNat
  1013904242))),(3,1,(.int .u32 (.ofNat 2773480762))),(4,1,(.int .u32 (.ofNat 1359893119))),(5,1,(.int .u32 (.ofNat 2600822924))),(6,1,(.int .u32 (.ofNat 528734635))),(7,1,(.int
  .u32 (.ofNat 1541459225)))]) fun v2 => .op (.store 8 v1 v2) fun _ => .ret) [.cell .h true 8]
theorem F247_ok : toFn Tryz.prog 247 [0] = some F247 := by kernel_rfl
def F248 : FnE := .body (.arg 0 fun v1 => .setv (.i .h) .nils <| .op (.bslice 5 1 1 [(.int .u8 (.ofNat 0))] [(0,(.int .u8 (.ofNat 128)))]) fun v2 => .setv (.o (.o .h)) v2 <| .op (.bin .rem .no v1 (.int
  .u64 (.ofNat 64))) fun v3 => .op (.bin .add .no v3 (.int .u64 (.ofNat 1))) fun v4 => .setv (.i (.o .h)) v4 <| .seq (.block 0 (.seq (.loop (.getv (.i (.o .h)) fun v5 => .op (.bin
  .rem .no v5 (.int .u64 (.ofNat 64))) fun v6 => .op (.bin .neq .no v6 (.int .u64 (.ofNat 56))) fun v7 => .seq (.cond v7 (.fall) ((.exit 0))) <| .seq (.block 1 (.getv (.o (.o .h))
  fun v8 => .op (.bslice 5 1 1 [(.int .u8 (.ofNat 0))] [(0,(.int .u8 (.ofNat 0)))]) fun v9 => .op (.app 5 1 1 v8 v9) fun v10 => .setv (.o (.o .h)) v10 <| .fall)) <| .op (.bin .add
  .no v5 (.int .u64 (.ofNat 1))) fun v11 => .setv (.i (.o .h)) v11 <| .fall)) <| .fall)) <| .getv (.o (.o .h)) fun v12 => .op (.bin .mul .no v1 (.int .u64 (.ofNat 8))) fun v13 =>
  .callf (.o (.i (.o (.o (.o (.o .h)))))) [v13,(.int .i64 (.ofNat 8))] fun v14 => .op (.app 5 1 1 v12 v14) fun v15 => .setv (.i .h) v15 <| .ret) [.tmp (.i .h)]
theorem F248_ok : toFn Tryz.prog 248 [2,3,4] = some F248 := by kernel_rfl
def F249 : FnE := .body (.arg 0 fun v1 => .op (.box 375 v1) fun v2 => .setv (.i .h) .nils <| .setv (.o (.o .h)) .nils <| .op (.load true 8 v2) fun v3 => .setv (.o (.o (.o .h))) (.int .i64 (.ofNat 0)) <|
  .seq (.block 0 (.seq (.loop (.getv (.o (.o (.o .h))) fun v4 => .op (.bin .lss .no v4 (.int .i64 (.ofNat 8))) fun v5 => .seq (.cond v5 (.fall) ((.exit 0))) <| .seq (.block 1 (.op
  (.ixarr 8 false 1 v3 v4) fun v6 => .getv (.o (.o .h)) fun v7 => .op (.conv .u64 v6) fun v8 => .callf (.o (.i (.o (.o (.o (.o .h)))))) [v8,(.int .i64 (.ofNat 4))] fun v9 => .op
  (.app 5 1 1 v7 v9) fun v10 => .setv (.o (.o .h)) v10 <| .fall)) <| .op (.bin .add .no v4 (.int .i64 (.ofNat 1))) fun v11 => .setv (.o (.o (.o .h))) v11 <| .fall)) <| .fall)) <|
  .getv (.o (.o .h)) fun v12 => .setv (.i .h) v12 <| .ret) [.tmp (.i .h)]
theorem F249_ok : toFn Tryz.prog 249 [2,3,7] = some F249 := by kernel_rfl
def F250 : FnE := .body (.arg 0 fun v1 => .setv (.i .h) .nils <| .setv (.o (.o .h)) .nils <| .setv (.i (.o .h)) (.int .i64 (.ofNat 0)) <| .seq (.block 0 (.seq (.loop (.getv (.i (.o .h)) fun v2 => .op (.len
  true v1) fun v3 => .op (.bin .lss .no v2 v3) fun v4 => .seq (.cond v4 (.fall) ((.exit 0))) <| .seq (.block 1 (.op (.sstr v1 (some v2) none) fun v5 => .callf (.o (.o (.o (.o (.o
  (.o (.i (.o .h)))))))) [v5] fun v6 => .op (.ext v6 0) fun v7 => .op (.ext v6 1) fun v8 => .getv (.o (.o .h)) fun v9 => .op (.build [(.int .i64 (.ofNat 0)),(.int .i64 (.ofNat 0))]
  [(0,1,v2),(1,1,v7)]) fun v10 => .op (.bslice 384 2 1 [(.int .i64 (.ofNat 0)),(.int .i64 (.ofNat 0))] [(0,v10)]) fun v11 => .op (.app 384 2 16 v9 v11) fun v12 => .setv (.o (.o
  .h)) v12 <| .op (.bin .add .no v2 v8) fun v13 => .setv (.i (.o .h)) v13 <| .fall)) <| .fall)) <| .fall)) <| .getv (.o (.o .h)) fun v14 => .setv (.i .h) v14 <| .ret) [.tmp (.i .h)]
theorem F250_ok : toFn Tryz.prog 250 [2,3,4] = some F250 := by kernel_rfl
def F251 : FnE := .body (.arg 0 fun v1 => .setv (.i .h) (.bool false) <| .op (.bin .eql .no v1 (.int .i64 (.ofNat 160))) fun v2 => .gop v2 false (.mv v1) fun v3 => .gop v2 false (.bin .eql .no v3 (.int
  .i64 (.ofNat 5760))) fun v4 => .op (.pick v2 (.bool true) v4) fun v5 => .gop v5 false (.mv v1) fun v6 => .gop v5 false (.bin .geq .no v6 (.int .i64 (.ofNat 8192))) fun v7 => .gop
  v5 false (.mv v7) fun v8 => .gop v8 true (.mv v1) fun v9 => .gop v8 true (.bin .leq .no v9 (.int .i64 (.ofNat 8202))) fun v10 => .gop v5 false (.pick v8 v10 (.bool false)) fun
  v11 => .op (.pick v5 (.bool true) v11) fun v12 => .gop v12 false (.mv v1) fun v13 => .gop v12 false (.bin .eql .no v13 (.int .i64 (.ofNat 8239))) fun v14 => .op (.pick v12 (.bool
  true) v14) fun v15 => .gop v15 false (.mv v1) fun v16 => .gop v15 false (.bin .eql .no v16 (.int .i64 (.ofNat 8287))) fun v17 => .op (.pick v15 (.bool true) v17) fun v18 => .gop
  v18 false (.mv v1) fun v19 => .gop v18 false (.bin .eql .no v19 (.int .i64 (.ofNat 12288))) fun v20 => .op (.pick v18 (.bool true) v20) fun v21 => .setv (.i .h) v21 <| .ret) [.tmp (.i .h)]
theorem F251_ok : toFn Tryz.prog 251 [2] = some F251 := by kernel_rfl
def F252 : FnE := .body (.arg 0 fun v1 => .setv (.i .h) (.bool false) <| .op (.bin .eql .no v1 (.int .i64 (.ofNat 173))) fun v2 => .gop v2 false (.mv v1) fun v3 => .gop v2 false (.bin .geq .no v3 (.int
  .i64 (.ofNat 8203))) fun v4 => .gop v2 false (.mv v4) fun v5 => .gop v5 true (.mv v1) fun v6 => .gop v5 true (.bin .leq .no v6 (.int .i64 (.ofNat 8205))) fun v7 => .gop v2 false
  (.pick v5 v7 (.bool false)) fun v8 => .op (.pick v2 (.bool true) v8) fun v9 => .gop v9 false (.mv v1) fun v10 => .gop v9 false (.bin .eql .no v10 (.int .i64 (.ofNat 8288))) fun
  v11 => .op (.pick v9 (.bool true) v11) fun v12 => .gop v12 false (.mv v1) fun v13 => .gop v12 false (.bin .geq .no v13 (.int .i64 (.ofNat 65024))) fun v14 => .gop v12 false (.mv
  v14) fun v15 => .gop v15 true (.mv v1) fun v16 => .gop v15 true (.bin .leq .no v16 (.int .i64 (.ofNat 65039))) fun v17 => .gop v12 false (.pick v15 v17 (.bool false)) fun v18 =>
  .op (.pick v12 (.bool true) v18) fun v19 => .gop v19 false (.mv v1) fun v20 => .gop v19 false (.bin .eql .no v20 (.int .i64 (.ofNat 65279))) fun v21 => .op (.pick v19 (.bool
  true) v21) fun v22 => .setv (.i .h) v22 <| .ret) [.tmp (.i .h)]
theorem F252_ok : toFn Tryz.prog 252 [2] = some F252 := by kernel_rfl
def F253 : FnE := .body (.arg 0 fun v1 => .setv (.i .h) (.bool false) <| .seq (.block 0 (.op (.bin .leq .no v1 (.int .i64 (.ofNat 31))) fun v2 => .setv (.o (.o .h)) v2 <| .seq (.cond v2 (.fall) (.op (.bin
  .geq .no v1 (.int .i64 (.ofNat 127))) fun v3 => .gop v3 true (.mv v1) fun v4 => .gop v3 true (.bin .leq .no v4 (.int .i64 (.ofNat 159))) fun v5 => .op (.pick v3 v5 (.bool false))
  fun v6 => .setv (.o (.o .h)) v6 <| .seq (.cond v6 (.fall) (.op (.bin .geq .no v1 (.int .i64 (.ofNat 8232))) fun v7 => .gop v7 true (.mv v1) fun v8 => .gop v7 true (.bin .leq .no
  v8 (.int .i64 (.ofNat 8238))) fun v9 => .op (.pick v7 v9 (.bool false)) fun v10 => .setv (.o (.o .h)) v10 <| .seq (.cond v10 (.fall) (.op (.bin .geq .no v1 (.int .i64 (.ofNat
  8294))) fun v11 => .gop v11 true (.mv v1) fun v12 => .gop v11 true (.bin .leq .no v12 (.int .i64 (.ofNat 8297))) fun v13 => .op (.pick v11 v13 (.bool false)) fun v14 => .setv (.o
  (.o .h)) v14 <| .seq (.cond v14 (.fall) (.op (.bin .geq .no v1 (.int .i64 (.ofNat 57344))) fun v15 => .gop v15 true (.mv v1) fun v16 => .gop v15 true (.bin .leq .no v16 (.int
  .i64 (.ofNat 63743))) fun v17 => .op (.pick v15 v17 (.bool false)) fun v18 => .setv (.o (.o .h)) v18 <| .fall)) <| .fall)) <| .fall)) <| .fall)) <| .getv (.o (.o .h)) fun v19 =>
  .seq (.cond v19 (.setv (.i .h) (.bool true) <| .ret) (.op (.bin .geq .no v1 (.int .i64 (.ofNat 983040))) fun v20 => .setv (.i (.i (.i (.i .h)))) v20 <| .seq (.cond v20 (.fall)
  (.op (.bin .geq .no v1 (.int .i64 (.ofNat 65529))) fun v21 => .gop v21 true (.mv v1) fun v22 => .gop v21 true (.bin .leq .no v22 (.int .i64 (.ofNat 65533))) fun v23 => .op (.pick
  v21 v23 (.bool false)) fun v24 => .setv (.i (.i (.i (.i .h)))) v24 <| .seq (.cond v24 (.fall) (.op (.bin .geq .no v1 (.int .i64 (.ofNat 64976))) fun v25 => .gop v25 true (.mv v1)
  fun v26 => .gop v25 true (.bin .leq .no v26 (.int .i64 (.ofNat 65007))) fun v27 => .op (.pick v25 v27 (.bool false)) fun v28 => .setv (.i (.i (.i (.i .h)))) v28 <| .fall)) <|
  .fall)) <| .getv (.i (.i (.i (.i .h)))) fun v29 => .seq (.cond v29 (.setv (.i .h) (.bool true) <| .ret) (.fall)) <| .fall)) <| .fall)) <| .op (.bin .rem .no v1 (.int .i64 (.ofNat
  65536))) fun v30 => .op (.bin .geq .no v30 (.int .i64 (.ofNat 65534))) fun v31 => .setv (.i .h) v31 <| .ret) [.tmp (.i .h)]
theorem F253_ok : toFn Tryz.prog 253 [2,3,30] = some F253 := by kernel_rfl
def F254 : FnE := .body (.arg 0 fun v1 => .setv (.i .h) .nils <| .seq (.block 0 (.op (.bin .lss .no v1 (.int .i64 (.ofNat 0))) fun v2 => .gop v2 false (.mv v1) fun v3 => .gop v2 false (.bin .gtr .no v3
  (.int .i64 (.ofNat 1114111))) fun v4 => .op (.pick v2 (.bool true) v4) fun v5 => .gop v5 false (.mv v1) fun v6 => .gop v5 false (.bin .geq .no v6 (.int .i64 (.ofNat 55296))) fun
  v7 => .gop v5 false (.mv v7) fun v8 => .gop v8 true (.mv v1) fun v9 => .gop v8 true (.bin .leq .no v9 (.int .i64 (.ofNat 57343))) fun v10 => .gop v5 false (.pick v8 v10 (.bool
  false)) fun v11 => .op (.pick v5 (.bool true) v11) fun v12 => .seq (.cond v12 (.op (.bslice 5 1 3 [(.int .u8 (.ofNat 0))] [(0,(.int .u8 (.ofNat 239))),(1,(.int .u8 (.ofNat
  191))),(2,(.int .u8 (.ofNat 189)))]) fun v13 => .setv (.i .h) v13 <| .ret) (.op (.bin .lss .no v1 (.int .i64 (.ofNat 128))) fun v14 => .seq (.cond v14 (.op (.conv .u8 v1) fun v15
  => .op (.bslice 5 1 1 [(.int .u8 (.ofNat 0))] [(0,v15)]) fun v16 => .setv (.i .h) v16 <| .ret) (.op (.bin .lss .no v1 (.int .i64 (.ofNat 2048))) fun v17 => .seq (.cond v17 (.op
  (.bin .quo .no v1 (.int .i64 (.ofNat 64))) fun v18 => .op (.bin .add .no (.int .i64 (.ofNat 192)) v18) fun v19 => .op (.conv .u8 v19) fun v20 => .op (.bin .rem .no v1 (.int .i64
  (.ofNat 64))) fun v21 => .op (.bin .add .no (.int .i64 (.ofNat 128)) v21) fun v22 => .op (.conv .u8 v22) fun v23 => .op (.bslice 5 1 2 [(.int .u8 (.ofNat 0))] [(0,v20),(1,v23)])
  fun v24 => .setv (.i .h) v24 <| .ret) (.op (.bin .lss .no v1 (.int .i64 (.ofNat 65536))) fun v25 => .seq (.cond v25 (.op (.bin .quo .no v1 (.int .i64 (.ofNat 4096))) fun v26 =>
  .op (.bin .add .no (.int .i64 (.ofNat 224)) v26) fun v27 => .op (.conv .u8 v27) fun v28 => .op (.bin .quo .no v1 (.int .i64 (.ofNat 64))) fun v29 => .op (.bin .rem .no v29 (.int
  .i64 (.ofNat 64))) fun v30 => .op (.bin .add .no (.int .i64 (.ofNat 128)) v30) fun v31 => .op (.conv .u8 v31) fun v32 => .op (.bin .rem .no v1 (.int .i64 (.ofNat 64))) fun v33 =>
  .op (.bin .add .no (.int .i64 (.ofNat 128)) v33) fun v34 => .op (.conv .u8 v34) fun v35 => .op (.bslice 5 1 3 [(.int .u8 (.ofNat 0))] [(0,v28),(1,v32),(2,v35)]) fun v36 => .setv
  (.i .h) v36 <| .ret) (.fall)) <| .fall)) <| .fall)) <| .fall)) <| .fall)) <| .op (.bin .quo .no v1 (.int .i64 (.ofNat 262144))) fun v37 => .op (.bin .add .no (.int .i64 (.ofNat
  240)) v37) fun v38 => .op (.conv .u8 v38) fun v39 => .op (.bin .quo .no v1 (.int .i64 (.ofNat 4096))) fun v40 => .op (.bin .rem .no v40 (.int .i64 (.ofNat 64))) fun v41 => .op
  (.bin .add .no (.int .i64 (.ofNat 128)) v41) fun v42 => .op (.conv .u8 v42) fun v43 => .op (.bin .quo .no v1 (.int .i64 (.ofNat 64))) fun v44 => .op (.bin .rem .no v44 (.int .i64
  (.ofNat 64))) fun v45 => .op (.bin .add .no (.int .i64 (.ofNat 128)) v45) fun v46 => .op (.conv .u8 v46) fun v47 => .op (.bin .rem .no v1 (.int .i64 (.ofNat 64))) fun v48 => .op
  (.bin .add .no (.int .i64 (.ofNat 128)) v48) fun v49 => .op (.conv .u8 v49) fun v50 => .op (.bslice 5 1 4 [(.int .u8 (.ofNat 0))] [(0,v39),(1,v43),(2,v47),(3,v50)]) fun v51 =>
  .setv (.i .h) v51 <| .ret) [.tmp (.i .h)]
theorem F254_ok : toFn Tryz.prog 254 [2] = some F254 := by kernel_rfl
def F255 : FnE := .body (.arg 0 fun v1 => .arg 1 fun v2 => .setv (.i (.o .h)) (.str 0 []) <| .setv (.o (.i .h)) (.str 0 []) <| .setv (.i (.i .h)) (.bool false) <| .callf (.i (.o (.o (.o (.o (.o (.i (.o
  .h)))))))) [v1,v2] fun v3 => .op (.bin .geq .no v3 (.int .i64 (.ofNat 0))) fun v4 => .seq (.cond v4 (.op (.sstr v1 none (some v3)) fun v5 => .op (.len true v2) fun v6 => .op
  (.bin .add .no v3 v6) fun v7 => .op (.sstr v1 (some v7) none) fun v8 => .setv (.i (.o .h)) v5 <| .setv (.o (.i .h)) v8 <| .setv (.i (.i .h)) (.bool true) <| .ret) (.fall)) <|
  .setv (.i (.o .h)) v1 <| .setv (.o (.i .h)) (.str 0 []) <| .setv (.i (.i .h)) (.bool false) <| .ret) [.tmp (.i (.o .h)),.tmp (.o (.i .h)),.tmp (.i (.i .h))]
theorem F255_ok : toFn Tryz.prog 255 [4,5,6] = some F255 := by kernel_rfl
def F256 : FnE := .body (.arg 0 fun v1 => .op (.box 9 v1) fun v2 => .setv (.i .h) .nilf <| .op (.mkfn (.fn (.o (.i (.o (.o (.o (.o (.i (.o .h))))))))) [] [v2]) fun v3 => .setv (.i .h) v3 <| .ret) [.tmp (.i .h)]
theorem F256_ok : toFn Tryz.prog 256 [2] = some F256 := by kernel_rfl
def F257 : FnE := .body (.arg 0 fun v1 => .op (.box 9 v1) fun v2 => .setv (.i .h) .nilf <| .op (.mkfn (.fn (.i (.i (.o (.o (.o (.o (.i (.o .h))))))))) [] [v2]) fun v3 => .setv (.i .h) v3 <| .ret) [.tmp (.i .h)]
theorem F257_ok : toFn Tryz.prog 257 [2] = some F257 := by kernel_rfl
def F258 : FnE := .body (.arg 0 fun v1 => .setv (.i .h) (.bool false) <| .callf (.i (.o (.o (.o (.i (.i (.i .h))))))) [(.str 52
  [97,98,99,100,101,102,103,104,105,106,107,108,109,110,111,112,113,114,115,116,117,118,119,120,121,122,65,66,67,68,69,70,71,72,73,74,75,76,77,78,79,80,81,82,83,84,85,86,87,88,89,90]),v1]
  fun v2 => .op (.bin .geq .no v2 (.int .i64 (.ofNat 0))) fun v3 => .setv (.i .h) v3 <| .ret) [.tmp (.i .h)]
theorem F258_ok : toFn Tryz.prog 258 [2] = some F258 := by kernel_rfl
def F259 : FnE := .body (.arg 0 fun v1 => .arg 1 fun v2 => .setv (.i (.o .h)) (.str 0 []) <| .setv (.o (.i .h)) (.bool false) <| .callf (.o (.o (.i (.o (.o (.o (.i (.o .h)))))))) [v1,v2] fun v3 => .op (.un
  .not v3) fun v4 => .seq (.cond v4 (.setv (.i (.o .h)) v1 <| .setv (.o (.i .h)) (.bool false) <| .ret) (.fall)) <| .op (.len true v2) fun v5 => .op (.sstr v1 (some v5) none) fun
  v6 => .setv (.i (.o .h)) v6 <| .setv (.o (.i .h)) (.bool true) <| .ret) [.tmp (.i (.o .h)),.tmp (.o (.i .h))]
theorem F259_ok : toFn Tryz.prog 259 [4,5] = some F259 := by kernel_rfl
def F260 : FnE := .body (.arg 0 fun v1 => .setv (.i .h) (.str 0 []) <| .setv (.o (.o .h)) (.int .i64 (.ofNat 0)) <| .op (.alloc [.nilp,.nils] 347) fun v2 => .setv (.o (.i .h)) (.int .i64 (.ofNat 0)) <|
  .setv (.i (.i .h)) (.int .i64 (.ofNat 0)) <| .seq (.block 0 (.seq (.loop (.getv (.i (.i .h)) fun v3 => .op (.len true v1) fun v4 => .op (.bin .lss .no v3 v4) fun v5 => .seq
  (.cond v5 (.fall) ((.exit 0))) <| .seq (.block 1 (.seq (.block 2 (.op (.ixstr v1 v3) fun v6 => .op (.bin .eql .no v6 (.int .u8 (.ofNat 44))) fun v7 => .seq (.cond v7 (.setv (.o
  (.i .h)) (.int .i64 (.ofNat 5)) <| .fall) (.op (.ixstr v1 v3) fun v8 => .op (.bin .neq .no v8 (.int .u8 (.ofNat 61))) fun v9 => .seq (.cond v9 (.op (.ixstr v1 v3) fun v10 =>
  .callf (.i (.i (.o (.i (.o (.i (.i .h))))))) [v2,v10] fun _ => .fall) (.op (.sstr v1 (some v3) none) fun v12 => .callf (.i (.o (.i (.o (.o (.o (.i (.o .h)))))))) [v12,(.str 3
  [61,50,67])] fun v13 => .seq (.cond v13 (.callf (.i (.i (.o (.i (.o (.i (.i .h))))))) [v2,(.int .u8 (.ofNat 44))] fun _ => .op (.bin .add .no v3 (.int .i64 (.ofNat 2))) fun v15
  => .setv (.i (.i .h)) v15 <| .fall) (.op (.sstr v1 (some v3) none) fun v16 => .callf (.i (.o (.i (.o (.o (.o (.i (.o .h)))))))) [v16,(.str 3 [61,51,68])] fun v17 => .seq (.cond
  v17 (.callf (.i (.i (.o (.i (.o (.i (.i .h))))))) [v2,(.int .u8 (.ofNat 61))] fun _ => .op (.bin .add .no v3 (.int .i64 (.ofNat 2))) fun v19 => .setv (.i (.i .h)) v19 <| .fall)
  (.setv (.i .h) (.str 0 []) <| .setv (.o (.o .h)) (.int .i64 (.ofNat 4)) <| .ret)) <| .fall)) <| .fall)) <| .fall)) <| .fall)) <| .fall)) <| .getv (.i (.i .h)) fun v20 => .op
  (.bin .add .no v20 (.int .i64 (.ofNat 1))) fun v21 => .setv (.i (.i .h)) v21 <| .fall)) <| .fall)) <| .getv (.o (.i .h)) fun v22 => .op (.bin .neq .no v22 (.int .i64 (.ofNat 0)))
  fun v23 => .seq (.cond v23 (.setv (.i .h) (.str 0 []) <| .setv (.o (.o .h)) v22 <| .ret) (.fall)) <| .callf (.o (.o (.o (.i (.o (.i (.i .h))))))) [v2] fun v24 => .setv (.i .h)
  v24 <| .setv (.o (.o .h)) (.int .i64 (.ofNat 0)) <| .ret) [.tmp (.i .h),.tmp (.o (.o .h))]
theorem F260_ok : toFn Tryz.prog 260 [2,3,5,6] = some F260 := by kernel_rfl
def F261 : FnE := .body (.arg 0 fun v1 => .op (.alloc [(.bool false)] 4) fun v2 => .setv (.i .h) v2 <| .callf (.o (.i (.i (.o (.o (.o (.i (.o .h)))))))) [v1] fun v3 => .seq (.block 0 (.seq (.rfun v3
  (.block 2 (.arg 0 fun _ => .arg 1 fun v5 => .brnd <| .seq (.block 1 (.op (.bin .eql .no v5 (.int .i32 (.negSucc 0))) fun v6 => .seq (.cond v6 (.op (.store 1 v2 (.bool false)) fun
  _ => .ret) (.fall)) <| .fall)) <| .fall))) <| .fall)) <| .op (.store 1 v2 (.bool true)) fun _ => .ret) [.cell (.i .h) false 1]
theorem F261_ok : toFn Tryz.prog 261 [2] = some F261 := by kernel_rfl
def F262 : FnE := .body (.arg 0 fun v1 => .op (.box 197 v1) fun v2 => .setv (.i .h) (.bool false) <| .op (.faddr 2 v2) fun v3 => .op (.load false 1 v3) fun v4 => .callf (.o (.o (.o (.i (.o (.o (.o (.o
  .h)))))))) [v4] fun v5 => .callf (.i (.i (.i (.o (.o (.i (.o .h))))))) [v5] fun v6 => .op (.faddr 1 v2) fun v7 => .op (.load false 1 v7) fun v8 => .op (.bin .eql .no v8 (.str 0
  [])) fun v9 => .gop v9 false (.faddr 1 v2) fun v10 => .gop v9 false (.load false 1 v10) fun v11 => .gcallf v9 false (.o (.o (.o (.i (.o (.o (.o (.o .h)))))))) [v11] fun v12 =>
  .gcallf v9 false (.i (.i (.i (.o (.o (.i (.o .h))))))) [v12] fun v13 => .op (.pick v9 (.bool true) v13) fun v14 => .op (.faddr 0 v2) fun v15 => .op (.load false 1 v15) fun v16 =>
  .op (.bin .eql .no v16 (.str 1 [110])) fun v17 => .gop v17 false (.faddr 0 v2) fun v18 => .gop v17 false (.load false 1 v18) fun v19 => .gop v17 false (.bin .eql .no v19 (.str 1
  [121])) fun v20 => .op (.pick v17 (.bool true) v20) fun v21 => .gop v21 true (.mv v6) fun v22 => .op (.pick v21 v22 (.bool false)) fun v23 => .gop v23 true (.mv v14) fun v24 =>
  .op (.pick v23 v24 (.bool false)) fun v25 => .gop v25 true (.faddr 3 v2) fun v26 => .gop v25 true (.load false 1 v26) fun v27 => .gcallf v25 true (.i (.i (.i (.i (.o (.i (.o
  .h))))))) [v27] fun v28 => .op (.pick v25 v28 (.bool false)) fun v29 => .gop v29 true (.faddr 4 v2) fun v30 => .gop v29 true (.load false 1 v30) fun v31 => .gcallf v29 true (.o
  (.o (.o (.o (.i (.i (.o .h))))))) [v31,(.str 0 [])] fun v32 => .op (.pick v29 v32 (.bool false)) fun v33 => .setv (.i .h) v33 <| .ret) [.tmp (.i .h)]
theorem F262_ok : toFn Tryz.prog 262 [2] = some F262 := by kernel_rfl
def F263 : FnE := .body (.arg 0 fun v1 => .setv (.i .h) (.str 0 []) <| .op (.alloc [.nilp,.nils] 347) fun v2 => .op (.len true v1) fun v3 => .setv (.o (.o (.o .h))) (.int .i64 (.ofNat 0)) <| .seq (.block 0
  (.seq (.loop (.getv (.o (.o (.o .h))) fun v4 => .op (.bin .lss .no v4 v3) fun v5 => .seq (.cond v5 (.fall) ((.exit 0))) <| .seq (.block 1 (.op (.ixstr v1 v4) fun v6 => .seq
  (.block 2 (.op (.bin .eql .no v6 (.int .u8 (.ofNat 44))) fun v7 => .seq (.cond v7 (.callf (.o (.o (.i (.o (.o (.i (.i .h))))))) [v2,(.str 3 [61,50,67])] fun _ => .fall) (.op
  (.bin .eql .no v6 (.int .u8 (.ofNat 61))) fun v9 => .seq (.cond v9 (.callf (.o (.o (.i (.o (.o (.i (.i .h))))))) [v2,(.str 3 [61,51,68])] fun _ => .fall) (.op (.ixstr v1 v4) fun
  v11 => .callf (.i (.i (.o (.i (.o (.i (.i .h))))))) [v2,v11] fun _ => .fall)) <| .fall)) <| .fall)) <| .fall)) <| .op (.bin .add .no v4 (.int .i64 (.ofNat 1))) fun v13 => .setv
  (.o (.o (.o .h))) v13 <| .fall)) <| .fall)) <| .callf (.o (.o (.o (.i (.o (.i (.i .h))))))) [v2] fun v14 => .setv (.i .h) v14 <| .ret) [.tmp (.i .h)]
theorem F263_ok : toFn Tryz.prog 263 [2,7] = some F263 := by kernel_rfl
def F264 : FnE := .body (.arg 0 fun v1 => .arg 1 fun v2 => .arg 2 fun v3 => .op (.box 9 v1) fun v4 => .op (.box 4 v3) fun v5 => .setv (.i (.i .h)) (.str 0 []) <| .op (.alloc [.nilp,.nils] 347) fun v6 =>
  .callf (.i (.i (.i (.o (.o (.o (.i (.o .h)))))))) [v2] fun v7 => .seq (.block 0 (.seq (.rfun v7 (.block 1 (.arg 0 fun v8 => .brnd <| .seq (.block 1 (.op (.load false 1 v4) fun v9
  => .callf (.o (.o (.o (.i (.o (.o (.i (.o .h)))))))) [v9,v8] fun v10 => .callf (.i (.o (.o (.i (.o (.o (.i (.o .h)))))))) [v6,v10] fun _ => .op (.load false 1 v5) fun v12 => .seq
  (.cond v12 (.op (.len false v10) fun v13 => .op (.bin .sub .no (.int .i64 (.ofNat 4)) v13) fun v14 => .callf (.o (.i (.o (.i (.o (.o (.i (.o .h)))))))) [(.str 1 [61]),v14] fun
  v15 => .callf (.o (.o (.i (.o (.o (.i (.i .h))))))) [v6,v15] fun _ => .fall) (.fall)) <| .fall)) <| .fall))) <| .fall)) <| .callf (.o (.o (.o (.i (.o (.i (.i .h))))))) [v6] fun
  v17 => .setv (.i (.i .h)) v17 <| .ret) [.tmp (.i (.i .h))]
theorem F264_ok : toFn Tryz.prog 264 [6] = some F264 := by kernel_rfl
def F265 : FnE := .body (.arg 0 fun v1 => .setv (.i .h) (.str 0 []) <| .callf (.i (.i (.o (.i (.o (.o (.i (.o .h)))))))) [v1,(.int .i64 (.ofNat 10))] fun v2 => .setv (.i .h) v2 <| .ret) [.tmp (.i .h)]
theorem F265_ok : toFn Tryz.prog 265 [2] = some F265 := by kernel_rfl
def F266 : FnE := .body (.arg 0 fun v1 => .setv .h v1 <| .setv (.i .h) .nils <| .setv (.o (.o .h)) (.int .i64 (.ofNat 0)) <| .op (.len true v1) fun v2 => .op (.bin .rem .no v2 (.int .i64 (.ofNat 4))) fun
  v3 => .op (.bin .neq .no v3 (.int .i64 (.ofNat 0))) fun v4 => .seq (.cond v4 (.setv (.i .h) .nils <| .setv (.o (.o .h)) (.int .i64 (.ofNat 2)) <| .ret) (.fall)) <| .setv (.o (.i
  (.o .h))) (.int .i64 (.ofNat 0)) <| .seq (.block 0 (.seq (.loop (.getv (.o (.i (.o .h))) fun v5 => .op (.bin .lss .no v5 (.int .i64 (.ofNat 2))) fun v6 => .seq (.cond v6 (.fall)
  ((.exit 0))) <| .seq (.block 1 (.getv .h fun v7 => .op (.len true v7) fun v8 => .op (.bin .gtr .no v8 (.int .i64 (.ofNat 0))) fun v9 => .gop v9 true (.mv v7) fun v10 => .gop v9
  true (.mv v8) fun v11 => .gop v9 true (.bin .sub .no v11 (.int .i64 (.ofNat 1))) fun v12 => .gop v9 true (.ixstr v10 v12) fun v13 => .gop v9 true (.bin .eql .no v13 (.int .u8
  (.ofNat 61))) fun v14 => .op (.pick v9 v14 (.bool false)) fun v15 => .seq (.cond v15 (.op (.bin .sub .no v8 (.int .i64 (.ofNat 1))) fun v16 => .op (.sstr v7 none (some v16)) fun
  v17 => .setv .h v17 <| .fall) (.fall)) <| .fall)) <| .op (.bin .add .no v5 (.int .i64 (.ofNat 1))) fun v18 => .setv (.o (.i (.o .h))) v18 <| .fall)) <| .fall)) <| .getv .h fun
  v19 => .op (.len true v19) fun v20 => .op (.bin .rem .no v20 (.int .i64 (.ofNat 4))) fun v21 => .op (.bin .eql .no v21 (.int .i64 (.ofNat 1))) fun v22 => .seq (.cond v22 (.setv
  (.i .h) .nils <| .setv (.o (.o .h)) (.int .i64 (.ofNat 5)) <| .ret) (.fall)) <| .callf (.o (.o (.i (.i (.o (.o (.i (.o .h)))))))) [(.str 64
  [65,66,67,68,69,70,71,72,73,74,75,76,77,78,79,80,81,82,83,84,85,86,87,88,89,90,97,98,99,100,101,102,103,104,105,106,107,108,109,110,111,112,113,114,115,116,117,118,119,120,121,122,48,49,50,51,52,53,54,55,56,57,43,47]),v19]
  fun v23 => .op (.ext v23 0) fun v24 => .op (.ext v23 1) fun v25 => .setv (.i .h) v24 <| .setv (.o (.o .h)) v25 <| .ret) [.tmp (.i .h),.tmp (.o (.o .h))]
theorem F266_ok : toFn Tryz.prog 266 [0,2,3,9] = some F266 := by kernel_rfl
def F267 : FnE := .body (.arg 0 fun v1 => .arg 1 fun v2 => .callf (.o (.i (.i (.o (.i (.i (.o (.o .h)))))))) [v1] fun _ => .op (.bin .lss .no v2 (.int .i64 (.ofNat 0))) fun v4 => .seq (.cond v4 (.bad)
  (.fall)) <| .op (.nilck v1) fun v5 => .op (.faddr 1 v5) fun v6 => .op (.load false 1 v6) fun v7 => .op (.cap v7) fun v8 => .op (.nilck v1) fun v9 => .op (.faddr 1 v9) fun v10 =>
  .op (.load false 1 v10) fun v11 => .op (.len false v11) fun v12 => .op (.bin .sub .no v8 v12) fun v13 => .op (.bin .lss .no v13 v2) fun v14 => .seq (.cond v14 (.callf (.i (.o (.i
  (.i (.o (.o (.i (.o .h)))))))) [v1,v2] fun _ => .fall) (.fall)) <| .fall) []
theorem F267_ok : toFn Tryz.prog 267 [] = some F267 := by kernel_rfl
def F268 : FnE := .body (.arg 0 fun v1 => .setv (.i .h) (.str 0 []) <| .op (.bin .eql .no v1 (.str 1 [110])) fun v2 => .gop v2 false (.mv v1) fun v3 => .gop v2 false (.bin .eql .no v3 (.str 1 [121])) fun
  v4 => .op (.pick v2 (.bool true) v4) fun v5 => .seq (.cond v5 (.setv (.i .h) v1 <| .ret) (.fall)) <| .op (.len true v1) fun v6 => .op (.bin .lss .no v6 (.int .i64 (.ofNat 3)))
  fun v7 => .gop v7 false (.mv v1) fun v8 => .gop v7 false (.sstr v8 none (some (.int .i64 (.ofNat 2)))) fun v9 => .gop v7 false (.bin .neq .no v9 (.str 2 [112,61])) fun v10 => .op
  (.pick v7 (.bool true) v10) fun v11 => .seq (.cond v11 (.setv (.i .h) (.str 0 []) <| .ret) (.fall)) <| .setv (.o (.o .h)) (.int .i64 (.ofNat 2)) <| .seq (.block 0 (.seq (.loop
  (.getv (.o (.o .h)) fun v12 => .op (.len true v1) fun v13 => .op (.bin .lss .no v12 v13) fun v14 => .seq (.cond v14 (.fall) ((.exit 0))) <| .seq (.block 1 (.op (.ixstr v1 v12)
  fun v15 => .callf (.i (.i (.i (.i (.o (.o (.o (.o .h)))))))) [v15] fun v16 => .op (.un .not v16) fun v17 => .gop v17 true (.mv v15) fun v18 => .gop v17 true (.bin .lss .no v18
  (.int .u8 (.ofNat 48))) fun v19 => .gop v17 true (.mv v19) fun v20 => .gop v20 false (.mv v15) fun v21 => .gop v20 false (.bin .gtr .no v21 (.int .u8 (.ofNat 57))) fun v22 =>
  .gop v17 true (.pick v20 (.bool true) v22) fun v23 => .op (.pick v17 v23 (.bool false)) fun v24 => .gop v24 true (.mv v15) fun v25 => .gop v24 true (.bin .neq .no v25 (.int .u8
  (.ofNat 46))) fun v26 => .op (.pick v24 v26 (.bool false)) fun v27 => .gop v27 true (.mv v15) fun v28 => .gop v27 true (.bin .neq .no v28 (.int .u8 (.ofNat 45))) fun v29 => .op
  (.pick v27 v29 (.bool false)) fun v30 => .seq (.cond v30 (.setv (.i .h) (.str 0 []) <| .ret) (.fall)) <| .fall)) <| .op (.bin .add .no v12 (.int .i64 (.ofNat 1))) fun v31 =>
  .setv (.o (.o .h)) v31 <| .fall)) <| .fall)) <| .setv (.i .h) (.str 1 [112]) <| .ret) [.tmp (.i .h)]
theorem F268_ok : toFn Tryz.prog 268 [2,3] = some F268 := by kernel_rfl
def F269 : FnE := .body (.arg 0 fun v1 => .setv (.i .h) (.str 0 []) <| .setv (.o (.o .h)) (.int .i64 (.ofNat 0)) <| .setv (.i (.o .h)) (.str 0 []) <| .setv (.o (.i .h)) (.bool false) <| .setv (.i (.i .h))
  (.int .i64 (.ofNat 0)) <| .seq (.block 0 (.seq (.loop (.getv (.i (.i .h)) fun v2 => .op (.len true v1) fun v3 => .op (.bin .lss .no v2 v3) fun v4 => .seq (.cond v4 (.fall)
  ((.exit 0))) <| .seq (.block 1 (.op (.ixstr v1 v2) fun v5 => .op (.bin .eql .no v5 (.int .u8 (.ofNat 61))) fun v6 => .seq (.cond v6 (.op (.bin .add .no v2 (.int .i64 (.ofNat 3)))
  fun v7 => .op (.len true v1) fun v8 => .op (.bin .gtr .no v7 v8) fun v9 => .gop v9 false (.mv v1) fun v10 => .gop v9 false (.mv v2) fun v11 => .gop v9 false (.mv v2) fun v12 =>
  .gop v9 false (.bin .add .no v12 (.int .i64 (.ofNat 3))) fun v13 => .gop v9 false (.sstr v10 (some v11) (some v13)) fun v14 => .gop v9 false (.bin .neq .no v14 (.str 3
  [61,50,67])) fun v15 => .gop v9 false (.mv v15) fun v16 => .gop v16 true (.mv v1) fun v17 => .gop v16 true (.mv v2) fun v18 => .gop v16 true (.mv v2) fun v19 => .gop v16 true
  (.bin .add .no v19 (.int .i64 (.ofNat 3))) fun v20 => .gop v16 true (.sstr v17 (some v18) (some v20)) fun v21 => .gop v16 true (.bin .neq .no v21 (.str 3 [61,51,68])) fun v22 =>
  .gop v9 false (.pick v16 v22 (.bool false)) fun v23 => .op (.pick v9 (.bool true) v23) fun v24 => .seq (.cond v24 (.setv (.i .h) (.str 0 []) <| .setv (.o (.o .h)) (.int .i64
  (.ofNat 4)) <| .ret) (.fall)) <| .op (.bin .add .no v2 (.int .i64 (.ofNat 1))) fun v25 => .op (.ixstr v1 v25) fun v26 => .op (.bin .eql .no v26 (.int .u8 (.ofNat 50))) fun v27 =>
  .seq (.cond v27 (.getv (.i (.o .h)) fun v28 => .op (.bin .add .no v28 (.str 1 [44])) fun v29 => .setv (.i (.o .h)) v29 <| .fall) (.getv (.i (.o .h)) fun v30 => .op (.bin .add .no
  v30 (.str 1 [61])) fun v31 => .setv (.i (.o .h)) v31 <| .fall)) <| .op (.bin .add .no v2 (.int .i64 (.ofNat 2))) fun v32 => .setv (.i (.i .h)) v32 <| (.exit 1)) (.fall)) <| .getv
  (.o (.i .h)) fun v33 => .gop v33 false (.mv v1) fun v34 => .getv (.i (.i .h)) fun v35 => .gop v33 false (.mv v35) fun v36 => .gop v33 false (.ixstr v34 v36) fun v37 => .gop v33
  false (.bin .eql .no v37 (.int .u8 (.ofNat 44))) fun v38 => .op (.pick v33 (.bool true) v38) fun v39 => .setv (.o (.i .h)) v39 <| .getv (.i (.o .h)) fun v40 => .op (.bin .add .no
  v35 (.int .i64 (.ofNat 1))) fun v41 => .op (.sstr v1 (some v35) (some v41)) fun v42 => .op (.bin .add .no v40 v42) fun v43 => .setv (.i (.o .h)) v43 <| .fall)) <| .getv (.i (.i
  .h)) fun v44 => .op (.bin .add .no v44 (.int .i64 (.ofNat 1))) fun v45 => .setv (.i (.i .h)) v45 <| .fall)) <| .fall)) <| .getv (.o (.i .h)) fun v46 => .seq (.cond v46 (.setv (.i
  .h) (.str 0 []) <| .setv (.o (.o .h)) (.int .i64 (.ofNat 5)) <| .ret) (.fall)) <| .getv (.i (.o .h)) fun v47 => .setv (.i .h) v47 <| .setv (.o (.o .h)) (.int .i64 (.ofNat 0)) <|
  .ret) [.tmp (.i .h),.tmp (.o (.o .h))]
theorem F269_ok : toFn Tryz.prog 269 [2,3,4,5,6] = some F269 := by kernel_rfl
def F270 : FnE := .body (.arg 0 fun v1 => .setv (.i .h) (.bool false) <| .op (.bin .geq .no v1 (.int .u8 (.ofNat 97))) fun v2 => .gop v2 true (.mv v1) fun v3 => .gop v2 true (.bin .leq .no v3 (.int .u8
  (.ofNat 122))) fun v4 => .op (.pick v2 v4 (.bool false)) fun v5 => .gop v5 false (.mv v1) fun v6 => .gop v5 false (.bin .geq .no v6 (.int .u8 (.ofNat 65))) fun v7 => .gop v5
  false (.mv v7) fun v8 => .gop v8 true (.mv v1) fun v9 => .gop v8 true (.bin .leq .no v9 (.int .u8 (.ofNat 90))) fun v10 => .gop v5 false (.pick v8 v10 (.bool false)) fun v11 =>
  .op (.pick v5 (.bool true) v11) fun v12 => .setv (.i .h) v12 <| .ret) [.tmp (.i .h)]
theorem F270_ok : toFn Tryz.prog 270 [2] = some F270 := by kernel_rfl
def F271 : FnE := .body (.arg 0 fun v1 => .arg 1 fun v2 => .setv (.i (.o .h)) .nils <| .setv (.o (.i .h)) (.int .i64 (.ofNat 0)) <| .op (.un .not v2) fun v3 => .gop v3 true (.mv v1) fun v4 => .gop v3 true
  (.len true v4) fun v5 => .gop v3 true (.bin .rem .no v5 (.int .i64 (.ofNat 4))) fun v6 => .gop v3 true (.bin .neq .no v6 (.int .i64 (.ofNat 0))) fun v7 => .op (.pick v3 v7 (.bool
  false)) fun v8 => .gop v8 false (.mv v2) fun v9 => .gop v8 false (.mv v9) fun v10 => .gop v10 true (.mv v1) fun v11 => .gop v10 true (.len true v11) fun v12 => .gop v10 true
  (.bin .rem .no v12 (.int .i64 (.ofNat 4))) fun v13 => .gop v10 true (.bin .eql .no v13 (.int .i64 (.ofNat 1))) fun v14 => .gop v8 false (.pick v10 v14 (.bool false)) fun v15 =>
  .op (.pick v8 (.bool true) v15) fun v16 => .seq (.cond v16 (.setv (.i (.o .h)) .nils <| .setv (.o (.i .h)) (.int .i64 (.ofNat 2)) <| .ret) (.fall)) <| .op (.len true v1) fun v17
  => .setv (.i (.i .h)) v17 <| .op (.un .not v2) fun v18 => .gop v18 true (.mv v17) fun v19 => .gop v18 true (.bin .gtr .no v19 (.int .i64 (.ofNat 0))) fun v20 => .op (.pick v18
  v20 (.bool false)) fun v21 => .gop v21 true (.mv v1) fun v22 => .gop v21 true (.mv v17) fun v23 => .gop v21 true (.bin .sub .no v23 (.int .i64 (.ofNat 1))) fun v24 => .gop v21
  true (.ixstr v22 v24) fun v25 => .gop v21 true (.bin .eql .no v25 (.int .u8 (.ofNat 61))) fun v26 => .op (.pick v21 v26 (.bool false)) fun v27 => .seq (.cond v27 (.op (.bin .sub
  .no v17 (.int .i64 (.ofNat 1))) fun v28 => .setv (.i (.i .h)) v28 <| .op (.bin .sub .no v28 (.int .i64 (.ofNat 1))) fun v29 => .op (.ixstr v1 v29) fun v30 => .op (.bin .eql .no
  v30 (.int .u8 (.ofNat 61))) fun v31 => .seq (.cond v31 (.op (.bin .sub .no v28 (.int .i64 (.ofNat 1))) fun v32 => .setv (.i (.i .h)) v32 <| .fall) (.fall)) <| .fall) (.fall)) <|
  .getv (.i (.i .h)) fun v33 => .op (.bin .rem .no v33 (.int .i64 (.ofNat 4))) fun v34 => .op (.bin .eql .no v34 (.int .i64 (.ofNat 1))) fun v35 => .seq (.cond v35 (.setv (.i (.o
  .h)) .nils <| .setv (.o (.i .h)) (.int .i64 (.ofNat 5)) <| .ret) (.fall)) <| .setv (.o (.o (.o .h))) .nils <| .setv (.i (.o (.o .h))) (.int .i64 (.ofNat 0)) <| .seq (.block 0
  (.seq (.loop (.getv (.i (.o (.o .h))) fun v36 => .op (.bin .lss .no v36 v33) fun v37 => .seq (.cond v37 (.fall) ((.exit 0))) <| .seq (.block 1 (.op (.ixstr v1 v36) fun v38 =>
  .callf (.o (.i (.i (.i (.o (.o (.i (.o .h)))))))) [v38,v2] fun v39 => .op (.bin .lss .no v39 (.int .i64 (.ofNat 0))) fun v40 => .seq (.cond v40 (.setv (.i (.o .h)) .nils <| .setv
  (.o (.i .h)) (.int .i64 (.ofNat 5)) <| .ret) (.fall)) <| .setv (.i (.i (.o .h))) (.int .i64 (.ofNat 5)) <| .seq (.block 2 (.seq (.loop (.getv (.i (.i (.o .h))) fun v41 => .op
  (.bin .geq .no v41 (.int .i64 (.ofNat 0))) fun v42 => .seq (.cond v42 (.fall) ((.exit 2))) <| .seq (.block 3 (.getv (.o (.o (.o .h))) fun v43 => .op (.bin .shr .no v39 v41) fun
  v44 => .op (.bin .and .no v44 (.int .i64 (.ofNat 1))) fun v45 => .op (.conv .u8 v45) fun v46 => .op (.bslice 5 1 1 [(.int .u8 (.ofNat 0))] [(0,v46)]) fun v47 => .op (.app 5 1 1
  v43 v47) fun v48 => .setv (.o (.o (.o .h))) v48 <| .fall)) <| .op (.bin .sub .no v41 (.int .i64 (.ofNat 1))) fun v49 => .setv (.i (.i (.o .h))) v49 <| .fall)) <| .fall)) <|
  .fall)) <| .op (.bin .add .no v36 (.int .i64 (.ofNat 1))) fun v50 => .setv (.i (.o (.o .h))) v50 <| .fall)) <| .fall)) <| .setv (.o (.o (.i .h))) .nils <| .seq (.block 4 (.seq
  (.loop (.getv (.o (.o (.o .h))) fun v51 => .op (.len false v51) fun v52 => .op (.bin .geq .no v52 (.int .i64 (.ofNat 8))) fun v53 => .seq (.cond v53 (.fall) ((.exit 4))) <| .seq
  (.block 5 (.setv (.i (.o (.i .h))) (.int .u8 (.ofNat 0)) <| .op (.sslc 1 v51 none (some (.int .i64 (.ofNat 8))) none) fun v54 => .op (.len false v54) fun v55 => .setv (.o (.o (.i
  (.i (.i (.o .h)))))) (.int .i64 (.ofNat 0)) <| .seq (.block 6 (.seq (.loop (.getv (.o (.o (.i (.i (.i (.o .h)))))) fun v56 => .op (.bin .lss .no v56 v55) fun v57 => .seq (.cond
  v57 (.fall) ((.exit 6))) <| .seq (.block 7 (.op (.islc 1 v54 v56) fun v58 => .op (.load false 1 v58) fun v59 => .getv (.i (.o (.i .h))) fun v60 => .op (.bin .mul .no v60 (.int
  .u8 (.ofNat 2))) fun v61 => .op (.bin .add .no v61 v59) fun v62 => .setv (.i (.o (.i .h))) v62 <| .fall)) <| .op (.bin .add .no v56 (.int .i64 (.ofNat 1))) fun v63 => .setv (.o
  (.o (.i (.i (.i (.o .h)))))) v63 <| .fall)) <| .fall)) <| .getv (.o (.o (.i .h))) fun v64 => .getv (.i (.o (.i .h))) fun v65 => .op (.bslice 5 1 1 [(.int .u8 (.ofNat 0))]
  [(0,v65)]) fun v66 => .op (.sslc 1 v51 (some (.int .i64 (.ofNat 8))) none none) fun v67 => .op (.app 5 1 1 v64 v66) fun v68 => .setv (.o (.o (.i .h))) v68 <| .setv (.o (.o (.o
  .h))) v67 <| .fall)) <| .fall)) <| .fall)) <| .getv (.o (.o (.o .h))) fun v69 => .op (.len false v69) fun v70 => .setv (.i (.o (.i (.i (.o (.i .h)))))) (.int .i64 (.ofNat 0)) <|
  .seq (.block 8 (.seq (.loop (.getv (.i (.o (.i (.i (.o (.i .h)))))) fun v71 => .op (.bin .lss .no v71 v70) fun v72 => .seq (.cond v72 (.fall) ((.exit 8))) <| .seq (.block 9 (.op
  (.islc 1 v69 v71) fun v73 => .op (.load false 1 v73) fun v74 => .op (.bin .neq .no v74 (.int .u8 (.ofNat 0))) fun v75 => .seq (.cond v75 (.setv (.i (.o .h)) .nils <| .setv (.o
  (.i .h)) (.int .i64 (.ofNat 4)) <| .ret) (.fall)) <| .fall)) <| .op (.bin .add .no v71 (.int .i64 (.ofNat 1))) fun v76 => .setv (.i (.o (.i (.i (.o (.i .h)))))) v76 <| .fall)) <|
  .fall)) <| .getv (.o (.o (.i .h))) fun v77 => .setv (.i (.o .h)) v77 <| .setv (.o (.i .h)) (.int .i64 (.ofNat 0)) <| .ret) [.tmp (.i (.o .h)),.tmp (.o (.i .h))]
theorem F271_ok : toFn Tryz.prog 271 [4,5,6,7,8,10,11,12,91,108] = some F271 := by kernel_rfl
def F272 : FnE := .body (.arg 0 fun v1 => .arg 1 fun v2 => .setv (.i (.o .h)) (.int .u8 (.ofNat 0)) <| .seq (.block 0 (.op (.bin .lss .no v1 (.int .i64 (.ofNat 26))) fun v3 => .seq (.cond v3 (.op (.bin
  .add .no (.int .i64 (.ofNat 65)) v1) fun v4 => .op (.conv .u8 v4) fun v5 => .setv (.i (.o .h)) v5 <| .ret) (.op (.bin .lss .no v1 (.int .i64 (.ofNat 52))) fun v6 => .seq (.cond
  v6 (.op (.bin .add .no (.int .i64 (.ofNat 97)) v1) fun v7 => .op (.bin .sub .no v7 (.int .i64 (.ofNat 26))) fun v8 => .op (.conv .u8 v8) fun v9 => .setv (.i (.o .h)) v9 <| .ret)
  (.op (.bin .lss .no v1 (.int .i64 (.ofNat 62))) fun v10 => .seq (.cond v10 (.op (.bin .add .no (.int .i64 (.ofNat 48)) v1) fun v11 => .op (.bin .sub .no v11 (.int .i64 (.ofNat
  52))) fun v12 => .op (.conv .u8 v12) fun v13 => .setv (.i (.o .h)) v13 <| .ret) (.op (.bin .eql .no v1 (.int .i64 (.ofNat 62))) fun v14 => .gop v14 true (.mv v2) fun v15 => .op
  (.pick v14 v15 (.bool false)) fun v16 => .seq (.cond v16 (.setv (.i (.o .h)) (.int .u8 (.ofNat 45)) <| .ret) (.op (.bin .eql .no v1 (.int .i64 (.ofNat 62))) fun v17 => .seq
  (.cond v17 (.setv (.i (.o .h)) (.int .u8 (.ofNat 43)) <| .ret) (.seq (.cond v2 (.setv (.i (.o .h)) (.int .u8 (.ofNat 95)) <| .ret) (.fall)) <| .fall)) <| .fall)) <| .fall)) <|
  .fall)) <| .fall)) <| .fall)) <| .setv (.i (.o .h)) (.int .u8 (.ofNat 47)) <| .ret) [.tmp (.i (.o .h))]
theorem F272_ok : toFn Tryz.prog 272 [4] = some F272 := by kernel_rfl
def F273 : FnE := .body (.arg 0 fun v1 => .arg 1 fun v2 => .setv (.i (.o .h)) .nils <| .setv (.o (.i .h)) .nils <| .setv (.i (.i .h)) (.bool false) <| .op (.len false v2) fun v3 => .op (.bin .neq .no v3
  (.int .i64 (.ofNat 32))) fun v4 => .seq (.cond v4 (.setv (.i (.o .h)) .nils <| .setv (.o (.i .h)) .nils <| .setv (.i (.i .h)) (.bool false) <| .ret) (.fall)) <| .callf (.i (.o
  (.i (.o (.i (.o (.o (.o .h)))))))) [v2] fun v5 => .op (.ext v5 0) fun v6 => .op (.ext v5 1) fun v7 => .op (.nilck v1) fun v8 => .op (.faddr 0 v8) fun v9 => .op (.load false 1 v9)
  fun v10 => .op (.un .not v10) fun v11 => .gop v11 false (.mv v7) fun v12 => .gop v11 false (.un .not v12) fun v13 => .op (.pick v11 (.bool true) v13) fun v14 => .seq (.cond v14
  (.callf (.i (.i (.i (.o (.i (.i .h)))))) [v2] fun v15 => .setv (.i (.o .h)) .nils <| .setv (.o (.i .h)) v15 <| .setv (.i (.i .h)) (.bool true) <| .ret) (.fall)) <| .op (.bin .lss
  .no v6 (.int .i64 (.ofNat 1))) fun v16 => .gop v16 false (.mv v6) fun v17 => .gop v16 false (.mv v1) fun v18 => .gop v16 false (.nilck v18) fun v19 => .gop v16 false (.faddr 1
  v19) fun v20 => .gop v16 false (.load false 1 v20) fun v21 => .gop v16 false (.len false v21) fun v22 => .gop v16 false (.bin .gtr .no v17 v22) fun v23 => .op (.pick v16 (.bool
  true) v23) fun v24 => .seq (.cond v24 (.setv (.i (.o .h)) .nils <| .setv (.o (.i .h)) .nils <| .setv (.i (.i .h)) (.bool false) <| .ret) (.fall)) <| .op (.nilck v1) fun v25 =>
  .op (.faddr 1 v25) fun v26 => .op (.load false 1 v26) fun v27 => .op (.bin .sub .no v6 (.int .i64 (.ofNat 1))) fun v28 => .op (.islc 6 v27 v28) fun v29 => .op (.load true 6 v29)
  fun v30 => .op (.alloc [(.int .i64 (.ofNat 0)),.nils,.nils,(.int .i64 (.ofNat 0)),.nils,.nils] 333) fun v31 => .op (.store 6 v31 v30) fun _ => .op (.faddr 0 v31) fun v33 => .op
  (.load false 1 v33) fun v34 => .op (.bin .eql .no v34 (.int .i64 (.ofNat 4))) fun v35 => .seq (.cond v35 (.op (.faddr 4 v31) fun v36 => .op (.load false 1 v36) fun v37 => .op
  (.faddr 5 v31) fun v38 => .op (.load false 1 v38) fun v39 => .setv (.i (.o .h)) v37 <| .setv (.o (.i .h)) v39 <| .setv (.i (.i .h)) (.bool true) <| .ret) (.fall)) <| .op (.bslice
  3 1 1 [(.int .i64 (.ofNat 0))] [(0,v6)]) fun v40 => .op (.mkslice 5 1 1 [(.int .u8 (.ofNat 0))] (.int .i64 (.ofNat 32)) (.int .i64 (.ofNat 32))) fun v41 => .setv (.i (.o .h)) v40
  <| .setv (.o (.i .h)) v41 <| .setv (.i (.i .h)) (.bool true) <| .ret) [.tmp (.i (.o .h)),.tmp (.o (.i .h)),.tmp (.i (.i .h))]
theorem F273_ok : toFn Tryz.prog 273 [4,5,6] = some F273 := by kernel_rfl
def F274 : FnE := .body (.arg 0 fun v1 => .arg 1 fun v2 => .setv (.i (.o .h)) (.bool false) <| .op (.len false v1) fun v3 => .setv (.o (.i (.o .h))) (.int .i64 (.ofNat 0)) <| .seq (.block 0 (.seq (.loop
  (.getv (.o (.i (.o .h))) fun v4 => .op (.bin .lss .no v4 v3) fun v5 => .seq (.cond v5 (.fall) ((.exit 0))) <| .seq (.block 1 (.op (.islc 1 v1 v4) fun v6 => .op (.load false 1 v6)
  fun v7 => .op (.bin .eql .no v7 v2) fun v8 => .seq (.cond v8 (.setv (.i (.o .h)) (.bool true) <| .ret) (.fall)) <| .fall)) <| .op (.bin .add .no v4 (.int .i64 (.ofNat 1))) fun v9
  => .setv (.o (.i (.o .h))) v9 <| .fall)) <| .fall)) <| .setv (.i (.o .h)) (.bool false) <| .ret) [.tmp (.i (.o .h))]
theorem F274_ok : toFn Tryz.prog 274 [4,9] = some F274 := by kernel_rfl
def F275 : FnE := .body (.arg 0 fun v1 => .arg 1 fun v2 => .setv (.i (.o .h)) .nils <| .op (.len false v1) fun v3 => .op (.len false v2) fun v4 => .op (.mn [v3,v4]) fun v5 => .op (.mkslice 5 1 1 [(.int .u8
  (.ofNat 0))] v5 v5) fun v6 => .op (.len false v6) fun v7 => .setv (.o (.i (.o (.o .h)))) (.int .i64 (.ofNat 0)) <| .seq (.block 0 (.seq (.loop (.getv (.o (.i (.o (.o .h)))) fun
  v8 => .op (.bin .lss .no v8 v7) fun v9 => .seq (.cond v9 (.fall) ((.exit 0))) <| .seq (.block 1 (.op (.islc 1 v1 v8) fun v10 => .op (.load false 1 v10) fun v11 => .op (.islc 1 v2
  v8) fun v12 => .op (.load false 1 v12) fun v13 => .op (.bin .xor .no v11 v13) fun v14 => .op (.islc 1 v6 v8) fun v15 => .op (.store 1 v15 v14) fun _ => .fall)) <| .op (.bin .add
  .no v8 (.int .i64 (.ofNat 1))) fun v17 => .setv (.o (.i (.o (.o .h)))) v17 <| .fall)) <| .fall)) <| .setv (.i (.o .h)) v6 <| .ret) [.tmp (.i (.o .h))]
theorem F275_ok : toFn Tryz.prog 275 [4,17] = some F275 := by kernel_rfl
def F276 : FnE := .body (.arg 0 fun v1 => .setv (.i .h) (.int .i64 (.ofNat 0)) <| .setv (.o (.o .h)) (.bool false) <| .op (.len false v1) fun v2 => .op (.bin .neq .no v2 (.int .i64 (.ofNat 32))) fun v3 =>
  .gop v3 false (.mv v1) fun v4 => .gop v3 false (.sslc 1 v4 none (some (.int .i64 (.ofNat 28))) none) fun v5 => .gcallf v3 false (.i (.i (.i (.i (.o (.o (.i (.o .h)))))))) [] fun
  v6 => .gcallf v3 false (.o (.o (.o (.o (.i (.o .h)))))) [v5,v6] fun v7 => .gop v3 false (.un .not v7) fun v8 => .op (.pick v3 (.bool true) v8) fun v9 => .seq (.cond v9 (.setv (.i
  .h) (.int .i64 (.ofNat 0)) <| .setv (.o (.o .h)) (.bool false) <| .ret) (.fall)) <| .op (.sslc 1 v1 (some (.int .i64 (.ofNat 28))) none none) fun v10 => .callf (.o (.o (.o (.o
  (.o (.o .h)))))) [v10] fun v11 => .op (.conv .i64 v11) fun v12 => .setv (.i .h) v12 <| .setv (.o (.o .h)) (.bool true) <| .ret) [.tmp (.i .h),.tmp (.o (.o .h))]
theorem F276_ok : toFn Tryz.prog 276 [2,3] = some F276 := by kernel_rfl
def F277 : FnE := .body (.arg 0 fun v1 => .setv (.i .h) .nils <| .callf (.i (.i (.i (.i (.o (.o (.i (.o .h)))))))) [] fun v2 => .op (.conv .u32 v1) fun v3 => .op (.conv .u64 v3) fun v4 => .callf (.o (.i
  (.o (.o (.o (.o .h)))))) [v4,(.int .i64 (.ofNat 4))] fun v5 => .op (.app 5 1 1 v2 v5) fun v6 => .setv (.i .h) v6 <| .ret) [.tmp (.i .h)]
theorem F277_ok : toFn Tryz.prog 277 [2] = some F277 := by kernel_rfl
def F278 : FnE := .body (.arg 0 fun v1 => .arg 1 fun v2 => .op (.alloc [.nils,.nils] 404) fun v3 => .setv (.i (.o .h)) v3 <| .setv (.o (.i .h)) (.bool false) <| .op (.mkslice 5 1 1 [(.int .u8 (.ofNat 0))]
  (.int .i64 (.ofNat 32)) (.int .i64 (.ofNat 32))) fun v4 => .callf (.o (.o (.o (.o (.i (.o (.i (.o .h)))))))) [v2] fun v5 => .op (.ext v5 0) fun v6 => .op (.ext v5 1) fun _ =>
  .seq (.block 0 (.op (.len false v2) fun v8 => .op (.bin .neq .no v8 (.int .i64 (.ofNat 32))) fun v9 => .seq (.cond v9 (.op (.build [.nils,.nils] []) fun v10 => .op (.store 2 v3
  v10) fun _ => .setv (.o (.i .h)) (.bool false) <| .ret) (.op (.nilck v1) fun v12 => .op (.faddr 0 v12) fun v13 => .op (.load false 1 v13) fun v14 => .op (.un .not v14) fun v15 =>
  .gop v15 false (.mv v2) fun v16 => .gop v15 false (.sslc 1 v16 none (some (.int .i64 (.ofNat 28))) none) fun v17 => .gcallf v15 false (.o (.i (.o (.i (.i (.o (.o (.o .h))))))))
  [] fun v18 => .gcallf v15 false (.i (.o (.o (.i (.i (.o (.o (.o .h)))))))) [v17,v18] fun v19 => .gop v15 false (.un .not v19) fun v20 => .op (.pick v15 (.bool true) v20) fun v21
  => .seq (.cond v21 (.callf (.o (.i (.o (.o (.i (.i .h)))))) [v2] fun v22 => .op (.build [.nils,.nils] [(1,1,v22)]) fun v23 => .op (.store 2 v3 v23) fun _ => .setv (.o (.i .h))
  (.bool true) <| .ret) (.op (.bin .lss .no v6 (.int .i64 (.ofNat 1))) fun v25 => .gop v25 false (.mv v6) fun v26 => .gop v25 false (.mv v1) fun v27 => .gop v25 false (.nilck v27)
  fun v28 => .gop v25 false (.faddr 2 v28) fun v29 => .gop v25 false (.load false 1 v29) fun v30 => .gop v25 false (.len false v30) fun v31 => .gop v25 false (.bin .gtr .no v26
  v31) fun v32 => .op (.pick v25 (.bool true) v32) fun v33 => .seq (.cond v33 (.op (.build [.nils,.nils] []) fun v34 => .op (.store 2 v3 v34) fun _ => .setv (.o (.i .h)) (.bool
  false) <| .ret) (.fall)) <| .fall)) <| .fall)) <| .fall)) <| .op (.nilck v1) fun v36 => .op (.faddr 2 v36) fun v37 => .op (.load false 1 v37) fun v38 => .op (.bin .sub .no v6
  (.int .i64 (.ofNat 1))) fun v39 => .op (.islc 6 v38 v39) fun v40 => .op (.load true 6 v40) fun v41 => .op (.alloc [(.int .i64 (.ofNat 0)),.nils,.nils,(.int .i64 (.ofNat
  0)),.nils,.nils] 329) fun v42 => .op (.store 6 v42 v41) fun _ => .op (.faddr 0 v42) fun v44 => .op (.load false 1 v44) fun v45 => .op (.bin .eql .no v45 (.int .i64 (.ofNat 4)))
  fun v46 => .seq (.cond v46 (.op (.faddr 4 v42) fun v47 => .op (.load false 1 v47) fun v48 => .op (.faddr 5 v42) fun v49 => .op (.load false 1 v49) fun v50 => .callf (.i (.o (.o
  (.o (.i (.o (.i (.o .h)))))))) [v48] fun v51 => .chk false 1 v49 v50 <| .callf (.o (.i (.o (.o (.i (.i .h)))))) [v50] fun v52 => .op (.build [.nils,.nils] [(0,1,v51),(1,1,v52)])
  fun v53 => .op (.store 2 v3 v53) fun _ => .setv (.o (.i .h)) (.bool true) <| .ret) (.fall)) <| .op (.bslice 3 1 1 [(.int .i64 (.ofNat 0))] [(0,v6)]) fun v55 => .op (.build
  [.nils,.nils] [(0,1,v55),(1,1,v4)]) fun v56 => .op (.store 2 v3 v56) fun _ => .setv (.o (.i .h)) (.bool true) <| .ret) [.cell (.i (.o .h)) true 2,.tmp (.o (.i .h))]
theorem F278_ok : toFn Tryz.prog 278 [4,5] = some F278 := by kernel_rfl
def F279 : FnE := .body (.arg 0 fun v1 => .arg 1 fun v2 => .op (.box 404 v1) fun v3 => .op (.box 404 v2) fun v4 => .op (.alloc [.nils,.nils] 404) fun v5 => .setv (.i (.o .h)) v5 <| .op (.faddr 1 v3) fun v6
  => .op (.load false 1 v6) fun v7 => .op (.faddr 1 v4) fun v8 => .op (.load false 1 v8) fun v9 => .callf (.o (.i (.o (.o (.i (.o (.i (.o .h)))))))) [v7,v9] fun v10 => .op (.build
  [.nils,.nils] [(1,1,v10)]) fun v11 => .op (.alloc [.nils,.nils] 404) fun v12 => .op (.store 2 v12 v11) fun _ => .op (.faddr 0 v3) fun v14 => .op (.load false 1 v14) fun v15 =>
  .op (.len false v15) fun v16 => .setv (.o (.o (.i (.o .h)))) (.int .i64 (.ofNat 0)) <| .seq (.block 0 (.seq (.loop (.getv (.o (.o (.i (.o .h)))) fun v17 => .op (.bin .lss .no v17
  v16) fun v18 => .seq (.cond v18 (.fall) ((.exit 0))) <| .seq (.block 1 (.op (.islc 1 v15 v17) fun v19 => .op (.load false 1 v19) fun v20 => .op (.faddr 0 v4) fun v21 => .op
  (.load false 1 v21) fun v22 => .callf (.i (.i (.o (.o (.i (.o (.i (.o .h)))))))) [v22,v20] fun v23 => .op (.un .not v23) fun v24 => .seq (.cond v24 (.op (.faddr 0 v12) fun v25 =>
  .op (.load false 1 v25) fun v26 => .op (.bslice 3 1 1 [(.int .i64 (.ofNat 0))] [(0,v20)]) fun v27 => .op (.app 3 1 8 v26 v27) fun v28 => .op (.faddr 0 v12) fun v29 => .op (.store
  1 v29 v28) fun _ => .fall) (.fall)) <| .fall)) <| .op (.bin .add .no v17 (.int .i64 (.ofNat 1))) fun v31 => .setv (.o (.o (.i (.o .h)))) v31 <| .fall)) <| .fall)) <| .op (.faddr
  0 v4) fun v32 => .op (.load false 1 v32) fun v33 => .op (.len false v33) fun v34 => .setv (.i (.i (.i (.o (.o .h))))) (.int .i64 (.ofNat 0)) <| .seq (.block 2 (.seq (.loop (.getv
  (.i (.i (.i (.o (.o .h))))) fun v35 => .op (.bin .lss .no v35 v34) fun v36 => .seq (.cond v36 (.fall) ((.exit 2))) <| .seq (.block 3 (.op (.islc 1 v33 v35) fun v37 => .op (.load
  false 1 v37) fun v38 => .op (.faddr 0 v3) fun v39 => .op (.load false 1 v39) fun v40 => .callf (.i (.i (.o (.o (.i (.o (.i (.o .h)))))))) [v40,v38] fun v41 => .op (.un .not v41)
  fun v42 => .seq (.cond v42 (.op (.faddr 0 v12) fun v43 => .op (.load false 1 v43) fun v44 => .op (.bslice 3 1 1 [(.int .i64 (.ofNat 0))] [(0,v38)]) fun v45 => .op (.app 3 1 8 v44
  v45) fun v46 => .op (.faddr 0 v12) fun v47 => .op (.store 1 v47 v46) fun _ => .fall) (.fall)) <| .fall)) <| .op (.bin .add .no v35 (.int .i64 (.ofNat 1))) fun v49 => .setv (.i
  (.i (.i (.o (.o .h))))) v49 <| .fall)) <| .fall)) <| .op (.faddr 0 v12) fun v50 => .op (.load false 1 v50) fun v51 => .callf (.o (.o (.i (.o (.i (.o (.i (.o .h)))))))) [v51] fun
  _ => .op (.load true 2 v12) fun v53 => .op (.store 2 v5 v53) fun _ => .ret) [.cell (.i (.o .h)) true 2]
theorem F279_ok : toFn Tryz.prog 279 [4,19,38] = some F279 := by kernel_rfl
def F280 : FnE := .body (.arg 0 fun v1 => .arg 1 fun v2 => .setv (.i (.o .h)) (.bool false) <| .op (.b2s v1) fun v3 => .op (.b2s v2) fun v4 => .op (.bin .eql .no v3 v4) fun v5 => .setv (.i (.o .h)) v5 <|
  .ret) [.tmp (.i (.o .h))]
theorem F280_ok : toFn Tryz.prog 280 [4] = some F280 := by kernel_rfl
def F281 : FnE := .body (.setv .h .nils <| .op (.mkslice 5 1 1 [(.int .u8 (.ofNat 0))] (.int .i64 (.ofNat 28)) (.int .i64 (.ofNat 28))) fun v1 => .op (.bslice 5 1 4 [(.int .u8 (.ofNat 0))] [(0,(.int .u8
  (.ofNat 241))),(1,(.int .u8 (.ofNat 84))),(2,(.int .u8 (.ofNat 82))),(3,(.int .u8 (.ofNat 77)))]) fun v2 => .op (.copy 1 v1 v2) fun _ => .setv .h v1 <| .ret) [.tmp .h]
theorem F281_ok : toFn Tryz.prog 281 [0] = some F281 := by kernel_rfl
def F282 : FnE := .body (.arg 0 fun v1 => .setv (.i .h) .nils <| .callf (.o (.i (.o (.i (.i (.o (.o (.o .h)))))))) [] fun v2 => .op (.bin .shr .no v1 (.int .u64 (.ofNat 24))) fun v3 => .op (.conv .u8 v3)
  fun v4 => .op (.bin .shr .no v1 (.int .u64 (.ofNat 16))) fun v5 => .op (.conv .u8 v5) fun v6 => .op (.bin .shr .no v1 (.int .u64 (.ofNat 8))) fun v7 => .op (.conv .u8 v7) fun v8
  => .op (.conv .u8 v1) fun v9 => .op (.bslice 5 1 4 [(.int .u8 (.ofNat 0))] [(0,v4),(1,v6),(2,v8),(3,v9)]) fun v10 => .op (.app 5 1 1 v2 v10) fun v11 => .setv (.i .h) v11 <| .ret) [.tmp (.i .h)]
theorem F282_ok : toFn Tryz.prog 282 [2] = some F282 := by kernel_rfl
end
end Go.Proofs.YtkafdfjimlihdaaGreatDoor
