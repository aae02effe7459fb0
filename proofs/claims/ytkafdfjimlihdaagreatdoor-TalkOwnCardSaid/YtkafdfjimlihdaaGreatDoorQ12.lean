/- The forms of the functions that are reached. -/
import Derived.Test.YtkafdfjimlihdaaGreatDoorThree
import Derived.KernelRfl
import Derived.Test.YtkafdfjimlihdaaGreatDoorProg
set_option linter.unusedVariables false
set_option linter.unusedSimpArgs false
namespace Go.Proofs.YtkafdfjimlihdaaGreatDoor
open Go Go.Ev
noncomputable section
set_option maxRecDepth 100000
def F283 : FnE := .body (.arg 0 fun v1 => .op (.alloc [(.int .i64 (.ofNat 0)),(.str 0 []),(.str 0 []),(.str 0 []),(.str 0 []),.nils,.nils,(.int .i64 (.ofNat 0)),(.str 0 []),.nils,(.str 0 [])] 216) fun v2
  => .setv (.i .h) v2 <| .setv (.o (.o .h)) (.int .i64 (.ofNat 0)) <| .op (.len true v1) fun v3 => .op (.bin .gtr .no v3 (.int .i64 (.ofNat 4096))) fun v4 => .seq (.cond v4 (.callf
  (.i (.o (.i (.i (.i (.i (.o .h))))))) [(.int .i64 (.ofNat 3))] fun v5 => .op (.ext v5 0) fun v6 => .op (.ext v5 1) fun v7 => .op (.store 11 v2 v6) fun _ => .setv (.o (.o .h)) v7
  <| .ret) (.fall)) <| .callf (.o (.i (.i (.i (.i (.i (.o .h))))))) [v1] fun v9 => .op (.len false v9) fun v10 => .op (.bin .lss .no v10 (.int .i64 (.ofNat 3))) fun v11 => .seq
  (.cond v11 (.callf (.i (.o (.i (.i (.i (.i (.o .h))))))) [(.int .i64 (.ofNat 4))] fun v12 => .op (.ext v12 0) fun v13 => .op (.ext v12 1) fun v14 => .op (.store 11 v2 v13) fun _
  => .setv (.o (.o .h)) v14 <| .ret) (.fall)) <| .op (.islc 1 v9 (.int .i64 (.ofNat 0))) fun v16 => .op (.load false 1 v16) fun v17 => .callf (.o (.o (.o (.o (.o (.o (.i .h)))))))
  [v17,(.str 2 [99,61])] fun v18 => .op (.ext v18 0) fun v19 => .op (.ext v18 1) fun v20 => .op (.islc 1 v9 (.int .i64 (.ofNat 1))) fun v21 => .op (.load false 1 v21) fun v22 =>
  .callf (.o (.o (.o (.o (.o (.o (.i .h))))))) [v22,(.str 2 [114,61])] fun v23 => .op (.ext v23 0) fun v24 => .op (.ext v23 1) fun v25 => .op (.len false v9) fun v26 => .op (.bin
  .sub .no v26 (.int .i64 (.ofNat 1))) fun v27 => .op (.islc 1 v9 v27) fun v28 => .op (.load false 1 v28) fun v29 => .callf (.o (.o (.o (.o (.o (.o (.i .h))))))) [v29,(.str 2
  [112,61])] fun v30 => .op (.ext v30 0) fun v31 => .op (.ext v30 1) fun v32 => .callf (.i (.o (.i (.o (.o (.o (.i .h))))))) [v19,(.int .i64 (.ofNat 0)),(.int .i64 (.ofNat 4096))]
  fun v33 => .op (.ext v33 0) fun v34 => .op (.ext v33 1) fun v35 => .callf (.i (.o (.i (.o (.o (.o (.i .h))))))) [v31,(.int .i64 (.ofNat 32)),(.int .i64 (.ofNat 32))] fun v36 =>
  .op (.ext v36 0) fun v37 => .op (.ext v36 1) fun v38 => .op (.len false v9) fun v39 => .op (.bin .sub .no v39 (.int .i64 (.ofNat 1))) fun v40 => .op (.sslc 1 v9 (some (.int .i64
  (.ofNat 2))) (some v40) none) fun v41 => .callf (.i (.i (.o (.o (.o (.o (.i .h))))))) [v41] fun v42 => .op (.ext v42 0) fun v43 => .op (.ext v42 1) fun v44 => .op (.ext v42 2)
  fun v45 => .op (.b2s v34) fun v46 => .callf (.o (.i (.i (.i (.i (.o (.o (.o .h)))))))) [v46] fun v47 => .op (.ext v47 0) fun v48 => .op (.ext v47 1) fun v49 => .setv (.i (.i (.o
  (.o .h)))) v48 <| .op (.len false v43) fun v50 => .setv (.i (.o (.o (.i (.i (.o .h)))))) (.int .i64 (.ofNat 0)) <| .seq (.block 0 (.seq (.loop (.getv (.i (.o (.o (.i (.i (.o
  .h)))))) fun v51 => .op (.bin .lss .no v51 v50) fun v52 => .seq (.cond v52 (.fall) ((.exit 0))) <| .seq (.block 1 (.op (.islc 2 v43 v51) fun v53 => .op (.load true 2 v53) fun v54
  => .op (.alloc [(.str 0 []),(.str 0 [])] 305) fun v55 => .op (.store 2 v55 v54) fun _ => .getv (.i (.i (.o (.o .h)))) fun v57 => .gop v57 true (.faddr 0 v55) fun v58 => .gop v57
  true (.load false 1 v58) fun v59 => .gop v57 true (.bin .neq .no v59 (.str 1 [112])) fun v60 => .op (.pick v57 v60 (.bool false)) fun v61 => .setv (.i (.i (.o (.o .h)))) v61 <|
  .fall)) <| .op (.bin .add .no v51 (.int .i64 (.ofNat 1))) fun v62 => .setv (.i (.o (.o (.i (.i (.o .h)))))) v62 <| .fall)) <| .fall)) <| .op (.un .not v20) fun v63 => .gop v63
  false (.mv v25) fun v64 => .gop v63 false (.un .not v64) fun v65 => .op (.pick v63 (.bool true) v65) fun v66 => .gop v66 false (.mv v32) fun v67 => .gop v66 false (.un .not v67)
  fun v68 => .op (.pick v66 (.bool true) v68) fun v69 => .gop v69 false (.mv v35) fun v70 => .gop v69 false (.un .not v70) fun v71 => .op (.pick v69 (.bool true) v71) fun v72 =>
  .gop v72 false (.mv v38) fun v73 => .gop v72 false (.un .not v73) fun v74 => .op (.pick v72 (.bool true) v74) fun v75 => .gop v75 false (.mv v44) fun v76 => .gop v75 false (.un
  .not v76) fun v77 => .op (.pick v75 (.bool true) v77) fun v78 => .getv (.i (.i (.o (.o .h)))) fun v79 => .gop v78 false (.mv v79) fun v80 => .gop v78 false (.un .not v80) fun v81
  => .op (.pick v78 (.bool true) v81) fun v82 => .gop v82 false (.mv v24) fun v83 => .gcallf v82 false (.i (.i (.i (.o (.o (.o (.o .h))))))) [v83] fun v84 => .gop v82 false (.un
  .not v84) fun v85 => .op (.pick v82 (.bool true) v85) fun v86 => .seq (.cond v86 (.callf (.i (.o (.i (.i (.i (.i (.o .h))))))) [(.int .i64 (.ofNat 4))] fun v87 => .op (.ext v87
  0) fun v88 => .op (.ext v87 1) fun v89 => .op (.store 11 v2 v88) fun _ => .setv (.o (.o .h)) v89 <| .ret) (.fall)) <| .op (.b2s v34) fun v91 => .op (.build [(.int .i64 (.ofNat
  0)),(.str 0 []),(.str 0 []),(.str 0 []),(.str 0 []),.nils,.nils,(.int .i64 (.ofNat 0)),(.str 0 []),.nils,(.str 0 [])] [(0,1,(.int .i64 (.ofNat
  3))),(8,1,v91),(4,1,v24),(5,1,v43),(9,1,v37)]) fun v92 => .gop v49 false (.mv v45) fun v93 => .op (.pick v49 (.bool true) v93) fun v94 => .callf (.o (.o (.i (.o (.o (.o (.i
  .h))))))) [v92,v94] fun v95 => .op (.ext v95 0) fun v96 => .op (.ext v95 1) fun v97 => .op (.store 11 v2 v96) fun _ => .setv (.o (.o .h)) v97 <| .ret) [.cell (.i .h) true 11,.tmp (.o (.o .h))]
theorem F283_ok : toFn Tryz.prog 283 [2,3,18,88] = some F283 := by kernel_rfl
def F284 : FnE := .body (.arg 0 fun v1 => .op (.alloc [(.int .i64 (.ofNat 0)),(.str 0 []),(.str 0 []),(.str 0 []),(.str 0 []),.nils,.nils,(.int .i64 (.ofNat 0)),(.str 0 []),.nils,(.str 0 [])] 216) fun v2
  => .setv (.i .h) v2 <| .setv (.o (.o .h)) (.int .i64 (.ofNat 0)) <| .op (.len true v1) fun v3 => .op (.bin .gtr .no v3 (.int .i64 (.ofNat 4096))) fun v4 => .seq (.cond v4 (.callf
  (.i (.o (.i (.i (.i (.i (.o .h))))))) [(.int .i64 (.ofNat 3))] fun v5 => .op (.ext v5 0) fun v6 => .op (.ext v5 1) fun v7 => .op (.store 11 v2 v6) fun _ => .setv (.o (.o .h)) v7
  <| .ret) (.fall)) <| .callf (.o (.i (.i (.i (.i (.i (.o .h))))))) [v1] fun v9 => .op (.sslc 1 v9 (some (.int .i64 (.ofNat 1))) none none) fun v10 => .callf (.i (.i (.o (.o (.o
  (.o (.i .h))))))) [v10] fun v11 => .op (.ext v11 0) fun v12 => .op (.ext v11 1) fun v13 => .op (.ext v11 2) fun v14 => .op (.un .not v13) fun v15 => .seq (.cond v15 (.callf (.i
  (.o (.i (.i (.i (.i (.o .h))))))) [(.int .i64 (.ofNat 4))] fun v16 => .op (.ext v16 0) fun v17 => .op (.ext v16 1) fun v18 => .op (.store 11 v2 v17) fun _ => .setv (.o (.o .h))
  v18 <| .ret) (.fall)) <| .op (.islc 1 v9 (.int .i64 (.ofNat 0))) fun v20 => .op (.load false 1 v20) fun v21 => .callf (.o (.o (.o (.o (.o (.o (.i .h))))))) [v21,(.str 2
  [101,61])] fun v22 => .op (.ext v22 0) fun v23 => .op (.ext v22 1) fun v24 => .seq (.cond v24 (.callf (.i (.o (.o (.o (.o (.o (.i .h))))))) [v23] fun v25 => .op (.un .not v25)
  fun v26 => .seq (.cond v26 (.callf (.i (.o (.i (.i (.i (.i (.o .h))))))) [(.int .i64 (.ofNat 4))] fun v27 => .op (.ext v27 0) fun v28 => .op (.ext v27 1) fun v29 => .op (.store
  11 v2 v28) fun _ => .setv (.o (.o .h)) v29 <| .ret) (.fall)) <| .op (.build [(.int .i64 (.ofNat 0)),(.str 0 []),(.str 0 []),(.str 0 []),(.str 0 []),.nils,.nils,(.int .i64 (.ofNat
  0)),(.str 0 []),.nils,(.str 0 [])] [(0,1,(.int .i64 (.ofNat 4))),(10,1,v23),(5,1,v12)]) fun v31 => .callf (.o (.o (.i (.o (.o (.o (.i .h))))))) [v31,v14] fun v32 => .op (.ext v32
  0) fun v33 => .op (.ext v32 1) fun v34 => .op (.store 11 v2 v33) fun _ => .setv (.o (.o .h)) v34 <| .ret) (.fall)) <| .op (.islc 1 v9 (.int .i64 (.ofNat 0))) fun v36 => .op
  (.load false 1 v36) fun v37 => .callf (.o (.o (.o (.o (.o (.o (.i .h))))))) [v37,(.str 2 [118,61])] fun v38 => .op (.ext v38 0) fun v39 => .op (.ext v38 1) fun v40 => .callf (.i
  (.o (.i (.o (.o (.o (.i .h))))))) [v39,(.int .i64 (.ofNat 32)),(.int .i64 (.ofNat 32))] fun v41 => .op (.ext v41 0) fun v42 => .op (.ext v41 1) fun v43 => .op (.un .not v40) fun
  v44 => .gop v44 false (.mv v43) fun v45 => .gop v44 false (.un .not v45) fun v46 => .op (.pick v44 (.bool true) v46) fun v47 => .seq (.cond v47 (.callf (.i (.o (.i (.i (.i (.i
  (.o .h))))))) [(.int .i64 (.ofNat 4))] fun v48 => .op (.ext v48 0) fun v49 => .op (.ext v48 1) fun v50 => .op (.store 11 v2 v49) fun _ => .setv (.o (.o .h)) v50 <| .ret) (.fall))
  <| .op (.build [(.int .i64 (.ofNat 0)),(.str 0 []),(.str 0 []),(.str 0 []),(.str 0 []),.nils,.nils,(.int .i64 (.ofNat 0)),(.str 0 []),.nils,(.str 0 [])] [(0,1,(.int .i64 (.ofNat
  4))),(9,1,v42),(5,1,v12)]) fun v52 => .callf (.o (.o (.i (.o (.o (.o (.i .h))))))) [v52,v14] fun v53 => .op (.ext v53 0) fun v54 => .op (.ext v53 1) fun v55 => .op (.store 11 v2
  v54) fun _ => .setv (.o (.o .h)) v55 <| .ret) [.cell (.i .h) true 11,.tmp (.o (.o .h))]
theorem F284_ok : toFn Tryz.prog 284 [2,3] = some F284 := by kernel_rfl
def F285 : FnE := .body (.arg 0 fun v1 => .setv (.i .h) (.bool false) <| .setv (.o (.o .h)) (.bool false) <| .callf (.o (.i (.i (.i (.i (.i (.o .h))))))) [v1] fun v2 => .op (.len false v2) fun v3 => .op
  (.bin .neq .no v3 (.int .i64 (.ofNat 3))) fun v4 => .gop v4 false (.mv v2) fun v5 => .gop v4 false (.islc 1 v5 (.int .i64 (.ofNat 2))) fun v6 => .gop v4 false (.load false 1 v6)
  fun v7 => .gop v4 false (.bin .neq .no v7 (.str 0 [])) fun v8 => .op (.pick v4 (.bool true) v8) fun v9 => .seq (.cond v9 (.setv (.i .h) (.bool false) <| .setv (.o (.o .h)) (.bool
  false) <| .ret) (.fall)) <| .op (.islc 1 v2 (.int .i64 (.ofNat 0))) fun v10 => .op (.load false 1 v10) fun v11 => .op (.islc 1 v2 (.int .i64 (.ofNat 1))) fun v12 => .op (.load
  false 1 v12) fun v13 => .callf (.i (.i (.i (.i (.i (.i (.o .h))))))) [v11,v13] fun v14 => .op (.ext v14 0) fun v15 => .op (.ext v14 1) fun _ => .op (.ext v14 2) fun v17 => .op
  (.bin .eql .no v15 (.str 1 [112])) fun v18 => .setv (.i .h) v17 <| .setv (.o (.o .h)) v18 <| .ret) [.tmp (.i .h),.tmp (.o (.o .h))]
theorem F285_ok : toFn Tryz.prog 285 [2,3] = some F285 := by kernel_rfl
def F286 : FnE := .body (.arg 0 fun v1 => .arg 1 fun v2 => .setv (.i (.o .h)) (.bool false) <| .op (.len false v1) fun v3 => .op (.len false v2) fun v4 => .op (.bin .neq .no v3 v4) fun v5 => .seq (.cond v5
  (.setv (.i (.o .h)) (.bool false) <| .ret) (.fall)) <| .op (.len false v1) fun v6 => .setv (.o (.i (.i .h))) (.int .i64 (.ofNat 0)) <| .seq (.block 0 (.seq (.loop (.getv (.o (.i
  (.i .h))) fun v7 => .op (.bin .lss .no v7 v6) fun v8 => .seq (.cond v8 (.fall) ((.exit 0))) <| .seq (.block 1 (.op (.islc 2 v1 v7) fun v9 => .op (.load true 2 v9) fun v10 => .op
  (.islc 2 v2 v7) fun v11 => .op (.load true 2 v11) fun v12 => .op (.bin .neq .no v10 v12) fun v13 => .seq (.cond v13 (.setv (.i (.o .h)) (.bool false) <| .ret) (.fall)) <| .fall))
  <| .op (.bin .add .no v7 (.int .i64 (.ofNat 1))) fun v14 => .setv (.o (.i (.i .h))) v14 <| .fall)) <| .fall)) <| .setv (.i (.o .h)) (.bool true) <| .ret) [.tmp (.i (.o .h))]
theorem F286_ok : toFn Tryz.prog 286 [4,13] = some F286 := by kernel_rfl
def F287 : FnE := .body (.arg 0 fun v1 => .op (.alloc [(.str 0 [])] 9) fun v2 => .setv (.i .h) v2 <| .op (.alloc [(.int .i64 (.ofNat 0))] 35) fun v3 => .setv (.o (.o .h)) v3 <| .callf (.o (.i (.i (.o (.o
  (.o (.o (.o .h)))))))) [v1] fun v4 => .op (.un .not v4) fun v5 => .seq (.cond v5 (.op (.store 1 v2 (.str 0 [])) fun _ => .op (.store 1 v3 (.int .i64 (.ofNat 4))) fun _ => .ret)
  (.fall)) <| .op (.alloc [.nils] 43) fun v8 => .callf (.i (.o (.i (.o (.i (.o (.i (.o .h)))))))) [v1] fun v9 => .seq (.block 0 (.seq (.rfun v9 (.block 1 (.arg 0 fun v10 => .brnd
  <| .seq (.block 1 (.op (.sarr 9 2 (.ptr (.o .h) 0) none none none) fun v11 => .callf (.o (.i (.i (.o (.i (.o (.i (.o .h)))))))) [v10,v11] fun v12 => .gop v12 false (.mv v10) fun
  v13 => .gop v12 false (.bin .and .no v13 (.int .i32 (.ofNat 65534))) fun v14 => .gop v12 false (.bin .eql .no v14 (.int .i32 (.ofNat 65534))) fun v15 => .op (.pick v12 (.bool
  true) v15) fun v16 => .seq (.cond v16 (.op (.store 1 v2 (.str 0 [])) fun _ => .op (.store 1 v3 (.int .i64 (.ofNat 5))) fun _ => .ret) (.fall)) <| .op (.load false 1 v8) fun v19
  => .callf (.i (.i (.i (.o (.i (.o (.i (.o .h)))))))) [v19,v10] fun v20 => .op (.store 1 v8 v20) fun _ => .fall)) <| .fall))) <| .fall)) <| .op (.load false 1 v8) fun v22 => .op
  (.b2s v22) fun v23 => .op (.store 1 v2 v23) fun _ => .op (.store 1 v3 (.int .i64 (.ofNat 0))) fun _ => .ret) [.cell (.i .h) false 1,.cell (.o (.o .h)) false 1]
theorem F287_ok : toFn Tryz.prog 287 [2,3] = some F287 := by kernel_rfl
def F288 : FnE := .body (.arg 0 fun v1 => .op (.box 329 v1) fun v2 => .setv (.i .h) (.str 0 []) <| .op (.alloc [.nils] 43) fun v3 => .op (.mkfn (.fn (.o (.o (.o (.i (.i (.o (.i (.o .h))))))))) [] [v3]) fun
  v4 => .op (.faddr 0 v2) fun v5 => .op (.load false 1 v5) fun v6 => .op (.faddr 3 v2) fun v7 => .op (.load false 1 v7) fun v8 => .op (.faddr 1 v2) fun v9 => .op (.load false 1 v9)
  fun v10 => .op (.len false v10) fun v11 => .op (.faddr 2 v2) fun v12 => .op (.load false 1 v12) fun v13 => .op (.len false v13) fun v14 => .op (.faddr 4 v2) fun v15 => .op (.load
  false 1 v15) fun v16 => .op (.len false v16) fun v17 => .op (.bslice 3 1 5 [(.int .i64 (.ofNat 0))] [(0,v6),(1,v8),(2,v11),(3,v14),(4,v17)]) fun v18 => .op (.len false v18) fun
  v19 => .setv (.o (.i (.o (.i .h)))) (.int .i64 (.ofNat 0)) <| .seq (.block 0 (.seq (.loop (.getv (.o (.i (.o (.i .h)))) fun v20 => .op (.bin .lss .no v20 v19) fun v21 => .seq
  (.cond v21 (.fall) ((.exit 0))) <| .seq (.block 1 (.op (.islc 1 v18 v20) fun v22 => .op (.load false 1 v22) fun v23 => .callv v4 [v23] fun _ => .fall)) <| .op (.bin .add .no v20
  (.int .i64 (.ofNat 1))) fun v25 => .setv (.o (.i (.o (.i .h)))) v25 <| .fall)) <| .fall)) <| .op (.faddr 4 v2) fun v26 => .op (.load false 1 v26) fun v27 => .op (.len false v27)
  fun v28 => .setv (.i (.o (.i (.o (.o .h))))) (.int .i64 (.ofNat 0)) <| .seq (.block 2 (.seq (.loop (.getv (.i (.o (.i (.o (.o .h))))) fun v29 => .op (.bin .lss .no v29 v28) fun
  v30 => .seq (.cond v30 (.fall) ((.exit 2))) <| .seq (.block 3 (.op (.islc 1 v27 v29) fun v31 => .op (.load false 1 v31) fun v32 => .callv v4 [v32] fun _ => .fall)) <| .op (.bin
  .add .no v29 (.int .i64 (.ofNat 1))) fun v34 => .setv (.i (.o (.i (.o (.o .h))))) v34 <| .fall)) <| .fall)) <| .op (.load false 1 v3) fun v35 => .op (.faddr 1 v2) fun v36 => .op
  (.load false 1 v36) fun v37 => .op (.faddr 2 v2) fun v38 => .op (.load false 1 v38) fun v39 => .op (.faddr 5 v2) fun v40 => .op (.load false 1 v40) fun v41 => .op (.bslice 43 1 4
  [.nils] [(0,v35),(1,v37),(2,v39),(3,v41)]) fun v42 => .callf (.o (.i (.i (.o (.i (.o (.i .h))))))) [v42,.nils] fun v43 => .op (.b2s v43) fun v44 => .setv (.i .h) v44 <| .ret) [.tmp (.i .h)]
theorem F288_ok : toFn Tryz.prog 288 [2,25,36] = some F288 := by kernel_rfl
def F289 : FnE := .body (.arg 0 fun v1 => .op (.box 329 v1) fun v2 => .op (.alloc [(.int .i64 (.ofNat 0)),.nils,.nils,(.int .i64 (.ofNat 0)),.nils,.nils] 329) fun v3 => .setv (.i .h) v3 <| .op (.faddr 1
  v2) fun v4 => .op (.load false 1 v4) fun v5 => .op (.faddr 2 v2) fun v6 => .op (.load false 1 v6) fun v7 => .op (.faddr 4 v2) fun v8 => .op (.load false 1 v8) fun v9 => .op
  (.faddr 5 v2) fun v10 => .op (.load false 1 v10) fun v11 => .callf (.o (.i (.o (.o (.i (.i .h)))))) [v5] fun v12 => .chk false 1 v6 v7 <| .chk false 1 v8 v9 <| .chk false 1 v10
  v11 <| .op (.faddr 1 v2) fun v13 => .callf (.o (.i (.o (.o (.i (.i .h)))))) [v7] fun v14 => .chk false 1 v8 v9 <| .chk false 1 v10 v11 <| .callf (.i (.o (.o (.o (.i (.o (.i (.o
  .h)))))))) [v9] fun v15 => .chk false 1 v10 v11 <| .callf (.o (.i (.o (.o (.i (.i .h)))))) [v11] fun v16 => .op (.store 1 v13 v12) fun _ => .op (.faddr 2 v2) fun v18 => .op
  (.store 1 v18 v14) fun _ => .op (.faddr 4 v2) fun v20 => .op (.store 1 v20 v15) fun _ => .op (.faddr 5 v2) fun v22 => .op (.store 1 v22 v16) fun _ => .op (.load true 6 v2) fun
  v24 => .op (.store 6 v3 v24) fun _ => .ret) [.cell (.i .h) true 6]
theorem F289_ok : toFn Tryz.prog 289 [2] = some F289 := by kernel_rfl
def F290 : FnE := .body (.arg 0 fun v1 => .setv (.i .h) (.bool false) <| .op (.bin .geq .no v1 (.int .i64 (.ofNat 1))) fun v2 => .gop v2 true (.mv v1) fun v3 => .gop v2 true (.bin .leq .no v3 (.int .i64
  (.ofNat 128))) fun v4 => .op (.pick v2 v4 (.bool false)) fun v5 => .setv (.i .h) v5 <| .ret) [.tmp (.i .h)]
theorem F290_ok : toFn Tryz.prog 290 [2] = some F290 := by kernel_rfl
def F291 : FnE := .body (.arg 0 fun v1 => .arg 1 fun v2 => .op (.box 3 v1) fun v3 => .setv (.i (.o .h)) .nils <| .op (.alloc [.nils] 43) fun v4 => .seq (.block 0 (.seq (.rfun v2 (.block 1 (.arg 0 fun v5 =>
  .brnd <| .seq (.block 1 (.op (.load false 1 v4) fun v6 => .op (.app 5 1 1 v6 v5) fun v7 => .op (.store 1 v4 v7) fun _ => .op (.load false 1 v4) fun v9 => .op (.len false v9) fun
  v10 => .op (.load false 1 v3) fun v11 => .op (.bin .geq .no v10 v11) fun v12 => .seq (.cond v12 ((.exit 0)) (.fall)) <| .fall)) <| .fall))) <| .fall)) <| .op (.load false 1 v4)
  fun v13 => .op (.load false 1 v3) fun v14 => .op (.sslc 1 v13 none (some v14) none) fun v15 => .callf (.o (.i (.o (.o (.i (.i .h)))))) [v15] fun v16 => .setv (.i (.o .h)) v16 <|
  .ret) [.tmp (.i (.o .h))]
theorem F291_ok : toFn Tryz.prog 291 [4] = some F291 := by kernel_rfl
def F292 : FnE := .body (.arg 0 fun v1 => .arg 1 fun v2 => .arg 2 fun v3 => .op (.box 43 v1) fun v4 => .op (.box 43 v2) fun v5 => .op (.box 3 v3) fun v6 => .setv (.i (.i .h)) .nilf <| .op (.mkfn (.fn (.i
  (.o (.o (.i (.i (.o (.i (.o .h))))))))) [] [v4,v5,v6]) fun v7 => .setv (.i (.i .h)) v7 <| .ret) [.tmp (.i (.i .h))]
theorem F292_ok : toFn Tryz.prog 292 [6] = some F292 := by kernel_rfl
def F294 : FnE := .body (.arg 0 fun v1 => .setv .h v1 <| .arg 1 fun v2 => .setv (.i (.o .h)) .nils <| .op (.len false v1) fun v3 => .op (.bin .gtr .no v3 (.int .i64 (.ofNat 64))) fun v4 => .seq (.cond v4
  (.op (.bslice 43 1 1 [.nils] [(0,v1)]) fun v5 => .callf (.o (.o (.o (.i (.i (.o (.i .h))))))) [v5] fun v6 => .setv .h v6 <| .fall) (.fall)) <| .op (.bslice 5 1 1 [(.int .u8
  (.ofNat 0))] [(0,v2)]) fun v7 => .callf (.o (.o (.o (.o (.o (.i (.i (.o .h)))))))) [v7,(.int .i64 (.ofNat 64))] fun v8 => .getv .h fun v9 => .op (.len false v9) fun v10 => .setv
  (.o (.o (.i (.o .h)))) (.int .i64 (.ofNat 0)) <| .seq (.block 0 (.seq (.loop (.getv (.o (.o (.i (.o .h)))) fun v11 => .op (.bin .lss .no v11 v10) fun v12 => .seq (.cond v12
  (.fall) ((.exit 0))) <| .seq (.block 1 (.op (.islc 1 v9 v11) fun v13 => .op (.load false 1 v13) fun v14 => .op (.islc 1 v8 v11) fun v15 => .op (.load false 1 v15) fun v16 => .op
  (.bin .xor .no v16 v14) fun v17 => .op (.islc 1 v8 v11) fun v18 => .op (.store 1 v18 v17) fun _ => .fall)) <| .op (.bin .add .no v11 (.int .i64 (.ofNat 1))) fun v20 => .setv (.o
  (.o (.i (.o .h)))) v20 <| .fall)) <| .fall)) <| .setv (.i (.o .h)) v8 <| .ret) [.tmp (.i (.o .h))]
theorem F294_ok : toFn Tryz.prog 294 [0,4,19] = some F294 := by kernel_rfl
def F295 : FnE := .body (.arg 0 fun v1 => .op (.box 43 v1) fun v2 => .setv (.i .h) .nilf <| .op (.mkfn (.fn (.i (.o (.o (.o (.o (.i (.i (.o .h))))))))) [] [v2]) fun v3 => .setv (.i .h) v3 <| .ret) [.tmp (.i .h)]
theorem F295_ok : toFn Tryz.prog 295 [2] = some F295 := by kernel_rfl
def F297 : FnE := .body (.arg 0 fun v1 => .setv (.i .h) .nils <| .setv (.o (.o .h)) .nils <| .setv (.o (.o (.o .h))) (.int .i64 (.ofNat 0)) <| .seq (.block 0 (.seq (.loop (.getv (.o (.o (.o .h))) fun v2 =>
  .op (.bin .lss .no v2 (.int .i64 (.ofNat 8))) fun v3 => .seq (.cond v3 (.fall) ((.exit 0))) <| .seq (.block 1 (.op (.nilck v1) fun v4 => .op (.iarr 8 1 v4 v2) fun v5 => .op
  (.load false 1 v5) fun v6 => .getv (.o (.o .h)) fun v7 => .op (.bin .shr .no v6 (.int .u64 (.ofNat 24))) fun v8 => .op (.conv .u8 v8) fun v9 => .op (.bin .shr .no v6 (.int .u64
  (.ofNat 16))) fun v10 => .op (.conv .u8 v10) fun v11 => .op (.bin .shr .no v6 (.int .u64 (.ofNat 8))) fun v12 => .op (.conv .u8 v12) fun v13 => .op (.conv .u8 v6) fun v14 => .op
  (.bslice 5 1 4 [(.int .u8 (.ofNat 0))] [(0,v9),(1,v11),(2,v13),(3,v14)]) fun v15 => .op (.app 5 1 1 v7 v15) fun v16 => .setv (.o (.o .h)) v16 <| .fall)) <| .op (.bin .add .no v2
  (.int .i64 (.ofNat 1))) fun v17 => .setv (.o (.o (.o .h))) v17 <| .fall)) <| .fall)) <| .getv (.o (.o .h)) fun v18 => .setv (.i .h) v18 <| .ret) [.tmp (.i .h)]
theorem F297_ok : toFn Tryz.prog 297 [2,3,7] = some F297 := by kernel_rfl
def F298 : FnE := .body (.arg 0 fun v1 => .arg 1 fun v2 => .op (.box 333 v1) fun v3 => .op (.box 333 v2) fun v4 => .setv (.i (.o .h)) (.bool false) <| .op (.faddr 0 v3) fun v5 => .op (.load false 1 v5) fun
  v6 => .op (.faddr 0 v4) fun v7 => .op (.load false 1 v7) fun v8 => .op (.bin .eql .no v6 v8) fun v9 => .gop v9 true (.faddr 1 v3) fun v10 => .gop v9 true (.load false 1 v10) fun
  v11 => .gop v9 true (.faddr 1 v4) fun v12 => .gop v9 true (.load false 1 v12) fun v13 => .gcallf v9 true (.o (.o (.o (.o (.i (.o .h)))))) [v11,v13] fun v14 => .op (.pick v9 v14
  (.bool false)) fun v15 => .gop v15 true (.faddr 2 v3) fun v16 => .gop v15 true (.load false 1 v16) fun v17 => .gop v15 true (.faddr 2 v4) fun v18 => .gop v15 true (.load false 1
  v18) fun v19 => .gcallf v15 true (.o (.o (.o (.o (.i (.o .h)))))) [v17,v19] fun v20 => .op (.pick v15 v20 (.bool false)) fun v21 => .gop v21 true (.faddr 3 v3) fun v22 => .gop
  v21 true (.load false 1 v22) fun v23 => .gop v21 true (.faddr 3 v4) fun v24 => .gop v21 true (.load false 1 v24) fun v25 => .gop v21 true (.bin .eql .no v23 v25) fun v26 => .op
  (.pick v21 v26 (.bool false)) fun v27 => .gop v27 true (.faddr 4 v3) fun v28 => .gop v27 true (.load false 1 v28) fun v29 => .gop v27 true (.faddr 4 v4) fun v30 => .gop v27 true
  (.load false 1 v30) fun v31 => .gcallf v27 true (.i (.o (.i (.o (.o (.i (.i (.o .h)))))))) [v29,v31] fun v32 => .op (.pick v27 v32 (.bool false)) fun v33 => .gop v33 true (.faddr
  5 v3) fun v34 => .gop v33 true (.load false 1 v34) fun v35 => .gop v33 true (.faddr 5 v4) fun v36 => .gop v33 true (.load false 1 v36) fun v37 => .gcallf v33 true (.o (.o (.o (.o
  (.i (.o .h)))))) [v35,v37] fun v38 => .op (.pick v33 v38 (.bool false)) fun v39 => .setv (.i (.o .h)) v39 <| .ret) [.tmp (.i (.o .h))]
theorem F298_ok : toFn Tryz.prog 298 [4] = some F298 := by kernel_rfl
def F299 : FnE := .body (.arg 0 fun v1 => .setv .h v1 <| .arg 1 fun v2 => .setv (.i (.o .h)) .nils <| .op (.len false v1) fun v3 => .op (.bin .gtr .no v3 (.int .i64 (.ofNat 64))) fun v4 => .seq (.cond v4
  (.callf (.o (.i (.i (.i (.i (.o (.o .h))))))) [v1] fun v5 => .setv .h v5 <| .fall) (.fall)) <| .op (.mkslice 5 1 1 [(.int .u8 (.ofNat 0))] (.int .i64 (.ofNat 64)) (.int .i64
  (.ofNat 64))) fun v6 => .getv .h fun v7 => .op (.copy 1 v6 v7) fun _ => .op (.len false v6) fun v9 => .setv (.i (.i (.o (.o .h)))) (.int .i64 (.ofNat 0)) <| .seq (.block 0 (.seq
  (.loop (.getv (.i (.i (.o (.o .h)))) fun v10 => .op (.bin .lss .no v10 v9) fun v11 => .seq (.cond v11 (.fall) ((.exit 0))) <| .seq (.block 1 (.op (.islc 1 v6 v10) fun v12 => .op
  (.load false 1 v12) fun v13 => .op (.bin .xor .no v13 v2) fun v14 => .op (.islc 1 v6 v10) fun v15 => .op (.store 1 v15 v14) fun _ => .fall)) <| .op (.bin .add .no v10 (.int .i64
  (.ofNat 1))) fun v17 => .setv (.i (.i (.o (.o .h)))) v17 <| .fall)) <| .fall)) <| .setv (.i (.o .h)) v6 <| .ret) [.tmp (.i (.o .h))]
theorem F299_ok : toFn Tryz.prog 299 [0,4,18] = some F299 := by kernel_rfl
def F300 : FnE := .body (.arg 0 fun v1 => .arg 1 fun v2 => .setv (.o (.o .h)) .nils <| .op (.load false 1 v2) fun v3 => .callf (.o (.i (.i (.i (.o (.i (.o (.o .h)))))))) [v3] fun v4 => .op (.len false v4)
  fun v5 => .setv (.o (.o (.i .h))) (.int .i64 (.ofNat 0)) <| .seq (.block 0 (.seq (.loop (.getv (.o (.o (.i .h))) fun v6 => .op (.bin .lss .no v6 v5) fun v7 => .seq (.cond v7
  (.fall) ((.exit 0))) <| .seq (.block 1 (.op (.islc 1 v4 v6) fun v8 => .op (.load false 1 v8) fun v9 => .getv (.o (.o .h)) fun v10 => .op (.load false 1 v2) fun v11 => .op (.nilck
  v11) fun v12 => .op (.faddr 1 v12) fun v13 => .op (.load false 1 v13) fun v14 => .op (.islc 7 v14 v9) fun v15 => .op (.load true 7 v15) fun v16 => .op (.bslice 283 7 1 [(.str 0
  []),(.str 0 []),(.int .u64 (.ofNat 0)),(.bool false),(.int .u32 (.ofNat 0)),(.int .i64 (.ofNat 0)),(.int .i64 (.ofNat 0))] [(0,v16)]) fun v17 => .op (.app 283 7 64 v10 v17) fun
  v18 => .setv (.o (.o .h)) v18 <| .fall)) <| .op (.bin .add .no v6 (.int .i64 (.ofNat 1))) fun v19 => .setv (.o (.o (.i .h))) v19 <| .fall)) <| .fall)) <| .getv (.o (.o .h)) fun
  v20 => .op (.len false v20) fun v21 => .setv (.i (.o (.i (.i .h)))) (.int .i64 (.ofNat 0)) <| .seq (.block 2 (.seq (.loop (.getv (.i (.o (.i (.i .h)))) fun v22 => .op (.bin .lss
  .no v22 v21) fun v23 => .seq (.cond v23 (.fall) ((.exit 2))) <| .seq (.block 3 (.op (.islc 7 v20 v22) fun v24 => .op (.load true 7 v24) fun v25 => .op (.alloc [(.str 0 []),(.str
  0 []),(.int .u64 (.ofNat 0)),(.bool false),(.int .u32 (.ofNat 0)),(.int .i64 (.ofNat 0)),(.int .i64 (.ofNat 0))] 283) fun v26 => .op (.store 7 v26 v25) fun _ => .op (.faddr 0
  v26) fun v28 => .op (.load false 1 v28) fun v29 => .op (.faddr 1 v26) fun v30 => .op (.load true 4 v30) fun v31 => .callv v1 [v29,v31] fun v32 => .op (.un .not v32) fun v33 =>
  .seq (.cond v33 (.ret) (.fall)) <| .fall)) <| .op (.bin .add .no v22 (.int .i64 (.ofNat 1))) fun v34 => .setv (.i (.o (.i (.i .h)))) v34 <| .fall)) <| .fall)) <| .fall) []
theorem F300_ok : toFn Tryz.prog 300 [3,11,28] = some F300 := by kernel_rfl
def F301 : FnE := .body (.arg 0 fun v1 => .setv (.i .h) .nils <| .setv (.o (.o .h)) .nils <| .op (.bin .neq .ptr v1 .nilp) fun v2 => .seq (.cond v2 (.op (.nilck v1) fun v3 => .op (.faddr 4 v3) fun v4 =>
  .op (.load false 1 v4) fun v5 => .setv (.i (.o .h)) v5 <| .seq (.block 0 (.seq (.loop (.getv (.i (.o .h)) fun v6 => .op (.bin .neq .no v6 (.int .i64 (.negSucc 0))) fun v7 => .seq
  (.cond v7 (.fall) ((.exit 0))) <| .seq (.block 1 (.getv (.o (.o .h)) fun v8 => .op (.bslice 3 1 1 [(.int .i64 (.ofNat 0))] [(0,v6)]) fun v9 => .op (.app 3 1 8 v8 v9) fun v10 =>
  .setv (.o (.o .h)) v10 <| .fall)) <| .op (.nilck v1) fun v11 => .op (.faddr 1 v11) fun v12 => .op (.load false 1 v12) fun v13 => .op (.islc 7 v13 v6) fun v14 => .op (.faddr 6
  v14) fun v15 => .op (.load false 1 v15) fun v16 => .setv (.i (.o .h)) v16 <| .fall)) <| .fall)) <| .fall) (.fall)) <| .getv (.o (.o .h)) fun v17 => .setv (.i .h) v17 <| .ret) [.tmp (.i .h)]
theorem F301_ok : toFn Tryz.prog 301 [2,3,4] = some F301 := by kernel_rfl
def F302 : FnE := .body (.arg 0 fun v1 => .arg 1 fun v2 => .setv (.i (.o .h)) (.int .i64 (.ofNat 0)) <| .op (.len true v1) fun v3 => .op (.bin .sub .no v3 (.int .i64 (.ofNat 1))) fun v4 => .setv (.o (.i
  .h)) v4 <| .seq (.block 0 (.seq (.loop (.getv (.o (.i .h)) fun v5 => .op (.bin .geq .no v5 (.int .i64 (.ofNat 0))) fun v6 => .seq (.cond v6 (.fall) ((.exit 0))) <| .seq (.block 1
  (.op (.ixstr v1 v5) fun v7 => .op (.bin .eql .no v7 v2) fun v8 => .seq (.cond v8 (.setv (.i (.o .h)) v5 <| .ret) (.fall)) <| .fall)) <| .op (.bin .sub .no v5 (.int .i64 (.ofNat
  1))) fun v9 => .setv (.o (.i .h)) v9 <| .fall)) <| .fall)) <| .setv (.i (.o .h)) (.int .i64 (.negSucc 0)) <| .ret) [.tmp (.i (.o .h))]
theorem F302_ok : toFn Tryz.prog 302 [4,5] = some F302 := by kernel_rfl
def F303 : FnE := .body (.arg 0 fun v1 => .arg 1 fun v2 => .setv (.i (.o .h)) (.int .i64 (.ofNat 0)) <| .callf (.o (.i (.i (.o (.o (.i (.i (.o .h)))))))) [v2] fun v3 => .op (.ext v3 0) fun v4 => .op (.ext
  v3 1) fun v5 => .op (.len true v2) fun v6 => .op (.len true v1) fun v7 => .op (.bin .sub .no v7 v6) fun v8 => .setv (.o (.i (.o .h))) (.int .u32 (.ofNat 0)) <| .op (.len true v1)
  fun v9 => .op (.bin .sub .no v9 (.int .i64 (.ofNat 1))) fun v10 => .setv (.i (.i (.o .h))) v10 <| .seq (.block 0 (.seq (.loop (.getv (.i (.i (.o .h))) fun v11 => .op (.bin .geq
  .no v11 v8) fun v12 => .seq (.cond v12 (.fall) ((.exit 0))) <| .seq (.block 1 (.getv (.o (.i (.o .h))) fun v13 => .op (.bin .mul .no v13 (.int .u32 (.ofNat 16777619))) fun v14 =>
  .op (.ixstr v1 v11) fun v15 => .op (.conv .u32 v15) fun v16 => .op (.bin .add .no v14 v16) fun v17 => .setv (.o (.i (.o .h))) v17 <| .fall)) <| .op (.bin .sub .no v11 (.int .i64
  (.ofNat 1))) fun v18 => .setv (.i (.i (.o .h))) v18 <| .fall)) <| .fall)) <| .getv (.o (.i (.o .h))) fun v19 => .op (.bin .eql .no v19 v4) fun v20 => .gop v20 true (.mv v1) fun
  v21 => .gop v20 true (.mv v8) fun v22 => .gop v20 true (.sstr v21 (some v22) none) fun v23 => .gop v20 true (.mv v2) fun v24 => .gop v20 true (.bin .eql .no v23 v24) fun v25 =>
  .op (.pick v20 v25 (.bool false)) fun v26 => .seq (.cond v26 (.setv (.i (.o .h)) v8 <| .ret) (.fall)) <| .op (.bin .sub .no v8 (.int .i64 (.ofNat 1))) fun v27 => .setv (.o (.o
  (.i .h))) v27 <| .seq (.block 2 (.seq (.loop (.getv (.o (.o (.i .h))) fun v28 => .op (.bin .geq .no v28 (.int .i64 (.ofNat 0))) fun v29 => .seq (.cond v29 (.fall) ((.exit 2))) <|
  .seq (.block 3 (.getv (.o (.i (.o .h))) fun v30 => .op (.bin .mul .no v30 (.int .u32 (.ofNat 16777619))) fun v31 => .setv (.o (.i (.o .h))) v31 <| .op (.ixstr v1 v28) fun v32 =>
  .op (.conv .u32 v32) fun v33 => .op (.bin .add .no v31 v33) fun v34 => .setv (.o (.i (.o .h))) v34 <| .op (.bin .add .no v28 v6) fun v35 => .op (.ixstr v1 v35) fun v36 => .op
  (.conv .u32 v36) fun v37 => .op (.bin .mul .no v5 v37) fun v38 => .op (.bin .sub .no v34 v38) fun v39 => .setv (.o (.i (.o .h))) v39 <| .op (.bin .eql .no v39 v4) fun v40 => .gop
  v40 true (.mv v1) fun v41 => .gop v40 true (.mv v28) fun v42 => .gop v40 true (.mv v28) fun v43 => .gop v40 true (.mv v6) fun v44 => .gop v40 true (.bin .add .no v43 v44) fun v45
  => .gop v40 true (.sstr v41 (some v42) (some v45)) fun v46 => .gop v40 true (.mv v2) fun v47 => .gop v40 true (.bin .eql .no v46 v47) fun v48 => .op (.pick v40 v48 (.bool false))
  fun v49 => .seq (.cond v49 (.setv (.i (.o .h)) v28 <| .ret) (.fall)) <| .fall)) <| .op (.bin .sub .no v28 (.int .i64 (.ofNat 1))) fun v50 => .setv (.o (.o (.i .h))) v50 <|
  .fall)) <| .fall)) <| .setv (.i (.o .h)) (.int .i64 (.negSucc 0)) <| .ret) [.tmp (.i (.o .h))]
theorem F303_ok : toFn Tryz.prog 303 [4,9,10,11] = some F303 := by kernel_rfl
def F304 : FnE := .body (.arg 0 fun v1 => .setv (.i .h) (.int .i64 (.ofNat 0)) <| .op (.bin .eql .ptr v1 .nilp) fun v2 => .seq (.cond v2 (.setv (.i .h) (.int .i64 (.ofNat 0)) <| .ret) (.fall)) <| .op
  (.nilck v1) fun v3 => .op (.faddr 0 v3) fun v4 => .op (.load false 1 v4) fun v5 => .op (.nilck v1) fun v6 => .op (.faddr 3 v6) fun v7 => .op (.load false 1 v7) fun v8 => .op
  (.lenm v8) fun v9 => .chk false 1 v4 v5 <| .op (.bin .sub .no v5 v9) fun v10 => .setv (.i .h) v10 <| .ret) [.tmp (.i .h)]
theorem F304_ok : toFn Tryz.prog 304 [2] = some F304 := by kernel_rfl
def F305 : FnE := .body (.arg 0 fun v1 => .arg 1 fun v2 => .op (.box 178 v1) fun v3 => .op (.box 420 v2) fun v4 => .setv (.i (.o .h)) (.int .i64 (.ofNat 0)) <| .op (.alloc [(.int .i64 (.ofNat 0))] 3) fun
  v5 => .op (.store 1 v5 (.int .i64 (.ofNat 0))) fun _ => .op (.load false 1 v3) fun v7 => .callf (.i (.o (.i (.i (.i (.o (.i .h))))))) [v7] fun v8 => .seq (.block 0 (.seq (.rfun
  v8 (.block 2 (.arg 0 fun v9 => .arg 1 fun v10 => .op (.alloc [(.str 0 []),(.int .u64 (.ofNat 0)),(.bool false),(.int .u32 (.ofNat 0))] 175) fun v11 => .op (.store 4 v11 v10) fun
  _ => .brnd <| .seq (.block 1 (.op (.load false 1 v4) fun v13 => .op (.load true 4 v11) fun v14 => .callv v13 [v9,v14] fun v15 => .op (.un .not v15) fun v16 => .seq (.cond v16
  ((.exit 1)) (.fall)) <| .op (.load false 1 v3) fun v17 => .callf (.o (.i (.o (.o (.o (.i (.i .h))))))) [v17,v9] fun v18 => .op (.bin .eql .no v18 (.int .i64 (.ofNat 0))) fun v19
  => .seq (.cond v19 (.op (.load false 1 v5) fun v20 => .op (.bin .add .no v20 (.int .i64 (.ofNat 1))) fun v21 => .op (.store 1 v5 v21) fun _ => .fall) (.fall)) <| .fall)) <|
  .fall))) <| .fall)) <| .op (.load false 1 v5) fun v23 => .setv (.i (.o .h)) v23 <| .ret) [.tmp (.i (.o .h))]
theorem F305_ok : toFn Tryz.prog 305 [4] = some F305 := by kernel_rfl
def F306 : FnE := .body (.arg 0 fun _ => .arg 1 fun v2 => .arg 2 fun v3 => .arg 3 fun v4 => .op (.box 175 v2) fun v5 => .setv (.i (.i .h)) (.bool false) <| .op (.load false 1 v3) fun v6 => .op (.load true
  4 v5) fun v7 => .op (.load false 1 v4) fun v8 => .callf (.o (.o (.i (.o (.i (.i (.o (.o .h)))))))) [v6,v7,v8] fun v9 => .setv (.i (.i .h)) v9 <| .ret) [.tmp (.i (.i .h))]
theorem F306_ok : toFn Tryz.prog 306 [6] = some F306 := by kernel_rfl
def F307 : FnE := .body (.arg 0 fun v1 => .arg 1 fun v2 => .arg 2 fun v3 => .op (.box 175 v2) fun v4 => .setv (.i (.i .h)) (.bool false) <| .op (.faddr 1 v4) fun v5 => .op (.load false 1 v5) fun v6 => .op
  (.bin .gtr .no v3 v6) fun v7 => .gop v7 true (.mv v3) fun v8 => .gop v7 true (.faddr 1 v4) fun v9 => .gop v7 true (.load false 1 v9) fun v10 => .gop v7 true (.bin .sub .no v8
  v10) fun v11 => .gop v7 true (.mv v1) fun v12 => .gop v7 true (.nilck v12) fun v13 => .gop v7 true (.faddr 0 v13) fun v14 => .gop v7 true (.faddr 1 v14) fun v15 => .gop v7 true
  (.load false 1 v15) fun v16 => .gop v7 true (.bin .gtr .no v11 v16) fun v17 => .op (.pick v7 v17 (.bool false)) fun v18 => .gop v18 false (.mv v1) fun v19 => .gop v18 false
  (.nilck v19) fun v20 => .gop v18 false (.faddr 6 v20) fun v21 => .gop v18 false (.load false 1 v21) fun v22 => .gop v18 false (.mv v22) fun v23 => .gop v23 true (.faddr 1 v4) fun
  v24 => .gop v23 true (.load false 1 v24) fun v25 => .gop v23 true (.mv v1) fun v26 => .gop v23 true (.nilck v26) fun v27 => .gop v23 true (.faddr 5 v27) fun v28 => .gop v23 true
  (.load false 1 v28) fun v29 => .gop v23 true (.bin .leq .no v25 v29) fun v30 => .gop v18 false (.pick v23 v30 (.bool false)) fun v31 => .op (.pick v18 (.bool true) v31) fun v32
  => .setv (.i (.i .h)) v32 <| .ret) [.tmp (.i (.i .h))]
theorem F307_ok : toFn Tryz.prog 307 [6] = some F307 := by kernel_rfl
def F308 : FnE := .body (.arg 0 fun v1 => .arg 1 fun v2 => .op (.nilck v1) fun v3 => .op (.faddr 1 v3) fun v4 => .op (.load false 1 v4) fun v5 => .op (.islc 7 v5 v2) fun v6 => .op (.faddr 5 v6) fun v7 =>
  .op (.load false 1 v7) fun v8 => .op (.nilck v1) fun v9 => .op (.faddr 1 v9) fun v10 => .op (.load false 1 v10) fun v11 => .op (.islc 7 v11 v2) fun v12 => .op (.faddr 6 v12) fun
  v13 => .op (.load false 1 v13) fun v14 => .op (.bin .eql .no v8 (.int .i64 (.negSucc 0))) fun v15 => .seq (.cond v15 (.op (.nilck v1) fun v16 => .op (.faddr 4 v16) fun v17 => .op
  (.store 1 v17 v14) fun _ => .fall) (.op (.nilck v1) fun v19 => .op (.faddr 1 v19) fun v20 => .op (.load false 1 v20) fun v21 => .op (.islc 7 v21 v8) fun v22 => .op (.faddr 6 v22)
  fun v23 => .op (.store 1 v23 v14) fun _ => .fall)) <| .op (.bin .eql .no v14 (.int .i64 (.negSucc 0))) fun v25 => .seq (.cond v25 (.op (.nilck v1) fun v26 => .op (.faddr 5 v26)
  fun v27 => .op (.store 1 v27 v8) fun _ => .fall) (.op (.nilck v1) fun v29 => .op (.faddr 1 v29) fun v30 => .op (.load false 1 v30) fun v31 => .op (.islc 7 v31 v14) fun v32 => .op
  (.faddr 5 v32) fun v33 => .op (.store 1 v33 v8) fun _ => .fall)) <| .fall) []
theorem F308_ok : toFn Tryz.prog 308 [] = some F308 := by kernel_rfl
def F309 : FnE := .body (.arg 0 fun v1 => .op (.nilck v1) fun v2 => .op (.faddr 0 v2) fun v3 => .op (.load false 1 v3) fun v4 => .op (.bin .eql .ptr v4 .nilp) fun v5 => .seq (.cond v5 (.op (.p2u 2 v1) fun
  v6 => .callf (.i (.i (.i (.o (.o (.i (.i (.o .h)))))))) [v6] fun v7 => .op (.u2p 347 2 v7) fun v8 => .op (.nilck v1) fun v9 => .op (.faddr 0 v9) fun v10 => .op (.store 1 v10 v8)
  fun _ => .fall) (.op (.nilck v1) fun v12 => .op (.faddr 0 v12) fun v13 => .op (.load false 1 v13) fun v14 => .op (.bin .neq .ptr v14 v1) fun v15 => .seq (.cond v15 (.bad)
  (.fall)) <| .fall)) <| .fall) []
theorem F309_ok : toFn Tryz.prog 309 [] = some F309 := by kernel_rfl
def F315 : FnE := .body (.arg 0 fun v1 => .arg 1 fun v2 => .arg 2 fun v3 => .seq (.block 0 (.seq (.loop (.op (.load false 1 v2) fun v4 => .op (.len true v4) fun v5 => .op (.bin .gtr .no v5 (.int .i64
  (.ofNat 0))) fun v6 => .seq (.cond v6 (.fall) ((.exit 0))) <| .seq (.block 1 (.op (.load false 1 v2) fun v7 => .op (.len true v7) fun v8 => .setv (.i (.o .h)) v8 <| .op (.load
  false 1 v3) fun v9 => .op (.bin .gtr .no v9 (.int .i64 (.ofNat 0))) fun v10 => .seq (.cond v10 (.op (.load false 1 v3) fun v11 => .op (.mn [v8,v11]) fun v12 => .setv (.i (.o .h))
  v12 <| .fall) (.fall)) <| .op (.load false 1 v2) fun v13 => .getv (.i (.o .h)) fun v14 => .op (.sstr v13 none (some v14)) fun v15 => .callv v1 [v15] fun v16 => .op (.un .not v16)
  fun v17 => .seq (.cond v17 (.ret) (.fall)) <| .op (.load false 1 v2) fun v18 => .op (.sstr v18 (some v14) none) fun v19 => .op (.store 1 v2 v19) fun _ => .fall)) <| .fall)) <|
  .fall)) <| .fall) []
theorem F315_ok : toFn Tryz.prog 315 [4] = some F315 := by kernel_rfl
def F316 : FnE := .body (.arg 0 fun v1 => .arg 1 fun v2 => .setv (.i (.o .h)) (.int .i64 (.ofNat 0)) <| .callf (.i (.o (.o (.i (.o (.i (.i (.o .h)))))))) [v1,v2] fun v3 => .setv (.i (.o .h)) v3 <| .ret) [.tmp (.i (.o .h))]
theorem F316_ok : toFn Tryz.prog 316 [4] = some F316 := by kernel_rfl
def F319 : FnE := .body (.arg 0 fun v1 => .setv (.i .h) (.int .i64 (.ofNat 0)) <| .setv (.o (.o .h)) (.int .i64 (.ofNat 0)) <| .op (.ixstr v1 (.int .i64 (.ofNat 0))) fun v2 => .op (.conv .i64 v2) fun v3 =>
  .setv (.o (.i .h)) (.int .i64 (.ofNat 0)) <| .setv (.i (.i .h)) (.int .i64 (.ofNat 0)) <| .seq (.block 0 (.op (.bin .lss .no v3 (.int .i64 (.ofNat 128))) fun v4 => .seq (.cond v4
  (.setv (.i .h) v3 <| .setv (.o (.o .h)) (.int .i64 (.ofNat 1)) <| .ret) (.op (.bin .geq .no v3 (.int .i64 (.ofNat 194))) fun v5 => .gop v5 true (.mv v3) fun v6 => .gop v5 true
  (.bin .leq .no v6 (.int .i64 (.ofNat 223))) fun v7 => .op (.pick v5 v7 (.bool false)) fun v8 => .seq (.cond v8 (.op (.bin .sub .no v3 (.int .i64 (.ofNat 192))) fun v9 => .setv
  (.o (.i .h)) (.int .i64 (.ofNat 2)) <| .setv (.i (.i .h)) v9 <| .fall) (.op (.bin .geq .no v3 (.int .i64 (.ofNat 224))) fun v10 => .gop v10 true (.mv v3) fun v11 => .gop v10 true
  (.bin .leq .no v11 (.int .i64 (.ofNat 239))) fun v12 => .op (.pick v10 v12 (.bool false)) fun v13 => .seq (.cond v13 (.op (.bin .sub .no v3 (.int .i64 (.ofNat 224))) fun v14 =>
  .setv (.o (.i .h)) (.int .i64 (.ofNat 3)) <| .setv (.i (.i .h)) v14 <| .fall) (.op (.bin .geq .no v3 (.int .i64 (.ofNat 240))) fun v15 => .gop v15 true (.mv v3) fun v16 => .gop
  v15 true (.bin .leq .no v16 (.int .i64 (.ofNat 244))) fun v17 => .op (.pick v15 v17 (.bool false)) fun v18 => .seq (.cond v18 (.op (.bin .sub .no v3 (.int .i64 (.ofNat 240))) fun
  v19 => .setv (.o (.i .h)) (.int .i64 (.ofNat 4)) <| .setv (.i (.i .h)) v19 <| .fall) (.setv (.i .h) (.int .i64 (.negSucc 0)) <| .setv (.o (.o .h)) (.int .i64 (.ofNat 1)) <|
  .ret)) <| .fall)) <| .fall)) <| .fall)) <| .fall)) <| .op (.len true v1) fun v20 => .getv (.o (.i .h)) fun v21 => .op (.bin .lss .no v20 v21) fun v22 => .seq (.cond v22 (.setv
  (.i .h) (.int .i64 (.negSucc 0)) <| .setv (.o (.o .h)) (.int .i64 (.ofNat 1)) <| .ret) (.fall)) <| .setv (.o (.o (.o .h))) (.int .i64 (.ofNat 1)) <| .seq (.block 1 (.seq (.loop
  (.getv (.o (.o (.o .h))) fun v23 => .op (.bin .lss .no v23 v21) fun v24 => .seq (.cond v24 (.fall) ((.exit 1))) <| .seq (.block 2 (.op (.ixstr v1 v23) fun v25 => .callf (.i (.i
  (.o (.i (.o (.i (.i (.o .h)))))))) [v25] fun v26 => .op (.un .not v26) fun v27 => .seq (.cond v27 (.setv (.i .h) (.int .i64 (.negSucc 0)) <| .setv (.o (.o .h)) (.int .i64 (.ofNat
  1)) <| .ret) (.fall)) <| .getv (.i (.i .h)) fun v28 => .op (.bin .mul .no v28 (.int .i64 (.ofNat 64))) fun v29 => .op (.ixstr v1 v23) fun v30 => .op (.bin .sub .no v30 (.int .u8
  (.ofNat 128))) fun v31 => .op (.conv .i64 v31) fun v32 => .op (.bin .add .no v29 v32) fun v33 => .setv (.i (.i .h)) v33 <| .fall)) <| .op (.bin .add .no v23 (.int .i64 (.ofNat
  1))) fun v34 => .setv (.o (.o (.o .h))) v34 <| .fall)) <| .fall)) <| .op (.bin .eql .no v21 (.int .i64 (.ofNat 3))) fun v35 => .getv (.i (.i .h)) fun v36 => .gop v35 true (.mv
  v36) fun v37 => .gop v35 true (.bin .lss .no v37 (.int .i64 (.ofNat 2048))) fun v38 => .op (.pick v35 v38 (.bool false)) fun v39 => .gop v39 false (.mv v21) fun v40 => .gop v39
  false (.bin .eql .no v40 (.int .i64 (.ofNat 4))) fun v41 => .gop v39 false (.mv v41) fun v42 => .gop v42 true (.mv v36) fun v43 => .gop v42 true (.bin .lss .no v43 (.int .i64
  (.ofNat 65536))) fun v44 => .gop v39 false (.pick v42 v44 (.bool false)) fun v45 => .op (.pick v39 (.bool true) v45) fun v46 => .gop v46 false (.mv v36) fun v47 => .gop v46 false
  (.bin .geq .no v47 (.int .i64 (.ofNat 55296))) fun v48 => .gop v46 false (.mv v48) fun v49 => .gop v49 true (.mv v36) fun v50 => .gop v49 true (.bin .leq .no v50 (.int .i64
  (.ofNat 57343))) fun v51 => .gop v46 false (.pick v49 v51 (.bool false)) fun v52 => .op (.pick v46 (.bool true) v52) fun v53 => .gop v53 false (.mv v36) fun v54 => .gop v53 false
  (.bin .gtr .no v54 (.int .i64 (.ofNat 1114111))) fun v55 => .op (.pick v53 (.bool true) v55) fun v56 => .seq (.cond v56 (.setv (.i .h) (.int .i64 (.negSucc 0)) <| .setv (.o (.o
  .h)) (.int .i64 (.ofNat 1)) <| .ret) (.fall)) <| .setv (.i .h) v36 <| .setv (.o (.o .h)) v21 <| .ret) [.tmp (.i .h),.tmp (.o (.o .h))]
theorem F319_ok : toFn Tryz.prog 319 [2,3,5,6,7] = some F319 := by kernel_rfl
def F320 : FnE := .body (.arg 0 fun v1 => .arg 1 fun v2 => .setv (.i (.o .h)) (.int .i64 (.ofNat 0)) <| .op (.len true v2) fun v3 => .seq (.block 0 (.op (.bin .eql .no v3 (.int .i64 (.ofNat 0))) fun v4 =>
  .gop v4 false (.mv v2) fun v5 => .gop v4 false (.mv v1) fun v6 => .gop v4 false (.bin .eql .no v5 v6) fun v7 => .op (.pick v4 (.bool true) v7) fun v8 => .seq (.cond v8 (.setv (.i
  (.o .h)) (.int .i64 (.ofNat 0)) <| .ret) (.op (.bin .eql .no v3 (.int .i64 (.ofNat 1))) fun v9 => .seq (.cond v9 (.op (.ixstr v2 (.int .i64 (.ofNat 0))) fun v10 => .callf (.i (.o
  (.i (.i (.i (.i (.o (.o .h)))))))) [v1,v10] fun v11 => .setv (.i (.o .h)) v11 <| .ret) (.op (.len true v1) fun v12 => .op (.bin .geq .no v3 v12) fun v13 => .seq (.cond v13 (.setv
  (.i (.o .h)) (.int .i64 (.negSucc 0)) <| .ret) (.op (.load false 1 (.ptr (.i .h) 0)) fun v14 => .op (.bin .leq .no v3 v14) fun v15 => .gop v15 true (.mv v1) fun v16 => .gop v15
  true (.len true v16) fun v17 => .gop v15 true (.bin .leq .no v17 (.int .i64 (.ofNat 64))) fun v18 => .op (.pick v15 v18 (.bool false)) fun v19 => .seq (.cond v19 (.callf (.o (.o
  (.i (.i (.o (.i (.i (.o .h)))))))) [v1,v2] fun v20 => .setv (.i (.o .h)) v20 <| .ret) (.fall)) <| .fall)) <| .fall)) <| .fall)) <| .fall)) <| .op (.ixstr v2 (.int .i64 (.ofNat
  0))) fun v21 => .op (.ixstr v2 (.int .i64 (.ofNat 1))) fun v22 => .setv (.i (.o (.o .h))) (.int .i64 (.ofNat 0)) <| .op (.len true v1) fun v23 => .op (.bin .sub .no v23 v3) fun
  v24 => .op (.bin .add .no v24 (.int .i64 (.ofNat 1))) fun v25 => .setv (.i (.i (.o .h))) (.int .i64 (.ofNat 0)) <| .seq (.block 1 (.seq (.loop (.getv (.i (.o (.o .h))) fun v26 =>
  .op (.bin .lss .no v26 v25) fun v27 => .seq (.cond v27 (.fall) ((.exit 1))) <| .seq (.block 2 (.op (.ixstr v1 v26) fun v28 => .op (.bin .neq .no v28 v21) fun v29 => .seq (.cond
  v29 (.op (.bin .add .no v26 (.int .i64 (.ofNat 1))) fun v30 => .op (.sstr v1 (some v30) (some v25)) fun v31 => .callf (.i (.o (.i (.i (.i (.i (.o (.o .h)))))))) [v31,v21] fun v32
  => .op (.bin .lss .no v32 (.int .i64 (.ofNat 0))) fun v33 => .seq (.cond v33 (.setv (.i (.o .h)) (.int .i64 (.negSucc 0)) <| .ret) (.fall)) <| .op (.bin .add .no v32 (.int .i64
  (.ofNat 1))) fun v34 => .op (.bin .add .no v26 v34) fun v35 => .setv (.i (.o (.o .h))) v35 <| .fall) (.fall)) <| .getv (.i (.o (.o .h))) fun v36 => .op (.bin .add .no v36 (.int
  .i64 (.ofNat 1))) fun v37 => .op (.ixstr v1 v37) fun v38 => .op (.bin .eql .no v38 v22) fun v39 => .gop v39 true (.mv v1) fun v40 => .gop v39 true (.mv v36) fun v41 => .gop v39
  true (.mv v36) fun v42 => .gop v39 true (.mv v3) fun v43 => .gop v39 true (.bin .add .no v42 v43) fun v44 => .gop v39 true (.sstr v40 (some v41) (some v44)) fun v45 => .gop v39
  true (.mv v2) fun v46 => .gop v39 true (.bin .eql .no v45 v46) fun v47 => .op (.pick v39 v47 (.bool false)) fun v48 => .seq (.cond v48 (.setv (.i (.o .h)) v36 <| .ret) (.fall))
  <| .op (.bin .add .no v36 (.int .i64 (.ofNat 1))) fun v49 => .setv (.i (.o (.o .h))) v49 <| .getv (.i (.i (.o .h))) fun v50 => .op (.bin .add .no v50 (.int .i64 (.ofNat 1))) fun
  v51 => .setv (.i (.i (.o .h))) v51 <| .op (.load false 1 (.ptr (.i .h) 0)) fun v52 => .op (.bin .leq .no v3 v52) fun v53 => .gop v53 true (.mv v51) fun v54 => .gop v53 true (.mv
  v49) fun v55 => .gcallf v53 true (.i (.o (.i (.i (.o (.i (.i (.o .h)))))))) [v55] fun v56 => .gop v53 true (.bin .gtr .no v54 v56) fun v57 => .op (.pick v53 v57 (.bool false))
  fun v58 => .seq (.cond v58 (.op (.sstr v1 (some v49) none) fun v59 => .callf (.o (.o (.i (.i (.o (.i (.i (.o .h)))))))) [v59,v2] fun v60 => .op (.bin .geq .no v60 (.int .i64
  (.ofNat 0))) fun v61 => .seq (.cond v61 (.op (.bin .add .no v60 v49) fun v62 => .setv (.i (.o .h)) v62 <| .ret) (.fall)) <| .setv (.i (.o .h)) (.int .i64 (.negSucc 0)) <| .ret)
  (.op (.load false 1 (.ptr (.i .h) 0)) fun v63 => .op (.bin .gtr .no v3 v63) fun v64 => .gop v64 true (.mv v51) fun v65 => .gop v64 true (.mv v49) fun v66 => .gop v64 true (.bin
  .shr .no v66 (.int .u64 (.ofNat 4))) fun v67 => .gop v64 true (.bin .add .no (.int .i64 (.ofNat 4)) v67) fun v68 => .gop v64 true (.bin .geq .no v65 v68) fun v69 => .op (.pick
  v64 v69 (.bool false)) fun v70 => .gop v70 true (.mv v49) fun v71 => .gop v70 true (.mv v25) fun v72 => .gop v70 true (.bin .lss .no v71 v72) fun v73 => .op (.pick v70 v73 (.bool
  false)) fun v74 => .seq (.cond v74 (.op (.sstr v1 (some v49) none) fun v75 => .callf (.o (.i (.i (.i (.o (.i (.i (.o .h)))))))) [v75,v2] fun v76 => .op (.bin .lss .no v76 (.int
  .i64 (.ofNat 0))) fun v77 => .seq (.cond v77 (.setv (.i (.o .h)) (.int .i64 (.negSucc 0)) <| .ret) (.fall)) <| .op (.bin .add .no v49 v76) fun v78 => .setv (.i (.o .h)) v78 <|
  .ret) (.fall)) <| .fall)) <| .fall)) <| .fall)) <| .fall)) <| .setv (.i (.o .h)) (.int .i64 (.negSucc 0)) <| .ret) [.tmp (.i (.o .h))]
theorem F320_ok : toFn Tryz.prog 320 [4,8,10] = some F320 := by kernel_rfl
def F321 : FnE := .body (.arg 0 fun v1 => .arg 1 fun v2 => .op (.box 429 v1) fun v3 => .op (.load false 1 v2) fun v4 => .callf (.o (.i (.o (.o (.o (.o (.o (.o .h)))))))) [v4] fun v5 => .seq (.block 0 (.seq
  (.rfun v5 (.block 1 (.arg 0 fun v6 => .brnd <| .seq (.block 1 (.op (.len true v6) fun v7 => .op (.bin .lss .no v7 (.int .i64 (.ofNat 2))) fun v8 => .gop v8 false (.mv v6) fun v9
  => .gop v8 false (.ixstr v9 (.int .i64 (.ofNat 1))) fun v10 => .gop v8 false (.bin .neq .no v10 (.int .u8 (.ofNat 61))) fun v11 => .op (.pick v8 (.bool true) v11) fun v12 => .gop
  v12 false (.load false 1 v3) fun v13 => .gop v12 false (.mv v6) fun v14 => .gop v12 false (.sstr v14 none (some (.int .i64 (.ofNat 1)))) fun v15 => .gop v12 false (.mv v6) fun
  v16 => .gop v12 false (.sstr v16 (some (.int .i64 (.ofNat 2))) none) fun v17 => .gcallv v12 false v13 [v15,v17] fun v18 => .gop v12 false (.un .not v18) fun v19 => .op (.pick v12
  (.bool true) v19) fun v20 => .seq (.cond v20 (.ret) (.fall)) <| .fall)) <| .fall))) <| .fall)) <| .fall) []
theorem F321_ok : toFn Tryz.prog 321 [] = some F321 := by kernel_rfl
def F322 : FnE := .body (.arg 0 fun v1 => .arg 1 fun v2 => .setv (.o (.o .h)) (.bool true) <| .seq (.block 0 (.seq (.loop (.getv (.o (.o .h)) fun v3 => .seq (.cond v3 (.fall) ((.exit 0))) <| .seq (.block 1
  (.op (.load false 1 v2) fun v4 => .callf (.o (.o (.o (.o (.o (.i (.o .h))))))) [v4,(.str 1 [44])] fun v5 => .op (.ext v5 0) fun v6 => .op (.ext v5 1) fun v7 => .op (.ext v5 2)
  fun v8 => .op (.store 1 v2 v7) fun _ => .setv (.o (.o .h)) v8 <| .callv v1 [v6] fun v10 => .op (.un .not v10) fun v11 => .seq (.cond v11 (.ret) (.fall)) <| .fall)) <| .fall)) <|
  .fall)) <| .fall) []
theorem F322_ok : toFn Tryz.prog 322 [3] = some F322 := by kernel_rfl
def F323 : FnE := .body (.arg 0 fun v1 => .arg 1 fun v2 => .setv (.i (.o .h)) (.bool false) <| .op (.len true v1) fun v3 => .op (.len true v2) fun v4 => .op (.bin .geq .no v3 v4) fun v5 => .gop v5 true
  (.mv v1) fun v6 => .gop v5 true (.mv v2) fun v7 => .gop v5 true (.len true v7) fun v8 => .gop v5 true (.sstr v6 none (some v8)) fun v9 => .gop v5 true (.mv v2) fun v10 => .gop v5
  true (.bin .eql .no v9 v10) fun v11 => .op (.pick v5 v11 (.bool false)) fun v12 => .setv (.i (.o .h)) v12 <| .ret) [.tmp (.i (.o .h))]
theorem F323_ok : toFn Tryz.prog 323 [4] = some F323 := by kernel_rfl
def F324 : FnE := .body (.arg 0 fun v1 => .arg 1 fun v2 => .setv (.i (.o .h)) (.bool false) <| .callf (.o (.o (.i (.o (.o (.o (.i (.o .h)))))))) [v1,v2] fun v3 => .setv (.i (.o .h)) v3 <| .ret) [.tmp (.i (.o .h))]
theorem F324_ok : toFn Tryz.prog 324 [4] = some F324 := by kernel_rfl
def F325 : FnE := .body (.arg 0 fun v1 => .op (.box 9 v1) fun v2 => .setv (.i .h) .nilf <| .op (.mkfn (.fn (.i (.i (.i (.i (.o (.i (.i (.o .h))))))))) [] [v2]) fun v3 => .setv (.i .h) v3 <| .ret) [.tmp (.i .h)]
theorem F325_ok : toFn Tryz.prog 325 [2] = some F325 := by kernel_rfl
def F326 : FnE := .body (.arg 0 fun v1 => .op (.box 43 v1) fun v2 => .setv (.i .h) .nilf <| .op (.mkfn (.fn (.i (.o (.o (.o (.i (.i (.i (.o .h))))))))) [] [v2]) fun v3 => .setv (.i .h) v3 <| .ret) [.tmp (.i .h)]
theorem F326_ok : toFn Tryz.prog 326 [2] = some F326 := by kernel_rfl
def F327 : FnE := .body (.arg 0 fun v1 => .arg 1 fun v2 => .setv (.i (.o .h)) .nils <| .setv (.o (.i .h)) (.int .i64 (.ofNat 0)) <| .setv (.o (.i (.o .h))) (.int .i64 (.ofNat 0)) <| .seq (.block 0 (.seq
  (.loop (.getv (.o (.i (.o .h))) fun v3 => .op (.bin .lss .no v3 (.int .i64 (.ofNat 3))) fun v4 => .seq (.cond v4 (.fall) ((.exit 0))) <| .seq (.block 1 (.getv (.o (.i .h)) fun v5
  => .op (.bin .shl .no v5 (.int .u64 (.ofNat 8))) fun v6 => .setv (.o (.i .h)) v6 <| .op (.len false v2) fun v7 => .op (.bin .lss .no v3 v7) fun v8 => .seq (.cond v8 (.op (.islc 1
  v2 v3) fun v9 => .op (.load false 1 v9) fun v10 => .op (.conv .i64 v10) fun v11 => .op (.bin .or .no v6 v11) fun v12 => .setv (.o (.i .h)) v12 <| .fall) (.fall)) <| .fall)) <|
  .op (.bin .add .no v3 (.int .i64 (.ofNat 1))) fun v13 => .setv (.o (.i (.o .h))) v13 <| .fall)) <| .fall)) <| .setv (.o (.o (.o .h))) .nils <| .op (.len false v2) fun v14 => .op
  (.bin .add .no v14 (.int .i64 (.ofNat 1))) fun v15 => .setv (.o (.i (.i (.i .h)))) (.int .i64 (.ofNat 0)) <| .seq (.block 2 (.seq (.loop (.getv (.o (.i (.i (.i .h)))) fun v16 =>
  .op (.bin .lss .no v16 v15) fun v17 => .seq (.cond v17 (.fall) ((.exit 2))) <| .seq (.block 3 (.getv (.o (.o (.o .h))) fun v18 => .getv (.o (.i .h)) fun v19 => .op (.bin .sub .no
  (.int .i64 (.ofNat 3)) v16) fun v20 => .op (.bin .mul .no (.int .i64 (.ofNat 6)) v20) fun v21 => .op (.bin .shr .no v19 v21) fun v22 => .op (.bin .and .no v22 (.int .i64 (.ofNat
  63))) fun v23 => .op (.ixstr v1 v23) fun v24 => .op (.bslice 5 1 1 [(.int .u8 (.ofNat 0))] [(0,v24)]) fun v25 => .op (.app 5 1 1 v18 v25) fun v26 => .setv (.o (.o (.o .h))) v26
  <| .fall)) <| .op (.bin .add .no v16 (.int .i64 (.ofNat 1))) fun v27 => .setv (.o (.i (.i (.i .h)))) v27 <| .fall)) <| .fall)) <| .getv (.o (.o (.o .h))) fun v28 => .setv (.i (.o
  .h)) v28 <| .ret) [.tmp (.i (.o .h))]
theorem F327_ok : toFn Tryz.prog 327 [4,5,7,9,29] = some F327 := by kernel_rfl
def F328 : FnE := .body (.arg 0 fun v1 => .arg 1 fun v2 => .setv (.i (.o .h)) (.int .i64 (.ofNat 0)) <| .setv (.o (.i .h)) .nili <| .callf (.o (.i (.i (.o (.i (.i (.o (.o .h)))))))) [v1] fun _ => .op
  (.nilck v1) fun v4 => .op (.faddr 1 v4) fun v5 => .op (.load false 1 v5) fun v6 => .op (.app 5 1 1 v6 v2) fun v7 => .op (.nilck v1) fun v8 => .op (.faddr 1 v8) fun v9 => .op
  (.store 1 v9 v7) fun _ => .op (.len false v2) fun v11 => .setv (.i (.o .h)) v11 <| .setv (.o (.i .h)) .nili <| .ret) [.tmp (.i (.o .h)),.tmp (.o (.i .h))]
theorem F328_ok : toFn Tryz.prog 328 [4,5] = some F328 := by kernel_rfl
def F329 : FnE := .body (.arg 0 fun v1 => .arg 1 fun v2 => .setv (.i (.o .h)) (.str 0 []) <| .seq (.block 0 (.op (.bin .eql .no v2 (.int .i64 (.ofNat 0))) fun v3 => .seq (.cond v3 (.setv (.i (.o .h)) (.str
  0 []) <| .ret) (.op (.bin .eql .no v2 (.int .i64 (.ofNat 1))) fun v4 => .seq (.cond v4 (.setv (.i (.o .h)) v1 <| .ret) (.fall)) <| .fall)) <| .fall)) <| .op (.bin .lss .no v2
  (.int .i64 (.ofNat 0))) fun v5 => .seq (.cond v5 (.bad) (.fall)) <| .op (.len true v1) fun v6 => .op (.conv .u64 v6) fun v7 => .op (.conv .u64 v2) fun v8 => .callf (.o (.i (.o
  (.o (.i (.i (.i (.o .h)))))))) [v7,v8] fun v9 => .op (.ext v9 0) fun v10 => .op (.ext v9 1) fun v11 => .op (.bin .gtr .no v10 (.int .u64 (.ofNat 0))) fun v12 => .gop v12 false
  (.mv v11) fun v13 => .gop v12 false (.bin .gtr .no v13 (.int .u64 (.ofNat 9223372036854775807))) fun v14 => .op (.pick v12 (.bool true) v14) fun v15 => .seq (.cond v15 (.bad)
  (.fall)) <| .op (.conv .i64 v11) fun v16 => .op (.len true v1) fun v17 => .op (.bin .eql .no v17 (.int .i64 (.ofNat 0))) fun v18 => .seq (.cond v18 (.setv (.i (.o .h)) (.str 0
  []) <| .ret) (.fall)) <| .op (.ixstr v1 (.int .i64 (.ofNat 0))) fun v19 => .seq (.block 1 (.op (.bin .eql .no v19 (.int .u8 (.ofNat 32))) fun v20 => .setv (.o (.o (.i (.i (.o
  .h))))) v20 <| .seq (.cond v20 (.fall) (.op (.bin .eql .no v19 (.int .u8 (.ofNat 45))) fun v21 => .setv (.o (.o (.i (.i (.o .h))))) v21 <| .seq (.cond v21 (.fall) (.op (.bin .eql
  .no v19 (.int .u8 (.ofNat 48))) fun v22 => .setv (.o (.o (.i (.i (.o .h))))) v22 <| .seq (.cond v22 (.fall) (.op (.bin .eql .no v19 (.int .u8 (.ofNat 61))) fun v23 => .setv (.o
  (.o (.i (.i (.o .h))))) v23 <| .seq (.cond v23 (.fall) (.op (.bin .eql .no v19 (.int .u8 (.ofNat 9))) fun v24 => .setv (.o (.o (.i (.i (.o .h))))) v24 <| .fall)) <| .fall)) <|
  .fall)) <| .fall)) <| .getv (.o (.o (.i (.i (.o .h))))) fun v25 => .seq (.cond v25 (.seq (.block 2 (.op (.bin .leq .no v16 (.int .i64 (.ofNat 128))) fun v26 => .gop v26 true (.mv
  v1) fun v27 => .gcallf v26 true (.i (.o (.i (.o (.o (.o (.i (.o .h)))))))) [(.str 128
  [32,32,32,32,32,32,32,32,32,32,32,32,32,32,32,32,32,32,32,32,32,32,32,32,32,32,32,32,32,32,32,32,32,32,32,32,32,32,32,32,32,32,32,32,32,32,32,32,32,32,32,32,32,32,32,32,32,32,32,32,32,32,32,32,32,32,32,32,32,32,32,32,32,32,32,32,32,32,32,32,32,32,32,32,32,32,32,32,32,32,32,32,32,32,32,32,32,32,32,32,32,32,32,32,32,32,32,32,32,32,32,32,32,32,32,32,32,32,32,32,32,32,32,32,32,32,32,32]),v27]
  fun v28 => .op (.pick v26 v28 (.bool false)) fun v29 => .seq (.cond v29 (.op (.sstr (.str 128
  [32,32,32,32,32,32,32,32,32,32,32,32,32,32,32,32,32,32,32,32,32,32,32,32,32,32,32,32,32,32,32,32,32,32,32,32,32,32,32,32,32,32,32,32,32,32,32,32,32,32,32,32,32,32,32,32,32,32,32,32,32,32,32,32,32,32,32,32,32,32,32,32,32,32,32,32,32,32,32,32,32,32,32,32,32,32,32,32,32,32,32,32,32,32,32,32,32,32,32,32,32,32,32,32,32,32,32,32,32,32,32,32,32,32,32,32,32,32,32,32,32,32,32,32,32,32,32,32])
  none (some v16)) fun v30 => .setv (.i (.o .h)) v30 <| .ret) (.op (.bin .leq .no v16 (.int .i64 (.ofNat 128))) fun v31 => .gop v31 true (.mv v1) fun v32 => .gcallf v31 true (.i
  (.o (.i (.o (.o (.o (.i (.o .h)))))))) [(.str 128
  [45,45,45,45,45,45,45,45,45,45,45,45,45,45,45,45,45,45,45,45,45,45,45,45,45,45,45,45,45,45,45,45,45,45,45,45,45,45,45,45,45,45,45,45,45,45,45,45,45,45,45,45,45,45,45,45,45,45,45,45,45,45,45,45,45,45,45,45,45,45,45,45,45,45,45,45,45,45,45,45,45,45,45,45,45,45,45,45,45,45,45,45,45,45,45,45,45,45,45,45,45,45,45,45,45,45,45,45,45,45,45,45,45,45,45,45,45,45,45,45,45,45,45,45,45,45,45,45]),v32]
  fun v33 => .op (.pick v31 v33 (.bool false)) fun v34 => .seq (.cond v34 (.op (.sstr (.str 128
  [45,45,45,45,45,45,45,45,45,45,45,45,45,45,45,45,45,45,45,45,45,45,45,45,45,45,45,45,45,45,45,45,45,45,45,45,45,45,45,45,45,45,45,45,45,45,45,45,45,45,45,45,45,45,45,45,45,45,45,45,45,45,45,45,45,45,45,45,45,45,45,45,45,45,45,45,45,45,45,45,45,45,45,45,45,45,45,45,45,45,45,45,45,45,45,45,45,45,45,45,45,45,45,45,45,45,45,45,45,45,45,45,45,45,45,45,45,45,45,45,45,45,45,45,45,45,45,45])
  none (some v16)) fun v35 => .setv (.i (.o .h)) v35 <| .ret) (.op (.bin .leq .no v16 (.int .i64 (.ofNat 64))) fun v36 => .gop v36 true (.mv v1) fun v37 => .gcallf v36 true (.i (.o
  (.i (.o (.o (.o (.i (.o .h)))))))) [(.str 64
  [48,48,48,48,48,48,48,48,48,48,48,48,48,48,48,48,48,48,48,48,48,48,48,48,48,48,48,48,48,48,48,48,48,48,48,48,48,48,48,48,48,48,48,48,48,48,48,48,48,48,48,48,48,48,48,48,48,48,48,48,48,48,48,48]),v37]
  fun v38 => .op (.pick v36 v38 (.bool false)) fun v39 => .seq (.cond v39 (.op (.sstr (.str 64
  [48,48,48,48,48,48,48,48,48,48,48,48,48,48,48,48,48,48,48,48,48,48,48,48,48,48,48,48,48,48,48,48,48,48,48,48,48,48,48,48,48,48,48,48,48,48,48,48,48,48,48,48,48,48,48,48,48,48,48,48,48,48,48,48])
  none (some v16)) fun v40 => .setv (.i (.o .h)) v40 <| .ret) (.op (.bin .leq .no v16 (.int .i64 (.ofNat 128))) fun v41 => .gop v41 true (.mv v1) fun v42 => .gcallf v41 true (.i
  (.o (.i (.o (.o (.o (.i (.o .h)))))))) [(.str 128
  [61,61,61,61,61,61,61,61,61,61,61,61,61,61,61,61,61,61,61,61,61,61,61,61,61,61,61,61,61,61,61,61,61,61,61,61,61,61,61,61,61,61,61,61,61,61,61,61,61,61,61,61,61,61,61,61,61,61,61,61,61,61,61,61,61,61,61,61,61,61,61,61,61,61,61,61,61,61,61,61,61,61,61,61,61,61,61,61,61,61,61,61,61,61,61,61,61,61,61,61,61,61,61,61,61,61,61,61,61,61,61,61,61,61,61,61,61,61,61,61,61,61,61,61,61,61,61,61]),v42]
  fun v43 => .op (.pick v41 v43 (.bool false)) fun v44 => .seq (.cond v44 (.op (.sstr (.str 128
  [61,61,61,61,61,61,61,61,61,61,61,61,61,61,61,61,61,61,61,61,61,61,61,61,61,61,61,61,61,61,61,61,61,61,61,61,61,61,61,61,61,61,61,61,61,61,61,61,61,61,61,61,61,61,61,61,61,61,61,61,61,61,61,61,61,61,61,61,61,61,61,61,61,61,61,61,61,61,61,61,61,61,61,61,61,61,61,61,61,61,61,61,61,61,61,61,61,61,61,61,61,61,61,61,61,61,61,61,61,61,61,61,61,61,61,61,61,61,61,61,61,61,61,61,61,61,61,61])
  none (some v16)) fun v45 => .setv (.i (.o .h)) v45 <| .ret) (.op (.bin .leq .no v16 (.int .i64 (.ofNat 64))) fun v46 => .gop v46 true (.mv v1) fun v47 => .gcallf v46 true (.i (.o
  (.i (.o (.o (.o (.i (.o .h)))))))) [(.str 64
  [9,9,9,9,9,9,9,9,9,9,9,9,9,9,9,9,9,9,9,9,9,9,9,9,9,9,9,9,9,9,9,9,9,9,9,9,9,9,9,9,9,9,9,9,9,9,9,9,9,9,9,9,9,9,9,9,9,9,9,9,9,9,9,9]),v47] fun v48 => .op (.pick v46 v48 (.bool
  false)) fun v49 => .seq (.cond v49 (.op (.sstr (.str 64
  [9,9,9,9,9,9,9,9,9,9,9,9,9,9,9,9,9,9,9,9,9,9,9,9,9,9,9,9,9,9,9,9,9,9,9,9,9,9,9,9,9,9,9,9,9,9,9,9,9,9,9,9,9,9,9,9,9,9,9,9,9,9,9,9]) none (some v16)) fun v50 => .setv (.i (.o .h))
  v50 <| .ret) (.fall)) <| .fall)) <| .fall)) <| .fall)) <| .fall)) <| .fall)) <| .fall) (.fall)) <| .fall)) <| .setv (.i (.o (.o .h))) v16 <| .op (.bin .gtr .no v16 (.int .i64
  (.ofNat 8192))) fun v51 => .seq (.cond v51 (.op (.len true v1) fun v52 => .op (.bin .quo .no (.int .i64 (.ofNat 8192)) v52) fun v53 => .op (.len true v1) fun v54 => .op (.bin
  .mul .no v53 v54) fun v55 => .setv (.i (.o (.o .h))) v55 <| .op (.bin .eql .no v55 (.int .i64 (.ofNat 0))) fun v56 => .seq (.cond v56 (.op (.len true v1) fun v57 => .setv (.i (.o
  (.o .h))) v57 <| .fall) (.fall)) <| .fall) (.fall)) <| .op (.alloc [.nilp,.nils] 347) fun v58 => .callf (.o (.o (.i (.i (.o (.o (.o (.o .h)))))))) [v58,v16] fun _ => .callf (.o
  (.o (.i (.o (.o (.i (.i .h))))))) [v58,v1] fun _ => .seq (.block 3 (.seq (.loop (.callf (.i (.i (.o (.o (.i (.i (.i (.o .h)))))))) [v58] fun v61 => .op (.bin .lss .no v61 v16)
  fun v62 => .seq (.cond v62 (.fall) ((.exit 3))) <| .seq (.block 4 (.callf (.i (.i (.o (.o (.i (.i (.i (.o .h)))))))) [v58] fun v63 => .op (.bin .sub .no v16 v63) fun v64 =>
  .callf (.i (.i (.o (.o (.i (.i (.i (.o .h)))))))) [v58] fun v65 => .getv (.i (.o (.o .h))) fun v66 => .op (.mn [v64,v65,v66]) fun v67 => .callf (.o (.o (.o (.i (.o (.i (.i
  .h))))))) [v58] fun v68 => .op (.sstr v68 none (some v67)) fun v69 => .callf (.o (.o (.i (.o (.o (.i (.i .h))))))) [v58,v69] fun _ => .fall)) <| .fall)) <| .fall)) <| .callf (.o
  (.o (.o (.i (.o (.i (.i .h))))))) [v58] fun v71 => .setv (.i (.o .h)) v71 <| .ret) [.tmp (.i (.o .h))]
theorem F329_ok : toFn Tryz.prog 329 [4,8,43] = some F329 := by kernel_rfl
def F330 : FnE := .body (.arg 0 fun v1 => .arg 1 fun v2 => .setv (.i (.o .h)) (.str 0 []) <| .op (.bin .eql .no v2 (.int .i64 (.ofNat 10))) fun v3 => .seq (.cond v3 (.op (.bin .leq .no (.int .i64 (.ofNat
  0)) v1) fun v4 => .gop v4 true (.mv v1) fun v5 => .gop v4 true (.bin .lss .no v5 (.int .i64 (.ofNat 100))) fun v6 => .op (.pick v4 v6 (.bool false)) fun v7 => .seq (.cond v7
  (.callf (.o (.o (.i (.o (.i (.i (.i (.o .h)))))))) [v1] fun v8 => .setv (.i (.o .h)) v8 <| .ret) (.fall)) <| .op (.alloc (rep 24 [(.int .u8 (.ofNat 0))]) 471) fun v9 => .op
  (.conv .u64 v1) fun v10 => .setv (.i (.i .h)) v10 <| .op (.bin .lss .no v1 (.int .i64 (.ofNat 0))) fun v11 => .seq (.cond v11 (.op (.un .neg v10) fun v12 => .setv (.i (.i .h))
  v12 <| .fall) (.fall)) <| .getv (.i (.i .h)) fun v13 => .callf (.i (.o (.i (.o (.i (.i (.i (.o .h)))))))) [v13] fun v14 => .op (.bin .add .no (.int .i64 (.ofNat 1)) v14) fun v15
  => .op (.sarr 24 1 v9 (some (.int .i64 (.ofNat 1))) (some v15) none) fun v16 => .callf (.o (.i (.i (.o (.i (.i (.i (.o .h)))))))) [v16,v13] fun _ => .op (.bin .lss .no v1 (.int
  .i64 (.ofNat 0))) fun v18 => .seq (.cond v18 (.op (.iarr 24 1 v9 (.int .i64 (.ofNat 0))) fun v19 => .op (.store 1 v19 (.int .u8 (.ofNat 45))) fun _ => .op (.bin .add .no (.int
  .i64 (.ofNat 1)) v14) fun v21 => .op (.sarr 24 1 v9 none (some v21) none) fun v22 => .op (.b2s v22) fun v23 => .setv (.i (.o .h)) v23 <| .ret) (.fall)) <| .op (.bin .add .no
  (.int .i64 (.ofNat 1)) v14) fun v24 => .op (.sarr 24 1 v9 (some (.int .i64 (.ofNat 1))) (some v24) none) fun v25 => .op (.b2s v25) fun v26 => .setv (.i (.o .h)) v26 <| .ret)
  (.fall)) <| .op (.conv .u64 v1) fun v27 => .op (.bin .lss .no v1 (.int .i64 (.ofNat 0))) fun v28 => .callf (.i (.i (.i (.o (.i (.i (.i (.o .h)))))))) [.nils,v27,v2,v28,(.bool
  false)] fun v29 => .op (.ext v29 0) fun _ => .op (.ext v29 1) fun v31 => .setv (.i (.o .h)) v31 <| .ret) [.tmp (.i (.o .h))]
theorem F330_ok : toFn Tryz.prog 330 [4,6] = some F330 := by kernel_rfl
def F331 : FnE := .body (.arg 0 fun v1 => .arg 1 fun v2 => .op (.box 9 v1) fun v3 => .setv (.i (.o .h)) .nils <| .setv (.o (.i .h)) (.int .i64 (.ofNat 0)) <| .op (.alloc [.nils] 43) fun v4 => .op (.alloc
  [(.int .i64 (.ofNat 0))] 35) fun v5 => .op (.store 1 v5 (.int .i64 (.ofNat 0))) fun _ => .callf (.o (.o (.o (.o (.i (.i (.i .h))))))) [v2,(.int .i64 (.ofNat 4))] fun v7 => .seq
  (.block 0 (.seq (.rfun v7 (.block 1 (.arg 0 fun v8 => .brnd <| .seq (.block 1 (.setv (.o (.i (.o .h))) (.int .i64 (.ofNat 0)) <| .op (.s2b 5 v8) fun v9 => .op (.len false v9) fun
  v10 => .setv (.o (.i (.i (.o .h)))) (.int .i64 (.ofNat 0)) <| .seq (.block 2 (.seq (.loop (.getv (.o (.i (.i (.o .h)))) fun v11 => .op (.bin .lss .no v11 v10) fun v12 => .seq
  (.cond v12 (.fall) ((.exit 2))) <| .seq (.block 3 (.op (.islc 1 v9 v11) fun v13 => .op (.load false 1 v13) fun v14 => .op (.load false 1 v3) fun v15 => .callf (.o (.o (.o (.i (.i
  (.i (.i (.o .h)))))))) [v15,v14] fun v16 => .op (.bin .eql .no v16 (.int .i64 (.negSucc 0))) fun v17 => .seq (.cond v17 (.op (.store 1 v5 (.int .i64 (.ofNat 5))) fun _ => (.exit
  0)) (.fall)) <| .getv (.o (.i (.o .h))) fun v19 => .op (.bin .shl .no v19 (.int .u64 (.ofNat 6))) fun v20 => .op (.bin .or .no v20 v16) fun v21 => .setv (.o (.i (.o .h))) v21 <|
  .fall)) <| .op (.bin .add .no v11 (.int .i64 (.ofNat 1))) fun v22 => .setv (.o (.i (.i (.o .h)))) v22 <| .fall)) <| .fall)) <| .getv (.o (.i (.o .h))) fun v23 => .op (.len true
  v8) fun v24 => .op (.bin .sub .no (.int .i64 (.ofNat 4)) v24) fun v25 => .op (.bin .mul .no (.int .i64 (.ofNat 6)) v25) fun v26 => .op (.bin .shl .no v23 v26) fun v27 => .setv
  (.o (.i (.o .h))) v27 <| .op (.len true v8) fun v28 => .op (.bin .sub .no (.int .i64 (.ofNat 4)) v28) fun v29 => .op (.bin .mul .no (.int .i64 (.ofNat 8)) v29) fun v30 => .op
  (.bin .shl .no (.int .i64 (.ofNat 1)) v30) fun v31 => .op (.bin .sub .no v31 (.int .i64 (.ofNat 1))) fun v32 => .op (.bin .and .no v27 v32) fun v33 => .op (.len true v8) fun v34
  => .op (.bin .lss .no v34 (.int .i64 (.ofNat 4))) fun v35 => .gop v35 true (.mv v33) fun v36 => .gop v35 true (.bin .neq .no v36 (.int .i64 (.ofNat 0))) fun v37 => .op (.pick v35
  v37 (.bool false)) fun v38 => .seq (.cond v38 (.op (.store 1 v5 (.int .i64 (.ofNat 4))) fun _ => .fall) (.fall)) <| .op (.len true v8) fun v40 => .op (.bin .sub .no v40 (.int
  .i64 (.ofNat 1))) fun v41 => .setv (.o (.o (.i (.i (.i .h))))) (.int .i64 (.ofNat 0)) <| .seq (.block 4 (.seq (.loop (.getv (.o (.o (.i (.i (.i .h))))) fun v42 => .op (.bin .lss
  .no v42 v41) fun v43 => .seq (.cond v43 (.fall) ((.exit 4))) <| .seq (.block 5 (.op (.load false 1 v4) fun v44 => .op (.bin .sub .no (.int .i64 (.ofNat 2)) v42) fun v45 => .op
  (.bin .mul .no (.int .i64 (.ofNat 8)) v45) fun v46 => .op (.bin .shr .no v27 v46) fun v47 => .op (.conv .u8 v47) fun v48 => .op (.bslice 5 1 1 [(.int .u8 (.ofNat 0))] [(0,v48)])
  fun v49 => .op (.app 5 1 1 v44 v49) fun v50 => .op (.store 1 v4 v50) fun _ => .fall)) <| .op (.bin .add .no v42 (.int .i64 (.ofNat 1))) fun v52 => .setv (.o (.o (.i (.i (.i
  .h))))) v52 <| .fall)) <| .fall)) <| .fall)) <| .fall))) <| .fall)) <| .op (.load false 1 v5) fun v53 => .op (.bin .neq .no v53 (.int .i64 (.ofNat 0))) fun v54 => .seq (.cond v54
  (.op (.load false 1 v5) fun v55 => .setv (.i (.o .h)) .nils <| .setv (.o (.i .h)) v55 <| .ret) (.fall)) <| .op (.load false 1 v4) fun v56 => .setv (.i (.o .h)) v56 <| .setv (.o
  (.i .h)) (.int .i64 (.ofNat 0)) <| .ret) [.tmp (.i (.o .h)),.tmp (.o (.i .h))]
theorem F331_ok : toFn Tryz.prog 331 [4,5,9,21,59] = some F331 := by kernel_rfl
def F332 : FnE := .body (.arg 0 fun v1 => .arg 1 fun v2 => .op (.nilck v1) fun v3 => .op (.faddr 1 v3) fun v4 => .op (.load false 1 v4) fun v5 => .op (.cap v5) fun v6 => .op (.bin .mul .no (.int .i64
  (.ofNat 2)) v6) fun v7 => .op (.bin .add .no v7 v2) fun v8 => .op (.nilck v1) fun v9 => .op (.faddr 1 v9) fun v10 => .op (.load false 1 v10) fun v11 => .op (.len false v11) fun
  v12 => .callf (.o (.i (.i (.o (.o (.i (.o (.o .h)))))))) [v8] fun v13 => .chk false 1 v10 v11 <| .op (.sslc 1 v13 none (some v12) none) fun v14 => .op (.nilck v1) fun v15 => .op
  (.faddr 1 v15) fun v16 => .op (.load false 1 v16) fun v17 => .op (.copy 1 v14 v17) fun _ => .op (.nilck v1) fun v19 => .op (.faddr 1 v19) fun v20 => .op (.store 1 v20 v14) fun _
  => .fall) []
theorem F332_ok : toFn Tryz.prog 332 [] = some F332 := by kernel_rfl
def F333 : FnE := .body (.arg 0 fun v1 => .arg 1 fun v2 => .setv (.i (.o .h)) (.int .i64 (.ofNat 0)) <| .setv (.o (.i .h)) (.int .i64 (.ofNat 0)) <| .seq (.block 0 (.seq (.loop (.getv (.o (.i .h)) fun v3
  => .op (.bin .lss .no v3 (.int .i64 (.ofNat 64))) fun v4 => .seq (.cond v4 (.fall) ((.exit 0))) <| .seq (.block 1 (.callf (.i (.o (.o (.o (.i (.o (.o (.o .h)))))))) [v3,v2] fun
  v5 => .op (.bin .eql .no v5 v1) fun v6 => .seq (.cond v6 (.setv (.i (.o .h)) v3 <| .ret) (.fall)) <| .fall)) <| .op (.bin .add .no v3 (.int .i64 (.ofNat 1))) fun v7 => .setv (.o
  (.i .h)) v7 <| .fall)) <| .fall)) <| .setv (.i (.o .h)) (.int .i64 (.negSucc 0)) <| .ret) [.tmp (.i (.o .h))]
theorem F333_ok : toFn Tryz.prog 333 [4,5] = some F333 := by kernel_rfl
def F334 : FnE := .body (.setv .h .nils <| .op (.bslice 5 1 4 [(.int .u8 (.ofNat 0))] [(0,(.int .u8 (.ofNat 241))),(1,(.int .u8 (.ofNat 84))),(2,(.int .u8 (.ofNat 82))),(3,(.int .u8 (.ofNat 77)))]) fun v1
  => .op (.appz 5 1 1 [(.int .u8 (.ofNat 0))] v1 (.int .i64 (.ofNat 24))) fun v2 => .setv .h v2 <| .ret) [.tmp .h]
theorem F334_ok : toFn Tryz.prog 334 [0] = some F334 := by kernel_rfl
def F335 : FnE := .body (.arg 0 fun v1 => .setv (.i .h) (.int .i64 (.ofNat 0)) <| .setv (.o (.o .h)) (.bool false) <| .op (.len false v1) fun v2 => .op (.bin .neq .no v2 (.int .i64 (.ofNat 32))) fun v3 =>
  .gop v3 false (.mv v1) fun v4 => .gop v3 false (.sslc 1 v4 none (some (.int .i64 (.ofNat 28))) none) fun v5 => .gcallf v3 false (.o (.i (.o (.i (.i (.o (.o (.o .h)))))))) [] fun
  v6 => .gcallf v3 false (.i (.o (.o (.i (.i (.o (.o (.o .h)))))))) [v5,v6] fun v7 => .gop v3 false (.un .not v7) fun v8 => .op (.pick v3 (.bool true) v8) fun v9 => .seq (.cond v9
  (.setv (.i .h) (.int .i64 (.ofNat 0)) <| .setv (.o (.o .h)) (.bool false) <| .ret) (.fall)) <| .setv (.i (.o .h)) (.int .i64 (.ofNat 0)) <| .op (.sslc 1 v1 (some (.int .i64
  (.ofNat 28))) none none) fun v10 => .op (.len false v10) fun v11 => .setv (.i (.o (.i (.o .h)))) (.int .i64 (.ofNat 0)) <| .seq (.block 0 (.seq (.loop (.getv (.i (.o (.i (.o
  .h)))) fun v12 => .op (.bin .lss .no v12 v11) fun v13 => .seq (.cond v13 (.fall) ((.exit 0))) <| .seq (.block 1 (.op (.islc 1 v10 v12) fun v14 => .op (.load false 1 v14) fun v15
  => .getv (.i (.o .h)) fun v16 => .op (.bin .shl .no v16 (.int .u64 (.ofNat 8))) fun v17 => .op (.conv .i64 v15) fun v18 => .op (.bin .or .no v17 v18) fun v19 => .setv (.i (.o
  .h)) v19 <| .fall)) <| .op (.bin .add .no v12 (.int .i64 (.ofNat 1))) fun v20 => .setv (.i (.o (.i (.o .h)))) v20 <| .fall)) <| .fall)) <| .getv (.i (.o .h)) fun v21 => .op (.bin
  .gtr .no v21 (.int .i64 (.ofNat 0))) fun v22 => .setv (.i .h) v21 <| .setv (.o (.o .h)) v22 <| .ret) [.tmp (.i .h),.tmp (.o (.o .h))]
theorem F335_ok : toFn Tryz.prog 335 [2,3,4,20] = some F335 := by kernel_rfl
def F336 : FnE := .body (.arg 0 fun v1 => .setv (.i .h) .nils <| .op (.bin .eql .slc v1 .nils) fun v2 => .seq (.cond v2 (.setv (.i .h) .nils <| .ret) (.fall)) <| .op (.bslice 3 1 0 [(.int .i64 (.ofNat 0))]
  []) fun v3 => .op (.app 3 1 8 v3 v1) fun v4 => .setv (.i .h) v4 <| .ret) [.tmp (.i .h)]
theorem F336_ok : toFn Tryz.prog 336 [2] = some F336 := by kernel_rfl
def F337 : FnE := .body (.arg 0 fun v1 => .arg 1 fun v2 => .setv (.i (.o .h)) .nils <| .setv (.o (.i .h)) .nils <| .op (.len false v1) fun v3 => .op (.len false v2) fun v4 => .op (.mn [v3,v4]) fun v5 =>
  .setv (.i (.o (.i .h))) (.int .i64 (.ofNat 0)) <| .seq (.block 0 (.seq (.loop (.getv (.i (.o (.i .h))) fun v6 => .op (.bin .lss .no v6 v5) fun v7 => .seq (.cond v7 (.fall)
  ((.exit 0))) <| .seq (.block 1 (.getv (.o (.i .h)) fun v8 => .op (.islc 1 v1 v6) fun v9 => .op (.load false 1 v9) fun v10 => .op (.islc 1 v2 v6) fun v11 => .op (.load false 1
  v11) fun v12 => .op (.bin .xor .no v10 v12) fun v13 => .op (.bslice 5 1 1 [(.int .u8 (.ofNat 0))] [(0,v13)]) fun v14 => .op (.app 5 1 1 v8 v14) fun v15 => .setv (.o (.i .h)) v15
  <| .fall)) <| .op (.bin .add .no v6 (.int .i64 (.ofNat 1))) fun v16 => .setv (.i (.o (.i .h))) v16 <| .fall)) <| .fall)) <| .getv (.o (.i .h)) fun v17 => .setv (.i (.o .h)) v17
  <| .ret) [.tmp (.i (.o .h))]
theorem F337_ok : toFn Tryz.prog 337 [4,5,12] = some F337 := by kernel_rfl
def F338 : FnE := .body (.arg 0 fun v1 => .arg 1 fun v2 => .setv (.i (.o .h)) (.bool false) <| .callf (.i (.o (.o (.i (.i (.i (.i (.o .h)))))))) [v1,v2] fun v3 => .op (.bin .geq .no v3 (.int .i64 (.ofNat
  0))) fun v4 => .setv (.i (.o .h)) v4 <| .ret) [.tmp (.i (.o .h))]
theorem F338_ok : toFn Tryz.prog 338 [4] = some F338 := by kernel_rfl
def F339 : FnE := .body (.arg 0 fun v1 => .op (.len false v1) fun v2 => .op (.conv .u64 v2) fun v3 => .callf (.i (.i (.o (.i (.i (.i (.i (.o .h)))))))) [v3] fun v4 => .callf (.o (.i (.o (.i (.i (.i (.i (.o
  .h)))))))) [v1,(.int .i64 (.ofNat 0)),v2,v4] fun _ => .fall) []
theorem F339_ok : toFn Tryz.prog 339 [] = some F339 := by kernel_rfl
def F340 : FnE := .body (.arg 0 fun v1 => .op (.box 9 v1) fun v2 => .setv (.i .h) .nilf <| .op (.mkfn (.fn (.o (.o (.i (.i (.i (.i (.i (.o .h))))))))) [] [v2]) fun v3 => .setv (.i .h) v3 <| .ret) [.tmp (.i .h)]
theorem F340_ok : toFn Tryz.prog 340 [2] = some F340 := by kernel_rfl
def F341 : FnE := .body (.arg 0 fun v1 => .arg 1 fun v2 => .setv (.i (.o .h)) (.bool false) <| .op (.len false v2) fun v3 => .setv (.o (.i (.o .h))) (.int .i64 (.ofNat 0)) <| .seq (.block 0 (.seq (.loop
  (.getv (.o (.i (.o .h))) fun v4 => .op (.bin .lss .no v4 v3) fun v5 => .seq (.cond v5 (.fall) ((.exit 0))) <| .seq (.block 1 (.op (.islc 2 v2 v4) fun v6 => .op (.load true 2 v6)
  fun v7 => .op (.alloc [(.int .i32 (.ofNat 0)),(.int .i32 (.ofNat 0))] 446) fun v8 => .op (.store 2 v8 v7) fun _ => .op (.faddr 0 v8) fun v10 => .op (.load false 1 v10) fun v11 =>
  .op (.bin .geq .no v1 v11) fun v12 => .gop v12 true (.mv v1) fun v13 => .gop v12 true (.faddr 1 v8) fun v14 => .gop v12 true (.load false 1 v14) fun v15 => .gop v12 true (.bin
  .leq .no v13 v15) fun v16 => .op (.pick v12 v16 (.bool false)) fun v17 => .seq (.cond v17 (.setv (.i (.o .h)) (.bool true) <| .ret) (.fall)) <| .fall)) <| .op (.bin .add .no v4
  (.int .i64 (.ofNat 1))) fun v18 => .setv (.o (.i (.o .h))) v18 <| .fall)) <| .fall)) <| .setv (.i (.o .h)) (.bool false) <| .ret) [.tmp (.i (.o .h))]
theorem F341_ok : toFn Tryz.prog 341 [4,9] = some F341 := by kernel_rfl
def F342 : FnE := .body (.arg 0 fun v1 => .arg 1 fun v2 => .setv (.o .h) v2 <| .setv (.i (.o .h)) .nils <| .callf (.i (.o (.i (.i (.i (.i (.i (.o .h)))))))) [v2] fun v3 => .op (.un .not v3) fun v4 => .seq
  (.cond v4 (.setv (.o .h) (.int .i32 (.ofNat 65533)) <| .fall) (.fall)) <| .callf (.o (.i (.o (.o (.i (.i .h)))))) [v1] fun v5 => .setv (.o (.i .h)) v5 <| .op (.iarr 4 4 (.ptr (.o
  (.o (.o .h))) 0) (.int .i64 (.ofNat 0))) fun v6 => .op (.load true 4 v6) fun v7 => .op (.alloc [(.int .i64 (.ofNat 0)),(.int .u8 (.ofNat 0)),(.int .u8 (.ofNat 0)),(.int .i32
  (.ofNat 0))] 482) fun v8 => .op (.store 4 v8 v7) fun _ => .op (.load true 16 (.ptr (.o (.o (.o .h))) 0)) fun v10 => .setv (.o (.o (.i (.o .h)))) (.int .i64 (.ofNat 0)) <| .seq
  (.block 0 (.seq (.loop (.getv (.o (.o (.i (.o .h)))) fun v11 => .op (.bin .lss .no v11 (.int .i64 (.ofNat 4))) fun v12 => .seq (.cond v12 (.fall) ((.exit 0))) <| .seq (.block 1
  (.op (.ixarr 4 true 4 v10 v11) fun v13 => .op (.alloc [(.int .i64 (.ofNat 0)),(.int .u8 (.ofNat 0)),(.int .u8 (.ofNat 0)),(.int .i32 (.ofNat 0))] 482) fun v14 => .op (.store 4
  v14 v13) fun _ => .getv (.o .h) fun v16 => .op (.faddr 3 v14) fun v17 => .op (.load false 1 v17) fun v18 => .op (.bin .geq .no v16 v18) fun v19 => .seq (.cond v19 (.op (.load
  true 4 v14) fun v20 => .op (.store 4 v8 v20) fun _ => .fall) (.fall)) <| .fall)) <| .op (.bin .add .no v11 (.int .i64 (.ofNat 1))) fun v22 => .setv (.o (.o (.i (.o .h)))) v22 <|
  .fall)) <| .fall)) <| .op (.faddr 0 v8) fun v23 => .op (.load false 1 v23) fun v24 => .op (.bin .sub .no v24 (.int .i64 (.ofNat 1))) fun v25 => .setv (.o (.i (.o .h))) v25 <|
  .seq (.block 2 (.seq (.loop (.getv (.o (.i (.o .h))) fun v26 => .op (.bin .geq .no v26 (.int .i64 (.ofNat 0))) fun v27 => .seq (.cond v27 (.fall) ((.exit 2))) <| .seq (.block 3
  (.getv (.o .h) fun v28 => .op (.bin .mul .no (.int .i64 (.ofNat 6)) v26) fun v29 => .op (.bin .shr .no v28 v29) fun v30 => .op (.faddr 0 v8) fun v31 => .op (.load false 1 v31)
  fun v32 => .op (.bin .sub .no v32 (.int .i64 (.ofNat 1))) fun v33 => .op (.bin .eql .no v26 v33) fun v34 => .seq (.cond v34 (.getv (.o (.i .h)) fun v35 => .op (.faddr 2 v8) fun
  v36 => .op (.load false 1 v36) fun v37 => .op (.conv .u8 v30) fun v38 => .op (.bin .or .no v37 v38) fun v39 => .op (.bslice 5 1 1 [(.int .u8 (.ofNat 0))] [(0,v39)]) fun v40 =>
  .op (.app 5 1 1 v35 v40) fun v41 => .setv (.o (.i .h)) v41 <| .fall) (.getv (.o (.i .h)) fun v42 => .op (.conv .u8 v30) fun v43 => .op (.bin .and .no v43 (.int .u8 (.ofNat 63)))
  fun v44 => .op (.bin .or .no (.int .u8 (.ofNat 128)) v44) fun v45 => .op (.bslice 5 1 1 [(.int .u8 (.ofNat 0))] [(0,v45)]) fun v46 => .op (.app 5 1 1 v42 v46) fun v47 => .setv
  (.o (.i .h)) v47 <| .fall)) <| .fall)) <| .op (.bin .sub .no v26 (.int .i64 (.ofNat 1))) fun v48 => .setv (.o (.i (.o .h))) v48 <| .fall)) <| .fall)) <| .getv (.o (.i .h)) fun
  v49 => .setv (.i (.o .h)) v49 <| .ret) [.tmp (.i (.o .h))]
theorem F342_ok : toFn Tryz.prog 342 [1,4,5,9,19] = some F342 := by kernel_rfl
def F343 : FnE := .body (.arg 0 fun v1 => .setv .h v1 <| .arg 1 fun v2 => .seq (.block 0 (.seq (.loop (.getv .h fun v3 => .op (.bin .geq .no v3 (.int .i64 (.ofNat 128))) fun v4 => .seq (.cond v4 (.fall)
  ((.exit 0))) <| .seq (.block 1 (.op (.load false 1 v2) fun v5 => .op (.conv .u8 v3) fun v6 => .op (.bin .or .no v6 (.int .u8 (.ofNat 128))) fun v7 => .op (.bslice 5 1 1 [(.int
  .u8 (.ofNat 0))] [(0,v7)]) fun v8 => .op (.app 5 1 1 v5 v8) fun v9 => .op (.store 1 v2 v9) fun _ => .op (.bin .shr .no v3 (.int .u64 (.ofNat 7))) fun v11 => .setv .h v11 <|
  .fall)) <| .fall)) <| .fall)) <| .op (.load false 1 v2) fun v12 => .getv .h fun v13 => .op (.conv .u8 v13) fun v14 => .op (.bslice 5 1 1 [(.int .u8 (.ofNat 0))] [(0,v14)]) fun
  v15 => .op (.app 5 1 1 v12 v15) fun v16 => .op (.store 1 v2 v16) fun _ => .fall) []
theorem F343_ok : toFn Tryz.prog 343 [0] = some F343 := by kernel_rfl
def F344 : FnE := .body (.arg 0 fun v1 => .arg 1 fun v2 => .arg 2 fun v3 => .arg 3 fun v4 => .op (.load false 1 v2) fun v5 => .callf (.o (.i (.o (.i (.i (.o (.i (.o .h)))))))) [v5] fun v6 => .op (.alloc
  [.nilp] 450) fun v7 => .op (.store 1 v7 v6) fun _ => .op (.mkfn (.fn (.i (.i (.o (.i (.i (.o (.i (.o .h))))))))) [] [v7]) fun v9 => .setv (.o (.o (.o .h))) (.int .i64 (.ofNat 1))
  <| .seq (.block 0 (.seq (.loop (.seq (.block 1 (.op (.load false 1 v3) fun v10 => .getv (.o (.o (.o .h))) fun v11 => .callf (.i (.i (.i (.i (.i (.o (.i (.o .h)))))))) [v11] fun
  v12 => .chk false 1 v3 v10 <| .op (.bslice 43 1 2 [.nils] [(0,v10),(1,v12)]) fun v13 => .callv v9 [v13] fun v14 => .setv (.i (.o (.o .h))) v14 <| .setv (.o (.i (.o .h))) v14 <|
  .op (.load false 1 v4) fun v15 => .op (.bin .sub .no v15 (.int .i64 (.ofNat 1))) fun v16 => .setv (.i (.o (.o (.i .h)))) (.int .i64 (.ofNat 0)) <| .seq (.block 2 (.seq (.loop
  (.getv (.i (.o (.o (.i .h)))) fun v17 => .op (.bin .lss .no v17 v16) fun v18 => .seq (.cond v18 (.fall) ((.exit 2))) <| .seq (.block 3 (.getv (.i (.o (.o .h))) fun v19 => .op
  (.bslice 43 1 1 [.nils] [(0,v19)]) fun v20 => .callv v9 [v20] fun v21 => .setv (.i (.o (.o .h))) v21 <| .getv (.o (.i (.o .h))) fun v22 => .callf (.o (.i (.o (.o (.i (.o (.i (.o
  .h)))))))) [v22,v21] fun v23 => .setv (.o (.i (.o .h))) v23 <| .fall)) <| .op (.bin .add .no v17 (.int .i64 (.ofNat 1))) fun v24 => .setv (.i (.o (.o (.i .h)))) v24 <| .fall)) <|
  .fall)) <| .getv (.o (.i (.o .h))) fun v25 => .callv v1 [v25] fun v26 => .op (.un .not v26) fun v27 => .seq (.cond v27 (.ret) (.fall)) <| .fall)) <| .getv (.o (.o (.o .h))) fun
  v28 => .op (.bin .add .no v28 (.int .i64 (.ofNat 1))) fun v29 => .setv (.o (.o (.o .h))) v29 <| .fall)) <| .fall)) <| .fall) []
theorem F344_ok : toFn Tryz.prog 344 [7,8,9,24] = some F344 := by kernel_rfl
def F345 : FnE := .body (.arg 0 fun v1 => .setv (.i .h) .nilp <| .callf (.i (.i (.i (.o (.o (.i (.o (.o .h)))))))) [v1,(.int .u8 (.ofNat 54))] fun v2 => .callf (.o (.i (.i (.i (.i (.i (.i (.o .h))))))))
  [v2] fun v3 => .callf (.i (.i (.i (.o (.o (.i (.o (.o .h)))))))) [v1,(.int .u8 (.ofNat 92))] fun v4 => .callf (.o (.i (.i (.i (.i (.i (.i (.o .h)))))))) [v4] fun v5 => .op
  (.build [.nilp,.nilp,.nilp] [(0,1,v3),(1,1,v5)]) fun v6 => .op (.box 487 v6) fun v7 => .callf (.o (.o (.i (.i (.i (.o (.i (.o .h)))))))) [v7] fun _ => .setv (.i .h) v7 <| .ret) [.tmp (.i .h)]
theorem F345_ok : toFn Tryz.prog 345 [2] = some F345 := by kernel_rfl
def F346 : FnE := .body (.arg 0 fun v1 => .arg 1 fun v2 => .setv (.o (.o .h)) .nils <| .op (.load false 1 v2) fun v3 => .callf (.o (.o (.i (.i (.i (.o (.i (.o .h)))))))) [v3] fun _ => .op (.len false v1)
  fun v5 => .setv (.i (.i (.o .h))) (.int .i64 (.ofNat 0)) <| .seq (.block 0 (.seq (.loop (.getv (.i (.i (.o .h))) fun v6 => .op (.bin .lss .no v6 v5) fun v7 => .seq (.cond v7
  (.fall) ((.exit 0))) <| .seq (.block 1 (.op (.islc 1 v1 v6) fun v8 => .op (.load false 1 v8) fun v9 => .op (.load false 1 v2) fun v10 => .callf (.i (.o (.i (.i (.i (.o (.i (.o
  .h)))))))) [v10,v9] fun _ => .fall)) <| .op (.bin .add .no v6 (.int .i64 (.ofNat 1))) fun v12 => .setv (.i (.i (.o .h))) v12 <| .fall)) <| .fall)) <| .op (.load false 1 v2) fun
  v13 => .callf (.o (.i (.i (.i (.i (.o (.i (.o .h)))))))) [v13] fun v14 => .setv (.o (.o .h)) v14 <| .ret) [.tmp (.o (.o .h))]
theorem F346_ok : toFn Tryz.prog 346 [3,10] = some F346 := by kernel_rfl
def F347 : FnE := .body (.arg 0 fun v1 => .op (.bin .neq .ptr v1 .nilp) fun v2 => .seq (.cond v2 (.op (.nilck v1) fun v3 => .op (.faddr 0 v3) fun v4 => .op (.load false 1 v4) fun v5 => .callf (.i (.i (.i
  (.i (.i (.i (.i (.o .h)))))))) [v5] fun v6 => .op (.nilck v1) fun v7 => .op (.faddr 2 v7) fun v8 => .op (.store 1 v8 v6) fun _ => .fall) (.fall)) <| .fall) []
theorem F347_ok : toFn Tryz.prog 347 [] = some F347 := by kernel_rfl
def F348 : FnE := .body (.arg 0 fun v1 => .arg 1 fun v2 => .setv (.i (.o .h)) (.int .i64 (.ofNat 0)) <| .op (.bin .eql .ptr v1 .nilp) fun v3 => .seq (.cond v3 (.setv (.i (.o .h)) (.int .i64 (.ofNat 0)) <|
  .ret) (.fall)) <| .op (.nilck v1) fun v4 => .op (.faddr 2 v4) fun v5 => .op (.load false 1 v5) fun v6 => .callf (.o (.o (.o (.o (.o (.o (.o (.i .h)))))))) [v6,v2] fun v7 => .setv
  (.i (.o .h)) v7 <| .ret) [.tmp (.i (.o .h))]
theorem F348_ok : toFn Tryz.prog 348 [4] = some F348 := by kernel_rfl
def F349 : FnE := .body (.arg 0 fun v1 => .setv (.i .h) .nils <| .op (.bin .eql .ptr v1 .nilp) fun v2 => .seq (.cond v2 (.setv (.i .h) .nils <| .ret) (.fall)) <| .op (.nilck v1) fun v3 => .op (.faddr 1 v3)
  fun v4 => .op (.load false 1 v4) fun v5 => .callf (.i (.i (.i (.i (.i (.i (.i (.o .h)))))))) [v5] fun v6 => .op (.nilck v1) fun v7 => .op (.faddr 2 v7) fun v8 => .op (.load false
  1 v8) fun v9 => .callf (.i (.o (.o (.o (.o (.o (.o (.i .h)))))))) [v9] fun v10 => .callf (.o (.o (.o (.o (.o (.o (.o (.i .h)))))))) [v6,v10] fun _ => .callf (.i (.o (.o (.o (.o
  (.o (.o (.i .h)))))))) [v6] fun v12 => .setv (.i .h) v12 <| .ret) [.tmp (.i .h)]
theorem F349_ok : toFn Tryz.prog 349 [2] = some F349 := by kernel_rfl
def F350 : FnE := .body (.arg 0 fun v1 => .setv (.i .h) .nils <| .op (.bin .shr .no v1 (.int .u64 (.ofNat 24))) fun v2 => .op (.conv .u8 v2) fun v3 => .op (.bin .shr .no v1 (.int .u64 (.ofNat 16))) fun v4
  => .op (.conv .u8 v4) fun v5 => .op (.bin .shr .no v1 (.int .u64 (.ofNat 8))) fun v6 => .op (.conv .u8 v6) fun v7 => .op (.conv .u8 v1) fun v8 => .op (.bslice 5 1 4 [(.int .u8
  (.ofNat 0))] [(0,v3),(1,v5),(2,v7),(3,v8)]) fun v9 => .setv (.i .h) v9 <| .ret) [.tmp (.i .h)]
theorem F350_ok : toFn Tryz.prog 350 [2] = some F350 := by kernel_rfl
def F351 : FnE := .body (.arg 0 fun v1 => .arg 1 fun v2 => .setv (.i (.o .h)) .nils <| .op (.bin .eql .no v2 (.int .i64 (.ofNat 0))) fun v3 => .seq (.cond v3 (.op (.bslice 5 1 0 [(.int .u8 (.ofNat 0))] [])
  fun v4 => .setv (.i (.o .h)) v4 <| .ret) (.fall)) <| .op (.bin .lss .no v2 (.int .i64 (.ofNat 0))) fun v5 => .seq (.cond v5 (.bad) (.fall)) <| .op (.len false v1) fun v6 => .op
  (.conv .u64 v6) fun v7 => .op (.conv .u64 v2) fun v8 => .callf (.o (.i (.o (.o (.i (.i (.i (.o .h)))))))) [v7,v8] fun v9 => .op (.ext v9 0) fun v10 => .op (.ext v9 1) fun v11 =>
  .op (.bin .gtr .no v10 (.int .u64 (.ofNat 0))) fun v12 => .gop v12 false (.mv v11) fun v13 => .gop v12 false (.bin .gtr .no v13 (.int .u64 (.ofNat 9223372036854775807))) fun v14
  => .op (.pick v12 (.bool true) v14) fun v15 => .seq (.cond v15 (.bad) (.fall)) <| .op (.conv .i64 v11) fun v16 => .op (.len false v1) fun v17 => .op (.bin .eql .no v17 (.int .i64
  (.ofNat 0))) fun v18 => .seq (.cond v18 (.op (.bslice 5 1 0 [(.int .u8 (.ofNat 0))] []) fun v19 => .setv (.i (.o .h)) v19 <| .ret) (.fall)) <| .setv (.i (.o (.o .h))) v16 <| .op
  (.bin .gtr .no v16 (.int .i64 (.ofNat 8192))) fun v20 => .seq (.cond v20 (.op (.len false v1) fun v21 => .op (.bin .quo .no (.int .i64 (.ofNat 8192)) v21) fun v22 => .op (.len
  false v1) fun v23 => .op (.bin .mul .no v22 v23) fun v24 => .setv (.i (.o (.o .h))) v24 <| .op (.bin .eql .no v24 (.int .i64 (.ofNat 0))) fun v25 => .seq (.cond v25 (.op (.len
  false v1) fun v26 => .setv (.i (.o (.o .h))) v26 <| .fall) (.fall)) <| .fall) (.fall)) <| .callf (.o (.i (.i (.o (.o (.i (.o (.o .h)))))))) [v16] fun v27 => .op (.sslc 1 v27 none
  (some v16) (some v16)) fun v28 => .op (.copy 1 v28 v1) fun v29 => .setv (.i (.i (.o .h))) v29 <| .seq (.block 0 (.seq (.loop (.getv (.i (.i (.o .h))) fun v30 => .op (.bin .lss
  .no v30 v16) fun v31 => .seq (.cond v31 (.fall) ((.exit 0))) <| .seq (.block 1 (.getv (.i (.o (.o .h))) fun v32 => .op (.mn [v30,v32]) fun v33 => .op (.sslc 1 v28 (some v30) none
  none) fun v34 => .op (.sslc 1 v28 none (some v33) none) fun v35 => .op (.copy 1 v34 v35) fun v36 => .op (.bin .add .no v30 v36) fun v37 => .setv (.i (.i (.o .h))) v37 <| .fall))
  <| .fall)) <| .fall)) <| .setv (.i (.o .h)) v28 <| .ret) [.tmp (.i (.o .h))]
theorem F351_ok : toFn Tryz.prog 351 [4,8,10] = some F351 := by kernel_rfl
def F352 : FnE := .body (.arg 0 fun v1 => .arg 1 fun v2 => .op (.load false 1 v2) fun v3 => .op (.load false 1 v2) fun v4 => .op (.len false v4) fun v5 => .op (.conv .u64 v5) fun v6 => .callf (.o (.i (.o
  (.o (.i (.i .h)))))) [v3] fun v7 => .chk false 1 v2 v4 <| .callf (.o (.i (.o (.o (.o (.i (.i (.o .h)))))))) [v6] fun v8 => .op (.app 5 1 1 v7 v8) fun v9 => .setv (.o (.o .h)) v9
  <| .seq (.block 0 (.seq (.loop (.getv (.o (.o .h)) fun v10 => .op (.len false v10) fun v11 => .op (.bin .gtr .no v11 (.int .i64 (.ofNat 0))) fun v12 => .seq (.cond v12 (.fall)
  ((.exit 0))) <| .seq (.block 1 (.op (.sslc 1 v10 none (some (.int .i64 (.ofNat 64))) (some (.int .i64 (.ofNat 64)))) fun v13 => .callv v1 [v13] fun v14 => .op (.un .not v14) fun
  v15 => .seq (.cond v15 (.ret) (.fall)) <| .op (.sslc 1 v10 (some (.int .i64 (.ofNat 64))) none none) fun v16 => .setv (.o (.o .h)) v16 <| .fall)) <| .fall)) <| .fall)) <| .fall) []
theorem F352_ok : toFn Tryz.prog 352 [3] = some F352 := by kernel_rfl
def F353 : FnE := .body (.arg 0 fun v1 => .setv (.i .h) .nils <| .op (.bslice 5 1 1 [(.int .u8 (.ofNat 0))] [(0,(.int .u8 (.ofNat 128)))]) fun v2 => .setv (.o (.o .h)) v2 <| .seq (.block 0 (.seq (.loop
  (.getv (.o (.o .h)) fun v3 => .op (.len false v3) fun v4 => .op (.conv .u64 v4) fun v5 => .op (.bin .add .no v1 v5) fun v6 => .op (.bin .add .no v6 (.int .u64 (.ofNat 8))) fun v7
  => .op (.bin .rem .no v7 (.int .u64 (.ofNat 64))) fun v8 => .op (.bin .neq .no v8 (.int .u64 (.ofNat 0))) fun v9 => .seq (.cond v9 (.fall) ((.exit 0))) <| .seq (.block 1 (.op
  (.bslice 5 1 1 [(.int .u8 (.ofNat 0))] [(0,(.int .u8 (.ofNat 0)))]) fun v10 => .op (.app 5 1 1 v3 v10) fun v11 => .setv (.o (.o .h)) v11 <| .fall)) <| .fall)) <| .fall)) <| .getv
  (.o (.o .h)) fun v12 => .op (.bin .mul .no (.int .u64 (.ofNat 8)) v1) fun v13 => .callf (.o (.i (.o (.o (.o (.o (.o (.i .h)))))))) [v13] fun v14 => .op (.app 5 1 1 v12 v14) fun
  v15 => .setv (.i .h) v15 <| .ret) [.tmp (.i .h)]
theorem F353_ok : toFn Tryz.prog 353 [2,3] = some F353 := by kernel_rfl
def F356 : FnE := .body (.arg 0 fun v1 => .arg 1 fun v2 => .setv (.i (.o .h)) (.bool false) <| .op (.len false v1) fun v3 => .op (.len false v2) fun v4 => .op (.bin .neq .no v3 v4) fun v5 => .seq (.cond v5
  (.setv (.i (.o .h)) (.bool false) <| .ret) (.fall)) <| .op (.len false v1) fun v6 => .setv (.o (.i (.i .h))) (.int .i64 (.ofNat 0)) <| .seq (.block 0 (.seq (.loop (.getv (.o (.i
  (.i .h))) fun v7 => .op (.bin .lss .no v7 v6) fun v8 => .seq (.cond v8 (.fall) ((.exit 0))) <| .seq (.block 1 (.op (.islc 1 v1 v7) fun v9 => .op (.load false 1 v9) fun v10 => .op
  (.islc 1 v2 v7) fun v11 => .op (.load false 1 v11) fun v12 => .op (.bin .neq .no v10 v12) fun v13 => .seq (.cond v13 (.setv (.i (.o .h)) (.bool false) <| .ret) (.fall)) <|
  .fall)) <| .op (.bin .add .no v7 (.int .i64 (.ofNat 1))) fun v14 => .setv (.o (.i (.i .h))) v14 <| .fall)) <| .fall)) <| .setv (.i (.o .h)) (.bool true) <| .ret) [.tmp (.i (.o .h))]
theorem F356_ok : toFn Tryz.prog 356 [4,13] = some F356 := by kernel_rfl
def F357 : FnE := .body (.arg 0 fun v1 => .setv (.i .h) (.int .u32 (.ofNat 0)) <| .setv (.o (.o .h)) (.int .u32 (.ofNat 0)) <| .setv (.i (.o .h)) (.int .u32 (.ofNat 0)) <| .op (.len true v1) fun v2 => .op
  (.bin .sub .no v2 (.int .i64 (.ofNat 1))) fun v3 => .setv (.o (.i .h)) v3 <| .seq (.block 0 (.seq (.loop (.getv (.o (.i .h)) fun v4 => .op (.bin .geq .no v4 (.int .i64 (.ofNat
  0))) fun v5 => .seq (.cond v5 (.fall) ((.exit 0))) <| .seq (.block 1 (.getv (.i (.o .h)) fun v6 => .op (.bin .mul .no v6 (.int .u32 (.ofNat 16777619))) fun v7 => .op (.ixstr v1
  v4) fun v8 => .op (.conv .u32 v8) fun v9 => .op (.bin .add .no v7 v9) fun v10 => .setv (.i (.o .h)) v10 <| .fall)) <| .op (.bin .sub .no v4 (.int .i64 (.ofNat 1))) fun v11 =>
  .setv (.o (.i .h)) v11 <| .fall)) <| .fall)) <| .setv (.i (.i .h)) (.int .u32 (.ofNat 1)) <| .setv (.o (.o (.o .h))) (.int .u32 (.ofNat 16777619)) <| .op (.len true v1) fun v12
  => .setv (.i (.o (.o .h))) v12 <| .seq (.block 2 (.seq (.loop (.getv (.i (.o (.o .h))) fun v13 => .op (.bin .gtr .no v13 (.int .i64 (.ofNat 0))) fun v14 => .seq (.cond v14
  (.fall) ((.exit 2))) <| .seq (.block 3 (.op (.bin .and .no v13 (.int .i64 (.ofNat 1))) fun v15 => .op (.bin .neq .no v15 (.int .i64 (.ofNat 0))) fun v16 => .seq (.cond v16 (.getv
  (.i (.i .h)) fun v17 => .getv (.o (.o (.o .h))) fun v18 => .op (.bin .mul .no v17 v18) fun v19 => .setv (.i (.i .h)) v19 <| .fall) (.fall)) <| .getv (.o (.o (.o .h))) fun v20 =>
  .op (.bin .mul .no v20 v20) fun v21 => .setv (.o (.o (.o .h))) v21 <| .fall)) <| .op (.bin .shr .no v13 (.int .u64 (.ofNat 1))) fun v22 => .setv (.i (.o (.o .h))) v22 <| .fall))
  <| .fall)) <| .getv (.i (.o .h)) fun v23 => .getv (.i (.i .h)) fun v24 => .setv (.i .h) v23 <| .setv (.o (.o .h)) v24 <| .ret) [.tmp (.i .h),.tmp (.o (.o .h))]
theorem F357_ok : toFn Tryz.prog 357 [2,3,4,5,6,7,8] = some F357 := by kernel_rfl
def F362 : FnE := .body (.arg 0 fun v1 => .setv (.i .h) (.bool false) <| .op (.bin .geq .no v1 (.int .u8 (.ofNat 128))) fun v2 => .gop v2 true (.mv v1) fun v3 => .gop v2 true (.bin .leq .no v3 (.int .u8
  (.ofNat 191))) fun v4 => .op (.pick v2 v4 (.bool false)) fun v5 => .setv (.i .h) v5 <| .ret) [.tmp (.i .h)]
theorem F362_ok : toFn Tryz.prog 362 [2] = some F362 := by kernel_rfl
def F364 : FnE := .body (.arg 0 fun v1 => .setv (.i .h) (.int .i64 (.ofNat 0)) <| .op (.bin .add .no v1 (.int .i64 (.ofNat 16))) fun v2 => .op (.bin .quo .no v2 (.int .i64 (.ofNat 8))) fun v3 => .setv (.i
  .h) v3 <| .ret) [.tmp (.i .h)]
theorem F364_ok : toFn Tryz.prog 364 [2] = some F364 := by kernel_rfl
def F365 : FnE := .body (.arg 0 fun v1 => .arg 1 fun v2 => .setv (.i (.o .h)) (.int .i64 (.ofNat 0)) <| .callf (.o (.o (.i (.o (.o (.o (.o (.i .h)))))))) [v2] fun v3 => .op (.ext v3 0) fun v4 => .op (.ext
  v3 1) fun v5 => .op (.len true v2) fun v6 => .setv (.i (.o (.o .h))) (.int .u32 (.ofNat 0)) <| .setv (.o (.i (.o .h))) (.int .i64 (.ofNat 0)) <| .seq (.block 0 (.seq (.loop
  (.getv (.o (.i (.o .h))) fun v7 => .op (.bin .lss .no v7 v6) fun v8 => .seq (.cond v8 (.fall) ((.exit 0))) <| .seq (.block 1 (.getv (.i (.o (.o .h))) fun v9 => .op (.bin .mul .no
  v9 (.int .u32 (.ofNat 16777619))) fun v10 => .op (.ixstr v1 v7) fun v11 => .op (.conv .u32 v11) fun v12 => .op (.bin .add .no v10 v12) fun v13 => .setv (.i (.o (.o .h))) v13 <|
  .fall)) <| .op (.bin .add .no v7 (.int .i64 (.ofNat 1))) fun v14 => .setv (.o (.i (.o .h))) v14 <| .fall)) <| .fall)) <| .getv (.i (.o (.o .h))) fun v15 => .op (.bin .eql .no v15
  v4) fun v16 => .gop v16 true (.mv v1) fun v17 => .gop v16 true (.mv v6) fun v18 => .gop v16 true (.sstr v17 none (some v18)) fun v19 => .gop v16 true (.mv v2) fun v20 => .gop v16
  true (.bin .eql .no v19 v20) fun v21 => .op (.pick v16 v21 (.bool false)) fun v22 => .seq (.cond v22 (.setv (.i (.o .h)) (.int .i64 (.ofNat 0)) <| .ret) (.fall)) <| .setv (.i (.i
  (.o .h))) v6 <| .seq (.block 2 (.seq (.loop (.getv (.i (.i (.o .h))) fun v23 => .op (.len true v1) fun v24 => .op (.bin .lss .no v23 v24) fun v25 => .seq (.cond v25 (.fall)
  ((.exit 2))) <| .seq (.block 3 (.getv (.i (.o (.o .h))) fun v26 => .op (.bin .mul .no v26 (.int .u32 (.ofNat 16777619))) fun v27 => .setv (.i (.o (.o .h))) v27 <| .op (.ixstr v1
  v23) fun v28 => .op (.conv .u32 v28) fun v29 => .op (.bin .add .no v27 v29) fun v30 => .setv (.i (.o (.o .h))) v30 <| .op (.bin .sub .no v23 v6) fun v31 => .op (.ixstr v1 v31)
  fun v32 => .op (.conv .u32 v32) fun v33 => .op (.bin .mul .no v5 v33) fun v34 => .op (.bin .sub .no v30 v34) fun v35 => .setv (.i (.o (.o .h))) v35 <| .op (.bin .add .no v23
  (.int .i64 (.ofNat 1))) fun v36 => .setv (.i (.i (.o .h))) v36 <| .op (.bin .eql .no v35 v4) fun v37 => .gop v37 true (.mv v1) fun v38 => .gop v37 true (.mv v36) fun v39 => .gop
  v37 true (.mv v6) fun v40 => .gop v37 true (.bin .sub .no v39 v40) fun v41 => .gop v37 true (.mv v36) fun v42 => .gop v37 true (.sstr v38 (some v41) (some v42)) fun v43 => .gop
  v37 true (.mv v2) fun v44 => .gop v37 true (.bin .eql .no v43 v44) fun v45 => .op (.pick v37 v45 (.bool false)) fun v46 => .seq (.cond v46 (.op (.bin .sub .no v36 v6) fun v47 =>
  .setv (.i (.o .h)) v47 <| .ret) (.fall)) <| .fall)) <| .fall)) <| .fall)) <| .setv (.i (.o .h)) (.int .i64 (.negSucc 0)) <| .ret) [.tmp (.i (.o .h))]
theorem F365_ok : toFn Tryz.prog 365 [4,8,9,10] = some F365 := by kernel_rfl
def F366 : FnE := .body (.arg 0 fun v1 => .arg 1 fun v2 => .setv (.o (.o .h)) (.int .i64 (.ofNat 0)) <| .seq (.block 0 (.seq (.loop (.getv (.o (.o .h)) fun v3 => .op (.load false 1 v2) fun v4 => .op (.len
  true v4) fun v5 => .op (.bin .lss .no v3 v5) fun v6 => .seq (.cond v6 (.fall) ((.exit 0))) <| .seq (.block 1 (.op (.load false 1 v2) fun v7 => .op (.sstr v7 (some v3) none) fun
  v8 => .callf (.o (.o (.o (.o (.i (.i (.i (.o .h)))))))) [v8] fun v9 => .op (.ext v9 0) fun v10 => .op (.ext v9 1) fun v11 => .callv v1 [v3,v10] fun v12 => .op (.un .not v12) fun
  v13 => .seq (.cond v13 (.ret) (.fall)) <| .op (.bin .add .no v3 v11) fun v14 => .setv (.o (.o .h)) v14 <| .fall)) <| .fall)) <| .fall)) <| .fall) []
theorem F366_ok : toFn Tryz.prog 366 [3] = some F366 := by kernel_rfl
def F367 : FnE := .body (.arg 0 fun v1 => .setv (.i .h) (.int .i32 (.ofNat 0)) <| .setv (.o (.o .h)) (.int .i64 (.ofNat 0)) <| .op (.load true 16 (.ptr (.o (.o (.o .h))) 0)) fun v2 => .setv (.o (.i (.o
  .h))) (.int .i64 (.ofNat 0)) <| .seq (.block 0 (.seq (.loop (.getv (.o (.i (.o .h))) fun v3 => .op (.bin .lss .no v3 (.int .i64 (.ofNat 4))) fun v4 => .seq (.cond v4 (.fall)
  ((.exit 0))) <| .seq (.block 1 (.op (.ixarr 4 true 4 v2 v3) fun v5 => .op (.alloc [(.int .i64 (.ofNat 0)),(.int .u8 (.ofNat 0)),(.int .u8 (.ofNat 0)),(.int .i32 (.ofNat 0))] 482)
  fun v6 => .op (.store 4 v6 v5) fun _ => .op (.ixstr v1 (.int .i64 (.ofNat 0))) fun v8 => .op (.faddr 1 v6) fun v9 => .op (.load false 1 v9) fun v10 => .op (.bin .and .no v8 v10)
  fun v11 => .op (.faddr 2 v6) fun v12 => .op (.load false 1 v12) fun v13 => .op (.bin .neq .no v11 v13) fun v14 => .gop v14 false (.mv v1) fun v15 => .gop v14 false (.len true
  v15) fun v16 => .gop v14 false (.faddr 0 v6) fun v17 => .gop v14 false (.load false 1 v17) fun v18 => .gop v14 false (.bin .lss .no v16 v18) fun v19 => .op (.pick v14 (.bool
  true) v19) fun v20 => .seq (.cond v20 ((.exit 1)) (.fall)) <| .op (.ixstr v1 (.int .i64 (.ofNat 0))) fun v21 => .op (.faddr 1 v6) fun v22 => .op (.load false 1 v22) fun v23 =>
  .op (.bin .andNot .no v21 v23) fun v24 => .op (.conv .i32 v24) fun v25 => .setv (.i (.i .h)) v25 <| .setv (.o (.o (.o .h))) (.int .i64 (.ofNat 1)) <| .seq (.block 2 (.seq (.loop
  (.getv (.o (.o (.o .h))) fun v26 => .op (.faddr 0 v6) fun v27 => .op (.load false 1 v27) fun v28 => .op (.bin .lss .no v26 v28) fun v29 => .seq (.cond v29 (.fall) ((.exit 2))) <|
  .seq (.block 3 (.op (.ixstr v1 v26) fun v30 => .op (.bin .andNot .no v30 (.int .u8 (.ofNat 63))) fun v31 => .op (.bin .neq .no v31 (.int .u8 (.ofNat 128))) fun v32 => .seq (.cond
  v32 ((.exit 0)) (.fall)) <| .getv (.i (.i .h)) fun v33 => .op (.bin .shl .no v33 (.int .u64 (.ofNat 6))) fun v34 => .op (.ixstr v1 v26) fun v35 => .op (.bin .and .no v35 (.int
  .u8 (.ofNat 63))) fun v36 => .op (.conv .i32 v36) fun v37 => .op (.bin .or .no v34 v37) fun v38 => .setv (.i (.i .h)) v38 <| .fall)) <| .op (.bin .add .no v26 (.int .i64 (.ofNat
  1))) fun v39 => .setv (.o (.o (.o .h))) v39 <| .fall)) <| .fall)) <| .getv (.i (.i .h)) fun v40 => .op (.faddr 3 v6) fun v41 => .op (.load false 1 v41) fun v42 => .op (.bin .geq
  .no v40 v42) fun v43 => .gop v43 true (.mv v40) fun v44 => .gcallf v43 true (.i (.o (.i (.i (.i (.i (.i (.o .h)))))))) [v44] fun v45 => .op (.pick v43 v45 (.bool false)) fun v46
  => .seq (.cond v46 (.op (.faddr 0 v6) fun v47 => .op (.load false 1 v47) fun v48 => .setv (.i .h) v40 <| .setv (.o (.o .h)) v48 <| .ret) (.fall)) <| (.exit 0))) <| .op (.bin .add
  .no v3 (.int .i64 (.ofNat 1))) fun v49 => .setv (.o (.i (.o .h))) v49 <| .fall)) <| .fall)) <| .setv (.i .h) (.int .i32 (.negSucc 0)) <| .setv (.o (.o .h)) (.int .i64 (.ofNat 1))
  <| .ret) [.tmp (.i .h),.tmp (.o (.o .h))]
theorem F367_ok : toFn Tryz.prog 367 [2,3,6,7,9] = some F367 := by kernel_rfl
def F368 : FnE := .body (.arg 0 fun v1 => .arg 1 fun v2 => .seq (.block 0 (.seq (.loop (.op (.load false 1 v2) fun v3 => .op (.len false v3) fun v4 => .op (.bin .gtr .no v4 (.int .i64 (.ofNat 0))) fun v5
  => .seq (.cond v5 (.fall) ((.exit 0))) <| .seq (.block 1 (.op (.load false 1 v2) fun v6 => .op (.len false v6) fun v7 => .op (.mn [v7,(.int .i64 (.ofNat 3))]) fun v8 => .op
  (.load false 1 v2) fun v9 => .op (.sslc 1 v9 none (some v8) (some v8)) fun v10 => .callv v1 [v10] fun v11 => .op (.un .not v11) fun v12 => .seq (.cond v12 (.ret) (.fall)) <| .op
  (.load false 1 v2) fun v13 => .op (.sslc 1 v13 (some v8) none none) fun v14 => .op (.store 1 v2 v14) fun _ => .fall)) <| .fall)) <| .fall)) <| .fall) []
theorem F368_ok : toFn Tryz.prog 368 [] = some F368 := by kernel_rfl
def F369 : FnE := .body (.arg 0 fun v1 => .arg 1 fun v2 => .setv (.i (.o .h)) (.int .u64 (.ofNat 0)) <| .setv (.o (.i .h)) (.int .u64 (.ofNat 0)) <| .seq (.cond (.bool false) (.op (.conv .u32 v1) fun v3 =>
  .op (.conv .u32 v2) fun v4 => .callf (.i (.o (.i (.o (.o (.o (.o (.i .h)))))))) [v3,v4] fun v5 => .op (.ext v5 0) fun v6 => .op (.ext v5 1) fun v7 => .op (.conv .u64 v6) fun v8
  => .op (.conv .u64 v7) fun v9 => .setv (.i (.o .h)) v8 <| .setv (.o (.i .h)) v9 <| .ret) (.fall)) <| .callf (.o (.i (.i (.o (.o (.o (.o (.i .h)))))))) [v1,v2] fun v10 => .op
  (.ext v10 0) fun v11 => .op (.ext v10 1) fun v12 => .setv (.i (.o .h)) v11 <| .setv (.o (.i .h)) v12 <| .ret) [.tmp (.i (.o .h)),.tmp (.o (.i .h))]
theorem F369_ok : toFn Tryz.prog 369 [4,5] = some F369 := by kernel_rfl
def F370 : FnE := .body (.arg 0 fun v1 => .setv (.i .h) (.int .i64 (.ofNat 0)) <| .op (.nilck v1) fun v2 => .op (.faddr 1 v2) fun v3 => .op (.load false 1 v3) fun v4 => .op (.len false v4) fun v5 => .setv
  (.i .h) v5 <| .ret) [.tmp (.i .h)]
theorem F370_ok : toFn Tryz.prog 370 [2] = some F370 := by kernel_rfl
def F371 : FnE := .body (.arg 0 fun v1 => .setv (.i .h) (.str 0 []) <| .op (.bin .lss .no v1 (.int .i64 (.ofNat 10))) fun v2 => .seq (.cond v2 (.op (.bin .add .no v1 (.int .i64 (.ofNat 1))) fun v3 => .op
  (.sstr (.str 36 [48,49,50,51,52,53,54,55,56,57,97,98,99,100,101,102,103,104,105,106,107,108,109,110,111,112,113,114,115,116,117,118,119,120,121,122]) (some v1) (some v3)) fun v4
  => .setv (.i .h) v4 <| .ret) (.fall)) <| .op (.bin .mul .no v1 (.int .i64 (.ofNat 2))) fun v5 => .op (.bin .mul .no v1 (.int .i64 (.ofNat 2))) fun v6 => .op (.bin .add .no v6
  (.int .i64 (.ofNat 2))) fun v7 => .op (.sstr (.str 200
  [48,48,48,49,48,50,48,51,48,52,48,53,48,54,48,55,48,56,48,57,49,48,49,49,49,50,49,51,49,52,49,53,49,54,49,55,49,56,49,57,50,48,50,49,50,50,50,51,50,52,50,53,50,54,50,55,50,56,50,57,51,48,51,49,51,50,51,51,51,52,51,53,51,54,51,55,51,56,51,57,52,48,52,49,52,50,52,51,52,52,52,53,52,54,52,55,52,56,52,57,53,48,53,49,53,50,53,51,53,52,53,53,53,54,53,55,53,56,53,57,54,48,54,49,54,50,54,51,54,52,54,53,54,54,54,55,54,56,54,57,55,48,55,49,55,50,55,51,55,52,55,53,55,54,55,55,55,56,55,57,56,48,56,49,56,50,56,51,56,52,56,53,56,54,56,55,56,56,56,57,57,48,57,49,57,50,57,51,57,52,57,53,57,54,57,55,57,56,57,57])
  (some v5) (some v7)) fun v8 => .setv (.i .h) v8 <| .ret) [.tmp (.i .h)]
theorem F371_ok : toFn Tryz.prog 371 [2] = some F371 := by kernel_rfl
def F372 : FnE := .body (.arg 0 fun v1 => .setv (.i .h) (.int .i64 (.ofNat 0)) <| .callf (.o (.o (.o (.i (.o (.o (.o (.i .h)))))))) [v1] fun v2 => .callf (.i (.i (.i (.o (.o (.o (.o (.i .h)))))))) [v2] fun
  v3 => .op (.iarr 20 1 (.ptr (.i (.o (.o .h))) 0) v3) fun v4 => .op (.load false 1 v4) fun v5 => .op (.bin .geq .no v1 v5) fun v6 => .callf (.i (.o (.o (.i (.o (.o (.o (.i
  .h)))))))) [v6] fun v7 => .op (.bin .add .no v3 v7) fun v8 => .setv (.i .h) v8 <| .ret) [.tmp (.i .h)]
theorem F372_ok : toFn Tryz.prog 372 [2] = some F372 := by kernel_rfl
def F373 : FnE := .body (.arg 0 fun v1 => .arg 1 fun v2 => .setv (.o .h) v2 <| .op (.len false v1) fun v3 => .setv (.i (.o .h)) v3 <| .seq (.block 0 (.seq (.loop (.getv (.i (.o .h)) fun v4 => .op (.bin
  .geq .no v4 (.int .i64 (.ofNat 8))) fun v5 => .seq (.cond v5 (.fall) ((.exit 0))) <| .seq (.block 1 (.getv (.o .h) fun v6 => .op (.bin .rem .no v6 (.int .u64 (.ofNat 100000000)))
  fun v7 => .op (.conv .u32 v7) fun v8 => .op (.bin .quo .no v6 (.int .u64 (.ofNat 100000000))) fun v9 => .setv (.o .h) v9 <| .op (.bin .quo .no v8 (.int .u32 (.ofNat 10000))) fun
  v10 => .op (.bin .rem .no v8 (.int .u32 (.ofNat 10000))) fun v11 => .op (.bin .quo .no v11 (.int .u32 (.ofNat 100))) fun v12 => .op (.bin .mul .no v12 (.int .u32 (.ofNat 2))) fun
  v13 => .op (.bin .rem .no v11 (.int .u32 (.ofNat 100))) fun v14 => .op (.bin .mul .no v14 (.int .u32 (.ofNat 2))) fun v15 => .op (.bin .quo .no v10 (.int .u32 (.ofNat 100))) fun
  v16 => .op (.bin .mul .no v16 (.int .u32 (.ofNat 2))) fun v17 => .op (.bin .rem .no v10 (.int .u32 (.ofNat 100))) fun v18 => .op (.bin .mul .no v18 (.int .u32 (.ofNat 2))) fun
  v19 => .op (.bin .sub .no v4 (.int .i64 (.ofNat 1))) fun v20 => .op (.bin .sub .no v4 (.int .i64 (.ofNat 2))) fun v21 => .op (.bin .add .no v15 (.int .u32 (.ofNat 1))) fun v22 =>
  .op (.ixstr (.str 200
  [48,48,48,49,48,50,48,51,48,52,48,53,48,54,48,55,48,56,48,57,49,48,49,49,49,50,49,51,49,52,49,53,49,54,49,55,49,56,49,57,50,48,50,49,50,50,50,51,50,52,50,53,50,54,50,55,50,56,50,57,51,48,51,49,51,50,51,51,51,52,51,53,51,54,51,55,51,56,51,57,52,48,52,49,52,50,52,51,52,52,52,53,52,54,52,55,52,56,52,57,53,48,53,49,53,50,53,51,53,52,53,53,53,54,53,55,53,56,53,57,54,48,54,49,54,50,54,51,54,52,54,53,54,54,54,55,54,56,54,57,55,48,55,49,55,50,55,51,55,52,55,53,55,54,55,55,55,56,55,57,56,48,56,49,56,50,56,51,56,52,56,53,56,54,56,55,56,56,56,57,57,48,57,49,57,50,57,51,57,52,57,53,57,54,57,55,57,56,57,57])
  v22) fun v23 => .op (.ixstr (.str 200
  [48,48,48,49,48,50,48,51,48,52,48,53,48,54,48,55,48,56,48,57,49,48,49,49,49,50,49,51,49,52,49,53,49,54,49,55,49,56,49,57,50,48,50,49,50,50,50,51,50,52,50,53,50,54,50,55,50,56,50,57,51,48,51,49,51,50,51,51,51,52,51,53,51,54,51,55,51,56,51,57,52,48,52,49,52,50,52,51,52,52,52,53,52,54,52,55,52,56,52,57,53,48,53,49,53,50,53,51,53,52,53,53,53,54,53,55,53,56,53,57,54,48,54,49,54,50,54,51,54,52,54,53,54,54,54,55,54,56,54,57,55,48,55,49,55,50,55,51,55,52,55,53,55,54,55,55,55,56,55,57,56,48,56,49,56,50,56,51,56,52,56,53,56,54,56,55,56,56,56,57,57,48,57,49,57,50,57,51,57,52,57,53,57,54,57,55,57,56,57,57])
  v15) fun v24 => .op (.islc 1 v1 v20) fun v25 => .op (.store 1 v25 v23) fun _ => .op (.islc 1 v1 v21) fun v27 => .op (.store 1 v27 v24) fun _ => .op (.bin .sub .no v4 (.int .i64
  (.ofNat 3))) fun v29 => .op (.bin .sub .no v4 (.int .i64 (.ofNat 4))) fun v30 => .op (.bin .add .no v13 (.int .u32 (.ofNat 1))) fun v31 => .op (.ixstr (.str 200
  [48,48,48,49,48,50,48,51,48,52,48,53,48,54,48,55,48,56,48,57,49,48,49,49,49,50,49,51,49,52,49,53,49,54,49,55,49,56,49,57,50,48,50,49,50,50,50,51,50,52,50,53,50,54,50,55,50,56,50,57,51,48,51,49,51,50,51,51,51,52,51,53,51,54,51,55,51,56,51,57,52,48,52,49,52,50,52,51,52,52,52,53,52,54,52,55,52,56,52,57,53,48,53,49,53,50,53,51,53,52,53,53,53,54,53,55,53,56,53,57,54,48,54,49,54,50,54,51,54,52,54,53,54,54,54,55,54,56,54,57,55,48,55,49,55,50,55,51,55,52,55,53,55,54,55,55,55,56,55,57,56,48,56,49,56,50,56,51,56,52,56,53,56,54,56,55,56,56,56,57,57,48,57,49,57,50,57,51,57,52,57,53,57,54,57,55,57,56,57,57])
  v31) fun v32 => .op (.ixstr (.str 200
  [48,48,48,49,48,50,48,51,48,52,48,53,48,54,48,55,48,56,48,57,49,48,49,49,49,50,49,51,49,52,49,53,49,54,49,55,49,56,49,57,50,48,50,49,50,50,50,51,50,52,50,53,50,54,50,55,50,56,50,57,51,48,51,49,51,50,51,51,51,52,51,53,51,54,51,55,51,56,51,57,52,48,52,49,52,50,52,51,52,52,52,53,52,54,52,55,52,56,52,57,53,48,53,49,53,50,53,51,53,52,53,53,53,54,53,55,53,56,53,57,54,48,54,49,54,50,54,51,54,52,54,53,54,54,54,55,54,56,54,57,55,48,55,49,55,50,55,51,55,52,55,53,55,54,55,55,55,56,55,57,56,48,56,49,56,50,56,51,56,52,56,53,56,54,56,55,56,56,56,57,57,48,57,49,57,50,57,51,57,52,57,53,57,54,57,55,57,56,57,57])
  v13) fun v33 => .op (.islc 1 v1 v29) fun v34 => .op (.store 1 v34 v32) fun _ => .op (.islc 1 v1 v30) fun v36 => .op (.store 1 v36 v33) fun _ => .op (.bin .sub .no v4 (.int .i64
  (.ofNat 5))) fun v38 => .op (.bin .sub .no v4 (.int .i64 (.ofNat 6))) fun v39 => .op (.bin .add .no v19 (.int .u32 (.ofNat 1))) fun v40 => .op (.ixstr (.str 200
  [48,48,48,49,48,50,48,51,48,52,48,53,48,54,48,55,48,56,48,57,49,48,49,49,49,50,49,51,49,52,49,53,49,54,49,55,49,56,49,57,50,48,50,49,50,50,50,51,50,52,50,53,50,54,50,55,50,56,50,57,51,48,51,49,51,50,51,51,51,52,51,53,51,54,51,55,51,56,51,57,52,48,52,49,52,50,52,51,52,52,52,53,52,54,52,55,52,56,52,57,53,48,53,49,53,50,53,51,53,52,53,53,53,54,53,55,53,56,53,57,54,48,54,49,54,50,54,51,54,52,54,53,54,54,54,55,54,56,54,57,55,48,55,49,55,50,55,51,55,52,55,53,55,54,55,55,55,56,55,57,56,48,56,49,56,50,56,51,56,52,56,53,56,54,56,55,56,56,56,57,57,48,57,49,57,50,57,51,57,52,57,53,57,54,57,55,57,56,57,57])
  v40) fun v41 => .op (.ixstr (.str 200
  [48,48,48,49,48,50,48,51,48,52,48,53,48,54,48,55,48,56,48,57,49,48,49,49,49,50,49,51,49,52,49,53,49,54,49,55,49,56,49,57,50,48,50,49,50,50,50,51,50,52,50,53,50,54,50,55,50,56,50,57,51,48,51,49,51,50,51,51,51,52,51,53,51,54,51,55,51,56,51,57,52,48,52,49,52,50,52,51,52,52,52,53,52,54,52,55,52,56,52,57,53,48,53,49,53,50,53,51,53,52,53,53,53,54,53,55,53,56,53,57,54,48,54,49,54,50,54,51,54,52,54,53,54,54,54,55,54,56,54,57,55,48,55,49,55,50,55,51,55,52,55,53,55,54,55,55,55,56,55,57,56,48,56,49,56,50,56,51,56,52,56,53,56,54,56,55,56,56,56,57,57,48,57,49,57,50,57,51,57,52,57,53,57,54,57,55,57,56,57,57])
  v19) fun v42 => .op (.islc 1 v1 v38) fun v43 => .op (.store 1 v43 v41) fun _ => .op (.islc 1 v1 v39) fun v45 => .op (.store 1 v45 v42) fun _ => .op (.bin .sub .no v4 (.int .i64
  (.ofNat 7))) fun v47 => .op (.bin .sub .no v4 (.int .i64 (.ofNat 8))) fun v48 => .op (.bin .add .no v17 (.int .u32 (.ofNat 1))) fun v49 => .op (.ixstr (.str 200
  [48,48,48,49,48,50,48,51,48,52,48,53,48,54,48,55,48,56,48,57,49,48,49,49,49,50,49,51,49,52,49,53,49,54,49,55,49,56,49,57,50,48,50,49,50,50,50,51,50,52,50,53,50,54,50,55,50,56,50,57,51,48,51,49,51,50,51,51,51,52,51,53,51,54,51,55,51,56,51,57,52,48,52,49,52,50,52,51,52,52,52,53,52,54,52,55,52,56,52,57,53,48,53,49,53,50,53,51,53,52,53,53,53,54,53,55,53,56,53,57,54,48,54,49,54,50,54,51,54,52,54,53,54,54,54,55,54,56,54,57,55,48,55,49,55,50,55,51,55,52,55,53,55,54,55,55,55,56,55,57,56,48,56,49,56,50,56,51,56,52,56,53,56,54,56,55,56,56,56,57,57,48,57,49,57,50,57,51,57,52,57,53,57,54,57,55,57,56,57,57])
  v49) fun v50 => .op (.ixstr (.str 200
  [48,48,48,49,48,50,48,51,48,52,48,53,48,54,48,55,48,56,48,57,49,48,49,49,49,50,49,51,49,52,49,53,49,54,49,55,49,56,49,57,50,48,50,49,50,50,50,51,50,52,50,53,50,54,50,55,50,56,50,57,51,48,51,49,51,50,51,51,51,52,51,53,51,54,51,55,51,56,51,57,52,48,52,49,52,50,52,51,52,52,52,53,52,54,52,55,52,56,52,57,53,48,53,49,53,50,53,51,53,52,53,53,53,54,53,55,53,56,53,57,54,48,54,49,54,50,54,51,54,52,54,53,54,54,54,55,54,56,54,57,55,48,55,49,55,50,55,51,55,52,55,53,55,54,55,55,55,56,55,57,56,48,56,49,56,50,56,51,56,52,56,53,56,54,56,55,56,56,56,57,57,48,57,49,57,50,57,51,57,52,57,53,57,54,57,55,57,56,57,57])
  v17) fun v51 => .op (.islc 1 v1 v47) fun v52 => .op (.store 1 v52 v50) fun _ => .op (.islc 1 v1 v48) fun v54 => .op (.store 1 v54 v51) fun _ => .op (.bin .sub .no v4 (.int .i64
  (.ofNat 8))) fun v56 => .setv (.i (.o .h)) v56 <| .fall)) <| .fall)) <| .fall)) <| .getv (.o .h) fun v57 => .op (.conv .u32 v57) fun v58 => .setv (.i (.o (.i .h))) v58 <| .getv
  (.i (.o .h)) fun v59 => .op (.bin .geq .no v59 (.int .i64 (.ofNat 4))) fun v60 => .seq (.cond v60 (.op (.bin .rem .no v58 (.int .u32 (.ofNat 10000))) fun v61 => .op (.bin .quo
  .no v58 (.int .u32 (.ofNat 10000))) fun v62 => .setv (.i (.o (.i .h))) v62 <| .op (.bin .quo .no v61 (.int .u32 (.ofNat 100))) fun v63 => .op (.bin .mul .no v63 (.int .u32
  (.ofNat 2))) fun v64 => .op (.bin .rem .no v61 (.int .u32 (.ofNat 100))) fun v65 => .op (.bin .mul .no v65 (.int .u32 (.ofNat 2))) fun v66 => .op (.bin .sub .no v59 (.int .i64
  (.ofNat 1))) fun v67 => .op (.bin .sub .no v59 (.int .i64 (.ofNat 2))) fun v68 => .op (.bin .add .no v66 (.int .u32 (.ofNat 1))) fun v69 => .op (.ixstr (.str 200
  [48,48,48,49,48,50,48,51,48,52,48,53,48,54,48,55,48,56,48,57,49,48,49,49,49,50,49,51,49,52,49,53,49,54,49,55,49,56,49,57,50,48,50,49,50,50,50,51,50,52,50,53,50,54,50,55,50,56,50,57,51,48,51,49,51,50,51,51,51,52,51,53,51,54,51,55,51,56,51,57,52,48,52,49,52,50,52,51,52,52,52,53,52,54,52,55,52,56,52,57,53,48,53,49,53,50,53,51,53,52,53,53,53,54,53,55,53,56,53,57,54,48,54,49,54,50,54,51,54,52,54,53,54,54,54,55,54,56,54,57,55,48,55,49,55,50,55,51,55,52,55,53,55,54,55,55,55,56,55,57,56,48,56,49,56,50,56,51,56,52,56,53,56,54,56,55,56,56,56,57,57,48,57,49,57,50,57,51,57,52,57,53,57,54,57,55,57,56,57,57])
  v69) fun v70 => .op (.ixstr (.str 200
  [48,48,48,49,48,50,48,51,48,52,48,53,48,54,48,55,48,56,48,57,49,48,49,49,49,50,49,51,49,52,49,53,49,54,49,55,49,56,49,57,50,48,50,49,50,50,50,51,50,52,50,53,50,54,50,55,50,56,50,57,51,48,51,49,51,50,51,51,51,52,51,53,51,54,51,55,51,56,51,57,52,48,52,49,52,50,52,51,52,52,52,53,52,54,52,55,52,56,52,57,53,48,53,49,53,50,53,51,53,52,53,53,53,54,53,55,53,56,53,57,54,48,54,49,54,50,54,51,54,52,54,53,54,54,54,55,54,56,54,57,55,48,55,49,55,50,55,51,55,52,55,53,55,54,55,55,55,56,55,57,56,48,56,49,56,50,56,51,56,52,56,53,56,54,56,55,56,56,56,57,57,48,57,49,57,50,57,51,57,52,57,53,57,54,57,55,57,56,57,57])
  v66) fun v71 => .op (.islc 1 v1 v67) fun v72 => .op (.store 1 v72 v70) fun _ => .op (.islc 1 v1 v68) fun v74 => .op (.store 1 v74 v71) fun _ => .op (.bin .sub .no v59 (.int .i64
  (.ofNat 3))) fun v76 => .op (.bin .sub .no v59 (.int .i64 (.ofNat 4))) fun v77 => .op (.bin .add .no v64 (.int .u32 (.ofNat 1))) fun v78 => .op (.ixstr (.str 200
  [48,48,48,49,48,50,48,51,48,52,48,53,48,54,48,55,48,56,48,57,49,48,49,49,49,50,49,51,49,52,49,53,49,54,49,55,49,56,49,57,50,48,50,49,50,50,50,51,50,52,50,53,50,54,50,55,50,56,50,57,51,48,51,49,51,50,51,51,51,52,51,53,51,54,51,55,51,56,51,57,52,48,52,49,52,50,52,51,52,52,52,53,52,54,52,55,52,56,52,57,53,48,53,49,53,50,53,51,53,52,53,53,53,54,53,55,53,56,53,57,54,48,54,49,54,50,54,51,54,52,54,53,54,54,54,55,54,56,54,57,55,48,55,49,55,50,55,51,55,52,55,53,55,54,55,55,55,56,55,57,56,48,56,49,56,50,56,51,56,52,56,53,56,54,56,55,56,56,56,57,57,48,57,49,57,50,57,51,57,52,57,53,57,54,57,55,57,56,57,57])
  v78) fun v79 => .op (.ixstr (.str 200
  [48,48,48,49,48,50,48,51,48,52,48,53,48,54,48,55,48,56,48,57,49,48,49,49,49,50,49,51,49,52,49,53,49,54,49,55,49,56,49,57,50,48,50,49,50,50,50,51,50,52,50,53,50,54,50,55,50,56,50,57,51,48,51,49,51,50,51,51,51,52,51,53,51,54,51,55,51,56,51,57,52,48,52,49,52,50,52,51,52,52,52,53,52,54,52,55,52,56,52,57,53,48,53,49,53,50,53,51,53,52,53,53,53,54,53,55,53,56,53,57,54,48,54,49,54,50,54,51,54,52,54,53,54,54,54,55,54,56,54,57,55,48,55,49,55,50,55,51,55,52,55,53,55,54,55,55,55,56,55,57,56,48,56,49,56,50,56,51,56,52,56,53,56,54,56,55,56,56,56,57,57,48,57,49,57,50,57,51,57,52,57,53,57,54,57,55,57,56,57,57])
  v64) fun v80 => .op (.islc 1 v1 v76) fun v81 => .op (.store 1 v81 v79) fun _ => .op (.islc 1 v1 v77) fun v83 => .op (.store 1 v83 v80) fun _ => .op (.bin .sub .no v59 (.int .i64
  (.ofNat 4))) fun v85 => .setv (.i (.o .h)) v85 <| .fall) (.fall)) <| .getv (.i (.o .h)) fun v86 => .op (.bin .geq .no v86 (.int .i64 (.ofNat 2))) fun v87 => .seq (.cond v87
  (.getv (.i (.o (.i .h))) fun v88 => .op (.bin .rem .no v88 (.int .u32 (.ofNat 100))) fun v89 => .op (.bin .mul .no v89 (.int .u32 (.ofNat 2))) fun v90 => .op (.bin .quo .no v88
  (.int .u32 (.ofNat 100))) fun v91 => .setv (.i (.o (.i .h))) v91 <| .op (.bin .sub .no v86 (.int .i64 (.ofNat 1))) fun v92 => .op (.bin .sub .no v86 (.int .i64 (.ofNat 2))) fun
  v93 => .op (.bin .add .no v90 (.int .u32 (.ofNat 1))) fun v94 => .op (.ixstr (.str 200
  [48,48,48,49,48,50,48,51,48,52,48,53,48,54,48,55,48,56,48,57,49,48,49,49,49,50,49,51,49,52,49,53,49,54,49,55,49,56,49,57,50,48,50,49,50,50,50,51,50,52,50,53,50,54,50,55,50,56,50,57,51,48,51,49,51,50,51,51,51,52,51,53,51,54,51,55,51,56,51,57,52,48,52,49,52,50,52,51,52,52,52,53,52,54,52,55,52,56,52,57,53,48,53,49,53,50,53,51,53,52,53,53,53,54,53,55,53,56,53,57,54,48,54,49,54,50,54,51,54,52,54,53,54,54,54,55,54,56,54,57,55,48,55,49,55,50,55,51,55,52,55,53,55,54,55,55,55,56,55,57,56,48,56,49,56,50,56,51,56,52,56,53,56,54,56,55,56,56,56,57,57,48,57,49,57,50,57,51,57,52,57,53,57,54,57,55,57,56,57,57])
  v94) fun v95 => .op (.ixstr (.str 200
  [48,48,48,49,48,50,48,51,48,52,48,53,48,54,48,55,48,56,48,57,49,48,49,49,49,50,49,51,49,52,49,53,49,54,49,55,49,56,49,57,50,48,50,49,50,50,50,51,50,52,50,53,50,54,50,55,50,56,50,57,51,48,51,49,51,50,51,51,51,52,51,53,51,54,51,55,51,56,51,57,52,48,52,49,52,50,52,51,52,52,52,53,52,54,52,55,52,56,52,57,53,48,53,49,53,50,53,51,53,52,53,53,53,54,53,55,53,56,53,57,54,48,54,49,54,50,54,51,54,52,54,53,54,54,54,55,54,56,54,57,55,48,55,49,55,50,55,51,55,52,55,53,55,54,55,55,55,56,55,57,56,48,56,49,56,50,56,51,56,52,56,53,56,54,56,55,56,56,56,57,57,48,57,49,57,50,57,51,57,52,57,53,57,54,57,55,57,56,57,57])
  v90) fun v96 => .op (.islc 1 v1 v92) fun v97 => .op (.store 1 v97 v95) fun _ => .op (.islc 1 v1 v93) fun v99 => .op (.store 1 v99 v96) fun _ => .op (.bin .sub .no v86 (.int .i64
  (.ofNat 2))) fun v101 => .setv (.i (.o .h)) v101 <| .fall) (.fall)) <| .getv (.i (.o .h)) fun v102 => .op (.bin .gtr .no v102 (.int .i64 (.ofNat 0))) fun v103 => .seq (.cond v103
  (.getv (.i (.o (.i .h))) fun v104 => .op (.bin .add .no (.int .u32 (.ofNat 48)) v104) fun v105 => .op (.conv .u8 v105) fun v106 => .op (.islc 1 v1 (.int .i64 (.ofNat 0))) fun
  v107 => .op (.store 1 v107 v106) fun _ => .fall) (.fall)) <| .fall) []
theorem F373_ok : toFn Tryz.prog 373 [1,4,12] = some F373 := by kernel_rfl
def F374 : FnE := .body (.arg 0 fun v1 => .arg 1 fun v2 => .setv (.o .h) v2 <| .arg 2 fun v3 => .arg 3 fun v4 => .arg 4 fun v5 => .setv (.i (.i (.o .h))) .nils <| .setv (.o (.o (.i .h))) (.str 0 []) <| .op
  (.bin .lss .no v3 (.int .i64 (.ofNat 2))) fun v6 => .gop v6 false (.mv v3) fun v7 => .gop v6 false (.bin .eql .no v7 (.int .i64 (.ofNat 10))) fun v8 => .op (.pick v6 (.bool true)
  v8) fun v9 => .gop v9 false (.mv v3) fun v10 => .gop v9 false (.bin .gtr .no v10 (.int .i64 (.ofNat 36))) fun v11 => .op (.pick v9 (.bool true) v11) fun v12 => .seq (.cond v12
  (.bad) (.fall)) <| .op (.alloc (rep 65 [(.int .u8 (.ofNat 0))]) 495) fun v13 => .setv (.o (.i (.i .h))) (.int .i64 (.ofNat 65)) <| .seq (.cond v4 (.op (.un .neg v2) fun v14 =>
  .setv (.o .h) v14 <| .fall) (.fall)) <| .callf (.o (.i (.o (.i (.o (.o (.o (.i .h)))))))) [v3] fun v15 => .seq (.cond v15 (.op (.conv .u64 v3) fun v16 => .callf (.i (.i (.o (.i
  (.o (.o (.o (.i .h)))))))) [v16] fun v17 => .op (.conv .u64 v17) fun v18 => .op (.conv .u64 v3) fun v19 => .op (.conv .u64 v3) fun v20 => .op (.bin .sub .no v20 (.int .u64
  (.ofNat 1))) fun v21 => .seq (.block 0 (.seq (.loop (.getv (.o .h) fun v22 => .op (.bin .geq .no v22 v19) fun v23 => .seq (.cond v23 (.fall) ((.exit 0))) <| .seq (.block 1 (.getv
  (.o (.i (.i .h))) fun v24 => .op (.bin .sub .no v24 (.int .i64 (.ofNat 1))) fun v25 => .setv (.o (.i (.i .h))) v25 <| .op (.bin .and .no v22 v21) fun v26 => .op (.ixstr (.str 36
  [48,49,50,51,52,53,54,55,56,57,97,98,99,100,101,102,103,104,105,106,107,108,109,110,111,112,113,114,115,116,117,118,119,120,121,122]) v26) fun v27 => .op (.iarr 65 1 v13 v25) fun
  v28 => .op (.store 1 v28 v27) fun _ => .op (.bin .shr .no v22 v18) fun v30 => .setv (.o .h) v30 <| .fall)) <| .fall)) <| .fall)) <| .getv (.o (.i (.i .h))) fun v31 => .op (.bin
  .sub .no v31 (.int .i64 (.ofNat 1))) fun v32 => .setv (.o (.i (.i .h))) v32 <| .getv (.o .h) fun v33 => .op (.ixstr (.str 36
  [48,49,50,51,52,53,54,55,56,57,97,98,99,100,101,102,103,104,105,106,107,108,109,110,111,112,113,114,115,116,117,118,119,120,121,122]) v33) fun v34 => .op (.iarr 65 1 v13 v32) fun
  v35 => .op (.store 1 v35 v34) fun _ => .fall) (.op (.conv .u64 v3) fun v37 => .seq (.block 2 (.seq (.loop (.getv (.o .h) fun v38 => .op (.bin .geq .no v38 v37) fun v39 => .seq
  (.cond v39 (.fall) ((.exit 2))) <| .seq (.block 3 (.getv (.o (.i (.i .h))) fun v40 => .op (.bin .sub .no v40 (.int .i64 (.ofNat 1))) fun v41 => .setv (.o (.i (.i .h))) v41 <| .op
  (.bin .quo .no v38 v37) fun v42 => .op (.bin .mul .no v42 v37) fun v43 => .op (.bin .sub .no v38 v43) fun v44 => .op (.ixstr (.str 36
  [48,49,50,51,52,53,54,55,56,57,97,98,99,100,101,102,103,104,105,106,107,108,109,110,111,112,113,114,115,116,117,118,119,120,121,122]) v44) fun v45 => .op (.iarr 65 1 v13 v41) fun
  v46 => .op (.store 1 v46 v45) fun _ => .setv (.o .h) v42 <| .fall)) <| .fall)) <| .fall)) <| .getv (.o (.i (.i .h))) fun v48 => .op (.bin .sub .no v48 (.int .i64 (.ofNat 1))) fun
  v49 => .setv (.o (.i (.i .h))) v49 <| .getv (.o .h) fun v50 => .op (.ixstr (.str 36
  [48,49,50,51,52,53,54,55,56,57,97,98,99,100,101,102,103,104,105,106,107,108,109,110,111,112,113,114,115,116,117,118,119,120,121,122]) v50) fun v51 => .op (.iarr 65 1 v13 v49) fun
  v52 => .op (.store 1 v52 v51) fun _ => .fall)) <| .seq (.cond v4 (.getv (.o (.i (.i .h))) fun v54 => .op (.bin .sub .no v54 (.int .i64 (.ofNat 1))) fun v55 => .setv (.o (.i (.i
  .h))) v55 <| .op (.iarr 65 1 v13 v55) fun v56 => .op (.store 1 v56 (.int .u8 (.ofNat 45))) fun _ => .fall) (.fall)) <| .seq (.cond v5 (.getv (.o (.i (.i .h))) fun v58 => .op
  (.sarr 65 1 v13 (some v58) none none) fun v59 => .op (.app 5 1 1 v1 v59) fun v60 => .setv (.i (.i (.o .h))) v60 <| .ret) (.fall)) <| .getv (.o (.i (.i .h))) fun v61 => .op (.sarr
  65 1 v13 (some v61) none none) fun v62 => .op (.b2s v62) fun v63 => .setv (.o (.o (.i .h))) v63 <| .ret) [.tmp (.i (.i (.o .h))),.tmp (.o (.o (.i .h)))]
theorem F374_ok : toFn Tryz.prog 374 [1,10,11,13] = some F374 := by kernel_rfl
def F375 : FnE := .body (.arg 0 fun v1 => .arg 1 fun v2 => .setv (.i (.o .h)) (.int .i64 (.ofNat 0)) <| .seq (.block 0 (.op (.bin .geq .no v2 (.int .u8 (.ofNat 65))) fun v3 => .gop v3 true (.mv v2) fun v4
  => .gop v3 true (.bin .leq .no v4 (.int .u8 (.ofNat 90))) fun v5 => .op (.pick v3 v5 (.bool false)) fun v6 => .seq (.cond v6 (.op (.bin .sub .no v2 (.int .u8 (.ofNat 65))) fun v7
  => .op (.conv .i64 v7) fun v8 => .setv (.i (.o .h)) v8 <| .ret) (.op (.bin .geq .no v2 (.int .u8 (.ofNat 97))) fun v9 => .gop v9 true (.mv v2) fun v10 => .gop v9 true (.bin .leq
  .no v10 (.int .u8 (.ofNat 122))) fun v11 => .op (.pick v9 v11 (.bool false)) fun v12 => .seq (.cond v12 (.op (.bin .sub .no v2 (.int .u8 (.ofNat 97))) fun v13 => .op (.conv .i64
  v13) fun v14 => .op (.bin .add .no v14 (.int .i64 (.ofNat 26))) fun v15 => .setv (.i (.o .h)) v15 <| .ret) (.op (.bin .geq .no v2 (.int .u8 (.ofNat 48))) fun v16 => .gop v16 true
  (.mv v2) fun v17 => .gop v16 true (.bin .leq .no v17 (.int .u8 (.ofNat 57))) fun v18 => .op (.pick v16 v18 (.bool false)) fun v19 => .seq (.cond v19 (.op (.bin .sub .no v2 (.int
  .u8 (.ofNat 48))) fun v20 => .op (.conv .i64 v20) fun v21 => .op (.bin .add .no v21 (.int .i64 (.ofNat 52))) fun v22 => .setv (.i (.o .h)) v22 <| .ret) (.op (.ixstr v1 (.int .i64
  (.ofNat 62))) fun v23 => .op (.bin .eql .no v2 v23) fun v24 => .seq (.cond v24 (.setv (.i (.o .h)) (.int .i64 (.ofNat 62)) <| .ret) (.op (.ixstr v1 (.int .i64 (.ofNat 63))) fun
  v25 => .op (.bin .eql .no v2 v25) fun v26 => .seq (.cond v26 (.setv (.i (.o .h)) (.int .i64 (.ofNat 63)) <| .ret) (.fall)) <| .fall)) <| .fall)) <| .fall)) <| .fall)) <| .fall))
  <| .setv (.i (.o .h)) (.int .i64 (.negSucc 0)) <| .ret) [.tmp (.i (.o .h))]
theorem F375_ok : toFn Tryz.prog 375 [4] = some F375 := by kernel_rfl
def F376 : FnE := .body (.arg 0 fun v1 => .arg 1 fun v2 => .setv (.i (.o .h)) (.int .i64 (.ofNat 0)) <| .op (.len false v1) fun v3 => .setv (.i (.o (.o .h))) (.int .i64 (.ofNat 0)) <| .seq (.block 0 (.seq
  (.loop (.getv (.i (.o (.o .h))) fun v4 => .op (.bin .lss .no v4 v3) fun v5 => .seq (.cond v5 (.fall) ((.exit 0))) <| .seq (.block 1 (.op (.islc 1 v1 v4) fun v6 => .op (.load
  false 1 v6) fun v7 => .op (.bin .eql .no v2 v7) fun v8 => .seq (.cond v8 (.setv (.i (.o .h)) v4 <| .ret) (.fall)) <| .fall)) <| .op (.bin .add .no v4 (.int .i64 (.ofNat 1))) fun
  v9 => .setv (.i (.o (.o .h))) v9 <| .fall)) <| .fall)) <| .setv (.i (.o .h)) (.int .i64 (.negSucc 0)) <| .ret) [.tmp (.i (.o .h))]
theorem F376_ok : toFn Tryz.prog 376 [4,8] = some F376 := by kernel_rfl
def F377 : FnE := .body (.arg 0 fun v1 => .arg 1 fun v2 => .setv (.o .h) v2 <| .arg 2 fun v3 => .setv (.i .h) v3 <| .arg 3 fun v4 => .setv (.o (.o .h)) v4 <| .setv (.i (.o (.o .h))) (.bool true) <| .setv
  (.o (.i (.o .h))) (.bool true) <| .seq (.block 0 (.seq (.loop (.seq (.block 1 (.getv (.i .h) fun v5 => .getv (.o .h) fun v6 => .op (.bin .sub .no v5 v6) fun v7 => .op (.bin .leq
  .no v7 (.int .i64 (.ofNat 12))) fun v8 => .seq (.cond v8 (.callf (.o (.o (.i (.i (.o (.o (.o (.i .h)))))))) [v1,v6,v5] fun _ => .ret) (.fall)) <| .getv (.o (.o .h)) fun v10 =>
  .op (.bin .eql .no v10 (.int .i64 (.ofNat 0))) fun v11 => .seq (.cond v11 (.callf (.i (.o (.i (.i (.o (.o (.o (.i .h)))))))) [v1,v6,v5] fun _ => .ret) (.fall)) <| .getv (.i (.o
  (.o .h))) fun v13 => .op (.un .not v13) fun v14 => .seq (.cond v14 (.callf (.o (.i (.i (.i (.o (.o (.o (.i .h)))))))) [v1,v6,v5] fun _ => .op (.bin .sub .no v10 (.int .i64
  (.ofNat 1))) fun v16 => .setv (.o (.o .h)) v16 <| .fall) (.fall)) <| .callf (.i (.i (.i (.i (.o (.o (.o (.i .h)))))))) [v1,v6,v5] fun v17 => .op (.ext v17 0) fun v18 => .op (.ext
  v17 1) fun v19 => .setv (.o (.o (.i .h))) v18 <| .setv (.i (.o (.i .h))) v19 <| .op (.bin .eql .no v19 (.int .i64 (.ofNat 2))) fun v20 => .seq (.cond v20 (.callf (.o (.o (.o (.o
  (.i (.o (.o (.i .h)))))))) [v1,v6,v5] fun _ => .op (.bin .sub .no v5 (.int .i64 (.ofNat 1))) fun v22 => .op (.bin .sub .no v18 v6) fun v23 => .op (.bin .sub .no v22 v23) fun v24
  => .setv (.o (.o (.i .h))) v24 <| .setv (.i (.o (.i .h))) (.int .i64 (.ofNat 1)) <| .fall) (.fall)) <| .getv (.o (.i (.o .h))) fun v25 => .gop v13 true (.mv v25) fun v26 => .op
  (.pick v13 v26 (.bool false)) fun v27 => .getv (.i (.o (.i .h))) fun v28 => .gop v27 true (.mv v28) fun v29 => .gop v27 true (.bin .eql .no v29 (.int .i64 (.ofNat 1))) fun v30 =>
  .op (.pick v27 v30 (.bool false)) fun v31 => .seq (.cond v31 (.callf (.i (.o (.o (.o (.i (.o (.o (.i .h)))))))) [v1,v6,v5] fun v32 => .seq (.cond v32 (.ret) (.fall)) <| .fall)
  (.fall)) <| .op (.bin .gtr .no v6 (.int .i64 (.ofNat 0))) fun v33 => .gop v33 true (.mv v1) fun v34 => .gop v33 true (.mv v6) fun v35 => .gop v33 true (.bin .sub .no v35 (.int
  .i64 (.ofNat 1))) fun v36 => .gop v33 true (.islc 1 v34 v36) fun v37 => .gop v33 true (.load false 1 v37) fun v38 => .gop v33 true (.mv v1) fun v39 => .getv (.o (.o (.i .h))) fun
  v40 => .gop v33 true (.mv v40) fun v41 => .gop v33 true (.islc 1 v39 v41) fun v42 => .gop v33 true (.load false 1 v42) fun v43 => .gcallf v33 true (.o (.i (.o (.o (.i (.o (.o (.i
  .h)))))))) [v38,v43] fun v44 => .gop v33 true (.un .not v44) fun v45 => .op (.pick v33 v45 (.bool false)) fun v46 => .seq (.cond v46 (.callf (.i (.i (.o (.o (.i (.o (.o (.i
  .h)))))))) [v1,v6,v5,v40] fun v47 => .setv (.o .h) v47 <| (.exit 1)) (.fall)) <| .getv (.o .h) fun v48 => .callf (.o (.o (.i (.o (.i (.o (.o (.i .h)))))))) [v1,v48,v5,v40] fun
  v49 => .op (.ext v49 0) fun v50 => .op (.ext v49 1) fun v51 => .setv (.o (.i (.o .h))) v51 <| .op (.bin .sub .no v50 v48) fun v52 => .op (.bin .sub .no v5 v50) fun v53 => .op
  (.bin .quo .no v7 (.int .i64 (.ofNat 8))) fun v54 => .op (.bin .lss .no v52 v53) fun v55 => .seq (.cond v55 (.op (.bin .geq .no v52 v54) fun v56 => .setv (.i (.o (.o .h))) v56 <|
  .getv (.o (.o .h)) fun v57 => .callf (.o (.i (.o (.i (.i (.i (.i (.o .h)))))))) [v1,v48,v50,v57] fun _ => .op (.bin .add .no v50 (.int .i64 (.ofNat 1))) fun v59 => .setv (.o .h)
  v59 <| .fall) (.op (.bin .geq .no v53 v54) fun v60 => .setv (.i (.o (.o .h))) v60 <| .op (.bin .add .no v50 (.int .i64 (.ofNat 1))) fun v61 => .getv (.o (.o .h)) fun v62 =>
  .callf (.o (.i (.o (.i (.i (.i (.i (.o .h)))))))) [v1,v61,v5,v62] fun _ => .setv (.i .h) v50 <| .fall)) <| .fall)) <| .fall)) <| .fall)) <| .fall) []
theorem F377_ok : toFn Tryz.prog 377 [1,2,3,8,9,11,12] = some F377 := by kernel_rfl
def F378 : FnE := .body (.arg 0 fun v1 => .setv (.i .h) (.int .i64 (.ofNat 0)) <| .seq (.cond (.bool false) (.op (.conv .u32 v1) fun v2 => .callf (.i (.o (.i (.o (.i (.o (.o (.i .h)))))))) [v2] fun v3 =>
  .setv (.i .h) v3 <| .ret) (.fall)) <| .callf (.o (.o (.o (.i (.o (.o (.o (.i .h)))))))) [v1] fun v4 => .setv (.i .h) v4 <| .ret) [.tmp (.i .h)]
theorem F378_ok : toFn Tryz.prog 378 [2] = some F378 := by kernel_rfl
def F379 : FnE := .body (.arg 0 fun v1 => .arg 1 fun v2 => .op (.box 478 v1) fun v3 => .op (.load false 1 v2) fun v4 => .callf (.o (.i (.i (.o (.o (.o (.i (.o .h)))))))) [v4] fun v5 => .seq (.block 0 (.seq
  (.rfun v5 (.block 2 (.arg 0 fun _ => .arg 1 fun v7 => .setv (.i (.o .h)) v7 <| .brnd <| .seq (.block 1 (.seq (.block 2 (.op (.sarr 6 2 (.ptr (.o (.i .h)) 0) none none none) fun
  v8 => .callf (.o (.i (.i (.o (.i (.o (.i (.o .h)))))))) [v7,v8] fun v9 => .seq (.cond v9 (.setv (.i (.o .h)) (.int .i32 (.ofNat 32)) <| .fall) (.op (.sarr 5 2 (.ptr (.i (.i .h))
  0) none none none) fun v10 => .callf (.o (.i (.i (.o (.i (.o (.i (.o .h)))))))) [v7,v10] fun v11 => .seq (.cond v11 ((.exit 1)) (.fall)) <| .fall)) <| .fall)) <| .op (.load false
  1 v3) fun v12 => .getv (.i (.o .h)) fun v13 => .callv v12 [v13] fun v14 => .op (.un .not v14) fun v15 => .seq (.cond v15 (.ret) (.fall)) <| .fall)) <| .fall))) <| .fall)) <|
  .fall) []
theorem F379_ok : toFn Tryz.prog 379 [4] = some F379 := by kernel_rfl
def F380 : FnE := .body (.arg 0 fun v1 => .setv (.i .h) (.bool false) <| .op (.bin .geq .no v1 (.int .i32 (.ofNat 0))) fun v2 => .gop v2 true (.mv v1) fun v3 => .gop v2 true (.bin .leq .no v3 (.int .i32
  (.ofNat 1114111))) fun v4 => .op (.pick v2 v4 (.bool false)) fun v5 => .gop v5 true (.mv v1) fun v6 => .gop v5 true (.bin .lss .no v6 (.int .i32 (.ofNat 55296))) fun v7 => .gop
  v5 true (.mv v7) fun v8 => .gop v8 false (.mv v1) fun v9 => .gop v8 false (.bin .gtr .no v9 (.int .i32 (.ofNat 57343))) fun v10 => .gop v5 true (.pick v8 (.bool true) v10) fun
  v11 => .op (.pick v5 v11 (.bool false)) fun v12 => .setv (.i .h) v12 <| .ret) [.tmp (.i .h)]
theorem F380_ok : toFn Tryz.prog 380 [2] = some F380 := by kernel_rfl
def F381 : FnE := .body (.arg 0 fun v1 => .setv (.i .h) .nilp <| .callf (.o (.i (.i (.o (.i (.o (.o (.i .h)))))))) [] fun v2 => .callf (.o (.o (.o (.o (.o (.o (.o (.i .h)))))))) [v2,v1] fun _ => .setv (.i
  .h) v2 <| .ret) [.tmp (.i .h)]
theorem F381_ok : toFn Tryz.prog 381 [2] = some F381 := by kernel_rfl
def F382 : FnE := .body (.arg 0 fun v1 => .setv (.i .h) .nilp <| .op (.bin .eql .ptr v1 .nilp) fun v2 => .seq (.cond v2 (.setv (.i .h) .nilp <| .ret) (.fall)) <| .op (.nilck v1) fun v3 => .op (.load true
  10 v3) fun v4 => .op (.alloc [(.int .u32 (.ofNat 0)),(.int .u32 (.ofNat 0)),(.int .u32 (.ofNat 0)),(.int .u32 (.ofNat 0)),(.int .u32 (.ofNat 0)),(.int .u32 (.ofNat 0)),(.int .u32
  (.ofNat 0)),(.int .u32 (.ofNat 0)),.nils,(.int .u64 (.ofNat 0))] 506) fun v5 => .op (.store 10 v5 v4) fun _ => .op (.nilck v1) fun v7 => .op (.faddr 8 v7) fun v8 => .op (.load
  false 1 v8) fun v9 => .callf (.o (.i (.o (.o (.i (.i .h)))))) [v9] fun v10 => .op (.faddr 8 v5) fun v11 => .op (.store 1 v11 v10) fun _ => .setv (.i .h) v5 <| .ret) [.tmp (.i .h)]
theorem F382_ok : toFn Tryz.prog 382 [2] = some F382 := by kernel_rfl
def F383 : FnE := .body (.arg 0 fun v1 => .arg 1 fun v2 => .setv (.i (.o .h)) (.int .i64 (.ofNat 0)) <| .op (.bin .eql .ptr v1 .nilp) fun v3 => .seq (.cond v3 (.setv (.i (.o .h)) (.int .i64 (.ofNat 0)) <|
  .ret) (.fall)) <| .op (.nilck v1) fun v4 => .op (.faddr 9 v4) fun v5 => .op (.load false 1 v5) fun v6 => .op (.len false v2) fun v7 => .op (.conv .u64 v7) fun v8 => .op (.bin
  .add .no v6 v8) fun v9 => .op (.nilck v1) fun v10 => .op (.faddr 9 v10) fun v11 => .op (.store 1 v11 v9) fun _ => .op (.nilck v1) fun v13 => .op (.faddr 8 v13) fun v14 => .op
  (.load false 1 v14) fun v15 => .op (.app 5 1 1 v15 v2) fun v16 => .op (.nilck v1) fun v17 => .op (.faddr 8 v17) fun v18 => .op (.store 1 v18 v16) fun _ => .seq (.block 0 (.seq
  (.loop (.op (.nilck v1) fun v20 => .op (.faddr 8 v20) fun v21 => .op (.load false 1 v21) fun v22 => .op (.len false v22) fun v23 => .op (.bin .geq .no v23 (.int .i64 (.ofNat
  64))) fun v24 => .seq (.cond v24 (.fall) ((.exit 0))) <| .seq (.block 1 (.op (.nilck v1) fun v25 => .op (.faddr 0 v25) fun v26 => .op (.nilck v1) fun v27 => .op (.faddr 8 v27)
  fun v28 => .op (.load false 1 v28) fun v29 => .op (.sslc 1 v29 none (some (.int .i64 (.ofNat 64))) none) fun v30 => .callf (.i (.o (.o (.i (.o (.i (.o (.o .h)))))))) [v26,v30]
  fun _ => .op (.nilck v1) fun v32 => .op (.faddr 8 v32) fun v33 => .op (.load false 1 v33) fun v34 => .op (.sslc 1 v34 (some (.int .i64 (.ofNat 64))) none none) fun v35 => .op
  (.nilck v1) fun v36 => .op (.faddr 8 v36) fun v37 => .op (.store 1 v37 v35) fun _ => .fall)) <| .fall)) <| .fall)) <| .op (.nilck v1) fun v39 => .op (.faddr 8 v39) fun v40 => .op
  (.load false 1 v40) fun v41 => .callf (.o (.i (.o (.o (.i (.i .h)))))) [v41] fun v42 => .op (.nilck v1) fun v43 => .op (.faddr 8 v43) fun v44 => .op (.store 1 v44 v42) fun _ =>
  .op (.len false v2) fun v46 => .setv (.i (.o .h)) v46 <| .ret) [.tmp (.i (.o .h))]
theorem F383_ok : toFn Tryz.prog 383 [4] = some F383 := by kernel_rfl
def F384 : FnE := .body (.arg 0 fun v1 => .setv (.i .h) .nils <| .op (.bin .eql .ptr v1 .nilp) fun v2 => .seq (.cond v2 (.setv (.i .h) .nils <| .ret) (.fall)) <| .op (.nilck v1) fun v3 => .op (.faddr 0 v3)
  fun v4 => .op (.load true 8 v4) fun v5 => .op (.alloc [(.int .u32 (.ofNat 0)),(.int .u32 (.ofNat 0)),(.int .u32 (.ofNat 0)),(.int .u32 (.ofNat 0)),(.int .u32 (.ofNat 0)),(.int
  .u32 (.ofNat 0)),(.int .u32 (.ofNat 0)),(.int .u32 (.ofNat 0))] 416) fun v6 => .op (.store 8 v6 v5) fun _ => .op (.nilck v1) fun v8 => .op (.faddr 8 v8) fun v9 => .op (.load
  false 1 v9) fun v10 => .op (.nilck v1) fun v11 => .op (.faddr 9 v11) fun v12 => .op (.load false 1 v12) fun v13 => .callf (.o (.i (.o (.o (.i (.i .h)))))) [v10] fun v14 => .chk
  false 1 v12 v13 <| .callf (.o (.i (.o (.o (.o (.i (.i (.o .h)))))))) [v13] fun v15 => .op (.app 5 1 1 v14 v15) fun v16 => .setv (.i (.o .h)) v16 <| .seq (.block 0 (.seq (.loop
  (.getv (.i (.o .h)) fun v17 => .op (.len false v17) fun v18 => .op (.bin .gtr .no v18 (.int .i64 (.ofNat 0))) fun v19 => .seq (.cond v19 (.fall) ((.exit 0))) <| .seq (.block 1
  (.op (.sslc 1 v17 none (some (.int .i64 (.ofNat 64))) none) fun v20 => .callf (.i (.o (.o (.i (.o (.i (.o (.o .h)))))))) [v6,v20] fun _ => .fall)) <| .op (.sslc 1 v17 (some (.int
  .i64 (.ofNat 64))) none none) fun v22 => .setv (.i (.o .h)) v22 <| .fall)) <| .fall)) <| .callf (.o (.i (.o (.i (.o (.i (.o (.o .h)))))))) [v6] fun v23 => .setv (.i .h) v23 <|
  .ret) [.tmp (.i .h)]
theorem F384_ok : toFn Tryz.prog 384 [2,4] = some F384 := by kernel_rfl
def F385 : FnE := .body (.arg 0 fun v1 => .setv (.i .h) .nils <| .setv (.o (.o .h)) .nils <| .setv (.o (.i .h)) (.int .i64 (.ofNat 0)) <| .seq (.block 0 (.seq (.loop (.getv (.o (.i .h)) fun v2 => .op (.bin
  .lss .no v2 (.int .i64 (.ofNat 8))) fun v3 => .seq (.cond v3 (.fall) ((.exit 0))) <| .seq (.block 1 (.getv (.o (.o .h)) fun v4 => .op (.bin .sub .no (.int .i64 (.ofNat 7)) v2)
  fun v5 => .op (.bin .mul .no (.int .i64 (.ofNat 8)) v5) fun v6 => .op (.bin .shr .no v1 v6) fun v7 => .op (.conv .u8 v7) fun v8 => .op (.bslice 5 1 1 [(.int .u8 (.ofNat 0))]
  [(0,v8)]) fun v9 => .op (.app 5 1 1 v4 v9) fun v10 => .setv (.o (.o .h)) v10 <| .fall)) <| .op (.bin .add .no v2 (.int .i64 (.ofNat 1))) fun v11 => .setv (.o (.i .h)) v11 <|
  .fall)) <| .fall)) <| .getv (.o (.o .h)) fun v12 => .setv (.i .h) v12 <| .ret) [.tmp (.i .h)]
theorem F385_ok : toFn Tryz.prog 385 [2,3,5] = some F385 := by kernel_rfl
def F387 : FnE := .body (.arg 0 fun v1 => .setv (.i .h) (.int .u32 (.ofNat 0)) <| .setv (.o (.o .h)) (.int .u32 (.ofNat 0)) <| .setv (.i (.o .h)) (.int .u32 (.ofNat 0)) <| .setv (.o (.i .h)) (.int .i64
  (.ofNat 0)) <| .seq (.block 0 (.seq (.loop (.getv (.o (.i .h)) fun v2 => .op (.len true v1) fun v3 => .op (.bin .lss .no v2 v3) fun v4 => .seq (.cond v4 (.fall) ((.exit 0))) <|
  .seq (.block 1 (.getv (.i (.o .h)) fun v5 => .op (.bin .mul .no v5 (.int .u32 (.ofNat 16777619))) fun v6 => .op (.ixstr v1 v2) fun v7 => .op (.conv .u32 v7) fun v8 => .op (.bin
  .add .no v6 v8) fun v9 => .setv (.i (.o .h)) v9 <| .fall)) <| .op (.bin .add .no v2 (.int .i64 (.ofNat 1))) fun v10 => .setv (.o (.i .h)) v10 <| .fall)) <| .fall)) <| .setv (.i
  (.i .h)) (.int .u32 (.ofNat 1)) <| .setv (.o (.o (.o .h))) (.int .u32 (.ofNat 16777619)) <| .op (.len true v1) fun v11 => .setv (.i (.o (.o .h))) v11 <| .seq (.block 2 (.seq
  (.loop (.getv (.i (.o (.o .h))) fun v12 => .op (.bin .gtr .no v12 (.int .i64 (.ofNat 0))) fun v13 => .seq (.cond v13 (.fall) ((.exit 2))) <| .seq (.block 3 (.op (.bin .and .no
  v12 (.int .i64 (.ofNat 1))) fun v14 => .op (.bin .neq .no v14 (.int .i64 (.ofNat 0))) fun v15 => .seq (.cond v15 (.getv (.i (.i .h)) fun v16 => .getv (.o (.o (.o .h))) fun v17 =>
  .op (.bin .mul .no v16 v17) fun v18 => .setv (.i (.i .h)) v18 <| .fall) (.fall)) <| .getv (.o (.o (.o .h))) fun v19 => .op (.bin .mul .no v19 v19) fun v20 => .setv (.o (.o (.o
  .h))) v20 <| .fall)) <| .op (.bin .shr .no v12 (.int .u64 (.ofNat 1))) fun v21 => .setv (.i (.o (.o .h))) v21 <| .fall)) <| .fall)) <| .getv (.i (.o .h)) fun v22 => .getv (.i (.i
  .h)) fun v23 => .setv (.i .h) v22 <| .setv (.o (.o .h)) v23 <| .ret) [.tmp (.i .h),.tmp (.o (.o .h))]
theorem F387_ok : toFn Tryz.prog 387 [2,3,4,5,6,7,8] = some F387 := by kernel_rfl
def F388 : FnE := .body (.arg 0 fun v1 => .arg 1 fun v2 => .setv (.i (.o .h)) (.int .u32 (.ofNat 0)) <| .setv (.o (.i .h)) (.int .u32 (.ofNat 0)) <| .op (.conv .u64 v1) fun v3 => .op (.conv .u64 v2) fun v4
  => .op (.bin .mul .no v3 v4) fun v5 => .op (.bin .shr .no v5 (.int .u64 (.ofNat 32))) fun v6 => .op (.conv .u32 v6) fun v7 => .op (.conv .u32 v5) fun v8 => .setv (.i (.o .h)) v7
  <| .setv (.o (.i .h)) v8 <| .ret) [.tmp (.i (.o .h)),.tmp (.o (.i .h))]
theorem F388_ok : toFn Tryz.prog 388 [4,5] = some F388 := by kernel_rfl
def F389 : FnE := .body (.arg 0 fun v1 => .arg 1 fun v2 => .setv (.i (.o .h)) (.int .u64 (.ofNat 0)) <| .setv (.o (.i .h)) (.int .u64 (.ofNat 0)) <| .op (.bin .and .no v1 (.int .u64 (.ofNat 4294967295)))
  fun v3 => .op (.bin .shr .no v1 (.int .u64 (.ofNat 32))) fun v4 => .op (.bin .and .no v2 (.int .u64 (.ofNat 4294967295))) fun v5 => .op (.bin .shr .no v2 (.int .u64 (.ofNat 32)))
  fun v6 => .op (.bin .mul .no v3 v5) fun v7 => .op (.bin .mul .no v4 v5) fun v8 => .op (.bin .shr .no v7 (.int .u64 (.ofNat 32))) fun v9 => .op (.bin .add .no v8 v9) fun v10 =>
  .op (.bin .and .no v10 (.int .u64 (.ofNat 4294967295))) fun v11 => .op (.bin .shr .no v10 (.int .u64 (.ofNat 32))) fun v12 => .op (.bin .mul .no v3 v6) fun v13 => .op (.bin .add
  .no v11 v13) fun v14 => .op (.bin .mul .no v4 v6) fun v15 => .op (.bin .add .no v15 v12) fun v16 => .op (.bin .shr .no v14 (.int .u64 (.ofNat 32))) fun v17 => .op (.bin .add .no
  v16 v17) fun v18 => .setv (.i (.o .h)) v18 <| .op (.bin .mul .no v1 v2) fun v19 => .setv (.o (.i .h)) v19 <| .ret) [.tmp (.i (.o .h)),.tmp (.o (.i .h))]
theorem F389_ok : toFn Tryz.prog 389 [4,5] = some F389 := by kernel_rfl
def F390 : FnE := .body (.arg 0 fun v1 => .setv (.i .h) (.int .i64 (.ofNat 0)) <| .op (.bin .mul .no v1 (.int .i64 (.ofNat 78913))) fun v2 => .op (.bin .shr .no v2 (.int .u64 (.ofNat 18))) fun v3 => .setv
  (.i .h) v3 <| .ret) [.tmp (.i .h)]
theorem F390_ok : toFn Tryz.prog 390 [2] = some F390 := by kernel_rfl
def F391 : FnE := .body (.arg 0 fun v1 => .setv .h v1 <| .setv (.i .h) (.int .i64 (.ofNat 0)) <| .op (.bin .geq .no v1 (.int .u64 (.ofNat 4294967296))) fun v2 => .seq (.cond v2 (.op (.bin .shr .no v1 (.int
  .u64 (.ofNat 32))) fun v3 => .setv .h v3 <| .setv (.i .h) (.int .i64 (.ofNat 32)) <| .fall) (.fall)) <| .getv .h fun v4 => .op (.bin .geq .no v4 (.int .u64 (.ofNat 65536))) fun
  v5 => .seq (.cond v5 (.op (.bin .shr .no v4 (.int .u64 (.ofNat 16))) fun v6 => .setv .h v6 <| .getv (.i .h) fun v7 => .op (.bin .add .no v7 (.int .i64 (.ofNat 16))) fun v8 =>
  .setv (.i .h) v8 <| .fall) (.fall)) <| .getv .h fun v9 => .op (.bin .geq .no v9 (.int .u64 (.ofNat 256))) fun v10 => .seq (.cond v10 (.op (.bin .shr .no v9 (.int .u64 (.ofNat
  8))) fun v11 => .setv .h v11 <| .getv (.i .h) fun v12 => .op (.bin .add .no v12 (.int .i64 (.ofNat 8))) fun v13 => .setv (.i .h) v13 <| .fall) (.fall)) <| .getv (.i .h) fun v14
  => .getv .h fun v15 => .op (.conv .u8 v15) fun v16 => .op (.ixstr (.str 256
  [0,1,2,2,3,3,3,3,4,4,4,4,4,4,4,4,5,5,5,5,5,5,5,5,5,5,5,5,5,5,5,5,6,6,6,6,6,6,6,6,6,6,6,6,6,6,6,6,6,6,6,6,6,6,6,6,6,6,6,6,6,6,6,6,7,7,7,7,7,7,7,7,7,7,7,7,7,7,7,7,7,7,7,7,7,7,7,7,7,7,7,7,7,7,7,7,7,7,7,7,7,7,7,7,7,7,7,7,7,7,7,7,7,7,7,7,7,7,7,7,7,7,7,7,7,7,7,7,8,8,8,8,8,8,8,8,8,8,8,8,8,8,8,8,8,8,8,8,8,8,8,8,8,8,8,8,8,8,8,8,8,8,8,8,8,8,8,8,8,8,8,8,8,8,8,8,8,8,8,8,8,8,8,8,8,8,8,8,8,8,8,8,8,8,8,8,8,8,8,8,8,8,8,8,8,8,8,8,8,8,8,8,8,8,8,8,8,8,8,8,8,8,8,8,8,8,8,8,8,8,8,8,8,8,8,8,8,8,8,8,8,8,8,8,8,8,8,8,8,8,8,8,8,8,8,8])
  v16) fun v17 => .op (.conv .i64 v17) fun v18 => .op (.bin .add .no v14 v18) fun v19 => .setv (.i .h) v19 <| .ret) [.tmp (.i .h)]
theorem F391_ok : toFn Tryz.prog 391 [0,2] = some F391 := by kernel_rfl
def F392 : FnE := .body (.arg 0 fun v1 => .setv (.i .h) (.int .i64 (.ofNat 0)) <| .seq (.cond v1 (.setv (.i .h) (.int .i64 (.ofNat 1)) <| .ret) (.fall)) <| .setv (.i .h) (.int .i64 (.ofNat 0)) <| .ret) [.tmp (.i .h)]
theorem F392_ok : toFn Tryz.prog 392 [2] = some F392 := by kernel_rfl
def F393 : FnE := .body (.arg 0 fun v1 => .setv (.i .h) (.bool false) <| .op (.bin .sub .no v1 (.int .i64 (.ofNat 1))) fun v2 => .op (.bin .and .no v1 v2) fun v3 => .op (.bin .eql .no v3 (.int .i64 (.ofNat
  0))) fun v4 => .setv (.i .h) v4 <| .ret) [.tmp (.i .h)]
theorem F393_ok : toFn Tryz.prog 393 [2] = some F393 := by kernel_rfl
def F394 : FnE := .body (.arg 0 fun v1 => .setv (.i .h) (.int .i64 (.ofNat 0)) <| .seq (.cond (.bool false) (.op (.conv .u32 v1) fun v2 => .callf (.i (.i (.i (.o (.i (.o (.o (.i .h)))))))) [v2] fun v3 =>
  .setv (.i .h) v3 <| .ret) (.fall)) <| .callf (.o (.o (.o (.i (.i (.o (.o (.i .h)))))))) [v1] fun v4 => .setv (.i .h) v4 <| .ret) [.tmp (.i .h)]
theorem F394_ok : toFn Tryz.prog 394 [2] = some F394 := by kernel_rfl
def F395 : FnE := .body (.arg 0 fun v1 => .arg 1 fun v2 => .arg 2 fun v3 => .op (.bin .add .no v2 (.int .i64 (.ofNat 1))) fun v4 => .setv (.i (.i .h)) v4 <| .seq (.block 0 (.seq (.loop (.getv (.i (.i .h))
  fun v5 => .op (.bin .lss .no v5 v3) fun v6 => .seq (.cond v6 (.fall) ((.exit 0))) <| .seq (.block 1 (.setv (.o (.o (.o .h))) v5 <| .seq (.block 2 (.seq (.loop (.getv (.o (.o (.o
  .h))) fun v7 => .op (.bin .gtr .no v7 v2) fun v8 => .gop v8 true (.mv v1) fun v9 => .gop v8 true (.mv v7) fun v10 => .gop v8 true (.islc 1 v9 v10) fun v11 => .gop v8 true (.load
  false 1 v11) fun v12 => .gop v8 true (.mv v1) fun v13 => .gop v8 true (.mv v7) fun v14 => .gop v8 true (.bin .sub .no v14 (.int .i64 (.ofNat 1))) fun v15 => .gop v8 true (.islc 1
  v13 v15) fun v16 => .gop v8 true (.load false 1 v16) fun v17 => .gcallf v8 true (.o (.i (.o (.o (.i (.o (.o (.i .h)))))))) [v12,v17] fun v18 => .op (.pick v8 v18 (.bool false))
  fun v19 => .seq (.cond v19 (.fall) ((.exit 2))) <| .seq (.block 3 (.op (.bin .sub .no v7 (.int .i64 (.ofNat 1))) fun v20 => .op (.bin .sub .no v7 (.int .i64 (.ofNat 1))) fun v21
  => .op (.islc 1 v1 v21) fun v22 => .op (.load false 1 v22) fun v23 => .op (.islc 1 v1 v7) fun v24 => .op (.load false 1 v24) fun v25 => .op (.islc 1 v1 v7) fun v26 => .op (.store
  1 v26 v23) fun _ => .op (.islc 1 v1 v20) fun v28 => .op (.store 1 v28 v25) fun _ => .fall)) <| .op (.bin .sub .no v7 (.int .i64 (.ofNat 1))) fun v30 => .setv (.o (.o (.o .h)))
  v30 <| .fall)) <| .fall)) <| .fall)) <| .op (.bin .add .no v5 (.int .i64 (.ofNat 1))) fun v31 => .setv (.i (.i .h)) v31 <| .fall)) <| .fall)) <| .fall) []
theorem F395_ok : toFn Tryz.prog 395 [6,7] = some F395 := by kernel_rfl
def F396 : FnE := .body (.arg 0 fun v1 => .arg 1 fun v2 => .arg 2 fun v3 => .op (.bin .sub .no v3 v2) fun v4 => .op (.bin .sub .no v4 (.int .i64 (.ofNat 1))) fun v5 => .op (.bin .quo .no v5 (.int .i64
  (.ofNat 2))) fun v6 => .setv (.o (.i (.o .h))) v6 <| .seq (.block 0 (.seq (.loop (.getv (.o (.i (.o .h))) fun v7 => .op (.bin .geq .no v7 (.int .i64 (.ofNat 0))) fun v8 => .seq
  (.cond v8 (.fall) ((.exit 0))) <| .seq (.block 1 (.callf (.i (.o (.o (.i (.i (.o (.o (.i .h)))))))) [v1,v7,v4,v2] fun _ => .fall)) <| .op (.bin .sub .no v7 (.int .i64 (.ofNat
  1))) fun v10 => .setv (.o (.i (.o .h))) v10 <| .fall)) <| .fall)) <| .op (.bin .sub .no v4 (.int .i64 (.ofNat 1))) fun v11 => .setv (.i (.i (.o .h))) v11 <| .seq (.block 2 (.seq
  (.loop (.getv (.i (.i (.o .h))) fun v12 => .op (.bin .geq .no v12 (.int .i64 (.ofNat 0))) fun v13 => .seq (.cond v13 (.fall) ((.exit 2))) <| .seq (.block 3 (.op (.bin .add .no v2
  v12) fun v14 => .op (.bin .add .no v2 v12) fun v15 => .op (.islc 1 v1 v15) fun v16 => .op (.load false 1 v16) fun v17 => .op (.islc 1 v1 v2) fun v18 => .op (.load false 1 v18)
  fun v19 => .op (.islc 1 v1 v2) fun v20 => .op (.store 1 v20 v17) fun _ => .op (.islc 1 v1 v14) fun v22 => .op (.store 1 v22 v19) fun _ => .callf (.i (.o (.o (.i (.i (.o (.o (.i
  .h)))))))) [v1,(.int .i64 (.ofNat 0)),v12,v2] fun _ => .fall)) <| .op (.bin .sub .no v12 (.int .i64 (.ofNat 1))) fun v25 => .setv (.i (.i (.o .h))) v25 <| .fall)) <| .fall)) <|
  .fall) []
theorem F396_ok : toFn Tryz.prog 396 [9,10] = some F396 := by kernel_rfl
def F397 : FnE := .body (.arg 0 fun v1 => .arg 1 fun v2 => .arg 2 fun v3 => .op (.bin .sub .no v3 v2) fun v4 => .op (.bin .geq .no v4 (.int .i64 (.ofNat 8))) fun v5 => .seq (.cond v5 (.op (.conv .u64 v4)
  fun v6 => .op (.alloc [(.int .u64 (.ofNat 0))] 507) fun v7 => .op (.store 1 v7 v6) fun _ => .callf (.o (.i (.o (.i (.i (.o (.o (.i .h)))))))) [v4] fun v9 => .op (.bin .quo .no v4
  (.int .i64 (.ofNat 4))) fun v10 => .op (.bin .mul .no v10 (.int .i64 (.ofNat 2))) fun v11 => .op (.bin .add .no v2 v11) fun v12 => .op (.bin .sub .no v12 (.int .i64 (.ofNat 1)))
  fun v13 => .setv (.o (.i (.o .h))) v13 <| .seq (.block 0 (.seq (.loop (.getv (.o (.i (.o .h))) fun v14 => .op (.bin .quo .no v4 (.int .i64 (.ofNat 4))) fun v15 => .op (.bin .mul
  .no v15 (.int .i64 (.ofNat 2))) fun v16 => .op (.bin .add .no v2 v16) fun v17 => .op (.bin .add .no v17 (.int .i64 (.ofNat 1))) fun v18 => .op (.bin .leq .no v14 v18) fun v19 =>
  .seq (.cond v19 (.fall) ((.exit 0))) <| .seq (.block 1 (.callf (.i (.i (.o (.i (.i (.o (.o (.i .h)))))))) [v7] fun v20 => .op (.bin .sub .no v9 (.int .u64 (.ofNat 1))) fun v21 =>
  .op (.bin .and .no v20 v21) fun v22 => .op (.conv .i64 v22) fun v23 => .setv (.i (.i (.o .h))) v23 <| .op (.bin .geq .no v23 v4) fun v24 => .seq (.cond v24 (.op (.bin .sub .no
  v23 v4) fun v25 => .setv (.i (.i (.o .h))) v25 <| .fall) (.fall)) <| .getv (.i (.i (.o .h))) fun v26 => .op (.bin .add .no v2 v26) fun v27 => .op (.bin .add .no v2 v26) fun v28
  => .op (.islc 1 v1 v28) fun v29 => .op (.load false 1 v29) fun v30 => .op (.islc 1 v1 v14) fun v31 => .op (.load false 1 v31) fun v32 => .op (.islc 1 v1 v14) fun v33 => .op
  (.store 1 v33 v30) fun _ => .op (.islc 1 v1 v27) fun v35 => .op (.store 1 v35 v32) fun _ => .fall)) <| .op (.bin .add .no v14 (.int .i64 (.ofNat 1))) fun v37 => .setv (.o (.i (.o
  .h))) v37 <| .fall)) <| .fall)) <| .fall) (.fall)) <| .fall) []
theorem F397_ok : toFn Tryz.prog 397 [9,10] = some F397 := by kernel_rfl
def F398 : FnE := .body (.arg 0 fun v1 => .arg 1 fun v2 => .arg 2 fun v3 => .setv (.i (.i .h)) (.int .i64 (.ofNat 0)) <| .setv (.o (.o (.o .h))) (.int .i64 (.ofNat 0)) <| .op (.bin .sub .no v3 v2) fun v4
  => .op (.alloc [(.int .i64 (.ofNat 0))] 3) fun v5 => .op (.bin .quo .no v4 (.int .i64 (.ofNat 4))) fun v6 => .op (.bin .mul .no v6 (.int .i64 (.ofNat 1))) fun v7 => .op (.bin
  .add .no v2 v7) fun v8 => .setv (.i (.i (.o .h))) v8 <| .op (.bin .quo .no v4 (.int .i64 (.ofNat 4))) fun v9 => .op (.bin .mul .no v9 (.int .i64 (.ofNat 2))) fun v10 => .op (.bin
  .add .no v2 v10) fun v11 => .setv (.o (.o (.i .h))) v11 <| .op (.bin .quo .no v4 (.int .i64 (.ofNat 4))) fun v12 => .op (.bin .mul .no v12 (.int .i64 (.ofNat 3))) fun v13 => .op
  (.bin .add .no v2 v13) fun v14 => .setv (.i (.o (.i .h))) v14 <| .op (.bin .geq .no v4 (.int .i64 (.ofNat 8))) fun v15 => .seq (.cond v15 (.op (.bin .geq .no v4 (.int .i64
  (.ofNat 50))) fun v16 => .seq (.cond v16 (.callf (.o (.o (.i (.i (.i (.o (.o (.i .h)))))))) [v1,v8,v5] fun v17 => .setv (.i (.i (.o .h))) v17 <| .callf (.o (.o (.i (.i (.i (.o
  (.o (.i .h)))))))) [v1,v11,v5] fun v18 => .setv (.o (.o (.i .h))) v18 <| .callf (.o (.o (.i (.i (.i (.o (.o (.i .h)))))))) [v1,v14,v5] fun v19 => .setv (.i (.o (.i .h))) v19 <|
  .fall) (.fall)) <| .getv (.i (.i (.o .h))) fun v20 => .getv (.o (.o (.i .h))) fun v21 => .getv (.i (.o (.i .h))) fun v22 => .callf (.i (.o (.i (.i (.i (.o (.o (.i .h))))))))
  [v1,v20,v21,v22,v5] fun v23 => .setv (.o (.o (.i .h))) v23 <| .fall) (.fall)) <| .op (.load false 1 v5) fun v24 => .seq (.block 0 (.op (.bin .eql .no v24 (.int .i64 (.ofNat 0)))
  fun v25 => .seq (.cond v25 (.getv (.o (.o (.i .h))) fun v26 => .setv (.i (.i .h)) v26 <| .setv (.o (.o (.o .h))) (.int .i64 (.ofNat 1)) <| .ret) (.op (.bin .eql .no v24 (.int
  .i64 (.ofNat 12))) fun v27 => .seq (.cond v27 (.getv (.o (.o (.i .h))) fun v28 => .setv (.i (.i .h)) v28 <| .setv (.o (.o (.o .h))) (.int .i64 (.ofNat 2)) <| .ret) (.getv (.o (.o
  (.i .h))) fun v29 => .setv (.i (.i .h)) v29 <| .setv (.o (.o (.o .h))) (.int .i64 (.ofNat 0)) <| .ret)) <| .fall)) <| .fall)) <| .fall) [.tmp (.i (.i .h)),.tmp (.o (.o (.o .h)))]
theorem F398_ok : toFn Tryz.prog 398 [6,7,10,11,12] = some F398 := by kernel_rfl
def F399 : FnE := .body (.arg 0 fun v1 => .arg 1 fun v2 => .arg 2 fun v3 => .setv (.i (.i .h)) v2 <| .op (.bin .sub .no v3 (.int .i64 (.ofNat 1))) fun v4 => .setv (.o (.o (.o .h))) v4 <| .seq (.block 0
  (.seq (.loop (.getv (.i (.i .h)) fun v5 => .getv (.o (.o (.o .h))) fun v6 => .op (.bin .lss .no v5 v6) fun v7 => .seq (.cond v7 (.fall) ((.exit 0))) <| .seq (.block 1 (.op (.islc
  1 v1 v6) fun v8 => .op (.load false 1 v8) fun v9 => .op (.islc 1 v1 v5) fun v10 => .op (.load false 1 v10) fun v11 => .op (.islc 1 v1 v5) fun v12 => .op (.store 1 v12 v9) fun _
  => .op (.islc 1 v1 v6) fun v14 => .op (.store 1 v14 v11) fun _ => .op (.bin .add .no v5 (.int .i64 (.ofNat 1))) fun v16 => .setv (.i (.i .h)) v16 <| .op (.bin .sub .no v6 (.int
  .i64 (.ofNat 1))) fun v17 => .setv (.o (.o (.o .h))) v17 <| .fall)) <| .fall)) <| .fall)) <| .fall) []
theorem F399_ok : toFn Tryz.prog 399 [6,7] = some F399 := by kernel_rfl
end
end Go.Proofs.YtkafdfjimlihdaaGreatDoor
