/- The forms of the functions that are reached. -/
import Derived.Test.YtkafdfjimlihdaaGreatDoorThree
import Derived.KernelRfl
import Derived.Test.YtkafdfjimlihdaaGreatDoorProg
set_option linter.unusedVariables false
set_option linter.unusedSimpArgs false
namespace Go.Proofs.YtkafdfjimlihdaaGreatDoor
open Go Go.Ev
noncomputable section
set_option maxRecDepth 100000
def F400 : FnE := .body (.arg 0 fun v1 => .arg 1 fun v2 => .arg 2 fun v3 => .setv (.i (.i .h)) (.bool false) <| .op (.bin .add .no v2 (.int .i64 (.ofNat 1))) fun v4 => .setv (.o (.o (.o .h))) v4 <| .setv
  (.i (.o (.o .h))) (.int .i64 (.ofNat 0)) <| .seq (.block 0 (.seq (.loop (.getv (.i (.o (.o .h))) fun v5 => .op (.bin .lss .no v5 (.int .i64 (.ofNat 5))) fun v6 => .seq (.cond v6
  (.fall) ((.exit 0))) <| .seq (.block 1 (.seq (.block 2 (.seq (.loop (.getv (.o (.o (.o .h))) fun v7 => .op (.bin .lss .no v7 v3) fun v8 => .gop v8 true (.mv v1) fun v9 => .gop v8
  true (.mv v7) fun v10 => .gop v8 true (.islc 1 v9 v10) fun v11 => .gop v8 true (.load false 1 v11) fun v12 => .gop v8 true (.mv v1) fun v13 => .gop v8 true (.mv v7) fun v14 =>
  .gop v8 true (.bin .sub .no v14 (.int .i64 (.ofNat 1))) fun v15 => .gop v8 true (.islc 1 v13 v15) fun v16 => .gop v8 true (.load false 1 v16) fun v17 => .gcallf v8 true (.o (.i
  (.o (.o (.i (.o (.o (.i .h)))))))) [v12,v17] fun v18 => .gop v8 true (.un .not v18) fun v19 => .op (.pick v8 v19 (.bool false)) fun v20 => .seq (.cond v20 (.fall) ((.exit 2))) <|
  .seq (.block 3 (.op (.bin .add .no v7 (.int .i64 (.ofNat 1))) fun v21 => .setv (.o (.o (.o .h))) v21 <| .fall)) <| .fall)) <| .fall)) <| .getv (.o (.o (.o .h))) fun v22 => .op
  (.bin .eql .no v22 v3) fun v23 => .seq (.cond v23 (.setv (.i (.i .h)) (.bool true) <| .ret) (.fall)) <| .op (.bin .sub .no v3 v2) fun v24 => .op (.bin .lss .no v24 (.int .i64
  (.ofNat 50))) fun v25 => .seq (.cond v25 (.setv (.i (.i .h)) (.bool false) <| .ret) (.fall)) <| .op (.bin .sub .no v22 (.int .i64 (.ofNat 1))) fun v26 => .op (.bin .sub .no v22
  (.int .i64 (.ofNat 1))) fun v27 => .op (.islc 1 v1 v27) fun v28 => .op (.load false 1 v28) fun v29 => .op (.islc 1 v1 v22) fun v30 => .op (.load false 1 v30) fun v31 => .op
  (.islc 1 v1 v22) fun v32 => .op (.store 1 v32 v29) fun _ => .op (.islc 1 v1 v26) fun v34 => .op (.store 1 v34 v31) fun _ => .op (.bin .sub .no v22 v2) fun v36 => .op (.bin .geq
  .no v36 (.int .i64 (.ofNat 2))) fun v37 => .seq (.cond v37 (.op (.bin .sub .no v22 (.int .i64 (.ofNat 1))) fun v38 => .setv (.o (.i (.o .h))) v38 <| .seq (.block 4 (.seq (.loop
  (.getv (.o (.i (.o .h))) fun v39 => .op (.bin .geq .no v39 (.int .i64 (.ofNat 1))) fun v40 => .seq (.cond v40 (.fall) ((.exit 4))) <| .seq (.block 5 (.op (.islc 1 v1 v39) fun v41
  => .op (.load false 1 v41) fun v42 => .op (.bin .sub .no v39 (.int .i64 (.ofNat 1))) fun v43 => .op (.islc 1 v1 v43) fun v44 => .op (.load false 1 v44) fun v45 => .callf (.o (.i
  (.o (.o (.i (.o (.o (.i .h)))))))) [v42,v45] fun v46 => .op (.un .not v46) fun v47 => .seq (.cond v47 ((.exit 4)) (.fall)) <| .op (.bin .sub .no v39 (.int .i64 (.ofNat 1))) fun
  v48 => .op (.bin .sub .no v39 (.int .i64 (.ofNat 1))) fun v49 => .op (.islc 1 v1 v49) fun v50 => .op (.load false 1 v50) fun v51 => .op (.islc 1 v1 v39) fun v52 => .op (.load
  false 1 v52) fun v53 => .op (.islc 1 v1 v39) fun v54 => .op (.store 1 v54 v51) fun _ => .op (.islc 1 v1 v48) fun v56 => .op (.store 1 v56 v53) fun _ => .fall)) <| .op (.bin .sub
  .no v39 (.int .i64 (.ofNat 1))) fun v58 => .setv (.o (.i (.o .h))) v58 <| .fall)) <| .fall)) <| .fall) (.fall)) <| .op (.bin .sub .no v3 v22) fun v59 => .op (.bin .geq .no v59
  (.int .i64 (.ofNat 2))) fun v60 => .seq (.cond v60 (.op (.bin .add .no v22 (.int .i64 (.ofNat 1))) fun v61 => .setv (.i (.i (.o .h))) v61 <| .seq (.block 6 (.seq (.loop (.getv
  (.i (.i (.o .h))) fun v62 => .op (.bin .lss .no v62 v3) fun v63 => .seq (.cond v63 (.fall) ((.exit 6))) <| .seq (.block 7 (.op (.islc 1 v1 v62) fun v64 => .op (.load false 1 v64)
  fun v65 => .op (.bin .sub .no v62 (.int .i64 (.ofNat 1))) fun v66 => .op (.islc 1 v1 v66) fun v67 => .op (.load false 1 v67) fun v68 => .callf (.o (.i (.o (.o (.i (.o (.o (.i
  .h)))))))) [v65,v68] fun v69 => .op (.un .not v69) fun v70 => .seq (.cond v70 ((.exit 6)) (.fall)) <| .op (.bin .sub .no v62 (.int .i64 (.ofNat 1))) fun v71 => .op (.bin .sub .no
  v62 (.int .i64 (.ofNat 1))) fun v72 => .op (.islc 1 v1 v72) fun v73 => .op (.load false 1 v73) fun v74 => .op (.islc 1 v1 v62) fun v75 => .op (.load false 1 v75) fun v76 => .op
  (.islc 1 v1 v62) fun v77 => .op (.store 1 v77 v74) fun _ => .op (.islc 1 v1 v71) fun v79 => .op (.store 1 v79 v76) fun _ => .fall)) <| .op (.bin .add .no v62 (.int .i64 (.ofNat
  1))) fun v81 => .setv (.i (.i (.o .h))) v81 <| .fall)) <| .fall)) <| .fall) (.fall)) <| .fall)) <| .op (.bin .add .no v5 (.int .i64 (.ofNat 1))) fun v82 => .setv (.i (.o (.o
  .h))) v82 <| .fall)) <| .fall)) <| .setv (.i (.i .h)) (.bool false) <| .ret) [.tmp (.i (.i .h))]
theorem F400_ok : toFn Tryz.prog 400 [6,7,8,9,10] = some F400 := by kernel_rfl
def F401 : FnE := .body (.arg 0 fun v1 => .arg 1 fun v2 => .setv (.i (.o .h)) (.bool false) <| .callf (.o (.i (.i (.i (.i (.o (.o (.i .h)))))))) [v1] fun v3 => .gop v3 true (.mv v2) fun v4 => .gcallf v3
  true (.o (.i (.i (.i (.i (.o (.o (.i .h)))))))) [v4] fun v5 => .gop v3 true (.un .not v5) fun v6 => .op (.pick v3 v6 (.bool false)) fun v7 => .gop v7 false (.mv v1) fun v8 =>
  .gop v7 false (.mv v2) fun v9 => .gop v7 false (.bin .lss .no v8 v9) fun v10 => .op (.pick v7 (.bool true) v10) fun v11 => .setv (.i (.o .h)) v11 <| .ret) [.tmp (.i (.o .h))]
theorem F401_ok : toFn Tryz.prog 401 [4] = some F401 := by kernel_rfl
def F402 : FnE := .body (.arg 0 fun v1 => .arg 1 fun v2 => .arg 2 fun v3 => .arg 3 fun v4 => .setv (.i (.o (.o .h))) (.int .i64 (.ofNat 0)) <| .op (.islc 1 v1 v4) fun v5 => .op (.load false 1 v5) fun v6 =>
  .op (.islc 1 v1 v2) fun v7 => .op (.load false 1 v7) fun v8 => .op (.islc 1 v1 v2) fun v9 => .op (.store 1 v9 v6) fun _ => .op (.islc 1 v1 v4) fun v11 => .op (.store 1 v11 v8)
  fun _ => .op (.bin .add .no v2 (.int .i64 (.ofNat 1))) fun v13 => .op (.bin .sub .no v3 (.int .i64 (.ofNat 1))) fun v14 => .setv (.o (.i (.o .h))) v13 <| .setv (.i (.i (.o .h)))
  v14 <| .seq (.block 0 (.seq (.loop (.seq (.block 1 (.seq (.block 2 (.seq (.loop (.getv (.o (.i (.o .h))) fun v15 => .getv (.i (.i (.o .h))) fun v16 => .op (.bin .leq .no v15 v16)
  fun v17 => .gop v17 true (.mv v1) fun v18 => .gop v17 true (.mv v2) fun v19 => .gop v17 true (.islc 1 v18 v19) fun v20 => .gop v17 true (.load false 1 v20) fun v21 => .gop v17
  true (.mv v1) fun v22 => .gop v17 true (.mv v15) fun v23 => .gop v17 true (.islc 1 v22 v23) fun v24 => .gop v17 true (.load false 1 v24) fun v25 => .gcallf v17 true (.o (.i (.o
  (.o (.i (.o (.o (.i .h)))))))) [v21,v25] fun v26 => .gop v17 true (.un .not v26) fun v27 => .op (.pick v17 v27 (.bool false)) fun v28 => .seq (.cond v28 (.fall) ((.exit 2))) <|
  .seq (.block 3 (.op (.bin .add .no v15 (.int .i64 (.ofNat 1))) fun v29 => .setv (.o (.i (.o .h))) v29 <| .fall)) <| .fall)) <| .fall)) <| .seq (.block 4 (.seq (.loop (.getv (.o
  (.i (.o .h))) fun v30 => .getv (.i (.i (.o .h))) fun v31 => .op (.bin .leq .no v30 v31) fun v32 => .gop v32 true (.mv v1) fun v33 => .gop v32 true (.mv v2) fun v34 => .gop v32
  true (.islc 1 v33 v34) fun v35 => .gop v32 true (.load false 1 v35) fun v36 => .gop v32 true (.mv v1) fun v37 => .gop v32 true (.mv v31) fun v38 => .gop v32 true (.islc 1 v37
  v38) fun v39 => .gop v32 true (.load false 1 v39) fun v40 => .gcallf v32 true (.o (.i (.o (.o (.i (.o (.o (.i .h)))))))) [v36,v40] fun v41 => .op (.pick v32 v41 (.bool false))
  fun v42 => .seq (.cond v42 (.fall) ((.exit 4))) <| .seq (.block 5 (.op (.bin .sub .no v31 (.int .i64 (.ofNat 1))) fun v43 => .setv (.i (.i (.o .h))) v43 <| .fall)) <| .fall)) <|
  .fall)) <| .getv (.o (.i (.o .h))) fun v44 => .getv (.i (.i (.o .h))) fun v45 => .op (.bin .gtr .no v44 v45) fun v46 => .seq (.cond v46 ((.exit 0)) (.fall)) <| .op (.islc 1 v1
  v45) fun v47 => .op (.load false 1 v47) fun v48 => .op (.islc 1 v1 v44) fun v49 => .op (.load false 1 v49) fun v50 => .op (.islc 1 v1 v44) fun v51 => .op (.store 1 v51 v48) fun _
  => .op (.islc 1 v1 v45) fun v53 => .op (.store 1 v53 v50) fun _ => .op (.bin .add .no v44 (.int .i64 (.ofNat 1))) fun v55 => .setv (.o (.i (.o .h))) v55 <| .op (.bin .sub .no v45
  (.int .i64 (.ofNat 1))) fun v56 => .setv (.i (.i (.o .h))) v56 <| .fall)) <| .fall)) <| .fall)) <| .getv (.o (.i (.o .h))) fun v57 => .setv (.i (.o (.o .h))) v57 <| .ret) [.tmp (.i (.o (.o .h)))]
theorem F402_ok : toFn Tryz.prog 402 [8,9,10] = some F402 := by kernel_rfl
def F403 : FnE := .body (.arg 0 fun v1 => .arg 1 fun v2 => .arg 2 fun v3 => .arg 3 fun v4 => .setv (.i (.o (.o .h))) (.int .i64 (.ofNat 0)) <| .setv (.o (.i (.o .h))) (.bool false) <| .op (.islc 1 v1 v4)
  fun v5 => .op (.load false 1 v5) fun v6 => .op (.islc 1 v1 v2) fun v7 => .op (.load false 1 v7) fun v8 => .op (.islc 1 v1 v2) fun v9 => .op (.store 1 v9 v6) fun _ => .op (.islc 1
  v1 v4) fun v11 => .op (.store 1 v11 v8) fun _ => .op (.bin .add .no v2 (.int .i64 (.ofNat 1))) fun v13 => .op (.bin .sub .no v3 (.int .i64 (.ofNat 1))) fun v14 => .setv (.i (.i
  (.o .h))) v13 <| .setv (.o (.o (.i .h))) v14 <| .seq (.block 0 (.seq (.loop (.getv (.i (.i (.o .h))) fun v15 => .op (.bin .leq .no v15 v14) fun v16 => .gop v16 true (.mv v1) fun
  v17 => .gop v16 true (.mv v15) fun v18 => .gop v16 true (.islc 1 v17 v18) fun v19 => .gop v16 true (.load false 1 v19) fun v20 => .gop v16 true (.mv v1) fun v21 => .gop v16 true
  (.mv v2) fun v22 => .gop v16 true (.islc 1 v21 v22) fun v23 => .gop v16 true (.load false 1 v23) fun v24 => .gcallf v16 true (.o (.i (.o (.o (.i (.o (.o (.i .h)))))))) [v20,v24]
  fun v25 => .op (.pick v16 v25 (.bool false)) fun v26 => .seq (.cond v26 (.fall) ((.exit 0))) <| .seq (.block 1 (.op (.bin .add .no v15 (.int .i64 (.ofNat 1))) fun v27 => .setv
  (.i (.i (.o .h))) v27 <| .fall)) <| .fall)) <| .fall)) <| .seq (.block 2 (.seq (.loop (.getv (.i (.i (.o .h))) fun v28 => .getv (.o (.o (.i .h))) fun v29 => .op (.bin .leq .no
  v28 v29) fun v30 => .gop v30 true (.mv v1) fun v31 => .gop v30 true (.mv v29) fun v32 => .gop v30 true (.islc 1 v31 v32) fun v33 => .gop v30 true (.load false 1 v33) fun v34 =>
  .gop v30 true (.mv v1) fun v35 => .gop v30 true (.mv v2) fun v36 => .gop v30 true (.islc 1 v35 v36) fun v37 => .gop v30 true (.load false 1 v37) fun v38 => .gcallf v30 true (.o
  (.i (.o (.o (.i (.o (.o (.i .h)))))))) [v34,v38] fun v39 => .gop v30 true (.un .not v39) fun v40 => .op (.pick v30 v40 (.bool false)) fun v41 => .seq (.cond v41 (.fall) ((.exit
  2))) <| .seq (.block 3 (.op (.bin .sub .no v29 (.int .i64 (.ofNat 1))) fun v42 => .setv (.o (.o (.i .h))) v42 <| .fall)) <| .fall)) <| .fall)) <| .getv (.i (.i (.o .h))) fun v43
  => .getv (.o (.o (.i .h))) fun v44 => .op (.bin .gtr .no v43 v44) fun v45 => .seq (.cond v45 (.op (.islc 1 v1 v2) fun v46 => .op (.load false 1 v46) fun v47 => .op (.islc 1 v1
  v44) fun v48 => .op (.load false 1 v48) fun v49 => .op (.islc 1 v1 v44) fun v50 => .op (.store 1 v50 v47) fun _ => .op (.islc 1 v1 v2) fun v52 => .op (.store 1 v52 v49) fun _ =>
  .setv (.i (.o (.o .h))) v44 <| .setv (.o (.i (.o .h))) (.bool true) <| .ret) (.fall)) <| .op (.islc 1 v1 v44) fun v54 => .op (.load false 1 v54) fun v55 => .op (.islc 1 v1 v43)
  fun v56 => .op (.load false 1 v56) fun v57 => .op (.islc 1 v1 v43) fun v58 => .op (.store 1 v58 v55) fun _ => .op (.islc 1 v1 v44) fun v60 => .op (.store 1 v60 v57) fun _ => .op
  (.bin .add .no v43 (.int .i64 (.ofNat 1))) fun v62 => .setv (.i (.i (.o .h))) v62 <| .op (.bin .sub .no v44 (.int .i64 (.ofNat 1))) fun v63 => .setv (.o (.o (.i .h))) v63 <| .seq
  (.block 4 (.seq (.loop (.seq (.block 5 (.seq (.block 6 (.seq (.loop (.getv (.i (.i (.o .h))) fun v64 => .getv (.o (.o (.i .h))) fun v65 => .op (.bin .leq .no v64 v65) fun v66 =>
  .gop v66 true (.mv v1) fun v67 => .gop v66 true (.mv v64) fun v68 => .gop v66 true (.islc 1 v67 v68) fun v69 => .gop v66 true (.load false 1 v69) fun v70 => .gop v66 true (.mv
  v1) fun v71 => .gop v66 true (.mv v2) fun v72 => .gop v66 true (.islc 1 v71 v72) fun v73 => .gop v66 true (.load false 1 v73) fun v74 => .gcallf v66 true (.o (.i (.o (.o (.i (.o
  (.o (.i .h)))))))) [v70,v74] fun v75 => .op (.pick v66 v75 (.bool false)) fun v76 => .seq (.cond v76 (.fall) ((.exit 6))) <| .seq (.block 7 (.op (.bin .add .no v64 (.int .i64
  (.ofNat 1))) fun v77 => .setv (.i (.i (.o .h))) v77 <| .fall)) <| .fall)) <| .fall)) <| .seq (.block 8 (.seq (.loop (.getv (.i (.i (.o .h))) fun v78 => .getv (.o (.o (.i .h)))
  fun v79 => .op (.bin .leq .no v78 v79) fun v80 => .gop v80 true (.mv v1) fun v81 => .gop v80 true (.mv v79) fun v82 => .gop v80 true (.islc 1 v81 v82) fun v83 => .gop v80 true
  (.load false 1 v83) fun v84 => .gop v80 true (.mv v1) fun v85 => .gop v80 true (.mv v2) fun v86 => .gop v80 true (.islc 1 v85 v86) fun v87 => .gop v80 true (.load false 1 v87)
  fun v88 => .gcallf v80 true (.o (.i (.o (.o (.i (.o (.o (.i .h)))))))) [v84,v88] fun v89 => .gop v80 true (.un .not v89) fun v90 => .op (.pick v80 v90 (.bool false)) fun v91 =>
  .seq (.cond v91 (.fall) ((.exit 8))) <| .seq (.block 9 (.op (.bin .sub .no v79 (.int .i64 (.ofNat 1))) fun v92 => .setv (.o (.o (.i .h))) v92 <| .fall)) <| .fall)) <| .fall)) <|
  .getv (.i (.i (.o .h))) fun v93 => .getv (.o (.o (.i .h))) fun v94 => .op (.bin .gtr .no v93 v94) fun v95 => .seq (.cond v95 ((.exit 4)) (.fall)) <| .op (.islc 1 v1 v94) fun v96
  => .op (.load false 1 v96) fun v97 => .op (.islc 1 v1 v93) fun v98 => .op (.load false 1 v98) fun v99 => .op (.islc 1 v1 v93) fun v100 => .op (.store 1 v100 v97) fun _ => .op
  (.islc 1 v1 v94) fun v102 => .op (.store 1 v102 v99) fun _ => .op (.bin .add .no v93 (.int .i64 (.ofNat 1))) fun v104 => .setv (.i (.i (.o .h))) v104 <| .op (.bin .sub .no v94
  (.int .i64 (.ofNat 1))) fun v105 => .setv (.o (.o (.i .h))) v105 <| .fall)) <| .fall)) <| .fall)) <| .getv (.o (.o (.i .h))) fun v106 => .op (.islc 1 v1 v2) fun v107 => .op
  (.load false 1 v107) fun v108 => .op (.islc 1 v1 v106) fun v109 => .op (.load false 1 v109) fun v110 => .op (.islc 1 v1 v106) fun v111 => .op (.store 1 v111 v108) fun _ => .op
  (.islc 1 v1 v2) fun v113 => .op (.store 1 v113 v110) fun _ => .setv (.i (.o (.o .h))) v106 <| .setv (.o (.i (.o .h))) (.bool false) <| .ret) [.tmp (.i (.o (.o .h))),.tmp (.o (.i (.o .h)))]
theorem F403_ok : toFn Tryz.prog 403 [8,9,10,11] = some F403 := by kernel_rfl
def F404 : FnE := .body (.arg 0 fun v1 => .setv .h v1 <| .setv (.i .h) (.int .i64 (.ofNat 0)) <| .op (.bin .geq .no v1 (.int .u32 (.ofNat 65536))) fun v2 => .seq (.cond v2 (.op (.bin .shr .no v1 (.int .u64
  (.ofNat 16))) fun v3 => .setv .h v3 <| .setv (.i .h) (.int .i64 (.ofNat 16)) <| .fall) (.fall)) <| .getv .h fun v4 => .op (.bin .geq .no v4 (.int .u32 (.ofNat 256))) fun v5 =>
  .seq (.cond v5 (.op (.bin .shr .no v4 (.int .u64 (.ofNat 8))) fun v6 => .setv .h v6 <| .getv (.i .h) fun v7 => .op (.bin .add .no v7 (.int .i64 (.ofNat 8))) fun v8 => .setv (.i
  .h) v8 <| .fall) (.fall)) <| .getv (.i .h) fun v9 => .getv .h fun v10 => .op (.conv .u8 v10) fun v11 => .op (.ixstr (.str 256
  [0,1,2,2,3,3,3,3,4,4,4,4,4,4,4,4,5,5,5,5,5,5,5,5,5,5,5,5,5,5,5,5,6,6,6,6,6,6,6,6,6,6,6,6,6,6,6,6,6,6,6,6,6,6,6,6,6,6,6,6,6,6,6,6,7,7,7,7,7,7,7,7,7,7,7,7,7,7,7,7,7,7,7,7,7,7,7,7,7,7,7,7,7,7,7,7,7,7,7,7,7,7,7,7,7,7,7,7,7,7,7,7,7,7,7,7,7,7,7,7,7,7,7,7,7,7,7,7,8,8,8,8,8,8,8,8,8,8,8,8,8,8,8,8,8,8,8,8,8,8,8,8,8,8,8,8,8,8,8,8,8,8,8,8,8,8,8,8,8,8,8,8,8,8,8,8,8,8,8,8,8,8,8,8,8,8,8,8,8,8,8,8,8,8,8,8,8,8,8,8,8,8,8,8,8,8,8,8,8,8,8,8,8,8,8,8,8,8,8,8,8,8,8,8,8,8,8,8,8,8,8,8,8,8,8,8,8,8,8,8,8,8,8,8,8,8,8,8,8,8,8,8,8,8,8,8])
  v11) fun v12 => .op (.conv .i64 v12) fun v13 => .op (.bin .add .no v9 v13) fun v14 => .setv (.i .h) v14 <| .ret) [.tmp (.i .h)]
theorem F404_ok : toFn Tryz.prog 404 [0,2] = some F404 := by kernel_rfl
def F405 : FnE := .body (.setv .h .nilp <| .op (.load true 8 (.ptr .h 0)) fun v1 => .op (.build [(.int .u32 (.ofNat 0)),(.int .u32 (.ofNat 0)),(.int .u32 (.ofNat 0)),(.int .u32 (.ofNat 0)),(.int .u32
  (.ofNat 0)),(.int .u32 (.ofNat 0)),(.int .u32 (.ofNat 0)),(.int .u32 (.ofNat 0)),.nils,(.int .u64 (.ofNat 0))] [(0,8,v1)]) fun v2 => .op (.box 506 v2) fun v3 => .setv .h v3 <|
  .ret) [.tmp .h]
theorem F405_ok : toFn Tryz.prog 405 [0] = some F405 := by kernel_rfl
def F406 : FnE := .body (.arg 0 fun v1 => .setv (.i .h) (.int .i64 (.ofNat 0)) <| .op (.bin .eql .no v1 (.int .u32 (.ofNat 0))) fun v2 => .seq (.cond v2 (.setv (.i .h) (.int .i64 (.ofNat 32)) <| .ret)
  (.fall)) <| .op (.un .neg v1) fun v3 => .op (.bin .and .no v1 v3) fun v4 => .op (.bin .mul .no v4 (.int .u32 (.ofNat 125613361))) fun v5 => .op (.bin .shr .no v5 (.int .u64
  (.ofNat 27))) fun v6 => .op (.iarr 32 1 (.ptr (.o (.i (.o .h))) 0) v6) fun v7 => .op (.load false 1 v7) fun v8 => .op (.conv .i64 v8) fun v9 => .setv (.i .h) v9 <| .ret) [.tmp (.i .h)]
theorem F406_ok : toFn Tryz.prog 406 [2] = some F406 := by kernel_rfl
def F407 : FnE := .body (.arg 0 fun v1 => .setv (.i .h) (.int .i64 (.ofNat 0)) <| .op (.bin .eql .no v1 (.int .u64 (.ofNat 0))) fun v2 => .seq (.cond v2 (.setv (.i .h) (.int .i64 (.ofNat 64)) <| .ret)
  (.fall)) <| .op (.un .neg v1) fun v3 => .op (.bin .and .no v1 v3) fun v4 => .op (.bin .mul .no v4 (.int .u64 (.ofNat 285870213051353865))) fun v5 => .op (.bin .shr .no v5 (.int
  .u64 (.ofNat 58))) fun v6 => .op (.iarr 64 1 (.ptr (.i (.i (.o .h))) 0) v6) fun v7 => .op (.load false 1 v7) fun v8 => .op (.conv .i64 v8) fun v9 => .setv (.i .h) v9 <| .ret) [.tmp (.i .h)]
theorem F407_ok : toFn Tryz.prog 407 [2] = some F407 := by kernel_rfl
def F408 : FnE := .body (.arg 0 fun v1 => .arg 1 fun v2 => .arg 2 fun v3 => .arg 3 fun v4 => .setv (.i (.o (.o .h))) v2 <| .seq (.block 0 (.seq (.loop (.seq (.block 1 (.getv (.i (.o (.o .h))) fun v5 => .op
  (.bin .mul .no (.int .i64 (.ofNat 2)) v5) fun v6 => .op (.bin .add .no v6 (.int .i64 (.ofNat 1))) fun v7 => .setv (.o (.i (.o .h))) v7 <| .op (.bin .geq .no v7 v3) fun v8 => .seq
  (.cond v8 ((.exit 0)) (.fall)) <| .op (.bin .add .no v7 (.int .i64 (.ofNat 1))) fun v9 => .op (.bin .lss .no v9 v3) fun v10 => .gop v10 true (.mv v1) fun v11 => .gop v10 true
  (.mv v4) fun v12 => .gop v10 true (.mv v7) fun v13 => .gop v10 true (.bin .add .no v12 v13) fun v14 => .gop v10 true (.islc 1 v11 v14) fun v15 => .gop v10 true (.load false 1
  v15) fun v16 => .gop v10 true (.mv v1) fun v17 => .gop v10 true (.mv v4) fun v18 => .gop v10 true (.mv v7) fun v19 => .gop v10 true (.bin .add .no v18 v19) fun v20 => .gop v10
  true (.bin .add .no v20 (.int .i64 (.ofNat 1))) fun v21 => .gop v10 true (.islc 1 v17 v21) fun v22 => .gop v10 true (.load false 1 v22) fun v23 => .gcallf v10 true (.o (.i (.o
  (.o (.i (.o (.o (.i .h)))))))) [v16,v23] fun v24 => .op (.pick v10 v24 (.bool false)) fun v25 => .seq (.cond v25 (.op (.bin .add .no v7 (.int .i64 (.ofNat 1))) fun v26 => .setv
  (.o (.i (.o .h))) v26 <| .fall) (.fall)) <| .op (.bin .add .no v4 v5) fun v27 => .op (.islc 1 v1 v27) fun v28 => .op (.load false 1 v28) fun v29 => .getv (.o (.i (.o .h))) fun
  v30 => .op (.bin .add .no v4 v30) fun v31 => .op (.islc 1 v1 v31) fun v32 => .op (.load false 1 v32) fun v33 => .callf (.o (.i (.o (.o (.i (.o (.o (.i .h)))))))) [v29,v33] fun
  v34 => .op (.un .not v34) fun v35 => .seq (.cond v35 (.ret) (.fall)) <| .op (.bin .add .no v4 v5) fun v36 => .op (.bin .add .no v4 v30) fun v37 => .op (.bin .add .no v4 v30) fun
  v38 => .op (.islc 1 v1 v38) fun v39 => .op (.load false 1 v39) fun v40 => .op (.bin .add .no v4 v5) fun v41 => .op (.islc 1 v1 v41) fun v42 => .op (.load false 1 v42) fun v43 =>
  .op (.islc 1 v1 v36) fun v44 => .op (.store 1 v44 v40) fun _ => .op (.islc 1 v1 v37) fun v46 => .op (.store 1 v46 v43) fun _ => .setv (.i (.o (.o .h))) v30 <| .fall)) <| .fall))
  <| .fall)) <| .fall) []
theorem F408_ok : toFn Tryz.prog 408 [8,9] = some F408 := by kernel_rfl
def F409 : FnE := .body (.arg 0 fun v1 => .setv (.i .h) (.int .u64 (.ofNat 0)) <| .op (.conv .u64 v1) fun v2 => .callf (.i (.i (.o (.i (.i (.i (.i (.o .h)))))))) [v2] fun v3 => .op (.bin .shl .no (.int
  .u64 (.ofNat 1)) v3) fun v4 => .setv (.i .h) v4 <| .ret) [.tmp (.i .h)]
theorem F409_ok : toFn Tryz.prog 409 [2] = some F409 := by kernel_rfl
def F410 : FnE := .body (.arg 0 fun v1 => .setv (.i .h) (.int .u64 (.ofNat 0)) <| .op (.nilck v1) fun v2 => .op (.load false 1 v2) fun v3 => .op (.nilck v1) fun v4 => .op (.load false 1 v4) fun v5 => .op
  (.bin .shl .no v5 (.int .u64 (.ofNat 13))) fun v6 => .op (.bin .xor .no v3 v6) fun v7 => .op (.nilck v1) fun v8 => .op (.store 1 v8 v7) fun _ => .op (.nilck v1) fun v10 => .op
  (.load false 1 v10) fun v11 => .op (.nilck v1) fun v12 => .op (.load false 1 v12) fun v13 => .op (.bin .shr .no v13 (.int .u64 (.ofNat 7))) fun v14 => .op (.bin .xor .no v11 v14)
  fun v15 => .op (.nilck v1) fun v16 => .op (.store 1 v16 v15) fun _ => .op (.nilck v1) fun v18 => .op (.load false 1 v18) fun v19 => .op (.nilck v1) fun v20 => .op (.load false 1
  v20) fun v21 => .op (.bin .shl .no v21 (.int .u64 (.ofNat 17))) fun v22 => .op (.bin .xor .no v19 v22) fun v23 => .op (.nilck v1) fun v24 => .op (.store 1 v24 v23) fun _ => .op
  (.nilck v1) fun v26 => .op (.load false 1 v26) fun v27 => .setv (.i .h) v27 <| .ret) [.tmp (.i .h)]
theorem F410_ok : toFn Tryz.prog 410 [2] = some F410 := by kernel_rfl
def F411 : FnE := .body (.arg 0 fun v1 => .arg 1 fun v2 => .arg 2 fun v3 => .setv (.i (.i .h)) (.int .i64 (.ofNat 0)) <| .op (.bin .sub .no v2 (.int .i64 (.ofNat 1))) fun v4 => .op (.bin .add .no v2 (.int
  .i64 (.ofNat 1))) fun v5 => .callf (.i (.o (.i (.i (.i (.o (.o (.i .h)))))))) [v1,v4,v2,v5,v3] fun v6 => .setv (.i (.i .h)) v6 <| .ret) [.tmp (.i (.i .h))]
theorem F411_ok : toFn Tryz.prog 411 [6] = some F411 := by kernel_rfl
def F412 : FnE := .body (.arg 0 fun v1 => .arg 1 fun v2 => .arg 2 fun v3 => .arg 3 fun v4 => .arg 4 fun v5 => .setv (.i (.i (.o .h))) (.int .i64 (.ofNat 0)) <| .callf (.i (.i (.i (.i (.i (.o (.o (.i
  .h)))))))) [v1,v2,v3,v5] fun v6 => .op (.ext v6 0) fun v7 => .op (.ext v6 1) fun v8 => .callf (.i (.i (.i (.i (.i (.o (.o (.i .h)))))))) [v1,v8,v4,v5] fun v9 => .op (.ext v9 0)
  fun v10 => .op (.ext v9 1) fun _ => .callf (.i (.i (.i (.i (.i (.o (.o (.i .h)))))))) [v1,v7,v10,v5] fun v12 => .op (.ext v12 0) fun _ => .op (.ext v12 1) fun v14 => .setv (.i
  (.i (.o .h))) v14 <| .ret) [.tmp (.i (.i (.o .h)))]
theorem F412_ok : toFn Tryz.prog 412 [10] = some F412 := by kernel_rfl
def F413 : FnE := .body (.arg 0 fun v1 => .setv (.i .h) (.bool false) <| .op (.bin .neq .no v1 v1) fun v2 => .setv (.i .h) v2 <| .ret) [.tmp (.i .h)]
theorem F413_ok : toFn Tryz.prog 413 [2] = some F413 := by kernel_rfl
def F414 : FnE := .body (.arg 0 fun v1 => .arg 1 fun v2 => .arg 2 fun v3 => .arg 3 fun v4 => .setv (.i (.o (.o .h))) (.int .i64 (.ofNat 0)) <| .setv (.o (.i (.o .h))) (.int .i64 (.ofNat 0)) <| .op (.islc 1
  v1 v3) fun v5 => .op (.load false 1 v5) fun v6 => .op (.islc 1 v1 v2) fun v7 => .op (.load false 1 v7) fun v8 => .callf (.o (.i (.o (.o (.i (.o (.o (.i .h)))))))) [v6,v8] fun v9
  => .seq (.cond v9 (.op (.nilck v4) fun v10 => .op (.load false 1 v10) fun v11 => .op (.bin .add .no v11 (.int .i64 (.ofNat 1))) fun v12 => .op (.nilck v4) fun v13 => .op (.store
  1 v13 v12) fun _ => .setv (.i (.o (.o .h))) v3 <| .setv (.o (.i (.o .h))) v2 <| .ret) (.fall)) <| .setv (.i (.o (.o .h))) v2 <| .setv (.o (.i (.o .h))) v3 <| .ret) [.tmp (.i (.o (.o .h))),.tmp (.o (.i (.o .h)))]
theorem F414_ok : toFn Tryz.prog 414 [8,9] = some F414 := by kernel_rfl
end
end Go.Proofs.YtkafdfjimlihdaaGreatDoor
