/- The forms of the functions that are reached. -/
import Derived.Test.YtkafdfjimlihdaaGreatDoorThree
import Derived.KernelRfl
import Derived.Test.YtkafdfjimlihdaaGreatDoorProg
set_option linter.unusedVariables false
set_option linter.unusedSimpArgs false
namespace Go.Proofs.YtkafdfjimlihdaaGreatDoor
open Go Go.Ev
noncomputable section
set_option maxRecDepth 100000
def F6 : FnE := .body (.arg 0 fun v1 => .arg 1 fun v2 => .setv (.i (.o .h)) (.bool false) <| .callf (.i (.i (.o (.i .h)))) [] fun v3 => .op (.un .not v3) fun v4 => .seq (.cond v4 (.setv (.i (.o .h))
  (.bool false) <| .ret) (.fall)) <| .callf (.o (.o (.i (.i .h)))) [v1,(.int .u64 (.ofNat 100))] fun v5 => .op (.alloc [.nilp,.nilp,.nilp,(.int .i64 (.ofNat 0)),.nilp] 98) fun v6
  => .op (.store 5 v6 v5) fun _ => .setv (.i (.i .h)) (.str 3 [97,110,110]) <| .setv (.o (.o (.o .h))) (.str 6 [112,101,110,99,105,108]) <| .seq (.cond v2 (.setv (.i (.i .h)) (.str
  3 [98,111,98]) <| .setv (.o (.o (.o .h))) (.str 6 [115,101,99,114,101,116]) <| .fall) (.fall)) <| .getv (.i (.i .h)) fun v8 => .op (.bin .add .no (.str 5 [110,44,44,110,61]) v8)
  fun v9 => .op (.bin .add .no v9 (.str 6 [44,114,61,97,98,99])) fun v10 => .op (.bslice 9 1 2 [(.str 0 [])] [(0,(.str 1 [100])),(1,(.str 1 [101]))]) fun v11 => .op (.len false
  v11) fun v12 => .setv (.o (.o (.o (.i (.o .h))))) (.int .i64 (.ofNat 0)) <| .seq (.block 0 (.seq (.loop (.getv (.o (.o (.o (.i (.o .h))))) fun v13 => .op (.bin .lss .no v13 v12)
  fun v14 => .seq (.cond v14 (.fall) ((.exit 0))) <| .seq (.block 1 (.op (.islc 1 v11 v13) fun v15 => .op (.load false 1 v15) fun v16 => .op (.faddr 0 v6) fun v17 => .op (.load
  true 4 v17) fun v18 => .callf (.i (.o (.i (.i .h)))) [v18,(.str 1 [116])] fun v19 => .op (.ext v19 0) fun v20 => .op (.ext v19 1) fun v21 => .op (.bin .neq .no v21 (.int .i64
  (.ofNat 0))) fun v22 => .seq (.cond v22 (.setv (.i (.o .h)) (.bool false) <| .ret) (.fall)) <| .callf (.o (.i (.i (.i .h)))) [v20,v10,v16,(.int .u64 (.ofNat 5))] fun v23 => .op
  (.ext v23 0) fun v24 => .op (.ext v23 1) fun v25 => .op (.load true 5 v6) fun v26 => .getv (.o (.o (.o .h))) fun v27 => .callf (.o (.o (.o (.o (.o .h))))) [v26,v27,v10,v24,(.int
  .u8 (.ofNat 0))] fun v28 => .callf (.i (.i (.i (.i .h)))) [v20,v28,(.int .u64 (.ofNat 6))] fun v29 => .op (.ext v29 0) fun _ => .op (.ext v29 1) fun v31 => .callf (.i (.o (.o (.o
  (.o .h))))) [v20] fun v32 => .op (.ext v32 0) fun v33 => .op (.ext v32 1) fun _ => .op (.ext v32 2) fun v35 => .op (.alloc [(.str 0 []),(.str 0 []),.nils,(.int .i64 (.ofNat
  0)),.nils,.nils,.nils,(.int .u64 (.ofNat 0)),.nils,(.bool false)] 48) fun v36 => .op (.store 10 v36 v33) fun _ => .callf (.i (.o (.o (.o (.o .h))))) [v20] fun v38 => .op (.ext
  v38 0) fun v39 => .op (.ext v38 1) fun _ => .op (.ext v38 2) fun v41 => .op (.alloc [(.str 0 []),(.str 0 []),.nils,(.int .i64 (.ofNat 0)),.nils,.nils,.nils,(.int .u64 (.ofNat
  0)),.nils,(.bool false)] 48) fun v42 => .op (.store 10 v42 v39) fun _ => .op (.bin .neq .no v25 (.int .i64 (.ofNat 0))) fun v44 => .gop v44 false (.mv v31) fun v45 => .gop v44
  false (.bin .neq .no v45 (.int .i64 (.ofNat 0))) fun v46 => .op (.pick v44 (.bool true) v46) fun v47 => .gop v47 false (.mv v35) fun v48 => .gop v47 false (.un .not v48) fun v49
  => .op (.pick v47 (.bool true) v49) fun v50 => .gop v50 false (.mv v41) fun v51 => .gop v50 false (.un .not v51) fun v52 => .op (.pick v50 (.bool true) v52) fun v53 => .gop v53
  false (.faddr 1 v36) fun v54 => .gop v53 false (.load false 1 v54) fun v55 => .gop v53 false (.mv v8) fun v56 => .gop v53 false (.bin .neq .no v55 v56) fun v57 => .op (.pick v53
  (.bool true) v57) fun v58 => .seq (.cond v58 (.setv (.i (.o .h)) (.bool false) <| .ret) (.fall)) <| .op (.load true 10 v36) fun v59 => .callf (.o (.i (.o (.o (.o .h))))) [v59]
  fun v60 => .op (.alloc [(.str 0 []),(.str 0 []),.nils,(.int .i64 (.ofNat 0)),.nils,.nils,.nils,(.int .u64 (.ofNat 0)),.nils,(.bool false)] 48) fun v61 => .op (.store 10 v61 v60)
  fun _ => .op (.load true 10 v36) fun v63 => .callf (.i (.i (.o (.o (.o .h))))) [v63] fun _ => .callf (.i (.o (.o (.o (.o .h))))) [v20] fun v65 => .op (.ext v65 0) fun v66 => .op
  (.ext v65 1) fun _ => .op (.ext v65 2) fun _ => .op (.alloc [(.str 0 []),(.str 0 []),.nils,(.int .i64 (.ofNat 0)),.nils,.nils,.nils,(.int .u64 (.ofNat 0)),.nils,(.bool false)]
  48) fun v69 => .op (.store 10 v69 v66) fun _ => .op (.faddr 0 v6) fun v71 => .op (.faddr 1 v71) fun v72 => .op (.load false 1 v72) fun v73 => .callf (.o (.o (.i (.o (.o .h)))))
  [v73,(.str 1 [116]),v8] fun v74 => .op (.ext v74 0) fun v75 => .op (.ext v74 1) fun v76 => .op (.alloc [(.str 0 []),(.str 0 []),.nils,(.int .i64 (.ofNat
  0)),.nils,.nils,.nils,(.int .u64 (.ofNat 0)),.nils,(.bool false)] 48) fun v77 => .op (.store 10 v77 v75) fun _ => .op (.load true 10 v42) fun v79 => .op (.load true 10 v61) fun
  v80 => .callf (.i (.o (.i (.o (.o .h))))) [v79,v80] fun v81 => .op (.un .not v81) fun v82 => .gop v82 false (.load true 10 v69) fun v83 => .gop v82 false (.load true 10 v61) fun
  v84 => .gcallf v82 false (.i (.o (.i (.o (.o .h))))) [v83,v84] fun v85 => .gop v82 false (.un .not v85) fun v86 => .op (.pick v82 (.bool true) v86) fun v87 => .gop v87 false (.mv
  v76) fun v88 => .gop v87 false (.un .not v88) fun v89 => .op (.pick v87 (.bool true) v89) fun v90 => .gop v90 false (.load true 10 v77) fun v91 => .gop v90 false (.load true 10
  v61) fun v92 => .gcallf v90 false (.i (.o (.i (.o (.o .h))))) [v91,v92] fun v93 => .gop v90 false (.un .not v93) fun v94 => .op (.pick v90 (.bool true) v94) fun v95 => .seq
  (.cond v95 (.setv (.i (.o .h)) (.bool false) <| .ret) (.fall)) <| .fall)) <| .op (.bin .add .no v13 (.int .i64 (.ofNat 1))) fun v96 => .setv (.o (.o (.o (.i (.o .h))))) v96 <|
  .fall)) <| .fall)) <| .setv (.i (.o .h)) (.bool true) <| .ret) [.tmp (.i (.o .h))]
theorem F6_ok : toFn Tryz.prog 6 [4,6,7,39] = some F6 := by kernel_rfl
def F21 : FnE := .body (.arg 0 fun v1 => .arg 1 fun v2 => .arg 2 fun v3 => .setv (.i (.i .h)) (.int .i64 (.ofNat 0)) <| .callf (.o (.i (.o (.i (.o (.o .h)))))) [v1,v2,v3] fun v4 => .op (.ext v4 0) fun v5
  => .op (.ext v4 1) fun v6 => .op (.alloc [(.str 0 []),(.int .u64 (.ofNat 0)),(.bool false),(.int .u32 (.ofNat 0))] 175) fun v7 => .op (.store 4 v7 v5) fun _ => .seq (.block 0
  (.op (.bin .neq .no v6 (.int .i64 (.ofNat 0))) fun v9 => .seq (.cond v9 (.setv (.i (.i .h)) v6 <| .ret) (.op (.faddr 2 v7) fun v10 => .op (.load false 1 v10) fun v11 => .gop v11
  false (.faddr 3 v7) fun v12 => .gop v11 false (.load false 1 v12) fun v13 => .gop v11 false (.bin .gtr .no v13 (.int .u32 (.ofNat 0))) fun v14 => .op (.pick v11 (.bool true) v14)
  fun v15 => .seq (.cond v15 (.setv (.i (.i .h)) (.int .i64 (.ofNat 10)) <| .ret) (.fall)) <| .fall)) <| .fall)) <| .op (.faddr 2 v7) fun v16 => .op (.store 1 v16 (.bool true)) fun
  _ => .op (.nilck v1) fun v18 => .op (.faddr 2 v18) fun v19 => .op (.load false 1 v19) fun v20 => .op (.load true 4 v7) fun v21 => .callf (.i (.i (.o (.i (.o (.o .h))))))
  [v20,v2,v21] fun v22 => .setv (.i (.i .h)) v22 <| .ret) [.tmp (.i (.i .h))]
theorem F21_ok : toFn Tryz.prog 21 [6] = some F21 := by kernel_rfl
def F26 : FnE := .body (.setv .h (.bool false) <| .callf (.o (.o (.i (.i .h)))) [(.bool false),(.int .u64 (.ofNat 100))] fun v1 => .op (.alloc [.nilp,.nilp,.nilp,(.int .i64 (.ofNat 0)),.nilp] 98) fun v2
  => .op (.store 5 v2 v1) fun _ => .op (.faddr 0 v2) fun v4 => .op (.load true 4 v4) fun v5 => .callf (.i (.o (.i (.i .h)))) [v5,(.str 1 [116])] fun v6 => .op (.ext v6 0) fun v7 =>
  .op (.ext v6 1) fun v8 => .op (.bin .neq .no v8 (.int .i64 (.ofNat 0))) fun v9 => .gop v9 false (.mv v7) fun v10 => .gop v9 false (.bin .eql .ptr v10 .nilp) fun v11 => .op (.pick
  v9 (.bool true) v11) fun v12 => .seq (.cond v12 (.setv .h (.bool false) <| .ret) (.fall)) <| .callf (.o (.i (.i (.i .h)))) [v7,(.str 14
  [110,44,44,110,61,97,110,110,44,114,61,97,98,99]),(.str 1 [100]),(.int .u64 (.ofNat 5))] fun v13 => .op (.ext v13 0) fun v14 => .op (.ext v13 1) fun v15 => .op (.load true 5 v2)
  fun v16 => .callf (.o (.o (.o (.o (.o .h))))) [v16,(.str 6 [112,101,110,99,105,108]),(.str 14 [110,44,44,110,61,97,110,110,44,114,61,97,98,99]),v14,(.int .u8 (.ofNat 0))] fun v17
  => .callf (.i (.i (.i (.i .h)))) [v7,v17,(.int .u64 (.ofNat 6))] fun v18 => .op (.ext v18 0) fun v19 => .op (.ext v18 1) fun v20 => .callf (.i (.o (.o (.o (.o .h))))) [v7] fun
  v21 => .op (.ext v21 0) fun v22 => .op (.ext v21 1) fun _ => .op (.ext v21 2) fun v24 => .op (.alloc [(.str 0 []),(.str 0 []),.nils,(.int .i64 (.ofNat 0)),.nils,.nils,.nils,(.int
  .u64 (.ofNat 0)),.nils,(.bool false)] 48) fun v25 => .op (.store 10 v25 v22) fun _ => .op (.bin .eql .no v15 (.int .i64 (.ofNat 0))) fun v27 => .gop v27 true (.mv v14) fun v28 =>
  .gop v27 true (.len true v28) fun v29 => .gop v27 true (.bin .gtr .no v29 (.int .i64 (.ofNat 30))) fun v30 => .op (.pick v27 v30 (.bool false)) fun v31 => .gop v31 true (.mv v14)
  fun v32 => .gop v31 true (.sstr v32 none (some (.int .i64 (.ofNat 26)))) fun v33 => .gop v31 true (.bin .eql .no v33 (.str 26
  [114,61,97,98,99,100,46,48,48,48,48,48,48,48,48,48,48,48,48,48,48,48,49,44,115,61])) fun v34 => .op (.pick v31 v34 (.bool false)) fun v35 => .gop v35 true (.mv v20) fun v36 =>
  .gop v35 true (.bin .eql .no v36 (.int .i64 (.ofNat 0))) fun v37 => .op (.pick v35 v37 (.bool false)) fun v38 => .gop v38 true (.mv v19) fun v39 => .gop v38 true (.sstr v39 none
  (some (.int .i64 (.ofNat 2)))) fun v40 => .gop v38 true (.bin .eql .no v40 (.str 2 [118,61])) fun v41 => .op (.pick v38 v41 (.bool false)) fun v42 => .gop v42 true (.mv v24) fun
  v43 => .op (.pick v42 v43 (.bool false)) fun v44 => .gop v44 true (.faddr 1 v25) fun v45 => .gop v44 true (.load false 1 v45) fun v46 => .gop v44 true (.bin .eql .no v46 (.str 3
  [97,110,110])) fun v47 => .op (.pick v44 v47 (.bool false)) fun v48 => .gop v48 true (.mv v7) fun v49 => .gcallf v48 true (.i (.i (.o (.o (.i (.o .h)))))) [v49] fun v50 => .gop
  v48 true (.bin .eql .no v50 (.int .i64 (.ofNat 2))) fun v51 => .op (.pick v48 v51 (.bool false)) fun v52 => .setv .h v52 <| .ret) [.tmp .h]
theorem F26_ok : toFn Tryz.prog 26 [0] = some F26 := by kernel_rfl
def F27 : FnE := .body (.arg 0 fun v1 => .arg 1 fun v2 => .op (.alloc [.nilp,.nilp,.nilp,(.int .i64 (.ofNat 0)),.nilp] 98) fun v3 => .setv (.i (.o .h)) v3 <| .op (.build [(.int .i64 (.ofNat 0)),(.int .u64
  (.ofNat 0))] [(0,1,(.int .i64 (.ofNat 8))),(1,1,v2)]) fun v4 => .callf (.o (.i (.i (.o (.o .h))))) [v4] fun v5 => .op (.ext v5 0) fun v6 => .op (.ext v5 1) fun _ => .callf (.i
  (.i (.i (.o (.o .h))))) [v1] fun v8 => .callf (.o (.o (.o (.i (.o .h))))) [] fun v9 => .op (.build [.nilp,.nilp,.nilp,(.int .i64 (.ofNat 0))]
  [(0,1,v8),(1,1,v9),(2,1,v6),(3,1,(.int .i64 (.ofNat 2)))]) fun v10 => .op (.build [(.bool false),.nils,(.bool false)] [(0,1,v1)]) fun v11 => .op (.box 92 v11) fun v12 => .op
  (.build [.nils,.nils,(.int .u64 (.ofNat 0)),(.int .u64 (.ofNat 0))] []) fun v13 => .op (.box 95 v13) fun v14 => .op (.build [(.int .i64 (.ofNat 0)),(.int .u64 (.ofNat
  0)),.nils,(.int .u64 (.ofNat 0)),(.int .u64 (.ofNat 0)),(.int .u64 (.ofNat 0)),(.bool false)] [(0,1,(.int .i64 (.ofNat 8))),(1,1,v2)]) fun v15 => .op (.box 122 v15) fun v16 =>
  .op (.build [.nilp,.nilp,.nilp,(.int .i64 (.ofNat 0))] [(0,1,v12),(1,1,v14),(2,1,v16),(3,1,(.int .i64 (.ofNat 2)))]) fun v17 => .op (.box 79 v17) fun v18 => .op (.build
  [.nilp,.nilp,.nilp,(.int .i64 (.ofNat 0)),.nilp] [(0,4,v10),(4,1,v18)]) fun v19 => .op (.alloc [.nilp,.nilp,.nilp,(.int .i64 (.ofNat 0)),.nilp] 98) fun v20 => .op (.store 5 v20
  v19) fun _ => .op (.faddr 0 v20) fun v22 => .op (.faddr 1 v22) fun v23 => .op (.load false 1 v23) fun v24 => .callf (.i (.o (.o (.i (.o .h))))) [v24,(.str 1 [116])] fun _ => .op
  (.faddr 4 v20) fun v26 => .op (.load false 1 v26) fun v27 => .op (.nilck v27) fun v28 => .op (.faddr 1 v28) fun v29 => .op (.load false 1 v29) fun v30 => .callf (.o (.i (.o (.i
  (.o .h))))) [v30,(.str 1 [116])] fun _ => .op (.build [(.str 0 []),(.str 0 [])] [(0,1,(.str 3 [97,110,110])),(1,1,(.str 6 [112,101,110,99,105,108]))]) fun v32 => .op (.build
  [(.str 0 []),(.str 0 [])] [(0,1,(.str 3 [98,111,98])),(1,1,(.str 6 [115,101,99,114,101,116]))]) fun v33 => .op (.bslice 125 2 2 [(.str 0 []),(.str 0 [])] [(0,v32),(1,v33)]) fun
  v34 => .op (.len false v34) fun v35 => .setv (.i (.i (.o (.o (.i .h))))) (.int .i64 (.ofNat 0)) <| .seq (.block 0 (.seq (.loop (.getv (.i (.i (.o (.o (.i .h))))) fun v36 => .op
  (.bin .lss .no v36 v35) fun v37 => .seq (.cond v37 (.fall) ((.exit 0))) <| .seq (.block 1 (.op (.islc 2 v34 v36) fun v38 => .op (.load true 2 v38) fun v39 => .op (.alloc [(.str 0
  []),(.str 0 [])] 125) fun v40 => .op (.store 2 v40 v39) fun _ => .op (.faddr 0 v20) fun v42 => .op (.faddr 0 v42) fun v43 => .op (.load false 1 v43) fun v44 => .op (.iarr 2 1 v40
  (.int .i64 (.ofNat 0))) fun v45 => .op (.load false 1 v45) fun v46 => .op (.iarr 2 1 v40 (.int .i64 (.ofNat 1))) fun v47 => .op (.load false 1 v47) fun v48 => .op (.bslice 5 1 3
  [(.int .u8 (.ofNat 0))] [(0,(.int .u8 (.ofNat 1))),(1,(.int .u8 (.ofNat 2))),(2,(.int .u8 (.ofNat 3)))]) fun v49 => .callf (.i (.i (.o (.i (.o .h))))) [v44,(.str 1
  [116]),v46,v48,v49,(.int .i64 (.ofNat 2))] fun v50 => .op (.ext v50 0) fun v51 => .op (.ext v50 1) fun _ => .op (.alloc [.nils,(.int .i64 (.ofNat 0)),.nils,.nils,.nils] 45) fun
  v53 => .op (.store 5 v53 v51) fun _ => .op (.faddr 4 v20) fun v55 => .op (.load false 1 v55) fun v56 => .op (.nilck v56) fun v57 => .op (.faddr 0 v57) fun v58 => .op (.load false
  1 v58) fun v59 => .op (.iarr 2 1 v40 (.int .i64 (.ofNat 0))) fun v60 => .op (.load false 1 v60) fun v61 => .op (.iarr 2 1 v40 (.int .i64 (.ofNat 1))) fun v62 => .op (.load false
  1 v62) fun v63 => .op (.bslice 5 1 3 [(.int .u8 (.ofNat 0))] [(0,(.int .u8 (.ofNat 1))),(1,(.int .u8 (.ofNat 2))),(2,(.int .u8 (.ofNat 3)))]) fun v64 => .callf (.o (.o (.i (.i
  (.o .h))))) [v59,(.str 1 [116]),v61,v63,v64,(.int .i64 (.ofNat 2))] fun v65 => .op (.ext v65 0) fun v66 => .op (.ext v65 1) fun _ => .op (.alloc [.nils,(.int .i64 (.ofNat
  0)),.nils,.nils,.nils] 82) fun v68 => .op (.store 5 v68 v66) fun _ => .op (.faddr 0 v20) fun v70 => .op (.faddr 1 v70) fun v71 => .op (.load false 1 v71) fun v72 => .op (.iarr 2
  1 v40 (.int .i64 (.ofNat 0))) fun v73 => .op (.load false 1 v73) fun v74 => .op (.load true 5 v53) fun v75 => .callf (.i (.o (.i (.i (.o .h))))) [v72,(.str 1 [116]),v74,v75] fun
  _ => .op (.faddr 4 v20) fun v77 => .op (.load false 1 v77) fun v78 => .op (.nilck v78) fun v79 => .op (.faddr 1 v79) fun v80 => .op (.load false 1 v80) fun v81 => .op (.iarr 2 1
  v40 (.int .i64 (.ofNat 0))) fun v82 => .op (.load false 1 v82) fun v83 => .op (.load true 5 v68) fun v84 => .callf (.o (.i (.i (.i (.o .h))))) [v81,(.str 1 [116]),v83,v84] fun _
  => .fall)) <| .op (.bin .add .no v36 (.int .i64 (.ofNat 1))) fun v86 => .setv (.i (.i (.o (.o (.i .h))))) v86 <| .fall)) <| .fall)) <| .op (.load true 5 v20) fun v87 => .op
  (.store 5 v3 v87) fun _ => .ret) [.cell (.i (.o .h)) true 5]
theorem F27_ok : toFn Tryz.prog 27 [4,50] = some F27 := by kernel_rfl
def F28 : FnE := .body (.arg 0 fun v1 => .arg 1 fun v2 => .op (.box 27 v1) fun v3 => .setv (.i (.o .h)) .nilp <| .setv (.o (.i .h)) (.int .i64 (.ofNat 0)) <| .seq (.block 0 (.op (.faddr 0 v3) fun v4 =>
  .op (.load false 1 v4) fun v5 => .op (.bin .eql .ptr v5 .nilp) fun v6 => .gop v6 false (.faddr 1 v3) fun v7 => .gop v6 false (.load false 1 v7) fun v8 => .gop v6 false (.bin .eql
  .ptr v8 .nilp) fun v9 => .op (.pick v6 (.bool true) v9) fun v10 => .gop v10 false (.faddr 2 v3) fun v11 => .gop v10 false (.load false 1 v11) fun v12 => .gop v10 false (.bin .eql
  .ptr v12 .nilp) fun v13 => .op (.pick v10 (.bool true) v13) fun v14 => .seq (.cond v14 (.setv (.i (.o .h)) .nilp <| .setv (.o (.i .h)) (.int .i64 (.ofNat 6)) <| .ret) (.op
  (.faddr 3 v3) fun v15 => .op (.load false 1 v15) fun v16 => .op (.bin .lss .no v16 (.int .i64 (.ofNat 1))) fun v17 => .gop v17 false (.faddr 3 v3) fun v18 => .gop v17 false
  (.load false 1 v18) fun v19 => .gop v17 false (.bin .gtr .no v19 (.int .i64 (.ofNat 64))) fun v20 => .op (.pick v17 (.bool true) v20) fun v21 => .seq (.cond v21 (.setv (.i (.o
  .h)) .nilp <| .setv (.o (.i .h)) (.int .i64 (.ofNat 1)) <| .ret) (.fall)) <| .fall)) <| .fall)) <| .op (.load true 4 v3) fun v22 => .op (.build [.nilp,.nilp,.nilp,(.int .i64
  (.ofNat 0)),(.str 0 []),(.int .i64 (.ofNat 0)),(.str 0 []),(.str 0 []),(.str 0 []),(.str 0 []),.nils,(.str 0 []),(.str 0 []),(.str 0 []),(.str 0 []),(.str 0 []),(.str 0
  []),.nils,(.int .i64 (.ofNat 0)),.nils,.nils,.nils,(.int .u64 (.ofNat 0)),.nils,(.bool false),(.bool false),(.bool false)] [(0,4,v22),(4,1,v2)]) fun v23 => .op (.box 199 v23) fun
  v24 => .setv (.i (.o .h)) v24 <| .setv (.o (.i .h)) (.int .i64 (.ofNat 0)) <| .ret) [.tmp (.i (.o .h)),.tmp (.o (.i .h))]
theorem F28_ok : toFn Tryz.prog 28 [4,5] = some F28 := by kernel_rfl
def F29 : FnE := .body (.arg 0 fun v1 => .arg 1 fun v2 => .arg 2 fun v3 => .arg 3 fun v4 => .setv (.i (.o (.o .h))) (.str 0 []) <| .setv (.o (.i (.o .h))) (.int .i64 (.ofNat 0)) <| .seq (.block 0 (.op
  (.bin .eql .ptr v1 .nilp) fun v5 => .seq (.cond v5 (.setv (.i (.o (.o .h))) (.str 0 []) <| .setv (.o (.i (.o .h))) (.int .i64 (.ofNat 6)) <| .ret) (.op (.nilck v1) fun v6 => .op
  (.faddr 5 v6) fun v7 => .op (.load false 1 v7) fun v8 => .op (.bin .neq .no v8 (.int .i64 (.ofNat 0))) fun v9 => .seq (.cond v9 (.callf (.o (.o (.i (.o (.i (.o .h)))))) [v1,(.str
  13 [101,61,111,116,104,101,114,45,101,114,114,111,114]),(.int .i64 (.ofNat 14))] fun v10 => .op (.ext v10 0) fun v11 => .op (.ext v10 1) fun v12 => .setv (.i (.o (.o .h))) v11 <|
  .setv (.o (.i (.o .h))) v12 <| .ret) (.fall)) <| .fall)) <| .fall)) <| .callf (.i (.o (.i (.o (.i (.o .h)))))) [v2] fun v13 => .op (.ext v13 0) fun v14 => .op (.ext v13 1) fun
  v15 => .op (.alloc [(.str 0 []),(.str 0 []),(.str 0 []),(.str 0 []),.nils] 197) fun v16 => .op (.store 5 v16 v14) fun _ => .setv (.o (.o (.i .h))) v15 <| .op (.bin .eql .no v15
  (.int .i64 (.ofNat 0))) fun v18 => .gop v18 true (.faddr 3 v16) fun v19 => .gop v18 true (.load false 1 v19) fun v20 => .gop v18 true (.len true v20) fun v21 => .gop v18 true
  (.mv v3) fun v22 => .gop v18 true (.len true v22) fun v23 => .gop v18 true (.bin .add .no v21 v23) fun v24 => .gop v18 true (.bin .add .no v24 (.int .i64 (.ofNat 17))) fun v25 =>
  .gop v18 true (.bin .gtr .no v25 (.int .i64 (.ofNat 64))) fun v26 => .op (.pick v18 v26 (.bool false)) fun v27 => .seq (.cond v27 (.setv (.o (.o (.i .h))) (.int .i64 (.ofNat 3))
  <| .fall) (.fall)) <| .getv (.o (.o (.i .h))) fun v28 => .op (.bin .eql .no v28 (.int .i64 (.ofNat 0))) fun v29 => .seq (.cond v29 (.op (.nilck v1) fun v30 => .op (.faddr 0 v30)
  fun v31 => .op (.faddr 2 v31) fun v32 => .op (.load false 1 v32) fun v33 => .callf (.i (.i (.i (.i (.o .h))))) [v33,v3,v4] fun v34 => .op (.ext v34 0) fun v35 => .op (.ext v34 1)
  fun v36 => .op (.nilck v1) fun v37 => .op (.faddr 13 v37) fun v38 => .op (.store 1 v38 v35) fun _ => .setv (.o (.o (.i .h))) v36 <| .fall) (.fall)) <| .getv (.o (.o (.i .h))) fun
  v40 => .op (.bin .neq .no v40 (.int .i64 (.ofNat 0))) fun v41 => .seq (.cond v41 (.callf (.o (.o (.i (.o (.i (.o .h)))))) [v1,(.str 13
  [101,61,111,116,104,101,114,45,101,114,114,111,114]),v40] fun v42 => .op (.ext v42 0) fun v43 => .op (.ext v42 1) fun v44 => .setv (.i (.o (.o .h))) v43 <| .setv (.o (.i (.o
  .h))) v44 <| .ret) (.fall)) <| .op (.faddr 2 v16) fun v45 => .op (.load false 1 v45) fun v46 => .callf (.o (.i (.i (.o (.i (.o .h)))))) [v1,v46] fun _ => .op (.load true 5 v16)
  fun v48 => .op (.faddr 3 v16) fun v49 => .op (.load false 1 v49) fun v50 => .op (.nilck v1) fun v51 => .op (.faddr 13 v51) fun v52 => .op (.load false 1 v52) fun v53 => .op (.bin
  .add .no v50 v53) fun v54 => .op (.nilck v1) fun v55 => .op (.faddr 6 v55) fun v56 => .op (.store 5 v56 v48) fun _ => .chk false 1 v49 v50 <| .op (.nilck v1) fun v58 => .op
  (.faddr 14 v58) fun v59 => .op (.store 1 v59 v54) fun _ => .op (.load true 5 v16) fun v61 => .callf (.i (.i (.i (.o (.i (.o .h)))))) [v61] fun v62 => .op (.ext v62 0) fun v63 =>
  .op (.ext v62 1) fun _ => .op (.nilck v1) fun v65 => .op (.faddr 11 v65) fun v66 => .op (.store 1 v66 v63) fun _ => .op (.nilck v1) fun v68 => .op (.faddr 14 v68) fun v69 => .op
  (.load false 1 v69) fun v70 => .op (.nilck v1) fun v71 => .op (.faddr 15 v71) fun v72 => .op (.faddr 2 v72) fun v73 => .op (.faddr 0 v73) fun v74 => .op (.load false 1 v74) fun
  v75 => .op (.nilck v1) fun v76 => .op (.faddr 15 v76) fun v77 => .op (.faddr 2 v77) fun v78 => .op (.faddr 1 v78) fun v79 => .op (.load false 1 v79) fun v80 => .op (.build [(.str
  0 []),.nils,(.int .i64 (.ofNat 0)),.nils] [(0,1,v70),(1,1,v75),(2,1,v80)]) fun v81 => .callf (.o (.o (.o (.i (.i (.o .h)))))) [v81] fun v82 => .op (.ext v82 0) fun v83 => .op
  (.ext v82 1) fun v84 => .op (.nilck v1) fun v85 => .op (.faddr 12 v85) fun v86 => .op (.store 1 v86 v83) fun _ => .setv (.o (.o (.i .h))) v84 <| .op (.bin .neq .no v84 (.int .i64
  (.ofNat 0))) fun v88 => .seq (.cond v88 (.callf (.o (.o (.i (.o (.i (.o .h)))))) [v1,(.str 13 [101,61,111,116,104,101,114,45,101,114,114,111,114]),v84] fun v89 => .op (.ext v89
  0) fun v90 => .op (.ext v89 1) fun v91 => .setv (.i (.o (.o .h))) v90 <| .setv (.o (.i (.o .h))) v91 <| .ret) (.fall)) <| .op (.nilck v1) fun v92 => .op (.faddr 5 v92) fun v93 =>
  .op (.store 1 v93 (.int .i64 (.ofNat 1))) fun _ => .op (.nilck v1) fun v95 => .op (.faddr 12 v95) fun v96 => .op (.load false 1 v96) fun v97 => .setv (.i (.o (.o .h))) v97 <|
  .setv (.o (.i (.o .h))) (.int .i64 (.ofNat 0)) <| .ret) [.tmp (.i (.o (.o .h))),.tmp (.o (.i (.o .h)))]
theorem F29_ok : toFn Tryz.prog 29 [8,9,11] = some F29 := by kernel_rfl
def F30 : FnE := .body (.arg 0 fun v1 => .arg 1 fun v2 => .arg 2 fun v3 => .setv (.i (.i .h)) (.str 0 []) <| .setv (.o (.o (.o .h))) (.int .i64 (.ofNat 0)) <| .seq (.block 0 (.op (.bin .eql .ptr v1 .nilp)
  fun v4 => .seq (.cond v4 (.setv (.i (.i .h)) (.str 0 []) <| .setv (.o (.o (.o .h))) (.int .i64 (.ofNat 6)) <| .ret) (.op (.nilck v1) fun v5 => .op (.faddr 5 v5) fun v6 => .op
  (.load false 1 v6) fun v7 => .op (.bin .neq .no v7 (.int .i64 (.ofNat 1))) fun v8 => .seq (.cond v8 (.callf (.o (.o (.i (.o (.i (.o .h)))))) [v1,(.str 13
  [101,61,111,116,104,101,114,45,101,114,114,111,114]),(.int .i64 (.ofNat 14))] fun v9 => .op (.ext v9 0) fun v10 => .op (.ext v9 1) fun v11 => .setv (.i (.i .h)) v10 <| .setv (.o
  (.o (.o .h))) v11 <| .ret) (.fall)) <| .fall)) <| .fall)) <| .callf (.i (.o (.o (.i (.i (.o .h)))))) [v2] fun v12 => .op (.ext v12 0) fun v13 => .op (.ext v12 1) fun v14 => .op
  (.alloc [(.str 0 []),(.str 0 []),.nils,.nils] 207) fun v15 => .op (.store 4 v15 v13) fun _ => .op (.bin .neq .no v14 (.int .i64 (.ofNat 0))) fun v17 => .seq (.cond v17 (.callf
  (.o (.o (.i (.o (.i (.o .h)))))) [v1,(.str 13 [101,61,111,116,104,101,114,45,101,114,114,111,114]),v14] fun v18 => .op (.ext v18 0) fun v19 => .op (.ext v18 1) fun v20 => .setv
  (.i (.i .h)) v19 <| .setv (.o (.o (.o .h))) v20 <| .ret) (.fall)) <| .op (.load true 4 v15) fun v21 => .callf (.o (.i (.o (.i (.i (.o .h)))))) [v1,v21,v3] fun v22 => .op (.bin
  .neq .no v22 (.int .i64 (.ofNat 0))) fun v23 => .seq (.cond v23 (.callf (.o (.o (.i (.o (.i (.o .h)))))) [v1,(.str 15
  [101,61,105,110,118,97,108,105,100,45,112,114,111,111,102]),v22] fun v24 => .op (.ext v24 0) fun v25 => .op (.ext v24 1) fun v26 => .setv (.i (.i .h)) v25 <| .setv (.o (.o (.o
  .h))) v26 <| .ret) (.fall)) <| .op (.load true 4 v15) fun v27 => .callf (.i (.i (.o (.i (.i (.o .h)))))) [v27] fun v28 => .op (.ext v28 0) fun v29 => .op (.ext v28 1) fun _ =>
  .op (.nilck v1) fun v31 => .op (.faddr 0 v31) fun v32 => .op (.faddr 0 v32) fun v33 => .op (.load false 1 v33) fun v34 => .op (.nilck v1) fun v35 => .op (.faddr 15 v35) fun v36
  => .op (.faddr 2 v36) fun v37 => .op (.load true 5 v37) fun v38 => .op (.nilck v1) fun v39 => .op (.faddr 11 v39) fun v40 => .op (.load false 1 v40) fun v41 => .op (.nilck v1)
  fun v42 => .op (.faddr 12 v42) fun v43 => .op (.load false 1 v43) fun v44 => .callf (.i (.o (.i (.i (.i (.o .h)))))) [v41,v44,v29] fun v45 => .chk false 1 v33 v34 <| .chk true 5
  v37 v38 <| .callf (.o (.o (.i (.i (.i (.o .h)))))) [v34,v38,v45] fun v46 => .op (.build [.nils,(.str 0 []),.nils] [(0,1,v46)]) fun v47 => .callf (.o (.i (.i (.i (.i (.o .h))))))
  [v47] fun v48 => .op (.ext v48 0) fun v49 => .op (.ext v48 1) fun v50 => .op (.bin .neq .no v50 (.int .i64 (.ofNat 0))) fun v51 => .seq (.cond v51 (.callf (.o (.o (.i (.o (.i (.o
  .h)))))) [v1,(.str 13 [101,61,111,116,104,101,114,45,101,114,114,111,114]),v50] fun v52 => .op (.ext v52 0) fun v53 => .op (.ext v52 1) fun v54 => .setv (.i (.i .h)) v53 <| .setv
  (.o (.o (.o .h))) v54 <| .ret) (.fall)) <| .op (.nilck v1) fun v55 => .op (.faddr 5 v55) fun v56 => .op (.store 1 v56 (.int .i64 (.ofNat 2))) fun _ => .setv (.i (.i .h)) v49 <|
  .setv (.o (.o (.o .h))) (.int .i64 (.ofNat 0)) <| .ret) [.tmp (.i (.i .h)),.tmp (.o (.o (.o .h)))]
theorem F30_ok : toFn Tryz.prog 30 [6,7] = some F30 := by kernel_rfl
def F31 : FnE := .body (.arg 0 fun v1 => .arg 1 fun v2 => .arg 2 fun v3 => .arg 3 fun v4 => .arg 4 fun v5 => .op (.box 98 v1) fun v6 => .setv (.i (.i (.o .h))) (.str 0 []) <| .callf (.i (.i (.i (.i (.i
  (.o .h)))))) [v3] fun v7 => .op (.ext v7 0) fun v8 => .op (.ext v7 1) fun v9 => .op (.alloc [(.int .i64 (.ofNat 0)),(.str 0 []),(.str 0 []),(.str 0 []),(.str 0
  []),.nils,.nils,(.int .i64 (.ofNat 0)),(.str 0 []),.nils,(.str 0 [])] 216) fun v10 => .op (.store 11 v10 v8) fun _ => .callf (.o (.o (.o (.o (.o (.i .h)))))) [v4] fun v12 => .op
  (.ext v12 0) fun v13 => .op (.ext v12 1) fun v14 => .op (.alloc [(.int .i64 (.ofNat 0)),(.str 0 []),(.str 0 []),(.str 0 []),(.str 0 []),.nils,.nils,(.int .i64 (.ofNat 0)),(.str 0
  []),.nils,(.str 0 [])] 216) fun v15 => .op (.store 11 v15 v13) fun _ => .op (.bin .neq .no v9 (.int .i64 (.ofNat 0))) fun v17 => .gop v17 false (.mv v14) fun v18 => .gop v17
  false (.bin .neq .no v18 (.int .i64 (.ofNat 0))) fun v19 => .op (.pick v17 (.bool true) v19) fun v20 => .seq (.cond v20 (.setv (.i (.i (.o .h))) (.str 13
  [99,61,98,105,119,115,44,114,61,120,44,112,61]) <| .ret) (.fall)) <| .op (.load true 11 v10) fun v21 => .op (.faddr 4 v15) fun v22 => .op (.load false 1 v22) fun v23 => .callf
  (.i (.o (.o (.o (.o (.i .h)))))) [v21] fun v24 => .chk false 1 v22 v23 <| .op (.mkslice 5 1 1 [(.int .u8 (.ofNat 0))] (.int .i64 (.ofNat 32)) (.int .i64 (.ofNat 32))) fun v25 =>
  .op (.build [(.int .i64 (.ofNat 0)),(.str 0 []),(.str 0 []),(.str 0 []),(.str 0 []),.nils,.nils,(.int .i64 (.ofNat 0)),(.str 0 []),.nils,(.str 0 [])] [(0,1,(.int .i64 (.ofNat
  3))),(8,1,v24),(4,1,v23),(9,1,v25)]) fun v26 => .op (.alloc [(.int .i64 (.ofNat 0)),(.str 0 []),(.str 0 []),(.str 0 []),(.str 0 []),.nils,.nils,(.int .i64 (.ofNat 0)),(.str 0
  []),.nils,(.str 0 [])] 216) fun v27 => .op (.store 11 v27 v26) fun _ => .op (.load true 11 v10) fun v29 => .op (.load true 11 v27) fun v30 => .callf (.o (.i (.o (.o (.o (.i
  .h)))))) [v29] fun v31 => .chk true 11 v27 v30 <| .op (.bin .add .no v31 (.str 1 [44])) fun v32 => .op (.bin .add .no v32 v4) fun v33 => .op (.bin .add .no v33 (.str 1 [44])) fun
  v34 => .callf (.o (.i (.o (.o (.o (.i .h)))))) [v30] fun v35 => .op (.bin .add .no v34 v35) fun v36 => .op (.faddr 4 v6) fun v37 => .op (.load false 1 v37) fun v38 => .op (.nilck
  v38) fun v39 => .op (.faddr 0 v39) fun v40 => .op (.load false 1 v40) fun v41 => .op (.faddr 6 v15) fun v42 => .op (.load false 1 v42) fun v43 => .op (.faddr 7 v15) fun v44 =>
  .op (.load false 1 v44) fun v45 => .callf (.i (.i (.o (.o (.o (.i .h)))))) [v41,v2,v43,v45,v36] fun v46 => .op (.ext v46 0) fun v47 => .op (.ext v46 1) fun _ => .op (.ext v46 2)
  fun v49 => .op (.faddr 0 v6) fun v50 => .op (.faddr 0 v50) fun v51 => .op (.load false 1 v51) fun v52 => .op (.faddr 6 v15) fun v53 => .op (.load false 1 v53) fun v54 => .op
  (.faddr 7 v15) fun v55 => .op (.load false 1 v55) fun v56 => .callf (.o (.o (.i (.o (.o (.i .h)))))) [v52,v2,v54,v56,v36] fun _ => .op (.bin .eql .no v49 (.int .i64 (.ofNat 0)))
  fun v58 => .seq (.cond v58 (.op (.faddr 9 v27) fun v59 => .op (.store 1 v59 v47) fun _ => .fall) (.fall)) <| .op (.bin .rem .no v5 (.int .u8 (.ofNat 16))) fun v61 => .seq (.block
  0 (.op (.bin .eql .no v61 (.int .u8 (.ofNat 1))) fun v62 => .seq (.cond v62 (.op (.faddr 8 v27) fun v63 => .op (.store 1 v63 (.str 3 [121,44,44])) fun _ => .fall) (.op (.bin .eql
  .no v61 (.int .u8 (.ofNat 2))) fun v65 => .seq (.cond v65 (.op (.faddr 4 v10) fun v66 => .op (.load false 1 v66) fun v67 => .op (.faddr 4 v27) fun v68 => .op (.store 1 v68 v67)
  fun _ => .fall) (.op (.bin .eql .no v61 (.int .u8 (.ofNat 3))) fun v70 => .seq (.cond v70 (.op (.mkslice 5 1 1 [(.int .u8 (.ofNat 0))] (.int .i64 (.ofNat 32)) (.int .i64 (.ofNat
  32))) fun v71 => .op (.faddr 9 v27) fun v72 => .op (.store 1 v72 v71) fun _ => .fall) (.fall)) <| .fall)) <| .fall)) <| .fall)) <| .op (.load true 11 v27) fun v74 => .callf (.i
  (.o (.i (.o (.o (.i .h)))))) [v74] fun v75 => .op (.ext v75 0) fun v76 => .op (.ext v75 1) fun _ => .setv (.i (.i (.o .h))) v76 <| .ret) [.tmp (.i (.i (.o .h)))]
theorem F31_ok : toFn Tryz.prog 31 [10] = some F31 := by kernel_rfl
def F32 : FnE := .body (.arg 0 fun v1 => .op (.alloc [(.str 0 []),(.str 0 []),.nils,(.int .i64 (.ofNat 0)),.nils,.nils,.nils,(.int .u64 (.ofNat 0)),.nils,(.bool false)] 48) fun v2 => .setv (.i .h) v2 <|
  .setv (.o (.o .h)) (.str 0 []) <| .setv (.i (.o .h)) (.bool false) <| .callf (.i (.i (.o (.o (.i (.o .h)))))) [v1] fun v3 => .op (.bin .neq .no v3 (.int .i64 (.ofNat 2))) fun v4
  => .seq (.cond v4 (.op (.build [(.str 0 []),(.str 0 []),.nils,(.int .i64 (.ofNat 0)),.nils,.nils,.nils,(.int .u64 (.ofNat 0)),.nils,(.bool false)] []) fun v5 => .op (.store 10 v2
  v5) fun _ => .setv (.o (.o .h)) (.str 0 []) <| .setv (.i (.o .h)) (.bool false) <| .ret) (.fall)) <| .op (.nilck v1) fun v7 => .op (.faddr 15 v7) fun v8 => .op (.load true 10 v8)
  fun v9 => .op (.nilck v1) fun v10 => .op (.faddr 6 v10) fun v11 => .op (.faddr 1 v11) fun v12 => .op (.load false 1 v12) fun v13 => .callf (.o (.i (.i (.o (.o (.i .h)))))) [v9]
  fun v14 => .chk false 1 v12 v13 <| .op (.store 10 v2 v14) fun _ => .chk false 1 v12 v13 <| .setv (.o (.o .h)) v13 <| .setv (.i (.o .h)) (.bool true) <| .ret) [.cell (.i .h) true 10,.tmp (.o (.o .h)),.tmp (.i (.o .h))]
theorem F32_ok : toFn Tryz.prog 32 [2,3,4] = some F32 := by kernel_rfl
def F33 : FnE := .body (.arg 0 fun v1 => .op (.box 48 v1) fun v2 => .op (.alloc [(.str 0 []),(.str 0 []),.nils,(.int .i64 (.ofNat 0)),.nils,.nils,.nils,(.int .u64 (.ofNat 0)),.nils,(.bool false)] 48) fun
  v3 => .setv (.i .h) v3 <| .op (.faddr 2 v2) fun v4 => .op (.bslice 5 1 0 [(.int .u8 (.ofNat 0))] []) fun v5 => .op (.nilck v4) fun v6 => .op (.faddr 0 v6) fun v7 => .op (.load
  false 1 v7) fun v8 => .op (.nilck v4) fun v9 => .op (.faddr 2 v9) fun v10 => .op (.load false 1 v10) fun v11 => .op (.nilck v4) fun v12 => .op (.faddr 3 v12) fun v13 => .op
  (.load false 1 v13) fun v14 => .op (.nilck v4) fun v15 => .op (.faddr 4 v15) fun v16 => .op (.load false 1 v16) fun v17 => .op (.app 5 1 1 v5 v8) fun v18 => .chk false 1 v10 v11
  <| .chk false 1 v13 v14 <| .chk false 1 v16 v17 <| .op (.bslice 5 1 0 [(.int .u8 (.ofNat 0))] []) fun v19 => .op (.app 5 1 1 v19 v11) fun v20 => .chk false 1 v13 v14 <| .chk
  false 1 v16 v17 <| .op (.bslice 5 1 0 [(.int .u8 (.ofNat 0))] []) fun v21 => .op (.app 5 1 1 v21 v14) fun v22 => .chk false 1 v16 v17 <| .op (.bslice 5 1 0 [(.int .u8 (.ofNat
  0))] []) fun v23 => .op (.app 5 1 1 v23 v17) fun v24 => .op (.nilck v4) fun v25 => .op (.faddr 0 v25) fun v26 => .op (.store 1 v26 v18) fun _ => .op (.nilck v4) fun v28 => .op
  (.faddr 2 v28) fun v29 => .op (.store 1 v29 v20) fun _ => .op (.nilck v4) fun v31 => .op (.faddr 3 v31) fun v32 => .op (.store 1 v32 v22) fun _ => .op (.nilck v4) fun v34 => .op
  (.faddr 4 v34) fun v35 => .op (.store 1 v35 v24) fun _ => .op (.bslice 9 1 0 [(.str 0 [])] []) fun v37 => .op (.faddr 8 v2) fun v38 => .op (.load false 1 v38) fun v39 => .op
  (.app 9 1 16 v37 v39) fun v40 => .op (.faddr 8 v2) fun v41 => .op (.store 1 v41 v40) fun _ => .op (.load true 10 v2) fun v43 => .op (.store 10 v3 v43) fun _ => .ret) [.cell (.i .h) true 10]
theorem F33_ok : toFn Tryz.prog 33 [2] = some F33 := by kernel_rfl
def F34 : FnE := .body (.arg 0 fun v1 => .op (.box 48 v1) fun v2 => .op (.faddr 2 v2) fun v3 => .op (.faddr 0 v3) fun v4 => .op (.load false 1 v4) fun v5 => .op (.faddr 2 v2) fun v6 => .op (.faddr 2 v6)
  fun v7 => .op (.load false 1 v7) fun v8 => .op (.faddr 2 v2) fun v9 => .op (.faddr 3 v9) fun v10 => .op (.load false 1 v10) fun v11 => .op (.faddr 2 v2) fun v12 => .op (.faddr 4
  v12) fun v13 => .op (.load false 1 v13) fun v14 => .op (.bslice 43 1 4 [.nils] [(0,v5),(1,v8),(2,v11),(3,v14)]) fun v15 => .op (.len false v15) fun v16 => .setv (.i (.i (.o (.o
  .h)))) (.int .i64 (.ofNat 0)) <| .seq (.block 0 (.seq (.loop (.getv (.i (.i (.o (.o .h)))) fun v17 => .op (.bin .lss .no v17 v16) fun v18 => .seq (.cond v18 (.fall) ((.exit 0)))
  <| .seq (.block 1 (.op (.islc 1 v15 v17) fun v19 => .op (.load false 1 v19) fun v20 => .op (.clr 1 [(.int .u8 (.ofNat 0))] v20) fun _ => .fall)) <| .op (.bin .add .no v17 (.int
  .i64 (.ofNat 1))) fun v22 => .setv (.i (.i (.o (.o .h)))) v22 <| .fall)) <| .fall)) <| .op (.faddr 8 v2) fun v23 => .op (.load false 1 v23) fun v24 => .op (.clr 1 [(.str 0 [])]
  v24) fun _ => .fall) []
theorem F34_ok : toFn Tryz.prog 34 [18] = some F34 := by kernel_rfl
def F35 : FnE := .body (.arg 0 fun v1 => .arg 1 fun v2 => .arg 2 fun v3 => .op (.alloc [(.str 0 []),(.str 0 []),.nils,(.int .i64 (.ofNat 0)),.nils,.nils,.nils,(.int .u64 (.ofNat 0)),.nils,(.bool false)]
  48) fun v4 => .setv (.i (.i .h)) v4 <| .setv (.o (.o (.o .h))) (.bool false) <| .op (.bin .eql .ptr v1 .nilp) fun v5 => .seq (.cond v5 (.op (.build [(.str 0 []),(.str 0
  []),.nils,(.int .i64 (.ofNat 0)),.nils,.nils,.nils,(.int .u64 (.ofNat 0)),.nils,(.bool false)] []) fun v6 => .op (.store 10 v4 v6) fun _ => .setv (.o (.o (.o .h))) (.bool false)
  <| .ret) (.fall)) <| .op (.nilck v1) fun v8 => .op (.faddr 2 v8) fun v9 => .op (.load false 1 v9) fun v10 => .op (.bin .add .no v10 (.int .u64 (.ofNat 1))) fun v11 => .op (.nilck
  v1) fun v12 => .op (.faddr 2 v12) fun v13 => .op (.store 1 v13 v11) fun _ => .callf (.o (.i (.i (.o (.o (.o .h)))))) [v1,v2,v3] fun v15 => .op (.bin .eql .ptr v15 .nilp) fun v16
  => .seq (.cond v16 (.op (.build [(.str 0 []),(.str 0 []),.nils,(.int .i64 (.ofNat 0)),.nils,.nils,.nils,(.int .u64 (.ofNat 0)),.nils,(.bool false)] []) fun v17 => .op (.store 10
  v4 v17) fun _ => .setv (.o (.o (.o .h))) (.bool false) <| .ret) (.fall)) <| .op (.nilck v15) fun v19 => .op (.load true 10 v19) fun v20 => .callf (.i (.i (.i (.o (.o (.i .h))))))
  [v20] fun v21 => .op (.store 10 v4 v21) fun _ => .setv (.o (.o (.o .h))) (.bool true) <| .ret) [.cell (.i (.i .h)) true 10,.tmp (.o (.o (.o .h)))]
theorem F35_ok : toFn Tryz.prog 35 [6,7] = some F35 := by kernel_rfl
def F36 : FnE := .body (.arg 0 fun v1 => .arg 1 fun v2 => .op (.box 48 v1) fun v3 => .op (.box 48 v2) fun v4 => .setv (.i (.o .h)) (.bool false) <| .op (.faddr 2 v3) fun v5 => .op (.load true 5 v5) fun v6
  => .op (.faddr 2 v4) fun v7 => .op (.load true 5 v7) fun v8 => .op (.alloc [.nils,(.int .i64 (.ofNat 0)),.nils,.nils,.nils] 45) fun v9 => .op (.alloc [.nils,(.int .i64 (.ofNat
  0)),.nils,.nils,.nils] 45) fun v10 => .op (.store 5 v9 v6) fun _ => .chk true 5 v7 v8 <| .op (.store 5 v10 v8) fun _ => .op (.faddr 0 v3) fun v13 => .op (.load false 1 v13) fun
  v14 => .op (.faddr 0 v4) fun v15 => .op (.load false 1 v15) fun v16 => .op (.bin .neq .no v14 v16) fun v17 => .gop v17 false (.faddr 1 v3) fun v18 => .gop v17 false (.load false
  1 v18) fun v19 => .gop v17 false (.faddr 1 v4) fun v20 => .gop v17 false (.load false 1 v20) fun v21 => .gop v17 false (.bin .neq .no v19 v21) fun v22 => .op (.pick v17 (.bool
  true) v22) fun v23 => .gop v23 false (.faddr 7 v3) fun v24 => .gop v23 false (.load false 1 v24) fun v25 => .gop v23 false (.faddr 7 v4) fun v26 => .gop v23 false (.load false 1
  v26) fun v27 => .gop v23 false (.bin .neq .no v25 v27) fun v28 => .op (.pick v23 (.bool true) v28) fun v29 => .gop v29 false (.faddr 9 v3) fun v30 => .gop v29 false (.load false
  1 v30) fun v31 => .gop v29 false (.faddr 9 v4) fun v32 => .gop v29 false (.load false 1 v32) fun v33 => .gop v29 false (.bin .neq .basic v31 v33) fun v34 => .op (.pick v29 (.bool
  true) v34) fun v35 => .gop v35 false (.faddr 1 v9) fun v36 => .gop v35 false (.load false 1 v36) fun v37 => .gop v35 false (.faddr 1 v10) fun v38 => .gop v35 false (.load false 1
  v38) fun v39 => .gop v35 false (.bin .neq .no v37 v39) fun v40 => .op (.pick v35 (.bool true) v40) fun v41 => .gop v41 false (.faddr 8 v3) fun v42 => .gop v41 false (.load false
  1 v42) fun v43 => .gop v41 false (.len false v43) fun v44 => .gop v41 false (.faddr 8 v4) fun v45 => .gop v41 false (.load false 1 v45) fun v46 => .gop v41 false (.len false v46)
  fun v47 => .gop v41 false (.bin .neq .no v44 v47) fun v48 => .op (.pick v41 (.bool true) v48) fun v49 => .seq (.cond v49 (.setv (.i (.o .h)) (.bool false) <| .ret) (.fall)) <|
  .op (.faddr 8 v3) fun v50 => .op (.load false 1 v50) fun v51 => .op (.len false v51) fun v52 => .setv (.i (.i (.o (.i (.i .h))))) (.int .i64 (.ofNat 0)) <| .seq (.block 0 (.seq
  (.loop (.getv (.i (.i (.o (.i (.i .h))))) fun v53 => .op (.bin .lss .no v53 v52) fun v54 => .seq (.cond v54 (.fall) ((.exit 0))) <| .seq (.block 1 (.op (.islc 1 v51 v53) fun v55
  => .op (.load false 1 v55) fun v56 => .op (.faddr 8 v4) fun v57 => .op (.load false 1 v57) fun v58 => .op (.islc 1 v58 v53) fun v59 => .op (.load false 1 v59) fun v60 => .op
  (.bin .neq .no v60 v56) fun v61 => .seq (.cond v61 (.setv (.i (.o .h)) (.bool false) <| .ret) (.fall)) <| .fall)) <| .op (.bin .add .no v53 (.int .i64 (.ofNat 1))) fun v62 =>
  .setv (.i (.i (.o (.i (.i .h))))) v62 <| .fall)) <| .fall)) <| .op (.faddr 0 v9) fun v63 => .op (.load false 1 v63) fun v64 => .op (.b2s v64) fun v65 => .op (.faddr 0 v10) fun
  v66 => .op (.load false 1 v66) fun v67 => .op (.b2s v67) fun v68 => .op (.bin .eql .no v65 v68) fun v69 => .gop v69 true (.faddr 2 v9) fun v70 => .gop v69 true (.load false 1
  v70) fun v71 => .gop v69 true (.b2s v71) fun v72 => .gop v69 true (.faddr 2 v10) fun v73 => .gop v69 true (.load false 1 v73) fun v74 => .gop v69 true (.b2s v74) fun v75 => .gop
  v69 true (.bin .eql .no v72 v75) fun v76 => .op (.pick v69 v76 (.bool false)) fun v77 => .gop v77 true (.faddr 3 v9) fun v78 => .gop v77 true (.load false 1 v78) fun v79 => .gop
  v77 true (.b2s v79) fun v80 => .gop v77 true (.faddr 3 v10) fun v81 => .gop v77 true (.load false 1 v81) fun v82 => .gop v77 true (.b2s v82) fun v83 => .gop v77 true (.bin .eql
  .no v80 v83) fun v84 => .op (.pick v77 v84 (.bool false)) fun v85 => .gop v85 true (.faddr 4 v9) fun v86 => .gop v85 true (.load false 1 v86) fun v87 => .gop v85 true (.b2s v87)
  fun v88 => .gop v85 true (.faddr 4 v10) fun v89 => .gop v85 true (.load false 1 v89) fun v90 => .gop v85 true (.b2s v90) fun v91 => .gop v85 true (.bin .eql .no v88 v91) fun v92
  => .op (.pick v85 v92 (.bool false)) fun v93 => .setv (.i (.o .h)) v93 <| .ret) [.tmp (.i (.o .h))]
theorem F36_ok : toFn Tryz.prog 36 [4,58] = some F36 := by kernel_rfl
def F37 : FnE := .body (.arg 0 fun v1 => .op (.box 117 v1) fun v2 => .setv (.i .h) .nilp <| .setv (.o (.o .h)) (.int .i64 (.ofNat 0)) <| .op (.faddr 0 v2) fun v3 => .op (.load false 1 v3) fun v4 => .op
  (.bin .lss .no v4 (.int .i64 (.ofNat 1))) fun v5 => .gop v5 false (.faddr 0 v2) fun v6 => .gop v5 false (.load false 1 v6) fun v7 => .gop v5 false (.bin .gtr .no v7 (.int .i64
  (.ofNat 64))) fun v8 => .op (.pick v5 (.bool true) v8) fun v9 => .gop v9 false (.faddr 1 v2) fun v10 => .gop v9 false (.load false 1 v10) fun v11 => .gop v9 false (.bin .lss .no
  v11 (.int .u64 (.ofNat 1))) fun v12 => .op (.pick v9 (.bool true) v12) fun v13 => .gop v13 false (.faddr 1 v2) fun v14 => .gop v13 false (.load false 1 v14) fun v15 => .gop v13
  false (.bin .gtr .no v15 (.int .u64 (.ofNat 1099511627776))) fun v16 => .op (.pick v13 (.bool true) v16) fun v17 => .seq (.cond v17 (.setv (.i .h) .nilp <| .setv (.o (.o .h))
  (.int .i64 (.ofNat 1)) <| .ret) (.fall)) <| .op (.faddr 0 v2) fun v18 => .op (.load false 1 v18) fun v19 => .callf (.o (.o (.o (.i (.o (.i .h)))))) [v19] fun v20 => .op (.ext v20
  0) fun v21 => .op (.ext v20 1) fun v22 => .op (.bin .neq .no v22 (.int .i64 (.ofNat 0))) fun v23 => .seq (.cond v23 (.setv (.i .h) .nilp <| .setv (.o (.o .h)) v22 <| .ret)
  (.fall)) <| .op (.load true 2 v2) fun v24 => .op (.build [(.int .i64 (.ofNat 0)),(.int .u64 (.ofNat 0)),.nilp,(.int .u64 (.ofNat 0)),(.int .u64 (.ofNat 0)),(.int .u64 (.ofNat
  0)),(.bool false)] [(0,2,v24),(2,1,v21)]) fun v25 => .op (.box 180 v25) fun v26 => .setv (.i .h) v26 <| .setv (.o (.o .h)) (.int .i64 (.ofNat 0)) <| .ret) [.tmp (.i .h),.tmp (.o (.o .h))]
theorem F37_ok : toFn Tryz.prog 37 [2,3] = some F37 := by kernel_rfl
def F38 : FnE := .body (.arg 0 fun v1 => .setv (.i .h) .nilp <| .op (.mkmap) fun v2 => .op (.build [(.bool false),(.bool false),.nils,.nilm] [(0,1,v1),(3,1,v2)]) fun v3 => .op (.box 194 v3) fun v4 =>
  .setv (.i .h) v4 <| .ret) [.tmp (.i .h)]
theorem F38_ok : toFn Tryz.prog 38 [2] = some F38 := by kernel_rfl
def F39 : FnE := .body (.setv .h .nilp <| .op (.mkmap) fun v1 => .op (.build [.nilm,(.int .u64 (.ofNat 0)),(.int .u64 (.ofNat 0))] [(0,1,v1)]) fun v2 => .op (.box 170 v2) fun v3 => .setv .h v3 <| .ret) [.tmp .h]
theorem F39_ok : toFn Tryz.prog 39 [0] = some F39 := by kernel_rfl
def F40 : FnE := .body (.arg 0 fun v1 => .arg 1 fun v2 => .setv (.i (.o .h)) (.int .i64 (.ofNat 0)) <| .seq (.block 0 (.op (.bin .eql .ptr v1 .nilp) fun v3 => .seq (.cond v3 (.setv (.i (.o .h)) (.int .i64
  (.ofNat 6)) <| .ret) (.callf (.o (.o (.i (.o (.o (.o .h)))))) [v2] fun v4 => .op (.un .not v4) fun v5 => .seq (.cond v5 (.setv (.i (.o .h)) (.int .i64 (.ofNat 5)) <| .ret)
  (.callf (.i (.o (.o (.i (.o (.i .h)))))) [v1,v2] fun v6 => .op (.bin .neq .mp v6 .nilm) fun v7 => .seq (.cond v7 (.setv (.i (.o .h)) (.int .i64 (.ofNat 7)) <| .ret) (.op (.nilck
  v1) fun v8 => .op (.faddr 0 v8) fun v9 => .op (.load false 1 v9) fun v10 => .op (.lenm v10) fun v11 => .op (.bin .geq .no v11 (.int .i64 (.ofNat 8))) fun v12 => .seq (.cond v12
  (.setv (.i (.o .h)) (.int .i64 (.ofNat 8)) <| .ret) (.fall)) <| .fall)) <| .fall)) <| .fall)) <| .fall)) <| .op (.nilck v1) fun v13 => .op (.faddr 0 v13) fun v14 => .op (.load
  false 1 v14) fun v15 => .op (.mkmap) fun v16 => .op (.mapup true v15 v2 v16) fun _ => .setv (.i (.o .h)) (.int .i64 (.ofNat 0)) <| .ret) [.tmp (.i (.o .h))]
theorem F40_ok : toFn Tryz.prog 40 [4] = some F40 := by kernel_rfl
def F41 : FnE := .body (.arg 0 fun v1 => .arg 1 fun v2 => .setv (.i (.o .h)) (.int .i64 (.ofNat 0)) <| .seq (.block 0 (.op (.bin .eql .ptr v1 .nilp) fun v3 => .seq (.cond v3 (.setv (.i (.o .h)) (.int .i64
  (.ofNat 6)) <| .ret) (.callf (.o (.i (.o (.i (.o (.i .h)))))) [v2] fun v4 => .op (.un .not v4) fun v5 => .seq (.cond v5 (.setv (.i (.o .h)) (.int .i64 (.ofNat 5)) <| .ret) (.op
  (.nilck v1) fun v6 => .op (.faddr 0 v6) fun v7 => .op (.load false 1 v7) fun v8 => .callf (.i (.i (.o (.i (.o (.i .h)))))) [v8,v2] fun v9 => .seq (.cond v9 (.setv (.i (.o .h))
  (.int .i64 (.ofNat 7)) <| .ret) (.op (.nilck v1) fun v10 => .op (.faddr 0 v10) fun v11 => .op (.load false 1 v11) fun v12 => .op (.len false v12) fun v13 => .op (.bin .geq .no
  v13 (.int .i64 (.ofNat 8))) fun v14 => .seq (.cond v14 (.setv (.i (.o .h)) (.int .i64 (.ofNat 8)) <| .ret) (.fall)) <| .fall)) <| .fall)) <| .fall)) <| .fall)) <| .op (.nilck v1)
  fun v15 => .op (.faddr 0 v15) fun v16 => .op (.load false 1 v16) fun v17 => .callf (.o (.o (.i (.i (.o (.i .h)))))) [v17,v2] fun v18 => .op (.nilck v1) fun v19 => .op (.faddr 0
  v19) fun v20 => .op (.store 1 v20 v18) fun _ => .setv (.i (.o .h)) (.int .i64 (.ofNat 0)) <| .ret) [.tmp (.i (.o .h))]
theorem F41_ok : toFn Tryz.prog 41 [4] = some F41 := by kernel_rfl
def F42 : FnE := .body (.arg 0 fun v1 => .arg 1 fun v2 => .arg 2 fun v3 => .arg 3 fun v4 => .arg 4 fun v5 => .arg 5 fun v6 => .op (.alloc [.nils,(.int .i64 (.ofNat 0)),.nils,.nils,.nils] 45) fun v7 =>
  .setv (.i (.o (.i .h))) v7 <| .setv (.o (.i (.i .h))) (.int .i64 (.ofNat 0)) <| .op (.bin .eql .ptr v1 .nilp) fun v8 => .seq (.cond v8 (.op (.build [.nils,(.int .i64 (.ofNat
  0)),.nils,.nils,.nils] []) fun v9 => .op (.store 5 v7 v9) fun _ => .setv (.o (.i (.i .h))) (.int .i64 (.ofNat 6)) <| .ret) (.fall)) <| .callf (.o (.o (.i (.o (.o (.o .h))))))
  [v2] fun v11 => .op (.un .not v11) fun v12 => .seq (.cond v12 (.op (.build [.nils,(.int .i64 (.ofNat 0)),.nils,.nils,.nils] []) fun v13 => .op (.store 5 v7 v13) fun _ => .setv
  (.o (.i (.i .h))) (.int .i64 (.ofNat 5)) <| .ret) (.fall)) <| .callf (.i (.o (.i (.i (.o (.i .h)))))) [v3] fun v15 => .op (.ext v15 0) fun v16 => .op (.ext v15 1) fun v17 => .op
  (.bin .neq .no v17 (.int .i64 (.ofNat 0))) fun v18 => .seq (.cond v18 (.op (.build [.nils,(.int .i64 (.ofNat 0)),.nils,.nils,.nils] []) fun v19 => .op (.store 5 v7 v19) fun _ =>
  .setv (.o (.i (.i .h))) v17 <| .ret) (.fall)) <| .callf (.o (.i (.i (.i (.o (.i .h)))))) [v4] fun v21 => .op (.ext v21 0) fun v22 => .op (.ext v21 1) fun v23 => .op (.bin .neq
  .no v23 (.int .i64 (.ofNat 0))) fun v24 => .seq (.cond v24 (.op (.build [.nils,(.int .i64 (.ofNat 0)),.nils,.nils,.nils] []) fun v25 => .op (.store 5 v7 v25) fun _ => .setv (.o
  (.i (.i .h))) v23 <| .ret) (.fall)) <| .callf (.i (.i (.i (.i (.o (.i .h)))))) [v5,v6] fun v27 => .op (.un .not v27) fun v28 => .seq (.cond v28 (.op (.build [.nils,(.int .i64
  (.ofNat 0)),.nils,.nils,.nils] []) fun v29 => .op (.store 5 v7 v29) fun _ => .setv (.o (.i (.i .h))) (.int .i64 (.ofNat 1)) <| .ret) (.fall)) <| .op (.s2b 5 v22) fun v31 =>
  .callf (.o (.o (.o (.o (.i (.i .h)))))) [v1,v31,v5,v6] fun v32 => .op (.ext v32 0) fun v33 => .op (.ext v32 1) fun v34 => .op (.bin .neq .no v34 (.int .i64 (.ofNat 0))) fun v35
  => .seq (.cond v35 (.op (.build [.nils,(.int .i64 (.ofNat 0)),.nils,.nils,.nils] []) fun v36 => .op (.store 5 v7 v36) fun _ => .setv (.o (.i (.i .h))) v34 <| .ret) (.fall)) <|
  .op (.bslice 5 1 10 [(.int .u8 (.ofNat 0))] [(0,(.int .u8 (.ofNat 67))),(1,(.int .u8 (.ofNat 108))),(2,(.int .u8 (.ofNat 105))),(3,(.int .u8 (.ofNat 101))),(4,(.int .u8 (.ofNat
  110))),(5,(.int .u8 (.ofNat 116))),(6,(.int .u8 (.ofNat 32))),(7,(.int .u8 (.ofNat 75))),(8,(.int .u8 (.ofNat 101))),(9,(.int .u8 (.ofNat 121)))]) fun v38 => .op (.s2s v38) fun
  v39 => .op (.bslice 43 1 1 [.nils] [(0,v39)]) fun v40 => .callf (.i (.o (.o (.o (.i (.i .h)))))) [v1,v33,v40] fun v41 => .callf (.o (.i (.o (.o (.i (.i .h)))))) [v5] fun v42 =>
  .op (.bslice 43 1 1 [.nils] [(0,v41)]) fun v43 => .callf (.i (.i (.o (.o (.i (.i .h)))))) [v1,v43] fun v44 => .op (.bslice 5 1 10 [(.int .u8 (.ofNat 0))] [(0,(.int .u8 (.ofNat
  83))),(1,(.int .u8 (.ofNat 101))),(2,(.int .u8 (.ofNat 114))),(3,(.int .u8 (.ofNat 118))),(4,(.int .u8 (.ofNat 101))),(5,(.int .u8 (.ofNat 114))),(6,(.int .u8 (.ofNat
  32))),(7,(.int .u8 (.ofNat 75))),(8,(.int .u8 (.ofNat 101))),(9,(.int .u8 (.ofNat 121)))]) fun v45 => .op (.s2s v45) fun v46 => .op (.bslice 43 1 1 [.nils] [(0,v46)]) fun v47 =>
  .callf (.i (.o (.o (.o (.i (.i .h)))))) [v1,v33,v47] fun v48 => .op (.bin .add .no v16 (.str 1 [58])) fun v49 => .op (.bin .add .no v49 v2) fun v50 => .op (.bin .add .no v50
  (.str 1 [58])) fun v51 => .op (.bin .add .no v51 v22) fun v52 => .op (.s2b 5 v52) fun v53 => .op (.bslice 43 1 1 [.nils] [(0,v53)]) fun v54 => .callf (.i (.i (.o (.o (.i (.i
  .h)))))) [v1,v54] fun v55 => .op (.build [.nils,(.int .i64 (.ofNat 0)),.nils,.nils,.nils] [(0,1,v42),(1,1,v6),(2,1,v44),(3,1,v48),(4,1,v55)]) fun v56 => .op (.store 5 v7 v56) fun
  _ => .setv (.o (.i (.i .h))) (.int .i64 (.ofNat 0)) <| .ret) [.cell (.i (.o (.i .h))) true 5,.tmp (.o (.i (.i .h)))]
theorem F42_ok : toFn Tryz.prog 42 [12,13] = some F42 := by kernel_rfl
def F43 : FnE := .body (.arg 0 fun v1 => .arg 1 fun v2 => .arg 2 fun v3 => .arg 3 fun v4 => .arg 4 fun v5 => .arg 5 fun v6 => .op (.alloc [.nils,(.int .i64 (.ofNat 0)),.nils,.nils,.nils] 82) fun v7 =>
  .setv (.i (.o (.i .h))) v7 <| .setv (.o (.i (.i .h))) (.int .i64 (.ofNat 0)) <| .callf (.o (.i (.o (.i (.o (.i .h)))))) [v2] fun v8 => .op (.un .not v8) fun v9 => .seq (.cond v9
  (.op (.build [.nils,(.int .i64 (.ofNat 0)),.nils,.nils,.nils] []) fun v10 => .op (.store 5 v7 v10) fun _ => .setv (.o (.i (.i .h))) (.int .i64 (.ofNat 5)) <| .ret) (.fall)) <|
  .callf (.i (.i (.i (.i (.o (.o .h)))))) [v3,(.int .i64 (.ofNat 32))] fun v12 => .op (.ext v12 0) fun v13 => .op (.ext v12 1) fun v14 => .op (.bin .neq .no v14 (.int .i64 (.ofNat
  0))) fun v15 => .seq (.cond v15 (.op (.build [.nils,(.int .i64 (.ofNat 0)),.nils,.nils,.nils] []) fun v16 => .op (.store 5 v7 v16) fun _ => .setv (.o (.i (.i .h))) v14 <| .ret)
  (.fall)) <| .callf (.i (.i (.i (.i (.o (.o .h)))))) [v4,(.int .i64 (.ofNat 64))] fun v18 => .op (.ext v18 0) fun v19 => .op (.ext v18 1) fun v20 => .op (.bin .neq .no v20 (.int
  .i64 (.ofNat 0))) fun v21 => .seq (.cond v21 (.op (.build [.nils,(.int .i64 (.ofNat 0)),.nils,.nils,.nils] []) fun v22 => .op (.store 5 v7 v22) fun _ => .setv (.o (.i (.i .h)))
  v20 <| .ret) (.fall)) <| .callf (.o (.o (.i (.o (.i (.i .h)))))) [v5,v6] fun v24 => .op (.un .not v24) fun v25 => .seq (.cond v25 (.op (.build [.nils,(.int .i64 (.ofNat
  0)),.nils,.nils,.nils] []) fun v26 => .op (.store 5 v7 v26) fun _ => .setv (.o (.i (.i .h))) (.int .i64 (.ofNat 1)) <| .ret) (.fall)) <| .op (.s2b 5 v19) fun v28 => .callf (.i
  (.o (.i (.o (.i (.i .h)))))) [v1,v28,v5,v6] fun v29 => .op (.bslice 5 1 10 [(.int .u8 (.ofNat 0))] [(0,(.int .u8 (.ofNat 67))),(1,(.int .u8 (.ofNat 108))),(2,(.int .u8 (.ofNat
  105))),(3,(.int .u8 (.ofNat 101))),(4,(.int .u8 (.ofNat 110))),(5,(.int .u8 (.ofNat 116))),(6,(.int .u8 (.ofNat 32))),(7,(.int .u8 (.ofNat 75))),(8,(.int .u8 (.ofNat
  101))),(9,(.int .u8 (.ofNat 121)))]) fun v30 => .op (.s2s v30) fun v31 => .callf (.o (.i (.i (.o (.i (.i .h)))))) [v1,v29,v31] fun v32 => .callf (.i (.i (.i (.o (.i (.i .h))))))
  [v5] fun v33 => .op (.build [.nils,(.int .i64 (.ofNat 0)),.nils,.nils,.nils] [(0,1,v33),(1,1,v6)]) fun v34 => .op (.alloc [.nils,(.int .i64 (.ofNat 0)),.nils,.nils,.nils] 82) fun
  v35 => .op (.store 5 v35 v34) fun _ => .callf (.o (.o (.o (.i (.i (.i .h)))))) [v1,v32] fun v37 => .op (.faddr 2 v35) fun v38 => .op (.store 1 v38 v37) fun _ => .op (.bslice 5 1
  10 [(.int .u8 (.ofNat 0))] [(0,(.int .u8 (.ofNat 83))),(1,(.int .u8 (.ofNat 101))),(2,(.int .u8 (.ofNat 114))),(3,(.int .u8 (.ofNat 118))),(4,(.int .u8 (.ofNat 101))),(5,(.int
  .u8 (.ofNat 114))),(6,(.int .u8 (.ofNat 32))),(7,(.int .u8 (.ofNat 75))),(8,(.int .u8 (.ofNat 101))),(9,(.int .u8 (.ofNat 121)))]) fun v40 => .op (.s2s v40) fun v41 => .callf (.o
  (.i (.i (.o (.i (.i .h)))))) [v1,v29,v41] fun v42 => .op (.faddr 3 v35) fun v43 => .op (.store 1 v43 v42) fun _ => .op (.bin .add .no v13 (.str 1 [58])) fun v45 => .op (.bin .add
  .no v45 v2) fun v46 => .op (.bin .add .no v46 (.str 1 [58])) fun v47 => .op (.bin .add .no v47 v19) fun v48 => .op (.s2b 5 v48) fun v49 => .callf (.o (.o (.o (.i (.i (.i .h))))))
  [v1,v49] fun v50 => .op (.faddr 4 v35) fun v51 => .op (.store 1 v51 v50) fun _ => .op (.load true 5 v35) fun v53 => .op (.store 5 v7 v53) fun _ => .setv (.o (.i (.i .h))) (.int
  .i64 (.ofNat 0)) <| .ret) [.cell (.i (.o (.i .h))) true 5,.tmp (.o (.i (.i .h)))]
theorem F43_ok : toFn Tryz.prog 43 [12,13] = some F43 := by kernel_rfl
def F44 : FnE := .body (.arg 0 fun v1 => .arg 1 fun v2 => .arg 2 fun v3 => .arg 3 fun v4 => .op (.box 45 v4) fun v5 => .setv (.i (.o (.o .h))) (.int .i64 (.ofNat 0)) <| .callf (.i (.o (.o (.i (.o (.i
  .h)))))) [v1,v2] fun v6 => .op (.bin .eql .mp v6 .nilm) fun v7 => .seq (.cond v7 (.setv (.i (.o (.o .h))) (.int .i64 (.ofNat 6)) <| .ret) (.fall)) <| .callf (.i (.o (.i (.i (.o
  (.i .h)))))) [v3] fun v8 => .op (.ext v8 0) fun v9 => .op (.ext v8 1) fun v10 => .seq (.block 0 (.op (.bin .neq .no v10 (.int .i64 (.ofNat 0))) fun v11 => .seq (.cond v11 (.setv
  (.i (.o (.o .h))) v10 <| .ret) (.op (.load true 5 v5) fun v12 => .callf (.i (.o (.o (.i (.i (.i .h)))))) [v12] fun v13 => .op (.un .not v13) fun v14 => .seq (.cond v14 (.setv (.i
  (.o (.o .h))) (.int .i64 (.ofNat 4)) <| .ret) (.op (.lookup true .nilp false v6 v9) fun v15 => .op (.bin .neq .ptr v15 .nilp) fun v16 => .seq (.cond v16 (.setv (.i (.o (.o .h)))
  (.int .i64 (.ofNat 7)) <| .ret) (.op (.lenm v6) fun v17 => .op (.bin .geq .no v17 (.int .i64 (.ofNat 32))) fun v18 => .gop v18 false (.mv v1) fun v19 => .gop v18 false (.nilck
  v19) fun v20 => .gop v18 false (.faddr 1 v20) fun v21 => .gop v18 false (.load false 1 v21) fun v22 => .gop v18 false (.bin .geq .no v22 (.int .u64 (.ofNat 9007199254740992)))
  fun v23 => .op (.pick v18 (.bool true) v23) fun v24 => .seq (.cond v24 (.setv (.i (.o (.o .h))) (.int .i64 (.ofNat 8)) <| .ret) (.fall)) <| .fall)) <| .fall)) <| .fall)) <|
  .fall)) <| .op (.load true 5 v5) fun v25 => .callf (.o (.i (.o (.i (.i (.i .h)))))) [v25] fun v26 => .op (.build [(.str 0 []),(.str 0 []),.nils,(.int .i64 (.ofNat
  0)),.nils,.nils,.nils,(.int .u64 (.ofNat 0)),.nils,(.bool false)] [(0,1,v2),(1,1,v9),(2,5,v26)]) fun v27 => .op (.box 48 v27) fun v28 => .op (.mapup true v6 v9 v28) fun _ => .op
  (.lookup true .nilp false v6 v9) fun v30 => .callf (.i (.i (.i (.o (.o (.o .h)))))) [v1,v30] fun v31 => .setv (.i (.o (.o .h))) v31 <| .ret) [.tmp (.i (.o (.o .h)))]
theorem F44_ok : toFn Tryz.prog 44 [8] = some F44 := by kernel_rfl
def F45 : FnE := .body (.arg 0 fun v1 => .arg 1 fun v2 => .arg 2 fun v3 => .arg 3 fun v4 => .op (.box 82 v4) fun v5 => .setv (.i (.o (.o .h))) (.int .i64 (.ofNat 0)) <| .op (.bin .eql .ptr v1 .nilp) fun
  v6 => .gop v6 false (.mv v1) fun v7 => .gop v6 false (.nilck v7) fun v8 => .gop v6 false (.faddr 0 v8) fun v9 => .gop v6 false (.load false 1 v9) fun v10 => .gop v6 false (.mv
  v2) fun v11 => .gcallf v6 false (.i (.i (.o (.i (.o (.i .h)))))) [v10,v11] fun v12 => .gop v6 false (.un .not v12) fun v13 => .op (.pick v6 (.bool true) v13) fun v14 => .seq
  (.cond v14 (.setv (.i (.o (.o .h))) (.int .i64 (.ofNat 6)) <| .ret) (.fall)) <| .callf (.i (.i (.i (.i (.o (.o .h)))))) [v3,(.int .i64 (.ofNat 32))] fun v15 => .op (.ext v15 0)
  fun v16 => .op (.ext v15 1) fun v17 => .seq (.block 0 (.op (.bin .neq .no v17 (.int .i64 (.ofNat 0))) fun v18 => .seq (.cond v18 (.setv (.i (.o (.o .h))) v17 <| .ret) (.op (.load
  true 5 v5) fun v19 => .callf (.i (.i (.o (.i (.i (.i .h)))))) [v19] fun v20 => .op (.un .not v20) fun v21 => .seq (.cond v21 (.setv (.i (.o (.o .h))) (.int .i64 (.ofNat 4)) <|
  .ret) (.callf (.o (.o (.o (.i (.o (.o .h)))))) [v1,v2,v16] fun v22 => .op (.bin .geq .no v22 (.int .i64 (.ofNat 0))) fun v23 => .seq (.cond v23 (.setv (.i (.o (.o .h))) (.int
  .i64 (.ofNat 7)) <| .ret) (.callf (.o (.o (.i (.i (.i (.i .h)))))) [v1,v2] fun v24 => .op (.len false v24) fun v25 => .op (.bin .geq .no v25 (.int .i64 (.ofNat 32))) fun v26 =>
  .gop v26 false (.mv v1) fun v27 => .gop v26 false (.nilck v27) fun v28 => .gop v26 false (.faddr 2 v28) fun v29 => .gop v26 false (.load false 1 v29) fun v30 => .gop v26 false
  (.bin .geq .no v30 (.int .u64 (.ofNat 9007199254740992))) fun v31 => .op (.pick v26 (.bool true) v31) fun v32 => .seq (.cond v32 (.setv (.i (.o (.o .h))) (.int .i64 (.ofNat 8))
  <| .ret) (.fall)) <| .fall)) <| .fall)) <| .fall)) <| .fall)) <| .op (.nilck v1) fun v33 => .op (.faddr 2 v33) fun v34 => .op (.load false 1 v34) fun v35 => .op (.bin .add .no
  v35 (.int .u64 (.ofNat 1))) fun v36 => .op (.nilck v1) fun v37 => .op (.faddr 2 v37) fun v38 => .op (.store 1 v38 v36) fun _ => .op (.load true 5 v5) fun v40 => .op (.nilck v1)
  fun v41 => .op (.faddr 2 v41) fun v42 => .op (.load false 1 v42) fun v43 => .op (.build [(.str 0 []),(.str 0 []),.nils,(.int .i64 (.ofNat 0)),.nils,.nils,.nils,(.int .u64 (.ofNat
  0)),.nils,(.bool false)] [(0,1,v2),(1,1,v16),(2,5,v40),(7,1,v43)]) fun v44 => .callf (.i (.o (.i (.i (.i (.i .h)))))) [v1,v44] fun _ => .setv (.i (.o (.o .h))) (.int .i64 (.ofNat
  0)) <| .ret) [.tmp (.i (.o (.o .h)))]
theorem F45_ok : toFn Tryz.prog 45 [8] = some F45 := by kernel_rfl
def F46 : FnE := .body (.arg 0 fun v1 => .arg 1 fun v2 => .arg 2 fun v3 => .op (.box 9 v2) fun v4 => .op (.alloc [(.str 0 [])] 9) fun v5 => .setv (.i (.i .h)) v5 <| .op (.alloc [(.int .i64 (.ofNat 0))]
  35) fun v6 => .setv (.o (.o (.o .h))) v6 <| .seq (.block 0 (.op (.bin .eql .ptr v1 .nilp) fun v7 => .seq (.cond v7 (.op (.store 1 v5 (.str 0 [])) fun _ => .op (.store 1 v6 (.int
  .i64 (.ofNat 6))) fun _ => .ret) (.op (.load false 1 v4) fun v10 => .callf (.o (.i (.i (.i (.i (.i .h)))))) [v10] fun v11 => .op (.un .not v11) fun v12 => .seq (.cond v12 (.op
  (.store 1 v5 (.str 0 [])) fun _ => .op (.store 1 v6 (.int .i64 (.ofNat 4))) fun _ => .ret) (.op (.nilck v1) fun v15 => .op (.faddr 4 v15) fun v16 => .op (.load false 1 v16) fun
  v17 => .op (.bin .lss .no v3 v17) fun v18 => .seq (.cond v18 (.op (.store 1 v5 (.str 0 [])) fun _ => .op (.store 1 v6 (.int .i64 (.ofNat 9))) fun _ => .ret) (.fall)) <| .fall))
  <| .fall)) <| .fall)) <| .callf (.i (.i (.i (.i (.i (.i .h)))))) [v1] fun v21 => .seq (.block 1 (.seq (.rfun v21 (.block 1 (.arg 0 fun v22 => .op (.alloc [(.str 0 []),(.int .u64
  (.ofNat 0)),(.bool false),(.int .u32 (.ofNat 0))] 175) fun v23 => .op (.store 4 v23 v22) fun _ => .brnd <| .seq (.block 2 (.op (.faddr 0 v23) fun v25 => .op (.load false 1 v25)
  fun v26 => .op (.load false 1 v4) fun v27 => .callf (.o (.o (.o (.o (.o (.o (.o .h))))))) [v26] fun v28 => .chk false 1 v4 v27 <| .op (.bin .eql .no v28 v27) fun v29 => .seq
  (.cond v29 (.op (.store 1 v5 (.str 0 [])) fun _ => .op (.store 1 v6 (.int .i64 (.ofNat 7))) fun _ => .ret) (.fall)) <| .fall)) <| .fall))) <| .fall)) <| .callf (.i (.o (.o (.o
  (.o (.o (.o .h))))))) [v1,v3] fun _ => .op (.nilck v1) fun v33 => .op (.faddr 3 v33) fun v34 => .op (.load false 1 v34) fun v35 => .op (.bin .add .no v35 (.int .u64 (.ofNat 1)))
  fun v36 => .op (.nilck v1) fun v37 => .op (.faddr 3 v37) fun v38 => .op (.store 1 v38 v36) fun _ => .op (.nilck v1) fun v40 => .op (.faddr 4 v40) fun v41 => .op (.store 1 v41 v3)
  fun _ => .op (.load false 1 v4) fun v43 => .op (.bin .add .no v43 (.str 1 [46])) fun v44 => .op (.nilck v1) fun v45 => .op (.faddr 3 v45) fun v46 => .op (.load false 1 v46) fun
  v47 => .callf (.o (.i (.o (.o (.o (.o (.o .h))))))) [v47] fun v48 => .chk false 1 v4 v43 <| .op (.bin .add .no v44 v48) fun v49 => .op (.nilck v1) fun v50 => .op (.faddr 2 v50)
  fun v51 => .op (.load false 1 v51) fun v52 => .op (.build [(.str 0 []),(.int .u64 (.ofNat 0)),(.bool false),(.int .u32 (.ofNat 0))] [(0,1,v49),(1,1,v3)]) fun v53 => .callf (.i
  (.i (.o (.o (.o (.o (.o .h))))))) [v52,v49,v53] fun _ => .op (.store 1 v5 v49) fun _ => .op (.store 1 v6 (.int .i64 (.ofNat 0))) fun _ => .ret) [.cell (.i (.i .h)) false 1,.cell (.o (.o (.o .h))) false 1]
theorem F46_ok : toFn Tryz.prog 46 [6,7] = some F46 := by kernel_rfl
theorem F63_ok : toFn Tryz.prog 63 [2,3,8] = some Go.Ev.F63 := by kernel_rfl
def F65 : FnE := .body (.arg 0 fun v1 => .setv .h v1 <| .arg 1 fun v2 => .setv (.i (.o .h)) .nils <| .op (.mkslice 5 1 1 [(.int .u8 (.ofNat 0))] v2 v2) fun v3 => .op (.bin .sub .no v2 (.int .i64 (.ofNat
  1))) fun v4 => .setv (.i (.i .h)) v4 <| .seq (.block 0 (.seq (.loop (.getv (.i (.i .h)) fun v5 => .op (.bin .geq .no v5 (.int .i64 (.ofNat 0))) fun v6 => .seq (.cond v6 (.fall)
  ((.exit 0))) <| .seq (.block 1 (.getv .h fun v7 => .op (.bin .rem .no v7 (.int .u64 (.ofNat 256))) fun v8 => .op (.conv .u8 v8) fun v9 => .op (.islc 1 v3 v5) fun v10 => .op
  (.store 1 v10 v9) fun _ => .op (.bin .quo .no v7 (.int .u64 (.ofNat 256))) fun v12 => .setv .h v12 <| .fall)) <| .op (.bin .sub .no v5 (.int .i64 (.ofNat 1))) fun v13 => .setv
  (.i (.i .h)) v13 <| .fall)) <| .fall)) <| .setv (.i (.o .h)) v3 <| .ret) [.tmp (.i (.o .h))]
theorem F65_ok : toFn Tryz.prog 65 [0,4,6] = some F65 := by kernel_rfl
def F67 : FnE := .body (.arg 0 fun v1 => .setv (.i .h) (.bool false) <| .op (.s2b 5 v1) fun v2 => .op (.len false v2) fun v3 => .setv (.i (.o (.o .h))) (.int .i64 (.ofNat 0)) <| .seq (.block 0 (.seq
  (.loop (.getv (.i (.o (.o .h))) fun v4 => .op (.bin .lss .no v4 v3) fun v5 => .seq (.cond v5 (.fall) ((.exit 0))) <| .seq (.block 1 (.op (.islc 1 v2 v4) fun v6 => .op (.load
  false 1 v6) fun v7 => .seq (.block 2 (.op (.bin .geq .no v7 (.int .u8 (.ofNat 97))) fun v8 => .gop v8 true (.mv v7) fun v9 => .gop v8 true (.bin .leq .no v9 (.int .u8 (.ofNat
  122))) fun v10 => .op (.pick v8 v10 (.bool false)) fun v11 => .setv (.i (.o (.i .h))) v11 <| .seq (.cond v11 (.fall) (.op (.bin .geq .no v7 (.int .u8 (.ofNat 48))) fun v12 =>
  .gop v12 true (.mv v7) fun v13 => .gop v12 true (.bin .leq .no v13 (.int .u8 (.ofNat 57))) fun v14 => .op (.pick v12 v14 (.bool false)) fun v15 => .setv (.i (.o (.i .h))) v15 <|
  .seq (.cond v15 (.fall) (.op (.bin .eql .no v7 (.int .u8 (.ofNat 45))) fun v16 => .setv (.i (.o (.i .h))) v16 <| .seq (.cond v16 (.fall) (.op (.bin .eql .no v7 (.int .u8 (.ofNat
  95))) fun v17 => .setv (.i (.o (.i .h))) v17 <| .fall)) <| .fall)) <| .fall)) <| .getv (.i (.o (.i .h))) fun v18 => .seq (.cond v18 (.fall) (.setv (.i .h) (.bool false) <| .ret))
  <| .fall)) <| .fall)) <| .op (.bin .add .no v4 (.int .i64 (.ofNat 1))) fun v19 => .setv (.i (.o (.o .h))) v19 <| .fall)) <| .fall)) <| .op (.bin .neq .no v1 (.str 0 [])) fun v20
  => .gop v20 true (.mv v1) fun v21 => .gop v20 true (.len true v21) fun v22 => .gop v20 true (.bin .leq .no v22 (.int .i64 (.ofNat 32))) fun v23 => .op (.pick v20 v23 (.bool
  false)) fun v24 => .setv (.i .h) v24 <| .ret) [.tmp (.i .h)]
theorem F67_ok : toFn Tryz.prog 67 [2,8,12] = some F67 := by kernel_rfl
def F69 : FnE := .body (.arg 0 fun v1 => .arg 1 fun v2 => .arg 2 fun v3 => .setv (.i (.i .h)) .nilp <| .callf (.i (.o (.i (.i (.o (.i .h)))))) [v3] fun v4 => .op (.ext v4 0) fun v5 => .op (.ext v4 1) fun
  v6 => .op (.bin .neq .no v6 (.int .i64 (.ofNat 0))) fun v7 => .seq (.cond v7 (.setv (.i (.i .h)) .nilp <| .ret) (.fall)) <| .callf (.i (.o (.o (.i (.o (.i .h)))))) [v1,v2] fun v8
  => .op (.lookup true .nilp false v8 v5) fun v9 => .setv (.i (.i .h)) v9 <| .ret) [.tmp (.i (.i .h))]
theorem F69_ok : toFn Tryz.prog 69 [6] = some F69 := by kernel_rfl
def F70 : FnE := .body (.arg 0 fun v1 => .arg 1 fun v2 => .setv (.i (.o .h)) (.int .i64 (.ofNat 0)) <| .op (.nilck v1) fun v3 => .op (.faddr 1 v3) fun v4 => .op (.load false 1 v4) fun v5 => .op (.bin .add
  .no v5 (.int .u64 (.ofNat 1))) fun v6 => .op (.nilck v1) fun v7 => .op (.faddr 1 v7) fun v8 => .op (.store 1 v8 v6) fun _ => .op (.nilck v1) fun v10 => .op (.faddr 1 v10) fun v11
  => .op (.load false 1 v11) fun v12 => .op (.nilck v2) fun v13 => .op (.faddr 7 v13) fun v14 => .op (.store 1 v14 v12) fun _ => .setv (.i (.o .h)) (.int .i64 (.ofNat 0)) <| .ret) [.tmp (.i (.o .h))]
theorem F70_ok : toFn Tryz.prog 70 [4] = some F70 := by kernel_rfl
def F71 : FnE := .body (.arg 0 fun v1 => .arg 1 fun v2 => .arg 2 fun v3 => .setv (.i (.i .h)) (.int .i64 (.ofNat 0)) <| .callf (.i (.i (.i (.i (.o (.o .h)))))) [v3,(.int .i64 (.ofNat 32))] fun v4 => .op
  (.ext v4 0) fun v5 => .op (.ext v4 1) fun v6 => .op (.bin .neq .ptr v1 .nilp) fun v7 => .gop v7 true (.mv v6) fun v8 => .gop v7 true (.bin .eql .no v8 (.int .i64 (.ofNat 0))) fun
  v9 => .op (.pick v7 v9 (.bool false)) fun v10 => .seq (.cond v10 (.op (.nilck v1) fun v11 => .op (.faddr 1 v11) fun v12 => .op (.load false 1 v12) fun v13 => .op (.len false v13)
  fun v14 => .setv (.o (.o (.i (.i .h)))) (.int .i64 (.ofNat 0)) <| .seq (.block 0 (.seq (.loop (.getv (.o (.o (.i (.i .h)))) fun v15 => .op (.bin .lss .no v15 v14) fun v16 => .seq
  (.cond v16 (.fall) ((.exit 0))) <| .seq (.block 1 (.op (.islc 10 v13 v15) fun v17 => .op (.load true 10 v17) fun v18 => .op (.alloc [(.str 0 []),(.str 0 []),.nils,(.int .i64
  (.ofNat 0)),.nils,.nils,.nils,(.int .u64 (.ofNat 0)),.nils,(.bool false)] 84) fun v19 => .op (.store 10 v19 v18) fun _ => .op (.faddr 0 v19) fun v21 => .op (.load false 1 v21)
  fun v22 => .op (.bin .eql .no v22 v2) fun v23 => .gop v23 true (.faddr 1 v19) fun v24 => .gop v23 true (.load false 1 v24) fun v25 => .gop v23 true (.mv v5) fun v26 => .gop v23
  true (.bin .eql .no v25 v26) fun v27 => .op (.pick v23 v27 (.bool false)) fun v28 => .seq (.cond v28 (.setv (.i (.i .h)) v15 <| .ret) (.fall)) <| .fall)) <| .op (.bin .add .no
  v15 (.int .i64 (.ofNat 1))) fun v29 => .setv (.o (.o (.i (.i .h)))) v29 <| .fall)) <| .fall)) <| .fall) (.fall)) <| .setv (.i (.i .h)) (.int .i64 (.negSucc 0)) <| .ret) [.tmp (.i (.i .h))]
theorem F71_ok : toFn Tryz.prog 71 [6,27] = some F71 := by kernel_rfl
def F73 : FnE := .body (.arg 0 fun v1 => .arg 1 fun v2 => .arg 2 fun v3 => .op (.alloc [(.str 0 []),(.int .u64 (.ofNat 0)),(.bool false),(.int .u32 (.ofNat 0))] 175) fun v4 => .setv (.i (.i .h)) v4 <|
  .setv (.o (.o (.o .h))) (.int .i64 (.ofNat 0)) <| .op (.bin .eql .ptr v1 .nilp) fun v5 => .seq (.cond v5 (.op (.build [(.str 0 []),(.int .u64 (.ofNat 0)),(.bool false),(.int .u32
  (.ofNat 0))] []) fun v6 => .op (.store 4 v4 v6) fun _ => .setv (.o (.o (.o .h))) (.int .i64 (.ofNat 6)) <| .ret) (.fall)) <| .op (.nilck v1) fun v8 => .op (.faddr 2 v8) fun v9 =>
  .op (.load false 1 v9) fun v10 => .callf (.i (.i (.o (.i (.i (.o (.o .h))))))) [v10,v2] fun v11 => .op (.ext v11 0) fun v12 => .op (.ext v11 1) fun v13 => .op (.alloc [(.str 0
  []),(.int .u64 (.ofNat 0)),(.bool false),(.int .u32 (.ofNat 0))] 175) fun v14 => .op (.store 4 v14 v12) fun _ => .seq (.block 0 (.op (.un .not v13) fun v16 => .seq (.cond v16
  (.op (.build [(.str 0 []),(.int .u64 (.ofNat 0)),(.bool false),(.int .u32 (.ofNat 0))] []) fun v17 => .op (.store 4 v4 v17) fun _ => .setv (.o (.o (.o .h))) (.int .i64 (.ofNat
  6)) <| .ret) (.op (.faddr 1 v14) fun v19 => .op (.load false 1 v19) fun v20 => .op (.nilck v1) fun v21 => .op (.faddr 0 v21) fun v22 => .op (.faddr 1 v22) fun v23 => .op (.load
  false 1 v23) fun v24 => .callf (.o (.o (.i (.i (.i (.o (.o .h))))))) [v3,v20,v24] fun v25 => .op (.un .not v25) fun v26 => .gop v26 false (.mv v1) fun v27 => .gop v26 false
  (.nilck v27) fun v28 => .gop v26 false (.faddr 6 v28) fun v29 => .gop v26 false (.load false 1 v29) fun v30 => .gop v26 false (.mv v30) fun v31 => .gop v31 true (.faddr 1 v14)
  fun v32 => .gop v31 true (.load false 1 v32) fun v33 => .gop v31 true (.mv v1) fun v34 => .gop v31 true (.nilck v34) fun v35 => .gop v31 true (.faddr 5 v35) fun v36 => .gop v31
  true (.load false 1 v36) fun v37 => .gop v31 true (.bin .leq .no v33 v37) fun v38 => .gop v26 false (.pick v31 v38 (.bool false)) fun v39 => .op (.pick v26 (.bool true) v39) fun
  v40 => .seq (.cond v40 (.op (.build [(.str 0 []),(.int .u64 (.ofNat 0)),(.bool false),(.int .u32 (.ofNat 0))] []) fun v41 => .op (.store 4 v4 v41) fun _ => .setv (.o (.o (.o
  .h))) (.int .i64 (.ofNat 9)) <| .ret) (.fall)) <| .fall)) <| .fall)) <| .op (.load true 4 v14) fun v43 => .op (.store 4 v4 v43) fun _ => .setv (.o (.o (.o .h))) (.int .i64
  (.ofNat 0)) <| .ret) [.cell (.i (.i .h)) true 4,.tmp (.o (.o (.o .h)))]
theorem F73_ok : toFn Tryz.prog 73 [6,7] = some F73 := by kernel_rfl
def F74 : FnE := .body (.arg 0 fun v1 => .arg 1 fun v2 => .arg 2 fun v3 => .op (.box 175 v3) fun v4 => .setv (.i (.i .h)) (.int .i64 (.ofNat 0)) <| .callf (.i (.o (.i (.i (.i (.o (.o .h))))))) [v1,v2] fun
  v5 => .op (.bin .eql .no v5 (.int .i64 (.negSucc 0))) fun v6 => .seq (.cond v6 (.setv (.i (.i .h)) (.int .i64 (.ofNat 6)) <| .ret) (.fall)) <| .op (.nilck v1) fun v7 => .op
  (.faddr 1 v7) fun v8 => .op (.load false 1 v8) fun v9 => .op (.load true 4 v4) fun v10 => .op (.islc 7 v9 v5) fun v11 => .op (.faddr 1 v11) fun v12 => .op (.store 4 v12 v10) fun
  _ => .setv (.i (.i .h)) (.int .i64 (.ofNat 0)) <| .ret) [.tmp (.i (.i .h))]
theorem F74_ok : toFn Tryz.prog 74 [6] = some F74 := by kernel_rfl
def F78 : FnE := .body (.arg 0 fun v1 => .arg 1 fun v2 => .setv (.i (.o .h)) (.str 0 []) <| .setv (.o (.i .h)) (.int .i64 (.ofNat 0)) <| .callf (.i (.i (.i (.i (.i (.o (.o .h))))))) [v1] fun v3 => .op
  (.ext v3 0) fun v4 => .op (.ext v3 1) fun v5 => .op (.bin .neq .no v5 (.int .i64 (.ofNat 0))) fun v6 => .seq (.cond v6 (.setv (.i (.o .h)) (.str 0 []) <| .setv (.o (.i .h)) v5 <|
  .ret) (.fall)) <| .op (.len true v4) fun v7 => .op (.bin .eql .no v7 (.int .i64 (.ofNat 0))) fun v8 => .seq (.cond v8 (.setv (.i (.o .h)) (.str 0 []) <| .setv (.o (.i .h)) (.int
  .i64 (.ofNat 2)) <| .ret) (.fall)) <| .op (.len true v4) fun v9 => .op (.bin .gtr .no v9 v2) fun v10 => .seq (.cond v10 (.setv (.i (.o .h)) (.str 0 []) <| .setv (.o (.i .h))
  (.int .i64 (.ofNat 3)) <| .ret) (.fall)) <| .setv (.i (.o .h)) v4 <| .setv (.o (.i .h)) (.int .i64 (.ofNat 0)) <| .ret) [.tmp (.i (.o .h)),.tmp (.o (.i .h))]
theorem F78_ok : toFn Tryz.prog 78 [4,5] = some F78 := by kernel_rfl
def F79 : FnE := .body (.arg 0 fun v1 => .arg 1 fun v2 => .setv (.i (.o .h)) (.bool false) <| .op (.b2s v1) fun v3 => .op (.b2s v2) fun v4 => .op (.bin .eql .no v3 v4) fun v5 => .setv (.i (.o .h)) v5 <|
  .ret) [.tmp (.i (.o .h))]
theorem F79_ok : toFn Tryz.prog 79 [4] = some F79 := by kernel_rfl
def F82 : FnE := .body (.arg 0 fun v1 => .setv (.i .h) (.int .i64 (.ofNat 0)) <| .op (.bin .eql .ptr v1 .nilp) fun v2 => .seq (.cond v2 (.setv (.i .h) (.int .i64 (.ofNat 3)) <| .ret) (.fall)) <| .op
  (.nilck v1) fun v3 => .op (.faddr 5 v3) fun v4 => .op (.load false 1 v4) fun v5 => .setv (.i .h) v5 <| .ret) [.tmp (.i .h)]
theorem F82_ok : toFn Tryz.prog 82 [2] = some F82 := by kernel_rfl
def F83 : FnE := .body (.arg 0 fun v1 => .arg 1 fun v2 => .arg 2 fun v3 => .setv (.i (.i .h)) (.str 0 []) <| .setv (.o (.o (.o .h))) (.int .i64 (.ofNat 0)) <| .op (.nilck v1) fun v4 => .op (.faddr 5 v4)
  fun v5 => .op (.store 1 v5 (.int .i64 (.ofNat 3))) fun _ => .setv (.i (.i .h)) v2 <| .setv (.o (.o (.o .h))) v3 <| .ret) [.tmp (.i (.i .h)),.tmp (.o (.o (.o .h)))]
theorem F83_ok : toFn Tryz.prog 83 [6,7] = some F83 := by kernel_rfl
def F84 : FnE := .body (.arg 0 fun v1 => .op (.alloc [(.str 0 []),(.str 0 []),(.str 0 []),(.str 0 []),.nils] 197) fun v2 => .setv (.i .h) v2 <| .setv (.o (.o .h)) (.int .i64 (.ofNat 0)) <| .op (.len true
  v1) fun v3 => .op (.bin .gtr .no v3 (.int .i64 (.ofNat 4096))) fun v4 => .seq (.cond v4 (.op (.build [(.str 0 []),(.str 0 []),(.str 0 []),(.str 0 []),.nils] []) fun v5 => .op
  (.store 5 v2 v5) fun _ => .setv (.o (.o .h)) (.int .i64 (.ofNat 3)) <| .ret) (.fall)) <| .callf (.o (.o (.o (.o (.o (.i (.o .h))))))) [v1,(.str 1 [44])] fun v7 => .op (.ext v7 0)
  fun v8 => .op (.ext v7 1) fun v9 => .op (.ext v7 2) fun v10 => .callf (.o (.o (.o (.o (.o (.i (.o .h))))))) [v9,(.str 1 [44])] fun v11 => .op (.ext v11 0) fun v12 => .op (.ext
  v11 1) fun v13 => .op (.ext v11 2) fun v14 => .callf (.i (.o (.o (.o (.o (.i (.o .h))))))) [v13] fun v15 => .gop v10 true (.mv v14) fun v16 => .op (.pick v10 v16 (.bool false))
  fun v17 => .callf (.o (.i (.o (.o (.o (.i (.o .h))))))) [v15,v17] fun _ => .op (.alloc [(.str 0 []),(.str 0 []),(.str 0 []),(.str 0 []),.nils] 197) fun v19 => .callf (.i (.i (.o
  (.o (.o (.i (.o .h))))))) [v8] fun v20 => .op (.ext v20 0) fun v21 => .op (.ext v20 1) fun v22 => .op (.faddr 0 v19) fun v23 => .op (.store 1 v23 v21) fun _ => .callf (.o (.i (.o
  (.o (.o (.i (.o .h))))))) [v15,v22] fun _ => .op (.bin .neq .no v12 (.str 0 [])) fun v26 => .seq (.cond v26 (.callf (.o (.o (.i (.o (.o (.i (.o .h))))))) [v12,(.str 2 [97,61])]
  fun v27 => .op (.ext v27 0) fun v28 => .op (.ext v27 1) fun v29 => .callf (.i (.o (.i (.o (.o (.i (.o .h))))))) [v28] fun v30 => .op (.ext v30 0) fun v31 => .op (.ext v30 1) fun
  v32 => .op (.faddr 1 v19) fun v33 => .op (.store 1 v33 v31) fun _ => .gop v29 true (.mv v32) fun v35 => .op (.pick v29 v35 (.bool false)) fun v36 => .callf (.o (.i (.o (.o (.o
  (.i (.o .h))))))) [v15,v36] fun _ => .fall) (.fall)) <| .op (.faddr 0 v19) fun v38 => .op (.load false 1 v38) fun v39 => .op (.bin .eql .no v39 (.str 1 [112])) fun v40 => .setv
  (.i (.i (.i .h))) v40 <| .callf (.o (.i (.i (.o (.o (.i (.o .h))))))) [v15,(.str 1 [109])] fun v41 => .seq (.cond v41 (.setv (.i (.i (.i .h))) (.bool true) <| .callf (.o (.o (.o
  (.i (.o (.i (.o .h))))))) [v15,(.str 1 [109])] fun v42 => .callf (.i (.i (.i (.o (.o (.i (.o .h))))))) [v42] fun v43 => .callf (.o (.i (.o (.o (.o (.i (.o .h))))))) [v15,v43] fun
  _ => .fall) (.fall)) <| .callf (.o (.o (.o (.i (.o (.i (.o .h))))))) [v15,(.str 1 [110])] fun v45 => .callf (.i (.o (.i (.o (.o (.i (.o .h))))))) [v45] fun v46 => .op (.ext v46
  0) fun v47 => .op (.ext v46 1) fun v48 => .op (.faddr 2 v19) fun v49 => .op (.store 1 v49 v47) fun _ => .callf (.o (.i (.o (.o (.o (.i (.o .h))))))) [v15,v48] fun _ => .callf (.o
  (.o (.o (.i (.o (.i (.o .h))))))) [v15,(.str 1 [114])] fun v52 => .callf (.i (.o (.o (.i (.o (.i (.o .h))))))) [v15,v52] fun v53 => .op (.faddr 3 v19) fun v54 => .op (.store 1
  v54 v53) fun _ => .callf (.o (.i (.o (.i (.o (.i (.o .h))))))) [v15,(.int .i64 (.ofNat 0))] fun v56 => .op (.faddr 4 v19) fun v57 => .op (.store 1 v57 v56) fun _ => .getv (.i (.i
  (.i .h))) fun v59 => .gop v59 false (.faddr 4 v19) fun v60 => .gop v59 false (.load false 1 v60) fun v61 => .gcallf v59 false (.o (.o (.i (.i (.o (.i (.o .h))))))) [v61] fun v62
  => .op (.pick v59 (.bool true) v62) fun v63 => .callf (.i (.i (.o (.i (.o (.i (.o .h))))))) [v15,v63] fun v64 => .op (.bin .neq .no v64 (.int .i64 (.ofNat 0))) fun v65 => .seq
  (.cond v65 (.op (.build [(.str 0 []),(.str 0 []),(.str 0 []),(.str 0 []),.nils] []) fun v66 => .op (.store 5 v2 v66) fun _ => .setv (.o (.o .h)) v64 <| .ret) (.fall)) <| .op
  (.load true 5 v19) fun v68 => .op (.store 5 v2 v68) fun _ => .setv (.o (.o .h)) (.int .i64 (.ofNat 0)) <| .ret) [.cell (.i .h) true 5,.tmp (.o (.o .h))]
theorem F84_ok : toFn Tryz.prog 84 [2,3,14] = some F84 := by kernel_rfl
def F85 : FnE := .body (.arg 0 fun v1 => .arg 1 fun v2 => .callf (.i (.o (.i (.i (.o (.i .h)))))) [v2] fun v3 => .op (.ext v3 0) fun v4 => .op (.ext v3 1) fun v5 => .op (.nilck v1) fun v6 => .op (.faddr 0
  v6) fun v7 => .op (.faddr 1 v7) fun v8 => .op (.load false 1 v8) fun v9 => .op (.nilck v1) fun v10 => .op (.faddr 4 v10) fun v11 => .op (.load false 1 v11) fun v12 => .callf (.o
  (.o (.i (.o (.o .h))))) [v9,v12,v4] fun v13 => .op (.ext v13 0) fun v14 => .op (.ext v13 1) fun v15 => .op (.alloc [(.str 0 []),(.str 0 []),.nils,(.int .i64 (.ofNat
  0)),.nils,.nils,.nils,(.int .u64 (.ofNat 0)),.nils,(.bool false)] 48) fun v16 => .op (.store 10 v16 v14) fun _ => .op (.bin .neq .no v5 (.int .i64 (.ofNat 0))) fun v18 => .gop
  v18 false (.mv v15) fun v19 => .gop v18 false (.un .not v19) fun v20 => .op (.pick v18 (.bool true) v20) fun v21 => .gop v21 false (.faddr 9 v16) fun v22 => .gop v21 false (.load
  false 1 v22) fun v23 => .op (.pick v21 (.bool true) v23) fun v24 => .seq (.cond v24 (.op (.nilck v1) fun v25 => .op (.faddr 25 v25) fun v26 => .op (.store 1 v26 (.bool true)) fun
  _ => .op (.nilck v1) fun v28 => .op (.faddr 4 v28) fun v29 => .op (.load false 1 v29) fun v30 => .op (.nilck v1) fun v31 => .op (.faddr 0 v31) fun v32 => .op (.faddr 0 v32) fun
  v33 => .op (.load false 1 v33) fun v34 => .op (.nilck v1) fun v35 => .op (.faddr 4 v35) fun v36 => .op (.load false 1 v36) fun v37 => .op (.nilck v1) fun v38 => .op (.faddr 0
  v38) fun v39 => .op (.faddr 3 v39) fun v40 => .op (.load false 1 v40) fun v41 => .callf (.i (.o (.i (.o (.i (.o (.o .h))))))) [v34,v37,v2,v41] fun v42 => .chk false 1 v29 v30 <|
  .op (.build [(.str 0 []),(.str 0 []),.nils,(.int .i64 (.ofNat 0)),.nils,.nils,.nils,(.int .u64 (.ofNat 0)),.nils,(.bool false)] [(0,1,v30),(1,1,v2),(2,5,v42)]) fun v43 => .op
  (.store 10 v16 v43) fun _ => .fall) (.fall)) <| .op (.load true 10 v16) fun v45 => .op (.nilck v1) fun v46 => .op (.faddr 15 v46) fun v47 => .op (.store 10 v47 v45) fun _ =>
  .fall) []
theorem F85_ok : toFn Tryz.prog 85 [] = some F85 := by kernel_rfl
def F86 : FnE := .body (.arg 0 fun v1 => .op (.box 197 v1) fun v2 => .setv (.i .h) (.str 0 []) <| .setv (.o (.o .h)) (.int .i64 (.ofNat 0)) <| .op (.load true 5 v2) fun v3 => .callf (.i (.o (.i (.i (.o
  (.i (.o .h))))))) [v3] fun v4 => .op (.ext v4 0) fun _ => .op (.ext v4 1) fun v6 => .op (.bin .neq .no v6 (.int .i64 (.ofNat 0))) fun v7 => .seq (.cond v7 (.setv (.i .h) (.str 0
  []) <| .setv (.o (.o .h)) v6 <| .ret) (.fall)) <| .op (.load true 5 v2) fun v8 => .callf (.o (.i (.i (.i (.o (.i (.o .h))))))) [v8] fun v9 => .setv (.i .h) v9 <| .setv (.o (.o
  .h)) (.int .i64 (.ofNat 0)) <| .ret) [.tmp (.i .h),.tmp (.o (.o .h))]
theorem F86_ok : toFn Tryz.prog 86 [2,3] = some F86 := by kernel_rfl
def F87 : FnE := .body (.arg 0 fun v1 => .op (.box 205 v1) fun v2 => .setv (.i .h) (.str 0 []) <| .setv (.o (.o .h)) (.int .i64 (.ofNat 0)) <| .op (.faddr 0 v2) fun v3 => .op (.load false 1 v3) fun v4 =>
  .callf (.i (.i (.i (.i (.o (.i (.o .h))))))) [v4] fun v5 => .gop v5 true (.faddr 1 v2) fun v6 => .gop v5 true (.load false 1 v6) fun v7 => .gop v5 true (.len false v7) fun v8 =>
  .gop v5 true (.bin .geq .no v8 (.int .i64 (.ofNat 1))) fun v9 => .op (.pick v5 v9 (.bool false)) fun v10 => .gop v10 true (.faddr 1 v2) fun v11 => .gop v10 true (.load false 1
  v11) fun v12 => .gop v10 true (.len false v12) fun v13 => .gop v10 true (.bin .leq .no v13 (.int .i64 (.ofNat 32))) fun v14 => .op (.pick v10 v14 (.bool false)) fun v15 => .gop
  v15 true (.faddr 2 v2) fun v16 => .gop v15 true (.load false 1 v16) fun v17 => .gop v15 true (.bin .geq .no v17 (.int .i64 (.ofNat 1))) fun v18 => .op (.pick v15 v18 (.bool
  false)) fun v19 => .gop v19 true (.faddr 2 v2) fun v20 => .gop v19 true (.load false 1 v20) fun v21 => .gop v19 true (.bin .leq .no v21 (.int .i64 (.ofNat 64))) fun v22 => .op
  (.pick v19 v22 (.bool false)) fun v23 => .gop v23 true (.faddr 3 v2) fun v24 => .gop v23 true (.load false 1 v24) fun v25 => .gcallf v23 true (.o (.o (.o (.o (.i (.i (.o
  .h))))))) [v25,(.str 0 [])] fun v26 => .op (.pick v23 v26 (.bool false)) fun v27 => .op (.faddr 0 v2) fun v28 => .op (.load false 1 v28) fun v29 => .op (.bin .add .no (.str 2
  [114,61]) v29) fun v30 => .op (.bin .add .no v30 (.str 3 [44,115,61])) fun v31 => .op (.faddr 1 v2) fun v32 => .op (.load false 1 v32) fun v33 => .op (.faddr 2 v2) fun v34 => .op
  (.load false 1 v34) fun v35 => .op (.faddr 3 v2) fun v36 => .op (.load false 1 v36) fun v37 => .callf (.o (.i (.o (.o (.i (.i (.o .h))))))) [v33] fun v38 => .chk false 1 v28 v29
  <| .chk false 1 v34 v35 <| .chk false 1 v36 v37 <| .op (.bin .add .no v31 v38) fun v39 => .op (.bin .add .no v39 (.str 3 [44,105,61])) fun v40 => .callf (.i (.i (.o (.o (.i (.i
  (.o .h))))))) [v35] fun v41 => .chk false 1 v28 v29 <| .chk false 1 v36 v37 <| .op (.bin .add .no v40 v41) fun v42 => .callf (.o (.o (.i (.o (.i (.i (.o .h))))))) [v37] fun v43
  => .chk false 1 v28 v29 <| .op (.bin .add .no v42 v43) fun v44 => .callf (.i (.o (.o (.o (.i (.i (.o .h))))))) [v44,v27] fun v45 => .op (.ext v45 0) fun v46 => .op (.ext v45 1)
  fun v47 => .setv (.i .h) v46 <| .setv (.o (.o .h)) v47 <| .ret) [.tmp (.i .h),.tmp (.o (.o .h))]
theorem F87_ok : toFn Tryz.prog 87 [2,3] = some F87 := by kernel_rfl
def F88 : FnE := .body (.arg 0 fun v1 => .op (.alloc [(.str 0 []),(.str 0 []),.nils,.nils] 207) fun v2 => .setv (.i .h) v2 <| .setv (.o (.o .h)) (.int .i64 (.ofNat 0)) <| .op (.len true v1) fun v3 => .op
  (.bin .gtr .no v3 (.int .i64 (.ofNat 4096))) fun v4 => .seq (.cond v4 (.op (.build [(.str 0 []),(.str 0 []),.nils,.nils] []) fun v5 => .op (.store 4 v2 v5) fun _ => .setv (.o (.o
  .h)) (.int .i64 (.ofNat 3)) <| .ret) (.fall)) <| .callf (.i (.o (.o (.o (.o (.i (.o .h))))))) [v1] fun v7 => .op (.alloc [(.str 0 []),(.str 0 []),.nils,.nils] 207) fun v8 =>
  .callf (.o (.o (.o (.i (.o (.i (.o .h))))))) [v7,(.str 1 [99])] fun v9 => .callf (.i (.o (.i (.o (.i (.i (.o .h))))))) [v7,v9,(.int .i64 (.ofNat 0)),(.int .i64 (.ofNat 4096))]
  fun v10 => .op (.b2s v10) fun v11 => .op (.faddr 0 v8) fun v12 => .op (.store 1 v12 v11) fun _ => .op (.faddr 0 v8) fun v14 => .op (.load false 1 v14) fun v15 => .callf (.o (.i
  (.i (.o (.i (.i (.o .h))))))) [v15] fun v16 => .op (.ext v16 0) fun v17 => .op (.ext v16 1) fun v18 => .callf (.o (.i (.o (.o (.o (.i (.o .h))))))) [v7,v17] fun _ => .callf (.o
  (.o (.o (.i (.o (.i (.o .h))))))) [v7,(.str 1 [114])] fun v20 => .callf (.i (.o (.o (.i (.o (.i (.o .h))))))) [v7,v20] fun v21 => .op (.faddr 1 v8) fun v22 => .op (.store 1 v22
  v21) fun _ => .callf (.o (.i (.o (.i (.o (.i (.o .h))))))) [v7,(.int .i64 (.ofNat 1))] fun v24 => .op (.faddr 2 v8) fun v25 => .op (.store 1 v25 v24) fun _ => .op (.faddr 2 v8)
  fun v27 => .op (.load false 1 v27) fun v28 => .op (.len false v28) fun v29 => .setv (.o (.o (.i (.i (.o .h))))) (.int .i64 (.ofNat 0)) <| .seq (.block 0 (.seq (.loop (.getv (.o
  (.o (.i (.i (.o .h))))) fun v30 => .op (.bin .lss .no v30 v29) fun v31 => .seq (.cond v31 (.fall) ((.exit 0))) <| .seq (.block 1 (.op (.islc 2 v28 v30) fun v32 => .op (.load true
  2 v32) fun v33 => .op (.alloc [(.str 0 []),(.str 0 [])] 305) fun v34 => .op (.store 2 v34 v33) fun _ => .op (.faddr 0 v34) fun v36 => .op (.load false 1 v36) fun v37 => .op (.bin
  .neq .no v37 (.str 1 [112])) fun v38 => .callf (.o (.i (.o (.o (.o (.i (.o .h))))))) [v7,v38] fun _ => .fall)) <| .op (.bin .add .no v30 (.int .i64 (.ofNat 1))) fun v40 => .setv
  (.o (.o (.i (.i (.o .h))))) v40 <| .fall)) <| .fall)) <| .callf (.o (.o (.o (.i (.o (.i (.o .h))))))) [v7,(.str 1 [112])] fun v41 => .callf (.i (.o (.i (.o (.i (.i (.o .h)))))))
  [v7,v41,(.int .i64 (.ofNat 32)),(.int .i64 (.ofNat 32))] fun v42 => .op (.faddr 3 v8) fun v43 => .op (.store 1 v43 v42) fun _ => .gop v18 false (.faddr 2 v8) fun v45 => .gop v18
  false (.load false 1 v45) fun v46 => .gcallf v18 false (.o (.o (.i (.i (.o (.i (.o .h))))))) [v46] fun v47 => .op (.pick v18 (.bool true) v47) fun v48 => .callf (.i (.i (.o (.i
  (.o (.i (.o .h))))))) [v7,v48] fun v49 => .op (.bin .neq .no v49 (.int .i64 (.ofNat 0))) fun v50 => .seq (.cond v50 (.op (.build [(.str 0 []),(.str 0 []),.nils,.nils] []) fun v51
  => .op (.store 4 v2 v51) fun _ => .setv (.o (.o .h)) v49 <| .ret) (.fall)) <| .op (.load true 4 v8) fun v53 => .op (.store 4 v2 v53) fun _ => .setv (.o (.o .h)) (.int .i64
  (.ofNat 0)) <| .ret) [.cell (.i .h) true 4,.tmp (.o (.o .h))]
theorem F88_ok : toFn Tryz.prog 88 [2,3,43] = some F88 := by kernel_rfl
def F89 : FnE := .body (.arg 0 fun v1 => .arg 1 fun v2 => .arg 2 fun v3 => .op (.box 207 v2) fun v4 => .setv (.i (.i .h)) (.int .i64 (.ofNat 0)) <| .op (.load true 4 v4) fun v5 => .callf (.i (.i (.o (.i
  (.i (.o .h)))))) [v5] fun v6 => .op (.ext v6 0) fun v7 => .op (.ext v6 1) fun _ => .op (.nilck v1) fun v9 => .op (.faddr 11 v9) fun v10 => .op (.load false 1 v10) fun v11 => .op
  (.nilck v1) fun v12 => .op (.faddr 12 v12) fun v13 => .op (.load false 1 v13) fun v14 => .callf (.i (.o (.i (.i (.i (.o .h)))))) [v11,v14,v7] fun v15 => .op (.nilck v1) fun v16
  => .op (.faddr 0 v16) fun v17 => .op (.faddr 2 v17) fun v18 => .op (.load false 1 v18) fun v19 => .op (.nilck v1) fun v20 => .op (.faddr 13 v20) fun v21 => .op (.load false 1
  v21) fun v22 => .callf (.o (.i (.i (.o .h)))) [v19,v22,v3] fun v23 => .op (.nilck v1) fun v24 => .op (.faddr 0 v24) fun v25 => .op (.faddr 0 v25) fun v26 => .op (.load false 1
  v26) fun v27 => .op (.nilck v1) fun v28 => .op (.faddr 15 v28) fun v29 => .op (.faddr 2 v29) fun v30 => .op (.load true 5 v30) fun v31 => .op (.faddr 3 v4) fun v32 => .op (.load
  false 1 v32) fun v33 => .callf (.i (.i (.i (.o (.i (.i (.o .h))))))) [v27,v31,v15,v33] fun v34 => .op (.nilck v1) fun v35 => .op (.faddr 26 v35) fun v36 => .op (.store 1 v36
  (.bool true)) fun _ => .seq (.block 0 (.op (.faddr 0 v4) fun v38 => .op (.load false 1 v38) fun v39 => .op (.nilck v1) fun v40 => .op (.faddr 6 v40) fun v41 => .op (.load true 5
  v41) fun v42 => .callf (.o (.o (.o (.i (.i (.i (.o .h))))))) [v42] fun v43 => .chk false 1 v38 v39 <| .op (.bin .neq .no v39 v43) fun v44 => .gop v44 false (.faddr 1 v4) fun v45
  => .gop v44 false (.load false 1 v45) fun v46 => .gop v44 false (.mv v1) fun v47 => .gop v44 false (.nilck v47) fun v48 => .gop v44 false (.faddr 14 v48) fun v49 => .gop v44
  false (.load false 1 v49) fun v50 => .gop v44 false (.bin .neq .no v46 v50) fun v51 => .op (.pick v44 (.bool true) v51) fun v52 => .seq (.cond v52 (.setv (.i (.i .h)) (.int .i64
  (.ofNat 4)) <| .ret) (.op (.bin .neq .no v23 (.int .i64 (.ofNat 0))) fun v53 => .seq (.cond v53 (.setv (.i (.i .h)) v23 <| .ret) (.op (.bin .neq .no v34 (.int .i64 (.ofNat 0)))
  fun v54 => .gop v54 false (.mv v1) fun v55 => .gop v54 false (.nilck v55) fun v56 => .gop v54 false (.faddr 25 v56) fun v57 => .gop v54 false (.load false 1 v57) fun v58 => .op
  (.pick v54 (.bool true) v58) fun v59 => .seq (.cond v59 (.setv (.i (.i .h)) (.int .i64 (.ofNat 13)) <| .ret) (.op (.nilck v1) fun v60 => .op (.faddr 0 v60) fun v61 => .op (.faddr
  1 v61) fun v62 => .op (.load false 1 v62) fun v63 => .op (.nilck v1) fun v64 => .op (.faddr 4 v64) fun v65 => .op (.load false 1 v65) fun v66 => .op (.nilck v1) fun v67 => .op
  (.faddr 15 v67) fun v68 => .op (.faddr 1 v68) fun v69 => .op (.load false 1 v69) fun v70 => .op (.nilck v1) fun v71 => .op (.faddr 15 v71) fun v72 => .op (.faddr 7 v72) fun v73
  => .op (.load false 1 v73) fun v74 => .callf (.i (.o (.o (.i (.i (.i (.o .h))))))) [v63,v66,v70,v74] fun v75 => .op (.un .not v75) fun v76 => .seq (.cond v76 (.setv (.i (.i .h))
  (.int .i64 (.ofNat 16)) <| .ret) (.fall)) <| .fall)) <| .fall)) <| .fall)) <| .fall)) <| .setv (.i (.i .h)) (.int .i64 (.ofNat 0)) <| .ret) [.tmp (.i (.i .h))]
theorem F89_ok : toFn Tryz.prog 89 [6] = some F89 := by kernel_rfl
def F90 : FnE := .body (.arg 0 fun v1 => .op (.box 207 v1) fun v2 => .setv (.i .h) (.str 0 []) <| .setv (.o (.o .h)) (.int .i64 (.ofNat 0)) <| .op (.load true 4 v2) fun v3 => .callf (.o (.i (.o (.i (.i
  (.i (.o .h))))))) [v3] fun v4 => .op (.ext v4 0) fun _ => .op (.ext v4 1) fun v6 => .op (.bin .neq .no v6 (.int .i64 (.ofNat 0))) fun v7 => .seq (.cond v7 (.setv (.i .h) (.str 0
  []) <| .setv (.o (.o .h)) v6 <| .ret) (.fall)) <| .op (.load true 4 v2) fun v8 => .callf (.i (.i (.o (.i (.i (.i (.o .h))))))) [v8] fun v9 => .setv (.i .h) v9 <| .setv (.o (.o
  .h)) (.int .i64 (.ofNat 0)) <| .ret) [.tmp (.i .h),.tmp (.o (.o .h))]
theorem F90_ok : toFn Tryz.prog 90 [2,3] = some F90 := by kernel_rfl
def F91 : FnE := .body (.arg 0 fun v1 => .arg 1 fun v2 => .arg 2 fun v3 => .op (.box 45 v2) fun v4 => .setv (.i (.i .h)) .nils <| .op (.faddr 3 v4) fun v5 => .op (.load false 1 v5) fun v6 => .op (.s2b 5
  v3) fun v7 => .op (.bslice 43 1 1 [.nils] [(0,v7)]) fun v8 => .callf (.i (.o (.o (.o (.i (.i .h)))))) [v1,v6,v8] fun v9 => .setv (.i (.i .h)) v9 <| .ret) [.tmp (.i (.i .h))]
theorem F91_ok : toFn Tryz.prog 91 [6] = some F91 := by kernel_rfl
def F92 : FnE := .body (.arg 0 fun v1 => .arg 1 fun v2 => .arg 2 fun v3 => .setv (.i (.i .h)) (.str 0 []) <| .op (.bslice 9 1 3 [(.str 0 [])] [(0,v1),(1,v2),(2,v3)]) fun v4 => .callf (.o (.o (.i (.i (.i
  (.i (.o .h))))))) [v4,(.str 1 [44])] fun v5 => .setv (.i (.i .h)) v5 <| .ret) [.tmp (.i (.i .h))]
theorem F92_ok : toFn Tryz.prog 92 [6] = some F92 := by kernel_rfl
def F93 : FnE := .body (.arg 0 fun v1 => .op (.box 214 v1) fun v2 => .setv (.i .h) (.str 0 []) <| .setv (.o (.o .h)) (.int .i64 (.ofNat 0)) <| .op (.faddr 0 v2) fun v3 => .op (.load false 1 v3) fun v4 =>
  .op (.len false v4) fun v5 => .op (.bin .eql .no v5 (.int .i64 (.ofNat 32))) fun v6 => .gop v6 true (.faddr 1 v2) fun v7 => .gop v6 true (.load false 1 v7) fun v8 => .gop v6 true
  (.bin .eql .no v8 (.str 0 [])) fun v9 => .op (.pick v6 v9 (.bool false)) fun v10 => .op (.faddr 0 v2) fun v11 => .op (.load false 1 v11) fun v12 => .op (.len false v12) fun v13
  => .op (.bin .eql .no v13 (.int .i64 (.ofNat 0))) fun v14 => .gop v14 true (.faddr 1 v2) fun v15 => .gop v14 true (.load false 1 v15) fun v16 => .gcallf v14 true (.i (.i (.i (.o
  (.o (.i (.o .h))))))) [v16] fun v17 => .op (.pick v14 v17 (.bool false)) fun v18 => .op (.faddr 0 v2) fun v19 => .op (.load false 1 v19) fun v20 => .callf (.o (.i (.o (.o (.i (.i
  (.o .h))))))) [v20] fun v21 => .op (.bin .add .no (.str 2 [118,61]) v21) fun v22 => .setv (.i (.i .h)) v22 <| .seq (.cond v18 (.op (.faddr 1 v2) fun v23 => .op (.load false 1
  v23) fun v24 => .op (.bin .add .no (.str 2 [101,61]) v24) fun v25 => .setv (.i (.i .h)) v25 <| .fall) (.fall)) <| .getv (.i (.i .h)) fun v26 => .op (.faddr 2 v2) fun v27 => .op
  (.load false 1 v27) fun v28 => .callf (.o (.o (.i (.o (.i (.i (.o .h))))))) [v28] fun v29 => .op (.bin .add .no v26 v29) fun v30 => .gop v10 false (.mv v18) fun v31 => .op (.pick
  v10 (.bool true) v31) fun v32 => .gop v32 true (.faddr 2 v2) fun v33 => .gop v32 true (.load false 1 v33) fun v34 => .gcallf v32 true (.o (.o (.o (.o (.i (.i (.o .h)))))))
  [v34,(.str 0 [])] fun v35 => .op (.pick v32 v35 (.bool false)) fun v36 => .callf (.i (.o (.o (.o (.i (.i (.o .h))))))) [v30,v36] fun v37 => .op (.ext v37 0) fun v38 => .op (.ext
  v37 1) fun v39 => .setv (.i .h) v38 <| .setv (.o (.o .h)) v39 <| .ret) [.tmp (.i .h),.tmp (.o (.o .h))]
theorem F93_ok : toFn Tryz.prog 93 [2,3,6] = some F93 := by kernel_rfl
def F94 : FnE := .body (.arg 0 fun v1 => .op (.alloc [(.int .i64 (.ofNat 0)),(.str 0 []),(.str 0 []),(.str 0 []),(.str 0 []),.nils,.nils,(.int .i64 (.ofNat 0)),(.str 0 []),.nils,(.str 0 [])] 216) fun v2
  => .setv (.i .h) v2 <| .setv (.o (.o .h)) (.int .i64 (.ofNat 0)) <| .op (.len true v1) fun v3 => .op (.bin .gtr .no v3 (.int .i64 (.ofNat 4096))) fun v4 => .seq (.cond v4 (.callf
  (.i (.o (.i (.i (.i (.i (.o .h))))))) [(.int .i64 (.ofNat 3))] fun v5 => .op (.ext v5 0) fun v6 => .op (.ext v5 1) fun v7 => .op (.store 11 v2 v6) fun _ => .setv (.o (.o .h)) v7
  <| .ret) (.fall)) <| .callf (.o (.i (.i (.i (.i (.i (.o .h))))))) [v1] fun v9 => .setv (.i (.o .h)) v9 <| .op (.len false v9) fun v10 => .op (.bin .lss .no v10 (.int .i64 (.ofNat
  4))) fun v11 => .seq (.cond v11 (.callf (.i (.o (.i (.i (.i (.i (.o .h))))))) [(.int .i64 (.ofNat 4))] fun v12 => .op (.ext v12 0) fun v13 => .op (.ext v12 1) fun v14 => .op
  (.store 11 v2 v13) fun _ => .setv (.o (.o .h)) v14 <| .ret) (.fall)) <| .op (.build [(.int .i64 (.ofNat 0)),(.str 0 []),(.str 0 []),(.str 0 []),(.str 0 []),.nils,.nils,(.int .i64
  (.ofNat 0)),(.str 0 []),.nils,(.str 0 [])] [(0,1,(.int .i64 (.ofNat 1)))]) fun v16 => .op (.alloc [(.int .i64 (.ofNat 0)),(.str 0 []),(.str 0 []),(.str 0 []),(.str 0
  []),.nils,.nils,(.int .i64 (.ofNat 0)),(.str 0 []),.nils,(.str 0 [])] 216) fun v17 => .op (.store 11 v17 v16) fun _ => .op (.islc 1 v9 (.int .i64 (.ofNat 0))) fun v19 => .op
  (.load false 1 v19) fun v20 => .op (.islc 1 v9 (.int .i64 (.ofNat 1))) fun v21 => .op (.load false 1 v21) fun v22 => .callf (.i (.i (.i (.i (.i (.i (.o .h))))))) [v20,v22] fun
  v23 => .op (.ext v23 0) fun v24 => .op (.ext v23 1) fun v25 => .op (.ext v23 2) fun v26 => .op (.faddr 1 v17) fun v27 => .op (.store 1 v27 v24) fun _ => .op (.faddr 2 v17) fun
  v29 => .op (.store 1 v29 v25) fun _ => .op (.un .not v26) fun v31 => .seq (.cond v31 (.callf (.i (.o (.i (.i (.i (.i (.o .h))))))) [(.int .i64 (.ofNat 4))] fun v32 => .op (.ext
  v32 0) fun v33 => .op (.ext v32 1) fun v34 => .op (.store 11 v2 v33) fun _ => .setv (.o (.o .h)) v34 <| .ret) (.fall)) <| .op (.faddr 1 v17) fun v36 => .op (.load false 1 v36)
  fun v37 => .op (.bin .eql .no v37 (.str 1 [112])) fun v38 => .setv (.o (.o (.o .h))) v38 <| .op (.sslc 1 v9 (some (.int .i64 (.ofNat 2))) none none) fun v39 => .setv (.i (.o .h))
  v39 <| .op (.islc 1 v39 (.int .i64 (.ofNat 0))) fun v40 => .op (.load false 1 v40) fun v41 => .callf (.o (.o (.o (.o (.o (.o (.i .h))))))) [v41,(.str 2 [109,61])] fun v42 => .op
  (.ext v42 0) fun v43 => .op (.ext v42 1) fun v44 => .seq (.cond v44 (.callf (.i (.o (.o (.o (.o (.o (.i .h))))))) [v43] fun v45 => .op (.un .not v45) fun v46 => .seq (.cond v46
  (.callf (.i (.o (.i (.i (.i (.i (.o .h))))))) [(.int .i64 (.ofNat 4))] fun v47 => .op (.ext v47 0) fun v48 => .op (.ext v47 1) fun v49 => .op (.store 11 v2 v48) fun _ => .setv
  (.o (.o .h)) v49 <| .ret) (.fall)) <| .setv (.o (.o (.o .h))) (.bool true) <| .op (.sslc 1 v39 (some (.int .i64 (.ofNat 1))) none none) fun v51 => .setv (.i (.o .h)) v51 <|
  .fall) (.fall)) <| .getv (.i (.o .h)) fun v52 => .op (.len false v52) fun v53 => .op (.bin .lss .no v53 (.int .i64 (.ofNat 2))) fun v54 => .seq (.cond v54 (.callf (.i (.o (.i (.i
  (.i (.i (.o .h))))))) [(.int .i64 (.ofNat 4))] fun v55 => .op (.ext v55 0) fun v56 => .op (.ext v55 1) fun v57 => .op (.store 11 v2 v56) fun _ => .setv (.o (.o .h)) v57 <| .ret)
  (.fall)) <| .op (.islc 1 v52 (.int .i64 (.ofNat 0))) fun v59 => .op (.load false 1 v59) fun v60 => .callf (.o (.o (.o (.o (.o (.o (.i .h))))))) [v60,(.str 2 [110,61])] fun v61 =>
  .op (.ext v61 0) fun v62 => .op (.ext v61 1) fun v63 => .op (.islc 1 v52 (.int .i64 (.ofNat 1))) fun v64 => .op (.load false 1 v64) fun v65 => .callf (.o (.o (.o (.o (.o (.o (.i
  .h))))))) [v65,(.str 2 [114,61])] fun v66 => .op (.ext v66 0) fun v67 => .op (.ext v66 1) fun v68 => .callf (.o (.i (.o (.o (.o (.o (.i .h))))))) [v62] fun v69 => .op (.ext v69
  0) fun v70 => .op (.ext v69 1) fun v71 => .op (.sslc 1 v52 (some (.int .i64 (.ofNat 2))) none none) fun v72 => .callf (.i (.i (.o (.o (.o (.o (.i .h))))))) [v72] fun v73 => .op
  (.ext v73 0) fun v74 => .op (.ext v73 1) fun v75 => .op (.ext v73 2) fun v76 => .op (.un .not v63) fun v77 => .gop v77 false (.mv v68) fun v78 => .gop v77 false (.un .not v78)
  fun v79 => .op (.pick v77 (.bool true) v79) fun v80 => .gop v80 false (.mv v71) fun v81 => .gop v80 false (.un .not v81) fun v82 => .op (.pick v80 (.bool true) v82) fun v83 =>
  .gop v83 false (.mv v75) fun v84 => .gop v83 false (.un .not v84) fun v85 => .op (.pick v83 (.bool true) v85) fun v86 => .gop v86 false (.mv v67) fun v87 => .gcallf v86 false (.i
  (.i (.i (.o (.o (.o (.o .h))))))) [v87] fun v88 => .gop v86 false (.un .not v88) fun v89 => .op (.pick v86 (.bool true) v89) fun v90 => .seq (.cond v90 (.callf (.i (.o (.i (.i
  (.i (.i (.o .h))))))) [(.int .i64 (.ofNat 4))] fun v91 => .op (.ext v91 0) fun v92 => .op (.ext v91 1) fun v93 => .op (.store 11 v2 v92) fun _ => .setv (.o (.o .h)) v93 <| .ret)
  (.fall)) <| .op (.faddr 3 v17) fun v95 => .op (.store 1 v95 v70) fun _ => .op (.faddr 4 v17) fun v97 => .op (.store 1 v97 v67) fun _ => .op (.faddr 5 v17) fun v99 => .op (.store
  1 v99 v74) fun _ => .op (.load true 11 v17) fun v101 => .getv (.o (.o (.o .h))) fun v102 => .gop v102 false (.mv v76) fun v103 => .op (.pick v102 (.bool true) v103) fun v104 =>
  .callf (.o (.o (.i (.o (.o (.o (.i .h))))))) [v101,v104] fun v105 => .op (.ext v105 0) fun v106 => .op (.ext v105 1) fun v107 => .op (.store 11 v2 v106) fun _ => .setv (.o (.o
  .h)) v107 <| .ret) [.cell (.i .h) true 11,.tmp (.o (.o .h))]
theorem F94_ok : toFn Tryz.prog 94 [2,3,4,7] = some F94 := by kernel_rfl
def F95 : FnE := .body (.arg 0 fun v1 => .op (.alloc [(.int .i64 (.ofNat 0)),(.str 0 []),(.str 0 []),(.str 0 []),(.str 0 []),.nils,.nils,(.int .i64 (.ofNat 0)),(.str 0 []),.nils,(.str 0 [])] 216) fun v2
  => .setv (.i .h) v2 <| .setv (.o (.o .h)) (.int .i64 (.ofNat 0)) <| .op (.len true v1) fun v3 => .op (.bin .gtr .no v3 (.int .i64 (.ofNat 4096))) fun v4 => .seq (.cond v4 (.callf
  (.i (.o (.i (.i (.i (.i (.o .h))))))) [(.int .i64 (.ofNat 3))] fun v5 => .op (.ext v5 0) fun v6 => .op (.ext v5 1) fun v7 => .op (.store 11 v2 v6) fun _ => .setv (.o (.o .h)) v7
  <| .ret) (.fall)) <| .callf (.o (.i (.i (.i (.i (.i (.o .h))))))) [v1] fun v9 => .op (.len false v9) fun v10 => .op (.bin .lss .no v10 (.int .i64 (.ofNat 3))) fun v11 => .seq
  (.cond v11 (.callf (.i (.o (.i (.i (.i (.i (.o .h))))))) [(.int .i64 (.ofNat 4))] fun v12 => .op (.ext v12 0) fun v13 => .op (.ext v12 1) fun v14 => .op (.store 11 v2 v13) fun _
  => .setv (.o (.o .h)) v14 <| .ret) (.fall)) <| .op (.islc 1 v9 (.int .i64 (.ofNat 0))) fun v16 => .op (.load false 1 v16) fun v17 => .callf (.o (.o (.o (.o (.o (.o (.i .h)))))))
  [v17,(.str 2 [114,61])] fun v18 => .op (.ext v18 0) fun v19 => .op (.ext v18 1) fun v20 => .op (.islc 1 v9 (.int .i64 (.ofNat 1))) fun v21 => .op (.load false 1 v21) fun v22 =>
  .callf (.o (.o (.o (.o (.o (.o (.i .h))))))) [v22,(.str 2 [115,61])] fun v23 => .op (.ext v23 0) fun v24 => .op (.ext v23 1) fun v25 => .op (.islc 1 v9 (.int .i64 (.ofNat 2)))
  fun v26 => .op (.load false 1 v26) fun v27 => .callf (.o (.o (.o (.o (.o (.o (.i .h))))))) [v27,(.str 2 [105,61])] fun v28 => .op (.ext v28 0) fun v29 => .op (.ext v28 1) fun v30
  => .callf (.i (.o (.i (.o (.o (.o (.i .h))))))) [v24,(.int .i64 (.ofNat 1)),(.int .i64 (.ofNat 32))] fun v31 => .op (.ext v31 0) fun v32 => .op (.ext v31 1) fun v33 => .op (.sslc
  1 v9 (some (.int .i64 (.ofNat 3))) none none) fun v34 => .callf (.i (.i (.o (.o (.o (.o (.i .h))))))) [v34] fun v35 => .op (.ext v35 0) fun v36 => .op (.ext v35 1) fun v37 => .op
  (.ext v35 2) fun v38 => .op (.un .not v20) fun v39 => .gop v39 false (.mv v25) fun v40 => .gop v39 false (.un .not v40) fun v41 => .op (.pick v39 (.bool true) v41) fun v42 =>
  .gop v42 false (.mv v30) fun v43 => .gop v42 false (.un .not v43) fun v44 => .op (.pick v42 (.bool true) v44) fun v45 => .gop v45 false (.mv v33) fun v46 => .gop v45 false (.un
  .not v46) fun v47 => .op (.pick v45 (.bool true) v47) fun v48 => .gop v48 false (.mv v37) fun v49 => .gop v48 false (.un .not v49) fun v50 => .op (.pick v48 (.bool true) v50) fun
  v51 => .gop v51 false (.mv v19) fun v52 => .gcallf v51 false (.i (.i (.i (.o (.o (.o (.o .h))))))) [v52] fun v53 => .gop v51 false (.un .not v53) fun v54 => .op (.pick v51 (.bool
  true) v54) fun v55 => .gop v55 false (.mv v29) fun v56 => .gcallf v55 false (.o (.i (.i (.o (.o (.o (.i .h))))))) [v56] fun v57 => .gop v55 false (.bin .eql .no v57 (.int .i64
  (.ofNat 0))) fun v58 => .op (.pick v55 (.bool true) v58) fun v59 => .seq (.cond v59 (.callf (.i (.o (.i (.i (.i (.i (.o .h))))))) [(.int .i64 (.ofNat 4))] fun v60 => .op (.ext
  v60 0) fun v61 => .op (.ext v60 1) fun v62 => .op (.store 11 v2 v61) fun _ => .setv (.o (.o .h)) v62 <| .ret) (.fall)) <| .callf (.o (.i (.i (.o (.o (.o (.i .h))))))) [v29] fun
  v64 => .op (.build [(.int .i64 (.ofNat 0)),(.str 0 []),(.str 0 []),(.str 0 []),(.str 0 []),.nils,.nils,(.int .i64 (.ofNat 0)),(.str 0 []),.nils,(.str 0 [])] [(0,1,(.int .i64
  (.ofNat 2))),(4,1,v19),(6,1,v32),(7,1,v64),(5,1,v36)]) fun v65 => .callf (.o (.o (.i (.o (.o (.o (.i .h))))))) [v65,v38] fun v66 => .op (.ext v66 0) fun v67 => .op (.ext v66 1)
  fun v68 => .op (.store 11 v2 v67) fun _ => .setv (.o (.o .h)) v68 <| .ret) [.cell (.i .h) true 11,.tmp (.o (.o .h))]
theorem F95_ok : toFn Tryz.prog 95 [2,3] = some F95 := by kernel_rfl
def F96 : FnE := .body (.arg 0 fun v1 => .op (.box 216 v1) fun v2 => .setv (.i .h) (.str 0 []) <| .op (.faddr 2 v2) fun v3 => .op (.load false 1 v3) fun v4 => .op (.bin .eql .no v4 (.str 0 [])) fun v5 =>
  .seq (.cond v5 (.op (.faddr 1 v2) fun v6 => .op (.load false 1 v6) fun v7 => .op (.bin .add .no v7 (.str 2 [44,44])) fun v8 => .setv (.i .h) v8 <| .ret) (.fall)) <| .op (.faddr 1
  v2) fun v9 => .op (.load false 1 v9) fun v10 => .op (.bin .add .no v10 (.str 3 [44,97,61])) fun v11 => .op (.faddr 2 v2) fun v12 => .op (.load false 1 v12) fun v13 => .callf (.i
  (.i (.i (.o (.o (.o (.i .h))))))) [v13] fun v14 => .chk false 1 v9 v10 <| .op (.bin .add .no v11 v14) fun v15 => .op (.bin .add .no v15 (.str 1 [44])) fun v16 => .setv (.i .h)
  v16 <| .ret) [.tmp (.i .h)]
theorem F96_ok : toFn Tryz.prog 96 [2] = some F96 := by kernel_rfl
def F97 : FnE := .body (.arg 0 fun v1 => .op (.box 216 v1) fun v2 => .setv (.i .h) (.str 0 []) <| .op (.faddr 0 v2) fun v3 => .op (.load false 1 v3) fun v4 => .op (.bin .eql .no v4 (.int .i64 (.ofNat 1)))
  fun v5 => .seq (.cond v5 (.op (.faddr 3 v2) fun v6 => .op (.load false 1 v6) fun v7 => .op (.faddr 4 v2) fun v8 => .op (.load false 1 v8) fun v9 => .op (.faddr 5 v2) fun v10 =>
  .op (.load false 1 v10) fun v11 => .callf (.i (.i (.i (.o (.o (.o (.i .h))))))) [v7] fun v12 => .chk false 1 v8 v9 <| .chk false 1 v10 v11 <| .op (.bin .add .no (.str 2 [110,61])
  v12) fun v13 => .op (.bin .add .no v13 (.str 3 [44,114,61])) fun v14 => .op (.bin .add .no v14 v9) fun v15 => .callf (.o (.o (.o (.i (.o (.o (.i .h))))))) [v11] fun v16 => .chk
  false 1 v8 v9 <| .op (.bin .add .no v15 v16) fun v17 => .setv (.i .h) v17 <| .ret) (.fall)) <| .op (.faddr 8 v2) fun v18 => .op (.load false 1 v18) fun v19 => .op (.s2b 5 v19)
  fun v20 => .op (.faddr 4 v2) fun v21 => .op (.load false 1 v21) fun v22 => .op (.faddr 5 v2) fun v23 => .op (.load false 1 v23) fun v24 => .callf (.i (.o (.o (.i (.o (.o (.i
  .h))))))) [v20,(.bool false)] fun v25 => .chk false 1 v21 v22 <| .chk false 1 v23 v24 <| .op (.bin .add .no (.str 2 [99,61]) v25) fun v26 => .op (.bin .add .no v26 (.str 3
  [44,114,61])) fun v27 => .op (.bin .add .no v27 v22) fun v28 => .callf (.o (.o (.o (.i (.o (.o (.i .h))))))) [v24] fun v29 => .chk false 1 v21 v22 <| .op (.bin .add .no v28 v29)
  fun v30 => .setv (.i .h) v30 <| .ret) [.tmp (.i .h)]
theorem F97_ok : toFn Tryz.prog 97 [2] = some F97 := by kernel_rfl
def F98 : FnE := .body (.arg 0 fun v1 => .arg 1 fun v2 => .arg 2 fun v3 => .arg 3 fun v4 => .arg 4 fun v5 => .setv (.i (.i (.o .h))) .nils <| .setv (.o (.o (.i .h))) .nils <| .setv (.i (.o (.i .h))) (.int
  .i64 (.ofNat 0)) <| .callf (.i (.i (.i (.i (.o (.o .h)))))) [v2,(.int .i64 (.ofNat 64))] fun v6 => .op (.ext v6 0) fun v7 => .op (.ext v6 1) fun v8 => .op (.bin .neq .no v8 (.int
  .i64 (.ofNat 0))) fun v9 => .seq (.cond v9 (.setv (.i (.i (.o .h))) .nils <| .setv (.o (.o (.i .h))) .nils <| .setv (.i (.o (.i .h))) v8 <| .ret) (.fall)) <| .op (.len false v3)
  fun v10 => .op (.bin .lss .no v10 (.int .i64 (.ofNat 1))) fun v11 => .gop v11 false (.mv v3) fun v12 => .gop v11 false (.len false v12) fun v13 => .gop v11 false (.bin .gtr .no
  v13 (.int .i64 (.ofNat 32))) fun v14 => .op (.pick v11 (.bool true) v14) fun v15 => .gop v15 false (.mv v4) fun v16 => .gop v15 false (.bin .lss .no v16 (.int .i64 (.ofNat 1)))
  fun v17 => .op (.pick v15 (.bool true) v17) fun v18 => .gop v18 false (.mv v4) fun v19 => .gop v18 false (.bin .gtr .no v19 (.int .i64 (.ofNat 64))) fun v20 => .op (.pick v18
  (.bool true) v20) fun v21 => .seq (.cond v21 (.setv (.i (.i (.o .h))) .nils <| .setv (.o (.o (.i .h))) .nils <| .setv (.i (.o (.i .h))) (.int .i64 (.ofNat 1)) <| .ret) (.fall))
  <| .op (.s2b 5 v7) fun v22 => .callf (.i (.o (.i (.o (.i (.i .h)))))) [v1,v22,v3,v4] fun v23 => .op (.bslice 5 1 10 [(.int .u8 (.ofNat 0))] [(0,(.int .u8 (.ofNat 67))),(1,(.int
  .u8 (.ofNat 108))),(2,(.int .u8 (.ofNat 105))),(3,(.int .u8 (.ofNat 101))),(4,(.int .u8 (.ofNat 110))),(5,(.int .u8 (.ofNat 116))),(6,(.int .u8 (.ofNat 32))),(7,(.int .u8 (.ofNat
  75))),(8,(.int .u8 (.ofNat 101))),(9,(.int .u8 (.ofNat 121)))]) fun v24 => .op (.s2s v24) fun v25 => .callf (.o (.i (.i (.o (.i (.i .h)))))) [v1,v23,v25] fun v26 => .callf (.o
  (.o (.o (.i (.i (.i .h)))))) [v1,v26] fun v27 => .op (.bslice 5 1 10 [(.int .u8 (.ofNat 0))] [(0,(.int .u8 (.ofNat 83))),(1,(.int .u8 (.ofNat 101))),(2,(.int .u8 (.ofNat
  114))),(3,(.int .u8 (.ofNat 118))),(4,(.int .u8 (.ofNat 101))),(5,(.int .u8 (.ofNat 114))),(6,(.int .u8 (.ofNat 32))),(7,(.int .u8 (.ofNat 75))),(8,(.int .u8 (.ofNat
  101))),(9,(.int .u8 (.ofNat 121)))]) fun v28 => .op (.s2s v28) fun v29 => .callf (.o (.i (.i (.o (.i (.i .h)))))) [v1,v23,v29] fun v30 => .op (.s2b 5 v5) fun v31 => .callf (.o
  (.i (.i (.o (.i (.i .h)))))) [v1,v27,v31] fun v32 => .callf (.o (.i (.o (.i (.o (.o (.i .h))))))) [v1,v26,v32] fun v33 => .op (.s2b 5 v5) fun v34 => .callf (.o (.i (.i (.o (.i
  (.i .h)))))) [v1,v30,v34] fun v35 => .setv (.i (.i (.o .h))) v33 <| .setv (.o (.o (.i .h))) v35 <| .setv (.i (.o (.i .h))) (.int .i64 (.ofNat 0)) <| .ret) [.tmp (.i (.i (.o .h))),.tmp (.o (.o (.i .h))),.tmp (.i (.o (.i .h)))]
theorem F98_ok : toFn Tryz.prog 98 [10,11,12] = some F98 := by kernel_rfl
def F99 : FnE := .body (.arg 0 fun v1 => .arg 1 fun v2 => .arg 2 fun v3 => .arg 3 fun v4 => .arg 4 fun v5 => .setv (.i (.i (.o .h))) .nils <| .setv (.o (.o (.i .h))) .nils <| .setv (.i (.o (.i .h))) (.int
  .i64 (.ofNat 0)) <| .callf (.i (.i (.o (.i (.o (.o (.i .h))))))) [v1,v2,v3,v4] fun v6 => .op (.ext v6 0) fun v7 => .op (.ext v6 1) fun v8 => .op (.alloc [.nils,.nils,.nils] 318)
  fun v9 => .op (.store 3 v9 v7) fun _ => .op (.bin .neq .no v8 (.int .i64 (.ofNat 0))) fun v11 => .seq (.cond v11 (.setv (.i (.i (.o .h))) .nils <| .setv (.o (.o (.i .h))) .nils
  <| .setv (.i (.o (.i .h))) v8 <| .ret) (.fall)) <| .op (.faddr 0 v9) fun v12 => .op (.load false 1 v12) fun v13 => .op (.faddr 1 v9) fun v14 => .op (.load false 1 v14) fun v15 =>
  .op (.s2b 5 v5) fun v16 => .op (.bslice 43 1 1 [.nils] [(0,v16)]) fun v17 => .callf (.i (.o (.o (.o (.i (.i .h)))))) [v1,v15,v17] fun v18 => .chk false 1 v12 v13 <| .callf (.o
  (.o (.i (.i (.o (.o (.i .h))))))) [v1,v13,v18] fun v19 => .op (.ext v19 0) fun v20 => .op (.ext v19 1) fun v21 => .op (.bin .neq .no v21 (.int .i64 (.ofNat 0))) fun v22 => .seq
  (.cond v22 (.setv (.i (.i (.o .h))) .nils <| .setv (.o (.o (.i .h))) .nils <| .setv (.i (.o (.i .h))) v21 <| .ret) (.fall)) <| .op (.faddr 2 v9) fun v23 => .op (.load false 1
  v23) fun v24 => .op (.s2b 5 v5) fun v25 => .op (.bslice 43 1 1 [.nils] [(0,v25)]) fun v26 => .callf (.i (.o (.o (.o (.i (.i .h)))))) [v1,v24,v26] fun v27 => .setv (.i (.i (.o
  .h))) v20 <| .setv (.o (.o (.i .h))) v27 <| .setv (.i (.o (.i .h))) (.int .i64 (.ofNat 0)) <| .ret) [.tmp (.i (.i (.o .h))),.tmp (.o (.o (.i .h))),.tmp (.i (.o (.i .h)))]
theorem F99_ok : toFn Tryz.prog 99 [10,11,12] = some F99 := by kernel_rfl
def F100 : FnE := .body (.arg 0 fun v1 => .op (.box 216 v1) fun v2 => .setv (.i .h) (.str 0 []) <| .setv (.o (.o .h)) (.int .i64 (.ofNat 0)) <| .setv (.i (.o .h)) (.str 0 []) <| .op (.faddr 5 v2) fun v3 =>
  .op (.load false 1 v3) fun v4 => .op (.len false v4) fun v5 => .setv (.o (.i (.i .h))) (.int .i64 (.ofNat 0)) <| .seq (.block 0 (.seq (.loop (.getv (.o (.i (.i .h))) fun v6 =>
  .op (.bin .lss .no v6 v5) fun v7 => .seq (.cond v7 (.fall) ((.exit 0))) <| .seq (.block 1 (.op (.islc 2 v4 v6) fun v8 => .op (.load true 2 v8) fun v9 => .op (.alloc [(.str 0
  []),(.str 0 [])] 305) fun v10 => .op (.store 2 v10 v9) fun _ => .op (.faddr 0 v10) fun v12 => .op (.load false 1 v12) fun v13 => .op (.len true v13) fun v14 => .op (.bin .neq .no
  v14 (.int .i64 (.ofNat 1))) fun v15 => .gop v15 false (.faddr 0 v10) fun v16 => .gop v15 false (.load false 1 v16) fun v17 => .gop v15 false (.bin .eql .no v17 (.str 1 [109]))
  fun v18 => .op (.pick v15 (.bool true) v18) fun v19 => .seq (.cond v19 (.setv (.i .h) (.str 0 []) <| .setv (.o (.o .h)) (.int .i64 (.ofNat 4)) <| .ret) (.fall)) <| .fall)) <| .op
  (.bin .add .no v6 (.int .i64 (.ofNat 1))) fun v20 => .setv (.o (.i (.i .h))) v20 <| .fall)) <| .fall)) <| .op (.faddr 0 v2) fun v21 => .op (.load false 1 v21) fun v22 => .seq
  (.block 2 (.op (.bin .eql .no v22 (.int .i64 (.ofNat 1))) fun v23 => .seq (.cond v23 (.op (.load true 11 v2) fun v24 => .op (.load true 11 v2) fun v25 => .callf (.i (.o (.o (.o
  (.o (.i .h)))))) [v24] fun v26 => .chk true 11 v2 v25 <| .callf (.o (.i (.o (.o (.o (.i .h)))))) [v25] fun v27 => .op (.bin .add .no v26 v27) fun v28 => .setv (.i (.o .h)) v28 <|
  .fall) (.op (.bin .eql .no v22 (.int .i64 (.ofNat 2))) fun v29 => .seq (.cond v29 (.op (.faddr 4 v2) fun v30 => .op (.load false 1 v30) fun v31 => .op (.bin .add .no (.str 2
  [114,61]) v31) fun v32 => .op (.bin .add .no v32 (.str 3 [44,115,61])) fun v33 => .op (.faddr 6 v2) fun v34 => .op (.load false 1 v34) fun v35 => .op (.faddr 7 v2) fun v36 => .op
  (.load false 1 v36) fun v37 => .op (.faddr 5 v2) fun v38 => .op (.load false 1 v38) fun v39 => .callf (.i (.o (.o (.i (.o (.o (.i .h))))))) [v35,(.bool false)] fun v40 => .chk
  false 1 v30 v31 <| .chk false 1 v36 v37 <| .chk false 1 v38 v39 <| .op (.bin .add .no v33 v40) fun v41 => .op (.bin .add .no v41 (.str 3 [44,105,61])) fun v42 => .callf (.i (.o
  (.i (.i (.o (.o (.i .h))))))) [v37] fun v43 => .chk false 1 v30 v31 <| .chk false 1 v38 v39 <| .op (.bin .add .no v42 v43) fun v44 => .callf (.o (.o (.o (.i (.o (.o (.i .h)))))))
  [v39] fun v45 => .chk false 1 v30 v31 <| .op (.bin .add .no v44 v45) fun v46 => .setv (.i (.o .h)) v46 <| .fall) (.op (.bin .eql .no v22 (.int .i64 (.ofNat 3))) fun v47 => .seq
  (.cond v47 (.op (.load true 11 v2) fun v48 => .op (.faddr 9 v2) fun v49 => .op (.load false 1 v49) fun v50 => .callf (.o (.i (.o (.o (.o (.i .h)))))) [v48] fun v51 => .chk false
  1 v49 v50 <| .op (.bin .add .no v51 (.str 3 [44,112,61])) fun v52 => .callf (.i (.o (.o (.i (.o (.o (.i .h))))))) [v50,(.bool false)] fun v53 => .op (.bin .add .no v52 v53) fun
  v54 => .setv (.i (.o .h)) v54 <| .fall) (.op (.faddr 9 v2) fun v55 => .op (.load false 1 v55) fun v56 => .op (.faddr 5 v2) fun v57 => .op (.load false 1 v57) fun v58 => .callf
  (.i (.o (.o (.i (.o (.o (.i .h))))))) [v56,(.bool false)] fun v59 => .chk false 1 v57 v58 <| .op (.bin .add .no (.str 2 [118,61]) v59) fun v60 => .callf (.o (.o (.o (.i (.o (.o
  (.i .h))))))) [v58] fun v61 => .op (.bin .add .no v60 v61) fun v62 => .setv (.i (.o .h)) v62 <| .op (.faddr 9 v2) fun v63 => .op (.load false 1 v63) fun v64 => .op (.len false
  v64) fun v65 => .op (.bin .eql .no v65 (.int .i64 (.ofNat 0))) fun v66 => .seq (.cond v66 (.op (.faddr 10 v2) fun v67 => .op (.load false 1 v67) fun v68 => .op (.bin .add .no
  (.str 2 [101,61]) v68) fun v69 => .op (.faddr 5 v2) fun v70 => .op (.load false 1 v70) fun v71 => .callf (.o (.o (.o (.i (.o (.o (.i .h))))))) [v71] fun v72 => .chk false 1 v67
  v68 <| .op (.bin .add .no v69 v72) fun v73 => .setv (.i (.o .h)) v73 <| .fall) (.fall)) <| .fall)) <| .fall)) <| .fall)) <| .fall)) <| .getv (.i (.o .h)) fun v74 => .op (.len
  true v74) fun v75 => .op (.bin .gtr .no v75 (.int .i64 (.ofNat 4096))) fun v76 => .op (.faddr 0 v2) fun v77 => .op (.load false 1 v77) fun v78 => .callf (.o (.i (.i (.i (.o (.o
  (.i .h))))))) [v78,v74] fun v79 => .op (.ext v79 0) fun v80 => .op (.ext v79 1) fun v81 => .op (.alloc [(.int .i64 (.ofNat 0)),(.str 0 []),(.str 0 []),(.str 0 []),(.str 0
  []),.nils,.nils,(.int .i64 (.ofNat 0)),(.str 0 []),.nils,(.str 0 [])] 216) fun v82 => .op (.store 11 v82 v80) fun _ => .setv (.o (.i (.o .h))) v81 <| .seq (.cond v76 (.op (.load
  true 11 v2) fun v84 => .callf (.i (.i (.i (.i (.o (.o (.i .h))))))) [v84] fun v85 => .op (.ext v85 0) fun v86 => .op (.ext v85 1) fun v87 => .op (.store 11 v82 v86) fun _ =>
  .setv (.o (.i (.o .h))) v87 <| .fall) (.fall)) <| .getv (.o (.i (.o .h))) fun v89 => .op (.bin .neq .no v89 (.int .i64 (.ofNat 0))) fun v90 => .gop v90 false (.load true 11 v82)
  fun v91 => .gop v90 false (.load true 11 v2) fun v92 => .gcallf v90 false (.o (.o (.o (.o (.i (.o (.i .h))))))) [v91,v92] fun v93 => .gop v90 false (.un .not v93) fun v94 => .op
  (.pick v90 (.bool true) v94) fun v95 => .seq (.cond v95 (.setv (.i .h) (.str 0 []) <| .setv (.o (.o .h)) (.int .i64 (.ofNat 4)) <| .ret) (.fall)) <| .seq (.cond v76 (.setv (.i
  .h) (.str 0 []) <| .setv (.o (.o .h)) (.int .i64 (.ofNat 3)) <| .ret) (.fall)) <| .setv (.i .h) v74 <| .setv (.o (.o .h)) (.int .i64 (.ofNat 0)) <| .ret) [.tmp (.i .h),.tmp (.o (.o .h))]
theorem F100_ok : toFn Tryz.prog 100 [2,3,4,9,13] = some F100 := by kernel_rfl
def F101 : FnE := .body (.arg 0 fun v1 => .op (.box 48 v1) fun v2 => .op (.alloc [(.str 0 []),(.str 0 []),.nils,(.int .i64 (.ofNat 0)),.nils,.nils,.nils,(.int .u64 (.ofNat 0)),.nils,(.bool false)] 48) fun
  v3 => .setv (.i .h) v3 <| .op (.faddr 2 v2) fun v4 => .op (.nilck v4) fun v5 => .op (.faddr 0 v5) fun v6 => .op (.load false 1 v6) fun v7 => .op (.nilck v4) fun v8 => .op (.faddr
  2 v8) fun v9 => .op (.load false 1 v9) fun v10 => .op (.nilck v4) fun v11 => .op (.faddr 3 v11) fun v12 => .op (.load false 1 v12) fun v13 => .op (.nilck v4) fun v14 => .op
  (.faddr 4 v14) fun v15 => .op (.load false 1 v15) fun v16 => .callf (.i (.o (.o (.o (.i (.o (.i .h))))))) [v7] fun v17 => .chk false 1 v9 v10 <| .chk false 1 v12 v13 <| .chk
  false 1 v15 v16 <| .callf (.i (.o (.o (.o (.i (.o (.i .h))))))) [v10] fun v18 => .chk false 1 v12 v13 <| .chk false 1 v15 v16 <| .callf (.i (.o (.o (.o (.i (.o (.i .h)))))))
  [v13] fun v19 => .chk false 1 v15 v16 <| .callf (.i (.o (.o (.o (.i (.o (.i .h))))))) [v16] fun v20 => .op (.nilck v4) fun v21 => .op (.faddr 0 v21) fun v22 => .op (.store 1 v22
  v17) fun _ => .op (.nilck v4) fun v24 => .op (.faddr 2 v24) fun v25 => .op (.store 1 v25 v18) fun _ => .op (.nilck v4) fun v27 => .op (.faddr 3 v27) fun v28 => .op (.store 1 v28
  v19) fun _ => .op (.nilck v4) fun v30 => .op (.faddr 4 v30) fun v31 => .op (.store 1 v31 v20) fun _ => .op (.faddr 8 v2) fun v33 => .op (.load false 1 v33) fun v34 => .callf (.o
  (.i (.o (.o (.i (.o (.i .h))))))) [v34] fun v35 => .op (.faddr 8 v2) fun v36 => .op (.store 1 v36 v35) fun _ => .op (.load true 10 v2) fun v38 => .op (.store 10 v3 v38) fun _ =>
  .ret) [.cell (.i .h) true 10]
theorem F101_ok : toFn Tryz.prog 101 [2] = some F101 := by kernel_rfl
def F102 : FnE := .body (.arg 0 fun v1 => .op (.box 48 v1) fun v2 => .op (.alloc [(.str 0 []),(.str 0 []),.nils,(.int .i64 (.ofNat 0)),.nils,.nils,.nils,(.int .u64 (.ofNat 0)),.nils,(.bool false)] 48) fun
  v3 => .setv (.i .h) v3 <| .op (.faddr 2 v2) fun v4 => .op (.load true 5 v4) fun v5 => .op (.faddr 8 v2) fun v6 => .op (.load false 1 v6) fun v7 => .callf (.o (.i (.o (.i (.i (.i
  .h)))))) [v5] fun v8 => .chk false 1 v6 v7 <| .op (.faddr 2 v2) fun v9 => .callf (.o (.i (.o (.o (.i (.o (.i .h))))))) [v7] fun v10 => .op (.store 5 v9 v8) fun _ => .op (.faddr 8
  v2) fun v12 => .op (.store 1 v12 v10) fun _ => .op (.load true 10 v2) fun v14 => .op (.store 10 v3 v14) fun _ => .ret) [.cell (.i .h) true 10]
theorem F102_ok : toFn Tryz.prog 102 [2] = some F102 := by kernel_rfl
def F103 : FnE := .body (.arg 0 fun v1 => .setv (.i .h) .nilp <| .setv (.o (.o .h)) (.int .i64 (.ofNat 0)) <| .op (.bin .lss .no v1 (.int .i64 (.ofNat 1))) fun v2 => .gop v2 false (.mv v1) fun v3 => .gop
  v2 false (.bin .gtr .no v3 (.int .i64 (.ofNat 4096))) fun v4 => .op (.pick v2 (.bool true) v4) fun v5 => .seq (.cond v5 (.setv (.i .h) .nilp <| .setv (.o (.o .h)) (.int .i64
  (.ofNat 1)) <| .ret) (.fall)) <| .op (.mkmap) fun v6 => .op (.build [(.int .i64 (.ofNat 0)),.nils,.nils,.nilm,(.int .i64 (.ofNat 0)),(.int .i64 (.ofNat 0))]
  [(0,1,v1),(3,1,v6),(4,1,(.int .i64 (.negSucc 0))),(5,1,(.int .i64 (.negSucc 0)))]) fun v7 => .op (.box 287 v7) fun v8 => .setv (.i .h) v8 <| .setv (.o (.o .h)) (.int .i64 (.ofNat
  0)) <| .ret) [.tmp (.i .h),.tmp (.o (.o .h))]
theorem F103_ok : toFn Tryz.prog 103 [2,3] = some F103 := by kernel_rfl
def F104 : FnE := .body (.arg 0 fun v1 => .arg 1 fun v2 => .setv (.i (.o .h)) .nilm <| .op (.bin .eql .ptr v1 .nilp) fun v3 => .seq (.cond v3 (.setv (.i (.o .h)) .nilm <| .ret) (.fall)) <| .op (.nilck v1)
  fun v4 => .op (.faddr 0 v4) fun v5 => .op (.load false 1 v5) fun v6 => .op (.lookup true .nilm false v6 v2) fun v7 => .setv (.i (.o .h)) v7 <| .ret) [.tmp (.i (.o .h))]
theorem F104_ok : toFn Tryz.prog 104 [4] = some F104 := by kernel_rfl
def F105 : FnE := .body (.arg 0 fun v1 => .setv (.i .h) (.bool false) <| .setv (.o (.o .h)) (.int .i64 (.ofNat 0)) <| .seq (.block 0 (.seq (.loop (.getv (.o (.o .h)) fun v2 => .op (.len true v1) fun v3 =>
  .op (.bin .lss .no v2 v3) fun v4 => .seq (.cond v4 (.fall) ((.exit 0))) <| .seq (.block 1 (.op (.ixstr v1 v2) fun v5 => .op (.bin .geq .no v5 (.int .u8 (.ofNat 97))) fun v6 =>
  .gop v6 true (.mv v5) fun v7 => .gop v6 true (.bin .leq .no v7 (.int .u8 (.ofNat 122))) fun v8 => .op (.pick v6 v8 (.bool false)) fun v9 => .gop v9 false (.mv v5) fun v10 => .gop
  v9 false (.bin .geq .no v10 (.int .u8 (.ofNat 48))) fun v11 => .gop v9 false (.mv v11) fun v12 => .gop v12 true (.mv v5) fun v13 => .gop v12 true (.bin .leq .no v13 (.int .u8
  (.ofNat 57))) fun v14 => .gop v9 false (.pick v12 v14 (.bool false)) fun v15 => .op (.pick v9 (.bool true) v15) fun v16 => .gop v16 false (.mv v5) fun v17 => .gop v16 false (.bin
  .eql .no v17 (.int .u8 (.ofNat 45))) fun v18 => .op (.pick v16 (.bool true) v18) fun v19 => .gop v19 false (.mv v5) fun v20 => .gop v19 false (.bin .eql .no v20 (.int .u8 (.ofNat
  95))) fun v21 => .op (.pick v19 (.bool true) v21) fun v22 => .op (.un .not v22) fun v23 => .seq (.cond v23 (.setv (.i .h) (.bool false) <| .ret) (.fall)) <| .fall)) <| .op (.bin
  .add .no v2 (.int .i64 (.ofNat 1))) fun v24 => .setv (.o (.o .h)) v24 <| .fall)) <| .fall)) <| .op (.len true v1) fun v25 => .op (.bin .geq .no v25 (.int .i64 (.ofNat 1))) fun
  v26 => .gop v26 true (.mv v1) fun v27 => .gop v26 true (.len true v27) fun v28 => .gop v26 true (.bin .leq .no v28 (.int .i64 (.ofNat 32))) fun v29 => .op (.pick v26 v29 (.bool
  false)) fun v30 => .setv (.i .h) v30 <| .ret) [.tmp (.i .h)]
theorem F105_ok : toFn Tryz.prog 105 [2,3] = some F105 := by kernel_rfl
def F106 : FnE := .body (.arg 0 fun v1 => .arg 1 fun v2 => .setv (.i (.o .h)) (.bool false) <| .op (.len false v1) fun v3 => .setv (.o (.i (.o .h))) (.int .i64 (.ofNat 0)) <| .seq (.block 0 (.seq (.loop
  (.getv (.o (.i (.o .h))) fun v4 => .op (.bin .lss .no v4 v3) fun v5 => .seq (.cond v5 (.fall) ((.exit 0))) <| .seq (.block 1 (.op (.islc 1 v1 v4) fun v6 => .op (.load false 1 v6)
  fun v7 => .op (.bin .eql .no v7 v2) fun v8 => .seq (.cond v8 (.setv (.i (.o .h)) (.bool true) <| .ret) (.fall)) <| .fall)) <| .op (.bin .add .no v4 (.int .i64 (.ofNat 1))) fun v9
  => .setv (.o (.i (.o .h))) v9 <| .fall)) <| .fall)) <| .setv (.i (.o .h)) (.bool false) <| .ret) [.tmp (.i (.o .h))]
theorem F106_ok : toFn Tryz.prog 106 [4,9] = some F106 := by kernel_rfl
def F107 : FnE := .body (.arg 0 fun v1 => .arg 1 fun v2 => .setv (.i (.o .h)) .nils <| .setv (.o (.i .h)) (.int .i64 (.ofNat 0)) <| .seq (.block 0 (.seq (.loop (.getv (.o (.i .h)) fun v3 => .op (.len false
  v1) fun v4 => .op (.bin .lss .no v3 v4) fun v5 => .gop v5 true (.mv v1) fun v6 => .gop v5 true (.mv v3) fun v7 => .gop v5 true (.islc 1 v6 v7) fun v8 => .gop v5 true (.load false
  1 v8) fun v9 => .gop v5 true (.mv v2) fun v10 => .gop v5 true (.bin .lss .no v9 v10) fun v11 => .op (.pick v5 v11 (.bool false)) fun v12 => .seq (.cond v12 (.fall) ((.exit 0)))
  <| .seq (.block 1 (.op (.bin .add .no v3 (.int .i64 (.ofNat 1))) fun v13 => .setv (.o (.i .h)) v13 <| .fall)) <| .fall)) <| .fall)) <| .op (.bslice 9 1 0 [(.str 0 [])] []) fun
  v14 => .getv (.o (.i .h)) fun v15 => .op (.sslc 1 v1 none (some v15) none) fun v16 => .op (.sslc 1 v1 (some v15) none none) fun v17 => .op (.app 9 1 16 v14 v16) fun v18 => .op
  (.bslice 9 1 1 [(.str 0 [])] [(0,v2)]) fun v19 => .op (.app 9 1 16 v18 v19) fun v20 => .op (.app 9 1 16 v20 v17) fun v21 => .setv (.i (.o .h)) v21 <| .ret) [.tmp (.i (.o .h))]
theorem F107_ok : toFn Tryz.prog 107 [4,5] = some F107 := by kernel_rfl
def F108 : FnE := .body (.arg 0 fun v1 => .setv (.i .h) (.str 0 []) <| .setv (.o (.o .h)) (.int .i64 (.ofNat 0)) <| .callf (.i (.i (.o (.o (.i (.o (.i .h))))))) [v1,(.int .i64 (.ofNat 32))] fun v2 => .op
  (.ext v2 0) fun v3 => .op (.ext v2 1) fun v4 => .setv (.i .h) v3 <| .setv (.o (.o .h)) v4 <| .ret) [.tmp (.i .h),.tmp (.o (.o .h))]
theorem F108_ok : toFn Tryz.prog 108 [2,3] = some F108 := by kernel_rfl
def F109 : FnE := .body (.arg 0 fun v1 => .setv (.i .h) (.str 0 []) <| .setv (.o (.o .h)) (.int .i64 (.ofNat 0)) <| .callf (.i (.i (.o (.o (.i (.o (.i .h))))))) [v1,(.int .i64 (.ofNat 64))] fun v2 => .op
  (.ext v2 0) fun v3 => .op (.ext v2 1) fun v4 => .setv (.i .h) v3 <| .setv (.o (.o .h)) v4 <| .ret) [.tmp (.i .h),.tmp (.o (.o .h))]
theorem F109_ok : toFn Tryz.prog 109 [2,3] = some F109 := by kernel_rfl
def F110 : FnE := .body (.arg 0 fun v1 => .arg 1 fun v2 => .setv (.i (.o .h)) (.bool false) <| .op (.len false v1) fun v3 => .op (.bin .geq .no v3 (.int .i64 (.ofNat 1))) fun v4 => .gop v4 true (.mv v1)
  fun v5 => .gop v4 true (.len false v5) fun v6 => .gop v4 true (.bin .leq .no v6 (.int .i64 (.ofNat 32))) fun v7 => .op (.pick v4 v7 (.bool false)) fun v8 => .gop v8 true (.mv v2)
  fun v9 => .gop v8 true (.bin .geq .no v9 (.int .i64 (.ofNat 1))) fun v10 => .op (.pick v8 v10 (.bool false)) fun v11 => .gop v11 true (.mv v2) fun v12 => .gop v11 true (.bin .leq
  .no v12 (.int .i64 (.ofNat 64))) fun v13 => .op (.pick v11 v13 (.bool false)) fun v14 => .setv (.i (.o .h)) v14 <| .ret) [.tmp (.i (.o .h))]
theorem F110_ok : toFn Tryz.prog 110 [4] = some F110 := by kernel_rfl
def F111 : FnE := .body (.arg 0 fun v1 => .arg 1 fun v2 => .arg 2 fun v3 => .arg 3 fun v4 => .setv (.i (.o (.o .h))) .nils <| .setv (.o (.i (.o .h))) (.int .i64 (.ofNat 0)) <| .seq (.block 0 (.op (.bin
  .eql .ptr v1 .nilp) fun v5 => .seq (.cond v5 (.setv (.i (.o (.o .h))) .nils <| .setv (.o (.i (.o .h))) (.int .i64 (.ofNat 6)) <| .ret) (.op (.bin .lss .no v4 (.int .i64 (.ofNat
  1))) fun v6 => .gop v6 false (.mv v4) fun v7 => .gop v6 false (.bin .gtr .no v7 (.int .i64 (.ofNat 64))) fun v8 => .op (.pick v6 (.bool true) v8) fun v9 => .seq (.cond v9 (.setv
  (.i (.o (.o .h))) .nils <| .setv (.o (.i (.o .h))) (.int .i64 (.ofNat 1)) <| .ret) (.op (.nilck v1) fun v10 => .op (.faddr 0 v10) fun v11 => .op (.load false 1 v11) fun v12 =>
  .seq (.cond v12 (.op (.build [(.int .i64 (.ofNat 0)),.nils,.nils,(.int .i64 (.ofNat 0)),.nils,.nils] [(0,1,(.int .i64 (.ofNat 3))),(1,1,v2),(2,1,v3),(3,1,v4)]) fun v13 => .callf
  (.o (.o (.i (.o (.i (.o (.i .h))))))) [v1,v13] fun v14 => .setv (.i (.o (.o .h))) v14 <| .setv (.o (.i (.o .h))) (.int .i64 (.ofNat 0)) <| .ret) (.fall)) <| .fall)) <| .fall)) <|
  .fall)) <| .callf (.i (.o (.i (.o (.i (.o (.i .h))))))) [v2,v3,v4,(.int .i64 (.ofNat 32))] fun v15 => .op (.ext v15 0) fun v16 => .op (.ext v15 1) fun v17 => .setv (.i (.o (.o
  .h))) v16 <| .setv (.o (.i (.o .h))) v17 <| .ret) [.tmp (.i (.o (.o .h))),.tmp (.o (.i (.o .h)))]
theorem F111_ok : toFn Tryz.prog 111 [8,9] = some F111 := by kernel_rfl
def F112 : FnE := .body (.arg 0 fun v1 => .arg 1 fun v2 => .arg 2 fun v3 => .setv (.i (.i .h)) .nils <| .seq (.block 0 (.op (.bin .eql .ptr v1 .nilp) fun v4 => .seq (.cond v4 (.setv (.i (.i .h)) .nils <|
  .ret) (.op (.nilck v1) fun v5 => .op (.faddr 0 v5) fun v6 => .op (.load false 1 v6) fun v7 => .seq (.cond v7 (.callf (.o (.i (.i (.o (.i (.o (.i .h))))))) [v3,.nils] fun v8 =>
  .op (.build [(.int .i64 (.ofNat 0)),.nils,.nils,(.int .i64 (.ofNat 0)),.nils,.nils] [(0,1,(.int .i64 (.ofNat 2))),(1,1,v2),(2,1,v8)]) fun v9 => .callf (.o (.o (.i (.o (.i (.o (.i
  .h))))))) [v1,v9] fun v10 => .setv (.i (.i .h)) v10 <| .ret) (.fall)) <| .fall)) <| .fall)) <| .callf (.i (.i (.i (.o (.i (.o (.i .h))))))) [v2,v3] fun v11 => .setv (.i (.i .h))
  v11 <| .ret) [.tmp (.i (.i .h))]
theorem F112_ok : toFn Tryz.prog 112 [6] = some F112 := by kernel_rfl
def F113 : FnE := .body (.arg 0 fun v1 => .setv (.i .h) .nils <| .op (.bin .eql .slc v1 .nils) fun v2 => .seq (.cond v2 (.setv (.i .h) .nils <| .ret) (.fall)) <| .op (.bslice 5 1 0 [(.int .u8 (.ofNat 0))]
  []) fun v3 => .op (.app 5 1 1 v3 v1) fun v4 => .setv (.i .h) v4 <| .ret) [.tmp (.i .h)]
theorem F113_ok : toFn Tryz.prog 113 [2] = some F113 := by kernel_rfl
def F114 : FnE := .body (.arg 0 fun v1 => .arg 1 fun v2 => .setv (.i (.o .h)) .nils <| .seq (.block 0 (.op (.bin .eql .ptr v1 .nilp) fun v3 => .seq (.cond v3 (.setv (.i (.o .h)) .nils <| .ret) (.op (.nilck
  v1) fun v4 => .op (.faddr 0 v4) fun v5 => .op (.load false 1 v5) fun v6 => .seq (.cond v6 (.callf (.o (.i (.i (.o (.i (.o (.i .h))))))) [v2,.nils] fun v7 => .op (.build [(.int
  .i64 (.ofNat 0)),.nils,.nils,(.int .i64 (.ofNat 0)),.nils,.nils] [(0,1,(.int .i64 (.ofNat 1))),(2,1,v7)]) fun v8 => .callf (.o (.o (.i (.o (.i (.o (.i .h))))))) [v1,v8] fun v9 =>
  .setv (.i (.o .h)) v9 <| .ret) (.fall)) <| .fall)) <| .fall)) <| .callf (.o (.o (.o (.i (.i (.o (.i .h))))))) [v2] fun v10 => .setv (.i (.o .h)) v10 <| .ret) [.tmp (.i (.o .h))]
theorem F114_ok : toFn Tryz.prog 114 [4] = some F114 := by kernel_rfl
def F115 : FnE := .body (.arg 0 fun v1 => .arg 1 fun v2 => .setv (.i (.o .h)) (.bool false) <| .op (.len false v1) fun v3 => .op (.bin .gtr .no v3 (.int .i64 (.ofNat 0))) fun v4 => .gop v4 true (.mv v1)
  fun v5 => .gop v4 true (.len false v5) fun v6 => .gop v4 true (.bin .leq .no v6 (.int .i64 (.ofNat 32))) fun v7 => .op (.pick v4 v7 (.bool false)) fun v8 => .gop v8 true (.mv v2)
  fun v9 => .gop v8 true (.bin .gtr .no v9 (.int .i64 (.ofNat 0))) fun v10 => .op (.pick v8 v10 (.bool false)) fun v11 => .gop v11 true (.mv v2) fun v12 => .gop v11 true (.bin .leq
  .no v12 (.int .i64 (.ofNat 64))) fun v13 => .op (.pick v11 v13 (.bool false)) fun v14 => .setv (.i (.o .h)) v14 <| .ret) [.tmp (.i (.o .h))]
theorem F115_ok : toFn Tryz.prog 115 [4] = some F115 := by kernel_rfl
def F116 : FnE := .body (.arg 0 fun v1 => .arg 1 fun v2 => .arg 2 fun v3 => .arg 3 fun v4 => .setv (.i (.o (.o .h))) .nils <| .op (.bin .lss .no v4 (.int .i64 (.ofNat 1))) fun v5 => .gop v5 false (.mv v4)
  fun v6 => .gop v5 false (.bin .gtr .no v6 (.int .i64 (.ofNat 64))) fun v7 => .op (.pick v5 (.bool true) v7) fun v8 => .seq (.cond v8 (.setv (.i (.o (.o .h))) .nils <| .ret)
  (.fall)) <| .op (.nilck v1) fun v9 => .op (.faddr 0 v9) fun v10 => .op (.load false 1 v10) fun v11 => .seq (.cond v11 (.callf (.i (.i (.i (.o (.i (.i .h)))))) [v2] fun v12 =>
  .callf (.i (.i (.i (.o (.i (.i .h)))))) [v3] fun v13 => .op (.build [(.int .i64 (.ofNat 0)),.nils,.nils,(.int .i64 (.ofNat 0)),.nils,.nils] [(0,1,(.int .i64 (.ofNat
  3))),(1,1,v12),(2,1,v13),(3,1,v4)]) fun v14 => .callf (.i (.o (.o (.i (.i (.o (.i .h))))))) [v1,v14] fun v15 => .setv (.i (.o (.o .h))) v15 <| .ret) (.fall)) <| .callf (.o (.i
  (.o (.i (.i (.o (.i .h))))))) [v2,v3,v4,(.int .i64 (.ofNat 32))] fun v16 => .setv (.i (.o (.o .h))) v16 <| .ret) [.tmp (.i (.o (.o .h)))]
theorem F116_ok : toFn Tryz.prog 116 [8] = some F116 := by kernel_rfl
def F117 : FnE := .body (.arg 0 fun v1 => .arg 1 fun v2 => .arg 2 fun v3 => .setv (.i (.i .h)) .nils <| .op (.nilck v1) fun v4 => .op (.faddr 0 v4) fun v5 => .op (.load false 1 v5) fun v6 => .seq (.cond v6
  (.callf (.i (.i (.i (.o (.i (.i .h)))))) [v2] fun v7 => .callf (.i (.i (.i (.o (.i (.i .h)))))) [v3] fun v8 => .op (.build [(.int .i64 (.ofNat 0)),.nils,.nils,(.int .i64 (.ofNat
  0)),.nils,.nils] [(0,1,(.int .i64 (.ofNat 2))),(1,1,v7),(2,1,v8)]) fun v9 => .callf (.i (.o (.o (.i (.i (.o (.i .h))))))) [v1,v9] fun v10 => .setv (.i (.i .h)) v10 <| .ret)
  (.fall)) <| .callf (.i (.i (.o (.i (.i (.o (.i .h))))))) [v2,v3] fun v11 => .setv (.i (.i .h)) v11 <| .ret) [.tmp (.i (.i .h))]
theorem F117_ok : toFn Tryz.prog 117 [6] = some F117 := by kernel_rfl
def F118 : FnE := .body (.arg 0 fun v1 => .setv (.i .h) .nils <| .op (.bslice 5 1 0 [(.int .u8 (.ofNat 0))] []) fun v2 => .op (.app 5 1 1 v2 v1) fun v3 => .setv (.i .h) v3 <| .ret) [.tmp (.i .h)]
theorem F118_ok : toFn Tryz.prog 118 [2] = some F118 := by kernel_rfl
def F119 : FnE := .body (.arg 0 fun v1 => .arg 1 fun v2 => .setv (.i (.o .h)) .nils <| .op (.nilck v1) fun v3 => .op (.faddr 0 v3) fun v4 => .op (.load false 1 v4) fun v5 => .seq (.cond v5 (.callf (.i (.i
  (.i (.o (.i (.i .h)))))) [v2] fun v6 => .op (.build [(.int .i64 (.ofNat 0)),.nils,.nils,(.int .i64 (.ofNat 0)),.nils,.nils] [(0,1,(.int .i64 (.ofNat 1))),(2,1,v6)]) fun v7 =>
  .callf (.i (.o (.o (.i (.i (.o (.i .h))))))) [v1,v7] fun v8 => .setv (.i (.o .h)) v8 <| .ret) (.fall)) <| .callf (.o (.i (.i (.i (.i (.o (.o .h))))))) [v2] fun v9 => .setv (.i
  (.o .h)) v9 <| .ret) [.tmp (.i (.o .h))]
theorem F119_ok : toFn Tryz.prog 119 [4] = some F119 := by kernel_rfl
def F120 : FnE := .body (.arg 0 fun v1 => .op (.box 45 v1) fun v2 => .setv (.i .h) (.bool false) <| .op (.faddr 0 v2) fun v3 => .op (.load false 1 v3) fun v4 => .op (.faddr 1 v2) fun v5 => .op (.load false
  1 v5) fun v6 => .callf (.i (.i (.i (.i (.o (.i .h)))))) [v4,v6] fun v7 => .gop v7 true (.faddr 2 v2) fun v8 => .gop v7 true (.load false 1 v8) fun v9 => .gop v7 true (.len false
  v9) fun v10 => .gop v7 true (.bin .eql .no v10 (.int .i64 (.ofNat 32))) fun v11 => .op (.pick v7 v11 (.bool false)) fun v12 => .gop v12 true (.faddr 3 v2) fun v13 => .gop v12
  true (.load false 1 v13) fun v14 => .gop v12 true (.len false v14) fun v15 => .gop v12 true (.bin .eql .no v15 (.int .i64 (.ofNat 32))) fun v16 => .op (.pick v12 v16 (.bool
  false)) fun v17 => .gop v17 true (.faddr 4 v2) fun v18 => .gop v17 true (.load false 1 v18) fun v19 => .gop v17 true (.len false v19) fun v20 => .gop v17 true (.bin .eql .no v20
  (.int .i64 (.ofNat 32))) fun v21 => .op (.pick v17 v21 (.bool false)) fun v22 => .setv (.i .h) v22 <| .ret) [.tmp (.i .h)]
theorem F120_ok : toFn Tryz.prog 120 [2] = some F120 := by kernel_rfl
def F121 : FnE := .body (.arg 0 fun v1 => .op (.box 45 v1) fun v2 => .op (.alloc [.nils,(.int .i64 (.ofNat 0)),.nils,.nils,.nils] 45) fun v3 => .setv (.i .h) v3 <| .op (.faddr 0 v2) fun v4 => .op (.load
  false 1 v4) fun v5 => .op (.faddr 2 v2) fun v6 => .op (.load false 1 v6) fun v7 => .op (.faddr 3 v2) fun v8 => .op (.load false 1 v8) fun v9 => .op (.faddr 4 v2) fun v10 => .op
  (.load false 1 v10) fun v11 => .callf (.o (.i (.o (.o (.i (.i .h)))))) [v5] fun v12 => .chk false 1 v6 v7 <| .chk false 1 v8 v9 <| .chk false 1 v10 v11 <| .op (.faddr 0 v2) fun
  v13 => .callf (.o (.i (.o (.o (.i (.i .h)))))) [v7] fun v14 => .chk false 1 v8 v9 <| .chk false 1 v10 v11 <| .callf (.o (.i (.o (.o (.i (.i .h)))))) [v9] fun v15 => .chk false 1
  v10 v11 <| .callf (.o (.i (.o (.o (.i (.i .h)))))) [v11] fun v16 => .op (.store 1 v13 v12) fun _ => .op (.faddr 2 v2) fun v18 => .op (.store 1 v18 v14) fun _ => .op (.faddr 3 v2)
  fun v20 => .op (.store 1 v20 v15) fun _ => .op (.faddr 4 v2) fun v22 => .op (.store 1 v22 v16) fun _ => .op (.load true 5 v2) fun v24 => .op (.store 5 v3 v24) fun _ => .ret) [.cell (.i .h) true 5]
theorem F121_ok : toFn Tryz.prog 121 [2] = some F121 := by kernel_rfl
def F122 : FnE := .body (.arg 0 fun v1 => .op (.box 82 v1) fun v2 => .setv (.i .h) (.bool false) <| .op (.faddr 0 v2) fun v3 => .op (.load false 1 v3) fun v4 => .op (.faddr 1 v2) fun v5 => .op (.load false
  1 v5) fun v6 => .callf (.o (.o (.i (.o (.i (.i .h)))))) [v4,v6] fun v7 => .gop v7 true (.faddr 2 v2) fun v8 => .gop v7 true (.load false 1 v8) fun v9 => .gop v7 true (.len false
  v9) fun v10 => .gop v7 true (.bin .eql .no v10 (.int .i64 (.ofNat 32))) fun v11 => .op (.pick v7 v11 (.bool false)) fun v12 => .gop v12 true (.faddr 3 v2) fun v13 => .gop v12
  true (.load false 1 v13) fun v14 => .gop v12 true (.len false v14) fun v15 => .gop v12 true (.bin .eql .no v15 (.int .i64 (.ofNat 32))) fun v16 => .op (.pick v12 v16 (.bool
  false)) fun v17 => .gop v17 true (.faddr 4 v2) fun v18 => .gop v17 true (.load false 1 v18) fun v19 => .gop v17 true (.len false v19) fun v20 => .gop v17 true (.bin .eql .no v20
  (.int .i64 (.ofNat 32))) fun v21 => .op (.pick v17 v21 (.bool false)) fun v22 => .setv (.i .h) v22 <| .ret) [.tmp (.i .h)]
theorem F122_ok : toFn Tryz.prog 122 [2] = some F122 := by kernel_rfl
def F123 : FnE := .body (.arg 0 fun v1 => .arg 1 fun v2 => .setv (.i (.o .h)) .nils <| .setv (.o (.i .h)) .nils <| .op (.bin .neq .ptr v1 .nilp) fun v3 => .seq (.cond v3 (.op (.nilck v1) fun v4 => .op
  (.faddr 1 v4) fun v5 => .op (.load false 1 v5) fun v6 => .op (.len false v6) fun v7 => .setv (.o (.o (.o (.o .h)))) (.int .i64 (.ofNat 0)) <| .seq (.block 0 (.seq (.loop (.getv
  (.o (.o (.o (.o .h)))) fun v8 => .op (.bin .lss .no v8 v7) fun v9 => .seq (.cond v9 (.fall) ((.exit 0))) <| .seq (.block 1 (.op (.islc 10 v6 v8) fun v10 => .op (.load true 10
  v10) fun v11 => .op (.alloc [(.str 0 []),(.str 0 []),.nils,(.int .i64 (.ofNat 0)),.nils,.nils,.nils,(.int .u64 (.ofNat 0)),.nils,(.bool false)] 84) fun v12 => .op (.store 10 v12
  v11) fun _ => .op (.faddr 0 v12) fun v14 => .op (.load false 1 v14) fun v15 => .op (.bin .eql .no v15 v2) fun v16 => .seq (.cond v16 (.getv (.o (.i .h)) fun v17 => .op (.load
  true 10 v12) fun v18 => .op (.bslice 84 10 1 [(.str 0 []),(.str 0 []),.nils,(.int .i64 (.ofNat 0)),.nils,.nils,.nils,(.int .u64 (.ofNat 0)),.nils,(.bool false)] [(0,v18)]) fun
  v19 => .op (.app 84 10 176 v17 v19) fun v20 => .setv (.o (.i .h)) v20 <| .fall) (.fall)) <| .fall)) <| .op (.bin .add .no v8 (.int .i64 (.ofNat 1))) fun v21 => .setv (.o (.o (.o
  (.o .h)))) v21 <| .fall)) <| .fall)) <| .fall) (.fall)) <| .getv (.o (.i .h)) fun v22 => .setv (.i (.o .h)) v22 <| .ret) [.tmp (.i (.o .h))]
theorem F123_ok : toFn Tryz.prog 123 [4,5,15] = some F123 := by kernel_rfl
def F124 : FnE := .body (.arg 0 fun v1 => .arg 1 fun v2 => .op (.box 84 v2) fun v3 => .setv (.i (.o .h)) (.int .i64 (.ofNat 0)) <| .seq (.block 0 (.seq (.loop (.getv (.i (.o .h)) fun v4 => .op (.nilck v1)
  fun v5 => .op (.faddr 1 v5) fun v6 => .op (.load false 1 v6) fun v7 => .op (.len false v7) fun v8 => .op (.bin .lss .no v4 v8) fun v9 => .gop v9 true (.mv v1) fun v10 => .gop v9
  true (.nilck v10) fun v11 => .gop v9 true (.faddr 1 v11) fun v12 => .gop v9 true (.load false 1 v12) fun v13 => .gop v9 true (.mv v4) fun v14 => .gop v9 true (.islc 10 v13 v14)
  fun v15 => .gop v9 true (.faddr 0 v15) fun v16 => .gop v9 true (.load false 1 v16) fun v17 => .gop v9 true (.faddr 0 v3) fun v18 => .gop v9 true (.load false 1 v18) fun v19 =>
  .gop v9 true (.bin .lss .no v17 v19) fun v20 => .gop v9 true (.mv v20) fun v21 => .gop v21 false (.mv v1) fun v22 => .gop v21 false (.nilck v22) fun v23 => .gop v21 false (.faddr
  1 v23) fun v24 => .gop v21 false (.load false 1 v24) fun v25 => .gop v21 false (.mv v4) fun v26 => .gop v21 false (.islc 10 v25 v26) fun v27 => .gop v21 false (.faddr 0 v27) fun
  v28 => .gop v21 false (.load false 1 v28) fun v29 => .gop v21 false (.faddr 0 v3) fun v30 => .gop v21 false (.load false 1 v30) fun v31 => .gop v21 false (.bin .eql .no v29 v31)
  fun v32 => .gop v21 false (.mv v32) fun v33 => .gop v33 true (.mv v1) fun v34 => .gop v33 true (.nilck v34) fun v35 => .gop v33 true (.faddr 1 v35) fun v36 => .gop v33 true
  (.load false 1 v36) fun v37 => .gop v33 true (.mv v4) fun v38 => .gop v33 true (.islc 10 v37 v38) fun v39 => .gop v33 true (.faddr 1 v39) fun v40 => .gop v33 true (.load false 1
  v40) fun v41 => .gop v33 true (.faddr 1 v3) fun v42 => .gop v33 true (.load false 1 v42) fun v43 => .gop v33 true (.bin .lss .no v41 v43) fun v44 => .gop v21 false (.pick v33 v44
  (.bool false)) fun v45 => .gop v9 true (.pick v21 (.bool true) v45) fun v46 => .op (.pick v9 v46 (.bool false)) fun v47 => .seq (.cond v47 (.fall) ((.exit 0))) <| .seq (.block 1
  (.op (.bin .add .no v4 (.int .i64 (.ofNat 1))) fun v48 => .setv (.i (.o .h)) v48 <| .fall)) <| .fall)) <| .fall)) <| .op (.bslice 84 10 0 [(.str 0 []),(.str 0 []),.nils,(.int
  .i64 (.ofNat 0)),.nils,.nils,.nils,(.int .u64 (.ofNat 0)),.nils,(.bool false)] []) fun v49 => .op (.nilck v1) fun v50 => .op (.faddr 1 v50) fun v51 => .op (.load false 1 v51) fun
  v52 => .getv (.i (.o .h)) fun v53 => .op (.sslc 10 v52 none (some v53) none) fun v54 => .op (.load true 10 v3) fun v55 => .op (.nilck v1) fun v56 => .op (.faddr 1 v56) fun v57 =>
  .op (.load false 1 v57) fun v58 => .op (.sslc 10 v58 (some v53) none none) fun v59 => .op (.app 84 10 176 v49 v54) fun v60 => .chk true 10 v3 v55 <| .chk false 1 v57 v58 <| .op
  (.bslice 84 10 1 [(.str 0 []),(.str 0 []),.nils,(.int .i64 (.ofNat 0)),.nils,.nils,.nils,(.int .u64 (.ofNat 0)),.nils,(.bool false)] [(0,v55)]) fun v61 => .op (.app 84 10 176 v60
  v61) fun v62 => .chk false 1 v57 v58 <| .op (.app 84 10 176 v62 v59) fun v63 => .op (.nilck v1) fun v64 => .op (.faddr 1 v64) fun v65 => .op (.store 1 v65 v63) fun _ => .fall) []
theorem F124_ok : toFn Tryz.prog 124 [4] = some F124 := by kernel_rfl
def F125 : FnE := .body (.arg 0 fun v1 => .setv (.i .h) (.bool false) <| .callf (.i (.i (.i (.i (.o (.i (.o .h))))))) [v1] fun v2 => .gop v2 true (.mv v1) fun v3 => .gop v2 true (.len true v3) fun v4 =>
  .gop v2 true (.bin .leq .no v4 (.int .i64 (.ofNat 40))) fun v5 => .op (.pick v2 v5 (.bool false)) fun v6 => .setv (.i .h) v6 <| .ret) [.tmp (.i .h)]
theorem F125_ok : toFn Tryz.prog 125 [2] = some F125 := by kernel_rfl
def F126 : FnE := .body (.arg 0 fun v1 => .op (.box 25 v1) fun v2 => .setv (.i .h) .nilf <| .op (.mkfn (.fn (.o (.o (.i (.i (.i (.o (.i .h)))))))) [] [v2]) fun v3 => .setv (.i .h) v3 <| .ret) [.tmp (.i .h)]
theorem F126_ok : toFn Tryz.prog 126 [2] = some F126 := by kernel_rfl
def F127 : FnE := .body (.arg 0 fun v1 => .setv (.i .h) (.str 0 []) <| .callf (.o (.i (.i (.i (.i (.o (.i .h))))))) [v1,(.str 1 [46])] fun v2 => .op (.sstr v1 none (some v2)) fun v3 => .setv (.i .h) v3 <|
  .ret) [.tmp (.i .h)]
theorem F127_ok : toFn Tryz.prog 127 [2] = some F127 := by kernel_rfl
def F128 : FnE := .body (.arg 0 fun v1 => .arg 1 fun v2 => .op (.nilck v1) fun v3 => .op (.faddr 2 v3) fun v4 => .op (.load false 1 v4) fun v5 => .callf (.i (.i (.i (.i (.i (.o (.i .h))))))) [v5] fun v6 =>
  .op (.un .not v6) fun v7 => .seq (.cond v7 (.ret) (.fall)) <| .callf (.o (.o (.o (.o (.o (.i (.i .h))))))) [v1,v2] fun v8 => .op (.bin .gtr .no v8 (.int .i64 (.ofNat 0))) fun v9
  => .seq (.cond v9 (.ret) (.fall)) <| .op (.nilck v1) fun v10 => .op (.faddr 2 v10) fun v11 => .op (.load false 1 v11) fun v12 => .callf (.i (.o (.o (.o (.o (.i (.i .h)))))))
  [v12] fun v13 => .op (.ext v13 0) fun v14 => .op (.ext v13 1) fun v15 => .op (.ext v13 2) fun _ => .op (.alloc [(.str 0 []),(.int .u64 (.ofNat 0)),(.bool false),(.int .u32
  (.ofNat 0))] 175) fun v17 => .op (.store 4 v17 v15) fun _ => .op (.nilck v1) fun v19 => .op (.faddr 2 v19) fun v20 => .op (.load false 1 v20) fun v21 => .callf (.o (.i (.o (.o
  (.o (.i (.i .h))))))) [v21,v14] fun _ => .op (.nilck v1) fun v23 => .op (.faddr 5 v23) fun v24 => .op (.load false 1 v24) fun v25 => .op (.faddr 1 v17) fun v26 => .op (.load
  false 1 v26) fun v27 => .op (.mx [v25,v27]) fun v28 => .op (.nilck v1) fun v29 => .op (.faddr 5 v29) fun v30 => .op (.store 1 v30 v28) fun _ => .op (.nilck v1) fun v32 => .op
  (.faddr 6 v32) fun v33 => .op (.store 1 v33 (.bool true)) fun _ => .fall) []
theorem F128_ok : toFn Tryz.prog 128 [] = some F128 := by kernel_rfl
def F129 : FnE := .body (.arg 0 fun v1 => .setv (.i .h) (.str 0 []) <| .op (.mkslice 5 1 1 [(.int .u8 (.ofNat 0))] (.int .i64 (.ofNat 8)) (.int .i64 (.ofNat 8))) fun v2 => .op (.len false v2) fun v3 =>
  .setv (.i (.o (.o .h))) (.int .i64 (.ofNat 0)) <| .seq (.block 0 (.seq (.loop (.getv (.i (.o (.o .h))) fun v4 => .op (.bin .lss .no v4 v3) fun v5 => .seq (.cond v5 (.fall)
  ((.exit 0))) <| .seq (.block 1 (.op (.bin .sub .no (.int .i64 (.ofNat 7)) v4) fun v6 => .op (.bin .mul .no (.int .i64 (.ofNat 8)) v6) fun v7 => .op (.bin .shr .no v1 v7) fun v8
  => .op (.conv .u8 v8) fun v9 => .op (.islc 1 v2 v4) fun v10 => .op (.store 1 v10 v9) fun _ => .fall)) <| .op (.bin .add .no v4 (.int .i64 (.ofNat 1))) fun v12 => .setv (.i (.o
  (.o .h))) v12 <| .fall)) <| .fall)) <| .callf (.o (.i (.o (.i (.o (.o (.o .h))))))) [v2] fun v13 => .setv (.i .h) v13 <| .ret) [.tmp (.i .h)]
theorem F129_ok : toFn Tryz.prog 129 [2,8] = some F129 := by kernel_rfl
def F130 : FnE := .body (.arg 0 fun v1 => .arg 1 fun v2 => .arg 2 fun v3 => .op (.box 175 v3) fun v4 => .setv (.i (.i .h)) (.int .i64 (.ofNat 0)) <| .seq (.block 0 (.op (.bin .eql .ptr v1 .nilp) fun v5 =>
  .seq (.cond v5 (.setv (.i (.i .h)) (.int .i64 (.ofNat 6)) <| .ret) (.callf (.i (.o (.i (.i (.i (.o (.o .h))))))) [v1,v2] fun v6 => .op (.bin .neq .no v6 (.int .i64 (.negSucc 0)))
  fun v7 => .seq (.cond v7 (.setv (.i (.i .h)) (.int .i64 (.ofNat 7)) <| .ret) (.callf (.i (.i (.i (.i (.i (.o (.i .h))))))) [v1] fun v8 => .seq (.cond v8 (.setv (.i (.i .h)) (.int
  .i64 (.ofNat 8)) <| .ret) (.fall)) <| .fall)) <| .fall)) <| .fall)) <| .op (.nilck v1) fun v9 => .op (.faddr 1 v9) fun v10 => .op (.load false 1 v10) fun v11 => .op (.len false
  v11) fun v12 => .setv (.o (.o (.o .h))) v12 <| .op (.nilck v1) fun v13 => .op (.faddr 2 v13) fun v14 => .op (.load false 1 v14) fun v15 => .op (.len false v15) fun v16 => .op
  (.bin .gtr .no v16 (.int .i64 (.ofNat 0))) fun v17 => .seq (.cond v17 (.op (.nilck v1) fun v18 => .op (.faddr 2 v18) fun v19 => .op (.load false 1 v19) fun v20 => .op (.bin .sub
  .no v16 (.int .i64 (.ofNat 1))) fun v21 => .op (.islc 1 v20 v21) fun v22 => .op (.load false 1 v22) fun v23 => .op (.nilck v1) fun v24 => .op (.faddr 2 v24) fun v25 => .op (.load
  false 1 v25) fun v26 => .op (.bin .sub .no v16 (.int .i64 (.ofNat 1))) fun v27 => .op (.sslc 1 v26 none (some v27) none) fun v28 => .setv (.o (.o (.o .h))) v23 <| .op (.nilck v1)
  fun v29 => .op (.faddr 2 v29) fun v30 => .op (.store 1 v30 v28) fun _ => .op (.nilck v1) fun v32 => .op (.faddr 1 v32) fun v33 => .op (.load false 1 v33) fun v34 => .op (.load
  true 4 v4) fun v35 => .op (.build [(.str 0 []),(.str 0 []),(.int .u64 (.ofNat 0)),(.bool false),(.int .u32 (.ofNat 0)),(.int .i64 (.ofNat 0)),(.int .i64 (.ofNat 0))]
  [(0,1,v2),(1,4,v35)]) fun v36 => .op (.islc 7 v34 v23) fun v37 => .op (.store 7 v37 v36) fun _ => .fall) (.op (.nilck v1) fun v39 => .op (.faddr 1 v39) fun v40 => .op (.load
  false 1 v40) fun v41 => .op (.load true 4 v4) fun v42 => .op (.build [(.str 0 []),(.str 0 []),(.int .u64 (.ofNat 0)),(.bool false),(.int .u32 (.ofNat 0)),(.int .i64 (.ofNat
  0)),(.int .i64 (.ofNat 0))] [(0,1,v2),(1,4,v42)]) fun v43 => .op (.bslice 283 7 1 [(.str 0 []),(.str 0 []),(.int .u64 (.ofNat 0)),(.bool false),(.int .u32 (.ofNat 0)),(.int .i64
  (.ofNat 0)),(.int .i64 (.ofNat 0))] [(0,v43)]) fun v44 => .op (.app 283 7 64 v41 v44) fun v45 => .op (.nilck v1) fun v46 => .op (.faddr 1 v46) fun v47 => .op (.store 1 v47 v45)
  fun _ => .fall)) <| .op (.nilck v1) fun v49 => .op (.faddr 3 v49) fun v50 => .op (.load false 1 v50) fun v51 => .getv (.o (.o (.o .h))) fun v52 => .op (.mapup true v51 v2 v52)
  fun _ => .callf (.i (.i (.o (.o (.o (.i (.i .h))))))) [v1,v52] fun _ => .setv (.i (.i .h)) (.int .i64 (.ofNat 0)) <| .ret) [.tmp (.i (.i .h))]
theorem F130_ok : toFn Tryz.prog 130 [6,7] = some F130 := by kernel_rfl
def F134 : FnE := .body (.arg 0 fun v1 => .setv (.i .h) (.bool false) <| .setv (.o (.o .h)) (.int .i64 (.ofNat 0)) <| .seq (.block 0 (.seq (.loop (.getv (.o (.o .h)) fun v2 => .op (.len true v1) fun v3 =>
  .op (.bin .lss .no v2 v3) fun v4 => .seq (.cond v4 (.fall) ((.exit 0))) <| .seq (.block 1 (.op (.ixstr v1 v2) fun v5 => .op (.bin .lss .no v5 (.int .u8 (.ofNat 33))) fun v6 =>
  .gop v6 false (.mv v1) fun v7 => .gop v6 false (.mv v2) fun v8 => .gop v6 false (.ixstr v7 v8) fun v9 => .gop v6 false (.bin .gtr .no v9 (.int .u8 (.ofNat 126))) fun v10 => .op
  (.pick v6 (.bool true) v10) fun v11 => .gop v11 false (.mv v1) fun v12 => .gop v11 false (.mv v2) fun v13 => .gop v11 false (.ixstr v12 v13) fun v14 => .gop v11 false (.bin .eql
  .no v14 (.int .u8 (.ofNat 44))) fun v15 => .op (.pick v11 (.bool true) v15) fun v16 => .seq (.cond v16 (.setv (.i .h) (.bool false) <| .ret) (.fall)) <| .fall)) <| .op (.bin .add
  .no v2 (.int .i64 (.ofNat 1))) fun v17 => .setv (.o (.o .h)) v17 <| .fall)) <| .fall)) <| .op (.len true v1) fun v18 => .op (.bin .geq .no v18 (.int .i64 (.ofNat 1))) fun v19 =>
  .gop v19 true (.mv v1) fun v20 => .gop v19 true (.len true v20) fun v21 => .gop v19 true (.bin .leq .no v21 (.int .i64 (.ofNat 64))) fun v22 => .op (.pick v19 v22 (.bool false))
  fun v23 => .setv (.i .h) v23 <| .ret) [.tmp (.i .h)]
theorem F134_ok : toFn Tryz.prog 134 [2,3] = some F134 := by kernel_rfl
def F137 : FnE := .body (.arg 0 fun v1 => .setv (.i .h) (.str 0 []) <| .op (.alloc [.nilp,.nils] 347) fun v2 => .op (.len false v1) fun v3 => .setv (.i (.o (.o .h))) (.int .i64 (.ofNat 0)) <| .seq (.block
  0 (.seq (.loop (.getv (.i (.o (.o .h))) fun v4 => .op (.bin .lss .no v4 v3) fun v5 => .seq (.cond v5 (.fall) ((.exit 0))) <| .seq (.block 1 (.op (.islc 1 v1 v4) fun v6 => .op
  (.load false 1 v6) fun v7 => .op (.bin .shr .no v7 (.int .u64 (.ofNat 4))) fun v8 => .op (.ixstr (.str 16 [48,49,50,51,52,53,54,55,56,57,97,98,99,100,101,102]) v8) fun v9 =>
  .callf (.i (.i (.o (.i (.o (.i (.i .h))))))) [v2,v9] fun _ => .op (.bin .and .no v7 (.int .u8 (.ofNat 15))) fun v11 => .op (.ixstr (.str 16
  [48,49,50,51,52,53,54,55,56,57,97,98,99,100,101,102]) v11) fun v12 => .callf (.i (.i (.o (.i (.o (.i (.i .h))))))) [v2,v12] fun _ => .fall)) <| .op (.bin .add .no v4 (.int .i64
  (.ofNat 1))) fun v14 => .setv (.i (.o (.o .h))) v14 <| .fall)) <| .fall)) <| .callf (.o (.o (.o (.i (.o (.i (.i .h))))))) [v2] fun v15 => .setv (.i .h) v15 <| .ret) [.tmp (.i .h)]
theorem F137_ok : toFn Tryz.prog 137 [2,8] = some F137 := by kernel_rfl
def F148 : FnE := .body (.arg 0 fun v1 => .arg 1 fun v2 => .arg 2 fun v3 => .arg 3 fun v4 => .setv (.o (.o .h)) v4 <| .op (.box 9 v2) fun v5 => .op (.box 9 v3) fun v6 => .op (.alloc [.nils,(.int .i64
  (.ofNat 0)),.nils,.nils,.nils] 45) fun v7 => .setv (.i (.o (.o .h))) v7 <| .op (.bin .eql .ptr v1 .nilp) fun v8 => .seq (.cond v8 (.op (.build [.nils,(.int .i64 (.ofNat
  0)),.nils,.nils,.nils] []) fun v9 => .op (.store 5 v7 v9) fun _ => .ret) (.fall)) <| .op (.bin .lss .no v4 (.int .i64 (.ofNat 1))) fun v11 => .gop v11 false (.mv v4) fun v12 =>
  .gop v11 false (.bin .gtr .no v12 (.int .i64 (.ofNat 64))) fun v13 => .op (.pick v11 (.bool true) v13) fun v14 => .seq (.cond v14 (.setv (.o (.o .h)) (.int .i64 (.ofNat 1)) <|
  .fall) (.fall)) <| .op (.mkfn (.fn (.o (.i (.o (.o (.i (.i (.i .h)))))))) [] [v5,v6]) fun v15 => .getv (.o (.o .h)) fun v16 => .callv v15 [(.str 4 [115,97,108,116])] fun v17 =>
  .op (.sslc 1 v17 none (some (.int .i64 (.ofNat 16))) (some (.int .i64 (.ofNat 16)))) fun v18 => .callv v15 [(.str 6 [115,116,111,114,101,100])] fun v19 => .callv v15 [(.str 6
  [115,101,114,118,101,114])] fun v20 => .callv v15 [(.str 3 [104,97,49])] fun v21 => .op (.build [.nils,(.int .i64 (.ofNat 0)),.nils,.nils,.nils]
  [(0,1,v18),(1,1,v16),(2,1,v19),(3,1,v20),(4,1,v21)]) fun v22 => .op (.store 5 v7 v22) fun _ => .ret) [.cell (.i (.o (.o .h))) true 5]
theorem F148_ok : toFn Tryz.prog 148 [3,8] = some F148 := by kernel_rfl
def F149 : FnE := .body (.arg 0 fun v1 => .arg 1 fun v2 => .setv (.i (.o .h)) (.bool false) <| .op (.len false v1) fun v3 => .op (.len false v2) fun v4 => .op (.bin .neq .no v3 v4) fun v5 => .seq (.cond v5
  (.setv (.i (.o .h)) (.bool false) <| .ret) (.fall)) <| .setv (.o (.i .h)) (.int .u8 (.ofNat 0)) <| .op (.len false v1) fun v6 => .setv (.i (.i (.i .h))) (.int .i64 (.ofNat 0)) <|
  .seq (.block 0 (.seq (.loop (.getv (.i (.i (.i .h))) fun v7 => .op (.bin .lss .no v7 v6) fun v8 => .seq (.cond v8 (.fall) ((.exit 0))) <| .seq (.block 1 (.getv (.o (.i .h)) fun
  v9 => .op (.islc 1 v1 v7) fun v10 => .op (.load false 1 v10) fun v11 => .op (.islc 1 v2 v7) fun v12 => .op (.load false 1 v12) fun v13 => .op (.bin .xor .no v11 v13) fun v14 =>
  .op (.bin .or .no v9 v14) fun v15 => .setv (.o (.i .h)) v15 <| .fall)) <| .op (.bin .add .no v7 (.int .i64 (.ofNat 1))) fun v16 => .setv (.i (.i (.i .h))) v16 <| .fall)) <|
  .fall)) <| .getv (.o (.i .h)) fun v17 => .op (.bin .eql .no v17 (.int .u8 (.ofNat 0))) fun v18 => .setv (.i (.o .h)) v18 <| .ret) [.tmp (.i (.o .h))]
theorem F149_ok : toFn Tryz.prog 149 [4,5,14] = some F149 := by kernel_rfl
def F154 : FnE := .body (.arg 0 fun v1 => .arg 1 fun v2 => .op (.alloc [(.str 0 []),(.int .u64 (.ofNat 0)),(.bool false),(.int .u32 (.ofNat 0))] 175) fun v3 => .setv (.i (.o .h)) v3 <| .setv (.o (.i .h))
  (.bool false) <| .callf (.i (.o (.i (.i (.i (.o (.o .h))))))) [v1,v2] fun v4 => .op (.bin .eql .no v4 (.int .i64 (.negSucc 0))) fun v5 => .seq (.cond v5 (.op (.alloc [(.str 0
  []),(.int .u64 (.ofNat 0)),(.bool false),(.int .u32 (.ofNat 0))] 175) fun v6 => .op (.load true 4 v6) fun v7 => .op (.store 4 v3 v7) fun _ => .setv (.o (.i .h)) (.bool false) <|
  .ret) (.fall)) <| .op (.nilck v1) fun v9 => .op (.faddr 1 v9) fun v10 => .op (.load false 1 v10) fun v11 => .op (.islc 7 v11 v4) fun v12 => .op (.faddr 1 v12) fun v13 => .op
  (.load true 4 v13) fun v14 => .op (.store 4 v3 v14) fun _ => .setv (.o (.i .h)) (.bool true) <| .ret) [.cell (.i (.o .h)) true 4,.tmp (.o (.i .h))]
theorem F154_ok : toFn Tryz.prog 154 [4,5] = some F154 := by kernel_rfl
def F155 : FnE := .body (.arg 0 fun v1 => .arg 1 fun v2 => .arg 2 fun v3 => .setv (.i (.i .h)) (.bool false) <| .op (.bin .geq .no v1 v2) fun v4 => .gop v4 true (.mv v1) fun v5 => .gop v4 true (.mv v2) fun
  v6 => .gop v4 true (.bin .sub .no v5 v6) fun v7 => .gop v4 true (.mv v3) fun v8 => .gop v4 true (.bin .leq .no v7 v8) fun v9 => .op (.pick v4 v9 (.bool false)) fun v10 => .setv
  (.i (.i .h)) v10 <| .ret) [.tmp (.i (.i .h))]
theorem F155_ok : toFn Tryz.prog 155 [6] = some F155 := by kernel_rfl
def F156 : FnE := .body (.arg 0 fun v1 => .arg 1 fun v2 => .setv (.i (.o .h)) (.int .i64 (.ofNat 0)) <| .op (.bin .eql .ptr v1 .nilp) fun v3 => .seq (.cond v3 (.setv (.i (.o .h)) (.int .i64 (.negSucc 0))
  <| .ret) (.fall)) <| .op (.nilck v1) fun v4 => .op (.faddr 3 v4) fun v5 => .op (.load false 1 v5) fun v6 => .op (.lookup true (.int .i64 (.ofNat 0)) true v6 v2) fun v7 => .op
  (.ext v7 0) fun v8 => .op (.ext v7 1) fun v9 => .op (.un .not v9) fun v10 => .seq (.cond v10 (.setv (.i (.o .h)) (.int .i64 (.negSucc 0)) <| .ret) (.fall)) <| .setv (.i (.o .h))
  v8 <| .ret) [.tmp (.i (.o .h))]
theorem F156_ok : toFn Tryz.prog 156 [4] = some F156 := by kernel_rfl
def F157 : FnE := .body (.arg 0 fun v1 => .setv (.i .h) .nils <| .callf (.o (.o (.o (.i (.i (.i (.i .h))))))) [] fun v2 => .op (.bslice 5 1 0 [(.int .u8 (.ofNat 0))] []) fun v3 => .op (.app 5 1 1 v3 v1)
  fun v4 => .op (.len false v1) fun v5 => .op (.conv .u64 v5) fun v6 => .callf (.i (.o (.o (.i (.i (.i (.i .h))))))) [v6] fun v7 => .op (.app 5 1 1 v4 v7) fun v8 => .callf (.i (.i
  (.i (.o (.i (.i (.i .h))))))) [v2,v8] fun v9 => .op (.ext v9 0) fun v10 => .op (.ext v9 1) fun _ => .op (.alloc [(.int .u32 (.ofNat 0)),(.int .u32 (.ofNat 0)),(.int .u32 (.ofNat
  0)),(.int .u32 (.ofNat 0)),(.int .u32 (.ofNat 0)),(.int .u32 (.ofNat 0)),(.int .u32 (.ofNat 0)),(.int .u32 (.ofNat 0))] 375) fun v12 => .op (.store 8 v12 v10) fun _ => .op (.load
  true 8 v12) fun v14 => .callf (.o (.i (.o (.i (.i (.i (.i .h))))))) [v14] fun v15 => .setv (.i .h) v15 <| .ret) [.tmp (.i .h)]
theorem F157_ok : toFn Tryz.prog 157 [2] = some F157 := by kernel_rfl
end
end Go.Proofs.YtkafdfjimlihdaaGreatDoor
