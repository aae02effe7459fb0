/-
  NARROWER THAN 'FOR EVERY INPUT', by the rows' own cells (each row's printed sentence says how): QuestBinds: laid · QuestNil: laid · QuestPlays: laid · TalkOwn: laid.
  DERIVED. THE GIVEN ROWS OF THIS SEAT. 4 by the template 'for every input the law returns true; each argument reads behind the call as it read before'; 0 by the template 'total and deterministic' (their statements: YtkafdfjimlihdaaGreatDoorTotals.lean).
  GIVEN WITH THE SEED: the statements are not yours to turn. If you find one false, say at which input.
  Laid BY PROGRAM, IN A SANDBOX (cutbox-rows.mjs): the forced cells as the released guide's own fill.sh prints them over the translation 36e6a283c327f0f9… (all of the seat's roots in one cut). By AI agents, Wed Nov 11 2026. No macro, syntax, notation, axiom, sorry.
-/
import Derived.Test.YtkafdfjimlihdaaGreatDoorChecked
import GoSem.Claim
import GoSem.ClaimJoined
import GoSem.ClaimMapViews
import Derived.JoinedTies
import Derived.KernelRfl
namespace Go.Proofs.YtkafdfjimlihdaaGreatDoor
/- THE CELL 'sum', in the pinned program and in every row, IS THE sha256 OF THE DUMP (.gsa) THAT YtkafdfjimlihdaaGreatDoorProg.lean LOADS. Nothing in Lean hashes anything: it is a label: what it is worth is what the hold of that sum in a sandbox is worth. -/
noncomputable def Tryz.pinned : Pinned := { name := "ytkafdfjimlihdaagreatdoor", sum := "36e6a283c327f0f965d7521a2a3fbbcd4b09c38d105400f562a50234fa8e344f", checked := Tryz.checked }
namespace Rows
def none {H : Type} : Left H := { results := [], args := [] }

/- WHAT THE LISTED PACKAGE-LEVEL VARIABLES READ AS WHEN THE CALL BEGINS. Each datum BY PROGRAM (the guide's laid-datum.mjs) off the statement by which the dump's own 'gosem.cut.vars' lays the variable. In a bare row this is a premise. The card (YtkafdfjimlihdaaGreatDoorCards.lean) ties it to the program's text. -/
def laid_ostiary_ostiaryref01_words {H : Type} : DataW H := .agg [.lit (.int .u32 1116352408), .lit (.int .u32 1899447441), .lit (.int .u32 3049323471), .lit (.int .u32 3921009573), .lit (.int .u32 961987163), .lit (.int .u32 1508970993), .lit (.int .u32 2453635748), .lit (.int .u32 2870763221), .lit (.int .u32 3624381080), .lit (.int .u32 310598401), .lit (.int .u32 607225278), .lit (.int .u32 1426881987), .lit (.int .u32 1925078388), .lit (.int .u32 2162078206), .lit (.int .u32 2614888103), .lit (.int .u32 3248222580), .lit (.int .u32 3835390401), .lit (.int .u32 4022224774), .lit (.int .u32 264347078), .lit (.int .u32 604807628), .lit (.int .u32 770255983), .lit (.int .u32 1249150122), .lit (.int .u32 1555081692), .lit (.int .u32 1996064986), .lit (.int .u32 2554220882), .lit (.int .u32 2821834349), .lit (.int .u32 2952996808), .lit (.int .u32 3210313671), .lit (.int .u32 3336571891), .lit (.int .u32 3584528711), .lit (.int .u32 113926993), .lit (.int .u32 338241895), .lit (.int .u32 666307205), .lit (.int .u32 773529912), .lit (.int .u32 1294757372), .lit (.int .u32 1396182291), .lit (.int .u32 1695183700), .lit (.int .u32 1986661051), .lit (.int .u32 2177026350), .lit (.int .u32 2456956037), .lit (.int .u32 2730485921), .lit (.int .u32 2820302411), .lit (.int .u32 3259730800), .lit (.int .u32 3345764771), .lit (.int .u32 3516065817), .lit (.int .u32 3600352804), .lit (.int .u32 4094571909), .lit (.int .u32 275423344), .lit (.int .u32 430227734), .lit (.int .u32 506948616), .lit (.int .u32 659060556), .lit (.int .u32 883997877), .lit (.int .u32 958139571), .lit (.int .u32 1322822218), .lit (.int .u32 1537002063), .lit (.int .u32 1747873779), .lit (.int .u32 1955562222), .lit (.int .u32 2024104815), .lit (.int .u32 2227730452), .lit (.int .u32 2361852424), .lit (.int .u32 2428436474), .lit (.int .u32 2756734187), .lit (.int .u32 3204031479), .lit (.int .u32 3329325298)]
def laid_ostiary_sha_first {H : Type} : DataW H := .agg [.lit (.int .u32 1779033703), .lit (.int .u32 3144134277), .lit (.int .u32 1013904242), .lit (.int .u32 2773480762), .lit (.int .u32 1359893119), .lit (.int .u32 2600822924), .lit (.int .u32 528734635), .lit (.int .u32 1541459225)]
def laid_ostiary_sha_odd {H : Type} : DataW H := .agg [.lit (.int .u32 1116352408), .lit (.int .u32 1899447441), .lit (.int .u32 3049323471), .lit (.int .u32 3921009573), .lit (.int .u32 961987163), .lit (.int .u32 1508970993), .lit (.int .u32 2453635748), .lit (.int .u32 2870763221), .lit (.int .u32 3624381080), .lit (.int .u32 310598401), .lit (.int .u32 607225278), .lit (.int .u32 1426881987), .lit (.int .u32 1925078388), .lit (.int .u32 2162078206), .lit (.int .u32 2614888103), .lit (.int .u32 3248222580), .lit (.int .u32 3835390401), .lit (.int .u32 4022224774), .lit (.int .u32 264347078), .lit (.int .u32 604807628), .lit (.int .u32 770255983), .lit (.int .u32 1249150122), .lit (.int .u32 1555081692), .lit (.int .u32 1996064986), .lit (.int .u32 2554220882), .lit (.int .u32 2821834349), .lit (.int .u32 2952996808), .lit (.int .u32 3210313671), .lit (.int .u32 3336571891), .lit (.int .u32 3584528711), .lit (.int .u32 113926993), .lit (.int .u32 338241895), .lit (.int .u32 666307205), .lit (.int .u32 773529912), .lit (.int .u32 1294757372), .lit (.int .u32 1396182291), .lit (.int .u32 1695183700), .lit (.int .u32 1986661051), .lit (.int .u32 2177026350), .lit (.int .u32 2456956037), .lit (.int .u32 2730485921), .lit (.int .u32 2820302411), .lit (.int .u32 3259730800), .lit (.int .u32 3345764771), .lit (.int .u32 3516065817), .lit (.int .u32 3600352804), .lit (.int .u32 4094571909), .lit (.int .u32 275423344), .lit (.int .u32 430227734), .lit (.int .u32 506948616), .lit (.int .u32 659060556), .lit (.int .u32 883997877), .lit (.int .u32 958139571), .lit (.int .u32 1322822218), .lit (.int .u32 1537002063), .lit (.int .u32 1747873779), .lit (.int .u32 1955562222), .lit (.int .u32 2024104815), .lit (.int .u32 2227730452), .lit (.int .u32 2361852424), .lit (.int .u32 2428436474), .lit (.int .u32 2756734187), .lit (.int .u32 3204031479), .lit (.int .u32 3329325298)]
def laid_ostiary_name_blanks {H : Type} : DataW H := .agg [.agg [.lit (.int .i32 160), .lit (.int .i32 160)], .agg [.lit (.int .i32 5760), .lit (.int .i32 5760)], .agg [.lit (.int .i32 8192), .lit (.int .i32 8202)], .agg [.lit (.int .i32 8239), .lit (.int .i32 8239)], .agg [.lit (.int .i32 8287), .lit (.int .i32 8287)], .agg [.lit (.int .i32 12288), .lit (.int .i32 12288)]]
def laid_ostiary_name_nothing {H : Type} : DataW H := .agg [.agg [.lit (.int .i32 173), .lit (.int .i32 173)], .agg [.lit (.int .i32 8203), .lit (.int .i32 8205)], .agg [.lit (.int .i32 8288), .lit (.int .i32 8288)], .agg [.lit (.int .i32 65024), .lit (.int .i32 65039)], .agg [.lit (.int .i32 65279), .lit (.int .i32 65279)]]
def laid_ostiary_name_barred {H : Type} : DataW H := .agg [.agg [.lit (.int .i32 0), .lit (.int .i32 31)], .agg [.lit (.int .i32 127), .lit (.int .i32 159)], .agg [.lit (.int .i32 8232), .lit (.int .i32 8233)], .agg [.lit (.int .i32 8234), .lit (.int .i32 8238)], .agg [.lit (.int .i32 8294), .lit (.int .i32 8297)], .agg [.lit (.int .i32 57344), .lit (.int .i32 63743)], .agg [.lit (.int .i32 983040), .lit (.int .i32 1114111)], .agg [.lit (.int .i32 65529), .lit (.int .i32 65533)], .agg [.lit (.int .i32 64976), .lit (.int .i32 65007)]]
def laid_ostiary_name_forms {H : Type} : DataW H := .agg [.agg [.lit (.int .i64 1), .lit (.int .u8 128), .lit (.int .u8 0), .lit (.int .i32 0)], .agg [.lit (.int .i64 2), .lit (.int .u8 224), .lit (.int .u8 192), .lit (.int .i32 128)], .agg [.lit (.int .i64 3), .lit (.int .u8 240), .lit (.int .u8 224), .lit (.int .i32 2048)], .agg [.lit (.int .i64 4), .lit (.int .u8 248), .lit (.int .u8 240), .lit (.int .i32 65536)]]
def laid_math_bits_deBruijn32tab {H : Type} : DataW H := .agg [.lit (.int .u8 0), .lit (.int .u8 1), .lit (.int .u8 28), .lit (.int .u8 2), .lit (.int .u8 29), .lit (.int .u8 14), .lit (.int .u8 24), .lit (.int .u8 3), .lit (.int .u8 30), .lit (.int .u8 22), .lit (.int .u8 20), .lit (.int .u8 15), .lit (.int .u8 25), .lit (.int .u8 17), .lit (.int .u8 4), .lit (.int .u8 8), .lit (.int .u8 31), .lit (.int .u8 27), .lit (.int .u8 13), .lit (.int .u8 23), .lit (.int .u8 21), .lit (.int .u8 19), .lit (.int .u8 16), .lit (.int .u8 7), .lit (.int .u8 26), .lit (.int .u8 12), .lit (.int .u8 18), .lit (.int .u8 6), .lit (.int .u8 11), .lit (.int .u8 5), .lit (.int .u8 10), .lit (.int .u8 9)]
def laid_math_bits_deBruijn64tab {H : Type} : DataW H := .agg [.lit (.int .u8 0), .lit (.int .u8 1), .lit (.int .u8 56), .lit (.int .u8 2), .lit (.int .u8 57), .lit (.int .u8 49), .lit (.int .u8 28), .lit (.int .u8 3), .lit (.int .u8 61), .lit (.int .u8 58), .lit (.int .u8 42), .lit (.int .u8 50), .lit (.int .u8 38), .lit (.int .u8 29), .lit (.int .u8 17), .lit (.int .u8 4), .lit (.int .u8 62), .lit (.int .u8 47), .lit (.int .u8 59), .lit (.int .u8 36), .lit (.int .u8 45), .lit (.int .u8 43), .lit (.int .u8 51), .lit (.int .u8 22), .lit (.int .u8 53), .lit (.int .u8 39), .lit (.int .u8 33), .lit (.int .u8 30), .lit (.int .u8 24), .lit (.int .u8 18), .lit (.int .u8 12), .lit (.int .u8 5), .lit (.int .u8 63), .lit (.int .u8 55), .lit (.int .u8 48), .lit (.int .u8 27), .lit (.int .u8 60), .lit (.int .u8 41), .lit (.int .u8 37), .lit (.int .u8 16), .lit (.int .u8 46), .lit (.int .u8 35), .lit (.int .u8 44), .lit (.int .u8 21), .lit (.int .u8 52), .lit (.int .u8 32), .lit (.int .u8 23), .lit (.int .u8 11), .lit (.int .u8 54), .lit (.int .u8 26), .lit (.int .u8 40), .lit (.int .u8 15), .lit (.int .u8 34), .lit (.int .u8 20), .lit (.int .u8 31), .lit (.int .u8 10), .lit (.int .u8 25), .lit (.int .u8 14), .lit (.int .u8 19), .lit (.int .u8 9), .lit (.int .u8 13), .lit (.int .u8 8), .lit (.int .u8 7), .lit (.int .u8 6)]
def laid_internal_strconv_uint64pow10 {H : Type} : DataW H := .agg [.lit (.int .u64 1), .lit (.int .u64 10), .lit (.int .u64 100), .lit (.int .u64 1000), .lit (.int .u64 10000), .lit (.int .u64 100000), .lit (.int .u64 1000000), .lit (.int .u64 10000000), .lit (.int .u64 100000000), .lit (.int .u64 1000000000), .lit (.int .u64 10000000000), .lit (.int .u64 100000000000), .lit (.int .u64 1000000000000), .lit (.int .u64 10000000000000), .lit (.int .u64 100000000000000), .lit (.int .u64 1000000000000000), .lit (.int .u64 10000000000000000), .lit (.int .u64 100000000000000000), .lit (.int .u64 1000000000000000000), .lit (.int .u64 10000000000000000000)]

/-- 'ostiarylaw21.QuestBinds': WHATEVER THE INPUT: true; the input reads as it did. -/
def questBindsSpec : ChangeSpec := { name := "questBinds", fn := fun _ => fun
  | [d1, d2, d3] => { results := [.lit (.bool true)], args := [d1, d2, d3] }
  | _ => none }
def questBindsRow : OpenClaim := { program := "ytkafdfjimlihdaagreatdoor", sum := "36e6a283c327f0f965d7521a2a3fbbcd4b09c38d105400f562a50234fa8e344f", func := "ostiary/ostiarylaw21.QuestBinds", spec := "questBinds", inPlace := ["internal/bytealg.MakeNoZero", "internal/abi.NoEscape", "internal/bytealg.IndexByteString"], unfollowed := true, recurses := true, named := ["ostiary/name.barred", "ostiary/name.forms", "ostiary/name.blanks", "ostiary/name.nothing", "ostiary/sha.first", "ostiary/sha.odd", "ostiary/ostiaryref01.words"], apart := false, laid := [("ostiary/ostiaryref01.words", laid_ostiary_ostiaryref01_words), ("ostiary/sha.first", laid_ostiary_sha_first), ("ostiary/sha.odd", laid_ostiary_sha_odd), ("ostiary/name.blanks", laid_ostiary_name_blanks), ("ostiary/name.nothing", laid_ostiary_name_nothing), ("ostiary/name.barred", laid_ostiary_name_barred), ("ostiary/name.forms", laid_ostiary_name_forms)] }
def QuestBindsSaid : Prop := questBindsRow.holds Tryz.pinned (OpenSpec.ofChange questBindsSpec)

/-- ITS FALSE NEIGHBOUR: 'it returns false'. Refute it at one input. -/
def questBindsWrong : ChangeSpec := { name := "questBinds", fn := fun _ => fun
  | [d1, d2, d3] => { results := [.lit (.bool false)], args := [d1, d2, d3] }
  | _ => none }
def QuestBindsWrongFalsely : Prop := questBindsRow.holds Tryz.pinned (OpenSpec.ofChange questBindsWrong)

/-- 'ostiarylaw21.QuestNil': WHATEVER THE INPUT: true; the input reads as it did. -/
def questNilSpec : ChangeSpec := { name := "questNil", fn := fun _ => fun
  | [d1, d2, d3] => { results := [.lit (.bool true)], args := [d1, d2, d3] }
  | _ => none }
def questNilRow : OpenClaim := { program := "ytkafdfjimlihdaagreatdoor", sum := "36e6a283c327f0f965d7521a2a3fbbcd4b09c38d105400f562a50234fa8e344f", func := "ostiary/ostiarylaw21.QuestNil", spec := "questNil", inPlace := ["internal/bytealg.MakeNoZero", "internal/abi.NoEscape", "internal/bytealg.IndexByteString"], unfollowed := true, recurses := true, named := ["ostiary/name.barred", "ostiary/name.forms", "ostiary/name.blanks", "ostiary/name.nothing", "ostiary/sha.first", "ostiary/sha.odd", "ostiary/ostiaryref01.words"], apart := false, laid := [("ostiary/ostiaryref01.words", laid_ostiary_ostiaryref01_words), ("ostiary/sha.first", laid_ostiary_sha_first), ("ostiary/sha.odd", laid_ostiary_sha_odd), ("ostiary/name.blanks", laid_ostiary_name_blanks), ("ostiary/name.nothing", laid_ostiary_name_nothing), ("ostiary/name.barred", laid_ostiary_name_barred), ("ostiary/name.forms", laid_ostiary_name_forms)] }
def QuestNilSaid : Prop := questNilRow.holds Tryz.pinned (OpenSpec.ofChange questNilSpec)

/-- ITS FALSE NEIGHBOUR: 'it returns false'. Refute it at one input. -/
def questNilWrong : ChangeSpec := { name := "questNil", fn := fun _ => fun
  | [d1, d2, d3] => { results := [.lit (.bool false)], args := [d1, d2, d3] }
  | _ => none }
def QuestNilWrongFalsely : Prop := questNilRow.holds Tryz.pinned (OpenSpec.ofChange questNilWrong)

/-- 'ostiarylaw21.QuestPlays': WHATEVER THE INPUT: true; the input reads as it did. -/
def questPlaysSpec : ChangeSpec := { name := "questPlays", fn := fun _ => fun
  | [d1, d2, d3, d4] => { results := [.lit (.bool true)], args := [d1, d2, d3, d4] }
  | _ => none }
def questPlaysRow : OpenClaim := { program := "ytkafdfjimlihdaagreatdoor", sum := "36e6a283c327f0f965d7521a2a3fbbcd4b09c38d105400f562a50234fa8e344f", func := "ostiary/ostiarylaw21.QuestPlays", spec := "questPlays", inPlace := ["internal/bytealg.MakeNoZero", "internal/abi.NoEscape", "internal/bytealg.IndexByteString"], unfollowed := true, recurses := true, named := ["ostiary/name.barred", "ostiary/name.forms", "ostiary/name.blanks", "ostiary/name.nothing", "ostiary/sha.first", "ostiary/sha.odd", "ostiary/ostiaryref01.words"], apart := false, laid := [("ostiary/ostiaryref01.words", laid_ostiary_ostiaryref01_words), ("ostiary/sha.first", laid_ostiary_sha_first), ("ostiary/sha.odd", laid_ostiary_sha_odd), ("ostiary/name.blanks", laid_ostiary_name_blanks), ("ostiary/name.nothing", laid_ostiary_name_nothing), ("ostiary/name.barred", laid_ostiary_name_barred), ("ostiary/name.forms", laid_ostiary_name_forms)] }
def QuestPlaysSaid : Prop := questPlaysRow.holds Tryz.pinned (OpenSpec.ofChange questPlaysSpec)

/-- ITS FALSE NEIGHBOUR: 'it returns false'. Refute it at one input. -/
def questPlaysWrong : ChangeSpec := { name := "questPlays", fn := fun _ => fun
  | [d1, d2, d3, d4] => { results := [.lit (.bool false)], args := [d1, d2, d3, d4] }
  | _ => none }
def QuestPlaysWrongFalsely : Prop := questPlaysRow.holds Tryz.pinned (OpenSpec.ofChange questPlaysWrong)

/-- 'ostiarylaw20.TalkOwn': WHATEVER THE INPUT: true; the input reads as it did. -/
def talkOwnSpec : ChangeSpec := { name := "talkOwn", fn := fun _ => fun
  | [d1, d2] => { results := [.lit (.bool true)], args := [d1, d2] }
  | _ => none }
def talkOwnRow : OpenClaim := { program := "ytkafdfjimlihdaagreatdoor", sum := "36e6a283c327f0f965d7521a2a3fbbcd4b09c38d105400f562a50234fa8e344f", func := "ostiary/ostiarylaw20.TalkOwn", spec := "talkOwn", inPlace := ["internal/bytealg.MakeNoZero", "internal/bytealg.IndexByteString", "internal/bytealg.IndexString", "internal/abi.NoEscape"], unfollowed := true, recurses := true, named := ["ostiary/name.barred", "ostiary/name.forms", "ostiary/name.blanks", "ostiary/name.nothing", "ostiary/sha.first", "ostiary/sha.odd", "ostiary/ostiaryref01.words", "internal/bytealg.MaxLen", "internal/strconv.uint64pow10", "math/bits.deBruijn32tab", "math/bits.deBruijn64tab"], apart := false, laid := [("math/bits.deBruijn32tab", laid_math_bits_deBruijn32tab), ("math/bits.deBruijn64tab", laid_math_bits_deBruijn64tab), ("internal/strconv.uint64pow10", laid_internal_strconv_uint64pow10), ("ostiary/ostiaryref01.words", laid_ostiary_ostiaryref01_words), ("ostiary/sha.first", laid_ostiary_sha_first), ("ostiary/sha.odd", laid_ostiary_sha_odd), ("ostiary/name.blanks", laid_ostiary_name_blanks), ("ostiary/name.nothing", laid_ostiary_name_nothing), ("ostiary/name.barred", laid_ostiary_name_barred), ("ostiary/name.forms", laid_ostiary_name_forms)] }
def TalkOwnSaid : Prop := talkOwnRow.holds Tryz.pinned (OpenSpec.ofChange talkOwnSpec)

/-- ITS FALSE NEIGHBOUR: 'it returns false'. Refute it at one input. -/
def talkOwnWrong : ChangeSpec := { name := "talkOwn", fn := fun _ => fun
  | [d1, d2] => { results := [.lit (.bool false)], args := [d1, d2] }
  | _ => none }
def TalkOwnWrongFalsely : Prop := talkOwnRow.holds Tryz.pinned (OpenSpec.ofChange talkOwnWrong)

/- THE SECOND FORM. 'bulk': how many values and letters a reading holds, each counted each time it is reached (what is shared counts as often as it is met; a slice's spare places count too). A statement '..UptoSaid' is the law's where the arguments, and the package variables that the reading takes, are together of bulk at most 1048576: NARROWER than '..Said'. Prove '..Said' where nothing that the law and all that it calls make is longer than what came in: it says more and counts as full. Else prove '..UptoSaid'. A law counts once. -/
mutual
def uptoBulk {H : Type} : DataW H → Nat
  | .lit (.string bytes) => bytes.length + 1
  | .lit _ => 1
  | .nil => 1
  | .ptr d => uptoBulk d + 1
  | .slice elems spare => uptoBulkAll elems + uptoBulkAll spare + 1
  | .agg parts => uptoBulkAll parts + 1
  | .iface _ d => uptoBulk d + 1
  | .map entries => uptoBulkEntries entries + 1
  | .held _ => 1
def uptoBulkAll {H : Type} : List (DataW H) → Nat
  | [] => 0
  | d :: r => uptoBulk d + uptoBulkAll r
def uptoBulkEntries {H : Type} : List (Lit × DataW H) → Nat
  | [] => 0
  | x :: r => uptoBulkEntry x + uptoBulkEntries r
def uptoBulkEntry {H : Type} : Lit × DataW H → Nat
  | (.string bytes, d) => bytes.length + uptoBulk d + 1
  | (_, d) => uptoBulk d + 1
 end
def uptoSmall : (H : Type) → List (DataW H) → Bool := fun _ ds => decide (uptoBulkAll ds ≤ 1048576)
def OpenSpec.upto (s : _root_.Go.ChangeSpec) : _root_.Go.OpenSpec := { _root_.Go.OpenSpec.ofChange s with cond := some uptoSmall }

/-- 'ostiarylaw21.QuestBinds', WHERE WHAT IT READS IS OF BULK AT MOST 1048576: true; the input reads as it did. -/
def questBindsUptoRow : OpenClaim := { program := "ytkafdfjimlihdaagreatdoor", sum := "36e6a283c327f0f965d7521a2a3fbbcd4b09c38d105400f562a50234fa8e344f", func := "ostiary/ostiarylaw21.QuestBinds", spec := "questBinds", inPlace := ["internal/bytealg.MakeNoZero", "internal/abi.NoEscape", "internal/bytealg.IndexByteString"], unfollowed := true, recurses := true, named := ["ostiary/name.barred", "ostiary/name.forms", "ostiary/name.blanks", "ostiary/name.nothing", "ostiary/sha.first", "ostiary/sha.odd", "ostiary/ostiaryref01.words"], apart := false, laid := [("ostiary/ostiaryref01.words", laid_ostiary_ostiaryref01_words), ("ostiary/sha.first", laid_ostiary_sha_first), ("ostiary/sha.odd", laid_ostiary_sha_odd), ("ostiary/name.blanks", laid_ostiary_name_blanks), ("ostiary/name.nothing", laid_ostiary_name_nothing), ("ostiary/name.barred", laid_ostiary_name_barred), ("ostiary/name.forms", laid_ostiary_name_forms)], narrowed := true }
def QuestBindsUptoSaid : Prop := questBindsUptoRow.holds Tryz.pinned (OpenSpec.upto questBindsSpec)

/-- 'ostiarylaw21.QuestNil', WHERE WHAT IT READS IS OF BULK AT MOST 1048576: true; the input reads as it did. -/
def questNilUptoRow : OpenClaim := { program := "ytkafdfjimlihdaagreatdoor", sum := "36e6a283c327f0f965d7521a2a3fbbcd4b09c38d105400f562a50234fa8e344f", func := "ostiary/ostiarylaw21.QuestNil", spec := "questNil", inPlace := ["internal/bytealg.MakeNoZero", "internal/abi.NoEscape", "internal/bytealg.IndexByteString"], unfollowed := true, recurses := true, named := ["ostiary/name.barred", "ostiary/name.forms", "ostiary/name.blanks", "ostiary/name.nothing", "ostiary/sha.first", "ostiary/sha.odd", "ostiary/ostiaryref01.words"], apart := false, laid := [("ostiary/ostiaryref01.words", laid_ostiary_ostiaryref01_words), ("ostiary/sha.first", laid_ostiary_sha_first), ("ostiary/sha.odd", laid_ostiary_sha_odd), ("ostiary/name.blanks", laid_ostiary_name_blanks), ("ostiary/name.nothing", laid_ostiary_name_nothing), ("ostiary/name.barred", laid_ostiary_name_barred), ("ostiary/name.forms", laid_ostiary_name_forms)], narrowed := true }
def QuestNilUptoSaid : Prop := questNilUptoRow.holds Tryz.pinned (OpenSpec.upto questNilSpec)

/-- 'ostiarylaw21.QuestPlays', WHERE WHAT IT READS IS OF BULK AT MOST 1048576: true; the input reads as it did. -/
def questPlaysUptoRow : OpenClaim := { program := "ytkafdfjimlihdaagreatdoor", sum := "36e6a283c327f0f965d7521a2a3fbbcd4b09c38d105400f562a50234fa8e344f", func := "ostiary/ostiarylaw21.QuestPlays", spec := "questPlays", inPlace := ["internal/bytealg.MakeNoZero", "internal/abi.NoEscape", "internal/bytealg.IndexByteString"], unfollowed := true, recurses := true, named := ["ostiary/name.barred", "ostiary/name.forms", "ostiary/name.blanks", "ostiary/name.nothing", "ostiary/sha.first", "ostiary/sha.odd", "ostiary/ostiaryref01.words"], apart := false, laid := [("ostiary/ostiaryref01.words", laid_ostiary_ostiaryref01_words), ("ostiary/sha.first", laid_ostiary_sha_first), ("ostiary/sha.odd", laid_ostiary_sha_odd), ("ostiary/name.blanks", laid_ostiary_name_blanks), ("ostiary/name.nothing", laid_ostiary_name_nothing), ("ostiary/name.barred", laid_ostiary_name_barred), ("ostiary/name.forms", laid_ostiary_name_forms)], narrowed := true }
def QuestPlaysUptoSaid : Prop := questPlaysUptoRow.holds Tryz.pinned (OpenSpec.upto questPlaysSpec)

/-- 'ostiarylaw20.TalkOwn', WHERE WHAT IT READS IS OF BULK AT MOST 1048576: true; the input reads as it did. -/
def talkOwnUptoRow : OpenClaim := { program := "ytkafdfjimlihdaagreatdoor", sum := "36e6a283c327f0f965d7521a2a3fbbcd4b09c38d105400f562a50234fa8e344f", func := "ostiary/ostiarylaw20.TalkOwn", spec := "talkOwn", inPlace := ["internal/bytealg.MakeNoZero", "internal/bytealg.IndexByteString", "internal/bytealg.IndexString", "internal/abi.NoEscape"], unfollowed := true, recurses := true, named := ["ostiary/name.barred", "ostiary/name.forms", "ostiary/name.blanks", "ostiary/name.nothing", "ostiary/sha.first", "ostiary/sha.odd", "ostiary/ostiaryref01.words", "internal/bytealg.MaxLen", "internal/strconv.uint64pow10", "math/bits.deBruijn32tab", "math/bits.deBruijn64tab"], apart := false, laid := [("math/bits.deBruijn32tab", laid_math_bits_deBruijn32tab), ("math/bits.deBruijn64tab", laid_math_bits_deBruijn64tab), ("internal/strconv.uint64pow10", laid_internal_strconv_uint64pow10), ("ostiary/ostiaryref01.words", laid_ostiary_ostiaryref01_words), ("ostiary/sha.first", laid_ostiary_sha_first), ("ostiary/sha.odd", laid_ostiary_sha_odd), ("ostiary/name.blanks", laid_ostiary_name_blanks), ("ostiary/name.nothing", laid_ostiary_name_nothing), ("ostiary/name.barred", laid_ostiary_name_barred), ("ostiary/name.forms", laid_ostiary_name_forms)], narrowed := true }
def TalkOwnUptoSaid : Prop := talkOwnUptoRow.holds Tryz.pinned (OpenSpec.upto talkOwnSpec)

end Rows
end Go.Proofs.YtkafdfjimlihdaaGreatDoor
