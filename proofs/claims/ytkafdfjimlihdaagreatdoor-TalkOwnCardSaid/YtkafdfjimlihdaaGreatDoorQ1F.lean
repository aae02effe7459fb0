/- What the row says of the program: closed facts, one by one. -/
import Derived.Test.YtkafdfjimlihdaaGreatDoorRows
import Derived.JoinedOf
set_option linter.unusedVariables false
set_option linter.unusedSimpArgs false
namespace Go.Proofs.YtkafdfjimlihdaaGreatDoor.talkOwnFacts
open Go
set_option maxRecDepth 100000
def clo : List FuncId := [6, 26, 27, 37, 103, 38, 39, 40, 67, 104, 41, 105, 106, 107, 42, 108, 210, 287, 261, 325, 366, 367, 380, 340, 379, 341, 342, 113, 109, 110, 111, 211] ++ [288, 343, 213, 293, 282, 281, 289, 336, 212, 290, 292, 344, 345, 294, 215, 295, 352, 353, 385, 296, 354, 386, 355, 297, 351, 369, 388, 389, 381, 405, 383, 347] ++ [382, 346, 348, 349, 384, 350, 337, 291, 112, 214, 114, 43, 78, 158, 250, 319, 362, 251, 252, 253, 254, 115, 116, 118, 216, 298, 79, 356, 277, 334, 65, 217] ++ [218, 299, 157, 247, 248, 246, 318, 63, 361, 249, 275, 117, 119, 44, 120, 121, 70, 45, 122, 71, 123, 124, 28, 29, 83, 84, 159, 255, 320, 316, 360, 363] ++ [364, 365, 387, 160, 256, 321, 257, 322, 161, 162, 163, 259, 323, 258, 240, 164, 260, 234, 309, 358, 324, 231, 166, 165, 167, 168, 174, 169, 171, 170, 46, 125] ++ [126, 219, 220, 300, 301, 127, 221, 302, 303, 357, 128, 222, 304, 223, 306, 307, 305, 225, 156, 308, 224, 129, 137, 130, 226, 85, 35, 69, 102, 209, 148, 241] ++ [86, 172, 183, 263, 227, 173, 179, 262, 175, 176, 87, 177, 264, 326, 368, 327, 328, 329, 267, 332, 370, 178, 265, 330, 371, 372, 391, 390, 392, 373, 374, 393] ++ [394, 406, 407, 31, 94, 188, 189, 190, 268, 270, 191, 193, 269, 192, 194, 134, 195, 95, 196, 271, 333, 272, 197, 96, 198, 97, 199, 200, 98, 201, 273, 276] ++ [274, 99, 202, 203, 278, 335, 280, 279, 338, 376, 339, 378, 404, 377, 395, 401, 413, 396, 408, 397, 409, 410, 398, 411, 412, 414, 399, 400, 402, 403, 100, 204] ++ [205, 283, 285, 284, 206, 207, 286, 30, 88, 180, 266, 331, 239, 315, 375, 181, 89, 90, 185, 186, 92, 187, 21, 73, 154, 155, 74, 182, 149, 184, 91, 93] ++ [32, 82, 101, 208, 33, 34, 36]
theorem clo_eq : Tryz.prog.closure 6 = clo := by kernel_rfl
theorem c0 : (Rows.talkOwnRow.wf (OpenSpec.ofChange Rows.talkOwnSpec)) = true := by kernel_rfl
theorem c1 : (laidOutB Tryz.prog) = true := by kernel_rfl
theorem c2 : (mapsRowed Tryz.prog) = true := by kernel_rfl
theorem c3 : (Tryz.f6.params.all (Tryz.prog.readableRec ·)) = true := by kernel_rfl
theorem c4 : (namedTie Tryz.prog Rows.talkOwnRow.named Rows.talkOwnSpec.vars) = true := by kernel_rfl
theorem c5 : ((Rows.talkOwnRow.stops == [])) = true := by kernel_rfl
theorem c6 : ((Tryz.prog.stops == [])) = true := by kernel_rfl
theorem c7 : ((Rows.talkOwnRow.knobs == [])) = true := by kernel_rfl
theorem c8 : ((Tryz.prog.stopKnobs == [])) = true := by kernel_rfl
theorem c9 : ((Rows.talkOwnRow.inPlace == Tryz.prog.inPlace 6)) = true := by unfold Program.inPlace; rw [clo_eq]; kernel_rfl
theorem c10 : ((Rows.talkOwnRow.unfollowed == Tryz.prog.unfollowed 6)) = true := by unfold Program.unfollowed; rw [clo_eq]; kernel_rfl
theorem c11 : ((Rows.talkOwnRow.recurses == Tryz.prog.recurses 6)) = true := by unfold Program.recurses; rw [show Tryz.prog.unfollowed 6 = true from (by have h := c10; rw [beq_iff_eq] at h; exact h.symm)]; kernel_rfl
theorem c12 : ((Rows.talkOwnRow.named == Tryz.prog.varsNamed 6)) = true := by unfold Program.varsNamed; rw [clo_eq]; kernel_rfl
theorem c13 : ((Rows.talkOwnRow.maps == (Tryz.f6.params.toList ++ Rows.talkOwnSpec.plain.varTypes Tryz.prog).any (Tryz.prog.mapsRec ·))) = true := by kernel_rfl
theorem c14 : ((Rows.talkOwnRow.ifaces == (Tryz.f6.params.toList ++ Rows.talkOwnSpec.plain.varTypes Tryz.prog).any (Tryz.prog.ifacesRec ·))) = true := by kernel_rfl
theorem c15 : ((Rows.talkOwnRow.mapsOut == Tryz.prog.mapsAmong Tryz.f6.resultTypes.toList)) = true := by kernel_rfl
theorem c16 : ((Rows.talkOwnRow.loops == (Tryz.f6.params.toList ++ Rows.talkOwnSpec.plain.varTypes Tryz.prog).any (Tryz.prog.loopsFrom ·))) = true := by kernel_rfl
theorem c17 : ((Rows.talkOwnRow.wideKeys == (Tryz.f6.params.toList ++ Rows.talkOwnSpec.plain.varTypes Tryz.prog ++ Tryz.f6.resultTypes.toList).any (Tryz.prog.wideKeysFrom ·))) = true := by kernel_rfl
theorem c18 : (Rows.talkOwnSpec.vars.all (Tryz.prog.varReadable ·)) = true := by kernel_rfl
theorem c19 : (Tryz.f6.resultTypes.all (fun t => Tryz.prog.readableRec t && decide (t < Tryz.prog.types.size))) = true := by kernel_rfl
theorem c20 : ((Rows.talkOwnRow.ifacesOut == Tryz.f6.resultTypes.toList.any (Tryz.prog.ifacesRec ·))) = true := by kernel_rfl
theorem c21 : ((Rows.talkOwnRow.loopsOut == Tryz.f6.resultTypes.toList.any (Tryz.prog.loopsFrom ·))) = true := by kernel_rfl
theorem c22 : ((Rows.talkOwnRow.plainKeys == Tryz.prog.plainKeys)) = true := by kernel_rfl
theorem c23 : (Rows.talkOwnRow.shortTexts.isNone) = true := by kernel_rfl
theorem c24 : (Tryz.prog.stopsHeard) = true := by kernel_rfl
theorem c25 : (Tryz.prog.mayEnter) = true := by kernel_rfl
theorem c26 : ((Rows.talkOwnRow.lifted == Tryz.prog.liftsFinal)) = true := by kernel_rfl
theorem c27 : ((Tryz.prog.make == some Rows.talkOwnRow.make)) = true := by kernel_rfl
theorem c28 : ((Rows.talkOwnRow.kinds == (if Rows.talkOwnRow.domain.isEmpty then [] else Tryz.f6.params.toList.map fun t => match Tryz.prog.underlying t with | some (.int k) => some k | _ => none))) = true := by kernel_rfl
theorem c29 : ((Rows.talkOwnRow.pinned == Rows.talkOwnRow.pinnedBy)) = true := by kernel_rfl
theorem c30 : ((Rows.talkOwnRow.veiled == (Tryz.f6.params.toList ++ Rows.talkOwnSpec.plain.varTypes Tryz.prog ++ Tryz.f6.resultTypes.toList).any (Tryz.prog.veiledRec ·))) = true := by kernel_rfl
theorem c31 : (Rows.talkOwnRow.veiledFits Tryz.prog Tryz.f6.params.toList (Tryz.f6.params.toList ++ Rows.talkOwnSpec.plain.varTypes Tryz.prog ++ Tryz.f6.resultTypes.toList)) = true := by kernel_rfl
theorem all : joinedFacts Tryz.prog 6 Tryz.f6 Rows.talkOwnSpec Rows.talkOwnRow = true := by
  unfold joinedFacts
  simp only [Bool.and_eq_true]
  exact ⟨⟨⟨⟨⟨⟨⟨⟨⟨⟨⟨⟨⟨⟨⟨⟨⟨⟨⟨⟨⟨⟨⟨⟨⟨⟨⟨⟨⟨⟨⟨c0, c1⟩, c2⟩, c3⟩, c4⟩, c5⟩, c6⟩, c7⟩, c8⟩, c9⟩, c10⟩, c11⟩, c12⟩, c13⟩, c14⟩, c15⟩, c16⟩, c17⟩, c18⟩, c19⟩, c20⟩, c21⟩, c22⟩, c23⟩, c24⟩, c25⟩, c26⟩, c27⟩, c28⟩, c29⟩, c30⟩, c31⟩
end Go.Proofs.YtkafdfjimlihdaaGreatDoor.talkOwnFacts
