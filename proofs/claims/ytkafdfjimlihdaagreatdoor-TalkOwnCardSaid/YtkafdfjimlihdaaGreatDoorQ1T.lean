/- The tables, and the first state. -/
import Derived.Test.YtkafdfjimlihdaaGreatDoorQ10
import Derived.Test.YtkafdfjimlihdaaGreatDoorQ11
import Derived.Test.YtkafdfjimlihdaaGreatDoorQ12
import Derived.Test.YtkafdfjimlihdaaGreatDoorQ13
import Derived.Test.YtkafdfjimlihdaaGreatDoorThree
set_option linter.unusedVariables false
set_option linter.unusedSimpArgs false
namespace Go.Proofs.YtkafdfjimlihdaaGreatDoor
open Go Go.Ev
set_option maxRecDepth 100000
theorem F355_ok : toFn Tryz.prog 355 [4] = some Go.Ev.F355 := by kernel_rfl
theorem F361_ok : toFn Tryz.prog 361 [4] = some Go.Ev.F361 := by kernel_rfl
theorem F386_ok : toFn Tryz.prog 386 [2] = some Go.Ev.F386 := by kernel_rfl
theorem F354_ok : toFn Tryz.prog 354 [2,5,10] = some Go.Ev.F354 := by kernel_rfl
theorem F296_ok : toFn Tryz.prog 296 [5,6,7,8,9,10,11,12,55,130] = some Go.Ev.F296 := by kernel_rfl
theorem F318_ok : toFn Tryz.prog 318 [4,6,10,165] = some Go.Ev.F318 := by kernel_rfl
noncomputable def L0 : List (Pos × FnE) := [((.o (.o (.i (.o (.o (.i (.i (.o .h)))))))), Go.Ev.F355), ((.o (.i (.o (.i (.o (.i (.i (.o .h)))))))), Go.Ev.F361), ((.i (.i (.o (.o (.o (.o (.o (.i .h)))))))), Go.Ev.F386), ((.o (.o (.o (.o (.o (.o .h)))))), Go.Ev.F63), ((.i (.i (.o (.o (.o (.i (.i (.o .h)))))))), Go.Ev.F354), ((.i (.o (.o (.i (.o (.i (.o (.o .h)))))))), Go.Ev.F296), ((.i (.i (.i (.i (.i (.i (.o (.o .h)))))))), Go.Ev.F318)]
noncomputable def L1 : List (Pos × FnE) := [((.i (.i .h)), F6),
  ((.o (.i (.i (.o .h)))), F21),
  ((.i (.i (.o (.i .h)))), F26),
  ((.o (.o (.i (.i .h)))), F27),
  ((.i (.o (.i (.i .h)))), F28),
  ((.o (.i (.i (.i .h)))), F29),
  ((.i (.i (.i (.i .h)))), F30),
  ((.o (.o (.o (.o (.o .h))))), F31),
  ((.i (.o (.o (.o (.o .h))))), F32),
  ((.o (.i (.o (.o (.o .h))))), F33),
  ((.i (.i (.o (.o (.o .h))))), F34),
  ((.o (.o (.i (.o (.o .h))))), F35),
  ((.i (.o (.i (.o (.o .h))))), F36),
  ((.o (.i (.i (.o (.o .h))))), F37),
  ((.i (.i (.i (.o (.o .h))))), F38),
  ((.o (.o (.o (.i (.o .h))))), F39),
  ((.i (.o (.o (.i (.o .h))))), F40),
  ((.o (.i (.o (.i (.o .h))))), F41),
  ((.i (.i (.o (.i (.o .h))))), F42),
  ((.o (.o (.i (.i (.o .h))))), F43),
  ((.i (.o (.i (.i (.o .h))))), F44),
  ((.o (.i (.i (.i (.o .h))))), F45),
  ((.i (.i (.i (.i (.o .h))))), F46),
  ((.o (.o (.o (.o (.o (.o .h)))))), Go.Ev.F63)]
noncomputable def L2 : List (Pos × FnE) := [((.o (.i (.o (.o (.o (.o .h)))))), F65),
  ((.o (.o (.i (.o (.o (.o .h)))))), F67),
  ((.o (.i (.i (.o (.o (.o .h)))))), F69),
  ((.i (.i (.i (.o (.o (.o .h)))))), F70),
  ((.o (.o (.o (.i (.o (.o .h)))))), F71),
  ((.o (.i (.o (.i (.o (.o .h)))))), F73),
  ((.i (.i (.o (.i (.o (.o .h)))))), F74),
  ((.i (.i (.i (.i (.o (.o .h)))))), F78),
  ((.o (.o (.o (.o (.i (.o .h)))))), F79),
  ((.i (.i (.o (.o (.i (.o .h)))))), F82),
  ((.o (.o (.i (.o (.i (.o .h)))))), F83),
  ((.i (.o (.i (.o (.i (.o .h)))))), F84),
  ((.o (.i (.i (.o (.i (.o .h)))))), F85),
  ((.i (.i (.i (.o (.i (.o .h)))))), F86),
  ((.o (.o (.o (.i (.i (.o .h)))))), F87),
  ((.i (.o (.o (.i (.i (.o .h)))))), F88),
  ((.o (.i (.o (.i (.i (.o .h)))))), F89),
  ((.i (.i (.o (.i (.i (.o .h)))))), F90),
  ((.o (.o (.i (.i (.i (.o .h)))))), F91),
  ((.i (.o (.i (.i (.i (.o .h)))))), F92),
  ((.o (.i (.i (.i (.i (.o .h)))))), F93),
  ((.i (.i (.i (.i (.i (.o .h)))))), F94),
  ((.o (.o (.o (.o (.o (.i .h)))))), F95),
  ((.i (.o (.o (.o (.o (.i .h)))))), F96)]
noncomputable def L3 : List (Pos × FnE) := [((.o (.i (.o (.o (.o (.i .h)))))), F97),
  ((.i (.i (.o (.o (.o (.i .h)))))), F98),
  ((.o (.o (.i (.o (.o (.i .h)))))), F99),
  ((.i (.o (.i (.o (.o (.i .h)))))), F100),
  ((.o (.i (.i (.o (.o (.i .h)))))), F101),
  ((.i (.i (.i (.o (.o (.i .h)))))), F102),
  ((.o (.o (.o (.i (.o (.i .h)))))), F103),
  ((.i (.o (.o (.i (.o (.i .h)))))), F104),
  ((.o (.i (.o (.i (.o (.i .h)))))), F105),
  ((.i (.i (.o (.i (.o (.i .h)))))), F106),
  ((.o (.o (.i (.i (.o (.i .h)))))), F107),
  ((.i (.o (.i (.i (.o (.i .h)))))), F108),
  ((.o (.i (.i (.i (.o (.i .h)))))), F109),
  ((.i (.i (.i (.i (.o (.i .h)))))), F110),
  ((.o (.o (.o (.o (.i (.i .h)))))), F111),
  ((.i (.o (.o (.o (.i (.i .h)))))), F112),
  ((.o (.i (.o (.o (.i (.i .h)))))), F113),
  ((.i (.i (.o (.o (.i (.i .h)))))), F114),
  ((.o (.o (.i (.o (.i (.i .h)))))), F115),
  ((.i (.o (.i (.o (.i (.i .h)))))), F116),
  ((.o (.i (.i (.o (.i (.i .h)))))), F117),
  ((.i (.i (.i (.o (.i (.i .h)))))), F118),
  ((.o (.o (.o (.i (.i (.i .h)))))), F119),
  ((.i (.o (.o (.i (.i (.i .h)))))), F120)]
noncomputable def L4 : List (Pos × FnE) := [((.o (.i (.o (.i (.i (.i .h)))))), F121),
  ((.i (.i (.o (.i (.i (.i .h)))))), F122),
  ((.o (.o (.i (.i (.i (.i .h)))))), F123),
  ((.i (.o (.i (.i (.i (.i .h)))))), F124),
  ((.o (.i (.i (.i (.i (.i .h)))))), F125),
  ((.i (.i (.i (.i (.i (.i .h)))))), F126),
  ((.o (.o (.o (.o (.o (.o (.o .h))))))), F127),
  ((.i (.o (.o (.o (.o (.o (.o .h))))))), F128),
  ((.o (.i (.o (.o (.o (.o (.o .h))))))), F129),
  ((.i (.i (.o (.o (.o (.o (.o .h))))))), F130),
  ((.i (.i (.i (.o (.o (.o (.o .h))))))), F134),
  ((.o (.i (.o (.i (.o (.o (.o .h))))))), F137),
  ((.i (.o (.i (.o (.i (.o (.o .h))))))), F148),
  ((.o (.i (.i (.o (.i (.o (.o .h))))))), F149),
  ((.i (.i (.o (.i (.i (.o (.o .h))))))), F154),
  ((.o (.o (.i (.i (.i (.o (.o .h))))))), F155),
  ((.i (.o (.i (.i (.i (.o (.o .h))))))), F156),
  ((.o (.i (.i (.i (.i (.o (.o .h))))))), F157),
  ((.i (.i (.i (.i (.i (.o (.o .h))))))), F158),
  ((.o (.o (.o (.o (.o (.i (.o .h))))))), F159),
  ((.i (.o (.o (.o (.o (.i (.o .h))))))), F160),
  ((.o (.i (.o (.o (.o (.i (.o .h))))))), F161),
  ((.i (.i (.o (.o (.o (.i (.o .h))))))), F162),
  ((.o (.o (.i (.o (.o (.i (.o .h))))))), F163)]
noncomputable def L5 : List (Pos × FnE) := [((.i (.o (.i (.o (.o (.i (.o .h))))))), F164),
  ((.o (.i (.i (.o (.o (.i (.o .h))))))), F165),
  ((.i (.i (.i (.o (.o (.i (.o .h))))))), F166),
  ((.o (.o (.o (.i (.o (.i (.o .h))))))), F167),
  ((.i (.o (.o (.i (.o (.i (.o .h))))))), F168),
  ((.o (.i (.o (.i (.o (.i (.o .h))))))), F169),
  ((.i (.i (.o (.i (.o (.i (.o .h))))))), F170),
  ((.o (.o (.i (.i (.o (.i (.o .h))))))), F171),
  ((.i (.o (.i (.i (.o (.i (.o .h))))))), F172),
  ((.o (.i (.i (.i (.o (.i (.o .h))))))), F173),
  ((.i (.i (.i (.i (.o (.i (.o .h))))))), F174),
  ((.o (.o (.o (.o (.i (.i (.o .h))))))), F175),
  ((.i (.o (.o (.o (.i (.i (.o .h))))))), F176),
  ((.o (.i (.o (.o (.i (.i (.o .h))))))), F177),
  ((.i (.i (.o (.o (.i (.i (.o .h))))))), F178),
  ((.o (.o (.i (.o (.i (.i (.o .h))))))), F179),
  ((.i (.o (.i (.o (.i (.i (.o .h))))))), F180),
  ((.o (.i (.i (.o (.i (.i (.o .h))))))), F181),
  ((.i (.i (.i (.o (.i (.i (.o .h))))))), F182),
  ((.o (.o (.o (.i (.i (.i (.o .h))))))), F183),
  ((.i (.o (.o (.i (.i (.i (.o .h))))))), F184),
  ((.o (.i (.o (.i (.i (.i (.o .h))))))), F185),
  ((.i (.i (.o (.i (.i (.i (.o .h))))))), F186),
  ((.o (.o (.i (.i (.i (.i (.o .h))))))), F187)]
noncomputable def L6 : List (Pos × FnE) := [((.i (.o (.i (.i (.i (.i (.o .h))))))), F188),
  ((.o (.i (.i (.i (.i (.i (.o .h))))))), F189),
  ((.i (.i (.i (.i (.i (.i (.o .h))))))), F190),
  ((.o (.o (.o (.o (.o (.o (.i .h))))))), F191),
  ((.i (.o (.o (.o (.o (.o (.i .h))))))), F192),
  ((.o (.i (.o (.o (.o (.o (.i .h))))))), F193),
  ((.i (.i (.o (.o (.o (.o (.i .h))))))), F194),
  ((.o (.o (.i (.o (.o (.o (.i .h))))))), F195),
  ((.i (.o (.i (.o (.o (.o (.i .h))))))), F196),
  ((.o (.i (.i (.o (.o (.o (.i .h))))))), F197),
  ((.i (.i (.i (.o (.o (.o (.i .h))))))), F198),
  ((.o (.o (.o (.i (.o (.o (.i .h))))))), F199),
  ((.i (.o (.o (.i (.o (.o (.i .h))))))), F200),
  ((.o (.i (.o (.i (.o (.o (.i .h))))))), F201),
  ((.i (.i (.o (.i (.o (.o (.i .h))))))), F202),
  ((.o (.o (.i (.i (.o (.o (.i .h))))))), F203),
  ((.i (.o (.i (.i (.o (.o (.i .h))))))), F204),
  ((.o (.i (.i (.i (.o (.o (.i .h))))))), F205),
  ((.i (.i (.i (.i (.o (.o (.i .h))))))), F206),
  ((.o (.o (.o (.o (.i (.o (.i .h))))))), F207),
  ((.i (.o (.o (.o (.i (.o (.i .h))))))), F208),
  ((.o (.i (.o (.o (.i (.o (.i .h))))))), F209),
  ((.i (.i (.o (.o (.i (.o (.i .h))))))), F210),
  ((.o (.o (.i (.o (.i (.o (.i .h))))))), F211)]
noncomputable def L7 : List (Pos × FnE) := [((.i (.o (.i (.o (.i (.o (.i .h))))))), F212),
  ((.o (.i (.i (.o (.i (.o (.i .h))))))), F213),
  ((.i (.i (.i (.o (.i (.o (.i .h))))))), F214),
  ((.o (.o (.o (.i (.i (.o (.i .h))))))), F215),
  ((.i (.o (.o (.i (.i (.o (.i .h))))))), F216),
  ((.o (.i (.o (.i (.i (.o (.i .h))))))), F217),
  ((.i (.i (.o (.i (.i (.o (.i .h))))))), F218),
  ((.o (.o (.i (.i (.i (.o (.i .h))))))), F219),
  ((.i (.o (.i (.i (.i (.o (.i .h))))))), F220),
  ((.o (.i (.i (.i (.i (.o (.i .h))))))), F221),
  ((.i (.i (.i (.i (.i (.o (.i .h))))))), F222),
  ((.o (.o (.o (.o (.o (.i (.i .h))))))), F223),
  ((.i (.o (.o (.o (.o (.i (.i .h))))))), F224),
  ((.o (.i (.o (.o (.o (.i (.i .h))))))), F225),
  ((.i (.i (.o (.o (.o (.i (.i .h))))))), F226),
  ((.o (.o (.i (.o (.o (.i (.i .h))))))), F227),
  ((.o (.o (.o (.i (.o (.i (.i .h))))))), F231),
  ((.i (.i (.o (.i (.o (.i (.i .h))))))), F234),
  ((.o (.o (.o (.o (.i (.i (.i .h))))))), F239),
  ((.i (.o (.o (.o (.i (.i (.i .h))))))), F240),
  ((.o (.i (.o (.o (.i (.i (.i .h))))))), F241),
  ((.i (.i (.i (.o (.i (.i (.i .h))))))), F246),
  ((.o (.o (.o (.i (.i (.i (.i .h))))))), F247),
  ((.i (.o (.o (.i (.i (.i (.i .h))))))), F248)]
noncomputable def L8 : List (Pos × FnE) := [((.o (.i (.o (.i (.i (.i (.i .h))))))), F249),
  ((.i (.i (.o (.i (.i (.i (.i .h))))))), F250),
  ((.o (.o (.i (.i (.i (.i (.i .h))))))), F251),
  ((.i (.o (.i (.i (.i (.i (.i .h))))))), F252),
  ((.o (.i (.i (.i (.i (.i (.i .h))))))), F253),
  ((.i (.i (.i (.i (.i (.i (.i .h))))))), F254),
  ((.o (.o (.o (.o (.o (.o (.o (.o .h)))))))), F255),
  ((.i (.o (.o (.o (.o (.o (.o (.o .h)))))))), F256),
  ((.o (.i (.o (.o (.o (.o (.o (.o .h)))))))), F257),
  ((.i (.i (.o (.o (.o (.o (.o (.o .h)))))))), F258),
  ((.o (.o (.i (.o (.o (.o (.o (.o .h)))))))), F259),
  ((.i (.o (.i (.o (.o (.o (.o (.o .h)))))))), F260),
  ((.o (.i (.i (.o (.o (.o (.o (.o .h)))))))), F261),
  ((.i (.i (.i (.o (.o (.o (.o (.o .h)))))))), F262),
  ((.o (.o (.o (.i (.o (.o (.o (.o .h)))))))), F263),
  ((.i (.o (.o (.i (.o (.o (.o (.o .h)))))))), F264),
  ((.o (.i (.o (.i (.o (.o (.o (.o .h)))))))), F265),
  ((.i (.i (.o (.i (.o (.o (.o (.o .h)))))))), F266),
  ((.o (.o (.i (.i (.o (.o (.o (.o .h)))))))), F267),
  ((.i (.o (.i (.i (.o (.o (.o (.o .h)))))))), F268),
  ((.o (.i (.i (.i (.o (.o (.o (.o .h)))))))), F269),
  ((.i (.i (.i (.i (.o (.o (.o (.o .h)))))))), F270),
  ((.o (.o (.o (.o (.i (.o (.o (.o .h)))))))), F271),
  ((.i (.o (.o (.o (.i (.o (.o (.o .h)))))))), F272)]
noncomputable def L9 : List (Pos × FnE) := [((.o (.i (.o (.o (.i (.o (.o (.o .h)))))))), F273),
  ((.i (.i (.o (.o (.i (.o (.o (.o .h)))))))), F274),
  ((.o (.o (.i (.o (.i (.o (.o (.o .h)))))))), F275),
  ((.i (.o (.i (.o (.i (.o (.o (.o .h)))))))), F276),
  ((.o (.i (.i (.o (.i (.o (.o (.o .h)))))))), F277),
  ((.i (.i (.i (.o (.i (.o (.o (.o .h)))))))), F278),
  ((.o (.o (.o (.i (.i (.o (.o (.o .h)))))))), F279),
  ((.i (.o (.o (.i (.i (.o (.o (.o .h)))))))), F280),
  ((.o (.i (.o (.i (.i (.o (.o (.o .h)))))))), F281),
  ((.i (.i (.o (.i (.i (.o (.o (.o .h)))))))), F282),
  ((.o (.o (.i (.i (.i (.o (.o (.o .h)))))))), F283),
  ((.i (.o (.i (.i (.i (.o (.o (.o .h)))))))), F284),
  ((.o (.i (.i (.i (.i (.o (.o (.o .h)))))))), F285),
  ((.i (.i (.i (.i (.i (.o (.o (.o .h)))))))), F286),
  ((.o (.o (.o (.o (.o (.i (.o (.o .h)))))))), F287),
  ((.i (.o (.o (.o (.o (.i (.o (.o .h)))))))), F288),
  ((.o (.i (.o (.o (.o (.i (.o (.o .h)))))))), F289),
  ((.i (.i (.o (.o (.o (.i (.o (.o .h)))))))), F290),
  ((.o (.o (.i (.o (.o (.i (.o (.o .h)))))))), F291),
  ((.i (.o (.i (.o (.o (.i (.o (.o .h)))))))), F292),
  ((.o (.i (.i (.o (.o (.i (.o (.o .h)))))))), (.prim (primNoZero 5))),
  ((.i (.i (.i (.o (.o (.i (.o (.o .h)))))))), F294),
  ((.o (.o (.o (.i (.o (.i (.o (.o .h)))))))), F295),
  ((.i (.o (.o (.i (.o (.i (.o (.o .h)))))))), (.prim (stepP (.o (.o .h)))))]
noncomputable def L10 : List (Pos × FnE) := [((.o (.i (.o (.i (.o (.i (.o (.o .h)))))))), F297),
  ((.i (.i (.o (.i (.o (.i (.o (.o .h)))))))), F298),
  ((.o (.o (.i (.i (.o (.i (.o (.o .h)))))))), F299),
  ((.i (.o (.i (.i (.o (.i (.o (.o .h)))))))), F300),
  ((.o (.i (.i (.i (.o (.i (.o (.o .h)))))))), F301),
  ((.i (.i (.i (.i (.o (.i (.o (.o .h)))))))), F302),
  ((.o (.o (.o (.o (.i (.i (.o (.o .h)))))))), F303),
  ((.i (.o (.o (.o (.i (.i (.o (.o .h)))))))), F304),
  ((.o (.i (.o (.o (.i (.i (.o (.o .h)))))))), F305),
  ((.i (.i (.o (.o (.i (.i (.o (.o .h)))))))), F306),
  ((.o (.o (.i (.o (.i (.i (.o (.o .h)))))))), F307),
  ((.i (.o (.i (.o (.i (.i (.o (.o .h)))))))), F308),
  ((.o (.i (.i (.o (.i (.i (.o (.o .h)))))))), F309),
  ((.o (.o (.i (.i (.i (.i (.o (.o .h)))))))), F315),
  ((.i (.o (.i (.i (.i (.i (.o (.o .h)))))))), F316),
  ((.i (.i (.i (.i (.i (.i (.o (.o .h)))))))), (.prim (refStepP (.i (.o .h))))),
  ((.o (.o (.o (.o (.o (.o (.i (.o .h)))))))), F319),
  ((.i (.o (.o (.o (.o (.o (.i (.o .h)))))))), F320),
  ((.o (.i (.o (.o (.o (.o (.i (.o .h)))))))), F321),
  ((.i (.i (.o (.o (.o (.o (.i (.o .h)))))))), F322),
  ((.o (.o (.i (.o (.o (.o (.i (.o .h)))))))), F323),
  ((.i (.o (.i (.o (.o (.o (.i (.o .h)))))))), F324),
  ((.o (.i (.i (.o (.o (.o (.i (.o .h)))))))), F325),
  ((.i (.i (.i (.o (.o (.o (.i (.o .h)))))))), F326)]
noncomputable def L11 : List (Pos × FnE) := [((.o (.o (.o (.i (.o (.o (.i (.o .h)))))))), F327),
  ((.i (.o (.o (.i (.o (.o (.i (.o .h)))))))), F328),
  ((.o (.i (.o (.i (.o (.o (.i (.o .h)))))))), F329),
  ((.i (.i (.o (.i (.o (.o (.i (.o .h)))))))), F330),
  ((.o (.o (.i (.i (.o (.o (.i (.o .h)))))))), F331),
  ((.i (.o (.i (.i (.o (.o (.i (.o .h)))))))), F332),
  ((.o (.i (.i (.i (.o (.o (.i (.o .h)))))))), F333),
  ((.i (.i (.i (.i (.o (.o (.i (.o .h)))))))), F334),
  ((.o (.o (.o (.o (.i (.o (.i (.o .h)))))))), F335),
  ((.i (.o (.o (.o (.i (.o (.i (.o .h)))))))), F336),
  ((.o (.i (.o (.o (.i (.o (.i (.o .h)))))))), F337),
  ((.i (.i (.o (.o (.i (.o (.i (.o .h)))))))), F338),
  ((.o (.o (.i (.o (.i (.o (.i (.o .h)))))))), F339),
  ((.i (.o (.i (.o (.i (.o (.i (.o .h)))))))), F340),
  ((.o (.i (.i (.o (.i (.o (.i (.o .h)))))))), F341),
  ((.i (.i (.i (.o (.i (.o (.i (.o .h)))))))), F342),
  ((.o (.o (.o (.i (.i (.o (.i (.o .h)))))))), F343),
  ((.i (.o (.o (.i (.i (.o (.i (.o .h)))))))), F344),
  ((.o (.i (.o (.i (.i (.o (.i (.o .h)))))))), F345),
  ((.i (.i (.o (.i (.i (.o (.i (.o .h)))))))), F346),
  ((.o (.o (.i (.i (.i (.o (.i (.o .h)))))))), F347),
  ((.i (.o (.i (.i (.i (.o (.i (.o .h)))))))), F348),
  ((.o (.i (.i (.i (.i (.o (.i (.o .h)))))))), F349),
  ((.i (.i (.i (.i (.i (.o (.i (.o .h)))))))), F350)]
noncomputable def L12 : List (Pos × FnE) := [((.o (.o (.o (.o (.o (.i (.i (.o .h)))))))), F351),
  ((.i (.o (.o (.o (.o (.i (.i (.o .h)))))))), F352),
  ((.o (.i (.o (.o (.o (.i (.i (.o .h)))))))), F353),
  ((.i (.o (.i (.o (.o (.i (.i (.o .h)))))))), F356),
  ((.o (.i (.i (.o (.o (.i (.i (.o .h)))))))), F357),
  ((.i (.i (.i (.o (.o (.i (.i (.o .h)))))))), (.prim (primSame))),
  ((.i (.o (.o (.i (.o (.i (.i (.o .h)))))))), (.prim (primIndexByte))),
  ((.i (.i (.o (.i (.o (.i (.i (.o .h)))))))), F362),
  ((.i (.o (.i (.i (.o (.i (.i (.o .h)))))))), F364),
  ((.o (.i (.i (.i (.o (.i (.i (.o .h)))))))), F365),
  ((.i (.i (.i (.i (.o (.i (.i (.o .h)))))))), F366),
  ((.o (.o (.o (.o (.i (.i (.i (.o .h)))))))), F367),
  ((.i (.o (.o (.o (.i (.i (.i (.o .h)))))))), F368),
  ((.o (.i (.o (.o (.i (.i (.i (.o .h)))))))), F369),
  ((.i (.i (.o (.o (.i (.i (.i (.o .h)))))))), F370),
  ((.o (.o (.i (.o (.i (.i (.i (.o .h)))))))), F371),
  ((.i (.o (.i (.o (.i (.i (.i (.o .h)))))))), F372),
  ((.o (.i (.i (.o (.i (.i (.i (.o .h)))))))), F373),
  ((.i (.i (.i (.o (.i (.i (.i (.o .h)))))))), F374),
  ((.o (.o (.o (.i (.i (.i (.i (.o .h)))))))), F375),
  ((.i (.o (.o (.i (.i (.i (.i (.o .h)))))))), F376),
  ((.o (.i (.o (.i (.i (.i (.i (.o .h)))))))), F377),
  ((.i (.i (.o (.i (.i (.i (.i (.o .h)))))))), F378),
  ((.o (.o (.i (.i (.i (.i (.i (.o .h)))))))), F379)]
noncomputable def L13 : List (Pos × FnE) := [((.i (.o (.i (.i (.i (.i (.i (.o .h)))))))), F380),
  ((.o (.i (.i (.i (.i (.i (.i (.o .h)))))))), F381),
  ((.i (.i (.i (.i (.i (.i (.i (.o .h)))))))), F382),
  ((.o (.o (.o (.o (.o (.o (.o (.i .h)))))))), F383),
  ((.i (.o (.o (.o (.o (.o (.o (.i .h)))))))), F384),
  ((.o (.i (.o (.o (.o (.o (.o (.i .h)))))))), F385),
  ((.o (.o (.i (.o (.o (.o (.o (.i .h)))))))), F387),
  ((.i (.o (.i (.o (.o (.o (.o (.i .h)))))))), F388),
  ((.o (.i (.i (.o (.o (.o (.o (.i .h)))))))), F389),
  ((.i (.i (.i (.o (.o (.o (.o (.i .h)))))))), F390),
  ((.o (.o (.o (.i (.o (.o (.o (.i .h)))))))), F391),
  ((.i (.o (.o (.i (.o (.o (.o (.i .h)))))))), F392),
  ((.o (.i (.o (.i (.o (.o (.o (.i .h)))))))), F393),
  ((.i (.i (.o (.i (.o (.o (.o (.i .h)))))))), F394),
  ((.o (.o (.i (.i (.o (.o (.o (.i .h)))))))), F395),
  ((.i (.o (.i (.i (.o (.o (.o (.i .h)))))))), F396),
  ((.o (.i (.i (.i (.o (.o (.o (.i .h)))))))), F397),
  ((.i (.i (.i (.i (.o (.o (.o (.i .h)))))))), F398),
  ((.o (.o (.o (.o (.i (.o (.o (.i .h)))))))), F399),
  ((.i (.o (.o (.o (.i (.o (.o (.i .h)))))))), F400),
  ((.o (.i (.o (.o (.i (.o (.o (.i .h)))))))), F401),
  ((.i (.i (.o (.o (.i (.o (.o (.i .h)))))))), F402),
  ((.o (.o (.i (.o (.i (.o (.o (.i .h)))))))), F403),
  ((.i (.o (.i (.o (.i (.o (.o (.i .h)))))))), F404)]
noncomputable def L14 : List (Pos × FnE) := [((.o (.i (.i (.o (.i (.o (.o (.i .h)))))))), F405),
  ((.i (.i (.i (.o (.i (.o (.o (.i .h)))))))), F406),
  ((.o (.o (.o (.i (.i (.o (.o (.i .h)))))))), F407),
  ((.i (.o (.o (.i (.i (.o (.o (.i .h)))))))), F408),
  ((.o (.i (.o (.i (.i (.o (.o (.i .h)))))))), F409),
  ((.i (.i (.o (.i (.i (.o (.o (.i .h)))))))), F410),
  ((.o (.o (.i (.i (.i (.o (.o (.i .h)))))))), F411),
  ((.i (.o (.i (.i (.i (.o (.o (.i .h)))))))), F412),
  ((.o (.i (.i (.i (.i (.o (.o (.i .h)))))))), F413),
  ((.i (.i (.i (.i (.i (.o (.o (.i .h)))))))), F414)]
noncomputable def LT : List (Pos × FnE) := L1 ++ L2 ++ L3 ++ L4 ++ L5 ++ L6 ++ L7 ++ L8 ++ L9 ++ L10 ++ L11 ++ L12 ++ L13 ++ L14
noncomputable def Tb : PT FnE := (.nd (.nd (.nd (.nd (.nd (.nd (.nd (.nd (.nd .lf (some F255) .lf) (some F127) (.nd .lf (some F383) .lf)) (some Go.Ev.F63) (.nd (.nd .lf (some F319) .lf) (some F191) .lf)) (some
  F31) (.nd (.nd (.nd .lf (some F287) .lf) (some F159) .lf) (some F95) (.nd (.nd .lf (some F351) .lf) (some F223) .lf))) none (.nd (.nd (.nd (.nd .lf (some F271) .lf) none (.nd .lf
  (some F399) .lf)) (some F79) (.nd (.nd .lf (some F335) .lf) (some F207) .lf)) none (.nd (.nd (.nd .lf (some F303) .lf) (some F175) .lf) (some F111) (.nd (.nd .lf (some F367) .lf)
  (some F239) .lf)))) none (.nd (.nd (.nd (.nd (.nd .lf (some F263) .lf) none (.nd .lf (some F391) .lf)) (some F71) (.nd (.nd .lf (some F327) .lf) (some F199) .lf)) (some F39) (.nd
  (.nd (.nd .lf (some F295) .lf) (some F167) .lf) (some F103) (.nd .lf (some F231) .lf))) none (.nd (.nd (.nd (.nd .lf (some F279) .lf) none (.nd .lf (some F407) .lf)) (some F87)
  (.nd (.nd .lf (some F343) .lf) (some F215) .lf)) none (.nd (.nd .lf (some F183) .lf) (some F119) (.nd (.nd .lf (some F375) .lf) (some F247) .lf))))) none (.nd (.nd (.nd (.nd (.nd
  (.nd .lf (some F259) .lf) none (.nd .lf (some F387) .lf)) (some F67) (.nd (.nd .lf (some F323) .lf) (some F195) .lf)) (some F35) (.nd (.nd (.nd .lf (some F291) .lf) (some F163)
  .lf) (some F99) (.nd .lf (some F227) .lf))) none (.nd (.nd (.nd (.nd .lf (some F275) .lf) none (.nd .lf (some F403) .lf)) (some F83) (.nd (.nd .lf (some F339) .lf) (some F211)
  .lf)) none (.nd (.nd (.nd .lf (some F307) .lf) (some F179) .lf) (some F115) (.nd (.nd .lf (some F371) .lf) none .lf)))) none (.nd (.nd (.nd (.nd (.nd .lf (some F267) .lf) none
  (.nd .lf (some F395) .lf)) none (.nd (.nd .lf (some F331) .lf) (some F203) .lf)) (some F43) (.nd (.nd (.nd .lf (some F299) .lf) (some F171) .lf) (some F107) .lf)) (some F27) (.nd
  (.nd (.nd (.nd .lf (some F283) .lf) (some F155) (.nd .lf (some F411) .lf)) (some F91) (.nd (.nd .lf (some F347) .lf) (some F219) .lf)) none (.nd (.nd (.nd .lf (some F315) .lf)
  (some F187) .lf) (some F123) (.nd (.nd .lf (some F379) .lf) (some F251) .lf)))))) none (.nd (.nd (.nd (.nd (.nd (.nd (.nd .lf (some F257) .lf) (some F129) (.nd .lf (some F385)
  .lf)) (some F65) (.nd (.nd .lf (some F321) .lf) (some F193) .lf)) (some F33) (.nd (.nd (.nd .lf (some F289) .lf) (some F161) .lf) (some F97) (.nd (.nd .lf (some F353) .lf) (some
  F225) .lf))) none (.nd (.nd (.nd (.nd .lf (some F273) .lf) none (.nd .lf (some F401) .lf)) none (.nd (.nd .lf (some F337) .lf) (some F209) .lf)) none (.nd (.nd (.nd .lf (some
  F305) .lf) (some F177) .lf) (some F113) (.nd (.nd .lf (some F369) .lf) (some F241) .lf)))) none (.nd (.nd (.nd (.nd (.nd .lf (some F265) .lf) (some F137) (.nd .lf (some F393)
  .lf)) (some F73) (.nd (.nd .lf (some F329) .lf) (some F201) .lf)) (some F41) (.nd (.nd (.nd .lf (some F297) .lf) (some F169) .lf) (some F105) .lf)) none (.nd (.nd (.nd (.nd .lf
  (some F281) .lf) none (.nd .lf (some F409) .lf)) (some F89) (.nd (.nd .lf (some F345) .lf) (some F217) .lf)) none (.nd (.nd .lf (some F185) .lf) (some F121) (.nd (.nd .lf (some
  F377) .lf) (some F249) .lf))))) none (.nd (.nd (.nd (.nd (.nd (.nd .lf (some F261) .lf) none (.nd .lf (some F389) .lf)) (some F69) (.nd (.nd .lf (some F325) .lf) (some F197)
  .lf)) (some F37) (.nd (.nd (.nd .lf (some (.prim (primNoZero 5))) .lf) (some F165) .lf) (some F101) (.nd (.nd .lf (some F357) .lf) none .lf))) (some F21) (.nd (.nd (.nd (.nd .lf
  (some F277) .lf) (some F149) (.nd .lf (some F405) .lf)) (some F85) (.nd (.nd .lf (some F341) .lf) (some F213) .lf)) none (.nd (.nd (.nd .lf (some F309) .lf) (some F181) .lf)
  (some F117) (.nd (.nd .lf (some F373) .lf) none .lf)))) none (.nd (.nd (.nd (.nd (.nd .lf (some F269) .lf) none (.nd .lf (some F397) .lf)) none (.nd (.nd .lf (some F333) .lf)
  (some F205) .lf)) (some F45) (.nd (.nd (.nd .lf (some F301) .lf) (some F173) .lf) (some F109) (.nd (.nd .lf (some F365) .lf) none .lf))) (some F29) (.nd (.nd (.nd (.nd .lf (some
  F285) .lf) (some F157) (.nd .lf (some F413) .lf)) (some F93) (.nd (.nd .lf (some F349) .lf) (some F221) .lf)) none (.nd (.nd .lf (some F189) .lf) (some F125) (.nd (.nd .lf (some
  F381) .lf) (some F253) .lf))))))) none (.nd (.nd (.nd (.nd (.nd (.nd (.nd (.nd .lf (some F256) .lf) (some F128) (.nd .lf (some F384) .lf)) none (.nd (.nd .lf (some F320) .lf)
  (some F192) .lf)) (some F32) (.nd (.nd (.nd .lf (some F288) .lf) (some F160) .lf) (some F96) (.nd (.nd .lf (some F352) .lf) (some F224) .lf))) none (.nd (.nd (.nd (.nd .lf (some
  F272) .lf) none (.nd .lf (some F400) .lf)) none (.nd (.nd .lf (some F336) .lf) (some F208) .lf)) none (.nd (.nd (.nd .lf (some F304) .lf) (some F176) .lf) (some F112) (.nd (.nd
  .lf (some F368) .lf) (some F240) .lf)))) none (.nd (.nd (.nd (.nd (.nd .lf (some F264) .lf) none (.nd .lf (some F392) .lf)) none (.nd (.nd .lf (some F328) .lf) (some F200) .lf))
  (some F40) (.nd (.nd (.nd .lf (some (.prim (stepP (.o (.o .h))))) .lf) (some F168) .lf) (some F104) (.nd (.nd .lf (some (.prim (primIndexByte))) .lf) none .lf))) none (.nd (.nd
  (.nd (.nd .lf (some F280) .lf) none (.nd .lf (some F408) .lf)) (some F88) (.nd (.nd .lf (some F344) .lf) (some F216) .lf)) none (.nd (.nd .lf (some F184) .lf) (some F120) (.nd
  (.nd .lf (some F376) .lf) (some F248) .lf))))) none (.nd (.nd (.nd (.nd (.nd (.nd .lf (some F260) .lf) none (.nd .lf (some F388) .lf)) none (.nd (.nd .lf (some F324) .lf) (some
  F196) .lf)) (some F36) (.nd (.nd (.nd .lf (some F292) .lf) (some F164) .lf) (some F100) (.nd (.nd .lf (some F356) .lf) none .lf))) none (.nd (.nd (.nd (.nd .lf (some F276) .lf)
  (some F148) (.nd .lf (some F404) .lf)) (some F84) (.nd (.nd .lf (some F340) .lf) (some F212) .lf)) none (.nd (.nd (.nd .lf (some F308) .lf) (some F180) .lf) (some F116) (.nd (.nd
  .lf (some F372) .lf) none .lf)))) none (.nd (.nd (.nd (.nd (.nd .lf (some F268) .lf) none (.nd .lf (some F396) .lf)) none (.nd (.nd .lf (some F332) .lf) (some F204) .lf)) (some
  F44) (.nd (.nd (.nd .lf (some F300) .lf) (some F172) .lf) (some F108) (.nd (.nd .lf (some F364) .lf) none .lf))) (some F28) (.nd (.nd (.nd (.nd .lf (some F284) .lf) (some F156)
  (.nd .lf (some F412) .lf)) (some F92) (.nd (.nd .lf (some F348) .lf) (some F220) .lf)) none (.nd (.nd (.nd .lf (some F316) .lf) (some F188) .lf) (some F124) (.nd (.nd .lf (some
  F380) .lf) (some F252) .lf)))))) none (.nd (.nd (.nd (.nd (.nd (.nd (.nd .lf (some F258) .lf) (some F130) .lf) none (.nd (.nd .lf (some F322) .lf) (some F194) .lf)) (some F34)
  (.nd (.nd (.nd .lf (some F290) .lf) (some F162) .lf) (some F98) (.nd .lf (some F226) .lf))) none (.nd (.nd (.nd (.nd .lf (some F274) .lf) none (.nd .lf (some F402) .lf)) (some
  F82) (.nd (.nd .lf (some F338) .lf) (some F210) .lf)) none (.nd (.nd (.nd .lf (some F306) .lf) (some F178) .lf) (some F114) (.nd (.nd .lf (some F370) .lf) none .lf)))) none (.nd
  (.nd (.nd (.nd (.nd .lf (some F266) .lf) none (.nd .lf (some F394) .lf)) (some F74) (.nd (.nd .lf (some F330) .lf) (some F202) .lf)) (some F42) (.nd (.nd (.nd .lf (some F298)
  .lf) (some F170) .lf) (some F106) (.nd (.nd .lf (some F362) .lf) (some F234) .lf))) (some F26) (.nd (.nd (.nd (.nd .lf (some F282) .lf) (some F154) (.nd .lf (some F410) .lf))
  (some F90) (.nd (.nd .lf (some F346) .lf) (some F218) .lf)) none (.nd (.nd .lf (some F186) .lf) (some F122) (.nd (.nd .lf (some F378) .lf) (some F250) .lf))))) (some F6) (.nd
  (.nd (.nd (.nd (.nd (.nd .lf (some F262) .lf) (some F134) (.nd .lf (some F390) .lf)) (some F70) (.nd (.nd .lf (some F326) .lf) (some F198) .lf)) (some F38) (.nd (.nd (.nd .lf
  (some F294) .lf) (some F166) .lf) (some F102) (.nd (.nd .lf (some (.prim (primSame))) .lf) none .lf))) none (.nd (.nd (.nd (.nd .lf (some F278) .lf) none (.nd .lf (some F406)
  .lf)) (some F86) (.nd (.nd .lf (some F342) .lf) (some F214) .lf)) none (.nd (.nd .lf (some F182) .lf) (some F118) (.nd (.nd .lf (some F374) .lf) (some F246) .lf)))) none (.nd
  (.nd (.nd (.nd (.nd .lf (some F270) .lf) none (.nd .lf (some F398) .lf)) (some F78) (.nd (.nd .lf (some F334) .lf) (some F206) .lf)) (some F46) (.nd (.nd (.nd .lf (some F302)
  .lf) (some F174) .lf) (some F110) (.nd (.nd .lf (some F366) .lf) none .lf))) (some F30) (.nd (.nd (.nd (.nd .lf (some F286) .lf) (some F158) (.nd .lf (some F414) .lf)) (some F94)
  (.nd (.nd .lf (some F350) .lf) (some F222) .lf)) none (.nd (.nd (.nd .lf (some (.prim (refStepP (.i (.o .h))))) .lf) (some F190) .lf) (some F126) (.nd (.nd .lf (some F382) .lf)
  (some F254) .lf))))))))
theorem Tb_eq : Tb = tbl LT := by kernel_rfl
end Go.Proofs.YtkafdfjimlihdaaGreatDoor
