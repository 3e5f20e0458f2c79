import PyProof.Rows.All
import Wide.All
import OpenK.AllK
import Wide.FinOn
import Lean
import PySem.Challenge.RW_pc0376_01
open PySem PySem.W PyProof.Rows
set_option Elab.async false
set_option maxRecDepth 100000
set_option linter.unusedVariables false
set_option rowWalk.seconds 0
set_option compiler.extract_closed false
set_option maxHeartbeats 2000000
namespace Mine
/-- a statement of the row's own text, by its place -/
noncomputable def stAt (l : List Stmt) (i : Nat) : Stmt := l.getD i (.Pass ⟨0, 0, 0, 0⟩)
noncomputable def inCls : Stmt → List Stmt
  | .ClassDef _ _ _ b _ _ _ _ _ _ _ => b
  | _ => []
noncomputable def parts : Stmt → Arguments × List Stmt × Scope
  | .FunctionDef _ a b _ _ _ s _ _ _ => (a, b, s)
  | _ => (⟨[], [], none, [], [], none, []⟩, [], ⟨.module, [], false, false, []⟩)
noncomputable def fnAt (i : Nat) : Arguments × List Stmt × Scope := parts (stAt PySem.Challenge.pw_pc0376_01.main.body i)
noncomputable def meAt (i j : Nat) : Arguments × List Stmt × Scope := parts (stAt (inCls (stAt PySem.Challenge.pw_pc0376_01.main.body i)) j)
/-- the part of the top's heap that the walks read; the functions' bodies come out of the row's own term -/
noncomputable def hd.heap_39 : Params → Frag := fun P => (fun (p87 : Arguments) (b87 : List Stmt) (s87 : Scope) (_ : meAt 7 0 = (p87, b87, s87))
  (p94 : Arguments) (b94 : List Stmt) (s94 : Scope) (_ : meAt 7 1 = (p94, b94, s94))
  (p108 : Arguments) (b108 : List Stmt) (s108 : Scope) (_ : meAt 7 3 = (p108, b108, s108))
  (p115 : Arguments) (b115 : List Stmt) (s115 : Scope) (_ : meAt 7 4 = (p115, b115, s115))
  (p136 : Arguments) (b136 : List Stmt) (s136 : Scope) (_ : meAt 7 7 = (p136, b136, s136))
  (p157 : Arguments) (b157 : List Stmt) (s157 : Scope) (_ : meAt 9 0 = (p157, b157, s157))
  (p164 : Arguments) (b164 : List Stmt) (s164 : Scope) (_ : meAt 9 1 = (p164, b164, s164))
  (p171 : Arguments) (b171 : List Stmt) (s171 : Scope) (_ : meAt 9 2 = (p171, b171, s171))
  (p178 : Arguments) (b178 : List Stmt) (s178 : Scope) (_ : meAt 9 3 = (p178, b178, s178))
  (p200 : Arguments) (b200 : List Stmt) (s200 : Scope) (_ : meAt 10 0 = (p200, b200, s200))
  (p205 : Arguments) (b205 : List Stmt) (s205 : Scope) (_ : meAt 10 1 = (p205, b205, s205))
  (p212 : Arguments) (b212 : List Stmt) (s212 : Scope) (_ : meAt 10 2 = (p212, b212, s212))
  (p219 : Arguments) (b219 : List Stmt) (s219 : Scope) (_ : meAt 10 3 = (p219, b219, s219))
  (p226 : Arguments) (b226 : List Stmt) (s226 : Scope) (_ : meAt 10 4 = (p226, b226, s226))
  (p247 : Arguments) (b247 : List Stmt) (s247 : Scope) (_ : meAt 13 0 = (p247, b247, s247))
  (p261 : Arguments) (b261 : List Stmt) (s261 : Scope) (_ : fnAt 14 = (p261, b261, s261))
  (p275 : Arguments) (b275 : List Stmt) (s275 : Scope) (_ : meAt 15 0 = (p275, b275, s275))
  (p282 : Arguments) (b282 : List Stmt) (s282 : Scope) (_ : meAt 15 1 = (p282, b282, s282))
  (p289 : Arguments) (b289 : List Stmt) (s289 : Scope) (_ : meAt 15 2 = (p289, b289, s289))
  (p310 : Arguments) (b310 : List Stmt) (s310 : Scope) (_ : meAt 17 0 = (p310, b310, s310))
  (p317 : Arguments) (b317 : List Stmt) (s317 : Scope) (_ : meAt 17 1 = (p317, b317, s317))
  (p324 : Arguments) (b324 : List Stmt) (s324 : Scope) (_ : meAt 17 2 = (p324, b324, s324))
  (p338 : Arguments) (b338 : List Stmt) (s338 : Scope) (_ : meAt 17 4 = (p338, b338, s338))
  (p352 : Arguments) (b352 : List Stmt) (s352 : Scope) (_ : fnAt 18 = (p352, b352, s352))
  (p364 : Arguments) (b364 : List Stmt) (s364 : Scope) (_ : meAt 19 0 = (p364, b364, s364))
  (p371 : Arguments) (b371 : List Stmt) (s371 : Scope) (_ : meAt 19 1 = (p371, b371, s371))
  (p379 : Arguments) (b379 : List Stmt) (s379 : Scope) (_ : meAt 19 2 = (p379, b379, s379))
  (p387 : Arguments) (b387 : List Stmt) (s387 : Scope) (_ : meAt 19 3 = (p387, b387, s387))
  (p392 : Arguments) (b392 : List Stmt) (s392 : Scope) (_ : meAt 19 4 = (p392, b392, s392))
  (p406 : Arguments) (b406 : List Stmt) (s406 : Scope) (_ : fnAt 21 = (p406, b406, s406))
  (p413 : Arguments) (b413 : List Stmt) (s413 : Scope) (_ : fnAt 22 = (p413, b413, s413))
  (p420 : Arguments) (b420 : List Stmt) (s420 : Scope) (_ : fnAt 23 = (p420, b420, s420))
  (p425 : Arguments) (b425 : List Stmt) (s425 : Scope) (_ : fnAt 24 = (p425, b425, s425))
  (p430 : Arguments) (b430 : List Stmt) (s430 : Scope) (_ : fnAt 25 = (p430, b430, s430))
  (p437 : Arguments) (b437 : List Stmt) (s437 : Scope) (_ : fnAt 26 = (p437, b437, s437))
  (p444 : Arguments) (b444 : List Stmt) (s444 : Scope) (_ : fnAt 27 = (p444, b444, s444))
  (p451 : Arguments) (b451 : List Stmt) (s451 : Scope) (_ : fnAt 28 = (p451, b451, s451))
  (p458 : Arguments) (b458 : List Stmt) (s458 : Scope) (_ : fnAt 29 = (p458, b458, s458))
  (p463 : Arguments) (b463 : List Stmt) (s463 : Scope) (_ : fnAt 30 = (p463, b463, s463))
  (p470 : Arguments) (b470 : List Stmt) (s470 : Scope) (_ : fnAt 31 = (p470, b470, s470)) => ((nat_lit 2, ⟨.none,none,(.dict #[⟨(PyData.keyHash P "type.__subclasses__.Exception.0"),(.str "type.__subclasses__.Exception.0" 221),(.int 38 0)⟩,⟨(PyData.keyHash P "type.__subclasses__.Exception.n"),(.str "type.__subclasses__.Exception.n" 222),(.int 1 0)⟩] 2),#[]⟩) ::
  (nat_lit 3, ⟨(.type "dict"),none,(.dict #[⟨(PyData.keyHash P "__name__"),(.str "__name__" 165),(.str "law_pc0376_01" 722)⟩,⟨(PyData.keyHash P "__doc__"),(.str "__doc__" 166),.none⟩,⟨(PyData.keyHash P "__package__"),(.str "__package__" 167),.none⟩,⟨(PyData.keyHash P "__loader__"),(.str "__loader__" 168),(.builtin "__main__.__loader__#opaque")⟩,⟨(PyData.keyHash P "__spec__"),(.str "__spec__" 169),.none⟩,⟨(PyData.keyHash P "__annotations__"),(.str "__annotations__" 170),(.ref 6)⟩,⟨(PyData.keyHash P "__builtins__"),(.str "__builtins__" 171),(.ref 4)⟩,⟨(PyData.keyHash P "__file__"),(.str "__file__" 173),(.str "/claim/cut.py" 172)⟩,⟨(PyData.keyHash P "__cached__"),(.str "__cached__" 174),.none⟩,⟨(PyData.keyHash P "_wall"),(.str "_wall" 193),(.ref 21)⟩,⟨(PyData.keyHash P "SwitchError"),(.str "SwitchError" 224),(.ref 38)⟩,⟨(PyData.keyHash P "SizeError"),(.str "SizeError" 240),(.ref 51)⟩,⟨(PyData.keyHash P "SettingError"),(.str "SettingError" 267),(.ref 71)⟩,⟨(PyData.keyHash P "GRAINS"),(.str "GRAINS" 271),(.int 100 270)⟩,⟨(PyData.keyHash P "Bucket"),(.str "Bucket" 365),(.ref 139)⟩,⟨(PyData.keyHash P "Shaper"),(.str "Shaper" 424),(.ref 181)⟩,⟨(PyData.keyHash P "PortOut"),(.str "PortOut" 492),(.ref 229)⟩,⟨(PyData.keyHash P "PRIORITIES"),(.str "PRIORITIES" 496),(.int 8 495)⟩,⟨(PyData.keyHash P "PauseFrame"),(.str "PauseFrame" 525),(.ref 250)⟩,⟨(PyData.keyHash P "time_behind"),(.str "time_behind" 534),(.ref 261)⟩,⟨(PyData.keyHash P "PauseState"),(.str "PauseState" 584),(.ref 292)⟩,⟨(PyData.keyHash P "QueueRow"),(.str "QueueRow" 651),(.ref 341)⟩,⟨(PyData.keyHash P "may_go"),(.str "may_go" 660),(.ref 352)⟩,⟨(PyData.keyHash P "StrictQueues"),(.str "StrictQueues" 721),(.ref 395)⟩,⟨(PyData.keyHash P "_law_source"),(.str "_law_source" 731),(.ref 406)⟩,⟨(PyData.keyHash P "_law_next"),(.str "_law_next" 740),(.ref 413)⟩,⟨(PyData.keyHash P "_law_pick"),(.str "_law_pick" 748),(.ref 420)⟩,⟨(PyData.keyHash P "_law_pause"),(.str "_law_pause" 754),(.ref 425)⟩,⟨(PyData.keyHash P "_law_head"),(.str "_law_head" 760),(.ref 430)⟩,⟨(PyData.keyHash P "_law_filled"),(.str "_law_filled" 768),(.ref 437)⟩,⟨(PyData.keyHash P "_law_asked"),(.str "_law_asked" 776),(.ref 444)⟩,⟨(PyData.keyHash P "_law_due_time"),(.str "_law_due_time" 786),(.ref 451)⟩,⟨(PyData.keyHash P "_law_gone"),(.str "_law_gone" 799),(.ref 458)⟩,⟨(PyData.keyHash P "_law_bounded"),(.str "_law_bounded" 805),(.ref 463)⟩,⟨(PyData.keyHash P "_law_fixed_right"),(.str "_law_fixed_right" 812),(.ref 470)⟩,⟨(PyData.keyHash P "law"),(.str "law" 818),(.ref 475)⟩] 36),#[]⟩) ::
  (nat_lit 86, ⟨(.type "code"),none,(.fields #[(.str "__init__" 284),(.str "Bucket.__init__" 285),(.str "/claim/cut.py" 286),(.int 21 0),(.int 3 0),(.int 0 0),(.int 0 0),(.int 3 0),(.ref 81),(.bool true),(.int 181 0),(.ref 82),.none,(.ref 83),(.ref 84),(.ref 85),(.int 290 0),(.int 21 0),(.str "/claim/cut.py" 291)]),#[]⟩) ::
  (nat_lit 87, ⟨(.type "function"),none,(.func ⟨"__init__","Bucket.__init__",p87,(.stmts b87),s87,3,[],.none,.none,.none,(.str "switchloom.buckets" 268),none,(.ref 86),.none,0⟩),#[]⟩) ::
  (nat_lit 93, ⟨(.type "code"),none,(.fields #[(.str "fill" 293),(.str "Bucket.fill" 294),(.str "/claim/cut.py" 295),(.int 29 0),(.int 2 0),(.int 0 0),(.int 0 0),(.int 3 0),(.ref 88),(.bool true),(.int 181 0),(.ref 89),.none,(.ref 90),(.ref 91),(.ref 92),(.int 299 0),(.int 29 0),(.str "/claim/cut.py" 300)]),#[]⟩) ::
  (nat_lit 94, ⟨(.type "function"),none,(.func ⟨"fill","Bucket.fill",p94,(.stmts b94),s94,3,[],.none,.none,.none,(.str "switchloom.buckets" 268),none,(.ref 93),.none,0⟩),#[]⟩) ::
  (nat_lit 107, ⟨(.type "code"),none,(.fields #[(.str "has" 310),(.str "Bucket.has" 311),(.str "/claim/cut.py" 312),(.int 40 0),(.int 3 0),(.int 0 0),(.int 0 0),(.int 3 0),(.ref 102),(.bool true),(.int 181 0),(.ref 103),.none,(.ref 104),(.ref 105),(.ref 106),(.int 316 0),(.int 40 0),(.str "/claim/cut.py" 317)]),#[]⟩) ::
  (nat_lit 108, ⟨(.type "function"),none,(.func ⟨"has","Bucket.has",p108,(.stmts b108),s108,3,[],.none,.none,.none,(.str "switchloom.buckets" 268),none,(.ref 107),.none,0⟩),#[]⟩) ::
  (nat_lit 114, ⟨(.type "code"),none,(.fields #[(.str "spend" 319),(.str "Bucket.spend" 320),(.str "/claim/cut.py" 321),(.int 44 0),(.int 2 0),(.int 0 0),(.int 0 0),(.int 3 0),(.ref 109),(.bool true),(.int 181 0),(.ref 110),.none,(.ref 111),(.ref 112),(.ref 113),(.int 324 0),(.int 44 0),(.str "/claim/cut.py" 325)]),#[]⟩) ::
  (nat_lit 115, ⟨(.type "function"),none,(.func ⟨"spend","Bucket.spend",p115,(.stmts b115),s115,3,[],.none,.none,.none,(.str "switchloom.buckets" 268),none,(.ref 114),.none,0⟩),#[]⟩) ::
  (nat_lit 135, ⟨(.type "code"),none,(.fields #[(.str "wait" 344),(.str "Bucket.wait" 345),(.str "/claim/cut.py" 346),(.int 56 0),(.int 3 0),(.int 0 0),(.int 0 0),(.int 3 0),(.ref 130),(.bool true),(.int 181 0),(.ref 131),.none,(.ref 132),(.ref 133),(.ref 134),(.int 351 0),(.int 56 0),(.str "/claim/cut.py" 352)]),#[]⟩) ::
  (nat_lit 136, ⟨(.type "function"),none,(.func ⟨"wait","Bucket.wait",p136,(.stmts b136),s136,3,[],.none,.none,.none,(.str "switchloom.buckets" 268),none,(.ref 135),.none,0⟩),#[]⟩) ::
  (nat_lit 138, ⟨(.type "dict"),none,(.dict #[⟨(PyData.keyHash P "__module__"),(.str "__module__" 279),(.str "switchloom.buckets" 268)⟩,⟨(PyData.keyHash P "__firstlineno__"),(.str "__firstlineno__" 283),(.int 19 282)⟩,⟨(PyData.keyHash P "__init__"),(.str "__init__" 292),(.ref 87)⟩,⟨(PyData.keyHash P "fill"),(.str "fill" 301),(.ref 94)⟩,⟨(PyData.keyHash P "level"),(.str "level" 309),(.ref 101)⟩,⟨(PyData.keyHash P "has"),(.str "has" 318),(.ref 108)⟩,⟨(PyData.keyHash P "spend"),(.str "spend" 326),(.ref 115)⟩,⟨(PyData.keyHash P "take"),(.str "take" 335),(.ref 122)⟩,⟨(PyData.keyHash P "add"),(.str "add" 343),(.ref 129)⟩,⟨(PyData.keyHash P "wait"),(.str "wait" 353),(.ref 136)⟩,⟨(PyData.keyHash P "__static_attributes__"),(.str "__static_attributes__" 358),(.ref 137)⟩,⟨(PyData.keyHash P "__dict__"),(.str "__dict__" 360),(.ref 140)⟩,⟨(PyData.keyHash P "__weakref__"),(.str "__weakref__" 362),(.ref 141)⟩,⟨(PyData.keyHash P "__doc__"),(.str "__doc__" 363),.none⟩] 4),#[]⟩) ::
  (nat_lit 139, ⟨(.type "type"),none,(.cls ⟨"Bucket",[(.type "object")],[(.ref 139),(.type "object")],138,"Bucket",true,[],[],false,none,false⟩),#[none,none,(some (.str "Bucket" 272)),(some (.str "Bucket" 280)),(some (.builtin "object.__new__")),(some (.bool true))]⟩) ::
  (nat_lit 156, ⟨(.type "code"),none,(.fields #[(.str "__init__" 380),(.str "Shaper.__init__" 381),(.str "/claim/cut.py" 382),(.int 67 0),(.int 3 0),(.int 0 0),(.int 0 0),(.int 3 0),(.ref 151),(.bool true),(.int 181 0),(.ref 152),.none,(.ref 153),(.ref 154),(.ref 155),(.int 386 0),(.int 67 0),(.str "/claim/cut.py" 387)]),#[]⟩) ::
  (nat_lit 157, ⟨(.type "function"),none,(.func ⟨"__init__","Shaper.__init__",p157,(.stmts b157),s157,3,[],.none,.none,.none,(.str "switchloom.shapers" 366),none,(.ref 156),.none,0⟩),#[]⟩) ::
  (nat_lit 163, ⟨(.type "code"),none,(.fields #[(.str "asked_size" 389),(.str "Shaper.asked_size" 390),(.str "/claim/cut.py" 391),(.int 70 0),(.int 2 0),(.int 0 0),(.int 0 0),(.int 3 0),(.ref 158),(.bool true),(.int 181 0),(.ref 159),.none,(.ref 160),(.ref 161),(.ref 162),(.int 394 0),(.int 70 0),(.str "/claim/cut.py" 395)]),#[]⟩) ::
  (nat_lit 164, ⟨(.type "function"),none,(.func ⟨"asked_size","Shaper.asked_size",p164,(.stmts b164),s164,3,[],.none,.none,.none,(.str "switchloom.shapers" 366),none,(.ref 163),.none,0⟩),#[]⟩) ::
  (nat_lit 170, ⟨(.type "code"),none,(.fields #[(.str "when" 397),(.str "Shaper.when" 398),(.str "/claim/cut.py" 399),(.int 73 0),(.int 3 0),(.int 0 0),(.int 0 0),(.int 3 0),(.ref 165),(.bool true),(.int 181 0),(.ref 166),.none,(.ref 167),(.ref 168),(.ref 169),(.int 404 0),(.int 73 0),(.str "/claim/cut.py" 405)]),#[]⟩) ::
  (nat_lit 171, ⟨(.type "function"),none,(.func ⟨"when","Shaper.when",p171,(.stmts b171),s171,3,[],.none,.none,.none,(.str "switchloom.shapers" 366),none,(.ref 170),.none,0⟩),#[]⟩) ::
  (nat_lit 177, ⟨(.type "code"),none,(.fields #[(.str "sent" 407),(.str "Shaper.sent" 408),(.str "/claim/cut.py" 409),(.int 77 0),(.int 3 0),(.int 0 0),(.int 0 0),(.int 3 0),(.ref 172),(.bool true),(.int 181 0),(.ref 173),.none,(.ref 174),(.ref 175),(.ref 176),(.int 413 0),(.int 77 0),(.str "/claim/cut.py" 414)]),#[]⟩) ::
  (nat_lit 178, ⟨(.type "function"),none,(.func ⟨"sent","Shaper.sent",p178,(.stmts b178),s178,3,[],.none,.none,.none,(.str "switchloom.shapers" 366),none,(.ref 177),.none,0⟩),#[]⟩) ::
  (nat_lit 180, ⟨(.type "dict"),none,(.dict #[⟨(PyData.keyHash P "__module__"),(.str "__module__" 375),(.str "switchloom.shapers" 366)⟩,⟨(PyData.keyHash P "__firstlineno__"),(.str "__firstlineno__" 379),(.int 65 378)⟩,⟨(PyData.keyHash P "__init__"),(.str "__init__" 388),(.ref 157)⟩,⟨(PyData.keyHash P "asked_size"),(.str "asked_size" 396),(.ref 164)⟩,⟨(PyData.keyHash P "when"),(.str "when" 406),(.ref 171)⟩,⟨(PyData.keyHash P "sent"),(.str "sent" 415),(.ref 178)⟩,⟨(PyData.keyHash P "__static_attributes__"),(.str "__static_attributes__" 417),(.ref 179)⟩,⟨(PyData.keyHash P "__dict__"),(.str "__dict__" 419),(.ref 182)⟩,⟨(PyData.keyHash P "__weakref__"),(.str "__weakref__" 421),(.ref 183)⟩,⟨(PyData.keyHash P "__doc__"),(.str "__doc__" 422),.none⟩] 4),#[]⟩) ::
  (nat_lit 181, ⟨(.type "type"),none,(.cls ⟨"Shaper",[(.type "object")],[(.ref 181),(.type "object")],180,"Shaper",true,[],[],false,none,false⟩),#[none,none,(some (.str "Shaper" 368)),(some (.str "Shaper" 376)),(some (.builtin "object.__new__")),(some (.bool true))]⟩) ::
  (nat_lit 193, ⟨(.type "tuple"),none,(.seq #[.none,.none] 0),#[]⟩) ::
  (nat_lit 199, ⟨(.type "code"),none,(.fields #[(.str "__init__" 437),(.str "PortOut.__init__" 438),(.str "/claim/cut.py" 439),(.int 84 0),(.int 4 0),(.int 0 0),(.int 0 0),(.int 3 0),(.ref 194),(.bool true),(.int 181 0),(.ref 195),.none,(.ref 196),(.ref 197),(.ref 198),(.int 444 0),(.int 84 0),(.str "/claim/cut.py" 445)]),#[]⟩) ::
  (nat_lit 200, ⟨(.type "function"),none,(.func ⟨"__init__","PortOut.__init__",p200,(.stmts b200),s200,3,[],(.ref 193),.none,.none,(.str "switchloom.shapers" 366),none,(.ref 199),.none,0⟩),#[]⟩) ::
  (nat_lit 204, ⟨(.type "code"),none,(.fields #[(.str "allowed" 447),(.str "PortOut.allowed" 448),(.str "/claim/cut.py" 449),(.int 89 0),(.int 2 0),(.int 0 0),(.int 0 0),(.int 3 0),(.ref 201),(.bool true),(.int 181 0),(.ref 202),.none,.none,.none,(.ref 203),(.int 450 0),(.int 89 0),(.str "/claim/cut.py" 451)]),#[]⟩) ::
  (nat_lit 205, ⟨(.type "function"),none,(.func ⟨"allowed","PortOut.allowed",p205,(.stmts b205),s205,3,[],.none,.none,.none,(.str "switchloom.shapers" 366),none,(.ref 204),.none,0⟩),#[]⟩) ::
  (nat_lit 211, ⟨(.type "code"),none,(.fields #[(.str "put" 453),(.str "PortOut.put" 454),(.str "/claim/cut.py" 455),(.int 94 0),(.int 4 0),(.int 0 0),(.int 0 0),(.int 3 0),(.ref 206),(.bool true),(.int 181 0),(.ref 207),.none,(.ref 208),(.ref 209),(.ref 210),(.int 460 0),(.int 94 0),(.str "/claim/cut.py" 461)]),#[]⟩) ::
  (nat_lit 212, ⟨(.type "function"),none,(.func ⟨"put","PortOut.put",p212,(.stmts b212),s212,3,[],.none,.none,.none,(.str "switchloom.shapers" 366),none,(.ref 211),.none,0⟩),#[]⟩) ::
  (nat_lit 218, ⟨(.type "code"),none,(.fields #[(.str "next" 463),(.str "PortOut.next" 464),(.str "/claim/cut.py" 465),(.int 97 0),(.int 2 0),(.int 0 0),(.int 0 0),(.int 3 0),(.ref 213),(.bool true),(.int 181 0),(.ref 214),.none,(.ref 215),(.ref 216),(.ref 217),(.int 470 0),(.int 97 0),(.str "/claim/cut.py" 471)]),#[]⟩) ::
  (nat_lit 219, ⟨(.type "function"),none,(.func ⟨"next","PortOut.next",p219,(.stmts b219),s219,3,[],.none,.none,.none,(.str "switchloom.shapers" 366),none,(.ref 218),.none,0⟩),#[]⟩) ::
  (nat_lit 225, ⟨(.type "code"),none,(.fields #[(.str "when" 473),(.str "PortOut.when" 474),(.str "/claim/cut.py" 475),(.int 104 0),(.int 2 0),(.int 0 0),(.int 0 0),(.int 3 0),(.ref 220),(.bool true),(.int 181 0),(.ref 221),.none,(.ref 222),(.ref 223),(.ref 224),(.int 479 0),(.int 104 0),(.str "/claim/cut.py" 480)]),#[]⟩) ::
  (nat_lit 226, ⟨(.type "function"),none,(.func ⟨"when","PortOut.when",p226,(.stmts b226),s226,3,[],.none,.none,.none,(.str "switchloom.shapers" 366),none,(.ref 225),.none,0⟩),#[]⟩) ::
  (nat_lit 228, ⟨(.type "dict"),none,(.dict #[⟨(PyData.keyHash P "__module__"),(.str "__module__" 432),(.str "switchloom.shapers" 366)⟩,⟨(PyData.keyHash P "__firstlineno__"),(.str "__firstlineno__" 436),(.int 82 435)⟩,⟨(PyData.keyHash P "__init__"),(.str "__init__" 446),(.ref 200)⟩,⟨(PyData.keyHash P "allowed"),(.str "allowed" 452),(.ref 205)⟩,⟨(PyData.keyHash P "put"),(.str "put" 462),(.ref 212)⟩,⟨(PyData.keyHash P "next"),(.str "next" 472),(.ref 219)⟩,⟨(PyData.keyHash P "when"),(.str "when" 481),(.ref 226)⟩,⟨(PyData.keyHash P "__static_attributes__"),(.str "__static_attributes__" 485),(.ref 227)⟩,⟨(PyData.keyHash P "__dict__"),(.str "__dict__" 487),(.ref 230)⟩,⟨(PyData.keyHash P "__weakref__"),(.str "__weakref__" 489),(.ref 231)⟩,⟨(PyData.keyHash P "__doc__"),(.str "__doc__" 490),.none⟩] 4),#[]⟩) ::
  (nat_lit 229, ⟨(.type "type"),none,(.cls ⟨"PortOut",[(.type "object")],[(.ref 229),(.type "object")],228,"PortOut",true,[],[],false,none,false⟩),#[none,none,(some (.str "PortOut" 425)),(some (.str "PortOut" 433)),(some (.builtin "object.__new__")),(some (.bool true))]⟩) ::
  (nat_lit 246, ⟨(.type "code"),none,(.fields #[(.str "__init__" 509),(.str "PauseFrame.__init__" 510),(.str "/claim/cut.py" 511),(.int 113 0),(.int 2 0),(.int 0 0),(.int 0 0),(.int 3 0),(.ref 241),(.bool true),(.int 181 0),(.ref 242),.none,(.ref 243),(.ref 244),(.ref 245),(.int 514 0),(.int 113 0),(.str "/claim/cut.py" 515)]),#[]⟩) ::
  (nat_lit 247, ⟨(.type "function"),none,(.func ⟨"__init__","PauseFrame.__init__",p247,(.stmts b247),s247,3,[],.none,.none,.none,(.str "switchloom.pause" 493),none,(.ref 246),.none,0⟩),#[]⟩) ::
  (nat_lit 249, ⟨(.type "dict"),none,(.dict #[⟨(PyData.keyHash P "__module__"),(.str "__module__" 504),(.str "switchloom.pause" 493)⟩,⟨(PyData.keyHash P "__firstlineno__"),(.str "__firstlineno__" 508),(.int 111 507)⟩,⟨(PyData.keyHash P "__init__"),(.str "__init__" 516),(.ref 247)⟩,⟨(PyData.keyHash P "__static_attributes__"),(.str "__static_attributes__" 518),(.ref 248)⟩,⟨(PyData.keyHash P "__dict__"),(.str "__dict__" 520),(.ref 251)⟩,⟨(PyData.keyHash P "__weakref__"),(.str "__weakref__" 522),(.ref 252)⟩,⟨(PyData.keyHash P "__doc__"),(.str "__doc__" 523),.none⟩] 4),#[]⟩) ::
  (nat_lit 250, ⟨(.type "type"),none,(.cls ⟨"PauseFrame",[(.type "object")],[(.ref 250),(.type "object")],249,"PauseFrame",true,[],[],false,none,false⟩),#[none,none,(some (.str "PauseFrame" 497)),(some (.str "PauseFrame" 505)),(some (.builtin "object.__new__")),(some (.bool true))]⟩) ::
  (nat_lit 260, ⟨(.type "code"),none,(.fields #[(.str "time_behind" 526),(.str "time_behind" 527),(.str "/claim/cut.py" 528),(.int 115 0),(.int 3 0),(.int 0 0),(.int 0 0),(.int 3 0),(.ref 255),(.bool true),(.int 181 0),(.ref 256),.none,(.ref 257),(.ref 258),(.ref 259),(.int 532 0),(.int 115 0),(.str "/claim/cut.py" 533)]),#[]⟩) ::
  (nat_lit 261, ⟨(.type "function"),none,(.func ⟨"time_behind","time_behind",p261,(.stmts b261),s261,3,[],.none,.none,.none,(.str "switchloom.pause" 493),none,(.ref 260),.none,0⟩),#[]⟩) ::
  (nat_lit 274, ⟨(.type "code"),none,(.fields #[(.str "__init__" 547),(.str "PauseState.__init__" 548),(.str "/claim/cut.py" 549),(.int 119 0),(.int 2 0),(.int 0 0),(.int 0 0),(.int 3 0),(.ref 269),(.bool true),(.int 181 0),(.ref 270),.none,(.ref 271),(.ref 272),(.ref 273),(.int 552 0),(.int 119 0),(.str "/claim/cut.py" 553)]),#[]⟩) ::
  (nat_lit 275, ⟨(.type "function"),none,(.func ⟨"__init__","PauseState.__init__",p275,(.stmts b275),s275,3,[],.none,.none,.none,(.str "switchloom.pause" 493),none,(.ref 274),.none,0⟩),#[]⟩) ::
  (nat_lit 281, ⟨(.type "code"),none,(.fields #[(.str "heard" 555),(.str "PauseState.heard" 556),(.str "/claim/cut.py" 557),(.int 125 0),(.int 3 0),(.int 0 0),(.int 0 0),(.int 3 0),(.ref 276),(.bool true),(.int 181 0),(.ref 277),.none,(.ref 278),(.ref 279),(.ref 280),(.int 563 0),(.int 125 0),(.str "/claim/cut.py" 564)]),#[]⟩) ::
  (nat_lit 282, ⟨(.type "function"),none,(.func ⟨"heard","PauseState.heard",p282,(.stmts b282),s282,3,[],.none,.none,.none,(.str "switchloom.pause" 493),none,(.ref 281),.none,0⟩),#[]⟩) ::
  (nat_lit 288, ⟨(.type "code"),none,(.fields #[(.str "may_send" 566),(.str "PauseState.may_send" 567),(.str "/claim/cut.py" 568),(.int 131 0),(.int 3 0),(.int 0 0),(.int 0 0),(.int 3 0),(.ref 283),(.bool true),(.int 181 0),(.ref 284),.none,(.ref 285),(.ref 286),(.ref 287),(.int 572 0),(.int 131 0),(.str "/claim/cut.py" 573)]),#[]⟩) ::
  (nat_lit 289, ⟨(.type "function"),none,(.func ⟨"may_send","PauseState.may_send",p289,(.stmts b289),s289,3,[],.none,.none,.none,(.str "switchloom.pause" 493),none,(.ref 288),.none,0⟩),#[]⟩) ::
  (nat_lit 291, ⟨(.type "dict"),none,(.dict #[⟨(PyData.keyHash P "__module__"),(.str "__module__" 542),(.str "switchloom.pause" 493)⟩,⟨(PyData.keyHash P "__firstlineno__"),(.str "__firstlineno__" 546),(.int 117 545)⟩,⟨(PyData.keyHash P "__init__"),(.str "__init__" 554),(.ref 275)⟩,⟨(PyData.keyHash P "heard"),(.str "heard" 565),(.ref 282)⟩,⟨(PyData.keyHash P "may_send"),(.str "may_send" 574),(.ref 289)⟩,⟨(PyData.keyHash P "__static_attributes__"),(.str "__static_attributes__" 577),(.ref 290)⟩,⟨(PyData.keyHash P "__dict__"),(.str "__dict__" 579),(.ref 293)⟩,⟨(PyData.keyHash P "__weakref__"),(.str "__weakref__" 581),(.ref 294)⟩,⟨(PyData.keyHash P "__doc__"),(.str "__doc__" 582),.none⟩] 4),#[]⟩) ::
  (nat_lit 292, ⟨(.type "type"),none,(.cls ⟨"PauseState",[(.type "object")],[(.ref 292),(.type "object")],291,"PauseState",true,[],[],false,none,false⟩),#[none,none,(some (.str "PauseState" 535)),(some (.str "PauseState" 543)),(some (.builtin "object.__new__")),(some (.bool true))]⟩) ::
  (nat_lit 309, ⟨(.type "code"),none,(.fields #[(.str "__init__" 599),(.str "QueueRow.__init__" 600),(.str "/claim/cut.py" 601),(.int 136 0),(.int 3 0),(.int 0 0),(.int 0 0),(.int 3 0),(.ref 304),(.bool true),(.int 181 0),(.ref 305),.none,(.ref 306),(.ref 307),(.ref 308),(.int 605 0),(.int 136 0),(.str "/claim/cut.py" 606)]),#[]⟩) ::
  (nat_lit 310, ⟨(.type "function"),none,(.func ⟨"__init__","QueueRow.__init__",p310,(.stmts b310),s310,3,[],.none,.none,.none,(.str "switchloom.queues" 585),none,(.ref 309),.none,0⟩),#[]⟩) ::
  (nat_lit 316, ⟨(.type "code"),none,(.fields #[(.str "put" 608),(.str "QueueRow.put" 609),(.str "/claim/cut.py" 610),(.int 145 0),(.int 3 0),(.int 0 0),(.int 0 0),(.int 3 0),(.ref 311),(.bool true),(.int 181 0),(.ref 312),.none,(.ref 313),(.ref 314),(.ref 315),(.int 614 0),(.int 145 0),(.str "/claim/cut.py" 615)]),#[]⟩) ::
  (nat_lit 317, ⟨(.type "function"),none,(.func ⟨"put","QueueRow.put",p317,(.stmts b317),s317,3,[],.none,.none,.none,(.str "switchloom.queues" 585),none,(.ref 316),.none,0⟩),#[]⟩) ::
  (nat_lit 323, ⟨(.type "code"),none,(.fields #[(.str "is_empty" 617),(.str "QueueRow.is_empty" 618),(.str "/claim/cut.py" 619),(.int 153 0),(.int 1 0),(.int 0 0),(.int 0 0),(.int 3 0),(.ref 318),(.bool true),(.int 181 0),(.ref 319),.none,(.ref 320),(.ref 321),(.ref 322),(.int 621 0),(.int 153 0),(.str "/claim/cut.py" 622)]),#[]⟩) ::
  (nat_lit 324, ⟨(.type "function"),none,(.func ⟨"is_empty","QueueRow.is_empty",p324,(.stmts b324),s324,3,[],.none,.none,.none,(.str "switchloom.queues" 585),none,(.ref 323),.none,0⟩),#[]⟩) ::
  (nat_lit 337, ⟨(.type "code"),none,(.fields #[(.str "take" 631),(.str "QueueRow.take" 632),(.str "/claim/cut.py" 633),(.int 159 0),(.int 1 0),(.int 0 0),(.int 0 0),(.int 3 0),(.ref 332),(.bool true),(.int 181 0),(.ref 333),.none,(.ref 334),(.ref 335),(.ref 336),(.int 636 0),(.int 159 0),(.str "/claim/cut.py" 637)]),#[]⟩) ::
  (nat_lit 338, ⟨(.type "function"),none,(.func ⟨"take","QueueRow.take",p338,(.stmts b338),s338,3,[],.none,.none,.none,(.str "switchloom.queues" 585),none,(.ref 337),.none,0⟩),#[]⟩) ::
  (nat_lit 340, ⟨(.type "dict"),none,(.dict #[⟨(PyData.keyHash P "__module__"),(.str "__module__" 594),(.str "switchloom.queues" 585)⟩,⟨(PyData.keyHash P "__firstlineno__"),(.str "__firstlineno__" 598),(.int 134 597)⟩,⟨(PyData.keyHash P "__init__"),(.str "__init__" 607),(.ref 310)⟩,⟨(PyData.keyHash P "put"),(.str "put" 616),(.ref 317)⟩,⟨(PyData.keyHash P "is_empty"),(.str "is_empty" 623),(.ref 324)⟩,⟨(PyData.keyHash P "head_size"),(.str "head_size" 630),(.ref 331)⟩,⟨(PyData.keyHash P "take"),(.str "take" 638),(.ref 338)⟩,⟨(PyData.keyHash P "__static_attributes__"),(.str "__static_attributes__" 644),(.ref 339)⟩,⟨(PyData.keyHash P "__dict__"),(.str "__dict__" 646),(.ref 342)⟩,⟨(PyData.keyHash P "__weakref__"),(.str "__weakref__" 648),(.ref 343)⟩,⟨(PyData.keyHash P "__doc__"),(.str "__doc__" 649),.none⟩] 4),#[]⟩) ::
  (nat_lit 341, ⟨(.type "type"),none,(.cls ⟨"QueueRow",[(.type "object")],[(.ref 341),(.type "object")],340,"QueueRow",true,[],[],false,none,false⟩),#[none,none,(some (.str "QueueRow" 587)),(some (.str "QueueRow" 595)),(some (.builtin "object.__new__")),(some (.bool true))]⟩) ::
  (nat_lit 351, ⟨(.type "code"),none,(.fields #[(.str "may_go" 652),(.str "may_go" 653),(.str "/claim/cut.py" 654),(.int 163 0),(.int 3 0),(.int 0 0),(.int 0 0),(.int 3 0),(.ref 346),(.bool true),(.int 181 0),(.ref 347),.none,(.ref 348),(.ref 349),(.ref 350),(.int 658 0),(.int 163 0),(.str "/claim/cut.py" 659)]),#[]⟩) ::
  (nat_lit 352, ⟨(.type "function"),none,(.func ⟨"may_go","may_go",p352,(.stmts b352),s352,3,[],.none,.none,.none,(.str "switchloom.queues" 585),none,(.ref 351),.none,0⟩),#[]⟩) ::
  (nat_lit 363, ⟨(.type "code"),none,(.fields #[(.str "__init__" 673),(.str "StrictQueues.__init__" 674),(.str "/claim/cut.py" 675),(.int 167 0),(.int 2 0),(.int 0 0),(.int 0 0),(.int 3 0),(.ref 360),(.bool true),(.int 181 0),(.ref 361),.none,.none,.none,(.ref 362),(.int 676 0),(.int 167 0),(.str "/claim/cut.py" 677)]),#[]⟩) ::
  (nat_lit 364, ⟨(.type "function"),none,(.func ⟨"__init__","StrictQueues.__init__",p364,(.stmts b364),s364,3,[],.none,.none,.none,(.str "switchloom.queues" 585),none,(.ref 363),.none,0⟩),#[]⟩) ::
  (nat_lit 370, ⟨(.type "code"),none,(.fields #[(.str "put" 679),(.str "StrictQueues.put" 680),(.str "/claim/cut.py" 681),(.int 170 0),(.int 4 0),(.int 0 0),(.int 0 0),(.int 3 0),(.ref 365),(.bool true),(.int 181 0),(.ref 366),.none,(.ref 367),(.ref 368),(.ref 369),(.int 686 0),(.int 170 0),(.str "/claim/cut.py" 687)]),#[]⟩) ::
  (nat_lit 371, ⟨(.type "function"),none,(.func ⟨"put","StrictQueues.put",p371,(.stmts b371),s371,3,[],.none,.none,.none,(.str "switchloom.queues" 585),none,(.ref 370),.none,0⟩),#[]⟩) ::
  (nat_lit 372, ⟨(.type "tuple"),none,(.seq #[.none] 0),#[]⟩) ::
  (nat_lit 378, ⟨(.type "code"),none,(.fields #[(.str "look" 689),(.str "StrictQueues.look" 690),(.str "/claim/cut.py" 691),(.int 173 0),(.int 2 0),(.int 0 0),(.int 0 0),(.int 3 0),(.ref 373),(.bool true),(.int 181 0),(.ref 374),.none,(.ref 375),(.ref 376),(.ref 377),(.int 695 0),(.int 173 0),(.str "/claim/cut.py" 696)]),#[]⟩) ::
  (nat_lit 379, ⟨(.type "function"),none,(.func ⟨"look","StrictQueues.look",p379,(.stmts b379),s379,3,[],(.ref 372),.none,.none,(.str "switchloom.queues" 585),none,(.ref 378),.none,0⟩),#[]⟩) ::
  (nat_lit 380, ⟨(.type "tuple"),none,(.seq #[.none] 0),#[]⟩) ::
  (nat_lit 386, ⟨(.type "code"),none,(.fields #[(.str "take" 698),(.str "StrictQueues.take" 699),(.str "/claim/cut.py" 700),(.int 179 0),(.int 2 0),(.int 0 0),(.int 0 0),(.int 3 0),(.ref 381),(.bool true),(.int 181 0),(.ref 382),.none,(.ref 383),(.ref 384),(.ref 385),(.int 704 0),(.int 179 0),(.str "/claim/cut.py" 705)]),#[]⟩) ::
  (nat_lit 387, ⟨(.type "function"),none,(.func ⟨"take","StrictQueues.take",p387,(.stmts b387),s387,3,[],(.ref 380),.none,.none,(.str "switchloom.queues" 585),none,(.ref 386),.none,0⟩),#[]⟩) ::
  (nat_lit 391, ⟨(.type "code"),none,(.fields #[(.str "waiting" 707),(.str "StrictQueues.waiting" 708),(.str "/claim/cut.py" 709),(.int 185 0),(.int 1 0),(.int 0 0),(.int 0 0),(.int 3 0),(.ref 388),(.bool true),(.int 181 0),(.ref 389),.none,.none,.none,(.ref 390),(.int 710 0),(.int 185 0),(.str "/claim/cut.py" 711)]),#[]⟩) ::
  (nat_lit 392, ⟨(.type "function"),none,(.func ⟨"waiting","StrictQueues.waiting",p392,(.stmts b392),s392,3,[],.none,.none,.none,(.str "switchloom.queues" 585),none,(.ref 391),.none,0⟩),#[]⟩) ::
  (nat_lit 394, ⟨(.type "dict"),none,(.dict #[⟨(PyData.keyHash P "__module__"),(.str "__module__" 668),(.str "switchloom.queues" 585)⟩,⟨(PyData.keyHash P "__firstlineno__"),(.str "__firstlineno__" 672),(.int 165 671)⟩,⟨(PyData.keyHash P "__init__"),(.str "__init__" 678),(.ref 364)⟩,⟨(PyData.keyHash P "put"),(.str "put" 688),(.ref 371)⟩,⟨(PyData.keyHash P "look"),(.str "look" 697),(.ref 379)⟩,⟨(PyData.keyHash P "take"),(.str "take" 706),(.ref 387)⟩,⟨(PyData.keyHash P "waiting"),(.str "waiting" 712),(.ref 392)⟩,⟨(PyData.keyHash P "__static_attributes__"),(.str "__static_attributes__" 714),(.ref 393)⟩,⟨(PyData.keyHash P "__dict__"),(.str "__dict__" 716),(.ref 396)⟩,⟨(PyData.keyHash P "__weakref__"),(.str "__weakref__" 718),(.ref 397)⟩,⟨(PyData.keyHash P "__doc__"),(.str "__doc__" 719),.none⟩] 4),#[]⟩) ::
  (nat_lit 395, ⟨(.type "type"),none,(.cls ⟨"StrictQueues",[(.type "object")],[(.ref 395),(.type "object")],394,"StrictQueues",true,[],[],false,none,false⟩),#[none,none,(some (.str "StrictQueues" 661)),(some (.str "StrictQueues" 669)),(some (.builtin "object.__new__")),(some (.bool true))]⟩) ::
  (nat_lit 405, ⟨(.type "code"),none,(.fields #[(.str "_law_source" 724),(.str "_law_source" 725),(.str "/claim/cut.py" 726),(.int 188 0),(.int 1 0),(.int 0 0),(.int 0 0),(.int 3 0),(.ref 400),(.bool true),(.int 181 0),(.ref 401),.none,(.ref 402),(.ref 403),(.ref 404),(.int 729 0),(.int 188 0),(.str "/claim/cut.py" 730)]),#[]⟩) ::
  (nat_lit 406, ⟨(.type "function"),none,(.func ⟨"_law_source","_law_source",p406,(.stmts b406),s406,3,[],.none,.none,.none,(.str "law_pc0376_01" 722),none,(.ref 405),.none,0⟩),#[]⟩) ::
  (nat_lit 412, ⟨(.type "code"),none,(.fields #[(.str "_law_next" 732),(.str "_law_next" 733),(.str "/claim/cut.py" 734),(.int 191 0),(.int 2 0),(.int 0 0),(.int 0 0),(.int 3 0),(.ref 407),(.bool true),(.int 181 0),(.ref 408),.none,(.ref 409),(.ref 410),(.ref 411),(.int 738 0),(.int 191 0),(.str "/claim/cut.py" 739)]),#[]⟩) ::
  (nat_lit 413, ⟨(.type "function"),none,(.func ⟨"_law_next","_law_next",p413,(.stmts b413),s413,3,[],.none,.none,.none,(.str "law_pc0376_01" 722),none,(.ref 412),.none,0⟩),#[]⟩) ::
  (nat_lit 419, ⟨(.type "code"),none,(.fields #[(.str "_law_pick" 741),(.str "_law_pick" 742),(.str "/claim/cut.py" 743),(.int 197 0),(.int 2 0),(.int 0 0),(.int 0 0),(.int 3 0),(.ref 414),(.bool true),(.int 181 0),(.ref 415),.none,(.ref 416),(.ref 417),(.ref 418),(.int 746 0),(.int 197 0),(.str "/claim/cut.py" 747)]),#[]⟩) ::
  (nat_lit 420, ⟨(.type "function"),none,(.func ⟨"_law_pick","_law_pick",p420,(.stmts b420),s420,3,[],.none,.none,.none,(.str "law_pc0376_01" 722),none,(.ref 419),.none,0⟩),#[]⟩) ::
  (nat_lit 424, ⟨(.type "code"),none,(.fields #[(.str "_law_pause" 749),(.str "_law_pause" 750),(.str "/claim/cut.py" 751),(.int 199 0),(.int 1 0),(.int 0 0),(.int 0 0),(.int 3 0),(.ref 421),(.bool true),(.int 181 0),(.ref 422),.none,.none,.none,(.ref 423),(.int 752 0),(.int 199 0),(.str "/claim/cut.py" 753)]),#[]⟩) ::
  (nat_lit 425, ⟨(.type "function"),none,(.func ⟨"_law_pause","_law_pause",p425,(.stmts b425),s425,3,[],.none,.none,.none,(.str "law_pc0376_01" 722),none,(.ref 424),.none,0⟩),#[]⟩) ::
  (nat_lit 429, ⟨(.type "code"),none,(.fields #[(.str "_law_head" 755),(.str "_law_head" 756),(.str "/claim/cut.py" 757),(.int 203 0),(.int 3 0),(.int 0 0),(.int 0 0),(.int 3 0),(.ref 426),(.bool true),(.int 181 0),(.ref 427),.none,.none,.none,(.ref 428),(.int 758 0),(.int 203 0),(.str "/claim/cut.py" 759)]),#[]⟩) ::
  (nat_lit 430, ⟨(.type "function"),none,(.func ⟨"_law_head","_law_head",p430,(.stmts b430),s430,3,[],.none,.none,.none,(.str "law_pc0376_01" 722),none,(.ref 429),.none,0⟩),#[]⟩) ::
  (nat_lit 436, ⟨(.type "code"),none,(.fields #[(.str "_law_filled" 761),(.str "_law_filled" 762),(.str "/claim/cut.py" 763),(.int 206 0),(.int 2 0),(.int 0 0),(.int 0 0),(.int 3 0),(.ref 431),(.bool true),(.int 181 0),(.ref 432),.none,(.ref 433),(.ref 434),(.ref 435),(.int 766 0),(.int 206 0),(.str "/claim/cut.py" 767)]),#[]⟩) ::
  (nat_lit 437, ⟨(.type "function"),none,(.func ⟨"_law_filled","_law_filled",p437,(.stmts b437),s437,3,[],.none,.none,.none,(.str "law_pc0376_01" 722),none,(.ref 436),.none,0⟩),#[]⟩) ::
  (nat_lit 443, ⟨(.type "code"),none,(.fields #[(.str "_law_asked" 769),(.str "_law_asked" 770),(.str "/claim/cut.py" 771),(.int 209 0),(.int 2 0),(.int 0 0),(.int 0 0),(.int 3 0),(.ref 438),(.bool true),(.int 181 0),(.ref 439),.none,(.ref 440),(.ref 441),(.ref 442),(.int 774 0),(.int 209 0),(.str "/claim/cut.py" 775)]),#[]⟩) ::
  (nat_lit 444, ⟨(.type "function"),none,(.func ⟨"_law_asked","_law_asked",p444,(.stmts b444),s444,3,[],.none,.none,.none,(.str "law_pc0376_01" 722),none,(.ref 443),.none,0⟩),#[]⟩) ::
  (nat_lit 450, ⟨(.type "code"),none,(.fields #[(.str "_law_due_time" 777),(.str "_law_due_time" 778),(.str "/claim/cut.py" 779),(.int 211 0),(.int 3 0),(.int 0 0),(.int 0 0),(.int 3 0),(.ref 445),(.bool true),(.int 181 0),(.ref 446),.none,(.ref 447),(.ref 448),(.ref 449),(.int 784 0),(.int 211 0),(.str "/claim/cut.py" 785)]),#[]⟩) ::
  (nat_lit 451, ⟨(.type "function"),none,(.func ⟨"_law_due_time","_law_due_time",p451,(.stmts b451),s451,3,[],.none,.none,.none,(.str "law_pc0376_01" 722),none,(.ref 450),.none,0⟩),#[]⟩) ::
  (nat_lit 457, ⟨(.type "code"),none,(.fields #[(.str "_law_gone" 787),(.str "_law_gone" 788),(.str "/claim/cut.py" 789),(.int 216 0),(.int 4 0),(.int 0 0),(.int 0 0),(.int 3 0),(.ref 452),(.bool true),(.int 181 0),(.ref 453),.none,(.ref 454),(.ref 455),(.ref 456),(.int 797 0),(.int 216 0),(.str "/claim/cut.py" 798)]),#[]⟩) ::
  (nat_lit 458, ⟨(.type "function"),none,(.func ⟨"_law_gone","_law_gone",p458,(.stmts b458),s458,3,[],.none,.none,.none,(.str "law_pc0376_01" 722),none,(.ref 457),.none,0⟩),#[]⟩) ::
  (nat_lit 462, ⟨(.type "code"),none,(.fields #[(.str "_law_bounded" 800),(.str "_law_bounded" 801),(.str "/claim/cut.py" 802),(.int 224 0),(.int 3 0),(.int 0 0),(.int 0 0),(.int 3 0),(.ref 459),(.bool true),(.int 181 0),(.ref 460),.none,.none,.none,(.ref 461),(.int 803 0),(.int 224 0),(.str "/claim/cut.py" 804)]),#[]⟩) ::
  (nat_lit 463, ⟨(.type "function"),none,(.func ⟨"_law_bounded","_law_bounded",p463,(.stmts b463),s463,3,[],.none,.none,.none,(.str "law_pc0376_01" 722),none,(.ref 462),.none,0⟩),#[]⟩) ::
  (nat_lit 469, ⟨(.type "code"),none,(.fields #[(.str "_law_fixed_right" 806),(.str "_law_fixed_right" 807),(.str "/claim/cut.py" 808),(.int 233 0),(.int 0 0),(.int 0 0),(.int 0 0),(.int 3 0),(.ref 464),(.bool true),(.int 181 0),(.ref 465),.none,(.ref 466),(.ref 467),(.ref 468),(.int 810 0),(.int 233 0),(.str "/claim/cut.py" 811)]),#[]⟩) ::
  (nat_lit 470, ⟨(.type "function"),none,(.func ⟨"_law_fixed_right","_law_fixed_right",p470,(.stmts b470),s470,3,[],.none,.none,.none,(.str "law_pc0376_01" 722),none,(.ref 469),.none,0⟩),#[]⟩) :: [] : List (Addr × Obj))) _ _ _ rfl _ _ _ rfl _ _ _ rfl _ _ _ rfl _ _ _ rfl _ _ _ rfl _ _ _ rfl _ _ _ rfl _ _ _ rfl _ _ _ rfl _ _ _ rfl _ _ _ rfl _ _ _ rfl _ _ _ rfl _ _ _ rfl _ _ _ rfl _ _ _ rfl _ _ _ rfl _ _ _ rfl _ _ _ rfl _ _ _ rfl _ _ _ rfl _ _ _ rfl _ _ _ rfl _ _ _ rfl _ _ _ rfl _ _ _ rfl _ _ _ rfl _ _ _ rfl _ _ _ rfl _ _ _ rfl _ _ _ rfl _ _ _ rfl _ _ _ rfl _ _ _ rfl _ _ _ rfl _ _ _ rfl _ _ _ rfl _ _ _ rfl _ _ _ rfl
noncomputable abbrev prg : Program := PySem.Challenge.pw_pc0376_01
noncomputable def hd.view_39 : Program := PySem.W.view prg [0, 2, 3, 4, 6, 7, 9, 10, 12, 13, 14, 15, 17, 18, 19, 21, 22, 23, 24, 25, 26, 27, 28, 29, 30, 31, 32]
noncomputable abbrev q0 : Pos := ⟨0, 0, 0, 0⟩
noncomputable abbrev ann0 : Option Value := some (.ref 6)
noncomputable def env0 : Env := { scope := prg.main.scope, locals := mainNs, globals := mainNs, cells := [], code := .ref 13, frame := some 14 }
noncomputable abbrev cE : Code := .body (behindTheImports prg) env0
noncomputable def o43 : Obj := { cls := .type "tuple", data := .seq #[] }
noncomputable def o44 : Obj := { cls := .none, data := .fields #[] }
noncomputable def o45 : Obj := { cls := .type "code", data := .fields #[.str "<module>" 182, .str "<module>" 183, .str "/claim/cut.py" 184, .int 1 0, .int 0 0, .int 0 0, .int 0 0, .int 0 0, .ref 11, .bool false, .int 181 0, .ref 12, .none, .none, .none, .none, .int 185 0, .int 1 0, .str "/claim/cut.py" 186] }
noncomputable def o46 : Obj := { cls := .type "frame", slots := #[some (.ref 13), some (.ref 3), some (.ref 3), none, some (.str "__main__" 164), none, some (.ref 0)] }
noncomputable def heap0 (P : Params) : Heap := ⟨⟨[boot_o_0 P, boot_o_1 P, boot_o_2 P, boot_o_3 P, boot_o_4 P, boot_o_5 P, boot_o_6 P, boot_o_7 P, boot_o_8 P, boot_o_9 P, boot_o_10 P, o43, o44, o45, o46]⟩, {}⟩
noncomputable def tree0 (P : Params) : BT :=
  .node (boot_o_0 P) (.node (boot_o_1 P) (.node (boot_o_3 P) (.node (boot_o_7 P) .nil .nil) (.node o43 .nil .nil)) (.node (boot_o_5 P) (.node (boot_o_9 P) .nil .nil) (.node o45 .nil .nil)))
    (.node (boot_o_2 P) (.node (boot_o_4 P) (.node (boot_o_8 P) .nil .nil) (.node o44 .nil .nil)) (.node (boot_o_6 P) (.node (boot_o_10 P) .nil .nil) (.node o46 .nil .nil)))
noncomputable def sT (w : World) (os : OsState) : SharedT := { tree := tree0 w.params, n := 15, life := {}, gens := ⟨[]⟩, drawn := {}, toks := 187, os := os }
/-- a head by one run: what LeftO asks, from a state that need not be written out -/
theorem left_of_run {p q : Program} {loose : List Str} {Xt : Shared → Bool} {α : Type} {Yf : Shared → α} {Ya : World → α} {N : Nat} {g0 : Bool} {H₀ : Params → Heap} {gs₀ : Array GenState} {d₀ : Drawn} {k₀ m₀ : Nat} {ann : Option Value} {M : Nat}
    (open_ : ∀ w : World, (fencedOpening treeTable p w N).map (fun s => (s.heap, s.gens, s.drawn, s.toks)) = some (H₀ w.params, gs₀, d₀, k₀))
    (size : ∀ w : World, ((H₀ w.params).isNs mainGlobals && gs₀.size == 0, (H₀ w.params).objs.size, (H₀ w.params).nsMap mainGlobals "__annotations__") = (true, m₀, ann))
    (le : Nat.ble M N = true)
    (run : ∀ (w : World) (os : OsState), ∃ s₁, topRun treeTable p w m₀ ann M ⟨H₀ w.params, gs₀, d₀, k₀, os⟩ (topStub p) = some s₁ ∧
      ((staticsOk (importedModules p.main.body) (H₀ w.params) s₁.heap && namesBound p s₁.heap && gensDone s₁ && laidKept (H₀ w.params) s₁.heap), openSeen q loose (importedModules p.main.body) Xt g0 s₁, Yf s₁) = (true, openGood q loose, Ya w)) :
    LeftO p q loose Xt Yf Ya N g0 := fun w => by
  obtain ⟨⟨h, gs, d, k, os⟩, e, e'⟩ := Option.map_eq_some_iff.mp (open_ w)
  obtain ⟨rfl, rfl, rfl, rfl⟩ : h = H₀ w.params ∧ gs = gs₀ ∧ d = d₀ ∧ k = k₀ := by simpa using e'
  obtain ⟨z1, z2, z3⟩ : _ ∧ _ ∧ _ := by simpa only [Prod.mk.injEq] using size w
  obtain ⟨s₁, r, l⟩ := run w os
  obtain ⟨l1, l2, l3⟩ : _ ∧ _ ∧ _ := by simpa only [Prod.mk.injEq] using l
  have r := topRun_mono (N - M) _ _ _ _ r
  rw [show M + (N - M) = N by have := Nat.le_of_ble_eq_true le; omega] at r
  have t : topFrom treeTable p w N ⟨H₀ w.params, gs, d, k, os⟩ = some s₁ := by
    unfold topFrom
    dsimp only
    rw [z1, z2, z3, r]
    show (match staticsOk (importedModules p.main.body) (H₀ w.params) s₁.heap && namesBound p s₁.heap && gensDone s₁ && laidKept (H₀ w.params) s₁.heap with | true => _ | false => _) = _
    rw [l1]
  unfold openEnds
  rw [e]
  show (topFrom treeTable p w N _).map _ = _
  rw [t]
  exact congrArg some (Prod.ext l2 l3)
theorem pre0 (w : World) (os : OsState) : topGo treeTable prg w 11 ann0 12 ⟨boot_heap w.params, ⟨[]⟩, boot_drawn, boot_toks, os⟩ (topStub prg) =
    some (⟨heap0 w.params, ⟨[]⟩, {}, 187, os⟩, ⟨denote treeTable cE, cE, q0, [topFrame q0]⟩) := by
  rw [Fast.te15667345088766844465, Fast.te14364793385576792824, Fast.te11892475500146522536]
  kernel_rfl
theorem block0 (w : World) (os : OsState) : segRun treeTable prg w 11 ann0 1 1 ⟨heap0 w.params, ⟨[]⟩, {}, 187, os⟩ (blockOf (behindTheImports prg) env0 cE q0 [topFrame q0]) = some (.next, (sT w os).abs, cE, q0) := by
  rw [Fast.te14374325043358763698, Fast.te14364793385576792824]
  kernel_rfl
noncomputable def asK : List Addr := [2, 3, 86, 87, 93, 94, 107, 108, 114, 115, 135, 136, 138, 139, 156, 157, 163, 164, 170, 171, 177, 178, 180, 181, 193, 199, 200, 204, 205, 211, 212, 218, 219, 225, 226, 228, 229, 246, 247, 249, 250, 260, 261, 274, 275, 281, 282, 288, 289, 291, 292, 309, 310, 316, 317, 323, 324, 337, 338, 340, 341, 351, 352, 363, 364, 370, 371, 372, 378, 379, 380, 386, 387, 391, 392, 394, 395, 405, 406, 412, 413, 419, 420, 424, 425, 429, 430, 436, 437, 443, 444, 450, 451, 457, 458, 462, 463, 469, 470]
theorem asK_eq (P : Params) : asK = (hd.heap_39 P).map (·.1) := by kernel_rfl
noncomputable abbrev hk : Hook := kHook hd.heap_39 asK asK_eq
noncomputable abbrev lo1 : List Str := [Str.ofString "SettingError"]
noncomputable abbrev rw0 : OpenRow := PySem.Challenge.rw_pc0376_01.row
noncomputable abbrev xt (s : Shared) : Bool := xlAt hd.view_39 [] s && recOk (RowW.records rw0.toRowW) s
noncomputable def looks0 (w : World) (s : Shared) := ((staticsOk (importedModules prg.main.body) (boot_heap w.params) s.heap && namesBound prg s.heap && gensDone s && laidKept (boot_heap w.params) s.heap),
  openSeen hd.view_39 lo1 (importedModules prg.main.body) xt true s, hk.obs s)
noncomputable def good0 (w : World) := (true, openGood hd.view_39 lo1, hk.val w)
noncomputable def qE : Pos := ⟨238, 0, 271, 90⟩

noncomputable def fo127_treeM (P : Params) : Obj := (fun (p : Arguments) (b : List Stmt) (s : Scope) (_ : meAt 7 6 = (p, b, s)) => (⟨.none,none,(.func ⟨"add","Bucket.add",p,(.stmts b),s,0,[],.none,.none,.none,.none,none,.none,.none,0⟩),#[]⟩ : Obj)) _ _ _ rfl
noncomputable def fo87_treeM (P : Params) : Obj := (fun (p : Arguments) (b : List Stmt) (s : Scope) (_ : meAt 7 0 = (p, b, s)) => (⟨(.type "function"),none,(.func ⟨"__init__","Bucket.__init__",p,(.stmts b),s,3,[],.none,.none,.none,(.str "switchloom.buckets" 268),none,(.ref 86),.none,0⟩),#[]⟩ : Obj)) _ _ _ rfl
noncomputable def fo19_treeM (P : Params) : Obj := (fun (p : Arguments) (b : List Stmt) (s : Scope) (_ : fnAt 0 = (p, b, s)) => (⟨.none,none,(.func ⟨"_wall","_wall",p,(.stmts b),s,0,[],.none,.none,.none,.none,none,.none,.none,0⟩),#[]⟩ : Obj)) _ _ _ rfl
noncomputable def fo35_treeM (P : Params) : Obj := (fun (p : Arguments) (b : List Stmt) (s : Scope) (_ : meAt 2 0 = (p, b, s)) => (⟨(.type "function"),none,(.func ⟨"__init__","SwitchError.__init__",p,(.stmts b),s,3,[],.none,.none,.none,(.str "switchloom.errors" 194),none,(.ref 34),.none,0⟩),#[]⟩ : Obj)) _ _ _ rfl
noncomputable def fo99_treeM (P : Params) : Obj := (fun (p : Arguments) (b : List Stmt) (s : Scope) (_ : meAt 7 2 = (p, b, s)) => (⟨.none,none,(.func ⟨"level","Bucket.level",p,(.stmts b),s,0,[],.none,.none,.none,.none,none,.none,.none,0⟩),#[]⟩ : Obj)) _ _ _ rfl
noncomputable def fo115_treeM (P : Params) : Obj := (fun (p : Arguments) (b : List Stmt) (s : Scope) (_ : meAt 7 4 = (p, b, s)) => (⟨(.type "function"),none,(.func ⟨"spend","Bucket.spend",p,(.stmts b),s,3,[],.none,.none,.none,(.str "switchloom.buckets" 268),none,(.ref 114),.none,0⟩),#[]⟩ : Obj)) _ _ _ rfl
noncomputable def fo203_treeM (P : Params) : Obj := (fun (p : Arguments) (b : List Stmt) (s : Scope) (_ : meAt 10 1 = (p, b, s)) => (⟨.none,none,(.func ⟨"allowed","PortOut.allowed",p,(.stmts b),s,0,[],.none,.none,.none,.none,none,.none,.none,0⟩),#[]⟩ : Obj)) _ _ _ rfl
noncomputable def fo171_treeM (P : Params) : Obj := (fun (p : Arguments) (b : List Stmt) (s : Scope) (_ : meAt 9 2 = (p, b, s)) => (⟨(.type "function"),none,(.func ⟨"when","Shaper.when",p,(.stmts b),s,3,[],.none,.none,.none,(.str "switchloom.shapers" 366),none,(.ref 170),.none,0⟩),#[]⟩ : Obj)) _ _ _ rfl
noncomputable def fo155_treeM (P : Params) : Obj := (fun (p : Arguments) (b : List Stmt) (s : Scope) (_ : meAt 9 0 = (p, b, s)) => (⟨.none,none,(.func ⟨"__init__","Shaper.__init__",p,(.stmts b),s,0,[],.none,.none,.none,.none,none,.none,.none,0⟩),#[]⟩ : Obj)) _ _ _ rfl
noncomputable def fo219_treeM (P : Params) : Obj := (fun (p : Arguments) (b : List Stmt) (s : Scope) (_ : meAt 10 3 = (p, b, s)) => (⟨(.type "function"),none,(.func ⟨"next","PortOut.next",p,(.stmts b),s,3,[],.none,.none,.none,(.str "switchloom.shapers" 366),none,(.ref 218),.none,0⟩),#[]⟩ : Obj)) _ _ _ rfl
noncomputable def fo33_treeM (P : Params) : Obj := (fun (p : Arguments) (b : List Stmt) (s : Scope) (_ : meAt 2 0 = (p, b, s)) => (⟨.none,none,(.func ⟨"__init__","SwitchError.__init__",p,(.stmts b),s,0,[],.none,.none,.none,.none,none,.none,.none,0⟩),#[]⟩ : Obj)) _ _ _ rfl
noncomputable def fo129_treeM (P : Params) : Obj := (fun (p : Arguments) (b : List Stmt) (s : Scope) (_ : meAt 7 6 = (p, b, s)) => (⟨(.type "function"),none,(.func ⟨"add","Bucket.add",p,(.stmts b),s,3,[],.none,.none,.none,(.str "switchloom.buckets" 268),none,(.ref 128),.none,0⟩),#[]⟩ : Obj)) _ _ _ rfl
noncomputable def fo113_treeM (P : Params) : Obj := (fun (p : Arguments) (b : List Stmt) (s : Scope) (_ : meAt 7 4 = (p, b, s)) => (⟨.none,none,(.func ⟨"spend","Bucket.spend",p,(.stmts b),s,0,[],.none,.none,.none,.none,none,.none,.none,0⟩),#[]⟩ : Obj)) _ _ _ rfl
noncomputable def fo169_treeM (P : Params) : Obj := (fun (p : Arguments) (b : List Stmt) (s : Scope) (_ : meAt 9 2 = (p, b, s)) => (⟨.none,none,(.func ⟨"when","Shaper.when",p,(.stmts b),s,0,[],.none,.none,.none,.none,none,.none,.none,0⟩),#[]⟩ : Obj)) _ _ _ rfl
noncomputable def fo217_treeM (P : Params) : Obj := (fun (p : Arguments) (b : List Stmt) (s : Scope) (_ : meAt 10 3 = (p, b, s)) => (⟨.none,none,(.func ⟨"next","PortOut.next",p,(.stmts b),s,0,[],.none,.none,.none,.none,none,.none,.none,0⟩),#[]⟩ : Obj)) _ _ _ rfl
noncomputable def fo21_treeM (P : Params) : Obj := (fun (p : Arguments) (b : List Stmt) (s : Scope) (_ : fnAt 0 = (p, b, s)) => (⟨(.type "function"),none,(.func ⟨"_wall","_wall",p,(.stmts b),s,3,[],.none,.none,.none,(.str "__main__" 164),none,(.ref 20),.none,0⟩),#[]⟩ : Obj)) _ _ _ rfl
noncomputable def fo101_treeM (P : Params) : Obj := (fun (p : Arguments) (b : List Stmt) (s : Scope) (_ : meAt 7 2 = (p, b, s)) => (⟨(.type "function"),none,(.func ⟨"level","Bucket.level",p,(.stmts b),s,3,[],.none,.none,.none,(.str "switchloom.buckets" 268),none,(.ref 100),.none,0⟩),#[]⟩ : Obj)) _ _ _ rfl
noncomputable def fo85_treeM (P : Params) : Obj := (fun (p : Arguments) (b : List Stmt) (s : Scope) (_ : meAt 7 0 = (p, b, s)) => (⟨.none,none,(.func ⟨"__init__","Bucket.__init__",p,(.stmts b),s,0,[],.none,.none,.none,.none,none,.none,.none,0⟩),#[]⟩ : Obj)) _ _ _ rfl
noncomputable def fo205_treeM (P : Params) : Obj := (fun (p : Arguments) (b : List Stmt) (s : Scope) (_ : meAt 10 1 = (p, b, s)) => (⟨(.type "function"),none,(.func ⟨"allowed","PortOut.allowed",p,(.stmts b),s,3,[],.none,.none,.none,(.str "switchloom.shapers" 366),none,(.ref 204),.none,0⟩),#[]⟩ : Obj)) _ _ _ rfl
noncomputable def fo157_treeM (P : Params) : Obj := (fun (p : Arguments) (b : List Stmt) (s : Scope) (_ : meAt 9 0 = (p, b, s)) => (⟨(.type "function"),none,(.func ⟨"__init__","Shaper.__init__",p,(.stmts b),s,3,[],.none,.none,.none,(.str "switchloom.shapers" 366),none,(.ref 156),.none,0⟩),#[]⟩ : Obj)) _ _ _ rfl
noncomputable def fo224_treeM (P : Params) : Obj := (fun (p : Arguments) (b : List Stmt) (s : Scope) (_ : meAt 10 4 = (p, b, s)) => (⟨.none,none,(.func ⟨"when","PortOut.when",p,(.stmts b),s,0,[],.none,.none,.none,.none,none,.none,.none,0⟩),#[]⟩ : Obj)) _ _ _ rfl
noncomputable def fo176_treeM (P : Params) : Obj := (fun (p : Arguments) (b : List Stmt) (s : Scope) (_ : meAt 9 3 = (p, b, s)) => (⟨.none,none,(.func ⟨"sent","Shaper.sent",p,(.stmts b),s,0,[],.none,.none,.none,.none,none,.none,.none,0⟩),#[]⟩ : Obj)) _ _ _ rfl
noncomputable def fo136_treeM (P : Params) : Obj := (fun (p : Arguments) (b : List Stmt) (s : Scope) (_ : meAt 7 7 = (p, b, s)) => (⟨(.type "function"),none,(.func ⟨"wait","Bucket.wait",p,(.stmts b),s,3,[],.none,.none,.none,(.str "switchloom.buckets" 268),none,(.ref 135),.none,0⟩),#[]⟩ : Obj)) _ _ _ rfl
noncomputable def fo200_treeM (P : Params) : Obj := (fun (p : Arguments) (b : List Stmt) (s : Scope) (_ : meAt 10 0 = (p, b, s)) => (⟨(.type "function"),none,(.func ⟨"__init__","PortOut.__init__",p,(.stmts b),s,3,[],(.ref 193),.none,.none,(.str "switchloom.shapers" 366),none,(.ref 199),.none,0⟩),#[]⟩ : Obj)) _ _ _ rfl
noncomputable def fo120_treeM (P : Params) : Obj := (fun (p : Arguments) (b : List Stmt) (s : Scope) (_ : meAt 7 5 = (p, b, s)) => (⟨.none,none,(.func ⟨"take","Bucket.take",p,(.stmts b),s,0,[],.none,.none,.none,.none,none,.none,.none,0⟩),#[]⟩ : Obj)) _ _ _ rfl
noncomputable def fo68_treeM (P : Params) : Obj := (fun (p : Arguments) (b : List Stmt) (s : Scope) (_ : meAt 4 0 = (p, b, s)) => (⟨(.type "function"),none,(.func ⟨"__init__","SettingError.__init__",p,(.stmts b),s,3,[],(.ref 61),.none,.none,(.str "switchloom.errors" 194),none,(.ref 67),.none,0⟩),#[]⟩ : Obj)) _ _ _ rfl
noncomputable def fo164_treeM (P : Params) : Obj := (fun (p : Arguments) (b : List Stmt) (s : Scope) (_ : meAt 9 1 = (p, b, s)) => (⟨(.type "function"),none,(.func ⟨"asked_size","Shaper.asked_size",p,(.stmts b),s,3,[],.none,.none,.none,(.str "switchloom.shapers" 366),none,(.ref 163),.none,0⟩),#[]⟩ : Obj)) _ _ _ rfl
noncomputable def fo212_treeM (P : Params) : Obj := (fun (p : Arguments) (b : List Stmt) (s : Scope) (_ : meAt 10 2 = (p, b, s)) => (⟨(.type "function"),none,(.func ⟨"put","PortOut.put",p,(.stmts b),s,3,[],.none,.none,.none,(.str "switchloom.shapers" 366),none,(.ref 211),.none,0⟩),#[]⟩ : Obj)) _ _ _ rfl
noncomputable def fo108_treeM (P : Params) : Obj := (fun (p : Arguments) (b : List Stmt) (s : Scope) (_ : meAt 7 3 = (p, b, s)) => (⟨(.type "function"),none,(.func ⟨"has","Bucket.has",p,(.stmts b),s,3,[],.none,.none,.none,(.str "switchloom.buckets" 268),none,(.ref 107),.none,0⟩),#[]⟩ : Obj)) _ _ _ rfl
noncomputable def fo92_treeM (P : Params) : Obj := (fun (p : Arguments) (b : List Stmt) (s : Scope) (_ : meAt 7 1 = (p, b, s)) => (⟨.none,none,(.func ⟨"fill","Bucket.fill",p,(.stmts b),s,0,[],.none,.none,.none,.none,none,.none,.none,0⟩),#[]⟩ : Obj)) _ _ _ rfl
noncomputable def fo66_treeM (P : Params) : Obj := (fun (p : Arguments) (b : List Stmt) (s : Scope) (_ : meAt 4 0 = (p, b, s)) => (⟨.none,none,(.func ⟨"__init__","SettingError.__init__",p,(.stmts b),s,0,[],.none,.none,.none,.none,none,.none,.none,0⟩),#[]⟩ : Obj)) _ _ _ rfl
noncomputable def fo162_treeM (P : Params) : Obj := (fun (p : Arguments) (b : List Stmt) (s : Scope) (_ : meAt 9 1 = (p, b, s)) => (⟨.none,none,(.func ⟨"asked_size","Shaper.asked_size",p,(.stmts b),s,0,[],.none,.none,.none,.none,none,.none,.none,0⟩),#[]⟩ : Obj)) _ _ _ rfl
noncomputable def fo226_treeM (P : Params) : Obj := (fun (p : Arguments) (b : List Stmt) (s : Scope) (_ : meAt 10 4 = (p, b, s)) => (⟨(.type "function"),none,(.func ⟨"when","PortOut.when",p,(.stmts b),s,3,[],.none,.none,.none,(.str "switchloom.shapers" 366),none,(.ref 225),.none,0⟩),#[]⟩ : Obj)) _ _ _ rfl
noncomputable def fo210_treeM (P : Params) : Obj := (fun (p : Arguments) (b : List Stmt) (s : Scope) (_ : meAt 10 2 = (p, b, s)) => (⟨.none,none,(.func ⟨"put","PortOut.put",p,(.stmts b),s,0,[],.none,.none,.none,.none,none,.none,.none,0⟩),#[]⟩ : Obj)) _ _ _ rfl
noncomputable def fo178_treeM (P : Params) : Obj := (fun (p : Arguments) (b : List Stmt) (s : Scope) (_ : meAt 9 3 = (p, b, s)) => (⟨(.type "function"),none,(.func ⟨"sent","Shaper.sent",p,(.stmts b),s,3,[],.none,.none,.none,(.str "switchloom.shapers" 366),none,(.ref 177),.none,0⟩),#[]⟩ : Obj)) _ _ _ rfl
noncomputable def fo106_treeM (P : Params) : Obj := (fun (p : Arguments) (b : List Stmt) (s : Scope) (_ : meAt 7 3 = (p, b, s)) => (⟨.none,none,(.func ⟨"has","Bucket.has",p,(.stmts b),s,0,[],.none,.none,.none,.none,none,.none,.none,0⟩),#[]⟩ : Obj)) _ _ _ rfl
noncomputable def fo122_treeM (P : Params) : Obj := (fun (p : Arguments) (b : List Stmt) (s : Scope) (_ : meAt 7 5 = (p, b, s)) => (⟨(.type "function"),none,(.func ⟨"take","Bucket.take",p,(.stmts b),s,3,[],.none,.none,.none,(.str "switchloom.buckets" 268),none,(.ref 121),.none,0⟩),#[]⟩ : Obj)) _ _ _ rfl
noncomputable def fo134_treeM (P : Params) : Obj := (fun (p : Arguments) (b : List Stmt) (s : Scope) (_ : meAt 7 7 = (p, b, s)) => (⟨.none,none,(.func ⟨"wait","Bucket.wait",p,(.stmts b),s,0,[],.none,.none,.none,.none,none,.none,.none,0⟩),#[]⟩ : Obj)) _ _ _ rfl
noncomputable def fo198_treeM (P : Params) : Obj := (fun (p : Arguments) (b : List Stmt) (s : Scope) (_ : meAt 10 0 = (p, b, s)) => (⟨.none,none,(.func ⟨"__init__","PortOut.__init__",p,(.stmts b),s,0,[],.none,.none,.none,.none,none,.none,.none,0⟩),#[]⟩ : Obj)) _ _ _ rfl
noncomputable def fo94_treeM (P : Params) : Obj := (fun (p : Arguments) (b : List Stmt) (s : Scope) (_ : meAt 7 1 = (p, b, s)) => (⟨(.type "function"),none,(.func ⟨"fill","Bucket.fill",p,(.stmts b),s,3,[],.none,.none,.none,(.str "switchloom.buckets" 268),none,(.ref 93),.none,0⟩),#[]⟩ : Obj)) _ _ _ rfl
/-- the objects at a cut of the run -/
noncomputable def treeM (P : Params) : BT :=
  (.node (boot_o_0 P) (.node (boot_o_1 P) (.node ⟨(.type "dict"),none,(.dict #[⟨(PyData.keyHash P "__name__"),(.str "__name__" 165),(.str "switchloom.pause" 493)⟩,⟨(PyData.keyHash P "__doc__"),(.str "__doc__" 166),.none⟩,⟨(PyData.keyHash P "__package__"),(.str "__package__" 167),.none⟩,⟨(PyData.keyHash P "__loader__"),(.str "__loader__" 168),(.builtin "__main__.__loader__#opaque")⟩,⟨(PyData.keyHash P "__spec__"),(.str "__spec__" 169),.none⟩,⟨(PyData.keyHash P "__annotations__"),(.str "__annotations__" 170),(.ref 6)⟩,⟨(PyData.keyHash P "__builtins__"),(.str "__builtins__" 171),(.ref 4)⟩,⟨(PyData.keyHash P "__file__"),(.str "__file__" 173),(.str "/claim/cut.py" 172)⟩,⟨(PyData.keyHash P "__cached__"),(.str "__cached__" 174),.none⟩,⟨(PyData.keyHash P "_wall"),(.str "_wall" 193),(.ref 21)⟩,⟨(PyData.keyHash P "SwitchError"),(.str "SwitchError" 224),(.ref 38)⟩,⟨(PyData.keyHash P "SizeError"),(.str "SizeError" 240),(.ref 51)⟩,⟨(PyData.keyHash P "SettingError"),(.str "SettingError" 267),(.ref 71)⟩,⟨(PyData.keyHash P "GRAINS"),(.str "GRAINS" 271),(.int 100 270)⟩,⟨(PyData.keyHash P "Bucket"),(.str "Bucket" 365),(.ref 139)⟩,⟨(PyData.keyHash P "Shaper"),(.str "Shaper" 424),(.ref 181)⟩,⟨(PyData.keyHash P "PortOut"),(.str "PortOut" 492),(.ref 229)⟩,⟨(PyData.keyHash P "PRIORITIES"),(.str "PRIORITIES" 496),(.int 8 495)⟩] 18),#[]⟩ (.node (boot_o_7 P) (.node ⟨(.type "tuple"),none,(.seq #[] 0),#[]⟩ (.node ⟨(.type "tuple"),none,(.seq #[(.str "self" 211),(.str "message" 212)] 0),#[]⟩ (.node ⟨.none,none,(.fields #[]),#[]⟩ (.node (fo127_treeM P) .nil .nil) (.node ⟨(.type "code"),none,(.fields #[(.str "PortOut" 427),(.str "PortOut" 428),(.str "/claim/cut.py" 429),(.int 82 0),(.int 0 0),(.int 0 0),(.int 0 0),(.int 0 0),(.ref 189),(.bool false),(.int 181 0),(.ref 190),.none,.none,.none,.none,(.int 430 0),(.int 82 0),(.str "/claim/cut.py" 431)]),#[]⟩ .nil .nil)) (.node ⟨(.type "tuple"),none,(.seq #[] 0),#[]⟩ (.node ⟨.none,none,(.fields #[]),#[]⟩ .nil .nil) (.node ⟨(.type "tuple"),none,(.seq #[] 0),#[]⟩ .nil .nil))) (.node ⟨(.type "code"),none,(.fields #[(.str "SizeError" 227),(.str "SizeError" 228),(.str "/claim/cut.py" 229),(.int 10 0),(.int 0 0),(.int 0 0),(.int 0 0),(.int 0 0),(.ref 45),(.bool false),(.int 181 0),(.ref 46),.none,.none,.none,.none,(.int 230 0),(.int 10 0),(.str "/claim/cut.py" 231)]),#[]⟩ (.node ⟨(.type "code"),none,(.fields #[(.str "Bucket" 274),(.str "Bucket" 275),(.str "/claim/cut.py" 276),(.int 19 0),(.int 0 0),(.int 0 0),(.int 0 0),(.int 0 0),(.ref 77),(.bool false),(.int 181 0),(.ref 78),.none,.none,.none,.none,(.int 277 0),(.int 19 0),(.str "/claim/cut.py" 278)]),#[]⟩ (.node ⟨(.type "builtin_function_or_method"),none,(.fields #[(.builtin "object.__init_subclass__"),(.ref 139)]),#[]⟩ .nil .nil) (.node ⟨.none,none,(.fields #[]),#[]⟩ .nil .nil)) (.node ⟨(.type "tuple"),none,(.seq #[(.str "self" 322),(.str "size" 323)] 0),#[]⟩ (.node ⟨(.type "tuple"),none,(.seq #[] 0),#[]⟩ .nil .nil) .nil))) (.node ⟨(.type "builtin_function_or_method"),none,(.fields #[(.builtin "type.__prepare__"),(.type "type")]),#[]⟩ (.node ⟨(.type "getset_descriptor"),none,(.fields #[(.str "__weakref__" 218),(.ref 38),(.builtin "ExceptionGroup.__weakref__"),.none]),#[]⟩ (.node ⟨(.type "type"),none,(.cls ⟨"SettingError",[(.ref 38)],[(.ref 71),(.ref 38),(.type "Exception"),(.type "BaseException"),(.type "object")],70,"SettingError",true,[],[],false,none,false⟩),#[(some (.ref 54)),none,(some (.str "SettingError" 241)),(some (.str "SettingError" 249)),(some (.builtin "Exception.__new__")),(some (.bool true))]⟩ (.node ⟨(.type "code"),none,(.fields #[(.str "wait" 344),(.str "Bucket.wait" 345),(.str "/claim/cut.py" 346),(.int 56 0),(.int 3 0),(.int 0 0),(.int 0 0),(.int 3 0),(.ref 130),(.bool true),(.int 181 0),(.ref 131),.none,(.ref 132),(.ref 133),(.ref 134),(.int 351 0),(.int 56 0),(.str "/claim/cut.py" 352)]),#[]⟩ .nil .nil) (.node ⟨(.type "code"),none,(.fields #[(.str "__init__" 437),(.str "PortOut.__init__" 438),(.str "/claim/cut.py" 439),(.int 84 0),(.int 4 0),(.int 0 0),(.int 0 0),(.int 3 0),(.ref 194),(.bool true),(.int 181 0),(.ref 195),.none,(.ref 196),(.ref 197),(.ref 198),(.int 444 0),(.int 84 0),(.str "/claim/cut.py" 445)]),#[]⟩ .nil .nil)) (.node ⟨.none,none,(.fields #[]),#[]⟩ (.node ⟨(.type "tuple"),none,(.seq #[(.str "self" 400),(.str "size" 401),(.str "now" 402),(.str "found" 403)] 0),#[]⟩ .nil .nil) (.node ⟨(.type "getset_descriptor"),none,(.fields #[(.str "__weakref__" 488),(.ref 229),(.builtin "ExceptionGroup.__weakref__"),.none]),#[]⟩ .nil .nil))) (.node ⟨(.type "builtin_function_or_method"),none,(.fields #[(.builtin "type.__prepare__"),(.type "type")]),#[]⟩ (.node (fo87_treeM P) (.node ⟨(.type "tuple"),none,(.seq #[] 0),#[]⟩ .nil .nil) (.node ⟨(.type "tuple"),none,(.seq #[(.str "self" 466),(.str "now" 467),(.str "allowed" 468),(.str "found" 469)] 0),#[]⟩ .nil .nil)) (.node ⟨(.type "tuple"),none,(.seq #[] 0),#[]⟩ (.node ⟨(.type "getset_descriptor"),none,(.fields #[(.str "__weakref__" 420),(.ref 181),(.builtin "ExceptionGroup.__weakref__"),.none]),#[]⟩ .nil .nil) .nil)))) (.node ⟨(.type "tuple"),none,(.seq #[] 0),#[]⟩ (.node (fo19_treeM P) (.node (fo35_treeM P) (.node ⟨(.type "code"),none,(.fields #[(.str "__init__" 254),(.str "SettingError.__init__" 255),(.str "/claim/cut.py" 256),(.int 14 0),(.int 3 0),(.int 0 0),(.int 0 0),(.int 3 0),(.ref 62),(.bool true),(.int 181 0),(.ref 63),.none,(.ref 64),(.ref 65),(.ref 66),(.int 260 0),(.int 14 0),(.str "/claim/cut.py" 261)]),#[]⟩ (.node ⟨.none,none,(.fields #[]),#[]⟩ .nil .nil) (.node ⟨.none,none,(.fields #[]),#[]⟩ .nil .nil)) (.node (fo99_treeM P) (.node ⟨(.type "code"),none,(.fields #[(.str "asked_size" 389),(.str "Shaper.asked_size" 390),(.str "/claim/cut.py" 391),(.int 70 0),(.int 2 0),(.int 0 0),(.int 0 0),(.int 3 0),(.ref 158),(.bool true),(.int 181 0),(.ref 159),.none,(.ref 160),(.ref 161),(.ref 162),(.int 394 0),(.int 70 0),(.str "/claim/cut.py" 395)]),#[]⟩ .nil .nil) (.node ⟨(.type "tuple"),none,(.seq #[(.str "pause" 482),(.str "queues" 483),(.str "shaper" 484)] 0),#[]⟩ .nil .nil))) (.node ⟨(.type "type"),none,(.cls ⟨"SizeError",[(.ref 38)],[(.ref 51),(.ref 38),(.type "Exception"),(.type "BaseException"),(.type "object")],50,"SizeError",true,[],[],false,none,false⟩),#[(some (.ref 42)),none,(some (.str "SizeError" 225)),(some (.str "SizeError" 233)),(some (.builtin "Exception.__new__")),(some (.bool true))]⟩ (.node ⟨(.type "tuple"),none,(.seq #[(.str "self" 287),(.str "rate" 288),(.str "burst" 289)] 0),#[]⟩ (.node ⟨(.type "tuple"),none,(.seq #[] 0),#[]⟩ .nil .nil) (.node ⟨(.type "code"),none,(.fields #[(.str "put" 453),(.str "PortOut.put" 454),(.str "/claim/cut.py" 455),(.int 94 0),(.int 4 0),(.int 0 0),(.int 0 0),(.int 3 0),(.ref 206),(.bool true),(.int 181 0),(.ref 207),.none,(.ref 208),(.ref 209),(.ref 210),(.int 460 0),(.int 94 0),(.str "/claim/cut.py" 461)]),#[]⟩ .nil .nil)) (.node (fo115_treeM P) (.node ⟨(.type "tuple"),none,(.seq #[(.str "bucket" 416)] 0),#[]⟩ .nil .nil) .nil))) (.node ⟨(.type "code"),none,(.fields #[(.str "SwitchError" 198),(.str "SwitchError" 199),(.str "/claim/cut.py" 200),(.int 5 0),(.int 0 0),(.int 0 0),(.int 0 0),(.int 0 0),(.ref 25),(.bool false),(.int 181 0),(.ref 26),.none,.none,.none,.none,(.int 201 0),(.int 5 0),(.str "/claim/cut.py" 202)]),#[]⟩ (.node ⟨(.type "builtin_function_or_method"),none,(.fields #[(.builtin "type.__prepare__"),(.type "type")]),#[]⟩ (.node ⟨(.type "builtin_function_or_method"),none,(.fields #[(.builtin "type.__prepare__"),(.type "type")]),#[]⟩ (.node ⟨(.type "type"),none,(.cls ⟨"Bucket",[(.type "object")],[(.ref 139),(.type "object")],138,"Bucket",true,[],[],false,none,false⟩),#[none,none,(some (.str "Bucket" 272)),(some (.str "Bucket" 280)),(some (.builtin "object.__new__")),(some (.bool true))]⟩ .nil .nil) (.node (fo203_treeM P) .nil .nil)) (.node ⟨(.type "code"),none,(.fields #[(.str "has" 310),(.str "Bucket.has" 311),(.str "/claim/cut.py" 312),(.int 40 0),(.int 3 0),(.int 0 0),(.int 0 0),(.int 3 0),(.ref 102),(.bool true),(.int 181 0),(.ref 103),.none,(.ref 104),(.ref 105),(.ref 106),(.int 316 0),(.int 40 0),(.str "/claim/cut.py" 317)]),#[]⟩ (.node (fo171_treeM P) .nil .nil) .nil)) (.node ⟨(.type "code"),none,(.fields #[(.str "SettingError" 243),(.str "SettingError" 244),(.str "/claim/cut.py" 245),(.int 12 0),(.int 0 0),(.int 0 0),(.int 0 0),(.int 0 0),(.ref 57),(.bool false),(.int 181 0),(.ref 58),.none,.none,.none,.none,(.int 246 0),(.int 12 0),(.str "/claim/cut.py" 247)]),#[]⟩ (.node ⟨(.type "tuple"),none,(.seq #[] 0),#[]⟩ (.node (fo155_treeM P) .nil .nil) (.node (fo219_treeM P) .nil .nil)) (.node ⟨(.type "tuple"),none,(.seq #[] 0),#[]⟩ (.node ⟨(.type "builtin_function_or_method"),none,(.fields #[(.builtin "type.__prepare__"),(.type "type")]),#[]⟩ .nil .nil) .nil))))) (.node (boot_o_5 P) (.node (boot_o_9 P) (.node ⟨(.type "tuple"),none,(.seq #[(.str "k" 190)] 0),#[]⟩ (.node (fo33_treeM P) (.node ⟨(.type "tuple"),none,(.seq #[] 0),#[]⟩ (.node (fo129_treeM P) .nil .nil) (.node ⟨(.type "tuple"),none,(.seq #[.none,.none] 0),#[]⟩ .nil .nil)) (.node ⟨(.type "tuple"),none,(.seq #[(.str "self" 305),(.str "now" 306)] 0),#[]⟩ (.node ⟨(.type "tuple"),none,(.seq #[] 0),#[]⟩ .nil .nil) (.node ⟨(.type "code"),none,(.fields #[(.str "when" 473),(.str "PortOut.when" 474),(.str "/claim/cut.py" 475),(.int 104 0),(.int 2 0),(.int 0 0),(.int 0 0),(.int 3 0),(.ref 220),(.bool true),(.int 181 0),(.ref 221),.none,(.ref 222),(.ref 223),(.ref 224),(.int 479 0),(.int 104 0),(.str "/claim/cut.py" 480)]),#[]⟩ .nil .nil))) (.node ⟨(.type "tuple"),none,(.seq #[] 0),#[]⟩ (.node ⟨(.type "tuple"),none,(.seq #[] 0),#[]⟩ (.node ⟨(.type "builtin_function_or_method"),none,(.fields #[(.builtin "type.__prepare__"),(.type "type")]),#[]⟩ .nil .nil) (.node ⟨(.type "tuple"),none,(.seq #[] 0),#[]⟩ .nil .nil)) (.node (fo113_treeM P) (.node ⟨(.type "code"),none,(.fields #[(.str "sent" 407),(.str "Shaper.sent" 408),(.str "/claim/cut.py" 409),(.int 77 0),(.int 3 0),(.int 0 0),(.int 0 0),(.int 3 0),(.ref 172),(.bool true),(.int 181 0),(.ref 173),.none,(.ref 174),(.ref 175),(.ref 176),(.int 413 0),(.int 77 0),(.str "/claim/cut.py" 414)]),#[]⟩ .nil .nil) .nil))) (.node ⟨(.type "tuple"),none,(.seq #[] 0),#[]⟩ (.node ⟨(.type "builtin_function_or_method"),none,(.fields #[(.builtin "object.__init_subclass__"),(.ref 38)]),#[]⟩ (.node ⟨(.type "builtin_function_or_method"),none,(.fields #[(.builtin "object.__init_subclass__"),(.ref 71)]),#[]⟩ (.node ⟨(.type "tuple"),none,(.seq #[(.str "burst" 354),(.str "grains" 355),(.str "rate" 356),(.str "time" 357)] 0),#[]⟩ .nil .nil) (.node ⟨(.type "tuple"),none,(.seq #[] 0),#[]⟩ .nil .nil)) (.node ⟨(.type "tuple"),none,(.seq #[] 0),#[]⟩ (.node (fo169_treeM P) .nil .nil) (.node ⟨(.type "builtin_function_or_method"),none,(.fields #[(.builtin "object.__init_subclass__"),(.ref 229)]),#[]⟩ .nil .nil))) (.node ⟨(.type "tuple"),none,(.seq #[] 0),#[]⟩ (.node ⟨.none,none,(.fields #[]),#[]⟩ (.node ⟨(.type "tuple"),none,(.seq #[(.str "self" 383),(.str "rate" 384),(.str "burst" 385)] 0),#[]⟩ .nil .nil) (.node (fo217_treeM P) .nil .nil)) (.node ⟨(.type "code"),none,(.fields #[(.str "take" 327),(.str "Bucket.take" 328),(.str "/claim/cut.py" 329),(.int 47 0),(.int 3 0),(.int 0 0),(.int 0 0),(.int 3 0),(.ref 116),(.bool true),(.int 181 0),(.ref 117),.none,(.ref 118),(.ref 119),(.ref 120),(.int 333 0),(.int 47 0),(.str "/claim/cut.py" 334)]),#[]⟩ (.node ⟨(.type "builtin_function_or_method"),none,(.fields #[(.builtin "object.__init_subclass__"),(.ref 181)]),#[]⟩ .nil .nil) .nil)))) (.node ⟨(.type "code"),none,(.fields #[(.str "<module>" 182),(.str "<module>" 183),(.str "/claim/cut.py" 184),(.int 1 0),(.int 0 0),(.int 0 0),(.int 0 0),(.int 0 0),(.ref 11),(.bool false),(.int 181 0),(.ref 12),.none,.none,.none,.none,(.int 185 0),(.int 1 0),(.str "/claim/cut.py" 186)]),#[]⟩ (.node (fo21_treeM P) (.node ⟨(.type "dict"),none,(.dict #[⟨(PyData.keyHash P "__module__"),(.str "__module__" 203),(.str "switchloom.errors" 194)⟩,⟨(PyData.keyHash P "__firstlineno__"),(.str "__firstlineno__" 207),(.int 5 206)⟩,⟨(PyData.keyHash P "__init__"),(.str "__init__" 215),(.ref 35)⟩,⟨(PyData.keyHash P "__static_attributes__"),(.str "__static_attributes__" 217),(.ref 36)⟩,⟨(PyData.keyHash P "__weakref__"),(.str "__weakref__" 219),(.ref 39)⟩,⟨(PyData.keyHash P "__doc__"),(.str "__doc__" 220),.none⟩] 3),#[]⟩ (.node ⟨(.type "tuple"),none,(.seq #[(.str "row" 263)] 0),#[]⟩ (.node ⟨(.type "tuple"),none,(.seq #[] 0),#[]⟩ .nil .nil) (.node ⟨(.type "tuple"),none,(.seq #[] 0),#[]⟩ .nil .nil)) (.node (fo101_treeM P) (.node ⟨(.type "tuple"),none,(.seq #[] 0),#[]⟩ .nil .nil) (.node ⟨(.type "type"),none,(.cls ⟨"PortOut",[(.type "object")],[(.ref 229),(.type "object")],228,"PortOut",true,[],[],false,none,false⟩),#[none,none,(some (.str "PortOut" 425)),(some (.str "PortOut" 433)),(some (.builtin "object.__new__")),(some (.bool true))]⟩ .nil .nil))) (.node ⟨(.type "builtin_function_or_method"),none,(.fields #[(.builtin "object.__init_subclass__"),(.ref 51)]),#[]⟩ (.node (fo85_treeM P) (.node ⟨(.type "code"),none,(.fields #[(.str "Shaper" 370),(.str "Shaper" 371),(.str "/claim/cut.py" 372),(.int 65 0),(.int 0 0),(.int 0 0),(.int 0 0),(.int 0 0),(.ref 147),(.bool false),(.int 181 0),(.ref 148),.none,.none,.none,.none,(.int 373 0),(.int 65 0),(.str "/claim/cut.py" 374)]),#[]⟩ .nil .nil) (.node ⟨(.type "tuple"),none,(.seq #[] 0),#[]⟩ .nil .nil)) (.node ⟨.none,none,(.fields #[]),#[]⟩ (.node ⟨(.type "type"),none,(.cls ⟨"Shaper",[(.type "object")],[(.ref 181),(.type "object")],180,"Shaper",true,[],[],false,none,false⟩),#[none,none,(some (.str "Shaper" 368)),(some (.str "Shaper" 376)),(some (.builtin "object.__new__")),(some (.bool true))]⟩ .nil .nil) .nil))) (.node ⟨(.type "tuple"),none,(.seq #[] 0),#[]⟩ (.node ⟨(.type "tuple"),none,(.seq #[] 0),#[]⟩ (.node ⟨(.type "tuple"),none,(.seq #[] 0),#[]⟩ (.node ⟨(.type "getset_descriptor"),none,(.fields #[(.str "__weakref__" 361),(.ref 139),(.builtin "ExceptionGroup.__weakref__"),.none]),#[]⟩ .nil .nil) (.node (fo205_treeM P) .nil .nil)) (.node ⟨(.type "tuple"),none,(.seq #[] 0),#[]⟩ (.node ⟨.none,none,(.fields #[]),#[]⟩ .nil .nil) .nil)) (.node ⟨(.type "tuple"),none,(.seq #[(.int 0 253)] 0),#[]⟩ (.node ⟨(.type "code"),none,(.fields #[(.str "fill" 293),(.str "Bucket.fill" 294),(.str "/claim/cut.py" 295),(.int 29 0),(.int 2 0),(.int 0 0),(.int 0 0),(.int 3 0),(.ref 88),(.bool true),(.int 181 0),(.ref 89),.none,(.ref 90),(.ref 91),(.ref 92),(.int 299 0),(.int 29 0),(.str "/claim/cut.py" 300)]),#[]⟩ (.node (fo157_treeM P) .nil .nil) (.node ⟨.none,none,(.fields #[]),#[]⟩ .nil .nil)) (.node ⟨(.type "tuple"),none,(.seq #[(.str "self" 339),(.str "grains" 340)] 0),#[]⟩ (.node ⟨(.type "tuple"),none,(.seq #[] 0),#[]⟩ .nil .nil) .nil)))))) (.node ⟨.none,none,(.dict #[⟨(PyData.keyHash P "type.__subclasses__.Exception.0"),(.str "type.__subclasses__.Exception.0" 221),(.int 38 0)⟩,⟨(PyData.keyHash P "type.__subclasses__.Exception.n"),(.str "type.__subclasses__.Exception.n" 222),(.int 1 0)⟩] 2),#[]⟩ (.node (boot_o_4 P) (.node (boot_o_8 P) (.node ⟨.none,none,(.fields #[]),#[]⟩ (.node ⟨(.type "tuple"),none,(.seq #[] 0),#[]⟩ (.node ⟨(.type "tuple"),none,(.seq #[(.str "self" 257),(.str "message" 258),(.str "row" 259)] 0),#[]⟩ (.node ⟨(.type "code"),none,(.fields #[(.str "add" 336),(.str "Bucket.add" 337),(.str "/claim/cut.py" 338),(.int 53 0),(.int 2 0),(.int 0 0),(.int 0 0),(.int 3 0),(.ref 123),(.bool true),(.int 181 0),(.ref 124),.none,(.ref 125),(.ref 126),(.ref 127),(.int 341 0),(.int 53 0),(.str "/claim/cut.py" 342)]),#[]⟩ .nil .nil) (.node ⟨(.type "frame"),none,.plain,#[(some (.ref 191)),(some (.ref 3)),(some (.ref 188)),none,(some (.str "switchloom.shapers" 366)),none,(some (.ref 0))]⟩ .nil .nil)) (.node ⟨.none,none,(.fields #[]),#[]⟩ (.node ⟨(.type "tuple"),none,(.seq #[(.str "self" 392),(.str "size" 393)] 0),#[]⟩ .nil .nil) (.node (fo224_treeM P) .nil .nil))) (.node ⟨(.type "frame"),none,.plain,#[(some (.ref 47)),(some (.ref 3)),(some (.ref 44)),none,(some (.str "switchloom.errors" 194)),none,(some (.ref 0))]⟩ (.node ⟨(.type "frame"),none,.plain,#[(some (.ref 79)),(some (.ref 3)),(some (.ref 76)),none,(some (.str "switchloom.buckets" 268)),none,(some (.ref 0))]⟩ (.node ⟨(.type "tuple"),none,(.seq #[] 0),#[]⟩ .nil .nil) (.node ⟨(.type "tuple"),none,(.seq #[(.str "self" 456),(.str "priority" 457),(.str "size" 458),(.str "thing" 459)] 0),#[]⟩ .nil .nil)) (.node ⟨(.type "tuple"),none,(.seq #[] 0),#[]⟩ (.node (fo176_treeM P) .nil .nil) .nil))) (.node ⟨(.type "dict"),none,(.dict #[⟨(PyData.keyHash P "__module__"),(.str "__module__" 203),(.str "switchloom.errors" 194)⟩,⟨(PyData.keyHash P "__qualname__"),(.str "__qualname__" 205),(.str "SwitchError" 204)⟩,⟨(PyData.keyHash P "__firstlineno__"),(.str "__firstlineno__" 207),(.int 5 206)⟩,⟨(PyData.keyHash P "__init__"),(.str "__init__" 215),(.ref 35)⟩,⟨(PyData.keyHash P "__static_attributes__"),(.str "__static_attributes__" 217),(.ref 36)⟩] 5),#[]⟩ (.node ⟨(.type "super"),none,(.fields #[(.ref 38),(.ref 38),(.ref 38)]),#[]⟩ (.node ⟨(.type "super"),none,(.fields #[(.ref 71),(.ref 71),(.ref 71)]),#[]⟩ (.node (fo136_treeM P) .nil .nil) (.node (fo200_treeM P) .nil .nil)) (.node ⟨(.type "tuple"),none,(.seq #[(.str "self" 313),(.str "size" 314),(.str "now" 315)] 0),#[]⟩ (.node ⟨(.type "tuple"),none,(.seq #[] 0),#[]⟩ .nil .nil) (.node ⟨(.type "super"),none,(.fields #[(.ref 229),(.ref 229),(.ref 229)]),#[]⟩ .nil .nil))) (.node ⟨(.type "dict"),none,(.dict #[⟨(PyData.keyHash P "__module__"),(.str "__module__" 248),(.str "switchloom.errors" 194)⟩,⟨(PyData.keyHash P "__qualname__"),(.str "__qualname__" 250),(.str "SettingError" 249)⟩,⟨(PyData.keyHash P "__firstlineno__"),(.str "__firstlineno__" 252),(.int 12 251)⟩,⟨(PyData.keyHash P "__init__"),(.str "__init__" 262),(.ref 68)⟩,⟨(PyData.keyHash P "__static_attributes__"),(.str "__static_attributes__" 264),(.ref 69)⟩] 5),#[]⟩ (.node ⟨(.type "tuple"),none,(.seq #[] 0),#[]⟩ (.node ⟨.none,none,(.fields #[]),#[]⟩ .nil .nil) (.node ⟨(.type "tuple"),none,(.seq #[] 0),#[]⟩ .nil .nil)) (.node (fo120_treeM P) (.node ⟨(.type "super"),none,(.fields #[(.ref 181),(.ref 181),(.ref 181)]),#[]⟩ .nil .nil) .nil)))) (.node ⟨.none,none,(.fields #[(.int 1 0),(.int 0 0),(.ref 20),(.int 5 0),(.int 0 0),(.ref 27),(.int 10 0),(.int 0 0),(.ref 47),(.int 12 0),(.int 0 0),(.ref 59),(.int 19 0),(.int 0 0),(.ref 79),(.int 65 0),(.int 0 0),(.ref 149),(.int 82 0),(.int 0 0),(.ref 191)]),#[]⟩ (.node ⟨(.type "code"),none,(.fields #[(.str "_wall" 187),(.str "_wall" 188),(.str "/claim/cut.py" 189),(.int 1 0),(.int 1 0),(.int 0 0),(.int 0 0),(.int 3 0),(.ref 15),(.bool true),(.int 181 0),(.ref 16),.none,(.ref 17),(.ref 18),(.ref 19),(.int 191 0),(.int 1 0),(.str "/claim/cut.py" 192)]),#[]⟩ (.node ⟨(.type "tuple"),none,(.seq #[(.str "message" 216)] 0),#[]⟩ (.node (fo68_treeM P) (.node ⟨(.type "tuple"),none,(.seq #[(.str "self" 347),(.str "size" 348),(.str "now" 349),(.str "lack" 350)] 0),#[]⟩ .nil .nil) (.node ⟨(.type "tuple"),none,(.seq #[(.str "self" 440),(.str "queues" 441),(.str "shaper" 442),(.str "pause" 443)] 0),#[]⟩ .nil .nil)) (.node ⟨(.type "code"),none,(.fields #[(.str "level" 302),(.str "Bucket.level" 303),(.str "/claim/cut.py" 304),(.int 37 0),(.int 2 0),(.int 0 0),(.int 0 0),(.int 3 0),(.ref 95),(.bool true),(.int 181 0),(.ref 96),.none,(.ref 97),(.ref 98),(.ref 99),(.int 307 0),(.int 37 0),(.str "/claim/cut.py" 308)]),#[]⟩ (.node (fo164_treeM P) .nil .nil) (.node ⟨(.type "dict"),none,(.dict #[⟨(PyData.keyHash P "__module__"),(.str "__module__" 432),(.str "switchloom.shapers" 366)⟩,⟨(PyData.keyHash P "__firstlineno__"),(.str "__firstlineno__" 436),(.int 82 435)⟩,⟨(PyData.keyHash P "__init__"),(.str "__init__" 446),(.ref 200)⟩,⟨(PyData.keyHash P "allowed"),(.str "allowed" 452),(.ref 205)⟩,⟨(PyData.keyHash P "put"),(.str "put" 462),(.ref 212)⟩,⟨(PyData.keyHash P "next"),(.str "next" 472),(.ref 219)⟩,⟨(PyData.keyHash P "when"),(.str "when" 481),(.ref 226)⟩,⟨(PyData.keyHash P "__static_attributes__"),(.str "__static_attributes__" 485),(.ref 227)⟩,⟨(PyData.keyHash P "__dict__"),(.str "__dict__" 487),(.ref 230)⟩,⟨(PyData.keyHash P "__weakref__"),(.str "__weakref__" 489),(.ref 231)⟩,⟨(PyData.keyHash P "__doc__"),(.str "__doc__" 490),.none⟩] 4),#[]⟩ .nil .nil))) (.node ⟨(.type "super"),none,(.fields #[(.ref 51),(.ref 51),(.ref 51)]),#[]⟩ (.node ⟨(.type "tuple"),none,(.seq #[] 0),#[]⟩ (.node ⟨.none,none,(.fields #[(.int 67 0),(.int 4 0),(.ref 156),(.int 70 0),(.int 4 0),(.ref 163),(.int 73 0),(.int 4 0),(.ref 170),(.int 77 0),(.int 4 0),(.ref 177)]),#[]⟩ .nil .nil) (.node (fo212_treeM P) .nil .nil)) (.node ⟨(.type "tuple"),none,(.seq #[] 0),#[]⟩ (.node ⟨(.type "dict"),none,(.dict #[⟨(PyData.keyHash P "__module__"),(.str "__module__" 375),(.str "switchloom.shapers" 366)⟩,⟨(PyData.keyHash P "__firstlineno__"),(.str "__firstlineno__" 379),(.int 65 378)⟩,⟨(PyData.keyHash P "__init__"),(.str "__init__" 388),(.ref 157)⟩,⟨(PyData.keyHash P "asked_size"),(.str "asked_size" 396),(.ref 164)⟩,⟨(PyData.keyHash P "when"),(.str "when" 406),(.ref 171)⟩,⟨(PyData.keyHash P "sent"),(.str "sent" 415),(.ref 178)⟩,⟨(PyData.keyHash P "__static_attributes__"),(.str "__static_attributes__" 417),(.ref 179)⟩,⟨(PyData.keyHash P "__dict__"),(.str "__dict__" 419),(.ref 182)⟩,⟨(PyData.keyHash P "__weakref__"),(.str "__weakref__" 421),(.ref 183)⟩,⟨(PyData.keyHash P "__doc__"),(.str "__doc__" 422),.none⟩] 4),#[]⟩ .nil .nil) .nil))) (.node ⟨(.type "frame"),none,.plain,#[(some (.ref 27)),(some (.ref 3)),(some (.ref 24)),none,(some (.str "switchloom.errors" 194)),none,(some (.ref 0))]⟩ (.node ⟨(.type "dict"),none,(.dict #[⟨(PyData.keyHash P "__module__"),(.str "__module__" 232),(.str "switchloom.errors" 194)⟩,⟨(PyData.keyHash P "__qualname__"),(.str "__qualname__" 234),(.str "SizeError" 233)⟩,⟨(PyData.keyHash P "__firstlineno__"),(.str "__firstlineno__" 236),(.int 10 235)⟩,⟨(PyData.keyHash P "__static_attributes__"),(.str "__static_attributes__" 237),(.ref 49)⟩] 4),#[]⟩ (.node ⟨(.type "dict"),none,(.dict #[⟨(PyData.keyHash P "__module__"),(.str "__module__" 279),(.str "switchloom.buckets" 268)⟩,⟨(PyData.keyHash P "__qualname__"),(.str "__qualname__" 281),(.str "Bucket" 280)⟩,⟨(PyData.keyHash P "__firstlineno__"),(.str "__firstlineno__" 283),(.int 19 282)⟩,⟨(PyData.keyHash P "__init__"),(.str "__init__" 292),(.ref 87)⟩,⟨(PyData.keyHash P "fill"),(.str "fill" 301),(.ref 94)⟩,⟨(PyData.keyHash P "level"),(.str "level" 309),(.ref 101)⟩,⟨(PyData.keyHash P "has"),(.str "has" 318),(.ref 108)⟩,⟨(PyData.keyHash P "spend"),(.str "spend" 326),(.ref 115)⟩,⟨(PyData.keyHash P "take"),(.str "take" 335),(.ref 122)⟩,⟨(PyData.keyHash P "add"),(.str "add" 343),(.ref 129)⟩,⟨(PyData.keyHash P "wait"),(.str "wait" 353),(.ref 136)⟩,⟨(PyData.keyHash P "__static_attributes__"),(.str "__static_attributes__" 358),(.ref 137)⟩] 12),#[]⟩ (.node ⟨(.type "getset_descriptor"),none,(.fields #[(.str "__dict__" 359),(.ref 139),(.builtin "function.__dict__"),(.builtin "function.__dict__#set")]),#[]⟩ .nil .nil) (.node ⟨(.type "code"),none,(.fields #[(.str "allowed" 447),(.str "PortOut.allowed" 448),(.str "/claim/cut.py" 449),(.int 89 0),(.int 2 0),(.int 0 0),(.int 0 0),(.int 3 0),(.ref 201),(.bool true),(.int 181 0),(.ref 202),.none,.none,.none,(.ref 203),(.int 450 0),(.int 89 0),(.str "/claim/cut.py" 451)]),#[]⟩ .nil .nil)) (.node (fo108_treeM P) (.node ⟨(.type "tuple"),none,(.seq #[] 0),#[]⟩ .nil .nil) .nil)) (.node ⟨(.type "frame"),none,.plain,#[(some (.ref 59)),(some (.ref 3)),(some (.ref 56)),none,(some (.str "switchloom.errors" 194)),none,(some (.ref 0))]⟩ (.node (fo92_treeM P) (.node ⟨(.type "code"),none,(.fields #[(.str "__init__" 380),(.str "Shaper.__init__" 381),(.str "/claim/cut.py" 382),(.int 67 0),(.int 3 0),(.int 0 0),(.int 0 0),(.int 3 0),(.ref 151),(.bool true),(.int 181 0),(.ref 152),.none,(.ref 153),(.ref 154),(.ref 155),(.int 386 0),(.int 67 0),(.str "/claim/cut.py" 387)]),#[]⟩ .nil .nil) (.node ⟨(.type "tuple"),none,(.seq #[] 0),#[]⟩ .nil .nil)) (.node ⟨.none,none,(.fields #[]),#[]⟩ (.node ⟨(.type "dict"),none,(.dict #[⟨(PyData.keyHash P "__module__"),(.str "__module__" 432),(.str "switchloom.shapers" 366)⟩,⟨(PyData.keyHash P "__qualname__"),(.str "__qualname__" 434),(.str "PortOut" 433)⟩,⟨(PyData.keyHash P "__firstlineno__"),(.str "__firstlineno__" 436),(.int 82 435)⟩,⟨(PyData.keyHash P "__init__"),(.str "__init__" 446),(.ref 200)⟩,⟨(PyData.keyHash P "allowed"),(.str "allowed" 452),(.ref 205)⟩,⟨(PyData.keyHash P "put"),(.str "put" 462),(.ref 212)⟩,⟨(PyData.keyHash P "next"),(.str "next" 472),(.ref 219)⟩,⟨(PyData.keyHash P "when"),(.str "when" 481),(.ref 226)⟩,⟨(PyData.keyHash P "__static_attributes__"),(.str "__static_attributes__" 485),(.ref 227)⟩] 9),#[]⟩ .nil .nil) .nil))))) (.node (boot_o_6 P) (.node (boot_o_10 P) (.node ⟨(.type "tuple"),none,(.seq #[] 0),#[]⟩ (.node ⟨(.type "code"),none,(.fields #[(.str "__init__" 208),(.str "SwitchError.__init__" 209),(.str "/claim/cut.py" 210),(.int 7 0),(.int 2 0),(.int 0 0),(.int 0 0),(.int 3 0),(.ref 29),(.bool true),(.int 181 0),(.ref 30),.none,(.ref 31),(.ref 32),(.ref 33),(.int 213 0),(.int 7 0),(.str "/claim/cut.py" 214)]),#[]⟩ (.node (fo66_treeM P) (.node ⟨(.type "tuple"),none,(.seq #[] 0),#[]⟩ .nil .nil) (.node ⟨(.type "tuple"),none,(.seq #[] 0),#[]⟩ .nil .nil)) (.node ⟨(.type "tuple"),none,(.seq #[] 0),#[]⟩ (.node (fo162_treeM P) .nil .nil) (.node (fo226_treeM P) .nil .nil))) (.node ⟨(.type "dict"),none,(.dict #[⟨(PyData.keyHash P "__module__"),(.str "__module__" 232),(.str "switchloom.errors" 194)⟩,⟨(PyData.keyHash P "__firstlineno__"),(.str "__firstlineno__" 236),(.int 10 235)⟩,⟨(PyData.keyHash P "__static_attributes__"),(.str "__static_attributes__" 237),(.ref 49)⟩,⟨(PyData.keyHash P "__doc__"),(.str "__doc__" 238),.none⟩] 2),#[]⟩ (.node ⟨.none,none,(.fields #[]),#[]⟩ (.node ⟨(.type "dict"),none,(.dict #[⟨(PyData.keyHash P "__module__"),(.str "__module__" 375),(.str "switchloom.shapers" 366)⟩,⟨(PyData.keyHash P "__qualname__"),(.str "__qualname__" 377),(.str "Shaper" 376)⟩,⟨(PyData.keyHash P "__firstlineno__"),(.str "__firstlineno__" 379),(.int 65 378)⟩,⟨(PyData.keyHash P "__init__"),(.str "__init__" 388),(.ref 157)⟩,⟨(PyData.keyHash P "asked_size"),(.str "asked_size" 396),(.ref 164)⟩,⟨(PyData.keyHash P "when"),(.str "when" 406),(.ref 171)⟩,⟨(PyData.keyHash P "sent"),(.str "sent" 415),(.ref 178)⟩,⟨(PyData.keyHash P "__static_attributes__"),(.str "__static_attributes__" 417),(.ref 179)⟩] 8),#[]⟩ .nil .nil) (.node (fo210_treeM P) .nil .nil)) (.node ⟨(.type "code"),none,(.fields #[(.str "spend" 319),(.str "Bucket.spend" 320),(.str "/claim/cut.py" 321),(.int 44 0),(.int 2 0),(.int 0 0),(.int 0 0),(.int 3 0),(.ref 109),(.bool true),(.int 181 0),(.ref 110),.none,(.ref 111),(.ref 112),(.ref 113),(.int 324 0),(.int 44 0),(.str "/claim/cut.py" 325)]),#[]⟩ (.node (fo178_treeM P) .nil .nil) .nil))) (.node ⟨.none,none,(.fields #[(.int 7 0),(.int 4 0),(.ref 34)]),#[]⟩ (.node ⟨(.type "tuple"),none,(.seq #[(.ref 38)] 0),#[]⟩ (.node ⟨(.type "tuple"),none,(.seq #[] 0),#[]⟩ (.node ⟨(.type "dict"),none,(.dict #[⟨(PyData.keyHash P "__module__"),(.str "__module__" 279),(.str "switchloom.buckets" 268)⟩,⟨(PyData.keyHash P "__firstlineno__"),(.str "__firstlineno__" 283),(.int 19 282)⟩,⟨(PyData.keyHash P "__init__"),(.str "__init__" 292),(.ref 87)⟩,⟨(PyData.keyHash P "fill"),(.str "fill" 301),(.ref 94)⟩,⟨(PyData.keyHash P "level"),(.str "level" 309),(.ref 101)⟩,⟨(PyData.keyHash P "has"),(.str "has" 318),(.ref 108)⟩,⟨(PyData.keyHash P "spend"),(.str "spend" 326),(.ref 115)⟩,⟨(PyData.keyHash P "take"),(.str "take" 335),(.ref 122)⟩,⟨(PyData.keyHash P "add"),(.str "add" 343),(.ref 129)⟩,⟨(PyData.keyHash P "wait"),(.str "wait" 353),(.ref 136)⟩,⟨(PyData.keyHash P "__static_attributes__"),(.str "__static_attributes__" 358),(.ref 137)⟩,⟨(PyData.keyHash P "__dict__"),(.str "__dict__" 360),(.ref 140)⟩,⟨(PyData.keyHash P "__weakref__"),(.str "__weakref__" 362),(.ref 141)⟩,⟨(PyData.keyHash P "__doc__"),(.str "__doc__" 363),.none⟩] 4),#[]⟩ .nil .nil) (.node ⟨.none,none,(.fields #[]),#[]⟩ .nil .nil)) (.node (fo106_treeM P) (.node ⟨(.type "code"),none,(.fields #[(.str "when" 397),(.str "Shaper.when" 398),(.str "/claim/cut.py" 399),(.int 73 0),(.int 3 0),(.int 0 0),(.int 0 0),(.int 3 0),(.ref 165),(.bool true),(.int 181 0),(.ref 166),.none,(.ref 167),(.ref 168),(.ref 169),(.int 404 0),(.int 73 0),(.str "/claim/cut.py" 405)]),#[]⟩ .nil .nil) .nil)) (.node ⟨.none,none,(.fields #[(.int 14 0),(.int 4 0),(.ref 67)]),#[]⟩ (.node ⟨(.type "tuple"),none,(.seq #[(.str "self" 296),(.str "now" 297),(.str "whole" 298)] 0),#[]⟩ (.node ⟨(.type "tuple"),none,(.seq #[] 0),#[]⟩ .nil .nil) (.node ⟨(.type "code"),none,(.fields #[(.str "next" 463),(.str "PortOut.next" 464),(.str "/claim/cut.py" 465),(.int 97 0),(.int 2 0),(.int 0 0),(.int 0 0),(.int 3 0),(.ref 213),(.bool true),(.int 181 0),(.ref 214),.none,(.ref 215),(.ref 216),(.ref 217),(.int 470 0),(.int 97 0),(.str "/claim/cut.py" 471)]),#[]⟩ .nil .nil)) (.node (fo122_treeM P) (.node ⟨(.type "tuple"),none,(.seq #[] 0),#[]⟩ .nil .nil) .nil)))) (.node ⟨(.type "frame"),none,.plain,#[(some (.ref 13)),(some (.ref 3)),(some (.ref 3)),none,(some (.str "__main__" 164)),none,(some (.ref 0))]⟩ (.node ⟨(.type "tuple"),none,(.seq #[(.type "Exception")] 0),#[]⟩ (.node ⟨(.type "type"),none,(.cls ⟨"SwitchError",[(.type "Exception")],[(.ref 38),(.type "Exception"),(.type "BaseException"),(.type "object")],37,"SwitchError",true,[],[(.ref 51),(.ref 71)],false,none,false⟩),#[(some (.ref 22)),none,(some (.str "SwitchError" 196)),(some (.str "SwitchError" 204)),(some (.builtin "Exception.__new__")),(some (.bool true))]⟩ (.node ⟨(.type "dict"),none,(.dict #[⟨(PyData.keyHash P "__module__"),(.str "__module__" 248),(.str "switchloom.errors" 194)⟩,⟨(PyData.keyHash P "__firstlineno__"),(.str "__firstlineno__" 252),(.int 12 251)⟩,⟨(PyData.keyHash P "__init__"),(.str "__init__" 262),(.ref 68)⟩,⟨(PyData.keyHash P "__static_attributes__"),(.str "__static_attributes__" 264),(.ref 69)⟩,⟨(PyData.keyHash P "__doc__"),(.str "__doc__" 265),.none⟩] 2),#[]⟩ (.node (fo134_treeM P) .nil .nil) (.node (fo198_treeM P) .nil .nil)) (.node ⟨(.type "tuple"),none,(.seq #[] 0),#[]⟩ (.node ⟨.none,none,(.fields #[]),#[]⟩ .nil .nil) (.node ⟨(.type "getset_descriptor"),none,(.fields #[(.str "__dict__" 486),(.ref 229),(.builtin "function.__dict__"),(.builtin "function.__dict__#set")]),#[]⟩ .nil .nil))) (.node ⟨(.type "tuple"),none,(.seq #[(.ref 38)] 0),#[]⟩ (.node ⟨(.type "code"),none,(.fields #[(.str "__init__" 284),(.str "Bucket.__init__" 285),(.str "/claim/cut.py" 286),(.int 21 0),(.int 3 0),(.int 0 0),(.int 0 0),(.int 3 0),(.ref 81),(.bool true),(.int 181 0),(.ref 82),.none,(.ref 83),(.ref 84),(.ref 85),(.int 290 0),(.int 21 0),(.str "/claim/cut.py" 291)]),#[]⟩ (.node ⟨(.type "frame"),none,.plain,#[(some (.ref 149)),(some (.ref 3)),(some (.ref 146)),none,(some (.str "switchloom.shapers" 366)),none,(some (.ref 0))]⟩ .nil .nil) (.node ⟨.none,none,(.fields #[]),#[]⟩ .nil .nil)) (.node ⟨(.type "tuple"),none,(.seq #[(.str "self" 330),(.str "size" 331),(.str "now" 332)] 0),#[]⟩ (.node ⟨(.type "getset_descriptor"),none,(.fields #[(.str "__dict__" 418),(.ref 181),(.builtin "function.__dict__"),(.builtin "function.__dict__#set")]),#[]⟩ .nil .nil) .nil))) (.node ⟨.none,none,(.fields #[]),#[]⟩ (.node ⟨.none,none,(.fields #[]),#[]⟩ (.node ⟨.none,none,(.fields #[(.int 21 0),(.int 4 0),(.ref 86),(.int 29 0),(.int 4 0),(.ref 93),(.int 37 0),(.int 4 0),(.ref 100),(.int 40 0),(.int 4 0),(.ref 107),(.int 44 0),(.int 4 0),(.ref 114),(.int 47 0),(.int 4 0),(.ref 121),(.int 53 0),(.int 4 0),(.ref 128),(.int 56 0),(.int 4 0),(.ref 135)]),#[]⟩ (.node ⟨(.type "super"),none,(.fields #[(.ref 139),(.ref 139),(.ref 139)]),#[]⟩ .nil .nil) (.node ⟨(.type "tuple"),none,(.seq #[] 0),#[]⟩ .nil .nil)) (.node ⟨.none,none,(.fields #[]),#[]⟩ (.node ⟨(.type "tuple"),none,(.seq #[(.str "self" 410),(.str "size" 411),(.str "now" 412)] 0),#[]⟩ .nil .nil) .nil)) (.node ⟨(.type "tuple"),none,(.seq #[] 0),#[]⟩ (.node (fo94_treeM P) (.node ⟨(.type "tuple"),none,(.seq #[] 0),#[]⟩ .nil .nil) (.node ⟨(.type "tuple"),none,(.seq #[(.str "self" 476),(.str "now" 477),(.str "found" 478)] 0),#[]⟩ .nil .nil)) (.node ⟨(.type "tuple"),none,(.seq #[] 0),#[]⟩ (.node ⟨.none,none,(.fields #[(.int 84 0),(.int 4 0),(.ref 199),(.int 89 0),(.int 4 0),(.ref 204),(.int 94 0),(.int 4 0),(.ref 211),(.int 97 0),(.int 4 0),(.ref 218),(.int 104 0),(.int 4 0),(.ref 225)]),#[]⟩ .nil .nil) .nil)))))))
noncomputable def fo287_treeE (P : Params) : Obj := (fun (p : Arguments) (b : List Stmt) (s : Scope) (_ : meAt 15 2 = (p, b, s)) => (⟨.none,none,(.func ⟨"may_send","PauseState.may_send",p,(.stmts b),s,0,[],.none,.none,.none,.none,none,.none,.none,0⟩),#[]⟩ : Obj)) _ _ _ rfl
noncomputable def fo463_treeE (P : Params) : Obj := (fun (p : Arguments) (b : List Stmt) (s : Scope) (_ : fnAt 30 = (p, b, s)) => (⟨(.type "function"),none,(.func ⟨"_law_bounded","_law_bounded",p,(.stmts b),s,3,[],.none,.none,.none,(.str "law_pc0376_01" 722),none,(.ref 462),.none,0⟩),#[]⟩ : Obj)) _ _ _ rfl
noncomputable def fo423_treeE (P : Params) : Obj := (fun (p : Arguments) (b : List Stmt) (s : Scope) (_ : fnAt 24 = (p, b, s)) => (⟨.none,none,(.func ⟨"_law_pause","_law_pause",p,(.stmts b),s,0,[],.none,.none,.none,.none,none,.none,.none,0⟩),#[]⟩ : Obj)) _ _ _ rfl
noncomputable def fo247_treeE (P : Params) : Obj := (fun (p : Arguments) (b : List Stmt) (s : Scope) (_ : meAt 13 0 = (p, b, s)) => (⟨(.type "function"),none,(.func ⟨"__init__","PauseFrame.__init__",p,(.stmts b),s,3,[],.none,.none,.none,(.str "switchloom.pause" 493),none,(.ref 246),.none,0⟩),#[]⟩ : Obj)) _ _ _ rfl
noncomputable def fo259_treeE (P : Params) : Obj := (fun (p : Arguments) (b : List Stmt) (s : Scope) (_ : fnAt 14 = (p, b, s)) => (⟨.none,none,(.func ⟨"time_behind","time_behind",p,(.stmts b),s,0,[],.none,.none,.none,.none,none,.none,.none,0⟩),#[]⟩ : Obj)) _ _ _ rfl
noncomputable def fo387_treeE (P : Params) : Obj := (fun (p : Arguments) (b : List Stmt) (s : Scope) (_ : meAt 19 3 = (p, b, s)) => (⟨(.type "function"),none,(.func ⟨"take","StrictQueues.take",p,(.stmts b),s,3,[],(.ref 380),.none,.none,(.str "switchloom.queues" 585),none,(.ref 386),.none,0⟩),#[]⟩ : Obj)) _ _ _ rfl
noncomputable def fo451_treeE (P : Params) : Obj := (fun (p : Arguments) (b : List Stmt) (s : Scope) (_ : fnAt 28 = (p, b, s)) => (⟨(.type "function"),none,(.func ⟨"_law_due_time","_law_due_time",p,(.stmts b),s,3,[],.none,.none,.none,(.str "law_pc0376_01" 722),none,(.ref 450),.none,0⟩),#[]⟩ : Obj)) _ _ _ rfl
noncomputable def fo275_treeE (P : Params) : Obj := (fun (p : Arguments) (b : List Stmt) (s : Scope) (_ : meAt 15 0 = (p, b, s)) => (⟨(.type "function"),none,(.func ⟨"__init__","PauseState.__init__",p,(.stmts b),s,3,[],.none,.none,.none,(.str "switchloom.pause" 493),none,(.ref 274),.none,0⟩),#[]⟩ : Obj)) _ _ _ rfl
noncomputable def fo435_treeE (P : Params) : Obj := (fun (p : Arguments) (b : List Stmt) (s : Scope) (_ : fnAt 26 = (p, b, s)) => (⟨.none,none,(.func ⟨"_law_filled","_law_filled",p,(.stmts b),s,0,[],.none,.none,.none,.none,none,.none,.none,0⟩),#[]⟩ : Obj)) _ _ _ rfl
noncomputable def fo371_treeE (P : Params) : Obj := (fun (p : Arguments) (b : List Stmt) (s : Scope) (_ : meAt 19 1 = (p, b, s)) => (⟨(.type "function"),none,(.func ⟨"put","StrictQueues.put",p,(.stmts b),s,3,[],.none,.none,.none,(.str "switchloom.queues" 585),none,(.ref 370),.none,0⟩),#[]⟩ : Obj)) _ _ _ rfl
noncomputable def fo331_treeE (P : Params) : Obj := (fun (p : Arguments) (b : List Stmt) (s : Scope) (_ : meAt 17 3 = (p, b, s)) => (⟨(.type "function"),none,(.func ⟨"head_size","QueueRow.head_size",p,(.stmts b),s,3,[],.none,.none,.none,(.str "switchloom.queues" 585),none,(.ref 330),.none,0⟩),#[]⟩ : Obj)) _ _ _ rfl
noncomputable def fo411_treeE (P : Params) : Obj := (fun (p : Arguments) (b : List Stmt) (s : Scope) (_ : fnAt 22 = (p, b, s)) => (⟨.none,none,(.func ⟨"_law_next","_law_next",p,(.stmts b),s,0,[],.none,.none,.none,.none,none,.none,.none,0⟩),#[]⟩ : Obj)) _ _ _ rfl
noncomputable def fo475_treeE (P : Params) : Obj := (fun (p : Arguments) (b : List Stmt) (s : Scope) (_ : fnAt 32 = (p, b, s)) => (⟨(.type "function"),none,(.func ⟨"law","law",p,(.stmts b),s,3,[],.none,.none,.none,(.str "law_pc0376_01" 722),none,(.ref 474),.none,0⟩),#[]⟩ : Obj)) _ _ _ rfl
noncomputable def fo315_treeE (P : Params) : Obj := (fun (p : Arguments) (b : List Stmt) (s : Scope) (_ : meAt 17 1 = (p, b, s)) => (⟨.none,none,(.func ⟨"put","QueueRow.put",p,(.stmts b),s,0,[],.none,.none,.none,.none,none,.none,.none,0⟩),#[]⟩ : Obj)) _ _ _ rfl
noncomputable def fo379_treeE (P : Params) : Obj := (fun (p : Arguments) (b : List Stmt) (s : Scope) (_ : meAt 19 2 = (p, b, s)) => (⟨(.type "function"),none,(.func ⟨"look","StrictQueues.look",p,(.stmts b),s,3,[],(.ref 372),.none,.none,(.str "switchloom.queues" 585),none,(.ref 378),.none,0⟩),#[]⟩ : Obj)) _ _ _ rfl
noncomputable def fo385_treeE (P : Params) : Obj := (fun (p : Arguments) (b : List Stmt) (s : Scope) (_ : meAt 19 3 = (p, b, s)) => (⟨.none,none,(.func ⟨"take","StrictQueues.take",p,(.stmts b),s,0,[],.none,.none,.none,.none,none,.none,.none,0⟩),#[]⟩ : Obj)) _ _ _ rfl
noncomputable def fo449_treeE (P : Params) : Obj := (fun (p : Arguments) (b : List Stmt) (s : Scope) (_ : fnAt 28 = (p, b, s)) => (⟨.none,none,(.func ⟨"_law_due_time","_law_due_time",p,(.stmts b),s,0,[],.none,.none,.none,.none,none,.none,.none,0⟩),#[]⟩ : Obj)) _ _ _ rfl
noncomputable def fo289_treeE (P : Params) : Obj := (fun (p : Arguments) (b : List Stmt) (s : Scope) (_ : meAt 15 2 = (p, b, s)) => (⟨(.type "function"),none,(.func ⟨"may_send","PauseState.may_send",p,(.stmts b),s,3,[],.none,.none,.none,(.str "switchloom.pause" 493),none,(.ref 288),.none,0⟩),#[]⟩ : Obj)) _ _ _ rfl
noncomputable def fo273_treeE (P : Params) : Obj := (fun (p : Arguments) (b : List Stmt) (s : Scope) (_ : meAt 15 0 = (p, b, s)) => (⟨.none,none,(.func ⟨"__init__","PauseState.__init__",p,(.stmts b),s,0,[],.none,.none,.none,.none,none,.none,.none,0⟩),#[]⟩ : Obj)) _ _ _ rfl
noncomputable def fo369_treeE (P : Params) : Obj := (fun (p : Arguments) (b : List Stmt) (s : Scope) (_ : meAt 19 1 = (p, b, s)) => (⟨.none,none,(.func ⟨"put","StrictQueues.put",p,(.stmts b),s,0,[],.none,.none,.none,.none,none,.none,.none,0⟩),#[]⟩ : Obj)) _ _ _ rfl
noncomputable def fo329_treeE (P : Params) : Obj := (fun (p : Arguments) (b : List Stmt) (s : Scope) (_ : meAt 17 3 = (p, b, s)) => (⟨.none,none,(.func ⟨"head_size","QueueRow.head_size",p,(.stmts b),s,0,[],.none,.none,.none,.none,none,.none,.none,0⟩),#[]⟩ : Obj)) _ _ _ rfl
noncomputable def fo425_treeE (P : Params) : Obj := (fun (p : Arguments) (b : List Stmt) (s : Scope) (_ : fnAt 24 = (p, b, s)) => (⟨(.type "function"),none,(.func ⟨"_law_pause","_law_pause",p,(.stmts b),s,3,[],.none,.none,.none,(.str "law_pc0376_01" 722),none,(.ref 424),.none,0⟩),#[]⟩ : Obj)) _ _ _ rfl
noncomputable def fo473_treeE (P : Params) : Obj := (fun (p : Arguments) (b : List Stmt) (s : Scope) (_ : fnAt 32 = (p, b, s)) => (⟨.none,none,(.func ⟨"law","law",p,(.stmts b),s,0,[],.none,.none,.none,.none,none,.none,.none,0⟩),#[]⟩ : Obj)) _ _ _ rfl
noncomputable def fo377_treeE (P : Params) : Obj := (fun (p : Arguments) (b : List Stmt) (s : Scope) (_ : meAt 19 2 = (p, b, s)) => (⟨.none,none,(.func ⟨"look","StrictQueues.look",p,(.stmts b),s,0,[],.none,.none,.none,.none,none,.none,.none,0⟩),#[]⟩ : Obj)) _ _ _ rfl
noncomputable def fo261_treeE (P : Params) : Obj := (fun (p : Arguments) (b : List Stmt) (s : Scope) (_ : fnAt 14 = (p, b, s)) => (⟨(.type "function"),none,(.func ⟨"time_behind","time_behind",p,(.stmts b),s,3,[],.none,.none,.none,(.str "switchloom.pause" 493),none,(.ref 260),.none,0⟩),#[]⟩ : Obj)) _ _ _ rfl
noncomputable def fo437_treeE (P : Params) : Obj := (fun (p : Arguments) (b : List Stmt) (s : Scope) (_ : fnAt 26 = (p, b, s)) => (⟨(.type "function"),none,(.func ⟨"_law_filled","_law_filled",p,(.stmts b),s,3,[],.none,.none,.none,(.str "law_pc0376_01" 722),none,(.ref 436),.none,0⟩),#[]⟩ : Obj)) _ _ _ rfl
noncomputable def fo245_treeE (P : Params) : Obj := (fun (p : Arguments) (b : List Stmt) (s : Scope) (_ : meAt 13 0 = (p, b, s)) => (⟨.none,none,(.func ⟨"__init__","PauseFrame.__init__",p,(.stmts b),s,0,[],.none,.none,.none,.none,none,.none,.none,0⟩),#[]⟩ : Obj)) _ _ _ rfl
noncomputable def fo461_treeE (P : Params) : Obj := (fun (p : Arguments) (b : List Stmt) (s : Scope) (_ : fnAt 30 = (p, b, s)) => (⟨.none,none,(.func ⟨"_law_bounded","_law_bounded",p,(.stmts b),s,0,[],.none,.none,.none,.none,none,.none,.none,0⟩),#[]⟩ : Obj)) _ _ _ rfl
noncomputable def fo413_treeE (P : Params) : Obj := (fun (p : Arguments) (b : List Stmt) (s : Scope) (_ : fnAt 22 = (p, b, s)) => (⟨(.type "function"),none,(.func ⟨"_law_next","_law_next",p,(.stmts b),s,3,[],.none,.none,.none,(.str "law_pc0376_01" 722),none,(.ref 412),.none,0⟩),#[]⟩ : Obj)) _ _ _ rfl
noncomputable def fo317_treeE (P : Params) : Obj := (fun (p : Arguments) (b : List Stmt) (s : Scope) (_ : meAt 17 1 = (p, b, s)) => (⟨(.type "function"),none,(.func ⟨"put","QueueRow.put",p,(.stmts b),s,3,[],.none,.none,.none,(.str "switchloom.queues" 585),none,(.ref 316),.none,0⟩),#[]⟩ : Obj)) _ _ _ rfl
noncomputable def fo352_treeE (P : Params) : Obj := (fun (p : Arguments) (b : List Stmt) (s : Scope) (_ : fnAt 18 = (p, b, s)) => (⟨(.type "function"),none,(.func ⟨"may_go","may_go",p,(.stmts b),s,3,[],.none,.none,.none,(.str "switchloom.queues" 585),none,(.ref 351),.none,0⟩),#[]⟩ : Obj)) _ _ _ rfl
noncomputable def fo336_treeE (P : Params) : Obj := (fun (p : Arguments) (b : List Stmt) (s : Scope) (_ : meAt 17 4 = (p, b, s)) => (⟨.none,none,(.func ⟨"take","QueueRow.take",p,(.stmts b),s,0,[],.none,.none,.none,.none,none,.none,.none,0⟩),#[]⟩ : Obj)) _ _ _ rfl
noncomputable def fo392_treeE (P : Params) : Obj := (fun (p : Arguments) (b : List Stmt) (s : Scope) (_ : meAt 19 4 = (p, b, s)) => (⟨(.type "function"),none,(.func ⟨"waiting","StrictQueues.waiting",p,(.stmts b),s,3,[],.none,.none,.none,(.str "switchloom.queues" 585),none,(.ref 391),.none,0⟩),#[]⟩ : Obj)) _ _ _ rfl
noncomputable def fo456_treeE (P : Params) : Obj := (fun (p : Arguments) (b : List Stmt) (s : Scope) (_ : fnAt 29 = (p, b, s)) => (⟨.none,none,(.func ⟨"_law_gone","_law_gone",p,(.stmts b),s,0,[],.none,.none,.none,.none,none,.none,.none,0⟩),#[]⟩ : Obj)) _ _ _ rfl
noncomputable def fo280_treeE (P : Params) : Obj := (fun (p : Arguments) (b : List Stmt) (s : Scope) (_ : meAt 15 1 = (p, b, s)) => (⟨.none,none,(.func ⟨"heard","PauseState.heard",p,(.stmts b),s,0,[],.none,.none,.none,.none,none,.none,.none,0⟩),#[]⟩ : Obj)) _ _ _ rfl
noncomputable def fo324_treeE (P : Params) : Obj := (fun (p : Arguments) (b : List Stmt) (s : Scope) (_ : meAt 17 2 = (p, b, s)) => (⟨(.type "function"),none,(.func ⟨"is_empty","QueueRow.is_empty",p,(.stmts b),s,3,[],.none,.none,.none,(.str "switchloom.queues" 585),none,(.ref 323),.none,0⟩),#[]⟩ : Obj)) _ _ _ rfl
noncomputable def fo420_treeE (P : Params) : Obj := (fun (p : Arguments) (b : List Stmt) (s : Scope) (_ : fnAt 23 = (p, b, s)) => (⟨(.type "function"),none,(.func ⟨"_law_pick","_law_pick",p,(.stmts b),s,3,[],.none,.none,.none,(.str "law_pc0376_01" 722),none,(.ref 419),.none,0⟩),#[]⟩ : Obj)) _ _ _ rfl
noncomputable def fo404_treeE (P : Params) : Obj := (fun (p : Arguments) (b : List Stmt) (s : Scope) (_ : fnAt 21 = (p, b, s)) => (⟨.none,none,(.func ⟨"_law_source","_law_source",p,(.stmts b),s,0,[],.none,.none,.none,.none,none,.none,.none,0⟩),#[]⟩ : Obj)) _ _ _ rfl
noncomputable def fo468_treeE (P : Params) : Obj := (fun (p : Arguments) (b : List Stmt) (s : Scope) (_ : fnAt 31 = (p, b, s)) => (⟨.none,none,(.func ⟨"_law_fixed_right","_law_fixed_right",p,(.stmts b),s,0,[],.none,.none,.none,.none,none,.none,.none,0⟩),#[]⟩ : Obj)) _ _ _ rfl
noncomputable def fo308_treeE (P : Params) : Obj := (fun (p : Arguments) (b : List Stmt) (s : Scope) (_ : meAt 17 0 = (p, b, s)) => (⟨.none,none,(.func ⟨"__init__","QueueRow.__init__",p,(.stmts b),s,0,[],.none,.none,.none,.none,none,.none,.none,0⟩),#[]⟩ : Obj)) _ _ _ rfl
noncomputable def fo428_treeE (P : Params) : Obj := (fun (p : Arguments) (b : List Stmt) (s : Scope) (_ : fnAt 25 = (p, b, s)) => (⟨.none,none,(.func ⟨"_law_head","_law_head",p,(.stmts b),s,0,[],.none,.none,.none,.none,none,.none,.none,0⟩),#[]⟩ : Obj)) _ _ _ rfl
noncomputable def fo364_treeE (P : Params) : Obj := (fun (p : Arguments) (b : List Stmt) (s : Scope) (_ : meAt 19 0 = (p, b, s)) => (⟨(.type "function"),none,(.func ⟨"__init__","StrictQueues.__init__",p,(.stmts b),s,3,[],.none,.none,.none,(.str "switchloom.queues" 585),none,(.ref 363),.none,0⟩),#[]⟩ : Obj)) _ _ _ rfl
noncomputable def fo444_treeE (P : Params) : Obj := (fun (p : Arguments) (b : List Stmt) (s : Scope) (_ : fnAt 27 = (p, b, s)) => (⟨(.type "function"),none,(.func ⟨"_law_asked","_law_asked",p,(.stmts b),s,3,[],.none,.none,.none,(.str "law_pc0376_01" 722),none,(.ref 443),.none,0⟩),#[]⟩ : Obj)) _ _ _ rfl
noncomputable def fo322_treeE (P : Params) : Obj := (fun (p : Arguments) (b : List Stmt) (s : Scope) (_ : meAt 17 2 = (p, b, s)) => (⟨.none,none,(.func ⟨"is_empty","QueueRow.is_empty",p,(.stmts b),s,0,[],.none,.none,.none,.none,none,.none,.none,0⟩),#[]⟩ : Obj)) _ _ _ rfl
noncomputable def fo418_treeE (P : Params) : Obj := (fun (p : Arguments) (b : List Stmt) (s : Scope) (_ : fnAt 23 = (p, b, s)) => (⟨.none,none,(.func ⟨"_law_pick","_law_pick",p,(.stmts b),s,0,[],.none,.none,.none,.none,none,.none,.none,0⟩),#[]⟩ : Obj)) _ _ _ rfl
noncomputable def fo338_treeE (P : Params) : Obj := (fun (p : Arguments) (b : List Stmt) (s : Scope) (_ : meAt 17 4 = (p, b, s)) => (⟨(.type "function"),none,(.func ⟨"take","QueueRow.take",p,(.stmts b),s,3,[],.none,.none,.none,(.str "switchloom.queues" 585),none,(.ref 337),.none,0⟩),#[]⟩ : Obj)) _ _ _ rfl
noncomputable def fo458_treeE (P : Params) : Obj := (fun (p : Arguments) (b : List Stmt) (s : Scope) (_ : fnAt 29 = (p, b, s)) => (⟨(.type "function"),none,(.func ⟨"_law_gone","_law_gone",p,(.stmts b),s,3,[],.none,.none,.none,(.str "law_pc0376_01" 722),none,(.ref 457),.none,0⟩),#[]⟩ : Obj)) _ _ _ rfl
noncomputable def fo362_treeE (P : Params) : Obj := (fun (p : Arguments) (b : List Stmt) (s : Scope) (_ : meAt 19 0 = (p, b, s)) => (⟨.none,none,(.func ⟨"__init__","StrictQueues.__init__",p,(.stmts b),s,0,[],.none,.none,.none,.none,none,.none,.none,0⟩),#[]⟩ : Obj)) _ _ _ rfl
noncomputable def fo282_treeE (P : Params) : Obj := (fun (p : Arguments) (b : List Stmt) (s : Scope) (_ : meAt 15 1 = (p, b, s)) => (⟨(.type "function"),none,(.func ⟨"heard","PauseState.heard",p,(.stmts b),s,3,[],.none,.none,.none,(.str "switchloom.pause" 493),none,(.ref 281),.none,0⟩),#[]⟩ : Obj)) _ _ _ rfl
noncomputable def fo442_treeE (P : Params) : Obj := (fun (p : Arguments) (b : List Stmt) (s : Scope) (_ : fnAt 27 = (p, b, s)) => (⟨.none,none,(.func ⟨"_law_asked","_law_asked",p,(.stmts b),s,0,[],.none,.none,.none,.none,none,.none,.none,0⟩),#[]⟩ : Obj)) _ _ _ rfl
noncomputable def fo390_treeE (P : Params) : Obj := (fun (p : Arguments) (b : List Stmt) (s : Scope) (_ : meAt 19 4 = (p, b, s)) => (⟨.none,none,(.func ⟨"waiting","StrictQueues.waiting",p,(.stmts b),s,0,[],.none,.none,.none,.none,none,.none,.none,0⟩),#[]⟩ : Obj)) _ _ _ rfl
noncomputable def fo406_treeE (P : Params) : Obj := (fun (p : Arguments) (b : List Stmt) (s : Scope) (_ : fnAt 21 = (p, b, s)) => (⟨(.type "function"),none,(.func ⟨"_law_source","_law_source",p,(.stmts b),s,3,[],.none,.none,.none,(.str "law_pc0376_01" 722),none,(.ref 405),.none,0⟩),#[]⟩ : Obj)) _ _ _ rfl
noncomputable def fo470_treeE (P : Params) : Obj := (fun (p : Arguments) (b : List Stmt) (s : Scope) (_ : fnAt 31 = (p, b, s)) => (⟨(.type "function"),none,(.func ⟨"_law_fixed_right","_law_fixed_right",p,(.stmts b),s,3,[],.none,.none,.none,(.str "law_pc0376_01" 722),none,(.ref 469),.none,0⟩),#[]⟩ : Obj)) _ _ _ rfl
noncomputable def fo310_treeE (P : Params) : Obj := (fun (p : Arguments) (b : List Stmt) (s : Scope) (_ : meAt 17 0 = (p, b, s)) => (⟨(.type "function"),none,(.func ⟨"__init__","QueueRow.__init__",p,(.stmts b),s,3,[],.none,.none,.none,(.str "switchloom.queues" 585),none,(.ref 309),.none,0⟩),#[]⟩ : Obj)) _ _ _ rfl
noncomputable def fo430_treeE (P : Params) : Obj := (fun (p : Arguments) (b : List Stmt) (s : Scope) (_ : fnAt 25 = (p, b, s)) => (⟨(.type "function"),none,(.func ⟨"_law_head","_law_head",p,(.stmts b),s,3,[],.none,.none,.none,(.str "law_pc0376_01" 722),none,(.ref 429),.none,0⟩),#[]⟩ : Obj)) _ _ _ rfl
noncomputable def fo350_treeE (P : Params) : Obj := (fun (p : Arguments) (b : List Stmt) (s : Scope) (_ : fnAt 18 = (p, b, s)) => (⟨.none,none,(.func ⟨"may_go","may_go",p,(.stmts b),s,0,[],.none,.none,.none,.none,none,.none,.none,0⟩),#[]⟩ : Obj)) _ _ _ rfl
/-- the objects at a cut of the run -/
noncomputable def treeE (P : Params) : BT :=
  (.node (boot_o_0 P) (.node (boot_o_1 P) (.node ⟨(.type "dict"),none,(.dict #[⟨(PyData.keyHash P "__name__"),(.str "__name__" 165),(.str "law_pc0376_01" 722)⟩,⟨(PyData.keyHash P "__doc__"),(.str "__doc__" 166),.none⟩,⟨(PyData.keyHash P "__package__"),(.str "__package__" 167),.none⟩,⟨(PyData.keyHash P "__loader__"),(.str "__loader__" 168),(.builtin "__main__.__loader__#opaque")⟩,⟨(PyData.keyHash P "__spec__"),(.str "__spec__" 169),.none⟩,⟨(PyData.keyHash P "__annotations__"),(.str "__annotations__" 170),(.ref 6)⟩,⟨(PyData.keyHash P "__builtins__"),(.str "__builtins__" 171),(.ref 4)⟩,⟨(PyData.keyHash P "__file__"),(.str "__file__" 173),(.str "/claim/cut.py" 172)⟩,⟨(PyData.keyHash P "__cached__"),(.str "__cached__" 174),.none⟩,⟨(PyData.keyHash P "_wall"),(.str "_wall" 193),(.ref 21)⟩,⟨(PyData.keyHash P "SwitchError"),(.str "SwitchError" 224),(.ref 38)⟩,⟨(PyData.keyHash P "SizeError"),(.str "SizeError" 240),(.ref 51)⟩,⟨(PyData.keyHash P "SettingError"),(.str "SettingError" 267),(.ref 71)⟩,⟨(PyData.keyHash P "GRAINS"),(.str "GRAINS" 271),(.int 100 270)⟩,⟨(PyData.keyHash P "Bucket"),(.str "Bucket" 365),(.ref 139)⟩,⟨(PyData.keyHash P "Shaper"),(.str "Shaper" 424),(.ref 181)⟩,⟨(PyData.keyHash P "PortOut"),(.str "PortOut" 492),(.ref 229)⟩,⟨(PyData.keyHash P "PRIORITIES"),(.str "PRIORITIES" 496),(.int 8 495)⟩,⟨(PyData.keyHash P "PauseFrame"),(.str "PauseFrame" 525),(.ref 250)⟩,⟨(PyData.keyHash P "time_behind"),(.str "time_behind" 534),(.ref 261)⟩,⟨(PyData.keyHash P "PauseState"),(.str "PauseState" 584),(.ref 292)⟩,⟨(PyData.keyHash P "QueueRow"),(.str "QueueRow" 651),(.ref 341)⟩,⟨(PyData.keyHash P "may_go"),(.str "may_go" 660),(.ref 352)⟩,⟨(PyData.keyHash P "StrictQueues"),(.str "StrictQueues" 721),(.ref 395)⟩,⟨(PyData.keyHash P "_law_source"),(.str "_law_source" 731),(.ref 406)⟩,⟨(PyData.keyHash P "_law_next"),(.str "_law_next" 740),(.ref 413)⟩,⟨(PyData.keyHash P "_law_pick"),(.str "_law_pick" 748),(.ref 420)⟩,⟨(PyData.keyHash P "_law_pause"),(.str "_law_pause" 754),(.ref 425)⟩,⟨(PyData.keyHash P "_law_head"),(.str "_law_head" 760),(.ref 430)⟩,⟨(PyData.keyHash P "_law_filled"),(.str "_law_filled" 768),(.ref 437)⟩,⟨(PyData.keyHash P "_law_asked"),(.str "_law_asked" 776),(.ref 444)⟩,⟨(PyData.keyHash P "_law_due_time"),(.str "_law_due_time" 786),(.ref 451)⟩,⟨(PyData.keyHash P "_law_gone"),(.str "_law_gone" 799),(.ref 458)⟩,⟨(PyData.keyHash P "_law_bounded"),(.str "_law_bounded" 805),(.ref 463)⟩,⟨(PyData.keyHash P "_law_fixed_right"),(.str "_law_fixed_right" 812),(.ref 470)⟩,⟨(PyData.keyHash P "law"),(.str "law" 818),(.ref 475)⟩] 36),#[]⟩ (.node (boot_o_7 P) (.node ⟨(.type "tuple"),none,(.seq #[] 0),#[]⟩ (.node ⟨(.type "tuple"),none,(.seq #[(.str "self" 211),(.str "message" 212)] 0),#[]⟩ (.node ⟨.none,none,(.fields #[]),#[]⟩ (.node (fo127_treeM P) (.node ⟨(.type "tuple"),none,(.seq #[] 0),#[]⟩ .nil .nil) (.node ⟨(.type "tuple"),none,(.seq #[(.str "self" 701),(.str "allowed" 702),(.str "found" 703)] 0),#[]⟩ .nil .nil)) (.node ⟨(.type "code"),none,(.fields #[(.str "PortOut" 427),(.str "PortOut" 428),(.str "/claim/cut.py" 429),(.int 82 0),(.int 0 0),(.int 0 0),(.int 0 0),(.int 0 0),(.ref 189),(.bool false),(.int 181 0),(.ref 190),.none,.none,.none,.none,(.int 430 0),(.int 82 0),(.str "/claim/cut.py" 431)]),#[]⟩ (.node ⟨.none,none,(.fields #[]),#[]⟩ .nil .nil) (.node ⟨(.type "tuple"),none,(.seq #[(.str "own" 780),(.str "size" 781),(.str "now" 782),(.str "lack" 783)] 0),#[]⟩ .nil .nil))) (.node ⟨(.type "tuple"),none,(.seq #[] 0),#[]⟩ (.node ⟨.none,none,(.fields #[]),#[]⟩ (.node (fo287_treeE P) .nil .nil) (.node ⟨.none,none,(.fields #[]),#[]⟩ .nil .nil)) (.node ⟨(.type "tuple"),none,(.seq #[] 0),#[]⟩ (.node ⟨(.type "code"),none,(.fields #[(.str "may_go" 652),(.str "may_go" 653),(.str "/claim/cut.py" 654),(.int 163 0),(.int 3 0),(.int 0 0),(.int 0 0),(.int 3 0),(.ref 346),(.bool true),(.int 181 0),(.ref 347),.none,(.ref 348),(.ref 349),(.ref 350),(.int 658 0),(.int 163 0),(.str "/claim/cut.py" 659)]),#[]⟩ .nil .nil) .nil))) (.node ⟨(.type "code"),none,(.fields #[(.str "SizeError" 227),(.str "SizeError" 228),(.str "/claim/cut.py" 229),(.int 10 0),(.int 0 0),(.int 0 0),(.int 0 0),(.int 0 0),(.ref 45),(.bool false),(.int 181 0),(.ref 46),.none,.none,.none,.none,(.int 230 0),(.int 10 0),(.str "/claim/cut.py" 231)]),#[]⟩ (.node ⟨(.type "code"),none,(.fields #[(.str "Bucket" 274),(.str "Bucket" 275),(.str "/claim/cut.py" 276),(.int 19 0),(.int 0 0),(.int 0 0),(.int 0 0),(.int 0 0),(.ref 77),(.bool false),(.int 181 0),(.ref 78),.none,.none,.none,.none,(.int 277 0),(.int 19 0),(.str "/claim/cut.py" 278)]),#[]⟩ (.node ⟨(.type "builtin_function_or_method"),none,(.fields #[(.builtin "object.__init_subclass__"),(.ref 139)]),#[]⟩ (.node ⟨(.type "tuple"),none,(.seq #[(.str "self" 550),(.str "tick" 551)] 0),#[]⟩ .nil .nil) (.node ⟨(.type "builtin_function_or_method"),none,(.fields #[(.builtin "object.__init_subclass__"),(.ref 395)]),#[]⟩ .nil .nil)) (.node ⟨.none,none,(.fields #[]),#[]⟩ (.node ⟨(.type "tuple"),none,(.seq #[] 0),#[]⟩ .nil .nil) (.node (fo463_treeE P) .nil .nil))) (.node ⟨(.type "tuple"),none,(.seq #[(.str "self" 322),(.str "size" 323)] 0),#[]⟩ (.node ⟨(.type "tuple"),none,(.seq #[] 0),#[]⟩ (.node ⟨(.type "frame"),none,.plain,#[(some (.ref 302)),(some (.ref 3)),(some (.ref 299)),none,(some (.str "switchloom.queues" 585)),none,(some (.ref 0))]⟩ .nil .nil) (.node ⟨(.type "tuple"),none,(.seq #[] 0),#[]⟩ .nil .nil)) (.node ⟨(.type "code"),none,(.fields #[(.str "PauseFrame" 499),(.str "PauseFrame" 500),(.str "/claim/cut.py" 501),(.int 111 0),(.int 0 0),(.int 0 0),(.int 0 0),(.int 0 0),(.ref 237),(.bool false),(.int 181 0),(.ref 238),.none,.none,.none,.none,(.int 502 0),(.int 111 0),(.str "/claim/cut.py" 503)]),#[]⟩ (.node ⟨(.type "tuple"),none,(.seq #[(.str "self" 682),(.str "number" 683),(.str "size" 684),(.str "thing" 685)] 0),#[]⟩ .nil .nil) .nil)))) (.node ⟨(.type "builtin_function_or_method"),none,(.fields #[(.builtin "type.__prepare__"),(.type "type")]),#[]⟩ (.node ⟨(.type "getset_descriptor"),none,(.fields #[(.str "__weakref__" 218),(.ref 38),(.builtin "ExceptionGroup.__weakref__"),.none]),#[]⟩ (.node ⟨(.type "type"),none,(.cls ⟨"SettingError",[(.ref 38)],[(.ref 71),(.ref 38),(.type "Exception"),(.type "BaseException"),(.type "object")],70,"SettingError",true,[],[],false,none,false⟩),#[(some (.ref 54)),none,(some (.str "SettingError" 241)),(some (.str "SettingError" 249)),(some (.builtin "Exception.__new__")),(some (.bool true))]⟩ (.node ⟨(.type "code"),none,(.fields #[(.str "wait" 344),(.str "Bucket.wait" 345),(.str "/claim/cut.py" 346),(.int 56 0),(.int 3 0),(.int 0 0),(.int 0 0),(.int 3 0),(.ref 130),(.bool true),(.int 181 0),(.ref 131),.none,(.ref 132),(.ref 133),(.ref 134),(.int 351 0),(.int 56 0),(.str "/claim/cut.py" 352)]),#[]⟩ (.node ⟨(.type "builtin_function_or_method"),none,(.fields #[(.builtin "type.__prepare__"),(.type "type")]),#[]⟩ .nil .nil) (.node ⟨(.type "code"),none,(.fields #[(.str "waiting" 707),(.str "StrictQueues.waiting" 708),(.str "/claim/cut.py" 709),(.int 185 0),(.int 1 0),(.int 0 0),(.int 0 0),(.int 3 0),(.ref 388),(.bool true),(.int 181 0),(.ref 389),.none,.none,.none,(.ref 390),(.int 710 0),(.int 185 0),(.str "/claim/cut.py" 711)]),#[]⟩ .nil .nil)) (.node ⟨(.type "code"),none,(.fields #[(.str "__init__" 437),(.str "PortOut.__init__" 438),(.str "/claim/cut.py" 439),(.int 84 0),(.int 4 0),(.int 0 0),(.int 0 0),(.int 3 0),(.ref 194),(.bool true),(.int 181 0),(.ref 195),.none,(.ref 196),(.ref 197),(.ref 198),(.int 444 0),(.int 84 0),(.str "/claim/cut.py" 445)]),#[]⟩ (.node ⟨(.type "tuple"),none,(.seq #[(.str "self" 627)] 0),#[]⟩ .nil .nil) (.node ⟨(.type "tuple"),none,(.seq #[] 0),#[]⟩ .nil .nil))) (.node ⟨.none,none,(.fields #[]),#[]⟩ (.node ⟨(.type "tuple"),none,(.seq #[(.str "self" 400),(.str "size" 401),(.str "now" 402),(.str "found" 403)] 0),#[]⟩ (.node ⟨(.type "super"),none,(.fields #[(.ref 292),(.ref 292),(.ref 292)]),#[]⟩ .nil .nil) (.node (fo423_treeE P) .nil .nil)) (.node ⟨(.type "getset_descriptor"),none,(.fields #[(.str "__weakref__" 488),(.ref 229),(.builtin "ExceptionGroup.__weakref__"),.none]),#[]⟩ (.node ⟨(.type "frame"),none,.plain,#[(some (.ref 358)),(some (.ref 3)),(some (.ref 355)),none,(some (.str "switchloom.queues" 585)),none,(some (.ref 0))]⟩ .nil .nil) .nil))) (.node ⟨(.type "builtin_function_or_method"),none,(.fields #[(.builtin "type.__prepare__"),(.type "type")]),#[]⟩ (.node (fo87_treeM P) (.node ⟨(.type "tuple"),none,(.seq #[] 0),#[]⟩ (.node ⟨(.type "tuple"),none,(.seq #[] 0),#[]⟩ .nil .nil) (.node ⟨(.type "tuple"),none,(.seq #[] 0),#[]⟩ .nil .nil)) (.node ⟨(.type "tuple"),none,(.seq #[(.str "self" 466),(.str "now" 467),(.str "allowed" 468),(.str "found" 469)] 0),#[]⟩ (.node ⟨(.type "getset_descriptor"),none,(.fields #[(.str "__weakref__" 647),(.ref 341),(.builtin "ExceptionGroup.__weakref__"),.none]),#[]⟩ .nil .nil) (.node ⟨(.type "tuple"),none,(.seq #[] 0),#[]⟩ .nil .nil))) (.node ⟨(.type "tuple"),none,(.seq #[] 0),#[]⟩ (.node ⟨(.type "getset_descriptor"),none,(.fields #[(.str "__weakref__" 420),(.ref 181),(.builtin "ExceptionGroup.__weakref__"),.none]),#[]⟩ (.node ⟨(.type "tuple"),none,(.seq #[] 0),#[]⟩ .nil .nil) (.node ⟨.none,none,(.fields #[]),#[]⟩ .nil .nil)) (.node (fo247_treeE P) (.node ⟨(.type "tuple"),none,(.seq #[(.str "self" 692),(.str "allowed" 693),(.str "number" 694)] 0),#[]⟩ .nil .nil) .nil))))) (.node ⟨(.type "tuple"),none,(.seq #[] 0),#[]⟩ (.node (fo19_treeM P) (.node (fo35_treeM P) (.node ⟨(.type "code"),none,(.fields #[(.str "__init__" 254),(.str "SettingError.__init__" 255),(.str "/claim/cut.py" 256),(.int 14 0),(.int 3 0),(.int 0 0),(.int 0 0),(.int 3 0),(.ref 62),(.bool true),(.int 181 0),(.ref 63),.none,(.ref 64),(.ref 65),(.ref 66),(.int 260 0),(.int 14 0),(.str "/claim/cut.py" 261)]),#[]⟩ (.node ⟨.none,none,(.fields #[]),#[]⟩ (.node (fo259_treeE P) .nil .nil) (.node (fo387_treeE P) .nil .nil)) (.node ⟨.none,none,(.fields #[]),#[]⟩ (.node ⟨(.type "code"),none,(.fields #[(.str "is_empty" 617),(.str "QueueRow.is_empty" 618),(.str "/claim/cut.py" 619),(.int 153 0),(.int 1 0),(.int 0 0),(.int 0 0),(.int 3 0),(.ref 318),(.bool true),(.int 181 0),(.ref 319),.none,(.ref 320),(.ref 321),(.ref 322),(.int 621 0),(.int 153 0),(.str "/claim/cut.py" 622)]),#[]⟩ .nil .nil) (.node (fo451_treeE P) .nil .nil))) (.node (fo99_treeM P) (.node ⟨(.type "code"),none,(.fields #[(.str "asked_size" 389),(.str "Shaper.asked_size" 390),(.str "/claim/cut.py" 391),(.int 70 0),(.int 2 0),(.int 0 0),(.int 0 0),(.int 3 0),(.ref 158),(.bool true),(.int 181 0),(.ref 159),.none,(.ref 160),(.ref 161),(.ref 162),(.int 394 0),(.int 70 0),(.str "/claim/cut.py" 395)]),#[]⟩ (.node ⟨(.type "dict"),none,(.dict #[⟨(PyData.keyHash P "__module__"),(.str "__module__" 542),(.str "switchloom.pause" 493)⟩,⟨(PyData.keyHash P "__firstlineno__"),(.str "__firstlineno__" 546),(.int 117 545)⟩,⟨(PyData.keyHash P "__init__"),(.str "__init__" 554),(.ref 275)⟩,⟨(PyData.keyHash P "heard"),(.str "heard" 565),(.ref 282)⟩,⟨(PyData.keyHash P "may_send"),(.str "may_send" 574),(.ref 289)⟩,⟨(PyData.keyHash P "__static_attributes__"),(.str "__static_attributes__" 577),(.ref 290)⟩,⟨(PyData.keyHash P "__dict__"),(.str "__dict__" 579),(.ref 293)⟩,⟨(PyData.keyHash P "__weakref__"),(.str "__weakref__" 581),(.ref 294)⟩,⟨(PyData.keyHash P "__doc__"),(.str "__doc__" 582),.none⟩] 4),#[]⟩ .nil .nil) (.node ⟨(.type "code"),none,(.fields #[(.str "_law_pick" 741),(.str "_law_pick" 742),(.str "/claim/cut.py" 743),(.int 197 0),(.int 2 0),(.int 0 0),(.int 0 0),(.int 3 0),(.ref 414),(.bool true),(.int 181 0),(.ref 415),.none,(.ref 416),(.ref 417),(.ref 418),(.int 746 0),(.int 197 0),(.str "/claim/cut.py" 747)]),#[]⟩ .nil .nil)) (.node ⟨(.type "tuple"),none,(.seq #[(.str "pause" 482),(.str "queues" 483),(.str "shaper" 484)] 0),#[]⟩ (.node ⟨(.type "dict"),none,(.dict #[⟨(PyData.keyHash P "__module__"),(.str "__module__" 668),(.str "switchloom.queues" 585)⟩,⟨(PyData.keyHash P "__qualname__"),(.str "__qualname__" 670),(.str "StrictQueues" 669)⟩,⟨(PyData.keyHash P "__firstlineno__"),(.str "__firstlineno__" 672),(.int 165 671)⟩,⟨(PyData.keyHash P "__init__"),(.str "__init__" 678),(.ref 364)⟩,⟨(PyData.keyHash P "put"),(.str "put" 688),(.ref 371)⟩,⟨(PyData.keyHash P "look"),(.str "look" 697),(.ref 379)⟩,⟨(PyData.keyHash P "take"),(.str "take" 706),(.ref 387)⟩,⟨(PyData.keyHash P "waiting"),(.str "waiting" 712),(.ref 392)⟩,⟨(PyData.keyHash P "__static_attributes__"),(.str "__static_attributes__" 714),(.ref 393)⟩] 9),#[]⟩ .nil .nil) .nil))) (.node ⟨(.type "type"),none,(.cls ⟨"SizeError",[(.ref 38)],[(.ref 51),(.ref 38),(.type "Exception"),(.type "BaseException"),(.type "object")],50,"SizeError",true,[],[],false,none,false⟩),#[(some (.ref 42)),none,(some (.str "SizeError" 225)),(some (.str "SizeError" 233)),(some (.builtin "Exception.__new__")),(some (.bool true))]⟩ (.node ⟨(.type "tuple"),none,(.seq #[(.str "self" 287),(.str "rate" 288),(.str "burst" 289)] 0),#[]⟩ (.node ⟨(.type "tuple"),none,(.seq #[] 0),#[]⟩ (.node (fo275_treeE P) .nil .nil) (.node ⟨(.type "tuple"),none,(.seq #[] 0),#[]⟩ .nil .nil)) (.node ⟨(.type "code"),none,(.fields #[(.str "put" 453),(.str "PortOut.put" 454),(.str "/claim/cut.py" 455),(.int 94 0),(.int 4 0),(.int 0 0),(.int 0 0),(.int 3 0),(.ref 206),(.bool true),(.int 181 0),(.ref 207),.none,(.ref 208),(.ref 209),(.ref 210),(.int 460 0),(.int 94 0),(.str "/claim/cut.py" 461)]),#[]⟩ (.node ⟨(.type "tuple"),none,(.seq #[(.str "dropped" 639),(.str "most" 640),(.str "most_octets" 641),(.str "octets" 642),(.str "things" 643)] 0),#[]⟩ .nil .nil) (.node ⟨(.type "tuple"),none,(.seq #[] 0),#[]⟩ .nil .nil))) (.node (fo115_treeM P) (.node ⟨(.type "tuple"),none,(.seq #[(.str "bucket" 416)] 0),#[]⟩ (.node ⟨(.type "tuple"),none,(.seq #[] 0),#[]⟩ .nil .nil) (.node (fo435_treeE P) .nil .nil)) (.node ⟨(.type "tuple"),none,(.seq #[(.str "self" 512),(.str "times" 513)] 0),#[]⟩ (.node (fo371_treeE P) .nil .nil) .nil)))) (.node ⟨(.type "code"),none,(.fields #[(.str "SwitchError" 198),(.str "SwitchError" 199),(.str "/claim/cut.py" 200),(.int 5 0),(.int 0 0),(.int 0 0),(.int 0 0),(.int 0 0),(.ref 25),(.bool false),(.int 181 0),(.ref 26),.none,.none,.none,.none,(.int 201 0),(.int 5 0),(.str "/claim/cut.py" 202)]),#[]⟩ (.node ⟨(.type "builtin_function_or_method"),none,(.fields #[(.builtin "type.__prepare__"),(.type "type")]),#[]⟩ (.node ⟨(.type "builtin_function_or_method"),none,(.fields #[(.builtin "type.__prepare__"),(.type "type")]),#[]⟩ (.node ⟨(.type "type"),none,(.cls ⟨"Bucket",[(.type "object")],[(.ref 139),(.type "object")],138,"Bucket",true,[],[],false,none,false⟩),#[none,none,(some (.str "Bucket" 272)),(some (.str "Bucket" 280)),(some (.builtin "object.__new__")),(some (.bool true))]⟩ (.node ⟨(.type "code"),none,(.fields #[(.str "PauseState" 537),(.str "PauseState" 538),(.str "/claim/cut.py" 539),(.int 117 0),(.int 0 0),(.int 0 0),(.int 0 0),(.int 0 0),(.ref 265),(.bool false),(.int 181 0),(.ref 266),.none,.none,.none,.none,(.int 540 0),(.int 117 0),(.str "/claim/cut.py" 541)]),#[]⟩ .nil .nil) (.node ⟨(.type "type"),none,(.cls ⟨"StrictQueues",[(.type "object")],[(.ref 395),(.type "object")],394,"StrictQueues",true,[],[],false,none,false⟩),#[none,none,(some (.str "StrictQueues" 661)),(some (.str "StrictQueues" 669)),(some (.builtin "object.__new__")),(some (.bool true))]⟩ .nil .nil)) (.node (fo203_treeM P) (.node (fo331_treeE P) .nil .nil) (.node ⟨(.type "tuple"),none,(.seq #[] 0),#[]⟩ .nil .nil))) (.node ⟨(.type "code"),none,(.fields #[(.str "has" 310),(.str "Bucket.has" 311),(.str "/claim/cut.py" 312),(.int 40 0),(.int 3 0),(.int 0 0),(.int 0 0),(.int 3 0),(.ref 102),(.bool true),(.int 181 0),(.ref 103),.none,(.ref 104),(.ref 105),(.ref 106),(.int 316 0),(.int 40 0),(.str "/claim/cut.py" 317)]),#[]⟩ (.node (fo171_treeM P) (.node ⟨(.type "dict"),none,(.dict #[⟨(PyData.keyHash P "__module__"),(.str "__module__" 594),(.str "switchloom.queues" 585)⟩,⟨(PyData.keyHash P "__qualname__"),(.str "__qualname__" 596),(.str "QueueRow" 595)⟩,⟨(PyData.keyHash P "__firstlineno__"),(.str "__firstlineno__" 598),(.int 134 597)⟩,⟨(PyData.keyHash P "__init__"),(.str "__init__" 607),(.ref 310)⟩,⟨(PyData.keyHash P "put"),(.str "put" 616),(.ref 317)⟩,⟨(PyData.keyHash P "is_empty"),(.str "is_empty" 623),(.ref 324)⟩,⟨(PyData.keyHash P "head_size"),(.str "head_size" 630),(.ref 331)⟩,⟨(PyData.keyHash P "take"),(.str "take" 638),(.ref 338)⟩,⟨(PyData.keyHash P "__static_attributes__"),(.str "__static_attributes__" 644),(.ref 339)⟩] 9),#[]⟩ .nil .nil) (.node ⟨.none,none,(.fields #[]),#[]⟩ .nil .nil)) (.node ⟨(.type "builtin_function_or_method"),none,(.fields #[(.builtin "type.__prepare__"),(.type "type")]),#[]⟩ (.node ⟨(.type "code"),none,(.fields #[(.str "__init__" 673),(.str "StrictQueues.__init__" 674),(.str "/claim/cut.py" 675),(.int 167 0),(.int 2 0),(.int 0 0),(.int 0 0),(.int 3 0),(.ref 360),(.bool true),(.int 181 0),(.ref 361),.none,.none,.none,(.ref 362),(.int 676 0),(.int 167 0),(.str "/claim/cut.py" 677)]),#[]⟩ .nil .nil) .nil))) (.node ⟨(.type "code"),none,(.fields #[(.str "SettingError" 243),(.str "SettingError" 244),(.str "/claim/cut.py" 245),(.int 12 0),(.int 0 0),(.int 0 0),(.int 0 0),(.int 0 0),(.ref 57),(.bool false),(.int 181 0),(.ref 58),.none,.none,.none,.none,(.int 246 0),(.int 12 0),(.str "/claim/cut.py" 247)]),#[]⟩ (.node ⟨(.type "tuple"),none,(.seq #[] 0),#[]⟩ (.node (fo155_treeM P) (.node ⟨(.type "tuple"),none,(.seq #[] 0),#[]⟩ .nil .nil) (.node (fo411_treeE P) .nil .nil)) (.node (fo219_treeM P) (.node ⟨.none,none,(.fields #[]),#[]⟩ .nil .nil) (.node (fo475_treeE P) .nil .nil))) (.node ⟨(.type "tuple"),none,(.seq #[] 0),#[]⟩ (.node ⟨(.type "builtin_function_or_method"),none,(.fields #[(.builtin "type.__prepare__"),(.type "type")]),#[]⟩ (.node (fo315_treeE P) .nil .nil) (.node ⟨(.type "code"),none,(.fields #[(.str "_law_asked" 769),(.str "_law_asked" 770),(.str "/claim/cut.py" 771),(.int 209 0),(.int 2 0),(.int 0 0),(.int 0 0),(.int 3 0),(.ref 438),(.bool true),(.int 181 0),(.ref 439),.none,(.ref 440),(.ref 441),(.ref 442),(.int 774 0),(.int 209 0),(.str "/claim/cut.py" 775)]),#[]⟩ .nil .nil)) (.node ⟨(.type "getset_descriptor"),none,(.fields #[(.str "__dict__" 519),(.ref 250),(.builtin "function.__dict__"),(.builtin "function.__dict__#set")]),#[]⟩ (.node (fo379_treeE P) .nil .nil) .nil)))))) (.node (boot_o_5 P) (.node (boot_o_9 P) (.node ⟨(.type "tuple"),none,(.seq #[(.str "k" 190)] 0),#[]⟩ (.node (fo33_treeM P) (.node ⟨(.type "tuple"),none,(.seq #[] 0),#[]⟩ (.node (fo129_treeM P) (.node ⟨(.type "tuple"),none,(.seq #[(.str "now" 529),(.str "time" 530),(.str "tick" 531)] 0),#[]⟩ .nil .nil) (.node (fo385_treeE P) .nil .nil)) (.node ⟨(.type "tuple"),none,(.seq #[.none,.none] 0),#[]⟩ (.node ⟨(.type "tuple"),none,(.seq #[] 0),#[]⟩ .nil .nil) (.node (fo449_treeE P) .nil .nil))) (.node ⟨(.type "tuple"),none,(.seq #[(.str "self" 305),(.str "now" 306)] 0),#[]⟩ (.node ⟨(.type "tuple"),none,(.seq #[] 0),#[]⟩ (.node (fo289_treeE P) .nil .nil) (.node ⟨(.type "tuple"),none,(.seq #[] 0),#[]⟩ .nil .nil)) (.node ⟨(.type "code"),none,(.fields #[(.str "when" 473),(.str "PortOut.when" 474),(.str "/claim/cut.py" 475),(.int 104 0),(.int 2 0),(.int 0 0),(.int 0 0),(.int 3 0),(.ref 220),(.bool true),(.int 181 0),(.ref 221),.none,(.ref 222),(.ref 223),(.ref 224),(.int 479 0),(.int 104 0),(.str "/claim/cut.py" 480)]),#[]⟩ (.node ⟨(.type "tuple"),none,(.seq #[] 0),#[]⟩ .nil .nil) .nil))) (.node ⟨(.type "tuple"),none,(.seq #[] 0),#[]⟩ (.node ⟨(.type "tuple"),none,(.seq #[] 0),#[]⟩ (.node ⟨(.type "builtin_function_or_method"),none,(.fields #[(.builtin "type.__prepare__"),(.type "type")]),#[]⟩ (.node (fo273_treeE P) .nil .nil) (.node ⟨.none,none,(.fields #[]),#[]⟩ .nil .nil)) (.node ⟨(.type "tuple"),none,(.seq #[] 0),#[]⟩ (.node ⟨(.type "code"),none,(.fields #[(.str "take" 631),(.str "QueueRow.take" 632),(.str "/claim/cut.py" 633),(.int 159 0),(.int 1 0),(.int 0 0),(.int 0 0),(.int 3 0),(.ref 332),(.bool true),(.int 181 0),(.ref 333),.none,(.ref 334),(.ref 335),(.ref 336),(.int 636 0),(.int 159 0),(.str "/claim/cut.py" 637)]),#[]⟩ .nil .nil) (.node ⟨.none,none,(.fields #[]),#[]⟩ .nil .nil))) (.node (fo113_treeM P) (.node ⟨(.type "code"),none,(.fields #[(.str "sent" 407),(.str "Shaper.sent" 408),(.str "/claim/cut.py" 409),(.int 77 0),(.int 3 0),(.int 0 0),(.int 0 0),(.int 3 0),(.ref 172),(.bool true),(.int 181 0),(.ref 173),.none,(.ref 174),(.ref 175),(.ref 176),(.int 413 0),(.int 77 0),(.str "/claim/cut.py" 414)]),#[]⟩ (.node ⟨.none,none,(.fields #[]),#[]⟩ .nil .nil) (.node ⟨(.type "tuple"),none,(.seq #[(.str "own" 764),(.str "now" 765)] 0),#[]⟩ .nil .nil)) (.node ⟨(.type "tuple"),none,(.seq #[] 0),#[]⟩ (.node (fo369_treeE P) .nil .nil) .nil)))) (.node ⟨(.type "tuple"),none,(.seq #[] 0),#[]⟩ (.node ⟨(.type "builtin_function_or_method"),none,(.fields #[(.builtin "object.__init_subclass__"),(.ref 38)]),#[]⟩ (.node ⟨(.type "builtin_function_or_method"),none,(.fields #[(.builtin "object.__init_subclass__"),(.ref 71)]),#[]⟩ (.node ⟨(.type "tuple"),none,(.seq #[(.str "burst" 354),(.str "grains" 355),(.str "rate" 356),(.str "time" 357)] 0),#[]⟩ (.node ⟨(.type "tuple"),none,(.seq #[] 0),#[]⟩ .nil .nil) (.node ⟨(.type "tuple"),none,(.seq #[(.str "rows" 713)] 0),#[]⟩ .nil .nil)) (.node ⟨(.type "tuple"),none,(.seq #[] 0),#[]⟩ (.node (fo329_treeE P) .nil .nil) (.node ⟨(.type "code"),none,(.fields #[(.str "_law_gone" 787),(.str "_law_gone" 788),(.str "/claim/cut.py" 789),(.int 216 0),(.int 4 0),(.int 0 0),(.int 0 0),(.int 3 0),(.ref 452),(.bool true),(.int 181 0),(.ref 453),.none,(.ref 454),(.ref 455),(.ref 456),(.int 797 0),(.int 216 0),(.str "/claim/cut.py" 798)]),#[]⟩ .nil .nil))) (.node ⟨(.type "tuple"),none,(.seq #[] 0),#[]⟩ (.node (fo169_treeM P) (.node ⟨(.type "tuple"),none,(.seq #[] 0),#[]⟩ .nil .nil) (.node (fo425_treeE P) .nil .nil)) (.node ⟨(.type "builtin_function_or_method"),none,(.fields #[(.builtin "object.__init_subclass__"),(.ref 229)]),#[]⟩ (.node ⟨.none,none,(.fields #[]),#[]⟩ .nil .nil) .nil))) (.node ⟨(.type "tuple"),none,(.seq #[] 0),#[]⟩ (.node ⟨.none,none,(.fields #[]),#[]⟩ (.node ⟨(.type "tuple"),none,(.seq #[(.str "self" 383),(.str "rate" 384),(.str "burst" 385)] 0),#[]⟩ (.node ⟨(.type "code"),none,(.fields #[(.str "heard" 555),(.str "PauseState.heard" 556),(.str "/claim/cut.py" 557),(.int 125 0),(.int 3 0),(.int 0 0),(.int 0 0),(.int 3 0),(.ref 276),(.bool true),(.int 181 0),(.ref 277),.none,(.ref 278),(.ref 279),(.ref 280),(.int 563 0),(.int 125 0),(.str "/claim/cut.py" 564)]),#[]⟩ .nil .nil) (.node ⟨(.type "tuple"),none,(.seq #[(.str "source" 735),(.str "top" 736),(.str "digit" 737)] 0),#[]⟩ .nil .nil)) (.node (fo217_treeM P) (.node ⟨(.type "builtin_function_or_method"),none,(.fields #[(.builtin "object.__init_subclass__"),(.ref 341)]),#[]⟩ .nil .nil) (.node (fo473_treeE P) .nil .nil))) (.node ⟨(.type "code"),none,(.fields #[(.str "take" 327),(.str "Bucket.take" 328),(.str "/claim/cut.py" 329),(.int 47 0),(.int 3 0),(.int 0 0),(.int 0 0),(.int 3 0),(.ref 116),(.bool true),(.int 181 0),(.ref 117),.none,(.ref 118),(.ref 119),(.ref 120),(.int 333 0),(.int 47 0),(.str "/claim/cut.py" 334)]),#[]⟩ (.node ⟨(.type "builtin_function_or_method"),none,(.fields #[(.builtin "object.__init_subclass__"),(.ref 181)]),#[]⟩ (.node ⟨(.type "tuple"),none,(.seq #[(.str "self" 611),(.str "size" 612),(.str "thing" 613)] 0),#[]⟩ .nil .nil) (.node ⟨(.type "tuple"),none,(.seq #[] 0),#[]⟩ .nil .nil)) (.node ⟨(.type "dict"),none,(.dict #[⟨(PyData.keyHash P "__module__"),(.str "__module__" 504),(.str "switchloom.pause" 493)⟩,⟨(PyData.keyHash P "__firstlineno__"),(.str "__firstlineno__" 508),(.int 111 507)⟩,⟨(PyData.keyHash P "__init__"),(.str "__init__" 516),(.ref 247)⟩,⟨(PyData.keyHash P "__static_attributes__"),(.str "__static_attributes__" 518),(.ref 248)⟩,⟨(PyData.keyHash P "__dict__"),(.str "__dict__" 520),(.ref 251)⟩,⟨(PyData.keyHash P "__weakref__"),(.str "__weakref__" 522),(.ref 252)⟩,⟨(PyData.keyHash P "__doc__"),(.str "__doc__" 523),.none⟩] 4),#[]⟩ (.node (fo377_treeE P) .nil .nil) .nil))))) (.node ⟨(.type "code"),none,(.fields #[(.str "<module>" 182),(.str "<module>" 183),(.str "/claim/cut.py" 184),(.int 1 0),(.int 0 0),(.int 0 0),(.int 0 0),(.int 0 0),(.ref 11),(.bool false),(.int 181 0),(.ref 12),.none,.none,.none,.none,(.int 185 0),(.int 1 0),(.str "/claim/cut.py" 186)]),#[]⟩ (.node (fo21_treeM P) (.node ⟨(.type "dict"),none,(.dict #[⟨(PyData.keyHash P "__module__"),(.str "__module__" 203),(.str "switchloom.errors" 194)⟩,⟨(PyData.keyHash P "__firstlineno__"),(.str "__firstlineno__" 207),(.int 5 206)⟩,⟨(PyData.keyHash P "__init__"),(.str "__init__" 215),(.ref 35)⟩,⟨(PyData.keyHash P "__static_attributes__"),(.str "__static_attributes__" 217),(.ref 36)⟩,⟨(PyData.keyHash P "__weakref__"),(.str "__weakref__" 219),(.ref 39)⟩,⟨(PyData.keyHash P "__doc__"),(.str "__doc__" 220),.none⟩] 3),#[]⟩ (.node ⟨(.type "tuple"),none,(.seq #[(.str "row" 263)] 0),#[]⟩ (.node ⟨(.type "tuple"),none,(.seq #[] 0),#[]⟩ (.node (fo261_treeE P) .nil .nil) (.node ⟨.none,none,(.fields #[]),#[]⟩ .nil .nil)) (.node ⟨(.type "tuple"),none,(.seq #[] 0),#[]⟩ (.node ⟨(.type "tuple"),none,(.seq #[] 0),#[]⟩ .nil .nil) (.node ⟨.none,none,(.fields #[]),#[]⟩ .nil .nil))) (.node (fo101_treeM P) (.node ⟨(.type "tuple"),none,(.seq #[] 0),#[]⟩ (.node ⟨(.type "getset_descriptor"),none,(.fields #[(.str "__dict__" 578),(.ref 292),(.builtin "function.__dict__"),(.builtin "function.__dict__#set")]),#[]⟩ .nil .nil) (.node ⟨(.type "tuple"),none,(.seq #[] 0),#[]⟩ .nil .nil)) (.node ⟨(.type "type"),none,(.cls ⟨"PortOut",[(.type "object")],[(.ref 229),(.type "object")],228,"PortOut",true,[],[],false,none,false⟩),#[none,none,(some (.str "PortOut" 425)),(some (.str "PortOut" 433)),(some (.builtin "object.__new__")),(some (.bool true))]⟩ (.node ⟨.none,none,(.fields #[(.int 167 0),(.int 4 0),(.ref 363),(.int 170 0),(.int 4 0),(.ref 370),(.int 173 0),(.int 4 0),(.ref 378),(.int 179 0),(.int 4 0),(.ref 386),(.int 185 0),(.int 4 0),(.ref 391)]),#[]⟩ .nil .nil) .nil))) (.node ⟨(.type "builtin_function_or_method"),none,(.fields #[(.builtin "object.__init_subclass__"),(.ref 51)]),#[]⟩ (.node (fo85_treeM P) (.node ⟨(.type "code"),none,(.fields #[(.str "Shaper" 370),(.str "Shaper" 371),(.str "/claim/cut.py" 372),(.int 65 0),(.int 0 0),(.int 0 0),(.int 0 0),(.int 0 0),(.ref 147),(.bool false),(.int 181 0),(.ref 148),.none,.none,.none,.none,(.int 373 0),(.int 65 0),(.str "/claim/cut.py" 374)]),#[]⟩ (.node ⟨.none,none,(.fields #[]),#[]⟩ .nil .nil) (.node ⟨(.type "code"),none,(.fields #[(.str "_law_source" 724),(.str "_law_source" 725),(.str "/claim/cut.py" 726),(.int 188 0),(.int 1 0),(.int 0 0),(.int 0 0),(.int 3 0),(.ref 400),(.bool true),(.int 181 0),(.ref 401),.none,(.ref 402),(.ref 403),(.ref 404),(.int 729 0),(.int 188 0),(.str "/claim/cut.py" 730)]),#[]⟩ .nil .nil)) (.node ⟨(.type "tuple"),none,(.seq #[] 0),#[]⟩ (.node ⟨(.type "type"),none,(.cls ⟨"QueueRow",[(.type "object")],[(.ref 341),(.type "object")],340,"QueueRow",true,[],[],false,none,false⟩),#[none,none,(some (.str "QueueRow" 587)),(some (.str "QueueRow" 595)),(some (.builtin "object.__new__")),(some (.bool true))]⟩ .nil .nil) (.node ⟨(.type "code"),none,(.fields #[(.str "_law_fixed_right" 806),(.str "_law_fixed_right" 807),(.str "/claim/cut.py" 808),(.int 233 0),(.int 0 0),(.int 0 0),(.int 0 0),(.int 3 0),(.ref 464),(.bool true),(.int 181 0),(.ref 465),.none,(.ref 466),(.ref 467),(.ref 468),(.int 810 0),(.int 233 0),(.str "/claim/cut.py" 811)]),#[]⟩ .nil .nil))) (.node ⟨.none,none,(.fields #[]),#[]⟩ (.node ⟨(.type "type"),none,(.cls ⟨"Shaper",[(.type "object")],[(.ref 181),(.type "object")],180,"Shaper",true,[],[],false,none,false⟩),#[none,none,(some (.str "Shaper" 368)),(some (.str "Shaper" 376)),(some (.builtin "object.__new__")),(some (.bool true))]⟩ (.node ⟨(.type "code"),none,(.fields #[(.str "__init__" 599),(.str "QueueRow.__init__" 600),(.str "/claim/cut.py" 601),(.int 136 0),(.int 3 0),(.int 0 0),(.int 0 0),(.int 3 0),(.ref 304),(.bool true),(.int 181 0),(.ref 305),.none,(.ref 306),(.ref 307),(.ref 308),(.int 605 0),(.int 136 0),(.str "/claim/cut.py" 606)]),#[]⟩ .nil .nil) (.node (fo437_treeE P) .nil .nil)) (.node (fo245_treeE P) (.node ⟨(.type "tuple"),none,(.seq #[] 0),#[]⟩ .nil .nil) .nil)))) (.node ⟨(.type "tuple"),none,(.seq #[] 0),#[]⟩ (.node ⟨(.type "tuple"),none,(.seq #[] 0),#[]⟩ (.node ⟨(.type "tuple"),none,(.seq #[] 0),#[]⟩ (.node ⟨(.type "getset_descriptor"),none,(.fields #[(.str "__weakref__" 361),(.ref 139),(.builtin "ExceptionGroup.__weakref__"),.none]),#[]⟩ (.node ⟨(.type "tuple"),none,(.seq #[] 0),#[]⟩ .nil .nil) (.node ⟨(.type "getset_descriptor"),none,(.fields #[(.str "__weakref__" 717),(.ref 395),(.builtin "ExceptionGroup.__weakref__"),.none]),#[]⟩ .nil .nil)) (.node (fo205_treeM P) (.node ⟨.none,none,(.fields #[]),#[]⟩ .nil .nil) (.node (fo461_treeE P) .nil .nil))) (.node ⟨(.type "tuple"),none,(.seq #[] 0),#[]⟩ (.node ⟨.none,none,(.fields #[]),#[]⟩ (.node ⟨.none,none,(.fields #[(.int 136 0),(.int 4 0),(.ref 309),(.int 145 0),(.int 4 0),(.ref 316),(.int 153 0),(.int 4 0),(.ref 323),(.int 156 0),(.int 4 0),(.ref 330),(.int 159 0),(.int 4 0),(.ref 337)]),#[]⟩ .nil .nil) (.node ⟨(.type "code"),none,(.fields #[(.str "_law_head" 755),(.str "_law_head" 756),(.str "/claim/cut.py" 757),(.int 203 0),(.int 3 0),(.int 0 0),(.int 0 0),(.int 3 0),(.ref 426),(.bool true),(.int 181 0),(.ref 427),.none,.none,.none,(.ref 428),(.int 758 0),(.int 203 0),(.str "/claim/cut.py" 759)]),#[]⟩ .nil .nil)) (.node ⟨(.type "tuple"),none,(.seq #[] 0),#[]⟩ (.node ⟨(.type "tuple"),none,(.seq #[] 0),#[]⟩ .nil .nil) .nil))) (.node ⟨(.type "tuple"),none,(.seq #[(.int 0 253)] 0),#[]⟩ (.node ⟨(.type "code"),none,(.fields #[(.str "fill" 293),(.str "Bucket.fill" 294),(.str "/claim/cut.py" 295),(.int 29 0),(.int 2 0),(.int 0 0),(.int 0 0),(.int 3 0),(.ref 88),(.bool true),(.int 181 0),(.ref 89),.none,(.ref 90),(.ref 91),(.ref 92),(.int 299 0),(.int 29 0),(.str "/claim/cut.py" 300)]),#[]⟩ (.node (fo157_treeM P) (.node ⟨(.type "tuple"),none,(.seq #[(.str "self" 569),(.str "priority" 570),(.str "now" 571)] 0),#[]⟩ .nil .nil) (.node (fo413_treeE P) .nil .nil)) (.node ⟨.none,none,(.fields #[]),#[]⟩ (.node ⟨(.type "tuple"),none,(.seq #[] 0),#[]⟩ .nil .nil) .nil)) (.node ⟨(.type "tuple"),none,(.seq #[(.str "self" 339),(.str "grains" 340)] 0),#[]⟩ (.node ⟨(.type "tuple"),none,(.seq #[] 0),#[]⟩ (.node (fo317_treeE P) .nil .nil) (.node ⟨(.type "tuple"),none,(.seq #[] 0),#[]⟩ .nil .nil)) (.node ⟨(.type "super"),none,(.fields #[(.ref 250),(.ref 250),(.ref 250)]),#[]⟩ (.node ⟨(.type "tuple"),none,(.seq #[] 0),#[]⟩ .nil .nil) .nil))))))) (.node ⟨.none,none,(.dict #[⟨(PyData.keyHash P "type.__subclasses__.Exception.0"),(.str "type.__subclasses__.Exception.0" 221),(.int 38 0)⟩,⟨(PyData.keyHash P "type.__subclasses__.Exception.n"),(.str "type.__subclasses__.Exception.n" 222),(.int 1 0)⟩] 2),#[]⟩ (.node (boot_o_4 P) (.node (boot_o_8 P) (.node ⟨.none,none,(.fields #[]),#[]⟩ (.node ⟨(.type "tuple"),none,(.seq #[] 0),#[]⟩ (.node ⟨(.type "tuple"),none,(.seq #[(.str "self" 257),(.str "message" 258),(.str "row" 259)] 0),#[]⟩ (.node ⟨(.type "code"),none,(.fields #[(.str "add" 336),(.str "Bucket.add" 337),(.str "/claim/cut.py" 338),(.int 53 0),(.int 2 0),(.int 0 0),(.int 0 0),(.int 3 0),(.ref 123),(.bool true),(.int 181 0),(.ref 124),.none,(.ref 125),(.ref 126),(.ref 127),(.int 341 0),(.int 53 0),(.str "/claim/cut.py" 342)]),#[]⟩ (.node ⟨.none,none,(.fields #[]),#[]⟩ .nil .nil) (.node ⟨(.type "tuple"),none,(.seq #[] 0),#[]⟩ .nil .nil)) (.node ⟨(.type "frame"),none,.plain,#[(some (.ref 191)),(some (.ref 3)),(some (.ref 188)),none,(some (.str "switchloom.shapers" 366)),none,(some (.ref 0))]⟩ (.node ⟨(.type "tuple"),none,(.seq #[(.str "self" 620)] 0),#[]⟩ .nil .nil) (.node ⟨(.type "tuple"),none,(.seq #[] 0),#[]⟩ .nil .nil))) (.node ⟨.none,none,(.fields #[]),#[]⟩ (.node ⟨(.type "tuple"),none,(.seq #[(.str "self" 392),(.str "size" 393)] 0),#[]⟩ (.node ⟨(.type "code"),none,(.fields #[(.str "may_send" 566),(.str "PauseState.may_send" 567),(.str "/claim/cut.py" 568),(.int 131 0),(.int 3 0),(.int 0 0),(.int 0 0),(.int 3 0),(.ref 283),(.bool true),(.int 181 0),(.ref 284),.none,(.ref 285),(.ref 286),(.ref 287),(.int 572 0),(.int 131 0),(.str "/claim/cut.py" 573)]),#[]⟩ .nil .nil) (.node ⟨(.type "tuple"),none,(.seq #[(.str "source" 744),(.str "things" 745)] 0),#[]⟩ .nil .nil)) (.node (fo224_treeM P) (.node (fo352_treeE P) .nil .nil) .nil))) (.node ⟨(.type "frame"),none,.plain,#[(some (.ref 47)),(some (.ref 3)),(some (.ref 44)),none,(some (.str "switchloom.errors" 194)),none,(some (.ref 0))]⟩ (.node ⟨(.type "frame"),none,.plain,#[(some (.ref 79)),(some (.ref 3)),(some (.ref 76)),none,(some (.str "switchloom.buckets" 268)),none,(some (.ref 0))]⟩ (.node ⟨(.type "tuple"),none,(.seq #[] 0),#[]⟩ (.node ⟨(.type "tuple"),none,(.seq #[] 0),#[]⟩ .nil .nil) (.node ⟨(.type "tuple"),none,(.seq #[] 0),#[]⟩ .nil .nil)) (.node ⟨(.type "tuple"),none,(.seq #[(.str "self" 456),(.str "priority" 457),(.str "size" 458),(.str "thing" 459)] 0),#[]⟩ (.node (fo336_treeE P) .nil .nil) (.node ⟨(.type "tuple"),none,(.seq #[] 0),#[]⟩ .nil .nil))) (.node ⟨(.type "tuple"),none,(.seq #[] 0),#[]⟩ (.node (fo176_treeM P) (.node ⟨(.type "tuple"),none,(.seq #[] 0),#[]⟩ .nil .nil) (.node ⟨.none,none,(.fields #[]),#[]⟩ .nil .nil)) (.node ⟨(.type "frame"),none,.plain,#[(some (.ref 239)),(some (.ref 3)),(some (.ref 236)),none,(some (.str "switchloom.pause" 493)),none,(some (.ref 0))]⟩ (.node ⟨(.type "tuple"),none,(.seq #[] 0),#[]⟩ .nil .nil) .nil)))) (.node ⟨(.type "dict"),none,(.dict #[⟨(PyData.keyHash P "__module__"),(.str "__module__" 203),(.str "switchloom.errors" 194)⟩,⟨(PyData.keyHash P "__qualname__"),(.str "__qualname__" 205),(.str "SwitchError" 204)⟩,⟨(PyData.keyHash P "__firstlineno__"),(.str "__firstlineno__" 207),(.int 5 206)⟩,⟨(PyData.keyHash P "__init__"),(.str "__init__" 215),(.ref 35)⟩,⟨(PyData.keyHash P "__static_attributes__"),(.str "__static_attributes__" 217),(.ref 36)⟩] 5),#[]⟩ (.node ⟨(.type "super"),none,(.fields #[(.ref 38),(.ref 38),(.ref 38)]),#[]⟩ (.node ⟨(.type "super"),none,(.fields #[(.ref 71),(.ref 71),(.ref 71)]),#[]⟩ (.node (fo136_treeM P) (.node ⟨(.type "dict"),none,(.dict #[⟨(PyData.keyHash P "__module__"),(.str "__module__" 542),(.str "switchloom.pause" 493)⟩,⟨(PyData.keyHash P "__qualname__"),(.str "__qualname__" 544),(.str "PauseState" 543)⟩,⟨(PyData.keyHash P "__firstlineno__"),(.str "__firstlineno__" 546),(.int 117 545)⟩,⟨(PyData.keyHash P "__init__"),(.str "__init__" 554),(.ref 275)⟩,⟨(PyData.keyHash P "heard"),(.str "heard" 565),(.ref 282)⟩,⟨(PyData.keyHash P "may_send"),(.str "may_send" 574),(.ref 289)⟩,⟨(PyData.keyHash P "__static_attributes__"),(.str "__static_attributes__" 577),(.ref 290)⟩] 7),#[]⟩ .nil .nil) (.node (fo392_treeE P) .nil .nil)) (.node (fo200_treeM P) (.node ⟨(.type "tuple"),none,(.seq #[] 0),#[]⟩ .nil .nil) (.node (fo456_treeE P) .nil .nil))) (.node ⟨(.type "tuple"),none,(.seq #[(.str "self" 313),(.str "size" 314),(.str "now" 315)] 0),#[]⟩ (.node ⟨(.type "tuple"),none,(.seq #[] 0),#[]⟩ (.node ⟨(.type "builtin_function_or_method"),none,(.fields #[(.builtin "object.__init_subclass__"),(.ref 292)]),#[]⟩ .nil .nil) (.node ⟨(.type "code"),none,(.fields #[(.str "_law_pause" 749),(.str "_law_pause" 750),(.str "/claim/cut.py" 751),(.int 199 0),(.int 1 0),(.int 0 0),(.int 0 0),(.int 3 0),(.ref 421),(.bool true),(.int 181 0),(.ref 422),.none,.none,.none,(.ref 423),(.int 752 0),(.int 199 0),(.str "/claim/cut.py" 753)]),#[]⟩ .nil .nil)) (.node ⟨(.type "super"),none,(.fields #[(.ref 229),(.ref 229),(.ref 229)]),#[]⟩ (.node ⟨(.type "tuple"),none,(.seq #[] 0),#[]⟩ .nil .nil) .nil))) (.node ⟨(.type "dict"),none,(.dict #[⟨(PyData.keyHash P "__module__"),(.str "__module__" 248),(.str "switchloom.errors" 194)⟩,⟨(PyData.keyHash P "__qualname__"),(.str "__qualname__" 250),(.str "SettingError" 249)⟩,⟨(PyData.keyHash P "__firstlineno__"),(.str "__firstlineno__" 252),(.int 12 251)⟩,⟨(PyData.keyHash P "__init__"),(.str "__init__" 262),(.ref 68)⟩,⟨(PyData.keyHash P "__static_attributes__"),(.str "__static_attributes__" 264),(.ref 69)⟩] 5),#[]⟩ (.node ⟨(.type "tuple"),none,(.seq #[] 0),#[]⟩ (.node ⟨.none,none,(.fields #[]),#[]⟩ (.node (fo280_treeE P) .nil .nil) (.node ⟨.none,none,(.fields #[]),#[]⟩ .nil .nil)) (.node ⟨(.type "tuple"),none,(.seq #[] 0),#[]⟩ (.node ⟨(.type "super"),none,(.fields #[(.ref 341),(.ref 341),(.ref 341)]),#[]⟩ .nil .nil) (.node ⟨.none,none,(.fields #[]),#[]⟩ .nil .nil))) (.node (fo120_treeM P) (.node ⟨(.type "super"),none,(.fields #[(.ref 181),(.ref 181),(.ref 181)]),#[]⟩ (.node ⟨.none,none,(.fields #[]),#[]⟩ .nil .nil) (.node ⟨(.type "tuple"),none,(.seq #[(.str "own" 772),(.str "size" 773)] 0),#[]⟩ .nil .nil)) (.node ⟨(.type "tuple"),none,(.seq #[(.str "times" 517)] 0),#[]⟩ (.node ⟨(.type "tuple"),none,(.seq #[] 0),#[]⟩ .nil .nil) .nil))))) (.node ⟨.none,none,(.fields #[(.int 1 0),(.int 0 0),(.ref 20),(.int 5 0),(.int 0 0),(.ref 27),(.int 10 0),(.int 0 0),(.ref 47),(.int 12 0),(.int 0 0),(.ref 59),(.int 19 0),(.int 0 0),(.ref 79),(.int 65 0),(.int 0 0),(.ref 149),(.int 82 0),(.int 0 0),(.ref 191),(.int 111 0),(.int 0 0),(.ref 239),(.int 115 0),(.int 0 0),(.ref 260),(.int 117 0),(.int 0 0),(.ref 267),(.int 134 0),(.int 0 0),(.ref 302),(.int 163 0),(.int 0 0),(.ref 351),(.int 165 0),(.int 0 0),(.ref 358),(.int 188 0),(.int 0 0),(.ref 405),(.int 191 0),(.int 0 0),(.ref 412),(.int 197 0),(.int 0 0),(.ref 419),(.int 199 0),(.int 0 0),(.ref 424),(.int 203 0),(.int 0 0),(.ref 429),(.int 206 0),(.int 0 0),(.ref 436),(.int 209 0),(.int 0 0),(.ref 443),(.int 211 0),(.int 0 0),(.ref 450),(.int 216 0),(.int 0 0),(.ref 457),(.int 224 0),(.int 0 0),(.ref 462),(.int 233 0),(.int 0 0),(.ref 469),(.int 238 0),(.int 0 0),(.ref 474)]),#[]⟩ (.node ⟨(.type "code"),none,(.fields #[(.str "_wall" 187),(.str "_wall" 188),(.str "/claim/cut.py" 189),(.int 1 0),(.int 1 0),(.int 0 0),(.int 0 0),(.int 3 0),(.ref 15),(.bool true),(.int 181 0),(.ref 16),.none,(.ref 17),(.ref 18),(.ref 19),(.int 191 0),(.int 1 0),(.str "/claim/cut.py" 192)]),#[]⟩ (.node ⟨(.type "tuple"),none,(.seq #[(.str "message" 216)] 0),#[]⟩ (.node (fo68_treeM P) (.node ⟨(.type "tuple"),none,(.seq #[(.str "self" 347),(.str "size" 348),(.str "now" 349),(.str "lack" 350)] 0),#[]⟩ (.node ⟨(.type "code"),none,(.fields #[(.str "time_behind" 526),(.str "time_behind" 527),(.str "/claim/cut.py" 528),(.int 115 0),(.int 3 0),(.int 0 0),(.int 0 0),(.int 3 0),(.ref 255),(.bool true),(.int 181 0),(.ref 256),.none,(.ref 257),(.ref 258),(.ref 259),(.int 532 0),(.int 115 0),(.str "/claim/cut.py" 533)]),#[]⟩ .nil .nil) (.node ⟨(.type "tuple"),none,(.seq #[] 0),#[]⟩ .nil .nil)) (.node ⟨(.type "tuple"),none,(.seq #[(.str "self" 440),(.str "queues" 441),(.str "shaper" 442),(.str "pause" 443)] 0),#[]⟩ (.node (fo324_treeE P) .nil .nil) (.node ⟨(.type "tuple"),none,(.seq #[] 0),#[]⟩ .nil .nil))) (.node ⟨(.type "code"),none,(.fields #[(.str "level" 302),(.str "Bucket.level" 303),(.str "/claim/cut.py" 304),(.int 37 0),(.int 2 0),(.int 0 0),(.int 0 0),(.int 3 0),(.ref 95),(.bool true),(.int 181 0),(.ref 96),.none,(.ref 97),(.ref 98),(.ref 99),(.int 307 0),(.int 37 0),(.str "/claim/cut.py" 308)]),#[]⟩ (.node (fo164_treeM P) (.node ⟨(.type "type"),none,(.cls ⟨"PauseState",[(.type "object")],[(.ref 292),(.type "object")],291,"PauseState",true,[],[],false,none,false⟩),#[none,none,(some (.str "PauseState" 535)),(some (.str "PauseState" 543)),(some (.builtin "object.__new__")),(some (.bool true))]⟩ .nil .nil) (.node (fo420_treeE P) .nil .nil)) (.node ⟨(.type "dict"),none,(.dict #[⟨(PyData.keyHash P "__module__"),(.str "__module__" 432),(.str "switchloom.shapers" 366)⟩,⟨(PyData.keyHash P "__firstlineno__"),(.str "__firstlineno__" 436),(.int 82 435)⟩,⟨(PyData.keyHash P "__init__"),(.str "__init__" 446),(.ref 200)⟩,⟨(PyData.keyHash P "allowed"),(.str "allowed" 452),(.ref 205)⟩,⟨(PyData.keyHash P "put"),(.str "put" 462),(.ref 212)⟩,⟨(PyData.keyHash P "next"),(.str "next" 472),(.ref 219)⟩,⟨(PyData.keyHash P "when"),(.str "when" 481),(.ref 226)⟩,⟨(PyData.keyHash P "__static_attributes__"),(.str "__static_attributes__" 485),(.ref 227)⟩,⟨(PyData.keyHash P "__dict__"),(.str "__dict__" 487),(.ref 230)⟩,⟨(PyData.keyHash P "__weakref__"),(.str "__weakref__" 489),(.ref 231)⟩,⟨(PyData.keyHash P "__doc__"),(.str "__doc__" 490),.none⟩] 4),#[]⟩ (.node ⟨(.type "tuple"),none,(.seq #[] 0),#[]⟩ .nil .nil) .nil))) (.node ⟨(.type "super"),none,(.fields #[(.ref 51),(.ref 51),(.ref 51)]),#[]⟩ (.node ⟨(.type "tuple"),none,(.seq #[] 0),#[]⟩ (.node ⟨.none,none,(.fields #[(.int 67 0),(.int 4 0),(.ref 156),(.int 70 0),(.int 4 0),(.ref 163),(.int 73 0),(.int 4 0),(.ref 170),(.int 77 0),(.int 4 0),(.ref 177)]),#[]⟩ (.node ⟨(.type "tuple"),none,(.seq #[] 0),#[]⟩ .nil .nil) (.node (fo404_treeE P) .nil .nil)) (.node (fo212_treeM P) (.node ⟨(.type "dict"),none,(.dict #[⟨(PyData.keyHash P "__module__"),(.str "__module__" 594),(.str "switchloom.queues" 585)⟩,⟨(PyData.keyHash P "__firstlineno__"),(.str "__firstlineno__" 598),(.int 134 597)⟩,⟨(PyData.keyHash P "__init__"),(.str "__init__" 607),(.ref 310)⟩,⟨(PyData.keyHash P "put"),(.str "put" 616),(.ref 317)⟩,⟨(PyData.keyHash P "is_empty"),(.str "is_empty" 623),(.ref 324)⟩,⟨(PyData.keyHash P "head_size"),(.str "head_size" 630),(.ref 331)⟩,⟨(PyData.keyHash P "take"),(.str "take" 638),(.ref 338)⟩,⟨(PyData.keyHash P "__static_attributes__"),(.str "__static_attributes__" 644),(.ref 339)⟩,⟨(PyData.keyHash P "__dict__"),(.str "__dict__" 646),(.ref 342)⟩,⟨(PyData.keyHash P "__weakref__"),(.str "__weakref__" 648),(.ref 343)⟩,⟨(PyData.keyHash P "__doc__"),(.str "__doc__" 649),.none⟩] 4),#[]⟩ .nil .nil) (.node (fo468_treeE P) .nil .nil))) (.node ⟨(.type "tuple"),none,(.seq #[] 0),#[]⟩ (.node ⟨(.type "dict"),none,(.dict #[⟨(PyData.keyHash P "__module__"),(.str "__module__" 375),(.str "switchloom.shapers" 366)⟩,⟨(PyData.keyHash P "__firstlineno__"),(.str "__firstlineno__" 379),(.int 65 378)⟩,⟨(PyData.keyHash P "__init__"),(.str "__init__" 388),(.ref 157)⟩,⟨(PyData.keyHash P "asked_size"),(.str "asked_size" 396),(.ref 164)⟩,⟨(PyData.keyHash P "when"),(.str "when" 406),(.ref 171)⟩,⟨(PyData.keyHash P "sent"),(.str "sent" 415),(.ref 178)⟩,⟨(PyData.keyHash P "__static_attributes__"),(.str "__static_attributes__" 417),(.ref 179)⟩,⟨(PyData.keyHash P "__dict__"),(.str "__dict__" 419),(.ref 182)⟩,⟨(PyData.keyHash P "__weakref__"),(.str "__weakref__" 421),(.ref 183)⟩,⟨(PyData.keyHash P "__doc__"),(.str "__doc__" 422),.none⟩] 4),#[]⟩ (.node (fo308_treeE P) .nil .nil) (.node ⟨(.type "code"),none,(.fields #[(.str "_law_filled" 761),(.str "_law_filled" 762),(.str "/claim/cut.py" 763),(.int 206 0),(.int 2 0),(.int 0 0),(.int 0 0),(.int 3 0),(.ref 431),(.bool true),(.int 181 0),(.ref 432),.none,(.ref 433),(.ref 434),(.ref 435),(.int 766 0),(.int 206 0),(.str "/claim/cut.py" 767)]),#[]⟩ .nil .nil)) (.node ⟨(.type "tuple"),none,(.seq #[] 0),#[]⟩ (.node ⟨(.type "tuple"),none,(.seq #[.none] 0),#[]⟩ .nil .nil) .nil)))) (.node ⟨(.type "frame"),none,.plain,#[(some (.ref 27)),(some (.ref 3)),(some (.ref 24)),none,(some (.str "switchloom.errors" 194)),none,(some (.ref 0))]⟩ (.node ⟨(.type "dict"),none,(.dict #[⟨(PyData.keyHash P "__module__"),(.str "__module__" 232),(.str "switchloom.errors" 194)⟩,⟨(PyData.keyHash P "__qualname__"),(.str "__qualname__" 234),(.str "SizeError" 233)⟩,⟨(PyData.keyHash P "__firstlineno__"),(.str "__firstlineno__" 236),(.int 10 235)⟩,⟨(PyData.keyHash P "__static_attributes__"),(.str "__static_attributes__" 237),(.ref 49)⟩] 4),#[]⟩ (.node ⟨(.type "dict"),none,(.dict #[⟨(PyData.keyHash P "__module__"),(.str "__module__" 279),(.str "switchloom.buckets" 268)⟩,⟨(PyData.keyHash P "__qualname__"),(.str "__qualname__" 281),(.str "Bucket" 280)⟩,⟨(PyData.keyHash P "__firstlineno__"),(.str "__firstlineno__" 283),(.int 19 282)⟩,⟨(PyData.keyHash P "__init__"),(.str "__init__" 292),(.ref 87)⟩,⟨(PyData.keyHash P "fill"),(.str "fill" 301),(.ref 94)⟩,⟨(PyData.keyHash P "level"),(.str "level" 309),(.ref 101)⟩,⟨(PyData.keyHash P "has"),(.str "has" 318),(.ref 108)⟩,⟨(PyData.keyHash P "spend"),(.str "spend" 326),(.ref 115)⟩,⟨(PyData.keyHash P "take"),(.str "take" 335),(.ref 122)⟩,⟨(PyData.keyHash P "add"),(.str "add" 343),(.ref 129)⟩,⟨(PyData.keyHash P "wait"),(.str "wait" 353),(.ref 136)⟩,⟨(PyData.keyHash P "__static_attributes__"),(.str "__static_attributes__" 358),(.ref 137)⟩] 12),#[]⟩ (.node ⟨(.type "getset_descriptor"),none,(.fields #[(.str "__dict__" 359),(.ref 139),(.builtin "function.__dict__"),(.builtin "function.__dict__#set")]),#[]⟩ (.node ⟨(.type "frame"),none,.plain,#[(some (.ref 267)),(some (.ref 3)),(some (.ref 264)),none,(some (.str "switchloom.pause" 493)),none,(some (.ref 0))]⟩ .nil .nil) (.node ⟨(.type "getset_descriptor"),none,(.fields #[(.str "__dict__" 715),(.ref 395),(.builtin "function.__dict__"),(.builtin "function.__dict__#set")]),#[]⟩ .nil .nil)) (.node ⟨(.type "code"),none,(.fields #[(.str "allowed" 447),(.str "PortOut.allowed" 448),(.str "/claim/cut.py" 449),(.int 89 0),(.int 2 0),(.int 0 0),(.int 0 0),(.int 3 0),(.ref 201),(.bool true),(.int 181 0),(.ref 202),.none,.none,.none,(.ref 203),(.int 450 0),(.int 89 0),(.str "/claim/cut.py" 451)]),#[]⟩ (.node ⟨(.type "tuple"),none,(.seq #[] 0),#[]⟩ .nil .nil) (.node ⟨.none,none,(.fields #[]),#[]⟩ .nil .nil))) (.node (fo108_treeM P) (.node ⟨(.type "tuple"),none,(.seq #[] 0),#[]⟩ (.node ⟨(.type "tuple"),none,(.seq #[] 0),#[]⟩ .nil .nil) (.node (fo428_treeE P) .nil .nil)) (.node ⟨(.type "dict"),none,(.dict #[⟨(PyData.keyHash P "__module__"),(.str "__module__" 504),(.str "switchloom.pause" 493)⟩,⟨(PyData.keyHash P "__qualname__"),(.str "__qualname__" 506),(.str "PauseFrame" 505)⟩,⟨(PyData.keyHash P "__firstlineno__"),(.str "__firstlineno__" 508),(.int 111 507)⟩,⟨(PyData.keyHash P "__init__"),(.str "__init__" 516),(.ref 247)⟩,⟨(PyData.keyHash P "__static_attributes__"),(.str "__static_attributes__" 518),(.ref 248)⟩] 5),#[]⟩ (.node (fo364_treeE P) .nil .nil) .nil))) (.node ⟨(.type "frame"),none,.plain,#[(some (.ref 59)),(some (.ref 3)),(some (.ref 56)),none,(some (.str "switchloom.errors" 194)),none,(some (.ref 0))]⟩ (.node (fo92_treeM P) (.node ⟨(.type "code"),none,(.fields #[(.str "__init__" 380),(.str "Shaper.__init__" 381),(.str "/claim/cut.py" 382),(.int 67 0),(.int 3 0),(.int 0 0),(.int 0 0),(.int 3 0),(.ref 151),(.bool true),(.int 181 0),(.ref 152),.none,(.ref 153),(.ref 154),(.ref 155),(.int 386 0),(.int 67 0),(.str "/claim/cut.py" 387)]),#[]⟩ (.node ⟨.none,none,(.fields #[]),#[]⟩ .nil .nil) (.node ⟨(.type "code"),none,(.fields #[(.str "_law_next" 732),(.str "_law_next" 733),(.str "/claim/cut.py" 734),(.int 191 0),(.int 2 0),(.int 0 0),(.int 0 0),(.int 3 0),(.ref 407),(.bool true),(.int 181 0),(.ref 408),.none,(.ref 409),(.ref 410),(.ref 411),(.int 738 0),(.int 191 0),(.str "/claim/cut.py" 739)]),#[]⟩ .nil .nil)) (.node ⟨(.type "tuple"),none,(.seq #[] 0),#[]⟩ (.node ⟨(.type "tuple"),none,(.seq #[(.str "rows" 655),(.str "number" 656),(.str "allowed" 657)] 0),#[]⟩ .nil .nil) .nil)) (.node ⟨.none,none,(.fields #[]),#[]⟩ (.node ⟨(.type "dict"),none,(.dict #[⟨(PyData.keyHash P "__module__"),(.str "__module__" 432),(.str "switchloom.shapers" 366)⟩,⟨(PyData.keyHash P "__qualname__"),(.str "__qualname__" 434),(.str "PortOut" 433)⟩,⟨(PyData.keyHash P "__firstlineno__"),(.str "__firstlineno__" 436),(.int 82 435)⟩,⟨(PyData.keyHash P "__init__"),(.str "__init__" 446),(.ref 200)⟩,⟨(PyData.keyHash P "allowed"),(.str "allowed" 452),(.ref 205)⟩,⟨(PyData.keyHash P "put"),(.str "put" 462),(.ref 212)⟩,⟨(PyData.keyHash P "next"),(.str "next" 472),(.ref 219)⟩,⟨(PyData.keyHash P "when"),(.str "when" 481),(.ref 226)⟩,⟨(PyData.keyHash P "__static_attributes__"),(.str "__static_attributes__" 485),(.ref 227)⟩] 9),#[]⟩ (.node ⟨(.type "code"),none,(.fields #[(.str "put" 608),(.str "QueueRow.put" 609),(.str "/claim/cut.py" 610),(.int 145 0),(.int 3 0),(.int 0 0),(.int 0 0),(.int 3 0),(.ref 311),(.bool true),(.int 181 0),(.ref 312),.none,(.ref 313),(.ref 314),(.ref 315),(.int 614 0),(.int 145 0),(.str "/claim/cut.py" 615)]),#[]⟩ .nil .nil) (.node (fo444_treeE P) .nil .nil)) (.node ⟨(.type "getset_descriptor"),none,(.fields #[(.str "__weakref__" 521),(.ref 250),(.builtin "ExceptionGroup.__weakref__"),.none]),#[]⟩ (.node ⟨(.type "tuple"),none,(.seq #[.none] 0),#[]⟩ .nil .nil) .nil)))))) (.node (boot_o_6 P) (.node (boot_o_10 P) (.node ⟨(.type "tuple"),none,(.seq #[] 0),#[]⟩ (.node ⟨(.type "code"),none,(.fields #[(.str "__init__" 208),(.str "SwitchError.__init__" 209),(.str "/claim/cut.py" 210),(.int 7 0),(.int 2 0),(.int 0 0),(.int 0 0),(.int 3 0),(.ref 29),(.bool true),(.int 181 0),(.ref 30),.none,(.ref 31),(.ref 32),(.ref 33),(.int 213 0),(.int 7 0),(.str "/claim/cut.py" 214)]),#[]⟩ (.node (fo66_treeM P) (.node ⟨(.type "tuple"),none,(.seq #[] 0),#[]⟩ (.node ⟨(.type "tuple"),none,(.seq #[] 0),#[]⟩ .nil .nil) (.node ⟨(.type "code"),none,(.fields #[(.str "take" 698),(.str "StrictQueues.take" 699),(.str "/claim/cut.py" 700),(.int 179 0),(.int 2 0),(.int 0 0),(.int 0 0),(.int 3 0),(.ref 381),(.bool true),(.int 181 0),(.ref 382),.none,(.ref 383),(.ref 384),(.ref 385),(.int 704 0),(.int 179 0),(.str "/claim/cut.py" 705)]),#[]⟩ .nil .nil)) (.node ⟨(.type "tuple"),none,(.seq #[] 0),#[]⟩ (.node (fo322_treeE P) .nil .nil) (.node ⟨(.type "code"),none,(.fields #[(.str "_law_due_time" 777),(.str "_law_due_time" 778),(.str "/claim/cut.py" 779),(.int 211 0),(.int 3 0),(.int 0 0),(.int 0 0),(.int 3 0),(.ref 445),(.bool true),(.int 181 0),(.ref 446),.none,(.ref 447),(.ref 448),(.ref 449),(.int 784 0),(.int 211 0),(.str "/claim/cut.py" 785)]),#[]⟩ .nil .nil))) (.node ⟨(.type "tuple"),none,(.seq #[] 0),#[]⟩ (.node (fo162_treeM P) (.node ⟨(.type "tuple"),none,(.seq #[(.str "tick" 575),(.str "until" 576)] 0),#[]⟩ .nil .nil) (.node (fo418_treeE P) .nil .nil)) (.node (fo226_treeM P) (.node ⟨(.type "builtin_function_or_method"),none,(.fields #[(.builtin "type.__prepare__"),(.type "type")]),#[]⟩ .nil .nil) .nil))) (.node ⟨(.type "dict"),none,(.dict #[⟨(PyData.keyHash P "__module__"),(.str "__module__" 232),(.str "switchloom.errors" 194)⟩,⟨(PyData.keyHash P "__firstlineno__"),(.str "__firstlineno__" 236),(.int 10 235)⟩,⟨(PyData.keyHash P "__static_attributes__"),(.str "__static_attributes__" 237),(.ref 49)⟩,⟨(PyData.keyHash P "__doc__"),(.str "__doc__" 238),.none⟩] 2),#[]⟩ (.node ⟨.none,none,(.fields #[]),#[]⟩ (.node ⟨(.type "dict"),none,(.dict #[⟨(PyData.keyHash P "__module__"),(.str "__module__" 375),(.str "switchloom.shapers" 366)⟩,⟨(PyData.keyHash P "__qualname__"),(.str "__qualname__" 377),(.str "Shaper" 376)⟩,⟨(PyData.keyHash P "__firstlineno__"),(.str "__firstlineno__" 379),(.int 65 378)⟩,⟨(PyData.keyHash P "__init__"),(.str "__init__" 388),(.ref 157)⟩,⟨(PyData.keyHash P "asked_size"),(.str "asked_size" 396),(.ref 164)⟩,⟨(PyData.keyHash P "when"),(.str "when" 406),(.ref 171)⟩,⟨(PyData.keyHash P "sent"),(.str "sent" 415),(.ref 178)⟩,⟨(PyData.keyHash P "__static_attributes__"),(.str "__static_attributes__" 417),(.ref 179)⟩] 8),#[]⟩ (.node ⟨(.type "code"),none,(.fields #[(.str "__init__" 547),(.str "PauseState.__init__" 548),(.str "/claim/cut.py" 549),(.int 119 0),(.int 2 0),(.int 0 0),(.int 0 0),(.int 3 0),(.ref 269),(.bool true),(.int 181 0),(.ref 270),.none,(.ref 271),(.ref 272),(.ref 273),(.int 552 0),(.int 119 0),(.str "/claim/cut.py" 553)]),#[]⟩ .nil .nil) (.node ⟨(.type "tuple"),none,(.seq #[(.str "script" 727),(.str "size" 728)] 0),#[]⟩ .nil .nil)) (.node (fo210_treeM P) (.node (fo338_treeE P) .nil .nil) (.node ⟨(.type "tuple"),none,(.seq #[(.str "port" 809)] 0),#[]⟩ .nil .nil))) (.node ⟨(.type "code"),none,(.fields #[(.str "spend" 319),(.str "Bucket.spend" 320),(.str "/claim/cut.py" 321),(.int 44 0),(.int 2 0),(.int 0 0),(.int 0 0),(.int 3 0),(.ref 109),(.bool true),(.int 181 0),(.ref 110),.none,(.ref 111),(.ref 112),(.ref 113),(.int 324 0),(.int 44 0),(.str "/claim/cut.py" 325)]),#[]⟩ (.node (fo178_treeM P) (.node ⟨(.type "tuple"),none,(.seq #[(.str "self" 602),(.str "most" 603),(.str "most_octets" 604)] 0),#[]⟩ .nil .nil) (.node ⟨(.type "tuple"),none,(.seq #[] 0),#[]⟩ .nil .nil)) (.node ⟨.none,none,(.fields #[]),#[]⟩ (.node ⟨(.type "code"),none,(.fields #[(.str "put" 679),(.str "StrictQueues.put" 680),(.str "/claim/cut.py" 681),(.int 170 0),(.int 4 0),(.int 0 0),(.int 0 0),(.int 3 0),(.ref 365),(.bool true),(.int 181 0),(.ref 366),.none,(.ref 367),(.ref 368),(.ref 369),(.int 686 0),(.int 170 0),(.str "/claim/cut.py" 687)]),#[]⟩ .nil .nil) .nil)))) (.node ⟨.none,none,(.fields #[(.int 7 0),(.int 4 0),(.ref 34)]),#[]⟩ (.node ⟨(.type "tuple"),none,(.seq #[(.ref 38)] 0),#[]⟩ (.node ⟨(.type "tuple"),none,(.seq #[] 0),#[]⟩ (.node ⟨(.type "dict"),none,(.dict #[⟨(PyData.keyHash P "__module__"),(.str "__module__" 279),(.str "switchloom.buckets" 268)⟩,⟨(PyData.keyHash P "__firstlineno__"),(.str "__firstlineno__" 283),(.int 19 282)⟩,⟨(PyData.keyHash P "__init__"),(.str "__init__" 292),(.ref 87)⟩,⟨(PyData.keyHash P "fill"),(.str "fill" 301),(.ref 94)⟩,⟨(PyData.keyHash P "level"),(.str "level" 309),(.ref 101)⟩,⟨(PyData.keyHash P "has"),(.str "has" 318),(.ref 108)⟩,⟨(PyData.keyHash P "spend"),(.str "spend" 326),(.ref 115)⟩,⟨(PyData.keyHash P "take"),(.str "take" 335),(.ref 122)⟩,⟨(PyData.keyHash P "add"),(.str "add" 343),(.ref 129)⟩,⟨(PyData.keyHash P "wait"),(.str "wait" 353),(.ref 136)⟩,⟨(PyData.keyHash P "__static_attributes__"),(.str "__static_attributes__" 358),(.ref 137)⟩,⟨(PyData.keyHash P "__dict__"),(.str "__dict__" 360),(.ref 140)⟩,⟨(PyData.keyHash P "__weakref__"),(.str "__weakref__" 362),(.ref 141)⟩,⟨(PyData.keyHash P "__doc__"),(.str "__doc__" 363),.none⟩] 4),#[]⟩ (.node ⟨.none,none,(.fields #[(.int 119 0),(.int 4 0),(.ref 274),(.int 125 0),(.int 4 0),(.ref 281),(.int 131 0),(.int 4 0),(.ref 288)]),#[]⟩ .nil .nil) (.node ⟨(.type "dict"),none,(.dict #[⟨(PyData.keyHash P "__module__"),(.str "__module__" 668),(.str "switchloom.queues" 585)⟩,⟨(PyData.keyHash P "__firstlineno__"),(.str "__firstlineno__" 672),(.int 165 671)⟩,⟨(PyData.keyHash P "__init__"),(.str "__init__" 678),(.ref 364)⟩,⟨(PyData.keyHash P "put"),(.str "put" 688),(.ref 371)⟩,⟨(PyData.keyHash P "look"),(.str "look" 697),(.ref 379)⟩,⟨(PyData.keyHash P "take"),(.str "take" 706),(.ref 387)⟩,⟨(PyData.keyHash P "waiting"),(.str "waiting" 712),(.ref 392)⟩,⟨(PyData.keyHash P "__static_attributes__"),(.str "__static_attributes__" 714),(.ref 393)⟩,⟨(PyData.keyHash P "__dict__"),(.str "__dict__" 716),(.ref 396)⟩,⟨(PyData.keyHash P "__weakref__"),(.str "__weakref__" 718),(.ref 397)⟩,⟨(PyData.keyHash P "__doc__"),(.str "__doc__" 719),.none⟩] 4),#[]⟩ .nil .nil)) (.node ⟨.none,none,(.fields #[]),#[]⟩ (.node ⟨(.type "code"),none,(.fields #[(.str "head_size" 624),(.str "QueueRow.head_size" 625),(.str "/claim/cut.py" 626),(.int 156 0),(.int 1 0),(.int 0 0),(.int 0 0),(.int 3 0),(.ref 325),(.bool true),(.int 181 0),(.ref 326),.none,(.ref 327),(.ref 328),(.ref 329),(.int 628 0),(.int 156 0),(.str "/claim/cut.py" 629)]),#[]⟩ .nil .nil) (.node (fo458_treeE P) .nil .nil))) (.node (fo106_treeM P) (.node ⟨(.type "code"),none,(.fields #[(.str "when" 397),(.str "Shaper.when" 398),(.str "/claim/cut.py" 399),(.int 73 0),(.int 3 0),(.int 0 0),(.int 0 0),(.int 3 0),(.ref 165),(.bool true),(.int 181 0),(.ref 166),.none,(.ref 167),(.ref 168),(.ref 169),(.int 404 0),(.int 73 0),(.str "/claim/cut.py" 405)]),#[]⟩ (.node ⟨(.type "builtin_function_or_method"),none,(.fields #[(.builtin "type.__prepare__"),(.type "type")]),#[]⟩ .nil .nil) (.node ⟨(.type "tuple"),none,(.seq #[] 0),#[]⟩ .nil .nil)) (.node ⟨(.type "tuple"),none,(.seq #[] 0),#[]⟩ (.node (fo362_treeE P) .nil .nil) .nil))) (.node ⟨.none,none,(.fields #[(.int 14 0),(.int 4 0),(.ref 67)]),#[]⟩ (.node ⟨(.type "tuple"),none,(.seq #[(.str "self" 296),(.str "now" 297),(.str "whole" 298)] 0),#[]⟩ (.node ⟨(.type "tuple"),none,(.seq #[] 0),#[]⟩ (.node (fo282_treeE P) .nil .nil) (.node ⟨(.type "tuple"),none,(.seq #[] 0),#[]⟩ .nil .nil)) (.node ⟨(.type "code"),none,(.fields #[(.str "next" 463),(.str "PortOut.next" 464),(.str "/claim/cut.py" 465),(.int 97 0),(.int 2 0),(.int 0 0),(.int 0 0),(.int 3 0),(.ref 213),(.bool true),(.int 181 0),(.ref 214),.none,(.ref 215),(.ref 216),(.ref 217),(.int 470 0),(.int 97 0),(.str "/claim/cut.py" 471)]),#[]⟩ (.node ⟨(.type "tuple"),none,(.seq #[] 0),#[]⟩ .nil .nil) (.node ⟨(.type "code"),none,(.fields #[(.str "law" 813),(.str "law" 814),(.str "/claim/cut.py" 815),(.int 238 0),(.int 1 0),(.int 0 0),(.int 0 0),(.int 3 0),(.ref 471),(.bool true),(.int 181 0),(.ref 472),.none,.none,.none,(.ref 473),(.int 816 0),(.int 238 0),(.str "/claim/cut.py" 817)]),#[]⟩ .nil .nil))) (.node (fo122_treeM P) (.node ⟨(.type "tuple"),none,(.seq #[] 0),#[]⟩ (.node ⟨(.type "tuple"),none,(.seq #[] 0),#[]⟩ .nil .nil) (.node (fo442_treeE P) .nil .nil)) (.node ⟨(.type "type"),none,(.cls ⟨"PauseFrame",[(.type "object")],[(.ref 250),(.type "object")],249,"PauseFrame",true,[],[],false,none,false⟩),#[none,none,(some (.str "PauseFrame" 497)),(some (.str "PauseFrame" 505)),(some (.builtin "object.__new__")),(some (.bool true))]⟩ (.node ⟨(.type "code"),none,(.fields #[(.str "look" 689),(.str "StrictQueues.look" 690),(.str "/claim/cut.py" 691),(.int 173 0),(.int 2 0),(.int 0 0),(.int 0 0),(.int 3 0),(.ref 373),(.bool true),(.int 181 0),(.ref 374),.none,(.ref 375),(.ref 376),(.ref 377),(.int 695 0),(.int 173 0),(.str "/claim/cut.py" 696)]),#[]⟩ .nil .nil) .nil))))) (.node ⟨(.type "frame"),none,.plain,#[(some (.ref 13)),(some (.ref 3)),(some (.ref 3)),none,(some (.str "__main__" 164)),none,(some (.ref 0))]⟩ (.node ⟨(.type "tuple"),none,(.seq #[(.type "Exception")] 0),#[]⟩ (.node ⟨(.type "type"),none,(.cls ⟨"SwitchError",[(.type "Exception")],[(.ref 38),(.type "Exception"),(.type "BaseException"),(.type "object")],37,"SwitchError",true,[],[(.ref 51),(.ref 71)],false,none,false⟩),#[(some (.ref 22)),none,(some (.str "SwitchError" 196)),(some (.str "SwitchError" 204)),(some (.builtin "Exception.__new__")),(some (.bool true))]⟩ (.node ⟨(.type "dict"),none,(.dict #[⟨(PyData.keyHash P "__module__"),(.str "__module__" 248),(.str "switchloom.errors" 194)⟩,⟨(PyData.keyHash P "__firstlineno__"),(.str "__firstlineno__" 252),(.int 12 251)⟩,⟨(PyData.keyHash P "__init__"),(.str "__init__" 262),(.ref 68)⟩,⟨(PyData.keyHash P "__static_attributes__"),(.str "__static_attributes__" 264),(.ref 69)⟩,⟨(PyData.keyHash P "__doc__"),(.str "__doc__" 265),.none⟩] 2),#[]⟩ (.node (fo134_treeM P) (.node ⟨(.type "tuple"),none,(.seq #[] 0),#[]⟩ .nil .nil) (.node (fo390_treeE P) .nil .nil)) (.node (fo198_treeM P) (.node ⟨.none,none,(.fields #[]),#[]⟩ .nil .nil) (.node ⟨(.type "tuple"),none,(.seq #[(.str "rows" 790),(.str "held" 791),(.str "own" 792),(.str "now" 793),(.str "k" 794),(.str "size" 795),(.str "thing" 796)] 0),#[]⟩ .nil .nil))) (.node ⟨(.type "tuple"),none,(.seq #[] 0),#[]⟩ (.node ⟨.none,none,(.fields #[]),#[]⟩ (.node ⟨(.type "getset_descriptor"),none,(.fields #[(.str "__weakref__" 580),(.ref 292),(.builtin "ExceptionGroup.__weakref__"),.none]),#[]⟩ .nil .nil) (.node ⟨.none,none,(.fields #[]),#[]⟩ .nil .nil)) (.node ⟨(.type "getset_descriptor"),none,(.fields #[(.str "__dict__" 486),(.ref 229),(.builtin "function.__dict__"),(.builtin "function.__dict__#set")]),#[]⟩ (.node ⟨(.type "code"),none,(.fields #[(.str "StrictQueues" 663),(.str "StrictQueues" 664),(.str "/claim/cut.py" 665),(.int 165 0),(.int 0 0),(.int 0 0),(.int 0 0),(.int 0 0),(.ref 356),(.bool false),(.int 181 0),(.ref 357),.none,.none,.none,.none,(.int 666 0),(.int 165 0),(.str "/claim/cut.py" 667)]),#[]⟩ .nil .nil) .nil))) (.node ⟨(.type "tuple"),none,(.seq #[(.ref 38)] 0),#[]⟩ (.node ⟨(.type "code"),none,(.fields #[(.str "__init__" 284),(.str "Bucket.__init__" 285),(.str "/claim/cut.py" 286),(.int 21 0),(.int 3 0),(.int 0 0),(.int 0 0),(.int 3 0),(.ref 81),(.bool true),(.int 181 0),(.ref 82),.none,(.ref 83),(.ref 84),(.ref 85),(.int 290 0),(.int 21 0),(.str "/claim/cut.py" 291)]),#[]⟩ (.node ⟨(.type "frame"),none,.plain,#[(some (.ref 149)),(some (.ref 3)),(some (.ref 146)),none,(some (.str "switchloom.shapers" 366)),none,(some (.ref 0))]⟩ (.node ⟨(.type "tuple"),none,(.seq #[(.str "self" 558),(.str "pause" 559),(.str "now" 560),(.str "times" 561),(.str "priority" 562)] 0),#[]⟩ .nil .nil) (.node (fo406_treeE P) .nil .nil)) (.node ⟨.none,none,(.fields #[]),#[]⟩ (.node ⟨(.type "getset_descriptor"),none,(.fields #[(.str "__dict__" 645),(.ref 341),(.builtin "function.__dict__"),(.builtin "function.__dict__#set")]),#[]⟩ .nil .nil) (.node (fo470_treeE P) .nil .nil))) (.node ⟨(.type "tuple"),none,(.seq #[(.str "self" 330),(.str "size" 331),(.str "now" 332)] 0),#[]⟩ (.node ⟨(.type "getset_descriptor"),none,(.fields #[(.str "__dict__" 418),(.ref 181),(.builtin "function.__dict__"),(.builtin "function.__dict__#set")]),#[]⟩ (.node (fo310_treeE P) .nil .nil) (.node ⟨(.type "tuple"),none,(.seq #[] 0),#[]⟩ .nil .nil)) (.node ⟨(.type "code"),none,(.fields #[(.str "__init__" 509),(.str "PauseFrame.__init__" 510),(.str "/claim/cut.py" 511),(.int 113 0),(.int 2 0),(.int 0 0),(.int 0 0),(.int 3 0),(.ref 241),(.bool true),(.int 181 0),(.ref 242),.none,(.ref 243),(.ref 244),(.ref 245),(.int 514 0),(.int 113 0),(.str "/claim/cut.py" 515)]),#[]⟩ (.node ⟨.none,none,(.fields #[]),#[]⟩ .nil .nil) .nil)))) (.node ⟨.none,none,(.fields #[]),#[]⟩ (.node ⟨.none,none,(.fields #[]),#[]⟩ (.node ⟨.none,none,(.fields #[(.int 21 0),(.int 4 0),(.ref 86),(.int 29 0),(.int 4 0),(.ref 93),(.int 37 0),(.int 4 0),(.ref 100),(.int 40 0),(.int 4 0),(.ref 107),(.int 44 0),(.int 4 0),(.ref 114),(.int 47 0),(.int 4 0),(.ref 121),(.int 53 0),(.int 4 0),(.ref 128),(.int 56 0),(.int 4 0),(.ref 135)]),#[]⟩ (.node ⟨(.type "super"),none,(.fields #[(.ref 139),(.ref 139),(.ref 139)]),#[]⟩ (.node ⟨.none,none,(.fields #[]),#[]⟩ .nil .nil) (.node ⟨(.type "super"),none,(.fields #[(.ref 395),(.ref 395),(.ref 395)]),#[]⟩ .nil .nil)) (.node ⟨(.type "tuple"),none,(.seq #[] 0),#[]⟩ (.node ⟨(.type "tuple"),none,(.seq #[(.str "self" 634),(.str "found" 635)] 0),#[]⟩ .nil .nil) (.node ⟨(.type "code"),none,(.fields #[(.str "_law_bounded" 800),(.str "_law_bounded" 801),(.str "/claim/cut.py" 802),(.int 224 0),(.int 3 0),(.int 0 0),(.int 0 0),(.int 3 0),(.ref 459),(.bool true),(.int 181 0),(.ref 460),.none,.none,.none,(.ref 461),(.int 803 0),(.int 224 0),(.str "/claim/cut.py" 804)]),#[]⟩ .nil .nil))) (.node ⟨.none,none,(.fields #[]),#[]⟩ (.node ⟨(.type "tuple"),none,(.seq #[(.str "self" 410),(.str "size" 411),(.str "now" 412)] 0),#[]⟩ (.node ⟨(.type "code"),none,(.fields #[(.str "QueueRow" 589),(.str "QueueRow" 590),(.str "/claim/cut.py" 591),(.int 134 0),(.int 0 0),(.int 0 0),(.int 0 0),(.int 0 0),(.ref 300),(.bool false),(.int 181 0),(.ref 301),.none,.none,.none,.none,(.int 592 0),(.int 134 0),(.str "/claim/cut.py" 593)]),#[]⟩ .nil .nil) (.node (fo430_treeE P) .nil .nil)) (.node ⟨.none,none,(.fields #[(.int 113 0),(.int 4 0),(.ref 246)]),#[]⟩ (.node ⟨.none,none,(.fields #[]),#[]⟩ .nil .nil) .nil))) (.node ⟨(.type "tuple"),none,(.seq #[] 0),#[]⟩ (.node (fo94_treeM P) (.node ⟨(.type "tuple"),none,(.seq #[] 0),#[]⟩ (.node ⟨(.type "tuple"),none,(.seq #[] 0),#[]⟩ .nil .nil) (.node ⟨(.type "tuple"),none,(.seq #[] 0),#[]⟩ .nil .nil)) (.node ⟨(.type "tuple"),none,(.seq #[(.str "self" 476),(.str "now" 477),(.str "found" 478)] 0),#[]⟩ (.node (fo350_treeE P) .nil .nil) .nil)) (.node ⟨(.type "tuple"),none,(.seq #[] 0),#[]⟩ (.node ⟨.none,none,(.fields #[(.int 84 0),(.int 4 0),(.ref 199),(.int 89 0),(.int 4 0),(.ref 204),(.int 94 0),(.int 4 0),(.ref 211),(.int 97 0),(.int 4 0),(.ref 218),(.int 104 0),(.int 4 0),(.ref 225)]),#[]⟩ (.node ⟨(.type "tuple"),none,(.seq #[] 0),#[]⟩ .nil .nil) (.node ⟨.none,none,(.fields #[]),#[]⟩ .nil .nil)) (.node ⟨(.type "builtin_function_or_method"),none,(.fields #[(.builtin "object.__init_subclass__"),(.ref 250)]),#[]⟩ (.node ⟨.none,none,(.fields #[]),#[]⟩ .nil .nil) .nil))))))))
noncomputable def lM : List Stmt := (behindTheImports prg).take 13
noncomputable def lE : List Stmt := (behindTheImports prg).drop 13
noncomputable def qM : Pos := ⟨110, 0, 110, 10⟩
noncomputable def sM (w : World) (os : OsState) : SharedT := { tree := treeM w.params, n := 234, life := {}, gens := ⟨[]⟩, drawn := {}, toks := 497, os := os }
noncomputable def sE (w : World) (os : OsState) : SharedT := { tree := treeE w.params, n := 476, life := {}, gens := ⟨[]⟩, drawn := {}, toks := 819, os := os }
theorem runM (w : World) : (fun os => segRunT treeTable prg w 11 ann0 1 2000 (sT w os) (piecesOf lM env0 cE q0 [topFrame q0])) = fun os => some (.next, sM w os, cE, qM) := by
  rw [Fast.te10110043849684766642, Fast.te14364793385576792824]
  kernel_rfl!
theorem runE (w : World) : (fun os => segRunT treeTable prg w 11 ann0 1 2000 (sM w os) (piecesOf lE env0 cE qM [topFrame q0])) = fun os => some (.next, sE w os, cE, qE) := by
  rw [Fast.te10110043849684766642, Fast.te14364793385576792824]
  kernel_rfl!
theorem lookE (w : World) : (fun os => (topRun treeTable prg w 11 ann0 2 (sE w os).abs ⟨doneF .next, cE, qE, [topFrame q0]⟩).map (looks0 w)) = fun os => some (good0 w) := by
  rw [Fast.te14364793385576792824, Fast.te14082659384304107361]
  unfold looks0
  rw [Fast.te4187177175401517315, Fast.te5923862056798008813]
  kernel_rfl!

theorem open0 : ∀ w : World, (fencedOpening treeTable prg w 7228).map (fun s => (s.heap, s.gens, s.drawn, s.toks)) = some (boot_heap w.params, Array.mk [], boot_drawn, boot_toks) :=
  boot_open (by kernel_rfl!) (by decide) (fun s => by kernel_rfl!)
theorem size0 (w : World) : ((boot_heap w.params).isNs mainGlobals && (Array.mk [] : Array GenState).size == 0, (boot_heap w.params).objs.size, (boot_heap w.params).nsMap mainGlobals "__annotations__") = (true, 11, ann0) := by
  rw [Fast.te8920871248978507458]
  kernel_rfl!
theorem left0 : LeftO rw0.prog hd.view_39 lo1 xt hk.obs hk.val 7228 := by
  refine left_of_run (p := prg) (M := 12 + (1 + (2000 + (2000 + 2)))) open0 size0 (by decide) fun w os => ?_
  obtain ⟨s₁, h1, h2⟩ := Option.map_eq_some_iff.mp (congrFun (lookE w) os)
  refine ⟨s₁, go_top (pre0 w os) (piece_block (block0 w os) ?_), h2⟩
  have k := piece_app (rest := lE) (segRun_of (congrFun (runM w) os)) (piece_app (rest := []) (segRun_of (congrFun (runE w) os)) h1)
  rw [show lM ++ lE = behindTheImports prg from List.take_append_drop 13 _] at k
  exact k
theorem said0 : PySem.Challenge.rw_pc0376_01.wellSaid = true := by
  rw [Fast.te9446332074065402090]
  decide +kernel
end Mine
open PyProof.V PySem.Calls
namespace Mine
theorem fill_now (h : PySem.Challenge.rw_pc0376_01.Holds) : hd.heap_39 = hd.heap_39 ∨ PySem.Challenge.rw_pc0376_01.Holds := by
  k_fill
  exact .inr h

@[reducible] def CA (d u : Nat) (g : Option (List Code)) (fs : List Env) : Around := { handled := none, depth := d, frames := some fs, guards := g, units := u }
theorem to_CA {α : Type} {M : Model} {A : Around} {t : Sem α} {Q : α → Shared → Prop} {E : Value → Shared → Prop} {s : Shared} {fs : List Env} {d u : Nat}
    (hh : A.handled = none) (hf : A.frames = some fs) (hd : A.depth ≤ d) (hu : A.units ≤ u) (h : wpAny M (CA d u A.guards fs) t Q E s) : wpAny M A t Q E s := by
  intro Γ p hΓ
  refine h Γ p ⟨hΓ.1.trans hh, Nat.le_trans hΓ.2.1 hd, fun l hl => hΓ.2.2.1 l (hf.trans hl), hΓ.2.2.2.1, Nat.le_trans hΓ.2.2.2.2 hu⟩

structure Cx (w : World) (A A₀ : Around) (base h₀ : Heap) (outer : List Env) (env : Env) (L : Addr) (mean : ExcName → Option Value) (mg mb : Str → Option Value) (dp : Nat) : Prop where
  B : Below A₀ base outer h₀
  X : (hd.heap_39 w.params).In h₀
  T : Top hd.view_39 (looseW hd.view_39 [Str.ofString "SettingError"]) mean mg mb h₀
  hh : A.handled = none
  hA : A.frames = some (env :: outer)
  hf : env.frame = some L
  hk : env.scope.kind = .function
  hdp : A.depth ≤ dp
  hun : A.units ≤ dp

noncomputable def IsSrc (w : World) (o : Obj) : Prop := ∃ (a b : Int) (ta tb : Tok), o.IsDictOf (PySem.strKind PySem.Challenge.rw_pc0376_01.row.prog w) [(Str.ofString "digits", .int a ta), (Str.ofString "stir", .int b tb)]

theorem pull {d : Addr} {o : Obj} {news : List (Addr × Obj)} {g : Obj → List (Addr × Obj)} (U : UpdF d o news g) :
    ∃ rest : List (Addr × Obj), (∀ p ∈ rest, p.1 ≠ d) ∧ (∀ p, p ∈ news ↔ p = (d, o) ∨ p ∈ rest) ∧ ∀ o' p, p ∈ g o' ↔ p = (d, o') ∨ p ∈ rest := by
  obtain ⟨pre, post, rfl, hg, a, b⟩ := U.split
  refine ⟨pre ++ post, ?_, ?_, ?_⟩
  · intro p hp; rcases List.mem_append.mp hp with h | h; exact a p h; exact b p h
  · intro p; simp only [List.mem_cons, List.mem_append]; grind
  · intro o' p; rw [hg]; simp only [List.mem_cons, List.mem_append]; grind
theorem getD_mem {ns : List Int} {r : Int} (h0 : 0 ≤ r) (h1 : r < (ns.length : Int)) : ns.getD r.toNat 0 ∈ ns := by
  have h : r.toNat < ns.length := by omega
  rw [List.getD_eq_getElem?_getD, List.getElem?_eq_getElem h]
  exact List.getElem_mem h
theorem isSrc_ne {w : World} {o : Obj} (h : IsSrc w o) {xs : Array Value} {n : Nat} : listOf xs n ≠ o := by
  rintro rfl
  obtain ⟨a, b, ta, tb, es, ep, _, hd, _⟩ := h
  cases hd

abbrev key (w : World) (x : String) : Int := PyData.keyHash w.params (Str.ofString x)
abbrev ent (w : World) (x : String) (t : Tok) (v : Value) : DictEntry := ⟨PyData.keyHash w.params (Str.ofString x), .str (Str.ofString x) t, v⟩
/-- a bucket's own dict -/
abbrev bkObj (w : World) (rate burst grains time : Int) (t1 t2 t3 t4 u1 u2 u3 u4 : Tok) : Obj :=
  dictOf [ent w "rate" t1 (.int rate u1), ent w "burst" t2 (.int burst u2), ent w "grains" t3 (.int grains u3), ent w "time" t4 (.int time u4)] 4
noncomputable def IsBk (w : World) (o : Obj) (rate burst grains time : Int) : Prop :=
  ∃ t1 t2 t3 t4 u1 u2 u3 u4, o = bkObj w rate burst grains time t1 t2 t3 t4 u1 u2 u3 u4
noncomputable def mn (a b : Int) : Int := if b < a then b else a
noncomputable def filled (rate burst grains time now : Int) : Int := if now ≤ time then grains else mn (grains + rate * (now - time)) (burst * 100)
noncomputable def filledT (time now : Int) : Int := if now ≤ time then time else now
/-- what Shaper.sent answers and leaves -/
noncomputable def SentOut (rate burst grains time size now : Int) (b : Bool) (gr tm : Int) : Prop :=
  b = decide (mn size burst * 100 ≤ filled rate burst grains time now) ∧ gr = (if b then filled rate burst grains time now - size * 100 else filled rate burst grains time now) ∧ tm = filledT time now
section
variable {rate burst grains time size now : Int}
theorem sent1 (h : now ≤ time) (h2 : (if burst < size then burst else size) * 100 ≤ grains) : SentOut rate burst grains time size now true (grains - size * 100) time := by
  refine ⟨?_, ?_, ?_⟩ <;> simp only [filled, filledT, mn, if_pos h, if_true]
  exact (decide_eq_true h2).symm
theorem sent2 (h : now ≤ time) (h2 : ¬ (if burst < size then burst else size) * 100 ≤ grains) : SentOut rate burst grains time size now false grains time := by
  refine ⟨?_, ?_, ?_⟩ <;> simp only [filled, filledT, mn, if_pos h]
  · exact (decide_eq_false h2).symm
  · rfl
theorem sent3 (h : ¬ now ≤ time) (h2 : (if burst < size then burst else size) * 100 ≤ (if burst * 100 < grains + rate * (now - time) then burst * 100 else grains + rate * (now - time))) :
    SentOut rate burst grains time size now true ((if burst * 100 < grains + rate * (now - time) then burst * 100 else grains + rate * (now - time)) - size * 100) now := by
  refine ⟨?_, ?_, ?_⟩ <;> simp only [filled, filledT, mn, if_neg h, if_true]
  exact (decide_eq_true h2).symm
theorem sent4 (h : ¬ now ≤ time) (h2 : ¬ (if burst < size then burst else size) * 100 ≤ (if burst * 100 < grains + rate * (now - time) then burst * 100 else grains + rate * (now - time))) :
    SentOut rate burst grains time size now false (if burst * 100 < grains + rate * (now - time) then burst * 100 else grains + rate * (now - time)) now := by
  refine ⟨?_, ?_, ?_⟩ <;> simp only [filled, filledT, mn, if_neg h]
  · exact (decide_eq_false h2).symm
  · rfl
end
noncomputable def VOpt (v : Value) (x : Option Int) : Prop := match x with | none => v = .none | some i => ∃ t, v = .int i t
/-- the time at which a shaper lets a size go, told at now -/
noncomputable def dueT (rate burst grains time size now : Int) : Option Int :=
  if mn size burst * 100 - filled rate burst grains time now ≤ 0 then some now else if rate = 0 then none else some (now + Int.fdiv (mn size burst * 100 - filled rate burst grains time now + rate - 1) rate)
noncomputable def WhenOut (rate burst grains time size now : Int) (v : Value) (gr tm : Int) : Prop := VOpt v (dueT rate burst grains time size now) ∧ gr = filled rate burst grains time now ∧ tm = filledT time now
section
variable {rate burst grains time size now : Int} {t : Tok}
theorem when1 (h : now ≤ time) (h2 : (if burst < size then burst else size) * 100 - grains ≤ 0) : WhenOut rate burst grains time size now (.int (now + 0) t) grains time := by
  refine ⟨?_, ?_, ?_⟩ <;> simp only [dueT, filled, filledT, mn, if_pos h]
  rw [if_pos h2]; exact ⟨t, by rw [Int.add_zero]⟩
theorem when2 (h : now ≤ time) (h2 : ¬ (if burst < size then burst else size) * 100 - grains ≤ 0) (h3 : rate = 0) : WhenOut rate burst grains time size now .none grains time := by
  refine ⟨?_, ?_, ?_⟩ <;> simp only [dueT, filled, filledT, mn, if_pos h]
  rw [if_neg h2, if_pos h3]; exact rfl
theorem when3 (h : now ≤ time) (h2 : ¬ (if burst < size then burst else size) * 100 - grains ≤ 0) (h3 : rate ≠ 0) :
    WhenOut rate burst grains time size now (.int (now + ((if burst < size then burst else size) * 100 - grains + rate - 1).fdiv rate) t) grains time := by
  refine ⟨?_, ?_, ?_⟩ <;> simp only [dueT, filled, filledT, mn, if_pos h]
  rw [if_neg h2, if_neg h3]; exact ⟨t, rfl⟩
theorem when4 (h : ¬ now ≤ time) (h2 : (if burst < size then burst else size) * 100 - (if burst * 100 < grains + rate * (now - time) then burst * 100 else grains + rate * (now - time)) ≤ 0) :
    WhenOut rate burst grains time size now (.int (now + 0) t) (if burst * 100 < grains + rate * (now - time) then burst * 100 else grains + rate * (now - time)) now := by
  refine ⟨?_, ?_, ?_⟩ <;> simp only [dueT, filled, filledT, mn, if_neg h]
  rw [if_pos h2]; exact ⟨t, by rw [Int.add_zero]⟩
theorem when5 (h : ¬ now ≤ time) (h2 : ¬ (if burst < size then burst else size) * 100 - (if burst * 100 < grains + rate * (now - time) then burst * 100 else grains + rate * (now - time)) ≤ 0) (h3 : rate = 0) :
    WhenOut rate burst grains time size now .none (if burst * 100 < grains + rate * (now - time) then burst * 100 else grains + rate * (now - time)) now := by
  refine ⟨?_, ?_, ?_⟩ <;> simp only [dueT, filled, filledT, mn, if_neg h]
  rw [if_neg h2, if_pos h3]; exact rfl
theorem when6 (h : ¬ now ≤ time) (h2 : ¬ (if burst < size then burst else size) * 100 - (if burst * 100 < grains + rate * (now - time) then burst * 100 else grains + rate * (now - time)) ≤ 0) (h3 : rate ≠ 0) :
    WhenOut rate burst grains time size now (.int (now + ((if burst < size then burst else size) * 100 - (if burst * 100 < grains + rate * (now - time) then burst * 100 else grains + rate * (now - time)) + rate - 1).fdiv rate) t)
      (if burst * 100 < grains + rate * (now - time) then burst * 100 else grains + rate * (now - time)) now := by
  refine ⟨?_, ?_, ?_⟩ <;> simp only [dueT, filled, filledT, mn, if_neg h]
  rw [if_neg h2, if_neg h3]; exact ⟨t, rfl⟩
end

noncomputable def Apart (d : Nat) : List Nat → Prop
  | [] => True
  | a :: r => @Ne Nat a d ∧ Apart d r
abbrev rowObj (w : World) (th : Addr) (oc drp : Int) (t1 t2 t3 t4 t5 u1 u2 u4 u5 : Tok) : Obj :=
  dictOf [ent w "most" t1 (.int 9 u1), ent w "most_octets" t2 (.int 999 u2), ent w "things" t3 (.ref th), ent w "octets" t4 (.int oc u4), ent w "dropped" t5 (.int drp u5)] 5
abbrev portObj (w : World) (q : Addr) (sv pv : Value) (t1 t2 t3 : Tok) : Obj := dictOf [ent w "queues" t1 (.ref q), ent w "shaper" t2 sv, ent w "pause" t3 pv] 3
abbrev queObj (w : World) (rl : Addr) (t1 : Tok) : Obj := dictOf [ent w "rows" t1 (.ref rl)] 1
abbrev tupObj (vs : List Value) : Obj := { cls := .type "tuple", data := .seq vs.toArray }
section
open PySem.Spec
theorem my_item {prog : Program} {w : World} {A : Around} {E : Value → Shared → Prop} {s : Shared} {value slice : PySem.Expr} {l : Addr} {vs : List Value} {k : Int} {u : Tok} {v : Value} {Q : Value → Shared → Prop}
    (hl : s.heap.IsList l vs.toArray) (h0 : 0 ≤ k) (hhi : k < 2 ^ 63) (hx : vs[k.toNat]? = some v) (h : Q v s)
    (hs : subscripted slice false (.ref l) (.int k u) = operate [.ref l, .int k u] (getItem (.ref l) (.int k u)) := by with_unfolding_all rfl) :
    wpAny (model prog w) A (subscriptTail value slice (.ref l) (.int k u)) Q E s :=
  tail_any hl.typeIs slot_list_getitem.lookup (wpAny_getItem_list hl h0 hhi (by simpa using hx) h) hs
theorem my_len {prog : Program} {w : World} {A : Around} {E : Value → Shared → Prop} {s : Shared} {l : Addr} {us : List Value} {Q : Value → Shared → Prop} (hl : s.heap.IsList l us.toArray) (hz : us.length ≤ 1000000)
    (h : Q (.int us.length (s.toks + 1)) { s with toks := s.toks + 1 + 1 }) : wpAny (model prog w) A (call (.builtin "len") [.ref l]) Q E s :=
  len_list hl (by rw [List.size_toArray]; omega) (by rw [List.size_toArray]; exact h)
theorem my_append {prog : Program} {w : World} {A : Around} {E : Value → Shared → Prop} {s : Shared} {h₀ : Heap} {L D : Addr} {m : Str → Option Value} {news news' : List (Addr × Obj)} {us : List Value} {n : Nat} {x : Value} {Q : Value → Shared → Prop}
    (F : Fr h₀ L s.heap m) (N : News h₀ L s.heap news) (U : Upd D (listOf us.toArray n) (listOf (us ++ [x]).toArray (n + 1)) news news') (hz : us.length ≤ 1000000)
    (h : ∀ h', Fr h₀ L h' m → News h₀ L h' news' → Q .none { s with heap := h' }) : wpAny (model prog w) A (call (.builtin "list.append") [.ref D, x]) Q E s :=
  append_K F N (by rw [List.push_toArray]; exact U) h (by rw [List.size_toArray, sizeLine_eq]; omega)
theorem my_pop0 {prog : Program} {w : World} {A : Around} {E : Value → Shared → Prop} {s : Shared} {h₀ : Heap} {L D : Addr} {m : Str → Option Value} {news news' : List (Addr × Obj)} {us : List Value} {n : Nat} {y : Value} {u : Tok} {Q : Value → Shared → Prop}
    (F : Fr h₀ L s.heap m) (N : News h₀ L s.heap news) (U : Upd D (listOf (y :: us).toArray n) (listOf us.toArray (n + 1)) news news') (hz : (y :: us).length ≤ 9)
    (h : ∀ h', Fr h₀ L h' m → News h₀ L h' news' → Q y { s with heap := h' }) : wpAny (model prog w) A (call (.builtin "list.pop") [.ref D, .int 0 u]) Q E s := by
  refine kl_popAt (k := 0) (p := []) (q := us) F N rfl ?_ rfl U ?_ h
  · simp [seqIndex?]
  · show (y :: us).length ≤ sizeLine
    rw [sizeLine_eq]; omega
end
theorem my_eq_nil {prog : Program} {w : World} {A : Around} {E : Value → Shared → Prop} {s : Shared} {l b : Addr} {y : Value} {us : List Value} {Q : Value → Shared → Prop} (hl : s.heap.IsList l (y :: us).toArray) (hb : s.heap.IsList b #[]) (hu : A.units < cLine)
    (h : Q (.bool false) s) : wpAny (model prog w) A (compareOp .Eq (.ref l) (.ref b)) Q E s := PySem.SeqAt.eq_list_lengthsAt hl hb (by simp) hu h
theorem my_ne_nil {prog : Program} {w : World} {A : Around} {E : Value → Shared → Prop} {s : Shared} {l b : Addr} {y : Value} {us : List Value} {Q : Value → Shared → Prop} (hl : s.heap.IsList l (y :: us).toArray) (hb : s.heap.IsList b #[]) (hu : A.units < cLine)
    (h : Q (.bool true) s) : wpAny (model prog w) A (compareOp .NotEq (.ref l) (.ref b)) Q E s := PySem.SeqAt.RcNeAt.lists_lengths hl hb (by simp) hu prog w E Q h
theorem add {h₀ h : Heap} {L : Addr} {p : Addr × Obj} {news : List (Addr × Obj)} (N : News h₀ L h news) (hm : p ∈ news) : News h₀ L h (p :: news) := by
  intro q hq
  rcases List.mem_cons.mp hq with rfl | hq
  · exact N _ hm
  · exact N _ hq
theorem my_len3 {prog : Program} {w : World} {A : Around} {E : Value → Shared → Prop} {s : Shared} {l : Addr} {a b c : Value} {Q : Value → Shared → Prop} (hl : s.heap.IsList l [a, b, c].toArray)
    (h : Q (.int 3 (s.toks + 1)) { s with toks := s.toks + 1 + 1 }) : wpAny (model prog w) A (call (.builtin "len") [.ref l]) Q E s :=
  len_list hl (by simp) (by simpa using h)
theorem ne_of_allLt {d : Addr} {l : List (Addr × Obj)} (h : AllLt d l) : ∀ p ∈ l, p.1 ≠ d := by
  induction l with
  | nil => intro p hp; cases hp
  | cons q r ih =>
    intro p hp
    rcases List.mem_cons.mp hp with rfl | hp
    · exact Nat.ne_of_lt h.1
    · exact ih h.2 p hp
theorem sub_3_1 {prog : Program} {w : World} {A : Around} {E : Value → Shared → Prop} {s : Shared} {t u : Tok} {Q : Value → Shared → Prop} (h : Q (.int 2 s.toks) { s with toks := s.toks + 1 }) :
    wpAny (model prog w) A (binaryOp .Sub (.int 3 t) (.int 1 u)) Q E s := PyProof.Rows.sub_int h
theorem unr_here {h₀ : Heap} {L I : Addr} {it : Obj} {rest : (Str → Option Value) → List (Addr × Obj) → Prop} {s₁ : Shared} {h' : Heap} {tk : Nat} {m' : Str → Option Value} {news' : List (Addr × Obj)} (F : Fr h₀ L h' m') (N : News h₀ L h' ((I, it) :: news'))
    (hI : AllLt I news') (r : rest m' news') : UnrEnd h₀ L s₁ I it rest { s₁ with heap := h', toks := tk } := UnrEnd.intro F N news' (fun _ hp => hp) (ne_of_allLt hI) r
theorem tup_add12 {prog : Program} {w : World} {A : Around} {E : Value → Shared → Prop} {s : Shared} {h₀ : Heap} {L t b : Addr} {m : Str → Option Value} {news : List (Addr × Obj)} {x y z : Value} {Q : Value → Shared → Prop}
    (F : Fr h₀ L s.heap m) (N : News h₀ L s.heap news) (ht : (t, tupObj [x]) ∈ news) (hb : (b, tupObj [y, z]) ∈ news)
    (h : ∀ D h', Fr h₀ L h' m → News h₀ L h' ((D, tupObj [x, y, z]) :: news) → AllLt D news → Q (.ref D) { s with heap := h' }) : wpAny (model prog w) A (binaryOp .Add (.ref t) (.ref b)) Q E s :=
  kde_addT F N (News.isTup N ht) (News.isTup N hb) (by simp) (by simp) (by simp) rfl fun D h' F' N' l => h D h' F' N' (allLt_of l)
theorem mem_of {a : Addr × Obj} {l : List (Addr × Obj)} (h : a ∈ l) : List.Mem a l := h
theorem comp_here {h₀ : Heap} {L I C D : Addr} {m : Str → Option Value} {s₁ : Shared} {oI oC oD : Obj} {S : List (Addr × Obj) → Prop} {rest : Value → List (Addr × Obj) → Prop} {y : Value} {h' : Heap} {tk : Nat} {news' : List (Addr × Obj)}
    (F : Fr h₀ L h' m) (N : News h₀ L h' ((I, oI) :: (C, oC) :: (D, oD) :: news')) (off : LCg.Off3 I C D news') (hS : S news') (r : rest y news') :
    LCg.CompEnd h₀ L m s₁ I oI C oC D oD S rest y { s₁ with heap := h', toks := tk } := LCg.CompEnd.intro F N news' (fun _ hp => hp) off hS r
theorem comp_here3 {h₀ : Heap} {L I C D : Addr} {m : Str → Option Value} {s₁ : Shared} {oI oC oD : Obj} {S : List (Addr × Obj) → Prop} {rest : Value → List (Addr × Obj) → Prop} {y : Value} {h' : Heap} {tk : Nat} {a b c : Addr × Obj} {news' : List (Addr × Obj)}
    (F : Fr h₀ L h' m) (N : News h₀ L h' (a :: b :: c :: (I, oI) :: (C, oC) :: (D, oD) :: news')) (off : LCg.Off3 I C D news') (ha : (@Ne Nat a.1 I) ∧ (@Ne Nat a.1 C) ∧ (@Ne Nat a.1 D)) (hb : (@Ne Nat b.1 I) ∧ (@Ne Nat b.1 C) ∧ (@Ne Nat b.1 D)) (hc : (@Ne Nat c.1 I) ∧ (@Ne Nat c.1 C) ∧ (@Ne Nat c.1 D))
    (hS : S (a :: b :: c :: news')) (r : rest y (a :: b :: c :: news')) :
    LCg.CompEnd h₀ L m s₁ I oI C oC D oD S rest y { s₁ with heap := h', toks := tk } := by
  refine LCg.CompEnd.intro F N (a :: b :: c :: news') (fun p hp => ?_) ⟨ha, hb, hc, off⟩ hS r
  simp only [List.mem_cons] at hp ⊢
  rcases hp with h | h | h | h | h | h | h
  · exact .inr (.inr (.inr (.inl h)))
  · exact .inr (.inr (.inr (.inr (.inl h))))
  · exact .inr (.inr (.inr (.inr (.inr (.inl h)))))
  · exact .inl h
  · exact .inr (.inl h)
  · exact .inr (.inr (.inl h))
  · exact .inr (.inr (.inr (.inr (.inr (.inr h)))))

/-- how the addresses of the queues lie -/
noncomputable def QLay (q dq rl r0 dr0 th0 r1 dr1 th1 r2 dr2 th2 : Nat) : Prop :=
  (@LT.lt Nat _ dq q ∧ @LT.lt Nat _ q dr0 ∧ @LT.lt Nat _ dr0 r0 ∧ @LT.lt Nat _ r0 th0 ∧ @LT.lt Nat _ th0 dr1 ∧ @LT.lt Nat _ dr1 r1 ∧ @LT.lt Nat _ r1 th1 ∧ @LT.lt Nat _ th1 dr2 ∧ @LT.lt Nat _ dr2 r2 ∧ @LT.lt Nat _ r2 th2) ∧
  @Ne Nat rl dr0 ∧ @Ne Nat rl th0 ∧ @Ne Nat rl dr1 ∧ @Ne Nat rl th1 ∧ @Ne Nat rl dr2 ∧ @Ne Nat rl th2
noncomputable def Off (rest : List (Addr × Obj)) : List Nat → Prop
  | [] => True
  | d :: r => (∀ p ∈ rest, p.1 ≠ d) ∧ Off rest r
section
open PySem.Spec
theorem tup_item0 {prog : Program} {w : World} {A : Around} {E : Value → Shared → Prop} {s : Shared} {h₀ : Heap} {L a : Addr} {news : List (Addr × Obj)} {value slice : PySem.Expr} {u : Tok} {x : Value} {r : List Value} {Q : Value → Shared → Prop}
    (N : News h₀ L s.heap news) (hm : (a, tupObj (x :: r)) ∈ news) (h : Q x s)
    (hs : subscripted slice false (.ref a) (.int 0 u) = operate [.ref a, .int 0 u] (getItem (.ref a) (.int 0 u)) := by with_unfolding_all rfl) :
    wpAny (model prog w) A (subscriptTail value slice (.ref a) (.int 0 u)) Q E s :=
  item_tupleT (j := 0) (News.isTup N hm) (by decide) (by decide) (by simp [seqIndex?]) rfl h hs
theorem tup_item1 {prog : Program} {w : World} {A : Around} {E : Value → Shared → Prop} {s : Shared} {h₀ : Heap} {L a : Addr} {news : List (Addr × Obj)} {value slice : PySem.Expr} {u : Tok} {x y : Value} {r : List Value} {Q : Value → Shared → Prop}
    (N : News h₀ L s.heap news) (hm : (a, tupObj (x :: y :: r)) ∈ news) (h : Q y s)
    (hs : subscripted slice false (.ref a) (.int 1 u) = operate [.ref a, .int 1 u] (getItem (.ref a) (.int 1 u)) := by with_unfolding_all rfl) :
    wpAny (model prog w) A (subscriptTail value slice (.ref a) (.int 1 u)) Q E s :=
  item_tupleT (j := 1) (News.isTup N hm) (by decide) (by decide) (by simp [seqIndex?]; omega) rfl h hs
end
/-- a hypothesis that the walk's closers shall not look at -/
structure Hid (P : Prop) : Prop where
  out : P
theorem sub_end {hl rest : List (Addr × Obj)} {p : Addr × Obj} (hs : ∀ p ∈ hl, p ∈ rest) (hp : p ∈ hl) : List.Mem p rest := hs p hp
theorem nil_sub {l : List (Addr × Obj)} : ∀ p ∈ ([] : List (Addr × Obj)), p ∈ l := fun _ hp => nomatch hp

theorem fill_all (h : PySem.Challenge.rw_pc0376_01.Holds) : hd.heap_39 = hd.heap_39 ∨ PySem.Challenge.rw_pc0376_01.Holds := by
  k_fill
  exact .inr h
local macro_rules | `(tactic| cell_enter) => `(tactic| (refine' code_def ?k1 ?k2 ?k3 ?k4 ?k5 ?kA ?kF ?kK ?k6 ?k7 ?k8 ?k9 ?kB ?_ ?c2 ?c3 ?c4 ?c5; (case kA => exact rfl); (case kF => first | exact rfl | assumption); (case kK => first | exact rfl | assumption); (case k1 => k_asm); (case k2 => k_asm); (case k3 => k_asm); (case k4 => k_asm); (case k5 => k_asm); (case k6 => k_is); (case k7 => k_is); (case k8 => k_room); (case k9 => first | exact BindsTo.of_eq rfl | exact binds_K (by k_in) rfl (by k_is) rfl rfl rfl); (case c5 => decide); (case kB => exact locs rfl); (case c2 => exact rfl); (case c3 => exact rfl); (case c4 => exact rfl); k_whole; intro g' L' h' FG' F' N' B' X' T'; (try dsimp only); (try k_lift B')))
local macro_rules | `(tactic| k_all) => `(tactic| with_reducible assumption)
section
section
theorem clr_L1 : True := by
  w_top off
  trivial
local macro_rules | `(tactic| cell_enter) => `(tactic| (refine' code_def ?k1 ?k2 ?k3 ?k4 ?k5 ?kA ?kF ?kK ?k6 ?k7 ?k8 ?k9 ?kB ?_ ?c2 ?c3 ?c4 ?c5; (case kA => exact rfl); (case kF => first | exact rfl | assumption); (case kK => first | exact rfl | assumption); (case k1 => k_asm); (case k2 => k_asm); (case k3 => k_asm); (case k4 => k_asm); (case k5 => k_asm); (case k6 => k_is); (case k7 => k_is); (case k8 => k_room); (case k9 => exact BindsTo.of_eq rfl); (case c5 => decide); (case kB => exact locs rfl); (case c2 => exact rfl); (case c3 => exact rfl); (case c4 => exact rfl); k_whole; intro g' L' h' FG' F' N' B' X' T'; (try dsimp only); (try k_lift B')))
local macro_rules | `(tactic| k_all) => `(tactic| assumption)
variable {w : World} {A A₀ : Around} {base h₀ : Heap} {outer : List Env} {env : Env} {L : Addr} {m : Str → Option Value} {s : Shared} {Q E : Value → Shared → Prop} {mean : ExcName → Option Value} {mg mb : Str → Option Value}
set_option maxHeartbeats 8000000 in
theorem next_core {d : Addr} {o : Obj} {top : Int} {tt : Tok} {rest : List (Addr × Obj)}
    (C : Cx w A A₀ base h₀ outer env L mean mg mb 600) (F : Fr h₀ L s.heap m) 
    (N : News h₀ L s.heap ((d, o) :: rest)) (hr : ∀ p ∈ rest, p.1 ≠ d) (ho : IsSrc w o) (htop : 0 < top)
    (hQ : ∀ r t o' h' tk', 0 ≤ r → r < top → Fr h₀ L h' m → News h₀ L h' ((d, o') :: rest) → IsSrc w o' → Q (.int r t) { s with heap := h', toks := tk' }) :
    wpAny (model PySem.Challenge.rw_pc0376_01.row.prog w) A (call (.ref 413) [.ref d, .int top tt]) Q E s := by
  obtain ⟨B, X, T, hh, hA, hf, hk, hdp, hun⟩ := C
  obtain ⟨a, b, ta, tb, ho⟩ := ho
  refine to_CA hh hA hdp hun ?_
  refine wpAny_call ?_
  k_dflt cell_enter
  k_steps
  · exfalso; omega
  · exact hQ _ _ _ _ _ (Int.fmod_nonneg_of_pos _ htop) (Int.fmod_lt_of_pos _ htop) (by assumption) (fun p hp => (by assumption : News _ _ _ (_ :: (d, _) :: rest)) p (.tail _ hp)) ⟨_, _, _, _, by assumption⟩
  · exact hQ _ _ _ _ _ (Int.fmod_nonneg_of_pos _ htop) (Int.fmod_lt_of_pos _ htop) (by assumption) (by assumption) ⟨_, _, _, _, by assumption⟩
theorem next_c {d : Addr} {o : Obj} {top : Int} {tt : Tok} {news : List (Addr × Obj)} {g : Obj → List (Addr × Obj)}
    (C : Cx w A A₀ base h₀ outer env L mean mg mb 600) (F : Fr h₀ L s.heap m) 
    (N : News h₀ L s.heap news) (U : UpdF d o news g) (ho : IsSrc w o) (htop : 0 < top)
    (hQ : ∀ r t o' h' tk', 0 ≤ r → r < top → Fr h₀ L h' m → News h₀ L h' (g o') → IsSrc w o' → Q (.int r t) { s with heap := h', toks := tk' }) :
    wpAny (model PySem.Challenge.rw_pc0376_01.row.prog w) A (call (.ref 413) [.ref d, .int top tt]) Q E s := by
  obtain ⟨pre, post, rfl, hg, a, b⟩ := U.split
  refine next_core (rest := pre ++ post) C F (fun p hp => N p ?_) ?_ ho htop fun r t o' h' tk' h1 h2 F' N' ho' => hQ r t o' h' tk' h1 h2 F' (fun p hp => N' p ?_) ho'
  · simp only [List.mem_cons, List.mem_append] at hp ⊢; grind
  · intro p hp; rcases List.mem_append.mp hp with h | h; exact a p h; exact b p h
  · rw [hg] at hp; simp only [List.mem_cons, List.mem_append] at hp ⊢; grind
end
end
section
local macro_rules | `(tactic| k_mem) => `(tactic| first | with_reducible assumption | (with_reducible refine mem_of ?_; with_reducible assumption) | exact sub_end (by with_reducible assumption) (by with_reducible assumption))
section
local macro_rules | `(tactic| walk_at "no such key") => `(tactic| fail)
local macro_rules | `(tactic| walk_at "no such key") => `(tactic| fail)
theorem clr_Q1 : True := by
  w_top off
  trivial
variable {w : World} {A A₀ : Around} {base h₀ : Heap} {outer : List Env} {env : Env} {L : Addr} {m : Str → Option Value} {s : Shared} {Q E : Value → Shared → Prop} {mean : ExcName → Option Value} {mg mb : Str → Option Value}
theorem keep2 {h₀ h : Heap} {L : Addr} {a b : Addr × Obj} {l : List (Addr × Obj)} (N : News h₀ L h (a :: b :: l)) : News h₀ L h (a :: l) := fun p hp => N p (by
  rcases List.mem_cons.mp hp with rfl | hp
  · exact .head _
  · exact .tail _ (.tail _ hp))
theorem list_here {L' : Addr} {m' : Str → Option Value} {h : Heap} {l : Addr} {xs : Array Value} (hl : h₀.IsList l xs) (F : Fr h₀ L' h m') : h.IsList l xs := hl.at fun o e => F.keep l o e
theorem list_here2 {L' : Addr} {m' : Str → Option Value} {g h : Heap} {l : Addr} {xs : Array Value} (hl : h₀.IsList l xs) (FG : Fr h₀ L g m) (F : Fr g L' h m') : h.IsList l xs := list_here (list_here hl FG) F
theorem neq_h {l b : Addr} {us : List Value} (hl : s.heap.IsList l us.toArray) (hb : s.heap.IsList b #[]) (hu : A.units < cLine)
    (h : Q (.bool (!us.isEmpty)) s) : wpAny (model PySem.Challenge.rw_pc0376_01.row.prog w) A (compareOp .NotEq (.ref l) (.ref b)) Q E s := by
  rcases us with _ | ⟨y, us⟩
  · exact PySem.SeqAt.RcNeAt.lists (e := fun _ => true) hl hb rfl hu (fun j h1 _ => absurd h1 (Nat.not_lt_zero j)) _ _ _ _ h
  · exact my_ne_nil hl hb hu h
local macro_rules | `(tactic| walk_at "compareOp NotEq ref ref") => `(tactic| (k_here; (with_reducible show wpAny _ _ (compareOp _ (Value.ref _) (Value.ref _)) _ _ _); k_dflt ((refine' neq_h ?k1 ?k2 ?k3 ?_; (case k1 => exact list_here2 (by with_reducible assumption) (by with_reducible assumption) (by k_asm)); (case k2 => exact News.isList (n := 0) (by k_asm) (List.Mem.head _)); (case k3 => k_units); k_whole))))
local macro_rules | `(tactic| walk_at "subscriptTail") => `(tactic| (k_here; (with_reducible show wpAny _ _ (subscriptTail _ _ (Value.ref _) (Value.int 0 _)) _ _ _); k_dflt ((refine' my_item ?k1 ?k2 ?k3 ?k4 ?_ ?k6; (case k1 => exact list_here2 (by with_reducible assumption) (by with_reducible assumption) (by k_asm)); (case k2 => decide); (case k3 => decide); (case k4 => rfl); (case k6 => with_unfolding_all rfl); k_whole))))
set_option maxHeartbeats 8000000 in
theorem src_core {l : Addr} {vs : List Value} {ns : List Int} {rest : List (Addr × Obj)}
    (C : Cx w A A₀ base h₀ outer env L mean mg mb 600) (F : Fr h₀ L s.heap m) (N : News h₀ L s.heap rest) (hl : h₀.IsList l vs.toArray) (hi : IntsAre vs ns) (hlen : ns.length ≤ 63)
    (hQ : ∀ d o h' tk', AllLt d rest → IsSrc w o → Fr h₀ L h' m → News h₀ L h' ((d, o) :: rest) → Q (.ref d) { s with heap := h', toks := tk' }) :
    wpAny (model PySem.Challenge.rw_pc0376_01.row.prog w) A (call (.ref 406) [.ref l]) Q E s := by
  obtain ⟨B, X, T, hh, hA, hf, hk, hdp, hun⟩ := C
  refine to_CA hh hA hdp hun ?_
  refine wpAny_call ?_
  cases hi with
  | nil =>
    k_dflt cell_enter
    k_steps
    all_goals exact hQ _ _ _ _ (And.right (by with_reducible assumption)) ⟨_, _, _, _, by assumption⟩ (by assumption) (keep2 (by with_reducible assumption))
  | cons a t hi =>
    k_dflt cell_enter
    k_steps
    all_goals exact hQ _ _ _ _ (And.right (by with_reducible assumption)) ⟨_, _, _, _, by assumption⟩ (by assumption) (keep2 (by with_reducible assumption))
end
end
section
section
theorem clr_Y1 : True := by
  w_top off
  trivial
variable {w : World} {A A₀ : Around} {base h₀ : Heap} {outer : List Env} {env : Env} {L : Addr} {m : Str → Option Value} {s : Shared} {Q E : Value → Shared → Prop} {mean : ExcName → Option Value} {mg mb : Str → Option Value}
abbrev MM (w : World) : Model := model PySem.Challenge.rw_pc0376_01.row.prog w
/-- a value as the calculus sees it: i, s hide tokens; r k is a reference to the slot k; t a tuple -/
inductive AV where
  | v (x : Value)
  | i (n : Int)
  | s (x : Str)
  | r (k : Nat)
  | t (as : List AV)
  | any
/-- where the slots lie, and the tuples -/
structure Dc where
  ad : List (Option Addr)
  T : List (Addr × Obj)
mutual
noncomputable def AV.Is (D : Dc) : AV → Value → Prop
  | .v x, y => y = x
  | .i n, y => ∃ t, y = .int n t
  | .s x, y => ∃ t, y = .str x t
  | .r k, y => ∃ a, D.ad[k]? = some (some a) ∧ y = .ref a
  | .t as, y => ∃ a vs, y = .ref a ∧ (a, tupObj vs) ∈ D.T ∧ avs D as vs
  | .any, _ => True
noncomputable def avs (D : Dc) : List AV → List Value → Prop
  | [], [] => True
  | a :: as, v :: vs => a.Is D v ∧ avs D as vs
  | _, _ => False
end
structure Dc.Le (D D' : Dc) : Prop where
  ad : ∀ (k : Nat) (a : Addr), D.ad[k]? = some (some a) → D'.ad[k]? = some (some a)
  T : ∀ p ∈ D.T, p ∈ D'.T
theorem Dc.Le.rfl {D : Dc} : D.Le D := ⟨fun _ _ h => h, fun _ h => h⟩
theorem Dc.Le.trans {D D' D'' : Dc} (h : D.Le D') (h' : D'.Le D'') : D.Le D'' := ⟨fun k a e => h'.ad k a (h.ad k a e), fun p e => h'.T p (h.T p e)⟩
mutual
theorem AV.Is.mono {D D' : Dc} (l : D.Le D') : ∀ {a : AV} {v : Value}, a.Is D v → a.Is D' v
  | .v _, _, h => h
  | .i _, _, h => h
  | .s _, _, h => h
  | .r _, _, ⟨a, h, e⟩ => ⟨a, l.ad _ _ h, e⟩
  | .t _, _, ⟨a, vs, e, h, g⟩ => ⟨a, vs, e, l.T _ h, avs.mono l g⟩
  | .any, _, _ => trivial
theorem avs.mono {D D' : Dc} (l : D.Le D') : ∀ {as : List AV} {vs : List Value}, avs D as vs → avs D' as vs
  | [], [], _ => trivial
  | _ :: _, _ :: _, ⟨h, g⟩ => ⟨h.mono l, avs.mono l g⟩
end
noncomputable def entsIs (w : World) (D : Dc) : List (Str × AV) → List DictEntry → Prop
  | [], [] => True
  | (k, a) :: es, d :: ds => (∃ t v, d = ⟨PyData.keyHash w.params k, .str k t, v⟩ ∧ a.Is D v) ∧ entsIs w D es ds
  | _, _ => False
theorem entsIs.mono {w : World} {D D' : Dc} (l : D.Le D') : ∀ {es : List (Str × AV)} {ds : List DictEntry}, entsIs w D es ds → entsIs w D' es ds := by
  intro es
  induction es with
  | nil =>
    intro ds h
    cases ds with
    | nil => exact trivial
    | cons _ _ => exact False.elim h
  | cons p es ih =>
    intro ds h
    cases ds with
    | nil => exact False.elim h
    | cons d ds =>
      obtain ⟨⟨t, v, e, h1⟩, g⟩ := h
      exact ⟨⟨t, v, e, h1.mono l⟩, ih g⟩
/-- an object as the calculus sees it -/
inductive AO where
  | inst (C : Addr) (d : Nat)
  | dct (es : List (Str × AV))
  | lst (us : List AV)
  | hel (hv : Int → Option Int)
  | sd (es : List (Str × Int))
  | src
  | gone
noncomputable def AO.Is (w : World) (D : Dc) (a : Addr) : AO → Obj → Prop
  | .inst C d, o => ∃ x, D.ad[d]? = some (some x) ∧ o = instObj C x
  | .dct es, o => ∃ ds n, o = dictOf ds n ∧ entsIs w D es ds
  | .lst us, o => ∃ vs n, o = listOf vs.toArray n ∧ avs D us vs
  | .hel hv, o => (a == sysModules) = false ∧ ∃ kvs, o.IsDictOf (PySem.intKind PySem.Challenge.rw_pc0376_01.row.prog w) kvs ∧ ∀ k, ∃ t, valueAt kvs k = (hv k).map fun i => Value.int i t
  | .sd es, o => ∃ f : Str → Tok, o.IsDictOf (PySem.strKind PySem.Challenge.rw_pc0376_01.row.prog w) (es.map fun p => (p.1, Value.int p.2 (f p.1)))
  | .src, o => IsSrc w o
  | .gone, _ => False
theorem AO.Is.mono {w : World} {D D' : Dc} {a : Addr} (l : D.Le D') {x : AO} {o : Obj} (h : x.Is w D a o) : x.Is w D' a o := by
  cases x with
  | inst C d => obtain ⟨a, h, e⟩ := h; exact ⟨a, l.ad _ _ h, e⟩
  | dct es => obtain ⟨ds, n, e, h⟩ := h; exact ⟨ds, n, e, h.mono l⟩
  | lst us => obtain ⟨ds, n, e, h⟩ := h; exact ⟨ds, n, e, h.mono l⟩
  | hel hv => exact h
  | sd es => exact h
  | src => exact h
  | gone => exact h
abbrev AL := List AO
noncomputable def ledIs (w : World) (D : Dc) : List (Option Addr) → AL → List (Addr × Obj) → Prop
  | [], [], led => led = []
  | none :: as, x :: al, led => x = .gone ∧ ledIs w D as al led
  | some a :: as, x :: al, led => ∃ o r, led = (a, o) :: r ∧ x.Is w D a o ∧ ledIs w D as al r
  | _, _, _ => False
abbrev AM := List (Str × AV)
/-- what stands still while a function's body runs -/
structure Un where
  A : Around
  A₀ : Around
  base : Heap
  h₀ : Heap
  outer : List Env
  en : Env
  L : Addr
  mean : ExcName → Option Value
  mg : Str → Option Value
  mb : Str → Option Value
  d : Nat
  fz : List (Addr × Obj)
  cl : List (Str × Addr)
  ci : List (Str × Addr)
  C : Addr
  nv : Str → Option Value
noncomputable def Un.Ok (w : World) (u : Un) : Prop := Cx w u.A u.A₀ u.base u.h₀ u.outer u.en u.L u.mean u.mg u.mb u.d
/-- the ledger -/
structure LedOk (w : World) (u : Un) (D : Dc) (h : Heap) (al : AL) (led : List (Addr × Obj)) : Prop where
  is : ledIs w D D.ad al led
  nd : (led.map (·.1)).Nodup
  off : ∀ q ∈ led, ∀ p ∈ D.T ++ u.fz, q.1 ≠ p.1
  offT : ∀ q ∈ D.T, ∀ p ∈ u.fz, q.1 ≠ p.1
  N : News u.h₀ u.L h (led ++ (D.T ++ u.fz))
noncomputable def Nw (w : World) (u : Un) (D : Dc) (h : Heap) (al : AL) : Prop := ∃ led, LedOk w u D h al led
structure Cd where
  q : Str
  sc : Scope
  f : Addr
  cd : Value
  inner : Option Scope
  nc : List Str
  nt : List Str
/-- the frame's own environment; the one in which an expression is worth: a comprehension's, where there is one -/
abbrev Cd.fe (c : Cd) (u : Un) : Env := envX c.q c.sc u.L c.f c.cd u.cl
abbrev Cd.ev (c : Cd) (u : Un) : Env := match c.inner with | none => c.fe u | some sc' => compEnvC sc' u.ci u.C (c.fe u)
abbrev Cd.stands (c : Cd) (x : Str) : Bool := (c.nc ++ c.nt).contains x
/-- what a name reads: cells and a comprehension's targets stand still -/
noncomputable def rdn (u : Un) (c : Cd) (m : Str → Option Value) (x : Str) : Option Value := if c.stands x = true then u.nv x else m x
noncomputable def FrA (u : Un) (c : Cd) (D : Dc) (h : Heap) (am : AM) : Prop := ∃ m, Fr u.h₀ u.L h m ∧ ∀ x a, am.lookup x = some a → ∃ v, rdn u c m x = some v ∧ a.Is D v
structure Ok3 (w : World) (u : Un) (c : Cd) : Prop where
  ok : u.Ok w
  en : u.en = c.fe u
  k : c.sc.kind = .function
  ki : ∀ sc', c.inner = some sc' → sc'.kind = .function
  cells : ∀ x ∈ c.nc, ∃ ca o, (match c.inner with | none => u.cl | some _ => u.ci).lookup x = some ca ∧ (ca, o) ∈ u.fz ∧ o.data = .cell (u.nv x)
  targ : c.nt ≠ [] → ∃ oC m₂, (u.C, oC) ∈ u.fz ∧ LCg.NsObj oC m₂ ∧ ∀ x ∈ c.nt, m₂ x = u.nv x
/-- what stands at a place of the walk -/
structure St0 (w : World) (u : Un) (c : Cd) (D : Dc) (h : Heap) (ms : AM) (al : AL) : Prop where
  F : FrA u c D h ms
  N : Nw w u D h al
/-- nothing is raised -/
abbrev NoE : Value → Shared → Prop := fun _ _ => False
/-- an expression that stores nothing that is known: what it gives -/
structure EvT (e : PySem.Expr) (w : World) (u : Un) (c : Cd) (ms : AM) (ls : AL) (a : AV) : Prop where
  go : Ok3 w u c → ∀ (D : Dc) (Q : Value → Shared → Prop) (s : Shared), St0 w u c D s.heap ms ls → (∀ v tk h' D', D.Le D' → a.Is D' v → St0 w u c D' h' ms ls → Q v { s with heap := h', toks := tk }) → wpAny (MM w) u.A (eval e (c.ev u)) Q NoE s
/-- a condition -/
structure TrT (e : PySem.Expr) (w : World) (u : Un) (c : Cd) (ms : AM) (ls : AL) (b : Bool) : Prop where
  go : Ok3 w u c → ∀ (D : Dc) (Q : Bool → Shared → Prop) (s : Shared), St0 w u c D s.heap ms ls → (∀ tk h' D', D.Le D' → St0 w u c D' h' ms ls → Q b { s with heap := h', toks := tk }) → wpAny (MM w) u.A (PySem.isTrue e (c.ev u) (eval e (c.ev u))) Q NoE s
/-- arguments -/
structure ArT (es : List PySem.Expr) (w : World) (u : Un) (c : Cd) (ms : AM) (ls : AL) (as : List AV) : Prop where
  go : Ok3 w u c → ∀ (D : Dc) (pos : Pos) (Q : List Value → Shared → Prop) (s : Shared), St0 w u c D s.heap ms ls → (∀ vs tk h' D', D.Le D' → avs D' as vs → St0 w u c D' h' ms ls → Q vs { s with heap := h', toks := tk }) → wpAny (MM w) u.A (spliced (backTo pos (starEach es (c.ev u)))) Q NoE s
/-- an expression that may call and store -/
structure EvK (e : PySem.Expr) (w : World) (u : Un) (c : Cd) (ms : AM) (ls : AL) (K : AV → AL → Prop) : Prop where
  go : Ok3 w u c → ∀ (D : Dc) (Q : Value → Shared → Prop) (s : Shared), St0 w u c D s.heap ms ls → (∀ a v al tk h' D', D.Le D' → K a al → a.Is D' v → St0 w u c D' h' ms al → Q v { s with heap := h', toks := tk }) → wpAny (MM w) u.A (eval e (c.ev u)) Q NoE s
structure TrK (e : PySem.Expr) (w : World) (u : Un) (c : Cd) (ms : AM) (ls : AL) (K : Bool → AL → Prop) : Prop where
  go : Ok3 w u c → ∀ (D : Dc) (Q : Bool → Shared → Prop) (s : Shared), St0 w u c D s.heap ms ls → (∀ b al tk h' D', D.Le D' → K b al → St0 w u c D' h' ms al → Q b { s with heap := h', toks := tk }) → wpAny (MM w) u.A (PySem.isTrue e (c.ev u) (eval e (c.ev u))) Q NoE s
structure ArK (es : List PySem.Expr) (w : World) (u : Un) (c : Cd) (ms : AM) (ls : AL) (K : List AV → AL → Prop) : Prop where
  go : Ok3 w u c → ∀ (D : Dc) (pos : Pos) (Q : List Value → Shared → Prop) (s : Shared), St0 w u c D s.heap ms ls → (∀ as vs al tk h' D', D.Le D' → K as al → avs D' as vs → St0 w u c D' h' ms al → Q vs { s with heap := h', toks := tk }) → wpAny (MM w) u.A (spliced (backTo pos (starEach es (c.ev u)))) Q NoE s
inductive AF where
  | next
  | ret (a : AV)
noncomputable def AF.Is (D : Dc) : AF → Flow → Prop
  | .next, f => f = .next
  | .ret a, f => ∃ v, f = .ret v ∧ a.Is D v
/-- statements -/
structure Ex (sts : List Stmt) (w : World) (u : Un) (c : Cd) (ms : AM) (ls : AL) (K : AF → AM → AL → Prop) : Prop where
  go : Ok3 w u c → ∀ (D : Dc) (Q : Flow → Shared → Prop) (s : Shared), St0 w u c D s.heap ms ls → (∀ f fl m' al' tk h' D', D.Le D' → K f m' al' → f.Is D' fl → St0 w u c D' h' m' al' → Q fl { s with heap := h', toks := tk }) → wpAny (MM w) u.A (execs sts (c.ev u)) Q NoE s
/-- a call's contract -/
structure CallW (w : World) (u : Un) (al : AL) (f : Value) (as : List AV) (K : AV → AL → Prop) : Prop where
  go : u.Ok w → ∀ (D : Dc) vs, avs D as vs → ∀ (m : Str → Option Value) (Q : Value → Shared → Prop) (s : Shared), Fr u.h₀ u.L s.heap m → Nw w u D s.heap al → (∀ a v al' tk h' D', D.Le D' → K a al' → a.Is D' v → Fr u.h₀ u.L h' m → Nw w u D' h' al' → Q v { s with heap := h', toks := tk }) → wpAny (MM w) u.A (call f vs) Q NoE s
/-- a call's contract, for the code -/
structure CodeW (w : World) (u : Un) (al : AL) (f : Value) (as : List AV) (K : AV → AL → Prop) : Prop where
  go : u.Ok w → ∀ (D : Dc) vs, avs D as vs → ∀ (m : Str → Option Value) (R : Result → Shared → Prop) (s : Shared), Fr u.h₀ u.L s.heap m → Nw w u D s.heap al → (∀ a v al' tk h' D', D.Le D' → K a al' → a.Is D' v → Fr u.h₀ u.L h' m → Nw w u D' h' al' → R (.ok (.ret v)) { s with heap := h', toks := tk }) → codeAny (MM w) u.A (.call f ⟨vs, []⟩) R s
theorem CodeW.call {w : World} {u : Un} {al : AL} {f : Value} {as : List AV} {K : AV → AL → Prop} (h : CodeW w u al f as K) : CallW w u al f as K :=
  ⟨fun ok D vs hvs m _ s F N q => wpAny_call (h.go ok D vs hvs m _ s F N q)⟩
section
variable {w : World} {u : Un} {c : Cd} {ms : AM} {ls : AL} {e e1 e2 : PySem.Expr} {a b : AV} {x : Str} {p p2 : Pos} {al : AL} {D : Dc} {h : Heap} {led : List (Addr × Obj)}
theorem FrA.mono {D' : Dc} {am : AM} (l : D.Le D') (F : FrA u c D h am) : FrA u c D' h am := let ⟨m, F, g⟩ := F; ⟨m, F, fun x a e => let ⟨v, e, i⟩ := g x a e; ⟨v, e, i.mono l⟩⟩
theorem led_get : ∀ {ad : List (Option Addr)} {al : AL} {led : List (Addr × Obj)} {k : Nat} {a : Addr} {x : AO}, ledIs w D ad al led → ad[k]? = some (some a) → al[k]? = some x → ∃ o, x.Is w D a o ∧ (a, o) ∈ led
  | none :: _, _ :: _, _, 0, _, _, _, h, _ => nomatch h
  | some _ :: _, y :: _, _, 0, _, _, ⟨o, r, e, ho, _⟩, h, g => by cases h; cases g; exact ⟨o, ho, e ▸ .head _⟩
  | none :: _, _ :: _, _, _ + 1, _, _, ⟨_, h⟩, h1, h2 => led_get h h1 h2
  | some _ :: _, _ :: _, _, _ + 1, _, _, ⟨_, _, e, _, h⟩, h1, h2 => let ⟨o, ho, hm⟩ := led_get h h1 h2; ⟨o, ho, e ▸ .tail _ hm⟩
theorem led_live {x : AO} (n : x ≠ .gone) : ∀ {ad : List (Option Addr)} {al : AL} {led : List (Addr × Obj)} (k : Nat), ledIs w D ad al led → al[k]? = some x → ∃ a, ad[k]? = some (some a)
  | [], [], _, _, _, g => nomatch g
  | none :: _, y :: _, _, 0, ⟨e, _⟩, g => by cases g; exact absurd e n
  | some a :: _, _ :: _, _, 0, _, _ => ⟨a, rfl⟩
  | none :: _, _ :: _, _, k + 1, ⟨_, h⟩, h2 => led_live n k h h2
  | some _ :: _, _ :: _, _, k + 1, ⟨_, _, _, _, h⟩, h2 => led_live n k h h2
theorem led_key : ∀ {ad : List (Option Addr)} {al : AL} {led : List (Addr × Obj)} {k : Nat} {a : Addr}, ledIs w D ad al led → ad[k]? = some (some a) → a ∈ led.map (·.1)
  | none :: _, _ :: _, _, 0, _, _, h => nomatch h
  | some _ :: _, y :: _, _, 0, _, ⟨o, r, e, ho, _⟩, h => by cases h; rw [e]; exact .head _
  | none :: _, _ :: _, _, _ + 1, _, ⟨_, h⟩, h1 => led_key h h1
  | some _ :: _, _ :: _, _, _ + 1, _, ⟨_, _, e, _, h⟩, h1 => by rw [e]; exact .tail _ (led_key h h1)
theorem led_set {y : AO} {o' : Obj} {a : Addr} (hy : y.Is w D a o') : ∀ {ad : List (Option Addr)} {al : AL} {led : List (Addr × Obj)} {k : Nat}, ledIs w D ad al led → (led.map (·.1)).Nodup → ad[k]? = some (some a) → ledIs w D ad (al.set k y) (led.map fun q => if q.1 = a then (a, o') else q)
  | none :: _, _ :: _, _, 0, _, _, h => nomatch h
  | some b :: _, _ :: _, _, 0, ⟨o, r, e, ho, h⟩, nd, ha => by
    cases ha; subst e
    refine ⟨o', r, ?_, hy, h⟩
    rw [List.map_cons, if_pos rfl]
    congr 1
    have hn : a ∉ r.map (·.1) := (List.nodup_cons.mp nd).1
    conv => rhs; rw [← List.map_id r]
    refine List.map_congr_left fun q hq => if_neg fun (e' : q.1 = a) => hn ?_
    rw [← e']; exact List.mem_map_of_mem hq
  | none :: _, _ :: _, _, _ + 1, ⟨e, h⟩, nd, h1 => ⟨e, led_set hy h nd h1⟩
  | some b :: _, _ :: _, _, _ + 1, ⟨o, r, e, ho, h⟩, nd, h1 => by
    subst e
    have hn : b ∉ r.map (·.1) := (List.nodup_cons.mp nd).1
    have hb : b ≠ a := fun e => hn (e ▸ led_key h h1)
    refine ⟨o, _, ?_, ho, led_set hy h (List.nodup_cons.mp nd).2 h1⟩
    rw [List.map_cons, if_neg hb]
theorem ledIs.mono {D' : Dc} (l : D.Le D') : ∀ {ad : List (Option Addr)} {al : AL} {led : List (Addr × Obj)}, ledIs w D ad al led → ledIs w D' ad al led
  | [], [], _, h => h
  | none :: _, _ :: _, _, ⟨e, h⟩ => ⟨e, h.mono l⟩
  | some _ :: _, _ :: _, _, ⟨o, r, e, ho, h⟩ => ⟨o, r, e, ho.mono l, h.mono l⟩
theorem led_len : ∀ {ad : List (Option Addr)} {al : AL} {led : List (Addr × Obj)}, ledIs w D ad al led → ad.length = al.length
  | [], [], _, _ => rfl
  | none :: _, _ :: _, _, ⟨_, h⟩ => congrArg (· + 1) (led_len h)
  | some _ :: _, _ :: _, _, ⟨_, _, _, _, h⟩ => congrArg (· + 1) (led_len h)
theorem led_push {y : AO} {o : Obj} {a : Addr} (hy : y.Is w D a o) : ∀ {ad : List (Option Addr)} {al : AL} {led : List (Addr × Obj)}, ledIs w D ad al led → ledIs w D (ad ++ [some a]) (al ++ [y]) (led ++ [(a, o)])
  | [], [], _, h => by cases h; exact ⟨o, [], rfl, hy, rfl⟩
  | none :: _, _ :: _, _, ⟨e, h⟩ => ⟨e, led_push hy h⟩
  | some _ :: _, _ :: _, _, ⟨o, r, e, ho, h⟩ => by subst e; exact ⟨o, _, rfl, ho, led_push hy h⟩
theorem led_pad : ∀ {ad : List (Option Addr)} {al : AL} {led : List (Addr × Obj)}, ledIs w D ad al led → ledIs w D (ad ++ [none]) (al ++ [.gone]) led
  | [], [], _, h => ⟨rfl, h⟩
  | none :: _, _ :: _, _, ⟨e, h⟩ => ⟨e, led_pad h⟩
  | some _ :: _, _ :: _, _, ⟨o, r, e, ho, h⟩ => ⟨o, r, e, ho, led_pad h⟩
/-- the hidden map, with one slot, one tuple, a vacant slot more -/
noncomputable def Dc.push (D : Dc) (a : Addr) : Dc := ⟨D.ad ++ [some a], D.T⟩
noncomputable def Dc.tup (D : Dc) (a : Addr) (vs : List Value) : Dc := ⟨D.ad, (a, tupObj vs) :: D.T⟩
noncomputable def Dc.pad (D : Dc) : Dc := ⟨D.ad ++ [none], D.T⟩
theorem get_left {α : Type} {l l' : List α} {k : Nat} {x : α} (h : l[k]? = some x) : (l ++ l')[k]? = some x := by
  rw [List.getElem?_append_left (List.getElem?_eq_some_iff.mp h).1]; exact h
theorem Dc.le_push {a : Addr} : D.Le (D.push a) := ⟨fun _ _ h => get_left h, fun _ h => h⟩
theorem Dc.le_tup {a : Addr} {vs : List Value} : D.Le (D.tup a vs) := ⟨fun _ _ h => h, fun _ h => .tail _ h⟩
theorem Dc.le_pad : D.Le D.pad := ⟨fun _ _ h => get_left h, fun _ h => h⟩
/-- the ledger as the kit's rules want it -/
structure Opn (w : World) (u : Un) (D : Dc) (h : Heap) (al : AL) (L : List (Addr × Obj)) : Prop where
  N : News u.h₀ u.L h L
  keep : ∀ {h'}, News u.h₀ u.L h' L → Nw w u D h' al
  obj : ∀ {k : Nat} {z : AO} {a : Addr}, D.ad[k]? = some (some a) → al[k]? = some z → ∃ o, z.Is w D a o ∧ (a, o) ∈ L
  tup : ∀ p ∈ D.T, p ∈ L
  fz : ∀ p ∈ u.fz, p ∈ L
  live : ∀ {k : Nat} {z : AO}, al[k]? = some z → z ≠ .gone → ∃ a, D.ad[k]? = some (some a)
  push : ∀ {h' : Heap} {a : Addr} {o : Obj} {y : AO}, News u.h₀ u.L h' ((a, o) :: L) → (∀ p ∈ L, p.1 ≠ a) → y.Is w (D.push a) a o → Nw w u (D.push a) h' (al ++ [y])
  mktup : ∀ {h' : Heap} {a : Addr} {vs : List Value}, News u.h₀ u.L h' ((a, tupObj vs) :: L) → (∀ p ∈ L, p.1 ≠ a) → Nw w u (D.tup a vs) h' al
  len : D.ad.length = al.length
theorem LedOk.push {h' : Heap} {a : Addr} {o : Obj} {y : AO} (L : LedOk w u D h al led) (N' : News u.h₀ u.L h' ((a, o) :: (led ++ (D.T ++ u.fz)))) (hf : ∀ p ∈ led ++ (D.T ++ u.fz), p.1 ≠ a) (hy : y.Is w (D.push a) a o) : LedOk w u (D.push a) h' (al ++ [y]) (led ++ [(a, o)]) := by
  refine ⟨led_push hy (L.is.mono Dc.le_push), ?_, fun q hq p hp => ?_, L.offT, fun q hq => N' q ?_⟩
  · rw [List.map_append, List.nodup_append]
    refine ⟨L.nd, List.nodup_cons.mpr ⟨List.not_mem_nil, List.nodup_nil⟩, fun b hb c hc e => ?_⟩
    obtain ⟨q, hq, rfl⟩ := List.mem_map.mp hb
    rw [List.map_cons, List.map_nil, List.mem_singleton] at hc
    exact hf q (List.mem_append_left _ hq) (e.trans hc)
  · rcases List.mem_append.mp hq with hq | hq
    · exact L.off q hq p hp
    · rw [List.mem_singleton.mp hq]; exact fun e => hf p (List.mem_append_right _ hp) e.symm
  · rcases List.mem_append.mp hq with hq | hq
    · rcases List.mem_append.mp hq with hq | hq
      · exact .tail _ (List.mem_append_left _ hq)
      · rw [List.mem_singleton.mp hq]; exact .head _
    · exact .tail _ (List.mem_append_right _ hq)
theorem LedOk.opn (L : LedOk w u D h al led) : Opn w u D h al (led ++ (D.T ++ u.fz)) := by
  refine ⟨L.N, fun N' => ⟨led, L.is, L.nd, L.off, L.offT, N'⟩, fun h1 h2 => ?_, fun p hp => List.mem_append_right _ (List.mem_append_left _ hp), fun p hp => List.mem_append_right _ (List.mem_append_right _ hp), fun h1 h2 => led_live h2 _ L.is h1, fun N' hf hy => ⟨_, L.push N' hf hy⟩, fun {h' a vs} N' hf => ?_, led_len L.is⟩
  · obtain ⟨o, ho, hm⟩ := led_get L.is h1 h2
    exact ⟨o, ho, List.mem_append_left _ hm⟩
  · refine ⟨led, L.is.mono Dc.le_tup, L.nd, fun q hq p hp => ?_, fun q hq p hp => ?_, fun q hq => N' q ?_⟩
    · rcases List.mem_cons.mp (show p ∈ (a, tupObj vs) :: (D.T ++ u.fz) from hp) with rfl | hp
      · exact hf q (List.mem_append_left _ hq)
      · exact L.off q hq p hp
    · rcases List.mem_cons.mp hq with rfl | hq
      · exact fun e => hf p (List.mem_append_right _ (List.mem_append_right _ hp)) e.symm
      · exact L.offT q hq p hp
    · rcases List.mem_append.mp hq with hq | hq
      · exact .tail _ (List.mem_append_left _ hq)
      · rcases List.mem_cons.mp (show q ∈ (a, tupObj vs) :: (D.T ++ u.fz) from hq) with rfl | hq
        · exact .head _
        · exact .tail _ (List.mem_append_right _ hq)
theorem Nw.opn (N : Nw w u D h al) : ∃ L, Opn w u D h al L := let ⟨_, L⟩ := N; ⟨_, L.opn⟩
/-- a slot that is stored anew -/
theorem Nw.at {k : Nat} {z : AO} {a : Addr} (N : Nw w u D h al) (ha : D.ad[k]? = some (some a)) (hk : al[k]? = some z) :
    ∃ o r, z.Is w D a o ∧ (∀ q ∈ r, q.1 ≠ a) ∧ News u.h₀ u.L h ((a, o) :: r) ∧ (∀ {h' : Heap} {y : AO} {o' : Obj}, y.Is w D a o' → News u.h₀ u.L h' ((a, o') :: r) → Nw w u D h' (al.set k y)) ∧ (∀ {k' : Nat} {z' : AO} {a' : Addr}, D.ad[k']? = some (some a') → al[k']? = some z' → ∃ o', z'.Is w D a' o' ∧ (a', o') ∈ (a, o) :: r) := by
  obtain ⟨led, L⟩ := N
  obtain ⟨o, ho, hm⟩ := led_get L.is ha hk
  have hT : ∀ p ∈ D.T ++ u.fz, p.1 ≠ a := fun p hp e => L.off _ hm p hp e.symm
  refine ⟨o, (led ++ (D.T ++ u.fz)).filter (fun q => q.1 != a), ho, fun q hq => by simpa using (List.mem_filter.mp hq).2, ?_, fun {h' y o'} hy N' => ?_, fun {k' z' a'} h1 h2 => ?_⟩
  · intro q hq
    rcases List.mem_cons.mp hq with rfl | hq
    · exact L.N _ (List.mem_append_left _ hm)
    · exact L.N _ (List.mem_filter.mp hq).1
  · refine ⟨_, led_set hy L.is L.nd ha, ?_, fun q hq p hp => ?_, L.offT, fun q hq => ?_⟩
    · have e : (led.map fun q => if q.1 = a then (a, o') else q).map (·.1) = led.map (·.1) := by
        rw [List.map_map]
        refine List.map_congr_left fun q _ => ?_
        show (if q.1 = a then (a, o') else q).1 = q.1
        split
        · next h => exact h.symm
        · rfl
      rw [e]; exact L.nd
    · obtain ⟨r, hr, e⟩ := List.mem_map.mp hq
      by_cases h2 : r.1 = a
      · rw [if_pos h2] at e; subst e; exact fun e => hT p hp e.symm
      · rw [if_neg h2] at e; subst e; exact L.off _ hr p hp
    · rcases List.mem_append.mp hq with hq | hq
      · obtain ⟨r, hr, e⟩ := List.mem_map.mp hq
        by_cases h2 : r.1 = a
        · rw [if_pos h2] at e; subst e; exact N' _ (.head _)
        · rw [if_neg h2] at e; subst e; exact N' _ (.tail _ (List.mem_filter.mpr ⟨List.mem_append_left _ hr, by simpa using h2⟩))
      · exact N' _ (.tail _ (List.mem_filter.mpr ⟨List.mem_append_right _ hq, by simpa using hT q hq⟩))
  · obtain ⟨o', ho', hm'⟩ := led_get L.is h1 h2
    refine ⟨o', ho', ?_⟩
    by_cases e : a' = a
    · subst e
      have e1 := (L.N _ (List.mem_append_left _ hm)).1
      have e2 := (L.N _ (List.mem_append_left _ hm')).1
      have e3 := e1.symm.trans e2
      cases e3
      exact .head _
    · exact .tail _ (List.mem_filter.mpr ⟨List.mem_append_left _ hm', by simpa using e⟩)
theorem ents_ref : ∀ {es : List (Str × AV)} {ds : List DictEntry}, entsIs w D es ds → ds.any (·.refKey) = false := by
  intro es
  induction es with
  | nil =>
    intro ds h
    cases ds with
    | nil => rfl
    | cons _ _ => exact False.elim h
  | cons p es ih =>
    intro ds h
    cases ds with
    | nil => exact False.elim h
    | cons d ds =>
      obtain ⟨⟨t, v, e, _⟩, h⟩ := h
      subst e
      rw [List.any_cons, ih h]; rfl
theorem ents_get {k : Str} : ∀ {es : List (Str × AV)} {ds : List DictEntry}, entsIs w D es ds → ∀ {a : AV}, es.lookup k = some a → ∃ v, getL k ds = some (some v) ∧ a.Is D v
  | (k', a') :: es, d :: ds, ⟨⟨t, v, e, h1⟩, h⟩, a, hl => by
    subst e
    rw [List.lookup_cons] at hl
    unfold getL
    have hc : (k' == k) = (k == k') := by rw [Bool.eq_iff_iff, beq_iff_eq, beq_iff_eq]; exact eq_comm
    have hq : (Value.str k' t).isStr k = (k == k') := hc
    rw [List.find?_cons, hq]
    cases hk : (k == k') with
    | true => rw [hk] at hl; cases hl; exact ⟨v, rfl, h1⟩
    | false =>
      rw [hk] at hl
      obtain ⟨v', g, h2⟩ := ents_get h hl
      refine ⟨v', ?_, h2⟩
      rw [List.any_cons]
      exact g
theorem ents_none {k : Str} : ∀ {es : List (Str × AV)} {ds : List DictEntry}, entsIs w D es ds → es.lookup k = none → getL k ds = some none := by
  intro es
  induction es with
  | nil =>
    intro ds h hl
    cases ds with
    | nil => rfl
    | cons _ _ => exact False.elim h
  | cons p es ih =>
   intro ds h hl
   cases ds with
   | nil => exact False.elim h
   | cons d ds =>
    obtain ⟨k', a'⟩ := p
    obtain ⟨⟨t, v, e, h1⟩, h⟩ := h
    subst e
    rw [List.lookup_cons] at hl
    unfold getL
    have hc : (k' == k) = (k == k') := by rw [Bool.eq_iff_iff, beq_iff_eq, beq_iff_eq]; exact eq_comm
    have hq : (Value.str k' t).isStr k = (k == k') := hc
    rw [List.find?_cons, hq]
    cases hk : (k == k') with
    | true => rw [hk] at hl; cases hl
    | false =>
      rw [hk] at hl
      rw [List.any_cons]
      exact ih h hl
/-- a store into a dict's entries -/
noncomputable def putA (k : Str) (a : AV) : List (Str × AV) → List (Str × AV)
  | [] => [(k, a)]
  | (k', b) :: es => if k' == k then (k', a) :: es else (k', b) :: putA k a es
theorem ents_put {k : Str} {hs : Int} {t : Tok} {v : Value} {a : AV} (hv : a.Is D v) (hh : hs = PyData.keyHash w.params k) : ∀ {es : List (Str × AV)} {ds : List DictEntry}, entsIs w D es ds → entsIs w D (putA k a es) (putL k hs (.str k t) v ds) := by
  intro es
  induction es with
  | nil =>
    intro ds h
    cases ds with
    | nil => exact ⟨⟨t, v, by rw [hh], hv⟩, trivial⟩
    | cons _ _ => exact False.elim h
  | cons p es ih =>
   intro ds h
   cases ds with
   | nil => exact False.elim h
   | cons d ds =>
    obtain ⟨k', a'⟩ := p
    obtain ⟨⟨t', v', e, h1⟩, h⟩ := h
    subst e
    unfold putA putL
    show entsIs w D (if (k' == k) = true then _ else _) (if (k' == k) = true then _ else _)
    cases hk : (k' == k) with
    | true => exact ⟨⟨t', v, rfl, hv⟩, h⟩
    | false => exact ⟨⟨t', v', rfl, h1⟩, ih h⟩
theorem ents_len : ∀ {es : List (Str × AV)} {ds : List DictEntry}, entsIs w D es ds → ds.length = es.length := by
  intro es
  induction es with
  | nil =>
    intro ds h
    cases ds with
    | nil => rfl
    | cons _ _ => exact False.elim h
  | cons p es ih =>
    intro ds h
    cases ds with
    | nil => exact False.elim h
    | cons d ds => exact congrArg (· + 1) (ih h.2)
theorem ents_some {k : Str} {es : List (Str × AV)} {ds : List DictEntry} (h : entsIs w D es ds) : (getL k ds).isSome = true := by
  cases hl : es.lookup k with
  | none => rw [ents_none h hl]; rfl
  | some a => obtain ⟨v, e, _⟩ := ents_get h hl; rw [e]; rfl
theorem putA_len {k : Str} {a : AV} : ∀ {es : List (Str × AV)}, (putA k a es).length ≤ es.length + 1
  | [] => Nat.le_refl _
  | (k', b) :: es => by
    unfold putA
    split
    · simp
    · simpa using putA_len
theorem avs_len : ∀ {as : List AV} {vs : List Value}, avs D as vs → vs.length = as.length
  | [], [], _ => rfl
  | _ :: _, _ :: _, ⟨_, h⟩ => congrArg (· + 1) (avs_len h)
theorem avs_get : ∀ {as : List AV} {vs : List Value} (k : Nat) {a : AV}, avs D as vs → as[k]? = some a → ∃ v, vs[k]? = some v ∧ a.Is D v
  | _ :: _, v :: _, 0, _, ⟨h, _⟩, e => by cases e; exact ⟨v, rfl, h⟩
  | _ :: _, _ :: _, k + 1, _, ⟨_, h⟩, e => avs_get k h e
theorem avs_app : ∀ {as bs : List AV} {vs us : List Value}, avs D as vs → avs D bs us → avs D (as ++ bs) (vs ++ us)
  | [], _, [], _, _, h => h
  | _ :: _, _, _ :: _, _, ⟨h, g⟩, h' => ⟨h, avs_app g h'⟩
end
end
section
local macro_rules | `(tactic| walk_at "no such key") => `(tactic| fail)
theorem clr_Y2 : True := by
  w_top off
  trivial
variable {w : World} {A A₀ : Around} {base h₀ : Heap} {outer : List Env} {env : Env} {L : Addr} {m : Str → Option Value} {s : Shared} {Q E : Value → Shared → Prop} {mean : ExcName → Option Value} {mg mb : Str → Option Value}
section
variable {w : World} {u : Un} {c : Cd} {ms : AM} {ls : AL} {e e1 e2 : PySem.Expr} {a b : AV} {x : Str} {p p1 p2 p3 : Pos} {al : AL} {D : Dc} {sts rest : List Stmt} {KF : AF → AM → AL → Prop} {K : AV → AL → Prop}
/-- names -/
theorem Cd.ev_none (hi : c.inner = none) : c.ev u = c.fe u := by unfold Cd.ev; rw [hi]
theorem rdn_off {m : Str → Option Value} (h : c.stands x = false) : rdn u c m x = m x := if_neg (by rw [h]; exact Bool.false_ne_true)
theorem rdn_on {m : Str → Option Value} (h : c.stands x = true) : rdn u c m x = u.nv x := if_pos h
theorem ev_local (hm : ms.lookup x = some a) (hi : c.inner = none) (hs : c.stands x = false) (hx : (c.fe u).kindOf x = some .local) (hd : (x == ("__debug__" : Str)) = false) : EvT (.Name x p) w u c ms ls a := by
  refine ⟨fun ok D Q s S h => ?_⟩
  obtain ⟨m, F', hF⟩ := S.F
  obtain ⟨v, hv, ha⟩ := hF x a hm
  rw [rdn_off hs] at hv
  rw [Cd.ev_none hi]
  exact nameX_L F' hv (h v s.toks s.heap D .rfl ha S) ok.k hx hd
theorem mem_nc {xs ys : List Str} (h : (xs ++ ys).contains x = true) : x ∈ xs ∨ x ∈ ys := by simpa using h
/-- a name that stands still: a cell, or a comprehension's target -/
theorem ev_still (hm : ms.lookup x = some a) (hs : c.stands x = true) (hc : x ∈ c.nc → (c.ev u).kindOf x = some .cell) (ht : x ∈ c.nt → (c.ev u).kindOf x = some .local ∧ c.inner.isSome = true) (hd : (x == ("__debug__" : Str)) = false) : EvT (.Name x p) w u c ms ls a := by
  refine ⟨fun ok D Q s S h => ?_⟩
  have S' := S
  obtain ⟨m, F', hF⟩ := S.F
  obtain ⟨v, hv, ha⟩ := hF x a hm
  rw [rdn_on hs] at hv
  obtain ⟨L, O⟩ := S.N.opn
  have q := h v s.toks s.heap D .rfl ha S'
  rcases mem_nc hs with hn | hn
  · obtain ⟨ca, o, hl, hm, hd'⟩ := ok.cells x hn
    have hk := hc hn
    rw [hv] at hd'
    revert hk hl
    unfold Cd.ev
    cases e : c.inner with
    | none => intro hl hk; exact nameX_C O.N hl (O.fz _ hm) hd' q ok.k hk hd
    | some sc' => intro hl hk; exact lcf_cell O.N hl (O.fz _ hm) hd' q (by exact ok.ki sc' e) hk hd
  · obtain ⟨oC, m₂, hm, hC, hx⟩ := ok.targ (List.ne_nil_of_mem hn)
    obtain ⟨hk, hi⟩ := ht hn
    have hv2 := (hx x hn).trans hv
    revert hk
    unfold Cd.ev
    cases e : c.inner with
    | none => rw [e] at hi; cases hi
    | some sc' => intro hk; exact LCgL.ld_own O.N (O.fz _ hm) hC hv2 q (by exact ok.ki sc' e) hk hd
theorem ev_glob {v : Value} (hm : nsIn (hd.heap_39 w.params) mainGlobals x = some (some v)) (hx : (c.ev u).kindOf x = some .globalImplicit) (hd : (x == ("__debug__" : Str)) = false) : EvT (.Name x p) w u c ms ls (.v v) := by
  refine ⟨fun ok D Q s S h => ?_⟩
  obtain ⟨m, F', hF⟩ := S.F
  have q := h v s.toks s.heap D .rfl rfl S
  revert hx
  unfold Cd.ev
  cases e : c.inner with
  | none => intro hx; exact nameX_K F' ok.ok.X (topRead_of ok.ok.T) hm q ok.k hx hd
  | some sc' => intro hx; exact LCgL.ld_global F' ok.ok.X ok.ok.T hm q rfl (by exact ok.ki sc' e) hx hd
theorem ev_globI {n : Int} {t : Tok} (hm : nsIn (hd.heap_39 w.params) mainGlobals x = some (some (.int n t))) (hx : (c.ev u).kindOf x = some .globalImplicit) (hd : (x == ("__debug__" : Str)) = false) : EvT (.Name x p) w u c ms ls (.i n) :=
  ⟨fun ok D Q s S h => (ev_glob hm hx hd).go ok D Q s S fun v tk h' D' l hv S => h v tk h' D' l ⟨t, hv⟩ S⟩
theorem ev_blt {v : Value} (hm : nsIn (hd.heap_39 w.params) mainGlobals x = some none) (hb : bootBuiltins x = some v) (hn : x ≠ ("__name__" : Str)) (hx : (c.ev u).kindOf x = some .globalImplicit) (hd : (x == ("__debug__" : Str)) = false) : EvT (.Name x p) w u c ms ls (.v v) := by
  refine ⟨fun ok D Q s S h => ?_⟩
  obtain ⟨m, F', hF⟩ := S.F
  have q := h v s.toks s.heap D .rfl rfl S
  revert hx
  unfold Cd.ev
  cases e : c.inner with
  | none => intro hx; exact nameX_B F' ok.ok.X (topRead_of ok.ok.T) hm hb hn q ok.k hx hd
  | some sc' => intro hx; exact LCgL.ld_built F' ok.ok.X ok.ok.T hm hb hn q rfl rfl (by exact ok.ki sc' e) hx hd
theorem ev_int {n : Int} {k : Nat} : EvT (.Constant (.int n) k p) w u c ms ls (.i n) := ⟨fun _ D _ s S h => wpAny_Constant_int (h _ _ s.heap D .rfl ⟨_, rfl⟩ S)⟩
theorem ev_none {k : Nat} : EvT (.Constant .none k p) w u c ms ls (.v .none) := ⟨fun _ D _ s S h => wpAny_Constant_none (h _ s.toks s.heap D .rfl rfl S)⟩
theorem ev_bool {β : Bool} {k : Nat} : EvT (.Constant (.bool β) k p) w u c ms ls (.v (.bool β)) := ⟨fun _ D _ s S h => Constant_bool (h _ s.toks s.heap D .rfl rfl S)⟩
theorem ev_str {x : Str} {k : Nat} : EvT (.Constant (.str x) k p) w u c ms ls (.s x) := ⟨fun _ D _ s S h => wpAny_Constant_str (h _ _ s.heap D .rfl ⟨_, rfl⟩ S)⟩
/-- an attribute of an own object -/
noncomputable def handA : AV → Bool
  | .v x => handedIn x
  | .any => false
  | _ => true
theorem AV.hand {v : Value} (h : a.Is D v) (g : handA a = true) : handedIn v = true := by
  cases a with
  | v x => cases h; exact g
  | i n => obtain ⟨t, rfl⟩ := h; rfl
  | s n => obtain ⟨t, rfl⟩ := h; rfl
  | r k => obtain ⟨a, _, rfl⟩ := h; rfl
  | t as => obtain ⟨a, _, rfl, _⟩ := h; rfl
  | any => cases g
/-- what reading an own object wants -/
structure Attr (w : World) (C : Addr) (f : Str) (at_ : Option Value) : Prop where
  g1 : plainGet (hd.heap_39 w.params) C f = true
  g2 : hasDictIn (hd.heap_39 w.params) C = true
  g3 : findIn (hd.heap_39 w.params) (.ref C) f = some at_
  g4 : noGet (hd.heap_39 w.params) at_ = true
theorem Opn.inst {h : Heap} {L : List (Addr × Obj)} {k d : Nat} {C : Addr} {es : List (Str × AV)} {v : Value} (O : Opn w u D h al L) (hv : (AV.r k).Is D v) (m1 : al[k]? = some (.inst C d)) (m2 : al[d]? = some (.dct es)) :
    ∃ x dx ds n, v = .ref x ∧ (x, instObj C dx) ∈ L ∧ (dx, dictOf ds n) ∈ L ∧ D.ad[d]? = some (some dx) ∧ entsIs w D es ds := by
  obtain ⟨x, ha, rfl⟩ := hv
  obtain ⟨o1, ⟨dx, hd, rfl⟩, i1⟩ := O.obj ha m1
  obtain ⟨o2, ⟨ds, n, rfl, hds⟩, i2⟩ := O.obj hd m2
  exact ⟨x, dx, ds, n, rfl, i1, i2, hd, hds⟩
theorem ev_attr_of {f : Str} {k d : Nat} {C : Addr} {es : List (Str × AV)} {at_ : Option Value} (he : ∀ {E Q : Value → Shared → Prop} {s : Shared}, wpAny (MM w) u.A (eval e (c.ev u)) (fun o s₁ => wpAny (MM w) u.A (getAttr o f true) Q E s₁) E s → wpAny (MM w) u.A (eval (.Attribute e f p) (c.ev u)) Q E s)
    (h1 : EvT e w u c ms ls (.r k)) (m1 : ls[k]? = some (.inst C d)) (m2 : ls[d]? = some (.dct es)) (hl : es.lookup f = some b) (g : Attr w C f at_) (g5 : handA b = true) : EvT (.Attribute e f p) w u c ms ls b := by
  refine ⟨fun ok D Q s S h => ?_⟩
  refine he (h1.go ok D _ s S fun v tk h' D' l hv S => ?_)
  obtain ⟨m, F', hF⟩ := S.F
  obtain ⟨L, O⟩ := S.N.opn
  obtain ⟨x, dx, ds, n, rfl, i1, i2, _, hds⟩ := O.inst hv m1 m2
  obtain ⟨v, gv, av⟩ := ents_get hds hl
  exact get_own F' ok.ok.X (InstAt.of_news O.N i1 i2) g.g1 g.g2 g.g3 g.g4 gv (AV.hand av g5) (h v _ h' D' l av S)
theorem ev_attr {f y : Str} {k d : Nat} {C : Addr} {es : List (Str × AV)} {at_ : Option Value} (h1 : EvT (.Name y p3) w u c ms ls (.r k)) (m1 : ls[k]? = some (.inst C d)) (m2 : ls[d]? = some (.dct es)) (hl : es.lookup f = some b) (g : Attr w C f at_) (g5 : handA b = true) : EvT (.Attribute (.Name y p3) f p) w u c ms ls b := ev_attr_of (fun h => Attribute_Name_ h) h1 m1 m2 hl g g5
theorem ev_attr2 {f y : Str} {e3 : PySem.Expr} {k d : Nat} {C : Addr} {es : List (Str × AV)} {at_ : Option Value} (h1 : EvT (.Attribute e3 y p3) w u c ms ls (.r k)) (m1 : ls[k]? = some (.inst C d)) (m2 : ls[d]? = some (.dct es)) (hl : es.lookup f = some b) (g : Attr w C f at_) (g5 : handA b = true) : EvT (.Attribute (.Attribute e3 y p3) f p) w u c ms ls b := ev_attr_of (fun h => Attribute_any_ h) h1 m1 m2 hl g g5
theorem ev_attr3 {f : Str} {e3 i : PySem.Expr} {k d : Nat} {C : Addr} {es : List (Str × AV)} {at_ : Option Value} (h1 : EvT (.Subscript e3 i p3) w u c ms ls (.r k)) (m1 : ls[k]? = some (.inst C d)) (m2 : ls[d]? = some (.dct es)) (hl : es.lookup f = some b) (g : Attr w C f at_) (g5 : handA b = true) : EvT (.Attribute (.Subscript e3 i p3) f p) w u c ms ls b := ev_attr_of (fun h => Attribute_any_ h) h1 m1 m2 hl g g5
/-- int arithmetic -/
theorem ev_bin {op : Operator} {n1 n2 n3 : Int} (h1 : EvT e1 w u c ms ls (.i n1)) (h2 : EvT e2 w u c ms ls (.i n2))
    (ho : ∀ {A : Around} {E Q : Value → Shared → Prop} {s : Shared} {t u : Tok}, (∀ t tk, Q (.int n3 t) { s with toks := tk }) → wpAny (MM w) A (binaryOp op (.int n1 t) (.int n2 u)) Q E s) : EvT (.BinOp e1 op e2 p) w u c ms ls (.i n3) := by
  refine ⟨fun ok D Q s S h => ?_⟩
  refine wpAny_BinOp (h1.go ok D _ s S fun v tk h' D' l hv S => ?_)
  obtain ⟨t, rfl⟩ := hv
  refine h2.go ok D' _ _ S fun v tk h' D'' l' hv S => ?_
  obtain ⟨t, rfl⟩ := hv
  exact ho fun t tk => h _ tk h' D'' (l.trans l') ⟨t, rfl⟩ S
theorem ev_add {n1 n2 : Int} (h1 : EvT e1 w u c ms ls (.i n1)) (h2 : EvT e2 w u c ms ls (.i n2)) : EvT (.BinOp e1 .Add e2 p) w u c ms ls (.i (n1 + n2)) := ev_bin h1 h2 fun h => add_int (h _ _)
theorem ev_sub {n1 n2 : Int} (h1 : EvT e1 w u c ms ls (.i n1)) (h2 : EvT e2 w u c ms ls (.i n2)) : EvT (.BinOp e1 .Sub e2 p) w u c ms ls (.i (n1 - n2)) := ev_bin h1 h2 fun h => sub_int (h _ _)
theorem ev_mul {n1 n2 : Int} (h1 : EvT e1 w u c ms ls (.i n1)) (h2 : EvT e2 w u c ms ls (.i n2)) (ok : IntMulOk n1 n2) : EvT (.BinOp e1 .Mult e2 p) w u c ms ls (.i (n1 * n2)) := ev_bin h1 h2 fun h => mul_int (h _ _) ok
theorem ev_fdiv {n1 n2 : Int} (h1 : EvT e1 w u c ms ls (.i n1)) (h2 : EvT e2 w u c ms ls (.i n2)) (h0 : n2 ≠ 0) (ok : Builtin.divisionGoesByPylong n1 n2 = false) : EvT (.BinOp e1 .FloorDiv e2 p) w u c ms ls (.i (n1.fdiv n2)) := ev_bin h1 h2 fun h => floordiv_int h0 (h _ _) (.inl ok)
theorem ev_mod {n1 n2 : Int} (h1 : EvT e1 w u c ms ls (.i n1)) (h2 : EvT e2 w u c ms ls (.i n2)) (h0 : n2 ≠ 0) : EvT (.BinOp e1 .Mod e2 p) w u c ms ls (.i (n1.fmod n2)) := ev_bin h1 h2 fun h => mod_int' h0 (h _ _)
/-- arguments -/
theorem ar_nil : ArT [] w u c ms ls [] := ⟨fun _ D _ _ s S h => args_nil (h [] s.toks s.heap D .rfl trivial S)⟩
theorem ar_cons {es : List PySem.Expr} {as : List AV} (h1 : EvT e w u c ms ls a) (h2 : ArT es w u c ms ls as) (he : ∀ env, starEach (e :: es) env = (false, eval e env) :: starEach es env) : ArT (e :: es) w u c ms ls (a :: as) := by
  refine ⟨fun ok D pos Q s S h => ?_⟩
  refine args_cons (h1.go ok D _ s S fun v tk h' D' l hv S => ?_) (he _)
  exact h2.go ok D' pos _ _ S fun vs tk h' D'' l' hvs S => h _ tk h' D'' (l.trans l') ⟨hv.mono l', hvs⟩ S
theorem ak_pure {es : List PySem.Expr} {as : List AV} {K : List AV → AL → Prop} (h : ArT es w u c ms ls as) (k : K as ls) : ArK es w u c ms ls K := ⟨fun ok D pos Q s S q => h.go ok D pos Q s S fun vs tk h' D' l hv S => q _ vs _ tk h' D' l k hv S⟩
theorem ak_cons {es : List PySem.Expr} {K : List AV → AL → Prop} (he : ∀ env, starEach (e :: es) env = (false, eval e env) :: starEach es env) (h1 : EvK e w u c ms ls (fun a al => ArK es w u c ms al (fun as al => K (a :: as) al))) : ArK (e :: es) w u c ms ls K := by
  refine ⟨fun ok D pos Q s S q => ?_⟩
  refine args_cons (h1.go ok D _ s S fun a v al tk h' D' l k hv S => ?_) (he _)
  exact k.go ok D' pos _ { s with heap := h', toks := tk } S fun as vs al tk h' D'' l' k hvs S => q _ _ al tk h' D'' (l.trans l') k ⟨hv.mono l', hvs⟩ S
/-- the ledger as the kit hands it on -/
theorem St0.put {D : Dc} {h' : Heap} {am : AM} {m : Str → Option Value} (F' : Fr u.h₀ u.L h' m) (hF : ∀ x a, am.lookup x = some a → ∃ v, rdn u c m x = some v ∧ a.Is D v) (N' : Nw w u D h' al) : St0 w u c D h' am al := ⟨⟨m, F', hF⟩, N'⟩
/-- the lesser of two ints -/
theorem ev_min {n1 n2 : Int} (hf : EvT (.Name "min" p3) w u c ms ls (.v (.builtin "min"))) (h1 : EvT e1 w u c ms ls (.i n1)) (h2 : EvT e2 w u c ms ls (.i n2)) (s1 : ∀ env, starEach [e1, e2] env = (false, eval e1 env) :: starEach [e2] env) (s2 : ∀ env, starEach [e2] env = [(false, eval e2 env)])
    : EvT (.Call (.Name "min" p3) [e1, e2] [] p) w u c ms ls (.i (if n2 < n1 then n2 else n1)) := by
  refine ⟨fun ok D Q s S h => ?_⟩
  refine Call_ (hf.go ok D _ s S fun v tk h' D' l hv S => ?_)
  cases hv
  refine PyProof.Rows.callWith_builtin1 ?_ (s1 _) (by rw [s2]; rfl)
  refine (ar_cons h1 (ar_cons h2 ar_nil s2) s1).go ok D' p _ _ S fun vs tk h' D'' l' hvs S => ?_
  match vs, hvs with
  | [v1, v2], ⟨⟨t1, e1⟩, ⟨t2, e2⟩, _⟩ =>
    subst e1 e2
    obtain ⟨m, F', hF⟩ := S.F
    obtain ⟨L, O⟩ := S.N.opn
    exact min_two_N ok.ok.hh F' O.N fun h'' tk F'' N'' => h _ tk h'' D'' (l.trans l') (by split <;> exact ⟨_, rfl⟩) (.put F'' hF (O.keep N''))
/-- conditions -/
theorem tr_cmp {op : CmpOp} {n1 n2 : Int} {β : Bool} (h1 : EvT e1 w u c ms ls (.i n1)) (h2 : EvT e2 w u c ms ls (.i n2)) (hm : behindInMarks op e2 = false)
    (ho : ∀ {A : Around} {E Q : Value → Shared → Prop} {s : Shared} {t u : Tok}, Q (.bool β) s → wpAny (MM w) A (compareOp op (.int n1 t) (.int n2 u)) Q E s) : TrT (.Compare e1 [op] [e2] p) w u c ms ls β := by
  refine ⟨fun ok D Q s S h => ?_⟩
  refine wpAny_isTrue_Compare1 (h1.go ok D _ s S fun v tk h' D' l hv S => ?_) hm
  obtain ⟨t, rfl⟩ := hv
  refine h2.go ok D' _ _ S fun v tk h' D'' l' hv S => ?_
  obtain ⟨t, rfl⟩ := hv
  exact ho (wpAny_truthy_bool (h tk h' D'' (l.trans l') S))
theorem tr_lt {n1 n2 : Int} (h1 : EvT e1 w u c ms ls (.i n1)) (h2 : EvT e2 w u c ms ls (.i n2)) (hm : behindInMarks .Lt e2 = false) : TrT (.Compare e1 [.Lt] [e2] p) w u c ms ls (decide (n1 < n2)) := tr_cmp h1 h2 hm fun h => lt_int h
theorem tr_le {n1 n2 : Int} (h1 : EvT e1 w u c ms ls (.i n1)) (h2 : EvT e2 w u c ms ls (.i n2)) (hm : behindInMarks .LtE e2 = false) : TrT (.Compare e1 [.LtE] [e2] p) w u c ms ls (decide (n1 ≤ n2)) := tr_cmp h1 h2 hm fun h => le_int h
theorem tr_gt {n1 n2 : Int} (h1 : EvT e1 w u c ms ls (.i n1)) (h2 : EvT e2 w u c ms ls (.i n2)) (hm : behindInMarks .Gt e2 = false) : TrT (.Compare e1 [.Gt] [e2] p) w u c ms ls (decide (n2 < n1)) := tr_cmp h1 h2 hm fun h => gt_int h
theorem tr_ge {n1 n2 : Int} (h1 : EvT e1 w u c ms ls (.i n1)) (h2 : EvT e2 w u c ms ls (.i n2)) (hm : behindInMarks .GtE e2 = false) : TrT (.Compare e1 [.GtE] [e2] p) w u c ms ls (decide (n2 ≤ n1)) := tr_cmp h1 h2 hm fun h => ge_int h
theorem tr_eq {n1 n2 : Int} (h1 : EvT e1 w u c ms ls (.i n1)) (h2 : EvT e2 w u c ms ls (.i n2)) (hm : behindInMarks .Eq e2 = false) : TrT (.Compare e1 [.Eq] [e2] p) w u c ms ls (decide (n1 = n2)) := tr_cmp h1 h2 hm fun h => eq_int h
theorem tr_not {β : Bool} (h : TrT e w u c ms ls β) : TrT (.UnaryOp .Not e p) w u c ms ls (!β) := ⟨fun ok D _ s S k => isTrue_not (h.go ok D _ s S k)⟩
theorem tr_notD {P : Prop} {_inst : Decidable P} (h : TrT e w u c ms ls (decide P)) : TrT (.UnaryOp .Not e p) w u c ms ls (decide (¬ P)) := by
  have := tr_not (p := p) h
  rwa [← decide_not] at this
theorem ev_cmp {op : CmpOp} {n1 n2 : Int} {β : Bool} (h1 : EvT e1 w u c ms ls (.i n1)) (h2 : EvT e2 w u c ms ls (.i n2)) (hm : behindInMarks op e2 = false)
    (ho : ∀ {A : Around} {E Q : Value → Shared → Prop} {s : Shared} {t u : Tok}, Q (.bool β) s → wpAny (MM w) A (compareOp op (.int n1 t) (.int n2 u)) Q E s) : EvT (.Compare e1 [op] [e2] p) w u c ms ls (.v (.bool β)) := by
  refine ⟨fun ok D Q s S h => ?_⟩
  refine wpAny_Compare1 (h1.go ok D _ s S fun v tk h' D' l hv S => ?_) hm
  obtain ⟨t, rfl⟩ := hv
  refine h2.go ok D' _ _ S fun v tk h' D'' l' hv S => ?_
  obtain ⟨t, rfl⟩ := hv
  exact ho (h _ tk h' D'' (l.trans l') rfl S)
theorem ev_lt {n1 n2 : Int} (h1 : EvT e1 w u c ms ls (.i n1)) (h2 : EvT e2 w u c ms ls (.i n2)) (hm : behindInMarks .Lt e2 = false) : EvT (.Compare e1 [.Lt] [e2] p) w u c ms ls (.v (.bool (decide (n1 < n2)))) := ev_cmp h1 h2 hm fun h => lt_int h
theorem ev_ge {n1 n2 : Int} (h1 : EvT e1 w u c ms ls (.i n1)) (h2 : EvT e2 w u c ms ls (.i n2)) (hm : behindInMarks .GtE e2 = false) : EvT (.Compare e1 [.GtE] [e2] p) w u c ms ls (.v (.bool (decide (n2 ≤ n1)))) := ev_cmp h1 h2 hm fun h => ge_int h
theorem ev_gt {n1 n2 : Int} (h1 : EvT e1 w u c ms ls (.i n1)) (h2 : EvT e2 w u c ms ls (.i n2)) (hm : behindInMarks .Gt e2 = false) : EvT (.Compare e1 [.Gt] [e2] p) w u c ms ls (.v (.bool (decide (n2 < n1)))) := ev_cmp h1 h2 hm fun h => gt_int h
/-- is None, is not None -/
noncomputable def isNoneA : AV → Bool
  | .v .none => true
  | _ => false
noncomputable def plainA : AV → Bool
  | .v .none => true
  | .v (.ref _) => true
  | .i _ => true
  | .r _ => true
  | .t _ => true
  | _ => false
theorem is_noneA {v : Value} {A : Around} {E Q : Value → Shared → Prop} {s : Shared} (ha : plainA a = true) (hv : a.Is D v) (h : Q (.bool (isNoneA a)) s) : wpAny (MM w) A (compareOp .Is v .none) Q E s := by
  cases a with
  | i n => obtain ⟨t, rfl⟩ := hv; exact wpAny_is_other (by rfl) (fun x => by cases x) h
  | r k => obtain ⟨t, _, rfl⟩ := hv; exact is_ref_none h
  | t as => obtain ⟨t, _, rfl, _⟩ := hv; exact is_ref_none h
  | s n => cases ha
  | any => cases ha
  | v x => cases hv; cases v with
    | none => exact is_none_none h
    | ref y => exact is_ref_none h
    | _ => cases ha
theorem isnot_noneA {v : Value} {A : Around} {E Q : Value → Shared → Prop} {s : Shared} (ha : plainA a = true) (hv : a.Is D v) (h : Q (.bool (!isNoneA a)) s) : wpAny (MM w) A (compareOp .IsNot v .none) Q E s := by
  cases a with
  | i n => obtain ⟨t, rfl⟩ := hv; exact wpAny_isNot_other (by rfl) (fun x => by cases x) h
  | r k => obtain ⟨t, _, rfl⟩ := hv; exact isnot_ref_none h
  | t as => obtain ⟨t, _, rfl, _⟩ := hv; exact isnot_ref_none h
  | s n => cases ha
  | any => cases ha
  | v x => cases hv; cases v with
    | none => exact isnot_none_none h
    | ref y => exact isnot_ref_none h
    | _ => cases ha
theorem tr_isV {k : Nat} (h1 : EvT e1 w u c ms ls a) (ha : plainA a = true) (hm : behindInMarks .Is (.Constant .none k p2) = false) : TrT (.Compare e1 [.Is] [.Constant .none k p2] p) w u c ms ls (isNoneA a) := by
  refine ⟨fun ok D Q s S h => ?_⟩
  refine wpAny_isTrue_Compare1 (h1.go ok D _ s S fun v tk h' D' l hv S => ?_) hm
  refine ev_none.go ok D' _ _ S fun v' tk h' D'' l' hv' S => ?_
  cases hv'
  exact is_noneA ha hv (wpAny_truthy_bool (h tk h' D'' (l.trans l') S))
theorem tr_noV {k : Nat} (h1 : EvT e1 w u c ms ls a) (ha : plainA a = true) (hm : behindInMarks .IsNot (.Constant .none k p2) = false) : TrT (.Compare e1 [.IsNot] [.Constant .none k p2] p) w u c ms ls (!isNoneA a) := by
  refine ⟨fun ok D Q s S h => ?_⟩
  refine wpAny_isTrue_Compare1 (h1.go ok D _ s S fun v tk h' D' l hv S => ?_) hm
  refine ev_none.go ok D' _ _ S fun v' tk h' D'' l' hv' S => ?_
  cases hv'
  exact isnot_noneA ha hv (wpAny_truthy_bool (h tk h' D'' (l.trans l') S))
theorem tr_name {β : Bool} (h : EvT e w u c ms ls (.v (.bool β))) (he : PySem.isTrue e (c.ev u) (eval e (c.ev u)) = (do let v ← eval e (c.ev u); standAt e.pos; holding [v] (truthy v))) : TrT e w u c ms ls β :=
  ⟨fun ok D _ s S q => isTrue_plain (h.go ok D _ s S fun v tk h' D' l hv S => by cases hv; exact wpAny_truthy_bool (q tk h' D' l S)) he⟩
/-- an assoc list of values as the calculus sees it -/
noncomputable def bindsIs (D : Dc) : AM → List (Str × Value) → Prop
  | [], [] => True
  | (x, a) :: as, (y, v) :: vs => y = x ∧ a.Is D v ∧ bindsIs D as vs
  | _, _ => False
theorem bindsIs.lookup {x : Str} : ∀ {am : AM} {bs : List (Str × Value)}, bindsIs D am bs → ∀ {a : AV}, am.lookup x = some a → ∃ v, bs.lookup x = some v ∧ a.Is D v
  | [], [], _, _, h => nomatch h
  | (y, a) :: as, (z, v) :: vs, ⟨e, h, hr⟩, b, g => by
    subst e
    rw [List.lookup_cons] at g ⊢
    revert g
    cases (x == z) with
    | true => intro g; cases g; exact ⟨v, rfl, h⟩
    | false => intro g; exact hr.lookup g
theorem bindsIs.append : ∀ {am am' : AM} {bs bs' : List (Str × Value)}, bindsIs D am bs → bindsIs D am' bs' → bindsIs D (am ++ am') (bs ++ bs')
  | [], _, [], _, _, h => h
  | (_, _) :: _, _, (_, _) :: _, _, ⟨e, h, hr⟩, h' => ⟨e, h, hr.append h'⟩
theorem bindsIs.reverse : ∀ {am : AM} {bs : List (Str × Value)}, bindsIs D am bs → bindsIs D am.reverse bs.reverse
  | [], [], _ => trivial
  | (_, _) :: _, (_, _) :: _, ⟨e, h, hr⟩ => by
    rw [List.reverse_cons, List.reverse_cons]
    exact hr.reverse.append ⟨e, h, trivial⟩
theorem bindsIs.zip : ∀ {names : List Str} {as : List AV} {vs : List Value}, avs D as vs → bindsIs D (names.zip as) (names.zip vs)
  | [], _, _, _ => by cases ‹List AV› <;> cases ‹List Value› <;> exact trivial
  | _ :: _, [], [], _ => trivial
  | _ :: _, _ :: _, _ :: _, ⟨h, hr⟩ => ⟨rfl, h, bindsIs.zip hr⟩
/-- what a body's end tells -/
noncomputable def fin (K : AV → AL → Prop) (f : AF) (_ : AM) (al : AL) : Prop := match f with | .ret a => K a al | .next => K (.v .none) al
theorem fin_ret {m : AM} (h : K a al) : fin K (.ret a) m al := h
theorem fin_next {m : AM} (h : K (.v .none) al) : fin K .next m al := h
theorem avs_vals : ∀ ds : List Value, avs D (ds.map .v) ds
  | [] => trivial
  | _ :: ds => ⟨rfl, avs_vals ds⟩
/-- a call enters the body of a plain def -/
theorem enter {f : Addr} {name qual : Str} {params : Arguments} {body : List Stmt} {scope : Scope} {dV kV doc pm cdv ct oc : Value} {an od : Option Addr} {osl : Array (Option Value)} {as : List AV} {ds : List Value}
    (hl : List.lookup f (hd.heap_39 w.params) = some ⟨oc, od, .func (fnOf name qual params body scope dV kV doc pm an cdv ct), osl⟩) (hc : codeIn (hd.heap_39 w.params) cdv qual = true)
    (hb : ∀ s : Shared, (hd.heap_39 w.params).In s.heap → ∀ vs : List Value, vs.length = as.length → BindsTo s (fnOf name qual params body scope dV kV doc pm an cdv ct) ⟨vs, []⟩ ((params.args.map (·.arg)).zip (vs ++ ds)))
    (hn : ((params.args.map (·.arg)).all fun x => decide (scope.names.lookup x = some .local)) = true) (hd : u.d < 900) (k1 : scope.isCoroutine = false) (k2 : scope.isGenerator = false) (k3 : scope.kind = .function) (k4 : ∀ x ∈ scope.names, x.2 ≠ .cell)
    (H : ∀ u' : Un, u'.d = u.d + 3 → Ex body w u' ⟨qual, scope, f, cdv, none, [], []⟩ ((params.args.map (·.arg)).zip (as ++ ds.map .v)).reverse al (fin K)) :
    CodeW w u al (.ref f) as K := by
  refine ⟨fun ok D vs hvs m R s F N h => ?_⟩
  obtain ⟨led, O⟩ := N
  obtain ⟨B, X, T, hh, hA, hf, hk, hdp, hun⟩ := id ok
  refine code_def B F X O.N T hA hf hk hl hc (Nat.lt_of_le_of_lt hdp (Nat.lt_trans hd (by decide))) (hb s (X.keeps F.keep) vs (avs_len hvs)) (fun y hy => ?_) (fun g L' h₁ FG F1 N1 B1 X1 T1 => ?_) k1 k2 k3 k4
  · exact of_decide_eq_true (List.all_eq_true.mp hn y.1 (List.of_mem_zip hy).1)
  · have hu : Un.Ok w ⟨u.A.deeper (envOf qual scope L' f cdv), u.A, u.base, g, u.en :: u.outer, envOf qual scope L' f cdv, L', u.mean, u.mg, u.mb, u.d + 3, u.fz, [], [], 0, fun _ => none⟩ :=
      ⟨B1, X1, T1, hh, by show Option.map _ _ = _; rw [hA]; rfl, rfl, k3, by show u.A.depth + 1 ≤ u.d + 3; omega, by show u.A.units + 3 ≤ u.d + 3; omega⟩
    refine wpAny_mono ((H _ rfl).go ⟨hu, rfl, k3, (fun _ h => nomatch h), (fun _ h => nomatch h), fun h => absurd rfl h⟩ D _ _ ⟨⟨_, F1, fun x a e => let ⟨v, e, i⟩ := (bindsIs.zip (avs_app hvs (avs_vals ds))).reverse.lookup e; ⟨v, (rdn_off rfl).trans e, i⟩⟩, led, O.is, O.nd, O.off, O.offT, N1⟩ fun fl v m' al' tk h' D' l hK hfl S2 => ?_) (fun _ _ x => x) (fun _ _ x => x.elim)
    obtain ⟨m2, F2, _⟩ := S2.F
    obtain ⟨led2, O2⟩ := S2.N
    refine ⟨L', m2, led2 ++ (D'.T ++ u.fz), F2, O2.N, fun F3 N3 => ?_⟩
    cases fl with
    | next => cases hfl; exact h _ _ _ _ _ D' l hK rfl F3 ⟨led2, O2.is, O2.nd, O2.off, O2.offT, N3⟩
    | ret a => obtain ⟨v', rfl, hv⟩ := hfl; exact h _ _ _ _ _ D' l hK hv F3 ⟨led2, O2.is, O2.nd, O2.off, O2.offT, N3⟩
/-- pure expressions inside the richer judgements -/
theorem ek_pure (h : EvT e w u c ms ls a) (k : K a ls) : EvK e w u c ms ls K := ⟨fun ok D Q s S q => h.go ok D Q s S fun v tk h' D' l hv S => q a v _ tk h' D' l k hv S⟩
theorem avs_first {fs as : List AV} {first vs : List Value} (hf : avs D fs first) (hvs : avs D as vs) : avs D (fs ++ as) (first ++ vs) := avs_app hf hvs
theorem call_argsK {fv : Value} {first : List Value} {es : List PySem.Expr} {fs : List AV} (ha : ArK (e :: es) w u c ms ls (fun as al => CallW w u al fv (fs ++ as) K)) (hf : avs D fs first) (s1 : ∀ env, starEach (e :: es) env = (false, eval e env) :: starEach es env) (s2 : ∀ env pos, ((backTo pos (starEach es env)).any fun y => y.1) = false) (hk : keepIn (hd.heap_39 w.params) fv = true)
    (ok : Ok3 w u c) {Q : Value → Shared → Prop} {s : Shared} (S : St0 w u c D s.heap ms ls) (h : ∀ a v al tk h' D', D.Le D' → K a al → a.Is D' v → St0 w u c D' h' ms al → Q v { s with heap := h', toks := tk }) :
    wpAny (MM w) u.A (callWith p fv first (backTo p (starEach (e :: es) (c.ev u))) []) Q NoE s := by
  refine callWith_K ok.ok.X hk (ha.go ok D p _ s S fun as vs al tk h' D' l hc hvs S => ⟨?_, ?_⟩) (s1 _) (s2 _ _)
  · obtain ⟨m, F, _⟩ := S.F
    exact ok.ok.X.keeps F.keep
  · obtain ⟨m, F, hF⟩ := S.F
    exact hc.go ok.ok D' _ (avs_first (hf.mono l) hvs) m Q { s with heap := h', toks := tk } F S.N fun a v al' tk h'' D'' l' k hv F N => h a v al' tk h'' D'' (l.trans l') k hv (.put F (fun x a e => let ⟨v, e, i⟩ := hF x a e; ⟨v, e, i.mono l'⟩) N)
theorem call_no {fv : Value} {first : List Value} {fs : List AV} (hf : avs D fs first) (hk : keepIn (hd.heap_39 w.params) fv = true)
    (hc : CallW w u ls fv fs K) (ok : Ok3 w u c) {Q : Value → Shared → Prop} {s : Shared} (S : St0 w u c D s.heap ms ls) (h : ∀ a v al tk h' D', D.Le D' → K a al → a.Is D' v → St0 w u c D' h' ms al → Q v { s with heap := h', toks := tk }) :
    wpAny (MM w) u.A (callWith p fv first (backTo p (starEach [] (c.ev u))) []) Q NoE s := by
  obtain ⟨m, F, hF⟩ := S.F
  refine callWith_K0 (ok.ok.X.keeps F.keep) hk ?_
  rw [List.append_nil]
  exact hc.go ok.ok D _ hf m Q _ F S.N fun a v al' tk h'' D'' l' k hv F N => h a v al' tk h'' D'' l' k hv (.put F (fun x a e => let ⟨v, e, i⟩ := hF x a e; ⟨v, e, i.mono l'⟩) N)
/-- f(x, ..) -/
theorem ek_callK {f : Str} {fv : Value} {es : List PySem.Expr} (h1 : EvT (.Name f p3) w u c ms ls (.v fv)) (hk : keepIn (hd.heap_39 w.params) fv = true)
    (s1 : ∀ env, starEach (e :: es) env = (false, eval e env) :: starEach es env) (s2 : ∀ env pos, ((backTo pos (starEach es env)).any fun y => y.1) = false) (ha : ArK (e :: es) w u c ms ls (fun as al => CallW w u al fv as K)) : EvK (.Call (.Name f p3) (e :: es) [] p) w u c ms ls K := by
  refine ⟨fun ok D Q s S h => ?_⟩
  refine Call_ (h1.go ok D _ s S fun v tk h' D' l hv S => ?_)
  cases hv
  exact call_argsK (fs := []) (first := []) ha trivial s1 s2 hk ok S fun a v al tk h' D'' l' => h a v al tk h' D'' (l.trans l')
theorem ek_call0 {f : Str} {fv : Value} (h1 : EvT (.Name f p3) w u c ms ls (.v fv)) (hk : keepIn (hd.heap_39 w.params) fv = true) (hc : CallW w u ls fv [] K) : EvK (.Call (.Name f p3) [] [] p) w u c ms ls K := by
  refine ⟨fun ok D Q s S h => ?_⟩
  refine Call_ (h1.go ok D _ s S fun v tk h' D' l hv S => ?_)
  cases hv
  exact call_no (fs := []) (first := []) trivial hk hc ok S fun a v al tk h' D'' l' => h a v al tk h' D'' (l.trans l')
/-- what a method call wants -/
structure Meth (w : World) (C : Addr) (m : Str) (f : Addr) : Prop where
  g1 : plainGet (hd.heap_39 w.params) C m = true
  g2 : findIn (hd.heap_39 w.params) (.ref C) m = some (some (.ref f))
  g3 : isFn (hd.heap_39 w.params) (.ref f) = true
  g4 : keepIn (hd.heap_39 w.params) (.ref f) = true
/-- o.m(x, ..), o.m(): o may call itself -/
theorem ek_meth_of {m : Str} {o : PySem.Expr} {es : List PySem.Expr} (h1 : EvK o w u c ms ls (fun b al => ∃ k d C f ds, b = .r k ∧ al[k]? = some (.inst C d) ∧ al[d]? = some (.dct ds) ∧ ds.lookup m = none ∧ Meth w C m f ∧
      ∀ D', Ok3 w u c → (∀ v, (AV.r k).Is D' v → ∀ {Q : Value → Shared → Prop} {s : Shared}, St0 w u c D' s.heap ms al → (∀ a v al tk h' D'', D'.Le D'' → K a al → a.Is D'' v → St0 w u c D'' h' ms al → Q v { s with heap := h', toks := tk }) → wpAny (MM w) u.A (callWith p (.ref f) [v] (backTo p (starEach es (c.ev u))) []) Q NoE s)))
    (pl : Sem Bool)
    (he : eval (.Call (.Attribute o m p3) es [] p) (c.ev u) = (do
      let ov ← eval o (c.ev u)
      standAt p3.atName
      let (f, first) ← holding [ov] (getMethod ov m pl)
      callWith p f first (backTo p (starEach es (c.ev u))) [])) :
    EvK (.Call (.Attribute o m p3) es [] p) w u c ms ls K := by
  refine ⟨fun ok D Q s S h => ?_⟩
  refine MethodCall_ (pl := pl) (h1.go ok D _ s S fun b v al tk h' D' l k hv S => ?_) he
  obtain ⟨k, d, C, f, ds, rfl, m1, m2, hl, g, hc⟩ := k
  have hv' := hv
  obtain ⟨mm, F', hF⟩ := S.F
  obtain ⟨L, O⟩ := S.N.opn
  obtain ⟨x, dx, es2, n, rfl, i1, i2, _, hds⟩ := O.inst hv m1 m2
  exact method_inst F' ok.ok.X (InstAt.of_news O.N i1 i2) g.g1 g.g2 g.g3 (ents_none hds hl) (hc D' ok _ hv' (s := { s with heap := h', toks := tk }) S fun a v al tk h' D'' l' => h a v al tk h' D'' (l.trans l'))
theorem ek_methK {m : Str} {o : PySem.Expr} {es : List PySem.Expr} {k d : Nat} {C f : Addr} {ds : List (Str × AV)} (h1 : EvT o w u c ms ls (.r k)) (m1 : ls[k]? = some (.inst C d)) (m2 : ls[d]? = some (.dct ds)) (hl : ds.lookup m = none) (g : Meth w C m f)
    (s1 : ∀ env, starEach (e :: es) env = (false, eval e env) :: starEach es env) (s2 : ∀ env pos, ((backTo pos (starEach es env)).any fun y => y.1) = false) (pl : Sem Bool)
    (he : eval (.Call (.Attribute o m p3) (e :: es) [] p) (c.ev u) = (do
      let ov ← eval o (c.ev u)
      standAt p3.atName
      let (f, first) ← holding [ov] (getMethod ov m pl)
      callWith p f first (backTo p (starEach (e :: es) (c.ev u))) []))
    (ha : ArK (e :: es) w u c ms ls (fun as al => CallW w u al (.ref f) (.r k :: as) K)) :
    EvK (.Call (.Attribute o m p3) (e :: es) [] p) w u c ms ls K :=
  ek_meth_of (ek_pure h1 ⟨k, d, C, f, ds, rfl, m1, m2, hl, g, fun _ ok _ hv _ _ S q => call_argsK (fs := [.r k]) (first := [_]) ha ⟨hv, trivial⟩ s1 s2 g.g4 ok S q⟩) pl he
theorem ek_meth0 {m : Str} {o : PySem.Expr} {k d : Nat} {C f : Addr} {ds : List (Str × AV)} (h1 : EvT o w u c ms ls (.r k)) (m1 : ls[k]? = some (.inst C d)) (m2 : ls[d]? = some (.dct ds)) (hl : ds.lookup m = none) (g : Meth w C m f)
    (pl : Sem Bool)
    (he : eval (.Call (.Attribute o m p3) [] [] p) (c.ev u) = (do
      let ov ← eval o (c.ev u)
      standAt p3.atName
      let (f, first) ← holding [ov] (getMethod ov m pl)
      callWith p f first (backTo p (starEach [] (c.ev u))) []))  (hc : CallW w u ls (.ref f) [.r k] K) :
    EvK (.Call (.Attribute o m p3) [] [] p) w u c ms ls K :=
  ek_meth_of (ek_pure h1 ⟨k, d, C, f, ds, rfl, m1, m2, hl, g, fun _ ok _ hv _ _ S q => call_no (fs := [.r k]) (first := [_]) ⟨hv, trivial⟩ g.g4 hc ok S q⟩) pl he
/-- statements -/
theorem ex_nil (h : KF .next ms ls) : Ex [] w u c ms ls KF := ⟨fun _ D _ s S q => wpAny_execs_nil (q _ _ _ _ s.toks s.heap D .rfl h rfl S)⟩
theorem ex_retK {es : PySem.Expr} (h : EvK es w u c ms ls (fun a al => KF (.ret a) ms al)) : Ex (.Return (some es) p :: rest) w u c ms ls KF := by
  refine ⟨fun ok D Q s S q => ?_⟩
  refine wpAny_execs_cons (wpAny_Return_some (h.go ok D _ s S fun a v al tk h' D' l k hv S => ?_))
  exact q _ _ ms al tk h' D' l k ⟨v, rfl, hv⟩ S
theorem ex_ret {es : PySem.Expr} (h : EvT es w u c ms ls a) (k : KF (.ret a) ms ls) : Ex (.Return (some es) p :: rest) w u c ms ls KF := ex_retK (ek_pure h k)
theorem frA_set {h' : Heap} {m : Str → Option Value} {v : Value} (F : Fr u.h₀ u.L h' fun y => if y = x then some v else m y) (hs : c.stands x = false) (hv : a.Is D v) {am : AM} (hF : ∀ x a, am.lookup x = some a → ∃ v, rdn u c m x = some v ∧ a.Is D v) : FrA u c D h' ((x, a) :: am) := by
  refine ⟨_, F, fun y b g => ?_⟩
  rw [List.lookup_cons] at g
  by_cases h : y = x
  · rw [beq_iff_eq.mpr h] at g; cases g; subst h; exact ⟨v, (rdn_off hs).trans (if_pos rfl), hv⟩
  · rw [show (y == x) = false from by simpa using h] at g
    obtain ⟨v', e, hv'⟩ := hF y b g
    refine ⟨v', ?_, hv'⟩
    rw [← e]
    unfold rdn
    rw [show (fun y => if y = x then some v else m y) y = m y from if_neg h]
theorem ex_asgK {es : PySem.Expr} (hi : c.inner = none) (hst : c.stands x = false) (hx : (c.fe u).kindOf x = some .local) (hs : ∀ env, swapsWith es (some (.Name x p1)) p.line env = pure false) (h : EvK es w u c ms ls (fun a al => Ex rest w u c ((x, a) :: ms) al KF)) :
    Ex (.Assign [.Name x p1] es p :: rest) w u c ms ls KF := by
  refine ⟨fun ok D Q s S q => ?_⟩
  refine wpAny_execs_cons (wpAny_Assign_Name (h.go ok D _ s S fun a v al tk h' D' l k hv S => ?_) (hs _))
  obtain ⟨m, F', hF⟩ := S.F
  obtain ⟨L, O⟩ := S.N.opn
  have k' := fun h'' F'' N'' => k.go ok D' Q { s with heap := h'', toks := tk + 1 } ⟨frA_set F'' hst hv hF, O.keep N''⟩ fun f fl m' al' tk h' D'' l' => q f fl m' al' tk h' D'' (l.trans l')
  rw [Cd.ev_none hi] at k' ⊢
  exact storeX_L F' O.N (fun h'' F'' N'' => k' h'' F'' N'') ok.k hx
theorem ex_asg {es : PySem.Expr} (h : EvT es w u c ms ls a) (hi : c.inner = none) (hst : c.stands x = false) (hx : (c.fe u).kindOf x = some .local) (hs : ∀ env, swapsWith es (some (.Name x p1)) p.line env = pure false) (k : Ex rest w u c ((x, a) :: ms) ls KF) : Ex (.Assign [.Name x p1] es p :: rest) w u c ms ls KF := ex_asgK hi hst hx hs (ek_pure h k)
/-- what stands behind a statement that may end -/
noncomputable def aft (rest : List Stmt) (w : World) (u : Un) (c : Cd) (KF : AF → AM → AL → Prop) (f : AF) (ms : AM) (al : AL) : Prop := match f with | .next => Ex rest w u c ms al KF | f => KF f ms al
theorem aft_next (h : Ex rest w u c ms ls KF) : aft rest w u c KF .next ms ls := h
theorem aft_ret (h : KF (.ret a) ms ls) : aft rest w u c KF (.ret a) ms ls := h
theorem aft_fin {f : AF} {fl : Flow} {m' : AM} {al' : AL} {tk : Nat} {h' : Heap} {D' : Dc} {Q : Flow → Shared → Prop} {s : Shared} (ok : Ok3 w u c) (l : D.Le D') (q : ∀ f fl m' al' tk h' D', D.Le D' → KF f m' al' → f.Is D' fl → St0 w u c D' h' m' al' → Q fl { s with heap := h', toks := tk }) (k : aft rest w u c KF f m' al') (hf : f.Is D' fl) (S : St0 w u c D' h' m' al') :
    (match (generalizing := false) fl with | .next => wpAny (MM w) u.A (execs rest (c.ev u)) Q NoE { s with heap := h', toks := tk } | f => Q f { s with heap := h', toks := tk }) := by
  cases f with
  | next => cases hf; exact Ex.go k ok D' Q _ S fun f fl m' al' tk h' D'' l' => q f fl m' al' tk h' D'' (l.trans l')
  | ret a => obtain ⟨v, rfl, hv⟩ := hf; exact q (.ret a) _ m' al' tk h' D' l k ⟨v, rfl, hv⟩ S
theorem ex_ifK {b1 b2 : List Stmt} (h : TrK e w u c ms ls (fun β al => if β = true then Ex b1 w u c ms al (aft rest w u c KF) else Ex b2 w u c ms al (aft rest w u c KF))) :
    Ex (.If e b1 b2 p :: rest) w u c ms ls KF := by
  refine ⟨fun ok D Q s S q => ?_⟩
  refine wpAny_execs_cons (wpAny_If (h.go ok D _ s S fun β al tk h' D' l k S => ?_))
  cases β with
  | true =>
    rw [if_pos rfl] at k ⊢
    exact k.go ok D' _ { s with heap := h', toks := tk } S fun f fl m' al' tk h' D'' l' k hf S => aft_fin ok (l.trans l') q k hf S
  | false =>
    rw [if_neg Bool.false_ne_true] at k ⊢
    exact k.go ok D' _ { s with heap := h', toks := tk } S fun f fl m' al' tk h' D'' l' k hf S => aft_fin ok (l.trans l') q k hf S
theorem tk_pure {β : Bool} {K : Bool → AL → Prop} (h : TrT e w u c ms ls β) (k : K β ls) : TrK e w u c ms ls K := ⟨fun ok D Q s S q => h.go ok D Q s S fun tk h' D' l S => q _ _ tk h' D' l k S⟩
theorem ite_D {P : Prop} {_inst : Decidable P} {X Y : Prop} (h1 : P → X) (h2 : ¬ P → Y) : if decide P = true then X else Y := by
  by_cases h : P
  · rw [if_pos (decide_eq_true h)]; exact h1 h
  · rw [if_neg (by simpa using h)]; exact h2 h
theorem ite_ND {P : Prop} {_inst : Decidable P} {X Y : Prop} (h1 : ¬ P → X) (h2 : P → Y) : if (!decide P) = true then X else Y := by
  by_cases h : P
  · rw [if_neg (by simpa using h)]; exact h2 h
  · rw [if_pos (by simpa using h)]; exact h1 h
theorem ite_T {β : Bool} {X Y : Prop} (e : β = true) (h : X) : if β = true then X else Y := by rw [if_pos e]; exact h
theorem ite_F {β : Bool} {X Y : Prop} (e : β = false) (h : Y) : if β = true then X else Y := by rw [if_neg (by rw [e]; exact Bool.false_ne_true)]; exact h
theorem ite_B {β : Bool} {X Y : Prop} (h1 : β = true → X) (h2 : β = false → Y) : if β = true then X else Y := by
  cases β with
  | true => rw [if_pos rfl]; exact h1 rfl
  | false => rw [if_neg Bool.false_ne_true]; exact h2 rfl
theorem ex_if {b1 b2 : List Stmt} {β : Bool} (h : TrT e w u c ms ls β) (h1 : β = true → Ex b1 w u c ms ls (aft rest w u c KF)) (h2 : β = false → Ex b2 w u c ms ls (aft rest w u c KF)) : Ex (.If e b1 b2 p :: rest) w u c ms ls KF := ex_ifK (tk_pure h (ite_B h1 h2))
theorem ex_ifD {b1 b2 : List Stmt} {P : Prop} {_inst : Decidable P} (h : TrT e w u c ms ls (decide P)) (h1 : P → Ex b1 w u c ms ls (aft rest w u c KF)) (h2 : ¬ P → Ex b2 w u c ms ls (aft rest w u c KF)) : Ex (.If e b1 b2 p :: rest) w u c ms ls KF := ex_if h (fun e => h1 (of_decide_eq_true e)) (fun e => h2 (of_decide_eq_false e))
/-- what storing into an own object wants -/
structure Setr (w : World) (C : Addr) (f : Str) : Prop where
  g1 : findIn (hd.heap_39 w.params) (.ref C) "__setattr__" = some (some (.builtin "object.__setattr__"))
  g2 : plainOver (hd.heap_39 w.params) C = true
  g3 : takerIn (hd.heap_39 w.params) C f = some none
  g4 : hasDictIn (hd.heap_39 w.params) C = true
/-- x.f = e -/
structure SeB (o : PySem.Expr) (f : Str) (rest : List Stmt) (w : World) (u : Un) (c : Cd) (ms : AM) (KF : AF → AM → AL → Prop) (a : AV) (al : AL) : Prop where
  ex : ∃ k d C ds, EvT o w u c ms al (.r k) ∧ al[k]? = some (.inst C d) ∧ al[d]? = some (.dct ds) ∧ Setr w C f ∧ ds.length < 1000 ∧ Ex rest w u c ms (al.set d (.dct (putA f a ds))) KF
theorem SeB.in {o : PySem.Expr} {f : Str} {k d : Nat} {C : Addr} {ds : List (Str × AV)} (h2 : EvT o w u c ms al (.r k)) (m1 : al[k]? = some (.inst C d)) (m2 : al[d]? = some (.dct ds)) (g : Setr w C f) (hz : ds.length < 1000) (kk : Ex rest w u c ms (al.set d (.dct (putA f a ds))) KF) : SeB o f rest w u c ms KF a al := ⟨k, d, C, ds, h2, m1, m2, g, hz, kk⟩
theorem ex_setK {f : Str} {o es : PySem.Expr} (hs : ∀ env, swapsWith es (some (.Attribute o f p1)) p.line env = pure false)
    (h1 : EvK es w u c ms ls (SeB o f rest w u c ms KF)) : Ex (.Assign [.Attribute o f p1] es p :: rest) w u c ms ls KF := by
  refine ⟨fun ok D Q s S q => ?_⟩
  refine wpAny_execs_cons (plainObj_wpAny_Assign_Attribute (h1.go ok D _ s S fun a v al tk h' D' l kk hv S => ?_) (hs _))
  obtain ⟨k, d, C, ds, h2, m1, m2, g, hz, kk⟩ := kk.ex
  refine h2.go ok D' _ { s with heap := h', toks := tk } S fun v' tk h' D'' l' hv' S => ?_
  obtain ⟨m, F', hF⟩ := S.F
  obtain ⟨x, ha, rfl⟩ := hv'
  obtain ⟨L, O⟩ := S.N.opn
  obtain ⟨o1, ⟨dx, hd, rfl⟩, i1⟩ := O.obj ha m1
  obtain ⟨o2, r, ⟨es2, n, rfl, hds⟩, ho, N2, up, ob⟩ := S.N.at hd m2
  obtain ⟨o3, ⟨dx', hd', rfl⟩, i3⟩ := ob ha m1
  cases hd.symm.trans hd'
  have hds' := ents_put (k := f) (t := tk + 1) (hv.mono l') rfl hds
  refine set_dict F' ok.ok.X N2 (InstAt.of_news (x := x) (dx := dx) (sl := #[]) N2 i3 (.head _)) rfl g.g1 g.g2 g.g3 g.g4 (ents_some hds) rfl (Upd.head ho) ?_ fun h'' F'' N'' => ?_
  · rw [ents_len hds']
    exact Nat.le_trans putA_len hz
  · refine kk.go ok D'' Q { s with heap := h'', toks := tk + 2 } (.put F'' hF (up (y := .dct (putA f a ds)) ⟨_, _, rfl, hds'⟩ N'')) fun f fl m' al' tk h' D3 l3 => q f fl m' al' tk h' D3 (l.trans (l'.trans l3))
theorem ex_set {f : Str} {o es : PySem.Expr} {k d : Nat} {C : Addr} {ds : List (Str × AV)} (h1 : EvT es w u c ms ls a) (h2 : EvT o w u c ms ls (.r k)) (m1 : ls[k]? = some (.inst C d)) (m2 : ls[d]? = some (.dct ds)) (g : Setr w C f) (hz : ds.length < 1000)
    (hs : ∀ env, swapsWith es (some (.Attribute o f p1)) p.line env = pure false) (kk : Ex rest w u c ms (ls.set d (.dct (putA f a ds))) KF) : Ex (.Assign [.Attribute o f p1] es p :: rest) w u c ms ls KF := ex_setK hs (ek_pure h1 ⟨k, d, C, ds, h2, m1, m2, g, hz, kk⟩)
/-- an expression that stands alone: what it gives falls -/
theorem ex_expr {es : PySem.Expr} (hi : interactive (c.ev u) = false) (hs : ∀ env, swapsWith es none p.line env = pure false) (h : EvK es w u c ms ls (fun _ al => Ex rest w u c ms al KF)) : Ex (.Expr es p :: rest) w u c ms ls KF := by
  refine ⟨fun ok D Q s S q => ?_⟩
  exact wpAny_execs_cons (wpAny_Expr_any (h.go ok D _ s S fun a v al tk h' D' l k hv S => k.go ok D' Q { s with heap := h', toks := tk } S fun f fl m' al' tk h' D'' l' => q f fl m' al' tk h' D'' (l.trans l')) hi (hs _))
/-- a contract that tells less is one too -/
theorem CallW.mono {f : Value} {as : List AV} {K' : AV → AL → Prop} (h : CallW w u al f as K) (k : ∀ a al', K a al' → K' a al') : CallW w u al f as K' :=
  ⟨fun ok D vs hvs m Q s F N q => h.go ok D vs hvs m Q s F N fun a v al' tk h' D' l kk => q a v al' tk h' D' l (k _ _ kk)⟩
theorem len1 {P : List Value → Prop} (h : ∀ a, P [a]) (vs : List Value) (e : vs.length = 1) : P vs := by
  match vs, e with
  | [a], _ => exact h a
theorem len2 {P : List Value → Prop} (h : ∀ a b, P [a, b]) (vs : List Value) (e : vs.length = 2) : P vs := by
  match vs, e with
  | [a, b], _ => exact h a b
theorem len3 {P : List Value → Prop} (h : ∀ a b c, P [a, b, c]) (vs : List Value) (e : vs.length = 3) : P vs := by
  match vs, e with
  | [a, b, c], _ => exact h a b c
theorem len4 {P : List Value → Prop} (h : ∀ a b c d, P [a, b, c, d]) (vs : List Value) (e : vs.length = 4) : P vs := by
  match vs, e with
  | [a, b, c, d], _ => exact h a b c d
/-- a call as a condition, that gives a bool -/
theorem tk_call {K : Bool → AL → Prop} (he : PySem.isTrue e (c.ev u) (eval e (c.ev u)) = (do let v ← eval e (c.ev u); standAt e.pos; holding [v] (truthy v))) (h : EvK e w u c ms ls (fun a al => ∃ β, a = .v (.bool β) ∧ K β al)) : TrK e w u c ms ls K :=
  ⟨fun ok D Q s S q => isTrue_plain (h.go ok D _ s S fun a v al tk h' D' l ⟨β, ea, k⟩ hv S => by
    subst ea; cases hv; exact wpAny_truthy_bool (q β al tk h' D' l k S)) he⟩
theorem tk_not {K : Bool → AL → Prop} (h : TrK e w u c ms ls (fun b al => K (!b) al)) : TrK (.UnaryOp .Not e p) w u c ms ls K := ⟨fun ok D _ s S k => isTrue_not (h.go ok D _ s S fun b al tk h' D' l kk S => k _ al tk h' D' l kk S)⟩
/-- and, or as conditions -/
theorem tk_or {e0 : PySem.Expr} {es : List PySem.Expr} {K : Bool → AL → Prop} (h : TrK e0 w u c ms ls (fun β al => if β = true then K true al else TrK (.BoolOp .Or es p) w u c ms al K)) : TrK (.BoolOp .Or (e0 :: es) p) w u c ms ls K :=
  ⟨fun ok D Q s S q => isTrue_or (h.go ok D _ s S fun c al tk h' D' l k S => by
    cases c with
    | true => rw [if_pos rfl] at k; rw [if_pos rfl]; exact q true al tk h' D' l k S
    | false =>
      rw [if_neg Bool.false_ne_true] at k; rw [if_neg Bool.false_ne_true]
      exact k.go ok D' _ { s with heap := h', toks := tk } S fun b al tk h' D'' l' kk S => q b al tk h' D'' (l.trans l') kk S)⟩
theorem tk_and {e0 : PySem.Expr} {es : List PySem.Expr} {K : Bool → AL → Prop} (h : TrK e0 w u c ms ls (fun β al => if β = true then TrK (.BoolOp .And es p) w u c ms al K else K false al)) : TrK (.BoolOp .And (e0 :: es) p) w u c ms ls K :=
  ⟨fun ok D Q s S q => isTrue_and (h.go ok D _ s S fun c al tk h' D' l k S => by
    cases c with
    | false => rw [if_neg Bool.false_ne_true] at k; rw [if_neg Bool.false_ne_true]; exact q false al tk h' D' l k S
    | true =>
      rw [if_pos rfl] at k; rw [if_pos rfl]
      exact k.go ok D' _ { s with heap := h', toks := tk } S fun b al tk h' D'' l' kk S => q b al tk h' D'' (l.trans l') kk S)⟩
theorem tk_or_nil {K : Bool → AL → Prop} (h : K false ls) : TrK (.BoolOp .Or [] p) w u c ms ls K := ⟨fun _ D _ s S q => isTrue_or_nil (q _ _ s.toks s.heap D .rfl h S)⟩
theorem tk_and_nil {K : Bool → AL → Prop} (h : K true ls) : TrK (.BoolOp .And [] p) w u c ms ls K := ⟨fun _ D _ s S q => isTrue_and_nil (q _ _ s.toks s.heap D .rfl h S)⟩
/-- x if c else y -/
theorem ek_ifexp {c0 : PySem.Expr} (h : TrK c0 w u c ms ls (fun β al => if β = true then EvK e1 w u c ms al K else EvK e2 w u c ms al K)) : EvK (.IfExp c0 e1 e2 p) w u c ms ls K :=
  ⟨fun ok D Q s S q => IfExp_ (h.go ok D _ s S fun β al tk h' D' l k S => by
    cases β with
    | true => rw [if_pos rfl] at k; rw [if_pos rfl]; exact k.go ok D' _ { s with heap := h', toks := tk } S fun a v al tk h' D'' l' => q a v al tk h' D'' (l.trans l')
    | false => rw [if_neg Bool.false_ne_true] at k; rw [if_neg Bool.false_ne_true]; exact k.go ok D' _ { s with heap := h', toks := tk } S fun a v al tk h' D'' l' => q a v al tk h' D'' (l.trans l'))⟩
end
theorem get_set {al : AL} {d : Nat} {y z : AO} (h : al[d]? = some z) : (al.set d y)[d]? = some y := by
  rw [List.getElem?_set_self (List.getElem?_eq_some_iff.mp h).1]
noncomputable def AO.kind : AO → Nat
  | .inst _ _ => 0
  | .dct es => 7 + es.length
  | .sd _ => 5
  | .src => 6
  | .lst _ => 2
  | .hel _ => 3
  | .gone => 4
theorem get_set_ne {al : AL} {k d : Nat} {x y z : AO} (h : al[k]? = some x) (hd : al[d]? = some z) (hn : (x.kind == z.kind) = false) : (al.set d y)[k]? = some x := by
  have hk : d ≠ k := by
    rintro rfl
    rw [h] at hd
    cases hd
    rw [beq_self_eq_true] at hn
    cases hn
  rw [List.getElem?_set_ne hk]; exact h
theorem get_off {al : AL} {k d : Nat} {x y : AO} (h : al[k]? = some x) (hn : d ≠ k) : (al.set d y)[k]? = some x := by
  rw [List.getElem?_set_ne hn]; exact h
theorem get_snoc {al : AL} {x : AO} : (al ++ [x])[al.length]? = some x := by
  rw [List.getElem?_append_right (Nat.le_refl _), Nat.sub_self]; rfl
theorem set_same {al : AL} {d : Nat} {y : AO} (h : al[d]? = some y) : al.set d y = al := by
  refine List.ext_getElem? fun k => ?_
  by_cases e : d = k
  · subst e; rw [get_set h, h]
  · rw [List.getElem?_set_ne e]
theorem set_left {al j : AL} {d : Nat} {y z : AO} (h : al[d]? = some z) : (al ++ j).set d y = al.set d y ++ j := by
  rw [List.set_append_left _ _ (List.getElem?_eq_some_iff.mp h).1]
end
section
theorem clr_Y4 : True := by
  w_top off
  trivial
variable {w : World} {A A₀ : Around} {base h₀ : Heap} {outer : List Env} {env : Env} {L : Addr} {m : Str → Option Value} {s : Shared} {Q E : Value → Shared → Prop} {mean : ExcName → Option Value} {mg mb : Str → Option Value}
section
variable {w : World} {u : Un} {c : Cd} {ms : AM} {ls : AL} {e e1 e2 : PySem.Expr} {a b : AV} {x : Str} {p p1 p2 p3 : Pos} {al : AL} {D : Dc} {sts rest : List Stmt} {KF : AF → AM → AL → Prop} {K : AV → AL → Prop}
theorem Opn.list {h : Heap} {L : List (Addr × Obj)} {k : Nat} {us : List AV} {v : Value} (O : Opn w u D h al L) (hv : (AV.r k).Is D v) (m : al[k]? = some (.lst us)) :
    ∃ x vs n, v = .ref x ∧ (x, listOf vs.toArray n) ∈ L ∧ D.ad[k]? = some (some x) ∧ avs D us vs := by
  obtain ⟨x, ha, rfl⟩ := hv
  obtain ⟨o, ⟨vs, n, rfl, hvs⟩, i⟩ := O.obj ha m
  exact ⟨x, vs, n, rfl, i, ha, hvs⟩
/-- len(x) of a list -/
theorem len_w {k : Nat} {us : List AV} (m : al[k]? = some (.lst us)) (hz : us.length ≤ 1000000) (hK : K (.i us.length) al) : CallW w u al (.builtin "len") [.r k] K := by
  refine ⟨fun ok D vs hvs m' Q s F N q => ?_⟩
  match vs, hvs with
  | [v], ⟨hv, _⟩ =>
    obtain ⟨L, O⟩ := N.opn
    obtain ⟨x, vs, n, rfl, i, ha, hvs⟩ := O.list hv m
    refine my_len (News.isList O.N i) (by rw [avs_len hvs]; exact hz) ?_
    rw [avs_len hvs]
    exact q _ _ al (s.toks + 1 + 1) s.heap D .rfl hK ⟨_, rfl⟩ F N
/-- what stands at an index -/
inductive ItemA (ls : AL) : AV → Int → AV → Prop
  | tup {as : List AV} {n : Int} {b : AV} (h : as[n.toNat]? = some b) (h0 : 0 ≤ n) (hn : n < 1000000) : ItemA ls (.t as) n b
  | lst {k : Nat} {us : List AV} {n : Int} {b : AV} (m : ls[k]? = some (.lst us)) (h : us[n.toNat]? = some b) (h0 : 0 ≤ n) (hn : n < 1000000) : ItemA ls (.r k) n b
noncomputable def SubOk (e2 : PySem.Expr) : Prop := ∀ (o : Value) (n : Int) (t : Tok), subscripted e2 false o (.int n t) = operate [o, .int n t] (getItem o (.int n t))
structure ItB (e2 : PySem.Expr) (w : World) (u : Un) (c : Cd) (ms : AM) (K : AV → AL → Prop) (a : AV) (al : AL) : Prop where
  ex : ∃ n b, EvT e2 w u c ms al (.i n) ∧ ItemA al a n b ∧ K b al
theorem ItB.in {n : Int} (h : EvT e2 w u c ms al (.i n)) (it : ItemA al a n b) (k : K b al) : ItB e2 w u c ms K a al := ⟨n, b, h, it, k⟩
theorem ek_item (hs : SubOk e2) (h : EvK e1 w u c ms ls (ItB e2 w u c ms K)) : EvK (.Subscript e1 e2 p) w u c ms ls K := by
  refine ⟨fun ok D Q s S q => ?_⟩
  refine Subscript_ (h.go ok D _ s S fun a v al tk h' D' l hB hv S => ?_)
  obtain ⟨n, b, h2, it, k⟩ := hB.ex
  refine h2.go ok D' _ { s with heap := h', toks := tk } S fun v2 tk h' D'' l' hv2 S => ?_
  obtain ⟨t, rfl⟩ := hv2
  cases it with
  | tup hx h0 hn =>
    obtain ⟨x, vs, rfl, ht, hvs⟩ := hv.mono l'
    obtain ⟨L, O⟩ := S.N.opn
    obtain ⟨v, hv, hb⟩ := avs_get _ hvs hx
    have hlt := (List.getElem?_eq_some_iff.mp hv).1
    refine item_tupleT (j := n.toNat) (News.isTup O.N (O.tup _ ht)) (by omega) (by omega) ?_ hv (q _ _ al tk h' D'' (l.trans l') k hb S) (hs _ _ _)
    unfold seqIndex?
    simp only [Int.not_lt.mpr h0, if_false]
    rw [if_pos (by simp; omega)]
  | lst m hx h0 hn =>
    obtain ⟨L, O⟩ := S.N.opn
    obtain ⟨x, vs, n', rfl, i, ha, hvs⟩ := O.list (hv.mono l') m
    obtain ⟨v, hv, hb⟩ := avs_get _ hvs hx
    exact my_item (News.isList O.N i) h0 (by omega) hv (q _ _ al tk h' D'' (l.trans l') k hb S) (hs _ _ _)
theorem ev_item {n : Int} (hs : SubOk e2) (h1 : EvT e1 w u c ms ls a) (h2 : EvT e2 w u c ms ls (.i n)) (it : ItemA ls a n b) : EvT (.Subscript e1 e2 p) w u c ms ls b := by
  refine ⟨fun ok D Q s S q => ?_⟩
  exact (ek_item (K := fun b' al => b' = b ∧ al = ls) hs (ek_pure h1 ⟨n, b, h2, it, rfl, rfl⟩)).go ok D Q s S fun a' v al' tk h' D' l ⟨q1, q2⟩ hv S' => by rw [q1] at hv; rw [q2] at S'; exact q v tk h' D' l hv S'
/-- a tuple -/
theorem ek_tup {es : List PySem.Expr} {k : Nat} (hz : es.length ≤ 100) (h : ArK es w u c ms ls (fun as al => as.length ≤ 100 ∧ K (.t as) al)) : EvK (.Tuple es k p) w u c ms ls K := by
  refine ⟨fun ok D Q s S q => ?_⟩
  refine Tuple_ ?_
  refine h.go ok D p _ s S fun as vs al tk h' D' l ⟨hl, k⟩ hvs S => ?_
  obtain ⟨m, F, hF⟩ := S.F
  obtain ⟨L, O⟩ := S.N.opn
  refine kup_newTuple F O.N (fun a h'' F'' N'' lt => ?_) (by rw [avs_len hvs, sizeLine_eq]; omega)
  have l2 : D'.Le (D'.tup a vs) := Dc.le_tup
  exact q _ _ al tk h'' (D'.tup a vs) (l.trans l2) k ⟨a, vs, rfl, .head _, avs.mono l2 hvs⟩ (.put F'' (fun x a e => let ⟨v, e, i⟩ := hF x a e; ⟨v, e, i.mono l2⟩) (O.mktup N'' fun p hp => Nat.ne_of_lt (lt p hp)))
/-- a list: it lies in a slot of its own -/
theorem ek_list {es : List PySem.Expr} (h : ArK es w u c ms ls (fun as al => as.length ≤ 100 ∧ K (.r al.length) (al ++ [.lst as]))) : EvK (.List es p) w u c ms ls K := by
  refine ⟨fun ok D Q s S q => ?_⟩
  refine List_ ?_
  refine h.go ok D p _ s S fun as vs al tk h' D' l ⟨hl, k⟩ hvs S => ?_
  obtain ⟨m, F, hF⟩ := S.F
  obtain ⟨L, O⟩ := S.N.opn
  refine newList_K F O.N (fun a h'' F'' N'' lt => ?_) (by rw [avs_len hvs, sizeLine_eq]; omega)
  have l2 : D'.Le (D'.push a) := Dc.le_push
  refine q _ _ _ tk h'' (D'.push a) (l.trans l2) k ⟨a, ?_, rfl⟩ (.put F'' (fun x a e => let ⟨v, e, i⟩ := hF x a e; ⟨v, e, i.mono l2⟩) (O.push N'' (fun p hp => Nat.ne_of_lt (lt p hp)) ⟨vs, 0, rfl, avs.mono l2 hvs⟩))
  show (D'.ad ++ [some a])[al.length]? = _
  rw [← O.len, List.getElem?_append_right (Nat.le_refl _), Nat.sub_self]
  rfl
/-- a builtin as a function, a type, a list's method -/
theorem ek_callB {f : Str} {id : String} {es : List PySem.Expr} (h1 : EvT (.Name f p3) w u c ms ls (.v (.builtin id))) (s1 : ∀ env, starEach (e :: es) env = (false, eval e env) :: starEach es env) (s2 : ∀ env pos, ((backTo pos (starEach es env)).any fun y => y.1) = false)
    (ha : ArK (e :: es) w u c ms ls (fun as al => CallW w u al (.builtin id) as K)) : EvK (.Call (.Name f p3) (e :: es) [] p) w u c ms ls K := by
  refine ⟨fun ok D Q s S q => ?_⟩
  refine Call_ (h1.go ok D _ s S fun v tk h' D' l hv S => ?_)
  cases hv
  refine PyProof.Rows.callWith_builtin1 (ha.go ok D' p _ _ S fun as vs al tk h' D'' l' hc hvs S => ?_) (s1 _) (s2 _ _)
  obtain ⟨m, F, hF⟩ := S.F
  exact hc.go ok.ok D'' _ hvs m Q { s with heap := h', toks := tk } F S.N fun a v al' tk h'' D3 l3 k hv F N => q a v al' tk h'' D3 (l.trans (l'.trans l3)) k hv (.put F (fun x a e => let ⟨v, e, i⟩ := hF x a e; ⟨v, e, i.mono l3⟩) N)
theorem ek_callY {f : Str} {T : String} {es : List PySem.Expr} (h1 : EvT (.Name f p3) w u c ms ls (.v (.type T))) (s1 : ∀ env, starEach (e :: es) env = (false, eval e env) :: starEach es env) (s2 : ∀ env pos, ((backTo pos (starEach es env)).any fun y => y.1) = false)
    (ha : ArK (e :: es) w u c ms ls (fun as al => CallW w u al (.type T) as K)) : EvK (.Call (.Name f p3) (e :: es) [] p) w u c ms ls K := by
  refine ⟨fun ok D Q s S q => ?_⟩
  refine Call_ (h1.go ok D _ s S fun v tk h' D' l hv S => ?_)
  cases hv
  have h2 := ha.go ok D' p (fun vs s₁ => wpAny (MM w) u.A (call (.type T) ([] ++ vs)) Q NoE s₁) { s with heap := h', toks := tk } S fun as vs al tk h' D'' l' hc hvs S => by
    obtain ⟨m, F, hF⟩ := S.F
    exact hc.go ok.ok D'' _ hvs m Q { s with heap := h', toks := tk } F S.N fun a v al' tk h'' D3 l3 k hv F N => q a v al' tk h'' D3 (l.trans (l'.trans l3)) k hv (.put F (fun x a e => let ⟨v, e, i⟩ := hF x a e; ⟨v, e, i.mono l3⟩) N)
  rw [s1] at h2 ⊢
  exact PyProof.Rows.callWith_type (by show (false || (backTo p (starEach es (c.ev u))).any fun y => y.1) = false; rw [s2]; rfl) (evalArgs_plain h2)
theorem ek_lmeth {m : Str} {id : String} {o : PySem.Expr} {es : List PySem.Expr} {k : Nat} {us : List AV} (slot : Slot "list" m id) (hty : typeOf (.builtin id) = pure (.type "method_descriptor")) (h1 : EvT o w u c ms ls (.r k)) (m1 : ls[k]? = some (.lst us))
    (s1 : ∀ env, starEach (e :: es) env = (false, eval e env) :: starEach es env) (s2 : ∀ env pos, ((backTo pos (starEach es env)).any fun y => y.1) = false) (pl : Sem Bool)
    (he : eval (.Call (.Attribute o m p3) (e :: es) [] p) (c.ev u) = (do
      let ov ← eval o (c.ev u)
      standAt p3.atName
      let (f, first) ← holding [ov] (getMethod ov m pl)
      callWith p f first (backTo p (starEach (e :: es) (c.ev u))) []))
    (ha : ArK (e :: es) w u c ms ls (fun as al => CallW w u al (.builtin id) (.r k :: as) K)) : EvK (.Call (.Attribute o m p3) (e :: es) [] p) w u c ms ls K := by
  refine ⟨fun ok D Q s S q => ?_⟩
  refine MethodCall_ (pl := pl) (h1.go ok D _ s S fun v tk h' D' l hv S => ?_) he
  have hv' := hv
  obtain ⟨L, O⟩ := S.N.opn
  obtain ⟨x, vs, n, rfl, i, _, _⟩ := O.list hv m1
  refine listMethod_K O.N i slot hty ?_
  refine callWith_method1 (ha.go ok D' p _ _ S fun as vs al tk h' D'' l' hc hvs S => ?_) (s1 _) (s2 _ _)
  obtain ⟨m, F, hF⟩ := S.F
  exact hc.go ok.ok D'' _ (show avs D'' (AV.r k :: as) (Value.ref x :: vs) from ⟨hv'.mono l', hvs⟩) m Q { s with heap := h', toks := tk } F S.N fun a v al' tk h'' D3 l3 k hv F N => q a v al' tk h'' D3 (l.trans (l'.trans l3)) k hv (.put F (fun x a e => let ⟨v, e, i⟩ := hF x a e; ⟨v, e, i.mono l3⟩) N)
theorem append_w {k : Nat} {us : List AV} (m : al[k]? = some (.lst us)) (hz : us.length ≤ 1000000) (hK : K (.v .none) (al.set k (.lst (us ++ [a])))) : CallW w u al (.builtin "list.append") [.r k, a] K := by
  refine ⟨fun ok D vs hvs m' Q s F N q => ?_⟩
  match vs, hvs with
  | [v, y], ⟨⟨x, hx, e⟩, hy, _⟩ =>
    subst e
    obtain ⟨o, r, ⟨us', n, rfl, hu⟩, ho, N', up, _⟩ := N.at hx m
    exact my_append F N' (Upd.head ho) (by rw [avs_len hu]; exact hz) fun h' F' N'' => q _ _ _ s.toks h' D .rfl hK rfl F' (up ⟨_, _, rfl, avs_app hu (show avs D [a] [y] from ⟨hy, trivial⟩)⟩ N'')
theorem pop_w {k : Nat} {us : List AV} (m : al[k]? = some (.lst (a :: us))) (hz : (a :: us).length ≤ 9) (hK : K a (al.set k (.lst us))) : CallW w u al (.builtin "list.pop") [.r k, .i 0] K := by
  refine ⟨fun ok D vs hvs m' Q s F N q => ?_⟩
  match vs, hvs with
  | [v, y], ⟨⟨x, hx, e⟩, ⟨t, e2⟩, _⟩ =>
    subst e e2
    obtain ⟨o, r, ⟨us', n, rfl, hu⟩, ho, N', up, _⟩ := N.at hx m
    match us', hu with
    | y :: us', ⟨hy, hu⟩ => exact my_pop0 F N' (Upd.head ho) (by simpa [avs_len hu] using hz) fun h' F' N'' => q _ _ _ s.toks h' D .rfl hK hy F' (up ⟨_, _, rfl, hu⟩ N'')
/-- a list held against the empty list -/
theorem eq_nil_w {k j : Nat} {us : List AV} {v v' : Value} {A : Around} {E Q : Value → Shared → Prop} {s : Shared} (hu : A.units < cLine) (N : Nw w u D s.heap al) (hv : (AV.r k).Is D v) (hv' : (AV.r j).Is D v') (m : al[k]? = some (.lst us)) (m' : al[j]? = some (.lst []))
    (h : Q (.bool us.isEmpty) s) : wpAny (MM w) A (compareOp .Eq v v') Q E s := by
  obtain ⟨L, O⟩ := N.opn
  obtain ⟨x, vs, n, rfl, i, _, hvs⟩ := O.list hv m
  obtain ⟨x', vs', n', rfl, i', _, hvs'⟩ := O.list hv' m'
  match vs', hvs' with
  | [], _ =>
    match us, vs, hvs with
    | [], [], _ => exact PySem.SeqAt.eq_listAt (e := fun _ => true) (News.isList O.N i) (News.isList O.N i') rfl hu (fun j h1 => absurd h1 (Nat.not_lt_zero _)) h
    | _ :: _, y :: vs, _ => exact my_eq_nil (News.isList O.N i) (News.isList O.N i') hu h
theorem ev_of_ek (h : EvK e w u c ms ls (fun a' al' => a' = a ∧ al' = ls)) : EvT e w u c ms ls a :=
  ⟨fun ok D Q s S q => h.go ok D Q s S fun a' v al' tk h' D' l ⟨q1, q2⟩ hv S' => by rw [q1] at hv; rw [q2] at S'; exact q v tk h' D' l hv S'⟩
theorem ev_len {k : Nat} {us : List AV} (hf : EvT (.Name "len" p3) w u c ms ls (.v (.builtin "len"))) (h1 : EvT e w u c ms ls (.r k)) (m : ls[k]? = some (.lst us)) (hz : us.length ≤ 1000000) (s1 : ∀ env, starEach [e] env = [(false, eval e env)]) :
    EvT (.Call (.Name "len" p3) [e] [] p) w u c ms ls (.i us.length) :=
  ev_of_ek (ek_callB hf s1 (fun _ _ => rfl) (ak_pure (ar_cons h1 ar_nil s1) (len_w m hz ⟨rfl, rfl⟩)))
theorem ev_lenT {as : List AV} (hf : EvT (.Name "len" p3) w u c ms ls (.v (.builtin "len"))) (h1 : EvT e w u c ms ls (.t as)) (hz : as.length ≤ 1000000) (s1 : ∀ env, starEach [e] env = [(false, eval e env)]) :
    EvT (.Call (.Name "len" p3) [e] [] p) w u c ms ls (.i as.length) := by
  refine ev_of_ek (ek_callB hf s1 (fun _ _ => rfl) (ak_pure (ar_cons h1 ar_nil s1) ⟨fun ok D vs hvs m' Q s F N q => ?_⟩))
  match vs, hvs with
  | [v], ⟨⟨x, vs, e, i, hvs⟩, _⟩ =>
    subst e
    obtain ⟨L, O⟩ := N.opn
    refine len_tuple (News.isTup O.N (O.tup _ i)) (by rw [List.size_toArray, avs_len hvs]; omega) ?_
    rw [List.size_toArray, avs_len hvs]
    exact q _ _ _ (s.toks + 1 + 1) s.heap D .rfl ⟨rfl, rfl⟩ ⟨_, rfl⟩ F N
/-- x == [] as a condition; the empty list stays behind -/
theorem tk_eqnil {k : Nat} {us : List AV} {K : Bool → AL → Prop} (hm : behindInMarks .Eq (.List [] p2) = false) (hd : u.d < 9000) (h1 : EvT e w u c ms ls (.r k)) (m : ls[k]? = some (.lst us)) (hK : K us.isEmpty (ls ++ [.lst []])) : TrK (.Compare e [.Eq] [.List [] p2] p) w u c ms ls K := by
  refine ⟨fun ok D Q s S q => ?_⟩
  refine wpAny_isTrue_Compare1 (h1.go ok D _ s S fun v tk h' D' l hv S => ?_) hm
  refine (ek_list (K := fun b al => b = .r ls.length ∧ al = ls ++ [.lst []]) (ak_pure ar_nil ⟨Nat.zero_le _, rfl, rfl⟩)).go ok D' _ { s with heap := h', toks := tk } S fun a v' al tk h' D'' l' ⟨e1, e2⟩ hv' S' => ?_
  subst e1 e2
  have h3 : (ls ++ [AO.lst []])[ls.length]? = some (.lst []) := by rw [List.getElem?_append_right (Nat.le_refl _), Nat.sub_self]; rfl
  exact eq_nil_w (by have := ok.ok.hun; show _ < cLine; rw [show cLine = 9900 from rfl]; omega) S'.N (hv.mono l') hv' (get_left m) h3 (wpAny_truthy_bool (q _ _ tk h' D'' (l.trans l') hK S'))
theorem ev_eqnil_ret {k : Nat} {us : List AV} (hm : behindInMarks .Eq (.List [] p2) = false) (hd : u.d < 9000) (h1 : EvT e w u c ms ls (.r k)) (m : ls[k]? = some (.lst us)) (hK : K (.v (.bool us.isEmpty)) (ls ++ [.lst []])) : EvK (.Compare e [.Eq] [.List [] p2] p) w u c ms ls K := by
  refine ⟨fun ok D Q s S q => ?_⟩
  refine wpAny_Compare1 (h1.go ok D _ s S fun v tk h' D' l hv S => ?_) hm
  refine (ek_list (K := fun b al => b = .r ls.length ∧ al = ls ++ [.lst []]) (ak_pure ar_nil ⟨Nat.zero_le _, rfl, rfl⟩)).go ok D' _ { s with heap := h', toks := tk } S fun a v' al tk h' D'' l' ⟨e1, e2⟩ hv' S' => ?_
  subst e1 e2
  have h3 : (ls ++ [AO.lst []])[ls.length]? = some (.lst []) := by rw [List.getElem?_append_right (Nat.le_refl _), Nat.sub_self]; rfl
  exact eq_nil_w (by have := ok.ok.hun; show _ < cLine; rw [show cLine = 9900 from rfl]; omega) S'.N (hv.mono l') hv' (get_left m) h3 (q _ _ _ tk h' D'' (l.trans l') hK rfl S')
/-- and, or, not as values, where the operands are bools -/
theorem ek_and {rest : List PySem.Expr} (h : EvK e1 w u c ms ls (fun a al => ∃ β, a = .v (.bool β) ∧ if β = true then EvK (.BoolOp .And (e2 :: rest) p) w u c ms al K else K (.v (.bool false)) al)) : EvK (.BoolOp .And (e1 :: e2 :: rest) p) w u c ms ls K := by
  refine ⟨fun ok D Q s S q => BoolOp_and (h.go ok D _ s S fun a v al tk h' D' l ⟨β, ea, k⟩ hv S => ?_)⟩
  subst ea; cases hv
  refine wpAny_truthy_bool ?_
  cases β with
  | true =>
    rw [if_pos rfl] at k ⊢
    exact k.go ok D' Q { s with heap := h', toks := tk } S fun a v al tk h' D'' l' => q a v al tk h' D'' (l.trans l')
  | false =>
    rw [if_neg Bool.false_ne_true] at k ⊢
    exact q _ _ al tk h' D' l k rfl S
theorem ek_or {rest : List PySem.Expr} (h : EvK e1 w u c ms ls (fun a al => ∃ β, a = .v (.bool β) ∧ if β = true then K (.v (.bool true)) al else EvK (.BoolOp .Or (e2 :: rest) p) w u c ms al K)) : EvK (.BoolOp .Or (e1 :: e2 :: rest) p) w u c ms ls K := by
  refine ⟨fun ok D Q s S q => BoolOp_or (h.go ok D _ s S fun a v al tk h' D' l ⟨β, ea, k⟩ hv S => ?_)⟩
  subst ea; cases hv
  refine wpAny_truthy_bool ?_
  cases β with
  | true =>
    rw [if_pos rfl] at k ⊢
    exact q _ _ al tk h' D' l k rfl S
  | false =>
    rw [if_neg Bool.false_ne_true] at k ⊢
    exact k.go ok D' Q { s with heap := h', toks := tk } S fun a v al tk h' D'' l' => q a v al tk h' D'' (l.trans l')
theorem ek_one {op : BoolOp} (h : EvK e w u c ms ls K) : EvK (.BoolOp op [e] p) w u c ms ls K := ⟨fun ok D Q s S q => BoolOp_one (h.go ok D Q s S q)⟩
/-- a condition as a value -/
theorem ev_isV {k : Nat} (h1 : EvT e1 w u c ms ls a) (ha : plainA a = true) (hm : behindInMarks .Is (.Constant .none k p2) = false) : EvT (.Compare e1 [.Is] [.Constant .none k p2] p) w u c ms ls (.v (.bool (isNoneA a))) := by
  refine ⟨fun ok D Q s S h => ?_⟩
  refine wpAny_Compare1 (h1.go ok D _ s S fun v tk h' D' l hv S => ?_) hm
  refine ev_none.go ok D' _ _ S fun v' tk h' D'' l' hv' S => ?_
  cases hv'
  exact is_noneA ha hv (h _ tk h' D'' (l.trans l') rfl S)
/-- a number in a list of numbers -/
theorem ints_any {n : Int} : ∀ {ns : List Int} {vs : List Value}, avs D (ns.map .i) vs → (vs.any fun v => match v with | .int m _ => m == n | _ => false) = ns.any (· == n)
  | [], [], _ => rfl
  | m :: ns, _ :: vs, ⟨⟨t, e⟩, h⟩ => by subst e; rw [List.any_cons, List.any_cons, ints_any h]
theorem ints_mem {y : Value} : ∀ {ns : List Int} {vs : List Value}, avs D (ns.map .i) vs → y ∈ vs → ∃ m t, y = .int m t
  | [], [], _, hm => nomatch hm
  | m :: ns, _ :: vs, ⟨⟨t, e⟩, h⟩, hm => by
    rcases List.mem_cons.mp hm with e2 | hm
    · exact ⟨m, t, e2.trans e⟩
    · exact ints_mem h hm
theorem ev_in {n : Int} {k : Nat} {ns : List Int} (hm : behindInMarks .In e2 = false) (h1 : EvT e1 w u c ms ls (.i n)) (h2 : EvT e2 w u c ms ls (.r k)) (m : ls[k]? = some (.lst (ns.map .i))) : EvT (.Compare e1 [.In] [e2] p) w u c ms ls (.v (.bool (ns.any (· == n)))) := by
  refine ⟨fun ok D Q s S h => ?_⟩
  refine wpAny_Compare1 (h1.go ok D _ s S fun v tk h' D' l hv S => ?_) hm
  obtain ⟨t, rfl⟩ := hv
  refine h2.go ok D' _ _ S fun v' tk h' D'' l' hv' S => ?_
  obtain ⟨L, O⟩ := S.N.opn
  obtain ⟨x, vs, n', rfl, i, ha, hvs⟩ := O.list hv' m
  refine PySem.SeqAt.in_listAt (fun v => match v with | .int m _ => m == n | _ => false) (News.isList O.N i) (fun y hy => ?_) ?_
  · obtain ⟨m', t', rfl⟩ := ints_mem hvs (by simpa using hy)
    exact (PySem.MeetsSeq.EqGives.int m' n t' t).at _ _
  · have e := ints_any (n := n) hvs
    have e2 : (vs.toArray.any fun v => match v with | .int m _ => m == n | _ => false) = ns.any (· == n) := by rw [← e]; simp
    rw [e2]
    exact h _ tk h' D'' (l.trans l') rfl S
theorem ek_not (h : EvK e w u c ms ls (fun a al => ∃ β, a = .v (.bool β) ∧ K (.v (.bool (!β))) al)) : EvK (.UnaryOp .Not e p) w u c ms ls K := by
  refine ⟨fun ok D Q s S q => wpAny_UnaryOp (h.go ok D _ s S fun a v al tk h' D' l ⟨β, ea, k⟩ hv S => ?_)⟩
  subst ea; cases hv
  exact not_value (wpAny_truthy_bool (q _ _ al tk h' D' l k rfl S))
end
end
section
local macro_rules | `(tactic| walk_at "no such key") => `(tactic| fail)
theorem clr_Y7 : True := by
  w_top off
  trivial
variable {w : World} {A A₀ : Around} {base h₀ : Heap} {outer : List Env} {env : Env} {L : Addr} {m : Str → Option Value} {s : Shared} {Q E : Value → Shared → Prop} {mean : ExcName → Option Value} {mg mb : Str → Option Value}
section
open PySem.Spec PyProof.Rows.LCg
variable {w : World} {u : Un} {c : Cd} {ms : AM} {ls al : AL} {D : Dc} {h h' : Heap} {led : List (Addr × Obj)} {xs : List Addr} {X : List (Addr × Obj)} {a : AV} {A : Around} {s : Shared} {E : Value → Shared → Prop}
/-- a ledger that is off the addresses xs -/
noncomputable def NwO (w : World) (u : Un) (D : Dc) (h : Heap) (al : AL) (xs : List Addr) : Prop := ∃ led, LedOk w u D h al led ∧ ∀ q ∈ led ++ (D.T ++ u.fz), q.1 ∉ xs
theorem NwO.nw : NwO w u D h al xs → Nw w u D h al := fun ⟨led, L, _⟩ => ⟨led, L⟩
theorem NwO.of (N : Nw w u D h al) (hx : ∀ x ∈ xs, h.get? x = none) : NwO w u D h al xs := by
  obtain ⟨led, L⟩ := N
  refine ⟨led, L, fun q hq hm => ?_⟩
  have := (L.N q hq).1
  rw [hx _ hm] at this
  cases this
theorem NwO.keep (N : NwO w u D h al xs) (k : ∀ b o, b ∉ xs → b ≠ u.L → h.get? b = some o → h'.get? b = some o) : NwO w u D h' al xs := by
  obtain ⟨led, L, off⟩ := N
  exact ⟨led, ⟨L.is, L.nd, L.off, L.offT, fun q hq => ⟨k _ _ (off q hq) (L.N q hq).2.1 (L.N q hq).1, (L.N q hq).2⟩⟩, off⟩
theorem NwO.freeze {u' : Un} (e1 : u'.h₀ = u.h₀) (e2 : u'.L = u.L) (e3 : u'.fz = X ++ u.fz) (N : NwO w u D h al (X.map (·.1))) (M : News u.h₀ u.L h X) : Nw w u' D h al := by
  obtain ⟨led, L, off⟩ := N
  refine ⟨led, L.is, L.nd, fun q hq p hp => ?_, fun q hq p hp => ?_, fun q hq => ?_⟩
  · rw [e3] at hp
    rcases List.mem_append.mp hp with hp | hp
    · exact L.off q hq p (List.mem_append_left _ hp)
    · rcases List.mem_append.mp hp with hp | hp
      · exact fun e => off q (List.mem_append_left _ hq) (e ▸ List.mem_map_of_mem hp)
      · exact L.off q hq p (List.mem_append_right _ hp)
  · rw [e3] at hp
    rcases List.mem_append.mp hp with hp | hp
    · exact fun e => off q (List.mem_append_right _ (List.mem_append_left _ hq)) (e ▸ List.mem_map_of_mem hp)
    · exact L.offT q hq p hp
  · rw [e1, e2]
    rw [e3] at hq
    rcases List.mem_append.mp hq with hq | hq
    · exact L.N q (List.mem_append_left _ hq)
    · rcases List.mem_append.mp hq with hq | hq
      · exact L.N q (List.mem_append_right _ (List.mem_append_left _ hq))
      · rcases List.mem_append.mp hq with hq | hq
        · exact M q hq
        · exact L.N q (List.mem_append_right _ (List.mem_append_right _ hq))
theorem NwO.thaw {u' : Un} (e1 : u'.h₀ = u.h₀) (e2 : u'.L = u.L) (e3 : u'.fz = X ++ u.fz) (hfz : ∀ q ∈ u.fz, q.1 ∉ X.map (·.1)) (N : Nw w u' D h al) : NwO w u D h al (X.map (·.1)) ∧ News u.h₀ u.L h X := by
  obtain ⟨led, is, nd, off, offT, N⟩ := N
  rw [e1, e2, e3] at N
  rw [e3] at off offT
  refine ⟨⟨led, ⟨is, nd, fun q hq p hp => ?_, fun q hq p hp => offT q hq p (List.mem_append_right _ hp), fun q hq => ?_⟩, fun q hq hm => ?_⟩, fun q hq => N q (List.mem_append_right _ (List.mem_append_right _ (List.mem_append_left _ hq)))⟩
  · rcases List.mem_append.mp hp with hp | hp
    · exact off q hq p (List.mem_append_left _ hp)
    · exact off q hq p (List.mem_append_right _ (List.mem_append_right _ hp))
  · rcases List.mem_append.mp hq with hq | hq
    · exact N q (List.mem_append_left _ hq)
    · rcases List.mem_append.mp hq with hq | hq
      · exact N q (List.mem_append_right _ (List.mem_append_left _ hq))
      · exact N q (List.mem_append_right _ (List.mem_append_right _ (List.mem_append_right _ hq)))
  · obtain ⟨x, hx, e⟩ := List.mem_map.mp hm
    rcases List.mem_append.mp hq with hq | hq
    · exact off q hq x (List.mem_append_right _ (List.mem_append_left _ hx)) e.symm
    · rcases List.mem_append.mp hq with hq | hq
      · exact offT q hq x (List.mem_append_left _ hx) e.symm
      · exact hfz q hq hm
/-- what is walked over: a range, a list in a slot -/
inductive Sr
  | rng (a c : Int) (n : Nat)
  | lst (k : Nat) (us : List AV)
noncomputable def Sr.n : Sr → Nat
  | .rng _ _ n => n
  | .lst _ us => us.length
noncomputable def Sr.val : Sr → Nat → AV
  | .rng a c _, i => .i (a + i * c)
  | .lst _ us, i => us.getD i .any
noncomputable def Sr.ok (al : AL) : Sr → Prop
  | .rng _ _ _ => True
  | .lst k us => al[k]? = some (.lst us)
noncomputable def Sr.it (D : Dc) (I : Addr) (i : Nat) (h : Heap) : Sr → Prop
  | .rng a c n => IsRangeIter h I (a + (i : Nat) * c) ((n : Int) - (i : Nat)) c
  | .lst k _ => ∃ ax, D.ad[k]? = some (some ax) ∧ ax ≠ I ∧ h.IsListIter I ax i
noncomputable def Sr.able (D : Dc) (h : Heap) (xv : Value) : Sr → Prop
  | .rng a c n => ∃ r b t u v, xv = .ref r ∧ IsRange h r a b c t u v ∧ Builtin.Range.small a b c = true ∧ Builtin.Range.rangeSize a b c = (n : Int)
  | .lst k _ => ∃ ax, xv = .ref ax ∧ D.ad[k]? = some (some ax)
theorem Sr.it_keep {I : Addr} {i : Nat} {D' : Dc} {src : Sr} (it : src.it D I i h) (l : D.Le D') (k : ∀ o, h.get? I = some o → h'.get? I = some o) : src.it D' I i h' := by
  cases src with
  | rng a c n => exact k _ it
  | lst j us => obtain ⟨ax, e, n, hit⟩ := it; exact ⟨ax, l.ad _ _ e, n, hit.at k⟩
theorem Sr.it_obj {I : Addr} {i : Nat} {src : Sr} (it : src.it D I i h) : ∃ o, h.get? I = some o := by
  cases src with
  | rng a c n => exact ⟨_, it⟩
  | lst j us => obtain ⟨ax, e, n, o, ho, _⟩ := it; exact ⟨o, ho⟩
theorem Sr.next {I : Addr} {i : Nat} {src : Sr} {Q : Option Value → Shared → Prop} (hh : A.handled = none) (hi : i < src.n) (it : src.it D I i s.heap) (ok : src.ok al) (N : Nw w u D s.heap al)
    (hQ : ∀ v h' tk, (src.val i).Is D v → src.it D I (i + 1) h' → (∀ b o, b ≠ I → s.heap.get? b = some o → h'.get? b = some o) → Q (some v) { s with heap := h', toks := tk }) : wpAny (MM w) A (pyNext (.ref I)) Q E s := by
  cases src with
  | rng a c n =>
    refine (Walks.range hh I a c n).item i s Q E hi it fun v h' tk ⟨t, e⟩ st hk => hQ v h' tk ⟨t, e⟩ ?_ fun b o hb e => hk b o (by simpa using hb) e
    exact st
  | lst k us =>
    obtain ⟨ax, had, hne, hit⟩ := it
    obtain ⟨L, O⟩ := N.opn
    obtain ⟨o, ⟨vs, n, rfl, hvs⟩, hm⟩ := O.obj had ok
    have hl : s.heap.IsList ax vs.toArray := News.isList O.N hm
    have hlt : i < us.length := hi
    obtain ⟨v, hv, ha⟩ := avs_get i hvs (List.getElem?_eq_getElem hlt)
    refine (Walks.list hh I ax hne vs.toArray).item i s Q E (by rw [List.size_toArray, avs_len hvs]; exact hlt) ⟨hit, hl⟩ fun v' h' tk e st hk => hQ v' h' tk ?_ ⟨ax, had, hne, st.1⟩ fun b o hb e => hk b o (by simpa using hb) e
    have e2 : vs[i]? = some v' := by simpa using e
    rw [hv] at e2; cases e2
    show AV.Is D (us.getD i .any) v
    rw [List.getD_eq_getElem?_getD, List.getElem?_eq_getElem hlt]
    exact ha
theorem Sr.done {I : Addr} {src : Sr} {Q : Option Value → Shared → Prop} (hh : A.handled = none) (it : src.it D I src.n s.heap) (ok : src.ok al) (N : Nw w u D s.heap al)
    (hQ : ∀ h' tk, (∀ b o, b ≠ I → s.heap.get? b = some o → h'.get? b = some o) → Q none { s with heap := h', toks := tk }) : wpAny (MM w) A (pyNext (.ref I)) Q E s := by
  cases src with
  | rng a c n => exact (Walks.range hh I a c n).done s Q E it fun h' tk hk => hQ h' tk fun b o hb e => hk b o (by simpa using hb) e
  | lst k us =>
    obtain ⟨ax, had, hne, hit⟩ := it
    obtain ⟨L, O⟩ := N.opn
    obtain ⟨o, ⟨vs, n, rfl, hvs⟩, hm⟩ := O.obj had ok
    have hl : s.heap.IsList ax vs.toArray := News.isList O.N hm
    refine (Walks.list hh I ax hne vs.toArray).done s Q E ?_ fun h' tk hk => hQ h' tk fun b o hb e => hk b o (by simpa using hb) e
    rw [List.size_toArray, avs_len hvs]
    exact ⟨hit, hl⟩
theorem Sr.iter {xv : Value} {src : Sr} {Q : Value → Shared → Prop} (ab : src.able D s.heap xv) (ok : src.ok al) (N : Nw w u D s.heap al)
    (hQ : ∀ h' I, I = s.heap.objs.size → src.it D I 0 h' → (∀ b o, s.heap.get? b = some o → h'.get? b = some o) → Q (.ref I) { s with heap := h' }) : wpAny (MM w) A (pyIter xv) Q E s := by
  cases src with
  | rng a c n =>
    obtain ⟨r, b, t, u, v, rfl, hr, hsm, hn⟩ := ab
    refine wpAny_pyIter_range hr hsm (hQ _ _ rfl ?_ fun b o e => Heap.get?_push_of_some _ e)
    show IsRangeIter _ _ _ _ _
    rw [hn]
    simpa using Heap.get?_push_size _ rfl
  | lst k us =>
    obtain ⟨ax, rfl, had⟩ := ab
    obtain ⟨L, O⟩ := N.opn
    obtain ⟨o, ⟨vs, n, rfl, hvs⟩, hm⟩ := O.obj had ok
    have hl : s.heap.IsList ax vs.toArray := News.isList O.N hm
    exact wpAny_pyIter_list hl (hQ _ _ rfl ⟨ax, had, Nat.ne_of_lt (Heap.lt_size (O.N _ hm).1), _, Heap.get?_push_size _ rfl, rfl, rfl⟩ fun b o e => Heap.get?_push_of_some _ e)
/-- what a loop's turn is told to: a name, a pair of names -/
inductive Tg
  | name (x : Str) (p : Pos)
  | pair (x y : Str) (p1 p2 : Pos) (k : Nat) (p : Pos)
noncomputable def Tg.ex : Tg → PySem.Expr
  | .name x p => .Name x p
  | .pair x y p1 p2 k p => .Tuple [.Name x p1, .Name y p2] k p
noncomputable def Tg.nms : Tg → List Str
  | .name x _ => [x]
  | .pair x y _ _ _ _ => [x, y]
noncomputable def Tg.am (ms : AM) : Tg → AV → AM
  | .name x _, a => (x, a) :: ms
  | .pair x y _ _ _ _, .t [a, b] => (y, b) :: (x, a) :: ms
  | _, _ => ms
noncomputable def Tg.fits : Tg → AV → Prop
  | .name _ _, _ => True
  | .pair _ _ _ _ _ _, a => ∃ b b', a = .t [b, b']
theorem Tg.own {g : Tg} {src : Sr} {I : Addr} {i j : Nat} {v : Value} {Q : Unit → Shared → Prop} (fit : g.fits (src.val j)) (hv : (src.val j).Is D v) (it : src.it D I i s.heap) (hQ : Q () s) : wpAny (MM w) A (letOwnedTupleGo g.ex (.ref I) v) Q E s := by
  cases g with
  | name x p => show wpAny _ _ (pure ()) Q E s; exact wpAny_pure hQ
  | pair x y p1 p2 k p =>
    obtain ⟨b, b', e⟩ := fit
    rw [e] at hv
    obtain ⟨T, vs, rfl, _⟩ := hv
    cases src with
    | rng a c n => cases e
    | lst k us => obtain ⟨ax, _, _, hit⟩ := it; exact wpAny_letOwnedTupleGo_listiter hit hQ
theorem Tg.assign {g : Tg} {env : Env} {v : Value} {m : Str → Option Value} {Q : Unit → Shared → Prop} (hk : ∀ x ∈ g.nms, env.kindOf x = some .local) (hp : (env.scope.kind == .class || (env.scope.kind == .module && env.locals != env.globals)) = false) (hh : A.handled = none) (fit : g.fits a) (hv : a.Is D v) (N : Nw w u D s.heap al) (n : s.heap.Ns env.locals m)
    (hQ : ∀ h' tk m₂, h'.Ns env.locals m₂ → (∀ y, y ∉ g.nms → m₂ y = m y) → (∀ y b, (g.am [] a).lookup y = some b → ∃ v, m₂ y = some v ∧ b.Is D v) → (∀ b o, b ≠ env.locals → s.heap.get? b = some o → h'.get? b = some o) → Q () { s with heap := h', toks := tk }) : wpAny (MM w) A (PySem.assign g.ex env v) Q E s := by
  cases g with
  | name x p =>
    refine wpAny_assign_Name (wpAny_storeName_local (hk x (.head _)) n (fun h' n' sb => hQ h' _ _ n' (fun y hy => if_neg fun (e : y = x) => hy (by rw [e]; exact .head _)) (fun y b hb => ?_) fun b o hb e => sb.extBut b o hb e) hp)
    have hb' : List.lookup y [(x, a)] = some b := hb
    rw [List.lookup_cons] at hb'
    by_cases e : y = x
    · subst e; rw [beq_self_eq_true] at hb'; cases hb'; exact ⟨v, if_pos rfl, hv⟩
    · rw [show (y == x) = false from by simpa using e] at hb'; cases hb'
  | pair x y p1 p2 k p =>
    obtain ⟨b1, b2, rfl⟩ := fit
    obtain ⟨T, vs, rfl, hT, hvs⟩ := hv
    match vs, hvs with
    | [v1, v2], ⟨i1, i2, _⟩ =>
      obtain ⟨L, O⟩ := N.opn
      refine assign_Tuple_tuple hh (News.isTup O.N (O.tup _ hT)) rfl rfl fun h₃ hx₃ => ?_
      have k₃ : ∀ z o, s.heap.get? z = some o → h₃.get? z = some o := fun z o e => hx₃ z o (Nat.ne_of_lt (Heap.lt_size e)) e
      refine assignInOrder_cons (wpAny_assign_Name (wpAny_storeName_local (hk x (.head _)) (n.at' fun o e => k₃ _ o e) (fun h₄ n₄ sb₄ => ?_) hp))
      refine assignInOrder_cons (wpAny_assign_Name (wpAny_storeName_local (hk y (.tail _ (.head _))) n₄ (fun h₅ n₅ sb₅ => ?_) hp))
      refine assignInOrder_nil (hQ h₅ _ _ n₅ (fun z hz => ?_) (fun z b hb => ?_) fun z o hz e => sb₅.extBut z o hz (sb₄.extBut z o hz (k₃ z o e)))
      · show (if z = y then _ else if z = x then _ else _) = _
        rw [if_neg fun (e : z = y) => hz (by rw [e]; exact .tail _ (.head _)), if_neg fun (e : z = x) => hz (by rw [e]; exact .head _)]
      · have hb' : List.lookup z [(y, b2), (x, b1)] = some b := hb
        rw [List.lookup_cons] at hb'
        show ∃ v, (if z = y then _ else if z = x then _ else _) = some v ∧ _
        by_cases e : z = y
        · subst e; rw [beq_self_eq_true] at hb'; cases hb'; exact ⟨v2, if_pos rfl, i2⟩
        · rw [show (z == y) = false from by simpa using e, List.lookup_cons] at hb'
          rw [if_neg e]
          by_cases e2 : z = x
          · subst e2; rw [beq_self_eq_true] at hb'; cases hb'; exact ⟨v1, if_pos rfl, i1⟩
          · rw [show (z == x) = false from by simpa using e2] at hb'; cases hb'
theorem Tg.am_app {g : Tg} (fit : g.fits a) : g.am ms a = g.am [] a ++ ms := by
  cases g with
  | name x p => rfl
  | pair x y p1 p2 k p => obtain ⟨b, b', rfl⟩ := fit; rfl
theorem lookup_app {x : Str} {l l' : AM} : (l ++ l').lookup x = (match l.lookup x with | some a => some a | none => l'.lookup x) := by
  induction l with
  | nil => rfl
  | cons p r ih =>
    obtain ⟨y, b⟩ := p
    rw [List.cons_append, List.lookup_cons, List.lookup_cons]
    cases (x == y) with
    | true => rfl
    | false => exact ih
theorem Tg.look_none {g : Tg} {x : Str} (h : (g.am [] a).lookup x = none) (fit : g.fits a) : x ∉ g.nms := by
  cases g with
  | name y p =>
    intro hm
    rw [List.mem_singleton.mp hm] at h
    have : List.lookup y [(y, a)] = none := h
    rw [List.lookup_cons, beq_self_eq_true] at this
    cases this
  | pair y z p1 p2 k p =>
    obtain ⟨b, b', rfl⟩ := fit
    intro hm
    have h' : List.lookup x [(z, b'), (y, b)] = none := h
    rw [List.lookup_cons] at h'
    rcases List.mem_cons.mp hm with e | hm
    · subst e
      cases hz : (x == z) with
      | true => rw [hz] at h'; cases h'
      | false => rw [hz, List.lookup_cons, beq_self_eq_true] at h'; cases h'
    · rw [List.mem_singleton.mp hm, beq_self_eq_true] at h'; cases h'
/-- an expression that is walked over -/
structure SrK (e : PySem.Expr) (w : World) (u : Un) (c : Cd) (ms : AM) (ls : AL) (K : Sr → AL → Prop) : Prop where
  go : Ok3 w u c → ∀ (D : Dc) (Q : Value → Shared → Prop) (s : Shared), St0 w u c D s.heap ms ls → (∀ src v al tk h' D', D.Le D' → K src al → src.ok al → src.able D' h' v → St0 w u c D' h' ms al → Q v { s with heap := h', toks := tk }) → wpAny (MM w) u.A (eval e (c.ev u)) Q NoE s
structure Un.Same (u u' : Un) : Prop where
  d : u'.d = u.d
  L : u'.L = u.L
  cl : u'.cl = u.cl
/-- names that are told of again -/
noncomputable def AM.le : AM → AM → Prop
  | [], _ => True
  | (x, a) :: r, ms => ms.lookup x = some a ∧ AM.le r ms
theorem AM.le.look {x : Str} : ∀ {l ms : AM}, AM.le l ms → ∀ {a : AV}, l.lookup x = some a → ms.lookup x = some a
  | (y, b) :: r, ms, ⟨h, hr⟩, a, e => by
    rw [List.lookup_cons] at e
    by_cases hx : x = y
    · subst hx; rw [beq_self_eq_true] at e; cases e; exact h
    · rw [show (x == y) = false from by simpa using hx] at e; exact hr.look e
noncomputable def lpK (I : Nat → AM → AL → Prop) (KF : AF → AM → AL → Prop) (i : Nat) (f : AF) (ms : AM) (al : AL) : Prop := match f with | .next => ∃ m', AM.le m' ms ∧ I i m' al | .ret a => KF (.ret a) ms al
structure Lp (g : Tg) (body rest : List Stmt) (w : World) (u : Un) (c : Cd) (KF : AF → AM → AL → Prop) (ms : AM) (src : Sr) (al : AL) : Prop where
  ex : ∃ I : Nat → AM → AL → Prop, I 0 ms al ∧ (∀ i ms al, I i ms al → src.ok al) ∧
    (∀ i ms al, i < src.n → I i ms al → g.fits (src.val i) ∧ ∀ u', Un.Same u u' → Ex body w u' c (g.am ms (src.val i)) al (lpK I KF (i + 1))) ∧
    (∀ ms al, I src.n ms al → Ex rest w u c ms al KF)
/-- a loop -/
theorem ex_for {g : Tg} {iter : PySem.Expr} {body rest : List Stmt} {p : Pos} {KF : AF → AM → AL → Prop} (hi : c.inner = none) (hst : ∀ x ∈ g.nms, (c.fe u).kindOf x = some .local ∧ c.stands x = false) (hs : ∀ x, foldedSetIterable iter (c.ev u) x = pure x)
    (h : SrK iter w u c ms ls (Lp g body rest w u c KF ms)) : Ex (.For g.ex iter body [] p :: rest) w u c ms ls KF := by
  refine ⟨fun ok D Q s S q => ?_⟩
  refine wpAny_execs_cons (wpAny_For ?_ hs)
  refine h.go ok D _ s S fun src xv al tk h₁ D₁ l₁ hL hok hab S₁ => ?_
  obtain ⟨I, hI0, hIok, hstep, hend⟩ := hL.ex
  refine Sr.iter (s := { s with heap := h₁, toks := tk }) hab hok S₁.N fun h₂ IA eIA hit hk₂ => ?_
  obtain ⟨m₁, F₁, hF₁⟩ := S₁.F
  have hIL : IA ≠ u.L := by rw [eIA]; exact (Nat.ne_of_lt F₁.ns.lt).symm
  have hI0' : u.h₀.get? IA = none := by rw [eIA]; exact next_is_new F₁
  have hnone : h₁.get? IA = none := by
    rw [eIA]
    cases e : h₁.get? h₁.objs.size with
    | none => rfl
    | some o => exact absurd (Heap.lt_size e) (Nat.lt_irrefl _)
  have N₂ : NwO w u D₁ h₂ al [IA] := (NwO.of S₁.N fun x hx => by rw [List.mem_singleton.mp hx]; exact hnone).keep fun b o _ _ e => hk₂ b o e
  have hfz : ∀ q ∈ u.fz, q.1 ∉ [IA] := fun q hq => let ⟨_, L, off⟩ := N₂; off q (List.mem_append_right _ (List.mem_append_right _ hq))
  have hfr : ∀ {hp hp' : Heap} {m : Str → Option Value}, Fr u.h₀ u.L hp m → (∀ b o, b ≠ IA → hp.get? b = some o → hp'.get? b = some o) → Fr u.h₀ u.L hp' m := fun F k => fr_but F (fun b o hb e => k b o (by simpa using hb) e) hIL.symm hI0'
  have hE := fun {α : Type} {t : Sem α} {Q : α → Shared → Prop} {s : Shared} (h : wpAny (MM w) u.A t Q NoE s) => wpAny_passesOwn (M := MM w) (A := u.A) (env := c.ev u) PassesOwn.never h
  have hl : (c.ev u).locals = u.L := by rw [Cd.ev_none hi]
  refine codeAny_forLoop_any (fun k s' => ∃ h' tk D' ms' al' i, s' = { s with heap := h', toks := tk } ∧ D.Le D' ∧ FrA u c D' h' ms' ∧ NwO w u D' h' al' [IA] ∧ src.it D' IA i h' ∧ I i ms' al' ∧ i ≤ src.n ∧ k = src.n + 1 - i) ?_ (src.n + 1)
    ⟨h₂, tk, D₁, ms, al, 0, rfl, l₁, ⟨m₁, F₁.keeps hk₂, hF₁⟩, N₂, hit, hI0, Nat.zero_le _, rfl⟩
  rintro k s' ⟨h₃, tk₃, D₃, ms₃, al₃, i, rfl, l₃, ⟨m₃, F₃, hF₃⟩, N₃, it₃, hI, hin, rfl⟩
  have hok₃ := hIok _ _ _ hI
  by_cases hlt : i < src.n
  · obtain ⟨fit, hb⟩ := hstep i ms₃ al₃ hlt hI
    refine hE (Sr.next (s := { s with heap := h₃, toks := tk₃ }) ok.ok.hh hlt it₃ hok₃ N₃.nw fun v h₄ tk₄ hv it₄ k₄ => ?_)
    have N₄ : NwO w u D₃ h₄ al₃ [IA] := N₃.keep fun b o hb _ e => k₄ b o (by simpa using hb) e
    have F₄ := hfr F₃ k₄
    refine hE (Tg.own (s := { s with heap := h₄, toks := tk₄ }) fit hv it₄ ?_)
    have n₄ : h₄.Ns (c.ev u).locals m₃ := by rw [hl]; exact F₄.ns
    refine hE (Tg.assign (s := { s with heap := h₄, toks := tk₄ }) (fun x hx => by rw [Cd.ev_none hi]; exact (hst x hx).1) (by rw [Cd.ev_none hi]; show (c.sc.kind == .class || (c.sc.kind == .module && _)) = false; rw [ok.k]; rfl) ok.ok.hh fit hv N₄.nw n₄ fun h₅ tk₅ m₅ n₅ o₅ b₅ k₅ => ?_)
    rw [hl] at n₅ k₅
    have F₅ : Fr u.h₀ u.L h₅ m₅ := ⟨n₅, fun b o e => k₅ b o (Nat.ne_of_lt (Nat.lt_of_lt_of_le (Heap.lt_size e) F₄.above)) (F₄.keep b o e), F₄.above⟩
    have N₅ : NwO w u D₃ h₅ al₃ [IA] := N₄.keep fun b o _ hb e => k₅ b o hb e
    have it₅ : src.it D₃ IA (i + 1) h₅ := Sr.it_keep it₄ .rfl fun o e => k₅ _ o hIL e
    obtain ⟨oI, hoI⟩ := Sr.it_obj it₅
    have FA : FrA u c D₃ h₅ (g.am ms₃ (src.val i)) := by
      refine ⟨m₅, F₅, fun x b e => ?_⟩
      rw [Tg.am_app fit, lookup_app] at e
      cases hx : (g.am [] (src.val i)).lookup x with
      | some b' =>
        rw [hx] at e; cases e
        obtain ⟨v', e', hb'⟩ := b₅ x b hx
        refine ⟨v', ?_, hb'⟩
        have hin' : x ∈ g.nms := by
          false_or_by_contra
          rename_i hn
          cases g with
          | name y p => rw [show (Tg.am [] (.name y p) (src.val i)) = [(y, src.val i)] from rfl, List.lookup_cons, show (x == y) = false from by simpa [Tg.nms] using hn] at hx; cases hx
          | pair y z p1 p2 k p =>
            obtain ⟨b1, b2, e2⟩ := fit
            have hn' : x ≠ y ∧ x ≠ z := by simpa [Tg.nms] using hn
            rw [e2, show (Tg.am [] (.pair y z p1 p2 k p) (.t [b1, b2])) = [(z, b2), (y, b1)] from rfl, List.lookup_cons, show (x == z) = false from by simpa using hn'.2, List.lookup_cons, show (x == y) = false from by simpa using hn'.1] at hx
            cases hx
        rw [rdn_off (hst x hin').2]; exact e'
      | none =>
        rw [hx] at e
        obtain ⟨v', e', hb'⟩ := hF₃ x b e
        refine ⟨v', ?_, hb'⟩
        rw [← e']
        unfold rdn
        rw [o₅ x (Tg.look_none hx fit)]
    have M₅ : News u.h₀ u.L h₅ [(IA, oI)] := fun q hq => by rw [List.mem_singleton.mp hq]; exact ⟨hoI, hIL, hI0'⟩
    have S₅ : St0 w { u with fz := [(IA, oI)] ++ u.fz } c D₃ h₅ (g.am ms₃ (src.val i)) al₃ := ⟨FA, NwO.freeze (u := u) (X := [(IA, oI)]) rfl rfl rfl N₅ M₅⟩
    have ok₅ : Ok3 w { u with fz := [(IA, oI)] ++ u.fz } c := ⟨ok.ok, ok.en, ok.k, ok.ki, fun x hx => let ⟨ca, o, h1, h2, h3⟩ := ok.cells x hx; ⟨ca, o, h1, List.mem_append_right _ h2, h3⟩, fun hn => let ⟨oC, m₂, h1, h2⟩ := ok.targ hn; ⟨oC, m₂, List.mem_append_right _ h1, h2⟩⟩
    refine hE ((hb { u with fz := [(IA, oI)] ++ u.fz } ⟨rfl, rfl, rfl⟩).go ok₅ D₃ _ { s with heap := h₅, toks := tk₅ } S₅ fun f fl ms₆ al₆ tk₆ h₆ D₆ l₆ hK hf S₆ => ?_)
    obtain ⟨N₆, M₆⟩ := NwO.thaw (X := [(IA, oI)]) (u := u) (u' := { u with fz := [(IA, oI)] ++ u.fz }) rfl rfl rfl hfz S₆.N
    cases f with
    | next =>
      cases hf
      obtain ⟨m', hle, hI'⟩ := hK
      obtain ⟨m₆, F₆, hF₆⟩ := S₆.F
      refine ⟨src.n + 1 - (i + 1), by omega, h₆, tk₆, D₆, m', al₆, i + 1, rfl, l₃.trans l₆, ⟨m₆, F₆, fun x b e => hF₆ x b (hle.look e)⟩, N₆, Sr.it_keep it₅ l₆ fun o e => ?_, hI', hlt, rfl⟩
      rw [hoI] at e; cases e
      exact (M₆ _ (.head _)).1
    | ret a =>
      obtain ⟨v', rfl, hv'⟩ := hf
      obtain ⟨m₆, F₆, hF₆⟩ := S₆.F
      exact q (.ret a) _ ms₆ al₆ tk₆ h₆ D₆ (l₃.trans l₆) hK ⟨v', rfl, hv'⟩ ⟨⟨m₆, F₆, hF₆⟩, N₆.nw⟩
  · obtain rfl : i = src.n := Nat.le_antisymm hin (Nat.not_lt.mp hlt)
    refine hE (Sr.done (s := { s with heap := h₃, toks := tk₃ }) ok.ok.hh it₃ hok₃ N₃.nw fun h₄ tk₄ k₄ => wpAny_execs_nil ?_)
    have N₄ : NwO w u D₃ h₄ al₃ [IA] := N₃.keep fun b o hb _ e => k₄ b o (by simpa using hb) e
    exact (hend ms₃ al₃ hI).go ok D₃ Q { s with heap := h₄, toks := tk₄ } ⟨⟨m₃, hfr F₃ k₄, hF₃⟩, N₄.nw⟩ fun f fl m' al' tk h' D' l' => q f fl m' al' tk h' D' (l₃.trans l')
end
end
section
theorem clr_Y8 : True := by
  w_top off
  trivial
variable {w : World} {A A₀ : Around} {base h₀ : Heap} {outer : List Env} {env : Env} {L : Addr} {m : Str → Option Value} {s : Shared} {Q E : Value → Shared → Prop} {mean : ExcName → Option Value} {mg mb : Str → Option Value}
section
open PySem.Spec PyProof.Rows.LCg
variable {w : World} {u : Un} {c : Cd} {ms : AM} {ls al : AL} {D : Dc} {h h' : Heap} {xs : List Addr} {a : AV} {A : Around} {s : Shared} {E : Value → Shared → Prop} {p p1 p2 p3 : Pos} {K : AV → AL → Prop}
/-- a comprehension's tests: none, or one -/
noncomputable def Tst (w : World) (A : Around) (env : Env) (E : Value → Shared → Prop) (ifs : List PySem.Expr) (Q : Bool → Shared → Prop) (s : Shared) : Prop := match ifs with | [] => Q true s | t :: _ => wpAny (MM w) A (PySem.isTrue t env (eval t env)) Q E s
theorem comp_loop {elt target iter : PySem.Expr} {ifs : List PySem.Expr} {scope : Scope} {pos : Pos} {it acc : Value} {env : Env} {R : Result → Shared → Prop} (hif : ifs.length ≤ 1) (I : Nat → Shared → Prop)
    (turn : ∀ n s, I n s → wpAny (MM w) A (pyNext it) (fun r s₁ => match r with
      | none => R (.ok .next) s₁
      | some v => wpAny (MM w) A (letOwnedTupleGo target it v) (fun _ s₀ => wpAny (MM w) A (PySem.assign target env v) (fun _ s₂ =>
          Tst w A env (notedBy (MM w) A env fun e s' => R (.error e) s') ifs (fun ok s₃ => if ok = true then wpAny (MM w) A (eval elt env) (fun x s₄ =>
            wpAny (MM w) A (call (.builtin "list.append") [acc, x]) (fun _ s₅ => ∃ m, m < n ∧ I m s₅) (notedBy (MM w) A env fun e s' => R (.error e) s') s₄) (notedBy (MM w) A env fun e s' => R (.error e) s') s₃
            else ∃ m, m < n ∧ I m s₃) s₂)
          (notedBy (MM w) A env fun e s' => R (.error e) s') s₀) (notedBy (MM w) A env fun e s' => R (.error e) s') s₁) (notedBy (MM w) A env fun e s' => R (.error e) s') s)
    (n : Nat) (h : I n s) : codeAny (MM w) A (.compLoop (.ListComp elt [⟨target, iter, ifs, 0⟩] scope pos) 0 it acc env) R s := by
  refine codeAny_loop rfl I (fun n s hI => ?_) n h
  show wpAny _ A ((compTurn (.ListComp elt [⟨target, iter, ifs, 0⟩] scope pos) 0 it acc env).onRaise (fun x => do noteFrame x env; theTreesLotGoes x)) _ _ s
  refine wpAny_noted ?_
  rw [compTurn_list]
  refine wpAny_bind (wpAny_standAt (wpAny_bind (wpAny_mono (turn n s hI) (fun r s₁ h₁ => ?_) fun _ _ h' => h')))
  cases r with
  | none => exact wpAny_pure h₁
  | some v =>
    refine wpAny_bind (wpAny_mono h₁ (fun _ s₀ h₀' => ?_) fun _ _ h' => h')
    refine wpAny_bind (wpAny_mono h₀' (fun _ s₂ h₂ => ?_) fun _ _ h' => h')
    refine wpAny_bind ?_
    match ifs, hif, h₂ with
    | [], _, h₂ => exact wpAny_tests_nil (wpAny_bind (wpAny_bind (wpAny_mono (show wpAny _ _ _ _ _ _ from h₂) (fun x s₄ h₄ => wpAny_bind (wpAny_mono h₄ (fun _ s₅ h₅ => wpAny_pure (wpAny_pure ⟨rfl, h₅⟩)) fun _ _ h' => h')) fun _ _ h' => h')))
    | [t], _, h₂ =>
      refine wpAny_tests_one (wpAny_mono h₂ (fun okb s₃ h₃ => ?_) fun _ _ h' => h')
      cases okb with
      | false => exact wpAny_pure ⟨rfl, h₃⟩
      | true => exact wpAny_bind (wpAny_bind (wpAny_mono h₃ (fun x s₄ h₄ => wpAny_bind (wpAny_mono h₄ (fun _ s₅ h₅ => wpAny_pure (wpAny_pure ⟨rfl, h₅⟩)) fun _ _ h' => h')) fun _ _ h' => h'))
noncomputable def Cd.comp (c : Cd) (sc' : Scope) (xs : List Str) : Cd := { c with inner := some sc', nt := xs }
noncomputable def TsK (ifs : List PySem.Expr) (w : World) (u : Un) (c : Cd) (ms : AM) (ls : AL) (K : Bool → AL → Prop) : Prop := match ifs with | [] => K true ls | t :: _ => TrK t w u c ms ls K
structure Cp (g : Tg) (elt : PySem.Expr) (ifs : List PySem.Expr) (sc' : Scope) (w : World) (u : Un) (c : Cd) (ms : AM) (K : AV → AL → Prop) (src : Sr) (al : AL) : Prop where
  ex : ∃ I : Nat → List AV → AL → Prop, src.n ≤ 1000 ∧ I 0 [] al ∧ (∀ i bs al, I i bs al → src.ok al ∧ bs.length ≤ i) ∧
    (∀ i bs al, i < src.n → I i bs al → g.fits (src.val i) ∧ ∀ u', Un.Same u u' → TsK ifs w u' (c.comp sc' g.nms) (g.am ms (src.val i)) al fun β al => if β = true then EvK elt w u' (c.comp sc' g.nms) (g.am ms (src.val i)) al (fun b al => I (i + 1) (bs ++ [b]) al) else I (i + 1) bs al) ∧
    ∀ bs al, I src.n bs al → K (.r al.length) (al ++ [.lst bs])
theorem NwO.push {d : Addr} {bs : List AV} {ys : List Value} (N : NwO w u D h al xs) (hd : d ∈ xs) (ho : h.get? d = some (lst ys)) (hL : d ≠ u.L) (h0 : u.h₀.get? d = none) (hb : avs D bs ys) : Nw w u (D.push d) h (al ++ [.lst bs]) := by
  obtain ⟨led, L, off⟩ := N
  refine L.opn.push (o := lst ys) (fun q hq => ?_) (fun q hq e => off q hq (e ▸ hd)) ⟨ys, ys.length, rfl, avs.mono Dc.le_push hb⟩
  rcases List.mem_cons.mp hq with rfl | hq
  · exact ⟨ho, hL, h0⟩
  · exact L.N q hq
theorem Sr.self {I : Addr} {src : Sr} {Q : Value → Shared → Prop} (hh : A.handled = none) (it : src.it D I 0 s.heap) (hQ : Q (.ref I) s) : wpAny (MM w) A (pyIter (.ref I)) Q E s := by
  cases src with
  | rng a c n => exact (Walks.range hh I a c n).self 0 s Q E it hQ
  | lst k us => obtain ⟨ax, _, _, hit⟩ := it; exact wpAny_pyIter_listiter hit hQ
/-- a comprehension -/
theorem comp_go {g : Tg} {elt iter : PySem.Expr} {ifs : List PySem.Expr} {sc' : Scope} {cl0 cl' : List (Str × Addr)}
    (hi : c.inner = none) (hnt : c.nt = []) (hif : ifs.length ≤ 1) (hcl0 : u.cl = cl0) (hclos : closureFor sc' (envX c.q c.sc u.L c.f c.cd cl0) = pure cl') (hclm : (c.nc.map fun x => cl'.lookup x) = c.nc.map fun x => cl0.lookup x)
    (hcell : ∀ y ∈ sc'.names, y.2 ≠ .cell) (hkind : sc'.kind = .function) (hnames : ∀ y ∈ sc'.names, y.2 = .local → sc'.names.lookup y.1 = some .local) (htg : ∀ x ∈ g.nms, sc'.names.lookup x = some .local ∧ x ∉ c.nc)
    (hms : ∀ x ∈ g.nms, ms.lookup x = none) (hs : ∀ x, foldedSetIterable iter (c.ev u) x = pure x) (h : SrK iter w u c ms ls (Cp g elt ifs sc' w u c ms K)) {use : Option (Value → Sem Unit)} {Q : Value → Shared → Prop} {s : Shared} (ok : Ok3 w u c) (S : St0 w u c D s.heap ms ls)
    (q : ∀ bs al tk h' D' d C m', D.Le D' → K (.r al.length) (al ++ [.lst bs]) → FrA u c D' h' ms → (∀ h'', (∀ b o, b ≠ C → b ≠ u.L → h'.get? b = some o → h''.get? b = some o) → Nw w u (D'.push d) h'' (al ++ [.lst bs])) → C ≠ u.L → u.h₀.get? C = none → h'.Ns C m' → D'.ad.length = al.length → compPost (MM w) u.A NoE use Q (.ref d) C (.ok .next) { s with heap := h', toks := tk }) :
    wpAny (MM w) u.A (comprehension (.ListComp elt [⟨g.ex, iter, ifs, 0⟩] sc' p) sc' (c.ev u) (firstIterPos [⟨g.ex, iter, ifs, 0⟩] p) (newList []) false (eval iter (c.ev u)) use) Q NoE s := by
  have hcls : ∀ x ∈ c.nc, cl'.lookup x = cl0.lookup x := List.map_inj_left.mp hclm
  have hev : c.ev u = c.fe u := Cd.ev_none hi
  refine wpAny_comprehension_free (use := use) rfl hs (by rw [hev]; show closureFor sc' (envX c.q c.sc u.L c.f c.cd u.cl) = _; rw [hcl0]; exact hclos) hkind hnames ?_
  refine h.go ok D _ s S fun src xv al tk h₁ D₁ l₁ hCp hok hab S₁ => ?_
  obtain ⟨I, hn, hI0, hIok, hstep, hend⟩ := hCp.ex
  refine Sr.iter (s := { s with heap := h₁, toks := tk }) hab hok S₁.N fun h₂ IA eIA hit hk₂ => ?_
  obtain ⟨m₁, F₁, hF₁⟩ := S₁.F
  have hI₂ : h₂.get? IA ≠ none := by obtain ⟨o, e⟩ := Sr.it_obj hit; rw [e]; exact fun e => nomatch e
  refine wpAny_newObj_type (wpAny_newFunctionEnv hcell (by intro y hy; simp at hy) (fun H hns hsb => ?_) hkind)
  dsimp only at hns hsb ⊢
  generalize hG : h₂.push { cls := .type "list", dict := none, data := .seq ([] : List Value).toArray } = G at hns hsb ⊢
  have hGs : G.objs.size = h₂.objs.size + 1 := by rw [← hG, Heap.size_push]
  have hIlt : IA < h₂.objs.size := by obtain ⟨o, e⟩ := Sr.it_obj hit; exact Heap.lt_size e
  have hLlt : u.L < h₁.objs.size := F₁.ns.lt
  have hs12 : h₁.objs.size ≤ h₂.objs.size := by
    have e : IA = h₁.objs.size := eIA
    rw [← e]; exact Nat.le_of_lt hIlt
  have nID : (IA : Nat) ≠ h₂.objs.size := Nat.ne_of_lt hIlt
  have nIC : (IA : Nat) ≠ G.objs.size := by rw [hGs]; exact Nat.ne_of_lt (Nat.lt_succ_of_lt hIlt)
  have nDC : (h₂.objs.size : Nat) ≠ G.objs.size := by rw [hGs]; exact Nat.ne_of_lt (Nat.lt_succ_self _)
  have nLI : (u.L : Nat) ≠ IA := by rw [eIA]; exact Nat.ne_of_lt hLlt
  have nLD : (u.L : Nat) ≠ h₂.objs.size := Nat.ne_of_lt (Nat.lt_of_lt_of_le hLlt hs12)
  have nLC : (u.L : Nat) ≠ G.objs.size := by rw [hGs]; exact Nat.ne_of_lt (Nat.lt_succ_of_lt (Nat.lt_of_lt_of_le hLlt hs12))
  have new₁ : ∀ x : Nat, h₁.objs.size ≤ x → h₁.get? x = none := fun x hx => by
    cases e : h₁.get? x with
    | none => rfl
    | some o => exact absurd (Heap.lt_size e) (Nat.not_lt.mpr hx)
  have new₀ : ∀ x : Nat, h₁.objs.size ≤ x → u.h₀.get? x = none := fun x hx => by
    cases e : u.h₀.get? x with
    | none => rfl
    | some o => exact absurd (Heap.lt_size (F₁.keep x o e)) (Nat.not_lt.mpr hx)
  have gI : h₁.objs.size ≤ IA := by rw [eIA]; exact Nat.le_refl _
  have gC : h₁.objs.size ≤ G.objs.size := by rw [hGs]; exact Nat.le_succ_of_le hs12
  have oldH : ∀ x o, x ≠ G.objs.size → h₂.get? x = some o → H.get? x = some o := fun x o hx e => hsb.extBut x o hx (Heap.get?_push_of_some _ (hG ▸ Heap.get?_push_of_some _ e))
  have old₁ : ∀ x o, h₁.get? x = some o → H.get? x = some o := fun x o e => oldH x o (fun q => by rw [q, new₁ _ gC] at e; cases e) (hk₂ x o e)
  have hD : H.get? h₂.objs.size = some (lst []) := hsb.extBut _ _ nDC (Heap.get?_push_of_some _ (hG ▸ Heap.get?_push_size _ rfl))
  have it₀ : src.it D₁ IA 0 H := Sr.it_keep hit .rfl fun o e => oldH _ o nIC e
  have N₀ : NwO w u D₁ H al [IA, G.objs.size, h₂.objs.size] := (NwO.of S₁.N fun x hx => new₁ x (by
    rcases List.mem_cons.mp hx with rfl | hx
    · exact gI
    rcases List.mem_cons.mp hx with rfl | hx
    · exact gC
    · rw [List.mem_singleton.mp hx]; exact hs12)).keep fun b o _ _ e => old₁ b o e
  have hfz : ∀ q ∈ u.fz, q.1 ∉ [IA, G.objs.size, h₂.objs.size] := fun q hq => let ⟨_, L, off⟩ := N₀; off q (List.mem_append_right _ (List.mem_append_right _ hq))
  generalize hCA : G.objs.size = CA at *
  generalize hDA : h₂.objs.size = DA at *
  have zI := new₀ IA gI
  have zC := new₀ CA gC
  have zD := new₀ DA hs12
  have hE := fun {α : Type} {t : Sem α} {Q : α → Shared → Prop} {R : Result → Shared → Prop} {env : Env} {s : Shared} (h : wpAny (MM w) u.A t Q NoE s) => show wpAny (MM w) u.A t Q (notedBy (MM w) u.A env fun e s' => R (.error e) s') s from wpAny_mono h (fun _ _ x => x) fun _ _ x => x.elim
  have hfr : ∀ {hp hp' : Heap} {m : Str → Option Value}, Fr u.h₀ u.L hp m → (∀ b o, b ≠ IA → b ≠ CA → b ≠ DA → hp.get? b = some o → hp'.get? b = some o) → Fr u.h₀ u.L hp' m := fun {hp hp' m} F k => ⟨F.ns.at' fun o e => k _ o nLI nLC nLD e, fun b o e => k b o (fun q => by rw [q, zI] at e; cases e) (fun q => by rw [q, zC] at e; cases e) (fun q => by rw [q, zD] at e; cases e) (F.keep b o e), F.above⟩
  have hkp : ∀ {hp hp' : Heap} {D : Dc} {al : AL}, NwO w u D hp al [IA, CA, DA] → (∀ b o, b ≠ IA → b ≠ CA → b ≠ DA → hp.get? b = some o → hp'.get? b = some o) → NwO w u D hp' al [IA, CA, DA] := fun N k => N.keep fun b o hb _ e => by
    have hb' : b ≠ IA ∧ b ≠ CA ∧ b ≠ DA := by simpa using hb
    exact k b o hb'.1 hb'.2.1 hb'.2.2 e
  have hcev : ∀ u' : Un, u'.C = CA → u'.ci = cl' → u'.L = u.L → u'.cl = u.cl → (c.comp sc' g.nms).ev u' = compEnvC sc' cl' CA (c.fe u) := fun u' e1 e2 e3 e4 => by
    show compEnvC sc' u'.ci u'.C (envX c.q c.sc u'.L c.f c.cd u'.cl) = _
    rw [e1, e2, e3, e4]
  rw [hev]
  have loop : ∀ s₃ : Shared, s₃ = { s with heap := H, toks := tk + ([] : List (Str × Value)).length } →
      codeAny (MM w) u.A (.compLoop (.ListComp elt [⟨g.ex, iter, ifs, 0⟩] sc' p) 0 (.ref IA) (.ref DA) (compEnvC sc' cl' CA (c.fe u)))
        (compPost (MM w) u.A NoE use Q (.ref DA) CA) s₃ := by
    rintro s₃ rfl
    refine comp_loop hif (fun k s' => ∃ h' tk D' al' i ys bs m', s' = { s with heap := h', toks := tk } ∧ D.Le D' ∧ FrA u c D' h' ms ∧ NwO w u D' h' al' [IA, CA, DA] ∧ src.it D' IA i h' ∧ h'.get? DA = some (lst ys) ∧ avs D' bs ys ∧ h'.Ns CA m' ∧ I i bs al' ∧ i ≤ src.n ∧ k = src.n + 1 - i) ?_ (src.n + 1)
      ⟨H, _, D₁, al, 0, [], [], _, rfl, l₁, ⟨m₁, F₁.keeps old₁, hF₁⟩, N₀, it₀, hD, trivial, hns, hI0, Nat.zero_le _, rfl⟩
    rintro k s' ⟨h₃, tk₃, D₃, al₃, i, ys, bs, m', rfl, l₃, ⟨m₃, F₃, hF₃⟩, N₃, it₃, hD₃, hb₃, n₃, hI, hin, rfl⟩
    obtain ⟨hok₃, hbl⟩ := hIok _ _ _ hI
    by_cases hlt : i < src.n
    · obtain ⟨fit, hb⟩ := hstep i bs al₃ hlt hI
      refine hE (Sr.next (s := { s with heap := h₃, toks := tk₃ }) ok.ok.hh hlt it₃ hok₃ N₃.nw fun v h₄ tk₄ hv it₄ k₄ => ?_)
      refine hE (Tg.own (s := { s with heap := h₄, toks := tk₄ }) fit hv it₄ ?_)
      have n₄ : h₄.Ns (compEnvC sc' cl' CA (c.fe u)).locals m' := n₃.at' fun o e => k₄ _ o nIC.symm e
      have N₄ := hkp N₃ fun b o h1 _ _ e => k₄ b o h1 e
      refine hE (Tg.assign (s := { s with heap := h₄, toks := tk₄ }) (fun x hx => lookup_relabel_local (htg x hx).1) (by simp [compEnvC, relabel, hkind]) ok.ok.hh fit hv N₄.nw n₄ fun h₅ tk₅ m₅ n₅ o₅ b₅ k₅ => ?_)
      replace n₅ : h₅.Ns CA m₅ := n₅
      replace k₅ : ∀ b o, b ≠ CA → h₄.get? b = some o → h₅.get? b = some o := k₅
      have F₅ : Fr u.h₀ u.L h₅ m₃ := hfr F₃ fun b o h1 h2 _ e => k₅ b o h2 (k₄ b o h1 e)
      have N₅ := hkp N₄ fun b o _ h2 _ e => k₅ b o h2 e
      have it₅ : src.it D₃ IA (i + 1) h₅ := Sr.it_keep it₄ .rfl fun o e => k₅ _ o nIC e
      have hD₅ : h₅.get? DA = some (lst ys) := k₅ _ _ nDC (k₄ _ _ nID.symm hD₃)
      obtain ⟨oI, hoI⟩ := Sr.it_obj it₅
      obtain ⟨oC, hoC, hC⟩ := ns_obj n₅
      have M₅ : News u.h₀ u.L h₅ [(IA, oI), (CA, oC), (DA, lst ys)] := fun q hq => by
        rcases List.mem_cons.mp hq with rfl | hq
        · exact ⟨hoI, nLI.symm, zI⟩
        rcases List.mem_cons.mp hq with rfl | hq
        · exact ⟨hoC, nLC.symm, zC⟩
        · rw [List.mem_singleton.mp hq]; exact ⟨hD₅, nLD.symm, zD⟩
      generalize hu' : ({ u with fz := [(IA, oI), (CA, oC), (DA, lst ys)] ++ u.fz, C := CA, ci := cl', nv := fun x => if g.nms.contains x = true then m₅ x else u.nv x } : Un) = u'
      have e1 : u'.h₀ = u.h₀ := by rw [← hu']
      have e2 : u'.L = u.L := by rw [← hu']
      have e3 : u'.fz = [(IA, oI), (CA, oC), (DA, lst ys)] ++ u.fz := by rw [← hu']
      have e4 : u'.nv = fun x => if g.nms.contains x = true then m₅ x else u.nv x := by rw [← hu']
      have e5 : u'.C = CA := by rw [← hu']
      have e6 : u'.ci = cl' := by rw [← hu']
      have e7 : u'.cl = u.cl := by rw [← hu']
      have e8 : u'.A = u.A := by rw [← hu']
      have hnv : ∀ x, x ∉ g.nms → u'.nv x = u.nv x := fun x hx => by rw [e4]; exact if_neg fun e => hx (by simpa using e)
      have hnv' : ∀ x, x ∈ g.nms → u'.nv x = m₅ x := fun x hx => by rw [e4]; exact if_pos (by simpa using hx)
      have FA : FrA u' (c.comp sc' g.nms) D₃ h₅ (g.am ms (src.val i)) := by
        refine ⟨m₃, by rw [e1, e2]; exact F₅, fun x b e => ?_⟩
        rw [Tg.am_app fit, lookup_app] at e
        cases hx : (g.am [] (src.val i)).lookup x with
        | some b' =>
          rw [hx] at e; cases e
          obtain ⟨v', e', hb'⟩ := b₅ x b hx
          refine ⟨v', ?_, hb'⟩
          have hin' : x ∈ g.nms := by
            false_or_by_contra
            rename_i hn
            cases g with
            | name y p => rw [show (Tg.am [] (.name y p) (src.val i)) = [(y, src.val i)] from rfl, List.lookup_cons, show (x == y) = false from by simpa [Tg.nms] using hn] at hx; cases hx
            | pair y z p1 p2 k p =>
              obtain ⟨b1, b2, e2⟩ := fit
              have hn' : x ≠ y ∧ x ≠ z := by simpa [Tg.nms] using hn
              rw [e2, show (Tg.am [] (.pair y z p1 p2 k p) (.t [b1, b2])) = [(z, b2), (y, b1)] from rfl, List.lookup_cons, show (x == z) = false from by simpa using hn'.2, List.lookup_cons, show (x == y) = false from by simpa using hn'.1] at hx
              cases hx
          rw [rdn_on (show (c.comp sc' g.nms).stands x = true from by show (c.nc ++ g.nms).contains x = true; simp [hin']), hnv' x hin', e']
        | none =>
          rw [hx] at e
          have hx' := Tg.look_none hx fit
          obtain ⟨v', e', hb'⟩ := hF₃ x b e
          refine ⟨v', ?_, hb'⟩
          rw [← e']
          have hst : (c.comp sc' g.nms).stands x = c.stands x := by
            show (c.nc ++ g.nms).contains x = (c.nc ++ c.nt).contains x
            rw [hnt, List.append_nil]
            simp [hx']
          unfold rdn
          rw [hst, hnv x hx']
      have ok₅ : Ok3 w u' (c.comp sc' g.nms) := by
        refine ⟨by rw [← hu']; exact ok.ok, by rw [← hu']; exact ok.en, ok.k, fun sc'' e => by cases e; exact hkind, fun x hx => ?_, fun _ => ⟨oC, m₅, by rw [e5, e3]; exact .tail _ (.head _), hC, fun x hx => (hnv' x hx).symm⟩⟩
        obtain ⟨ca, o, h1, h2, h3⟩ := ok.cells x hx
        refine ⟨ca, o, ?_, by rw [e3]; exact List.mem_append_right _ h2, ?_⟩
        · rw [hi] at h1
          show u'.ci.lookup x = _
          rw [e6, hcls x hx, ← hcl0]; exact h1
        · rw [hnv x fun hg => (htg x hg).2 hx]; exact h3
      have S₅ : St0 w u' (c.comp sc' g.nms) D₃ h₅ (g.am ms (src.val i)) al₃ := ⟨FA, NwO.freeze (u := u) (X := [(IA, oI), (CA, oC), (DA, lst ys)]) e1 e2 e3 N₅ M₅⟩
      have hce := hcev u' e5 e6 e2 e7
      have back : ∀ {D₆ : Dc} {h₆ : Heap} {al₆ : AL}, St0 w u' (c.comp sc' g.nms) D₆ h₆ (g.am ms (src.val i)) al₆ → FrA u c D₆ h₆ ms ∧ NwO w u D₆ h₆ al₆ [IA, CA, DA] ∧ News u.h₀ u.L h₆ [(IA, oI), (CA, oC), (DA, lst ys)] := fun {D₆ h₆ al₆} S => by
        obtain ⟨N₆, M₆⟩ := NwO.thaw (X := [(IA, oI), (CA, oC), (DA, lst ys)]) (u := u) (u' := u') e1 e2 e3 hfz S.N
        obtain ⟨m₆, F₆, hF₆⟩ := S.F
        rw [e1, e2] at F₆
        refine ⟨⟨m₆, F₆, fun x b e => ?_⟩, N₆, M₆⟩
        have hx' : x ∉ g.nms := fun hm => by rw [hms x hm] at e; cases e
        have hx : (g.am [] (src.val i)).lookup x = none := by
          cases g with
          | name y p => rw [show (Tg.am [] (.name y p) (src.val i)) = [(y, src.val i)] from rfl, List.lookup_cons, show (x == y) = false from by simpa [Tg.nms] using hx']; rfl
          | pair y z p1 p2 k p =>
            obtain ⟨b1, b2, e2⟩ := fit
            have hn' : x ≠ y ∧ x ≠ z := by simpa [Tg.nms] using hx'
            rw [e2, show (Tg.am [] (.pair y z p1 p2 k p) (.t [b1, b2])) = [(z, b2), (y, b1)] from rfl, List.lookup_cons, show (x == z) = false from by simpa using hn'.2, List.lookup_cons, show (x == y) = false from by simpa using hn'.1]; rfl
        obtain ⟨v, e', iv⟩ := hF₆ x b (by rw [Tg.am_app fit, lookup_app, hx]; exact e)
        refine ⟨v, ?_, iv⟩
        have hst : (c.comp sc' g.nms).stands x = c.stands x := by
          show (c.nc ++ g.nms).contains x = (c.nc ++ c.nt).contains x
          rw [hnt, List.append_nil]
          simp [hx']
        rw [← e']
        unfold rdn
        rw [hst, hnv x hx']
      have helt : ∀ {β : Bool} {D₆ : Dc} {h₆ : Heap} {al₆ : AL} {tk₆ : Nat}, D₃.Le D₆ → (if β = true then EvK elt w u' (c.comp sc' g.nms) (g.am ms (src.val i)) al₆ (fun b al => I (i + 1) (bs ++ [b]) al) else I (i + 1) bs al₆) → St0 w u' (c.comp sc' g.nms) D₆ h₆ (g.am ms (src.val i)) al₆ →
          (if β = true then wpAny (MM w) u.A (eval elt (compEnvC sc' cl' CA (c.fe u))) (fun x s₄ => wpAny (MM w) u.A (call (.builtin "list.append") [.ref DA, x]) (fun _ s₅ => ∃ m, m < src.n + 1 - i ∧ ∃ h' tk D' al' i ys bs m', s₅ = { s with heap := h', toks := tk } ∧ D.Le D' ∧ FrA u c D' h' ms ∧ NwO w u D' h' al' [IA, CA, DA] ∧ src.it D' IA i h' ∧ h'.get? DA = some (lst ys) ∧ avs D' bs ys ∧ h'.Ns CA m' ∧ I i bs al' ∧ i ≤ src.n ∧ m = src.n + 1 - i) NoE s₄) NoE { s with heap := h₆, toks := tk₆ }
          else ∃ m, m < src.n + 1 - i ∧ ∃ h' tk D' al' i ys bs m', ({ s with heap := h₆, toks := tk₆ } : Shared) = { s with heap := h', toks := tk } ∧ D.Le D' ∧ FrA u c D' h' ms ∧ NwO w u D' h' al' [IA, CA, DA] ∧ src.it D' IA i h' ∧ h'.get? DA = some (lst ys) ∧ avs D' bs ys ∧ h'.Ns CA m' ∧ I i bs al' ∧ i ≤ src.n ∧ m = src.n + 1 - i) := by
        intro β D₆ h₆ al₆ tk₆ l₆ hK S₆
        cases β with
        | false =>
          rw [if_neg Bool.false_ne_true] at hK ⊢
          obtain ⟨F₇, N₇, M₇⟩ := back S₆
          exact ⟨src.n + 1 - (i + 1), by omega, h₆, tk₆, D₆, al₆, i + 1, ys, bs, m₅, rfl, l₃.trans l₆, F₇, N₇, Sr.it_keep it₅ l₆ (fun o e => by rw [hoI] at e; cases e; exact (M₇ _ (.head _)).1), (M₇ _ (.tail _ (.tail _ (.head _)))).1, avs.mono l₆ hb₃, hC.ns (M₇ _ (.tail _ (.head _))).1, hK, hlt, rfl⟩
        | true =>
          rw [if_pos rfl] at hK ⊢
          have hgo := hK.go ok₅ D₆ (fun x s₄ => wpAny (MM w) u.A (call (.builtin "list.append") [.ref DA, x]) (fun _ s₅ => ∃ m, m < src.n + 1 - i ∧ ∃ h' tk D' al' i ys bs m', s₅ = { s with heap := h', toks := tk } ∧ D.Le D' ∧ FrA u c D' h' ms ∧ NwO w u D' h' al' [IA, CA, DA] ∧ src.it D' IA i h' ∧ h'.get? DA = some (lst ys) ∧ avs D' bs ys ∧ h'.Ns CA m' ∧ I i bs al' ∧ i ≤ src.n ∧ m = src.n + 1 - i) NoE s₄) { s with heap := h₆, toks := tk₆ } S₆ fun b v al₇ tk₇ h₇ D₇ l₇ hI₇ hv₇ S₇ => by
            obtain ⟨F₇, N₇, M₇⟩ := back S₇
            have zD' := (M₇ _ (.tail _ (.tail _ (.head _)))).1
            refine append_at (hsz := by have : ys.length ≤ 1000 := by rw [avs_len hb₃]; omega
                                        rw [List.size_toArray, sizeLine_eq]; omega) zD' fun h₈ sb₈ hD₈ => ?_
            refine ⟨src.n + 1 - (i + 1), by omega, h₈, tk₇, D₇, al₇, i + 1, ys ++ [v], bs ++ [b], m₅, rfl, l₃.trans (l₆.trans l₇), ?_, hkp N₇ fun b o _ _ h3 e => sb₈.extBut b o h3 e, Sr.it_keep it₅ (l₆.trans l₇) (fun o e => ?_), hD₈.trans (congrArg some (lst_snoc ys v)), avs_app (avs.mono (l₆.trans l₇) hb₃) ⟨hv₇, trivial⟩, hC.ns (sb₈.extBut _ _ nDC.symm (M₇ _ (.tail _ (.head _))).1), hI₇, hlt, rfl⟩
            · obtain ⟨m₈, F₈, hF₈⟩ := F₇
              exact ⟨m₈, hfr F₈ fun b o _ _ h3 e => sb₈.extBut b o h3 e, hF₈⟩
            · rw [hoI] at e; cases e; exact sb₈.extBut _ _ nID (M₇ _ (.head _)).1
          rw [e8, hce] at hgo
          exact hgo
      have hts := hb u' ⟨by rw [← hu'], e2, e7⟩
      match ifs, hif, hts with
      | [], _, hts =>
        have := helt (β := true) (tk₆ := tk₅) .rfl hts S₅
        rw [if_pos rfl] at this
        unfold Tst
        dsimp only
        rw [if_pos rfl]
        exact hE (wpAny_mono this (fun _ _ x => hE x) fun _ _ x => x)
      | [t], _, hts =>
        have hgo := TrK.go (e := t) hts ok₅ D₃ (fun β s₃ => if β = true then wpAny (MM w) u.A (eval elt (compEnvC sc' cl' CA (c.fe u))) (fun x s₄ => wpAny (MM w) u.A (call (.builtin "list.append") [.ref DA, x]) (fun _ s₅ => ∃ m, m < src.n + 1 - i ∧ ∃ h' tk D' al' i ys bs m', s₅ = { s with heap := h', toks := tk } ∧ D.Le D' ∧ FrA u c D' h' ms ∧ NwO w u D' h' al' [IA, CA, DA] ∧ src.it D' IA i h' ∧ h'.get? DA = some (lst ys) ∧ avs D' bs ys ∧ h'.Ns CA m' ∧ I i bs al' ∧ i ≤ src.n ∧ m = src.n + 1 - i) NoE s₄) NoE s₃
          else ∃ m, m < src.n + 1 - i ∧ ∃ h' tk D' al' i ys bs m', s₃ = { s with heap := h', toks := tk } ∧ D.Le D' ∧ FrA u c D' h' ms ∧ NwO w u D' h' al' [IA, CA, DA] ∧ src.it D' IA i h' ∧ h'.get? DA = some (lst ys) ∧ avs D' bs ys ∧ h'.Ns CA m' ∧ I i bs al' ∧ i ≤ src.n ∧ m = src.n + 1 - i) { s with heap := h₅, toks := tk₅ } S₅ fun β al₆ tk₆ h₆ D₆ l₆ hK S₆ => helt (β := β) l₆ hK S₆
        rw [e8, hce] at hgo
        refine hE (wpAny_mono hgo (fun β s₃ hx => ?_) fun _ _ x => x)
        cases β with
        | false => exact hx
        | true => rw [if_pos rfl] at hx ⊢; exact hE (wpAny_mono hx (fun _ _ x => hE x) fun _ _ x => x)
    · obtain rfl : i = src.n := Nat.le_antisymm hin (Nat.not_lt.mp hlt)
      refine hE (Sr.done (s := { s with heap := h₃, toks := tk₃ }) ok.ok.hh it₃ hok₃ N₃.nw fun h₄ tk₄ k₄ => ?_)
      have N₄ := hkp N₃ fun b o h1 _ _ e => k₄ b o h1 e
      have hlen : D₃.ad.length = al₃.length := by obtain ⟨_, O⟩ := N₄.nw.opn; exact O.len
      refine q bs al₃ tk₄ h₄ D₃ DA CA m' l₃ (hend bs al₃ hI) ⟨m₃, hfr F₃ fun b o h1 _ _ e => k₄ b o h1 e, hF₃⟩ (fun h₅ k₅ => ?_) nLC.symm zC (n₃.at' fun o e => k₄ _ o nIC.symm e) hlen
      have N₅ : NwO w u D₃ h₅ al₃ [IA, CA, DA] := N₄.keep fun b o hb hbL e => k₅ b o (fun e2 => hb (by rw [e2]; simp)) hbL e
      exact NwO.push N₅ (d := DA) (by simp) (k₅ _ _ nDC nLD.symm (k₄ _ _ nID.symm hD₃)) nLD.symm zD hb₃
  exact codeAny_compStart_list (loop _ rfl) (hE (Sr.self ok.ok.hh it₀ (loop _ rfl)))
theorem comp_at {al : AL} {d : Addr} (h : D.ad.length = al.length) : (D.push d).ad[al.length]? = some (some d) := by
  show (D.ad ++ [some d])[al.length]? = _
  rw [← h, List.getElem?_append_right (Nat.le_refl _), Nat.sub_self]
  rfl
theorem ek_comp {g : Tg} {elt iter : PySem.Expr} {ifs : List PySem.Expr} {sc' : Scope} {cl0 cl' : List (Str × Addr)}
    (hi : c.inner = none) (hnt : c.nt = []) (hif : ifs.length ≤ 1) (hcl0 : u.cl = cl0) (hclos : closureFor sc' (envX c.q c.sc u.L c.f c.cd cl0) = pure cl') (hclm : (c.nc.map fun x => cl'.lookup x) = c.nc.map fun x => cl0.lookup x)
    (hcell : ∀ y ∈ sc'.names, y.2 ≠ .cell) (hkind : sc'.kind = .function) (hnames : ∀ y ∈ sc'.names, y.2 = .local → sc'.names.lookup y.1 = some .local) (htg : ∀ x ∈ g.nms, sc'.names.lookup x = some .local ∧ x ∉ c.nc)
    (hms : ∀ x ∈ g.nms, ms.lookup x = none) (hs : ∀ x, foldedSetIterable iter (c.ev u) x = pure x) (h : SrK iter w u c ms ls (Cp g elt ifs sc' w u c ms K)) : EvK (.ListComp elt [⟨g.ex, iter, ifs, 0⟩] sc' p) w u c ms ls K := by
  refine ⟨fun ok D Q s S q => ?_⟩
  rw [eval_ListComp]
  refine comp_go hi hnt hif hcl0 hclos hclm hcell hkind hnames htg hms hs h (use := none) ok S fun bs al tk h' D' d C m' l k F N hC hC0 hn hl => ⟨m', hn, fun h5 sb => ?_⟩
  obtain ⟨m, F, hF⟩ := F
  exact q _ _ _ tk h5 (D'.push d) (l.trans Dc.le_push) k ⟨d, comp_at hl, rfl⟩ ⟨⟨m, F.change sb hC hC0, fun x b e => let ⟨v, e, i⟩ := hF x b e; ⟨v, e, i.mono Dc.le_push⟩⟩, N h5 fun b o h1 _ e => sb.extBut b o h1 e⟩
/-- x = [comprehension] on one line: the name is stored ahead of the comprehension's end -/
theorem ex_asgComp {x : Str} {p1 p2 : Pos} {rest : List Stmt} {KF : AF → AM → AL → Prop} {g : Tg} {elt iter : PySem.Expr} {ifs : List PySem.Expr} {sc' : Scope} {cl0 cl' : List (Str × Addr)}
    (hi : c.inner = none) (hnt : c.nt = []) (hif : ifs.length ≤ 1) (hcl0 : u.cl = cl0) (hclos : closureFor sc' (envX c.q c.sc u.L c.f c.cd cl0) = pure cl') (hclm : (c.nc.map fun x => cl'.lookup x) = c.nc.map fun x => cl0.lookup x)
    (hcell : ∀ y ∈ sc'.names, y.2 ≠ .cell) (hkind : sc'.kind = .function) (hnames : ∀ y ∈ sc'.names, y.2 = .local → sc'.names.lookup y.1 = some .local) (htg : ∀ x ∈ g.nms, sc'.names.lookup x = some .local ∧ x ∉ c.nc)
    (hms : ∀ x ∈ g.nms, ms.lookup x = none) (hst : c.stands x = false) (hx : (c.fe u).kindOf x = some .local) (hsw : swapsWith (.ListComp elt [⟨g.ex, iter, ifs, 0⟩] sc' p) (some (.Name x p1)) p2.line (c.ev u) = pure true) (hs : ∀ x, foldedSetIterable iter (c.ev u) x = pure x) (h : SrK iter w u c ms ls (Cp g elt ifs sc' w u c ms fun a al => Ex rest w u c ((x, a) :: ms) al KF)) : Ex (.Assign [.Name x p1] (.ListComp elt [⟨g.ex, iter, ifs, 0⟩] sc' p) p2 :: rest) w u c ms ls KF := by
  refine ⟨fun ok D Q s S q => wpAny_execs_cons ?_⟩
  rw [exec_Assign_Name_used _ _ _ _ hsw]
  refine wpAny_bind (wpAny_standAt (wpAny_bind ?_))
  show wpAny _ _ (do let _ ← comprehension (.ListComp elt [⟨g.ex, iter, ifs, 0⟩] sc' p) sc' (c.ev u) _ (newList []) false (eval iter (c.ev u)) (some (PySem.assign (.Name x p1) (c.ev u)))) _ _ s
  refine wpAny_bind (wpAny_mono (comp_go hi hnt hif hcl0 hclos hclm hcell hkind hnames htg hms hs h (use := some (PySem.assign (.Name x p1) (c.ev u))) (Q := fun _ s' => wpAny (MM w) u.A (execs rest (c.ev u)) Q NoE s') ok S fun bs al tk h' D' d C m' l k F N hC hC0 hn hl => ?_) (fun _ s' hq => wpAny_pure (wpAny_pure hq)) fun _ _ e => e)
  obtain ⟨m, F, hF⟩ := F
  have hloc : (c.ev u).locals = u.L := by rw [Cd.ev_none hi]
  refine wpAny_assign_Name (wpAny_storeName_local (by rw [Cd.ev_none hi]; exact hx) (by rw [hloc]; exact F.ns) (fun h5 n5 sb5 => ?_) (by rw [Cd.ev_none hi]; show (c.sc.kind == .class || (c.sc.kind == .module && _)) = false; rw [ok.k]; rfl))
  rw [hloc] at n5 sb5
  refine ⟨m', hn.sameBut sb5 hC, fun h6 sb6 => ?_⟩
  have F5 := F.set n5 sb5
  refine k.go ok (D'.push d) Q { s with heap := h6, toks := tk + 1 } ⟨frA_set (a := .r al.length) (D := D'.push d) (F5.change sb6 hC hC0) hst ⟨d, comp_at hl, rfl⟩ fun x b e => let ⟨v, e, i⟩ := hF x b e; ⟨v, e, i.mono Dc.le_push⟩, N h6 fun b o h1 h2 e => sb6.extBut b o h1 (sb5.extBut b o h2 e)⟩ fun f fl m' al' tk h' D'' l' => q f fl m' al' tk h' D'' (l.trans (Dc.le_push.trans l'))
end
end
section
local macro_rules | `(tactic| walk_at "no such key") => `(tactic| fail)
theorem clr_Y9 : True := by
  w_top off
  trivial
variable {w : World} {A A₀ : Around} {base h₀ : Heap} {outer : List Env} {env : Env} {L : Addr} {m : Str → Option Value} {s : Shared} {Q E : Value → Shared → Prop} {mean : ExcName → Option Value} {mg mb : Str → Option Value}
section
open PySem.Spec
variable {w : World} {u : Un} {c : Cd} {ms : AM} {ls al : AL} {D : Dc} {a b : AV} {e e1 e2 e3 : PySem.Expr} {p p1 p2 p3 : Pos} {K : AV → AL → Prop} {sts rest : List Stmt} {KF : AF → AM → AL → Prop}
/-- what is walked over -/
structure LiB (KS : Sr → AL → Prop) (a : AV) (al : AL) : Prop where
  ex : ∃ k us, a = .r k ∧ al[k]? = some (.lst us) ∧ KS (.lst k us) al
theorem LiB.in {KS : Sr → AL → Prop} {k : Nat} {us : List AV} (m : al[k]? = some (.lst us)) (h : KS (.lst k us) al) : LiB KS (.r k) al := ⟨k, us, rfl, m, h⟩
theorem sr_lst {KS : Sr → AL → Prop} (h : EvK e w u c ms ls (LiB KS)) : SrK e w u c ms ls KS := by
  refine ⟨fun ok D Q s S q => h.go ok D Q s S fun a v al tk h' D' l k hv S => ?_⟩
  obtain ⟨j, us, rfl, m, kk⟩ := k.ex
  obtain ⟨x, hx, rfl⟩ := hv
  exact q (.lst j us) _ al tk h' D' l kk m ⟨x, rfl, hx⟩ S
theorem St0.push {h' : Heap} {o : Obj} (S : St0 w u c D h' ms al) : St0 w u c D (h'.push o) ms al := by
  obtain ⟨m, F, hF⟩ := S.F
  obtain ⟨L, O⟩ := S.N.opn
  exact ⟨⟨m, F.push o, hF⟩, O.keep fun p hp => ⟨Heap.get?_push_of_some _ (O.N p hp).1, (O.N p hp).2⟩⟩
theorem callY_go {T : String} {es : List PySem.Expr} {env : Env} {A : Around} {E Q : Value → Shared → Prop} {s : Shared} (s1 : ∀ env, starEach (e :: es) env = (false, eval e env) :: starEach es env) (s2 : ∀ env pos, ((backTo pos (starEach es env)).any fun y => y.1) = false)
    (h2 : wpAny (MM w) A (spliced (backTo p (starEach (e :: es) env))) (fun vs s₁ => wpAny (MM w) A (call (.type T) ([] ++ vs)) Q E s₁) E s) : wpAny (MM w) A (callWith p (.type T) [] (backTo p (starEach (e :: es) env)) []) Q E s := by
  rw [s1] at h2 ⊢
  exact PyProof.Rows.callWith_type (by show (false || (backTo p (starEach es env)).any fun y => y.1) = false; rw [s2]; rfl) (evalArgs_plain h2)
structure RgB (KS : Sr → AL → Prop) (a : AV) (al : AL) : Prop where
  ex : ∃ z, a = .i z ∧ -1000000 ≤ z ∧ z ≤ 1000000 ∧ KS (.rng 0 1 z.toNat) al
theorem RgB.in {KS : Sr → AL → Prop} {z : Int} (h0 : -1000000 ≤ z) (h1 : z ≤ 1000000) (h : KS (.rng 0 1 z.toNat) al) : RgB KS (.i z) al := ⟨z, rfl, h0, h1, h⟩
theorem sr_rng1 {KS : Sr → AL → Prop} (h1 : EvT (.Name "range" p3) w u c ms ls (.v (.type "range"))) (s1 : ∀ env, starEach [e] env = [(false, eval e env)])
    (ha : EvK e w u c ms ls (RgB KS)) : SrK (.Call (.Name "range" p3) [e] [] p) w u c ms ls KS := by
  refine ⟨fun ok D Q s S q => ?_⟩
  refine Call_ (h1.go ok D _ s S fun v tk h' D' l hv S => ?_)
  cases hv
  refine callY_go s1 (fun _ _ => rfl) ?_
  refine args_cons (ha.go ok D' _ { s with heap := h', toks := tk } S fun a v al tk h' D'' l' k hv S => ?_) (s1 _)
  obtain ⟨z, rfl, z0, z1, kk⟩ := k.ex
  obtain ⟨t, rfl⟩ := hv
  refine args_nil ?_
  refine call_range_1 ?_
  refine q (.rng 0 1 z.toNat) _ al _ _ D'' (l.trans l') kk trivial ⟨_, z, _, _, _, rfl, IsRange.new .., small_one (by omega) (by omega) (by omega) (by omega), ?_⟩ S.push
  rw [rangeSize_one]
  split <;> omega
theorem sr_rng3 {KS : Sr → AL → Prop} {z : Int} (h1 : EvT (.Name "range" p3) w u c ms ls (.v (.type "range"))) (s1 : ∀ env, starEach [e1, e2, e3] env = (false, eval e1 env) :: starEach [e2, e3] env) (s2 : ∀ env, starEach [e2, e3] env = (false, eval e2 env) :: starEach [e3] env) (s3 : ∀ env, starEach [e3] env = [(false, eval e3 env)])
    (ha : EvT e1 w u c ms ls (.i z)) (hb : EvT e2 w u c ms ls (.i (-1))) (hc : EvT e3 w u c ms ls (.i (-1))) (z0 : -1 ≤ z) (z1 : z ≤ 1000000) (k : KS (.rng z (-1) (z + 1).toNat) ls) : SrK (.Call (.Name "range" p3) [e1, e2, e3] [] p) w u c ms ls KS := by
  refine ⟨fun ok D Q s S q => ?_⟩
  refine Call_ (h1.go ok D _ s S fun v tk h' D' l hv S => ?_)
  cases hv
  refine callY_go s1 (fun _ _ => by rw [s2, s3]; rfl) ?_
  refine (ar_cons ha (ar_cons hb (ar_cons hc ar_nil s3) s2) s1).go ok D' _ _ { s with heap := h', toks := tk } S fun vs tk h' D'' l' hvs S => ?_
  match vs, hvs with
  | [v1, v2, v3], ⟨⟨t1, e1⟩, ⟨t2, e2⟩, ⟨t3, e3⟩, _⟩ =>
    subst e1 e2 e3
    have hn : Builtin.Range.rangeSize z (-1) (-1) = (((z + 1).toNat : Nat) : Int) := by
      unfold Builtin.Range.rangeSize
      rw [if_neg (by decide)]
      split
      · rw [show (- (-1 : Int)) = 1 from rfl, Int.ediv_one]; omega
      · omega
    refine call_range_3 (by decide) (q (.rng z (-1) (z + 1).toNat) _ ls _ _ D'' (l.trans l') k trivial ⟨_, -1, _, _, _, rfl, IsRange.new .., ?_, hn⟩ S.push) (Or.inl (PyProof.noPylong_small (by omega)))
    unfold Builtin.Range.small
    rw [hn]
    simp only [Builtin.Range.rangeFitsLong, Bool.and_eq_true, Bool.or_eq_true, decide_eq_true_eq, beq_iff_eq]
    refine ⟨⟨⟨⟨?_, by decide⟩, by decide⟩, ?_⟩, .inr ?_⟩
    · omega
    · omega
    · rw [if_neg (by decide)]; decide
theorem ev_neg {n : Int} (h : EvT e w u c ms ls (.i n)) : EvT (.UnaryOp .USub e p) w u c ms ls (.i (-n)) := by
  refine ⟨fun ok D Q s S q => wpAny_UnaryOp (h.go ok D _ s S fun v tk h' D' l hv S => ?_)⟩
  obtain ⟨t, rfl⟩ := hv
  exact PyProof.Rows.neg_int (q _ _ h' D' l ⟨_, rfl⟩ S)
/-- a dict with names as keys and ints -/
theorem Opn.sdict {h : Heap} {L : List (Addr × Obj)} {k : Nat} {es : List (Str × Int)} {v : Value} (O : Opn w u D h al L) (hv : (AV.r k).Is D v) (m : al[k]? = some (.sd es)) :
    ∃ x o, v = .ref x ∧ (x, o) ∈ L ∧ D.ad[k]? = some (some x) ∧ ∃ f : Str → Tok, o.IsDictOf (PySem.strKind PySem.Challenge.rw_pc0376_01.row.prog w) (es.map fun p => (p.1, Value.int p.2 (f p.1))) := by
  obtain ⟨x, ha, rfl⟩ := hv
  obtain ⟨o, ho, i⟩ := O.obj ha m
  exact ⟨x, o, rfl, i, ha, ho⟩
theorem sd_at {f : Str → Tok} {k : Str} {n : Int} : ∀ {es : List (Str × Int)}, es.lookup k = some n → valueAt (es.map fun p => (p.1, Value.int p.2 (f p.1))) k = some (.int n (f k))
  | (k', m) :: es, h => by
    rw [List.lookup_cons] at h
    unfold valueAt
    rw [List.map_cons, List.find?_cons]
    by_cases e : k = k'
    · subst e; rw [beq_self_eq_true] at h; cases h; simp
    · rw [show (k == k') = false from by simpa using e] at h
      rw [show decide (k' = k) = false from by simpa using fun q : k' = k => e q.symm]
      exact sd_at h
noncomputable def SubS (e2 : PySem.Expr) : Prop := ∀ (o : Value) (x : Str) (t : Tok), subscripted e2 false o (.str x t) = operate [o, .str x t] (getItem o (.str x t))
theorem ev_sd {k : Nat} {es : List (Str × Int)} {key : Str} {n : Int} (hs : SubS e2) (h1 : EvT e1 w u c ms ls (.r k)) (h2 : EvT e2 w u c ms ls (.s key)) (m : ls[k]? = some (.sd es)) (hl : es.lookup key = some n) : EvT (.Subscript e1 e2 p) w u c ms ls (.i n) := by
  refine ⟨fun ok D Q s S q => Subscript_ (h1.go ok D _ s S fun v tk h' D' l hv S => h2.go ok D' _ { s with heap := h', toks := tk } S fun v2 tk h' D'' l' hv2 S => ?_)⟩
  obtain ⟨t, rfl⟩ := hv2
  obtain ⟨L, O⟩ := S.N.opn
  obtain ⟨x, o, rfl, i, _, f, hd⟩ := O.sdict (hv.mono l') m
  exact kdt_tail O.N i hd (kdt_getItem (s := { s with heap := h', toks := tk }) O.N i hd (strKind_is _ _ _ _) (sd_at hl) (q _ _ h' D'' (l.trans l') ⟨_, rfl⟩ S)) (hs _ _ _)
/-- a store into such a dict -/
noncomputable def putI (k : Str) (n : Int) (es : List (Str × Int)) : List (Str × Int) := es.map fun p => if p.1 = k then (p.1, n) else p
theorem sd_put {f : Str → Tok} {k : Str} {n : Int} {t : Tok} {es : List (Str × Int)} (h : (es.lookup k).isSome = true) :
    stored (es.map fun p => (p.1, Value.int p.2 (f p.1))) k (.int n t) = (putI k n es).map fun p => (p.1, Value.int p.2 ((fun y => if y = k then t else f y) p.1)) := by
  unfold stored putI
  rw [if_pos, List.map_map, List.map_map]
  · refine List.map_congr_left fun p _ => ?_
    by_cases e : p.1 = k
    · simp [e]
    · simp [e]
  · rw [List.any_map]
    induction es with
    | nil => cases h
    | cons q es ih =>
      obtain ⟨k', m⟩ := q
      rw [List.lookup_cons] at h
      rw [List.any_cons]
      by_cases e : k = k'
      · subst e; simp
      · rw [show (k == k') = false from by simpa using e] at h
        rw [Bool.or_eq_true]
        exact .inr (ih h)
theorem Nw.sdset {k : Nat} {es : List (Str × Int)} {key : Str} {n : Int} {v : Value} {t tv : Tok} {A : Around} {s : Shared} {E : Value → Shared → Prop} {Q : Unit → Shared → Prop} {m : Str → Option Value} (F : Fr u.h₀ u.L s.heap m) (N : Nw w u D s.heap al) (hv : (AV.r k).Is D v) (m1 : al[k]? = some (.sd es)) (hl : (es.lookup key).isSome = true) (hz : es.length ≤ 1000)
    (h : ∀ h', Fr u.h₀ u.L h' m → Nw w u D h' (al.set k (.sd (putI key n es))) → Q () { s with heap := h', toks := s.toks + 1 }) : wpAny (MM w) A (setItem v (.str key t) (.int n tv)) Q E s := by
  obtain ⟨x, hx, rfl⟩ := hv
  obtain ⟨o, r, ⟨f, hd⟩, ho, N', up, _⟩ := N.at hx m1
  refine kda_set F N' (UpdF.head ho) hd (strKind_is _ _ _ _) (by rw [List.length_map, sizeLine_eq]; omega) fun h' o' F' N'' hd' => h h' F' (up ⟨fun y => if y = key then tv else f y, ?_⟩ N'')
  rw [sd_put hl] at hd'
  exact hd'
/-- a store into a list -/
theorem Nw.lset {k : Nat} {us : List AV} {i : Int} {v x : Value} {t : Tok} {A : Around} {s : Shared} {E : Value → Shared → Prop} {Q : Unit → Shared → Prop} {m : Str → Option Value} (F : Fr u.h₀ u.L s.heap m) (N : Nw w u D s.heap al) (hv : (AV.r k).Is D v) (hx : a.Is D x) (m1 : al[k]? = some (.lst us)) (i0 : 0 ≤ i) (i1 : i < us.length) (hz : us.length ≤ 1000)
    (h : ∀ h', Fr u.h₀ u.L h' m → Nw w u D h' (al.set k (.lst (us.set i.toNat a))) → Q () { s with heap := h' }) : wpAny (MM w) A (setItem v (.int i t) x) Q E s := by
  obtain ⟨y, hy, rfl⟩ := hv
  obtain ⟨o, r, ⟨vs, n, rfl, hvs⟩, ho, N', up, _⟩ := N.at hy m1
  have hlen := avs_len hvs
  refine ki_setAt (N' _ (.head _)).1 i0 (by omega) (by rw [List.size_toArray]; omega) (h _ (F.change (Heap.SameBut.update ..) (N' _ (.head _)).2.1 (N' _ (.head _)).2.2) (up (o' := listOf (vs.set i.toNat x).toArray n) ⟨_, _, rfl, ?_⟩ (ki_turn (pre := []) (its := vs.toArray) (its' := (vs.set i.toNat x).toArray) (n' := n) _ N' (fun _ h => nomatch h) ho ?_ ?_)))
  · have key : ∀ (us : List AV) (vs : List Value) (j : Nat), avs D us vs → avs D (us.set j a) (vs.set j x) := by
      intro us
      induction us with
      | nil => intro vs j h; match vs, h with | [], _ => exact trivial
      | cons b us ih =>
        intro vs j h
        match vs, h with
        | v :: vs, ⟨h1, h2⟩ =>
          cases j with
          | zero => exact ⟨hx, h2⟩
          | succ j => exact ⟨h1, ih vs j h2⟩
    exact key us vs _ hvs
  · simp
  · simp
end
end
section
theorem clr_Y10 : True := by
  w_top off
  trivial
variable {w : World} {A A₀ : Around} {base h₀ : Heap} {outer : List Env} {env : Env} {L : Addr} {m : Str → Option Value} {s : Shared} {Q E : Value → Shared → Prop} {mean : ExcName → Option Value} {mg mb : Str → Option Value}
section
open PySem.Spec
variable {w : World} {u : Un} {c : Cd} {ms : AM} {ls al : AL} {D : Dc} {a b : AV} {e e1 e2 e3 : PySem.Expr} {p p1 p2 p3 : Pos} {K : AV → AL → Prop} {sts rest : List Stmt} {KF : AF → AM → AL → Prop} {x y z : Str}
/-- a new list is a new slot -/
theorem Opn.newL {h h' : Heap} {L : List (Addr × Obj)} {x : Addr} {vs : List Value} {n : Nat} {bs : List AV} {m : Str → Option Value} (O : Opn w u D h al L) (hF : ∀ x a, ms.lookup x = some a → ∃ v, rdn u c m x = some v ∧ a.Is D v) (F' : Fr u.h₀ u.L h' m) (N' : News u.h₀ u.L h' ((x, listOf vs.toArray n) :: L)) (lt : ∀ p ∈ L, p.1 < x) (hvs : avs D bs vs) :
    ∃ D', D.Le D' ∧ (AV.r al.length).Is D' (.ref x) ∧ St0 w u c D' h' ms (al ++ [.lst bs]) := by
  have l2 : D.Le (D.push x) := Dc.le_push
  refine ⟨D.push x, l2, ⟨x, ?_, rfl⟩, .put F' (fun x a e => let ⟨v, e, i⟩ := hF x a e; ⟨v, e, i.mono l2⟩) (O.push N' (fun p hp => Nat.ne_of_lt (lt p hp)) ⟨vs, n, rfl, avs.mono l2 hvs⟩)⟩
  show (D.ad ++ [some x])[al.length]? = _
  rw [← O.len, List.getElem?_append_right (Nat.le_refl _), Nat.sub_self]
  rfl
/-- list + list -/
structure AddB (k : Nat) (us : List AV) (K : AV → AL → Prop) (b : AV) (al : AL) : Prop where
  ex : ∃ j vs, b = .r j ∧ al[k]? = some (.lst us) ∧ al[j]? = some (.lst vs) ∧ us.length + vs.length ≤ 16000 ∧ K (.r al.length) (al ++ [.lst (us ++ vs)])
structure AddA (e2 : PySem.Expr) (w : World) (u : Un) (c : Cd) (ms : AM) (K : AV → AL → Prop) (a : AV) (al : AL) : Prop where
  ex : ∃ k us, a = .r k ∧ EvK e2 w u c ms al (AddB k us K)
theorem AddB.in {k j : Nat} {us vs : List AV} (m1 : al[k]? = some (.lst us)) (m2 : al[j]? = some (.lst vs)) (hz : us.length + vs.length ≤ 16000) (h : K (.r al.length) (al ++ [.lst (us ++ vs)])) : AddB k us K (.r j) al := ⟨j, vs, rfl, m1, m2, hz, h⟩
theorem AddA.in {k : Nat} {us : List AV} (m1 : al[k]? = some (.lst us)) (h : EvK e2 w u c ms al (AddB k us K)) : AddA e2 w u c ms K (.r k) al := ⟨k, us, rfl, h⟩
theorem addL_go {v : Value} {tk : Nat} {h' : Heap} {D' : Dc} {Q : Value → Shared → Prop} {s : Shared} (ok : Ok3 w u c) (l : D.Le D') (hA : AddA e2 w u c ms K a al) (hv : a.Is D' v) (S : St0 w u c D' h' ms al) (q : ∀ a v al tk h' D', D.Le D' → K a al → a.Is D' v → St0 w u c D' h' ms al → Q v { s with heap := h', toks := tk }) :
    wpAny (MM w) u.A (eval e2 (c.ev u)) (fun v2 s₁ => wpAny (MM w) u.A (binaryOp .Add v v2) Q NoE s₁) NoE { s with heap := h', toks := tk } := by
  obtain ⟨k, us, rfl, hA2⟩ := hA.ex
  refine hA2.go ok D' _ { s with heap := h', toks := tk } S fun b v2 al2 tk h' D'' l' hB hv2 S => ?_
  obtain ⟨j, vs, rfl, m1, m2, hz, kk⟩ := hB.ex
  obtain ⟨m, F, hF⟩ := S.F
  obtain ⟨L, O⟩ := S.N.opn
  obtain ⟨xa, va, na, rfl, ia, _, ha⟩ := O.list (hv.mono l') m1
  obtain ⟨xb, vb, nb, rfl, ib, _, hb⟩ := O.list hv2 m2
  refine kmk_add_lit F O.N (News.isList O.N ia) (News.isList O.N ib) rfl (fun x h' F' N' lt => ?_) (by rw [sizeLine_eq]; show va.length + vb.length ≤ _; rw [avs_len ha, avs_len hb]; omega)
  obtain ⟨D3, l3, i3, S3⟩ := O.newL (c := c) hF F' N' lt (avs_app ha hb)
  exact q _ _ _ tk h' D3 (l.trans (l'.trans l3)) kk i3 S3
/-- tuple + tuple -/
structure AddT (e2 : PySem.Expr) (w : World) (u : Un) (c : Cd) (ms : AM) (K : AV → AL → Prop) (a : AV) (al : AL) : Prop where
  ex : ∃ x as y bs, a = .t (x :: as) ∧ EvT e2 w u c ms al (.t (y :: bs)) ∧ as.length + bs.length ≤ 1000 ∧ K (.t (x :: as ++ y :: bs)) al
theorem AddT.in {x y : AV} {as bs : List AV} (h : EvT e2 w u c ms al (.t (y :: bs))) (hz : as.length + bs.length ≤ 1000) (k : K (.t (x :: as ++ y :: bs)) al) : AddT e2 w u c ms K (.t (x :: as)) al := ⟨x, as, y, bs, rfl, h, hz, k⟩
theorem addT_go {v : Value} {tk : Nat} {h' : Heap} {D' : Dc} {Q : Value → Shared → Prop} {s : Shared} (ok : Ok3 w u c) (l : D.Le D') (hA : AddT e2 w u c ms K a al) (hv : a.Is D' v) (S : St0 w u c D' h' ms al) (q : ∀ a v al tk h' D', D.Le D' → K a al → a.Is D' v → St0 w u c D' h' ms al → Q v { s with heap := h', toks := tk }) :
    wpAny (MM w) u.A (eval e2 (c.ev u)) (fun v2 s₁ => wpAny (MM w) u.A (binaryOp .Add v v2) Q NoE s₁) NoE { s with heap := h', toks := tk } := by
  obtain ⟨x, as, y, bs, rfl, h2, hz, kk⟩ := hA.ex
  refine h2.go ok D' _ { s with heap := h', toks := tk } S fun v2 tk h' D'' l' hv2 S => ?_
  obtain ⟨m, F, hF⟩ := S.F
  obtain ⟨L, O⟩ := S.N.opn
  obtain ⟨xa, va, rfl, ia, ha⟩ := hv.mono l'
  obtain ⟨xb, vb, rfl, ib, hb⟩ := hv2
  have la := avs_len ha
  have lb := avs_len hb
  simp only [List.length_cons] at la lb
  refine kde_addT F O.N (News.isTup O.N (O.tup _ ia)) (News.isTup O.N (O.tup _ ib)) (fun e => ?_) (fun e => ?_) (by show va.length + vb.length ≤ _; omega) rfl (fun x h' F' N' lt => ?_)
  · have e : va = [] := e
    rw [e] at la; cases la
  · have e : vb = [] := e
    rw [e] at lb; cases lb
  · have l2 : D''.Le (D''.tup x (va ++ vb)) := Dc.le_tup
    exact q _ _ al tk h' _ (l.trans (l'.trans l2)) kk ⟨x, va ++ vb, rfl, .head _, avs.mono l2 (avs_app ha hb)⟩ (.put F' (fun x a e => let ⟨v, e, i⟩ := hF x a e; ⟨v, e, i.mono l2⟩) (O.mktup N' fun p hp => Nat.ne_of_lt (lt p hp)))
/-- ints -/
inductive OpI : Operator → Int → Int → Int → Prop
  | add {n m : Int} : OpI .Add n m (n + m)
  | sub {n m : Int} : OpI .Sub n m (n - m)
structure BiB (op : Operator) (n : Int) (K : AV → AL → Prop) (b : AV) (al : AL) : Prop where
  ex : ∃ m r, b = .i m ∧ OpI op n m r ∧ K (.i r) al
structure BiA (op : Operator) (e2 : PySem.Expr) (w : World) (u : Un) (c : Cd) (ms : AM) (K : AV → AL → Prop) (a : AV) (al : AL) : Prop where
  ex : ∃ n, a = .i n ∧ EvK e2 w u c ms al (BiB op n K)
theorem BiB.inA {n m : Int} (k : K (.i (n + m)) al) : BiB .Add n K (.i m) al := ⟨m, _, rfl, .add, k⟩
theorem BiB.inS {n m : Int} (k : K (.i (n - m)) al) : BiB .Sub n K (.i m) al := ⟨m, _, rfl, .sub, k⟩
theorem BiA.in {n : Int} {op : Operator} (h : EvK e2 w u c ms al (BiB op n K)) : BiA op e2 w u c ms K (.i n) al := ⟨n, rfl, h⟩
theorem int_go {op : Operator} {v : Value} {tk : Nat} {h' : Heap} {D' : Dc} {Q : Value → Shared → Prop} {s : Shared} (ok : Ok3 w u c) (l : D.Le D') (hA : BiA op e2 w u c ms K a al) (hv : a.Is D' v) (S : St0 w u c D' h' ms al) (q : ∀ a v al tk h' D', D.Le D' → K a al → a.Is D' v → St0 w u c D' h' ms al → Q v { s with heap := h', toks := tk }) :
    wpAny (MM w) u.A (eval e2 (c.ev u)) (fun v2 s₁ => wpAny (MM w) u.A (binaryOp op v v2) Q NoE s₁) NoE { s with heap := h', toks := tk } := by
  obtain ⟨n, rfl, hB⟩ := hA.ex
  obtain ⟨t, rfl⟩ := hv
  refine hB.go ok D' _ { s with heap := h', toks := tk } S fun b v2 al2 tk h' D'' l' hB hv2 S => ?_
  obtain ⟨m, r, rfl, ho, k⟩ := hB.ex
  obtain ⟨t2, rfl⟩ := hv2
  cases ho with
  | add => exact add_int (q _ _ _ _ h' D'' (l.trans l') k ⟨_, rfl⟩ S)
  | sub => exact sub_int (q _ _ _ _ h' D'' (l.trans l') k ⟨_, rfl⟩ S)
theorem ek_subI (h : EvK e1 w u c ms ls (BiA .Sub e2 w u c ms K)) : EvK (.BinOp e1 .Sub e2 p) w u c ms ls K :=
  ⟨fun ok D Q s S q => wpAny_BinOp (h.go ok D _ s S fun a v al tk h' D' l hA hv S => int_go ok l hA hv S q)⟩
/-- lists, or tuples, one behind the other -/
inductive AddX (e2 : PySem.Expr) (w : World) (u : Un) (c : Cd) (ms : AM) (K : AV → AL → Prop) : AV → AL → Prop
  | lst {a : AV} {al : AL} (h : AddA e2 w u c ms K a al) : AddX e2 w u c ms K a al
  | tup {a : AV} {al : AL} (h : AddT e2 w u c ms K a al) : AddX e2 w u c ms K a al
  | int {a : AV} {al : AL} (h : BiA .Add e2 w u c ms K a al) : AddX e2 w u c ms K a al
theorem AddX.inI {n : Int} (h : EvK e2 w u c ms al (BiB .Add n K)) : AddX e2 w u c ms K (.i n) al := .int (.in h)
theorem AddX.inL {k : Nat} {us : List AV} (m1 : al[k]? = some (.lst us)) (h : EvK e2 w u c ms al (AddB k us K)) : AddX e2 w u c ms K (.r k) al := .lst (.in m1 h)
theorem AddX.inT {x y : AV} {as bs : List AV} (h : EvT e2 w u c ms al (.t (y :: bs))) (hz : as.length + bs.length ≤ 1000) (k : K (.t (x :: as ++ y :: bs)) al) : AddX e2 w u c ms K (.t (x :: as)) al := .tup (.in h hz k)
theorem ek_add (h : EvK e1 w u c ms ls (AddX e2 w u c ms K)) : EvK (.BinOp e1 .Add e2 p) w u c ms ls K := by
  refine ⟨fun ok D Q s S q => wpAny_BinOp (h.go ok D _ s S fun a v al tk h' D' l hA hv S => ?_)⟩
  cases hA with
  | lst hA => exact addL_go ok l hA hv S q
  | tup hA => exact addT_go ok l hA hv S q
  | int hA => exact int_go ok l hA hv S q
/-- a list's slice -/
noncomputable def SubL (e2 : PySem.Expr) : Prop := ∀ (o i : Value), subscripted e2 false o i = operate [i, o] (getItem o i)
theorem pick9 (us : List Value) : kms_pick us none (some 9) = us.take 9 := by
  unfold kms_pick kms_lo kms_hi
  simp only [List.drop_zero, Nat.sub_zero]
  show us.take (min 9 us.length) = _
  rw [← List.take_eq_take_min]
theorem pickF {us : List Value} {i : Nat} (hi : i ≤ us.length) : kms_pick us (some (i : Int)) none = us.drop i := by
  unfold kms_pick kms_lo kms_hi
  simp only []
  rw [if_neg (by omega), Int.toNat_natCast, Nat.min_eq_left hi]
  exact List.take_of_length_le (by simp)
theorem avs.take : ∀ {n : Nat} {as : List AV} {vs : List Value}, avs D as vs → avs D (as.take n) (vs.take n)
  | 0, _, _, _ => trivial
  | _ + 1, [], [], _ => trivial
  | _ + 1, _ :: _, _ :: _, ⟨h, g⟩ => ⟨h, avs.take g⟩
theorem avs.drop : ∀ {n : Nat} {as : List AV} {vs : List Value}, avs D as vs → avs D (as.drop n) (vs.drop n)
  | 0, _, _, h => by rw [List.drop_zero, List.drop_zero]; exact h
  | _ + 1, [], [], _ => trivial
  | n + 1, _ :: _, _ :: _, ⟨_, g⟩ => avs.drop (n := n) g
structure SlA (K : AV → AL → Prop) (f : List AV → List AV) (n : Nat) (a : AV) (al : AL) : Prop where
  ex : ∃ k us, a = .r k ∧ al[k]? = some (.lst us) ∧ n ≤ us.length ∧ us.length ≤ 16000 ∧ K (.r al.length) (al ++ [.lst (f us)])
theorem SlA.in {f : List AV → List AV} {k n : Nat} {us : List AV} (m1 : al[k]? = some (.lst us)) (hn : n ≤ us.length) (hz : us.length ≤ 16000) (h : K (.r al.length) (al ++ [.lst (f us)])) : SlA K f n (.r k) al := ⟨k, us, rfl, m1, hn, hz, h⟩
theorem ek_take9 {kk0 : Nat} (hs : SubL (.Slice none (some (.Constant (.int 9) kk0 p2)) none p3)) (h : EvK e1 w u c ms ls (SlA K (List.take 9) 0)) : EvK (.Subscript e1 (.Slice none (some (.Constant (.int 9) kk0 p2)) none p3) p) w u c ms ls K := by
  refine ⟨fun ok D Q s S q => Subscript_ (h.go ok D _ s S fun a v al tk h' D' l hA hv S => ?_)⟩
  obtain ⟨k, us, rfl, m1, _, hz, kk⟩ := hA.ex
  refine wpAny_Slice (wpAny_pure (wpAny_Constant_int (pos := p2) (k := kk0) (wpAny_pure ?_)))
  obtain ⟨m, F, hF⟩ := S.F
  obtain ⟨L, O⟩ := S.N.opn
  obtain ⟨x, vs, n, rfl, i, _, hvs⟩ := O.list hv m1
  refine kba_turn (s := { s with heap := _, toks := _ }) (value' := PySem.Expr.Name (PySem.Str.ofString "x") ⟨0, 0, 0, 0⟩) (fun _ => rfl) (kms_slice_lit (s := { s with heap := h', toks := tk + 1 }) (vl := .none) (vu := .int 9 tk) F O.N (News.isList O.N i) .none (.int _ _) (pick9 vs) (fun x h' F' N' lt => ?_) (hs _ _) (fun _ => rfl) (by rw [sizeLine_eq, List.size_toArray, avs_len hvs]; omega))
  obtain ⟨D3, l3, i3, S3⟩ := O.newL (c := c) hF F' N' lt (avs.take hvs)
  exact q _ _ _ _ h' D3 (l.trans l3) kk i3 S3
theorem ek_from {z : Int} (hs : SubL (.Slice (some e2) none none p3)) (h2 : ∀ al, EvT e2 w u c ms al (.i z)) (hz : 0 ≤ z) (h : EvK e1 w u c ms ls (SlA K (List.drop z.toNat) z.toNat)) : EvK (.Subscript e1 (.Slice (some e2) none none p3) p) w u c ms ls K := by
  refine ⟨fun ok D Q s S q => Subscript_ (h.go ok D _ s S fun a v al tk h' D' l hA hv S => ?_)⟩
  have ez : z = (z.toNat : Int) := by omega
  generalize z.toNat = i at ez hA
  subst ez
  obtain ⟨k, us, rfl, m1, hi, hz, kk⟩ := hA.ex
  refine wpAny_Slice ((h2 al).go ok D' _ { s with heap := h', toks := tk } S fun v2 tk h' D'' l' hv2 S => wpAny_pure (wpAny_pure ?_))
  obtain ⟨t, rfl⟩ := hv2
  obtain ⟨m, F, hF⟩ := S.F
  obtain ⟨L, O⟩ := S.N.opn
  obtain ⟨x, vs, n, rfl, ii, _, hvs⟩ := O.list (hv.mono l') m1
  refine kba_turn (s := { s with heap := _, toks := _ }) (value' := PySem.Expr.Name (PySem.Str.ofString "x") ⟨0, 0, 0, 0⟩) (fun _ => rfl) (kms_slice_lit (s := { s with heap := h', toks := tk }) (vl := .int i t) (vu := .none) F O.N (News.isList O.N ii) (.int _ _) .none (pickF (by rw [avs_len hvs]; exact hi)) (fun x h' F' N' lt => ?_) (hs _ _) (fun _ => rfl) (by rw [sizeLine_eq, List.size_toArray, avs_len hvs]; omega))
  obtain ⟨D3, l3, i3, S3⟩ := O.newL (c := c) hF F' N' lt (avs.drop hvs)
  exact q _ _ _ _ h' D3 (l.trans (l'.trans l3)) kk i3 S3
end
end
section
local macro_rules | `(tactic| walk_at "no such key") => `(tactic| fail)
theorem clr_Y11 : True := by
  w_top off
  trivial
variable {w : World} {A A₀ : Around} {base h₀ : Heap} {outer : List Env} {env : Env} {L : Addr} {m : Str → Option Value} {s : Shared} {Q E : Value → Shared → Prop} {mean : ExcName → Option Value} {mg mb : Str → Option Value}
section
open PySem.Spec
variable {w : World} {u : Un} {c : Cd} {ms : AM} {ls al : AL} {D : Dc} {a b : AV} {e e1 e2 e3 : PySem.Expr} {p p1 p2 p3 : Pos} {K : AV → AL → Prop} {sts rest : List Stmt} {KF : AF → AM → AL → Prop} {x y z : Str}
/-- a pair that is told apart -/
theorem ex_asgT {g : Tg} {elts : List PySem.Expr} {k : Nat} {tp : Pos} {es : PySem.Expr} (hg : g.ex = .Tuple elts k tp) (hi : c.inner = none) (hst : ∀ x ∈ g.nms, (c.fe u).kindOf x = some .local ∧ c.stands x = false) (hs : swapsWithSole [.Tuple elts k tp] es p.line (c.ev u) = pure false) (hw : swappedStores [.Tuple elts k tp] es (c.ev u) = pure none)
    (h : EvK es w u c ms ls (fun a al => g.fits a ∧ Ex rest w u c (g.am ms a) al KF)) : Ex (.Assign [.Tuple elts k tp] es p :: rest) w u c ms ls KF := by
  refine ⟨fun ok D Q s S q => wpAny_execs_cons (Assign_Tuple (h.go ok D _ s S fun a v al tk h' D' l k hv S => ?_) hs hw)⟩
  obtain ⟨fit, k⟩ := k
  obtain ⟨m, F, hF⟩ := S.F
  have hl : (c.ev u).locals = u.L := by rw [Cd.ev_none hi]
  rw [← hg]
  refine Tg.assign (s := { s with heap := h', toks := tk }) (fun x hx => by rw [Cd.ev_none hi]; exact (hst x hx).1) (by rw [Cd.ev_none hi]; show (c.sc.kind == .class || (c.sc.kind == .module && _)) = false; rw [ok.k]; rfl) ok.ok.hh fit hv S.N (by rw [hl]; exact F.ns) fun h₅ tk₅ m₅ n₅ o₅ b₅ k₅ => ?_
  rw [hl] at n₅ k₅
  have F₅ : Fr u.h₀ u.L h₅ m₅ := ⟨n₅, fun b o e => k₅ b o (Nat.ne_of_lt (Nat.lt_of_lt_of_le (Heap.lt_size e) F.above)) (F.keep b o e), F.above⟩
  obtain ⟨L, O⟩ := S.N.opn
  have N₅ : Nw w u D' h₅ al := O.keep fun q hq => ⟨k₅ _ _ (O.N q hq).2.1 (O.N q hq).1, (O.N q hq).2⟩
  refine k.go ok D' Q { s with heap := h₅, toks := tk₅ } ⟨⟨m₅, F₅, fun x b e => ?_⟩, N₅⟩ fun f fl m' al' tk h' D'' l' => q f fl m' al' tk h' D'' (l.trans l')
  rw [Tg.am_app fit, lookup_app] at e
  cases hx : (g.am [] a).lookup x with
  | some b' =>
    rw [hx] at e; cases e
    obtain ⟨v', e', hb'⟩ := b₅ x b hx
    refine ⟨v', ?_, hb'⟩
    have hin' : x ∈ g.nms := by
      false_or_by_contra
      rename_i hn
      cases g with
      | name y p => rw [show (Tg.am [] (.name y p) a) = [(y, a)] from rfl, List.lookup_cons, show (x == y) = false from by simpa [Tg.nms] using hn] at hx; cases hx
      | pair y z p1 p2 kk p =>
        obtain ⟨b1, b2, e2⟩ := fit
        have hn' : x ≠ y ∧ x ≠ z := by simpa [Tg.nms] using hn
        rw [e2, show (Tg.am [] (.pair y z p1 p2 kk p) (.t [b1, b2])) = [(z, b2), (y, b1)] from rfl, List.lookup_cons, show (x == z) = false from by simpa using hn'.2, List.lookup_cons, show (x == y) = false from by simpa using hn'.1] at hx
        cases hx
    rw [rdn_off (hst x hin').2]; exact e'
  | none =>
    rw [hx] at e
    obtain ⟨v', e', hb'⟩ := hF x b e
    refine ⟨v', ?_, hb'⟩
    rw [← e']
    unfold rdn
    rw [o₅ x (Tg.look_none hx fit)]
/-- names stored from the last to the first -/
theorem bindRev {A : Around} {Q : Unit → Shared → Prop} (ok : Ok3 w u c) (hi : c.inner = none) (names : List Str) : ∀ {vs : List Value} {as : List AV} {ms : AM} {s : Shared}, (∀ x ∈ names, (c.fe u).kindOf x = some .local ∧ c.stands x = false) → names.length = vs.length → avs D as vs → St0 w u c D s.heap ms al →
    (∀ h' tk, St0 w u c D h' ((names.zip as).reverse ++ ms) al → Q () { s with heap := h', toks := tk }) → wpAny (MM w) A (assignInOrder (names.map fun n => bindName (c.ev u) n) vs) Q NoE s := by
  induction names with
  | nil =>
    intro vs as ms s _ hl _ S q
    cases vs with
    | nil => exact assignInOrder_nil (q s.heap s.toks S)
    | cons v vs => cases hl
  | cons x names ih =>
    intro vs as ms s hst hl hvs S q
    cases vs with
    | nil => cases hl
    | cons v vs =>
      cases as with
      | nil => exact hvs.elim
      | cons a as =>
        obtain ⟨hv, hvs⟩ := hvs
        refine assignInOrder_cons (wpAny_bindName ?_)
        obtain ⟨m, F, hF⟩ := S.F
        obtain ⟨L, O⟩ := S.N.opn
        have k' : ∀ h'', Fr u.h₀ u.L h'' (fun y => if y = x then some v else m y) → News u.h₀ u.L h'' L → wpAny (MM w) A (assignInOrder (names.map fun n => bindName (c.ev u) n) vs) Q NoE { s with heap := h'', toks := s.toks + 1 } := fun h'' F'' N'' =>
          ih (s := { s with heap := h'', toks := s.toks + 1 }) (fun y hy => hst y (.tail _ hy)) (Nat.succ.inj hl) hvs (ms := (x, a) :: ms) ⟨frA_set F'' (hst x (.head _)).2 hv hF, O.keep N''⟩ fun h' tk S => q h' tk (by rw [List.zip_cons_cons, List.reverse_cons, List.append_assoc]; exact S)
        rw [Cd.ev_none hi] at k' ⊢
        exact storeX_L F O.N k' ok.k (hst x (.head _)).1
theorem ex_swap {names : List Str} {elts : List PySem.Expr} {k : Nat} {tp : Pos} {es : PySem.Expr} (hi : c.inner = none) (hst : ∀ x ∈ names, (c.fe u).kindOf x = some .local ∧ c.stands x = false) (hs : swapsWithSole [.Tuple elts k tp] es p.line (c.ev u) = pure false) (hw : swappedStores [.Tuple elts k tp] es (c.ev u) = pure (some names))
    (h : EvK es w u c ms ls (fun a al => ∃ as, a = .t as ∧ as.length = names.length ∧ Ex rest w u c (names.zip as ++ ms) al KF)) : Ex (.Assign [.Tuple elts k tp] es p :: rest) w u c ms ls KF := by
  refine ⟨fun ok D Q s S q => wpAny_execs_cons (Assign_Tuple_swapped (h.go ok D _ s S fun a v al tk h' D' l k hv S => ?_) hs hw)⟩
  obtain ⟨as, rfl, hl, k⟩ := k
  obtain ⟨T, vs, rfl, hT, hvs⟩ := hv
  obtain ⟨m, F, hF⟩ := S.F
  obtain ⟨L, O⟩ := S.N.opn
  have hlv := avs_len hvs
  refine unpackItemsN_ F O.N (News.isTup O.N (O.tup _ hT)) ok.ok.hh (by rw [List.size_toArray, hlv, hl]) fun h'' F'' N'' => ?_
  have rev : ∀ {as : List AV} {vs : List Value}, avs D' as vs → avs D' as.reverse vs.reverse := by
    intro as
    induction as with
    | nil => intro vs h; match vs, h with | [], _ => exact trivial
    | cons a as ih =>
      intro vs h
      match vs, h with
      | v :: vs, ⟨h1, h2⟩ => rw [List.reverse_cons, List.reverse_cons]; exact avs_app (ih h2) ⟨h1, trivial⟩
  have hz : (names.reverse.zip as.reverse).reverse = names.zip as := by
    have e : names.reverse.zip as.reverse = (names.zip as).reverse := by
      rw [List.zip_eq_zipWith, List.zip_eq_zipWith]
      exact (List.reverse_zipWith hl.symm).symm
    rw [e, List.reverse_reverse]
  refine bindRev (s := { s with heap := h'', toks := tk }) ok hi _ (fun x hx => hst x (List.mem_reverse.mp hx)) (by rw [List.length_reverse, List.length_reverse, ← hl, ← hlv]) (rev hvs) (ms := ms) ⟨⟨m, F'', hF⟩, O.keep N''⟩ fun h3 tk3 S3 => ?_
  rw [hz] at S3
  exact k.go ok D' Q { s with heap := h3, toks := tk3 } S3 fun f fl m' al' tk h' D'' l' => q f fl m' al' tk h' D'' (l.trans l')
/-- o[i] = e -/
structure LSt (o i : PySem.Expr) (rest : List Stmt) (w : World) (u : Un) (c : Cd) (ms : AM) (KF : AF → AM → AL → Prop) (a : AV) (al : AL) : Prop where
  ex : ∃ k us n, EvT o w u c ms al (.r k) ∧ EvT i w u c ms al (.i n) ∧ al[k]? = some (.lst us) ∧ 0 ≤ n ∧ n < us.length ∧ us.length ≤ 1000 ∧ Ex rest w u c ms (al.set k (.lst (us.set n.toNat a))) KF
theorem LSt.in {k : Nat} {us : List AV} {n : Int} {o i : PySem.Expr} (h1 : EvT o w u c ms al (.r k)) (h2 : EvT i w u c ms al (.i n)) (m : al[k]? = some (.lst us)) (n0 : 0 ≤ n) (n1 : n < us.length) (hz : us.length ≤ 1000) (h : Ex rest w u c ms (al.set k (.lst (us.set n.toNat a))) KF) : LSt o i rest w u c ms KF a al := ⟨k, us, n, h1, h2, m, n0, n1, hz, h⟩
theorem ex_lset {o i es : PySem.Expr} (hs : swapsWith es (some (.Subscript o i p1)) p.line (c.ev u) = pure false) (h : EvK es w u c ms ls (LSt o i rest w u c ms KF)) : Ex (.Assign [.Subscript o i p1] es p :: rest) w u c ms ls KF := by
  refine ⟨fun ok D Q s S q => wpAny_execs_cons (wpAny_Assign_Subscript (h.go ok D _ s S fun a v al tk h' D' l hA hv S => ?_) hs)⟩
  obtain ⟨k, us, n, h1, h2, m1, n0, n1, hz, kk⟩ := hA.ex
  refine h1.go ok D' _ { s with heap := h', toks := tk } S fun v1 tk h' D'' l' hv1 S => h2.go ok D'' _ { s with heap := h', toks := tk } S fun v2 tk h' D3 l3 hv2 S => ?_
  obtain ⟨t, rfl⟩ := hv2
  obtain ⟨m, F, hF⟩ := S.F
  exact Nw.lset (s := { s with heap := h', toks := tk }) F S.N (hv1.mono l3) (hv.mono (l'.trans l3)) m1 n0 n1 hz fun h4 F4 N4 => kk.go ok D3 Q { s with heap := h4, toks := tk } ⟨⟨m, F4, hF⟩, N4⟩ fun f fl m' al' tk h' D'' l' => q f fl m' al' tk h' D'' (l.trans (Dc.Le.trans ‹_› (l3.trans ‹_›)))
theorem ex_sdset {o i es : PySem.Expr} {k : Nat} {n : Int} {ks : List (Str × Int)} {key : Str} (hs : swapsWith es (some (.Subscript o i p1)) p.line (c.ev u) = pure false) (h : EvT es w u c ms ls (.i n)) (h1 : EvT o w u c ms ls (.r k)) (h2 : EvT i w u c ms ls (.s key)) (m1 : ls[k]? = some (.sd ks)) (hl : (ks.lookup key).isSome = true) (hz : ks.length ≤ 1000)
    (kk : Ex rest w u c ms (ls.set k (.sd (putI key n ks))) KF) : Ex (.Assign [.Subscript o i p1] es p :: rest) w u c ms ls KF := by
  refine ⟨fun ok D Q s S q => wpAny_execs_cons (wpAny_Assign_Subscript (h.go ok D _ s S fun v tk h' D' l hv S => ?_) hs)⟩
  obtain ⟨t, rfl⟩ := hv
  refine h1.go ok D' _ { s with heap := h', toks := tk } S fun v1 tk h' D'' l' hv1 S => h2.go ok D'' _ { s with heap := h', toks := tk } S fun v2 tk h' D3 l3 hv2 S => ?_
  obtain ⟨t2, rfl⟩ := hv2
  obtain ⟨m, F, hF⟩ := S.F
  exact Nw.sdset (s := { s with heap := h', toks := tk }) F S.N (hv1.mono l3) m1 hl hz fun h4 F4 N4 => kk.go ok D3 Q { s with heap := h4, toks := tk + 1 } ⟨⟨m, F4, hF⟩, N4⟩ fun f fl m' al' tk h' D'' l' => q f fl m' al' tk h' D'' (l.trans (Dc.Le.trans ‹_› (l3.trans ‹_›)))
end
end
section
theorem clr_Y12 : True := by
  w_top off
  trivial
variable {w : World} {A A₀ : Around} {base h₀ : Heap} {outer : List Env} {env : Env} {L : Addr} {m : Str → Option Value} {s : Shared} {Q E : Value → Shared → Prop} {mean : ExcName → Option Value} {mg mb : Str → Option Value}
section
open PySem.Spec
variable {w : World} {u : Un} {c : Cd} {ms : AM} {ls al : AL} {D : Dc} {a b : AV} {e e1 e2 e3 : PySem.Expr} {p p1 p2 p3 : Pos} {K : AV → AL → Prop} {sts rest : List Stmt} {KF : AF → AM → AL → Prop} {x y z : Str}
theorem Dc.Le.push2 {a b : Addr} : D.Le ((D.push a).push b) := Dc.le_push.trans Dc.le_push
/-- a class is called: its dict and the object are the new slots -/
theorem cls_w {C fI : Addr} {as : List AV} (hm : makesIn (hd.heap_39 w.params) C = true) (hi : findIn (hd.heap_39 w.params) (.ref C) "__init__" = some (some (.ref fI))) (hf : isFn (hd.heap_39 w.params) (.ref fI) = true)
    (H : ∀ u' : Un, u'.d = u.d + 2 → CodeW w u' (al ++ [.dct [], .inst C al.length]) (.ref fI) (.r (al.length + 1) :: as) (fun a al' => a = .v .none ∧ K (.r (al.length + 1)) al')) : CallW w u al (.ref C) as K := by
  refine ⟨fun ok D vs hvs m Q s F N q => ?_⟩
  obtain ⟨led, O⟩ := N
  obtain ⟨B, X, T, hh, hA, hf2, hk, hdp, hun⟩ := id ok
  refine call_cls F X O.N hm hi hf fun x dx h' F' N' lt1 lt2 => ?_
  have hlen := led_len O.is
  have O1 : LedOk w u (D.push dx) h' (al ++ [.dct []]) (led ++ [(dx, dictOf [] 0)]) := O.push (fun q hq => N' q (.tail _ hq)) (fun p hp => Nat.ne_of_lt (lt1 p hp)) ⟨[], 0, rfl, trivial⟩
  have hx : (((D.push dx).push x).ad)[al.length]? = some (some dx) := by
    show ((D.ad ++ [some dx]) ++ [some x])[al.length]? = _
    rw [← hlen, List.append_assoc, List.getElem?_append_right (Nat.le_refl _), Nat.sub_self]; rfl
  have hx2 : (((D.push dx).push x).ad)[al.length + 1]? = some (some x) := by
    show ((D.ad ++ [some dx]) ++ [some x])[al.length + 1]? = _
    rw [← hlen, List.append_assoc, List.getElem?_append_right (by omega), show D.ad.length + 1 - D.ad.length = 1 from by omega]; rfl
  have O2 : LedOk w u ((D.push dx).push x) h' ((al ++ [.dct []]) ++ [.inst C al.length]) ((led ++ [(dx, dictOf [] 0)]) ++ [(x, instObj C dx)]) := O1.push (fun q hq => by
    rcases List.mem_cons.mp hq with rfl | hq
    · exact N' _ (.head _)
    · exact O1.N q hq) (fun p hp => by
    rcases List.mem_append.mp hp with hp | hp
    · rcases List.mem_append.mp hp with hp | hp
      · exact Nat.ne_of_lt (Nat.lt_trans (lt1 p (List.mem_append_left _ hp)) lt2)
      · rw [List.mem_singleton.mp hp]; exact Nat.ne_of_lt lt2
    · exact Nat.ne_of_lt (Nat.lt_trans (lt1 p (List.mem_append_right _ hp)) lt2)) ⟨dx, hx, rfl⟩
  rw [List.append_assoc] at O2
  have hu : Un.Ok w { u with A := u.A.under (.builtin "type.__call__" ⟨.ref C :: vs, []⟩), d := u.d + 2 } :=
    ⟨B, X, T, hh, by show (u.A.under _).frames = some (u.en :: u.outer); unfold Around.under; dsimp only; rw [hA]; rfl, hf2, hk, by show u.A.depth + 1 ≤ u.d + 2; omega, by show u.A.units + 3 * 0 + 1 ≤ u.d + 2; omega⟩
  refine (H { u with A := u.A.under (.builtin "type.__call__" ⟨.ref C :: vs, []⟩), d := u.d + 2 } rfl).go hu ((D.push dx).push x) (.ref x :: vs) ⟨⟨x, hx2, rfl⟩, avs.mono Dc.Le.push2 hvs⟩ m _ { s with heap := h' } F' ⟨_, O2.is, O2.nd, O2.off, O2.offT, O2.N⟩ fun a v al' tk h'' D' l k hv F'' N'' => ?_
  obtain ⟨rfl, k⟩ := k
  cases hv
  exact ⟨rfl, q _ _ al' tk h'' D' (Dc.Le.push2.trans l) k ⟨x, l.ad _ _ hx2, rfl⟩ F'' (let ⟨led, b1, b2, b3, b4, b5⟩ := N''; ⟨led, b1, b2, b3, b4, b5⟩)⟩
/-- a call enters the body of a def that has cells: parameters that a comprehension reads -/
theorem lookup_snoc {α : Type} {x y : Str} {v : α} : ∀ {l : List (Str × α)}, (l ++ [(y, v)]).lookup x = (match l.lookup x with | some a => some a | none => if x = y then some v else none)
  | [] => by
    rw [List.nil_append, List.lookup_cons]
    by_cases h : x = y
    · subst h; rw [beq_self_eq_true]; exact (if_pos rfl).symm
    · rw [show (x == y) = false from by simpa using h]; exact (if_neg h).symm
  | (z, b) :: r => by
    rw [List.cons_append, List.lookup_cons, List.lookup_cons]
    cases (x == z) with
    | true => rfl
    | false => exact lookup_snoc
theorem bindL_look {kd : Str → Option NameKind} {x : Str} (hx : kd x = some .local) : ∀ {bs : List (Str × Value)} {m : Str → Option Value}, bindL kd bs m x = (match bs.reverse.lookup x with | some v => some v | none => m x)
  | [], m => rfl
  | (n, v) :: r, m => by
    unfold bindL
    rw [bindL_look hx, List.reverse_cons, lookup_snoc]
    cases r.reverse.lookup x with
    | some v' => rfl
    | none =>
      dsimp only
      by_cases e : x = n
      · subst e; simp [hx]
      · rw [if_neg e]; split
        · exact if_neg e
        · rfl
theorem bindC_look {kd : Str → Option NameKind} {x : Str} (hx : kd x ≠ some .local) : ∀ {bs : List (Str × Value)} {m : Str → Option Value}, bindC kd bs m x = (match bs.reverse.lookup x with | some v => some v | none => m x)
  | [], m => rfl
  | (n, v) :: r, m => by
    unfold bindC
    rw [bindC_look hx, List.reverse_cons, lookup_snoc]
    cases r.reverse.lookup x with
    | some v' => rfl
    | none =>
      dsimp only
      by_cases e : x = n
      · subst e; simp [hx]
      · rw [if_neg e]; split
        · rfl
        · exact if_neg e
theorem cells_at {cm : Str → Option Value} {x : Str} {ca : Addr} : ∀ {cs : List (Str × Addr)} {cells : List (Addr × Obj)}, CellsAre cm cs cells → cs.lookup x = some ca → ∃ o, (ca, o) ∈ cells ∧ o.data = .cell (cm x) := by
  intro cs cells X
  induction X with
  | nil => intro e; cases e
  | @cons n c o cs cells hd _ ih =>
    intro e
    rw [List.lookup_cons] at e
    cases hb : x == n with
    | true => rw [hb] at e; cases e; rw [eq_of_beq hb]; exact ⟨o, .head _, hd⟩
    | false => rw [hb] at e; obtain ⟨o', hm, h⟩ := ih e; exact ⟨o', .tail _ hm, h⟩
theorem cells_above : ∀ {names : List (Str × NameKind)} {n k : Nat} {acc : List (Str × Addr)}, k ≤ n → (∀ q ∈ acc, (k : Nat) ≤ q.2) → ∀ q ∈ cellsFrom n names acc, (k : Nat) ≤ q.2
  | [], _, _, _, _, h => h
  | (name, kind) :: r, n, k, acc, hn, h => by
    unfold cellsFrom
    split
    · exact cells_above (Nat.le_succ_of_le hn) fun q hq => by
        rcases List.mem_cons.mp hq with rfl | hq
        · exact hn
        · exact h q hq
    · exact cells_above hn h
theorem cells_keys {cm : Str → Option Value} : ∀ {cs : List (Str × Addr)} {cells : List (Addr × Obj)}, CellsAre cm cs cells → ∀ p ∈ cells, ∃ q ∈ cs, p.1 = q.2 := by
  intro cs cells X
  induction X with
  | nil => intro p hp; cases hp
  | @cons n c o cs cells hd _ ih =>
    intro p hp
    rcases List.mem_cons.mp hp with rfl | hp
    · exact ⟨_, .head _, rfl⟩
    · obtain ⟨q, hq, e⟩ := ih p hp; exact ⟨q, .tail _ hq, e⟩
theorem mem_of_look {α : Type} {x : Str} {a : α} : ∀ {l : List (Str × α)}, l.lookup x = some a → (x, a) ∈ l
  | (y, b) :: r, h => by
    rw [List.lookup_cons] at h
    by_cases e : x = y
    · subst e; rw [beq_self_eq_true] at h; cases h; exact .head _
    · rw [show (x == y) = false from by simpa using e] at h; exact .tail _ (mem_of_look h)
theorem enterC {f : Addr} {name qual : Str} {params : Arguments} {body : List Stmt} {scope : Scope} {dV kV doc pm cdv ct oc : Value} {an od : Option Addr} {osl : Array (Option Value)} {as : List AV}
    (hl : List.lookup f (hd.heap_39 w.params) = some ⟨oc, od, .func (fnOf name qual params body scope dV kV doc pm an cdv ct), osl⟩) (hc : codeIn (hd.heap_39 w.params) cdv qual = true)
    (hb : ∀ vs : List Value, vs.length = as.length → bindArgs (fnOf name qual params body scope dV kV doc pm an cdv ct) ⟨vs, []⟩ = pure ((params.args.map (·.arg)).zip vs))
    (hn : ((params.args.map (·.arg)).all fun x => decide (scope.names.lookup x = some (if ((cellsFrom 0 scope.names []).map (·.1)).contains x then .cell else .local))) = true) (hnc : (((cellsFrom 0 scope.names []).map (·.1)).all fun x => decide (scope.names.lookup x = some .cell)) = true) (hnd : ((cellsFrom 0 scope.names []).map (·.1)).Nodup)
    (hd : u.d < 900) (k1 : scope.isCoroutine = false) (k2 : scope.isGenerator = false) (k3 : scope.kind = .function)
    (H : ∀ u' : Un, u'.d = u.d + 3 → u'.cl = cellsFrom (u'.L + 1) scope.names [] → Ex body w u' ⟨qual, scope, f, cdv, none, (cellsFrom 0 scope.names []).map (·.1), []⟩ ((params.args.map (·.arg)).zip as).reverse al (fin K)) :
    CodeW w u al (.ref f) as K := by
  have hnd' := hnd
  generalize (cellsFrom 0 scope.names []).map (·.1) = nc at hn hnc H
  refine ⟨fun ok D vs hvs m R s F N h => ?_⟩
  obtain ⟨led, O⟩ := N
  obtain ⟨B, X, T, hh, hA, hf, hk, hdp, hun⟩ := id ok
  have hkd : ∀ y ∈ (params.args.map (·.arg)).zip vs, scope.names.lookup y.1 = some (if nc.contains y.1 then .cell else .local) := fun y hy => of_decide_eq_true (List.all_eq_true.mp hn y.1 (List.of_mem_zip hy).1)
  refine code_defC B F X O.N T hA hf hk hl hc (Nat.lt_of_le_of_lt hdp (Nat.lt_trans hd (by decide))) (BindsTo.of_eq (hb vs (avs_len hvs))) (List.all_eq_true.mpr fun y hy => ?_) hnd (fun g L' h₁ tk₁ cells FG F1 N1 CA B1 X1 T1 lt => ?_) k1 k2 k3
  · rw [hkd y hy]; cases nc.contains y.1 <;> rfl
  · have hnv : ∀ x, (bindC (envOfC qual scope L' f cdv).kindOf ((params.args.map (·.arg)).zip vs) fun _ => none) x = bindC (envOfC qual scope L' f cdv).kindOf ((params.args.map (·.arg)).zip vs) (fun _ => none) x := fun _ => rfl
    have hce : ∀ x ∈ nc, scope.names.lookup x = some .cell := fun x hx => of_decide_eq_true (List.all_eq_true.mp hnc x hx)
    have hoff : ∀ q ∈ led ++ (D.T ++ u.fz), ∀ p ∈ cells, q.1 ≠ p.1 := fun q hq p hp e => by
      obtain ⟨r, hr, e2⟩ := cells_keys CA p hp
      have h1 := lt q hq
      have h2 := cells_above (acc := []) (k := L' + 1) (Nat.le_refl _) (fun _ h => nomatch h) r hr
      rw [e, e2] at h1
      exact Nat.lt_irrefl _ (Nat.lt_of_lt_of_le h1 (Nat.le_of_succ_le h2))
    have hu : Un.Ok w ⟨u.A.deeper (envOfC qual scope L' f cdv), u.A, u.base, g, u.en :: u.outer, envOfC qual scope L' f cdv, L', u.mean, u.mg, u.mb, u.d + 3, cells ++ u.fz, cellsFrom (L' + 1) scope.names [], [], 0, bindC (envOfC qual scope L' f cdv).kindOf ((params.args.map (·.arg)).zip vs) fun _ => none⟩ :=
      ⟨B1, X1, T1, hh, by show Option.map _ _ = _; rw [hA]; rfl, rfl, k3, by show u.A.depth + 1 ≤ u.d + 3; omega, by show u.A.units + 3 ≤ u.d + 3; omega⟩
    refine wpAny_mono ((H _ rfl rfl).go ⟨hu, rfl, k3, (fun _ h => nomatch h), (fun x hx => ?_), fun h => absurd rfl h⟩ D _ { s with heap := h₁, toks := tk₁ } ⟨⟨_, F1, fun x a e => ?_⟩, led, O.is, O.nd, fun q hq p hp => ?_, fun q hq p hp => ?_, fun q hq => ?_⟩ fun fl v m' al' tk h' D' l hK hfl S2 => ?_) (fun _ _ x => x) (fun _ _ x => x.elim)
    · have hs := cellsFrom_some scope.names (L' + 1) [] (.inl (hce x hx))
      obtain ⟨ca, hca⟩ := Option.isSome_iff_exists.mp hs
      obtain ⟨o, hm, hd⟩ := cells_at CA hca
      exact ⟨ca, o, hca, List.mem_append_left _ hm, hd⟩
    · obtain ⟨v, e', i⟩ := (bindsIs.zip hvs).reverse.lookup e
      refine ⟨v, ?_, i⟩
      have hm := mem_of_look e'
      have hk' := hkd (x, v) (List.mem_reverse.mp hm)
      unfold rdn
      show (if (nc ++ []).contains x = true then _ else _) = _
      rw [List.append_nil]
      cases hcx : nc.contains x with
      | true =>
        rw [hcx] at hk'
        rw [if_pos rfl]
        refine (bindC_look (fun q => ?_)).trans (by rw [e'])
        have q' : scope.names.lookup x = some .local := q
        rw [hk'] at q'; cases q'
      | false =>
        rw [hcx] at hk'
        rw [if_neg Bool.false_ne_true]
        exact (bindL_look (show scope.names.lookup x = some .local from hk')).trans (by rw [e'])
    · rcases List.mem_append.mp hp with hp | hp
      · exact O.off q hq p (List.mem_append_left _ hp)
      · rcases List.mem_append.mp hp with hp | hp
        · exact hoff q (List.mem_append_left _ hq) p hp
        · exact O.off q hq p (List.mem_append_right _ hp)
    · rcases List.mem_append.mp hp with hp | hp
      · exact hoff q (List.mem_append_right _ (List.mem_append_left _ hq)) p hp
      · exact O.offT q hq p hp
    · refine N1 q ?_
      rcases List.mem_append.mp hq with hq | hq
      · exact List.mem_append_right _ (List.mem_append_left _ hq)
      · rcases List.mem_append.mp hq with hq | hq
        · exact List.mem_append_right _ (List.mem_append_right _ (List.mem_append_left _ hq))
        · rcases List.mem_append.mp hq with hq | hq
          · exact List.mem_append_left _ hq
          · exact List.mem_append_right _ (List.mem_append_right _ (List.mem_append_right _ hq))
    · obtain ⟨m2, F2, _⟩ := S2.F
      obtain ⟨led2, is2, nd2, off2, offT2, N2⟩ := S2.N
      have back : ∀ {h3 : Heap}, News u.h₀ u.L h3 (led2 ++ (D'.T ++ u.fz)) → Nw w u D' h3 al' := fun N3 => ⟨led2, is2, nd2, fun q hq p hp => by
        rcases List.mem_append.mp hp with hp | hp
        · exact off2 q hq p (List.mem_append_left _ hp)
        · exact off2 q hq p (List.mem_append_right _ (List.mem_append_right _ hp)), fun q hq p hp => offT2 q hq p (List.mem_append_right _ hp), N3⟩
      refine ⟨L', m2, led2 ++ (D'.T ++ u.fz), F2, fun q hq => N2 q ?_, fun F3 N3 => ?_⟩
      · rcases List.mem_append.mp hq with hq | hq
        · exact List.mem_append_left _ hq
        · rcases List.mem_append.mp hq with hq | hq
          · exact List.mem_append_right _ (List.mem_append_left _ hq)
          · exact List.mem_append_right _ (List.mem_append_right _ (List.mem_append_right _ hq))
      · cases fl with
        | next => cases hfl; exact h _ _ _ _ _ D' l hK rfl F3 (back N3)
        | ret a => obtain ⟨v', rfl, hv⟩ := hfl; exact h _ _ _ _ _ D' l hK hv F3 (back N3)
end
end
section
local macro_rules | `(tactic| walk_at "no such key") => `(tactic| fail)
theorem clr_Y13 : True := by
  w_top off
  trivial
variable {w : World} {A A₀ : Around} {base h₀ : Heap} {outer : List Env} {env : Env} {L : Addr} {m : Str → Option Value} {s : Shared} {Q E : Value → Shared → Prop} {mean : ExcName → Option Value} {mg mb : Str → Option Value}
section
open PySem.Spec
variable {w : World} {u : Un} {c : Cd} {ms : AM} {ls al : AL} {D : Dc} {a b : AV} {e e1 e2 e3 e4 : PySem.Expr} {p p1 p2 p3 : Pos} {K : AV → AL → Prop} {sts rest : List Stmt} {KF : AF → AM → AL → Prop} {x y z : Str}
noncomputable def optA : Option Int → AV
  | some n => .i n
  | none => .v .none
theorem hel_of {hv : Option Int} {v : Option Value} (h : ∃ t, v = hv.map fun i => Value.int i t) : (optA hv).Is D (v.getD .none) := by
  obtain ⟨t, rfl⟩ := h
  cases hv with
  | none => rfl
  | some n => exact ⟨t, rfl⟩
/-- held.get(k), held.get(k, d) -/
theorem ev_hget1 {k : Nat} {hv : Int → Option Int} {n : Int} {o : PySem.Expr} (h1 : EvT o w u c ms ls (.r k)) (m1 : ls[k]? = some (.hel hv)) (h2 : EvT e1 w u c ms ls (.i n)) (s1 : ∀ env, starEach [e1] env = [(false, eval e1 env)]) (pl : Sem Bool)
    (he : eval (.Call (.Attribute o "get" p3) [e1] [] p) (c.ev u) = (do
      let ov ← eval o (c.ev u)
      standAt p3.atName
      let (f, first) ← holding [ov] (getMethod ov "get" pl)
      callWith p f first (backTo p (starEach [e1] (c.ev u))) [])) : EvT (.Call (.Attribute o "get" p3) [e1] [] p) w u c ms ls (optA (hv n)) := by
  refine ⟨fun ok D Q s S q => MethodCall_ (pl := pl) (h1.go ok D _ s S fun v tk h' D' l hv' S => ?_) he⟩
  obtain ⟨L, O⟩ := S.N.opn
  obtain ⟨x, ha, rfl⟩ := hv'
  obtain ⟨o, ⟨lo, kvs, hd, hk⟩, i⟩ := O.obj ha m1
  refine kdg_method (s := { s with heap := h', toks := tk }) O.N i hd ?_
  refine callWith_method1 ((ar_cons h2 ar_nil s1).go ok D' p _ _ S fun vs tk h' D'' l' hvs S => ?_) (s1 _) rfl
  match vs, hvs with
  | [v], ⟨⟨t, e⟩, _⟩ =>
    subst e
    obtain ⟨L, O⟩ := S.N.opn
    obtain ⟨o, ⟨lo, kvs, hd, hk⟩, i⟩ := O.obj (l'.ad _ _ ha) m1
    exact kdg_get1 (s := { s with heap := h', toks := tk }) O.N i hd lo (intKind_is _ _ _ _) _ rfl (q _ _ h' D'' (l.trans l') (hel_of (hk n)) S)
theorem ev_hget2 {k : Nat} {hv : Int → Option Int} {n d : Int} {o : PySem.Expr} (h1 : EvT o w u c ms ls (.r k)) (m1 : ls[k]? = some (.hel hv)) (h2 : EvT e1 w u c ms ls (.i n)) (h3 : EvT e2 w u c ms ls (.i d)) (s1 : ∀ env, starEach [e1, e2] env = (false, eval e1 env) :: starEach [e2] env) (s2 : ∀ env, starEach [e2] env = [(false, eval e2 env)]) (pl : Sem Bool)
    (he : eval (.Call (.Attribute o "get" p3) [e1, e2] [] p) (c.ev u) = (do
      let ov ← eval o (c.ev u)
      standAt p3.atName
      let (f, first) ← holding [ov] (getMethod ov "get" pl)
      callWith p f first (backTo p (starEach [e1, e2] (c.ev u))) [])) : EvT (.Call (.Attribute o "get" p3) [e1, e2] [] p) w u c ms ls (.i ((hv n).getD d)) := by
  refine ⟨fun ok D Q s S q => MethodCall_ (pl := pl) (h1.go ok D _ s S fun v tk h' D' l hv' S => ?_) he⟩
  obtain ⟨L, O⟩ := S.N.opn
  obtain ⟨x, ha, rfl⟩ := hv'
  obtain ⟨o, ⟨lo, kvs, hd, hk⟩, i⟩ := O.obj ha m1
  refine kdg_method (s := { s with heap := h', toks := tk }) O.N i hd ?_
  refine callWith_method1 ((ar_cons h2 (ar_cons h3 ar_nil s2) s1).go ok D' p _ _ S fun vs tk h' D'' l' hvs S => ?_) (s1 _) (by rw [s2]; rfl)
  match vs, hvs with
  | [v1, v2], ⟨⟨t, e⟩, ⟨t2, e2⟩, _⟩ =>
    subst e e2
    obtain ⟨L, O⟩ := S.N.opn
    obtain ⟨o, ⟨lo, kvs, hd, hk⟩, i⟩ := O.obj (l'.ad _ _ ha) m1
    refine kdg_get2 (s := { s with heap := h', toks := tk }) O.N i hd lo (intKind_is _ _ _ _) _ rfl (q _ _ h' D'' (l.trans l') ?_ S)
    obtain ⟨t3, e3⟩ := hk n
    rw [e3]
    cases hv n with
    | none => exact ⟨t2, rfl⟩
    | some i => exact ⟨t3, rfl⟩
/-- builtins over a list of ints -/
theorem ints_are : ∀ {ns : List Int} {vs : List Value}, avs D (ns.map .i) vs → IntsAre vs ns
  | [], [], _ => .nil
  | n :: ns, _ :: vs, ⟨⟨t, e⟩, h⟩ => by subst e; exact .cons _ _ (ints_are h)
theorem max_w {k : Nat} {ns : List Int} (m : al[k]? = some (.lst (ns.map .i))) (h0 : 0 < ns.length) (hK : ∀ M, M ∈ ns → (∀ a ∈ ns, a ≤ M) → K (.i M) al) : CallW w u al (.builtin "max") [.r k] K := by
  refine ⟨fun ok D vs hvs m' Q s F N q => ?_⟩
  match vs, hvs with
  | [v], ⟨hv, _⟩ =>
    obtain ⟨L, O⟩ := N.opn
    obtain ⟨x, vs, n, rfl, i, ha, hvs⟩ := O.list hv m
    exact max_list_N ok.hh F O.N (News.isList O.N i) (ints_are hvs) h0 fun h' M t tk F' N' h1 h2 => q _ _ al tk h' D .rfl (hK M h1 h2) ⟨_, rfl⟩ F' (O.keep N')
theorem sum_w {k : Nat} {ns : List Int} (m : al[k]? = some (.lst (ns.map .i))) (hK : K (.i ns.sum) al) : CallW w u al (.builtin "sum") [.r k] K := by
  refine ⟨fun ok D vs hvs m' Q s F N q => ?_⟩
  match vs, hvs with
  | [v], ⟨hv, _⟩ =>
    obtain ⟨L, O⟩ := N.opn
    obtain ⟨x, vs, n, rfl, i, ha, hvs⟩ := O.list hv m
    exact PyProof.Rows.LSm.sum_ints F O.N ok.hh (News.isList O.N i) (ints_are hvs) fun h' tk t' F' N' => q _ _ al tk h' D .rfl hK ⟨_, rfl⟩ F' (O.keep N')
theorem abs_w {n : Int} (hK : K (.i (if n < 0 then -n else n)) al) : CallW w u al (.builtin "abs") [.i n] K := by
  refine ⟨fun ok D vs hvs m' Q s F N q => ?_⟩
  match vs, hvs with
  | [v], ⟨⟨t, e⟩, _⟩ => subst e; exact call_abs_int fun t' tk => q _ _ al tk s.heap D .rfl hK ⟨_, rfl⟩ F N
theorem tuple_w {k : Nat} {us : List AV} (m : al[k]? = some (.lst us)) (hz : us.length ≤ 1000) (hK : K (.t us) al) : CallW w u al (.type "tuple") [.r k] K := by
  refine ⟨fun ok D vs hvs m' Q s F N q => ?_⟩
  match vs, hvs with
  | [v], ⟨hv, _⟩ =>
    obtain ⟨L, O⟩ := N.opn
    obtain ⟨x, vs, n, rfl, i, ha, hvs⟩ := O.list hv m
    refine kde_tupleOf F O.N (News.isList O.N i) (by rw [List.size_toArray, avs_len hvs]; omega) rfl fun x h' F' N' lt => ?_
    have l2 : D.Le (D.tup x vs) := Dc.le_tup
    exact q _ _ al s.toks h' _ l2 hK ⟨x, vs, rfl, .head _, avs.mono l2 hvs⟩ F' (O.mktup N' fun p hp => Nat.ne_of_lt (lt p hp))
/-- a list over and over -/
structure MulL (n : Nat) (K : AV → AL → Prop) (a : AV) (al : AL) : Prop where
  ex : ∃ k b, a = .r k ∧ al[k]? = some (.lst [b]) ∧ K (.r al.length) (al ++ [.lst (List.replicate n b)])
theorem MulL.in {n k : Nat} {b : AV} (m : al[k]? = some (.lst [b])) (h : K (.r al.length) (al ++ [.lst (List.replicate n b)])) : MulL n K (.r k) al := ⟨k, b, rfl, m, h⟩
theorem rep_fold {v : Value} (n : Nat) : List.foldl (fun x1 x2 => x1 ++ x2) #[] (List.replicate n #[v]) = (List.replicate n v).toArray := by
  have key : ∀ (n : Nat) (acc : Array Value), List.foldl (fun x1 x2 => x1 ++ x2) acc (List.replicate n #[v]) = acc ++ (List.replicate n v).toArray := by
    intro n
    induction n with
    | zero => intro acc; simp
    | succ n ih =>
      intro acc
      rw [List.replicate_succ, List.foldl_cons, ih, List.replicate_succ]
      apply Array.toList_inj.mp
      simp
  simpa using key n #[]
theorem ek_mulL {z : Int} (h2 : ∀ al, EvT e2 w u c ms al (.i z)) (hz : (decide (0 ≤ z) && decide (z ≤ 1000)) = true) (h : EvK e1 w u c ms ls (MulL z.toNat K)) : EvK (.BinOp e1 .Mult e2 p) w u c ms ls K := by
  refine ⟨fun ok D Q s S q => wpAny_BinOp (h.go ok D _ s S fun a v al tk h' D' l hA hv S => ?_)⟩
  have hz' : 0 ≤ z ∧ z ≤ 1000 := by simpa using hz
  have hn : z.toNat ≤ 1000 := by omega
  have ez : z = (z.toNat : Int) := by omega
  generalize z.toNat = n at hn ez hA
  subst ez
  obtain ⟨k, b, rfl, m1, kk⟩ := hA.ex
  refine (h2 al).go ok D' _ { s with heap := h', toks := tk } S fun v2 tk h' D'' l' hv2 S => ?_
  obtain ⟨t, rfl⟩ := hv2
  obtain ⟨m, F, hF⟩ := S.F
  obtain ⟨L, O⟩ := S.N.opn
  obtain ⟨x, vs, na, rfl, i, _, ha⟩ := O.list (hv.mono l') m1
  match vs, ha with
  | [v], ⟨hb, _⟩ =>
    refine PyProof.Rows.mul_list (s := { s with heap := h', toks := tk }) F O.N (O.N _ i).1 (by omega) (by omega) (by simp; omega) fun h'' F'' N'' => ?_
    have e : (List.foldl (fun x1 x2 => x1 ++ x2) #[] (List.replicate (if (#[v] : Array Value).isEmpty = true then 0 else (n : Int).toNat) #[v])) = (List.replicate n v).toArray := by
      rw [if_neg (by simp), Int.toNat_natCast, rep_fold]
    rw [show [v].toArray = #[v] from rfl, e] at N''
    have rep : ∀ n, avs D'' (List.replicate n b) (List.replicate n v) := fun n => by
      induction n with
      | zero => exact trivial
      | succ n ih => exact ⟨hb, ih⟩
    obtain ⟨D3, l3, i3, S3⟩ := O.newL (c := c) (n := 0) hF F'' N'' (fun p hp => Heap.lt_size (O.N p hp).1) (rep n)
    exact q _ _ _ _ h'' D3 (l.trans (l'.trans l3)) kk i3 S3
/-- values that are the same are not unequal -/
noncomputable def eqOk : AV → Bool
  | .v .none => true
  | .v (.bool _) => true
  | .i _ => true
  | .t [.i _, .i _] => true
  | _ => false
structure NeB (b : AV) (K : Bool → AL → Prop) (a : AV) (al : AL) : Prop where
  ex : a = b ∧ eqOk a = true ∧ K false al
theorem NeB.in {K : Bool → AL → Prop} (he : eqOk a = true) (h : K false al) : NeB a K a al := ⟨rfl, he, h⟩
structure NeA (e2 : PySem.Expr) (w : World) (u : Un) (c : Cd) (ms : AM) (K : Bool → AL → Prop) (a : AV) (al : AL) : Prop where
  ex : EvK e2 w u c ms al (NeB a K)
theorem eq_two {as : List AV} (h : eqOk (.t as) = true) : ∃ n n', as = [.i n, .i n'] := by
  unfold eqOk at h
  split at h
  · contradiction
  · contradiction
  · contradiction
  · rename_i e; cases e; exact ⟨_, _, rfl⟩
  · cases h
theorem avs_two {n n' : Int} {vs : List Value} (h : avs D [.i n, .i n'] vs) : ∃ t1 t2, vs = [.int n t1, .int n' t2] := by
  cases vs with
  | nil => exact False.elim h
  | cons y vs =>
    cases vs with
    | nil => exact False.elim h.2
    | cons y2 vs =>
      cases vs with
      | cons _ _ => exact False.elim h.2.2
      | nil =>
        obtain ⟨⟨t1, e1⟩, ⟨t2, e2⟩, _⟩ := h
        subst e1 e2
        exact ⟨t1, t2, rfl⟩
theorem tk_ne {K : Bool → AL → Prop} (hm : behindInMarks .NotEq e2 = false) (hd : u.d < 9000) (h : EvK e1 w u c ms ls (NeA e2 w u c ms K)) : TrK (.Compare e1 [.NotEq] [e2] p) w u c ms ls K := by
  refine ⟨fun ok D Q s S q => wpAny_isTrue_Compare1 (h.go ok D _ s S fun a v al tk h' D' l hA hv S => ?_) hm⟩
  refine hA.ex.go ok D' _ { s with heap := h', toks := tk } S fun b v2 al2 tk h' D'' l' hB hv2 S => ?_
  obtain ⟨rfl, he, kk⟩ := hB.ex
  have hu : u.A.units < cLine := by have := ok.ok.hun; show _ < cLine; rw [show cLine = 9900 from rfl]; omega
  have hv' := hv.mono l'
  have fin : wpAny (MM w) u.A (truthy (.bool false)) Q NoE { s with heap := h', toks := tk } := wpAny_truthy_bool (q _ _ tk h' D'' (l.trans l') kk S)
  cases b with
  | any => cases he
  | s _ => cases he
  | r _ => cases he
  | v x =>
    cases x with
    | none =>
      cases hv'
      cases hv2
      exact PySem.SeqAt.RcNeAt.none_none _ _ _ _ fin
    | bool β =>
      cases hv'
      cases hv2
      refine PySem.SeqAt.RcNeAt.bool_bool _ _ _ _ _ _ ?_
      rw [beq_self_eq_true]; exact fin
    | _ => cases he
  | i n =>
    obtain ⟨t1, e1⟩ := hv'
    obtain ⟨t2, e2⟩ := hv2
    subst e1 e2
    refine PySem.SeqAt.RcNeAt.int_int _ _ _ _ _ _ _ _ ?_
    rw [beq_self_eq_true]; exact fin
  | t as =>
    obtain ⟨n, n', rfl⟩ := eq_two he
    obtain ⟨x1, vs1, e1, i1, ha1⟩ := hv'
    obtain ⟨x2, vs2, e2, i2, ha2⟩ := hv2
    subst e1 e2
    obtain ⟨t1, t2, rfl⟩ := avs_two ha1
    obtain ⟨t3, t4, rfl⟩ := avs_two ha2
    obtain ⟨L, O⟩ := S.N.opn
    refine PySem.SeqAt.RcNeAt.tuples (e := fun _ => true) (News.isTup O.N (O.tup _ i1)) (News.isTup O.N (O.tup _ i2)) hu (fun j h1 h2 => ?_) _ _ _ _ fin
    cases j with
    | zero =>
      have e := PySem.SeqAt.EqAt.int_int (A := u.A.in1) (s := { s with heap := h', toks := tk }) n t1 n t3
      rw [beq_self_eq_true] at e; exact e
    | succ j =>
      cases j with
      | zero =>
        have e := PySem.SeqAt.EqAt.int_int (A := u.A.in1) (s := { s with heap := h', toks := tk }) n' t2 n' t4
        rw [beq_self_eq_true] at e; exact e
      | succ n => exact absurd h1 (by simp)
end
end
section
theorem clr_Y14 : True := by
  w_top off
  trivial
variable {w : World} {A A₀ : Around} {base h₀ : Heap} {outer : List Env} {env : Env} {L : Addr} {m : Str → Option Value} {s : Shared} {Q E : Value → Shared → Prop} {mean : ExcName → Option Value} {mg mb : Str → Option Value}
section
open PySem.Spec
variable {w : World} {u : Un} {c : Cd} {ms : AM} {ls al : AL} {D : Dc} {a b : AV} {e e1 e2 e3 e4 : PySem.Expr} {p p1 p2 p3 : Pos} {K : AV → AL → Prop} {sts rest : List Stmt} {KF : AF → AM → AL → Prop} {x y z : Str}
noncomputable def prs (D : Dc) : List (AV × AV) → List (Value × Value) → Prop
  | [], [] => True
  | (a, b) :: r, (v, x) :: vs => a.Is D v ∧ b.Is D x ∧ prs D r vs
  | _, _ => False
/-- a display's pairs -/
structure PrK (keys : List (Option PySem.Expr)) (values : List PySem.Expr) (pos : Pos) (w : World) (u : Un) (c : Cd) (ms : AM) (ls : AL) (K : List (AV × AV) → AL → Prop) : Prop where
  go : Ok3 w u c → ∀ (D : Dc) (Q : List (Value × Value) → Shared → Prop) (s : Shared), St0 w u c D s.heap ms ls → (∀ ps vs al tk h' D', D.Le D' → K ps al → prs D' ps vs → St0 w u c D' h' ms al → Q vs { s with heap := h', toks := tk }) → wpAny (MM w) u.A (evalPairs (pairTrees keys values (c.ev u) pos)) Q NoE s
theorem pr_nil {K : List (AV × AV) → AL → Prop} (h : K [] ls) : PrK [] [] p w u c ms ls K := ⟨fun _ D _ s S q => evalPairs_nil (q [] [] _ s.toks s.heap D .rfl h trivial S)⟩
theorem pr_cons {keys : List (Option PySem.Expr)} {values : List PySem.Expr} {K : List (AV × AV) → AL → Prop} (h : EvK e1 w u c ms ls fun a al => EvK e2 w u c ms al fun b al => PrK keys values p w u c ms al fun ps al => K ((a, b) :: ps) al) : PrK (some e1 :: keys) (e2 :: values) p w u c ms ls K := by
  refine ⟨fun ok D Q s S q => evalPairs_cons (h.go ok D _ s S fun a v al tk h' D' l h2 hv S => ?_)⟩
  refine wpAny_bind (h2.go ok D' _ { s with heap := h', toks := tk } S fun b x al tk h' D'' l' h3 hx S => wpAny_bind (wpAny_standAt (wpAny_pure ?_)))
  exact h3.go ok D'' _ { s with heap := h', toks := tk } S fun ps vs al tk h' D3 l3 k hp S => q _ _ al tk h' D3 (l.trans (l'.trans l3)) k ⟨hv.mono (l'.trans l3), hx.mono l3, hp⟩ S
theorem toks_of : ∀ (l : List (Str × Int × Tok)), (l.map (·.1)).Nodup → ∃ f : Str → Tok, (l.map fun q => (q.1, Value.int q.2.1 q.2.2)) = l.map fun q => (q.1, Value.int q.2.1 (f q.1))
  | [], _ => ⟨fun _ => 0, rfl⟩
  | (k, n, t) :: r, h => by
    rw [List.map_cons, List.nodup_cons] at h
    obtain ⟨f, e⟩ := toks_of r h.2
    refine ⟨fun x => if x = k then t else f x, ?_⟩
    rw [List.map_cons, List.map_cons, e]
    congr 1
    · dsimp only; rw [if_pos rfl]
    · refine List.map_congr_left fun q hq => ?_
      dsimp only
      have hq' : q.1 ∈ r.map (·.1) := List.mem_map_of_mem hq
      rw [if_neg fun (e : q.1 = k) => h.1 (by rw [← e]; exact hq')]
theorem prs_str : ∀ {es : List (Str × Int)} {vs : List (Value × Value)}, prs D (es.map fun p => (.s p.1, .i p.2)) vs → ∃ l : List (Str × Int × Tok), l.map (fun q => (q.1, q.2.1)) = es ∧ strPairs vs = (l.map fun q => (q.1, Value.int q.2.1 q.2.2)) ∧ allStrKeys vs = true ∧ vs.length = es.length := by
  intro es
  induction es with
  | nil =>
    intro vs h
    cases vs with
    | nil => exact ⟨[], rfl, rfl, rfl, rfl⟩
    | cons _ _ => exact False.elim h
  | cons p es ih =>
    intro vs h
    cases vs with
    | nil => exact False.elim h
    | cons y vs =>
      obtain ⟨k, n⟩ := p
      obtain ⟨v, x⟩ := y
      obtain ⟨⟨t, h1⟩, ⟨t2, h2⟩, h⟩ := h
      subst h1 h2
      obtain ⟨l, e1, e2, e3, e4⟩ := ih h
      exact ⟨(k, n, t2) :: l, by rw [List.map_cons, e1], by unfold strPairs; rw [e2]; rfl, e3, congrArg (· + 1) e4⟩
/-- a display with names as keys -/
structure DiS (ls : AL) (K : AV → AL → Prop) (ps : List (AV × AV)) (al : AL) : Prop where
  ex : ∃ es : List (Str × Int), ps = es.map (fun p => (.s p.1, .i p.2)) ∧ (es.map (·.1)).Nodup ∧ al = ls ++ [.sd []] ∧ K (.r ls.length) (ls ++ [.sd es])
theorem DiS.in {es : List (Str × Int)} {ps : List (AV × AV)} (e : ps = es.map (fun p => (.s p.1, .i p.2))) (hn : (es.map (·.1)).Nodup) (h : K (.r ls.length) (ls ++ [.sd es])) : DiS ls K ps (ls ++ [.sd []]) := ⟨es, e, hn, rfl, h⟩
theorem get_snoc2 {al : AL} {x y : AO} : (al ++ [x]).set al.length y = al ++ [y] := by
  rw [List.set_append_right _ _ (Nat.le_refl _), Nat.sub_self]; rfl
theorem ek_dictS {keys : List (Option PySem.Expr)} {values : List PySem.Expr} (hall : keys.all (·.isSome) = true) (hl : keys.length = values.length) (h0 : keys ≠ []) (hlen : keys.length ≤ 15)
    (h : PrK keys values p w u c ms (ls ++ [.sd []]) (DiS ls K)) : EvK (.Dict keys values p) w u c ms ls K := by
  refine ⟨fun ok D Q s S q => ?_⟩
  obtain ⟨m, F, hF⟩ := S.F
  obtain ⟨led, O⟩ := S.N
  have hlen := led_len O.is
  refine kdn_eval (knd := PySem.strKind _ _) F O.N ok.ok.T.nolimit hall hl h0 (by assumption) fun d h' o F' N' lt lo hd => ?_
  have l2 : D.Le (D.push d) := Dc.le_push
  have O2 : LedOk w u (D.push d) h' (ls ++ [.sd []]) (led ++ [(d, o)]) := O.push N' (fun p hp => Nat.ne_of_lt (lt p hp)) ⟨fun _ => 0, hd⟩
  have hx : (D.push d).ad[ls.length]? = some (some d) := by
    show (D.ad ++ [some d])[ls.length]? = _
    rw [← hlen, List.getElem?_append_right (Nat.le_refl _), Nat.sub_self]; rfl
  refine h.go ok (D.push d) _ { s with heap := h' } ⟨⟨m, F', fun x a e => let ⟨v, e, i⟩ := hF x a e; ⟨v, e, i.mono l2⟩⟩, _, O2⟩ fun ps vs al tk h' D' l hA hp S => ?_
  obtain ⟨es, rfl, hnd, rfl, kk⟩ := hA.ex
  obtain ⟨m', F', hF'⟩ := S.F
  obtain ⟨o', r, ⟨f, hd'⟩, ho, N'', up, _⟩ := S.N.at (l.ad _ _ hx) get_snoc
  obtain ⟨tl, e1, e2, e3, e4⟩ := prs_str hp
  have hn1 : (tl.map (·.1)).Nodup := by
    have e : tl.map (·.1) = es.map (·.1) := by rw [← e1, List.map_map]; rfl
    rw [e]; exact hnd
  obtain ⟨f2, ef⟩ := toks_of tl hn1
  refine kdn_made_str (s := { s with heap := h', toks := tk }) F' N'' (UpdF.head ho) hd' e3 (by rw [e2, List.map_map]; exact hn1) fun h3 o3 F3 N3 hd3 => ?_
  have N4 := up (y := .sd es) ⟨f2, by rw [← e1, List.map_map]; rw [e2, ef] at hd3; exact hd3⟩ N3
  rw [get_snoc2] at N4
  exact q _ _ _ _ h3 D' (l2.trans l) kk ⟨d, l.ad _ _ hx, rfl⟩ ⟨⟨m', F3, hF'⟩, N4⟩
/-- a display with two ints as keys, that may be the same -/
noncomputable def hel2 (k1 v1 k2 v2 : Int) (k : Int) : Option Int := if k = k2 then some v2 else if k = k1 then some v1 else none
theorem held_val {k1 v1 k2 v2 : Int} {t2 t4 : Tok} (k : Int) : ∃ t, valueAt (merged [] [(k1, Value.int v1 t2), (k2, Value.int v2 t4)]) k = (hel2 k1 v1 k2 v2 k).map fun i => Value.int i t := by
  unfold hel2
  by_cases h2 : k = k2
  · subst h2
    refine ⟨t4, ?_⟩
    by_cases h1 : k1 = k
    · subst h1; simp [merged, stored, valueAt]
    · simp [merged, stored, valueAt, h1]
  · by_cases h1 : k = k1
    · subst h1
      refine ⟨t2, ?_⟩
      have h3 : ¬ k2 = k := fun e => h2 e.symm
      simp [merged, stored, valueAt, h2]
    · refine ⟨t2, ?_⟩
      have h3 : ¬ k2 = k := fun e => h2 e.symm
      have h4 : ¬ k1 = k := fun e => h1 e.symm
      by_cases h5 : k1 = k2
      · subst h5; simp [merged, stored, valueAt, h1, h4]
      · simp [merged, stored, valueAt, h1, h2, h3, h4, h5]
abbrev hel0 : Int → Option Int := fun _ => none
structure DiI (ls : AL) (K : AV → AL → Prop) (ps : List (AV × AV)) (al : AL) : Prop where
  ex : ∃ k1 v1 k2 v2, ps = [(.i k1, .i v1), (.i k2, .i v2)] ∧ al = ls ++ [.hel hel0] ∧ K (.r ls.length) (ls ++ [.hel (hel2 k1 v1 k2 v2)])
theorem prs_two {k1 v1 k2 v2 : Int} {vs : List (Value × Value)} (h : prs D [(.i k1, .i v1), (.i k2, .i v2)] vs) : ∃ t1 t2 t3 t4, vs = [(.int k1 t1, .int v1 t2), (.int k2 t3, .int v2 t4)] := by
  cases vs with
  | nil => exact False.elim h
  | cons y vs =>
    cases vs with
    | nil => exact False.elim h.2.2
    | cons y2 vs =>
      cases vs with
      | cons _ _ => exact False.elim h.2.2.2.2
      | nil =>
        obtain ⟨a, b⟩ := y
        obtain ⟨a2, b2⟩ := y2
        obtain ⟨⟨t1, e1⟩, ⟨t2, e2⟩, ⟨t3, e3⟩, ⟨t4, e4⟩, _⟩ := h
        subst e1 e2 e3 e4
        exact ⟨t1, t2, t3, t4, rfl⟩
theorem ek_dictI {keys : List (Option PySem.Expr)} {values : List PySem.Expr} (hall : keys.all (·.isSome) = true) (hl : keys.length = values.length) (h0 : keys ≠ []) (hlen : keys.length ≤ 15)
    (h : PrK keys values p w u c ms (ls ++ [.hel hel0]) (DiI ls K)) : EvK (.Dict keys values p) w u c ms ls K := by
  refine ⟨fun ok D Q s S q => ?_⟩
  obtain ⟨m, F, hF⟩ := S.F
  obtain ⟨led, O⟩ := S.N
  have hlen := led_len O.is
  refine kdn_eval (knd := PySem.intKind _ _) F O.N ok.ok.T.nolimit hall hl h0 (by assumption) fun d h' o F' N' lt lo hd => ?_
  have l2 : D.Le (D.push d) := Dc.le_push
  have O2 : LedOk w u (D.push d) h' (ls ++ [.hel hel0]) (led ++ [(d, o)]) := O.push N' (fun p hp => Nat.ne_of_lt (lt p hp)) ⟨lo, [], hd, fun k => ⟨0, rfl⟩⟩
  have hx : (D.push d).ad[ls.length]? = some (some d) := by
    show (D.ad ++ [some d])[ls.length]? = _
    rw [← hlen, List.getElem?_append_right (Nat.le_refl _), Nat.sub_self]; rfl
  refine h.go ok (D.push d) _ { s with heap := h' } ⟨⟨m, F', fun x a e => let ⟨v, e, i⟩ := hF x a e; ⟨v, e, i.mono l2⟩⟩, _, O2⟩ fun ps vs al tk h' D' l hA hp S => ?_
  obtain ⟨k1, v1, k2, v2, rfl, rfl, kk⟩ := hA.ex
  obtain ⟨m', F', hF'⟩ := S.F
  obtain ⟨t1, t2, t3, t4, rfl⟩ := prs_two hp
  obtain ⟨o', r, ⟨_, kvs, hd', hk⟩, ho, N'', up, _⟩ := S.N.at (l.ad _ _ hx) get_snoc
  have hnil : kvs = [] := by
    cases kvs with
    | nil => rfl
    | cons q kvs =>
      obtain ⟨t, e⟩ := hk q.1
      simp [valueAt, hel0] at e
  subst hnil
  have hm := N'' _ (.head _)
  refine ⟨[(k1, .int v1 t2), (k2, .int v2 t4)], ⟨intKind_is _ _ _ _, rfl, intKind_is _ _ _ _, rfl, trivial⟩, Heap.dictOf_iff.mpr ⟨o', hm.1, hd'⟩, fun h3 hmm hs => ?_⟩
  obtain ⟨o3, ho3, hd3⟩ := Heap.dictOf_iff.mp hmm
  have N4 := up (y := .hel (hel2 k1 v1 k2 v2)) ⟨lo, _, hd3, held_val⟩ (News.setIn (own := []) N'' (fun _ h => (nomatch h)) ho hs ho3)
  rw [get_snoc2] at N4
  exact q _ _ _ _ h3 D' (l2.trans l) kk ⟨d, l.ad _ _ hx, rfl⟩ ⟨⟨m', F'.change hs hm.2.1 hm.2.2, hF'⟩, N4⟩
theorem ek_dict0 (h : K (.r ls.length) (ls ++ [.hel hel0])) : EvK (.Dict [] [] p) w u c ms ls K := by
  refine ⟨fun ok D Q s S q => ?_⟩
  obtain ⟨m, F, hF⟩ := S.F
  obtain ⟨led, O⟩ := S.N
  have hlen := led_len O.is
  refine newDict_K F O.N ok.ok.T.nolimit fun d h' o F' N' lt lo _ _ hd _ => ?_
  have l2 : D.Le (D.push d) := Dc.le_push
  refine q _ _ _ s.toks h' (D.push d) l2 h ⟨d, ?_, rfl⟩ ⟨⟨m, F', fun x a e => let ⟨v, e, i⟩ := hF x a e; ⟨v, e, i.mono l2⟩⟩, _, O.push N' (fun p hp => Nat.ne_of_lt (lt p hp)) ⟨lo, [], hd, fun k => ⟨0, rfl⟩⟩⟩
  show (D.ad ++ [some d])[ls.length]? = _
  rw [← hlen, List.getElem?_append_right (Nat.le_refl _), Nat.sub_self]; rfl
/-- x != [] -/
theorem tk_nenil {k : Nat} {us : List AV} {K : Bool → AL → Prop} (hm : behindInMarks .NotEq (.List [] p2) = false) (hd : u.d < 9000) (h1 : EvT e w u c ms ls (.r k)) (m : ls[k]? = some (.lst us)) (hK : K (!us.isEmpty) (ls ++ [.lst []])) : TrK (.Compare e [.NotEq] [.List [] p2] p) w u c ms ls K := by
  refine ⟨fun ok D Q s S q => wpAny_isTrue_Compare1 (h1.go ok D _ s S fun v tk h' D' l hv S => ?_) hm⟩
  refine (ek_list (K := fun b al => b = .r ls.length ∧ al = ls ++ [.lst []]) (ak_pure ar_nil ⟨Nat.zero_le _, rfl, rfl⟩)).go ok D' _ { s with heap := h', toks := tk } S fun a v' al tk h' D'' l' ⟨e1, e2⟩ hv' S' => ?_
  subst e1 e2
  have h3 : (ls ++ [AO.lst []])[ls.length]? = some (.lst []) := get_snoc
  have hu : u.A.units < cLine := by have := ok.ok.hun; show _ < cLine; rw [show cLine = 9900 from rfl]; omega
  obtain ⟨L, O⟩ := S'.N.opn
  obtain ⟨x, vs, n, rfl, i, _, hvs⟩ := O.list (hv.mono l') (get_left m)
  obtain ⟨x', vs', n', rfl, i', _, hvs'⟩ := O.list hv' h3
  have fin : wpAny (MM w) u.A (truthy (.bool (!us.isEmpty))) Q NoE { s with heap := h', toks := tk } := wpAny_truthy_bool (q _ _ tk h' D'' (l.trans l') hK S')
  match vs', hvs' with
  | [], _ =>
    match us, vs, hvs with
    | [], [], _ => exact PySem.SeqAt.RcNeAt.lists (e := fun _ => true) (News.isList O.N i) (News.isList O.N i') rfl hu (fun j h1 => absurd h1 (Nat.not_lt_zero _)) _ _ _ _ fin
    | _ :: _, y :: vs, _ => exact my_ne_nil (News.isList O.N i) (News.isList O.N i') hu fin
/-- two lists of the same values are equal -/
noncomputable def eqOk2 : AV → Bool
  | .v .none => true
  | .i _ => true
  | .s _ => true
  | _ => false
structure EqB (us : List AV) (K : AV → AL → Prop) (k : Nat) (b : AV) (al : AL) : Prop where
  ex : ∃ j, b = .r j ∧ al[k]? = some (.lst us) ∧ al[j]? = some (.lst us) ∧ us.all eqOk2 = true ∧ K (.v (.bool true)) al
theorem EqB.in {us : List AV} {k j : Nat} (m1 : al[k]? = some (.lst us)) (m2 : al[j]? = some (.lst us)) (he : us.all eqOk2 = true) (h : K (.v (.bool true)) al) : EqB us K k (.r j) al := ⟨j, rfl, m1, m2, he, h⟩
structure EqA (e2 : PySem.Expr) (w : World) (u : Un) (c : Cd) (ms : AM) (K : AV → AL → Prop) (a : AV) (al : AL) : Prop where
  ex : ∃ k us, a = .r k ∧ EvK e2 w u c ms al (EqB us K k)
theorem EqA.in {k : Nat} {us : List AV} (h : EvK e2 w u c ms al (EqB us K k)) : EqA e2 w u c ms K (.r k) al := ⟨k, us, rfl, h⟩
theorem same_at {A : Around} {s : Shared} {v v' : Value} (he : eqOk2 a = true) (h1 : a.Is D v) (h2 : a.Is D v') : PySem.SeqAt.EqAt A s v v' true := by
  match a, he, h1, h2 with
  | .v .none, _, e1, e2 => cases e1; cases e2; exact PySem.SeqAt.EqAt.same _
  | .i n, _, ⟨t1, e1⟩, ⟨t2, e2⟩ => subst e1 e2; have e := PySem.SeqAt.EqAt.int_int (A := A) (s := s) n t1 n t2; rw [beq_self_eq_true] at e; exact e
  | .s x, _, ⟨t1, e1⟩, ⟨t2, e2⟩ => subst e1 e2; have e := PySem.SeqAt.EqAt.str_str (A := A) (s := s) x t1 x t2; rw [beq_self_eq_true] at e; exact e
theorem ek_eqL (hm : behindInMarks .Eq e2 = false) (hd : u.d < 9000) (h : EvK e1 w u c ms ls (EqA e2 w u c ms K)) : EvK (.Compare e1 [.Eq] [e2] p) w u c ms ls K := by
  refine ⟨fun ok D Q s S q => wpAny_Compare1 (h.go ok D _ s S fun a v al tk h' D' l hA hv S => ?_) hm⟩
  obtain ⟨k, us, rfl, hB⟩ := hA.ex
  refine hB.go ok D' _ { s with heap := h', toks := tk } S fun b v2 al2 tk h' D'' l' hB hv2 S => ?_
  obtain ⟨j, rfl, m1, m2, he, kk⟩ := hB.ex
  have hu : u.A.units < cLine := by have := ok.ok.hun; show _ < cLine; rw [show cLine = 9900 from rfl]; omega
  obtain ⟨L, O⟩ := S.N.opn
  obtain ⟨x, vs, n, rfl, i, _, hvs⟩ := O.list (hv.mono l') m1
  obtain ⟨x', vs', n', rfl, i', _, hvs'⟩ := O.list hv2 m2
  have l1 := avs_len hvs
  have l2 := avs_len hvs'
  refine PySem.SeqAt.eq_listAt (e := fun _ => true) (News.isList O.N i) (News.isList O.N i') (by rw [List.size_toArray, List.size_toArray, l1, l2]) hu (fun j h1 h2 => ?_) ?_
  · have hj : j < us.length := by rw [List.size_toArray] at h1; omega
    obtain ⟨v1, e1, i1⟩ := avs_get j hvs (List.getElem?_eq_getElem hj)
    obtain ⟨v2, e2, i2⟩ := avs_get j hvs' (List.getElem?_eq_getElem hj)
    have g1 : vs.toArray[j] = v1 := by
      obtain ⟨_, e⟩ := List.getElem?_eq_some_iff.mp e1
      simpa using e
    have g2 : vs'.toArray[j] = v2 := by
      obtain ⟨_, e⟩ := List.getElem?_eq_some_iff.mp e2
      simpa using e
    rw [g1, g2]
    exact same_at (List.all_eq_true.mp he _ (List.getElem_mem hj)) i1 i2
  · have e : (List.range vs.toArray.size).all (fun _ => true) = true := by simp
    rw [e]
    exact q _ _ _ tk h' D'' (l.trans l') kk rfl S
/-- ints that are compared -/
inductive CmI : CmpOp → Int → Int → Bool → Prop
  | gt {n m : Int} : CmI .Gt n m (decide (m < n))
  | eq {n m : Int} : CmI .Eq n m (decide (n = m))
  | lt {n m : Int} : CmI .Lt n m (decide (n < m))
structure CmB (op : CmpOp) (n : Int) (K : AV → AL → Prop) (b : AV) (al : AL) : Prop where
  ex : ∃ m β, b = .i m ∧ CmI op n m β ∧ K (.v (.bool β)) al
structure CmA (op : CmpOp) (e2 : PySem.Expr) (w : World) (u : Un) (c : Cd) (ms : AM) (K : AV → AL → Prop) (a : AV) (al : AL) : Prop where
  ex : ∃ n, a = .i n ∧ EvK e2 w u c ms al (CmB op n K)
theorem CmB.inG {n m : Int} (k : K (.v (.bool (decide (m < n)))) al) : CmB .Gt n K (.i m) al := ⟨m, _, rfl, .gt, k⟩
theorem CmB.inE {n m : Int} (k : K (.v (.bool (decide (n = m)))) al) : CmB .Eq n K (.i m) al := ⟨m, _, rfl, .eq, k⟩
theorem CmB.inL {n m : Int} (k : K (.v (.bool (decide (n < m)))) al) : CmB .Lt n K (.i m) al := ⟨m, _, rfl, .lt, k⟩
theorem CmA.in {n : Int} {op : CmpOp} (h : EvK e2 w u c ms al (CmB op n K)) : CmA op e2 w u c ms K (.i n) al := ⟨n, rfl, h⟩
theorem ek_cmI {op : CmpOp} (hm : behindInMarks op e2 = false) (h : EvK e1 w u c ms ls (CmA op e2 w u c ms K)) : EvK (.Compare e1 [op] [e2] p) w u c ms ls K := by
  refine ⟨fun ok D Q s S q => wpAny_Compare1 (h.go ok D _ s S fun a v al tk h' D' l hA hv S => ?_) hm⟩
  obtain ⟨n, rfl, hB⟩ := hA.ex
  obtain ⟨t, rfl⟩ := hv
  refine hB.go ok D' _ { s with heap := h', toks := tk } S fun b v2 al2 tk h' D'' l' hB hv2 S => ?_
  obtain ⟨m, r, rfl, ho, k⟩ := hB.ex
  obtain ⟨t2, rfl⟩ := hv2
  cases ho with
  | gt => exact gt_int (q _ _ _ _ h' D'' (l.trans l') k rfl S)
  | eq => exact eq_int (q _ _ _ _ h' D'' (l.trans l') k rfl S)
  | lt => exact lt_int (q _ _ _ _ h' D'' (l.trans l') k rfl S)
theorem tk_cmI {op : CmpOp} {K : Bool → AL → Prop} (hm : behindInMarks op e2 = false) (h : EvK e1 w u c ms ls (CmA op e2 w u c ms fun a al => ∃ β, a = .v (.bool β) ∧ K β al)) : TrK (.Compare e1 [op] [e2] p) w u c ms ls K := by
  refine ⟨fun ok D Q s S q => wpAny_isTrue_Compare1 (h.go ok D _ s S fun a v al tk h' D' l hA hv S => ?_) hm⟩
  obtain ⟨n, rfl, hB⟩ := hA.ex
  obtain ⟨t, rfl⟩ := hv
  refine hB.go ok D' _ { s with heap := h', toks := tk } S fun b v2 al2 tk h' D'' l' hB hv2 S => ?_
  obtain ⟨m, r, rfl, ho, ⟨β, e, k⟩⟩ := hB.ex
  obtain ⟨t2, rfl⟩ := hv2
  cases e
  cases ho with
  | gt => exact gt_int (wpAny_truthy_bool (q _ _ _ h' D'' (l.trans l') k S))
  | eq => exact eq_int (wpAny_truthy_bool (q _ _ _ h' D'' (l.trans l') k S))
  | lt => exact lt_int (wpAny_truthy_bool (q _ _ _ h' D'' (l.trans l') k S))
end
end
section
local macro_rules | `(tactic| walk_at "no such key") => `(tactic| fail)
theorem clr_Y15 : True := by
  w_top off
  trivial
variable {w : World} {A A₀ : Around} {base h₀ : Heap} {outer : List Env} {env : Env} {L : Addr} {m : Str → Option Value} {s : Shared} {Q E : Value → Shared → Prop} {mean : ExcName → Option Value} {mg mb : Str → Option Value}
section
variable {w : World} {u : Un} {c : Cd} {ms : AM} {ls al : AL} {D : Dc} {a b : AV} {e e1 e2 e3 e4 : PySem.Expr} {p p1 p2 p3 : Pos} {K : AV → AL → Prop} {sts rest body : List Stmt} {KF : AF → AM → AL → Prop} {x y z : Str}
theorem ex_forN {iter : PySem.Expr} (hi : c.inner = none) (h1 : (c.fe u).kindOf x = some .local) (h2 : c.stands x = false) (hs : ∀ v, foldedSetIterable iter (c.ev u) v = pure v)
    (h : SrK iter w u c ms ls (Lp (.name x p1) body rest w u c KF ms)) : Ex (.For (.Name x p1) iter body [] p :: rest) w u c ms ls KF :=
  ex_for (g := .name x p1) hi (fun y hy => by rw [List.mem_singleton.mp hy]; exact ⟨h1, h2⟩) hs h
theorem ex_forP {iter : PySem.Expr} {k : Nat} (hi : c.inner = none) (h1 : (c.fe u).kindOf x = some .local) (h2 : c.stands x = false) (h3 : (c.fe u).kindOf y = some .local) (h4 : c.stands y = false) (hs : ∀ v, foldedSetIterable iter (c.ev u) v = pure v)
    (h : SrK iter w u c ms ls (Lp (.pair x y p1 p2 k p3) body rest w u c KF ms)) : Ex (.For (.Tuple [.Name x p1, .Name y p2] k p3) iter body [] p :: rest) w u c ms ls KF :=
  ex_for (g := .pair x y p1 p2 k p3) hi (fun z hz => by rcases List.mem_cons.mp hz with rfl | hz; exact ⟨h1, h2⟩; rw [List.mem_singleton.mp hz]; exact ⟨h3, h4⟩) hs h
structure TwB (x y : Str) (rest : List Stmt) (w : World) (u : Un) (c : Cd) (ms : AM) (KF : AF → AM → AL → Prop) (a : AV) (al : AL) : Prop where
  ex : ∃ b b', a = .t [b, b'] ∧ Ex rest w u c ((y, b') :: (x, b) :: ms) al KF
theorem TwB.in {b b' : AV} (h : Ex rest w u c ((y, b') :: (x, b) :: ms) al KF) : TwB x y rest w u c ms KF (.t [b, b']) al := ⟨b, b', rfl, h⟩
theorem EvK.mono {K' : AV → AL → Prop} (h : EvK e w u c ms ls K) (k : ∀ a al, K a al → K' a al) : EvK e w u c ms ls K' := ⟨fun ok D Q s S q => h.go ok D Q s S fun a v al tk h' D' l kk => q a v al tk h' D' l (k _ _ kk)⟩
theorem ex_asgP {es : PySem.Expr} {k : Nat} (hi : c.inner = none) (h1 : (c.fe u).kindOf x = some .local) (h2 : c.stands x = false) (h3 : (c.fe u).kindOf y = some .local) (h4 : c.stands y = false) (hs : swapsWithSole [.Tuple [.Name x p1, .Name y p2] k p3] es p.line (c.ev u) = pure false) (hw : swappedStores [.Tuple [.Name x p1, .Name y p2] k p3] es (c.ev u) = pure none)
    (h : EvK es w u c ms ls (TwB x y rest w u c ms KF)) : Ex (.Assign [.Tuple [.Name x p1, .Name y p2] k p3] es p :: rest) w u c ms ls KF :=
  ex_asgT (g := .pair x y p1 p2 k p3) rfl hi (fun z hz => by rcases List.mem_cons.mp hz with rfl | hz; exact ⟨h1, h2⟩; rw [List.mem_singleton.mp hz]; exact ⟨h3, h4⟩) hs hw (h.mono fun a al hB => by obtain ⟨b, b', rfl, k⟩ := hB.ex; exact ⟨⟨b, b', rfl⟩, k⟩)
theorem ek_compN {elt iter : PySem.Expr} {ifs : List PySem.Expr} {sc' : Scope} {cl0 cl' : List (Str × Addr)}
    (hi : c.inner = none) (hnt : c.nt = []) (hif : ifs.length ≤ 1) (hcl0 : u.cl = cl0) (hclos : closureFor sc' (envX c.q c.sc u.L c.f c.cd cl0) = pure cl') (hclm : (c.nc.map fun x => cl'.lookup x) = c.nc.map fun x => cl0.lookup x)
    (hcell : ∀ y ∈ sc'.names, y.2 ≠ .cell) (hkind : sc'.kind = .function) (hnames : ∀ y ∈ sc'.names, y.2 = .local → sc'.names.lookup y.1 = some .local) (h1 : sc'.names.lookup x = some .local) (h2 : c.nc.contains x = false) (hms : ms.lookup x = none)
    (hs : ∀ v, foldedSetIterable iter (c.ev u) v = pure v) (h : SrK iter w u c ms ls (Cp (.name x p1) elt ifs sc' w u c ms K)) : EvK (.ListComp elt [⟨.Name x p1, iter, ifs, 0⟩] sc' p) w u c ms ls K :=
  ek_comp (g := .name x p1) hi hnt hif hcl0 hclos hclm hcell hkind hnames (fun y hy => by rw [List.mem_singleton.mp hy]; exact ⟨h1, by simpa using h2⟩) (fun y hy => by rw [List.mem_singleton.mp hy]; exact hms) hs h
theorem ex_asgCN {y : Str} {elt iter : PySem.Expr} {ifs : List PySem.Expr} {sc' : Scope} {cl0 cl' : List (Str × Addr)}
    (hi : c.inner = none) (hnt : c.nt = []) (hif : ifs.length ≤ 1) (hcl0 : u.cl = cl0) (hclos : closureFor sc' (envX c.q c.sc u.L c.f c.cd cl0) = pure cl') (hclm : (c.nc.map fun x => cl'.lookup x) = c.nc.map fun x => cl0.lookup x)
    (hcell : ∀ y ∈ sc'.names, y.2 ≠ .cell) (hkind : sc'.kind = .function) (hnames : ∀ y ∈ sc'.names, y.2 = .local → sc'.names.lookup y.1 = some .local) (h1 : sc'.names.lookup x = some .local) (h2 : c.nc.contains x = false) (hms : ms.lookup x = none) (hst : c.stands y = false) (hy : (c.fe u).kindOf y = some .local) (hsw : swapsWith (.ListComp elt [⟨.Name x p1, iter, ifs, 0⟩] sc' p) (some (.Name y p2)) p3.line (c.ev u) = pure true)
    (hs : ∀ v, foldedSetIterable iter (c.ev u) v = pure v) (h : SrK iter w u c ms ls (Cp (.name x p1) elt ifs sc' w u c ms fun a al => Ex rest w u c ((y, a) :: ms) al KF)) : Ex (.Assign [.Name y p2] (.ListComp elt [⟨.Name x p1, iter, ifs, 0⟩] sc' p) p3 :: rest) w u c ms ls KF :=
  ex_asgComp (g := .name x p1) hi hnt hif hcl0 hclos hclm hcell hkind hnames (fun y hy => by rw [List.mem_singleton.mp hy]; exact ⟨h1, by simpa using h2⟩) (fun y hy => by rw [List.mem_singleton.mp hy]; exact hms) hst hy hsw hs h
theorem ek_compP {elt iter : PySem.Expr} {ifs : List PySem.Expr} {sc' : Scope} {cl0 cl' : List (Str × Addr)} {k : Nat}
    (hi : c.inner = none) (hnt : c.nt = []) (hif : ifs.length ≤ 1) (hcl0 : u.cl = cl0) (hclos : closureFor sc' (envX c.q c.sc u.L c.f c.cd cl0) = pure cl') (hclm : (c.nc.map fun x => cl'.lookup x) = c.nc.map fun x => cl0.lookup x)
    (hcell : ∀ y ∈ sc'.names, y.2 ≠ .cell) (hkind : sc'.kind = .function) (hnames : ∀ y ∈ sc'.names, y.2 = .local → sc'.names.lookup y.1 = some .local) (h1 : sc'.names.lookup x = some .local) (h2 : c.nc.contains x = false) (h3 : sc'.names.lookup y = some .local) (h4 : c.nc.contains y = false) (hms : ms.lookup x = none) (hms2 : ms.lookup y = none)
    (hs : ∀ v, foldedSetIterable iter (c.ev u) v = pure v) (h : SrK iter w u c ms ls (Cp (.pair x y p1 p2 k p3) elt ifs sc' w u c ms K)) : EvK (.ListComp elt [⟨.Tuple [.Name x p1, .Name y p2] k p3, iter, ifs, 0⟩] sc' p) w u c ms ls K :=
  ek_comp (g := .pair x y p1 p2 k p3) hi hnt hif hcl0 hclos hclm hcell hkind hnames (fun z hz => by rcases List.mem_cons.mp hz with rfl | hz; exact ⟨h1, by simpa using h2⟩; rw [List.mem_singleton.mp hz]; exact ⟨h3, by simpa using h4⟩) (fun z hz => by rcases List.mem_cons.mp hz with rfl | hz; exact hms; rw [List.mem_singleton.mp hz]; exact hms2) hs h
theorem tsk_nil {K : Bool → AL → Prop} (h : K true ls) : TsK [] w u c ms ls K := h
theorem tsk_one {K : Bool → AL → Prop} (h : TrK e w u c ms ls K) : TsK [e] w u c ms ls K := h
/-- names that are told of no more -/
theorem Ex.forget {ms' : AM} (h : Ex sts w u c ms' ls KF) (hl : AM.le ms' ms) : Ex sts w u c ms ls KF :=
  ⟨fun ok D Q s S q => let ⟨m, F, hF⟩ := S.F; h.go ok D Q s ⟨⟨m, F, fun x a e => hF x a (hl.look e)⟩, S.N⟩ q⟩
/-- what stands at an index that is called for -/
structure ItC (K : AV → AL → Prop) (a : AV) (b : AV) (al : AL) : Prop where
  ex : ∃ n x, b = .i n ∧ ItemA al a n x ∧ K x al
structure ItA (e2 : PySem.Expr) (w : World) (u : Un) (c : Cd) (ms : AM) (K : AV → AL → Prop) (a : AV) (al : AL) : Prop where
  ex : EvK e2 w u c ms al (ItC K a)
theorem ek_itemK (hs : SubOk e2) (h : EvK e1 w u c ms ls (ItA e2 w u c ms K)) : EvK (.Subscript e1 e2 p) w u c ms ls K := by
  refine ⟨fun ok D Q s S q => ?_⟩
  refine Subscript_ (h.go ok D _ s S fun a v al tk h' D' l hB hv S => ?_)
  refine hB.ex.go ok D' _ { s with heap := h', toks := tk } S fun b v2 al tk h' D'' l' hC hv2 S => ?_
  obtain ⟨n, x, rfl, it, k⟩ := hC.ex
  obtain ⟨t, rfl⟩ := hv2
  cases it with
  | tup hx h0 hn =>
    obtain ⟨y, vs, rfl, ht, hvs⟩ := hv.mono l'
    obtain ⟨L, O⟩ := S.N.opn
    obtain ⟨v, hv, hb⟩ := avs_get _ hvs hx
    have hlt := (List.getElem?_eq_some_iff.mp hv).1
    refine item_tupleT (j := n.toNat) (News.isTup O.N (O.tup _ ht)) (by omega) (by omega) ?_ hv (q _ _ al tk h' D'' (l.trans l') k hb S) (hs _ _ _)
    unfold seqIndex?
    simp only [Int.not_lt.mpr h0, if_false]
    rw [if_pos (by simp; omega)]
  | lst m hx h0 hn =>
    obtain ⟨L, O⟩ := S.N.opn
    obtain ⟨y, vs, n', rfl, i, ha, hvs⟩ := O.list (hv.mono l') m
    obtain ⟨v, hv, hb⟩ := avs_get _ hvs hx
    exact my_item (News.isList O.N i) h0 (by omega) hv (q _ _ al tk h' D'' (l.trans l') k hb S) (hs _ _ _)
end
end
end
section
local macro_rules | `(tactic| walk_at "slot") => `(tactic| ((first | with_reducible assumption | with_reducible exact get_snoc | (apply get_set; (· walk_at "slot")) | (apply get_set_ne; (· walk_at "slot"); (· walk_at "slot"); (· (exact rfl))) | (apply get_off; (· walk_at "slot"); (· (first | assumption | decide))) | (apply get_left; (· walk_at "slot")) | exact rfl)))
local macro_rules | `(tactic| walk_at "EvT Name") => `(tactic| (plain_pass; (first | (apply ev_local; (· (exact rfl)); (· (exact rfl)); (· (exact rfl)); (· (exact rfl)); (· (exact rfl))) | (apply ev_globI; (· k_is); (· (exact rfl)); (· (exact rfl))) | (apply ev_glob; (· k_is); (· (exact rfl)); (· (exact rfl))) | (apply ev_blt; (· k_is); (· boot_by_name); (· decide); (· (exact rfl)); (· (exact rfl))) | (apply ev_still; (· (exact rfl)); (· (exact rfl)); (· (exact fun _ => rfl)); (· (exact fun h => absurd h (by decide))); (· (exact rfl))) | (apply ev_still; (· (exact rfl)); (· (exact rfl)); (· (exact fun h => absurd h (by decide))); (· (exact fun _ => ⟨rfl, rfl⟩)); (· (exact rfl))))))
local macro_rules | `(tactic| walk_at "EvT Constant") => `(tactic| ((first | exact ev_int | exact ev_none | exact ev_bool | exact ev_str)))
local macro_rules | `(tactic| walk_at "EvT Attribute") => `(tactic| (plain_pass; (first | (apply ev_attr; (· (walk; done)); (· walk_at "slot"); (· walk_at "slot"); (· (exact rfl)); (· (exact ⟨by k_is, by k_is, by k_is, by k_is⟩)); (· (exact rfl))) | (apply ev_attr2; (· (walk; done)); (· walk_at "slot"); (· walk_at "slot"); (· (exact rfl)); (· (exact ⟨by k_is, by k_is, by k_is, by k_is⟩)); (· (exact rfl))) | (apply ev_attr3; (· (walk; done)); (· walk_at "slot"); (· walk_at "slot"); (· (exact rfl)); (· (exact ⟨by k_is, by k_is, by k_is, by k_is⟩)); (· (exact rfl))))))
local macro_rules | `(tactic| walk_at "EvT BinOp") => `(tactic| (plain_pass; (first | (apply ev_add; (· (walk; done)); (· (walk; done))) | (apply ev_sub; (· (walk; done)); (· (walk; done))) | (apply ev_mul; (· (walk; done)); (· (walk; done)); (· (first | with_reducible assumption | assumption | decide))) | (apply ev_fdiv; (· (walk; done)); (· (walk; done)); (· (first | with_reducible assumption | assumption | decide | omega)); (· (first | with_reducible assumption | assumption | decide))) | (apply ev_mod; (· (walk; done)); (· (walk; done)); (· (first | with_reducible assumption | assumption | decide | omega))))))
local macro_rules | `(tactic| walk_at "EvT Call") => `(tactic| (plain_pass; (first | (apply ev_hget2; (· (walk; done)); (· walk_at "slot"); (· (walk; done)); (· (walk; done)); (· (exact fun _ => rfl)); (· (exact fun _ => rfl)); (· (exact rfl))) | (apply ev_hget1; (· (walk; done)); (· walk_at "slot"); (· (walk; done)); (· (exact fun _ => rfl)); (· (exact rfl))) | (apply ev_min; (· (walk; done)); (· (walk; done)); (· (walk; done)); (· (exact fun _ => rfl)); (· (exact fun _ => rfl))) | (apply ev_lenT; (· (walk; done)); (· (walk; done)); (· (first | assumption | decide | (simp; omega) | omega)); (· (exact fun _ => rfl))) | (apply ev_len; (· (walk; done)); (· (walk; done)); (· walk_at "slot"); (· (first | assumption | decide | (simp; omega) | omega)); (· (exact fun _ => rfl))))))
local macro_rules | `(tactic| walk_at "EvT Subscript") => `(tactic| (plain_pass; (first | (apply ev_sd; (· (intro _ _ _; with_unfolding_all rfl)); (· (walk; done)); (· (walk; done)); (· walk_at "slot"); (· (exact rfl))) | (apply ev_item; (· (intro _ _ _; with_unfolding_all rfl)); (· (walk; done)); (· (walk; done)); (· (first | (apply ItemA.tup; (· first | with_reducible assumption | assumption | exact rfl); (· (first | with_reducible assumption | assumption | decide | omega)); (· (first | with_reducible assumption | assumption | decide | omega))) | (apply ItemA.lst; (· walk_at "slot"); (· first | with_reducible assumption | assumption | exact rfl); (· (first | with_reducible assumption | assumption | decide | omega)); (· (first | with_reducible assumption | assumption | decide | omega)))))))))
local macro_rules | `(tactic| walk_at "EvT UnaryOp") => `(tactic| (plain_pass; (apply ev_neg; (· (walk; done)))))
local macro_rules | `(tactic| walk_at "EvT Compare") => `(tactic| (plain_pass; (first | (apply ev_lt; (· (walk; done)); (· (walk; done)); (· (exact rfl))) | (apply ev_ge; (· (walk; done)); (· (walk; done)); (· (exact rfl))) | (apply ev_gt; (· (walk; done)); (· (walk; done)); (· (exact rfl))) | (apply ev_isV; (· (walk; done)); (· (exact rfl)); (· (exact rfl))) | (apply ev_in; (· (exact rfl)); (· (walk; done)); (· (walk; done)); (· walk_at "slot")))))
local macro_rules | `(tactic| walk_at "TrT Compare") => `(tactic| (plain_pass; (first | (apply tr_lt; (· (walk; done)); (· (walk; done)); (· (exact rfl))) | (apply tr_le; (· (walk; done)); (· (walk; done)); (· (exact rfl))) | (apply tr_gt; (· (walk; done)); (· (walk; done)); (· (exact rfl))) | (apply tr_ge; (· (walk; done)); (· (walk; done)); (· (exact rfl))) | (apply tr_eq; (· (walk; done)); (· (walk; done)); (· (exact rfl))) | (apply tr_isV; (· (walk; done)); (· (exact rfl)); (· (exact rfl))) | (apply tr_noV; (· (walk; done)); (· (exact rfl)); (· (exact rfl))))))
local macro_rules | `(tactic| walk_at "TrT UnaryOp") => `(tactic| (plain_pass; (first | (apply tr_notD; (· (walk; done))) | (apply tr_not; (· (walk; done))))))
local macro_rules | `(tactic| walk_at "ArT nil") => `(tactic| (exact ar_nil))
local macro_rules | `(tactic| walk_at "ArT cons") => `(tactic| (plain_pass; (apply ar_cons; (· (walk; done)); (· (walk; done)); (· (exact fun _ => rfl)))))
local macro_rules | `(tactic| walk_at "Ex nil") => `(tactic| (refine ex_nil ?_))
local macro_rules | `(tactic| walk_at "forall") => `(tactic| (plain_pass; intro))
local macro_rules | `(tactic| walk_at "Ex cons") => `(tactic| (plain_pass; (first | (apply ex_ifD; (· (walk; done))) | (apply ex_ret; (· (walk; done))) | (apply ex_asg; (· (walk; done)); (· (exact rfl)); (· (exact rfl)); (· (exact rfl)); (· (exact fun _ => rfl))) | (apply ex_set; (· (walk; done)); (· (walk; done)); (· walk_at "slot"); (· walk_at "slot"); (· (exact ⟨by k_is, by k_is, by k_is, by k_is⟩)); (· (exact Nat.le_of_ble_eq_true rfl)); (· (exact fun _ => rfl))) | (apply ex_sdset; (· (exact rfl)); (· (walk; done)); (· (walk; done)); (· (walk; done)); (· walk_at "slot"); (· (exact rfl)); (· (exact Nat.le_of_ble_eq_true rfl))) | apply ex_ifK | apply ex_retK | (apply ex_asgK; (· (exact rfl)); (· (exact rfl)); (· (exact rfl)); (· (exact fun _ => rfl))) | (apply ex_asgCN; (· (exact rfl)); (· (exact rfl)); (· (exact Nat.le_of_ble_eq_true rfl)); (· (first | assumption | exact rfl)); (· (with_unfolding_all exact rfl)); (· (with_unfolding_all exact rfl)); (· decide); (· (exact rfl)); (· decide); (· (exact rfl)); (· (exact rfl)); (· (exact rfl)); (· (exact rfl)); (· (exact rfl)); (· (exact rfl)); (· (exact fun _ => rfl))) | (apply ex_setK; (· (exact fun _ => rfl))) | (apply ex_lset; (· (exact rfl))) | (apply ex_forN; (· (exact rfl)); (· (exact rfl)); (· (exact rfl)); (· (exact fun _ => rfl))) | (apply ex_forP; (· (exact rfl)); (· (exact rfl)); (· (exact rfl)); (· (exact rfl)); (· (exact rfl)); (· (exact fun _ => rfl))) | (apply ex_swap; (· (exact rfl)); (· (refine List.forall_mem_cons.mpr ⟨⟨rfl, rfl⟩, List.forall_mem_cons.mpr ⟨⟨rfl, rfl⟩, ?_⟩⟩; first | exact fun _ h => (nomatch h) | exact List.forall_mem_cons.mpr ⟨⟨rfl, rfl⟩, fun _ h => (nomatch h)⟩)); (· (exact rfl)); (· (exact rfl))) | (apply ex_asgP; (· (exact rfl)); (· (exact rfl)); (· (exact rfl)); (· (exact rfl)); (· (exact rfl)); (· (exact rfl)); (· (exact rfl))) | (apply ex_expr; (· (exact rfl)); (· (exact fun _ => rfl))))))
local macro_rules | `(tactic| walk_at "SrK Name") => `(tactic| (plain_pass; apply sr_lst))
local macro_rules | `(tactic| walk_at "SrK Attribute") => `(tactic| (plain_pass; apply sr_lst))
local macro_rules | `(tactic| walk_at "SrK Subscript") => `(tactic| (plain_pass; apply sr_lst))
local macro_rules | `(tactic| walk_at "SrK Call") => `(tactic| (plain_pass; (first | (apply sr_rng1; (· (walk; done)); (· (exact fun _ => rfl))) | (apply sr_rng3; (· (walk; done)); (· (exact fun _ => rfl)); (· (exact fun _ => rfl)); (· (exact fun _ => rfl)); (· (walk; done)); (· (walk; done)); (· (walk; done)); (· (first | omega | (simp; omega))); (· (first | omega | (simp; omega)))))))
local macro_rules | `(tactic| walk_at "TsK nil") => `(tactic| (plain_pass; apply tsk_nil))
local macro_rules | `(tactic| walk_at "TsK cons") => `(tactic| (plain_pass; apply tsk_one))
local macro_rules | `(tactic| walk_at "EvK") => `(tactic| (plain_pass; (apply ek_pure; (· (walk; done)))))
local macro_rules | `(tactic| walk_at "TrT") => `(tactic| (plain_pass; (apply tr_name; (· (walk; done)); (· (exact rfl)))))
local macro_rules | `(tactic| walk_at "EvK IfExp") => `(tactic| (plain_pass; apply ek_ifexp))
local macro_rules | `(tactic| walk_at "EvK ListComp") => `(tactic| (plain_pass; (first | (apply ek_compN; (· (exact rfl)); (· (exact rfl)); (· (exact Nat.le_of_ble_eq_true rfl)); (· (first | assumption | exact rfl)); (· (with_unfolding_all exact rfl)); (· (with_unfolding_all exact rfl)); (· decide); (· (exact rfl)); (· decide); (· (exact rfl)); (· (exact rfl)); (· (exact rfl)); (· (exact fun _ => rfl))) | (apply ek_compP; (· (exact rfl)); (· (exact rfl)); (· (exact Nat.le_of_ble_eq_true rfl)); (· (first | assumption | exact rfl)); (· (with_unfolding_all exact rfl)); (· (with_unfolding_all exact rfl)); (· decide); (· (exact rfl)); (· decide); (· (exact rfl)); (· (exact rfl)); (· (exact rfl)); (· (exact rfl)); (· (exact rfl)); (· (exact rfl)); (· (exact fun _ => rfl))))))
local macro_rules | `(tactic| walk_at "EvK Subscript") => `(tactic| (plain_pass; (first | (apply ek_pure; (· (walk; done))) | (apply ek_take9; (· (intro _ _; with_unfolding_all rfl))) | (apply ek_from; (· (intro _ _; with_unfolding_all rfl)); (· (intro al; (walk; done))); (· omega)) | (apply ek_item; (· (intro _ _ _; with_unfolding_all rfl))))))
local macro_rules | `(tactic| walk_at "EvK BinOp") => `(tactic| (plain_pass; (first | (apply ek_pure; (· (walk; done))) | apply ek_add | apply ek_subI | (apply ek_mulL; (· (intro al; (walk; done))); (· (exact rfl))))))
local macro_rules | `(tactic| walk_at "EvK Dict") => `(tactic| (plain_pass; (first | apply ek_dict0 | (apply ek_dictS; (· (exact rfl)); (· (exact rfl)); (· (exact List.cons_ne_nil _ _)); (· (exact Nat.le_of_ble_eq_true rfl))) | (apply ek_dictI; (· (exact rfl)); (· (exact rfl)); (· (exact List.cons_ne_nil _ _)); (· (exact Nat.le_of_ble_eq_true rfl))))))
local macro_rules | `(tactic| walk_at "PrK nil") => `(tactic| (plain_pass; apply pr_nil))
local macro_rules | `(tactic| walk_at "PrK cons") => `(tactic| (plain_pass; apply pr_cons))
local macro_rules | `(tactic| walk_at "EvK UnaryOp") => `(tactic| (plain_pass; (first | (apply ek_pure; (· (walk; done))) | apply ek_not)))
local macro_rules | `(tactic| walk_at "EvK BoolOp") => `(tactic| (plain_pass; (first | apply ek_one | apply ek_and | apply ek_or)))
local macro_rules | `(tactic| walk_at "EvK Tuple") => `(tactic| (plain_pass; (apply ek_tup; (· decide))))
local macro_rules | `(tactic| walk_at "EvK List") => `(tactic| (plain_pass; apply ek_list))
local macro_rules | `(tactic| walk_at "EvK Compare") => `(tactic| (plain_pass; (first | (apply ek_pure; (· (walk; done))) | (apply ev_eqnil_ret; (· (exact rfl)); (· omega); (· (walk; done)); (· walk_at "slot")) | (apply ek_cmI; (· (exact rfl))))))
local macro_rules | `(tactic| walk_at "EvK Call") => `(tactic| (plain_pass; (first | (apply ek_pure; (· (walk; done))) | (apply ek_callK; (· (walk; done)); (· k_is); (· (exact fun _ => rfl)); (· (exact fun _ _ => rfl))) | (apply ek_call0; (· (walk; done)); (· k_is)) | (apply ek_methK; (· (walk; done)); (· walk_at "slot"); (· walk_at "slot"); (· (exact rfl)); (· (exact ⟨by k_is, by k_is, by k_is, by k_is⟩)); (· (exact fun _ => rfl)); (· (exact fun _ _ => rfl)); (· (exact rfl))) | (apply ek_meth0; (· (walk; done)); (· walk_at "slot"); (· walk_at "slot"); (· (exact rfl)); (· (exact ⟨by k_is, by k_is, by k_is, by k_is⟩)); (· (exact rfl))) | (apply ek_lmeth; (· (exact PySem.F.slot_list_append)); (· (exact PySem.F.type_list_append)); (· (walk; done)); (· walk_at "slot"); (· (exact fun _ => rfl)); (· (exact fun _ _ => rfl)); (· (exact rfl))) | (apply ek_lmeth; (· (exact PySem.F.slot_list_pop)); (· (exact PySem.F.type_list_pop)); (· (walk; done)); (· walk_at "slot"); (· (exact fun _ => rfl)); (· (exact fun _ _ => rfl)); (· (exact rfl))) | (apply ek_callB; (· (walk; done)); (· (exact fun _ => rfl)); (· (exact fun _ _ => rfl))) | (apply ek_callY; (· (walk; done)); (· (exact fun _ => rfl)); (· (exact fun _ _ => rfl))))))
local macro_rules | `(tactic| walk_at "CallW builtin:list.append") => `(tactic| (plain_pass; (apply append_w; (· walk_at "slot"); (· (first | assumption | decide | (simp; omega) | omega)))))
local macro_rules | `(tactic| walk_at "CallW builtin:list.pop") => `(tactic| (plain_pass; (apply pop_w; (· walk_at "slot"); (· (first | assumption | decide | (simp; omega) | omega)))))
local macro_rules | `(tactic| walk_at "CallW builtin:sum") => `(tactic| (plain_pass; (apply sum_w; (· walk_at "slot"))))
local macro_rules | `(tactic| walk_at "CallW builtin:abs") => `(tactic| (plain_pass; apply abs_w))
local macro_rules | `(tactic| walk_at "CallW type:tuple") => `(tactic| (plain_pass; (apply tuple_w; (· walk_at "slot"); (· (first | assumption | decide | (simp; omega) | omega)))))
local macro_rules | `(tactic| walk_at "CallW builtin:max") => `(tactic| (plain_pass; (apply max_w; (· walk_at "slot"); (· (first | assumption | decide | (simp; omega) | omega)))))
local macro_rules | `(tactic| walk_at "CallW builtin:len") => `(tactic| (plain_pass; (apply len_w; (· walk_at "slot"); (· (first | assumption | decide | (simp; omega) | omega)))))
local macro_rules | `(tactic| walk_at "BiA") => `(tactic| (plain_pass; apply BiA.in))
local macro_rules | `(tactic| walk_at "BiB") => `(tactic| (plain_pass; (first | apply BiB.inA | apply BiB.inS)))
local macro_rules | `(tactic| walk_at "CmA") => `(tactic| (plain_pass; apply CmA.in))
local macro_rules | `(tactic| walk_at "CmB") => `(tactic| (plain_pass; (first | apply CmB.inG | apply CmB.inE | apply CmB.inL)))
local macro_rules | `(tactic| walk_at "TwB") => `(tactic| (plain_pass; apply TwB.in))
local macro_rules | `(tactic| walk_at "SeB") => `(tactic| (plain_pass; (apply SeB.in; (· (walk; done)); (· walk_at "slot"); (· walk_at "slot"); (· (exact ⟨by k_is, by k_is, by k_is, by k_is⟩)); (· (exact Nat.le_of_ble_eq_true rfl)))))
local macro_rules | `(tactic| walk_at "ItB") => `(tactic| (plain_pass; (apply ItB.in; (· (walk; done)); (· (first | (apply ItemA.tup; (· first | with_reducible assumption | assumption | exact rfl); (· (first | with_reducible assumption | assumption | decide | omega)); (· (first | with_reducible assumption | assumption | decide | omega))) | (apply ItemA.lst; (· walk_at "slot"); (· first | with_reducible assumption | assumption | exact rfl); (· (first | with_reducible assumption | assumption | decide | omega)); (· (first | with_reducible assumption | assumption | decide | omega))))))))
local macro_rules | `(tactic| walk_at "RgB") => `(tactic| (plain_pass; (apply RgB.in; (· (first | omega | (simp; omega))); (· (first | omega | (simp; omega))))))
local macro_rules | `(tactic| walk_at "LiB") => `(tactic| (plain_pass; (apply LiB.in; (· walk_at "slot"))))
local macro_rules | `(tactic| walk_at "AddX") => `(tactic| (plain_pass; (first | (apply AddX.inL; (· walk_at "slot")) | (apply AddX.inI) | (apply AddX.inT; (· (walk; done)); (· (simp only [List.length_cons, List.length_nil]; omega))))))
local macro_rules | `(tactic| walk_at "AddB") => `(tactic| (plain_pass; (apply AddB.in; (· walk_at "slot"); (· walk_at "slot"); (· (first | assumption | decide | (simp; omega) | omega)))))
local macro_rules | `(tactic| walk_at "SlA") => `(tactic| (plain_pass; (apply SlA.in; (· walk_at "slot"); (· (first | omega | (simp; omega))); (· (first | assumption | decide | (simp; omega) | omega)))))
local macro_rules | `(tactic| walk_at "LSt") => `(tactic| (plain_pass; (apply LSt.in; (· (walk; done)); (· (walk; done)); (· walk_at "slot"); (· (first | decide | omega)); (· (first | assumption | decide | (simp; omega) | omega)); (· (first | assumption | decide | (simp; omega) | omega)))))
local macro_rules | `(tactic| walk_at "MulL") => `(tactic| (plain_pass; (apply MulL.in; (· walk_at "slot"))))
local macro_rules | `(tactic| walk_at "NeA") => `(tactic| (plain_pass; apply NeA.mk))
local macro_rules | `(tactic| walk_at "NeB") => `(tactic| (plain_pass; (apply NeB.in; (· (exact rfl)))))
local macro_rules | `(tactic| walk_at "EqA") => `(tactic| (plain_pass; apply EqA.in))
local macro_rules | `(tactic| walk_at "EqB") => `(tactic| (plain_pass; (apply EqB.in; (· walk_at "slot"); (· walk_at "slot"); (· (exact rfl)))))
local macro_rules | `(tactic| walk_at "DiS") => `(tactic| (plain_pass; (apply DiS.in; (· (exact rfl)); (· decide))))
local macro_rules | `(tactic| walk_at "DiI") => `(tactic| (plain_pass; (apply DiI.mk; refine ⟨_, _, _, _, rfl, rfl, ?_⟩)))
local macro_rules | `(tactic| walk_at "And") => `(tactic| (plain_pass; refine ⟨rfl, ?_⟩))
local macro_rules | `(tactic| walk_at "Exists") => `(tactic| (plain_pass; refine ⟨_, rfl, ?_⟩))
local macro_rules | `(tactic| walk_at "ArK") => `(tactic| (plain_pass; (first | (apply ak_pure; (· (walk; done))) | (apply ak_cons; (· (exact fun _ => rfl))))))
local macro_rules | `(tactic| walk_at "TrK") => `(tactic| (plain_pass; (first | (apply tk_pure; (· (walk; done))) | apply tk_not | (apply tk_call; (· (exact rfl))))))
local macro_rules | `(tactic| walk_at "TrK Compare") => `(tactic| (plain_pass; (first | (apply tk_pure; (· (walk; done))) | (apply tk_eqnil; (· (exact rfl)); (· omega); (· (walk; done)); (· walk_at "slot")) | (apply tk_nenil; (· (exact rfl)); (· omega); (· (walk; done)); (· walk_at "slot")) | (apply tk_ne; (· (exact rfl)); (· omega)) | (apply tk_cmI; (· (exact rfl))))))
local macro_rules | `(tactic| walk_at "TrK BoolOp") => `(tactic| (plain_pass; (first | apply tk_or | apply tk_and | apply tk_or_nil | apply tk_and_nil)))
local macro_rules | `(tactic| walk_at "ite") => `(tactic| (first | with_reducible refine ite_ND ?_ ?_ | with_reducible refine ite_D ?_ ?_ | (with_unfolding_all refine ite_T rfl ?_) | (with_unfolding_all refine ite_F rfl ?_) | refine ite_B ?_ ?_))
local macro_rules | `(tactic| walk_at "aft") => `(tactic| (first | refine aft_next ?_ | refine aft_ret ?_))
local macro_rules | `(tactic| walk_at "fin") => `(tactic| (first | refine fin_ret ?_ | refine fin_next ?_))
local macro_rules | `(tactic| k_offL) => `(tactic| ((try apply CodeW.call); (first | (refine' enter (ds := []) ?l ?c ?b ?n ?d ?e1 ?e2 ?e3 ?cc ?_; (case l => k_is); (case e1 => exact rfl); (case e2 => exact rfl); (case e3 => exact rfl); (case c => k_is); (case b => (intro s' X'; first | exact len1 fun _ => BindsTo.of_eq rfl | exact len2 fun _ _ => BindsTo.of_eq rfl | exact len3 fun _ _ _ => BindsTo.of_eq rfl | exact len4 fun _ _ _ _ => BindsTo.of_eq rfl | exact len2 fun _ _ => binds_K X' rfl (by k_is) rfl rfl rfl | exact len3 fun _ _ _ => binds_K X' rfl (by k_is) rfl rfl rfl | exact len4 fun _ _ _ _ => binds_K X' rfl (by k_is) rfl rfl rfl)); (case n => decide +kernel); (case d => omega); (case cc => decide +kernel); intro u' hu) | (refine' enterC ?l ?c ?b ?n ?nc ?nd ?d ?e1 ?e2 ?e3 ?_; (case l => k_is); (case e1 => exact rfl); (case e2 => exact rfl); (case e3 => exact rfl); (case c => k_is); (case b => first | exact len1 fun _ => rfl | exact len2 fun _ _ => rfl | exact len3 fun _ _ _ => rfl | exact len4 fun _ _ _ _ => rfl); (case n => decide +kernel); (case nc => decide +kernel); (case nd => decide +kernel); (case d => omega); intro u' hu hcl)); dsimp only [List.map, List.zip, List.zipWith, List.reverse, List.reverseAux, List.append_eq, List.nil_append, List.cons_append]))
section
theorem clr_Y5 : True := by
  w_top off
  trivial
variable {w : World} {A A₀ : Around} {base h₀ : Heap} {outer : List Env} {env : Env} {L : Addr} {m : Str → Option Value} {s : Shared} {Q E : Value → Shared → Prop} {mean : ExcName → Option Value} {mg mb : Str → Option Value}
noncomputable def rowA (th : Nat) (oc dp : Int) : List (Str × AV) := [("most", .i 9), ("most_octets", .i 999), ("things", .r th), ("octets", .i oc), ("dropped", .i dp)]
/-- a queue at slots r, dr, th -/
structure RoA (al : AL) (r dr th : Nat) (us : List AV) (oc dp : Int) : Prop where
  m1 : al[r]? = some (.inst 341 dr)
  m2 : al[dr]? = some (.dct (rowA th oc dp))
  m3 : al[th]? = some (.lst us)
section
variable {w : World} {u : Un} {al : AL} {K : AV → AL → Prop}
set_option maxHeartbeats 2000000
theorem empty_y {r dr th : Nat} {us : List AV} {oc dp : Int} (hd : u.d < 880) (m : RoA al r dr th us oc dp) (hK : K (.v (.bool us.isEmpty)) (al ++ [.lst []])) : CallW w u al (.ref 324) [.r r] K := by
  obtain ⟨m1, m2, m3⟩ := m
  k_offL
  walk
  exact hK
theorem put_y {r dr th : Nat} {us : List AV} {oc dp size : Int} {x : AV} (hd : u.d < 880) (m : RoA al r dr th us oc dp) (hz : us.length ≤ 1000000)
    (h1 : 9 ≤ us.length ∨ 999 < oc + size → K (.v (.bool false)) (al.set dr (.dct (rowA th oc (dp + 1)))))
    (h2 : us.length < 9 → oc + size ≤ 999 → K (.v (.bool true)) ((al.set th (.lst (us ++ [.t [.i size, x]]))).set dr (.dct (rowA th (oc + size) dp)))) : CallW w u al (.ref 317) [.r r, .i size, x] K := by
  obtain ⟨m1, m2, m3⟩ := m
  k_offL
  walk
  · exact h1 (.inl (by omega))
  · exact h1 (.inr (by omega))
  · exact h2 (by omega) (by omega)
theorem rtake_y {r dr th : Nat} {us : List AV} {oc dp z : Int} {x : AV} (hd : u.d < 880) (m : RoA al r dr th (.t [.i z, x] :: us) oc dp) (hz : us.length < 9)
    (hK : K (.t [.i z, x]) ((al.set th (.lst us)).set dr (.dct (rowA th (oc - z) dp)))) : CallW w u al (.ref 338) [.r r] K := by
  obtain ⟨m1, m2, m3⟩ := m
  k_offL
  walk
  exact hK
end
end
section
local macro_rules | `(tactic| walk_at "no such key") => `(tactic| fail)
theorem clr_Y6 : True := by
  w_top off
  trivial
variable {w : World} {A A₀ : Around} {base h₀ : Heap} {outer : List Env} {env : Env} {L : Addr} {m : Str → Option Value} {s : Shared} {Q E : Value → Shared → Prop} {mean : ExcName → Option Value} {mg mb : Str → Option Value}
/-- what a port may send: nothing is held, or a list of numbers -/
noncomputable def AlwA (al : AL) (aw : AV) (ok : Int → Bool) : Prop := aw = .v .none ∧ (∀ n, ok n = true) ∨ ∃ k ns, aw = .r k ∧ al[k]? = some (.lst (List.map .i ns)) ∧ ∀ n, ok n = ns.any (· == n)
section
variable {w : World} {u : Un} {al : AL} {K : AV → AL → Prop}
set_option maxHeartbeats 2000000
theorem go_y {rl r dr th : Nat} {rs us : List AV} {oc dp n : Int} {aw : AV} {ok : Int → Bool} (hd : u.d < 870) (m0 : al[rl]? = some (.lst rs)) (mi : rs[n.toNat]? = some (.r r)) (n0 : 0 ≤ n) (n1 : n < 100) (m : RoA al r dr th us oc dp) (ha : AlwA al aw ok)
    (hK : K (.v (.bool (!us.isEmpty && ok n))) (al ++ [.lst []])) : CallW w u al (.ref 352) [.r rl, .i n, aw] K := by
  have m' := m
  obtain ⟨m1, m2, m3⟩ := m
  rcases ha with ⟨rfl, ho⟩ | ⟨k, ns, rfl, mk, ho⟩
  · k_offL
    walk
    refine empty_y (by omega) m' ⟨_, rfl, _, rfl, ?_⟩
    rw [ho, Bool.and_true] at hK
    cases hu : us.isEmpty with
    | true => rw [hu] at hK; walk; exact hK
    | false => rw [hu] at hK; walk; exact hK
  · k_offL
    walk
    refine empty_y (by omega) m' ⟨_, rfl, _, rfl, ?_⟩
    rw [ho] at hK
    cases hu : us.isEmpty with
    | true => rw [hu] at hK; walk; exact hK
    | false => rw [hu] at hK; walk; exact hK
end
end
section
theorem clr_Y16 : True := by
  w_top off
  trivial
variable {w : World} {A A₀ : Around} {base h₀ : Heap} {outer : List Env} {env : Env} {L : Addr} {m : Str → Option Value} {s : Shared} {Q E : Value → Shared → Prop} {mean : ExcName → Option Value} {mg mb : Str → Option Value}
section
variable {w : World} {u : Un} {al : AL} {K : AV → AL → Prop}
set_option maxHeartbeats 2000000
theorem RoA.app {r dr th : Nat} {us : List AV} {oc dp : Int} (m : RoA al r dr th us oc dp) {j : AL} : RoA (al ++ j) r dr th us oc dp := ⟨get_left m.m1, get_left m.m2, get_left m.m3⟩
theorem AlwA.app {aw : AV} {ok : Int → Bool} (h : AlwA al aw ok) {j : AL} : AlwA (al ++ j) aw ok := by
  rcases h with h | ⟨k, ns, e, m, h⟩
  · exact .inl h
  · exact .inr ⟨k, ns, e, get_left m, h⟩
/-- the queues of a port, from the list of their rows -/
structure RowR where
  r : Nat
  dr : Nat
  th : Nat
  us : List AV
  oc : Int
  dp : Int
noncomputable def RowR.At (al : AL) (x : RowR) : Prop := RoA al x.r x.dr x.th x.us x.oc x.dp
structure QuA (al : AL) (q dq rl : Nat) (rs : List RowR) : Prop where
  m1 : al[q]? = some (.inst 395 dq)
  m2 : al[dq]? = some (.dct [("rows", .r rl)])
  m3 : al[rl]? = some (.lst (rs.map fun x => .r x.r))
  rows : ∀ x ∈ rs, RowR.At al x
theorem QuA.app {q dq rl : Nat} {rs : List RowR} (m : QuA al q dq rl rs) {j : AL} : QuA (al ++ j) q dq rl rs := ⟨get_left m.m1, get_left m.m2, get_left m.m3, fun x hx => (m.rows x hx).app⟩
/-- the first of the rows, from the top, that may go -/
noncomputable def lookI (ok : Int → Bool) (rs : List RowR) : Nat → Option Nat
  | 0 => none
  | n + 1 => if (match rs[n]? with | some x => !x.us.isEmpty | none => false) && ok n then some n else lookI ok rs n
theorem look_y {q dq rl : Nat} {rs : List RowR} {aw : AV} {ok : Int → Bool} (hd : u.d < 860) (m : QuA al q dq rl rs) (ha : AlwA al aw ok) (hz : rs.length ≤ 50) (ht : ∀ x ∈ rs, ∀ y ∈ x.us, ∃ z t, y = .t [.i z, t])
    (h0 : ∀ j, lookI ok rs rs.length = none → K (.v .none) (al ++ j))
    (h1 : ∀ j n x z t us, lookI ok rs rs.length = some n → rs[n]? = some x → x.us = .t [.i z, t] :: us → K (.t [.i n, .i z, t]) (al ++ j)) : CallW w u al (.ref 379) [.r q, aw] K := by
  have m' := m
  obtain ⟨m1, m2, m3, hr⟩ := m
  k_offL
  walk
  have e : ((rs.map fun x => AV.r x.r).length - 1 + 1 : Int).toNat = rs.length := by rw [List.length_map]; omega
  rw [e]
  refine ⟨fun i ms' al' => ms' = ([("allowed", aw), ("self", .r q)] : AM) ∧ ∃ j, al' = al ++ j ∧ lookI ok rs rs.length = lookI ok rs (rs.length - i), ⟨rfl, [], by simp, rfl⟩, fun _ _ _ _ => trivial, ?_, ?_⟩
  · rintro i ms' al' hi ⟨rfl, j, rfl, hl⟩
    replace hi : i < rs.length := hi
    refine ⟨trivial, fun u2 hs => ?_⟩
    have hd2 := hs.d
    have hx := List.getElem?_eq_getElem (show rs.length - 1 - i < rs.length by omega)
    generalize rs[rs.length - 1 - i] = x at hx
    have hxm := List.mem_of_getElem? hx
    have hk : (rs.map fun x => AV.r x.r).length - 1 + (i : Int) * -1 = ((rs.length - 1 - i : Nat) : Int) := by rw [List.length_map]; omega
    show Ex _ _ _ _ ([("number", .i ((rs.map fun x => AV.r x.r).length - 1 + (i : Int) * -1)), ("allowed", aw), ("self", .r q)] : AM) _ _
    rw [hk]
    have hi' : rs.length - i = (rs.length - 1 - i) + 1 := by omega
    rw [hi'] at hl
    have hi2 : rs.length - (i + 1) = rs.length - 1 - i := by omega
    generalize rs.length - 1 - i = k at *
    have hit : (rs.map fun x => AV.r x.r)[(k : Int).toNat]? = some (.r x.r) := by rw [Int.toNat_natCast, List.getElem?_map, hx]; rfl
    have hk2 : k < rs.length := (List.getElem?_eq_some_iff.mp hx).1
    have n1 := get_left (l' := j) m1
    have n2 := get_left (l' := j) m2
    have n3 := get_left (l' := j) m3
    walk
    refine go_y (by omega) n3 hit (by omega) (by omega) (hr x hxm).app ha.app ⟨_, rfl, ?_⟩
    replace hl := hl.trans (show lookI ok rs (k + 1) = if (match rs[k]? with | some x => !x.us.isEmpty | none => false) && ok k then some k else lookI ok rs k from rfl)
    rw [hx] at hl
    dsimp only at hl
    cases hb : (!x.us.isEmpty && ok k) with
    | true =>
      rw [hb, if_pos rfl] at hl
      obtain ⟨r, dr, th, us, oc, dp⟩ := x
      cases us with
      | nil => cases hb
      | cons y us =>
        obtain ⟨z, t, rfl⟩ := ht _ hxm y (.head _)
        obtain ⟨q1, q2, q3⟩ := (hr _ hxm).app (j := j)
        dsimp only at q1 q2 q3
        walk
        rw [List.append_assoc]
        exact h1 _ _ _ _ _ _ hl hx rfl
    | false =>
      rw [hb, if_neg Bool.false_ne_true] at hl
      walk
      exact ⟨([("allowed", aw), ("self", .r q)] : AM), ⟨rfl, rfl, trivial⟩, rfl, _, List.append_assoc .., by rw [hi2]; exact hl⟩
  · rintro ms' al' ⟨rfl, j, rfl, hl⟩
    replace hl : lookI ok rs rs.length = none := hl.trans (by show lookI ok rs (rs.length - rs.length) = none; rw [Nat.sub_self]; rfl)
    walk
    exact h0 _ hl
end
end
section
local macro_rules | `(tactic| walk_at "no such key") => `(tactic| fail)
theorem clr_Y17 : True := by
  w_top off
  trivial
variable {w : World} {A A₀ : Around} {base h₀ : Heap} {outer : List Env} {env : Env} {L : Addr} {m : Str → Option Value} {s : Shared} {Q E : Value → Shared → Prop} {mean : ExcName → Option Value} {mg mb : Str → Option Value}
section
variable {w : World} {u : Un} {al : AL} {K : AV → AL → Prop}
set_option maxHeartbeats 2000000
/-- the rows behind a take -/
noncomputable def popR (al : AL) (x : RowR) (us : List AV) (z : Int) : AL := (al.set x.th (.lst us)).set x.dr (.dct (rowA x.th (x.oc - z) x.dp))
theorem popR_app {al j : AL} {x : RowR} {us : List AV} {z : Int} (m : RowR.At al x) : popR (al ++ j) x us z = popR al x us z ++ j := by
  unfold popR
  rw [set_left m.m3]
  exact set_left (get_set_ne m.m2 m.m3 (by show ((7 + 5 : Nat) == 2) = false; rfl))
theorem take_y {q dq rl : Nat} {rs : List RowR} {aw : AV} {ok : Int → Bool} (hd : u.d < 850) (m : QuA al q dq rl rs) (ha : AlwA al aw ok) (hz : rs.length ≤ 50) (ht : ∀ x ∈ rs, (∀ y ∈ x.us, ∃ z t, y = .t [.i z, t]) ∧ x.us.length ≤ 9)
    (h0 : ∀ j, lookI ok rs rs.length = none → K (.v .none) (al ++ j))
    (h1 : ∀ j n x z t us, lookI ok rs rs.length = some n → rs[n]? = some x → x.us = .t [.i z, t] :: us → K (.t [.i n, .i z, t]) (popR al x us z ++ j)) : CallW w u al (.ref 387) [.r q, aw] K := by
  have m' := m
  obtain ⟨m1, m2, m3, hr⟩ := m
  k_offL
  walk
  refine look_y (by omega) m' ha hz (fun x hx => (ht x hx).1) (fun j e => ?_) fun j n x z t us e hx hu => ?_
  · walk
    exact h0 j e
  · have hxm := List.mem_of_getElem? hx
    have hn := (List.getElem?_eq_some_iff.mp hx).1
    have hit : (rs.map fun x => AV.r x.r)[(n : Int).toNat]? = some (.r x.r) := by rw [Int.toNat_natCast, List.getElem?_map, hx]; rfl
    have n1 := get_left (l' := j) m1
    have n2 := get_left (l' := j) m2
    have n3 := get_left (l' := j) m3
    have hro := (hr x hxm).app (j := j)
    have hl := (ht x hxm).2
    rw [hu] at hl
    obtain ⟨r, dr, th, us', oc, dp⟩ := x
    dsimp only at hu hit hl
    subst hu
    obtain ⟨q1, q2, q3⟩ := id hro
    dsimp only at q1 q2 q3
    walk
    refine rtake_y (by omega) hro (by simp only [List.length_cons] at hl; omega) ?_
    walk
    have e2 := popR_app (j := j) (us := us) (z := z) (hr _ hxm)
    unfold popR at e2
    rw [e2]
    exact h1 j n _ z t us e hx rfl
/-- a pause -/
structure PaA (al : AL) (pa dpa ul : Nat) (uns : List Int) : Prop where
  m1 : al[pa]? = some (.inst 292 dpa)
  m2 : al[dpa]? = some (.dct [("tick", .i 1), ("until", .r ul)])
  m3 : al[ul]? = some (.lst (uns.map .i))
theorem PaA.app {pa dpa ul : Nat} {uns : List Int} (m : PaA al pa dpa ul uns) {j : AL} : PaA (al ++ j) pa dpa ul uns := ⟨get_left m.m1, get_left m.m2, get_left m.m3⟩
theorem may_y {pa dpa ul : Nat} {uns : List Int} {n now x : Int} (hd : u.d < 880) (m : PaA al pa dpa ul uns) (n0 : 0 ≤ n) (n1 : n < 100) (hx : uns[n.toNat]? = some x) (hK : K (.v (.bool (decide (x ≤ now)))) al) : CallW w u al (.ref 289) [.r pa, .i n, .i now] K := by
  obtain ⟨m1, m2, m3⟩ := m
  have hx' : (uns.map AV.i)[n.toNat]? = some (.i x) := by rw [List.getElem?_map, hx]; rfl
  k_offL
  walk
  exact hK
/-- what a pause lets go -/
noncomputable def okP (nr : Nat) (now : Int) : Option (List Int) → Int → Bool
  | none, _ => true
  | some uns, n => decide (0 ≤ n ∧ n < nr) && decide (uns.getD n.toNat 0 ≤ now)
inductive PaV (al : AL) : AV → Option (List Int) → Prop
  | no : PaV al (.v .none) none
  | on {pa dpa ul : Nat} {uns : List Int} (m : PaA al pa dpa ul uns) : PaV al (.r pa) (some uns)
/-- a port -/
structure PoA (al : AL) (p dp q : Nat) (sv pv : AV) : Prop where
  m1 : al[p]? = some (.inst 229 dp)
  m2 : al[dp]? = some (.dct [("queues", .r q), ("shaper", sv), ("pause", pv)])
theorem PoA.app {p dp q : Nat} {sv pv : AV} (m : PoA al p dp q sv pv) {j : AL} : PoA (al ++ j) p dp q sv pv := ⟨get_left m.m1, get_left m.m2⟩
theorem filt_snoc {f : Nat → Bool} {i : Nat} : (List.range (i + 1)).filter f = (List.range i).filter f ++ (if f i = true then [i] else []) := by
  rw [List.range_succ, List.filter_append]
  congr 1
  cases h : f i <;> simp [h]
theorem allowed_y {p dp q dq rl : Nat} {sv pv : AV} {rs : List RowR} {po : Option (List Int)} {now : Int} (hd : u.d < 870) (m : PoA al p dp q sv pv) (mq : QuA al q dq rl rs) (mp : PaV al pv po) (hz : rs.length ≤ 50) (hu : ∀ uns, po = some uns → rs.length ≤ uns.length)
    (hK : ∀ aw j, AlwA (al ++ j) aw (okP rs.length now po) → K aw (al ++ j)) : CallW w u al (.ref 205) [.r p, .i now] K := by
  obtain ⟨p1, p2⟩ := m
  obtain ⟨m1, m2, m3, hr⟩ := mq
  cases mp with
  | no =>
    k_offL
    walk
    have h := hK (.v .none) [] (.inl ⟨rfl, fun _ => rfl⟩)
    rw [List.append_nil] at h
    exact h
  | @on pa dpa ul uns mp =>
    have hu := hu _ rfl
    have mp' := mp
    obtain ⟨a1, a2, a3⟩ := mp
    k_offL
    walk
    have e : ((rs.map fun x => AV.r x.r).length : Int).toNat = rs.length := by rw [List.length_map, Int.toNat_natCast]
    rw [e]
    have hlen : ∀ i, (((List.range i).filter fun k => decide (uns.getD k 0 ≤ now)).map fun k => AV.i (k : Nat)).length ≤ i := fun i => by
      rw [List.length_map]
      exact Nat.le_trans (List.length_filter_le _ _) (by rw [List.length_range]; exact Nat.le_refl _)
    refine ⟨fun i bs al' => bs = (((List.range i).filter fun k => decide (uns.getD k 0 ≤ now)).map fun k => AV.i (k : Nat)) ∧ al' = al, Nat.le_trans hz (by decide), ⟨rfl, rfl⟩, fun i bs al' h => ⟨trivial, by rw [h.1]; exact hlen i⟩, ?_, ?_⟩
    · rintro i bs al' hi ⟨rfl, rfl⟩
      replace hi : i < rs.length := hi
      refine ⟨trivial, fun u2 hs => ?_⟩
      have hd2 := hs.d
      have hx := List.getElem?_eq_getElem (show i < uns.length by omega)
      have hg : uns.getD i 0 = uns[i] := by rw [List.getD_eq_getElem?_getD, hx]; rfl
      generalize uns[i] = x at hx hg
      show TsK _ _ _ _ ([("number", .i (0 + (i : Int) * 1)), ("now", .i now), ("self", .r p)] : AM) _ _
      rw [show 0 + (i : Int) * 1 = i from by omega]
      walk
      refine may_y (by omega) mp' (by omega) (by omega) (by rw [Int.toNat_natCast]; exact hx) ⟨_, rfl, ?_⟩
      by_cases hb : x ≤ now
      · rw [decide_eq_true hb]
        walk
        rw [filt_snoc, hg, decide_eq_true hb, if_pos rfl, List.map_append]
        show _ ++ [AV.i (0 + (i : Int) * 1)] = _ ++ [AV.i (i : Int)]
        rw [show 0 + (i : Int) * 1 = i from by omega]
      · rw [decide_eq_false hb]
        walk
        rw [filt_snoc, hg, decide_eq_false hb, if_neg Bool.false_ne_true, List.append_nil]
    · rintro bs al' ⟨rfl, rfl⟩
      walk
      refine hK _ [_] (.inr ⟨_, ((List.range rs.length).filter fun k => decide (uns.getD k 0 ≤ now)).map fun k => ((k : Nat) : Int), rfl, ?_, fun n => ?_⟩)
      · rw [List.map_map]; exact get_snoc
      · rw [List.any_map, List.any_filter]
        unfold okP
        rw [Bool.eq_iff_iff, List.any_eq_true, Bool.and_eq_true, decide_eq_true_eq, decide_eq_true_eq]
        constructor
        · rintro ⟨⟨h0, h1⟩, h2⟩
          refine ⟨n.toNat, List.mem_range.mpr (by omega), ?_⟩
          simp only [Bool.and_eq_true, decide_eq_true_eq, Function.comp, beq_iff_eq]
          exact ⟨h2, by omega⟩
        · rintro ⟨k, hk, h2⟩
          simp only [Bool.and_eq_true, decide_eq_true_eq, Function.comp, beq_iff_eq] at h2
          obtain ⟨h2, rfl⟩ := h2
          have := List.mem_range.mp hk
          exact ⟨⟨by omega, by omega⟩, by rw [Int.toNat_natCast]; exact h2⟩
end
end
section
theorem clr_Y3 : True := by
  w_top off
  trivial
variable {w : World} {A A₀ : Around} {base h₀ : Heap} {outer : List Env} {env : Env} {L : Addr} {m : Str → Option Value} {s : Shared} {Q E : Value → Shared → Prop} {mean : ExcName → Option Value} {mg mb : Str → Option Value}
noncomputable def bkA (rate burst gr tm : Int) : List (Str × AV) := [("rate", .i rate), ("burst", .i burst), ("grains", .i gr), ("time", .i tm)]
/-- a shaper at slots sh, dsh, bk, dbk -/
structure ShA (al : AL) (sh dsh bk dbk : Nat) (rate burst gr tm : Int) : Prop where
  m1 : al[sh]? = some (.inst 181 dsh)
  m2 : al[dsh]? = some (.dct [("bucket", .r bk)])
  m3 : al[bk]? = some (.inst 139 dbk)
  m4 : al[dbk]? = some (.dct (bkA rate burst gr tm))
section
variable {w : World} {u : Un} {al : AL} {K : AV → AL → Prop}
set_option maxHeartbeats 2000000
theorem fill_y {bk dbk : Nat} {rate burst gr tm now : Int} (hd : u.d < 880) (m1 : al[bk]? = some (.inst 139 dbk)) (m2 : al[dbk]? = some (.dct (bkA rate burst gr tm))) (r1 : IntMulOk rate (now - tm)) (r2 : IntMulOk burst 100)
    (hK : ∀ n, K (.i n) (al.set dbk (.dct (bkA rate burst (filled rate burst gr tm now) (filledT tm now))))) : CallW w u al (.ref 94) [.r bk, .i now] K := by
  k_offL
  walk
  · have h := hK 0
    rw [show filled rate burst gr tm now = gr from if_pos (by assumption), show filledT tm now = tm from if_pos (by assumption), set_same m2] at h
    exact h
  · have h := hK
    rw [show filled rate burst gr tm now = _ from if_neg (by assumption), show filledT tm now = _ from if_neg (by assumption)] at h
    show K _ ((al.set dbk _).set dbk _)
    rw [List.set_set]
    exact h _
theorem spend_y {bk dbk : Nat} {rate burst gr tm size : Int} (hd : u.d < 880) (m1 : al[bk]? = some (.inst 139 dbk)) (m2 : al[dbk]? = some (.dct (bkA rate burst gr tm))) (r2 : IntMulOk size 100)
    (hK : K (.v .none) (al.set dbk (.dct (bkA rate burst (gr - size * 100) tm)))) : CallW w u al (.ref 115) [.r bk, .i size] K := by
  k_offL
  walk
  exact hK
theorem asked_y {sh dsh bk dbk : Nat} {rate burst gr tm size : Int} (hd : u.d < 880) (m : ShA al sh dsh bk dbk rate burst gr tm)
    (hK : K (.i (mn size burst)) al) : CallW w u al (.ref 164) [.r sh, .i size] K := by
  obtain ⟨m1, m2, m3, m4⟩ := m
  k_offL
  walk
  exact hK
theorem has_y {bk dbk : Nat} {rate burst gr tm size now : Int} (hd : u.d < 875) (m1 : al[bk]? = some (.inst 139 dbk)) (m2 : al[dbk]? = some (.dct (bkA rate burst gr tm))) (r1 : IntMulOk rate (now - tm)) (r2 : IntMulOk burst 100) (r3 : IntMulOk size 100)
    (hK : K (.v (.bool (decide (size * 100 ≤ filled rate burst gr tm now)))) (al.set dbk (.dct (bkA rate burst (filled rate burst gr tm now) (filledT tm now))))) : CallW w u al (.ref 108) [.r bk, .i size, .i now] K := by
  k_offL
  walk
  refine fill_y (by omega) m1 m2 r1 r2 fun n => ?_
  walk
  exact hK
theorem sent_y {sh dsh bk dbk : Nat} {rate burst gr tm size now : Int} (hd : u.d < 870) (m : ShA al sh dsh bk dbk rate burst gr tm)
    (r1 : IntMulOk rate (now - tm)) (r2 : IntMulOk burst 100) (r3 : IntMulOk (mn size burst) 100) (r4 : IntMulOk size 100)
    (hK : ∀ b gr' tm', SentOut rate burst gr tm size now b gr' tm' → K (.v (.bool b)) (al.set dbk (.dct (bkA rate burst gr' tm')))) : CallW w u al (.ref 178) [.r sh, .i size, .i now] K := by
  have m' := m
  obtain ⟨m1, m2, m3, m4⟩ := m
  k_offL
  walk
  refine asked_y (by omega) m' ?_
  walk
  refine has_y (by omega) m3 m4 r1 r2 r3 ⟨_, rfl, ?_⟩
  walk
  · exact hK false (filled rate burst gr tm now) (filledT tm now) ⟨(decide_eq_false (by assumption)).symm, rfl, rfl⟩
  · refine spend_y (by omega) (get_set_ne m3 m4 rfl) (get_set m4) r4 ?_
    walk
    have h := hK true (filled rate burst gr tm now - size * 100) (filledT tm now) ⟨(decide_eq_true (by assumption)).symm, rfl, rfl⟩
    rw [List.set_set]
    exact h
noncomputable def waitV (rate burst gr tm size now : Int) : AV :=
  if size * 100 - filled rate burst gr tm now ≤ 0 then .i 0 else if burst < size then .v .none else if rate = 0 then .v .none else .i ((size * 100 - filled rate burst gr tm now + rate - 1).fdiv rate)
theorem wait_y {bk dbk : Nat} {rate burst gr tm size now : Int} (hd : u.d < 870) (m1 : al[bk]? = some (.inst 139 dbk)) (m2 : al[dbk]? = some (.dct (bkA rate burst gr tm))) (r1 : IntMulOk rate (now - tm)) (r2 : IntMulOk burst 100) (r3 : IntMulOk size 100)
    (r4 : Builtin.divisionGoesByPylong (size * 100 - filled rate burst gr tm now + rate - 1) rate = false)
    (hK : K (waitV rate burst gr tm size now) (al.set dbk (.dct (bkA rate burst (filled rate burst gr tm now) (filledT tm now))))) : CallW w u al (.ref 136) [.r bk, .i size, .i now] K := by
  k_offL
  walk
  refine fill_y (by omega) m1 m2 r1 r2 fun n => ?_
  walk
  all_goals (revert hK; unfold waitV; intro hK)
  · rwa [if_pos (by assumption)] at hK
  · rwa [if_neg (by assumption), if_pos (by assumption)] at hK
  · rwa [if_neg (by assumption), if_neg (by assumption), if_pos (by assumption)] at hK
  · rwa [if_neg (by assumption), if_neg (by assumption), if_neg (by assumption)] at hK
noncomputable def whenV (rate burst gr tm size now : Int) : AV := match waitV rate burst gr tm (mn size burst) now with | .i n => .i (now + n) | a => a
theorem when_y {sh dsh bk dbk : Nat} {rate burst gr tm size now : Int} (hd : u.d < 860) (m : ShA al sh dsh bk dbk rate burst gr tm)
    (r1 : IntMulOk rate (now - tm)) (r2 : IntMulOk burst 100) (r3 : IntMulOk (mn size burst) 100) (r4 : Builtin.divisionGoesByPylong (mn size burst * 100 - filled rate burst gr tm now + rate - 1) rate = false)
    (hK : K (whenV rate burst gr tm size now) (al.set dbk (.dct (bkA rate burst (filled rate burst gr tm now) (filledT tm now))))) : CallW w u al (.ref 171) [.r sh, .i size, .i now] K := by
  have m' := m
  obtain ⟨m1, m2, m3, m4⟩ := m
  k_offL
  walk
  refine asked_y (by omega) m' ?_
  walk
  refine wait_y (by omega) m3 m4 r1 r2 r3 r4 ?_
  have hw : (∃ n, waitV rate burst gr tm (mn size burst) now = .i n ∧ whenV rate burst gr tm size now = .i (now + n)) ∨ waitV rate burst gr tm (mn size burst) now = .v .none ∧ whenV rate burst gr tm size now = .v .none := by
    unfold whenV waitV
    (repeat' split) <;> first | exact .inl ⟨_, by assumption, rfl⟩ | simp_all
  rcases hw with ⟨n, e1, e2⟩ | ⟨e1, e2⟩
  · rw [e1]
    rw [e2] at hK
    walk
    exact hK
  · rw [e1]
    rw [e2] at hK
    walk
    exact hK
end
end
section
local macro_rules | `(tactic| walk_at "no such key") => `(tactic| fail)
theorem clr_Y18 : True := by
  w_top off
  trivial
variable {w : World} {A A₀ : Around} {base h₀ : Heap} {outer : List Env} {env : Env} {L : Addr} {m : Str → Option Value} {s : Shared} {Q E : Value → Shared → Prop} {mean : ExcName → Option Value} {mg mb : Str → Option Value}
section
variable {w : World} {u : Un} {al : AL} {K : AV → AL → Prop}
set_option maxHeartbeats 2000000
theorem mul100 {a : Int} : IntMulOk a 100 := .of_right (intBits_le_64 (by decide) (by decide))
theorem mulr {a b : Int} (h0 : 0 ≤ a) (h1 : a ≤ 1000) : IntMulOk a b := .of_left (intBits_le_64 (by omega) (by omega))
structure ShS where
  dbk : Nat
  rate : Int
  burst : Int
  gr : Int
  tm : Int
inductive ShV (al : AL) : AV → Option ShS → Prop
  | no : ShV al (.v .none) none
  | on {sh dsh bk dbk : Nat} {rate burst gr tm : Int} (m : ShA al sh dsh bk dbk rate burst gr tm) (r0 : 0 ≤ rate) (r1 : rate ≤ 1000) : ShV al (.r sh) (some ⟨dbk, rate, burst, gr, tm⟩)
theorem ShA.app {sh dsh bk dbk : Nat} {rate burst gr tm : Int} (m : ShA al sh dsh bk dbk rate burst gr tm) {j : AL} : ShA (al ++ j) sh dsh bk dbk rate burst gr tm := ⟨get_left m.m1, get_left m.m2, get_left m.m3, get_left m.m4⟩
/-- a bucket's dict stored anew -/
noncomputable def ShS.put (s : ShS) (al : AL) (gr tm : Int) : AL := al.set s.dbk (.dct (bkA s.rate s.burst gr tm))
theorem ShA.set {sh dsh bk dbk : Nat} {rate burst gr tm : Int} (m : ShA al sh dsh bk dbk rate burst gr tm) {k : Nat} {x : AO} {y : AO} (h : al[k]? = some x) (hn : (x.kind == (7 + 4)) = false) : (al.set dbk y)[k]? = some x := get_set_ne h m.m4 hn
theorem QuA.sh {q dq rl : Nat} {rs : List RowR} {sh dsh bk dbk : Nat} {rate burst gr tm : Int} {y : AO} (mq : QuA al q dq rl rs) (m : ShA al sh dsh bk dbk rate burst gr tm) : QuA (al.set dbk y) q dq rl rs :=
  ⟨m.set mq.m1 rfl, m.set mq.m2 rfl, m.set mq.m3 rfl, fun x hx => ⟨m.set (mq.rows x hx).m1 rfl, m.set (mq.rows x hx).m2 rfl, m.set (mq.rows x hx).m3 rfl⟩⟩
theorem AlwA.sh {aw : AV} {ok : Int → Bool} {sh dsh bk dbk : Nat} {rate burst gr tm : Int} {y : AO} (h : AlwA al aw ok) (m : ShA al sh dsh bk dbk rate burst gr tm) : AlwA (al.set dbk y) aw ok := by
  rcases h with h | ⟨k, ns, e, h2, h⟩
  · exact .inl h
  · exact .inr ⟨k, ns, e, m.set h2 rfl, h⟩
/-- StrictQueues.put, PortOut.put -/
theorem qput_y {q dq rl : Nat} {rs : List RowR} {n size : Int} {x : AV} {y : RowR} (hd : u.d < 870) (m : QuA al q dq rl rs) (n0 : 0 ≤ n) (n1 : n < 100) (hy : rs[n.toNat]? = some y) (hz : y.us.length ≤ 1000)
    (h1 : 9 ≤ y.us.length ∨ 999 < y.oc + size → K (.v (.bool false)) (al.set y.dr (.dct (rowA y.th y.oc (y.dp + 1)))))
    (h2 : y.us.length < 9 → y.oc + size ≤ 999 → K (.v (.bool true)) ((al.set y.th (.lst (y.us ++ [.t [.i size, x]]))).set y.dr (.dct (rowA y.th (y.oc + size) y.dp)))) : CallW w u al (.ref 371) [.r q, .i n, .i size, x] K := by
  obtain ⟨m1, m2, m3, hr⟩ := m
  have hro := hr y (List.mem_of_getElem? hy)
  obtain ⟨q1, q2, q3⟩ := id hro
  have hit : (rs.map fun x => AV.r x.r)[n.toNat]? = some (.r y.r) := by rw [List.getElem?_map, hy]; rfl
  k_offL
  walk
  exact put_y (by omega) hro (by omega) h1 h2
theorem put_p {p dp q dq rl : Nat} {sv pv : AV} {rs : List RowR} {n size : Int} {x : AV} {y : RowR} (hd : u.d < 860) (mp : PoA al p dp q sv pv) (m : QuA al q dq rl rs) (n0 : 0 ≤ n) (n1 : n < 100) (hy : rs[n.toNat]? = some y) (hz : y.us.length ≤ 1000)
    (h1 : 9 ≤ y.us.length ∨ 999 < y.oc + size → K (.v (.bool false)) (al.set y.dr (.dct (rowA y.th y.oc (y.dp + 1)))))
    (h2 : y.us.length < 9 → y.oc + size ≤ 999 → K (.v (.bool true)) ((al.set y.th (.lst (y.us ++ [.t [.i size, x]]))).set y.dr (.dct (rowA y.th (y.oc + size) y.dp)))) : CallW w u al (.ref 212) [.r p, .i n, .i size, x] K := by
  obtain ⟨p1, p2⟩ := mp
  have m' := m
  obtain ⟨m1, m2, m3, hr⟩ := m
  k_offL
  walk
  exact qput_y (by omega) m' n0 n1 hy hz h1 h2
/-- PortOut.next -/
theorem next_y {p dp q dq rl : Nat} {sv pv : AV} {rs : List RowR} {po : Option (List Int)} {so : Option ShS} {now : Int} (hd : u.d < 840) (m : PoA al p dp q sv pv) (mq : QuA al q dq rl rs) (mp : PaV al pv po) (ms : ShV al sv so) (hz : rs.length ≤ 50) (hu : ∀ uns, po = some uns → rs.length ≤ uns.length) (ht : ∀ x ∈ rs, (∀ y ∈ x.us, ∃ z t, y = .t [.i z, t]) ∧ x.us.length ≤ 9)
    (h0 : lookI (okP rs.length now po) rs rs.length = none → ∀ j, K (.v .none) (al ++ j))
    (h1 : ∀ n x z t us, lookI (okP rs.length now po) rs rs.length = some n → rs[n]? = some x → x.us = .t [.i z, t] :: us → so = none → ∀ j, K t (popR al x us z ++ j))
    (h2 : ∀ n x z t us s, lookI (okP rs.length now po) rs rs.length = some n → rs[n]? = some x → x.us = .t [.i z, t] :: us → so = some s → ∀ b gr' tm', SentOut s.rate s.burst s.gr s.tm z now b gr' tm' → ∀ j, if b = true then K t (popR (s.put al gr' tm') x us z ++ j) else K (.v .none) (s.put al gr' tm' ++ j)) : CallW w u al (.ref 219) [.r p, .i now] K := by
  have m' := m
  have mq' := mq
  have ms' := ms
  obtain ⟨p1, p2⟩ := m
  obtain ⟨m1, m2, m3, hr⟩ := mq
  have ht1 : ∀ x ∈ rs, ∀ y ∈ x.us, ∃ z t, y = AV.t [.i z, t] := fun x hx => (ht x hx).1
  cases ms with
  | no =>
    k_offL
    walk
    refine allowed_y (by omega) m' mq' mp hz hu fun aw j1 ha => ?_
    have g1 := get_left (l' := j1) p1
    have g2 := get_left (l' := j1) p2
    have g3 := get_left (l' := j1) m1
    have g4 := get_left (l' := j1) m2
    walk
    refine look_y (by omega) mq'.app ha hz ht1 (fun j e => ?_) fun j n x z t us e hx hu => ?_
    · walk
      rw [List.append_assoc]
      exact h0 e _
    · have k1 := get_left (l' := j) g1
      have k2 := get_left (l' := j) g2
      have k3 := get_left (l' := j) g3
      have k4 := get_left (l' := j) g4
      walk
      refine take_y (by omega) mq'.app.app ha.app hz ht (fun j' e' => by rw [e] at e'; cases e') fun j' n' x' z' t' us' e' hx' hu' => ?_
      rw [e] at e'; cases e'
      rw [hx] at hx'; cases hx'
      rw [hu] at hu'; cases hu'
      walk
      have hro := hr x (List.mem_of_getElem? hx)
      rw [popR_app hro.app, popR_app hro, List.append_assoc, List.append_assoc]
      exact h1 n x z t us e hx hu rfl _
  | @on sh dsh bk dbk rate burst gr tm mh r0 r1 =>
    have mh' := mh
    obtain ⟨s1, s2, s3, s4⟩ := mh
    k_offL
    walk
    refine allowed_y (by omega) m' mq' mp hz hu fun aw j1 ha => ?_
    have g1 := get_left (l' := j1) p1
    have g2 := get_left (l' := j1) p2
    have g3 := get_left (l' := j1) m1
    have g4 := get_left (l' := j1) m2
    walk
    refine look_y (by omega) mq'.app ha hz ht1 (fun j e => ?_) fun j n x z t us e hx hu => ?_
    · walk
      rw [List.append_assoc]
      exact h0 e _
    · have k1 := get_left (l' := j) g1
      have k2 := get_left (l' := j) g2
      have k3 := get_left (l' := j) g3
      have k4 := get_left (l' := j) g4
      have k5 := get_left (l' := j) (get_left (l' := j1) s1)
      have k6 := get_left (l' := j) (get_left (l' := j1) s2)
      walk
      refine sent_y (by omega) mh'.app.app (mulr r0 r1) mul100 mul100 mul100 fun b gr' tm' hs => ⟨b, rfl, ?_⟩
      have hh := h2 n x z t us _ e hx hu rfl b gr' tm' hs
      cases b with
      | false =>
        walk
        rw [set_left (get_left s4), set_left s4, List.append_assoc]
        exact hh _
      | true =>
        have u1 := mh'.app.app.set (y := .dct (bkA rate burst gr' tm')) k1 rfl
        have u2 := mh'.app.app.set (y := .dct (bkA rate burst gr' tm')) k2 rfl
        have u3 := mh'.app.app.set (y := .dct (bkA rate burst gr' tm')) k3 rfl
        have u4 := mh'.app.app.set (y := .dct (bkA rate burst gr' tm')) k4 rfl
        walk
        refine take_y (by omega) (mq'.app.app.sh mh'.app.app) (ha.app.sh mh'.app.app) hz ht (fun j' e' => by rw [e] at e'; cases e') fun j' n' x' z' t' us' e' hx' hu' => ?_
        rw [e] at e'; cases e'
        rw [hx] at hx'; cases hx'
        rw [hu] at hu'; cases hu'
        walk
        have hro := (mq'.sh (y := .dct (bkA rate burst gr' tm')) mh').rows x (List.mem_of_getElem? hx)
        rw [set_left (get_left s4), set_left s4, popR_app hro.app, popR_app hro, List.append_assoc, List.append_assoc]
        exact hh _
end
end
section
theorem clr_Y19 : True := by
  w_top off
  trivial
variable {w : World} {A A₀ : Around} {base h₀ : Heap} {outer : List Env} {env : Env} {L : Addr} {m : Str → Option Value} {s : Shared} {Q E : Value → Shared → Prop} {mean : ExcName → Option Value} {mg mb : Str → Option Value}
section
variable {w : World} {u : Un} {al : AL} {K : AV → AL → Prop}
set_option maxHeartbeats 2000000
/-- PortOut.when -/
theorem pwhen_y {p dp q dq rl : Nat} {sv pv : AV} {rs : List RowR} {po : Option (List Int)} {so : Option ShS} {now : Int} (hd : u.d < 840) (m : PoA al p dp q sv pv) (mq : QuA al q dq rl rs) (mp : PaV al pv po) (ms : ShV al sv so) (hz : rs.length ≤ 50) (hu : ∀ uns, po = some uns → rs.length ≤ uns.length) (ht : ∀ x ∈ rs, ∀ y ∈ x.us, ∃ z t, y = .t [.i z, t])
    (h0 : lookI (okP rs.length now po) rs rs.length = none → ∀ j, K (.v .none) (al ++ j))
    (h1 : ∀ n x z t us, lookI (okP rs.length now po) rs rs.length = some n → rs[n]? = some x → x.us = .t [.i z, t] :: us → so = none → ∀ j, K (.i now) (al ++ j))
    (h2 : ∀ n x z t us s, lookI (okP rs.length now po) rs rs.length = some n → rs[n]? = some x → x.us = .t [.i z, t] :: us → so = some s → ∀ j, K (whenV s.rate s.burst s.gr s.tm z now) (s.put al (filled s.rate s.burst s.gr s.tm now) (filledT s.tm now) ++ j)) : CallW w u al (.ref 226) [.r p, .i now] K := by
  have m' := m
  have mq' := mq
  have ms' := ms
  obtain ⟨p1, p2⟩ := m
  obtain ⟨m1, m2, m3, hr⟩ := mq
  cases ms with
  | no =>
    k_offL
    walk
    refine allowed_y (by omega) m' mq' mp hz hu fun aw j1 ha => ?_
    have g1 := get_left (l' := j1) p1
    have g2 := get_left (l' := j1) p2
    have g3 := get_left (l' := j1) m1
    have g4 := get_left (l' := j1) m2
    walk
    refine look_y (by omega) mq'.app ha hz ht (fun j e => ?_) fun j n x z t us e hx hu => ?_
    · walk
      rw [List.append_assoc]
      exact h0 e _
    · have k1 := get_left (l' := j) g1
      have k2 := get_left (l' := j) g2
      walk
      rw [List.append_assoc]
      exact h1 n x z t us e hx hu rfl _
  | @on sh dsh bk dbk rate burst gr tm mh r0 r1 =>
    have mh' := mh
    obtain ⟨s1, s2, s3, s4⟩ := mh
    k_offL
    walk
    refine allowed_y (by omega) m' mq' mp hz hu fun aw j1 ha => ?_
    have g1 := get_left (l' := j1) p1
    have g2 := get_left (l' := j1) p2
    have g3 := get_left (l' := j1) m1
    have g4 := get_left (l' := j1) m2
    walk
    refine look_y (by omega) mq'.app ha hz ht (fun j e => ?_) fun j n x z t us e hx hu => ?_
    · walk
      rw [List.append_assoc]
      exact h0 e _
    · have k1 := get_left (l' := j) g1
      have k2 := get_left (l' := j) g2
      have k5 := get_left (l' := j) (get_left (l' := j1) s1)
      have k6 := get_left (l' := j) (get_left (l' := j1) s2)
      walk
      refine when_y (by omega) mh'.app.app (mulr r0 r1) mul100 mul100 (PyProof.noPylong_small (by omega)) ?_
      have hh := h2 n x z t us _ e hx hu rfl
      rw [set_left (get_left s4), set_left s4, List.append_assoc]
      exact hh _
/-- the law's own grains -/
noncomputable def ownA (rate most grains time : Int) : List (Str × Int) := [("rate", rate), ("most", most), ("grains", grains), ("time", time)]
theorem filled_y {od : Nat} {rate most grains time now : Int} (hd : u.d < 880) (m : al[od]? = some (.sd (ownA rate most grains time))) (r0 : 0 ≤ rate) (r1 : rate ≤ 1000)
    (hK : K (.v .none) (al.set od (.sd (ownA rate most (mn (grains + rate * (now - time)) most) now)))) : CallW w u al (.ref 437) [.r od, .i now] K := by
  have r := mulr (b := now - time) r0 r1
  unfold ownA at m
  k_offL
  walk
  rw [List.set_set]
  exact hK
theorem asked_l {od : Nat} {rate most grains time size : Int} (hd : u.d < 880) (m : al[od]? = some (.sd (ownA rate most grains time))) (hK : K (.i (mn (100 * size) most)) al) : CallW w u al (.ref 444) [.r od, .i size] K := by
  have r : IntMulOk 100 size := .of_left (intBits_le_64 (by decide) (by decide))
  unfold ownA at m
  k_offL
  walk
  exact hK
noncomputable def odueT (rate most grains size now : Int) : Option Int :=
  if mn (100 * size) most - grains ≤ 0 then some now else if rate = 0 then none else some (now + Int.fdiv (mn (100 * size) most - grains + rate - 1) rate)
theorem due_y {od : Nat} {rate most grains time size now : Int} (hd : u.d < 870) (m : al[od]? = some (.sd (ownA rate most grains time))) (r0 : 0 ≤ rate) (r1 : rate ≤ 1000)
    (hK : K (optA (odueT rate most grains size now)) al) : CallW w u al (.ref 451) [.r od, .i size, .i now] K := by
  have r := PyProof.noPylong_small (x := mn (100 * size) most - grains + rate - 1) (y := rate) (by omega)
  have m' := m
  unfold ownA at m
  unfold odueT at hK
  k_offL
  walk
  refine asked_l (by omega) m' ?_
  walk
  · rwa [if_pos (by assumption)] at hK
  · rwa [if_neg (by assumption), if_pos (by assumption)] at hK
  · rwa [if_neg (by assumption), if_neg (by assumption)] at hK
/-- StrictQueues.waiting -/
theorem waiting_y {q dq rl : Nat} {rs : List RowR} (hd : u.d < 880) (m : QuA al q dq rl rs) (hz : rs.length ≤ 50) (hu : ∀ x ∈ rs, x.us.length ≤ 9)
    (hK : ∀ j, K (.i ((rs.map fun x => (x.us.length : Int)).sum)) (al ++ j)) : CallW w u al (.ref 392) [.r q] K := by
  obtain ⟨m1, m2, m3, hr⟩ := m
  k_offL
  walk
  refine ⟨fun i bs al' => bs = (rs.take i).map (fun x => AV.i x.us.length) ∧ al' = al, by show (rs.map _).length ≤ 1000; rw [List.length_map]; omega, ⟨by simp, rfl⟩, fun i bs al' h => ⟨by rw [h.2]; exact m3, by rw [h.1, List.length_map, List.length_take]; exact Nat.min_le_left ..⟩, ?_, ?_⟩
  · rintro i bs al' hi ⟨rfl, rfl⟩
    replace hi : i < rs.length := by rw [show Sr.n (.lst rl (rs.map fun x => AV.r x.r)) = rs.length from List.length_map ..] at hi; exact hi
    refine ⟨trivial, fun u2 hs => ?_⟩
    have hd2 := hs.d
    have hx := List.getElem?_eq_getElem hi
    generalize rs[i] = x at hx
    have hxm := List.mem_of_getElem? hx
    obtain ⟨q1, q2, q3⟩ := hr x hxm
    have hl := hu x hxm
    have hv : Sr.val (.lst rl (rs.map fun x => AV.r x.r)) i = .r x.r := by
      show (rs.map fun x => AV.r x.r).getD i .any = _
      rw [List.getD_eq_getElem?_getD, List.getElem?_map, hx]; rfl
    rw [hv]
    walk
    rw [List.take_add_one, hx]
    simp
  · rintro bs al' ⟨rfl, rfl⟩
    rw [show Sr.n (.lst rl (rs.map fun x => AV.r x.r)) = rs.length from List.length_map .., List.take_length, show (rs.map fun x => AV.i x.us.length) = (rs.map fun x => (x.us.length : Int)).map .i from by rw [List.map_map]; rfl]
    walk
    exact hK _
end
end
section
local macro_rules | `(tactic| walk_at "no such key") => `(tactic| fail)
theorem clr_Y23 : True := by
  w_top off
  trivial
variable {w : World} {A A₀ : Around} {base h₀ : Heap} {outer : List Env} {env : Env} {L : Addr} {m : Str → Option Value} {s : Shared} {Q E : Value → Shared → Prop} {mean : ExcName → Option Value} {mg mb : Str → Option Value}
section
variable {w : World} {u : Un} {al : AL} {K : AV → AL → Prop}
set_option maxHeartbeats 2000000
theorem bki_y {b d : Nat} {rate burst : Int} (hd : u.d < 870) (m1 : al[b]? = some (.inst 139 d)) (m2 : al[d]? = some (.dct [])) (r0 : 0 ≤ rate) (b0 : 1 ≤ burst)
    (hK : K (.v .none) (al.set d (.dct (bkA rate burst (burst * 100) 0)))) : CodeW w u al (.ref 87) [.r b, .i rate, .i burst] K := by
  have r := mul100 (a := burst)
  k_offL
  walk
  · exfalso; omega
  · exfalso; omega
  · simp only [List.set_set]
    exact hK
theorem get_app {al l : AL} {i : Nat} {x : AO} (h : l[i]? = some x) : (al ++ l)[al.length + i]? = some x := by
  rw [List.getElem?_append_right (Nat.le_add_right _ _), Nat.add_sub_cancel_left]; exact h
theorem set_app {al l : AL} {i : Nat} {y : AO} : (al ++ l).set (al.length + i) y = al ++ l.set i y := by
  rw [List.set_append_right _ _ (Nat.le_add_right _ _), Nat.add_sub_cancel_left]
theorem bucket_y {rate burst : Int} (hd : u.d < 860) (r0 : 0 ≤ rate) (b0 : 1 ≤ burst)
    (hK : K (.r (al.length + 1)) (al ++ [.dct (bkA rate burst (burst * 100) 0), .inst 139 al.length])) : CallW w u al (.ref 139) [.i rate, .i burst] K := by
  refine cls_w (by k_is) (by k_is) (by k_is) fun u' hd' => bki_y (d := al.length + 0) (by omega) (get_app rfl) (get_app rfl) r0 b0 ⟨rfl, ?_⟩
  rw [set_app]
  exact hK
theorem shi_y {rate burst : Int} (hd : u.d < 850) (r0 : 0 ≤ rate) (b0 : 1 ≤ burst)
    (hK : K (.v .none) (al ++ [.dct [("bucket", .r (al.length + 3))], .inst 181 al.length, .dct (bkA rate burst (burst * 100) 0), .inst 139 (al.length + 2)])) : CodeW w u (al ++ [.dct [], .inst 181 al.length]) (.ref 157) [.r (al.length + 1), .i rate, .i burst] K := by
  have m1 : (al ++ [AO.dct [], .inst 181 al.length])[al.length + 1]? = some (.inst 181 al.length) := get_app rfl
  have m2 : (al ++ [AO.dct [], .inst 181 al.length])[al.length]? = some (.dct []) := get_app (i := 0) rfl
  k_offL
  walk
  refine bucket_y (by omega) r0 b0 ?_
  walk
  have e : (al ++ [AO.dct [], .inst 181 al.length]).length = al.length + 2 := by simp
  rw [e, List.append_assoc, show al.length = al.length + 0 from rfl, set_app]
  exact hK
theorem shaper_y {rate burst : Int} (hd : u.d < 840) (r0 : 0 ≤ rate) (r1 : rate ≤ 1000) (b0 : 1 ≤ burst)
    (hK : ∀ j sh dbk, ShV (al ++ j) (.r sh) (some ⟨dbk, rate, burst, burst * 100, 0⟩) → K (.r sh) (al ++ j)) : CallW w u al (.ref 181) [.i rate, .i burst] K :=
  cls_w (by k_is) (by k_is) (by k_is) fun u' hd' => shi_y (by omega) r0 b0 ⟨rfl, hK _ _ _ (.on (sh := al.length + 1) (dsh := al.length + 0) (bk := al.length + 3) (dbk := al.length + 2) ⟨get_app rfl, get_app rfl, get_app rfl, get_app rfl⟩ r0 r1)⟩
/-- QueueRow(most, octets) -/
theorem set_app0 {al l : AL} {y : AO} : (al ++ l).set al.length y = al ++ l.set 0 y := set_app (i := 0)
theorem rowi_y (hd : u.d < 870) (hK : K (.v .none) (al ++ [.dct (rowA (al.length + 2) 0 0), .inst 341 al.length, .lst []])) : CodeW w u (al ++ [.dct [], .inst 341 al.length]) (.ref 310) [.r (al.length + 1), .i 9, .i 999] K := by
  have m1 : (al ++ [AO.dct [], .inst 341 al.length])[al.length + 1]? = some (.inst 341 al.length) := get_app rfl
  have m2 : (al ++ [AO.dct [], .inst 341 al.length])[al.length]? = some (.dct []) := get_app (i := 0) rfl
  k_offL
  walk
  · exfalso; omega
  · exfalso; omega
  · simp only [set_app0, List.set_cons_zero, List.append_assoc, List.cons_append, List.nil_append, List.length_append, List.length_cons, List.length_nil, Nat.zero_add, Nat.reduceAdd]
    exact hK
theorem qrow_y (hd : u.d < 860) (hK : K (.r (al.length + 1)) (al ++ [.dct (rowA (al.length + 2) 0 0), .inst 341 al.length, .lst []])) : CallW w u al (.ref 341) [.i 9, .i 999] K :=
  cls_w (by k_is) (by k_is) (by k_is) fun u' hd' => rowi_y (by omega) ⟨rfl, hK⟩
theorem porti_y {p d : Nat} {q : Nat} {sv pv : AV} (hd : u.d < 870) (m1 : al[p]? = some (.inst 229 d)) (m2 : al[d]? = some (.dct []))
    (hK : K (.v .none) (al.set d (.dct [("queues", .r q), ("shaper", sv), ("pause", pv)]))) : CodeW w u al (.ref 200) [.r p, .r q, sv, pv] K := by
  k_offL
  walk
  simp only [List.set_set]
  exact hK
theorem port_y {q : Nat} {sv pv : AV} (hd : u.d < 860) (hK : K (.r (al.length + 1)) (al ++ [.dct [("queues", .r q), ("shaper", sv), ("pause", pv)], .inst 229 al.length])) : CallW w u al (.ref 229) [.r q, sv, pv] K := by
  refine cls_w (by k_is) (by k_is) (by k_is) fun u' hd' => porti_y (d := al.length + 0) (by omega) (get_app rfl) (get_app rfl) ⟨rfl, ?_⟩
  rw [set_app]
  exact hK
end
end
section
theorem clr_Y24 : True := by
  w_top off
  trivial
variable {w : World} {A A₀ : Around} {base h₀ : Heap} {outer : List Env} {env : Env} {L : Addr} {m : Str → Option Value} {s : Shared} {Q E : Value → Shared → Prop} {mean : ExcName → Option Value} {mg mb : Str → Option Value}
section
variable {w : World} {u : Un} {al : AL} {K : AV → AL → Prop}
set_option maxHeartbeats 2000000
theorem get_app' {al l : AL} {i k : Nat} {x : AO} (e : k = al.length + i) (h : l[i]? = some x) : (al ++ l)[k]? = some x := by
  rw [e]; exact get_app h
noncomputable def trip (b : Nat) : Nat → AL
  | 0 => []
  | n + 1 => trip b n ++ [.dct (rowA (b + 3 * n + 2) 0 0), .inst 341 (b + 3 * n), .lst []]
theorem trip_len {b : Nat} : ∀ {n : Nat}, (trip b n).length = 3 * n
  | 0 => rfl
  | n + 1 => by show (trip b n ++ _).length = _; rw [List.length_append, trip_len]; rfl
theorem trip_get {b k i : Nat} {x : AO} (hx : ([.dct (rowA (b + 3 * k + 2) 0 0), .inst 341 (b + 3 * k), .lst []] : AL)[i]? = some x) : ∀ {n : Nat}, k < n → (trip b n)[3 * k + i]? = some x
  | n + 1, h => by
    show (trip b n ++ _)[3 * k + i]? = _
    by_cases e : k = n
    · subst e
      have h2 := get_app (al := trip b k) hx
      rw [trip_len] at h2
      exact h2
    · exact get_left (trip_get hx (by omega))
noncomputable def newR (b k : Nat) : RowR := ⟨b + 3 * k + 1, b + 3 * k, b + 3 * k + 2, [], 0, 0⟩
theorem trip_row {al j : AL} {n k : Nat} (h : k < n) : RowR.At (al ++ trip al.length n ++ j) (newR al.length k) := by
  refine ⟨get_left ?_, get_left ?_, get_left ?_⟩
  · show (al ++ trip al.length n)[al.length + 3 * k + 1]? = _
    rw [Nat.add_assoc]; exact get_app (trip_get rfl h)
  · show (al ++ trip al.length n)[al.length + 3 * k + 0]? = _
    rw [Nat.add_assoc]; exact get_app (trip_get rfl h)
  · show (al ++ trip al.length n)[al.length + 3 * k + 2]? = _
    rw [Nat.add_assoc]; exact get_app (trip_get rfl h)
theorem quei_y {q d l n : Nat} (hd : u.d < 850) (hn : n ≤ 50) (m1 : al[q]? = some (.inst 395 d)) (m2 : al[d]? = some (.dct [])) (ml : al[l]? = some (.lst (List.replicate n (.t [.i 9, .i 999]))))
    (hK : K (.v .none) ((al ++ trip al.length n ++ [AO.lst ((List.range n).map fun k => .r (newR al.length k).r)]).set d (.dct [("rows", .r (al.length + 3 * n))]))) : CodeW w u al (.ref 364) [.r q, .r l] K := by
  k_offL
  walk
  have hlen : (List.replicate n (AV.t [.i 9, .i 999])).length = n := List.length_replicate
  refine ⟨fun i bs al' => Hid (bs = ((List.range i).map fun k => AV.r (newR al.length k).r) ∧ al' = al ++ trip al.length i), by show (List.replicate n _).length ≤ 1000; rw [hlen]; omega, ⟨rfl, by unfold trip; simp⟩, fun i bs al' h => ⟨by rw [h.out.2]; exact get_left ml, by rw [h.out.1, List.length_map, List.length_range]; exact Nat.le_refl _⟩, ?_, ?_⟩
  · rintro i bs al' hi ⟨rfl, rfl⟩
    replace hi : i < n := by rw [show Sr.n (.lst l (List.replicate n (AV.t [.i 9, .i 999]))) = n from hlen] at hi; exact hi
    have hv : Sr.val (.lst l (List.replicate n (AV.t [.i 9, .i 999]))) i = .t [.i 9, .i 999] := by
      show (List.replicate n _).getD i AV.any = _
      rw [List.getD_eq_getElem?_getD, List.getElem?_replicate, if_pos hi]; rfl
    rw [hv]
    refine ⟨⟨_, _, rfl⟩, fun u2 hs => ?_⟩
    have hd2 := hs.d
    show TsK _ _ _ _ ([("octets", .i 999), ("most", .i 9), ("limits", .r l), ("self", .r q)] : AM) _ _
    walk
    refine qrow_y (by omega) ⟨?_, ?_⟩
    · rw [List.length_append, trip_len, List.range_succ, List.map_append]; rfl
    · rw [List.length_append, trip_len, List.append_assoc]; rfl
  · rintro bs al' ⟨rfl, rfl⟩
    rw [show Sr.n (.lst l (List.replicate n (AV.t [.i 9, .i 999]))) = n from hlen]
    have k1 := get_left (l' := trip al.length n) m1
    have k2 := get_left (l' := trip al.length n) m2
    have e : (al ++ trip al.length n).length = al.length + 3 * n := by rw [List.length_append, trip_len]
    rw [e]
    walk
    exact hK
theorem queues_y {l n : Nat} (hd : u.d < 840) (hn : n ≤ 50) (ml : al[l]? = some (.lst (List.replicate n (.t [.i 9, .i 999]))))
    (hK : ∀ j, (al ++ j).length = al.length + 2 + 3 * n + 1 → QuA (al ++ j) (al.length + 1) al.length (al.length + 2 + 3 * n) ((List.range n).map (newR (al.length + 2))) → K (.r (al.length + 1)) (al ++ j)) : CallW w u al (.ref 395) [.r l] K := by
  refine cls_w (by k_is) (by k_is) (by k_is) fun u' hd' => quei_y (d := al.length + 0) (by omega) hn (get_app rfl) (get_app rfl) (get_left ml) ⟨rfl, ?_⟩
  have e : (al ++ [AO.dct [], .inst 395 al.length]).length = al.length + 2 := by simp
  rw [List.append_assoc, List.append_assoc, set_app, e]
  refine hK _ ?_ ⟨get_app rfl, get_app (i := 0) rfl, ?_, fun x hx => ?_⟩
  · simp [trip_len]; omega
  · refine get_app' (i := 2 + 3 * n) (by omega) (get_app (al := [AO.dct [("rows", .r (al.length + 2 + 3 * n))], .inst 395 al.length]) (get_app' (i := 0) (by rw [trip_len]; rfl) ?_))
    rw [List.map_map]
    rfl
  · obtain ⟨k, hk, rfl⟩ := List.mem_map.mp hx
    have h2 := trip_row (al := al ++ [AO.dct [("rows", .r (al.length + 2 + 3 * n))], .inst 395 al.length]) (j := [AO.lst ((List.range n).map fun k => .r (newR (al.length + 2) k).r)]) (List.mem_range.mp hk)
    have e3 : (al ++ [AO.dct [("rows", .r (al.length + 2 + 3 * n))], .inst 395 al.length]).length = al.length + 2 := by simp
    rw [e3, List.append_assoc, List.append_assoc] at h2
    exact h2
end
end
section
local macro_rules | `(tactic| walk_at "no such key") => `(tactic| fail)
theorem clr_Y25 : True := by
  w_top off
  trivial
variable {w : World} {A A₀ : Around} {base h₀ : Heap} {outer : List Env} {env : Env} {L : Addr} {m : Str → Option Value} {s : Shared} {Q E : Value → Shared → Prop} {mean : ExcName → Option Value} {mg mb : Str → Option Value}
section
variable {w : World} {u : Un} {al : AL} {K : AV → AL → Prop}
set_option maxHeartbeats 2000000
theorem paui_y (hd : u.d < 870) (hK : K (.v .none) (al ++ [.dct [("tick", .i 1), ("until", .r (al.length + 3))], .inst 292 al.length, .lst [.i 0], .lst (List.replicate 8 (.i 0))])) : CodeW w u (al ++ [.dct [], .inst 292 al.length]) (.ref 275) [.r (al.length + 1), .i 1] K := by
  have m1 : (al ++ [AO.dct [], .inst 292 al.length])[al.length + 1]? = some (.inst 292 al.length) := get_app rfl
  have m2 : (al ++ [AO.dct [], .inst 292 al.length])[al.length]? = some (.dct []) := get_app (i := 0) rfl
  k_offL
  walk
  · exfalso; omega
  · simp only [set_app0, List.set_cons_zero, List.append_assoc, List.cons_append, List.nil_append, List.length_append, List.length_cons, List.length_nil, Nat.zero_add, Nat.reduceAdd]
    exact hK
theorem paus_y (hd : u.d < 860) (hK : K (.r (al.length + 1)) (al ++ [.dct [("tick", .i 1), ("until", .r (al.length + 3))], .inst 292 al.length, .lst [.i 0], .lst (List.replicate 8 (.i 0))])) : CallW w u al (.ref 292) [.i 1] K :=
  cls_w (by k_is) (by k_is) (by k_is) fun u' hd' => paui_y (by omega) ⟨rfl, hK⟩
theorem frai_y {q d l : Nat} {ts : List AV} (hd : u.d < 870) (m1 : al[q]? = some (.inst 250 d)) (m2 : al[d]? = some (.dct [])) (ml : al[l]? = some (.lst ts)) (hz : ts.length ≤ 100)
    (hK : K (.v .none) (al.set d (.dct [("times", .t ts)]))) : CodeW w u al (.ref 247) [.r q, .r l] K := by
  k_offL
  walk
  exact hK
theorem frame_y {l : Nat} {ts : List AV} (hd : u.d < 860) (ml : al[l]? = some (.lst ts)) (hz : ts.length ≤ 100)
    (hK : K (.r (al.length + 1)) (al ++ [.dct [("times", .t ts)], .inst 250 al.length])) : CallW w u al (.ref 250) [.r l] K := by
  refine cls_w (by k_is) (by k_is) (by k_is) fun u' hd' => frai_y (d := al.length + 0) (by omega) (get_app rfl) (get_app rfl) (get_left ml) hz ⟨rfl, ?_⟩
  rw [set_app]
  exact hK
theorem behind_y {now time : Int} (hd : u.d < 880) (hK : K (.i (now + (time + 1 - 1).fdiv 1)) al) : CallW w u al (.ref 261) [.i now, .i time, .i 1] K := by
  have r := PyProof.noPylong_small (x := time + 1 - 1) (y := 1) (by decide)
  k_offL
  walk
  exact hK
noncomputable def untilL (hv : Int → Option Int) (i : Nat) : List AV := (List.range 8).map fun k => AV.i (if k < i then (hv k).getD 0 else 0)
theorem until_len {hv : Int → Option Int} {i : Nat} : (untilL hv i).length = 8 := by unfold untilL; rw [List.length_map, List.length_range]
theorem until_set {hv : Int → Option Int} {i : Nat} {z : Int} (h : hv i = some z) : (untilL hv i).set i (.i z) = untilL hv (i + 1) := by
  refine List.ext_getElem? fun j => ?_
  rw [List.getElem?_set]
  unfold untilL
  rw [List.length_map, List.length_range, List.getElem?_map, List.getElem?_map]
  by_cases e : i = j
  · subst e
    rw [if_pos rfl]
    by_cases h8 : i < 8
    · rw [if_pos h8, List.getElem?_range h8]
      show _ = some (AV.i (if i < i + 1 then _ else _))
      rw [if_pos (Nat.lt_succ_self _), h]; rfl
    · rw [if_neg h8, List.getElem?_eq_none (by rw [List.length_range]; omega)]; rfl
  · rw [if_neg e]
    by_cases h8 : j < 8
    · rw [List.getElem?_range h8]
      show some (AV.i (if j < i then _ else _)) = some (AV.i (if j < i + 1 then _ else _))
      by_cases h2 : j < i
      · rw [if_pos h2, if_pos (by omega)]
      · rw [if_neg h2, if_neg (by omega)]
    · rw [List.getElem?_eq_none (by rw [List.length_range]; omega)]; rfl
theorem until_keep {hv : Int → Option Int} {i : Nat} (h : hv i = none) : untilL hv i = untilL hv (i + 1) := by
  unfold untilL
  refine List.map_congr_left fun j _ => ?_
  by_cases e : i = j
  · subst e
    rw [if_neg (Nat.lt_irrefl _), if_pos (Nat.lt_succ_self _), h]; rfl
  · by_cases h2 : j < i
    · rw [if_pos h2, if_pos (by omega)]
    · rw [if_neg h2, if_neg (by omega)]
theorem heard_y {pa dpa ul fr dfr : Nat} {hv : Int → Option Int} (hd : u.d < 860) (a1 : al[pa]? = some (.inst 292 dpa)) (a2 : al[dpa]? = some (.dct [("tick", .i 1), ("until", .r ul)])) (a3 : al[ul]? = some (.lst (untilL hv 0)))
    (f1 : al[fr]? = some (.inst 250 dfr)) (f2 : al[dfr]? = some (.dct [("times", .t ((List.range 8).map fun k => optA (hv (k : Nat))))]))
    (hK : K (.v .none) (al.set ul (.lst (untilL hv 8)))) : CallW w u al (.ref 282) [.r pa, .r fr, .i 0] K := by
  have hl8 : ((List.range 8).map fun k => optA (hv (k : Nat))).length = 8 := by rw [List.length_map, List.length_range]
  have ht : ∀ i, i < 8 → ((List.range 8).map fun k => optA (hv (k : Nat)))[i]? = some (optA (hv (i : Nat))) := fun i h => by rw [List.getElem?_map, List.getElem?_range h]; rfl
  generalize (List.range 8).map (fun k => optA (hv (k : Nat))) = ts at f2 hl8 ht
  k_offL
  walk
  · exfalso; omega
  · refine ⟨fun i ms' al' => Hid (ms' = ([("times", .t ts), ("now", .i 0), ("pause", .r fr), ("self", .r pa)] : AM) ∧ al' = al.set ul (.lst (untilL hv i))), ⟨rfl, (set_same a3).symm⟩, fun _ _ _ _ => trivial, ?_, ?_⟩
    · rintro i ms' al' hi ⟨rfl, rfl⟩
      replace hi : i < 8 := hi
      refine ⟨trivial, fun u2 hs => ?_⟩
      have hd2 := hs.d
      have e0 : 0 + (i : Int) * 1 = i := by omega
      show Ex _ _ _ _ ([("priority", .i (0 + (i : Int) * 1)), ("times", .t ts), ("now", .i 0), ("pause", .r fr), ("self", .r pa)] : AM) _ _
      rw [e0]
      have hx : ts[((i : Nat) : Int).toNat]? = some (optA (hv (i : Nat))) := by rw [Int.toNat_natCast]; exact ht i hi
      have g3 := get_set (y := .lst (untilL hv i)) a3
      have hlen := until_len (hv := hv) (i := i)
      cases hz : hv (i : Nat) with
      | none =>
        rw [hz] at hx
        unfold optA at hx
        walk
        exact ⟨([("times", .t ts), ("now", .i 0), ("pause", .r fr), ("self", .r pa)] : AM), ⟨rfl, rfl, rfl, rfl, trivial⟩, rfl, by rw [until_keep hz]⟩
      | some z =>
        rw [hz] at hx
        unfold optA at hx
        walk
        refine behind_y (by omega) ?_
        walk
        refine ⟨([("times", .t ts), ("now", .i 0), ("pause", .r fr), ("self", .r pa)] : AM), ⟨rfl, rfl, rfl, rfl, trivial⟩, rfl, ?_⟩
        rw [List.set_set, Int.toNat_natCast, show (0 : Int) + (z + 1 - 1).fdiv 1 = z from by rw [Int.zero_add, Int.add_sub_cancel]; exact Int.fdiv_one z, until_set hz]
    · rintro ms' al' ⟨rfl, rfl⟩
      walk
      exact hK
/-- _law_pause -/
theorem lpause_y {hl : Nat} {hv : Int → Option Int} (hd : u.d < 850) (mh : al[hl]? = some (.hel hv))
    (hK : ∀ j pa dpa ul, al.length ≤ ul → PaA (al ++ j) pa dpa ul ((List.range 8).map fun k => (hv (k : Nat)).getD 0) → K (.r pa) (al ++ j)) : CallW w u al (.ref 425) [.r hl] K := by
  k_offL
  walk
  refine paus_y (by omega) ?_
  have n1 := get_left (l' := [AO.dct [("tick", .i 1), ("until", .r (al.length + 3))], .inst 292 al.length, .lst [.i 0], .lst (List.replicate 8 (.i 0))]) mh
  have hpa : PaA (al ++ [AO.dct [("tick", .i 1), ("until", .r (al.length + 3))], .inst 292 al.length, .lst [.i 0], .lst (List.replicate 8 (.i 0))]) (al.length + 1) (al.length + 0) (al.length + 3) (List.replicate 8 0) := ⟨get_app rfl, get_app rfl, get_app rfl⟩
  have hlen : (al ++ [AO.dct [("tick", .i 1), ("until", .r (al.length + 3))], .inst 292 al.length, .lst [.i 0], .lst (List.replicate 8 (.i 0))]).length = al.length + 4 := by simp
  have hK2 : ∀ j, PaA (((al ++ [AO.dct [("tick", .i 1), ("until", .r (al.length + 3))], .inst 292 al.length, .lst [.i 0], .lst (List.replicate 8 (.i 0))]) ++ j).set (al.length + 3) (.lst (((List.range 8).map fun k => (hv (k : Nat)).getD 0).map .i))) (al.length + 1) (al.length + 0) (al.length + 3) ((List.range 8).map fun k => (hv (k : Nat)).getD 0) → K (.r (al.length + 1)) (((al ++ [AO.dct [("tick", .i 1), ("until", .r (al.length + 3))], .inst 292 al.length, .lst [.i 0], .lst (List.replicate 8 (.i 0))]) ++ j).set (al.length + 3) (.lst (((List.range 8).map fun k => (hv (k : Nat)).getD 0).map .i))) := fun j h => by
    rw [List.append_assoc, set_app] at h ⊢
    exact hK _ _ _ _ (Nat.le_add_right _ _) h
  generalize al ++ [AO.dct [("tick", .i 1), ("until", .r (al.length + 3))], .inst 292 al.length, .lst [.i 0], .lst (List.replicate 8 (.i 0))] = bl at n1 hpa hlen hK2
  clear mh
  obtain ⟨q1, q2, q3⟩ := id hpa
  walk
  refine ⟨fun i bs al' => Hid (bs = ((List.range i).map fun k => optA (hv (k : Nat))) ∧ al' = bl), by decide, ⟨rfl, rfl⟩, fun i bs al' h => ⟨trivial, by rw [h.out.1, List.length_map, List.length_range]; exact Nat.le_refl _⟩, ?_, ?_⟩
  · rintro i bs al' hi ⟨rfl, rfl⟩
    refine ⟨trivial, fun u2 hs => ?_⟩
    have hd2 := hs.d
    have e0 : 0 + (i : Int) * 1 = i := by omega
    show TsK _ _ _ _ ([("priority", .i (0 + (i : Int) * 1)), ("found", .r (al.length + 1)), ("held", .r hl)] : AM) _ _
    rw [e0]
    walk
    refine ⟨?_, rfl⟩
    rw [List.range_succ, List.map_append]
    show _ ++ [optA (hv (0 + (i : Int) * 1))] = _ ++ [optA (hv (i : Nat))]
    rw [e0]
  · rintro bs al' ⟨rfl, rfl⟩
    rw [show Sr.n (.rng 0 1 (Int.toNat 8)) = 8 from rfl]
    walk
    refine frame_y (by omega) get_snoc (by rw [List.length_map, List.length_range]; decide) ?_
    obtain ⟨a1, a2, a3⟩ := hpa.app (j := [AO.lst ((List.range 8).map fun k => optA (hv (k : Nat)))]) |>.app (j := [AO.dct [("times", .t ((List.range 8).map fun k => optA (hv (k : Nat))))], .inst 250 (al' ++ [AO.lst ((List.range 8).map fun k => optA (hv (k : Nat)))]).length])
    walk
    refine heard_y (by omega) a1 a2 a3 (get_app rfl) (get_app (i := 0) rfl) ?_
    walk
    rw [List.append_assoc]
    have h8 : untilL hv 8 = ((List.range 8).map fun k => (hv (k : Nat)).getD 0).map .i := by rw [List.map_map]; rfl
    rw [h8]
    refine hK2 _ ⟨get_set_ne (by rw [← List.append_assoc]; exact a1) (by rw [← List.append_assoc]; exact a3) rfl, get_set_ne (by rw [← List.append_assoc]; exact a2) (by rw [← List.append_assoc]; exact a3) rfl, get_set (by rw [← List.append_assoc]; exact a3)⟩
end
end
section
theorem clr_Y20 : True := by
  w_top off
  trivial
variable {w : World} {A A₀ : Around} {base h₀ : Heap} {outer : List Env} {env : Env} {L : Addr} {m : Str → Option Value} {s : Shared} {Q E : Value → Shared → Prop} {mean : ExcName → Option Value} {mg mb : Str → Option Value}
/-- the greatest number below n that f takes -/
noncomputable def lookB (f : Nat → Bool) : Nat → Option Nat
  | 0 => none
  | n + 1 => if f n = true then some n else lookB f n
theorem lookI_eq {ok : Int → Bool} {rs : List RowR} : ∀ {n : Nat}, lookI ok rs n = lookB (fun n => (match rs[n]? with | some x => !x.us.isEmpty | none => false) && ok n) n
  | 0 => rfl
  | n + 1 => by unfold lookI lookB; rw [lookI_eq (n := n)]; all_goals rfl
theorem lookB_max {f : Nat → Bool} {M : Nat} : ∀ {n : Nat}, M < n → f M = true → (∀ k, k < n → f k = true → k ≤ M) → lookB f n = some M
  | n + 1, h1, h2, h3 => by
    unfold lookB
    by_cases e : M = n
    · subst e; rw [if_pos h2]
    · rw [if_neg fun h => by have := h3 n (Nat.lt_succ_self _) h; omega]
      exact lookB_max (by omega) h2 fun k hk => h3 k (by omega)
theorem lookB_none {f : Nat → Bool} : ∀ {n : Nat}, (∀ k, k < n → f k = false) → lookB f n = none
  | 0, _ => rfl
  | n + 1, h => by unfold lookB; rw [if_neg (by rw [h n (Nat.lt_succ_self _)]; exact Bool.false_ne_true)]; exact lookB_none fun k hk => h k (by omega)
theorem lookB_some {f : Nat → Bool} {M : Nat} : ∀ {n : Nat}, lookB f n = some M → M < n ∧ f M = true
  | n + 1, h => by
    unfold lookB at h
    by_cases e : f n = true
    · rw [if_pos e] at h; cases h; exact ⟨Nat.lt_succ_self _, e⟩
    · rw [if_neg e] at h; exact ⟨Nat.lt_succ_of_lt (lookB_some h).1, (lookB_some h).2⟩
theorem filt_sn {f : Nat → Bool} {i : Nat} : (List.range (i + 1)).filter f = (List.range i).filter f ++ (if f i = true then [i] else []) := by
  rw [List.range_succ, List.filter_append]
  congr 1
  cases h : f i <;> simp [h]
noncomputable def optN : Option Nat → AV
  | none => .v .none
  | some n => .i n
section
variable {w : World} {u : Un} {al : AL} {K : AV → AL → Prop}
set_option maxHeartbeats 2000000
/-- the law's own rows -/
structure RwA (al : AL) (rw c0 c1 c2 : Nat) (q0 q1 q2 : List AV) : Prop where
  m : al[rw]? = some (.lst [.r c0, .r c1, .r c2])
  m0 : al[c0]? = some (.lst q0)
  m1 : al[c1]? = some (.lst q1)
  m2 : al[c2]? = some (.lst q2)
noncomputable def q3 {α : Type} (q0 q1 q2 : α) (k : Nat) : α := if k = 0 then q0 else if k = 1 then q1 else q2
theorem RwA.at {rw c0 c1 c2 : Nat} {q0 q1 q2 : List AV} (m : RwA al rw c0 c1 c2 q0 q1 q2) {k : Nat} (hk : k < 3) : ([.r c0, .r c1, .r c2] : List AV)[(k : Int).toNat]? = some (.r (q3 c0 c1 c2 k)) ∧ al[q3 c0 c1 c2 k]? = some (.lst (q3 q0 q1 q2 k)) := by
  match k, hk with
  | 0, _ => exact ⟨rfl, m.m0⟩
  | 1, _ => exact ⟨rfl, m.m1⟩
  | 2, _ => exact ⟨rfl, m.m2⟩
theorem RwA.app {rw c0 c1 c2 : Nat} {q0 q1 q2 : List AV} (m : RwA al rw c0 c1 c2 q0 q1 q2) {j : AL} : RwA (al ++ j) rw c0 c1 c2 q0 q1 q2 := ⟨get_left m.m, get_left m.m0, get_left m.m1, get_left m.m2⟩
/-- which of the law's rows goes -/
noncomputable def goF (q0 q1 q2 : List AV) (hv : Int → Option Int) (now : Int) (k : Nat) : Bool := !(q3 q0 q1 q2 k).isEmpty && decide ((hv k).getD 0 ≤ now)
theorem head_y {rw c0 c1 c2 hl : Nat} {q0 q1 q2 : List AV} {hv : Int → Option Int} {now : Int} (hd : u.d < 880) (m : RwA al rw c0 c1 c2 q0 q1 q2) (mh : al[hl]? = some (.hel hv))
    (hK : ∀ j, K (optN (lookB (goF q0 q1 q2 hv now) 3)) (al ++ j)) : CallW w u al (.ref 430) [.r rw, .r hl, .i now] K := by
  k_offL
  walk
  refine ⟨fun i bs al' => Hid (bs = (((List.range i).filter (goF q0 q1 q2 hv now)).map fun k : Nat => (k : Int)).map AV.i ∧ ∃ j, al' = al ++ j), by decide, ⟨rfl, [], by simp⟩, fun i bs al' h => ⟨trivial, by rw [h.out.1, List.length_map, List.length_map]; exact Nat.le_trans (List.length_filter_le _ _) (by rw [List.length_range]; exact Nat.le_refl _)⟩, ?_, ?_⟩
  · rintro i bs al' hi ⟨rfl, j, rfl⟩
    replace hi : i < 3 := hi
    refine ⟨trivial, fun u2 hs => ?_⟩
    have hd2 := hs.d
    obtain ⟨g1, g2⟩ := m.app (j := j) |>.at hi
    have g0 := (m.app (j := j)).m
    have gh := get_left (l' := j) mh
    have e0 : 0 + (i : Int) * 1 = i := by omega
    show TsK _ _ _ _ ([("k", .i (0 + (i : Int) * 1)), ("now", .i now), ("held", .r hl), ("rows", .r rw)] : AM) _ _
    rw [e0]
    walk
    · rename_i h1 h2
      have hf : goF q0 q1 q2 hv now i = true := by unfold goF; rw [h1, decide_eq_true h2]; rfl
      refine ⟨?_, _, List.append_assoc ..⟩
      rw [filt_sn, hf, if_pos rfl, List.map_append, List.map_append]
      show _ ++ [AV.i (0 + (i : Int) * 1)] = _ ++ [AV.i (i : Int)]
      rw [e0]
    · rename_i h1 h2
      have hf : goF q0 q1 q2 hv now i = false := by unfold goF; rw [h1, decide_eq_false h2]; rfl
      refine ⟨?_, _, List.append_assoc ..⟩
      rw [filt_sn, hf, if_neg Bool.false_ne_true, List.append_nil]
    · rename_i h1
      have hf : goF q0 q1 q2 hv now i = false := by unfold goF; rw [h1]; rfl
      refine ⟨?_, _, List.append_assoc ..⟩
      rw [filt_sn, hf, if_neg Bool.false_ne_true, List.append_nil]
  · rintro bs al' ⟨rfl, j, rfl⟩
    show Ex _ _ _ _ _ _ _
    rw [show Sr.n (.rng 0 1 (Int.toNat 3)) = 3 from rfl]
    have hmem : ∀ k, k ∈ (List.range 3).filter (goF q0 q1 q2 hv now) ↔ k < 3 ∧ goF q0 q1 q2 hv now k = true := fun k => by rw [List.mem_filter, List.mem_range]
    generalize (List.range 3).filter (goF q0 q1 q2 hv now) = ns at hmem
    walk
    · rename_i h
      refine max_w (ns := ns.map fun k : Nat => (k : Int)) (get_left get_snoc) ?_ fun M h1 h2 => ?_
      · cases ns with
        | nil => cases h
        | cons a r => exact Nat.succ_pos _
      · obtain ⟨k, hk, rfl⟩ := List.mem_map.mp h1
        obtain ⟨k3, kf⟩ := (hmem k).mp hk
        have e := lookB_max k3 kf fun k' h3 h4 => by
          have := h2 (k' : Nat) (List.mem_map_of_mem ((hmem k').mpr ⟨h3, h4⟩))
          omega
        have hk := hK (j ++ [.lst ((ns.map fun k : Nat => (k : Int)).map AV.i)] ++ [.lst []])
        rw [e, ← List.append_assoc, ← List.append_assoc] at hk
        walk
        exact hk
    · rename_i h
      have e : lookB (goF q0 q1 q2 hv now) 3 = none := lookB_none fun k h3 => by
        cases hf : goF q0 q1 q2 hv now k with
        | false => rfl
        | true =>
          have hm := (hmem k).mpr ⟨h3, hf⟩
          cases ns with
          | nil => cases hm
          | cons a r => cases h
      have hk := hK (j ++ [.lst ((ns.map fun k : Nat => (k : Int)).map AV.i)] ++ [.lst []])
      rw [e, ← List.append_assoc, ← List.append_assoc] at hk
      exact hk
end
end
section
local macro_rules | `(tactic| walk_at "no such key") => `(tactic| fail)
theorem clr_Y21 : True := by
  w_top off
  trivial
variable {w : World} {A A₀ : Around} {base h₀ : Heap} {outer : List Env} {env : Env} {L : Addr} {m : Str → Option Value} {s : Shared} {Q E : Value → Shared → Prop} {mean : ExcName → Option Value} {mg mb : Str → Option Value}
section
variable {w : World} {u : Un} {al : AL} {K : AV → AL → Prop}
set_option maxHeartbeats 2000000
structure OwS where
  od : Nat
  rate : Int
  most : Int
  gr : Int
  tm : Int
inductive OwV (al : AL) : AV → Option OwS → Prop
  | no : OwV al (.v .none) none
  | on {od : Nat} {rate most gr tm : Int} (m : al[od]? = some (.sd (ownA rate most gr tm))) : OwV al (.r od) (some ⟨od, rate, most, gr, tm⟩)
noncomputable def OwS.put (s : OwS) (al : AL) (gr : Int) : AL := al.set s.od (.sd (ownA s.rate s.most gr s.tm))
theorem gone_y {rw c0 c1 c2 hl : Nat} {q0 q1 q2 : List AV} {hv : Int → Option Int} {now : Int} {ov : AV} {oo : Option OwS} (hd : u.d < 860) (m : RwA al rw c0 c1 c2 q0 q1 q2) (mh : al[hl]? = some (.hel hv)) (mo : OwV al ov oo)
    (ht : ∀ k, k < 3 → (∀ y ∈ q3 q0 q1 q2 k, ∃ z t, y = .t [.i z, t]) ∧ (q3 q0 q1 q2 k).length ≤ 9)
    (h0 : lookB (goF q0 q1 q2 hv now) 3 = none → ∀ j, K (.v .none) (al ++ j))
    (h1 : ∀ k z t us, lookB (goF q0 q1 q2 hv now) 3 = some k → q3 q0 q1 q2 k = .t [.i z, t] :: us → oo = none → ∀ j, K (.t [.i z, t]) (al.set (q3 c0 c1 c2 k) (.lst us) ++ j))
    (h2 : ∀ k z t us o, lookB (goF q0 q1 q2 hv now) 3 = some k → q3 q0 q1 q2 k = .t [.i z, t] :: us → oo = some o → o.gr < mn (100 * z) o.most → ∀ j, K (.v .none) (al ++ j))
    (h3 : ∀ k z t us o, lookB (goF q0 q1 q2 hv now) 3 = some k → q3 q0 q1 q2 k = .t [.i z, t] :: us → oo = some o → ¬ o.gr < mn (100 * z) o.most → ∀ j, K (.t [.i z, t]) (o.put (al.set (q3 c0 c1 c2 k) (.lst us)) (o.gr - 100 * z) ++ j)) : CallW w u al (.ref 458) [.r rw, .r hl, ov, .i now] K := by
  have mo' := mo
  cases mo with
  | no =>
    k_offL
    walk
    refine head_y (by omega) m mh fun j => ?_
    cases e : lookB (goF q0 q1 q2 hv now) 3 with
    | none =>
      walk
      exact h0 e j
    | some k =>
      obtain ⟨k3, kf⟩ := lookB_some e
      obtain ⟨g1, g2⟩ := (m.app (j := j)).at k3
      have g0 := (m.app (j := j)).m
      obtain ⟨t1, t2⟩ := ht k k3
      have g2' := (m.at k3).2
      cases hq : q3 q0 q1 q2 k with
      | nil => unfold goF at kf; rw [hq] at kf; cases kf
      | cons y us =>
        obtain ⟨z, t, rfl⟩ := t1 y (by rw [hq]; exact .head _)
        rw [hq] at g2 t2 g2'
        have hh := h1 k z t us e hq rfl j
        unfold optN
        walk
        rw [set_left g2']
        exact hh
  | @on od rate most gr tm mm =>
    unfold ownA at mm
    k_offL
    walk
    refine head_y (by omega) m mh fun j => ?_
    cases e : lookB (goF q0 q1 q2 hv now) 3 with
    | none =>
      walk
      exact h0 e j
    | some k =>
      obtain ⟨k3, kf⟩ := lookB_some e
      obtain ⟨g1, g2⟩ := (m.app (j := j)).at k3
      have g0 := (m.app (j := j)).m
      have gm := get_left (l' := j) mm
      obtain ⟨t1, t2⟩ := ht k k3
      have g2' := (m.at k3).2
      cases hq : q3 q0 q1 q2 k with
      | nil => unfold goF at kf; rw [hq] at kf; cases kf
      | cons y us =>
        obtain ⟨z, t, rfl⟩ := t1 y (by rw [hq]; exact .head _)
        rw [hq] at g2 t2 g2'
        have r : IntMulOk 100 z := .of_left (intBits_le_64 (by decide) (by decide))
        unfold optN
        walk
        refine asked_l (by omega) gm ?_
        walk
        · exact h2 k z t us _ e hq rfl (by assumption) j
        · have hh := h3 k z t us _ e hq rfl (by assumption) j
          rw [set_left g2', set_left (get_set_ne mm g2' rfl)]
          exact hh
end
end
section
theorem clr_Y22 : True := by
  w_top off
  trivial
variable {w : World} {A A₀ : Around} {base h₀ : Heap} {outer : List Env} {env : Env} {L : Addr} {m : Str → Option Value} {s : Shared} {Q E : Value → Shared → Prop} {mean : ExcName → Option Value} {mg mb : Str → Option Value}
section
variable {w : World} {u : Un} {al : AL} {K : AV → AL → Prop}
set_option maxHeartbeats 2000000
theorem Un.Ok.le {n : Nat} (ok : u.Ok w) (h : u.d ≤ n) : Cx w u.A u.A₀ u.base u.h₀ u.outer u.en u.L u.mean u.mg u.mb n :=
  ⟨ok.B, ok.X, ok.T, ok.hh, ok.hA, ok.hf, ok.hk, Nat.le_trans ok.hdp h, Nat.le_trans ok.hun h⟩
theorem draw_y {k : Nat} {top : Int} (hd : u.d ≤ 600) (hk : al[k]? = some .src) (h0 : 0 < top) (hK : ∀ r, 0 ≤ r → r < top → K (.i r) al) : CallW w u al (.ref 413) [.r k, .i top] K := by
  refine ⟨fun ok D vs hvs m Q s F N q => ?_⟩
  match vs, hvs with
  | [_, _], ⟨⟨x, hx, e1⟩, ⟨t, e2⟩, _⟩ =>
    subst e1 e2
    obtain ⟨o, r, ho, hoff, N', up, _⟩ := N.at hx hk
    refine next_core (ok.le hd) F N' hoff ho h0 fun r t o' h' tk' g0 g1 F' N'' ho' => q _ _ al tk' h' D .rfl (hK r g0 g1) ⟨t, rfl⟩ F' ?_
    have := up (y := .src) ho' N''
    rwa [set_same hk] at this
theorem pick_y {k l : Nat} {ns : List Int} (hd : u.d < 590) (hk : al[k]? = some .src) (hl : al[l]? = some (.lst (ns.map .i))) (h0 : 0 < ns.length) (h1 : ns.length ≤ 64) (hK : ∀ v ∈ ns, K (.i v) al) : CallW w u al (.ref 420) [.r k, .r l] K := by
  k_offL
  apply ex_retK
  apply ek_itemK
  · intro _ _ _; with_unfolding_all rfl
  walk
  refine ⟨?_⟩
  walk
  refine draw_y (by omega) hk (by rw [List.length_map]; omega) fun r g0 g1 => ?_
  rw [List.length_map] at g1
  have hx := List.getElem?_eq_getElem (show r.toNat < ns.length by omega)
  refine ⟨⟨r, _, rfl, .lst hl (by rw [List.getElem?_map, hx]; rfl) g0 (by omega), ?_⟩⟩
  exact hK _ (List.getElem_mem _)
theorem src_y {l : Addr} {vs : List Value} {ns : List Int} (hd : u.d ≤ 600) (hl : u.h₀.IsList l vs.toArray) (hi : IntsAre vs ns) (hn : ns.length ≤ 63) (hK : K (.r al.length) (al ++ [.src])) : CallW w u al (.ref 406) [.v (.ref l)] K := by
  refine ⟨fun ok D vs hvs m Q s F N q => ?_⟩
  match vs, hvs with
  | [_], ⟨e, _⟩ =>
    cases e
    obtain ⟨led, O⟩ := N
    refine src_core (ok.le hd) F O.N hl hi hn fun d o h' tk' lt ho F' N' => ?_
    have hlt := ne_of_allLt lt
    exact q _ _ _ tk' h' (D.push d) Dc.le_push hK ⟨d, comp_at (led_len O.is), rfl⟩ F' ⟨_, O.push N' hlt ho⟩
end
end
section
local macro_rules | `(tactic| walk_at "no such key") => `(tactic| fail)
theorem clr_Y26 : True := by
  w_top off
  trivial
variable {w : World} {A A₀ : Around} {base h₀ : Heap} {outer : List Env} {env : Env} {L : Addr} {m : Str → Option Value} {s : Shared} {Q E : Value → Shared → Prop} {mean : ExcName → Option Value} {mg mb : Str → Option Value}
section
variable {w : World} {u : Un} {al bl cl : AL} {K : AV → AL → Prop}
set_option maxHeartbeats 2000000
/-- a row's content, a port of rows made one behind the other from slot b on -/
structure RowC where
  us : List AV
  oc : Int
  dp : Int
noncomputable def rowR (b : Nat) (c : Nat → RowC) (k : Nat) : RowR := ⟨b + 3 * k + 1, b + 3 * k, b + 3 * k + 2, (c k).us, (c k).oc, (c k).dp⟩
noncomputable def upd (c : Nat → RowC) (k : Nat) (x : RowC) (i : Nat) : RowC := if i = k then x else c i
theorem upd_at {c : Nat → RowC} {k : Nat} {x : RowC} : upd c k x k = x := if_pos rfl
theorem upd_off {c : Nat → RowC} {k i : Nat} {x : RowC} (h : i ≠ k) : upd c k x i = c i := if_neg h
inductive PaW (al : AL) (b : Nat) : AV → Option (List Int) → Prop
  | no : PaW al b (.v .none) none
  | on {pa dpa ul : Nat} {uns : List Int} (m : PaA al pa dpa ul uns) (hl : ul < b) (h8 : uns.length = 8) : PaW al b (.r pa) (some uns)
theorem PaW.v {b : Nat} {pv : AV} {po : Option (List Int)} (h : PaW al b pv po) : PaV al pv po := by
  cases h with
  | no => exact .no
  | on m hl h8 => exact .on m
theorem PaW.len {b : Nat} {pv : AV} {po : Option (List Int)} (h : PaW al b pv po) (uns : List Int) (e : po = some uns) : uns.length = 8 := by
  cases h with
  | no => cases e
  | on m hl h8 => cases e; exact h8
/-- what a port's deeds leave as it is -/
structure Kp (al al' : AL) : Prop where
  len : al'.length = al.length
  at' : ∀ (k : Nat) (x : AO), al[k]? = some x → 3 ≤ x.kind → x.kind ≤ 6 → al'[k]? = some x
theorem Kp.set {d : Nat} {y z : AO} (h : al[d]? = some z) (hz : z.kind < 3 ∨ 6 < z.kind) : Kp al (al.set d y) :=
  ⟨List.length_set .., fun k x hx h1 h2 => get_set_ne hx h (Bool.eq_false_iff.mpr fun e => by have := eq_of_beq e; omega)⟩
theorem Kp.trans {al2 : AL} (h1 : Kp al bl) (h2 : Kp bl al2) : Kp al al2 := ⟨h2.len.trans h1.len, fun k x hx a b => h2.at' k x (h1.at' k x hx a b) a b⟩
structure PW (al : AL) (p b n : Nat) (c : Nat → RowC) (po : Option (List Int)) (so : Option ShS) (dp q dq : Nat) (sv pv : AV) : Prop where
  p : PoA al p dp q sv pv
  q : QuA al q dq (b + 3 * n) ((List.range n).map (rowR b c))
  a : PaW al b pv po
  s : ShV al sv so
theorem two_set {T E : Nat} {us0 : List AV} {es : List (Str × AV)} {y1 y2 : AO} (m3 : al[T]? = some (.lst us0)) (m2 : al[E]? = some (.dct es)) (he : es.length = 5) {i : Nat} {x : AO} (h : al[i]? = some x) (h1 : (x.kind == 2) = false ∨ T ≠ i) (h2 : (x.kind == 12) = false ∨ E ≠ i) :
    ((al.set T y1).set E y2)[i]? = some x := by
  have g : (al.set T y1)[i]? = some x := by
    rcases h1 with h1 | h1
    · exact get_set_ne h m3 h1
    · exact get_off h h1
  rcases h2 with h2 | h2
  · exact get_set_ne g (get_set_ne m2 m3 (by show ((7 + es.length) == 2) = false; rw [he]; rfl)) (by show (x.kind == 7 + es.length) = false; rw [he]; exact h2)
  · exact get_off g h2
section
variable {p b n : Nat} {c : Nat → RowC} {po : Option (List Int)} {so : Option ShS} {dp q dq : Nat} {sv pv : AV}
theorem rowR_at {k : Nat} (h : k < n) : ((List.range n).map (rowR b c))[k]? = some (rowR b c k) := by
  rw [List.getElem?_map, List.getElem?_range h]; rfl
theorem PW.rowAt (W : PW al p b n c po so dp q dq sv pv) {k : Nat} (h : k < n) : RowR.At al (rowR b c k) := W.q.rows _ (List.mem_of_getElem? (rowR_at h))
theorem PW.row (W : PW al p b n c po so dp q dq sv pv) {k : Nat} (h : k < n) {us : List AV} {oc dr : Int} :
    PW ((al.set (b + 3 * k + 2) (.lst us)).set (b + 3 * k) (.dct (rowA (b + 3 * k + 2) oc dr))) p b n (upd c k ⟨us, oc, dr⟩) po so dp q dq sv pv ∧ Kp al ((al.set (b + 3 * k + 2) (.lst us)).set (b + 3 * k) (.dct (rowA (b + 3 * k + 2) oc dr))) := by
  obtain ⟨r1, r2, r3⟩ := W.rowAt h
  replace r1 : al[b + 3 * k + 1]? = _ := r1
  replace r2 : al[b + 3 * k]? = _ := r2
  replace r3 : al[b + 3 * k + 2]? = _ := r3
  have T : ∀ {i : Nat} {x : AO}, al[i]? = some x → ((x.kind == 2) = false ∨ b + 3 * k + 2 ≠ i) → ((x.kind == 12) = false ∨ b + 3 * k ≠ i) → ((al.set (b + 3 * k + 2) (.lst us)).set (b + 3 * k) (.dct (rowA (b + 3 * k + 2) oc dr)))[i]? = some x := fun g h1 h2 => two_set r3 r2 rfl g h1 h2
  obtain ⟨⟨p1, p2⟩, ⟨q1, q2, q3, qr⟩, a, s⟩ := W
  refine ⟨⟨⟨T p1 (.inl rfl) (.inl rfl), T p2 (.inl rfl) (.inl rfl)⟩, ⟨T q1 (.inl rfl) (.inl rfl), T q2 (.inl rfl) (.inl rfl), ?_, ?_⟩, ?_, ?_⟩, ?_⟩
  · rw [List.map_map] at q3 ⊢
    exact T q3 (.inr (by omega)) (.inl rfl)
  · intro x hx
    obtain ⟨i, hi, rfl⟩ := List.mem_map.mp hx
    have hi := List.mem_range.mp hi
    obtain ⟨g1, g2, g3⟩ := qr _ (List.mem_map_of_mem (f := rowR b c) (List.mem_range.mpr hi))
    by_cases e : i = k
    · subst e
      show RoA _ (b + 3 * i + 1) (b + 3 * i) (b + 3 * i + 2) (upd c i ⟨us, oc, dr⟩ i).us (upd c i ⟨us, oc, dr⟩ i).oc (upd c i ⟨us, oc, dr⟩ i).dp
      rw [upd_at]
      exact ⟨T g1 (.inl rfl) (.inl rfl), get_set (get_set_ne r2 r3 rfl), get_set_ne (get_set r3) (get_set_ne r2 r3 rfl) rfl⟩
    · show RoA _ (b + 3 * i + 1) (b + 3 * i) (b + 3 * i + 2) (upd c k ⟨us, oc, dr⟩ i).us (upd c k ⟨us, oc, dr⟩ i).oc (upd c k ⟨us, oc, dr⟩ i).dp
      rw [upd_off e]
      exact ⟨T g1 (.inl rfl) (.inl rfl), T g2 (.inl rfl) (.inr (by show b + 3 * k ≠ b + 3 * i; omega)), T g3 (.inr (by show b + 3 * k + 2 ≠ b + 3 * i + 2; omega)) (.inl rfl)⟩
  · cases a with
    | no => exact .no
    | on m hl h8 => exact .on ⟨T m.m1 (.inl rfl) (.inl rfl), T m.m2 (.inl rfl) (.inl rfl), T m.m3 (.inr (by omega)) (.inl rfl)⟩ hl h8
  · cases s with
    | no => exact .no
    | on m r0 r1 => exact .on ⟨T m.m1 (.inl rfl) (.inl rfl), T m.m2 (.inl rfl) (.inl rfl), T m.m3 (.inl rfl) (.inl rfl), T m.m4 (.inl rfl) (.inl rfl)⟩ r0 r1
  · exact (Kp.set r3 (.inl (show 2 < 3 from by decide))).trans (Kp.set (get_set_ne r2 r3 rfl) (.inr (show 6 < 7 + 5 from by decide)))
theorem PW.sh {s : ShS} (W : PW al p b n c po (some s) dp q dq sv pv) {gr tm : Int} : PW (s.put al gr tm) p b n c po (some ⟨s.dbk, s.rate, s.burst, gr, tm⟩) dp q dq sv pv ∧ Kp al (s.put al gr tm) := by
  obtain ⟨⟨p1, p2⟩, mq, a, s⟩ := W
  cases s with
  | on m r0 r1 =>
    refine ⟨⟨⟨m.set p1 rfl, m.set p2 rfl⟩, mq.sh m, ?_, .on ⟨m.set m.m1 rfl, m.set m.m2 rfl, m.set m.m3 rfl, get_set m.m4⟩ r0 r1⟩, Kp.set m.m4 (.inr (show 6 < 7 + 4 from by decide))⟩
    cases a with
    | no => exact .no
    | on m2 hl h8 => exact .on ⟨m.set m2.m1 rfl, m.set m2.m2 rfl, m.set m2.m3 rfl⟩ hl h8
/-- what a port's objects are not touched by -/
theorem PW.mono (W : PW al p b n c po so dp q dq sv pv) (T : ∀ {i : Nat} {x : AO}, al[i]? = some x → (x.kind == 5) = false → bl[i]? = some x) : PW bl p b n c po so dp q dq sv pv := by
  obtain ⟨⟨p1, p2⟩, ⟨q1, q2, q3, qr⟩, a, s⟩ := W
  refine ⟨⟨T p1 rfl, T p2 rfl⟩, ⟨T q1 rfl, T q2 rfl, T q3 rfl, fun x hx => ⟨T (qr x hx).m1 rfl, T (qr x hx).m2 rfl, T (qr x hx).m3 rfl⟩⟩, ?_, ?_⟩
  · cases a with
    | no => exact .no
    | on m hl h8 => exact .on ⟨T m.m1 rfl, T m.m2 rfl, T m.m3 rfl⟩ hl h8
  · cases s with
    | no => exact .no
    | on m r0 r1 => exact .on ⟨T m.m1 rfl, T m.m2 rfl, T m.m3 rfl, T m.m4 rfl⟩ r0 r1
theorem PW.sd {od : Nat} {l : List (Str × Int)} {y : AO} (W : PW al p b n c po so dp q dq sv pv) (m : al[od]? = some (.sd l)) : PW (al.set od y) p b n c po so dp q dq sv pv := W.mono fun h hx => get_set_ne h m hx
theorem PW.app {j : AL} (W : PW al p b n c po so dp q dq sv pv) : PW (al ++ j) p b n c po so dp q dq sv pv := W.mono fun h _ => get_left h
theorem lookB_congr {f g : Nat → Bool} : ∀ {n : Nat}, (∀ k, k < n → f k = g k) → lookB f n = lookB g n
  | 0, _ => rfl
  | n + 1, h => by
    unfold lookB
    rw [h n (Nat.lt_succ_self _), lookB_congr fun k hk => h k (Nat.lt_succ_of_lt hk)]
/-- which row of the port goes -/
noncomputable def portF (c : Nat → RowC) (n : Nat) (now : Int) (po : Option (List Int)) (k : Nat) : Bool := !(c k).us.isEmpty && okP n now po k
theorem look_eq {now : Int} : lookI (okP ((List.range n).map (rowR b c)).length now po) ((List.range n).map (rowR b c)) ((List.range n).map (rowR b c)).length = lookB (portF c n now po) n := by
  rw [List.length_map, List.length_range, lookI_eq]
  refine lookB_congr fun k hk => ?_
  rw [rowR_at hk]
  rfl
theorem row_ht (ht : ∀ k, k < n → (∀ y ∈ (c k).us, ∃ z t, y = .t [.i z, t]) ∧ (c k).us.length ≤ 9) : ∀ x ∈ (List.range n).map (rowR b c), (∀ y ∈ x.us, ∃ z t, y = AV.t [.i z, t]) ∧ x.us.length ≤ 9 := by
  intro x hx
  obtain ⟨i, hi, rfl⟩ := List.mem_map.mp hx
  exact ht i (List.mem_range.mp hi)
theorem put_W {k : Nat} {size : Int} {x : AV} (hd : u.d < 860) (W : PW bl p b n c po so dp q dq sv pv) (hk : k < n) (hz : n ≤ 50) (hl : (c k).us.length ≤ 1000)
    (h1 : 9 ≤ (c k).us.length ∨ 999 < (c k).oc + size → ∀ bl', PW bl' p b n (upd c k ⟨(c k).us, (c k).oc, (c k).dp + 1⟩) po so dp q dq sv pv → Kp bl bl' → K (.v (.bool false)) (bl' ++ cl))
    (h2 : (c k).us.length < 9 → (c k).oc + size ≤ 999 → ∀ bl', PW bl' p b n (upd c k ⟨(c k).us ++ [.t [.i size, x]], (c k).oc + size, (c k).dp⟩) po so dp q dq sv pv → Kp bl bl' → K (.v (.bool true)) (bl' ++ cl)) : CallW w u (bl ++ cl) (.ref 212) [.r p, .i k, .i size, x] K := by
  obtain ⟨r1, r2, r3⟩ := W.rowAt hk
  refine put_p (n := k) (y := rowR b c k) hd W.p.app W.q.app (by omega) (by omega) (by rw [Int.toNat_natCast]; exact rowR_at hk) hl (fun h => ?_) fun h h' => ?_
  · rw [set_left r2]
    have g := W.row hk (us := (c k).us) (oc := (c k).oc) (dr := (c k).dp + 1)
    rw [show bl.set (b + 3 * k + 2) (.lst (c k).us) = bl from set_same r3] at g
    exact h1 h _ g.1 g.2
  · rw [set_left r3, set_left (get_set_ne r2 r3 rfl)]
    have g := W.row hk (us := (c k).us ++ [.t [.i size, x]]) (oc := (c k).oc + size) (dr := (c k).dp)
    exact h2 h h' _ g.1 g.2
theorem next_W {now : Int} (hd : u.d < 840) (W : PW bl p b n c po so dp q dq sv pv) (hz : n ≤ 8) (ht : ∀ k, k < n → (∀ y ∈ (c k).us, ∃ z t, y = .t [.i z, t]) ∧ (c k).us.length ≤ 9)
    (h0 : lookB (portF c n now po) n = none → ∀ j, K (.v .none) (bl ++ (cl ++ j)))
    (h1 : ∀ k z t us, lookB (portF c n now po) n = some k → (c k).us = .t [.i z, t] :: us → so = none → ∀ bl' j, PW bl' p b n (upd c k ⟨us, (c k).oc - z, (c k).dp⟩) po none dp q dq sv pv → Kp bl bl' → K t (bl' ++ (cl ++ j)))
    (h2 : ∀ k z t us s, lookB (portF c n now po) n = some k → (c k).us = .t [.i z, t] :: us → so = some s → ¬ mn z s.burst * 100 ≤ filled s.rate s.burst s.gr s.tm now → ∀ bl' j, PW bl' p b n c po (some ⟨s.dbk, s.rate, s.burst, filled s.rate s.burst s.gr s.tm now, filledT s.tm now⟩) dp q dq sv pv → Kp bl bl' → K (.v .none) (bl' ++ (cl ++ j)))
    (h3 : ∀ k z t us s, lookB (portF c n now po) n = some k → (c k).us = .t [.i z, t] :: us → so = some s → mn z s.burst * 100 ≤ filled s.rate s.burst s.gr s.tm now → ∀ bl' j, PW bl' p b n (upd c k ⟨us, (c k).oc - z, (c k).dp⟩) po (some ⟨s.dbk, s.rate, s.burst, filled s.rate s.burst s.gr s.tm now - z * 100, filledT s.tm now⟩) dp q dq sv pv → Kp bl bl' → K t (bl' ++ (cl ++ j))) :
    CallW w u (bl ++ cl) (.ref 219) [.r p, .i now] K := by
  have pop : ∀ {al : AL} {so : Option ShS} {k : Nat} {us : List AV} {z : Int} {j : AL}, PW al p b n c po so dp q dq sv pv → k < n → ∃ al', popR (al ++ cl) (rowR b c k) us z ++ j = al' ++ (cl ++ j) ∧ PW al' p b n (upd c k ⟨us, (c k).oc - z, (c k).dp⟩) po so dp q dq sv pv ∧ Kp al al' := fun {al so k us z j} W h => by
    have g := W.row h (us := us) (oc := (c k).oc - z) (dr := (c k).dp)
    exact ⟨_, by rw [popR_app (W.rowAt h), List.append_assoc]; rfl, g.1, g.2⟩
  have at_k : ∀ {k : Nat} {x : RowR}, ((List.range n).map (rowR b c))[k]? = some x → k < n ∧ x = rowR b c k := fun {k x} h => by
    have hk := (List.getElem?_eq_some_iff.mp h).1
    rw [List.length_map, List.length_range] at hk
    rw [rowR_at hk] at h
    exact ⟨hk, (Option.some.inj h).symm⟩
  refine next_y hd W.p.app W.q.app (PaW.v W.app.a) W.app.s (by rw [List.length_map, List.length_range]; omega) (fun uns e => by rw [List.length_map, List.length_range, W.a.len uns e]; exact hz) (row_ht ht) (fun e j => ?_) (fun k x z t us e hx hu hs j => ?_) fun k x z t us s e hx hu hs bb gr' tm' ⟨e1, e2, e3⟩ j => ?_
  · rw [look_eq] at e
    rw [List.append_assoc]
    exact h0 e j
  · rw [look_eq] at e
    obtain ⟨hk, rfl⟩ := at_k hx
    subst hs
    obtain ⟨al', e', W', k'⟩ := pop (us := us) (z := z) (j := j) W hk
    rw [e']
    exact h1 k z t us e hu rfl al' j W' k'
  · rw [look_eq] at e
    obtain ⟨hk, rfl⟩ := at_k hx
    subst hs
    have g := W.sh (gr := gr') (tm := tm')
    have ep : s.put (bl ++ cl) gr' tm' = s.put bl gr' tm' ++ cl := by
      cases W.s with
      | on m r0 r1 => exact set_left m.m4
    rw [ep]
    by_cases h : mn z s.burst * 100 ≤ filled s.rate s.burst s.gr s.tm now
    · rw [decide_eq_true h] at e1
      subst e1
      rw [if_pos rfl] at e2 ⊢
      obtain ⟨al', e', W', k'⟩ := pop (us := us) (z := z) (j := j) g.1 hk
      rw [e']
      subst e2 e3
      exact h3 k z t us s e hu rfl h al' j W' (g.2.trans k')
    · rw [decide_eq_false h] at e1
      subst e1
      rw [if_neg (by decide)] at e2 ⊢
      rw [List.append_assoc]
      subst e2 e3
      exact h2 k z t us s e hu rfl h _ j g.1 g.2
theorem when_W {now : Int} (hd : u.d < 840) (W : PW bl p b n c po so dp q dq sv pv) (hz : n ≤ 8) (ht : ∀ k, k < n → (∀ y ∈ (c k).us, ∃ z t, y = .t [.i z, t]) ∧ (c k).us.length ≤ 9)
    (h0 : lookB (portF c n now po) n = none → ∀ j, K (.v .none) (bl ++ (cl ++ j)))
    (h1 : ∀ k z t us, lookB (portF c n now po) n = some k → (c k).us = .t [.i z, t] :: us → so = none → ∀ j, K (.i now) (bl ++ (cl ++ j)))
    (h2 : ∀ k z t us s, lookB (portF c n now po) n = some k → (c k).us = .t [.i z, t] :: us → so = some s → ∀ bl' j, PW bl' p b n c po (some ⟨s.dbk, s.rate, s.burst, filled s.rate s.burst s.gr s.tm now, filledT s.tm now⟩) dp q dq sv pv → Kp bl bl' → K (whenV s.rate s.burst s.gr s.tm z now) (bl' ++ (cl ++ j))) :
    CallW w u (bl ++ cl) (.ref 226) [.r p, .i now] K := by
  have at_k : ∀ {k : Nat} {x : RowR}, ((List.range n).map (rowR b c))[k]? = some x → k < n ∧ x = rowR b c k := fun {k x} h => by
    have hk := (List.getElem?_eq_some_iff.mp h).1
    rw [List.length_map, List.length_range] at hk
    rw [rowR_at hk] at h
    exact ⟨hk, (Option.some.inj h).symm⟩
  refine pwhen_y hd W.p.app W.q.app (PaW.v W.app.a) W.app.s (by rw [List.length_map, List.length_range]; omega) (fun uns e => by rw [List.length_map, List.length_range, W.a.len uns e]; exact hz) (fun x hx => (row_ht ht x hx).1) (fun e j => ?_) (fun k x z t us e hx hu hs j => ?_) fun k x z t us s e hx hu hs j => ?_
  · rw [look_eq] at e
    rw [List.append_assoc]
    exact h0 e j
  · rw [look_eq] at e
    obtain ⟨hk, rfl⟩ := at_k hx
    rw [List.append_assoc]
    exact h1 k z t us e hu hs j
  · rw [look_eq] at e
    obtain ⟨hk, rfl⟩ := at_k hx
    subst hs
    have g := W.sh (gr := filled s.rate s.burst s.gr s.tm now) (tm := filledT s.tm now)
    have ep : s.put (bl ++ cl) (filled s.rate s.burst s.gr s.tm now) (filledT s.tm now) = s.put bl (filled s.rate s.burst s.gr s.tm now) (filledT s.tm now) ++ cl := by
      cases W.s with
      | on m r0 r1 => exact set_left m.m4
    rw [ep, List.append_assoc]
    exact h2 k z t us s e hu rfl _ j g.1 g.2
end
end
end
section
theorem clr_Y27 : True := by
  w_top off
  trivial
variable {w : World} {A A₀ : Around} {base h₀ : Heap} {outer : List Env} {env : Env} {L : Addr} {m : Str → Option Value} {s : Shared} {Q E : Value → Shared → Prop} {mean : ExcName → Option Value} {mg mb : Str → Option Value}
section
variable {w : World} {u : Un} {al bl : AL} {K : AV → AL → Prop}
set_option maxHeartbeats 2000000
theorem porti2_y {p d : Nat} {q : Nat} {sv : AV} (hd : u.d < 870) (m1 : al[p]? = some (.inst 229 d)) (m2 : al[d]? = some (.dct []))
    (hK : K (.v .none) (al.set d (.dct [("queues", .r q), ("shaper", sv), ("pause", .v .none)]))) : CodeW w u al (.ref 200) [.r p, .r q, sv] K := by
  refine' enter (ds := [.none]) ?l ?c ?b ?n ?d ?e1 ?e2 ?e3 ?cc ?_
  (case l => k_is); (case e1 => exact rfl); (case e2 => exact rfl); (case e3 => exact rfl); (case c => k_is)
  (case b => (intro s' X'; exact len3 fun _ _ _ => binds_K X' rfl (by k_is) rfl rfl rfl)); (case n => decide +kernel); (case d => omega); (case cc => decide +kernel)
  intro u' hu
  dsimp only [List.map, List.zip, List.zipWith, List.reverse, List.reverseAux, List.append_eq, List.nil_append, List.cons_append]
  walk
  simp only [List.set_set]
  exact hK
theorem port2_y {q : Nat} {sv : AV} (hd : u.d < 860) (hK : K (.r (al.length + 1)) (al ++ [.dct [("queues", .r q), ("shaper", sv), ("pause", .v .none)], .inst 229 al.length])) : CallW w u al (.ref 229) [.r q, sv] K := by
  refine cls_w (by k_is) (by k_is) (by k_is) fun u' hd' => porti2_y (d := al.length + 0) (by omega) (get_app rfl) (get_app rfl) ⟨rfl, ?_⟩
  rw [set_app]
  exact hK
theorem ShV.app' {sv : AV} {so : Option ShS} {j : AL} (h : ShV al sv so) : ShV (al ++ j) sv so := by
  cases h with
  | no => exact .no
  | on m r0 r1 => exact .on m.app r0 r1
theorem look1 {c : Nat → RowC} {now : Int} {x : AV} {xs : List AV} {r : Option Nat} (hc : (c 0).us = x :: xs) (h : lookB (portF c 1 now none) 1 = r) : r = some 0 := by
  subst h
  unfold lookB portF
  rw [hc]
  rfl
theorem ht1 {c : Nat → RowC} {x : RowC} (hc : c 0 = x) (h : (∀ y ∈ x.us, ∃ z t, y = AV.t [.i z, t]) ∧ x.us.length ≤ 9) : ∀ k, k < 1 → (∀ y ∈ (c k).us, ∃ z t, y = AV.t [.i z, t]) ∧ (c k).us.length ≤ 9 := fun k hk => by
  rw [Nat.lt_one_iff.mp hk, hc]; exact h
theorem PW.now {p b : Nat} {c : Nat → RowC} {po : Option (List Int)} {dbk : Nat} {gr tm gr' tm' r bu : Int} {dp q dq : Nat} {sv pv : AV} {x : RowC} (W : PW bl p b 1 c po (some ⟨dbk, r, bu, gr, tm⟩) dp q dq sv pv) (hc : c 0 = x) (h1 : gr = gr') (h2 : tm = tm') :
    ∃ c', PW bl p b 1 c' po (some ⟨dbk, r, bu, gr', tm'⟩) dp q dq sv pv ∧ c' 0 = x := by
  subst h1 h2; exact ⟨c, W, hc⟩
theorem get_snoc' {x y : AO} : (al ++ [x] ++ [y])[al.length]? = some x := get_left get_snoc
theorem CallW.nil {f : Value} {as : List AV} (h : CallW w u (bl ++ []) f as K) : CallW w u bl f as K := by rwa [List.append_nil] at h
theorem fixed_y (hd : u.d < 800) (hK : ∀ al', K (.v (.bool true)) al') : CallW w u al (.ref 470) [] K := by
  apply CodeW.call
  refine' enter (ds := []) ?l ?c ?b ?n ?d ?e1 ?e2 ?e3 ?cc ?_
  (case l => k_is); (case e1 => exact rfl); (case e2 => exact rfl); (case e3 => exact rfl); (case c => k_is)
  (case b => (intro s' X' vs hvs; cases List.eq_nil_of_length_eq_zero hvs; exact BindsTo.of_eq rfl)); (case n => decide +kernel); (case d => omega); (case cc => decide +kernel)
  intro u' hu
  dsimp only [List.map, List.zip, List.zipWith, List.reverse, List.reverseAux, List.append_eq, List.nil_append, List.cons_append]
  walk
  refine queues_y (n := 1) (by omega) (by decide) get_snoc fun j hl hq => ?_
  walk
  refine shaper_y (by omega) (by decide) (by decide) (by decide) fun j2 sh dbk hs => ?_
  walk
  refine port2_y (by omega) ?_
  walk
  obtain ⟨p, b, c, so, dp, q, dq, W, ep, hc, hso⟩ : ∃ p b c so dp q dq, PW (al ++ [AO.lst [AV.t [AV.i 9, AV.i 999]]] ++ j ++ j2 ++ [AO.dct [("queues", AV.r ((al ++ [AO.lst [AV.t [AV.i 9, AV.i 999]]]).length + 1)), ("shaper", AV.r sh), ("pause", AV.v Value.none)], AO.inst 229 (al ++ [AO.lst [AV.t [AV.i 9, AV.i 999]]] ++ j ++ j2).length]) p b 1 c none (some so) dp q dq (.r sh) (.v .none) ∧ (al ++ [AO.lst [AV.t [AV.i 9, AV.i 999]]] ++ j ++ j2).length + 1 = p ∧ Hid (c 0 = ⟨[], 0, 0⟩) ∧ Hid (so = ⟨dbk, 100, 10, 1000, 0⟩) :=
    ⟨_, _, fun _ => ⟨[], 0, 0⟩, _, _, _, _, ⟨⟨get_app rfl, get_app (i := 0) rfl⟩, hq.app.app, .no, hs.app'⟩, rfl, ⟨rfl⟩, ⟨rfl⟩⟩
  rw [ep]
  generalize al ++ [AO.lst [AV.t [AV.i 9, AV.i 999]]] ++ j ++ j2 ++ [AO.dct [("queues", AV.r ((al ++ [AO.lst [AV.t [AV.i 9, AV.i 999]]]).length + 1)), ("shaper", AV.r sh), ("pause", AV.v Value.none)], AO.inst 229 (al ++ [AO.lst [AV.t [AV.i 9, AV.i 999]]] ++ j ++ j2).length] = bl at W
  clear hq hs hl ep
  have hy : ∀ y ∈ [AV.t [.i 25, .s (Str.ofString "a")], AV.t [.i 1, .s (Str.ofString "b")]], ∃ z t, y = AV.t [.i z, t] := fun y hy => by
    rcases List.mem_cons.mp hy with rfl | hy
    · exact ⟨_, _, rfl⟩
    · exact ⟨_, _, List.mem_singleton.mp hy⟩
  have g1 := W.p.m1
  have g2 := W.p.m2
  walk
  refine CallW.nil (put_W (k := 0) (by omega) W (by decide) (by decide) (by rw [hc.out]; decide) (fun h => absurd h (by rw [hc.out]; decide)) fun _ _ bl2 W2 _ => ?_)
  rw [hc.out] at W2
  clear g1 g2
  have g1 := (W2.app (j := [])).p.m1
  have g2 := (W2.app (j := [])).p.m2
  walk
  refine put_W (k := 0) (by omega) W2 (by decide) (by decide) (by rw [upd_at]; decide) (fun h => absurd h (by rw [upd_at]; decide)) fun _ _ bl3 W3 _ => ?_
  rw [upd_at] at W3
  clear g1 g2
  have hc3 : upd (upd c 0 ⟨[] ++ [AV.t [.i 25, .s (Str.ofString "a")]], 0 + 25, 0⟩) 0 ⟨([] ++ [AV.t [.i 25, .s (Str.ofString "a")]]) ++ [AV.t [.i 1, .s (Str.ofString "b")]], 0 + 25 + 1, 0⟩ 0 = _ := upd_at
  generalize upd (upd c 0 _) 0 _ = c3 at W3 hc3
  have so1 := hso.out
  subst so1
  clear hso
  have g1 := (W3.app (j := [])).p.m1
  have g2 := (W3.app (j := [])).p.m2
  refine ex_retK ?_
  refine ek_eqL ?hm ?hd ?_
  case hm => exact rfl
  case hd => omega
  walk
  refine next_W (by omega) W3 (by decide) (ht1 hc3 ⟨hy, by decide⟩) (fun e => nomatch look1 (by rw [hc3]; rfl) e) (fun _ _ _ _ _ _ e => nomatch e) (fun k z t us s e e2 e3 h => ?_) fun k z t us s e e2 e3 h bl4 j4 W4 _ => ?_
  · exfalso
    cases look1 (by rw [hc3]; rfl) e
    rw [hc3] at e2
    cases e2
    cases e3
    exact h (show mn 25 10 * 100 ≤ filled 100 10 1000 0 0 by decide)
  cases look1 (by rw [hc3]; rfl) e
  rw [hc3] at e2 W4
  cases e2
  cases e3
  clear g1 g2
  obtain ⟨c4, W4, hc4⟩ : ∃ c', PW bl4 p b 1 c' none (some ⟨dbk, 100, 10, -1500, 0⟩) dp q dq (.r sh) (.v .none) ∧ c' 0 = ⟨[AV.t [.i 1, .s (Str.ofString "b")]], 1, 0⟩ := W4.now (gr' := -1500) (tm' := 0) upd_at (show filled 100 10 1000 0 0 - 25 * 100 = -1500 by decide) (show filledT 0 0 = 0 by decide)
  have g1 := (W4.app (j := [] ++ j4)).p.m1
  have g2 := (W4.app (j := [] ++ j4)).p.m2
  walk
  refine when_W (by omega) W4 (by decide) (ht1 hc4 ⟨fun y h => hy y (.tail _ h), by decide⟩) (fun e => nomatch look1 (by rw [hc4]) e) (fun _ _ _ _ _ _ e => nomatch e) fun k z t us s e e2 e3 bl5 j5 W5 _ => ?_
  cases look1 (by rw [hc4]) e
  rw [hc4] at e2
  cases e2
  cases e3
  clear g1 g2
  obtain ⟨c5, W5, hc5⟩ : ∃ c', PW bl5 p b 1 c' none (some ⟨dbk, 100, 10, -1500, 0⟩) dp q dq (.r sh) (.v .none) ∧ c' 0 = ⟨[AV.t [.i 1, .s (Str.ofString "b")]], 1, 0⟩ := W5.now (gr' := -1500) (tm' := 0) hc4 (show filled 100 10 (-1500) 0 0 = -1500 by decide) (show filledT 0 0 = 0 by decide)
  rw [show whenV 100 10 (-1500) 0 1 0 = .i 16 from rfl]
  have g1 := (W5.app (j := [] ++ j4 ++ j5)).p.m1
  have g2 := (W5.app (j := [] ++ j4 ++ j5)).p.m2
  walk
  refine next_W (by omega) W5 (by decide) (ht1 hc5 ⟨fun y h => hy y (.tail _ h), by decide⟩) (fun e => nomatch look1 (by rw [hc5]) e) (fun _ _ _ _ _ _ e => nomatch e) (fun k z t us s e e2 e3 h bl6 j6 W6 _ => ?_) fun k z t us s e e2 e3 h => ?_
  case' refine_2 =>
    exfalso
    cases look1 (by rw [hc5]) e
    rw [hc5] at e2
    cases e2
    cases e3
    exact absurd h (show ¬ mn 1 10 * 100 ≤ filled 100 10 (-1500) 0 15 by decide)
  cases look1 (by rw [hc5]) e
  rw [hc5] at e2
  cases e2
  cases e3
  clear g1 g2
  obtain ⟨c6, W6, hc6⟩ : ∃ c', PW bl6 p b 1 c' none (some ⟨dbk, 100, 10, 0, 15⟩) dp q dq (.r sh) (.v .none) ∧ c' 0 = ⟨[AV.t [.i 1, .s (Str.ofString "b")]], 1, 0⟩ := W6.now (gr' := 0) (tm' := 15) hc5 (show filled 100 10 (-1500) 0 15 = 0 by decide) (show filledT 0 15 = 15 by decide)
  have g1 := (W6.app (j := [] ++ j4 ++ j5 ++ j6)).p.m1
  have g2 := (W6.app (j := [] ++ j4 ++ j5 ++ j6)).p.m2
  walk
  refine next_W (by omega) W6 (by decide) (ht1 hc6 ⟨fun y h => hy y (.tail _ h), by decide⟩) (fun e => nomatch look1 (by rw [hc6]) e) (fun _ _ _ _ _ _ e => nomatch e) (fun k z t us s e e2 e3 h => ?_) fun k z t us s e e2 e3 h bl7 j7 W7 _ => ?_
  · exfalso
    cases look1 (by rw [hc6]) e
    rw [hc6] at e2
    cases e2
    cases e3
    exact h (show mn 1 10 * 100 ≤ filled 100 10 0 15 16 by decide)
  cases look1 (by rw [hc6]) e
  rw [hc6] at e2
  cases e2
  cases e3
  clear g1 g2
  walk
  exact hK _
end
end
section
local macro_rules | `(tactic| walk_at "no such key") => `(tactic| fail)
theorem clr_YP : True := by
  w_top off
  trivial
variable {w : World} {A A₀ : Around} {base h₀ : Heap} {outer : List Env} {env : Env} {L : Addr} {m : Str → Option Value} {s : Shared} {Q E : Value → Shared → Prop} {mean : ExcName → Option Value} {mg mb : Str → Option Value}
/-! the law's arithmetic, with no program in sight -/
noncomputable def ssum (l : List (Int × Int)) : Int := (l.map (·.2)).sum
theorem ssum_snoc {c : List (Int × Int)} {t z : Int} : ssum (c ++ [(t, z)]) = ssum c + z := by simp [ssum]
/-- between any two times no more octets than burst, rate and one thing let -/
noncomputable def BndOk (sy : List (Int × Int)) (rate burst : Int) : Prop := ∀ a c (t z : Int), (∃ r, sy = a ++ (c ++ (t, z) :: r)) → 100 * ssum (c ++ [(t, z)]) ≤ 100 * (burst + max 0 (z - burst)) + rate * (t - ((c ++ [(t, z)]).headD (0, 0)).1)
theorem mn_le1 {a b : Int} : mn a b ≤ a := by unfold mn; split <;> omega
theorem mn_le2 {a b : Int} : mn a b ≤ b := by unfold mn; split <;> omega
theorem snoc_split {α : Type} {l a c : List α} {x : α} (h : l ++ [x] = a ++ c) (hc : c ≠ []) : ∃ c', c = c' ++ [x] ∧ l = a ++ c' := by
  obtain ⟨c', y, rfl⟩ : ∃ c' y, c = c' ++ [y] := ⟨c.dropLast, c.getLast hc, (List.dropLast_concat_getLast hc).symm⟩
  rw [← List.append_assoc] at h
  have h1 := List.append_inj_left' h rfl
  have h2 := List.append_inj_right' h rfl
  cases h2
  exact ⟨c', rfl, h1⟩
theorem headD_snoc {c : List (Int × Int)} {x d : Int × Int} (hc : c ≠ []) : (c ++ [x]).headD d = c.headD d := by
  cases c with
  | nil => exact absurd rfl hc
  | cons y r => rfl
/-- what stands between two turns, where there is a shaper -/
structure Pin (rate burst gr tm og : Int) (sy : List (Int × Int)) (now : Int) : Prop where
  n0 : 0 ≤ now
  f1 : tm ≤ now
  f2 : filled rate burst gr tm now = og
  hog : og ≤ 100 * burst
  b : ∀ a c, sy = a ++ c → c ≠ [] → 100 * ssum c + og ≤ 100 * burst + rate * (now - (c.headD (0, 0)).1)
  e : BndOk sy rate burst
section
variable {rate burst gr tm og now n2 z : Int} {sy : List (Int × Int)}
theorem filled_step (r0 : 0 ≤ rate) (h1 : tm ≤ now) (h2 : filled rate burst gr tm now = og) (hog : og ≤ 100 * burst) (h3 : now ≤ n2) : filled rate burst gr tm n2 = mn (og + rate * (n2 - now)) (100 * burst) := by
  have hd : 0 ≤ rate * (n2 - now) := Int.mul_nonneg r0 (by omega)
  unfold filled at h2 ⊢
  by_cases e1 : now ≤ tm
  · obtain rfl : tm = now := by omega
    rw [if_pos (Int.le_refl _)] at h2
    subst h2
    by_cases e2 : n2 ≤ tm
    · obtain rfl : tm = n2 := by omega
      rw [if_pos (Int.le_refl _), Int.sub_self, Int.mul_zero, Int.add_zero]
      unfold mn; split <;> omega
    · rw [if_neg e2, Int.mul_comm burst]
  · rw [if_neg e1] at h2
    rw [if_neg (by omega)]
    have hs : rate * (n2 - tm) = rate * (now - tm) + rate * (n2 - now) := by rw [← Int.mul_add]; congr 1; omega
    rw [hs, ← h2, Int.mul_comm burst]
    unfold mn
    split <;> split <;> (try split) <;> omega
/-- time goes on -/
theorem Pin.step (p : Pin rate burst gr tm og sy now) (r0 : 0 ≤ rate) (h : now ≤ n2) : Pin rate burst gr tm (mn (og + rate * (n2 - now)) (100 * burst)) sy n2 where
  n0 := Int.le_trans p.n0 h
  f1 := Int.le_trans p.f1 h
  f2 := filled_step r0 p.f1 p.f2 p.hog h
  hog := mn_le2
  b := fun a c h2 hc => by
    have h3 := p.b a c h2 hc
    have h4 : mn (og + rate * (n2 - now)) (100 * burst) ≤ og + rate * (n2 - now) := mn_le1
    have h5 : rate * (n2 - (c.headD (0, 0)).1) = rate * (now - (c.headD (0, 0)).1) + rate * (n2 - now) := by
      rw [← Int.mul_add]; congr 1; omega
    rw [h5]
    omega
  e := p.e
theorem Pin.tm_now (p : Pin rate burst gr tm og sy now) : filledT tm now = now := by
  have := p.f1
  unfold filledT
  split <;> omega
theorem filled_now {x : Int} : filled rate burst x now now = x := if_pos (Int.le_refl _)
/-- asked when -/
theorem Pin.when (p : Pin rate burst gr tm og sy now) : Pin rate burst (filled rate burst gr tm now) (filledT tm now) og sy now where
  n0 := p.n0
  f1 := by rw [p.tm_now]; exact Int.le_refl _
  f2 := by rw [p.tm_now, filled_now]; exact p.f2
  hog := p.hog
  b := p.b
  e := p.e
theorem mn_100 {a b : Int} : mn a b * 100 = mn (100 * a) (100 * b) := by unfold mn; split <;> split <;> omega
/-- a thing goes -/
theorem Pin.next (p : Pin rate burst gr tm og sy now) (hgo : ¬ og < mn (100 * z) (100 * burst)) (hz : 1 ≤ z) : Pin rate burst (filled rate burst gr tm now - z * 100) (filledT tm now) (og - 100 * z) (sy ++ [(now, z)]) now where
  n0 := p.n0
  f1 := by rw [p.tm_now]; exact Int.le_refl _
  f2 := by rw [p.tm_now, filled_now, p.f2, Int.mul_comm]
  hog := by have := p.hog; omega
  b := fun a c h hc => by
    obtain ⟨c', rfl, h2⟩ := snoc_split h hc
    rw [ssum_snoc]
    by_cases hn : c' = []
    · subst hn
      have h3 := p.hog
      show 100 * (0 + z) + (og - 100 * z) ≤ 100 * burst + rate * (now - now)
      rw [Int.sub_self, Int.mul_zero]
      omega
    · rw [headD_snoc hn]
      have h3 := p.b a c' h2 hn
      omega
  e := fun a c t z' ⟨r, h⟩ => by
    by_cases hr : r = []
    · subst hr
      obtain ⟨c', h2, h3⟩ := snoc_split h (by simp)
      have h4 := List.append_inj_right' h2 rfl
      have h5 := List.append_inj_left' h2 rfl
      cases h4
      subst h5
      have h7 : 100 * z ≤ 100 * (burst + max 0 (z - burst)) := by omega
      rw [ssum_snoc]
      by_cases hn : c = []
      · subst hn
        show 100 * (0 + z) ≤ _ + rate * (now - now)
        rw [Int.sub_self, Int.mul_zero]
        omega
      · rw [headD_snoc hn]
        have h8 := p.b a c h3 hn
        unfold mn at hgo
        split at hgo <;> omega
    · obtain ⟨r', y, rfl⟩ : ∃ r' y, r = r' ++ [y] := ⟨r.dropLast, r.getLast hr, (List.dropLast_concat_getLast hr).symm⟩
      have h2 : sy ++ [(now, z)] = (a ++ (c ++ (t, z') :: r')) ++ [y] := by rw [h]; simp
      exact p.e a c t z' ⟨r', List.append_inj_left' h2 rfl⟩
/-- the beginning -/
theorem Pin.start (h : 1 ≤ burst) : Pin rate burst (burst * 100) 0 (100 * burst) [] 0 where
  n0 := Int.le_refl _
  f1 := Int.le_refl _
  f2 := by rw [filled_now, Int.mul_comm]
  hog := Int.le_refl _
  b := fun a c h hc => absurd (List.append_eq_nil_iff.mp h.symm).2 hc
  e := fun a c t z ⟨r, h⟩ => by simp at h
/-- when the port's answer and the law's are the same -/
theorem when_due (p : Pin rate burst gr tm og sy now) : whenV rate burst gr tm z now = optA (odueT rate (100 * burst) og z now) := by
  unfold whenV waitV odueT
  rw [p.f2, mn_100]
  have hb : ¬ burst < mn z burst := by have := mn_le2 (a := z) (b := burst); omega
  by_cases h : mn (100 * z) (100 * burst) - og ≤ 0
  · simp only [h, if_true]
    show AV.i (now + 0) = AV.i now
    rw [Int.add_zero]
  · simp only [h, if_false]
    by_cases hr : rate = 0
    · simp [hr, optA]
    · simp [hr, hb, optA]
end
noncomputable def overs (burst : Int) (sy : List (Int × Int)) : List Int := (sy.filter fun x : Int × Int => decide (burst < x.2)).map fun x => x.2 - burst
theorem overs_len {burst : Int} {sy : List (Int × Int)} : (overs burst sy).length ≤ sy.length := by
  unfold overs; rw [List.length_map]; exact List.length_filter_le _ _
theorem overs_yes {burst z t : Int} {sy : List (Int × Int)} {q : Nat} (e : sy[q]? = some (t, z)) (h : burst < z) : overs burst (sy.take (q + 1)) = overs burst (sy.take q) ++ [z - burst] := by
  unfold overs
  rw [List.take_add_one, e, List.filter_append, List.map_append]
  simp only [Option.toList, List.filter, h, decide_true]
  rfl
theorem overs_no {burst z t : Int} {sy : List (Int × Int)} {q : Nat} (e : sy[q]? = some (t, z)) (h : ¬ burst < z) : overs burst (sy.take (q + 1)) = overs burst (sy.take q) := by
  unfold overs
  rw [List.take_add_one, e, List.filter_append, List.map_append]
  simp only [Option.toList, List.filter, h, decide_false]
  simp
theorem bnd_no {sy c zs : List (Int × Int)} {i : Nat} {burst rate M t0 z0 tt z : Int} (he : BndOk sy rate burst)
    (hsy : sy.drop i = c ++ (tt, z) :: zs) (e01 : sy[i]? = some (t0, z0)) (b : ∀ a, a ∈ 0 :: overs burst (sy.drop i) → a ≤ M) (h : 100 * (burst + M) + rate * (tt - t0) < 100 * (ssum c + z)) : False := by
  have e := he (sy.take i) c tt z ⟨zs, by rw [← hsy, List.take_append_drop]⟩
  have h0 := b 0 (.head _)
  have hm : max 0 (z - burst) ≤ M := by
    by_cases hz : burst < z
    · have := b (z - burst) (.tail _ (List.mem_map.mpr ⟨(tt, z), List.mem_filter.mpr ⟨by rw [hsy]; simp, by simpa using hz⟩, rfl⟩))
      omega
    · omega
  have hh : ((c ++ [(tt, z)]).headD (0, 0)).1 = t0 := by
    have h1 : (sy.drop i).head? = some (t0, z0) := by rw [List.head?_drop]; exact e01
    rw [hsy] at h1
    cases c with
    | nil => simp at h1 ⊢; exact h1.1
    | cons x c => simp at h1 ⊢; rw [h1]
  rw [hh, ssum_snoc] at e
  omega
end
section
theorem clr_Y28 : True := by
  w_top off
  trivial
variable {w : World} {A A₀ : Around} {base h₀ : Heap} {outer : List Env} {env : Env} {L : Addr} {m : Str → Option Value} {s : Shared} {Q E : Value → Shared → Prop} {mean : ExcName → Option Value} {mg mb : Str → Option Value}
/-- what the law's sent holds -/
noncomputable def pA (x : Int × Int) : AV := .t [.i x.1, .i x.2]
section
variable {w : World} {u : Un} {al bl : AL} {K : AV → AL → Prop}
set_option maxHeartbeats 2000000
theorem AddB.gen {K : AV → AL → Prop} {k j : Nat} {us vs : List AV} (m1 : al[k]? = some (.lst us)) (m2 : al[j]? = some (.lst vs)) (hz : us.length + vs.length ≤ 16000) (h : ∀ al' L, (∃ x, al' = al ++ [x]) → al'[L]? = some (.lst (us ++ vs)) → K (.r L) al') : AddB k us K (.r j) al :=
  .in m1 m2 hz (h _ _ ⟨_, rfl⟩ get_snoc)
theorem bounded_y {sl : Nat} {sy : List (Int × Int)} {rate burst : Int} (hd : u.d < 840) (m : al[sl]? = some (.lst (sy.map pA))) (r0 : 0 ≤ rate) (r1 : rate ≤ 1000) (b0 : 1 ≤ burst) (b1 : burst ≤ 1000) (hlen : sy.length ≤ 100)
    (he : BndOk sy rate burst) (hK : ∀ j, K (.v (.bool true)) (al ++ j)) : CallW w u al (.ref 463) [.r sl, .i rate, .i burst] K := by
  k_offL
  walk
  rename_i u1 hu hcl
  have hlm : (sy.map pA).length = sy.length := List.length_map ..
  refine ⟨fun i ms' al' => Hid (ms' = ([("burst", .i burst), ("rate", .i rate), ("sent", .r sl)] : AM) ∧ ∃ j, al' = al ++ j), ⟨rfl, [], (List.append_nil _).symm⟩, fun _ _ _ _ => trivial, ?_, ?_⟩
  · rintro i ms' al' hi ⟨rfl, j, rfl⟩
    replace hi : i < ((sy.map pA).length : Int).toNat := hi
    rw [Int.toNat_natCast, hlm] at hi
    refine ⟨trivial, fun u2 hs => ?_⟩
    have hd2 := hs.d
    have e0 : 0 + (i : Int) * 1 = i := by omega
    show Ex _ _ _ _ ([("first", .i (0 + (i : Int) * 1)), ("burst", .i burst), ("rate", .i rate), ("sent", .r sl)] : AM) _ _
    rw [e0]
    have m1 := get_left (l' := j) m
    obtain ⟨⟨t0, z0⟩, e01⟩ : ∃ x, sy[i]? = some x := ⟨_, List.getElem?_eq_getElem hi⟩
    have hx : (sy.map pA)[((i : Nat) : Int).toNat]? = some (.t [.i t0, .i z0]) := by rw [Int.toNat_natCast, List.getElem?_map, e01]; rfl
    walk
    rw [Int.toNat_natCast, ← List.map_drop]
    have hx0 : (sy.drop i).length = sy.length - i := List.length_drop ..
    have hno : ∀ (c zs : List (Int × Int)) (M tt z : Int), sy.drop i = c ++ (tt, z) :: zs → (∀ a, a ∈ 0 :: overs burst (sy.drop i) → a ≤ M) → 100 * (burst + M) + rate * (tt - t0) < 100 * (ssum c + z) → False := fun c zs M tt z h1 h2 h3 => bnd_no he h1 e01 h2 h3
    generalize hsd : sy.drop i = sd at hx0 hno
    have hlm2 : (sd.map pA).length = sd.length := List.length_map ..
    have hz2 : sd.length ≤ 100 := by omega
    refine ⟨fun n ms' al' => Hid (ms' = ([("octets", .i (ssum (sd.take n))), ("first", .i i), ("burst", .i burst), ("rate", .i rate), ("sent", .r sl)] : AM) ∧ ∃ j2, al' = al ++ j ++ [.lst (sd.map pA)] ++ j2), ⟨rfl, [], (List.append_nil _).symm⟩, fun n ms' al' h => ?_, ?_, ?_⟩
    · obtain ⟨_, j2, rfl⟩ := h.out
      exact get_left get_snoc
    · rintro n ms' al' hn ⟨rfl, j2, rfl⟩
      replace hn : n < (sd.map pA).length := hn
      rw [hlm2] at hn
      obtain ⟨⟨tt, z⟩, e1⟩ : ∃ x, sd[n]? = some x := ⟨_, List.getElem?_eq_getElem hn⟩
      have hv : Sr.val (.lst (al ++ j).length (sd.map pA)) n = .t [.i tt, .i z] := by
        show (sd.map pA).getD n .any = _
        rw [List.getD_eq_getElem?_getD, List.getElem?_map, e1]; rfl
      rw [hv]
      refine ⟨⟨_, _, rfl⟩, fun u3 hs3 => ?_⟩
      have hd3 := hs3.d
      have hcl3 := hs3.cl.trans (hs.cl.trans hcl)
      show Ex _ _ _ _ ([("size", .i z), ("time", .i tt), ("octets", .i (ssum (sd.take n))), ("first", .i i), ("burst", .i burst), ("rate", .i rate), ("sent", .r sl)] : AM) _ _
      have m2 := get_left (l' := j2) (get_left (l' := [.lst (sd.map pA)]) m1)
      walk
      rw [Int.toNat_natCast, ← List.map_drop, hsd]
      refine ⟨fun q bs al' => Hid (bs = (overs burst (sd.take q)).map AV.i ∧ al' = al ++ j ++ [AO.lst (List.map pA sd)] ++ j2 ++ [AO.lst [AV.i 0]] ++ [AO.lst (List.map pA sd)]), by show (sd.map pA).length ≤ 1000; omega, ⟨rfl, rfl⟩, fun q bs al' h => ⟨by rw [h.out.2]; exact get_snoc, by rw [h.out.1, List.length_map]; exact Nat.le_trans overs_len (by rw [List.length_take]; exact Nat.min_le_left ..)⟩, ?_, ?_⟩
      · rintro q bs al' hq ⟨rfl, rfl⟩
        replace hq : q < (sd.map pA).length := hq
        rw [hlm2] at hq
        obtain ⟨⟨t2, z2⟩, e2⟩ : ∃ x, sd[q]? = some x := ⟨_, List.getElem?_eq_getElem hq⟩
        have hv2 : Sr.val (.lst (List.length (al ++ j ++ [AO.lst (List.map pA sd)] ++ j2 ++ [AO.lst [AV.i 0]])) (sd.map pA)) q = .t [.i t2, .i z2] := by
          show (sd.map pA).getD q .any = _
          rw [List.getD_eq_getElem?_getD, List.getElem?_map, e2]; rfl
        rw [hv2]
        refine ⟨⟨_, _, rfl⟩, fun u4 hs4 => ?_⟩
        have hd4 := hs4.d
        show TsK _ _ _ _ ([("one", .i z2), ("when", .i t2), ("octets", .i (ssum (sd.take n) + z)), ("size", .i z), ("time", .i tt), ("octets", .i (ssum (sd.take n))), ("first", .i i), ("burst", .i burst), ("rate", .i rate), ("sent", .r sl)] : AM) _ _
        walk
        · rename_i hb
          exact ⟨by rw [overs_yes e2 hb, List.map_append]; rfl, rfl⟩
        · rename_i hb
          exact ⟨by rw [overs_no e2 hb], rfl⟩
      · rintro bs al' ⟨rfl, rfl⟩
        rw [show Sr.n (.lst (List.length (al ++ j ++ [AO.lst (List.map pA sd)] ++ j2 ++ [AO.lst [AV.i 0]])) (sd.map pA)) = sd.length from hlm2, List.take_length]
        walk
        have ej : ∃ j3, al ++ j ++ [AO.lst (List.map pA sd)] ++ j2 ++ [AO.lst [AV.i 0]] ++ [AO.lst (List.map pA sd)] ++ [AO.lst ((overs burst sd).map AV.i)] = al ++ j ++ [AO.lst (List.map pA sd)] ++ j3 := ⟨_, by rw [List.append_assoc, List.append_assoc, List.append_assoc]⟩
        have m3 : (al ++ j ++ [AO.lst (List.map pA sd)] ++ j2 ++ [AO.lst [AV.i 0]] ++ [AO.lst (List.map pA sd)] ++ [AO.lst ((overs burst sd).map AV.i)])[sl]? = _ := get_left (get_left (get_left m2))
        refine AddB.gen (get_left (get_left get_snoc)) get_snoc (by rw [List.length_map]; exact Nat.le_trans (Nat.add_le_add_left overs_len 1) (by omega)) fun al' L hx hm => ?_
        have m4 : al'[sl]? = some (.lst (sy.map pA)) := by obtain ⟨x, rfl⟩ := hx; exact get_left m3
        replace ej : ∃ j3, al' = al ++ j ++ [AO.lst (List.map pA sd)] ++ j3 := by obtain ⟨x, rfl⟩ := hx; obtain ⟨j3, e⟩ := ej; exact ⟨_, by rw [e, List.append_assoc]⟩
        clear hx m3 m2
        walk
        refine max_w (ns := 0 :: overs burst sd) hm (Nat.succ_pos _) fun M _ hM => ?_
        generalize hs0 : ssum (sd.take n) = s0
        have k1 : IntMulOk 100 (s0 + z) := .of_left (intBits_le_64 (by decide) (by decide))
        have k2 : IntMulOk 100 (burst + M) := .of_left (intBits_le_64 (by decide) (by decide))
        have k3 : IntMulOk rate (tt - t0) := mulr r0 r1
        refine ex_ifD (P := 100 * (burst + M) + rate * (tt - t0) < 100 * (s0 + z)) (tr_gt (ev_mul ?_ ?_ k1) (ev_add (ev_mul ?_ ?_ k2) (ev_mul ?_ ?_ k3)) rfl) (fun h => ?_) fun _ => ?_
        · walk
        · walk
        · walk
        · walk
        · walk
        · refine ev_sub ?_ (ev_item (a := .t [.i t0, .i z0]) (n := 0) (by intro _ _ _; with_unfolding_all rfl) ?_ ?_ (.tup rfl (by decide) (by decide)))
          · walk
          · refine ev_item (a := .r sl) (n := i) (by intro _ _ _; with_unfolding_all rfl) ?_ ?_ (.lst m4 hx (Int.natCast_nonneg i) (by omega))
            · walk
            · walk
          · walk
        · exfalso
          rw [← hs0] at h
          have hcat : sd = sd.take n ++ (tt, z) :: sd.drop (n + 1) := by
            have := List.drop_eq_getElem_cons (l := sd) hn
            rw [List.getElem?_eq_getElem hn] at e1
            rw [Option.some.inj e1] at this
            rw [← this, List.take_append_drop]
          exact hno (sd.take n) (sd.drop (n + 1)) M tt z hcat hM h
        · walk
          obtain ⟨j3, rfl⟩ := ej
          refine ⟨([("octets", .i (s0 + z)), ("first", .i i), ("burst", .i burst), ("rate", .i rate), ("sent", .r sl)] : AM), ⟨rfl, rfl, rfl, rfl, rfl, trivial⟩, ?_, _, rfl⟩
          rw [List.take_add_one, e1, ← hs0]
          show _ = ([("octets", .i (ssum (sd.take n ++ [(tt, z)]))), _, _, _, _] : AM)
          rw [ssum_snoc]
    · rintro ms' al' ⟨rfl, j2, rfl⟩
      walk
      exact ⟨([("burst", .i burst), ("rate", .i rate), ("sent", .r sl)] : AM), ⟨rfl, rfl, rfl, trivial⟩, rfl, _, by rw [List.append_assoc, List.append_assoc]⟩
  · rintro ms' al' ⟨rfl, j, rfl⟩
    walk
    exact hK _
end
end
section
local macro_rules | `(tactic| walk_at "no such key") => `(tactic| fail)
theorem clr_Y29 : True := by
  w_top off
  trivial
variable {w : World} {A A₀ : Around} {base h₀ : Heap} {outer : List Env} {env : Env} {L : Addr} {m : Str → Option Value} {s : Shared} {Q E : Value → Shared → Prop} {mean : ExcName → Option Value} {mg mb : Str → Option Value}
section
variable {w : World} {u : Un} {al bl cl : AL} {K : AV → AL → Prop}
set_option maxHeartbeats 2000000
/-- a thing of a queue: (size, (turn, size)) -/
noncomputable def itA (x : Int × Int) : AV := .t [.i x.1, .t [.i x.2, .i x.1]]
/-- a row's content between two deeds -/
structure RowOk (x : RowC) : Prop where
  ex : ∃ zs : List (Int × Int), x.us = zs.map itA ∧ x.oc = (zs.map (·.1)).sum ∧ (∀ y ∈ zs, 1 ≤ y.1 ∧ y.1 ≤ 64) ∧ zs.length ≤ 9
theorem sum_le64 : ∀ {zs : List (Int × Int)}, (∀ y ∈ zs, 1 ≤ y.1 ∧ y.1 ≤ 64) → (zs.map (·.1)).sum ≤ 64 * zs.length
  | [], _ => Int.le_refl _
  | y :: r, h => by
    have h1 := (h y (.head _)).2
    have h2 := sum_le64 fun x hx => h x (.tail _ hx)
    rw [List.map_cons, List.sum_cons, List.length_cons]
    omega
section
variable {x : RowC} {size turn z d : Int} {t : AV} {us : List AV}
theorem RowOk.ht (h : RowOk x) : (∀ y ∈ x.us, ∃ z t, y = AV.t [.i z, t]) ∧ x.us.length ≤ 9 := by
  obtain ⟨zs, e, _, _, hl⟩ := h.ex
  rw [e]
  refine ⟨fun y hy => ?_, by rw [List.length_map]; exact hl⟩
  obtain ⟨a, _, rfl⟩ := List.mem_map.mp hy
  exact ⟨_, _, rfl⟩
theorem RowOk.room (h : RowOk x) (h9 : x.us.length < 9) (hz : size ≤ 64) : x.oc + size ≤ 999 := by
  obtain ⟨zs, e, eo, hz2, _⟩ := h.ex
  have := sum_le64 hz2
  rw [e, List.length_map] at h9
  omega
theorem RowOk.nil : RowOk ⟨[], 0, d⟩ := ⟨[], rfl, rfl, fun _ h => (nomatch h), by decide⟩
theorem RowOk.dp (h : RowOk x) : RowOk ⟨x.us, x.oc, d⟩ := ⟨h.ex⟩
theorem RowOk.add (h : RowOk x) (h9 : x.us.length < 9) (h1 : 1 ≤ size) (h2 : size ≤ 64) : RowOk ⟨x.us ++ [.t [.i size, .t [.i turn, .i size]]], x.oc + size, d⟩ := by
  obtain ⟨zs, e, eo, hz2, hl⟩ := h.ex
  rw [e, List.length_map] at h9
  refine ⟨zs ++ [(size, turn)], ?_, ?_, ?_, by rw [List.length_append]; exact h9⟩
  · show x.us ++ _ = _
    rw [e, List.map_append]; rfl
  · show x.oc + size = _
    rw [eo, List.map_append, List.sum_append]; simp
  · intro y hy
    rcases List.mem_append.mp hy with hy | hy
    · exact hz2 y hy
    · rw [List.mem_singleton.mp hy]; exact ⟨h1, h2⟩
theorem RowOk.pop (h : RowOk x) (e : x.us = .t [.i z, t] :: us) : (∃ n : Int, t = .t [.i n, .i z]) ∧ 1 ≤ z ∧ z ≤ 64 ∧ RowOk ⟨us, x.oc - z, d⟩ := by
  obtain ⟨zs, e2, eo, hz2, hl⟩ := h.ex
  cases zs with
  | nil => rw [e] at e2; cases e2
  | cons y r =>
    rw [e] at e2
    obtain ⟨y1, y2⟩ := y
    cases e2
    have hy := hz2 (_, _) (.head _)
    refine ⟨⟨_, rfl⟩, hy.1, hy.2, r, rfl, ?_, fun y hy => hz2 y (.tail _ hy), by rw [List.length_cons] at hl; omega⟩
    show x.oc - _ = _
    rw [eo, List.map_cons, List.sum_cons]
    omega
end
/-- the law's world ahead of its own lists -/
structure Wd (al : AL) (p b : Nat) (c : Nat → RowC) (po : Option (List Int)) (so : Option ShS) (dp q dq : Nat) (sv pv : AV) (sk hl : Nat) (hv : Int → Option Int) (ov : AV) (oo : Option OwS) : Prop where
  pw : PW al p b 3 c po so dp q dq sv pv
  src : al[sk]? = some .src
  hel : al[hl]? = some (.hel hv)
  ow : OwV al ov oo
section
variable {p b : Nat} {c c' : Nat → RowC} {po : Option (List Int)} {so so' : Option ShS} {dp q dq : Nat} {sv pv : AV} {sk hl : Nat} {hv : Int → Option Int} {ov : AV} {oo : Option OwS}
theorem Wd.of (W : Wd al p b c po so dp q dq sv pv sk hl hv ov oo) (h : PW bl p b 3 c' po so' dp q dq sv pv) (k : Kp al bl) : Wd bl p b c' po so' dp q dq sv pv sk hl hv ov oo := by
  refine ⟨h, k.at' _ _ W.src (show 3 ≤ 6 by decide) (show 6 ≤ 6 by decide), k.at' _ _ W.hel (show 3 ≤ 3 by decide) (show 3 ≤ 6 by decide), ?_⟩
  cases W.ow with
  | no => exact .no
  | on m => exact .on (k.at' _ _ m (show 3 ≤ 5 by decide) (show 5 ≤ 6 by decide))
/-- own is stored into -/
theorem Wd.own {od : Nat} {rate most gr tm gr' tm' : Int} (W : Wd al p b c po so dp q dq sv pv sk hl hv (.r od) (some ⟨od, rate, most, gr, tm⟩)) :
    Wd (al.set od (.sd (ownA rate most gr' tm'))) p b c po so dp q dq sv pv sk hl hv (.r od) (some ⟨od, rate, most, gr', tm'⟩) := by
  cases W.ow with
  | on m => exact ⟨W.pw.sd m, get_set_ne W.src m rfl, get_set_ne W.hel m rfl, .on (get_set m)⟩
end
/-- the law's own lists behind slot B: rows at B + 3, sent at B + 4, the rows' lists wherever -/
structure LwS (B : Nat) (cl : AL) (s : Nat → Nat) (c : Nat → RowC) (sent : List AV) : Prop where
  rw : cl[3]? = some (.lst [.r (B + s 0), .r (B + s 1), .r (B + s 2)])
  ro : ∀ k, k < 3 → cl[s k]? = some (.lst (c k).us) ∧ s k ≠ 3 ∧ s k ≠ 4
  inj : ∀ i k, i < 3 → k < 3 → i ≠ k → s i ≠ s k
  st : cl[4]? = some (.lst sent)
structure Lw (B : Nat) (cl : AL) (c : Nat → RowC) (sent : List AV) : Prop where
  ex : ∃ s, LwS B cl s c sent
section
variable {B : Nat} {c : Nat → RowC} {sent : List AV} {s : Nat → Nat}
theorem LwS.at (L : LwS B cl s c sent) (e : bl.length = B) : RwA (bl ++ cl) (B + 3) (B + s 0) (B + s 1) (B + s 2) (c 0).us (c 1).us (c 2).us := by
  subst e
  exact ⟨get_app L.rw, get_app (L.ro 0 (by decide)).1, get_app (L.ro 1 (by decide)).1, get_app (L.ro 2 (by decide)).1⟩
theorem q3_add {k : Nat} (h : k < 3) : q3 (B + s 0) (B + s 1) (B + s 2) k = B + s k := by
  match k, h with
  | 0, _ => rfl
  | 1, _ => rfl
  | 2, _ => rfl
theorem LwS.app (L : LwS B cl s c sent) {j : AL} : LwS B (cl ++ j) s c sent := ⟨get_left L.rw, fun k h => ⟨get_left (L.ro k h).1, (L.ro k h).2⟩, L.inj, get_left L.st⟩
theorem LwS.upd (L : LwS B cl s c sent) {k : Nat} {x : RowC} (h : k < 3) : LwS B (cl.set (s k) (.lst x.us)) s (upd c k x) sent := by
  obtain ⟨h1, h2, h3⟩ := L.ro k h
  refine ⟨get_off L.rw h2, fun i hi => ⟨?_, (L.ro i hi).2⟩, L.inj, get_off L.st h3⟩
  by_cases e : i = k
  · subst e; rw [upd_at]; exact get_set h1
  · rw [upd_off e]; exact get_off (L.ro i hi).1 (L.inj _ _ h hi (Ne.symm e))
theorem LwS.add (L : LwS B cl s c sent) {s2 : List AV} : LwS B (cl.set 4 (.lst s2)) s c s2 :=
  ⟨get_off L.rw (by decide), fun i hi => ⟨get_off (L.ro i hi).1 (Ne.symm (L.ro i hi).2.2), (L.ro i hi).2⟩, L.inj, get_set L.st⟩
/-- rows[k] is made a new list -/
theorem LwS.put (L : LwS B cl s c sent) {k n : Nat} {x : RowC} (h : k < 3) (hn : cl[n]? = some (.lst x.us)) (hm : ∀ i, i < 3 → s i ≠ n) (h3 : n ≠ 3) (h4 : n ≠ 4) :
    LwS B (cl.set 3 (.lst (([.r (B + s 0), .r (B + s 1), .r (B + s 2)] : List AV).set k (.r (B + n))))) (fun i => if i = k then n else s i) (Mine.upd c k x) sent := by
  refine ⟨?_, fun i hi => ?_, fun i j hi hj e => ?_, get_off L.st (by decide)⟩
  · rw [get_set L.rw]
    match k, h with
    | 0, _ => rfl
    | 1, _ => rfl
    | 2, _ => rfl
  · show _[if i = k then n else s i]? = _ ∧ _
    by_cases e : i = k
    · subst e; rw [if_pos rfl, upd_at]; exact ⟨get_off hn (Ne.symm h3), h3, h4⟩
    · rw [if_neg e, upd_off e]; exact ⟨get_off (L.ro i hi).1 (Ne.symm (L.ro i hi).2.1), (L.ro i hi).2⟩
  · show (if i = k then n else s i) ≠ (if j = k then n else s j)
    by_cases e1 : i = k
    · by_cases e2 : j = k
      · exact absurd (e1.trans e2.symm) e
      · rw [if_pos e1, if_neg e2]; exact (hm j hj).symm
    · by_cases e2 : j = k
      · rw [if_neg e1, if_pos e2]; exact hm i hi
      · rw [if_neg e1, if_neg e2]; exact L.inj i j hi hj e
theorem set_app' {l : AL} {i k : Nat} {y : AO} (e : k = al.length + i) : (al ++ l).set k y = al ++ l.set i y := by
  rw [e]; exact set_app
theorem LwS.put2 (L : LwS B cl s c sent) (e : bl.length = B) {a1 a2 : AO} {k : Nat} {x : RowC} (h : k < 3) :
    ∃ cl' s', (bl ++ cl ++ [a1] ++ [a2] ++ [AO.lst x.us]).set (B + 3) (.lst (([.r (B + s 0), .r (B + s 1), .r (B + s 2)] : List AV).set (k : Int).toNat (.r (bl ++ cl ++ [a1] ++ [a2]).length))) = bl ++ cl' ∧ LwS B cl' s' (Mine.upd c k x) sent := by
  have hl : (bl ++ cl ++ [a1] ++ [a2]).length = B + (cl ++ [a1] ++ [a2]).length := by simp only [List.length_append, e, Nat.add_assoc]
  have hc : ∀ {i : Nat} {y : AO}, cl[i]? = some y → i < cl.length := fun h => (List.getElem?_eq_some_iff.mp h).1
  have hc3 := hc L.rw
  have hc4 := hc L.st
  have h2 : (cl ++ [a1] ++ [a2]).length = cl.length + 2 := by simp only [List.length_append, List.length_cons, List.length_nil, Nat.add_assoc]
  refine ⟨_, _, ?_, LwS.put (n := (cl ++ [a1] ++ [a2]).length) (L.app.app.app (j := [AO.lst x.us])) h get_snoc (fun i hi => ?_) (by omega) (by omega)⟩
  · rw [hl, Int.toNat_natCast, List.append_assoc, List.append_assoc, List.append_assoc, set_app' (by rw [e]), ← List.append_assoc, ← List.append_assoc]
  · have := hc (L.ro i hi).1
    omega
end
end
end
section
theorem clr_Y30 : True := by
  w_top off
  trivial
variable {w : World} {A A₀ : Around} {base h₀ : Heap} {outer : List Env} {env : Env} {L : Addr} {m : Str → Option Value} {s : Shared} {Q E : Value → Shared → Prop} {mean : ExcName → Option Value} {mg mb : Str → Option Value}
section
variable {w : World} {u : Un} {al bl cl : AL} {K : AV → AL → Prop}
set_option maxHeartbeats 2000000
/-- the port's pause holds what the law's held tells -/
structure PoOk (po : Option (List Int)) (hv : Int → Option Int) : Prop where
  out : ∀ (now : Int) (k : Nat), 0 ≤ now → k < 3 → okP 3 now po k = decide ((hv k).getD 0 ≤ now)
theorem PoOk.none : PoOk none fun _ => Option.none := ⟨fun now k h _ => (decide_eq_true (show (0 : Int) ≤ now from h)).symm⟩
theorem PoOk.some {hv : Int → Option Int} : PoOk (some ((List.range 8).map fun k => (hv (k : Nat)).getD 0)) hv := ⟨fun now k h hk => by
  have e : ((List.range 8).map fun k => (hv (k : Nat)).getD 0).getD ((k : Int)).toNat 0 = (hv k).getD 0 := by
    rw [Int.toNat_natCast, List.getD_eq_getElem?_getD, List.getElem?_map, List.getElem?_range (by omega)]; rfl
  show (decide (0 ≤ (k : Int) ∧ (k : Int) < (3 : Nat)) && decide (((List.range 8).map fun k => (hv (k : Nat)).getD 0).getD ((k : Int)).toNat 0 ≤ now)) = _
  rw [e, decide_eq_true (show 0 ≤ (k : Int) ∧ (k : Int) < (3 : Nat) from ⟨by omega, by omega⟩)]
  rfl⟩
section
variable {p b : Nat} {c c' : Nat → RowC} {po : Option (List Int)} {so so' : Option ShS} {dp q dq : Nat} {sv pv : AV} {sk hl : Nat} {hv : Int → Option Int} {ov : AV} {oo : Option OwS}
theorem q3_at {α : Type} {f : Nat → α} {k : Nat} (h : k < 3) : q3 (f 0) (f 1) (f 2) k = f k := by
  match k, h with
  | 0, _ => rfl
  | 1, _ => rfl
  | 2, _ => rfl
theorem go_eq {now : Int} (h : PoOk po hv) (h0 : 0 ≤ now) : lookB (goF (c 0).us (c 1).us (c 2).us hv now) 3 = lookB (portF c 3 now po) 3 := lookB_congr fun k hk => by
  unfold goF portF
  rw [h.out now k h0 hk, q3_at (f := fun k => (c k).us) hk]
/-- _law_gone in the law's world -/
theorem gone_W {B : Nat} {now : Int} {sent : List AV} {s : Nat → Nat} (hd : u.d < 860) (W : Wd bl p b c po so dp q dq sv pv sk hl hv ov oo) (hB : bl.length = B) (L : LwS B cl s c sent) (hp : PoOk po hv) (hn : 0 ≤ now) (hr : ∀ k, k < 3 → RowOk (c k))
    (h0 : lookB (portF c 3 now po) 3 = none → ∀ j, K (.v .none) (bl ++ (cl ++ j)))
    (h1 : ∀ k z t us, k < 3 → lookB (portF c 3 now po) 3 = some k → (c k).us = .t [.i z, t] :: us → oo = none → ∀ cl', LwS B cl' s (upd c k ⟨us, (c k).oc - z, (c k).dp⟩) sent → K (.t [.i z, t]) (bl ++ cl'))
    (h2 : ∀ k z t us o, k < 3 → lookB (portF c 3 now po) 3 = some k → (c k).us = .t [.i z, t] :: us → oo = some o → o.gr < mn (100 * z) o.most → ∀ j, K (.v .none) (bl ++ (cl ++ j)))
    (h3 : ∀ k z t us o, k < 3 → lookB (portF c 3 now po) 3 = some k → (c k).us = .t [.i z, t] :: us → oo = some o → ¬ o.gr < mn (100 * z) o.most → ∀ bl' cl', bl'.length = B → Wd bl' p b c po so dp q dq sv pv sk hl hv ov (some ⟨o.od, o.rate, o.most, o.gr - 100 * z, o.tm⟩) → LwS B cl' s (upd c k ⟨us, (c k).oc - z, (c k).dp⟩) sent → K (.t [.i z, t]) (bl' ++ cl')) :
    CallW w u (bl ++ cl) (.ref 458) [.r (B + 3), .r hl, ov, .i now] K := by
  have mo : OwV (bl ++ cl) ov oo := by
    cases W.ow with
    | no => exact .no
    | on m => exact .on (get_left m)
  refine gone_y hd (L.at hB) (get_left W.hel) mo (fun k hk => ?_) (fun e j' => ?_) (fun k z t us e hu ho j' => ?_) (fun k z t us o e hu ho hg j' => ?_) fun k z t us o e hu ho hg j' => ?_
  · rw [q3_at (f := fun k => (c k).us) hk]; exact (hr k hk).ht
  · rw [go_eq hp hn] at e
    rw [List.append_assoc]
    exact h0 e _
  · have hk := (lookB_some e).1
    rw [go_eq hp hn] at e
    rw [q3_at (f := fun k => (c k).us) hk] at hu
    rw [q3_add hk, ← hB, set_app, List.append_assoc]
    exact h1 k z t us hk e hu ho _ (L.upd (x := ⟨us, (c k).oc - z, (c k).dp⟩) hk).app
  · have hk := (lookB_some e).1
    rw [go_eq hp hn] at e
    rw [q3_at (f := fun k => (c k).us) hk] at hu
    rw [List.append_assoc]
    exact h2 k z t us o hk e hu ho hg _
  · have hk := (lookB_some e).1
    rw [go_eq hp hn] at e
    rw [q3_at (f := fun k => (c k).us) hk] at hu
    rw [q3_add hk, ← hB, set_app]
    subst ho
    have ow := W.ow
    cases ow with
    | on m =>
      show K _ ((bl ++ _).set _ _ ++ j')
      rw [set_left m, List.append_assoc]
      exact h3 k z t us _ hk e hu rfl hg _ _ ((List.length_set ..).trans hB) W.own (L.upd (x := ⟨us, (c k).oc - z, (c k).dp⟩) hk).app
end
end
end
section
local macro_rules | `(tactic| walk_at "no such key") => `(tactic| fail)
theorem clr_Y31 : True := by
  w_top off
  trivial
variable {w : World} {A A₀ : Around} {base h₀ : Heap} {outer : List Env} {env : Env} {L : Addr} {m : Str → Option Value} {s : Shared} {Q E : Value → Shared → Prop} {mean : ExcName → Option Value} {mg mb : Str → Option Value}
noncomputable def stB : Stmt → List Stmt
  | .FunctionDef _ _ b _ _ _ _ _ _ _ => b
  | .For _ _ b _ _ => b
  | _ => []
noncomputable def stS : Stmt → Scope
  | .FunctionDef _ _ _ _ _ _ s _ _ _ => s
  | _ => { kind := .module, names := [], isGenerator := false, isCoroutine := false }
noncomputable def lawDef : Stmt := (PySem.Challenge.pw_pc0376_01.main.body.getLast?).getD (.Pass ⟨0, 0, 0, 0⟩)
noncomputable def lawB : { b : List Stmt // b = stB lawDef } := by
  refine ⟨?b, ?h⟩
  case h => conv => rhs; whnf
noncomputable def lawS : { b : Scope // b = stS lawDef } := by
  refine ⟨?b, ?h⟩
  case h => conv => rhs; whnf
noncomputable def turnB : { b : List Stmt // b = stB (lawB.1.getD 9 (.Pass ⟨0, 0, 0, 0⟩)) } := by
  refine ⟨?b, ?h⟩
  case h => conv => rhs; whnf
noncomputable def stT : Stmt → List Stmt
  | .If _ b _ _ => b
  | _ => []
noncomputable def stE : Stmt → List Stmt
  | .If _ _ b _ => b
  | _ => []
noncomputable def turnB2 : { b : List Stmt // b = turnB.1.drop 2 } := by
  refine ⟨?b, ?h⟩
  case h => conv => rhs; whnf
noncomputable def putB : { b : List Stmt // b = stT (turnB2.1.getD 1 (.Pass ⟨0, 0, 0, 0⟩)) } := by
  refine ⟨?b, ?h⟩
  case h => conv => rhs; whnf
noncomputable def elifB : { b : List Stmt // b = stE (turnB2.1.getD 1 (.Pass ⟨0, 0, 0, 0⟩)) } := by
  refine ⟨?b, ?h⟩
  case h => conv => rhs; whnf
noncomputable def whenB : { b : List Stmt // b = stT (elifB.1.getD 0 (.Pass ⟨0, 0, 0, 0⟩)) } := by
  refine ⟨?b, ?h⟩
  case h => conv => rhs; whnf
noncomputable def nextB : { b : List Stmt // b = stE (elifB.1.getD 0 (.Pass ⟨0, 0, 0, 0⟩)) } := by
  refine ⟨?b, ?h⟩
  case h => conv => rhs; whnf
/-- the shaper's side of the state: the port's and the law's -/
inductive PinO (rate burst : Int) : Bool → Option ShS → Option OwS → List (Int × Int) → Int → Prop
  | off {sy : List (Int × Int)} {now : Int} (h : 0 ≤ now) : PinO rate burst false none none sy now
  | on {dbk od : Nat} {gr tm og now : Int} {sy : List (Int × Int)} (h : Pin rate burst gr tm og sy now) : PinO rate burst true (some ⟨dbk, rate, burst, gr, tm⟩) (some ⟨od, rate, 100 * burst, og, now⟩) sy now
theorem PinO.n0 {rate burst now : Int} {S : Bool} {so : Option ShS} {oo : Option OwS} {sy : List (Int × Int)} (h : PinO rate burst S so oo sy now) : 0 ≤ now := by
  cases h with
  | off h => exact h
  | on h => exact h.n0
/-- what stands between two turns -/
structure Jx (rate burst : Int) (S : Bool) (p b : Nat) (po : Option (List Int)) (dp q dq : Nat) (sv pv : AV) (sk hl : Nat) (hv : Int → Option Int) (ov : AV) (B : Nat) (i : Nat) (bl cl : AL) (c : Nat → RowC) (so : Option ShS) (oo : Option OwS) (sy : List (Int × Int)) (now : Int) : Prop where
  W : Wd bl p b c po so dp q dq sv pv sk hl hv ov oo
  hB : bl.length = B
  L : Lw B cl c (sy.map pA)
  ok : PoOk po hv
  row : ∀ k, k < 3 → RowOk (c k)
  pin : PinO rate burst S so oo sy now
  len : sy.length ≤ i
  r0 : 0 ≤ rate
  r1 : rate ≤ 1000
  b0 : 1 ≤ burst
  b1 : burst ≤ 1000
noncomputable def lawM (rate burst : Int) (S : Bool) (p sk hl B : Nat) (ov : AV) (now : Int) : AM := [("sent", .r (B + 4)), ("now", .i now), ("rows", .r (B + 3)), ("own", ov), ("port", .r p), ("has_shaper", .v (.bool S)), ("held", .r hl), ("burst", .i burst), ("rate", .i rate), ("source", .r sk)]
end
section
theorem clr_Y32 : True := by
  w_top off
  trivial
variable {w : World} {A A₀ : Around} {base h₀ : Heap} {outer : List Env} {env : Env} {L : Addr} {m : Str → Option Value} {s : Shared} {Q E : Value → Shared → Prop} {mean : ExcName → Option Value} {mg mb : Str → Option Value}
section
variable {w : World} {u : Un} {al bl cl : AL} {K : AV → AL → Prop}
set_option maxHeartbeats 4000000
variable {p b : Nat} {c c' : Nat → RowC} {po : Option (List Int)} {so so' : Option ShS} {dp q dq : Nat} {sv pv : AV} {sk hl : Nat} {hv : Int → Option Int} {ov : AV} {oo : Option OwS}
theorem putw_y {fa : Addr} {kV : Value} {rate burst now : Int} {S : Bool} {B i : Nat} {sy : List (Int × Int)} {KF : AF → AM → AL → Prop} {way : Int} (hd : u.d ≤ 500) (I : Jx rate burst S p b po dp q dq sv pv sk hl hv ov B i bl cl c so oo sy now) (hi : i < 24)
    (hK : ∀ bl' cl' c' so' oo' sy' now' m', Jx rate burst S p b po dp q dq sv pv sk hl hv ov B (i + 1) bl' cl' c' so' oo' sy' now' → AM.le (lawM rate burst S p sk hl B ov now') m' → KF .next m' (bl' ++ cl')) :
    Ex putB.1 w u ⟨Str.ofString "law", lawS.1, fa, kV, none, [], []⟩ (("way", .i way) :: ("turn", .i i) :: lawM rate burst S p sk hl B ov now) (bl ++ cl) KF := by
  obtain ⟨W, hB, ⟨s, L⟩, ok, row, pin, len, r0, r1, b0, b1⟩ := I
  have gsrc := get_left (l' := cl) W.src
  unfold lawM
  delta putB lawS
  dsimp only
  refine ex_swap (names := ["k", "size"]) rfl ?_ rfl rfl ?_
  · intro x hx
    rcases List.mem_cons.mp hx with rfl | hx
    · exact ⟨rfl, rfl⟩
    · rw [List.mem_singleton.mp hx]; exact ⟨rfl, rfl⟩
  · walk
    refine draw_y (by omega) gsrc (by decide) fun k k0 k1 => ?_
    walk
    refine pick_y (ns := [1, 4, 10, 12, 64]) (by omega) (get_left gsrc) get_snoc (by decide) (by decide) fun size hs => ?_
    have z1 : 1 ≤ size ∧ size ≤ 64 := by simp only [List.mem_cons, List.not_mem_nil, or_false] at hs; omega
    replace L := L.app (j := [AO.lst [AV.i 1, AV.i 4, AV.i 10, AV.i 12, AV.i 64]])
    rw [List.append_assoc]
    generalize cl ++ [AO.lst [AV.i 1, AV.i 4, AV.i 10, AV.i 12, AV.i 64]] = cl at L
    have gp := get_left (l' := cl) W.pw.p.m1
    have gp2 := get_left (l' := cl) W.pw.p.m2
    walk
    obtain ⟨k, rfl⟩ : ∃ k' : Nat, k = k' := ⟨k.toNat, by omega⟩
    replace k1 : k < 3 := by omega
    have hl9 := (row k k1).ht.2
    refine put_W (by omega) W.pw k1 (by decide) (by omega) (fun hf bl' W' kp => ?_) fun hf _ bl' W' kp => ?_
    · have R := L.at (kp.len.trans hB)
      obtain ⟨g1, g2⟩ := R.at k1
      have g0 := R.m
      rw [q3_at (f := fun k => (c k).us) k1] at g2
      walk
      refine ItB.in (n := k) (by walk) (.lst g0 g1 (Int.natCast_nonneg k) (by omega)) ?_
      have h9 : ¬ (((c k).us.length : Nat) : Int) < 9 := by
        intro h
        have := (row k k1).room (by omega) z1.2
        omega
      walk
      rw [decide_eq_false h9]
      refine NeB.in rfl ?_
      walk
      refine ItB.in (n := k) (by walk) (.lst g0 g1 (Int.natCast_nonneg k) (by omega)) ?_
      walk
      refine LSt.in (n := k) (by walk) (by walk) (get_left (get_left (get_left g0))) (Int.natCast_nonneg k) (by show (k : Int) < (3 : Nat); omega) (by decide : 3 ≤ 1000) ?_
      rw [List.take_append, show 9 - (c k).us.length = 0 by omega, List.take_of_length_le hl9, List.take_zero, List.append_nil]
      obtain ⟨cl', s', e, L'⟩ := L.put2 (x := ⟨(c k).us, (c k).oc, (c k).dp + 1⟩) (kp.len.trans hB) k1
      rw [e]
      refine ex_nil (hK _ _ _ _ _ _ _ _ ⟨W.of W' kp, kp.len.trans hB, ⟨s', L'⟩, ok, fun i hi => ?_, pin, by omega, r0, r1, b0, b1⟩ ⟨rfl, rfl, rfl, rfl, rfl, rfl, rfl, rfl, rfl, rfl, trivial⟩)
      by_cases e : i = k
      · rw [e, upd_at]; exact (row k k1).dp
      · rw [upd_off e]; exact row i hi
    · have R := L.at (kp.len.trans hB)
      obtain ⟨g1, g2⟩ := R.at k1
      have g0 := R.m
      rw [q3_at (f := fun k => (c k).us) k1] at g2
      walk
      refine ItB.in (n := k) (by walk) (.lst g0 g1 (Int.natCast_nonneg k) (by omega)) ?_
      have h9 : (((c k).us.length : Nat) : Int) < 9 := by omega
      walk
      rw [decide_eq_true h9]
      refine NeB.in rfl ?_
      walk
      refine ItB.in (n := k) (by walk) (.lst g0 g1 (Int.natCast_nonneg k) (by omega)) ?_
      walk
      refine LSt.in (n := k) (by walk) (by walk) (get_left (get_left (get_left g0))) (Int.natCast_nonneg k) (by show (k : Int) < (3 : Nat); omega) (by decide : 3 ≤ 1000) ?_
      rw [List.take_of_length_le (by rw [List.length_append]; exact hf)]
      obtain ⟨cl', s', e, L'⟩ := L.put2 (x := ⟨(c k).us ++ [.t [.i size, .t [.i i, .i size]]], (c k).oc + size, (c k).dp⟩) (kp.len.trans hB) k1
      rw [e]
      refine ex_nil (hK _ _ _ _ _ _ _ _ ⟨W.of W' kp, kp.len.trans hB, ⟨s', L'⟩, ok, fun i' hi' => ?_, pin, by omega, r0, r1, b0, b1⟩ ⟨rfl, rfl, rfl, rfl, rfl, rfl, rfl, rfl, rfl, rfl, trivial⟩)
      by_cases e : i' = k
      · rw [e, upd_at]; exact (row k k1).add hf z1.1 z1.2
      · rw [upd_off e]; exact row i' hi'
end
end
section
local macro_rules | `(tactic| walk_at "no such key") => `(tactic| fail)
theorem clr_Y33 : True := by
  w_top off
  trivial
variable {w : World} {A A₀ : Around} {base h₀ : Heap} {outer : List Env} {env : Env} {L : Addr} {m : Str → Option Value} {s : Shared} {Q E : Value → Shared → Prop} {mean : ExcName → Option Value} {mg mb : Str → Option Value}
section
variable {w : World} {u : Un} {al bl cl : AL} {K : AV → AL → Prop}
set_option maxHeartbeats 4000000
variable {p b : Nat} {c c' : Nat → RowC} {po : Option (List Int)} {so so' : Option ShS} {dp q dq : Nat} {sv pv : AV} {sk hl : Nat} {hv : Int → Option Int} {ov : AV} {oo : Option OwS}
theorem whenw_y {fa : Addr} {kV : Value} {rate burst now : Int} {S : Bool} {B i : Nat} {sy : List (Int × Int)} {KF : AF → AM → AL → Prop} {way : Int} (hd : u.d ≤ 500) (I : Jx rate burst S p b po dp q dq sv pv sk hl hv ov B i bl cl c so oo sy now) (hi : i < 24)
    (hK : ∀ bl' cl' c' so' oo' sy' now' m', Jx rate burst S p b po dp q dq sv pv sk hl hv ov B (i + 1) bl' cl' c' so' oo' sy' now' → AM.le (lawM rate burst S p sk hl B ov now') m' → KF .next m' (bl' ++ cl')) :
    Ex whenB.1 w u ⟨Str.ofString "law", lawS.1, fa, kV, none, [], []⟩ (("way", .i way) :: ("turn", .i i) :: lawM rate burst S p sk hl B ov now) (bl ++ cl) KF := by
  obtain ⟨W, hB, ⟨s, L⟩, ok, row, pin, len, r0, r1, b0, b1⟩ := I
  have gp := get_left (l' := cl) W.pw.p.m1
  have gp2 := get_left (l' := cl) W.pw.p.m2
  unfold lawM
  delta whenB lawS
  dsimp only
  have n0 := pin.n0
  have hr : ∀ k, k < 3 → (∀ y ∈ (c k).us, ∃ z t, y = AV.t [.i z, t]) ∧ (c k).us.length ≤ 9 := fun k hk => (row k hk).ht
  walk
  refine head_y (by omega) (L.at hB) (get_left W.hel) fun j => ?_
  rw [go_eq ok n0, List.append_assoc]
  replace L := L.app (j := j)
  replace gp := get_left (l' := j) gp
  replace gp2 := get_left (l' := j) gp2
  rw [List.append_assoc] at gp gp2
  generalize cl ++ j = cl at L gp gp2
  cases e : lookB (portF c 3 now po) 3 with
  | none =>
    dsimp only [optN]
    walk
    refine when_W (by omega) W.pw (by decide) hr (fun _ j => ?_) (fun k z t us h => ?_) (fun k z t us s h => ?_)
    · walk
      exact hK _ _ _ _ _ _ _ _ ⟨W, hB, ⟨s, L.app⟩, ok, row, pin, by omega, r0, r1, b0, b1⟩ ⟨rfl, rfl, rfl, rfl, rfl, rfl, rfl, rfl, rfl, rfl, trivial⟩
    · rw [e] at h; cases h
    · rw [e] at h; cases h
  | some k =>
    have hk := (lookB_some e).1
    have hf := (lookB_some e).2
    obtain ⟨g1, g2⟩ := (L.at hB).at hk
    have g0 := (L.at hB).m
    rw [q3_at (f := fun k => (c k).us) hk] at g2
    have t1 := (hr k hk).1
    cases hq : (c k).us with
    | nil => unfold portF at hf; rw [hq] at hf; cases hf
    | cons y us =>
      obtain ⟨z, t, rfl⟩ := t1 y (by rw [hq]; exact .head _)
      rw [hq] at g2
      dsimp only [optN]
      have W' := W
      cases pin with
      | off =>
        cases W.ow with
        | no =>
        walk
        refine when_W (by omega) W.pw (by decide) hr (fun h j => ?_) (fun k z t us h hu _ j => ?_) (fun k z t us s h hu hs => ?_)
        · rw [e] at h; cases h
        · walk
          exact hK _ _ _ _ _ _ _ _ ⟨W', hB, ⟨s, L.app⟩, ok, row, .off n0, by omega, r0, r1, b0, b1⟩ ⟨rfl, rfl, rfl, rfl, rfl, rfl, rfl, rfl, rfl, rfl, trivial⟩
        · cases hs
      | on pin =>
        cases W.ow with
        | on mo =>
        have go := get_left (l' := cl) mo
        walk
        refine ItB.in (n := k) (by walk) (.lst g0 g1 (Int.natCast_nonneg k) (by omega)) ?_
        walk
        refine due_y (by omega) go r0 r1 ?_
        walk
        refine when_W (by omega) W.pw (by decide) hr (fun h j => ?_) (fun k z t us h hu hs j => ?_) (fun k z2 t us s2 h hu hs bl' j W2 kp => ?_)
        · rw [e] at h; cases h
        · cases hs
        · cases hs
          rw [e] at h
          cases h
          rw [hq] at hu
          cases hu
          dsimp only
          rw [when_due pin]
          have hok : ∀ x, eqOk (optA x) = true := fun x => by cases x <;> rfl
          walk
          refine NeB.in (hok _) ?_
          walk
          exact hK _ _ _ _ _ _ _ _ ⟨W'.of W2 kp, kp.len.trans hB, ⟨s, L.app⟩, ok, row, .on pin.when, by omega, r0, r1, b0, b1⟩ ⟨rfl, rfl, rfl, rfl, rfl, rfl, rfl, rfl, rfl, rfl, trivial⟩
end
end
section
theorem clr_Y34 : True := by
  w_top off
  trivial
variable {w : World} {A A₀ : Around} {base h₀ : Heap} {outer : List Env} {env : Env} {L : Addr} {m : Str → Option Value} {s : Shared} {Q E : Value → Shared → Prop} {mean : ExcName → Option Value} {mg mb : Str → Option Value}
section
variable {w : World} {u : Un} {al bl cl : AL} {K : AV → AL → Prop}
set_option maxHeartbeats 4000000
variable {p b : Nat} {c c' : Nat → RowC} {po : Option (List Int)} {so so' : Option ShS} {dp q dq : Nat} {sv pv : AV} {sk hl : Nat} {hv : Int → Option Int} {ov : AV} {oo : Option OwS}
theorem nextw_y {fa : Addr} {kV : Value} {rate burst now : Int} {S : Bool} {B i : Nat} {sy : List (Int × Int)} {KF : AF → AM → AL → Prop} {way : Int} (hd : u.d ≤ 500) (I : Jx rate burst S p b po dp q dq sv pv sk hl hv ov B i bl cl c so oo sy now) (hi : i < 24)
    (hK : ∀ bl' cl' c' so' oo' sy' now' m', Jx rate burst S p b po dp q dq sv pv sk hl hv ov B (i + 1) bl' cl' c' so' oo' sy' now' → AM.le (lawM rate burst S p sk hl B ov now') m' → KF .next m' (bl' ++ cl')) :
    Ex nextB.1 w u ⟨Str.ofString "law", lawS.1, fa, kV, none, [], []⟩ (("way", .i way) :: ("turn", .i i) :: lawM rate burst S p sk hl B ov now) (bl ++ cl) KF := by
  obtain ⟨W, hB, ⟨s, L⟩, ok, row, pin, len, r0, r1, b0, b1⟩ := I
  have gp := get_left (l' := cl) W.pw.p.m1
  have gp2 := get_left (l' := cl) W.pw.p.m2
  have n0 := pin.n0
  unfold lawM
  delta nextB lawS
  dsimp only
  have hr : ∀ k, k < 3 → (∀ y ∈ (c k).us, ∃ z t, y = AV.t [.i z, t]) ∧ (c k).us.length ≤ 9 := fun k hk => (row k hk).ht
  have W' := W
  walk
  refine gone_W (by omega) W hB L ok n0 row (fun e j => ?_) (fun k z t us hk e hu ho cl2 L2 => ?_) (fun k z t us o hk e hu ho hg j => ?_) fun k z t us o hk e hu ho hg bl2 cl2 hB2 W2 L2 => ?_
  · replace gp := get_left (l' := j) gp
    replace gp2 := get_left (l' := j) gp2
    rw [List.append_assoc] at gp gp2
    walk
    refine next_W (by omega) W.pw (by decide) hr (fun _ j2 => ?_) (fun k z t us h => ?_) (fun k z t us s h => ?_) fun k z t us s h => ?_
    · walk
      exact hK _ _ _ _ _ _ _ _ ⟨W, hB, ⟨s, L.app.app⟩, ok, row, pin, by omega, r0, r1, b0, b1⟩ ⟨rfl, rfl, rfl, rfl, rfl, rfl, rfl, rfl, rfl, rfl, trivial⟩
    · rw [e] at h; cases h
    · rw [e] at h; cases h
    · rw [e] at h; cases h
  · subst ho
    obtain ⟨⟨n, rfl⟩, z1, z2, hw⟩ := (row k hk).pop (d := (c k).dp) hu
    cases pin with
    | off =>
    replace gp := get_left (l' := cl2) W.pw.p.m1
    replace gp2 := get_left (l' := cl2) W.pw.p.m2
    walk
    refine next_W (by omega) W.pw (by decide) hr (fun h j => ?_) (fun k' z' t us' h hu' _ bl2 j W3 kp => ?_) (fun k z t us s h hu hs => ?_) fun k z t us s h hu hs => ?_
    · rw [e] at h; cases h
    · rw [e] at h
      cases h
      rw [hu] at hu'
      cases hu'
      have gs : (bl2 ++ (cl2 ++ j))[B + 4]? = some (.lst (sy.map pA)) := get_app' (by rw [kp.len, hB]) L2.app.st
      walk
      rw [set_app' (by rw [kp.len, hB])]
      have LL := (L2.app (j := j)).add (s2 := sy.map pA ++ [.t [.i now, .i z]])
      rw [show sy.map pA ++ [AV.t [.i now, .i z]] = (sy ++ [(now, z)]).map pA by rw [List.map_append]; rfl] at LL ⊢
      refine hK _ _ _ _ _ _ _ _ ⟨W.of W3 kp, kp.len.trans hB, ⟨s, LL⟩, ok, fun i' hi' => ?_, .off n0, by rw [List.length_append]; exact Nat.succ_le_succ len, r0, r1, b0, b1⟩ ⟨rfl, rfl, rfl, rfl, rfl, rfl, rfl, rfl, rfl, rfl, trivial⟩
      by_cases e' : i' = k
      · rw [e', upd_at]; exact hw
      · rw [upd_off e']; exact row i' hi'
    · cases hs
    · cases hs
  · subst ho
    cases pin with
    | on pin =>
    replace gp := get_left (l' := j) gp
    replace gp2 := get_left (l' := j) gp2
    rw [List.append_assoc] at gp gp2
    dsimp only at hg
    walk
    refine next_W (by omega) W.pw (by decide) hr (fun h j => ?_) (fun k z t us h hu hs => ?_) (fun k' z' t' us' s2 h hu' hs hl bl2 j2 W3 kp => ?_) fun k' z' t' us' s2 h hu' hs hl => ?_
    · rw [e] at h; cases h
    · cases hs
    · cases hs
      walk
      exact hK _ _ _ _ _ _ _ _ ⟨W'.of W3 kp, kp.len.trans hB, ⟨s, L.app.app⟩, ok, row, .on pin.when, by omega, r0, r1, b0, b1⟩ ⟨rfl, rfl, rfl, rfl, rfl, rfl, rfl, rfl, rfl, rfl, trivial⟩
    · exfalso
      cases hs
      rw [e] at h
      cases h
      rw [hu] at hu'
      cases hu'
      dsimp only at hl
      rw [pin.f2, mn_100] at hl
      omega
  · subst ho
    obtain ⟨⟨n, rfl⟩, z1, z2, hw⟩ := (row k hk).pop (d := (c k).dp) hu
    cases pin with
    | on pin =>
    replace gp := get_left (l' := cl2) W2.pw.p.m1
    replace gp2 := get_left (l' := cl2) W2.pw.p.m2
    dsimp only at hg
    walk
    refine next_W (by omega) W2.pw (by decide) hr (fun h j => ?_) (fun k z t us h hu hs => ?_) (fun k' z' t' us' s2 h hu' hs hl => ?_) fun k' z' t' us' s2 h hu' hs hl bl2 j W3 kp => ?_
    · rw [e] at h; cases h
    · cases hs
    · exfalso
      cases hs
      rw [e] at h
      cases h
      rw [hu] at hu'
      cases hu'
      dsimp only at hl
      rw [pin.f2, mn_100] at hl
      omega
    · cases hs
      rw [e] at h
      cases h
      rw [hu] at hu'
      cases hu'
      have gs : (bl2 ++ (cl2 ++ j))[B + 4]? = some (.lst (sy.map pA)) := get_app' (by rw [kp.len, hB2]) L2.app.st
      walk
      rw [set_app' (by rw [kp.len, hB2])]
      have LL := (L2.app (j := j)).add (s2 := sy.map pA ++ [.t [.i now, .i z]])
      rw [show sy.map pA ++ [AV.t [.i now, .i z]] = (sy ++ [(now, z)]).map pA by rw [List.map_append]; rfl] at LL ⊢
      refine hK _ _ _ _ _ _ _ _ ⟨W2.of W3 kp, kp.len.trans hB2, ⟨s, LL⟩, ok, fun i' hi' => ?_, .on (pin.next hg z1), by rw [List.length_append]; exact Nat.succ_le_succ len, r0, r1, b0, b1⟩ ⟨rfl, rfl, rfl, rfl, rfl, rfl, rfl, rfl, rfl, rfl, trivial⟩
      by_cases e' : i' = k
      · rw [e', upd_at]; exact hw
      · rw [upd_off e']; exact row i' hi'
end
end
section
local macro_rules | `(tactic| walk_at "no such key") => `(tactic| fail)
theorem clr_Y35 : True := by
  w_top off
  trivial
variable {w : World} {A A₀ : Around} {base h₀ : Heap} {outer : List Env} {env : Env} {L : Addr} {m : Str → Option Value} {s : Shared} {Q E : Value → Shared → Prop} {mean : ExcName → Option Value} {mg mb : Str → Option Value}
section
variable {w : World} {u : Un} {al bl cl : AL} {K : AV → AL → Prop}
set_option maxHeartbeats 4000000
variable {p b : Nat} {c c' : Nat → RowC} {po : Option (List Int)} {so so' : Option ShS} {dp q dq : Nat} {sv pv : AV} {sk hl : Nat} {hv : Int → Option Int} {ov : AV} {oo : Option OwS}
theorem act_y {fa : Addr} {kV : Value} {rate burst now : Int} {S : Bool} {B i : Nat} {sy : List (Int × Int)} {KF : AF → AM → AL → Prop} (hd : u.d ≤ 500) (I : Jx rate burst S p b po dp q dq sv pv sk hl hv ov B i bl cl c so oo sy now) (hi : i < 24)
    (hK : ∀ bl' cl' c' so' oo' sy' now' m', Jx rate burst S p b po dp q dq sv pv sk hl hv ov B (i + 1) bl' cl' c' so' oo' sy' now' → AM.le (lawM rate burst S p sk hl B ov now') m' → KF .next m' (bl' ++ cl')) :
    Ex turnB2.1 w u ⟨Str.ofString "law", lawS.1, fa, kV, none, [], []⟩ (("turn", .i i) :: lawM rate burst S p sk hl B ov now) (bl ++ cl) KF := by
  obtain ⟨W, hB, ⟨s, L⟩, ok, row, pin, len, r0, r1, b0, b1⟩ := I
  have gsrc := get_left (l' := cl) W.src
  unfold lawM
  delta turnB2 lawS
  dsimp only
  walk
  refine draw_y (by omega) gsrc (by decide) fun way w0 w1 => ?_
  refine ex_ifD (by walk) (fun _ => ?_) fun _ => ?_
  · exact Ex.forget (putw_y (way := way) hd ⟨W, hB, ⟨s, L⟩, ok, row, pin, len, r0, r1, b0, b1⟩ hi fun bl' cl' c' so' oo' sy' now' m' J l => aft_next (ex_nil (hK _ _ _ _ _ _ _ _ J l))) ⟨rfl, rfl, rfl, rfl, rfl, rfl, rfl, rfl, rfl, rfl, rfl, rfl, trivial⟩
  · refine ex_ifD (by walk) (fun _ => ?_) fun _ => ?_
    · exact Ex.forget (whenw_y (way := way) hd ⟨W, hB, ⟨s, L⟩, ok, row, pin, len, r0, r1, b0, b1⟩ hi fun bl' cl' c' so' oo' sy' now' m' J l => aft_next (ex_nil (aft_next (ex_nil (hK _ _ _ _ _ _ _ _ J l))))) ⟨rfl, rfl, rfl, rfl, rfl, rfl, rfl, rfl, rfl, rfl, rfl, rfl, trivial⟩
    · exact Ex.forget (nextw_y (way := way) hd ⟨W, hB, ⟨s, L⟩, ok, row, pin, len, r0, r1, b0, b1⟩ hi fun bl' cl' c' so' oo' sy' now' m' J l => aft_next (ex_nil (aft_next (ex_nil (hK _ _ _ _ _ _ _ _ J l))))) ⟨rfl, rfl, rfl, rfl, rfl, rfl, rfl, rfl, rfl, rfl, rfl, rfl, trivial⟩
theorem turn_y {fa : Addr} {kV : Value} {rate burst now : Int} {S : Bool} {B i : Nat} {sy : List (Int × Int)} {KF : AF → AM → AL → Prop} (hd : u.d ≤ 500) (I : Jx rate burst S p b po dp q dq sv pv sk hl hv ov B i bl cl c so oo sy now) (hi : i < 24)
    (hK : ∀ bl' cl' c' so' oo' sy' now' m', Jx rate burst S p b po dp q dq sv pv sk hl hv ov B (i + 1) bl' cl' c' so' oo' sy' now' → AM.le (lawM rate burst S p sk hl B ov now') m' → KF .next m' (bl' ++ cl')) :
    Ex turnB.1 w u ⟨Str.ofString "law", lawS.1, fa, kV, none, [], []⟩ (("turn", .i i) :: lawM rate burst S p sk hl B ov now) (bl ++ cl) KF := by
  obtain ⟨W, hB, ⟨s, L⟩, ok, row, pin, len, r0, r1, b0, b1⟩ := I
  have gsrc := get_left (l' := cl) W.src
  unfold lawM
  delta turnB lawS
  dsimp only
  walk
  refine pick_y (ns := [0, 1, 5, 20, 2]) (by omega) (get_left gsrc) get_snoc (by decide) (by decide) fun v hv => ?_
  have v0 : 0 ≤ v := by simp only [List.mem_cons, List.not_mem_nil, or_false] at hv; omega
  replace L := L.app (j := [AO.lst [AV.i 0, AV.i 1, AV.i 5, AV.i 20, AV.i 2]])
  rw [List.append_assoc]
  generalize cl ++ [AO.lst [AV.i 0, AV.i 1, AV.i 5, AV.i 20, AV.i 2]] = cl at L
  refine BiB.inA ?_
  cases pin with
  | off h0 =>
    refine ex_if (β := false) (by walk) (fun h => nomatch h) fun _ => ?_
    refine ex_nil (aft_next ?_)
    refine Ex.forget (act_y (now := now + v) (i := i) hd ⟨W, hB, ⟨s, L⟩, ok, row, .off (by omega), len, r0, r1, b0, b1⟩ hi hK) ⟨rfl, rfl, rfl, rfl, rfl, rfl, rfl, rfl, rfl, rfl, rfl, trivial⟩
  | on pin =>
    cases W.ow with
    | on mo =>
      have go := get_left (l' := cl) mo
      refine ex_if (β := true) (by walk) (fun _ => ?_) (fun h => nomatch h)
      walk
      refine filled_y (by omega) go r0 r1 ?_
      rw [set_left mo]
      refine ex_nil (aft_next ?_)
      refine Ex.forget (act_y (now := now + v) (i := i) hd ⟨W.own, (List.length_set ..).trans hB, ⟨s, L⟩, ok, row, .on (pin.step r0 (by omega)), len, r0, r1, b0, b1⟩ hi hK) ⟨rfl, rfl, rfl, rfl, rfl, rfl, rfl, rfl, rfl, rfl, rfl, trivial⟩
end
end
section
theorem clr_Y36 : True := by
  w_top off
  trivial
variable {w : World} {A A₀ : Around} {base h₀ : Heap} {outer : List Env} {env : Env} {L : Addr} {m : Str → Option Value} {s : Shared} {Q E : Value → Shared → Prop} {mean : ExcName → Option Value} {mg mb : Str → Option Value}
section
variable {w : World} {u : Un} {al bl cl : AL} {K : AV → AL → Prop}
set_option maxHeartbeats 4000000
variable {p b : Nat} {c c' : Nat → RowC} {po : Option (List Int)} {so so' : Option ShS} {dp q dq : Nat} {sv pv : AV} {sk hl : Nat} {hv : Int → Option Int} {ov : AV} {oo : Option OwS}
noncomputable def loopB : { b : List Stmt // b = lawB.1.drop 9 } := by
  refine ⟨?b, ?h⟩
  case h => conv => rhs; whnf
noncomputable def ifS : { b : Stmt // b = lawB.1.getD 10 (.Pass ⟨0, 0, 0, 0⟩) } := by
  refine ⟨?b, ?h⟩
  case h => conv => rhs; whnf
noncomputable def retB : { b : List Stmt // b = lawB.1.drop 11 } := by
  refine ⟨?b, ?h⟩
  case h => conv => rhs; whnf
theorem ret_y {fa : Addr} {kV : Value} {rate burst now : Int} {S : Bool} {B i : Nat} {sy : List (Int × Int)} {KF : AF → AM → AL → Prop} (hd : u.d ≤ 400) (I : Jx rate burst S p b po dp q dq sv pv sk hl hv ov B i bl cl c so oo sy now)
    (hK : ∀ ms al, KF (.ret (.v (.bool true))) ms al) :
    Ex retB.1 w u ⟨Str.ofString "law", lawS.1, fa, kV, none, [], []⟩ (lawM rate burst S p sk hl B ov now) (bl ++ cl) KF := by
  obtain ⟨W, hB, ⟨s, L⟩, ok, row, pin, len, r0, r1, b0, b1⟩ := I
  have gp := get_left (l' := cl) W.pw.p.m1
  have gp2 := get_left (l' := cl) W.pw.p.m2
  have gq := get_left (l' := cl) W.pw.q.m1
  have gq2 := get_left (l' := cl) W.pw.q.m2
  unfold lawM
  delta retB lawS
  dsimp only
  walk
  refine waiting_y (by omega) W.pw.q.app (by rw [List.length_map, List.length_range]; decide) (fun x hx => ?_) fun j => ?_
  · obtain ⟨k, hk, rfl⟩ := List.mem_map.mp hx
    exact (row k (List.mem_range.mp hk)).ht.2
  · rw [List.append_assoc]
    have R := (L.app (j := j)).at hB
    generalize bl ++ (cl ++ j) = al at R
    walk
    have g0 := R.m
    refine LiB.in g0 ?_
    refine ⟨fun i bs al' => Hid (bs = ((List.range i).map fun k => AV.i (c k).us.length) ∧ al' = al), (show 3 ≤ 1000 by decide), ⟨rfl, rfl⟩, fun i bs al' h => ⟨by rw [h.out.2]; exact g0, by rw [h.out.1, List.length_map, List.length_range]; exact Nat.le_refl _⟩, ?_, ?_⟩
    · rintro i bs al' hi ⟨rfl, rfl⟩
      replace hi : i < 3 := hi
      refine ⟨trivial, fun u2 hs => ?_⟩
      have hd2 := hs.d
      obtain ⟨g1, g2⟩ := R.at hi
      rw [q3_at (f := fun k => (c k).us) hi] at g2
      have hl9 := (row i hi).ht.2
      have hv : Sr.val (.lst (B + 3) [.r (B + s 0), .r (B + s 1), .r (B + s 2)]) i = .r (q3 (B + s 0) (B + s 1) (B + s 2) i) := by
        show List.getD _ i AV.any = _
        rw [List.getD_eq_getElem?_getD]
        rw [Int.toNat_natCast] at g1
        rw [g1]; rfl
      rw [hv]
      show TsK _ _ _ _ ([("row", .r (q3 (B + s 0) (B + s 1) (B + s 2) i)), ("sent", .r (B + 4)), ("now", .i now), ("rows", .r (B + 3)), ("own", ov), ("port", .r p), ("has_shaper", .v (.bool S)), ("held", .r hl), ("burst", .i burst), ("rate", .i rate), ("source", .r sk)] : AM) _ _
      walk
      refine ek_pure (ev_still rfl rfl (fun h => nomatch (show _ ∈ ([] : List Str) from h)) (fun _ => ⟨rfl, rfl⟩) rfl) ?_
      walk
      exact ⟨by rw [List.range_succ, List.map_append]; rfl, rfl⟩
    · rintro bs al' ⟨rfl, rfl⟩
      rw [show Sr.n (.lst (B + 3) [.r (B + s 0), .r (B + s 1), .r (B + s 2)]) = 3 from rfl, show ((List.range 3).map fun k => AV.i (c k).us.length) = ((List.range 3).map fun k => ((c k).us.length : Int)).map .i by rw [List.map_map]; rfl]
      have e2 : (((List.range 3).map (rowR b c)).map fun x => (x.us.length : Int)).sum = ((List.range 3).map fun k => ((c k).us.length : Int)).sum := by rw [List.map_map]; rfl
      rw [e2]
      walk
      · exact fixed_y (by omega) fun _ => hK _ _
      · rename_i h
        exact absurd rfl h
theorem end_y {fa : Addr} {kV : Value} {rate burst now : Int} {S : Bool} {B i : Nat} {sy : List (Int × Int)} {KF : AF → AM → AL → Prop} (hd : u.d ≤ 400) (I : Jx rate burst S p b po dp q dq sv pv sk hl hv ov B i bl cl c so oo sy now) (hi : i ≤ 24)
    (hK : ∀ ms al, KF (.ret (.v (.bool true))) ms al) :
    Ex (ifS.1 :: retB.1) w u ⟨Str.ofString "law", lawS.1, fa, kV, none, [], []⟩ (lawM rate burst S p sk hl B ov now) (bl ++ cl) KF := by
  obtain ⟨W, hB, ⟨s, L⟩, ok, row, pin, len, r0, r1, b0, b1⟩ := I
  have W' := W
  have R : ∀ cl' so' oo' S' ov', Jx rate burst S' p b po dp q dq sv pv sk hl hv ov' B i bl cl' c so' oo' sy now → Ex retB.1 w u ⟨Str.ofString "law", lawS.1, fa, kV, none, [], []⟩ (lawM rate burst S' p sk hl B ov' now) (bl ++ cl') KF := fun _ _ _ _ _ J => ret_y hd J hK
  generalize retB.1 = rest at R ⊢
  unfold lawM at R ⊢
  delta ifS lawS
  dsimp only
  cases pin with
  | off n0 =>
    cases W.ow with
    | no =>
    walk
    exact R _ _ _ _ _ ⟨W', hB, ⟨s, L⟩, ok, row, .off n0, len, r0, r1, b0, b1⟩
  | on pin =>
    cases W.ow with
    | on mo =>
    have gs : (bl ++ cl)[B + 4]? = some (.lst (sy.map pA)) := get_app' (by rw [hB]) L.st
    walk
    refine bounded_y (by omega) gs r0 r1 b0 b1 (by omega) pin.e fun j => ?_
    walk
    rw [List.append_assoc]
    exact R _ _ _ _ _ ⟨W', hB, ⟨s, L.app⟩, ok, row, .on pin, len, r0, r1, b0, b1⟩
theorem loop_y {fa : Addr} {kV : Value} {rate burst : Int} {S : Bool} {B : Nat} {KF : AF → AM → AL → Prop} (hd : u.d ≤ 400) (I : Jx rate burst S p b po dp q dq sv pv sk hl hv ov B 0 bl cl c so oo [] 0)
    (hK : ∀ ms al, KF (.ret (.v (.bool true))) ms al) :
    Ex loopB.1 w u ⟨Str.ofString "law", lawS.1, fa, kV, none, [], []⟩ (lawM rate burst S p sk hl B ov 0) (bl ++ cl) KF := by
  have gsrc := get_left (l' := cl) I.W.src
  delta loopB lawS
  dsimp only
  refine ex_forN rfl rfl rfl (fun _ => rfl) ?_
  unfold lawM
  walk
  refine draw_y (by omega) gsrc (by decide) fun r w0 w1 => ?_
  refine BiB.inA ?_
  refine RgB.in (by omega) (by omega) ?_
  refine ⟨fun i ms' al' => Hid (∃ bl cl c so oo sy now, ms' = lawM rate burst S p sk hl B ov now ∧ al' = bl ++ cl ∧ Jx rate burst S p b po dp q dq sv pv sk hl hv ov B i bl cl c so oo sy now), ⟨_, _, _, _, _, _, _, rfl, rfl, I⟩, fun _ _ _ _ => trivial, ?_, ?_⟩
  · rintro i ms' al' hi ⟨bl, cl, c, so, oo, sy, now, rfl, rfl, I⟩
    replace hi : i < (10 + r).toNat := hi
    refine ⟨trivial, fun u2 hs => ?_⟩
    have hd2 := hs.d
    show Ex _ _ _ _ (("turn", .i (0 + (i : Int) * 1)) :: lawM rate burst S p sk hl B ov now) _ _
    rw [show (0 : Int) + (i : Int) * 1 = i by omega]
    exact turn_y (by omega) I (by omega) fun bl' cl' c' so' oo' sy' now' m' J l => ⟨_, l, ⟨_, _, _, _, _, _, _, rfl, rfl, J⟩⟩
  · rintro ms' al' ⟨bl, cl, c, so, oo, sy, now, rfl, rfl, I⟩
    exact end_y hd I (by show (10 + r).toNat ≤ 24; omega) hK
end
end
section
local macro_rules | `(tactic| walk_at "no such key") => `(tactic| fail)
theorem clr_Y37 : True := by
  w_top off
  trivial
variable {w : World} {A A₀ : Around} {base h₀ : Heap} {outer : List Env} {env : Env} {L : Addr} {m : Str → Option Value} {s : Shared} {Q E : Value → Shared → Prop} {mean : ExcName → Option Value} {mg mb : Str → Option Value}
section
variable {w : World} {u : Un} {al bl cl : AL} {K : AV → AL → Prop}
set_option maxHeartbeats 4000000
variable {p b : Nat} {c c' : Nat → RowC} {po : Option (List Int)} {so so' : Option ShS} {dp q dq : Nat} {sv pv : AV} {sk hl : Nat} {hv : Int → Option Int} {ov : AV} {oo : Option OwS}
noncomputable def portS : { b : Stmt // b = lawB.1.getD 6 (.Pass ⟨0, 0, 0, 0⟩) } := by
  refine ⟨?b, ?h⟩
  case h => conv => rhs; whnf
noncomputable def ownS : { b : Stmt // b = lawB.1.getD 7 (.Pass ⟨0, 0, 0, 0⟩) } := by
  refine ⟨?b, ?h⟩
  case h => conv => rhs; whnf
noncomputable def rowsS : { b : Stmt // b = lawB.1.getD 8 (.Pass ⟨0, 0, 0, 0⟩) } := by
  refine ⟨?b, ?h⟩
  case h => conv => rhs; whnf
inductive ShO (rate burst : Int) : Bool → Option ShS → Prop
  | off : ShO rate burst false none
  | on {dbk : Nat} : ShO rate burst true (some ⟨dbk, rate, burst, burst * 100, 0⟩)
theorem PaW.up (h : PaW al b pv po) {b' : Nat} (hb : b ≤ b') {j : AL} : PaW (al ++ j) b' pv po := by
  cases h with
  | no => exact .no
  | on m hl h8 => exact .on m.app (Nat.lt_of_lt_of_le hl hb) h8
theorem rows_y {fa : Addr} {kV : Value} {rate burst : Int} {S : Bool} {KF : AF → AM → AL → Prop} (hd : u.d ≤ 400) (W : Wd al p b (fun _ => ⟨[], 0, 0⟩) po so dp q dq sv pv sk hl hv ov oo) (ok : PoOk po hv) (pin : PinO rate burst S so oo [] 0)
    (r0 : 0 ≤ rate) (r1 : rate ≤ 1000) (b0 : 1 ≤ burst) (b1 : burst ≤ 1000) (hK : ∀ ms al, KF (.ret (.v (.bool true))) ms al) :
    Ex (rowsS.1 :: loopB.1) w u ⟨Str.ofString "law", lawS.1, fa, kV, none, [], []⟩ [("own", ov), ("port", .r p), ("has_shaper", .v (.bool S)), ("held", .r hl), ("burst", .i burst), ("rate", .i rate), ("source", .r sk)] al KF := by
  have R : ∀ cl, LwS al.length cl (fun k => k) (fun _ => ⟨[], 0, 0⟩) [] → Ex loopB.1 w u ⟨Str.ofString "law", lawS.1, fa, kV, none, [], []⟩ (lawM rate burst S p sk hl al.length ov 0) (al ++ cl) KF := fun cl L =>
    loop_y hd ⟨W, rfl, ⟨_, L⟩, ok, fun _ _ => .nil, pin, Nat.le_refl _, r0, r1, b0, b1⟩ hK
  generalize loopB.1 = rest at R ⊢
  delta rowsS lawS
  dsimp only
  refine ex_swap (names := ["rows", "now", "sent"]) rfl ?_ rfl rfl ?_
  · intro x hx
    rcases List.mem_cons.mp hx with rfl | hx
    · exact ⟨rfl, rfl⟩
    · rcases List.mem_cons.mp hx with rfl | hx
      · exact ⟨rfl, rfl⟩
      · rw [List.mem_singleton.mp hx]; exact ⟨rfl, rfl⟩
  · walk
    have e1 : ∀ {x : AO}, (al ++ [x]).length = al.length + 1 := by intro x; rw [List.length_append]; rfl
    have e2 : ∀ {x y : AO}, (al ++ [x] ++ [y]).length = al.length + 2 := by intro x y; rw [List.length_append, e1]; rfl
    have e3 : ∀ {x y z : AO}, (al ++ [x] ++ [y] ++ [z]).length = al.length + 3 := by intro x y z; rw [List.length_append, e2]; rfl
    have e4 : ∀ {x y z t : AO}, (al ++ [x] ++ [y] ++ [z] ++ [t]).length = al.length + 4 := by intro x y z t; rw [List.length_append, e3]; rfl
    rw [e4, e3, e2, e1, List.append_assoc, List.append_assoc, List.append_assoc, List.append_assoc]
    refine Ex.forget (R _ ⟨rfl, fun k hk => ?_, fun i k hi hk e => e, rfl⟩) ⟨rfl, rfl, rfl, rfl, rfl, rfl, rfl, rfl, rfl, rfl, trivial⟩
    match k, hk with
    | 0, _ => exact ⟨rfl, by decide, by decide⟩
    | 1, _ => exact ⟨rfl, by decide, by decide⟩
    | 2, _ => exact ⟨rfl, by decide, by decide⟩
theorem portW_y (hd : u.d < 860) (hq : QuA al q dq (b + 3 * 3) ((List.range 3).map (rowR b c))) (sh : ShV al sv so) (pa : PaW al b pv po)
    (hK : ∀ bl p dp, PW bl p b 3 c po so dp q dq sv pv → (∀ {i : Nat} {x : AO}, al[i]? = some x → bl[i]? = some x) → K (.r p) bl) : CallW w u al (.ref 229) [.r q, sv, pv] K :=
  port_y hd (hK _ _ _ ⟨⟨get_app rfl, get_app (i := 0) rfl⟩, hq.app, pa.up (Nat.le_refl _), sh.app'⟩ fun h => get_left h)
theorem port6_y {fa : Addr} {kV : Value} {rate burst : Int} {S : Bool} {KF : AF → AM → AL → Prop} (hd : u.d ≤ 400) (ms : al[sk]? = some .src) (mh : al[hl]? = some (.hel hv)) (sh : ShV al sv so) (pa : PaW al al.length pv po) (ok : PoOk po hv) (so1 : ShO rate burst S so)
    (r0 : 0 ≤ rate) (r1 : rate ≤ 1000) (b0 : 1 ≤ burst) (b1 : burst ≤ 1000) (hK : ∀ ms al, KF (.ret (.v (.bool true))) ms al) :
    Ex (portS.1 :: ownS.1 :: rowsS.1 :: loopB.1) w u ⟨Str.ofString "law", lawS.1, fa, kV, none, [], []⟩ [("pause", pv), ("shaper", sv), ("has_shaper", .v (.bool S)), ("held", .r hl), ("burst", .i burst), ("rate", .i rate), ("source", .r sk)] al KF := by
  have R : ∀ bl p b dp q dq ov oo, Wd bl p b (fun _ => ⟨[], 0, 0⟩) po so dp q dq sv pv sk hl hv ov oo → PinO rate burst S so oo [] 0 →
    Ex (rowsS.1 :: loopB.1) w u ⟨Str.ofString "law", lawS.1, fa, kV, none, [], []⟩ [("own", ov), ("port", .r p), ("has_shaper", .v (.bool S)), ("held", .r hl), ("burst", .i burst), ("rate", .i rate), ("source", .r sk)] bl KF := fun _ _ _ _ _ _ _ _ W h =>
    rows_y hd W ok h r0 r1 b0 b1 hK
  generalize rowsS.1 :: loopB.1 = rest at R ⊢
  delta portS ownS lawS
  dsimp only
  walk
  refine queues_y (n := 3) (by omega) (by decide) get_snoc fun j hl hq => ?_
  walk
  refine portW_y (c := fun _ => ⟨[], 0, 0⟩) (by omega) hq sh.app'.app'.app' (((pa.up (by simp only [List.length_append]; omega)).up (Nat.le_refl _)).up (Nat.le_refl _)) fun bl p dp W T => ?_
  replace ms := T (get_left (get_left (get_left ms)))
  replace mh := T (get_left (get_left (get_left mh)))
  clear T hq hl
  have k1 : IntMulOk 100 burst := .of_left (intBits_le_64 (by decide) (by decide))
  cases so1 with
  | off =>
    walk
    exact Ex.forget (R _ _ _ _ _ _ _ _ ⟨W, ms, mh, .no⟩ (.off (Int.le_refl _))) ⟨rfl, rfl, rfl, rfl, rfl, rfl, rfl, trivial⟩
  | on =>
    walk
    refine DiS.in (es := ownA rate (100 * burst) (100 * burst) 0) rfl (by decide : [Str.ofString "rate", Str.ofString "most", Str.ofString "grains", Str.ofString "time"].Nodup) ?_
    exact Ex.forget (R _ _ _ _ _ _ _ _ ⟨W.app, get_left ms, get_left mh, .on get_snoc⟩ (.on (.start b0))) ⟨rfl, rfl, rfl, rfl, rfl, rfl, rfl, trivial⟩
end
end
section
theorem clr_Y38 : True := by
  w_top off
  trivial
variable {w : World} {A A₀ : Around} {base h₀ : Heap} {outer : List Env} {env : Env} {L : Addr} {m : Str → Option Value} {s : Shared} {Q E : Value → Shared → Prop} {mean : ExcName → Option Value} {mg mb : Str → Option Value}
section
variable {w : World} {u : Un} {al bl cl : AL} {K : AV → AL → Prop}
set_option maxHeartbeats 4000000
variable {p b : Nat} {c c' : Nat → RowC} {po : Option (List Int)} {so so' : Option ShS} {dp q dq : Nat} {sv pv : AV} {sk hl : Nat} {hv : Int → Option Int} {ov : AV} {oo : Option OwS}
noncomputable def srcS : { b : Stmt // b = lawB.1.getD 0 (.Pass ⟨0, 0, 0, 0⟩) } := by
  refine ⟨?b, ?h⟩
  case h => conv => rhs; whnf
noncomputable def rbS : { b : Stmt // b = lawB.1.getD 1 (.Pass ⟨0, 0, 0, 0⟩) } := by
  refine ⟨?b, ?h⟩
  case h => conv => rhs; whnf
noncomputable def heldS : { b : Stmt // b = lawB.1.getD 2 (.Pass ⟨0, 0, 0, 0⟩) } := by
  refine ⟨?b, ?h⟩
  case h => conv => rhs; whnf
noncomputable def hasS : { b : Stmt // b = lawB.1.getD 3 (.Pass ⟨0, 0, 0, 0⟩) } := by
  refine ⟨?b, ?h⟩
  case h => conv => rhs; whnf
noncomputable def heS : { b : Stmt // b = lawB.1.getD 4 (.Pass ⟨0, 0, 0, 0⟩) } := by
  refine ⟨?b, ?h⟩
  case h => conv => rhs; whnf
noncomputable def spS : { b : Stmt // b = lawB.1.getD 5 (.Pass ⟨0, 0, 0, 0⟩) } := by
  refine ⟨?b, ?h⟩
  case h => conv => rhs; whnf
noncomputable def CL (fa : Addr) (kV : Value) : Cd := ⟨Str.ofString "law", lawS.1, fa, kV, none, [], []⟩
theorem sp_y {fa : Addr} {kV : Value} {rate burst : Int} {S P : Bool} {KF : AF → AM → AL → Prop} (hd : u.d ≤ 400) (ms : al[sk]? = some .src) (mh : al[hl]? = some (.hel hv)) (hP : P = false → PoOk none hv)
    (r0 : 0 ≤ rate) (r1 : rate ≤ 1000) (b0 : 1 ≤ burst) (b1 : burst ≤ 1000) (hK : ∀ ms al, KF (.ret (.v (.bool true))) ms al) :
    Ex (spS.1 :: portS.1 :: ownS.1 :: rowsS.1 :: loopB.1) w u ⟨Str.ofString "law", lawS.1, fa, kV, none, [], []⟩ [("has_pause", .v (.bool P)), ("has_shaper", .v (.bool S)), ("held", .r hl), ("burst", .i burst), ("rate", .i rate), ("source", .r sk)] al KF := by
  have R : ∀ bl sv pv so po, bl[sk]? = some .src → bl[hl]? = some (.hel hv) → ShV bl sv so → PaW bl bl.length pv po → PoOk po hv → ShO rate burst S so →
    Ex (portS.1 :: ownS.1 :: rowsS.1 :: loopB.1) w u ⟨Str.ofString "law", lawS.1, fa, kV, none, [], []⟩ [("pause", pv), ("shaper", sv), ("has_shaper", .v (.bool S)), ("held", .r hl), ("burst", .i burst), ("rate", .i rate), ("source", .r sk)] bl KF := fun _ _ _ _ _ h1 h2 h3 h4 h5 h6 =>
    port6_y hd h1 h2 h3 h4 h5 h6 r0 r1 b0 b1 hK
  generalize portS.1 :: ownS.1 :: rowsS.1 :: loopB.1 = rest at R ⊢
  delta spS lawS
  dsimp only
  refine ex_swap (names := ["shaper", "pause"]) rfl ?_ rfl rfl ?_
  · intro x hx
    rcases List.mem_cons.mp hx with rfl | hx
    · exact ⟨rfl, rfl⟩
    · rw [List.mem_singleton.mp hx]; exact ⟨rfl, rfl⟩
  · cases S with
    | false =>
      cases P with
      | false =>
        walk
        exact Ex.forget (R _ _ _ _ _ ms mh .no .no (hP rfl) .off) ⟨rfl, rfl, rfl, rfl, rfl, rfl, rfl, trivial⟩
      | true =>
        walk
        refine lpause_y (by omega) mh fun j pa dpa ul hul m => ?_
        walk
        exact Ex.forget (R _ _ _ _ _ (get_left ms) (get_left mh) .no (.on m (List.getElem?_eq_some_iff.mp m.m3).1 (by rw [List.length_map, List.length_range])) .some .off) ⟨rfl, rfl, rfl, rfl, rfl, rfl, rfl, trivial⟩
    | true =>
      cases P with
      | false =>
        walk
        refine shaper_y (by omega) r0 r1 b0 fun j sh dbk hs => ?_
        walk
        exact Ex.forget (R _ _ _ _ _ (get_left ms) (get_left mh) hs .no (hP rfl) .on) ⟨rfl, rfl, rfl, rfl, rfl, rfl, rfl, trivial⟩
      | true =>
        walk
        refine shaper_y (by omega) r0 r1 b0 fun j sh dbk hs => ?_
        walk
        refine lpause_y (by omega) (get_left mh) fun j2 pa dpa ul hul m => ?_
        walk
        exact Ex.forget (R _ _ _ _ _ (get_left (get_left ms)) (get_left (get_left mh)) hs.app' (.on m (List.getElem?_eq_some_iff.mp m.m3).1 (by rw [List.length_map, List.length_range])) .some .on) ⟨rfl, rfl, rfl, rfl, rfl, rfl, rfl, trivial⟩
theorem he_y {fa : Addr} {kV : Value} {rate burst : Int} {S P : Bool} {KF : AF → AM → AL → Prop} (hd : u.d ≤ 400) (ms : al[sk]? = some .src) (mh : al[hl]? = some (.hel hv))
    (r0 : 0 ≤ rate) (r1 : rate ≤ 1000) (b0 : 1 ≤ burst) (b1 : burst ≤ 1000) (hK : ∀ ms al, KF (.ret (.v (.bool true))) ms al) :
    Ex (heS.1 :: spS.1 :: portS.1 :: ownS.1 :: rowsS.1 :: loopB.1) w u ⟨Str.ofString "law", lawS.1, fa, kV, none, [], []⟩ [("has_pause", .v (.bool P)), ("has_shaper", .v (.bool S)), ("held", .r hl), ("burst", .i burst), ("rate", .i rate), ("source", .r sk)] al KF := by
  have R : ∀ bl hl hv, bl[sk]? = some .src → bl[hl]? = some (.hel hv) → (P = false → PoOk none hv) →
    Ex (spS.1 :: portS.1 :: ownS.1 :: rowsS.1 :: loopB.1) w u ⟨Str.ofString "law", lawS.1, fa, kV, none, [], []⟩ [("has_pause", .v (.bool P)), ("has_shaper", .v (.bool S)), ("held", .r hl), ("burst", .i burst), ("rate", .i rate), ("source", .r sk)] bl KF := fun _ _ _ h1 h2 h3 =>
    sp_y hd h1 h2 h3 r0 r1 b0 b1 hK
  generalize spS.1 :: portS.1 :: ownS.1 :: rowsS.1 :: loopB.1 = rest at R ⊢
  delta heS lawS
  dsimp only
  cases P with
  | false =>
    walk
    exact Ex.forget (R _ _ _ (get_left ms) get_snoc fun _ => .none) ⟨rfl, rfl, rfl, rfl, rfl, rfl, trivial⟩
  | true =>
    walk
    exact Ex.forget (R _ _ _ ms mh fun h => nomatch h) ⟨rfl, rfl, rfl, rfl, rfl, rfl, trivial⟩
theorem held_y {fa : Addr} {kV : Value} {rate burst : Int} {KF : AF → AM → AL → Prop} (hd : u.d ≤ 400) (g : al[0]? = some .src)
    (r0 : 0 ≤ rate) (r1 : rate ≤ 1000) (b0 : 1 ≤ burst) (b1 : burst ≤ 1000) (hK : ∀ ms al, KF (.ret (.v (.bool true))) ms al) :
    Ex (heldS.1 :: hasS.1 :: heS.1 :: spS.1 :: portS.1 :: ownS.1 :: rowsS.1 :: loopB.1) w u ⟨Str.ofString "law", lawS.1, fa, kV, none, [], []⟩ [("burst", .i burst), ("rate", .i rate), ("source", .r 0)] al KF := by
  have R : ∀ bl sk hl hv S P, bl[sk]? = some .src → bl[hl]? = some (.hel hv) →
    Ex (heS.1 :: spS.1 :: portS.1 :: ownS.1 :: rowsS.1 :: loopB.1) w u ⟨Str.ofString "law", lawS.1, fa, kV, none, [], []⟩ [("has_pause", .v (.bool P)), ("has_shaper", .v (.bool S)), ("held", .r hl), ("burst", .i burst), ("rate", .i rate), ("source", .r sk)] bl KF := fun _ _ _ _ _ _ h1 h2 =>
    he_y hd h1 h2 r0 r1 b0 b1 hK
  generalize heS.1 :: spS.1 :: portS.1 :: ownS.1 :: rowsS.1 :: loopB.1 = rest at R ⊢
  delta heldS hasS lawS
  dsimp only
  refine ex_asgK rfl rfl rfl (fun _ => rfl) (ek_dictI rfl rfl (List.cons_ne_nil _ _) (Nat.le_of_ble_eq_true rfl) ?_)
  walk
  refine draw_y (by omega) (get_left g) (by decide) fun k1 _ _ => ?_
  walk
  refine draw_y (by omega) (get_left g) (by decide) fun v1 _ _ => ?_
  walk
  refine draw_y (by omega) (get_left g) (by decide) fun k2 _ _ => ?_
  walk
  refine draw_y (by omega) (get_left g) (by decide) fun v2 _ _ => ?_
  walk
  refine ex_swap (names := ["has_shaper", "has_pause"]) rfl ?_ rfl rfl ?_
  · intro x hx
    rcases List.mem_cons.mp hx with rfl | hx
    · exact ⟨rfl, rfl⟩
    · rw [List.mem_singleton.mp hx]; exact ⟨rfl, rfl⟩
  walk
  refine draw_y (by omega) (get_left g) (by decide) fun x1 _ _ => ?_
  walk
  refine draw_y (by omega) (get_left g) (by decide) fun x2 _ _ => ?_
  walk
  exact Ex.forget (R _ _ _ _ _ _ (get_left g) get_snoc) ⟨rfl, rfl, rfl, rfl, rfl, rfl, trivial⟩
theorem law_y {fa l : Addr} {vs : List Value} {ns : List Int} {kV : Value} {KF : AF → AM → AL → Prop} (hd : u.d ≤ 400) (hl : u.h₀.IsList l vs.toArray) (hi : IntsAre vs ns) (hn : ns.length ≤ 63) (hK : ∀ ms al, KF (.ret (.v (.bool true))) ms al) :
    Ex (srcS.1 :: rbS.1 :: heldS.1 :: hasS.1 :: heS.1 :: spS.1 :: portS.1 :: ownS.1 :: rowsS.1 :: loopB.1) w u ⟨Str.ofString "law", lawS.1, fa, kV, none, [], []⟩ [("script", .v (.ref l))] [] KF := by
  have R : ∀ bl rate burst, bl[0]? = some .src → 0 ≤ rate → rate ≤ 1000 → 1 ≤ burst → burst ≤ 1000 →
    Ex (heldS.1 :: hasS.1 :: heS.1 :: spS.1 :: portS.1 :: ownS.1 :: rowsS.1 :: loopB.1) w u ⟨Str.ofString "law", lawS.1, fa, kV, none, [], []⟩ [("burst", .i burst), ("rate", .i rate), ("source", .r 0)] bl KF := fun _ _ _ h1 r0 r1 b0 b1 =>
    held_y hd h1 r0 r1 b0 b1 hK
  generalize heldS.1 :: hasS.1 :: heS.1 :: spS.1 :: portS.1 :: ownS.1 :: rowsS.1 :: loopB.1 = rest at R ⊢
  delta srcS rbS lawS
  dsimp only
  walk
  refine src_y (by omega) hl hi hn ?_
  walk
  refine ex_swap (names := ["rate", "burst"]) rfl ?_ rfl rfl ?_
  · intro x hx
    rcases List.mem_cons.mp hx with rfl | hx
    · exact ⟨rfl, rfl⟩
    · rw [List.mem_singleton.mp hx]; exact ⟨rfl, rfl⟩
  walk
  refine pick_y (ns := [100, 30, 0, 999]) (by omega) rfl get_snoc (by decide) (by decide) fun rate hr => ?_
  have r0 : 0 ≤ rate ∧ rate ≤ 1000 := by simp only [List.mem_cons, List.not_mem_nil, or_false] at hr; omega
  walk
  refine pick_y (ns := [10, 64, 3]) (by omega) rfl get_snoc (by decide) (by decide) fun burst hb => ?_
  have b0 : 1 ≤ burst ∧ burst ≤ 1000 := by simp only [List.mem_cons, List.not_mem_nil, or_false] at hb; omega
  walk
  exact Ex.forget (R _ _ _ rfl r0.1 r0.2 b0.1 b0.2) ⟨rfl, rfl, rfl, trivial⟩
end
end
section
local macro_rules | `(tactic| walk_at "no such key") => `(tactic| fail)
theorem clr_Y39 : True := by
  w_top off
  trivial
variable {w : World} {A A₀ : Around} {base h₀ : Heap} {outer : List Env} {env : Env} {L : Addr} {m : Str → Option Value} {s : Shared} {Q E : Value → Shared → Prop} {mean : ExcName → Option Value} {mg mb : Str → Option Value}
set_option maxHeartbeats 8000000 in
theorem law_all2 {l L fa : Addr} {vs : List Value} {ns : List Int} {kV : Value} {m : Str → Option Value} {h : Heap} {tk : Nat} {Q : Flow → Shared → Prop}
    (B : Below callerA h₀ [] h₀) (X : (hd.heap_39 w.params).In h₀) (T : Top hd.view_39 (looseW hd.view_39 [Str.ofString "SettingError"]) mean mg mb h₀)
    (hl : h₀.IsList l vs.toArray) (hi : IntsAre vs ns) (hn : ns.length ≤ 63) (gs : m (Str.ofString "script") = some (.ref l)) (F : Fr h₀ L h m) (N : News h₀ L h [])
    (hQ : ∀ h' tk' m', Fr h₀ L h' m' → Q (.ret (.bool true)) { s with heap := h', toks := tk' }) :
    wpAny (model PySem.Challenge.rw_pc0376_01.row.prog w) (callerA.deeper (envOf (Str.ofString "law") lawS.1 L fa kV)) (execs lawB.1 (envOf (Str.ofString "law") lawS.1 L fa kV)) Q E { s with heap := h, toks := tk } := by
  have ok : Un.Ok w ⟨callerA.deeper (envOf (Str.ofString "law") lawS.1 L fa kV), callerA, h₀, h₀, [], envOf (Str.ofString "law") lawS.1 L fa kV, L, mean, mg, mb, 400, [], [], [], 0, fun _ => none⟩ :=
    Cx.mk B X T rfl rfl rfl rfl (Nat.le_of_ble_eq_true rfl) (Nat.le_of_ble_eq_true rfl)
  have W := law_y (w := w) (u := ⟨callerA.deeper (envOf (Str.ofString "law") lawS.1 L fa kV), callerA, h₀, h₀, [], envOf (Str.ofString "law") lawS.1 L fa kV, L, mean, mg, mb, 400, [], [], [], 0, fun _ => none⟩) (fa := fa) (kV := kV)
    (KF := fun f _ _ => f = .ret (.v (.bool true))) (Nat.le_refl _) hl hi hn fun _ _ => rfl
  refine wpAny_mono (W.go ⟨ok, rfl, rfl, (fun _ h => nomatch h), (fun _ h => nomatch h), fun h => absurd rfl h⟩ ⟨[], []⟩ Q { s with heap := h, toks := tk } ⟨⟨m, F, fun x a e => ?_⟩, [], rfl, List.nodup_nil, (fun _ h => nomatch h), (fun _ h => nomatch h), N⟩ fun f fl m' al' tk' h' D' _ k i S => ?_) (fun _ _ x => x) (fun _ _ x => x.elim)
  · by_cases hx : x = Str.ofString "script"
    · subst hx
      cases e
      exact ⟨.ref l, (rdn_off rfl).trans gs, rfl⟩
    · rw [List.lookup_cons, beq_eq_false_iff_ne.mpr hx] at e
      cases e
  · subst k
    obtain ⟨v, rfl, hv⟩ := i
    cases hv
    obtain ⟨m2, F2, _⟩ := S.F
    exact hQ _ _ _ F2
set_option maxHeartbeats 8000000 in
theorem all_holds : PySem.Challenge.rw_pc0376_01.Holds := by
  refine holds_law said0 fun said => ?_
  refine holds_open (r := PySem.Challenge.rw_pc0376_01.row) (q := hd.view_39) (loose := lo1) (Xt := xt) (XP := XL hd.view_39 []) (Yf := hk.obs) (Ya := hk.val) (YP := hk.says) (N := 7228) left0 hk.of hk.keeps (fun s e => xl_of s (Bool.and_eq_true_iff.mp e).1) XL.keeps (by rfl) (by rfl) (by rfl) (fun s e => recFacts_of (Bool.and_eq_true_iff.mp e).2) rfl said (by decide +kernel) ⟨rfl, rfl, rfl, rfl, rfl, by decide +kernel⟩ ?hw ?hc
  case hw => w_witness2
  case hc =>
  k_go0
  refine law_all2 (by assumption) (by assumption) (by assumption) (by assumption) (by assumption) (by omega) rfl (by assumption) (by assumption) ?_
  intro h' tk' m' F'
  k_steps
end
end
end Mine
theorem PySem.Challenge.cw_pc0376_01_holds : PySem.Challenge.rw_pc0376_01.Holds := by
  exact Mine.all_holds
