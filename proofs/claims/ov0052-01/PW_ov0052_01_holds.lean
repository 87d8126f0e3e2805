import PyProof.Rows.All
import Wide.All
import OpenK.AllK
import Wide.FinOn
import Lean
import PySem.Challenge.RW_ov0052_01
open PySem PySem.W PySem.Calls PyProof.Rows
set_option Elab.async false
set_option maxRecDepth 100000
set_option maxHeartbeats 8000000
set_option compiler.extract_closed false
namespace Mine

abbrev RO : RowW := PySem.Challenge.rw_ov0052_01.row.toRowW
noncomputable def tops : List Stmt := RO.prog.main.body
noncomputable def fAt (l : List Stmt) (i : Nat) : Option (Arguments × List Stmt × Scope) := match l[i]? with
  | some (.FunctionDef _ p b _ _ _ s _ _ _) => some (p, b, s)
  | _ => none
noncomputable def cAt (l : List Stmt) (i : Nat) : List Stmt := match l[i]? with
  | some (.ClassDef _ _ _ b _ _ _ _ _ _ _) => b
  | _ => []
noncomputable def KF : Params → Frag := fun P => (fun {p0 : Arguments} {b0 : List Stmt} {s0 : Scope} (_ : fAt (cAt tops 2) 0 = some (p0, b0, s0)) {p1 : Arguments} {b1 : List Stmt} {s1 : Scope} (_ : fAt (cAt tops 4) 0 = some (p1, b1, s1)) {p2 : Arguments} {b2 : List Stmt} {s2 : Scope} (_ : fAt tops 5 = some (p2, b2, s2)) {p3 : Arguments} {b3 : List Stmt} {s3 : Scope} (_ : fAt tops 6 = some (p3, b3, s3)) {p4 : Arguments} {b4 : List Stmt} {s4 : Scope} (_ : fAt tops 7 = some (p4, b4, s4)) {p5 : Arguments} {b5 : List Stmt} {s5 : Scope} (_ : fAt (cAt tops 8) 0 = some (p5, b5, s5)) {p6 : Arguments} {b6 : List Stmt} {s6 : Scope} (_ : fAt (cAt tops 8) 1 = some (p6, b6, s6)) {p7 : Arguments} {b7 : List Stmt} {s7 : Scope} (_ : fAt (cAt tops 8) 2 = some (p7, b7, s7)) {p8 : Arguments} {b8 : List Stmt} {s8 : Scope} (_ : fAt (cAt tops 8) 3 = some (p8, b8, s8)) {p9 : Arguments} {b9 : List Stmt} {s9 : Scope} (_ : fAt (cAt tops 8) 4 = some (p9, b9, s9)) {p10 : Arguments} {b10 : List Stmt} {s10 : Scope} (_ : fAt (cAt tops 8) 5 = some (p10, b10, s10)) {p11 : Arguments} {b11 : List Stmt} {s11 : Scope} (_ : fAt (cAt tops 8) 6 = some (p11, b11, s11)) {p12 : Arguments} {b12 : List Stmt} {s12 : Scope} (_ : fAt (cAt tops 8) 7 = some (p12, b12, s12)) {p13 : Arguments} {b13 : List Stmt} {s13 : Scope} (_ : fAt (cAt tops 8) 8 = some (p13, b13, s13)) {p14 : Arguments} {b14 : List Stmt} {s14 : Scope} (_ : fAt (cAt tops 8) 9 = some (p14, b14, s14)) {p15 : Arguments} {b15 : List Stmt} {s15 : Scope} (_ : fAt tops 9 = some (p15, b15, s15)) {p16 : Arguments} {b16 : List Stmt} {s16 : Scope} (_ : fAt tops 11 = some (p16, b16, s16)) {p17 : Arguments} {b17 : List Stmt} {s17 : Scope} (_ : fAt tops 12 = some (p17, b17, s17)) {p18 : Arguments} {b18 : List Stmt} {s18 : Scope} (_ : fAt tops 13 = some (p18, b18, s18)) {p19 : Arguments} {b19 : List Stmt} {s19 : Scope} (_ : fAt tops 14 = some (p19, b19, s19)) {p20 : Arguments} {b20 : List Stmt} {s20 : Scope} (_ : fAt tops 15 = some (p20, b20, s20)) => (
  ((nat_lit 2), ⟨Value.none, none, (Data.dict #[⟨(PyData.keyHash P (Str.ofString "type.__subclasses__.Exception.0")), (Value.str (Str.ofString "type.__subclasses__.Exception.0") (205:Nat)), (Value.int 24 (0:Nat))⟩, ⟨(PyData.keyHash P (Str.ofString "type.__subclasses__.Exception.n")), (Value.str (Str.ofString "type.__subclasses__.Exception.n") (206:Nat)), (Value.int 1 (0:Nat))⟩] (2:Nat)), #[]⟩) ::
  ((nat_lit 3), ⟨(Value.type "dict"), none, (Data.dict #[⟨(PyData.keyHash P (Str.ofString "__name__")), (Value.str (Str.ofString "__name__") (165:Nat)), (Value.str (Str.ofString "law_ov0052_01") (428:Nat))⟩, ⟨(PyData.keyHash P (Str.ofString "__doc__")), (Value.str (Str.ofString "__doc__") (166:Nat)), Value.none⟩, ⟨(PyData.keyHash P (Str.ofString "__package__")), (Value.str (Str.ofString "__package__") (167:Nat)), Value.none⟩, ⟨(PyData.keyHash P (Str.ofString "__loader__")), (Value.str (Str.ofString "__loader__") (168:Nat)), (Value.builtin "__main__.__loader__#opaque")⟩, ⟨(PyData.keyHash P (Str.ofString "__spec__")), (Value.str (Str.ofString "__spec__") (169:Nat)), Value.none⟩, ⟨(PyData.keyHash P (Str.ofString "__annotations__")), (Value.str (Str.ofString "__annotations__") (170:Nat)), (Value.ref (6:Nat))⟩, ⟨(PyData.keyHash P (Str.ofString "__builtins__")), (Value.str (Str.ofString "__builtins__") (171:Nat)), (Value.ref (4:Nat))⟩, ⟨(PyData.keyHash P (Str.ofString "__file__")), (Value.str (Str.ofString "__file__") (173:Nat)), (Value.str (Str.ofString "/claim/cut.py") (172:Nat))⟩, ⟨(PyData.keyHash P (Str.ofString "__cached__")), (Value.str (Str.ofString "__cached__") (174:Nat)), Value.none⟩, ⟨(PyData.keyHash P (Str.ofString "CoveError")), (Value.str (Str.ofString "CoveError") (208:Nat)), (Value.ref (24:Nat))⟩, ⟨(PyData.keyHash P (Str.ofString "Refusal")), (Value.str (Str.ofString "Refusal") (233:Nat)), (Value.ref (44:Nat))⟩, ⟨(PyData.keyHash P (Str.ofString "S4Class")), (Value.str (Str.ofString "S4Class") (274:Nat)), (Value.ref (63:Nat))⟩, ⟨(PyData.keyHash P (Str.ofString "data_kinds")), (Value.str (Str.ofString "data_kinds") (280:Nat)), (Value.ref (74:Nat))⟩, ⟨(PyData.keyHash P (Str.ofString "basic_names")), (Value.str (Str.ofString "basic_names") (286:Nat)), (Value.ref (81:Nat))⟩, ⟨(PyData.keyHash P (Str.ofString "basic_parents")), (Value.str (Str.ofString "basic_parents") (293:Nat)), (Value.ref (88:Nat))⟩, ⟨(PyData.keyHash P (Str.ofString "ClassTable")), (Value.str (Str.ofString "ClassTable") (415:Nat)), (Value.ref (168:Nat))⟩, ⟨(PyData.keyHash P (Str.ofString "check_slots")), (Value.str (Str.ofString "check_slots") (427:Nat)), (Value.ref (179:Nat))⟩, ⟨(PyData.keyHash P (Str.ofString "_law_pick")), (Value.str (Str.ofString "_law_pick") (439:Nat)), (Value.ref (186:Nat))⟩, ⟨(PyData.keyHash P (Str.ofString "_law_near")), (Value.str (Str.ofString "_law_near") (450:Nat)), (Value.ref (193:Nat))⟩, ⟨(PyData.keyHash P (Str.ofString "_law_ways")), (Value.str (Str.ofString "_law_ways") (463:Nat)), (Value.ref (200:Nat))⟩, ⟨(PyData.keyHash P (Str.ofString "_law_right")), (Value.str (Str.ofString "_law_right") (469:Nat)), (Value.ref (205:Nat))⟩, ⟨(PyData.keyHash P (Str.ofString "law")), (Value.str (Str.ofString "law") (475:Nat)), (Value.ref (210:Nat))⟩] (22:Nat)), #[]⟩) ::
  ((nat_lit 15), ⟨(Value.type "tuple"), none, (Data.seq #[(Value.type "Exception")] (0:Nat)), #[]⟩) ::
  ((nat_lit 22), ⟨(Value.type "tuple"), none, (Data.seq #[] (0:Nat)), #[]⟩) ::
  ((nat_lit 23), ⟨(Value.type "dict"), none, (Data.dict #[⟨(PyData.keyHash P (Str.ofString "__module__")), (Value.str (Str.ofString "__module__") (196:Nat)), (Value.str (Str.ofString "vectorcove.errors") (187:Nat))⟩, ⟨(PyData.keyHash P (Str.ofString "__firstlineno__")), (Value.str (Str.ofString "__firstlineno__") (200:Nat)), (Value.int 2 (199:Nat))⟩, ⟨(PyData.keyHash P (Str.ofString "__static_attributes__")), (Value.str (Str.ofString "__static_attributes__") (201:Nat)), (Value.ref (22:Nat))⟩, ⟨(PyData.keyHash P (Str.ofString "__weakref__")), (Value.str (Str.ofString "__weakref__") (203:Nat)), (Value.ref (25:Nat))⟩, ⟨(PyData.keyHash P (Str.ofString "__doc__")), (Value.str (Str.ofString "__doc__") (204:Nat)), Value.none⟩] (3:Nat)), #[]⟩) ::
  ((nat_lit 24), ⟨(Value.type "type"), none, (Data.cls ⟨(Str.ofString "CoveError"), [(Value.type "Exception")], [(Value.ref (24:Nat)), (Value.type "Exception"), (Value.type "BaseException"), (Value.type "object")], (23:Nat), (Str.ofString "CoveError"), Bool.true, [], [(Value.ref (44:Nat))], Bool.false, none, Bool.false⟩), #[(some (Value.ref (15:Nat))), none, (some (Value.str (Str.ofString "CoveError") (189:Nat))), (some (Value.str (Str.ofString "CoveError") (197:Nat))), (some (Value.builtin "Exception.__new__")), (some (Value.bool Bool.true))]⟩) ::
  ((nat_lit 25), ⟨(Value.type "getset_descriptor"), none, (Data.fields #[(Value.str (Str.ofString "__weakref__") (202:Nat)), (Value.ref (24:Nat)), (Value.builtin "ExceptionGroup.__weakref__"), Value.none]), #[]⟩) ::
  ((nat_lit 28), ⟨(Value.type "tuple"), none, (Data.seq #[(Value.ref (24:Nat))] (0:Nat)), #[]⟩) ::
  ((nat_lit 35), ⟨(Value.type "tuple"), none, (Data.seq #[] (0:Nat)), #[]⟩) ::
  ((nat_lit 37), ⟨(Value.type "tuple"), none, (Data.seq #[(Value.str (Str.ofString "self") (224:Nat)), (Value.str (Str.ofString "message") (225:Nat))] (0:Nat)), #[]⟩) ::
  ((nat_lit 38), ⟨(Value.type "tuple"), none, (Data.seq #[] (0:Nat)), #[]⟩) ::
  ((nat_lit 40), ⟨(Value.type "code"), none, (Data.fields #[(Value.str (Str.ofString "__init__") (221:Nat)), (Value.str (Str.ofString "Refusal.__init__") (222:Nat)), (Value.str (Str.ofString "/claim/cut.py") (223:Nat)), (Value.int 6 (0:Nat)), (Value.int 2 (0:Nat)), (Value.int 0 (0:Nat)), (Value.int 0 (0:Nat)), (Value.int 3 (0:Nat)), (Value.ref (35:Nat)), (Value.bool Bool.true), (Value.int 181 (0:Nat)), (Value.ref (36:Nat)), Value.none, (Value.ref (37:Nat)), (Value.ref (38:Nat)), (Value.ref (39:Nat)), (Value.int 226 (0:Nat)), (Value.int 6 (0:Nat)), (Value.str (Str.ofString "/claim/cut.py") (227:Nat))]), #[]⟩) ::
  ((nat_lit 41), ⟨(Value.type "function"), none, (Data.func ⟨(Str.ofString "__init__"), (Str.ofString "Refusal.__init__"), p0, (FuncBody.stmts b0), s0, (3:Nat), [], Value.none, Value.none, Value.none, (Value.str (Str.ofString "vectorcove.errors") (187:Nat)), none, (Value.ref (40:Nat)), Value.none, (0:Nat)⟩), #[]⟩) ::
  ((nat_lit 42), ⟨(Value.type "tuple"), none, (Data.seq #[(Value.str (Str.ofString "message") (229:Nat))] (0:Nat)), #[]⟩) ::
  ((nat_lit 43), ⟨(Value.type "dict"), none, (Data.dict #[⟨(PyData.keyHash P (Str.ofString "__module__")), (Value.str (Str.ofString "__module__") (216:Nat)), (Value.str (Str.ofString "vectorcove.errors") (187:Nat))⟩, ⟨(PyData.keyHash P (Str.ofString "__firstlineno__")), (Value.str (Str.ofString "__firstlineno__") (220:Nat)), (Value.int 4 (219:Nat))⟩, ⟨(PyData.keyHash P (Str.ofString "__init__")), (Value.str (Str.ofString "__init__") (228:Nat)), (Value.ref (41:Nat))⟩, ⟨(PyData.keyHash P (Str.ofString "__static_attributes__")), (Value.str (Str.ofString "__static_attributes__") (230:Nat)), (Value.ref (42:Nat))⟩, ⟨(PyData.keyHash P (Str.ofString "__doc__")), (Value.str (Str.ofString "__doc__") (231:Nat)), Value.none⟩] (2:Nat)), #[]⟩) ::
  ((nat_lit 44), ⟨(Value.type "type"), none, (Data.cls ⟨(Str.ofString "Refusal"), [(Value.ref (24:Nat))], [(Value.ref (44:Nat)), (Value.ref (24:Nat)), (Value.type "Exception"), (Value.type "BaseException"), (Value.type "object")], (43:Nat), (Str.ofString "Refusal"), Bool.true, [], [], Bool.false, none, Bool.false⟩), #[(some (Value.ref (28:Nat))), none, (some (Value.str (Str.ofString "Refusal") (209:Nat))), (some (Value.str (Str.ofString "Refusal") (217:Nat))), (some (Value.builtin "Exception.__new__")), (some (Value.bool Bool.true))]⟩) ::
  ((nat_lit 54), ⟨(Value.type "tuple"), none, (Data.seq #[] (0:Nat)), #[]⟩) ::
  ((nat_lit 56), ⟨(Value.type "tuple"), none, (Data.seq #[(Value.str (Str.ofString "self") (251:Nat)), (Value.str (Str.ofString "name") (252:Nat)), (Value.str (Str.ofString "slots") (253:Nat)), (Value.str (Str.ofString "contains") (254:Nat)), (Value.str (Str.ofString "validity") (255:Nat)), (Value.str (Str.ofString "virtual") (256:Nat)), (Value.str (Str.ofString "prototype") (257:Nat))] (0:Nat)), #[]⟩) ::
  ((nat_lit 57), ⟨(Value.type "tuple"), none, (Data.seq #[] (0:Nat)), #[]⟩) ::
  ((nat_lit 59), ⟨(Value.type "code"), none, (Data.fields #[(Value.str (Str.ofString "__init__") (248:Nat)), (Value.str (Str.ofString "S4Class.__init__") (249:Nat)), (Value.str (Str.ofString "/claim/cut.py") (250:Nat)), (Value.int 11 (0:Nat)), (Value.int 7 (0:Nat)), (Value.int 0 (0:Nat)), (Value.int 0 (0:Nat)), (Value.int 3 (0:Nat)), (Value.ref (54:Nat)), (Value.bool Bool.true), (Value.int 181 (0:Nat)), (Value.ref (55:Nat)), Value.none, (Value.ref (56:Nat)), (Value.ref (57:Nat)), (Value.ref (58:Nat)), (Value.int 258 (0:Nat)), (Value.int 11 (0:Nat)), (Value.str (Str.ofString "/claim/cut.py") (259:Nat))]), #[]⟩) ::
  ((nat_lit 60), ⟨(Value.type "function"), none, (Data.func ⟨(Str.ofString "__init__"), (Str.ofString "S4Class.__init__"), p1, (FuncBody.stmts b1), s1, (3:Nat), [], Value.none, Value.none, Value.none, (Value.str (Str.ofString "vectorcove.s4classes") (234:Nat)), none, (Value.ref (59:Nat)), Value.none, (0:Nat)⟩), #[]⟩) ::
  ((nat_lit 61), ⟨(Value.type "tuple"), none, (Data.seq #[(Value.str (Str.ofString "contains") (261:Nat)), (Value.str (Str.ofString "name") (262:Nat)), (Value.str (Str.ofString "prototype") (263:Nat)), (Value.str (Str.ofString "slots") (264:Nat)), (Value.str (Str.ofString "validity") (265:Nat)), (Value.str (Str.ofString "virtual") (266:Nat))] (0:Nat)), #[]⟩) ::
  ((nat_lit 62), ⟨(Value.type "dict"), none, (Data.dict #[⟨(PyData.keyHash P (Str.ofString "__module__")), (Value.str (Str.ofString "__module__") (243:Nat)), (Value.str (Str.ofString "vectorcove.s4classes") (234:Nat))⟩, ⟨(PyData.keyHash P (Str.ofString "__firstlineno__")), (Value.str (Str.ofString "__firstlineno__") (247:Nat)), (Value.int 9 (246:Nat))⟩, ⟨(PyData.keyHash P (Str.ofString "__init__")), (Value.str (Str.ofString "__init__") (260:Nat)), (Value.ref (60:Nat))⟩, ⟨(PyData.keyHash P (Str.ofString "__static_attributes__")), (Value.str (Str.ofString "__static_attributes__") (267:Nat)), (Value.ref (61:Nat))⟩, ⟨(PyData.keyHash P (Str.ofString "__dict__")), (Value.str (Str.ofString "__dict__") (269:Nat)), (Value.ref (64:Nat))⟩, ⟨(PyData.keyHash P (Str.ofString "__weakref__")), (Value.str (Str.ofString "__weakref__") (271:Nat)), (Value.ref (65:Nat))⟩, ⟨(PyData.keyHash P (Str.ofString "__doc__")), (Value.str (Str.ofString "__doc__") (272:Nat)), Value.none⟩] (4:Nat)), #[]⟩) ::
  ((nat_lit 63), ⟨(Value.type "type"), none, (Data.cls ⟨(Str.ofString "S4Class"), [(Value.type "object")], [(Value.ref (63:Nat)), (Value.type "object")], (62:Nat), (Str.ofString "S4Class"), Bool.true, [], [], Bool.false, none, Bool.false⟩), #[none, none, (some (Value.str (Str.ofString "S4Class") (236:Nat))), (some (Value.str (Str.ofString "S4Class") (244:Nat))), (some (Value.builtin "object.__new__")), (some (Value.bool Bool.true))]⟩) ::
  ((nat_lit 64), ⟨(Value.type "getset_descriptor"), none, (Data.fields #[(Value.str (Str.ofString "__dict__") (268:Nat)), (Value.ref (63:Nat)), (Value.builtin "function.__dict__"), (Value.builtin "function.__dict__#set")]), #[]⟩) ::
  ((nat_lit 65), ⟨(Value.type "getset_descriptor"), none, (Data.fields #[(Value.str (Str.ofString "__weakref__") (270:Nat)), (Value.ref (63:Nat)), (Value.builtin "ExceptionGroup.__weakref__"), Value.none]), #[]⟩) ::
  ((nat_lit 68), ⟨(Value.type "tuple"), none, (Data.seq #[] (0:Nat)), #[]⟩) ::
  ((nat_lit 70), ⟨(Value.type "tuple"), none, (Data.seq #[] (0:Nat)), #[]⟩) ::
  ((nat_lit 71), ⟨(Value.type "tuple"), none, (Data.seq #[] (0:Nat)), #[]⟩) ::
  ((nat_lit 73), ⟨(Value.type "code"), none, (Data.fields #[(Value.str (Str.ofString "data_kinds") (275:Nat)), (Value.str (Str.ofString "data_kinds") (276:Nat)), (Value.str (Str.ofString "/claim/cut.py") (277:Nat)), (Value.int 18 (0:Nat)), (Value.int 0 (0:Nat)), (Value.int 0 (0:Nat)), (Value.int 0 (0:Nat)), (Value.int 3 (0:Nat)), (Value.ref (68:Nat)), (Value.bool Bool.true), (Value.int 181 (0:Nat)), (Value.ref (69:Nat)), Value.none, (Value.ref (70:Nat)), (Value.ref (71:Nat)), (Value.ref (72:Nat)), (Value.int 278 (0:Nat)), (Value.int 18 (0:Nat)), (Value.str (Str.ofString "/claim/cut.py") (279:Nat))]), #[]⟩) ::
  ((nat_lit 74), ⟨(Value.type "function"), none, (Data.func ⟨(Str.ofString "data_kinds"), (Str.ofString "data_kinds"), p3, (FuncBody.stmts b2), s2, (3:Nat), [], Value.none, Value.none, Value.none, (Value.str (Str.ofString "vectorcove.s4classes") (234:Nat)), none, (Value.ref (73:Nat)), Value.none, (0:Nat)⟩), #[]⟩) ::
  ((nat_lit 75), ⟨(Value.type "tuple"), none, (Data.seq #[] (0:Nat)), #[]⟩) ::
  ((nat_lit 77), ⟨(Value.type "tuple"), none, (Data.seq #[] (0:Nat)), #[]⟩) ::
  ((nat_lit 78), ⟨(Value.type "tuple"), none, (Data.seq #[] (0:Nat)), #[]⟩) ::
  ((nat_lit 80), ⟨(Value.type "code"), none, (Data.fields #[(Value.str (Str.ofString "basic_names") (281:Nat)), (Value.str (Str.ofString "basic_names") (282:Nat)), (Value.str (Str.ofString "/claim/cut.py") (283:Nat)), (Value.int 20 (0:Nat)), (Value.int 0 (0:Nat)), (Value.int 0 (0:Nat)), (Value.int 0 (0:Nat)), (Value.int 3 (0:Nat)), (Value.ref (75:Nat)), (Value.bool Bool.true), (Value.int 181 (0:Nat)), (Value.ref (76:Nat)), Value.none, (Value.ref (77:Nat)), (Value.ref (78:Nat)), (Value.ref (79:Nat)), (Value.int 284 (0:Nat)), (Value.int 20 (0:Nat)), (Value.str (Str.ofString "/claim/cut.py") (285:Nat))]), #[]⟩) ::
  ((nat_lit 81), ⟨(Value.type "function"), none, (Data.func ⟨(Str.ofString "basic_names"), (Str.ofString "basic_names"), p3, (FuncBody.stmts b3), s3, (3:Nat), [], Value.none, Value.none, Value.none, (Value.str (Str.ofString "vectorcove.s4classes") (234:Nat)), none, (Value.ref (80:Nat)), Value.none, (0:Nat)⟩), #[]⟩) ::
  ((nat_lit 82), ⟨(Value.type "tuple"), none, (Data.seq #[] (0:Nat)), #[]⟩) ::
  ((nat_lit 84), ⟨(Value.type "tuple"), none, (Data.seq #[(Value.str (Str.ofString "name") (290:Nat))] (0:Nat)), #[]⟩) ::
  ((nat_lit 85), ⟨(Value.type "tuple"), none, (Data.seq #[] (0:Nat)), #[]⟩) ::
  ((nat_lit 87), ⟨(Value.type "code"), none, (Data.fields #[(Value.str (Str.ofString "basic_parents") (287:Nat)), (Value.str (Str.ofString "basic_parents") (288:Nat)), (Value.str (Str.ofString "/claim/cut.py") (289:Nat)), (Value.int 22 (0:Nat)), (Value.int 1 (0:Nat)), (Value.int 0 (0:Nat)), (Value.int 0 (0:Nat)), (Value.int 3 (0:Nat)), (Value.ref (82:Nat)), (Value.bool Bool.true), (Value.int 181 (0:Nat)), (Value.ref (83:Nat)), Value.none, (Value.ref (84:Nat)), (Value.ref (85:Nat)), (Value.ref (86:Nat)), (Value.int 291 (0:Nat)), (Value.int 22 (0:Nat)), (Value.str (Str.ofString "/claim/cut.py") (292:Nat))]), #[]⟩) ::
  ((nat_lit 88), ⟨(Value.type "function"), none, (Data.func ⟨(Str.ofString "basic_parents"), (Str.ofString "basic_parents"), p4, (FuncBody.stmts b4), s4, (3:Nat), [], Value.none, Value.none, Value.none, (Value.str (Str.ofString "vectorcove.s4classes") (234:Nat)), none, (Value.ref (87:Nat)), Value.none, (0:Nat)⟩), #[]⟩) ::
  ((nat_lit 96), ⟨(Value.type "tuple"), none, (Data.seq #[] (0:Nat)), #[]⟩) ::
  ((nat_lit 98), ⟨(Value.type "tuple"), none, (Data.seq #[(Value.str (Str.ofString "self") (309:Nat))] (0:Nat)), #[]⟩) ::
  ((nat_lit 99), ⟨(Value.type "tuple"), none, (Data.seq #[] (0:Nat)), #[]⟩) ::
  ((nat_lit 101), ⟨(Value.type "code"), none, (Data.fields #[(Value.str (Str.ofString "__init__") (306:Nat)), (Value.str (Str.ofString "ClassTable.__init__") (307:Nat)), (Value.str (Str.ofString "/claim/cut.py") (308:Nat)), (Value.int 40 (0:Nat)), (Value.int 1 (0:Nat)), (Value.int 0 (0:Nat)), (Value.int 0 (0:Nat)), (Value.int 3 (0:Nat)), (Value.ref (96:Nat)), (Value.bool Bool.true), (Value.int 181 (0:Nat)), (Value.ref (97:Nat)), Value.none, (Value.ref (98:Nat)), (Value.ref (99:Nat)), (Value.ref (100:Nat)), (Value.int 310 (0:Nat)), (Value.int 40 (0:Nat)), (Value.str (Str.ofString "/claim/cut.py") (311:Nat))]), #[]⟩) ::
  ((nat_lit 102), ⟨(Value.type "function"), none, (Data.func ⟨(Str.ofString "__init__"), (Str.ofString "ClassTable.__init__"), p5, (FuncBody.stmts b5), s5, (3:Nat), [], Value.none, Value.none, Value.none, (Value.str (Str.ofString "vectorcove.s4classes") (234:Nat)), none, (Value.ref (101:Nat)), Value.none, (0:Nat)⟩), #[]⟩) ::
  ((nat_lit 103), ⟨(Value.type "tuple"), none, (Data.seq #[] (0:Nat)), #[]⟩) ::
  ((nat_lit 105), ⟨(Value.type "tuple"), none, (Data.seq #[(Value.str (Str.ofString "self") (316:Nat)), (Value.str (Str.ofString "c") (317:Nat)), (Value.str (Str.ofString "name") (318:Nat))] (0:Nat)), #[]⟩) ::
  ((nat_lit 106), ⟨(Value.type "tuple"), none, (Data.seq #[] (0:Nat)), #[]⟩) ::
  ((nat_lit 108), ⟨(Value.type "code"), none, (Data.fields #[(Value.str (Str.ofString "define") (313:Nat)), (Value.str (Str.ofString "ClassTable.define") (314:Nat)), (Value.str (Str.ofString "/claim/cut.py") (315:Nat)), (Value.int 44 (0:Nat)), (Value.int 2 (0:Nat)), (Value.int 0 (0:Nat)), (Value.int 0 (0:Nat)), (Value.int 3 (0:Nat)), (Value.ref (103:Nat)), (Value.bool Bool.true), (Value.int 181 (0:Nat)), (Value.ref (104:Nat)), Value.none, (Value.ref (105:Nat)), (Value.ref (106:Nat)), (Value.ref (107:Nat)), (Value.int 319 (0:Nat)), (Value.int 44 (0:Nat)), (Value.str (Str.ofString "/claim/cut.py") (320:Nat))]), #[]⟩) ::
  ((nat_lit 109), ⟨(Value.type "function"), none, (Data.func ⟨(Str.ofString "define"), (Str.ofString "ClassTable.define"), p6, (FuncBody.stmts b6), s6, (3:Nat), [], Value.none, Value.none, Value.none, (Value.str (Str.ofString "vectorcove.s4classes") (234:Nat)), none, (Value.ref (108:Nat)), Value.none, (0:Nat)⟩), #[]⟩) ::
  ((nat_lit 110), ⟨(Value.type "tuple"), none, (Data.seq #[] (0:Nat)), #[]⟩) ::
  ((nat_lit 112), ⟨(Value.type "tuple"), none, (Data.seq #[(Value.str (Str.ofString "self") (325:Nat)), (Value.str (Str.ofString "name") (326:Nat)), (Value.str (Str.ofString "members") (327:Nat)), (Value.str (Str.ofString "member") (328:Nat))] (0:Nat)), #[]⟩) ::
  ((nat_lit 113), ⟨(Value.type "tuple"), none, (Data.seq #[] (0:Nat)), #[]⟩) ::
  ((nat_lit 115), ⟨(Value.type "code"), none, (Data.fields #[(Value.str (Str.ofString "set_union") (322:Nat)), (Value.str (Str.ofString "ClassTable.set_union") (323:Nat)), (Value.str (Str.ofString "/claim/cut.py") (324:Nat)), (Value.int 53 (0:Nat)), (Value.int 3 (0:Nat)), (Value.int 0 (0:Nat)), (Value.int 0 (0:Nat)), (Value.int 3 (0:Nat)), (Value.ref (110:Nat)), (Value.bool Bool.true), (Value.int 181 (0:Nat)), (Value.ref (111:Nat)), Value.none, (Value.ref (112:Nat)), (Value.ref (113:Nat)), (Value.ref (114:Nat)), (Value.int 329 (0:Nat)), (Value.int 53 (0:Nat)), (Value.str (Str.ofString "/claim/cut.py") (330:Nat))]), #[]⟩) ::
  ((nat_lit 116), ⟨(Value.type "function"), none, (Data.func ⟨(Str.ofString "set_union"), (Str.ofString "ClassTable.set_union"), p7, (FuncBody.stmts b7), s7, (3:Nat), [], Value.none, Value.none, Value.none, (Value.str (Str.ofString "vectorcove.s4classes") (234:Nat)), none, (Value.ref (115:Nat)), Value.none, (0:Nat)⟩), #[]⟩) ::
  ((nat_lit 117), ⟨(Value.type "tuple"), none, (Data.seq #[] (0:Nat)), #[]⟩) ::
  ((nat_lit 119), ⟨(Value.type "tuple"), none, (Data.seq #[(Value.str (Str.ofString "self") (335:Nat)), (Value.str (Str.ofString "name") (336:Nat))] (0:Nat)), #[]⟩) ::
  ((nat_lit 120), ⟨(Value.type "tuple"), none, (Data.seq #[] (0:Nat)), #[]⟩) ::
  ((nat_lit 122), ⟨(Value.type "code"), none, (Data.fields #[(Value.str (Str.ofString "get") (332:Nat)), (Value.str (Str.ofString "ClassTable.get") (333:Nat)), (Value.str (Str.ofString "/claim/cut.py") (334:Nat)), (Value.int 62 (0:Nat)), (Value.int 2 (0:Nat)), (Value.int 0 (0:Nat)), (Value.int 0 (0:Nat)), (Value.int 3 (0:Nat)), (Value.ref (117:Nat)), (Value.bool Bool.true), (Value.int 181 (0:Nat)), (Value.ref (118:Nat)), Value.none, (Value.ref (119:Nat)), (Value.ref (120:Nat)), (Value.ref (121:Nat)), (Value.int 337 (0:Nat)), (Value.int 62 (0:Nat)), (Value.str (Str.ofString "/claim/cut.py") (338:Nat))]), #[]⟩) ::
  ((nat_lit 123), ⟨(Value.type "function"), none, (Data.func ⟨(Str.ofString "get"), (Str.ofString "ClassTable.get"), p8, (FuncBody.stmts b8), s10, (3:Nat), [], Value.none, Value.none, Value.none, (Value.str (Str.ofString "vectorcove.s4classes") (234:Nat)), none, (Value.ref (122:Nat)), Value.none, (0:Nat)⟩), #[]⟩) ::
  ((nat_lit 124), ⟨(Value.type "tuple"), none, (Data.seq #[] (0:Nat)), #[]⟩) ::
  ((nat_lit 126), ⟨(Value.type "tuple"), none, (Data.seq #[(Value.str (Str.ofString "self") (343:Nat)), (Value.str (Str.ofString "name") (344:Nat))] (0:Nat)), #[]⟩) ::
  ((nat_lit 127), ⟨(Value.type "tuple"), none, (Data.seq #[] (0:Nat)), #[]⟩) ::
  ((nat_lit 129), ⟨(Value.type "code"), none, (Data.fields #[(Value.str (Str.ofString "basic") (340:Nat)), (Value.str (Str.ofString "ClassTable.basic") (341:Nat)), (Value.str (Str.ofString "/claim/cut.py") (342:Nat)), (Value.int 65 (0:Nat)), (Value.int 2 (0:Nat)), (Value.int 0 (0:Nat)), (Value.int 0 (0:Nat)), (Value.int 3 (0:Nat)), (Value.ref (124:Nat)), (Value.bool Bool.true), (Value.int 181 (0:Nat)), (Value.ref (125:Nat)), Value.none, (Value.ref (126:Nat)), (Value.ref (127:Nat)), (Value.ref (128:Nat)), (Value.int 345 (0:Nat)), (Value.int 65 (0:Nat)), (Value.str (Str.ofString "/claim/cut.py") (346:Nat))]), #[]⟩) ::
  ((nat_lit 130), ⟨(Value.type "function"), none, (Data.func ⟨(Str.ofString "basic"), (Str.ofString "ClassTable.basic"), p9, (FuncBody.stmts b9), s9, (3:Nat), [], Value.none, Value.none, Value.none, (Value.str (Str.ofString "vectorcove.s4classes") (234:Nat)), none, (Value.ref (129:Nat)), Value.none, (0:Nat)⟩), #[]⟩) ::
  ((nat_lit 131), ⟨(Value.type "tuple"), none, (Data.seq #[] (0:Nat)), #[]⟩) ::
  ((nat_lit 133), ⟨(Value.type "tuple"), none, (Data.seq #[(Value.str (Str.ofString "self") (351:Nat)), (Value.str (Str.ofString "name") (352:Nat))] (0:Nat)), #[]⟩) ::
  ((nat_lit 134), ⟨(Value.type "tuple"), none, (Data.seq #[] (0:Nat)), #[]⟩) ::
  ((nat_lit 136), ⟨(Value.type "code"), none, (Data.fields #[(Value.str (Str.ofString "known") (348:Nat)), (Value.str (Str.ofString "ClassTable.known") (349:Nat)), (Value.str (Str.ofString "/claim/cut.py") (350:Nat)), (Value.int 68 (0:Nat)), (Value.int 2 (0:Nat)), (Value.int 0 (0:Nat)), (Value.int 0 (0:Nat)), (Value.int 3 (0:Nat)), (Value.ref (131:Nat)), (Value.bool Bool.true), (Value.int 181 (0:Nat)), (Value.ref (132:Nat)), Value.none, (Value.ref (133:Nat)), (Value.ref (134:Nat)), (Value.ref (135:Nat)), (Value.int 353 (0:Nat)), (Value.int 68 (0:Nat)), (Value.str (Str.ofString "/claim/cut.py") (354:Nat))]), #[]⟩) ::
  ((nat_lit 137), ⟨(Value.type "function"), none, (Data.func ⟨(Str.ofString "known"), (Str.ofString "ClassTable.known"), p10, (FuncBody.stmts b10), s10, (3:Nat), [], Value.none, Value.none, Value.none, (Value.str (Str.ofString "vectorcove.s4classes") (234:Nat)), none, (Value.ref (136:Nat)), Value.none, (0:Nat)⟩), #[]⟩) ::
  ((nat_lit 138), ⟨(Value.type "tuple"), none, (Data.seq #[] (0:Nat)), #[]⟩) ::
  ((nat_lit 140), ⟨(Value.type "tuple"), none, (Data.seq #[(Value.str (Str.ofString "self") (359:Nat)), (Value.str (Str.ofString "name") (360:Nat)), (Value.str (Str.ofString "found") (361:Nat)), (Value.str (Str.ofString "union") (362:Nat))] (0:Nat)), #[]⟩) ::
  ((nat_lit 141), ⟨(Value.type "tuple"), none, (Data.seq #[] (0:Nat)), #[]⟩) ::
  ((nat_lit 143), ⟨(Value.type "code"), none, (Data.fields #[(Value.str (Str.ofString "parents") (356:Nat)), (Value.str (Str.ofString "ClassTable.parents") (357:Nat)), (Value.str (Str.ofString "/claim/cut.py") (358:Nat)), (Value.int 71 (0:Nat)), (Value.int 2 (0:Nat)), (Value.int 0 (0:Nat)), (Value.int 0 (0:Nat)), (Value.int 3 (0:Nat)), (Value.ref (138:Nat)), (Value.bool Bool.true), (Value.int 181 (0:Nat)), (Value.ref (139:Nat)), Value.none, (Value.ref (140:Nat)), (Value.ref (141:Nat)), (Value.ref (142:Nat)), (Value.int 363 (0:Nat)), (Value.int 71 (0:Nat)), (Value.str (Str.ofString "/claim/cut.py") (364:Nat))]), #[]⟩) ::
  ((nat_lit 144), ⟨(Value.type "function"), none, (Data.func ⟨(Str.ofString "parents"), (Str.ofString "ClassTable.parents"), p11, (FuncBody.stmts b11), s11, (3:Nat), [], Value.none, Value.none, Value.none, (Value.str (Str.ofString "vectorcove.s4classes") (234:Nat)), none, (Value.ref (143:Nat)), Value.none, (0:Nat)⟩), #[]⟩) ::
  ((nat_lit 145), ⟨(Value.type "tuple"), none, (Data.seq #[] (0:Nat)), #[]⟩) ::
  ((nat_lit 147), ⟨(Value.type "tuple"), none, (Data.seq #[(Value.str (Str.ofString "self") (369:Nat)), (Value.str (Str.ofString "name") (370:Nat)), (Value.str (Str.ofString "rows") (371:Nat)), (Value.str (Str.ofString "seen") (372:Nat)), (Value.str (Str.ofString "at") (373:Nat)), (Value.str (Str.ofString "one") (374:Nat)), (Value.str (Str.ofString "steps") (375:Nat)), (Value.str (Str.ofString "parent") (376:Nat))] (0:Nat)), #[]⟩) ::
  ((nat_lit 148), ⟨(Value.type "tuple"), none, (Data.seq #[] (0:Nat)), #[]⟩) ::
  ((nat_lit 150), ⟨(Value.type "code"), none, (Data.fields #[(Value.str (Str.ofString "supers") (366:Nat)), (Value.str (Str.ofString "ClassTable.supers") (367:Nat)), (Value.str (Str.ofString "/claim/cut.py") (368:Nat)), (Value.int 82 (0:Nat)), (Value.int 2 (0:Nat)), (Value.int 0 (0:Nat)), (Value.int 0 (0:Nat)), (Value.int 3 (0:Nat)), (Value.ref (145:Nat)), (Value.bool Bool.true), (Value.int 181 (0:Nat)), (Value.ref (146:Nat)), Value.none, (Value.ref (147:Nat)), (Value.ref (148:Nat)), (Value.ref (149:Nat)), (Value.int 377 (0:Nat)), (Value.int 82 (0:Nat)), (Value.str (Str.ofString "/claim/cut.py") (378:Nat))]), #[]⟩) ::
  ((nat_lit 151), ⟨(Value.type "function"), none, (Data.func ⟨(Str.ofString "supers"), (Str.ofString "ClassTable.supers"), p12, (FuncBody.stmts b12), s12, (3:Nat), [], Value.none, Value.none, Value.none, (Value.str (Str.ofString "vectorcove.s4classes") (234:Nat)), none, (Value.ref (150:Nat)), Value.none, (0:Nat)⟩), #[]⟩) ::
  ((nat_lit 152), ⟨(Value.type "tuple"), none, (Data.seq #[] (0:Nat)), #[]⟩) ::
  ((nat_lit 154), ⟨(Value.type "tuple"), none, (Data.seq #[(Value.str (Str.ofString "self") (383:Nat)), (Value.str (Str.ofString "sub") (384:Nat)), (Value.str (Str.ofString "super_name") (385:Nat)), (Value.str (Str.ofString "name") (386:Nat)), (Value.str (Str.ofString "steps") (387:Nat))] (0:Nat)), #[]⟩) ::
  ((nat_lit 155), ⟨(Value.type "tuple"), none, (Data.seq #[] (0:Nat)), #[]⟩) ::
  ((nat_lit 157), ⟨(Value.type "code"), none, (Data.fields #[(Value.str (Str.ofString "distance") (380:Nat)), (Value.str (Str.ofString "ClassTable.distance") (381:Nat)), (Value.str (Str.ofString "/claim/cut.py") (382:Nat)), (Value.int 97 (0:Nat)), (Value.int 3 (0:Nat)), (Value.int 0 (0:Nat)), (Value.int 0 (0:Nat)), (Value.int 3 (0:Nat)), (Value.ref (152:Nat)), (Value.bool Bool.true), (Value.int 181 (0:Nat)), (Value.ref (153:Nat)), Value.none, (Value.ref (154:Nat)), (Value.ref (155:Nat)), (Value.ref (156:Nat)), (Value.int 388 (0:Nat)), (Value.int 97 (0:Nat)), (Value.str (Str.ofString "/claim/cut.py") (389:Nat))]), #[]⟩) ::
  ((nat_lit 158), ⟨(Value.type "function"), none, (Data.func ⟨(Str.ofString "distance"), (Str.ofString "ClassTable.distance"), p13, (FuncBody.stmts b13), s13, (3:Nat), [], Value.none, Value.none, Value.none, (Value.str (Str.ofString "vectorcove.s4classes") (234:Nat)), none, (Value.ref (157:Nat)), Value.none, (0:Nat)⟩), #[]⟩) ::
  ((nat_lit 159), ⟨(Value.type "tuple"), none, (Data.seq #[] (0:Nat)), #[]⟩) ::
  ((nat_lit 161), ⟨(Value.type "tuple"), none, (Data.seq #[(Value.str (Str.ofString "self") (394:Nat)), (Value.str (Str.ofString "name") (395:Nat)), (Value.str (Str.ofString "found") (396:Nat)), (Value.str (Str.ofString "seen") (397:Nat)), (Value.str (Str.ofString "one") (398:Nat)), (Value.str (Str.ofString "steps") (399:Nat)), (Value.str (Str.ofString "rows") (400:Nat)), (Value.str (Str.ofString "slot") (401:Nat)), (Value.str (Str.ofString "kind") (402:Nat))] (0:Nat)), #[]⟩) ::
  ((nat_lit 162), ⟨(Value.type "tuple"), none, (Data.seq #[] (0:Nat)), #[]⟩) ::
  ((nat_lit 164), ⟨(Value.type "code"), none, (Data.fields #[(Value.str (Str.ofString "slots_of") (391:Nat)), (Value.str (Str.ofString "ClassTable.slots_of") (392:Nat)), (Value.str (Str.ofString "/claim/cut.py") (393:Nat)), (Value.int 105 (0:Nat)), (Value.int 2 (0:Nat)), (Value.int 0 (0:Nat)), (Value.int 0 (0:Nat)), (Value.int 3 (0:Nat)), (Value.ref (159:Nat)), (Value.bool Bool.true), (Value.int 181 (0:Nat)), (Value.ref (160:Nat)), Value.none, (Value.ref (161:Nat)), (Value.ref (162:Nat)), (Value.ref (163:Nat)), (Value.int 403 (0:Nat)), (Value.int 105 (0:Nat)), (Value.str (Str.ofString "/claim/cut.py") (404:Nat))]), #[]⟩) ::
  ((nat_lit 165), ⟨(Value.type "function"), none, (Data.func ⟨(Str.ofString "slots_of"), (Str.ofString "ClassTable.slots_of"), p14, (FuncBody.stmts b14), s14, (3:Nat), [], Value.none, Value.none, Value.none, (Value.str (Str.ofString "vectorcove.s4classes") (234:Nat)), none, (Value.ref (164:Nat)), Value.none, (0:Nat)⟩), #[]⟩) ::
  ((nat_lit 166), ⟨(Value.type "tuple"), none, (Data.seq #[(Value.str (Str.ofString "classes") (406:Nat)), (Value.str (Str.ofString "unions") (407:Nat))] (0:Nat)), #[]⟩) ::
  ((nat_lit 167), ⟨(Value.type "dict"), none, (Data.dict #[⟨(PyData.keyHash P (Str.ofString "__module__")), (Value.str (Str.ofString "__module__") (301:Nat)), (Value.str (Str.ofString "vectorcove.s4classes") (234:Nat))⟩, ⟨(PyData.keyHash P (Str.ofString "__firstlineno__")), (Value.str (Str.ofString "__firstlineno__") (305:Nat)), (Value.int 38 (304:Nat))⟩, ⟨(PyData.keyHash P (Str.ofString "__init__")), (Value.str (Str.ofString "__init__") (312:Nat)), (Value.ref (102:Nat))⟩, ⟨(PyData.keyHash P (Str.ofString "define")), (Value.str (Str.ofString "define") (321:Nat)), (Value.ref (109:Nat))⟩, ⟨(PyData.keyHash P (Str.ofString "set_union")), (Value.str (Str.ofString "set_union") (331:Nat)), (Value.ref (116:Nat))⟩, ⟨(PyData.keyHash P (Str.ofString "get")), (Value.str (Str.ofString "get") (339:Nat)), (Value.ref (123:Nat))⟩, ⟨(PyData.keyHash P (Str.ofString "basic")), (Value.str (Str.ofString "basic") (347:Nat)), (Value.ref (130:Nat))⟩, ⟨(PyData.keyHash P (Str.ofString "known")), (Value.str (Str.ofString "known") (355:Nat)), (Value.ref (137:Nat))⟩, ⟨(PyData.keyHash P (Str.ofString "parents")), (Value.str (Str.ofString "parents") (365:Nat)), (Value.ref (144:Nat))⟩, ⟨(PyData.keyHash P (Str.ofString "supers")), (Value.str (Str.ofString "supers") (379:Nat)), (Value.ref (151:Nat))⟩, ⟨(PyData.keyHash P (Str.ofString "distance")), (Value.str (Str.ofString "distance") (390:Nat)), (Value.ref (158:Nat))⟩, ⟨(PyData.keyHash P (Str.ofString "slots_of")), (Value.str (Str.ofString "slots_of") (405:Nat)), (Value.ref (165:Nat))⟩, ⟨(PyData.keyHash P (Str.ofString "__static_attributes__")), (Value.str (Str.ofString "__static_attributes__") (408:Nat)), (Value.ref (166:Nat))⟩, ⟨(PyData.keyHash P (Str.ofString "__dict__")), (Value.str (Str.ofString "__dict__") (410:Nat)), (Value.ref (169:Nat))⟩, ⟨(PyData.keyHash P (Str.ofString "__weakref__")), (Value.str (Str.ofString "__weakref__") (412:Nat)), (Value.ref (170:Nat))⟩, ⟨(PyData.keyHash P (Str.ofString "__doc__")), (Value.str (Str.ofString "__doc__") (413:Nat)), Value.none⟩] (4:Nat)), #[]⟩) ::
  ((nat_lit 168), ⟨(Value.type "type"), none, (Data.cls ⟨(Str.ofString "ClassTable"), [(Value.type "object")], [(Value.ref (168:Nat)), (Value.type "object")], (167:Nat), (Str.ofString "ClassTable"), Bool.true, [], [], Bool.false, none, Bool.false⟩), #[none, none, (some (Value.str (Str.ofString "ClassTable") (294:Nat))), (some (Value.str (Str.ofString "ClassTable") (302:Nat))), (some (Value.builtin "object.__new__")), (some (Value.bool Bool.true))]⟩) ::
  ((nat_lit 169), ⟨(Value.type "getset_descriptor"), none, (Data.fields #[(Value.str (Str.ofString "__dict__") (409:Nat)), (Value.ref (168:Nat)), (Value.builtin "function.__dict__"), (Value.builtin "function.__dict__#set")]), #[]⟩) ::
  ((nat_lit 170), ⟨(Value.type "getset_descriptor"), none, (Data.fields #[(Value.str (Str.ofString "__weakref__") (411:Nat)), (Value.ref (168:Nat)), (Value.builtin "ExceptionGroup.__weakref__"), Value.none]), #[]⟩) ::
  ((nat_lit 173), ⟨(Value.type "tuple"), none, (Data.seq #[] (0:Nat)), #[]⟩) ::
  ((nat_lit 175), ⟨(Value.type "tuple"), none, (Data.seq #[(Value.str (Str.ofString "table") (419:Nat)), (Value.str (Str.ofString "c") (420:Nat)), (Value.str (Str.ofString "seen") (421:Nat)), (Value.str (Str.ofString "slot") (422:Nat)), (Value.str (Str.ofString "kind") (423:Nat)), (Value.str (Str.ofString "parent") (424:Nat))] (0:Nat)), #[]⟩) ::
  ((nat_lit 176), ⟨(Value.type "tuple"), none, (Data.seq #[] (0:Nat)), #[]⟩) ::
  ((nat_lit 178), ⟨(Value.type "code"), none, (Data.fields #[(Value.str (Str.ofString "check_slots") (416:Nat)), (Value.str (Str.ofString "check_slots") (417:Nat)), (Value.str (Str.ofString "/claim/cut.py") (418:Nat)), (Value.int 120 (0:Nat)), (Value.int 2 (0:Nat)), (Value.int 0 (0:Nat)), (Value.int 0 (0:Nat)), (Value.int 3 (0:Nat)), (Value.ref (173:Nat)), (Value.bool Bool.true), (Value.int 181 (0:Nat)), (Value.ref (174:Nat)), Value.none, (Value.ref (175:Nat)), (Value.ref (176:Nat)), (Value.ref (177:Nat)), (Value.int 425 (0:Nat)), (Value.int 120 (0:Nat)), (Value.str (Str.ofString "/claim/cut.py") (426:Nat))]), #[]⟩) ::
  ((nat_lit 179), ⟨(Value.type "function"), none, (Data.func ⟨(Str.ofString "check_slots"), (Str.ofString "check_slots"), p15, (FuncBody.stmts b15), s15, (3:Nat), [], Value.none, Value.none, Value.none, (Value.str (Str.ofString "vectorcove.s4classes") (234:Nat)), none, (Value.ref (178:Nat)), Value.none, (0:Nat)⟩), #[]⟩) ::
  ((nat_lit 180), ⟨(Value.type "tuple"), none, (Data.seq #[] (0:Nat)), #[]⟩) ::
  ((nat_lit 182), ⟨(Value.type "tuple"), none, (Data.seq #[(Value.str (Str.ofString "hand") (433:Nat)), (Value.str (Str.ofString "limit") (434:Nat)), (Value.str (Str.ofString "figure") (435:Nat)), (Value.str (Str.ofString "digit") (436:Nat))] (0:Nat)), #[]⟩) ::
  ((nat_lit 183), ⟨(Value.type "tuple"), none, (Data.seq #[] (0:Nat)), #[]⟩) ::
  ((nat_lit 185), ⟨(Value.type "code"), none, (Data.fields #[(Value.str (Str.ofString "_law_pick") (430:Nat)), (Value.str (Str.ofString "_law_pick") (431:Nat)), (Value.str (Str.ofString "/claim/cut.py") (432:Nat)), (Value.int 131 (0:Nat)), (Value.int 2 (0:Nat)), (Value.int 0 (0:Nat)), (Value.int 0 (0:Nat)), (Value.int 3 (0:Nat)), (Value.ref (180:Nat)), (Value.bool Bool.true), (Value.int 181 (0:Nat)), (Value.ref (181:Nat)), Value.none, (Value.ref (182:Nat)), (Value.ref (183:Nat)), (Value.ref (184:Nat)), (Value.int 437 (0:Nat)), (Value.int 131 (0:Nat)), (Value.str (Str.ofString "/claim/cut.py") (438:Nat))]), #[]⟩) ::
  ((nat_lit 186), ⟨(Value.type "function"), none, (Data.func ⟨(Str.ofString "_law_pick"), (Str.ofString "_law_pick"), p16, (FuncBody.stmts b16), s16, (3:Nat), [], Value.none, Value.none, Value.none, (Value.str (Str.ofString "law_ov0052_01") (428:Nat)), none, (Value.ref (185:Nat)), Value.none, (0:Nat)⟩), #[]⟩) ::
  ((nat_lit 187), ⟨(Value.type "tuple"), none, (Data.seq #[] (0:Nat)), #[]⟩) ::
  ((nat_lit 189), ⟨(Value.type "tuple"), none, (Data.seq #[(Value.str (Str.ofString "direct") (443:Nat)), (Value.str (Str.ofString "unions") (444:Nat)), (Value.str (Str.ofString "near") (445:Nat)), (Value.str (Str.ofString "name") (446:Nat)), (Value.str (Str.ofString "one") (447:Nat))] (0:Nat)), #[]⟩) ::
  ((nat_lit 190), ⟨(Value.type "tuple"), none, (Data.seq #[] (0:Nat)), #[]⟩) ::
  ((nat_lit 192), ⟨(Value.type "code"), none, (Data.fields #[(Value.str (Str.ofString "_law_near") (440:Nat)), (Value.str (Str.ofString "_law_near") (441:Nat)), (Value.str (Str.ofString "/claim/cut.py") (442:Nat)), (Value.int 142 (0:Nat)), (Value.int 2 (0:Nat)), (Value.int 0 (0:Nat)), (Value.int 0 (0:Nat)), (Value.int 3 (0:Nat)), (Value.ref (187:Nat)), (Value.bool Bool.true), (Value.int 181 (0:Nat)), (Value.ref (188:Nat)), Value.none, (Value.ref (189:Nat)), (Value.ref (190:Nat)), (Value.ref (191:Nat)), (Value.int 448 (0:Nat)), (Value.int 142 (0:Nat)), (Value.str (Str.ofString "/claim/cut.py") (449:Nat))]), #[]⟩) ::
  ((nat_lit 193), ⟨(Value.type "function"), none, (Data.func ⟨(Str.ofString "_law_near"), (Str.ofString "_law_near"), p17, (FuncBody.stmts b17), s17, (3:Nat), [], Value.none, Value.none, Value.none, (Value.str (Str.ofString "law_ov0052_01") (428:Nat)), none, (Value.ref (192:Nat)), Value.none, (0:Nat)⟩), #[]⟩) ::
  ((nat_lit 194), ⟨(Value.type "tuple"), none, (Data.seq #[] (0:Nat)), #[]⟩) ::
  ((nat_lit 196), ⟨(Value.type "tuple"), none, (Data.seq #[(Value.str (Str.ofString "near") (454:Nat)), (Value.str (Str.ofString "names") (455:Nat)), (Value.str (Str.ofString "ways") (456:Nat)), (Value.str (Str.ofString "one") (457:Nat)), (Value.str (Str.ofString "other") (458:Nat)), (Value.str (Str.ofString "middle") (459:Nat)), (Value.str (Str.ofString "through") (460:Nat))] (0:Nat)), #[]⟩) ::
  ((nat_lit 197), ⟨(Value.type "tuple"), none, (Data.seq #[] (0:Nat)), #[]⟩) ::
  ((nat_lit 199), ⟨(Value.type "code"), none, (Data.fields #[(Value.str (Str.ofString "_law_ways") (451:Nat)), (Value.str (Str.ofString "_law_ways") (452:Nat)), (Value.str (Str.ofString "/claim/cut.py") (453:Nat)), (Value.int 153 (0:Nat)), (Value.int 1 (0:Nat)), (Value.int 0 (0:Nat)), (Value.int 0 (0:Nat)), (Value.int 3 (0:Nat)), (Value.ref (194:Nat)), (Value.bool Bool.true), (Value.int 181 (0:Nat)), (Value.ref (195:Nat)), Value.none, (Value.ref (196:Nat)), (Value.ref (197:Nat)), (Value.ref (198:Nat)), (Value.int 461 (0:Nat)), (Value.int 153 (0:Nat)), (Value.str (Str.ofString "/claim/cut.py") (462:Nat))]), #[]⟩) ::
  ((nat_lit 200), ⟨(Value.type "function"), none, (Data.func ⟨(Str.ofString "_law_ways"), (Str.ofString "_law_ways"), p18, (FuncBody.stmts b18), s18, (3:Nat), [], Value.none, Value.none, Value.none, (Value.str (Str.ofString "law_ov0052_01") (428:Nat)), none, (Value.ref (199:Nat)), Value.none, (0:Nat)⟩), #[]⟩) ::
  ((nat_lit 201), ⟨(Value.type "tuple"), none, (Data.seq #[] (0:Nat)), #[]⟩) ::
  ((nat_lit 204), ⟨(Value.type "code"), none, (Data.fields #[(Value.str (Str.ofString "_law_right") (464:Nat)), (Value.str (Str.ofString "_law_right") (465:Nat)), (Value.str (Str.ofString "/claim/cut.py") (466:Nat)), (Value.int 166 (0:Nat)), (Value.int 3 (0:Nat)), (Value.int 0 (0:Nat)), (Value.int 0 (0:Nat)), (Value.int 3 (0:Nat)), (Value.ref (201:Nat)), (Value.bool Bool.true), (Value.int 181 (0:Nat)), (Value.ref (202:Nat)), Value.none, Value.none, Value.none, (Value.ref (203:Nat)), (Value.int 467 (0:Nat)), (Value.int 166 (0:Nat)), (Value.str (Str.ofString "/claim/cut.py") (468:Nat))]), #[]⟩) ::
  ((nat_lit 205), ⟨(Value.type "function"), none, (Data.func ⟨(Str.ofString "_law_right"), (Str.ofString "_law_right"), p19, (FuncBody.stmts b19), s19, (3:Nat), [], Value.none, Value.none, Value.none, (Value.str (Str.ofString "law_ov0052_01") (428:Nat)), none, (Value.ref (204:Nat)), Value.none, (0:Nat)⟩), #[]⟩) ::
  ((nat_lit 206), ⟨(Value.type "tuple"), none, (Data.seq #[] (0:Nat)), #[]⟩) ::
  ((nat_lit 209), ⟨(Value.type "code"), none, (Data.fields #[(Value.str (Str.ofString "law") (470:Nat)), (Value.str (Str.ofString "law") (471:Nat)), (Value.str (Str.ofString "/claim/cut.py") (472:Nat)), (Value.int 185 (0:Nat)), (Value.int 1 (0:Nat)), (Value.int 0 (0:Nat)), (Value.int 0 (0:Nat)), (Value.int 3 (0:Nat)), (Value.ref (206:Nat)), (Value.bool Bool.true), (Value.int 181 (0:Nat)), (Value.ref (207:Nat)), Value.none, Value.none, Value.none, (Value.ref (208:Nat)), (Value.int 473 (0:Nat)), (Value.int 185 (0:Nat)), (Value.str (Str.ofString "/claim/cut.py") (474:Nat))]), #[]⟩) ::
  ((nat_lit 210), ⟨(Value.type "function"), none, (Data.func ⟨(Str.ofString "law"), (Str.ofString "law"), p20, (FuncBody.stmts b20), ⟨ScopeKind.function, [((Str.ofString "script"), NameKind.local), ((Str.ofString "cells"), NameKind.local), ((Str.ofString "hand"), NameKind.local), ((Str.ofString "table"), NameKind.local), ((Str.ofString "direct"), NameKind.cell), ((Str.ofString "made"), NameKind.local), ((Str.ofString "at"), NameKind.local), ((Str.ofString "name"), NameKind.local), ((Str.ofString "contains"), NameKind.local), ((Str.ofString "_"), NameKind.local), ((Str.ofString "pool"), NameKind.local), ((Str.ofString "one"), NameKind.local), ((Str.ofString "unions"), NameKind.local), ((Str.ofString "inside"), NameKind.local), ((Str.ofString "near"), NameKind.local), ((Str.ofString "ways"), NameKind.local), ((Str.ofString "lower"), NameKind.local), ((Str.ofString "low"), NameKind.local), ((Str.ofString "which"), NameKind.local), ((Str.ofString "high"), NameKind.local), ((Str.ofString "after"), NameKind.local), ((Str.ofString "other"), NameKind.local), ((Str.ofString "sum"), NameKind.globalImplicit), ((Str.ofString "ClassTable"), NameKind.globalImplicit), ((Str.ofString "range"), NameKind.globalImplicit), ((Str.ofString "_law_pick"), NameKind.globalImplicit), ((Str.ofString "str"), NameKind.globalImplicit), ((Str.ofString "len"), NameKind.globalImplicit), ((Str.ofString "S4Class"), NameKind.globalImplicit), ((Str.ofString "list"), NameKind.globalImplicit), ((Str.ofString "_law_near"), NameKind.globalImplicit), ((Str.ofString "_law_ways"), NameKind.globalImplicit), ((Str.ofString "_law_right"), NameKind.globalImplicit), ((Str.ofString "max"), NameKind.globalImplicit)], Bool.false, Bool.false, [((Str.ofString "fast"), (Const.str (Str.ofString "script"))), ((Str.ofString "fast"), (Const.str (Str.ofString "cells"))), ((Str.ofString "fast"), (Const.str (Str.ofString "hand"))), ((Str.ofString "fast"), (Const.str (Str.ofString "table"))), ((Str.ofString "fast"), (Const.str (Str.ofString "direct"))), ((Str.ofString "fast"), (Const.str (Str.ofString "made"))), ((Str.ofString "fast"), (Const.str (Str.ofString "at"))), ((Str.ofString "fast"), (Const.str (Str.ofString "name"))), ((Str.ofString "fast"), (Const.str (Str.ofString "contains"))), ((Str.ofString "fast"), (Const.str (Str.ofString "_"))), ((Str.ofString "fast"), (Const.str (Str.ofString "pool"))), ((Str.ofString "fast"), (Const.str (Str.ofString "one"))), ((Str.ofString "fast"), (Const.str (Str.ofString "unions"))), ((Str.ofString "fast"), (Const.str (Str.ofString "inside"))), ((Str.ofString "fast"), (Const.str (Str.ofString "near"))), ((Str.ofString "fast"), (Const.str (Str.ofString "ways"))), ((Str.ofString "fast"), (Const.str (Str.ofString "lower"))), ((Str.ofString "fast"), (Const.str (Str.ofString "low"))), ((Str.ofString "fast"), (Const.str (Str.ofString "which"))), ((Str.ofString "fast"), (Const.str (Str.ofString "high"))), ((Str.ofString "fast"), (Const.str (Str.ofString "after"))), ((Str.ofString "fast"), (Const.str (Str.ofString "other")))]⟩, (3:Nat), [], Value.none, Value.none, Value.none, (Value.str (Str.ofString "law_ov0052_01") (428:Nat)), none, (Value.ref (209:Nat)), Value.none, (0:Nat)⟩), #[]⟩) :: [] : List (Nat × Obj))) rfl rfl rfl rfl rfl rfl rfl rfl rfl rfl rfl rfl rfl rfl rfl rfl rfl rfl rfl rfl rfl

noncomputable def VW : Program := { RO.prog with main := { RO.prog.main with body := [1, 2, 4, 5, 6, 7, 8, 9, 11, 12, 13, 14, 15].filterMap (tops[·]?) } }
noncomputable def KA : List Addr := [2, 3, 15, 22, 23, 24, 25, 28, 35, 37, 38, 40, 41, 42, 43, 44, 54, 56, 57, 59, 60, 61, 62, 63, 64, 65, 68, 70, 71, 73, 74, 75, 77, 78, 80, 81, 82, 84, 85, 87, 88, 96, 98, 99, 101, 102, 103, 105, 106, 108, 109, 110, 112, 113, 115, 116, 117, 119, 120, 122, 123, 124, 126, 127, 129, 130, 131, 133, 134, 136, 137, 138, 140, 141, 143, 144, 145, 147, 148, 150, 151, 152, 154, 155, 157, 158, 159, 161, 162, 164, 165, 166, 167, 168, 169, 170, 173, 175, 176, 178, 179, 180, 182, 183, 185, 186, 187, 189, 190, 192, 193, 194, 196, 197, 199, 200, 201, 204, 205, 206, 209, 210]
theorem hl : LeftO RO.prog VW [] (fun s => xlAt VW [] s && recOk (RowW.records RO) s) (Hook.obs (kHook KF KA (fun _ => rfl))) (Hook.val (kHook KF KA (fun _ => rfl))) 3130 := by
  intro w
  kernel_rfl
theorem ws : PySem.Challenge.rw_ov0052_01.wellSaid = true := by
  repeat' (first | with_reducible refine look_both ?_ ?_ | unfold OpenLaw.wellSaid | unfold OpenRow.wellSaid | unfold OpenRow.partSaid | unfold looksOpen)
  all_goals decide +kernel
theorem hd {d : DefRec} {kwd : List (Str × Expr)} (hdef : defOf VW PySem.Challenge.rw_ov0052_01.row.toRowW.name = some (d, kwd))
    (hp : PySem.Challenge.rw_ov0052_01.row.toRowW.prog.theDef PySem.Challenge.rw_ov0052_01.row.toRowW.name = some (d.params, d.body, d.scope)) (hk : kwWritten? d.params.kwonlyargs d.params.kw_defaults = some kwd)
    (call : WalkO VW [] (XL VW []) (kHook KF KA (fun _ => rfl)).says PySem.Challenge.rw_ov0052_01.row.toRowW d kwd fun f vs => PySem.call f vs) : PySem.Challenge.rw_ov0052_01.Holds := by
  w_on
  refine holds_law ws fun said => ?_
  refine holds_open (q := VW) (loose := []) (Xt := fun s => xlAt VW [] s && recOk (RowW.records RO) s) (XP := XL VW []) (Yf := Hook.obs (kHook KF KA (fun _ => rfl))) (Ya := Hook.val (kHook KF KA (fun _ => rfl))) (YP := Hook.says (kHook KF KA (fun _ => rfl))) (N := 3130) hl (Hook.of _) (Hook.keeps _) (fun s e => xl_of s (Bool.and_eq_true_iff.mp e).1) XL.keeps hdef hp hk (fun s e => recFacts_of (Bool.and_eq_true_iff.mp e).2) (by rfl) (by first | assumption | decide +kernel) (by decide +kernel) ⟨rfl, rfl, rfl, rfl, rfl, by decide +kernel⟩ ?hw call
  case hw => w_witness2
theorem fillK_0 : (PySem.Challenge.rw_ov0052_01 = PySem.Challenge.rw_ov0052_01) ∧ (KF = KF) := by k_fill; exact ⟨rfl, rfl⟩

abbrev PG : Program := PySem.Challenge.rw_ov0052_01.row.prog
abbrev TR (mg mb : Str → Option Value) (h : Heap) : Prop := TopRead VW (looseW VW []) mg mb h
/-- nothing of g is lost in h -/
abbrev Sub (g h : Heap) : Prop := ∀ b o, g.get? b = some o → h.get? b = some o
/-- nothing but a is lost -/
abbrev SubBut (a : Addr) (g h : Heap) : Prop := ∀ b o, b ≠ a → g.get? b = some o → h.get? b = some o

abbrev AL (n : Nat) : Around := { depth := 700 - 20 * n, units := 8000 - 200 * n, frames := none, guards := some [] }

theorem wpAL {α : Type} {M : Model} {A B : Around} {t : Sem α} {Q : α → Shared → Prop} {E : Value → Shared → Prop} {s : Shared}
    (h : wpAny M B t Q (fun _ _ => False) s) (h1 : A.handled = B.handled) (h2 : A.depth ≤ B.depth) (h3 : A.units ≤ B.units) (h4 : B.frames = none) (h5 : A.guards = B.guards) :
    wpAny M A t Q E s := fun Γ p hΓ => by
  have := h Γ p ⟨hΓ.1.trans h1, Nat.le_trans hΓ.2.1 h2, (fun l hl => by rw [h4] at hl; cases hl), (fun g hg => hΓ.2.2.2.1 g (h5.trans hg)), Nat.le_trans hΓ.2.2.2.2 h3⟩
  exact Sem.wp_mono M Γ t (fun _ _ _ x => x) (fun _ _ _ x => x.elim) p s this

theorem enterF {w : World} {A : Around} {s : Shared} {Q : Value → Shared → Prop} {g : Heap} {news : List (Addr × Obj)} {mg mb : Str → Option Value}
    {name qual : Str} {params : Arguments} {body : List Stmt} {scope : Scope} {dV kV doc pm cdv ct oc : Value} {an od : Option Addr} {osl : Array (Option Value)} {f : Addr} {args : List Value} {binds : List (Str × Value)}
    (X : (KF w.params).In g) (T : TR mg mb g) (st : Sub g s.heap) (sz : g.objs.size ≤ s.heap.objs.size) (N : ∀ p ∈ news, s.heap.get? p.1 = some p.2 ∧ g.get? p.1 = none)
    (ho : (KF w.params).lookup f = some ⟨oc, od, .func (fnOf name qual params body scope dV kV doc pm an cdv ct), osl⟩) (hcd : codeIn (KF w.params) cdv qual = true) (hroom : A.depth < recursionLimit)
    (hbind : bindArgs (fnOf name qual params body scope dV kV doc pm an cdv ct) ⟨args, []⟩ = pure binds) (hloc : ∀ y ∈ binds, scope.names.lookup y.1 = some .local)
    (h : ∀ h₁, Fr g s.heap.objs.size h₁ (fun y => binds.reverse.lookup y) → News g s.heap.objs.size h₁ news →
      wpAny (model PG w) (A.deeper (envOf qual scope s.heap.objs.size f cdv)) (execs body (envOf qual scope s.heap.objs.size f cdv))
        (fun fl s' => Q (match fl with | .ret v => v | _ => .none) s') (fun _ _ => False) { s with heap := h₁, toks := s.toks + binds.length })
    (hco : scope.isCoroutine = false) (hgen : scope.isGenerator = false) (hk : scope.kind = .function) (hcell : ∀ x ∈ scope.names, x.2 ≠ .cell) :
    wpAny (model PG w) A (call (.ref f) args) Q (fun _ _ => False) s := by
  refine wpAny_call (codeAny_call_def (fd := fnOf name qual params body scope dV kV doc pm an cdv ct) (body := body) (binds := binds) hroom (st _ _ (X _ _ ho)) rfl (T.nolimit.keeps st) (codeRec_of (Frag.In.keeps X st) hcd) rfl (.of_eq hbind) hcell hloc (fun h₁ hns hk₁ => ?_) hco hgen hk)
  refine wpAny_mono (h h₁ ⟨hns, fun b o e => hk₁ b o (st b o e), sz⟩ fun p hp => ⟨hk₁ _ _ (N p hp).1, Nat.ne_of_lt (Heap.lt_size (N p hp).1), (N p hp).2⟩) (fun fl s' hl => hl) fun _ _ x => x.elim

theorem sub_hide {g h : Heap} {a : Addr} (st : Sub g h) (e : g.get? a = none) : Sub g (h.hide a) := fun b o q => by
  have : b ≠ a := fun z => by rw [z, e] at q; cases q
  rw [Heap.hide_ne h this]; exact st b o q
theorem sub_of_hide {h : Heap} {a : Addr} : Sub (h.hide a) h := fun _ _ e => Heap.of_hide e
theorem subBut_of {h h' : Heap} {a : Addr} (k : Sub (h.hide a) h') : SubBut a h h' := fun b o n e => k b o ((Heap.hide_ne h n).trans e)
theorem Sub.but {a : Addr} {g h : Heap} (k : Sub g h) : SubBut a g h := fun b o _ e => k b o e
theorem SubBut.trans {a : Addr} {g h k : Heap} (x : SubBut a g h) (y : SubBut a h k) : SubBut a g k := fun b o n e => y b o n (x b o n e)

theorem afterUpd {h₀ h h' : Heap} {L a : Addr} {m : Str → Option Value} {news : List (Addr × Obj)} {o o' : Obj} {gf : Obj → List (Addr × Obj)}
    (F : Fr h₀ L h m) (N : News h₀ L h news) (U : UpdF a o news gf) (k : SubBut a h h') (ho : h'.get? a = some o') : Fr h₀ L h' m ∧ News h₀ L h' (gf o') := by
  obtain ⟨pre, post, rfl, hg, h1, h2⟩ := U.split
  have z := N (a, o) (List.mem_append_right _ (.head _))
  refine ⟨⟨?_, fun b x e => k b x (fun q => ?_) (F.keep b x e), F.above⟩, ?_⟩
  · obtain ⟨oL, es, ep, hL, r⟩ := F.ns
    exact ⟨oL, es, ep, k _ _ (Ne.symm z.2.1) hL, r⟩
  · have := z.2.2; rw [← q, e] at this; cases this
  · rw [hg]
    intro p hp
    rcases List.mem_append.mp hp with hp | hp
    · have P := N p (List.mem_append_left _ hp)
      exact ⟨k _ _ (h1 p hp) P.1, P.2⟩
    · rcases List.mem_cons.mp hp with rfl | hp
      · exact ⟨ho, z.2⟩
      · have P := N p (List.mem_append_right _ (.tail _ hp))
        exact ⟨k _ _ (h2 p hp) P.1, P.2⟩
theorem led0 {g h : Heap} : ∀ p ∈ ([] : List (Addr × Obj)), h.get? p.1 = some p.2 ∧ g.get? p.1 = none := fun _ hp => nomatch hp
theorem led1 {g h : Heap} {a : Addr} {o : Obj} (h1 : h.get? a = some o) (h2 : g.get? a = none) : ∀ p ∈ [(a, o)], h.get? p.1 = some p.2 ∧ g.get? p.1 = none := fun _ hp => by
  rw [List.mem_singleton.mp hp]; exact ⟨h1, h2⟩

noncomputable def AllNe (a : Nat) : List (Addr × Obj) → Prop
  | [] => True
  | p :: r => @Ne Nat p.1 a ∧ AllNe a r
theorem allNe_of {a : Addr} : ∀ {l : List (Addr × Obj)}, (∀ p ∈ l, p.1 ≠ a) → AllNe a l
  | [], _ => trivial
  | p :: _, h => ⟨h p (.head _), allNe_of fun q hq => h q (.tail _ hq)⟩
theorem led_new {h₀ h h' : Heap} {L a : Addr} {m : Str → Option Value} {news : List (Addr × Obj)} {o : Obj} (F : Fr h₀ L h m) (N : News h₀ L h news) (k : Sub h h') (ha : h.get? a = none) (ho : h'.get? a = some o) :
    Fr h₀ L h' m ∧ News h₀ L h' ((a, o) :: news) ∧ AllNe a news := by
  refine ⟨F.keeps k, ?_, allNe_of fun p hp e => ?_⟩
  · intro p hp
    rcases List.mem_cons.mp hp with rfl | hp
    · refine ⟨ho, fun e => ?_, ?_⟩
      · obtain ⟨oL, _, _, hL, _⟩ := F.ns
        have e' : a = L := e
        rw [e', hL] at ha; cases ha
      · cases q : h₀.get? a with
        | none => rfl
        | some x => rw [F.keep _ _ q] at ha; cases ha
    · exact ⟨k _ _ (N p hp).1, (N p hp).2⟩
  · have := (N p hp).1
    rw [e, ha] at this; cases this
theorem led_old {h₀ h h' : Heap} {L : Addr} {m : Str → Option Value} {news : List (Addr × Obj)} (F : Fr h₀ L h m) (N : News h₀ L h news) (k : Sub h h') : Fr h₀ L h' m ∧ News h₀ L h' news :=
  ⟨F.keeps k, fun p hp => ⟨k _ _ (N p hp).1, (N p hp).2⟩⟩
theorem instUp {h h' : Heap} {x C : Addr} {ox : Obj} {od : Option Obj} (I : InstAt h x ox C od) (k : Sub h h') : InstAt h' x ox C od := by
  obtain ⟨a, b, c, d⟩ := I
  refine ⟨k _ _ a, b, c, ?_⟩
  revert d
  cases ox.dict <;> cases od <;> intro d <;> first | exact d | exact k _ _ d
theorem Sub.trans {g h k : Heap} (x : Sub g h) (y : Sub h k) : Sub g k := fun b o e => y b o (x b o e)

local macro_rules | `(tactic| walk_at "GO") => `(tactic| repeat' (first | walk1 | (dsimp only; walk1)))
noncomputable def HandOk (o : Obj) (cl : Addr) (len : Nat) : Prop :=
  ∃ (i c z : Int) (t1 t2 t3 : Tok) (ep : Nat), o = listOf [.ref cl, .int i t1, .int c t2, .int z t3].toArray ep ∧ 0 ≤ i ∧ i ≤ len ∧ 0 ≤ c ∧ 0 ≤ z ∧ z < 2147483647

theorem hand_mk {cl : Addr} {len : Nat} {i c z : Int} {t1 t2 t3 : Tok} {ep : Nat} (i0 : 0 ≤ i) (il : i ≤ len) (c0 : 0 ≤ c) (z0 : 0 ≤ z) (z1 : z < 2147483647) : HandOk (listOf [.ref cl, .int i t1, .int c t2, .int z t3].toArray ep) cl len := ⟨i, c, z, t1, t2, t3, ep, rfl, i0, il, c0, z0, z1⟩

theorem pick_end {s : Shared} {Q : Value → Shared → Prop} {hand cl L : Addr} {len : Nat} {n d : Int} {t : Tok} {h' : Heap} {o' : Obj} {m : Str → Option Value} {tk : Nat}
    (h : ∀ h' tk d t o', 0 ≤ d → d < n → HandOk o' cl len → h'.get? hand = some o' → SubBut hand s.heap h' → Q (.int d t) { s with heap := h', toks := tk })
    (F : Fr (s.heap.hide hand) L h' m) (N : News (s.heap.hide hand) L h' [(hand, o')]) (hO : HandOk o' cl len) (x : Int) (hn : 1 ≤ n) (hd : d = x.fmod n) : Q (.int d t) { s with heap := h', toks := tk } := by
  have f := Int.fmod_nonneg_of_pos x (show (0:Int) < n by omega)
  have f2 := Int.fmod_lt_of_pos x (show (0:Int) < n by omega)
  exact h h' tk d t o' (hd ▸ f) (hd ▸ f2) hO (N _ (.head _)).1 (subBut_of F.keep)

theorem pick_spec {w : World} {s : Shared} {Q : Value → Shared → Prop} {g : Heap} {mg mb : Str → Option Value} {hand cl : Addr} {vs : List Value} {ns : List Int} {n : Int} {tn : Tok} {o : Obj}
    (X : (KF w.params).In g) (T : TR mg mb g) (st : Sub g s.heap) (hg : g.get? hand = none)
    (hh : s.heap.get? hand = some o) (hO : HandOk o cl ns.length)
    (hc : s.heap.IsList cl vs.toArray) (hne : cl ≠ hand) (hi : IntsAre vs ns) (hlen : ns.length ≤ 63) (n1 : 1 ≤ n) (n2 : n ≤ 64)
    (h : ∀ h' tk d t o', 0 ≤ d → d < n → HandOk o' cl ns.length → h'.get? hand = some o' → SubBut hand s.heap h' → Q (.int d t) { s with heap := h', toks := tk }) :
    wpAny (model PG w) (AL 0) (call (.ref 186) [.ref hand, .int n tn]) Q (fun _ _ => False) s := by
  obtain ⟨i, c, z, t1, t2, t3, ep, rfl, i0, il, c0, z0, z1⟩ := hO
  have X' := Frag.In.keeps X (sub_hide st hg)
  have T' := TopRead.keeps T (sub_hide st hg)
  have hc' : (s.heap.hide hand).IsList cl vs.toArray := let ⟨oc, e, r⟩ := hc; ⟨oc, (Heap.hide_ne _ hne).trans e, r⟩
  clear X T
  (refine' enterF ?X ?T ?st ?sz ?N (by k_is) (by k_is) (by decide) (by rfl) (by exact locs rfl) ?_ (by rfl) (by rfl) (by rfl) (by decide))
  case X => exact X'
  case T => exact T'
  case st => exact sub_of_hide
  case sz => exact Nat.le_of_eq (Heap.hide_size _ _)
  case N => exact led1 hh (Heap.hide_self _ _)
  intro h₁ F N
  walk_at "GO"
  all_goals dsimp only
  all_goals refine pick_end h (by assumption) (by assumption) (hand_mk ?_ ?_ ?_ ?_ ?_) _ n1 rfl
  all_goals first | omega | exact Int.fmod_nonneg_of_pos _ (by decide) | exact Int.fmod_lt_of_pos _ (by decide) | exact Int.fdiv_nonneg (by omega) (by omega)

noncomputable def kindNames : List Str := ["logical", "integer", "double", "numeric", "character", "list", "expression", "function"]
noncomputable def basicNames : List Str := kindNames ++ (["NULL", "ANY", "missing", "vector", "matrix", "array", "environment", "language", "name", "call", "{", "if", "for", "while", "(", "<-", "=", "formula", "factor", "data.frame", "oldClass", "pairlist"] : List Str)

theorem kinds_spec {w : World} {s : Shared} {Q : Value → Shared → Prop} {g : Heap} {mg mb : Str → Option Value}
    (X : (KF w.params).In g) (T : TR mg mb g) (st : Sub g s.heap)
    (h : ∀ h' tk a vs, Sub s.heap h' → s.heap.get? a = none → h'.get? a = some { cls := .type "tuple", data := .seq (List.toArray vs) } → StrsAre vs kindNames → Q (.ref a) { s with heap := h', toks := tk }) :
    wpAny (model PG w) (AL 0) (call (.ref 74) []) Q (fun _ _ => False) s := by
  have X' := Frag.In.keeps X st
  have T' := TopRead.keeps T st
  clear X T
  (refine' enterF ?X ?T ?st ?sz ?N (by k_is) (by k_is) (by decide) (by rfl) (by exact locs rfl) ?_ (by rfl) (by rfl) (by rfl) (by decide))
  case X => exact X'
  case T => exact T'
  case st => exact fun _ _ e => e
  case sz => exact Nat.le_refl _
  case N => exact led0
  intro h₁ F N
  walk_at "GO"
  all_goals dsimp only
  rename Fr _ _ _ _ => F
  rename News _ _ _ _ => N
  exact h _ _ _ _ F.keep (N _ (.head _)).2.2 (N _ (.head _)).1 (KTD.strs_of_look rfl)
theorem names_spec {w : World} {s : Shared} {Q : Value → Shared → Prop} {g : Heap} {mg mb : Str → Option Value}
    (X : (KF w.params).In g) (T : TR mg mb g) (st : Sub g s.heap)
    (h : ∀ h' tk a vs, Sub s.heap h' → s.heap.get? a = none → h'.get? a = some { cls := .type "tuple", data := .seq (List.toArray vs) } → StrsAre vs basicNames → Q (.ref a) { s with heap := h', toks := tk }) :
    wpAny (model PG w) (AL 1) (call (.ref 81) []) Q (fun _ _ => False) s := by
  have X' := Frag.In.keeps X st
  have T' := TopRead.keeps T st
  clear X T
  (refine' enterF ?X ?T ?st ?sz ?N (by k_is) (by k_is) (by decide) (by rfl) (by exact locs rfl) ?_ (by rfl) (by rfl) (by rfl) (by decide))
  case X => exact X'
  case T => exact T'
  case st => exact fun _ _ e => e
  case sz => exact Nat.le_refl _
  case N => exact led0
  intro h₁ F N
  (repeat' (first | (k_here; (with_reducible show wpAny _ _ (call (Value.ref 74) _ _) _ _ _); refine' wpAL (kinds_spec (by with_reducible assumption) (by with_reducible assumption) (by exact Fr.keep (by with_reducible assumption)) ?_) (by rfl) (by exact Nat.le_of_ble_eq_true rfl) (by exact Nat.le_of_ble_eq_true rfl) (by rfl) (by rfl); intro h'q tk'q a'q vs'q k'q f'q o'q S'q; (have q'q := led_new (by with_reducible assumption) (by with_reducible assumption) k'q f'q o'q); have F'q := q'q.1; have N'q := q'q.2.1; have l'q := q'q.2.2; clear q'q; (try simp only [AllNe, and_true] at l'q); k_sweep) | walk1 | (dsimp only; walk1)))
  all_goals dsimp only
  rename Fr _ _ _ _ => F
  rename News _ _ _ _ => N
  rename StrsAre _ _ => S
  have hl := S.length
  refine add_tuples F N (News.isTup N (.tail _ (.head _))) (News.isTup N (.head _)) (fun e => ?_) (fun _ e => ?_) (fun _ _ h' F' N' => ?_) ?_
  · subst e; cases hl
  · cases e
  · exact h _ _ _ _ F'.keep (N' _ (.head _)).2.2 (N' _ (.head _)).1 (S.append' (KTD.strs_of_look rfl))
  · rw [hl]; exact Nat.le_of_ble_eq_true rfl

set_option maxHeartbeats 400000
theorem allNe_mem {a : Nat} {l : List (Addr × Obj)} (h : AllNe a l) : ∀ p ∈ l, p.1 ≠ a := by
  induction l with
  | nil => intro p hp; cases hp
  | cons q r ih =>
    intro p hp
    rcases List.mem_cons.mp hp with e | hp
    · rw [e]; exact h.1
    · exact ih h.2 p hp
theorem allNe_append {a : Nat} {l r : List (Addr × Obj)} : AllNe a (l ++ r) ↔ AllNe a l ∧ AllNe a r :=
  ⟨fun h => ⟨allNe_of fun p hp => allNe_mem h p (List.mem_append_left _ hp), allNe_of fun p hp => allNe_mem h p (List.mem_append_right _ hp)⟩,
   fun h => allNe_of fun p hp => (List.mem_append.mp hp).elim (allNe_mem h.1 p) (allNe_mem h.2 p)⟩

/-- the head of a for: its iterable is known -/
noncomputable def AtFor (w : World) (A : Around) (target : Expr) (body : List Stmt) (env : Env) (Q : Flow → Shared → Prop) (v : Value) (s : Shared) : Prop :=
  wpAny (model PG w) A (pyIter v) (fun it s₂ => codeAny (model PG w) A (.forLoop target it body [] env) (fun r s' => match r with | .ok f => Q f s' | .error _ => False) s₂) (fun _ _ => False) s

theorem For_at {w : World} {A : Around} {target iter : Expr} {body : List Stmt} {env : Env} {pos : Pos} {Q : Flow → Shared → Prop} {s : Shared}
    (h : wpAny (model PG w) A (eval iter env) (AtFor w A target body env Q) (fun _ _ => False) s)
    (hs : ∀ x, foldedSetIterable iter env x = pure x := by intro _; rfl) :
    wpAny (model PG w) A (exec (.For target iter body [] pos) env) Q (fun _ _ => False) s := by
  refine wpAny_For (wpAny_mono h (fun xv s₁ h₁ => wpAny_mono h₁ (fun it s₂ h₂ => ?_) fun _ _ e => e) fun _ _ e => e) hs
  exact codeAny_mono h₂ fun r s' x => by
    cases r with
    | ok f => exact x
    | error e => exact x.elim

/-- the end of a turn -/
noncomputable def TE (h₀ : Heap) (L : Addr) (xs : List Str) (m₀ : Str → Option Value) (J : List (Addr × Obj) → Prop) (I : Addr) (own : List (Addr × Obj)) (s : Shared) (Q : Flow → Shared → Prop) (f : Flow) (s₂ : Shared) : Prop :=
  match f with
  | .ret v => Q (.ret v) s₂
  | .brk => Q .next s₂
  | _ => ∃ h' tk' m' news' nx, s₂ = { s with heap := h', toks := tk' } ∧ Fr h₀ L h' m' ∧ News h₀ L h' news' ∧ (∀ p ∈ nx, p ∈ news') ∧ (∀ p ∈ own, p ∈ news') ∧ AllNe I nx ∧ J nx ∧ ∀ y, xs.contains y = false → m' y = m₀ y

theorem TE.next {h₀ : Heap} {L : Addr} {xs : List Str} {m₀ m' : Str → Option Value} {J : List (Addr × Obj) → Prop} {I : Addr} {own news' nx : List (Addr × Obj)} {s : Shared} {Q : Flow → Shared → Prop} {h' : Heap} {tk' : Nat}
    (F : Fr h₀ L h' m') (N : News h₀ L h' news') (hn : ∀ p ∈ nx, p ∈ news') (ho : ∀ p ∈ own, p ∈ news') (hI : AllNe I nx) (hj : J nx) (hm : ∀ y, xs.contains y = false → m' y = m₀ y) :
    TE h₀ L xs m₀ J I own s Q .next { s with heap := h', toks := tk' } := ⟨h', tk', m', news', nx, rfl, F, N, hn, ho, hI, hj, hm⟩

theorem loopW {w : World} {A : Around} {target : Expr} {body : List Stmt} {env : Env} {Q : Flow → Shared → Prop} {s : Shared} {c : Addr} {cs : List Addr} {n : Nat} {P : Nat → Value → Prop} {St : Addr → Nat → Heap → Prop}
    {h₀ : Heap} {m₀ : Str → Option Value} {news₀ held : List (Addr × Obj)} (xs : List Str) (J : Nat → List (Addr × Obj) → Prop)
    (W : ∀ I, (∀ b ∈ cs, b ≠ I) → Walks PG w A I (I :: cs) [I] n P (St I))
    (hA : ∀ I i h, St I i h → ∃ o, h.get? I = some o)
    (G : ∀ I i (s : Shared) v (Q : Unit → Shared → Prop), St I i s.heap → Q () s → wpAny (model PG w) A (letOwnedTupleGo target (.ref I) v) Q (fun _ _ => False) s)
    (hI : ∀ Q : Value → Shared → Prop, (∀ oI, oI.isFreed = false → St s.heap.objs.size 0 (s.heap.push oI) → Q (.ref s.heap.objs.size) { s with heap := s.heap.push oI }) → wpAny (model PG w) A (pyIter (.ref c)) Q (fun _ _ => False) s)
    (hcs : ∀ b ∈ cs, ∃ o, s.heap.get? b = some o ∧ (h₀.get? b = some o ∨ (b, o) ∈ held))
    (F : Fr h₀ env.locals s.heap m₀) (N : News h₀ env.locals s.heap (news₀ ++ held)) (hj : J 0 news₀)
    (turn : ∀ i v (u : Str → Option Value) news₁ h tk I oI, i < n → P i v → J i news₁ → AllNe I (news₁ ++ held) → Fr h₀ env.locals h (fun y => if xs.contains y then u y else m₀ y) → News h₀ env.locals h (news₁ ++ (I, oI) :: held) →
      wpAny (model PG w) A (assign target env v) (fun _ s₂ => wpAny (model PG w) A (execs body env) (TE h₀ env.locals xs m₀ (J (i + 1)) I ((I, oI) :: held) s Q) (fun _ _ => False) s₂) (fun _ _ => False) { s with heap := h, toks := tk })
    (done : ∀ (u : Str → Option Value) news₁ h tk, J n news₁ → Fr h₀ env.locals h (fun y => if xs.contains y then u y else m₀ y) → News h₀ env.locals h (news₁ ++ held) → Q .next { s with heap := h, toks := tk }) :
    AtFor w A target body env Q (.ref c) s := by
  refine hI _ fun oI hf hst => ?_
  generalize hIs : s.heap.objs.size = I at hst
  have hLI : env.locals ≠ I := by rw [← hIs]; exact Nat.ne_of_lt F.ns.lt
  have h0I : h₀.get? I = none := by
    cases q : h₀.get? I with
    | none => rfl
    | some o => exact absurd (Heap.lt_size (F.keep _ _ q)) (by rw [← hIs]; exact Nat.lt_irrefl _)
  have hcI : ∀ b ∈ cs, b ≠ I := fun b hb => by
    obtain ⟨o, e, _⟩ := hcs b hb
    rw [← hIs]; exact Nat.ne_of_lt (Heap.lt_size e)
  have WI := W I hcI
  have hne : AllNe I (news₀ ++ held) := allNe_of fun p hp => by rw [← hIs]; exact Nat.ne_of_lt (Heap.lt_size (N p hp).1)
  have agree : ∀ {m' : Str → Option Value}, (∀ y, xs.contains y = false → m' y = m₀ y) → m' = fun y => if xs.contains y then m' y else m₀ y := fun {m'} hm => by
    funext y
    by_cases hy : xs.contains y = true
    · rw [if_pos hy]
    · rw [if_neg hy]; exact hm y (by simpa using hy)
  refine codeAny_forLoop_any
    (fun k s' => ∃ h' tk m' news' i, s' = { s with heap := h', toks := tk } ∧ St I i h' ∧ Fr h₀ env.locals h' m' ∧ News h₀ env.locals h' (news' ++ held) ∧ AllNe I (news' ++ held) ∧ J i news' ∧ (∀ y, xs.contains y = false → m' y = m₀ y) ∧ i ≤ n ∧ k = n + 1 - i) ?_ (n + 1)
    ⟨_, s.toks, m₀, news₀, 0, rfl, hst, F.push _, (fun p hp => ⟨Heap.get?_push_of_some _ (N p hp).1, (N p hp).2⟩), hne, hj, (fun _ _ => rfl), Nat.zero_le _, rfl⟩
  rintro k s' ⟨h', tk, m', news', i, rfl, hst', F', N', hne', hJ, hm, hi, rfl⟩
  have noI : ∀ b o, h₀.get? b = some o → b ∉ [I] := fun b o e q => by rw [List.mem_singleton.mp q, h0I] at e; cases e
  have next : ∀ h₁ : Heap, (∀ b o, b ∉ [I] → h'.get? b = some o → h₁.get? b = some o) → Fr h₀ env.locals h₁ m' ∧ News h₀ env.locals h₁ (news' ++ held) := fun h₁ hk₁ =>
    ⟨⟨F'.ns.at' fun o e => hk₁ _ o (by simpa using hLI) e, fun b o e => hk₁ b o (noI b o e) (F'.keep b o e), F'.above⟩,
      fun p hp => ⟨hk₁ _ _ (by simpa using allNe_mem hne' p hp) (N' p hp).1, (N' p hp).2⟩⟩
  by_cases hlt : i < n
  · refine WI.item i _ _ _ hlt hst' fun v h₁ tk₁ hP hst₁ hk₁ => ?_
    obtain ⟨F₁, N₁⟩ := next h₁ hk₁
    obtain ⟨oI₁, hoI₁⟩ := hA I (i + 1) h₁ hst₁
    refine wpAny_noRaise (G I (i + 1) _ v _ hst₁ ?_)
    have NI : News h₀ env.locals h₁ (news' ++ (I, oI₁) :: held) := fun p hp => by
      rcases List.mem_append.mp hp with hp | hp
      · exact N₁ p (List.mem_append_left _ hp)
      · rcases List.mem_cons.mp hp with rfl | hp
        · exact ⟨hoI₁, Ne.symm hLI, h0I⟩
        · exact N₁ p (List.mem_append_right _ hp)
    rw [agree hm] at F₁
    refine wpAny_noRaise (wpAny_mono (turn i v m' news' h₁ tk₁ I oI₁ hlt hP hJ hne' F₁ NI) (fun _ s₂ h₂ => wpAny_noRaise (wpAny_mono h₂ (fun f s₃ h₃ => ?_) fun _ _ e => e)) fun _ _ e => e)
    have fin : (∃ h' tk' m' news'' nx, s₃ = { s with heap := h', toks := tk' } ∧ Fr h₀ env.locals h' m' ∧ News h₀ env.locals h' news'' ∧ (∀ p ∈ nx, p ∈ news'') ∧ (∀ p ∈ (I, oI₁) :: held, p ∈ news'') ∧ AllNe I nx ∧ J (i + 1) nx ∧ ∀ y, xs.contains y = false → m' y = m₀ y) →
        ∃ k, k < n + 1 - i ∧ ∃ h' tk m' news' i, s₃ = { s with heap := h', toks := tk } ∧ St I i h' ∧ Fr h₀ env.locals h' m' ∧ News h₀ env.locals h' (news' ++ held) ∧ AllNe I (news' ++ held) ∧ J i news' ∧ (∀ y, xs.contains y = false → m' y = m₀ y) ∧ i ≤ n ∧ k = n + 1 - i := by
      rintro ⟨h₃', tk₃, m₃, news₃, nx, rfl, F₃, N₃, hn₃, ho₃, hI₃, hJ₃, hm₃⟩
      refine ⟨n + 1 - (i + 1), by omega, h₃', tk₃, m₃, nx, i + 1, rfl, ?_, F₃, fun p hp => ?_, allNe_append.mpr ⟨hI₃, (allNe_append.mp hne').2⟩, hJ₃, hm₃, hlt, rfl⟩
      · refine WI.frame _ _ _ hst₁ fun b hb o e => ?_
        rcases List.mem_cons.mp hb with rfl | hb
        · rw [hoI₁] at e; cases e
          exact (N₃ _ (ho₃ _ (.head _))).1
        · obtain ⟨ob, _, hob⟩ := hcs b hb
          rcases hob with q | q
          · have e₁ := F₁.keep _ _ q
            rw [e₁] at e; cases e
            exact F₃.keep _ _ q
          · have e₁ := (N₁ _ (List.mem_append_right _ q)).1
            rw [e₁] at e; cases e
            exact (N₃ _ (ho₃ _ (.tail _ q))).1
      · rcases List.mem_append.mp hp with hp | hp
        · exact N₃ p (hn₃ p hp)
        · exact N₃ p (ho₃ p (.tail _ hp))
    cases f with
    | ret v => exact h₃
    | brk => exact h₃
    | next => exact fin h₃
    | cont => exact fin h₃
  · have hin : i = n := by omega
    subst hin
    refine WI.done _ _ _ hst' fun h₁ tk₁ hk₁ => wpAny_execs_nil ?_
    obtain ⟨F₁, N₁⟩ := next h₁ hk₁
    rw [agree hm] at F₁
    exact done m' news' h₁ tk₁ hJ F₁ N₁

noncomputable def ownedNames : List String := ["enumerate", "zip", "dict_itemiterator", "dict_reverseitemiterator", "odict_iterator", "itertools.zip_longest", "itertools.pairwise"]
theorem noOwned {M : Model} {A : Around} {E : Value → Shared → Prop} {target : Expr} {I : Addr} {v : Value} {s : Shared} {Q : Unit → Shared → Prop} {o : Obj} {n : String} (ho : s.heap.get? I = some o) (hc : o.cls = .type n) (hn : ownedNames.contains n = false) (h : Q () s) :
    wpAny M A (letOwnedTupleGo target (.ref I) v) Q E s := by
  have key : ∀ a, wpAny M A (do
      let o ← load I
      match o.cls, o.data with
      | .type n, .fields vs =>
        if ["enumerate", "zip", "dict_itemiterator", "dict_reverseitemiterator", "odict_iterator", "itertools.zip_longest", "itertools.pairwise"].contains n && vs[0]? == some (rawInt a) then
          rule "for.unpacks-the-owned-tuple"
          updateField I 0 .none
      | _, _ => pure ()) Q E s := fun a => by
    refine wpAny_bind (wpAny_load ho ?_)
    obtain ⟨oc, od, dt, sl⟩ := o
    dsimp only at hc
    subst hc
    cases dt <;> first | exact wpAny_pure h | skip
    rename_i vs
    show wpAny M A (if (ownedNames.contains n && vs[0]? == some (rawInt a)) = true then _ else _) Q E s
    rw [if_neg (by rw [hn, Bool.false_and]; exact Bool.false_ne_true)]
    exact wpAny_pure h
  unfold letOwnedTupleGo
  cases target <;> first | exact wpAny_pure h | skip
  all_goals cases v <;> first | exact wpAny_pure h | exact key _

theorem loopL {w : World} {A : Around} {target : Expr} {body : List Stmt} {env : Env} {Q : Flow → Shared → Prop} {s : Shared} {l : Addr} {items : Array Value}
    {h₀ : Heap} {m₀ : Str → Option Value} {news₀ held : List (Addr × Obj)} (xs : List Str) (J : Nat → List (Addr × Obj) → Prop)
    (hh : A.handled = none) (hl : h₀.IsList l items ∨ ∃ e, (l, listOf items e) ∈ held)
    (F : Fr h₀ env.locals s.heap m₀) (N : News h₀ env.locals s.heap (news₀ ++ held)) (hj : J 0 news₀)
    (turn : ∀ i v (u : Str → Option Value) news₁ h tk I oI, items[i]? = some v → J i news₁ → AllNe I (news₁ ++ held) → Fr h₀ env.locals h (fun y => if xs.contains y then u y else m₀ y) → News h₀ env.locals h (news₁ ++ (I, oI) :: held) →
      wpAny (model PG w) A (assign target env v) (fun _ s₂ => wpAny (model PG w) A (execs body env) (TE h₀ env.locals xs m₀ (J (i + 1)) I ((I, oI) :: held) s Q) (fun _ _ => False) s₂) (fun _ _ => False) { s with heap := h, toks := tk })
    (done : ∀ (u : Str → Option Value) news₁ h tk, J items.size news₁ → Fr h₀ env.locals h (fun y => if xs.contains y then u y else m₀ y) → News h₀ env.locals h (news₁ ++ held) → Q .next { s with heap := h, toks := tk }) :
    AtFor w A target body env Q (.ref l) s := by
  have hls : s.heap.IsList l items := by
    rcases hl with ⟨o, ho, r⟩ | ⟨e, hm⟩
    · exact ⟨o, F.keep _ _ ho, r⟩
    · exact News.isList N (List.mem_append_right _ hm)
  refine loopW (cs := [l]) (n := items.size) (P := fun i v => items[i]? = some v) (St := fun I i h => h.IsListIter I l i ∧ h.IsList l items) xs J
    (fun I hb => Walks.list hh I l (hb l (.head _)) items) (fun I i h st => let ⟨o, e, _⟩ := st.1; ⟨o, e⟩) (fun I i s v Q st h => let ⟨o, e, hc, _⟩ := st.1; noOwned e hc (by decide +kernel) h)
    (fun Q h => wpAny_pyIter_list hls (h _ rfl ⟨⟨_, Heap.get?_push_size _ rfl, rfl, rfl⟩, hls.at fun o e => Heap.get?_push_of_some _ e⟩)) ?_ F N hj (fun i v u news₁ h tk I oI _ => turn i v u news₁ h tk I oI) done
  intro b hb
  rw [List.mem_singleton.mp hb]
  rcases hl with ⟨o, ho, r⟩ | ⟨e, hm⟩
  · exact ⟨o, F.keep _ _ ho, .inl ho⟩
  · exact ⟨_, (N _ (List.mem_append_right _ hm)).1, .inr hm⟩

theorem loopK {w : World} {A : Around} {target : Expr} {body : List Stmt} {env : Env} {Q : Flow → Shared → Prop} {s : Shared} {d : Addr} {kvs : List (Str × Value)}
    {h₀ : Heap} {m₀ : Str → Option Value} {news₀ held : List (Addr × Obj)} (xs : List Str) (J : Nat → List (Addr × Obj) → Prop)
    (hh : A.handled = none) (hds : (d == sysModules) = false) (hl : h₀.DictOf (strKind PG w) d kvs ∨ ∃ o, (d, o) ∈ held ∧ o.IsDictOf (strKind PG w) kvs)
    (F : Fr h₀ env.locals s.heap m₀) (N : News h₀ env.locals s.heap (news₀ ++ held)) (hj : J 0 news₀)
    (turn : ∀ i k x t (u : Str → Option Value) news₁ h tk I oI, kvs[i]? = some (k, x) → J i news₁ → AllNe I (news₁ ++ held) → Fr h₀ env.locals h (fun y => if xs.contains y then u y else m₀ y) → News h₀ env.locals h (news₁ ++ (I, oI) :: held) →
      wpAny (model PG w) A (assign target env (.str k t)) (fun _ s₂ => wpAny (model PG w) A (execs body env) (TE h₀ env.locals xs m₀ (J (i + 1)) I ((I, oI) :: held) s Q) (fun _ _ => False) s₂) (fun _ _ => False) { s with heap := h, toks := tk })
    (done : ∀ (u : Str → Option Value) news₁ h tk, J kvs.length news₁ → Fr h₀ env.locals h (fun y => if xs.contains y then u y else m₀ y) → News h₀ env.locals h (news₁ ++ held) → Q .next { s with heap := h, toks := tk }) :
    AtFor w A target body env Q (.ref d) s := by
  have hd : s.heap.DictOf (strKind PG w) d kvs := by
    rcases hl with hb | ⟨o, hm, ho⟩
    · exact hb.keep F.keep
    · exact Heap.dictOf_iff.mpr ⟨o, (N _ (List.mem_append_right _ hm)).1, ho⟩
  obtain ⟨ep, ha⟩ := hd.dictAt
  refine loopW (cs := [d]) (n := kvs.length) (P := fun i v => ∃ k x, kvs[i]? = some (k, x) ∧ (strKind PG w).is k v = true) (St := fun I i h => h.IsKeyIter I d i kvs.length ep ∧ h.DictAt (strKind PG w) d kvs ep) xs J
    (fun I hb => Walks.dictKeys hh I d (hb d (.head _)) kvs ep) (fun I i h st => let ⟨o, e, _⟩ := st.1; ⟨o, e⟩) (fun I i s v Q st h => let ⟨o, e, hc, _⟩ := st.1; noOwned e hc (by decide +kernel) h)
    (fun Q h => wpAny_pyIter_dict hds ha (h _ rfl ⟨⟨_, Heap.get?_push_size _ rfl, rfl, rfl⟩, ha.push _⟩)) ?_ F N hj (fun i v u news₁ h tk I oI _ hP => ?_) done
  · intro b hb
    rw [List.mem_singleton.mp hb]
    rcases hl with hb | ⟨o, hm, ho⟩
    · obtain ⟨o, es, ep, e, _⟩ := id hb
      exact ⟨o, F.keep _ _ e, .inl e⟩
    · exact ⟨_, (N _ (List.mem_append_right _ hm)).1, .inr hm⟩
  · obtain ⟨k, x, hx, hk⟩ := hP
    obtain ⟨t, rfl⟩ := Value.isStrOf_shape hk
    exact turn i k x t u news₁ h tk I oI hx

theorem loopR {w : World} {A : Around} {target : Expr} {body : List Stmt} {env : Env} {Q : Flow → Shared → Prop} {s : Shared} {r : Addr} {b : Int} {t0 t1 t2 : Tok} {n : Nat}
    {h₀ : Heap} {m₀ : Str → Option Value} {news₀ held : List (Addr × Obj)} (xs : List Str) (J : Nat → List (Addr × Obj) → Prop)
    (hh : A.handled = none) (hr : IsRange s.heap r 0 b 1 t0 t1 t2) (hn : b = n) (hn2 : n < 1000)
    (F : Fr h₀ env.locals s.heap m₀) (N : News h₀ env.locals s.heap (news₀ ++ held)) (hj : J 0 news₀)
    (turn : ∀ (i : Nat) t (u : Str → Option Value) news₁ h tk I oI, i < n → J i news₁ → AllNe I (news₁ ++ held) → Fr h₀ env.locals h (fun y => if xs.contains y then u y else m₀ y) → News h₀ env.locals h (news₁ ++ (I, oI) :: held) →
      wpAny (model PG w) A (assign target env (.int i t)) (fun _ s₂ => wpAny (model PG w) A (execs body env) (TE h₀ env.locals xs m₀ (J (i + 1)) I ((I, oI) :: held) s Q) (fun _ _ => False) s₂) (fun _ _ => False) { s with heap := h, toks := tk })
    (done : ∀ (u : Str → Option Value) news₁ h tk, J n news₁ → Fr h₀ env.locals h (fun y => if xs.contains y then u y else m₀ y) → News h₀ env.locals h (news₁ ++ held) → Q .next { s with heap := h, toks := tk }) :
    AtFor w A target body env Q (.ref r) s := by
  have hsz : Builtin.Range.rangeSize 0 b 1 = n := by
    rw [hn]
    unfold Builtin.Range.rangeSize
    rw [if_pos (by decide), Int.ediv_one]
    by_cases hz : (0 : Int) < n
    · rw [if_pos hz]; omega
    · rw [if_neg hz]; omega
  refine loopW (cs := []) (n := n) (P := fun i v => ∃ t, v = .int (0 + i * 1) t) (St := fun I i h => IsRangeIter h I (0 + (i : Nat) * 1) ((n : Int) - (i : Nat)) 1) xs J
    (fun I hb => Walks.range hh I 0 1 n) (fun I i h st => ⟨_, st⟩) (fun I i s v Q st h => noOwned st rfl (by decide +kernel) h)
    (fun Q h => wpAny_pyIter_range hr ?_ (h _ rfl ?_)) (fun b hb => nomatch hb) F N hj (fun i v u news₁ h tk I oI hi hP => ?_) done
  · exact small_one (by omega) (by omega) (by omega) (by omega)
  · have e1 : (0 + ((0 : Nat) : Int) * 1) = 0 := by omega
    have e2 : (n : Int) - ((0 : Nat) : Int) = n := by omega
    rw [e1, e2]
    have := Heap.get?_push_size s.heap (o := { cls := .type "range_iterator", data := .fields #[rawInt 0, rawInt (Builtin.Range.rangeSize 0 b 1), rawInt 1] }) rfl
    rw [hsz] at this ⊢
    exact this
  · obtain ⟨t, rfl⟩ := hP
    have e : (0 + (i : Int) * 1) = i := by omega
    rw [e]
    exact turn i t u news₁ h tk I oI hi

theorem loopK_list {w : World} {A : Around} {target : Expr} {body : List Stmt} {env : Env} {Q : Flow → Shared → Prop} {s : Shared} {d f : Addr} {kvs : List (Str × Value)}
    {h₀ : Heap} {m₀ : Str → Option Value} {rest : List (Addr × Obj)} {vs₀ : List Value} {e₀ : Nat} {ys₀ : List Str} (xs : List Str) (G : Nat → List Str)
    (hh : A.handled = none) (hds : (d == sysModules) = false) (hl : h₀.DictOf (strKind PG w) d kvs)
    (F : Fr h₀ env.locals s.heap m₀) (N : News h₀ env.locals s.heap ((f, listOf (List.toArray vs₀) e₀) :: rest)) (S : StrsAre vs₀ ys₀) (hG : ys₀ = G 0)
    (turn : ∀ i k x t (u : Str → Option Value) vs e h tk I oI, kvs[i]? = some (k, x) → StrsAre vs (G i) → @Ne Nat f I → Fr h₀ env.locals h (fun y => if xs.contains y then u y else m₀ y) → News h₀ env.locals h [(f, listOf (List.toArray vs) e), (I, oI)] →
      wpAny (model PG w) A (assign target env (.str k t)) (fun _ s₂ => wpAny (model PG w) A (execs body env) (TE h₀ env.locals xs m₀ (fun nx => ∃ vs e, nx = [(f, listOf (List.toArray vs) e)] ∧ StrsAre vs (G (i + 1))) I [(I, oI)] s Q) (fun _ _ => False) s₂) (fun _ _ => False) { s with heap := h, toks := tk })
    (done : ∀ (u : Str → Option Value) vs e h tk, StrsAre vs (G kvs.length) → Fr h₀ env.locals h (fun y => if xs.contains y then u y else m₀ y) → News h₀ env.locals h [(f, listOf (List.toArray vs) e)] → Q .next { s with heap := h, toks := tk }) :
    AtFor w A target body env Q (.ref d) s := by
  refine loopK xs (fun i nx => ∃ vs e, nx = [(f, listOf (List.toArray vs) e)] ∧ StrsAre vs (G i)) hh hds (.inl hl) F (held := []) (news₀ := [(f, listOf (List.toArray vs₀) e₀)]) (fun p hp => N p ?_) ⟨vs₀, e₀, rfl, hG ▸ S⟩ ?_ ?_
  · rw [List.append_nil] at hp; rw [List.mem_singleton.mp hp]; exact .head _
  · rintro i k x t u news₁ h tk I oI hk ⟨vs, e, rfl, S₁⟩ hne F₁ N₁
    exact turn i k x t u vs e h tk I oI hk S₁ hne.1 F₁ N₁
  · rintro u news₁ h tk ⟨vs, e, rfl, S₁⟩ F₁ N₁
    exact done u vs e h tk S₁ F₁ N₁
theorem TE.list1 {h₀ : Heap} {L : Addr} {xs : List Str} {m₀ m' : Str → Option Value} {I f : Addr} {oI : Obj} {news' : List (Addr × Obj)} {s : Shared} {Q : Flow → Shared → Prop} {h' : Heap} {tk' : Nat} {vs : List Value} {e : Nat} {ys zs : List Str}
    (F : Fr h₀ L h' m') (N : News h₀ L h' news') (hn : (f, listOf (List.toArray vs) e) ∈ news') (ho : (I, oI) ∈ news') (hI : @Ne Nat f I) (S : StrsAre vs ys) (hy : ys = zs) (hm : ∀ y, xs.contains y = false → m' y = m₀ y) :
    TE h₀ L xs m₀ (fun nx => ∃ vs e, nx = [(f, listOf (List.toArray vs) e)] ∧ StrsAre vs zs) I [(I, oI)] s Q .next { s with heap := h', toks := tk' } :=
  TE.next (nx := [(f, listOf (List.toArray vs) e)]) F N (fun p hp => by rw [List.mem_singleton.mp hp]; exact hn) (fun p hp => by rw [List.mem_singleton.mp hp]; exact ho) ⟨hI, trivial⟩ ⟨vs, e, rfl, hy ▸ S⟩ hm
theorem same0 {xs : List Str} {u n : Str → Option Value} : ∀ y, xs.contains y = false → (if xs.contains y then u y else n y) = n y := fun y hy => by rw [hy]; rfl
theorem sameI {xs : List Str} {n : Str → Option Value} : ∀ y, xs.contains y = false → n y = n y := fun _ _ => rfl
theorem same1 {xs : List Str} {a : Str} {v : Option Value} {m n : Str → Option Value} (ha : xs.contains a = true) (h : ∀ y, xs.contains y = false → m y = n y) : ∀ y, xs.contains y = false → (if y = a then v else m y) = n y := fun y hy => by
  rw [if_neg (fun e => by rw [e, ha] at hy; cases hy)]; exact h y hy
theorem same2 {xs ys : List Str} {u m n : Str → Option Value} (ha : (ys.all fun a => xs.contains a) = true) (h : ∀ y, xs.contains y = false → m y = n y) : ∀ y, xs.contains y = false → (if ys.contains y then u y else m y) = n y := fun y hy => by
  rw [if_neg (fun e => by have := List.all_eq_true.mp ha y (List.contains_iff_mem.mp e); rw [this] at hy; cases hy)]; exact h y hy
local macro_rules | `(tactic| walk_at "SAME3") => `(tactic| first | (with_reducible exact sameI) | (with_reducible exact same0) | ((with_reducible refine same1 ?a ?b); (case a => rfl); (case b => walk_at "SAME3")) | ((with_reducible refine same2 ?a ?b); (case a => rfl); (case b => walk_at "SAME3")))

section
variable {w : World} {A : Around} {E : Value → Shared → Prop} {s : Shared} {h₀ : Heap} {L d : Addr} {m : Str → Option Value} {kvs : List (Str × Value)} {x : Str} {t : Tok} {Q : Value → Shared → Prop}
theorem in_dict (D : h₀.DictOf (strKind PG w) d kvs) (hds : (d == sysModules) = false) (F : Fr h₀ L s.heap m) (h : Q (.bool (valueAt kvs x).isSome) { s with toks := s.toks + 1 }) :
    wpAny (model PG w) A (compareOp .In (.str x t) (.ref d)) Q E s := wpAny_in_of (strKind_is _ _ _ _) hds (D.keep F.keep).mapOf h
theorem notin_dict (D : h₀.DictOf (strKind PG w) d kvs) (hds : (d == sysModules) = false) (F : Fr h₀ L s.heap m) (h : Q (.bool !(valueAt kvs x).isSome) { s with toks := s.toks + 1 }) :
    wpAny (model PG w) A (compareOp .NotIn (.str x t) (.ref d)) Q E s := wpAny_notIn_of (strKind_is _ _ _ _) hds (D.keep F.keep).mapOf h
theorem item_dict {value slice : Expr} {v : Value} (D : h₀.DictOf (strKind PG w) d kvs) (hv : valueAt kvs x = some v) (F : Fr h₀ L s.heap m) (h : Q v { s with toks := s.toks + 1 })
    (hs : subscripted slice false (.ref d) (.str x t) = operate [.ref d, .str x t] (getItem (.ref d) (.str x t)) := by with_unfolding_all rfl) :
    wpAny (model PG w) A (subscriptTail value slice (.ref d) (.str x t)) Q E s :=
  tail_any (D.keep F.keep).mapOf.typeIs slot_dict_getitem.lookup (wpAny_getItem_of (strKind_is _ _ _ _) (D.keep F.keep).mapOf hv h) hs
end
/-- entries told by data -/
inductive Ent {δ : Type} (R : Value → δ → Prop) : List (Str × Value) → List (Str × δ) → Prop
  | nil : Ent R [] []
  | cons {x : Str} {v : Value} {d : δ} {kvs : List (Str × Value)} {D : List (Str × δ)} : R v d → Ent R kvs D → Ent R ((x, v) :: kvs) ((x, d) :: D)
noncomputable def at? {δ : Type} (D : List (Str × δ)) (x : Str) : Option δ := (D.find? fun p => decide (p.1 = x)).map (·.2)
section
variable {δ : Type} {R : Value → δ → Prop} {kvs : List (Str × Value)} {D : List (Str × δ)} {x : Str}
theorem Ent.length (h : Ent R kvs D) : kvs.length = D.length := by
  induction h with
  | nil => rfl
  | cons _ _ ih => simp [ih]
theorem Ent.keys (h : Ent R kvs D) : kvs.map (·.1) = D.map (·.1) := by
  induction h with
  | nil => rfl
  | cons _ _ ih => simp [ih]
theorem Ent.mono {R' : Value → δ → Prop} (h : Ent R kvs D) (k : ∀ v d, R v d → R' v d) : Ent R' kvs D := by
  induction h with
  | nil => exact .nil
  | cons r _ ih => exact .cons (k _ _ r) ih
theorem Ent.at (h : Ent R kvs D) (x : Str) : (∃ v d, valueAt kvs x = some v ∧ at? D x = some d ∧ R v d) ∨ (valueAt kvs x = none ∧ at? D x = none) := by
  induction h with
  | nil => exact .inr ⟨rfl, rfl⟩
  | @cons y v d kvs D r _ ih =>
    by_cases hy : y = x
    · exact .inl ⟨v, d, by simp [valueAt, hy], by simp [at?, hy], r⟩
    · simpa [valueAt, at?, hy] using ih
theorem Ent.isSome (h : Ent R kvs D) (x : Str) : (valueAt kvs x).isSome = (at? D x).isSome := by
  rcases h.at x with ⟨v, d, e1, e2, _⟩ | ⟨e1, e2⟩ <;> rw [e1, e2] <;> rfl
theorem Ent.get (h : Ent R kvs D) : ∀ {i : Nat} {k : Str} {v : Value}, kvs[i]? = some (k, v) → ∃ d, D[i]? = some (k, d) ∧ R v d := by
  induction h with
  | nil => intro i k v e; simp at e
  | cons r _ ih =>
    intro i k v e
    cases i with
    | zero => simp at e; obtain ⟨rfl, rfl⟩ := e; exact ⟨_, by simp, r⟩
    | succ i => simpa using ih (by simpa using e)
theorem Ent.append {kvs' : List (Str × Value)} {D' : List (Str × δ)} (h : Ent R kvs D) (h' : Ent R kvs' D') : Ent R (kvs ++ kvs') (D ++ D') := by
  induction h with
  | nil => exact h'
  | cons r _ ih => exact .cons r ih
end
noncomputable def Words (h : Heap) (a : Addr) (xs : List Str) : Prop := ∃ vs e, h.get? a = some (listOf (List.toArray vs) e) ∧ StrsAre vs xs ∧ xs.length ≤ 1000
theorem Words.up {h h' : Heap} {a : Addr} {xs : List Str} (W : Words h a xs) (k : Sub h h') : Words h' a xs := let ⟨vs, e, g, r⟩ := W; ⟨vs, e, k _ _ g, r⟩
theorem Words.le {h : Heap} {a : Addr} {xs : List Str} (W : Words h a xs) : xs.length ≤ 1000 := let ⟨_, _, _, _, b⟩ := W; b
/-- an object of S4Class with no slots -/
noncomputable def ClsAt (h : Heap) (v : Value) (nm : Str) (xs : List Str) : Prop :=
  ∃ (x dx cl sl : Addr) (e1 e2 e3 e4 e5 e6 : Int) (k1 k2 k3 k4 k5 k6 tn : Tok) (v4 v5 v6 : Value) (n e : Nat), v = .ref x ∧
    InstAt h x (instObj 63 dx) 63 (some (dictOf [⟨e1, .str "name" k1, .str nm tn⟩, ⟨e2, .str "slots" k2, .ref sl⟩, ⟨e3, .str "contains" k3, .ref cl⟩, ⟨e4, .str "validity" k4, v4⟩, ⟨e5, .str "virtual" k5, v5⟩, ⟨e6, .str "prototype" k6, v6⟩] n)) ∧
    Words h cl xs ∧ h.get? sl = some (listOf (List.toArray []) e)
theorem ClsAt.elim {P : Prop} {h : Heap} {v : Value} {nm : Str} {xs : List Str} (C : ClsAt h v nm xs)
    (k : ∀ (x dx cl sl : Addr) (e1 e2 e3 e4 e5 e6 : Int) (k1 k2 k3 k4 k5 k6 tn : Tok) (v4 v5 v6 : Value) (n e : Nat), v = .ref x →
      InstAt h x (instObj 63 dx) 63 (some (dictOf [⟨e1, .str "name" k1, .str nm tn⟩, ⟨e2, .str "slots" k2, .ref sl⟩, ⟨e3, .str "contains" k3, .ref cl⟩, ⟨e4, .str "validity" k4, v4⟩, ⟨e5, .str "virtual" k5, v5⟩, ⟨e6, .str "prototype" k6, v6⟩] n)) →
      Words h cl xs → h.get? sl = some (listOf (List.toArray []) e) → P) : P := by
  obtain ⟨x, dx, cl, sl, e1, e2, e3, e4, e5, e6, k1, k2, k3, k4, k5, k6, tn, v4, v5, v6, n, e, hv, I, W, S⟩ := C
  exact k x dx cl sl e1 e2 e3 e4 e5 e6 k1 k2 k3 k4 k5 k6 tn v4 v5 v6 n e hv I W S
theorem ClsAt.up {h h' : Heap} {v : Value} {nm : Str} {xs : List Str} (C : ClsAt h v nm xs) (k : Sub h h') : ClsAt h' v nm xs :=
  C.elim fun x dx cl sl e1 e2 e3 e4 e5 e6 k1 k2 k3 k4 k5 k6 tn v4 v5 v6 n e hv I W S =>
    ⟨x, dx, cl, sl, e1, e2, e3, e4, e5, e6, k1, k2, k3, k4, k5, k6, tn, v4, v5, v6, n, e, hv, instUp I k, W.up k, k _ _ S⟩
structure TabAt (w : World) (h : Heap) (t c u : Addr) (D U : List (Str × List Str)) : Prop where
  inst : ∃ (d : Addr) (e1 e2 : Int) (k1 k2 : Tok) (n : Nat), InstAt h t (instObj 168 d) 168 (some (dictOf [⟨e1, .str "classes" k1, .ref c⟩, ⟨e2, .str "unions" k2, .ref u⟩] n))
  cs : ∃ kc, h.DictOf (strKind PG w) c kc ∧ Ent (fun v xs => ∃ nm, ClsAt h v nm xs) kc D
  us : ∃ ku, h.DictOf (strKind PG w) u ku ∧ Ent (fun v xs => ∃ l, v = .ref l ∧ Words h l xs) ku U
  nc : (c == sysModules) = false
  nu : (u == sysModules) = false
  lu : U.length ≤ 1000
theorem TabAt.elim {P : Prop} {w : World} {h : Heap} {t c u : Addr} {D U : List (Str × List Str)} (T : TabAt w h t c u D U)
    (k : ∀ (d : Addr) (e1 e2 : Int) (k1 k2 : Tok) (n : Nat) (kc ku : List (Str × Value)), InstAt h t (instObj 168 d) 168 (some (dictOf [⟨e1, .str "classes" k1, .ref c⟩, ⟨e2, .str "unions" k2, .ref u⟩] n)) →
      h.DictOf (strKind PG w) c kc → Ent (fun v xs => ∃ nm, ClsAt h v nm xs) kc D → h.DictOf (strKind PG w) u ku → Ent (fun v xs => ∃ l, v = .ref l ∧ Words h l xs) ku U → (c == sysModules) = false → (u == sysModules) = false → U.length ≤ 1000 → P) : P := by
  obtain ⟨⟨d, e1, e2, k1, k2, n, I⟩, ⟨kc, dc, ec⟩, ⟨ku, du, eu⟩, nc, nu, lu⟩ := T
  exact k d e1 e2 k1 k2 n kc ku I dc ec du eu nc nu lu
theorem TabAt.up {w : World} {h h' : Heap} {t c u : Addr} {D U : List (Str × List Str)} (T : TabAt w h t c u D U) (k : Sub h h') : TabAt w h' t c u D U where
  inst := let ⟨d, e1, e2, k1, k2, n, I⟩ := T.inst; ⟨d, e1, e2, k1, k2, n, instUp I k⟩
  cs := let ⟨kc, d, e⟩ := T.cs; ⟨kc, d.keep k, e.mono fun _ _ ⟨nm, c⟩ => ⟨nm, c.up k⟩⟩
  us := let ⟨ku, d, e⟩ := T.us; ⟨ku, d.keep k, e.mono fun _ _ ⟨l, q, c⟩ => ⟨l, q, c.up k⟩⟩
  nc := T.nc
  nu := T.nu
  lu := T.lu

local macro_rules | `(tactic| k_inst) => `(tactic| (refine' instUp ?I (Fr.keep ?F); (case I => with_reducible assumption); (case F => with_reducible assumption)))
local macro_rules | `(tactic| walk_at "exec For Name Call cons nil") => `(tactic| (k_here; k_dflt (refine For_at ?_)))
local macro_rules | `(tactic| walk_at "exec For Name Name cons nil") => `(tactic| (k_here; k_dflt (refine For_at ?_)))
local macro_rules | `(tactic| walk_at "exec For Name Attribute cons nil") => `(tactic| (k_here; k_dflt (refine For_at ?_)))
local macro_rules | `(tactic| walk_at "exec For Tuple Call cons nil") => `(tactic| (k_here; k_dflt (refine For_at ?_)))
local macro_rules | `(tactic| walk_at "exec For Tuple Name cons nil") => `(tactic| (k_here; k_dflt (refine For_at ?_)))
local macro_rules | `(tactic| walk_at "exec For Tuple BinOp cons nil") => `(tactic| (k_here; k_dflt (refine For_at ?_)))
local macro_rules | `(tactic| walk_at "exec For Tuple Attribute cons nil") => `(tactic| (k_here; k_dflt (refine For_at ?_)))
theorem basic_spec {w : World} {s : Shared} {Q : Value → Shared → Prop} {g : Heap} {mg mb : Str → Option Value} {self : Value} {x : Str} {t : Tok}
    (X : (KF w.params).In g) (T : TR mg mb g) (st : Sub g s.heap)
    (h : ∀ h' tk, Sub s.heap h' → Q (.bool (basicNames.any (· == x))) { s with heap := h', toks := tk }) :
    wpAny (model PG w) (AL 2) (call (.ref 130) [self, .str x t]) Q (fun _ _ => False) s := by
  have X' := Frag.In.keeps X st
  have T' := TopRead.keeps T st
  clear X T
  (refine' enterF (by with_reducible assumption) (by with_reducible assumption) (by exact fun _ _ e => e) (by exact Nat.le_refl _) (by exact led0) (by k_is) (by k_is) (by decide) (by rfl) (by exact locs rfl) ?_ (by rfl) (by rfl) (by rfl) (by decide); intro h₁ F N)
  (repeat' (first | (k_here; (with_reducible show wpAny _ _ (call (Value.ref 81) _ _) _ _ _); refine' wpAL (names_spec (by with_reducible assumption) (by with_reducible assumption) (by exact Fr.keep (by with_reducible assumption)) ?_) (by rfl) (by exact Nat.le_of_ble_eq_true rfl) (by exact Nat.le_of_ble_eq_true rfl) (by rfl) (by rfl); intro h'q tk'q a'q vs'q k'q f'q o'q S'q; (have q'q := led_new (by with_reducible assumption) (by with_reducible assumption) k'q f'q o'q); have F'q := q'q.1; have N'q := q'q.2.1; have l'q := q'q.2.2; clear q'q; (try simp only [AllNe, and_true] at l'q); k_sweep) | walk1 | (dsimp only; walk1)))
  all_goals dsimp only
  rename Fr _ _ _ _ => F
  exact h _ _ F.keep
theorem known_spec {w : World} {s : Shared} {Q : Value → Shared → Prop} {g : Heap} {mg mb : Str → Option Value} {t c u : Addr} {D U : List (Str × List Str)} {x : Str} {tx : Tok}
    (X : (KF w.params).In g) (T : TR mg mb g) (st : Sub g s.heap) (HT : TabAt w s.heap t c u D U)
    (h : ∀ h' tk, Sub s.heap h' → Q (.bool ((at? D x).isSome || basicNames.any (· == x))) { s with heap := h', toks := tk }) :
    wpAny (model PG w) (AL 3) (call (.ref 137) [.ref t, .str x tx]) Q (fun _ _ => False) s := by
  have X' := Frag.In.keeps X st
  have T' := TopRead.keeps T st
  clear X T
  refine TabAt.elim HT ?_
  intro d e1 e2 k1 k2 n kc ku I dc ec du eu nc nu lu
  have h2 : ∀ h' tk b, Sub s.heap h' → b = ((at? D x).isSome || basicNames.any (· == x)) → Q (.bool b) { s with heap := h', toks := tk } := fun h' tk b k e => e ▸ h h' tk k
  (refine' enterF (by with_reducible assumption) (by with_reducible assumption) (by exact fun _ _ e => e) (by exact Nat.le_refl _) (by exact led0) (by k_is) (by k_is) (by decide) (by rfl) (by exact locs rfl) ?_ (by rfl) (by rfl) (by rfl) (by decide); intro h₁ F N)
  (repeat' (first | (k_here; (with_reducible show wpAny _ _ (call (Value.ref 130) _ _) _ _ _); refine' wpAL (basic_spec (by with_reducible assumption) (by with_reducible assumption) (by exact Fr.keep (by with_reducible assumption)) ?_) (by rfl) (by exact Nat.le_of_ble_eq_true rfl) (by exact Nat.le_of_ble_eq_true rfl) (by rfl) (by rfl); intro h'q tk'q k'q; (have q'q := led_old (by with_reducible assumption) (by with_reducible assumption) k'q); have F'q := q'q.1; have N'q := q'q.2; clear q'q; k_sweep) | (with_reducible (k_here; (with_reducible show wpAny _ _ (compareOp .In (Value.str _ _) (Value.ref _)) _ _ _); refine' in_dict (by with_reducible assumption) (by with_reducible assumption) (by with_reducible assumption) ?_)) | walk1 | (dsimp only; walk1)))
  all_goals dsimp only
  all_goals (rename Fr _ _ _ _ => F; rename (valueAt kc x).isSome = _ => hb)
  · exact h2 _ _ _ F.keep (by rw [← ec.isSome, hb]; rfl)
  · exact h2 _ _ _ F.keep (by rw [← ec.isSome, hb]; rfl)

noncomputable def basicParents (x : Str) : List Str :=
  if x == "integer" then ["numeric"] else if x == "double" then ["numeric"]
  else if (["logical", "numeric", "character", "list", "expression", "array"] : List Str).any (· == x) then ["vector"]
  else if x == "matrix" then ["array"] else if x == "factor" then ["integer", "oldClass"] else if x == "data.frame" then ["list", "oldClass"] else if x == "formula" then ["oldClass"]
  else if (["name", "call", "{", "if", "for", "while", "(", "<-", "="] : List Str).any (· == x) then ["language"] else []
theorem bparents_spec {w : World} {s : Shared} {Q : Value → Shared → Prop} {g : Heap} {mg mb : Str → Option Value} {x : Str} {tx : Tok}
    (X : (KF w.params).In g) (T : TR mg mb g) (st : Sub g s.heap)
    (h : ∀ h' tk a vs, Sub s.heap h' → s.heap.get? a = none → h'.get? a = some (listOf (List.toArray vs) 0) → StrsAre vs (basicParents x) → Q (.ref a) { s with heap := h', toks := tk }) :
    wpAny (model PG w) (AL 0) (call (.ref 88) [.str x tx]) Q (fun _ _ => False) s := by
  have X' := Frag.In.keeps X st
  have T' := TopRead.keeps T st
  clear X T
  have h2 : ∀ h' tk a vs ys, Sub s.heap h' → s.heap.get? a = none → h'.get? a = some (listOf (List.toArray vs) 0) → StrsAre vs ys → basicParents x = ys → Q (.ref a) { s with heap := h', toks := tk } := fun h' tk a vs ys k f o r e => h h' tk a vs k f o (e ▸ r)
  clear h
  (refine' enterF (by with_reducible assumption) (by with_reducible assumption) (by exact fun _ _ e => e) (by exact Nat.le_refl _) (by exact led0) (by k_is) (by k_is) (by decide) (by rfl) (by exact locs rfl) ?_ (by rfl) (by rfl) (by rfl) (by decide); intro h₁ F N)
  walk_at "GO"
  all_goals dsimp only
  all_goals (rename Fr _ _ _ _ => F; rename News _ _ _ _ => N)
  all_goals exact h2 _ _ _ _ _ F.keep (N _ (.head _)).2.2 (N _ (.head _)).1 (by repeat' constructor) (by simp only [basicParents, reduceIte, Bool.false_eq_true, *])

structure Cut (M : Model) (A : Around) (rest : List Stmt) (env : Env) (Q : Flow → Shared → Prop) (E : Value → Shared → Prop) (Q1 : Flow → Shared → Prop) : Prop where
  n : ∀ s', wpAny M A (execs rest env) Q E s' → Q1 .next s'
  f : ∀ f s', f ≠ .next → Q f s' → Q1 f s'
theorem execs_cut {M : Model} {A : Around} {st : Stmt} {rest : List Stmt} {env : Env} {Q : Flow → Shared → Prop} {E : Value → Shared → Prop} {s : Shared} (h : ∀ Q1 : Flow → Shared → Prop, Cut M A rest env Q E Q1 → wpAny M A (exec st env) Q1 E s) : wpAny M A (execs (st :: rest) env) Q E s :=
  wpAny_execs_cons (h _ ⟨fun _ q => q, fun f s' n q => by cases f <;> first | exact absurd rfl n | exact q⟩)
theorem retN {v : Value} : Flow.ret v ≠ Flow.next := fun h => nomatch h
section
variable {w : World} {A : Around} {E : Value → Shared → Prop} {s : Shared} {h₀ : Heap} {L d l : Addr} {m : Str → Option Value} {kvs : List (Str × Value)} {x : Str} {t : Tok} {Q : Value → Shared → Prop} {ys : List Str} {v : Value}
theorem in_dict_yes (D : h₀.DictOf (strKind PG w) d kvs) (hds : (d == sysModules) = false) (F : Fr h₀ L s.heap m) (hv : valueAt kvs x = some v) (h : Q (.bool true) { s with toks := s.toks + 1 }) :
    wpAny (model PG w) A (compareOp .In (.str x t) (.ref d)) Q E s := in_dict D hds F (by rw [hv]; exact h)
theorem in_dict_no (D : h₀.DictOf (strKind PG w) d kvs) (hds : (d == sysModules) = false) (F : Fr h₀ L s.heap m) (hv : valueAt kvs x = none) (h : Q (.bool false) { s with toks := s.toks + 1 }) :
    wpAny (model PG w) A (compareOp .In (.str x t) (.ref d)) Q E s := in_dict D hds F (by rw [hv]; exact h)
theorem in_words_b (W : Words h₀ l ys) (F : Fr h₀ L s.heap m) (h : Q (.bool (ys.any (· == x))) s) : wpAny (model PG w) A (compareOp .In (.str x t) (.ref l)) Q E s := by
  obtain ⟨vs, e, g, S, _⟩ := W.up F.keep
  exact in_list_strs ⟨_, g, rfl, e, rfl⟩ S h
theorem notin_words_b (W : Words h₀ l ys) (F : Fr h₀ L s.heap m) (h : Q (.bool !(ys.any (· == x))) s) : wpAny (model PG w) A (compareOp .NotIn (.str x t) (.ref l)) Q E s := by
  obtain ⟨vs, e, g, S, _⟩ := W.up F.keep
  exact notin_list_strs ⟨_, g, rfl, e, rfl⟩ S h
theorem list_words {news : List (Addr × Obj)} (W : Words h₀ l ys) (F : Fr h₀ L s.heap m) (N : News h₀ L s.heap news)
    (h : ∀ a c vs h', Fr h₀ L h' m → News h₀ L h' ((a, listOf (List.toArray vs) c) :: news) → StrsAre vs ys → (∀ p ∈ news, p.1 < a) → Q (.ref a) { s with heap := h' }) :
    wpAny (model PG w) A (call (.type "list") [.ref l]) Q E s := by
  obtain ⟨vs, e, g, S, b⟩ := W.up F.keep
  refine list_copyK F N ⟨_, g, rfl, e, rfl⟩ (fun D c h' F' N' lt => h D c vs h' F' N' S lt) ?_
  have := S.length
  have e2 : vs.toArray.size = ys.length := by simp [this]
  rw [e2, sizeLine_eq]; omega
end
noncomputable def baseParents (D : List (Str × List Str)) (x : Str) : List Str := match at? D x with
  | some ys => ys
  | none => if basicNames.any (· == x) then basicParents x else []
noncomputable def addU (x : Str) (U : List (Str × List Str)) (ys : List Str) : List Str := U.foldl (fun acc p => if p.2.any (· == x) && !(acc.any (· == p.1)) then acc ++ [p.1] else acc) ys
noncomputable def parentsOf (D U : List (Str × List Str)) (x : Str) : List Str := addU x U (baseParents D x)

theorem addU_le (x : Str) : ∀ (U : List (Str × List Str)) (ys : List Str), (addU x U ys).length ≤ ys.length + U.length
  | [], ys => Nat.le_refl _
  | p :: U, ys => by
    have := addU_le x U (if p.2.any (· == x) && !(ys.any (· == p.1)) then ys ++ [p.1] else ys)
    have e : addU x (p :: U) ys = addU x U (if p.2.any (· == x) && !(ys.any (· == p.1)) then ys ++ [p.1] else ys) := rfl
    rw [e]
    refine Nat.le_trans this ?_
    split <;> simp <;> omega
theorem addU_take_le (x : Str) {U : List (Str × List Str)} {ys : List Str} (i : Nat) (h1 : ys.length ≤ 1000) (h2 : U.length ≤ 1000) : (addU x (U.take i) ys).length ≤ 100000 := by
  have a := addU_le x (U.take i) ys
  have b : (U.take i).length ≤ U.length := by rw [List.length_take]; exact Nat.min_le_right _ _
  omega
theorem basicParents_le (x : Str) : (basicParents x).length ≤ 1000 := by
  unfold basicParents
  repeat' split
  all_goals exact Nat.le_of_ble_eq_true rfl
theorem addU_step {x : Str} {U : List (Str × List Str)} {ys : List Str} {i : Nat} {k : Str} {ms : List Str} (h : U[i]? = some (k, ms)) :
    addU x (U.take (i + 1)) ys = if ms.any (· == x) && !((addU x (U.take i) ys).any (· == k)) then addU x (U.take i) ys ++ [k] else addU x (U.take i) ys := by
  unfold addU
  rw [List.take_add_one, h]
  simp only [Option.toList_some, List.foldl_append, List.foldl_cons, List.foldl_nil]
theorem strs_size_le {vs : List Value} {ys : List Str} (S : StrsAre vs ys) (h : ys.length ≤ 100000) : (List.toArray vs).size ≤ sizeLine := by
  have := S.length
  rw [List.size_toArray, sizeLine_eq]; omega

theorem parents_spec {w : World} {s : Shared} {Q : Value → Shared → Prop} {g : Heap} {mg mb : Str → Option Value} {t c u : Addr} {D U : List (Str × List Str)} {x : Str} {tx : Tok}
    (X : (KF w.params).In g) (T : TR mg mb g) (st : Sub g s.heap) (HT : TabAt w s.heap t c u D U)
    (h : ∀ h' tk a vs e, Sub s.heap h' → s.heap.get? a = none → h'.get? a = some (listOf (List.toArray vs) e) → StrsAre vs (parentsOf D U x) → Q (.ref a) { s with heap := h', toks := tk }) :
    wpAny (model PG w) (AL 3) (call (.ref 144) [.ref t, .str x tx]) Q (fun _ _ => False) s := by
  have X' := Frag.In.keeps X st
  have T' := TopRead.keeps T st
  clear X T
  refine TabAt.elim HT ?_
  intro d e1 e2 k1 k2 n kc ku I dc ec du eu nc nu lu
  have hnu : (ku.map (·.1)).Nodup := let ⟨_, _, _, _, _, _, _, _, hn⟩ := du; hn
  have loop : ∀ ys : List Str, ys.length ≤ 1000 → baseParents D x = ys → parentsOf D U x = addU x (U.take ku.length) ys := fun ys _ e => by
    rw [eu.length, List.take_length]; unfold parentsOf; rw [e]
  have hD : ∀ ys, at? D x = some ys → baseParents D x = ys := fun ys e => by unfold baseParents; rw [e]
  rcases ec.at x with ⟨v, ys, hv, hd1, nm, C⟩ | ⟨hv, hd1⟩
  · refine ClsAt.elim C ?_
    intro xx dx cl sl f1 f2 f3 f4 f5 f6 j1 j2 j3 j4 j5 j6 tn v4 v5 v6 nn e hx IC W gS
    cases hx
    have hfin := loop ys W.le (hD ys hd1)
    have hle := W.le
    (refine' enterF (by with_reducible assumption) (by with_reducible assumption) (by exact fun _ _ e => e) (by exact Nat.le_refl _) (by exact led0) (by k_is) (by k_is) (by decide) (by rfl) (by exact locs rfl) ?_ (by rfl) (by rfl) (by rfl) (by decide); intro h₁ F N)
    (repeat' (first | ((with_reducible show wpAny _ _ (execs (List.cons (PySem.Stmt.If _ _ _ _) _) _) _ _ _); (try dsimp only); (with_reducible refine execs_cut ?_); intro Q1'c hc'c) | ((with_reducible refine execs_cut ?_); intro Q1'c hc'c) | (with_reducible ((with_reducible show wpAny _ _ (compareOp .In (Value.str _ _) (Value.ref _)) _ _ _); refine' in_dict_yes (by with_reducible assumption) (by with_reducible assumption) (by with_reducible assumption) (by with_reducible assumption) ?_)) | (with_reducible ((with_reducible show wpAny _ _ (call (Value.type _) [Value.ref _]) _ _ _); k_dflt (refine' list_words (by with_reducible assumption) (by with_reducible assumption) (by with_reducible assumption) ?_); intro a'q c'q vs'q h'q F'q N'q S'q l'q; (try k_lt l'q); k_sweep)) | (with_reducible ((with_reducible show wpAny _ _ (subscriptTail _ _ (Value.ref _) (Value.str _ _)) _ _ _); refine' item_dict (by with_reducible assumption) (by with_reducible assumption) (by with_reducible assumption) ?_ (by with_unfolding_all rfl))) | walk1 | (dsimp only; walk1) | ((with_reducible show Q1'c _ _); first | ((with_reducible refine hc'c.n _ ?_); clear hc'c Q1'c; (try dsimp only)) | ((with_reducible refine hc'c.f _ _ (by first | (with_reducible exact retN) | (intro h; cases h)) ?_); clear hc'c Q1'c; (try dsimp only))) | fail "no step"))
    rename Fr _ _ _ _ => F
    rename News _ _ _ _ => N
    rename StrsAre _ _ => S
    refine loopK_list ["union"] (fun i => addU x (U.take i) ys) rfl nu du F N S rfl ?_ ?_
    · intro i k v t' u' vs e h' tk I' oI hk Sv hne F' N'
      obtain ⟨ms, hU, l, rfl, WU⟩ := eu.get hk
      have hvk := valueAt_of_get hnu hk
      have hsz := strs_size_le Sv (addU_take_le x i hle lu)
      have hstep := addU_step (x := x) (ys := ys) hU
      clear F N S
      (repeat' (first | ((with_reducible show wpAny _ _ (execs (List.cons (PySem.Stmt.If _ _ _ _) _) _) _ _ _); (try dsimp only); (with_reducible refine execs_cut ?_); intro Q1'c hc'c) | ((with_reducible refine execs_cut ?_); intro Q1'c hc'c) | (with_reducible ((with_reducible show wpAny _ _ (compareOp .In (Value.str _ _) (Value.ref _)) _ _ _); refine' in_words_b (by with_reducible assumption) (by with_reducible assumption) ?_)) | (with_reducible ((with_reducible show wpAny _ _ (call (Value.builtin _) [Value.ref _, _]) _ _ _); k_dflt (refine' append_K (by k_asm) (by k_asm) (by k_upd) ?_ (by with_reducible assumption); k_whole); intro h'q F'q N'q; (try simp only [List.push_toArray] at N'q); (try k_sweep))) | (with_reducible ((with_reducible show wpAny _ _ (subscriptTail _ _ (Value.ref _) (Value.str _ _)) _ _ _); refine' item_dict (by with_reducible assumption) (by with_reducible assumption) (by with_reducible assumption) ?_ (by with_unfolding_all rfl))) | walk1 | (dsimp only; walk1) | ((with_reducible show Q1'c _ _); first | ((with_reducible refine hc'c.n _ ?_); clear hc'c Q1'c; (try dsimp only)) | ((with_reducible refine hc'c.f _ _ (by first | (with_reducible exact retN) | (intro h; cases h)) ?_); clear hc'c Q1'c; (try dsimp only))) | fail "no step"))
      all_goals (rename Fr _ _ _ _ => F; rename News _ _ _ _ => N)
      · refine TE.list1 F N (by k_mem) (by k_mem) hne Sv (by rw [hstep]; simp only [*, Bool.not_true, Bool.and_false, Bool.false_eq_true, if_false]) (by walk_at "SAME3")
      · refine TE.list1 F N (by k_mem) (by k_mem) hne (Sv.append' (.cons _ _ .nil)) (by rw [hstep]; simp only [*, Bool.not_false, Bool.and_true, if_true]) (by walk_at "SAME3")
      · refine TE.list1 F N (by k_mem) (by k_mem) hne Sv (by rw [hstep]; simp only [*, Bool.false_and, Bool.false_eq_true, if_false]) (by walk_at "SAME3")
    · intro u' vs e h' tk Sv F' N'
      clear F N S
      try dsimp only
      (repeat' (first | ((with_reducible show wpAny _ _ (execs (List.cons (PySem.Stmt.If _ _ _ _) _) _) _ _ _); (try dsimp only); (with_reducible refine execs_cut ?_); intro Q1'c hc'c) | ((with_reducible refine execs_cut ?_); intro Q1'c hc'c) | walk1 | (dsimp only; walk1) | ((with_reducible show Q1'c _ _); first | ((with_reducible refine hc'c.n _ ?_); clear hc'c Q1'c; (try dsimp only)) | ((with_reducible refine hc'c.f _ _ (by first | (with_reducible exact retN) | (intro h; cases h)) ?_); clear hc'c Q1'c; (try dsimp only))) | fail "no step"))
      try dsimp only
      exact h _ _ _ _ _ F'.keep (N' _ (.head _)).2.2 (N' _ (.head _)).1 (hfin ▸ Sv)
  · (refine' enterF (by with_reducible assumption) (by with_reducible assumption) (by exact fun _ _ e => e) (by exact Nat.le_refl _) (by exact led0) (by k_is) (by k_is) (by decide) (by rfl) (by exact locs rfl) ?_ (by rfl) (by rfl) (by rfl) (by decide); intro h₁ F N)
    (repeat' (first | ((with_reducible show wpAny _ _ (execs (List.cons (PySem.Stmt.If _ _ _ _) _) _) _ _ _); (try dsimp only); (with_reducible refine execs_cut ?_); intro Q1'c hc'c) | ((with_reducible refine execs_cut ?_); intro Q1'c hc'c) | ((with_reducible show wpAny _ _ (call _ _ _) _ _ _); first | ((with_reducible show wpAny _ _ (call (Value.ref 88) _ _) _ _ _); refine' wpAL (bparents_spec (by with_reducible assumption) (by with_reducible assumption) (by exact Fr.keep (by with_reducible assumption)) ?_) (by rfl) (by exact Nat.le_of_ble_eq_true rfl) (by exact Nat.le_of_ble_eq_true rfl) (by rfl) (by rfl); intro h'q tk'q a'q vs'q k'q f'q o'q S'q; (have q'q := led_new (by with_reducible assumption) (by with_reducible assumption) k'q f'q o'q); have F'q := q'q.1; have N'q := q'q.2.1; have l'q := q'q.2.2; clear q'q; (try simp only [AllNe, and_true] at l'q); k_sweep) | ((with_reducible show wpAny _ _ (call (Value.ref 130) _ _) _ _ _); refine' wpAL (basic_spec (by with_reducible assumption) (by with_reducible assumption) (by exact Fr.keep (by with_reducible assumption)) ?_) (by rfl) (by exact Nat.le_of_ble_eq_true rfl) (by exact Nat.le_of_ble_eq_true rfl) (by rfl) (by rfl); intro h'q tk'q k'q; (have q'q := led_old (by with_reducible assumption) (by with_reducible assumption) k'q); have F'q := q'q.1; have N'q := q'q.2; clear q'q; k_sweep)) | (with_reducible ((with_reducible show wpAny _ _ (compareOp .In (Value.str _ _) (Value.ref _)) _ _ _); refine' in_dict_no (by with_reducible assumption) (by with_reducible assumption) (by with_reducible assumption) (by with_reducible assumption) ?_)) | walk1 | (dsimp only; walk1) | ((with_reducible show Q1'c _ _); first | ((with_reducible refine hc'c.n _ ?_); clear hc'c Q1'c; (try dsimp only)) | ((with_reducible refine hc'c.f _ _ (by first | (with_reducible exact retN) | (intro h; cases h)) ?_); clear hc'c Q1'c; (try dsimp only))) | fail "no step"))
    · obtain ⟨ys, hys⟩ : ∃ ys, ys = basicParents x := ⟨_, rfl⟩
      rename StrsAre _ _ => S
      rename (basicNames.any _) = true => hb
      rw [← hys] at S
      have hle : ys.length ≤ 1000 := hys ▸ basicParents_le x
      have hfin := loop ys hle (by unfold baseParents; rw [hd1]; simp only [hb, if_true, hys])
      clear hys
      rename Fr _ _ _ _ => F
      rename News _ _ _ _ => N
      refine loopK_list ["union"] (fun i => addU x (U.take i) ys) rfl nu du F N S rfl ?_ ?_
      · intro i k v t' u' vs e h' tk I' oI hk Sv hne F' N'
        obtain ⟨ms, hU, l, rfl, WU⟩ := eu.get hk
        have hvk := valueAt_of_get hnu hk
        have hsz := strs_size_le Sv (addU_take_le x i hle lu)
        have hstep := addU_step (x := x) (ys := ys) hU
        clear F N S
        (repeat' (first | ((with_reducible show wpAny _ _ (execs (List.cons (PySem.Stmt.If _ _ _ _) _) _) _ _ _); (try dsimp only); (with_reducible refine execs_cut ?_); intro Q1'c hc'c) | ((with_reducible refine execs_cut ?_); intro Q1'c hc'c) | (with_reducible ((with_reducible show wpAny _ _ (compareOp .In (Value.str _ _) (Value.ref _)) _ _ _); refine' in_words_b (by with_reducible assumption) (by with_reducible assumption) ?_)) | (with_reducible ((with_reducible show wpAny _ _ (call (Value.builtin _) [Value.ref _, _]) _ _ _); k_dflt (refine' append_K (by k_asm) (by k_asm) (by k_upd) ?_ (by with_reducible assumption); k_whole); intro h'q F'q N'q; (try simp only [List.push_toArray] at N'q); (try k_sweep))) | (with_reducible ((with_reducible show wpAny _ _ (subscriptTail _ _ (Value.ref _) (Value.str _ _)) _ _ _); refine' item_dict (by with_reducible assumption) (by with_reducible assumption) (by with_reducible assumption) ?_ (by with_unfolding_all rfl))) | walk1 | (dsimp only; walk1) | ((with_reducible show Q1'c _ _); first | ((with_reducible refine hc'c.n _ ?_); clear hc'c Q1'c; (try dsimp only)) | ((with_reducible refine hc'c.f _ _ (by first | (with_reducible exact retN) | (intro h; cases h)) ?_); clear hc'c Q1'c; (try dsimp only))) | fail "no step"))
        all_goals (rename Fr _ _ _ _ => F; rename News _ _ _ _ => N)
        · refine TE.list1 F N (by k_mem) (by k_mem) hne Sv (by rw [hstep]; simp only [*, Bool.not_true, Bool.and_false, Bool.false_eq_true, if_false]) (by walk_at "SAME3")
        · refine TE.list1 F N (by k_mem) (by k_mem) hne (Sv.append' (.cons _ _ .nil)) (by rw [hstep]; simp only [*, Bool.not_false, Bool.and_true, if_true]) (by walk_at "SAME3")
        · refine TE.list1 F N (by k_mem) (by k_mem) hne Sv (by rw [hstep]; simp only [*, Bool.false_and, Bool.false_eq_true, if_false]) (by walk_at "SAME3")
      · intro u' vs e h' tk Sv F' N'
        clear F N S
        try dsimp only
        (repeat' (first | ((with_reducible show wpAny _ _ (execs (List.cons (PySem.Stmt.If _ _ _ _) _) _) _ _ _); (try dsimp only); (with_reducible refine execs_cut ?_); intro Q1'c hc'c) | ((with_reducible refine execs_cut ?_); intro Q1'c hc'c) | walk1 | (dsimp only; walk1) | ((with_reducible show Q1'c _ _); first | ((with_reducible refine hc'c.n _ ?_); clear hc'c Q1'c; (try dsimp only)) | ((with_reducible refine hc'c.f _ _ (by first | (with_reducible exact retN) | (intro h; cases h)) ?_); clear hc'c Q1'c; (try dsimp only))) | fail "no step"))
        try dsimp only
        exact h _ _ _ _ _ F'.keep (N' _ (.head _)).2.2 (N' _ (.head _)).1 (hfin ▸ Sv)
    · obtain ⟨ys, hys⟩ : ∃ ys : List Str, ys = [] := ⟨_, rfl⟩
      rename (basicNames.any _) = false => hb
      have S : StrsAre [] ys := hys ▸ .nil
      have hle : ys.length ≤ 1000 := hys ▸ Nat.zero_le _
      have hfin := loop ys hle (by unfold baseParents; rw [hd1]; simp only [hb, Bool.false_eq_true, if_false, hys])
      clear hys
      rename Fr _ _ _ _ => F
      rename News _ _ _ _ => N
      refine loopK_list ["union"] (fun i => addU x (U.take i) ys) rfl nu du F N S rfl ?_ ?_
      · intro i k v t' u' vs e h' tk I' oI hk Sv hne F' N'
        obtain ⟨ms, hU, l, rfl, WU⟩ := eu.get hk
        have hvk := valueAt_of_get hnu hk
        have hsz := strs_size_le Sv (addU_take_le x i hle lu)
        have hstep := addU_step (x := x) (ys := ys) hU
        clear F N S
        (repeat' (first | ((with_reducible show wpAny _ _ (execs (List.cons (PySem.Stmt.If _ _ _ _) _) _) _ _ _); (try dsimp only); (with_reducible refine execs_cut ?_); intro Q1'c hc'c) | ((with_reducible refine execs_cut ?_); intro Q1'c hc'c) | (with_reducible ((with_reducible show wpAny _ _ (compareOp .In (Value.str _ _) (Value.ref _)) _ _ _); refine' in_words_b (by with_reducible assumption) (by with_reducible assumption) ?_)) | (with_reducible ((with_reducible show wpAny _ _ (call (Value.builtin _) [Value.ref _, _]) _ _ _); k_dflt (refine' append_K (by k_asm) (by k_asm) (by k_upd) ?_ (by with_reducible assumption); k_whole); intro h'q F'q N'q; (try simp only [List.push_toArray] at N'q); (try k_sweep))) | (with_reducible ((with_reducible show wpAny _ _ (subscriptTail _ _ (Value.ref _) (Value.str _ _)) _ _ _); refine' item_dict (by with_reducible assumption) (by with_reducible assumption) (by with_reducible assumption) ?_ (by with_unfolding_all rfl))) | walk1 | (dsimp only; walk1) | ((with_reducible show Q1'c _ _); first | ((with_reducible refine hc'c.n _ ?_); clear hc'c Q1'c; (try dsimp only)) | ((with_reducible refine hc'c.f _ _ (by first | (with_reducible exact retN) | (intro h; cases h)) ?_); clear hc'c Q1'c; (try dsimp only))) | fail "no step"))
        all_goals (rename Fr _ _ _ _ => F; rename News _ _ _ _ => N)
        · refine TE.list1 F N (by k_mem) (by k_mem) hne Sv (by rw [hstep]; simp only [*, Bool.not_true, Bool.and_false, Bool.false_eq_true, if_false]) (by walk_at "SAME3")
        · refine TE.list1 F N (by k_mem) (by k_mem) hne (Sv.append' (.cons _ _ .nil)) (by rw [hstep]; simp only [*, Bool.not_false, Bool.and_true, if_true]) (by walk_at "SAME3")
        · refine TE.list1 F N (by k_mem) (by k_mem) hne Sv (by rw [hstep]; simp only [*, Bool.false_and, Bool.false_eq_true, if_false]) (by walk_at "SAME3")
      · intro u' vs e h' tk Sv F' N'
        clear F N S
        try dsimp only
        (repeat' (first | ((with_reducible show wpAny _ _ (execs (List.cons (PySem.Stmt.If _ _ _ _) _) _) _ _ _); (try dsimp only); (with_reducible refine execs_cut ?_); intro Q1'c hc'c) | ((with_reducible refine execs_cut ?_); intro Q1'c hc'c) | walk1 | (dsimp only; walk1) | ((with_reducible show Q1'c _ _); first | ((with_reducible refine hc'c.n _ ?_); clear hc'c Q1'c; (try dsimp only)) | ((with_reducible refine hc'c.f _ _ (by first | (with_reducible exact retN) | (intro h; cases h)) ?_); clear hc'c Q1'c; (try dsimp only))) | fail "no step"))
        try dsimp only
        exact h _ _ _ _ _ F'.keep (N' _ (.head _)).2.2 (N' _ (.head _)).1 (hfin ▸ Sv)

set_option maxHeartbeats 400000
inductive All2 {α β : Type} (R : α → β → Prop) : List α → List β → Prop
  | nil : All2 R [] []
  | cons {a : α} {b : β} {as : List α} {bs : List β} : R a b → All2 R as bs → All2 R (a :: as) (b :: bs)
section
variable {α β : Type} {R R' : α → β → Prop} {as as' : List α} {bs bs' : List β}
theorem All2.length (h : All2 R as bs) : as.length = bs.length := by
  induction h with
  | nil => rfl
  | cons _ _ ih => simp [ih]
theorem All2.mono (h : All2 R as bs) (k : ∀ a b, R a b → R' a b) : All2 R' as bs := by
  induction h with
  | nil => exact .nil
  | cons r _ ih => exact .cons (k _ _ r) ih
theorem All2.append (h : All2 R as bs) (h' : All2 R as' bs') : All2 R (as ++ as') (bs ++ bs') := by
  induction h with
  | nil => exact h'
  | cons r _ ih => exact .cons r ih
theorem All2.snoc {a : α} {b : β} (h : All2 R as bs) (r : R a b) : All2 R (as ++ [a]) (bs ++ [b]) := h.append (.cons r .nil)
theorem All2.get (h : All2 R as bs) : ∀ {i : Nat} {b : β}, bs[i]? = some b → ∃ a, as[i]? = some a ∧ R a b := by
  induction h with
  | nil => intro i b e; simp at e
  | cons r _ ih =>
    intro i b e
    cases i with
    | zero => simp at e; exact ⟨_, by simp, e ▸ r⟩
    | succ i => simpa using ih (by simpa using e)
theorem All2.get' (h : All2 R as bs) : ∀ {i : Nat} {a : α}, as[i]? = some a → ∃ b, bs[i]? = some b ∧ R a b := by
  induction h with
  | nil => intro i b e; simp at e
  | cons r _ ih =>
    intro i b e
    cases i with
    | zero => simp at e; exact ⟨_, by simp, e ▸ r⟩
    | succ i => simpa using ih (by simpa using e)
theorem All2.drop (h : All2 R as bs) : ∀ n : Nat, All2 R (as.drop n) (bs.drop n) := by
  induction h with
  | nil => intro n; simpa using .nil
  | cons r h' ih =>
    intro n
    cases n with
    | zero => exact .cons r h'
    | succ n => simpa using ih n
theorem All2.take (h : All2 R as bs) : ∀ n : Nat, All2 R (as.take n) (bs.take n) := by
  induction h with
  | nil => intro n; simpa using .nil
  | cons r h' ih =>
    intro n
    cases n with
    | zero => exact .nil
    | succ n => simpa using .cons r (ih n)
end
theorem memN {α : Type} {a : α} {l : List α} (h : a ∈ l) : List.Mem a l := h
abbrev tupO (y : Str) (t : Tok) (n : Nat) (t' : Tok) : Obj := { cls := .type "tuple", data := .seq (List.toArray [.str y t, .int (n : Int) t']) }
/-- a row told by what a list of objects holds -/
noncomputable def RowV (tl : List (Addr × Obj)) (v : Value) (r : Str × Nat) : Prop := ∃ T t t', v = .ref T ∧ (T, tupO r.1 t r.2 t') ∈ tl
theorem RowV.mono {tl tl' : List (Addr × Obj)} (h : ∀ p ∈ tl, p ∈ tl') {v : Value} {r : Str × Nat} (x : RowV tl v r) : RowV tl' v r := let ⟨T, t, t', e, m⟩ := x; ⟨T, t, t', e, h _ m⟩
theorem rowGet {P : Prop} {H : List (Addr × Obj)} {vs : List Value} {R : List (Str × Nat)} {i : Nat} {v : Value} (A : All2 (RowV H) vs R) (hi : vs[i]? = some v)
    (k : ∀ (z : Str) (n : Nat) (T1 : Addr) (tz tn : Tok), R[i]? = some (z, n) → v = .ref T1 → (T1, tupO z tz n tn) ∈ H → P) : P := by
  obtain ⟨⟨z, n⟩, hz, T1, tz, tn, e, hT1⟩ := A.get' hi
  exact k z n T1 tz tn hz e hT1
theorem rowGetB {P : Prop} {H : List (Addr × Obj)} {vs : List Value} {R : List (Str × Nat)} {i : Nat} {r : Str × Nat} (A : All2 (RowV H) vs R) (hi : R[i]? = some r)
    (k : ∀ (v : Value) (T1 : Addr) (tz tn : Tok), vs[i]? = some v → v = .ref T1 → (T1, tupO r.1 tz r.2 tn) ∈ H → P) : P := by
  obtain ⟨v, hv, T1, tz, tn, e, hT1⟩ := A.get hi
  exact k v T1 tz tn hv e hT1
/-- a row at a heap -/
noncomputable def RowH (h : Heap) (v : Value) (r : Str × Nat) : Prop := ∃ T t t', v = .ref T ∧ h.get? T = some (tupO r.1 t r.2 t')
theorem RowH.up {h h' : Heap} (k : Sub h h') {v : Value} {r : Str × Nat} (x : RowH h v r) : RowH h' v r := let ⟨T, t, t', e, m⟩ := x; ⟨T, t, t', e, k _ _ m⟩

/-- the end of a while's turn -/
noncomputable def WE (h₀ : Heap) (L : Addr) (z : Str) (xs : List Str) (m₀ : Str → Option Value) (J : Nat → Int → List (Addr × Obj) → Prop) (k : Nat) (held : List (Addr × Obj)) (s : Shared) (Q : Flow → Shared → Prop) (f : Flow) (s₂ : Shared) : Prop :=
  match f with
  | .ret v => Q (.ret v) s₂
  | .brk => Q .next s₂
  | _ => ∃ h' tk' m' news' nx k' a' t', s₂ = { s with heap := h', toks := tk' } ∧ Fr h₀ L h' m' ∧ News h₀ L h' news' ∧ (∀ p ∈ nx, p ∈ news') ∧ (∀ p ∈ held, p ∈ news') ∧ k' < k ∧ J k' a' nx ∧ m' z = some (.int a' t') ∧ ∀ y, y ≠ z → xs.contains y = false → m' y = m₀ y
theorem WE.next {h₀ : Heap} {L : Addr} {z : Str} {xs : List Str} {m₀ m' : Str → Option Value} {J : Nat → Int → List (Addr × Obj) → Prop} {k k' : Nat} {a' : Int} {t' : Tok} {held news' nx : List (Addr × Obj)} {s : Shared} {Q : Flow → Shared → Prop} {h' : Heap} {tk' : Nat}
    (F : Fr h₀ L h' m') (N : News h₀ L h' news') (hn : ∀ p ∈ nx, p ∈ news') (ho : ∀ p ∈ held, p ∈ news') (hk : k' < k) (hj : J k' a' nx) (hz : m' z = some (.int a' t')) (hm : ∀ y, y ≠ z → xs.contains y = false → m' y = m₀ y) :
    WE h₀ L z xs m₀ J k held s Q .next { s with heap := h', toks := tk' } := ⟨h', tk', m', news', nx, k', a', t', rfl, F, N, hn, ho, hk, hj, hz, hm⟩
/-- the turn of a while -/
noncomputable def WTurn (w : World) (A : Around) (test : Expr) (body : List Stmt) (env : Env) (P : Flow → Shared → Prop) (Q : Shared → Prop) (s : Shared) : Prop :=
  wpAny (model PG w) A (isTrue test env (eval test env)) (fun b s₂ => if b = true then wpAny (model PG w) A (execs body env) P (fun _ _ => False) s₂ else Q s₂) (fun _ _ => False) s
theorem loopWh {w : World} {A : Around} {test : Expr} {body : List Stmt} {env : Env} {pos : Pos} {Q : Flow → Shared → Prop} {s : Shared} {h₀ : Heap} {m₀ : Str → Option Value} {news₀ held : List (Addr × Obj)} {a₀ : Int} {t₀ : Tok} {k₀ : Nat}
    (z : Str) (xs : List Str) (J : Nat → Int → List (Addr × Obj) → Prop)
    (F : Fr h₀ env.locals s.heap m₀) (N : News h₀ env.locals s.heap (news₀ ++ held)) (hz : m₀ z = some (.int a₀ t₀)) (hj : J k₀ a₀ news₀)
    (turn : ∀ k a t (u : Str → Option Value) news₁ h tk, J k a news₁ → Fr h₀ env.locals h (fun y => if y = z then some (.int a t) else if xs.contains y then u y else m₀ y) → News h₀ env.locals h (news₁ ++ held) →
      WTurn w A test body env (WE h₀ env.locals z xs m₀ J k held s Q) (Q .next) { s with heap := h, toks := tk }) :
    wpAny (model PG w) A (exec (.While test body [] pos) env) Q (fun _ _ => False) s := by
  refine wpAny_While (codeAny_whileLoop
    (fun k s' => ∃ h' tk m' news' a t, s' = { s with heap := h', toks := tk } ∧ Fr h₀ env.locals h' m' ∧ News h₀ env.locals h' (news' ++ held) ∧ J k a news' ∧ m' z = some (.int a t) ∧ ∀ y, y ≠ z → xs.contains y = false → m' y = m₀ y) ?_ k₀
    ⟨s.heap, s.toks, m₀, news₀, a₀, t₀, rfl, F, N, hj, hz, fun _ _ _ => rfl⟩)
  rintro k s' ⟨h', tk, m', news', a, t, rfl, F', N', hJ, hz', hm⟩
  have e : m' = fun y => if y = z then some (.int a t) else if xs.contains y then m' y else m₀ y := by
    funext y
    by_cases hy : y = z
    · rw [if_pos hy, hy]; exact hz'
    · rw [if_neg hy]
      by_cases hx : xs.contains y = true
      · rw [if_pos hx]
      · rw [if_neg hx]; exact hm y hy (by simpa using hx)
  rw [e] at F'
  refine wpAny_noRaise (wpAny_mono (turn k a t m' news' h' tk hJ F' N') (fun b s₂ h₂ => ?_) fun _ _ x => x)
  cases b with
  | false =>
    rw [if_neg Bool.false_ne_true] at h₂
    rw [if_neg Bool.false_ne_true]
    exact wpAny_execs_nil h₂
  | true =>
    rw [if_pos rfl] at h₂
    rw [if_pos rfl]
    refine wpAny_noRaise (wpAny_mono h₂ (fun f s₃ h₃ => ?_) fun _ _ x => x)
    have fin : (∃ h' tk' m' news' nx k' a' t', s₃ = { s with heap := h', toks := tk' } ∧ Fr h₀ env.locals h' m' ∧ News h₀ env.locals h' news' ∧ (∀ p ∈ nx, p ∈ news') ∧ (∀ p ∈ held, p ∈ news') ∧ k' < k ∧ J k' a' nx ∧ m' z = some (.int a' t') ∧ ∀ y, y ≠ z → xs.contains y = false → m' y = m₀ y) →
        ∃ m, m < k ∧ ∃ h' tk m' news' a t, s₃ = { s with heap := h', toks := tk } ∧ Fr h₀ env.locals h' m' ∧ News h₀ env.locals h' (news' ++ held) ∧ J m a news' ∧ m' z = some (.int a t) ∧ ∀ y, y ≠ z → xs.contains y = false → m' y = m₀ y := by
      rintro ⟨h₃', tk₃, m₃, news₃, nx, k', a', t', rfl, F₃, N₃, hn₃, ho₃, hk, hJ₃, hz₃, hm₃⟩
      exact ⟨k', hk, h₃', tk₃, m₃, nx, a', t', rfl, F₃, fun p hp => N₃ p ((List.mem_append.mp hp).elim (hn₃ p) (ho₃ p)), hJ₃, hz₃, hm₃⟩
    cases f with
    | ret v => exact h₃
    | brk => exact h₃
    | next => exact fin h₃
    | cont => exact fin h₃

section
variable {w : World} {A : Around} {E : Value → Shared → Prop} {s : Shared} {h₀ : Heap} {L d l : Addr} {m : Str → Option Value} {kvs : List (Str × Value)} {x : Str} {t : Tok} {news : List (Addr × Obj)} {o : Obj} {v : Value}
theorem in_led {Q : Value → Shared → Prop} (N : News h₀ L s.heap news) (hm : (d, o) ∈ news) (ho : o.IsDictOf (strKind PG w) kvs) (hds : (d == sysModules) = false) (h : Q (.bool (valueAt kvs x).isSome) { s with toks := s.toks + 1 }) :
    wpAny (model PG w) A (compareOp .In (.str x t) (.ref d)) Q E s := wpAny_in_of (strKind_is _ _ _ _) hds (Heap.dictOf_iff.mpr ⟨o, (N _ hm).1, ho⟩).mapOf h
theorem notin_led {Q : Value → Shared → Prop} (N : News h₀ L s.heap news) (hm : (d, o) ∈ news) (ho : o.IsDictOf (strKind PG w) kvs) (hds : (d == sysModules) = false) (h : Q (.bool !(valueAt kvs x).isSome) { s with toks := s.toks + 1 }) :
    wpAny (model PG w) A (compareOp .NotIn (.str x t) (.ref d)) Q E s := wpAny_notIn_of (strKind_is _ _ _ _) hds (Heap.dictOf_iff.mpr ⟨o, (N _ hm).1, ho⟩).mapOf h
theorem item_led {value slice : Expr} {Q : Value → Shared → Prop} (N : News h₀ L s.heap news) (hm : (d, o) ∈ news) (ho : o.IsDictOf (strKind PG w) kvs) (hv : valueAt kvs x = some v) (h : Q v { s with toks := s.toks + 1 })
    (hs : subscripted slice false (.ref d) (.str x t) = operate [.ref d, .str x t] (getItem (.ref d) (.str x t)) := by with_unfolding_all rfl) :
    wpAny (model PG w) A (subscriptTail value slice (.ref d) (.str x t)) Q E s :=
  have hm' := (Heap.dictOf_iff.mpr ⟨o, (N _ hm).1, ho⟩).mapOf
  tail_any hm'.typeIs slot_dict_getitem.lookup (wpAny_getItem_of (strKind_is _ _ _ _) hm' hv h) hs
theorem set_led {Q : Unit → Shared → Prop} {gf : Obj → List (Addr × Obj)} (F : Fr h₀ L s.heap m) (N : News h₀ L s.heap news) (U : UpdF d o news gf) (ho : o.IsDictOf (strKind PG w) kvs) (hsz : kvs.length ≤ 100000)
    (h : ∀ h' o', Fr h₀ L h' m → News h₀ L h' (gf o') → o'.IsDictOf (strKind PG w) (stored kvs x v) → Q () { s with heap := h', toks := s.toks + 1 }) :
    wpAny (model PG w) A (setItem (.ref d) (.str x t) v) Q E s := by
  obtain ⟨pre, post, e, hg, a, b⟩ := U.split
  have hmem := N (d, o) (by rw [e]; exact List.mem_append_right _ (.head _))
  refine wpAny_setItem_pairs (strKind_is _ _ _ _) (Heap.dictOf_iff.mpr ⟨o, hmem.1, ho⟩) (fun h' hd hs => ?_) (by rw [sizeLine_eq]; omega)
  obtain ⟨o', ho', hd'⟩ := Heap.dictOf_iff.mp hd
  obtain ⟨F', N'⟩ := afterUpd F N U (fun b x n q => (hs.2 b n).trans q) ho'
  exact h h' o' F' N' hd'
theorem kdn_any {gf : Obj → List (Addr × Obj)} {vs : List (Value × Value)} {Q : Value → Shared → Prop} (F : Fr h₀ L s.heap m) (N : News h₀ L s.heap news) (U : UpdF d o news gf) (hd : o.IsDictOf (strKind PG w) []) (hc : Carries (strKind PG w) vs kvs)
    (h : ∀ h' o', Fr h₀ L h' m → News h₀ L h' (gf o') → o'.IsDictOf (strKind PG w) (merged [] kvs) → Q (.ref d) { s with heap := h', toks := s.toks + vs.length }) : KdnMade PG w (strKind PG w) d Q vs s := by
  obtain ⟨pre, post, e, hg, a, b⟩ := U.split
  have hmem := N (d, o) (by rw [e]; exact List.mem_append_right _ (.head _))
  refine ⟨kvs, hc, Heap.dictOf_iff.mpr ⟨o, hmem.1, hd⟩, fun h' hm hs => ?_⟩
  obtain ⟨o', ho', hd'⟩ := Heap.dictOf_iff.mp hm
  obtain ⟨F', N'⟩ := afterUpd F N U (fun b x n q => (hs.2 b n).trans q) ho'
  exact h h' o' F' N' hd'
theorem item_led_list {value slice : Expr} {vs : List Value} {e : Nat} {i : Int} {u : Tok} {Q : Value → Shared → Prop} (N : News h₀ L s.heap news) (hx : vs[i.toNat]? = some v) (hm : (l, listOf (List.toArray vs) e) ∈ news) (h0 : 0 ≤ i) (h1 : i < 2 ^ 63) (h : Q v s)
    (hs : subscripted slice false (.ref l) (.int i u) = operate [.ref l, .int i u] (getItem (.ref l) (.int i u)) := by with_unfolding_all rfl) :
    wpAny (model PG w) A (subscriptTail value slice (.ref l) (.int i u)) Q E s := by
  have hL := News.isList N hm
  exact tail_any hL.typeIs slot_list_getitem.lookup (wpAny_getItem_list hL h0 h1 (by simpa using hx) h) hs
end
theorem len_led {w : World} {A : Around} {E : Value → Shared → Prop} {s : Shared} {h₀ : Heap} {L l : Addr} {news : List (Addr × Obj)} {vs : List Value} {e : Nat} {Q : Value → Shared → Prop} (N : News h₀ L s.heap news) (hm : (l, listOf (List.toArray vs) e) ∈ news) (hf : vs.length ≤ 100000)
    (h : Q (.int vs.length (s.toks + 1)) { s with toks := s.toks + 1 + 1 }) : wpAny (model PG w) A (call (.builtin "len") [.ref l]) Q E s := by
  have e1 : (List.toArray vs).size = vs.length := by simp
  refine PyProof.Rows.len_list (News.isList N hm) (by rw [e1]; omega) ?_
  rw [e1]; exact h
theorem valueAt_stored (kvs : List (Str × Value)) (k : Str) (v : Value) (y : Str) : valueAt (stored kvs k v) y = if y = k then some v else valueAt kvs y := by
  have hmap : ∀ l : List (Str × Value), valueAt (l.map fun kv => if kv.1 = k then (kv.1, v) else kv) y = if y = k then (if l.any (fun kv => decide (kv.1 = k)) then some v else none) else valueAt l y := by
    intro l
    induction l with
    | nil => simp [valueAt]
    | cons p l ih =>
      unfold valueAt at ih ⊢
      rw [List.map_cons, List.find?_cons, List.find?_cons]
      by_cases hp : p.1 = k
      · rw [if_pos hp]
        by_cases hy : y = k
        · subst hy; simp [hp]
        · have : ¬ p.1 = y := fun e => hy (e ▸ hp)
          simp only [this, decide_false, if_neg hy]
          rw [ih, if_neg hy]
      · rw [if_neg hp]
        by_cases hy : p.1 = y
        · have hyk : ¬ y = k := fun e => hp (hy.trans e)
          simp [hy, hyk]
        · simp only [hy, decide_false]
          rw [ih]
          by_cases hyk : y = k
          · rw [if_pos hyk, if_pos hyk, List.any_cons, decide_eq_false hp, Bool.false_or]
          · simp [hyk]
  unfold stored
  split
  · rename_i hany
    rw [hmap, hany]
    simp
  · rename_i hany
    have hno : ∀ p ∈ kvs, ¬ p.1 = k := fun p hp e => hany (List.any_eq_true.mpr ⟨p, hp, by simp [e]⟩)
    unfold valueAt
    rw [List.find?_append]
    by_cases hy : y = k
    · subst hy
      have : kvs.find? (fun kv => decide (kv.1 = y)) = none := List.find?_eq_none.mpr fun p hp => by simpa using hno p hp
      rw [this]; simp
    · have : ¬ k = y := fun e => hy e.symm
      simp [hy, this]

set_option maxHeartbeats 8000000
noncomputable def addP (n : Nat) (R : List (Str × Nat)) (ps : List Str) : List (Str × Nat) := ps.foldl (fun R p => if p == ("ANY" : Str) || R.any (fun r => r.1 == p) then R else R ++ [(p, n)]) R
noncomputable def bst (par : Str → List Str) (x : Str) : Nat → List (Str × Nat)
  | 0 => [(x, 0)]
  | k + 1 => match (bst par x k)[k]? with
    | some (y, n) => addP (n + 1) (bst par x k) (par y)
    | none => bst par x k
noncomputable def lastN (R : List (Str × Nat)) : Nat := (R.getLast?.map (·.2)).getD 0
noncomputable def supersFrom (x : Str) (R : List (Str × Nat)) : List (Str × Nat) := (if x == ("ANY" : Str) then R else R ++ [(("ANY" : Str), lastN R + 1)]).drop 1
theorem addP_take_succ {n : Nat} {R : List (Str × Nat)} {ps : List Str} {i : Nat} {p : Str} (h : ps[i]? = some p) :
    addP n R (ps.take (i + 1)) = if p == ("ANY" : Str) || (addP n R (ps.take i)).any (fun r => r.1 == p) then addP n R (ps.take i) else addP n R (ps.take i) ++ [(p, n)] := by
  unfold addP
  rw [List.take_add_one, h]
  simp only [Option.toList_some, List.foldl_append, List.foldl_cons, List.foldl_nil]
theorem addP_ge (n : Nat) : ∀ (ps : List Str) (R : List (Str × Nat)), R.length ≤ (addP n R ps).length
  | [], R => Nat.le_refl _
  | p :: ps, R => by
    have e : addP n R (p :: ps) = addP n (if p == ("ANY" : Str) || R.any (fun r => r.1 == p) then R else R ++ [(p, n)]) ps := rfl
    rw [e]
    refine Nat.le_trans ?_ (addP_ge n ps _)
    split <;> simp
theorem addP_append (n : Nat) (R : List (Str × Nat)) (ps qs : List Str) : addP n R (ps ++ qs) = addP n (addP n R ps) qs := by unfold addP; rw [List.foldl_append]
theorem addP_take_le (n : Nat) (R : List (Str × Nat)) (ps : List Str) (i : Nat) : (addP n R (ps.take i)).length ≤ (addP n R ps).length := by
  have := addP_ge n (ps.drop i) (addP n R (ps.take i))
  rw [← addP_append, List.take_append_drop] at this
  exact this
/-- what the names seen are -/
noncomputable def SeenOk (kvs : List (Str × Value)) (R : List (Str × Nat)) : Prop := kvs.length ≤ R.length + 1 ∧ ∀ p, (valueAt kvs p).isSome = (p == ("ANY" : Str) || R.any (fun r => r.1 == p))
theorem SeenOk.push {kvs : List (Str × Value)} {R : List (Str × Nat)} (h : SeenOk kvs R) (p : Str) (n : Nat) (v : Value) : SeenOk (stored kvs p v) (R ++ [(p, n)]) := by
  refine ⟨?_, fun q => ?_⟩
  · have := stored_length_le kvs p v
    have := h.1
    simp; omega
  · rw [valueAt_stored]
    by_cases hq : q = p
    · simp [hq]
    · have hq' : ¬ p = q := fun e => hq e.symm
      rw [if_neg hq, h.2 q]
      have hq2 : (p == q) = false := by simpa using hq'
      simp [hq2]
/-- the head of a while -/
noncomputable def AtWhile (w : World) (A : Around) (test : Expr) (body : List Stmt) (env : Env) (pos : Pos) (Q : Flow → Shared → Prop) (s : Shared) : Prop := wpAny (model PG w) A (exec (.While test body [] pos) env) Q (fun _ _ => False) s
theorem While_at {w : World} {A : Around} {test : Expr} {body : List Stmt} {env : Env} {pos : Pos} {Q : Flow → Shared → Prop} {s : Shared} (h : AtWhile w A test body env pos Q s) : wpAny (model PG w) A (exec (.While test body [] pos) env) Q (fun _ _ => False) s := h
local macro_rules | `(tactic| walk_at "exec While Compare cons nil") => `(tactic| (k_here; k_dflt (refine While_at ?_)))
local macro_rules | `(tactic| k_mem) => `(tactic| exact memN (by with_reducible assumption))
local macro_rules | `(tactic| k_all) => `(tactic| exact allNe_mem (by with_reducible assumption))
local macro_rules | `(tactic| k_all) => `(tactic| (refine List.forall_mem_append.mpr ⟨?a, ?b⟩; (case a => k_all); (case b => k_all)))
local macro_rules | `(tactic| walk_at "KdnMade") => `(tactic| (k_here; k_dflt (refine' kdn_any ?F ?N ?U ?d ?c ?_; (case F => with_reducible assumption); (case N => with_reducible assumption); (case U => k_updF); (case d => with_reducible assumption); (case c => exact carries_strPairs _ _ _ rfl)); intro h' o' F' N' hd'; (try dsimp only at N'); (try k_sweep)))
/-- the state of the search: the rows and the names seen -/
noncomputable def SupI (w : World) (sd rw : Addr) (R : List (Str × Nat)) (nx : List (Addr × Obj)) : Prop :=
  ∃ vs e so kvs tl, nx = (sd, so) :: (rw, listOf (List.toArray vs) e) :: tl ∧ so.IsDictOf (strKind PG w) kvs ∧ SeenOk kvs R ∧ All2 (RowV tl) vs R ∧ AllNe sd tl ∧ AllNe rw tl ∧ @Ne Nat rw sd
noncomputable def SupJ (w : World) (par : Str → List Str) (x : Str) (sd rw : Addr) (k : Nat) (a : Int) (nx : List (Addr × Obj)) : Prop :=
  ∃ j : Nat, a = j ∧ k + j = 101 ∧ j ≤ (bst par x j).length ∧ SupI w sd rw (bst par x j) nx
theorem bst_pos (par : Str → List Str) (x : Str) : ∀ k, 0 < (bst par x k).length
  | 0 => Nat.zero_lt_one
  | k + 1 => by
    have ih := bst_pos par x k
    unfold bst
    split
    · exact Nat.lt_of_lt_of_le ih (addP_ge _ _ _)
    · exact ih
theorem seen0 (x : Str) (v v' : Value) : SeenOk (stored (stored [] x v) "ANY" v') [(x, 0)] := by
  refine ⟨?_, fun p => ?_⟩
  · have h1 := stored_length_le ([] : List (Str × Value)) x v
    have h2 := stored_length_le (stored ([] : List (Str × Value)) x v) "ANY" v'
    simp at *; omega
  · rw [valueAt_stored, valueAt_stored]
    by_cases h : p = ("ANY" : Str)
    · simp [h]
    · have h' : (p == ("ANY" : Str)) = false := by simpa using h
      rw [if_neg h, h']
      by_cases hx : p = x
      · simp [hx]
      · have hx' : (x == p) = false := by simpa using fun e => hx e.symm
        rw [if_neg hx]; simp [valueAt, hx']
theorem slice1 (vs : List Value) (h : 0 < vs.length) : slicePick (List.toArray vs) (some 1) none none = List.toArray (vs.drop 1) := slicePick_from (List.toArray vs) 1 (by rw [List.size_toArray]; exact h)
theorem lastN_eq {R : List (Str × Nat)} {i n : Nat} {y : Str} (h : R[i]? = some (y, n)) (hl : i = R.length - 1) : lastN R = n := by
  unfold lastN; rw [List.getLast?_eq_getElem?, ← hl, h]; rfl
theorem News.of {h₀ h : Heap} {L : Addr} {l l' : List (Addr × Obj)} (N : News h₀ L h l) (k : ∀ p ∈ l', p ∈ l) : News h₀ L h l' := fun p hp => N p (k p hp)
theorem bst_succ {par : Str → List Str} {x y : Str} {j n : Nat} (h : (bst par x j)[j]? = some (y, n)) : bst par x (j + 1) = addP (n + 1) (bst par x j) (par y) := by
  show (match (bst par x j)[j]? with | some (y, n) => addP (n + 1) (bst par x j) (par y) | none => bst par x j) = _
  rw [h]
theorem loopSup {w : World} {A : Around} {test : Expr} {body : List Stmt} {env : Env} {pos : Pos} {Q : Flow → Shared → Prop} {s : Shared} {h₀ : Heap} {m₀ : Str → Option Value} {par : Str → List Str} {x : Str} {sd rw : Addr} {so : Obj} {vs : List Value} {e : Nat} {tl : List (Addr × Obj)} {kvs : List (Str × Value)} {t₀ : Tok} (xs : List Str)
    (F : Fr h₀ env.locals s.heap m₀) (N : News h₀ env.locals s.heap ((sd, so) :: (rw, listOf (List.toArray vs) e) :: tl)) (hz : m₀ "at" = some (.int 0 t₀))
    (hso : so.IsDictOf (strKind PG w) kvs) (hseen : SeenOk kvs (bst par x 0)) (hrows : All2 (RowV tl) vs (bst par x 0)) (hn1 : AllNe sd tl) (hn2 : AllNe rw tl) (hne : @Ne Nat rw sd)
    (turn : ∀ k (j : Nat) t (u : Str → Option Value) vs e so kvs tl h tk, k + j = 101 → j ≤ (bst par x j).length → so.IsDictOf (strKind PG w) kvs → SeenOk kvs (bst par x j) → All2 (RowV tl) vs (bst par x j) → AllNe sd tl → AllNe rw tl → @Ne Nat rw sd →
      Fr h₀ env.locals h (fun y => if y = "at" then some (.int (j : Int) t) else if xs.contains y then u y else m₀ y) → News h₀ env.locals h ((sd, so) :: (rw, listOf (List.toArray vs) e) :: tl) →
      WTurn w A test body env (WE h₀ env.locals "at" xs m₀ (SupJ w par x sd rw) k [] s Q) (Q .next) { s with heap := h, toks := tk }) :
    AtWhile w A test body env pos Q s := by
  refine loopWh "at" xs (SupJ w par x sd rw) F (held := []) (k₀ := 101) (by rw [List.append_nil]; exact N) hz ⟨0, rfl, rfl, Nat.zero_le _, _, _, _, _, _, rfl, hso, hseen, hrows, hn1, hn2, hne⟩ ?_
  rintro k a t1 u1 news₁ h1 tk1 ⟨j, rfl, hk, hjl, vs, e, so, kvs, tl, rfl, hso, hseen, hrows, hn1, hn2, hne⟩ F1 N1
  rw [List.append_nil] at N1
  exact turn k j t1 u1 vs e so kvs tl h1 tk1 hk hjl hso hseen hrows hn1 hn2 hne F1 N1
theorem loopSupI {w : World} {A : Around} {target : Expr} {body : List Stmt} {env : Env} {Q : Flow → Shared → Prop} {s : Shared} {h₀ : Heap} {m₀ : Str → Option Value} {sd rw pl : Addr} {so : Obj} {vs pvs : List Value} {e pe n : Nat} {tl : List (Addr × Obj)} {kvs : List (Str × Value)} {R : List (Str × Nat)} {ps : List Str} (xs : List Str)
    (hh : A.handled = none) (F : Fr h₀ env.locals s.heap m₀) (N : News h₀ env.locals s.heap ((pl, listOf (List.toArray pvs) pe) :: (sd, so) :: (rw, listOf (List.toArray vs) e) :: tl)) (SP : StrsAre pvs ps)
    (hso : so.IsDictOf (strKind PG w) kvs) (hseen : SeenOk kvs R) (hrows : All2 (RowV tl) vs R) (hn1 : AllNe sd tl) (hn2 : AllNe rw tl) (hne : @Ne Nat rw sd) (hp : @Ne Nat sd pl ∧ @Ne Nat rw pl)
    (turn : ∀ (i : Nat) p t (u : Str → Option Value) vs e so kvs tl h tk I oI, ps[i]? = some p → so.IsDictOf (strKind PG w) kvs → SeenOk kvs (addP n R (ps.take i)) → All2 (RowV tl) vs (addP n R (ps.take i)) → AllNe sd tl → AllNe rw tl → @Ne Nat rw sd → @Ne Nat sd I → @Ne Nat rw I → AllNe I tl →
      Fr h₀ env.locals h (fun y => if xs.contains y then u y else m₀ y) → News h₀ env.locals h ((sd, so) :: (rw, listOf (List.toArray vs) e) :: (I, oI) :: (pl, listOf (List.toArray pvs) pe) :: tl) →
      wpAny (model PG w) A (assign target env (.str p t)) (fun _ s₂ => wpAny (model PG w) A (execs body env) (TE h₀ env.locals xs m₀ (SupI w sd rw (addP n R (ps.take (i + 1)))) I [(I, oI), (pl, listOf (List.toArray pvs) pe)] s Q) (fun _ _ => False) s₂) (fun _ _ => False) { s with heap := h, toks := tk })
    (done : ∀ (u : Str → Option Value) vs e so kvs tl h tk, so.IsDictOf (strKind PG w) kvs → SeenOk kvs (addP n R ps) → All2 (RowV tl) vs (addP n R ps) → AllNe sd tl → AllNe rw tl → @Ne Nat rw sd → Fr h₀ env.locals h (fun y => if xs.contains y then u y else m₀ y) → News h₀ env.locals h ((sd, so) :: (rw, listOf (List.toArray vs) e) :: tl) → Q .next { s with heap := h, toks := tk }) :
    AtFor w A target body env Q (.ref pl) s := by
  have hlen := SP.length
  refine loopL (items := List.toArray pvs) xs (fun i => SupI w sd rw (addP n R (ps.take i))) hh (.inr ⟨pe, .head _⟩) F (held := [(pl, listOf (List.toArray pvs) pe)]) (news₀ := (sd, so) :: (rw, listOf (List.toArray vs) e) :: tl) (News.of N ?_) ⟨vs, e, so, kvs, tl, rfl, hso, hseen, hrows, hn1, hn2, hne⟩ ?_ ?_
  · intro q hq
    rcases List.mem_append.mp hq with h | h
    · exact .tail _ h
    · rw [List.mem_singleton.mp h]; exact .head _
  · rintro i v u news₁ h tk I oI hv ⟨vs, e, so, kvs, tl, rfl, hso, hseen, hrows, hn1, hn2, hne⟩ hI F1 N1
    have hI' := (allNe_append.mp hI).1
    obtain ⟨p, t, rfl, hp'⟩ := StrsAre.item SP i v (by simpa using hv)
    refine turn i p t u vs e so kvs tl h tk I oI hp' hso hseen hrows hn1 hn2 hne hI'.1 hI'.2.1 hI'.2.2 F1 (News.of N1 ?_)
    intro q hq
    simp only [List.mem_cons, List.mem_append, List.cons_append, List.not_mem_nil, or_false] at hq ⊢
    rcases hq with h | h | h | h | h <;> simp [h]
  · rintro u news₁ h tk ⟨vs, e, so, kvs, tl, rfl, hso, hseen, hrows, hn1, hn2, hne⟩ F1 N1
    have : ps.take (List.toArray pvs).size = ps := by rw [List.size_toArray, hlen, List.take_length]
    rw [this] at hseen hrows
    exact done u vs e so kvs tl h tk hso hseen hrows hn1 hn2 hne F1 (News.of N1 fun q hq => List.mem_append_left _ hq)
theorem TE.sup0 {w : World} {h₀ : Heap} {L : Addr} {xs : List Str} {m₀ m' : Str → Option Value} {I sd rw pl : Addr} {oI so po : Obj} {vs : List Value} {e : Nat} {tl : List (Addr × Obj)} {kvs : List (Str × Value)} {R R' : List (Str × Nat)} {s : Shared} {Q : Flow → Shared → Prop} {h' : Heap} {tk' : Nat}
    (F : Fr h₀ L h' m') (N : News h₀ L h' ((sd, so) :: (rw, listOf (List.toArray vs) e) :: (I, oI) :: (pl, po) :: tl)) (hso : so.IsDictOf (strKind PG w) kvs) (hseen : SeenOk kvs R) (hrows : All2 (RowV tl) vs R) (hn1 : AllNe sd tl) (hn2 : AllNe rw tl) (hne : @Ne Nat rw sd)
    (h4 : @Ne Nat sd I) (h5 : @Ne Nat rw I) (h6 : AllNe I tl) (hR : R' = R) (hm : ∀ y, xs.contains y = false → m' y = m₀ y) : TE h₀ L xs m₀ (SupI w sd rw R') I [(I, oI), (pl, po)] s Q .next { s with heap := h', toks := tk' } := by
  subst hR
  refine TE.next (nx := (sd, so) :: (rw, listOf (List.toArray vs) e) :: tl) F N (fun p hp => ?_) (fun p hp => ?_) ⟨h4, h5, h6⟩ ⟨vs, e, so, kvs, tl, rfl, hso, hseen, hrows, hn1, hn2, hne⟩ hm
  · simp only [List.mem_cons] at hp ⊢
    rcases hp with h | h | h <;> simp [h]
  · simp only [List.mem_cons, List.not_mem_nil, or_false] at hp ⊢
    rcases hp with h | h <;> simp [h]
theorem TE.sup1 {w : World} {h₀ : Heap} {L : Addr} {xs : List Str} {m₀ m' : Str → Option Value} {I sd rw pl T : Addr} {oI so po : Obj} {vs : List Value} {e n : Nat} {tl : List (Addr × Obj)} {kvs : List (Str × Value)} {R R' : List (Str × Nat)} {p : Str} {tp t' : Tok} {v : Value} {s : Shared} {Q : Flow → Shared → Prop} {h' : Heap} {tk' : Nat}
    (F : Fr h₀ L h' m') (N : News h₀ L h' ((T, tupO p tp n t') :: (sd, so) :: (rw, listOf (List.toArray (vs ++ [.ref T])) e) :: (I, oI) :: (pl, po) :: tl)) (hso : so.IsDictOf (strKind PG w) (stored kvs p v)) (hseen : SeenOk kvs R) (hrows : All2 (RowV tl) vs R) (hn1 : AllNe sd tl) (hn2 : AllNe rw tl) (hne : @Ne Nat rw sd)
    (h4 : @Ne Nat sd I) (h5 : @Ne Nat rw I) (h6 : AllNe I tl) (l : @LT.lt Nat _ sd T ∧ @LT.lt Nat _ rw T ∧ @LT.lt Nat _ I T ∧ @LT.lt Nat _ pl T ∧ AllLt T tl) (hR : R' = R ++ [(p, n)]) (hm : ∀ y, xs.contains y = false → m' y = m₀ y) : TE h₀ L xs m₀ (SupI w sd rw R') I [(I, oI), (pl, po)] s Q .next { s with heap := h', toks := tk' } := by
  subst hR
  refine TE.next (nx := (sd, so) :: (rw, listOf (List.toArray (vs ++ [.ref T])) e) :: (T, tupO p tp n t') :: tl) F N (fun p hp => ?_) (fun p hp => ?_) ⟨h4, h5, Nat.ne_of_gt l.2.2.1, h6⟩
    ⟨_, e, so, _, _, rfl, hso, hseen.push p n v, (hrows.mono fun _ _ x => x.mono fun _ h => .tail _ h).snoc ⟨T, tp, t', rfl, .head _⟩, ⟨Nat.ne_of_gt l.1, hn1⟩, ⟨Nat.ne_of_gt l.2.1, hn2⟩, hne⟩ hm
  · simp only [List.mem_cons] at hp ⊢
    rcases hp with h | h | h | h <;> simp [h]
  · simp only [List.mem_cons, List.not_mem_nil, or_false] at hp ⊢
    rcases hp with h | h <;> simp [h]
theorem sup_give1 {g h : Heap} {L : Addr} {p0 p1 p2 p3 : Addr × Obj} {tl : List (Addr × Obj)} (N : News g L h (p0 :: p1 :: p2 :: p3 :: tl)) : ∀ p ∈ p0 :: p1 :: tl, h.get? p.1 = some p.2 ∧ g.get? p.1 = none := fun p hp => by
  have : p ∈ p0 :: p1 :: p2 :: p3 :: tl := by
    simp only [List.mem_cons] at hp ⊢
    rcases hp with h | h | h <;> simp [h]
  exact ⟨(N p this).1, (N p this).2.2⟩
theorem sup_give0 {g h : Heap} {L : Addr} {p0 p2 p3 : Addr × Obj} {tl : List (Addr × Obj)} (N : News g L h (p0 :: p2 :: p3 :: tl)) : ∀ p ∈ p0 :: tl, h.get? p.1 = some p.2 ∧ g.get? p.1 = none := fun p hp => by
  have : p ∈ p0 :: p2 :: p3 :: tl := by
    simp only [List.mem_cons] at hp ⊢
    rcases hp with h | h <;> simp [h]
  exact ⟨(N p this).1, (N p this).2.2⟩
theorem supers_spec {w : World} {s : Shared} {Q : Value → Shared → Prop} {g : Heap} {mg mb : Str → Option Value} {t c u : Addr} {D U : List (Str × List Str)} {x : Str} {tx : Tok}
    (X : (KF w.params).In g) (T : TR mg mb g) (st : Sub g s.heap) (HT : TabAt w s.heap t c u D U) (hB : ∀ k, (bst (parentsOf D U) x k).length ≤ 100)
    (h : ∀ h' tk a vs e k tl, Sub s.heap h' → (∀ p ∈ (a, listOf (List.toArray vs) e) :: tl, h'.get? p.1 = some p.2 ∧ s.heap.get? p.1 = none) → All2 (RowV tl) vs (supersFrom x (bst (parentsOf D U) x k)) → (bst (parentsOf D U) x k).length ≤ k → Q (.ref a) { s with heap := h', toks := tk }) :
    wpAny (model PG w) (AL 4) (call (.ref 151) [.ref t, .str x tx]) Q (fun _ _ => False) s := by
  have X' := Frag.In.keeps X st
  have T' := TopRead.keeps T st
  clear X T
  obtain ⟨d, e1, e2, k1, k2, n, I⟩ := HT.inst
  (refine' enterF (by with_reducible assumption) (by with_reducible assumption) (by exact fun _ _ e => e) (by exact Nat.le_refl _) (by exact led0) (by k_is) (by k_is) (by decide) (by rfl) (by exact locs rfl) ?_ (by rfl) (by rfl) (by rfl) (by decide); intro h₁ F N)
  (repeat' (first | ((with_reducible show wpAny _ _ (execs (List.cons (PySem.Stmt.If _ _ _ _) _) _) _ _ _); (try dsimp only); (with_reducible refine execs_cut ?_); intro Q1'c hc'c) | ((with_reducible refine execs_cut ?_); intro Q1'c hc'c) | (with_reducible ((with_reducible show wpAny _ _ (eval (PySem.Expr.Dict _ _ _) _) _ _ _); refine' kdn_eval (knd := strKind PG _) (by assumption) (by assumption) (by k_dflt (exact TopRead.nolimit (by with_reducible assumption))) (by k_dflt (rfl)) (by k_dflt (rfl)) (by exact List.cons_ne_nil _ _) (by k_dflt (exact Nat.le_of_ble_eq_true rfl)) ?_; intro d'q h'q o'q F'q N'q l1 lo'q hd'q; (try k_lt l1); (try k_sweep))) | walk1 | (dsimp only; walk1) | ((with_reducible show Q1'c _ _); first | ((with_reducible refine hc'c.n _ ?_); clear hc'c Q1'c; (try dsimp only)) | ((with_reducible refine hc'c.f _ _ (by first | (with_reducible exact retN) | (intro h; cases h)) ?_); clear hc'c Q1'c; (try dsimp only))) | fail "no step"))
  rename Obj.IsDictOf (strKind PG w) _ (merged [] _) => hd0
  rename Fr _ _ _ _ => F
  rename News _ _ _ _ => N
  refine loopSup (par := parentsOf D U) (x := x) ["one", "steps", "parent"] F N rfl hd0 ?_ (.cons ⟨_, _, _, rfl, .head _⟩ .nil) ⟨by omega, trivial⟩ ⟨by omega, trivial⟩ (by omega) ?_
  · exact seen0 x _ _
  intro k j t1 u1 vs e so kvs tl h1 tk1 hk hjl hso hseen hrows hn1 hn2 hne F1 N1
  clear F N
  have hlen := hrows.length
  have hlenB := hB j
  have hszv : (List.toArray vs).size ≤ sizeLine := by rw [List.size_toArray, sizeLine_eq]; omega
  unfold WTurn
  by_cases hj : j < vs.length
  · obtain ⟨⟨y, n⟩, hyn⟩ : ∃ r, (bst (parentsOf D U) x j)[j]? = some r := ⟨_, List.getElem?_eq_getElem (by omega)⟩
    obtain ⟨v, hv, T1, ty, tn, rfl, hT1⟩ := hrows.get hyn
    have hx : vs[((j : Int)).toNat]? = some (.ref T1) := hv
    replace hT1 : (T1, tupO y ty n tn) ∈ tl := hT1
    clear hv
    have hbs := bst_succ hyn
    replace F1 : Fr s.heap s.heap.objs.size h1 _ := F1
    replace N1 : News s.heap s.heap.objs.size h1 _ := N1
    (repeat' (first | ((with_reducible show wpAny _ _ (execs (List.cons (PySem.Stmt.If _ _ _ _) _) _) _ _ _); (try dsimp only); (with_reducible refine execs_cut ?_); intro Q1'c hc'c) | ((with_reducible refine execs_cut ?_); intro Q1'c hc'c) | ((with_reducible show wpAny _ _ (call _ _ _) _ _ _); first | ((with_reducible show wpAny _ _ (call (Value.ref 144) _ _) _ _ _); refine' wpAL (parents_spec (by with_reducible assumption) (by with_reducible assumption) (by exact Fr.keep (by with_reducible assumption)) (by exact TabAt.up (by with_reducible assumption) (Fr.keep (by with_reducible assumption))) ?_) (by rfl) (by exact Nat.le_of_ble_eq_true rfl) (by exact Nat.le_of_ble_eq_true rfl) (by rfl) (by rfl); intro h'q tk'q a'q vs'q e'q k'q f'q o'q S'q; (have q'q := led_new (by with_reducible assumption) (by with_reducible assumption) k'q f'q o'q); have F'q := q'q.1; have N'q := q'q.2.1; have l'q := q'q.2.2; clear q'q; (try simp only [AllNe, and_true] at l'q); k_sweep) | (with_reducible ((with_reducible show wpAny _ _ (call (Value.builtin "len") [Value.ref _]) _ _ _); k_dflt (refine' len_led (by with_reducible assumption) (by k_mem) (by omega) ?_)))) | (with_reducible ((with_reducible show wpAny _ _ (subscriptTail _ _ (Value.ref _) (Value.int _ _)) _ _ _); k_dflt (refine' item_led_list (by with_reducible assumption) (by with_reducible assumption) (by k_mem) (by omega) (by omega) ?_ (by with_unfolding_all rfl)))) | walk1 | (dsimp only; walk1) | ((with_reducible show Q1'c _ _); first | ((with_reducible refine hc'c.n _ ?_); clear hc'c Q1'c; (try dsimp only)) | ((with_reducible refine hc'c.f _ _ (by first | (with_reducible exact retN) | (intro h; cases h)) ?_); clear hc'c Q1'c; (try dsimp only))) | fail "no step"))
    rename Fr _ _ _ _ => F2
    rename News _ _ _ _ => N2
    rename StrsAre _ _ => SP
    rename _ ∧ _ ∧ AllNe _ _ => hl
    refine loopSupI (n := n + 1) (R := bst (parentsOf D U) x j) ["parent"] rfl F2 N2 SP hso hseen hrows hn1 hn2 hne ⟨hl.1, hl.2.1⟩ ?_ ?_
    · intro i p tp u2 vs2 e2 so2 kvs2 tl2 h2 tk2 I2 oI2 hp hso2 hseen2 hrows2 m1 m2 m3 m4 m5 m6 F3 N3
      have hlen2 := hrows2.length
      have hle2 := addP_take_le (n + 1) (bst (parentsOf D U) x j) (parentsOf D U y) i
      have hB2 := hB (j + 1)
      rw [hbs] at hB2
      have hsz2 : (List.toArray vs2).size ≤ sizeLine := by rw [List.size_toArray, sizeLine_eq]; omega
      have hszd : kvs2.length ≤ 100000 := by have := hseen2.1; omega
      have hsee := hseen2.2 p
      have hstep := addP_take_succ (n := n + 1) (R := bst (parentsOf D U) x j) hp
      clear F2 N2 SP hso hseen hrows hn1 hn2 hx hT1 hszv
      replace F3 : Fr s.heap s.heap.objs.size h2 _ := F3
      replace N3 : News s.heap s.heap.objs.size h2 _ := N3
      (repeat' (first | ((with_reducible show wpAny _ _ (execs (List.cons (PySem.Stmt.If _ _ _ _) _) _) _ _ _); (try dsimp only); (with_reducible refine execs_cut ?_); intro Q1'c hc'c) | ((with_reducible refine execs_cut ?_); intro Q1'c hc'c) | (with_reducible ((with_reducible show wpAny _ _ (setItem (Value.ref _) (Value.str _ _) _) _ _ _); k_dflt (refine' set_led (by with_reducible assumption) (by with_reducible assumption) (by k_updF) (by with_reducible assumption) (by with_reducible assumption) ?_); intro h'q o'q F'q N'q hd'q; (try dsimp only at N'q); (try k_sweep))) | ((with_reducible show wpAny _ _ (compareOp .NotIn (Value.str _ _) (Value.ref _)) _ _ _); refine' notin_led (by with_reducible assumption) (by k_mem) (by with_reducible assumption) (by with_reducible assumption) ?_) | (with_reducible ((with_reducible show wpAny _ _ (call (Value.builtin _) [Value.ref _, _]) _ _ _); k_dflt (refine' append_K (by k_asm) (by k_asm) (by k_upd) ?_ (by with_reducible assumption); k_whole); intro h'q F'q N'q; (try simp only [List.push_toArray] at N'q); (try k_sweep))) | walk1 | (dsimp only; walk1) | ((with_reducible show Q1'c _ _); first | ((with_reducible refine hc'c.n _ ?_); clear hc'c Q1'c; (try dsimp only)) | ((with_reducible refine hc'c.f _ _ (by first | (with_reducible exact retN) | (intro h; cases h)) ?_); clear hc'c Q1'c; (try dsimp only))) | fail "no step"))
      all_goals (rename Fr _ _ _ _ => F4; rename News _ _ _ _ => N4)
      · exact TE.sup0 F4 N4 hso2 hseen2 hrows2 m1 m2 m3 m4 m5 m6 (by rename (valueAt kvs2 p).isSome = _ => hvs; rw [hstep, ← hsee, hvs]; rfl) (by walk_at "SAME3")
      · rename _ ∧ _ ∧ _ ∧ _ ∧ AllLt _ _ => hlt
        rename Obj.IsDictOf _ _ (stored _ _ _) => hd4
        exact TE.sup1 F4 N4 hd4 hseen2 hrows2 m1 m2 m3 m4 m5 m6 hlt (by rename (valueAt kvs2 p).isSome = _ => hvs; rw [hstep, ← hsee, hvs]; rfl) (by walk_at "SAME3")
    · intro u2 vs2 e2 so2 kvs2 tl2 h2 tk2 hso2 hseen2 hrows2 m1 m2 m3 F3 N3
      clear F2 N2 SP hso hseen hrows hn1 hn2 hx hT1 hszv
      try dsimp only
      (repeat' (first | ((with_reducible show wpAny _ _ (execs (List.cons (PySem.Stmt.If _ _ _ _) _) _) _ _ _); (try dsimp only); (with_reducible refine execs_cut ?_); intro Q1'c hc'c) | ((with_reducible refine execs_cut ?_); intro Q1'c hc'c) | walk1 | (dsimp only; walk1) | ((with_reducible show Q1'c _ _); first | ((with_reducible refine hc'c.n _ ?_); clear hc'c Q1'c; (try dsimp only)) | ((with_reducible refine hc'c.f _ _ (by first | (with_reducible exact retN) | (intro h; cases h)) ?_); clear hc'c Q1'c; (try dsimp only))) | fail "no step"))
      refine WE.next F3 N3 (fun p hp => hp) (fun p hp => nomatch hp) (k' := k - 1) (by omega) ⟨j + 1, rfl, by omega, ?_, _, _, _, _, _, rfl, hso2, hbs ▸ hseen2, hbs ▸ hrows2, m1, m2, m3⟩ rfl (by (intro y hz0 hy; have hz := hy; simp only [List.contains_cons, List.contains_nil, Bool.or_false, Bool.or_eq_false_iff, beq_eq_false_iff_ne, ne_eq] at hz; simp only [List.contains_cons, List.contains_nil, Bool.or_false, Bool.or_eq_true, beq_iff_eq, hz0, hz, hy, or_self, if_false, Bool.false_eq_true, reduceIte]))
      have := addP_ge (n + 1) (parentsOf D U y) (bst (parentsOf D U) x j)
      rw [hbs]; omega
  · have hj0 : 0 < vs.length := by have := bst_pos (parentsOf D U) x j; omega
    obtain ⟨⟨y, n⟩, hyn⟩ : ∃ r, (bst (parentsOf D U) x j)[vs.length - 1]? = some r := ⟨_, List.getElem?_eq_getElem (by omega)⟩
    obtain ⟨v, hv, T1, ty, tn, rfl, hT1⟩ := hrows.get hyn
    have hx : vs[((vs.length : Int) - 1).toNat]? = some (.ref T1) := by rw [show ((vs.length : Int) - 1).toNat = vs.length - 1 by omega]; exact hv
    replace hT1 : (T1, tupO y ty n tn) ∈ tl := hT1
    clear hv
    replace F1 : Fr s.heap s.heap.objs.size h1 _ := F1
    replace N1 : News s.heap s.heap.objs.size h1 _ := N1
    (repeat' (first | ((with_reducible show wpAny _ _ (execs (List.cons (PySem.Stmt.If _ _ _ _) _) _) _ _ _); (try dsimp only); (with_reducible refine execs_cut ?_); intro Q1'c hc'c) | ((with_reducible refine execs_cut ?_); intro Q1'c hc'c) | ((with_reducible show wpAny _ _ (call _ _ _) _ _ _); first | (with_reducible ((with_reducible show wpAny _ _ (call (Value.builtin "len") [Value.ref _]) _ _ _); k_dflt (refine' len_led (by with_reducible assumption) (by k_mem) (by omega) ?_))) | (with_reducible ((with_reducible show wpAny _ _ (call (Value.builtin _) [Value.ref _, _]) _ _ _); k_dflt (refine' append_K (by k_asm) (by k_asm) (by k_upd) ?_ (by with_reducible assumption); k_whole); intro h'q F'q N'q; (try simp only [List.push_toArray] at N'q); (try k_sweep)))) | (with_reducible ((with_reducible show wpAny _ _ (subscriptTail _ _ (Value.ref _) (Value.int _ _)) _ _ _); k_dflt (refine' item_led_list (by with_reducible assumption) (by with_reducible assumption) (by k_mem) (by omega) (by omega) ?_ (by with_unfolding_all rfl)))) | walk1 | (dsimp only; walk1) | ((with_reducible show Q1'c _ _); first | ((with_reducible refine hc'c.n _ ?_); clear hc'c Q1'c; (try dsimp only)) | ((with_reducible refine hc'c.f _ _ (by first | (with_reducible exact retN) | (intro h; cases h)) ?_); clear hc'c Q1'c; (try dsimp only))) | fail "no step"))
    all_goals try dsimp only
    all_goals (rename Fr _ _ _ _ => F4; rename News _ _ _ _ => N4)
    · rename (x != _) = true => hx
      have ha : (x == ("ANY" : Str)) = false := by simpa using hx
      rw [slice1 _ (by simp)] at N4
      refine h _ _ _ _ _ j _ F4.keep (sup_give1 N4) ?_ (by omega)
      unfold supersFrom
      rw [ha, lastN_eq hyn (by omega), if_neg Bool.false_ne_true]
      exact ((hrows.mono fun v r x => x.mono fun _ m => .tail _ m).snoc (b := (("ANY" : Str), n + 1)) ⟨_, _, _, rfl, .head _⟩).drop 1
    · rename (x != _) = false => hx
      have ha : (x == ("ANY" : Str)) = true := by simpa using hx
      rw [slice1 _ (by omega)] at N4
      refine h _ _ _ _ _ j _ F4.keep (sup_give0 N4) ?_ (by omega)
      unfold supersFrom
      rw [ha]
      exact hrows.drop 1

theorem led_news {h₀ h h' : Heap} {L : Addr} {m : Str → Option Value} {news l : List (Addr × Obj)} (F : Fr h₀ L h m) (N : News h₀ L h news) (k : Sub h h') (hn : ∀ p ∈ l, h'.get? p.1 = some p.2 ∧ h.get? p.1 = none) :
    Fr h₀ L h' m ∧ News h₀ L h' (l ++ news) := by
  refine ⟨F.keeps k, fun p hp => ?_⟩
  rcases List.mem_append.mp hp with hp | hp
  · obtain ⟨e1, e2⟩ := hn p hp
    refine ⟨e1, fun e => ?_, ?_⟩
    · obtain ⟨oL, _, _, hL, _⟩ := F.ns
      rw [e, hL] at e2; cases e2
    · cases q : h₀.get? p.1 with
      | none => rfl
      | some x => rw [F.keep _ _ q] at e2; cases e2
  · exact ⟨k _ _ (N p hp).1, (N p hp).2⟩
noncomputable def OptV (v : Value) : Option Nat → Prop
  | none => v = .none
  | some n => ∃ t, v = .int (n : Int) t
noncomputable def distOf (x y : Str) (R : List (Str × Nat)) : Option Nat := if x == y then some 0 else (R.find? (fun r => r.1 == y)).map (·.2)
theorem find_take {R : List (Str × Nat)} {y : Str} {i n : Nat} {z : Str} (h : ∀ r ∈ R.take i, (r.1 == y) = false) (hi : R[i]? = some (z, n)) (hz : (z == y) = true) : R.find? (fun r => r.1 == y) = some (z, n) := by
  have hlt : i < R.length := (List.getElem?_eq_some_iff.mp hi).1
  have e : R = R.take i ++ (z, n) :: R.drop (i + 1) := by
    have h1 : R.drop i = (z, n) :: R.drop (i + 1) := by
      rw [List.drop_eq_getElem_cons hlt]
      congr 1
      exact (List.getElem?_eq_some_iff.mp hi).2
    rw [← h1, List.take_append_drop]
  rw [e, List.find?_append, List.find?_eq_none.mpr (fun r hr => by rw [h r hr]; exact Bool.false_ne_true)]
  simp [hz]
theorem all_take_succ {α : Type} {R : List α} {P : α → Prop} {i : Nat} {a : α} (h : ∀ r ∈ R.take i, P r) (hi : R[i]? = some a) (ha : P a) : ∀ r ∈ R.take (i + 1), P r := by
  intro r hr
  rw [List.take_add_one, hi] at hr
  rcases List.mem_append.mp hr with hr | hr
  · exact h r hr
  · rw [show r = a by simpa using hr]; exact ha
theorem loopRows {w : World} {A : Around} {target : Expr} {body : List Stmt} {env : Env} {Q : Flow → Shared → Prop} {s : Shared} {h₀ : Heap} {m₀ : Str → Option Value} {l : Addr} {vs : List Value} {e : Nat} {tl : List (Addr × Obj)} {R : List (Str × Nat)} (xs : List Str) (J : List (Str × Nat) → Nat → List (Addr × Obj) → Prop) {news₀ held : List (Addr × Obj)}
    (hh : A.handled = none) (hA : All2 (RowV tl) vs R) (F : Fr h₀ env.locals s.heap m₀) (N : News h₀ env.locals s.heap (news₀ ++ ((l, listOf (List.toArray vs) e) :: (tl ++ held)))) (hj : J R 0 news₀)
    (turn : ∀ i z n T tz tn (u : Str → Option Value) news₁ h tk I oI, R[i]? = some (z, n) → (T, tupO z tz n tn) ∈ tl → J R i news₁ → AllNe I (news₁ ++ ((l, listOf (List.toArray vs) e) :: (tl ++ held))) → Fr h₀ env.locals h (fun y => if xs.contains y then u y else m₀ y) → News h₀ env.locals h (news₁ ++ (I, oI) :: (l, listOf (List.toArray vs) e) :: (tl ++ held)) →
      wpAny (model PG w) A (assign target env (.ref T)) (fun _ s₂ => wpAny (model PG w) A (execs body env) (TE h₀ env.locals xs m₀ (J R (i + 1)) I ((I, oI) :: (l, listOf (List.toArray vs) e) :: (tl ++ held)) s Q) (fun _ _ => False) s₂) (fun _ _ => False) { s with heap := h, toks := tk })
    (done : ∀ (u : Str → Option Value) news₁ h tk, J R R.length news₁ → Fr h₀ env.locals h (fun y => if xs.contains y then u y else m₀ y) → News h₀ env.locals h (news₁ ++ ((l, listOf (List.toArray vs) e) :: (tl ++ held))) → Q .next { s with heap := h, toks := tk }) :
    AtFor w A target body env Q (.ref l) s := by
  have hl := hA.length
  refine loopL (items := List.toArray vs) xs (J R) hh (.inr ⟨e, .head _⟩) F (news₀ := news₀) N hj ?_ ?_
  · intro i v u news₁ h tk I oI hv hJ hI F1 N1
    obtain ⟨⟨z, n⟩, hz, T1, tz, tn, rfl, hT1⟩ := hA.get' (by simpa using hv)
    exact turn i z n T1 tz tn u news₁ h tk I oI hz hT1 hJ hI F1 N1
  · intro u news₁ h tk hJ F1 N1
    rw [List.size_toArray, hl] at hJ
    exact done u news₁ h tk hJ F1 N1
theorem distance_spec {w : World} {s : Shared} {Q : Value → Shared → Prop} {g : Heap} {mg mb : Str → Option Value} {t c u : Addr} {D U : List (Str × List Str)} {x y : Str} {tx ty : Tok}
    (X : (KF w.params).In g) (T : TR mg mb g) (st : Sub g s.heap) (HT : TabAt w s.heap t c u D U) (hB : ∀ k, (bst (parentsOf D U) x k).length ≤ 100)
    (h : ∀ h' tk v k, Sub s.heap h' → OptV v (distOf x y (supersFrom x (bst (parentsOf D U) x k))) → (bst (parentsOf D U) x k).length ≤ k → Q v { s with heap := h', toks := tk }) :
    wpAny (model PG w) (AL 5) (call (.ref 158) [.ref t, .str x tx, .str y ty]) Q (fun _ _ => False) s := by
  have X' := Frag.In.keeps X st
  have T' := TopRead.keeps T st
  clear X T
  obtain ⟨d, e1, e2, k1, k2, n, I⟩ := HT.inst
  have hfin : ∃ k, (bst (parentsOf D U) x k).length ≤ k := ⟨100, hB 100⟩
  (refine' enterF (by with_reducible assumption) (by with_reducible assumption) (by exact fun _ _ e => e) (by exact Nat.le_refl _) (by exact led0) (by k_is) (by k_is) (by decide) (by rfl) (by exact locs rfl) ?_ (by rfl) (by rfl) (by rfl) (by decide); intro h₁ F N)
  (repeat' (first | ((with_reducible show wpAny _ _ (execs (List.cons (PySem.Stmt.If _ _ _ _) _) _) _ _ _); (try dsimp only); (with_reducible refine execs_cut ?_); intro Q1'c hc'c) | ((with_reducible refine execs_cut ?_); intro Q1'c hc'c) | ((with_reducible show wpAny _ _ (call (Value.ref 151) _ _) _ _ _); refine' wpAL (supers_spec (by with_reducible assumption) (by with_reducible assumption) (by exact Fr.keep (by with_reducible assumption)) (by exact TabAt.up (by with_reducible assumption) (Fr.keep (by with_reducible assumption))) (by with_reducible assumption) ?_) (by rfl) (by exact Nat.le_of_ble_eq_true rfl) (by exact Nat.le_of_ble_eq_true rfl) (by rfl) (by rfl); intro h'q tk'q a'q vs'q e'q k'q tl'q s'q f'q S'q b'q; (have q'q := led_news (by with_reducible assumption) (by with_reducible assumption) s'q f'q); have F'q := q'q.1; have N'q := q'q.2; clear q'q; (try simp only [List.cons_append, List.nil_append, List.append_nil] at N'q); k_sweep) | walk1 | (dsimp only; walk1) | ((with_reducible show Q1'c _ _); first | ((with_reducible refine hc'c.n _ ?_); clear hc'c Q1'c; (try dsimp only)) | ((with_reducible refine hc'c.f _ _ (by first | (with_reducible exact retN) | (intro h; cases h)) ?_); clear hc'c Q1'c; (try dsimp only))) | fail "no step"))
  · rename (x == y) = true => hxy
    try dsimp only
    rename Fr _ _ _ _ => F
    obtain ⟨k, hk⟩ := hfin
    exact h _ _ _ k F.keep (by unfold distOf; rw [hxy]; exact ⟨_, rfl⟩) hk
  · rename (x == y) = false => hxy
    rename Fr _ _ _ _ => F
    rename News _ _ _ _ => N
    rename All2 _ _ _ => hA
    rename (bst _ _ _).length ≤ _ => hk
    refine loopRows (news₀ := []) (held := []) ["name", "steps"] (fun R i nx => nx = [] ∧ ∀ r ∈ R.take i, (r.1 == y) = false) rfl hA F (by rw [List.append_nil]; exact N) ⟨rfl, ?_⟩ ?_ ?_
    · intro r hr; rw [List.take_zero] at hr; cases hr
    · rintro i z n T1 tz tn u1 news₁ h1 tk1 I1 oI hz hT1 ⟨rfl, hno⟩ hI F1 N1
      replace F1 : Fr s.heap s.heap.objs.size h1 _ := F1
      replace N1 : News s.heap s.heap.objs.size h1 _ := N1
      rw [List.append_nil] at N1
      simp only [List.nil_append] at N1
      clear F N
      (repeat' (first | ((with_reducible show wpAny _ _ (execs (List.cons (PySem.Stmt.If _ _ _ _) _) _) _ _ _); (try dsimp only); (with_reducible refine execs_cut ?_); intro Q1'c hc'c) | ((with_reducible refine execs_cut ?_); intro Q1'c hc'c) | walk1 | (dsimp only; walk1) | ((with_reducible show Q1'c _ _); first | ((with_reducible refine hc'c.n _ ?_); clear hc'c Q1'c; (try dsimp only)) | ((with_reducible refine hc'c.f _ _ (by first | (with_reducible exact retN) | (intro h; cases h)) ?_); clear hc'c Q1'c; (try dsimp only))) | fail "no step"))
      all_goals (rename Fr _ _ _ _ => F4; rename News _ _ _ _ => N4)
      · rename (z == y) = true => hzy
        dsimp only [TE]
        (repeat' (first | ((with_reducible show wpAny _ _ (execs (List.cons (PySem.Stmt.If _ _ _ _) _) _) _ _ _); (try dsimp only); (with_reducible refine execs_cut ?_); intro Q1'c hc'c) | ((with_reducible refine execs_cut ?_); intro Q1'c hc'c) | walk1 | (dsimp only; walk1) | ((with_reducible show Q1'c _ _); first | ((with_reducible refine hc'c.n _ ?_); clear hc'c Q1'c; (try dsimp only)) | ((with_reducible refine hc'c.f _ _ (by first | (with_reducible exact retN) | (intro h; cases h)) ?_); clear hc'c Q1'c; (try dsimp only))) | fail "no step"))
        exact h _ _ _ _ F4.keep (by unfold distOf; rw [hxy, if_neg Bool.false_ne_true, find_take hno hz hzy]; exact ⟨tn, rfl⟩) hk
      · rename (z == y) = false => hzy
        exact TE.next (nx := []) F4 N4 (fun p hp => nomatch hp) (fun p hp => by rw [List.append_nil] at hp; exact hp) trivial ⟨rfl, all_take_succ hno hz hzy⟩ (by walk_at "SAME3")
    · rintro u1 news₁ h1 tk1 ⟨rfl, hno⟩ F1 N1
      try dsimp only
      (repeat' (first | ((with_reducible show wpAny _ _ (execs (List.cons (PySem.Stmt.If _ _ _ _) _) _) _ _ _); (try dsimp only); (with_reducible refine execs_cut ?_); intro Q1'c hc'c) | ((with_reducible refine execs_cut ?_); intro Q1'c hc'c) | walk1 | (dsimp only; walk1) | ((with_reducible show Q1'c _ _); first | ((with_reducible refine hc'c.n _ ?_); clear hc'c Q1'c; (try dsimp only)) | ((with_reducible refine hc'c.f _ _ (by first | (with_reducible exact retN) | (intro h; cases h)) ?_); clear hc'c Q1'c; (try dsimp only))) | fail "no step"))
      try dsimp only
      refine h _ _ _ _ F1.keep ?_ hk
      unfold distOf
      rw [hxy, if_neg Bool.false_ne_true, List.find?_eq_none.mpr (fun r hr => by rw [hno r (by rw [List.take_length]; exact hr)]; exact Bool.false_ne_true)]
      rfl

abbrev tupS (y : Str) (t : Tok) (z : Str) (t' : Tok) : Obj := { cls := .type "tuple", data := .seq (List.toArray [.str y t, .str z t']) }
/-- a row of two strs told by what a list of objects holds -/
noncomputable def SlotV (tl : List (Addr × Obj)) (v : Value) : Prop := ∃ T y t z t', v = .ref T ∧ (T, tupS y t z t') ∈ tl
theorem SlotV.mono {tl tl' : List (Addr × Obj)} (h : ∀ p ∈ tl, p ∈ tl') {v : Value} (x : SlotV tl v) : SlotV tl' v := let ⟨T, y, t, z, t', e, m⟩ := x; ⟨T, y, t, z, t', e, h _ m⟩
noncomputable def AllApart : List (Addr × Obj) → List (Addr × Obj) → Prop
  | [], _ => True
  | q :: r, l => AllNe q.1 l ∧ AllApart r l
theorem allApart_of {l : List (Addr × Obj)} : ∀ {news : List (Addr × Obj)}, (∀ q ∈ news, ∀ p ∈ l, p.1 ≠ q.1) → AllApart news l
  | [], _ => trivial
  | q :: _, h => ⟨allNe_of (h q (.head _)), allApart_of fun r hr => h r (.tail _ hr)⟩
theorem allApart_mem {l : List (Addr × Obj)} : ∀ {news : List (Addr × Obj)}, AllApart news l → ∀ q ∈ news, AllNe q.1 l
  | [], _, _, hq => nomatch hq
  | q :: r, h, x, hx => by
    rcases List.mem_cons.mp hx with rfl | hx
    · exact h.1
    · exact allApart_mem h.2 x hx
theorem allNe_lt {d : Addr} : ∀ {l : List (Addr × Obj)}, AllLt d l → AllNe d l
  | [], _ => trivial
  | _ :: _, h => ⟨Nat.ne_of_lt h.1, allNe_lt h.2⟩
theorem allLt_append {a : Nat} : ∀ {l r : List (Addr × Obj)}, AllLt a (l ++ r) ↔ AllLt a l ∧ AllLt a r
  | [], _ => ⟨fun h => ⟨trivial, h⟩, fun h => h.2⟩
  | _ :: _, _ => ⟨fun h => ⟨⟨h.1, (allLt_append.mp h.2).1⟩, (allLt_append.mp h.2).2⟩, fun h => ⟨h.1.1, allLt_append.mpr ⟨h.1.2, h.2⟩⟩⟩
theorem apart_lt {T : Addr} {o : Obj} {tl : List (Addr × Obj)} : ∀ {K : List (Addr × Obj)}, AllLt T K → AllApart K tl → AllApart K ((T, o) :: tl)
  | [], _, _ => trivial
  | _ :: _, h, a => ⟨⟨Nat.ne_of_gt h.1, a.1⟩, apart_lt h.2 a.2⟩
theorem apart_nil : ∀ {K : List (Addr × Obj)}, AllApart K []
  | [] => trivial
  | _ :: _ => ⟨trivial, apart_nil⟩
noncomputable def SlI (w : World) (sd fd : Addr) (K : List (Addr × Obj)) (n : Nat) (nx : List (Addr × Obj)) : Prop :=
  ∃ vs e so kvs tl, nx = (sd, so) :: (fd, listOf (List.toArray vs) e) :: tl ∧ so.IsDictOf (strKind PG w) kvs ∧ kvs.length ≤ n ∧ vs.length ≤ n ∧ (∀ v ∈ vs, SlotV tl v) ∧ AllNe sd tl ∧ AllNe fd tl ∧ @Ne Nat fd sd ∧ AllApart K tl
theorem led_news2 {h₀ h h' : Heap} {L : Addr} {m : Str → Option Value} {news l : List (Addr × Obj)} (F : Fr h₀ L h m) (N : News h₀ L h news) (k : Sub h h') (hn : ∀ p ∈ l, h'.get? p.1 = some p.2 ∧ h.get? p.1 = none) :
    Fr h₀ L h' m ∧ News h₀ L h' (l ++ news) ∧ AllApart news l := by
  obtain ⟨a, b⟩ := led_news F N k hn
  refine ⟨a, b, allApart_of fun q hq p hp e => ?_⟩
  have := (hn p hp).2
  rw [e, (N q hq).1] at this; cases this
theorem add_lists_led {w : World} {A : Around} {E : Value → Shared → Prop} {s : Shared} {h₀ : Heap} {L l b : Addr} {m : Str → Option Value} {news : List (Addr × Obj)} {vs ws : List Value} {e1 e2 : Nat} {Q : Value → Shared → Prop}
    (F : Fr h₀ L s.heap m) (N : News h₀ L s.heap news) (hl : (l, listOf (List.toArray vs) e1) ∈ news) (hb : (b, listOf (List.toArray ws) e2) ∈ news) (hsz : vs.length + ws.length ≤ 100000)
    (h : ∀ D h', Fr h₀ L h' m → News h₀ L h' ((D, listOf (List.toArray (vs ++ ws)) 0) :: news) → (∀ p ∈ news, p.1 < D) → Q (.ref D) { s with heap := h' }) :
    wpAny (model PG w) A (binaryOp .Add (.ref l) (.ref b)) Q E s :=
  add_lists F N (News.isList N hl) (News.isList N hb) (fun h' F' N' => h _ h' F' N' fun p hp => Heap.lt_size (N p hp).1) (by rw [sizeLine_eq]; omega)
theorem supersFrom_le {par : Str → List Str} {x : Str} {k : Nat} (hB : ∀ k, (bst par x k).length ≤ 100) (_ : (bst par x k).length ≤ k) : (supersFrom x (bst par x k)).length ≤ 101 := by
  unfold supersFrom
  have := hB k
  split <;> simp <;> omega
theorem subTail {l Y : List (Addr × Obj)} {y : Addr × Obj} (h : ∀ p ∈ l, p ∈ Y) : ∀ p ∈ l, p ∈ y :: Y := fun p hp => .tail _ (h p hp)
theorem subRight {l X Y : List (Addr × Obj)} (h : ∀ p ∈ l, p ∈ Y) : ∀ p ∈ l, p ∈ X ++ Y := fun p hp => List.mem_append_right _ (h p hp)
theorem subLeft {l X Y : List (Addr × Obj)} (h : ∀ p ∈ l, p ∈ X) : ∀ p ∈ l, p ∈ X ++ Y := fun p hp => List.mem_append_left _ (h p hp)
local macro_rules | `(tactic| walk_at "SUBL") => `(tactic| first | (with_reducible exact fun _ h => h) | (refine subTail ?_; walk_at "SUBL") | (refine subRight ?_; walk_at "SUBL") | (refine subLeft ?_; walk_at "SUBL"))
local macro_rules | `(tactic| walk_at "SUB") => `(tactic| first | exact List.forall_mem_nil _ | (refine List.forall_mem_cons.mpr ⟨?a, ?b⟩; (case a => k_mem); (case b => walk_at "SUB")) | (refine List.forall_mem_append.mpr ⟨?a, ?b⟩; (case a => walk_at "SUB"); (case b => walk_at "SUB")) | walk_at "SUBL")
local macro_rules | `(tactic| walk_at "NE") => `(tactic| first | exact True.intro | with_reducible assumption | (refine allNe_append.mpr ⟨?a, ?b⟩; (case a => walk_at "NE"); (case b => walk_at "NE")) | (refine And.intro ?a ?b; (case a => k_ne); (case b => walk_at "NE")) | (refine allNe_of ?a; (case a => k_all)))
local macro_rules | `(tactic| k_mem) => `(tactic| first | (refine memN (List.mem_append_right _ ?_); k_mem) | (refine memN (List.mem_append_left _ ?_); k_mem))
theorem loopSl {w : World} {A : Around} {target : Expr} {body : List Stmt} {env : Env} {Q : Flow → Shared → Prop} {s : Shared} {h₀ : Heap} {m₀ : Str → Option Value} {sd fd l : Addr} {items : List Value} {so₀ : Obj} {vs₀ : List Value} {e₀ : Nat} {kvs₀ : List (Str × Value)} {tl₀ news : List (Addr × Obj)} (n₀ : Nat) (H : List (Addr × Obj)) (xs : List Str)
    (hh : A.handled = none) (hl : h₀.IsList l items.toArray ∨ ∃ e, (l, listOf items.toArray e) ∈ H)
    (F : Fr h₀ env.locals s.heap m₀) (N : News h₀ env.locals s.heap news) (hN : ∀ p ∈ (sd, so₀) :: (fd, listOf (List.toArray vs₀) e₀) :: (tl₀ ++ H), p ∈ news)
    (hso : so₀.IsDictOf (strKind PG w) kvs₀) (hk : kvs₀.length ≤ n₀) (hv : vs₀.length ≤ n₀) (hV : ∀ v ∈ vs₀, SlotV tl₀ v) (n1 : AllNe sd tl₀) (n2 : AllNe fd tl₀) (n3 : @Ne Nat fd sd) (n4 : AllApart H tl₀)
    (turn : ∀ i v (u : Str → Option Value) vs e so kvs tl h tk I oI, items[i]? = some v → so.IsDictOf (strKind PG w) kvs → kvs.length ≤ n₀ + i → vs.length ≤ n₀ + i → (∀ v ∈ vs, SlotV tl v) → AllNe sd tl → AllNe fd tl → @Ne Nat fd sd → AllApart H tl → @Ne Nat sd I → @Ne Nat fd I → AllNe I tl → AllNe I H →
      Fr h₀ env.locals h (fun y => if xs.contains y then u y else m₀ y) → News h₀ env.locals h ((sd, so) :: (fd, listOf (List.toArray vs) e) :: (tl ++ (I, oI) :: H)) →
      wpAny (model PG w) A (assign target env v) (fun _ s₂ => wpAny (model PG w) A (execs body env) (TE h₀ env.locals xs m₀ (SlI w sd fd H (n₀ + (i + 1))) I ((I, oI) :: H) s Q) (fun _ _ => False) s₂) (fun _ _ => False) { s with heap := h, toks := tk })
    (done : ∀ (u : Str → Option Value) vs e so kvs tl h tk, so.IsDictOf (strKind PG w) kvs → kvs.length ≤ n₀ + items.length → vs.length ≤ n₀ + items.length → (∀ v ∈ vs, SlotV tl v) → AllNe sd tl → AllNe fd tl → @Ne Nat fd sd → AllApart H tl →
      Fr h₀ env.locals h (fun y => if xs.contains y then u y else m₀ y) → News h₀ env.locals h ((sd, so) :: (fd, listOf (List.toArray vs) e) :: (tl ++ H)) → Q .next { s with heap := h, toks := tk }) :
    AtFor w A target body env Q (.ref l) s := by
  refine loopL (items := items.toArray) (held := H) (news₀ := (sd, so₀) :: (fd, listOf (List.toArray vs₀) e₀) :: tl₀) xs (fun i => SlI w sd fd H (n₀ + i)) hh hl F (News.of N hN) ⟨vs₀, e₀, so₀, kvs₀, tl₀, rfl, hso, hk, hv, hV, n1, n2, n3, n4⟩ ?_ ?_
  · rintro i v u news₁ h tk I oI hi ⟨vs, e, so, kvs, tl, rfl, a1, a2, a3, a4, a5, a6, a7, a8⟩ hI F1 N1
    exact turn i v u vs e so kvs tl h tk I oI (by simpa using hi) a1 a2 a3 a4 a5 a6 a7 a8 hI.1 hI.2.1 (allNe_append.mp hI.2.2).1 (allNe_append.mp hI.2.2).2 F1 N1
  · rintro u news₁ h tk ⟨vs, e, so, kvs, tl, rfl, a1, a2, a3, a4, a5, a6, a7, a8⟩ F1 N1
    exact done u vs e so kvs tl h tk a1 (by simpa using a2) (by simpa using a3) a4 a5 a6 a7 a8 F1 N1
theorem TE.sl {w : World} {K : List (Addr × Obj)} {h₀ : Heap} {L : Addr} {xs : List Str} {m₀ m' : Str → Option Value} {sd fd I : Addr} {so : Obj} {vs : List Value} {e n : Nat} {kvs : List (Str × Value)} {tl own news : List (Addr × Obj)} {s : Shared} {Q : Flow → Shared → Prop} {h' : Heap} {tk' : Nat}
    (F : Fr h₀ L h' m') (N : News h₀ L h' news) (hn : ∀ p ∈ (sd, so) :: (fd, listOf (List.toArray vs) e) :: tl, p ∈ news) (ho : ∀ p ∈ own, p ∈ news) (h1 : @Ne Nat sd I) (h2 : @Ne Nat fd I) (h3 : AllNe I tl)
    (hso : so.IsDictOf (strKind PG w) kvs) (hk : kvs.length ≤ n) (hv : vs.length ≤ n) (hV : ∀ v ∈ vs, SlotV tl v) (n1 : AllNe sd tl) (n2 : AllNe fd tl) (n3 : @Ne Nat fd sd) (n4 : AllApart K tl) (hm : ∀ y, xs.contains y = false → m' y = m₀ y) :
    TE h₀ L xs m₀ (SlI w sd fd K n) I own s Q .next { s with heap := h', toks := tk' } :=
  TE.next (nx := (sd, so) :: (fd, listOf (List.toArray vs) e) :: tl) F N hn ho ⟨h1, h2, h3⟩ ⟨vs, e, so, kvs, tl, rfl, hso, hk, hv, hV, n1, n2, n3, n4⟩ hm
theorem sl_split {h₀ h : Heap} {L : Addr} {r T0 sd fd l1 a : Addr} {oa o1 so fo : Obj} {vs : List Value} {R : List (Str × Nat)} {x : Str} {t t' : Tok} {tl : List (Addr × Obj)}
    (N : News h₀ L h ((r, listOf (List.toArray ([.ref T0] ++ vs)) 0) :: (a, oa) :: (tl ++ [(l1, o1), (T0, tupO x t 0 t'), (sd, so), (fd, fo)]))) (hA : All2 (RowV tl) vs R)
    (hne : (a ≠ l1 ∧ AllNe l1 tl) ∧ (a ≠ T0 ∧ AllNe T0 tl) ∧ (a ≠ sd ∧ AllNe sd tl) ∧ a ≠ fd ∧ AllNe fd tl) (h1 : @Ne Nat r sd) (h2 : @Ne Nat r fd) (h3 : @Ne Nat T0 sd) (h4 : @Ne Nat T0 fd) :
    ∃ H, News h₀ L h ((sd, so) :: (fd, fo) :: ([] ++ H)) ∧ (r, listOf (List.toArray (.ref T0 :: vs)) 0) ∈ H ∧ All2 (RowV H) (.ref T0 :: vs) ((x, 0) :: R) ∧ AllNe sd H ∧ AllNe fd H := by
  refine ⟨(r, listOf (List.toArray (.ref T0 :: vs)) 0) :: (a, oa) :: (T0, tupO x t 0 t') :: tl, News.of N ?_, .head _, .cons ⟨T0, t, t', rfl, .tail _ (.tail _ (.head _))⟩ (hA.mono fun v r x => x.mono fun p hp => .tail _ (.tail _ (.tail _ hp))), ⟨h1, hne.2.2.1.1, h3, hne.2.2.1.2⟩, h2, hne.2.2.2.1, h4, hne.2.2.2.2⟩
  intro p hp
  simp only [List.nil_append, List.cons_append, List.mem_cons, List.mem_append, List.not_mem_nil, or_false] at hp ⊢
  rcases hp with h | h | h | h | h | h <;> simp [h]
theorem loopNil {w : World} {A : Around} {target : Expr} {body : List Stmt} {env : Env} {Q : Flow → Shared → Prop} {s : Shared} {h₀ : Heap} {m₀ : Str → Option Value} {l : Addr} {news : List (Addr × Obj)}
    (hh : A.handled = none) (hl : h₀.IsList l (List.toArray []) ∨ ∃ e, (l, listOf (List.toArray []) e) ∈ news) (F : Fr h₀ env.locals s.heap m₀) (N : News h₀ env.locals s.heap news)
    (done : ∀ h tk, Fr h₀ env.locals h m₀ → News h₀ env.locals h news → Q .next { s with heap := h, toks := tk }) : AtFor w A target body env Q (.ref l) s := by
  refine loopL (items := List.toArray []) (held := news) (news₀ := []) [] (fun _ nx => nx = []) hh hl F N rfl ?_ ?_
  · intro i v u news₁ h tk I oI hi; simp at hi
  · rintro u news₁ h tk rfl F1 N1
    exact done h tk F1 N1
theorem sl_split2 {h₀ h : Heap} {L : Addr} {r T a sd fd : Addr × Obj} {tl K : List (Addr × Obj)} (N : News h₀ L h (r :: T :: a :: sd :: fd :: (tl ++ K))) : News h₀ L h (sd :: fd :: (tl ++ (r :: T :: K))) := News.of N (by
  intro p hp
  simp only [List.mem_cons, List.mem_append] at hp ⊢
  rcases hp with h | h | h | h | h | h <;> simp [h])
theorem slots_spec {w : World} {s : Shared} {Q : Value → Shared → Prop} {g : Heap} {mg mb : Str → Option Value} {t c u : Addr} {D U : List (Str × List Str)} {x : Str} {tx : Tok}
    (X : (KF w.params).In g) (T : TR mg mb g) (st : Sub g s.heap) (HT : TabAt w s.heap t c u D U) (hB : ∀ k, (bst (parentsOf D U) x k).length ≤ 100)
    (h : ∀ h' tk a vs e tl, Sub s.heap h' → (∀ p ∈ (a, listOf (List.toArray vs) e) :: tl, h'.get? p.1 = some p.2 ∧ s.heap.get? p.1 = none) → (∀ v ∈ vs, SlotV tl v) → Q (.ref a) { s with heap := h', toks := tk }) :
    wpAny (model PG w) (AL 5) (call (.ref 165) [.ref t, .str x tx]) Q (fun _ _ => False) s := by
  have X' := Frag.In.keeps X st
  have T' := TopRead.keeps T st
  clear X T
  refine TabAt.elim HT ?_
  intro d e1 e2 k1 k2 n kc ku I dc ec du eu nc nu lu
  (refine' enterF (by with_reducible assumption) (by with_reducible assumption) (by exact fun _ _ e => e) (by exact Nat.le_refl _) (by exact led0) (by k_is) (by k_is) (by decide) (by rfl) (by exact locs rfl) ?_ (by rfl) (by rfl) (by rfl) (by decide); intro h₁ F N)
  (repeat' (first | ((with_reducible show wpAny _ _ (execs (List.cons (PySem.Stmt.If _ _ _ _) _) _) _ _ _); (try dsimp only); (with_reducible refine execs_cut ?_); intro Q1'c hc'c) | ((with_reducible refine execs_cut ?_); intro Q1'c hc'c) | ((with_reducible show wpAny _ _ (call (Value.ref 151) _ _) _ _ _); refine' wpAL (supers_spec (by with_reducible assumption) (by with_reducible assumption) (by exact Fr.keep (by with_reducible assumption)) (by exact TabAt.up (by with_reducible assumption) (Fr.keep (by with_reducible assumption))) (by with_reducible assumption) ?_) (by rfl) (by exact Nat.le_of_ble_eq_true rfl) (by exact Nat.le_of_ble_eq_true rfl) (by rfl) (by rfl); intro h'q tk'q a'q vs'q e'q k'q tl'q s'q f'q S'q b'q; (have q'q := led_news2 (by with_reducible assumption) (by with_reducible assumption) s'q f'q); have F'q := q'q.1; have N'q := q'q.2.1; have l'q := q'q.2.2; clear q'q; (try simp only [List.cons_append, List.nil_append, List.append_nil] at N'q); (try simp only [AllApart, AllNe, and_true] at l'q); (have z'q := S'q.length); (have z2'q := supersFrom_le (by with_reducible assumption) b'q); k_sweep) | (with_reducible ((with_reducible show wpAny _ _ (binaryOp .Add (Value.ref _) (Value.ref _)) _ _ _); k_dflt (refine' add_lists_led (by with_reducible assumption) (by with_reducible assumption) (by k_mem) (by k_mem) (by (simp only [List.length_cons, List.length_nil]; omega)) ?_); intro D'q h'q F'q N'q l1; (try k_lt l1); (try simp only [List.cons_append, List.nil_append] at N'q); (try k_sweep))) | (with_reducible ((with_reducible show wpAny _ _ (newTuple _) _ _ _); k_dflt (refine' kup_newTuple (by with_reducible assumption) (by with_reducible assumption) ?_ (by kmk_size)); intro D'q h'q F'q N'q l1; (try k_lt l1); (try k_sweep))) | walk1 | (dsimp only; walk1) | ((with_reducible show Q1'c _ _); first | ((with_reducible refine hc'c.n _ ?_); clear hc'c Q1'c; (try dsimp only)) | ((with_reducible refine hc'c.f _ _ (by first | (with_reducible exact retN) | (intro h; cases h)) ?_); clear hc'c Q1'c; (try dsimp only))) | fail "no step"))
  rename Fr _ _ _ _ => F
  rename News _ _ _ _ => N
  rename All2 _ _ _ => hA
  rename (_ ≠ _ ∧ AllNe _ _) ∧ _ => hne
  rename Obj.IsDictOf (strKind PG w) _ [] => hd0
  rename _ < _ ∧ AllLt _ _ => hlt
  generalize supersFrom _ _ = R at *
  rename List.length _ = List.length _ => hlen
  rename List.length _ ≤ 101 => hle
  simp only [allLt_append, AllLt, and_true] at hlt
  obtain ⟨H, N2, hrH, hAH, nsd, nfd⟩ := sl_split N hA hne (by omega) (by omega) (by omega) (by omega)
  clear N hA hne hlt
  refine loopSl 0 H ["one", "steps", "rows", "slot", "kind"] rfl (.inr ⟨0, hrH⟩) F N2 (fun _ h => h) hd0 (Nat.le_refl _) (Nat.le_refl _) (fun v hv => nomatch hv) trivial trivial (by omega) apart_nil ?_ ?_
  · intro i v u1 vs e so kvs tl h1 tk1 I1 oI hi a1 a2 a3 a4 a5 a6 a7 a8 a9 a10 a11 a12 F1 N1
    replace F1 : Fr s.heap s.heap.objs.size h1 _ := F1
    replace N1 : News s.heap s.heap.objs.size h1 _ := N1
    refine rowGet hAH hi ?_
    intro z n T1 tz tn hz ev1 hT1
    cases ev1
    replace hT1 : (T1, tupO z tz n tn) ∈ H := hT1
    have hii : i < 102 := by have := (List.getElem?_eq_some_iff.mp hi).1; simp only [List.length_cons] at this; omega
    clear F N2 hd0
    rcases ec.at z with ⟨v, ys, hv, hd1, nm, C⟩ | ⟨hv, hd1⟩
    · refine ClsAt.elim C ?_
      intro xx dx cl sl f1 f2 f3 f4 f5 f6 j1 j2 j3 j4 j5 j6 tnm v4 v5 v6 nn e hx IC W gS
      cases hx
      (repeat' (first | ((with_reducible show wpAny _ _ (execs (List.cons (PySem.Stmt.If _ _ _ _) _) _) _ _ _); (try dsimp only); (with_reducible refine execs_cut ?_); intro Q1'c hc'c) | ((with_reducible refine execs_cut ?_); intro Q1'c hc'c) | (with_reducible ((with_reducible show wpAny _ _ (compareOp .In (Value.str _ _) (Value.ref _)) _ _ _); refine' in_dict_yes (by with_reducible assumption) (by with_reducible assumption) (by with_reducible assumption) (by with_reducible assumption) ?_)) | (with_reducible ((with_reducible show wpAny _ _ (subscriptTail _ _ (Value.ref _) (Value.str _ _)) _ _ _); refine' item_dict (by with_reducible assumption) (by with_reducible assumption) (by with_reducible assumption) ?_ (by with_unfolding_all rfl))) | walk1 | (dsimp only; walk1) | ((with_reducible show Q1'c _ _); first | ((with_reducible refine hc'c.n _ ?_); clear hc'c Q1'c; (try dsimp only)) | ((with_reducible refine hc'c.f _ _ (by first | (with_reducible exact retN) | (intro h; cases h)) ?_); clear hc'c Q1'c; (try dsimp only))) | fail "no step"))
      rename Fr _ _ _ _ => F3
      rename News _ _ _ _ => N3
      refine loopNil rfl (.inl ⟨_, gS, rfl, _, rfl⟩) F3 N3 ?_
      intro h2 tk2 F4 N4
      try dsimp only
      (repeat' (first | ((with_reducible show wpAny _ _ (execs (List.cons (PySem.Stmt.If _ _ _ _) _) _) _ _ _); (try dsimp only); (with_reducible refine execs_cut ?_); intro Q1'c hc'c) | ((with_reducible refine execs_cut ?_); intro Q1'c hc'c) | walk1 | (dsimp only; walk1) | ((with_reducible show Q1'c _ _); first | ((with_reducible refine hc'c.n _ ?_); clear hc'c Q1'c; (try dsimp only)) | ((with_reducible refine hc'c.f _ _ (by first | (with_reducible exact retN) | (intro h; cases h)) ?_); clear hc'c Q1'c; (try dsimp only))) | fail "no step"))
      exact TE.sl F4 N4 (by walk_at "SUB") (by walk_at "SUB") a9 a10 a11 a1 (by omega) (by omega) a4 a5 a6 a7 a8 (by walk_at "SAME3")
    · (repeat' (first | ((with_reducible show wpAny _ _ (execs (List.cons (PySem.Stmt.If _ _ _ _) _) _) _ _ _); (try dsimp only); (with_reducible refine execs_cut ?_); intro Q1'c hc'c) | ((with_reducible refine execs_cut ?_); intro Q1'c hc'c) | (with_reducible ((with_reducible show wpAny _ _ (newTuple _) _ _ _); k_dflt (refine' kup_newTuple (by with_reducible assumption) (by with_reducible assumption) ?_ (by kmk_size)); intro D'q h'q F'q N'q l1; (try k_lt l1); (try k_sweep))) | ((with_reducible show wpAny _ _ (compareOp _ _ _) _ _ _); first | (with_reducible ((with_reducible show wpAny _ _ (compareOp .In (Value.str _ _) (Value.ref _)) _ _ _); refine' in_dict_no (by with_reducible assumption) (by with_reducible assumption) (by with_reducible assumption) (by with_reducible assumption) ?_)) | (with_reducible ((with_reducible show wpAny _ _ (compareOp .In (Value.str _ _) (Value.ref _)) _ _ _); refine' in_dict (by with_reducible assumption) (by with_reducible assumption) (by with_reducible assumption) ?_))) | ((with_reducible show wpAny _ _ (call (Value.ref 74) _ _) _ _ _); refine' wpAL (kinds_spec (by with_reducible assumption) (by with_reducible assumption) (by exact Fr.keep (by with_reducible assumption)) ?_) (by rfl) (by exact Nat.le_of_ble_eq_true rfl) (by exact Nat.le_of_ble_eq_true rfl) (by rfl) (by rfl); intro h'q tk'q a'q vs'q k'q f'q o'q S'q; (have q'q := led_new (by with_reducible assumption) (by with_reducible assumption) k'q f'q o'q); have F'q := q'q.1; have N'q := q'q.2.1; have l'q := q'q.2.2; clear q'q; (try simp only [AllNe, and_true] at l'q); k_sweep) | walk1 | (dsimp only; walk1) | ((with_reducible show Q1'c _ _); first | ((with_reducible refine hc'c.n _ ?_); clear hc'c Q1'c; (try dsimp only)) | ((with_reducible refine hc'c.f _ _ (by first | (with_reducible exact retN) | (intro h; cases h)) ?_); clear hc'c Q1'c; (try dsimp only))) | fail "no step"))
      all_goals (rename Fr _ _ _ _ => F3; rename News _ _ _ _ => N3)
      · rename (_ < _ ∧ _ < _ ∧ _ < _ ∧ _ < _ ∧ AllLt _ _) => hl1
        rename (_ < _ ∧ _ < _ ∧ _ < _ ∧ AllLt _ _) => hl2
        rename (_ ≠ _ ∧ _ ≠ _ ∧ AllNe _ _) => hl3
        simp only [allLt_append, AllLt] at hl1 hl2
        refine loopSl (items := [_]) (0 + i) _ ["slot", "kind"] rfl (.inr ⟨_, .head _⟩) F3 (sl_split2 N3) (fun _ h => h) a1 a2 a3 a4 a5 a6 a7 ⟨allNe_lt hl1.2.2.2.2.1, allNe_lt hl2.2.2.2.1, a11, a8⟩ ?_ ?_
        · intro j v u2 vs2 e2 so2 kvs2 tl2 h2 tk2 I2 oI2 hj b1 b2 b3 b4 b5 b6 b7 b8 b9 b10 b11 b12 F4 N4
          clear F3 N3
          have hv2 : j = 0 := by
            have := (List.getElem?_eq_some_iff.mp hj).1
            simp only [List.length_cons, List.length_nil] at this; omega
          subst hv2
          simp only [List.getElem?_cons_zero, Option.some.injEq] at hj
          subst hj
          replace F4 : Fr s.heap s.heap.objs.size h2 _ := F4
          replace N4 : News s.heap s.heap.objs.size h2 _ := N4
          have hszd : kvs2.length ≤ 100000 := by omega
          have hsz2 : (List.toArray vs2).size ≤ sizeLine := by rw [List.size_toArray, sizeLine_eq]; omega
          (repeat' (first | ((with_reducible show wpAny _ _ (execs (List.cons (PySem.Stmt.If _ _ _ _) _) _) _ _ _); (try dsimp only); (with_reducible refine execs_cut ?_); intro Q1'c hc'c) | ((with_reducible refine execs_cut ?_); intro Q1'c hc'c) | (with_reducible ((with_reducible show wpAny _ _ (newTuple _) _ _ _); k_dflt (refine' kup_newTuple (by with_reducible assumption) (by with_reducible assumption) ?_ (by kmk_size)); intro D'q h'q F'q N'q l1; (try k_lt l1); (try k_sweep))) | (with_reducible ((with_reducible show wpAny _ _ (setItem (Value.ref _) (Value.str _ _) _) _ _ _); k_dflt (refine' set_led (by with_reducible assumption) (by with_reducible assumption) (by k_updF) (by with_reducible assumption) (by with_reducible assumption) ?_); intro h'q o'q F'q N'q hd'q; (try dsimp only at N'q); (try k_sweep))) | ((with_reducible show wpAny _ _ (compareOp .NotIn (Value.str _ _) (Value.ref _)) _ _ _); refine' notin_led (by with_reducible assumption) (by k_mem) (by with_reducible assumption) (by with_reducible assumption) ?_) | (with_reducible ((with_reducible show wpAny _ _ (call (Value.builtin _) [Value.ref _, _]) _ _ _); k_dflt (refine' append_K (by k_asm) (by k_asm) (by k_upd) ?_ (by with_reducible assumption); k_whole); intro h'q F'q N'q; (try simp only [List.push_toArray] at N'q); (try k_sweep))) | walk1 | (dsimp only; walk1) | ((with_reducible show Q1'c _ _); first | ((with_reducible refine hc'c.n _ ?_); clear hc'c Q1'c; (try dsimp only)) | ((with_reducible refine hc'c.f _ _ (by first | (with_reducible exact retN) | (intro h; cases h)) ?_); clear hc'c Q1'c; (try dsimp only))) | fail "no step"))
          all_goals (rename Fr _ _ _ _ => F5; rename News _ _ _ _ => N5)
          · exact TE.sl F5 N5 (by walk_at "SUB") (by walk_at "SUB") b9 b10 b11 b1 (by omega) (by omega) b4 b5 b6 b7 b8 (by walk_at "SAME3")
          · rename Obj.IsDictOf _ _ (stored _ _ _) => hd5
            rename _ < _ ∧ _ < _ ∧ AllLt _ _ => hlt5
            simp only [allLt_append, AllLt] at hlt5
            obtain ⟨c1, c2, c3, c4, c5, c6, c7, c8⟩ := hlt5
            have hst := stored_length_le kvs2 ".Data" (.bool true)
            refine TE.sl (tl := (_, tupS _ _ _ _) :: tl2) F5 N5 (by walk_at "SUB") (by walk_at "SUB") b9 b10 ⟨Nat.ne_of_gt c4, b11⟩ hd5 (Nat.le_trans hst (by omega)) (by simp; omega) ?_ ⟨Nat.ne_of_gt c1, b5⟩ ⟨Nat.ne_of_gt c2, b6⟩ b7 ⟨⟨Nat.ne_of_gt c5, b8.1⟩, ⟨Nat.ne_of_gt c6, b8.2.1⟩, ⟨Nat.ne_of_gt c7, b8.2.2.1⟩, apart_lt c8 b8.2.2.2⟩ (by walk_at "SAME3")
            intro v hv
            rcases List.mem_append.mp hv with hv | hv
            · exact (b4 v hv).mono fun p hp => .tail _ hp
            · rw [List.mem_singleton.mp hv]; exact ⟨_, _, _, _, _, rfl, .head _⟩
        · intro u2 vs2 e2 so2 kvs2 tl2 h2 tk2 b1 b2 b3 b4 b5 b6 b7 b8 F4 N4
          try dsimp only
          (repeat' (first | ((with_reducible show wpAny _ _ (execs (List.cons (PySem.Stmt.If _ _ _ _) _) _) _ _ _); (try dsimp only); (with_reducible refine execs_cut ?_); intro Q1'c hc'c) | ((with_reducible refine execs_cut ?_); intro Q1'c hc'c) | walk1 | (dsimp only; walk1) | ((with_reducible show Q1'c _ _); first | ((with_reducible refine hc'c.n _ ?_); clear hc'c Q1'c; (try dsimp only)) | ((with_reducible refine hc'c.f _ _ (by first | (with_reducible exact retN) | (intro h; cases h)) ?_); clear hc'c Q1'c; (try dsimp only))) | fail "no step"))
          simp only [List.length_cons, List.length_nil] at b2 b3
          exact TE.sl F4 N4 (by walk_at "SUB") (by walk_at "SUB") a9 a10 b8.2.2.1 b1 (by omega) (by omega) b4 b5 b6 b7 b8.2.2.2 (by walk_at "SAME3")
      all_goals refine loopNil rfl (.inr ⟨_, .head _⟩) F3 N3 ?_
      all_goals (intro h2 tk2 F4 N4; dsimp only; (repeat' (first | ((with_reducible show wpAny _ _ (execs (List.cons (PySem.Stmt.If _ _ _ _) _) _) _ _ _); (try dsimp only); (with_reducible refine execs_cut ?_); intro Q1'c hc'c) | ((with_reducible refine execs_cut ?_); intro Q1'c hc'c) | walk1 | (dsimp only; walk1) | ((with_reducible show Q1'c _ _); first | ((with_reducible refine hc'c.n _ ?_); clear hc'c Q1'c; (try dsimp only)) | ((with_reducible refine hc'c.f _ _ (by first | (with_reducible exact retN) | (intro h; cases h)) ?_); clear hc'c Q1'c; (try dsimp only))) | fail "no step")))
      all_goals exact TE.sl F4 N4 (by walk_at "SUB") (by walk_at "SUB") a9 a10 a11 a1 (by omega) (by omega) a4 a5 a6 a7 a8 (by walk_at "SAME3")
  · intro u1 vs e so kvs tl h1 tk1 a1 a2 a3 a4 a5 a6 a7 a8 F1 N1
    (repeat' (first | ((with_reducible show wpAny _ _ (execs (List.cons (PySem.Stmt.If _ _ _ _) _) _) _ _ _); (try dsimp only); (with_reducible refine execs_cut ?_); intro Q1'c hc'c) | ((with_reducible refine execs_cut ?_); intro Q1'c hc'c) | walk1 | (dsimp only; walk1) | ((with_reducible show Q1'c _ _); first | ((with_reducible refine hc'c.n _ ?_); clear hc'c Q1'c; (try dsimp only)) | ((with_reducible refine hc'c.f _ _ (by first | (with_reducible exact retN) | (intro h; cases h)) ?_); clear hc'c Q1'c; (try dsimp only))) | fail "no step"))
    try dsimp only
    exact h _ _ _ _ _ tl F1.keep (fun p hp => ⟨(N1 p ((by walk_at "SUB" : ∀ p ∈ _ :: tl, p ∈ _) p hp)).1, (N1 p ((by walk_at "SUB" : ∀ p ∈ _ :: tl, p ∈ _) p hp)).2.2⟩) a4

theorem loopC {w : World} {A : Around} {target : Expr} {body : List Stmt} {env : Env} {Q : Flow → Shared → Prop} {s : Shared} {h₀ : Heap} {m₀ : Str → Option Value} {l : Addr} {items : List Value} {news : List (Addr × Obj)} (xs : List Str)
    (hh : A.handled = none) (hl : h₀.IsList l (List.toArray items) ∨ ∃ e, (l, listOf (List.toArray items) e) ∈ news) (F : Fr h₀ env.locals s.heap m₀) (N : News h₀ env.locals s.heap news)
    (turn : ∀ (i : Nat) v (u : Str → Option Value) h tk I oI, items[i]? = some v → AllNe I news → Fr h₀ env.locals h (fun y => if xs.contains y then u y else m₀ y) → News h₀ env.locals h ((I, oI) :: news) →
      wpAny (model PG w) A (assign target env v) (fun _ s₂ => wpAny (model PG w) A (execs body env) (TE h₀ env.locals xs m₀ (fun nx => nx = []) I ((I, oI) :: news) s Q) (fun _ _ => False) s₂) (fun _ _ => False) { s with heap := h, toks := tk })
    (done : ∀ (u : Str → Option Value) h tk, Fr h₀ env.locals h (fun y => if xs.contains y then u y else m₀ y) → News h₀ env.locals h news → Q .next { s with heap := h, toks := tk }) :
    AtFor w A target body env Q (.ref l) s := by
  refine loopL (items := List.toArray items) (held := news) (news₀ := []) xs (fun _ nx => nx = []) hh hl F N rfl ?_ ?_
  · rintro i v u news₁ h tk I oI hi rfl hI F1 N1
    exact turn i v u h tk I oI (by simpa using hi) hI F1 N1
  · rintro u news₁ h tk rfl F1 N1
    exact done u h tk F1 N1
theorem TE.c {h₀ : Heap} {L : Addr} {xs : List Str} {m₀ m' : Str → Option Value} {I : Addr} {own news : List (Addr × Obj)} {s : Shared} {Q : Flow → Shared → Prop} {h' : Heap} {tk' : Nat}
    (F : Fr h₀ L h' m') (N : News h₀ L h' news) (ho : ∀ p ∈ own, p ∈ news) (hm : ∀ y, xs.contains y = false → m' y = m₀ y) :
    TE h₀ L xs m₀ (fun nx => nx = []) I own s Q .next { s with heap := h', toks := tk' } := TE.next (nx := []) F N (fun _ hp => nomatch hp) ho trivial rfl hm
theorem ofAll {par : Str → List Str} (h : ∀ x k, (bst par x k).length ≤ 100) (x : Str) : ∀ k, (bst par x k).length ≤ 100 := h x
theorem check_spec {w : World} {s : Shared} {Q : Value → Shared → Prop} {g : Heap} {mg mb : Str → Option Value} {t c u x : Addr} {D U : List (Str × List Str)} {nm : Str} {ys : List Str}
    (X : (KF w.params).In g) (T : TR mg mb g) (st : Sub g s.heap) (HT : TabAt w s.heap t c u D U) (hB : ∀ x k, (bst (parentsOf D U) x k).length ≤ 100) (C : ClsAt s.heap (.ref x) nm ys)
    (h : ∀ h' tk, Sub s.heap h' → Q .none { s with heap := h', toks := tk }) :
    wpAny (model PG w) (AL 6) (call (.ref 179) [.ref t, .ref x]) Q (fun _ _ => False) s := by
  have X' := Frag.In.keeps X st
  have T' := TopRead.keeps T st
  clear X T
  refine TabAt.elim HT ?_
  intro d e1 e2 k1 k2 n kc ku I dc ec du eu nc nu lu
  refine ClsAt.elim C ?_
  intro xx dx cl sl f1 f2 f3 f4 f5 f6 j1 j2 j3 j4 j5 j6 tnm v4 v5 v6 nn e hx IC W gS
  cases hx
  (refine' enterF (by with_reducible assumption) (by with_reducible assumption) (by exact fun _ _ e => e) (by exact Nat.le_refl _) (by exact led0) (by k_is) (by k_is) (by decide) (by rfl) (by exact locs rfl) ?_ (by rfl) (by rfl) (by rfl) (by decide); intro h₁ F N)
  (repeat' (first | ((with_reducible show wpAny _ _ (execs (List.cons (PySem.Stmt.If _ _ _ _) _) _) _ _ _); (try dsimp only); (with_reducible refine execs_cut ?_); intro Q1'c hc'c) | ((with_reducible refine execs_cut ?_); intro Q1'c hc'c) | walk1 | (dsimp only; walk1) | ((with_reducible show Q1'c _ _); first | ((with_reducible refine hc'c.n _ ?_); clear hc'c Q1'c; (try dsimp only)) | ((with_reducible refine hc'c.f _ _ (by first | (with_reducible exact retN) | (intro h; cases h)) ?_); clear hc'c Q1'c; (try dsimp only))) | fail "no step"))
  rename Fr _ _ _ _ => F
  rename News _ _ _ _ => N
  rename Obj.IsDictOf (strKind PG w) _ [] => hd0
  refine loopNil rfl (.inl ⟨_, gS, rfl, _, rfl⟩) F N ?_
  intro h2 tk2 F2 N2
  clear F N
  try dsimp only
  replace F2 : Fr s.heap s.heap.objs.size h2 _ := F2
  replace N2 : News s.heap s.heap.objs.size h2 _ := N2
  (repeat' (first | ((with_reducible show wpAny _ _ (execs (List.cons (PySem.Stmt.If _ _ _ _) _) _) _ _ _); (try dsimp only); (with_reducible refine execs_cut ?_); intro Q1'c hc'c) | ((with_reducible refine execs_cut ?_); intro Q1'c hc'c) | walk1 | (dsimp only; walk1) | ((with_reducible show Q1'c _ _); first | ((with_reducible refine hc'c.n _ ?_); clear hc'c Q1'c; (try dsimp only)) | ((with_reducible refine hc'c.f _ _ (by first | (with_reducible exact retN) | (intro h; cases h)) ?_); clear hc'c Q1'c; (try dsimp only))) | fail "no step"))
  rename Fr _ _ _ _ => F
  rename News _ _ _ _ => N
  obtain ⟨vs, e9, g9, S9, l9⟩ := W
  refine loopC ["parent", "slot", "kind"] rfl (.inl ⟨_, g9, rfl, _, rfl⟩) F N ?_ ?_
  · intro i v u1 h1 tk1 I1 oI hi a1 F1 N1
    replace F1 : Fr s.heap s.heap.objs.size h1 _ := F1
    replace N1 : News s.heap s.heap.objs.size h1 _ := N1
    obtain ⟨p, tp, rfl, hp'⟩ := StrsAre.item S9 i v hi
    clear F N
    (repeat' (first | ((with_reducible show wpAny _ _ (execs (List.cons (PySem.Stmt.If _ _ _ _) _) _) _ _ _); (try dsimp only); (with_reducible refine execs_cut ?_); intro Q1'c hc'c) | ((with_reducible refine execs_cut ?_); intro Q1'c hc'c) | ((with_reducible show wpAny _ _ (call (Value.ref 165) _ _) _ _ _); refine' wpAL (slots_spec (by with_reducible assumption) (by with_reducible assumption) (by exact Fr.keep (by with_reducible assumption)) (by exact TabAt.up (by with_reducible assumption) (Fr.keep (by with_reducible assumption))) (by exact ofAll (by with_reducible assumption) _) ?_) (by rfl) (by exact Nat.le_of_ble_eq_true rfl) (by exact Nat.le_of_ble_eq_true rfl) (by rfl) (by rfl); intro h'q tk'q a'q vs'q e'q tl'q s'q f'q S'q; (have q'q := led_news2 (by with_reducible assumption) (by with_reducible assumption) s'q f'q); have F'q := q'q.1; have N'q := q'q.2.1; have l'q := q'q.2.2; clear q'q; (try simp only [List.cons_append, List.nil_append, List.append_nil] at N'q); (try simp only [AllApart, AllNe, and_true] at l'q); k_sweep) | walk1 | (dsimp only; walk1) | ((with_reducible show Q1'c _ _); first | ((with_reducible refine hc'c.n _ ?_); clear hc'c Q1'c; (try dsimp only)) | ((with_reducible refine hc'c.f _ _ (by first | (with_reducible exact retN) | (intro h; cases h)) ?_); clear hc'c Q1'c; (try dsimp only))) | fail "no step"))
    rename Fr _ _ _ _ => F
    rename News _ _ _ _ => N
    rename ∀ v ∈ _, SlotV _ v => hS
    refine loopC ["slot", "kind"] rfl (.inr ⟨_, .head _⟩) F N ?_ ?_
    · intro j v u2 h2 tk2 I2 oI2 hj b1 F3 N3
      replace F3 : Fr s.heap s.heap.objs.size h2 _ := F3
      replace N3 : News s.heap s.heap.objs.size h2 _ := N3
      obtain ⟨T2, y2, t2, z2, t2', rfl, hT2⟩ := hS v (List.mem_of_getElem? hj)
      clear F N
      (repeat' (first | ((with_reducible show wpAny _ _ (execs (List.cons (PySem.Stmt.If _ _ _ _) _) _) _ _ _); (try dsimp only); (with_reducible refine execs_cut ?_); intro Q1'c hc'c) | ((with_reducible refine execs_cut ?_); intro Q1'c hc'c) | walk1 | (dsimp only; walk1) | ((with_reducible show Q1'c _ _); first | ((with_reducible refine hc'c.n _ ?_); clear hc'c Q1'c; (try dsimp only)) | ((with_reducible refine hc'c.f _ _ (by first | (with_reducible exact retN) | (intro h; cases h)) ?_); clear hc'c Q1'c; (try dsimp only))) | fail "no step"))
      rename Fr _ _ _ _ => F
      rename News _ _ _ _ => N
      exact TE.c F N (by walk_at "SUB") (by walk_at "SAME3")
    · intro u2 h2 tk2 F3 N3
      try dsimp only
      (repeat' (first | ((with_reducible show wpAny _ _ (execs (List.cons (PySem.Stmt.If _ _ _ _) _) _) _ _ _); (try dsimp only); (with_reducible refine execs_cut ?_); intro Q1'c hc'c) | ((with_reducible refine execs_cut ?_); intro Q1'c hc'c) | walk1 | (dsimp only; walk1) | ((with_reducible show Q1'c _ _); first | ((with_reducible refine hc'c.n _ ?_); clear hc'c Q1'c; (try dsimp only)) | ((with_reducible refine hc'c.f _ _ (by first | (with_reducible exact retN) | (intro h; cases h)) ?_); clear hc'c Q1'c; (try dsimp only))) | fail "no step"))
      exact TE.c F3 N3 (by walk_at "SUB") (by walk_at "SAME3")
  · intro u1 h1 tk1 F1 N1
    try dsimp only
    (repeat' (first | ((with_reducible show wpAny _ _ (execs (List.cons (PySem.Stmt.If _ _ _ _) _) _) _ _ _); (try dsimp only); (with_reducible refine execs_cut ?_); intro Q1'c hc'c) | ((with_reducible refine execs_cut ?_); intro Q1'c hc'c) | walk1 | (dsimp only; walk1) | ((with_reducible show Q1'c _ _); first | ((with_reducible refine hc'c.n _ ?_); clear hc'c Q1'c; (try dsimp only)) | ((with_reducible refine hc'c.f _ _ (by first | (with_reducible exact retN) | (intro h; cases h)) ?_); clear hc'c Q1'c; (try dsimp only))) | fail "no step"))
    try dsimp only
    exact h _ _ F1.keep

theorem known_yes {w : World} {s : Shared} {Q : Value → Shared → Prop} {g : Heap} {mg mb : Str → Option Value} {t c u : Addr} {D U : List (Str × List Str)} {x : Str} {tx : Tok}
    (X : (KF w.params).In g) (T : TR mg mb g) (st : Sub g s.heap) (HT : TabAt w s.heap t c u D U) (hk : ((at? D x).isSome || basicNames.any (· == x)) = true)
    (h : ∀ h' tk, Sub s.heap h' → Q (.bool true) { s with heap := h', toks := tk }) :
    wpAny (model PG w) (AL 3) (call (.ref 137) [.ref t, .str x tx]) Q (fun _ _ => False) s := known_spec X T st HT fun h' tk k => by rw [hk]; exact h h' tk k
theorem distance_none {w : World} {s : Shared} {Q : Value → Shared → Prop} {g : Heap} {mg mb : Str → Option Value} {t c u : Addr} {D U : List (Str × List Str)} {x y : Str} {tx ty : Tok}
    (X : (KF w.params).In g) (T : TR mg mb g) (st : Sub g s.heap) (HT : TabAt w s.heap t c u D U) (hB : ∀ k, (bst (parentsOf D U) x k).length ≤ 100) (hd : ∀ k, distOf x y (supersFrom x (bst (parentsOf D U) x k)) = none)
    (h : ∀ h' tk, Sub s.heap h' → Q .none { s with heap := h', toks := tk }) :
    wpAny (model PG w) (AL 5) (call (.ref 158) [.ref t, .str x tx, .str y ty]) Q (fun _ _ => False) s := distance_spec X T st HT hB fun h' tk v k a b _ => by
  rw [hd k] at b
  cases b
  exact h h' tk a
theorem set_base {w : World} {A : Around} {E : Value → Shared → Prop} {s : Shared} {h₀ : Heap} {L d : Addr} {m : Str → Option Value} {kvs : List (Str × Value)} {x : Str} {t : Tok} {v : Value} {Q : Unit → Shared → Prop} (D : h₀.DictOf (strKind PG w) d kvs) (F : Fr h₀ L s.heap m) (hsz : kvs.length ≤ 100000)
    (h : ∀ h' o', SubBut d h₀ h' → h'.get? d = some o' → o'.IsDictOf (strKind PG w) (stored kvs x v) → Q () { s with heap := h', toks := s.toks + 1 }) :
    wpAny (model PG w) A (setItem (.ref d) (.str x t) v) Q E s := by
  refine wpAny_setItem_pairs (strKind_is _ _ _ _) (D.keep F.keep) (fun h' hd hs => ?_) (by rw [sizeLine_eq]; omega)
  obtain ⟨o', ho', hd'⟩ := Heap.dictOf_iff.mp hd
  exact h h' o' (fun b o n e => (hs.2 b n).trans (F.keep b o e)) ho' hd'
theorem define_spec {w : World} {s : Shared} {Q : Value → Shared → Prop} {g : Heap} {mg mb : Str → Option Value} {t c u x : Addr} {D U : List (Str × List Str)} {nm : Str} {ys : List Str}
    (X : (KF w.params).In g) (T : TR mg mb g) (st : Sub g s.heap) (HT : TabAt w s.heap t c u D U) (hB : ∀ x k, (bst (parentsOf D U) x k).length ≤ 100) (C : ClsAt s.heap (.ref x) nm ys)
    (hk : ∀ y ∈ ys, ((at? D y).isSome || basicNames.any (· == y)) = true) (hne : ∀ y ∈ ys, (y == nm) = false) (hd : ∀ y ∈ ys, ∀ k, distOf y nm (supersFrom y (bst (parentsOf D U) y k)) = none) (kc₀ : List (Str × Value)) (dc₀ : s.heap.DictOf (strKind PG w) c kc₀) (hkc : kc₀.length ≤ 100000)
    (h : ∀ h' tk co, SubBut c s.heap h' → h'.get? c = some co → co.IsDictOf (strKind PG w) (stored kc₀ nm (.ref x)) → Q .none { s with heap := h', toks := tk }) :
    wpAny (model PG w) (AL 7) (call (.ref 109) [.ref t, .ref x]) Q (fun _ _ => False) s := by
  have X' := Frag.In.keeps X st
  have T' := TopRead.keeps T st
  clear X T
  refine TabAt.elim HT ?_
  intro d e1 e2 k1 k2 n kc ku I dc ec du eu nc nu lu
  refine ClsAt.elim C ?_
  intro xx dx cl sl f1 f2 f3 f4 f5 f6 j1 j2 j3 j4 j5 j6 tnm v4 v5 v6 nn e hx IC W gS
  cases hx
  (refine' enterF (by with_reducible assumption) (by with_reducible assumption) (by exact fun _ _ e => e) (by exact Nat.le_refl _) (by exact led0) (by k_is) (by k_is) (by decide) (by rfl) (by exact locs rfl) ?_ (by rfl) (by rfl) (by rfl) (by decide); intro h₁ F N)
  (repeat' (first | ((with_reducible show wpAny _ _ (execs (List.cons (PySem.Stmt.If _ _ _ _) _) _) _ _ _); (try dsimp only); (with_reducible refine execs_cut ?_); intro Q1'c hc'c) | ((with_reducible refine execs_cut ?_); intro Q1'c hc'c) | walk1 | (dsimp only; walk1) | ((with_reducible show Q1'c _ _); first | ((with_reducible refine hc'c.n _ ?_); clear hc'c Q1'c; (try dsimp only)) | ((with_reducible refine hc'c.f _ _ (by first | (with_reducible exact retN) | (intro h; cases h)) ?_); clear hc'c Q1'c; (try dsimp only))) | fail "no step"))
  rename Fr _ _ _ _ => F
  rename News _ _ _ _ => N
  obtain ⟨vs, e9, g9, S9, l9⟩ := id W
  refine loopC ["name"] rfl (.inl ⟨_, g9, rfl, _, rfl⟩) F N ?_ ?_
  · intro i v u1 h1 tk1 I1 oI hi a1 F1 N1
    replace F1 : Fr s.heap s.heap.objs.size h1 _ := F1
    replace N1 : News s.heap s.heap.objs.size h1 _ := N1
    obtain ⟨p, tp, rfl, hp'⟩ := StrsAre.item S9 i v hi
    have hp := List.mem_of_getElem? hp'
    have hk1 := hk p hp
    have hn1 := hne p hp
    have hd1 := hd p hp
    clear F N
    (repeat' (first | ((with_reducible show wpAny _ _ (execs (List.cons (PySem.Stmt.If _ _ _ _) _) _) _ _ _); (try dsimp only); (with_reducible refine execs_cut ?_); intro Q1'c hc'c) | ((with_reducible refine execs_cut ?_); intro Q1'c hc'c) | ((with_reducible show wpAny _ _ (call _ _ _) _ _ _); first | ((with_reducible show wpAny _ _ (call (Value.ref 158) _ _) _ _ _); refine' wpAL (distance_none (by with_reducible assumption) (by with_reducible assumption) (by exact Fr.keep (by with_reducible assumption)) (by exact TabAt.up (by with_reducible assumption) (Fr.keep (by with_reducible assumption))) (by exact ofAll (by with_reducible assumption) _) (by with_reducible assumption) ?_) (by rfl) (by exact Nat.le_of_ble_eq_true rfl) (by exact Nat.le_of_ble_eq_true rfl) (by rfl) (by rfl); intro h'q tk'q s'q; (have q'q := led_old (by with_reducible assumption) (by with_reducible assumption) s'q); have F'q := q'q.1; have N'q := q'q.2; clear q'q; k_sweep) | ((with_reducible show wpAny _ _ (call (Value.ref 137) _ _) _ _ _); refine' wpAL (known_yes (by with_reducible assumption) (by with_reducible assumption) (by exact Fr.keep (by with_reducible assumption)) (by exact TabAt.up (by with_reducible assumption) (Fr.keep (by with_reducible assumption))) (by with_reducible assumption) ?_) (by rfl) (by exact Nat.le_of_ble_eq_true rfl) (by exact Nat.le_of_ble_eq_true rfl) (by rfl) (by rfl); intro h'q tk'q k'q; (have q'q := led_old (by with_reducible assumption) (by with_reducible assumption) k'q); have F'q := q'q.1; have N'q := q'q.2; clear q'q; k_sweep)) | walk1 | (dsimp only; walk1) | ((with_reducible show Q1'c _ _); first | ((with_reducible refine hc'c.n _ ?_); clear hc'c Q1'c; (try dsimp only)) | ((with_reducible refine hc'c.f _ _ (by first | (with_reducible exact retN) | (intro h; cases h)) ?_); clear hc'c Q1'c; (try dsimp only))) | fail "no step"))
    rename Fr _ _ _ _ => F
    rename News _ _ _ _ => N
    exact TE.c F N (by walk_at "SUB") (by walk_at "SAME3")
  · intro u1 h1 tk1 F1 N1
    replace F1 : Fr s.heap s.heap.objs.size h1 _ := F1
    replace N1 : News s.heap s.heap.objs.size h1 _ := N1
    clear F N dc
    try dsimp only
    (repeat' (first | ((with_reducible show wpAny _ _ (execs (List.cons (PySem.Stmt.If _ _ _ _) _) _) _ _ _); (try dsimp only); (with_reducible refine execs_cut ?_); intro Q1'c hc'c) | ((with_reducible refine execs_cut ?_); intro Q1'c hc'c) | (with_reducible ((with_reducible show wpAny _ _ (setItem (Value.ref _) (Value.str _ _) _) _ _ _); refine set_base (by with_reducible assumption) (by with_reducible assumption) (by with_reducible assumption) ?_; intro h'q o'q k'q g'q d'q)) | ((with_reducible show wpAny _ _ (call (Value.ref 179) _ _) _ _ _); refine' wpAL (check_spec (by with_reducible assumption) (by with_reducible assumption) (by exact Fr.keep (by with_reducible assumption)) (by exact TabAt.up (by with_reducible assumption) (Fr.keep (by with_reducible assumption))) (by with_reducible assumption) (by exact ClsAt.up (by with_reducible assumption) (Fr.keep (by with_reducible assumption))) ?_) (by rfl) (by exact Nat.le_of_ble_eq_true rfl) (by exact Nat.le_of_ble_eq_true rfl) (by rfl) (by rfl); intro h'q tk'q k'q; (have q'q := led_old (by with_reducible assumption) (by with_reducible assumption) k'q); have F'q := q'q.1; have N'q := q'q.2; clear q'q; k_sweep) | walk1 | (dsimp only; walk1) | ((with_reducible show Q1'c _ _); first | ((with_reducible refine hc'c.n _ ?_); clear hc'c Q1'c; (try dsimp only)) | ((with_reducible refine hc'c.f _ _ (by first | (with_reducible exact retN) | (intro h; cases h)) ?_); clear hc'c Q1'c; (try dsimp only))) | fail "no step"))
    try dsimp only
    exact h _ _ _ (by with_reducible assumption) (by with_reducible assumption) (by with_reducible assumption)

theorem enterC {w : World} {A : Around} {s : Shared} {R : Result → Shared → Prop} {g : Heap} {news : List (Addr × Obj)} {mg mb : Str → Option Value}
    {name qual : Str} {params : Arguments} {body : List Stmt} {scope : Scope} {dV kV doc pm cdv ct oc : Value} {an od : Option Addr} {osl : Array (Option Value)} {f : Addr} {args : List Value} {binds : List (Str × Value)}
    (X : (KF w.params).In g) (T : TR mg mb g) (st : Sub g s.heap) (sz : g.objs.size ≤ s.heap.objs.size) (N : ∀ p ∈ news, s.heap.get? p.1 = some p.2 ∧ g.get? p.1 = none)
    (ho : (KF w.params).lookup f = some ⟨oc, od, .func (fnOf name qual params body scope dV kV doc pm an cdv ct), osl⟩) (hcd : codeIn (KF w.params) cdv qual = true) (hroom : A.depth < recursionLimit)
    (hbind : bindArgs (fnOf name qual params body scope dV kV doc pm an cdv ct) ⟨args, []⟩ = pure binds) (hloc : ∀ y ∈ binds, scope.names.lookup y.1 = some .local)
    (h : ∀ h₁, Fr g s.heap.objs.size h₁ (fun y => binds.reverse.lookup y) → News g s.heap.objs.size h₁ news →
      wpAny (model PG w) (A.deeper (envOf qual scope s.heap.objs.size f cdv)) (execs body (envOf qual scope s.heap.objs.size f cdv))
        (fun fl s' => R (.ok (.ret (match fl with | .ret v => v | _ => .none))) s') (fun _ _ => False) { s with heap := h₁, toks := s.toks + binds.length })
    (hco : scope.isCoroutine = false) (hgen : scope.isGenerator = false) (hk : scope.kind = .function) (hcell : ∀ x ∈ scope.names, x.2 ≠ .cell) :
    codeAny (model PG w) A (.call (.ref f) ⟨args, []⟩) R s := by
  refine codeAny_call_def (fd := fnOf name qual params body scope dV kV doc pm an cdv ct) (body := body) (binds := binds) hroom (st _ _ (X _ _ ho)) rfl (T.nolimit.keeps st) (codeRec_of (Frag.In.keeps X st) hcd) rfl (.of_eq hbind) hcell hloc (fun h₁ hns hk₁ => ?_) hco hgen hk
  refine wpAny_mono (h h₁ ⟨hns, fun b o e => hk₁ b o (st b o e), sz⟩ fun p hp => ⟨hk₁ _ _ (N p hp).1, Nat.ne_of_lt (Heap.lt_size (N p hp).1), (N p hp).2⟩) (fun fl s' hl => hl) fun _ _ x => x.elim
theorem init_spec {w : World} {s : Shared} {R : Result → Shared → Prop} {g : Heap} {mg mb : Str → Option Value} {nm : Str} {tn : Tok} {x dx sl cl : Addr} {v4 v5 v6 : Value} {pos : List Value} {kw : List (Str × Value)}
    (X : (KF w.params).In g) (T : TR mg mb g) (st : Sub g s.heap) (sz : g.objs.size ≤ s.heap.objs.size) (hx : s.heap.get? x = some (instObj 63 dx)) (hdx : s.heap.get? dx = some (dictOf [] 0)) (n1 : g.get? x = none) (n2 : g.get? dx = none) (hlt : @LT.lt Nat _ dx x)
    (h : ∀ h' tk e1 e2 e3 e4 e5 e6 k1 k2 k3 k4 k5 k6 n, Sub g h' → h'.get? x = some (instObj 63 dx) →
      h'.get? dx = some (dictOf [⟨e1, .str "name" k1, .str nm tn⟩, ⟨e2, .str "slots" k2, .ref sl⟩, ⟨e3, .str "contains" k3, .ref cl⟩, ⟨e4, .str "validity" k4, v4⟩, ⟨e5, .str "virtual" k5, v5⟩, ⟨e6, .str "prototype" k6, v6⟩] n) →
      R (.ok (.ret .none)) { s with heap := h', toks := tk }) :
    codeAny (model PG w) ((AL 1).under (.builtin "type.__call__" ⟨.ref 63 :: pos, kw⟩)) (.call (.ref 60) ⟨[.ref x, .str nm tn, .ref sl, .ref cl, v4, v5, v6], []⟩) R s := by
  have ld := (fun p hp => by
    rcases List.mem_cons.mp hp with rfl | hp
    · exact ⟨hx, n1⟩
    · rw [List.mem_singleton.mp hp]; exact ⟨hdx, n2⟩ : ∀ p ∈ [(x, instObj 63 dx), (dx, dictOf [] 0)], s.heap.get? p.1 = some p.2 ∧ g.get? p.1 = none)
  clear hx hdx
  (refine' enterC ?X ?T ?st ?sz ?N (by k_is) (by k_is) (by k_room) (by rfl) (by exact locs rfl) ?_ (by rfl) (by rfl) (by rfl) (by decide))
  case X => exact X
  case T => exact T
  case st => exact st
  case sz => exact sz
  case N => exact ld
  intro h₁ F N
  (repeat' (first | ((with_reducible show wpAny _ _ (execs (List.cons (PySem.Stmt.If _ _ _ _) _) _) _ _ _); (try dsimp only); (with_reducible refine execs_cut ?_); intro Q1'c hc'c) | ((with_reducible refine execs_cut ?_); intro Q1'c hc'c) | walk1 | (dsimp only; walk1) | ((with_reducible show Q1'c _ _); first | ((with_reducible refine hc'c.n _ ?_); clear hc'c Q1'c; (try dsimp only)) | ((with_reducible refine hc'c.f _ _ (by first | (with_reducible exact retN) | (intro h; cases h)) ?_); clear hc'c Q1'c; (try dsimp only))) | fail "no step"))
  try dsimp only
  rename Fr _ _ _ _ => F
  rename News _ _ _ _ => N
  exact h _ _ _ _ _ _ _ _ _ _ _ _ _ _ _ F.keep (N _ (.head _)).1 (N _ (.tail _ (.head _))).1
theorem make_spec {w : World} {s : Shared} {Q : Value → Shared → Prop} {g : Heap} {mg mb : Str → Option Value} {nm : Str} {tn : Tok} {sl cl : Addr} {v4 v5 v6 : Value}
    (X : (KF w.params).In g) (T : TR mg mb g) (st : Sub g s.heap)
    (h : ∀ h' tk x dx e1 e2 e3 e4 e5 e6 k1 k2 k3 k4 k5 k6 n, Sub s.heap h' → s.heap.get? x = none → s.heap.get? dx = none → @Ne Nat x dx → h'.get? x = some (instObj 63 dx) →
      h'.get? dx = some (dictOf [⟨e1, .str "name" k1, .str nm tn⟩, ⟨e2, .str "slots" k2, .ref sl⟩, ⟨e3, .str "contains" k3, .ref cl⟩, ⟨e4, .str "validity" k4, v4⟩, ⟨e5, .str "virtual" k5, v5⟩, ⟨e6, .str "prototype" k6, v6⟩] n) →
      Q (.ref x) { s with heap := h', toks := tk }) :
    wpAny (model PG w) (AL 1) (call (.ref 63) [.str nm tn, .ref sl, .ref cl, v4, v5, v6]) Q (fun _ _ => False) s := by
  have X' := Frag.In.keeps X st
  have T' := TopRead.keeps T st
  clear X T
  have hm : makesIn (KF w.params) 63 = true := by k_is
  have hi : findIn (KF w.params) (.ref 63) "__init__" = some (some (.ref 60)) := by k_is
  have hf : isFn (KF w.params) (.ref 60) = true := by k_is
  obtain ⟨hh, g', d', t', os⟩ := s
  refine wpAny_call (make_core (makes_of X' hm) (looks_findIn X' hi) (fun self => bind_fn X' self (beq_iff_eq.mp hf)) (.inl rfl) ?_)
  have k : Sub hh ((hh.push emptyDict).push (instObj 63 hh.objs.size)) := fun b o e => Heap.get?_push_of_some _ (Heap.get?_push_of_some _ e)
  have hx : ((hh.push emptyDict).push (instObj 63 hh.objs.size)).get? (hh.objs.size + 1) = some (instObj 63 hh.objs.size) := by heap_get
  have hdx : ((hh.push emptyDict).push (instObj 63 hh.objs.size)).get? hh.objs.size = some (dictOf [] 0) := by heap_get
  have none1 : ∀ a, hh.objs.size ≤ a → hh.get? a = none := fun a ha => by
    cases e : hh.get? a with
    | none => rfl
    | some o => exact absurd (Heap.lt_size e) (Nat.not_lt.mpr ha)
  have hlt : @LT.lt Nat _ hh.objs.size (hh.objs.size + 1) := Nat.lt_succ_self _
  have n1 := none1 (hh.objs.size + 1) (Nat.le_succ _)
  have n2 := none1 hh.objs.size (Nat.le_refl _)
  refine init_spec (s := ⟨(hh.push emptyDict).push (instObj 63 hh.objs.size), g', d', t', os⟩) X' T' k (by show hh.objs.size ≤ ((hh.push emptyDict).push (instObj 63 hh.objs.size)).objs.size; rw [Heap.size_push, Heap.size_push]; omega) hx hdx n1 n2 hlt ?_
  intro h' tk e1 e2 e3 e4 e5 e6 k1 k2 k3 k4 k5 k6 n a1 a2 a3
  exact ⟨rfl, h h' tk _ _ e1 e2 e3 e4 e5 e6 k1 k2 k3 k4 k5 k6 n a1 n1 n2 (Nat.ne_of_gt hlt) a2 a3⟩

theorem unfreeze2 {h₀ h : Heap} {L c u : Addr} {m : Str → Option Value} {co uo : Obj} (F : Fr h₀ L h m) (hc : h₀.get? c = some co) (hu : h₀.get? u = some uo) : Fr ((h₀.hide c).hide u) L h m ∧ News ((h₀.hide c).hide u) L h [(c, co), (u, uo)] := by
  have sz : ((h₀.hide c).hide u).objs.size = h₀.objs.size := by rw [Heap.hide_size, Heap.hide_size]
  have ne : ∀ {a o}, h₀.get? a = some o → a ≠ L := fun {a o} e q => by have := Heap.lt_size e; have := F.above; rw [q] at *; exact absurd this (Nat.not_le.mpr (by assumption))
  refine ⟨⟨F.ns, fun b o e => F.keep b o (Heap.of_hide (Heap.of_hide e)), by rw [sz]; exact F.above⟩, fun p hp => ?_⟩
  rcases List.mem_cons.mp hp with rfl | hp
  · refine ⟨F.keep _ _ hc, ne hc, ?_⟩
    by_cases e : c = u
    · subst e; exact Heap.hide_self _ _
    · show ((h₀.hide c).hide u).get? c = none
      rw [Heap.hide_ne _ e]; exact Heap.hide_self _ _
  · rw [List.mem_singleton.mp hp]
    exact ⟨F.keep _ _ hu, ne hu, Heap.hide_self _ _⟩
theorem words_hide {w : World} {h : Heap} {c l : Addr} {co : Obj} {kvs : List (Str × Value)} {xs : List Str} (hc : h.get? c = some co) (hd : co.IsDictOf (strKind PG w) kvs) (W : Words h l xs) : Words (h.hide c) l xs := by
  obtain ⟨vs, e, g, r⟩ := W
  refine ⟨vs, e, ?_, r⟩
  rw [Heap.hide_ne]
  · exact g
  · rintro rfl
    rw [hc] at g; cases g
    obtain ⟨es, ep, h1, _⟩ := hd
    have h2 := h1.1
    injection h2 with h3
    exact absurd h3 (by decide)
theorem sub_hide2 {g h : Heap} {a b : Addr} (st : Sub g h) (e1 : g.get? a = none) (e2 : g.get? b = none) : Sub g ((h.hide a).hide b) := sub_hide (sub_hide st e1) e2
theorem led_pair {h₀ h h' : Heap} {L x dx : Addr} {m : Str → Option Value} {news : List (Addr × Obj)} {o1 o2 : Obj} (F : Fr h₀ L h m) (N : News h₀ L h news) (k : Sub h h') (n1 : h.get? x = none) (n2 : h.get? dx = none) (g1 : h'.get? x = some o1) (g2 : h'.get? dx = some o2) :
    Fr h₀ L h' m ∧ News h₀ L h' ((x, o1) :: (dx, o2) :: news) ∧ AllApart news [(x, o1), (dx, o2)] := by
  have z : ∀ p ∈ [(x, o1), (dx, o2)], h'.get? p.1 = some p.2 ∧ h.get? p.1 = none := by
    intro p hp
    rcases List.mem_cons.mp hp with rfl | hp
    · exact ⟨g1, n1⟩
    · rw [List.mem_singleton.mp hp]; exact ⟨g2, n2⟩
  exact led_news2 F N k z
theorem none_hide2 {h : Heap} {a c u : Addr} (e : ((h.hide c).hide u).get? a = none) (n1 : a ≠ c) (n2 : a ≠ u) : h.get? a = none := by
  rw [Heap.hide_ne _ n2, Heap.hide_ne _ n1] at e; exact e
theorem neK {c a x dx d' cl sl : Nat} {oa ox od o1 o2 o3 o' : Obj} (n : ∀ p ∈ [(a, o'), (x, o'), (dx, o'), (d', o'), (cl, o'), (sl, o')], p.1 ≠ c) : ∀ p ∈ [(a, oa), (x, ox), (dx, od), (d', o1), (cl, o2), (sl, o3)], p.1 ≠ c :=
  List.forall_mem_cons.mpr ⟨n (a, o') (by first | k_mem | skip), List.forall_mem_cons.mpr ⟨n (x, o') (by first | k_mem | skip), List.forall_mem_cons.mpr ⟨n (dx, o') (by first | k_mem | skip), List.forall_mem_cons.mpr ⟨n (d', o') (by first | k_mem | skip), List.forall_mem_cons.mpr ⟨n (cl, o') (by first | k_mem | skip), List.forall_mem_cons.mpr ⟨n (sl, o') (by first | k_mem | skip), List.forall_mem_nil _⟩⟩⟩⟩⟩⟩
theorem union_end {w : World} {s : Shared} {Q : Value → Shared → Prop} {L c u a x dx d' : Addr} {nm : Str} {ys : List Str} {tn : Tok} {kc ku : List (Str × Value)} {m : Str → Option Value} {h' : Heap} {tk : Nat} {co' uo' o' : Obj} {vs : List Value} {sl cl : Addr} {e1 e2 e3 e4 e5 e6 : Int} {k1 k2 k3 k4 k5 k6 : Tok} {n i1 i2 i3 : Nat} {v4 v5 v6 : Value}
    (h : ∀ h' tk co' uo' x l' (tl : List (Addr × Obj)), (∀ b o, b ≠ c → b ≠ u → s.heap.get? b = some o → h'.get? b = some o) → h'.get? c = some co' → co'.IsDictOf (strKind PG w) (stored kc nm (.ref x)) → h'.get? u = some uo' → uo'.IsDictOf (strKind PG w) (stored ku nm (.ref l')) →
      (∀ p ∈ tl, h'.get? p.1 = some p.2 ∧ s.heap.get? p.1 = none) → (∀ h, (∀ p ∈ tl, h.get? p.1 = some p.2) → ClsAt h (.ref x) nm [] ∧ Words h l' ys) → Q .none { s with heap := h', toks := tk })
    (F : Fr ((s.heap.hide c).hide u) L h' m) (N : News ((s.heap.hide c).hide u) L h' [(a, listOf (List.toArray vs) i1), (x, instObj 63 dx), (dx, dictOf [⟨e1, .str "name" k1, .str nm tn⟩, ⟨e2, .str "slots" k2, .ref sl⟩, ⟨e3, .str "contains" k3, .ref cl⟩, ⟨e4, .str "validity" k4, v4⟩, ⟨e5, .str "virtual" k5, v5⟩, ⟨e6, .str "prototype" k6, v6⟩] n), (d', o'), (cl, listOf (List.toArray []) i2), (sl, listOf (List.toArray []) i3), (c, co'), (u, uo')])
    (S : StrsAre vs ys) (hle : ys.length ≤ 1000) (hc : co'.IsDictOf (strKind PG w) (stored kc nm (.ref x))) (hu : uo'.IsDictOf (strKind PG w) (stored ku nm (.ref a)))
    (n1 : AllNe c [(a, o'), (x, o'), (dx, o'), (d', o'), (cl, o'), (sl, o')]) (n2 : AllNe u [(a, o'), (x, o'), (dx, o'), (d', o'), (cl, o'), (sl, o')]) : Q .none { s with heap := h', toks := tk } := by
  have m1 := allNe_mem n1
  have m2 := allNe_mem n2
  refine h h' tk co' uo' x a [(a, listOf (List.toArray vs) i1), (x, instObj 63 dx), (dx, dictOf [⟨e1, .str "name" k1, .str nm tn⟩, ⟨e2, .str "slots" k2, .ref sl⟩, ⟨e3, .str "contains" k3, .ref cl⟩, ⟨e4, .str "validity" k4, v4⟩, ⟨e5, .str "virtual" k5, v5⟩, ⟨e6, .str "prototype" k6, v6⟩] n), (d', o'), (cl, listOf (List.toArray []) i2), (sl, listOf (List.toArray []) i3)]
    (fun b o b1 b2 e => F.keep b o ?_) (N (c, co') (by first | k_mem | skip)).1 hc (N (u, uo') (by first | k_mem | skip)).1 hu (fun p hp => ⟨(N p ((by walk_at "SUB" : ∀ p ∈ _, p ∈ _) p hp)).1, none_hide2 (N p ((by walk_at "SUB" : ∀ p ∈ _, p ∈ _) p hp)).2.2 (neK m1 p hp) (neK m2 p hp)⟩) ?_
  · rw [Heap.hide_ne _ b2, Heap.hide_ne _ b1]; exact e
  · intro h2 H
    refine ⟨⟨x, dx, cl, sl, e1, e2, e3, e4, e5, e6, k1, k2, k3, k4, k5, k6, tn, v4, v5, v6, n, i3, rfl, ⟨H (x, _) (by first | k_mem | skip), rfl, rfl, H (dx, _) (by first | k_mem | skip)⟩, ⟨[], i2, H (cl, _) (by first | k_mem | skip), .nil, Nat.zero_le _⟩, H (sl, _) (by first | k_mem | skip)⟩, ⟨vs, i1, H (a, _) (by first | k_mem | skip), S, hle⟩⟩
theorem union_spec {w : World} {s : Shared} {Q : Value → Shared → Prop} {g : Heap} {mg mb : Str → Option Value} {t c u l d : Addr} {D U : List (Str × List Str)} {nm : Str} {ys : List Str} {tn : Tok} {e1 e2 : Int} {k1 k2 : Tok} {n : Nat} {co uo : Obj} {kc ku : List (Str × Value)}
    (X : (KF w.params).In g) (T : TR mg mb g) (st : Sub g s.heap) (gc : g.get? c = none) (gu : g.get? u = none) (hcu : @Ne Nat c u)
    (I : InstAt ((s.heap.hide c).hide u) t (instObj 168 d) 168 (some (dictOf [⟨e1, .str "classes" k1, .ref c⟩, ⟨e2, .str "unions" k2, .ref u⟩] n)))
    (HT : TabAt w s.heap t c u D U) (hB : ∀ x k, (bst (parentsOf D U) x k).length ≤ 100) (W : Words s.heap l ys)
    (hk : ∀ y ∈ ys, ((at? D y).isSome || basicNames.any (· == y)) = true) (hne : ∀ y ∈ ys, (nm == y) = false) (hd : ∀ y ∈ ys, ∀ k, distOf nm y (supersFrom nm (bst (parentsOf D U) nm k)) = none)
    (hc : s.heap.get? c = some co) (hco : co.IsDictOf (strKind PG w) kc) (hkc : kc.length ≤ 100000) (hu : s.heap.get? u = some uo) (huo : uo.IsDictOf (strKind PG w) ku) (hku : ku.length ≤ 100000)
    (h : ∀ h' tk co' uo' x l' (tl : List (Addr × Obj)), (∀ b o, b ≠ c → b ≠ u → s.heap.get? b = some o → h'.get? b = some o) → h'.get? c = some co' → co'.IsDictOf (strKind PG w) (stored kc nm (.ref x)) → h'.get? u = some uo' → uo'.IsDictOf (strKind PG w) (stored ku nm (.ref l')) →
      (∀ p ∈ tl, h'.get? p.1 = some p.2 ∧ s.heap.get? p.1 = none) → (∀ h, (∀ p ∈ tl, h.get? p.1 = some p.2) → ClsAt h (.ref x) nm [] ∧ Words h l' ys) → Q .none { s with heap := h', toks := tk }) :
    wpAny (model PG w) (AL 7) (call (.ref 116) [.ref t, .str nm tn, .ref l]) Q (fun _ _ => False) s := by
  have X' := Frag.In.keeps X st
  have T' := TopRead.keeps T st
  have XT2 := And.intro (Frag.In.keeps X (sub_hide2 st gc gu)) (TopRead.keeps T (sub_hide2 st gc gu))
  clear X T
  refine TabAt.elim HT ?_
  intro d0 f1 f2 j1 j2 n0 kc0 ku0 I0 _ _ _ _ nc nu lu
  (refine' enterF (by with_reducible assumption) (by with_reducible assumption) (by exact fun _ _ e => e) (by exact Nat.le_refl _) (by exact led0) (by k_is) (by k_is) (by decide) (by rfl) (by exact locs rfl) ?_ (by rfl) (by rfl) (by rfl) (by decide); intro h₁ F N)
  (repeat' (first | ((with_reducible show wpAny _ _ (execs (List.cons (PySem.Stmt.If _ _ _ _) _) _) _ _ _); (try dsimp only); (with_reducible refine execs_cut ?_); intro Q1'c hc'c) | ((with_reducible refine execs_cut ?_); intro Q1'c hc'c) | walk1 | (dsimp only; walk1) | ((with_reducible show Q1'c _ _); first | ((with_reducible refine hc'c.n _ ?_); clear hc'c Q1'c; (try dsimp only)) | ((with_reducible refine hc'c.f _ _ (by first | (with_reducible exact retN) | (intro h; cases h)) ?_); clear hc'c Q1'c; (try dsimp only))) | fail "no step"))
  rename Fr _ _ _ _ => F
  rename News _ _ _ _ => N
  have W2 : Words ((s.heap.hide c).hide u) l ys := by
    refine words_hide ?_ huo (words_hide hc hco W)
    rw [Heap.hide_ne _ (Ne.symm hcu)]; exact hu
  obtain ⟨vs, e9, g9, S9, l9⟩ := id W
  refine loopC ["member"] rfl (.inl ⟨_, g9, rfl, _, rfl⟩) F N ?_ ?_
  · intro i v u1 h1 tk1 I1 oI hi a1 F1 N1
    replace F1 : Fr s.heap s.heap.objs.size h1 _ := F1
    replace N1 : News s.heap s.heap.objs.size h1 _ := N1
    obtain ⟨p, tp, rfl, hp'⟩ := StrsAre.item S9 i v hi
    have hp := List.mem_of_getElem? hp'
    have hk1 := hk p hp
    have hn1 := hne p hp
    have hd1 := hd p hp
    clear F N XT2 I
    (repeat' (first | ((with_reducible show wpAny _ _ (execs (List.cons (PySem.Stmt.If _ _ _ _) _) _) _ _ _); (try dsimp only); (with_reducible refine execs_cut ?_); intro Q1'c hc'c) | ((with_reducible refine execs_cut ?_); intro Q1'c hc'c) | ((with_reducible show wpAny _ _ (call _ _ _) _ _ _); first | ((with_reducible show wpAny _ _ (call (Value.ref 158) _ _) _ _ _); refine' wpAL (distance_none (by with_reducible assumption) (by with_reducible assumption) (by exact Fr.keep (by with_reducible assumption)) (by exact TabAt.up (by with_reducible assumption) (Fr.keep (by with_reducible assumption))) (by exact ofAll (by with_reducible assumption) _) (by with_reducible assumption) ?_) (by rfl) (by exact Nat.le_of_ble_eq_true rfl) (by exact Nat.le_of_ble_eq_true rfl) (by rfl) (by rfl); intro h'q tk'q s'q; (have q'q := led_old (by with_reducible assumption) (by with_reducible assumption) s'q); have F'q := q'q.1; have N'q := q'q.2; clear q'q; k_sweep) | ((with_reducible show wpAny _ _ (call (Value.ref 137) _ _) _ _ _); refine' wpAL (known_yes (by with_reducible assumption) (by with_reducible assumption) (by exact Fr.keep (by with_reducible assumption)) (by exact TabAt.up (by with_reducible assumption) (Fr.keep (by with_reducible assumption))) (by with_reducible assumption) ?_) (by rfl) (by exact Nat.le_of_ble_eq_true rfl) (by exact Nat.le_of_ble_eq_true rfl) (by rfl) (by rfl); intro h'q tk'q k'q; (have q'q := led_old (by with_reducible assumption) (by with_reducible assumption) k'q); have F'q := q'q.1; have N'q := q'q.2; clear q'q; k_sweep)) | walk1 | (dsimp only; walk1) | ((with_reducible show Q1'c _ _); first | ((with_reducible refine hc'c.n _ ?_); clear hc'c Q1'c; (try dsimp only)) | ((with_reducible refine hc'c.f _ _ (by first | (with_reducible exact retN) | (intro h; cases h)) ?_); clear hc'c Q1'c; (try dsimp only))) | fail "no step"))
    rename Fr _ _ _ _ => F
    rename News _ _ _ _ => N
    exact TE.c F N (by walk_at "SUB") (by walk_at "SAME3")
  · intro u1 h1 tk1 F1 N1
    replace F1 : Fr s.heap s.heap.objs.size h1 _ := F1
    obtain ⟨F2, N2⟩ := unfreeze2 F1 hc hu
    clear F N N1 F1 X' T' I0
    obtain ⟨X2, T2⟩ := XT2
    try dsimp only
    (repeat' (first | ((with_reducible show wpAny _ _ (execs (List.cons (PySem.Stmt.If _ _ _ _) _) _) _ _ _); (try dsimp only); (with_reducible refine execs_cut ?_); intro Q1'c hc'c) | ((with_reducible refine execs_cut ?_); intro Q1'c hc'c) | ((with_reducible show wpAny _ _ (call _ _ _) _ _ _); first | ((with_reducible show wpAny _ _ (call (Value.ref 63) _ _) _ _ _); refine' wpAL (make_spec (by with_reducible assumption) (by with_reducible assumption) (by exact Fr.keep (by with_reducible assumption)) ?_) (by rfl) (by exact Nat.le_of_ble_eq_true rfl) (by exact Nat.le_of_ble_eq_true rfl) (by rfl) (by rfl); intro h'q tk'q x'q dx'q e1 e2 e3 e4 e5 e6 k1 k2 k3 k4 k5 k6 n'q s'q n1 n2 ne'q g1 g2; (have q'q := led_pair (by with_reducible assumption) (by with_reducible assumption) s'q n1 n2 g1 g2); have F'q := q'q.1; have N'q := q'q.2.1; have l'q := q'q.2.2; clear q'q; (try simp only [AllApart, AllNe, and_true] at l'q); k_sweep) | (with_reducible ((with_reducible show wpAny _ _ (call (Value.type _) [Value.ref _]) _ _ _); k_dflt (refine' list_words (by with_reducible assumption) (by with_reducible assumption) (by with_reducible assumption) ?_); intro a'q c'q vs'q h'q F'q N'q S'q l'q; (try k_lt l'q); k_sweep))) | (with_reducible ((with_reducible show wpAny _ _ (setItem (Value.ref _) (Value.str _ _) _) _ _ _); k_dflt (refine' set_led (by with_reducible assumption) (by with_reducible assumption) (by k_updF) (by with_reducible assumption) (by with_reducible assumption) ?_); intro h'q o'q F'q N'q hd'q; (try dsimp only at N'q); (try k_sweep))) | walk1 | (dsimp only; walk1) | ((with_reducible show Q1'c _ _); first | ((with_reducible refine hc'c.n _ ?_); clear hc'c Q1'c; (try dsimp only)) | ((with_reducible refine hc'c.f _ _ (by first | (with_reducible exact retN) | (intro h; cases h)) ?_); clear hc'c Q1'c; (try dsimp only))) | fail "no step"))
    try dsimp only
    rename StrsAre _ _ => S
    rename Fr _ _ _ _ => F
    rename News _ _ _ _ => N
    exact union_end h F N S W.le (by with_reducible assumption) (by with_reducible assumption) (by walk_at "NE") (by walk_at "NE")

/-- a dict of lists of names -/
structure Adj (w : World) (h : Heap) (d : Addr) (D : List (Str × List Str)) : Prop where
  ds : ∃ kd, h.DictOf (strKind PG w) d kd ∧ Ent (fun v xs => ∃ l, v = .ref l ∧ Words h l xs) kd D
  nd : (d == sysModules) = false
theorem Adj.up {w : World} {h h' : Heap} {d : Addr} {D : List (Str × List Str)} (T : Adj w h d D) (k : Sub h h') : Adj w h' d D where
  ds := let ⟨kd, d, e⟩ := T.ds; ⟨kd, d.keep k, e.mono fun _ _ ⟨l, q, c⟩ => ⟨l, q, c.up k⟩⟩
  nd := T.nd
noncomputable def nearOf (D U : List (Str × List Str)) : List (Str × List Str) := (D ++ U.map fun (p : Str × List Str) => (p.1, ([] : List Str))).map fun (p : Str × List Str) => (p.1, addU p.1 U p.2)
/-- lists of a ledger, in the order of a dict's entries -/
inductive Lists : List (Str × Value) → List (Addr × Obj) → List (Str × List Str) → Prop
  | nil : Lists [] [] []
  | cons {x : Str} {l : Addr} {vs : List Value} {e : Nat} {xs : List Str} {kvs : List (Str × Value)} {tl : List (Addr × Obj)} {N : List (Str × List Str)} : StrsAre vs xs → Lists kvs tl N → Lists ((x, .ref l) :: kvs) ((l, listOf (List.toArray vs) e) :: tl) ((x, xs) :: N)
theorem Lists.keys {kvs : List (Str × Value)} {tl : List (Addr × Obj)} {N : List (Str × List Str)} (h : Lists kvs tl N) : kvs.map (·.1) = N.map (·.1) := by
  induction h with
  | nil => rfl
  | cons _ _ ih => simp [ih]
theorem Lists.len {kvs : List (Str × Value)} {tl : List (Addr × Obj)} {N : List (Str × List Str)} (h : Lists kvs tl N) : kvs.length = N.length := by
  have := congrArg List.length h.keys
  simpa using this
theorem Lists.snoc {kvs : List (Str × Value)} {tl : List (Addr × Obj)} {N : List (Str × List Str)} (h : Lists kvs tl N) {x : Str} {l : Addr} {vs : List Value} {e : Nat} {xs : List Str} (S : StrsAre vs xs) :
    Lists (kvs ++ [(x, .ref l)]) (tl ++ [(l, listOf (List.toArray vs) e)]) (N ++ [(x, xs)]) := by
  induction h with
  | nil => exact .cons S .nil
  | cons s _ ih => exact .cons s ih
theorem stored_new {kvs : List (Str × Value)} {x : Str} (h : x ∉ kvs.map (·.1)) (v : Value) : stored kvs x v = kvs ++ [(x, v)] := by
  unfold stored
  rw [if_neg]
  intro e
  obtain ⟨p, hp, q⟩ := List.any_eq_true.mp e
  exact h (List.mem_map.mpr ⟨p, hp, by simpa using q⟩)
theorem Lists.put {kvs : List (Str × Value)} {tl : List (Addr × Obj)} {N : List (Str × List Str)} (h : Lists kvs tl N) {x : Str} {l : Addr} {vs : List Value} {e : Nat} {xs : List Str} (hx : x ∉ N.map (·.1)) (S : StrsAre vs xs) :
    Lists (stored kvs x (.ref l)) (tl ++ [(l, listOf (List.toArray vs) e)]) (N ++ [(x, xs)]) := by
  rw [stored_new (by rw [h.keys]; exact hx)]
  exact h.snoc S
theorem Lists.split {kvs : List (Str × Value)} {tl : List (Addr × Obj)} {N : List (Str × List Str)} (h : Lists kvs tl N) : ∀ {i : Nat} {x : Str} {xs : List Str}, N[i]? = some (x, xs) →
    ∃ pre post l vs e, tl = pre ++ (l, listOf (List.toArray vs) e) :: post ∧ StrsAre vs xs ∧ kvs[i]? = some (x, .ref l) ∧ ∀ vs' e' xs', StrsAre vs' xs' → Lists kvs (pre ++ (l, listOf (List.toArray vs') e') :: post) (N.set i (x, xs')) := by
  induction h with
  | nil => intro i x xs e; simp at e
  | @cons y l vs e ys kvs tl N s h ih =>
    intro i x xs hi
    cases i with
    | zero =>
      simp at hi
      obtain ⟨rfl, rfl⟩ := hi
      exact ⟨[], tl, l, vs, e, rfl, s, rfl, fun vs' e' xs' s' => .cons s' h⟩
    | succ i =>
      obtain ⟨pre, post, l', vs', e', q1, q2, q3, q4⟩ := ih (by simpa using hi)
      exact ⟨(l, listOf (List.toArray vs) e) :: pre, post, l', vs', e', by rw [q1]; rfl, q2, by simpa using q3, fun vs2 e2 xs2 s2 => .cons s (q4 vs2 e2 xs2 s2)⟩
theorem Lists.ent {kvs : List (Str × Value)} {tl : List (Addr × Obj)} {N : List (Str × List Str)} (h : Lists kvs tl N) {hq : Heap} (k : ∀ p ∈ tl, hq.get? p.1 = some p.2) (hl : ∀ p ∈ N, p.2.length ≤ 1000) : Ent (fun v xs => ∃ l, v = .ref l ∧ Words hq l xs) kvs N := by
  induction h with
  | nil => exact .nil
  | cons s _ ih => exact .cons ⟨_, rfl, _, _, k _ (.head _), s, hl _ (.head _)⟩ (ih (fun p hp => k p (.tail _ hp)) fun p hp => hl p (.tail _ hp))
/-- the state: the dict and its lists -/
noncomputable def NearJ (w : World) (nd : Addr) (N : List (Str × List Str)) (nx : List (Addr × Obj)) : Prop :=
  ∃ no kvs tl, nx = (nd, no) :: tl ∧ no.IsDictOf (strKind PG w) kvs ∧ Lists kvs tl N ∧ (tl.map (·.1)).Nodup ∧ AllNe nd tl
theorem nodup_lt {tl : List (Addr × Obj)} {a : Addr} {o : Obj} (h : (tl.map (·.1)).Nodup) (l : AllLt a tl) : ((tl ++ [(a, o)]).map (·.1)).Nodup := by
  rw [List.map_append, List.nodup_append]
  refine ⟨h, by simp, fun x hx y hy => ?_⟩
  obtain ⟨p, hp, rfl⟩ := List.mem_map.mp hx
  simp at hy
  subst hy
  exact allNe_mem (allNe_lt l) p hp
theorem TE.near {w : World} {h₀ : Heap} {L : Addr} {xs : List Str} {m₀ m' : Str → Option Value} {nd I a : Addr} {no : Obj} {kvs : List (Str × Value)} {tl own news : List (Addr × Obj)} {N N' : List (Str × List Str)} {vs : List Value} {e : Nat} {x : Str} {ys : List Str} {s : Shared} {Q : Flow → Shared → Prop} {h' : Heap} {tk' : Nat}
    (F : Fr h₀ L h' m') (Nw : News h₀ L h' news) (hn : ∀ p ∈ (nd, no) :: (tl ++ [(a, listOf (List.toArray vs) e)]), p ∈ news) (ho : ∀ p ∈ own, p ∈ news) (h1 : @Ne Nat nd I) (h2 : AllNe I tl) (h3 : @Ne Nat a I)
    (hso : no.IsDictOf (strKind PG w) (stored kvs x (.ref a))) (hL : Lists kvs tl N) (hx : x ∉ N.map (·.1)) (S : StrsAre vs ys) (hd : (tl.map (·.1)).Nodup) (hlt : AllLt a tl) (hne : AllNe nd tl) (hna : @Ne Nat a nd) (hN : N' = N ++ [(x, ys)]) (hm : ∀ y, xs.contains y = false → m' y = m₀ y) :
    TE h₀ L xs m₀ (NearJ w nd N') I own s Q .next { s with heap := h', toks := tk' } := by
  subst hN
  exact TE.next (nx := (nd, no) :: (tl ++ [(a, listOf (List.toArray vs) e)])) F Nw hn ho ⟨h1, allNe_append.mpr ⟨h2, h3, trivial⟩⟩ ⟨no, _, _, rfl, hso, hL.put hx S, nodup_lt hd hlt, allNe_append.mpr ⟨hne, hna, trivial⟩⟩ hm
theorem take_not_mem {D : List (Str × List Str)} (hn : (D.map (·.1)).Nodup) {i : Nat} {x : Str} {ys : List Str} (h : D[i]? = some (x, ys)) : x ∉ (D.take i).map (·.1) := by
  intro hm
  obtain ⟨p, hp, rfl⟩ := List.mem_map.mp hm
  obtain ⟨j, hj, e⟩ := List.mem_take_iff_getElem.mp hp
  have hlt : j < i ∧ j < D.length := by omega
  have e1 : (D.map (·.1))[j]? = some p.1 := by rw [List.getElem?_map, List.getElem?_eq_getElem hlt.2, e]; rfl
  have e2 : (D.map (·.1))[i]? = some p.1 := by rw [List.getElem?_map, h]; rfl
  have := (List.getElem?_inj (by simpa using hlt.2) hn).mp (e1.trans e2.symm)
  omega
theorem loopKL {w : World} {A : Around} {target : Expr} {body : List Stmt} {env : Env} {Q : Flow → Shared → Prop} {s : Shared} {d f : Addr} {kvs : List (Str × Value)}
    {h₀ : Heap} {m₀ : Str → Option Value} {news H : List (Addr × Obj)} {vs₀ : List Value} {e₀ : Nat} {ys₀ : List Str} (xs : List Str) (G : Nat → List Str)
    (hh : A.handled = none) (hds : (d == sysModules) = false) (hl : h₀.DictOf (strKind PG w) d kvs)
    (F : Fr h₀ env.locals s.heap m₀) (N : News h₀ env.locals s.heap news) (hN : ∀ p ∈ (f, listOf (List.toArray vs₀) e₀) :: H, p ∈ news) (S : StrsAre vs₀ ys₀) (hG : ys₀ = G 0)
    (turn : ∀ i k x t (u : Str → Option Value) vs e h tk I oI, kvs[i]? = some (k, x) → StrsAre vs (G i) → @Ne Nat f I → AllNe I H → Fr h₀ env.locals h (fun y => if xs.contains y then u y else m₀ y) → News h₀ env.locals h ((f, listOf (List.toArray vs) e) :: (I, oI) :: H) →
      wpAny (model PG w) A (assign target env (.str k t)) (fun _ s₂ => wpAny (model PG w) A (execs body env) (TE h₀ env.locals xs m₀ (fun nx => ∃ vs e, nx = [(f, listOf (List.toArray vs) e)] ∧ StrsAre vs (G (i + 1))) I ((I, oI) :: H) s Q) (fun _ _ => False) s₂) (fun _ _ => False) { s with heap := h, toks := tk })
    (done : ∀ (u : Str → Option Value) vs e h tk, StrsAre vs (G kvs.length) → Fr h₀ env.locals h (fun y => if xs.contains y then u y else m₀ y) → News h₀ env.locals h ((f, listOf (List.toArray vs) e) :: H) → Q .next { s with heap := h, toks := tk }) :
    AtFor w A target body env Q (.ref d) s := by
  refine loopK xs (fun i nx => ∃ vs e, nx = [(f, listOf (List.toArray vs) e)] ∧ StrsAre vs (G i)) hh hds (.inl hl) F (held := H) (news₀ := [(f, listOf (List.toArray vs₀) e₀)]) (News.of N hN) ⟨vs₀, e₀, rfl, hG ▸ S⟩ ?_ ?_
  · rintro i k x t u news₁ h tk I oI hk ⟨vs, e, rfl, S₁⟩ hne F₁ N₁
    exact turn i k x t u vs e h tk I oI hk S₁ hne.1 hne.2 F₁ N₁
  · rintro u news₁ h tk ⟨vs, e, rfl, S₁⟩ F₁ N₁
    exact done u vs e h tk S₁ F₁ N₁
theorem TE.listH {h₀ : Heap} {L : Addr} {xs : List Str} {m₀ m' : Str → Option Value} {I f : Addr} {own news' : List (Addr × Obj)} {s : Shared} {Q : Flow → Shared → Prop} {h' : Heap} {tk' : Nat} {vs : List Value} {e : Nat} {ys zs : List Str}
    (F : Fr h₀ L h' m') (N : News h₀ L h' news') (hn : (f, listOf (List.toArray vs) e) ∈ news') (ho : ∀ p ∈ own, p ∈ news') (hI : @Ne Nat f I) (S : StrsAre vs ys) (hy : ys = zs) (hm : ∀ y, xs.contains y = false → m' y = m₀ y) :
    TE h₀ L xs m₀ (fun nx => ∃ vs e, nx = [(f, listOf (List.toArray vs) e)] ∧ StrsAre vs zs) I own s Q .next { s with heap := h', toks := tk' } :=
  TE.next (nx := [(f, listOf (List.toArray vs) e)]) F N (fun p hp => by rw [List.mem_singleton.mp hp]; exact hn) ho ⟨hI, trivial⟩ ⟨vs, e, rfl, hy ▸ S⟩ hm
noncomputable def nearAt (U N : List (Str × List Str)) (i : Nat) : List (Str × List Str) := (N.take i).map (fun p => (p.1, addU p.1 U p.2)) ++ N.drop i
theorem nearAt_get {U N : List (Str × List Str)} {i : Nat} : (nearAt U N i)[i]? = N[i]? := by
  unfold nearAt
  by_cases h : i < N.length
  · rw [List.getElem?_append_right (by simp; omega)]
    simp [List.length_take, Nat.min_eq_left (Nat.le_of_lt h)]
  · rw [List.getElem?_eq_none (by simp; omega), List.getElem?_eq_none (by omega)]
theorem nearAt_succ {U N : List (Str × List Str)} {i : Nat} {x : Str} {xs : List Str} (h : N[i]? = some (x, xs)) : (nearAt U N i).set i (x, addU x U xs) = nearAt U N (i + 1) := by
  have hlt : i < N.length := (List.getElem?_eq_some_iff.mp h).1
  have he : N[i] = (x, xs) := (List.getElem?_eq_some_iff.mp h).2
  unfold nearAt
  rw [List.set_append_right _ _ (by simp; omega)]
  have e1 : i - ((N.take i).map (fun p => (p.1, addU p.1 U p.2))).length = 0 := by simp; omega
  rw [e1, List.drop_eq_getElem_cons hlt, List.set_cons_zero, List.take_add_one, List.getElem?_eq_getElem hlt, he]
  simp
theorem nearAt_end {U N : List (Str × List Str)} : nearAt U N N.length = N.map fun p => (p.1, addU p.1 U p.2) := by simp [nearAt]
theorem nearAt_zero {U N : List (Str × List Str)} : nearAt U N 0 = N := by simp [nearAt]
theorem nearAt_len {U N : List (Str × List Str)} {i : Nat} : (nearAt U N i).length = N.length := by
  unfold nearAt; simp; omega
theorem near_spec {w : World} {s : Shared} {Q : Value → Shared → Prop} {g : Heap} {mg mb : Str → Option Value} {d u : Addr} {D U : List (Str × List Str)}
    (X : (KF w.params).In g) (T : TR mg mb g) (st : Sub g s.heap) (HD : Adj w s.heap d D) (HU : Adj w s.heap u U) (hn : ((D ++ U).map (·.1)).Nodup) (hD : D.length ≤ 1000) (hU : U.length ≤ 500) (hDl : ∀ p ∈ D, p.2.length ≤ 500)
    (h : ∀ h' tk a (tl : List (Addr × Obj)), Sub s.heap h' → (∀ p ∈ tl, h'.get? p.1 = some p.2 ∧ s.heap.get? p.1 = none) → (∀ h, (∀ p ∈ tl, h.get? p.1 = some p.2) → Adj w h a (nearOf D U)) → Q (.ref a) { s with heap := h', toks := tk }) :
    wpAny (model PG w) (AL 0) (call (.ref 193) [.ref d, .ref u]) Q (fun _ _ => False) s := by
  have X' := Frag.In.keeps X st
  have T' := TopRead.keeps T st
  clear X T
  obtain ⟨⟨kd, dd, ed⟩, sd⟩ := HD
  obtain ⟨⟨ku, du, eu⟩, su⟩ := HU
  have hnd : (kd.map (·.1)).Nodup := let ⟨_, _, _, _, _, _, _, _, hn⟩ := dd; hn
  have hnu : (ku.map (·.1)).Nodup := let ⟨_, _, _, _, _, _, _, _, hn⟩ := du; hn
  (refine' enterF (by with_reducible assumption) (by with_reducible assumption) (by exact fun _ _ e => e) (by exact Nat.le_refl _) (by exact led0) (by k_is) (by k_is) (by decide) (by rfl) (by exact locs rfl) ?_ (by rfl) (by rfl) (by rfl) (by decide); intro h₁ F N)
  (repeat' (first | ((with_reducible show wpAny _ _ (execs (List.cons (PySem.Stmt.If _ _ _ _) _) _) _ _ _); (try dsimp only); (with_reducible refine execs_cut ?_); intro Q1'c hc'c) | ((with_reducible refine execs_cut ?_); intro Q1'c hc'c) | walk1 | (dsimp only; walk1) | ((with_reducible show Q1'c _ _); first | ((with_reducible refine hc'c.n _ ?_); clear hc'c Q1'c; (try dsimp only)) | ((with_reducible refine hc'c.f _ _ (by first | (with_reducible exact retN) | (intro h; cases h)) ?_); clear hc'c Q1'c; (try dsimp only))) | fail "no step"))
  rename Fr _ _ _ _ => F
  rename News _ _ _ _ => N
  rename Obj.IsDictOf (strKind PG w) _ [] => hd0
  rename (_ == sysModules) = false => hds
  rename Addr => nd
  refine loopK (news₀ := [_]) (held := []) ["name"] (fun i => NearJ w _ (D.take i)) rfl sd (.inl dd) F N ⟨_, _, [], rfl, hd0, by rw [List.take_zero]; exact .nil, List.nodup_nil, trivial⟩ ?_ ?_
  · rintro i k v t' u1 news₁ h1 tk1 I1 oI hk ⟨no, kvs, tl, rfl, hno, hL, hnd1, hne1⟩ hI F1 N1
    obtain ⟨ys, hy, l, rfl, W⟩ := ed.get hk
    have hvk := valueAt_of_get hnd hk
    replace F1 : Fr s.heap s.heap.objs.size h1 _ := F1
    replace N1 : News s.heap s.heap.objs.size h1 _ := N1
    rw [List.append_nil] at hI
    simp only [List.cons_append] at N1
    have hlen := hL.len
    have hszk : kvs.length ≤ 100000 := by rw [hlen, List.length_take]; omega
    have hx := take_not_mem (List.Nodup.sublist ((List.sublist_append_left D U).map _) hn) hy
    obtain ⟨hI1, hI2⟩ := hI
    clear F N hd0
    (repeat' (first | ((with_reducible show wpAny _ _ (execs (List.cons (PySem.Stmt.If _ _ _ _) _) _) _ _ _); (try dsimp only); (with_reducible refine execs_cut ?_); intro Q1'c hc'c) | ((with_reducible refine execs_cut ?_); intro Q1'c hc'c) | (with_reducible ((with_reducible show wpAny _ _ (setItem (Value.ref _) (Value.str _ _) _) _ _ _); k_dflt (refine' set_led (by with_reducible assumption) (by with_reducible assumption) (by k_updF) (by with_reducible assumption) (by with_reducible assumption) ?_); intro h'q o'q F'q N'q hd'q; (try dsimp only at N'q); (try k_sweep))) | (with_reducible ((with_reducible show wpAny _ _ (call (Value.type _) [Value.ref _]) _ _ _); k_dflt (refine' list_words (by with_reducible assumption) (by with_reducible assumption) (by with_reducible assumption) ?_); intro a'q c'q vs'q h'q F'q N'q S'q l'q; (try k_lt l'q); k_sweep)) | (with_reducible ((with_reducible show wpAny _ _ (subscriptTail _ _ (Value.ref _) (Value.str _ _)) _ _ _); refine' item_dict (by with_reducible assumption) (by with_reducible assumption) (by with_reducible assumption) ?_ (by with_unfolding_all rfl))) | walk1 | (dsimp only; walk1) | ((with_reducible show Q1'c _ _); first | ((with_reducible refine hc'c.n _ ?_); clear hc'c Q1'c; (try dsimp only)) | ((with_reducible refine hc'c.f _ _ (by first | (with_reducible exact retN) | (intro h; cases h)) ?_); clear hc'c Q1'c; (try dsimp only))) | fail "no step"))
    rename Fr _ _ _ _ => F
    rename News _ _ _ _ => N
    rename Obj.IsDictOf _ _ (stored _ _ _) => hd4
    rename StrsAre _ _ => S4
    rename _ < _ ∧ AllLt _ _ => hl4
    simp only [allLt_append, AllLt, and_true] at hl4
    refine TE.near F N (by walk_at "SUB") (by walk_at "SUB") hI1 hI2 (Nat.ne_of_gt hl4.2.2) hd4 hL hx S4 hnd1 hl4.2.1 hne1 (Nat.ne_of_gt hl4.1) ?_ (by walk_at "SAME3")
    rw [List.take_add_one, hy]; rfl
  · rintro u1 news₁ h1 tk1 hJ F1 N1
    rw [ed.length, List.take_length] at hJ
    obtain ⟨no, kvs, tl, rfl, hno, hL, hnd1, hne1⟩ := hJ
    rw [List.append_nil] at N1
    replace F1 : Fr s.heap s.heap.objs.size h1 _ := F1
    replace N1 : News s.heap s.heap.objs.size h1 _ := N1
    clear F N hd0
    try dsimp only
    (repeat' (first | ((with_reducible show wpAny _ _ (execs (List.cons (PySem.Stmt.If _ _ _ _) _) _) _ _ _); (try dsimp only); (with_reducible refine execs_cut ?_); intro Q1'c hc'c) | ((with_reducible refine execs_cut ?_); intro Q1'c hc'c) | walk1 | (dsimp only; walk1) | ((with_reducible show Q1'c _ _); first | ((with_reducible refine hc'c.n _ ?_); clear hc'c Q1'c; (try dsimp only)) | ((with_reducible refine hc'c.f _ _ (by first | (with_reducible exact retN) | (intro h; cases h)) ?_); clear hc'c Q1'c; (try dsimp only))) | fail "no step"))
    refine loopK (held := []) ["name"] (fun i => NearJ w _ (D ++ (U.take i).map fun p => (p.1, []))) rfl su (.inl du) F1 (by rw [List.append_nil]; exact N1) ⟨no, kvs, tl, rfl, hno, by rw [List.take_zero, List.map_nil, List.append_nil]; exact hL, hnd1, hne1⟩ ?_ ?_
    · rintro i k v t' u2 news₁ h2 tk2 I2 oI hk ⟨no, kvs, tl, rfl, hno, hL, hnd1, hne1⟩ hI F2 N2
      obtain ⟨ys, hy, l, rfl, W⟩ := eu.get hk
      have hvk := valueAt_of_get hnu hk
      replace F2 : Fr s.heap s.heap.objs.size h2 _ := F2
      replace N2 : News s.heap s.heap.objs.size h2 _ := N2
      rw [List.append_nil] at hI
      simp only [List.cons_append] at N2
      have hlen := hL.len
      have hszk : kvs.length ≤ 100000 := by rw [hlen, List.length_append, List.length_map, List.length_take]; omega
      have hx : k ∉ (D ++ (U.take i).map fun p => (p.1, ([] : List Str))).map (·.1) := by
        rw [List.map_append, List.map_map]
        intro hm
        rcases List.mem_append.mp hm with hm | hm
        · rw [List.map_append, List.nodup_append] at hn
          exact hn.2.2 _ hm k (List.mem_map.mpr ⟨_, List.mem_of_getElem? hy, rfl⟩) rfl
        · exact take_not_mem (List.Nodup.sublist ((List.sublist_append_right D U).map _) hn) hy hm
      obtain ⟨hI1, hI2⟩ := hI
      clear F1 N1
      (repeat' (first | ((with_reducible show wpAny _ _ (execs (List.cons (PySem.Stmt.If _ _ _ _) _) _) _ _ _); (try dsimp only); (with_reducible refine execs_cut ?_); intro Q1'c hc'c) | ((with_reducible refine execs_cut ?_); intro Q1'c hc'c) | (with_reducible ((with_reducible show wpAny _ _ (setItem (Value.ref _) (Value.str _ _) _) _ _ _); k_dflt (refine' set_led (by with_reducible assumption) (by with_reducible assumption) (by k_updF) (by with_reducible assumption) (by with_reducible assumption) ?_); intro h'q o'q F'q N'q hd'q; (try dsimp only at N'q); (try k_sweep))) | walk1 | (dsimp only; walk1) | ((with_reducible show Q1'c _ _); first | ((with_reducible refine hc'c.n _ ?_); clear hc'c Q1'c; (try dsimp only)) | ((with_reducible refine hc'c.f _ _ (by first | (with_reducible exact retN) | (intro h; cases h)) ?_); clear hc'c Q1'c; (try dsimp only))) | fail "no step"))
      rename Fr _ _ _ _ => F
      rename News _ _ _ _ => N
      rename Obj.IsDictOf _ _ (stored _ _ _) => hd4
      rename _ < _ ∧ AllLt _ _ => hl4
      simp only [allLt_append, AllLt, and_true] at hl4
      refine TE.near F N (by walk_at "SUB") (by walk_at "SUB") hI1 hI2 (Nat.ne_of_gt hl4.2.2) hd4 hL hx .nil hnd1 hl4.2.1 hne1 (Nat.ne_of_gt hl4.1) ?_ (by walk_at "SAME3")
      rw [List.take_add_one, hy, List.map_append, List.append_assoc]; rfl
    · rintro u2 news₁ h2 tk2 hJ F2 N2
      rw [eu.length, List.take_length] at hJ
      obtain ⟨no, kvs, tl, rfl, hno, hL, hnd1, hne1⟩ := hJ
      rw [List.append_nil] at N2
      replace F2 : Fr s.heap s.heap.objs.size h2 _ := F2
      replace N2 : News s.heap s.heap.objs.size h2 _ := N2
      clear F1 N1
      generalize hN0 : (D ++ U.map fun p => (p.1, ([] : List Str))) = N0 at hL
      try dsimp only
      (repeat' (first | ((with_reducible show wpAny _ _ (execs (List.cons (PySem.Stmt.If _ _ _ _) _) _) _ _ _); (try dsimp only); (with_reducible refine execs_cut ?_); intro Q1'c hc'c) | ((with_reducible refine execs_cut ?_); intro Q1'c hc'c) | walk1 | (dsimp only; walk1) | ((with_reducible show Q1'c _ _); first | ((with_reducible refine hc'c.n _ ?_); clear hc'c Q1'c; (try dsimp only)) | ((with_reducible refine hc'c.f _ _ (by first | (with_reducible exact retN) | (intro h; cases h)) ?_); clear hc'c Q1'c; (try dsimp only))) | fail "no step"))
      have hN0l : ∀ p ∈ N0, p.2.length ≤ 500 := by
        subst hN0
        intro p hp
        rcases List.mem_append.mp hp with hp | hp
        · exact hDl p hp
        · obtain ⟨q, _, rfl⟩ := List.mem_map.mp hp; exact Nat.zero_le _
      have hkl := hL.len
      have hkn : (kvs.map (·.1)).Nodup := let ⟨_, _, _, _, _, _, hn⟩ := hno; hn
      refine loopK (news₀ := tl) (held := [(_, no)]) ["name", "one"] (fun i nx => Lists kvs nx (nearAt U N0 i) ∧ (nx.map (·.1)).Nodup ∧ AllNe _ nx) rfl hds (.inr ⟨no, .head _, hno⟩) F2 (News.of N2 ?_) ⟨by rw [nearAt_zero]; exact hL, hnd1, hne1⟩ ?_ ?_
      · intro p hp
        rcases List.mem_append.mp hp with hp | hp
        · exact .tail _ hp
        · rw [List.mem_singleton.mp hp]; exact .head _
      · rintro i k v t' u3 tl3 h3 tk3 I3 oI hk ⟨hL3, hnd3, hne3⟩ hI F3 N3
        obtain ⟨⟨x0, xs⟩, hx0⟩ : ∃ p, N0[i]? = some p := ⟨_, List.getElem?_eq_getElem (by have := (List.getElem?_eq_some_iff.mp hk).1; omega)⟩
        obtain ⟨pre, post, l, vs, e, rfl, S3, hkl3, hset⟩ := hL3.split (nearAt_get.trans hx0)
        rw [hk] at hkl3
        simp only [Option.some.injEq, Prod.mk.injEq] at hkl3
        obtain ⟨rfl, rfl⟩ := hkl3
        have hvk := valueAt_of_get hkn hk
        obtain ⟨hI1, hI2⟩ := allNe_append.mp hI
        have hxl : xs.length ≤ 500 := hN0l _ (List.mem_of_getElem? hx0)
        simp only [List.map_append, List.map_cons, List.nodup_append, List.nodup_cons, List.mem_cons, List.mem_map] at hnd3
        have hlH : AllNe l (pre ++ post) := allNe_append.mpr ⟨allNe_of fun p hp => hnd3.2.2 p.1 ⟨p, hp, rfl⟩ l (.inl rfl), allNe_of fun p hp q => hnd3.2.1.1 ⟨p, hp, q⟩⟩
        obtain ⟨hnp, hnl, hnq⟩ := allNe_append.mp hne3
        obtain ⟨hIp, hIl, hIq⟩ := allNe_append.mp hI1
        replace F3 : Fr s.heap s.heap.objs.size h3 _ := F3
        replace N3 : News s.heap s.heap.objs.size h3 _ := N3
        clear F2 N2
        (repeat' (first | ((with_reducible show wpAny _ _ (execs (List.cons (PySem.Stmt.If _ _ _ _) _) _) _ _ _); (try dsimp only); (with_reducible refine execs_cut ?_); intro Q1'c hc'c) | ((with_reducible refine execs_cut ?_); intro Q1'c hc'c) | walk1 | (dsimp only; walk1) | ((with_reducible show Q1'c _ _); first | ((with_reducible refine hc'c.n _ ?_); clear hc'c Q1'c; (try dsimp only)) | ((with_reducible refine hc'c.f _ _ (by first | (with_reducible exact retN) | (intro h; cases h)) ?_); clear hc'c Q1'c; (try dsimp only))) | fail "no step"))
        rename Fr _ _ _ _ => F4
        rename News _ _ _ _ => N4
        obtain ⟨H, hH⟩ : ∃ H, H = (nd, no) :: (I3, oI) :: (pre ++ post) := ⟨_, rfl⟩
        have hHm : (nd, no) ∈ H := by rw [hH]; exact .head _
        have hlH2 : AllNe l H := by rw [hH]; exact ⟨Ne.symm hnl, Ne.symm hIl, hlH⟩
        have hsub : ∀ p ∈ (l, listOf (List.toArray vs) e) :: H, p ∈ (pre ++ (l, listOf (List.toArray vs) e) :: post) ++ [(I3, oI), (nd, no)] := by rw [hH]; walk_at "SUB"
        have hback : ∀ vs' e', ∀ p ∈ (pre ++ (l, listOf (List.toArray vs') e') :: post) ++ [(I3, oI), (nd, no)], p ∈ (l, listOf (List.toArray vs') e') :: H := by rw [hH]; intro vs' e'; walk_at "SUB"
        replace N4 := News.of N4 (l' := (l, listOf (List.toArray vs) e) :: H) (by rw [hH]; walk_at "SUB")
        clear hsub hH
        refine loopKL ["one"] (fun j => addU k (U.take j) xs) rfl su du F4 N4 (fun _ h => h) S3 rfl ?_ ?_
        · intro j k2 v2 t2 u5 vs5 e5 h5 tk5 I5 oI5 hk5 S5 hf5 hI5 F5 N5
          obtain ⟨ms, hU5, l5, rfl, WU⟩ := eu.get hk5
          have hvk5 := valueAt_of_get hnu hk5
          have hsz := strs_size_le S5 (addU_take_le k j (by omega) (by omega))
          have hstep := addU_step (x := k) (ys := xs) hU5
          replace F5 : Fr s.heap s.heap.objs.size h5 _ := F5
          replace N5 : News s.heap s.heap.objs.size h5 _ := N5
          clear F4 N4
          (repeat' (first | ((with_reducible show wpAny _ _ (execs (List.cons (PySem.Stmt.If _ _ _ _) _) _) _ _ _); (try dsimp only); (with_reducible refine execs_cut ?_); intro Q1'c hc'c) | ((with_reducible refine execs_cut ?_); intro Q1'c hc'c) | ((with_reducible show wpAny _ _ (subscriptTail _ _ _ _) _ _ _); first | (with_reducible ((with_reducible show wpAny _ _ (subscriptTail _ _ (Value.ref _) (Value.str _ _)) _ _ _); k_dflt (refine' item_led (by with_reducible assumption) (by k_mem) (by with_reducible assumption) (by with_reducible assumption) ?_ (by with_unfolding_all rfl)))) | (with_reducible ((with_reducible show wpAny _ _ (subscriptTail _ _ (Value.ref _) (Value.str _ _)) _ _ _); refine' item_dict (by with_reducible assumption) (by with_reducible assumption) (by with_reducible assumption) ?_ (by with_unfolding_all rfl)))) | (with_reducible ((with_reducible show wpAny _ _ (compareOp .In (Value.str _ _) (Value.ref _)) _ _ _); refine' in_words_b (by with_reducible assumption) (by with_reducible assumption) ?_)) | (with_reducible ((with_reducible show wpAny _ _ (call (Value.builtin _) [Value.ref _, _]) _ _ _); k_dflt (refine' append_K (by k_asm) (by k_asm) (by k_upd) ?_ (by with_reducible assumption); k_whole); intro h'q F'q N'q; (try simp only [List.push_toArray] at N'q); (try k_sweep))) | walk1 | (dsimp only; walk1) | ((with_reducible show Q1'c _ _); first | ((with_reducible refine hc'c.n _ ?_); clear hc'c Q1'c; (try dsimp only)) | ((with_reducible refine hc'c.f _ _ (by first | (with_reducible exact retN) | (intro h; cases h)) ?_); clear hc'c Q1'c; (try dsimp only))) | fail "no step"))
          all_goals (rename Fr _ _ _ _ => F6; rename News _ _ _ _ => N6)
          · exact TE.listH F6 N6 (.head _) (by walk_at "SUB") hf5 S5 (by rw [hstep]; simp only [*, Bool.not_true, Bool.and_false, Bool.false_eq_true, if_false]) (by walk_at "SAME3")
          · exact TE.listH F6 N6 (.head _) (by walk_at "SUB") hf5 (S5.append' (.cons _ _ .nil)) (by rw [hstep]; simp only [*, Bool.not_false, Bool.and_true, if_true]) (by walk_at "SAME3")
          · exact TE.listH F6 N6 (.head _) (by walk_at "SUB") hf5 S5 (by rw [hstep]; simp only [*, Bool.false_and, Bool.false_eq_true, if_false]) (by walk_at "SAME3")
        · intro u5 vs5 e5 h5 tk5 S5 F5 N5
          rw [eu.length, List.take_length] at S5
          have N6 := News.of N5 (hback vs5 e5)
          replace F5 : Fr s.heap s.heap.objs.size h5 _ := F5
          clear F4 N4 N5
          try dsimp only
          (repeat' (first | ((with_reducible show wpAny _ _ (execs (List.cons (PySem.Stmt.If _ _ _ _) _) _) _ _ _); (try dsimp only); (with_reducible refine execs_cut ?_); intro Q1'c hc'c) | ((with_reducible refine execs_cut ?_); intro Q1'c hc'c) | walk1 | (dsimp only; walk1) | ((with_reducible show Q1'c _ _); first | ((with_reducible refine hc'c.n _ ?_); clear hc'c Q1'c; (try dsimp only)) | ((with_reducible refine hc'c.f _ _ (by first | (with_reducible exact retN) | (intro h; cases h)) ?_); clear hc'c Q1'c; (try dsimp only))) | fail "no step"))
          refine TE.next (nx := pre ++ (l, listOf (List.toArray vs5) e5) :: post) F5 N6 (by walk_at "SUB") (by walk_at "SUB") (allNe_append.mpr ⟨hIp, hIl, hIq⟩) ⟨?_, ?_, allNe_append.mpr ⟨hnp, hnl, hnq⟩⟩ (by walk_at "SAME3")
          · rw [← nearAt_succ hx0]; exact hset vs5 e5 _ S5
          · simp only [List.map_append, List.map_cons, List.nodup_append, List.nodup_cons, List.mem_cons, List.mem_map]; exact hnd3
      · rintro u3 tl3 h3 tk3 ⟨hL3, hnd3, hne3⟩ F3 N3
        rw [hkl, nearAt_end] at hL3
        clear F2 N2
        try dsimp only
        (repeat' (first | ((with_reducible show wpAny _ _ (execs (List.cons (PySem.Stmt.If _ _ _ _) _) _) _ _ _); (try dsimp only); (with_reducible refine execs_cut ?_); intro Q1'c hc'c) | ((with_reducible refine execs_cut ?_); intro Q1'c hc'c) | walk1 | (dsimp only; walk1) | ((with_reducible show Q1'c _ _); first | ((with_reducible refine hc'c.n _ ?_); clear hc'c Q1'c; (try dsimp only)) | ((with_reducible refine hc'c.f _ _ (by first | (with_reducible exact retN) | (intro h; cases h)) ?_); clear hc'c Q1'c; (try dsimp only))) | fail "no step"))
        try dsimp only
        refine h _ _ _ ((nd, no) :: tl3) F3.keep (fun p hp => ?_) ?_
        · have z := N3 p (by rcases List.mem_cons.mp hp with rfl | hp; exact List.mem_append_right _ (.head _); exact List.mem_append_left _ hp)
          exact ⟨z.1, z.2.2⟩
        · intro h9 H
          refine ⟨⟨kvs, Heap.dictOf_iff.mpr ⟨no, H _ (.head _), hno⟩, ?_⟩, hds⟩
          unfold nearOf
          rw [hN0]
          refine hL3.ent (fun p hp => H p (.tail _ hp)) ?_
          intro p hp
          obtain ⟨q, hq, rfl⟩ := List.mem_map.mp hp
          have := addU_le q.1 U q.2
          have := hN0l q hq
          show (addU q.1 U q.2).length ≤ 1000
          omega

inductive Walk (par : Str → List Str) : Str → Str → Nat → Prop
  | nil (x : Str) : Walk par x x 0
  | cons {x y z : Str} {n : Nat} : y ∈ par x → Walk par y z n → Walk par x z (n + 1)
theorem Walk.append {par : Str → List Str} {a b c : Str} {n m : Nat} (h : Walk par a b n) (k : Walk par b c m) : Walk par a c (n + m) := by
  induction h with
  | nil => rw [Nat.zero_add]; exact k
  | cons e _ ih => rw [Nat.add_right_comm]; exact .cons e (ih k)
inductive WalkM (par : Str → List Str) (M : Str → Prop) : Str → Str → Nat → Prop
  | nil (x : Str) : WalkM par M x x 0
  | edge {x y : Str} : y ∈ par x → WalkM par M x y 1
  | join {a b c : Str} {n m : Nat} : M c → WalkM par M a c n → WalkM par M c b m → WalkM par M a b (n + m)
theorem WalkM.mono {par : Str → List Str} {M M' : Str → Prop} {a b : Str} {n : Nat} (h : WalkM par M a b n) (k : ∀ c, M c → M' c) : WalkM par M' a b n := by
  induction h with
  | nil => exact .nil _
  | edge e => exact .edge e
  | join m _ _ ih1 ih2 => exact .join (k _ m) ih1 ih2
theorem WalkM.split {par : Str → List Str} {M : Str → Prop} {mid a b : Str} {n : Nat} (h : WalkM par (fun c => M c ∨ c = mid) a b n) :
    (∃ n', n' ≤ n ∧ WalkM par M a b n') ∨ ∃ p q, WalkM par M a mid p ∧ WalkM par M mid b q ∧ p + q ≤ n := by
  induction h with
  | nil => exact .inl ⟨0, Nat.le_refl _, .nil _⟩
  | edge e => exact .inl ⟨1, Nat.le_refl _, .edge e⟩
  | @join a b c n m hm _ _ ih1 ih2 =>
    by_cases hc : c = mid
    · subst hc
      refine .inr ?_
      have l : ∃ p, WalkM par M a c p ∧ p ≤ n := by
        rcases ih1 with ⟨n', h1, h2⟩ | ⟨p, q, h1, _, h3⟩
        · exact ⟨n', h2, h1⟩
        · exact ⟨p, h1, by omega⟩
      have r : ∃ q, WalkM par M c b q ∧ q ≤ m := by
        rcases ih2 with ⟨n', h1, h2⟩ | ⟨p, q, _, h2, h3⟩
        · exact ⟨n', h2, h1⟩
        · exact ⟨q, h2, by omega⟩
      obtain ⟨p, h1, h2⟩ := l
      obtain ⟨q, h3, h4⟩ := r
      exact ⟨p, q, h1, h3, by omega⟩
    · have hM : M c := hm.resolve_right hc
      rcases ih1 with ⟨n', h1, h2⟩ | ⟨p, q, h1, h2, h3⟩
      · rcases ih2 with ⟨m', k1, k2⟩ | ⟨p, q, k1, k2, k3⟩
        · exact .inl ⟨n' + m', by omega, .join hM h2 k2⟩
        · exact .inr ⟨n' + p, q, .join hM h2 k1, k2, by omega⟩
      · rcases ih2 with ⟨m', k1, k2⟩ | ⟨p', q', k1, k2, k3⟩
        · exact .inr ⟨p, q + m', h1, .join hM h2 k2, by omega⟩
        · exact .inr ⟨p, q', h1, k2, by omega⟩
theorem Walk.toM {par : Str → List Str} {M : Str → Prop} {a b : Str} {n : Nat} (h : Walk par a b n) (hM : M a) (hc : ∀ x, M x → ∀ y ∈ par x, M y) : WalkM par M a b n := by
  induction h with
  | nil => exact .nil _
  | @cons x y z n e _ ih =>
    rw [Nat.add_comm]
    exact .join (hc _ hM _ e) (.edge e) (ih (hc _ hM _ e))
structure FW (par : Str → List Str) (names : List Str) (M : Str → Prop) (mid : Str) (dn : Str → Str → Prop) (g : Str → Str → Int) : Prop where
  sound : ∀ a b, a ∈ names → b ∈ names → g a b = 99 ∨ ∃ n : Nat, g a b = n ∧ n < 99 ∧ Walk par a b n
  comp : ∀ a b n, a ∈ names → b ∈ names → WalkM par M a b n → g a b ≤ n
  step : ∀ a b, dn a b → a ∈ names → b ∈ names → ∀ p q, WalkM par M a mid p → WalkM par M mid b q → g a b ≤ p + q
noncomputable def updW (g : Str → Str → Int) (x y : Str) (v : Int) : Str → Str → Int := fun a b => if a = x ∧ b = y then v else g a b
theorem FW.le {par : Str → List Str} {names : List Str} {M : Str → Prop} {mid : Str} {dn : Str → Str → Prop} {g : Str → Str → Int} (h : FW par names M mid dn g) {a b : Str} (ha : a ∈ names) (hb : b ∈ names) : 0 ≤ g a b ∧ g a b ≤ 99 := by
  rcases h.sound a b ha hb with e | ⟨n, e, hn, _⟩ <;> omega
theorem FW.mono {par : Str → List Str} {names : List Str} {M : Str → Prop} {mid : Str} {dn dn' : Str → Str → Prop} {g : Str → Str → Int} (h : FW par names M mid dn g) (k : ∀ a b, dn' a b → a ∈ names → b ∈ names → dn a b) : FW par names M mid dn' g :=
  ⟨h.sound, h.comp, fun a b d ha hb => h.step a b (k a b d ha hb) ha hb⟩
theorem FW.put {par : Str → List Str} {names : List Str} {M : Str → Prop} {mid x y : Str} {dn : Str → Str → Prop} {g : Str → Str → Int} (h : FW par names M mid dn g) (hm : mid ∈ names) (hx : x ∈ names) (hy : y ∈ names)
    (hlt : g x mid + g mid y < g x y) : FW par names M mid (fun a b => dn a b ∨ (a = x ∧ b = y)) (updW g x y (g x mid + g mid y)) := by
  have le : ∀ a b, updW g x y (g x mid + g mid y) a b ≤ g a b := fun a b => by
    unfold updW
    split
    · rename_i e; rw [e.1, e.2]; omega
    · exact Int.le_refl _
  refine ⟨fun a b ha hb => ?_, fun a b n ha hb hw => Int.le_trans (le a b) (h.comp a b n ha hb hw), fun a b hd ha hb p q hp hq => ?_⟩
  · unfold updW
    split
    · rename_i e
      obtain ⟨rfl, rfl⟩ := e
      have h1 := h.le ha hm
      have h2 := h.le hm hb
      have h3 := h.le ha hb
      rcases h.sound a mid ha hm with e1 | ⟨n1, e1, l1, w1⟩
      · omega
      · rcases h.sound mid b hm hb with e2 | ⟨n2, e2, l2, w2⟩
        · omega
        · exact .inr ⟨n1 + n2, by omega, by omega, w1.append w2⟩
    · exact h.sound a b ha hb
  · rcases hd with hd | ⟨rfl, rfl⟩
    · exact Int.le_trans (le a b) (h.step a b hd ha hb p q hp hq)
    · have h1 := h.comp a mid p ha hm hp
      have h2 := h.comp mid b q hm hb hq
      unfold updW
      rw [if_pos ⟨rfl, rfl⟩]
      omega
theorem FW.skip {par : Str → List Str} {names : List Str} {M : Str → Prop} {mid x y : Str} {dn : Str → Str → Prop} {g : Str → Str → Int} (h : FW par names M mid dn g) (hm : mid ∈ names) (hx : x ∈ names) (hy : y ∈ names)
    (hlt : ¬ g x mid + g mid y < g x y) : FW par names M mid (fun a b => dn a b ∨ (a = x ∧ b = y)) g := by
  refine ⟨h.sound, h.comp, fun a b hd ha hb p q hp hq => ?_⟩
  rcases hd with hd | ⟨rfl, rfl⟩
  · exact h.step a b hd ha hb p q hp hq
  · have h1 := h.comp a mid p ha hm hp
    have h2 := h.comp mid b q hm hb hq
    omega
theorem FW.next {par : Str → List Str} {names : List Str} {M : Str → Prop} {mid : Str} {dn : Str → Str → Prop} {g : Str → Str → Int} (h : FW par names M mid dn g) (hd : ∀ a b, a ∈ names → b ∈ names → dn a b) (mid' : Str) : FW par names (fun c => M c ∨ c = mid) mid' (fun _ _ => False) g := by
  refine ⟨h.sound, fun a b n ha hb hw => ?_, fun _ _ e => e.elim⟩
  rcases hw.split with ⟨n', h1, h2⟩ | ⟨p, q, h1, h2, h3⟩
  · have := h.comp a b n' ha hb h2; omega
  · have := h.step a b (hd a b ha hb) ha hb p q h1 h2; omega
theorem FW.congrM {par : Str → List Str} {names : List Str} {M M' : Str → Prop} {mid mid' : Str} {dn : Str → Str → Prop} {g : Str → Str → Int} (h : FW par names M mid dn g) (e : ∀ c, M' c → M c) (hd : ∀ a b, dn a b → False) : FW par names M' mid' dn g :=
  ⟨h.sound, fun a b n ha hb hw => h.comp a b n ha hb (hw.mono e), fun a b d => (hd a b d).elim⟩
noncomputable def initW (par : Str → List Str) (a b : Str) : Int := if (a == b) = true then 0 else if ((par a).any (· == b)) = true then 1 else 99
theorem FW.init {par : Str → List Str} {names : List Str} {g : Str → Str → Int} (hg : ∀ a b, a ∈ names → b ∈ names → g a b = initW par a b) (mid : Str) : FW par names (fun _ => False) mid (fun _ _ => False) g := by
  refine ⟨fun a b ha hb => ?_, fun a b n ha hb hw => ?_, fun _ _ e => e.elim⟩
  · rw [hg a b ha hb]
    unfold initW
    split
    · rename_i e
      have : a = b := by simpa using e
      subst this
      exact .inr ⟨0, rfl, by omega, .nil a⟩
    · split
      · rename_i e
        obtain ⟨y, hy, e⟩ := List.any_eq_true.mp e
        have : y = b := by simpa using e
        subst this
        exact .inr ⟨1, rfl, by omega, .cons hy (.nil _)⟩
      · exact .inl rfl
  · rw [hg a b ha hb]
    cases hw with
    | nil => unfold initW; simp
    | edge e =>
      unfold initW
      split
      · omega
      · rw [if_pos (List.any_eq_true.mpr ⟨b, e, by simp⟩)]; omega
    | join m => exact m.elim
/-- the lengths of the shortest ways -/
structure WaysOk (par : Str → List Str) (names : List Str) (g : Str → Str → Int) : Prop where
  sound : ∀ a b, a ∈ names → b ∈ names → g a b = 99 ∨ ∃ n : Nat, g a b = n ∧ n < 99 ∧ Walk par a b n
  comp : ∀ a b n, a ∈ names → b ∈ names → Walk par a b n → g a b ≤ n
theorem FW.ok {par : Str → List Str} {names : List Str} {mid : Str} {dn : Str → Str → Prop} {g : Str → Str → Int} (h : FW par names (· ∈ names) mid dn g) (hc : ∀ x ∈ names, ∀ y ∈ par x, y ∈ names) : WaysOk par names g :=
  ⟨h.sound, fun a b n ha hb hw => h.comp a b n ha hb (hw.toM ha hc)⟩

theorem strs_of_get : ∀ {vs : List Value} {ss : List Str}, vs.length = ss.length → (∀ (j : Nat) (v : Value), vs[j]? = some v → ∃ k t, ss[j]? = some k ∧ v = .str k t) → StrsAre vs ss
  | [], [], _, _ => .nil
  | [], _ :: _, h, _ => by simp at h
  | _ :: _, [], h, _ => by simp at h
  | v :: vs, k :: ss, h, hv => by
    obtain ⟨k', t, e1, rfl⟩ := hv 0 v (by simp)
    simp at e1
    subst e1
    exact .cons _ _ (strs_of_get (by simpa using h) fun j u hu => by simpa using hv (j + 1) u (by simpa using hu))
theorem sorted_dict {w : World} {A : Around} {E : Value → Shared → Prop} {s : Shared} {h₀ : Heap} {L d : Addr} {m : Str → Option Value} {news : List (Addr × Obj)} {kvs : List (Str × Value)} {Q : Value → Shared → Prop}
    (hh : A.handled = none) (F : Fr h₀ L s.heap m) (N : News h₀ L s.heap news) (D : s.heap.DictOf (strKind PG w) d kvs) (lo : (d == sysModules) = false) (h64 : kvs.length < 64)
    (h : ∀ B h' tk vs ss e, Fr h₀ L h' m → News h₀ L h' ((B, listOf (List.toArray vs) e) :: news) → (∀ q ∈ news, q.1 < B) → StrsAre vs ss → ss.Perm (kvs.map (·.1)) → Q (.ref B) { s with heap := h', toks := tk }) :
    wpAny (model PG w) A (call (.builtin "sorted") [.ref d]) Q E s := by
  obtain ⟨ep, hat⟩ := D.dictAt
  refine kdu_sorted (kdl_dict (knd := strKind PG w) (kvs := kvs) (ep := ep) lo) hh F N hat (by rw [sizeLine_eq]; omega) fun B h' tk vs F' N' l1 hl hv => ?_
  have S : StrsAre vs (kvs.map (·.1)) := strs_of_get (by simpa using hl) fun j v e => by
    obtain ⟨k, x, e1, e2⟩ := hv j v e
    obtain ⟨t, rfl⟩ := Value.isStrOf_shape e2
    exact ⟨k, t, by rw [List.getElem?_map, e1]; rfl, rfl⟩
  have hoL : h'.get? B = some (seqObj "list" vs.toArray 0) := (N' _ (.head _)).1
  refine wpAny_call_entry (s := { s with heap := h', toks := tk }) slot_list_sort ⟨_, hoL, rfl⟩ entry_list_sort (list_sort_treeK strKind_oneLt hoL S.keysOf (fun v₁ v₂ rest e => keyKind_strs (by rw [← e]; exact S)) (by omega) fun st' hp hs => ⟨_, rfl, ?_⟩) (args_list_sort _)
  obtain ⟨ss', h1, h2, h3⟩ := sorted_out_str S hp hs
  obtain ⟨e, he⟩ := sortedHeap_at (out := (arrOf st').map (·.2)) hoL
  obtain ⟨F2, N2⟩ := afterUpd F' N' (UpdF.head fun p hp => Nat.ne_of_lt (l1 p hp)) (fun b o n q => (sortedHeap_old n (Heap.lt_size q)).trans q) he
  exact h B _ tk ((arrOf st').map (·.2)).toList ss' e F2 N2 l1 h1 h2
theorem valueAt_storedK {K : Type} [DecidableEq K] (kvs : List (K × Value)) (k : K) (v : Value) (y : K) : valueAt (stored kvs k v) y = if y = k then some v else valueAt kvs y := by
  have hmap : ∀ l : List (K × Value), valueAt (l.map fun kv => if kv.1 = k then (kv.1, v) else kv) y = if y = k then (if l.any (fun kv => decide (kv.1 = k)) then some v else none) else valueAt l y := by
    intro l
    induction l with
    | nil => simp [valueAt]
    | cons p l ih =>
      unfold valueAt at ih ⊢
      rw [List.map_cons, List.find?_cons, List.find?_cons]
      by_cases hp : p.1 = k
      · rw [if_pos hp]
        by_cases hy : y = k
        · subst hy; simp [hp]
        · have : ¬ p.1 = y := fun e => hy (e ▸ hp)
          simp only [this, decide_false, if_neg hy]
          rw [ih, if_neg hy]
      · rw [if_neg hp]
        by_cases hy : p.1 = y
        · have hyk : ¬ y = k := fun e => hp (hy.trans e)
          simp [hy, hyk]
        · simp only [hy, decide_false]
          rw [ih]
          by_cases hyk : y = k
          · rw [if_pos hyk, if_pos hyk, List.any_cons, decide_eq_false hp, Bool.false_or]
          · simp [hyk]
  unfold stored
  split
  · rename_i hany
    rw [hmap, hany]
    simp
  · rename_i hany
    have hno : ∀ p ∈ kvs, ¬ p.1 = k := fun p hp e => hany (List.any_eq_true.mpr ⟨p, hp, by simp [e]⟩)
    unfold valueAt
    rw [List.find?_append]
    by_cases hy : y = k
    · subst hy
      have : kvs.find? (fun kv => decide (kv.1 = y)) = none := List.find?_eq_none.mpr fun p hp => by simpa using hno p hp
      rw [this]; simp
    · have : ¬ k = y := fun e => hy e.symm
      simp [hy, this]
abbrev tupK (w : World) : HeapKind PG w (List Str) := tupleKind (strKind PG w)
/-- a dict keyed by pairs of names, its keys in a ledger -/
noncomputable def WTab (w : World) (wo : Obj) (tl : List (Addr × Obj)) (xs : List (List Str × Addr × Value)) : Prop :=
  wo.ExactDict ∧ ∃ es ep, wo.data = .dict es ep ∧ es.toList = xs.map (entryOfKey (tupK w)) ∧ (xs.map (·.1)).Nodup ∧ ∀ x ∈ xs, ∃ ok, (x.2.1, ok) ∈ tl ∧ TupKeyObj (strKind PG w) x.1 ok
theorem WTab.at {w : World} {wo : Obj} {tl : List (Addr × Obj)} {xs : List (List Str × Addr × Value)} {h : Heap} {d : Addr} (W : WTab w wo tl xs) (hd : h.get? d = some wo) (k : ∀ p ∈ tl, h.get? p.1 = some p.2) : h.DictOfH (tupK w) d xs :=
  let ⟨hc, es, ep, hd', he, hn, hk⟩ := W
  ⟨wo, es, ep, hd, hc, hd', he, fun x hx => let ⟨_, hm, t⟩ := hk x hx; t.key (k _ hm), hn⟩
theorem WTab.more {w : World} {wo : Obj} {tl tl' : List (Addr × Obj)} {xs : List (List Str × Addr × Value)} (W : WTab w wo tl xs) (h : ∀ p ∈ tl, p ∈ tl') : WTab w wo tl' xs :=
  let ⟨hc, es, ep, hd', he, hn, hk⟩ := W
  ⟨hc, es, ep, hd', he, hn, fun x hx => let ⟨ok, hm, t⟩ := hk x hx; ⟨ok, h _ hm, t⟩⟩
theorem WTab.empty {w : World} {wo : Obj} (h : wo.IsDictOf (strKind PG w) []) (tl : List (Addr × Obj)) : WTab w wo tl [] := by
  obtain ⟨es, ep, hc, hdat, _, hp, _⟩ := h
  exact ⟨hc, es, ep, hdat, List.length_eq_zero_iff.mp hp.length, List.nodup_nil, fun _ hx => by cases hx⟩
theorem key_tup {w : World} {a b : Str} {t u : Tok} : TupKeyObj (strKind PG w) [a, b] (tupS a t b u) := TupKeyObj.made (.cons (strKind_is _ _ _ _) (.cons (strKind_is _ _ _ _) .nil))
theorem storedH_length_le (xs : List (List Str × Addr × Value)) (k : List Str) (a : Addr) (v : Value) : (storedH xs k a v).length ≤ xs.length + 1 := by
  unfold storedH; split <;> simp
theorem storedH_length_old {xs : List (List Str × Addr × Value)} {k : List Str} {a : Addr} {v u : Value} (h : valueAt (kvsOf xs) k = some u) : (storedH xs k a v).length = xs.length := by
  rw [valueAt_kvsOf] at h
  obtain ⟨p, hp, _⟩ := Option.map_eq_some_iff.mp h
  rw [storedH_old hp]; simp
section
variable {w : World} {A : Around} {E : Value → Shared → Prop} {s : Shared} {h₀ : Heap} {L wd T : Addr} {m : Str → Option Value} {news tl : List (Addr × Obj)} {wo : Obj} {xs : List (List Str × Addr × Value)} {a b : Str} {t1 t2 : Tok} {v : Value}
theorem item_ways {value slice : Expr} {Q : Value → Shared → Prop} (hu : A.units + 1 < cLine) (N : News h₀ L s.heap news) (hm : (wd, wo) ∈ news) (W : WTab w wo tl xs) (htl : ∀ p ∈ tl, p ∈ news) (hT : (T, tupS a t1 b t2) ∈ news) (hv : valueAt (kvsOf xs) [a, b] = some v)
    (h : Q v { s with toks := s.toks + 3 })
    (hs : subscripted slice false (.ref wd) (.ref T) = operate [.ref wd, .ref T] (getItem (.ref wd) (.ref T)) := by with_unfolding_all rfl) (hg : ∀ r, letTemporaryGo value (.ref wd) r = pure () := by intro _; with_unfolding_all rfl) :
    wpAny (model PG w) A (subscriptTail value slice (.ref wd) (.ref T)) Q E s := by
  have hD : s.heap.DictOfH (tupK w) wd xs := W.at (N _ hm).1 fun p hp => (N p (htl p hp)).1
  rw [valueAt_kvsOf] at hv
  obtain ⟨p, hp, rfl⟩ := Option.map_eq_some_iff.mp hv
  exact subscriptTail_builtin hD.typeIs slot_dict_getitem.lookup (wpAny_getItem_heap (knd := tupK w) (tupleKind_room_in1 hu) (key_tup.key (N _ hT).1) hD hp h) hs hg
theorem set_ways {Q : Unit → Shared → Prop} {gf : Obj → List (Addr × Obj)} (hu : A.units + 1 < cLine) (F : Fr h₀ L s.heap m) (N : News h₀ L s.heap news) (U : UpdF wd wo news gf) (W : WTab w wo tl xs) (htl : ∀ p ∈ tl, p ∈ news) (hT : (T, tupS a t1 b t2) ∈ news) (hsz : xs.length ≤ 100000)
    (h : ∀ h' wo', Fr h₀ L h' m → News h₀ L h' (gf wo') → WTab w wo' ((T, tupS a t1 b t2) :: tl) (storedH xs [a, b] T v) → Q () { s with heap := h', toks := s.toks + 3 }) :
    wpAny (model PG w) A (setItem (.ref wd) (.ref T) v) Q E s := by
  obtain ⟨pre, post, e, hg, c1, c2⟩ := U.split
  have hmem := N (wd, wo) (by rw [e]; exact List.mem_append_right _ (.head _))
  have hD : s.heap.DictOfH (tupK w) wd xs := W.at hmem.1 fun p hp => (N p (htl p hp)).1
  refine wpAny_setItem_heap (knd := tupK w) (tupleKind_room_in1 hu) (key_tup.key (N _ hT).1) hD (fun h' hd hs => ?_) (by rw [sizeLine_eq]; omega)
  obtain ⟨o', es', ep', ho', hc', hd', he', _, hn'⟩ := hd
  obtain ⟨F', N'⟩ := afterUpd F N U (fun b x n q => (hs.2 b n).trans q) ho'
  refine h h' o' F' N' ⟨hc', es', ep', hd', he', hn', fun x hx => ?_⟩
  rcases mem_storedH hx with ⟨y, hy, q1, q2⟩ | ⟨q1, q2⟩
  · obtain ⟨_, _, _, _, _, _, hk⟩ := W
    obtain ⟨ok, hmk, t⟩ := hk y hy
    exact ⟨ok, by rw [q2]; exact .tail _ hmk, by rw [q1]; exact t⟩
  · exact ⟨tupS a t1 b t2, by rw [q2]; exact .head _, by rw [q1]; exact key_tup⟩
end
/-- the ways in a ledger -/
structure WRel (w : World) (names : List Str) (xs : List (List Str × Addr × Value)) (g : Str → Str → Int) : Prop where
  keys : ∀ x ∈ xs, ∃ a b, x.1 = [a, b] ∧ a ∈ names ∧ b ∈ names
  vals : ∀ a ∈ names, ∀ b ∈ names, ∃ t, valueAt (kvsOf xs) [a, b] = some (.int (g a b) t)
theorem keys_storedH {names : List Str} {xs : List (List Str × Addr × Value)} {a b : Str} {T : Addr} {v : Value} (h : ∀ x ∈ xs, ∃ a b, x.1 = [a, b] ∧ a ∈ names ∧ b ∈ names) (ha : a ∈ names) (hb : b ∈ names) : ∀ x ∈ storedH xs [a, b] T v, ∃ a b, x.1 = [a, b] ∧ a ∈ names ∧ b ∈ names := by
  intro x hx
  rcases mem_storedH hx with ⟨y, hy, q1, _⟩ | ⟨q1, _⟩
  · rw [q1]; exact h y hy
  · exact ⟨a, b, q1, ha, hb⟩
theorem WRel.put {w : World} {names : List Str} {xs : List (List Str × Addr × Value)} {g : Str → Str → Int} (h : WRel w names xs g) {a b : Str} {T : Addr} {n : Int} {t : Tok} (ha : a ∈ names) (hb : b ∈ names) : WRel w names (storedH xs [a, b] T (.int n t)) (updW g a b n) := by
  refine ⟨keys_storedH h.keys ha hb, fun x hx y hy => ?_⟩
  rw [kvsOf_storedH, valueAt_storedK]
  unfold updW
  by_cases e : x = a ∧ y = b
  · rw [if_pos (by rw [e.1, e.2]), if_pos e]; exact ⟨t, rfl⟩
  · rw [if_neg (by intro q; simp at q; exact e q), if_neg e]; exact h.vals x hx y hy
/-- the ways at a heap -/
structure WaysAt (w : World) (h : Heap) (d : Addr) (names : List Str) (g : Str → Str → Int) : Prop where
  at_ : ∃ xs, h.DictOfH (tupK w) d xs ∧ WRel w names xs g
  nd : (d == sysModules) = false
noncomputable def WJ (w : World) (wd : Addr) (P : List (List Str × Addr × Value) → Prop) (K : List (Addr × Obj)) (nx : List (Addr × Obj)) : Prop :=
  ∃ wo tl xs, nx = (wd, wo) :: tl ∧ WTab w wo tl xs ∧ P xs ∧ AllNe wd tl ∧ AllApart K tl
theorem loopWays {w : World} {A : Around} {target : Expr} {body : List Stmt} {env : Env} {Q : Flow → Shared → Prop} {s : Shared} {h₀ : Heap} {m₀ : Str → Option Value} {wd l : Addr} {vs : List Value} {names : List Str} {e : Nat} {wo₀ : Obj} {xs₀ : List (List Str × Addr × Value)} {tl₀ news : List (Addr × Obj)} (H : List (Addr × Obj)) (ns : List Str) (P : Nat → List (List Str × Addr × Value) → Prop)
    (hh : A.handled = none) (hl : (l, listOf (List.toArray vs) e) ∈ H) (S : StrsAre vs names)
    (F : Fr h₀ env.locals s.heap m₀) (N : News h₀ env.locals s.heap news) (hN : ∀ p ∈ (wd, wo₀) :: (tl₀ ++ H), p ∈ news) (W : WTab w wo₀ tl₀ xs₀) (hP : P 0 xs₀) (n1 : AllNe wd tl₀) (n2 : AllApart H tl₀)
    (turn : ∀ i x t (u : Str → Option Value) wo tl xs h tk I oI, names[i]? = some x → WTab w wo tl xs → P i xs → AllNe wd tl → AllApart H tl → @Ne Nat wd I → AllNe I tl → AllNe I H →
      Fr h₀ env.locals h (fun y => if ns.contains y then u y else m₀ y) → News h₀ env.locals h ((wd, wo) :: (tl ++ (I, oI) :: H)) →
      wpAny (model PG w) A (assign target env (.str x t)) (fun _ s₂ => wpAny (model PG w) A (execs body env) (TE h₀ env.locals ns m₀ (WJ w wd (P (i + 1)) H) I ((I, oI) :: H) s Q) (fun _ _ => False) s₂) (fun _ _ => False) { s with heap := h, toks := tk })
    (done : ∀ (u : Str → Option Value) wo tl xs h tk, WTab w wo tl xs → P names.length xs → AllNe wd tl → AllApart H tl → Fr h₀ env.locals h (fun y => if ns.contains y then u y else m₀ y) → News h₀ env.locals h ((wd, wo) :: (tl ++ H)) → Q .next { s with heap := h, toks := tk }) :
    AtFor w A target body env Q (.ref l) s := by
  have hlen := S.length
  refine loopL (items := List.toArray vs) (held := H) (news₀ := (wd, wo₀) :: tl₀) ns (fun i => WJ w wd (P i) H) hh (.inr ⟨e, hl⟩) F (News.of N hN) ⟨wo₀, tl₀, xs₀, rfl, W, hP, n1, n2⟩ ?_ ?_
  · rintro i v u news₁ h tk I oI hv ⟨wo, tl, xs, rfl, W, hP, n1, n2⟩ hI F1 N1
    obtain ⟨x, t, rfl, hx⟩ := StrsAre.item S i v (by simpa using hv)
    exact turn i x t u wo tl xs h tk I oI hx W hP n1 n2 hI.1 (allNe_append.mp hI.2).1 (allNe_append.mp hI.2).2 F1 N1
  · rintro u news₁ h tk ⟨wo, tl, xs, rfl, W, hP, n1, n2⟩ F1 N1
    rw [List.size_toArray, hlen] at hP
    exact done u wo tl xs h tk W hP n1 n2 F1 N1
theorem TE.ways {w : World} {h₀ : Heap} {L : Addr} {ns : List Str} {m₀ m' : Str → Option Value} {K : List (Addr × Obj)} {P : List (List Str × Addr × Value) → Prop} {wd I : Addr} {wo : Obj} {xs : List (List Str × Addr × Value)} {tl own news : List (Addr × Obj)} {s : Shared} {Q : Flow → Shared → Prop} {h' : Heap} {tk' : Nat}
    (F : Fr h₀ L h' m') (N : News h₀ L h' news) (hn : ∀ p ∈ (wd, wo) :: tl, p ∈ news) (ho : ∀ p ∈ own, p ∈ news) (h1 : @Ne Nat wd I) (h2 : AllNe I tl) (W : WTab w wo tl xs) (hP : P xs) (n1 : AllNe wd tl) (n2 : AllApart K tl) (hm : ∀ y, ns.contains y = false → m' y = m₀ y) :
    TE h₀ L ns m₀ (WJ w wd P K) I own s Q .next { s with heap := h', toks := tk' } := TE.next (nx := (wd, wo) :: tl) F N hn ho ⟨h1, h2⟩ ⟨wo, tl, xs, rfl, W, hP, n1, n2⟩ hm
noncomputable def parOf (N : List (Str × List Str)) (x : Str) : List Str := (at? N x).getD []
structure InitP (names : List Str) (par : Str → List Str) (i k : Nat) (cur : List Str) (x : Str) (xs : List (List Str × Addr × Value)) : Prop where
  keys : ∀ x ∈ xs, ∃ a b, x.1 = [a, b] ∧ a ∈ names ∧ b ∈ names
  len : xs.length ≤ i * 64 + k
  old : ∀ a ∈ names.take i, ∀ b ∈ names, ∃ t, valueAt (kvsOf xs) [a, b] = some (.int (initW par a b) t)
  new : ∀ b ∈ cur, ∃ t, valueAt (kvsOf xs) [x, b] = some (.int (initW par x b) t)
theorem InitP.put {names : List Str} {par : Str → List Str} {i k : Nat} {cur cur' : List Str} {x y : Str} {xs : List (List Str × Addr × Value)} (h : InitP names par i k cur x xs) (hx : x ∈ names) (hy : y ∈ names) {T : Addr} {n : Int} {t : Tok} (hn : initW par x y = n) (hc : cur' = cur ++ [y]) : InitP names par i (k + 1) cur' x (storedH xs [x, y] T (.int n t)) := by
  have upd : ∀ a b, (∃ t, valueAt (kvsOf xs) [a, b] = some (.int (initW par a b) t)) ∨ (a = x ∧ b = y) → ∃ t', valueAt (kvsOf (storedH xs [x, y] T (.int n t))) [a, b] = some (.int (initW par a b) t') := by
    intro a b hab
    rw [kvsOf_storedH, valueAt_storedK]
    by_cases e : a = x ∧ b = y
    · rw [if_pos (by rw [e.1, e.2])]; exact ⟨t, by rw [e.1, e.2, hn]⟩
    · rw [if_neg (by intro q; simp at q; exact e q)]; exact hab.resolve_right e
  refine ⟨keys_storedH h.keys hx hy, ?_, fun a ha b hb => upd a b (.inl (h.old a ha b hb)), fun b hb => ?_⟩
  · have := storedH_length_le xs [x, y] T (.int n t)
    have := h.len
    omega
  · subst hc
    rcases List.mem_append.mp hb with hb | hb
    · exact upd x b (.inl (h.new b hb))
    · rw [List.mem_singleton.mp hb]; exact upd x y (.inr ⟨rfl, rfl⟩)
theorem InitP.next {names : List Str} {par : Str → List Str} {i k : Nat} {x : Str} {xs : List (List Str × Addr × Value)} (h : InitP names par i k names x xs) (hk : k ≤ 64) (hx : names[i]? = some x) : InitP names par (i + 1) 0 [] "" xs := by
  refine ⟨h.keys, by have := h.len; omega, fun a ha b hb => ?_, fun _ hb => nomatch hb⟩
  rw [List.take_add_one, hx] at ha
  rcases List.mem_append.mp ha with ha | ha
  · exact h.old a ha b hb
  · rw [show a = x by simpa using ha]; exact h.new b hb
theorem take_snoc {names : List Str} {i : Nat} {x : Str} (h : names[i]? = some x) : names.take (i + 1) = names.take i ++ [x] := by rw [List.take_add_one, h]; rfl
theorem ways_spec {w : World} {s : Shared} {Q : Value → Shared → Prop} {g : Heap} {mg mb : Str → Option Value} {d : Addr} {NN : List (Str × List Str)}
    (X : (KF w.params).In g) (T : TR mg mb g) (st : Sub g s.heap) (HD : Adj w s.heap d NN) (h64 : NN.length < 64) (hcl : ∀ p ∈ NN, ∀ y ∈ p.2, y ∈ NN.map (·.1))
    (h : ∀ h' tk a f (tl : List (Addr × Obj)), Sub s.heap h' → (∀ p ∈ tl, h'.get? p.1 = some p.2 ∧ s.heap.get? p.1 = none) → (∀ h, (∀ p ∈ tl, h.get? p.1 = some p.2) → WaysAt w h a (NN.map (·.1)) f) → (∃ wo xs, (a, wo) ∈ tl ∧ WTab w wo tl xs ∧ WRel w (NN.map (·.1)) xs f) → WaysOk (parOf NN) (NN.map (·.1)) f → Q (.ref a) { s with heap := h', toks := tk }) :
    wpAny (model PG w) (AL 0) (call (.ref 200) [.ref d]) Q (fun _ _ => False) s := by
  have X' := Frag.In.keeps X st
  have T' := TopRead.keeps T st
  clear X T
  obtain ⟨⟨kd, dd, ed⟩, sd⟩ := HD
  have hnd : (kd.map (·.1)).Nodup := let ⟨_, _, _, _, _, _, _, _, hn⟩ := dd; hn
  have hk64 : kd.length < 64 := by rw [ed.length]; exact h64
  (refine' enterF (by with_reducible assumption) (by with_reducible assumption) (by exact fun _ _ e => e) (by exact Nat.le_refl _) (by exact led0) (by k_is) (by k_is) (by decide) (by rfl) (by exact locs rfl) ?_ (by rfl) (by rfl) (by rfl) (by decide); intro h₁ F N)
  (repeat' (first | ((with_reducible show wpAny _ _ (execs (List.cons (PySem.Stmt.If _ _ _ _) _) _) _ _ _); (try dsimp only); (with_reducible refine execs_cut ?_); intro Q1'c hc'c) | ((with_reducible refine execs_cut ?_); intro Q1'c hc'c) | (with_reducible ((with_reducible show wpAny _ _ (call (Value.builtin "sorted") [Value.ref _]) _ _ _); k_dflt (refine' sorted_dict (by rfl) (by with_reducible assumption) (by with_reducible assumption) (by exact Heap.DictOf.keep (by with_reducible assumption) (Fr.keep (by with_reducible assumption))) (by with_reducible assumption) (by with_reducible assumption) ?_); intro D'q h'q tk'q vs'q ss'q e'q F'q N'q l1 S'q p'q; (try k_lt l1); k_sweep)) | walk1 | (dsimp only; walk1) | ((with_reducible show Q1'c _ _); first | ((with_reducible refine hc'c.n _ ?_); clear hc'c Q1'c; (try dsimp only)) | ((with_reducible refine hc'c.f _ _ (by first | (with_reducible exact retN) | (intro h; cases h)) ?_); clear hc'c Q1'c; (try dsimp only))) | fail "no step"))
  rename Fr _ _ _ _ => F
  rename News _ _ _ _ => N
  rename Obj.IsDictOf (strKind PG w) _ [] => hd0
  rename List Str => names
  rename StrsAre _ _ => S
  rename List.Perm _ _ => hperm
  rw [ed.keys] at hperm
  have hnl : names.length < 64 := by rw [hperm.length_eq, List.length_map]; exact h64
  have hSl := S.length
  have hmem : ∀ x, x ∈ names ↔ x ∈ NN.map (·.1) := fun x => hperm.mem_iff
  have hget : ∀ x ∈ names, ∃ v ys, valueAt kd x = some v ∧ at? NN x = some ys ∧ ∃ l, v = .ref l ∧ Words s.heap l ys := fun x hx => by
    rcases ed.at x with ⟨v, ys, a, b, c⟩ | ⟨a, b⟩
    · exact ⟨v, ys, a, b, c⟩
    · have := (hmem x).mp hx
      rw [← ed.keys] at this
      obtain ⟨p, hp, rfl⟩ := List.mem_map.mp this
      obtain ⟨i, hi⟩ := List.mem_iff_getElem?.mp hp
      rw [valueAt_of_get hnd hi] at a; cases a
  rename _ < _ => hlt
  rename (_ == sysModules) = false => hws
  rename Addr => wd
  refine loopWays [_] ["one", "other"] (fun i => InitP names (parOf NN) i 0 [] "") rfl (.head _) S F N (tl₀ := []) (fun _ h => h) (WTab.empty hd0 _) ⟨fun _ hx => (nomatch hx), Nat.zero_le _, fun a ha => by simp at ha, fun _ hb => nomatch hb⟩ trivial ⟨trivial, trivial⟩ ?_ ?_
  · intro i x t u1 wo tl xs h1 tk1 I1 oI hx W hP a1 a2 a3 a4 a5 F1 N1
    replace F1 : Fr s.heap s.heap.objs.size h1 _ := F1
    replace N1 : News s.heap s.heap.objs.size h1 _ := N1
    have hxn := List.mem_of_getElem? hx
    obtain ⟨v, ys, hv, hys, l, rfl, Wd⟩ := hget x hxn
    clear F N
    (repeat' (first | ((with_reducible show wpAny _ _ (execs (List.cons (PySem.Stmt.If _ _ _ _) _) _) _ _ _); (try dsimp only); (with_reducible refine execs_cut ?_); intro Q1'c hc'c) | ((with_reducible refine execs_cut ?_); intro Q1'c hc'c) | walk1 | (dsimp only; walk1) | ((with_reducible show Q1'c _ _); first | ((with_reducible refine hc'c.n _ ?_); clear hc'c Q1'c; (try dsimp only)) | ((with_reducible refine hc'c.f _ _ (by first | (with_reducible exact retN) | (intro h; cases h)) ?_); clear hc'c Q1'c; (try dsimp only))) | fail "no step"))
    rename Fr _ _ _ _ => F2
    rename News _ _ _ _ => N2
    refine loopWays [(I1, oI), _] ["other"] (fun j xs => InitP names (parOf NN) i j (names.take j) x xs) rfl (.tail _ (.head _)) S F2 N2 (fun _ h => h) W ⟨hP.keys, hP.len, hP.old, fun b hb => by simp at hb⟩ a1 ⟨a4, a2⟩ ?_ ?_
    · intro j y t2 u2 wo2 tl2 xs2 h2 tk2 I2 oI2 hy W2 hP2 b1 b2 b3 b4 b5 F3 N3
      replace F3 : Fr s.heap s.heap.objs.size h2 _ := F3
      replace N3 : News s.heap s.heap.objs.size h2 _ := N3
      have hyn := List.mem_of_getElem? hy
      have hxl : xs2.length ≤ 100000 := by
        have h1 := hP2.len
        have h2 := (List.getElem?_eq_some_iff.mp hx).1
        have h3 := (List.getElem?_eq_some_iff.mp hy).1
        omega
      clear F2 N2
      (repeat' (first | ((with_reducible show wpAny _ _ (execs (List.cons (PySem.Stmt.If _ _ _ _) _) _) _ _ _); (try dsimp only); (with_reducible refine execs_cut ?_); intro Q1'c hc'c) | ((with_reducible refine execs_cut ?_); intro Q1'c hc'c) | (with_reducible ((with_reducible show wpAny _ _ (setItem (Value.ref _) (Value.ref _) _) _ _ _); k_dflt (refine' set_ways (by exact Nat.le_of_ble_eq_true rfl) (by with_reducible assumption) (by with_reducible assumption) (by k_updF) (by with_reducible assumption) (by walk_at "SUB") (by k_mem) (by with_reducible assumption) ?_); intro h'q o'q F'q N'q hW'q; (try dsimp only at N'q); (try k_sweep))) | (with_reducible ((with_reducible show wpAny _ _ (newTuple _) _ _ _); k_dflt (refine' kup_newTuple (by with_reducible assumption) (by with_reducible assumption) ?_ (by kmk_size)); intro D'q h'q F'q N'q l1; (try k_lt l1); (try k_sweep))) | (with_reducible ((with_reducible show wpAny _ _ (compareOp .In (Value.str _ _) (Value.ref _)) _ _ _); refine' in_words_b (by with_reducible assumption) (by with_reducible assumption) ?_)) | (with_reducible ((with_reducible show wpAny _ _ (subscriptTail _ _ (Value.ref _) (Value.str _ _)) _ _ _); refine' item_dict (by with_reducible assumption) (by with_reducible assumption) (by with_reducible assumption) ?_ (by with_unfolding_all rfl))) | walk1 | (dsimp only; walk1) | ((with_reducible show Q1'c _ _); first | ((with_reducible refine hc'c.n _ ?_); clear hc'c Q1'c; (try dsimp only)) | ((with_reducible refine hc'c.f _ _ (by first | (with_reducible exact retN) | (intro h; cases h)) ?_); clear hc'c Q1'c; (try dsimp only))) | fail "no step"))
      all_goals (rename Fr _ _ _ _ => F4; rename News _ _ _ _ => N4; rename WTab _ _ _ (storedH _ _ _ _) => W4; rename _ < _ ∧ AllLt _ _ => hl4; simp only [allLt_append, AllLt] at hl4; obtain ⟨c1, c2, c3, c4⟩ := hl4)
      all_goals refine TE.ways (tl := (_, tupS _ _ _ _) :: _) F4 N4 (by walk_at "SUB") (by walk_at "SUB") b3 ⟨Nat.ne_of_gt c3, b4⟩ W4 (hP2.put hxn hyn ?_ (take_snoc hy)) ⟨Nat.ne_of_gt c1, b1⟩ (apart_lt c4 b2) (by walk_at "SAME3")
      all_goals simp only [initW, parOf, hys, Option.getD_some, *, if_true, Bool.false_eq_true, if_false, reduceIte]
    · intro u2 wo2 tl2 xs2 h2 tk2 W2 hP2 b1 b2 F3 N3
      have hP3 : InitP names (parOf NN) i names.length names x xs2 := by rw [List.take_length] at hP2; exact hP2
      try dsimp only
      (repeat' (first | ((with_reducible show wpAny _ _ (execs (List.cons (PySem.Stmt.If _ _ _ _) _) _) _ _ _); (try dsimp only); (with_reducible refine execs_cut ?_); intro Q1'c hc'c) | ((with_reducible refine execs_cut ?_); intro Q1'c hc'c) | walk1 | (dsimp only; walk1) | ((with_reducible show Q1'c _ _); first | ((with_reducible refine hc'c.n _ ?_); clear hc'c Q1'c; (try dsimp only)) | ((with_reducible refine hc'c.f _ _ (by first | (with_reducible exact retN) | (intro h; cases h)) ?_); clear hc'c Q1'c; (try dsimp only))) | fail "no step"))
      exact TE.ways F3 N3 (by walk_at "SUB") (by walk_at "SUB") a3 b2.1 W2 (hP3.next (by omega) hx) b1 b2.2 (by walk_at "SAME3")
  · intro u1 wo tl xs h1 tk1 W hP a1 a2 F1 N1
    replace F1 : Fr s.heap s.heap.objs.size h1 _ := F1
    replace N1 : News s.heap s.heap.objs.size h1 _ := N1
    have R0 : WRel w names xs (initW (parOf NN)) := ⟨hP.keys, fun a ha b hb => hP.old a (by rw [List.take_length]; exact ha) b hb⟩
    have FW0 : FW (parOf NN) names (fun c => c ∈ names.take 0) "" (fun _ _ => False) (initW (parOf NN)) := (FW.init (fun _ _ _ _ => rfl) "").congrM (fun c hc => by simp at hc) fun _ _ e => e
    have hxl : xs.length ≤ 100000 := by have := hP.len; omega
    clear F N hP
    try dsimp only
    (repeat' (first | ((with_reducible show wpAny _ _ (execs (List.cons (PySem.Stmt.If _ _ _ _) _) _) _ _ _); (try dsimp only); (with_reducible refine execs_cut ?_); intro Q1'c hc'c) | ((with_reducible refine execs_cut ?_); intro Q1'c hc'c) | walk1 | (dsimp only; walk1) | ((with_reducible show Q1'c _ _); first | ((with_reducible refine hc'c.n _ ?_); clear hc'c Q1'c; (try dsimp only)) | ((with_reducible refine hc'c.f _ _ (by first | (with_reducible exact retN) | (intro h; cases h)) ?_); clear hc'c Q1'c; (try dsimp only))) | fail "no step"))
    refine loopWays [_] ["middle", "one", "other", "through"] (fun i xs => ∃ g, WRel w names xs g ∧ xs.length ≤ 100000 ∧ ∀ mid, FW (parOf NN) names (fun c => c ∈ names.take i) mid (fun _ _ => False) g) rfl (.head _) S F1 N1 (fun _ h => h) W ⟨_, R0, hxl, fun mid => FW0.congrM (fun _ h => h) fun _ _ e => e⟩ a1 a2 ?_ ?_
    · rintro i mid t u2 wo2 tl2 xs2 h2 tk2 I2 oI2 hmid W2 ⟨g2, R2, hx2, FW2⟩ b1 b2 b3 b4 b5 F2 N2
      replace F2 : Fr s.heap s.heap.objs.size h2 _ := F2
      replace N2 : News s.heap s.heap.objs.size h2 _ := N2
      have hmn := List.mem_of_getElem? hmid
      replace FW2 := FW2 mid
      clear F1 N1 R0 FW0 W a1 a2
      (repeat' (first | ((with_reducible show wpAny _ _ (execs (List.cons (PySem.Stmt.If _ _ _ _) _) _) _ _ _); (try dsimp only); (with_reducible refine execs_cut ?_); intro Q1'c hc'c) | ((with_reducible refine execs_cut ?_); intro Q1'c hc'c) | walk1 | (dsimp only; walk1) | ((with_reducible show Q1'c _ _); first | ((with_reducible refine hc'c.n _ ?_); clear hc'c Q1'c; (try dsimp only)) | ((with_reducible refine hc'c.f _ _ (by first | (with_reducible exact retN) | (intro h; cases h)) ?_); clear hc'c Q1'c; (try dsimp only))) | fail "no step"))
      rename Fr _ _ _ _ => F3
      rename News _ _ _ _ => N3
      refine loopWays [(I2, oI2), _] ["one", "other", "through"] (fun j xs => ∃ g, WRel w names xs g ∧ xs.length ≤ 100000 ∧ FW (parOf NN) names (fun c => c ∈ names.take i) mid (fun a _ => a ∈ names.take j) g) rfl (.tail _ (.head _)) S F3 N3 (fun _ h => h) W2 ⟨g2, R2, hx2, FW2.mono fun a b e => by simp at e⟩ b1 ⟨b4, b2⟩ ?_ ?_
      · rintro j x t3 u3 wo3 tl3 xs3 h3 tk3 I3 oI3 hx W3 ⟨g3, R3, hx3, FW3⟩ c1 c2 c3 c4 c5 F4 N4
        replace F4 : Fr s.heap s.heap.objs.size h3 _ := F4
        replace N4 : News s.heap s.heap.objs.size h3 _ := N4
        have hxn := List.mem_of_getElem? hx
        clear F3 N3 R2 FW2 W2 b1 b2 hx2
        (repeat' (first | ((with_reducible show wpAny _ _ (execs (List.cons (PySem.Stmt.If _ _ _ _) _) _) _ _ _); (try dsimp only); (with_reducible refine execs_cut ?_); intro Q1'c hc'c) | ((with_reducible refine execs_cut ?_); intro Q1'c hc'c) | walk1 | (dsimp only; walk1) | ((with_reducible show Q1'c _ _); first | ((with_reducible refine hc'c.n _ ?_); clear hc'c Q1'c; (try dsimp only)) | ((with_reducible refine hc'c.f _ _ (by first | (with_reducible exact retN) | (intro h; cases h)) ?_); clear hc'c Q1'c; (try dsimp only))) | fail "no step"))
        rename Fr _ _ _ _ => F5
        rename News _ _ _ _ => N5
        refine loopWays [(I3, oI3), (I2, oI2), _] ["other", "through"] (fun k xs => ∃ g, WRel w names xs g ∧ xs.length ≤ 100000 ∧ FW (parOf NN) names (fun c => c ∈ names.take i) mid (fun a b => a ∈ names.take j ∨ (a = x ∧ b ∈ names.take k)) g) rfl (.tail _ (.tail _ (.head _))) S F5 N5 (fun _ h => h) W3 ⟨g3, R3, hx3, FW3.mono fun a b e _ _ => e.elim id fun q => by simp at q⟩ c1 ⟨c4, c2⟩ ?_ ?_
        · rintro k y t4 u4 wo4 tl4 xs4 h4 tk4 I4 oI4 hy W4 ⟨g4, R4, hx4, FW4⟩ d1 d2 d3 d4 d5 F6 N6
          replace F6 : Fr s.heap s.heap.objs.size h4 _ := F6
          replace N6 : News s.heap s.heap.objs.size h4 _ := N6
          have hyn := List.mem_of_getElem? hy
          obtain ⟨q1, hv1⟩ := R4.vals x hxn mid hmn
          obtain ⟨q2, hv2⟩ := R4.vals mid hmn y hyn
          obtain ⟨q3, hv3⟩ := R4.vals x hxn y hyn
          have z1 := FW4.le hxn hmn
          have z2 := FW4.le hmn hyn
          have z3 := FW4.le hxn hyn
          clear F5 N5 R3 FW3 W3 c1 c2 hx3
          have hmo : ∀ a b, (a ∈ names.take j ∨ (a = x ∧ b ∈ names.take (k + 1))) → a ∈ names → b ∈ names → ((a ∈ names.take j ∨ (a = x ∧ b ∈ names.take k)) ∨ (a = x ∧ b = y)) := by
            rintro a b (e | ⟨e, q⟩) _ _
            · exact .inl (.inl e)
            · rw [take_snoc hy] at q
              rcases List.mem_append.mp q with q | q
              · exact .inl (.inr ⟨e, q⟩)
              · exact .inr ⟨e, by simpa using q⟩
          (repeat' (first | ((with_reducible show wpAny _ _ (execs (List.cons (PySem.Stmt.If _ _ _ _) _) _) _ _ _); (try dsimp only); (with_reducible refine execs_cut ?_); intro Q1'c hc'c) | ((with_reducible refine execs_cut ?_); intro Q1'c hc'c) | (with_reducible ((with_reducible show wpAny _ _ (subscriptTail _ _ (Value.ref _) (Value.ref _)) _ _ _); k_dflt (refine' item_ways (by exact Nat.le_of_ble_eq_true rfl) (by with_reducible assumption) (by k_mem) (by with_reducible assumption) (by walk_at "SUB") (by k_mem) (by with_reducible assumption) ?_ (by with_unfolding_all rfl) (by intro _; with_unfolding_all rfl)))) | (with_reducible ((with_reducible show wpAny _ _ (setItem (Value.ref _) (Value.ref _) _) _ _ _); k_dflt (refine' set_ways (by exact Nat.le_of_ble_eq_true rfl) (by with_reducible assumption) (by with_reducible assumption) (by k_updF) (by with_reducible assumption) (by walk_at "SUB") (by k_mem) (by with_reducible assumption) ?_); intro h'q o'q F'q N'q hW'q; (try dsimp only at N'q); (try k_sweep))) | (with_reducible ((with_reducible show wpAny _ _ (newTuple _) _ _ _); k_dflt (refine' kup_newTuple (by with_reducible assumption) (by with_reducible assumption) ?_ (by kmk_size)); intro D'q h'q F'q N'q l1; (try k_lt l1); (try k_sweep))) | walk1 | (dsimp only; walk1) | ((with_reducible show Q1'c _ _); first | ((with_reducible refine hc'c.n _ ?_); clear hc'c Q1'c; (try dsimp only)) | ((with_reducible refine hc'c.f _ _ (by first | (with_reducible exact retN) | (intro h; cases h)) ?_); clear hc'c Q1'c; (try dsimp only))) | fail "no step"))
          all_goals (rename Fr _ _ _ _ => F7; rename News _ _ _ _ => N7)
          · rename WTab _ _ _ (storedH _ _ _ _) => W7
            rename _ < _ ∧ _ < _ ∧ _ < _ ∧ _ < _ ∧ AllLt _ _ => hl7
            rename g4 x mid + g4 mid y < g4 x y => hlt7
            simp only [allLt_append, AllLt] at hl7
            obtain ⟨_, _, _, e1, e2, e3, e4⟩ := hl7
            exact TE.ways (tl := (_, tupS _ _ _ _) :: _) F7 N7 (by walk_at "SUB") (by walk_at "SUB") d3 ⟨Nat.ne_of_gt e3, d4⟩ W7 ⟨_, R4.put hxn hyn, by rw [storedH_length_old hv3]; exact hx4, (FW4.put hmn hxn hyn hlt7).mono hmo⟩ ⟨Nat.ne_of_gt e1, d1⟩ (apart_lt e4 d2) (by walk_at "SAME3")
          · rename ¬ g4 x mid + g4 mid y < g4 x y => hlt7
            exact TE.ways F7 N7 (by walk_at "SUB") (by walk_at "SUB") d3 d4 W4 ⟨g4, R4, hx4, (FW4.skip hmn hxn hyn hlt7).mono hmo⟩ d1 d2 (by walk_at "SAME3")
        · rintro u4 wo4 tl4 xs4 h4 tk4 W4 ⟨g4, R4, hx4, FW4⟩ d1 d2 F6 N6
          rw [List.take_length] at FW4
          try dsimp only
          (repeat' (first | ((with_reducible show wpAny _ _ (execs (List.cons (PySem.Stmt.If _ _ _ _) _) _) _ _ _); (try dsimp only); (with_reducible refine execs_cut ?_); intro Q1'c hc'c) | ((with_reducible refine execs_cut ?_); intro Q1'c hc'c) | walk1 | (dsimp only; walk1) | ((with_reducible show Q1'c _ _); first | ((with_reducible refine hc'c.n _ ?_); clear hc'c Q1'c; (try dsimp only)) | ((with_reducible refine hc'c.f _ _ (by first | (with_reducible exact retN) | (intro h; cases h)) ?_); clear hc'c Q1'c; (try dsimp only))) | fail "no step"))
          refine TE.ways F6 N6 (by walk_at "SUB") (by walk_at "SUB") c3 d2.1 W4 ⟨g4, R4, hx4, FW4.mono fun a b q _ hb => ?_⟩ d1 d2.2 (by walk_at "SAME3")
          rw [take_snoc hx] at q
          rcases List.mem_append.mp q with q | q
          · exact .inl q
          · exact .inr ⟨by simpa using q, hb⟩
      · rintro u3 wo3 tl3 xs3 h3 tk3 W3 ⟨g3, R3, hx3, FW3⟩ c1 c2 F4 N4
        rw [List.take_length] at FW3
        try dsimp only
        (repeat' (first | ((with_reducible show wpAny _ _ (execs (List.cons (PySem.Stmt.If _ _ _ _) _) _) _ _ _); (try dsimp only); (with_reducible refine execs_cut ?_); intro Q1'c hc'c) | ((with_reducible refine execs_cut ?_); intro Q1'c hc'c) | walk1 | (dsimp only; walk1) | ((with_reducible show Q1'c _ _); first | ((with_reducible refine hc'c.n _ ?_); clear hc'c Q1'c; (try dsimp only)) | ((with_reducible refine hc'c.f _ _ (by first | (with_reducible exact retN) | (intro h; cases h)) ?_); clear hc'c Q1'c; (try dsimp only))) | fail "no step"))
        refine TE.ways F4 N4 (by walk_at "SUB") (by walk_at "SUB") b3 c2.1 W3 ⟨g3, R3, hx3, fun mid' => (FW3.next (fun a b ha _ => ha) mid').congrM (fun c hc => ?_) fun _ _ e => e⟩ c1 c2.2 (by walk_at "SAME3")
        rw [take_snoc hmid] at hc
        rcases List.mem_append.mp hc with hc | hc
        · exact .inl hc
        · exact .inr (by simpa using hc)
    · rintro u2 wo2 tl2 xs2 h2 tk2 W2 ⟨g2, R2, hx2, FW2⟩ b1 b2 F2 N2
      replace FW2 := FW2 ""
      rw [List.take_length] at FW2
      try dsimp only
      (repeat' (first | ((with_reducible show wpAny _ _ (execs (List.cons (PySem.Stmt.If _ _ _ _) _) _) _ _ _); (try dsimp only); (with_reducible refine execs_cut ?_); intro Q1'c hc'c) | ((with_reducible refine execs_cut ?_); intro Q1'c hc'c) | walk1 | (dsimp only; walk1) | ((with_reducible show Q1'c _ _); first | ((with_reducible refine hc'c.n _ ?_); clear hc'c Q1'c; (try dsimp only)) | ((with_reducible refine hc'c.f _ _ (by first | (with_reducible exact retN) | (intro h; cases h)) ?_); clear hc'c Q1'c; (try dsimp only))) | fail "no step"))
      try dsimp only
      have hok := FW2.ok (fun x hx y hy => by
        obtain ⟨v, ys, _, hys, _⟩ := hget x hx
        rw [parOf, hys] at hy
        obtain ⟨p, hp, q1, q2⟩ : ∃ p ∈ NN, p.1 = x ∧ p.2 = ys := by
          unfold at? at hys
          obtain ⟨p, hp, q⟩ := Option.map_eq_some_iff.mp hys
          exact ⟨p, List.mem_of_find?_eq_some hp, by simpa using List.find?_some hp, q⟩
        exact (hmem y).mpr (hcl p hp y (by rw [q2]; exact hy)))
      have hR2 : WRel w (NN.map (·.1)) xs2 g2 := ⟨fun x hx => let ⟨a, b, e, ha, hb⟩ := R2.keys x hx; ⟨a, b, e, (hmem a).mp ha, (hmem b).mp hb⟩, fun a ha b hb => R2.vals a ((hmem a).mpr ha) b ((hmem b).mpr hb)⟩
      refine h _ _ _ g2 ((wd, wo2) :: tl2) F2.keep (fun p hp => ?_) ?_ ⟨wo2, xs2, .head _, W2.more fun _ hp => .tail _ hp, hR2⟩ ⟨fun a b ha hb => hok.sound a b ((hmem a).mpr ha) ((hmem b).mpr hb), fun a b n ha hb => hok.comp a b n ((hmem a).mpr ha) ((hmem b).mpr hb)⟩
      · have z := N2 p (by rcases List.mem_cons.mp hp with rfl | hp; exact .head _; exact .tail _ (List.mem_append_left _ hp))
        exact ⟨z.1, z.2.2⟩
      · intro h9 H
        exact ⟨⟨xs2, W2.at (H _ (.head _)) fun p hp => H p (.tail _ hp), hR2⟩, hws⟩

theorem addP_cons (n : Nat) (R : List (Str × Nat)) (p : Str) (ps : List Str) : addP n R (p :: ps) = addP n (if p == ("ANY" : Str) || R.any (fun r => r.1 == p) then R else R ++ [(p, n)]) ps := rfl
theorem any_mem {R : List (Str × Nat)} {p : Str} : R.any (fun r => r.1 == p) = true ↔ ∃ r ∈ R, r.1 = p := by
  rw [List.any_eq_true]
  exact ⟨fun ⟨r, h, e⟩ => ⟨r, h, by simpa using e⟩, fun ⟨r, h, e⟩ => ⟨r, h, by simpa using e⟩⟩
/-- the rows added -/
theorem addP_new (n : Nat) : ∀ (ps : List Str) (R : List (Str × Nat)), (R.map (·.1)).Nodup → ∃ new : List (Str × Nat), addP n R ps = R ++ new ∧ (∀ r ∈ new, r.2 = n ∧ r.1 ∈ ps ∧ r.1 ≠ "ANY") ∧ ((R ++ new).map (·.1)).Nodup ∧ ∀ p ∈ ps, p = "ANY" ∨ ∃ r ∈ R ++ new, r.1 = p
  | [], R, hn => ⟨[], by simp [addP], (fun _ h => nomatch h), by simpa using hn, (fun _ h => nomatch h)⟩
  | p :: ps, R, hn => by
    rw [addP_cons]
    by_cases h : (p == ("ANY" : Str) || R.any (fun r => r.1 == p)) = true
    · rw [if_pos h]
      obtain ⟨new, e, h1, h2, h3⟩ := addP_new n ps R hn
      refine ⟨new, e, fun r hr => ⟨(h1 r hr).1, .tail _ (h1 r hr).2.1, (h1 r hr).2.2⟩, h2, fun q hq => ?_⟩
      rcases List.mem_cons.mp hq with rfl | hq
      · rcases Bool.or_eq_true_iff.mp h with h | h
        · exact .inl (by simpa using h)
        · obtain ⟨r, hr, e⟩ := any_mem.mp h
          exact .inr ⟨r, List.mem_append_left _ hr, e⟩
      · exact h3 q hq
    · rw [if_neg h]
      have h' := h
      simp only [Bool.or_eq_true, not_or] at h'
      have hnot : ∀ r ∈ R, r.1 ≠ p := fun r hr e => h'.2 (any_mem.mpr ⟨r, hr, e⟩)
      have hn' : ((R ++ [(p, n)]).map (·.1)).Nodup := by
        rw [List.map_append, List.nodup_append]
        refine ⟨hn, by simp, fun a ha b hb => ?_⟩
        obtain ⟨r, hr, rfl⟩ := List.mem_map.mp ha
        simp at hb
        subst hb
        exact hnot r hr
      obtain ⟨new, e, h1, h2, h3⟩ := addP_new n ps (R ++ [(p, n)]) hn'
      have ea : R ++ [(p, n)] ++ new = R ++ (p, n) :: new := by simp
      refine ⟨(p, n) :: new, by rw [e, ea], fun r hr => ?_, by rw [← ea]; exact h2, fun q hq => ?_⟩
      · rcases List.mem_cons.mp hr with rfl | hr
        · exact ⟨rfl, .head _, by simpa using h'.1⟩
        · exact ⟨(h1 r hr).1, .tail _ (h1 r hr).2.1, (h1 r hr).2.2⟩
      · rcases List.mem_cons.mp hq with rfl | hq
        · exact .inr ⟨(q, n), by simp, rfl⟩
        · have := h3 q hq
          rwa [ea] at this
structure Bfs (par : Str → List Str) (x : Str) (k : Nat) (R : List (Str × Nat)) : Prop where
  head : ∃ T, R = (x, 0) :: T ∧ ∀ r ∈ T, r.1 ≠ "ANY"
  nodup : (R.map (·.1)).Nodup
  mono : R.Pairwise fun a b => a.2 ≤ b.2
  walk : ∀ r ∈ R, Walk par x r.1 r.2
  idx : ∀ (i : Nat) (r : Str × Nat), R[i]? = some r → r.2 ≤ i
  closed : ∀ (i : Nat) (r : Str × Nat), i < k → R[i]? = some r → ∀ p ∈ par r.1, p = "ANY" ∨ ∃ q ∈ R, q.1 = p ∧ q.2 ≤ r.2 + 1
  front : ∀ (i : Nat) (r : Str × Nat), k ≤ i → R[i]? = some r → ∀ q ∈ R, q.2 ≤ r.2 + 1
theorem bfs (par : Str → List Str) (x : Str) : ∀ k, Bfs par x k (bst par x k)
  | 0 => by
    refine ⟨⟨[], rfl, fun _ h => nomatch h⟩, by simp [bst], by simp [bst], fun r hr => ?_, fun i r h => ?_, fun i r h => absurd h (Nat.not_lt_zero _), fun i r _ _ q hq => ?_⟩
    · rw [show r = (x, 0) by simpa [bst] using hr]; exact .nil _
    · have hm := List.mem_of_getElem? h
      rw [show r = (x, 0) by simpa [bst] using hm]; exact Nat.zero_le _
    · rw [show q = (x, 0) by simpa [bst] using hq]; exact Nat.zero_le _
  | k + 1 => by
    have ih := bfs par x k
    generalize hR : bst par x k = R at ih
    by_cases hk : k < R.length
    · obtain ⟨⟨y, n⟩, hy⟩ : ∃ r, R[k]? = some r := ⟨_, List.getElem?_eq_getElem hk⟩
      have e : bst par x (k + 1) = addP (n + 1) R (par y) := by rw [← hR] at hy ⊢; exact bst_succ hy
      obtain ⟨new, e2, h1, h2, h3⟩ := addP_new (n + 1) (par y) R ih.nodup
      rw [e, e2]
      obtain ⟨T, hT, hA⟩ := ih.head
      have hym := List.mem_of_getElem? hy
      have hfr := ih.front k (y, n) (Nat.le_refl _) hy
      have hall : ∀ q ∈ R ++ new, q.2 ≤ n + 1 := fun q hq => by
        rcases List.mem_append.mp hq with hq | hq
        · exact hfr q hq
        · rw [(h1 q hq).1]; exact Nat.le_refl _
      have hny := ih.idx k (y, n) hy
      have hwy := ih.walk (y, n) hym
      have hmono : (R ++ new).Pairwise fun a b => a.2 ≤ b.2 := by
        refine List.pairwise_append.mpr ⟨ih.mono, List.pairwise_of_forall_mem_list fun a ha b hb => ?_, fun a ha b hb => ?_⟩
        · rw [(h1 a ha).1, (h1 b hb).1]; exact Nat.le_refl _
        · rw [(h1 b hb).1]; exact hfr a ha
      refine ⟨⟨T ++ new, by rw [hT]; rfl, fun r hr => ?_⟩, h2, hmono, fun r hr => ?_, fun i r hi => ?_, fun i r hi hr p hp => ?_, fun i r hi hr q hq => ?_⟩
      · rcases List.mem_append.mp hr with hr | hr
        · exact hA r hr
        · exact (h1 r hr).2.2
      · rcases List.mem_append.mp hr with hr | hr
        · exact ih.walk r hr
        · obtain ⟨e1, e2, _⟩ := h1 r hr
          rw [e1]
          exact hwy.append (.cons e2 (.nil _))
      · by_cases hlt : i < R.length
        · rw [List.getElem?_append_left hlt] at hi
          exact ih.idx i r hi
        · have hm : r ∈ R ++ new := List.mem_of_getElem? hi
          have := hall r hm
          have hny' : n ≤ k := hny
          omega
      · by_cases hik : i = k
        · subst hik
          rw [List.getElem?_append_left hk, hy] at hr
          cases hr
          rcases h3 p hp with e | ⟨q, hq, e⟩
          · exact .inl e
          · exact .inr ⟨q, hq, e, hall q hq⟩
        · have hi' : i < k := by omega
          rw [List.getElem?_append_left (by omega)] at hr
          rcases ih.closed i r hi' hr p hp with e | ⟨q, hq, e⟩
          · exact .inl e
          · exact .inr ⟨q, List.mem_append_left _ hq, e⟩
      · have hq' := hall q hq
        have hr' : n ≤ r.2 := by
          obtain ⟨hl, er⟩ := List.getElem?_eq_some_iff.mp hr
          have e0 : (R ++ new)[k]'(by rw [List.length_append]; omega) = (y, n) := by
            rw [List.getElem_append_left hk]; exact (List.getElem?_eq_some_iff.mp hy).2
          have := List.pairwise_iff_getElem.mp hmono k i (by rw [List.length_append]; omega) hl (by omega)
          rw [e0, er] at this
          exact this
        omega
    · have e : bst par x (k + 1) = R := by
        show (match (bst par x k)[k]? with | some (y, n) => addP (n + 1) (bst par x k) (par y) | none => bst par x k) = _
        rw [hR, List.getElem?_eq_none (by omega)]
      rw [e]
      refine ⟨ih.head, ih.nodup, ih.mono, ih.walk, ih.idx, fun i r _ hr => ih.closed i r ?_ hr, fun i r hi => ih.front i r (by omega)⟩
      have := (List.getElem?_eq_some_iff.mp hr).1
      omega
/-- the search is through -/
structure Sup (par : Str → List Str) (x : Str) (T : List (Str × Nat)) : Prop where
  noAny : ∀ r ∈ T, r.1 ≠ "ANY"
  nodup : (((x, 0) :: T).map (·.1)).Nodup
  mono : ((x, 0) :: T).Pairwise fun a b => a.2 ≤ b.2
  walk : ∀ r ∈ T, Walk par x r.1 r.2
  least : ∀ z m, Walk par x z m → ∃ r ∈ (x, 0) :: T, r.1 = z ∧ r.2 ≤ m
  len : ∀ r ∈ T, r.2 ≤ T.length
  near : (par x).Nodup → x ∉ par x → T.take (par x).length = (par x).map fun p => (p, 1)
theorem addP_plain (n : Nat) (x : Str) : ∀ (ps qs : List Str), (qs ++ ps).Nodup → x ∉ qs ++ ps → (∀ p ∈ ps, p ≠ "ANY") → addP n ((x, 0) :: qs.map fun p => (p, n)) ps = (x, 0) :: (qs ++ ps).map fun p => (p, n)
  | [], qs, _, _, _ => by simp [addP]
  | p :: ps, qs, hn, hx, hA => by
    have h1 : (p == ("ANY" : Str)) = false := by simpa using hA p (.head _)
    have h2 : p ∉ qs := fun h => (List.nodup_append.mp hn).2.2 p h p (.head _) rfl
    have h3 : ((x, 0) :: qs.map fun p => (p, n)).any (fun r => r.1 == p) = false := by
      rw [Bool.eq_false_iff]
      intro e
      obtain ⟨r, hr, e⟩ := any_mem.mp e
      rcases List.mem_cons.mp hr with rfl | hr
      · exact hx (by rw [show x = p from e]; simp)
      · obtain ⟨q, hq, rfl⟩ := List.mem_map.mp hr
        exact h2 (by rw [show p = q from e.symm]; exact hq)
    rw [addP_cons, h1, h3]
    have e := addP_plain n x ps (qs ++ [p]) (by simpa using hn) (by simpa using hx) fun q hq => hA q (.tail _ hq)
    have e1 : ((x, 0) :: qs.map fun p => (p, n)) ++ [(p, n)] = (x, 0) :: (qs ++ [p]).map fun p => (p, n) := by simp
    rw [if_neg (by simp), e1, e]
    simp
theorem bst_prefix (par : Str → List Str) (x : Str) : ∀ k, ∃ T, bst par x (k + 1) = addP 1 [(x, 0)] (par x) ++ T
  | 0 => ⟨[], by simp [bst]⟩
  | k + 1 => by
    obtain ⟨T, hT⟩ := bst_prefix par x k
    cases h : (bst par x (k + 1))[k + 1]? with
    | none => exact ⟨T, by rw [← hT]; show (match (bst par x (k + 1))[k + 1]? with | some (y, n) => addP (n + 1) (bst par x (k + 1)) (par y) | none => bst par x (k + 1)) = _; rw [h]⟩
    | some r =>
      obtain ⟨y, n⟩ := r
      obtain ⟨new, e, _⟩ := addP_new (n + 1) (par y) (bst par x (k + 1)) (bfs par x (k + 1)).nodup
      exact ⟨T ++ new, by rw [bst_succ h, e, hT, List.append_assoc]⟩
theorem sup_of {par : Str → List Str} {x : Str} {k : Nat} (hk : (bst par x k).length ≤ k) (hA : ∀ y, ("ANY" : Str) ∉ par y) : ∃ T, bst par x k = (x, 0) :: T ∧ Sup par x T := by
  have B := bfs par x k
  obtain ⟨T, hT, hno⟩ := B.head
  refine ⟨T, hT, hno, hT ▸ B.nodup, hT ▸ B.mono, fun r hr => B.walk r (by rw [hT]; exact .tail _ hr), fun z m hw => ?_, fun r hr => ?_, fun hn hx => ?_⟩
  · have key : ∀ {u z : Str} {m : Nat}, Walk par u z m → ∀ d, (u, d) ∈ bst par x k → ∃ r ∈ bst par x k, r.1 = z ∧ r.2 ≤ d + m := by
      intro u z m hw
      induction hw with
      | nil => intro d hd; exact ⟨_, hd, rfl, Nat.le_refl _⟩
      | @cons u y z m e _ ih =>
        intro d hd
        obtain ⟨i, hi⟩ := List.mem_iff_getElem?.mp hd
        have hlt := (List.getElem?_eq_some_iff.mp hi).1
        rcases B.closed i (u, d) (by omega) hi y e with q | ⟨⟨q1, q2⟩, hq, e1, e2⟩
        · exact absurd (q ▸ e) (hA u)
        · have e1 : q1 = y := e1
          subst e1
          have e2 : q2 ≤ d + 1 := e2
          obtain ⟨r, hr, e3, e4⟩ := ih q2 hq
          exact ⟨r, hr, e3, by omega⟩
    obtain ⟨r, hr, e1, e2⟩ := key hw 0 (by rw [hT]; exact .head _)
    exact ⟨r, hT ▸ hr, e1, by omega⟩
  · obtain ⟨i, hi⟩ := List.mem_iff_getElem?.mp hr
    have := B.idx (i + 1) r (by rw [hT]; simpa using hi)
    have := (List.getElem?_eq_some_iff.mp hi).1
    omega
  · cases k with
    | zero => have := bst_pos par x 0; omega
    | succ k =>
      obtain ⟨T', hT'⟩ := bst_prefix par x k
      have e := addP_plain 1 x (par x) [] (by simpa using hn) (by simpa using hx) fun p hp q => hA x (q ▸ hp)
      simp only [List.map_nil, List.nil_append] at e
      rw [hT', e, List.cons_append] at hT
      injection hT with _ h2
      rw [← h2]
      simp

theorem enterX {w : World} {A : Around} {s : Shared} {Q : Value → Shared → Prop} {mg mb : Str → Option Value}
    {name qual : Str} {params : Arguments} {body : List Stmt} {scope : Scope} {dV kV doc pm cdv ct oc : Value} {an od : Option Addr} {osl : Array (Option Value)} {f : Addr} {args : List Value} {binds : List (Str × Value)}
    (X : (KF w.params).In s.heap) (T : TR mg mb s.heap)
    (ho : (KF w.params).lookup f = some ⟨oc, od, .func (fnOf name qual params body scope dV kV doc pm an cdv ct), osl⟩) (hcd : codeIn (KF w.params) cdv qual = true) (hroom : A.depth < recursionLimit)
    (hbind : bindArgs (fnOf name qual params body scope dV kV doc pm an cdv ct) ⟨args, []⟩ = pure binds) (hkind : (binds.all fun y => scope.names.lookup y.1 == some .local || scope.names.lookup y.1 == some .cell) = true)
    (hnd : ((cellsFrom 0 scope.names []).map (·.1)).Nodup)
    (h : ∀ h₁ tk cells, Fr s.heap s.heap.objs.size h₁ (bindL (envOfC qual scope s.heap.objs.size f cdv).kindOf binds fun _ => none) → News s.heap s.heap.objs.size h₁ cells →
      CellsAre (bindC (envOfC qual scope s.heap.objs.size f cdv).kindOf binds fun _ => none) (cellsFrom (s.heap.objs.size + 1) scope.names []) cells →
      wpAny (model PG w) (A.deeper (envOfC qual scope s.heap.objs.size f cdv)) (execs body (envOfC qual scope s.heap.objs.size f cdv))
        (fun fl s' => Q (match fl with | .ret v => v | _ => .none) s') (fun _ _ => False) { s with heap := h₁, toks := tk })
    (hco : scope.isCoroutine = false) (hgen : scope.isGenerator = false) (hk : scope.kind = .function) :
    wpAny (model PG w) A (call (.ref f) args) Q (fun _ _ => False) s := by
  refine wpAny_call ?_
  refine codeAny_call_function (fd := fnOf name qual params body scope dV kV doc pm an cdv ct) hroom (X _ _ ho) rfl hco hgen rfl (codeRec_of X hcd) ((BindsTo.of_eq hbind) _ _ _ _ ?_)
  refine wpAny_newFunctionEnv_cells hk (kindsX hkind _) fun env' he s' x => ?_
  subst he
  refine ⟨T.nolimit.keeps x.toInCall.keep, codeAny_func ?_⟩
  obtain ⟨h₁, tk, rfl, _⟩ := x.done
  have hk₁ := x.toInCall.keep
  obtain ⟨cells, NC, Y⟩ := Cl.news (h₀ := s.heap) (Nat.le_refl _) fun n c hm => ⟨x.cell n c (lookup_of_mem_nodup (cellsFrom_names scope.names 0 (s.heap.objs.size + 1) [] [] rfl ▸ hnd) hm), x.above n c hm⟩
  refine wpAny_mono (h h₁ tk cells ⟨x.toInCall.ns, hk₁, Nat.le_refl _⟩ NC Y) (fun fl s' hl => hl) fun _ _ y => y.elim
section
variable {w : World} {A : Around} {env : Env}
/-- the head of a comprehension: its iterable is known -/
noncomputable def AtComp (w : World) (A : Around) (env : Env) (scope : Scope) (cl : List (Str × Addr)) (x : Str) (ifs : List Expr) (elt : Expr) (Q : Value → Shared → Prop) (xv : Value) (s₁ : Shared) : Prop :=
  wpAny (model PG w) A (pyIter xv) (fun it s₂ => ∃ (p : Value → Bool) (R : Value → Value → Prop) (I : Addr) (fp wr : List Addr) (n : Nat) (P : Nat → Value → Prop) (St : Nat → Heap → Prop), it = .ref I ∧ Walks PG w A I fp wr n P St ∧ n ≤ sizeLine ∧ St 0 s₂.heap ∧ (∀ b ∈ fp, b < s₂.heap.objs.size) ∧
    QuietOnC PG w A env scope cl x ifs elt wr P p R s₂ ∧
    (∀ D h' tk ys (vs : List Value), s₂.heap.get? D = none → h'.IsList D ys → h'.PlainList D ys → vs.length = n → (∀ j v, vs[j]? = some v → P j v) → Paired R (vs.filter p) ys.toList →
      (∀ b o, b ∉ wr → s₂.heap.get? b = some o → h'.get? b = some o) → Q (.ref D) { s₂ with heap := h', toks := tk })) (fun _ _ => False) s₁
theorem ListComp_at {s : Shared} {elt iter : Expr} {x : Str} {px : Pos} {ifs : List Expr} {scope : Scope} {cl : List (Str × Addr)} {pos : Pos} {Q : Value → Shared → Prop}
    (hclos : closureFor scope env = pure cl) (hcell : ∀ y ∈ scope.names, y.2 ≠ .cell) (hkind : scope.kind = .function)
    (hnames : ∀ y ∈ scope.names, y.2 = .local → scope.names.lookup y.1 = some .local) (hx : scope.names.lookup x = some .local)
    (h : wpAny (model PG w) A (eval iter env) (AtComp w A env scope cl x ifs elt Q) (fun _ _ => False) s)
    (hs : ∀ x, foldedSetIterable iter env x = pure x) :
    wpAny (model PG w) A (eval (.ListComp elt [⟨.Name x px, iter, ifs, 0⟩] scope pos) env) Q (fun _ _ => False) s := by
  rw [eval_ListComp]
  refine wpAny_comprehension_free (use := none) rfl hs hclos hkind hnames (wpAny_mono h (fun xv s₁ h₁ => wpAny_mono h₁ (fun it s₂ h₂ => ?_) fun _ _ e => e) fun _ _ e => e)
  obtain ⟨p, R, I, fp, wr, n, P, St, rfl, W, hsz, hst, hfp, hq, hQ⟩ := h₂
  refine comp_block_walkC (RR := fun acc C => compPost (model PG w) A (fun _ _ => False) none Q acc C) W hsz p R hcell hkind hx hst hfp hq ?_
  intro D C h' tk m' ys vs hD hC hDC hn hl hpl hlen hP hF hk
  exact ⟨m', hn, fun h'' hs'' => hQ D h'' tk ys vs hD (hl.extBut hs''.extBut hDC) (hpl.extBut hs''.extBut hDC) hlen hP hF fun b o hbf e => hs''.extBut b o (by rintro rfl; rw [hC] at e; cases e) (hk b o hbf e)⟩
noncomputable def AtCompA (w : World) (A : Around) (env : Env) (scope : Scope) (cl : List (Str × Addr)) (x y : Str) (ifs : List Expr) (elt : Expr) (Q : Flow → Shared → Prop) (xv : Value) (s₁ : Shared) : Prop :=
  wpAny (model PG w) A (pyIter xv) (fun it s₂ => ∃ (p : Value → Bool) (R : Value → Value → Prop) (I : Addr) (fp wr : List Addr) (n : Nat) (P : Nat → Value → Prop) (St : Nat → Heap → Prop) (m : Str → Option Value), it = .ref I ∧ Walks PG w A I fp wr n P St ∧ n ≤ sizeLine ∧ St 0 s₂.heap ∧ (∀ b ∈ fp, b < s₂.heap.objs.size) ∧
    env.locals ∉ wr ∧ s₂.heap.Ns env.locals m ∧ QuietOnC PG w A env scope cl x ifs elt wr P p R s₂ ∧
    (∀ D h' tk ys (vs : List Value), s₂.heap.get? D = none → h'.IsList D ys → h'.PlainList D ys → vs.length = n → (∀ j v, vs[j]? = some v → P j v) → Paired R (vs.filter p) ys.toList →
      h'.Ns env.locals (fun z => if z = y then some (.ref D) else m z) → (∀ b o, b ≠ env.locals → b ∉ wr → s₂.heap.get? b = some o → h'.get? b = some o) → Q .next { s₂ with heap := h', toks := tk })) (fun _ _ => False) s₁
theorem Assign_ListComp_at {s : Shared} {elt iter : Expr} {x y : Str} {px py : Pos} {ifs : List Expr} {scope : Scope} {cl : List (Str × Addr)} {pos spos : Pos} {Q : Flow → Shared → Prop}
    (hsw : swapsWith (.ListComp elt [⟨.Name x px, iter, ifs, 0⟩] scope pos) (some (.Name y py)) spos.line env = pure true)
    (hclos : closureFor scope env = pure cl) (hcell : ∀ z ∈ scope.names, z.2 ≠ .cell) (hkind : scope.kind = .function)
    (hnames : ∀ z ∈ scope.names, z.2 = .local → scope.names.lookup z.1 = some .local) (hx : scope.names.lookup x = some .local)
    (hy : env.kindOf y = some .local) (hp : (env.scope.kind == .class || (env.scope.kind == .module && env.locals != env.globals)) = false)
    (h : wpAny (model PG w) A (eval iter env) (AtCompA w A env scope cl x y ifs elt Q) (fun _ _ => False) s)
    (hs : ∀ x, foldedSetIterable iter env x = pure x) :
    wpAny (model PG w) A (exec (.Assign [.Name y py] (.ListComp elt [⟨.Name x px, iter, ifs, 0⟩] scope pos) spos) env) Q (fun _ _ => False) s := by
  rw [exec_Assign_Name_used _ _ _ _ hsw]
  refine wpAny_bind (wpAny_standAt (wpAny_bind ?_))
  show wpAny _ A (do let _ ← comprehension (.ListComp elt [⟨.Name x px, iter, ifs, 0⟩] scope pos) scope env _ (newList []) false (eval iter env) (some (assign (.Name y py) env))) _ _ s
  refine wpAny_bind (wpAny_mono (wpAny_comprehension_free (use := some (assign (.Name y py) env)) (Q := fun _ s' => Q .next s') rfl hs hclos hkind hnames
    (wpAny_mono h (fun xv s₁ h₁ => wpAny_mono h₁ (fun it s₂ h₂ => ?_) fun _ _ e => e) fun _ _ e => e)) (fun _ s' hq => wpAny_pure (wpAny_pure hq)) fun _ _ e => e)
  obtain ⟨p, R, I, fp, wr, n, P, St, m, rfl, W, hsz, hst, hfp, hLf, hn, hq, hQ⟩ := h₂
  refine comp_block_walkC (RR := fun acc C => compPost (model PG w) A (fun _ _ => False) (some (assign (.Name y py) env)) (fun _ s' => Q .next s') acc C) W hsz p R hcell hkind hx hst hfp hq ?_
  intro D C h' tk m' ys vs hD hC hDC hnC hlD hplD hlen hP hF hk
  have hLC : env.locals ≠ C := by rintro rfl; obtain ⟨o, _, _, ho, _⟩ := hn; rw [hC] at ho; cases ho
  have hLD : env.locals ≠ D := by rintro rfl; obtain ⟨o, _, _, ho, _⟩ := hn; rw [hD] at ho; cases ho
  show wpAny _ A (assign (.Name y py) env (.ref D)) _ _ _
  refine wpAny_assign_Name (wpAny_storeName_local hy (hn.at' fun o e => hk _ o hLf e) (fun h₂ hn₂ hs₂ => ?_) hp)
  refine ⟨m', hnC.sameBut hs₂ (Ne.symm hLC), fun h₃ hs₃ => ?_⟩
  exact hQ D h₃ _ ys vs hD ((hlD.extBut hs₂.extBut (Ne.symm hLD)).extBut hs₃.extBut hDC) ((hplD.extBut hs₂.extBut (Ne.symm hLD)).extBut hs₃.extBut hDC) hlen hP hF (hn₂.sameBut hs₃ hLC) fun b o hbL hbf e =>
    hs₃.extBut b o (by rintro rfl; rw [hC] at e; cases e) (hs₂.extBut b o hbL (hk b o hbf e))
/-- the ends of a test and of an element -/
noncomputable def CT (r : Bool) (s₃ : Shared) (ok : Bool) (s₄ : Shared) : Prop := ok = r ∧ Keeps s₃ s₄
noncomputable def CE (R : Value → Value → Prop) (v : Value) (s₃ : Shared) (y : Value) (s₄ : Shared) : Prop := R v y ∧ Keeps s₃ s₄
theorem CT.intro {r ok : Bool} {s₃ : Shared} {h : Heap} {tk : Nat} (e : ok = r) (k : Sub s₃.heap h) : CT r s₃ ok { s₃ with heap := h, toks := tk } := ⟨e, h, tk, rfl, k⟩
theorem CE.intro {R : Value → Value → Prop} {v y : Value} {s₃ : Shared} {h : Heap} {tk : Nat} (e : R v y) (k : Sub s₃.heap h) : CE R v s₃ y { s₃ with heap := h, toks := tk } := ⟨e, h, tk, rfl, k⟩
structure CompOk (w : World) (A : Around) (env : Env) (scope : Scope) (cl : List (Str × Addr)) (x : Str) (ifs : List Expr) (elt : Expr) (h₀ : Heap) (L : Addr) (m : Str → Option Value) (news : List (Addr × Obj)) (n : Nat) (P : Nat → Value → Prop) (p : Value → Bool) (R : Value → Value → Prop) (s : Shared) : Prop where
  tests : ∀ i v C oC m₂ (s₃ : Shared) (E' : Value → Shared → Prop), i < n → P i v → Fr h₀ L s₃.heap m → News h₀ L s₃.heap ((C, oC) :: news) → LCg.NsObj oC m₂ → m₂ x = some v → Sub s.heap s₃.heap →
    wpAny (model PG w) A (forIn ifs true fun c r => if r = true then do let ok ← isTrue c (compEnvC scope cl C env) (eval c (compEnvC scope cl C env)); pure (ForInStep.yield ok) else pure (ForInStep.yield r)) (CT (p v) s₃) E' s₃
  elt : ∀ i v C oC m₂ (s₃ : Shared) (E' : Value → Shared → Prop), i < n → P i v → p v = true → Fr h₀ L s₃.heap m → News h₀ L s₃.heap ((C, oC) :: news) → LCg.NsObj oC m₂ → m₂ x = some v → Sub s.heap s₃.heap →
    wpAny (model PG w) A (eval elt (compEnvC scope cl C env)) (CE R v s₃) E' s₃
theorem comp_quiet {s : Shared} {oI : Obj} {h₀ : Heap} {L : Addr} {m : Str → Option Value} {news : List (Addr × Obj)} {n : Nat} {P : Nat → Value → Prop} {p : Value → Bool} {R : Value → Value → Prop} {scope : Scope} {cl : List (Str × Addr)} {x : Str} {ifs : List Expr} {elt : Expr}
    (F : Fr h₀ L s.heap m) (N : News h₀ L s.heap news) (ok : CompOk w A env scope cl x ifs elt h₀ L m news n P p R s) : QuietOnC PG w A env scope cl x ifs elt [s.heap.objs.size] (fun i v => i < n ∧ P i v) p R { s with heap := s.heap.push oI } := by
  have up : ∀ (C : Addr) (s₃ : Shared) (m₃ : Str → Option Value), (s.heap.push oI).objs.size ≤ C → s₃.heap.Ns C m₃ → (∀ b o, b ∉ [s.heap.objs.size] → (s.heap.push oI).get? b = some o → s₃.heap.get? b = some o) →
      ∃ oC, Fr h₀ L s₃.heap m ∧ News h₀ L s₃.heap ((C, oC) :: news) ∧ LCg.NsObj oC m₃ ∧ Sub s.heap s₃.heap := by
    intro C s₃ m₃ hC hn hk
    obtain ⟨oC, e, hN⟩ := LCg.ns_obj hn
    have k : Sub s.heap s₃.heap := fun b o q => hk b o (by intro hm; rw [List.mem_singleton.mp hm] at q; exact absurd (Heap.lt_size q) (Nat.lt_irrefl _)) (Heap.get?_push_of_some _ q)
    have hlt : s.heap.objs.size < C := by rw [Heap.size_push] at hC; exact hC
    refine ⟨oC, F.keeps k, fun q hq => ?_, hN, k⟩
    rcases List.mem_cons.mp hq with rfl | hq
    · refine ⟨e, fun q => ?_, ?_⟩
      · have := F.ns.lt; have q' : C = L := q; rw [q'] at hlt; exact absurd this (Nat.not_lt.mpr (Nat.le_of_lt hlt))
      · cases z : h₀.get? C with
        | none => rfl
        | some o => exact absurd (Heap.lt_size (F.keep _ _ z)) (Nat.not_lt.mpr (Nat.le_of_lt hlt))
    · exact ⟨k _ _ (N q hq).1, (N q hq).2⟩
  refine ⟨fun C i v s₃ m₃ E' hC hv hn hm hk _ => ?_, fun C i v s₃ m₃ E' hC hv hp hn hm hk _ => ?_⟩
  · obtain ⟨oC, F3, N3, hN, k⟩ := up C s₃ m₃ hC hn hk
    exact ok.tests i v C oC m₃ s₃ E' hv.1 hv.2 F3 N3 hN hm k
  · obtain ⟨oC, F3, N3, hN, k⟩ := up C s₃ m₃ hC hn hk
    exact ok.elt i v C oC m₃ s₃ E' hv.1 hv.2 hp F3 N3 hN hm k
theorem Walks.both {A : Around} {I : Addr} {fp wr : List Addr} {n : Nat} {P : Nat → Value → Prop} {St : Nat → Heap → Prop} (W : Walks PG w A I fp wr n P St) : Walks PG w A I fp wr n (fun i v => i < n ∧ P i v) St where
  sub := W.sub
  frame := W.frame
  item := fun i s Q E hi st hQ => W.item i s Q E hi st fun v h' tk hP => hQ v h' tk ⟨hi, hP⟩
  done := W.done
  self := W.self
theorem comp_led {h₀ h h' : Heap} {oI : Obj} {L D : Addr} {m : Str → Option Value} {news : List (Addr × Obj)} {ys : Array Value} (F : Fr h₀ L h m) (N : News h₀ L h news) (hD : (h.push oI).get? D = none) (hp : h'.PlainList D ys)
    (hk : ∀ b o, b ∉ [h.objs.size] → (h.push oI).get? b = some o → h'.get? b = some o) : ∃ e, Fr h₀ L h' m ∧ News h₀ L h' ((D, listOf (List.toArray ys.toList) e) :: news) ∧ AllNe D news := by
  obtain ⟨e, he⟩ := hp
  have k : Sub h h' := fun b o q => hk b o (by intro hm; rw [List.mem_singleton.mp hm] at q; exact absurd (Heap.lt_size q) (Nat.lt_irrefl _)) (Heap.get?_push_of_some _ q)
  have hD' : h.get? D = none := by
    cases q : h.get? D with
    | none => rfl
    | some o => rw [Heap.get?_push_of_some _ q] at hD; cases hD
  obtain ⟨a, b, c⟩ := led_new F N k hD' he
  exact ⟨e, a, by rw [Array.toArray_toList]; exact b, c⟩
end

section
variable {w : World} {A : Around} {env : Env} {s : Shared} {h₀ : Heap} {L l d : Addr} {m : Str → Option Value} {news : List (Addr × Obj)} {scope : Scope} {cl : List (Str × Addr)} {x y : Str} {ifs : List Expr} {elt : Expr}
theorem fst_lt_push {h : Heap} {oI : Obj} {b : Addr} {o : Obj} (e : h.get? b = some o) : ∀ c ∈ [h.objs.size, b], c < (h.push oI).objs.size := fun c hc => by
  rw [Heap.size_push]
  rcases List.mem_cons.mp hc with rfl | hc
  · exact Nat.lt_succ_self _
  · rw [List.mem_singleton.mp hc]; exact Nat.lt_succ_of_lt (Heap.lt_size e)
theorem compL {items : List Value} {Q : Value → Shared → Prop} (p : Value → Bool) (R : Value → Value → Prop) (hh : A.handled = none) (hl : h₀.IsList l items.toArray ∨ ∃ e, (l, listOf items.toArray e) ∈ news) (hsz : items.length ≤ 100000)
    (F : Fr h₀ L s.heap m) (N : News h₀ L s.heap news) (ok : CompOk w A env scope cl x ifs elt h₀ L m news items.length (fun i v => items[i]? = some v) p R s)
    (done : ∀ D e ys h tk, Fr h₀ L h m → News h₀ L h ((D, listOf (List.toArray ys) e) :: news) → AllNe D news → Paired R (items.filter p) ys → Q (.ref D) { s with heap := h, toks := tk }) :
    AtComp w A env scope cl x ifs elt Q (.ref l) s := by
  have hls : s.heap.IsList l items.toArray := by
    rcases hl with ⟨o, ho, r⟩ | ⟨e, hm⟩
    · exact ⟨o, F.keep _ _ ho, r⟩
    · exact News.isList N hm
  have hes : items.toArray.size = items.length := by simp
  have hlt : ∃ o, s.heap.get? l = some o := let ⟨o, e, _⟩ := hls; ⟨o, e⟩
  obtain ⟨ol, hol⟩ := hlt
  refine wpAny_pyIter_list hls ⟨p, R, s.heap.objs.size, [s.heap.objs.size, l], [s.heap.objs.size], items.toArray.size, _, _, rfl, Walks.both (Walks.list hh s.heap.objs.size l (Nat.ne_of_lt (Heap.lt_size hol)) items.toArray), by rw [hes, sizeLine_eq]; omega,
    ⟨⟨_, Heap.get?_push_size _ rfl, rfl, rfl⟩, hls.push _⟩, fst_lt_push hol, comp_quiet F N (by simpa using ok), fun D h' tk ys vs hD _ hp hlen hP hF hk => ?_⟩
  obtain ⟨e, F', N', ne⟩ := comp_led F N hD hp hk
  have hv : vs = items := by have := list_of_places hlen fun j v q => (hP j v q).2; simpa using this
  rw [hv] at hF
  exact done D e ys.toList h' tk F' N' ne hF
theorem compA_led {h h' : Heap} {oI : Obj} {D : Addr} {m' : Str → Option Value} {ys : Array Value} (F : Fr h₀ L h m) (N : News h₀ L h news) (hD : (h.push oI).get? D = none) (hp : h'.PlainList D ys) (hn : h'.Ns L m')
    (hk : ∀ b o, b ≠ L → b ∉ [h.objs.size] → (h.push oI).get? b = some o → h'.get? b = some o) : ∃ e, Fr h₀ L h' m' ∧ News h₀ L h' ((D, listOf (List.toArray ys.toList) e) :: news) ∧ AllNe D news := by
  obtain ⟨e, he⟩ := hp
  have k : SubBut L h h' := fun b o n q => hk b o n (by intro hm; rw [List.mem_singleton.mp hm] at q; exact absurd (Heap.lt_size q) (Nat.lt_irrefl _)) (Heap.get?_push_of_some _ q)
  have hD' : h.get? D = none := by
    cases q : h.get? D with
    | none => rfl
    | some o => rw [Heap.get?_push_of_some _ q] at hD; cases hD
  have h0L : ∀ b o, h₀.get? b = some o → b ≠ L := fun b o q e => by rw [e] at q; exact absurd (Heap.lt_size q) (Nat.not_lt.mpr F.above)
  refine ⟨e, ⟨hn, fun b o q => k b o (h0L b o q) (F.keep b o q), F.above⟩, fun p hp => ?_, allNe_of fun p hp q => ?_⟩
  · rcases List.mem_cons.mp hp with rfl | hp
    · refine ⟨by rw [Array.toArray_toList]; exact he, fun q => ?_, ?_⟩
      · obtain ⟨oL, _, _, hL, _⟩ := F.ns
        have q' : D = L := q
        rw [q', hL] at hD'; cases hD'
      · cases z : h₀.get? D with
        | none => rfl
        | some o => rw [F.keep _ _ z] at hD'; cases hD'
    · exact ⟨k _ _ (N p hp).2.1 (N p hp).1, (N p hp).2⟩
  · rw [← q, (N p hp).1] at hD'; cases hD'
theorem compDA {kvs : List (Str × Value)} {Q : Flow → Shared → Prop} (p : Value → Bool) (R : Value → Value → Prop) (hh : A.handled = none) (hds : (d == sysModules) = false) (hl : h₀.DictOf (strKind PG w) d kvs) (hsz : kvs.length ≤ 100000)
    (F : Fr h₀ env.locals s.heap m) (N : News h₀ env.locals s.heap news) (ok : CompOk w A env scope cl x ifs elt h₀ env.locals m news kvs.length (fun i v => ∃ k z t, kvs[i]? = some (k, z) ∧ v = .str k t) p R s)
    (done : ∀ D e vs ys h tk, Fr h₀ env.locals h (fun z => if z = y then some (.ref D) else m z) → News h₀ env.locals h ((D, listOf (List.toArray ys) e) :: news) → AllNe D news → StrsAre vs (kvs.map (·.1)) → Paired R (vs.filter p) ys → Q .next { s with heap := h, toks := tk }) :
    AtCompA w A env scope cl x y ifs elt Q (.ref d) s := by
  have hd := hl.keep F.keep
  obtain ⟨ep, ha⟩ := hd.dictAt
  have hlt : ∃ o, s.heap.get? d = some o := let ⟨o, _, e, _⟩ := ha; ⟨o, e⟩
  obtain ⟨ol, hol⟩ := hlt
  refine wpAny_pyIter_dict hds ha ⟨p, R, s.heap.objs.size, [s.heap.objs.size, d], [s.heap.objs.size], kvs.length, _, _, m, rfl, Walks.both (Walks.dictKeys hh s.heap.objs.size d (Nat.ne_of_lt (Heap.lt_size hol)) kvs ep), by rw [sizeLine_eq]; omega,
    ⟨⟨_, Heap.get?_push_size _ rfl, rfl, rfl⟩, ha.push _⟩, fst_lt_push hol, fun e => Nat.ne_of_lt F.ns.lt (List.mem_singleton.mp e), (F.push _).ns, comp_quiet F N ?_, fun D h' tk ys vs hD _ hp hlen hP hF hn hk => ?_⟩
  · have shp : ∀ (i : Nat) (v : Value), (∃ (k : Str) (z : Value), kvs[i]? = some (k, z) ∧ (strKind PG w).is k v = true) → ∃ (k : Str) (z : Value) (t : Tok), kvs[i]? = some (k, z) ∧ v = .str k t := by
      rintro i v ⟨k, z, e1, e2⟩
      obtain ⟨t, e⟩ := Value.isStrOf_shape e2
      exact ⟨k, z, t, e1, e⟩
    exact ⟨fun i v C oC m₂ s₃ E' hi hv => ok.tests i v C oC m₂ s₃ E' hi (shp i v hv), fun i v C oC m₂ s₃ E' hi hv => ok.elt i v C oC m₂ s₃ E' hi (shp i v hv)⟩
  · obtain ⟨e, F', N', ne⟩ := compA_led F N hD hp hn hk
    refine done D e vs ys.toList h' tk F' N' ne (strs_of_get (by simpa using hlen) fun j v q => ?_) hF
    obtain ⟨_, k, z, e1, e2⟩ := hP j v q
    obtain ⟨t, rfl⟩ := Value.isStrOf_shape e2
    exact ⟨k, t, by rw [List.getElem?_map, e1]; rfl, rfl⟩
theorem compLA {items : List Value} {Q : Flow → Shared → Prop} (p : Value → Bool) (R : Value → Value → Prop) (hh : A.handled = none) (hl : h₀.IsList l items.toArray ∨ ∃ e, (l, listOf items.toArray e) ∈ news) (hsz : items.length ≤ 100000)
    (F : Fr h₀ env.locals s.heap m) (N : News h₀ env.locals s.heap news) (ok : CompOk w A env scope cl x ifs elt h₀ env.locals m news items.length (fun i v => items[i]? = some v) p R s)
    (done : ∀ D e ys h tk, Fr h₀ env.locals h (fun z => if z = y then some (.ref D) else m z) → News h₀ env.locals h ((D, listOf (List.toArray ys) e) :: news) → AllNe D news → Paired R (items.filter p) ys → Q .next { s with heap := h, toks := tk }) :
    AtCompA w A env scope cl x y ifs elt Q (.ref l) s := by
  have hls : s.heap.IsList l items.toArray := by
    rcases hl with ⟨o, ho, r⟩ | ⟨e, hm⟩
    · exact ⟨o, F.keep _ _ ho, r⟩
    · exact News.isList N hm
  have hes : items.toArray.size = items.length := by simp
  have hlt : ∃ o, s.heap.get? l = some o := let ⟨o, e, _⟩ := hls; ⟨o, e⟩
  obtain ⟨ol, hol⟩ := hlt
  have hns : (s.heap.push { cls := .type "list_iterator", data := .fields #[.ref l, .int 0 0] }).Ns env.locals m := (F.push _).ns
  refine wpAny_pyIter_list hls ⟨p, R, s.heap.objs.size, [s.heap.objs.size, l], [s.heap.objs.size], items.toArray.size, _, _, m, rfl, Walks.both (Walks.list hh s.heap.objs.size l (Nat.ne_of_lt (Heap.lt_size hol)) items.toArray), by rw [hes, sizeLine_eq]; omega,
    ⟨⟨_, Heap.get?_push_size _ rfl, rfl, rfl⟩, hls.push _⟩, fst_lt_push hol, fun e => Nat.ne_of_lt F.ns.lt (List.mem_singleton.mp e), hns, comp_quiet F N (by simpa using ok), fun D h' tk ys vs hD _ hp hlen hP hF hn hk => ?_⟩
  have hv : vs = items := by have := list_of_places hlen fun j v q => (hP j v q).2; simpa using this
  rw [hv] at hF
  obtain ⟨e, F', N', ne⟩ := compA_led F N hD hp hn hk
  exact done D e ys.toList h' tk F' N' ne hF
end

structure GoodG (par : Str → List Str) (NN : List (Str × List Str)) : Prop where
  pars : ∀ p ∈ NN, par p.1 = p.2
  nodup : (NN.map (·.1)).Nodup
  closed : ∀ p ∈ NN, ∀ y ∈ p.2, y ∈ NN.map (·.1)
  noAny : ("ANY" : Str) ∉ NN.map (·.1)
  hA : ∀ y, ("ANY" : Str) ∉ par y
  any : par "ANY" = []
  nd : ∀ p ∈ NN, p.2.Nodup ∧ p.1 ∉ p.2
  small : NN.length < 64
  okS : ∀ p ∈ NN, ∀ y ∈ p.2, PyData.strOk y = true
theorem at?_of_mem {D : List (Str × List Str)} (hn : (D.map (·.1)).Nodup) {x : Str} {ys : List Str} (h : (x, ys) ∈ D) : at? D x = some ys := by
  induction D with
  | nil => cases h
  | cons p D ih =>
    rw [List.map_cons, List.nodup_cons] at hn
    rcases List.mem_cons.mp h with e | h
    · subst e; simp [at?]
    · have hne : ¬ p.1 = x := fun e => hn.1 (List.mem_map.mpr ⟨_, h, e.symm⟩)
      have := ih hn.2 h
      simpa [at?, hne] using this
theorem GoodG.mem {par : Str → List Str} {NN : List (Str × List Str)} (G : GoodG par NN) {x : Str} (h : x ∈ NN.map (·.1)) : (x, par x) ∈ NN := by
  obtain ⟨p, hp, rfl⟩ := List.mem_map.mp h
  rw [G.pars p hp]; exact hp
theorem GoodG.clo {par : Str → List Str} {NN : List (Str × List Str)} (G : GoodG par NN) : ∀ x ∈ NN.map (·.1), ∀ y ∈ par x, y ∈ NN.map (·.1) := fun _ hx y hy => G.closed _ (G.mem hx) y hy
theorem GoodG.parOf {par : Str → List Str} {NN : List (Str × List Str)} (G : GoodG par NN) : ∀ x ∈ NN.map (·.1), parOf NN x = par x := fun x hx => by
  unfold Mine.parOf; rw [at?_of_mem G.nodup (G.mem hx)]; rfl
theorem walk_in {par par' : Str → List Str} {names : List Str} {a b : Str} {n : Nat} (h : Walk par a b n) (ha : a ∈ names) (e : ∀ x ∈ names, par x = par' x) (hc : ∀ x ∈ names, ∀ y ∈ par x, y ∈ names) : Walk par' a b n ∧ b ∈ names := by
  induction h with
  | nil => exact ⟨.nil _, ha⟩
  | @cons x y z n m _ ih =>
    obtain ⟨h1, h2⟩ := ih (hc x ha y m)
    exact ⟨.cons (e x ha ▸ m) h1, h2⟩
theorem GoodG.ways {par : Str → List Str} {NN : List (Str × List Str)} {f : Str → Str → Int} (G : GoodG par NN) (W : WaysOk (Mine.parOf NN) (NN.map (·.1)) f) : WaysOk par (NN.map (·.1)) f := by
  have hc : ∀ x ∈ NN.map (·.1), ∀ y ∈ Mine.parOf NN x, y ∈ NN.map (·.1) := fun x hx y hy => G.clo x hx y (G.parOf x hx ▸ hy)
  refine ⟨fun a b ha hb => ?_, fun a b n ha hb hw => W.comp a b n ha hb (walk_in hw ha (fun x hx => (G.parOf x hx).symm) G.clo).1⟩
  rcases W.sound a b ha hb with e | ⟨n, e, hn, hw⟩
  · exact .inl e
  · exact .inr ⟨n, e, hn, (walk_in hw ha G.parOf hc).1⟩
section
variable {par : Str → List Str} {NN : List (Str × List Str)} {f : Str → Str → Int} {x : Str} {T : List (Str × Nat)}
theorem Sup.rows (G : GoodG par NN) (W : WaysOk par (NN.map (·.1)) f) (hx : x ∈ NN.map (·.1)) (S : Sup par x T) : ∀ r ∈ (x, 0) :: T, r.1 ∈ NN.map (·.1) ∧ f x r.1 = r.2 ∧ r.2 < 99 := by
  have hw : ∀ r ∈ (x, 0) :: T, Walk par x r.1 r.2 := fun r hr => by
    rcases List.mem_cons.mp hr with rfl | hr
    · exact .nil _
    · exact S.walk r hr
  have hin : ∀ r ∈ (x, 0) :: T, r.1 ∈ NN.map (·.1) := fun r hr => (walk_in (hw r hr) hx (fun _ _ => rfl) G.clo).2
  have hlen : ((x, 0) :: T).length ≤ NN.length := by
    have h1 := List.Nodup.length_le_of_subset S.nodup (l₂ := NN.map (·.1)) fun a ha => by
      obtain ⟨r, hr, rfl⟩ := List.mem_map.mp ha; exact hin r hr
    simpa using h1
  have hsm := G.small
  have h99 : ∀ r ∈ (x, 0) :: T, r.2 < 99 := fun r hr => by
    rcases List.mem_cons.mp hr with rfl | hr
    · show 0 < 99; omega
    · have := S.len r hr
      simp only [List.length_cons] at hlen
      omega
  intro r hr
  refine ⟨hin r hr, ?_, h99 r hr⟩
  have h1 := W.comp x r.1 r.2 hx (hin r hr) (hw r hr)
  have h2 := h99 r hr
  rcases W.sound x r.1 hx (hin r hr) with e | ⟨n, e, hn, hwn⟩
  · omega
  · obtain ⟨q, hq, e1, e2⟩ := S.least r.1 n hwn
    have hqr : q = r := by
      have hinj := S.nodup
      obtain ⟨i, hi⟩ := List.mem_iff_getElem?.mp hq
      obtain ⟨j, hj⟩ := List.mem_iff_getElem?.mp hr
      have e3 : (((x, 0) :: T).map (·.1))[i]? = some r.1 := by rw [List.getElem?_map, hi]; simp [e1]
      have e4 : (((x, 0) :: T).map (·.1))[j]? = some r.1 := by rw [List.getElem?_map, hj]; rfl
      have hij := (List.getElem?_inj (List.getElem?_eq_some_iff.mp e3).1 hinj).mp (e3.trans e4.symm)
      rw [hij, hj] at hi
      exact (Option.some.inj hi).symm
    rw [hqr] at e2
    omega
theorem Sup.reach (W : WaysOk par (NN.map (·.1)) f) (hx : x ∈ NN.map (·.1)) (S : Sup par x T) {z : Str} (hz : z ∈ NN.map (·.1)) (h : f x z < 99) : ∃ r ∈ (x, 0) :: T, r.1 = z := by
  rcases W.sound x z hx hz with e | ⟨n, e, hn, hw⟩
  · omega
  · obtain ⟨q, hq, e1, _⟩ := S.least z n hw
    exact ⟨q, hq, e1⟩
noncomputable def farOf (f : Str → Str → Int) (x : Str) (names : List Str) : List Int := (names.filter fun z => decide (0 < f x z ∧ f x z < 99)).map (f x)
theorem Sup.zero (G : GoodG par NN) (W : WaysOk par (NN.map (·.1)) f) (hx : x ∈ NN.map (·.1)) (S : Sup par x T) : ∀ r ∈ T, 0 < r.2 := by
  intro r hr
  rcases Nat.eq_zero_or_pos r.2 with e | e
  · have hw := S.walk r hr
    rw [e] at hw
    have hn := S.nodup
    rw [List.map_cons, List.nodup_cons] at hn
    cases hw' : r.1 with
    | mk c =>
      have : r.1 = x := by
        generalize hz : r.1 = z at hw
        cases hw
        rfl
      exact absurd (List.mem_map.mpr ⟨r, hr, this⟩) hn.1
  · exact e
theorem Sup.names (G : GoodG par NN) (W : WaysOk par (NN.map (·.1)) f) (hx : x ∈ NN.map (·.1)) (S : Sup par x T) : ((NN.map (·.1)).filter fun z => decide (0 < f x z ∧ f x z < 99)).Perm (T.map (·.1)) := by
  have hn := S.nodup
  rw [List.map_cons, List.nodup_cons] at hn
  refine (List.perm_ext_iff_of_nodup (List.Nodup.sublist List.filter_sublist G.nodup) hn.2).mpr fun z => ?_
  rw [List.mem_filter]
  constructor
  · rintro ⟨hz, h⟩
    have h := of_decide_eq_true h
    obtain ⟨r, hr, rfl⟩ := S.reach W hx hz h.2
    rcases List.mem_cons.mp hr with rfl | hr
    · have := (S.rows G W hx (x, 0) (.head _)).2.1
      have e : f x x = 0 := this
      have h1 : 0 < f x x := h.1
      omega
    · exact List.mem_map.mpr ⟨r, hr, rfl⟩
  · intro h
    obtain ⟨r, hr, rfl⟩ := List.mem_map.mp h
    obtain ⟨h1, h2, h3⟩ := S.rows G W hx r (.tail _ hr)
    have h4 := S.zero G W hx r hr
    exact ⟨h1, by rw [decide_eq_true_eq, h2]; omega⟩
theorem Sup.far_len (G : GoodG par NN) (W : WaysOk par (NN.map (·.1)) f) (hx : x ∈ NN.map (·.1)) (S : Sup par x T) : (farOf f x (NN.map (·.1))).length = T.length := by
  have := (S.names G W hx).length_eq
  unfold farOf
  rw [List.length_map, this, List.length_map]
theorem Sup.far_mem (G : GoodG par NN) (W : WaysOk par (NN.map (·.1)) f) (hx : x ∈ NN.map (·.1)) (S : Sup par x T) (a : Int) : a ∈ farOf f x (NN.map (·.1)) ↔ ∃ r ∈ T, a = r.2 := by
  unfold farOf
  rw [List.mem_map]
  constructor
  · rintro ⟨z, hz, rfl⟩
    obtain ⟨r, hr, rfl⟩ := List.mem_map.mp ((S.names G W hx).mem_iff.mp hz)
    exact ⟨r, hr, (S.rows G W hx r (.tail _ hr)).2.1⟩
  · rintro ⟨r, hr, rfl⟩
    exact ⟨r.1, (S.names G W hx).mem_iff.mpr (List.mem_map.mpr ⟨r, hr, rfl⟩), (S.rows G W hx r (.tail _ hr)).2.1⟩
theorem lastN_mem : ∀ (T : List (Str × Nat)) (x : Str), (T = [] ∧ lastN ((x, 0) :: T) = 0) ∨ ∃ r ∈ T, r.2 = lastN ((x, 0) :: T)
  | [], x => .inl ⟨rfl, rfl⟩
  | r :: T, x => .inr (by
    obtain ⟨q, hq⟩ : ∃ q, (r :: T).getLast? = some q := by cases h : (r :: T).getLast? with | none => simp at h | some q => exact ⟨q, rfl⟩
    refine ⟨q, List.mem_of_getLast? hq, ?_⟩
    unfold lastN
    rw [List.getLast?_cons_cons, hq]; rfl)
theorem lastN_ge {R : List (Str × Nat)} (hm : R.Pairwise fun a b => a.2 ≤ b.2) : ∀ r ∈ R, r.2 ≤ lastN R := by
  intro r hr
  obtain ⟨i, hi⟩ := List.mem_iff_getElem?.mp hr
  obtain ⟨hlt, he⟩ := List.getElem?_eq_some_iff.mp hi
  have hl : R.length - 1 < R.length := by omega
  have e : lastN R = (R[R.length - 1]).2 := by unfold lastN; rw [List.getLast?_eq_getElem?, List.getElem?_eq_getElem hl]; rfl
  rw [e, ← he]
  by_cases hi' : i = R.length - 1
  · subst hi'; exact Nat.le_refl _
  · exact List.pairwise_iff_getElem.mp hm i (R.length - 1) hlt hl (by omega)
theorem Sup.max (G : GoodG par NN) (W : WaysOk par (NN.map (·.1)) f) (hx : x ∈ NN.map (·.1)) (S : Sup par x T) {M : Int} (hM : M ∈ (0 : Int) :: farOf f x (NN.map (·.1))) (hle : ∀ a, a ∈ (0 : Int) :: farOf f x (NN.map (·.1)) → a ≤ M) : M = lastN ((x, 0) :: T) := by
  have h1 : M ≤ lastN ((x, 0) :: T) := by
    rcases List.mem_cons.mp hM with rfl | hM
    · omega
    · obtain ⟨r, hr, rfl⟩ := (S.far_mem G W hx M).mp hM
      have := lastN_ge S.mono r (.tail _ hr)
      omega
  have h2 : (lastN ((x, 0) :: T) : Int) ≤ M := by
    rcases lastN_mem T x with ⟨_, e⟩ | ⟨r, hr, e⟩
    · rw [e]; exact hle 0 (.head _)
    · rw [← e]; exact hle _ (.tail _ ((S.far_mem G W hx r.2).mpr ⟨r, hr, rfl⟩))
  omega
end

theorem supersFrom_eq {par : Str → List Str} {x : Str} {k : Nat} {T : List (Str × Nat)} (h : bst par x k = (x, 0) :: T) (hx : (x == ("ANY" : Str)) = false) : supersFrom x (bst par x k) = T ++ [(("ANY" : Str), lastN ((x, 0) :: T) + 1)] := by
  unfold supersFrom
  rw [hx, if_neg Bool.false_ne_true, h]; rfl
section
variable {w : World} {s : Shared} {Q : Value → Shared → Prop} {g : Heap} {mg mb : Str → Option Value} {t c u : Addr} {D U NN : List (Str × List Str)} {x y : Str} {tx ty : Tok} {f : Str → Str → Int}
theorem supers_good (X : (KF w.params).In g) (T : TR mg mb g) (st : Sub g s.heap) (HT : TabAt w s.heap t c u D U) (hB : ∀ x k, (bst (parentsOf D U) x k).length ≤ 100) (hA : ∀ y, ("ANY" : Str) ∉ parentsOf D U y) (hx : (x == ("ANY" : Str)) = false)
    (h : ∀ h' tk a vs e (T : List (Str × Nat)) (tl : List (Addr × Obj)), Sub s.heap h' → (∀ p ∈ (a, listOf (List.toArray vs) e) :: tl, h'.get? p.1 = some p.2 ∧ s.heap.get? p.1 = none) → All2 (RowV tl) vs (T ++ [(("ANY" : Str), lastN ((x, 0) :: T) + 1)]) → Sup (parentsOf D U) x T → T.length ≤ 100 → Q (.ref a) { s with heap := h', toks := tk }) :
    wpAny (model PG w) (AL 4) (call (.ref 151) [.ref t, .str x tx]) Q (fun _ _ => False) s :=
  supers_spec X T st HT (hB x) fun h' tk a vs e k tl a1 a2 a3 a4 => by
    obtain ⟨T', h1, S⟩ := sup_of a4 hA
    rw [supersFrom_eq h1 hx] at a3
    have := hB x k
    rw [h1, List.length_cons] at this
    exact h h' tk a vs e T' tl a1 a2 a3 S (by omega)
theorem any_false {x y : Str} (h : x ≠ y) : (x == y) = false := by simpa using h
theorem find_row {R : List (Str × Nat)} (hn : (R.map (·.1)).Nodup) {r : Str × Nat} (hr : r ∈ R) : R.find? (fun q => q.1 == r.1) = some r := by
  induction R with
  | nil => cases hr
  | cons p R ih =>
    rw [List.map_cons, List.nodup_cons] at hn
    rw [List.find?_cons]
    rcases List.mem_cons.mp hr with rfl | hr
    · simp
    · have : (p.1 == r.1) = false := any_false fun e => hn.1 (List.mem_map.mpr ⟨r, hr, e.symm⟩)
      rw [this]; exact ih hn.2 hr
theorem dist_rows {par : Str → List Str} {x : Str} {T : List (Str × Nat)} {l : Nat} (S : Sup par x T) {z : Str} {n : Nat} (h : (z, n) ∈ (x, 0) :: T) : distOf x z (T ++ [(("ANY" : Str), l)]) = some n := by
  unfold distOf
  have hn := S.nodup
  rw [List.map_cons, List.nodup_cons] at hn
  rcases List.mem_cons.mp h with e | h
  · cases e; simp
  · have : (x == z) = false := any_false fun e => hn.1 (List.mem_map.mpr ⟨_, h, e.symm⟩)
    rw [this, if_neg Bool.false_ne_true, List.find?_append, find_row hn.2 h]; rfl
theorem dist_not {par : Str → List Str} {x : Str} {T : List (Str × Nat)} {l : Nat} {z : Str} (hz : z ≠ "ANY") (h : ∀ r ∈ (x, 0) :: T, r.1 ≠ z) (_ : Sup par x T) : distOf x z (T ++ [(("ANY" : Str), l)]) = none := by
  unfold distOf
  have : (x == z) = false := any_false (h (x, 0) (.head _))
  rw [this, if_neg Bool.false_ne_true, List.find?_append, List.find?_eq_none.mpr fun r hr => by rw [any_false (h r (.tail _ hr))]; exact Bool.false_ne_true]
  simp [any_false (Ne.symm hz)]
theorem dist_top {par : Str → List Str} {x : Str} {T : List (Str × Nat)} {l : Nat} (hx : x ≠ "ANY") (S : Sup par x T) : distOf x "ANY" (T ++ [(("ANY" : Str), l)]) = some l := by
  unfold distOf
  rw [any_false hx, if_neg Bool.false_ne_true, List.find?_append, List.find?_eq_none.mpr fun r hr => by rw [any_false (S.noAny r hr)]; exact Bool.false_ne_true]
  simp
theorem Sup.last_eq {x : Str} {T T' : List (Str × Nat)} {par : Str → List Str} (G : GoodG par NN) (W : WaysOk par (NN.map (·.1)) f) (hx : x ∈ NN.map (·.1)) (S : Sup par x T) (S' : Sup par x T') : lastN ((x, 0) :: T) = lastN ((x, 0) :: T') := by
  have h : ((lastN ((x, 0) :: T) : Nat) : Int) = lastN ((x, 0) :: T') := by
    refine S'.max G W hx ?_ fun a ha => ?_
    · rcases lastN_mem T x with ⟨_, e⟩ | ⟨r, hr, e⟩
      · rw [e]; exact .head _
      · rw [← e]; exact .tail _ ((S.far_mem G W hx r.2).mpr ⟨r, hr, rfl⟩)
    · rcases List.mem_cons.mp ha with rfl | ha
      · omega
      · obtain ⟨r, hr, rfl⟩ := (S.far_mem G W hx a).mp ha
        have := lastN_ge S.mono r (.tail _ hr)
        omega
  omega
theorem dist_yes (X : (KF w.params).In g) (T : TR mg mb g) (st : Sub g s.heap) (HT : TabAt w s.heap t c u D U) (hB : ∀ x k, (bst (parentsOf D U) x k).length ≤ 100) (G : GoodG (parentsOf D U) NN) (W : WaysOk (parentsOf D U) (NN.map (·.1)) f) (hx : x ∈ NN.map (·.1)) (hy : y ∈ NN.map (·.1)) (hf : f x y < 99)
    (h : ∀ h' tk t', Sub s.heap h' → Q (.int (f x y) t') { s with heap := h', toks := tk }) :
    wpAny (model PG w) (AL 5) (call (.ref 158) [.ref t, .str x tx, .str y ty]) Q (fun _ _ => False) s :=
  distance_spec X T st HT (hB x) fun h' tk v k a b hk => by
    obtain ⟨T', h1, S⟩ := sup_of hk G.hA
    have hxa : x ≠ "ANY" := fun e => G.noAny (e ▸ hx)
    rw [supersFrom_eq h1 (any_false hxa)] at b
    obtain ⟨⟨q1, q2⟩, hr, e⟩ := S.reach W hx hy hf
    have e : q1 = y := e
    subst e
    rw [dist_rows S hr] at b
    obtain ⟨t', rfl⟩ := b
    have e2 : f x q1 = (q2 : Nat) := (S.rows G W hx _ hr).2.1
    rw [← e2]
    exact h h' tk t' a
theorem dist_no (X : (KF w.params).In g) (T : TR mg mb g) (st : Sub g s.heap) (HT : TabAt w s.heap t c u D U) (hB : ∀ x k, (bst (parentsOf D U) x k).length ≤ 100) (G : GoodG (parentsOf D U) NN) (W : WaysOk (parentsOf D U) (NN.map (·.1)) f) (hx : x ∈ NN.map (·.1)) (hy : y ∈ NN.map (·.1)) (hf : ¬ f x y < 99)
    (h : ∀ h' tk, Sub s.heap h' → Q .none { s with heap := h', toks := tk }) :
    wpAny (model PG w) (AL 5) (call (.ref 158) [.ref t, .str x tx, .str y ty]) Q (fun _ _ => False) s :=
  distance_spec X T st HT (hB x) fun h' tk v k a b hk => by
    obtain ⟨T', h1, S⟩ := sup_of hk G.hA
    have hxa : x ≠ "ANY" := fun e => G.noAny (e ▸ hx)
    rw [supersFrom_eq h1 (any_false hxa), dist_not (fun e => G.noAny (e ▸ hy)) (fun r hr e => hf (by
      obtain ⟨_, q2, q3⟩ := S.rows G W hx r hr
      rw [← e, q2]; omega)) S] at b
    cases b
    exact h h' tk a
theorem dist_any (X : (KF w.params).In g) (T : TR mg mb g) (st : Sub g s.heap) (HT : TabAt w s.heap t c u D U) (hB : ∀ x k, (bst (parentsOf D U) x k).length ≤ 100) (G : GoodG (parentsOf D U) NN) (W : WaysOk (parentsOf D U) (NN.map (·.1)) f) (hx : x ∈ NN.map (·.1)) {T₀ : List (Str × Nat)} (S₀ : Sup (parentsOf D U) x T₀)
    (h : ∀ h' tk t', Sub s.heap h' → Q (.int ((lastN ((x, 0) :: T₀) + 1 : Nat) : Int) t') { s with heap := h', toks := tk }) :
    wpAny (model PG w) (AL 5) (call (.ref 158) [.ref t, .str x tx, .str "ANY" ty]) Q (fun _ _ => False) s :=
  distance_spec X T st HT (hB x) fun h' tk v k a b hk => by
    obtain ⟨T', h1, S⟩ := sup_of hk G.hA
    have hxa : x ≠ "ANY" := fun e => G.noAny (e ▸ hx)
    rw [supersFrom_eq h1 (any_false hxa), dist_top hxa S, S.last_eq G W hx S₀] at b
    obtain ⟨t', rfl⟩ := b
    exact h h' tk t' a
theorem dist_from_any (X : (KF w.params).In g) (T : TR mg mb g) (st : Sub g s.heap) (HT : TabAt w s.heap t c u D U) (hB : ∀ x k, (bst (parentsOf D U) x k).length ≤ 100) (G : GoodG (parentsOf D U) NN) (hy : y ∈ NN.map (·.1))
    (h : ∀ h' tk, Sub s.heap h' → Q .none { s with heap := h', toks := tk }) :
    wpAny (model PG w) (AL 5) (call (.ref 158) [.ref t, .str "ANY" tx, .str y ty]) Q (fun _ _ => False) s :=
  distance_spec X T st HT (hB "ANY") fun h' tk v k a b hk => by
    have e : ∀ k, bst (parentsOf D U) "ANY" k = [(("ANY" : Str), 0)] := by
      intro k
      induction k with
      | zero => rfl
      | succ k ih =>
        show (match (bst (parentsOf D U) "ANY" k)[k]? with | some (y, n) => addP (n + 1) (bst (parentsOf D U) "ANY" k) (parentsOf D U y) | none => bst (parentsOf D U) "ANY" k) = _
        rw [ih]
        cases k with
        | zero => show addP 1 [("ANY", 0)] (parentsOf D U "ANY") = _; rw [G.any]; rfl
        | succ k => rfl
    have hya : ("ANY" : Str) ≠ y := fun e => G.noAny (e ▸ hy)
    rw [e k] at b
    have e2 : distOf "ANY" y (supersFrom "ANY" [("ANY", 0)]) = none := by
      unfold distOf
      rw [any_false hya, if_neg Bool.false_ne_true]; rfl
    rw [e2] at b
    cases b
    exact h h' tk a
end

theorem dictOfH_up {w : World} {h h' : Heap} {d : Addr} {xs : List (List Str × Addr × Value)} (D : h.DictOfH (tupK w) d xs) (k : Sub h h') : h'.DictOfH (tupK w) d xs := by
  obtain ⟨o, es, ep, ho, hc, hd, he, hk, hn⟩ := D
  refine ⟨o, es, ep, k _ _ ho, hc, hd, he, fun x hx => ?_, hn⟩
  obtain ⟨ok, items, n, q1, q2, q3, q4⟩ := hk x hx
  exact ⟨ok, items, n, k _ _ q1, q2, q3, q4⟩
theorem WaysAt.up {w : World} {h h' : Heap} {d : Addr} {names : List Str} {g : Str → Str → Int} (W : WaysAt w h d names g) (k : Sub h h') : WaysAt w h' d names g := ⟨let ⟨xs, D, R⟩ := W.at_; ⟨xs, dictOfH_up D k, R⟩, W.nd⟩
theorem item_waysB {w : World} {A : Around} {E : Value → Shared → Prop} {s : Shared} {h₀ : Heap} {L wd T : Addr} {m : Str → Option Value} {news : List (Addr × Obj)} {xs : List (List Str × Addr × Value)} {a b : Str} {t1 t2 : Tok} {v : Value} {value slice : Expr} {Q : Value → Shared → Prop}
    (hu : A.units + 1 < cLine) (F : Fr h₀ L s.heap m) (N : News h₀ L s.heap news) (D : h₀.DictOfH (tupK w) wd xs) (hT : (T, tupS a t1 b t2) ∈ news) (hv : valueAt (kvsOf xs) [a, b] = some v)
    (h : Q v { s with toks := s.toks + 3 })
    (hs : subscripted slice false (.ref wd) (.ref T) = operate [.ref wd, .ref T] (getItem (.ref wd) (.ref T))) (hg : ∀ r, letTemporaryGo value (.ref wd) r = pure ()) :
    wpAny (model PG w) A (subscriptTail value slice (.ref wd) (.ref T)) Q E s := by
  have hD := dictOfH_up D F.keep
  rw [valueAt_kvsOf] at hv
  obtain ⟨p, hp, rfl⟩ := Option.map_eq_some_iff.mp hv
  exact subscriptTail_builtin hD.typeIs slot_dict_getitem.lookup (wpAny_getItem_heap (knd := tupK w) (tupleKind_room_in1 hu) (key_tup.key (N _ hT).1) hD hp h) hs hg
theorem rows_le {R : Value → Str × Nat → Prop} {vs : List Value} {T : List (Str × Nat)} {l : Str × Nat} (h : All2 R vs (T ++ [l])) (k : T.length ≤ 100) : vs.length ≤ 100000 := by
  rw [h.length, List.length_append]; simp; omega
local macro_rules | `(tactic| walk_at "eval ListComp") => `(tactic| (k_here; k_dflt (refine ListComp_at (cl := _) (by with_unfolding_all rfl) (by decide) (by rfl) (by decide) (by rfl) ?_ (by intro _; rfl))))
local macro_rules | `(tactic| walk_at "exec Assign cons ListComp") => `(tactic| (k_here; k_dflt (refine Assign_ListComp_at (cl := _) (by with_unfolding_all rfl) (by with_unfolding_all rfl) (by decide) (by rfl) (by decide) (by rfl) (by rfl) (by rfl) ?_ (by intro _; rfl))))
theorem newTuple_sub {M : Model} {A : Around} {E : Value → Shared → Prop} {s : Shared} {h₀ : Heap} {L : Addr} {m : Str → Option Value} {news : List (Addr × Obj)} {vs : List Value} {Q : Value → Shared → Prop} (F : Fr h₀ L s.heap m) (N : News h₀ L s.heap news)
    (h : ∀ D h', Fr h₀ L h' m → News h₀ L h' ((D, ({ cls := .type "tuple", data := .seq vs.toArray } : Obj)) :: news) → (∀ p ∈ news, p.1 < D) → Sub s.heap h' → Q (.ref D) { s with heap := h' }) (hz : vs.length ≤ sizeLine) : wpAny M A (newTuple vs) Q E s :=
  wpAny_newObj_type (h _ _ (F.push _) (N.push F _) (fun p hp => Heap.lt_size (N p hp).1) fun _ _ e => Heap.get?_push_of_some _ e) (by show vs.toArray.size ≤ sizeLine; rw [List.size_toArray]; exact hz)
theorem len_words {w : World} {A : Around} {E : Value → Shared → Prop} {s : Shared} {h₀ : Heap} {L l : Addr} {m : Str → Option Value} {ys : List Str} {Q : Value → Shared → Prop} (W : Words h₀ l ys) (F : Fr h₀ L s.heap m)
    (h : Q (.int ys.length (s.toks + 1)) { s with toks := s.toks + 1 + 1 }) : wpAny (model PG w) A (call (.builtin "len") [.ref l]) Q E s := by
  obtain ⟨vs, e, g, S, b⟩ := W.up F.keep
  have hl := S.length
  have e1 : (List.toArray vs).size = ys.length := by simp [hl]
  refine PyProof.Rows.len_list ⟨_, g, rfl, e, rfl⟩ (by rw [e1]; omega) ?_
  rw [e1]; exact h
theorem slice_take {w : World} {A : Around} {E : Value → Shared → Prop} {s : Shared} {h₀ : Heap} {L l : Addr} {m : Str → Option Value} {news : List (Addr × Obj)} {value slice : PySem.Expr} {vs : List Value} {e b : Nat} {t : Tok} {Q : Value → Shared → Prop}
    (F : Fr h₀ L s.heap m) (N : News h₀ L s.heap news) (hl : (l, listOf (List.toArray vs) e) ∈ news) (hz : vs.length ≤ 100000)
    (h : ∀ D h', Fr h₀ L h' m → News h₀ L h' ((D, listOf (List.toArray (vs.take b)) 0) :: news) → (∀ p ∈ news, p.1 < D) → Q (.ref D) { s with heap := h' })
    (hs : subscripted slice false (.ref l) (.ref s.heap.objs.size) = operate [.ref s.heap.objs.size, .ref l] (getItem (.ref l) (.ref s.heap.objs.size))) (ht : ∀ r, letTemporaryGo value (.ref l) r = pure ()) :
    wpAny (model PG w) A (subscriptTail value slice (.ref l) (.ref s.heap.objs.size)) Q E { s with heap := s.heap.push { cls := .type "slice", data := .fields #[.none, .int (b : Int) t, .none] } } := by
  have hz' : vs.toArray.size ≤ sizeLine := by rw [List.size_toArray, sizeLine_eq]; omega
  refine kmk_slice F N (News.isList N hl) IsPart.none (IsPart.int _ _) (fun D h' F' N' l1 => h D h' F' ?_ l1) hs ht hz'
  rw [slicePick_upto'] at N'
  exact N'
theorem eqvAll_strs : ∀ ss : List Str, PyData.eqvAll (ss.map .str) (ss.map .str) = true
  | [] => by simp [PyData.eqvAll]
  | x :: r => by simp [PyData.eqvAll, PyData.eqv, eqvAll_strs r]
theorem ne_words {w : World} {A : Around} {E : Value → Shared → Prop} {s : Shared} {a b : Addr} {xs ys : List Value} {ss : List Str} {Q : Value → Shared → Prop} (ha : s.heap.IsList a (List.toArray xs)) (hb : s.heap.IsList b (List.toArray ys)) (S1 : StrsAre xs ss) (S2 : StrsAre ys ss) (ok : ∀ x ∈ ss, PyData.strOk x = true) (hu : A.units + 64 < cLine)
    (h : Q (.bool false) s) : wpAny (model PG w) A (compareOp .NotEq (.ref a) (.ref b)) Q E s := by
  obtain ⟨oa, g1, c1, n1, d1⟩ := ha
  obtain ⟨ob, g2, c2, n2, d2⟩ := hb
  have shp : SeqAt.shaped (.list (ss.map .str)) = true := by
    simp only [SeqAt.shaped, PyData.canLay0, PyData.depth, canLayAll_strs', depthAll_strs', Bool.and_eq_true, decide_eq_true_eq]
    exact ⟨List.all_eq_true.mpr ok, by omega⟩
  refine SeqAt.compareNe_shaped (.list g1 c1 d1 (S1.reads _)) (.list g2 c2 d2 (S2.reads _)) shp shp hu ?_
  have e : PyData.eqv (.list (ss.map .str)) (.list (ss.map .str)) = true := by simp only [PyData.eqv]; exact eqvAll_strs ss
  rw [e]; exact h
theorem ne_words_led {w : World} {A : Around} {E : Value → Shared → Prop} {s : Shared} {h₀ : Heap} {L a b : Addr} {m : Str → Option Value} {news : List (Addr × Obj)} {e : Nat} {xs : List Value} {ss : List Str} {Q : Value → Shared → Prop} (N : News h₀ L s.heap news) (F : Fr h₀ L s.heap m) (hm : (a, listOf (List.toArray xs) e) ∈ news) (W : Words h₀ b ss) (S : StrsAre xs ss) (ok : ∀ x ∈ ss, PyData.strOk x = true) (hu : A.units + 64 < cLine)
    (h : Q (.bool false) s) : wpAny (model PG w) A (compareOp .NotEq (.ref a) (.ref b)) Q E s := by
  obtain ⟨vs, e2, g, S2, _⟩ := W.up F.keep
  exact ne_words (News.isList N hm) ⟨_, g, rfl, e2, rfl⟩ S S2 ok hu h
theorem ne_tup {w : World} {A : Around} {E : Value → Shared → Prop} {s : Shared} {a b : Addr} {x : Str} {n : Int} {t1 t2 t3 t4 : Tok} {Q : Value → Shared → Prop} (ha : s.heap.get? a = some { cls := .type "tuple", data := .seq (List.toArray [.str x t1, .int n t2]) }) (hb : s.heap.get? b = some { cls := .type "tuple", data := .seq (List.toArray [.str x t3, .int n t4]) }) (ok : PyData.strOk x = true) (hu : A.units + 64 < cLine)
    (h : Q (.bool false) s) : wpAny (model PG w) A (compareOp .NotEq (.ref a) (.ref b)) Q E s := by
  have shp : SeqAt.shaped (.tuple [.str x, .int n]) = true := by
    simp [SeqAt.shaped, PyData.canLay0, PyData.canLayAll0, PyData.depth, PyData.depthAll, ok]
  refine SeqAt.compareNe_shaped (.tuple ha rfl rfl (.cons (.str _ _) (.cons (.int _ _) .nil))) (.tuple hb rfl rfl (.cons (.str _ _) (.cons (.int _ _) .nil))) shp shp hu ?_
  have e : PyData.eqv (.tuple [.str x, .int n]) (.tuple [.str x, .int n]) = true := by simp [PyData.eqv, PyData.eqvAll]
  rw [e]; exact h
theorem item_last {w : World} {A : Around} {E : Value → Shared → Prop} {s : Shared} {h₀ : Heap} {L l : Addr} {news : List (Addr × Obj)} {value slice : Expr} {vs : List Value} {e : Nat} {u : Tok} {v : Value} {Q : Value → Shared → Prop} (N : News h₀ L s.heap news) (hm : (l, listOf (List.toArray vs) e) ∈ news) (hx : vs.getLast? = some v) (h : Q v s)
    (hs : subscripted slice false (.ref l) (.int (-1) u) = operate [.ref l, .int (-1) u] (getItem (.ref l) (.int (-1) u))) :
    wpAny (model PG w) A (subscriptTail value slice (.ref l) (.int (-1) u)) Q E s := by
  have hL := News.isList N hm
  have hlen : 0 < vs.length := by cases vs with | nil => simp at hx | cons _ _ => simp
  exact tail_any hL.typeIs slot_list_getitem.lookup (wpAny_getItem_list_neg hL (by decide) (by simp; omega) (by decide) (by
    rw [List.getLast?_eq_getElem?] at hx
    have e1 : (-1 + ((List.toArray vs).size : Int)).toNat = vs.length - 1 := by simp; omega
    rw [e1]; simpa using hx) h) hs
theorem max_far {w : World} {A : Around} {E : Value → Shared → Prop} {s : Shared} {h₀ : Heap} {L l : Addr} {m : Str → Option Value} {news : List (Addr × Obj)} {vs : List Value} {e : Nat} {t : Tok} {par : Str → List Str} {NN : List (Str × List Str)} {f : Str → Str → Int} {x : Str} {T : List (Str × Nat)} {Q : Value → Shared → Prop}
    (hh : A.handled = none) (F : Fr h₀ L s.heap m) (N : News h₀ L s.heap news) (hm : (l, listOf (List.toArray ([.int 0 t] ++ vs)) e) ∈ news) (hf : IntsAre vs (farOf f x (NN.map (·.1)))) (S : Sup par x T) (G : GoodG par NN) (W : WaysOk par (NN.map (·.1)) f) (hx : x ∈ NN.map (·.1))
    (h : ∀ h' tk t', Fr h₀ L h' m → News h₀ L h' news → Q (.int ((lastN ((x, 0) :: T) : Nat) : Int) t') { s with heap := h', toks := tk }) :
    wpAny (model PG w) A (call (.builtin "max") [.ref l]) Q E s := by
  have hi : IntsAre ([.int 0 t] ++ vs) (0 :: farOf f x (NN.map (·.1))) := IntsAre.cons 0 t hf
  refine kso_max (ns := 0 :: farOf f x (NN.map (·.1))) F N (News.isList N hm) hi (Nat.zero_lt_succ _) hh fun h' M t' tk F' N' hM hle => ?_
  rw [S.max G W hx hM hle]
  exact h h' tk t' F' N'
theorem ne_tup_led {w : World} {A : Around} {E : Value → Shared → Prop} {s : Shared} {h₀ : Heap} {L a b : Addr} {news : List (Addr × Obj)} {x : Str} {n k : Int} {t1 t2 t3 t4 : Tok} {Q : Value → Shared → Prop} (N : News h₀ L s.heap news) (ha : (a, ({ cls := .type "tuple", data := .seq (List.toArray [.str x t1, .int n t2]) } : Obj)) ∈ news) (hb : (b, ({ cls := .type "tuple", data := .seq (List.toArray [.str x t3, .int k t4]) } : Obj)) ∈ news) (e : k = n) (ok : PyData.strOk x = true) (hu : A.units + 64 < cLine)
    (h : Q (.bool false) s) : wpAny (model PG w) A (compareOp .NotEq (.ref a) (.ref b)) Q E s := by
  subst e
  exact ne_tup (N _ ha).1 (N _ hb).1 ok hu h
theorem ne_same {w : World} {A : Around} {E : Value → Shared → Prop} {s : Shared} {a b : Int} {t u : Tok} {Q : Value → Shared → Prop} (e : a = b) (h : Q (.bool false) s) : wpAny (model PG w) A (compareOp .NotEq (.int a t) (.int b u)) Q E s := by
  subst e
  exact PyProof.Rows.ne_int (by rw [bne_self_eq_false]; exact h)
theorem gt_not {w : World} {A : Around} {E : Value → Shared → Prop} {s : Shared} {a b : Int} {t u : Tok} {Q : Value → Shared → Prop} (e : a ≤ b) (h : Q (.bool false) s) : wpAny (model PG w) A (compareOp .Gt (.int a t) (.int b u)) Q E s := by
  refine PyProof.Rows.gt_int ?_
  rw [decide_eq_false (Int.not_lt.mpr e)]; exact h
theorem in_strs_no {w : World} {A : Around} {E : Value → Shared → Prop} {s : Shared} {h₀ : Heap} {L D : Addr} {news : List (Addr × Obj)} {ys : List Value} {e : Nat} {ss : List Str} {z : Str} {t : Tok} {Q : Value → Shared → Prop} (N : News h₀ L s.heap news) (hm : (D, listOf (List.toArray ys) e) ∈ news) (S : StrsAre ys ss) (hz : ss.any (· == z) = false) (h : Q (.bool false) s) :
    wpAny (model PG w) A (compareOp .In (.str z t) (.ref D)) Q E s := in_list_strs (News.isList N hm) S (by rw [hz]; exact h)
theorem far_ints {f : Str → Str → Int} {x : Str} : ∀ {vs : List Value} {ks : List Str} {ys : List Value}, StrsAre vs ks → Paired (fun v y => ∃ z tz ty, v = .str z tz ∧ y = .int (f x z) ty) (vs.filter fun v => match v with | .str z _ => decide (0 < f x z ∧ f x z < 99) | _ => false) ys → IntsAre ys (farOf f x ks)
  | _, _, ys, .nil, hP => by cases hP; exact .nil
  | _, _, ys, .cons z t S, hP => by
    unfold farOf
    by_cases h : (0 < f x z ∧ f x z < 99)
    · rw [List.filter_cons_of_pos (by simpa using h)] at hP
      rw [List.filter_cons_of_pos (by simpa using h), List.map_cons]
      cases hP with
      | cons q hP =>
        obtain ⟨z2, tz, ty, e1, rfl⟩ := q
        cases e1
        exact .cons _ _ (far_ints S hP)
    · rw [List.filter_cons_of_neg (by simpa using h)] at hP
      rw [List.filter_cons_of_neg (by simpa using h)]
      exact far_ints S hP
theorem near_names {par : Str → List Str} {x : Str} {T : List (Str × Nat)} {ys : List Str} {l : Str × Nat} (S : Sup par x T) (hp : par x = ys) (hn : ys.Nodup) (hx : x ∉ ys) : ((T ++ [l]).take ys.length).map (·.1) = ys := by
  subst hp
  have h := S.near hn hx
  have hle : (par x).length ≤ T.length := by
    have := congrArg List.length h
    rw [List.length_take, List.length_map] at this
    omega
  rw [List.take_append_of_le_length hle, h, List.map_map]
  exact List.map_id _
theorem next_row {par : Str → List Str} {x : Str} {T : List (Str × Nat)} {i n : Nat} {z : Str} (S : Sup par x T) (hz : T[i]? = some (z, n)) : ∃ r, (T ++ [(("ANY" : Str), lastN ((x, 0) :: T) + 1)])[i + 1]? = some r ∧ n ≤ r.2 := by
  obtain ⟨hlt, he⟩ := List.getElem?_eq_some_iff.mp hz
  by_cases h : i + 1 < T.length
  · refine ⟨T[i + 1], by rw [List.getElem?_append_left h, List.getElem?_eq_getElem h], ?_⟩
    have hm := S.mono
    rw [List.pairwise_cons] at hm
    have := List.pairwise_iff_getElem.mp hm.2 i (i + 1) hlt h (by omega)
    rw [he] at this
    exact this
  · refine ⟨(("ANY" : Str), lastN ((x, 0) :: T) + 1), by rw [List.getElem?_append_right (by omega)]; simp [show i + 1 - T.length = 0 by omega], ?_⟩
    have := lastN_ge S.mono (z, n) (.tail _ (List.mem_of_getElem? hz))
    show n ≤ lastN ((x, 0) :: T) + 1
    have h2 : n ≤ lastN ((x, 0) :: T) := this
    omega
theorem not_before {par : Str → List Str} {x : Str} {T : List (Str × Nat)} {i n : Nat} {z : Str} (S : Sup par x T) (hz : T[i]? = some (z, n)) : ((T.take i).map (·.1)).any (· == z) = false := by
  rw [Bool.eq_false_iff]
  intro h
  obtain ⟨y, hy, e⟩ := List.any_eq_true.mp h
  have e : y = z := by simpa using e
  subst e
  have hn := S.nodup
  rw [List.map_cons, List.nodup_cons] at hn
  obtain ⟨p, hp, e⟩ := List.mem_map.mp hy
  obtain ⟨j, hj, e2⟩ := List.mem_take_iff_getElem.mp hp
  have hj2 : j < i ∧ j < T.length := by omega
  have e3 : (T.map (·.1))[j]? = some y := by rw [List.getElem?_map, List.getElem?_eq_getElem hj2.2, e2, ← e]; rfl
  have e4 : (T.map (·.1))[i]? = some y := by rw [List.getElem?_map, hz]; rfl
  have := (List.getElem?_inj (by simpa using hj2.2) hn.2).mp (e3.trans e4.symm)
  omega
theorem tests_one {M : Model} {A : Around} {E : Value → Shared → Prop} {s₃ : Shared} {c : Expr} {ce : Env} {r : Bool} (h : wpAny M A (isTrue c ce (eval c ce)) (CT r s₃) E s₃) :
    wpAny M A (forIn [c] true fun c r => if r = true then do let ok ← isTrue c ce (eval c ce); pure (ForInStep.yield ok) else pure (ForInStep.yield r)) (CT r s₃) E s₃ := by
  rw [List.forIn_cons]
  refine wpAny_bind ?_
  rw [if_pos rfl]
  refine wpAny_bind (wpAny_mono h (fun ok s₄ hq => wpAny_pure ?_) fun _ _ e => e)
  try dsimp only
  rw [List.forIn_nil]
  exact wpAny_pure hq
theorem tests_nil {M : Model} {A : Around} {E : Value → Shared → Prop} {s₃ : Shared} {ce : Env} :
    wpAny M A (forIn ([] : List Expr) true fun c r => if r = true then do let ok ← isTrue c ce (eval c ce); pure (ForInStep.yield ok) else pure (ForInStep.yield r)) (CT true s₃) E s₃ := by
  rw [List.forIn_nil]
  exact wpAny_pure ⟨rfl, s₃.heap, s₃.toks, rfl, fun _ _ e => e⟩
theorem ld_cellC {M : Model} {A : Around} {E : Value → Shared → Prop} {s : Shared} {scope : Scope} {cl : List (Str × Addr)} {C : Addr} {env : Env} {x : Str} {pos : Pos} {c : Addr} {o : Obj} {v : Value} {h₀ : Heap} {L : Addr} {news : List (Addr × Obj)} {Q : Value → Shared → Prop}
    (N : News h₀ L s.heap news) (hc : cl.lookup x = some c) (hm : (c, o) ∈ news) (hd : o.data = .cell (some v)) (h : Q v s)
    (hk : (compEnvC scope cl C env).scope.kind = .function) (hl : (compEnvC scope cl C env).kindOf x = some .cell) (hb : (x == ("__debug__" : Str)) = false) :
    wpAny M A (eval (.Name x pos) (compEnvC scope cl C env)) Q E s := wpAny_Name (wpAny_loadName_cell hk hl hc ⟨o, N.get hm, hd⟩ h) hb
/-- the name of a row -/
noncomputable def FstR (H : List (Addr × Obj)) (v y : Value) : Prop := ∃ T z tz n tn tz', v = .ref T ∧ (T, tupO z tz n tn) ∈ H ∧ y = .str z tz'
theorem fst_names {H : List (Addr × Obj)} {h₀ h : Heap} {L : Addr} {news : List (Addr × Obj)} (N : News h₀ L h news) (hH : ∀ p ∈ H, p ∈ news) : ∀ {vs : List Value} {R : List (Str × Nat)} {ys : List Value}, All2 (RowV H) vs R → Paired (FstR H) (vs.filter fun _ => true) ys → StrsAre ys (R.map (·.1))
  | [], _, ys, hA, hP => by
    cases hA
    cases hP
    exact .nil
  | v :: vs, _, ys, hA, hP => by
    cases hA with
    | cons r hA =>
      cases hP with
      | cons q hP =>
        obtain ⟨T, t, t', rfl, m⟩ := r
        obtain ⟨T2, z, tz, n, tn, tz', e1, m2, rfl⟩ := q
        cases e1
        have e := (N _ (hH _ m)).1.symm.trans (N _ (hH _ m2)).1
        simp at e
        rw [← e.1.1]
        exact .cons _ _ (fst_names N hH hA hP)
theorem right_spec {w : World} {s : Shared} {Q : Value → Shared → Prop} {g : Heap} {mg mb : Str → Option Value} {t c u nd wd : Addr} {D U NN : List (Str × List Str)} {f : Str → Str → Int}
    (X : (KF w.params).In g) (T : TR mg mb g) (st : Sub g s.heap) (HT : TabAt w s.heap t c u D U) (HN : Adj w s.heap nd NN) (HW : WaysAt w s.heap wd (NN.map (·.1)) f) (hB : ∀ x k, (bst (parentsOf D U) x k).length ≤ 100)
    (G : GoodG (parentsOf D U) NN) (W : WaysOk (parentsOf D U) (NN.map (·.1)) f)
    (h : ∀ h' tk, Sub s.heap h' → Q (.bool true) { s with heap := h', toks := tk }) :
    wpAny (model PG w) (AL 6) (call (.ref 205) [.ref t, .ref nd, .ref wd]) Q (fun _ _ => False) s := by
  have X' := Frag.In.keeps X st
  have T' := TopRead.keeps T st
  clear X T
  refine TabAt.elim HT ?_
  intro td te1 te2 tk1 tk2 tn kc0 ku0 I _ _ _ _ _ _ _
  obtain ⟨⟨kd, dd, ed⟩, sd⟩ := id HN
  obtain ⟨⟨xs, DW, RW⟩, sw⟩ := HW
  have hnd : (kd.map (·.1)).Nodup := let ⟨_, _, _, _, _, _, _, _, hn⟩ := dd; hn
  have hkl : kd.length ≤ 100000 := by rw [ed.length]; have := G.small; omega
  (refine' enterX (by with_reducible assumption) (by with_reducible assumption) (by k_is) (by k_is) (by decide) (by rfl) (by rfl) (by decide +kernel) ?_ (by rfl) (by rfl) (by rfl))
  intro h1 tk1 cells F N Y
  have hY := CellsAre.two Y
  obtain ⟨o1, o2, hE, d1, d2⟩ := hY
  subst hE
  clear Y
  dsimp only at *
  (repeat' (first | ((with_reducible show wpAny _ _ (execs (List.cons (PySem.Stmt.If _ _ _ _) _) _) _ _ _); (try dsimp only); (with_reducible refine execs_cut ?_); intro Q1'c hc'c) | ((with_reducible refine execs_cut ?_); intro Q1'c hc'c) | walk1 | (dsimp only; walk1) | ((with_reducible show Q1'c _ _); first | ((with_reducible refine hc'c.n _ ?_); clear hc'c Q1'c; (try dsimp only)) | ((with_reducible refine hc'c.f _ _ (by first | (with_reducible exact retN) | (intro h; cases h)) ?_); clear hc'c Q1'c; (try dsimp only))) | fail "no step"))
  refine loopK (news₀ := [(_, o1)]) (held := [(_, o2)]) ["above", "far", "at", "name", "by", "other", "due"] (fun _ nx => ∃ (o : Obj) (v : Option Value), nx = [(s.heap.objs.size + 1 + 1, o)] ∧ o.data = .cell v) rfl sd (.inl dd) F N ⟨o1, _, rfl, by with_reducible assumption⟩ ?_ ?_
  · rintro i x v t' u1 news₁ h2 tk2 I2 oI hk ⟨oc, vc, rfl, hoc⟩ hI F2 N2
    replace F2 : Fr s.heap s.heap.objs.size h2 _ := F2
    replace N2 : News s.heap s.heap.objs.size h2 _ := N2
    obtain ⟨ys, hy, l, rfl, Wy⟩ := ed.get hk
    have hvk := valueAt_of_get hnd hk
    have hm := List.mem_of_getElem? hy
    have hx : x ∈ NN.map (·.1) := List.mem_map.mpr ⟨_, hm, rfl⟩
    have hxa : (x == ("ANY" : Str)) = false := any_false fun e => G.noAny (e ▸ hx)
    simp only [List.cons_append, List.nil_append] at N2
    obtain ⟨hI1, hI2, _⟩ := hI
    clear F N
    (repeat' (first | ((with_reducible show wpAny _ _ (execs (List.cons (PySem.Stmt.If _ _ _ _) _) _) _ _ _); (try dsimp only); (with_reducible refine execs_cut ?_); intro Q1'c hc'c) | ((with_reducible refine execs_cut ?_); intro Q1'c hc'c) | ((with_reducible show wpAny _ _ (call (Value.ref 151) _ _) _ _ _); refine' wpAL (supers_good (by with_reducible assumption) (by with_reducible assumption) (by exact Fr.keep (by with_reducible assumption)) (by exact TabAt.up (by with_reducible assumption) (Fr.keep (by with_reducible assumption))) (by with_reducible assumption) (by exact GoodG.hA (by with_reducible assumption)) (by with_reducible assumption) ?_) (by rfl) (by exact Nat.le_of_ble_eq_true rfl) (by exact Nat.le_of_ble_eq_true rfl) (by rfl) (by rfl); intro h'q tk'q a'q vs'q e'q T'q tl'q s'q f'q S'q b'q z'q; (have y'q := rows_le S'q z'q); (have q'q := led_news2 (by with_reducible assumption) (by with_reducible assumption) s'q f'q); have F'q := q'q.1; have N'q := q'q.2.1; have l'q := q'q.2.2; clear q'q; (try simp only [List.cons_append, List.nil_append, List.append_nil] at N'q); (try simp only [AllApart, AllNe, and_true] at l'q); k_sweep) | walk1 | (dsimp only; walk1) | ((with_reducible show Q1'c _ _); first | ((with_reducible refine hc'c.n _ ?_); clear hc'c Q1'c; (try dsimp only)) | ((with_reducible refine hc'c.f _ _ (by first | (with_reducible exact retN) | (intro h; cases h)) ?_); clear hc'c Q1'c; (try dsimp only))) | fail "no step"))
    rename Fr _ _ _ _ => F
    rename News _ _ _ _ => N
    rename List (Addr × Obj) => tl
    rename List (Str × Nat) => T
    rename List Value => vs
    rename Addr => a
    refine compDA (fun v => match v with | .str z _ => decide (0 < f x z ∧ f x z < 99) | _ => false) (fun v y => ∃ z tz ty, v = .str z tz ∧ y = .int (f x z) ty) rfl sd dd hkl F N ⟨?_, ?_⟩ ?_
    · rintro j v C oC m3 s3 E' hj ⟨z, vz, tz, hz, rfl⟩ F3 N3 hC hm3 hk3
      obtain ⟨zs, hzs, _⟩ := ed.get hz
      have hzn : z ∈ NN.map (·.1) := List.mem_map.mpr ⟨_, List.mem_of_getElem? hzs, rfl⟩
      obtain ⟨tv, hv⟩ := RW.vals x hx z hzn
      refine tests_one ?_
      clear F N
      (repeat' (first | ((with_reducible show wpAny _ _ (execs (List.cons (PySem.Stmt.If _ _ _ _) _) _) _ _ _); (try dsimp only); (with_reducible refine execs_cut ?_); intro Q1'c hc'c) | ((with_reducible refine execs_cut ?_); intro Q1'c hc'c) | (with_reducible ((with_reducible show wpAny _ _ (eval (Expr.Name _ _) (compEnvC _ _ _ _)) _ _ _); k_dflt (refine' ld_cellC (by with_reducible assumption) (by rfl) (by k_mem) (by assumption) ?_ (by rfl) (by rfl) (by decide)))) | (with_reducible ((with_reducible show wpAny _ _ (newTuple _) _ _ _); k_dflt (refine' newTuple_sub (by with_reducible assumption) (by with_reducible assumption) ?_ (by kmk_size)); intro D'q h'q F'q N'q l1 k'q; (try k_lt l1); (try k_sweep))) | (with_reducible ((with_reducible show wpAny _ _ (subscriptTail _ _ (Value.ref _) (Value.ref _)) _ _ _); k_dflt (refine' item_waysB (by exact Nat.le_of_ble_eq_true rfl) (by with_reducible assumption) (by with_reducible assumption) (by with_reducible assumption) (by k_mem) (by with_reducible assumption) ?_ (by with_unfolding_all rfl) (by intro _; with_unfolding_all rfl)))) | walk1 | (dsimp only; walk1) | ((with_reducible show Q1'c _ _); first | ((with_reducible refine hc'c.n _ ?_); clear hc'c Q1'c; (try dsimp only)) | ((with_reducible refine hc'c.f _ _ (by first | (with_reducible exact retN) | (intro h; cases h)) ?_); clear hc'c Q1'c; (try dsimp only))) | fail "no step"))
      · rename (0 : Int) < f x z => h0
        refine CT.intro ?_ (by with_reducible assumption)
        simp only [h0, true_and]
      · rename ¬ (0 : Int) < f x z => h0
        refine CT.intro ?_ (by with_reducible assumption)
        simp only [h0, false_and, decide_false]
    · rintro j v C oC m3 s3 E' hj ⟨z, vz, tz, hz, rfl⟩ hp F3 N3 hC hm3 hk3
      obtain ⟨zs, hzs, _⟩ := ed.get hz
      have hzn : z ∈ NN.map (·.1) := List.mem_map.mpr ⟨_, List.mem_of_getElem? hzs, rfl⟩
      obtain ⟨tv, hv⟩ := RW.vals x hx z hzn
      clear F N
      (repeat' (first | ((with_reducible show wpAny _ _ (execs (List.cons (PySem.Stmt.If _ _ _ _) _) _) _ _ _); (try dsimp only); (with_reducible refine execs_cut ?_); intro Q1'c hc'c) | ((with_reducible refine execs_cut ?_); intro Q1'c hc'c) | (with_reducible ((with_reducible show wpAny _ _ (eval (Expr.Name _ _) (compEnvC _ _ _ _)) _ _ _); k_dflt (refine' ld_cellC (by with_reducible assumption) (by rfl) (by k_mem) (by assumption) ?_ (by rfl) (by rfl) (by decide)))) | (with_reducible ((with_reducible show wpAny _ _ (newTuple _) _ _ _); k_dflt (refine' newTuple_sub (by with_reducible assumption) (by with_reducible assumption) ?_ (by kmk_size)); intro D'q h'q F'q N'q l1 k'q; (try k_lt l1); (try k_sweep))) | (with_reducible ((with_reducible show wpAny _ _ (subscriptTail _ _ (Value.ref _) (Value.ref _)) _ _ _); k_dflt (refine' item_waysB (by exact Nat.le_of_ble_eq_true rfl) (by with_reducible assumption) (by with_reducible assumption) (by with_reducible assumption) (by k_mem) (by with_reducible assumption) ?_ (by with_unfolding_all rfl) (by intro _; with_unfolding_all rfl)))) | walk1 | (dsimp only; walk1) | ((with_reducible show Q1'c _ _); first | ((with_reducible refine hc'c.n _ ?_); clear hc'c Q1'c; (try dsimp only)) | ((with_reducible refine hc'c.f _ _ (by first | (with_reducible exact retN) | (intro h; cases h)) ?_); clear hc'c Q1'c; (try dsimp only))) | fail "no step"))
      exact CE.intro ⟨z, tz, tv, rfl, rfl⟩ (by with_reducible assumption)
    · intro Df ef vsf ysf h3 tk3 F3 N3 nef Sf Pf
      try dsimp only
      clear F N
      replace F3 : Fr s.heap s.heap.objs.size h3 _ := F3
      replace N3 : News s.heap s.heap.objs.size h3 _ := N3
      rename All2 _ _ _ => hA
      rename Sup _ _ _ => SS
      have hAl := hA.length
      have hfar : IntsAre ysf (farOf f x (NN.map (·.1))) := by rw [← ed.keys]; exact far_ints Sf Pf
      (repeat' (first | ((with_reducible show wpAny _ _ (execs (List.cons (PySem.Stmt.If _ _ _ _) _) _) _ _ _); (try dsimp only); (with_reducible refine execs_cut ?_); intro Q1'c hc'c) | ((with_reducible refine execs_cut ?_); intro Q1'c hc'c) | ((with_reducible show wpAny _ _ (subscriptTail _ _ _ _) _ _ _); first | (with_reducible ((with_reducible show wpAny _ _ (subscriptTail _ (PySem.Expr.Slice _ _ none _) (Value.ref _) (Value.ref _)) _ _ _); k_dflt (refine' slice_take (by with_reducible assumption) (by with_reducible assumption) (by k_mem) (by with_reducible assumption) ?_ (by with_unfolding_all rfl) (by kmk_pure)); intro D'q h'q F'q N'q l1; (try k_lt l1); (try k_sweep))) | (with_reducible ((with_reducible show wpAny _ _ (subscriptTail _ _ (Value.ref _) (Value.str _ _)) _ _ _); refine' item_dict (by with_reducible assumption) (by with_reducible assumption) (by with_reducible assumption) ?_ (by with_unfolding_all rfl)))) | (with_reducible ((with_reducible show wpAny _ _ (call (Value.builtin "len") [Value.ref _]) _ _ _); k_dflt (refine' len_words (by with_reducible assumption) (by with_reducible assumption) ?_))) | walk1 | (dsimp only; walk1) | ((with_reducible show Q1'c _ _); first | ((with_reducible refine hc'c.n _ ?_); clear hc'c Q1'c; (try dsimp only)) | ((with_reducible refine hc'c.f _ _ (by first | (with_reducible exact retN) | (intro h; cases h)) ?_); clear hc'c Q1'c; (try dsimp only))) | fail "no step"))
      rename Fr _ _ _ _ => F4
      rename News _ _ _ _ => N4
      have hA2 := hA.take ys.length
      refine compL (fun _ => true) (FstR tl) rfl (.inr ⟨0, .head _⟩) (by rw [hA2.length]; simp; omega) F4 N4 ⟨?_, ?_⟩ ?_
      · rintro j v C oC m3 s3 E' hj hv F5 N5 hC hm3 hk3
        exact tests_nil
      · rintro j v C oC m3 s3 E' hj hv _ F5 N5 hC hm3 hk3
        refine rowGet hA2 hv ?_
        intro z n T1 tz tn hz ev1 hT1
        cases ev1
        replace hT1 : (T1, tupO z tz n tn) ∈ tl := hT1
        clear F4 N4
        (repeat' (first | ((with_reducible show wpAny _ _ (execs (List.cons (PySem.Stmt.If _ _ _ _) _) _) _ _ _); (try dsimp only); (with_reducible refine execs_cut ?_); intro Q1'c hc'c) | ((with_reducible refine execs_cut ?_); intro Q1'c hc'c) | walk1 | (dsimp only; walk1) | ((with_reducible show Q1'c _ _); first | ((with_reducible refine hc'c.n _ ?_); clear hc'c Q1'c; (try dsimp only)) | ((with_reducible refine hc'c.f _ _ (by first | (with_reducible exact retN) | (intro h; cases h)) ?_); clear hc'c Q1'c; (try dsimp only))) | fail "no step"))
        exact CE.intro ⟨T1, z, tz, n, tn, tz, rfl, hT1, rfl⟩ (fun _ _ e => e)
      · intro Dr er ysr h5 tk5 F5 N5 ner Pr
        have Sr : StrsAre ysr ys := by
          have z := fst_names N5 (by walk_at "SUB") hA2 Pr
          rw [near_names SS (G.pars _ hm) (G.nd _ hm).1 (G.nd _ hm).2] at z
          exact z
        have oky : ∀ y ∈ ys, PyData.strOk y = true := G.okS _ hm
        obtain ⟨va, hva, Ta, tya, tna, rfl, hTa⟩ : ∃ va, vs.getLast? = some va ∧ RowV tl va (("ANY" : Str), lastN ((x, 0) :: T) + 1) := by
          obtain ⟨va, h1, h2⟩ := hA.get (i := T.length) (b := (("ANY" : Str), lastN ((x, 0) :: T) + 1)) (by simp)
          refine ⟨va, ?_, h2⟩
          rw [List.getLast?_eq_getElem?, hAl]
          simpa using h1
        replace hTa : (Ta, tupO "ANY" tya (lastN ((x, 0) :: T) + 1) tna) ∈ tl := hTa
        have hvl : vs.length = T.length + 1 := by rw [hAl]; simp
        have hfT : ysf.length = T.length := by rw [hfar.length]; exact SS.far_len G W hx
        clear F4 N4
        replace F5 : Fr s.heap s.heap.objs.size h5 _ := F5
        replace N5 : News s.heap s.heap.objs.size h5 _ := N5
        (repeat' (first | ((with_reducible show wpAny _ _ (execs (List.cons (PySem.Stmt.If _ _ _ _) _) _) _ _ _); (try dsimp only); (with_reducible refine execs_cut ?_); intro Q1'c hc'c) | ((with_reducible refine execs_cut ?_); intro Q1'c hc'c) | (with_reducible ((with_reducible show wpAny _ _ (newTuple _) _ _ _); k_dflt (refine' newTuple_sub (by with_reducible assumption) (by with_reducible assumption) ?_ (by kmk_size)); intro D'q h'q F'q N'q l1 k'q; (try k_lt l1); (try k_sweep))) | ((with_reducible show wpAny _ _ (subscriptTail _ _ _ _) _ _ _); first | (with_reducible ((with_reducible show wpAny _ _ (subscriptTail (PySem.Expr.Name _ _) (PySem.Expr.UnaryOp _ _ _) (Value.ref _) (Value.int _ _)) _ _ _); k_dflt (refine' item_last (by with_reducible assumption) (by k_mem) (by with_reducible assumption) ?_ (by with_unfolding_all rfl)))) | (with_reducible ((with_reducible show wpAny _ _ (subscriptTail _ _ (Value.ref _) (Value.str _ _)) _ _ _); refine' item_dict (by with_reducible assumption) (by with_reducible assumption) (by with_reducible assumption) ?_ (by with_unfolding_all rfl)))) | ((with_reducible show wpAny _ _ (call _ _ _) _ _ _); first | (with_reducible ((with_reducible show wpAny _ _ (call (Value.builtin "max") [Value.ref _]) _ _ _); k_dflt (refine' max_far (by rfl) (by with_reducible assumption) (by with_reducible assumption) (by k_mem) (by with_reducible assumption) (by with_reducible assumption) (by with_reducible assumption) (by with_reducible assumption) (by with_reducible assumption) ?_); intro h'q tk'q t'q F'q N'q; k_sweep)) | (with_reducible ((with_reducible show wpAny _ _ (call (Value.builtin "len") [Value.ref _]) _ _ _); k_dflt (refine' len_led (by with_reducible assumption) (by k_mem) (by omega) ?_)))) | ((with_reducible show wpAny _ _ (compareOp _ _ _) _ _ _); first | (with_reducible ((with_reducible show wpAny _ _ (compareOp .NotEq (Value.int _ _) (Value.int _ _)) _ _ _); k_dflt (refine' ne_same (by omega) ?_))) | (with_reducible ((with_reducible show wpAny _ _ (compareOp .NotEq (Value.ref _) (Value.ref _)) _ _ _); k_dflt (refine' ne_tup_led (by with_reducible assumption) (by k_mem) (by k_mem) (by omega) (by decide +kernel) (by exact Nat.le_of_ble_eq_true rfl) ?_))) | (with_reducible ((with_reducible show wpAny _ _ (compareOp .NotEq (Value.ref _) (Value.ref _)) _ _ _); k_dflt (refine' ne_words_led (by with_reducible assumption) (by with_reducible assumption) (by k_mem) (by with_reducible assumption) (by with_reducible assumption) (by with_reducible assumption) (by exact Nat.le_of_ble_eq_true rfl) ?_)))) | (with_reducible ((with_reducible show wpAny _ _ (binaryOp .Add (Value.ref _) (Value.ref _)) _ _ _); k_dflt (refine' add_lists_led (by with_reducible assumption) (by with_reducible assumption) (by k_mem) (by k_mem) (by (simp only [List.length_cons, List.length_nil]; omega)) ?_); intro D'q h'q F'q N'q l1; (try k_lt l1); (try simp only [List.cons_append, List.nil_append] at N'q); (try k_sweep))) | walk1 | (dsimp only; walk1) | ((with_reducible show Q1'c _ _); first | ((with_reducible refine hc'c.n _ ?_); clear hc'c Q1'c; (try dsimp only)) | ((with_reducible refine hc'c.f _ _ (by first | (with_reducible exact retN) | (intro h; cases h)) ?_); clear hc'c Q1'c; (try dsimp only))) | fail "no step"))
        rename Fr _ _ _ _ => F6
        rename News _ _ _ _ => N6
        rename IsRange _ _ _ _ _ _ _ _ => hr
        refine loopR (news₀ := []) (held := _) (n := T.length) ["at", "name", "by"] (fun _ nx => nx = []) rfl hr (by omega) (by have := SS.rows G W hx; omega) F6 N6 rfl ?_ ?_
        · rintro i7 t7 u7 news7 h7 tk7 I7 oI7 hi7 rfl hI7 F7 N7
          replace F7 : Fr s.heap s.heap.objs.size h7 _ := F7
          replace N7 : News s.heap s.heap.objs.size h7 _ := N7
          simp only [List.nil_append] at N7
          obtain ⟨⟨z, n⟩, hz⟩ : ∃ r, T[i7]? = some r := ⟨_, List.getElem?_eq_getElem hi7⟩
          refine rowGetB (i := i7) (r := (z, n)) hA (by rw [List.getElem?_append_left hi7]; exact hz) ?_
          intro v1 T1 tz1 tn1 hv1 ev1 hT1
          cases ev1
          obtain ⟨⟨z2, n2⟩, hz2, hn2⟩ : ∃ r, (T ++ [(("ANY" : Str), lastN ((x, 0) :: T) + 1)])[i7 + 1]? = some r ∧ n ≤ r.2 := next_row SS hz
          refine rowGetB hA hz2 ?_
          intro v2 T2 tz2 tn2 hv2 ev2 hT2
          cases ev2
          replace hT1 : (T1, tupO z tz1 n tn1) ∈ tl := hT1
          replace hT2 : (T2, tupO z2 tz2 n2 tn2) ∈ tl := hT2
          have hzT := List.mem_of_getElem? hz
          obtain ⟨hzn, hzf, _⟩ := SS.rows G W hx (z, n) (.tail _ hzT)
          obtain ⟨tv, hv⟩ := RW.vals x hx z hzn
          have hzf : f x z = (n : Int) := hzf
          rw [hzf] at hv
          have hx1 : vs[((i7 : Int)).toNat]? = some (.ref T1) := hv1
          have hx2 : vs[((i7 : Int) + 1).toNat]? = some (.ref T2) := hv2
          clear F6 N6 hr
          (repeat' (first | ((with_reducible show wpAny _ _ (execs (List.cons (PySem.Stmt.If _ _ _ _) _) _) _ _ _); (try dsimp only); (with_reducible refine execs_cut ?_); intro Q1'c hc'c) | ((with_reducible refine execs_cut ?_); intro Q1'c hc'c) | (with_reducible ((with_reducible show wpAny _ _ (newTuple _) _ _ _); k_dflt (refine' newTuple_sub (by with_reducible assumption) (by with_reducible assumption) ?_ (by kmk_size)); intro D'q h'q F'q N'q l1 k'q; (try k_lt l1); (try k_sweep))) | ((with_reducible show wpAny _ _ (compareOp _ _ _) _ _ _); first | (with_reducible ((with_reducible show wpAny _ _ (compareOp .Gt (Value.int _ _) (Value.int _ _)) _ _ _); k_dflt (refine' gt_not (by omega) ?_))) | (with_reducible ((with_reducible show wpAny _ _ (compareOp .NotEq (Value.int _ _) (Value.int _ _)) _ _ _); k_dflt (refine' ne_same (by omega) ?_)))) | ((with_reducible show wpAny _ _ (subscriptTail _ _ _ _) _ _ _); first | (with_reducible ((with_reducible show wpAny _ _ (subscriptTail _ (PySem.Expr.Slice _ _ none _) (Value.ref _) (Value.ref _)) _ _ _); k_dflt (refine' slice_take (by with_reducible assumption) (by with_reducible assumption) (by k_mem) (by with_reducible assumption) ?_ (by with_unfolding_all rfl) (by kmk_pure)); intro D'q h'q F'q N'q l1; (try k_lt l1); (try k_sweep))) | (with_reducible ((with_reducible show wpAny _ _ (subscriptTail _ _ (Value.ref _) (Value.ref _)) _ _ _); k_dflt (refine' item_waysB (by exact Nat.le_of_ble_eq_true rfl) (by with_reducible assumption) (by with_reducible assumption) (by with_reducible assumption) (by k_mem) (by with_reducible assumption) ?_ (by with_unfolding_all rfl) (by intro _; with_unfolding_all rfl)))) | (with_reducible ((with_reducible show wpAny _ _ (subscriptTail _ _ (Value.ref _) (Value.int _ _)) _ _ _); k_dflt (refine' item_led_list (by with_reducible assumption) (by with_reducible assumption) (by k_mem) (by omega) (by omega) ?_ (by with_unfolding_all rfl))))) | walk1 | (dsimp only; walk1) | ((with_reducible show Q1'c _ _); first | ((with_reducible refine hc'c.n _ ?_); clear hc'c Q1'c; (try dsimp only)) | ((with_reducible refine hc'c.f _ _ (by first | (with_reducible exact retN) | (intro h; cases h)) ?_); clear hc'c Q1'c; (try dsimp only))) | fail "no step"))
          rename Fr _ _ _ _ => F8
          rename News _ _ _ _ => N8
          have hA8 := hA.take i7
          refine compL (fun _ => true) (FstR tl) rfl (.inr ⟨0, .head _⟩) (by rw [hA8.length]; simp; omega) F8 N8 ⟨?_, ?_⟩ ?_
          · rintro j v C oC m3 s3 E' hj hv F5 N5 hC hm3 hk3
            exact tests_nil
          · rintro j v C oC m3 s3 E' hj hv _ F5 N5 hC hm3 hk3
            refine rowGet hA8 hv ?_
            intro z n T1 tz tn hz ev1 hT1
            cases ev1
            replace hT1 : (T1, tupO z tz n tn) ∈ tl := hT1
            clear F8 N8
            (repeat' (first | ((with_reducible show wpAny _ _ (execs (List.cons (PySem.Stmt.If _ _ _ _) _) _) _ _ _); (try dsimp only); (with_reducible refine execs_cut ?_); intro Q1'c hc'c) | ((with_reducible refine execs_cut ?_); intro Q1'c hc'c) | walk1 | (dsimp only; walk1) | ((with_reducible show Q1'c _ _); first | ((with_reducible refine hc'c.n _ ?_); clear hc'c Q1'c; (try dsimp only)) | ((with_reducible refine hc'c.f _ _ (by first | (with_reducible exact retN) | (intro h; cases h)) ?_); clear hc'c Q1'c; (try dsimp only))) | fail "no step"))
            exact CE.intro ⟨T1, z, tz, n, tn, tz, rfl, hT1, rfl⟩ (fun _ _ e => e)
          · intro Dr8 er8 ysr8 h9 tk9 F9 N9 ner9 Pr9
            have Sr9 := fst_names N9 (by walk_at "SUB") hA8 Pr9
            rw [List.take_append_of_le_length (by omega)] at Sr9
            have hnot : ((T.take i7).map (·.1)).any (· == z) = false := not_before SS hz
            clear F8 N8
            replace F9 : Fr s.heap s.heap.objs.size h9 _ := F9
            replace N9 : News s.heap s.heap.objs.size h9 _ := N9
            (repeat' (first | ((with_reducible show wpAny _ _ (execs (List.cons (PySem.Stmt.If _ _ _ _) _) _) _ _ _); (try dsimp only); (with_reducible refine execs_cut ?_); intro Q1'c hc'c) | ((with_reducible refine execs_cut ?_); intro Q1'c hc'c) | (with_reducible ((with_reducible show wpAny _ _ (compareOp .In (Value.str _ _) (Value.ref _)) _ _ _); k_dflt (refine' in_strs_no (by with_reducible assumption) (by k_mem) (by with_reducible assumption) (by with_reducible assumption) ?_))) | walk1 | (dsimp only; walk1) | ((with_reducible show Q1'c _ _); first | ((with_reducible refine hc'c.n _ ?_); clear hc'c Q1'c; (try dsimp only)) | ((with_reducible refine hc'c.f _ _ (by first | (with_reducible exact retN) | (intro h; cases h)) ?_); clear hc'c Q1'c; (try dsimp only))) | fail "no step"))
            all_goals (rename Fr _ _ _ _ => F10; rename News _ _ _ _ => N10)
            exact TE.c F10 N10 (by walk_at "SUB") (by walk_at "SAME3")
        · rintro u7 news7 h7 tk7 rfl F7 N7
          replace F7 : Fr s.heap s.heap.objs.size h7 _ := F7
          replace N7 : News s.heap s.heap.objs.size h7 _ := N7
          simp only [List.nil_append] at N7
          clear F6 N6 hr
          try dsimp only
          (repeat' (first | ((with_reducible show wpAny _ _ (execs (List.cons (PySem.Stmt.If _ _ _ _) _) _) _ _ _); (try dsimp only); (with_reducible refine execs_cut ?_); intro Q1'c hc'c) | ((with_reducible refine execs_cut ?_); intro Q1'c hc'c) | walk1 | (dsimp only; walk1) | ((with_reducible show Q1'c _ _); first | ((with_reducible refine hc'c.n _ ?_); clear hc'c Q1'c; (try dsimp only)) | ((with_reducible refine hc'c.f _ _ (by first | (with_reducible exact retN) | (intro h; cases h)) ?_); clear hc'c Q1'c; (try dsimp only))) | fail "no step"))
          refine loopK (news₀ := []) (held := _) ["other", "due"] (fun _ nx => nx = []) rfl sd (.inl dd) F7 N7 rfl ?_ ?_
          · rintro i8 z v8 t8 u8 news8 h8 tk8 I8 oI8 hk8 rfl hI8 F8 N8
            replace F8 : Fr s.heap s.heap.objs.size h8 _ := F8
            replace N8 : News s.heap s.heap.objs.size h8 _ := N8
            simp only [List.nil_append] at N8
            obtain ⟨zs, hzs, _⟩ := ed.get hk8
            have hzn : z ∈ NN.map (·.1) := List.mem_map.mpr ⟨_, List.mem_of_getElem? hzs, rfl⟩
            obtain ⟨tv, hv⟩ := RW.vals x hx z hzn
            clear F7 N7
            by_cases hf : f x z < 99
            · (repeat' (first | ((with_reducible show wpAny _ _ (execs (List.cons (PySem.Stmt.If _ _ _ _) _) _) _ _ _); (try dsimp only); (with_reducible refine execs_cut ?_); intro Q1'c hc'c) | ((with_reducible refine execs_cut ?_); intro Q1'c hc'c) | (with_reducible ((with_reducible show wpAny _ _ (newTuple _) _ _ _); k_dflt (refine' newTuple_sub (by with_reducible assumption) (by with_reducible assumption) ?_ (by kmk_size)); intro D'q h'q F'q N'q l1 k'q; (try k_lt l1); (try k_sweep))) | (with_reducible ((with_reducible show wpAny _ _ (compareOp .NotEq (Value.int _ _) (Value.int _ _)) _ _ _); k_dflt (refine' ne_same (by omega) ?_))) | ((with_reducible show wpAny _ _ (call (Value.ref 158) _ _) _ _ _); refine' wpAL (dist_yes (by with_reducible assumption) (by with_reducible assumption) (by exact Fr.keep (by with_reducible assumption)) (by exact TabAt.up (by with_reducible assumption) (Fr.keep (by with_reducible assumption))) (by with_reducible assumption) (by with_reducible assumption) (by with_reducible assumption) (by with_reducible assumption) (by with_reducible assumption) (by with_reducible assumption) ?_) (by rfl) (by exact Nat.le_of_ble_eq_true rfl) (by exact Nat.le_of_ble_eq_true rfl) (by rfl) (by rfl); intro h'q tk'q t'q s'q; (have q'q := led_old (by with_reducible assumption) (by with_reducible assumption) s'q); have F'q := q'q.1; have N'q := q'q.2; clear q'q; k_sweep) | (with_reducible ((with_reducible show wpAny _ _ (subscriptTail _ _ (Value.ref _) (Value.ref _)) _ _ _); k_dflt (refine' item_waysB (by exact Nat.le_of_ble_eq_true rfl) (by with_reducible assumption) (by with_reducible assumption) (by with_reducible assumption) (by k_mem) (by with_reducible assumption) ?_ (by with_unfolding_all rfl) (by intro _; with_unfolding_all rfl)))) | walk1 | (dsimp only; walk1) | ((with_reducible show Q1'c _ _); first | ((with_reducible refine hc'c.n _ ?_); clear hc'c Q1'c; (try dsimp only)) | ((with_reducible refine hc'c.f _ _ (by first | (with_reducible exact retN) | (intro h; cases h)) ?_); clear hc'c Q1'c; (try dsimp only))) | fail "no step"))
              rename Fr _ _ _ _ => F10
              rename News _ _ _ _ => N10
              exact TE.c F10 N10 (by walk_at "SUB") (by walk_at "SAME3")
            · (repeat' (first | ((with_reducible show wpAny _ _ (execs (List.cons (PySem.Stmt.If _ _ _ _) _) _) _ _ _); (try dsimp only); (with_reducible refine execs_cut ?_); intro Q1'c hc'c) | ((with_reducible refine execs_cut ?_); intro Q1'c hc'c) | (with_reducible ((with_reducible show wpAny _ _ (newTuple _) _ _ _); k_dflt (refine' newTuple_sub (by with_reducible assumption) (by with_reducible assumption) ?_ (by kmk_size)); intro D'q h'q F'q N'q l1 k'q; (try k_lt l1); (try k_sweep))) | ((with_reducible show wpAny _ _ (call (Value.ref 158) _ _) _ _ _); refine' wpAL (dist_no (by with_reducible assumption) (by with_reducible assumption) (by exact Fr.keep (by with_reducible assumption)) (by exact TabAt.up (by with_reducible assumption) (Fr.keep (by with_reducible assumption))) (by with_reducible assumption) (by with_reducible assumption) (by with_reducible assumption) (by with_reducible assumption) (by with_reducible assumption) (by with_reducible assumption) ?_) (by rfl) (by exact Nat.le_of_ble_eq_true rfl) (by exact Nat.le_of_ble_eq_true rfl) (by rfl) (by rfl); intro h'q tk'q s'q; (have q'q := led_old (by with_reducible assumption) (by with_reducible assumption) s'q); have F'q := q'q.1; have N'q := q'q.2; clear q'q; k_sweep) | (with_reducible ((with_reducible show wpAny _ _ (subscriptTail _ _ (Value.ref _) (Value.ref _)) _ _ _); k_dflt (refine' item_waysB (by exact Nat.le_of_ble_eq_true rfl) (by with_reducible assumption) (by with_reducible assumption) (by with_reducible assumption) (by k_mem) (by with_reducible assumption) ?_ (by with_unfolding_all rfl) (by intro _; with_unfolding_all rfl)))) | walk1 | (dsimp only; walk1) | ((with_reducible show Q1'c _ _); first | ((with_reducible refine hc'c.n _ ?_); clear hc'c Q1'c; (try dsimp only)) | ((with_reducible refine hc'c.f _ _ (by first | (with_reducible exact retN) | (intro h; cases h)) ?_); clear hc'c Q1'c; (try dsimp only))) | fail "no step"))
              rename Fr _ _ _ _ => F10
              rename News _ _ _ _ => N10
              exact TE.c F10 N10 (by walk_at "SUB") (by walk_at "SAME3")
          · rintro u8 news8 h8 tk8 rfl F8 N8
            replace F8 : Fr s.heap s.heap.objs.size h8 _ := F8
            replace N8 : News s.heap s.heap.objs.size h8 _ := N8
            simp only [List.nil_append] at N8
            clear F7 N7
            try dsimp only
            (repeat' (first | ((with_reducible show wpAny _ _ (execs (List.cons (PySem.Stmt.If _ _ _ _) _) _) _ _ _); (try dsimp only); (with_reducible refine execs_cut ?_); intro Q1'c hc'c) | ((with_reducible refine execs_cut ?_); intro Q1'c hc'c) | ((with_reducible show wpAny _ _ (call _ _ _) _ _ _); first | (with_reducible ((with_reducible show wpAny _ _ (call (Value.builtin "max") [Value.ref _]) _ _ _); k_dflt (refine' max_far (by rfl) (by with_reducible assumption) (by with_reducible assumption) (by k_mem) (by with_reducible assumption) (by with_reducible assumption) (by with_reducible assumption) (by with_reducible assumption) (by with_reducible assumption) ?_); intro h'q tk'q t'q F'q N'q; k_sweep)) | ((with_reducible show wpAny _ _ (call (Value.ref 158) _ _) _ _ _); refine' wpAL (dist_any (by with_reducible assumption) (by with_reducible assumption) (by exact Fr.keep (by with_reducible assumption)) (by exact TabAt.up (by with_reducible assumption) (Fr.keep (by with_reducible assumption))) (by with_reducible assumption) (by with_reducible assumption) (by with_reducible assumption) (by with_reducible assumption) (by with_reducible assumption) ?_) (by rfl) (by exact Nat.le_of_ble_eq_true rfl) (by exact Nat.le_of_ble_eq_true rfl) (by rfl) (by rfl); intro h'q tk'q t'q s'q; (have q'q := led_old (by with_reducible assumption) (by with_reducible assumption) s'q); have F'q := q'q.1; have N'q := q'q.2; clear q'q; k_sweep) | ((with_reducible show wpAny _ _ (call (Value.ref 158) _ _) _ _ _); refine' wpAL (dist_from_any (by with_reducible assumption) (by with_reducible assumption) (by exact Fr.keep (by with_reducible assumption)) (by exact TabAt.up (by with_reducible assumption) (Fr.keep (by with_reducible assumption))) (by with_reducible assumption) (by with_reducible assumption) (by with_reducible assumption) ?_) (by rfl) (by exact Nat.le_of_ble_eq_true rfl) (by exact Nat.le_of_ble_eq_true rfl) (by rfl) (by rfl); intro h'q tk'q s'q; (have q'q := led_old (by with_reducible assumption) (by with_reducible assumption) s'q); have F'q := q'q.1; have N'q := q'q.2; clear q'q; k_sweep)) | (with_reducible ((with_reducible show wpAny _ _ (compareOp .NotEq (Value.int _ _) (Value.int _ _)) _ _ _); k_dflt (refine' ne_same (by omega) ?_))) | (with_reducible ((with_reducible show wpAny _ _ (binaryOp .Add (Value.ref _) (Value.ref _)) _ _ _); k_dflt (refine' add_lists_led (by with_reducible assumption) (by with_reducible assumption) (by k_mem) (by k_mem) (by (simp only [List.length_cons, List.length_nil]; omega)) ?_); intro D'q h'q F'q N'q l1; (try k_lt l1); (try simp only [List.cons_append, List.nil_append] at N'q); (try k_sweep))) | walk1 | (dsimp only; walk1) | ((with_reducible show Q1'c _ _); first | ((with_reducible refine hc'c.n _ ?_); clear hc'c Q1'c; (try dsimp only)) | ((with_reducible refine hc'c.f _ _ (by first | (with_reducible exact retN) | (intro h; cases h)) ?_); clear hc'c Q1'c; (try dsimp only))) | fail "no step"))
            rename Fr _ _ _ _ => F10
            rename News _ _ _ _ => N10
            rename Obj.data _ = Data.cell (some (Value.str x _)) => hd10
            exact TE.next (nx := [(_, _)]) F10 N10 (by walk_at "SUB") (by walk_at "SUB") ⟨by exact hI1, trivial⟩ ⟨_, _, rfl, hd10⟩ (by walk_at "SAME3")
  · rintro u1 news₁ h2 tk2 ⟨oc, vc, rfl, hoc⟩ F2 N2
    replace F2 : Fr s.heap s.heap.objs.size h2 _ := F2
    replace N2 : News s.heap s.heap.objs.size h2 _ := N2
    clear F N
    try dsimp only
    (repeat' (first | ((with_reducible show wpAny _ _ (execs (List.cons (PySem.Stmt.If _ _ _ _) _) _) _ _ _); (try dsimp only); (with_reducible refine execs_cut ?_); intro Q1'c hc'c) | ((with_reducible refine execs_cut ?_); intro Q1'c hc'c) | walk1 | (dsimp only; walk1) | ((with_reducible show Q1'c _ _); first | ((with_reducible refine hc'c.n _ ?_); clear hc'c Q1'c; (try dsimp only)) | ((with_reducible refine hc'c.f _ _ (by first | (with_reducible exact retN) | (intro h; cases h)) ?_); clear hc'c Q1'c; (try dsimp only))) | fail "no step"))
    try dsimp only
    exact h _ _ F2.keep

theorem Walk.last {par : Str → List Str} {x y : Str} {n : Nat} (h : Walk par x y n) : y = x ∨ ∃ z, y ∈ par z := by
  induction h with
  | nil => exact .inl rfl
  | cons e _ ih =>
    rcases ih with rfl | ih
    · exact .inr ⟨_, e⟩
    · exact .inr ih
theorem walk_set {par : Str → List Str} {S : Str → Prop} (hc : ∀ x, S x → ∀ y ∈ par x, S y) {x y : Str} {n : Nat} (h : Walk par x y n) (hx : S x) : S y := by
  induction h with
  | nil => exact hx
  | cons e _ ih => exact ih (hc _ hx _ e)
/-- what is not in a closed set is at no distance -/
theorem dist_closed {par : Str → List Str} {S : Str → Prop} (hc : ∀ x, S x → ∀ y ∈ par x, S y) {y nm : Str} (hy : S y) (hn : ¬ S nm) (ha : nm ≠ "ANY") (k : Nat) : distOf y nm (supersFrom y (bst par y k)) = none := by
  have hne : y ≠ nm := fun e => hn (e ▸ hy)
  unfold distOf
  rw [any_false hne, if_neg Bool.false_ne_true, List.find?_eq_none.mpr]
  · rfl
  · intro r hr
    have h1 : ∀ r ∈ bst par y k, r.1 ≠ nm := fun r hr e => hn (e ▸ walk_set hc ((bfs par y k).walk r hr) hy)
    have h2 : r.1 ≠ nm := by
      unfold supersFrom at hr
      have hr := List.mem_of_mem_drop hr
      split at hr
      · exact h1 r hr
      · rcases List.mem_append.mp hr with hr | hr
        · exact h1 r hr
        · rw [List.mem_singleton.mp hr]; exact Ne.symm ha
    rw [any_false h2]; exact Bool.false_ne_true
theorem at?_mem {D : List (Str × List Str)} {x : Str} {ys : List Str} (h : at? D x = some ys) : (x, ys) ∈ D := by
  unfold at? at h
  obtain ⟨p, hp, q⟩ := Option.map_eq_some_iff.mp h
  have h1 := List.mem_of_find?_eq_some hp
  have h2 : p.1 = x := by simpa using List.find?_some hp
  obtain ⟨a, b⟩ := p
  cases h2
  cases q
  exact h1
theorem at?_none {D : List (Str × List Str)} {x : Str} (h : x ∉ D.map (·.1)) : at? D x = none := by
  cases e : at? D x with
  | none => rfl
  | some ys => exact absurd (List.mem_map.mpr ⟨_, at?_mem e, rfl⟩) h
theorem mem_addU {x y : Str} : ∀ {U : List (Str × List Str)} {ys : List Str}, y ∈ addU x U ys ↔ y ∈ ys ∨ ∃ ms, (y, ms) ∈ U ∧ x ∈ ms
  | [], ys => by simp [addU]
  | p :: U, ys => by
    have e : addU x (p :: U) ys = addU x U (if p.2.any (· == x) && !(ys.any (· == p.1)) then ys ++ [p.1] else ys) := rfl
    rw [e, mem_addU]
    by_cases h1 : x ∈ p.2
    · have h1' : p.2.any (· == x) = true := List.any_eq_true.mpr ⟨x, h1, by simp⟩
      by_cases h2 : p.1 ∈ ys
      · have h2' : ys.any (· == p.1) = true := List.any_eq_true.mpr ⟨p.1, h2, by simp⟩
        rw [h1', h2']
        simp only [Bool.not_true, Bool.and_false, Bool.false_eq_true, if_false]
        constructor
        · rintro (h | ⟨ms, hm, hx⟩)
          · exact .inl h
          · exact .inr ⟨ms, .tail _ hm, hx⟩
        · rintro (h | ⟨ms, hm, hx⟩)
          · exact .inl h
          · rcases List.mem_cons.mp hm with e | hm
            · exact .inl (by rw [show y = p.1 from congrArg Prod.fst e]; exact h2)
            · exact .inr ⟨ms, hm, hx⟩
      · have h2' : ys.any (· == p.1) = false := by
          rw [Bool.eq_false_iff]; intro h; obtain ⟨z, hz, e⟩ := List.any_eq_true.mp h
          exact h2 (by rw [← (by simpa using e : z = p.1)]; exact hz)
        rw [h1', h2']
        simp only [Bool.not_false, Bool.and_true, if_true, List.mem_append, List.mem_singleton]
        constructor
        · rintro ((h | h) | ⟨ms, hm, hx⟩)
          · exact .inl h
          · exact .inr ⟨p.2, by rw [h]; exact .head _, h1⟩
          · exact .inr ⟨ms, .tail _ hm, hx⟩
        · rintro (h | ⟨ms, hm, hx⟩)
          · exact .inl (.inl h)
          · rcases List.mem_cons.mp hm with e | hm
            · exact .inl (.inr (congrArg Prod.fst e))
            · exact .inr ⟨ms, hm, hx⟩
    · have h1' : p.2.any (· == x) = false := by
        rw [Bool.eq_false_iff]; intro h; obtain ⟨z, hz, e⟩ := List.any_eq_true.mp h
        exact h1 (by rw [← (by simpa using e : z = x)]; exact hz)
      rw [h1']
      simp only [Bool.false_and, Bool.false_eq_true, if_false]
      constructor
      · rintro (h | ⟨ms, hm, hx⟩)
        · exact .inl h
        · exact .inr ⟨ms, .tail _ hm, hx⟩
      · rintro (h | ⟨ms, hm, hx⟩)
        · exact .inl h
        · rcases List.mem_cons.mp hm with e | hm
          · exact absurd (by rw [← show ms = p.2 from congrArg Prod.snd e]; exact hx) h1
          · exact .inr ⟨ms, hm, hx⟩
theorem nodup_addU {x : Str} : ∀ {U : List (Str × List Str)} {ys : List Str}, ys.Nodup → (addU x U ys).Nodup
  | [], ys, h => by simpa [addU] using h
  | p :: U, ys, h => by
    have e : addU x (p :: U) ys = addU x U (if p.2.any (· == x) && !(ys.any (· == p.1)) then ys ++ [p.1] else ys) := rfl
    rw [e]
    refine nodup_addU ?_
    split
    · rename_i h1
      simp only [Bool.and_eq_true, Bool.not_eq_true'] at h1
      rw [List.nodup_append]
      refine ⟨h, by simp, fun a ha b hb => ?_⟩
      rw [List.mem_singleton.mp hb]
      rintro rfl
      have : ys.any (· == p.1) = true := List.any_eq_true.mpr ⟨p.1, ha, by simp⟩
      rw [h1.2] at this; cases this
    · exact h
noncomputable def basics7 : List Str := ["numeric", "vector", "array", "integer", "oldClass", "list", "language"]
theorem basicParents_in (x : Str) : ∀ y ∈ basicParents x, y ∈ basics7 := by
  unfold basicParents
  repeat' split
  all_goals decide +kernel
theorem bst_len {D U : List (Str × List Str)} (h : (D.flatMap (·.2)).length + U.length ≤ 90) (x : Str) (k : Nat) : (bst (parentsOf D U) x k).length ≤ 100 := by
  have B := bfs (parentsOf D U) x k
  have sub : (bst (parentsOf D U) x k).map (·.1) ⊆ x :: (D.flatMap (·.2) ++ U.map (·.1) ++ basics7) := by
    intro y hy
    obtain ⟨r, hr, rfl⟩ := List.mem_map.mp hy
    rcases (B.walk r hr).last with e | ⟨z, hz⟩
    · rw [e]; exact .head _
    · refine List.mem_cons_of_mem _ ?_
      unfold parentsOf at hz
      rw [List.mem_append, List.mem_append]
      rcases mem_addU.mp hz with hz | ⟨ms, hm, _⟩
      · unfold baseParents at hz
        cases e : at? D z with
        | some ys => rw [e] at hz; exact .inl (.inl (List.mem_flatMap.mpr ⟨_, at?_mem e, hz⟩))
        | none =>
          rw [e] at hz
          dsimp only at hz
          split at hz
          · exact .inr (basicParents_in z _ hz)
          · cases hz
      · exact .inl (.inr (List.mem_map.mpr ⟨_, hm, rfl⟩))
  have := List.Nodup.length_le_of_subset B.nodup sub
  simp only [List.length_map, List.length_cons, List.length_append] at this
  have h7 : basics7.length = 7 := rfl
  omega
/-- the graph of a table -/
theorem good_of {D Dd U : List (Str × List Str)} (hn : ((Dd ++ U).map (·.1)).Nodup) (hb : ∀ p ∈ Dd, baseParents D p.1 = p.2) (hu : ∀ p ∈ U, baseParents D p.1 = []) (hc : ∀ p ∈ Dd, ∀ y ∈ p.2, y ∈ Dd.map (·.1)) (hd : ∀ p ∈ Dd, p.2.Nodup ∧ p.1 ∉ p.2)
    (ha : ("ANY" : Str) ∉ (Dd ++ U).map (·.1)) (hD : ∀ p ∈ D, ("ANY" : Str) ∉ p.2 ∧ p.1 ≠ "ANY") (hU : ∀ p ∈ U, ("ANY" : Str) ∉ p.2 ∧ ∀ q ∈ U, q.1 ∉ p.2) (hl : (Dd ++ U).length < 64) (hs : ∀ p ∈ Dd ++ U, PyData.strOk p.1 = true) :
    GoodG (parentsOf D U) (nearOf Dd U) := by
  have keys : (nearOf Dd U).map (·.1) = (Dd ++ U).map (·.1) := by
    unfold nearOf; simp [List.map_map, Function.comp_def]
  have hmem : ∀ p ∈ nearOf Dd U, ∃ ys, p = (p.1, addU p.1 U ys) ∧ baseParents D p.1 = ys ∧ ((p.1, ys) ∈ Dd ∨ (ys = [] ∧ ∃ ms, (p.1, ms) ∈ U)) := by
    intro p hp
    obtain ⟨q, hq, rfl⟩ := List.mem_map.mp hp
    rcases List.mem_append.mp hq with hq | hq
    · exact ⟨q.2, rfl, hb q hq, .inl hq⟩
    · obtain ⟨r, hr, rfl⟩ := List.mem_map.mp hq
      exact ⟨[], rfl, hu r hr, .inr ⟨rfl, r.2, hr⟩⟩
  have hUk : ∀ {y ms}, (y, ms) ∈ U → y ∈ (Dd ++ U).map (·.1) := fun h => List.mem_map.mpr ⟨_, List.mem_append_right _ h, rfl⟩
  have hDk : ∀ {y}, y ∈ Dd.map (·.1) → y ∈ (Dd ++ U).map (·.1) := fun h => by rw [List.map_append]; exact List.mem_append_left _ h
  have hbase : ∀ y, ("ANY" : Str) ∉ baseParents D y := by
    intro y h
    unfold baseParents at h
    cases e : at? D y with
    | some ys => rw [e] at h; exact (hD _ (at?_mem e)).1 h
    | none =>
      rw [e] at h
      dsimp only at h
      split at h
      · exact absurd (basicParents_in y _ h) (by decide +kernel)
      · cases h
  refine ⟨fun p hp => ?_, by rw [keys]; exact hn, fun p hp y hy => ?_, by rw [keys]; exact ha, fun y h => ?_, ?_, fun p hp => ?_, by unfold nearOf; simpa using hl, fun p hp y hy => ?_⟩
  · obtain ⟨ys, e, h1, _⟩ := hmem p hp
    rw [e]
    show addU p.1 U (baseParents D p.1) = addU p.1 U ys
    rw [h1]
  · obtain ⟨ys, e, _, h2⟩ := hmem p hp
    rw [e] at hy
    rw [keys]
    rcases mem_addU.mp hy with hy | ⟨ms, hm, _⟩
    · rcases h2 with h2 | ⟨rfl, _⟩
      · exact hDk (hc _ h2 y hy)
      · cases hy
    · exact hUk hm
  · rcases mem_addU.mp h with h | ⟨ms, hm, _⟩
    · exact hbase y h
    · exact ha (hUk hm)
  · have e1 : at? D ("ANY" : Str) = none := at?_none fun h => by
      obtain ⟨p, hp, e⟩ := List.mem_map.mp h
      exact (hD p hp).2 e
    have e2 : baseParents D ("ANY" : Str) = [] := by
      unfold baseParents
      rw [e1]
      decide +kernel
    have e3 : ∀ y, y ∉ parentsOf D U "ANY" := by
      intro y h
      unfold parentsOf at h
      rw [e2] at h
      rcases mem_addU.mp h with h | ⟨ms, hm, hx⟩
      · cases h
      · exact (hU _ hm).1 hx
    cases h : parentsOf D U "ANY" with
    | nil => rfl
    | cons y r => exact absurd (by rw [h]; exact .head _) (e3 y)
  · obtain ⟨ys, e, _, h2⟩ := hmem p hp
    rw [e]
    rcases h2 with h2 | ⟨rfl, ms, hm⟩
    · refine ⟨nodup_addU (hd _ h2).1, fun h => ?_⟩
      rcases mem_addU.mp h with h | ⟨ms, hm, _⟩
      · exact (hd _ h2).2 h
      · rw [List.map_append, List.nodup_append] at hn
        exact hn.2.2 _ (List.mem_map.mpr ⟨_, h2, rfl⟩) _ (List.mem_map.mpr ⟨_, hm, rfl⟩) rfl
    · refine ⟨nodup_addU List.nodup_nil, fun h => ?_⟩
      rcases mem_addU.mp h with h | ⟨ms', hm', hx⟩
      · cases h
      · exact (hU _ hm').2 _ hm hx
  · obtain ⟨ys, e, _, h2⟩ := hmem p hp
    rw [e] at hy
    rcases mem_addU.mp hy with hy | ⟨ms, hm, _⟩
    · rcases h2 with h2 | ⟨rfl, _⟩
      · obtain ⟨q, hq, rfl⟩ := List.mem_map.mp (hc _ h2 y hy)
        exact hs q (List.mem_append_left _ hq)
      · cases hy
    · exact hs _ (List.mem_append_right _ hm)

theorem WaysOk.le {par : Str → List Str} {names : List Str} {f : Str → Str → Int} (W : WaysOk par names f) {a b : Str} (ha : a ∈ names) (hb : b ∈ names) : 0 ≤ f a b ∧ f a b ≤ 99 := by
  rcases W.sound a b ha hb with e | ⟨n, e, hn, _⟩ <;> omega
theorem between {par par' : Str → List Str} {names names' : List Str} {f f' : Str → Str → Int} {low high B : Str} {S : Str → Prop}
    (W : WaysOk par names f) (W' : WaysOk par' names' f') (hsub : ∀ x ∈ names, x ∈ names') (hc : ∀ x ∈ names, ∀ y ∈ par x, y ∈ names) (hlow : low ∈ names) (hhigh : high ∈ par low) (hB : B ∉ names) (pB : par' B = [high])
    (same : ∀ x ∈ names, x ≠ low → par' x = par x) (plow : ∀ y, y ∈ par' low ↔ (y ∈ par low ∧ y ≠ high) ∨ y = B)
    (hS : ∀ x, S x → ∀ y ∈ par x, S y) (hSh : S high) (hSl : ¬ S low) (hSn : ∀ x, S x → x ∈ names) : ∀ a ∈ names, ∀ b ∈ names, f a b ≤ f' a b ∧ f' a b ≤ f a b + 1 := by
  have hhn : high ∈ names := hc low hlow high hhigh
  have hhB : high ≠ B := fun e => hB (e ▸ hhn)
  have down : ∀ {u v : Str} {n : Nat}, Walk par' u v n → (u ∈ names ∨ u = B) → ∃ n', n' ≤ n ∧ Walk par (if u = B then high else u) (if v = B then high else v) n' := by
    intro u v n h
    induction h with
    | nil => intro _; exact ⟨0, Nat.le_refl _, .nil _⟩
    | @cons u y v n e _ ih =>
      intro hu
      by_cases huB : u = B
      · subst huB
        rw [pB] at e
        have e : y = high := by simpa using e
        subst e
        obtain ⟨n', h1, h2⟩ := ih (.inl hhn)
        rw [if_neg hhB] at h2
        rw [if_pos rfl]
        exact ⟨n', by omega, h2⟩
      · have hun := hu.resolve_right huB
        rw [if_neg huB]
        by_cases hul : u = low
        · subst hul
          rcases (plow y).mp e with ⟨e1, _⟩ | e1
          · have hyn := hc u hun y e1
            have hyB : y ≠ B := fun q => hB (q ▸ hyn)
            obtain ⟨n', h1, h2⟩ := ih (.inl hyn)
            rw [if_neg hyB] at h2
            exact ⟨n' + 1, by omega, .cons e1 h2⟩
          · obtain ⟨n', h1, h2⟩ := ih (.inr e1)
            rw [if_pos e1] at h2
            exact ⟨n' + 1, by omega, .cons hhigh h2⟩
        · rw [same u hun hul] at e
          have hyn := hc u hun y e
          have hyB : y ≠ B := fun q => hB (q ▸ hyn)
          obtain ⟨n', h1, h2⟩ := ih (.inl hyn)
          rw [if_neg hyB] at h2
          exact ⟨n' + 1, by omega, .cons e h2⟩
  have inS : ∀ {u v : Str} {n : Nat}, Walk par u v n → S u → Walk par' u v n := by
    intro u v n h
    induction h with
    | nil => intro _; exact .nil _
    | @cons u y v n e _ ih =>
      intro hu
      have hul : u ≠ low := fun q => hSl (q ▸ hu)
      exact .cons (by rw [same u (hSn u hu) hul]; exact e) (ih (hS u hu y e))
  have up : ∀ {u v : Str} {n : Nat}, Walk par u v n → u ∈ names → ∃ n', n' ≤ n + 1 ∧ Walk par' u v n' := by
    intro u v n h
    induction h with
    | nil => intro _; exact ⟨0, by omega, .nil _⟩
    | @cons u y v n e hw ih =>
      intro hu
      have hyn := hc u hu y e
      by_cases hul : u = low
      · subst hul
        by_cases hyh : y = high
        · subst hyh
          exact ⟨n + 1 + 1, by omega, .cons ((plow B).mpr (.inr rfl)) (.cons (by rw [pB]; exact .head _) (inS hw hSh))⟩
        · obtain ⟨n', h1, h2⟩ := ih hyn
          exact ⟨n' + 1, by omega, .cons ((plow y).mpr (.inl ⟨e, hyh⟩)) h2⟩
      · obtain ⟨n', h1, h2⟩ := ih hyn
        exact ⟨n' + 1, by omega, .cons (by rw [same u hu hul]; exact e) h2⟩
  intro a ha b hb
  have l1 := W.le ha hb
  have l2 := W'.le (hsub a ha) (hsub b hb)
  constructor
  · rcases W'.sound a b (hsub a ha) (hsub b hb) with e | ⟨n, e, hn, hw⟩
    · omega
    · obtain ⟨n', h1, h2⟩ := down hw (.inl ha)
      have haB : a ≠ B := fun q => hB (q ▸ ha)
      have hbB : b ≠ B := fun q => hB (q ▸ hb)
      rw [if_neg haB, if_neg hbB] at h2
      have := W.comp a b n' ha hb h2
      omega
  · rcases W.sound a b ha hb with e | ⟨n, e, hn, hw⟩
    · omega
    · obtain ⟨n', h1, h2⟩ := up hw ha
      have := W'.comp a b n' (hsub a ha) (hsub b hb) h2
      omega

theorem tinit_spec {w : World} {s : Shared} {R : Result → Shared → Prop} {g : Heap} {mg mb : Str → Option Value} {x dx : Addr} {pos : List Value} {kw : List (Str × Value)}
    (X : (KF w.params).In g) (T : TR mg mb g) (st : Sub g s.heap) (sz : g.objs.size ≤ s.heap.objs.size) (hx : s.heap.get? x = some (instObj 168 dx)) (hdx : s.heap.get? dx = some (dictOf [] 0)) (n1 : g.get? x = none) (n2 : g.get? dx = none) (hlt : @LT.lt Nat _ dx x)
    (h : ∀ h' tk e1 e2 k1 k2 n c u (co uo : Obj), Sub g h' → g.get? c = none → g.get? u = none → (@Ne Nat c u ∧ @Ne Nat c x ∧ @Ne Nat c dx ∧ @Ne Nat u x ∧ @Ne Nat u dx) → h'.get? x = some (instObj 168 dx) → h'.get? dx = some (dictOf [⟨e1, .str "classes" k1, .ref c⟩, ⟨e2, .str "unions" k2, .ref u⟩] n) →
      h'.get? c = some co → h'.get? u = some uo → co.IsDictOf (strKind PG w) [] → uo.IsDictOf (strKind PG w) [] → (c == sysModules) = false → (u == sysModules) = false → R (.ok (.ret .none)) { s with heap := h', toks := tk }) :
    codeAny (model PG w) ((AL 1).under (.builtin "type.__call__" ⟨.ref 168 :: pos, kw⟩)) (.call (.ref 102) ⟨[.ref x], []⟩) R s := by
  have ld := (fun p hp => by
    rcases List.mem_cons.mp hp with rfl | hp
    · exact ⟨hx, n1⟩
    · rw [List.mem_singleton.mp hp]; exact ⟨hdx, n2⟩ : ∀ p ∈ [(x, instObj 168 dx), (dx, dictOf [] 0)], s.heap.get? p.1 = some p.2 ∧ g.get? p.1 = none)
  clear hx hdx
  (refine' enterC ?X ?T ?st ?sz ?N (by k_is) (by k_is) (by k_room) (by rfl) (by exact locs rfl) ?_ (by rfl) (by rfl) (by rfl) (by decide))
  case X => exact X
  case T => exact T
  case st => exact st
  case sz => exact sz
  case N => exact ld
  intro h₁ F N
  (repeat' (first | ((with_reducible show wpAny _ _ (execs (List.cons (PySem.Stmt.If _ _ _ _) _) _) _ _ _); (try dsimp only); (with_reducible refine execs_cut ?_); intro Q1'c hc'c) | ((with_reducible refine execs_cut ?_); intro Q1'c hc'c) | walk1 | (dsimp only; walk1) | ((with_reducible show Q1'c _ _); first | ((with_reducible refine hc'c.n _ ?_); clear hc'c Q1'c; (try dsimp only)) | ((with_reducible refine hc'c.f _ _ (by first | (with_reducible exact retN) | (intro h; cases h)) ?_); clear hc'c Q1'c; (try dsimp only))) | fail "no step"))
  try dsimp only
  rename Fr _ _ _ _ => F
  rename News _ _ _ _ => N
  exact h _ _ _ _ _ _ _ _ _ _ _ F.keep (N _ (.tail _ (.head _))).2.2 (N _ (.head _)).2.2 (by omega) (N _ (.tail _ (.tail _ (.head _)))).1 (N _ (.tail _ (.tail _ (.tail _ (.head _))))).1 (N _ (.tail _ (.head _))).1 (N _ (.head _)).1 (by with_reducible assumption) (by with_reducible assumption) (by with_reducible assumption) (by with_reducible assumption)
theorem ctable_spec {w : World} {s : Shared} {Q : Value → Shared → Prop} {g : Heap} {mg mb : Str → Option Value}
    (X : (KF w.params).In g) (T : TR mg mb g) (st : Sub g s.heap)
    (h : ∀ h' tk x dx e1 e2 k1 k2 n c u (co uo : Obj), Sub s.heap h' → (∀ p ∈ [(x, instObj 168 dx), (dx, dictOf [⟨e1, .str "classes" k1, .ref c⟩, ⟨e2, .str "unions" k2, .ref u⟩] n), (c, co), (u, uo)], h'.get? p.1 = some p.2 ∧ s.heap.get? p.1 = none) → (@Ne Nat c u ∧ @Ne Nat c x ∧ @Ne Nat c dx ∧ @Ne Nat u x ∧ @Ne Nat u dx) →
      co.IsDictOf (strKind PG w) [] → uo.IsDictOf (strKind PG w) [] → (c == sysModules) = false → (u == sysModules) = false → Q (.ref x) { s with heap := h', toks := tk }) :
    wpAny (model PG w) (AL 1) (call (.ref 168) []) Q (fun _ _ => False) s := by
  have X' := Frag.In.keeps X st
  have T' := TopRead.keeps T st
  clear X T
  have hm : makesIn (KF w.params) 168 = true := by k_is
  have hi : findIn (KF w.params) (.ref 168) "__init__" = some (some (.ref 102)) := by k_is
  have hf : isFn (KF w.params) (.ref 102) = true := by k_is
  obtain ⟨hh, g', d', t', os⟩ := s
  refine wpAny_call (make_core (makes_of X' hm) (looks_findIn X' hi) (fun self => bind_fn X' self (beq_iff_eq.mp hf)) (.inl rfl) ?_)
  have k : Sub hh ((hh.push emptyDict).push (instObj 168 hh.objs.size)) := fun b o e => Heap.get?_push_of_some _ (Heap.get?_push_of_some _ e)
  have hx : ((hh.push emptyDict).push (instObj 168 hh.objs.size)).get? (hh.objs.size + 1) = some (instObj 168 hh.objs.size) := by heap_get
  have hdx : ((hh.push emptyDict).push (instObj 168 hh.objs.size)).get? hh.objs.size = some (dictOf [] 0) := by heap_get
  have none1 : ∀ a, hh.objs.size ≤ a → hh.get? a = none := fun a ha => by
    cases e : hh.get? a with
    | none => rfl
    | some o => exact absurd (Heap.lt_size e) (Nat.not_lt.mpr ha)
  have hlt : @LT.lt Nat _ hh.objs.size (hh.objs.size + 1) := Nat.lt_succ_self _
  have n1 := none1 (hh.objs.size + 1) (Nat.le_succ _)
  have n2 := none1 hh.objs.size (Nat.le_refl _)
  refine tinit_spec (s := ⟨(hh.push emptyDict).push (instObj 168 hh.objs.size), g', d', t', os⟩) X' T' k (by show hh.objs.size ≤ ((hh.push emptyDict).push (instObj 168 hh.objs.size)).objs.size; rw [Heap.size_push, Heap.size_push]; omega) hx hdx n1 n2 hlt ?_
  intro h' tk e1 e2 k1 k2 n c u co uo a1 a2 a3 a4 a5 a6 a7 a8 a9 a10 a11 a12
  refine ⟨rfl, h h' tk _ _ e1 e2 k1 k2 n c u co uo a1 (fun p hp => ?_) a4 a9 a10 a11 a12⟩
  simp only [List.mem_cons, List.not_mem_nil, or_false] at hp
  rcases hp with rfl | rfl | rfl | rfl
  · exact ⟨a5, n1⟩
  · exact ⟨a6, n2⟩
  · exact ⟨a7, a2⟩
  · exact ⟨a8, a3⟩

noncomputable def storedD {δ : Type} (D : List (Str × δ)) (x : Str) (v : δ) : List (Str × δ) := if D.any (fun p => decide (p.1 = x)) then D.map (fun p => if p.1 = x then (p.1, v) else p) else D ++ [(x, v)]
section
variable {δ : Type} {R : Value → δ → Prop} {kvs : List (Str × Value)} {D : List (Str × δ)}
theorem Ent.any (h : Ent R kvs D) (x : Str) : kvs.any (fun p => decide (p.1 = x)) = D.any (fun p => decide (p.1 = x)) := by
  induction h with
  | nil => rfl
  | cons _ _ ih => simp [ih]
theorem Ent.mapD (h : Ent R kvs D) (x : Str) {v : Value} {d : δ} (r : R v d) : Ent R (kvs.map fun kv => if kv.1 = x then (kv.1, v) else kv) (D.map fun p => if p.1 = x then (p.1, d) else p) := by
  induction h with
  | nil => exact .nil
  | @cons y u e kvs D q _ ih =>
    rw [List.map_cons, List.map_cons]
    by_cases hy : y = x
    · rw [if_pos hy, if_pos hy]; exact .cons r ih
    · rw [if_neg hy, if_neg hy]; exact .cons q ih
theorem Ent.storedD (h : Ent R kvs D) (x : Str) {v : Value} {d : δ} (r : R v d) : Ent R (stored kvs x v) (Mine.storedD D x d) := by
  unfold stored Mine.storedD
  rw [h.any]
  split
  · exact h.mapD x r
  · exact h.append (.cons r .nil)
end
abbrev In (tl : List (Addr × Obj)) (h : Heap) : Prop := ∀ p ∈ tl, h.get? p.1 = some p.2
structure TabL (w : World) (tl : List (Addr × Obj)) (t c u : Addr) (co uo : Obj) (kc ku : List (Str × Value)) (D U : List (Str × List Str)) : Prop where
  inst : ∃ td e1 e2 k1 k2 n, (t, instObj 168 td) ∈ tl ∧ (td, dictOf [⟨e1, .str "classes" k1, .ref c⟩, ⟨e2, .str "unions" k2, .ref u⟩] n) ∈ tl
  dc : co.IsDictOf (strKind PG w) kc
  du : uo.IsDictOf (strKind PG w) ku
  ec : Ent (fun v xs => ∃ nm, ∀ h, In tl h → ClsAt h v nm xs) kc D
  eu : Ent (fun v xs => ∀ h, In tl h → ∃ l, v = .ref l ∧ Words h l xs) ku U
  nc : (c == sysModules) = false
  nu : (u == sysModules) = false
  lu : U.length ≤ 1000
theorem TabL.at {w : World} {tl : List (Addr × Obj)} {t c u : Addr} {co uo : Obj} {kc ku : List (Str × Value)} {D U : List (Str × List Str)} (T : TabL w tl t c u co uo kc ku D U) {h : Heap} (hc : h.get? c = some co) (hu : h.get? u = some uo) (k : In tl h) : TabAt w h t c u D U where
  inst := let ⟨td, e1, e2, k1, k2, n, m1, m2⟩ := T.inst; ⟨td, e1, e2, k1, k2, n, k _ m1, rfl, rfl, k _ m2⟩
  cs := ⟨kc, Heap.dictOf_iff.mpr ⟨co, hc, T.dc⟩, T.ec.mono fun _ _ ⟨nm, q⟩ => ⟨nm, q h k⟩⟩
  us := ⟨ku, Heap.dictOf_iff.mpr ⟨uo, hu, T.du⟩, T.eu.mono fun _ _ q => q h k⟩
  nc := T.nc
  nu := T.nu
  lu := T.lu
theorem TabL.more {w : World} {tl tl' : List (Addr × Obj)} {t c u : Addr} {co uo : Obj} {kc ku : List (Str × Value)} {D U : List (Str × List Str)} (T : TabL w tl t c u co uo kc ku D U) (m : ∀ p ∈ tl, p ∈ tl') : TabL w tl' t c u co uo kc ku D U where
  inst := let ⟨td, e1, e2, k1, k2, n, m1, m2⟩ := T.inst; ⟨td, e1, e2, k1, k2, n, m _ m1, m _ m2⟩
  dc := T.dc
  du := T.du
  ec := T.ec.mono fun _ _ ⟨nm, q⟩ => ⟨nm, fun h k => q h fun p hp => k p (m p hp)⟩
  eu := T.eu.mono fun _ _ q h k => q h fun p hp => k p (m p hp)
  nc := T.nc
  nu := T.nu
  lu := T.lu
theorem TabL.define {w : World} {tl : List (Addr × Obj)} {t c u : Addr} {co co' uo : Obj} {kc ku : List (Str × Value)} {D U : List (Str × List Str)} (T : TabL w tl t c u co uo kc ku D U) {nm : Str} {x : Value} {ys : List Str} (hc : co'.IsDictOf (strKind PG w) (stored kc nm x)) (hx : ∀ h, In tl h → ClsAt h x nm ys) :
    TabL w tl t c u co' uo (stored kc nm x) ku (storedD D nm ys) U := { T with dc := hc, ec := T.ec.storedD nm ⟨nm, hx⟩ }
theorem TabL.union {w : World} {tl : List (Addr × Obj)} {t c u : Addr} {co co' uo uo' : Obj} {kc ku : List (Str × Value)} {D U : List (Str × List Str)} (T : TabL w tl t c u co uo kc ku D U) {nm : Str} {x l : Addr} {ys : List Str} (hc : co'.IsDictOf (strKind PG w) (stored kc nm (.ref x))) (hu : uo'.IsDictOf (strKind PG w) (stored ku nm (.ref l)))
    (hx : ∀ h, In tl h → ClsAt h (.ref x) nm [] ∧ Words h l ys) (hl : (storedD U nm ys).length ≤ 1000) :
    TabL w tl t c u co' uo' (stored kc nm (.ref x)) (stored ku nm (.ref l)) (storedD D nm []) (storedD U nm ys) :=
  { T with dc := hc, du := hu, ec := T.ec.storedD nm ⟨nm, fun h k => (hx h k).1⟩, eu := T.eu.storedD nm fun h k => ⟨l, rfl, (hx h k).2⟩, lu := hl }
structure DirL (w : World) (tl : List (Addr × Obj)) (o : Obj) (kd : List (Str × Value)) (D : List (Str × List Str)) : Prop where
  ds : o.IsDictOf (strKind PG w) kd
  ed : Ent (fun v xs => ∃ l vs e, v = .ref l ∧ (l, listOf (List.toArray vs) e) ∈ tl ∧ StrsAre vs xs ∧ xs.length ≤ 1000) kd D
theorem DirL.at {w : World} {tl : List (Addr × Obj)} {o : Obj} {kd : List (Str × Value)} {D : List (Str × List Str)} {d : Addr} (T : DirL w tl o kd D) {h : Heap} (hd : h.get? d = some o) (nd : (d == sysModules) = false) (k : In tl h) : Adj w h d D :=
  ⟨⟨kd, Heap.dictOf_iff.mpr ⟨o, hd, T.ds⟩, T.ed.mono fun _ _ ⟨l, vs, e, q, m, S, hl⟩ => ⟨l, q, vs, e, k _ m, S, hl⟩⟩, nd⟩
theorem DirL.more {w : World} {tl tl' : List (Addr × Obj)} {o : Obj} {kd : List (Str × Value)} {D : List (Str × List Str)} (T : DirL w tl o kd D) (m : ∀ p ∈ tl, p ∈ tl') : DirL w tl' o kd D :=
  ⟨T.ds, T.ed.mono fun _ _ ⟨l, vs, e, q, mm, r⟩ => ⟨l, vs, e, q, m _ mm, r⟩⟩
theorem DirL.put {w : World} {tl : List (Addr × Obj)} {o o' : Obj} {kd : List (Str × Value)} {D : List (Str × List Str)} (T : DirL w tl o kd D) {nm : Str} {l : Addr} {vs : List Value} {e : Nat} {ys : List Str} (hd : o'.IsDictOf (strKind PG w) (stored kd nm (.ref l))) (hm : (l, listOf (List.toArray vs) e) ∈ tl) (S : StrsAre vs ys) (hl : ys.length ≤ 1000) : DirL w tl o' (stored kd nm (.ref l)) (storedD D nm ys) :=
  ⟨hd, T.ed.storedD nm ⟨l, vs, e, rfl, hm, S, hl⟩⟩
theorem DirL.get {w : World} {tl : List (Addr × Obj)} {o : Obj} {kd : List (Str × Value)} {D : List (Str × List Str)} (T : DirL w tl o kd D) {x : Str} {ys : List Str} (h : at? D x = some ys) : ∃ l vs e, valueAt kd x = some (.ref l) ∧ (l, listOf (List.toArray vs) e) ∈ tl ∧ StrsAre vs ys ∧ ys.length ≤ 1000 := by
  rcases T.ed.at x with ⟨v, d, e1, e2, l, vs, e, rfl, r⟩ | ⟨_, e2⟩
  · rw [h] at e2; cases e2; exact ⟨l, vs, e, e1, r⟩
  · rw [h] at e2; cases e2
section
variable {w : World} {s : Shared} {Q : Value → Shared → Prop} {h₀ : Heap} {L : Addr} {m mg mb : Str → Option Value} {news tl : List (Addr × Obj)} {gf : Obj → List (Addr × Obj)}
theorem pick_led {hand cl : Addr} {vs : List Value} {ns : List Int} {n : Int} {tn : Tok} {o : Obj} {e : Nat} (X : (KF w.params).In h₀) (T : TR mg mb h₀) (F : Fr h₀ L s.heap m) (N : News h₀ L s.heap news) (U : UpdF hand o news gf) (hO : HandOk o cl ns.length)
    (hc : (cl, listOf (List.toArray vs) e) ∈ news) (hne : @Ne Nat cl hand) (hi : IntsAre vs ns) (hlen : ns.length ≤ 63) (n1 : 1 ≤ n) (n2 : n ≤ 64)
    (h : ∀ h' tk d t o', Fr h₀ L h' m → News h₀ L h' (gf o') → HandOk o' cl ns.length → 0 ≤ d → d < n → Q (.int d t) { s with heap := h', toks := tk }) :
    wpAny (model PG w) (AL 0) (call (.ref 186) [.ref hand, .int n tn]) Q (fun _ _ => False) s := by
  obtain ⟨pre, post, e, hg, a, b⟩ := U.split
  have hm := N (hand, o) (by rw [e]; exact List.mem_append_right _ (.head _))
  refine pick_spec X T F.keep hm.2.2 hm.1 hO (News.isList N hc) hne hi hlen n1 n2 fun h' tk d t o' d0 d1 hO' g' k => ?_
  obtain ⟨F', N'⟩ := afterUpd F N U k g'
  exact h h' tk d t o' F' N' hO' d0 d1
theorem define_led {t c u x : Addr} {co uo : Obj} {kc ku : List (Str × Value)} {D U : List (Str × List Str)} {nm : Str} {ys : List Str} (X : (KF w.params).In h₀) (T : TR mg mb h₀) (F : Fr h₀ L s.heap m) (N : News h₀ L s.heap news)
    (HT : TabL w tl t c u co uo kc ku D U) (UP : UpdF c co news gf) (hu : (u, uo) ∈ news) (htl : ∀ p ∈ tl, p ∈ news) (hB : ∀ x k, (bst (parentsOf D U) x k).length ≤ 100) (C : ClsAt s.heap (.ref x) nm ys)
    (hk : ∀ y ∈ ys, ((at? D y).isSome || basicNames.any (· == y)) = true) (hne : ∀ y ∈ ys, (y == nm) = false) (hdi : ∀ y ∈ ys, ∀ k, distOf y nm (supersFrom y (bst (parentsOf D U) y k)) = none) (hkc : kc.length ≤ 100000)
    (h : ∀ h' tk co', Fr h₀ L h' m → News h₀ L h' (gf co') → co'.IsDictOf (strKind PG w) (stored kc nm (.ref x)) → Q .none { s with heap := h', toks := tk }) :
    wpAny (model PG w) (AL 7) (call (.ref 109) [.ref t, .ref x]) Q (fun _ _ => False) s := by
  obtain ⟨pre, post, e, hg, a, b⟩ := UP.split
  have hm := N (c, co) (by rw [e]; exact List.mem_append_right _ (.head _))
  refine define_spec X T F.keep (HT.at hm.1 (N _ hu).1 fun p hp => (N p (htl p hp)).1) hB C hk hne hdi kc (Heap.dictOf_iff.mpr ⟨co, hm.1, HT.dc⟩) hkc fun h' tk co' k g' d' => ?_
  obtain ⟨F', N'⟩ := afterUpd F N UP k g'
  exact h h' tk co' F' N' d'
end

theorem noE {α : Type} {M : Model} {A : Around} {t : Sem α} {Q : α → Shared → Prop} {E : Value → Shared → Prop} {s : Shared} (h : wpAny M A t Q (fun _ _ => False) s) : wpAny M A t Q E s := wpAny_mono h (fun _ _ x => x) fun _ _ x => x.elim
/-- the first pick -/
noncomputable def AtPick (w : World) (A : Around) (hand : Addr) (n : Int) (tn : Tok) (Q : Value → Shared → Prop) (s : Shared) : Prop := wpAny (model PG w) A (call (.ref 186) [.ref hand, .int n tn]) Q (fun _ _ => False) s
theorem at_pick {w : World} {A : Around} {hand : Addr} {n : Int} {tn : Tok} {Q : Value → Shared → Prop} {s : Shared} (h : AtPick w A hand n tn Q s) : wpAny (model PG w) A (call (.ref 186) [.ref hand, .int n tn]) Q (fun _ _ => False) s := h
local macro_rules | `(tactic| walk_at "MEM") => `(tactic| first | (with_reducible assumption) | ((with_reducible refine memN ?_); with_reducible assumption) | exact List.Mem.head _ | (refine' List.Mem.tail _ ?_; walk_at "MEM"))
noncomputable def basics3 : List (Str × List Str) := [("integer", ["numeric"]), ("numeric", ["vector"]), ("vector", [])]
structure Dist (hand c dd md u : Addr) (tl : List (Addr × Obj)) : Prop where
  a : AllNe hand tl
  b : AllNe c tl
  d : AllNe dd tl
  e : AllNe md tl
  f : AllNe u tl
  ac : @Ne Nat hand c
  ad : @Ne Nat hand dd
  am : @Ne Nat hand md
  au : @Ne Nat hand u
  cd : @Ne Nat c dd
  cm : @Ne Nat c md
  cu : @Ne Nat c u
  dm : @Ne Nat dd md
  du : @Ne Nat dd u
  mu : @Ne Nat md u
/-- what stands fast in the law's ledger -/
structure Fix (cl cell : Addr) (ns : List Int) (oC : Obj) (tl : List (Addr × Obj)) : Prop where
  cl : ∃ cvs ce, (cl, listOf (List.toArray cvs) ce) ∈ tl ∧ IntsAre cvs ns
  cell : (cell, oC) ∈ tl
theorem Fix.more {cl cell : Addr} {ns : List Int} {oC : Obj} {tl tl' : List (Addr × Obj)} (x : Fix cl cell ns oC tl) (h : ∀ p ∈ tl, p ∈ tl') : Fix cl cell ns oC tl' :=
  ⟨let ⟨a, b, m, i⟩ := x.cl; ⟨a, b, h _ m, i⟩, h _ x.cell⟩
theorem law_start {w : World} {h₀ h : Heap} {L : Addr} {md lv ln li dd t td c u hand cl cell : Addr} {i1 i2 i3 i4 i5 i6 n : Nat} {t1 t2 t3 t4 t5 : Tok} {k1 k2 : Tok} {e1 e2 : Int} {ddo co uo oC : Obj} {z : Int} {cvs : List Value} {ns : List Int}
    (N : News h₀ L h [(md, listOf (List.toArray []) i1), (lv, listOf (List.toArray []) i2), (ln, listOf (List.toArray [.str "vector" t1]) i3), (li, listOf (List.toArray [.str "numeric" t2]) i4), (dd, ddo), (t, instObj 168 td), (td, dictOf [⟨e1, .str "classes" k1, .ref c⟩, ⟨e2, .str "unions" k2, .ref u⟩] n), (c, co), (u, uo), (hand, listOf (List.toArray [.ref cl, .int 0 t3, .int 0 t4, .int z t5]) i5), (cl, listOf (List.toArray cvs) i6), (cell, oC)])
    {ta tb tc : Tok} (hdd0 : ddo.IsDictOf (strKind PG w) (merged [] (strPairs [(.str "integer" ta, .ref li), (.str "numeric" tb, .ref ln), (.str "vector" tc, .ref lv)]))) (hco : co.IsDictOf (strKind PG w) []) (huo : uo.IsDictOf (strKind PG w) []) (nc : (c == sysModules) = false) (nu : (u == sysModules) = false) (hI : IntsAre cvs ns) (z0 : 0 ≤ z) (z1 : z < 2147483647)
    (q1 : AllNe hand [(lv, oC), (ln, oC), (li, oC), (t, oC), (td, oC), (cl, oC), (cell, oC)]) (q2 : AllNe c [(lv, oC), (ln, oC), (li, oC), (t, oC), (td, oC), (cl, oC), (cell, oC)]) (q3 : AllNe dd [(lv, oC), (ln, oC), (li, oC), (t, oC), (td, oC), (cl, oC), (cell, oC)]) (q4 : AllNe md [(lv, oC), (ln, oC), (li, oC), (t, oC), (td, oC), (cl, oC), (cell, oC)]) (q5 : AllNe u [(lv, oC), (ln, oC), (li, oC), (t, oC), (td, oC), (cl, oC), (cell, oC)]) 
    (r : @Ne Nat hand c ∧ @Ne Nat hand dd ∧ @Ne Nat hand md ∧ @Ne Nat hand u ∧ @Ne Nat c dd ∧ @Ne Nat c md ∧ @Ne Nat c u ∧ @Ne Nat dd md ∧ @Ne Nat dd u ∧ @Ne Nat md u) :
    ∃ tl oh kd, News h₀ L h ((hand, oh) :: (c, co) :: (dd, ddo) :: (md, listOf (List.toArray []) i1) :: (u, uo) :: tl) ∧ HandOk oh cl ns.length ∧ TabL w tl t c u co uo [] [] [] [] ∧ DirL w tl ddo kd basics3 ∧ Fix cl cell ns oC tl ∧ Dist hand c dd md u tl := by
  have e1' : merged [] (strPairs [(.str "integer" ta, .ref li), (.str "numeric" tb, .ref ln), (.str "vector" tc, .ref lv)]) = ([(("integer" : Str), Value.ref li), (("numeric" : Str), Value.ref ln), (("vector" : Str), Value.ref lv)] : List (Str × Value)) := by rfl
  have hdd := hdd0
  rw [e1'] at hdd
  refine ⟨[(lv, listOf (List.toArray []) i2), (ln, listOf (List.toArray [.str "vector" t1]) i3), (li, listOf (List.toArray [.str "numeric" t2]) i4), (t, instObj 168 td), (td, dictOf [⟨e1, .str "classes" k1, .ref c⟩, ⟨e2, .str "unions" k2, .ref u⟩] n), (cl, listOf (List.toArray cvs) i6), (cell, oC)],
    listOf (List.toArray [.ref cl, .int 0 t3, .int 0 t4, .int z t5]) i5, _, News.of N (by walk_at "SUB"), hand_mk (Int.le_refl _) (by omega) (Int.le_refl _) z0 z1, ⟨⟨td, e1, e2, k1, k2, n, by first | k_mem | skip, by first | k_mem | skip⟩, hco, huo, .nil, .nil, nc, nu, Nat.zero_le _⟩, ⟨hdd, ?_⟩, ⟨⟨cvs, i6, by first | k_mem | skip, hI⟩, by first | k_mem | skip⟩, let ⟨r1, r2, r3, r4, r5, r6, r7, r8, r9, r0⟩ := r; ⟨q1, q2, q3, q4, q5, r1, r2, r3, r4, r5, r6, r7, r8, r9, r0⟩⟩
  · refine .cons ⟨li, [.str "numeric" t2], i4, rfl, by first | k_mem | skip, .cons _ _ .nil, by decide⟩ (.cons ⟨ln, [.str "vector" t1], i3, rfl, by first | k_mem | skip, .cons _ _ .nil, by decide⟩ (.cons ⟨lv, [], i2, rfl, by first | k_mem | skip, .nil, by decide⟩ .nil))
theorem z_nonneg (x : Int) : 0 ≤ x.fmod 100003 * 7 := Int.mul_nonneg (Int.fmod_nonneg_of_pos _ (by decide)) (by decide)
theorem z_lt (x : Int) : x.fmod 100003 * 7 < 2147483647 := by have := Int.fmod_lt_of_pos x (show (0:Int) < 100003 by decide); omega
theorem take63 {l : List Int} {vs : List Value} (_ : IntsAre vs (List.take 63 l)) : (List.take 63 l).length ≤ 63 := List.length_take_le 63 _
noncomputable def knames : List Str := ["K0", "K1", "K2", "K3"]
structure KInv (K : List (Str × List Str)) (n : Nat) : Prop where
  keys : K.map (·.1) = knames.take n
  rows : ∀ j x ys, K[j]? = some (x, ys) → ys.Nodup ∧ ys.length ≤ 2 ∧ ∀ y ∈ ys, y ∈ knames.take j ++ (["integer", "numeric"] : List Str)
structure LawS (w : World) (hand cl c dd md t u cell : Addr) (ns : List Int) (uo oC : Obj) (i : Nat) (oh co ddo : Obj) (mvs : List Value) (me : Nat) (kc kd : List (Str × Value)) (tl : List (Addr × Obj)) (K : List (Str × List Str)) : Prop where
  hO : HandOk oh cl ns.length
  hT : TabL w tl t c u co uo kc [] K []
  hD : DirL w tl ddo kd (basics3 ++ K)
  hM : StrsAre mvs (K.map (·.1))
  hK : KInv K i
  hF : Fix cl cell ns oC tl
  hDi : Dist hand c dd md u tl
noncomputable def LawJ (w : World) (hand cl c dd md t u cell : Addr) (ns : List Int) (uo oC : Obj) (i : Nat) (nx : List (Addr × Obj)) : Prop :=
  ∃ oh co ddo mvs me kc kd tl K, nx = (hand, oh) :: (c, co) :: (dd, ddo) :: (md, listOf (List.toArray mvs) me) :: (u, uo) :: tl ∧ LawS w hand cl c dd md t u cell ns uo oC i oh co ddo mvs me kc kd tl K
theorem LawS.start {w : World} {hand cl c dd md t u cell : Addr} {ns : List Int} {uo oC oh co ddo : Obj} {me : Nat} {kd : List (Str × Value)} {tl : List (Addr × Obj)} (hO : HandOk oh cl ns.length) (hT : TabL w tl t c u co uo [] [] [] []) (hD : DirL w tl ddo kd basics3) (hF : Fix cl cell ns oC tl) (hDi : Dist hand c dd md u tl) :
    LawJ w hand cl c dd md t u cell ns uo oC 0 ((hand, oh) :: (c, co) :: (dd, ddo) :: (md, listOf (List.toArray []) me) :: (u, uo) :: tl) :=
  ⟨_, _, _, _, _, _, _, _, [], rfl, hO, hT, by rw [List.append_nil]; exact hD, .nil, ⟨rfl, fun j x ys h => by simp at h⟩, hF, hDi⟩
theorem Dist.more {hand c dd md u a : Addr} {o : Obj} {tl : List (Addr × Obj)} (x : Dist hand c dd md u tl) (h : AllNe a ((hand, o) :: (c, o) :: (dd, o) :: (md, o) :: [(u, o)])) : Dist hand c dd md u ((a, o) :: tl) := by
  obtain ⟨a1, a2, a3, a4, a5, _⟩ := h
  exact { x with a := ⟨Ne.symm a1, x.a⟩, b := ⟨Ne.symm a2, x.b⟩, d := ⟨Ne.symm a3, x.d⟩, e := ⟨Ne.symm a4, x.e⟩, f := ⟨Ne.symm a5, x.f⟩ }
/-- the iterator joins what stands fast -/
theorem LawJ.turn {P : Prop} {w : World} {hand cl c dd md t u cell : Addr} {ns : List Int} {uo oC : Obj} {i : Nat} {nx : List (Addr × Obj)} {I L : Addr} {oI : Obj} {h₀ h : Heap} (J : LawJ w hand cl c dd md t u cell ns uo oC i nx) (hI : AllNe I (nx ++ [])) (N : News h₀ L h (nx ++ [(I, oI)]))
    (k : ∀ oh co ddo mvs me kc kd tl K td e1 e2 k1 k2 n, News h₀ L h ((hand, oh) :: (c, co) :: (dd, ddo) :: (md, listOf (List.toArray mvs) me) :: (u, uo) :: (t, instObj 168 td) :: (td, dictOf [⟨e1, .str "classes" k1, .ref c⟩, ⟨e2, .str "unions" k2, .ref u⟩] n) :: (cell, oC) :: (I, oI) :: tl) → @Ne Nat hand I → @Ne Nat c I → @Ne Nat dd I → @Ne Nat md I → @Ne Nat u I → AllNe I tl → (i ≤ 4 → mvs.length = i) →
      @Ne Nat t hand → @Ne Nat td hand → @Ne Nat cell hand → @Ne Nat t c → @Ne Nat td c → @Ne Nat cell c → @Ne Nat t dd → @Ne Nat td dd → @Ne Nat cell dd → @Ne Nat t md → @Ne Nat td md → @Ne Nat cell md → @Ne Nat t u → @Ne Nat td u → @Ne Nat cell u → @Ne Nat t I → @Ne Nat td I → @Ne Nat cell I → LawS w hand cl c dd md t u cell ns uo oC i oh co ddo mvs me kc kd tl K → P) : P := by
  obtain ⟨oh, co, ddo, mvs, me, kc, kd, tl, K, rfl, S⟩ := J
  rw [List.append_nil] at hI
  obtain ⟨a1, a2, a3, a4, a5, a6⟩ := hI
  obtain ⟨td, e1, e2, k1, k2, n, m1, m2⟩ := S.hT.inst
  have m3 := S.hF.cell
  have D := S.hDi
  refine k oh co ddo mvs me kc kd tl K td e1 e2 k1 k2 n (News.of N (by walk_at "SUB")) a1 a2 a3 a4 a5 a6 (fun h4 => ?_) (allNe_mem D.a _ m1) (allNe_mem D.a _ m2) (allNe_mem D.a _ m3) (allNe_mem D.b _ m1) (allNe_mem D.b _ m2) (allNe_mem D.b _ m3) (allNe_mem D.d _ m1) (allNe_mem D.d _ m2) (allNe_mem D.d _ m3) (allNe_mem D.e _ m1) (allNe_mem D.e _ m2) (allNe_mem D.e _ m3) (allNe_mem D.f _ m1) (allNe_mem D.f _ m2) (allNe_mem D.f _ m3) (allNe_mem a6 _ m1) (allNe_mem a6 _ m2) (allNe_mem a6 _ m3) S
  rw [StrsAre.len_eq S.hM, S.hK.keys, List.length_take]; exact Nat.min_eq_left h4
theorem loopRb {w : World} {A : Around} {target : Expr} {body : List Stmt} {env : Env} {Q : Flow → Shared → Prop} {s : Shared} {r : Addr} {b : Int} {t0 t1 t2 : Tok}
    {h₀ : Heap} {m₀ : Str → Option Value} {news₀ held : List (Addr × Obj)} (xs : List Str) (J : Nat → List (Addr × Obj) → Prop)
    (hh : A.handled = none) (hr : IsRange s.heap r 0 b 1 t0 t1 t2) (h0 : 0 ≤ b) (h1 : b < 1000)
    (F : Fr h₀ env.locals s.heap m₀) (N : News h₀ env.locals s.heap (news₀ ++ held)) (hj : J 0 news₀)
    (turn : ∀ (i : Nat) t (u : Str → Option Value) news₁ h tk I oI, (i : Int) < b → J i news₁ → AllNe I (news₁ ++ held) → Fr h₀ env.locals h (fun y => if xs.contains y then u y else m₀ y) → News h₀ env.locals h (news₁ ++ (I, oI) :: held) →
      wpAny (model PG w) A (assign target env (.int i t)) (fun _ s₂ => wpAny (model PG w) A (execs body env) (TE h₀ env.locals xs m₀ (J (i + 1)) I ((I, oI) :: held) s Q) (fun _ _ => False) s₂) (fun _ _ => False) { s with heap := h, toks := tk })
    (done : ∀ (n : Nat) (u : Str → Option Value) news₁ h tk, (n : Int) = b → J n news₁ → Fr h₀ env.locals h (fun y => if xs.contains y then u y else m₀ y) → News h₀ env.locals h (news₁ ++ held) → Q .next { s with heap := h, toks := tk }) :
    AtFor w A target body env Q (.ref r) s := by
  obtain ⟨n, rfl⟩ := Int.eq_ofNat_of_zero_le h0
  exact loopR (n := n) xs J hh hr rfl (by omega) F N hj (fun i t u news₁ h tk I oI hi => turn i t u news₁ h tk I oI (by omega)) fun u news₁ h tk => done n u news₁ h tk rfl
structure InS (hand ct cl : Addr) (len : Nat) (B : List Str) (j : Nat) (oh : Obj) (vs : List Value) (e : Nat) (ys : List Str) : Prop where
  hO : HandOk oh cl len
  hS : StrsAre vs ys
  nd : ys.Nodup
  le : ys.length ≤ j
  mem : ∀ y ∈ ys, y ∈ B
noncomputable def InJ (hand ct cl : Addr) (len : Nat) (B : List Str) (j : Nat) (nx : List (Addr × Obj)) : Prop :=
  ∃ oh vs e ys, nx = [(hand, oh), (ct, listOf (List.toArray vs) e)] ∧ InS hand ct cl len B j oh vs e ys
theorem InJ.start {hand ct cl : Addr} {len : Nat} {B : List Str} {oh : Obj} {e : Nat} (hO : HandOk oh cl len) : InJ hand ct cl len B 0 [(hand, oh), (ct, listOf (List.toArray []) e)] := ⟨_, _, _, [], rfl, hO, .nil, .nil, Nat.le_refl _, fun _ h => nomatch h⟩
section
variable {w : World} {A : Around} {E : Value → Shared → Prop} {s : Shared} {h₀ : Heap} {L : Addr} {news : List (Addr × Obj)} {Q : Value → Shared → Prop}
theorem item_strs {l : Addr} {value slice : Expr} {vs : List Value} {ys : List Str} {e : Nat} {i : Int} {u : Tok} (N : News h₀ L s.heap news) (hm : (l, listOf (List.toArray vs) e) ∈ news) (S : StrsAre vs ys) (h0 : 0 ≤ i) (h1 : i < vs.length) (hle : vs.length ≤ 100000) (h : ∀ x t, ys[i.toNat]? = some x → Q (.str x t) s)
    (hs : subscripted slice false (.ref l) (.int i u) = operate [.ref l, .int i u] (getItem (.ref l) (.int i u))) :
    wpAny (model PG w) A (subscriptTail value slice (.ref l) (.int i u)) Q E s := by
  have hi : i.toNat < vs.length := by omega
  have hv : vs[i.toNat]? = some vs[i.toNat] := List.getElem?_eq_getElem hi
  obtain ⟨x, t, e1, e2⟩ := S.item _ _ hv
  rw [e1] at hv
  have hL := News.isList N hm
  exact tail_any hL.typeIs slot_list_getitem.lookup (wpAny_getItem_list hL h0 (by omega) (by simpa using hv) (h x t e2)) hs
end
theorem strs_pool {vs : List Value} {ys : List Str} {a b : Str} {t t' : Tok} (S : StrsAre vs ys) : StrsAre (vs ++ [.str a t, .str b t']) (ys ++ [a, b]) := S.append' (.cons _ _ (.cons _ _ .nil))
theorem strs_pool1 {vs : List Value} {ys : List Str} {a : Str} {t : Tok} (S : StrsAre vs ys) : StrsAre (vs ++ [.str a t]) (ys ++ [a]) := S.append' (.cons _ _ .nil)
local macro_rules | `(tactic| walk_at "LEN") => `(tactic| first | omega | (simp only [List.length_append, List.length_cons, List.length_nil]; omega))
local macro_rules | `(tactic| walk_at "STRS") => `(tactic| first | (with_reducible assumption) | exact strs_pool (by with_reducible assumption) | exact strs_pool1 (by with_reducible assumption))
section
variable {h₀ : Heap} {L : Addr} {xs : List Str} {m₀ m' : Str → Option Value} {I hand ct cl : Addr} {own news : List (Addr × Obj)} {s : Shared} {Q : Flow → Shared → Prop} {h' : Heap} {tk' len j e : Nat} {B ys : List Str} {oh oh0 : Obj} {vs : List Value}
theorem TE.in0 (F : Fr h₀ L h' m') (N : News h₀ L h' news) (hn : ∀ p ∈ [(hand, oh), (ct, listOf (List.toArray vs) e)], p ∈ news) (ho : ∀ p ∈ own, p ∈ news) (h1 : @Ne Nat hand I) (h2 : @Ne Nat ct I) (S : InS hand ct cl len B j oh0 vs e ys) (hO : HandOk oh cl len) (hm : ∀ y, xs.contains y = false → m' y = m₀ y) :
    TE h₀ L xs m₀ (InJ hand ct cl len B (j + 1)) I own s Q .next { s with heap := h', toks := tk' } :=
  TE.next F N hn ho ⟨h1, h2, trivial⟩ ⟨_, _, _, _, rfl, hO, S.hS, S.nd, Nat.le_succ_of_le S.le, S.mem⟩ hm
theorem TE.in1 {k e' : Nat} {x : Str} {t : Tok} (F : Fr h₀ L h' m') (N : News h₀ L h' news) (hn : ∀ p ∈ [(hand, oh), (ct, listOf (List.toArray (vs ++ [.str x t])) e')], p ∈ news) (ho : ∀ p ∈ own, p ∈ news) (h1 : @Ne Nat hand I) (h2 : @Ne Nat ct I) (S : InS hand ct cl len B j oh0 vs e ys) (hO : HandOk oh cl len)
    (hx : B[k]? = some x) (hno : (ys.any fun z => z == x) = false) (hm : ∀ y, xs.contains y = false → m' y = m₀ y) :
    TE h₀ L xs m₀ (InJ hand ct cl len B (j + 1)) I own s Q .next { s with heap := h', toks := tk' } := by
  refine TE.next F N hn ho ⟨h1, h2, trivial⟩ ⟨_, _, _, ys ++ [x], rfl, hO, strs_pool1 S.hS, ?_, ?_, ?_⟩ hm
  · refine List.nodup_append.mpr ⟨S.nd, by simp, fun a ha b hb => ?_⟩
    rw [List.mem_singleton.mp hb]
    rintro rfl
    have := List.any_eq_false.mp hno a ha
    simp at this
  · rw [List.length_append]; have := S.le; simp; omega
  · intro y hy
    rcases List.mem_append.mp hy with hy | hy
    · exact S.mem y hy
    · rw [List.mem_singleton.mp hy]; exact List.mem_of_getElem? hx
end
theorem subCons {a : Addr × Obj} {l Y : List (Addr × Obj)} (h : ∀ p ∈ l, p ∈ Y) : ∀ p ∈ l, p ∈ a :: Y := fun p hp => .tail _ (h p hp)
local macro_rules | `(tactic| walk_at "SUBM") => `(tactic| first | exact List.forall_mem_nil _ | exact fun _ hp => hp | (refine List.forall_mem_cons.mpr ⟨?a, ?b⟩; (case a => walk_at "MEM"); (case b => walk_at "SUBM")) | (refine subCons ?_; walk_at "SUBM"))
theorem news_swap {h₀ h : Heap} {L : Addr} {a b : Addr × Obj} {l : List (Addr × Obj)} (N : News h₀ L h (a :: b :: l)) : News h₀ L h ([b, a] ++ l) := News.of N fun p hp => by
  simp only [List.mem_cons, List.mem_append, List.cons_append, List.not_mem_nil, or_false, List.nil_append] at hp ⊢
  rcases hp with h | h | h <;> simp [h]

noncomputable def inK (K : List (Str × List Str)) (z : Str) : Prop := z ∈ K.map (·.1) ∨ z ∈ (["integer", "numeric", "vector"] : List Str)
theorem KInv.row {K : List (Str × List Str)} {n : Nat} (h : KInv K n) {x : Str} {ys : List Str} (hm : (x, ys) ∈ K) : ys.Nodup ∧ ys.length ≤ 2 ∧ ∀ y ∈ ys, y ∈ K.map (·.1) ++ (["integer", "numeric"] : List Str) := by
  obtain ⟨j, hj, e⟩ := List.getElem_of_mem hm
  have e' : K[j]? = some (x, ys) := by rw [List.getElem?_eq_getElem hj, e]
  obtain ⟨a, b, c⟩ := h.rows j x ys e'
  refine ⟨a, b, fun y hy => ?_⟩
  have hjn : j ≤ n := by
    have h1 : (K.map (·.1)).length = (knames.take n).length := by rw [h.keys]
    rw [List.length_map, List.length_take] at h1
    omega
  rcases List.mem_append.mp (c y hy) with q | q
  · refine List.mem_append_left _ ?_
    rw [h.keys]
    have : knames.take j = (knames.take n).take j := by rw [List.take_take, Nat.min_eq_left hjn]
    rw [this] at q
    exact List.mem_of_mem_take q
  · exact List.mem_append_right _ q
theorem KInv.len {K : List (Str × List Str)} {n : Nat} (h : KInv K n) : K.length ≤ 4 := by
  have h1 : (K.map (·.1)).length = (knames.take n).length := by rw [h.keys]
  rw [List.length_map, List.length_take] at h1
  have : knames.length = 4 := rfl
  omega
theorem KInv.flat {K : List (Str × List Str)} {n : Nat} (h : KInv K n) : (K.flatMap (·.2)).length ≤ 2 * K.length := by
  have : ∀ p ∈ K, p.2.length ≤ 2 := fun p hp => (h.row (x := p.1) (ys := p.2) hp).2.1
  clear h
  induction K with
  | nil => simp
  | cons p K ih =>
    have h1 := this p (.head _)
    have h2 := ih fun q hq => this q (.tail _ hq)
    simp only [List.flatMap_cons, List.length_append, List.length_cons]
    omega
theorem KInv.closed {K : List (Str × List Str)} {n : Nat} (h : KInv K n) : ∀ x, inK K x → ∀ y ∈ parentsOf K [] x, inK K y := by
  intro x hx y hy
  replace hy : y ∈ baseParents K x := hy
  unfold baseParents at hy
  cases e : at? K x with
  | some ys =>
    rw [e] at hy
    rcases List.mem_append.mp ((h.row (at?_mem e)).2.2 y hy) with q | q
    · exact .inl q
    · exact .inr (by
        simp only [List.mem_cons, List.not_mem_nil, or_false] at q ⊢
        rcases q with q | q <;> simp [q])
  | none =>
    rw [e] at hy
    rcases hx with hx | hx
    · obtain ⟨p, hp, rfl⟩ := List.mem_map.mp hx
      have hn : (K.map (·.1)).Nodup := by rw [h.keys]; exact List.Nodup.sublist (List.take_sublist _ _) (by decide)
      rw [at?_of_mem hn hp] at e
      cases e
    · simp only [List.mem_cons, List.not_mem_nil, or_false] at hx
      refine .inr ?_
      dsimp only at hy
      clear e h
      rcases hx with rfl | rfl | rfl
      · revert hy; revert y; decide +kernel
      · revert hy; revert y; decide +kernel
      · revert hy; revert y; decide +kernel
theorem knames_kn {i : Nat} (hi : i < 4) : ∃ nm, knames[i]? = some nm ∧ nm ∉ knames.take i ∧ nm ∉ (["integer", "numeric", "vector", "ANY", "U0", "Between"] : List Str) := by
  match i, hi with
  | 0, _ => exact ⟨"K0", rfl, by decide +kernel, by decide +kernel⟩
  | 1, _ => exact ⟨"K1", rfl, by decide +kernel, by decide +kernel⟩
  | 2, _ => exact ⟨"K2", rfl, by decide +kernel, by decide +kernel⟩
  | 3, _ => exact ⟨"K3", rfl, by decide +kernel, by decide +kernel⟩
/-- what define asks of a new class -/
theorem KInv.define {K : List (Str × List Str)} {n : Nat} (h : KInv K n) {nm : Str} (h1 : nm ∉ K.map (·.1)) (h2 : nm ∉ (["integer", "numeric", "vector", "ANY", "U0", "Between"] : List Str)) {ys : List Str} (hy : ∀ y ∈ ys, y ∈ K.map (·.1) ++ (["integer", "numeric"] : List Str)) :
    (∀ x k, (bst (parentsOf K []) x k).length ≤ 100) ∧ (∀ y ∈ ys, ((at? K y).isSome || basicNames.any (· == y)) = true) ∧ (∀ y ∈ ys, (y == nm) = false) ∧ (∀ y ∈ ys, ∀ k, distOf y nm (supersFrom y (bst (parentsOf K []) y k)) = none) := by
  have hn : (K.map (·.1)).Nodup := by rw [h.keys]; exact List.Nodup.sublist (List.take_sublist _ _) (by decide)
  have hin : ∀ y ∈ ys, inK K y := fun y hm => by
    rcases List.mem_append.mp (hy y hm) with q | q
    · exact .inl q
    · refine .inr ?_
      simp only [List.mem_cons, List.not_mem_nil, or_false] at q ⊢
      rcases q with q | q <;> simp [q]
  have hnm : ¬ inK K nm := fun q => by
    rcases q with q | q
    · exact h1 q
    · refine h2 ?_
      simp only [List.mem_cons, List.not_mem_nil, or_false] at q ⊢
      rcases q with q | q | q <;> simp [q]
  refine ⟨fun x k => bst_len (by have := h.flat; have := h.len; simp only [List.length_nil]; omega) x k, fun y hm => ?_, fun y hm => ?_, fun y hm k => dist_closed h.closed (hin y hm) hnm (fun e => h2 (e ▸ by simp)) k⟩
  · rcases List.mem_append.mp (hy y hm) with q | q
    · obtain ⟨p, hp, rfl⟩ := List.mem_map.mp q
      rw [at?_of_mem hn hp]; rfl
    · simp only [List.mem_cons, List.not_mem_nil, or_false] at q
      rcases q with rfl | rfl
      · rw [show basicNames.any (· == ("integer" : Str)) = true from by decide +kernel, Bool.or_true]
      · rw [show basicNames.any (· == ("numeric" : Str)) = true from by decide +kernel, Bool.or_true]
  · exact beq_eq_false_iff_ne.mpr fun e => hnm (e ▸ hin y hm)
theorem kn_at {i : Nat} (hi : i < 4) : knames[i]? = some (Str.ofString "K" ++ Str.ofString (toString (i : Int))) ∧ (Str.ofString "K" ++ Str.ofString (toString (i : Int))) ∉ knames.take i ∧ (Str.ofString "K" ++ Str.ofString (toString (i : Int))) ∉ (["integer", "numeric", "vector", "ANY", "U0", "Between"] : List Str) := by
  match i, hi with
  | 0, _ => exact ⟨by decide +kernel, by decide +kernel, by decide +kernel⟩
  | 1, _ => exact ⟨by decide +kernel, by decide +kernel, by decide +kernel⟩
  | 2, _ => exact ⟨by decide +kernel, by decide +kernel, by decide +kernel⟩
  | 3, _ => exact ⟨by decide +kernel, by decide +kernel, by decide +kernel⟩
theorem cls_of {tl : List (Addr × Obj)} {x dx cl sl : Addr} {e1 e2 e3 e4 e5 e6 : Int} {k1 k2 k3 k4 k5 k6 tn : Tok} {v4 v5 v6 : Value} {n e1' e2' : Nat} {nm : Str} {vs : List Value} {ys : List Str}
    (m1 : (x, instObj 63 dx) ∈ tl) (m2 : (dx, dictOf [⟨e1, .str "name" k1, .str nm tn⟩, ⟨e2, .str "slots" k2, .ref sl⟩, ⟨e3, .str "contains" k3, .ref cl⟩, ⟨e4, .str "validity" k4, v4⟩, ⟨e5, .str "virtual" k5, v5⟩, ⟨e6, .str "prototype" k6, v6⟩] n) ∈ tl)
    (m3 : (cl, listOf (List.toArray vs) e1') ∈ tl) (m4 : (sl, listOf (List.toArray []) e2') ∈ tl) (S : StrsAre vs ys) (hle : ys.length ≤ 1000) : ∀ h, In tl h → ClsAt h (.ref x) nm ys := fun h H =>
  ⟨x, dx, cl, sl, e1, e2, e3, e4, e5, e6, k1, k2, k3, k4, k5, k6, tn, v4, v5, v6, n, e2', rfl, ⟨H _ m1, rfl, rfl, H _ m2⟩, ⟨vs, e1', H _ m3, S, hle⟩, H _ m4⟩
theorem cls_news {h₀ h : Heap} {L : Addr} {tl : List (Addr × Obj)} {x : Value} {nm : Str} {ys : List Str} (N : News h₀ L h tl) (C : ∀ h, In tl h → ClsAt h x nm ys) : ClsAt h x nm ys := C h fun p hp => (N p hp).1
theorem TabL.kc_le {w : World} {tl : List (Addr × Obj)} {t c u : Addr} {co uo : Obj} {kc ku : List (Str × Value)} {D U : List (Str × List Str)} (T : TabL w tl t c u co uo kc ku D U) (h : D.length ≤ 100000) : kc.length ≤ 100000 := by rw [T.ec.length]; exact h

theorem ltNe {news : List (Addr × Obj)} {D x : Nat} {o : Obj} (l : ∀ p ∈ news, @LT.lt Nat _ p.1 D) (m : (x, o) ∈ news) : @Ne Nat x D := Nat.ne_of_lt (l (x, o) m)
theorem ltNe' {news : List (Addr × Obj)} {D x : Nat} {o : Obj} (l : ∀ p ∈ news, @LT.lt Nat _ p.1 D) (m : (x, o) ∈ news) : @Ne Nat D x := Nat.ne_of_gt (l (x, o) m)
theorem ltAll {news tl : List (Addr × Obj)} {D : Nat} (l : ∀ p ∈ news, @LT.lt Nat _ p.1 D) (m : ∀ p ∈ tl, p ∈ news) : ∀ p ∈ tl, p.1 ≠ D := fun p hp => Nat.ne_of_lt (l p (m p hp))
theorem apAll {news tn : List (Addr × Obj)} {x : Nat} {o : Obj} (A : AllApart news tn) (m : (x, o) ∈ news) : ∀ p ∈ tn, p.1 ≠ x := allNe_mem (allApart_mem A (x, o) m)
theorem apNe {news tn : List (Addr × Obj)} {x : Nat} {o : Obj} (A : AllApart news tn) (m : (x, o) ∈ news) : AllNe x tn := allApart_mem A (x, o) m
theorem neD {news : List (Addr × Obj)} {D x : Nat} {o : Obj} (l : ∀ p ∈ news, @Ne Nat p.1 D) (m : (x, o) ∈ news) : @Ne Nat x D := l (x, o) m
theorem neD' {news : List (Addr × Obj)} {D x : Nat} {o : Obj} (l : ∀ p ∈ news, @Ne Nat p.1 D) (m : (x, o) ∈ news) : @Ne Nat D x := Ne.symm (l (x, o) m)
theorem neAll {news tl : List (Addr × Obj)} {D : Nat} (l : ∀ p ∈ news, @Ne Nat p.1 D) (m : ∀ p ∈ tl, p ∈ news) : ∀ p ∈ tl, p.1 ≠ D := fun p hp => l p (m p hp)
theorem led_pairN {h₀ h h' : Heap} {L x dx : Addr} {m : Str → Option Value} {news : List (Addr × Obj)} {o1 o2 : Obj} (F : Fr h₀ L h m) (N : News h₀ L h news) (k : Sub h h') (n1 : h.get? x = none) (n2 : h.get? dx = none) (g1 : h'.get? x = some o1) (g2 : h'.get? dx = some o2) :
    Fr h₀ L h' m ∧ News h₀ L h' ((x, o1) :: (dx, o2) :: news) ∧ (∀ p ∈ news, @Ne Nat p.1 x) ∧ (∀ p ∈ news, @Ne Nat p.1 dx) :=
  let ⟨F', N', _⟩ := led_pair F N k n1 n2 g1 g2
  ⟨F', N', (fun p hp e => by have h1 := (N p hp).1; have e' : p.1 = x := e; rw [e', n1] at h1; exact nomatch h1), (fun p hp e => by have h1 := (N p hp).1; have e' : p.1 = dx := e; rw [e', n2] at h1; exact nomatch h1)⟩
theorem led_fourN {h₀ h h' : Heap} {L a b c d : Addr} {m : Str → Option Value} {news : List (Addr × Obj)} {o1 o2 o3 o4 : Obj} (F : Fr h₀ L h m) (N : News h₀ L h news) (k : Sub h h') (g : ∀ p ∈ [(a, o1), (b, o2), (c, o3), (d, o4)], h'.get? p.1 = some p.2 ∧ h.get? p.1 = none) :
    Fr h₀ L h' m ∧ News h₀ L h' ((a, o1) :: (b, o2) :: (c, o3) :: (d, o4) :: news) ∧ (∀ p ∈ news, @Ne Nat p.1 a) ∧ (∀ p ∈ news, @Ne Nat p.1 b) ∧ (∀ p ∈ news, @Ne Nat p.1 c) ∧ (∀ p ∈ news, @Ne Nat p.1 d) := by
  obtain ⟨F', N', _⟩ := led_news2 F N k g
  have z : ∀ q ∈ [(a, o1), (b, o2), (c, o3), (d, o4)], ∀ p ∈ news, @Ne Nat p.1 q.1 := fun q hq p hp e => by
    have h1 := (N p hp).1
    have e' : p.1 = q.1 := e
    rw [e', (g q hq).2] at h1; cases h1
  exact ⟨F', N', z _ (.head _), z _ (.tail _ (.head _)), z _ (.tail _ (.tail _ (.head _))), z _ (.tail _ (.tail _ (.tail _ (.head _))))⟩
local macro_rules | `(tactic| k_lt $h) => `(tactic| skip)
local macro_rules | `(tactic| walk_at "LTX") => `(tactic| first | (refine' neD ?l ?m; (case l => with_reducible assumption); (case m => walk_at "MEM")) | (refine' neD' ?l ?m; (case l => with_reducible assumption); (case m => walk_at "MEM")) | (refine' ltNe ?l ?m; (case l => with_reducible assumption); (case m => walk_at "MEM")) | (refine' ltNe' ?l ?m; (case l => with_reducible assumption); (case m => walk_at "MEM")))
local macro_rules | `(tactic| k_ne) => `(tactic| (refine neN ?_; (try dsimp only); first | with_reducible assumption | exact Ne.symm (by with_reducible assumption) | walk_at "LTX" | omega))
local macro_rules | `(tactic| k_all) => `(tactic| first | (refine' neAll ?l ?m; (case l => with_reducible assumption); (case m => walk_at "SUBM")) | (refine' ltAll ?l ?m; (case l => with_reducible assumption); (case m => walk_at "SUBM")) | (refine' apAll ?l ?m; (case l => with_reducible assumption); (case m => walk_at "MEM")))
local macro_rules | `(tactic| k_all) => `(tactic| (refine' List.forall_mem_cons.mpr ⟨?a, ?b⟩; (case a => k_ne); (case b => k_all)))
theorem storedD_new {δ : Type} {D : List (Str × δ)} {x : Str} (h : x ∉ D.map (·.1)) (v : δ) : storedD D x v = D ++ [(x, v)] := by
  unfold storedD
  rw [if_neg]
  intro e
  obtain ⟨p, hp, q⟩ := List.any_eq_true.mp e
  exact h (List.mem_map.mpr ⟨p, hp, by simpa using q⟩)
theorem KInv.next {K : List (Str × List Str)} {i : Nat} (h : KInv K i) {nm : Str} {ys : List Str} (k1 : knames[i]? = some nm) (n : ys.Nodup) (l : ys.length ≤ 2) (m : ∀ y ∈ ys, y ∈ K.map (·.1) ++ (["integer", "numeric"] : List Str)) : KInv (K ++ [(nm, ys)]) (i + 1) := by
  have hi : i < 4 := (List.getElem?_eq_some_iff.mp k1).1
  have hl : K.length = i := by
    have h1 : (K.map (·.1)).length = (knames.take i).length := by rw [h.keys]
    rw [List.length_map, List.length_take] at h1
    have : knames.length = 4 := rfl
    omega
  refine ⟨?_, fun j x zs e => ?_⟩
  · rw [List.map_append, h.keys, List.take_add_one, k1]; rfl
  · by_cases hj : j < K.length
    · rw [List.getElem?_append_left hj] at e
      exact h.rows j x zs e
    · have hj2 : j = i := by
        have := (List.getElem?_eq_some_iff.mp e).1
        simp at this
        omega
      subst hj2
      rw [List.getElem?_append_right (by omega), hl] at e
      simp at e
      obtain ⟨rfl, rfl⟩ := e
      rw [h.keys] at m
      exact ⟨n, l, m⟩
theorem LawJ.next {w : World} {hand cl c dd md t u cell x ct : Addr} {ns : List Int} {uo oC oh co ddo oh' co' ddo' : Obj} {i j len e6 me me' : Nat} {mvs vs6 : List Value} {kc kd : List (Str × Value)} {tl tl' : List (Addr × Obj)} {K : List (Str × List Str)} {nm : Str} {tn : Tok} {ys : List Str}
    (S : LawS w hand cl c dd md t u cell ns uo oC i oh co ddo mvs me kc kd tl K) (k1 : knames[i]? = some nm) (k2 : nm ∉ K.map (·.1)) (k3 : nm ∉ (["integer", "numeric", "vector", "ANY", "U0", "Between"] : List Str))
    (I : InS hand ct cl len (K.map (·.1) ++ (["integer", "numeric"] : List Str)) j oh' vs6 e6 ys) (hlen : len = ns.length) (hj : j ≤ 2)
    (hc : co'.IsDictOf (strKind PG w) (stored kc nm (.ref x))) (hd : ddo'.IsDictOf (strKind PG w) (stored kd nm (.ref ct)))
    (hx : ∀ h, In tl' h → ClsAt h (.ref x) nm ys) (hm : ∀ p ∈ tl, p ∈ tl') (hct : (ct, listOf (List.toArray vs6) e6) ∈ tl') (D : Dist hand c dd md u tl') :
    LawJ w hand cl c dd md t u cell ns uo oC (i + 1) ((hand, oh') :: (c, co') :: (dd, ddo') :: (md, listOf (List.toArray (mvs ++ [.str nm tn])) me') :: (u, uo) :: tl') := by
  subst hlen
  have hl : ys.length ≤ 2 := Nat.le_trans I.le hj
  have hT := (S.hT.more hm).define hc hx
  rw [storedD_new k2] at hT
  have hD := (S.hD.more hm).put hd hct I.hS (by omega)
  have k4 : nm ∉ (basics3 ++ K).map (·.1) := by
    rw [List.map_append, List.mem_append]
    rintro (h | h)
    · refine k3 ?_
      have h' : nm ∈ (["integer", "numeric", "vector"] : List Str) := h
      simp only [List.mem_cons, List.not_mem_nil, or_false] at h' ⊢
      rcases h' with h' | h' | h' <;> simp [h']
    · exact k2 h
  rw [storedD_new k4, List.append_assoc] at hD
  exact ⟨oh', co', ddo', _, me', _, _, tl', K ++ [(nm, ys)], rfl, I.hO, hT, hD, by rw [List.map_append]; exact S.hM.append' (.cons _ _ .nil), S.hK.next k1 I.nd hl I.mem, S.hF.more hm, D⟩
theorem TE.law {w : World} {hand cl c dd md t u cell x dx cl' sl ct : Addr} {ns : List Int} {uo oC oh co ddo oh' co' ddo' : Obj} {i j len e6 me me' : Nat} {mvs vs6 vsC : List Value} {kc kd : List (Str × Value)} {tl : List (Addr × Obj)} {K : List (Str × List Str)} {nm : Str} {tn : Tok} {ys : List Str}
    {e1 e2 e3 e4 e5 e7 : Int} {k1 k2 k3 k4 k5 k6 tm : Tok} {v4 v5 v6 : Value} {n e1' e2' : Nat}
    {h₀ : Heap} {L : Addr} {xs : List Str} {m₀ m' : Str → Option Value} {I : Addr} {own news : List (Addr × Obj)} {s : Shared} {Q : Flow → Shared → Prop} {h' : Heap} {tk' : Nat}
    (F : Fr h₀ L h' m') (N : News h₀ L h' news)
    (hn : ∀ p ∈ (hand, oh') :: (c, co') :: (dd, ddo') :: (md, listOf (List.toArray (mvs ++ [.str nm tn])) me') :: (u, uo) :: (x, instObj 63 dx) :: (dx, dictOf [⟨e1, .str "name" k1, .str nm tm⟩, ⟨e2, .str "slots" k2, .ref sl⟩, ⟨e3, .str "contains" k3, .ref cl'⟩, ⟨e4, .str "validity" k4, v4⟩, ⟨e5, .str "virtual" k5, v5⟩, ⟨e7, .str "prototype" k6, v6⟩] n) :: (cl', listOf (List.toArray vsC) e1') :: (sl, listOf (List.toArray []) e2') :: (ct, listOf (List.toArray vs6) e6) :: tl, p ∈ news)
    (ho : ∀ p ∈ own, p ∈ news) (S : LawS w hand cl c dd md t u cell ns uo oC i oh co ddo mvs me kc kd tl K) (kk : knames[i]? = some nm) (kj : nm ∉ K.map (·.1)) (kb : nm ∉ (["integer", "numeric", "vector", "ANY", "U0", "Between"] : List Str))
    (J : InS hand ct cl len (K.map (·.1) ++ (["integer", "numeric"] : List Str)) j oh' vs6 e6 ys) (hlen : len = ns.length) (hj : j ≤ 2) (SC : StrsAre vsC ys)
    (hc : co'.IsDictOf (strKind PG w) (stored kc nm (.ref x))) (hd : ddo'.IsDictOf (strKind PG w) (stored kd nm (.ref ct)))
    (q1 : AllNe hand [(x, oC), (dx, oC), (cl', oC), (sl, oC), (ct, oC)]) (q2 : AllNe c [(x, oC), (dx, oC), (cl', oC), (sl, oC), (ct, oC)]) (q3 : AllNe dd [(x, oC), (dx, oC), (cl', oC), (sl, oC), (ct, oC)]) (q4 : AllNe md [(x, oC), (dx, oC), (cl', oC), (sl, oC), (ct, oC)]) (q5 : AllNe u [(x, oC), (dx, oC), (cl', oC), (sl, oC), (ct, oC)])
    (q6 : AllNe I [(hand, oC), (c, oC), (dd, oC), (md, oC), (u, oC), (x, oC), (dx, oC), (cl', oC), (sl, oC), (ct, oC)]) (q7 : AllNe I tl) (hm : ∀ y, xs.contains y = false → m' y = m₀ y) :
    TE h₀ L xs m₀ (LawJ w hand cl c dd md t u cell ns uo oC (i + 1)) I own s Q .next { s with heap := h', toks := tk' } := by
  obtain ⟨a1, a2, a3, a4, a5, a6, a7, a8, a9, a0, _⟩ := q6
  have hl : ys.length ≤ 1000 := by have := J.le; omega
  obtain ⟨b1, b2, b3, b4, b5, b6, b7, b8, b9, b10, b11, b12, b13, b14, b15⟩ := id S.hDi
  refine TE.next F N hn ho ⟨a1, a2, a3, a4, a5, a6, a7, a8, a9, a0, q7⟩ ?_ hm
  refine LawJ.next S kk kj kb J hlen hj hc hd (cls_of (.head _) (.tail _ (.head _)) (.tail _ (.tail _ (.head _))) (.tail _ (.tail _ (.tail _ (.head _)))) SC hl) (fun p hp => .tail _ (.tail _ (.tail _ (.tail _ (.tail _ hp))))) (by simp) ⟨?_, ?_, ?_, ?_, ?_, b6, b7, b8, b9, b10, b11, b12, b13, b14, b15⟩
  · obtain ⟨c1, c2, c3, c4, c5, _⟩ := q1; exact ⟨c1, c2, c3, c4, c5, b1⟩
  · obtain ⟨c1, c2, c3, c4, c5, _⟩ := q2; exact ⟨c1, c2, c3, c4, c5, b2⟩
  · obtain ⟨c1, c2, c3, c4, c5, _⟩ := q3; exact ⟨c1, c2, c3, c4, c5, b3⟩
  · obtain ⟨c1, c2, c3, c4, c5, _⟩ := q4; exact ⟨c1, c2, c3, c4, c5, b4⟩
  · obtain ⟨c1, c2, c3, c4, c5, _⟩ := q5; exact ⟨c1, c2, c3, c4, c5, b5⟩

section
variable {w : World} {s : Shared} {Q : Value → Shared → Prop} {h₀ : Heap} {L : Addr} {m mg mb : Str → Option Value} {news tl : List (Addr × Obj)}
theorem led_app {h h' : Heap} {l : List (Addr × Obj)} (F : Fr h₀ L h m) (N : News h₀ L h news) (k : Sub h h') (hn : ∀ p ∈ l, h'.get? p.1 = some p.2 ∧ h.get? p.1 = none) :
    Fr h₀ L h' m ∧ News h₀ L h' (news ++ l) ∧ AllApart news l := by
  obtain ⟨a, b, c⟩ := led_news2 F N k hn
  exact ⟨a, News.of b fun p hp => by rcases List.mem_append.mp hp with hp | hp <;> simp [hp], c⟩
theorem near_led {d un : Addr} {ddo uno : Obj} {kd kn : List (Str × Value)} {D U : List (Str × List Str)} (X : (KF w.params).In h₀) (T : TR mg mb h₀) (F : Fr h₀ L s.heap m) (N : News h₀ L s.heap news)
    (HD : DirL w tl ddo kd D) (HU : DirL w tl uno kn U) (md : (d, ddo) ∈ news) (mu : (un, uno) ∈ news) (htl : ∀ p ∈ tl, p ∈ news) (nd : (d == sysModules) = false) (nu : (un == sysModules) = false)
    (hn : ((D ++ U).map (·.1)).Nodup) (hD : D.length ≤ 1000) (hU : U.length ≤ 500) (hDl : ∀ p ∈ D, p.2.length ≤ 500)
    (h : ∀ h' tk a tn, Fr h₀ L h' m → News h₀ L h' (news ++ tn) → AllApart news tn → (∀ h, In tn h → Adj w h a (nearOf D U)) → Q (.ref a) { s with heap := h', toks := tk }) :
    wpAny (model PG w) (AL 0) (call (.ref 193) [.ref d, .ref un]) Q (fun _ _ => False) s := by
  have k : In tl s.heap := fun p hp => (N p (htl p hp)).1
  refine near_spec X T F.keep (HD.at (N _ md).1 nd k) (HU.at (N _ mu).1 nu k) hn hD hU hDl fun h' tk a tn s' f' A' => ?_
  obtain ⟨F', N', l'⟩ := led_app F N s' f'
  exact h h' tk a tn F' N' l' A'
theorem ways_led {a : Addr} {NN : List (Str × List Str)} (X : (KF w.params).In h₀) (T : TR mg mb h₀) (F : Fr h₀ L s.heap m) (N : News h₀ L s.heap news) (HA : ∀ h, In tl h → Adj w h a NN) (htl : ∀ p ∈ tl, p ∈ news) (h64 : NN.length < 64) (hcl : ∀ p ∈ NN, ∀ y ∈ p.2, y ∈ NN.map (·.1))
    (h : ∀ h' tk a f tn, Fr h₀ L h' m → News h₀ L h' (news ++ tn) → AllApart news tn → (∀ h, In tn h → WaysAt w h a (NN.map (·.1)) f) → (∃ wo xs, (a, wo) ∈ tn ∧ WTab w wo tn xs ∧ WRel w (NN.map (·.1)) xs f) → WaysOk (parOf NN) (NN.map (·.1)) f → Q (.ref a) { s with heap := h', toks := tk }) :
    wpAny (model PG w) (AL 0) (call (.ref 200) [.ref a]) Q (fun _ _ => False) s := by
  have k : In tl s.heap := fun p hp => (N p (htl p hp)).1
  refine ways_spec X T F.keep (HA _ k) h64 hcl fun h' tk b f tn s' f' A' B' W' => ?_
  obtain ⟨F', N', l'⟩ := led_app F N s' f'
  exact h h' tk b f tn F' N' l' A' B' W'
theorem right_led {t c u nd wd : Addr} {co uo : Obj} {kc ku : List (Str × Value)} {tn tw : List (Addr × Obj)} {D U NN : List (Str × List Str)} {f : Str → Str → Int} (X : (KF w.params).In h₀) (T : TR mg mb h₀) (F : Fr h₀ L s.heap m) (N : News h₀ L s.heap news)
    (HT : TabL w tl t c u co uo kc ku D U) (HN : ∀ h, In tn h → Adj w h nd NN) (HW : ∀ h, In tw h → WaysAt w h wd (NN.map (·.1)) f) (mc : (c, co) ∈ news) (mu : (u, uo) ∈ news) (htl : ∀ p ∈ tl, p ∈ news) (htn : ∀ p ∈ tn, p ∈ news) (htw : ∀ p ∈ tw, p ∈ news)
    (hB : ∀ x k, (bst (parentsOf D U) x k).length ≤ 100) (G : GoodG (parentsOf D U) NN) (W : WaysOk (parOf NN) (NN.map (·.1)) f)
    (h : ∀ h' tk, Fr h₀ L h' m → News h₀ L h' news → Q (.bool true) { s with heap := h', toks := tk }) :
    wpAny (model PG w) (AL 6) (call (.ref 205) [.ref t, .ref nd, .ref wd]) Q (fun _ _ => False) s := by
  have k : ∀ {l : List (Addr × Obj)}, (∀ p ∈ l, p ∈ news) → In l s.heap := fun q p hp => (N p (q p hp)).1
  refine right_spec X T F.keep (HT.at (N _ mc).1 (N _ mu).1 (k htl)) (HN _ (k htn)) (HW _ (k htw)) hB G (G.ways W) fun h' tk s' => ?_
  obtain ⟨F', N'⟩ := led_old F N s'
  exact h h' tk F' N'
theorem union_led {t c u l : Addr} {co uo : Obj} {kc ku : List (Str × Value)} {D U : List (Str × List Str)} {nm : Str} {tnm : Tok} {vs : List Value} {ys : List Str} {e : Nat} {g1 : Obj → List (Addr × Obj)} {g2 : Obj → Obj → List (Addr × Obj)} (X : (KF w.params).In h₀) (T : TR mg mb h₀) (F : Fr h₀ L s.heap m) (N : News h₀ L s.heap news)
    (HT : TabL w tl t c u co uo kc ku D U) (U1 : UpdF c co news g1) (U2 : ∀ o, UpdF u uo (g1 o) (g2 o))  (mc : (c, co) ∈ news) (mu : (u, uo) ∈ news) (htl : ∀ p ∈ tl, p ∈ news) (nc : AllNe c tl) (nu : AllNe u tl) (hcu : @Ne Nat c u)
    (hl : (l, listOf (List.toArray vs) e) ∈ news) (S : StrsAre vs ys) (hle : ys.length ≤ 1000) (hB : ∀ x k, (bst (parentsOf D U) x k).length ≤ 100)
    (hk : ∀ y ∈ ys, ((at? D y).isSome || basicNames.any (· == y)) = true) (hne : ∀ y ∈ ys, (nm == y) = false) (hd : ∀ y ∈ ys, ∀ k, distOf nm y (supersFrom nm (bst (parentsOf D U) nm k)) = none) (hkc : kc.length ≤ 100000) (hku : ku.length ≤ 100000)
    (h : ∀ h' tk co' uo' x l' tn, Fr h₀ L h' m → News h₀ L h' (g2 co' uo' ++ tn) → AllApart news tn → co'.IsDictOf (strKind PG w) (stored kc nm (.ref x)) → uo'.IsDictOf (strKind PG w) (stored ku nm (.ref l')) → (∀ h, In tn h → ClsAt h (.ref x) nm [] ∧ Words h l' ys) → Q .none { s with heap := h', toks := tk }) :
    wpAny (model PG w) (AL 7) (call (.ref 116) [.ref t, .str nm tnm, .ref l]) Q (fun _ _ => False) s := by
  have k : In tl s.heap := fun p hp => (N p (htl p hp)).1
  obtain ⟨td, e1, e2, k1, k2, n, m1, m2⟩ := HT.inst
  have zc := N _ mc
  have zu := N _ mu
  have hid : ∀ {p : Addr × Obj}, p ∈ tl → ((s.heap.hide c).hide u).get? p.1 = some p.2 := fun {p} hp => by
    rw [Heap.hide_ne _ (allNe_mem nu p hp), Heap.hide_ne _ (allNe_mem nc p hp)]; exact k p hp
  refine union_spec X T F.keep zc.2.2 zu.2.2 hcu ⟨hid m1, rfl, rfl, hid m2⟩ (HT.at zc.1 zu.1 k) hB ⟨vs, e, (N _ hl).1, S, hle⟩ hk hne hd zc.1 HT.dc hkc zu.1 HT.du hku ?_
  intro h' tk co' uo' x l' tn kk gc' hc' gu' hu' f' A'
  obtain ⟨pre, post, en, hg, a1, a2⟩ := U1.split
  obtain ⟨pre2, post2, en2, hg2, b1, b2⟩ := (U2 co').split
  have N2 : News h₀ L h' (g2 co' uo') := by
    rw [hg2]
    intro p hp
    have main : p ∈ g1 co' → p.1 ≠ u → h'.get? p.1 = some p.2 ∧ p.1 ≠ L ∧ h₀.get? p.1 = none := by
      intro q q2
      rw [hg] at q
      rcases List.mem_append.mp q with q | q
      · have P := N p (by rw [en]; exact List.mem_append_left _ q)
        exact ⟨kk _ _ (a1 p q) q2 P.1, P.2⟩
      · rcases List.mem_cons.mp q with rfl | q
        · exact ⟨gc', zc.2⟩
        · have P := N p (by rw [en]; exact List.mem_append_right _ (.tail _ q))
          exact ⟨kk _ _ (a2 p q) q2 P.1, P.2⟩
    rcases List.mem_append.mp hp with hp | hp
    · exact main (by rw [en2]; exact List.mem_append_left _ hp) (b1 p hp)
    · rcases List.mem_cons.mp hp with rfl | hp
      · exact ⟨gu', zu.2⟩
      · exact main (by rw [en2]; exact List.mem_append_right _ (.tail _ hp)) (b2 p hp)
  have F2 : Fr h₀ L h' m := by
    refine ⟨?_, fun b x e => kk b x (fun q => ?_) (fun q => ?_) (F.keep b x e), F.above⟩
    · obtain ⟨oL, es, ep, hL, r⟩ := F.ns
      exact ⟨oL, es, ep, kk _ _ (Ne.symm zc.2.1) (Ne.symm zu.2.1) hL, r⟩
    · have := zc.2.2; rw [← q, e] at this; cases this
    · have := zu.2.2; rw [← q, e] at this; cases this
  refine h h' tk co' uo' x l' tn F2 (fun p hp => ?_) ?_ hc' hu' A'
  · rcases List.mem_append.mp hp with hp | hp
    · exact N2 p hp
    · obtain ⟨e1, e2⟩ := f' p hp
      refine ⟨e1, fun q => ?_, ?_⟩
      · obtain ⟨oL, _, _, hL, _⟩ := F.ns
        rw [q, hL] at e2; cases e2
      · cases z : h₀.get? p.1 with
        | none => rfl
        | some o => rw [F.keep _ _ z] at e2; cases e2
  · refine allApart_of fun q hq p hp e => ?_
    have := (f' p hp).2
    rw [e, (N q hq).1] at this; cases this
end
noncomputable def UInv (K U : List (Str × List Str)) (j : Nat) : Prop := (j = 0 → U = []) ∧ (0 < j → ∃ ys : List Str, U = [(("U0" : Str), ys)] ∧ ys.Nodup ∧ ys.length ≤ 3 ∧ ∀ y ∈ ys, y ∈ K.map (·.1) ++ (["numeric"] : List Str))
noncomputable def unRows (U : List (Str × List Str)) : List (Str × List Str) := U.map fun p => (p.1, ([] : List Str))
structure UnS (w : World) (hand cl c dd md u un t cell : Addr) (ns : List Int) (oC ddo : Obj) (mvs : List Value) (me : Nat) (kd : List (Str × Value)) (K : List (Str × List Str)) (j : Nat) (oh co uo uno : Obj) (kc ku kn : List (Str × Value)) (tl : List (Addr × Obj)) (U : List (Str × List Str)) : Prop where
  hO : HandOk oh cl ns.length
  hT : TabL w tl t c u co uo kc ku (K ++ unRows U) U
  hN : DirL w tl uno kn U
  hD : DirL w tl ddo kd (basics3 ++ K)
  hU : UInv K U j
  hF : Fix cl cell ns oC tl
  hDi : Dist hand c dd md u tl
  hDu : AllNe un tl ∧ @Ne Nat hand un ∧ @Ne Nat c un ∧ @Ne Nat dd un ∧ @Ne Nat md un ∧ @Ne Nat u un
noncomputable def UnJ (w : World) (hand cl c dd md u un t cell : Addr) (ns : List Int) (oC ddo : Obj) (mvs : List Value) (me : Nat) (kd : List (Str × Value)) (K : List (Str × List Str)) (j : Nat) (nx : List (Addr × Obj)) : Prop :=
  ∃ oh co uo uno kc ku kn tl U, nx = (hand, oh) :: (c, co) :: (u, uo) :: (un, uno) :: (dd, ddo) :: (md, listOf (List.toArray mvs) me) :: tl ∧ UnS w hand cl c dd md u un t cell ns oC ddo mvs me kd K j oh co uo uno kc ku kn tl U
theorem UnS.start {w : World} {hand cl c dd md u un t cell : Addr} {ns : List Int} {oC ddo co uo oh oh' uno : Obj} {mvs : List Value} {me i : Nat} {kd kc : List (Str × Value)} {K : List (Str × List Str)} {tl : List (Addr × Obj)}
    (S : LawS w hand cl c dd md t u cell ns uo oC i oh co ddo mvs me kc kd tl K) (hO : HandOk oh' cl ns.length) (hun : uno.IsDictOf (strKind PG w) []) (q : AllNe un tl ∧ @Ne Nat hand un ∧ @Ne Nat c un ∧ @Ne Nat dd un ∧ @Ne Nat md un ∧ @Ne Nat u un) :
    UnJ w hand cl c dd md u un t cell ns oC ddo mvs me kd K 0 ((hand, oh') :: (c, co) :: (u, uo) :: (un, uno) :: (dd, ddo) :: (md, listOf (List.toArray mvs) me) :: tl) :=
  ⟨oh', co, uo, uno, kc, [], [], tl, [], rfl, hO, by rw [show unRows [] = [] from rfl, List.append_nil]; exact S.hT, ⟨hun, .nil⟩, S.hD, ⟨fun _ => rfl, fun h => absurd h (Nat.lt_irrefl _)⟩, S.hF, S.hDi, q⟩
theorem UnJ.turn {P : Prop} {w : World} {hand cl c dd md u un t cell : Addr} {ns : List Int} {oC ddo : Obj} {mvs : List Value} {me : Nat} {kd : List (Str × Value)} {K : List (Str × List Str)} {nx : List (Addr × Obj)} {I L : Addr} {oI : Obj} {h₀ h : Heap} (J : UnJ w hand cl c dd md u un t cell ns oC ddo mvs me kd K 0 nx) (hI : AllNe I (nx ++ [])) (N : News h₀ L h (nx ++ [(I, oI)]))
    (k : ∀ oh co uo uno kc tl td e1 e2 k1 k2 n, News h₀ L h ((hand, oh) :: (c, co) :: (u, uo) :: (un, uno) :: (dd, ddo) :: (md, listOf (List.toArray mvs) me) :: (t, instObj 168 td) :: (td, dictOf [⟨e1, .str "classes" k1, .ref c⟩, ⟨e2, .str "unions" k2, .ref u⟩] n) :: (I, oI) :: tl) → @Ne Nat hand I → @Ne Nat c I → @Ne Nat u I → @Ne Nat un I → @Ne Nat dd I → @Ne Nat md I → AllNe I tl →
      @Ne Nat t hand → @Ne Nat td hand → @Ne Nat t c → @Ne Nat td c → @Ne Nat t dd → @Ne Nat td dd → @Ne Nat t md → @Ne Nat td md → @Ne Nat t u → @Ne Nat td u → @Ne Nat t un → @Ne Nat td un → @Ne Nat t I → @Ne Nat td I → UnS w hand cl c dd md u un t cell ns oC ddo mvs me kd K 0 oh co uo uno kc [] [] tl [] → P) : P := by
  obtain ⟨oh, co, uo, uno, kc, ku, kn, tl, U, rfl, S⟩ := J
  have hU := S.hU.1 rfl
  subst hU
  have hku : ku = [] := by have := S.hT.eu; cases this; rfl
  have hkn : kn = [] := by have := S.hN.ed; cases this; rfl
  subst hku; subst hkn
  rw [List.append_nil] at hI
  obtain ⟨a1, a2, a3, a4, a5, a6, a7⟩ := hI
  obtain ⟨td, e1, e2, k1, k2, n, m1, m2⟩ := S.hT.inst
  have D := S.hDi
  exact k oh co uo uno kc tl td e1 e2 k1 k2 n (News.of N (by walk_at "SUB")) a1 a2 a3 a4 a5 a6 a7 (allNe_mem D.a _ m1) (allNe_mem D.a _ m2) (allNe_mem D.b _ m1) (allNe_mem D.b _ m2) (allNe_mem D.d _ m1) (allNe_mem D.d _ m2) (allNe_mem D.e _ m1) (allNe_mem D.e _ m2) (allNe_mem D.f _ m1) (allNe_mem D.f _ m2) (allNe_mem S.hDu.1 _ m1) (allNe_mem S.hDu.1 _ m2) (allNe_mem a7 _ m1) (allNe_mem a7 _ m2) S
theorem TE.un {w : World} {hand cl c dd md u un t cell x l' ins : Addr} {ns : List Int} {oC ddo oh co uo uno oh' co' uo' uno' : Obj} {mvs vs6 : List Value} {me j len e6 : Nat} {kd kc : List (Str × Value)} {K : List (Str × List Str)} {tl tn : List (Addr × Obj)} {nm : Str} {ys : List Str}
    {h₀ : Heap} {L : Addr} {xs : List Str} {m₀ m' : Str → Option Value} {I : Addr} {own news : List (Addr × Obj)} {s : Shared} {Q : Flow → Shared → Prop} {h' : Heap} {tk' : Nat}
    (F : Fr h₀ L h' m') (N : News h₀ L h' news)
    (hn : ∀ p ∈ (hand, oh') :: (c, co') :: (u, uo') :: (un, uno') :: (dd, ddo) :: (md, listOf (List.toArray mvs) me) :: (ins, listOf (List.toArray vs6) e6) :: (tl ++ tn), p ∈ news) (ho : ∀ p ∈ own, p ∈ news)
    (S : UnS w hand cl c dd md u un t cell ns oC ddo mvs me kd K 0 oh co uo uno kc [] [] tl []) (hnm : nm = ("U0" : Str)) (hK : ("U0" : Str) ∉ K.map (·.1)) (J : InS hand ins cl len (K.map (·.1) ++ (["numeric"] : List Str)) j oh' vs6 e6 ys) (hlen : len = ns.length) (hj : j ≤ 3)
    (hc : co'.IsDictOf (strKind PG w) (stored kc nm (.ref x))) (hu : uo'.IsDictOf (strKind PG w) (stored [] nm (.ref l'))) (hun : uno'.IsDictOf (strKind PG w) (stored [] nm (.ref ins)))
    (hA : ∀ h, In tn h → ClsAt h (.ref x) nm [] ∧ Words h l' ys)
    (q1 : @Ne Nat ins hand ∧ @Ne Nat ins c ∧ @Ne Nat ins u ∧ @Ne Nat ins un ∧ @Ne Nat ins dd ∧ @Ne Nat ins md ∧ @Ne Nat ins I) (q2 : AllNe hand tn) (q3 : AllNe c tn) (q4 : AllNe u tn) (q5 : AllNe un tn) (q6 : AllNe dd tn) (q7 : AllNe md tn) (q8 : AllNe I tn)
    (q9 : @Ne Nat hand I ∧ @Ne Nat c I ∧ @Ne Nat u I ∧ @Ne Nat un I ∧ @Ne Nat dd I ∧ @Ne Nat md I) (qI : AllNe I tl) (hm : ∀ y, xs.contains y = false → m' y = m₀ y) :
    TE h₀ L xs m₀ (UnJ w hand cl c dd md u un t cell ns oC ddo mvs me kd K (0 + 1)) I own s Q .next { s with heap := h', toks := tk' } := by
  subst hnm
  subst hlen
  obtain ⟨c1, c2, c3, c4, c5, c6, c7⟩ := q1
  obtain ⟨a1, a2, a3, a4, a5, a6⟩ := q9
  have hle : ys.length ≤ 3 := Nat.le_trans J.le hj
  have D := S.hDi
  obtain ⟨u1, u2, u3, u4, u5, u6⟩ := S.hDu
  have sub : ∀ p ∈ tl, p ∈ (ins, listOf (List.toArray vs6) e6) :: (tl ++ tn) := fun p hp => .tail _ (List.mem_append_left _ hp)
  have subn : ∀ p ∈ tn, p ∈ (ins, listOf (List.toArray vs6) e6) :: (tl ++ tn) := fun p hp => .tail _ (List.mem_append_right _ hp)
  have hT := (S.hT.more sub).union hc hu (fun h k => hA h fun p hp => k p (subn p hp)) (by rw [storedD_new (by simp)]; exact Nat.le_of_ble_eq_true rfl)
  rw [show unRows [] = [] from rfl, List.append_nil, storedD_new hK, storedD_new (by simp), List.nil_append] at hT
  have hN := (S.hN.more sub).put hun (.head _) J.hS (by omega)
  rw [storedD_new (by simp), List.nil_append] at hN
  refine TE.next F N hn ho ⟨a1, a2, a3, a4, a5, a6, c7, allNe_append.mpr ⟨qI, q8⟩⟩ ⟨oh', co', uo', uno', _, _, _, _, [(("U0" : Str), ys)], rfl, J.hO, hT, hN, S.hD.more sub, ⟨fun h => absurd h (by omega), fun _ => ⟨ys, rfl, J.nd, hle, J.mem⟩⟩, S.hF.more sub, ?_, ⟨⟨c4, allNe_append.mpr ⟨u1, q5⟩⟩, u2, u3, u4, u5, u6⟩⟩ hm
  exact { D with a := ⟨c1, allNe_append.mpr ⟨D.a, q2⟩⟩, b := ⟨c2, allNe_append.mpr ⟨D.b, q3⟩⟩, d := ⟨c5, allNe_append.mpr ⟨D.d, q6⟩⟩, e := ⟨c6, allNe_append.mpr ⟨D.e, q7⟩⟩, f := ⟨c3, allNe_append.mpr ⟨D.f, q4⟩⟩ }
theorem KInv.fresh {K : List (Str × List Str)} {n : Nat} (h : KInv K n) : ∀ y ∈ K.map (·.1), y ∉ (["integer", "numeric", "vector", "ANY", "U0", "Between"] : List Str) := by
  intro y hy
  rw [h.keys] at hy
  have := List.mem_of_mem_take hy
  clear hy
  revert this; revert y; decide +kernel
theorem KInv.union {K : List (Str × List Str)} {n : Nat} (h : KInv K n) {nm : Str} (hnm : nm = ("U0" : Str)) {ys : List Str} (hy : ∀ y ∈ ys, y ∈ K.map (·.1) ++ (["numeric"] : List Str)) :
    (∀ x k, (bst (parentsOf K []) x k).length ≤ 100) ∧ (∀ y ∈ ys, ((at? K y).isSome || basicNames.any (· == y)) = true) ∧ (∀ y ∈ ys, (nm == y) = false) ∧ (∀ y ∈ ys, ∀ k, distOf nm y (supersFrom nm (bst (parentsOf K []) nm k)) = none) := by
  subst hnm
  have hn : (K.map (·.1)).Nodup := by rw [h.keys]; exact List.Nodup.sublist (List.take_sublist _ _) (by decide)
  have hne : ∀ y ∈ ys, y ≠ ("U0" : Str) ∧ y ≠ ("ANY" : Str) := fun y hm => by
    rcases List.mem_append.mp (hy y hm) with q | q
    · have := h.fresh y q
      exact ⟨fun e => this (by rw [e]; decide +kernel), fun e => this (by rw [e]; decide +kernel)⟩
    · rw [List.mem_singleton.mp q]; exact ⟨by decide +kernel, by decide +kernel⟩
  have e0 : parentsOf K [] ("U0" : Str) = [] := by
    show baseParents K ("U0" : Str) = []
    have e1 : at? K ("U0" : Str) = none := at?_none fun q => h.fresh _ q (by decide +kernel)
    unfold baseParents
    rw [e1]
    decide +kernel
  refine ⟨fun x k => bst_len (by have := h.flat; have := h.len; simp only [List.length_nil]; omega) x k, fun y hm => ?_, fun y hm => ?_, fun y hm k => dist_closed (S := fun x => x = ("U0" : Str)) (fun x hx y hy => ?_) rfl (hne y hm).1 (hne y hm).2 k⟩
  · rcases List.mem_append.mp (hy y hm) with q | q
    · obtain ⟨p, hp, rfl⟩ := List.mem_map.mp q
      rw [at?_of_mem hn hp]; rfl
    · rw [List.mem_singleton.mp q, show basicNames.any (· == ("numeric" : Str)) = true from by decide +kernel, Bool.or_true]
  · exact beq_eq_false_iff_ne.mpr (Ne.symm (hne y hm).1)
  · rw [hx, e0] at hy; cases hy
theorem UnS.tab {w : World} {hand cl c dd md u un t cell : Addr} {ns : List Int} {oC ddo : Obj} {mvs : List Value} {me : Nat} {kd : List (Str × Value)} {K : List (Str × List Str)} {oh co uo uno : Obj} {kc : List (Str × Value)} {tl : List (Addr × Obj)} (S : UnS w hand cl c dd md u un t cell ns oC ddo mvs me kd K 0 oh co uo uno kc [] [] tl []) : TabL w tl t c u co uo kc [] K [] := by
  have := S.hT
  rwa [show unRows [] = [] from rfl, List.append_nil] at this
theorem kv0 : ([] : List (Str × Value)).length ≤ 100000 := Nat.zero_le _
local macro_rules | `(tactic| walk_at "SUBM") => `(tactic| first | ((with_reducible refine List.forall_mem_append.mpr ⟨?a, ?b⟩); (case a => walk_at "SUBM"); (case b => walk_at "SUBM")) | ((with_reducible refine subLeft ?_); walk_at "SUBM") | ((with_reducible refine subRight ?_); walk_at "SUBM"))
local macro_rules | `(tactic| walk_at "MEM") => `(tactic| first | ((with_reducible refine List.mem_append_left _ ?_); walk_at "MEM") | ((with_reducible refine List.mem_append_right _ ?_); walk_at "MEM"))

structure TabOk (D Dd U : List (Str × List Str)) : Prop where
  g : GoodG (parentsOf D U) (nearOf Dd U)
  hB : ∀ x k, (bst (parentsOf D U) x k).length ≤ 100
  hn : ((Dd ++ U).map (·.1)).Nodup
  hD : Dd.length ≤ 1000
  hU : U.length ≤ 500
  hDl : ∀ p ∈ Dd, p.2.length ≤ 500
noncomputable def names5 : List Str := ["K0", "K1", "K2", "K3", "Between"]
theorem names5_fresh : ∀ x ∈ names5, x ∉ (["integer", "numeric", "vector", "ANY", "U0"] : List Str) ∧ PyData.strOk x = true := by decide +kernel
theorem basics3_keys : basics3.map (·.1) = (["integer", "numeric", "vector"] : List Str) := rfl
theorem basics3_base : ∀ p ∈ basics3, (if basicNames.any (· == p.1) then basicParents p.1 else []) = p.2 := by decide +kernel
theorem basics3_rows : ∀ p ∈ basics3, p.2.Nodup ∧ p.1 ∉ p.2 ∧ p.2.length ≤ 2 ∧ ∀ y ∈ p.2, y ∈ (["integer", "numeric", "vector"] : List Str) := by decide +kernel
noncomputable def UOk (ks : List Str) (U : List (Str × List Str)) : Prop := U = [] ∨ ∃ ys : List Str, U = [(("U0" : Str), ys)] ∧ ∀ y ∈ ys, y ∈ ks ++ (["numeric"] : List Str)
theorem tabOk {K2 D U : List (Str × List Str)} {ks : List Str} (hk : K2.map (·.1) = ks) (hks : ∀ x ∈ ks, x ∈ names5) (hnd : ks.Nodup)
    (rows : ∀ p ∈ K2, p.2.Nodup ∧ p.1 ∉ p.2 ∧ p.2.length ≤ 2 ∧ ∀ y ∈ p.2, y ∈ ks ++ (["integer", "numeric"] : List Str)) (hU : UOk ks U)
    (hDn : (D.map (·.1)).Nodup) (hDm : ∀ p, p ∈ D ↔ p ∈ K2 ∨ p ∈ unRows U) : TabOk D (basics3 ++ K2) U := by
  have hUm : ∀ p ∈ U, p.1 = ("U0" : Str) ∧ ∀ y ∈ p.2, y ∈ ks ++ (["numeric"] : List Str) := by
    rcases hU with rfl | ⟨ys, rfl, h⟩
    · intro p hp; cases hp
    · intro p hp; rw [List.mem_singleton.mp hp]; exact ⟨rfl, h⟩
  have hUl : U.length ≤ 1 := by rcases hU with rfl | ⟨ys, rfl, h⟩ <;> simp
  have hUk : (U.map (·.1)).Nodup := by rcases hU with rfl | ⟨ys, rfl, h⟩ <;> simp
  have hkl : ks.length ≤ 5 := List.Nodup.length_le_of_subset hnd (l₂ := names5) fun x hx => hks x hx
  have hK2l : K2.length ≤ 5 := by rw [← hk] at hkl; simpa using hkl
  have fr : ∀ x ∈ ks, x ∉ (["integer", "numeric", "vector", "ANY", "U0"] : List Str) := fun x hx => (names5_fresh x (hks x hx)).1
  have hKk : ∀ p ∈ K2, p.1 ∈ ks := fun p hp => hk ▸ List.mem_map.mpr ⟨p, hp, rfl⟩
  have hDkey : ∀ p ∈ D, p.1 ∈ ks ∨ p.1 = ("U0" : Str) := fun p hp => by
    rcases (hDm p).mp hp with h | h
    · exact .inl (hKk p h)
    · obtain ⟨q, hq, rfl⟩ := List.mem_map.mp h
      exact .inr (hUm q hq).1
  have hDrow : ∀ p ∈ D, p.2.length ≤ 2 ∧ ∀ y ∈ p.2, y ∈ ks ++ (["integer", "numeric"] : List Str) := fun p hp => by
    rcases (hDm p).mp hp with h | h
    · exact (rows p h).2.2
    · obtain ⟨q, hq, rfl⟩ := List.mem_map.mp h
      exact ⟨Nat.zero_le _, fun y hy => nomatch hy⟩
  have hDl : D.length ≤ 6 := by
    have := List.Nodup.length_le_of_subset hDn (l₂ := names5 ++ [("U0" : Str)]) fun x hx => by
      obtain ⟨p, hp, rfl⟩ := List.mem_map.mp hx
      rcases hDkey p hp with h | h
      · exact List.mem_append_left _ (hks _ h)
      · exact List.mem_append_right _ (by rw [h]; exact .head _)
    have e5 : names5.length = 5 := rfl
    simp only [List.length_map, List.length_append, List.length_cons, List.length_nil, e5] at this
    omega
  have flat : ∀ l : List (Str × List Str), (∀ p ∈ l, p.2.length ≤ 2) → (l.flatMap (·.2)).length ≤ 2 * l.length := by
    intro l
    induction l with
    | nil => intro _; simp
    | cons p l ih =>
      intro h
      have h1 := h p (.head _)
      have h2 := ih fun q hq => h q (.tail _ hq)
      simp only [List.flatMap_cons, List.length_append, List.length_cons]
      omega
  have keys : ((basics3 ++ K2 ++ U).map (·.1)) = (["integer", "numeric", "vector"] : List Str) ++ ks ++ U.map (·.1) := by
    rw [List.map_append, List.map_append, hk, basics3_keys]
  have hUkk : ∀ x ∈ U.map (·.1), x = ("U0" : Str) := fun x hx => by
    obtain ⟨q, hq, rfl⟩ := List.mem_map.mp hx
    exact (hUm q hq).1
  have hn : ((basics3 ++ K2 ++ U).map (·.1)).Nodup := by
    rw [keys, List.nodup_append, List.nodup_append]
    refine ⟨⟨by decide +kernel, hnd, fun a ha b hb e => ?_⟩, hUk, fun a ha b hb e => ?_⟩
    · subst e
      refine fr a hb ?_
      simp only [List.mem_cons, List.not_mem_nil, or_false] at ha ⊢
      rcases ha with h | h | h <;> simp [h]
    · subst e
      have e0 := hUkk a hb
      subst e0
      rcases List.mem_append.mp ha with h | h
      · revert h; decide +kernel
      · exact fr _ h (by decide +kernel)
  have nb : ∀ x ∈ (["integer", "numeric", "vector"] : List Str), x ∉ D.map (·.1) := fun x hx hm => by
    obtain ⟨p, hp, rfl⟩ := List.mem_map.mp hm
    rcases hDkey p hp with h | h
    · refine fr _ h ?_
      simp only [List.mem_cons, List.not_mem_nil, or_false] at hx ⊢
      rcases hx with h | h | h <;> simp [h]
    · rw [h] at hx; revert hx; decide +kernel
  have inK : ∀ y ∈ ks ++ (["integer", "numeric"] : List Str), y ∈ (basics3 ++ K2).map (·.1) := fun y hy => by
    rw [List.map_append, hk, basics3_keys]
    rcases List.mem_append.mp hy with h | h
    · exact List.mem_append_right _ h
    · refine List.mem_append_left _ ?_
      simp only [List.mem_cons, List.not_mem_nil, or_false] at h ⊢
      rcases h with h | h <;> simp [h]
  have noA : ∀ y ∈ ks ++ (["integer", "numeric"] : List Str), y ≠ ("ANY" : Str) := fun y hy e => by
    rcases List.mem_append.mp hy with h | h
    · exact fr y h (by rw [e]; decide +kernel)
    · rw [e] at h; revert h; decide +kernel
  have noA' : ∀ y ∈ ks ++ (["numeric"] : List Str), y ≠ ("ANY" : Str) ∧ y ≠ ("U0" : Str) := fun y hy => by
    rcases List.mem_append.mp hy with h | h
    · exact ⟨fun e => fr y h (by rw [e]; decide +kernel), fun e => fr y h (by rw [e]; decide +kernel)⟩
    · rw [List.mem_singleton.mp h]; decide +kernel
  refine ⟨good_of hn (fun p hp => ?_) (fun p hp => ?_) (fun p hp y hy => ?_) (fun p hp => ?_) (fun hm => ?_) (fun p hp => ?_) (fun p hp => ?_) ?_ (fun p hp => ?_), fun x k => bst_len ?_ x k, hn, ?_, by omega, fun p hp => ?_⟩
  · rcases List.mem_append.mp hp with h | h
    · have e1 : at? D p.1 = none := at?_none (nb _ (by rw [← basics3_keys]; exact List.mem_map.mpr ⟨p, h, rfl⟩))
      unfold baseParents
      rw [e1]
      exact basics3_base p h
    · have e1 : at? D p.1 = some p.2 := at?_of_mem hDn ((hDm p).mpr (.inl h))
      unfold baseParents
      rw [e1]
  · have e1 : at? D p.1 = some [] := at?_of_mem hDn ((hDm (p.1, [])).mpr (.inr (List.mem_map.mpr ⟨p, hp, rfl⟩)))
    unfold baseParents
    rw [e1]
  · rcases List.mem_append.mp hp with h | h
    · rw [List.map_append, basics3_keys]
      exact List.mem_append_left _ ((basics3_rows p h).2.2.2 y hy)
    · exact inK y ((rows p h).2.2.2 y hy)
  · rcases List.mem_append.mp hp with h | h
    · exact ⟨(basics3_rows p h).1, (basics3_rows p h).2.1⟩
    · exact ⟨(rows p h).1, (rows p h).2.1⟩
  · rw [keys] at hm
    rcases List.mem_append.mp hm with h | h
    · rcases List.mem_append.mp h with h | h
      · revert h; decide +kernel
      · exact fr _ h (by decide +kernel)
    · exact absurd (hUkk _ h) (by decide +kernel)
  · refine ⟨fun h => noA _ ((hDrow p hp).2 _ h) rfl, fun e => ?_⟩
    rcases hDkey p hp with h | h
    · exact fr _ h (by rw [e]; decide +kernel)
    · rw [e] at h; revert h; decide +kernel
  · refine ⟨fun h => (noA' _ ((hUm p hp).2 _ h)).1 rfl, fun q hq h => ?_⟩
    exact (noA' _ ((hUm p hp).2 _ h)).2 (hUm q hq).1
  · have : basics3.length = 3 := rfl
    simp only [List.length_append]
    omega
  · have hm : p.1 ∈ (basics3 ++ K2 ++ U).map (·.1) := List.mem_map.mpr ⟨p, hp, rfl⟩
    rw [keys] at hm
    rcases List.mem_append.mp hm with h | h
    · rcases List.mem_append.mp h with h | h
      · revert h; generalize p.1 = x; revert x; decide +kernel
      · exact (names5_fresh _ (hks _ h)).2
    · rw [hUkk _ h]; decide +kernel
  · have := flat D fun p hp => (hDrow p hp).1
    omega
  · have : basics3.length = 3 := rfl
    simp only [List.length_append]
    omega
  · rcases List.mem_append.mp hp with h | h
    · exact Nat.le_trans (basics3_rows p h).2.2.1 (by decide)
    · exact Nat.le_trans (rows p h).2.2.1 (by decide)

theorem UInv.ok {K U : List (Str × List Str)} {j : Nat} (h : UInv K U j) (hj : j ≤ 1) : UOk (K.map (·.1)) U := by
  rcases Nat.eq_zero_or_pos j with e | e
  · exact .inl (h.1 e)
  · obtain ⟨ys, e1, _, _, m⟩ := h.2 e
    exact .inr ⟨ys, e1, m⟩
theorem UOk.mono {ks ks' : List Str} {U : List (Str × List Str)} (h : UOk ks U) (m : ∀ x ∈ ks, x ∈ ks') : UOk ks' U := by
  rcases h with h | ⟨ys, e, q⟩
  · exact .inl h
  · refine .inr ⟨ys, e, fun y hy => ?_⟩
    rcases List.mem_append.mp (q y hy) with h | h
    · exact List.mem_append_left _ (m y h)
    · exact List.mem_append_right _ h
theorem UOk.keys {ks : List Str} {U : List (Str × List Str)} (h : UOk ks U) : (U.map (·.1)).Nodup ∧ ∀ x ∈ U.map (·.1), x = ("U0" : Str) := by
  rcases h with rfl | ⟨ys, rfl, q⟩
  · exact ⟨List.nodup_nil, fun x hx => nomatch hx⟩
  · exact ⟨by simp, fun x hx => by simpa using hx⟩
theorem unRows_keys (U : List (Str × List Str)) : (unRows U).map (·.1) = U.map (·.1) := by simp [unRows, List.map_map, Function.comp_def]
theorem KInv.keysN {K : List (Str × List Str)} {n : Nat} (h : KInv K n) : (K.map (·.1)).Nodup := by rw [h.keys]; exact List.Nodup.sublist (List.take_sublist _ _) (by decide)
theorem KInv.sub5 {K : List (Str × List Str)} {n : Nat} (h : KInv K n) : ∀ x ∈ K.map (·.1), x ∈ names5 := by
  intro x hx
  rw [h.keys] at hx
  have := List.mem_of_mem_take hx
  clear hx
  revert this; revert x; decide +kernel
theorem KInv.at_ {K : List (Str × List Str)} {n i : Nat} (h : KInv K n) {x : Str} {ys : List Str} (e : K[i]? = some (x, ys)) : knames[i]? = some x ∧ i < n := by
  have h1 : (K.map (·.1))[i]? = some x := by rw [List.getElem?_map, e]; rfl
  rw [h.keys, List.getElem?_take] at h1
  split at h1
  · exact ⟨h1, by assumption⟩
  · cases h1
theorem knames_self {i : Nat} {x : Str} (h : knames[i]? = some x) : x ∉ knames.take i ∧ x ∉ (["integer", "numeric", "vector", "ANY", "U0", "Between"] : List Str) := by
  have hi : i < 4 := (List.getElem?_eq_some_iff.mp h).1
  obtain ⟨nm, e, a, b⟩ := knames_kn hi
  rw [e] at h
  cases h
  exact ⟨a, b⟩
theorem KInv.rowK {K : List (Str × List Str)} {n : Nat} (h : KInv K n) : ∀ p ∈ K, p.2.Nodup ∧ p.1 ∉ p.2 ∧ p.2.length ≤ 2 ∧ ∀ y ∈ p.2, y ∈ K.map (·.1) ++ (["integer", "numeric"] : List Str) := by
  intro p hp
  obtain ⟨i, hi⟩ := List.mem_iff_getElem?.mp hp
  obtain ⟨x, ys⟩ := p
  obtain ⟨a, b, c⟩ := h.row hp
  obtain ⟨k, _⟩ := h.at_ hi
  obtain ⟨k1, k2⟩ := knames_self k
  refine ⟨a, fun hm => ?_, b, c⟩
  rcases List.mem_append.mp ((h.rows i x ys hi).2.2 x hm) with q | q
  · exact k1 q
  · refine k2 ?_
    simp only [List.mem_cons, List.not_mem_nil, or_false] at q ⊢
    rcases q with q | q <;> simp [q]
theorem round1 {K U : List (Str × List Str)} {n : Nat} (h : KInv K n) (hU : UOk (K.map (·.1)) U) : TabOk (K ++ unRows U) (basics3 ++ K) U := by
  refine tabOk rfl h.sub5 h.keysN h.rowK hU ?_ fun p => List.mem_append
  rw [List.map_append, unRows_keys, List.nodup_append]
  refine ⟨h.keysN, hU.keys.1, fun a ha b hb e => ?_⟩
  subst e
  exact h.fresh _ ha (by rw [hU.keys.2 _ hb]; decide +kernel)
/-- a class's row -/
noncomputable def repl (low : Str) (ys' : List Str) (p : Str × List Str) : Str × List Str := if p.1 = low then (p.1, ys') else p
theorem storedD_old {D : List (Str × List Str)} {x : Str} (h : x ∈ D.map (·.1)) (v : List Str) : storedD D x v = D.map (repl x v) := by
  unfold storedD
  rw [if_pos]
  · rfl
  · obtain ⟨p, hp, e⟩ := List.mem_map.mp h
    exact List.any_eq_true.mpr ⟨p, hp, by simpa using e⟩
theorem repl_none {low : Str} {ys' : List Str} : ∀ {l : List (Str × List Str)}, low ∉ l.map (·.1) → l.map (repl low ys') = l
  | [], _ => rfl
  | p :: l, h => by
    rw [List.map_cons, List.mem_cons] at h
    rw [List.map_cons, repl_none fun q => h (.inr q)]
    unfold repl
    rw [if_neg fun e => h (.inl e.symm)]
theorem repl_keys {low : Str} {ys' : List Str} (l : List (Str × List Str)) : (l.map (repl low ys')).map (·.1) = l.map (·.1) := by
  rw [List.map_map]
  refine List.map_congr_left fun p _ => ?_
  show (repl low ys' p).1 = p.1
  unfold repl
  split <;> rfl
section
variable {K U : List (Str × List Str)} {n i w : Nat} {low high : Str} {ys : List Str}
noncomputable def newRow (ys : List Str) (w : Nat) : List Str := ys.take w ++ (["Between"] : List Str) ++ ys.drop (w + 1)
abbrev betw (high : Str) : Str × List Str := (("Between" : Str), [high])
theorem newRow_mem (hn : ys.Nodup) (hw : ys[w]? = some high) (y : Str) : y ∈ newRow ys w ↔ (y ∈ ys ∧ y ≠ high) ∨ y = ("Between" : Str) := by
  obtain ⟨hlt, e⟩ := List.getElem?_eq_some_iff.mp hw
  have hs : ys = ys.take w ++ high :: ys.drop (w + 1) := by
    rw [← e, ← List.drop_eq_getElem_cons hlt, List.take_append_drop]
  have hn' := hn
  rw [hs, List.nodup_append] at hn'
  obtain ⟨_, h2, h3⟩ := hn'
  rw [List.nodup_cons] at h2
  unfold newRow
  simp only [List.mem_append, List.mem_singleton]
  constructor
  · rintro ((h | h) | h)
    · exact .inl ⟨List.mem_of_mem_take h, h3 y h high (.head _)⟩
    · exact .inr h
    · exact .inl ⟨List.mem_of_mem_drop h, fun q => h2.1 (q ▸ h)⟩
  · rintro (⟨h, q⟩ | h)
    · rw [hs] at h
      rcases List.mem_append.mp h with h | h
      · exact .inl (.inl h)
      · rcases List.mem_cons.mp h with h | h
        · exact absurd h q
        · exact .inr h
    · exact .inl (.inr h)
theorem newRow_nodup (hn : ys.Nodup) (hB : ("Between" : Str) ∉ ys) : (newRow ys w).Nodup := by
  unfold newRow
  rw [List.nodup_append, List.nodup_append]
  have h1 : (ys.take w).Nodup := List.Nodup.sublist (List.take_sublist _ _) hn
  have h2 : (ys.drop (w + 1)).Nodup := List.Nodup.sublist (List.drop_sublist _ _) hn
  refine ⟨⟨h1, by simp, fun a ha b hb e => ?_⟩, h2, fun a ha b hb e => ?_⟩
  · rw [List.mem_singleton.mp hb] at e
    exact hB (e ▸ List.mem_of_mem_take ha)
  · subst e
    rcases List.mem_append.mp ha with ha | ha
    · have hs : ys.take w ++ ys.drop w = ys := List.take_append_drop w ys
      have hn2 := hn
      rw [← hs, List.nodup_append] at hn2
      exact hn2.2.2 a ha a (List.mem_of_mem_drop (by rw [← List.drop_drop] at hb; exact hb : a ∈ (ys.drop w).drop 1)) rfl
    · rw [List.mem_singleton.mp ha] at hb
      exact hB (List.mem_of_mem_drop hb)
theorem newRow_len (hw : ys[w]? = some high) : (newRow ys w).length = ys.length := by
  obtain ⟨hlt, e⟩ := List.getElem?_eq_some_iff.mp hw
  unfold newRow
  simp only [List.length_append, List.length_take, List.length_drop, List.length_cons, List.length_nil]
  omega
variable (hK : KInv K n) (hU : UOk (K.map (·.1)) U) (hi : K[i]? = some (low, ys)) (hw : ys[w]? = some high)
include hK hi
theorem low_mem : low ∈ K.map (·.1) := List.mem_map.mpr ⟨_, List.mem_of_getElem? hi, rfl⟩
theorem low_fresh : low ∉ (["integer", "numeric", "vector", "ANY", "U0", "Between"] : List Str) := (knames_self (hK.at_ hi).1).2
theorem ys_in : ∀ y ∈ ys, y ∈ knames.take i ++ (["integer", "numeric"] : List Str) := (hK.rows i low ys hi).2.2
theorem bet_ys : ("Between" : Str) ∉ ys := fun h => by
  rcases List.mem_append.mp (ys_in hK hi _ h) with q | q
  · have := List.mem_of_mem_take q
    clear q
    revert this; decide +kernel
  · revert q; decide +kernel
include hU
theorem round1b (hw : ys[w]? = some high) : TabOk (K ++ unRows U ++ [betw high]) (basics3 ++ (K ++ [betw high])) U := by
  have hh : high ∈ ys := List.mem_of_getElem? hw
  have hmem : ∀ x ∈ K.map (·.1), x ∈ (K ++ [betw high]).map (·.1) := fun x hx => by rw [List.map_append]; exact List.mem_append_left _ hx
  have hB : ("Between" : Str) ∉ K.map (·.1) := fun h => hK.fresh _ h (by decide +kernel)
  refine tabOk rfl (fun x hx => ?_) ?_ (fun p hp => ?_) (hU.mono hmem) ?_ fun p => ?_
  · rw [List.map_append] at hx
    rcases List.mem_append.mp hx with h | h
    · exact hK.sub5 x h
    · rw [show x = ("Between" : Str) from List.mem_singleton.mp h]; decide +kernel
  · rw [List.map_append, List.nodup_append]
    refine ⟨hK.keysN, by simp, fun a ha b hb e => ?_⟩
    have e2 : a = ("Between" : Str) := e.trans (List.mem_singleton.mp hb)
    rw [e2] at ha
    exact hB ha
  · rcases List.mem_append.mp hp with h | h
    · obtain ⟨a, b, c, d⟩ := hK.rowK p h
      refine ⟨a, b, c, fun y hy => ?_⟩
      rcases List.mem_append.mp (d y hy) with q | q
      · exact List.mem_append_left _ (hmem y q)
      · exact List.mem_append_right _ q
    · rw [List.mem_singleton.mp h]
      refine ⟨by simp, fun q => ?_, by show 1 ≤ 2; decide, fun y hy => ?_⟩
      · rw [← List.mem_singleton.mp q] at hh; exact bet_ys hK hi hh
      · rw [List.mem_singleton.mp hy]
        rcases List.mem_append.mp ((hK.row (List.mem_of_getElem? hi)).2.2 high hh) with q | q
        · exact List.mem_append_left _ (hmem _ q)
        · exact List.mem_append_right _ q
  · rw [List.map_append, List.map_append, unRows_keys, List.nodup_append, List.nodup_append]
    refine ⟨⟨hK.keysN, hU.keys.1, fun a ha b hb e => ?_⟩, by simp, fun a ha b hb e => ?_⟩
    · subst e
      exact hK.fresh _ ha (by rw [hU.keys.2 _ hb]; decide +kernel)
    · rw [List.mem_singleton.mp hb] at e
      subst e
      rcases List.mem_append.mp ha with h | h
      · exact hB h
      · exact absurd (show ("Between" : Str) = "U0" from hU.keys.2 _ h) (by decide +kernel)
  · simp only [List.mem_append]
    constructor
    · rintro ((h | h) | h)
      · exact .inl (.inl h)
      · exact .inr h
      · exact .inl (.inr h)
    · rintro ((h | h) | h)
      · exact .inl (.inl h)
      · exact .inr h
      · exact .inl (.inr h)
theorem round2 (hw : ys[w]? = some high) : TabOk (K.map (repl low (newRow ys w)) ++ unRows U ++ [betw high]) (basics3 ++ (K.map (repl low (newRow ys w)) ++ [betw high])) U := by
  have hh : high ∈ ys := List.mem_of_getElem? hw
  have hkk : (K.map (repl low (newRow ys w)) ++ [betw high]).map (·.1) = K.map (·.1) ++ (["Between"] : List Str) := by rw [List.map_append, repl_keys]; rfl
  have hmem : ∀ x ∈ K.map (·.1), x ∈ K.map (·.1) ++ (["Between"] : List Str) := fun x hx => List.mem_append_left _ hx
  have hB : ("Between" : Str) ∉ K.map (·.1) := fun h => hK.fresh _ h (by decide +kernel)
  have lift : ∀ y ∈ K.map (·.1) ++ (["integer", "numeric"] : List Str), y ∈ K.map (·.1) ++ (["Between"] : List Str) ++ (["integer", "numeric"] : List Str) := fun y hy => by
    rcases List.mem_append.mp hy with q | q
    · exact List.mem_append_left _ (hmem _ q)
    · exact List.mem_append_right _ q
  refine tabOk hkk (fun x hx => ?_) ?_ (fun p hp => ?_) (hU.mono hmem) ?_ fun p => ?_
  · rcases List.mem_append.mp hx with h | h
    · exact hK.sub5 x h
    · rw [List.mem_singleton.mp h]; decide +kernel
  · rw [List.nodup_append]
    refine ⟨hK.keysN, by simp, fun a ha b hb e => ?_⟩
    rw [List.mem_singleton.mp hb] at e
    exact hB (e ▸ ha)
  · rcases List.mem_append.mp hp with h | h
    · obtain ⟨q, hq, rfl⟩ := List.mem_map.mp h
      obtain ⟨a, b, c, d⟩ := hK.rowK q hq
      unfold repl
      by_cases e : q.1 = low
      · rw [if_pos e]
        have hrow := hK.row (List.mem_of_getElem? hi)
        refine ⟨newRow_nodup hrow.1 (bet_ys hK hi), fun hm => ?_, ?_, fun y hy => ?_⟩
        · have hm' : low ∈ newRow ys w := e ▸ hm
          rcases (newRow_mem hrow.1 hw low).mp hm' with ⟨z, _⟩ | z
          · exact (hK.rowK _ (List.mem_of_getElem? hi)).2.1 z
          · exact low_fresh hK hi (by rw [z]; decide +kernel)
        · show (newRow ys w).length ≤ 2
          rw [newRow_len hw]; exact hrow.2.1
        · rcases (newRow_mem hrow.1 hw y).mp hy with ⟨z, _⟩ | z
          · exact lift y (hrow.2.2 y z)
          · rw [z]; exact List.mem_append_left _ (List.mem_append_right _ (.head _))
      · rw [if_neg e]
        exact ⟨a, b, c, fun y hy => lift y (d y hy)⟩
    · rw [List.mem_singleton.mp h]
      refine ⟨by simp, fun q => ?_, by show 1 ≤ 2; decide, fun y hy => ?_⟩
      · rw [← List.mem_singleton.mp q] at hh; exact bet_ys hK hi hh
      · rw [List.mem_singleton.mp hy]
        exact lift _ ((hK.row (List.mem_of_getElem? hi)).2.2 high hh)
  · rw [List.map_append, List.map_append, unRows_keys, repl_keys, List.nodup_append, List.nodup_append]
    refine ⟨⟨hK.keysN, hU.keys.1, fun a ha b hb e => ?_⟩, by simp, fun a ha b hb e => ?_⟩
    · subst e
      exact hK.fresh _ ha (by rw [hU.keys.2 _ hb]; decide +kernel)
    · rw [List.mem_singleton.mp hb] at e
      subst e
      rcases List.mem_append.mp ha with h | h
      · exact hB h
      · exact absurd (show ("Between" : Str) = "U0" from hU.keys.2 _ h) (by decide +kernel)
  · simp only [List.mem_append]
    constructor
    · rintro ((h | h) | h)
      · exact .inl (.inl h)
      · exact .inr h
      · exact .inl (.inr h)
    · rintro ((h | h) | h)
      · exact .inl (.inl h)
      · exact .inr h
      · exact .inl (.inr h)
/-- the two stores -/
theorem stored_D : storedD (storedD (K ++ unRows U) "Between" [high]) low (newRow ys w) = K.map (repl low (newRow ys w)) ++ unRows U ++ [betw high] ∧ storedD (K ++ unRows U) "Between" [high] = K ++ unRows U ++ [betw high] := by
  have hB : ("Between" : Str) ∉ (K ++ unRows U).map (·.1) := fun h => by
    rw [List.map_append, unRows_keys] at h
    rcases List.mem_append.mp h with h | h
    · exact hK.fresh _ h (by decide +kernel)
    · have := hU.keys.2 _ h; revert this; decide +kernel
  have hl := low_fresh hK hi
  refine ⟨?_, storedD_new hB _⟩
  rw [storedD_new hB, storedD_old (by rw [List.map_append, List.map_append]; exact List.mem_append_left _ (List.mem_append_left _ (low_mem hK hi))), List.map_append, List.map_append]
  congr 1
  · congr 1
    refine repl_none fun h => hl ?_
    rw [unRows_keys] at h
    rw [hU.keys.2 _ h]; decide +kernel
  · refine repl_none fun h => hl ?_
    have : low = ("Between" : Str) := List.mem_singleton.mp h
    rw [this]; decide +kernel
omit hU in
theorem stored_Dd : storedD (storedD (basics3 ++ K) "Between" [high]) low (newRow ys w) = basics3 ++ (K.map (repl low (newRow ys w)) ++ [betw high]) ∧ storedD (basics3 ++ K) "Between" [high] = basics3 ++ K ++ [betw high] := by
  have hB : ("Between" : Str) ∉ (basics3 ++ K).map (·.1) := fun h => by
    rw [List.map_append, basics3_keys] at h
    rcases List.mem_append.mp h with h | h
    · revert h; decide +kernel
    · exact hK.fresh _ h (by decide +kernel)
  have hl := low_fresh hK hi
  refine ⟨?_, storedD_new hB _⟩
  rw [storedD_new hB, storedD_old (by rw [List.map_append, List.map_append]; exact List.mem_append_left _ (List.mem_append_right _ (low_mem hK hi))), List.map_append, List.map_append, List.append_assoc]
  congr 1
  · refine repl_none fun h => hl ?_
    rw [basics3_keys] at h
    simp only [List.mem_cons, List.not_mem_nil, or_false] at h ⊢
    rcases h with h | h | h <;> simp [h]
  · congr 1
    refine repl_none fun h => hl ?_
    have : low = ("Between" : Str) := List.mem_singleton.mp h
    rw [this]; decide +kernel
end

noncomputable def lows (i : Nat) (U : List (Str × List Str)) : List Str := knames.take i ++ (["integer", "numeric", "vector"] : List Str) ++ U.map (·.1)
theorem basics_up : ∀ x ∈ (["integer", "numeric", "vector"] : List Str), ∀ y ∈ (if basicNames.any (· == x) then basicParents x else []), y ∈ (["integer", "numeric", "vector"] : List Str) := by decide +kernel
theorem low_closed {D U : List (Str × List Str)} {i : Nat} (h1 : ∀ x ∈ knames.take i, ∃ zs, at? D x = some zs ∧ ∀ y ∈ zs, y ∈ knames.take i ++ (["integer", "numeric"] : List Str)) (h2 : ∀ x ∈ (["integer", "numeric", "vector"] : List Str), at? D x = none) (h3 : ∀ x ∈ U.map (·.1), at? D x = some []) :
    ∀ x ∈ lows i U, ∀ y ∈ parentsOf D U x, y ∈ lows i U := by
  intro x hx y hy
  rcases mem_addU.mp hy with hy | ⟨ms, hm, _⟩
  · unfold baseParents at hy
    unfold lows at hx ⊢
    rcases List.mem_append.mp hx with hx | hx
    · rcases List.mem_append.mp hx with hx | hx
      · obtain ⟨zs, e, q⟩ := h1 x hx
        rw [e] at hy
        rcases List.mem_append.mp (q y hy) with z | z
        · exact List.mem_append_left _ (List.mem_append_left _ z)
        · refine List.mem_append_left _ (List.mem_append_right _ ?_)
          simp only [List.mem_cons, List.not_mem_nil, or_false] at z ⊢
          rcases z with z | z <;> simp [z]
      · rw [h2 x hx] at hy
        exact List.mem_append_left _ (List.mem_append_right _ (basics_up x hx y hy))
    · rw [h3 x hx] at hy; cases hy
  · exact List.mem_append_right _ (List.mem_map.mpr ⟨_, hm, rfl⟩)
theorem near_keys (Dd U : List (Str × List Str)) : (nearOf Dd U).map (·.1) = (Dd ++ U).map (·.1) := by
  unfold nearOf; simp [List.map_map, Function.comp_def]
theorem addU_none {x : Str} : ∀ {U : List (Str × List Str)} {ys : List Str}, (∀ p ∈ U, x ∉ p.2) → addU x U ys = ys
  | [], ys, _ => by simp [addU]
  | p :: U, ys, h => by
    have e : addU x (p :: U) ys = addU x U (if p.2.any (· == x) && !(ys.any (· == p.1)) then ys ++ [p.1] else ys) := rfl
    have h1' : p.2.any (· == x) = false := by
      rw [Bool.eq_false_iff]; intro q; obtain ⟨z, hz, e⟩ := List.any_eq_true.mp q
      exact h p (.head _) (by rw [← (by simpa using e : z = x)]; exact hz)
    rw [e, h1', addU_none fun q hq => h q (.tail _ hq)]
    simp
section
variable {K U : List (Str × List Str)} {n i w : Nat} {low high : Str} {ys : List Str}
variable (hK : KInv K n) (hU : UOk (K.map (·.1)) U) (hi : K[i]? = some (low, ys)) (hw : ys[w]? = some high)
theorem mem_unRows {x : Str} {ys : List Str} (h : (x, ys) ∈ U) : (x, ([] : List Str)) ∈ unRows U := List.mem_map.mpr ⟨_, h, rfl⟩
include hK hU
theorem nodup1 : ((K ++ unRows U).map (·.1)).Nodup := by
  rw [List.map_append, unRows_keys, List.nodup_append]
  refine ⟨hK.keysN, hU.keys.1, fun a ha b hb e => ?_⟩
  subst e
  exact hK.fresh _ ha (by rw [hU.keys.2 _ hb]; decide +kernel)
theorem noB : ("Between" : Str) ∉ (K ++ unRows U).map (·.1) := fun h => by
  rw [List.map_append, unRows_keys] at h
  rcases List.mem_append.mp h with h | h
  · exact hK.fresh _ h (by decide +kernel)
  · have := hU.keys.2 _ h; revert this; decide +kernel
theorem nodup1b : ((K ++ unRows U ++ [betw high]).map (·.1)).Nodup := by
  rw [List.map_append, List.nodup_append]
  refine ⟨nodup1 hK hU, by simp, fun a ha b hb e => ?_⟩
  have e2 : a = ("Between" : Str) := e.trans (List.mem_singleton.mp hb)
  rw [e2] at ha
  exact noB hK hU ha
theorem nodup2 : ((K.map (repl low (newRow ys w)) ++ unRows U ++ [betw high]).map (·.1)).Nodup := by
  have := nodup1b hK hU (high := high)
  rw [List.map_append, List.map_append] at this ⊢
  rw [repl_keys]; exact this
theorem noBasic : ∀ x ∈ (["integer", "numeric", "vector"] : List Str), x ∉ (K ++ unRows U ++ [betw high]).map (·.1) := fun x hx h => by
  rw [List.map_append, List.map_append, unRows_keys] at h
  rcases List.mem_append.mp h with h | h
  · rcases List.mem_append.mp h with h | h
    · refine hK.fresh x h ?_
      simp only [List.mem_cons, List.not_mem_nil, or_false] at hx ⊢
      rcases hx with h | h | h <;> simp [h]
    · rw [hU.keys.2 _ h] at hx; revert hx; decide +kernel
  · rw [show x = ("Between" : Str) from List.mem_singleton.mp h] at hx; revert hx; decide +kernel
theorem noBasic1 : ∀ x ∈ (["integer", "numeric", "vector"] : List Str), x ∉ (K ++ unRows U).map (·.1) := fun x hx h => noBasic hK hU (high := "") x hx (by rw [List.map_append]; exact List.mem_append_left _ h)
include hi
theorem rows_low {D : List (Str × List Str)} (hn : (D.map (·.1)).Nodup) (hs : ∀ p ∈ K, p ∈ D) : ∀ x ∈ knames.take i, ∃ zs, at? D x = some zs ∧ ∀ y ∈ zs, y ∈ knames.take i ++ (["integer", "numeric"] : List Str) := by
  intro x hx
  obtain ⟨j, hj, e⟩ := List.mem_take_iff_getElem.mp hx
  have hji : j < i := by omega
  have hlt : j < K.length := by have := (List.getElem?_eq_some_iff.mp hi).1; omega
  obtain ⟨p, hp⟩ : ∃ p, K[j]? = some p := ⟨_, List.getElem?_eq_getElem hlt⟩
  obtain ⟨z, zs⟩ := p
  have hz := (hK.at_ hp).1
  have e2 : knames[j]? = some x := by rw [List.getElem?_eq_getElem (by omega), e]
  rw [e2] at hz
  cases hz
  refine ⟨zs, at?_of_mem hn (hs _ (List.mem_of_getElem? hp)), fun y hy => ?_⟩
  rcases List.mem_append.mp ((hK.rows j x zs hp).2.2 y hy) with q | q
  · have : knames.take j = (knames.take i).take j := by rw [List.take_take, Nat.min_eq_left (Nat.le_of_lt hji)]
    rw [this] at q
    exact List.mem_append_left _ (List.mem_of_mem_take q)
  · exact List.mem_append_right _ q
theorem closed1 : ∀ x ∈ lows i U, ∀ y ∈ parentsOf (K ++ unRows U) U x, y ∈ lows i U := by
  refine low_closed (rows_low hK hU hi (nodup1 hK hU) fun p hp => List.mem_append_left _ hp) (fun x hx => at?_none (noBasic1 hK hU x hx)) fun x hx => ?_
  obtain ⟨p, hp, rfl⟩ := List.mem_map.mp hx
  exact at?_of_mem (nodup1 hK hU) (List.mem_append_right _ (mem_unRows hp))
theorem closed1b : ∀ x ∈ lows i U, ∀ y ∈ parentsOf (K ++ unRows U ++ [betw high]) U x, y ∈ lows i U := by
  refine low_closed (rows_low hK hU hi (nodup1b hK hU) fun p hp => List.mem_append_left _ (List.mem_append_left _ hp)) (fun x hx => at?_none (noBasic hK hU x hx)) fun x hx => ?_
  obtain ⟨p, hp, rfl⟩ := List.mem_map.mp hx
  exact at?_of_mem (nodup1b hK hU) (List.mem_append_left _ (List.mem_append_right _ (mem_unRows hp)))
theorem low_not : low ∉ lows i U := fun h => by
  have k := hK.at_ hi
  unfold lows at h
  rcases List.mem_append.mp h with h | h
  · rcases List.mem_append.mp h with h | h
    · exact (knames_self k.1).1 h
    · refine (knames_self k.1).2 ?_
      simp only [List.mem_cons, List.not_mem_nil, or_false] at h ⊢
      rcases h with h | h | h <;> simp [h]
  · refine (knames_self k.1).2 ?_
    rw [hU.keys.2 _ h]; decide +kernel
include hw
theorem high_low : high ∈ lows i U := by
  unfold lows
  rcases List.mem_append.mp (ys_in hK hi _ (List.mem_of_getElem? hw)) with h | h
  · exact List.mem_append_left _ (List.mem_append_left _ h)
  · refine List.mem_append_left _ (List.mem_append_right _ ?_)
    simp only [List.mem_cons, List.not_mem_nil, or_false] at h ⊢
    rcases h with h | h <;> simp [h]
theorem ysl : ∀ y ∈ ys, y ∈ lows i U := fun y hy => by
  unfold lows
  rcases List.mem_append.mp (ys_in hK hi _ hy) with h | h
  · exact List.mem_append_left _ (List.mem_append_left _ h)
  · refine List.mem_append_left _ (List.mem_append_right _ ?_)
    simp only [List.mem_cons, List.not_mem_nil, or_false] at h ⊢
    rcases h with h | h <;> simp [h]
theorem memB : ∀ p ∈ U, ("Between" : Str) ∉ p.2 := fun p hp h => by
  rcases hU with rfl | ⟨zs, rfl, q⟩
  · cases hp
  · rw [List.mem_singleton.mp hp] at h
    rcases List.mem_append.mp (q _ h) with z | z
    · exact hK.fresh _ z (by decide +kernel)
    · revert z; decide +kernel
theorem lows_names : ∀ x ∈ lows i U, x ∈ (nearOf (basics3 ++ K) U).map (·.1) := fun x hx => by
  rw [near_keys, List.map_append, List.map_append, basics3_keys]
  unfold lows at hx
  rcases List.mem_append.mp hx with h | h
  · rcases List.mem_append.mp h with h | h
    · refine List.mem_append_left _ (List.mem_append_right _ ?_)
      rw [hK.keys]
      have : knames.take i = (knames.take n).take i := by rw [List.take_take, Nat.min_eq_left (Nat.le_of_lt (hK.at_ hi).2)]
      rw [this] at h
      exact List.mem_of_mem_take h
    · exact List.mem_append_left _ (List.mem_append_left _ h)
  · exact List.mem_append_right _ h
theorem noBn : ("Between" : Str) ∉ (nearOf (basics3 ++ K) U).map (·.1) := fun h => by
  rw [near_keys, List.append_assoc, List.map_append, basics3_keys] at h
  rcases List.mem_append.mp h with h | h
  · revert h; decide +kernel
  · refine noB hK hU ?_
    rw [List.map_append, unRows_keys]; rw [List.map_append] at h; exact h
/-- what define asks of Between -/
theorem defB : (∀ y ∈ [high], ((at? (K ++ unRows U) y).isSome || basicNames.any (· == y)) = true) ∧ (∀ y ∈ [high], (y == ("Between" : Str)) = false) ∧ ∀ y ∈ [high], ∀ k, distOf y "Between" (supersFrom y (bst (parentsOf (K ++ unRows U) U) y k)) = none := by
  have hh := lows_names hK hU hi hw _ (high_low hK hU hi hw)
  have hne : high ≠ ("Between" : Str) := fun e => noBn hK hU hi hw (e ▸ hh)
  refine ⟨fun y hy => ?_, fun y hy => ?_, fun y hy k => ?_⟩
  · rw [List.mem_singleton.mp hy]
    rcases List.mem_append.mp ((hK.row (List.mem_of_getElem? hi)).2.2 high (List.mem_of_getElem? hw)) with q | q
    · obtain ⟨p, hp, rfl⟩ := List.mem_map.mp q
      rw [at?_of_mem (nodup1 hK hU) (List.mem_append_left _ hp)]; rfl
    · have : ∀ z ∈ ((["integer", "numeric"] : List Str)), basicNames.any (· == z) = true := by decide +kernel
      have := this _ q
      rw [this, Bool.or_true]
  · rw [List.mem_singleton.mp hy]; exact beq_eq_false_iff_ne.mpr hne
  · rw [List.mem_singleton.mp hy]
    exact dist_closed (round1 hK hU).g.clo hh (noBn hK hU hi hw) (by decide +kernel) k
/-- what define asks of the class below -/
theorem defL : (∀ y ∈ newRow ys w, ((at? (K ++ unRows U ++ [betw high]) y).isSome || basicNames.any (· == y)) = true) ∧ (∀ y ∈ newRow ys w, (y == low) = false) ∧ ∀ y ∈ newRow ys w, ∀ k, distOf y low (supersFrom y (bst (parentsOf (K ++ unRows U ++ [betw high]) U) y k)) = none := by
  have hrow := hK.row (List.mem_of_getElem? hi)
  have hl := low_fresh hK hi
  have key : ∀ y ∈ newRow ys w, y ∈ ys ∨ y = ("Between" : Str) := fun y hy => by
    rcases (newRow_mem hrow.1 hw y).mp hy with ⟨a, _⟩ | a
    · exact .inl a
    · exact .inr a
  refine ⟨fun y hy => ?_, fun y hy => ?_, fun y hy k => ?_⟩
  · rcases key y hy with q | q
    · rcases List.mem_append.mp (hrow.2.2 y q) with q | q
      · obtain ⟨p, hp, rfl⟩ := List.mem_map.mp q
        rw [at?_of_mem (nodup1b hK hU) (List.mem_append_left _ (List.mem_append_left _ hp))]; rfl
      · have : ∀ z ∈ ((["integer", "numeric"] : List Str)), basicNames.any (· == z) = true := by decide +kernel
        have := this _ q
        rw [this, Bool.or_true]
    · subst q
      rw [at?_of_mem (nodup1b hK hU) (List.mem_append_right _ (.head _))]; rfl
  · refine beq_eq_false_iff_ne.mpr fun e => ?_
    rcases key y hy with q | q
    · exact (hK.rowK _ (List.mem_of_getElem? hi)).2.1 (e ▸ q)
    · exact hl (by rw [← e, q]; decide +kernel)
  · refine dist_closed (S := fun x => x ∈ lows i U ∨ x = ("Between" : Str)) (fun x hx z hz => ?_) ?_ (fun q => ?_) (fun e => hl (by rw [e]; decide +kernel)) k
    · rcases hx with hx | rfl
      · exact .inl (closed1b hK hU hi x hx z hz)
      · rcases mem_addU.mp hz with hz | ⟨ms, hm, _⟩
        · unfold baseParents at hz
          rw [at?_of_mem (nodup1b hK hU) (List.mem_append_right _ (.head _))] at hz
          rw [List.mem_singleton.mp hz]
          exact .inl (high_low hK hU hi hw)
        · exact .inl (List.mem_append_right _ (List.mem_map.mpr ⟨_, hm, rfl⟩))
    · rcases key y hy with q | q
      · exact .inl (ysl hK hU hi hw y q)
      · exact .inr q
    · rcases q with q | q
      · exact low_not hK hU hi q
      · exact hl (by rw [q]; decide +kernel)
theorem betOk {f f' : Str → Str → Int} (W : WaysOk (parOf (nearOf (basics3 ++ K) U)) ((nearOf (basics3 ++ K) U).map (·.1)) f) (W' : WaysOk (parOf (nearOf (basics3 ++ (K.map (repl low (newRow ys w)) ++ [betw high])) U)) ((nearOf (basics3 ++ (K.map (repl low (newRow ys w)) ++ [betw high])) U).map (·.1)) f') :
    ∀ a ∈ (nearOf (basics3 ++ K) U).map (·.1), ∀ b ∈ (nearOf (basics3 ++ K) U).map (·.1), f a b ≤ f' a b ∧ f' a b ≤ f a b + 1 := by
  have R1 := round1 hK hU
  have R2 := round2 hK hU hi hw
  have hrow := hK.row (List.mem_of_getElem? hi)
  have hlowD : (low, ys) ∈ K ++ unRows U := List.mem_append_left _ (List.mem_of_getElem? hi)
  have e1 : baseParents (K ++ unRows U) low = ys := by unfold baseParents; rw [at?_of_mem (nodup1 hK hU) hlowD]
  have e2 : baseParents (K.map (repl low (newRow ys w)) ++ unRows U ++ [betw high]) low = newRow ys w := by
    have hm : (low, newRow ys w) ∈ K.map (repl low (newRow ys w)) ++ unRows U ++ [betw high] := by
      refine List.mem_append_left _ (List.mem_append_left _ (List.mem_map.mpr ⟨_, List.mem_of_getElem? hi, ?_⟩))
      unfold repl; rw [if_pos rfl]
    unfold baseParents
    rw [at?_of_mem (nodup2 hK hU) hm]
  have hUh : ∀ {y : Str} {ms : List Str}, (y, ms) ∈ U → y ≠ high ∧ y ≠ ("Between" : Str) := fun {y ms} h => by
    have e := hU.keys.2 y (List.mem_map.mpr ⟨_, h, rfl⟩)
    subst e
    refine ⟨fun q => ?_, by decide +kernel⟩
    rcases List.mem_append.mp (hrow.2.2 high (List.mem_of_getElem? hw)) with z | z
    · exact hK.fresh _ z (by rw [← q]; decide +kernel)
    · rw [← q] at z; revert z; decide +kernel
  refine between (S := fun x => x ∈ lows i U) (B := ("Between" : Str)) (R1.g.ways W) (R2.g.ways W') (fun x hx => ?_) R1.g.clo (low := low) (high := high) ?_ ?_ (noBn hK hU hi hw) ?_ (fun x hx hne => ?_) (fun y => ?_) (closed1 hK hU hi) (high_low hK hU hi hw) (low_not hK hU hi) (lows_names hK hU hi hw)
  · rw [near_keys, List.map_append, List.map_append] at hx ⊢
    rw [List.map_append, repl_keys]
    rcases List.mem_append.mp hx with h | h
    · rcases List.mem_append.mp h with h | h
      · exact List.mem_append_left _ (List.mem_append_left _ h)
      · exact List.mem_append_left _ (List.mem_append_right _ (List.mem_append_left _ h))
    · exact List.mem_append_right _ h
  · rw [near_keys, List.map_append, List.map_append]
    exact List.mem_append_left _ (List.mem_append_right _ (low_mem hK hi))
  · exact mem_addU.mpr (.inl (by rw [e1]; exact List.mem_of_getElem? hw))
  · have e3 : baseParents (K.map (repl low (newRow ys w)) ++ unRows U ++ [betw high]) ("Between" : Str) = [high] := by
      unfold baseParents
      rw [at?_of_mem (nodup2 hK hU) (List.mem_append_right _ (.head _))]
    show addU _ _ (baseParents _ _) = _
    rw [e3, addU_none (memB hK hU hi hw)]
  · show addU _ _ (baseParents _ _) = addU _ _ (baseParents _ _)
    congr 1
    rw [near_keys, List.map_append, List.map_append, basics3_keys] at hx
    unfold baseParents
    rcases List.mem_append.mp hx with h | h
    · rcases List.mem_append.mp h with h | h
      · rw [at?_none (noBasic1 hK hU x h), at?_none (D := K.map (repl low (newRow ys w)) ++ unRows U ++ [betw high])]
        have := noBasic hK hU (high := high) x h
        rw [List.map_append, List.map_append] at this ⊢
        rw [repl_keys]; exact this
      · obtain ⟨p, hp, rfl⟩ := List.mem_map.mp h
        have hm : p ∈ K.map (repl low (newRow ys w)) ++ unRows U ++ [betw high] := by
          refine List.mem_append_left _ (List.mem_append_left _ (List.mem_map.mpr ⟨p, hp, ?_⟩))
          unfold repl; rw [if_neg hne]
        rw [at?_of_mem (nodup1 hK hU) (List.mem_append_left _ hp), at?_of_mem (nodup2 hK hU) hm]
    · obtain ⟨p, hp, rfl⟩ := List.mem_map.mp h
      rw [at?_of_mem (nodup1 hK hU) (List.mem_append_right _ (mem_unRows hp)), at?_of_mem (nodup2 hK hU) (List.mem_append_left _ (List.mem_append_right _ (mem_unRows hp)))]
  · show y ∈ addU _ _ (baseParents _ _) ↔ (y ∈ addU _ _ (baseParents _ _) ∧ _) ∨ _
    rw [mem_addU, mem_addU, e1, e2, newRow_mem hrow.1 hw]
    constructor
    · rintro ((⟨a, b⟩ | a) | ⟨ms, a, b⟩)
      · exact .inl ⟨.inl a, b⟩
      · exact .inr a
      · exact .inl ⟨.inr ⟨ms, a, b⟩, (hUh a).1⟩
    · rintro (⟨a | a, b⟩ | a)
      · exact .inl (.inl ⟨a, b⟩)
      · exact .inr a
      · exact .inl (.inr a)
end

/-- the entries of a dict, whatever its keys are -/
noncomputable def RawDict (h : Heap) (d : Addr) (es : Array DictEntry) (ep : Nat) : Prop := ∃ o, h.get? d = some o ∧ o.ExactDict ∧ o.data = .dict es ep
theorem RawDict.mono {h h' : Heap} {d : Addr} {es : Array DictEntry} {ep : Nat} (x : RawDict h d es ep) (k : ∀ o, h.get? d = some o → h'.get? d = some o) : RawDict h' d es ep := let ⟨o, e, r⟩ := x; ⟨o, k o e, r⟩
section
variable {w : World} {A : Around} {E : Value → Shared → Prop} {s : Shared} {d it : Addr} {es : Array DictEntry} {ep i : Nat}
theorem raw_iter {Q : Value → Shared → Prop} (hd : (d == sysModules) = false) (R : RawDict s.heap d es ep)
    (h : Q (.ref s.heap.objs.size) { s with heap := s.heap.push { cls := .type "dict_keyiterator", data := .fields #[.ref d, .int 0 0, .int es.size 0, .int ep 0] } }) : wpAny (model PG w) A (pyIter (.ref d)) Q E s := by
  obtain ⟨o, ho, hc, hdat⟩ := R
  have hT : s.TypeIs (.ref d) "dict" := ⟨o, ho, hc.1⟩
  refine wpAny_pyIter_slot hT F.slot_dict_iter (wpAny_call_entry F.slot_dict_iter hT F.entry_dict_iter ?_ (F.args_dict_iter_1 _))
  unfold Builtin.«dict.__iter__» Builtin.Dict.dictSlotNone
  refine wpAny_bind (wpAny_bind (wpAny_notOrdered_dict hT (wpAny_pure ?_)))
  show wpAny _ _ (Builtin.Dict.showsAll d >>= _) _ _ s
  unfold Builtin.Dict.showsAll
  rw [hd, if_neg Bool.false_ne_true]
  refine wpAny_bind (wpAny_pure (wpAny_bind (wpAny_dictEntries ho hdat (wpAny_bind (wpAny_dictEpoch ho hdat (wpAny_bind (wpAny_newObj_type (wpAny_pure ?_))))))))
  exact ⟨_, rfl, "dict_keyiterator", _, ⟨_, Heap.get?_push_size _ rfl, rfl⟩, F.slot_dict_keyiterator_next.lookup, by simpa [rawInt] using h⟩
theorem raw_name {Q : String → Shared → Prop} (hT : s.TypeIs (.ref it) "dict_keyiterator") (h : Q "dict_keyiterator" s) : wpAny (model PG w) A (typeNameOfWhole (.ref it)) Q E s := wpAny_typeNameOfWhole_keyiter hT h
theorem raw_item {Q : Option Value → Shared → Prop} {e : DictEntry} (hit : s.heap.IsKeyIter it d i es.size ep) (R : RawDict s.heap d es ep) (he : es[i]? = some e)
    (h : ∀ h', h'.IsKeyIter it d (i + 1) es.size ep → Heap.SameBut it s.heap h' → Q (some e.key) { s with heap := h' }) : wpAny (model PG w) A (pyNext (.ref it)) Q E s := by
  obtain ⟨o, ho, hc, hd⟩ := id hit
  obtain ⟨od, hod, _, hdd⟩ := R
  obtain ⟨hlt, hE⟩ := Array.getElem?_eq_some_iff.mp he
  have hT := hit.typeIs
  unfold pyNext
  refine wpAny_bind (wpAny_attempt (wpAny_callSpecial?_slot (name := Str.ofString "__next__") hT F.slot_dict_keyiterator_next (wpAny_call_entry F.slot_dict_keyiterator_next hT F.entry_dict_keyiterator_next ?_ (F.args_dict_keyiterator_next_1 _))))
  refine wpAny_bind (wpAny_pure (wpAny_bind (wpAny_bind (wpAny_bind (raw_name hT (wpAny_pure (wpAny_bind (wpAny_fieldsOf ho hd ?_))))))))
  have hown : Builtin.Dict_items.ownsTuple "dict_keyiterator" = false := by decide
  simp only [hown, Bool.false_eq_true, if_false]
  show wpAny _ _ (if (Value.ref d == Value.none) = true then _ else _) _ _ s
  rw [if_neg (show ¬ ((Value.ref d == Value.none) = true) from Bool.false_ne_true)]
  refine wpAny_bind (wpAny_pure (wpAny_bind (wpAny_dictEntries hod hdd ?_)))
  rw [if_neg (by simp)]
  refine wpAny_bind (wpAny_pure (wpAny_bind (wpAny_dictEpoch hod hdd ?_)))
  rw [if_neg (by simp)]
  refine wpAny_pure ?_
  simp only [show ¬ ((i : Int) < 0) from by omega, if_false, Int.toNat_natCast, Array.getElem?_eq_getElem hlt, hE]
  refine wpAny_bind (wpAny_bind (raw_name hT (wpAny_pure (wpAny_bind (wpAny_isOneOf_keyiter hT ?_)))))
  show wpAny _ _ (setField (.ref it) 1 (rawInt ((i : Int) + 1)) >>= _) _ _ s
  refine wpAny_bind (wpAny_setField ho hd (by simp) ?_)
  have hit' : (s.heap.update it (Obj.mapFields (·.setIfInBounds 1 (rawInt ((i : Int) + 1))))).IsKeyIter it d (i + 1) es.size ep :=
    ⟨_, Heap.get?_update_self _ ho (Obj.isFreed_of_fields (Obj.data_mapFields hd _)), (Obj.cls_mapFields ..).trans hc, by rw [Obj.data_mapFields hd]; simp [rawInt]⟩
  refine wpAny_bind (wpAny_holding (wpAny_bind (wpAny_isOneOf_keyiter (s := { s with heap := _ }) hit'.typeIs ?_)))
  show wpAny _ _ (pure e.key) _ _ _
  exact wpAny_pure (wpAny_pure ⟨_, rfl, wpAny_pure (h _ hit' (Heap.SameBut.update ..))⟩)
theorem raw_end {Q : Option Value → Shared → Prop} (hh : A.handled = none) (hit : s.heap.IsKeyIter it d es.size es.size ep) (R : RawDict s.heap d es ep) (h : ∀ h', Heap.ExtBut it s.heap h' → Q none { s with heap := h' }) : wpAny (model PG w) A (pyNext (.ref it)) Q E s := by
  obtain ⟨o, ho, hc, hd⟩ := id hit
  obtain ⟨od, hod, _, hdd⟩ := R
  have hT := hit.typeIs
  unfold pyNext
  refine wpAny_bind (wpAny_attempt (wpAny_callSpecial?_slot (name := Str.ofString "__next__") hT F.slot_dict_keyiterator_next (wpAny_call_entry F.slot_dict_keyiterator_next hT F.entry_dict_keyiterator_next ?_ (F.args_dict_keyiterator_next_1 _))))
  refine wpAny_bind (wpAny_pure (wpAny_bind (wpAny_bind (wpAny_bind (raw_name hT (wpAny_pure (wpAny_bind (wpAny_fieldsOf ho hd ?_))))))))
  have hown : Builtin.Dict_items.ownsTuple "dict_keyiterator" = false := by decide
  simp only [hown, Bool.false_eq_true, if_false]
  show wpAny _ _ (if (Value.ref d == Value.none) = true then _ else _) _ _ s
  rw [if_neg (show ¬ ((Value.ref d == Value.none) = true) from Bool.false_ne_true)]
  refine wpAny_bind (wpAny_pure (wpAny_bind (wpAny_dictEntries hod hdd ?_)))
  rw [if_neg (by simp)]
  refine wpAny_bind (wpAny_pure (wpAny_bind (wpAny_dictEpoch hod hdd ?_)))
  rw [if_neg (by simp)]
  refine wpAny_pure ?_
  simp only [show ¬ ((es.size : Int) < 0) from by omega, if_false, Int.toNat_natCast, Array.getElem?_eq_none (Nat.le_refl es.size)]
  refine wpAny_bind (wpAny_bind (raw_name hT (wpAny_pure ?_)))
  show wpAny _ _ (setField (.ref it) 0 .none >>= _) _ _ s
  refine wpAny_bind (wpAny_setField ho hd (by simp) ?_)
  show wpAny _ _ (newExc (.type "StopIteration") [] >>= _) _ _ _
  refine wpAny_bind ?_
  simp only [newExc, newTuple]
  refine wpAny_bind (wpAny_newObj_type ?_ (by size_fits))
  refine wpAny_bind (m := firstArgMember _ _) (wpAny_of_eq (a := Value.none) (by first | rfl | (simp only [firstArgMember]; rfl)) ?_)
  refine wpAny_newObj_type ?_ (by size_fits)
  simp only [raiseNew]
  refine wpAny_bind (wpAny_handled ?_)
  rw [show A.in1.handled = none from hh]
  refine wpAny_bind (wpAny_pure (wpAny_throw ?_))
  refine wpAny_bind (wpAny_isInstance (T := "StopIteration") (b := true) ⟨_, Heap.get?_push_size _ rfl, rfl⟩ isSubtype_stop ?_)
  exact wpAny_pure (h _ (((Heap.SameBut.update ..).extBut.push _).push _))
theorem raw_walks (hh : A.handled = none) (I : Addr) (hne : d ≠ I) :
    Walks PG w A I [I, d] [I] es.size (fun i v => ∃ e, es[i]? = some e ∧ v = e.key) (fun i h => h.IsKeyIter I d i es.size ep ∧ RawDict h d es ep) where
  sub := fun b hb => by simp at hb; simp [hb]
  frame := fun _ _ _ st hk => ⟨st.1.at fun o e => hk I (by simp) o e, st.2.mono fun o e => hk d (by simp) o e⟩
  item := fun i s Q E hi st hQ => by
    have he : es[i]? = some es[i] := Array.getElem?_eq_getElem hi
    refine raw_item st.1 st.2 he fun h' hit' hs' => ?_
    exact hQ _ h' s.toks ⟨_, he, rfl⟩ ⟨hit', st.2.mono fun o e => hs'.extBut d o hne e⟩ fun b o hb e => hs'.extBut b o (fun q => hb (by simp [q])) e
  done := fun s Q E st hQ => raw_end hh st.1 st.2 fun h' he' => hQ h' s.toks fun b o hb e => he' b o (fun q => hb (by simp [q])) e
  self := fun _ _ _ _ st hQ => wpAny_pyIter_keyiter st.1 hQ
end
theorem loopRaw {w : World} {A : Around} {target : Expr} {body : List Stmt} {env : Env} {Q : Flow → Shared → Prop} {s : Shared} {d : Addr} {od : Obj} {es : Array DictEntry} {ep : Nat}
    {h₀ : Heap} {m₀ : Str → Option Value} {news : List (Addr × Obj)} (xs : List Str)
    (hh : A.handled = none) (hds : (d == sysModules) = false) (hd : (d, od) ∈ news) (hc : od.ExactDict) (hdat : od.data = .dict es ep)
    (F : Fr h₀ env.locals s.heap m₀) (N : News h₀ env.locals s.heap news)
    (turn : ∀ (i : Nat) e (u : Str → Option Value) h tk I oI, es[i]? = some e → AllNe I news → Fr h₀ env.locals h (fun y => if xs.contains y then u y else m₀ y) → News h₀ env.locals h ((I, oI) :: news) →
      wpAny (model PG w) A (assign target env e.key) (fun _ s₂ => wpAny (model PG w) A (execs body env) (TE h₀ env.locals xs m₀ (fun nx => nx = []) I ((I, oI) :: news) s Q) (fun _ _ => False) s₂) (fun _ _ => False) { s with heap := h, toks := tk })
    (done : ∀ (u : Str → Option Value) h tk, Fr h₀ env.locals h (fun y => if xs.contains y then u y else m₀ y) → News h₀ env.locals h news → Q .next { s with heap := h, toks := tk }) :
    AtFor w A target body env Q (.ref d) s := by
  have R : RawDict s.heap d es ep := ⟨od, (N _ hd).1, hc, hdat⟩
  refine loopW (cs := [d]) (n := es.size) (news₀ := []) (held := news) (P := fun i v => ∃ e, es[i]? = some e ∧ v = e.key) (St := fun I i h => h.IsKeyIter I d i es.size ep ∧ RawDict h d es ep) xs (fun _ nx => nx = [])
    (fun I hb => raw_walks hh I (hb d (.head _))) (fun I i h st => let ⟨o, e, _⟩ := st.1; ⟨o, e⟩) (fun I i s v Q st h => let ⟨o, e, hc, _⟩ := st.1; noOwned e hc (by decide +kernel) h)
    (fun Q h => raw_iter hds R (h _ rfl ⟨⟨_, Heap.get?_push_size _ rfl, rfl, rfl⟩, R.mono fun o e => Heap.get?_push_of_some _ e⟩)) ?_ F N rfl ?_ ?_
  · intro b hb
    rw [List.mem_singleton.mp hb]
    exact ⟨od, (N _ hd).1, .inr hd⟩
  · rintro i v u news₁ h tk I oI _ ⟨e, he, rfl⟩ rfl hI F1 N1
    exact turn i e u h tk I oI he hI F1 N1
  · rintro u news₁ h tk rfl F1 N1
    exact done u h tk F1 N1

theorem ways_turn {w : World} {names : List Str} {xs : List (List Str × Addr × Value)} {f : Str → Str → Int} {wo : Obj} {tn : List (Addr × Obj)} {es : Array DictEntry} {ep : Nat} (W : WTab w wo tn xs) (R : WRel w names xs f) (hdat : wo.data = .dict es ep) {i : Nat} {e : DictEntry} (he : es[i]? = some e) :
    ∃ T ok a b t u, e.key = .ref T ∧ (T, ok) ∈ tn ∧ ok.cls = .type "tuple" ∧ (∃ n, ok.data = .seq (List.toArray [.str a t, .str b u]) n) ∧ a ∈ names ∧ b ∈ names := by
  obtain ⟨_, es', ep', hd', hes, _, hk⟩ := W
  rw [hdat] at hd'
  cases hd'
  have e1 := entry_at hes i
  rw [he] at e1
  obtain ⟨x, hx, e2⟩ := Option.map_eq_some_iff.mp e1.symm
  have hm := List.mem_of_getElem? hx
  obtain ⟨ok, mo, hc, items, n, hdo, hi⟩ := hk x hm
  obtain ⟨a, b, ex, ha, hb⟩ := R.keys x hm
  rw [ex] at hi
  obtain ⟨k, T, v⟩ := x
  refine ⟨T, ok, a, b, ?_⟩
  cases hit : items.toList with
  | nil => rw [hit] at hi; cases hi
  | cons v1 r1 =>
    rw [hit] at hi
    cases r1 with
    | nil => cases hi with | cons _ h => cases h
    | cons v2 r2 =>
      cases r2 with
      | cons _ _ => cases hi with | cons _ h => cases h with | cons _ h => cases h
      | nil =>
        cases hi with
        | cons h1 h =>
          cases h with
          | cons h2 _ =>
            obtain ⟨t, rfl⟩ := Value.isStrOf_shape h1
            obtain ⟨u, rfl⟩ := Value.isStrOf_shape h2
            refine ⟨t, u, by rw [← e2]; rfl, mo, hc, ⟨n, ?_⟩, ha, hb⟩
            rw [hdo, ← hit, Array.toArray_toList]
theorem loopT {w : World} {A : Around} {target : Expr} {body : List Stmt} {env : Env} {Q : Flow → Shared → Prop} {s : Shared} {d : Addr} {wo : Obj} {tn : List (Addr × Obj)} {names : List Str} {xs : List (List Str × Addr × Value)} {f : Str → Str → Int}
    {h₀ : Heap} {m₀ : Str → Option Value} {news : List (Addr × Obj)} (ns : List Str)
    (hh : A.handled = none) (hds : (d == sysModules) = false) (hd : (d, wo) ∈ tn) (htn : ∀ p ∈ tn, p ∈ news) (W : WTab w wo tn xs) (R : WRel w names xs f)
    (F : Fr h₀ env.locals s.heap m₀) (N : News h₀ env.locals s.heap news)
    (turn : ∀ T a b t t' (u : Str → Option Value) h tk I oI, a ∈ names → b ∈ names → IsTup h T (List.toArray [.str a t, .str b t']) → AllNe I news → Fr h₀ env.locals h (fun y => if ns.contains y then u y else m₀ y) → News h₀ env.locals h ((I, oI) :: news) →
      wpAny (model PG w) A (assign target env (.ref T)) (fun _ s₂ => wpAny (model PG w) A (execs body env) (TE h₀ env.locals ns m₀ (fun nx => nx = []) I ((I, oI) :: news) s Q) (fun _ _ => False) s₂) (fun _ _ => False) { s with heap := h, toks := tk })
    (done : ∀ (u : Str → Option Value) h tk, Fr h₀ env.locals h (fun y => if ns.contains y then u y else m₀ y) → News h₀ env.locals h news → Q .next { s with heap := h, toks := tk }) :
    AtFor w A target body env Q (.ref d) s := by
  obtain ⟨hc, es, ep, hdat, _⟩ := id W
  refine loopRaw ns hh hds (htn _ hd) hc hdat F N (fun i e u h tk I oI he hI F1 N1 => ?_) done
  obtain ⟨T, ok, a, b, t, t', e1, mo, hcl, ⟨n, hda⟩, ha, hb⟩ := ways_turn W R hdat he
  rw [e1]
  exact turn T a b t t' u h tk I oI ha hb ⟨ok, (N1 _ (.tail _ (htn _ mo))).1, hcl, n, hda⟩ hI F1 N1
section
variable {w : World} {A : Around} {E : Value → Shared → Prop} {s : Shared} {h₀ : Heap} {L : Addr} {m : Str → Option Value} {news tl : List (Addr × Obj)}
theorem item_dir {d : Addr} {o : Obj} {kd : List (Str × Value)} {D : List (Str × List Str)} {x : Str} {ys : List Str} {t : Tok} {value slice : Expr} {Q : Value → Shared → Prop} (N : News h₀ L s.heap news) (HD : DirL w tl o kd D) (hm : (d, o) ∈ news) (hat : at? D x = some ys)
    (h : ∀ l vs e, (l, listOf (List.toArray vs) e) ∈ tl → StrsAre vs ys → ys.length ≤ 1000 → vs.length = ys.length → Q (.ref l) { s with toks := s.toks + 1 })
    (hs : ∀ d x t, subscripted slice false (.ref d) (.str x t) = operate [.ref d, .str x t] (getItem (.ref d) (.str x t))) :
    wpAny (model PG w) A (subscriptTail value slice (.ref d) (.str x t)) Q E s := by
  obtain ⟨l, vs, e, hv, ml, S, hl⟩ := HD.get hat
  exact item_led N hm HD.ds hv (h l vs e ml S hl S.len_eq) (hs _ _ _)
theorem item_known {l : Addr} {value slice : Expr} {vs : List Value} {ys : List Str} {e : Nat} {i : Int} {u : Tok} {x : Str} {Q : Value → Shared → Prop} (N : News h₀ L s.heap news) (hm : (l, listOf (List.toArray vs) e) ∈ news) (S : StrsAre vs ys) (hx : ys[i.toNat]? = some x) (h0 : 0 ≤ i) (hle : vs.length ≤ 100000) (h : ∀ t, Q (.str x t) s)
    (hs : subscripted slice false (.ref l) (.int i u) = operate [.ref l, .int i u] (getItem (.ref l) (.int i u))) :
    wpAny (model PG w) A (subscriptTail value slice (.ref l) (.int i u)) Q E s := by
  have hlt := (List.getElem?_eq_some_iff.mp hx).1
  refine item_strs N hm S h0 (by rw [S.len_eq]; omega) hle (fun y t e => ?_) hs
  rw [hx] at e
  cases e
  exact h t
theorem slice_from {l : Addr} {value slice : PySem.Expr} {vs : List Value} {e b : Nat} {t : Tok} {Q : Value → Shared → Prop}
    (F : Fr h₀ L s.heap m) (N : News h₀ L s.heap news) (hl : (l, listOf (List.toArray vs) e) ∈ news) (hz : vs.length ≤ 100000)
    (h : ∀ D h', Fr h₀ L h' m → News h₀ L h' ((D, listOf (List.toArray (vs.drop (b + 1))) 0) :: news) → (∀ p ∈ news, p.1 < D) → Q (.ref D) { s with heap := h' })
    (hs : subscripted slice false (.ref l) (.ref s.heap.objs.size) = operate [.ref s.heap.objs.size, .ref l] (getItem (.ref l) (.ref s.heap.objs.size))) (ht : ∀ r, letTemporaryGo value (.ref l) r = pure ()) :
    wpAny (model PG w) A (subscriptTail value slice (.ref l) (.ref s.heap.objs.size)) Q E { s with heap := s.heap.push { cls := .type "slice", data := .fields #[.int ((b : Int) + 1) t, .none, .none] } } := by
  have hz' : vs.toArray.size ≤ sizeLine := by rw [List.size_toArray, sizeLine_eq]; omega
  refine kmk_slice (lo := some (((b + 1 : Nat)) : Int)) (hi := none) F N (News.isList N hl) (IsPart.int _ _) IsPart.none (fun D h' F' N' l1 => h D h' F' ?_ l1) hs ht hz'
  rw [slicePick_from'] at N'
  exact N'
theorem set_dir {d l : Addr} {o : Obj} {kd : List (Str × Value)} {D : List (Str × List Str)} {x : Str} {ys : List Str} {vs : List Value} {e : Nat} {t : Tok} {gf : Obj → List (Addr × Obj)} {Q : Unit → Shared → Prop} (HD : DirL w tl o kd D) (F : Fr h₀ L s.heap m) (N : News h₀ L s.heap news) (U : UpdF d o news gf)
    (hm : (l, listOf (List.toArray vs) e) ∈ news) (S : StrsAre vs ys) (hle : ys.length ≤ 1000) (hz : D.length ≤ 1000)
    (h : ∀ h' o', Fr h₀ L h' m → News h₀ L h' (gf o') → DirL w ((l, listOf (List.toArray vs) e) :: tl) o' (stored kd x (.ref l)) (storedD D x ys) → o'.IsDictOf (strKind PG w) (stored kd x (.ref l)) → Q () { s with heap := h', toks := s.toks + 1 }) :
    wpAny (model PG w) A (setItem (.ref d) (.str x t) (.ref l)) Q E s :=
  set_led F N U HD.ds (by rw [HD.ed.length]; omega) fun h' o' F' N' hd => h h' o' F' N' ((HD.more fun _ hp => .tail _ hp).put hd (.head _) S hle) hd
theorem cmp_nil {a b : Addr} {vs : List Value} {ys : List Str} {e1 e2 : Nat} (N : News h₀ L s.heap news) (ha : (a, listOf (List.toArray vs) e1) ∈ news) (hb : (b, listOf (List.toArray []) e2) ∈ news) (S : StrsAre vs ys) (ok : ∀ x ∈ ys, PyData.strOk x = true) (hu : A.units + 64 < cLine) :
    (∀ {Q : Value → Shared → Prop}, Q (.bool (!ys.isEmpty)) s → wpAny (model PG w) A (compareOp .NotEq (.ref a) (.ref b)) Q E s) ∧ (∀ {Q : Value → Shared → Prop}, Q (.bool ys.isEmpty) s → wpAny (model PG w) A (compareOp .Eq (.ref a) (.ref b)) Q E s) := by
  obtain ⟨oa, g1, c1, n1, d1⟩ := News.isList N ha
  obtain ⟨ob, g2, c2, n2, d2⟩ := News.isList N hb
  have shp : SeqAt.shaped (.list (ys.map .str)) = true := by
    simp only [SeqAt.shaped, PyData.canLay0, PyData.depth, canLayAll_strs', depthAll_strs', Bool.and_eq_true, decide_eq_true_eq]
    exact ⟨List.all_eq_true.mpr ok, by omega⟩
  have shp0 : SeqAt.shaped (.list []) = true := by decide
  have e : PyData.eqv (.list (ys.map .str)) (.list []) = ys.isEmpty := by cases ys <;> simp [PyData.eqv, PyData.eqvAll]
  have S0 : StrsAre [] [] := .nil
  refine ⟨fun {Q} h => ?_, fun {Q} h => ?_⟩
  · refine SeqAt.compareNe_shaped (.list g1 c1 d1 (S.reads _)) (.list g2 c2 d2 (S0.reads _)) shp shp0 hu ?_
    rw [show ([] : List Str).map PyData.str = [] from rfl, e]; exact h
  · refine SeqAt.compareEq_shaped (.list g1 c1 d1 (S.reads _)) (.list g2 c2 d2 (S0.reads _)) shp shp0 hu ?_
    rw [show ([] : List Str).map PyData.str = [] from rfl, e]; exact h
theorem le_yes {a b : Int} {t u : Tok} {Q : Value → Shared → Prop} (e : a ≤ b) (h : Q (.bool true) s) : wpAny (model PG w) A (compareOp .LtE (.int a t) (.int b u)) Q E s := by
  refine PyProof.Rows.le_int ?_
  rw [decide_eq_true e]; exact h
theorem newRow_strs {vs ws : List Value} {ys : List Str} {k : Nat} {t : Tok} (S : StrsAre vs ys) (T : StrsAre ws ys) : StrsAre ((vs.take k ++ [.str "Between" t]) ++ ws.drop (k + 1)) (newRow ys k) := ((S.take' k).append' (.cons _ _ .nil)).append' (T.drop' _)
end
section
variable {w : World} {s : Shared} {Q : Value → Shared → Prop} {h₀ : Heap} {L : Addr} {m mg mb : Str → Option Value} {news tl : List (Addr × Obj)} {gf : Obj → List (Addr × Obj)}
theorem define_led' {t c u x dx cl sl : Addr} {co uo : Obj} {kc ku : List (Str × Value)} {D U : List (Str × List Str)} {nm : Str} {ys : List Str} {e1 e2 e3 e4 e5 e6 : Int} {k1 k2 k3 k4 k5 k6 tn : Tok} {v4 v5 v6 : Value} {n e1' e2' : Nat} {vs : List Value}
    (X : (KF w.params).In h₀) (T : TR mg mb h₀) (F : Fr h₀ L s.heap m) (N : News h₀ L s.heap news) 
    (HT : TabL w tl t c u co uo kc ku D U) (UP : UpdF c co news gf) (hu : (u, uo) ∈ news) (htl : ∀ p ∈ tl, p ∈ news) (hB : ∀ x k, (bst (parentsOf D U) x k).length ≤ 100)
    (m1 : (x, instObj 63 dx) ∈ news) (m2 : (dx, dictOf [⟨e1, .str "name" k1, .str nm tn⟩, ⟨e2, .str "slots" k2, .ref sl⟩, ⟨e3, .str "contains" k3, .ref cl⟩, ⟨e4, .str "validity" k4, v4⟩, ⟨e5, .str "virtual" k5, v5⟩, ⟨e6, .str "prototype" k6, v6⟩] n) ∈ news)
    (m3 : (cl, listOf (List.toArray vs) e1') ∈ news) (m4 : (sl, listOf (List.toArray []) e2') ∈ news) (S : StrsAre vs ys) (hle : ys.length ≤ 1000)
    (hk : ∀ y ∈ ys, ((at? D y).isSome || basicNames.any (· == y)) = true) (hne : ∀ y ∈ ys, (y == nm) = false) (hdi : ∀ y ∈ ys, ∀ k, distOf y nm (supersFrom y (bst (parentsOf D U) y k)) = none) (hkc : D.length ≤ 1000)
    (h : ∀ h' tk co', Fr h₀ L h' m → News h₀ L h' (gf co') → TabL w ((x, instObj 63 dx) :: (dx, dictOf [⟨e1, .str "name" k1, .str nm tn⟩, ⟨e2, .str "slots" k2, .ref sl⟩, ⟨e3, .str "contains" k3, .ref cl⟩, ⟨e4, .str "validity" k4, v4⟩, ⟨e5, .str "virtual" k5, v5⟩, ⟨e6, .str "prototype" k6, v6⟩] n) :: (cl, listOf (List.toArray vs) e1') :: (sl, listOf (List.toArray []) e2') :: tl) t c u co' uo (stored kc nm (.ref x)) ku (storedD D nm ys) U → Q .none { s with heap := h', toks := tk }) :
    wpAny (model PG w) (AL 7) (call (.ref 109) [.ref t, .ref x]) Q (fun _ _ => False) s := by
  have C : ∀ h, In ((x, instObj 63 dx) :: (dx, dictOf [⟨e1, .str "name" k1, .str nm tn⟩, ⟨e2, .str "slots" k2, .ref sl⟩, ⟨e3, .str "contains" k3, .ref cl⟩, ⟨e4, .str "validity" k4, v4⟩, ⟨e5, .str "virtual" k5, v5⟩, ⟨e6, .str "prototype" k6, v6⟩] n) :: (cl, listOf (List.toArray vs) e1') :: (sl, listOf (List.toArray []) e2') :: tl) h → ClsAt h (.ref x) nm ys :=
    cls_of (.head _) (.tail _ (.head _)) (.tail _ (.tail _ (.head _))) (.tail _ (.tail _ (.tail _ (.head _)))) S hle
  refine define_led X T F N HT UP hu htl hB (C _ fun p hp => ?_) hk hne hdi (by rw [HT.ec.length]; omega) fun h' tk co' F' N' dc => h h' tk co' F' N' ((HT.more fun p hp => .tail _ (.tail _ (.tail _ (.tail _ hp)))).define dc C)
  rcases List.mem_cons.mp hp with rfl | hp
  · exact (N _ m1).1
  rcases List.mem_cons.mp hp with rfl | hp
  · exact (N _ m2).1
  rcases List.mem_cons.mp hp with rfl | hp
  · exact (N _ m3).1
  rcases List.mem_cons.mp hp with rfl | hp
  · exact (N _ m4).1
  exact (N _ (htl p hp)).1
end
theorem strs_one {x : Str} {t : Tok} : StrsAre [.str x t] [x] := .cons _ _ .nil
local macro_rules | `(tactic| walk_at "DSTR") => `(tactic| first | (with_reducible assumption) | exact strs_one | exact newRow_strs (by with_reducible assumption) (by with_reducible assumption))
local macro_rules | `(tactic| walk_at "DLE") => `(tactic| first | (with_reducible assumption) | exact Nat.le_of_ble_eq_true rfl)

/-- has this name a row that is not empty -/
noncomputable def hasRow (D : List (Str × List Str)) (z : Str) : Bool := !((at? D z).getD []).isEmpty
noncomputable def hasRowV (D : List (Str × List Str)) (v : Value) : Bool := match v with
  | .str z _ => hasRow D z
  | _ => false
noncomputable def SameStr (v y : Value) : Prop := ∃ z t t', v = .str z t ∧ y = .str z t'
theorem low_strs {D : List (Str × List Str)} : ∀ {vs : List Value} {ks : List Str} {ys : List Value}, StrsAre vs ks → Paired SameStr (vs.filter (hasRowV D)) ys → StrsAre ys (ks.filter (hasRow D))
  | [], _, ys, hS, hP => by
    cases hS
    cases hP
    exact .nil
  | v :: vs, _, ys, hS, hP => by
    cases hS with
    | cons z t hS =>
      rw [List.filter_cons] at hP ⊢
      have e : hasRowV D (.str z t) = hasRow D z := rfl
      rw [e] at hP
      by_cases h : hasRow D z = true
      · rw [if_pos h] at hP ⊢
        cases hP with
        | cons q hP =>
          obtain ⟨z', t1, t2, e1, rfl⟩ := q
          cases e1
          exact .cons _ _ (low_strs hS hP)
      · rw [if_neg h] at hP ⊢
        exact low_strs hS hP
theorem hasRow_of {K : List (Str × List Str)} {n : Nat} (h : KInv K n) {z : Str} (hz : z ∈ K.map (·.1)) : ∃ ys, at? (basics3 ++ K) z = some ys ∧ ys.length ≤ 2 ∧ (∀ y ∈ ys, PyData.strOk y = true) ∧ ∃ i : Nat, K[i]? = some (z, ys) := by
  obtain ⟨p, hp, rfl⟩ := List.mem_map.mp hz
  obtain ⟨i, hi⟩ := List.mem_iff_getElem?.mp hp
  have hn : ((basics3 ++ K).map (·.1)).Nodup := by
    have := (round1 h (U := []) (.inl rfl)).hn
    rwa [List.append_nil] at this
  obtain ⟨a, b, c⟩ := h.row (x := p.1) (ys := p.2) hp
  refine ⟨p.2, at?_of_mem hn (List.mem_append_right _ hp), b, fun y hy => ?_, i, hi⟩
  rcases List.mem_append.mp (c y hy) with q | q
  · exact (names5_fresh _ (h.sub5 y q)).2
  · revert q; generalize y = x; clear hy; revert x; decide +kernel
theorem strOk_low {K : List (Str × List Str)} {n : Nat} (h : KInv K n) (D : List (Str × List Str)) : ∀ x ∈ (K.map (·.1)).filter (hasRow D), PyData.strOk x = true := fun x hx => (names5_fresh _ (h.sub5 x ((List.mem_filter.mp hx).1))).2
/-- what the chosen class is -/
theorem low_row {K : List (Str × List Str)} {n k : Nat} (h : KInv K n) {low : Str} (e : ((K.map (·.1)).filter (hasRow (basics3 ++ K)))[k]? = some low) : ∃ (i : Nat) (ys : List Str), K[i]? = some (low, ys) ∧ at? (basics3 ++ K) low = some ys ∧ 1 ≤ ys.length ∧ ys.length ≤ 2 := by
  have hm := List.mem_of_getElem? e
  have hz := (List.mem_filter.mp hm).1
  obtain ⟨ys, e1, e2, _, i, hi⟩ := hasRow_of h hz
  refine ⟨i, ys, hi, e1, ?_, e2⟩
  have := (List.mem_filter.mp hm).2
  unfold hasRow at this
  rw [e1] at this
  cases ys with
  | nil => simp at this
  | cons _ _ => simp
theorem newList_sub {M : Model} {A : Around} {E : Value → Shared → Prop} {s : Shared} {h₀ : Heap} {L : Addr} {m : Str → Option Value} {news : List (Addr × Obj)} {vs : List Value} {Q : Value → Shared → Prop} (F : Fr h₀ L s.heap m) (N : News h₀ L s.heap news)
    (h : ∀ D h', Fr h₀ L h' m → News h₀ L h' ((D, listOf (List.toArray vs) 0) :: news) → (∀ p ∈ news, p.1 < D) → Sub s.heap h' → Q (.ref D) { s with heap := h' }) (hz : vs.length ≤ sizeLine) : wpAny M A (newList vs) Q E s :=
  wpAny_newObj_type (h _ _ (F.push _) (N.push F _) (fun p hp => Heap.lt_size (N p hp).1) fun _ _ e => Heap.get?_push_of_some _ e) (by show vs.toArray.size ≤ sizeLine; rw [List.size_toArray]; exact hz)
local macro_rules | `(tactic| walk_at "MEM") => `(tactic| first | (refine memN ?_; (with_reducible refine List.mem_append_left _ ?_); walk_at "MEM") | (refine memN ?_; (with_reducible refine List.mem_append_right _ ?_); walk_at "MEM"))
/-- the end of a law -/
noncomputable def EndT (s₁ : Shared) (f : Flow) (s' : Shared) : Prop := f = .ret (.bool true) ∧ ∃ h' tk L m, s' = { s₁ with heap := h', toks := tk } ∧ Fr s₁.heap L h' m
theorem law_end {M : Model} {A : Around} {t : Sem Flow} {P : Flow → Shared → Prop} {E : Value → Shared → Prop} {s : Shared} (s₁ : Shared) (hend : ∀ h' tk L m, Fr s₁.heap L h' m → P (.ret (.bool true)) { s₁ with heap := h', toks := tk }) (h : wpAny M A t (EndT s₁) E s) : wpAny M A t P E s :=
  wpAny_mono h (fun f s' x => by obtain ⟨rfl, h', tk, L, m, rfl, k⟩ := x; exact hend h' tk L m k) fun _ _ e => e
theorem EndT.intro {s₁ : Shared} {h' : Heap} {tk : Nat} {L : Addr} {m : Str → Option Value} (F : Fr s₁.heap L h' m) : EndT s₁ (.ret (.bool true)) { s₁ with heap := h', toks := tk } := ⟨rfl, h', tk, L, m, rfl, F⟩
theorem near_led2 {w : World} {s : Shared} {Q : Value → Shared → Prop} {h₀ : Heap} {L : Addr} {m mg mb : Str → Option Value} {news tl tl2 : List (Addr × Obj)} {d un : Addr} {ddo uno : Obj} {kd kn : List (Str × Value)} {D U : List (Str × List Str)} (X : (KF w.params).In h₀) (T : TR mg mb h₀) (F : Fr h₀ L s.heap m) (N : News h₀ L s.heap news)
    (md : (d, ddo) ∈ news) (mu : (un, uno) ∈ news) (HD : DirL w tl ddo kd D) (HU : DirL w tl2 uno kn U) (htl : ∀ p ∈ tl, p ∈ news) (htl2 : ∀ p ∈ tl2, p ∈ news) (nd : (d == sysModules) = false) (nu : (un == sysModules) = false)
    (hn : ((D ++ U).map (·.1)).Nodup) (hD : D.length ≤ 1000) (hU : U.length ≤ 500) (hDl : ∀ p ∈ D, p.2.length ≤ 500)
    (h : ∀ h' tk a tn, Fr h₀ L h' m → News h₀ L h' (news ++ tn) → AllApart news tn → (∀ h, In tn h → Adj w h a (nearOf D U)) → Q (.ref a) { s with heap := h', toks := tk }) :
    wpAny (model PG w) (AL 0) (call (.ref 193) [.ref d, .ref un]) Q (fun _ _ => False) s :=
  near_led (tl := tl ++ tl2) X T F N (HD.more fun _ hp => List.mem_append_left _ hp) (HU.more fun _ hp => List.mem_append_right _ hp) md mu (fun p hp => (List.mem_append.mp hp).elim (htl p) (htl2 p)) nd nu hn hD hU hDl h
theorem at_nil {ys : List Str} (h : 1 ≤ ys.length) : ys ≠ [] := fun e => by rw [e] at h; exact absurd h (by decide)
theorem len_nil {ys : List Str} (h : ys ≠ []) : 1 ≤ ys.length := by cases ys with | nil => exact absurd rfl h | cons _ _ => simp
theorem len_empty {ys : List Str} (h : ys.isEmpty = false) : 1 ≤ ys.length := by cases ys with | nil => cases h | cons _ _ => simp
theorem get_nat {ys : List Str} {k : Nat} (h : k < ys.length) : ∃ x, ys[k]? = some x ∧ ys[((k : Nat) : Int).toNat]? = some x := ⟨ys[k], by rw [List.getElem?_eq_getElem h], by rw [Int.toNat_natCast, List.getElem?_eq_getElem h]⟩
/-- all that the second round asks -/
structure Round2 (K U : List (Str × List Str)) (w : Nat) (low high : Str) (ys : List Str) : Prop where
  b1 : ∀ y ∈ [high], ((at? (K ++ unRows U) y).isSome || basicNames.any (· == y)) = true
  b2 : ∀ y ∈ [high], (y == ("Between" : Str)) = false
  b3 : ∀ y ∈ [high], ∀ k, distOf y "Between" (supersFrom y (bst (parentsOf (K ++ unRows U) U) y k)) = none
  b4 : (K ++ unRows U).length ≤ 1000
  l1 : ∀ y ∈ newRow ys w, ((at? (storedD (K ++ unRows U) "Between" [high]) y).isSome || basicNames.any (· == y)) = true
  l2 : ∀ y ∈ newRow ys w, (y == low) = false
  l3 : ∀ y ∈ newRow ys w, ∀ k, distOf y low (supersFrom y (bst (parentsOf (storedD (K ++ unRows U) "Between" [high]) U) y k)) = none
  l4 : (storedD (K ++ unRows U) "Between" [high]).length ≤ 1000
  l5 : ∀ x k, (bst (parentsOf (storedD (K ++ unRows U) "Between" [high]) U) x k).length ≤ 100
  a1 : at? (storedD (basics3 ++ K) "Between" [high]) low = some ys
  a2 : at? (storedD (storedD (basics3 ++ K) "Between" [high]) low (newRow ys w)) low = some (newRow ys w)
  a3 : (storedD (basics3 ++ K) "Between" [high]).length ≤ 1000
  a4 : (newRow ys w).length ≤ 1000
  n1 : ((storedD (storedD (basics3 ++ K) "Between" [high]) low (newRow ys w) ++ U).map (·.1)).Nodup
  n2 : (storedD (storedD (basics3 ++ K) "Between" [high]) low (newRow ys w)).length ≤ 1000
  n3 : ∀ p ∈ storedD (storedD (basics3 ++ K) "Between" [high]) low (newRow ys w), p.2.length ≤ 500
  n4 : (nearOf (storedD (storedD (basics3 ++ K) "Between" [high]) low (newRow ys w)) U).length < 64
  n5 : ∀ p ∈ nearOf (storedD (storedD (basics3 ++ K) "Between" [high]) low (newRow ys w)) U, ∀ y ∈ p.2, y ∈ (nearOf (storedD (storedD (basics3 ++ K) "Between" [high]) low (newRow ys w)) U).map (·.1)
  r1 : ∀ x k, (bst (parentsOf (storedD (storedD (K ++ unRows U) "Between" [high]) low (newRow ys w)) U) x k).length ≤ 100
  r2 : GoodG (parentsOf (storedD (storedD (K ++ unRows U) "Between" [high]) low (newRow ys w)) U) (nearOf (storedD (storedD (basics3 ++ K) "Between" [high]) low (newRow ys w)) U)
  names : ∀ x ∈ (nearOf (basics3 ++ K) U).map (·.1), x ∈ (nearOf (storedD (storedD (basics3 ++ K) "Between" [high]) low (newRow ys w)) U).map (·.1)
  between : ∀ {f f' : Str → Str → Int}, WaysOk (parOf (nearOf (basics3 ++ K) U)) ((nearOf (basics3 ++ K) U).map (·.1)) f → WaysOk (parOf (nearOf (storedD (storedD (basics3 ++ K) "Between" [high]) low (newRow ys w)) U)) ((nearOf (storedD (storedD (basics3 ++ K) "Between" [high]) low (newRow ys w)) U).map (·.1)) f' →
    ∀ a ∈ (nearOf (basics3 ++ K) U).map (·.1), ∀ b ∈ (nearOf (basics3 ++ K) U).map (·.1), f a b ≤ f' a b ∧ f' a b ≤ f a b + 1
theorem round2_of {K U : List (Str × List Str)} {n i w : Nat} {low high : Str} {ys : List Str} (hK : KInv K n) (hU : UOk (K.map (·.1)) U) (hi : K[i]? = some (low, ys)) (hw : ys[w]? = some high) : Round2 K U w low high ys := by
  obtain ⟨eD, eD1⟩ := stored_D hK hU hi (w := w) (high := high)
  obtain ⟨eE, eE1⟩ := stored_Dd hK hi (w := w) (high := high)
  obtain ⟨b1, b2, b3⟩ := defB hK hU hi hw
  obtain ⟨l1, l2, l3⟩ := defL hK hU hi hw
  have R1b := round1b hK hU hi hw
  have R2 := round2 hK hU hi hw
  have hlen := hK.len
  have hul : U.length ≤ 1 := by rcases hU with rfl | ⟨_, rfl, _⟩ <;> simp
  have hb3 : basics3.length = 3 := rfl
  have hrl := (hK.row (List.mem_of_getElem? hi)).2.1
  have hbet := fun {f f' : Str → Str → Int} => betOk hK hU hi hw (f := f) (f' := f')
  have nd1 : ((basics3 ++ K ++ [betw high]).map (·.1)).Nodup := by
    have := R1b.hn
    rw [List.map_append, List.nodup_append, ← List.append_assoc] at this
    exact this.1
  have nd2 : ((basics3 ++ (K.map (repl low (newRow ys w)) ++ [betw high])).map (·.1)).Nodup := by
    have := R2.hn
    rw [List.map_append, List.nodup_append] at this
    exact this.1
  have hsub : ∀ x ∈ (nearOf (basics3 ++ K) U).map (·.1), x ∈ (nearOf (basics3 ++ (K.map (repl low (newRow ys w)) ++ [betw high])) U).map (·.1) := fun x hx => by
    rw [near_keys, List.map_append, List.map_append] at hx ⊢
    rw [List.map_append, repl_keys]
    rcases List.mem_append.mp hx with h | h
    · rcases List.mem_append.mp h with h | h
      · exact List.mem_append_left _ (List.mem_append_left _ h)
      · exact List.mem_append_left _ (List.mem_append_right _ (List.mem_append_left _ h))
    · exact List.mem_append_right _ h
  have ml : (low, newRow ys w) ∈ K.map (repl low (newRow ys w)) := List.mem_map.mpr ⟨_, List.mem_of_getElem? hi, by unfold repl; rw [if_pos rfl]⟩
  refine ⟨b1, b2, b3, ?_, ?_, l2, ?_, ?_, ?_, ?_, ?_, ?_, ?_, ?_, ?_, ?_, ?_, ?_, ?_, ?_, ?_, ?_⟩
  · simp only [List.length_append, unRows, List.length_map]; omega
  · rw [eD1]; exact l1
  · rw [eD1]; exact l3
  · rw [eD1]; simp only [List.length_append, unRows, List.length_map, List.length_cons, List.length_nil]; omega
  · rw [eD1]; exact R1b.hB
  · rw [eE1]; exact at?_of_mem nd1 (List.mem_append_left _ (List.mem_append_right _ (List.mem_of_getElem? hi)))
  · rw [eE]; exact at?_of_mem nd2 (List.mem_append_right _ (List.mem_append_left _ ml))
  · rw [eE1]; simp only [List.length_append, List.length_cons, List.length_nil]; omega
  · rw [newRow_len hw]; omega
  · rw [eE]; exact R2.hn
  · rw [eE]; exact R2.hD
  · rw [eE]; exact R2.hDl
  · rw [eE]; exact R2.g.small
  · rw [eE]; exact R2.g.closed
  · rw [eD]; exact R2.hB
  · rw [eD, eE]; exact R2.g
  · rw [eE]; exact hsub
  · rw [eE]; exact hbet
theorem news_lay {h₀ h : Heap} {L : Addr} {a b c d e f x y : Addr × Obj} {tl : List (Addr × Obj)} (N : News h₀ L h (a :: b :: c :: d :: e :: f :: tl)) (m1 : x ∈ tl) (m2 : y ∈ tl) : News h₀ L h (a :: b :: c :: d :: e :: f :: x :: y :: tl) := News.of N fun p hp => by
  simp only [List.mem_cons] at hp ⊢
  rcases hp with h | h | h | h | h | h | h | h | h
  · simp [h]
  · simp [h]
  · simp [h]
  · simp [h]
  · simp [h]
  · simp [h]
  · subst h; simp [m1]
  · subst h; simp [m2]
  · simp [h]
section
variable {w : World} {A : Around} {E : Value → Shared → Prop} {s : Shared} {h₀ : Heap} {L : Addr} {m : Str → Option Value} {news tl : List (Addr × Obj)}
theorem item_dir2 {d : Addr} {o : Obj} {kd : List (Str × Value)} {D : List (Str × List Str)} {x : Str} {ys : List Str} {t : Tok} {value slice : Expr} {Q : Value → Shared → Prop} (N : News h₀ L s.heap news) (HD : DirL w tl o kd D) (hm : (d, o) ∈ news) (hat : at? D x = some ys) (htl : ∀ p ∈ tl, p ∈ news)
    (h : ∀ l vs e, (l, listOf (List.toArray vs) e) ∈ tl → StrsAre vs ys → ys.length ≤ 1000 → vs.length = ys.length → s.heap.IsList l (List.toArray vs) → Q (.ref l) { s with toks := s.toks + 1 })
    (hs : ∀ d x t, subscripted slice false (.ref d) (.str x t) = operate [.ref d, .str x t] (getItem (.ref d) (.str x t))) :
    wpAny (model PG w) A (subscriptTail value slice (.ref d) (.str x t)) Q E s :=
  item_dir N HD hm hat (fun l vs e ml S hl hv => h l vs e ml S hl hv (News.isList N (htl _ ml))) hs
theorem slice_take2 {l : Addr} {value slice : PySem.Expr} {vs : List Value} {b : Nat} {t : Tok} {Q : Value → Shared → Prop}
    (F : Fr h₀ L s.heap m) (N : News h₀ L s.heap news) (hl : s.heap.IsList l (List.toArray vs)) (hz : vs.length ≤ 100000)
    (h : ∀ D h', Fr h₀ L h' m → News h₀ L h' ((D, listOf (List.toArray (vs.take b)) 0) :: news) → (∀ p ∈ news, p.1 < D) → Q (.ref D) { s with heap := h' })
    (hs : subscripted slice false (.ref l) (.ref s.heap.objs.size) = operate [.ref s.heap.objs.size, .ref l] (getItem (.ref l) (.ref s.heap.objs.size))) :
    wpAny (model PG w) A (subscriptTail value slice (.ref l) (.ref s.heap.objs.size)) Q E { s with heap := s.heap.push { cls := .type "slice", data := .fields #[.none, .int (b : Int) t, .none] } } := by
  have hz' : vs.toArray.size ≤ sizeLine := by rw [List.size_toArray, sizeLine_eq]; omega
  refine kba_turn (value' := PySem.Expr.Name (PySem.Str.ofString "_") ⟨0, 0, 0, 0⟩) (fun _ => rfl) ?_
  refine kmk_slice F N hl IsPart.none (IsPart.int _ _) (fun D h' F' N' l1 => h D h' F' ?_ l1) hs (fun _ => rfl) hz'
  rw [slicePick_upto'] at N'
  exact N'
theorem slice_from2 {l : Addr} {value slice : PySem.Expr} {vs : List Value} {b : Nat} {t : Tok} {Q : Value → Shared → Prop}
    (F : Fr h₀ L s.heap m) (N : News h₀ L s.heap news) (hl : s.heap.IsList l (List.toArray vs)) (hz : vs.length ≤ 100000)
    (h : ∀ D h', Fr h₀ L h' m → News h₀ L h' ((D, listOf (List.toArray (vs.drop (b + 1))) 0) :: news) → (∀ p ∈ news, p.1 < D) → Q (.ref D) { s with heap := h' })
    (hs : subscripted slice false (.ref l) (.ref s.heap.objs.size) = operate [.ref s.heap.objs.size, .ref l] (getItem (.ref l) (.ref s.heap.objs.size))) :
    wpAny (model PG w) A (subscriptTail value slice (.ref l) (.ref s.heap.objs.size)) Q E { s with heap := s.heap.push { cls := .type "slice", data := .fields #[.int ((b : Int) + 1) t, .none, .none] } } := by
  have hz' : vs.toArray.size ≤ sizeLine := by rw [List.size_toArray, sizeLine_eq]; omega
  refine kba_turn (value' := PySem.Expr.Name (PySem.Str.ofString "_") ⟨0, 0, 0, 0⟩) (fun _ => rfl) ?_
  refine kmk_slice (lo := some (((b + 1 : Nat)) : Int)) (hi := none) F N hl (IsPart.int _ _) IsPart.none (fun D h' F' N' l1 => h D h' F' ?_ l1) hs (fun _ => rfl) hz'
  rw [slicePick_from'] at N'
  exact N'
end
theorem ways_nd {w : World} {tn news : List (Addr × Obj)} {d : Addr} {names : List Str} {f : Str → Str → Int} {h₀ h : Heap} {L : Addr} (W : ∀ h, In tn h → WaysAt w h d names f) (N : News h₀ L h news) (s : ∀ p ∈ tn, p ∈ news) : (d == sysModules) = false := (W h fun p hp => (N p (s p hp)).1).nd

theorem law_all : PySem.Challenge.rw_ov0052_01.Holds := by
  refine hd (by rfl) (by rfl) (by rfl) ?_
  k_go0
  rename Top _ _ _ _ _ _ => hTop
  rename Frag.In _ _ => hX
  rename IntsAre _ _ => hI0
  rename Heap.IsList _ _ _ => hL
  have T : TR _ _ _ := topRead_of hTop
  refine noE ?_
  rename Shared => s1
  refine law_end s1 ?hend ?main
  case hend =>
    intro h9 tk9 L9 m9 F9
    try dsimp only
    wrow_close
  try dsimp only
  (repeat' (first | ((with_reducible show wpAny _ _ (execs (List.cons (PySem.Stmt.If _ _ _ _) _) _) _ _ _); (try dsimp only); (with_reducible refine execs_cut ?_); intro Q1'c hc'c) | ((with_reducible refine execs_cut ?_); intro Q1'c hc'c) | (with_reducible ((with_reducible show wpAny _ _ (newList []) _ _ _); k_dflt (refine' newList_sub (by with_reducible assumption) (by with_reducible assumption) ?_ (by kmk_size)); intro D'q h'q F'q N'q l1 k'q; (try k_lt l1); (try k_sweep))) | ((with_reducible show wpAny _ _ (call _ _ _) _ _ _); first | ((with_reducible show wpAny _ _ (call (Value.ref 168) _ _) _ _ _); refine' wpAL (ctable_spec (by with_reducible assumption) (by with_reducible assumption) (by exact Fr.keep (by with_reducible assumption)) ?_) (by rfl) (by exact Nat.le_of_ble_eq_true rfl) (by exact Nat.le_of_ble_eq_true rfl) (by rfl) (by rfl); intro h'q tk'q x'q dx'q e1 e2 k1 k2 n'q c'q u'q co'q uo'q s'q g'q ne'q d1 d2 nc'q nu'q; (have q'q := led_fourN (by with_reducible assumption) (by with_reducible assumption) s'q g'q); have F'q := q'q.1; have N'q := q'q.2.1; have l1'q := q'q.2.2.1; have l2'q := q'q.2.2.2.1; have l3'q := q'q.2.2.2.2.1; have l4'q := q'q.2.2.2.2.2; have m1'q := ne'q.1; have m2'q := ne'q.2.1; have m3'q := ne'q.2.2.1; have m4'q := ne'q.2.2.2.1; have m5'q := ne'q.2.2.2.2; clear q'q ne'q; k_sweep) | (with_reducible ((with_reducible show wpAny _ _ (call (Value.ref 186) _ _) _ _ _); k_dflt (refine at_pick ?_)))) | (with_reducible ((with_reducible show wpAny _ _ (eval (PySem.Expr.Dict _ _ _) _) _ _ _); refine' kdn_eval (knd := strKind PG _) (by assumption) (by assumption) (by k_dflt (exact TopRead.nolimit (by with_reducible assumption))) (by k_dflt (rfl)) (by k_dflt (rfl)) (by exact List.cons_ne_nil _ _) (by k_dflt (exact Nat.le_of_ble_eq_true rfl)) ?_; intro d'q h'q o'q F'q N'q l1 lo'q hd'q; (try k_lt l1); (try k_sweep))) | walk1 | (dsimp only; walk1) | ((with_reducible show Q1'c _ _); first | ((with_reducible refine hc'c.n _ ?_); clear hc'c Q1'c; (try dsimp only)) | ((with_reducible refine hc'c.f _ _ (by first | (with_reducible exact retN) | (intro h; cases h)) ?_); clear hc'c Q1'c; (try dsimp only))) | fail "no step"))
  rename Fr _ _ _ _ => F
  rename News _ _ _ _ => N
  rename IntsAre _ _ => hI
  generalize bindL _ _ _ = u0 at F
  obtain ⟨tl, oh, kd, N2, hO, hT, hD, hF, hDi⟩ := law_start N (by with_reducible assumption) (by with_reducible assumption) (by with_reducible assumption) (by with_reducible assumption) (by with_reducible assumption) hI (z_nonneg _) (z_lt _) (by walk_at "NE") (by walk_at "NE") (by walk_at "NE") (by walk_at "NE") (by walk_at "NE") (by refine ⟨?_, ?_, ?_, ?_, ?_, ?_, ?_, ?_, ?_, ?_⟩ <;> k_ne)
  clear N
  have hlen := take63 hI
  obtain ⟨⟨cvs, ce, hcl, hci⟩, hcc⟩ := id hF
  obtain ⟨dd1, dd2, dd3, dd4, dd5, dd6, dd7, dd8, dd9, dd10, dd11, dd12, dd13, dd14, dd15⟩ := id hDi
  have hcl' := allNe_mem dd1 _ hcl
  unfold AtPick
  dsimp only at hcl'
  (with_reducible ((with_reducible show wpAny _ _ (call (Value.ref 186) _ _) _ _ _); k_dflt (refine' wpAL (pick_led (by with_reducible assumption) (by with_reducible assumption) (by with_reducible assumption) (by with_reducible assumption) (by k_updF) (by with_reducible assumption) (by walk_at "MEM") (by k_ne) (by with_reducible assumption) (by with_reducible assumption) (by with_reducible walk_at "LEN") (by with_reducible walk_at "LEN") ?_) (by rfl) (by exact Nat.le_of_ble_eq_true rfl) (by exact Nat.le_of_ble_eq_true rfl) (by rfl) (by rfl)); intro h'q tk'q d'q t'q o'q F'q N'q hO'q d0'q d1'q; (try dsimp only at N'q); (try simp only [List.length_append, List.length_cons, List.length_nil] at d1'q); k_sweep))
  (repeat' (first | ((with_reducible show wpAny _ _ (execs (List.cons (PySem.Stmt.If _ _ _ _) _) _) _ _ _); (try dsimp only); (with_reducible refine execs_cut ?_); intro Q1'c hc'c) | ((with_reducible refine execs_cut ?_); intro Q1'c hc'c) | walk1 | (dsimp only; walk1) | ((with_reducible show Q1'c _ _); first | ((with_reducible refine hc'c.n _ ?_); clear hc'c Q1'c; (try dsimp only)) | ((with_reducible refine hc'c.f _ _ (by first | (with_reducible exact retN) | (intro h; cases h)) ?_); clear hc'c Q1'c; (try dsimp only))) | fail "no step"))
  rename Fr _ _ _ _ => F1
  rename News _ _ _ _ => N1
  rename HandOk _ _ _ => hO1
  rename IsRange _ _ _ _ _ _ _ _ => hr1
  refine loopRb (held := []) ["at", "name", "contains", "_", "pool", "one"] (LawJ _ _ _ _ _ _ _ _ _ _ _ _) rfl hr1 (by omega) (by omega) F1 (by rw [List.append_nil]; exact N1) (LawS.start hO1 hT hD hF hDi) ?turn1 ?done1
  case turn1 =>
    clear F1 N1 hr1 hO1 hT hD hF hDi hcl hci hcc dd1 dd2 dd3 dd4 dd5 dd6 dd7 dd8 dd9 dd10 dd11 dd12 dd13 dd14 dd15 hcl'
    repeat (rename _ ∧ _ => z; clear z)
    intro i t u news1 h1 tk1 I oI hi J1 hI1 F1 N1
    refine LawJ.turn J1 hI1 N1 ?_
    intro oh co ddo mvs me kc kd tl K td e1 e2 k1 k2 n N2 i1 i2 i3 i4 i5 hI3 hMl t1 t2 t3 t4 t5 t6 t7 t8 t9 t10 t11 t12 t13 t14 t15 t16 t17 t18 S
    have hMl := hMl (by omega)
    clear N1 J1 hI1
    obtain ⟨hO1, hT1, hD1, hM1, hK1, ⟨⟨cvs1, ce1, hcl1, hci1⟩, hcc1⟩, ⟨a1, a2, a3, a4, a5, a6, a7, a8, a9, a10, a11, a12, a13, a14, a15⟩⟩ := id S
    have hcl1' := allNe_mem a1 _ hcl1
    dsimp only at hcl1'
    (repeat' (first | ((with_reducible show wpAny _ _ (execs (List.cons (PySem.Stmt.If _ _ _ _) _) _) _ _ _); (try dsimp only); (with_reducible refine execs_cut ?_); intro Q1'c hc'c) | ((with_reducible refine execs_cut ?_); intro Q1'c hc'c) | (with_reducible ((with_reducible show wpAny _ _ (newList []) _ _ _); k_dflt (refine' newList_sub (by with_reducible assumption) (by with_reducible assumption) ?_ (by kmk_size)); intro D'q h'q F'q N'q l1 k'q; (try k_lt l1); (try k_sweep))) | (with_reducible ((with_reducible show wpAny _ _ (call (Value.ref 186) _ _) _ _ _); k_dflt (refine' wpAL (pick_led (by with_reducible assumption) (by with_reducible assumption) (by with_reducible assumption) (by with_reducible assumption) (by k_updF) (by with_reducible assumption) (by walk_at "MEM") (by k_ne) (by with_reducible assumption) (by with_reducible assumption) (by with_reducible walk_at "LEN") (by with_reducible walk_at "LEN") ?_) (by rfl) (by exact Nat.le_of_ble_eq_true rfl) (by exact Nat.le_of_ble_eq_true rfl) (by rfl) (by rfl)); intro h'q tk'q d'q t'q o'q F'q N'q hO'q d0'q d1'q; (try dsimp only at N'q); (try simp only [List.length_append, List.length_cons, List.length_nil] at d1'q); k_sweep)) | walk1 | (dsimp only; walk1) | ((with_reducible show Q1'c _ _); first | ((with_reducible refine hc'c.n _ ?_); clear hc'c Q1'c; (try dsimp only)) | ((with_reducible refine hc'c.f _ _ (by first | (with_reducible exact retN) | (intro h; cases h)) ?_); clear hc'c Q1'c; (try dsimp only))) | fail "no step"))
    rename Fr _ _ _ _ => F4
    rename News _ _ _ _ => N4
    rename HandOk _ _ _ => hO4
    rename IsRange _ _ _ _ _ _ _ _ => hr4
    refine loopRb (held := _) ["_", "pool", "one"] (InJ _ _ _ _ (K.map (·.1) ++ (["integer", "numeric"] : List Str))) rfl hr4 (by omega) (by omega) F4 (news_swap N4) (InJ.start hO4) ?turn2 ?done2
    case turn2 =>
      clear F4 N4 hr4 hO4
      rintro i5 t5 u5 news5 h5 tk5 I5 oI5 hi5 ⟨oh5, vs5, e5, ys, rfl, hS5⟩ hI5 F5 N5
      obtain ⟨hO5, hM5, _, _, _⟩ := id hS5
      simp only [List.cons_append, List.nil_append] at hI5 N5
      simp only [AllNe] at hI5
      have hI51 := hI5.1
      have hI52 := hI5.2.1
      repeat (rename _ ∧ _ => z; have zl := z.1; have zr := z.2; clear z)
      (repeat' (first | ((with_reducible show wpAny _ _ (execs (List.cons (PySem.Stmt.If _ _ _ _) _) _) _ _ _); (try dsimp only); (with_reducible refine execs_cut ?_); intro Q1'c hc'c) | ((with_reducible refine execs_cut ?_); intro Q1'c hc'c) | (with_reducible ((with_reducible show wpAny _ _ (binaryOp .Add (Value.ref _) (Value.ref _)) _ _ _); k_dflt (refine' add_lists_led (by with_reducible assumption) (by with_reducible assumption) (by walk_at "MEM") (by walk_at "MEM") (by with_reducible (simp only [List.length_append, List.length_take, List.length_drop, List.length_cons, List.length_nil]; omega)) ?_); intro D'q h'q F'q N'q l1; (try k_lt l1); (try simp only [List.cons_append, List.nil_append] at N'q); (try k_sweep))) | ((with_reducible show wpAny _ _ (call _ _ _) _ _ _); first | (with_reducible ((with_reducible show wpAny _ _ (call (Value.builtin "len") [Value.ref _]) _ _ _); k_dflt (refine' len_led (by with_reducible assumption) (by walk_at "MEM") (by with_reducible walk_at "LEN") ?_))) | (with_reducible ((with_reducible show wpAny _ _ (call (Value.ref 186) _ _) _ _ _); k_dflt (refine' wpAL (pick_led (by with_reducible assumption) (by with_reducible assumption) (by with_reducible assumption) (by with_reducible assumption) (by k_updF) (by with_reducible assumption) (by walk_at "MEM") (by k_ne) (by with_reducible assumption) (by with_reducible assumption) (by with_reducible walk_at "LEN") (by with_reducible walk_at "LEN") ?_) (by rfl) (by exact Nat.le_of_ble_eq_true rfl) (by exact Nat.le_of_ble_eq_true rfl) (by rfl) (by rfl)); intro h'q tk'q d'q t'q o'q F'q N'q hO'q d0'q d1'q; (try dsimp only at N'q); (try simp only [List.length_append, List.length_cons, List.length_nil] at d1'q); k_sweep))) | (with_reducible ((with_reducible show wpAny _ _ (subscriptTail _ _ (Value.ref _) (Value.int _ _)) _ _ _); k_dflt (refine' item_strs (by with_reducible assumption) (by walk_at "MEM") (by walk_at "STRS") (by with_reducible omega) (by with_reducible walk_at "LEN") (by with_reducible walk_at "LEN") ?_ (by with_unfolding_all rfl)); intro x'q t'q hx'q)) | walk1 | (dsimp only; walk1) | ((with_reducible show Q1'c _ _); first | ((with_reducible refine hc'c.n _ ?_); clear hc'c Q1'c; (try dsimp only)) | ((with_reducible refine hc'c.f _ _ (by first | (with_reducible exact retN) | (intro h; cases h)) ?_); clear hc'c Q1'c; (try dsimp only))) | fail "no step"))
      · rename Fr _ _ _ _ => F6
        rename News _ _ _ _ => N6
        rename HandOk _ _ _ => hO6
        exact TE.in0 F6 N6 (by walk_at "SUBM") (by walk_at "SUBM") hI51 hI52 hS5 hO6 (by walk_at "SAME3")
      · rename Fr _ _ _ _ => F6
        rename News _ _ _ _ => N6
        rename HandOk _ _ _ => hO6
        rename _ = some _ => hx6
        rename List.any _ _ = false => hno6
        simp only [List.push_toArray] at N6
        refine' TE.in1 F6 N6 ?hn7 ?ho7 hI51 hI52 hS5 hO6 hx6 hno6 (by walk_at "SAME3")
        case hn7 => walk_at "SUBM"
        case ho7 => walk_at "SUBM"
    case done2 =>
      clear F4 N4 hr4 hO4
      rintro n6 u6 news6 h6 tk6 hn6 ⟨oh6, vs6, e6, ys6, rfl, hS6⟩ F6 N6
      obtain ⟨hO6, hM6, nd6, le6, mem6⟩ := id hS6
      obtain ⟨kn1, kn2, kn3⟩ := kn_at (show i < 4 by omega)
      rw [← hK1.keys] at kn2
      obtain ⟨hB6, hk6, hne6, hdi6⟩ := hK1.define kn2 kn3 mem6
      have hkc6 := hT1.kc_le (Nat.le_trans hK1.len (by decide))
      have hle6 : ys6.length ≤ 1000 := by omega
      simp only [List.cons_append, List.nil_append] at N6
      have hkd6 : kd.length ≤ 100000 := by rw [hD1.ed.length, List.length_append]; have := hK1.len; have : basics3.length = 3 := rfl; omega
      repeat (rename _ ∧ _ => z; have zl := z.1; have zr := z.2; clear z)
      have hds6 := hD1.ds
      (repeat' (first | ((with_reducible show wpAny _ _ (execs (List.cons (PySem.Stmt.If _ _ _ _) _) _) _ _ _); (try dsimp only); (with_reducible refine execs_cut ?_); intro Q1'c hc'c) | ((with_reducible refine execs_cut ?_); intro Q1'c hc'c) | (with_reducible ((with_reducible show wpAny _ _ (newList []) _ _ _); k_dflt (refine' newList_sub (by with_reducible assumption) (by with_reducible assumption) ?_ (by kmk_size)); intro D'q h'q F'q N'q l1 k'q; (try k_lt l1); (try k_sweep))) | ((with_reducible show wpAny _ _ (call _ _ _) _ _ _); first | (with_reducible ((with_reducible show wpAny _ _ (call (Value.ref 109) _ _) _ _ _); k_dflt (refine' wpAL (define_led (by with_reducible assumption) (by with_reducible assumption) (by with_reducible assumption) (by with_reducible assumption) (by with_reducible assumption) (by k_updF) (by walk_at "MEM") (by walk_at "SUBM") (by with_reducible assumption) (by (refine' cls_news (by with_reducible assumption) (by refine' cls_of (by walk_at "MEM") (by walk_at "MEM") (by walk_at "MEM") (by walk_at "MEM") (by with_reducible assumption) (by with_reducible assumption)))) (by with_reducible assumption) (by with_reducible assumption) (by with_reducible assumption) (by with_reducible assumption) ?_) (by rfl) (by exact Nat.le_of_ble_eq_true rfl) (by exact Nat.le_of_ble_eq_true rfl) (by rfl) (by rfl)); intro h'q tk'q co'q F'q N'q dc'q; (try dsimp only at N'q); k_sweep)) | ((with_reducible show wpAny _ _ (call (Value.ref 63) _ _) _ _ _); refine' wpAL (make_spec (by with_reducible assumption) (by with_reducible assumption) (by exact Fr.keep (by with_reducible assumption)) ?_) (by rfl) (by exact Nat.le_of_ble_eq_true rfl) (by exact Nat.le_of_ble_eq_true rfl) (by rfl) (by rfl); intro h'q tk'q x'q dx'q e1 e2 e3 e4 e5 e6 k1 k2 k3 k4 k5 k6 n'q s'q n1 n2 ne'q g1 g2; (have q'q := led_pairN (by with_reducible assumption) (by with_reducible assumption) s'q n1 n2 g1 g2); have F'q := q'q.1; have N'q := q'q.2.1; have l1'q := q'q.2.2.1; have l2'q := q'q.2.2.2; clear q'q; k_sweep)) | (with_reducible ((with_reducible show wpAny _ _ (setItem (Value.ref _) (Value.str _ _) _) _ _ _); k_dflt (refine' set_led (by with_reducible assumption) (by with_reducible assumption) (by k_updF) (by with_reducible assumption) (by with_reducible assumption) ?_); intro h'q o'q F'q N'q hd'q; (try dsimp only at N'q); (try k_sweep))) | walk1 | (dsimp only; walk1) | ((with_reducible show Q1'c _ _); first | ((with_reducible refine hc'c.n _ ?_); clear hc'c Q1'c; (try dsimp only)) | ((with_reducible refine hc'c.f _ _ (by first | (with_reducible exact retN) | (intro h; cases h)) ?_); clear hc'c Q1'c; (try dsimp only))) | fail "no step"))
      rename Fr _ _ _ _ => F9
      rename News _ _ _ _ => N9
      repeat (rename _ ∧ _ => z; have zl := z.1; have zr := z.2; clear z)
      simp only [List.push_toArray] at N9
      refine' TE.law F9 N9 ?hn9 ?ho9 S kn1 kn2 kn3 hS6 rfl ?hj9 hM6 ?hc9 ?hd9 ?q19 ?q29 ?q39 ?q49 ?q59 ?q69 hI3 ?hm9
      case hn9 => walk_at "SUBM"
      case ho9 => walk_at "SUBM"
      case hj9 => omega
      case hc9 => with_reducible assumption
      case hd9 => with_reducible assumption
      case q19 => walk_at "NE"
      case q29 => walk_at "NE"
      case q39 => walk_at "NE"
      case q49 => walk_at "NE"
      case q59 => walk_at "NE"
      case q69 => walk_at "NE"
      case hm9 => walk_at "SAME3"

  case done1 =>
    clear F1 N1 hr1 hO1 hT hD hF hDi hcl hci hcc dd1 dd2 dd3 dd4 dd5 dd6 dd7 dd8 dd9 dd10 dd11 dd12 dd13 dd14 dd15 hcl'
    repeat (rename _ ∧ _ => z; clear z)
    intro n7 u7 news7 h7 tk7 hn7 J7 F7 N7
    obtain ⟨oh7, co7, ddo7, mvs7, me7, kc7, kd7, tl7, K, rfl, S7⟩ := J7
    obtain ⟨hO7, hT7, hD7, hM7, hK7, ⟨⟨cvs7, ce7, hcl7, hci7⟩, hcc7⟩, ⟨a1, a2, a3, a4, a5, a6, a7, a8, a9, a10, a11, a12, a13, a14, a15⟩⟩ := id S7
    have hcl7' := allNe_mem a1 _ hcl7
    have hKl := hK7.len
    have hMl : mvs7.length = K.length := by rw [StrsAre.len_eq hM7, List.length_map]
    dsimp only at hcl7'
    simp only [List.append_nil] at N7
    (repeat' (first | ((with_reducible show wpAny _ _ (execs (List.cons (PySem.Stmt.If _ _ _ _) _) _) _ _ _); (try dsimp only); (with_reducible refine execs_cut ?_); intro Q1'c hc'c) | ((with_reducible refine execs_cut ?_); intro Q1'c hc'c) | (with_reducible ((with_reducible show wpAny _ _ (call (Value.ref 186) _ _) _ _ _); k_dflt (refine' wpAL (pick_led (by with_reducible assumption) (by with_reducible assumption) (by with_reducible assumption) (by with_reducible assumption) (by k_updF) (by with_reducible assumption) (by walk_at "MEM") (by k_ne) (by with_reducible assumption) (by with_reducible assumption) (by with_reducible walk_at "LEN") (by with_reducible walk_at "LEN") ?_) (by rfl) (by exact Nat.le_of_ble_eq_true rfl) (by exact Nat.le_of_ble_eq_true rfl) (by rfl) (by rfl)); intro h'q tk'q d'q t'q o'q F'q N'q hO'q d0'q d1'q; (try dsimp only at N'q); (try simp only [List.length_append, List.length_cons, List.length_nil] at d1'q); k_sweep)) | walk1 | (dsimp only; walk1) | ((with_reducible show Q1'c _ _); first | ((with_reducible refine hc'c.n _ ?_); clear hc'c Q1'c; (try dsimp only)) | ((with_reducible refine hc'c.f _ _ (by first | (with_reducible exact retN) | (intro h; cases h)) ?_); clear hc'c Q1'c; (try dsimp only))) | fail "no step"))
    rename Fr _ _ _ _ => F8
    rename News _ _ _ _ => N8
    rename HandOk _ _ _ => hO8
    rename IsRange _ _ _ _ _ _ _ _ => hr8
    rename Obj.IsDictOf (PySem.strKind _ _) _ [] => hun8
    repeat (rename _ ∧ _ => z; have zl := z.1; have zr := z.2; clear z)
    refine' loopRb (held := []) ["at", "inside", "_", "one"] (UnJ _ _ _ _ _ _ _ _ _ _ _ _ _ _ _ _ _) rfl hr8 ?b08 ?b18 F8 ?n8 (UnS.start S7 hO8 hun8 ?q8) ?turn8 ?done8
    case b08 => omega
    case b18 => omega
    case n8 => (rw [List.append_nil]; exact News.of N8 (by walk_at "SUBM"))
    case q8 =>
      refine' ⟨?z1, ?z2, ?z3, ?z4, ?z5, ?z6⟩
      case z1 => walk_at "NE"
      case z2 => k_ne
      case z3 => k_ne
      case z4 => k_ne
      case z5 => k_ne
      case z6 => k_ne
    case turn8 =>
      clear F8 N8 hr8 hO8 S7 hO7 hT7 hD7 a1 a2 a3 a4 a5 a6 a7 a8 a9 a10 a11 a12 a13 a14 a15
      clear hcl7' hcl7 hcc7
      intro i8 u8 v8 news8 h8 tk8 I8 oI8 hi8 J8 hI8 F9 N9
      obtain rfl : i8 = 0 := by omega
      refine UnJ.turn J8 hI8 N9 ?_
      intro oh9 co9 uo9 uno9 kc9 tl9 td9 e1 e2 k1 k2 n9 N10 i1 i2 i3 i4 i5 i6 hI9 t1 t2 t3 t4 t5 t6 t7 t8 t9 t10 t11 t12 t13 t14 S9
      clear N9 J8 hI8
      obtain ⟨hO9, hT9, hN9, hD9, hU9, ⟨⟨cvs9, ce9, hcl9, hci9⟩, hcc9⟩, ⟨a1, a2, a3, a4, a5, a6, a7, a8, a9, a10, a11, a12, a13, a14, a15⟩, ⟨u1, u2, u3, u4, u5, u6⟩⟩ := id S9
      clear hT9
      have hT9 := S9.tab
      have hcl9' := allNe_mem a1 _ hcl9
      dsimp only at hcl9'
      (repeat' (first | ((with_reducible show wpAny _ _ (execs (List.cons (PySem.Stmt.If _ _ _ _) _) _) _ _ _); (try dsimp only); (with_reducible refine execs_cut ?_); intro Q1'c hc'c) | ((with_reducible refine execs_cut ?_); intro Q1'c hc'c) | (with_reducible ((with_reducible show wpAny _ _ (newList []) _ _ _); k_dflt (refine' newList_sub (by with_reducible assumption) (by with_reducible assumption) ?_ (by kmk_size)); intro D'q h'q F'q N'q l1 k'q; (try k_lt l1); (try k_sweep))) | (with_reducible ((with_reducible show wpAny _ _ (call (Value.ref 186) _ _) _ _ _); k_dflt (refine' wpAL (pick_led (by with_reducible assumption) (by with_reducible assumption) (by with_reducible assumption) (by with_reducible assumption) (by k_updF) (by with_reducible assumption) (by walk_at "MEM") (by k_ne) (by with_reducible assumption) (by with_reducible assumption) (by with_reducible walk_at "LEN") (by with_reducible walk_at "LEN") ?_) (by rfl) (by exact Nat.le_of_ble_eq_true rfl) (by exact Nat.le_of_ble_eq_true rfl) (by rfl) (by rfl)); intro h'q tk'q d'q t'q o'q F'q N'q hO'q d0'q d1'q; (try dsimp only at N'q); (try simp only [List.length_append, List.length_cons, List.length_nil] at d1'q); k_sweep)) | walk1 | (dsimp only; walk1) | ((with_reducible show Q1'c _ _); first | ((with_reducible refine hc'c.n _ ?_); clear hc'c Q1'c; (try dsimp only)) | ((with_reducible refine hc'c.f _ _ (by first | (with_reducible exact retN) | (intro h; cases h)) ?_); clear hc'c Q1'c; (try dsimp only))) | fail "no step"))
      rename Fr _ _ _ _ => F10
      rename News _ _ _ _ => N11
      rename HandOk _ _ _ => hO10
      rename IsRange _ _ _ _ _ _ _ _ => hr10
      refine loopRb (held := _) ["_", "one"] (InJ _ _ _ _ (K.map (·.1) ++ (["numeric"] : List Str))) rfl hr10 (by omega) (by omega) F10 (news_swap N11) (InJ.start hO10) ?turn10 ?done10
      case turn10 =>
        clear F10 N11 hr10 hO10
        rintro i11 t11 u11 news11 h11 tk11 I11 oI11 hi11 ⟨oh11, vs11, e11, ys11, rfl, hS11⟩ hI11 F11 N12
        obtain ⟨hO11, hM11, _, _, _⟩ := id hS11
        simp only [List.cons_append, List.nil_append] at hI11 N12
        simp only [AllNe] at hI11
        have hI111 := hI11.1
        have hI112 := hI11.2.1
        repeat (rename _ ∧ _ => z; have zl := z.1; have zr := z.2; clear z)
        (repeat' (first | ((with_reducible show wpAny _ _ (execs (List.cons (PySem.Stmt.If _ _ _ _) _) _) _ _ _); (try dsimp only); (with_reducible refine execs_cut ?_); intro Q1'c hc'c) | ((with_reducible refine execs_cut ?_); intro Q1'c hc'c) | (with_reducible ((with_reducible show wpAny _ _ (binaryOp .Add (Value.ref _) (Value.ref _)) _ _ _); k_dflt (refine' add_lists_led (by with_reducible assumption) (by with_reducible assumption) (by walk_at "MEM") (by walk_at "MEM") (by with_reducible (simp only [List.length_append, List.length_take, List.length_drop, List.length_cons, List.length_nil]; omega)) ?_); intro D'q h'q F'q N'q l1; (try k_lt l1); (try simp only [List.cons_append, List.nil_append] at N'q); (try k_sweep))) | ((with_reducible show wpAny _ _ (call _ _ _) _ _ _); first | (with_reducible ((with_reducible show wpAny _ _ (call (Value.builtin "len") [Value.ref _]) _ _ _); k_dflt (refine' len_led (by with_reducible assumption) (by walk_at "MEM") (by with_reducible walk_at "LEN") ?_))) | (with_reducible ((with_reducible show wpAny _ _ (call (Value.ref 186) _ _) _ _ _); k_dflt (refine' wpAL (pick_led (by with_reducible assumption) (by with_reducible assumption) (by with_reducible assumption) (by with_reducible assumption) (by k_updF) (by with_reducible assumption) (by walk_at "MEM") (by k_ne) (by with_reducible assumption) (by with_reducible assumption) (by with_reducible walk_at "LEN") (by with_reducible walk_at "LEN") ?_) (by rfl) (by exact Nat.le_of_ble_eq_true rfl) (by exact Nat.le_of_ble_eq_true rfl) (by rfl) (by rfl)); intro h'q tk'q d'q t'q o'q F'q N'q hO'q d0'q d1'q; (try dsimp only at N'q); (try simp only [List.length_append, List.length_cons, List.length_nil] at d1'q); k_sweep))) | (with_reducible ((with_reducible show wpAny _ _ (subscriptTail _ _ (Value.ref _) (Value.int _ _)) _ _ _); k_dflt (refine' item_strs (by with_reducible assumption) (by walk_at "MEM") (by walk_at "STRS") (by with_reducible omega) (by with_reducible walk_at "LEN") (by with_reducible walk_at "LEN") ?_ (by with_unfolding_all rfl)); intro x'q t'q hx'q)) | walk1 | (dsimp only; walk1) | ((with_reducible show Q1'c _ _); first | ((with_reducible refine hc'c.n _ ?_); clear hc'c Q1'c; (try dsimp only)) | ((with_reducible refine hc'c.f _ _ (by first | (with_reducible exact retN) | (intro h; cases h)) ?_); clear hc'c Q1'c; (try dsimp only))) | fail "no step"))
        · rename Fr _ _ _ _ => F12
          rename News _ _ _ _ => N13
          rename HandOk _ _ _ => hO12
          exact TE.in0 F12 N13 (by walk_at "SUBM") (by walk_at "SUBM") hI111 hI112 hS11 hO12 (by walk_at "SAME3")
        · rename Fr _ _ _ _ => F12
          rename News _ _ _ _ => N13
          rename HandOk _ _ _ => hO12
          rename _ = some _ => hx12
          rename List.any _ _ = false => hno12
          simp only [List.push_toArray] at N13
          refine' TE.in1 F12 N13 ?hn13 ?ho13 hI111 hI112 hS11 hO12 hx12 hno12 (by walk_at "SAME3")
          case hn13 => walk_at "SUBM"
          case ho13 => walk_at "SUBM"
      case done10 =>
        clear F10 N11 hr10 hO10
        rintro n12 u12 news12 h12 tk12 hn12 ⟨oh12, vs12, e12, ys12, rfl, hS12⟩ F12 N13
        obtain ⟨hO12, hM12, nd12, le12, mem12⟩ := id hS12
        obtain ⟨hB12, hk12, hne12, hdi12⟩ := hK7.union (nm := Str.ofString "U" ++ Str.ofString (toString ((0 : Nat) : Int))) (by decide +kernel) mem12
        have hkc12 := hT9.kc_le (Nat.le_trans hK7.len (by decide))
        have hle12 : ys12.length ≤ 1000 := by omega
        have hds12 := hN9.ds
        have hz12 := kv0
        simp only [List.cons_append, List.nil_append] at N13
        repeat (rename _ ∧ _ => z; have zl := z.1; have zr := z.2; clear z)
        (repeat' (first | ((with_reducible show wpAny _ _ (execs (List.cons (PySem.Stmt.If _ _ _ _) _) _) _ _ _); (try dsimp only); (with_reducible refine execs_cut ?_); intro Q1'c hc'c) | ((with_reducible refine execs_cut ?_); intro Q1'c hc'c) | (with_reducible ((with_reducible show wpAny _ _ (call (Value.ref 116) _ _) _ _ _); k_dflt (refine' wpAL (union_led (by with_reducible assumption) (by with_reducible assumption) (by with_reducible assumption) (by with_reducible assumption) (by with_reducible assumption) (by k_updF) (by (intro o; (try dsimp only); k_updF)) (by walk_at "MEM") (by walk_at "MEM") (by walk_at "SUBM") (by walk_at "NE") (by walk_at "NE") (by k_ne) (by walk_at "MEM") (by with_reducible assumption) (by with_reducible assumption) (by with_reducible assumption) (by with_reducible assumption) (by with_reducible assumption) (by with_reducible assumption) (by with_reducible assumption) (by exact kv0) ?_) (by rfl) (by exact Nat.le_of_ble_eq_true rfl) (by exact Nat.le_of_ble_eq_true rfl) (by rfl) (by rfl)); intro h'q tk'q co'q uo'q x'q l'q tn'q F'q N'q A'q dc'q du'q w'q; (try dsimp only at N'q); (try simp only [List.cons_append, List.append_assoc] at N'q); k_sweep)) | (with_reducible ((with_reducible show wpAny _ _ (setItem (Value.ref _) (Value.str _ _) _) _ _ _); k_dflt (refine' set_led (by with_reducible assumption) (by with_reducible assumption) (by k_updF) (by with_reducible assumption) (by with_reducible assumption) ?_); intro h'q o'q F'q N'q hd'q; (try dsimp only at N'q); (try k_sweep))) | walk1 | (dsimp only; walk1) | ((with_reducible show Q1'c _ _); first | ((with_reducible refine hc'c.n _ ?_); clear hc'c Q1'c; (try dsimp only)) | ((with_reducible refine hc'c.f _ _ (by first | (with_reducible exact retN) | (intro h; cases h)) ?_); clear hc'c Q1'c; (try dsimp only))) | fail "no step"))
        rename Fr _ _ _ _ => F14
        rename News _ _ _ _ => N14
        repeat (rename _ ∧ _ => z; have zl := z.1; have zr := z.2; clear z)
        refine' TE.un F14 N14 ?hn14 ?ho14 S9 ?nm14 ?hK14 hS12 rfl ?hj14 ?hc14 ?hu14 ?hun14 ?hA14 ?q114 ?q214 ?q314 ?q414 ?q514 ?q614 ?q714 ?q814 ⟨i1, i2, i3, i4, i5, i6⟩ hI9 ?hm14
        case hA14 => with_reducible assumption
        case hn14 => walk_at "SUBM"
        case hc14 => with_reducible assumption
        case hu14 => with_reducible assumption
        case hun14 => with_reducible assumption
        case ho14 => walk_at "SUBM"
        case nm14 => decide +kernel
        case hK14 => exact fun q => hK7.fresh _ q (by decide +kernel)
        case hj14 => omega
        case q114 =>
          refine' ⟨?z1, ?z2, ?z3, ?z4, ?z5, ?z6, ?z7⟩
          case z1 => k_ne
          case z2 => k_ne
          case z3 => k_ne
          case z4 => k_ne
          case z5 => k_ne
          case z6 => k_ne
          case z7 => k_ne
        case q214 => with_reducible assumption
        case q314 => with_reducible assumption
        case q414 => with_reducible assumption
        case q514 => with_reducible assumption
        case q614 => with_reducible assumption
        case q714 => with_reducible assumption
        case q814 => with_reducible assumption
        case hm14 => walk_at "SAME3"

    case done8 =>
      clear F8 N8 hr8 hO8 S7 hO7 hT7 hD7 a1 a2 a3 a4 a5 a6 a7 a8 a9 a10 a11 a12 a13 a14 a15
      clear hcl7' hcl7 hcc7
      intro n20 u20 news20 h20 tk20 hn20 J20 F20 N20
      obtain ⟨oh20, co20, uo20, uno20, kc20, ku20, kn20, tl20, U, rfl, S20⟩ := J20
      obtain ⟨hO20, hT20, hN20, hD20, hU20, ⟨⟨cvs20, ce20, hcl20, hci20⟩, hcc20⟩, ⟨b1, b2, b3, b4, b5, b6, b7, b8, b9, b10, b11, b12, b13, b14, b15⟩, ⟨v1, v2, v3, v4, v5, v6⟩⟩ := id S20
      have hU := hU20.ok (by omega)
      have R1 := round1 hK7 hU
      have hcl20' := allNe_mem b1 _ hcl20
      dsimp only at hcl20'
      have g1 := R1.g
      have g2 := R1.hB
      have g3 := R1.hn
      have g4 := R1.hD
      have g5 := R1.hU
      have g6 := R1.hDl
      have g7 := R1.g.small
      have g8 := R1.g.closed
      simp only [List.append_nil] at N20
      obtain ⟨td20, te1, te2, tk1, tk2, tn20, mt1, mt2⟩ := hT20.inst
      have nt1 := allNe_mem b1 _ mt1
      have nt2 := allNe_mem b1 _ mt2
      have nt3 := allNe_mem b2 _ mt1
      have nt4 := allNe_mem b2 _ mt2
      have nt5 := allNe_mem b3 _ mt1
      have nt6 := allNe_mem b3 _ mt2
      dsimp only at nt1 nt2 nt3 nt4 nt5 nt6
      replace N20 := news_lay N20 mt1 mt2
      (repeat' (first | ((with_reducible show wpAny _ _ (execs (List.cons (PySem.Stmt.If _ _ _ _) _) _) _ _ _); (try dsimp only); (with_reducible refine execs_cut ?_); intro Q1'c hc'c) | ((with_reducible refine execs_cut ?_); intro Q1'c hc'c) | ((with_reducible show wpAny _ _ (call _ _ _) _ _ _); first | (with_reducible ((with_reducible show wpAny _ _ (call (Value.ref 193) _ _) _ _ _); k_dflt (refine' wpAL (near_led2 (by with_reducible assumption) (by with_reducible assumption) (by with_reducible assumption) (by with_reducible assumption) (by walk_at "MEM") (by walk_at "MEM") (by with_reducible assumption) (by with_reducible assumption) (by walk_at "SUBM") (by walk_at "SUBM") (by with_reducible assumption) (by with_reducible assumption) (by with_reducible assumption) (by with_reducible assumption) (by with_reducible assumption) (by with_reducible assumption) ?_) (by rfl) (by exact Nat.le_of_ble_eq_true rfl) (by exact Nat.le_of_ble_eq_true rfl) (by rfl) (by rfl)); intro h'q tk'q a'q tn'q F'q N'q A'q w'q; (try dsimp only at N'q); (try simp only [List.cons_append, List.append_assoc] at N'q); k_sweep)) | (with_reducible ((with_reducible show wpAny _ _ (call (Value.ref 205) _ _) _ _ _); k_dflt (refine' wpAL (right_led (by with_reducible assumption) (by with_reducible assumption) (by with_reducible assumption) (by with_reducible assumption) (by with_reducible assumption) (by with_reducible assumption) (by with_reducible assumption) (by walk_at "MEM") (by walk_at "MEM") (by walk_at "SUBM") (by walk_at "SUBM") (by walk_at "SUBM") (by with_reducible assumption) (by with_reducible assumption) (by with_reducible assumption) ?_) (by rfl) (by exact Nat.le_of_ble_eq_true rfl) (by exact Nat.le_of_ble_eq_true rfl) (by rfl) (by rfl)); intro h'q tk'q F'q N'q; k_sweep)) | (with_reducible ((with_reducible show wpAny _ _ (call (Value.ref 200) _ _) _ _ _); k_dflt (refine' wpAL (ways_led (by with_reducible assumption) (by with_reducible assumption) (by with_reducible assumption) (by with_reducible assumption) (by with_reducible assumption) (by walk_at "SUBM") (by with_reducible assumption) (by with_reducible assumption) ?_) (by rfl) (by exact Nat.le_of_ble_eq_true rfl) (by exact Nat.le_of_ble_eq_true rfl) (by rfl) (by rfl)); intro h'q tk'q a'q f'q tn'q F'q N'q A'q w'q B'q W'q; (try dsimp only at N'q); (try simp only [List.cons_append, List.append_assoc] at N'q); k_sweep))) | walk1 | (dsimp only; walk1) | ((with_reducible show Q1'c _ _); first | ((with_reducible refine hc'c.n _ ?_); clear hc'c Q1'c; (try dsimp only)) | ((with_reducible refine hc'c.f _ _ (by first | (with_reducible exact retN) | (intro h; cases h)) ?_); clear hc'c Q1'c; (try dsimp only))) | fail "no step"))
      rename Fr _ _ _ _ => F21
      rename News _ _ _ _ => N21
      repeat (rename _ ∧ _ => z; have zl := z.1; have zr := z.2; clear z)
      refine' compLA (items := mvs7) (hasRowV (basics3 ++ K)) SameStr rfl (.inr ⟨me7, ?ml21⟩) ?z21 F21 N21 ⟨?tests21, ?elt21⟩ ?cdone21
      case ml21 => walk_at "MEM"
      case z21 => omega
      case tests21 =>
        intro j v C oC3 m3 s3 E' hj hv F22 N22 hC hm3 hk3
        obtain ⟨z, tz, rfl, hz⟩ := StrsAre.item hM7 j v hv
        obtain ⟨ysz, hat, hl2, hok, _⟩ := hasRow_of hK7 (List.mem_of_getElem? hz)
        clear F21 N21
        refine tests_one ?_
        (repeat' (first | ((with_reducible show wpAny _ _ (execs (List.cons (PySem.Stmt.If _ _ _ _) _) _) _ _ _); (try dsimp only); (with_reducible refine execs_cut ?_); intro Q1'c hc'c) | ((with_reducible refine execs_cut ?_); intro Q1'c hc'c) | (with_reducible ((with_reducible show wpAny _ _ (subscriptTail _ _ (Value.ref _) (Value.str _ _)) _ _ _); k_dflt (refine' item_dir2 (by with_reducible assumption) (by with_reducible assumption) (by walk_at "MEM") (by with_reducible assumption) (by walk_at "SUBM") ?_ (by (intro _ _ _; with_unfolding_all rfl))); intro l'q vs'q e'q m'q S'q b'q z'q i'q)) | (with_reducible ((with_reducible show wpAny _ _ (newList []) _ _ _); k_dflt (refine' newList_sub (by with_reducible assumption) (by with_reducible assumption) ?_ (by kmk_size)); intro D'q h'q F'q N'q l1 k'q; (try k_lt l1); (try k_sweep))) | (with_reducible ((with_reducible show wpAny _ _ (compareOp .NotEq (Value.ref _) (Value.ref _)) _ _ _); k_dflt (refine' (cmp_nil (by with_reducible assumption) (by walk_at "MEM") (by walk_at "MEM") (by with_reducible assumption) (by with_reducible assumption) (by exact Nat.le_of_ble_eq_true rfl)).1 ?_))) | (with_reducible ((with_reducible show wpAny _ _ (eval (Expr.Name _ _) (compEnvC _ _ _ _)) _ _ _); k_dflt (refine' ld_cellC (by with_reducible assumption) (by rfl) (by k_mem) (by assumption) ?_ (by rfl) (by rfl) (by decide)))) | walk1 | (dsimp only; walk1) | ((with_reducible show Q1'c _ _); first | ((with_reducible refine hc'c.n _ ?_); clear hc'c Q1'c; (try dsimp only)) | ((with_reducible refine hc'c.f _ _ (by first | (with_reducible exact retN) | (intro h; cases h)) ?_); clear hc'c Q1'c; (try dsimp only))) | fail "no step"))
        exact CT.intro (by simp only [hasRowV, hasRow, hat, Option.getD_some]) (by with_reducible assumption)
      case elt21 =>
        intro j v C oC3 m3 s3 E' hj hv hp F22 N22 hC hm3 hk3
        obtain ⟨z, tz, rfl, hz⟩ := StrsAre.item hM7 j v hv
        clear F21 N21
        (repeat' (first | ((with_reducible show wpAny _ _ (execs (List.cons (PySem.Stmt.If _ _ _ _) _) _) _ _ _); (try dsimp only); (with_reducible refine execs_cut ?_); intro Q1'c hc'c) | ((with_reducible refine execs_cut ?_); intro Q1'c hc'c) | (with_reducible ((with_reducible show wpAny _ _ (eval (Expr.Name _ _) (compEnvC _ _ _ _)) _ _ _); k_dflt (refine' ld_cellC (by with_reducible assumption) (by rfl) (by k_mem) (by assumption) ?_ (by rfl) (by rfl) (by decide)))) | walk1 | (dsimp only; walk1) | ((with_reducible show Q1'c _ _); first | ((with_reducible refine hc'c.n _ ?_); clear hc'c Q1'c; (try dsimp only)) | ((with_reducible refine hc'c.f _ _ (by first | (with_reducible exact retN) | (intro h; cases h)) ?_); clear hc'c Q1'c; (try dsimp only))) | fail "no step"))
        exact CE.intro (h := s3.heap) (tk := s3.toks) ⟨z, tz, tz, rfl, rfl⟩ (fun _ _ e => e)
      case cdone21 =>
        intro D30 e30 ys30 h30 tk30 F30 N30 ne30 P30
        have S30 := low_strs hM7 P30
        have ok30 := strOk_low hK7 (basics3 ++ K)
        simp only [AllNe] at ne30
        repeat (rename _ ∧ _ => z; have zl := z.1; have zr := z.2; clear z)
        clear F21 N21
        have hl30 : ys30.length ≤ 4 := by rw [S30.len_eq]; exact Nat.le_trans (List.length_filter_le _ _) (by rw [List.length_map]; exact hKl)
        try dsimp only
        (repeat' (first | ((with_reducible show wpAny _ _ (execs (List.cons (PySem.Stmt.If _ _ _ _) _) _) _ _ _); (try dsimp only); (with_reducible refine execs_cut ?_); intro Q1'c hc'c) | ((with_reducible refine execs_cut ?_); intro Q1'c hc'c) | (with_reducible ((with_reducible show wpAny _ _ (newList []) _ _ _); k_dflt (refine' newList_sub (by with_reducible assumption) (by with_reducible assumption) ?_ (by kmk_size)); intro D'q h'q F'q N'q l1 k'q; (try k_lt l1); (try k_sweep))) | (with_reducible ((with_reducible show wpAny _ _ (compareOp .Eq (Value.ref _) (Value.ref _)) _ _ _); k_dflt (refine' (cmp_nil (by with_reducible assumption) (by walk_at "MEM") (by walk_at "MEM") (by with_reducible assumption) (by with_reducible assumption) (by exact Nat.le_of_ble_eq_true rfl)).2 ?_))) | ((with_reducible show wpAny _ _ (call _ _ _) _ _ _); first | (with_reducible ((with_reducible show wpAny _ _ (call (Value.builtin "len") [Value.ref _]) _ _ _); k_dflt (refine' len_led (by with_reducible assumption) (by walk_at "MEM") (by with_reducible walk_at "LEN") ?_))) | (with_reducible ((with_reducible show wpAny _ _ (call (Value.ref 186) _ _) _ _ _); k_dflt (refine at_pick ?_)))) | walk1 | (dsimp only; walk1) | ((with_reducible show Q1'c _ _); first | ((with_reducible refine hc'c.n _ ?_); clear hc'c Q1'c; (try dsimp only)) | ((with_reducible refine hc'c.f _ _ (by first | (with_reducible exact retN) | (intro h; cases h)) ?_); clear hc'c Q1'c; (try dsimp only))) | fail "no step"))
        · try dsimp only
          exact EndT.intro (by with_reducible assumption)
        rename List.isEmpty _ = false => hem
        have h130 : 1 ≤ ys30.length := by rw [S30.len_eq]; exact len_empty hem
        unfold AtPick
        (with_reducible ((with_reducible show wpAny _ _ (call (Value.ref 186) _ _) _ _ _); k_dflt (refine' wpAL (pick_led (by with_reducible assumption) (by with_reducible assumption) (by with_reducible assumption) (by with_reducible assumption) (by k_updF) (by with_reducible assumption) (by walk_at "MEM") (by k_ne) (by with_reducible assumption) (by with_reducible assumption) (by with_reducible walk_at "LEN") (by with_reducible walk_at "LEN") ?_) (by rfl) (by exact Nat.le_of_ble_eq_true rfl) (by exact Nat.le_of_ble_eq_true rfl) (by rfl) (by rfl)); intro h'q tk'q d'q t'q o'q F'q N'q hO'q d0'q d1'q; (try dsimp only at N'q); (try simp only [List.length_append, List.length_cons, List.length_nil] at d1'q); k_sweep))
        rename _ < ((ys30.length : Nat) : Int) => hd31
        rename (0 : Int) ≤ _ => hd30
        obtain ⟨k30, hk30⟩ := Int.eq_ofNat_of_zero_le hd30
        subst hk30
        obtain ⟨low, hlow, hlow'⟩ := get_nat (show k30 < (List.filter (hasRow (basics3 ++ K)) (List.map (·.1) K)).length by rw [← S30.len_eq]; omega)
        obtain ⟨i30, ys, hi30, hat30, hy1, hy2⟩ := low_row hK7 hlow
        have hyn := at_nil hy1
        clear hy1
        (repeat' (first | ((with_reducible show wpAny _ _ (execs (List.cons (PySem.Stmt.If _ _ _ _) _) _) _ _ _); (try dsimp only); (with_reducible refine execs_cut ?_); intro Q1'c hc'c) | ((with_reducible refine execs_cut ?_); intro Q1'c hc'c) | ((with_reducible show wpAny _ _ (subscriptTail _ _ _ _) _ _ _); first | (with_reducible ((with_reducible show wpAny _ _ (subscriptTail _ _ (Value.ref _) (Value.str _ _)) _ _ _); k_dflt (refine' item_dir2 (by with_reducible assumption) (by with_reducible assumption) (by walk_at "MEM") (by with_reducible assumption) (by walk_at "SUBM") ?_ (by (intro _ _ _; with_unfolding_all rfl))); intro l'q vs'q e'q m'q S'q b'q z'q i'q)) | (with_reducible ((with_reducible show wpAny _ _ (subscriptTail _ _ (Value.ref _) (Value.int _ _)) _ _ _); k_dflt (refine' item_known (by with_reducible assumption) (by walk_at "MEM") (by with_reducible assumption) (by with_reducible assumption) (by with_reducible omega) (by with_reducible walk_at "LEN") ?_ (by with_unfolding_all rfl)); intro t'q))) | ((with_reducible show wpAny _ _ (call _ _ _) _ _ _); first | (with_reducible ((with_reducible show wpAny _ _ (call (Value.builtin "len") [Value.ref _]) _ _ _); k_dflt (refine' len_led (by with_reducible assumption) (by walk_at "MEM") (by with_reducible walk_at "LEN") ?_))) | (with_reducible ((with_reducible show wpAny _ _ (call (Value.ref 186) _ _) _ _ _); k_dflt (refine at_pick ?_)))) | walk1 | (dsimp only; walk1) | ((with_reducible show Q1'c _ _); first | ((with_reducible refine hc'c.n _ ?_); clear hc'c Q1'c; (try dsimp only)) | ((with_reducible refine hc'c.f _ _ (by first | (with_reducible exact retN) | (intro h; cases h)) ?_); clear hc'c Q1'c; (try dsimp only))) | fail "no step"))
        rename _ = ys.length => hvl
        have hy1 := len_nil hyn
        unfold AtPick
        (with_reducible ((with_reducible show wpAny _ _ (call (Value.ref 186) _ _) _ _ _); k_dflt (refine' wpAL (pick_led (by with_reducible assumption) (by with_reducible assumption) (by with_reducible assumption) (by with_reducible assumption) (by k_updF) (by with_reducible assumption) (by walk_at "MEM") (by k_ne) (by with_reducible assumption) (by with_reducible assumption) (by with_reducible walk_at "LEN") (by with_reducible walk_at "LEN") ?_) (by rfl) (by exact Nat.le_of_ble_eq_true rfl) (by exact Nat.le_of_ble_eq_true rfl) (by rfl) (by rfl)); intro h'q tk'q d'q t'q o'q F'q N'q hO'q d0'q d1'q; (try dsimp only at N'q); (try simp only [List.length_append, List.length_cons, List.length_nil] at d1'q); k_sweep))
        rename _ < ((List.length _ : Nat) : Int) => hd41
        rename (0 : Int) ≤ _ => hd40
        obtain ⟨w40, hw40⟩ := Int.eq_ofNat_of_zero_le hd40
        subst hw40
        obtain ⟨high, hhigh, hhigh'⟩ := get_nat (show w40 < ys.length by omega)
        obtain ⟨rb1, rb2, rb3, rb4, rl1, rl2, rl3, rl4, rl5, ra1, ra2, ra3, ra4, rn1, rn2, rn3, rn4, rn5, rr1, rr2, rnm, rbt⟩ := round2_of hK7 hU hi30 hhigh
        (repeat' (first | ((with_reducible show wpAny _ _ (execs (List.cons (PySem.Stmt.If _ _ _ _) _) _) _ _ _); (try dsimp only); (with_reducible refine execs_cut ?_); intro Q1'c hc'c) | ((with_reducible refine execs_cut ?_); intro Q1'c hc'c) | ((with_reducible show wpAny _ _ (subscriptTail _ _ _ _) _ _ _); first | (with_reducible ((with_reducible show wpAny _ _ (subscriptTail _ (PySem.Expr.Slice _ none none _) (Value.ref _) (Value.ref _)) _ _ _); k_dflt (refine' slice_from2 (by with_reducible assumption) (by with_reducible assumption) (by with_reducible assumption) (by with_reducible walk_at "LEN") ?_ (by with_unfolding_all rfl)); intro D'q h'q F'q N'q l1; (try k_lt l1); (try k_sweep))) | (with_reducible ((with_reducible show wpAny _ _ (subscriptTail _ (PySem.Expr.Slice none _ none _) (Value.ref _) (Value.ref _)) _ _ _); k_dflt (refine' slice_take2 (by with_reducible assumption) (by with_reducible assumption) (by with_reducible assumption) (by with_reducible walk_at "LEN") ?_ (by with_unfolding_all rfl)); intro D'q h'q F'q N'q l1; (try k_lt l1); (try k_sweep))) | (with_reducible ((with_reducible show wpAny _ _ (subscriptTail _ _ (Value.ref _) (Value.str _ _)) _ _ _); k_dflt (refine' item_dir2 (by with_reducible assumption) (by with_reducible assumption) (by walk_at "MEM") (by with_reducible assumption) (by walk_at "SUBM") ?_ (by (intro _ _ _; with_unfolding_all rfl))); intro l'q vs'q e'q m'q S'q b'q z'q i'q)) | (with_reducible ((with_reducible show wpAny _ _ (subscriptTail _ _ (Value.ref _) (Value.int _ _)) _ _ _); k_dflt (refine' item_known (by with_reducible assumption) (by walk_at "MEM") (by with_reducible assumption) (by with_reducible assumption) (by with_reducible omega) (by with_reducible walk_at "LEN") ?_ (by with_unfolding_all rfl)); intro t'q))) | ((with_reducible show wpAny _ _ (call _ _ _) _ _ _); first | (with_reducible ((with_reducible show wpAny _ _ (call (Value.ref 193) _ _) _ _ _); k_dflt (refine' wpAL (near_led2 (by with_reducible assumption) (by with_reducible assumption) (by with_reducible assumption) (by with_reducible assumption) (by walk_at "MEM") (by walk_at "MEM") (by with_reducible assumption) (by with_reducible assumption) (by walk_at "SUBM") (by walk_at "SUBM") (by with_reducible assumption) (by with_reducible assumption) (by with_reducible assumption) (by with_reducible assumption) (by with_reducible assumption) (by with_reducible assumption) ?_) (by rfl) (by exact Nat.le_of_ble_eq_true rfl) (by exact Nat.le_of_ble_eq_true rfl) (by rfl) (by rfl)); intro h'q tk'q a'q tn'q F'q N'q A'q w'q; (try dsimp only at N'q); (try simp only [List.cons_append, List.append_assoc] at N'q); k_sweep)) | (with_reducible ((with_reducible show wpAny _ _ (call (Value.ref 109) _ _) _ _ _); k_dflt (refine' wpAL (define_led' (by with_reducible assumption) (by with_reducible assumption) (by with_reducible assumption) (by with_reducible assumption) (by with_reducible assumption) (by k_updF) (by walk_at "MEM") (by walk_at "SUBM") (by with_reducible assumption) (by walk_at "MEM") (by walk_at "MEM") (by walk_at "MEM") (by walk_at "MEM") (by walk_at "DSTR") (by walk_at "DLE") (by with_reducible assumption) (by with_reducible assumption) (by with_reducible assumption) (by with_reducible assumption) ?_) (by rfl) (by exact Nat.le_of_ble_eq_true rfl) (by exact Nat.le_of_ble_eq_true rfl) (by rfl) (by rfl)); intro h'q tk'q co'q F'q N'q HT'q; (try dsimp only at N'q); k_sweep)) | (with_reducible ((with_reducible show wpAny _ _ (call (Value.ref 205) _ _) _ _ _); k_dflt (refine' wpAL (right_led (by with_reducible assumption) (by with_reducible assumption) (by with_reducible assumption) (by with_reducible assumption) (by with_reducible assumption) (by with_reducible assumption) (by with_reducible assumption) (by walk_at "MEM") (by walk_at "MEM") (by walk_at "SUBM") (by walk_at "SUBM") (by walk_at "SUBM") (by with_reducible assumption) (by with_reducible assumption) (by with_reducible assumption) ?_) (by rfl) (by exact Nat.le_of_ble_eq_true rfl) (by exact Nat.le_of_ble_eq_true rfl) (by rfl) (by rfl)); intro h'q tk'q F'q N'q; k_sweep)) | (with_reducible ((with_reducible show wpAny _ _ (call (Value.ref 200) _ _) _ _ _); k_dflt (refine' wpAL (ways_led (by with_reducible assumption) (by with_reducible assumption) (by with_reducible assumption) (by with_reducible assumption) (by with_reducible assumption) (by walk_at "SUBM") (by with_reducible assumption) (by with_reducible assumption) ?_) (by rfl) (by exact Nat.le_of_ble_eq_true rfl) (by exact Nat.le_of_ble_eq_true rfl) (by rfl) (by rfl)); intro h'q tk'q a'q f'q tn'q F'q N'q A'q w'q B'q W'q; (try dsimp only at N'q); (try simp only [List.cons_append, List.append_assoc] at N'q); k_sweep)) | ((with_reducible show wpAny _ _ (call (Value.ref 63) _ _) _ _ _); refine' wpAL (make_spec (by with_reducible assumption) (by with_reducible assumption) (by exact Fr.keep (by with_reducible assumption)) ?_) (by rfl) (by exact Nat.le_of_ble_eq_true rfl) (by exact Nat.le_of_ble_eq_true rfl) (by rfl) (by rfl); intro h'q tk'q x'q dx'q e1 e2 e3 e4 e5 e6 k1 k2 k3 k4 k5 k6 n'q s'q n1 n2 ne'q g1 g2; (have q'q := led_pairN (by with_reducible assumption) (by with_reducible assumption) s'q n1 n2 g1 g2); have F'q := q'q.1; have N'q := q'q.2.1; have l1'q := q'q.2.2.1; have l2'q := q'q.2.2.2; clear q'q; k_sweep) | (with_reducible ((with_reducible show wpAny _ _ (call (Value.builtin "len") [Value.ref _]) _ _ _); k_dflt (refine' len_led (by with_reducible assumption) (by walk_at "MEM") (by with_reducible walk_at "LEN") ?_)))) | (with_reducible ((with_reducible show wpAny _ _ (newList []) _ _ _); k_dflt (refine' newList_sub (by with_reducible assumption) (by with_reducible assumption) ?_ (by kmk_size)); intro D'q h'q F'q N'q l1 k'q; (try k_lt l1); (try k_sweep))) | ((with_reducible show wpAny _ _ (compareOp _ _ _) _ _ _); first | (with_reducible ((with_reducible show wpAny _ _ (compareOp .Eq (Value.ref _) (Value.ref _)) _ _ _); k_dflt (refine' (cmp_nil (by with_reducible assumption) (by walk_at "MEM") (by walk_at "MEM") (by with_reducible assumption) (by with_reducible assumption) (by exact Nat.le_of_ble_eq_true rfl)).2 ?_))) | (with_reducible ((with_reducible show wpAny _ _ (compareOp .NotEq (Value.ref _) (Value.ref _)) _ _ _); k_dflt (refine' (cmp_nil (by with_reducible assumption) (by walk_at "MEM") (by walk_at "MEM") (by with_reducible assumption) (by with_reducible assumption) (by exact Nat.le_of_ble_eq_true rfl)).1 ?_)))) | (with_reducible ((with_reducible show wpAny _ _ (setItem (Value.ref _) (Value.str _ _) (Value.ref _)) _ _ _); k_dflt (refine' set_dir (by with_reducible assumption) (by with_reducible assumption) (by with_reducible assumption) (by k_updF) (by walk_at "MEM") (by walk_at "DSTR") (by walk_at "DLE") (by with_reducible assumption) ?_); intro h'q o'q F'q N'q HD'q hd'q; (try dsimp only at N'q); (try k_sweep))) | (with_reducible ((with_reducible show wpAny _ _ (binaryOp .Add (Value.ref _) (Value.ref _)) _ _ _); k_dflt (refine' add_lists_led (by with_reducible assumption) (by with_reducible assumption) (by walk_at "MEM") (by walk_at "MEM") (by with_reducible (simp only [List.length_append, List.length_take, List.length_drop, List.length_cons, List.length_nil]; omega)) ?_); intro D'q h'q F'q N'q l1; (try k_lt l1); (try simp only [List.cons_append, List.nil_append] at N'q); (try k_sweep))) | walk1 | (dsimp only; walk1) | ((with_reducible show Q1'c _ _); first | ((with_reducible refine hc'c.n _ ?_); clear hc'c Q1'c; (try dsimp only)) | ((with_reducible refine hc'c.f _ _ (by first | (with_reducible exact retN) | (intro h; cases h)) ?_); clear hc'c Q1'c; (try dsimp only))) | fail "no step"))
        rename ∃ (_ : Obj) (_ : List (List Str × Addr × Value)), _ => B41
        obtain ⟨wo41, xs41, mwo41, WT41, WR41⟩ := B41
        rename ∃ (_ : Obj) (_ : List (List Str × Addr × Value)), _ => B21
        obtain ⟨wo21, xs21, mwo21, WT21, WR21⟩ := B21
        rename WaysOk _ _ _ => W41
        rename WaysOk (parOf (nearOf (basics3 ++ K) U)) _ _ => W21
        rename ∀ h, In _ h → WaysAt _ h _ (List.map _ (nearOf (basics3 ++ K) U)) _ => w21
        rename Fr _ _ _ _ => F50
        rename News _ _ _ _ => N50
        have nd21 := ways_nd w21 N50 (by walk_at "SUBM")
        refine' loopT ["one", "other"] rfl nd21 mwo21 ?htn51 WT21 WR21 F50 N50 ?turn51 ?done51
        case htn51 => walk_at "SUBM"
        case done51 =>
          intro u52 h52 tk52 F52 N52
          clear F50 N50
          try dsimp only
          (repeat' (first | ((with_reducible show wpAny _ _ (execs (List.cons (PySem.Stmt.If _ _ _ _) _) _) _ _ _); (try dsimp only); (with_reducible refine execs_cut ?_); intro Q1'c hc'c) | ((with_reducible refine execs_cut ?_); intro Q1'c hc'c) | (with_reducible ((with_reducible show wpAny _ _ (call (Value.ref 205) _ _) _ _ _); k_dflt (refine' wpAL (right_led (by with_reducible assumption) (by with_reducible assumption) (by with_reducible assumption) (by with_reducible assumption) (by with_reducible assumption) (by with_reducible assumption) (by with_reducible assumption) (by walk_at "MEM") (by walk_at "MEM") (by walk_at "SUBM") (by walk_at "SUBM") (by walk_at "SUBM") (by with_reducible assumption) (by with_reducible assumption) (by with_reducible assumption) ?_) (by rfl) (by exact Nat.le_of_ble_eq_true rfl) (by exact Nat.le_of_ble_eq_true rfl) (by rfl) (by rfl)); intro h'q tk'q F'q N'q; k_sweep)) | walk1 | (dsimp only; walk1) | ((with_reducible show Q1'c _ _); first | ((with_reducible refine hc'c.n _ ?_); clear hc'c Q1'c; (try dsimp only)) | ((with_reducible refine hc'c.f _ _ (by first | (with_reducible exact retN) | (intro h; cases h)) ?_); clear hc'c Q1'c; (try dsimp only))) | fail "no step"))
          exact EndT.intro (by with_reducible assumption)
        case turn51 =>
          intro T51 a51 b51 t51 t52 u51 h51 tk51 I51 oI51 ha51 hb51 hT51 hI51 F51 N51
          obtain ⟨tv1, hv1⟩ := WR21.vals a51 ha51 b51 hb51
          obtain ⟨tv2, hv2⟩ := WR41.vals a51 (rnm a51 ha51) b51 (rnm b51 hb51)
          obtain ⟨hle1, hle2⟩ := rbt W21 W41 a51 ha51 b51 hb51
          clear F50 N50
          (repeat' (first | ((with_reducible show wpAny _ _ (execs (List.cons (PySem.Stmt.If _ _ _ _) _) _) _ _ _); (try dsimp only); (with_reducible refine execs_cut ?_); intro Q1'c hc'c) | ((with_reducible refine execs_cut ?_); intro Q1'c hc'c) | (with_reducible ((with_reducible show wpAny _ _ (compareOp .LtE (Value.int _ _) (Value.int _ _)) _ _ _); k_dflt (refine' le_yes (by with_reducible omega) ?_))) | ((with_reducible show wpAny _ _ (subscriptTail _ _ _ _) _ _ _); first | (with_reducible ((with_reducible show wpAny _ _ (subscriptTail _ _ (Value.ref _) (Value.ref _)) _ _ _); k_dflt (refine' item_waysB (by exact Nat.le_of_ble_eq_true rfl) (by with_reducible assumption) (by with_reducible assumption) (by with_reducible assumption) (by k_mem) (by with_reducible assumption) ?_ (by with_unfolding_all rfl) (by intro _; with_unfolding_all rfl)))) | (with_reducible ((with_reducible show wpAny _ _ (subscriptTail _ _ (Value.ref _) (Value.ref _)) _ _ _); k_dflt (refine' item_ways (by exact Nat.le_of_ble_eq_true rfl) (by with_reducible assumption) (by k_mem) (by with_reducible assumption) (by walk_at "SUB") (by k_mem) (by with_reducible assumption) ?_ (by with_unfolding_all rfl) (by intro _; with_unfolding_all rfl))))) | walk1 | (dsimp only; walk1) | ((with_reducible show Q1'c _ _); first | ((with_reducible refine hc'c.n _ ?_); clear hc'c Q1'c; (try dsimp only)) | ((with_reducible refine hc'c.f _ _ (by first | (with_reducible exact retN) | (intro h; cases h)) ?_); clear hc'c Q1'c; (try dsimp only))) | fail "no step"))
          rename Fr _ _ _ _ => F52
          rename News _ _ _ _ => N52
          refine' TE.c F52 N52 ?ho52 ?hm52
          case ho52 => walk_at "SUBM"
          case hm52 => walk_at "SAME3"

end Mine
theorem PySem.Challenge.cw_ov0052_01_holds : PySem.Challenge.rw_ov0052_01.Holds :=
  Mine.law_all
