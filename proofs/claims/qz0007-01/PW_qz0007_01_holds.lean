import PyProof.Rows.All
import Wide.All
import OpenK.AllK
import Wide.FinOn
import PySem.Challenge.RW_qz0007_01
open PySem PySem.W PySem.Calls PyProof.Rows
set_option Elab.async false
set_option maxRecDepth 100000
set_option maxHeartbeats 8000000
namespace Mine
noncomputable def hd.heap_39 : Params → Frag :=
  let_mvar% ?a0 := (_ : Arguments);
  let_mvar% ?b0 := (_ : List Stmt);
  let_mvar% ?c0 := (_ : Scope);
  let_mvar% ?a2 := (_ : Arguments);
  let_mvar% ?b2 := (_ : List Stmt);
  let_mvar% ?c2 := (_ : Scope);
  let_mvar% ?a3 := (_ : Arguments);
  let_mvar% ?b3 := (_ : List Stmt);
  let_mvar% ?c3 := (_ : Scope);
  let_mvar% ?a4 := (_ : Arguments);
  let_mvar% ?b4 := (_ : List Stmt);
  let_mvar% ?c4 := (_ : Scope);
  let_mvar% ?a5 := (_ : Arguments);
  let_mvar% ?b5 := (_ : List Stmt);
  let_mvar% ?a12 := (_ : Arguments);
  let_mvar% ?b12 := (_ : List Stmt);
  let_mvar% ?c12 := (_ : Scope);
  let_mvar% ?a13 := (_ : Arguments);
  let_mvar% ?b13 := (_ : List Stmt);
  let_mvar% ?c13 := (_ : Scope);
  let_mvar% ?a14 := (_ : Arguments);
  let_mvar% ?b14 := (_ : List Stmt);
  let_mvar% ?c14 := (_ : Scope);
  let_mvar% ?a15 := (_ : Arguments);
  let_mvar% ?b15 := (_ : List Stmt);
  let_mvar% ?c15 := (_ : Scope);
  let_mvar% ?a16 := (_ : Arguments);
  let_mvar% ?b16 := (_ : List Stmt);
  let_mvar% ?c16 := (_ : Scope);
  let_mvar% ?a17 := (_ : Arguments);
  let_mvar% ?b17 := (_ : List Stmt);
  let_mvar% ?c17 := (_ : Scope);
  let_mvar% ?a18 := (_ : Arguments);
  let_mvar% ?b18 := (_ : List Stmt);
  let_mvar% ?c18 := (_ : Scope);
  let_mvar% ?a19 := (_ : Arguments);
  let_mvar% ?b19 := (_ : List Stmt);
  let_mvar% ?c19 := (_ : Scope);
  let_mvar% ?a20 := (_ : Arguments);
  let_mvar% ?b20 := (_ : List Stmt);
  let_mvar% ?c20 := (_ : Scope);
  let_mvar% ?a25 := (_ : Arguments);
  let_mvar% ?b25 := (_ : List Stmt);
  let_mvar% ?c25 := (_ : Scope);
  let_mvar% ?a26 := (_ : Arguments);
  let_mvar% ?b26 := (_ : List Stmt);
  let_mvar% ?c26 := (_ : Scope);
  let_mvar% ?a27 := (_ : Arguments);
  let_mvar% ?b27 := (_ : List Stmt);
  let_mvar% ?c27 := (_ : Scope);
  let_mvar% ?a28 := (_ : Arguments);
  let_mvar% ?b28 := (_ : List Stmt);
  let_mvar% ?c28 := (_ : Scope);
  let_mvar% ?a29 := (_ : Arguments);
  let_mvar% ?b29 := (_ : List Stmt);
  let_mvar% ?c29 := (_ : Scope);
  let_mvar% ?a30 := (_ : Arguments);
  let_mvar% ?b30 := (_ : List Stmt);
  let_mvar% ?c30 := (_ : Scope);
  let_mvar% ?a31 := (_ : Arguments);
  let_mvar% ?b31 := (_ : List Stmt);
  let_mvar% ?c31 := (_ : Scope);
  let_mvar% ?a32 := (_ : Arguments);
  let_mvar% ?b32 := (_ : List Stmt);
  let_mvar% ?c32 := (_ : Scope);
  let_mvar% ?a34 := (_ : Arguments);
  let_mvar% ?b34 := (_ : List Stmt);
  let_mvar% ?c34 := (_ : Scope);
  let_mvar% ?a35 := (_ : Arguments);
  let_mvar% ?b35 := (_ : List Stmt);
  let_mvar% ?c35 := (_ : Scope);
  let_mvar% ?a36 := (_ : Arguments);
  let_mvar% ?b36 := (_ : List Stmt);
  let_mvar% ?c36 := (_ : Scope);
  let_mvar% ?a37 := (_ : Arguments);
  let_mvar% ?b37 := (_ : List Stmt);
  let_mvar% ?c37 := (_ : Scope);
  let_mvar% ?a38 := (_ : Arguments);
  let_mvar% ?b38 := (_ : List Stmt);
  let_mvar% ?c38 := (_ : Scope);
  let_mvar% ?a39 := (_ : Arguments);
  let_mvar% ?b39 := (_ : List Stmt);
  let_mvar% ?c39 := (_ : Scope);
  let_mvar% ?a40 := (_ : Arguments);
  let_mvar% ?b40 := (_ : List Stmt);
  let_mvar% ?c40 := (_ : Scope);
  let_mvar% ?a41 := (_ : Arguments);
  let_mvar% ?b41 := (_ : List Stmt);
  let_mvar% ?c41 := (_ : Scope);
  let_mvar% ?a42 := (_ : Arguments);
  let_mvar% ?b42 := (_ : List Stmt);
  let_mvar% ?c42 := (_ : Scope);
  ((fun P =>
((nat_lit 2), ⟨.none, (@none Nat), (.dict #[⟨(@PySem.PyData.keyHash P (.ofString "type.__subclasses__.Exception.0")), (.str (.ofString "type.__subclasses__.Exception.0") (230:Nat)), (.int 47 (0:Nat))⟩, ⟨(@PySem.PyData.keyHash P (.ofString "type.__subclasses__.Exception.n")), (.str (.ofString "type.__subclasses__.Exception.n") (231:Nat)), (.int 1 (0:Nat))⟩] (2:Nat)), #[]⟩) ::
((nat_lit 3), ⟨(.type "dict"), (@none Nat), (.dict #[⟨(@PySem.PyData.keyHash P (.ofString "__name__")), (.str (.ofString "__name__") (165:Nat)), (.str (.ofString "law_qz0007_01") (476:Nat))⟩, ⟨(@PySem.PyData.keyHash P (.ofString "__doc__")), (.str (.ofString "__doc__") (166:Nat)), .none⟩, ⟨(@PySem.PyData.keyHash P (.ofString "__package__")), (.str (.ofString "__package__") (167:Nat)), .none⟩, ⟨(@PySem.PyData.keyHash P (.ofString "__loader__")), (.str (.ofString "__loader__") (168:Nat)), (.builtin "__main__.__loader__#opaque")⟩, ⟨(@PySem.PyData.keyHash P (.ofString "__spec__")), (.str (.ofString "__spec__") (169:Nat)), .none⟩, ⟨(@PySem.PyData.keyHash P (.ofString "__annotations__")), (.str (.ofString "__annotations__") (170:Nat)), (.ref (6:Nat))⟩, ⟨(@PySem.PyData.keyHash P (.ofString "__builtins__")), (.str (.ofString "__builtins__") (171:Nat)), (.ref (4:Nat))⟩, ⟨(@PySem.PyData.keyHash P (.ofString "__file__")), (.str (.ofString "__file__") (173:Nat)), (.str (.ofString "/claim/cut.py") (172:Nat))⟩, ⟨(@PySem.PyData.keyHash P (.ofString "__cached__")), (.str (.ofString "__cached__") (174:Nat)), .none⟩, ⟨(@PySem.PyData.keyHash P (.ofString "_wall")), (.str (.ofString "_wall") (193:Nat)), (.ref (21:Nat))⟩, ⟨(@PySem.PyData.keyHash P (.ofString "SmtError")), (.str (.ofString "SmtError") (233:Nat)), (.ref (47:Nat))⟩, ⟨(@PySem.PyData.keyHash P (.ofString "SyntaxFault")), (.str (.ofString "SyntaxFault") (268:Nat)), (.ref (76:Nat))⟩, ⟨(@PySem.PyData.keyHash P (.ofString "DIGITS")), (.str (.ofString "DIGITS") (272:Nat)), (.str (.ofString "0123456789") (271:Nat))⟩, ⟨(@PySem.PyData.keyHash P (.ofString "LETTERS")), (.str (.ofString "LETTERS") (274:Nat)), (.str (.ofString "abcdefghijklmnopqrstuvwxyzABCDEFGHIJKLMNOPQRSTUVWXYZ") (273:Nat))⟩, ⟨(@PySem.PyData.keyHash P (.ofString "MARKS")), (.str (.ofString "MARKS") (276:Nat)), (.str (.ofString "~!@$%^&*_-+=<>.?/") (275:Nat))⟩, ⟨(@PySem.PyData.keyHash P (.ofString "SIMPLE")), (.str (.ofString "SIMPLE") (279:Nat)), (.str (.ofString "abcdefghijklmnopqrstuvwxyzABCDEFGHIJKLMNOPQRSTUVWXYZ0123456789~!@$%^&*_-+=<>.?/") (278:Nat))⟩, ⟨(@PySem.PyData.keyHash P (.ofString "RESERVED")), (.str (.ofString "RESERVED") (293:Nat)), (.ref (79:Nat))⟩, ⟨(@PySem.PyData.keyHash P (.ofString "is_simple")), (.str (.ofString "is_simple") (301:Nat)), (.ref (86:Nat))⟩, ⟨(@PySem.PyData.keyHash P (.ofString "symbol_text")), (.str (.ofString "symbol_text") (308:Nat)), (.ref (93:Nat))⟩, ⟨(@PySem.PyData.keyHash P (.ofString "string_text")), (.str (.ofString "string_text") (315:Nat)), (.ref (100:Nat))⟩, ⟨(@PySem.PyData.keyHash P (.ofString "bits_text")), (.str (.ofString "bits_text") (325:Nat)), (.ref (107:Nat))⟩, ⟨(@PySem.PyData.keyHash P (.ofString "places_of")), (.str (.ofString "places_of") (334:Nat)), (.ref (114:Nat))⟩, ⟨(@PySem.PyData.keyHash P (.ofString "decimal_text")), (.str (.ofString "decimal_text") (345:Nat)), (.ref (121:Nat))⟩, ⟨(@PySem.PyData.keyHash P (.ofString "number_text")), (.str (.ofString "number_text") (352:Nat)), (.ref (128:Nat))⟩, ⟨(@PySem.PyData.keyHash P (.ofString "word_text")), (.str (.ofString "word_text") (360:Nat)), (.ref (135:Nat))⟩, ⟨(@PySem.PyData.keyHash P (.ofString "write_item")), (.str (.ofString "write_item") (372:Nat)), (.ref (142:Nat))⟩, ⟨(@PySem.PyData.keyHash P (.ofString "UNSAT")), (.str (.ofString "UNSAT") (376:Nat)), (.str (.ofString "unsat") (375:Nat))⟩, ⟨(@PySem.PyData.keyHash P (.ofString "SAT")), (.str (.ofString "SAT") (378:Nat)), (.str (.ofString "sat") (377:Nat))⟩, ⟨(@PySem.PyData.keyHash P (.ofString "FEW")), (.str (.ofString "FEW") (380:Nat)), (.int 6 (379:Nat))⟩, ⟨(@PySem.PyData.keyHash P (.ofString "Shrinker")), (.str (.ofString "Shrinker") (440:Nat)), (.ref (176:Nat))⟩, ⟨(@PySem.PyData.keyHash P (.ofString "shrink")), (.str (.ofString "shrink") (452:Nat)), (.ref (188:Nat))⟩, ⟨(@PySem.PyData.keyHash P (.ofString "is_core")), (.str (.ofString "is_core") (460:Nat)), (.ref (195:Nat))⟩, ⟨(@PySem.PyData.keyHash P (.ofString "is_least")), (.str (.ofString "is_least") (469:Nat)), (.ref (202:Nat))⟩, ⟨(@PySem.PyData.keyHash P (.ofString "core_text")), (.str (.ofString "core_text") (475:Nat)), (.ref (207:Nat))⟩, ⟨(@PySem.PyData.keyHash P (.ofString "_law_next")), (.str (.ofString "_law_next") (486:Nat)), (.ref (214:Nat))⟩, ⟨(@PySem.PyData.keyHash P (.ofString "_law_is_enough")), (.str (.ofString "_law_is_enough") (492:Nat)), (.ref (219:Nat))⟩, ⟨(@PySem.PyData.keyHash P (.ofString "_law_ask")), (.str (.ofString "_law_ask") (507:Nat)), (.ref (226:Nat))⟩, ⟨(@PySem.PyData.keyHash P (.ofString "_law_stays")), (.str (.ofString "_law_stays") (518:Nat)), (.ref (233:Nat))⟩, ⟨(@PySem.PyData.keyHash P (.ofString "_law_is_part")), (.str (.ofString "_law_is_part") (524:Nat)), (.ref (238:Nat))⟩, ⟨(@PySem.PyData.keyHash P (.ofString "_law_few_right")), (.str (.ofString "_law_few_right") (541:Nat)), (.ref (245:Nat))⟩, ⟨(@PySem.PyData.keyHash P (.ofString "_law_dull_right")), (.str (.ofString "_law_dull_right") (547:Nat)), (.ref (250:Nat))⟩, ⟨(@PySem.PyData.keyHash P (.ofString "_law_shrunk_right")), (.str (.ofString "_law_shrunk_right") (559:Nat)), (.ref (257:Nat))⟩, ⟨(@PySem.PyData.keyHash P (.ofString "law")), (.str (.ofString "law") (565:Nat)), (.ref (262:Nat))⟩] (43:Nat)), #[]⟩) ::
((nat_lit 15), ⟨(.type "tuple"), (@none Nat), (.seq #[] (0:Nat)), #[]⟩) ::
((nat_lit 17), ⟨(.type "tuple"), (@none Nat), (.seq #[(.str (.ofString "k") (190:Nat))] (0:Nat)), #[]⟩) ::
((nat_lit 18), ⟨(.type "tuple"), (@none Nat), (.seq #[] (0:Nat)), #[]⟩) ::
((nat_lit 20), ⟨(.type "code"), (@none Nat), (.fields #[(.str (.ofString "_wall") (187:Nat)), (.str (.ofString "_wall") (188:Nat)), (.str (.ofString "/claim/cut.py") (189:Nat)), (.int 1 (0:Nat)), (.int 1 (0:Nat)), (.int 0 (0:Nat)), (.int 0 (0:Nat)), (.int 3 (0:Nat)), (.ref (15:Nat)), (.bool true), (.int 181 (0:Nat)), (.ref (16:Nat)), .none, (.ref (17:Nat)), (.ref (18:Nat)), (.ref (19:Nat)), (.int 191 (0:Nat)), (.int 1 (0:Nat)), (.str (.ofString "/claim/cut.py") (192:Nat))]), #[]⟩) ::
((nat_lit 21), ⟨(.type "function"), (@none Nat), (.func ⟨(.ofString "_wall"), (.ofString "_wall"), ?a0, (.stmts ?b0), ?c0, (3:Nat), ([] : List ((Prod PySem.Str) Nat)), .none, .none, .none, (.str (.ofString "__main__") (164:Nat)), (@none Nat), (.ref (20:Nat)), .none, (0:Nat)⟩), #[]⟩) ::
((nat_lit 22), ⟨(.type "tuple"), (@none Nat), (.seq #[(.type "Exception")] (0:Nat)), #[]⟩) ::
((nat_lit 25), ⟨(.type "cell"), (@none Nat), (.cell (some (.ref (47:Nat)))), #[]⟩) ::
((nat_lit 30), ⟨(.type "tuple"), (@none Nat), (.seq #[(.ref (25:Nat))] (0:Nat)), #[]⟩) ::
((nat_lit 31), ⟨(.type "tuple"), (@none Nat), (.seq #[(.str (.ofString "__class__") (211:Nat))] (0:Nat)), #[]⟩) ::
((nat_lit 33), ⟨(.type "tuple"), (@none Nat), (.seq #[(.str (.ofString "self") (212:Nat)), (.str (.ofString "what") (213:Nat))] (0:Nat)), #[]⟩) ::
((nat_lit 34), ⟨(.type "tuple"), (@none Nat), (.seq #[] (0:Nat)), #[]⟩) ::
((nat_lit 36), ⟨(.type "code"), (@none Nat), (.fields #[(.str (.ofString "__init__") (208:Nat)), (.str (.ofString "SmtError.__init__") (209:Nat)), (.str (.ofString "/claim/cut.py") (210:Nat)), (.int 7 (0:Nat)), (.int 2 (0:Nat)), (.int 0 (0:Nat)), (.int 0 (0:Nat)), (.int 3 (0:Nat)), (.ref (31:Nat)), (.bool true), (.int 181 (0:Nat)), (.ref (32:Nat)), .none, (.ref (33:Nat)), (.ref (34:Nat)), (.ref (35:Nat)), (.int 214 (0:Nat)), (.int 7 (0:Nat)), (.str (.ofString "/claim/cut.py") (215:Nat))]), #[]⟩) ::
((nat_lit 37), ⟨(.type "function"), (@none Nat), (.func ⟨(.ofString "__init__"), (.ofString "SmtError.__init__"), ?a2, (.stmts ?b2), ?c2, (3:Nat), ([((.ofString "__class__"), (25:Nat))] : List ((Prod PySem.Str) Nat)), .none, .none, .none, (.str (.ofString "minismt.errors") (194:Nat)), (@none Nat), (.ref (36:Nat)), (.ref (30:Nat)), (0:Nat)⟩), #[]⟩) ::
((nat_lit 38), ⟨(.type "tuple"), (@none Nat), (.seq #[] (0:Nat)), #[]⟩) ::
((nat_lit 40), ⟨(.type "tuple"), (@none Nat), (.seq #[(.str (.ofString "self") (220:Nat))] (0:Nat)), #[]⟩) ::
((nat_lit 41), ⟨(.type "tuple"), (@none Nat), (.seq #[] (0:Nat)), #[]⟩) ::
((nat_lit 43), ⟨(.type "code"), (@none Nat), (.fields #[(.str (.ofString "told") (217:Nat)), (.str (.ofString "SmtError.told") (218:Nat)), (.str (.ofString "/claim/cut.py") (219:Nat)), (.int 11 (0:Nat)), (.int 1 (0:Nat)), (.int 0 (0:Nat)), (.int 0 (0:Nat)), (.int 3 (0:Nat)), (.ref (38:Nat)), (.bool true), (.int 181 (0:Nat)), (.ref (39:Nat)), .none, (.ref (40:Nat)), (.ref (41:Nat)), (.ref (42:Nat)), (.int 221 (0:Nat)), (.int 11 (0:Nat)), (.str (.ofString "/claim/cut.py") (222:Nat))]), #[]⟩) ::
((nat_lit 44), ⟨(.type "function"), (@none Nat), (.func ⟨(.ofString "told"), (.ofString "SmtError.told"), ?a3, (.stmts ?b3), ?c3, (3:Nat), ([] : List ((Prod PySem.Str) Nat)), .none, .none, .none, (.str (.ofString "minismt.errors") (194:Nat)), (@none Nat), (.ref (43:Nat)), .none, (0:Nat)⟩), #[]⟩) ::
((nat_lit 45), ⟨(.type "tuple"), (@none Nat), (.seq #[(.str (.ofString "what") (224:Nat))] (0:Nat)), #[]⟩) ::
((nat_lit 46), ⟨(.type "dict"), (@none Nat), (.dict #[⟨(@PySem.PyData.keyHash P (.ofString "__module__")), (.str (.ofString "__module__") (203:Nat)), (.str (.ofString "minismt.errors") (194:Nat))⟩, ⟨(@PySem.PyData.keyHash P (.ofString "__firstlineno__")), (.str (.ofString "__firstlineno__") (207:Nat)), (.int 5 (206:Nat))⟩, ⟨(@PySem.PyData.keyHash P (.ofString "__init__")), (.str (.ofString "__init__") (216:Nat)), (.ref (37:Nat))⟩, ⟨(@PySem.PyData.keyHash P (.ofString "told")), (.str (.ofString "told") (223:Nat)), (.ref (44:Nat))⟩, ⟨(@PySem.PyData.keyHash P (.ofString "__static_attributes__")), (.str (.ofString "__static_attributes__") (225:Nat)), (.ref (45:Nat))⟩, ⟨(@PySem.PyData.keyHash P (.ofString "__weakref__")), (.str (.ofString "__weakref__") (228:Nat)), (.ref (48:Nat))⟩, ⟨(@PySem.PyData.keyHash P (.ofString "__doc__")), (.str (.ofString "__doc__") (229:Nat)), .none⟩] (4:Nat)), #[]⟩) ::
((nat_lit 47), ⟨(.type "type"), (@none Nat), (.cls ⟨(.ofString "SmtError"), [(.type "Exception")], [(.ref (47:Nat)), (.type "Exception"), (.type "BaseException"), (.type "object")], (46:Nat), (.ofString "SmtError"), true, [], [(.ref (76:Nat))], false, none, false⟩), #[(some (.ref (22:Nat))), none, (some (.str (.ofString "SmtError") (196:Nat))), (some (.str (.ofString "SmtError") (204:Nat))), (some (.builtin "Exception.__new__")), (some (.bool true))]⟩) ::
((nat_lit 48), ⟨(.type "getset_descriptor"), (@none Nat), (.fields #[(.str (.ofString "__weakref__") (227:Nat)), (.ref (47:Nat)), (.builtin "ExceptionGroup.__weakref__"), .none]), #[]⟩) ::
((nat_lit 51), ⟨(.type "tuple"), (@none Nat), (.seq #[(.ref (47:Nat))] (0:Nat)), #[]⟩) ::
((nat_lit 54), ⟨(.type "cell"), (@none Nat), (.cell (some (.ref (76:Nat)))), #[]⟩) ::
((nat_lit 59), ⟨(.type "tuple"), (@none Nat), (.seq #[(.ref (54:Nat))] (0:Nat)), #[]⟩) ::
((nat_lit 60), ⟨(.type "tuple"), (@none Nat), (.seq #[(.str (.ofString "__class__") (249:Nat))] (0:Nat)), #[]⟩) ::
((nat_lit 62), ⟨(.type "tuple"), (@none Nat), (.seq #[(.str (.ofString "self") (250:Nat)), (.str (.ofString "what") (251:Nat)), (.str (.ofString "spot") (252:Nat))] (0:Nat)), #[]⟩) ::
((nat_lit 63), ⟨(.type "tuple"), (@none Nat), (.seq #[] (0:Nat)), #[]⟩) ::
((nat_lit 65), ⟨(.type "code"), (@none Nat), (.fields #[(.str (.ofString "__init__") (246:Nat)), (.str (.ofString "SyntaxFault.__init__") (247:Nat)), (.str (.ofString "/claim/cut.py") (248:Nat)), (.int 15 (0:Nat)), (.int 3 (0:Nat)), (.int 0 (0:Nat)), (.int 0 (0:Nat)), (.int 3 (0:Nat)), (.ref (60:Nat)), (.bool true), (.int 181 (0:Nat)), (.ref (61:Nat)), .none, (.ref (62:Nat)), (.ref (63:Nat)), (.ref (64:Nat)), (.int 253 (0:Nat)), (.int 15 (0:Nat)), (.str (.ofString "/claim/cut.py") (254:Nat))]), #[]⟩) ::
((nat_lit 66), ⟨(.type "function"), (@none Nat), (.func ⟨(.ofString "__init__"), (.ofString "SyntaxFault.__init__"), ?a4, (.stmts ?b4), ?c4, (3:Nat), ([((.ofString "__class__"), (54:Nat))] : List ((Prod PySem.Str) Nat)), .none, .none, .none, (.str (.ofString "minismt.errors") (194:Nat)), (@none Nat), (.ref (65:Nat)), (.ref (59:Nat)), (0:Nat)⟩), #[]⟩) ::
((nat_lit 67), ⟨(.type "tuple"), (@none Nat), (.seq #[] (0:Nat)), #[]⟩) ::
((nat_lit 69), ⟨(.type "tuple"), (@none Nat), (.seq #[(.str (.ofString "self") (259:Nat))] (0:Nat)), #[]⟩) ::
((nat_lit 70), ⟨(.type "tuple"), (@none Nat), (.seq #[] (0:Nat)), #[]⟩) ::
((nat_lit 72), ⟨(.type "code"), (@none Nat), (.fields #[(.str (.ofString "told") (256:Nat)), (.str (.ofString "SyntaxFault.told") (257:Nat)), (.str (.ofString "/claim/cut.py") (258:Nat)), (.int 19 (0:Nat)), (.int 1 (0:Nat)), (.int 0 (0:Nat)), (.int 0 (0:Nat)), (.int 3 (0:Nat)), (.ref (67:Nat)), (.bool true), (.int 181 (0:Nat)), (.ref (68:Nat)), .none, (.ref (69:Nat)), (.ref (70:Nat)), (.ref (71:Nat)), (.int 260 (0:Nat)), (.int 19 (0:Nat)), (.str (.ofString "/claim/cut.py") (261:Nat))]), #[]⟩) ::
((nat_lit 73), ⟨(.type "function"), (@none Nat), (.func ⟨(.ofString "told"), (.ofString "SyntaxFault.told"), ?a5, (.stmts ?b5), ?c3, (3:Nat), ([] : List ((Prod PySem.Str) Nat)), .none, .none, .none, (.str (.ofString "minismt.errors") (194:Nat)), (@none Nat), (.ref (72:Nat)), .none, (0:Nat)⟩), #[]⟩) ::
((nat_lit 74), ⟨(.type "tuple"), (@none Nat), (.seq #[(.str (.ofString "spot") (263:Nat))] (0:Nat)), #[]⟩) ::
((nat_lit 75), ⟨(.type "dict"), (@none Nat), (.dict #[⟨(@PySem.PyData.keyHash P (.ofString "__module__")), (.str (.ofString "__module__") (241:Nat)), (.str (.ofString "minismt.errors") (194:Nat))⟩, ⟨(@PySem.PyData.keyHash P (.ofString "__firstlineno__")), (.str (.ofString "__firstlineno__") (245:Nat)), (.int 13 (244:Nat))⟩, ⟨(@PySem.PyData.keyHash P (.ofString "__init__")), (.str (.ofString "__init__") (255:Nat)), (.ref (66:Nat))⟩, ⟨(@PySem.PyData.keyHash P (.ofString "told")), (.str (.ofString "told") (262:Nat)), (.ref (73:Nat))⟩, ⟨(@PySem.PyData.keyHash P (.ofString "__static_attributes__")), (.str (.ofString "__static_attributes__") (264:Nat)), (.ref (74:Nat))⟩, ⟨(@PySem.PyData.keyHash P (.ofString "__doc__")), (.str (.ofString "__doc__") (266:Nat)), .none⟩] (3:Nat)), #[]⟩) ::
((nat_lit 76), ⟨(.type "type"), (@none Nat), (.cls ⟨(.ofString "SyntaxFault"), [(.ref (47:Nat))], [(.ref (76:Nat)), (.ref (47:Nat)), (.type "Exception"), (.type "BaseException"), (.type "object")], (75:Nat), (.ofString "SyntaxFault"), true, [], [], false, none, false⟩), #[(some (.ref (51:Nat))), none, (some (.str (.ofString "SyntaxFault") (234:Nat))), (some (.str (.ofString "SyntaxFault") (242:Nat))), (some (.builtin "Exception.__new__")), (some (.bool true))]⟩) ::
((nat_lit 79), ⟨(.type "tuple"), (@none Nat), (.seq #[(.str (.ofString "!") (280:Nat)), (.str (.ofString "_") (281:Nat)), (.str (.ofString "as") (282:Nat)), (.str (.ofString "BINARY") (283:Nat)), (.str (.ofString "DECIMAL") (284:Nat)), (.str (.ofString "exists") (285:Nat)), (.str (.ofString "forall") (286:Nat)), (.str (.ofString "HEXADECIMAL") (287:Nat)), (.str (.ofString "let") (288:Nat)), (.str (.ofString "match") (289:Nat)), (.str (.ofString "NUMERAL") (290:Nat)), (.str (.ofString "par") (291:Nat)), (.str (.ofString "STRING") (292:Nat))] (0:Nat)), #[]⟩) ::
((nat_lit 80), ⟨(.type "tuple"), (@none Nat), (.seq #[] (0:Nat)), #[]⟩) ::
((nat_lit 82), ⟨(.type "tuple"), (@none Nat), (.seq #[(.str (.ofString "name") (297:Nat)), (.str (.ofString "sign") (298:Nat))] (0:Nat)), #[]⟩) ::
((nat_lit 83), ⟨(.type "tuple"), (@none Nat), (.seq #[] (0:Nat)), #[]⟩) ::
((nat_lit 85), ⟨(.type "code"), (@none Nat), (.fields #[(.str (.ofString "is_simple") (294:Nat)), (.str (.ofString "is_simple") (295:Nat)), (.str (.ofString "/claim/cut.py") (296:Nat)), (.int 27 (0:Nat)), (.int 1 (0:Nat)), (.int 0 (0:Nat)), (.int 0 (0:Nat)), (.int 3 (0:Nat)), (.ref (80:Nat)), (.bool true), (.int 181 (0:Nat)), (.ref (81:Nat)), .none, (.ref (82:Nat)), (.ref (83:Nat)), (.ref (84:Nat)), (.int 299 (0:Nat)), (.int 27 (0:Nat)), (.str (.ofString "/claim/cut.py") (300:Nat))]), #[]⟩) ::
((nat_lit 86), ⟨(.type "function"), (@none Nat), (.func ⟨(.ofString "is_simple"), (.ofString "is_simple"), ?a12, (.stmts ?b12), ?c12, (3:Nat), ([] : List ((Prod PySem.Str) Nat)), .none, .none, .none, (.str (.ofString "minismt.texts") (269:Nat)), (@none Nat), (.ref (85:Nat)), .none, (0:Nat)⟩), #[]⟩) ::
((nat_lit 87), ⟨(.type "tuple"), (@none Nat), (.seq #[] (0:Nat)), #[]⟩) ::
((nat_lit 89), ⟨(.type "tuple"), (@none Nat), (.seq #[(.str (.ofString "name") (305:Nat))] (0:Nat)), #[]⟩) ::
((nat_lit 90), ⟨(.type "tuple"), (@none Nat), (.seq #[] (0:Nat)), #[]⟩) ::
((nat_lit 92), ⟨(.type "code"), (@none Nat), (.fields #[(.str (.ofString "symbol_text") (302:Nat)), (.str (.ofString "symbol_text") (303:Nat)), (.str (.ofString "/claim/cut.py") (304:Nat)), (.int 34 (0:Nat)), (.int 1 (0:Nat)), (.int 0 (0:Nat)), (.int 0 (0:Nat)), (.int 3 (0:Nat)), (.ref (87:Nat)), (.bool true), (.int 181 (0:Nat)), (.ref (88:Nat)), .none, (.ref (89:Nat)), (.ref (90:Nat)), (.ref (91:Nat)), (.int 306 (0:Nat)), (.int 34 (0:Nat)), (.str (.ofString "/claim/cut.py") (307:Nat))]), #[]⟩) ::
((nat_lit 93), ⟨(.type "function"), (@none Nat), (.func ⟨(.ofString "symbol_text"), (.ofString "symbol_text"), ?a13, (.stmts ?b13), ?c13, (3:Nat), ([] : List ((Prod PySem.Str) Nat)), .none, .none, .none, (.str (.ofString "minismt.texts") (269:Nat)), (@none Nat), (.ref (92:Nat)), .none, (0:Nat)⟩), #[]⟩) ::
((nat_lit 94), ⟨(.type "tuple"), (@none Nat), (.seq #[] (0:Nat)), #[]⟩) ::
((nat_lit 96), ⟨(.type "tuple"), (@none Nat), (.seq #[(.str (.ofString "text") (312:Nat))] (0:Nat)), #[]⟩) ::
((nat_lit 97), ⟨(.type "tuple"), (@none Nat), (.seq #[] (0:Nat)), #[]⟩) ::
((nat_lit 99), ⟨(.type "code"), (@none Nat), (.fields #[(.str (.ofString "string_text") (309:Nat)), (.str (.ofString "string_text") (310:Nat)), (.str (.ofString "/claim/cut.py") (311:Nat)), (.int 42 (0:Nat)), (.int 1 (0:Nat)), (.int 0 (0:Nat)), (.int 0 (0:Nat)), (.int 3 (0:Nat)), (.ref (94:Nat)), (.bool true), (.int 181 (0:Nat)), (.ref (95:Nat)), .none, (.ref (96:Nat)), (.ref (97:Nat)), (.ref (98:Nat)), (.int 313 (0:Nat)), (.int 42 (0:Nat)), (.str (.ofString "/claim/cut.py") (314:Nat))]), #[]⟩) ::
((nat_lit 100), ⟨(.type "function"), (@none Nat), (.func ⟨(.ofString "string_text"), (.ofString "string_text"), ?a14, (.stmts ?b14), ?c14, (3:Nat), ([] : List ((Prod PySem.Str) Nat)), .none, .none, .none, (.str (.ofString "minismt.texts") (269:Nat)), (@none Nat), (.ref (99:Nat)), .none, (0:Nat)⟩), #[]⟩) ::
((nat_lit 101), ⟨(.type "tuple"), (@none Nat), (.seq #[] (0:Nat)), #[]⟩) ::
((nat_lit 103), ⟨(.type "tuple"), (@none Nat), (.seq #[(.str (.ofString "value") (319:Nat)), (.str (.ofString "width") (320:Nat)), (.str (.ofString "digits") (321:Nat)), (.str (.ofString "place") (322:Nat))] (0:Nat)), #[]⟩) ::
((nat_lit 104), ⟨(.type "tuple"), (@none Nat), (.seq #[] (0:Nat)), #[]⟩) ::
((nat_lit 106), ⟨(.type "code"), (@none Nat), (.fields #[(.str (.ofString "bits_text") (316:Nat)), (.str (.ofString "bits_text") (317:Nat)), (.str (.ofString "/claim/cut.py") (318:Nat)), (.int 44 (0:Nat)), (.int 2 (0:Nat)), (.int 0 (0:Nat)), (.int 0 (0:Nat)), (.int 3 (0:Nat)), (.ref (101:Nat)), (.bool true), (.int 181 (0:Nat)), (.ref (102:Nat)), .none, (.ref (103:Nat)), (.ref (104:Nat)), (.ref (105:Nat)), (.int 323 (0:Nat)), (.int 44 (0:Nat)), (.str (.ofString "/claim/cut.py") (324:Nat))]), #[]⟩) ::
((nat_lit 107), ⟨(.type "function"), (@none Nat), (.func ⟨(.ofString "bits_text"), (.ofString "bits_text"), ?a15, (.stmts ?b15), ?c15, (3:Nat), ([] : List ((Prod PySem.Str) Nat)), .none, .none, .none, (.str (.ofString "minismt.texts") (269:Nat)), (@none Nat), (.ref (106:Nat)), .none, (0:Nat)⟩), #[]⟩) ::
((nat_lit 108), ⟨(.type "tuple"), (@none Nat), (.seq #[] (0:Nat)), #[]⟩) ::
((nat_lit 110), ⟨(.type "tuple"), (@none Nat), (.seq #[(.str (.ofString "bottom") (329:Nat)), (.str (.ofString "twos") (330:Nat)), (.str (.ofString "fives") (331:Nat))] (0:Nat)), #[]⟩) ::
((nat_lit 111), ⟨(.type "tuple"), (@none Nat), (.seq #[] (0:Nat)), #[]⟩) ::
((nat_lit 113), ⟨(.type "code"), (@none Nat), (.fields #[(.str (.ofString "places_of") (326:Nat)), (.str (.ofString "places_of") (327:Nat)), (.str (.ofString "/claim/cut.py") (328:Nat)), (.int 49 (0:Nat)), (.int 1 (0:Nat)), (.int 0 (0:Nat)), (.int 0 (0:Nat)), (.int 3 (0:Nat)), (.ref (108:Nat)), (.bool true), (.int 181 (0:Nat)), (.ref (109:Nat)), .none, (.ref (110:Nat)), (.ref (111:Nat)), (.ref (112:Nat)), (.int 332 (0:Nat)), (.int 49 (0:Nat)), (.str (.ofString "/claim/cut.py") (333:Nat))]), #[]⟩) ::
((nat_lit 114), ⟨(.type "function"), (@none Nat), (.func ⟨(.ofString "places_of"), (.ofString "places_of"), ?a16, (.stmts ?b16), ?c16, (3:Nat), ([] : List ((Prod PySem.Str) Nat)), .none, .none, .none, (.str (.ofString "minismt.texts") (269:Nat)), (@none Nat), (.ref (113:Nat)), .none, (0:Nat)⟩), #[]⟩) ::
((nat_lit 115), ⟨(.type "tuple"), (@none Nat), (.seq #[] (0:Nat)), #[]⟩) ::
((nat_lit 117), ⟨(.type "tuple"), (@none Nat), (.seq #[(.str (.ofString "value") (338:Nat)), (.str (.ofString "top") (339:Nat)), (.str (.ofString "bottom") (340:Nat)), (.str (.ofString "places") (341:Nat)), (.str (.ofString "digits") (342:Nat))] (0:Nat)), #[]⟩) ::
((nat_lit 118), ⟨(.type "tuple"), (@none Nat), (.seq #[] (0:Nat)), #[]⟩) ::
((nat_lit 120), ⟨(.type "code"), (@none Nat), (.fields #[(.str (.ofString "decimal_text") (335:Nat)), (.str (.ofString "decimal_text") (336:Nat)), (.str (.ofString "/claim/cut.py") (337:Nat)), (.int 61 (0:Nat)), (.int 1 (0:Nat)), (.int 0 (0:Nat)), (.int 0 (0:Nat)), (.int 3 (0:Nat)), (.ref (115:Nat)), (.bool true), (.int 181 (0:Nat)), (.ref (116:Nat)), .none, (.ref (117:Nat)), (.ref (118:Nat)), (.ref (119:Nat)), (.int 343 (0:Nat)), (.int 61 (0:Nat)), (.str (.ofString "/claim/cut.py") (344:Nat))]), #[]⟩) ::
((nat_lit 121), ⟨(.type "function"), (@none Nat), (.func ⟨(.ofString "decimal_text"), (.ofString "decimal_text"), ?a17, (.stmts ?b17), ?c17, (3:Nat), ([] : List ((Prod PySem.Str) Nat)), .none, .none, .none, (.str (.ofString "minismt.texts") (269:Nat)), (@none Nat), (.ref (120:Nat)), .none, (0:Nat)⟩), #[]⟩) ::
((nat_lit 122), ⟨(.type "tuple"), (@none Nat), (.seq #[] (0:Nat)), #[]⟩) ::
((nat_lit 124), ⟨(.type "tuple"), (@none Nat), (.seq #[(.str (.ofString "value") (349:Nat))] (0:Nat)), #[]⟩) ::
((nat_lit 125), ⟨(.type "tuple"), (@none Nat), (.seq #[] (0:Nat)), #[]⟩) ::
((nat_lit 127), ⟨(.type "code"), (@none Nat), (.fields #[(.str (.ofString "number_text") (346:Nat)), (.str (.ofString "number_text") (347:Nat)), (.str (.ofString "/claim/cut.py") (348:Nat)), (.int 71 (0:Nat)), (.int 1 (0:Nat)), (.int 0 (0:Nat)), (.int 0 (0:Nat)), (.int 3 (0:Nat)), (.ref (122:Nat)), (.bool true), (.int 181 (0:Nat)), (.ref (123:Nat)), .none, (.ref (124:Nat)), (.ref (125:Nat)), (.ref (126:Nat)), (.int 350 (0:Nat)), (.int 71 (0:Nat)), (.str (.ofString "/claim/cut.py") (351:Nat))]), #[]⟩) ::
((nat_lit 128), ⟨(.type "function"), (@none Nat), (.func ⟨(.ofString "number_text"), (.ofString "number_text"), ?a18, (.stmts ?b18), ?c18, (3:Nat), ([] : List ((Prod PySem.Str) Nat)), .none, .none, .none, (.str (.ofString "minismt.texts") (269:Nat)), (@none Nat), (.ref (127:Nat)), .none, (0:Nat)⟩), #[]⟩) ::
((nat_lit 129), ⟨(.type "tuple"), (@none Nat), (.seq #[] (0:Nat)), #[]⟩) ::
((nat_lit 131), ⟨(.type "tuple"), (@none Nat), (.seq #[(.str (.ofString "item") (356:Nat)), (.str (.ofString "kind") (357:Nat))] (0:Nat)), #[]⟩) ::
((nat_lit 132), ⟨(.type "tuple"), (@none Nat), (.seq #[] (0:Nat)), #[]⟩) ::
((nat_lit 134), ⟨(.type "code"), (@none Nat), (.fields #[(.str (.ofString "word_text") (353:Nat)), (.str (.ofString "word_text") (354:Nat)), (.str (.ofString "/claim/cut.py") (355:Nat)), (.int 75 (0:Nat)), (.int 1 (0:Nat)), (.int 0 (0:Nat)), (.int 0 (0:Nat)), (.int 3 (0:Nat)), (.ref (129:Nat)), (.bool true), (.int 181 (0:Nat)), (.ref (130:Nat)), .none, (.ref (131:Nat)), (.ref (132:Nat)), (.ref (133:Nat)), (.int 358 (0:Nat)), (.int 75 (0:Nat)), (.str (.ofString "/claim/cut.py") (359:Nat))]), #[]⟩) ::
((nat_lit 135), ⟨(.type "function"), (@none Nat), (.func ⟨(.ofString "word_text"), (.ofString "word_text"), ?a19, (.stmts ?b19), ?c19, (3:Nat), ([] : List ((Prod PySem.Str) Nat)), .none, .none, .none, (.str (.ofString "minismt.texts") (269:Nat)), (@none Nat), (.ref (134:Nat)), .none, (0:Nat)⟩), #[]⟩) ::
((nat_lit 136), ⟨(.type "tuple"), (@none Nat), (.seq #[] (0:Nat)), #[]⟩) ::
((nat_lit 138), ⟨(.type "tuple"), (@none Nat), (.seq #[(.str (.ofString "item") (364:Nat)), (.str (.ofString "pieces") (365:Nat)), (.str (.ofString "waiting") (366:Nat)), (.str (.ofString "thing") (367:Nat)), (.str (.ofString "is_behind") (368:Nat)), (.str (.ofString "place") (369:Nat))] (0:Nat)), #[]⟩) ::
((nat_lit 139), ⟨(.type "tuple"), (@none Nat), (.seq #[] (0:Nat)), #[]⟩) ::
((nat_lit 141), ⟨(.type "code"), (@none Nat), (.fields #[(.str (.ofString "write_item") (361:Nat)), (.str (.ofString "write_item") (362:Nat)), (.str (.ofString "/claim/cut.py") (363:Nat)), (.int 90 (0:Nat)), (.int 1 (0:Nat)), (.int 0 (0:Nat)), (.int 0 (0:Nat)), (.int 3 (0:Nat)), (.ref (136:Nat)), (.bool true), (.int 181 (0:Nat)), (.ref (137:Nat)), .none, (.ref (138:Nat)), (.ref (139:Nat)), (.ref (140:Nat)), (.int 370 (0:Nat)), (.int 90 (0:Nat)), (.str (.ofString "/claim/cut.py") (371:Nat))]), #[]⟩) ::
((nat_lit 142), ⟨(.type "function"), (@none Nat), (.func ⟨(.ofString "write_item"), (.ofString "write_item"), ?a20, (.stmts ?b20), ?c20, (3:Nat), ([] : List ((Prod PySem.Str) Nat)), .none, .none, .none, (.str (.ofString "minismt.texts") (269:Nat)), (@none Nat), (.ref (141:Nat)), .none, (0:Nat)⟩), #[]⟩) ::
((nat_lit 150), ⟨(.type "tuple"), (@none Nat), (.seq #[] (0:Nat)), #[]⟩) ::
((nat_lit 152), ⟨(.type "tuple"), (@none Nat), (.seq #[(.str (.ofString "self") (396:Nat)), (.str (.ofString "ask") (397:Nat)), (.str (.ofString "most") (398:Nat))] (0:Nat)), #[]⟩) ::
((nat_lit 153), ⟨(.type "tuple"), (@none Nat), (.seq #[] (0:Nat)), #[]⟩) ::
((nat_lit 155), ⟨(.type "code"), (@none Nat), (.fields #[(.str (.ofString "__init__") (393:Nat)), (.str (.ofString "Shrinker.__init__") (394:Nat)), (.str (.ofString "/claim/cut.py") (395:Nat)), (.int 114 (0:Nat)), (.int 3 (0:Nat)), (.int 0 (0:Nat)), (.int 0 (0:Nat)), (.int 3 (0:Nat)), (.ref (150:Nat)), (.bool true), (.int 181 (0:Nat)), (.ref (151:Nat)), .none, (.ref (152:Nat)), (.ref (153:Nat)), (.ref (154:Nat)), (.int 399 (0:Nat)), (.int 114 (0:Nat)), (.str (.ofString "/claim/cut.py") (400:Nat))]), #[]⟩) ::
((nat_lit 156), ⟨(.type "function"), (@none Nat), (.func ⟨(.ofString "__init__"), (.ofString "Shrinker.__init__"), ?a25, (.stmts ?b25), ?c25, (3:Nat), ([] : List ((Prod PySem.Str) Nat)), .none, .none, .none, (.str (.ofString "minismt.solver") (373:Nat)), (@none Nat), (.ref (155:Nat)), .none, (0:Nat)⟩), #[]⟩) ::
((nat_lit 157), ⟨(.type "tuple"), (@none Nat), (.seq #[] (0:Nat)), #[]⟩) ::
((nat_lit 160), ⟨(.type "code"), (@none Nat), (.fields #[(.str (.ofString "enough_of") (402:Nat)), (.str (.ofString "Shrinker.enough_of") (403:Nat)), (.str (.ofString "/claim/cut.py") (404:Nat)), (.int 120 (0:Nat)), (.int 2 (0:Nat)), (.int 0 (0:Nat)), (.int 0 (0:Nat)), (.int 3 (0:Nat)), (.ref (157:Nat)), (.bool true), (.int 181 (0:Nat)), (.ref (158:Nat)), .none, .none, .none, (.ref (159:Nat)), (.int 405 (0:Nat)), (.int 120 (0:Nat)), (.str (.ofString "/claim/cut.py") (406:Nat))]), #[]⟩) ::
((nat_lit 161), ⟨(.type "function"), (@none Nat), (.func ⟨(.ofString "enough_of"), (.ofString "Shrinker.enough_of"), ?a26, (.stmts ?b26), ?c26, (3:Nat), ([] : List ((Prod PySem.Str) Nat)), .none, .none, .none, (.str (.ofString "minismt.solver") (373:Nat)), (@none Nat), (.ref (160:Nat)), .none, (0:Nat)⟩), #[]⟩) ::
((nat_lit 162), ⟨(.type "tuple"), (@none Nat), (.seq #[] (0:Nat)), #[]⟩) ::
((nat_lit 165), ⟨(.type "code"), (@none Nat), (.fields #[(.str (.ofString "one_by_one") (408:Nat)), (.str (.ofString "Shrinker.one_by_one") (409:Nat)), (.str (.ofString "/claim/cut.py") (410:Nat)), (.int 132 (0:Nat)), (.int 2 (0:Nat)), (.int 0 (0:Nat)), (.int 0 (0:Nat)), (.int 3 (0:Nat)), (.ref (162:Nat)), (.bool true), (.int 181 (0:Nat)), (.ref (163:Nat)), .none, .none, .none, (.ref (164:Nat)), (.int 411 (0:Nat)), (.int 132 (0:Nat)), (.str (.ofString "/claim/cut.py") (412:Nat))]), #[]⟩) ::
((nat_lit 166), ⟨(.type "function"), (@none Nat), (.func ⟨(.ofString "one_by_one"), (.ofString "Shrinker.one_by_one"), ?a27, (.stmts ?b27), ?c27, (3:Nat), ([] : List ((Prod PySem.Str) Nat)), .none, .none, .none, (.str (.ofString "minismt.solver") (373:Nat)), (@none Nat), (.ref (165:Nat)), .none, (0:Nat)⟩), #[]⟩) ::
((nat_lit 167), ⟨(.type "tuple"), (@none Nat), (.seq #[] (0:Nat)), #[]⟩) ::
((nat_lit 169), ⟨(.type "tuple"), (@none Nat), (.seq #[(.str (.ofString "self") (417:Nat)), (.str (.ofString "base") (418:Nat)), (.str (.ofString "some") (419:Nat)), (.str (.ofString "is_new") (420:Nat)), (.str (.ofString "middle") (421:Nat)), (.str (.ofString "first") (422:Nat)), (.str (.ofString "second") (423:Nat)), (.str (.ofString "late") (424:Nat)), (.str (.ofString "early") (425:Nat))] (0:Nat)), #[]⟩) ::
((nat_lit 170), ⟨(.type "tuple"), (@none Nat), (.seq #[] (0:Nat)), #[]⟩) ::
((nat_lit 172), ⟨(.type "code"), (@none Nat), (.fields #[(.str (.ofString "by_halves") (414:Nat)), (.str (.ofString "Shrinker.by_halves") (415:Nat)), (.str (.ofString "/claim/cut.py") (416:Nat)), (.int 144 (0:Nat)), (.int 4 (0:Nat)), (.int 0 (0:Nat)), (.int 0 (0:Nat)), (.int 3 (0:Nat)), (.ref (167:Nat)), (.bool true), (.int 181 (0:Nat)), (.ref (168:Nat)), .none, (.ref (169:Nat)), (.ref (170:Nat)), (.ref (171:Nat)), (.int 426 (0:Nat)), (.int 144 (0:Nat)), (.str (.ofString "/claim/cut.py") (427:Nat))]), #[]⟩) ::
((nat_lit 173), ⟨(.type "function"), (@none Nat), (.func ⟨(.ofString "by_halves"), (.ofString "Shrinker.by_halves"), ?a28, (.stmts ?b28), ?c28, (3:Nat), ([] : List ((Prod PySem.Str) Nat)), .none, .none, .none, (.str (.ofString "minismt.solver") (373:Nat)), (@none Nat), (.ref (172:Nat)), .none, (0:Nat)⟩), #[]⟩) ::
((nat_lit 174), ⟨(.type "tuple"), (@none Nat), (.seq #[(.str (.ofString "ask") (429:Nat)), (.str (.ofString "asked") (430:Nat)), (.str (.ofString "is_sure") (431:Nat)), (.str (.ofString "most") (432:Nat))] (0:Nat)), #[]⟩) ::
((nat_lit 175), ⟨(.type "dict"), (@none Nat), (.dict #[⟨(@PySem.PyData.keyHash P (.ofString "__module__")), (.str (.ofString "__module__") (388:Nat)), (.str (.ofString "minismt.solver") (373:Nat))⟩, ⟨(@PySem.PyData.keyHash P (.ofString "__firstlineno__")), (.str (.ofString "__firstlineno__") (392:Nat)), (.int 112 (391:Nat))⟩, ⟨(@PySem.PyData.keyHash P (.ofString "__init__")), (.str (.ofString "__init__") (401:Nat)), (.ref (156:Nat))⟩, ⟨(@PySem.PyData.keyHash P (.ofString "enough_of")), (.str (.ofString "enough_of") (407:Nat)), (.ref (161:Nat))⟩, ⟨(@PySem.PyData.keyHash P (.ofString "one_by_one")), (.str (.ofString "one_by_one") (413:Nat)), (.ref (166:Nat))⟩, ⟨(@PySem.PyData.keyHash P (.ofString "by_halves")), (.str (.ofString "by_halves") (428:Nat)), (.ref (173:Nat))⟩, ⟨(@PySem.PyData.keyHash P (.ofString "__static_attributes__")), (.str (.ofString "__static_attributes__") (433:Nat)), (.ref (174:Nat))⟩, ⟨(@PySem.PyData.keyHash P (.ofString "__dict__")), (.str (.ofString "__dict__") (435:Nat)), (.ref (177:Nat))⟩, ⟨(@PySem.PyData.keyHash P (.ofString "__weakref__")), (.str (.ofString "__weakref__") (437:Nat)), (.ref (178:Nat))⟩, ⟨(@PySem.PyData.keyHash P (.ofString "__doc__")), (.str (.ofString "__doc__") (438:Nat)), .none⟩] (4:Nat)), #[]⟩) ::
((nat_lit 176), ⟨(.type "type"), (@none Nat), (.cls ⟨(.ofString "Shrinker"), [(.type "object")], [(.ref (176:Nat)), (.type "object")], (175:Nat), (.ofString "Shrinker"), true, [], [], false, none, false⟩), #[none, none, (some (.str (.ofString "Shrinker") (381:Nat))), (some (.str (.ofString "Shrinker") (389:Nat))), (some (.builtin "object.__new__")), (some (.bool true))]⟩) ::
((nat_lit 177), ⟨(.type "getset_descriptor"), (@none Nat), (.fields #[(.str (.ofString "__dict__") (434:Nat)), (.ref (176:Nat)), (.builtin "function.__dict__"), (.builtin "function.__dict__#set")]), #[]⟩) ::
((nat_lit 178), ⟨(.type "getset_descriptor"), (@none Nat), (.fields #[(.str (.ofString "__weakref__") (436:Nat)), (.ref (176:Nat)), (.builtin "ExceptionGroup.__weakref__"), .none]), #[]⟩) ::
((nat_lit 181), ⟨(.type "tuple"), (@none Nat), (.seq #[(.int 1000 (441:Nat))] (0:Nat)), #[]⟩) ::
((nat_lit 182), ⟨(.type "tuple"), (@none Nat), (.seq #[] (0:Nat)), #[]⟩) ::
((nat_lit 184), ⟨(.type "tuple"), (@none Nat), (.seq #[(.str (.ofString "core") (445:Nat)), (.str (.ofString "ask") (446:Nat)), (.str (.ofString "most") (447:Nat)), (.str (.ofString "shrinker") (448:Nat)), (.str (.ofString "found") (449:Nat))] (0:Nat)), #[]⟩) ::
((nat_lit 185), ⟨(.type "tuple"), (@none Nat), (.seq #[] (0:Nat)), #[]⟩) ::
((nat_lit 187), ⟨(.type "code"), (@none Nat), (.fields #[(.str (.ofString "shrink") (442:Nat)), (.str (.ofString "shrink") (443:Nat)), (.str (.ofString "/claim/cut.py") (444:Nat)), (.int 154 (0:Nat)), (.int 3 (0:Nat)), (.int 0 (0:Nat)), (.int 0 (0:Nat)), (.int 3 (0:Nat)), (.ref (182:Nat)), (.bool true), (.int 181 (0:Nat)), (.ref (183:Nat)), .none, (.ref (184:Nat)), (.ref (185:Nat)), (.ref (186:Nat)), (.int 450 (0:Nat)), (.int 154 (0:Nat)), (.str (.ofString "/claim/cut.py") (451:Nat))]), #[]⟩) ::
((nat_lit 188), ⟨(.type "function"), (@none Nat), (.func ⟨(.ofString "shrink"), (.ofString "shrink"), ?a29, (.stmts ?b29), ?c29, (3:Nat), ([] : List ((Prod PySem.Str) Nat)), (.ref (181:Nat)), .none, .none, (.str (.ofString "minismt.solver") (373:Nat)), (@none Nat), (.ref (187:Nat)), .none, (0:Nat)⟩), #[]⟩) ::
((nat_lit 189), ⟨(.type "tuple"), (@none Nat), (.seq #[] (0:Nat)), #[]⟩) ::
((nat_lit 191), ⟨(.type "tuple"), (@none Nat), (.seq #[(.str (.ofString "keys") (456:Nat)), (.str (.ofString "ask") (457:Nat))] (0:Nat)), #[]⟩) ::
((nat_lit 192), ⟨(.type "tuple"), (@none Nat), (.seq #[] (0:Nat)), #[]⟩) ::
((nat_lit 194), ⟨(.type "code"), (@none Nat), (.fields #[(.str (.ofString "is_core") (453:Nat)), (.str (.ofString "is_core") (454:Nat)), (.str (.ofString "/claim/cut.py") (455:Nat)), (.int 162 (0:Nat)), (.int 2 (0:Nat)), (.int 0 (0:Nat)), (.int 0 (0:Nat)), (.int 3 (0:Nat)), (.ref (189:Nat)), (.bool true), (.int 181 (0:Nat)), (.ref (190:Nat)), .none, (.ref (191:Nat)), (.ref (192:Nat)), (.ref (193:Nat)), (.int 458 (0:Nat)), (.int 162 (0:Nat)), (.str (.ofString "/claim/cut.py") (459:Nat))]), #[]⟩) ::
((nat_lit 195), ⟨(.type "function"), (@none Nat), (.func ⟨(.ofString "is_core"), (.ofString "is_core"), ?a30, (.stmts ?b30), ?c30, (3:Nat), ([] : List ((Prod PySem.Str) Nat)), .none, .none, .none, (.str (.ofString "minismt.solver") (373:Nat)), (@none Nat), (.ref (194:Nat)), .none, (0:Nat)⟩), #[]⟩) ::
((nat_lit 196), ⟨(.type "tuple"), (@none Nat), (.seq #[] (0:Nat)), #[]⟩) ::
((nat_lit 198), ⟨(.type "tuple"), (@none Nat), (.seq #[(.str (.ofString "keys") (464:Nat)), (.str (.ofString "ask") (465:Nat)), (.str (.ofString "k") (466:Nat))] (0:Nat)), #[]⟩) ::
((nat_lit 199), ⟨(.type "tuple"), (@none Nat), (.seq #[] (0:Nat)), #[]⟩) ::
((nat_lit 201), ⟨(.type "code"), (@none Nat), (.fields #[(.str (.ofString "is_least") (461:Nat)), (.str (.ofString "is_least") (462:Nat)), (.str (.ofString "/claim/cut.py") (463:Nat)), (.int 164 (0:Nat)), (.int 2 (0:Nat)), (.int 0 (0:Nat)), (.int 0 (0:Nat)), (.int 3 (0:Nat)), (.ref (196:Nat)), (.bool true), (.int 181 (0:Nat)), (.ref (197:Nat)), .none, (.ref (198:Nat)), (.ref (199:Nat)), (.ref (200:Nat)), (.int 467 (0:Nat)), (.int 164 (0:Nat)), (.str (.ofString "/claim/cut.py") (468:Nat))]), #[]⟩) ::
((nat_lit 202), ⟨(.type "function"), (@none Nat), (.func ⟨(.ofString "is_least"), (.ofString "is_least"), ?a31, (.stmts ?b31), ?c31, (3:Nat), ([] : List ((Prod PySem.Str) Nat)), .none, .none, .none, (.str (.ofString "minismt.solver") (373:Nat)), (@none Nat), (.ref (201:Nat)), .none, (0:Nat)⟩), #[]⟩) ::
((nat_lit 203), ⟨(.type "tuple"), (@none Nat), (.seq #[] (0:Nat)), #[]⟩) ::
((nat_lit 206), ⟨(.type "code"), (@none Nat), (.fields #[(.str (.ofString "core_text") (470:Nat)), (.str (.ofString "core_text") (471:Nat)), (.str (.ofString "/claim/cut.py") (472:Nat)), (.int 171 (0:Nat)), (.int 1 (0:Nat)), (.int 0 (0:Nat)), (.int 0 (0:Nat)), (.int 3 (0:Nat)), (.ref (203:Nat)), (.bool true), (.int 181 (0:Nat)), (.ref (204:Nat)), .none, .none, .none, (.ref (205:Nat)), (.int 473 (0:Nat)), (.int 171 (0:Nat)), (.str (.ofString "/claim/cut.py") (474:Nat))]), #[]⟩) ::
((nat_lit 207), ⟨(.type "function"), (@none Nat), (.func ⟨(.ofString "core_text"), (.ofString "core_text"), ?a32, (.stmts ?b32), ?c32, (3:Nat), ([] : List ((Prod PySem.Str) Nat)), .none, .none, .none, (.str (.ofString "minismt.solver") (373:Nat)), (@none Nat), (.ref (206:Nat)), .none, (0:Nat)⟩), #[]⟩) ::
((nat_lit 208), ⟨(.type "tuple"), (@none Nat), (.seq #[] (0:Nat)), #[]⟩) ::
((nat_lit 210), ⟨(.type "tuple"), (@none Nat), (.seq #[(.str (.ofString "feed") (481:Nat)), (.str (.ofString "wide") (482:Nat)), (.str (.ofString "spot") (483:Nat))] (0:Nat)), #[]⟩) ::
((nat_lit 211), ⟨(.type "tuple"), (@none Nat), (.seq #[] (0:Nat)), #[]⟩) ::
((nat_lit 213), ⟨(.type "code"), (@none Nat), (.fields #[(.str (.ofString "_law_next") (478:Nat)), (.str (.ofString "_law_next") (479:Nat)), (.str (.ofString "/claim/cut.py") (480:Nat)), (.int 174 (0:Nat)), (.int 2 (0:Nat)), (.int 0 (0:Nat)), (.int 0 (0:Nat)), (.int 3 (0:Nat)), (.ref (208:Nat)), (.bool true), (.int 181 (0:Nat)), (.ref (209:Nat)), .none, (.ref (210:Nat)), (.ref (211:Nat)), (.ref (212:Nat)), (.int 484 (0:Nat)), (.int 174 (0:Nat)), (.str (.ofString "/claim/cut.py") (485:Nat))]), #[]⟩) ::
((nat_lit 214), ⟨(.type "function"), (@none Nat), (.func ⟨(.ofString "_law_next"), (.ofString "_law_next"), ?a34, (.stmts ?b34), ?c34, (3:Nat), ([] : List ((Prod PySem.Str) Nat)), .none, .none, .none, (.str (.ofString "law_qz0007_01") (476:Nat)), (@none Nat), (.ref (213:Nat)), .none, (0:Nat)⟩), #[]⟩) ::
((nat_lit 215), ⟨(.type "tuple"), (@none Nat), (.seq #[] (0:Nat)), #[]⟩) ::
((nat_lit 218), ⟨(.type "code"), (@none Nat), (.fields #[(.str (.ofString "_law_is_enough") (487:Nat)), (.str (.ofString "_law_is_enough") (488:Nat)), (.str (.ofString "/claim/cut.py") (489:Nat)), (.int 180 (0:Nat)), (.int 2 (0:Nat)), (.int 0 (0:Nat)), (.int 0 (0:Nat)), (.int 3 (0:Nat)), (.ref (215:Nat)), (.bool true), (.int 181 (0:Nat)), (.ref (216:Nat)), .none, .none, .none, (.ref (217:Nat)), (.int 490 (0:Nat)), (.int 180 (0:Nat)), (.str (.ofString "/claim/cut.py") (491:Nat))]), #[]⟩) ::
((nat_lit 219), ⟨(.type "function"), (@none Nat), (.func ⟨(.ofString "_law_is_enough"), (.ofString "_law_is_enough"), ?a35, (.stmts ?b35), ?c35, (3:Nat), ([] : List ((Prod PySem.Str) Nat)), .none, .none, .none, (.str (.ofString "law_qz0007_01") (476:Nat)), (@none Nat), (.ref (218:Nat)), .none, (0:Nat)⟩), #[]⟩) ::
((nat_lit 220), ⟨(.type "tuple"), (@none Nat), (.seq #[] (0:Nat)), #[]⟩) ::
((nat_lit 222), ⟨(.type "tuple"), (@none Nat), (.seq #[(.str (.ofString "rows") (496:Nat)), (.str (.ofString "heard") (497:Nat)), (.str (.ofString "dull") (498:Nat)), (.str (.ofString "part") (499:Nat)), (.str (.ofString "ask") (500:Nat))] (0:Nat)), #[]⟩) ::
((nat_lit 223), ⟨(.type "tuple"), (@none Nat), (.seq #[(.str (.ofString "rows") (501:Nat)), (.str (.ofString "heard") (502:Nat)), (.str (.ofString "dull") (503:Nat)), (.str (.ofString "part") (504:Nat))] (0:Nat)), #[]⟩) ::
((nat_lit 225), ⟨(.type "code"), (@none Nat), (.fields #[(.str (.ofString "_law_ask") (493:Nat)), (.str (.ofString "_law_ask") (494:Nat)), (.str (.ofString "/claim/cut.py") (495:Nat)), (.int 185 (0:Nat)), (.int 4 (0:Nat)), (.int 0 (0:Nat)), (.int 0 (0:Nat)), (.int 3 (0:Nat)), (.ref (220:Nat)), (.bool true), (.int 181 (0:Nat)), (.ref (221:Nat)), .none, (.ref (222:Nat)), (.ref (223:Nat)), (.ref (224:Nat)), (.int 505 (0:Nat)), (.int 185 (0:Nat)), (.str (.ofString "/claim/cut.py") (506:Nat))]), #[]⟩) ::
((nat_lit 226), ⟨(.type "function"), (@none Nat), (.func ⟨(.ofString "_law_ask"), (.ofString "_law_ask"), ?a36, (.stmts ?b36), ?c36, (3:Nat), ([] : List ((Prod PySem.Str) Nat)), .none, .none, .none, (.str (.ofString "law_qz0007_01") (476:Nat)), (@none Nat), (.ref (225:Nat)), .none, (0:Nat)⟩), #[]⟩) ::
((nat_lit 227), ⟨(.type "tuple"), (@none Nat), (.seq #[] (0:Nat)), #[]⟩) ::
((nat_lit 229), ⟨(.type "tuple"), (@none Nat), (.seq #[(.str (.ofString "rows") (511:Nat)), (.str (.ofString "base") (512:Nat)), (.str (.ofString "keys") (513:Nat)), (.str (.ofString "late") (514:Nat)), (.str (.ofString "k") (515:Nat))] (0:Nat)), #[]⟩) ::
((nat_lit 230), ⟨(.type "tuple"), (@none Nat), (.seq #[] (0:Nat)), #[]⟩) ::
((nat_lit 232), ⟨(.type "code"), (@none Nat), (.fields #[(.str (.ofString "_law_stays") (508:Nat)), (.str (.ofString "_law_stays") (509:Nat)), (.str (.ofString "/claim/cut.py") (510:Nat)), (.int 195 (0:Nat)), (.int 3 (0:Nat)), (.int 0 (0:Nat)), (.int 0 (0:Nat)), (.int 3 (0:Nat)), (.ref (227:Nat)), (.bool true), (.int 181 (0:Nat)), (.ref (228:Nat)), .none, (.ref (229:Nat)), (.ref (230:Nat)), (.ref (231:Nat)), (.int 516 (0:Nat)), (.int 195 (0:Nat)), (.str (.ofString "/claim/cut.py") (517:Nat))]), #[]⟩) ::
((nat_lit 233), ⟨(.type "function"), (@none Nat), (.func ⟨(.ofString "_law_stays"), (.ofString "_law_stays"), ?a37, (.stmts ?b37), ?c37, (3:Nat), ([] : List ((Prod PySem.Str) Nat)), .none, .none, .none, (.str (.ofString "law_qz0007_01") (476:Nat)), (@none Nat), (.ref (232:Nat)), .none, (0:Nat)⟩), #[]⟩) ::
((nat_lit 234), ⟨(.type "tuple"), (@none Nat), (.seq #[] (0:Nat)), #[]⟩) ::
((nat_lit 237), ⟨(.type "code"), (@none Nat), (.fields #[(.str (.ofString "_law_is_part") (519:Nat)), (.str (.ofString "_law_is_part") (520:Nat)), (.str (.ofString "/claim/cut.py") (521:Nat)), (.int 201 (0:Nat)), (.int 2 (0:Nat)), (.int 0 (0:Nat)), (.int 0 (0:Nat)), (.int 3 (0:Nat)), (.ref (234:Nat)), (.bool true), (.int 181 (0:Nat)), (.ref (235:Nat)), .none, .none, .none, (.ref (236:Nat)), (.int 522 (0:Nat)), (.int 201 (0:Nat)), (.str (.ofString "/claim/cut.py") (523:Nat))]), #[]⟩) ::
((nat_lit 238), ⟨(.type "function"), (@none Nat), (.func ⟨(.ofString "_law_is_part"), (.ofString "_law_is_part"), ?a38, (.stmts ?b38), ?c38, (3:Nat), ([] : List ((Prod PySem.Str) Nat)), .none, .none, .none, (.str (.ofString "law_qz0007_01") (476:Nat)), (@none Nat), (.ref (237:Nat)), .none, (0:Nat)⟩), #[]⟩) ::
((nat_lit 239), ⟨(.type "tuple"), (@none Nat), (.seq #[] (0:Nat)), #[]⟩) ::
((nat_lit 241), ⟨(.type "tuple"), (@none Nat), (.seq #[(.str (.ofString "feed") (528:Nat)), (.str (.ofString "rows") (529:Nat)), (.str (.ofString "base") (530:Nat)), (.str (.ofString "keys") (531:Nat)), (.str (.ofString "is_fresh") (532:Nat)), (.str (.ofString "many") (533:Nat)), (.str (.ofString "due") (534:Nat)), (.str (.ofString "heard") (535:Nat)), (.str (.ofString "most") (536:Nat)), (.str (.ofString "halver") (537:Nat)), (.str (.ofString "found") (538:Nat))] (0:Nat)), #[]⟩) ::
((nat_lit 242), ⟨(.type "tuple"), (@none Nat), (.seq #[] (0:Nat)), #[]⟩) ::
((nat_lit 244), ⟨(.type "code"), (@none Nat), (.fields #[(.str (.ofString "_law_few_right") (525:Nat)), (.str (.ofString "_law_few_right") (526:Nat)), (.str (.ofString "/claim/cut.py") (527:Nat)), (.int 203 (0:Nat)), (.int 7 (0:Nat)), (.int 0 (0:Nat)), (.int 0 (0:Nat)), (.int 3 (0:Nat)), (.ref (239:Nat)), (.bool true), (.int 181 (0:Nat)), (.ref (240:Nat)), .none, (.ref (241:Nat)), (.ref (242:Nat)), (.ref (243:Nat)), (.int 539 (0:Nat)), (.int 203 (0:Nat)), (.str (.ofString "/claim/cut.py") (540:Nat))]), #[]⟩) ::
((nat_lit 245), ⟨(.type "function"), (@none Nat), (.func ⟨(.ofString "_law_few_right"), (.ofString "_law_few_right"), ?a39, (.stmts ?b39), ?c39, (3:Nat), ([] : List ((Prod PySem.Str) Nat)), .none, .none, .none, (.str (.ofString "law_qz0007_01") (476:Nat)), (@none Nat), (.ref (244:Nat)), .none, (0:Nat)⟩), #[]⟩) ::
((nat_lit 246), ⟨(.type "tuple"), (@none Nat), (.seq #[] (0:Nat)), #[]⟩) ::
((nat_lit 249), ⟨(.type "code"), (@none Nat), (.fields #[(.str (.ofString "_law_dull_right") (542:Nat)), (.str (.ofString "_law_dull_right") (543:Nat)), (.str (.ofString "/claim/cut.py") (544:Nat)), (.int 210 (0:Nat)), (.int 5 (0:Nat)), (.int 0 (0:Nat)), (.int 0 (0:Nat)), (.int 3 (0:Nat)), (.ref (246:Nat)), (.bool true), (.int 181 (0:Nat)), (.ref (247:Nat)), .none, .none, .none, (.ref (248:Nat)), (.int 545 (0:Nat)), (.int 210 (0:Nat)), (.str (.ofString "/claim/cut.py") (546:Nat))]), #[]⟩) ::
((nat_lit 250), ⟨(.type "function"), (@none Nat), (.func ⟨(.ofString "_law_dull_right"), (.ofString "_law_dull_right"), ?a40, (.stmts ?b40), ?c40, (3:Nat), ([] : List ((Prod PySem.Str) Nat)), .none, .none, .none, (.str (.ofString "law_qz0007_01") (476:Nat)), (@none Nat), (.ref (249:Nat)), .none, (0:Nat)⟩), #[]⟩) ::
((nat_lit 251), ⟨(.type "tuple"), (@none Nat), (.seq #[] (0:Nat)), #[]⟩) ::
((nat_lit 253), ⟨(.type "tuple"), (@none Nat), (.seq #[(.str (.ofString "rows") (551:Nat)), (.str (.ofString "keys") (552:Nat)), (.str (.ofString "due") (553:Nat)), (.str (.ofString "ask") (554:Nat)), (.str (.ofString "found") (555:Nat)), (.str (.ofString "is_sure") (556:Nat))] (0:Nat)), #[]⟩) ::
((nat_lit 254), ⟨(.type "tuple"), (@none Nat), (.seq #[] (0:Nat)), #[]⟩) ::
((nat_lit 256), ⟨(.type "code"), (@none Nat), (.fields #[(.str (.ofString "_law_shrunk_right") (548:Nat)), (.str (.ofString "_law_shrunk_right") (549:Nat)), (.str (.ofString "/claim/cut.py") (550:Nat)), (.int 217 (0:Nat)), (.int 3 (0:Nat)), (.int 0 (0:Nat)), (.int 0 (0:Nat)), (.int 3 (0:Nat)), (.ref (251:Nat)), (.bool true), (.int 181 (0:Nat)), (.ref (252:Nat)), .none, (.ref (253:Nat)), (.ref (254:Nat)), (.ref (255:Nat)), (.int 557 (0:Nat)), (.int 217 (0:Nat)), (.str (.ofString "/claim/cut.py") (558:Nat))]), #[]⟩) ::
((nat_lit 257), ⟨(.type "function"), (@none Nat), (.func ⟨(.ofString "_law_shrunk_right"), (.ofString "_law_shrunk_right"), ?a41, (.stmts ?b41), ?c41, (3:Nat), ([] : List ((Prod PySem.Str) Nat)), .none, .none, .none, (.str (.ofString "law_qz0007_01") (476:Nat)), (@none Nat), (.ref (256:Nat)), .none, (0:Nat)⟩), #[]⟩) ::
((nat_lit 258), ⟨(.type "tuple"), (@none Nat), (.seq #[] (0:Nat)), #[]⟩) ::
((nat_lit 261), ⟨(.type "code"), (@none Nat), (.fields #[(.str (.ofString "law") (560:Nat)), (.str (.ofString "law") (561:Nat)), (.str (.ofString "/claim/cut.py") (562:Nat)), (.int 223 (0:Nat)), (.int 1 (0:Nat)), (.int 0 (0:Nat)), (.int 0 (0:Nat)), (.int 3 (0:Nat)), (.ref (258:Nat)), (.bool true), (.int 181 (0:Nat)), (.ref (259:Nat)), .none, .none, .none, (.ref (260:Nat)), (.int 563 (0:Nat)), (.int 223 (0:Nat)), (.str (.ofString "/claim/cut.py") (564:Nat))]), #[]⟩) ::
((nat_lit 262), ⟨(.type "function"), (@none Nat), (.func ⟨(.ofString "law"), (.ofString "law"), ?a42, (.stmts ?b42), ?c42, (3:Nat), ([] : List ((Prod PySem.Str) Nat)), .none, .none, .none, (.str (.ofString "law_qz0007_01") (476:Nat)), (@none Nat), (.ref (261:Nat)), .none, (0:Nat)⟩), #[]⟩) :: []
  ) : (fun (_ : PySem.Challenge.pw_qz0007_01.main.body = (.FunctionDef _ ?a0 ?b0 _ _ _ ?c0 _ _ _) ::
    _ ::
    (.ClassDef _ _ _ [(.FunctionDef _ ?a2 ?b2 _ _ _ ?c2 _ _ _), (.FunctionDef _ ?a3 ?b3 _ _ _ ?c3 _ _ _)] _ _ _ _ _ _ _) ::
    (.ClassDef _ _ _ [(.FunctionDef _ ?a4 ?b4 _ _ _ ?c4 _ _ _), (.FunctionDef _ ?a5 ?b5 _ _ _ _ _ _ _)] _ _ _ _ _ _ _) ::
    _ ::
    _ ::
    _ ::
    _ ::
    _ ::
    _ ::
    (.FunctionDef _ ?a12 ?b12 _ _ _ ?c12 _ _ _) ::
    (.FunctionDef _ ?a13 ?b13 _ _ _ ?c13 _ _ _) ::
    (.FunctionDef _ ?a14 ?b14 _ _ _ ?c14 _ _ _) ::
    (.FunctionDef _ ?a15 ?b15 _ _ _ ?c15 _ _ _) ::
    (.FunctionDef _ ?a16 ?b16 _ _ _ ?c16 _ _ _) ::
    (.FunctionDef _ ?a17 ?b17 _ _ _ ?c17 _ _ _) ::
    (.FunctionDef _ ?a18 ?b18 _ _ _ ?c18 _ _ _) ::
    (.FunctionDef _ ?a19 ?b19 _ _ _ ?c19 _ _ _) ::
    (.FunctionDef _ ?a20 ?b20 _ _ _ ?c20 _ _ _) ::
    _ ::
    _ ::
    _ ::
    _ ::
    (.ClassDef _ _ _ [(.FunctionDef _ ?a25 ?b25 _ _ _ ?c25 _ _ _), (.FunctionDef _ ?a26 ?b26 _ _ _ ?c26 _ _ _), (.FunctionDef _ ?a27 ?b27 _ _ _ ?c27 _ _ _), (.FunctionDef _ ?a28 ?b28 _ _ _ ?c28 _ _ _)] _ _ _ _ _ _ _) ::
    (.FunctionDef _ ?a29 ?b29 _ _ _ ?c29 _ _ _) ::
    (.FunctionDef _ ?a30 ?b30 _ _ _ ?c30 _ _ _) ::
    (.FunctionDef _ ?a31 ?b31 _ _ _ ?c31 _ _ _) ::
    (.FunctionDef _ ?a32 ?b32 _ _ _ ?c32 _ _ _) ::
    _ ::
    (.FunctionDef _ ?a34 ?b34 _ _ _ ?c34 _ _ _) ::
    (.FunctionDef _ ?a35 ?b35 _ _ _ ?c35 _ _ _) ::
    (.FunctionDef _ ?a36 ?b36 _ _ _ ?c36 _ _ _) ::
    (.FunctionDef _ ?a37 ?b37 _ _ _ ?c37 _ _ _) ::
    (.FunctionDef _ ?a38 ?b38 _ _ _ ?c38 _ _ _) ::
    (.FunctionDef _ ?a39 ?b39 _ _ _ ?c39 _ _ _) ::
    (.FunctionDef _ ?a40 ?b40 _ _ _ ?c40 _ _ _) ::
    (.FunctionDef _ ?a41 ?b41 _ _ _ ?c41 _ _ _) ::
    (.FunctionDef _ ?a42 ?b42 _ _ _ ?c42 _ _ _) :: []) => Params → List (Nat × Obj)) rfl)
noncomputable def hd.view_39 : Program :=
  let_mvar% ?t0 := (_ : Stmt);
  let_mvar% ?t2 := (_ : Stmt);
  let_mvar% ?t3 := (_ : Stmt);
  let_mvar% ?t5 := (_ : Stmt);
  let_mvar% ?t6 := (_ : Stmt);
  let_mvar% ?t7 := (_ : Stmt);
  let_mvar% ?t8 := (_ : Stmt);
  let_mvar% ?t9 := (_ : Stmt);
  let_mvar% ?t10 := (_ : Stmt);
  let_mvar% ?t11 := (_ : Stmt);
  let_mvar% ?t12 := (_ : Stmt);
  let_mvar% ?t13 := (_ : Stmt);
  let_mvar% ?t14 := (_ : Stmt);
  let_mvar% ?t15 := (_ : Stmt);
  let_mvar% ?t16 := (_ : Stmt);
  let_mvar% ?t17 := (_ : Stmt);
  let_mvar% ?t18 := (_ : Stmt);
  let_mvar% ?t20 := (_ : Stmt);
  let_mvar% ?t21 := (_ : Stmt);
  let_mvar% ?t22 := (_ : Stmt);
  let_mvar% ?t23 := (_ : Stmt);
  let_mvar% ?t25 := (_ : Stmt);
  let_mvar% ?t26 := (_ : Stmt);
  let_mvar% ?t27 := (_ : Stmt);
  let_mvar% ?t29 := (_ : Stmt);
  let_mvar% ?t30 := (_ : Stmt);
  let_mvar% ?t31 := (_ : Stmt);
  let_mvar% ?t32 := (_ : Stmt);
  let_mvar% ?t33 := (_ : Stmt);
  let_mvar% ?t34 := (_ : Stmt);
  let_mvar% ?t35 := (_ : Stmt);
  let_mvar% ?t36 := (_ : Stmt);
  let_mvar% ?t37 := (_ : Stmt);
  ({ (OpenRow.toRowW (OpenLaw.row PySem.Challenge.rw_qz0007_01)).prog with main := { ((OpenRow.toRowW (OpenLaw.row PySem.Challenge.rw_qz0007_01)).prog).main with body := ?t0 :: ?t2 :: ?t3 :: ?t5 :: ?t6 :: ?t7 :: ?t8 :: ?t9 :: ?t10 :: ?t11 :: ?t12 :: ?t13 :: ?t14 :: ?t15 :: ?t16 :: ?t17 :: ?t18 :: ?t20 :: ?t21 :: ?t22 :: ?t23 :: ?t25 :: ?t26 :: ?t27 :: ?t29 :: ?t30 :: ?t31 :: ?t32 :: ?t33 :: ?t34 :: ?t35 :: ?t36 :: ?t37 :: [] } } : (fun (_ : PySem.Challenge.pw_qz0007_01.main.body = ?t0 :: _ :: ?t2 :: ?t3 :: _ :: ?t5 :: ?t6 :: ?t7 :: ?t8 :: ?t9 :: ?t10 :: ?t11 :: ?t12 :: ?t13 :: ?t14 :: ?t15 :: ?t16 :: ?t17 :: ?t18 :: _ :: ?t20 :: ?t21 :: ?t22 :: ?t23 :: _ :: ?t25 :: ?t26 :: ?t27 :: _ :: ?t29 :: ?t30 :: ?t31 :: ?t32 :: ?t33 :: ?t34 :: ?t35 :: ?t36 :: ?t37 :: []) => Program) rfl)
inductive Slot where
  | lit (o : Obj)
  | shape
  | next
noncomputable def shapeNext : Frag → Obj
  | (_, ⟨_, _, .func f, _⟩) :: _ => ⟨.none, none, .func { f with globals := 0, closure := [], defaults := .none, kwdefaults := .none, doc := .none, pyModule := .none, annotations := none, code := .none, closureTuple := .none, builtins := 0 }, #[]⟩
  | _ :: r => shapeNext r
  | [] => ⟨.none, none, .plain, #[]⟩
noncomputable def fillH : List Slot → Frag → List Obj
  | [], _ => []
  | .lit o :: r, f => o :: fillH r f
  | .shape :: r, f => shapeNext f :: fillH r f
  | .next :: r, (_, o) :: f => o :: fillH r f
  | .next :: _, [] => []
noncomputable def hd.slots : Params → List Slot := fun P =>
.lit (PySem.W.boot_o_0 P) ::
.lit (PySem.W.boot_o_1 P) ::
.next ::
.next ::
.lit (PySem.W.boot_o_4 P) ::
.lit (PySem.W.boot_o_5 P) ::
.lit (PySem.W.boot_o_6 P) ::
.lit (PySem.W.boot_o_7 P) ::
.lit (PySem.W.boot_o_8 P) ::
.lit (PySem.W.boot_o_9 P) ::
.lit (PySem.W.boot_o_10 P) ::
.lit ⟨(.type "tuple"), (@none Nat), (.seq #[] (0:Nat)), #[]⟩ ::
.lit ⟨.none, (@none Nat), (.fields #[(.int 1 (0:Nat)), (.int 0 (0:Nat)), (.ref (20:Nat)), (.int 5 (0:Nat)), (.int 0 (0:Nat)), (.ref (28:Nat)), (.int 13 (0:Nat)), (.int 0 (0:Nat)), (.ref (57:Nat)), (.int 27 (0:Nat)), (.int 0 (0:Nat)), (.ref (85:Nat)), (.int 34 (0:Nat)), (.int 0 (0:Nat)), (.ref (92:Nat)), (.int 42 (0:Nat)), (.int 0 (0:Nat)), (.ref (99:Nat)), (.int 44 (0:Nat)), (.int 0 (0:Nat)), (.ref (106:Nat)), (.int 49 (0:Nat)), (.int 0 (0:Nat)), (.ref (113:Nat)), (.int 61 (0:Nat)), (.int 0 (0:Nat)), (.ref (120:Nat)), (.int 71 (0:Nat)), (.int 0 (0:Nat)), (.ref (127:Nat)), (.int 75 (0:Nat)), (.int 0 (0:Nat)), (.ref (134:Nat)), (.int 90 (0:Nat)), (.int 0 (0:Nat)), (.ref (141:Nat)), (.int 112 (0:Nat)), (.int 0 (0:Nat)), (.ref (148:Nat)), (.int 154 (0:Nat)), (.int 0 (0:Nat)), (.ref (187:Nat)), (.int 162 (0:Nat)), (.int 0 (0:Nat)), (.ref (194:Nat)), (.int 164 (0:Nat)), (.int 0 (0:Nat)), (.ref (201:Nat)), (.int 171 (0:Nat)), (.int 0 (0:Nat)), (.ref (206:Nat)), (.int 174 (0:Nat)), (.int 0 (0:Nat)), (.ref (213:Nat)), (.int 180 (0:Nat)), (.int 0 (0:Nat)), (.ref (218:Nat)), (.int 185 (0:Nat)), (.int 0 (0:Nat)), (.ref (225:Nat)), (.int 195 (0:Nat)), (.int 0 (0:Nat)), (.ref (232:Nat)), (.int 201 (0:Nat)), (.int 0 (0:Nat)), (.ref (237:Nat)), (.int 203 (0:Nat)), (.int 0 (0:Nat)), (.ref (244:Nat)), (.int 210 (0:Nat)), (.int 0 (0:Nat)), (.ref (249:Nat)), (.int 217 (0:Nat)), (.int 0 (0:Nat)), (.ref (256:Nat)), (.int 223 (0:Nat)), (.int 0 (0:Nat)), (.ref (261:Nat))]), #[]⟩ ::
.lit ⟨(.type "code"), (@none Nat), (.fields #[(.str (.ofString "<module>") (182:Nat)), (.str (.ofString "<module>") (183:Nat)), (.str (.ofString "/claim/cut.py") (184:Nat)), (.int 1 (0:Nat)), (.int 0 (0:Nat)), (.int 0 (0:Nat)), (.int 0 (0:Nat)), (.int 0 (0:Nat)), (.ref (11:Nat)), (.bool false), (.int 181 (0:Nat)), (.ref (12:Nat)), .none, .none, .none, .none, (.int 185 (0:Nat)), (.int 1 (0:Nat)), (.str (.ofString "/claim/cut.py") (186:Nat))]), #[]⟩ ::
.lit ⟨(.type "frame"), (@none Nat), .plain, #[(some (.ref (13:Nat))), (some (.ref (3:Nat))), (some (.ref (3:Nat))), none, (some (.str (.ofString "__main__") (164:Nat))), none, (some (.ref (0:Nat)))]⟩ ::
.next ::
.lit ⟨.none, (@none Nat), (.fields #[]), #[]⟩ ::
.next ::
.next ::
.shape ::
.next ::
.next ::
.next ::
.lit ⟨(.type "builtin_function_or_method"), (@none Nat), (.fields #[(.builtin "type.__prepare__"), (.type "type")]), #[]⟩ ::
.lit ⟨(.type "dict"), (@none Nat), (.dict #[⟨(@PySem.PyData.keyHash P (.ofString "__module__")), (.str (.ofString "__module__") (203:Nat)), (.str (.ofString "minismt.errors") (194:Nat))⟩, ⟨(@PySem.PyData.keyHash P (.ofString "__qualname__")), (.str (.ofString "__qualname__") (205:Nat)), (.str (.ofString "SmtError") (204:Nat))⟩, ⟨(@PySem.PyData.keyHash P (.ofString "__firstlineno__")), (.str (.ofString "__firstlineno__") (207:Nat)), (.int 5 (206:Nat))⟩, ⟨(@PySem.PyData.keyHash P (.ofString "__init__")), (.str (.ofString "__init__") (216:Nat)), (.ref (37:Nat))⟩, ⟨(@PySem.PyData.keyHash P (.ofString "told")), (.str (.ofString "told") (223:Nat)), (.ref (44:Nat))⟩, ⟨(@PySem.PyData.keyHash P (.ofString "__static_attributes__")), (.str (.ofString "__static_attributes__") (225:Nat)), (.ref (45:Nat))⟩, ⟨(@PySem.PyData.keyHash P (.ofString "__classcell__")), (.str (.ofString "__classcell__") (226:Nat)), (.ref (25:Nat))⟩] (7:Nat)), #[]⟩ ::
.next ::
.lit ⟨(.type "tuple"), (@none Nat), (.seq #[] (0:Nat)), #[]⟩ ::
.lit ⟨.none, (@none Nat), (.fields #[(.int 7 (0:Nat)), (.int 4 (0:Nat)), (.ref (36:Nat)), (.int 11 (0:Nat)), (.int 4 (0:Nat)), (.ref (43:Nat))]), #[]⟩ ::
.lit ⟨(.type "code"), (@none Nat), (.fields #[(.str (.ofString "SmtError") (198:Nat)), (.str (.ofString "SmtError") (199:Nat)), (.str (.ofString "/claim/cut.py") (200:Nat)), (.int 5 (0:Nat)), (.int 0 (0:Nat)), (.int 0 (0:Nat)), (.int 0 (0:Nat)), (.int 0 (0:Nat)), (.ref (26:Nat)), (.bool false), (.int 181 (0:Nat)), (.ref (27:Nat)), .none, .none, .none, .none, (.int 201 (0:Nat)), (.int 5 (0:Nat)), (.str (.ofString "/claim/cut.py") (202:Nat))]), #[]⟩ ::
.lit ⟨(.type "frame"), (@none Nat), .plain, #[(some (.ref (28:Nat))), (some (.ref (3:Nat))), (some (.ref (24:Nat))), none, (some (.str (.ofString "minismt.errors") (194:Nat))), none, (some (.ref (0:Nat)))]⟩ ::
.next ::
.next ::
.lit ⟨.none, (@none Nat), (.fields #[]), #[]⟩ ::
.next ::
.next ::
.shape ::
.next ::
.next ::
.next ::
.lit ⟨.none, (@none Nat), (.fields #[]), #[]⟩ ::
.next ::
.next ::
.shape ::
.next ::
.next ::
.next ::
.next ::
.next ::
.next ::
.lit ⟨(.type "super"), (@none Nat), (.fields #[(.ref (47:Nat)), (.ref (47:Nat)), (.ref (47:Nat))]), #[]⟩ ::
.lit ⟨(.type "builtin_function_or_method"), (@none Nat), (.fields #[(.builtin "object.__init_subclass__"), (.ref (47:Nat))]), #[]⟩ ::
.next ::
.lit ⟨(.type "builtin_function_or_method"), (@none Nat), (.fields #[(.builtin "type.__prepare__"), (.type "type")]), #[]⟩ ::
.lit ⟨(.type "dict"), (@none Nat), (.dict #[⟨(@PySem.PyData.keyHash P (.ofString "__module__")), (.str (.ofString "__module__") (241:Nat)), (.str (.ofString "minismt.errors") (194:Nat))⟩, ⟨(@PySem.PyData.keyHash P (.ofString "__qualname__")), (.str (.ofString "__qualname__") (243:Nat)), (.str (.ofString "SyntaxFault") (242:Nat))⟩, ⟨(@PySem.PyData.keyHash P (.ofString "__firstlineno__")), (.str (.ofString "__firstlineno__") (245:Nat)), (.int 13 (244:Nat))⟩, ⟨(@PySem.PyData.keyHash P (.ofString "__init__")), (.str (.ofString "__init__") (255:Nat)), (.ref (66:Nat))⟩, ⟨(@PySem.PyData.keyHash P (.ofString "told")), (.str (.ofString "told") (262:Nat)), (.ref (73:Nat))⟩, ⟨(@PySem.PyData.keyHash P (.ofString "__static_attributes__")), (.str (.ofString "__static_attributes__") (264:Nat)), (.ref (74:Nat))⟩, ⟨(@PySem.PyData.keyHash P (.ofString "__classcell__")), (.str (.ofString "__classcell__") (265:Nat)), (.ref (54:Nat))⟩] (7:Nat)), #[]⟩ ::
.next ::
.lit ⟨(.type "tuple"), (@none Nat), (.seq #[] (0:Nat)), #[]⟩ ::
.lit ⟨.none, (@none Nat), (.fields #[(.int 15 (0:Nat)), (.int 4 (0:Nat)), (.ref (65:Nat)), (.int 19 (0:Nat)), (.int 4 (0:Nat)), (.ref (72:Nat))]), #[]⟩ ::
.lit ⟨(.type "code"), (@none Nat), (.fields #[(.str (.ofString "SyntaxFault") (236:Nat)), (.str (.ofString "SyntaxFault") (237:Nat)), (.str (.ofString "/claim/cut.py") (238:Nat)), (.int 13 (0:Nat)), (.int 0 (0:Nat)), (.int 0 (0:Nat)), (.int 0 (0:Nat)), (.int 0 (0:Nat)), (.ref (55:Nat)), (.bool false), (.int 181 (0:Nat)), (.ref (56:Nat)), .none, .none, .none, .none, (.int 239 (0:Nat)), (.int 13 (0:Nat)), (.str (.ofString "/claim/cut.py") (240:Nat))]), #[]⟩ ::
.lit ⟨(.type "frame"), (@none Nat), .plain, #[(some (.ref (57:Nat))), (some (.ref (3:Nat))), (some (.ref (53:Nat))), none, (some (.str (.ofString "minismt.errors") (194:Nat))), none, (some (.ref (0:Nat)))]⟩ ::
.next ::
.next ::
.lit ⟨.none, (@none Nat), (.fields #[]), #[]⟩ ::
.next ::
.next ::
.shape ::
.next ::
.next ::
.next ::
.lit ⟨.none, (@none Nat), (.fields #[]), #[]⟩ ::
.next ::
.next ::
.shape ::
.next ::
.next ::
.next ::
.next ::
.next ::
.lit ⟨(.type "super"), (@none Nat), (.fields #[(.ref (76:Nat)), (.ref (76:Nat)), (.ref (76:Nat))]), #[]⟩ ::
.lit ⟨(.type "builtin_function_or_method"), (@none Nat), (.fields #[(.builtin "object.__init_subclass__"), (.ref (76:Nat))]), #[]⟩ ::
.next ::
.next ::
.lit ⟨.none, (@none Nat), (.fields #[]), #[]⟩ ::
.next ::
.next ::
.shape ::
.next ::
.next ::
.next ::
.lit ⟨.none, (@none Nat), (.fields #[]), #[]⟩ ::
.next ::
.next ::
.shape ::
.next ::
.next ::
.next ::
.lit ⟨.none, (@none Nat), (.fields #[]), #[]⟩ ::
.next ::
.next ::
.shape ::
.next ::
.next ::
.next ::
.lit ⟨.none, (@none Nat), (.fields #[]), #[]⟩ ::
.next ::
.next ::
.shape ::
.next ::
.next ::
.next ::
.lit ⟨.none, (@none Nat), (.fields #[]), #[]⟩ ::
.next ::
.next ::
.shape ::
.next ::
.next ::
.next ::
.lit ⟨.none, (@none Nat), (.fields #[]), #[]⟩ ::
.next ::
.next ::
.shape ::
.next ::
.next ::
.next ::
.lit ⟨.none, (@none Nat), (.fields #[]), #[]⟩ ::
.next ::
.next ::
.shape ::
.next ::
.next ::
.next ::
.lit ⟨.none, (@none Nat), (.fields #[]), #[]⟩ ::
.next ::
.next ::
.shape ::
.next ::
.next ::
.next ::
.lit ⟨.none, (@none Nat), (.fields #[]), #[]⟩ ::
.next ::
.next ::
.shape ::
.next ::
.next ::
.lit ⟨(.type "tuple"), (@none Nat), (.seq #[] (0:Nat)), #[]⟩ ::
.lit ⟨(.type "builtin_function_or_method"), (@none Nat), (.fields #[(.builtin "type.__prepare__"), (.type "type")]), #[]⟩ ::
.lit ⟨(.type "dict"), (@none Nat), (.dict #[⟨(@PySem.PyData.keyHash P (.ofString "__module__")), (.str (.ofString "__module__") (388:Nat)), (.str (.ofString "minismt.solver") (373:Nat))⟩, ⟨(@PySem.PyData.keyHash P (.ofString "__qualname__")), (.str (.ofString "__qualname__") (390:Nat)), (.str (.ofString "Shrinker") (389:Nat))⟩, ⟨(@PySem.PyData.keyHash P (.ofString "__firstlineno__")), (.str (.ofString "__firstlineno__") (392:Nat)), (.int 112 (391:Nat))⟩, ⟨(@PySem.PyData.keyHash P (.ofString "__init__")), (.str (.ofString "__init__") (401:Nat)), (.ref (156:Nat))⟩, ⟨(@PySem.PyData.keyHash P (.ofString "enough_of")), (.str (.ofString "enough_of") (407:Nat)), (.ref (161:Nat))⟩, ⟨(@PySem.PyData.keyHash P (.ofString "one_by_one")), (.str (.ofString "one_by_one") (413:Nat)), (.ref (166:Nat))⟩, ⟨(@PySem.PyData.keyHash P (.ofString "by_halves")), (.str (.ofString "by_halves") (428:Nat)), (.ref (173:Nat))⟩, ⟨(@PySem.PyData.keyHash P (.ofString "__static_attributes__")), (.str (.ofString "__static_attributes__") (433:Nat)), (.ref (174:Nat))⟩] (8:Nat)), #[]⟩ ::
.lit ⟨(.type "tuple"), (@none Nat), (.seq #[] (0:Nat)), #[]⟩ ::
.lit ⟨.none, (@none Nat), (.fields #[(.int 114 (0:Nat)), (.int 4 (0:Nat)), (.ref (155:Nat)), (.int 120 (0:Nat)), (.int 4 (0:Nat)), (.ref (160:Nat)), (.int 132 (0:Nat)), (.int 4 (0:Nat)), (.ref (165:Nat)), (.int 144 (0:Nat)), (.int 4 (0:Nat)), (.ref (172:Nat))]), #[]⟩ ::
.lit ⟨(.type "code"), (@none Nat), (.fields #[(.str (.ofString "Shrinker") (383:Nat)), (.str (.ofString "Shrinker") (384:Nat)), (.str (.ofString "/claim/cut.py") (385:Nat)), (.int 112 (0:Nat)), (.int 0 (0:Nat)), (.int 0 (0:Nat)), (.int 0 (0:Nat)), (.int 0 (0:Nat)), (.ref (146:Nat)), (.bool false), (.int 181 (0:Nat)), (.ref (147:Nat)), .none, .none, .none, .none, (.int 386 (0:Nat)), (.int 112 (0:Nat)), (.str (.ofString "/claim/cut.py") (387:Nat))]), #[]⟩ ::
.lit ⟨(.type "frame"), (@none Nat), .plain, #[(some (.ref (148:Nat))), (some (.ref (3:Nat))), (some (.ref (145:Nat))), none, (some (.str (.ofString "minismt.solver") (373:Nat))), none, (some (.ref (0:Nat)))]⟩ ::
.next ::
.lit ⟨.none, (@none Nat), (.fields #[]), #[]⟩ ::
.next ::
.next ::
.shape ::
.next ::
.next ::
.next ::
.lit ⟨.none, (@none Nat), (.fields #[]), #[]⟩ ::
.shape ::
.next ::
.next ::
.next ::
.lit ⟨.none, (@none Nat), (.fields #[]), #[]⟩ ::
.shape ::
.next ::
.next ::
.next ::
.lit ⟨.none, (@none Nat), (.fields #[]), #[]⟩ ::
.next ::
.next ::
.shape ::
.next ::
.next ::
.next ::
.next ::
.next ::
.next ::
.next ::
.lit ⟨(.type "super"), (@none Nat), (.fields #[(.ref (176:Nat)), (.ref (176:Nat)), (.ref (176:Nat))]), #[]⟩ ::
.lit ⟨(.type "builtin_function_or_method"), (@none Nat), (.fields #[(.builtin "object.__init_subclass__"), (.ref (176:Nat))]), #[]⟩ ::
.next ::
.next ::
.lit ⟨.none, (@none Nat), (.fields #[]), #[]⟩ ::
.next ::
.next ::
.shape ::
.next ::
.next ::
.next ::
.lit ⟨.none, (@none Nat), (.fields #[]), #[]⟩ ::
.next ::
.next ::
.shape ::
.next ::
.next ::
.next ::
.lit ⟨.none, (@none Nat), (.fields #[]), #[]⟩ ::
.next ::
.next ::
.shape ::
.next ::
.next ::
.next ::
.lit ⟨.none, (@none Nat), (.fields #[]), #[]⟩ ::
.shape ::
.next ::
.next ::
.next ::
.lit ⟨.none, (@none Nat), (.fields #[]), #[]⟩ ::
.next ::
.next ::
.shape ::
.next ::
.next ::
.next ::
.lit ⟨.none, (@none Nat), (.fields #[]), #[]⟩ ::
.shape ::
.next ::
.next ::
.next ::
.lit ⟨.none, (@none Nat), (.fields #[]), #[]⟩ ::
.next ::
.next ::
.shape ::
.next ::
.next ::
.next ::
.lit ⟨.none, (@none Nat), (.fields #[]), #[]⟩ ::
.next ::
.next ::
.shape ::
.next ::
.next ::
.next ::
.lit ⟨.none, (@none Nat), (.fields #[]), #[]⟩ ::
.shape ::
.next ::
.next ::
.next ::
.lit ⟨.none, (@none Nat), (.fields #[]), #[]⟩ ::
.next ::
.next ::
.shape ::
.next ::
.next ::
.next ::
.lit ⟨.none, (@none Nat), (.fields #[]), #[]⟩ ::
.shape ::
.next ::
.next ::
.next ::
.lit ⟨.none, (@none Nat), (.fields #[]), #[]⟩ ::
.next ::
.next ::
.shape ::
.next ::
.next ::
.next ::
.lit ⟨.none, (@none Nat), (.fields #[]), #[]⟩ ::
.shape ::
.next ::
.next :: []
noncomputable def hd.last : Params → Heap := fun P => ⟨⟨fillH (hd.slots P) (hd.heap_39 P)⟩, ⟨[], [], [], 0, [], [], false, #[], [], 0, false, false, false, 0, [2000, 10, 10], false, 0, true, [], [], 0, false⟩⟩
def hd.loose : List Str := [.ofString "SIMPLE", .ofString "shrink"]
noncomputable def hd.lv : List (Str × WData) := [(.ofString "SIMPLE", .str ⟨#[97, 98, 99, 100, 101, 102, 103, 104, 105, 106, 107, 108, 109, 110, 111, 112, 113, 114, 115, 116, 117, 118, 119, 120, 121, 122, 65, 66, 67, 68, 69, 70, 71, 72, 73, 74, 75, 76, 77, 78, 79, 80, 81, 82, 83, 84, 85, 86, 87, 88, 89, 90, 48, 49, 50, 51, 52, 53, 54, 55, 56, 57, 126, 33, 64, 36, 37, 94, 38, 42, 95, 45, 43, 61, 60, 62, 46, 63, 47]⟩)]
def hd.ads : List Addr := (nat_lit 2) :: (nat_lit 3) :: (nat_lit 15) :: (nat_lit 17) :: (nat_lit 18) :: (nat_lit 20) :: (nat_lit 21) :: (nat_lit 22) :: (nat_lit 25) :: (nat_lit 30) :: (nat_lit 31) :: (nat_lit 33) :: (nat_lit 34) :: (nat_lit 36) :: (nat_lit 37) :: (nat_lit 38) :: (nat_lit 40) :: (nat_lit 41) :: (nat_lit 43) :: (nat_lit 44) :: (nat_lit 45) :: (nat_lit 46) :: (nat_lit 47) :: (nat_lit 48) :: (nat_lit 51) :: (nat_lit 54) :: (nat_lit 59) :: (nat_lit 60) :: (nat_lit 62) :: (nat_lit 63) :: (nat_lit 65) :: (nat_lit 66) :: (nat_lit 67) :: (nat_lit 69) :: (nat_lit 70) :: (nat_lit 72) :: (nat_lit 73) :: (nat_lit 74) :: (nat_lit 75) :: (nat_lit 76) :: (nat_lit 79) :: (nat_lit 80) :: (nat_lit 82) :: (nat_lit 83) :: (nat_lit 85) :: (nat_lit 86) :: (nat_lit 87) :: (nat_lit 89) :: (nat_lit 90) :: (nat_lit 92) :: (nat_lit 93) :: (nat_lit 94) :: (nat_lit 96) :: (nat_lit 97) :: (nat_lit 99) :: (nat_lit 100) :: (nat_lit 101) :: (nat_lit 103) :: (nat_lit 104) :: (nat_lit 106) :: (nat_lit 107) :: (nat_lit 108) :: (nat_lit 110) :: (nat_lit 111) :: (nat_lit 113) :: (nat_lit 114) :: (nat_lit 115) :: (nat_lit 117) :: (nat_lit 118) :: (nat_lit 120) :: (nat_lit 121) :: (nat_lit 122) :: (nat_lit 124) :: (nat_lit 125) :: (nat_lit 127) :: (nat_lit 128) :: (nat_lit 129) :: (nat_lit 131) :: (nat_lit 132) :: (nat_lit 134) :: (nat_lit 135) :: (nat_lit 136) :: (nat_lit 138) :: (nat_lit 139) :: (nat_lit 141) :: (nat_lit 142) :: (nat_lit 150) :: (nat_lit 152) :: (nat_lit 153) :: (nat_lit 155) :: (nat_lit 156) :: (nat_lit 157) :: (nat_lit 160) :: (nat_lit 161) :: (nat_lit 162) :: (nat_lit 165) :: (nat_lit 166) :: (nat_lit 167) :: (nat_lit 169) :: (nat_lit 170) :: (nat_lit 172) :: (nat_lit 173) :: (nat_lit 174) :: (nat_lit 175) :: (nat_lit 176) :: (nat_lit 177) :: (nat_lit 178) :: (nat_lit 181) :: (nat_lit 182) :: (nat_lit 184) :: (nat_lit 185) :: (nat_lit 187) :: (nat_lit 188) :: (nat_lit 189) :: (nat_lit 191) :: (nat_lit 192) :: (nat_lit 194) :: (nat_lit 195) :: (nat_lit 196) :: (nat_lit 198) :: (nat_lit 199) :: (nat_lit 201) :: (nat_lit 202) :: (nat_lit 203) :: (nat_lit 206) :: (nat_lit 207) :: (nat_lit 208) :: (nat_lit 210) :: (nat_lit 211) :: (nat_lit 213) :: (nat_lit 214) :: (nat_lit 215) :: (nat_lit 218) :: (nat_lit 219) :: (nat_lit 220) :: (nat_lit 222) :: (nat_lit 223) :: (nat_lit 225) :: (nat_lit 226) :: (nat_lit 227) :: (nat_lit 229) :: (nat_lit 230) :: (nat_lit 232) :: (nat_lit 233) :: (nat_lit 234) :: (nat_lit 237) :: (nat_lit 238) :: (nat_lit 239) :: (nat_lit 241) :: (nat_lit 242) :: (nat_lit 244) :: (nat_lit 245) :: (nat_lit 246) :: (nat_lit 249) :: (nat_lit 250) :: (nat_lit 251) :: (nat_lit 253) :: (nat_lit 254) :: (nat_lit 256) :: (nat_lit 257) :: (nat_lit 258) :: (nat_lit 261) :: (nat_lit 262) :: []
theorem hd.adsIs : ∀ P, hd.ads = (hd.heap_39 P).map (·.1) := fun _ => by kernel_rfl
noncomputable def hd.hook : Hook := kmHook hd.heap_39 hd.ads hd.adsIs [221]
theorem look1 {a b : Bool} (x : a = true) (y : b = true) : (a && b) = true := by rw [x, y]; rfl
noncomputable abbrev hd.r : RowW := OpenRow.toRowW (OpenLaw.row PySem.Challenge.rw_qz0007_01)
theorem hd.ok1 : namesResolve (OpenLaw.row PySem.Challenge.rw_qz0007_01).prog = true := by
  try rw [PySem.W.Fast.te8377067652309620493]
  kernel_rfl
theorem hd.ok2 : namesMeet (OpenLaw.row PySem.Challenge.rw_qz0007_01).prog (OpenLaw.row PySem.Challenge.rw_qz0007_01).prog.main.body (fun _ n => attrL n) = true := by
  try rw [PySem.W.Fast.te17119622794617984870]
  kernel_rfl
theorem hd.ok3 : looksOpen (OpenLaw.row PySem.Challenge.rw_qz0007_01).prog = true := by
  unfold looksOpen
  rw [hd.ok1, hd.ok2]
  try rw [PySem.W.Fast.te8326940854005059898, PySem.W.Fast.te13343964577679436407, PySem.W.Fast.te18344453789297297638]
  kernel_rfl
theorem hd.ok4 : (OpenLaw.row PySem.Challenge.rw_qz0007_01).wellSaid = true := by
  unfold OpenRow.wellSaid OpenRow.partSaid
  rw [hd.ok3]
  try rw [PySem.W.Fast.te18344453789297297638]
  kernel_rfl
theorem hd.ok : PySem.Challenge.rw_qz0007_01.wellSaid = true := by
  unfold OpenLaw.wellSaid
  rw [hd.ok4]
  try rw [PySem.W.Fast.named_eq, PySem.W.Fast.te8326940854005059898, PySem.W.Fast.te17119622794617984870, PySem.W.Fast.te8179353310426384613, PySem.W.Fast.te9558739934217749035, PySem.W.Fast.te16286561074155671207]
  kernel_rfl
theorem hd.ran (w : World) : (openEnds treeTable hd.r.prog w 3594).map (fun s => (s.heap, s.gens, s.drawn, s.toks)) = some (hd.last w.params, #[], ⟨0, 0, 0, 0⟩, 566) := by
  unfold openEnds fencedOpening topFrom
  try rw [PySem.W.Fast.te14082659384304107361, PySem.W.Fast.te14364793385576792824, PySem.W.Fast.te10274390034422433532, PySem.W.Fast.te1435165496053646825, PySem.W.Fast.te14289696077712309145, PySem.W.Fast.te5923862056798008813, PySem.W.Fast.te8920871248978507458]
  kernel_rfl
noncomputable abbrev hd.end (w : World) (os : OsState) : Shared := ⟨hd.last w.params, #[], ⟨0, 0, 0, 0⟩, 566, os⟩
def hd.lo : List Str := [.ofString "SIMPLE", .ofString "shrink"]
theorem hd.s1 (w : World) (os : OsState) : PyProof.Rows.seen ((recsOf hd.view_39).map (·.name)) (ownsOf hd.view_39) [] { hd.end w os with gens := #[] } = expectedOf hd.view_39 := by
  try rw [PySem.W.Fast.te5160383126252970620, PySem.W.Fast.te3399658132070893891, PySem.W.Fast.te5991557255702980513]
  kernel_rfl
theorem hd.s3 (w : World) (os : OsState) : (hd.end w os).heap.keysOk (looseW hd.view_39 hd.lo) ((recsOf hd.view_39).map (·.name)) ((litsOf hd.view_39).map (·.1)) ((clssOf hd.view_39 (looseW hd.view_39 hd.lo)).map (·.name)) = true := by
  try rw [PySem.W.Fast.te10880121769531294198, PySem.W.Fast.te3399658132070893891, PySem.W.Fast.te7409074990110511671, PySem.W.Fast.te13664370479719496447, PySem.W.Fast.te821141287760084731]
  kernel_rfl
theorem hd.s33 (w : World) (os : OsState) : tablesOk hd.view_39 (hd.end w os).heap = true := by
  try rw [PySem.W.Fast.te10994771534591457954]
  kernel_rfl
theorem hd.s4 (w : World) (os : OsState) : tabsOk hd.view_39 (hd.end w os) = true := by
  try rw [PySem.W.Fast.te479339242167458305]
  kernel_rfl
theorem hd.s6 (w : World) (os : OsState) : plainSeenE hd.view_39 (looseW hd.view_39 hd.lo) (hd.end w os) = plainGoodE hd.view_39 (looseW hd.view_39 hd.lo) := by
  try rw [PySem.W.Fast.te2386780881361962483, PySem.W.Fast.te821141287760084731]
  kernel_rfl
theorem hd.s8 (w : World) (os : OsState) : wideSeen hd.view_39 (hd.end w os) = wideGood hd.view_39 := by
  try rw [PySem.W.Fast.te7317090234206586261]
  kernel_rfl
theorem hd.seen (w : World) (os : OsState) : openSeen hd.view_39 [.ofString "SIMPLE", .ofString "shrink"] (importedModules hd.r.prog.main.body) (fun s => xlAt hd.view_39 hd.lv s && recOk hd.r.records s) true (hd.end w os) = openGood hd.view_39 [.ofString "SIMPLE", .ofString "shrink"] := by
  show openSeen hd.view_39 hd.lo (importedModules hd.r.prog.main.body) (fun s => xlAt hd.view_39 hd.lv s && recOk hd.r.records s) true (hd.end w os) = openGood hd.view_39 hd.lo
  unfold openSeen openGood
  refine looks_pair (hd.s1 w os) (looks_pair (by kernel_rfl) (looks_pair ?_ (looks_pair (hd.s4 w os) (looks_pair (by kernel_rfl) (looks_pair (hd.s6 w os) (looks_pair (by kernel_rfl) (looks_pair (hd.s8 w os) (by kernel_rfl))))))))
  rw [hd.s3 w os, hd.s33 w os]
  kernel_rfl
theorem hd.hooked (w : World) (os : OsState) : hd.hook.obs (hd.end w os) = hd.hook.val w := by kernel_rfl
theorem hd.left : LeftO hd.r.prog hd.view_39 [.ofString "SIMPLE", .ofString "shrink"] (fun s => xlAt hd.view_39 hd.lv s && recOk hd.r.records s) hd.hook.obs hd.hook.val 3594 := fun w => by
  obtain ⟨⟨h, gs, d, k, os⟩, e, e'⟩ := Option.map_eq_some_iff.mp (hd.ran w)
  obtain ⟨rfl, rfl, rfl, rfl⟩ : h = hd.last w.params ∧ gs = #[] ∧ d = ⟨0, 0, 0, 0⟩ ∧ k = 566 := by simpa only [Prod.mk.injEq] using e'
  rw [e]
  exact congrArg some (Prod.ext (hd.seen w os) (hd.hooked w os))
theorem filledAll : PySem.Challenge.rw_qz0007_01 = PySem.Challenge.rw_qz0007_01 ∧ Mine.hd.heap_39 = Mine.hd.heap_39 := by k_fill; exact ⟨rfl, rfl⟩
section

theorem mNil {α : Type} {P : α → Prop} : ∀ q ∈ ([] : List α), P q := fun _ h => nomatch h
theorem mCons {α : Type} {P : α → Prop} {a : α} {l : List α} (h : P a) (t : ∀ q ∈ l, P q) : ∀ q ∈ a :: l, P q := List.forall_mem_cons.mpr ⟨h, t⟩
theorem mApp {α : Type} {P : α → Prop} {l m : List α} (h : ∀ q ∈ l, P q) (t : ∀ q ∈ m, P q) : ∀ q ∈ l ++ m, P q := fun q hq => (List.mem_append.mp hq).elim (h q) (t q)
/-- what a run may change: the addresses of W alone -/
noncomputable def Ch (W : List Addr) (h h' : Heap) : Prop := ∀ b o, h.get? b = some o → b ∉ W → h'.get? b = some o

theorem Ch.refl (W : List Addr) (h : Heap) : Ch W h h := fun _ _ e _ => e
theorem Ch.trans {W : List Addr} {h h' h'' : Heap} (a : Ch W h h') (b : Ch W h' h'') : Ch W h h'' :=
  fun x o e n => b x o (a x o e n) n
theorem Ch.mono {W W' : List Addr} {h h' : Heap} (a : Ch W h h') (s : ∀ x ∈ W, x ∈ W') : Ch W' h h' :=
  fun x o e n => a x o e fun m => n (s x m)
theorem Ch.stays {W : List Addr} {h₀ h h' : Heap} (a : Ch W h h') (st : h₀.StaysIn h) (n : ∀ x ∈ W, h₀.get? x = none) : h₀.StaysIn h' :=
  fun b o e => a b o (st b o e) fun m => by rw [n b m] at e; cases e
theorem Ch.fr {W : List Addr} {g h h' : Heap} {L : Addr} {m : Str → Option Value} (c : Ch W h h') (F : Fr g L h m) (n : ∀ x ∈ W, x ≠ L ∧ g.get? x = none) : Fr g L h' m := by
  obtain ⟨⟨oL, es, ep, hL, r⟩, keep, above⟩ := F
  exact ⟨⟨oL, es, ep, c _ _ hL fun q => (n _ q).1 rfl, r⟩, fun b o e => c _ _ (keep b o e) fun q => (by rw [(n _ q).2] at e; cases e), above⟩
theorem Ch.news0 {g h h' : Heap} {L : Addr} {news : List (Addr × Obj)} (c : Ch [] h h') (N : News g L h news) : News g L h' news :=
  fun q hq => ⟨c _ _ (N q hq).1 (by simp), (N q hq).2⟩
theorem Ch.fr0 {g h h' : Heap} {L : Addr} {m : Str → Option Value} (c : Ch [] h h') (F : Fr g L h m) : Fr g L h' m := c.fr F (by simp)
theorem new_ok {g h h' : Heap} {L a : Addr} {m : Str → Option Value} {o : Obj} {news : List (Addr × Obj)} (F : Fr g L h m) (hn : h.get? a = none) (ho : h'.get? a = some o) (N : News g L h' news) : News g L h' ((a, o) :: news) := by
  intro q hq
  rcases List.mem_cons.mp hq with rfl | hq
  · refine ⟨ho, ?_, ?_⟩
    · intro e
      obtain ⟨⟨oL, es, ep, hL, r⟩, keep, above⟩ := F
      dsimp only at e
      rw [← e, hn] at hL; cases hL
    · cases e : g.get? a with
      | none => rfl
      | some o' => rw [F.keep _ _ e] at hn; cases hn
  · exact N q hq
theorem Ch.news1 {g h h' : Heap} {L d : Addr} {o o' : Obj} {news : List (Addr × Obj)} {u : Obj → List (Addr × Obj)} (c : Ch [d] h h') (N : News g L h news) (U : UpdF d o news u) (ho : h'.get? d = some o') : News g L h' (u o') := by
  obtain ⟨pre, post, rfl, hg, a, b⟩ := U.split
  rw [hg o']
  have D := N (d, o) (by simp)
  intro q hq
  rcases List.mem_append.mp hq with hq | hq
  · have z := N q (List.mem_append_left _ hq)
    exact ⟨c _ _ z.1 (by simpa using a q hq), z.2⟩
  · rcases List.mem_cons.mp hq with rfl | hq
    · exact ⟨ho, D.2⟩
    · have z := N q (List.mem_append_right _ (.tail _ hq))
      exact ⟨c _ _ z.1 (by simpa using b q hq), z.2⟩
theorem UpdF.mem' {d : Addr} {o : Obj} {news : List (Addr × Obj)} {u : Obj → List (Addr × Obj)} (U : UpdF d o news u) : (d, o) ∈ news := by
  obtain ⟨pre, post, rfl, hg, a, b⟩ := U.split; simp
theorem Ch.news2 {g h h' : Heap} {L d e : Addr} {o o' r r' : Obj} {news : List (Addr × Obj)} {u : Obj → List (Addr × Obj)} {u' : Obj → List (Addr × Obj)} (c : Ch [d, e] h h') (N : News g L h news) (U : UpdF d o news u)
    (U' : UpdF e r (u o') u') (hne : d ≠ e) (hm : (e, r) ∈ news) (ho : h'.get? d = some o') (hr : h'.get? e = some r') : News g L h' (u' r') := by
  obtain ⟨pre, post, rfl, hg, a, b⟩ := U.split
  obtain ⟨pre', post', e1, hg', a', b'⟩ := U'.split
  rw [hg' r']
  rw [hg o'] at e1
  have D := N (d, o) (by simp)
  have R := N (e, r) hm
  have key : ∀ q ∈ pre' ++ (e, r) :: post', q.1 ≠ e → h'.get? q.1 = some q.2 ∧ q.1 ≠ L ∧ g.get? q.1 = none := fun q hq hqe => by
    rw [← e1] at hq
    rcases List.mem_append.mp hq with hq | hq
    · have z := N q (List.mem_append_left _ hq)
      exact ⟨c _ _ z.1 (by simp [a q hq, hqe]), z.2⟩
    · rcases List.mem_cons.mp hq with rfl | hq
      · exact ⟨ho, D.2⟩
      · have z := N q (List.mem_append_right _ (.tail _ hq))
        exact ⟨c _ _ z.1 (by simp [b q hq, hqe]), z.2⟩
  intro q hq
  rcases List.mem_append.mp hq with hq | hq
  · exact key q (List.mem_append_left _ hq) (a' q hq)
  · rcases List.mem_cons.mp hq with rfl | hq
    · exact ⟨hr, R.2⟩
    · exact key q (List.mem_append_right _ (.tail _ hq)) (b' q hq)

theorem newsSub {g h : Heap} {L : Addr} {l l' : List (Addr × Obj)} (N : News g L h l') (s : ∀ q ∈ l, q ∈ l') : News g L h l := fun q hq => N q (s q hq)
theorem frCongr {g h : Heap} {L : Addr} {m m' : Str → Option Value} (F : Fr g L h m) (e : ∀ y, m y = m' y) : Fr g L h m' := (funext e : m = m') ▸ F
theorem room0 {d b k L : Nat} (h : d + b < L) (e : k ≤ b) : d + k < L := Nat.lt_of_le_of_lt (Nat.add_le_add_left e d) h
theorem room1 {d b k L : Nat} (h : d + b < L) (e : 1 + k ≤ b) : d + 1 + k < L := by rw [Nat.add_assoc]; exact room0 h e
theorem room2 {d b k L : Nat} (h : d + b < L) (e : 2 + k ≤ b) : d + 1 + 1 + k < L := by rw [Nat.add_assoc, Nat.add_assoc]; exact room0 h (by omega)
theorem room3 {d b L : Nat} (h : d + b < L) : d < L := Nat.lt_of_le_of_lt (Nat.le_add_right d b) h
noncomputable def AllNe (d : Nat) : List (Addr × Obj) → Prop
  | [] => True
  | p :: r => @Ne Nat p.1 d ∧ AllNe d r
theorem allNe_of {d : Addr} : ∀ {l : List (Addr × Obj)}, (∀ p ∈ l, p.1 ≠ d) → AllNe d l
  | [], _ => trivial
  | p :: _, h => ⟨h p (.head _), allNe_of fun q hq => h q (.tail _ hq)⟩
theorem ledNil {h h₀ : Heap} : ∀ q ∈ ([] : List (Addr × Obj)), h.get? q.1 = some q.2 ∧ h₀.get? q.1 = none := fun _ h => nomatch h
theorem ledCons {h h₀ : Heap} {a : Addr} {o : Obj} {l : List (Addr × Obj)} (e : h.get? a = some o) (e0 : h₀.get? a = none) (r : ∀ q ∈ l, h.get? q.1 = some q.2 ∧ h₀.get? q.1 = none) : ∀ q ∈ (a, o) :: l, h.get? q.1 = some q.2 ∧ h₀.get? q.1 = none := fun q hq => by
  rcases List.mem_cons.mp hq with rfl | hq
  · exact ⟨e, e0⟩
  · exact r q hq
theorem cls_ne {h : Heap} {a b : Addr} {o o' : Obj} (e : h.get? a = some o) (e' : h.get? b = some o') (hc : o.cls ≠ o'.cls) : a ≠ b := by
  rintro rfl
  rw [e] at e'
  exact hc (congrArg Obj.cls (Option.some.inj e'))
theorem list_ne {h : Heap} {a b : Addr} {o : Obj} {items : Array Value} (e : h.IsList a items) (e' : h.get? b = some o) (hc : o.cls ≠ .type "list") : a ≠ b := by
  obtain ⟨o1, h1, h2, _⟩ := e
  exact cls_ne h1 e' (by rw [h2]; exact hc.symm)
/-- the ground: what the top has left, kept -/
structure Gd (w : World) (mg mb : Str → Option Value) (p : Program) (loose : List Str) (mean : ExcName → Option Value) (h : Heap) : Prop where
  X : (Mine.hd.heap_39 w.params).In h
  T : Top p loose mean mg mb h
  C : CodeHd h 225 221

theorem Gd.keeps {w : World} {mg mb : Str → Option Value} {p : Program} {loose : List Str} {mean : ExcName → Option Value} {h h' : Heap} (G : Gd w mg mb p loose mean h) (k : h.StaysIn h') : Gd w mg mb p loose mean h' :=
  ⟨G.X.keeps k, G.T.keeps k, G.C.keeps k⟩

section
variable {prog : Program} {w : World} {mg mb : Str → Option Value} {p : Program} {loose : List Str} {mean : ExcName → Option Value}
  {A : Around} {s : Shared} {h₀ : Heap} {R : Result → Shared → Prop} {name qual : Str} {params : Arguments} {body : List Stmt} {scope : Scope} {dV kV doc pm cdv ct oc : Value} {an od : Option Addr} {osl : Array (Option Value)} {f : Addr} {args : Args} {binds : List (Str × Value)}
  {cl : List (Str × Addr)}

/-- a call of a plain def: led the objects that it may change -/
theorem enter (led : List (Addr × Obj)) (G : Gd w mg mb p loose mean h₀) (st : h₀.StaysIn s.heap) (hl : ∀ q ∈ led, s.heap.get? q.1 = some q.2 ∧ h₀.get? q.1 = none)
    (hroom : A.depth < recursionLimit) {fo : Obj}
    (ho : s.heap.get? f = some fo) (hd : fo.data = .func (fnX name qual params body scope cl dV kV doc pm an cdv ct)) (hcd : s.heap.CodeRec cdv qual)
    (hbind : BindsTo s (fnX name qual params body scope cl dV kV doc pm an cdv ct) args binds) (hloc : ∀ y ∈ binds, scope.names.lookup y.1 = some .local)
    (h : ∀ g L' h₁, g = hideAll s.heap (led.map (·.1)) → h₀.StaysIn g → Gd w mg mb p loose mean g → Fr g L' h₁ (fun y => binds.reverse.lookup y) → News g L' h₁ led → Ch [] s.heap h₁ → (∀ q ∈ led, q.1 < L') →
      wpAny (model prog w) (A.deeper (envX qual scope L' f cdv cl)) (execs body (envX qual scope L' f cdv cl))
        (fun fl s' => R (.ok (.ret (match fl with | .ret v => v | _ => .none))) s') (fun _ _ => False)
        { s with heap := h₁, toks := s.toks + binds.length })
    (hcell : ∀ x ∈ scope.names, x.2 ≠ .cell) (hco : scope.isCoroutine = false := by rfl) (hgen : scope.isGenerator = false := by rfl) (hk : scope.kind = .function := by rfl) :
    codeAny (model prog w) A (.call (.ref f) args) R s := by
  have nm : ∀ b o, h₀.get? b = some o → b ∉ led.map (·.1) := fun b o e q => by
    obtain ⟨q', hq, rfl⟩ := List.mem_map.mp q
    rw [(hl q' hq).2] at e; cases e
  have stg : h₀.StaysIn (hideAll s.heap (led.map (·.1))) := fun b o e => hideAll_get _ (st b o e) (nm b o e)
  refine codeAny_call_def (fd := fnX name qual params body scope cl dV kV doc pm an cdv ct) (body := body) (binds := binds) hroom ho hd (G.T.nolimit.keeps st) hcd rfl hbind hcell hloc (fun h₁ hns hk₁ => ?_) hco hgen hk
  have F : Fr (hideAll s.heap (led.map (·.1))) s.heap.objs.size h₁ (fun y => binds.reverse.lookup y) := ⟨hns, fun b o e => hk₁ b o (of_hideAll _ e), Nat.le_of_eq (hideAll_size _ _)⟩
  exact wpAny_mono (h _ _ h₁ rfl stg (G.keeps stg) F (fun q hq => ⟨hk₁ _ _ (hl q hq).1, Nat.ne_of_lt (Heap.lt_size (hl q hq).1), hideAll_none _ (List.mem_map_of_mem hq)⟩) (fun b o e _ => hk₁ b o e) (fun q hq => Heap.lt_size (hl q hq).1)) (fun _ _ x => x) (fun _ _ x => x.elim)

/-- the same by the written part -/
theorem enterK (led : List (Addr × Obj)) (G : Gd w mg mb p loose mean h₀) (st : h₀.StaysIn s.heap) (hl : ∀ q ∈ led, s.heap.get? q.1 = some q.2 ∧ h₀.get? q.1 = none)
    (hroom : A.depth < recursionLimit)
    (ho : (Mine.hd.heap_39 w.params).lookup f = some ⟨oc, od, .func (fnX name qual params body scope [] dV kV doc pm an cdv ct), osl⟩) (hcd : codeIn (Mine.hd.heap_39 w.params) cdv qual = true)
    (hbind : BindsTo s (fnX name qual params body scope [] dV kV doc pm an cdv ct) args binds) (hloc : ∀ y ∈ binds, scope.names.lookup y.1 = some .local)
    (h : ∀ g L' h₁, g = hideAll s.heap (led.map (·.1)) → h₀.StaysIn g → Gd w mg mb p loose mean g → Fr g L' h₁ (fun y => binds.reverse.lookup y) → News g L' h₁ led → Ch [] s.heap h₁ → (∀ q ∈ led, q.1 < L') →
      wpAny (model prog w) (A.deeper (envX qual scope L' f cdv [])) (execs body (envX qual scope L' f cdv []))
        (fun fl s' => R (.ok (.ret (match fl with | .ret v => v | _ => .none))) s') (fun _ _ => False)
        { s with heap := h₁, toks := s.toks + binds.length })
    (hcell : ∀ x ∈ scope.names, x.2 ≠ .cell) (hco : scope.isCoroutine = false := by rfl) (hgen : scope.isGenerator = false := by rfl) (hk : scope.kind = .function := by rfl) :
    codeAny (model prog w) A (.call (.ref f) args) R s :=
  enter led G st hl hroom ((G.X.keeps st) _ _ ho) rfl (codeRec_of (G.X.keeps st) hcd) hbind hloc h hcell hco hgen hk

/-- a call of a def whose locals are captured -/
theorem enterC (led : List (Addr × Obj)) (G : Gd w mg mb p loose mean h₀) (st : h₀.StaysIn s.heap) (hl : ∀ q ∈ led, s.heap.get? q.1 = some q.2 ∧ h₀.get? q.1 = none)
    (hroom : A.depth < recursionLimit)
    (ho : (Mine.hd.heap_39 w.params).lookup f = some ⟨oc, od, .func (fnX name qual params body scope [] dV kV doc pm an cdv ct), osl⟩) (hcd : codeIn (Mine.hd.heap_39 w.params) cdv qual = true)
    (hbind : BindsTo s (fnX name qual params body scope [] dV kV doc pm an cdv ct) args binds)
    (hkind : (binds.all fun y => scope.names.lookup y.1 == some .local || scope.names.lookup y.1 == some .cell) = true)
    (hnd : ((cellsFrom 0 scope.names []).map (·.1)).Nodup)
    (h : ∀ g L' h₁ tk cells, g = hideAll s.heap (led.map (·.1)) → h₀.StaysIn g → Gd w mg mb p loose mean g → Fr g L' h₁ (bindL (envOfC qual scope L' f cdv).kindOf binds fun _ => none) → News g L' h₁ (cells ++ led) →
      CellsAre (bindC (envOfC qual scope L' f cdv).kindOf binds fun _ => none) (cellsFrom (L' + 1) scope.names []) cells → Ch [] s.heap h₁ → (∀ q ∈ led, q.1 < L') →
      wpAny (model prog w) (A.deeper (envOfC qual scope L' f cdv)) (execs body (envOfC qual scope L' f cdv))
        (fun fl s' => R (.ok (.ret (match fl with | .ret v => v | _ => .none))) s') (fun _ _ => False)
        { s with heap := h₁, toks := tk })
    (hco : scope.isCoroutine = false := by rfl) (hgen : scope.isGenerator = false := by rfl) (hk : scope.kind = .function := by rfl) :
    codeAny (model prog w) A (.call (.ref f) args) R s := by
  have nm : ∀ b o, h₀.get? b = some o → b ∉ led.map (·.1) := fun b o e q => by
    obtain ⟨q', hq, rfl⟩ := List.mem_map.mp q
    rw [(hl q' hq).2] at e; cases e
  have stg : h₀.StaysIn (hideAll s.heap (led.map (·.1))) := fun b o e => hideAll_get _ (st b o e) (nm b o e)
  refine codeAny_call_function (fd := fnX name qual params body scope [] dV kV doc pm an cdv ct) hroom ((G.X.keeps st) _ _ ho) rfl hco hgen rfl (codeRec_of (G.X.keeps st) hcd) (hbind _ _ _ _ ?_)
  refine wpAny_newFunctionEnv_cells hk (kindsX hkind _) fun env' he s' x => ?_
  subst he
  refine ⟨(G.T.nolimit.keeps st).keeps x.toInCall.keep, codeAny_func ?_⟩
  obtain ⟨h₁, tk, rfl, _⟩ := x.done
  have hk₁ := x.toInCall.keep
  obtain ⟨cells, NC, Y⟩ := Cl.news (h₀ := s.heap) (Nat.le_refl _) fun n c hm => ⟨x.cell n c (lookup_of_mem_nodup (cellsFrom_names scope.names 0 (s.heap.objs.size + 1) [] [] rfl ▸ hnd) hm), x.above n c hm⟩
  refine wpAny_mono (h _ s.heap.objs.size h₁ tk cells rfl stg (G.keeps stg) ⟨x.toInCall.ns, fun b o e => hk₁ b o (of_hideAll _ e), Nat.le_of_eq (hideAll_size _ _)⟩ (fun q hq => ?_) Y (fun b o e _ => hk₁ b o e) (fun q hq => Heap.lt_size (hl q hq).1)) (fun _ _ x => x) (fun _ _ x => x.elim)
  rcases List.mem_append.mp hq with hq | hq
  · refine ⟨(NC q hq).1, (NC q hq).2.1, ?_⟩
    cases z : (hideAll s.heap (led.map (·.1))).get? q.1 with
    | none => rfl
    | some o => have := of_hideAll _ z; rw [(NC q hq).2.2] at this; cases this
  · exact ⟨hk₁ _ _ (hl q hq).1, Nat.ne_of_lt (Heap.lt_size (hl q hq).1), hideAll_none _ (List.mem_map_of_mem hq)⟩

/-- at the end of a call: what has changed -/
theorem left {led : List (Addr × Obj)} {g h h' : Heap} {L : Addr} {m : Str → Option Value} (e : g = hideAll h (led.map (·.1))) (F : Fr g L h' m) : Ch (led.map (·.1)) h h' :=
  fun b o q n => F.keep b o (by rw [e]; exact hideAll_get _ q n)
/-- a made object is new to the heap before the call -/
theorem left_new {led : List (Addr × Obj)} {g h h' : Heap} {L a : Addr} {o : Obj} {news : List (Addr × Obj)} (e : g = hideAll h (led.map (·.1))) (N : News g L h' news) (hm : (a, o) ∈ news) (hne : ∀ q ∈ led, q.1 ≠ a) : h.get? a = none := by
  cases q : h.get? a with
  | none => rfl
  | some o' =>
    have := (N _ hm).2.2
    rw [e, hideAll_get _ q (by simpa using fun x y => hne (a, x) y rfl)] at this
    cases this
/-- what stood before the call and is not to be changed -/
theorem under_get {led : List (Addr × Obj)} {g h : Heap} {a : Addr} {o : Obj} (e : g = hideAll h (led.map (·.1))) (q : h.get? a = some o) (n : ∀ q ∈ led, q.1 ≠ a) : g.get? a = some o := by
  rw [e]; exact hideAll_get _ q (by simpa using fun x y => n (a, x) y rfl)
end

/-- a list of texts -/
noncomputable def Texts (h : Heap) (a : Addr) (xs : List Str) : Prop := ∃ vs, h.IsList a vs.toArray ∧ StrsAre vs xs
/-- a list of ints -/
noncomputable def Ints (h : Heap) (a : Addr) (xs : List Int) : Prop := ∃ vs, h.IsList a vs.toArray ∧ IntsAre vs xs
/-- lists of texts -/
inductive TextsAll (h : Heap) : List Value → List (List Str) → Prop
  | nil : TextsAll h [] []
  | cons {a : Addr} {xs : List Str} {vs : List Value} {r : List (List Str)} : Texts h a xs → TextsAll h vs r → TextsAll h (.ref a :: vs) (xs :: r)
/-- a list of lists of texts -/
noncomputable def Rows (h : Heap) (a : Addr) (rs : List (List Str)) : Prop := ∃ vs, h.IsList a vs.toArray ∧ TextsAll h vs rs

theorem isList_under {led : List (Addr × Obj)} {g h : Heap} {a : Addr} {items : Array Value} (e : g = hideAll h (led.map (·.1))) (x : h.IsList a items) (n : ∀ q ∈ led, q.1 ≠ a) : g.IsList a items := by
  obtain ⟨o, ho, r⟩ := x
  exact ⟨o, under_get e ho n, r⟩
theorem isList_ch {W : List Addr} {h h' : Heap} {a : Addr} {items : Array Value} (c : Ch W h h') (x : h.IsList a items) (n : a ∉ W) : h'.IsList a items := by
  obtain ⟨o, ho, r⟩ := x
  exact ⟨o, c _ _ ho n, r⟩
theorem Texts.ch {W : List Addr} {h h' : Heap} {a : Addr} {xs : List Str} (c : Ch W h h') (x : Texts h a xs) (n : a ∉ W) : Texts h' a xs :=
  let ⟨vs, y, z⟩ := x; ⟨vs, isList_ch c y n, z⟩

section
variable {prog : Program} {w : World} {A : Around} {E : Value → Shared → Prop} {s : Shared} {g : Heap} {L d : Addr} {m : Str → Option Value} {news : List (Addr × Obj)} {u : Obj → List (Addr × Obj)} {o : Obj} {kvs : List (Str × Value)}
/-- an item of a dict of the ledger at a text -/
theorem dictItem {value slice : Expr} {x : Str} {t : Tok} {v : Value} {Q : Value → Shared → Prop} (N : News g L s.heap news) (hm : (d, o) ∈ news) (hd : o.IsDictOf (strKind prog w) kvs) (hv : valueAt kvs x = some v)
    (h : Q v { s with toks := s.toks + 1 })
    (hs : subscripted slice false (.ref d) (.str x t) = operate [.ref d, .str x t] (getItem (.ref d) (.str x t)) := by with_unfolding_all rfl) :
    wpAny (model prog w) A (subscriptTail value slice (.ref d) (.str x t)) Q E s :=
  have hmp : s.heap.MapOf (strKind prog w) d (valueAt kvs) := Heap.DictOf.mapOf (Heap.dictOf_iff.mpr ⟨o, N.get hm, hd⟩)
  tail_any hmp.typeIs slot_dict_getitem.lookup (wpAny_getItem_of (strKind_is prog w x t) hmp hv h) hs

theorem dictPut {x : Str} {t : Tok} {v : Value} {Q : Unit → Shared → Prop} (F : Fr g L s.heap m) (N : News g L s.heap news) (U : UpdF d o news u) (hd : o.IsDictOf (strKind prog w) kvs) (hz : kvs.length ≤ 1000)
    (h : ∀ h' o', Fr g L h' m → News g L h' (u o') → o'.IsDictOf (strKind prog w) (stored kvs x v) → Q () { s with heap := h', toks := s.toks + 1 }) :
    wpAny (model prog w) A (setItem (.ref d) (.str x t) v) Q E s := by
  obtain ⟨pre, post, rfl, hg, a, b⟩ := U.split
  have D := N (d, o) (by simp)
  refine wpAny_setItem_pairs (hsz := by rw [sizeLine_eq]; omega) (strKind_is prog w x t) (Heap.dictOf_iff.mpr ⟨o, D.1, hd⟩) fun h' hm' hs => ?_
  obtain ⟨o', ho', hd'⟩ := Heap.dictOf_iff.mp hm'
  exact h h' o' (F.change hs D.2.1 D.2.2) (hg o' ▸ N.setAt a b hs ho') hd'
end
end
section
/-- a goal at which the walk stops -/
structure Stop (P : Prop) : Prop where
  it : P
section
variable {prog : Program} {w : World} {A : Around} {E : Value → Shared → Prop} {s : Shared} {g : Heap} {L : Addr} {m : Str → Option Value} {env : Env} {M : Model}

/-- one test of a comprehension -/
theorem ifs1 {c : Expr} {cenv : Env} {Q : Bool → Shared → Prop} (h : wpAny M A (isTrue c cenv (eval c cenv)) Q E s) :
    wpAny M A (forIn [c] true fun c r => if r = true then do let ok ← isTrue c cenv (eval c cenv); pure (ForInStep.yield ok) else pure (ForInStep.yield r)) Q E s := by
  rw [List.forIn_cons]
  simp only [if_true]
  exact wpAny_bind (wpAny_bind (wpAny_mono h (fun ok s₁ h₁ => wpAny_pure (by simp only [List.forIn_nil]; exact wpAny_pure h₁)) fun _ _ e => e))
inductive CompP (prog : Program) (w : World) (A : Around) (env : Env) (g : Heap) (L : Addr) (m : Str → Option Value) (elt : Expr) (x : Str) (ifs : List Expr) (scope : Scope) (cl : List (Str × Addr)) (Q : Value → Shared → Prop) (pz : Value → Bool) (Rl : Value → Value → Prop) (xv : Value) (s₁ : Shared) : Prop
  | mk (ax : Addr) (vs : List Value) (news : List (Addr × Obj)) (_ : xv = .ref ax) (_ : s₁.heap.IsList ax vs.toArray) (_ : vs.length ≤ sizeLine) (_ : Fr g L s₁.heap m) (_ : News g L s₁.heap news) (_ : ∀ C v s₂ m₂ E', v ∈ vs → s₂.heap.Ns (compEnvC scope cl C env).locals m₂ → m₂ x = some v → (∀ b o, s₁.heap.get? b = some o → s₂.heap.get? b = some o) →
        wpAny (model prog w) A (forIn ifs true fun c r => if r = true then do let ok ← isTrue c (compEnvC scope cl C env) (eval c (compEnvC scope cl C env)); pure (ForInStep.yield ok) else pure (ForInStep.yield r))
          (fun ok s₃ => ok = pz v ∧ Keeps s₂ s₃) E' s₂) (_ : ∀ C v s₂ m₂ E', v ∈ vs → pz v = true → s₂.heap.Ns (compEnvC scope cl C env).locals m₂ → m₂ x = some v → (∀ b o, s₁.heap.get? b = some o → s₂.heap.get? b = some o) →
        wpAny (model prog w) A (eval elt (compEnvC scope cl C env)) (fun y s₃ => Rl v y ∧ Keeps s₂ s₃) E' s₂) (_ : ∀ D ys n h' tk, Fr g L h' m → News g L h' ((D, listOf ys.toArray n) :: news) → (∀ q ∈ news, q.1 ≠ D) → (∀ b o, s₁.heap.get? b = some o → h'.get? b = some o) → Paired Rl (vs.filter pz) ys → Q (.ref D) { s₁ with heap := h', toks := tk }) : CompP prog w A env g L m elt x ifs scope cl Q pz Rl xv s₁
theorem ifs0 {cenv : Env} {Q : Bool → Shared → Prop} (h : Q true s) :
    wpAny M A (forIn [] true fun c r => if r = true then do let ok ← isTrue c cenv (eval c cenv); pure (ForInStep.yield ok) else pure (ForInStep.yield r)) Q E s := by
  rw [List.forIn_nil]; exact wpAny_pure h

/-- a comprehension whose tests and elements change nothing -/
theorem compPure {elt iter : Expr} {x : Str} {px : Pos} {ifs : List Expr} {scope : Scope} {cl : List (Str × Addr)} {pos : Pos} {Q : Value → Shared → Prop} (F₀ : Fr g L s.heap m) (pz : Value → Bool) (Rl : Value → Value → Prop)
    (hh : A.handled = none)
    (h : wpAny (model prog w) A (eval iter env) (fun xv s₁ => Stop (CompP prog w A env g L m elt x ifs scope cl Q pz Rl xv s₁)) E s)
    (hs : ∀ x, foldedSetIterable iter env x = pure x := by intro _; rfl) (hclos : closureFor scope env = pure cl := by with_unfolding_all rfl) (hcell : ∀ y ∈ scope.names, y.2 ≠ .cell := by decide) (hkind : scope.kind = .function := by rfl)
    (hnames : ∀ y ∈ scope.names, y.2 = .local → scope.names.lookup y.1 = some .local := by decide) (hx : scope.names.lookup x = some .local := by rfl) :
    wpAny (model prog w) A (eval (.ListComp elt [⟨.Name x px, iter, ifs, 0⟩] scope pos) env) Q E s := by
  refine wpAny_ListComp_free pz Rl hclos hcell hkind hnames hx (wpAny_mono h (fun xv s₁ h₁ => ?_) fun _ _ e => e) hs
  obtain ⟨ax, vs, news, rfl, hl, hsz, F, N, htests, helt, hQ⟩ := h₁.it
  have hlt : ax < s₁.heap.objs.size := by obtain ⟨_, e, _⟩ := hl; exact Heap.lt_size e
  have up : ∀ (s₃ : Shared), (∀ b o, b ∉ [s₁.heap.objs.size] → (s₁.heap.push { cls := .type "list_iterator", data := .fields #[.ref ax, .int 0 0] }).get? b = some o → s₃.heap.get? b = some o) → ∀ b o, s₁.heap.get? b = some o → s₃.heap.get? b = some o :=
    fun s₃ hk b o e => hk b o (fun hm => by rw [List.mem_singleton.mp hm] at e; exact Nat.lt_irrefl _ (Heap.lt_size e)) (Heap.get?_push_of_some _ e)
  refine wpAny_pyIter_list hl ⟨s₁.heap.objs.size, [s₁.heap.objs.size, ax], [s₁.heap.objs.size], vs.toArray.size, _, _, rfl, Walks.list hh _ _ (Nat.ne_of_lt hlt) vs.toArray, (by rw [List.size_toArray]; exact hsz), ⟨⟨_, Heap.get?_push_size _ rfl, rfl, rfl⟩, hl.push _⟩, ?_, ⟨?_, ?_⟩, ?_⟩
  · intro b hb
    show b < (s₁.heap.push _).objs.size
    rw [Heap.size_push]
    rcases List.mem_cons.mp hb with rfl | hb
    · exact Nat.lt_succ_self _
    · rw [List.mem_singleton.mp hb]; exact Nat.lt_succ_of_lt hlt
  · intro C i v s₃ m₃ E' hC hP hn hm hk _
    exact htests C v s₃ m₃ E' (by simpa using Array.mem_of_getElem? hP) hn hm (up s₃ hk)
  · intro C i v s₃ m₃ E' hC hP hp hn hm hk _
    exact helt C v s₃ m₃ E' (by simpa using Array.mem_of_getElem? hP) hp hn hm (up s₃ hk)
  · intro D h' tk ys vs' hnew hlD hplD hlen hP hF hk
    have e : vs' = vs := by simpa using list_of_places hlen hP
    subst e
    have keep : ∀ b o, s₁.heap.get? b = some o → h'.get? b = some o := up { s₁ with heap := h' } hk
    have hD : s₁.heap.get? D = none := by
      cases e : s₁.heap.get? D with
      | none => rfl
      | some o' => rw [Heap.get?_push_of_some _ e] at hnew; cases hnew
    obtain ⟨n, hn⟩ := hplD
    refine hQ D ys.toList n h' tk (F.keeps keep) (new_ok F hD (by rw [Array.toArray_toList]; exact hn) (N.grown keep)) (fun q hq e => ?_) keep hF
    have := (N q hq).1
    rw [e, hD] at this; cases this

theorem pairedEq : ∀ {l ys : List Value}, Paired (fun v y => v = y) l ys → l = ys
  | _, _, .nil => rfl
  | _, _, .cons h t => by rw [h, pairedEq t]

noncomputable def onStr (pz : Str → Bool) : Value → Bool
  | .str y _ => pz y
  | _ => false
theorem strs_filter (pz : Str → Bool) : ∀ {vs : List Value} {xs : List Str}, StrsAre vs xs → StrsAre (vs.filter (onStr pz)) (xs.filter pz)
  | _, _, .nil => .nil
  | _, _, .cons y t h => by
    cases hp : pz y with
    | true => simp only [List.filter_cons, onStr, hp, if_true]; exact .cons y t (strs_filter pz h)
    | false => simp only [List.filter_cons, onStr, hp, Bool.false_eq_true, if_false]; exact strs_filter pz h
theorem strs_mem : ∀ {vs : List Value} {xs : List Str} {v : Value}, StrsAre vs xs → v ∈ vs → ∃ y t, v = .str y t ∧ y ∈ xs
  | _, _, _, .cons y t h, hm => by
    rcases List.mem_cons.mp hm with rfl | hm
    · exact ⟨y, t, rfl, .head _⟩
    · obtain ⟨z, u, e, hz⟩ := strs_mem h hm; exact ⟨z, u, e, .tail _ hz⟩
theorem strs_len : ∀ {vs : List Value} {xs : List Str}, StrsAre vs xs → vs.length = xs.length
  | _, _, .nil => rfl
  | _, _, .cons _ _ h => by simp [strs_len h]
theorem strs_append : ∀ {vs us : List Value} {xs ys : List Str}, StrsAre vs xs → StrsAre us ys → StrsAre (vs ++ us) (xs ++ ys)
  | _, _, _, _, .nil, k => k
  | _, _, _, _, .cons y t h, k => .cons y t (strs_append h k)
theorem strs_take : ∀ {vs : List Value} {xs : List Str} (n : Nat), StrsAre vs xs → StrsAre (vs.take n) (xs.take n)
  | _, _, 0, _ => by simp; exact .nil
  | _, _, _ + 1, .nil => by simp; exact .nil
  | _, _, n + 1, .cons y t h => by simp; exact .cons y t (strs_take n h)
inductive CompT (prog : Program) (w : World) (A : Around) (env : Env) (g : Heap) (L : Addr) (m : Str → Option Value) (c : Expr) (x : Str) (scope : Scope) (cl : List (Str × Addr)) (Q : Value → Shared → Prop) (pz : Str → Bool) (xv : Value) (s₁ : Shared) : Prop
  | mk (ax : Addr) (vs : List Value) (xs : List Str) (news : List (Addr × Obj)) (_ : xv = .ref ax) (_ : s₁.heap.IsList ax vs.toArray) (_ : StrsAre vs xs) (_ : xs.length ≤ 1000) (_ : Fr g L s₁.heap m) (_ : News g L s₁.heap news) (_ : ∀ C y t s₂ m₂ E', y ∈ xs → s₂.heap.Ns (compEnvC scope cl C env).locals m₂ → m₂ x = some (.str y t) → (∀ b o, s₁.heap.get? b = some o → s₂.heap.get? b = some o) →
        wpAny (model prog w) A (isTrue c (compEnvC scope cl C env) (eval c (compEnvC scope cl C env))) (fun ok s₃ => ok = pz y ∧ Keeps s₂ s₃) E' s₂) (_ : ∀ D ys n h' tk, Fr g L h' m → News g L h' ((D, listOf ys.toArray n) :: news) → (∀ q ∈ news, q.1 ≠ D) → (∀ b o, s₁.heap.get? b = some o → h'.get? b = some o) → StrsAre ys (xs.filter pz) → Q (.ref D) { s₁ with heap := h', toks := tk }) : CompT prog w A env g L m c x scope cl Q pz xv s₁
theorem strs_drop : ∀ {vs : List Value} {xs : List Str} (n : Nat), StrsAre vs xs → StrsAre (vs.drop n) (xs.drop n)
  | _, _, 0, h => by simpa using h
  | _, _, _ + 1, .nil => by simp; exact .nil
  | _, _, n + 1, .cons y t h => by simpa using strs_drop n h

/-- [x for x in iter if c] over a list of texts -/
theorem compTexts {iter c : Expr} {x : Str} {px px' : Pos} {scope : Scope} {cl : List (Str × Addr)} {pos : Pos} {Q : Value → Shared → Prop} (F₀ : Fr g L s.heap m) (pz : Str → Bool)
    (hh : A.handled = none)
    (h : wpAny (model prog w) A (eval iter env) (fun xv s₁ => Stop (CompT prog w A env g L m c x scope cl Q pz xv s₁)) E s)
    (hs : ∀ x, foldedSetIterable iter env x = pure x := by intro _; rfl) (hclos : closureFor scope env = pure cl := by with_unfolding_all rfl) (hcell : ∀ y ∈ scope.names, y.2 ≠ .cell := by decide) (hkind : scope.kind = .function := by rfl)
    (hnames : ∀ y ∈ scope.names, y.2 = .local → scope.names.lookup y.1 = some .local := by decide) (hx : scope.names.lookup x = some .local := by rfl) (hd : (x == ("__debug__" : Str)) = false := by decide) :
    wpAny (model prog w) A (eval (.ListComp (.Name x px') [⟨.Name x px, iter, [c], 0⟩] scope pos) env) Q E s := by
  refine compPure F₀ (onStr pz) (fun v y => v = y) hh (wpAny_mono h (fun xv s₁ h₁ => ?_) fun _ _ e => e) hs hclos hcell hkind hnames hx
  obtain ⟨ax, vs, xs, news, rfl, hl, hi, hsz, F, N, htest, hQ⟩ := h₁.it
  refine Stop.mk ⟨ax, vs, news, rfl, hl, by rw [strs_len hi, sizeLine_eq]; omega, F, N, ?_, ?_, ?_⟩
  · intro C v s₂ m₂ E' hv hn hm hk
    obtain ⟨y, t, rfl, hy⟩ := strs_mem hi hv
    exact ifs1 (htest C y t s₂ m₂ E' hy hn hm hk)
  · intro C v s₂ m₂ E' hv hp hn hm hk
    exact wpAny_Name (wpAny_loadName_local (env := compEnvC scope cl C env) (by simp [compEnvC, relabel, hkind]) (lookup_relabel_local hx) hn hm ⟨rfl, _, _, rfl, fun _ _ e => e⟩) hd
  · intro D ys n h' tk F' N' hne hk hp
    have e := pairedEq hp
    subst e
    exact hQ D _ n h' tk F' N' hne hk (strs_filter pz hi)

/-- the test «x in lot» of a comprehension, lot a captured name -/
theorem testIn {x y : Str} {p1 p2 p3 : Pos} {cenv : Env} {c la : Addr} {m₂ : Str → Option Value} {v : Str} {t : Tok} {us : List Value} {ys : List Str} {whole : Sem Value} {Q : Bool → Shared → Prop}
    (hn : s.heap.Ns cenv.locals m₂) (hm : m₂ x = some (.str v t)) (hc : s.heap.IsCell c (some (.ref la))) (hl : s.heap.IsList la us.toArray) (hi : StrsAre us ys) (hQ : ∀ tk, Q (ys.any (· == v)) { s with toks := tk })
    (hk : cenv.scope.kind = .function := by rfl) (hx : cenv.kindOf x = some .local := by rfl) (hy : cenv.kindOf y = some .cell := by rfl) (hcl : cenv.cells.lookup y = some c := by rfl) (h1 : (x == ("__debug__" : Str)) = false := by decide) (h2 : (y == ("__debug__" : Str)) = false := by decide)
    (hmk : behindInMarks .In (.Name y p2) = false := by with_unfolding_all rfl) :
    wpAny (model prog w) A (isTrue (.Compare (.Name x p1) [.In] [.Name y p2] p3) cenv whole) Q E s := by
  refine wpAny_isTrue_Compare1 ?_ hmk
  refine wpAny_Name (wpAny_loadName_local hk hx hn hm ?_) h1
  refine wpAny_Name (wpAny_loadName_cell hk hy hcl hc ?_) h2
  exact in_list_strs hl hi (wpAny_truthy_bool (hQ s.toks))
theorem testNotIn {x y : Str} {p1 p2 p3 : Pos} {cenv : Env} {c la : Addr} {m₂ : Str → Option Value} {v : Str} {t : Tok} {us : List Value} {ys : List Str} {whole : Sem Value} {Q : Bool → Shared → Prop}
    (hn : s.heap.Ns cenv.locals m₂) (hm : m₂ x = some (.str v t)) (hc : s.heap.IsCell c (some (.ref la))) (hl : s.heap.IsList la us.toArray) (hi : StrsAre us ys) (hQ : ∀ tk, Q (!(ys.any (· == v))) { s with toks := tk })
    (hk : cenv.scope.kind = .function := by rfl) (hx : cenv.kindOf x = some .local := by rfl) (hy : cenv.kindOf y = some .cell := by rfl) (hcl : cenv.cells.lookup y = some c := by rfl) (h1 : (x == ("__debug__" : Str)) = false := by decide) (h2 : (y == ("__debug__" : Str)) = false := by decide)
    (hmk : behindInMarks .NotIn (.Name y p2) = false := by with_unfolding_all rfl) :
    wpAny (model prog w) A (isTrue (.Compare (.Name x p1) [.NotIn] [.Name y p2] p3) cenv whole) Q E s := by
  refine wpAny_isTrue_Compare1 ?_ hmk
  refine wpAny_Name (wpAny_loadName_local hk hx hn hm ?_) h1
  refine wpAny_Name (wpAny_loadName_cell hk hy hcl hc ?_) h2
  exact notin_list_strs hl hi (wpAny_truthy_bool (hQ s.toks))
end

section
open PySem.SeqAt
theorem strs_at {vs : List Value} {xs : List Str} (hx : StrsAre vs xs) : ∀ (j : Nat) (h : j < vs.length), ∃ y t, vs[j] = .str y t ∧ xs[j]? = some y := by
  induction hx with
  | nil => intro j h; exact absurd h (Nat.not_lt_zero _)
  | cons y t r ih =>
    intro j h
    cases j with
    | zero => exact ⟨y, t, rfl, rfl⟩
    | succ j =>
      obtain ⟨z, u, e1, e2⟩ := ih j (by simpa using h)
      exact ⟨z, u, by simpa using e1, by simpa using e2⟩
theorem all_range_eq {α : Type} [DecidableEq α] (xs ys : List α) (h : xs.length = ys.length) : (List.range xs.length).all (fun j => decide (xs[j]? = ys[j]?)) = decide (xs = ys) := by
  rw [Bool.eq_iff_iff]
  simp only [List.all_eq_true, List.mem_range, decide_eq_true_eq]
  constructor
  · intro k
    apply List.ext_getElem? 
    intro i
    by_cases hi : i < xs.length
    · exact k i hi
    · rw [List.getElem?_eq_none (by omega), List.getElem?_eq_none (by omega)]
  · rintro rfl j _; rfl
theorem texts_eqAt {A : Around} {s : Shared} {vs us : List Value} {xs ys : List Str} (hx : StrsAre vs xs) (hy : StrsAre us ys) :
    ∀ j (h1 : j < vs.toArray.size) (h2 : j < us.toArray.size), EqAt A s vs.toArray[j] us.toArray[j] (decide (xs[j]? = ys[j]?)) := by
  intro j h1 h2
  obtain ⟨y, t, e1, e2⟩ := strs_at hx j (by simpa using h1)
  obtain ⟨z, u, e3, e4⟩ := strs_at hy j (by simpa using h2)
  have e1' : vs.toArray[j] = .str y t := by simpa using e1
  have e3' : us.toArray[j] = .str z u := by simpa using e3
  rw [e1', e3', e2, e4]
  have := (eqGives_str y z t u).at A s
  have q : (decide (some y = some z)) = (y == z) := by
    by_cases h : y = z
    · subst h; simp
    · simp [h]
  rw [q]; exact this
variable {prog : Program} {w : World} {A : Around} {E : Value → Shared → Prop} {s : Shared}
theorem eq_texts {a b : Addr} {vs us : List Value} {xs ys : List Str} {Q : Value → Shared → Prop} (ha : s.heap.IsList a vs.toArray) (hx : StrsAre vs xs) (hb : s.heap.IsList b us.toArray) (hy : StrsAre us ys) (hu : A.units < cLine)
    (h : Q (.bool (decide (xs = ys))) s) : wpAny (model prog w) A (compareOp .Eq (.ref a) (.ref b)) Q E s := by
  by_cases hl : xs.length = ys.length
  · refine eq_listAt (e := fun j => decide (xs[j]? = ys[j]?)) ha hb (by simp [strs_len hx, strs_len hy, hl]) hu (texts_eqAt hx hy) ?_
    rw [show vs.toArray.size = xs.length by simp [strs_len hx], all_range_eq xs ys hl]; exact h
  · refine eq_list_lengthsAt ha hb (by simp [strs_len hx, strs_len hy, hl]) hu ?_
    rw [decide_eq_false (fun e => hl (by rw [e]))] at h; exact h
theorem ne_texts {a b : Addr} {vs us : List Value} {xs ys : List Str} {Q : Value → Shared → Prop} (ha : s.heap.IsList a vs.toArray) (hx : StrsAre vs xs) (hb : s.heap.IsList b us.toArray) (hy : StrsAre us ys) (hu : A.units < cLine)
    (h : Q (.bool (!decide (xs = ys))) s) : wpAny (model prog w) A (compareOp .NotEq (.ref a) (.ref b)) Q E s := by
  by_cases hl : xs.length = ys.length
  · refine RcNeAt.lists (e := fun j => decide (xs[j]? = ys[j]?)) ha hb (by simp [strs_len hx, strs_len hy, hl]) hu (texts_eqAt hx hy) prog w E Q ?_
    rw [show vs.toArray.size = xs.length by simp [strs_len hx], all_range_eq xs ys hl]; exact h
  · refine RcNeAt.lists_lengths ha hb (by simp [strs_len hx, strs_len hy, hl]) hu prog w E Q ?_
    rw [decide_eq_false (fun e => hl (by rw [e]))] at h; exact h
end
end
section
section
variable {prog : Program} {w : World} {A : Around} {E : Value → Shared → Prop} {s : Shared} {env : Env} {h₀ : Heap} {x : Str} {body : List Stmt} {Q : Flow → Shared → Prop}

theorem ownOff0 {p : Addr × Obj} : OwnOff [p] [] := fun _ _ _ h => nomatch h
theorem ownOff1 {I D : Addr} {o : Obj} (h : I ≠ D) {l : List Addr} (r : OwnOff [(I, o)] l) : OwnOff [(I, o)] (D :: l) := fun p hp b hb => by
  rcases List.mem_cons.mp hb with rfl | hb
  · rw [List.mem_singleton.mp hp]; exact h
  · exact r p hp b hb
inductive TurnI (h₀ : Heap) (L : Addr) (J : (Str → Option Value) → List (Addr × Obj) → Prop) (own : List (Addr × Obj)) (s₁ s₂ : Shared) : Prop
  | mk (h' : Heap) (tk : Nat) (m' : Str → Option Value) (nx : List (Addr × Obj)) (_ : s₂ = { s₁ with heap := h', toks := tk }) (_ : Fr h₀ L h' m') (_ : News h₀ L h' (nx ++ own)) (_ : OwnOff own (nx.map (·.1))) (_ : J m' nx) : TurnI h₀ L J own s₁ s₂
/-- a turn's end: the loop goes on -/
structure TurnE (h₀ : Heap) (L : Addr) (J : (Str → Option Value) → List (Addr × Obj) → Prop) (own : List (Addr × Obj)) (s₁ s₂ : Shared) : Prop where
  it : TurnI h₀ L J own s₁ s₂
noncomputable def TurnP (h₀ : Heap) (L : Addr) (J : (Str → Option Value) → List (Addr × Obj) → Prop) (own : List (Addr × Obj)) (s₁ : Shared) (Q : Flow → Shared → Prop) (f : Flow) (s₂ : Shared) : Prop :=
  match f with
  | .ret v => Q (.ret v) s₂
  | .brk => Q .next s₂
  | _ => TurnE h₀ L J own s₁ s₂

theorem turnOne {L D I : Addr} {J : (Str → Option Value) → List (Addr × Obj) → Prop} {o oI : Obj} {led : List (Addr × Obj)} {m' : Str → Option Value} {s₁ : Shared} {h' : Heap} {tk : Nat} (F : Fr h₀ L h' m') (N : News h₀ L h' led) (hD : (D, o) ∈ led) (hI : (I, oI) ∈ led) (hne : I ≠ D)
    (hj : J m' [(D, o)]) : TurnE h₀ L J [(I, oI)] s₁ { s₁ with heap := h', toks := tk } :=
  ⟨h', tk, m', [(D, o)], rfl, F, fun q hq => by
    simp only [List.cons_append, List.nil_append, List.mem_cons, List.not_mem_nil, or_false] at hq
    rcases hq with rfl | rfl
    · exact N _ hD
    · exact N _ hI, ownOff1 hne ownOff0, hj⟩
inductive ForV (prog : Program) (w : World) (A : Around) (env : Env) (h₀ : Heap) (x : Str) (body : List Stmt) (Q : Flow → Shared → Prop) (xv : Value) (s₁ : Shared) : Prop
  | mk (l : Addr) (vs : List Value) (m₀ : Str → Option Value) (news : List (Addr × Obj)) (J : Nat → (Str → Option Value) → List (Addr × Obj) → Prop) (_ : xv = .ref l) (_ : Fr h₀ env.locals s₁.heap m₀) (_ : News h₀ env.locals s₁.heap news) (_ : h₀.IsList l vs.toArray) (_ : J 0 m₀ news) (_ : ∀ i v m₁ news₁ h tk I oI, vs[i]? = some v → OwnOff [(I, oI)] (news₁.map (·.1)) → J i m₁ news₁ → Fr h₀ env.locals h (fun y => if y = x then some v else m₁ y) → News h₀ env.locals h (news₁ ++ [(I, oI)]) →
        wpAny (model prog w) A (execs body env) (TurnP h₀ env.locals (J (i + 1)) [(I, oI)] { s₁ with heap := h, toks := tk } Q) (fun _ _ => False) { s₁ with heap := h, toks := tk }) (_ : ∀ m₁ news₁ h tk, J vs.length m₁ news₁ → Fr h₀ env.locals h m₁ → News h₀ env.locals h news₁ → Q .next { s₁ with heap := h, toks := tk }) : ForV prog w A env h₀ x body Q xv s₁
/-- a loop over a list that the call does not change: any items -/
theorem iterVals {l : Addr} {vs : List Value} {m₀ : Str → Option Value} {news : List (Addr × Obj)} (F : Fr h₀ env.locals s.heap m₀) (N : News h₀ env.locals s.heap news) (J : Nat → (Str → Option Value) → List (Addr × Obj) → Prop)
    (hh : A.handled = none) (hl : h₀.IsList l vs.toArray) (hj : J 0 m₀ news)
    (turn : ∀ i v m₁ news₁ h tk I oI, vs[i]? = some v → OwnOff [(I, oI)] (news₁.map (·.1)) → J i m₁ news₁ → Fr h₀ env.locals h (fun y => if y = x then some v else m₁ y) → News h₀ env.locals h (news₁ ++ [(I, oI)]) →
      wpAny (model prog w) A (execs body env) (TurnP h₀ env.locals (J (i + 1)) [(I, oI)] { s with heap := h, toks := tk } Q) E { s with heap := h, toks := tk })
    (done : ∀ m₁ news₁ h tk, J vs.length m₁ news₁ → Fr h₀ env.locals h m₁ → News h₀ env.locals h news₁ → Q .next { s with heap := h, toks := tk }) :
    wpAny (model prog w) A (pyIter (.ref l)) (fun it s₂ => LoopAtV prog w A h₀ env x body Q E it s₂) E s := by
  have hls : s.heap.IsList l vs.toArray := hl.at fun o e => F.keep l o e
  obtain ⟨ol, hol, _⟩ := id hl
  have hlt : l < h₀.objs.size := Heap.lt_size hol
  have hne : l ≠ s.heap.objs.size := Nat.ne_of_lt (Nat.lt_trans (Nat.lt_of_lt_of_le hlt F.above) F.ns.lt)
  refine wpAny_pyIter_list hls ?_
  have W := Walks.list (prog := prog) (w := w) hh s.heap.objs.size l hne vs.toArray
  have hlen : vs.toArray.size = vs.length := by simp
  rw [hlen] at W
  refine ⟨_, _, _, vs.length, _, _, m₀, news, J, rfl, W, ?_, ?_, ?_, ⟨⟨_, Heap.get?_push_size _ rfl, rfl, rfl⟩, hls.at fun o e => Heap.get?_push_of_some _ e⟩, F.push _, (fun p hp => ⟨Heap.get?_push_of_some _ (N p hp).1, (N p hp).2⟩), hj, ?_, ?_⟩
  · intro hm
    rcases List.mem_cons.mp hm with e | hm
    · exact absurd F.ns.lt (e ▸ Nat.lt_irrefl _)
    · exact absurd (Nat.lt_of_lt_of_le hlt F.above) ((List.mem_singleton.mp hm) ▸ Nat.lt_irrefl _)
  · intro b hb
    rw [List.mem_singleton.mp hb]
    exact next_is_new F
  · intro p hp hI
    exact absurd (Heap.lt_size (N p hp).1) ((List.mem_singleton.mp hI) ▸ Nat.lt_irrefl _)
  · rintro i v m₁ news₁ s₁ own ⟨hh', tk', rfl⟩ hin hP hJ hoff hown _ hfp hst F₁ N₁
    have hI0 : h₀.get? s.heap.objs.size = none := next_is_new F
    obtain ⟨⟨oI, hoI, _⟩, _⟩ := id hst
    have hIown : (s.heap.objs.size, oI) ∈ own := hfp _ (List.mem_cons.mpr (.inl rfl)) hI0 _ hoI
    have only : ∀ p ∈ own, p = (s.heap.objs.size, oI) := by
      intro p hp
      have z := N₁ p (List.mem_append_left _ hp)
      rcases List.mem_cons.mp (hown p hp) with h1 | h1
      · have := z.1
        rw [h1] at this
        rw [hoI] at this
        cases p; cases this; cases h1; rfl
      · have h2 := List.mem_singleton.mp h1
        have h3 := z.2.2
        rw [h2, hol] at h3; cases h3
    have hsep : OwnOff [(s.heap.objs.size, oI)] (news₁.map (·.1)) := by
      intro p hp b hb e
      obtain ⟨q, hq, rfl⟩ := List.mem_map.mp hb
      rw [List.mem_singleton.mp hp] at e
      exact hoff q hq (List.mem_singleton.mpr e.symm)
    have hv : vs[i]? = some v := by simpa using hP
    have N₂ : News h₀ env.locals hh' (news₁ ++ [(s.heap.objs.size, oI)]) := fun p hp => N₁ p ((List.mem_append.mp hp).elim (fun h => List.mem_append.mpr (.inr h)) fun h => List.mem_append.mpr (.inl (by rw [List.mem_singleton.mp h]; exact hIown)))
    refine wpAny_mono (turn i v m₁ news₁ hh' tk' _ _ hv hsep hJ F₁ N₂) (fun f s₂ p => ?_) fun _ _ e => e
    have fin : TurnE h₀ env.locals (J (i + 1)) [(s.heap.objs.size, oI)] { s with heap := hh', toks := tk' } s₂ → LoopStepU h₀ env.locals [s.heap.objs.size] own (J (i + 1)) { s with heap := hh', toks := tk' } .next s₂ := by
      rintro ⟨h', tk, m', nx, e, F', N', ha, hm⟩
      refine ⟨rfl, h', tk, m', nx, e, F', fun p hp => N' p ?_, fun p hp hq => ?_, hm⟩
      · rcases List.mem_append.mp hp with hp | hp
        · exact List.mem_append_right _ (by rw [only p hp]; exact .head _)
        · exact List.mem_append_left _ hp
      · exact ha _ (.head _) p.1 (List.mem_map.mpr ⟨p, hp, rfl⟩) (List.mem_singleton.mp hq).symm
    cases f with
    | ret v => exact .ret p
    | brk => exact .brk p
    | next => exact .next (fin p)
    | cont => exact .cont (fin p)
  · rintro h' tk m' news' F' N' _ hJ
    exact done m' news' h' tk hJ F' N'
/-- for x in l: l a list that the call does not change -/
theorem forVals {px pos : Pos} {iter : Expr} {m : Str → Option Value} (F₀ : Fr h₀ env.locals s.heap m) (hh : A.handled = none)
    (h : wpAny (model prog w) A (eval iter env) (fun xv s₁ => Stop (ForV prog w A env h₀ x body Q xv s₁)) (fun _ _ => False) s)
    (hx : env.kindOf x = some .local := by rfl) (hp : (env.scope.kind == .class || (env.scope.kind == .module && env.locals != env.globals)) = false := by rfl) (hs : ∀ x, foldedSetIterable iter env x = pure x := by intro _; rfl) :
    wpAny (model prog w) A (exec (.For (.Name x px) iter body [] pos) env) Q (fun _ _ => False) s := by
  refine For_invV h₀ hx hp (wpAny_mono h (fun xv s₁ h₁ => ?_) fun _ _ e => e) hs PassesOwn.never
  obtain ⟨l, vs, m₀, news, J, rfl, F, N, hl, hj, turn, done⟩ := h₁.it
  exact iterVals F N J hh hl hj turn done
inductive ForR (prog : Program) (w : World) (A : Around) (env : Env) (h₀ : Heap) (x : Str) (body : List Stmt) (Q : Flow → Shared → Prop) (xv : Value) (s₁ : Shared) : Prop
  | mk (r : Addr) (a₀ b₀ c : Int) (t₀ u₀ v₀ : Tok) (n : Nat) (m₀ : Str → Option Value) (news : List (Addr × Obj)) (J : Nat → (Str → Option Value) → List (Addr × Obj) → Prop) (_ : xv = .ref r) (_ : IsRange s₁.heap r a₀ b₀ c t₀ u₀ v₀) (_ : Builtin.Range.small a₀ b₀ c = true) (_ : Builtin.Range.rangeSize a₀ b₀ c = (n : Int)) (_ : Fr h₀ env.locals s₁.heap m₀) (_ : News h₀ env.locals s₁.heap news) (_ : J 0 m₀ news) (_ : ∀ i m₁ news₁ h tk t I oI, i < n → OwnOff [(I, oI)] (news₁.map (·.1)) → J i m₁ news₁ → Fr h₀ env.locals h (fun y => if y = x then some (.int (a₀ + (i : Int) * c) t) else m₁ y) → News h₀ env.locals h (news₁ ++ [(I, oI)]) →
        wpAny (model prog w) A (execs body env) (TurnP h₀ env.locals (J (i + 1)) [(I, oI)] { s₁ with heap := h, toks := tk } Q) (fun _ _ => False) { s₁ with heap := h, toks := tk }) (_ : ∀ m₁ news₁ h tk, J n m₁ news₁ → Fr h₀ env.locals h m₁ → News h₀ env.locals h news₁ → Q .next { s₁ with heap := h, toks := tk }) : ForR prog w A env h₀ x body Q xv s₁
/-- a loop over a range -/
theorem iterRange {r : Addr} {a₀ b₀ c : Int} {t₀ u₀ v₀ : Tok} {n : Nat} {m₀ : Str → Option Value} {news : List (Addr × Obj)} (F : Fr h₀ env.locals s.heap m₀) (N : News h₀ env.locals s.heap news) (J : Nat → (Str → Option Value) → List (Addr × Obj) → Prop)
    (hh : A.handled = none) (hr : IsRange s.heap r a₀ b₀ c t₀ u₀ v₀) (hsmall : Builtin.Range.small a₀ b₀ c = true) (hn : Builtin.Range.rangeSize a₀ b₀ c = (n : Int)) (hj : J 0 m₀ news)
    (turn : ∀ i m₁ news₁ h tk t I oI, i < n → OwnOff [(I, oI)] (news₁.map (·.1)) → J i m₁ news₁ → Fr h₀ env.locals h (fun y => if y = x then some (.int (a₀ + (i : Int) * c) t) else m₁ y) → News h₀ env.locals h (news₁ ++ [(I, oI)]) →
      wpAny (model prog w) A (execs body env) (TurnP h₀ env.locals (J (i + 1)) [(I, oI)] { s with heap := h, toks := tk } Q) E { s with heap := h, toks := tk })
    (done : ∀ m₁ news₁ h tk, J n m₁ news₁ → Fr h₀ env.locals h m₁ → News h₀ env.locals h news₁ → Q .next { s with heap := h, toks := tk }) :
    wpAny (model prog w) A (pyIter (.ref r)) (fun it s₂ => LoopAtV prog w A h₀ env x body Q E it s₂) E s := by
  refine wpAny_pyIter_range hr hsmall ?_
  have W : Walks prog w A s.heap.objs.size [s.heap.objs.size] [s.heap.objs.size] n (fun i v => i < n ∧ ∃ t, v = .int (a₀ + i * c) t)
      (fun i h => IsRangeIter h s.heap.objs.size (a₀ + (i : Nat) * c) ((n : Int) - (i : Nat)) c) := (Walks.range hh _ a₀ c n).bound
  have hnew := next_is_new F
  refine ⟨_, _, _, n, _, _, m₀, news, J, rfl, W, ?_, ?_, ?_, (by show IsRangeIter _ _ _ _ _; rw [hn]; simpa using Heap.get?_push_size _ rfl), F.push _, (fun p hp => ⟨Heap.get?_push_of_some _ (N p hp).1, (N p hp).2⟩), hj, ?_, ?_⟩
  · intro hm
    exact absurd F.ns.lt ((List.mem_singleton.mp hm) ▸ Nat.lt_irrefl _)
  · intro b hb
    rw [List.mem_singleton.mp hb]
    exact hnew
  · intro p hp hI
    exact absurd (Heap.lt_size (N p hp).1) ((List.mem_singleton.mp hI) ▸ Nat.lt_irrefl _)
  · rintro i v m₁ news₁ s₁ own ⟨hh', tk', rfl⟩ hin ⟨_, t, rfl⟩ hJ hoff hown hget hall hst F₁ N₁
    have hst' : hh'.get? s.heap.objs.size = some (krsIt (a₀ + ((i + 1 : Nat) : Int) * c) ((n : Int) - ((i + 1 : Nat) : Int)) c) := hst
    have hmem := hall s.heap.objs.size (List.mem_singleton.mpr rfl) hnew _ hst'
    generalize krsIt (a₀ + ((i + 1 : Nat) : Int) * c) ((n : Int) - ((i + 1 : Nat) : Int)) c = oI at hst' hmem
    have only : ∀ p ∈ own, p = (s.heap.objs.size, oI) := by
      intro p hp
      have h1 : p.1 = s.heap.objs.size := List.mem_singleton.mp (hown p hp)
      have h2 : hh'.get? p.1 = some p.2 := hget p hp
      rw [h1, hst'] at h2
      exact Prod.ext h1 (Option.some.inj h2).symm
    have hsep : OwnOff [(s.heap.objs.size, oI)] (news₁.map (·.1)) := by
      intro p hp b hb e
      obtain ⟨q, hq, rfl⟩ := List.mem_map.mp hb
      rw [List.mem_singleton.mp hp] at e
      exact hoff q hq (List.mem_singleton.mpr e.symm)
    have N₂ : News h₀ env.locals hh' (news₁ ++ [(s.heap.objs.size, oI)]) := fun p hp => N₁ p ((List.mem_append.mp hp).elim (fun h => List.mem_append.mpr (.inr h)) fun h => List.mem_append.mpr (.inl (by rw [List.mem_singleton.mp h]; exact hmem)))
    refine wpAny_mono (turn i m₁ news₁ hh' tk' t _ _ hin hsep hJ F₁ N₂) (fun f s₂ p => ?_) fun _ _ e => e
    have fin : TurnE h₀ env.locals (J (i + 1)) [(s.heap.objs.size, oI)] { s with heap := hh', toks := tk' } s₂ → LoopStepU h₀ env.locals [s.heap.objs.size] own (J (i + 1)) { s with heap := hh', toks := tk' } .next s₂ := by
      rintro ⟨h', tk, m', nx, e, F', N', ha, hm⟩
      refine ⟨rfl, h', tk, m', nx, e, F', fun p hp => N' p ?_, fun p hp hq => ?_, hm⟩
      · rcases List.mem_append.mp hp with hp | hp
        · exact List.mem_append_right _ (by rw [only p hp]; exact .head _)
        · exact List.mem_append_left _ hp
      · exact ha _ (.head _) p.1 (List.mem_map.mpr ⟨p, hp, rfl⟩) (List.mem_singleton.mp hq).symm
    cases f with
    | ret v => exact .ret p
    | brk => exact .brk p
    | next => exact .next (fin p)
    | cont => exact .cont (fin p)
  · rintro h' tk m' news' F' N' _ hJ
    exact done m' news' h' tk hJ F' N'

theorem forRange {px pos : Pos} {iter : Expr} {m : Str → Option Value} (F₀ : Fr h₀ env.locals s.heap m) (hh : A.handled = none)
    (h : wpAny (model prog w) A (eval iter env) (fun xv s₁ => Stop (ForR prog w A env h₀ x body Q xv s₁)) (fun _ _ => False) s)
    (hx : env.kindOf x = some .local := by rfl) (hp : (env.scope.kind == .class || (env.scope.kind == .module && env.locals != env.globals)) = false := by rfl) (hs : ∀ x, foldedSetIterable iter env x = pure x := by intro _; rfl) :
    wpAny (model prog w) A (exec (.For (.Name x px) iter body [] pos) env) Q (fun _ _ => False) s := by
  refine For_invV h₀ hx hp (wpAny_mono h (fun xv s₁ h₁ => ?_) fun _ _ e => e) hs PassesOwn.never
  obtain ⟨r, a₀, b₀, c, t₀, u₀, v₀, n, m₀, news, J, rfl, hr, hsm, hn, F, N, hj, turn, done⟩ := h₁.it
  exact iterRange F N J hh hr hsm hn hj turn done
end
end
section
section
variable {prog : Program} {w : World} {A : Around} {E : Value → Shared → Prop} {s : Shared} {g : Heap} {L l b : Addr} {m : Str → Option Value} {news : List (Addr × Obj)} {value slice : PySem.Expr} {vs us : List Value} {xs ys : List Str} {Q : Value → Shared → Prop}

theorem strs_of_all : ∀ {vs : List Value}, (∀ v ∈ vs, ∃ y t, v = Value.str y t) → ∃ xs, StrsAre vs xs
  | [], _ => ⟨[], .nil⟩
  | v :: r, h => by
    obtain ⟨y, t, rfl⟩ := h _ (.head _)
    obtain ⟨xs, hx⟩ := strs_of_all fun v hv => h v (.tail _ hv)
    exact ⟨y :: xs, .cons y t hx⟩

/-- xs + ys -/
theorem addT (F : Fr g L s.heap m) (N : News g L s.heap news) (hl : s.heap.IsList l vs.toArray) (hx : StrsAre vs xs) (hb : s.heap.IsList b us.toArray) (hy : StrsAre us ys)
    (h : ∀ D zs h', Fr g L h' m → News g L h' ((D, listOf (List.toArray zs) 0) :: news) → (∀ q ∈ news, q.1 < D) → StrsAre zs (xs ++ ys) → Q (.ref D) { s with heap := h' })
    (h1 : xs.length ≤ 10000) (h2 : ys.length ≤ 10000) : wpAny (model prog w) A (binaryOp .Add (.ref l) (.ref b)) Q E s :=
  add_lists F N hl hb (fun h' F' N' => h _ _ h' F' N' (fun q hq => Heap.lt_size (N q hq).1) (strs_append hx hy)) (by rw [strs_len hx, strs_len hy, sizeLine_eq]; omega)

/-- xs[:k] -/
theorem sliceUptoT {k : Int} {t : Tok} (F : Fr g L s.heap m) (N : News g L s.heap news) (hl : s.heap.IsList l vs.toArray) (hx : StrsAre vs xs) (hk : 0 ≤ k)
    (h : ∀ D zs h', Fr g L h' m → News g L h' ((D, listOf (List.toArray zs) 0) :: news) → (∀ q ∈ news, q.1 < D) → StrsAre zs (xs.take k.toNat) → Q (.ref D) { s with heap := h' })
    (h1 : xs.length ≤ 10000)
    (hs : subscripted slice false (.ref l) (.ref s.heap.objs.size) = operate [.ref s.heap.objs.size, .ref l] (getItem (.ref l) (.ref s.heap.objs.size))) (ht : ∀ r, letTemporaryGo value (.ref l) r = pure ()) :
    wpAny (model prog w) A (subscriptTail value slice (.ref l) (.ref s.heap.objs.size)) Q E { s with heap := s.heap.push { cls := .type "slice", data := .fields #[.none, .int k t, .none] } } := by
  have e : slicePick vs.toArray none (some k) none = (vs.take k.toNat).toArray := by
    have := slicePick_upto' vs.toArray k.toNat
    rw [Int.toNat_of_nonneg hk] at this
    simpa using this
  refine kmk_slice F N hl .none (.int k t) (fun D h' F' N' l1 => h D _ h' F' ?_ l1 (strs_take _ hx)) hs ht (by rw [List.size_toArray, strs_len hx, sizeLine_eq]; omega)
  rw [e] at N'; exact N'
/-- xs[k:] -/
theorem sliceFromT {k : Int} {t : Tok} (F : Fr g L s.heap m) (N : News g L s.heap news) (hl : s.heap.IsList l vs.toArray) (hx : StrsAre vs xs) (hk : 0 ≤ k)
    (h : ∀ D zs h', Fr g L h' m → News g L h' ((D, listOf (List.toArray zs) 0) :: news) → (∀ q ∈ news, q.1 < D) → StrsAre zs (xs.drop k.toNat) → Q (.ref D) { s with heap := h' })
    (h1 : xs.length ≤ 10000)
    (hs : subscripted slice false (.ref l) (.ref s.heap.objs.size) = operate [.ref s.heap.objs.size, .ref l] (getItem (.ref l) (.ref s.heap.objs.size))) (ht : ∀ r, letTemporaryGo value (.ref l) r = pure ()) :
    wpAny (model prog w) A (subscriptTail value slice (.ref l) (.ref s.heap.objs.size)) Q E { s with heap := s.heap.push { cls := .type "slice", data := .fields #[.int k t, .none, .none] } } := by
  have e : slicePick vs.toArray (some k) none none = (vs.drop k.toNat).toArray := by
    have := slicePick_from' vs.toArray k.toNat
    rw [Int.toNat_of_nonneg hk] at this
    simpa using this
  refine kmk_slice F N hl (.int k t) .none (fun D h' F' N' l1 => h D _ h' F' ?_ l1 (strs_drop _ hx)) hs ht (by rw [List.size_toArray, strs_len hx, sizeLine_eq]; omega)
  rw [e] at N'; exact N'
/-- xs[::k] -/
theorem slicePartT {k : Int} {t : Tok} {ops : List Value} (F : Fr g L s.heap m) (N : News g L s.heap news) (hl : s.heap.IsList l vs.toArray) (hx : StrsAre vs xs) (hk : 1 ≤ k)
    (h : ∀ D zs ws h', Fr g L h' m → News g L h' ((D, listOf (List.toArray zs) 0) :: news) → (∀ q ∈ news, q.1 < D) → StrsAre zs ws → (k = 1 → ws = xs) → ws.length ≤ xs.length → Q (.ref D) { s with heap := h' })
    (h1 : xs.length ≤ 10000)
    (hs : subscripted slice false (.ref l) (.ref s.heap.objs.size) = operate ops (getItem (.ref l) (.ref s.heap.objs.size))) (ht : ∀ r, letTemporaryGo value (.ref l) r = pure ()) :
    wpAny (model prog w) A (subscriptTail value slice (.ref l) (.ref s.heap.objs.size)) Q E { s with heap := s.heap.push { cls := .type "slice", data := .fields #[.none, .none, .int k t] } } := by
  have hall : ∀ v ∈ (slicePick vs.toArray none none (some k)).toList, ∃ y t, v = Value.str y t := by
    intro v hv
    simp only [slicePick, List.toList_toArray, List.mem_filterMap] at hv
    obtain ⟨i, _, hi⟩ := hv
    obtain ⟨y, t, rfl, _⟩ := strs_mem hx (v := v) (by simpa using Array.mem_of_getElem? hi)
    exact ⟨y, t, rfl⟩
  obtain ⟨ws, hws⟩ := strs_of_all hall
  refine kmk_slice3_lit F N hl .none .none (.int k t) (by intro e; cases e; omega) rfl (fun D h' F' N' l1 => h D _ ws h' F' N' l1 hws ?_ ?_) hs ht (by rw [List.size_toArray, strs_len hx, sizeLine_eq]; omega)
  · rintro rfl
    have e : slicePick vs.toArray none none (some 1) = vs.toArray := by
      have := slicePick_all vs.toArray
      exact this
    rw [e] at hws
    have uniq : ∀ {l : List Value} {a b : List Str}, StrsAre l a → StrsAre l b → a = b := by
      intro l a b h1
      induction h1 generalizing b with
      | nil => intro h2; cases h2; rfl
      | cons y t r ih => intro h2; cases h2 with | cons _ _ r2 => rw [ih r2]
    exact uniq hws hx
  · rw [← strs_len hws, ← strs_len hx, Array.length_toList]
    simpa using slicePick_size_le vs.toArray none none (some k)

/-- xs[k] -/
theorem itemT {k : Int} {u : Tok} (hl : s.heap.IsList l vs.toArray) (hx : StrsAre vs xs) (h0 : 0 ≤ k) (h1 : k < xs.length) (hz : xs.length ≤ 10000)
    (h : ∀ y t, xs[k.toNat]? = some y → Q (.str y t) s)
    (hs : subscripted slice false (.ref l) (.int k u) = operate [.ref l, .int k u] (getItem (.ref l) (.int k u)) := by with_unfolding_all rfl) :
    wpAny (model prog w) A (subscriptTail value slice (.ref l) (.int k u)) Q E s := by
  obtain ⟨y, t, e1, e2⟩ := strs_at hx k.toNat (by rw [strs_len hx]; omega)
  exact tail_any hl.typeIs slot_list_getitem.lookup (wpAny_getItem_list hl h0 (by omega) (x := .str y t) (by simp [← e1]) (h y t e2)) hs

/-- list(xs) -/
theorem copyT (F : Fr g L s.heap m) (N : News g L s.heap news) (hl : s.heap.IsList l vs.toArray) (hx : StrsAre vs xs) (h1 : xs.length ≤ 10000)
    (h : ∀ D c h', Fr g L h' m → News g L h' ((D, listOf vs.toArray c) :: news) → (∀ q ∈ news, q.1 < D) → Q (.ref D) { s with heap := h' }) :
    wpAny (model prog w) A (call (.type "list") [.ref l]) Q E s :=
  list_copyK F N hl h (by rw [List.size_toArray, strs_len hx, sizeLine_eq]; omega)

/-- xs.clear() -/
theorem clearAny {its : Array Value} {n : Nat} {u : Obj → List (Addr × Obj)} (F : Fr g L s.heap m) (N : News g L s.heap news) (U : UpdF l (listOf its n) news u) (hz : its.size ≤ sizeLine)
    (h : ∀ h' n', Fr g L h' m → News g L h' (u (listOf #[] n')) → Q .none { s with heap := h' }) : wpAny (model prog w) A (call (.builtin "list.clear") [.ref l]) Q E s := by
  obtain ⟨pre, post, rfl, hg, a, b⟩ := U.split
  have z := N (l, listOf its n) (by simp)
  have e : ∃ n', Obj.mapSeq (fun _ => #[]) (listOf its n) = listOf #[] n' := by
    unfold Obj.mapSeq
    exact ⟨_, rfl⟩
  obtain ⟨n', e⟩ := e
  have hs : Heap.SameBut l s.heap (s.heap.update l (Obj.mapSeq fun _ => #[])) := Heap.SameBut.update ..
  have ho : (s.heap.update l (Obj.mapSeq fun _ => #[])).get? l = some (listOf #[] n') := e ▸ Heap.get?_update_self _ z.1 (e ▸ rfl)
  exact call_meets PySem.F.slot_list_clear ⟨_, z.1, rfl⟩ PySem.F.entry_list_clear (PySem.F.args_list_clear_1 _) (PySem.AutoSeq1.list_clear_list_0 l its n hz) ⟨z.1, h _ n' (F.change hs z.2.1 z.2.2) (hg _ ▸ N.setAt a b hs ho)⟩
end
end
set_option compiler.extract_closed false
local macro_rules | `(tactic| k_lt $h) => `(tactic| (replace $h := allLt_of $h; dsimp only [AllLt] at $h:ident))
local macro_rules | `(tactic| walk_at "my_e") => `(tactic| (intros; (try (rename (∀ q : Addr × Obj, q ∈ (_ : List (Addr × Obj)) → q.1 < (_ : Nat)) => l1; k_lt l1)); (try k_sweep)))
local macro_rules | `(tactic| walk_at "my_f") => `(tactic| (intros; (try k_sweep)))
local macro_rules | `(tactic| walk_at "my_h") => `(tactic| first | assumption | exact rfl)
local macro_rules | `(tactic| walk_at "my_k") => `(tactic| first | omega | exact Int.fdiv_nonneg (by omega) (by omega))
local macro_rules | `(tactic| walk_at "my_as") => `(tactic| with_reducible assumption)
local macro_rules | `(tactic| walk_at "my_and") => `(tactic| with_reducible focus (apply And.left; (iterate 16 (try (first | assumption | apply And.right))); done))
local macro_rules | `(tactic| walk_at "my_ne") => `(tactic| (first | walk_at "my_as" | (apply Ne.symm; walk_at "my_as") | (apply Nat.ne_of_lt; walk_at "my_and") | (apply Nat.ne_of_gt; walk_at "my_and") | walk_at "my_and" | (apply Ne.symm; walk_at "my_and") | (apply Nat.ne_of_lt; apply Nat.lt_succ_of_lt; first | walk_at "my_as" | walk_at "my_and") | (apply Nat.ne_of_gt; apply Nat.lt_succ_of_lt; first | walk_at "my_as" | walk_at "my_and") | fail))
local macro_rules | `(tactic| walk_at "my_le") => `(tactic| (first | walk_at "my_as" | exact room0 (by with_reducible assumption) (by decide) | exact room1 (by assumption) (by decide) | exact room2 (by assumption) (by decide) | exact room3 (by assumption) | exact Nat.le_trans (by with_reducible assumption) (by decide) | fail))
local macro_rules | `(tactic| walk_at "my_in") => `(tactic| (repeat' (first | assumption | exact List.Mem.head _ | (apply List.mem_append_left; first | assumption | focus (apply_assumption; assumption; done)) | apply List.mem_append_right | apply List.Mem.tail | focus (apply_assumption; assumption; done))))
local macro_rules | `(tactic| walk_at "my_sub") => `(tactic| (repeat' (first | exact mNil | refine mCons (by walk_at "my_in") ?_ | assumption | refine mApp ?_ ?_ | (intro q hq; walk_at "my_in"; done))))
local macro_rules | `(tactic| walk_at "my_of") => `(tactic| ((iterate 14 (try (first | exact Or.inl rfl | apply Or.inr))); done))
local macro_rules | `(tactic| walk_at "my_cl") => `(tactic| with_reducible ((repeat (rename (@LT.lt Nat _ _ _ ∧ _) => hq; clear hq)); (repeat (rename (@Ne Nat _ _ ∧ _) => hq; clear hq)); (repeat (rename (@Ne Nat _ _) => hq; clear hq))))
local macro_rules | `(tactic| walk_at "getMethod ref") => `(tactic| (k_here; first | ((with_reducible show wpAny _ _ (getMethod _ (.ofString "ask") _) _ _ _); k_dflt (refine' kmu_own (by k_asm) (by k_asm) (by k_inst) (by k_is) (by k_is) ?_; k_whole)) | ((first | with_reducible show wpAny _ _ (getMethod _ (.ofString "enough_of") _) _ _ _ | with_reducible show wpAny _ _ (getMethod _ (.ofString "by_halves") _) _ _ _ | with_reducible show wpAny _ _ (getMethod _ (.ofString "one_by_one") _) _ _ _); k_dflt (refine' method_inst (by k_asm) (by k_asm) (by k_inst) (by k_is) (by k_is) (by k_is) (by k_get) ?_; k_whole))))
local macro_rules | `(tactic| omega) => `(tactic| (k_whole; focus first | (with_reducible show (_ : Nat) ≠ _; walk_at "my_ne") | ((fail_if_success (with_reducible show (_ : Nat) ≠ _)); first | walk_at "my_le" | (walk_at "my_cl"; omega (config := {}))) | fail))
local macro_rules | `(tactic| walk_at "subscriptTail Name Constant ref str") => `(tactic| (k_here; (with_unfolding_all refine' dictItem ?k1 ?k2 ?k3 ?k4 ?_ ?k6; (case k1 => assumption); (case k2 => k_mem); (case k3 => assumption); (case k4 => rfl); (case k6 => with_unfolding_all rfl)); (try dsimp only)))
local macro_rules | `(tactic| walk_at "setItem ref str") => `(tactic| (k_here; (refine' dictPut (by assumption) (by assumption) (by k_updF) (by assumption) (by decide) ?_); walk_at "my_f"))
section
noncomputable abbrev feedKvs (lc : Addr) (spot : Int) (t : Tok) : List (Str × Value) := [(Str.ofString "cells", .ref lc), (Str.ofString "spot", .int spot t)]

theorem spec_next {prog : Program} {w : World} {mg mb : Str → Option Value} {p : Program} {loose : List Str} {mean : ExcName → Option Value} {A : Around} {s : Shared} {h₀ : Heap} {R : Result → Shared → Prop}
   {fd lc : Addr} {o : Obj} {vs : List Value} {ns : List Int} {spot wide : Int} {t1 t2 : Tok}
   (G : Gd w mg mb p loose mean h₀) (st : h₀.StaysIn s.heap) (hr : A.depth + 10 < recursionLimit) (hu : A.units + 100 < cLine)
   (hfd : s.heap.get? fd = some o) (hf0 : h₀.get? fd = none) (hd : o.IsDictOf (strKind prog w) (feedKvs lc spot t1))
   (hl : s.heap.IsList lc vs.toArray) (hi : IntsAre vs ns) (hne : lc ≠ fd) (h1 : 0 ≤ spot) (h2 : spot < 1000) (h3 : 0 < wide) (h4 : wide < 100) (hlen : ns.length < 100)
   (k : ∀ o' h' tk n t t', Ch [fd] s.heap h' → h'.get? fd = some o' → o'.IsDictOf (strKind prog w) (feedKvs lc (spot + 1) t') → 0 ≤ n → n < wide → R (.ok (.ret (.int n t))) { s with heap := h', toks := tk }) :
   codeAny (model prog w) A (.call (.ref 214) ⟨[.ref fd, .int wide t2], []⟩) R s := by
  refine enterK [(fd, o)] G st (by simp [hfd, hf0]) (by omega) (by k_is) (by k_is) (BindsTo.of_eq rfl) (locs rfl) ?_ (by decide) rfl rfl rfl
  intro g L' h₁ hg st' G' F N C hlt
  have X := G'.X
  have T := G'.T
  have hlg : g.IsList lc vs.toArray := isList_under hg hl (by simpa using fun e => hne e.symm)
  k_lt hlt
  repeat' (first | walk1 | (dsimp only; walk1))
  all_goals (refine k _ _ _ _ _ _ (left hg (by with_reducible assumption)) (News.get (by with_reducible assumption) (.head _)) (by assumption) (fmod_lo _ h3) (fmod_hi _ h3))
end
local macro_rules | `(tactic| walk_at "compareOp Eq ref ref") => `(tactic| (k_here; (with_reducible show wpAny _ _ (compareOp .Eq (.ref _) (.ref _)) _ _ _); (with_unfolding_all refine' eq_texts ?k1 ?k2 ?k3 ?k4 ?k5 ?_; (case k1 => is_list); (case k2 => first | assumption | exact StrsAre.nil); (case k3 => is_list); (case k4 => first | assumption | exact StrsAre.nil); (case k5 => units_room))))
local macro_rules | `(tactic| walk_at "compareOp NotEq ref ref") => `(tactic| (k_here; (with_reducible show wpAny _ _ (compareOp .NotEq (.ref _) (.ref _)) _ _ _); (with_unfolding_all refine' ne_texts ?k1 ?k2 ?k3 ?k4 ?k5 ?_; (case k1 => is_list); (case k2 => first | assumption | exact StrsAre.nil); (case k3 => is_list); (case k4 => first | assumption | exact StrsAre.nil); (case k5 => units_room))))
section
theorem spec_part {prog : Program} {w : World} {mg mb : Str → Option Value} {p : Program} {loose : List Str} {mean : ExcName → Option Value} {A : Around} {s : Shared} {h₀ : Heap} {R : Result → Shared → Prop}
   {a b : Addr} {xs ys : List Str} {vs us : List Value}
   (G : Gd w mg mb p loose mean h₀) (st : h₀.StaysIn s.heap) (hr : A.depth + 10 < recursionLimit) (hu : A.units + 100 < cLine) (hh : A.handled = none)
   (ha : s.heap.IsList a vs.toArray) (hx : StrsAre vs xs) (hb : s.heap.IsList b us.toArray) (hy : StrsAre us ys) (hlx : xs.length < 100) (hly : ys.length < 100)
   (k : ∀ h' tk, Ch [] s.heap h' → R (.ok (.ret (.bool (decide (xs = ys.filter (fun y => xs.any (· == y))))))) { s with heap := h', toks := tk }) :
   codeAny (model prog w) A (.call (.ref 238) ⟨[.ref a, .ref b], []⟩) R s := by
  refine enterC [] G st (by simp) (by omega) (by k_is) (by k_is) (BindsTo.of_eq rfl) rfl (by decide +kernel) ?_ rfl rfl rfl
  intro g L' h₁ tk cells hg st' G' F N Y C hlt
  obtain ⟨o1, rfl, d1⟩ := CellsAre.one Y
  replace d1 : o1.data = .cell (some (.ref a)) := d1
  try simp only [List.cons_append, List.nil_append] at N
  have X := G'.X
  have T := G'.T
  replace ha : g.IsList a vs.toArray := isList_under hg ha (by simp)
  replace hb : g.IsList b us.toArray := isList_under hg hb (by simp)
  repeat' (first | walk1 | (dsimp only; walk1))
  refine' compTexts F (fun y => xs.any (· == y)) hh ?_
  repeat' (first | walk1 | (dsimp only; walk1))
  all_goals (try k_data)
  refine Stop.mk ⟨_, _, _, _, rfl, hb.at (F.keep _), hy, by omega, F, N, ?_, ?_⟩
  · intro C y t s₂ m₂ E' hy' hn hm hk
    exact testIn (c := L' + 1) (la := a) hn hm ⟨_, hk _ _ (News.get N (.head _)), d1⟩ ((ha.at (F.keep _)).at (hk _)) hx (fun tk => ⟨rfl, _, _, rfl, fun _ _ e => e⟩)
  · intro D ys' n' h' tk' F' N' hne hkeep hys
    repeat' (first | walk1 | (dsimp only; walk1))
    exact k _ _ (left hg F')
end
local macro_rules | `(tactic| walk_at "my_n") => `(tactic| first | is_list | exact StrsAre.nil)
section
noncomputable def lacks (lot row : List Str) : List Str := row.filter (fun k => !(lot.any (· == k)))
noncomputable def enough (rows : List (List Str)) (lot : List Str) : Bool := rows.any fun row => decide (lacks lot row = [])

theorem textsAll_at {h : Heap} : ∀ {vs : List Value} {rs : List (List Str)} (i : Nat) {v : Value}, TextsAll h vs rs → vs[i]? = some v → ∃ a xs, v = .ref a ∧ rs[i]? = some xs ∧ Texts h a xs
  | _, _, i, v, .nil, e => by simp at e
  | _, _, 0, v, .cons (a := a) (xs := xs) h t, e => ⟨a, xs, by simpa using e.symm, rfl, h⟩
  | _, _, i + 1, v, .cons h t, e => by
    obtain ⟨a, xs, e1, e2, e3⟩ := textsAll_at i t (by simpa using e)
    exact ⟨a, xs, e1, by simpa using e2, e3⟩
theorem textsAll_len {h : Heap} : ∀ {vs : List Value} {rs : List (List Str)}, TextsAll h vs rs → vs.length = rs.length
  | _, _, .nil => rfl
  | _, _, .cons _ t => by simp [textsAll_len t]

theorem spec_enough {prog : Program} {w : World} {mg mb : Str → Option Value} {p : Program} {loose : List Str} {mean : ExcName → Option Value} {A : Around} {s : Shared} {h₀ : Heap} {R : Result → Shared → Prop}
   {a b : Addr} {xs : List Str} {rows : List (List Str)} {vs us : List Value}
   (G : Gd w mg mb p loose mean h₀) (st : h₀.StaysIn s.heap) (hr : A.depth + 10 < recursionLimit) (hu : A.units + 100 < cLine) (hh : A.handled = none)
   (ha : s.heap.IsList a vs.toArray) (hx : TextsAll s.heap vs rows) (hb : s.heap.IsList b us.toArray) (hy : StrsAre us xs) (hlr : ∀ r ∈ rows, r.length ≤ 1000) (hlx : xs.length ≤ 1000)
   (k : ∀ h' tk, Ch [] s.heap h' → R (.ok (.ret (.bool (enough rows xs)))) { s with heap := h', toks := tk }) :
   codeAny (model prog w) A (.call (.ref 219) ⟨[.ref a, .ref b], []⟩) R s := by
  refine enterC [] G st (by simp) (by omega) (by k_is) (by k_is) (BindsTo.of_eq rfl) rfl (by decide +kernel) ?_ rfl rfl rfl
  intro g L' h₁ tk cells hg st' G' F N Y C hlt
  obtain ⟨o1, rfl, d1⟩ := CellsAre.one Y
  replace d1 : o1.data = .cell (some (.ref b)) := d1
  simp only [List.cons_append, List.nil_append] at N
  have hg' : g = s.heap := hg
  subst hg'
  have X := G'.X
  have T := G'.T
  walk1
  refine' forVals F hh ?_
  repeat' (first | walk1 | (dsimp only; walk1))
  all_goals (try k_data)
  refine Stop.mk ⟨_, vs, _, _, fun i m nx => nx = [(L' + 1, o1)] ∧ (rows.take i).any (fun row => decide (lacks xs row = [])) = false, rfl, F, N, ha, ⟨rfl, rfl⟩, ?_, ?_⟩
  · rintro i v m₁ nx h tk I oI hv hoff ⟨rfl, hno⟩ F₁ N₁
    obtain ⟨ra, row, rfl, hrow, tx⟩ := textsAll_at i hx hv
    obtain ⟨rvs, hrl, hrs⟩ := tx
    simp only [List.cons_append, List.nil_append] at N₁
    change Fr _ L' _ _ at F₁; change News _ L' _ _ at N₁
    repeat' (first | walk1 | (dsimp only; walk1))
    refine' compTexts F₁ (fun y => !(xs.any (· == y))) hh ?_
    repeat' (first | walk1 | (dsimp only; walk1))
    all_goals (try k_data)
    refine Stop.mk ⟨_, _, row, _, rfl, hrl.at (F₁.keep _), hrs, hlr _ (List.mem_of_getElem? hrow), F₁, N₁, ?_, ?_⟩
    · intro C y t s₂ m₂ E' hy' hn hm hk
      exact testNotIn (c := L' + 1) (la := b) hn hm ⟨_, hk _ _ (News.get N₁ (.head _)), d1⟩ ((hb.at (F₁.keep _)).at (hk _)) hy (fun tk => ⟨rfl, _, _, rfl, fun _ _ e => e⟩)
    · intro D ys' n' h' tk' F' N' hne hkeep hys
      clear F₁ N₁ F N
      repeat' (first | walk1 | (dsimp only; walk1))
      · rename_i hyes
        have e : enough rows xs = true := List.any_eq_true.mpr ⟨row, List.mem_of_getElem? hrow, hyes⟩
        show R (.ok (.ret (.bool true))) _
        rw [← e]
        exact k _ _ (left hg (by with_reducible assumption))
      · rename_i hyes
        refine TurnE.mk ⟨_, _, _, [(L' + 1, o1)], rfl, by assumption, newsSub (by assumption) (by k_sub), hoff, rfl, ?_⟩
        rw [List.take_add_one, hrow, List.any_append, hno]
        simp only [Option.toList_some, List.any_cons, List.any_nil, Bool.or_false, Bool.false_or]
        exact hyes
  · rintro m₁ nx h tk ⟨rfl, hno⟩ F₁ N₁
    clear F N
    repeat' (first | walk1 | (dsimp only; walk1))
    show R (.ok (.ret (.bool false))) _
    rw [textsAll_len hx, List.take_length] at hno
    rw [show false = enough rows xs from hno.symm]
    exact k _ _ (left hg F₁)
theorem TextsAll.keeps {h h' : Heap} (k : ∀ b o, h.get? b = some o → h'.get? b = some o) : ∀ {vs : List Value} {rs : List (List Str)}, TextsAll h vs rs → TextsAll h' vs rs
  | _, _, .nil => .nil
  | _, _, .cons ⟨vs, a, b⟩ t => .cons ⟨vs, a.at (k _), b⟩ (TextsAll.keeps k t)

theorem callEnough {prog : Program} {w : World} {mg mb : Str → Option Value} {p : Program} {loose : List Str} {mean : ExcName → Option Value} {A : Around} {E : Value → Shared → Prop} {s : Shared} {g : Heap} {L : Addr} {m : Str → Option Value} {news : List (Addr × Obj)} {Q : Value → Shared → Prop}
   {a b : Addr} {xs : List Str} {rows : List (List Str)} {vs us : List Value}
   (F : Fr g L s.heap m) (N : News g L s.heap news) (G : Gd w mg mb p loose mean g) (hr : A.depth + 10 < recursionLimit) (hu : A.units + 100 < cLine) (hh : A.handled = none)
   (ha : s.heap.IsList a vs.toArray) (hx : TextsAll s.heap vs rows) (hb : s.heap.IsList b us.toArray) (hy : StrsAre us xs) (hlr : ∀ r ∈ rows, r.length ≤ 1000) (hlx : xs.length ≤ 1000)
   (k : ∀ h' tk, Fr g L h' m → News g L h' news → Q (.bool (enough rows xs)) { s with heap := h', toks := tk }) :
   wpAny (model prog w) A (call (.ref 219) [.ref a, .ref b]) Q E s :=
  wpAny_call (spec_enough G F.keep hr hu hh ha hx hb hy hlr hlx fun h' tk c => k h' tk (c.fr0 F) (c.news0 N))
end
local macro_rules | `(tactic| walk_at "exec For Name Call cons nil") => `(tactic| (k_here; (with_unfolding_all refine' forRange ?k1 ?k2 ?_); (case k1 => with_reducible assumption); (case k2 => k_dflt (first | assumption | exact rfl))))
local macro_rules | `(tactic| walk_at "my_strs") => `(tactic| first | assumption | exact StrsAre.nil | exact StrsAre.cons _ _ StrsAre.nil | exact StrsAre.cons _ _ (StrsAre.cons _ _ StrsAre.nil))
local macro_rules | `(tactic| walk_at "my_len") => `(tactic| first | omega | (simp only [List.length_append, List.length_cons, List.length_nil, List.length_take, List.length_drop]; done) | (simp only [List.length_append, List.length_cons, List.length_nil, List.length_take, List.length_drop]; omega) | (simp; done))
local macro_rules | `(tactic| walk_at "binaryOp Add ref ref") => `(tactic| (k_here; (with_reducible show wpAny _ _ (binaryOp _ (.ref _) (.ref _)) _ _ _); k_dflt (refine' addT (by k_asm) (by k_asm) (by kmk_list) (by walk_at "my_strs") (by kmk_list) (by walk_at "my_strs") ?_ (by walk_at "my_len") (by walk_at "my_len")); walk_at "my_e"))
local macro_rules | `(tactic| walk_at "subscriptTail Name Slice ref ref") => `(tactic| (k_here; (with_reducible show wpAny _ _ (subscriptTail _ (.Slice none (some _) none _) (.ref _) (.ref _)) _ _ _); k_dflt (refine' sliceUptoT (by k_asm) (by k_asm) (by kmk_list) (by walk_at "my_strs") (by walk_at "my_k") ?_ (by walk_at "my_len") (by with_unfolding_all rfl) (by kmk_pure)); walk_at "my_e"))
local macro_rules | `(tactic| walk_at "subscriptTail Name Slice ref ref") => `(tactic| (k_here; (with_reducible show wpAny _ _ (subscriptTail _ (.Slice (some _) none none _) (.ref _) (.ref _)) _ _ _); k_dflt (refine' sliceFromT (by k_asm) (by k_asm) (by kmk_list) (by walk_at "my_strs") (by walk_at "my_k") ?_ (by walk_at "my_len") (by with_unfolding_all rfl) (by kmk_pure)); walk_at "my_e"))
local macro_rules | `(tactic| walk_at "subscriptTail Name Name ref int") => `(tactic| (k_here; (with_reducible show wpAny _ _ (subscriptTail _ _ (.ref _) (.int _ _)) _ _ _); k_dflt (refine' itemT (by kmk_list) (by assumption) (by omega) (by omega) (by walk_at "my_len") ?_ (by with_unfolding_all rfl)); walk_at "my_f"))
local macro_rules | `(tactic| walk_at "call type:list") => `(tactic| (k_here; (with_reducible show wpAny _ _ (call (.type _) [.ref _]) _ _ _); k_dflt (refine' copyT (by k_asm) (by k_asm) (by kmk_list) (by assumption) (by walk_at "my_len") ?_); walk_at "my_e"))
local macro_rules | `(tactic| walk_at "my_depth") => `(tactic| first | omega | (dsimp only [Around.deeper, Around.in1]; omega) | ((try simp only [depth_under_make, depth_under_kw, depth_in1, depth_deeper, depth_caller]); (try dsimp only); omega))
local macro_rules | `(tactic| walk_at "my_units") => `(tactic| first | omega | (dsimp only [Around.deeper, Around.in1]; omega) | ((try simp only [units_under_make, units_in1, units_deeper, Around.mark_units, units_caller]); (try dsimp only); omega))
local macro_rules | `(tactic| walk_at "my_rows") => `(tactic| first | assumption | exact TextsAll.keeps (Fr.keep (by k_asm)) (by assumption))
local macro_rules | `(tactic| walk_at "call ref") => `(tactic| (k_here; (with_reducible show wpAny _ _ (call (.ref 219) _) _ _ _); k_dflt (refine' callEnough (by k_asm) (by k_asm) (by assumption) (by walk_at "my_depth") (by walk_at "my_units") (by walk_at "my_h") (by kmk_list) (by walk_at "my_rows") (by kmk_list) (by assumption) (by assumption) (by walk_at "my_len") ?_); walk_at "my_f"))
section
noncomputable def stays (rows : List (List Str)) (base keys : List Str) : Nat → List Str → List Str
  | 0, late => late
  | k + 1, late => stays rows base keys k (if enough rows (base ++ keys.take k ++ late) then late else (keys[k]?.toList) ++ late)

inductive StayI (rows : List (List Str)) (xs ys : List Str) (a b c : Addr) (i : Nat) (m : Str → Option Value) (nx : List (Addr × Obj)) : Prop
  | mk (la : Addr) (lvs : List Value) (n : Nat) (late : List Str) (_ : nx = [(la, listOf lvs.toArray n)]) (_ : StrsAre lvs late) (_ : late.length ≤ i) (_ : stays rows xs ys (ys.length - i) late = stays rows xs ys ys.length []) (_ : ∀ y, y ≠ Str.ofString "k" → m y = if y = Str.ofString "late" then some (.ref la) else List.lookup y [(Str.ofString "keys", .ref c), (Str.ofString "base", .ref b), (Str.ofString "rows", .ref a)]) : StayI rows xs ys a b c i m nx
theorem spec_stays {prog : Program} {w : World} {mg mb : Str → Option Value} {p : Program} {loose : List Str} {mean : ExcName → Option Value} {A : Around} {s : Shared} {h₀ : Heap} {R : Result → Shared → Prop}
   {a b c : Addr} {xs ys : List Str} {rows : List (List Str)} {vs us ws : List Value}
   (G : Gd w mg mb p loose mean h₀) (st : h₀.StaysIn s.heap) (hr : A.depth + 20 < recursionLimit) (hu : A.units + 200 < cLine) (hh : A.handled = none)
   (ha : s.heap.IsList a vs.toArray) (hx : TextsAll s.heap vs rows) (hb : s.heap.IsList b us.toArray) (hy : StrsAre us xs) (hc : s.heap.IsList c ws.toArray) (hz : StrsAre ws ys) (hlr : ∀ r ∈ rows, r.length ≤ 1000) (hlx : xs.length ≤ 100) (hly : ys.length ≤ 100)
   (k : ∀ h' tk d rvs n, Ch [] s.heap h' → s.heap.get? d = none → h'.get? d = some (listOf rvs.toArray n) → StrsAre rvs (stays rows xs ys ys.length []) → R (.ok (.ret (.ref d))) { s with heap := h', toks := tk }) :
   codeAny (model prog w) A (.call (.ref 233) ⟨[.ref a, .ref b, .ref c], []⟩) R s := by
  refine enterK [] G st (by simp) (by omega) (by k_is) (by k_is) (BindsTo.of_eq rfl) (locs rfl) ?_ (by decide) rfl rfl rfl
  intro g L' h₁ hg st' G' F N C hlt
  have hg' : g = s.heap := hg
  subst hg'
  have X := G'.X
  have T := G'.T
  repeat' (first | walk1 | (dsimp only; walk1))
  all_goals (try k_data)
  all_goals (try k_data)
  (rename StrsAre ws _ => hz); (rename IsRange _ _ _ _ _ _ _ _ => hir); (rename Fr _ _ _ _ => hFr); (rename News _ _ _ _ => hNw)
  refine Stop.mk ⟨_, _, _, _, _, _, _, ys.length, _, _, (StayI rows xs ys a b c), rfl, hir, ?_, ?_, hFr, hNw, ?_, ?_, ?_⟩
  · exact small_down (by omega) (by omega) (by omega) (by omega)
  · rw [rangeSize_down]; split <;> omega
  · exact ⟨_, _, _, [], rfl, .nil, Nat.zero_le _, rfl, fun y hy => rfl⟩
  · rintro i m₁ nx h tk t I oI hi hoff ⟨la, lvs, n, late, rfl, hlate, hll, hst, hm⟩ F₁ N₁
    change Fr _ L' _ _ at F₁; change News _ L' _ _ at N₁
    replace F₁ := frCongr F₁ (m' := fun y => if y = Str.ofString "k" then some (.int (((ys.length : Int) - 1) + (i : Int) * (-1)) t) else if y = Str.ofString "late" then some (.ref la) else List.lookup y [(Str.ofString "keys", .ref c), (Str.ofString "base", .ref b), (Str.ofString "rows", .ref a)]) (fun y => by
      by_cases hy : y = Str.ofString "k"
      · simp [hy]
      · simp only [if_neg hy]; exact hm y hy)
    simp only [List.cons_append, List.nil_append] at N₁
    clear hFr hNw
    repeat' (first | walk1 | (dsimp only; walk1))
    all_goals (have hidx : (((ys.length : Int) - 1) + (i : Int) * (-1)).toNat = ys.length - (i + 1) := by omega)
    all_goals (have hlen : ys.length - i = (ys.length - (i + 1)) + 1 := by omega)
    all_goals (rw [hlen] at hst)
    · rename_i hen
      rw [hidx] at hen
      refine TurnE.mk ⟨_, _, _, [(la, listOf lvs.toArray n)], rfl, by assumption, newsSub (by assumption) (by k_sub), hoff, la, lvs, n, late, rfl, hlate, by omega, ?_, fun y hy => by simp only [if_neg hy]⟩
      rw [← hst, stays, if_pos hen]
    · (rename enough _ _ = false => hen); (rename StrsAre _ ([_] ++ late) => hnew); (rename ys[_]? = some _ => hyk)
      rw [hidx] at hen hyk
      refine turnOne (by assumption) (by assumption) (List.Mem.head _) (by k_mem) (by k_ne) ⟨_, _, 0, _, rfl, hnew, by simp only [List.length_append, List.length_cons, List.length_nil]; omega, ?_, fun y hy => by simp only [if_neg hy]; split <;> rfl⟩
      rw [← hst, stays, if_neg (by rw [hen]; exact Bool.false_ne_true), hyk]
      rfl
  · rintro m₁ nx h tk ⟨la, lvs, n, late, rfl, hlate, hll, hst, hm⟩ F₁ N₁
    have hl1 : m₁ (Str.ofString "late") = some (.ref la) := hm _ (by decide)
    walk1
    walk1
    refine nameX_L F₁ hl1 ?_
    show R (.ok (.ret (.ref la))) _
    rw [Nat.sub_self] at hst
    exact k _ _ la lvs n (left hg F₁) (left_new hg N₁ (.head _) (by simp)) (N₁.get (.head _)) (hst ▸ hlate)
end
section
local macro_rules | `(tactic| walk_at "my_p") => `(tactic| skip)

noncomputable def askOf : PySem.Stmt → Arguments × List PySem.Stmt × Scope × Pos
  | .FunctionDef _ params b _ _ _ sc _ _ pos => (params, b, sc, pos)
  | _ => (⟨[], [], none, [], [], none, []⟩, [], ⟨.function, [], false, false, []⟩, ⟨0, 0, 0, 0⟩)
noncomputable def bodyOf : PySem.Stmt → List PySem.Stmt
  | .FunctionDef _ _ b _ _ _ _ _ _ _ => b
  | _ => []
noncomputable def askParts : Arguments × List PySem.Stmt × Scope × Pos := askOf ((bodyOf (PySem.Challenge.pw_qz0007_01.main.body.getD 31 (.Pass ⟨0, 0, 0, 0⟩))).getD 0 (.Pass ⟨0, 0, 0, 0⟩))
noncomputable abbrev askPos : Pos := askParts.2.2.2
/-- the function that _law_ask hands out -/
inductive AskFn (h : Heap) (fa ra ha da : Addr) (part : Int) : Prop
  | mk (qual doc pm c' ctv c1 c2 c3 c4 tp : _) (_ : h.get? fa = some (fnMade (Str.ofString "ask") qual askParts.1 askParts.2.1 askParts.2.2.1 [(Str.ofString "rows", c1), (Str.ofString "part", c4), (Str.ofString "heard", c2), (Str.ofString "dull", c3)] doc pm c' ctv)) (_ : h.CodeRec (.ref c') qual) (_ : h.IsCell c1 (some (.ref ra))) (_ : h.IsCell c2 (some (.ref ha))) (_ : h.IsCell c3 (some (.ref da))) (_ : h.IsCell c4 (some (.int part tp))) : AskFn h fa ra ha da part
/-- the table of code objects, before and behind the first ask -/
noncomputable def AskTab (h : Heap) (ps : Array Value) : Prop := h.get? 221 = some (tabObj ps) ∧ TriplesOk ps.toList ∧ (codeAmong askPos ps.toList = none ∨ ∃ c' , codeAmong askPos ps.toList = some (.ref c') ∧ h.CodeRec (.ref c') (Str.ofString "_law_ask.<locals>.ask"))

theorem tab_apart {h : Heap} {ps : Array Value} {c' : Addr} {q : Str} (h1 : h.get? 221 = some (tabObj ps)) (h2 : TriplesOk ps.toList) (h3 : h.CodeRec (.ref c') q) : c' ≠ 221 := by
  rintro rfl
  obtain ⟨c, oc, vs, t, e, ho, hd, hv⟩ := h3
  cases e
  rw [h1] at ho
  cases ho
  cases hd
  obtain ⟨l⟩ := ps
  match l, h2 with
  | [], _ => simp at hv
  | .int _ _ :: .int _ _ :: _ :: _, _ => simp at hv

theorem codeRec_left {g h hz : Heap} {ps : Array Value} {c' L : Addr} {q : Str} {m : Str → Option Value} (hg : g = hideAll h ([(221, tabObj ps)].map (·.1))) (h1 : h.get? 221 = some (tabObj ps)) (h2 : TriplesOk ps.toList) (h3 : h.CodeRec (.ref c') q) (F : Fr g L hz m) : hz.CodeRec (.ref c') q := by
  have hne := tab_apart h1 h2 h3
  obtain ⟨c, oc, vs, t, e, ho, hd, hv⟩ := h3
  cases e
  exact ⟨_, oc, vs, t, rfl, F.keep _ _ (under_get hg ho fun q hq => by rw [List.mem_singleton.mp hq]; exact hne.symm), hd, hv⟩

theorem spec_mkask {prog : Program} {w : World} {mg mb : Str → Option Value} {p : Program} {loose : List Str} {mean : ExcName → Option Value} {A : Around} {s : Shared} {h₀ : Heap} {R : Result → Shared → Prop}
   {ra ha da : Addr} {part : Int} {tp : Tok} {ps : Array Value}
   (G : Gd w mg mb p loose mean h₀) (st : h₀.StaysIn s.heap) (hr : A.depth + 20 < recursionLimit) (hu : A.units + 200 < cLine) (hh : A.handled = none) (hT : AskTab s.heap ps) (h0 : h₀.get? 221 = none)
   (k : ∀ h' tk fa ps', Ch [221] s.heap h' → AskTab h' ps' → AskFn h' fa ra ha da part → s.heap.get? fa = none → R (.ok (.ret (.ref fa))) { s with heap := h', toks := tk }) :
   codeAny (model prog w) A (.call (.ref 226) ⟨[.ref ra, .ref ha, .ref da, .int part tp], []⟩) R s := by
  obtain ⟨ht, htr, hcase⟩ := hT
  refine enterC [(221, tabObj ps)] G st (by simp [ht, h0]) (by omega) (by k_is) (by k_is) (BindsTo.of_eq rfl) rfl (by decide +kernel) ?_ rfl rfl rfl
  intro g L' h₁ tk cells hg st' G' F N Y C hlt
  obtain ⟨o1, o2, o3, o4, rfl, d1, d2, d3, d4⟩ := CellsAre.four Y
  simp only [List.cons_append, List.nil_append] at N
  have X := G'.X
  have T := G'.T
  have CH := G'.C
  k_lt hlt
  rcases hcase with hnone | ⟨c', hhit, hrec⟩
  · walk1
    refine nestDef_K rfl rfl rfl ?_
    refine' nest_K F N T CH rfl ?U htr hnone rfl ?_
    case U => k_updF
    intro f c' oc vs t ctv doc h' tk' F' N' hd' hv' l1 l2
    dsimp only at N'
    k_lt l1
    k_lt2 l2
    repeat' (first | walk1 | (dsimp only; walk1))
    show R (.ok (.ret (.ref f))) _
    (rename Fr _ _ _ _ => Fz); (rename News _ _ _ _ => Nz)
    refine k _ _ f _ (left hg Fz) ⟨Nz.get (by k_mem), ?_, .inr ⟨c', ?_, ?_⟩⟩ ⟨_, _, _, c', _, _, _, _, _, tp, Nz.get (.head _), codeRec_news Nz (by k_mem) hd' hv', ⟨_, Nz.get (by k_mem), d4⟩, ⟨_, Nz.get (by k_mem), d3⟩, ⟨_, Nz.get (by k_mem), d2⟩, ⟨_, Nz.get (by k_mem), d1⟩⟩ (left_new hg Nz (.head _) ?_)
    · rw [Array.toList_append]; exact TriplesOk_snoc _ _ _ _ htr
    · rw [Array.toList_append]; exact codeAmong_snoc _ htr hnone
    · exact codeRec_news Nz (by k_mem) hd' hv'
    · intro q hq; rw [List.mem_singleton.mp hq]; k_ne
  · walk1
    refine nestDef_K rfl rfl rfl ?_
    refine nestHit_K F N T CH rfl (by k_mem) htr hhit rfl ?_
    intro f ctv doc h' tk' F' N' l1
    k_lt l1
    repeat' (first | walk1 | (dsimp only; walk1))
    show R (.ok (.ret (.ref f))) _
    (rename Fr _ _ _ _ => Fz); (rename News _ _ _ _ => Nz)
    have hrec' := codeRec_left hg ht htr hrec Fz
    refine k _ _ f _ (left hg Fz) ⟨Nz.get (by k_mem), htr, .inr ⟨c', hhit, ?_⟩⟩ ⟨_, _, _, c', _, _, _, _, _, tp, Nz.get (.head _), ?_, ⟨_, Nz.get (by k_mem), d4⟩, ⟨_, Nz.get (by k_mem), d3⟩, ⟨_, Nz.get (by k_mem), d2⟩, ⟨_, Nz.get (by k_mem), d1⟩⟩ (left_new hg Nz (.head _) ?_)
    · exact hrec'
    · exact hrec'
    · intro q hq; rw [List.mem_singleton.mp hq]; k_ne
end
local macro_rules | `(tactic| walk_at "my_size") => `(tactic| (rw [List.size_toArray, sizeLine_eq]; (try rw [strs_len (by assumption)]); omega))
local macro_rules | `(tactic| walk_at "call builtin:list.clear") => `(tactic| (k_here; (with_reducible show wpAny _ _ (call (.builtin _) [.ref _]) _ _ _); k_dflt (refine' clearAny (by k_asm) (by k_asm) (by k_updF) (by walk_at "my_size") ?_); walk_at "my_f"))
local macro_rules | `(tactic| walk_at "subscriptTail Name Slice ref ref") => `(tactic| (k_here; (with_reducible show wpAny _ _ (subscriptTail _ (.Slice none none (some _) _) (.ref _) (.ref _)) _ _ _); k_dflt (refine' slicePartT (by k_asm) (by k_asm) (by kmk_list) (by walk_at "my_strs") (by omega) ?_ (by walk_at "my_len") (by with_unfolding_all rfl) (by kmk_pure)); walk_at "my_e"))
section
theorem nameFG {M : Model} {A : Around} {E : Value → Shared → Prop} {s : Shared} {g : Heap} {L a c : Addr} {m : Str → Option Value} {cn : Str} {cs : Scope} {ccd : Value} {cl : List (Str × Addr)} {x : Str} {pos : Pos} {v : Value} {Q : Value → Shared → Prop}
    (F : Fr g L s.heap m) (hc : cl.lookup x = some c) (hv : g.IsCell c (some v)) (h : Q v s)
    (hk : cs.kind = .function) (hx : (envX cn cs L a ccd cl).kindOf x = some .free) (hb : (x == ("__debug__" : Str)) = false := by decide) (hn : (x == ("__classdict__" : Str)) = false := by decide) :
    wpAny M A (eval (.Name x pos) (envX cn cs L a ccd cl)) Q E s := wpAny_Name (wpAny_loadName_free hk hx hc (hv.keeps F.keep) h hn) hb
local macro_rules | `(tactic| walk_at "eval Name") => `(tactic| (k_here; k_dflt (refine' nameFG ?F ?c ?v ?_ ?a ?b; (case b => rfl); (case a => rfl); (case F => k_asm); (case c => rfl); (case v => assumption))))
set_option maxHeartbeats 1000000
noncomputable def ansOf (rows : List (List Str)) (dull : List Int) (lot : List Str) : Str :=
  if dull.any (· == (lot.length : Int)) then Str.ofString "unknown" else if enough rows lot then Str.ofString "unsat" else Str.ofString "sat"

theorem spec_ask {prog : Program} {w : World} {mg mb : Str → Option Value} {p : Program} {loose : List Str} {mean : ExcName → Option Value} {A : Around} {s : Shared} {h₀ : Heap} {R : Result → Shared → Prop}
   {fa ra ha da la : Addr} {part : Int} {hvs lvs rvs dvs : List Value} {nh nl : Nat} {lot : List Str} {rows : List (List Str)} {dull : List Int}
   (G : Gd w mg mb p loose mean h₀) (st : h₀.StaysIn s.heap) (hr : A.depth + 30 < recursionLimit) (hu : A.units + 300 < cLine) (hh : A.handled = none)
   (hf : AskFn h₀ fa ra ha da part) (hra : h₀.IsList ra rvs.toArray) (hrs : TextsAll h₀ rvs rows) (hda : h₀.IsList da dvs.toArray) (hds : IntsAre dvs dull)
   (hha : s.heap.get? ha = some (listOf hvs.toArray nh)) (hha0 : h₀.get? ha = none) (hla : s.heap.get? la = some (listOf lvs.toArray nl)) (hla0 : h₀.get? la = none) (hne : la ≠ ha) (hlot : StrsAre lvs lot)
   (hp : 1 ≤ part) (hp2 : part ≤ 2) (hlr : ∀ r ∈ rows, r.length ≤ 1000) (hll : lot.length ≤ 100) (hhl : hvs.length ≤ 10000) (hdl : dull.length ≤ 10)
   (k : ∀ (h' : Heap) (tk : Nat) (t r D : Addr) (tk' nh' nr nD : Nat) (rs dvs' : List Value) (rxs : List Str), Ch [ha, la] s.heap h' → h'.get? ha = some (listOf (hvs ++ [Value.ref D]).toArray nh') → h'.get? D = some (listOf (List.toArray dvs') nD) → StrsAre dvs' lot → s.heap.get? D = none → h'.get? t = some { cls := .type "tuple", data := .seq [Value.str (ansOf rows dull lot) tk', Value.ref r].toArray } → s.heap.get? t = none →
      h'.get? r = some (listOf (List.toArray rs) nr) → StrsAre rs rxs → s.heap.get? r = none → rxs.length ≤ lot.length → (ansOf rows dull lot = Str.ofString "unsat" → part = 1 → rxs = lot) → R (.ok (.ret (.ref t))) { s with heap := h', toks := tk }) :
   codeAny (model prog w) A (.call (.ref fa) ⟨[.ref la], []⟩) R s := by
  have hpt : askParts = askParts := rfl
  conv at hpt => rhs; whnf
  obtain ⟨qual, doc, pm, c', ctv, c1, c2, c3, c4, tp, hfo, hrec, hc1, hc2, hc3, hc4⟩ := hf
  rw [hpt] at hfo
  dsimp only at hfo
  clear hpt
  refine enter [(ha, listOf hvs.toArray nh), (la, listOf lvs.toArray nl)] G st ?hled (by omega) (st _ _ hfo) rfl ?hcd (BindsTo.of_eq rfl) ?hloc ?_ ?hcell ?h1 ?h2 ?h3
  case hled => intro q hq; rcases List.mem_cons.mp hq with rfl | hq; exact ⟨hha, hha0⟩; rw [List.mem_singleton.mp hq]; exact ⟨hla, hla0⟩
  case hcd =>
    obtain ⟨c, oc, vs, t, e, ho, hd, hv⟩ := hrec
    exact ⟨c, oc, vs, t, e, st _ _ ho, hd, hv⟩
  case hloc => exact locs rfl
  case hcell => decide +kernel
  case h1 => rfl
  case h2 => rfl
  case h3 => rfl
  intro g L' h₁ hg st' G' F N C hlt
  have X := G'.X
  have T := G'.T
  k_lt hlt
  replace hne := neN hne
  have hnh : ∀ q ∈ [(ha, listOf hvs.toArray nh), (la, listOf lvs.toArray nl)], q.1 = ha ∨ q.1 = la := fun q hq => by
    rcases List.mem_cons.mp hq with rfl | hq
    · exact .inl rfl
    · rw [List.mem_singleton.mp hq]; exact .inr rfl
  replace hc1 := hc1.keeps st'
  replace hc2 := hc2.keeps st'
  replace hc3 := hc3.keeps st'
  replace hc4 := hc4.keeps st'
  replace hra := hra.at (st' _)
  replace hda := hda.at (st' _)
  replace hrs := hrs.keeps st'
  repeat' (first | walk1 | (dsimp only; walk1))
  all_goals ((rename News _ _ _ _ => Nz); (rename Fr _ _ _ _ => Fz); (rename StrsAre lvs _ => hlot))
  · rename (dull.any _ = true) => hd1
    have ea : ansOf rows dull lot = Str.ofString "unknown" := if_pos hd1
    rw [ea] at k
    refine k _ _ _ _ _ _ _ _ _ _ _ [] (left hg Fz) (Nz.get (by k_mem)) (Nz.get (by k_mem)) hlot (left_new hg Nz (by k_mem) ?_) (Nz.get (.head _)) (left_new hg Nz (.head _) ?_) (Nz.get (.tail _ (.head _))) .nil (left_new hg Nz (.tail _ (.head _)) ?_) (Nat.zero_le _) ?_
    · intro q hq; rcases hnh q hq with e | e <;> rw [e] <;> k_ne
    · intro q hq; rcases hnh q hq with e | e <;> rw [e] <;> k_ne
    · intro q hq; rcases hnh q hq with e | e <;> rw [e] <;> k_ne
    · intro e; exact absurd e (by decide)
  · rename (dull.any _ = false) => hd1
    rename (enough _ _ = true) => hd2
    have ea : ansOf rows dull lot = Str.ofString "unsat" := by unfold ansOf; rw [if_neg (by rw [hd1]; exact Bool.false_ne_true), if_pos hd2]
    rw [ea] at k
    (rename (part = 1 → _) => hone); (rename (List.length _ ≤ lot.length) => hle); (rename StrsAre _ _ => hws)
    refine k _ _ _ _ _ _ _ _ _ _ _ _ (left hg Fz) (Nz.get (by k_mem)) (Nz.get (by k_mem)) hlot (left_new hg Nz (by k_mem) ?_) (Nz.get (.head _)) (left_new hg Nz (.head _) ?_) (Nz.get (.tail _ (.head _))) (by assumption) (left_new hg Nz (.tail _ (.head _)) ?_) hle fun _ => hone
    · intro q hq; rcases hnh q hq with e | e <;> rw [e] <;> k_ne
    · intro q hq; rcases hnh q hq with e | e <;> rw [e] <;> k_ne
    · intro q hq; rcases hnh q hq with e | e <;> rw [e] <;> k_ne
  · rename (dull.any _ = false) => hd1
    rename (enough _ _ = false) => hd2
    have ea : ansOf rows dull lot = Str.ofString "sat" := by unfold ansOf; rw [if_neg (by rw [hd1]; exact Bool.false_ne_true), if_neg (by rw [hd2]; exact Bool.false_ne_true)]
    rw [ea] at k
    refine k _ _ _ _ _ _ _ _ _ _ _ [] (left hg Fz) (Nz.get (by k_mem)) (Nz.get (by k_mem)) hlot (left_new hg Nz (by k_mem) ?_) (Nz.get (.head _)) (left_new hg Nz (.head _) ?_) (Nz.get (.tail _ (.head _))) .nil (left_new hg Nz (.tail _ (.head _)) ?_) (Nat.zero_le _) ?_
    · intro q hq; rcases hnh q hq with e | e <;> rw [e] <;> k_ne
    · intro q hq; rcases hnh q hq with e | e <;> rw [e] <;> k_ne
    · intro q hq; rcases hnh q hq with e | e <;> rw [e] <;> k_ne
    · intro e; exact absurd e (by decide)

/-- the call of ask, seen from a frame -/
theorem callAsk {prog : Program} {w : World} {mg mb : Str → Option Value} {p : Program} {loose : List Str} {mean : ExcName → Option Value} {A : Around} {E : Value → Shared → Prop} {s : Shared} {g : Heap} {L : Addr} {m : Str → Option Value} {rest : List (Addr × Obj)} {u : Obj → List (Addr × Obj)} {Q : Value → Shared → Prop}
   {fa ra ha da la : Addr} {part : Int} {hvs lvs rvs dvs : List Value} {nh nl : Nat} {lot : List Str} {rows : List (List Str)} {dull : List Int}
   (F : Fr g L s.heap m) (N : News g L s.heap ((la, listOf lvs.toArray nl) :: rest)) (U : UpdF ha (listOf hvs.toArray nh) rest u) (hla : ∀ q ∈ rest, q.1 ≠ la)
   (G : Gd w mg mb p loose mean g) (hr : A.depth + 30 < recursionLimit) (hu : A.units + 300 < cLine) (hh : A.handled = none)
   (hf : AskFn g fa ra ha da part) (hra : g.IsList ra rvs.toArray) (hrs : TextsAll g rvs rows) (hda : g.IsList da dvs.toArray) (hds : IntsAre dvs dull) (hlot : StrsAre lvs lot)
   (hp : 1 ≤ part) (hp2 : part ≤ 2) (hlr : ∀ r ∈ rows, r.length ≤ 1000) (hll : lot.length ≤ 100) (hhl : hvs.length ≤ 10000) (hdl : dull.length ≤ 10)
   (k : ∀ (h' : Heap) (tk : Nat) (t r D : Addr) (tk' nh' nr nD : Nat) (rs dvs' : List Value) (rxs : List Str), Fr g L h' m →
      News g L h' ((t, { cls := .type "tuple", data := .seq [Value.str (ansOf rows dull lot) tk', Value.ref r].toArray }) :: (r, listOf (List.toArray rs) nr) :: (D, listOf (List.toArray dvs') nD) :: u (listOf (hvs ++ [Value.ref D]).toArray nh')) →
      (∀ q ∈ rest, q.1 ≠ t) → (∀ q ∈ rest, q.1 ≠ r) → (∀ q ∈ rest, q.1 ≠ D) → StrsAre dvs' lot → StrsAre rs rxs → rxs.length ≤ lot.length → (ansOf rows dull lot = Str.ofString "unsat" → part = 1 → rxs = lot) → Q (.ref t) { s with heap := h', toks := tk }) :
   wpAny (model prog w) A (call (.ref fa) [.ref la]) Q E s := by
  have hm := UpdF.mem' U
  have hha := N (ha, listOf hvs.toArray nh) (.tail _ hm)
  have hla' := N (la, listOf lvs.toArray nl) (.head _)
  have hne : la ≠ ha := (hla _ hm).symm
  refine wpAny_call (spec_ask G F.keep hr hu hh hf hra hrs hda hds hha.1 hha.2.2 hla'.1 hla'.2.2 hne hlot hp hp2 hlr hll hhl hdl fun h' tk t r D tk' nh' nr nD rs dvs' rxs c e1 e2 e3 e4 e5 e6 e7 e8 e9 e10 e11 => ?_)
  have F' : Fr g L h' m := c.fr F (by
    intro a ha'
    rcases List.mem_cons.mp ha' with rfl | ha'
    · exact hha.2
    · rw [List.mem_singleton.mp ha']; exact hla'.2)
  have off : ∀ {a : Addr}, s.heap.get? a = none → ∀ q ∈ rest, q.1 ≠ a := fun hn q hq e => by
    have := (N q (.tail _ hq)).1
    rw [e, hn] at this; cases this
  have N1 : News g L h' (u (listOf (hvs ++ [Value.ref D]).toArray nh')) := by
    obtain ⟨pre, post, rfl, hg, a, b⟩ := U.split
    rw [hg]
    intro q hq
    rcases List.mem_append.mp hq with hq | hq
    · have hq' : q ∈ pre ++ (ha, listOf hvs.toArray nh) :: post := List.mem_append_left _ hq
      have z := N q (.tail _ hq')
      exact ⟨c _ _ z.1 (by simp [a q hq, hla q hq']), z.2⟩
    · rcases List.mem_cons.mp hq with rfl | hq
      · exact ⟨e1, hha.2⟩
      · have hq' : q ∈ pre ++ (ha, listOf hvs.toArray nh) :: post := List.mem_append_right _ (.tail _ hq)
        have z := N q (.tail _ hq')
        exact ⟨c _ _ z.1 (by simp [b q hq, hla q hq']), z.2⟩
  exact k h' tk t r D tk' nh' nr nD rs dvs' rxs F' (new_ok F e6 e5 (new_ok F e9 e7 (new_ok F e4 e2 N1))) (off e6) (off e9) (off e4) e3 e8 e10 e11
end
section
set_option maxHeartbeats 1000000
/-- a Shrinker's own dict -/
inductive HalverD (fa : Addr) (most asked : Int) (sure : Bool) (es : List DictEntry) : Prop
  | mk (h1 h2 h3 h4 k1 k2 k3 k4 t1 t2 : _) (_ : es = [⟨h1, .str (Str.ofString "ask") k1, .ref fa⟩, ⟨h2, .str (Str.ofString "most") k2, .int most t1⟩, ⟨h3, .str (Str.ofString "asked") k3, .int asked t2⟩, ⟨h4, .str (Str.ofString "is_sure") k4, .bool sure⟩]) : HalverD fa most asked sure es

section
variable {prog : Program} {w : World} {A : Around} {E : Value → Shared → Prop} {s : Shared} {g : Heap} {L x dx : Addr} {m : Str → Option Value} {news news' : List (Addr × Obj)} {Q : Unit → Shared → Prop} {h1 h2 h3 h4 : Int} {k1 k2 k3 k4 : Tok} {v1 v2 v3 v4 v : Value} {n : Nat}
theorem Upd.mem' {d : Addr} {o o' : Obj} {l l' : List (Addr × Obj)} (U : Upd d o o' l l') : (d, o) ∈ l := by
  obtain ⟨pre, post, rfl, _, _⟩ := U.split; simp
theorem setSure (F : Fr g L s.heap m) (X : (Mine.hd.heap_39 w.params).In g) (N : News g L s.heap news) (hx : (x, instObj 176 dx) ∈ news)
    (U : Upd dx (dictOf [⟨h1, .str (Str.ofString "ask") k1, v1⟩, ⟨h2, .str (Str.ofString "most") k2, v2⟩, ⟨h3, .str (Str.ofString "asked") k3, v3⟩, ⟨h4, .str (Str.ofString "is_sure") k4, v4⟩] n)
      (dictOf [⟨h1, .str (Str.ofString "ask") k1, v1⟩, ⟨h2, .str (Str.ofString "most") k2, v2⟩, ⟨h3, .str (Str.ofString "asked") k3, v3⟩, ⟨h4, .str (Str.ofString "is_sure") k4, v⟩] n) news news')
    (h : ∀ h', Fr g L h' m → News g L h' news' → Q () { s with heap := h', toks := s.toks + 2 }) : wpAny (model prog w) A (setAttr (.ref x) (Str.ofString "is_sure") v) Q E s := by
  refine set_dict F X N (InstAt.of_news N hx (Upd.mem' U)) rfl (by k_is) (by k_is) (by k_is) (by k_is) (by rfl) (by rfl) U (by simp) h
theorem setAsked (F : Fr g L s.heap m) (X : (Mine.hd.heap_39 w.params).In g) (N : News g L s.heap news) (hx : (x, instObj 176 dx) ∈ news)
    (U : Upd dx (dictOf [⟨h1, .str (Str.ofString "ask") k1, v1⟩, ⟨h2, .str (Str.ofString "most") k2, v2⟩, ⟨h3, .str (Str.ofString "asked") k3, v3⟩, ⟨h4, .str (Str.ofString "is_sure") k4, v4⟩] n)
      (dictOf [⟨h1, .str (Str.ofString "ask") k1, v1⟩, ⟨h2, .str (Str.ofString "most") k2, v2⟩, ⟨h3, .str (Str.ofString "asked") k3, v⟩, ⟨h4, .str (Str.ofString "is_sure") k4, v4⟩] n) news news')
    (h : ∀ h', Fr g L h' m → News g L h' news' → Q () { s with heap := h', toks := s.toks + 2 }) : wpAny (model prog w) A (setAttr (.ref x) (Str.ofString "asked") v) Q E s := by
  refine set_dict F X N (InstAt.of_news N hx (Upd.mem' U)) rfl (by k_is) (by k_is) (by k_is) (by k_is) (by rfl) (by rfl) U (by simp) h
end
local macro_rules | `(tactic| walk_at "setAttr ref") => `(tactic| (k_here; (with_reducible show wpAny _ _ (setAttr _ (.ofString "is_sure") _) _ _ _); k_dflt (refine' setSure (by k_asm) (by k_asm) (by k_asm) (by k_mem) (by k_upd) ?_); intro h' F' N'; (try k_sweep)))
local macro_rules | `(tactic| walk_at "setAttr ref") => `(tactic| (k_here; (with_reducible show wpAny _ _ (setAttr _ (.ofString "asked") _) _ _ _); k_dflt (refine' setAsked (by k_asm) (by k_asm) (by k_asm) (by k_mem) (by k_upd) ?_); intro h' F' N'; (try k_sweep)))
theorem fnAt_keep {q : Addr} {h h' : Heap} (x : FnAt q h) (k : ∀ b o, h.get? b = some o → h'.get? b = some o) : FnAt q h' := by
  obtain ⟨oc, od, fd, sl, e⟩ := x
  exact ⟨oc, od, fd, sl, k _ _ e⟩
theorem AskFn.fnAt {h : Heap} {fa ra ha da : Addr} {part : Int} (x : AskFn h fa ra ha da part) : FnAt fa h := by
  obtain ⟨qual, doc, pm, c', ctv, c1, c2, c3, c4, tp, hfo, _⟩ := x
  exact ⟨_, _, _, _, hfo⟩
theorem AskFn.keeps {h h' : Heap} {fa ra ha da : Addr} {part : Int} (x : AskFn h fa ra ha da part) (k : ∀ b o, h.get? b = some o → h'.get? b = some o) : AskFn h' fa ra ha da part := by
  obtain ⟨qual, doc, pm, c', ctv, c1, c2, c3, c4, tp, hfo, hrec, hc1, hc2, hc3, hc4⟩ := x
  obtain ⟨c, oc, vs, t, e, ho, hd, hv⟩ := hrec
  exact ⟨qual, doc, pm, c', ctv, c1, c2, c3, c4, tp, k _ _ hfo, ⟨c, oc, vs, t, e, k _ _ ho, hd, hv⟩, hc1.keeps k, hc2.keeps k, hc3.keeps k, hc4.keeps k⟩
local macro_rules | `(tactic| walk_at "FnAt") => `(tactic| (k_dflt (exact fnAt_keep (by assumption) (Fr.keep (by k_asm)))))
local macro_rules | `(tactic| walk_at "callWith ref") => `(tactic| (k_here; k_dflt (refine' callWith_F (by exact fnAt_keep (by assumption) (Fr.keep (by k_asm))) ?_)))
structure HSt where
  asked : Nat
  sure : Bool
  heard : List (List Str)

/-- what one question gives: is the answer a list, and the state behind it -/
noncomputable def askOnce (rows : List (List Str)) (dull : List Int) (most : Nat) (st : HSt) (keys : List Str) : Bool × HSt :=
  if st.asked ≥ most then (false, { st with sure := false })
  else if ansOf rows dull keys = Str.ofString "unsat" then (true, ⟨st.asked + 1, st.sure, st.heard ++ [keys]⟩)
  else if ansOf rows dull keys = Str.ofString "sat" then (false, ⟨st.asked + 1, st.sure, st.heard ++ [keys]⟩)
  else (false, ⟨st.asked + 1, false, st.heard ++ [keys]⟩)

/-- the state of a Shrinker x (its dict dx) and of the list ha that its ask keeps -/
structure Halver (h : Heap) (x dx ha fa : Addr) (most : Nat) (st : HSt) : Prop where
  hx : h.get? x = some (instObj 176 dx)
  hd : ∃ es n, h.get? dx = some (dictOf es n) ∧ HalverD fa most st.asked st.sure es
  hh : ∃ hvs n, h.get? ha = some (listOf (List.toArray hvs) n) ∧ TextsAll (hideAll h [x, dx, ha]) hvs st.heard

theorem strs_of_carried : ∀ {ys : List Value} {xs : List Str}, CarriedAll ys (xs.map PyData.str) → StrsAre ys xs
  | _, [], h => by cases h; exact .nil
  | _, x :: r, h => by
    simp only [List.map_cons] at h
    cases h with
    | cons c t => cases c with | str y tk => exact .cons _ _ (strs_of_carried t)
theorem textsAll_hide {W : List Addr} {g h h' : Heap} {L : Addr} {m : Str → Option Value} (hg : g = hideAll h W) (F : Fr g L h' m) : ∀ {vs : List Value} {rs : List (List Str)}, TextsAll g vs rs → TextsAll (hideAll h' W) vs rs
  | _, _, .nil => .nil
  | _, _, .cons ⟨vs, ⟨o, ho, r⟩, b⟩ t => .cons ⟨vs, ⟨o, hideAll_get _ (F.keep _ _ ho) (fun hm => by rw [hg, hideAll_none _ hm] at ho; cases ho), r⟩, b⟩ (textsAll_hide hg F t)
theorem textsAll_snoc {h : Heap} {a : Addr} {xs : List Str} (x : Texts h a xs) : ∀ {vs : List Value} {rs : List (List Str)}, TextsAll h vs rs → TextsAll h (vs ++ [.ref a]) (rs ++ [xs])
  | _, _, .nil => .cons x .nil
  | _, _, .cons y t => .cons y (textsAll_snoc x t)
theorem texts_hide {W : List Addr} {g h' : Heap} {L a : Addr} {news : List (Addr × Obj)} {vs : List Value} {n : Nat} {xs : List Str} (N : News g L h' news) (hm : (a, listOf vs.toArray n) ∈ news) (hx : StrsAre vs xs) (hn : a ∉ W) : Texts (hideAll h' W) a xs :=
  ⟨vs, ⟨_, hideAll_get _ (N.get hm) hn, rfl, n, rfl⟩, hx⟩

/-- a Shrinker with the lots that its ask has heard, as values -/
structure HalverX (h : Heap) (x dx ha fa : Addr) (most : Nat) (st : HSt) (hvs : List Value) : Prop where
  hx : h.get? x = some (instObj 176 dx)
  hd : ∃ es n, h.get? dx = some (dictOf es n) ∧ HalverD fa most st.asked st.sure es
  hh : ∃ n, h.get? ha = some (listOf (List.toArray hvs) n)
/-- what one question adds to what was heard -/
inductive HeardTo (h h' : Heap) (W : List Addr) (hvs hvs' : List Value) (old new : List (List Str)) (keys : List Str) : Prop
  | mk (keep : ∀ vs rs, TextsAll (hideAll h W) vs rs → TextsAll (hideAll h' W) vs rs) (d : (hvs' = hvs ∧ new = old) ∨ ∃ D, hvs' = hvs ++ [Value.ref D] ∧ new = old ++ [keys] ∧ Texts (hideAll h' W) D keys) : HeardTo h h' W hvs hvs' old new keys
theorem heardSame {W : List Addr} {g h h' : Heap} {L : Addr} {m : Str → Option Value} {hvs : List Value} {old : List (List Str)} {keys : List Str} (hg : g = hideAll h W) (F : Fr g L h' m) : HeardTo h h' W hvs hvs old old keys :=
  ⟨fun _ _ t => textsAll_hide hg F (hg ▸ t), .inl ⟨rfl, rfl⟩⟩
theorem heardMore {W : List Addr} {g h h' : Heap} {L D : Addr} {m : Str → Option Value} {hvs : List Value} {old : List (List Str)} {keys : List Str} (hg : g = hideAll h W) (F : Fr g L h' m) (T : Texts (hideAll h' W) D keys) : HeardTo h h' W hvs (hvs ++ [Value.ref D]) old (old ++ [keys]) keys :=
  ⟨fun _ _ t => textsAll_hide hg F (hg ▸ t), .inr ⟨D, rfl, rfl, T⟩⟩
theorem spec_enoughX {prog : Program} {w : World} {mg mb : Str → Option Value} {p : Program} {loose : List Str} {mean : ExcName → Option Value} {A : Around} {s : Shared} {h₀ : Heap} {R : Result → Shared → Prop}
   {x dx fa ra ha da ka : Addr} {part : Int} {kvs rvs dvs : List Value} {keys : List Str} {rows : List (List Str)} {dull : List Int} {most : Nat} {hst : HSt} {hvs : List Value}
   (G : Gd w mg mb p loose mean h₀) (st : h₀.StaysIn s.heap) (hr : A.depth + 40 < recursionLimit) (hu : A.units + 400 < cLine) (hh : A.handled = none)
   (hf : AskFn h₀ fa ra ha da part) (hra : h₀.IsList ra rvs.toArray) (hrs : TextsAll h₀ rvs rows) (hda : h₀.IsList da dvs.toArray) (hds : IntsAre dvs dull)
   (hx0 : h₀.get? x = none) (hdx0 : h₀.get? dx = none) (hha0 : h₀.get? ha = none)
   (H : HalverX s.heap x dx ha fa most hst hvs) (hka : s.heap.IsList ka kvs.toArray) (hne : ka ≠ ha) (hkeys : StrsAre kvs keys)
   (hp : 1 ≤ part) (hp2 : part ≤ 2) (hlr : ∀ r ∈ rows, r.length ≤ 1000) (hll : keys.length ≤ 100) (hhl : hvs.length ≤ 5000) (hdl : dull.length ≤ 10) (hm : most ≤ 5000) (hasked : hst.asked ≤ 5000)
   (k : ∀ (h' : Heap) (tk : Nat) (v : Value) (hvs' : List Value), Ch [x, dx, ha] s.heap h' → HalverX h' x dx ha fa most (askOnce rows dull most hst keys).2 hvs' → HeardTo s.heap h' [x, dx, ha] hvs hvs' hst.heard (askOnce rows dull most hst keys).2.heard keys →
      (match (askOnce rows dull most hst keys).1 with
        | false => v = .none
        | true => ∃ d zs zvs n, v = .ref d ∧ s.heap.get? d = none ∧ h'.get? d = some (listOf (List.toArray zvs) n) ∧ StrsAre zvs zs ∧ (part = 1 → zs = keys)) →
      R (.ok (.ret v)) { s with heap := h', toks := tk }) :
   codeAny (model prog w) A (.call (.ref 161) ⟨[.ref x, .ref ka], []⟩) R s := by
  obtain ⟨hd9, dp, fr, gd, un⟩ := A
  change hd9 = none at hh
  subst hh
  dsimp only at hr hu
  obtain ⟨Hx, ⟨es, nd, Hd, Hes⟩, ⟨nh, Hh⟩⟩ := H
  obtain ⟨e1, e2, e3, e4, k1, k2, k3, k4, t1, t2, rfl⟩ := Hes
  refine enterC _ G st (ledCons Hx hx0 (ledCons Hd hdx0 (ledCons Hh hha0 ledNil))) (by dsimp only; omega) (by k_is) (by k_is) (BindsTo.of_eq rfl) rfl (by decide +kernel) ?_ rfl rfl rfl
  intro g L' h₁ tk cells hg st' G' F N Y C hlt
  obtain ⟨o1, rfl, d1⟩ := CellsAre.one Y
  simp only [List.cons_append, List.nil_append] at N
  have X := G'.X
  have T := G'.T
  k_lt hlt
  have n1 : x ≠ dx := cls_ne Hx Hd (by simp)
  have n2 : x ≠ ha := cls_ne Hx Hh (by simp)
  have n3 : dx ≠ ha := cls_ne Hd Hh (by simp)
  have n4 : ka ≠ x := list_ne hka Hx (by simp)
  have n5 : ka ≠ dx := list_ne hka Hd (by simp)
  replace n1 := neN n1; replace n2 := neN n2; replace n3 := neN n3
  have hkg : g.IsList ka kvs.toArray := isList_under hg hka (by simp [n4.symm, n5.symm, hne.symm])
  have hfg := hf.keeps st'
  have hfn := hfg.fnAt
  have hrag := hra.at (st' _)
  have hrsg := hrs.keeps st'
  have hdag := hda.at (st' _)
  repeat' (first | walk1 | (dsimp only; walk1))
  · (rename News _ _ _ _ => Nz); (rename Fr _ _ _ _ => Fz)
    have ea : askOnce rows dull most hst keys = (false, { hst with sure := false }) := if_pos (by omega)
    rw [ea] at k
    show R (.ok (.ret .none)) _
    exact k _ _ .none _ (left hg Fz) ⟨Nz.get (by k_mem), ⟨_, _, Nz.get (by k_mem), _, _, _, _, _, _, _, _, _, _, rfl⟩, ⟨nh, Nz.get (by k_mem)⟩⟩ (heardSame hg Fz) rfl
  · (rename News _ _ _ _ => Nz); (rename Fr _ _ _ _ => Fz); (rename StrsAre kvs _ => hkeys)
    refine callAsk Fz Nz (by k_updF) (by k_all) G' (by walk_at "my_depth") (by walk_at "my_units") rfl hfg hrag hrsg hdag hds hkeys hp hp2 hlr hll (by omega) hdl ?_
    intro h' tk' t r D tkz nh' nr nD rs dvs' rxs F' N' at' ar' aD' hD' hrs' hle' hone'
    clear Fz Nz
    replace at' := allNe_of at'; replace ar' := allNe_of ar'; replace aD' := allNe_of aD'
    simp only [AllNe, and_true] at at' ar' aD'
    repeat' (first | walk1 | (dsimp only; walk1))
    all_goals (try k_data)
    all_goals ((rename News _ _ _ _ => Nz); (rename Fr _ _ _ _ => Fz))
    · rename ((ansOf rows dull keys == _) = true) => hun
      have hun' := beq_iff_eq.mp hun
      have ea : askOnce rows dull most hst keys = (true, ⟨hst.asked + 1, hst.sure, hst.heard ++ [keys]⟩) := by unfold askOnce; rw [if_neg (by omega), if_pos hun']
      rw [ea] at k
      rename NewPlain _ _ _ _ => np
      rename CarriedAll _ _ => hca
      obtain ⟨n9, N9⟩ := made_enters np Fz Nz (by assumption)
      refine k _ _ _ _ (left hg Fz) ⟨Nz.get (by k_mem), ⟨_, _, Nz.get (by k_mem), _, _, _, _, _, _, _, _, _, _, rfl⟩, ⟨nh', Nz.get (by k_mem)⟩⟩ (heardMore hg Fz (texts_hide Nz (by k_mem) hD' ?_)) ⟨_, _, _, n9, rfl, left_new hg N9 (.head _) ?_, N9.get (.head _), strs_of_carried hca, ?_⟩
      · intro hm; rcases (by simpa using hm : D = x ∨ D = dx ∨ D = ha) with rfl | rfl | rfl <;> omega
      · intro q hq
        rcases List.mem_cons.mp hq with rfl | hq
        · have z := np.2 (x, _) (by k_mem); exact z
        rcases List.mem_cons.mp hq with rfl | hq
        · have z := np.2 (dx, _) (by k_mem); exact z
        rw [List.mem_singleton.mp hq]
        have z := np.2 (ha, _) (by k_mem)
        exact z
      · intro h1
        rw [hone' hun' h1]
        exact List.filter_eq_self.mpr fun a ha => List.any_eq_true.mpr ⟨a, ha, by simp⟩
    · rename ((ansOf rows dull keys == _) = false) => hun
      rename (_ = true) => hsat
      have hun' : ¬ ansOf rows dull keys = Str.ofString "unsat" := by simpa using hun
      have hsat' : ¬ ansOf rows dull keys = Str.ofString "sat" := by simpa using hsat
      have ea : askOnce rows dull most hst keys = (false, ⟨hst.asked + 1, false, hst.heard ++ [keys]⟩) := by unfold askOnce; rw [if_neg (by omega), if_neg hun', if_neg hsat']
      rw [ea] at k
      refine k _ _ .none _ (left hg Fz) ⟨Nz.get (by k_mem), ⟨_, _, Nz.get (by k_mem), _, _, _, _, _, _, _, _, _, _, rfl⟩, ⟨nh', Nz.get (by k_mem)⟩⟩ (heardMore hg Fz (texts_hide Nz (by k_mem) hD' ?_)) rfl
      · intro hm; rcases (by simpa using hm : D = x ∨ D = dx ∨ D = ha) with rfl | rfl | rfl <;> omega
    · rename ((ansOf rows dull keys == _) = false) => hun
      rename (_ = false) => hsat
      have hun' : ¬ ansOf rows dull keys = Str.ofString "unsat" := by simpa using hun
      have hsat' : ansOf rows dull keys = Str.ofString "sat" := by simpa using hsat
      have ea : askOnce rows dull most hst keys = (false, ⟨hst.asked + 1, hst.sure, hst.heard ++ [keys]⟩) := by unfold askOnce; rw [if_neg (by omega), if_neg hun', if_pos hsat']
      rw [ea] at k
      refine k _ _ .none _ (left hg Fz) ⟨Nz.get (by k_mem), ⟨_, _, Nz.get (by k_mem), _, _, _, _, _, _, _, _, _, _, rfl⟩, ⟨nh', Nz.get (by k_mem)⟩⟩ (heardMore hg Fz (texts_hide Nz (by k_mem) hD' ?_)) rfl
      · intro hm; rcases (by simpa using hm : D = x ∨ D = dx ∨ D = ha) with rfl | rfl | rfl <;> omega
theorem spec_enoughOf {prog : Program} {w : World} {mg mb : Str → Option Value} {p : Program} {loose : List Str} {mean : ExcName → Option Value} {A : Around} {s : Shared} {h₀ : Heap} {R : Result → Shared → Prop}
   {x dx fa ra ha da ka : Addr} {part : Int} {kvs rvs dvs : List Value} {keys : List Str} {rows : List (List Str)} {dull : List Int} {most : Nat} {hst : HSt}
   (G : Gd w mg mb p loose mean h₀) (st : h₀.StaysIn s.heap) (hr : A.depth + 40 < recursionLimit) (hu : A.units + 400 < cLine) (hh : A.handled = none)
   (hf : AskFn h₀ fa ra ha da part) (hra : h₀.IsList ra rvs.toArray) (hrs : TextsAll h₀ rvs rows) (hda : h₀.IsList da dvs.toArray) (hds : IntsAre dvs dull)
   (hx0 : h₀.get? x = none) (hdx0 : h₀.get? dx = none) (hha0 : h₀.get? ha = none)
   (H : Halver s.heap x dx ha fa most hst) (hka : s.heap.IsList ka kvs.toArray) (hne : ka ≠ ha) (hkeys : StrsAre kvs keys)
   (hp : 1 ≤ part) (hp2 : part ≤ 2) (hlr : ∀ r ∈ rows, r.length ≤ 1000) (hll : keys.length ≤ 100) (hhl : hst.heard.length ≤ 5000) (hdl : dull.length ≤ 10) (hm : most ≤ 5000) (hasked : hst.asked ≤ 5000)
   (k : ∀ (h' : Heap) (tk : Nat) (v : Value), Ch [x, dx, ha] s.heap h' → Halver h' x dx ha fa most (askOnce rows dull most hst keys).2 →
      (match (askOnce rows dull most hst keys).1 with
        | false => v = .none
        | true => ∃ d zs zvs n, v = .ref d ∧ s.heap.get? d = none ∧ h'.get? d = some (listOf (List.toArray zvs) n) ∧ StrsAre zvs zs ∧ (part = 1 → zs = keys)) →
      R (.ok (.ret v)) { s with heap := h', toks := tk }) :
   codeAny (model prog w) A (.call (.ref 161) ⟨[.ref x, .ref ka], []⟩) R s := by
  obtain ⟨Hx, Hd, ⟨hvs, nh, Hh, Hhs⟩⟩ := H
  refine spec_enoughX G st hr hu hh hf hra hrs hda hds hx0 hdx0 hha0 ⟨Hx, Hd, nh, Hh⟩ hka hne hkeys hp hp2 hlr hll (by rw [textsAll_len Hhs]; exact hhl) hdl hm hasked ?_
  intro h' tk v hvs' c H' ht hv
  obtain ⟨Hx', Hd', ⟨nh', Hh'⟩⟩ := H'
  obtain ⟨kp, e | ⟨D, e1, e2, T⟩⟩ := ht
  · exact k h' tk v c ⟨Hx', Hd', ⟨hvs', nh', Hh', by rw [e.1, e.2]; exact kp _ _ Hhs⟩⟩ hv
  · exact k h' tk v c ⟨Hx', Hd', ⟨hvs', nh', Hh', by rw [e1, e2]; exact textsAll_snoc T (kp _ _ Hhs)⟩⟩ hv
end
local macro_rules | `(tactic| k_all) => `(tactic| assumption)
section
set_option maxHeartbeats 1000000
noncomputable def HOk (most : Nat) (st : HSt) : Prop := st.heard.length = st.asked ∧ st.asked ≤ most
theorem askOnce_ok {rows : List (List Str)} {dull : List Int} {most : Nat} {st : HSt} {keys : List Str} (h : HOk most st) : HOk most (askOnce rows dull most st keys).2 := by
  obtain ⟨h1, h2⟩ := h
  unfold askOnce
  split
  · exact ⟨h1, h2⟩
  · split
    · exact ⟨by simp [h1], by dsimp only; omega⟩
    · split
      · exact ⟨by simp [h1], by dsimp only; omega⟩
      · exact ⟨by simp [h1], by dsimp only; omega⟩

noncomputable def halves (rows : List (List Str)) (dull : List Int) (most : Nat) : Nat → List Str → List Str → Bool → HSt → List Str × HSt
  | 0, _, keys, _, st => (keys, st)
  | f + 1, base, keys, new, st =>
    let q := if new then askOnce rows dull most st base else (false, st)
    if q.1 then ([], q.2)
    else if keys.length < 2 then (keys, q.2)
    else
      let a := halves rows dull most f (base ++ keys.take (keys.length / 2)) (keys.drop (keys.length / 2)) true q.2
      let b := halves rows dull most f (base ++ a.1) (keys.take (keys.length / 2)) (!decide (a.1 = [])) a.2
      (b.1 ++ a.1, b.2)
theorem halves_ok {rows : List (List Str)} {dull : List Int} {most : Nat} : ∀ (f : Nat) (base keys : List Str) (new : Bool) (st : HSt), HOk most st → HOk most (halves rows dull most f base keys new st).2
  | 0, _, _, _, _, h => h
  | f + 1, base, keys, new, st, h => by
    have hq : HOk most (if new then askOnce rows dull most st base else (false, st)).2 := by
      split
      · exact askOnce_ok h
      · exact h
    simp only [halves]
    generalize (if new = true then askOnce rows dull most st base else (false, st)) = q at hq ⊢
    by_cases h1 : q.1 = true
    · rw [if_pos h1]; exact hq
    · rw [if_neg h1]
      by_cases h2 : keys.length < 2
      · rw [if_pos h2]; exact hq
      · rw [if_neg h2]; exact halves_ok f _ _ _ _ (halves_ok f _ _ _ _ hq)

/-- the lots that a Shrinker's ask has heard: of the ground or of the ledger -/
inductive LotsAt (g : Heap) (lots : List (Addr × Obj)) : List Value → List (List Str) → Prop
  | nil : LotsAt g lots [] []
  | old {a : Addr} {xs : List Str} {vs : List Value} {r : List (List Str)} : Texts g a xs → LotsAt g lots vs r → LotsAt g lots (.ref a :: vs) (xs :: r)
  | new {a : Addr} {xs : List Str} {us : List Value} {o : Obj} {n : Nat} {vs : List Value} {r : List (List Str)} : (a, o) ∈ lots → o.cls = .type "list" → o.data = .seq us.toArray n → StrsAre us xs → LotsAt g lots vs r → LotsAt g lots (.ref a :: vs) (xs :: r)
theorem LotsAt.mono {g : Heap} {l l' : List (Addr × Obj)} (s : ∀ q ∈ l, q ∈ l') : ∀ {vs : List Value} {r : List (List Str)}, LotsAt g l vs r → LotsAt g l' vs r
  | _, _, .nil => .nil
  | _, _, .old t x => .old t (x.mono s)
  | _, _, .new m c d e x => .new (s _ m) c d e (x.mono s)
theorem LotsAt.ofAll {g : Heap} {l : List (Addr × Obj)} : ∀ {vs : List Value} {r : List (List Str)}, TextsAll g vs r → LotsAt g l vs r
  | _, _, .nil => .nil
  | _, _, .cons t x => .old t (LotsAt.ofAll x)
theorem LotsAt.back {W : List Addr} {g h : Heap} {L : Addr} {m : Str → Option Value} {lots : List (Addr × Obj)} (F : Fr g L h m) (N : News g L h lots) (hw : ∀ w ∈ W, g.get? w = none) (hl : ∀ q ∈ lots, q.1 ∉ W) :
    ∀ {vs : List Value} {r : List (List Str)}, LotsAt g lots vs r → TextsAll (hideAll h W) vs r
  | _, _, .nil => .nil
  | _, _, .old ⟨us, ⟨o, ho, r⟩, e⟩ x => .cons ⟨us, ⟨o, hideAll_get _ (F.keep _ _ ho) (fun hm => by rw [hw _ hm] at ho; cases ho), r⟩, e⟩ (LotsAt.back F N hw hl x)
  | _, _, .new m c d e x => .cons ⟨_, ⟨_, hideAll_get _ (N.get m) (hl _ m), c, _, d⟩, e⟩ (LotsAt.back F N hw hl x)
inductive AfterH (g h' : Heap) (L x dx ha fa : Addr) (m : Str → Option Value) (v : Obj → Obj → List (Addr × Obj)) (most : Nat) (st' : HSt) : Prop
  | mk (es' : List DictEntry) (nd' : Nat) (hvs' : List Value) (nh' : Nat) (lots : List (Addr × Obj)) (_ : Fr g L h' m) (_ : News g L h' (v (dictOf es' nd') (listOf (List.toArray hvs') nh') ++ lots)) (_ : HalverD fa most st'.asked st'.sure es') (_ : LotsAt g lots hvs' st'.heard) (_ : ∀ q ∈ lots, q.1 ≠ x) (_ : ∀ q ∈ lots, q.1 ≠ dx) (_ : ∀ q ∈ lots, q.1 ≠ ha) : AfterH g h' L x dx ha fa m v most st'
theorem lotsOf {W : List Addr} {g h' : Heap} {L : Addr} {m : Str → Option Value} (F : Fr g L h' m) : ∀ {vs : List Value} {r : List (List Str)}, TextsAll (hideAll h' W) vs r → ∃ lots, News g L h' lots ∧ LotsAt g lots vs r ∧ ∀ q ∈ lots, q.1 ∉ W
  | _, _, .nil => ⟨[], (fun _ h => nomatch h), .nil, (fun _ h => nomatch h)⟩
  | _, _, .cons (a := a) ⟨us, ⟨o, ho, hc, n, hd⟩, e⟩ t => by
    obtain ⟨lots, N, X, hl⟩ := lotsOf F t
    have ho' := of_hideAll _ ho
    cases hg : g.get? a with
    | some o' =>
      have := F.keep _ _ hg
      rw [ho'] at this
      cases this
      exact ⟨lots, N, .old ⟨us, ⟨_, hg, hc, n, hd⟩, e⟩ X, hl⟩
    | none =>
      refine ⟨(a, o) :: lots, fun q hq => ?_, .new (.head _) hc hd e (X.mono fun q hq => .tail _ hq), fun q hq => ?_⟩
      · rcases List.mem_cons.mp hq with rfl | hq
        · refine ⟨ho', ?_, hg⟩
          rintro rfl
          obtain ⟨oL, es, ep, h1, h2, _⟩ := F.ns
          rw [ho'] at h1
          cases h1
          rw [hd] at h2; cases h2
        · exact N q hq
      · rcases List.mem_cons.mp hq with rfl | hq
        · intro hm; rw [hideAll_none _ hm] at ho; cases ho
        · exact hl q hq

section
variable {s : Shared} {g h' : Heap} {L x dx ha fa : Addr} {m : Str → Option Value} {news : List (Addr × Obj)} {u : Obj → List (Addr × Obj)} {v : Obj → Obj → List (Addr × Obj)} {most : Nat} {st' : HSt} {od oh : Obj}
/-- behind a call that turns a Shrinker -/
theorem afterH (F : Fr g L s.heap m) (N : News g L s.heap news) (hx : (x, instObj 176 dx) ∈ news) (U : UpdF dx od news u) (U' : ∀ o', UpdF ha oh (u o') (v o')) (hm : (ha, oh) ∈ news) (c : Ch [x, dx, ha] s.heap h') (H : Halver h' x dx ha fa most st') :
    AfterH g h' L x dx ha fa m v most st' := by
  obtain ⟨h1, ⟨es', nd', h2, h3⟩, ⟨hvs', nh', h4, h5⟩⟩ := H
  have hd := UpdF.mem' U
  have Nx := N _ hx
  have Nd := N _ hd
  have Nh := N _ hm
  have F' : Fr g L h' m := c.fr F (by
    intro a ha'
    simp only [List.mem_cons, List.not_mem_nil, or_false] at ha'
    rcases ha' with rfl | rfl | rfl
    · exact Nx.2
    · exact Nd.2
    · exact Nh.2)
  obtain ⟨lots, NL, X, hl⟩ := lotsOf F' h5
  have c' : Ch [dx, ha] s.heap h' := fun b o e n => by
    by_cases hb : b = x
    · subst hb
      rw [Nx.1] at e
      rw [h1]; exact e
    · exact c b o e (by simp only [List.mem_cons, List.not_mem_nil, or_false, not_or] at n ⊢; exact ⟨hb, n⟩)
  have hne : dx ≠ ha := cls_ne h2 h4 (by simp)
  refine ⟨es', nd', hvs', nh', lots, F', fun q hq => ?_, h3, X, fun q hq e => hl q hq (by rw [e]; simp), fun q hq e => hl q hq (by rw [e]; simp), fun q hq e => hl q hq (by rw [e]; simp)⟩
  rcases List.mem_append.mp hq with hq | hq
  · exact Ch.news2 c' N U (U' _) hne hm h2 h4 q hq
  · exact NL q hq
end

theorem halverOf {h g : Heap} {L x dx ha fa : Addr} {m : Str → Option Value} {news S : List (Addr × Obj)} {most : Nat} {st : HSt} {es : List DictEntry} {nd nh : Nat} {hvs : List Value} (F : Fr g L h m) (N : News g L h news) (hx : (x, instObj 176 dx) ∈ news) (hd : (dx, dictOf es nd) ∈ news) (hh : (ha, listOf hvs.toArray nh) ∈ news)
    (D : HalverD fa most st.asked st.sure es) (X : LotsAt g S hvs st.heard) (NS : ∀ q ∈ S, q ∈ news) (s1 : ∀ q ∈ S, q.1 ≠ x) (s2 : ∀ q ∈ S, q.1 ≠ dx) (s3 : ∀ q ∈ S, q.1 ≠ ha) : Halver h x dx ha fa most st := by
  refine ⟨N.get hx, ⟨es, nd, N.get hd, D⟩, ⟨hvs, nh, N.get hh, LotsAt.back F (newsSub N NS) ?_ ?_ X⟩⟩
  · intro a ha'
    simp only [List.mem_cons, List.not_mem_nil, or_false] at ha'
    rcases ha' with rfl | rfl | rfl
    · exact (N _ hx).2.2
    · exact (N _ hd).2.2
    · exact (N _ hh).2.2
  · intro q hq hm
    simp only [List.mem_cons, List.not_mem_nil, or_false] at hm
    rcases hm with e | e | e
    · exact s1 q hq e
    · exact s2 q hq e
    · exact s3 q hq e

theorem ne3 {x dx ha l : Addr} {o1 o2 o3 : Obj} (h1 : x ≠ l) (h2 : dx ≠ l) (h3 : ha ≠ l) : ∀ q ∈ [(x, o1), (dx, o2), (ha, o3)], q.1 ≠ l := fun q hq => by
  rcases List.mem_cons.mp hq with rfl | hq
  · exact h1
  rcases List.mem_cons.mp hq with rfl | hq
  · exact h2
  rw [List.mem_singleton.mp hq]; exact h3
theorem halves_one {rows : List (List Str)} {dull : List Int} {most f : Nat} {base keys : List Str} {new : Bool} {st : HSt} {q : Bool × HSt} (hq : (if new = true then askOnce rows dull most st base else (false, st)) = q) (h1 : q.1 = true) :
    halves rows dull most (f + 1) base keys new st = ([], q.2) := by
  simp only [halves]; rw [hq, if_pos h1]
theorem halves_two {rows : List (List Str)} {dull : List Int} {most f : Nat} {base keys : List Str} {new : Bool} {st : HSt} {q : Bool × HSt} (hq : (if new = true then askOnce rows dull most st base else (false, st)) = q) (h1 : q.1 = false) (h2 : keys.length < 2) :
    halves rows dull most (f + 1) base keys new st = (keys, q.2) := by
  simp only [halves]; rw [hq, if_neg (by rw [h1]; exact Bool.false_ne_true), if_pos h2]
theorem halves_three {rows : List (List Str)} {dull : List Int} {most f : Nat} {base keys : List Str} {new : Bool} {st : HSt} {q : Bool × HSt} (hq : (if new = true then askOnce rows dull most st base else (false, st)) = q) (h1 : q.1 = false) (h2 : ¬ keys.length < 2) {a b : List Str × HSt}
    (ha : halves rows dull most f (base ++ keys.take (keys.length / 2)) (keys.drop (keys.length / 2)) true q.2 = a) (hb : halves rows dull most f (base ++ a.1) (keys.take (keys.length / 2)) (!decide (a.1 = [])) a.2 = b) :
    halves rows dull most (f + 1) base keys new st = (b.1 ++ a.1, b.2) := by
  simp only [halves]; rw [hq, if_neg (by rw [h1]; exact Bool.false_ne_true), if_neg h2, ha, hb]
theorem fdiv2 (n : Nat) : (Int.fdiv (n : Int) 2).toNat = n / 2 := by
  rw [Int.fdiv_eq_ediv_of_nonneg _ (by omega)]; omega

theorem news_off {g h : Heap} {L d : Addr} {news : List (Addr × Obj)} (N : News g L h news) (hn : h.get? d = none) : ∀ q ∈ news, q.1 ≠ d := fun q hq e => by
  have := (N q hq).1
  rw [e, hn] at this; cases this
theorem off_app {S T : List (Addr × Obj)} {a : Addr} (h : ∀ q ∈ S, q.1 ≠ a) (k : ∀ q ∈ T, q.1 ≠ a) : ∀ q ∈ S ++ T, q.1 ≠ a := fun q hq => (List.mem_append.mp hq).elim (h q) (k q)

/-- what the call of by_halves promises, with so much fuel -/
noncomputable def HalvesSpec (prog : Program) (w : World) (mg mb : Str → Option Value) (p : Program) (loose : List Str) (mean : ExcName → Option Value) (f : Nat) : Prop :=
  ∀ {A : Around} {s : Shared} {h₀ : Heap} {R : Result → Shared → Prop} {x dx fa ra ha da ba sa : Addr} {part : Int} {bvs svs rvs dvs : List Value} {base keys : List Str} {new : Bool} {rows : List (List Str)} {dull : List Int} {most : Nat} {hst : HSt}
   (_ : Gd w mg mb p loose mean h₀) (_ : h₀.StaysIn s.heap) (_ : A.depth + 60 + f < recursionLimit) (_ : A.units + 600 + 8 * f < cLine) (_ : A.handled = none)
   (_ : AskFn h₀ fa ra ha da part) (_ : h₀.IsList ra rvs.toArray) (_ : TextsAll h₀ rvs rows) (_ : h₀.IsList da dvs.toArray) (_ : IntsAre dvs dull)
   (_ : h₀.get? x = none) (_ : h₀.get? dx = none) (_ : h₀.get? ha = none)
   (_ : Halver s.heap x dx ha fa most hst) (_ : s.heap.IsList ba bvs.toArray) (_ : ba ≠ ha) (_ : StrsAre bvs base) (_ : s.heap.IsList sa svs.toArray) (_ : sa ≠ ha) (_ : StrsAre svs keys)
   (_ : 1 ≤ part) (_ : part ≤ 2) (_ : ∀ r ∈ rows, r.length ≤ 1000) (_ : base.length + keys.length ≤ 100) (_ : dull.length ≤ 10) (_ : most ≤ 5000) (_ : HOk most hst) (_ : keys.length ≤ f) (_ : 1 ≤ f)
   (_ : ∀ (h' : Heap) (tk : Nat) (d : Addr) (zvs : List Value) (n : Nat), Ch [x, dx, ha] s.heap h' → Halver h' x dx ha fa most (halves rows dull most f base keys new hst).2 → s.heap.get? d = none → h'.get? d = some (listOf (List.toArray zvs) n) →
      StrsAre zvs (halves rows dull most f base keys new hst).1 → R (.ok (.ret (.ref d))) { s with heap := h', toks := tk }),
   codeAny (model prog w) A (.call (.ref 173) ⟨[.ref x, .ref ba, .ref sa, .bool new], []⟩) R s

theorem halves_len {rows : List (List Str)} {dull : List Int} {most : Nat} : ∀ (f : Nat) (base keys : List Str) (new : Bool) (st : HSt), (halves rows dull most f base keys new st).1.length ≤ keys.length
  | 0, _, _, _, _ => Nat.le_refl _
  | f + 1, base, keys, new, st => by
    simp only [halves]
    generalize (if new = true then askOnce rows dull most st base else (false, st)) = q
    by_cases h1 : q.1 = true
    · rw [if_pos h1]; exact Nat.zero_le _
    · rw [if_neg h1]
      by_cases h2 : keys.length < 2
      · rw [if_pos h2]; exact Nat.le_refl _
      · rw [if_neg h2]
        have a := halves_len (rows := rows) (dull := dull) (most := most) f (base ++ keys.take (keys.length / 2)) (keys.drop (keys.length / 2)) true q.2
        have b := halves_len (rows := rows) (dull := dull) (most := most) f (base ++ (halves rows dull most f (base ++ keys.take (keys.length / 2)) (keys.drop (keys.length / 2)) true q.2).1) (keys.take (keys.length / 2)) (!decide ((halves rows dull most f (base ++ keys.take (keys.length / 2)) (keys.drop (keys.length / 2)) true q.2).1 = [])) (halves rows dull most f (base ++ keys.take (keys.length / 2)) (keys.drop (keys.length / 2)) true q.2).2
        simp only [List.length_append, List.length_take, List.length_drop] at a b ⊢
        omega

inductive HalvI (s : Shared) (g : Heap) (L' x dx ha fa sa ba : Addr) (new : Bool) (most : Nat) (q : Bool × HSt) (s' : Shared) : Prop
  | mk (_ : q.1 = false) (h' : Heap) (tk : Nat) (es' : List DictEntry) (nd' : Nat) (hvs' : List Value) (nh' : Nat) (S : List (Addr × Obj)) (_ : s' = { s with heap := h', toks := tk }) (_ : Fr g L' h' (fun y => List.lookup y [(Str.ofString "is_new", Value.bool new), (Str.ofString "some", Value.ref sa), (Str.ofString "base", Value.ref ba), (Str.ofString "self", Value.ref x)])) (_ : News g L' h' ((x, instObj 176 dx) :: (dx, dictOf es' nd') :: (ha, listOf (List.toArray hvs') nh') :: S)) (_ : HalverD fa most q.2.asked q.2.sure es') (_ : LotsAt g S hvs' q.2.heard) (_ : ∀ q ∈ S, q.1 ≠ x) (_ : ∀ q ∈ S, q.1 ≠ dx) (_ : ∀ q ∈ S, q.1 ≠ ha) : HalvI s g L' x dx ha fa sa ba new most q s'
theorem halves_step {prog : Program} {w : World} {mg mb : Str → Option Value} {p : Program} {loose : List Str} {mean : ExcName → Option Value} {f : Nat} (IH : 1 ≤ f → HalvesSpec prog w mg mb p loose mean f) : HalvesSpec prog w mg mb p loose mean (f + 1) := by
  intro A s h₀ R x dx fa ra ha da ba sa part bvs svs rvs dvs base keys new rows dull most hst G st hr hu hh hf hra hrs hda hds hx0 hdx0 hha0 H hba hbne hbs hsa hsne hss hp hp2 hlr hll hdl hm hok hkf h1f k
  obtain ⟨hd9, dp, fr, gd, un⟩ := A
  change hd9 = none at hh
  subst hh
  dsimp only at hr hu
  obtain ⟨Hx, ⟨es, nd, Hd, Hes⟩, ⟨hvs, nh, Hh, Hhs⟩⟩ := H
  obtain ⟨e1, e2, e3, e4, k1, k2, k3, k4, t1, t2, rfl⟩ := Hes
  refine enterK _ G st (ledCons Hx hx0 (ledCons Hd hdx0 (ledCons Hh hha0 ledNil))) (by dsimp only; omega) (by k_is) (by k_is) (BindsTo.of_eq rfl) (locs rfl) ?_ (by decide) rfl rfl rfl
  intro g L' h₁ hg st' G' F N C hlt
  have X := G'.X
  have T := G'.T
  k_lt hlt
  have n1 : x ≠ dx := cls_ne Hx Hd (by simp)
  have n2 : x ≠ ha := cls_ne Hx Hh (by simp)
  have n3 : dx ≠ ha := cls_ne Hd Hh (by simp)
  have n4 : ba ≠ x := list_ne hba Hx (by simp)
  have n5 : ba ≠ dx := list_ne hba Hd (by simp)
  have n6 : sa ≠ x := list_ne hsa Hx (by simp)
  have n7 : sa ≠ dx := list_ne hsa Hd (by simp)
  replace n1 := neN n1; replace n2 := neN n2; replace n3 := neN n3
  have hbg : g.IsList ba bvs.toArray := isList_under hg hba (by simp [n4.symm, n5.symm, hbne.symm])
  have hsg : g.IsList sa svs.toArray := isList_under hg hsa (by simp [n6.symm, n7.symm, hsne.symm])
  have Hhg : TextsAll g hvs hst.heard := by rw [hg]; exact Hhs
  have gx : g.get? x = none := by rw [hg]; exact hideAll_none _ (by simp)
  have gdx : g.get? dx = none := by rw [hg]; exact hideAll_none _ (by simp)
  have gha : g.get? ha = none := by rw [hg]; exact hideAll_none _ (by simp)
  have hfg := hf.keeps st'
  have hrag := hra.at (st' _)
  have hrsg := hrs.keeps st'
  have hdag := hda.at (st' _)
  generalize hq : (if new = true then askOnce rows dull most hst base else (false, hst)) = q at *
  have hqok : HOk most q.2 := by
    rw [← hq]; split
    · exact askOnce_ok hok
    · exact hok
  refine wpAny_execs_cons ?_
  refine wpAny_mono (Q := fun fl s' => match fl with
    | .next => Stop (HalvI s g L' x dx ha fa sa ba new most q s')
    | .ret v => R (.ok (.ret v)) s'
    | _ => False) (E := fun _ _ => False) ?first ?rest (fun _ _ e => e)
  case first =>
    cases new with
    | false =>
      repeat' (first | walk1 | (dsimp only; walk1))
      subst hq
      exact Stop.mk ⟨rfl, _, _, _, _, _, _, [], rfl, F, N, ⟨_, _, _, _, _, _, _, _, _, _, rfl⟩, LotsAt.ofAll Hhg, (fun _ h => nomatch h), (fun _ h => nomatch h), (fun _ h => nomatch h)⟩
    | true =>
      repeat' (first | walk1 | (dsimp only; walk1))
      have H1 := halverOf (st := hst) (most := most) (fa := fa) (S := []) F N (by k_mem) (by k_mem) (by k_mem) ⟨_, _, _, _, _, _, _, _, _, _, rfl⟩ (LotsAt.ofAll Hhg) (fun _ h => nomatch h) (fun _ h => nomatch h) (fun _ h => nomatch h) (fun _ h => nomatch h)
      refine wpAny_call (spec_enoughOf (hst := hst) (most := most) G' F.keep (by walk_at "my_depth") (by walk_at "my_units") rfl hfg hrag hrsg hdag hds gx gdx gha H1 (hbg.at (F.keep _)) hbne hbs hp hp2 hlr (by omega) (by have := hok.1; have := hok.2; omega) hdl hm (by have := hok.2; omega) ?_)
      intro h' tk v c H' hv
      obtain ⟨es', nd', hvs', nh', S, F', N', HD, HX, s1, s2, s3⟩ := afterH F N (by k_mem) (by k_updF) (fun o' => by k_updF) (by k_mem) c H'
      rw [if_pos rfl] at hq
      rw [hq] at H' hv HD HX
      simp only [List.cons_append, List.nil_append] at N'
      dsimp only
      cases hq1 : q.1 with
      | false =>
        rw [hq1] at hv
        subst hv
        clear F N
        repeat' (first | walk1 | (dsimp only; walk1))
        exact Stop.mk ⟨hq1, _, _, _, _, _, _, S, rfl, F', N', HD, HX, s1, s2, s3⟩
      | true =>
        rw [hq1] at hv
        obtain ⟨d, zs, zvs, n, rfl, hdn, hdo, hzs, _⟩ := hv
        have N2 := new_ok F hdn hdo N'
        clear F N N'
        repeat' (first | walk1 | (dsimp only; walk1))
        all_goals ((rename News _ _ _ _ => Nz); (rename Fr _ _ _ _ => Fz))
        rw [halves_one (by rw [if_pos rfl]; exact hq) hq1] at k
        exact k _ _ _ [] 0 (left hg Fz) (halverOf Fz Nz (by k_mem) (by k_mem) (by k_mem) HD HX (fun q hq => by simp [hq]) s1 s2 s3) (left_new hg Nz (.head _) (ne3 (by k_ne) (by k_ne) (by k_ne))) (Nz.get (.head _)) .nil
  case rest =>
    intro fl s' hqr
    cases fl with
    | ret v => exact hqr
    | brk => exact hqr.elim
    | cont => exact hqr.elim
    | next =>
      dsimp only at hqr
      obtain ⟨hq1, h', tk, es', nd', hvs', nh', S, rfl, F', N', HD, HX, s1, s2, s3⟩ := hqr.it
      obtain ⟨e1', e2', e3', e4', k1', k2', k3', k4', t1', t2', rfl⟩ := HD
      clear F N
      repeat' (first | walk1 | (dsimp only; walk1))
      · (rename News _ _ _ _ => Nz); (rename Fr _ _ _ _ => Fz); (rename StrsAre svs _ => hss)
        rw [halves_two hq hq1 (by omega)] at k
        exact k _ _ _ _ _ (left hg Fz) (halverOf Fz Nz (by k_mem) (by k_mem) (by k_mem) ⟨_, _, _, _, _, _, _, _, _, _, rfl⟩ HX (fun q hq => by simp [hq]) s1 s2 s3) (left_new hg Nz (.head _) (ne3 (by k_ne) (by k_ne) (by k_ne))) (Nz.get (.head _)) hss
      · rename_i hge _ _ _ D1 z1 _ hs1 _ D2 z2 _ hs2 _ D3 _ _ _ _ _ D4 z4 _ F4 N4 hs4 _
        rw [fdiv2] at hs1 hs2 hs4
        have H2 := halverOf (st := q.2) (most := most) (fa := fa) (S := S) F4 N4 (by k_mem) (by k_mem) (by k_mem) ⟨_, _, _, _, _, _, _, _, _, _, rfl⟩ HX (fun q hq => by simp [hq]) s1 s2 s3
        refine wpAny_call (IH (by omega) (hst := q.2) (most := most) (base := base ++ keys.take (keys.length / 2)) (keys := keys.drop (keys.length / 2)) G' F4.keep (by walk_at "my_depth") (by walk_at "my_units") rfl hfg hrag hrsg hdag hds gx gdx gha H2 (N4.isList (.head _)) (by k_ne) hs4 (N4.isList (by k_mem)) (by k_ne) hs2 hp hp2 hlr (by simp only [List.length_append, List.length_take, List.length_drop]; omega) hdl hm hqok (by simp only [List.length_drop]; omega) (by omega) ?_)
        intro h2 tk2 d zvs n c2 H2' hdn hdo hzs
        generalize ha2 : halves rows dull most f (base ++ keys.take (keys.length / 2)) (keys.drop (keys.length / 2)) true q.2 = a2 at H2' hzs
        have a2ok : HOk most a2.2 := by rw [← ha2]; exact halves_ok _ _ _ _ _ hqok
        have a2len : a2.1.length ≤ keys.length - keys.length / 2 := by rw [← ha2]; have := halves_len (rows := rows) (dull := dull) (most := most) f (base ++ keys.take (keys.length / 2)) (keys.drop (keys.length / 2)) true q.2; simpa using this
        obtain ⟨es2, nd2, hvs2, nh2, S2, F5, N5, HD2, HX2, u1, u2, u3⟩ := afterH F4 N4 (by k_mem) (by k_updF) (fun o' => by k_updF) (by k_mem) c2 H2'
        have hdne := allNe_of (news_off N4 hdn)
        dsimp only [AllNe] at hdne
        simp only [List.cons_append] at N5
        have N6 := new_ok F4 hdn hdo N5
        replace u1 := off_app s1 u1; replace u2 := off_app s2 u2; replace u3 := off_app s3 u3
        replace HX2 := HX2.mono (l' := S ++ S2) fun q hq => List.mem_append_right _ hq
        generalize S ++ S2 = S3 at N6 u1 u2 u3 HX2
        obtain ⟨e1'', e2'', e3'', e4'', k1'', k2'', k3'', k4'', t1'', t2'', rfl⟩ := HD2
        clear N4 N5 F4 H2 H2' Hhg
        dsimp only
        repeat' (first | walk1 | (dsimp only; walk1))
        rename_i _ D5 z5 _ hs5 _ l5 _ F6 N7 _
        have H3 := halverOf (st := a2.2) (most := most) (fa := fa) (S := S3) F6 N7 (by k_mem) (by k_mem) (by k_mem) ⟨_, _, _, _, _, _, _, _, _, _, rfl⟩ HX2 (fun q hq => by simp [hq]) u1 u2 u3
        refine wpAny_call (IH (by omega) (hst := a2.2) (most := most) (base := base ++ a2.1) (keys := keys.take (keys.length / 2)) G' F6.keep (by walk_at "my_depth") (by walk_at "my_units") rfl hfg hrag hrsg hdag hds gx gdx gha H3 (N7.isList (by k_mem)) (by k_ne) hs5 (N7.isList (by k_mem)) (by k_ne) hs1 hp hp2 hlr (by simp only [List.length_append, List.length_take]; omega) hdl hm a2ok (by simp only [List.length_take]; omega) (by omega) ?_)
        intro h3 tk3 d3 zvs3 n3 c3 H3' hdn3 hdo3 hzs3
        generalize hb2 : halves rows dull most f (base ++ a2.1) (keys.take (keys.length / 2)) (!decide (a2.1 = [])) a2.2 = b2 at H3' hzs3
        have b2len : b2.1.length ≤ keys.length := by rw [← hb2]; have := halves_len (rows := rows) (dull := dull) (most := most) f (base ++ a2.1) (keys.take (keys.length / 2)) (!decide (a2.1 = [])) a2.2; simp only [List.length_take] at this; omega
        obtain ⟨es3, nd3, hvs3, nh3, S4, F8, N8, HD3, HX3, v1, v2, v3⟩ := afterH F6 N7 (by k_mem) (by k_updF) (fun o' => by k_updF) (by k_mem) c3 H3'
        have hdne3 := allNe_of (news_off N7 hdn3)
        dsimp only [AllNe] at hdne3
        simp only [List.cons_append] at N8
        have N9 := new_ok F6 hdn3 hdo3 N8
        replace v1 := off_app u1 v1; replace v2 := off_app u2 v2; replace v3 := off_app u3 v3
        replace HX3 := HX3.mono (l' := S3 ++ S4) fun q hq => List.mem_append_right _ hq
        generalize S3 ++ S4 = S5 at N9 v1 v2 v3 HX3
        clear N7 N8 F6 H3 H3'
        dsimp only
        repeat' (first | walk1 | (dsimp only; walk1))
        rename_i l9 z9 _ F9 N9' hs9 _
        rw [halves_three hq hq1 (by omega) ha2 hb2] at k
        exact k _ _ _ _ _ (left hg F9) (halverOf F9 N9' (by k_mem) (by k_mem) (by k_mem) HD3 HX3 (fun q hq => by simp [hq]) v1 v2 v3) (left_new hg N9' (.head _) (ne3 (by k_ne) (by k_ne) (by k_ne))) (N9'.get (.head _)) hs9

theorem spec_halves (prog : Program) (w : World) (mg mb : Str → Option Value) (p : Program) (loose : List Str) (mean : ExcName → Option Value) : ∀ f, 1 ≤ f → HalvesSpec prog w mg mb p loose mean f
  | 0, h => absurd h (by decide)
  | f + 1, _ => halves_step (spec_halves prog w mg mb p loose mean f)
end
section
local macro_rules | `(tactic| walk_at "my_p") => `(tactic| skip)
set_option maxHeartbeats 1000000
theorem pushTwo {g g' h₁ h' : Heap} {L L' x dx : Addr} {ox od ox' od' : Obj} {news : List (Addr × Obj)} (N₁ : News g L h₁ ((x, ox) :: (dx, od) :: news)) (c : Ch [x, dx] h₁ h') (Nz : News g' L' h' [(x, ox'), (dx, od')]) (hoff : ∀ q ∈ news, q.1 ≠ x ∧ q.1 ≠ dx) :
    News g L h' ((x, ox') :: (dx, od') :: news) := fun q hq => by
  have gx := N₁ (x, ox) (.head _)
  have gdx := N₁ (dx, od) (.tail _ (.head _))
  rcases List.mem_cons.mp hq with rfl | hq
  · exact ⟨(Nz (x, ox') (.head _)).1, gx.2⟩
  rcases List.mem_cons.mp hq with rfl | hq
  · exact ⟨(Nz (dx, od') (.tail _ (.head _))).1, gdx.2⟩
  · have z := N₁ q (.tail _ (.tail _ hq))
    exact ⟨c _ _ z.1 (by simp [(hoff q hq).1, (hoff q hq).2]), z.2⟩
theorem callShrinker {prog : Program} {w : World} {mg mb : Str → Option Value} {p : Program} {loose : List Str} {mean : ExcName → Option Value} {A : Around} {E : Value → Shared → Prop} {s : Shared} {g : Heap} {L : Addr} {m : Str → Option Value} {news : List (Addr × Obj)} {Q : Value → Shared → Prop}
   {fa : Addr} {most : Int} {tm : Tok}
   (F : Fr g L s.heap m) (N : News g L s.heap news) (G : Gd w mg mb p loose mean g) (hr : A.depth + 30 < recursionLimit) (hu : A.units + 300 < cLine) (hh : A.handled = none)
   (k : ∀ x dx es nd h' tk, Fr g L h' m → News g L h' ((x, instObj 176 dx) :: (dx, dictOf es nd) :: news) → HalverD fa most 0 true es → (∀ q ∈ news, q.1 ≠ x) → (∀ q ∈ news, q.1 ≠ dx) → x ≠ dx → Q (.ref x) { s with heap := h', toks := tk }) :
   wpAny (model prog w) A (call (.ref 176) [.ref fa, .int most tm]) Q E s := by
  obtain ⟨hd9, dp, fr, gd, un⟩ := A
  change hd9 = none at hh
  subst hh
  dsimp only at hr hu
  have X := G.X
  refine call_cls (fI := 156) F X N (by k_is) (by k_is) (by k_is) ?_
  intro x dx h₁ F₁ N₁ l1 l2
  have gx := N₁ (x, _) (.head _)
  have gdx := N₁ (dx, _) (.tail _ (.head _))
  refine enterK _ G F₁.keep (ledCons gx.1 gx.2.2 (ledCons gdx.1 gdx.2.2 ledNil)) (by (try simp only [depth_under_make, depth_under_kw, depth_in1, depth_deeper]); (try dsimp only); omega) (by k_is) (by k_is) (BindsTo.of_eq rfl) (locs rfl) ?_ (by decide) rfl rfl rfl
  intro g' L' h₂ hg st' G' F' N' C hlt
  have X' := G'.X
  have T' := G'.T
  k_lt hlt
  have n1 : x ≠ dx := cls_ne gx.1 gdx.1 (by simp)
  replace n1 := neN n1
  clear X
  repeat' (first | walk1 | (dsimp only; walk1))
  (rename News _ _ _ _ => Nz); (rename Fr _ _ _ _ => Fz)
  dsimp only [InitBack]
  have c := left hg Fz
  have hoff : ∀ q ∈ news, q.1 ≠ x ∧ q.1 ≠ dx := fun q hq => by
    have a := l1 q hq
    exact ⟨Nat.ne_of_lt (Nat.lt_trans a l2), Nat.ne_of_lt a⟩
  have Fn : Fr g L _ m := c.fr F₁ (by
    intro a ha
    rcases List.mem_cons.mp ha with rfl | ha
    · exact gx.2
    · rw [List.mem_singleton.mp ha]; exact gdx.2)
  refine ⟨rfl, ?_⟩
  have Nn := pushTwo N₁ c Nz hoff
  exact k x dx _ _ _ _ Fn Nn ⟨_, _, _, _, _, _, _, _, _, _, rfl⟩ (fun q hq => (hoff q hq).1) (fun q hq => (hoff q hq).2) n1
end
section
set_option maxHeartbeats 1000000
/-- objects that are kept: of the ground or of the ledger -/
noncomputable def Held (g : Heap) (S objs : List (Addr × Obj)) : Prop := ∀ q ∈ objs, g.get? q.1 = some q.2 ∨ q ∈ S
/-- neither a dict nor a list or tuple -/
noncomputable def Odd (o : Obj) : Prop := (∀ es n, o.data ≠ .dict es n) ∧ ∀ vs n, o.data ≠ .seq vs n
theorem Held.get {g h : Heap} {L : Addr} {m : Str → Option Value} {S objs news : List (Addr × Obj)} (H : Held g S objs) (F : Fr g L h m) (N : News g L h news) (s : ∀ q ∈ S, q ∈ news) : ∀ q ∈ objs, h.get? q.1 = some q.2 := fun q hq => by
  rcases H q hq with e | e
  · exact F.keep _ _ e
  · exact (N q (s q e)).1
theorem heldOf {g h : Heap} {L : Addr} {m : Str → Option Value} (F : Fr g L h m) : ∀ {objs : List (Addr × Obj)}, (∀ q ∈ objs, h.get? q.1 = some q.2) → (∀ q ∈ objs, ∀ es n, q.2.data ≠ .dict es n) → ∃ S, News g L h S ∧ Held g S objs ∧ ∀ q ∈ S, q ∈ objs
  | [], _, _ => ⟨[], (fun _ h => nomatch h), (fun _ h => nomatch h), (fun _ h => nomatch h)⟩
  | (a, o) :: objs, k, d => by
    obtain ⟨S, N, H, s⟩ := heldOf F (objs := objs) (fun q hq => k q (.tail _ hq)) (fun q hq => d q (.tail _ hq))
    have ha := k (a, o) (.head _)
    cases e : g.get? a with
    | some o' =>
      have := F.keep _ _ e
      rw [ha] at this
      cases this
      refine ⟨S, N, fun q hq => ?_, fun q hq => .tail _ (s q hq)⟩
      rcases List.mem_cons.mp hq with rfl | hq
      · exact .inl e
      · exact H q hq
    | none =>
      refine ⟨(a, o) :: S, fun q hq => ?_, fun q hq => ?_, fun q hq => ?_⟩
      · rcases List.mem_cons.mp hq with rfl | hq
        · refine ⟨ha, ?_, e⟩
          rintro rfl
          obtain ⟨oL, es, ep, h1, h2, _⟩ := F.ns
          rw [ha] at h1
          cases h1
          exact d _ (.head _) _ _ h2
        · exact N q hq
      · rcases List.mem_cons.mp hq with rfl | hq
        · exact .inr (.head _)
        · exact (H q hq).imp id fun h => .tail _ h
      · rcases List.mem_cons.mp hq with rfl | hq
        · exact .head _
        · exact .tail _ (s q hq)

theorem tabFoot {h : Heap} {ps : Array Value} (x : AskTab h ps) : ∃ objs : List (Addr × Obj), (∀ q ∈ objs, h.get? q.1 = some q.2) ∧ (∀ q ∈ objs, Odd q.2) ∧ (∀ q ∈ objs, q.1 ≠ 221) ∧ ∀ h', (∀ q ∈ objs, h'.get? q.1 = some q.2) → h'.get? 221 = some (tabObj ps) → AskTab h' ps := by
  obtain ⟨h1, h2, h3⟩ := x
  rcases h3 with h3 | ⟨c', h3, h4⟩
  · exact ⟨[], (fun _ h => nomatch h), (fun _ h => nomatch h), (fun _ h => nomatch h), fun h' _ e => ⟨e, h2, .inl h3⟩⟩
  · have hne := tab_apart h1 h2 h4
    obtain ⟨c, oc, vs, t, e, ho, hd, hv⟩ := h4
    cases e
    refine ⟨[(c', oc)], ?_, ?_, ?_, ?_⟩
    · intro q hq; rw [List.mem_singleton.mp hq]; exact ho
    · intro q hq; rw [List.mem_singleton.mp hq]
      exact ⟨(fun _ _ e => by rw [hd] at e; cases e), (fun _ _ e => by rw [hd] at e; cases e)⟩
    · intro q hq; rw [List.mem_singleton.mp hq]; exact hne
    · exact fun h' k e => ⟨e, h2, .inr ⟨c', h3, _, oc, vs, t, rfl, k (c', oc) (by simp), hd, hv⟩⟩
theorem askTab_ne {h : Heap} {fa ra ha da : Addr} {part : Int} {ps : Array Value} (x : AskFn h fa ra ha da part) (y : AskTab h ps) : ∃ objs : List (Addr × Obj), (∀ q ∈ objs, h.get? q.1 = some q.2) ∧ (∀ q ∈ objs, Odd q.2) ∧ (∀ q ∈ objs, q.1 ≠ 221) ∧ ∀ h', (∀ q ∈ objs, h'.get? q.1 = some q.2) → AskFn h' fa ra ha da part ∧ (h'.get? 221 = some (tabObj ps) → AskTab h' ps) := by
  obtain ⟨qual, doc, pm, c', ctv, c1, c2, c3, c4, tp, hfo, hrec, ⟨o1, e1, d1⟩, ⟨o2, e2, d2⟩, ⟨o3, e3, d3⟩, ⟨o4, e4, d4⟩⟩ := x
  have hne := tab_apart y.1 y.2.1 hrec
  obtain ⟨l2, b1, b2, b3, b4⟩ := tabFoot y
  obtain ⟨c, oc, vs, t, e, ho, hd, hv⟩ := hrec
  cases e
  obtain ⟨fo, hfo', hfe⟩ : ∃ fo, h.get? fa = some fo ∧ some fo = h.get? fa := ⟨_, hfo, hfo.symm⟩
  have hff := hfe.trans hfo
  have nf : ∀ {a : Addr} {o : Obj}, h.get? a = some o → (∀ vs, o.data ≠ .fields vs) → a ≠ 221 := fun {a o} e q => by
    rintro rfl
    rw [y.1] at e
    cases e
    exact q _ rfl
  refine ⟨[(fa, fo), (c', oc), (c1, o1), (c2, o2), (c3, o3), (c4, o4)] ++ l2, ?_, ?_, ?_, ?_⟩
  · intro q hq
    rcases List.mem_append.mp hq with hq | hq
    · simp only [List.mem_cons, List.not_mem_nil, or_false] at hq
      rcases hq with rfl | rfl | rfl | rfl | rfl | rfl <;> assumption
    · exact b1 q hq
  · intro q hq
    rcases List.mem_append.mp hq with hq | hq
    · simp only [List.mem_cons, List.not_mem_nil, or_false] at hq
      rcases hq with rfl | rfl | rfl | rfl | rfl | rfl
      · cases hff; exact ⟨(fun _ _ e => nomatch e), (fun _ _ e => nomatch e)⟩
      · exact ⟨(fun _ _ e => by rw [hd] at e; cases e), (fun _ _ e => by rw [hd] at e; cases e)⟩
      · exact ⟨(fun _ _ e => by rw [d1] at e; cases e), (fun _ _ e => by rw [d1] at e; cases e)⟩
      · exact ⟨(fun _ _ e => by rw [d2] at e; cases e), (fun _ _ e => by rw [d2] at e; cases e)⟩
      · exact ⟨(fun _ _ e => by rw [d3] at e; cases e), (fun _ _ e => by rw [d3] at e; cases e)⟩
      · exact ⟨(fun _ _ e => by rw [d4] at e; cases e), (fun _ _ e => by rw [d4] at e; cases e)⟩
    · exact b2 q hq
  · intro q hq
    rcases List.mem_append.mp hq with hq | hq
    · simp only [List.mem_cons, List.not_mem_nil, or_false] at hq
      rcases hq with rfl | rfl | rfl | rfl | rfl | rfl
      · cases hff; exact nf hfo (fun _ e => nomatch e)
      · exact hne
      · exact nf e1 (fun _ e => by rw [d1] at e; cases e)
      · exact nf e2 (fun _ e => by rw [d2] at e; cases e)
      · exact nf e3 (fun _ e => by rw [d3] at e; cases e)
      · exact nf e4 (fun _ e => by rw [d4] at e; cases e)
    · exact b3 q hq
  · intro h' k
    refine ⟨⟨qual, doc, pm, c', ctv, c1, c2, c3, c4, tp, (k (fa, fo) (by simp)).trans hff, ⟨_, oc, vs, t, rfl, k (c', oc) (by simp), hd, hv⟩, ⟨o1, k (c1, o1) (by simp), d1⟩, ⟨o2, k (c2, o2) (by simp), d2⟩, ⟨o3, k (c3, o3) (by simp), d3⟩, ⟨o4, k (c4, o4) (by simp), d4⟩⟩, fun e => b4 h' (fun q hq => k q (List.mem_append_right _ hq)) e⟩

theorem callMkask {prog : Program} {w : World} {mg mb : Str → Option Value} {p : Program} {loose : List Str} {mean : ExcName → Option Value} {A : Around} {E : Value → Shared → Prop} {s : Shared} {g : Heap} {L : Addr} {m : Str → Option Value} {news : List (Addr × Obj)} {u : Obj → List (Addr × Obj)} {Q : Value → Shared → Prop}
   {ra ha da : Addr} {part : Int} {tp : Tok} {ps : Array Value}
   (F : Fr g L s.heap m) (N : News g L s.heap news) (U : UpdF 221 (tabObj ps) news u) (hT : AskTab s.heap ps) (G : Gd w mg mb p loose mean g) (hr : A.depth + 20 < recursionLimit) (hu : A.units + 200 < cLine) (hh : A.handled = none)
   (k : ∀ (h' : Heap) (tk : Nat) (fa : Addr) (ps' : Array Value) (S objs : List (Addr × Obj)), Fr g L h' m → News g L h' (u (tabObj ps') ++ S) → Held g S objs → (∀ q ∈ S, q ∈ objs) → (∀ q ∈ objs, Odd q.2) → (∀ q ∈ S, q.1 ≠ 221) →
      (∀ h2, (∀ q ∈ objs, h2.get? q.1 = some q.2) → AskFn h2 fa ra ha da part ∧ (h2.get? 221 = some (tabObj ps') → AskTab h2 ps')) → Q (.ref fa) { s with heap := h', toks := tk }) :
   wpAny (model prog w) A (call (.ref 226) [.ref ra, .ref ha, .ref da, .int part tp]) Q E s := by
  have ht := N _ (UpdF.mem' U)
  refine wpAny_call (spec_mkask G F.keep hr hu hh hT ht.2.2 fun h' tk fa ps' c hT' hF _ => ?_)
  have F' : Fr g L h' m := c.fr F fun a ha => by rw [List.mem_singleton.mp ha]; exact ht.2
  obtain ⟨objs, a1, a2, a3, a4⟩ := askTab_ne hF hT'
  obtain ⟨S, NS, H, s1⟩ := heldOf F' a1 fun q hq => (a2 q hq).1
  have N' := Ch.news1 c N U hT'.1
  exact k h' tk fa ps' S objs F' (fun q hq => (List.mem_append.mp hq).elim (N' q) (NS q)) H s1 a2 (fun q hq => a3 q (s1 q hq)) a4

theorem callNext {prog : Program} {w : World} {mg mb : Str → Option Value} {p : Program} {loose : List Str} {mean : ExcName → Option Value} {A : Around} {E : Value → Shared → Prop} {s : Shared} {g : Heap} {L : Addr} {m : Str → Option Value} {news : List (Addr × Obj)} {u : Obj → List (Addr × Obj)} {Q : Value → Shared → Prop}
   {fd lc : Addr} {o : Obj} {vs : List Value} {ns : List Int} {spot wide : Int} {t1 t2 : Tok}
   (F : Fr g L s.heap m) (N : News g L s.heap news) (U : UpdF fd o news u) (G : Gd w mg mb p loose mean g) (hr : A.depth + 10 < recursionLimit) (hu : A.units + 100 < cLine)
   (hd : o.IsDictOf (strKind prog w) (feedKvs lc spot t1)) (hl : s.heap.IsList lc vs.toArray) (hi : IntsAre vs ns) (hne : lc ≠ fd) (h1 : 0 ≤ spot) (h2 : spot < 1000) (h3 : 0 < wide) (h4 : wide < 100) (hlen : ns.length < 100)
   (k : ∀ o' h' tk n t t', Fr g L h' m → News g L h' (u o') → o'.IsDictOf (strKind prog w) (feedKvs lc (spot + 1) t') → 0 ≤ n → n < wide → Q (.int n t) { s with heap := h', toks := tk }) :
   wpAny (model prog w) A (call (.ref 214) [.ref fd, .int wide t2]) Q E s := by
  have ht := N _ (UpdF.mem' U)
  refine wpAny_call (spec_next G F.keep hr hu ht.1 ht.2.2 hd hl hi hne h1 h2 h3 h4 hlen fun o' h' tk n t t' c e d a b => ?_)
  exact k o' h' tk n t t' (c.fr F fun a ha => by rw [List.mem_singleton.mp ha]; exact ht.2) (Ch.news1 c N U e) d a b
end
section
local macro_rules | `(tactic| walk_at "my_p") => `(tactic| skip)
set_option maxHeartbeats 1000000
theorem textsAll_under {W : List Addr} {g h : Heap} {L : Addr} {m : Str → Option Value} (F : Fr g L h m) (hw : ∀ w ∈ W, g.get? w = none) {vs : List Value} {r : List (List Str)} (x : TextsAll g vs r) : TextsAll (hideAll h W) vs r :=
  LotsAt.back (lots := []) F (fun _ h => nomatch h) hw (fun _ h => nomatch h) (LotsAt.ofAll x)
theorem isList_hide {W : List Addr} {h : Heap} {a : Addr} {items : Array Value} (x : h.IsList a items) (n : a ∉ W) : (hideAll h W).IsList a items := by
  obtain ⟨o, ho, r⟩ := x
  exact ⟨o, hideAll_get _ ho n, r⟩
/-- a call of by_halves, seen from the frame that made the Shrinker -/
theorem callHalves {prog : Program} {w : World} {mg mb : Str → Option Value} {p : Program} {loose : List Str} {mean : ExcName → Option Value} {A : Around} {E : Value → Shared → Prop} {s : Shared} {g : Heap} {L : Addr} {m : Str → Option Value} {news : List (Addr × Obj)} {u : Obj → List (Addr × Obj)} {v : Obj → Obj → List (Addr × Obj)} {Q : Value → Shared → Prop}
   (f : Nat) {x dx fa ra ha da ba sa : Addr} {part : Int} {bvs svs rvs dvs hvs : List Value} {base keys : List Str} {new : Bool} {rows : List (List Str)} {dull : List Int} {most : Nat} {hst : HSt} {es : List DictEntry} {nd nh : Nat} {S S' objs : List (Addr × Obj)} {q1 : Addr}
   (F : Fr g L s.heap m) (N : News g L s.heap news) (G : Gd w mg mb p loose mean g) (hq : q1 = 173)
   (hx : (x, instObj 176 dx) ∈ news) (U : UpdF dx (dictOf es nd) news u) (U' : ∀ o', UpdF ha (listOf hvs.toArray nh) (u o') (v o')) (hm : (ha, listOf hvs.toArray nh) ∈ news)
   (D : HalverD fa most hst.asked hst.sure es) (X : LotsAt g S hvs hst.heard) (NS : ∀ q ∈ S, q ∈ news) (s1 : ∀ q ∈ S, q.1 ≠ x) (s2 : ∀ q ∈ S, q.1 ≠ dx) (s3 : ∀ q ∈ S, q.1 ≠ ha)
   (H : Held g S' objs) (NS' : ∀ q ∈ S', q ∈ news) (od : ∀ q ∈ objs, Odd q.2) (s4 : ∀ q ∈ S', q.1 ≠ x) (hf : ∀ h2, (∀ q ∈ objs, h2.get? q.1 = some q.2) → AskFn h2 fa ra ha da part)
   (hra : s.heap.IsList ra rvs.toArray) (hrane : ra ≠ ha) (hrs : TextsAll (hideAll s.heap [x, dx, ha]) rvs rows) (hda : s.heap.IsList da dvs.toArray) (hdane : da ≠ ha) (hds : IntsAre dvs dull)
   (hba : s.heap.IsList ba bvs.toArray) (hbane : ba ≠ ha) (hbs : StrsAre bvs base) (hsa : s.heap.IsList sa svs.toArray) (hsane : sa ≠ ha) (hss : StrsAre svs keys)
   (hr : A.depth + 60 + f < recursionLimit) (hu : A.units + 600 + 8 * f < cLine) (hh : A.handled = none) (hp : 1 ≤ part) (hp2 : part ≤ 2) (hlr : ∀ r ∈ rows, r.length ≤ 1000) (hll : base.length + keys.length ≤ 100) (hdl : dull.length ≤ 10) (hmost : most ≤ 5000) (hok : HOk most hst) (hkf : keys.length ≤ f) (hf1 : 1 ≤ f)
   (k : ∀ (h' : Heap) (tk : Nat) (d : Addr) (zvs : List Value) (n : Nat) (es' : List DictEntry) (nd' : Nat) (hvs' : List Value) (nh' : Nat) (lots : List (Addr × Obj)), Fr g L h' m → News g L h' ((d, listOf (List.toArray zvs) n) :: (v (dictOf es' nd') (listOf (List.toArray hvs') nh') ++ lots)) →
      HalverD fa most (halves rows dull most f base keys new hst).2.asked (halves rows dull most f base keys new hst).2.sure es' → LotsAt g lots hvs' (halves rows dull most f base keys new hst).2.heard → (∀ q ∈ lots, q.1 ≠ x) → (∀ q ∈ lots, q.1 ≠ dx) → (∀ q ∈ lots, q.1 ≠ ha) → (∀ q ∈ news, q.1 ≠ d) →
      StrsAre zvs (halves rows dull most f base keys new hst).1 → Q (.ref d) { s with heap := h', toks := tk }) :
   wpAny (model prog w) A (call (.ref q1) [.ref x, .ref ba, .ref sa, .bool new]) Q E s := by
  subst hq
  have hd := UpdF.mem' U
  have Nx := N _ hx
  have Nd := N _ hd
  have Nh := N _ hm
  have gw : ∀ w ∈ [x, dx, ha], g.get? w = none := by
    intro a ha'
    simp only [List.mem_cons, List.not_mem_nil, or_false] at ha'
    rcases ha' with rfl | rfl | rfl
    · exact Nx.2.2
    · exact Nd.2.2
    · exact Nh.2.2
  have st : g.StaysIn (hideAll s.heap [x, dx, ha]) := fun b o e => hideAll_get _ (F.keep b o e) fun hw => by rw [gw _ hw] at e; cases e
  have hobj : ∀ q ∈ objs, (hideAll s.heap [x, dx, ha]).get? q.1 = some q.2 := fun q hq => by
    refine hideAll_get _ (H.get F N NS' q hq) fun hw => ?_
    rcases H q hq with e | e
    · rw [gw _ hw] at e; cases e
    · have o := od q hq
      simp only [List.mem_cons, List.not_mem_nil, or_false] at hw
      have z := (N q (NS' q e)).1
      rcases hw with hw | hw | hw
      · exact s4 q e hw
      · rw [hw, Nd.1] at z; exact o.1 _ _ (by rw [← Option.some.inj z])
      · rw [hw, Nh.1] at z; exact o.2 _ _ (by rw [← Option.some.inj z])
  have nW : ∀ {a : Addr} {its : Array Value}, s.heap.IsList a its → a ≠ ha → a ∉ [x, dx, ha] := fun {a its} e n hw => by
    simp only [List.mem_cons, List.not_mem_nil, or_false] at hw
    rcases hw with hw | hw | hw
    · exact list_ne e Nx.1 (by simp) hw
    · exact list_ne e Nd.1 (by simp) hw
    · exact n hw
  refine wpAny_call (spec_halves prog w mg mb p loose mean f hf1 (hst := hst) (most := most) (dx := dx) (G.keeps st) (fun b o e => of_hideAll _ e) hr hu hh (hf _ hobj) (isList_hide hra (nW hra hrane)) hrs (isList_hide hda (nW hda hdane)) hds (hideAll_none _ (by simp)) (hideAll_none _ (by simp)) (hideAll_none _ (by simp))
    (halverOf F N hx hd hm D X NS s1 s2 s3) hba hbane hbs hsa hsane hss hp hp2 hlr hll hdl hmost hok hkf hf1 ?_)
  intro h' tk d zvs n c H' hdn hdo hzs
  obtain ⟨es', nd', hvs', nh', lots, F', N', HD, HX, t1, t2, t3⟩ := afterH F N hx U U' hm c H'
  exact k h' tk d zvs n es' nd' hvs' nh' lots F' (new_ok F hdn hdo N') HD HX t1 t2 t3 (news_off N hdn) hzs
end
local macro_rules | `(tactic| walk_at "call ref") => `(tactic| (k_here; (with_reducible show wpAny _ _ (call (.ref 214) _) _ _ _); k_dflt (refine' callNext (by k_asm) (by k_asm) (by k_updF) (by assumption) (by walk_at "my_depth") (by walk_at "my_units") (by assumption) (by kmk_list) (by assumption) (by assumption) (by omega) (by omega) (by omega) (by omega) (by assumption) ?_); walk_at "my_f"))
section
local macro_rules | `(tactic| walk_at "my_p") => `(tactic| skip)
set_option maxHeartbeats 1000000
theorem lotsLen {g : Heap} {S : List (Addr × Obj)} : ∀ {vs : List Value} {hs : List (List Str)}, LotsAt g S vs hs → vs.length = hs.length
  | _, _, .nil => rfl
  | _, _, .old _ x => by simp [lotsLen x]
  | _, _, .new _ _ _ _ x => by simp [lotsLen x]
theorem lenLots {prog : Program} {w : World} {A : Around} {E : Value → Shared → Prop} {s : Shared} {g : Heap} {S : List (Addr × Obj)} {l : Addr} {vs : List Value} {hs : List (List Str)} {Q : Value → Shared → Prop} (hl : s.heap.IsList l vs.toArray) (X : LotsAt g S vs hs) (hz : hs.length ≤ 5000)
    (h : Q (.int hs.length (s.toks + 1)) { s with toks := s.toks + 1 + 1 }) : wpAny (model prog w) A (call (.builtin "len") [.ref l]) Q E s := by
  have e : vs.toArray.size = hs.length := by simp [lotsLen X]
  refine len_list hl ?_ (by rw [e]; exact h)
  rw [e]; omega
theorem callPart {prog : Program} {w : World} {mg mb : Str → Option Value} {p : Program} {loose : List Str} {mean : ExcName → Option Value} {A : Around} {E : Value → Shared → Prop} {s : Shared} {g : Heap} {L : Addr} {m : Str → Option Value} {news : List (Addr × Obj)} {Q : Value → Shared → Prop}
   {a b : Addr} {xs ys : List Str} {vs us : List Value}
   (F : Fr g L s.heap m) (N : News g L s.heap news) (G : Gd w mg mb p loose mean g) (hr : A.depth + 10 < recursionLimit) (hu : A.units + 100 < cLine) (hh : A.handled = none)
   (ha : s.heap.IsList a vs.toArray) (hx : StrsAre vs xs) (hb : s.heap.IsList b us.toArray) (hy : StrsAre us ys) (hlx : xs.length < 100) (hly : ys.length < 100)
   (k : ∀ h' tk, Fr g L h' m → News g L h' news → Q (.bool (decide (xs = ys.filter (fun y => xs.any (· == y))))) { s with heap := h', toks := tk }) :
   wpAny (model prog w) A (call (.ref 238) [.ref a, .ref b]) Q E s :=
  wpAny_call (spec_part G F.keep hr hu hh ha hx hb hy hlx hly fun h' tk c => k h' tk (c.fr0 F) (c.news0 N))
theorem dict_221 {prog : Program} {w : World} {h : Heap} {fd : Addr} {o : Obj} {ps : Array Value} {kvs : List (Str × Value)} (e : h.get? fd = some o) (d : o.IsDictOf (strKind prog w) kvs) (t : h.get? 221 = some (tabObj ps)) : fd ≠ 221 := by
  rintro rfl
  rw [t] at e
  cases e
  obtain ⟨es, ep, _, h, _⟩ := d
  exact Data.noConfusion h
theorem list_dict {prog : Program} {w : World} {h : Heap} {fd lc : Addr} {o : Obj} {its : Array Value} {kvs : List (Str × Value)} (e : h.get? fd = some o) (d : o.IsDictOf (strKind prog w) kvs) (t : h.IsList lc its) : lc ≠ fd := by
  rintro rfl
  obtain ⟨o1, e1, _, _, e2⟩ := t
  rw [e] at e1
  cases e1
  obtain ⟨es, ep, _, h, _⟩ := d
  rw [h] at e2; cases e2
theorem tabUnder {h g : Heap} {led : List (Addr × Obj)} {ps : Array Value} (hT : AskTab h ps) (hg : g = hideAll h (led.map (·.1))) (hl : ∀ q ∈ led, h.get? q.1 = some q.2) (hk : ∀ q ∈ led, q.1 = 221 ∨ ∃ es n, q.2.data = .dict es n) :
    ∀ {L : Addr} {m : Str → Option Value} {h' : Heap}, Fr g L h' m → h'.get? 221 = some (tabObj ps) → AskTab h' ps := by
  obtain ⟨ob, b1, b2, b3, b4⟩ := tabFoot hT
  intro L m h' F e
  refine b4 h' (fun q hq => F.keep _ _ (under_get hg (b1 q hq) fun p hp e => ?_)) e
  rcases hk p hp with z | ⟨es, n, z⟩
  · exact b3 q hq (e ▸ z)
  · have := hl p hp
    rw [e, b1 q hq] at this
    exact (b2 q hq).1 es n (by rw [Option.some.inj this]; exact z)
theorem isDict_data {prog : Program} {w : World} {o : Obj} {kvs : List (Str × Value)} (d : o.IsDictOf (strKind prog w) kvs) : ∃ es n, o.data = .dict es n := by
  obtain ⟨es, ep, _, h, _⟩ := d
  exact ⟨_, _, h⟩
theorem groundNe {g h : Heap} {L a b : Addr} {o : Obj} {its : Array Value} {news : List (Addr × Obj)} (x : g.IsList a its) (N : News g L h news) (hm : (b, o) ∈ news) : a ≠ b := by
  rintro rfl
  obtain ⟨o1, e, _⟩ := x
  rw [(N _ hm).2.2] at e; cases e
theorem gw3 {g h : Heap} {L x dx ha : Addr} {o1 o2 o3 : Obj} {news : List (Addr × Obj)} (N : News g L h news) (h1 : (x, o1) ∈ news) (h2 : (dx, o2) ∈ news) (h3 : (ha, o3) ∈ news) : ∀ w ∈ [x, dx, ha], g.get? w = none := by
  intro a ha'
  simp only [List.mem_cons, List.not_mem_nil, or_false] at ha'
  rcases ha' with rfl | rfl | rfl
  · exact (N _ h1).2.2
  · exact (N _ h2).2.2
  · exact (N _ h3).2.2
theorem oddNe {g h : Heap} {L a : Addr} {news S objs : List (Addr × Obj)} {vs : List Value} {n : Nat} {fa ra da : Addr} {part : Int} {P : Heap → Prop} (_ : ∀ h2, (∀ q ∈ objs, h2.get? q.1 = some q.2) → AskFn h2 fa ra a da part ∧ P h2) (N : News g L h news) (hm : (a, listOf vs.toArray n) ∈ news) (NS : ∀ q ∈ S, q ∈ news) (s : ∀ q ∈ S, q ∈ objs) (od : ∀ q ∈ objs, Odd q.2) : ∀ q ∈ S, q.1 ≠ a := fun q hq e => by
  have z := (N q (NS q hq)).1
  rw [e, (N _ hm).1] at z
  exact (od q (s q hq)).2 _ _ (by rw [← Option.some.inj z])
end
local macro_rules | `(tactic| walk_at "call builtin:len") => `(tactic| (k_here; (with_reducible show wpAny _ _ (call (.builtin "len") [.ref _]) _ _ _); k_dflt (refine' lenLots (by kmk_list) (by assumption) (by omega) ?_)))
local macro_rules | `(tactic| walk_at "call ref") => `(tactic| (k_here; (with_reducible show wpAny _ _ (call (.ref 238) _) _ _ _); k_dflt (refine' callPart (by k_asm) (by k_asm) (by assumption) (by walk_at "my_depth") (by walk_at "my_units") (by walk_at "my_h") (by kmk_list) (by assumption) (by kmk_list) (by assumption) (by walk_at "my_len") (by walk_at "my_len") ?_); walk_at "my_f"))
section
set_option maxHeartbeats 1000000
structure FewOk (rows : List (List Str)) (base keys : List Str) (new : Bool) (many : Nat) (due : List Str) (most f : Nat) : Prop where
  a : many ≤ most → (halves rows [] most f base keys new ⟨0, true, []⟩).2.heard.length = many
  b : (halves rows [] most f base keys new ⟨0, true, []⟩).2.heard.length ≤ most
  c : (halves rows [] most f base keys new ⟨0, true, []⟩).2.sure = decide (many ≤ most)
  d : many ≤ most → (halves rows [] most f base keys new ⟨0, true, []⟩).1 = due
  e : (halves rows [] most f base keys new ⟨0, true, []⟩).1 = keys.filter (fun y => (halves rows [] most f base keys new ⟨0, true, []⟩).1.any (· == y))
  g : enough rows (base ++ (halves rows [] most f base keys new ⟨0, true, []⟩).1) = true

theorem spec_few {prog : Program} {w : World} {mg mb : Str → Option Value} {p : Program} {loose : List Str} {mean : ExcName → Option Value} {A : Around} {s : Shared} {h₀ : Heap} {R : Result → Shared → Prop}
   {fd lc ra ba ka da : Addr} {o : Obj} {vs rvs bvs kvs dvs : List Value} {ns : List Int} {spot : Int} {t1 t2 : Tok} {ps : Array Value} {rows : List (List Str)} {base keys due : List Str} {new : Bool} {many : Nat}
   (G : Gd w mg mb p loose mean h₀) (st : h₀.StaysIn s.heap) (hr : A.depth + 120 < recursionLimit) (hu : A.units + 1000 < cLine) (hh : A.handled = none)
   (hfd : s.heap.get? fd = some o) (hf0 : h₀.get? fd = none) (hd : o.IsDictOf (strKind prog w) (feedKvs lc spot t1)) (hT : AskTab s.heap ps) (hT0 : h₀.get? 221 = none)
   (hl : s.heap.IsList lc vs.toArray) (hi : IntsAre vs ns) (h1 : 0 ≤ spot) (h2 : spot < 1000) (hlen : ns.length < 100)
   (hra : h₀.IsList ra rvs.toArray) (hrs : TextsAll h₀ rvs rows) (hba : h₀.IsList ba bvs.toArray) (hbs : StrsAre bvs base) (hka : h₀.IsList ka kvs.toArray) (hks : StrsAre kvs keys) (hda : h₀.IsList da dvs.toArray) (hds : StrsAre dvs due) (hlc : h₀.IsList lc vs.toArray)
   (hlr : ∀ r ∈ rows, r.length ≤ 1000) (hlb : base.length ≤ 10) (hlk : keys.length ≤ 8) (hld : due.length ≤ 10) (hmany : many ≤ 1000)
   (hok : ∀ most, most < 6 → FewOk rows base keys new many due most 9)
   (k : ∀ o' h' tk ps' t', Ch [fd, 221] s.heap h' → h'.get? fd = some o' → o'.IsDictOf (strKind prog w) (feedKvs lc (spot + 1) t') → AskTab h' ps' → R (.ok (.ret (.bool true))) { s with heap := h', toks := tk }) :
   codeAny (model prog w) A (.call (.ref 245) ⟨[.ref fd, .ref ra, .ref ba, .ref ka, .bool new, .int many t2, .ref da], []⟩) R s := by
  obtain ⟨hd9, dp, fr, gd, un⟩ := A
  change hd9 = none at hh
  subst hh
  dsimp only at hr hu
  refine enterK [(fd, o), (221, tabObj ps)] G st (ledCons hfd hf0 (ledCons hT.1 hT0 ledNil)) (by dsimp only; omega) (by k_is) (by k_is) (BindsTo.of_eq rfl) (locs rfl) ?_ (by decide) rfl rfl rfl
  intro g L' h₁ hg st' G' F N C hlt
  have X := G'.X
  have T := G'.T
  k_lt hlt
  have n1 : fd ≠ 221 := dict_221 hfd hd hT.1
  have n2 : lc ≠ fd := list_dict hfd hd hl
  replace n1 := neN n1
  have hrag := hra.at (st' _)
  have hrsg := hrs.keeps st'
  have hbag := hba.at (st' _)
  have hkag := hka.at (st' _)
  have hdag := hda.at (st' _)
  have hlcg := hlc.at (st' _)
  repeat' (first | walk1 | (dsimp only; walk1))
  rename ((_ : Int) < 6) => hn6
  rename (0 ≤ (_ : Int)) => hn0
  obtain ⟨nm, enm⟩ := Int.eq_ofNat_of_zero_le hn0
  subst enm
  (rename News _ _ _ _ => N1); (rename Fr _ _ _ _ => F1)
  have TU := @tabUnder s.heap g [(fd, o), (221, tabObj ps)] ps hT hg (fun q hq => by rcases List.mem_cons.mp hq with rfl | hq; exact hfd; rw [List.mem_singleton.mp hq]; exact hT.1) (fun q hq => by rcases List.mem_cons.mp hq with rfl | hq; exact .inr (isDict_data hd); rw [List.mem_singleton.mp hq]; exact .inl rfl)
  refine callMkask F1 N1 (by k_updF) (TU F1 (N1.get (by k_mem))) G' (by walk_at "my_depth") (by walk_at "my_units") rfl ?_
  intro h3 tk3 fa ps3 S objs F3 N3 H3 s3 od3 sne3 hf3
  simp only [List.cons_append, List.nil_append] at N3
  clear F1 N1
  dsimp only
  repeat' (first | walk1 | (dsimp only; walk1))
  (rename News _ _ _ _ => N4); (rename Fr _ _ _ _ => F4)
  refine callShrinker F4 N4 G' (by walk_at "my_depth") (by walk_at "my_units") rfl ?_
  intro x dx es nd h5 tk5 F5 N5 HD5 nx ndx nxd
  clear F4 N4
  have sx : ∀ q ∈ S, q.1 ≠ x := fun q hq => nx q (by simp [hq])
  have sdx : ∀ q ∈ S, q.1 ≠ dx := fun q hq => ndx q (by simp [hq])
  replace nx := allNe_of nx; dsimp only [AllNe] at nx
  replace ndx := allNe_of ndx; dsimp only [AllNe] at ndx
  replace nxd := neN nxd
  obtain ⟨e1, e2, e3, e4, k1, k2, k3, k4, t1, t2, rfl⟩ := HD5
  dsimp only
  repeat' (first | walk1 | (dsimp only; walk1))
  (rename News _ _ _ _ => N6); (rename Fr _ _ _ _ => F6)
  have sha := oddNe hf3 N6 (by k_mem) (S := S) (fun q hq => by simp [hq]) s3 od3
  refine callHalves 9 (hst := ⟨0, true, []⟩) (S := []) (S' := S) (objs := objs) F6 N6 G' rfl (by k_mem) (by k_updF) (fun o' => by k_updF) (by k_mem) ⟨_, _, _, _, _, _, _, _, _, _, rfl⟩ .nil (fun _ h => nomatch h) (fun _ h => nomatch h) (fun _ h => nomatch h) (fun _ h => nomatch h)
    H3 (fun q hq => by simp [hq]) od3 sx (fun h2 e => (hf3 h2 e).1) (hrag.at (F6.keep _)) ?c1 (textsAll_under F6 ?c2 hrsg) (N6.isList (by k_mem)) ?c3 .nil (N6.isList (by k_mem)) (by k_ne) hbs (N6.isList (by k_mem)) (by k_ne) hks (by walk_at "my_depth") (by walk_at "my_units") rfl (by decide) (by decide) hlr (by omega) (by simp) (by omega) ⟨rfl, Nat.zero_le _⟩ (by omega) (by decide) ?_
  case c1 => exact groundNe hrag N6 (by k_mem)
  case c2 => exact gw3 N6 (by k_mem) (by k_mem) (by k_mem)
  case c3 => k_ne
  intro h7 tk7 d zvs n es7 nd7 hvs7 nh7 lots F7 N7 HD7 HX7 t1 t2 t3 nd7 hzs
  simp only [List.cons_append] at N7
  clear F6 N6
  replace nd7 := allNe_of nd7; dsimp only [AllNe] at nd7
  obtain ⟨e1', e2', e3', e4', k1', k2', k3', k4', t1', t2', rfl⟩ := HD7
  have HL := halves_len (rows := rows) (dull := []) (most := nm) 9 base keys new ⟨0, true, []⟩
  have P := hok nm (by omega)
  have Pa := P.a
  have Pb := P.b
  have Pc := P.c
  have Pd := P.d
  have Pe := P.e
  have Pg := P.g
  generalize halves rows [] nm 9 base keys new ⟨0, true, []⟩ = hz at *
  dsimp only
  repeat' (first | walk1 | (dsimp only; walk1))
  all_goals first
    | (exfalso; rename (_ ≠ ite _ _ _) => q; have := Pa (by omega); rw [if_neg (by omega)] at q; omega)
    | (exfalso; rename ((_ != _) = true) => q; rw [Pc] at q; simp [Int.ofNat_le] at q; done)
    | ((rename News _ _ _ _ => Nz); (rename Fr _ _ _ _ => Fz); rename (hz.2.sure = true) => q; rw [Pc] at q
       show R (.ok (.ret (.bool (decide (hz.1 = due))))) _
       rw [decide_eq_true (Pd (of_decide_eq_true q))]
       exact k _ _ _ ps3 _ (left hg Fz) (Nz.get (by k_mem)) (by assumption) ((hf3 _ (H3.get Fz Nz (fun q hq => by simp [hq]))).2 (Nz.get (by k_mem))))
    | ((rename News _ _ _ _ => Nz); (rename Fr _ _ _ _ => Fz)
       rw [Pg]
       exact k _ _ _ ps3 _ (left hg Fz) (Nz.get (by k_mem)) (by assumption) ((hf3 _ (H3.get Fz Nz (fun q hq => by simp [hq]))).2 (Nz.get (by k_mem))))
end
section
local macro_rules | `(tactic| walk_at "my_p") => `(tactic| skip)
set_option maxHeartbeats 1000000
noncomputable def told (dull : List Int) (xs : List Str) : Bool := dull.any (· == (xs.length : Int))
noncomputable def pzOf (h : Heap) (dull : List Int) : Value → Bool
  | .ref a => match h.get? a with
    | some o => match o.data with
      | .seq us _ => dull.any (· == (us.size : Int))
      | _ => false
    | none => false
  | _ => false
theorem pz_val {h : Heap} {dull : List Int} {a : Addr} {us : List Value} {xs : List Str} (x : h.IsList a us.toArray) (y : StrsAre us xs) : pzOf h dull (.ref a) = told dull xs := by
  obtain ⟨o, ho, _, n, hd⟩ := x
  simp only [pzOf, ho, hd, told]
  rw [List.size_toArray, strs_len y]
theorem lots_filter {h g : Heap} {L : Addr} {m : Str → Option Value} {S news : List (Addr × Obj)} {dull : List Int} (F : Fr g L h m) (N : News g L h news) (NS : ∀ q ∈ S, q ∈ news) : ∀ {hvs : List Value} {heard : List (List Str)}, LotsAt g S hvs heard → (hvs.filter (pzOf h dull)).length = (heard.filter (told dull)).length
  | _, _, .nil => rfl
  | _, _, .old ⟨us, e, y⟩ x => by
    have ih := lots_filter (dull := dull) F N NS x
    simp only [List.filter_cons, pz_val (e.at (F.keep _)) y]
    split <;> simp [ih]
  | _, _, .new hm hc hd y x => by
    have ih := lots_filter (dull := dull) F N NS x
    simp only [List.filter_cons, pz_val ⟨_, N.get (NS _ hm), hc, _, hd⟩ y]
    split <;> simp [ih]
theorem lots_mem {h g : Heap} {L : Addr} {m : Str → Option Value} {S news : List (Addr × Obj)} (F : Fr g L h m) (N : News g L h news) (NS : ∀ q ∈ S, q ∈ news) : ∀ {hvs : List Value} {heard : List (List Str)} {v : Value}, LotsAt g S hvs heard → v ∈ hvs → ∃ a us xs, v = .ref a ∧ h.IsList a us.toArray ∧ StrsAre us xs ∧ xs ∈ heard
  | _, _, _, .nil, hv => nomatch hv
  | _, _, _, .old ⟨us, e, y⟩ x, hv => by
    rcases List.mem_cons.mp hv with rfl | hv
    · exact ⟨_, _, _, rfl, e.at (F.keep _), y, .head _⟩
    · obtain ⟨a, us, xs, h1, h2, h3, h4⟩ := lots_mem F N NS x hv
      exact ⟨a, us, xs, h1, h2, h3, .tail _ h4⟩
  | _, _, _, .new hm hc hd y x, hv => by
    rcases List.mem_cons.mp hv with rfl | hv
    · exact ⟨_, _, _, rfl, ⟨_, N.get (NS _ hm), hc, _, hd⟩, y, .head _⟩
    · obtain ⟨a, us, xs, h1, h2, h3, h4⟩ := lots_mem F N NS x hv
      exact ⟨a, us, xs, h1, h2, h3, .tail _ h4⟩
inductive CompL (prog : Program) (w : World) (A : Around) (env : Env) (g : Heap) (L : Addr) (m : Str → Option Value) (s : Shared) (c : Expr) (x : Str) (scope : Scope) (cl : List (Str × Addr)) (Q : Value → Shared → Prop) (dull : List Int) (xv : Value) (s₁ : Shared) : Prop
  | mk (ax : Addr) (vs : List Value) (heard : List (List Str)) (news S : List (Addr × Obj)) (_ : xv = .ref ax) (_ : s₁.heap = s.heap) (_ : s₁.heap.IsList ax vs.toArray) (_ : LotsAt g S vs heard) (_ : ∀ q ∈ S, q ∈ news) (_ : heard.length ≤ 1000) (_ : Fr g L s₁.heap m) (_ : News g L s₁.heap news) (_ : ∀ C a us xs s₂ m₂ E', s₁.heap.IsList a (List.toArray us) → StrsAre us xs → xs ∈ heard → s₂.heap.Ns (compEnvC scope cl C env).locals m₂ → m₂ x = some (.ref a) → (∀ b o, s₁.heap.get? b = some o → s₂.heap.get? b = some o) →
        wpAny (model prog w) A (isTrue c (compEnvC scope cl C env) (eval c (compEnvC scope cl C env))) (fun ok s₃ => ok = told dull xs ∧ Keeps s₂ s₃) E' s₂) (_ : ∀ D (ys : List Value) n h' tk, Fr g L h' m → News g L h' ((D, listOf ys.toArray n) :: news) → (∀ q ∈ news, q.1 ≠ D) → ys.length = (heard.filter (told dull)).length → Q (.ref D) { s₁ with heap := h', toks := tk }) : CompL prog w A env g L m s c x scope cl Q dull xv s₁
open PySem.SeqAt in
theorem eqNil {prog : Program} {w : World} {A : Around} {E : Value → Shared → Prop} {s : Shared} {a b : Addr} {vs : List Value} {Q : Value → Shared → Prop} (ha : s.heap.IsList a vs.toArray) (hb : s.heap.IsList b #[]) (hu : A.units < cLine)
    (h : Q (.bool (decide (vs = []))) s) : wpAny (model prog w) A (compareOp .Eq (.ref a) (.ref b)) Q E s := by
  cases vs with
  | nil =>
    refine eq_listAt (e := fun _ => true) ha hb (by simp) hu (fun j h1 _ => absurd h1 (by simp)) ?_
    simpa using h
  | cons v vs =>
    refine eq_list_lengthsAt ha hb (by simp) hu ?_
    simpa using h

theorem compLots {prog : Program} {w : World} {A : Around} {E : Value → Shared → Prop} {s : Shared} {g : Heap} {L : Addr} {m : Str → Option Value} {env : Env} {iter c : Expr} {x : Str} {px px' : Pos} {scope : Scope} {cl : List (Str × Addr)} {pos : Pos} {Q : Value → Shared → Prop} (F₀ : Fr g L s.heap m) (dull : List Int)
    (hh : A.handled = none)
    (h : wpAny (model prog w) A (eval iter env) (fun xv s₁ => Stop (CompL prog w A env g L m s c x scope cl Q dull xv s₁)) E s)
    (hs : ∀ x, foldedSetIterable iter env x = pure x := by intro _; rfl) (hclos : closureFor scope env = pure cl := by with_unfolding_all rfl) (hcell : ∀ y ∈ scope.names, y.2 ≠ .cell := by decide) (hkind : scope.kind = .function := by rfl)
    (hnames : ∀ y ∈ scope.names, y.2 = .local → scope.names.lookup y.1 = some .local := by decide) (hx : scope.names.lookup x = some .local := by rfl) (hd : (x == ("__debug__" : Str)) = false := by decide) :
    wpAny (model prog w) A (eval (.ListComp (.Name x px') [⟨.Name x px, iter, [c], 0⟩] scope pos) env) Q E s := by
  refine compPure F₀ (pzOf s.heap dull) (fun v y => v = y) hh (wpAny_mono h (fun xv s₁ h₁ => ?_) fun _ _ e => e) hs hclos hcell hkind hnames hx
  obtain ⟨ax, vs, heard, news, S, rfl, es, hl, X, NS, hsz, F, N, htest, hQ⟩ := h₁.it
  refine Stop.mk ⟨ax, vs, news, rfl, hl, by rw [lotsLen X, sizeLine_eq]; omega, F, N, ?_, ?_, ?_⟩
  · intro C v s₂ m₂ E' hv hn hm hk
    obtain ⟨a, us, xs, rfl, h2, h3, h4⟩ := lots_mem F N NS X hv
    rw [← es, pz_val h2 h3]
    exact ifs1 (htest C a us xs s₂ m₂ E' h2 h3 h4 hn hm hk)
  · intro C v s₂ m₂ E' hv hp hn hm hk
    obtain ⟨a, us, xs, rfl, h2, h3, h4⟩ := lots_mem F N NS X hv
    exact wpAny_Name (wpAny_loadName_local (env := compEnvC scope cl C env) (by simp [compEnvC, relabel, hkind]) (lookup_relabel_local hx) hn hm ⟨rfl, _, _, rfl, fun _ _ e => e⟩) hd
  · intro D ys n h' tk F' N' hne hk hp
    have e := pairedEq hp
    subst e
    exact hQ D _ n h' tk F' N' hne (by rw [← es]; exact lots_filter F N NS X)
structure DullOk (rows : List (List Str)) (base keys : List Str) (new : Bool) (dull : List Int) (f : Nat) : Prop where
  c : (halves rows dull 1000 f base keys new ⟨0, true, []⟩).2.sure = decide ((halves rows dull 1000 f base keys new ⟨0, true, []⟩).2.heard.filter (told dull) = [])
  e : (halves rows dull 1000 f base keys new ⟨0, true, []⟩).1 = keys.filter (fun y => (halves rows dull 1000 f base keys new ⟨0, true, []⟩).1.any (· == y))
  g : enough rows (base ++ (halves rows dull 1000 f base keys new ⟨0, true, []⟩).1) = true
  l : (halves rows dull 1000 f base keys new ⟨0, true, []⟩).2.heard.length ≤ 1000
  z : ∀ xs ∈ (halves rows dull 1000 f base keys new ⟨0, true, []⟩).2.heard, xs.length ≤ 10000

theorem nameGB {M : Model} {A : Around} {E : Value → Shared → Prop} {s : Shared} {K : Frag} {h₀ : Heap} {L : Addr} {m mg mb : Str → Option Value} {env : Env} {p : Program} {loose : List Str} {mean : ExcName → Option Value} {x : Str} {pos : Pos} {v : Value} {Q : Value → Shared → Prop} (F : Fr h₀ L s.heap m) (X : K.In h₀) (T : Top p loose mean mg mb h₀)
    (e : nsIn K mainGlobals x = some none) (hv : bootBuiltins x = some v) (hn : x ≠ "__name__") (h : Q v s) (hg : env.globals = mainGlobals) (hb : env.builtins = builtinsNs) (hk : env.scope.kind = .function) (hx : env.kindOf x = some .globalImplicit) (hd : (x == ("__debug__" : Str)) = false) :
    wpAny M A (eval (.Name x pos) env) Q E s :=
  Name_function_global hk hx (loadGlobal_builtin (env := env) (by rw [hg]; exact T.g.keeps F.keep) (mg_none_of X T.g e) (by rw [hb]; exact T.b.keeps F.keep) ((T.builtins x hn).trans hv) h) hd
theorem testDull {prog : Program} {w : World} {mg mb : Str → Option Value} {pr : Program} {loose : List Str} {mean : ExcName → Option Value} {A : Around} {E : Value → Shared → Prop} {s : Shared} {g : Heap} {L : Addr} {m : Str → Option Value} {x y : Str} {p0 p1 p2 p3 p4 : Pos} {cenv : Env} {c la a : Addr} {m₂ : Str → Option Value} {us vs : List Value} {xs : List Str} {dull : List Int} {whole : Sem Value} {Q : Bool → Shared → Prop}
    (F : Fr g L s.heap m) (G : Gd w mg mb pr loose mean g) (hg : cenv.globals = mainGlobals) (hb : cenv.builtins = builtinsNs) (hkl : cenv.kindOf (Str.ofString "len") = some .globalImplicit)
    (hn : s.heap.Ns cenv.locals m₂) (hm : m₂ x = some (.ref a)) (ha : s.heap.IsList a us.toArray) (hs : StrsAre us xs) (hz : xs.length ≤ 10000) (hc : s.heap.IsCell c (some (.ref la))) (hl : s.heap.IsList la vs.toArray) (hi : IntsAre vs dull) (hQ : ∀ tk, Q (told dull xs) { s with toks := tk })
    (hk : cenv.scope.kind = .function := by rfl) (hx : cenv.kindOf x = some .local := by rfl) (hy : cenv.kindOf y = some .cell := by rfl) (hcl : cenv.cells.lookup y = some c := by rfl) (h1 : (x == ("__debug__" : Str)) = false := by decide) (h2 : (y == ("__debug__" : Str)) = false := by decide)
    (hmk : behindInMarks .In (.Name y p2) = false := by with_unfolding_all rfl) (hse : starEach [.Name x p1] cenv = [(false, eval (.Name x p1) cenv)] := by rfl) :
    wpAny (model prog w) A (isTrue (.Compare (.Call (.Name (Str.ofString "len") p0) [.Name x p1] [] p4) [.In] [.Name y p2] p3) cenv whole) Q E s := by
  refine wpAny_isTrue_Compare1 ?_ hmk
  walk1
  refine nameGB F G.X G.T (v := .builtin "len") (by k_is) (by rfl) (by decide) ?_ hg hb hk hkl (by decide)
  walk1
  walk1
  refine wpAny_Name (wpAny_loadName_local hk hx hn hm ?_) h1
  walk1
  have e : us.toArray.size = xs.length := by simp [strs_len hs]
  refine len_list ha (by rw [e]; omega) ?_
  rw [e]
  refine wpAny_Name (wpAny_loadName_cell hk hy hcl hc ?_) h2
  exact in_list_ints hl hi (wpAny_truthy_bool (hQ _))
end
section
set_option maxHeartbeats 1000000
structure Halt (P : Prop) : Prop where
  it : P
local macro_rules | `(tactic| walk_at "eval ListComp") => `(tactic| (k_here; (refine Halt.it ?_)))
local macro_rules | `(tactic| walk_at "compareOp Eq ref ref") => `(tactic| (k_here; (with_reducible show wpAny _ _ (compareOp .Eq (.ref _) (.ref _)) _ _ _); k_dflt (refine' eqNil (vs := ?vs) ?a ?b ?c ?_; (case a => kmk_list); (case b => with_unfolding_all kmk_list); (case c => units_room))))
theorem spec_dull {prog : Program} {w : World} {mg mb : Str → Option Value} {p : Program} {loose : List Str} {mean : ExcName → Option Value} {A : Around} {s : Shared} {h₀ : Heap} {R : Result → Shared → Prop}
   {fd lc ra ba ka : Addr} {o : Obj} {vs rvs bvs kvs : List Value} {ns : List Int} {spot : Int} {t1 : Tok} {ps : Array Value} {rows : List (List Str)} {base keys : List Str} {new : Bool}
   (G : Gd w mg mb p loose mean h₀) (st : h₀.StaysIn s.heap) (hr : A.depth + 120 < recursionLimit) (hu : A.units + 1000 < cLine) (hh : A.handled = none)
   (hfd : s.heap.get? fd = some o) (hf0 : h₀.get? fd = none) (hd : o.IsDictOf (strKind prog w) (feedKvs lc spot t1)) (hT : AskTab s.heap ps) (hT0 : h₀.get? 221 = none)
   (hl : s.heap.IsList lc vs.toArray) (hi : IntsAre vs ns) (h1 : 0 ≤ spot) (h2 : spot < 900) (hlen : ns.length < 100)
   (hra : h₀.IsList ra rvs.toArray) (hrs : TextsAll h₀ rvs rows) (hba : h₀.IsList ba bvs.toArray) (hbs : StrsAre bvs base) (hka : h₀.IsList ka kvs.toArray) (hks : StrsAre kvs keys) (hlc : h₀.IsList lc vs.toArray)
   (hlr : ∀ r ∈ rows, r.length ≤ 1000) (hlb : base.length ≤ 10) (hlk : keys.length ≤ 8)
   (hok : ∀ d1 d2 : Nat, d1 < 6 → d2 < 6 → DullOk rows base keys new [(base.length : Int) + d1, (base.length : Int) + d2] 9)
   (k : ∀ o' h' tk ps' t', Ch [fd, 221] s.heap h' → h'.get? fd = some o' → o'.IsDictOf (strKind prog w) (feedKvs lc (spot + 2) t') → AskTab h' ps' → R (.ok (.ret (.bool true))) { s with heap := h', toks := tk }) :
   codeAny (model prog w) A (.call (.ref 250) ⟨[.ref fd, .ref ra, .ref ba, .ref ka, .bool new], []⟩) R s := by
  obtain ⟨hd9, dp, fr, gd, un⟩ := A
  change hd9 = none at hh
  subst hh
  dsimp only at hr hu
  refine enterC [(fd, o), (221, tabObj ps)] G st (ledCons hfd hf0 (ledCons hT.1 hT0 ledNil)) (by dsimp only; omega) (by k_is) (by k_is) (BindsTo.of_eq rfl) rfl (by decide +kernel) ?_ rfl rfl rfl
  intro g L' h₁ tk cells hg st' G' F N Y C hlt
  obtain ⟨o1, rfl, d1⟩ := CellsAre.one Y
  simp only [List.cons_append, List.nil_append] at N
  have X := G'.X
  have T := G'.T
  k_lt hlt
  have n1 : fd ≠ 221 := dict_221 hfd hd hT.1
  have n2 : lc ≠ fd := list_dict hfd hd hl
  replace n1 := neN n1
  have hrag := hra.at (st' _)
  have hrsg := hrs.keeps st'
  have hbag := hba.at (st' _)
  have hkag := hka.at (st' _)
  have hlcg := hlc.at (st' _)
  repeat' (first | walk1 | (dsimp only; walk1))
  rename ((_ : Int) < 6) => b2
  rename (0 ≤ (_ : Int)) => a2
  obtain ⟨d2, ed2⟩ := Int.eq_ofNat_of_zero_le a2
  subst ed2
  have b2' : d2 < 6 := by omega
  clear a2 b2
  rename ((_ : Int) < 6) => b2
  rename (0 ≤ (_ : Int)) => a2
  obtain ⟨d1', ed2⟩ := Int.eq_ofNat_of_zero_le a2
  subst ed2
  have b1' : d1' < 6 := by omega
  clear a2 b2
  (rename News _ _ _ _ => N1); (rename Fr _ _ _ _ => F1)
  have TU := @tabUnder s.heap g [(fd, o), (221, tabObj ps)] ps hT hg (fun q hq => by rcases List.mem_cons.mp hq with rfl | hq; exact hfd; rw [List.mem_singleton.mp hq]; exact hT.1) (fun q hq => by rcases List.mem_cons.mp hq with rfl | hq; exact .inr (isDict_data hd); rw [List.mem_singleton.mp hq]; exact .inl rfl)
  refine callMkask F1 N1 (by k_updF) (TU F1 (N1.get (by k_mem))) G' (by walk_at "my_depth") (by walk_at "my_units") rfl ?_
  intro h3 tk3 fa ps3 S objs F3 N3 H3 s3 od3 sne3 hf3
  simp only [List.cons_append, List.nil_append] at N3
  clear F1 N1
  dsimp only
  repeat' (first | walk1 | (dsimp only; walk1))
  (rename News _ _ _ _ => N4); (rename Fr _ _ _ _ => F4)
  refine callShrinker F4 N4 G' (by walk_at "my_depth") (by walk_at "my_units") rfl ?_
  intro x dx es nd h5 tk5 F5 N5 HD5 nx ndx nxd
  clear F4 N4
  have sx : ∀ q ∈ S, q.1 ≠ x := fun q hq => nx q (by simp [hq])
  have sdx : ∀ q ∈ S, q.1 ≠ dx := fun q hq => ndx q (by simp [hq])
  replace nx := allNe_of nx; dsimp only [AllNe] at nx
  replace ndx := allNe_of ndx; dsimp only [AllNe] at ndx
  replace nxd := neN nxd
  obtain ⟨e1, e2, e3, e4, k1, k2, k3, k4, t1, t2, rfl⟩ := HD5
  dsimp only
  repeat' (first | walk1 | (dsimp only; walk1))
  (rename News _ _ _ _ => N6); (rename Fr _ _ _ _ => F6)
  (rename StrsAre kvs _ => hks); (rename StrsAre bvs _ => hbs)
  have sha := oddNe hf3 N6 (by k_mem) (S := S) (fun q hq => by simp [hq]) s3 od3
  refine callHalves 9 (most := 1000) (dull := [(base.length : Int) + d1', (base.length : Int) + d2]) (hst := ⟨0, true, []⟩) (S := []) (S' := S) (objs := objs) F6 N6 G' rfl (by k_mem) (by k_updF) (fun o' => by k_updF) (by k_mem) ⟨_, _, _, _, _, _, _, _, _, _, rfl⟩ .nil (fun _ h => nomatch h) (fun _ h => nomatch h) (fun _ h => nomatch h) (fun _ h => nomatch h)
    H3 (fun q hq => by simp [hq]) od3 sx (fun h2 e => (hf3 h2 e).1) (hrag.at (F6.keep _)) ?c1 (textsAll_under F6 ?c2 hrsg) (N6.isList (by k_mem)) ?c3 (IntsAre.cons _ _ (IntsAre.cons _ _ IntsAre.nil)) (N6.isList (by k_mem)) (by k_ne) hbs (N6.isList (by k_mem)) (by k_ne) hks (by walk_at "my_depth") (by walk_at "my_units") rfl (by decide) (by decide) hlr (by omega) (by simp) (by omega) ⟨rfl, Nat.zero_le _⟩ (by omega) (by decide) ?_
  case c1 => exact groundNe hrag N6 (by k_mem)
  case c2 => exact gw3 N6 (by k_mem) (by k_mem) (by k_mem)
  case c3 => k_ne
  intro h7 tk7 d zvs n es7 nd7 hvs7 nh7 lots F7 N7 HD7 HX7 t1 t2 t3 nd7 hzs
  simp only [List.cons_append] at N7
  clear F6 N6
  replace nd7 := allNe_of nd7; dsimp only [AllNe] at nd7
  obtain ⟨e1', e2', e3', e4', k1', k2', k3', k4', t1', t2', rfl⟩ := HD7
  have HL := halves_len (rows := rows) (dull := [(base.length : Int) + d1', (base.length : Int) + d2]) (most := 1000) 9 base keys new ⟨0, true, []⟩
  have P := hok d1' d2 (by omega) (by omega)
  have Pc := P.c
  have Pe := P.e
  have Pg := P.g
  have Pl := P.l
  have Pz := P.z
  generalize halves rows [(base.length : Int) + d1', (base.length : Int) + d2] 1000 9 base keys new ⟨0, true, []⟩ = hz at *
  dsimp only
  repeat' (first | walk1 | (dsimp only; walk1))
  refine Halt.mk ?_
  (rename News _ _ _ _ => N8); (rename Fr _ _ _ _ => F8)
  refine' compLots F8 [(base.length : Int) + d1', (base.length : Int) + d2] rfl ?_
  dsimp only
  walk1
  have hkeep : ∀ b o, g.get? b = some o → _ := F8.keep
  refine Stop.mk ⟨_, hvs7, hz.2.heard, _, lots, rfl, rfl, N8.isList (by k_mem), HX7, fun q hq => by simp [hq], Pl, F8, N8, ?_, ?_⟩
  · intro C a us xs s₂ m₂ E' hl9 hs9 hm9 hn hm hk
    dsimp only at hk
    have hl10 := hl9.at (hk _)
    exact testDull (c := L' + 1) (F8.keeps hk) G' rfl rfl rfl hn hm hl10 hs9 (Pz _ hm9) ⟨_, hk _ _ (N8.get (by k_mem)), by assumption⟩ ((N8.isList (by k_mem)).at (hk _)) (IntsAre.cons _ _ (IntsAre.cons _ _ IntsAre.nil)) (fun tk => ⟨rfl, _, _, rfl, fun _ _ e => e⟩)
  · intro D ys n h' tk' F' N' hne hys
    clear F8 N8
    iterate 4 walk1
    have hsure : decide (ys = []) = hz.2.sure := by
      rw [Pc]
      have : ys = [] ↔ hz.2.heard.filter (told [(base.length : Int) + d1', (base.length : Int) + d2]) = [] := by
        rw [← List.length_eq_zero_iff, hys, List.length_eq_zero_iff]
      by_cases q : ys = []
      · rw [decide_eq_true q, decide_eq_true (this.mp q)]
      · rw [decide_eq_false q, decide_eq_false (fun e => q (this.mpr e))]
    rw [hsure]
    repeat' (first | walk1 | (dsimp only; walk1))
    all_goals first
      | (exfalso; rename ((_ != _) = true) => q; simp at q; done)
      | ((rename News _ _ _ _ => Nz); (rename Fr _ _ _ _ => Fz)
         rw [Pg]
         exact k _ _ _ ps3 _ (left hg Fz) (Nz.get (by k_mem)) (by rw [show spot + 2 = spot + 1 + 1 by omega]; assumption) ((hf3 _ (H3.get Fz Nz (fun q hq => by simp [hq]))).2 (Nz.get (by k_mem))))
end
section
set_option maxHeartbeats 1000000
/-- a Shrinker, without the word on the lots that its ask has heard -/
structure HalverW (h : Heap) (x dx ha fa : Addr) (most : Nat) (st : HSt) : Prop where
  hx : h.get? x = some (instObj 176 dx)
  hd : ∃ es n, h.get? dx = some (dictOf es n) ∧ HalverD fa most st.asked st.sure es
  hh : ∃ hvs n, h.get? ha = some (listOf (List.toArray hvs) n) ∧ hvs.length = st.heard.length
theorem Halver.weak {h : Heap} {x dx ha fa : Addr} {most : Nat} {st : HSt} (H : Halver h x dx ha fa most st) : HalverW h x dx ha fa most st :=
  let ⟨a, b, hvs, n, c, d⟩ := H
  ⟨a, b, hvs, n, c, textsAll_len d⟩
inductive AfterW (g h' : Heap) (L x dx ha fa : Addr) (m : Str → Option Value) (v : Obj → Obj → List (Addr × Obj)) (most : Nat) (st' : HSt) : Prop
  | mk (es' : List DictEntry) (nd' : Nat) (hvs' : List Value) (nh' : Nat) (_ : Fr g L h' m) (_ : News g L h' (v (dictOf es' nd') (listOf (List.toArray hvs') nh'))) (_ : HalverD fa most st'.asked st'.sure es') (_ : hvs'.length = st'.heard.length) : AfterW g h' L x dx ha fa m v most st'
theorem halverWOf {h g : Heap} {L x dx ha fa : Addr} {news : List (Addr × Obj)} {most : Nat} {st : HSt} {es : List DictEntry} {nd nh : Nat} {hvs : List Value} (N : News g L h news) (hx : (x, instObj 176 dx) ∈ news) (hd : (dx, dictOf es nd) ∈ news) (hh : (ha, listOf hvs.toArray nh) ∈ news)
    (D : HalverD fa most st.asked st.sure es) (X : hvs.length = st.heard.length) : HalverW h x dx ha fa most st :=
  ⟨N.get hx, ⟨es, nd, N.get hd, D⟩, ⟨hvs, nh, N.get hh, X⟩⟩
theorem afterW {s : Shared} {g h' : Heap} {L x dx ha fa : Addr} {m : Str → Option Value} {news : List (Addr × Obj)} {u : Obj → List (Addr × Obj)} {v : Obj → Obj → List (Addr × Obj)} {most : Nat} {st' : HSt} {od oh : Obj}
    (F : Fr g L s.heap m) (N : News g L s.heap news) (hx : (x, instObj 176 dx) ∈ news) (U : UpdF dx od news u) (U' : ∀ o', UpdF ha oh (u o') (v o')) (hm : (ha, oh) ∈ news) (c : Ch [x, dx, ha] s.heap h') (H : HalverW h' x dx ha fa most st') :
    AfterW g h' L x dx ha fa m v most st' := by
  obtain ⟨h1, ⟨es', nd', h2, h3⟩, ⟨hvs', nh', h4, h5⟩⟩ := H
  have hd := UpdF.mem' U
  have Nx := N _ hx
  have Nd := N _ hd
  have Nh := N _ hm
  have F' : Fr g L h' m := c.fr F (by
    intro a ha'
    simp only [List.mem_cons, List.not_mem_nil, or_false] at ha'
    rcases ha' with rfl | rfl | rfl
    · exact Nx.2
    · exact Nd.2
    · exact Nh.2)
  have c' : Ch [dx, ha] s.heap h' := fun b o e n => by
    by_cases hb : b = x
    · subst hb
      rw [Nx.1] at e
      rw [h1]; exact e
    · exact c b o e (by simp only [List.mem_cons, List.not_mem_nil, or_false, not_or] at n ⊢; exact ⟨hb, n⟩)
  have hne : dx ≠ ha := cls_ne h2 h4 (by simp)
  exact ⟨es', nd', hvs', nh', F', Ch.news2 c' N U (U' _) hne hm h2 h4, h3, h5⟩
theorem spec_enoughW {prog : Program} {w : World} {mg mb : Str → Option Value} {p : Program} {loose : List Str} {mean : ExcName → Option Value} {A : Around} {s : Shared} {h₀ : Heap} {R : Result → Shared → Prop}
   {x dx fa ra ha da ka : Addr} {part : Int} {kvs rvs dvs : List Value} {keys : List Str} {rows : List (List Str)} {dull : List Int} {most : Nat} {hst : HSt}
   (G : Gd w mg mb p loose mean h₀) (st : h₀.StaysIn s.heap) (hr : A.depth + 40 < recursionLimit) (hu : A.units + 400 < cLine) (hh : A.handled = none)
   (hf : AskFn h₀ fa ra ha da part) (hra : h₀.IsList ra rvs.toArray) (hrs : TextsAll h₀ rvs rows) (hda : h₀.IsList da dvs.toArray) (hds : IntsAre dvs dull)
   (hx0 : h₀.get? x = none) (hdx0 : h₀.get? dx = none) (hha0 : h₀.get? ha = none)
   (H : HalverW s.heap x dx ha fa most hst) (hka : s.heap.IsList ka kvs.toArray) (hne : ka ≠ ha) (hkeys : StrsAre kvs keys)
   (hp : 1 ≤ part) (hp2 : part ≤ 2) (hlr : ∀ r ∈ rows, r.length ≤ 1000) (hll : keys.length ≤ 100) (hhl : hst.heard.length ≤ 5000) (hdl : dull.length ≤ 10) (hm : most ≤ 5000) (hasked : hst.asked ≤ 5000)
   (k : ∀ (h' : Heap) (tk : Nat) (v : Value), Ch [x, dx, ha] s.heap h' → HalverW h' x dx ha fa most (askOnce rows dull most hst keys).2 →
      (match (askOnce rows dull most hst keys).1 with
        | false => v = .none
        | true => ∃ d zs zvs n, v = .ref d ∧ s.heap.get? d = none ∧ h'.get? d = some (listOf (List.toArray zvs) n) ∧ StrsAre zvs zs ∧ (part = 1 → zs = keys)) →
      R (.ok (.ret v)) { s with heap := h', toks := tk }) :
   codeAny (model prog w) A (.call (.ref 161) ⟨[.ref x, .ref ka], []⟩) R s := by
  obtain ⟨Hx, Hd, ⟨hvs, nh, Hh, Hhs⟩⟩ := H
  refine spec_enoughX G st hr hu hh hf hra hrs hda hds hx0 hdx0 hha0 ⟨Hx, Hd, nh, Hh⟩ hka hne hkeys hp hp2 hlr hll (by rw [Hhs]; exact hhl) hdl hm hasked ?_
  intro h' tk v hvs' c H' ht hv
  obtain ⟨Hx', Hd', ⟨nh', Hh'⟩⟩ := H'
  obtain ⟨_, e | ⟨D, e1, e2, _⟩⟩ := ht
  · exact k h' tk v c ⟨Hx', Hd', ⟨hvs', nh', Hh', by rw [e.1, e.2]; exact Hhs⟩⟩ hv
  · exact k h' tk v c ⟨Hx', Hd', ⟨hvs', nh', Hh', by rw [e1, e2, List.length_append, List.length_append, Hhs]; rfl⟩⟩ hv
end
section
local macro_rules | `(tactic| walk_at "my_p") => `(tactic| skip)
inductive AsgP (prog : Program) (w : World) (A : Around) (env : Env) (g : Heap) (L : Addr) (m : Str → Option Value) (elt : Expr) (x y : Str) (ifs : List Expr) (scope : Scope) (cl : List (Str × Addr)) (Q : Flow → Shared → Prop) (pz : Value → Bool) (Rl : Value → Value → Prop) (xv : Value) (s₁ : Shared) : Prop
  | mk (ax : Addr) (vs : List Value) (news : List (Addr × Obj)) (_ : xv = .ref ax) (_ : s₁.heap.IsList ax vs.toArray) (_ : vs.length ≤ sizeLine) (_ : Fr g L s₁.heap m) (_ : News g L s₁.heap news) (_ : ∀ C v s₂ m₂ E', v ∈ vs → s₂.heap.Ns (compEnvC scope cl C env).locals m₂ → m₂ x = some v → (∀ b o, s₁.heap.get? b = some o → s₂.heap.get? b = some o) →
        wpAny (model prog w) A (forIn ifs true fun c r => if r = true then do let ok ← isTrue c (compEnvC scope cl C env) (eval c (compEnvC scope cl C env)); pure (ForInStep.yield ok) else pure (ForInStep.yield r))
          (fun ok s₃ => ok = pz v ∧ Keeps s₂ s₃) E' s₂) (_ : ∀ C v s₂ m₂ E', v ∈ vs → pz v = true → s₂.heap.Ns (compEnvC scope cl C env).locals m₂ → m₂ x = some v → (∀ b o, s₁.heap.get? b = some o → s₂.heap.get? b = some o) →
        wpAny (model prog w) A (eval elt (compEnvC scope cl C env)) (fun y s₃ => Rl v y ∧ Keeps s₂ s₃) E' s₂) (_ : ∀ D (ys : List Value) n h' tk, Fr g L h' (fun z => if z = y then some (.ref D) else m z) → News g L h' ((D, listOf ys.toArray n) :: news) → (∀ q ∈ news, q.1 ≠ D) → Paired Rl (vs.filter pz) ys → Q .next { s₁ with heap := h', toks := tk }) : AsgP prog w A env g L m elt x y ifs scope cl Q pz Rl xv s₁
set_option maxHeartbeats 1000000
section
variable {prog : Program} {w : World} {A : Around} {E : Value → Shared → Prop} {s : Shared} {g : Heap} {L : Addr} {m : Str → Option Value} {env : Env} {M : Model}
inductive AsgT (prog : Program) (w : World) (A : Around) (env : Env) (g : Heap) (L : Addr) (m : Str → Option Value) (c : Expr) (x y : Str) (scope : Scope) (cl : List (Str × Addr)) (Q : Flow → Shared → Prop) (pz : Str → Bool) (xv : Value) (s₁ : Shared) : Prop
  | mk (ax : Addr) (vs : List Value) (xs : List Str) (news : List (Addr × Obj)) (_ : xv = .ref ax) (_ : s₁.heap.IsList ax vs.toArray) (_ : StrsAre vs xs) (_ : xs.length ≤ 1000) (_ : Fr g L s₁.heap m) (_ : News g L s₁.heap news) (_ : ∀ C y t s₂ m₂ E', y ∈ xs → s₂.heap.Ns (compEnvC scope cl C env).locals m₂ → m₂ x = some (.str y t) → (∀ b o, s₁.heap.get? b = some o → s₂.heap.get? b = some o) →
        wpAny (model prog w) A (isTrue c (compEnvC scope cl C env) (eval c (compEnvC scope cl C env))) (fun ok s₃ => ok = pz y ∧ Keeps s₂ s₃) E' s₂) (_ : ∀ D (ys : List Value) n h' tk, Fr g L h' (fun z => if z = y then some (.ref D) else m z) → News g L h' ((D, listOf ys.toArray n) :: news) → (∀ q ∈ news, q.1 ≠ D) → StrsAre ys (xs.filter pz) → Q .next { s₁ with heap := h', toks := tk }) : AsgT prog w A env g L m c x y scope cl Q pz xv s₁
/-- y = a comprehension whose tests and elements change nothing -/
theorem assignPure {elt iter : Expr} {x y : Str} {px py : Pos} {ifs : List Expr} {scope : Scope} {cl : List (Str × Addr)} {pos spos : Pos} {Q : Flow → Shared → Prop} (F₀ : Fr g L s.heap m) (pz : Value → Bool) (Rl : Value → Value → Prop)
    (hh : A.handled = none)
    (h : wpAny (model prog w) A (eval iter env) (fun xv s₁ => Stop (AsgP prog w A env g L m elt x y ifs scope cl Q pz Rl xv s₁)) E s)
    (hL : env.locals = L)
    (hsw : swapsWith (.ListComp elt [⟨.Name x px, iter, ifs, 0⟩] scope pos) (some (.Name y py)) spos.line env = pure true := by with_unfolding_all rfl)
    (hs : ∀ x, foldedSetIterable iter env x = pure x := by intro _; rfl) (hclos : closureFor scope env = pure cl := by with_unfolding_all rfl) (hcell : ∀ y ∈ scope.names, y.2 ≠ .cell := by decide) (hkind : scope.kind = .function := by rfl)
    (hnames : ∀ y ∈ scope.names, y.2 = .local → scope.names.lookup y.1 = some .local := by decide) (hx : scope.names.lookup x = some .local := by rfl)
    (hy : env.kindOf y = some .local := by rfl) (hp : (env.scope.kind == .class || (env.scope.kind == .module && env.locals != env.globals)) = false := by rfl) :
    wpAny (model prog w) A (exec (.Assign [.Name y py] (.ListComp elt [⟨.Name x px, iter, ifs, 0⟩] scope pos) spos) env) Q E s := by
  refine wpAny_Assign_ListComp_free pz Rl hsw hclos hcell hkind hnames hx hy hp (wpAny_mono h (fun xv s₁ h₁ => ?_) fun _ _ e => e) hs
  obtain ⟨ax, vs, news, rfl, hl, hsz, F, N, htests, helt, hQ⟩ := h₁.it
  have hlt : ax < s₁.heap.objs.size := by obtain ⟨_, e, _⟩ := hl; exact Heap.lt_size e
  have hLt : L < s₁.heap.objs.size := by obtain ⟨oL, es, ep, h1, _⟩ := F.ns; exact Heap.lt_size h1
  have up : ∀ (s₃ : Shared), (∀ b o, b ∉ [s₁.heap.objs.size] → (s₁.heap.push { cls := .type "list_iterator", data := .fields #[.ref ax, .int 0 0] }).get? b = some o → s₃.heap.get? b = some o) → ∀ b o, s₁.heap.get? b = some o → s₃.heap.get? b = some o :=
    fun s₃ hk b o e => hk b o (fun hm => by rw [List.mem_singleton.mp hm] at e; exact Nat.lt_irrefl _ (Heap.lt_size e)) (Heap.get?_push_of_some _ e)
  refine wpAny_pyIter_list hl ⟨s₁.heap.objs.size, [s₁.heap.objs.size, ax], [s₁.heap.objs.size], vs.toArray.size, _, _, m, rfl, Walks.list hh _ _ (Nat.ne_of_lt hlt) vs.toArray, (by rw [List.size_toArray]; exact hsz), ⟨⟨_, Heap.get?_push_size _ rfl, rfl, rfl⟩, hl.push _⟩, ?_, ?_, ?_, ⟨?_, ?_⟩, ?_⟩
  · intro b hb
    show b < (s₁.heap.push _).objs.size
    rw [Heap.size_push]
    rcases List.mem_cons.mp hb with rfl | hb
    · exact Nat.lt_succ_self _
    · rw [List.mem_singleton.mp hb]; exact Nat.lt_succ_of_lt hlt
  · rw [hL]
    intro hm
    rw [List.mem_singleton.mp hm] at hLt
    exact Nat.lt_irrefl _ hLt
  · rw [hL]
    exact F.ns.keeps fun b o e => Heap.get?_push_of_some _ e
  · intro C i v s₃ m₃ E' hC hP hn hm hk _
    exact htests C v s₃ m₃ E' (by simpa using Array.mem_of_getElem? hP) hn hm (up s₃ hk)
  · intro C i v s₃ m₃ E' hC hP hp hn hm hk _
    exact helt C v s₃ m₃ E' (by simpa using Array.mem_of_getElem? hP) hp hn hm (up s₃ hk)
  · intro D h' tk ys vs' hnew hlD hplD hlen hP hF hns hk
    have e : vs' = vs := by simpa using list_of_places hlen hP
    subst e
    rw [hL] at hns hk
    have keep : ∀ b o, b ≠ L → s₁.heap.get? b = some o → h'.get? b = some o := fun b o hb e => hk b o hb (fun hm => by rw [List.mem_singleton.mp hm] at e; exact Nat.lt_irrefl _ (Heap.lt_size e)) (Heap.get?_push_of_some _ e)
    have hD : s₁.heap.get? D = none := by
      cases e : s₁.heap.get? D with
      | none => rfl
      | some o' => rw [Heap.get?_push_of_some _ e] at hnew; cases hnew
    obtain ⟨n, hn⟩ := hplD
    have F' : Fr g L h' (fun z => if z = y then some (.ref D) else m z) := ⟨hns, fun b o e => keep b o (Nat.ne_of_lt (Nat.lt_of_lt_of_le (Heap.lt_size e) F.above)) (F.keep b o e), F.above⟩
    refine hQ D ys.toList n h' tk F' (fun q hq => ?_) (fun q hq e => ?_) hF
    · rcases List.mem_cons.mp hq with rfl | hq
      · refine ⟨by rw [Array.toArray_toList]; exact hn, ?_, ?_⟩
        · rintro rfl
          obtain ⟨oL, es, ep, h1, _⟩ := F.ns
          rw [hD] at h1; cases h1
        · cases e : g.get? D with
          | none => rfl
          | some o' => rw [F.keep _ _ e] at hD; cases hD
      · have z := N q hq
        exact ⟨keep _ _ z.2.1 z.1, z.2⟩
    · have := (N q hq).1
      rw [e, hD] at this; cases this
/-- y = [x for x in iter if c] over a list of texts -/
theorem assignTexts {iter c : Expr} {x y : Str} {px px' py : Pos} {scope : Scope} {cl : List (Str × Addr)} {pos spos : Pos} {Q : Flow → Shared → Prop} (F₀ : Fr g L s.heap m) (pz : Str → Bool)
    (hh : A.handled = none)
    (h : wpAny (model prog w) A (eval iter env) (fun xv s₁ => Stop (AsgT prog w A env g L m c x y scope cl Q pz xv s₁)) E s)
    (hL : env.locals = L)
    (hsw : swapsWith (.ListComp (.Name x px') [⟨.Name x px, iter, [c], 0⟩] scope pos) (some (.Name y py)) spos.line env = pure true := by with_unfolding_all rfl)
    (hs : ∀ x, foldedSetIterable iter env x = pure x := by intro _; rfl) (hclos : closureFor scope env = pure cl := by with_unfolding_all rfl) (hcell : ∀ y ∈ scope.names, y.2 ≠ .cell := by decide) (hkind : scope.kind = .function := by rfl)
    (hnames : ∀ y ∈ scope.names, y.2 = .local → scope.names.lookup y.1 = some .local := by decide) (hx : scope.names.lookup x = some .local := by rfl) (hd : (x == ("__debug__" : Str)) = false := by decide)
    (hy : env.kindOf y = some .local := by rfl) (hp : (env.scope.kind == .class || (env.scope.kind == .module && env.locals != env.globals)) = false := by rfl) :
    wpAny (model prog w) A (exec (.Assign [.Name y py] (.ListComp (.Name x px') [⟨.Name x px, iter, [c], 0⟩] scope pos) spos) env) Q E s := by
  refine assignPure F₀ (onStr pz) (fun v y => v = y) hh (wpAny_mono h (fun xv s₁ h₁ => ?_) fun _ _ e => e) hL hsw hs hclos hcell hkind hnames hx hy hp
  obtain ⟨ax, vs, xs, news, rfl, hl, hi, hsz, F, N, htest, hQ⟩ := h₁.it
  refine Stop.mk ⟨ax, vs, news, rfl, hl, by rw [strs_len hi, sizeLine_eq]; omega, F, N, ?_, ?_, ?_⟩
  · intro C v s₂ m₂ E' hv hn hm hk
    obtain ⟨y, t, rfl, hy⟩ := strs_mem hi hv
    exact ifs1 (htest C y t s₂ m₂ E' hy hn hm hk)
  · intro C v s₂ m₂ E' hv hp hn hm hk
    exact wpAny_Name (wpAny_loadName_local (env := compEnvC scope cl C env) (by simp [compEnvC, relabel, hkind]) (lookup_relabel_local hx) hn hm ⟨rfl, _, _, rfl, fun _ _ e => e⟩) hd
  · intro D ys n h' tk F' N' hne hp
    have e := pairedEq hp
    subst e
    exact hQ D _ n h' tk F' N' hne (strs_filter pz hi)
end
end
section
set_option maxHeartbeats 1000000
theorem newsNil {g h : Heap} {L : Addr} : News g L h [] := fun _ h => nomatch h
theorem newsCons {g h : Heap} {L a : Addr} {o : Obj} {l : List (Addr × Obj)} (x : h.get? a = some o ∧ a ≠ L ∧ g.get? a = none) (N : News g L h l) : News g L h ((a, o) :: l) := fun q hq => by
  rcases List.mem_cons.mp hq with rfl | hq
  · exact x
  · exact N q hq
theorem filter_all {zs l : List Str} (h : ∀ y ∈ l, y ∈ zs) : l.filter (fun y => zs.any (· == y)) = l :=
  List.filter_eq_self.mpr fun a ha => List.any_eq_true.mpr ⟨a, h a ha, by simp⟩
structure Halt2 (P : Prop) : Prop where
  it : P
noncomputable def obo (rows : List (List Str)) (most : Nat) : List Str → List Str → HSt → List Str × HSt
  | kept, [], st => (kept, st)
  | kept, k :: r, st => if (askOnce rows [] most st (kept ++ r)).1 then obo rows most kept r (askOnce rows [] most st (kept ++ r)).2 else obo rows most (kept ++ [k]) r (askOnce rows [] most st (kept ++ r)).2
inductive OboI (rows : List (List Str)) (most : Nat) (keys : List Str) (hst : HSt) (L' x dx ha fa ka : Addr) (n : Nat) (m : Str → Option Value) (nx : List (Addr × Obj)) : Prop
  | mk (kl rl : Addr) (kws rws : List Value) (nk nr : Nat) (kept rest : List Str) (oc : Obj) (v0 : Option Value) (es : List DictEntry) (nd : Nat) (hvs : List Value) (nh : Nat) (hs : HSt)
    (_ : nx = (kl, listOf kws.toArray nk) :: (rl, listOf rws.toArray nr) :: (L' + 1, oc) :: (x, instObj 176 dx) :: (dx, dictOf es nd) :: (ha, listOf hvs.toArray nh) :: []) (_ : oc.data = .cell v0) (_ : StrsAre kws kept) (_ : StrsAre rws rest)
    (_ : HalverD fa most hs.asked hs.sure es) (_ : hvs.length = hs.heard.length) (_ : HOk most hs)
    (_ : kl ≠ rl) (_ : kl ≠ L' + 1) (_ : rl ≠ L' + 1) (_ : kl ≠ x) (_ : kl ≠ dx) (_ : kl ≠ ha) (_ : rl ≠ x) (_ : rl ≠ dx) (_ : rl ≠ ha) (_ : n = rest.length) (_ : kept.length + rest.length ≤ keys.length)
    (_ : obo rows most kept rest hs = obo rows most [] keys hst)
    (_ : ∀ y, y ≠ Str.ofString "key" → m y = if y = Str.ofString "kept" then some (.ref kl) else if y = Str.ofString "rest" then some (.ref rl) else if y = Str.ofString "core" then some (.ref ka) else if y = Str.ofString "self" then some (.ref x) else none) : OboI rows most keys hst L' x dx ha fa ka n m nx
local macro_rules | `(tactic| walk_at "exec While") => `(tactic| (k_here; (refine Halt2.it ?_)))
local macro_rules | `(tactic| walk_at "exec While Compare") => `(tactic| (k_here; (refine Halt2.it ?_)))
local macro_rules | `(tactic| walk_at "exec Assign cons ListComp") => `(tactic| (k_here; (refine Halt2.it ?_)))
local macro_rules | `(tactic| walk_at "eval ListComp") => `(tactic| (k_here; (refine Halt2.it ?_)))
theorem spec_obo {prog : Program} {w : World} {mg mb : Str → Option Value} {p : Program} {loose : List Str} {mean : ExcName → Option Value} {A : Around} {s : Shared} {h₀ : Heap} {R : Result → Shared → Prop}
   {x dx fa ra ha da ka : Addr} {kvs rvs dvs : List Value} {keys : List Str} {rows : List (List Str)} {most : Nat} {hst : HSt}
   (G : Gd w mg mb p loose mean h₀) (st : h₀.StaysIn s.heap) (hr : A.depth + 60 < recursionLimit) (hu : A.units + 600 < cLine) (hh : A.handled = none)
   (hf : AskFn h₀ fa ra ha da 1) (hra : h₀.IsList ra rvs.toArray) (hrs : TextsAll h₀ rvs rows) (hda : h₀.IsList da dvs.toArray) (hds : IntsAre dvs [])
   (hx0 : h₀.get? x = none) (hdx0 : h₀.get? dx = none) (hha0 : h₀.get? ha = none)
   (H : HalverW s.heap x dx ha fa most hst) (hka : s.heap.IsList ka kvs.toArray) (hne : ka ≠ ha) (hkeys : StrsAre kvs keys)
   (hlr : ∀ r ∈ rows, r.length ≤ 1000) (hll : keys.length ≤ 100) (hm : most ≤ 5000) (hok : HOk most hst)
   (k : ∀ (h' : Heap) (tk : Nat) (d : Addr) (zvs : List Value) (n : Nat), Ch [x, dx, ha] s.heap h' → HalverW h' x dx ha fa most (obo rows most [] keys hst).2 → s.heap.get? d = none → h'.get? d = some (listOf (List.toArray zvs) n) →
      StrsAre zvs (obo rows most [] keys hst).1 → R (.ok (.ret (.ref d))) { s with heap := h', toks := tk }) :
   codeAny (model prog w) A (.call (.ref 166) ⟨[.ref x, .ref ka], []⟩) R s := by
  obtain ⟨hd9, dp, fr, gd, un⟩ := A
  change hd9 = none at hh
  subst hh
  dsimp only at hr hu
  obtain ⟨Hx, ⟨es, nd, Hd, Hes⟩, ⟨hvs, nh, Hh, Hhs⟩⟩ := H
  refine enterC _ G st (ledCons Hx hx0 (ledCons Hd hdx0 (ledCons Hh hha0 ledNil))) (by dsimp only; omega) (by k_is) (by k_is) (BindsTo.of_eq rfl) rfl (by decide +kernel) ?_ rfl rfl rfl
  intro g L' h₁ tk cells hg st' G' F N Y C hlt
  obtain ⟨o1, rfl, d1⟩ := CellsAre.one Y
  simp only [List.cons_append, List.nil_append] at N
  have X := G'.X
  have T := G'.T
  k_lt hlt
  have n1 : x ≠ dx := cls_ne Hx Hd (by simp)
  have n2 : x ≠ ha := cls_ne Hx Hh (by simp)
  have n3 : dx ≠ ha := cls_ne Hd Hh (by simp)
  have n4 : ka ≠ x := list_ne hka Hx (by simp)
  have n5 : ka ≠ dx := list_ne hka Hd (by simp)
  replace n1 := neN n1; replace n2 := neN n2; replace n3 := neN n3
  have hkg : g.IsList ka kvs.toArray := isList_under hg hka (by simp [n4.symm, n5.symm, hne.symm])
  have gx : g.get? x = none := by rw [hg]; exact hideAll_none _ (by simp)
  have gdx : g.get? dx = none := by rw [hg]; exact hideAll_none _ (by simp)
  have gha : g.get? ha = none := by rw [hg]; exact hideAll_none _ (by simp)
  have hfg := hf.keeps st'
  have hrag := hra.at (st' _)
  have hrsg := hrs.keeps st'
  have hdag := hda.at (st' _)
  repeat' (first | walk1 | (dsimp only; walk1))
  refine Halt2.mk ?_
  (rename News _ _ _ _ => N1); (rename Fr _ _ _ _ => F1); (rename StrsAre kvs _ => hkeys)
  rename_i kl0 _ _ rl0 c0 _ _ _ _ _ _ _ _
  obtain ⟨e1, e2, e3, e4, k1, k2, k3, k4, t1, t2, rfl⟩ := Hes
  refine While_inv (OboI rows most keys hst L' x dx ha fa ka)
    (n₀ := keys.length) F1 (newsSub N1 (l := _) ?sub) ⟨kl0, rl0, _, _, 0, c0, [], keys, o1, _, _, nd, hvs, nh, hst, rfl, d1, .nil, hkeys, ⟨e1, e2, e3, e4, k1, k2, k3, k4, t1, t2, rfl⟩, Hhs, hok, by k_ne, by k_ne, by k_ne, by k_ne, by k_ne, by k_ne, by k_ne, by k_ne, by k_ne, rfl, by simp, rfl, fun y hy => by with_unfolding_all rfl⟩ ?turn
  case sub =>
    intro q hq
    repeat (rcases List.mem_cons.mp hq with rfl | hq; · k_mem)
    cases hq
  case turn =>
    rintro n m₁ nx h tk F₁ N₁ ⟨kl, rl, kws, rws, nk, nr, kept, rest, oc, v0, es, nd', hvs', nh', hs, rfl, hoc, hkw, hrw, HD, HX, hok1, p1, p2, p3, p4, p5, p6, p7, p8, p9, rfl, hlen, hobo, hmm⟩
    replace p1 := neN p1; replace p2 := neN p2; replace p3 := neN p3; replace p4 := neN p4; replace p5 := neN p5; replace p6 := neN p6; replace p7 := neN p7; replace p8 := neN p8; replace p9 := neN p9
    replace F₁ := frCongr F₁ (m' := fun y => if y = Str.ofString "key" then m₁ (Str.ofString "key") else if y = Str.ofString "kept" then some (.ref kl) else if y = Str.ofString "rest" then some (.ref rl) else if y = Str.ofString "core" then some (.ref ka) else if y = Str.ofString "self" then some (.ref x) else none) (fun y => by
      by_cases hy : y = Str.ofString "key"
      · simp [hy]
      · simp only [if_neg hy]; exact hmm y hy)
    clear F1 N1 hkeys
    obtain ⟨e1', e2', e3', e4', k1', k2', k3', k4', t1', t2', rfl⟩ := HD
    cases rest with
    | nil =>
      repeat' (first | walk1 | (dsimp only; walk1))
      (rename News _ _ _ _ => Nz); (rename Fr _ _ _ _ => Fz)
      have hob : obo rows most [] keys hst = (kept, hs) := by rw [← hobo]; rfl
      rw [hob] at k
      show R (.ok (.ret (.ref kl))) _
      (rename StrsAre kws _ => hkw)
      exact k _ _ kl kws nk (left hg Fz) (halverWOf Nz (by k_mem) (by k_mem) (by k_mem) ⟨_, _, _, _, _, _, _, _, _, _, rfl⟩ HX) (left_new hg Nz (by k_mem) (ne3 (by k_ne) (by k_ne) (by k_ne))) (Nz.get (by k_mem)) hkw
    | cons key rest =>
      simp only [List.length_cons] at hlen
      repeat' (first | walk1 | (dsimp only; walk1))
      · exfalso
        rename (decide (_ :: _ = []) = true) => q
        simp at q
      rename_i _ _ _ _ _ D2 z2 _ hs2 _ _ _ _ _ _ _ D0 z0 _ F4 N4 hs4 _
      replace hs2 : StrsAre z2 rest := hs2
      replace hs4 : StrsAre z0 (kept ++ rest) := hs4
      have H1 := halverWOf (st := hs) (most := most) (fa := fa) N4 (by k_mem) (by k_mem) (by k_mem) ⟨_, _, _, _, _, _, _, _, _, _, rfl⟩ HX
      refine wpAny_call (spec_enoughW (hst := hs) (most := most) (keys := kept ++ rest) (part := 1) G' F4.keep (by walk_at "my_depth") (by walk_at "my_units") rfl hfg hrag hrsg hdag hds gx gdx gha H1 (N4.isList (.head _)) (by k_ne) hs4 (by decide) (by decide) hlr (by simp only [List.length_append]; omega) (by have := hok1.1; have := hok1.2; omega) (by decide) hm (by have := hok1.2; omega) ?_)
      intro h' tk v c H' hv
      obtain ⟨es', nd', hvs', nh', F', N', HD, HX'⟩ := afterW F4 N4 (by k_mem) (by k_updF) (fun o' => by k_updF) (by k_mem) c H'
      have hok2 : HOk most (askOnce rows [] most hs (kept ++ rest)).2 := askOnce_ok hok1
      rw [obo] at hobo
      generalize hq : askOnce rows [] most hs (kept ++ rest) = q at *
      obtain ⟨e1'', e2'', e3'', e4'', k1'', k2'', k3'', k4'', t1'', t2'', rfl⟩ := HD
      dsimp only
      cases hq1 : q.1 with
      | false =>
        rw [hq1] at hv hobo
        subst hv
        clear F4 N4 H1 H'
        repeat' (first | walk1 | (dsimp only; walk1))
        rename_i _ oc' hoc' _ _ Fz Nz
        rw [if_neg Bool.false_ne_true] at hobo
        refine WhileStep.intro Fz (newsCons (Nz (kl, listOf (List.toArray (kws ++ [Value.str ((key :: rest).getD (Int.toNat 0) Str.empty) _])) _) (by rw [← List.push_toArray]; k_mem)) (newsCons (Nz (D2, listOf z2.toArray _) (by k_mem)) (newsCons (Nz (L' + 1, oc') (by k_mem)) (newsCons (Nz (x, instObj 176 dx) (by k_mem)) (newsCons (Nz (dx, dictOf _ nd') (by k_mem)) (newsCons (Nz (ha, listOf hvs'.toArray nh') (by k_mem)) newsNil)))))) (n' := rest.length) (by simp)
          ⟨kl, D2, _, z2, _, _, kept ++ [key], rest, oc', _, _, nd', hvs', nh', q.2, rfl, hoc', strs_append (by assumption) (.cons _ _ .nil), hs2, ⟨e1'', e2'', e3'', e4'', k1'', k2'', k3'', k4'', t1'', t2'', rfl⟩, HX', hok2, by k_ne, by k_ne, by k_ne, by k_ne, by k_ne, by k_ne, by k_ne, by k_ne, by k_ne, rfl, by simp only [List.length_append, List.length_cons, List.length_nil]; omega, hobo, fun y hy => by
            simp only [if_neg hy]
            by_cases h1 : y = Str.ofString "kept"
            · subst h1; rfl
            · by_cases h2 : y = Str.ofString "rest"
              · subst h2; rfl
              · simp only [if_neg h1, if_neg h2]⟩
      | true =>
        rw [hq1] at hv hobo
        obtain ⟨d, zs, zvs, n, rfl, hdn, hdo, hzs, hone⟩ := hv
        have N2 := new_ok F4 hdn hdo N'
        have hdne := allNe_of (news_off N4 hdn)
        dsimp only [AllNe] at hdne
        clear F4 N4 H1 H' N'
        repeat' (first | walk1 | (dsimp only; walk1))
        refine Halt2.mk ?_
        (rename News _ _ _ _ => N5); (rename Fr _ _ _ _ => F5); (rename _ = Data.cell (some _) => d5)
        have zsin : ∀ y ∈ kept ++ rest, y ∈ zs := fun y hy => by rw [hone rfl]; exact hy
        have hkw' : StrsAre kws kept := by assumption
        refine' assignTexts F5 (fun y => zs.any (· == y)) rfl ?_ rfl
        repeat' (first | walk1 | (dsimp only; walk1))
        all_goals (try k_data)
        refine Stop.mk ⟨_, kws, kept, _, rfl, N5.isList (by k_mem), hkw', by omega, F5, N5, ?_, ?_⟩
        · intro C y t s₂ m₂ E' hy' hn hm hk
          exact testIn (c := L' + 1) (la := d) hn hm ⟨_, hk _ _ (N5.get (by k_mem)), d5⟩ ((N5.isList (by k_mem)).at (hk _)) hzs (fun tk => ⟨rfl, _, _, rfl, fun _ _ e => e⟩)
        intro D8 ys8 n8 h8 tk8 F8 N8 hne8 hys8
        rw [filter_all fun y hy => zsin y (List.mem_append_left _ hy)] at hys8
        replace hne8 := allNe_of hne8
        dsimp only [AllNe] at hne8
        clear F5 N5
        repeat' (first | walk1 | (dsimp only; walk1))
        refine Halt2.mk ?_
        refine' assignTexts F8 (fun y => zs.any (· == y)) rfl ?_ rfl
        repeat' (first | walk1 | (dsimp only; walk1))
        all_goals (try k_data)
        refine Stop.mk ⟨_, z2, rest, _, rfl, N8.isList (by k_mem), hs2, by omega, F8, N8, ?_, ?_⟩
        · intro C y t s₂ m₂ E' hy' hn hm hk
          exact testIn (c := L' + 1) (la := d) hn hm ⟨_, hk _ _ (N8.get (by k_mem)), d5⟩ ((N8.isList (by k_mem)).at (hk _)) hzs (fun tk => ⟨rfl, _, _, rfl, fun _ _ e => e⟩)
        intro D9 ys9 n9 h9 tk9 F9 N9 hne9 hys9
        rw [filter_all fun y hy => zsin y (List.mem_append_right _ hy)] at hys9
        replace hne9 := allNe_of hne9
        dsimp only [AllNe] at hne9
        clear F8 N8
        repeat' (first | walk1 | (dsimp only; walk1))
        rw [if_pos rfl] at hobo
        refine WhileStep.intro F9 (newsCons (N9 (D8, listOf ys8.toArray n8) (by k_mem)) (newsCons (N9 (D9, listOf ys9.toArray n9) (by k_mem)) (newsCons (N9 (L' + 1, _) (by k_mem)) (newsCons (N9 (x, instObj 176 dx) (by k_mem)) (newsCons (N9 (dx, dictOf _ nd') (by k_mem)) (newsCons (N9 (ha, listOf hvs'.toArray nh') (by k_mem)) newsNil)))))) (n' := rest.length) (by simp)
          ⟨D8, D9, _, _, _, _, kept, rest, _, _, _, nd', hvs', nh', q.2, rfl, d5, hys8, hys9, ⟨e1'', e2'', e3'', e4'', k1'', k2'', k3'', k4'', t1'', t2'', rfl⟩, HX', hok2, by k_ne, by k_ne, by k_ne, by k_ne, by k_ne, by k_ne, by k_ne, by k_ne, by k_ne, rfl, by omega, hobo, fun y hy => by
            simp only [if_neg hy]
            by_cases h1 : y = Str.ofString "kept"
            · subst h1; rfl
            · by_cases h2 : y = Str.ofString "rest"
              · subst h2; rfl
              · simp only [if_neg h1, if_neg h2]⟩
end
section
set_option maxHeartbeats 1000000
theorem topTexts_K {prog : Program} {w : World} {A : Around} {E : Value → Shared → Prop} {s : Shared} {K : Frag} {h₀ : Heap} {L a : Addr} {m : Str → Option Value} {n : Nat} {l : List Value} {ys : List Str} {x : Str} {t : Tok} {dd : Option Addr} {sl : Array (Option Value)} {Q : Value → Shared → Prop} (F : Fr h₀ L s.heap m) (X₀ : K.In h₀) (hl : K.lookup a = some ⟨.type "tuple", dd, .seq l.toArray n, sl⟩) (hi : StrsAre l ys)
    (h : Q (.bool (ys.any (· == x))) s) : wpAny (model prog w) A (compareOp .In (.str x t) (.ref a)) Q E s := in_tuple_strs (tupK (X₀.keeps F.keep) hl) hi h
local macro_rules | `(tactic| walk_at "compareOp In str ref") => `(tactic| (k_here; (with_reducible show wpAny _ _ (compareOp .In (.str _ _) (.ref _)) _ _ _); k_dflt (refine' topTexts_K (by k_asm) (by k_asm) (by k_is) (by repeat' constructor) ?_)))
section
variable {prog : Program} {w : World} {A : Around} {E : Value → Shared → Prop} {s : Shared} {env : Env} {h₀ : Heap} {x : Str} {body : List Stmt} {Q : Flow → Shared → Prop}
/-- a turn that stores nothing: the loop goes on -/
structure SignE (s₁ s₂ : Shared) : Prop where
  it : ∃ tk, s₂ = { s₁ with toks := tk }
noncomputable def SignP (s₁ : Shared) (Q : Flow → Shared → Prop) (f : Flow) (s₂ : Shared) : Prop :=
  match f with
  | .ret v => Q (.ret v) s₂
  | .brk => Q .next s₂
  | _ => SignE s₁ s₂
theorem iterSigns {y : Str} {t : Tok} {m₀ : Str → Option Value} {news : List (Addr × Obj)} (F : Fr h₀ env.locals s.heap m₀) (N : News h₀ env.locals s.heap news) (hh : A.handled = none)
    (turn : ∀ (k : Str) (u : Tok) (m₁ : Str → Option Value) (h : Heap) (tk : Nat) (own : List (Addr × Obj)), k ∈ signs y → (∀ z, z ≠ x → m₁ z = m₀ z) → Fr h₀ env.locals h (fun z => if z = x then some (.str k u) else m₁ z) → News h₀ env.locals h (own ++ news) →
      wpAny (model prog w) A (execs body env) (SignP { s with heap := h, toks := tk } Q) E { s with heap := h, toks := tk })
    (done : ∀ (m₁ : Str → Option Value) (h : Heap) (tk : Nat), (∀ z, z ≠ x → m₁ z = m₀ z) → Fr h₀ env.locals h m₁ → News h₀ env.locals h news → Q .next { s with heap := h, toks := tk }) :
    wpAny (model prog w) A (pyIter (.str y t)) (fun it s₂ => LoopAtV prog w A h₀ env x body Q E it s₂) E s := by
  refine wpAny_pyIter_str fun o St W hst => ?_
  refine ⟨_, _, _, _, _, _, m₀, news, fun _ m₁ nx => (∀ z, z ≠ x → m₁ z = m₀ z) ∧ nx = news, rfl, W A hh, ?_, ?_, ?_, hst, F.push _, (fun p hp => ⟨Heap.get?_push_of_some _ (N p hp).1, (N p hp).2⟩), ⟨fun _ _ => rfl, rfl⟩, ?_, ?_⟩
  · intro hm
    exact absurd F.ns.lt ((List.mem_singleton.mp hm) ▸ Nat.lt_irrefl _)
  · intro b hb
    rw [List.mem_singleton.mp hb]
    exact next_is_new F
  · intro p hp hI
    exact absurd (Heap.lt_size (N p hp).1) ((List.mem_singleton.mp hI) ▸ Nat.lt_irrefl _)
  · rintro i v m₁ nx s₁ own ⟨hh', tk', rfl⟩ hin hP ⟨hm, rfl⟩ hoff hown hget hall hst' F₁ N₁
    obtain ⟨c, u, hc, rfl⟩ := hP
    refine wpAny_mono (turn _ u m₁ hh' tk' own (List.mem_of_getElem? (signs_get hc)) hm F₁ N₁) (fun f s₂ p => ?_) fun _ _ e => e
    have fin : SignE { s with heap := hh', toks := tk' } s₂ → LoopStepU h₀ env.locals [s.heap.objs.size] own (fun m₁ nx' => (∀ z, z ≠ x → m₁ z = m₀ z) ∧ nx' = nx) { s with heap := hh', toks := tk' } .next s₂ := by
      rintro ⟨tk, e⟩
      exact ⟨rfl, hh', tk, _, nx, e, F₁, N₁, hoff, fun z hz => by simp only [if_neg hz]; exact hm z hz, rfl⟩
    cases f with
    | ret v => exact .ret p
    | brk => exact .brk p
    | next => exact .next (fin p)
    | cont => exact .cont (fin p)
  · rintro h' tk m' news' F' N' _ ⟨hm, rfl⟩
    exact done m' h' tk hm F' N'
/-- for x in a text, the turn storing nothing -/
theorem forSigns {px pos : Pos} {iter : Expr} {m : Str → Option Value} (F₀ : Fr h₀ env.locals s.heap m) (hh : A.handled = none)
    (h : wpAny (model prog w) A (eval iter env) (fun xv s₁ => Stop <| ∃ (y : Str) (t : Tok) (m₀ : Str → Option Value) (news : List (Addr × Obj)),
      xv = .str y t ∧ Fr h₀ env.locals s₁.heap m₀ ∧ News h₀ env.locals s₁.heap news ∧
      (∀ (k : Str) (u : Tok) (m₁ : Str → Option Value) (h : Heap) (tk : Nat) (own : List (Addr × Obj)), k ∈ signs y → (∀ z, z ≠ x → m₁ z = m₀ z) → Fr h₀ env.locals h (fun z => if z = x then some (.str k u) else m₁ z) → News h₀ env.locals h (own ++ news) →
        wpAny (model prog w) A (execs body env) (SignP { s₁ with heap := h, toks := tk } Q) (fun _ _ => False) { s₁ with heap := h, toks := tk }) ∧
      (∀ (m₁ : Str → Option Value) (h : Heap) (tk : Nat), (∀ z, z ≠ x → m₁ z = m₀ z) → Fr h₀ env.locals h m₁ → News h₀ env.locals h news → Q .next { s₁ with heap := h, toks := tk })) (fun _ _ => False) s)
    (hx : env.kindOf x = some .local := by rfl) (hp : (env.scope.kind == .class || (env.scope.kind == .module && env.locals != env.globals)) = false := by rfl) (hs : ∀ x, foldedSetIterable iter env x = pure x := by intro _; rfl) :
    wpAny (model prog w) A (exec (.For (.Name x px) iter body [] pos) env) Q (fun _ _ => False) s := by
  refine For_invV h₀ hx hp (wpAny_mono h (fun xv s₁ h₁ => ?_) fun _ _ e => e) hs PassesOwn.never
  obtain ⟨y, t, m₀, news, rfl, F, N, turn, done⟩ := h₁.it
  exact iterSigns F N hh turn done
end
structure Halt3 (P : Prop) : Prop where
  it : P
noncomputable def reserved : List Str := [Str.ofString "!", Str.ofString "_", Str.ofString "as", Str.ofString "BINARY", Str.ofString "DECIMAL", Str.ofString "exists", Str.ofString "forall", Str.ofString "HEXADECIMAL", Str.ofString "let", Str.ofString "match", Str.ofString "NUMERAL", Str.ofString "par", Str.ofString "STRING"]
/-- a name that is a simple symbol -/
structure Simple (y : Str) : Prop where
  some : (y == Str.ofString "") = false
  free : reserved.any (· == y) = false
  one : (Txt.item y 0).length = 1
  head : (Builtin.Str.occurrences (Str.ofString "0123456789") (Txt.item y 0) 0 (Str.ofString "0123456789").length 1).isEmpty = true
  all : ∀ k ∈ signs y, (Builtin.Str.occurrences (Str.ofString "abcdefghijklmnopqrstuvwxyzABCDEFGHIJKLMNOPQRSTUVWXYZ0123456789~!@$%^&*_-+=<>.?/") k 0 (Str.ofString "abcdefghijklmnopqrstuvwxyzABCDEFGHIJKLMNOPQRSTUVWXYZ0123456789~!@$%^&*_-+=<>.?/").length 1).isEmpty = false
  size : y.length ≤ 3 
local macro_rules | `(tactic| walk_at "exec For") => `(tactic| (k_here; refine Halt3.it ?_))
local macro_rules | `(tactic| walk_at "exec For Name Name") => `(tactic| (k_here; refine Halt3.it ?_))
theorem spec_simple {prog : Program} {w : World} {mg mb : Str → Option Value} {p : Program} {loose : List Str} {mean : ExcName → Option Value} {A : Around} {s : Shared} {h₀ : Heap} {R : Result → Shared → Prop} {t : Tok} {y : Str}
   (G : Gd w mg mb p loose mean h₀) (st : h₀.StaysIn s.heap) (hr : A.depth + 10 < recursionLimit) (hu : A.units + 100 < cLine) (hh : A.handled = none) (hy : Simple y)
   (k : ∀ h' tk, Ch [] s.heap h' → R (.ok (.ret (.bool true))) { s with heap := h', toks := tk }) :
   codeAny (model prog w) A (.call (.ref 86) ⟨[.str y t], []⟩) R s := by
  obtain ⟨hd9, dp, fr, gd, un⟩ := A
  change hd9 = none at hh
  subst hh
  dsimp only at hr hu
  refine enterK [] G st (by simp) (by dsimp only; omega) (by k_is) (by k_is) (BindsTo.of_eq rfl) (locs rfl) ?_ (by decide) rfl rfl rfl
  intro g L' h₁ hg st' G' F N C hlt
  have X := G'.X
  have T := G'.T
  obtain ⟨y1, y2, y3, y4, y5, y6⟩ := hy
  unfold reserved at y2
  repeat' (first | walk1 | (dsimp only; walk1))
  refine Halt3.mk ?_
  refine' forSigns F rfl ?_
  repeat' (first | walk1 | (dsimp only; walk1))
  all_goals (try k_data)
  refine Stop.mk ⟨y, _, _, _, rfl, F, N, ?_, ?_⟩
  · intro k' u m₁ h tk own hk hm F₁ N₁
    change Fr _ L' _ _ at F₁; change News _ L' _ _ at N₁
    have hall := y5 k' hk
    repeat' (first | walk1 | (dsimp only; walk1))
    exact SignE.mk ⟨_, rfl⟩
  · intro m₁ h tk hm F₁ N₁
    repeat' (first | walk1 | (dsimp only; walk1))
    exact k _ _ (left hg F₁)
theorem callSimple {prog : Program} {w : World} {mg mb : Str → Option Value} {p : Program} {loose : List Str} {mean : ExcName → Option Value} {A : Around} {E : Value → Shared → Prop} {s : Shared} {g : Heap} {L : Addr} {m : Str → Option Value} {news : List (Addr × Obj)} {Q : Value → Shared → Prop} {t : Tok} {y : Str}
   (F : Fr g L s.heap m) (N : News g L s.heap news) (G : Gd w mg mb p loose mean g) (hr : A.depth + 10 < recursionLimit) (hu : A.units + 100 < cLine) (hh : A.handled = none) (hy : Simple y)
   (k : ∀ h' tk, Fr g L h' m → News g L h' news → Q (.bool true) { s with heap := h', toks := tk }) : wpAny (model prog w) A (call (.ref 86) [.str y t]) Q E s :=
  wpAny_call (spec_simple G F.keep hr hu hh hy fun h' tk c => k h' tk (c.fr0 F) (c.news0 N))
local macro_rules | `(tactic| walk_at "call ref") => `(tactic| (k_here; (with_reducible show wpAny _ _ (call (.ref 86) _) _ _ _); k_dflt (refine' callSimple (by k_asm) (by k_asm) (by assumption) (by walk_at "my_depth") (by walk_at "my_units") (by walk_at "my_h") (by assumption) ?_); walk_at "my_f"))
theorem spec_symbol {prog : Program} {w : World} {mg mb : Str → Option Value} {p : Program} {loose : List Str} {mean : ExcName → Option Value} {A : Around} {s : Shared} {h₀ : Heap} {R : Result → Shared → Prop} {t : Tok} {y : Str}
   (G : Gd w mg mb p loose mean h₀) (st : h₀.StaysIn s.heap) (hr : A.depth + 20 < recursionLimit) (hu : A.units + 200 < cLine) (hh : A.handled = none) (hy : Simple y)
   (k : ∀ h' tk, Ch [] s.heap h' → R (.ok (.ret (.str y t))) { s with heap := h', toks := tk }) :
   codeAny (model prog w) A (.call (.ref 93) ⟨[.str y t], []⟩) R s := by
  obtain ⟨hd9, dp, fr, gd, un⟩ := A
  change hd9 = none at hh
  subst hh
  dsimp only at hr hu
  refine enterK [] G st (by simp) (by dsimp only; omega) (by k_is) (by k_is) (BindsTo.of_eq rfl) (locs rfl) ?_ (by decide) rfl rfl rfl
  intro g L' h₁ hg st' G' F N C hlt
  have X := G'.X
  have T := G'.T
  have y2 := hy.free
  unfold reserved at y2
  repeat' (first | walk1 | (dsimp only; walk1))
  (rename Fr _ _ _ _ => Fz)
  exact k _ _ (left hg Fz)
theorem callSymbol {prog : Program} {w : World} {mg mb : Str → Option Value} {p : Program} {loose : List Str} {mean : ExcName → Option Value} {A : Around} {E : Value → Shared → Prop} {s : Shared} {g : Heap} {L : Addr} {m : Str → Option Value} {news : List (Addr × Obj)} {Q : Value → Shared → Prop} {t : Tok} {y : Str}
   (F : Fr g L s.heap m) (N : News g L s.heap news) (G : Gd w mg mb p loose mean g) (hr : A.depth + 20 < recursionLimit) (hu : A.units + 200 < cLine) (hh : A.handled = none) (hy : Simple y)
   (k : ∀ h' tk, Fr g L h' m → News g L h' news → Q (.str y t) { s with heap := h', toks := tk }) : wpAny (model prog w) A (call (.ref 93) [.str y t]) Q E s :=
  wpAny_call (spec_symbol G F.keep hr hu hh hy fun h' tk c => k h' tk (c.fr0 F) (c.news0 N))
local macro_rules | `(tactic| walk_at "call ref") => `(tactic| (k_here; (with_reducible show wpAny _ _ (call (.ref 93) _) _ _ _); k_dflt (refine' callSymbol (by k_asm) (by k_asm) (by assumption) (by walk_at "my_depth") (by walk_at "my_units") (by walk_at "my_h") (by assumption) ?_); walk_at "my_f"))
theorem spec_word {prog : Program} {w : World} {mg mb : Str → Option Value} {p : Program} {loose : List Str} {mean : ExcName → Option Value} {A : Around} {s : Shared} {h₀ : Heap} {R : Result → Shared → Prop} {t1 t2 : Tok} {y : Str} {a : Addr}
   (G : Gd w mg mb p loose mean h₀) (st : h₀.StaysIn s.heap) (hr : A.depth + 30 < recursionLimit) (hu : A.units + 300 < cLine) (hh : A.handled = none) (hy : Simple y) (ha : IsTup s.heap a #[.str (Str.ofString "sym") t1, .str y t2])
   (k : ∀ h' tk, Ch [] s.heap h' → R (.ok (.ret (.str y t2))) { s with heap := h', toks := tk }) :
   codeAny (model prog w) A (.call (.ref 135) ⟨[.ref a], []⟩) R s := by
  obtain ⟨hd9, dp, fr, gd, un⟩ := A
  change hd9 = none at hh
  subst hh
  dsimp only at hr hu
  refine enterK [] G st (by simp) (by dsimp only; omega) (by k_is) (by k_is) (BindsTo.of_eq rfl) (locs rfl) ?_ (by decide) rfl rfl rfl
  intro g L' h₁ hg st' G' F N C hlt
  have X := G'.X
  have T := G'.T
  have hg' : g = s.heap := hg
  subst hg'
  repeat' (first | walk1 | (dsimp only; walk1))
  (rename Fr _ _ _ _ => Fz)
  exact k _ _ (left hg Fz)
theorem callWord {prog : Program} {w : World} {mg mb : Str → Option Value} {p : Program} {loose : List Str} {mean : ExcName → Option Value} {A : Around} {E : Value → Shared → Prop} {s : Shared} {g : Heap} {L : Addr} {m : Str → Option Value} {news : List (Addr × Obj)} {Q : Value → Shared → Prop} {t1 t2 : Tok} {y : Str} {a : Addr}
   (F : Fr g L s.heap m) (N : News g L s.heap news) (G : Gd w mg mb p loose mean g) (hr : A.depth + 30 < recursionLimit) (hu : A.units + 300 < cLine) (hh : A.handled = none) (hy : Simple y) (ha : IsTup s.heap a #[.str (Str.ofString "sym") t1, .str y t2])
   (k : ∀ h' tk, Fr g L h' m → News g L h' news → Q (.str y t2) { s with heap := h', toks := tk }) : wpAny (model prog w) A (call (.ref 135) [.ref a]) Q E s :=
  wpAny_call (spec_word G F.keep hr hu hh hy ha fun h' tk c => k h' tk (c.fr0 F) (c.news0 N))
end
section
set_option maxHeartbeats 1000000
theorem kl_last_snoc {v : Value} : ∀ (us : List Value), kl_last (us ++ [v]) = some (us, v)
  | [] => rfl
  | u :: us => by show (match kl_last (us ++ [v]) with | some (p, y) => some (u :: p, y) | none => some ([], u)) = _; rw [kl_last_snoc us]
theorem UpdF.upd {d : Addr} {o : Obj} {l : List (Addr × Obj)} {u : Obj → List (Addr × Obj)} (o' : Obj) (U : UpdF d o l u) : Upd d o o' l (u o') := by
  induction U with
  | head h => exact .head h
  | tail h _ ih => exact .tail h ih
theorem popT {prog : Program} {w : World} {A : Around} {E : Value → Shared → Prop} {s : Shared} {g : Heap} {L l : Addr} {m : Str → Option Value} {news : List (Addr × Obj)} {us : List Value} {v : Value} {n : Nat} {u : Obj → List (Addr × Obj)} {Q : Value → Shared → Prop}
    (F : Fr g L s.heap m) (N : News g L s.heap news) (U : UpdF l (listOf (us ++ [v]).toArray n) news u) (hz : us.length ≤ 1000)
    (h : ∀ h', Fr g L h' m → News g L h' (u (listOf us.toArray (n + 1))) → Q v { s with heap := h' }) : wpAny (model prog w) A (call (.builtin "list.pop") [.ref l]) Q E s :=
  kl_pop F N (e := by rw [List.toList_toArray]; exact kl_last_snoc us) (UpdF.upd _ U) (by rw [List.toList_toArray, sizeLine_eq, List.length_append, List.length_singleton]; omega) h
local macro_rules | `(tactic| walk_at "call builtin:list.pop") => `(tactic| (k_here; (with_reducible show wpAny _ _ (call (.builtin _) [.ref _]) _ _ _); k_dflt (refine' popT (by k_asm) (by k_asm) (by k_updF) (by walk_at "my_pop") ?_); walk_at "my_f"))
local macro_rules | `(tactic| walk_at "my_pop") => `(tactic| first | omega | (simp only [List.length_reverse, List.length_cons, List.length_nil]; omega))
theorem appendT {prog : Program} {w : World} {A : Around} {E : Value → Shared → Prop} {s : Shared} {g : Heap} {L l : Addr} {m : Str → Option Value} {news : List (Addr × Obj)} {us : List Value} {v : Value} {n : Nat} {u : Obj → List (Addr × Obj)} {Q : Value → Shared → Prop}
    (F : Fr g L s.heap m) (N : News g L s.heap news) (U : UpdF l (listOf us.toArray n) news u) (hz : us.length ≤ 1000)
    (h : ∀ h', Fr g L h' m → News g L h' (u (listOf (us ++ [v]).toArray (n + 1))) → Q .none { s with heap := h' }) : wpAny (model prog w) A (call (.builtin "list.append") [.ref l, v]) Q E s :=
  append_K F N (UpdF.upd _ U) (fun h' F' N' => h h' F' (by rw [← List.push_toArray]; exact N')) (by rw [List.size_toArray, sizeLine_eq]; omega)
local macro_rules | `(tactic| walk_at "call builtin:list.append") => `(tactic| (k_here; (with_reducible show wpAny _ _ (call (.builtin _) [.ref _, _]) _ _ _); k_dflt (refine' appendT (by k_asm) (by k_asm) (by k_updF) (by walk_at "my_pop") ?_); walk_at "my_f"))
/-- the pieces that are still to come -/
noncomputable def toCome : Bool → List Str → List Str
  | _, [] => []
  | f, y :: ys => (if f then [Str.ofString " "] else []) ++ [y] ++ toCome true ys
noncomputable abbrev tupO (vs : List Value) (n : Nat) : Obj := { cls := .type "tuple", data := .seq vs.toArray n }
/-- the stack of the names that are still to come, the top first -/
inductive Stk (g : Heap) (S : List (Addr × Obj)) : Bool → List Value → List Str → Prop
  | nil {f : Bool} : Stk g S f [] []
  | cons {f : Bool} {a b : Addr} {n : Nat} {t1 t2 : Tok} {y : Str} {vs : List Value} {ys : List Str} : (a, tupO [.ref b, .bool f] n) ∈ S → IsTup g b #[.str (Str.ofString "sym") t1, .str y t2] → Simple y → Stk g S true vs ys → Stk g S f (.ref a :: vs) (y :: ys)
/-- the tuple of the names' tuples -/
inductive SymsAre (g : Heap) : List Value → List Str → Prop
  | nil : SymsAre g [] []
  | cons {b : Addr} {t1 t2 : Tok} {y : Str} {vs : List Value} {ys : List Str} : IsTup g b #[.str (Str.ofString "sym") t1, .str y t2] → Simple y → SymsAre g vs ys → SymsAre g (.ref b :: vs) (y :: ys)
theorem stk_len {g : Heap} {S : List (Addr × Obj)} : ∀ {f : Bool} {vs : List Value} {ys : List Str}, Stk g S f vs ys → vs.length = ys.length
  | _, _, _, .nil => rfl
  | _, _, _, .cons _ _ _ t => by simp [stk_len t]
theorem stk_mono {g : Heap} {S S' : List (Addr × Obj)} (s : ∀ q ∈ S, q ∈ S') : ∀ {f : Bool} {vs : List Value} {ys : List Str}, Stk g S f vs ys → Stk g S' f vs ys
  | _, _, _, .nil => .nil
  | _, _, _, .cons a b c t => .cons (s _ a) b c (stk_mono s t)
theorem stk_push {g : Heap} {S : List (Addr × Obj)} {ys : List Str} {i n : Nat} {svs : List Value} {D b : Addr} {t1 t2 : Tok} {y : Str} (hst : Stk g S (decide (0 < ys.length - i)) svs (ys.drop (ys.length - i))) (hi : i < ys.length) (hy : ys[(((ys.length : Int) - 1) + (i : Int) * (-1)).toNat]? = some y)
    (hb : IsTup g b #[.str (Str.ofString "sym") t1, .str y t2]) (hsy : Simple y) :
    Stk g ((D, tupO [.ref b, .bool (decide (0 < ((ys.length : Int) - 1) + (i : Int) * (-1)))] n) :: S) (decide (0 < ys.length - (i + 1))) (.ref D :: svs) (ys.drop (ys.length - (i + 1))) := by
  have e1 : (((ys.length : Int) - 1) + (i : Int) * (-1)).toNat = ys.length - (i + 1) := by omega
  have e2 : decide (0 < ys.length - (i + 1)) = decide (0 < ((ys.length : Int) - 1) + (i : Int) * (-1)) := decide_eq_decide.mpr (by omega)
  have e3 : ys.length - (i + 1) < ys.length := by omega
  have e4 : ys.length - (i + 1) + 1 = ys.length - i := by omega
  rw [e1, List.getElem?_eq_getElem e3] at hy
  rw [decide_eq_true (by omega)] at hst
  rw [List.drop_eq_getElem_cons e3, Option.some.inj hy, e4, e2]
  exact .cons (.head _) hb hsy (stk_mono (fun q hq => .tail _ hq) hst)
theorem syms_len {g : Heap} : ∀ {vs : List Value} {ys : List Str}, SymsAre g vs ys → vs.length = ys.length
  | _, _, .nil => rfl
  | _, _, .cons _ _ t => by simp [syms_len t]
theorem syms_at {g : Heap} : ∀ {vs : List Value} {ys : List Str} {i : Nat}, SymsAre g vs ys → i < ys.length → ∃ b t1 t2 y, vs[i]? = some (.ref b) ∧ ys[i]? = some y ∧ IsTup g b #[.str (Str.ofString "sym") t1, .str y t2] ∧ Simple y
  | _, _, _, .nil, h => absurd h (Nat.not_lt_zero _)
  | _, _, 0, .cons a b t, _ => ⟨_, _, _, _, rfl, rfl, a, b⟩
  | _, _, i + 1, .cons _ _ t, h => syms_at (i := i) t (by simpa using h)
theorem lenSyms {prog : Program} {w : World} {A : Around} {E : Value → Shared → Prop} {s : Shared} {g : Heap} {L b : Addr} {m : Str → Option Value} {vs : List Value} {ys : List Str} {Q : Value → Shared → Prop} (F : Fr g L s.heap m) (hb : IsTup g b vs.toArray) (hs : SymsAre g vs ys) (hz : ys.length ≤ 1000)
    (h : Q (.int ys.length (s.toks + 1)) { s with toks := s.toks + 1 + 1 }) : wpAny (model prog w) A (call (.builtin "len") [.ref b]) Q E s := by
  have e : vs.toArray.size = ys.length := by simp [syms_len hs]
  exact len_tuple (F.tup hb) (by rw [e]; omega) (by rw [e]; exact h)
local macro_rules | `(tactic| walk_at "call builtin:len") => `(tactic| (k_here; (with_reducible show wpAny _ _ (call (.builtin "len") [.ref _]) _ _ _); k_dflt (refine' lenSyms (by k_asm) (by assumption) (by assumption) (by omega) ?_)))
theorem itemSyms {prog : Program} {w : World} {A : Around} {E : Value → Shared → Prop} {s : Shared} {g : Heap} {L b : Addr} {m : Str → Option Value} {vs : List Value} {ys : List Str} {value slice : Expr} {k : Int} {u : Tok} {Q : Value → Shared → Prop} (F : Fr g L s.heap m) (hb : IsTup g b vs.toArray) (hs : SymsAre g vs ys) (hz : ys.length ≤ 1000) (h0 : 0 ≤ k) (h1 : k < ys.length)
    (h : ∀ (b' : Addr) (t1 t2 : Tok) (y : Str), ys[k.toNat]? = some y → IsTup g b' #[.str (Str.ofString "sym") t1, .str y t2] → Simple y → Q (.ref b') s)
    (hsub : subscripted slice false (.ref b) (.int k u) = operate [.ref b, .int k u] (getItem (.ref b) (.int k u)) := by with_unfolding_all rfl) :
    wpAny (model prog w) A (subscriptTail value slice (.ref b) (.int k u)) Q E s := by
  obtain ⟨b', t1, t2, y, e1, e2, e3, e4⟩ := syms_at (i := k.toNat) hs (by omega)
  refine item_tupleT (F.tup hb) (by omega) (by omega) ?_ e1 (h b' t1 t2 y e2 e3 e4) hsub
  rw [syms_len hs]
  unfold seqIndex?
  dsimp only
  rw [if_neg (show ¬ k < 0 by omega), if_pos (show (decide (0 ≤ k) && decide (k < (ys.length : Int))) = true by simp only [Bool.and_eq_true, decide_eq_true_eq]; omega)]
local macro_rules | `(tactic| walk_at "subscriptTail") => `(tactic| (k_here; (with_reducible show wpAny _ _ (subscriptTail _ (.Name _ _) (.ref _) (.int _ _)) _ _ _); k_dflt (refine' itemSyms (by k_asm) (by assumption) (by assumption) (by omega) (by omega) (by omega) ?_); walk_at "my_f"))
/-- how far the writing has come -/
inductive WPh (g : Heap) (S : List (Addr × Obj)) (a : Addr) (ys : List Str) : Nat → List Value → List Str → Prop
  | one {q : Addr} {nq : Nat} : (q, tupO [.ref a, .bool false] nq) ∈ S → WPh g S a ys (ys.length + 2) [.ref q] []
  | two {e : Addr} {ne : Nat} {f : Bool} {vs : List Value} {rest ps : List Str} : (e, tupO [.none, .bool false] ne) ∈ S → Stk g S f vs rest → ps ++ toCome f rest = Str.ofString "(" :: toCome false ys → WPh g S a ys (rest.length + 1) (.ref e :: vs.reverse) ps
  | three : WPh g S a ys 0 [] ((Str.ofString "(" :: toCome false ys) ++ [Str.ofString ")"])
theorem lookup1 {y x : Str} {v : Value} : List.lookup y [(x, v)] = if y = x then some v else none := by
  rw [List.lookup_cons]
  by_cases h : y = x
  · subst h; simp
  · have e : (y == x) = false := by simpa using h
    rw [if_neg h, e]; rfl
theorem allLt_mem {d : Addr} : ∀ {l : List (Addr × Obj)}, AllLt d l → ∀ q ∈ l, q.1 < d
  | [], _, _, h => nomatch h
  | _ :: _, h, q, hq => by
    rcases List.mem_cons.mp hq with rfl | hq
    · exact h.1
    · exact allLt_mem h.2 q hq
local macro_rules | `(tactic| walk_at "call ref") => `(tactic| (k_here; (with_reducible show wpAny _ _ (call (.ref 135) _) _ _ _); k_dflt (refine' callWord (by k_asm) (by k_asm) (by assumption) (by walk_at "my_depth") (by walk_at "my_units") (by walk_at "my_h") (by assumption) (by exact Fr.tup (by k_asm) (by assumption)) ?_); walk_at "my_f"))
theorem lenAny {prog : Program} {w : World} {A : Around} {E : Value → Shared → Prop} {s : Shared} {l : Addr} {vs : List Value} {Q : Value → Shared → Prop} (hl : s.heap.IsList l vs.toArray) (hz : vs.length ≤ 5000)
    (h : Q (.int vs.length (s.toks + 1)) { s with toks := s.toks + 1 + 1 }) : wpAny (model prog w) A (call (.builtin "len") [.ref l]) Q E s := by
  have e : vs.toArray.size = vs.length := by simp
  exact len_list hl (by rw [e]; omega) (by rw [e]; exact h)
local macro_rules | `(tactic| walk_at "my_pop") => `(tactic| first | omega | (simp only [List.length_reverse, List.length_cons, List.length_nil, List.length_append]; omega))
structure NeedLen : Prop where
local macro_rules | `(tactic| walk_at "call builtin:len") => `(tactic| (k_here; (have nl' : NeedLen := by assumption); (with_reducible show wpAny _ _ (call (.builtin "len") [.ref _]) _ _ _); k_dflt (refine' lenAny (by kmk_list) (by walk_at "my_pop") ?_)))
theorem toCome_ge : ∀ (f : Bool) (ys : List Str), ys.length ≤ (toCome f ys).length
  | _, [] => Nat.le_refl _
  | f, y :: ys => by
    have := toCome_ge true ys
    simp only [toCome, List.length_append, List.length_cons, List.length_nil]
    omega
theorem toCome_len : ∀ (f : Bool) (ys : List Str), (toCome f ys).length ≤ 2 * ys.length
  | _, [] => Nat.le_refl _
  | f, y :: ys => by
    have := toCome_len true ys
    simp only [toCome, List.length_append, List.length_cons, List.length_nil]
    cases f <;> simp <;> omega
theorem joinT {prog : Program} {w : World} {A : Around} {E : Value → Shared → Prop} {s : Shared} {x : Str} {t : Tok} {l : Addr} {vs : List Value} {ys : List Str} {Q : Value → Shared → Prop} (hl : s.heap.IsList l vs.toArray) (hi : StrsAre vs ys) (hsep : x.length ≤ 16) (hw : (ys.map (·.length)).sum + ys.length ≤ 1048576)
    (h : ∀ t' k, Q (.str (Str.join x ys) t') { s with toks := k }) : wpAny (model prog w) A (call (.builtin "str.join") [.str x t, .ref l]) Q E s :=
  join_listW hl (by rw [List.toList_toArray]; exact hi) hsep hw (fun t' k => by
    have e : Txt.join x ys = Str.join x ys := StrLaws.glued_eq_join x ys
    rw [e]; exact h t' k)
local macro_rules | `(tactic| walk_at "call builtin:str.join") => `(tactic| (k_here; (with_reducible show wpAny _ _ (call (.builtin "str.join") [.str _ _, Value.ref _]) _ _ _); k_dflt (refine' joinT (by kmk_list) (by assumption) (by decide) (by assumption) ?_)))
theorem syms_all {g : Heap} : ∀ {vs : List Value} {ys : List Str}, SymsAre g vs ys → ∀ y ∈ ys, Simple y
  | _, _, .nil, _, h => nomatch h
  | _, _, .cons _ b t, y, h => by
    rcases List.mem_cons.mp h with rfl | h
    · exact b
    · exact syms_all t y h
theorem sum_le {n : Nat} : ∀ {l : List Str}, (∀ y ∈ l, y.length ≤ n) → (l.map (·.length)).sum ≤ n * l.length
  | [], _ => Nat.le_refl _
  | y :: l, h => by
    have a := sum_le (l := l) fun z hz => h z (.tail _ hz)
    have b := h y (.head _)
    simp only [List.map_cons, List.sum_cons, List.length_cons, Nat.mul_succ]
    omega
theorem toCome_mem : ∀ {f : Bool} {ys : List Str} {y : Str}, y ∈ toCome f ys → y = Str.ofString " " ∨ y ∈ ys
  | _, [], _, h => nomatch h
  | f, z :: ys, y, h => by
    simp only [toCome, List.mem_append, List.mem_singleton] at h
    rcases h with (h | h) | h
    · cases f with
      | true => exact .inl (by simpa using h)
      | false => exact absurd h (by simp)
    · exact .inr (by rw [h]; exact .head _)
    · exact (toCome_mem h).imp id fun h => .tail _ h
theorem join_cons (x : Str) (l : List Str) : Str.join (Str.ofString "") (x :: l) = x ++ Str.join (Str.ofString "") l := by
  have e : Str.ofString "" = Str.empty := by decide
  cases l with
  | nil => show x = x ++ Str.empty; rw [Str.append_empty]
  | cons y l => show x ++ Str.ofString "" ++ Str.join (Str.ofString "") (y :: l) = _; rw [e, Str.append_empty]
theorem join_tail (z : Str) : ∀ (ys : List Str), Str.join (Str.ofString "") (toCome true ys ++ [z]) = ys.foldr (fun y acc => Str.ofString " " ++ y ++ acc) z
  | [] => rfl
  | y :: ys => by
    show Str.join (Str.ofString "") (Str.ofString " " :: y :: (toCome true ys ++ [z])) = _
    rw [join_cons, join_cons, join_tail z ys, List.foldr_cons, Str.append_assoc]
theorem join_fold (z : Str) : ∀ (ys : List Str) (y : Str), Str.join (Str.ofString " ") (y :: ys) ++ z = y ++ ys.foldr (fun y acc => Str.ofString " " ++ y ++ acc) z
  | [], y => rfl
  | y2 :: ys, y => by
    show y ++ Str.ofString " " ++ Str.join (Str.ofString " ") (y2 :: ys) ++ z = _
    rw [Str.append_assoc, join_fold z ys y2, List.foldr_cons]
    simp only [Str.append_assoc]
noncomputable def coreText (ys : List Str) : Str := Str.ofString "(" ++ Str.join (Str.ofString " ") ys ++ Str.ofString ")"
theorem core_text (ys : List Str) : Str.join (Str.ofString "") ((Str.ofString "(" :: toCome false ys) ++ [Str.ofString ")"]) = coreText ys := by
  unfold coreText
  cases ys with
  | nil => decide
  | cons y ys =>
    show Str.join (Str.ofString "") (Str.ofString "(" :: y :: (toCome true ys ++ [Str.ofString ")"])) = _
    rw [join_cons, join_cons, join_tail, Str.append_assoc, join_fold]
structure Halt4 (P : Prop) : Prop where
  it : P
local macro_rules | `(tactic| walk_at "exec While") => `(tactic| (k_here; (refine Halt4.it ?_)))
local macro_rules | `(tactic| walk_at "exec While Compare") => `(tactic| (k_here; (refine Halt4.it ?_)))
local macro_rules | `(tactic| walk_at "exec While Compare cons nil") => `(tactic| (k_here; (refine Halt4.it ?_)))
inductive WriI (s : Shared) (a : Addr) (ys : List Str) (n : Nat) (m : Str → Option Value) (nx : List (Addr × Obj)) : Prop
  | mk (pl wl : Addr) (pvs wvs : List Value) (np nw : Nat) (ps : List Str) (S : List (Addr × Obj)) (_ : nx = (pl, listOf pvs.toArray np) :: (wl, listOf wvs.toArray nw) :: S) (_ : pl ≠ wl) (_ : ∀ q ∈ S, q.1 ≠ pl) (_ : ∀ q ∈ S, q.1 ≠ wl) (_ : StrsAre pvs ps) (_ : WPh s.heap S a ys n wvs ps) (_ : ∀ y, y ≠ Str.ofString "thing" → y ≠ Str.ofString "is_behind" → y ≠ Str.ofString "place" → m y = if y = Str.ofString "waiting" then some (.ref wl) else if y = Str.ofString "pieces" then some (.ref pl) else if y = Str.ofString "item" then some (.ref a) else none) : WriI s a ys n m nx
inductive WriJ (s : Shared) (D2 pl wl a : Addr) (ys : List Str) (i : Nat) (m : Str → Option Value) (nx : List (Addr × Obj)) : Prop
  | mk (np nw : Nat) (pvs svs : List Value) (S2 : List (Addr × Obj)) (_ : nx = (D2, tupO [.none, .bool false] 0) :: (pl, listOf pvs.toArray np) :: (wl, listOf (Value.ref D2 :: svs.reverse).toArray nw) :: S2) (_ : StrsAre pvs [Str.ofString "("]) (_ : Stk s.heap S2 (decide (0 < ys.length - i)) svs (ys.drop (ys.length - i))) (_ : ∀ q ∈ S2, q.1 ≠ pl) (_ : ∀ q ∈ S2, q.1 ≠ wl) (_ : ∀ y, y ≠ Str.ofString "place" → m y = if y = Str.ofString "is_behind" then some (.bool false) else if y = Str.ofString "thing" then some (.ref a) else if y = Str.ofString "waiting" then some (.ref wl) else if y = Str.ofString "pieces" then some (.ref pl) else if y = Str.ofString "item" then some (.ref a) else none) : WriJ s D2 pl wl a ys i m nx
theorem spec_write {prog : Program} {w : World} {mg mb : Str → Option Value} {p : Program} {loose : List Str} {mean : ExcName → Option Value} {A : Around} {s : Shared} {h₀ : Heap} {R : Result → Shared → Prop} {t1 : Tok} {ys : List Str} {a b : Addr} {vs : List Value}
   (G : Gd w mg mb p loose mean h₀) (st : h₀.StaysIn s.heap) (hr : A.depth + 40 < recursionLimit) (hu : A.units + 400 < cLine) (hh : A.handled = none) (ha : IsTup s.heap a #[.str (Str.ofString "list") t1, .ref b]) (hb : IsTup s.heap b vs.toArray) (hs : SymsAre s.heap vs ys) (hl : ys.length ≤ 10)
   (k : ∀ h' tk t, Ch [] s.heap h' → R (.ok (.ret (.str (coreText ys) t))) { s with heap := h', toks := tk }) :
   codeAny (model prog w) A (.call (.ref 142) ⟨[.ref a], []⟩) R s := by
  obtain ⟨hd9, dp, fr, gd, un⟩ := A
  change hd9 = none at hh
  subst hh
  dsimp only at hr hu
  refine enterK [] G st (by simp) (by dsimp only; omega) (by k_is) (by k_is) (BindsTo.of_eq rfl) (locs rfl) ?_ (by decide) rfl rfl rfl
  intro g L' h₁ hg st' G' F N C hlt
  have X := G'.X
  have T := G'.T
  have hg' : g = s.heap := hg
  subst hg'
  repeat' (first | walk1 | (dsimp only; walk1))
  refine Halt4.mk ?_
  (rename News _ _ _ _ => N1); (rename Fr _ _ _ _ => F1)
  rename_i pl0 _ _ _ _ q0 _ _ wl0 _ _ _
  refine While_inv2 ((WriI s a ys))
    (n₀ := ys.length + 2) F1 (newsSub N1 (l := _) ?sub) ⟨pl0, wl0, [], [.ref q0], 0, 0, [], [(q0, tupO [.ref a, .bool false] 0)], rfl, by k_ne, ?o1, ?o2, .nil, .one (.head _), ?mm⟩ ?turn
  case sub =>
    intro q hq
    repeat (rcases List.mem_cons.mp hq with rfl | hq; · k_mem)
    cases hq
  case o1 => intro q hq; rw [List.mem_singleton.mp hq]; k_ne
  case o2 => intro q hq; rw [List.mem_singleton.mp hq]; k_ne
  case mm => intro y h1 h2 h3; rw [← lookup1]; with_unfolding_all rfl
  case turn =>
    rintro n m₁ nx h tk F₁ N₁ ⟨pl, wl, pvs, wvs, np, nw, ps, S, rfl, pw, so1, so2, hps, ph, hmm⟩
    clear F1 N1
    have pw' := neN pw
    replace F₁ := frCongr F₁ (m' := fun y => if y = Str.ofString "thing" then m₁ (Str.ofString "thing") else if y = Str.ofString "is_behind" then m₁ (Str.ofString "is_behind") else if y = Str.ofString "place" then m₁ (Str.ofString "place") else if y = Str.ofString "waiting" then some (.ref wl) else if y = Str.ofString "pieces" then some (.ref pl) else if y = Str.ofString "item" then some (.ref a) else none) (fun y => by
      by_cases h1 : y = Str.ofString "thing"
      · simp [h1]
      · by_cases h2 : y = Str.ofString "is_behind"
        · rw [if_neg h1, if_pos h2, h2]
        · by_cases h3 : y = Str.ofString "place"
          · rw [if_neg h1, if_neg h2, if_pos h3, h3]
          · rw [if_neg h1, if_neg h2, if_neg h3]; exact hmm y h1 h2 h3)
    cases ph with
    | one hq =>
      rename_i q nq
      have N2 : News s.heap L' h ((pl, listOf pvs.toArray np) :: (wl, listOf [Value.ref q].toArray nw) :: (q, tupO [.ref a, .bool false] nq) :: S) := newsSub N₁ fun z hz => by
        simp only [List.mem_cons] at hz ⊢
        rcases hz with h | h | h | h
        · exact .inl h
        · exact .inr (.inl h)
        · exact .inr (.inr (h ▸ hq))
        · exact .inr (.inr h)
      have q1 := neN (so1 _ hq)
      have q2 := neN (so2 _ hq)
      clear N₁
      repeat' (first | walk1 | (dsimp only; walk1))
      (rename IsRange _ _ _ _ _ _ _ _ => hir); (rename Fr _ _ _ _ => F3); (rename News _ _ _ _ => N3)
      rename_i D2 _ l2 _ _ _ _ _ _ _ _ _
      refine Stop.mk ⟨_, _, _, _, _, _, _, ys.length, _, _, (WriJ s D2 pl wl a ys), rfl, hir, ?_, ?_, F3, N3, ?_, ?_, ?_⟩
      · exact small_down (by omega) (by omega) (by omega) (by omega)
      · rw [rangeSize_down]; split <;> omega
      · refine ⟨_, _, _, [], _, rfl, strs_append hps (.cons _ _ .nil), by rw [Nat.sub_zero, List.drop_length]; exact .nil, ?_, ?_, ?_⟩
        · intro z hz; rcases List.mem_cons.mp hz with rfl | hz; exact q1; exact so1 _ hz
        · intro z hz; rcases List.mem_cons.mp hz with rfl | hz; exact q2; exact so2 _ hz
        · intro y hy
          (try dsimp only)
          by_cases h1 : y = Str.ofString "is_behind"
          · rw [if_pos h1, if_pos h1]
          · by_cases h2 : y = Str.ofString "thing"
            · simp only [if_neg h1, if_pos h2]
            · simp only [if_neg h1, if_neg h2, if_neg hy]
      · rintro i m₂ nx h tk t I oI hi hoff ⟨np', nw', pvs', svs, S2, rfl, hps', hst, o1, o2, hm⟩ F₂ N₂
        change Fr _ L' _ _ at F₂; change News _ L' _ _ at N₂
        simp only [List.cons_append] at N₂
        clear F3 N3
        replace F₂ := frCongr F₂ (m' := fun y => if y = Str.ofString "place" then some (.int (((ys.length : Int) - 1) + (i : Int) * (-1)) t) else if y = Str.ofString "is_behind" then some (.bool false) else if y = Str.ofString "thing" then some (.ref a) else if y = Str.ofString "waiting" then some (.ref wl) else if y = Str.ofString "pieces" then some (.ref pl) else if y = Str.ofString "item" then some (.ref a) else none) (fun y => by
          by_cases hy : y = Str.ofString "place"
          · simp [hy]
          · simp only [if_neg hy]; exact hm y hy)
        have i1 : I ≠ wl := hoff _ (.head _) _ (by simp)
        have i2 : I ≠ pl := hoff _ (.head _) _ (by simp)
        have o2' : ∀ q ∈ S2 ++ [(I, oI)], q.1 ≠ wl := fun z hz => (List.mem_append.mp hz).elim (o2 z) fun hz => by rw [List.mem_singleton.mp hz]; exact i1
        have o1' : ∀ q ∈ S2 ++ [(I, oI)], q.1 ≠ pl := fun z hz => (List.mem_append.mp hz).elim (o1 z) fun hz => by rw [List.mem_singleton.mp hz]; exact i2
        have s2' : ∀ q ∈ S2, q ∈ S2 ++ [(I, oI)] := fun z hz => List.mem_append_left _ hz
        have sI : (I, oI) ∈ S2 ++ [(I, oI)] := List.mem_append_right _ (.head _)
        have hsl : svs.length ≤ 10 := by have := stk_len hst; rw [List.length_drop] at this; omega
        generalize S2 ++ [(I, oI)] = S3 at *
        repeat' (first | walk1 | (dsimp only; walk1))
        (rename News _ _ _ _ => N4); (rename Fr _ _ _ _ => F4); (rename ys[_]? = some _ => hy4); (rename IsTup s.heap _ #[_, _] => hb4); (rename Simple _ => hsy4); (rename (D2 < _ ∧ _) => l4)
        have hIn : I < _ := (allLt_mem l4.2.2.2 _ sI)
        rename_i b4 t14 t24 y4 D4 _ _
        refine TurnE.mk ⟨_, _, _, (D2, tupO [.none, .bool false] 0) :: (pl, listOf pvs'.toArray np') :: (wl, listOf (Value.ref D2 :: (Value.ref D4 :: svs).reverse).toArray (nw' + 1)) :: (D4, tupO [.ref b4, .bool (decide (0 < ((ys.length : Int) - 1) + (i : Int) * (-1)))] 0) :: S2, rfl, F4, newsSub N4 ?sb, ?ow, np', nw' + 1, pvs', Value.ref D4 :: svs, _, rfl, hps', stk_push hst hi hy4 hb4 hsy4, ?p1, ?p2, fun y hy => by simp only [if_neg hy]⟩
        case sb =>
          intro z hz
          simp only [List.reverse_cons, List.cons_append, List.mem_cons, List.mem_append, List.not_mem_nil, or_false] at hz ⊢
          rcases hz with h | h | h | h | h | h
          · exact .inr (.inl h)
          · exact .inr (.inr (.inl h))
          · exact .inr (.inr (.inr (.inl h)))
          · exact .inl h
          · exact .inr (.inr (.inr (.inr (s2' _ h))))
          · exact .inr (.inr (.inr (.inr (h ▸ sI))))
        case ow =>
          intro p hp b hb
          have hp' : p = (I, oI) := List.mem_singleton.mp hp
          subst hp'
          simp only [List.map_cons, List.mem_cons] at hb
          rcases hb with h | h | h | h | h
          · exact hoff _ (.head _) _ (by simp [h])
          · exact hoff _ (.head _) _ (by simp [h])
          · exact hoff _ (.head _) _ (by simp [h])
          · rw [h]; exact Nat.ne_of_lt hIn
          · exact hoff _ (.head _) _ (by simp only [List.map_cons, List.mem_cons]; exact .inr (.inr (.inr h)))
        case p1 => intro z hz; rcases List.mem_cons.mp hz with rfl | hz; exact Nat.ne_of_gt l4.2.1; exact o1 _ hz
        case p2 => intro z hz; rcases List.mem_cons.mp hz with rfl | hz; exact Nat.ne_of_gt l4.2.2.1; exact o2 _ hz
      · rintro m₂ nx h tk ⟨np', nw', pvs', svs, S2, rfl, hps', hst, o1, o2, hm⟩ F₂ N₂
        clear F3 N3
        rw [Nat.sub_self, List.drop_zero] at hst
        repeat' (first | walk1 | (dsimp only; walk1))
        refine ⟨h, tk, _, _, ys.length + 1, rfl, F₂, newsSub N₂ ?sb, by omega, pl, wl, pvs', _, np', nw', [Str.ofString "("], (D2, tupO [.none, .bool false] 0) :: S2, rfl, pw, ?p1, ?p2, hps', .two (.head _) (stk_mono (fun q hq => .tail _ hq) hst) rfl, ?m⟩
        case sb =>
          intro z hz
          simp only [List.mem_cons] at hz ⊢
          rcases hz with h | h | h | h
          · exact .inr (.inl h)
          · exact .inr (.inr (.inl h))
          · exact .inl h
          · exact .inr (.inr (.inr h))
        case p1 => intro z hz; rcases List.mem_cons.mp hz with rfl | hz; exact Nat.ne_of_gt l2.1; exact o1 _ hz
        case p2 => intro z hz; rcases List.mem_cons.mp hz with rfl | hz; exact Nat.ne_of_gt l2.2.1; exact o2 _ hz
        case m => intro y h1 h2 h3; rw [hm y h3, if_neg h2, if_neg h1]
    | two he hst hpp =>
      rename_i e ne f vs' rest
      have q1 := neN (so1 _ he)
      have q2 := neN (so2 _ he)
      have hpl : pvs.length ≤ 100 := by
        have e1 := congrArg List.length hpp
        have e2 := toCome_len false ys
        rw [strs_len hps]
        simp only [List.length_append, List.length_cons] at e1
        omega
      have hrl : rest.length ≤ 100 := by
        have e1 := congrArg List.length hpp
        have e2 := toCome_len false ys
        have e3 := toCome_ge f rest
        simp only [List.length_append, List.length_cons] at e1
        omega
      have hvl := stk_len hst
      cases hst with
      | nil =>
        have N2 : News s.heap L' h ((pl, listOf pvs.toArray np) :: (wl, listOf ([] ++ [Value.ref e]).toArray nw) :: (e, tupO [.none, .bool false] ne) :: S) := newsSub N₁ fun z hz => by
          simp only [List.mem_cons, List.reverse_nil, List.nil_append] at hz ⊢
          rcases hz with h | h | h | h
          · exact .inl h
          · exact .inr (.inl h)
          · exact .inr (.inr (h ▸ he))
          · exact .inr (.inr h)
        clear N₁
        repeat' (first | walk1 | (dsimp only; walk1))
        (rename News _ _ _ _ => N4); (rename Fr _ _ _ _ => F4)
        have hps' : ps = Str.ofString "(" :: toCome false ys := by rw [← hpp]; exact (List.append_nil _).symm
        refine ⟨_, _, _, (pl, listOf (pvs ++ [Value.str (Str.ofString ")") _]).toArray _) :: (wl, listOf (List.toArray []) _) :: (e, tupO [.none, .bool false] ne) :: S, 0, rfl, F4, N4, by omega, pl, wl, _, [], _, _, _, _, rfl, pw, ?p1, ?p2, strs_append (by assumption) (.cons _ _ .nil), (by rw [hps']; exact .three), ?m⟩
        case p1 => intro z hz; rcases List.mem_cons.mp hz with rfl | hz; exact q1; exact so1 _ hz
        case p2 => intro z hz; rcases List.mem_cons.mp hz with rfl | hz; exact q2; exact so2 _ hz
        case m => intro y h1 h2 h3; simp only [if_neg h1, if_neg h2, if_neg h3]
      | cons hm hb2 hsy hst2 =>
        rename_i a2 b2 n2 t12 t22 y2 vs2 ys2
        have q3 := neN (so1 _ hm)
        have q4 := neN (so2 _ hm)
        have hpos : 0 < ((Value.ref e :: vs2.reverse) ++ [Value.ref a2]).length := by simp
        simp only [List.length_cons] at hvl hrl
        have nl : NeedLen := ⟨⟩
        have N2 : News s.heap L' h ((pl, listOf pvs.toArray np) :: (wl, listOf ((Value.ref e :: vs2.reverse) ++ [Value.ref a2]).toArray nw) :: (a2, tupO [.ref b2, .bool f] n2) :: S) := newsSub N₁ fun z hz => by
          simp only [List.mem_cons, List.reverse_cons, List.cons_append] at hz ⊢
          rcases hz with h | h | h | h
          · exact .inl h
          · exact .inr (.inl h)
          · exact .inr (.inr (h ▸ hm))
          · exact .inr (.inr h)
        clear N₁
        cases f with
        | false =>
          repeat' (first | walk1 | (dsimp only; walk1))
          (rename News _ _ _ _ => N4); (rename Fr _ _ _ _ => F4)
          refine ⟨_, _, _, (pl, listOf (pvs ++ [Value.str y2 t22]).toArray _) :: (wl, listOf (List.toArray (Value.ref e :: vs2.reverse)) _) :: (a2, tupO [.ref b2, .bool false] n2) :: S, ys2.length + 1, rfl, F4, N4, by simp, pl, wl, _, _, _, _, ps ++ [y2], _, rfl, pw, ?p1, ?p2, strs_append (by assumption) (.cons _ _ .nil), .two (.tail _ he) (stk_mono (fun q hq => .tail _ hq) hst2) (by rw [← hpp]; simp [toCome]), ?m⟩
          case p1 => intro z hz; rcases List.mem_cons.mp hz with rfl | hz; exact q3; exact so1 _ hz
          case p2 => intro z hz; rcases List.mem_cons.mp hz with rfl | hz; exact q4; exact so2 _ hz
          case m => intro y h1 h2 h3; simp only [if_neg h1, if_neg h2, if_neg h3]
        | true =>
          repeat' (first | walk1 | (dsimp only; walk1))
          (rename News _ _ _ _ => N4); (rename Fr _ _ _ _ => F4)
          refine ⟨_, _, _, (pl, listOf (pvs ++ [Value.str (Str.ofString " ") _] ++ [Value.str y2 t22]).toArray _) :: (wl, listOf (List.toArray (Value.ref e :: vs2.reverse)) _) :: (a2, tupO [.ref b2, .bool true] n2) :: S, ys2.length + 1, rfl, F4, N4, by simp, pl, wl, _, _, _, _, ps ++ [Str.ofString " "] ++ [y2], _, rfl, pw, ?p1, ?p2, strs_append (strs_append (by assumption) (.cons _ _ .nil)) (.cons _ _ .nil), .two (.tail _ he) (stk_mono (fun q hq => .tail _ hq) hst2) (by rw [← hpp]; simp [toCome]), ?m⟩
          case p1 => intro z hz; rcases List.mem_cons.mp hz with rfl | hz; exact q3; exact so1 _ hz
          case p2 => intro z hz; rcases List.mem_cons.mp hz with rfl | hz; exact q4; exact so2 _ hz
          case m => intro y h1 h2 h3; simp only [if_neg h1, if_neg h2, if_neg h3]
    | three =>
      have hw : ((((Str.ofString "(" :: toCome false ys) ++ [Str.ofString ")"])).map (·.length)).sum + ((Str.ofString "(" :: toCome false ys) ++ [Str.ofString ")"]).length ≤ 1048576 := by
        have e1 : ∀ y ∈ (Str.ofString "(" :: toCome false ys) ++ [Str.ofString ")"], y.length ≤ 3 := fun y hy => by
          rcases List.mem_append.mp hy with hy | hy
          · rcases List.mem_cons.mp hy with rfl | hy
            · decide
            · rcases toCome_mem hy with rfl | hy
              · decide
              · exact (syms_all hs y hy).size
          · rw [List.mem_singleton.mp hy]; decide
        have e2 := sum_le e1
        have e3 := toCome_len false ys
        have e4 : ((Str.ofString "(" :: toCome false ys) ++ [Str.ofString ")"]).length = (toCome false ys).length + 2 := by simp
        omega
      repeat' (first | walk1 | (dsimp only; walk1))
      rw [core_text]
      (rename Fr _ _ _ _ => F4)
      exact k _ _ _ (left hg F4)
end
section
theorem lacks_nil {lot row : List Str} : lacks lot row = [] ↔ ∀ k ∈ row, k ∈ lot := by
  unfold lacks
  rw [List.filter_eq_nil_iff]
  constructor
  · intro h k hk
    have := h k hk
    simp only [Bool.not_eq_true', Bool.not_eq_false', List.any_eq_true, beq_iff_eq] at this
    by_cases q : k ∈ lot
    · exact q
    · exfalso
      refine this ?_
      rw [List.any_eq_false]
      intro x hx e
      exact q (beq_iff_eq.mp e ▸ hx)
  · intro h k hk
    simp only [Bool.not_eq_true', Bool.not_eq_false]
    exact List.any_eq_true.mpr ⟨k, h k hk, by simp⟩
theorem enough_iff {rows : List (List Str)} {lot : List Str} : enough rows lot = true ↔ ∃ row ∈ rows, ∀ k ∈ row, k ∈ lot := by
  unfold enough
  rw [List.any_eq_true]
  constructor
  · rintro ⟨r, hr, h⟩; exact ⟨r, hr, lacks_nil.mp (of_decide_eq_true h)⟩
  · rintro ⟨r, hr, h⟩; exact ⟨r, hr, decide_eq_true (lacks_nil.mpr h)⟩
theorem enough_mono {rows : List (List Str)} {a b : List Str} (s : ∀ x ∈ a, x ∈ b) (h : enough rows a = true) : enough rows b = true := by
  obtain ⟨r, hr, k⟩ := enough_iff.mp h
  exact enough_iff.mpr ⟨r, hr, fun x hx => s x (k x hx)⟩
theorem enough_anti {rows : List (List Str)} {a b : List Str} (s : ∀ x ∈ a, x ∈ b) (h : enough rows b = false) : enough rows a = false := by
  cases e : enough rows a with
  | false => rfl
  | true => rw [enough_mono s e] at h; cases h
theorem enough_same {rows : List (List Str)} {a b : List Str} (s : ∀ x, x ∈ a ↔ x ∈ b) : enough rows a = enough rows b := by
  cases e : enough rows b with
  | true => exact enough_mono (fun x hx => (s x).mpr hx) e
  | false => exact enough_anti (fun x hx => (s x).mp hx) e

theorem stays_high {rows : List (List Str)} {base f s : List Str} : ∀ (j : Nat) (late : List Str), j ≤ s.length → stays rows base (f ++ s) (f.length + j) late = stays rows base (f ++ s) f.length (stays rows (base ++ f) s j late)
  | 0, late, _ => rfl
  | j + 1, late, h => by
    show stays rows base (f ++ s) ((f.length + j) + 1) late = _
    rw [stays, stays]
    have e1 : (f ++ s).take (f.length + j) = f ++ s.take j := by rw [List.take_append, List.take_of_length_le (by omega), show f.length + j - f.length = j by omega]
    have e2 : (f ++ s)[f.length + j]? = s[j]? := by rw [List.getElem?_append_right (by omega), show f.length + j - f.length = j by omega]
    rw [e1, e2, ← stays_high j _ (by omega), List.append_assoc, List.append_assoc, List.append_assoc]
    simp only [List.append_assoc]
theorem stays_low {rows : List (List Str)} {base f s late : List Str} : ∀ (j : Nat) (e : List Str), j ≤ f.length → stays rows base (f ++ s) j (e ++ late) = stays rows (base ++ late) f j e ++ late
  | 0, e, _ => rfl
  | j + 1, e, h => by
    rw [stays, stays]
    have e1 : (f ++ s).take j = f.take j := by rw [List.take_append_of_le_length (by omega)]
    have e2 : (f ++ s)[j]? = f[j]? := by rw [List.getElem?_append_left (by omega)]
    have e3 : enough rows (base ++ f.take j ++ (e ++ late)) = enough rows (base ++ late ++ f.take j ++ e) := enough_same fun x => by
      simp only [List.mem_append]
      constructor
      · rintro ((h | h) | h | h) <;> simp [h]
      · rintro (((h | h) | h) | h) <;> simp [h]
    rw [e1, e2, e3, ← stays_low j _ (by omega)]
    congr 1
    split <;> simp
theorem stays_split {rows : List (List Str)} {base f s : List Str} : stays rows base (f ++ s) (f ++ s).length [] = stays rows (base ++ stays rows (base ++ f) s s.length []) f f.length [] ++ stays rows (base ++ f) s s.length [] := by
  rw [List.length_append, stays_high s.length [] (Nat.le_refl _)]
  have := stays_low (rows := rows) (base := base) (f := f) (s := s) (late := stays rows (base ++ f) s s.length []) f.length [] (Nat.le_refl _)
  simpa using this
theorem stays_none {rows : List (List Str)} {base keys : List Str} (h : enough rows base = true) : ∀ k, stays rows base keys k [] = []
  | 0 => rfl
  | k + 1 => by
    rw [stays, if_pos (enough_mono (fun x hx => by simp [hx]) h)]
    exact stays_none h k

theorem ansOf_nil {rows : List (List Str)} {lot : List Str} : ansOf rows [] lot = if enough rows lot then Str.ofString "unsat" else Str.ofString "sat" := by
  unfold ansOf; rw [if_neg (by simp)]
theorem ansOf_unsat {rows : List (List Str)} {dull : List Int} {lot : List Str} (h : ansOf rows dull lot = Str.ofString "unsat") : enough rows lot = true := by
  unfold ansOf at h
  split at h
  · exact absurd h (by decide)
  · split at h
    · assumption
    · exact absurd h (by decide)
theorem askOnce_enough {rows : List (List Str)} {dull : List Int} {most : Nat} {st : HSt} {keys : List Str} (h : (askOnce rows dull most st keys).1 = true) : enough rows keys = true := by
  unfold askOnce at h
  split at h
  · cases h
  · split at h
    · rename_i e; exact ansOf_unsat e
    · split at h <;> cases h
theorem askOnce_nil {rows : List (List Str)} {most : Nat} {st : HSt} {keys : List Str} (h : st.asked < most) : askOnce rows [] most st keys = (enough rows keys, ⟨st.asked + 1, st.sure, st.heard ++ [keys]⟩) := by
  unfold askOnce
  rw [if_neg (by omega), ansOf_nil]
  cases enough rows keys with
  | true => rw [if_pos rfl, if_pos rfl]
  | false => rw [if_neg Bool.false_ne_true, if_neg (by decide), if_pos rfl]

theorem halves_zero {rows : List (List Str)} {dull : List Int} {most : Nat} {base keys : List Str} {new : Bool} {st : HSt} : halves rows dull most 0 base keys new st = (keys, st) := rfl
theorem halves_succ {rows : List (List Str)} {dull : List Int} {most f : Nat} {base keys : List Str} {new : Bool} {st : HSt} : halves rows dull most (f + 1) base keys new st =
    (let q := if new then askOnce rows dull most st base else (false, st)
    if q.1 then ([], q.2)
    else if keys.length < 2 then (keys, q.2)
    else
      let a := halves rows dull most f (base ++ keys.take (keys.length / 2)) (keys.drop (keys.length / 2)) true q.2
      let b := halves rows dull most f (base ++ a.1) (keys.take (keys.length / 2)) (!decide (a.1 = [])) a.2
      (b.1 ++ a.1, b.2)) := rfl

/-- what one call does, by cases -/
inductive HCase (rows : List (List Str)) (dull : List Int) (most f : Nat) (base keys : List Str) (q : Bool × HSt) : List Str × HSt → Prop
  | one : q.1 = true → HCase rows dull most f base keys q ([], q.2)
  | two : q.1 = false → keys.length < 2 → HCase rows dull most f base keys q (keys, q.2)
  | three (first second : List Str) (a b : List Str × HSt) : q.1 = false → keys = first ++ second → 1 ≤ first.length → 1 ≤ second.length → first = keys.take (keys.length / 2) → second = keys.drop (keys.length / 2) →
      a = halves rows dull most f (base ++ first) second true q.2 → b = halves rows dull most f (base ++ a.1) first (!decide (a.1 = [])) a.2 → HCase rows dull most f base keys q (b.1 ++ a.1, b.2)
theorem halves_case {rows : List (List Str)} {dull : List Int} {most f : Nat} {base keys : List Str} {new : Bool} {st : HSt} {q : Bool × HSt} (hq : q = if new then askOnce rows dull most st base else (false, st)) :
    HCase rows dull most f base keys q (halves rows dull most (f + 1) base keys new st) := by
  rw [halves_succ]
  dsimp only
  rw [← hq]
  cases h1 : q.1 with
  | true => rw [if_pos rfl]; exact .one h1
  | false =>
    rw [if_neg Bool.false_ne_true]
    by_cases h2 : keys.length < 2
    · rw [if_pos h2]; exact .two h1 h2
    · rw [if_neg h2]
      refine .three (keys.take (keys.length / 2)) (keys.drop (keys.length / 2)) _ _ h1 (List.take_append_drop _ _).symm ?_ ?_ rfl rfl rfl rfl
      · rw [List.length_take]; omega
      · rw [List.length_drop]; omega

theorem askOnce_asked {rows : List (List Str)} {dull : List Int} {most : Nat} {st : HSt} {keys : List Str} : st.asked ≤ (askOnce rows dull most st keys).2.asked ∧ (askOnce rows dull most st keys).2.asked ≤ st.asked + 1 := by
  unfold askOnce
  repeat' split
  all_goals (dsimp only; omega)
theorem askOnce_sure {rows : List (List Str)} {dull : List Int} {most : Nat} {st : HSt} {keys : List Str} (h : st.sure = false) : (askOnce rows dull most st keys).2.sure = false := by
  unfold askOnce
  repeat' split
  all_goals first | rfl | exact h

theorem halves_asked {rows : List (List Str)} {dull : List Int} {most : Nat} : ∀ (f : Nat) (base keys : List Str) (new : Bool) (st : HSt), (halves rows dull most f base keys new st).2.asked ≤ st.asked + (if new then 1 else 0) + (2 * keys.length - 2)
  | 0, base, keys, new, st => by rw [halves_zero]; dsimp only; omega
  | f + 1, base, keys, new, st => by
    have hq : (if new then askOnce rows dull most st base else (false, st)).2.asked ≤ st.asked + (if new then 1 else 0) := by
      split
      · exact askOnce_asked.2
      · exact Nat.le_refl _
    have hc := halves_case (rows := rows) (dull := dull) (most := most) (f := f) (base := base) (keys := keys) (new := new) (st := st) rfl
    generalize (if new then askOnce rows dull most st base else (false, st)) = q at *
    generalize halves rows dull most (f + 1) base keys new st = z at *
    cases hc with
    | one => dsimp only; omega
    | two => dsimp only; omega
    | three first second a b h1 hk l1 l2 hf hs ha hb =>
      have A := halves_asked (rows := rows) (dull := dull) (most := most) f (base ++ first) second true q.2
      have B := halves_asked (rows := rows) (dull := dull) (most := most) f (base ++ a.1) first (!decide (a.1 = [])) a.2
      rw [← ha] at A
      rw [← hb] at B
      have e : keys.length = first.length + second.length := by rw [hk, List.length_append]
      dsimp only
      rw [if_pos rfl] at A
      split at B <;> omega
theorem halves_more {rows : List (List Str)} {dull : List Int} {most : Nat} : ∀ (f : Nat) (base keys : List Str) (new : Bool) (st : HSt), st.asked ≤ (halves rows dull most f base keys new st).2.asked ∧ (st.sure = false → (halves rows dull most f base keys new st).2.sure = false)
  | 0, base, keys, new, st => ⟨Nat.le_refl _, id⟩
  | f + 1, base, keys, new, st => by
    have hq : st.asked ≤ (if new then askOnce rows dull most st base else (false, st)).2.asked ∧ (st.sure = false → (if new then askOnce rows dull most st base else (false, st)).2.sure = false) := by
      split
      · exact ⟨askOnce_asked.1, askOnce_sure⟩
      · exact ⟨Nat.le_refl _, id⟩
    have hc := halves_case (rows := rows) (dull := dull) (most := most) (f := f) (base := base) (keys := keys) (new := new) (st := st) rfl
    generalize (if new then askOnce rows dull most st base else (false, st)) = q at *
    generalize halves rows dull most (f + 1) base keys new st = z at *
    cases hc with
    | one => exact hq
    | two => exact hq
    | three first second a b h1 hk l1 l2 hf hs ha hb =>
      have A := halves_more (rows := rows) (dull := dull) (most := most) f (base ++ first) second true q.2
      have B := halves_more (rows := rows) (dull := dull) (most := most) f (base ++ a.1) first (!decide (a.1 = [])) a.2
      rw [← ha] at A
      rw [← hb] at B
      exact ⟨Nat.le_trans hq.1 (Nat.le_trans A.1 B.1), fun h => B.2 (A.2 (hq.2 h))⟩

theorem halves_stays {rows : List (List Str)} {most : Nat} : ∀ (f : Nat) (base keys : List Str) (new : Bool) (st : HSt), keys.length ≤ f → 1 ≤ f → st.asked + 2 * keys.length + 1 ≤ most → (new = true ∨ enough rows base = false) →
    (halves rows [] most f base keys new st).1 = stays rows base keys keys.length []
  | 0, base, keys, new, st, _, h, _, _ => absurd h (by decide)
  | f + 1, base, keys, new, st, hf, _, hm, hn => by
    have hqa : (if new then askOnce rows [] most st base else (false, st)).2.asked ≤ st.asked + 1 := by
      split
      · exact askOnce_asked.2
      · exact Nat.le_succ _
    have hq1 : (if new then askOnce rows [] most st base else (false, st)).1 = enough rows base := by
      cases new with
      | true => rw [if_pos rfl, askOnce_nil (by omega)]
      | false => rw [if_neg Bool.false_ne_true]; rcases hn with h | h; cases h; exact h.symm
    have hc := halves_case (rows := rows) (dull := []) (most := most) (f := f) (base := base) (keys := keys) (new := new) (st := st) rfl
    generalize (if new then askOnce rows [] most st base else (false, st)) = q at *
    generalize halves rows [] most (f + 1) base keys new st = z at *
    cases hc with
    | one h => rw [hq1] at h; exact (stays_none h _).symm
    | two h hl =>
      rw [hq1] at h
      match keys, hl with
      | [], _ => rfl
      | [k], _ =>
        show [k] = stays rows base [k] 0 (if enough rows (base ++ [] ++ []) then [] else [k] ++ [])
        rw [List.append_nil, List.append_nil, h]; rfl
    | three first second a b h1 hk l1 l2 hf' hs ha hb =>
      rw [hq1] at h1
      have e : keys.length = first.length + second.length := by rw [hk, List.length_append]
      have hask := halves_asked (rows := rows) (dull := []) (most := most) f (base ++ first) second true q.2
      rw [← ha, if_pos rfl] at hask
      have A := halves_stays (rows := rows) (most := most) f (base ++ first) second true q.2 (by omega) (by omega) (by omega) (.inl rfl)
      rw [← ha] at A
      have B := halves_stays (rows := rows) (most := most) f (base ++ a.1) first (!decide (a.1 = [])) a.2 (by omega) (by omega) (by omega) (by
        by_cases q : a.1 = []
        · right; rw [q, List.append_nil]; exact h1
        · left; simp [q])
      rw [← hb] at B
      rw [hk, stays_split]
      show b.1 ++ a.1 = _
      rw [B, A]

theorem halves_sub {rows : List (List Str)} {dull : List Int} {most : Nat} : ∀ (f : Nat) (base keys : List Str) (new : Bool) (st : HSt), (halves rows dull most f base keys new st).1.Sublist keys
  | 0, base, keys, new, st => List.Sublist.refl _
  | f + 1, base, keys, new, st => by
    have hc := halves_case (rows := rows) (dull := dull) (most := most) (f := f) (base := base) (keys := keys) (new := new) (st := st) rfl
    generalize (if new then askOnce rows dull most st base else (false, st)) = q at *
    generalize halves rows dull most (f + 1) base keys new st = z at *
    cases hc with
    | one => exact List.nil_sublist _
    | two => exact List.Sublist.refl _
    | three first second a b h1 hk l1 l2 hf hs ha hb =>
      rw [hk]
      refine List.Sublist.append ?_ ?_
      · rw [hb]; exact halves_sub f _ _ _ _
      · rw [ha]; exact halves_sub f _ _ _ _
theorem sub_part : ∀ {keys r : List Str}, keys.Nodup → r.Sublist keys → r = keys.filter (fun y => r.any (· == y))
  | [], r, _, h => by rw [List.sublist_nil.mp h]; rfl
  | k :: ks, r, hn, h => by
    obtain ⟨h1, h2⟩ := List.nodup_cons.mp hn
    cases h with
    | cons _ h =>
      have hk : (r.any (· == k)) = false := by
        rw [List.any_eq_false]; intro x hx e
        exact h1 (beq_iff_eq.mp e ▸ h.subset hx)
      rw [List.filter_cons, hk, if_neg Bool.false_ne_true]
      exact sub_part h2 h
    | cons_cons _ h =>
      rename_i r
      rw [List.filter_cons, if_pos (by simp)]
      congr 1
      have ih := sub_part h2 h
      rw [ih]
      apply List.filter_congr
      intro y hy
      rw [← ih, List.any_cons]
      have : (k == y) = false := by
        rw [beq_eq_false_iff_ne]; rintro rfl; exact h1 hy
      rw [this, Bool.false_or]

theorem halves_enough {rows : List (List Str)} {dull : List Int} {most : Nat} : ∀ (f : Nat) (base keys : List Str) (new : Bool) (st : HSt), enough rows (base ++ keys) = true → enough rows (base ++ (halves rows dull most f base keys new st).1) = true
  | 0, base, keys, new, st, h => h
  | f + 1, base, keys, new, st, h => by
    have hq : (if new then askOnce rows dull most st base else (false, st)).1 = true → enough rows base = true := by
      split
      · exact askOnce_enough
      · intro h; cases h
    have hc := halves_case (rows := rows) (dull := dull) (most := most) (f := f) (base := base) (keys := keys) (new := new) (st := st) rfl
    generalize (if new then askOnce rows dull most st base else (false, st)) = q at *
    generalize halves rows dull most (f + 1) base keys new st = z at *
    cases hc with
    | one h1 => rw [List.append_nil]; exact hq h1
    | two => exact h
    | three first second a b h1 hk l1 l2 hf hs ha hb =>
      have A := halves_enough (rows := rows) (dull := dull) (most := most) f (base ++ first) second true q.2 (by rw [List.append_assoc, ← hk]; exact h)
      rw [← ha] at A
      have B := halves_enough (rows := rows) (dull := dull) (most := most) f (base ++ a.1) first (!decide (a.1 = [])) a.2 (enough_mono (fun x hx => by
        simp only [List.mem_append] at hx ⊢
        rcases hx with (h | h) | h <;> simp [h]) A)
      rw [← hb] at B
      exact enough_mono (fun x hx => by
        simp only [List.mem_append] at hx ⊢
        rcases hx with (h | h) | h <;> simp [h]) B

theorem askOnce_heard {rows : List (List Str)} {dull : List Int} {most : Nat} {st : HSt} {keys : List Str} : (askOnce rows dull most st keys).2.heard = st.heard ∨ (askOnce rows dull most st keys).2.heard = st.heard ++ [keys] := by
  unfold askOnce
  repeat' split
  all_goals first | exact .inl rfl | exact .inr rfl
/-- each new lot -/
noncomputable def LotOk (base keys lot : List Str) : Prop := ∃ t, lot = base ++ t ∧ (∀ x ∈ t, x ∈ keys) ∧ t.length ≤ keys.length ∧ (keys.Nodup → t.Nodup)
theorem halves_heard {rows : List (List Str)} {dull : List Int} {most : Nat} : ∀ (f : Nat) (base keys : List Str) (new : Bool) (st : HSt), ∃ lots, (halves rows dull most f base keys new st).2.heard = st.heard ++ lots ∧ ∀ lot ∈ lots, LotOk base keys lot
  | 0, base, keys, new, st => ⟨[], by rw [List.append_nil]; rfl, fun _ h => nomatch h⟩
  | f + 1, base, keys, new, st => by
    have hq : ∃ lots, (if new then askOnce rows dull most st base else (false, st)).2.heard = st.heard ++ lots ∧ ∀ lot ∈ lots, LotOk base keys lot := by
      split
      · rcases askOnce_heard (rows := rows) (dull := dull) (most := most) (st := st) (keys := base) with h | h
        · exact ⟨[], by rw [h, List.append_nil], fun _ h => nomatch h⟩
        · exact ⟨[base], h, fun lot hl => by rw [List.mem_singleton.mp hl]; exact ⟨[], (List.append_nil _).symm, (fun _ h => nomatch h), Nat.zero_le _, fun _ => List.nodup_nil⟩⟩
      · exact ⟨[], by rw [List.append_nil], fun _ h => nomatch h⟩
    have hc := halves_case (rows := rows) (dull := dull) (most := most) (f := f) (base := base) (keys := keys) (new := new) (st := st) rfl
    generalize (if new then askOnce rows dull most st base else (false, st)) = q at *
    generalize halves rows dull most (f + 1) base keys new st = z at *
    cases hc with
    | one => exact hq
    | two => exact hq
    | three first second a b h1 hk l1 l2 hf hs ha hb =>
      obtain ⟨ls, e0, k0⟩ := hq
      obtain ⟨la, e1, k1⟩ := halves_heard (rows := rows) (dull := dull) (most := most) f (base ++ first) second true q.2
      obtain ⟨lb, e2, k2⟩ := halves_heard (rows := rows) (dull := dull) (most := most) f (base ++ a.1) first (!decide (a.1 = [])) a.2
      have sa := halves_sub (rows := rows) (dull := dull) (most := most) f (base ++ first) second true q.2
      rw [← ha] at e1 sa
      rw [← hb] at e2
      refine ⟨ls ++ la ++ lb, ?_, fun lot hl => ?_⟩
      · show b.2.heard = _
        rw [e2, e1, e0]; simp only [List.append_assoc]
      · rcases List.mem_append.mp hl with hl | hl
        · rcases List.mem_append.mp hl with hl | hl
          · exact k0 _ hl
          · obtain ⟨t, rfl, t1, t2, t3⟩ := k1 _ hl
            refine ⟨first ++ t, (List.append_assoc _ _ _), fun x hx => ?_, ?_, fun hn => ?_⟩
            · rw [hk]; rcases List.mem_append.mp hx with hx | hx
              · exact List.mem_append_left _ hx
              · exact List.mem_append_right _ (t1 x hx)
            · rw [hk, List.length_append, List.length_append]; omega
            · rw [hk] at hn
              obtain ⟨n1, n2, n3⟩ := List.nodup_append.mp hn
              exact List.nodup_append.mpr ⟨n1, t3 n2, fun x hx y hy => n3 x hx y (t1 y hy)⟩
        · obtain ⟨t, rfl, t1, t2, t3⟩ := k2 _ hl
          refine ⟨a.1 ++ t, (List.append_assoc _ _ _), fun x hx => ?_, ?_, fun hn => ?_⟩
          · rw [hk]; rcases List.mem_append.mp hx with hx | hx
            · exact List.mem_append_right _ (sa.subset hx)
            · exact List.mem_append_left _ (t1 x hx)
          · have := sa.length_le
            rw [hk, List.length_append, List.length_append]; omega
          · rw [hk] at hn
            obtain ⟨n1, n2, n3⟩ := List.nodup_append.mp hn
            exact List.nodup_append.mpr ⟨sa.nodup n2, t3 n1, fun x hx y hy e => n3 y (t1 y hy) x (sa.subset hx) e.symm⟩

/-- a Shrinker is sure just where no question was answered unknown -/
noncomputable def SureIs (dull : List Int) (st : HSt) : Prop := st.sure = decide (st.heard.filter (told dull) = [])
theorem askOnce_told {rows : List (List Str)} {dull : List Int} {most : Nat} {st : HSt} {keys : List Str} (h : st.asked < most) (hs : SureIs dull st) : SureIs dull (askOnce rows dull most st keys).2 := by
  unfold SureIs at hs ⊢
  unfold askOnce
  rw [if_neg (by omega)]
  unfold ansOf
  by_cases ht : told dull keys = true
  · have ht' := ht
    unfold told at ht'
    simp only [if_pos ht']
    rw [if_neg (by decide), if_neg (by decide)]
    dsimp only
    rw [List.filter_append, List.filter_cons, if_pos ht]
    simp
  · have ht' := ht
    unfold told at ht'
    simp only [if_neg ht']
    have e : (st.heard ++ [keys]).filter (told dull) = st.heard.filter (told dull) := by
      rw [List.filter_append, List.filter_cons, if_neg ht, List.filter_nil, List.append_nil]
    cases enough rows keys with
    | true => rw [if_pos rfl, if_pos rfl]; dsimp only; rw [e]; exact hs
    | false => rw [if_neg Bool.false_ne_true, if_neg (by decide), if_pos rfl]; dsimp only; rw [e]; exact hs
theorem halves_told {rows : List (List Str)} {dull : List Int} {most : Nat} : ∀ (f : Nat) (base keys : List Str) (new : Bool) (st : HSt), st.asked + 2 * keys.length + 1 ≤ most → SureIs dull st → SureIs dull (halves rows dull most f base keys new st).2
  | 0, base, keys, new, st, _, h => h
  | f + 1, base, keys, new, st, hm, h => by
    have hqa : (if new then askOnce rows dull most st base else (false, st)).2.asked ≤ st.asked + 1 := by
      split
      · exact askOnce_asked.2
      · exact Nat.le_succ _
    have hq : SureIs dull (if new then askOnce rows dull most st base else (false, st)).2 := by
      split
      · exact askOnce_told (by omega) h
      · exact h
    have hc := halves_case (rows := rows) (dull := dull) (most := most) (f := f) (base := base) (keys := keys) (new := new) (st := st) rfl
    generalize (if new then askOnce rows dull most st base else (false, st)) = q at *
    generalize halves rows dull most (f + 1) base keys new st = z at *
    cases hc with
    | one => exact hq
    | two => exact hq
    | three first second a b h1 hk l1 l2 hf hs ha hb =>
      have e : keys.length = first.length + second.length := by rw [hk, List.length_append]
      have hask := halves_asked (rows := rows) (dull := dull) (most := most) f (base ++ first) second true q.2
      rw [← ha, if_pos rfl] at hask
      have A := halves_told (rows := rows) (dull := dull) (most := most) f (base ++ first) second true q.2 (by omega) hq
      rw [← ha] at A
      have B := halves_told (rows := rows) (dull := dull) (most := most) f (base ++ a.1) first (!decide (a.1 = [])) a.2 (by omega) A
      rw [← hb] at B
      exact B

/-- few questions -/
noncomputable def Limit (most : Nat) (u l : List Str × HSt) : Prop := (u.2.asked ≤ most → l = u) ∧ (most < u.2.asked → l.2.sure = false)
theorem askOnce_limit {rows : List (List Str)} {dull : List Int} {M most : Nat} {st : HSt} {keys : List Str} (hM : most ≤ M) (h : st.asked ≤ most) :
    ((askOnce rows dull M st keys).2.asked ≤ most → askOnce rows dull most st keys = askOnce rows dull M st keys) ∧ (most < (askOnce rows dull M st keys).2.asked → (askOnce rows dull most st keys).2.sure = false) := by
  by_cases h1 : st.asked < most
  · have e : askOnce rows dull most st keys = askOnce rows dull M st keys := by
      unfold askOnce; rw [if_neg (show ¬ st.asked ≥ most by omega), if_neg (show ¬ st.asked ≥ M by omega)]
    refine ⟨fun _ => e, fun h2 => ?_⟩
    have := (askOnce_asked (rows := rows) (dull := dull) (most := M) (st := st) (keys := keys)).2
    omega
  · have e : askOnce rows dull most st keys = (false, { st with sure := false }) := by
      unfold askOnce; rw [if_pos (by omega)]
    refine ⟨fun h2 => ?_, fun _ => by rw [e]⟩
    by_cases hM' : st.asked ≥ M
    · rw [e]; unfold askOnce; rw [if_pos hM']
    · exfalso
      have : (askOnce rows dull M st keys).2.asked = st.asked + 1 := by
        unfold askOnce; rw [if_neg hM']; repeat' split
        all_goals rfl
      omega
theorem halves_limit {rows : List (List Str)} {dull : List Int} {M most : Nat} (hM : most ≤ M) : ∀ (f : Nat) (base keys : List Str) (new : Bool) (st : HSt), st.asked ≤ most → Limit most (halves rows dull M f base keys new st) (halves rows dull most f base keys new st)
  | 0, base, keys, new, st, h => ⟨fun _ => rfl, fun h2 => absurd h2 (Nat.not_lt.mpr h)⟩
  | f + 1, base, keys, new, st, h => by
    have hq : ((if new then askOnce rows dull M st base else (false, st)).2.asked ≤ most → (if new then askOnce rows dull most st base else (false, st)) = (if new then askOnce rows dull M st base else (false, st))) ∧
        (most < (if new then askOnce rows dull M st base else (false, st)).2.asked → (if new then askOnce rows dull most st base else (false, st)).2.sure = false) := by
      split
      · exact askOnce_limit hM h
      · exact ⟨fun _ => rfl, fun h2 => absurd h2 (Nat.not_lt.mpr h)⟩
    have hu := halves_case (rows := rows) (dull := dull) (most := M) (f := f) (base := base) (keys := keys) (new := new) (st := st) rfl
    have hl := halves_case (rows := rows) (dull := dull) (most := most) (f := f) (base := base) (keys := keys) (new := new) (st := st) rfl
    generalize (if new then askOnce rows dull M st base else (false, st)) = qu at *
    generalize (if new then askOnce rows dull most st base else (false, st)) = ql at *
    generalize halves rows dull M (f + 1) base keys new st = zu at *
    generalize halves rows dull most (f + 1) base keys new st = zl at *
    by_cases hqq : qu.2.asked ≤ most
    · have e := hq.1 hqq
      subst e
      cases hu with
      | one h1 =>
        cases hl with
        | one _ => exact ⟨fun _ => rfl, fun h2 => absurd h2 (Nat.not_lt.mpr hqq)⟩
        | two h2 _ => rw [h1] at h2; cases h2
        | three _ _ _ _ h2 => rw [h1] at h2; cases h2
      | two h1 h3 =>
        cases hl with
        | one h2 => rw [h1] at h2; cases h2
        | two _ _ => exact ⟨fun _ => rfl, fun h2 => absurd h2 (Nat.not_lt.mpr hqq)⟩
        | three _ _ _ _ _ hk l1 l2 => rw [hk, List.length_append] at h3; omega
      | three first second a b h1 hk l1 l2 hf hs ha hb =>
        cases hl with
        | one h2 => rw [h1] at h2; cases h2
        | two _ h3 => rw [hk, List.length_append] at h3; omega
        | three first' second' a' b' _ _ _ _ hf' hs' ha' hb' =>
          have e1 : first' = first := hf'.trans hf.symm
          have e2 : second' = second := hs'.trans hs.symm
          subst e1 e2
          have A := halves_limit (rows := rows) (dull := dull) hM f (base ++ first') second' true ql.2 hqq
          rw [← ha, ← ha'] at A
          have mb := halves_more (rows := rows) (dull := dull) (most := M) f (base ++ a.1) first' (!decide (a.1 = [])) a.2
          have mb' := halves_more (rows := rows) (dull := dull) (most := most) f (base ++ a'.1) first' (!decide (a'.1 = [])) a'.2
          rw [← hb] at mb
          rw [← hb'] at mb'
          by_cases haa : a.2.asked ≤ most
          · have e := A.1 haa
            subst e
            have B := halves_limit (rows := rows) (dull := dull) hM f (base ++ a'.1) first' (!decide (a'.1 = [])) a'.2 haa
            rw [← hb, ← hb'] at B
            exact ⟨fun h2 => by rw [B.1 h2], B.2⟩
          · refine ⟨fun h2 => ?_, fun _ => mb'.2 (A.2 (by omega))⟩
            dsimp only at h2
            exact absurd (Nat.le_trans mb.1 h2) haa
    · have hs := hq.2 (by omega)
      have hu2 : qu.2.asked ≤ zu.2.asked := by
        cases hu with
        | one => exact Nat.le_refl _
        | two => exact Nat.le_refl _
        | three first second a b h1 hk l1 l2 hf hs ha hb =>
          have ma := halves_more (rows := rows) (dull := dull) (most := M) f (base ++ first) second true qu.2
          have mb := halves_more (rows := rows) (dull := dull) (most := M) f (base ++ a.1) first (!decide (a.1 = [])) a.2
          rw [← ha] at ma
          rw [← hb] at mb
          exact Nat.le_trans ma.1 mb.1
      refine ⟨fun h2 => absurd (Nat.le_trans hu2 h2) hqq, fun _ => ?_⟩
      cases hl with
      | one => exact hs
      | two => exact hs
      | three first second a b h1 hk l1 l2 hf hs' ha hb =>
        have ma := halves_more (rows := rows) (dull := dull) (most := most) f (base ++ first) second true ql.2
        have mb := halves_more (rows := rows) (dull := dull) (most := most) f (base ++ a.1) first (!decide (a.1 = [])) a.2
        rw [← ha] at ma
        rw [← hb] at mb
        exact mb.2 (ma.2 hs)
end
section
local macro_rules | `(tactic| walk_at "my_p") => `(tactic| skip)
noncomputable abbrev st0 : HSt := ⟨0, true, []⟩
theorem sure0 (dull : List Int) : SureIs dull st0 := rfl
theorem told_nil (xs : List Str) : told [] xs = false := rfl
theorem sureIs_nil {st : HSt} (h : SureIs [] st) : st.sure = true := by
  rw [h, List.filter_eq_nil_iff.mpr (fun a _ => by rw [told_nil]; decide)]; rfl

/-- what the law asks of the first run -/
structure MainOk (rows : List (List Str)) (base keys : List Str) (new : Bool) (z : List Str × HSt) : Prop where
  due : z.1 = stays rows base keys keys.length []
  sure : z.2.sure = true
  asked : z.2.heard.length = z.2.asked
  few : z.2.asked ≤ max 1 (2 * keys.length - 1)
  few' : new = false → z.2.asked ≤ 2 * keys.length - 2
  lots : ∀ lot ∈ z.2.heard, LotOk base keys lot
theorem main_ok {rows : List (List Str)} {base keys : List Str} {new : Bool} (hk : keys.length ≤ 8) (hn : new = true ∨ enough rows base = false) : MainOk rows base keys new (halves rows [] 1000 9 base keys new st0) := by
  have hc := halves_asked (rows := rows) (dull := []) (most := 1000) 9 base keys new st0
  have ho := halves_ok (rows := rows) (dull := []) (most := 1000) 9 base keys new st0 ⟨rfl, Nat.zero_le _⟩
  refine ⟨halves_stays 9 _ _ _ _ (by omega) (by decide) (by show 0 + _ + 1 ≤ _; omega) hn, sureIs_nil (halves_told 9 _ _ _ _ (by show 0 + _ + 1 ≤ _; omega) (sure0 _)), ho.1, ?_, ?_, ?_⟩
  · have : (if new = true then 1 else 0) ≤ 1 := by split <;> omega
    change _ ≤ 0 + _ + _ at hc
    omega
  · rintro rfl
    change _ ≤ 0 + 0 + _ at hc
    omega
  · obtain ⟨lots, e, k⟩ := halves_heard (rows := rows) (dull := []) (most := 1000) 9 base keys new st0
    intro lot hl
    rw [e] at hl
    exact k lot (by simpa using hl)
theorem few_ok {rows : List (List Str)} {base keys : List Str} {new : Bool} (hk : keys.length ≤ 8) (hn : new = true ∨ enough rows base = false) (hnd : keys.Nodup) (he : enough rows (base ++ keys) = true) (most : Nat) (hm : most < 6) :
    FewOk rows base keys new (halves rows [] 1000 9 base keys new st0).2.heard.length (stays rows base keys keys.length []) most 9 := by
  have M := main_ok (rows := rows) (base := base) (keys := keys) (new := new) hk hn
  have L := halves_limit (rows := rows) (dull := []) (M := 1000) (most := most) (by omega) 9 base keys new st0 (Nat.zero_le _)
  have ho := halves_ok (rows := rows) (dull := []) (most := most) 9 base keys new st0 ⟨rfl, Nat.zero_le _⟩
  have hs := halves_sub (rows := rows) (dull := []) (most := most) 9 base keys new st0
  have hee := halves_enough (rows := rows) (dull := []) (most := most) 9 base keys new st0 he
  obtain ⟨M1, M2, M3, _, _, _⟩ := M
  rw [M3]
  unfold Limit at L
  refine ⟨fun h => by rw [L.1 h]; exact M3, by rw [ho.1]; exact ho.2, ?_, fun h => by rw [L.1 h]; exact M1, sub_part hnd hs, hee⟩
  by_cases h : (halves rows [] 1000 9 base keys new st0).2.asked ≤ most
  · rw [decide_eq_true h, L.1 h]; exact M2
  · rw [decide_eq_false h]; exact L.2 (by omega)
theorem dull_ok {rows : List (List Str)} {base keys : List Str} {new : Bool} (dull : List Int) (hk : keys.length ≤ 8) (hb : base.length ≤ 10) (hnd : keys.Nodup) (he : enough rows (base ++ keys) = true) : DullOk rows base keys new dull 9 := by
  have ho := halves_ok (rows := rows) (dull := dull) (most := 1000) 9 base keys new st0 ⟨rfl, Nat.zero_le _⟩
  have hs := halves_sub (rows := rows) (dull := dull) (most := 1000) 9 base keys new st0
  refine ⟨halves_told 9 _ _ _ _ (by show 0 + _ + 1 ≤ _; omega) (sure0 _), sub_part hnd hs, halves_enough 9 _ _ _ _ he, by rw [ho.1]; exact ho.2, ?_⟩
  obtain ⟨lots, e, k⟩ := halves_heard (rows := rows) (dull := dull) (most := 1000) 9 base keys new st0
  intro lot hl
  rw [e] at hl
  obtain ⟨t, rfl, _, h2, _⟩ := k lot (by simpa using hl)
  rw [List.length_append]; omega

/-- a least row: enough, and not enough without any one of its keys -/
structure LeastOk (rows : List (List Str)) (r : List Str) : Prop where
  en : enough rows r = true
  less : ∀ i, i < r.length → enough rows (r.take i ++ r.drop (i + 1)) = false
noncomputable def LeastF (rows : List (List Str)) (r : List Str) : Prop := ∀ k ∈ r, enough rows (r.filter (fun y => !(y == k))) = false
theorem mem_but {r : List Str} {k y : Str} : y ∈ r.filter (fun y => !(y == k)) ↔ y ∈ r ∧ y ≠ k := by
  rw [List.mem_filter]; simp
theorem least_of {rows : List (List Str)} {r : List Str} (h : enough rows r = true) (hn : r.Nodup) (hl : LeastF rows r) : LeastOk rows r := by
  refine ⟨h, fun i hi => enough_anti (fun x hx => ?_) (hl r[i] (List.getElem_mem hi))⟩
  have e : r = r.take i ++ r[i] :: r.drop (i + 1) := by rw [List.getElem_cons_drop, List.take_append_drop]
  have hn' : (r.take i ++ r[i] :: r.drop (i + 1)).Nodup := e ▸ hn
  obtain ⟨_, n2, n3⟩ := List.nodup_append.mp hn'
  obtain ⟨n4, _⟩ := List.nodup_cons.mp n2
  rw [mem_but]
  rcases List.mem_append.mp hx with hx | hx
  · exact ⟨List.mem_of_mem_take hx, n3 x hx _ (.head _)⟩
  · exact ⟨List.mem_of_mem_drop hx, fun q => n4 (q ▸ hx)⟩
theorem stays_least {rows : List (List Str)} {base keys : List Str} : ∀ (k : Nat) (late : List Str), k ≤ keys.length → enough rows (base ++ keys.take k ++ late) = true → (∀ x ∈ late, enough rows (base ++ keys.take k ++ late.filter (fun y => !(y == x))) = false) →
    enough rows (base ++ stays rows base keys k late) = true ∧ ∀ x ∈ stays rows base keys k late, enough rows (base ++ (stays rows base keys k late).filter (fun y => !(y == x))) = false
  | 0, late, _, h, hl => by
    rw [List.take_zero, List.append_nil] at h
    refine ⟨h, fun x hx => ?_⟩
    have := hl x hx
    rw [List.take_zero, List.append_nil] at this
    exact this
  | k + 1, late, hk, h, hl => by
    rw [stays]
    have ek : keys[k]? = some keys[k] := List.getElem?_eq_getElem (by omega)
    have et : keys.take (k + 1) = keys.take k ++ [keys[k]] := by rw [List.take_add_one, ek]; rfl
    by_cases he : enough rows (base ++ keys.take k ++ late) = true
    · rw [if_pos he]
      refine stays_least k late (by omega) he fun x hx => enough_anti (fun y hy => ?_) (hl x hx)
      rw [et]
      simp only [List.mem_append] at hy ⊢
      rcases hy with (hy | hy) | hy <;> simp [hy]
    · rw [if_neg he, ek]
      have he' : enough rows (base ++ keys.take k ++ late) = false := by simpa using he
      refine stays_least k _ (by omega) (enough_mono (fun y hy => ?_) h) fun x hx => ?_
      · rw [et] at hy
        simp only [List.mem_append, Option.toList_some, List.mem_cons, List.not_mem_nil, or_false] at hy ⊢
        rcases hy with (hy | hy | hy) | hy <;> simp [hy]
      · rcases List.mem_append.mp hx with hx | hx
        · have hx' : x = keys[k] := by simpa using hx
          refine enough_anti (fun y hy => ?_) he'
          rcases List.mem_append.mp hy with hy | hy
          · exact List.mem_append_left _ hy
          · obtain ⟨h1, h2⟩ := mem_but.mp hy
            rcases List.mem_append.mp h1 with h1 | h1
            · exact absurd (by simpa using h1) (hx' ▸ h2)
            · exact List.mem_append_right _ h1
        · refine enough_anti (fun y hy => ?_) (hl x hx)
          rw [et]
          rcases List.mem_append.mp hy with hy | hy
          · simp only [List.mem_append] at hy ⊢
            rcases hy with hy | hy
            · exact .inl (.inl hy)
            · exact .inl (.inr (.inl hy))
          · obtain ⟨h1, h2⟩ := mem_but.mp hy
            rcases List.mem_append.mp h1 with h1 | h1
            · have : y = keys[k] := by simpa using h1
              simp only [List.mem_append, List.mem_singleton]
              exact .inl (.inr (.inr this))
            · exact List.mem_append_right _ (mem_but.mpr ⟨h1, h2⟩)
end
section
set_option maxHeartbeats 1000000
structure Halt5 (P : Prop) : Prop where
  it : P
theorem callWrite {prog : Program} {w : World} {mg mb : Str → Option Value} {p : Program} {loose : List Str} {mean : ExcName → Option Value} {A : Around} {E : Value → Shared → Prop} {s : Shared} {g : Heap} {L : Addr} {m : Str → Option Value} {news : List (Addr × Obj)} {Q : Value → Shared → Prop} {t1 : Tok} {ys : List Str} {a b : Addr} {vs : List Value}
   (F : Fr g L s.heap m) (N : News g L s.heap news) (G : Gd w mg mb p loose mean g) (hr : A.depth + 40 < recursionLimit) (hu : A.units + 400 < cLine) (hh : A.handled = none) (ha : IsTup s.heap a #[.str (Str.ofString "list") t1, .ref b]) (hb : IsTup s.heap b vs.toArray) (hs : SymsAre s.heap vs ys) (hl : ys.length ≤ 10)
   (k : ∀ h' tk t, Fr g L h' m → News g L h' news → Q (.str (coreText ys) t) { s with heap := h', toks := tk }) : wpAny (model prog w) A (call (.ref 142) [.ref a]) Q E s :=
  wpAny_call (spec_write G F.keep hr hu hh ha hb hs hl fun h' tk t c => k h' tk t (c.fr0 F) (c.news0 N))
theorem readsFoot {h : Heap} : ∀ {vs : List Value} {ys : List Str} {as : List Addr}, ReadsAll h vs (ys.map fun y => PyData.tuple [PyData.str (Str.ofString "sym"), PyData.str y]) as → (∀ y ∈ ys, Simple y) →
    ∃ objs : List (Addr × Obj), (∀ q ∈ objs, h.get? q.1 = some q.2) ∧ (∀ q ∈ objs, ∀ es n, q.2.data ≠ .dict es n) ∧ ∀ h2 : Heap, (∀ q ∈ objs, h2.get? q.1 = some q.2) → SymsAre h2 vs ys
  | vs, [], _, r, _ => by
    cases r
    exact ⟨[], (fun _ h => nomatch h), (fun _ h => nomatch h), fun _ _ => .nil⟩
  | vs, y :: ys, _, r, hs => by
    rw [List.map_cons] at r
    cases r with
    | cons r1 r2 =>
      obtain ⟨objs, a1, a2, a3⟩ := readsFoot r2 fun z hz => hs z (.tail _ hz)
      cases r1 with
      | tuple ho hc hd hr =>
        rename_i a o vs' n
        refine ⟨(a, o) :: objs, ?_, ?_, fun h2 k => ?_⟩
        · intro q hq; rcases List.mem_cons.mp hq with rfl | hq
          · exact ho
          · exact a1 q hq
        · intro q hq; rcases List.mem_cons.mp hq with rfl | hq
          · intro es n e; rw [hd] at e; cases e
          · exact a2 q hq
        · obtain ⟨l⟩ := vs'
          dsimp only at hr
          cases hr with
          | cons c1 c2 =>
            cases c2 with
            | cons c3 c4 =>
              cases c4
              cases c1
              cases c3
              exact .cons ⟨o, k (a, o) (.head _), hc, _, hd⟩ (hs y (.head _)) (a3 h2 fun q hq => k q (.tail _ hq))
theorem spec_core {prog : Program} {w : World} {mg mb : Str → Option Value} {p : Program} {loose : List Str} {mean : ExcName → Option Value} {A : Around} {s : Shared} {h₀ : Heap} {R : Result → Shared → Prop} {ys : List Str} {a : Addr} {vs : List Value}
   (G : Gd w mg mb p loose mean h₀) (st : h₀.StaysIn s.heap) (hr : A.depth + 60 < recursionLimit) (hu : A.units + 600 < cLine) (hh : A.handled = none) (ha : s.heap.IsList a vs.toArray) (hs : StrsAre vs ys) (hsi : ∀ y ∈ ys, Simple y) (hl : ys.length ≤ 10)
   (k : ∀ h' tk t, Ch [] s.heap h' → R (.ok (.ret (.str (coreText ys) t))) { s with heap := h', toks := tk }) :
   codeAny (model prog w) A (.call (.ref 207) ⟨[.ref a], []⟩) R s := by
  obtain ⟨hd9, dp, fr, gd, un⟩ := A
  change hd9 = none at hh
  subst hh
  dsimp only at hr hu
  refine enterK [] G st (by simp) (by dsimp only; omega) (by k_is) (by k_is) (BindsTo.of_eq rfl) (locs rfl) ?_ (by decide) rfl rfl rfl
  intro g L' h₁ hg st' G' F N C hlt
  have X := G'.X
  have T := G'.T
  have hg' : g = s.heap := hg
  subst hg'
  repeat' (first | walk1 | (dsimp only; walk1))
  (rename ReadsAll _ _ _ _ => hrd); (rename News _ _ _ _ => N1); (rename Fr _ _ _ _ => F1); (rename Heap.IsList _ _ _ => hl1)
  rename_i D1 ys1 h1 _ _ _
  have e1 : (ys.filter fun _ => true) = ys := List.filter_eq_self.mpr fun _ _ => rfl
  rw [e1] at hrd
  obtain ⟨objs, o1, o2, o3⟩ := readsFoot hrd hsi
  obtain ⟨S, NS, H, hS⟩ := heldOf F1 o1 o2
  have hlen : ys1.length = ys.length := syms_len (o3 _ o1)
  refine tuple_ofL F1 NS hl1 ?_ (by rw [sizeLine_eq]; omega)
  intro T2 h2 F2 N2 k2
  clear F1 N1 NS hl1
  repeat' (first | walk1 | (dsimp only; walk1))
  (rename News _ _ _ _ => N3); (rename Fr _ _ _ _ => F3)
  refine callWrite F3 N3 G' (by walk_at "my_depth") (by walk_at "my_units") rfl ⟨_, N3.get (.head _), rfl, _, rfl⟩ ⟨_, N3.get (.tail _ (.head _)), rfl, _, rfl⟩ (o3 _ (H.get F3 N3 fun q hq => .tail _ (.tail _ hq))) hl ?_
  intro h' tk t F4 N4
  exact k _ _ _ (left hg F4)
theorem callCore {prog : Program} {w : World} {mg mb : Str → Option Value} {p : Program} {loose : List Str} {mean : ExcName → Option Value} {A : Around} {E : Value → Shared → Prop} {s : Shared} {g : Heap} {L : Addr} {m : Str → Option Value} {news : List (Addr × Obj)} {Q : Value → Shared → Prop} {ys : List Str} {a : Addr} {vs : List Value}
   (F : Fr g L s.heap m) (N : News g L s.heap news) (G : Gd w mg mb p loose mean g) (hr : A.depth + 60 < recursionLimit) (hu : A.units + 600 < cLine) (hh : A.handled = none) (ha : s.heap.IsList a vs.toArray) (hs : StrsAre vs ys) (hsi : ∀ y ∈ ys, Simple y) (hl : ys.length ≤ 10)
   (k : ∀ h' tk t, Fr g L h' m → News g L h' news → Q (.str (coreText ys) t) { s with heap := h', toks := tk }) : wpAny (model prog w) A (call (.ref 207) [.ref a]) Q E s :=
  wpAny_call (spec_core G F.keep hr hu hh ha hs hsi hl fun h' tk t c => k h' tk t (c.fr0 F) (c.news0 N))
end
section
set_option maxHeartbeats 1000000
local macro_rules | `(tactic| walk_at "FnAt") => `(tactic| (k_dflt (exact fnAt_keep (by assumption) (Fr.keep (by k_asm)))))
local macro_rules | `(tactic| walk_at "callWith ref") => `(tactic| (k_here; k_dflt (refine' callWith_F (by exact fnAt_keep (by assumption) (Fr.keep (by k_asm))) ?_)))
theorem spec_isCore {prog : Program} {w : World} {mg mb : Str → Option Value} {p : Program} {loose : List Str} {mean : ExcName → Option Value} {A : Around} {s : Shared} {h₀ : Heap} {R : Result → Shared → Prop}
   {fa ra ha da ka : Addr} {kvs rvs dvs hvs : List Value} {nh : Nat} {keys : List Str} {rows : List (List Str)}
   (G : Gd w mg mb p loose mean h₀) (st : h₀.StaysIn s.heap) (hr : A.depth + 50 < recursionLimit) (hu : A.units + 500 < cLine) (hh : A.handled = none)
   (hf : AskFn h₀ fa ra ha da 1) (hra : h₀.IsList ra rvs.toArray) (hrs : TextsAll h₀ rvs rows) (hda : h₀.IsList da dvs.toArray) (hds : IntsAre dvs [])
   (hha : s.heap.get? ha = some (listOf hvs.toArray nh)) (hha0 : h₀.get? ha = none) (hka : s.heap.IsList ka kvs.toArray) (hne : ka ≠ ha) (hkeys : StrsAre kvs keys)
   (hlr : ∀ r ∈ rows, r.length ≤ 1000) (hll : keys.length ≤ 100) (hhl : hvs.length ≤ 10000) (hen : enough rows keys = true)
   (k : ∀ (h' : Heap) (tk : Nat) (D : Addr) (nh' : Nat), Ch [ha] s.heap h' → h'.get? ha = some (listOf (hvs ++ [Value.ref D]).toArray nh') → R (.ok (.ret (.bool true))) { s with heap := h', toks := tk }) :
   codeAny (model prog w) A (.call (.ref 195) ⟨[.ref ka, .ref fa], []⟩) R s := by
  obtain ⟨hd9, dp, fr, gd, un⟩ := A
  change hd9 = none at hh
  subst hh
  dsimp only at hr hu
  refine enterK _ G st (ledCons hha hha0 ledNil) (by dsimp only; omega) (by k_is) (by k_is) (BindsTo.of_eq rfl) (locs rfl) ?_ (by decide) rfl rfl rfl
  intro g L' h₁ hg st' G' F N C hlt
  have X := G'.X
  have T := G'.T
  k_lt hlt
  have hkg : g.IsList ka kvs.toArray := isList_under hg hka (by simp [hne.symm])
  have hfg := hf.keeps st'
  have hfn := hfg.fnAt
  have hrag := hra.at (st' _)
  have hrsg := hrs.keeps st'
  have hdag := hda.at (st' _)
  repeat' (first | walk1 | (dsimp only; walk1))
  (rename News _ _ _ _ => Nz); (rename Fr _ _ _ _ => Fz); (rename StrsAre kvs _ => hkeys)
  refine callAsk Fz Nz (by k_updF) (by k_all) G' (by walk_at "my_depth") (by walk_at "my_units") rfl hfg hrag hrsg hdag hds hkeys (by decide) (by decide) hlr hll hhl (by decide) ?_
  intro h' tk' t r D tkz nh' nr nD rs dvs' rxs F' N' at' ar' aD' hD' hrs' hle' hone'
  clear Fz Nz
  rw [ansOf_nil, if_pos hen] at N'
  repeat' (first | walk1 | (dsimp only; walk1))
  (rename News _ _ _ _ => Nz); (rename Fr _ _ _ _ => Fz)
  exact k _ _ D nh' (left hg Fz) (Nz.get (by k_mem))
theorem callIsCore {prog : Program} {w : World} {mg mb : Str → Option Value} {p : Program} {loose : List Str} {mean : ExcName → Option Value} {A : Around} {E : Value → Shared → Prop} {s : Shared} {g : Heap} {L : Addr} {m : Str → Option Value} {news : List (Addr × Obj)} {u : Obj → List (Addr × Obj)} {Q : Value → Shared → Prop}
   {fa ra ha da ka : Addr} {kvs rvs dvs hvs : List Value} {nh : Nat} {keys : List Str} {rows : List (List Str)}
   (F : Fr g L s.heap m) (N : News g L s.heap news) (U : UpdF ha (listOf hvs.toArray nh) news u) (G : Gd w mg mb p loose mean g) (hr : A.depth + 50 < recursionLimit) (hu : A.units + 500 < cLine) (hh : A.handled = none)
   (hf : AskFn g fa ra ha da 1) (hra : g.IsList ra rvs.toArray) (hrs : TextsAll g rvs rows) (hda : g.IsList da dvs.toArray) (hds : IntsAre dvs [])
   (hka : s.heap.IsList ka kvs.toArray) (hne : ka ≠ ha) (hkeys : StrsAre kvs keys)
   (hlr : ∀ r ∈ rows, r.length ≤ 1000) (hll : keys.length ≤ 100) (hhl : hvs.length ≤ 10000) (hen : enough rows keys = true)
   (k : ∀ (h' : Heap) (tk : Nat) (D : Addr) (nh' : Nat), Fr g L h' m → News g L h' (u (listOf (hvs ++ [Value.ref D]).toArray nh')) → Q (.bool true) { s with heap := h', toks := tk }) :
   wpAny (model prog w) A (call (.ref 195) [.ref ka, .ref fa]) Q E s := by
  have hm := N _ (UpdF.mem' U)
  refine wpAny_call (spec_isCore G F.keep hr hu hh hf hra hrs hda hds hm.1 hm.2.2 hka hne hkeys hlr hll hhl hen fun h' tk D nh' c e => ?_)
  exact k h' tk D nh' (c.fr F fun a ha => by rw [List.mem_singleton.mp ha]; exact hm.2) (Ch.news1 c N U e)
inductive LeastI (ha fa ka : Addr) (hvs : List Value) (i : Nat) (m : Str → Option Value) (nx : List (Addr × Obj)) : Prop
  | mk (hv2 : List Value) (nh2 : Nat) (_ : nx = [(ha, listOf hv2.toArray nh2)]) (_ : hv2.length = hvs.length + 1 + i) (_ : ∀ y, y ≠ Str.ofString "k" → m y = List.lookup y [(Str.ofString "ask", .ref fa), (Str.ofString "keys", .ref ka)]) : LeastI ha fa ka hvs i m nx
theorem spec_isLeast {prog : Program} {w : World} {mg mb : Str → Option Value} {p : Program} {loose : List Str} {mean : ExcName → Option Value} {A : Around} {s : Shared} {h₀ : Heap} {R : Result → Shared → Prop}
   {fa ra ha da ka : Addr} {kvs rvs dvs hvs : List Value} {nh : Nat} {keys : List Str} {rows : List (List Str)}
   (G : Gd w mg mb p loose mean h₀) (st : h₀.StaysIn s.heap) (hr : A.depth + 60 < recursionLimit) (hu : A.units + 600 < cLine) (hh : A.handled = none)
   (hf : AskFn h₀ fa ra ha da 1) (hra : h₀.IsList ra rvs.toArray) (hrs : TextsAll h₀ rvs rows) (hda : h₀.IsList da dvs.toArray) (hds : IntsAre dvs [])
   (hha : s.heap.get? ha = some (listOf hvs.toArray nh)) (hha0 : h₀.get? ha = none) (hka : s.heap.IsList ka kvs.toArray) (hne : ka ≠ ha) (hkeys : StrsAre kvs keys)
   (hlr : ∀ r ∈ rows, r.length ≤ 1000) (hll : keys.length ≤ 100) (hhl : hvs.length ≤ 5000) (hok : LeastOk rows keys)
   (k : ∀ (h' : Heap) (tk : Nat), Ch [ha] s.heap h' → R (.ok (.ret (.bool true))) { s with heap := h', toks := tk }) :
   codeAny (model prog w) A (.call (.ref 202) ⟨[.ref ka, .ref fa], []⟩) R s := by
  obtain ⟨hd9, dp, fr, gd, un⟩ := A
  change hd9 = none at hh
  subst hh
  dsimp only at hr hu
  refine enterK _ G st (ledCons hha hha0 ledNil) (by dsimp only; omega) (by k_is) (by k_is) (BindsTo.of_eq rfl) (locs rfl) ?_ (by decide) rfl rfl rfl
  intro g L' h₁ hg st' G' F N C hlt
  have X := G'.X
  have T := G'.T
  k_lt hlt
  have hkg : g.IsList ka kvs.toArray := isList_under hg hka (by simp [hne.symm])
  have gha : g.get? ha = none := by rw [hg]; exact hideAll_none _ (by simp)
  have hfg := hf.keeps st'
  have hfn := hfg.fnAt
  have hrag := hra.at (st' _)
  have hrsg := hrs.keeps st'
  have hdag := hda.at (st' _)
  repeat' (first | walk1 | (dsimp only; walk1))
  (rename StrsAre kvs _ => hkeys)
  refine callIsCore F N (by k_updF) G' (by walk_at "my_depth") (by walk_at "my_units") rfl hfg hrag hrsg hdag hds (hkg.at (F.keep _)) hne hkeys hlr hll (by omega) hok.en ?_
  intro h' tk' D nh' F2 N2
  clear F N
  dsimp only
  repeat' (first | walk1 | (dsimp only; walk1))
  (rename IsRange _ _ _ _ _ _ _ _ => hir); (rename Fr _ _ _ _ => F3); (rename News _ _ _ _ => N3); (rename StrsAre kvs _ => hkeys)
  refine Stop.mk ⟨_, _, _, _, _, _, _, keys.length, _, _, (LeastI ha fa ka hvs), rfl, hir, ?_, ?_, F3, N3, ?_, ?_, ?_⟩
  · exact small_one (by omega) (by omega) (by omega) (by omega)
  · rw [rangeSize_one]; split <;> omega
  · exact ⟨_, _, rfl, by simp, fun y hy => rfl⟩
  · rintro i m₁ nx h tk t I oI hi hoff ⟨hv2, nh2, rfl, hlen2, hm⟩ F₁ N₁
    change Fr _ L' _ _ at F₁; change News _ L' _ _ at N₁
    replace F₁ := frCongr F₁ (m' := fun y => if y = Str.ofString "k" then some (.int ((0 : Int) + (i : Int) * 1) t) else List.lookup y [(Str.ofString "ask", .ref fa), (Str.ofString "keys", .ref ka)]) (fun y => by
      by_cases hy : y = Str.ofString "k"
      · simp [hy]
      · simp only [if_neg hy]; exact hm y hy)
    simp only [List.cons_append, List.nil_append] at N₁
    have i1 : ha ≠ I := (hoff _ (.head _) _ (.head _)).symm
    clear F3 N3
    have hless := hok.less i hi
    repeat' (first | walk1 | (dsimp only; walk1))
    (rename News _ _ _ _ => N4); (rename Fr _ _ _ _ => F4); (rename StrsAre _ (_ ++ _) => hnew); (rename (_ ∧ _) => l4)
    have e1 : ((0 : Int) + (i : Int) * 1).toNat = i := by omega
    have e2 : ((0 : Int) + (i : Int) * 1 + 1).toNat = i + 1 := by omega
    rw [e1, e2] at hnew
    refine callAsk F4 N4 (by k_updF) (by exact fun q hq => Nat.ne_of_lt (allLt_mem (by exact l4) q hq)) G' (by walk_at "my_depth") (by walk_at "my_units") rfl hfg hrag hrsg hdag hds hnew (by decide) (by decide) hlr (by simp only [List.length_append, List.length_take, List.length_drop]; omega) (by omega) (by decide) ?_
    intro h5 tk5 t5 r5 D5 tkz nh5 nr5 nD5 rs5 dvs5 rxs5 F5 N5 at' ar' aD' hD' hrs' hle' hone'
    clear F4 N4
    replace at' := allNe_of at'; replace ar' := allNe_of ar'; replace aD' := allNe_of aD'
    simp only [AllNe, and_true] at at' ar' aD'
    rw [ansOf_nil, if_neg (by rw [hless]; exact Bool.false_ne_true)] at N5
    repeat' (first | walk1 | (dsimp only; walk1))
    (rename News _ _ _ _ => N6); (rename Fr _ _ _ _ => F6)
    refine TurnE.mk ⟨_, _, _, [(ha, listOf (hv2 ++ [Value.ref D5]).toArray nh5)], rfl, F6, newsSub N6 (by k_sub), hoff, _, _, rfl, by simp only [List.length_append, List.length_cons, List.length_nil]; omega, fun y hy => by simp only [if_neg hy]⟩
  · rintro m₁ nx h tk ⟨hv2, nh2, rfl, hlen2, hm⟩ F₁ N₁
    clear F3 N3
    repeat' (first | walk1 | (dsimp only; walk1))
    exact k _ _ (left hg F₁)
end
section
set_option maxHeartbeats 1000000
noncomputable def shrinkOf (rows : List (List Str)) (keys : List Str) : List Str × Bool :=
  if keys.length < 6 then ((obo rows 1000 [] keys st0).1, (obo rows 1000 [] keys st0).2.sure)
  else if (askOnce rows [] 1000 st0 []).1 then ([], true)
  else ((halves rows [] 1000 9 [] keys false (askOnce rows [] 1000 st0 []).2).1, (halves rows [] 1000 9 [] keys false (askOnce rows [] 1000 st0 []).2).2.sure)
theorem obo_ok {rows : List (List Str)} {most : Nat} : ∀ (kept rest : List Str) (st : HSt), HOk most st → HOk most (obo rows most kept rest st).2
  | _, [], _, h => h
  | kept, k :: r, st, h => by
    rw [obo]
    split
    · exact obo_ok _ r _ (askOnce_ok h)
    · exact obo_ok _ r _ (askOnce_ok h)
theorem spec_shrink {prog : Program} {w : World} {mg mb : Str → Option Value} {p : Program} {loose : List Str} {mean : ExcName → Option Value} {A : Around} {s : Shared} {h₀ : Heap} {R : Result → Shared → Prop}
   {fa ra ha da ka : Addr} {kvs rvs dvs : List Value} {nh : Nat} {keys : List Str} {rows : List (List Str)}
   (G : Gd w mg mb p loose mean h₀) (st : h₀.StaysIn s.heap) (hr : A.depth + 120 < recursionLimit) (hu : A.units + 1200 < cLine) (hh : A.handled = none)
   (hf : AskFn h₀ fa ra ha da 1) (hra : h₀.IsList ra rvs.toArray) (hrs : TextsAll h₀ rvs rows) (hda : h₀.IsList da dvs.toArray) (hds : IntsAre dvs [])
   (hha : s.heap.get? ha = some (listOf #[] nh)) (hha0 : h₀.get? ha = none) (hka : s.heap.IsList ka kvs.toArray) (hne : ka ≠ ha) (hkeys : StrsAre kvs keys)
   (hlr : ∀ r ∈ rows, r.length ≤ 1000) (hll : keys.length ≤ 8)
   (k : ∀ (h' : Heap) (tk : Nat) (t d : Addr) (zvs hvs : List Value) (n nt nh' : Nat), Ch [ha] s.heap h' → s.heap.get? t = none → h'.get? t = some (tupO [.ref d, .bool (shrinkOf rows keys).2] nt) → s.heap.get? d = none → h'.get? d = some (listOf zvs.toArray n) → StrsAre zvs (shrinkOf rows keys).1 →
      h'.get? ha = some (listOf hvs.toArray nh') → hvs.length ≤ 1000 → R (.ok (.ret (.ref t))) { s with heap := h', toks := tk }) :
   codeAny (model prog w) A (.call (.ref 188) ⟨[.ref ka, .ref fa], []⟩) R s := by
  obtain ⟨hd9, dp, fr, gd, un⟩ := A
  change hd9 = none at hh
  subst hh
  dsimp only at hr hu
  refine enterK _ G st (ledCons hha hha0 ledNil) (by dsimp only; omega) (by k_is) (by k_is) (binds_K (G.X.keeps st) rfl (by k_is) rfl rfl rfl) (locs rfl) ?_ (by decide) rfl rfl rfl
  intro g L' h₁ hg st' G' F N C hlt
  have X := G'.X
  have T := G'.T
  k_lt hlt
  have hkg : g.IsList ka kvs.toArray := isList_under hg hka (by simp [hne.symm])
  have gha : g.get? ha = none := by rw [hg]; exact hideAll_none _ (by simp)
  have hfg := hf.keeps st'
  have hfn := hfg.fnAt
  have hrag := hra.at (st' _)
  have hrsg := hrs.keeps st'
  have hdag := hda.at (st' _)
  repeat' (first | walk1 | (dsimp only; walk1))
  refine callShrinker F N G' (by walk_at "my_depth") (by walk_at "my_units") rfl ?_
  intro x dx es nd h5 tk5 F5 N5 HD5 nx ndx nxd
  clear F N
  replace nx := allNe_of nx; simp only [AllNe, and_true] at nx
  replace ndx := allNe_of ndx; simp only [AllNe, and_true] at ndx
  replace nxd := neN nxd
  obtain ⟨e1, e2, e3, e4, k1, k2, k3, k4, t1, t2, rfl⟩ := HD5
  have gx : g.get? x = none := (N5 (x, _) (.head _)).2.2
  have gdx : g.get? dx = none := (N5 (dx, _) (.tail _ (.head _))).2.2
  dsimp only
  repeat' (first | walk1 | (dsimp only; walk1))
  · (rename News _ _ _ _ => N4); (rename Fr _ _ _ _ => F4); (rename StrsAre kvs _ => hkeys)
    have hlen : keys.length < 6 := by omega
    have H1 := halverWOf (st := st0) (most := 1000) (fa := fa) (hvs := []) N4 (by k_mem) (by k_mem) (by k_mem) ⟨_, _, _, _, _, _, _, _, _, _, rfl⟩ rfl
    refine wpAny_call (spec_obo (hst := st0) (most := 1000) G' F4.keep (by walk_at "my_depth") (by walk_at "my_units") rfl hfg hrag hrsg hdag hds gx gdx gha H1 (hkg.at (F4.keep _)) hne hkeys hlr (by omega) (by decide) ⟨rfl, Nat.zero_le _⟩ ?_)
    intro h' tk d zvs n c H' hdn hdo hzs
    obtain ⟨es', nd', hvs', nh', F', N', HD, HX'⟩ := afterW F4 N4 (by k_mem) (by k_updF) (fun o' => by k_updF) (by k_mem) c H'
    have hok := obo_ok (rows := rows) (most := 1000) [] keys st0 ⟨rfl, Nat.zero_le _⟩
    have N2 := new_ok F4 hdn hdo N'
    have hdne := allNe_of (news_off N4 hdn)
    dsimp only [AllNe] at hdne
    obtain ⟨e1', e2', e3', e4', k1', k2', k3', k4', t1', t2', rfl⟩ := HD
    clear F4 N4 H1 H' N'
    have hso : shrinkOf rows keys = ((obo rows 1000 [] keys st0).1, (obo rows 1000 [] keys st0).2.sure) := if_pos hlen
    rw [hso] at k
    generalize obo rows 1000 [] keys st0 = z at *
    dsimp only
    repeat' (first | walk1 | (dsimp only; walk1))
    (rename News _ _ _ _ => N6); (rename Fr _ _ _ _ => F6)
    exact k _ _ _ d zvs hvs' n _ nh' (left hg F6) (left_new hg N6 (.head _) (fun q hq => by rw [List.mem_singleton.mp hq]; k_ne)) (N6.get (.head _)) (left_new hg N6 (.tail _ (.head _)) (fun q hq => by rw [List.mem_singleton.mp hq]; k_ne)) (N6.get (by k_mem)) hzs (N6.get (by k_mem)) (by rw [HX', hok.1]; exact hok.2)
  · (rename News _ _ _ _ => N4); (rename Fr _ _ _ _ => F4); (rename StrsAre kvs _ => hkeys)
    have hlen : ¬ keys.length < 6 := by omega
    have H1 := halverOf (ha := ha) (st := st0) (most := 1000) (fa := fa) (S := []) (hvs := []) F4 N4 (by k_mem) (by k_mem) (by k_mem) ⟨_, _, _, _, _, _, _, _, _, _, rfl⟩ .nil (fun _ h => nomatch h) (fun _ h => nomatch h) (fun _ h => nomatch h) (fun _ h => nomatch h)
    refine wpAny_call (spec_enoughOf (hst := st0) (most := 1000) (keys := []) (part := 1) G' F4.keep (by walk_at "my_depth") (by walk_at "my_units") rfl hfg hrag hrsg hdag hds gx gdx gha H1 (N4.isList (.head _)) (by k_ne) .nil (by decide) (by decide) hlr (by decide) (by decide) (by decide) (by decide) (by decide) ?_)
    intro h' tk v c H' hv
    obtain ⟨es', nd', hvs', nh', S, F', N', HD, HX, s1, s2, s3⟩ := afterH F4 N4 (by k_mem) (by k_updF) (fun o' => by k_updF) (by k_mem) c H'
    have hokq : HOk 1000 (askOnce rows [] 1000 st0 []).2 := askOnce_ok ⟨rfl, Nat.zero_le _⟩
    have hso : shrinkOf rows keys = if (askOnce rows [] 1000 st0 []).1 then ([], true)
      else ((halves rows [] 1000 9 [] keys false (askOnce rows [] 1000 st0 []).2).1, (halves rows [] 1000 9 [] keys false (askOnce rows [] 1000 st0 []).2).2.sure) := if_neg hlen
    generalize askOnce rows [] 1000 st0 [] = q at *
    rw [hso] at k
    simp only [List.cons_append] at N'
    cases hq1 : q.1 with
    | true =>
      rw [hq1] at hv k
      rw [if_pos rfl] at k
      obtain ⟨d, zs, zvs, n, rfl, hdn, hdo, hzs, hone⟩ := hv
      have N2 := new_ok F4 hdn hdo N'
      have hdne := allNe_of (news_off N4 hdn)
      dsimp only [AllNe] at hdne
      clear F4 N4 H1 H' N'
      dsimp only
      repeat' (first | walk1 | (dsimp only; walk1))
      (rename News _ _ _ _ => N6); (rename Fr _ _ _ _ => F6)
      exact k _ _ _ _ [] hvs' _ _ nh' (left hg F6) (left_new hg N6 (.head _) (fun q hq => by rw [List.mem_singleton.mp hq]; k_ne)) (N6.get (.head _)) (left_new hg N6 (.tail _ (.head _)) (fun q hq => by rw [List.mem_singleton.mp hq]; k_ne)) (N6.get (by k_mem)) .nil (N6.get (by k_mem)) (by rw [lotsLen HX, hokq.1]; exact hokq.2)
    | false =>
      rw [hq1] at hv k
      rw [if_neg Bool.false_ne_true] at k
      subst hv
      obtain ⟨e1', e2', e3', e4', k1', k2', k3', k4', t1', t2', rfl⟩ := HD
      clear F4 N4 H1 H'
      dsimp only
      repeat' (first | walk1 | (dsimp only; walk1))
      (rename News _ _ _ _ => N5); (rename Fr _ _ _ _ => F5); (rename StrsAre kvs _ => hkeys)
      have H2 := halverOf (ha := ha) (st := q.2) (most := 1000) (fa := fa) (S := S) F5 N5 (by k_mem) (by k_mem) (by k_mem) ⟨_, _, _, _, _, _, _, _, _, _, rfl⟩ HX (fun q hq => by simp [hq]) s1 s2 s3
      refine wpAny_call (spec_halves prog w mg mb p loose mean 9 (by decide) (hst := q.2) (most := 1000) (base := []) (keys := keys) G' F5.keep (by walk_at "my_depth") (by walk_at "my_units") rfl hfg hrag hrsg hdag hds gx gdx gha H2 (N5.isList (.tail _ (.head _))) (by k_ne) .nil (N5.isList (.head _)) (by k_ne) hkeys (by decide) (by decide) hlr (by simp only [List.length_nil]; omega) (by decide) (by decide) hokq (by omega) (by decide) ?_)
      intro h2 tk2 d zvs n c2 H2' hdn hdo hzs
      have hokz := halves_ok (rows := rows) (dull := []) (most := 1000) 9 [] keys false q.2 hokq
      generalize halves rows [] 1000 9 [] keys false q.2 = z at *
      obtain ⟨es2, nd2, hvs2, nh2, S2, F6, N6, HD2, HX2, u1, u2, u3⟩ := afterH F5 N5 (by k_mem) (by k_updF) (fun o' => by k_updF) (by k_mem) c2 H2'
      have hdne := allNe_of (news_off N5 hdn)
      dsimp only [AllNe] at hdne
      simp only [List.cons_append] at N6
      have N7 := new_ok F5 hdn hdo N6
      replace u1 := off_app s1 u1; replace u2 := off_app s2 u2; replace u3 := off_app s3 u3
      generalize S ++ S2 = S3 at N7 u1 u2 u3
      obtain ⟨e1'', e2'', e3'', e4'', k1'', k2'', k3'', k4'', t1'', t2'', rfl⟩ := HD2
      clear N5 N6 F5 H2 H2'
      dsimp only
      repeat' (first | walk1 | (dsimp only; walk1))
      (rename News _ _ _ _ => N8); (rename Fr _ _ _ _ => F8)
      exact k _ _ _ d zvs hvs2 n _ nh2 (left hg F8) (left_new hg N8 (.head _) (fun q hq => by rw [List.mem_singleton.mp hq]; k_ne)) (N8.get (.head _)) (left_new hg N8 (by k_mem) (fun q hq => by rw [List.mem_singleton.mp hq]; k_ne)) (N8.get (by k_mem)) hzs (N8.get (by k_mem)) (by rw [lotsLen HX2, hokz.1]; exact hokz.2)
end
section
set_option maxHeartbeats 1000000
local macro_rules | `(tactic| walk_at "call builtin:str.join") => `(tactic| (k_here; (with_reducible show wpAny _ _ (call (.builtin "str.join") [.str _ _, Value.ref _]) _ _ _); k_dflt (refine' joinT (by kmk_list) (by assumption) (by decide) (by assumption) ?_)))
local macro_rules | `(tactic| walk_at "call ref") => `(tactic| (k_here; (with_reducible show wpAny _ _ (call (.ref 207) _) _ _ _); k_dflt (refine' callCore (by k_asm) (by k_asm) (by assumption) (by walk_at "my_depth") (by walk_at "my_units") (by walk_at "my_h") (by kmk_list) (by assumption) (by assumption) (by omega) ?_); walk_at "my_f"))
structure ShrunkOk (rows : List (List Str)) (keys due : List Str) : Prop where
  sure : (shrinkOf rows keys).2 = true
  least : LeastOk rows (shrinkOf rows keys).1
  due : keys.length < 6 ∨ (shrinkOf rows keys).1 = due
  simple : ∀ y ∈ (shrinkOf rows keys).1, Simple y
  len : (shrinkOf rows keys).1.length ≤ 8
theorem stBut {g h : Heap} {L a : Addr} {m : Str → Option Value} {news : List (Addr × Obj)} {o : Obj} (F : Fr g L h m) (N : News g L h news) (hm : (a, o) ∈ news) : g.StaysIn (hideAll h [a]) := fun b o' e => hideAll_get _ (F.keep b o' e) fun hw => by
  rw [List.mem_singleton.mp hw, (N _ hm).2.2] at e; cases e
theorem objBut {g h : Heap} {L a : Addr} {m : Str → Option Value} {news S objs : List (Addr × Obj)} {vs : List Value} {n : Nat} (H : Held g S objs) (F : Fr g L h m) (N : News g L h news) (hm : (a, listOf vs.toArray n) ∈ news) (NS : ∀ q ∈ S, q ∈ news) (od : ∀ q ∈ objs, Odd q.2) : ∀ q ∈ objs, (hideAll h [a]).get? q.1 = some q.2 := fun q hq => by
  refine hideAll_get _ (H.get F N NS q hq) fun hw => ?_
  have e := List.mem_singleton.mp hw
  rcases H q hq with z | z
  · rw [e, (N _ hm).2.2] at z; cases z
  · have y := (N q (NS q z)).1
    rw [e, (N _ hm).1] at y
    exact (od q hq).2 _ _ (by rw [← Option.some.inj y])
theorem Ch.newsOff {g h h' : Heap} {L a : Addr} {news : List (Addr × Obj)} (c : Ch [a] h h') (N : News g L h news) (off : ∀ q ∈ news, q.1 ≠ a) : News g L h' news := fun q hq => ⟨c _ _ (N q hq).1 (by simpa using off q hq), (N q hq).2⟩
theorem spec_shrunk {prog : Program} {w : World} {mg mb : Str → Option Value} {p : Program} {loose : List Str} {mean : ExcName → Option Value} {A : Around} {s : Shared} {h₀ : Heap} {R : Result → Shared → Prop}
   {ra ka da : Addr} {rvs kvs dvs : List Value} {ps : Array Value} {rows : List (List Str)} {keys due : List Str}
   (G : Gd w mg mb p loose mean h₀) (st : h₀.StaysIn s.heap) (hr : A.depth + 200 < recursionLimit) (hu : A.units + 2000 < cLine) (hh : A.handled = none)
   (hT : AskTab s.heap ps) (hT0 : h₀.get? 221 = none)
   (hra : h₀.IsList ra rvs.toArray) (hrs : TextsAll h₀ rvs rows) (hka : h₀.IsList ka kvs.toArray) (hks : StrsAre kvs keys) (hda : h₀.IsList da dvs.toArray) (hds : StrsAre dvs due)
   (hlr : ∀ r ∈ rows, r.length ≤ 1000) (hlk : keys.length ≤ 8) (hld : due.length ≤ 10) (hok : ShrunkOk rows keys due)
   (k : ∀ h' tk ps', Ch [221] s.heap h' → AskTab h' ps' → R (.ok (.ret (.bool true))) { s with heap := h', toks := tk }) :
   codeAny (model prog w) A (.call (.ref 257) ⟨[.ref ra, .ref ka, .ref da], []⟩) R s := by
  obtain ⟨hd9, dp, fr, gd, un⟩ := A
  change hd9 = none at hh
  subst hh
  dsimp only at hr hu
  refine enterK [(221, tabObj ps)] G st (ledCons hT.1 hT0 ledNil) (by dsimp only; omega) (by k_is) (by k_is) (BindsTo.of_eq rfl) (locs rfl) ?_ (by decide) rfl rfl rfl
  intro g L' h₁ hg st' G' F N C hlt
  have X := G'.X
  have T := G'.T
  k_lt hlt
  have hrag := hra.at (st' _)
  have hrsg := hrs.keeps st'
  have hkag := hka.at (st' _)
  have hdag := hda.at (st' _)
  repeat' (first | walk1 | (dsimp only; walk1))
  (rename News _ _ _ _ => N1); (rename Fr _ _ _ _ => F1)
  have TU := @tabUnder s.heap g [(221, tabObj ps)] ps hT hg (fun q hq => by rw [List.mem_singleton.mp hq]; exact hT.1) (fun q hq => by rw [List.mem_singleton.mp hq]; exact .inl rfl)
  rename_i ha _ _ db _ _
  refine callMkask F1 N1 (by k_updF) (TU F1 (N1.get (by k_mem))) G' (by walk_at "my_depth") (by walk_at "my_units") rfl ?_
  intro h3 tk3 fa ps3 S objs F3 N3 H3 s3 od3 sne3 hf3
  simp only [List.cons_append, List.nil_append] at N3
  clear F1 N1
  dsimp only
  repeat' (first | walk1 | (dsimp only; walk1))
  (rename News _ _ _ _ => N4); (rename Fr _ _ _ _ => F4); (rename StrsAre kvs _ => hks)
  have st4 := stBut F4 N4 (.tail _ (.tail _ (.head _)))
  refine wpAny_call (spec_shrink (rows := rows) (keys := keys) (ha := ha) (G'.keeps st4) (fun b o e => of_hideAll _ e) (by walk_at "my_depth") (by walk_at "my_units") rfl (hf3 _ (objBut H3 F4 N4 (.tail _ (.tail _ (.head _))) (fun q hq => .tail _ (.tail _ (.tail _ (.tail _ hq)))) od3)).1 (hrag.at (st4 _)) (hrsg.keeps st4) (isList_hide (N4.isList (.tail _ (.head _))) ?ne1) .nil (N4.get (.tail _ (.tail _ (.head _)))) (hideAll_none _ (by simp)) (N4.isList (.head _)) (by k_ne) hks hlr (by omega) ?_)
  case ne1 => rw [List.mem_singleton]; k_ne
  intro h5 tk5 t d zvs hvs n nt nh5 c5 t0 ht d0 hd hzs hh5 hlen5
  have F5 : Fr g L' h5 _ := c5.fr F4 fun a h => by rw [List.mem_singleton.mp h]; exact (N4 _ (.tail _ (.tail _ (.head _)))).2
  have sha := oddNe hf3 N4 (.tail _ (.tail _ (.head _))) (S := S) (fun q hq => .tail _ (.tail _ (.tail _ (.tail _ hq)))) s3 od3
  have N5 := Ch.news1 c5 N4 (by k_updF) hh5
  have N6 := new_ok F4 t0 ht (new_ok F4 d0 hd N5)
  have htd : t ≠ d := cls_ne ht hd (by simp)
  replace htd := neN htd
  have ht4 := allNe_of (news_off N4 t0)
  have hd4 := allNe_of (news_off N4 d0)
  dsimp only [AllNe] at ht4 hd4
  obtain ⟨P1, P2, P3, P4, P5⟩ := hok
  have hw : ((shrinkOf rows keys).1.map (·.length)).sum + (shrinkOf rows keys).1.length ≤ 1048576 := by
    have e1 := sum_le (n := 3) fun y hy => (P4 y hy).size
    omega
  have hj : (Str.join (Str.ofString " ") (shrinkOf rows keys).1).length ≤ 1000 := by
    have e1 := StrLaws.join_length_le (Str.ofString " ") (shrinkOf rows keys).1
    have e2 := sum_le (n := 3) fun y hy => (P4 y hy).size
    have e3 : (Str.ofString " ").length = 1 := by decide
    rw [e3] at e1
    omega
  clear F4 N4 N5
  generalize shrinkOf rows keys = z at *
  obtain ⟨z1, z2⟩ := z
  dsimp only at P1
  subst P1
  dsimp only at *
  repeat' (first | walk1 | (dsimp only; walk1))
  · exfalso
    rename ((coreText z1 != _) = true) => q
    unfold coreText at q
    simp at q
  · (rename News _ _ _ _ => N7); (rename Fr _ _ _ _ => F7)
    have hm7 := N7 (ha, _) (.tail _ (.tail _ (.tail _ (.tail _ (.head _)))))
    have st7 := stBut F7 N7 (.tail _ (.tail _ (.tail _ (.tail _ (.head _)))))
    refine wpAny_call (spec_isLeast (rows := rows) (keys := z1) (ha := ha) (G'.keeps st7) (fun b o e => of_hideAll _ e) (by walk_at "my_depth") (by walk_at "my_units") rfl (hf3 _ (objBut H3 F7 N7 (.tail _ (.tail _ (.tail _ (.tail _ (.head _))))) (fun q hq => by simp [hq]) od3)).1 (hrag.at (st7 _)) (hrsg.keeps st7) (isList_hide (N7.isList (.tail _ (.tail _ (.tail _ (.head _))))) ?ne1) .nil hm7.1 (hideAll_none _ (by simp)) (N7.isList (.tail _ (.head _))) (by k_ne) hzs hlr (by omega) (by omega) P2 ?_)
    case ne1 => rw [List.mem_singleton]; k_ne
    intro h8 tk8 c8
    have F8 : Fr g L' h8 _ := c8.fr F7 fun a h => by rw [List.mem_singleton.mp h]; exact hm7.2
    have N8 : News g L' h8 ((t, tupO [.ref d, .bool true] nt) :: (d, listOf zvs.toArray n) :: (221, tabObj ps3) :: S) := c8.newsOff (newsSub N7 (l := _) ?sb) ?of
    case sb => intro q hq; simp only [List.mem_cons] at hq ⊢; rcases hq with h | h | h | h <;> simp [h]
    case of =>
      intro q hq
      rcases List.mem_cons.mp hq with rfl | hq
      · k_ne
      rcases List.mem_cons.mp hq with rfl | hq
      · k_ne
      rcases List.mem_cons.mp hq with rfl | hq
      · k_ne
      · exact sha q hq
    clear F7 N7
    dsimp only
    repeat' (first | walk1 | (dsimp only; walk1))
    · rename ((_ : Int) < 6) => q
      show R (.ok (.ret (.bool (decide ((keys.length : Int) < 6))))) _
      rw [decide_eq_true q]
      exact k _ _ ps3 (left hg F8) ((hf3 _ (H3.get F8 N8 (fun q hq => by simp [hq]))).2 (N8.get (by k_mem)))
    · rename (¬ (_ : Int) < 6) => q
      show R (.ok (.ret (.bool (decide (z1 = due))))) _
      rw [decide_eq_true (P3.resolve_left (by omega))]
      exact k _ _ ps3 (left hg F8) ((hf3 _ (H3.get F8 N8 (fun q hq => by simp [hq]))).2 (N8.get (by k_mem)))
end
section
set_option maxHeartbeats 1000000
theorem strs_run (f : Nat → Str) : ∀ (ys : List Value) (k : Nat), (∀ i v, ys[i]? = some v → ∃ t, v = Value.str (f (k + i)) t) → StrsAre ys ((List.range' k ys.length).map f)
  | [], k, _ => .nil
  | y :: ys, k, h => by
    obtain ⟨t, e⟩ := h 0 y rfl
    rw [Nat.add_zero] at e
    subst e
    rw [List.length_cons, List.range'_succ, List.map_cons]
    exact .cons _ t (strs_run f ys (k + 1) fun i v hv => by
      obtain ⟨t, e⟩ := h (i + 1) v hv
      exact ⟨t, by rw [show k + 1 + i = k + (i + 1) by omega]; exact e⟩)
theorem paired_at {Rl : Value → Value → Prop} : ∀ {vs ys : List Value} {i : Nat} {y : Value}, Paired Rl vs ys → ys[i]? = some y → ∃ v, vs[i]? = some v ∧ Rl v y
  | _, _, i, y, .nil, h => by simp at h
  | _, _, 0, y, .cons h t, e => ⟨_, rfl, by cases e; exact h⟩
  | _, _, i + 1, y, .cons h t, e => paired_at (i := i) t e
theorem paired_len {Rl : Value → Value → Prop} : ∀ {vs ys : List Value}, Paired Rl vs ys → vs.length = ys.length
  | _, _, .nil => rfl
  | _, _, .cons _ t => by simp [paired_len t]
section
variable {prog : Program} {w : World} {A : Around} {E : Value → Shared → Prop} {s : Shared} {g : Heap} {L : Addr} {m : Str → Option Value} {env : Env}
inductive CompR (prog : Program) (w : World) (A : Around) (env : Env) (g : Heap) (L : Addr) (m : Str → Option Value) (elt : Expr) (x : Str) (scope : Scope) (cl : List (Str × Addr)) (Q : Value → Shared → Prop) (f : Nat → Str) (xv : Value) (s₁ : Shared) : Prop
  | mk (r : Addr) (t₀ u₀ v₀ : Tok) (n : Nat) (news : List (Addr × Obj)) (_ : xv = .ref r) (_ : IsRange s₁.heap r 0 n 1 t₀ u₀ v₀) (_ : n ≤ 1000) (_ : Fr g L s₁.heap m) (_ : News g L s₁.heap news) (_ : ∀ C (i : Nat) t s₂ m₂ E', i < n → s₂.heap.Ns (compEnvC scope cl C env).locals m₂ → m₂ x = some (.int i t) → (∀ b o, s₁.heap.get? b = some o → s₂.heap.get? b = some o) →
        wpAny (model prog w) A (eval elt (compEnvC scope cl C env)) (fun y s₃ => (∃ t', y = Value.str (f i) t') ∧ Keeps s₂ s₃) E' s₂) (_ : ∀ D (ys : List Value) n' h' tk, Fr g L h' m → News g L h' ((D, listOf ys.toArray n') :: news) → (∀ q ∈ news, q.1 ≠ D) → StrsAre ys ((List.range n).map f) → Q (.ref D) { s₁ with heap := h', toks := tk }) : CompR prog w A env g L m elt x scope cl Q f xv s₁
theorem strs_range {f : Nat → Str} {n : Nat} {vs ys : List Value} (hlen : vs.length = n) (hP : ∀ (j : Nat) (v : Value), vs[j]? = some v → ∃ t, v = Value.int ((0 : Int) + (j : Int) * 1) t)
    (hp : Paired (fun v y => ∃ (i : Nat) (t t' : Tok), v = Value.int i t ∧ y = Value.str (f i) t') (vs.filter fun _ => true) ys) : StrsAre ys ((List.range n).map f) := by
  have e : (vs.filter fun _ => true) = vs := List.filter_eq_self.mpr fun _ _ => rfl
  rw [e] at hp
  have hl := paired_len hp
  rw [hlen] at hl
  rw [List.range_eq_range', hl]
  refine strs_run f ys 0 fun i v hv => ?_
  obtain ⟨u, hu, j, t, t', e1, e2⟩ := paired_at hp hv
  obtain ⟨t2, e3⟩ := hP i u hu
  rw [e1] at e3
  injection e3 with e4 _
  have e5 : j = i := by omega
  subst e5
  exact ⟨t', by rw [Nat.zero_add]; exact e2⟩
inductive AsgR (prog : Program) (w : World) (A : Around) (env : Env) (g : Heap) (L : Addr) (m : Str → Option Value) (elt : Expr) (x y : Str) (scope : Scope) (cl : List (Str × Addr)) (Q : Flow → Shared → Prop) (f : Nat → Str) (xv : Value) (s₁ : Shared) : Prop
  | mk (r : Addr) (t₀ u₀ v₀ : Tok) (n : Nat) (news : List (Addr × Obj)) (_ : xv = .ref r) (_ : IsRange s₁.heap r 0 n 1 t₀ u₀ v₀) (_ : n ≤ 1000) (_ : Fr g L s₁.heap m) (_ : News g L s₁.heap news) (_ : ∀ C (i : Nat) t s₂ m₂ E', i < n → s₂.heap.Ns (compEnvC scope cl C env).locals m₂ → m₂ x = some (.int i t) → (∀ b o, s₁.heap.get? b = some o → s₂.heap.get? b = some o) →
        wpAny (model prog w) A (eval elt (compEnvC scope cl C env)) (fun y s₃ => (∃ t', y = Value.str (f i) t') ∧ Keeps s₂ s₃) E' s₂) (_ : ∀ D (ys : List Value) n' h' tk, Fr g L h' (fun z => if z = y then some (.ref D) else m z) → News g L h' ((D, listOf ys.toArray n') :: news) → (∀ q ∈ news, q.1 ≠ D) → StrsAre ys ((List.range n).map f) → Q .next { s₁ with heap := h', toks := tk }) : AsgR prog w A env g L m elt x y scope cl Q f xv s₁
/-- [elt for x in range(n)]: texts -/
theorem compRange {elt iter : Expr} {x : Str} {px : Pos} {scope : Scope} {cl : List (Str × Addr)} {pos : Pos} {Q : Value → Shared → Prop} (F₀ : Fr g L s.heap m) (f : Nat → Str)
    (hh : A.handled = none)
    (h : wpAny (model prog w) A (eval iter env) (fun xv s₁ => Stop (CompR prog w A env g L m elt x scope cl Q f xv s₁)) E s)
    (hs : ∀ x, foldedSetIterable iter env x = pure x := by intro _; rfl) (hclos : closureFor scope env = pure cl := by with_unfolding_all rfl) (hcell : ∀ y ∈ scope.names, y.2 ≠ .cell := by decide) (hkind : scope.kind = .function := by rfl)
    (hnames : ∀ y ∈ scope.names, y.2 = .local → scope.names.lookup y.1 = some .local := by decide) (hx : scope.names.lookup x = some .local := by rfl) :
    wpAny (model prog w) A (eval (.ListComp elt [⟨.Name x px, iter, [], 0⟩] scope pos) env) Q E s := by
  refine wpAny_ListComp_free (fun _ => true) (fun v y => ∃ (i : Nat) (t t' : Tok), v = Value.int i t ∧ y = Value.str (f i) t') hclos hcell hkind hnames hx (wpAny_mono h (fun xv s₁ h₁ => ?_) fun _ _ e => e) hs
  obtain ⟨r, t₀, u₀, v₀, n, news, rfl, hr, hsz, F, N, helt, hQ⟩ := h₁.it
  have up : ∀ (o' : Obj) (s₃ : Shared), (∀ b o, b ∉ [s₁.heap.objs.size] → (s₁.heap.push o').get? b = some o → s₃.heap.get? b = some o) → ∀ b o, s₁.heap.get? b = some o → s₃.heap.get? b = some o :=
    fun o' s₃ hk b o e => hk b o (fun hm => by rw [List.mem_singleton.mp hm] at e; exact Nat.lt_irrefl _ (Heap.lt_size e)) (Heap.get?_push_of_some _ e)
  refine wpAny_pyIter_range hr (small_one (by omega) (by omega) (by omega) (by omega)) ?_
  have hn : Builtin.Range.rangeSize 0 n 1 = (n : Int) := by rw [rangeSize_one]; split <;> omega
  have W := (Walks.range (prog := prog) (w := w) (A := A) hh s₁.heap.objs.size 0 1 n).bound
  refine ⟨_, _, _, n, _, _, rfl, W, (by rw [sizeLine_eq]; omega), (by show IsRangeIter _ _ _ _ _; rw [hn]; simpa using Heap.get?_push_size _ rfl), ?_, ⟨?_, ?_⟩, ?_⟩
  · intro b hb
    show b < (s₁.heap.push _).objs.size
    rw [Heap.size_push, List.mem_singleton.mp hb]; exact Nat.lt_succ_self _
  · intro C i v s₃ m₃ E' hC hP hn hm hk _
    exact ifs0 ⟨rfl, _, _, rfl, fun _ _ e => e⟩
  · intro C i v s₃ m₃ E' hC hP hp hn hm hk _
    obtain ⟨hin, t, rfl⟩ := hP
    have e : ((0 : Int) + (i : Int) * 1) = (i : Int) := by omega
    rw [e] at hm
    refine wpAny_mono (helt C i t s₃ m₃ E' hin hn hm (up _ s₃ hk)) (fun y s₄ h4 => ?_) fun _ _ e => e
    obtain ⟨⟨t', rfl⟩, h5⟩ := h4
    exact ⟨⟨i, t, t', by rw [e], rfl⟩, h5⟩
  · intro D h' tk ys vs' hnew hlD hplD hlen hP hF hk
    have keep : ∀ b o, s₁.heap.get? b = some o → h'.get? b = some o := up _ { s₁ with heap := h' } hk
    have hD : s₁.heap.get? D = none := by
      cases e : s₁.heap.get? D with
      | none => rfl
      | some o' => rw [Heap.get?_push_of_some _ e] at hnew; cases hnew
    obtain ⟨n', hn'⟩ := hplD
    refine hQ D ys.toList n' h' tk (F.keeps keep) (new_ok F hD (by rw [Array.toArray_toList]; exact hn') (N.grown keep)) (fun q hq e => ?_) (strs_range hlen (fun j v hv => (hP j v hv).2) hF)
    have := (N q hq).1
    rw [e, hD] at this; cases this
open LCg LCt in
inductive CompI (prog : Program) (w : World) (A : Around) (env : Env) (g : Heap) (L : Addr) (m : Str → Option Value) (ct : Expr) (x : Str) (scope : Scope) (cl : List (Str × Addr)) (Q : Value → Shared → Prop) (xv : Value) (s₁ : Shared) : Prop
  | mk (ax : Addr) (its : List Value) (k : Nat) (news : List (Addr × Obj)) (J : Nat → List Value → List (Addr × Obj) → Prop) (_ : xv = .ref ax) (_ : Fr g L s₁.heap m) (_ : News g L s₁.heap news) (_ : (ax, listOf its.toArray k) ∈ news) (_ : its.length ≤ 1000) (_ : J 0 [] news) (_ : ∀ i v ys nx I oI C oC D m₂ h tk E', its[i]? = some v → J i ys nx → NsObj oC m₂ → m₂ x = some v → Fr g L h m → News g L h ((I, oI) :: (C, oC) :: (D, lst ys) :: nx) → Off3 I C D nx → ((@Ne Nat I C) ∧ (@Ne Nat I D) ∧ (@Ne Nat C D)) →
        wpAny (model prog w) A (isTrue ct (compEnvC scope cl C env) (eval ct (compEnvC scope cl C env))) (fun ok s' => Stop (∃ h' tk' nx', s' = { s₁ with heap := h', toks := tk' } ∧ Fr g L h' m ∧ News g L h' ((I, oI) :: (C, oC) :: (D, lst ys) :: nx') ∧ Off3 I C D nx' ∧ SrcAt g ax its.toArray nx' ∧ J (i + 1) (if ok then ys ++ [v] else ys) nx')) E' { s₁ with heap := h, toks := tk }) (_ : ∀ D ys nx h' tk, J its.length ys nx → Fr g L h' m → News g L h' ((D, lst ys) :: nx) → Off1 D nx → Q (.ref D) { s₁ with heap := h', toks := tk }) : CompI prog w A env g L m ct x scope cl Q xv s₁
/-- y = [elt for x in range(n)]: texts -/
theorem assignRange {elt iter : Expr} {x y : Str} {px py : Pos} {scope : Scope} {cl : List (Str × Addr)} {pos spos : Pos} {Q : Flow → Shared → Prop} (F₀ : Fr g L s.heap m) (f : Nat → Str)
    (hh : A.handled = none)
    (h : wpAny (model prog w) A (eval iter env) (fun xv s₁ => Stop (AsgR prog w A env g L m elt x y scope cl Q f xv s₁)) E s)
    (hL : env.locals = L)
    (hsw : swapsWith (.ListComp elt [⟨.Name x px, iter, [], 0⟩] scope pos) (some (.Name y py)) spos.line env = pure true := by with_unfolding_all rfl)
    (hs : ∀ x, foldedSetIterable iter env x = pure x := by intro _; rfl) (hclos : closureFor scope env = pure cl := by with_unfolding_all rfl) (hcell : ∀ y ∈ scope.names, y.2 ≠ .cell := by decide) (hkind : scope.kind = .function := by rfl)
    (hnames : ∀ y ∈ scope.names, y.2 = .local → scope.names.lookup y.1 = some .local := by decide) (hx : scope.names.lookup x = some .local := by rfl)
    (hy : env.kindOf y = some .local := by rfl) (hp : (env.scope.kind == .class || (env.scope.kind == .module && env.locals != env.globals)) = false := by rfl) :
    wpAny (model prog w) A (exec (.Assign [.Name y py] (.ListComp elt [⟨.Name x px, iter, [], 0⟩] scope pos) spos) env) Q E s := by
  refine wpAny_Assign_ListComp_free (fun _ => true) (fun v y => ∃ (i : Nat) (t t' : Tok), v = Value.int i t ∧ y = Value.str (f i) t') hsw hclos hcell hkind hnames hx hy hp (wpAny_mono h (fun xv s₁ h₁ => ?_) fun _ _ e => e) hs
  obtain ⟨r, t₀, u₀, v₀, n, news, rfl, hr, hsz, F, N, helt, hQ⟩ := h₁.it
  have hLt : L < s₁.heap.objs.size := by obtain ⟨oL, es, ep, h1, _⟩ := F.ns; exact Heap.lt_size h1
  have up : ∀ (o' : Obj) (s₃ : Shared), (∀ b o, b ∉ [s₁.heap.objs.size] → (s₁.heap.push o').get? b = some o → s₃.heap.get? b = some o) → ∀ b o, s₁.heap.get? b = some o → s₃.heap.get? b = some o :=
    fun o' s₃ hk b o e => hk b o (fun hm => by rw [List.mem_singleton.mp hm] at e; exact Nat.lt_irrefl _ (Heap.lt_size e)) (Heap.get?_push_of_some _ e)
  refine wpAny_pyIter_range hr (small_one (by omega) (by omega) (by omega) (by omega)) ?_
  have hn : Builtin.Range.rangeSize 0 n 1 = (n : Int) := by rw [rangeSize_one]; split <;> omega
  have W := (Walks.range (prog := prog) (w := w) (A := A) hh s₁.heap.objs.size 0 1 n).bound
  refine ⟨_, _, _, n, _, _, m, rfl, W, (by rw [sizeLine_eq]; omega), (by show IsRangeIter _ _ _ _ _; rw [hn]; simpa using Heap.get?_push_size _ rfl), ?_, ?_, ?_, ⟨?_, ?_⟩, ?_⟩
  · intro b hb
    show b < (s₁.heap.push _).objs.size
    rw [Heap.size_push, List.mem_singleton.mp hb]; exact Nat.lt_succ_self _
  · rw [hL]
    intro hm
    rw [List.mem_singleton.mp hm] at hLt
    exact Nat.lt_irrefl _ hLt
  · rw [hL]
    exact F.ns.keeps fun b o e => Heap.get?_push_of_some _ e
  · intro C i v s₃ m₃ E' hC hP hn hm hk _
    exact ifs0 ⟨rfl, _, _, rfl, fun _ _ e => e⟩
  · intro C i v s₃ m₃ E' hC hP hp hn hm hk _
    obtain ⟨hin, t, rfl⟩ := hP
    have e : ((0 : Int) + (i : Int) * 1) = (i : Int) := by omega
    rw [e] at hm
    refine wpAny_mono (helt C i t s₃ m₃ E' hin hn hm (up _ s₃ hk)) (fun y s₄ h4 => ?_) fun _ _ e => e
    obtain ⟨⟨t', rfl⟩, h5⟩ := h4
    exact ⟨⟨i, t, t', by rw [e], rfl⟩, h5⟩
  · intro D h' tk ys vs' hnew hlD hplD hlen hP hF hns hk
    rw [hL] at hns hk
    have keep : ∀ b o, b ≠ L → s₁.heap.get? b = some o → h'.get? b = some o := fun b o hb e => hk b o hb (fun hm => by rw [List.mem_singleton.mp hm] at e; exact Nat.lt_irrefl _ (Heap.lt_size e)) (Heap.get?_push_of_some _ e)
    have hD : s₁.heap.get? D = none := by
      cases e : s₁.heap.get? D with
      | none => rfl
      | some o' => rw [Heap.get?_push_of_some _ e] at hnew; cases hnew
    obtain ⟨n', hn'⟩ := hplD
    have F' : Fr g L h' (fun z => if z = y then some (.ref D) else m z) := ⟨hns, fun b o e => keep b o (Nat.ne_of_lt (Nat.lt_of_lt_of_le (Heap.lt_size e) F.above)) (F.keep b o e), F.above⟩
    refine hQ D ys.toList n' h' tk F' (fun q hq => ?_) (fun q hq e => ?_) (strs_range hlen (fun j v hv => (hP j v hv).2) hF)
    · rcases List.mem_cons.mp hq with rfl | hq
      · refine ⟨by rw [Array.toArray_toList]; exact hn', ?_, ?_⟩
        · rintro rfl
          obtain ⟨oL, es, ep, h1, _⟩ := F.ns
          rw [hD] at h1; cases h1
        · cases e : g.get? D with
          | none => rfl
          | some o' => rw [F.keep _ _ e] at hD; cases hD
      · have z := N q hq
        exact ⟨keep _ _ z.2.1 z.1, z.2⟩
    · have := (N q hq).1
      rw [e, hD] at this; cases this
open LCg LCt in
/-- [x for x in iter if c] where the test stores: by an invariant -/
theorem compInv {ct iter : Expr} {x : Str} {px px' : Pos} {scope : Scope} {cl : List (Str × Addr)} {pos : Pos} {Q : Value → Shared → Prop} (F₀ : Fr g L s.heap m) (hh : A.handled = none)
    (h : wpAny (model prog w) A (eval iter env) (fun xv s₁ => Stop (CompI prog w A env g L m ct x scope cl Q xv s₁)) E s)
    (hs : ∀ x, foldedSetIterable iter env x = pure x := by intro _; rfl) (hclos : closureFor scope env = pure cl := by with_unfolding_all rfl) (hcell : ∀ y ∈ scope.names, y.2 ≠ .cell := by decide) (hkind : scope.kind = .function := by rfl)
    (hnames : ∀ y ∈ scope.names, y.2 = .local → scope.names.lookup y.1 = some .local := by decide) (hx : scope.names.lookup x = some .local := by rfl) (hd : (x == ("__debug__" : Str)) = false := by decide) :
    wpAny (model prog w) A (eval (.ListComp (.Name x px') [⟨.Name x px, iter, [ct], 0⟩] scope pos) env) Q E s := by
  refine ListComp_T F₀ hclos hcell hkind hnames hx (wpAny_mono h (fun xv s₁ h₁ => ?_) fun _ _ e => e) hs
  obtain ⟨ax, its, k, news, J, rfl, F, N, hm, hsz, hj, turn, done⟩ := h₁.it
  refine CompSrcT.ledger hh F N hm (by rw [List.size_toArray, sizeLine_eq]; omega) fun gz => ?_
  rw [List.size_toArray]
  have all : ∀ (r i : Nat) (ys : List Value) (nx : List (Addr × Obj)), i + r = its.length → J i ys nx → SrcAt g ax its.toArray nx → CompRestT prog w A g L m env ct (.Name x px') x scope cl { s₁ with heap := gz } (SrcAt g ax its.toArray) (fun i v => its.toArray[i]? = some v) (FinE g L m { s₁ with heap := gz } Q) r i ys nx := by
    intro r
    induction r with
    | zero =>
      intro i ys nx e hJ _
      rw [Nat.add_zero] at e
      subst e
      exact CompRestT.zero fun D h tk F' N' o' => done D ys nx h tk hJ F' N' o'
    | succ r ih =>
      intro i ys nx e hJ _
      refine CompRestT.succ fun v I oI C oC D m₂ h tk E' hv hC hxv Fh Nh off ne => ?_
      refine wpAny_mono (turn i v ys nx I oI C oC D m₂ h tk E' (by simpa using hv) hJ hC hxv Fh Nh off ne) (fun ok s' hs' => ?_) fun _ _ e => e
      obtain ⟨h', tk', nx', rfl, F', N', off', S', J'⟩ := hs'.it
      cases ok with
      | true =>
        rw [if_pos rfl]
        refine LCgL.ld_own N' (.tail _ (.head _)) hC hxv ?_ (by simp [compEnvC, relabel, hkind]) (lookup_relabel_local hx) hd
        exact ⟨h', tk', nx', rfl, F', N', off', S', ih (i + 1) _ nx' (by omega) J' S'⟩
      | false =>
        rw [if_neg Bool.false_ne_true]
        exact ⟨h', tk', nx', rfl, F', N', off', S', ih (i + 1) _ nx' (by omega) J' S'⟩
  exact all its.length 0 [] news (by omega) hj (.inr ⟨_, hm, rfl, _, rfl⟩)
end
end
section
local macro_rules | `(tactic| walk_at "my_p") => `(tactic| skip)
theorem obo_least {rows : List (List Str)} {most : Nat} : ∀ (kept rest : List Str) (st : HSt), enough rows (kept ++ rest) = true → st.sure = true → st.asked + rest.length ≤ most →
    (∀ k ∈ kept, enough rows ((kept ++ rest).filter (fun y => !(y == k))) = false) →
    (obo rows most kept rest st).2.sure = true ∧ (obo rows most kept rest st).1.Sublist (kept ++ rest) ∧ enough rows (obo rows most kept rest st).1 = true ∧ LeastF rows (obo rows most kept rest st).1
  | kept, [], st, he, hs, _, hl => by
    rw [List.append_nil] at he hl ⊢
    exact ⟨hs, List.Sublist.refl _, he, hl⟩
  | kept, k :: r, st, he, hs, hm, hl => by
    rw [List.length_cons] at hm
    have hq := askOnce_nil (rows := rows) (most := most) (st := st) (keys := kept ++ r) (by omega)
    rw [obo, hq]
    dsimp only
    by_cases hen : enough rows (kept ++ r) = true
    · rw [if_pos hen]
      obtain ⟨a, b, c, d⟩ := obo_least (rows := rows) (most := most) kept r ⟨st.asked + 1, st.sure, st.heard ++ [kept ++ r]⟩ hen hs (by dsimp only; omega) fun x hx => enough_anti (fun y hy => by
        obtain ⟨h1, h2⟩ := mem_but.mp hy
        rw [mem_but]
        refine ⟨?_, h2⟩
        rcases List.mem_append.mp h1 with h | h
        · exact List.mem_append_left _ h
        · exact List.mem_append_right _ (.tail _ h)) (hl x hx)
      exact ⟨a, b.trans (List.Sublist.append (List.Sublist.refl _) (List.sublist_cons_self _ _)), c, d⟩
    · have hen' : enough rows (kept ++ r) = false := by simpa using hen
      rw [if_neg hen]
      have e : kept ++ [k] ++ r = kept ++ k :: r := by simp
      obtain ⟨a, b, c, d⟩ := obo_least (rows := rows) (most := most) (kept ++ [k]) r ⟨st.asked + 1, st.sure, st.heard ++ [kept ++ r]⟩ (by rw [e]; exact he) hs (by dsimp only; omega) fun x hx => by
        rw [e]
        rcases List.mem_append.mp hx with hx | hx
        · exact hl x hx
        · have hx' : x = k := by simpa using hx
          refine enough_anti (fun y hy => ?_) hen'
          obtain ⟨h1, h2⟩ := mem_but.mp hy
          rcases List.mem_append.mp h1 with h | h
          · exact List.mem_append_left _ h
          · rcases List.mem_cons.mp h with h | h
            · exact absurd (h.trans hx'.symm) h2
            · exact List.mem_append_right _ h
      exact ⟨a, e ▸ b, c, d⟩
theorem shrunk_ok {rows : List (List Str)} {keys : List Str} (hk : keys.length ≤ 8) (hnd : keys.Nodup) (he : enough rows keys = true) (hs : ∀ y ∈ keys, Simple y) : ShrunkOk rows keys (stays rows [] keys keys.length []) := by
  by_cases hlen : keys.length < 6
  · have e : shrinkOf rows keys = ((obo rows 1000 [] keys st0).1, (obo rows 1000 [] keys st0).2.sure) := if_pos hlen
    obtain ⟨a, b, c, d⟩ := obo_least (rows := rows) (most := 1000) [] keys st0 he rfl (by show 0 + _ ≤ _; omega) (fun _ h => nomatch h)
    rw [List.nil_append] at b
    exact ⟨by rw [e]; exact a, by rw [e]; exact least_of c (b.nodup hnd) d, .inl hlen, by rw [e]; exact fun y hy => hs y (b.subset hy), by rw [e]; have := b.length_le; dsimp only; omega⟩
  · have e : shrinkOf rows keys = if (askOnce rows [] 1000 st0 []).1 then ([], true)
      else ((halves rows [] 1000 9 [] keys false (askOnce rows [] 1000 st0 []).2).1, (halves rows [] 1000 9 [] keys false (askOnce rows [] 1000 st0 []).2).2.sure) := if_neg hlen
    have hq := askOnce_nil (rows := rows) (most := 1000) (st := st0) (keys := []) (by decide)
    rw [hq] at e
    dsimp only at e
    by_cases h0 : enough rows [] = true
    · rw [if_pos h0] at e
      refine ⟨by rw [e], by rw [e]; exact ⟨h0, fun i hi => absurd hi (Nat.not_lt_zero _)⟩, .inr (by rw [e]; exact (stays_none h0 _).symm), (by rw [e]; intro y hy; exact absurd hy List.not_mem_nil), by rw [e]; exact Nat.zero_le _⟩
    · rw [if_neg h0] at e
      have h0' : enough rows [] = false := by simpa using h0
      have hst := halves_stays (rows := rows) (most := 1000) 9 [] keys false ⟨st0.asked + 1, st0.sure, st0.heard ++ [[]]⟩ (by omega) (by decide) (by show 0 + 1 + _ + 1 ≤ _; omega) (.inr h0')
      have hsu := sureIs_nil (halves_told (rows := rows) (dull := []) (most := 1000) 9 [] keys false ⟨st0.asked + 1, st0.sure, st0.heard ++ [[]]⟩ (by show 0 + 1 + _ + 1 ≤ _; omega) (by unfold SureIs; rw [List.filter_eq_nil_iff.mpr (fun a _ => by rw [told_nil]; decide)]; rfl))
      have hsub := halves_sub (rows := rows) (dull := []) (most := 1000) 9 [] keys false ⟨st0.asked + 1, st0.sure, st0.heard ++ [[]]⟩
      have hle := stays_least (rows := rows) (base := []) (keys := keys) keys.length [] (Nat.le_refl _) (by rw [List.take_length]; simpa using he) (fun _ h => nomatch h)
      rw [List.nil_append] at hle
      rw [hst] at hsub
      refine ⟨by rw [e]; exact hsu, ?_, .inr (by rw [e]; exact hst), ?_, ?_⟩
      · rw [e]
        dsimp only
        rw [hst]
        exact least_of hle.1 (hsub.nodup hnd) (fun k hk => by have := hle.2 k hk; rwa [List.nil_append] at this)
      · rw [e]; dsimp only; rw [hst]; exact fun y hy => hs y (hsub.subset hy)
      · rw [e]; dsimp only; rw [hst]; have := hsub.length_le; omega
end
section
local macro_rules | `(tactic| walk_at "my_p") => `(tactic| skip)
set_option maxHeartbeats 3200000
open PySem.Spec in
/-- the texts first met -/
noncomputable def firstT (val : Nat → Str) (i : Nat) : List Str := ((List.range i).map val).foldl step_dedup []
theorem firstT_succ (val : Nat → Str) (i : Nat) : firstT val (i + 1) = step_dedup (firstT val i) (val i) := by
  unfold firstT; rw [List.range_succ, List.map_append, List.foldl_append]; rfl
theorem firstT_length_le (val : Nat → Str) : ∀ i, (firstT val i).length ≤ i
  | 0 => Nat.le_refl _
  | i + 1 => by
    rw [firstT_succ]; unfold step_dedup
    have ih := firstT_length_le val i
    split
    · omega
    · rw [List.length_append, List.length_singleton]; omega
theorem stepT_any (σ : List Str) (v k : Str) : (step_dedup σ v).any (· == k) = (σ.any (· == k) || decide (k = v)) := by
  unfold step_dedup
  by_cases h : σ.any (· == v) = true
  · rw [if_pos h]
    by_cases e : k = v
    · subst e; rw [h]; simp
    · simp [e]
  · rw [if_neg h, List.any_append]
    by_cases e : k = v
    · subst e; simp
    · have hb : (v == k) = false := by simpa [beq_iff_eq] using (fun h' : v = k => e h'.symm)
      simp [hb, e]
theorem stepT_length (σ : List Str) (v : Str) : (step_dedup σ v).length = if σ.any (· == v) then σ.length else σ.length + 1 := by
  unfold step_dedup; split <;> simp
theorem firstT_mem (val : Nat → Str) : ∀ (i : Nat) (k : Str), k ∈ firstT val i → ∃ j, j < i ∧ val j = k
  | 0, k, h => nomatch h
  | i + 1, k, h => by
    rw [firstT_succ] at h
    unfold step_dedup at h
    split at h
    · obtain ⟨j, h1, h2⟩ := firstT_mem val i k h; exact ⟨j, by omega, h2⟩
    · rcases List.mem_append.mp h with h | h
      · obtain ⟨j, h1, h2⟩ := firstT_mem val i k h; exact ⟨j, by omega, h2⟩
      · exact ⟨i, by omega, (List.mem_singleton.mp h).symm⟩
theorem firstT_nodup {xs : List Str} {d : Str} (hn : xs.Nodup) : ∀ i, i ≤ xs.length → (firstT (fun j => xs.getD j d) i).length = i
  | 0, _ => rfl
  | i + 1, h => by
    rw [firstT_succ, stepT_length, if_neg, firstT_nodup hn i (by omega)]
    intro ha
    obtain ⟨k, hk, e⟩ := List.any_eq_true.mp ha
    obtain ⟨j, hj, e2⟩ := firstT_mem _ i k hk
    have e3 := beq_iff_eq.mp e
    rw [e3] at e2
    rw [List.getD_eq_getElem?_getD, List.getD_eq_getElem?_getD, List.getElem?_eq_getElem (by omega), List.getElem?_eq_getElem (by omega)] at e2
    have e4 : xs[j] = xs[i] := e2
    exact (List.pairwise_iff_getElem.mp hn) j i (by omega) (by omega) hj e4
section
variable {prog : Program} {w : World} {A : Around} {R : Result → Shared → Prop} {I : Addr} {fp wr : List Addr} {G : Array GenState → Array GenState → Prop} {n : Nat} {P : Nat → Value → Prop} {St : Nat → Shared → Prop}
theorem setOfT_congr {h : Heap} {a : Addr} {S S' : Str → Bool} {n n' : Nat} (hS : h.SetOf (strKind prog w) a S n) (e : ∀ k, S k = S' k) (en : n = n') : h.SetOf (strKind prog w) a S' n' := by
  have : S = S' := funext e
  subst this; subst en; exact hS
theorem set_update_texts (W : WalksS prog w A.in1 I fp wr G n P St) (S : Addr) (hSf : S ∉ fp)
    (val : Nat → Str) (hval : ∀ i v, P i v → ∃ t, v = .str (val i) t) (hb : n + 1 < scanBound) :
    ∀ (k i : Nat) (s : Shared), n - i = k → i ≤ n → St i s →
      s.heap.SetOf (strKind prog w) S (fun k' => (firstT val i).any (· == k')) (firstT val i).length →
      (∀ s', Moved (S :: wr) G s s' → s'.heap.SetOf (strKind prog w) S (fun k' => (firstT val n).any (· == k')) (firstT val n).length → R (.ok (.ret .none)) s') →
      codeAny (model prog w) A (.builtin "set.update.loop" ⟨[.ref S, .ref I], []⟩) R s := by
  have hSw : S ∉ wr := fun h => hSf (W.sub _ h)
  have hsub : ∀ b ∈ wr, b ∈ S :: wr := fun b hb => List.mem_cons_of_mem _ hb
  intro k
  induction k with
  | zero =>
    intro i s hk hi hst hS hR
    have hin : i = n := by omega
    subst hin
    refine codeAny_builtin PyProof.Rows.F.entry_set_update_loop ?_
    rw [Around.under_plainId PyProof.Rows.F.plain_set_update_loop _]
    show wpAny _ A.in1 (pyNext (.ref I) >>= _) _ _ s
    refine wpAny_bind (W.done s _ _ hst fun s' hm => ?_)
    show wpAny _ A.in1 (ret Value.none) _ _ s'
    exact wpAny_pure (hR s' (hm.mono hsub) (by
      obtain ⟨o, es, ep, t, ho, rest⟩ := hS
      exact ⟨o, es, ep, t, hm.heap S _ hSw ho, rest⟩))
  | succ k ih =>
    intro i s hk hi hst hS hR
    have hlt : i < n := by omega
    refine codeAny_builtin PyProof.Rows.F.entry_set_update_loop ?_
    rw [Around.under_plainId PyProof.Rows.F.plain_set_update_loop _]
    show wpAny _ A.in1 (pyNext (.ref I) >>= _) _ _ s
    refine wpAny_bind (W.item i s _ _ hlt hst fun v s' hP hst' hm => ?_)
    obtain ⟨t, rfl⟩ := hval i v hP
    have hS' : s'.heap.SetOf (strKind prog w) S (fun k' => (firstT val i).any (· == k')) (firstT val i).length := by
      obtain ⟨o, es, ep, tb, ho, rest⟩ := hS
      exact ⟨o, es, ep, tb, hm.heap S _ hSw ho, rest⟩
    show wpAny _ A.in1 (holding [Value.str (val i) t] (setAdd S (.str (val i) t)) >>= _) _ _ s'
    refine wpAny_bind (wpAny_holding ?_)
    unfold setAdd
    refine wpAny_holding ?_
    refine wpAny_bind ((strKind prog w).pyHash (k := val i) (strKind_is _ _ _ _) ?_)
    have hroom : (firstT val i).length + 1 < scanBound := by have := firstT_length_le val i; omega
    refine wpAny_setAddHashed_of (knd := strKind prog w) (s := { s' with toks := s'.toks + 1 }) (strKind_is _ _ _ _) rfl hS' hroom fun h' hsb hS2 => ?_
    have hSi : h'.SetOf (strKind prog w) S (fun k' => (firstT val (i + 1)).any (· == k')) (firstT val (i + 1)).length :=
      setOfT_congr hS2 (fun k' => by rw [firstT_succ, stepT_any]) (by rw [firstT_succ, stepT_length])
    refine wpAny_pure ⟨plainId_quiet PyProof.Rows.F.plain_set_update_loop _, ih (i + 1) _ (by omega) hlt (W.frame _ s' _ _ hst' (Nat.le_succ _) fun b hb o e => ?_) hSi fun s'' hm'' hS'' => ?_⟩
    · rw [hsb.2 b (fun h : b = S => hSf (by rw [← h]; exact hb))]; exact e
    · refine hR s'' (Moved.trans W.gtrans ((hm.mono hsub).then_heap (Nat.le_succ _) fun b o hb e => ?_) hm'') hS''
      rw [hsb.2 b (fun h : b = S => hb (by rw [h]; exact List.mem_cons_self))]; exact e
end
local macro_rules | `(tactic| walk_at "my_wp") => `(tactic| (first
  | with_reducible (first | refine wpAny_pure ?_ | refine wpAny_bind ?_ | refine wpAny_holding ?_ | refine wpAny_standAt ?_ | refine wpAny_point ?_ | refine wpAny_rule ?_ | refine wpAny_letGo ?_ | refine wpAny_mkInt' ?_ | refine wpAny_fresh' ?_ | refine wpAny_alloc' ?_ | refine wpAny_attempt ?_ | refine wpAny_throw ?_ | refine wpAny_of_eq (by assumption) ?_ | refine wpAny_typeOf (by assumption) ?_ | refine wpAny_specialOf_val (by assumption) (by assumption) ?_ | refine wpAny_specialOf (by assumption) (by assumption) ?_ | refine wpAny_isInstance_val (by assumption) (by assumption) ?_ | refine wpAny_isInstance (by assumption) (by assumption) ?_ | refine wpAny_call ?_ | refine wpAny_runValue ?_ | refine wpAny_run ?_)
  | ((fail_if_success with_reducible show wpAny _ _ (mkStr _) _ _ _); wp_delta)
  | ((with_reducible apply wpAny_load'); focus (heap_get; done))
  | ((with_reducible apply wpAny_update'); focus (heap_get; done))
  | ((with_reducible apply wpAny_loadPart'); focus (heap_get; done))
  | ((with_reducible apply wpAny_updatePart'); focus (heap_get; done))
  | ((with_reducible apply wpAny_handled_none); focus (assumption; done))
  | ((with_reducible apply wpAny_ite_false); focus (rfl; done))
  | ((with_reducible apply wpAny_ite_true); focus (rfl; done))
  | ((with_reducible apply wpAny_ite_false); focus (simp [*]; done))
  | ((with_reducible apply wpAny_ite_true); focus (simp [*]; done))
  | with_reducible_and_instances refine wpAny_pure ?_
  | with_reducible_and_instances refine wpAny_bind ?_))
section
variable {prog : Program} {w : World} {A : Around} {E : Value → Shared → Prop} {s : Shared}
theorem set_texts {l : Addr} {items : Array Value} {ns : List Str} {Q : Value → Shared → Prop}
    (hh : A.handled = none) (hl : s.heap.IsList l items) (hi : StrsAre items.toList ns) (hb : items.size + 1 < scanBound)
    (h : ∀ (h' : Heap) (tk : Nat), h'.SetOf (strKind prog w) s.heap.objs.size (fun k' => (firstT (fun i => ns.getD i Str.empty) items.size).any (· == k')) (firstT (fun i => ns.getD i Str.empty) items.size).length →
      (∀ b o, b < s.heap.objs.size → s.heap.get? b = some o → h'.get? b = some o) → Q (.ref s.heap.objs.size) { s with heap := h', toks := tk }) :
    wpAny (model prog w) A (call (.type "set") [.ref l]) Q E s := by
  obtain ⟨c, tl, hmro⟩ := PySem.F.called_set.mro
  have hmade := PySem.F.called_set.made
  have hsub := PySem.F.called_set.sub
  refine wpAny_call (codeAny_of_tree ?_)
  show wpAny _ _ (callAny (.type "set") _) _ _ _
  refine wpAny_pure ⟨Code.quiet_builtin _ (by decide +kernel), codeAny_builtin PySem.F.entry_type_call ?_⟩
  rw [Around.under_plain (weight_type_call_type "set" [.ref l] []) rfl]
  have h1 := PySem.F.called_set.notType
  have h2 := PySem.F.called_set.canCreate
  have hct := PySem.F.typeCall_set_1 (.ref l)
  repeat (any_goals (first | assumption | walk_at "my_wp"))
  refine codeAny_mono (code_set_new_1 (.ref l) (E := E) (Q₁ := fun obj s₁ => ∃ led : Bool, obj = .ref s.heap.objs.size ∧ s₁ = { s with heap := s.heap.push { cls := .type "set", dict := none, data := .set #[] 0 (.fresh 0 0 led) } }) fun led => ⟨led, rfl, rfl⟩) fun r s₁ hr => ?_
  cases r with
  | error e => exact hr
  | ok fl =>
    cases fl with
    | ret obj =>
      obtain ⟨led, rfl, rfl⟩ := hr
      have hS : (s.heap.push { cls := .type "set", dict := none, data := .set #[] 0 (.fresh 0 0 led) }).get? s.heap.objs.size = some { cls := .type "set", dict := none, data := .set #[] 0 (.fresh 0 0 led) } := Heap.get?_push_size _ rfl
      have hT : Shared.TypeIs { s with heap := s.heap.push { cls := .type "set", dict := none, data := .set #[] 0 (.fresh 0 0 led) } } (.ref s.heap.objs.size) "set" := ⟨_, hS, rfl⟩
      have hli := PySem.F.called_set.init.lookup
      have hbi := PySem.F.called_set.init.bind (.ref s.heap.objs.size)
      repeat (any_goals (first | assumption | walk_at "my_wp"))
      refine codeAny_mono (codeAny_call_builtin (R := wants (fun r s₂ => r = .none ∧ ∃ h' tk, s₂ = { s with heap := h', toks := tk } ∧
          h'.SetOf (strKind prog w) s.heap.objs.size (fun k' => (firstT (fun i => ns.getD i Str.empty) items.size).any (· == k')) (firstT (fun i => ns.getD i Str.empty) items.size).length ∧
          (∀ b o, b < s.heap.objs.size → s.heap.get? b = some o → h'.get? b = some o)) E) PySem.F.called_set.init.plain PySem.F.entry_set_init (check_set_init_1 hT ?_)) fun r₂ s₂ hr₂ => ?_
      · obtain ⟨ol, hol, hcl, nl, hdl⟩ := hl
        obtain ⟨ocls, odict, odata, oslots⟩ := ol
        simp only at hcl hdl
        subst hcl; subst hdl
        have hol' : (s.heap.push { cls := .type "set", dict := none, data := .set #[] 0 (.fresh 0 0 led) }).get? l = some { cls := .type "list", dict := odict, data := .seq items nl, slots := oslots } := Heap.get?_push_of_some _ hol
        have hsls := PySem.F.sub_list_set
        have hslf := PySem.F.sub_list_frozenset
        have hne : (Value.type "list" == Value.type "dict") = false := by decide
        have hl1 : (s.heap.push { cls := .type "set", dict := none, data := .set #[] 0 (.fresh 0 0 led) }).IsList l items := ⟨_, hol', rfl, nl, rfl⟩
        unfold Builtin.«set.__init__» noKeywords Builtin.Frozenset.updateFrom
        generalize hPI : pyIter = PI
        repeat (first | walk_at "my_wp")
        subst hPI
        refine wpAny_pyIter_list hl1 ?_
        refine wpAny_bind (wpAny_runValue ?_)
        have hlS : l < s.heap.objs.size := Heap.lt_size hol
        have hh3 : A.in1.in1.in1.handled = none := by simp [hh]
        have hneI : l ≠ (s.heap.push { cls := .type "set", dict := none, data := .set #[] 0 (.fresh 0 0 led) }).objs.size := by
          rw [Heap.size_push]; exact Nat.ne_of_lt (Nat.lt_succ_of_lt hlS)
        have hSf : s.heap.objs.size ∉ [(s.heap.push { cls := .type "set", dict := none, data := .set #[] 0 (.fresh 0 0 led) }).objs.size, l] := by
          rw [Heap.size_push]; simp only [List.mem_cons, List.not_mem_nil, or_false, not_or]
          exact ⟨Nat.ne_of_lt (Nat.lt_succ_self _), Nat.ne_of_gt hlS⟩
        have hval : ∀ (i : Nat) (v : Value), items[i]? = some v → ∃ t, v = .str ((fun i => ns.getD i Str.empty) i) t := fun i v hv => by
          have hv' : items.toList[i]? = some v := by rw [Array.getElem?_toList]; exact hv
          obtain ⟨hlt, e⟩ := List.getElem?_eq_some_iff.mp hv'
          obtain ⟨y, t, e1, e2⟩ := strs_at hi i hlt
          refine ⟨t, ?_⟩
          rw [← e, e1]
          dsimp only
          rw [List.getD_eq_getElem?_getD, e2]; rfl
        refine set_update_texts ((Walks.list hh3 _ l hneI items).toS) s.heap.objs.size
          hSf (fun i => ns.getD i Str.empty) hval hb (items.size - 0) 0 _ (by omega) (Nat.zero_le _)
          ⟨⟨_, Heap.get?_push_size _ rfl, rfl, rfl⟩, (hl1.push _)⟩ ?hS0 ?hR
        case hS0 =>
          have hget : ((s.heap.push { cls := .type "set", dict := none, data := .set #[] 0 (.fresh 0 0 led) }).push { cls := .type "list_iterator", data := .fields #[.ref l, .int 0 0] }).get? s.heap.objs.size
              = some { cls := .type "set", dict := none, data := .set #[] 0 (.fresh 0 0 led) } := Heap.get?_push_of_some _ hS
          exact setOfT_congr ((setObjOf_fresh (knd := strKind prog w) led).setOf hget (by unfold scanBound; omega)) (fun _ => rfl) rfl
        case hR =>
          intro s' hm hS'
          obtain ⟨h', g', d', tk', os'⟩ := s'
          have eg : g' = s.gens := hm.gens
          have ed : d' = s.drawn := hm.drawn
          have eo : os' = s.os := hm.os
          subst eg; subst ed; subst eo
          show wpAny _ _ _ _ _ _
          refine wpAny_pure ?_
          show wpAny _ _ (ret Value.none) _ _ _
          refine wpAny_pure ⟨rfl, h', tk', rfl, hS', fun b o hb e => ?_⟩
          have hb1 : b ≠ s.heap.objs.size := Nat.ne_of_lt hb
          have hb2 : b ≠ (s.heap.push { cls := .type "set", dict := none, data := .set #[] 0 (.fresh 0 0 led) }).objs.size := by
            rw [Heap.size_push]; exact Nat.ne_of_lt (Nat.lt_succ_of_lt hb)
          exact hm.heap b o (by simp only [List.mem_cons, List.not_mem_nil, or_false, not_or]; exact ⟨hb1, hb2⟩) (Heap.get?_push_of_some _ (Heap.get?_push_of_some _ e))
      · cases r₂ with
        | error e => exact hr₂
        | ok fl₂ =>
          cases fl₂ with
          | ret r =>
            obtain ⟨rfl, h', tk, rfl, hS', hk'⟩ := hr₂
            repeat (any_goals (first | assumption | walk_at "my_wp"))
            exact h _ _ hS' hk'
          | _ => exact hr₂.elim
    | _ => exact hr.elim
/-- set(xs), xs texts that differ: a new object whose length is theirs -/
theorem newSetT {g : Heap} {L l : Addr} {m : Str → Option Value} {news : List (Addr × Obj)} {vs : List Value} {ns : List Str} {Q : Value → Shared → Prop} (F : Fr g L s.heap m) (N : News g L s.heap news)
    (hh : A.handled = none) (hl : s.heap.IsList l vs.toArray) (hi : StrsAre vs ns) (hb : ns.length ≤ 1000) (hn : ns.Nodup)
    (h : ∀ D h' (tk : Nat) (o : Obj) (Sf : Str → Bool), Fr g L h' m → News g L h' ((D, o) :: news) → o.SetObjOf (strKind prog w) Sf ns.length → (∀ q ∈ news, q.1 < D) → Q (.ref D) { s with heap := h', toks := tk }) :
    wpAny (model prog w) A (call (.type "set") [.ref l]) Q E s := by
  have hvn : vs.length = ns.length := strs_len hi
  have hsz : vs.toArray.size = vs.length := List.size_toArray
  refine set_texts (items := vs.toArray) (ns := ns) hh hl (by simpa using hi) (by rw [hsz, hvn]; unfold scanBound; omega) fun h' tk hS hk => ?_
  rw [hsz, hvn, firstT_nodup hn _ (Nat.le_refl _)] at hS
  obtain ⟨o, ho, hso⟩ := hS.objOf
  obtain ⟨oL, _, _, hL, _⟩ := F.ns
  have hLlt : L < s.heap.objs.size := Heap.lt_size hL
  refine h _ h' tk o _ ⟨F.ns.at' fun o' e => hk L o' hLlt e, fun b o' e => hk b o' (Heap.lt_size (F.keep b o' e)) (F.keep b o' e), F.above⟩ (fun p hp => ?_) hso fun q hq => Heap.lt_size (N q hq).1
  rcases List.mem_cons.mp hp with rfl | hp
  · refine ⟨ho, Nat.ne_of_gt hLlt, ?_⟩
    cases hq : g.get? s.heap.objs.size with
    | none => rfl
    | some o' => exact absurd (Heap.lt_size (F.keep _ _ hq)) (Nat.lt_irrefl _)
  · exact ⟨hk _ _ (Heap.lt_size (N p hp).1) (N p hp).1, (N p hp).2.1, (N p hp).2.2⟩
theorem lenSetT {g : Heap} {L D : Addr} {news : List (Addr × Obj)} {o : Obj} {Sf : Str → Bool} {n : Nat} {Q : Value → Shared → Prop} (N : News g L s.heap news) (hm : (D, o) ∈ news) (ho : o.SetObjOf (strKind prog w) Sf n) (hz : n ≤ 1000)
    (h : Q (.int n (s.toks + 1)) { s with toks := s.toks + 1 + 1 }) : wpAny (model prog w) A (call (.builtin "len") [.ref D]) Q E s := by
  obtain ⟨hex, es, ep, t, hd, _, _, hn, hf⟩ := ho
  subst hn
  exact call_len_set (N _ hm).1 hex hd hf (by omega) h
end
end
section
set_option maxHeartbeats 1000000
noncomputable def lawParts : Arguments × List PySem.Stmt × Scope × Pos := askOf (PySem.Challenge.pw_qz0007_01.main.body.getD 37 (.Pass ⟨0, 0, 0, 0⟩))
noncomputable def lawBody : List PySem.Stmt := lawParts.2.1
noncomputable def lawScope : Scope := lawParts.2.2.1
noncomputable abbrev lawEnv (L f : Addr) (cd : Value) : Env := envOfC (Str.ofString "law") lawScope L f cd
/-- the frame's map -/
noncomputable abbrev mapL (l : List (Str × Value)) : Str → Option Value := fun y => List.lookup y l
theorem mapL_cons {x : Str} {v : Value} {l : List (Str × Value)} (y : Str) : (if y = x then some v else mapL l y) = mapL ((x, v) :: l) y := by
  show _ = List.lookup y ((x, v) :: l)
  rw [List.lookup_cons]
  by_cases h : y = x
  · subst h; simp
  · have e : (y == x) = false := by simpa using h
    rw [if_neg h, e]
theorem fr_map {g h : Heap} {L : Addr} {x : Str} {v : Value} {l : List (Str × Value)} (F : Fr g L h (fun y => if y = x then some v else mapL l y)) : Fr g L h (mapL ((x, v) :: l)) := frCongr F mapL_cons
structure HaltL (P : Prop) : Prop where
  it : P
local macro_rules | `(tactic| walk_at "execs cons") => `(tactic| (k_here; (refine HaltL.it ?_)))
structure Mark1 : Prop where
structure Mark2 : Prop where
local macro_rules | `(tactic| walk_at "eval ListComp") => `(tactic| (k_here; (have mk' : Mark1 := by assumption); (refine HaltL.it ?_)))
local macro_rules | `(tactic| walk_at "exec Assign cons ListComp") => `(tactic| (k_here; (have mk' : Mark2 := by assumption); (refine HaltL.it ?_)))
noncomputable def keyName (t i : Nat) : Str := Str.ofString "k" ++ Str.ofString (toString (((5 * (i : Int) + (t : Int)).fmod 11)))
noncomputable def baseName (i : Nat) : Str := Str.ofString "b" ++ Str.ofString (toString (i : Int))
theorem law_A {prog : Program} {w : World} {mg mb : Str → Option Value} {p : Program} {loose : List Str} {mean : ExcName → Option Value} {dp un : Nat} {fr : Option (List Env)} {gd : Option (List Code)} {s : Shared} {g : Heap} {L fa sa : Addr} {cd : Value} {Q : Flow → Shared → Prop}
   {vs : List Value} {ns : List Int} {ok ot of : Obj} {ps : Array Value}
   (G : Gd w mg mb p loose mean g) (hr : dp + 300 < recursionLimit) (hu : un + 3000 < cLine)
   (F : Fr g L s.heap (mapL [(Str.ofString "script", .ref sa)])) (N : News g L s.heap [(L + 3, ok), (L + 2, ot), (L + 1, of), (221, tabObj ps)]) (hL : @LT.lt Nat _ 221 L)
   (hk : ok.data = .cell none) (ht : ot.data = .cell none) (hf : of.data = .cell none) (hs : g.IsList sa vs.toArray) (hi : IntsAre vs ns) (hlen : ns.length ≤ 63)
   (k : ∀ (h' : Heap) (tk : Nat) (lc d ka ba : Addr) (od ok' ot' of' : Obj) (cs kvs bvs : List Value) (ncs kn bn' : Nat) (nc : List Int) (tn mn bn : Nat) (tmany tturn tfd : Tok),
      Fr g L h' (mapL [(Str.ofString "base", .ref ba), (Str.ofString "many", .int mn tmany), (Str.ofString "script", .ref sa)]) →
      News g L h' [(ba, listOf bvs.toArray bn'), (ka, listOf kvs.toArray kn), (lc, listOf cs.toArray ncs), (d, od), (L + 3, ok'), (L + 2, ot'), (L + 1, of'), (221, tabObj ps)] →
      @LT.lt Nat _ (L + 3) d → (@Ne Nat d lc ∧ @Ne Nat (L + 3) lc ∧ @Ne Nat (L + 2) lc ∧ @Ne Nat (L + 1) lc ∧ @Ne Nat 221 lc) → (@Ne Nat lc ka ∧ @Ne Nat d ka ∧ @Ne Nat (L + 3) ka ∧ @Ne Nat (L + 2) ka ∧ @Ne Nat (L + 1) ka ∧ @Ne Nat 221 ka) →
      (@Ne Nat ka ba ∧ @Ne Nat lc ba ∧ @Ne Nat d ba ∧ @Ne Nat (L + 3) ba ∧ @Ne Nat (L + 2) ba ∧ @Ne Nat (L + 1) ba ∧ @Ne Nat 221 ba) →
      IntsAre cs nc → nc.length < 100 → od.IsDictOf (strKind prog w) (feedKvs lc (0 + 1 + 1 + 1) tfd) → ok'.data = .cell (some (.ref ka)) → ot'.data = .cell (some (.int tn tturn)) → of'.data = .cell (some (.ref d)) →
      StrsAre kvs ((List.range mn).map (keyName tn)) → StrsAre bvs ((List.range bn).map baseName) → mn < 9 → tn < 11 → bn < 3 →
      wpAny (model prog w) ((⟨none, dp, fr, gd, un⟩ : Around).deeper (lawEnv L fa cd)) (execs (lawBody.drop 4) (lawEnv L fa cd)) Q (fun _ _ => False) { s with heap := h', toks := tk }) :
   wpAny (model prog w) ((⟨none, dp, fr, gd, un⟩ : Around).deeper (lawEnv L fa cd)) (execs lawBody (lawEnv L fa cd)) Q (fun _ _ => False) s := by
  have e1 : lawBody = lawBody := rfl
  conv at e1 => rhs; whnf
  have e2 : lawScope = lawScope := rfl
  conv at e2 => rhs; whnf
  unfold lawEnv
  rw [e1, e2]
  clear e1 e2
  have X := G.X
  have T := G.T
  refine wpAny_execs_cons ?_
  repeat' (first | walk1 | (dsimp only; walk1))
  refine HaltL.mk ?_
  (rename IntsAre _ ((ns.take 60).map _) => hcs)
  have hcl : ((ns.take 60).map fun k => k.fmod 5040).length < 100 := by rw [List.length_map, List.length_take]; omega
  generalize (ns.take 60).map (fun k => k.fmod 5040) = nc at hcs hcl
  (rename Obj.IsDictOf _ _ [] => hd0); clear hd0
  (rename ((_ == sysModules) = false) => hlo); clear hlo
  (rename IntsAre _ (ns.take 60) => hi60); clear hi60
  (rename Obj.IsDictOf _ _ (strPairs _) => hd1)
  replace hd1 : Obj.IsDictOf (strKind prog w) _ (feedKvs _ 0 _) := hd1
  (rename Fr _ _ _ _ => F1); (rename News _ _ _ _ => N0); (rename _ = Data.cell (some _) => dof)
  rename_i d _ _ ld wsa _ _ hC hL' _ _ hkl _ hL8 lc _ _ nelc _ od _ of1
  clear hC hL' hkl hL8
  have N1 : News g L _ [(lc, listOf ys.toArray ys.length), (d, od), (L + 3, ok), (L + 2, ot), (L + 1, of1), (221, tabObj ps)] := newsSub N0 (by walk_at "my_sub")
  clear N0
  obtain ⟨_, nd, n3, n2, n1, n0⟩ := nelc
  have hne : lc ≠ d := fun e => nd e.symm
  replace ld := ld.1
  generalize ys.length = ylen at N1
  refine wpAny_execs_cons ?_
  repeat' (first | walk1 | (dsimp only; walk1))
  refine HaltL.mk ?_
  (rename Fr _ _ _ _ => F2); (rename News _ _ _ _ => N2); (rename _ = Data.cell (some (Value.int _ _)) => dot); (rename Obj.IsDictOf _ _ (feedKvs lc (0 + 1 + 1) _) => hd2)
  rename_i many tmany _ _ am bm od2 _ _ turn tturn _ at2 bt tup _ lt _ _ _ ot1
  replace F2 := fr_map F2
  have mk1 : Mark1 := ⟨⟩
  refine wpAny_execs_cons ?_
  obtain ⟨tn, etn⟩ := Int.eq_ofNat_of_zero_le at2
  subst etn
  obtain ⟨mn, emn⟩ := Int.eq_ofNat_of_zero_le am
  subst emn
  repeat' (first | walk1 | (dsimp only; walk1))
  refine HaltL.mk ?_
  refine' compRange F2 (keyName tn) rfl ?_
  repeat' (first | walk1 | (dsimp only; walk1))
  all_goals (try k_data)
  (rename IsRange _ _ _ _ _ _ _ _ => hir); (rename Fr _ _ _ _ => F3); (rename News _ _ _ _ => N3)
  refine Stop.mk ⟨_, _, _, _, mn, _, rfl, hir, by omega, F3, N3, ?_, ?_⟩
  · intro C i t s₂ m₂ E' hin hn hm hk
    have F4 := F3.keeps hk
    have N4 := N3.grown hk
    repeat' (first | walk1 | (dsimp only; walk1))
    exact ⟨_, _, rfl, fun _ _ e => e⟩
  · intro ka kvs kn h' tk' F4 N4 hne4 hks
    replace hne4 := allNe_of hne4
    simp only [AllNe, and_true] at hne4
    clear F3 N3
    repeat' (first | walk1 | (dsimp only; walk1))
    refine HaltL.mk ?_
    (rename Fr _ _ _ _ => F5); (rename News _ _ _ _ => N5); (rename _ = Data.cell (some (Value.ref ka)) => dok)
    have mk2 : Mark2 := ⟨⟩
    refine wpAny_execs_cons ?_
    repeat' (first | walk1 | (dsimp only; walk1))
    refine HaltL.mk ?_
    refine' assignRange F5 baseName rfl ?_ rfl
    repeat' (first | walk1 | (dsimp only; walk1))
    all_goals (try k_data)
    (rename IsRange _ _ _ _ _ _ _ _ => hir2); (rename Fr _ _ _ _ => F6); (rename News _ _ _ _ => N6); (rename ((_ : Int) < 3) => bb); (rename (0 ≤ (_ : Int)) => ab)
    obtain ⟨bn, ebn⟩ := Int.eq_ofNat_of_zero_le ab
    subst ebn
    refine Stop.mk ⟨_, _, _, _, bn, _, rfl, hir2, by omega, F6, N6, ?_, ?_⟩
    · intro C i t s₂ m₂ E' hin hn hm hk
      have F7 := F6.keeps hk
      have N7 := N6.grown hk
      repeat' (first | walk1 | (dsimp only; walk1))
      exact ⟨_, _, rfl, fun _ _ e => e⟩
    · intro ba bvs bn' h8 tk8 F8 N8 hne8 hbs
      replace hne8 := allNe_of hne8
      simp only [AllNe, and_true] at hne8
      replace F8 := fr_map F8
      clear F6 N6
      repeat' (first | walk1 | (dsimp only; walk1))
      refine HaltL.mk ?_
      (rename Obj.IsDictOf _ _ (feedKvs lc (0 + 1 + 1 + 1) _) => hd3)
      refine k _ _ lc d ka ba _ _ _ _ ys kvs bvs ylen kn bn' nc tn mn bn _ _ _ F8 (newsSub N8 ?sb) ld ⟨nd, n3, n2, n1, n0⟩ hne4.2 ⟨hne8.1, hne8.2.2⟩ hcs hcl hd3 dok dot dof hks hbs (by omega) (by omega) (by omega)
      case sb => walk_at "my_sub"
end
section
local macro_rules | `(tactic| walk_at "my_p") => `(tactic| skip)
set_option maxHeartbeats 1000000
structure HaltM (P : Prop) : Prop where
  it : P
structure Mark3 : Prop where
local macro_rules | `(tactic| walk_at "execs cons") => `(tactic| (k_here; (have mkz : Mark3 := by assumption); clear mkz; (refine HaltM.it ?_)))
local macro_rules | `(tactic| walk_at "exec For Name Call cons nil") => `(tactic| (k_here; (refine HaltM.it ?_)))
local macro_rules | `(tactic| walk_at "eval ListComp") => `(tactic| (k_here; (refine HaltM.it ?_)))
theorem row_turn {b : Bool} {ys : List Value} {row l l' : List Str} {y : Str} {ty : Tok} (h : StrsAre ys row) (hs : row.Sublist l) (e : l' = l ++ [y]) : ∃ row', StrsAre (if b = true then ys ++ [Value.str y ty] else ys) row' ∧ row'.Sublist l' := by
  subst e
  cases b with
  | true => rw [if_pos rfl]; exact ⟨row ++ [y], strs_append h (.cons _ _ .nil), List.Sublist.append hs (List.Sublist.refl _)⟩
  | false => rw [if_neg Bool.false_ne_true]; exact ⟨row, h, hs.trans (List.sublist_append_left _ _)⟩
theorem off1_mem {D : Addr} : ∀ {l : List (Addr × Obj)}, LCg.Off1 D l → ∀ p ∈ l, p.1 ≠ D
  | [], _, _, h => nomatch h
  | _ :: _, x, p, h => by
    rcases List.mem_cons.mp h with rfl | h
    · exact x.1
    · exact off1_mem x.2 p h
theorem lots_snoc {g : Heap} {S S' : List (Addr × Obj)} {D : Addr} {us : List Value} {xs : List Str} {n : Nat} (hm : (D, listOf us.toArray n) ∈ S') (hx : StrsAre us xs) (hs : ∀ q ∈ S, q ∈ S') : ∀ {vs : List Value} {r : List (List Str)}, LotsAt g S vs r → LotsAt g S' (vs ++ [.ref D]) (r ++ [xs])
  | _, _, .nil => .new hm rfl rfl hx .nil
  | _, _, .old t x => .old t (lots_snoc hm hx hs x)
  | _, _, .new m c d e x => .new (hs _ m) c d e (lots_snoc hm hx hs x)
inductive RowsI (prog : Program) (w : World) (g : Heap) (L ra ba ka lc d sa : Addr) (bvs kvs cs : List Value) (bn' kn ncs : Nat) (ok ot of : Obj) (ps : Array Value) (base keys : List Str) (mn : Nat) (tmany : Tok) (i : Nat) (m : Str → Option Value) (nx : List (Addr × Obj)) : Prop
  | mk (od' : Obj) (spot : Int) (t : Tok) (rvs : List Value) (nr : Nat) (S : List (Addr × Obj)) (rows : List (List Str)) (_ : nx = (ra, listOf rvs.toArray nr) :: (ba, listOf bvs.toArray bn') :: (ka, listOf kvs.toArray kn) :: (lc, listOf cs.toArray ncs) :: (d, od') :: (L + 3, ok) :: (L + 2, ot) :: (L + 1, of) :: (221, tabObj ps) :: S) (_ : od'.IsDictOf (strKind prog w) (feedKvs lc spot t)) (_ : 0 ≤ spot) (_ : spot ≤ 4 + 20 * (i : Int)) (_ : LotsAt g S rvs rows) (_ : rows.length = i) (_ : ∀ r ∈ rows, r.Sublist (base ++ keys)) (_ : ∀ q ∈ S, q.1 ≠ ra) (_ : ∀ q ∈ S, q.1 ≠ d) (_ : ∀ q ∈ S, q.1 ≠ 221) (_ : ∀ y, y ≠ Str.ofString "lap" → m y = mapL [(Str.ofString "rows", .ref ra), (Str.ofString "base", .ref ba), (Str.ofString "many", .int mn tmany), (Str.ofString "script", .ref sa)] y) : RowsI prog w g L ra ba ka lc d sa bvs kvs cs bn' kn ncs ok ot of ps base keys mn tmany i m nx
inductive RowI (prog : Program) (w : World) (L D0 ra ba ka lc d : Addr) (zs rvs bvs kvs cs : List Value) (nr bn' kn ncs : Nat) (ok ot of : Obj) (ps : Array Value) (S3 : List (Addr × Obj)) (base keys : List Str) (spot : Int) (j : Nat) (ys : List Value) (nx2 : List (Addr × Obj)) : Prop
  | mk (od2 : Obj) (spot2 : Int) (t2 : Tok) (row : List Str) (_ : nx2 = (D0, listOf zs.toArray 0) :: (ra, listOf rvs.toArray nr) :: (ba, listOf bvs.toArray bn') :: (ka, listOf kvs.toArray kn) :: (lc, listOf cs.toArray ncs) :: (d, od2) :: (L + 3, ok) :: (L + 2, ot) :: (L + 1, of) :: (221, tabObj ps) :: S3) (_ : od2.IsDictOf (strKind prog w) (feedKvs lc spot2 t2)) (_ : 0 ≤ spot2) (_ : spot2 ≤ spot + (j : Int)) (_ : StrsAre ys row) (_ : row.Sublist ((base ++ keys).take j)) : RowI prog w L D0 ra ba ka lc d zs rvs bvs kvs cs nr bn' kn ncs ok ot of ps S3 base keys spot j ys nx2
theorem law_B {prog : Program} {w : World} {mg mb : Str → Option Value} {p : Program} {loose : List Str} {mean : ExcName → Option Value} {dp un : Nat} {fr : Option (List Env)} {gd : Option (List Code)} {s : Shared} {g : Heap} {L fa sa : Addr} {cd : Value} {Q : Flow → Shared → Prop}
   {lc d ka ba : Addr} {od ok ot of : Obj} {cs kvs bvs : List Value} {ncs kn bn' : Nat} {nc : List Int} {tn mn bn : Nat} {tmany tturn tfd : Tok} {base keys : List Str} {ps : Array Value}
   (G : Gd w mg mb p loose mean g) (hr : dp + 300 < recursionLimit) (hu : un + 3000 < cLine)
   (F : Fr g L s.heap (mapL [(Str.ofString "base", .ref ba), (Str.ofString "many", .int mn tmany), (Str.ofString "script", .ref sa)]))
   (N : News g L s.heap [(ba, listOf bvs.toArray bn'), (ka, listOf kvs.toArray kn), (lc, listOf cs.toArray ncs), (d, od), (L + 3, ok), (L + 2, ot), (L + 1, of), (221, tabObj ps)]) (hL : @LT.lt Nat _ 221 L)
   (ld : @LT.lt Nat _ (L + 3) d) (nlc : @Ne Nat d lc ∧ @Ne Nat (L + 3) lc ∧ @Ne Nat (L + 2) lc ∧ @Ne Nat (L + 1) lc ∧ @Ne Nat 221 lc) (nka : @Ne Nat lc ka ∧ @Ne Nat d ka ∧ @Ne Nat (L + 3) ka ∧ @Ne Nat (L + 2) ka ∧ @Ne Nat (L + 1) ka ∧ @Ne Nat 221 ka)
   (nba : @Ne Nat ka ba ∧ @Ne Nat lc ba ∧ @Ne Nat d ba ∧ @Ne Nat (L + 3) ba ∧ @Ne Nat (L + 2) ba ∧ @Ne Nat (L + 1) ba ∧ @Ne Nat 221 ba)
   (hcs : IntsAre cs nc) (hcl : nc.length < 100) (hd : od.IsDictOf (strKind prog w) (feedKvs lc (0 + 1 + 1 + 1) tfd)) (hok : ok.data = .cell (some (.ref ka))) (hot : ot.data = .cell (some (.int tn tturn))) (hof : of.data = .cell (some (.ref d)))
   (hks : StrsAre kvs keys) (hbs : StrsAre bvs base) (hkl : keys.length ≤ 8) (hbl : base.length ≤ 2)
   (k : ∀ (h' : Heap) (tk : Nat) (ra : Addr) (od' : Obj) (spot : Int) (t : Tok) (rvs : List Value) (nr : Nat) (S : List (Addr × Obj)) (rows : List (List Str)) (ml : Option Value),
      Fr g L h' (fun y => if y = Str.ofString "lap" then ml else mapL [(Str.ofString "rows", .ref ra), (Str.ofString "base", .ref ba), (Str.ofString "many", .int mn tmany), (Str.ofString "script", .ref sa)] y) →
      News g L h' ((ra, listOf rvs.toArray nr) :: (ba, listOf bvs.toArray bn') :: (ka, listOf kvs.toArray kn) :: (lc, listOf cs.toArray ncs) :: (d, od') :: (L + 3, ok) :: (L + 2, ot) :: (L + 1, of) :: (221, tabObj ps) :: S) →
      (@LT.lt Nat _ ba ra ∧ @LT.lt Nat _ ka ra ∧ @LT.lt Nat _ lc ra ∧ @LT.lt Nat _ d ra) → od'.IsDictOf (strKind prog w) (feedKvs lc spot t) → 0 ≤ spot → spot ≤ 100 → LotsAt g S rvs rows → 1 ≤ rows.length → rows.length ≤ 3 → (∀ r ∈ rows, r.Sublist (base ++ keys)) → (∀ q ∈ S, q.1 ≠ ra) → (∀ q ∈ S, q.1 ≠ d) → (∀ q ∈ S, q.1 ≠ 221) →
      wpAny (model prog w) ((⟨none, dp, fr, gd, un⟩ : Around).deeper (lawEnv L fa cd)) (execs (lawBody.drop 6) (lawEnv L fa cd)) Q (fun _ _ => False) { s with heap := h', toks := tk }) :
   wpAny (model prog w) ((⟨none, dp, fr, gd, un⟩ : Around).deeper (lawEnv L fa cd)) (execs (lawBody.drop 4) (lawEnv L fa cd)) Q (fun _ _ => False) s := by
  have e1 : lawBody.drop 4 = lawBody.drop 4 := rfl
  conv at e1 => rhs; whnf
  have e2 : lawScope = lawScope := rfl
  conv at e2 => rhs; whnf
  unfold lawEnv
  rw [e1, e2]
  clear e1 e2
  have X := G.X
  have T := G.T
  have hne : lc ≠ d := fun e => nlc.1 e.symm
  have mk3 : Mark3 := ⟨⟩
  refine wpAny_execs_cons ?_
  repeat' (first | walk1 | (dsimp only; walk1))
  refine HaltM.mk ?_
  (rename Fr _ _ _ _ => F1); (rename News _ _ _ _ => N1)
  replace F1 := fr_map F1
  clear mk3
  refine wpAny_execs_cons ?_
  repeat' (first | walk1 | (dsimp only; walk1))
  all_goals (try k_data)
  refine HaltM.mk ?_
  rename_i ra _ lra _
  refine' forRange F1 rfl ?_
  repeat' (first | walk1 | (dsimp only; walk1))
  all_goals (try k_data)
  (rename IsRange _ _ _ _ _ _ _ _ => hir); (rename Fr _ _ _ _ => F2); (rename News _ _ _ _ => N2); (rename ((_ : Int) < 3) => b3); (rename (0 ≤ (_ : Int)) => a3); (rename Obj.IsDictOf _ _ _ => hd3)
  obtain ⟨r3, er3⟩ := Int.eq_ofNat_of_zero_le a3
  subst er3
  refine Stop.mk ⟨_, _, _, _, _, _, _, 1 + r3, _, _, (RowsI prog w g L ra ba ka lc d sa bvs kvs cs bn' kn ncs ok ot of ps base keys mn tmany), rfl, hir, ?_, ?_, F2, N2, ?_, ?_, ?_⟩
  · exact small_one (by omega) (by omega) (by omega) (by omega)
  · rw [rangeSize_one]; split <;> omega
  · exact ⟨_, _, _, [], _, [], [], rfl, hd3, by omega, by omega, .nil, rfl, (fun _ h => nomatch h), (fun _ h => nomatch h), (fun _ h => nomatch h), (fun _ h => nomatch h), fun y _ => rfl⟩
  · rintro i m₁ nx h tk t I oI hi hoff ⟨od', spot, t', rvs, nr, S, rows, rfl, hd', h0, h1, hS, hrl, hsub, so1, so2, so3, hm⟩ F₁ N₁
    change Fr _ L _ _ at F₁; change News _ L _ _ at N₁
    simp only [List.cons_append] at N₁
    clear F2 N2
    replace F₁ := (frCongr F₁ (m' := fun y => if y = Str.ofString "lap" then some (.int ((0 : Int) + (i : Int) * 1) t) else mapL [(Str.ofString "rows", .ref ra), (Str.ofString "base", .ref ba), (Str.ofString "many", .int mn tmany), (Str.ofString "script", .ref sa)] y) (fun y => by
      by_cases hy : y = Str.ofString "lap"
      · simp [hy]
      · simp only [if_neg hy]; exact hm y hy))
    have offI : ∀ b ∈ _, I ≠ b := fun b hb => hoff _ (.head _) b hb
    simp only [List.map_cons, List.mem_cons] at offI
    have i1 : ra ≠ I := (offI ra (.inl rfl)).symm
    have i2 : d ≠ I := (offI d (by walk_at "my_of")).symm
    have o1' : ∀ q ∈ S ++ [(I, oI)], q.1 ≠ ra := fun z hz => (List.mem_append.mp hz).elim (so1 z) fun hz => by rw [List.mem_singleton.mp hz]; exact i1.symm
    have o2' : ∀ q ∈ S ++ [(I, oI)], q.1 ≠ d := fun z hz => (List.mem_append.mp hz).elim (so2 z) fun hz => by rw [List.mem_singleton.mp hz]; exact i2.symm
    have s2' : ∀ q ∈ S, q ∈ S ++ [(I, oI)] := fun z hz => List.mem_append_left _ hz
    have sI : (I, oI) ∈ S ++ [(I, oI)] := List.mem_append_right _ (.head _)
    generalize S ++ [(I, oI)] = S3 at *
    repeat' (first | walk1 | (dsimp only; walk1))
    refine HaltM.mk ?_
    refine' compInv F₁ rfl ?_
    repeat' (first | walk1 | (dsimp only; walk1))
    all_goals (try k_data)
    (rename Fr _ _ _ _ => F3); (rename News _ _ _ _ => N3); (rename StrsAre _ (base ++ keys) => hzs)
    rename_i D0 zs _ lD0
    have hzl : zs.length = base.length + keys.length := by rw [strs_len hzs, List.length_append]
    refine Stop.mk ⟨D0, zs, 0, _, (RowI prog w L D0 ra ba ka lc d zs rvs bvs kvs cs nr bn' kn ncs ok ot of ps S3 base keys spot), rfl, F3, N3, .head _, by omega, ⟨_, _, _, [], rfl, hd', h0, by omega, .nil, List.nil_sublist _⟩, ?_, ?_⟩
    · rintro j v ys nx2 I2 oI2 C oC D m₂ h2 tk2 E' hv ⟨od2, spot2, t2, row, rfl, hd2, g0, g1, hrow, hrs⟩ hC hxv F4 N4 off ne
      obtain ⟨y, ty, ev, hy⟩ := strs_at hzs j (List.getElem?_eq_some_iff.mp hv).1
      have ev' : v = .str y ty := by rw [← ev]; exact (List.getElem?_eq_some_iff.mp hv).2.symm
      subst ev'
      obtain ⟨q1, q2, q3⟩ := LCg.Off3.mem off (d, od2) (.tail _ (.tail _ (.tail _ (.tail _ (.tail _ (.head _))))))
      replace q1 := neN q1; replace q2 := neN q2; replace q3 := neN q3
      dsimp only at q1 q2 q3
      have hjl : (j : Int) < 10 := by have := (List.getElem?_eq_some_iff.mp hv).1; omega
      clear F3 N3
      repeat' (first | walk1 | (dsimp only; walk1))
      (rename Fr _ _ _ _ => F5); (rename News _ _ _ _ => N5); (rename Obj.IsDictOf _ _ (feedKvs lc (spot2 + 1) _) => hd5)
      have etk : (base ++ keys).take (j + 1) = (base ++ keys).take j ++ [y] := by rw [List.take_add_one, hy]; rfl
      obtain ⟨row', r1, r2⟩ := row_turn hrow hrs etk
      exact Stop.mk ⟨_, _, _, rfl, F5, N5, off, .inr ⟨_, .head _, rfl, _, rfl⟩, _, _, _, row', rfl, hd5, by omega, by omega, r1, r2⟩
    · rintro D ys nx2 h2 tk2 ⟨od2, spot2, t2, row, rfl, hd2, g0, g1, hrow, hrs⟩ F4 N4 off
      clear F3 N3
      have hoD := off1_mem off
      have w1 := neN (hoD (ra, _) (.tail _ (.head _)))
      have wI := hoD (I, oI) (by walk_at "my_in")
      have wd := hoD (d, od2) (.tail _ (.tail _ (.tail _ (.tail _ (.tail _ (.head _))))))
      have w2 := hoD (221, tabObj ps) (.tail _ (.tail _ (.tail _ (.tail _ (.tail _ (.tail _ (.tail _ (.tail _ (.tail _ (.head _))))))))))
      dsimp only at w1
      rw [show zs.length = (base ++ keys).length by rw [strs_len hzs], List.take_length] at hrs
      repeat' (first | walk1 | (dsimp only; walk1))
      have hrv : rvs.length ≤ 1000 := by rw [lotsLen hS]; omega
      refine appendT F4 N4 (by k_updF) hrv ?_
      intro h9 F9 N9
      clear F4 N4
      repeat' (first | walk1 | (dsimp only; walk1))
      refine TurnE.mk ⟨_, _, _, (ra, listOf (rvs ++ [Value.ref D]).toArray (nr + 1)) :: (ba, listOf bvs.toArray bn') :: (ka, listOf kvs.toArray kn) :: (lc, listOf cs.toArray ncs) :: (d, od2) :: (L + 3, ok) :: (L + 2, ot) :: (L + 1, of) :: (221, tabObj ps) :: (D, LCg.lst ys) :: S, rfl, F9, newsSub N9 ?sb, ?ow, od2, spot2, t2, rvs ++ [Value.ref D], nr + 1, (D, LCg.lst ys) :: S, rows ++ [row], rfl, hd2, g0, by omega, lots_snoc (.head _) hrow (fun q hq => .tail _ hq) hS, by rw [List.length_append, hrl]; rfl, ?rs, ?x1, ?x2, ?x3, fun y hy => by simp only [if_neg hy]⟩
      case sb => walk_at "my_sub"
      case ow =>
        intro p hp b hb
        have hp' : p = (I, oI) := List.mem_singleton.mp hp
        subst hp'
        revert b hb
        refine mCons (offI _ (by walk_at "my_of")) <| mCons (offI _ (by walk_at "my_of")) <| mCons (offI _ (by walk_at "my_of")) <| mCons (offI _ (by walk_at "my_of")) <| mCons (offI _ (by walk_at "my_of")) <| mCons (offI _ (by walk_at "my_of")) <| mCons (offI _ (by walk_at "my_of")) <| mCons (offI _ (by walk_at "my_of")) <| mCons (offI _ (by walk_at "my_of")) <| mCons wI fun b h => offI b (.inr (.inr (.inr (.inr (.inr (.inr (.inr (.inr (.inr h)))))))))
      case rs =>
        intro r hr'
        rcases List.mem_append.mp hr' with h | h
        · exact hsub r h
        · rw [List.mem_singleton.mp h]; exact hrs
      case x1 => intro z hz; rcases List.mem_cons.mp hz with rfl | hz; exact Ne.symm w1; exact so1 _ hz
      case x2 => intro z hz; rcases List.mem_cons.mp hz with rfl | hz; exact Ne.symm wd; exact so2 _ hz
      case x3 => intro z hz; rcases List.mem_cons.mp hz with rfl | hz; exact Ne.symm w2; exact so3 _ hz
  · rintro m₁ nx h tk ⟨od', spot, t', rvs, nr, S, rows, rfl, hd', h0, h1, hS, hrl, hsub, so1, so2, so3, hm⟩ F₁ N₁
    clear F2 N2
    replace F₁ := frCongr F₁ (m' := fun y => if y = Str.ofString "lap" then m₁ (Str.ofString "lap") else mapL [(Str.ofString "rows", .ref ra), (Str.ofString "base", .ref ba), (Str.ofString "many", .int mn tmany), (Str.ofString "script", .ref sa)] y) (fun y => by
      by_cases hy : y = Str.ofString "lap"
      · simp [hy]
      · simp only [if_neg hy]; exact hm y hy)
    exact k h _ ra od' spot t' rvs nr S rows _ F₁ N₁ ⟨lra.1, lra.2.1, lra.2.2.1, lra.2.2.2.1⟩ hd' h0 (by omega) hS (by omega) (by omega) hsub so1 so2 so3
end
section
set_option maxHeartbeats 1000000
theorem lotsTexts {g h : Heap} {L : Addr} {m : Str → Option Value} {S news : List (Addr × Obj)} {rvs : List Value} {rows : List (List Str)} (X : LotsAt g S rvs rows) (F : Fr g L h m) (N : News g L h news) (hs : ∀ q ∈ S, q ∈ news) : TextsAll h rvs rows :=
  LotsAt.back (W := []) F (newsSub N hs) (fun _ h => nomatch h) (fun _ _ h => nomatch h) X
theorem lotsTextsBut {g h : Heap} {L : Addr} {W : List Addr} {m : Str → Option Value} {S news : List (Addr × Obj)} {rvs : List Value} {rows : List (List Str)} (X : LotsAt g S rvs rows) (F : Fr g L h m) (N : News g L h news) (hs : ∀ q ∈ S, q ∈ news) (hw : ∀ w ∈ W, g.get? w = none) (ho : ∀ q ∈ S, q.1 ∉ W) : TextsAll (hideAll h W) rvs rows :=
  LotsAt.back (W := W) F (newsSub N hs) hw ho X
theorem callStays {prog : Program} {w : World} {mg mb : Str → Option Value} {p : Program} {loose : List Str} {mean : ExcName → Option Value} {A : Around} {E : Value → Shared → Prop} {s : Shared} {g : Heap} {L : Addr} {m : Str → Option Value} {news : List (Addr × Obj)} {Q : Value → Shared → Prop}
   {a b c : Addr} {xs ys : List Str} {rows : List (List Str)} {vs us ws : List Value}
   (F : Fr g L s.heap m) (N : News g L s.heap news) (G : Gd w mg mb p loose mean g) (hr : A.depth + 20 < recursionLimit) (hu : A.units + 200 < cLine) (hh : A.handled = none)
   (ha : s.heap.IsList a vs.toArray) (hx : TextsAll s.heap vs rows) (hb : s.heap.IsList b us.toArray) (hy : StrsAre us xs) (hc : s.heap.IsList c ws.toArray) (hz : StrsAre ws ys) (hlr : ∀ r ∈ rows, r.length ≤ 1000) (hlx : xs.length ≤ 100) (hly : ys.length ≤ 100)
   (k : ∀ h' tk d rvs n, Fr g L h' m → News g L h' ((d, listOf (List.toArray rvs) n) :: news) → (∀ q ∈ news, q.1 ≠ d) → StrsAre rvs (stays rows xs ys ys.length []) → Q (.ref d) { s with heap := h', toks := tk }) :
   wpAny (model prog w) A (call (.ref 233) [.ref a, .ref b, .ref c]) Q E s :=
  wpAny_call (spec_stays G F.keep hr hu hh ha hx hb hy hc hz hlr hlx hly fun h' tk d rvs n c hn ho hs => k h' tk d rvs n (c.fr0 F) (new_ok F hn ho (c.news0 N)) (news_off N hn) hs)
structure HaltN (P : Prop) : Prop where
  it : P
structure Mark4 : Prop where
local macro_rules | `(tactic| walk_at "execs cons") => `(tactic| (k_here; (have mkz : Mark4 := by assumption); clear mkz; (refine HaltN.it ?_)))
local macro_rules | `(tactic| walk_at "my_rows") => `(tactic| exact lotsTexts (by assumption) (by k_asm) (by k_asm) (fun q hq => by simp [hq]))
local macro_rules | `(tactic| walk_at "call ref") => `(tactic| (k_here; (with_reducible show wpAny _ _ (call (.ref 233) _) _ _ _); k_dflt (refine' callStays (by k_asm) (by k_asm) (by assumption) (by walk_at "my_depth") (by walk_at "my_units") (by walk_at "my_h") (by kmk_list) (by walk_at "my_rows") (by kmk_list) (by assumption) (by kmk_list) (by assumption) (by assumption) (by omega) (by omega) ?_); walk_at "my_f"))
inductive FreshI (prog : Program) (w : World) (s : Shared) (g : Heap) (L ra ba ka lc d sa : Addr) (rvs bvs kvs cs : List Value) (nr bn' kn ncs : Nat) (ok ot of : Obj) (ps : Array Value) (S : List (Addr × Obj)) (ml : Option Value) (mn : Nat) (tmany : Tok) (rows : List (List Str)) (base : List Str) (s' : Shared) : Prop
  | mk (h' : Heap) (tk : Nat) (od' : Obj) (spot' : Int) (t : Tok) (new : Bool) (_ : s' = { s with heap := h', toks := tk }) (_ : Fr g L h' (fun y => if y = Str.ofString "is_fresh" then some (.bool new) else if y = Str.ofString "lap" then ml else mapL [(Str.ofString "rows", .ref ra), (Str.ofString "base", .ref ba), (Str.ofString "many", .int mn tmany), (Str.ofString "script", .ref sa)] y)) (_ : News g L h' ((ra, listOf rvs.toArray nr) :: (ba, listOf bvs.toArray bn') :: (ka, listOf kvs.toArray kn) :: (lc, listOf cs.toArray ncs) :: (d, od') :: (L + 3, ok) :: (L + 2, ot) :: (L + 1, of) :: (221, tabObj ps) :: S)) (_ : od'.IsDictOf (strKind prog w) (feedKvs lc spot' t)) (_ : 0 ≤ spot') (_ : spot' ≤ 101) (_ : new = true ∨ enough rows base = false) : FreshI prog w s g L ra ba ka lc d sa rvs bvs kvs cs nr bn' kn ncs ok ot of ps S ml mn tmany rows base s'
theorem law_C {prog : Program} {w : World} {mg mb : Str → Option Value} {p : Program} {loose : List Str} {mean : ExcName → Option Value} {dp un : Nat} {fr : Option (List Env)} {gd : Option (List Code)} {s : Shared} {g : Heap} {L fa sa : Addr} {cd : Value} {Q : Flow → Shared → Prop}
   {lc d ka ba ra : Addr} {od ok ot of : Obj} {cs kvs bvs rvs : List Value} {ncs kn bn' nr : Nat} {nc : List Int} {tn mn : Nat} {tmany tturn tfd : Tok} {base keys : List Str} {ps : Array Value} {spot : Int} {S : List (Addr × Obj)} {rows : List (List Str)} {ml : Option Value}
   (G : Gd w mg mb p loose mean g) (hr : dp + 300 < recursionLimit) (hu : un + 3000 < cLine)
   (F : Fr g L s.heap (fun y => if y = Str.ofString "lap" then ml else mapL [(Str.ofString "rows", .ref ra), (Str.ofString "base", .ref ba), (Str.ofString "many", .int mn tmany), (Str.ofString "script", .ref sa)] y))
   (N : News g L s.heap ((ra, listOf rvs.toArray nr) :: (ba, listOf bvs.toArray bn') :: (ka, listOf kvs.toArray kn) :: (lc, listOf cs.toArray ncs) :: (d, od) :: (L + 3, ok) :: (L + 2, ot) :: (L + 1, of) :: (221, tabObj ps) :: S)) (hL : @LT.lt Nat _ 221 L)
   (ld : @LT.lt Nat _ (L + 3) d) (lra : @LT.lt Nat _ ba ra ∧ @LT.lt Nat _ ka ra ∧ @LT.lt Nat _ lc ra ∧ @LT.lt Nat _ d ra) (hne : lc ≠ d) (hkd : @Ne Nat ka d) (hbd : @Ne Nat ba d)
   (hcs : IntsAre cs nc) (hcl : nc.length < 100) (hd : od.IsDictOf (strKind prog w) (feedKvs lc spot tfd)) (h0 : 0 ≤ spot) (h1 : spot ≤ 100) (hok : ok.data = .cell (some (.ref ka))) (hot : ot.data = .cell (some (.int tn tturn))) (hof : of.data = .cell (some (.ref d)))
   (hks : StrsAre kvs keys) (hbs : StrsAre bvs base) (hkl : keys.length ≤ 8) (hbl : base.length ≤ 2)
   (hS : LotsAt g S rvs rows) (so1 : ∀ q ∈ S, q.1 ≠ ra) (so2 : ∀ q ∈ S, q.1 ≠ d) (so3 : ∀ q ∈ S, q.1 ≠ 221) (hlr : ∀ r ∈ rows, r.length ≤ 1000)
   (k : ∀ (h' : Heap) (tk : Nat) (da : Addr) (dvs : List Value) (dn : Nat) (od' : Obj) (spot' : Int) (t : Tok) (new : Bool),
      Fr g L h' (fun y => if y = Str.ofString "due" then some (.ref da) else if y = Str.ofString "is_fresh" then some (.bool new) else if y = Str.ofString "lap" then ml else mapL [(Str.ofString "rows", .ref ra), (Str.ofString "base", .ref ba), (Str.ofString "many", .int mn tmany), (Str.ofString "script", .ref sa)] y) →
      News g L h' ((da, listOf dvs.toArray dn) :: (ra, listOf rvs.toArray nr) :: (ba, listOf bvs.toArray bn') :: (ka, listOf kvs.toArray kn) :: (lc, listOf cs.toArray ncs) :: (d, od') :: (L + 3, ok) :: (L + 2, ot) :: (L + 1, of) :: (221, tabObj ps) :: S) →
      (@Ne Nat ra da ∧ @Ne Nat d da ∧ @Ne Nat 221 da) → od'.IsDictOf (strKind prog w) (feedKvs lc spot' t) → 0 ≤ spot' → spot' ≤ 101 → StrsAre dvs (stays rows base keys keys.length []) → (new = true ∨ enough rows base = false) →
      wpAny (model prog w) ((⟨none, dp, fr, gd, un⟩ : Around).deeper (lawEnv L fa cd)) (execs (lawBody.drop 8) (lawEnv L fa cd)) Q (fun _ _ => False) { s with heap := h', toks := tk }) :
   wpAny (model prog w) ((⟨none, dp, fr, gd, un⟩ : Around).deeper (lawEnv L fa cd)) (execs (lawBody.drop 6) (lawEnv L fa cd)) Q (fun _ _ => False) s := by
  have e1 : lawBody.drop 6 = lawBody.drop 6 := rfl
  conv at e1 => rhs; whnf
  have e2 : lawScope = lawScope := rfl
  conv at e2 => rhs; whnf
  unfold lawEnv
  rw [e1, e2]
  have X := G.X
  have T := G.T
  refine wpAny_execs_cons ?_
  refine wpAny_mono (Q := fun fl s' => match fl with
    | .next => Stop (FreshI prog w s g L ra ba ka lc d sa rvs bvs kvs cs nr bn' kn ncs ok ot of ps S ml mn tmany rows base s')
    | _ => False) (E := fun _ _ => False) ?first ?rest (fun _ _ e => e)
  case first =>
    repeat' (first | walk1 | (dsimp only; walk1))
    · (rename Fr _ _ _ _ => F1); (rename News _ _ _ _ => N1)
      exact Stop.mk ⟨_, _, od, spot, _, _, rfl, F1, N1, by assumption, h0, by omega, .inl (by assumption)⟩
    · (rename Fr _ _ _ _ => F1); (rename News _ _ _ _ => N1); (rename Obj.IsDictOf _ _ (feedKvs lc (spot + 1) _) => hd1)
      exact Stop.mk ⟨_, _, _, spot + 1, _, _, rfl, F1, N1, hd1, by omega, by omega, .inr (by assumption)⟩
  case rest =>
    intro fl s' hqr
    cases fl with
    | ret v => exact hqr.elim
    | brk => exact hqr.elim
    | cont => exact hqr.elim
    | next =>
      obtain ⟨h', tk, od', spot', t, new, rfl, F1, N1, hd1, g0, g1, hnew⟩ := hqr.it
      clear F N hd
      have mk4 : Mark4 := ⟨⟩
      dsimp only
      refine wpAny_execs_cons ?_
      repeat' (first | walk1 | (dsimp only; walk1))
      refine HaltN.mk ?_
      (rename Fr _ _ _ _ => F2); (rename News _ _ _ _ => N2); (rename StrsAre _ (stays _ _ _ _ _) => hst)
      rename_i _ _ da dvs dn o1 _
      refine k _ _ da dvs dn od' spot' t new F2 N2 ⟨neN (o1 (ra, _) (.head _)), neN (o1 (d, _) (.tail _ (.tail _ (.tail _ (.tail _ (.head _)))))), neN (o1 (221, _) (.tail _ (.tail _ (.tail _ (.tail _ (.tail _ (.tail _ (.tail _ (.tail _ (.head _))))))))))⟩ hd1 g0 g1 hst hnew
end
section
set_option maxHeartbeats 1000000
section
open PySem.SeqAt
theorem rc_texts {A : Around} {s : Shared} {a b : Addr} {vs us : List Value} {xs : List Str} (ha : s.heap.IsList a vs.toArray) (hx : StrsAre vs xs) (hb : s.heap.IsList b us.toArray) (hy : StrsAre us xs) (hu : A.units < cLine) : RcAt A s (.ref a) (.ref b) true := by
  have h := RcAt.lists (e := fun j => decide (xs[j]? = xs[j]?)) ha hb (by simp [strs_len hx, strs_len hy]) hu (texts_eqAt hx hy)
  have e : (List.range vs.toArray.size).all (fun j => decide (xs[j]? = xs[j]?)) = true := by simp
  rw [e] at h
  exact h
theorem ne_pair {prog : Program} {w : World} {A : Around} {E : Value → Shared → Prop} {s : Shared} {l b a1 a2 c1 c2 : Addr} {vs us vs' us' : List Value} {xs ys : List Str} {Q : Value → Shared → Prop} (hl : s.heap.IsTuple l #[.ref a1, .ref a2]) (hb : s.heap.IsTuple b #[.ref c1, .ref c2])
    (h1 : s.heap.IsList a1 vs.toArray) (x1 : StrsAre vs xs) (h2 : s.heap.IsList c1 us.toArray) (x2 : StrsAre us xs) (h3 : s.heap.IsList a2 vs'.toArray) (x3 : StrsAre vs' ys) (h4 : s.heap.IsList c2 us'.toArray) (x4 : StrsAre us' ys) (n1 : a1 ≠ c1) (n2 : a2 ≠ c2) (hu : A.units + 20 < cLine)
    (h : Q (.bool false) s) : wpAny (model prog w) A (compareOp .NotEq (.ref l) (.ref b)) Q E s := by
  have hu1 : A.in1.units < cLine := by simp only [units_in1]; omega
  refine RcNeAt.tuples (e := fun _ => true) hl hb (by omega) (fun j g1 g2 => ?_) prog w E Q ?_
  · match j, g1 with
    | 0, _ => exact EqAt.of_refs n1 (rc_texts h1 x1 h2 x2 hu1)
    | 1, _ => exact EqAt.of_refs n2 (rc_texts h3 x3 h4 x4 hu1)
    | k + 2, g => exact absurd g (by simp)
  · exact h
end
structure HaltP (P : Prop) : Prop where
  it : P
structure Mark5 : Prop where
local macro_rules | `(tactic| walk_at "execs cons") => `(tactic| (k_here; (have mkz : Mark5 := by assumption); (refine HaltP.it ?_)))
theorem ne_same {prog : Program} {w : World} {A : Around} {E : Value → Shared → Prop} {s : Shared} {a b : Addr} {vs us : List Value} {xs : List Str} {Q : Value → Shared → Prop} (ha : s.heap.IsList a vs.toArray) (hx : StrsAre vs xs) (hb : s.heap.IsList b us.toArray) (hy : StrsAre us xs) (hu : A.units < cLine)
    (h : Q (.bool false) s) : wpAny (model prog w) A (compareOp .NotEq (.ref a) (.ref b)) Q E s :=
  ne_texts ha hx hb hy hu (by rw [decide_eq_true rfl]; exact h)
local macro_rules | `(tactic| walk_at "compareOp NotEq ref ref") => `(tactic| (k_here; refine HaltP.it ?_))
theorem oddNeD {g h : Heap} {L a : Addr} {news S objs : List (Addr × Obj)} {o : Obj} (N : News g L h news) (hm : (a, o) ∈ news) (hd : ∃ es n, o.data = .dict es n) (NS : ∀ q ∈ S, q ∈ news) (s : ∀ q ∈ S, q ∈ objs) (od : ∀ q ∈ objs, Odd q.2) : ∀ q ∈ S, q.1 ≠ a := fun q hq e => by
  have z := (N q (NS q hq)).1
  rw [e, (N _ hm).1] at z
  obtain ⟨es, n, hd⟩ := hd
  exact (od q (s q hq)).1 es n (by rw [← Option.some.inj z]; exact hd)
theorem law_D {prog : Program} {w : World} {mg mb : Str → Option Value} {p : Program} {loose : List Str} {mean : ExcName → Option Value} {dp un : Nat} {fr : Option (List Env)} {gd : Option (List Code)} {s : Shared} {g : Heap} {L fa sa : Addr} {cd : Value} {Q : Flow → Shared → Prop}
   {lc d ka ba ra da : Addr} {od ok ot of : Obj} {cs kvs bvs rvs dvs : List Value} {ncs kn bn' nr dn : Nat} {nc : List Int} {tn mn : Nat} {tmany tturn tfd : Tok} {base keys : List Str} {ps : Array Value} {spot : Int} {S : List (Addr × Obj)} {rows : List (List Str)} {ml : Option Value} {new : Bool}
   (G : Gd w mg mb p loose mean g) (hr : dp + 300 < recursionLimit) (hu : un + 3000 < cLine)
   (F : Fr g L s.heap (fun y => if y = Str.ofString "due" then some (.ref da) else if y = Str.ofString "is_fresh" then some (.bool new) else if y = Str.ofString "lap" then ml else mapL [(Str.ofString "rows", .ref ra), (Str.ofString "base", .ref ba), (Str.ofString "many", .int mn tmany), (Str.ofString "script", .ref sa)] y))
   (N : News g L s.heap ((da, listOf dvs.toArray dn) :: (ra, listOf rvs.toArray nr) :: (ba, listOf bvs.toArray bn') :: (ka, listOf kvs.toArray kn) :: (lc, listOf cs.toArray ncs) :: (d, od) :: (L + 3, ok) :: (L + 2, ot) :: (L + 1, of) :: (221, tabObj ps) :: S)) (hL : @LT.lt Nat _ 221 L)
   (ld : @LT.lt Nat _ (L + 3) d) (lra : @LT.lt Nat _ ba ra ∧ @LT.lt Nat _ ka ra ∧ @LT.lt Nat _ lc ra ∧ @LT.lt Nat _ d ra) (hne : lc ≠ d) (hkd : @Ne Nat ka d) (hbd : @Ne Nat ba d) (nda : @Ne Nat ra da ∧ @Ne Nat d da ∧ @Ne Nat 221 da) (n221 : @Ne Nat 221 ka ∧ @Ne Nat 221 ba ∧ @Ne Nat 221 lc)
   (hcs : IntsAre cs nc) (hcl : nc.length < 100) (hd : od.IsDictOf (strKind prog w) (feedKvs lc spot tfd)) (h0 : 0 ≤ spot) (h1 : spot ≤ 101) (hok : ok.data = .cell (some (.ref ka))) (hot : ot.data = .cell (some (.int tn tturn))) (hof : of.data = .cell (some (.ref d)))
   (hks : StrsAre kvs keys) (hbs : StrsAre bvs base) (hkl : keys.length ≤ 8) (hbl : base.length ≤ 2) (hkm : keys.length = mn)
   (hS : LotsAt g S rvs rows) (so1 : ∀ q ∈ S, q.1 ≠ ra) (so2 : ∀ q ∈ S, q.1 ≠ d) (so3 : ∀ q ∈ S, q.1 ≠ 221) (hlr : ∀ r ∈ rows, r.length ≤ 1000) (hds : StrsAre dvs (stays rows base keys keys.length [])) (hnew : new = true ∨ enough rows base = false)
   (hps : TriplesOk ps.toList ∧ codeAmong askPos ps.toList = none)
   (k : ∀ (h' : Heap) (tk : Nat) (ha x th : Addr) (hvs : List Value) (nh : Nat) (ps3 : Array Value) (Sm S4 lots : List (Addr × Obj)) (z : List Str × HSt),
      Fr g L h' (fun y => if y = Str.ofString "halver" then some (.ref x) else if y = Str.ofString "heard" then some (.ref ha) else if y = Str.ofString "held" then some (.ref th) else if y = Str.ofString "due" then some (.ref da) else if y = Str.ofString "is_fresh" then some (.bool new) else if y = Str.ofString "lap" then ml else mapL [(Str.ofString "rows", .ref ra), (Str.ofString "base", .ref ba), (Str.ofString "many", .int mn tmany), (Str.ofString "script", .ref sa)] y) →
      News g L h' ((ha, listOf hvs.toArray nh) :: (da, listOf dvs.toArray dn) :: (ra, listOf rvs.toArray nr) :: (ba, listOf bvs.toArray bn') :: (ka, listOf kvs.toArray kn) :: (lc, listOf cs.toArray ncs) :: (d, od) :: (L + 3, ok) :: (L + 2, ot) :: (L + 1, of) :: (221, tabObj ps3) :: (S4 ++ lots)) →
      LotsAt g lots hvs z.2.heard → z.2.heard.length ≤ 1000 → MainOk rows base keys new z → z = halves rows [] 1000 9 base keys new st0 → (∀ q ∈ S, q ∈ S4) → (∀ q ∈ Sm, q ∈ S4) → (∀ q ∈ S4, q.1 ≠ 221) → (∀ q ∈ S4, q.1 ≠ d) →
      (∀ h2 : Heap, ∀ m2 : Str → Option Value, Fr g L h2 m2 → (∀ q ∈ Sm, h2.get? q.1 = some q.2) → h2.get? 221 = some (tabObj ps3) → AskTab h2 ps3) →
      wpAny (model prog w) ((⟨none, dp, fr, gd, un⟩ : Around).deeper (lawEnv L fa cd)) (execs (lawBody.drop 12) (lawEnv L fa cd)) Q (fun _ _ => False) { s with heap := h', toks := tk }) :
   wpAny (model prog w) ((⟨none, dp, fr, gd, un⟩ : Around).deeper (lawEnv L fa cd)) (execs (lawBody.drop 8) (lawEnv L fa cd)) Q (fun _ _ => False) s := by
  have e1 : lawBody.drop 8 = lawBody.drop 8 := rfl
  conv at e1 => rhs; whnf
  have e2 : lawScope = lawScope := rfl
  conv at e2 => rhs; whnf
  unfold lawEnv
  rw [e1, e2]
  have X := G.X
  have T := G.T
  repeat' (first | walk1 | (dsimp only; walk1))
  clear e1 e2
  (rename Fr _ _ _ _ => F1); (rename News _ _ _ _ => N1)
  rename_i ha _ lha b2 c2 _ _ k2 ck2 _ _ th _ _ tt _ _ _ _ _ dl _ ldl
  have hTab : AskTab _ ps := ⟨N1.get (by k_mem), hps.1, .inl hps.2⟩
  refine callMkask F1 N1 (by k_updF) hTab G (by walk_at "my_depth") (by walk_at "my_units") rfl ?_
  intro h3 tk3 fa3 ps3 Sm objs F3 N3 H3 s3 od3 sne3 hf3
  simp only [List.cons_append, List.nil_append] at N3
  have hSS : ∀ q ∈ S, q ∈ S ++ Sm := fun q hq => List.mem_append_left _ hq
  have hSm : ∀ q ∈ Sm, q ∈ S ++ Sm := fun q hq => List.mem_append_right _ hq
  have hSh : ∀ q ∈ S, q.1 ≠ ha := fun q hq => Nat.ne_of_lt (allLt_mem (by exact lha.2.2.2.2.2.2.2.2.2.2) q hq)
  have sne4 : ∀ q ∈ S ++ Sm, q.1 ≠ 221 := fun q hq => (List.mem_append.mp hq).elim (so3 q) (sne3 q)
  have sha4 : ∀ q ∈ S ++ Sm, q.1 ≠ ha := fun q hq => (List.mem_append.mp hq).elim (hSh q) (oddNe hf3 N3 (by k_mem) (S := Sm) (fun q hq => by walk_at "my_in") s3 od3 q)
  have snd4 : ∀ q ∈ S ++ Sm, q.1 ≠ d := fun q hq => (List.mem_append.mp hq).elim (so2 q) (oddNeD N3 (by k_mem : (d, od) ∈ _) (isDict_data hd) (S := Sm) (fun q hq => by walk_at "my_in") s3 od3 q)
  generalize S ++ Sm = S4 at N3 hSS hSm sne4 sha4 snd4
  clear F1 N1 hTab
  dsimp only
  repeat' (first | walk1 | (dsimp only; walk1))
  (rename News _ _ _ _ => N4); (rename Fr _ _ _ _ => F4)
  refine callShrinker F4 N4 G (by walk_at "my_depth") (by walk_at "my_units") rfl ?_
  intro x dx es nd h5 tk5 F5 N5 HD5 nx ndx nxd
  clear F4 N4
  have sx : ∀ q ∈ S4, q.1 ≠ x := fun q hq => nx q (by walk_at "my_in")
  have sdx : ∀ q ∈ S4, q.1 ≠ dx := fun q hq => ndx q (by walk_at "my_in")
  have xha : @Ne Nat x ha := fun e => nx (ha, _) (by k_mem) e.symm
  have dxha : @Ne Nat dx ha := fun e => ndx (ha, _) (by k_mem) e.symm
  obtain ⟨e1, e2, e3, e4, k1, k2', k3, k4, t1, t2, rfl⟩ := HD5
  have mk5 : Mark5 := ⟨⟩
  dsimp only
  repeat' (first | walk1 | (dsimp only; walk1))
  refine HaltP.mk ?_
  (rename News _ _ _ _ => N6); (rename Fr _ _ _ _ => F6)
  refine wpAny_execs_cons ?_
  repeat' (first | walk1 | (dsimp only; walk1))
  (rename News _ _ _ _ => N7); (rename Fr _ _ _ _ => F7)
  have gw := gw3 N7 (h1 := .head _) (h2 := .tail _ (.head _)) (h3 := (by k_mem : (ha, _) ∈ _))
  have M := main_ok (rows := rows) (base := base) (keys := keys) (new := new) hkl hnew
  refine callHalves 9 (most := 1000) (dull := []) (hst := st0) (S := []) (S' := Sm) (objs := objs) F7 N7 G rfl (.head _) (.tail nxd (.head ndx)) (fun o' => by k_updF) (by k_mem) ⟨_, _, _, _, _, _, _, _, _, _, rfl⟩ .nil (fun _ h => nomatch h) (fun _ h => nomatch h) (fun _ h => nomatch h) (fun _ h => nomatch h)
    H3 (fun q hq => by have := hSm q hq; walk_at "my_in") od3 (fun q hq => sx q (hSm q hq)) (fun h2 e => (hf3 h2 e).1) (N7.isList (by k_mem)) ?c1 (lotsTextsBut hS F7 N7 (fun q hq => by have := hSS q hq; walk_at "my_in") gw ?c2) (N7.isList (by k_mem)) ?c3 .nil (N7.isList (by k_mem)) ?c4 hbs (N7.isList (by k_mem)) ?c5 hks (by walk_at "my_depth") (by walk_at "my_units") rfl (by decide) (by decide) hlr (by omega) (by simp) (by omega) ⟨rfl, Nat.zero_le _⟩ (by omega) (by decide) ?_
  case c1 => k_ne
  case c2 =>
    intro q hq hm
    rcases List.mem_cons.mp hm with e | hm
    · exact sx q (hSS q hq) e
    · rcases List.mem_cons.mp hm with e | hm
      · exact sdx q (hSS q hq) e
      · exact sha4 q (hSS q hq) (List.mem_singleton.mp hm)
  case c3 => k_ne
  case c4 => k_ne
  case c5 => k_ne
  intro h7 tk7 d7 zvs n7 es7 nd7 hvs7 nh7 lots F8 N8 HD7 HX7 u1 u2 u3 nd7' hzs
  simp only [List.cons_append] at N8
  clear F7 N7 gw
  have MM := M
  obtain ⟨M1, M2, M3, M4, M5, M6⟩ := M
  generalize hz : halves rows [] 1000 9 base keys new st0 = z at *
  obtain ⟨e1', e2', e3', e4', k1', k2'', k3', k4', t1', t2', rfl⟩ := HD7
  rw [M2] at N8
  rw [M1] at hzs
  dsimp only
  repeat' (first | walk1 | (dsimp only; walk1))
  refine HaltP.mk ?_
  (rename News _ _ _ _ => N9); (rename Fr _ _ _ _ => F9); (rename StrsAre kvs _ => hks); (rename StrsAre bvs _ => hbs); (rename StrsAre dvs _ => hds)
  refine ne_same (N9.isList (.head _)) hzs (N9.isList (by k_mem)) hds (by walk_at "my_units") ?_
  repeat' (first | walk1 | (dsimp only; walk1))
  refine HaltP.mk ?_
  (rename News _ _ _ _ => N10)
  refine ne_pair (a1 := ba) (a2 := ka) (c1 := b2) (c2 := k2) (vs := bvs) (us := bvs) (vs' := kvs) (us' := kvs) (xs := base) (ys := keys) ⟨_, N10.get (.head _), rfl, _, rfl⟩ ⟨_, N10.get (by k_mem : (th, _) ∈ _), rfl, _, rfl⟩ (N10.isList (by k_mem)) hbs (N10.isList (by k_mem)) hbs (N10.isList (by k_mem)) hks (N10.isList (by k_mem)) hks ?n1 ?n2 (by walk_at "my_units") ?_
  case n1 => k_ne
  case n2 => k_ne
  repeat' (first | walk1 | (dsimp only; walk1))
  · exfalso; omega
  · refine HaltP.mk ?_
    dsimp only
    (rename News _ _ _ _ => N11); (rename Fr _ _ _ _ => F11)
    have hl1 : ¬ (z.2.heard.length : Int) > max 1 (2 * (mn : Int) - 1) := by omega
    have hl2 : new = false → ¬ (z.2.heard.length : Int) > max 0 (2 * (mn : Int) - 2) := fun e => by have := M5 e; omega
    have hzl : z.2.heard.length ≤ 1000 := by omega
    refine wpAny_execs_cons ?_
    repeat' (first | walk1 | (dsimp only; walk1))
    · exfalso
      rename (ite _ _ _ < _) => q
      split at q <;> omega
    · refine HaltP.mk ?_
      (rename Fr _ _ _ _ => F12); (rename News _ _ _ _ => N12)
      refine k _ _ ha x th hvs7 nh7 ps3 Sm S4 lots z F12 (newsSub N12 ?sb) HX7 hzl MM rfl hSS hSm sne4 snd4 ?tab
      case sb => walk_at "my_sub"
      case tab => exact fun h2 m2 Fz hq e => (hf3 h2 (fun q hq' => by
        rcases H3 q hq' with y | y
        · exact Fz.keep _ _ y
        · exact hq q y)).2 e
    · exfalso
      rename (new = false) => e0
      have hl3 := hl2 e0
      rename (ite _ _ _ < _) => q
      split at q <;> omega
    · refine HaltP.mk ?_
      (rename Fr _ _ _ _ => F12); (rename News _ _ _ _ => N12)
      refine k _ _ ha x th hvs7 nh7 ps3 Sm S4 lots z F12 (newsSub N12 ?sb) HX7 hzl MM rfl hSS hSm sne4 snd4 ?tab
      case sb => walk_at "my_sub"
      case tab => exact fun h2 m2 Fz hq e => (hf3 h2 (fun q hq' => by
        rcases H3 q hq' with y | y
        · exact Fz.keep _ _ y
        · exact hq q y)).2 e
end
section
set_option maxHeartbeats 1000000
section
variable {prog : Program} {w : World} {A : Around} {E : Value → Shared → Prop} {s : Shared} {env : Env} {h₀ : Heap} {x : Str} {body : List Stmt} {Q : Flow → Shared → Prop}
inductive LedI (h₀ : Heap) (L : Addr) (x : Str) (m₀ : Str → Option Value) (news : List (Addr × Obj)) (I : Addr) (oI : Obj) (s₁ s₂ : Shared) : Prop
  | mk (h' : Heap) (tk : Nat) (m' : Str → Option Value) (_ : s₂ = { s₁ with heap := h', toks := tk }) (_ : Fr h₀ L h' m') (_ : News h₀ L h' (news ++ [(I, oI)])) (_ : ∀ z, z ≠ x → m' z = m₀ z) : LedI h₀ L x m₀ news I oI s₁ s₂
/-- a turn's end: the ledger as it was -/
structure LedE (h₀ : Heap) (L : Addr) (x : Str) (m₀ : Str → Option Value) (news : List (Addr × Obj)) (I : Addr) (oI : Obj) (s₁ s₂ : Shared) : Prop where
  it : LedI h₀ L x m₀ news I oI s₁ s₂
noncomputable def LedP (h₀ : Heap) (L : Addr) (x : Str) (m₀ : Str → Option Value) (news : List (Addr × Obj)) (I : Addr) (oI : Obj) (s₁ : Shared) (Q : Flow → Shared → Prop) (f : Flow) (s₂ : Shared) : Prop :=
  match f with
  | .ret v => Q (.ret v) s₂
  | .brk => Q .next s₂
  | _ => LedE h₀ L x m₀ news I oI s₁ s₂
inductive ForL (prog : Program) (w : World) (A : Around) (env : Env) (h₀ : Heap) (x : Str) (body : List Stmt) (Q : Flow → Shared → Prop) (xv : Value) (s₁ : Shared) : Prop
  | mk (l : Addr) (vs : List Value) (nl : Nat) (m₀ : Str → Option Value) (news : List (Addr × Obj)) (_ : xv = .ref l) (_ : Fr h₀ env.locals s₁.heap m₀) (_ : News h₀ env.locals s₁.heap news) (_ : (l, listOf vs.toArray nl) ∈ news) (_ : ∀ (i : Nat) (v : Value) (m₁ : Str → Option Value) (h : Heap) (tk : Nat) (I : Addr) (oI : Obj), vs[i]? = some v → (∀ q ∈ news, q.1 ≠ I) → (∀ z, z ≠ x → m₁ z = m₀ z) → Fr h₀ env.locals h (fun y => if y = x then some v else m₁ y) → News h₀ env.locals h (news ++ [(I, oI)]) →
        wpAny (model prog w) A (execs body env) (LedP h₀ env.locals x m₀ news I oI { s₁ with heap := h, toks := tk } Q) (fun _ _ => False) { s₁ with heap := h, toks := tk }) (_ : ∀ (m₁ : Str → Option Value) (h : Heap) (tk : Nat), (∀ z, z ≠ x → m₁ z = m₀ z) → Fr h₀ env.locals h m₁ → News h₀ env.locals h news → Q .next { s₁ with heap := h, toks := tk }) : ForL prog w A env h₀ x body Q xv s₁
theorem iterLed {l : Addr} {vs : List Value} {nl : Nat} {m₀ : Str → Option Value} {news : List (Addr × Obj)} (F : Fr h₀ env.locals s.heap m₀) (N : News h₀ env.locals s.heap news) (hm : (l, listOf vs.toArray nl) ∈ news) (hh : A.handled = none)
    (turn : ∀ (i : Nat) (v : Value) (m₁ : Str → Option Value) (h : Heap) (tk : Nat) (I : Addr) (oI : Obj), vs[i]? = some v → (∀ q ∈ news, q.1 ≠ I) → (∀ z, z ≠ x → m₁ z = m₀ z) → Fr h₀ env.locals h (fun y => if y = x then some v else m₁ y) → News h₀ env.locals h (news ++ [(I, oI)]) →
      wpAny (model prog w) A (execs body env) (LedP h₀ env.locals x m₀ news I oI { s with heap := h, toks := tk } Q) E { s with heap := h, toks := tk })
    (done : ∀ (m₁ : Str → Option Value) (h : Heap) (tk : Nat), (∀ z, z ≠ x → m₁ z = m₀ z) → Fr h₀ env.locals h m₁ → News h₀ env.locals h news → Q .next { s with heap := h, toks := tk }) :
    wpAny (model prog w) A (pyIter (.ref l)) (fun it s₂ => LoopAtV prog w A h₀ env x body Q E it s₂) E s := by
  have hl := N (l, listOf vs.toArray nl) hm
  have hls : s.heap.IsList l vs.toArray := ⟨_, hl.1, rfl, _, rfl⟩
  have hne : l ≠ s.heap.objs.size := Nat.ne_of_lt (Heap.lt_size hl.1)
  refine wpAny_pyIter_list hls ?_
  have W := Walks.list (prog := prog) (w := w) hh s.heap.objs.size l hne vs.toArray
  refine ⟨_, _, _, vs.toArray.size, _, _, m₀, news, fun _ m₁ nx => (∀ z, z ≠ x → m₁ z = m₀ z) ∧ nx = news, rfl, W, ?_, ?_, ?_, ⟨⟨_, Heap.get?_push_size _ rfl, rfl, rfl⟩, hls.at fun o e => Heap.get?_push_of_some _ e⟩, F.push _, (fun p hp => ⟨Heap.get?_push_of_some _ (N p hp).1, (N p hp).2⟩), ⟨fun _ _ => rfl, rfl⟩, ?_, ?_⟩
  · intro hmm
    rcases List.mem_cons.mp hmm with e | hmm
    · exact absurd F.ns.lt (e ▸ Nat.lt_irrefl _)
    · exact hl.2.1 (List.mem_singleton.mp hmm).symm
  · intro b hb
    rw [List.mem_singleton.mp hb]
    exact next_is_new F
  · intro p hp hI
    exact absurd (Heap.lt_size (N p hp).1) ((List.mem_singleton.mp hI) ▸ Nat.lt_irrefl _)
  · rintro i v m₁ nx s₁ own ⟨hh', tk', rfl⟩ hin hP ⟨hmz, rfl⟩ hoff hown hget hall hst F₁ N₁
    have hI0 : h₀.get? s.heap.objs.size = none := next_is_new F
    obtain ⟨⟨oI, hoI, _⟩, _⟩ := id hst
    have hIown : (s.heap.objs.size, oI) ∈ own := hall _ (List.mem_cons.mpr (.inl rfl)) hI0 _ hoI
    have only : ∀ p ∈ own, p = (s.heap.objs.size, oI) ∨ p ∈ nx := by
      intro p hp
      have z := hget p hp
      rcases List.mem_cons.mp (hown p hp) with h1 | h1
      · rw [h1, hoI] at z
        exact .inl (Prod.ext h1 (Option.some.inj z).symm)
      · have h2 := List.mem_singleton.mp h1
        have y := (N₁ _ (List.mem_append_right _ hm)).1
        rw [h2] at z
        rw [y] at z
        right
        have : p = (l, listOf vs.toArray nl) := Prod.ext h2 (Option.some.inj z).symm
        rw [this]; exact hm
    have hsep : ∀ q ∈ nx, q.1 ≠ s.heap.objs.size := fun q hq e => hoff q hq (List.mem_singleton.mpr e)
    have N₂ : News h₀ env.locals hh' (nx ++ [(s.heap.objs.size, oI)]) := fun p hp => N₁ p ((List.mem_append.mp hp).elim (fun h => List.mem_append.mpr (.inr h)) fun h => List.mem_append.mpr (.inl (by rw [List.mem_singleton.mp h]; exact hIown)))
    refine wpAny_mono (turn i v m₁ hh' tk' _ _ (by simpa using hP) hsep hmz F₁ N₂) (fun f s₂ p => ?_) fun _ _ e => e
    have fin : LedE h₀ env.locals x m₀ nx s.heap.objs.size oI { s with heap := hh', toks := tk' } s₂ → LoopStepU h₀ env.locals [s.heap.objs.size] own (fun m₁ nx' => (∀ z, z ≠ x → m₁ z = m₀ z) ∧ nx' = nx) { s with heap := hh', toks := tk' } .next s₂ := by
      rintro ⟨h', tk, m', e, F', N', hm'⟩
      refine ⟨rfl, h', tk, m', nx, e, F', fun p hp => ?_, hoff, hm', rfl⟩
      rcases List.mem_append.mp hp with hp | hp
      · rcases only p hp with e | e
        · rw [e]; exact N' _ (List.mem_append_right _ (.head _))
        · exact N' _ (List.mem_append_left _ e)
      · exact N' _ (List.mem_append_left _ hp)
    cases f with
    | ret v => exact .ret p
    | brk => exact .brk p
    | next => exact .next (fin p)
    | cont => exact .cont (fin p)
  · rintro h' tk m' news' F' N' _ ⟨hmz, rfl⟩
    exact done m' h' tk hmz F' N'
/-- for x in l: l a list of the ledger; the turn leaves the ledger as it is -/
theorem forLed {px pos : Pos} {iter : Expr} {m : Str → Option Value} (F₀ : Fr h₀ env.locals s.heap m) (hh : A.handled = none)
    (h : wpAny (model prog w) A (eval iter env) (fun xv s₁ => Stop (ForL prog w A env h₀ x body Q xv s₁)) (fun _ _ => False) s)
    (hx : env.kindOf x = some .local := by rfl) (hp : (env.scope.kind == .class || (env.scope.kind == .module && env.locals != env.globals)) = false := by rfl) (hs : ∀ x, foldedSetIterable iter env x = pure x := by intro _; rfl) :
    wpAny (model prog w) A (exec (.For (.Name x px) iter body [] pos) env) Q (fun _ _ => False) s := by
  refine For_invV h₀ hx hp (wpAny_mono h (fun xv s₁ h₁ => ?_) fun _ _ e => e) hs PassesOwn.never
  obtain ⟨l, vs, nl, m₀, news, rfl, F, N, hm, turn, done⟩ := h₁.it
  exact iterLed F N hm hh turn done
end
structure HaltQ (P : Prop) : Prop where
  it : P
local macro_rules | `(tactic| walk_at "exec For Name Name") => `(tactic| (k_here; refine HaltQ.it ?_))
local macro_rules | `(tactic| walk_at "exec For") => `(tactic| (k_here; refine HaltQ.it ?_))
local macro_rules | `(tactic| walk_at "compareOp NotEq ref ref") => `(tactic| (k_here; refine HaltQ.it ?_))
local macro_rules | `(tactic| walk_at "call type:set") => `(tactic| (k_here; refine HaltQ.it ?_))
local macro_rules | `(tactic| walk_at "eval ListComp") => `(tactic| (k_here; refine HaltQ.it ?_))
structure SubL (l R : List (Addr × Obj)) : Prop where
  it : ∀ q ∈ l, q ∈ R
theorem SubL.up {l R : List (Addr × Obj)} {p : Addr × Obj} (x : SubL l R) : SubL l (p :: R) := ⟨fun q hq => .tail _ (x.it q hq)⟩
structure KeepA (g : Heap) (L : Addr) (lots : List (Addr × Obj)) (a : Addr) (us : List Value) : Prop where
  it : ∀ (h2 : Heap) (m2 : Str → Option Value) (nw : List (Addr × Obj)), Fr g L h2 m2 → News g L h2 nw → (∀ q ∈ lots, q ∈ nw) → h2.IsList a us.toArray
theorem KeepA.list {g h : Heap} {L a : Addr} {lots nw : List (Addr × Obj)} {us : List Value} {m : Str → Option Value} (K : KeepA g L lots a us) (F : Fr g L h m) (N : News g L h nw) (S : SubL lots nw) : h.IsList a us.toArray := K.it h m nw F N S.it
theorem lots_keep {g : Heap} {L : Addr} {S : List (Addr × Obj)} : ∀ {hvs : List Value} {heard : List (List Str)} {v : Value}, LotsAt g S hvs heard → v ∈ hvs → ∃ a us xs, v = .ref a ∧ KeepA g L S a us ∧ StrsAre us xs ∧ xs ∈ heard
  | _, _, _, .nil, hv => nomatch hv
  | _, _, _, .old ⟨us, e, y⟩ x, hv => by
    rcases List.mem_cons.mp hv with rfl | hv
    · exact ⟨_, us, _, rfl, ⟨fun h2 m2 nw F _ _ => e.at (F.keep _)⟩, y, .head _⟩
    · obtain ⟨a, us, xs, h1, h2, h3, h4⟩ := lots_keep x hv
      exact ⟨a, us, xs, h1, h2, h3, .tail _ h4⟩
  | _, _, _, .new hm hc hd y x, hv => by
    rcases List.mem_cons.mp hv with rfl | hv
    · exact ⟨_, _, _, rfl, ⟨fun h2 m2 nw _ N s => ⟨_, N.get (s _ hm), hc, _, hd⟩⟩, y, .head _⟩
    · obtain ⟨a, us, xs, h1, h2, h3, h4⟩ := lots_keep x hv
      exact ⟨a, us, xs, h1, h2, h3, .tail _ h4⟩
local macro_rules | `(tactic| kmk_list) => `(tactic| exact KeepA.list (by assumption) (by k_asm) (by k_asm) (by repeat' (first | assumption | apply SubL.up)))
theorem lenT {prog : Program} {w : World} {A : Around} {E : Value → Shared → Prop} {s : Shared} {l : Addr} {vs : List Value} {xs : List Str} {Q : Value → Shared → Prop} (hl : s.heap.IsList l vs.toArray) (hx : StrsAre vs xs) (hz : xs.length ≤ 5000)
    (h : Q (.int xs.length (s.toks + 1)) { s with toks := s.toks + 1 + 1 }) : wpAny (model prog w) A (call (.builtin "len") [.ref l]) Q E s := by
  have e : vs.toArray.size = xs.length := by simp [strs_len hx]
  exact len_list hl (by rw [e]; omega) (by rw [e]; exact h)
structure Mark6 : Prop where
local macro_rules | `(tactic| walk_at "call builtin:len") => `(tactic| (k_here; (have mkz : Mark6 := by assumption); clear mkz; (with_reducible show wpAny _ _ (call (Value.builtin "len") [Value.ref _]) _ _ _); first
  | (refine' lenSetT ?N ?m ?o ?z ?_; (case N => k_asm); (case m => exact List.Mem.head _); (case o => assumption); (case z => omega))
  | (refine' lenT ?l ?x ?z ?_; (case l => kmk_list); (case x => assumption); (case z => omega))))
theorem law_E {prog : Program} {w : World} {mg mb : Str → Option Value} {p : Program} {loose : List Str} {mean : ExcName → Option Value} {dp un : Nat} {fr : Option (List Env)} {gd : Option (List Code)} {s : Shared} {g : Heap} {L fa sa : Addr} {cd : Value} {Q : Flow → Shared → Prop}
   {ba ka ha : Addr} {kvs bvs hvs : List Value} {kn bn' nh : Nat} {base keys : List Str} {ok : Obj} {lots rest : List (Addr × Obj)} {heard : List (List Str)} {m0 : Str → Option Value}
   (G : Gd w mg mb p loose mean g) (hr : dp + 300 < recursionLimit) (hu : un + 3000 < cLine)
   (F : Fr g L s.heap m0) (mh : m0 (Str.ofString "heard") = some (.ref ha)) (mb' : m0 (Str.ofString "base") = some (.ref ba))
   (N : News g L s.heap ((ha, listOf hvs.toArray nh) :: (ba, listOf bvs.toArray bn') :: (ka, listOf kvs.toArray kn) :: (L + 3, ok) :: rest)) (hok : ok.data = .cell (some (.ref ka)))
   (hks : StrsAre kvs keys) (hbs : StrsAre bvs base) (hkl : keys.length ≤ 8) (hbl : base.length ≤ 2) (hX : LotsAt g lots hvs heard) (hlots : ∀ q ∈ lots, q ∈ rest) (hok2 : ∀ lot ∈ heard, LotOk base keys lot) (hnd : (base ++ keys).Nodup)
   (k : ∀ (h' : Heap) (tk : Nat) (m1 : Str → Option Value), (∀ z, z ≠ Str.ofString "lot" → m1 z = m0 z) → Fr g L h' m1 → News g L h' ((ha, listOf hvs.toArray nh) :: (ba, listOf bvs.toArray bn') :: (ka, listOf kvs.toArray kn) :: (L + 3, ok) :: rest) →
      wpAny (model prog w) ((⟨none, dp, fr, gd, un⟩ : Around).deeper (lawEnv L fa cd)) (execs (lawBody.drop 13) (lawEnv L fa cd)) Q (fun _ _ => False) { s with heap := h', toks := tk }) :
   wpAny (model prog w) ((⟨none, dp, fr, gd, un⟩ : Around).deeper (lawEnv L fa cd)) (execs (lawBody.drop 12) (lawEnv L fa cd)) Q (fun _ _ => False) s := by
  have e1 : lawBody.drop 12 = lawBody.drop 12 := rfl
  conv at e1 => rhs; whnf
  have e2 : lawScope = lawScope := rfl
  conv at e2 => rhs; whnf
  unfold lawEnv
  rw [e1, e2]
  clear e1 e2
  have X := G.X
  have T := G.T
  refine wpAny_execs_cons ?_
  refine' forLed F rfl ?_
  refine nameX_L F mh ?_
  refine Stop.mk ⟨ha, hvs, nh, m0, _, rfl, F, N, .head _, ?_, ?_⟩
  · rintro i v m₁ h tk I oI hv hoff hm F₁ N₁
    change Fr _ L _ _ at F₁; change News _ L _ _ at N₁
    simp only [List.cons_append] at N₁
    clear F N
    obtain ⟨a, us, xs, rfl, hKA, hxs, hmem⟩ := lots_keep (L := L) hX (List.mem_of_getElem? hv)
    obtain ⟨t9, rfl, y1, y2, y3⟩ := hok2 xs hmem
    replace F₁ := frCongr F₁ (m' := fun y => if y = Str.ofString "lot" then some (.ref a) else if y = Str.ofString "base" then some (.ref ba) else m₁ y) (fun y => by
      by_cases hy : y = Str.ofString "lot"
      · simp [hy]
      · simp only [if_neg hy]
        by_cases hy2 : y = Str.ofString "base"
        · rw [if_pos hy2, hy2, hm _ (by decide)]; exact mb'
        · rw [if_neg hy2])
    have hSub : SubL lots (rest ++ [(I, oI)]) := ⟨fun q hq => List.mem_append_left _ (hlots q hq)⟩
    have hRest : ∀ q ∈ rest, q ∈ rest ++ [(I, oI)] := fun q hq => List.mem_append_left _ hq
    have hRI : (I, oI) ∈ rest ++ [(I, oI)] := List.mem_append_right _ (.head _)
    generalize rest ++ [(I, oI)] = R at N₁ hSub hRest hRI
    have hxl : (base ++ t9).length ≤ 100 := by rw [List.length_append]; omega
    have e9 : (base ++ t9).take base.length = base := by rw [List.take_append_of_le_length (Nat.le_refl _), List.take_length]
    repeat' (first | walk1 | (dsimp only; walk1))
    refine HaltQ.mk ?_
    (rename Fr _ _ _ _ => F2); (rename News _ _ _ _ => N2); (rename StrsAre _ (List.take _ (base ++ t9)) => hz1)
    rw [Int.toNat_natCast, e9] at hz1
    refine ne_same (N2.isList (.head _)) hz1 (N2.isList (by k_mem)) (by assumption) (by walk_at "my_units") ?_
    have hdup : (base ++ t9).Nodup := by
      obtain ⟨w1, w2, w3⟩ := List.nodup_append.mp hnd
      exact List.nodup_append.mpr ⟨w1, y3 w2, fun p hp q hq => w3 p hp q (y1 q hq)⟩
    repeat' (first | walk1 | (dsimp only; walk1))
    refine HaltQ.mk ?_
    (rename StrsAre us _ => hxs)
    refine newSetT F2 N2 rfl (by kmk_list) hxs (by omega) hdup ?_
    intro D3 h3 tk3 o3 Sf F3 N3 hso lD3
    k_lt lD3
    have mk6 : Mark6 := ⟨⟩
    clear F2 N2
    repeat' (first | walk1 | (dsimp only; walk1))
    · exfalso; omega
    · refine HaltQ.mk ?_
      refine' compTexts F3 (fun y => !(keys.any (· == y))) rfl ?_
      repeat' (first | walk1 | (dsimp only; walk1))
      all_goals (try k_data)
      (rename Fr _ _ _ _ => F4); (rename News _ _ _ _ => N4); (rename StrsAre _ (List.drop _ (base ++ t9)) => hz2); (rename StrsAre kvs _ => hks)
      rw [Int.toNat_natCast, show (base ++ t9).drop base.length = t9 by rw [List.drop_append_of_le_length (Nat.le_refl _), List.drop_length, List.nil_append]] at hz2
      refine Stop.mk ⟨_, _, t9, _, rfl, N4.isList (.head _), hz2, by omega, F4, N4, ?_, ?_⟩
      · intro C y t s₂ m₂ E' hy' hn hm2 hk
        exact testNotIn (c := L + 3) (la := ka) hn hm2 ⟨_, hk _ _ (N4.get (by k_mem)), hok⟩ ((N4.isList (by k_mem)).at (hk _)) hks (fun tk => ⟨rfl, _, _, rfl, fun _ _ e => e⟩)
      · intro D5 ys5 n5 h5 tk5 F5 N5 hne5 hkeep hys5
        have e5 : t9.filter (fun y => !(keys.any (· == y))) = [] := List.filter_eq_nil_iff.mpr fun y hy => by
          have : keys.any (· == y) = true := List.any_eq_true.mpr ⟨y, y1 y hy, by simp⟩
          rw [this]; decide
        rw [e5] at hys5
        clear F4 N4
        repeat' (first | walk1 | (dsimp only; walk1))
        refine HaltQ.mk ?_
        (rename Fr _ _ _ _ => F6); (rename News _ _ _ _ => N6)
        refine ne_same (N6.isList (.tail _ (.head _))) hys5 (N6.isList (.head _)) .nil (by walk_at "my_units") ?_
        repeat' (first | walk1 | (dsimp only; walk1))
        refine LedE.mk ⟨_, _, _, rfl, F6, newsSub N6 ?sb, fun z hz => ?mm⟩
        case sb => walk_at "my_sub"
        case mm =>
          simp only [if_neg hz]
          by_cases hz2 : z = Str.ofString "base"
          · rw [if_pos hz2, hz2]; exact mb'.symm
          · rw [if_neg hz2]; exact hm z hz
  · rintro m₁ h tk hm F₁ N₁
    exact k h tk m₁ hm F₁ N₁
end
section
set_option maxHeartbeats 1000000
theorem Ch.newsOff2 {g h h' : Heap} {L a b : Addr} {news : List (Addr × Obj)} (c : Ch [a, b] h h') (N : News g L h news) (o1 : ∀ q ∈ news, q.1 ≠ a) (o2 : ∀ q ∈ news, q.1 ≠ b) : News g L h' news := fun q hq => ⟨c _ _ (N q hq).1 (by simp [o1 q hq, o2 q hq]), (N q hq).2⟩
theorem stays_len {rows : List (List Str)} {base keys : List Str} : ∀ (k : Nat) (late : List Str), (stays rows base keys k late).length ≤ k + late.length
  | 0, late => by rw [stays]; omega
  | k + 1, late => by
    rw [stays]
    have := stays_len (rows := rows) (base := base) (keys := keys) k (if enough rows (base ++ keys.take k ++ late) then late else (keys[k]?.toList) ++ late)
    split at this
    · rename_i h; rw [if_pos h]; omega
    · rename_i h
      rw [if_neg h]
      have e : (keys[k]?.toList).length ≤ 1 := by cases keys[k]? <;> simp
      rw [List.length_append] at this
      omega
section
variable {prog : Program} {w : World} {mg mb : Str → Option Value} {p : Program} {loose : List Str} {mean : ExcName → Option Value} {A : Around} {E : Value → Shared → Prop} {s : Shared} {g : Heap} {L : Addr} {m : Str → Option Value} {rest S : List (Addr × Obj)} {Q : Value → Shared → Prop}
   {d lc ra ba ka da : Addr} {od : Obj} {cs rvs bvs kvs dvs : List Value} {ncs nr bn kn dn : Nat} {nc : List Int} {spot : Int} {t1 t2 : Tok} {ps : Array Value} {rows : List (List Str)} {base keys due : List Str} {new : Bool} {many : Nat}
theorem gwTwo (N : News g L s.heap ((d, od) :: (221, tabObj ps) :: rest)) : ∀ w ∈ [d, 221], g.get? w = none := fun w hw => by
  rcases List.mem_cons.mp hw with rfl | hw
  · exact (N _ (.head _)).2.2
  · rw [List.mem_singleton.mp hw]; exact (N _ (.tail _ (.head _))).2.2
theorem stTwo (F : Fr g L s.heap m) (N : News g L s.heap ((d, od) :: (221, tabObj ps) :: rest)) : g.StaysIn (hideAll s.heap [d, 221]) := fun b o e => hideAll_get _ (F.keep b o e) fun hw => by rw [gwTwo N _ hw] at e; cases e
theorem lsTwo {a : Addr} {vs : List Value} {n : Nat} (N : News g L s.heap ((d, od) :: (221, tabObj ps) :: rest)) (o1 : ∀ q ∈ rest, q.1 ≠ d) (o2 : ∀ q ∈ rest, q.1 ≠ 221) (hm : (a, listOf vs.toArray n) ∈ rest) : (hideAll s.heap [d, 221]).IsList a vs.toArray :=
  isList_hide (N.isList (.tail _ (.tail _ hm))) (by simp [o1 _ hm, o2 _ hm])
theorem backTwo {h' : Heap} {o' : Obj} {ps' : Array Value} (N : News g L s.heap ((d, od) :: (221, tabObj ps) :: rest)) (o1 : ∀ q ∈ rest, q.1 ≠ d) (o2 : ∀ q ∈ rest, q.1 ≠ 221) (c : Ch [d, 221] s.heap h') (e1 : h'.get? d = some o') (e2 : h'.get? 221 = some (tabObj ps')) : News g L h' ((d, o') :: (221, tabObj ps') :: rest) :=
  newsCons ⟨e1, (N _ (.head _)).2⟩ (newsCons ⟨e2, (N _ (.tail _ (.head _))).2⟩ (c.newsOff2 (newsSub N fun q hq => .tail _ (.tail _ hq)) o1 o2))
theorem callFew (F : Fr g L s.heap m) (N : News g L s.heap ((d, od) :: (221, tabObj ps) :: rest)) (G : Gd w mg mb p loose mean g) (hr : A.depth + 120 < recursionLimit) (hu : A.units + 1000 < cLine) (hh : A.handled = none)
   (o1 : ∀ q ∈ rest, q.1 ≠ d) (o2 : ∀ q ∈ rest, q.1 ≠ 221) (hd : od.IsDictOf (strKind prog w) (feedKvs lc spot t1)) (hT : AskTab s.heap ps) (mlc : (lc, listOf cs.toArray ncs) ∈ rest) (hi : IntsAre cs nc) (h1 : 0 ≤ spot) (h2 : spot < 1000) (hlen : nc.length < 100)
   (mra : (ra, listOf rvs.toArray nr) ∈ rest) (hS : LotsAt g S rvs rows) (sS : ∀ q ∈ S, q ∈ rest) (mba : (ba, listOf bvs.toArray bn) ∈ rest) (hbs : StrsAre bvs base) (mka : (ka, listOf kvs.toArray kn) ∈ rest) (hks : StrsAre kvs keys) (mda : (da, listOf dvs.toArray dn) ∈ rest) (hds : StrsAre dvs due)
   (hlr : ∀ r ∈ rows, r.length ≤ 1000) (hlb : base.length ≤ 10) (hlk : keys.length ≤ 8) (hld : due.length ≤ 10) (hmany : many ≤ 1000) (hok : ∀ most, most < 6 → FewOk rows base keys new many due most 9)
   (k : ∀ o' h' tk ps' t', Fr g L h' m → News g L h' ((d, o') :: (221, tabObj ps') :: rest) → o'.IsDictOf (strKind prog w) (feedKvs lc (spot + 1) t') → AskTab h' ps' → Q (.bool true) { s with heap := h', toks := tk }) :
   wpAny (model prog w) A (call (.ref 245) [.ref d, .ref ra, .ref ba, .ref ka, .bool new, .int many t2, .ref da]) Q E s :=
  wpAny_call (spec_few (G.keeps (stTwo F N)) (fun b o e => of_hideAll _ e) hr hu hh (N _ (.head _)).1 (hideAll_none _ (by simp)) hd hT (hideAll_none _ (by simp)) (N.isList (.tail _ (.tail _ mlc))) hi h1 h2 hlen (lsTwo N o1 o2 mra)
    (lotsTextsBut hS F N (fun q hq => .tail _ (.tail _ (sS q hq))) (gwTwo N) (fun q hq => by simp [o1 _ (sS q hq), o2 _ (sS q hq)])) (lsTwo N o1 o2 mba) hbs (lsTwo N o1 o2 mka) hks (lsTwo N o1 o2 mda) hds (lsTwo N o1 o2 mlc) hlr hlb hlk hld hmany hok
    fun o' h' tk ps' t' c e1 e2 e3 => k o' h' tk ps' t' (c.fr F fun a ha => by
      rcases List.mem_cons.mp ha with rfl | ha
      · exact (N _ (.head _)).2
      · rw [List.mem_singleton.mp ha]; exact (N _ (.tail _ (.head _))).2) (backTwo N o1 o2 c e1 e3.1) e2 e3)
theorem callDull (F : Fr g L s.heap m) (N : News g L s.heap ((d, od) :: (221, tabObj ps) :: rest)) (G : Gd w mg mb p loose mean g) (hr : A.depth + 120 < recursionLimit) (hu : A.units + 1000 < cLine) (hh : A.handled = none)
   (o1 : ∀ q ∈ rest, q.1 ≠ d) (o2 : ∀ q ∈ rest, q.1 ≠ 221) (hd : od.IsDictOf (strKind prog w) (feedKvs lc spot t1)) (hT : AskTab s.heap ps) (mlc : (lc, listOf cs.toArray ncs) ∈ rest) (hi : IntsAre cs nc) (h1 : 0 ≤ spot) (h2 : spot < 900) (hlen : nc.length < 100)
   (mra : (ra, listOf rvs.toArray nr) ∈ rest) (hS : LotsAt g S rvs rows) (sS : ∀ q ∈ S, q ∈ rest) (mba : (ba, listOf bvs.toArray bn) ∈ rest) (hbs : StrsAre bvs base) (mka : (ka, listOf kvs.toArray kn) ∈ rest) (hks : StrsAre kvs keys)
   (hlr : ∀ r ∈ rows, r.length ≤ 1000) (hlb : base.length ≤ 10) (hlk : keys.length ≤ 8) (hok : ∀ d1 d2 : Nat, d1 < 6 → d2 < 6 → DullOk rows base keys new [(base.length : Int) + d1, (base.length : Int) + d2] 9)
   (k : ∀ o' h' tk ps' t', Fr g L h' m → News g L h' ((d, o') :: (221, tabObj ps') :: rest) → o'.IsDictOf (strKind prog w) (feedKvs lc (spot + 2) t') → AskTab h' ps' → Q (.bool true) { s with heap := h', toks := tk }) :
   wpAny (model prog w) A (call (.ref 250) [.ref d, .ref ra, .ref ba, .ref ka, .bool new]) Q E s :=
  wpAny_call (spec_dull (G.keeps (stTwo F N)) (fun b o e => of_hideAll _ e) hr hu hh (N _ (.head _)).1 (hideAll_none _ (by simp)) hd hT (hideAll_none _ (by simp)) (N.isList (.tail _ (.tail _ mlc))) hi h1 h2 hlen (lsTwo N o1 o2 mra)
    (lotsTextsBut hS F N (fun q hq => .tail _ (.tail _ (sS q hq))) (gwTwo N) (fun q hq => by simp [o1 _ (sS q hq), o2 _ (sS q hq)])) (lsTwo N o1 o2 mba) hbs (lsTwo N o1 o2 mka) hks (lsTwo N o1 o2 mlc) hlr hlb hlk hok
    fun o' h' tk ps' t' c e1 e2 e3 => k o' h' tk ps' t' (c.fr F fun a ha => by
      rcases List.mem_cons.mp ha with rfl | ha
      · exact (N _ (.head _)).2
      · rw [List.mem_singleton.mp ha]; exact (N _ (.tail _ (.head _))).2) (backTwo N o1 o2 c e1 e3.1) e2 e3)
theorem callShrunk (F : Fr g L s.heap m) (N : News g L s.heap ((d, od) :: (221, tabObj ps) :: rest)) (G : Gd w mg mb p loose mean g) (hr : A.depth + 200 < recursionLimit) (hu : A.units + 2000 < cLine) (hh : A.handled = none)
   (o1 : ∀ q ∈ rest, q.1 ≠ d) (o2 : ∀ q ∈ rest, q.1 ≠ 221) (hT : AskTab s.heap ps)
   (mra : (ra, listOf rvs.toArray nr) ∈ rest) (hS : LotsAt g S rvs rows) (sS : ∀ q ∈ S, q ∈ rest) (mka : (ka, listOf kvs.toArray kn) ∈ rest) (hks : StrsAre kvs keys) (mda : (da, listOf dvs.toArray dn) ∈ rest) (hds : StrsAre dvs due)
   (hlr : ∀ r ∈ rows, r.length ≤ 1000) (hlk : keys.length ≤ 8) (hld : due.length ≤ 10) (hok : ShrunkOk rows keys due)
   (k : ∀ h' tk ps', Fr g L h' m → News g L h' [(221, tabObj ps')] → Q (.bool true) { s with heap := h', toks := tk }) :
   wpAny (model prog w) A (call (.ref 257) [.ref ra, .ref ka, .ref da]) Q E s :=
  wpAny_call (spec_shrunk (G.keeps (stTwo F N)) (fun b o e => of_hideAll _ e) hr hu hh hT (hideAll_none _ (by simp)) (lsTwo N o1 o2 mra)
    (lotsTextsBut hS F N (fun q hq => .tail _ (.tail _ (sS q hq))) (gwTwo N) (fun q hq => by simp [o1 _ (sS q hq), o2 _ (sS q hq)])) (lsTwo N o1 o2 mka) hks (lsTwo N o1 o2 mda) hds hlr hlk hld hok
    fun h' tk ps' c e3 => k h' tk ps' (c.fr F fun a ha => by rw [List.mem_singleton.mp ha]; exact (N _ (.tail _ (.head _))).2) (newsCons ⟨e3.1, (N _ (.tail _ (.head _))).2⟩ newsNil))
end
theorem law_F {prog : Program} {w : World} {mg mb : Str → Option Value} {p : Program} {loose : List Str} {mean : ExcName → Option Value} {dp un : Nat} {fr : Option (List Env)} {gd : Option (List Code)} {s : Shared} {g : Heap} {L fa : Addr} {cd : Value} {Q : Flow → Shared → Prop}
   {lc d ka ba ra da ha : Addr} {od ok of : Obj} {cs kvs bvs rvs dvs hvs : List Value} {ncs kn bn' nr dn nh : Nat} {nc : List Int} {tfd : Tok} {base keys due : List Str} {ps : Array Value} {spot : Int} {S lots rest : List (Addr × Obj)} {rows heard : List (List Str)} {new : Bool} {m0 : Str → Option Value}
   (G : Gd w mg mb p loose mean g) (hr : dp + 300 < recursionLimit) (hu : un + 3000 < cLine)
   (F : Fr g L s.heap m0) (m1 : m0 (Str.ofString "heard") = some (.ref ha)) (m2 : m0 (Str.ofString "base") = some (.ref ba)) (m3 : m0 (Str.ofString "rows") = some (.ref ra)) (m4 : m0 (Str.ofString "is_fresh") = some (.bool new)) (m5 : m0 (Str.ofString "due") = some (.ref da))
   (N : News g L s.heap ((d, od) :: (221, tabObj ps) :: (L + 3, ok) :: (L + 1, of) :: rest))
   (o1 : ∀ q ∈ (L + 3, ok) :: (L + 1, of) :: rest, q.1 ≠ d) (o2 : ∀ q ∈ (L + 3, ok) :: (L + 1, of) :: rest, q.1 ≠ 221)
   (hcs : IntsAre cs nc) (hcl : nc.length < 100) (hd : od.IsDictOf (strKind prog w) (feedKvs lc spot tfd)) (h0 : 0 ≤ spot) (h1 : spot ≤ 101) (hok : ok.data = .cell (some (.ref ka))) (hof : of.data = .cell (some (.ref d)))
   (mlc : (lc, listOf cs.toArray ncs) ∈ rest) (mra : (ra, listOf rvs.toArray nr) ∈ rest) (mba : (ba, listOf bvs.toArray bn') ∈ rest) (mka : (ka, listOf kvs.toArray kn) ∈ rest) (mda : (da, listOf dvs.toArray dn) ∈ rest) (mha : (ha, listOf hvs.toArray nh) ∈ rest)
   (hks : StrsAre kvs keys) (hbs : StrsAre bvs base) (hds : StrsAre dvs due) (hkl : keys.length ≤ 8) (hbl : base.length ≤ 2) (hld : due.length ≤ 10)
   (hS : LotsAt g S rvs rows) (sS : ∀ q ∈ S, q ∈ rest) (hX : LotsAt g lots hvs heard) (hhl : heard.length ≤ 1000) (hlr : ∀ r ∈ rows, r.length ≤ 1000) (hT : AskTab s.heap ps)
   (hfew : ∀ most, most < 6 → FewOk rows base keys new heard.length due most 9) (hdull : ∀ d1 d2 : Nat, d1 < 6 → d2 < 6 → DullOk rows base keys new [(base.length : Int) + d1, (base.length : Int) + d2] 9) (hshr : base = [] → ShrunkOk rows keys due)
   (k : ∀ (h' : Heap) (tk : Nat) (m' : Str → Option Value) (ps' : Array Value), Fr g L h' m' → News g L h' [(221, tabObj ps')] → Q (.ret (.bool true)) { s with heap := h', toks := tk }) :
   wpAny (model prog w) ((⟨none, dp, fr, gd, un⟩ : Around).deeper (lawEnv L fa cd)) (execs (lawBody.drop 13) (lawEnv L fa cd)) Q (fun _ _ => False) s := by
  have e1 : lawBody.drop 13 = lawBody.drop 13 := rfl
  conv at e1 => rhs; whnf
  have e2 : lawScope = lawScope := rfl
  conv at e2 => rhs; whnf
  unfold lawEnv
  rw [e1, e2]
  clear e1 e2
  have X := G.X
  have T := G.T
  replace F := frCongr F (m' := fun y => if y = Str.ofString "heard" then some (.ref ha) else if y = Str.ofString "base" then some (.ref ba) else if y = Str.ofString "rows" then some (.ref ra) else if y = Str.ofString "is_fresh" then some (.bool new) else if y = Str.ofString "due" then some (.ref da) else m0 y) (fun y => by
    by_cases h1 : y = Str.ofString "heard"
    · rw [if_pos h1, h1]; exact m1
    rw [if_neg h1]
    by_cases h1 : y = Str.ofString "base"
    · rw [if_pos h1, h1]; exact m2
    rw [if_neg h1]
    by_cases h1 : y = Str.ofString "rows"
    · rw [if_pos h1, h1]; exact m3
    rw [if_neg h1]
    by_cases h1 : y = Str.ofString "is_fresh"
    · rw [if_pos h1, h1]; exact m4
    rw [if_neg h1]
    by_cases h1 : y = Str.ofString "due"
    · rw [if_pos h1, h1]; exact m5
    rw [if_neg h1])
  repeat' (first | walk1 | (dsimp only; walk1))
  refine lenLots (N.isList (.tail _ (.tail _ (.tail _ (.tail _ mha))))) hX (by omega) ?_
  repeat' (first | walk1 | (dsimp only; walk1))
  refine callFew (S := S) F N G (by walk_at "my_depth") (by walk_at "my_units") rfl o1 o2 hd hT (.tail _ (.tail _ mlc)) hcs h0 (by omega) hcl (.tail _ (.tail _ mra)) hS (fun q hq => .tail _ (.tail _ (sS q hq))) (.tail _ (.tail _ mba)) hbs (.tail _ (.tail _ mka)) hks (.tail _ (.tail _ mda)) hds hlr (by omega) hkl hld hhl hfew ?_
  intro od2 h2 tk2 ps2 t2 F2 N2 hd2 hT2
  clear F N
  repeat' (first | walk1 | (dsimp only; walk1))
  refine callDull (S := S) F2 N2 G (by walk_at "my_depth") (by walk_at "my_units") rfl o1 o2 hd2 hT2 (.tail _ (.tail _ mlc)) hcs (by omega) (by omega) hcl (.tail _ (.tail _ mra)) hS (fun q hq => .tail _ (.tail _ (sS q hq))) (.tail _ (.tail _ mba)) hbs (.tail _ (.tail _ mka)) hks hlr (by omega) hkl hdull ?_
  intro od3 h3 tk3 ps3 t3 F3 N3 hd3 hT3
  clear F2 N2
  obtain ⟨objs, b1, b2, b3, b4⟩ := tabFoot hT3
  obtain ⟨St, NSt, HSt, sSt⟩ := heldOf F3 b1 (fun q hq => (b2 q hq).1)
  have N3' : News g L h3 ((d, od3) :: (221, tabObj ps3) :: (L + 3, ok) :: (L + 1, of) :: (rest ++ St)) := fun q hq => by
    revert q hq
    exact mCons (N3 _ (by k_mem)) <| mCons (N3 _ (by k_mem)) <| mCons (N3 _ (by k_mem)) <| mCons (N3 _ (by k_mem)) <| mApp (fun q h => N3 q (by walk_at "my_in")) fun q h => NSt q h
  clear N3
  have oS1 : ∀ q ∈ St, q.1 ≠ d := oddNeD N3' (.head _) (isDict_data hd3) (fun q hq => by walk_at "my_in") sSt b2
  have oS2 : ∀ q ∈ St, q.1 ≠ 221 := fun q hq => b3 q (sSt q hq)
  have p1 : ∀ q ∈ (L + 3, ok) :: (L + 1, of) :: (rest ++ St), q.1 ≠ d :=
    mCons (o1 _ (by k_mem)) <| mCons (o1 _ (by k_mem)) <| mApp (fun q h => o1 q (by walk_at "my_in")) oS1
  have p2 : ∀ q ∈ (L + 3, ok) :: (L + 1, of) :: (rest ++ St), q.1 ≠ 221 :=
    mCons (o2 _ (by k_mem)) <| mCons (o2 _ (by k_mem)) <| mApp (fun q h => o2 q (by walk_at "my_in")) oS2
  have hSt2 : ∀ q ∈ St, q ∈ rest ++ St := fun q hq => List.mem_append_right _ hq
  have hRt : ∀ q ∈ rest, q ∈ rest ++ St := fun q hq => List.mem_append_left _ hq
  generalize rest ++ St = R2 at N3' p1 p2 hSt2 hRt
  repeat' (first | walk1 | (dsimp only; walk1))
  (rename Fr _ _ _ _ => F4); (rename News _ _ _ _ => N4)
  refine ne_texts (ys := []) (N4.isList (.tail _ (.tail _ (.tail _ (.tail _ (.tail _ (hRt _ mba))))))) hbs (N4.isList (.head _)) .nil (by walk_at "my_units") ?_
  by_cases hb : base = []
  · rw [decide_eq_true hb]
    repeat' (first | walk1 | (dsimp only; walk1))
    refine callShrunk (S := S) F4 (newsSub N4 fun q hq => .tail _ hq) G (by walk_at "my_depth") (by walk_at "my_units") rfl p1 p2 ?tab (.tail _ (.tail _ (hRt _ mra))) hS (fun q hq => .tail _ (.tail _ (hRt _ (sS q hq)))) (.tail _ (.tail _ (hRt _ mka))) hks (.tail _ (.tail _ (hRt _ mda))) hds hlr hkl hld (hshr hb) ?_
    case tab => exact b4 _ (HSt.get F4 N4 fun q hq => .tail _ (.tail _ (.tail _ (.tail _ (.tail _ (hSt2 q hq)))))) (N4.get (.tail _ (.tail _ (.head _))))
    intro h5 tk5 ps5 F5 N5
    exact k _ _ _ ps5 F5 N5
  · rw [decide_eq_false hb]
    repeat' (first | walk1 | (dsimp only; walk1))
    exact k _ _ _ ps3 F4 (newsSub N4 fun q hq => by rw [List.mem_singleton.mp hq]; exact .tail _ (.tail _ (.head _)))
end
section
local macro_rules | `(tactic| walk_at "my_p") => `(tactic| skip)
set_option maxHeartbeats 1000000
noncomputable def kN (n : Nat) : Str := Str.ofString "k" ++ Str.ofString (toString (n : Int))
theorem keyName_eq (t i : Nat) : keyName t i = kN ((5 * i + t) % 11) := by
  unfold keyName kN
  have e : ((5 * (i : Int) + (t : Int)).fmod 11) = (((5 * i + t) % 11 : Nat) : Int) := by
    rw [Int.fmod_eq_emod_of_nonneg _ (by decide)]; omega
  rw [e]
theorem kN_simple : ∀ n, n < 11 → Simple (kN n) := by
  have h : ∀ n, n < 11 → ((kN n == Str.ofString "") = false ∧ reserved.any (· == kN n) = false ∧ (Txt.item (kN n) 0).length = 1 ∧ (Builtin.Str.occurrences (Str.ofString "0123456789") (Txt.item (kN n) 0) 0 (Str.ofString "0123456789").length 1).isEmpty = true ∧
      (signs (kN n)).all (fun k => (Builtin.Str.occurrences (Str.ofString "abcdefghijklmnopqrstuvwxyzABCDEFGHIJKLMNOPQRSTUVWXYZ0123456789~!@$%^&*_-+=<>.?/") k 0 (Str.ofString "abcdefghijklmnopqrstuvwxyzABCDEFGHIJKLMNOPQRSTUVWXYZ0123456789~!@$%^&*_-+=<>.?/").length 1).isEmpty == false) = true ∧ (kN n).length ≤ 3) := by decide +kernel
  intro n hn
  obtain ⟨a, b, c, d, e, f⟩ := h n hn
  exact ⟨a, b, c, d, fun k hk => by simpa using List.all_eq_true.mp e k hk, f⟩
theorem key_simple {t m : Nat} : ∀ y ∈ (List.range m).map (keyName t), Simple y := fun y hy => by
  obtain ⟨i, _, rfl⟩ := List.mem_map.mp hy
  rw [keyName_eq]
  exact kN_simple _ (Nat.mod_lt _ (by decide))
theorem names_nodup8 : ∀ t, t < 11 → ((List.range 2).map baseName ++ (List.range 8).map (fun i => kN ((5 * i + t) % 11))).Nodup := by decide +kernel
theorem names_nodup {b m t : Nat} (hb : b < 3) (hm : m < 9) (ht : t < 11) : ((List.range b).map baseName ++ (List.range m).map (keyName t)).Nodup := by
  have e : (List.range m).map (keyName t) = (List.range m).map (fun i => kN ((5 * i + t) % 11)) := List.map_congr_left fun i _ => keyName_eq t i
  rw [e]
  exact ((List.Sublist.append ((List.range_sublist.mpr (by omega)).map _) ((List.range_sublist.mpr (by omega)).map _))).nodup (names_nodup8 t ht)
end
section
set_option maxHeartbeats 1000000
theorem listNeDict {prog : Program} {w : World} {g h : Heap} {L a b : Addr} {news : List (Addr × Obj)} {vs : List Value} {n : Nat} {o : Obj} {kvs : List (Str × Value)} (N : News g L h news) (h1 : (a, listOf vs.toArray n) ∈ news) (h2 : (b, o) ∈ news) (hd : o.IsDictOf (strKind prog w) kvs) : a ≠ b := by
  rintro rfl
  have e : o = listOf vs.toArray n := Option.some.inj ((N _ h2).1.symm.trans (N _ h1).1)
  obtain ⟨es, n', hd'⟩ := isDict_data hd
  rw [e] at hd'
  cases hd'
theorem listNeTab {g h : Heap} {L a b : Addr} {news : List (Addr × Obj)} {vs : List Value} {n : Nat} {ps : Array Value} (N : News g L h news) (h1 : (a, listOf vs.toArray n) ∈ news) (h2 : (b, tabObj ps) ∈ news) : a ≠ b := by
  rintro rfl
  have e : tabObj ps = listOf vs.toArray n := Option.some.inj ((N _ h2).1.symm.trans (N _ h1).1)
  have e2 := congrArg Obj.data e
  cases e2
theorem law_all {prog : Program} {w : World} {mg mb : Str → Option Value} {p : Program} {loose : List Str} {mean : ExcName → Option Value} {dp un : Nat} {fr : Option (List Env)} {gd : Option (List Code)} {s : Shared} {g : Heap} {L fa sa : Addr} {cd : Value} {Q : Flow → Shared → Prop}
   {vs : List Value} {ns : List Int} {ok ot of : Obj} {ps : Array Value}
   (G : Gd w mg mb p loose mean g) (hr : dp + 300 < recursionLimit) (hu : un + 3000 < cLine)
   (F : Fr g L s.heap (mapL [(Str.ofString "script", .ref sa)])) (N : News g L s.heap [(L + 3, ok), (L + 2, ot), (L + 1, of), (221, tabObj ps)]) (hL : @LT.lt Nat _ 221 L)
   (hk : ok.data = .cell none) (ht : ot.data = .cell none) (hf : of.data = .cell none) (hs : g.IsList sa vs.toArray) (hi : IntsAre vs ns) (hlen : ns.length ≤ 63) (hps : TriplesOk ps.toList ∧ codeAmong askPos ps.toList = none)
   (k : ∀ (h' : Heap) (tk : Nat) (m' : Str → Option Value) (ps' : Array Value), Fr g L h' m' → News g L h' [(221, tabObj ps')] → Q (.ret (.bool true)) { s with heap := h', toks := tk }) :
   wpAny (model prog w) ((⟨none, dp, fr, gd, un⟩ : Around).deeper (lawEnv L fa cd)) (execs lawBody (lawEnv L fa cd)) Q (fun _ _ => False) s := by
  refine law_A G hr hu F N hL hk ht hf hs hi hlen ?_
  intro h1 tk1 lc d ka ba od ok' ot' of' cs kvs bvs ncs kn bn' nc tn mn bn tmany tturn tfd F1 N1 ld nlc nka nba hcs hcl hd hok hot hof hks hbs hmn htn hbn
  have hkl : ((List.range mn).map (keyName tn)).length ≤ 8 := by simp; omega
  have hbl : ((List.range bn).map baseName).length ≤ 2 := by simp; omega
  have hkm : ((List.range mn).map (keyName tn)).length = mn := by simp
  have hnd := names_nodup hbn hmn htn
  have hsi : ∀ y ∈ (List.range mn).map (keyName tn), Simple y := key_simple
  generalize (List.range mn).map (keyName tn) = keys at *
  generalize (List.range bn).map baseName = base at *
  have hknd : keys.Nodup := (List.nodup_append.mp hnd).2.1
  refine law_B (mn := mn) (bn := bn) G hr hu F1 N1 hL ld nlc nka nba hcs hcl hd hok hot hof hks hbs hkl hbl ?_
  intro h2 tk2 ra od2 spot t2 rvs nr S rows ml F2 N2 lra hd2 g0 g1 hS r1 r3 hsub so1 so2 so3
  have hlr : ∀ r ∈ rows, r.length ≤ 1000 := fun r hr' => by have := (hsub r hr').length_le; rw [List.length_append] at this; omega
  have he : enough rows (base ++ keys) = true := by
    cases rows with
    | nil => exact absurd r1 (by decide)
    | cons row rest => exact enough_iff.mpr ⟨row, .head _, fun x hx => (hsub row (.head _)).subset hx⟩
  refine law_C (mn := mn) G hr hu F2 N2 hL ld lra (fun e => nlc.1 e.symm) (fun e => nka.2.1 e.symm) (fun e => nba.2.2.1 e.symm) hcs hcl hd2 g0 g1 hok hot hof hks hbs hkl hbl hS so1 so2 so3 hlr ?_
  intro h3 tk3 da dvs dn od3 spot3 t3 new F3 N3 nda hd3 g2 g3 hds hnew
  refine law_D (mn := mn) G hr hu F3 N3 hL ld lra (fun e => nlc.1 e.symm) (fun e => nka.2.1 e.symm) (fun e => nba.2.2.1 e.symm) nda ⟨nka.2.2.2.2.2, nba.2.2.2.2.2.2, nlc.2.2.2.2⟩ hcs hcl hd3 g2 g3 hok hot hof hks hbs hkl hbl hkm hS so1 so2 so3 hlr hds hnew hps ?_
  intro h4 tk4 ha x th hvs nh ps4 Sm S4 lots z F4 N4 hX hzl M hz hSS hSm s221 sd hTab
  refine law_E (sa := sa) (nh := nh) (bn' := bn') (kn := kn) (m0 := _) (rest := (da, listOf dvs.toArray dn) :: (ra, listOf rvs.toArray nr) :: (lc, listOf cs.toArray ncs) :: (d, od3) :: (L + 2, ot') :: (L + 1, of') :: (221, tabObj ps4) :: (S4 ++ lots)) G hr hu F4 rfl rfl (newsSub N4 ?sb1) hok hks hbs hkl hbl hX (fun q hq => by walk_at "my_in") M.lots hnd ?_
  case sb1 => walk_at "my_sub"
  intro h5 tk5 m5 hm5 F5 N5
  have hT5 : AskTab h5 ps4 := hTab h5 m5 F5 (fun q hq => N5.get (by have := hSm q hq; walk_at "my_in")) (N5.get (by k_mem))
  refine law_F (S := S) (lots := lots) (rest := (ha, listOf hvs.toArray nh) :: (da, listOf dvs.toArray dn) :: (ra, listOf rvs.toArray nr) :: (ba, listOf bvs.toArray bn') :: (ka, listOf kvs.toArray kn) :: (lc, listOf cs.toArray ncs) :: S4) (new := new) (due := stays rows base keys keys.length []) G hr hu F5 ((hm5 _ (by decide)).trans rfl) ((hm5 _ (by decide)).trans rfl) ((hm5 _ (by decide)).trans rfl) ((hm5 _ (by decide)).trans rfl) ((hm5 _ (by decide)).trans rfl) (newsSub N5 ?sb2) ?o1 ?o2 hcs hcl hd3 g2 g3 hok hof
    (.tail _ (.tail _ (.tail _ (.tail _ (.tail _ (.head _)))))) (.tail _ (.tail _ (.head _))) (.tail _ (.tail _ (.tail _ (.head _)))) (.tail _ (.tail _ (.tail _ (.tail _ (.head _))))) (.tail _ (.head _)) (.head _) hks hbs hds hkl hbl ?ld1 hS (fun q hq => by have := hSS q hq; walk_at "my_in") hX hzl hlr hT5 ?few (fun d1 d2 _ _ => dull_ok _ hkl (by omega) hknd he) ?shr ?_
  case sb2 => walk_at "my_sub"
  case o1 => refine mCons (Nat.ne_of_lt ld) <| mCons (Nat.ne_of_lt (Nat.lt_of_le_of_lt (Nat.add_le_add_left (by decide) L) ld)) <| mCons (listNeDict (b := d) (o := od3) (vs := hvs) (n := nh) N5 (by k_mem) (by k_mem) hd3) <| mCons (listNeDict (b := d) (o := od3) (vs := dvs) (n := dn) N5 (by k_mem) (by k_mem) hd3) <| mCons (listNeDict (b := d) (o := od3) (vs := rvs) (n := nr) N5 (by k_mem) (by k_mem) hd3) <| mCons (listNeDict (b := d) (o := od3) (vs := bvs) (n := bn') N5 (by k_mem) (by k_mem) hd3) <| mCons (listNeDict (b := d) (o := od3) (vs := kvs) (n := kn) N5 (by k_mem) (by k_mem) hd3) <| mCons (listNeDict (b := d) (o := od3) (vs := cs) (n := ncs) N5 (by k_mem) (by k_mem) hd3) <| fun q h => sd q h
  case o2 => refine mCons (Nat.ne_of_gt (Nat.lt_of_lt_of_le hL (Nat.le_add_right _ _))) <| mCons (Nat.ne_of_gt (Nat.lt_of_lt_of_le hL (Nat.le_add_right _ _))) <| mCons (listNeTab (b := 221) (ps := ps4) (vs := hvs) (n := nh) N5 (by k_mem) (by k_mem)) <| mCons (listNeTab (b := 221) (ps := ps4) (vs := dvs) (n := dn) N5 (by k_mem) (by k_mem)) <| mCons (listNeTab (b := 221) (ps := ps4) (vs := rvs) (n := nr) N5 (by k_mem) (by k_mem)) <| mCons (listNeTab (b := 221) (ps := ps4) (vs := bvs) (n := bn') N5 (by k_mem) (by k_mem)) <| mCons (listNeTab (b := 221) (ps := ps4) (vs := kvs) (n := kn) N5 (by k_mem) (by k_mem)) <| mCons (listNeTab (b := 221) (ps := ps4) (vs := cs) (n := ncs) N5 (by k_mem) (by k_mem)) <| fun q h => s221 q h
  case ld1 => have := stays_len (rows := rows) (base := base) (keys := keys) keys.length []; rw [List.length_nil] at this; omega
  case few => intro most hm; rw [hz]; exact few_ok hkl hnew hknd he most hm
  case shr =>
    intro hb
    subst hb
    exact shrunk_ok hkl hknd (by simpa using he) hsi
  intro h6 tk6 m6 ps6 F6 N6
  exact k h6 tk6 m6 ps6 F6 N6
end
section
local macro_rules | `(tactic| walk_at "my_p") => `(tactic| skip)
set_option maxHeartbeats 1000000
theorem noErr {α : Type} {M A} {t : Sem α} {Q : α → Shared → Prop} {E : Value → Shared → Prop} {s : Shared} (h : wpAny M A t Q (fun _ _ => False) s) : wpAny M A t Q E s :=
  wpAny_mono h (fun _ _ q => q) (fun _ _ e => e.elim)
theorem fin1 : PySem.Challenge.rw_qz0007_01.Holds := by
  w_on
  refine holds_law hd.ok fun said => ?_
  refine holds_open (q := hd.view_39) (loose := [.ofString "SIMPLE", .ofString "shrink"]) (Xt := fun s => xlAt hd.view_39 hd.lv s && recOk hd.r.records s) (XP := XL hd.view_39 hd.lv) (Yf := hd.hook.obs) (Ya := hd.hook.val) (YP := hd.hook.says) (N := 3594) hd.left hd.hook.of hd.hook.keeps (fun s e => xl_of s (Bool.and_eq_true_iff.mp e).1) XL.keeps (by rfl) ?h2 ?h3 (fun s e => recFacts_of (Bool.and_eq_true_iff.mp e).2) ?h4 ?h5 ?h6 ?h7 ?hw ?hc
  case h2 => rfl
  case h3 => rfl
  case h4 => rfl
  case h5 => assumption
  case h6 => decide +kernel
  case h7 => exact ⟨rfl, rfl, rfl, rfl, rfl, by decide +kernel⟩
  case hw => w_witness2
  k_go0
  all_goals (try k_fold)
  (rename Top topProg _ _ _ _ _ => T); (rename Frag.In _ (ghostOf _ _) => X)
  (rename Fr _ _ _ _ => FF); (rename News _ _ _ _ => NN); (rename IntsAre _ _ => II); (rename Heap.IsList _ _ _ => LL)
  have G : Gd _ _ _ _ _ _ _ := ⟨X, T, codeHd⟩
  refine noErr ?_
  have e1 : lawBody = lawBody := rfl
  conv at e1 => rhs; whnf
  have e2 : lawScope = lawScope := rfl
  conv at e2 => rhs; whnf
  dsimp only
  rw [← e1, ← e2]
  clear e1 e2
  have hA : callerA = callerA := rfl
  conv at hA => rhs; whnf
  rw [hA]
  clear hA
  with_reducible refine' law_all (ps := #[]) ?hG ?hr ?hu ?hFF ?hNN ?hL ?hk ?ht ?hf ?hLL ?hII ?hlen ?hps ?post
  case hG => exact G
  case hNN => exact NN
  case hLL => exact LL
  case hII => exact II
  case hFF => refine frCongr FF ?_; intro y; refine Eq.trans ?_ (mapL_cons y); (first | rfl | with_unfolding_all rfl | (simp only [bindL]; rw [if_pos (by decide +kernel)]; rfl) | decide +kernel)
  case hr => show 1 + claimMargin + 300 < recursionLimit; decide
  case hu => show 4 + 3000 < cLine; rw [cLine_is]; decide
  case hL => first | assumption | exact And.left (b := True) (by assumption)
  case hk => first | rfl | assumption | (apply bindC_data; done)
  case ht => first | rfl | assumption | (apply bindC_data; done)
  case hf => first | rfl | assumption | (apply bindC_data; done)
  case hps => first | exact ⟨trivial, rfl⟩ | exact ⟨.nil, rfl⟩ | exact ⟨by simp [TriplesOk], rfl⟩ | exact ⟨by constructor, rfl⟩
  case hlen => omega
  case post =>
    intro h' tk m' ps' F' N'
    have hh : True := trivial
    refine ⟨?_, ?_⟩
    · first | (k_end; wrow_close) | wrow_close | walk1
      all_goals (try wrow_close)
    · first | walk1 | trace_state
end
end Mine
theorem PySem.Challenge.cw_qz0007_01_holds : PySem.Challenge.rw_qz0007_01.Holds :=
  Mine.fin1
