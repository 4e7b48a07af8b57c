import PyProof.Rows.All
import Wide.All
import OpenK.AllK
import Wide.FinOn
import Lean
import PySem.Challenge.RW_nt0411_01
open PySem PySem.W PyProof.Rows
set_option Elab.async false
set_option maxRecDepth 100000
set_option maxHeartbeats 8000000
set_option compiler.extract_closed false
set_option genInjectivity false
set_option genSizeOfSpec false
namespace Mine
noncomputable def kxSt (i : Nat) : PySem.Stmt := match PySem.Challenge.pw_nt0411_01.main.body[i]? with
  | some s => s
  | none => .Pass ⟨0, 0, 0, 0⟩
noncomputable def kxM (i j : Nat) : PySem.Stmt := match kxSt i with
  | .ClassDef _ _ _ b _ _ _ _ _ _ _ => (match b[j]? with
    | some s => s
    | none => .Pass ⟨0, 0, 0, 0⟩)
  | s => s
noncomputable def kxA : PySem.Stmt → PySem.Arguments
  | .FunctionDef _ a _ _ _ _ _ _ _ _ => a
  | _ => ⟨[], [], none, [], [], none, []⟩
noncomputable def kxB : PySem.Stmt → List PySem.Stmt
  | .FunctionDef _ _ b _ _ _ _ _ _ _ => b
  | _ => []
noncomputable def kxS : PySem.Stmt → PySem.Scope
  | .FunctionDef _ _ _ _ _ _ s _ _ _ => s
  | _ => PySem.Challenge.pw_nt0411_01.main.scope
noncomputable def hpK : PySem.Params → PySem.W.Frag := fun P => (
  (nat_lit 2, ⟨.none, (@none Nat), (.dict #[⟨(PySem.PyData.keyHash P (.ofString "type.__subclasses__.Exception.0")), (.str (.ofString "type.__subclasses__.Exception.0") (713:Nat)), (.int 272 (0:Nat))⟩, ⟨(PySem.PyData.keyHash P (.ofString "type.__subclasses__.Exception.n")), (.str (.ofString "type.__subclasses__.Exception.n") (714:Nat)), (.int 1 (0:Nat))⟩] (2:Nat)), #[]⟩) ::
  (nat_lit 3, ⟨(.type "dict"), (@none Nat), (.dict (List.toArray (⟨(PySem.PyData.keyHash P (.ofString "__name__")), (.str (.ofString "__name__") (165:Nat)), (.str (.ofString "law_nt0411_01") (920:Nat))⟩ :: ⟨(PySem.PyData.keyHash P (.ofString "__doc__")), (.str (.ofString "__doc__") (166:Nat)), .none⟩ :: ⟨(PySem.PyData.keyHash P (.ofString "__package__")), (.str (.ofString "__package__") (167:Nat)), .none⟩ :: ⟨(PySem.PyData.keyHash P (.ofString "__loader__")), (.str (.ofString "__loader__") (168:Nat)), (.builtin "__main__.__loader__#opaque")⟩ :: ⟨(PySem.PyData.keyHash P (.ofString "__spec__")), (.str (.ofString "__spec__") (169:Nat)), .none⟩ :: ⟨(PySem.PyData.keyHash P (.ofString "__annotations__")), (.str (.ofString "__annotations__") (170:Nat)), (.ref (6:Nat))⟩ :: ⟨(PySem.PyData.keyHash P (.ofString "__builtins__")), (.str (.ofString "__builtins__") (171:Nat)), (.ref (4:Nat))⟩ :: ⟨(PySem.PyData.keyHash P (.ofString "__file__")), (.str (.ofString "__file__") (173:Nat)), (.str (.ofString "/claim/cut.py") (172:Nat))⟩ :: ⟨(PySem.PyData.keyHash P (.ofString "__cached__")), (.str (.ofString "__cached__") (174:Nat)), .none⟩ :: ⟨(PySem.PyData.keyHash P (.ofString "BLANKS")), (.str (.ofString "BLANKS") (200:Nat)), (.ref (15:Nat))⟩ :: ⟨(PySem.PyData.keyHash P (.ofString "LINE_ENDS")), (.str (.ofString "LINE_ENDS") (205:Nat)), (.ref (16:Nat))⟩ :: ⟨(PySem.PyData.keyHash P (.ofString "LETTERS")), (.str (.ofString "LETTERS") (270:Nat)), (.ref (49:Nat))⟩ :: ⟨(PySem.PyData.keyHash P (.ofString "PARTS")), (.str (.ofString "PARTS") (283:Nat)), (.ref (56:Nat))⟩ :: ⟨(PySem.PyData.keyHash P (.ofString "is_among")), (.str (.ofString "is_among") (293:Nat)), (.ref (63:Nat))⟩ :: ⟨(PySem.PyData.keyHash P (.ofString "is_white")), (.str (.ofString "is_white") (300:Nat)), (.ref (70:Nat))⟩ :: ⟨(PySem.PyData.keyHash P (.ofString "is_line_end")), (.str (.ofString "is_line_end") (307:Nat)), (.ref (77:Nat))⟩ :: ⟨(PySem.PyData.keyHash P (.ofString "is_digit")), (.str (.ofString "is_digit") (314:Nat)), (.ref (84:Nat))⟩ :: ⟨(PySem.PyData.keyHash P (.ofString "is_octal_digit")), (.str (.ofString "is_octal_digit") (321:Nat)), (.ref (91:Nat))⟩ :: ⟨(PySem.PyData.keyHash P (.ofString "hex_value")), (.str (.ofString "hex_value") (328:Nat)), (.ref (98:Nat))⟩ :: ⟨(PySem.PyData.keyHash P (.ofString "is_id_start")), (.str (.ofString "is_id_start") (335:Nat)), (.ref (105:Nat))⟩ :: ⟨(PySem.PyData.keyHash P (.ofString "is_id_part")), (.str (.ofString "is_id_part") (342:Nat)), (.ref (112:Nat))⟩ :: ⟨(PySem.PyData.keyHash P (.ofString "SIGN_BIT")), (.str (.ofString "SIGN_BIT") (348:Nat)), (.int 9223372036854775808 (347:Nat))⟩ :: ⟨(PySem.PyData.keyHash P (.ofString "FRACTION_BITS")), (.str (.ofString "FRACTION_BITS") (350:Nat)), (.int 52 (349:Nat))⟩ :: ⟨(PySem.PyData.keyHash P (.ofString "HIDDEN_BIT")), (.str (.ofString "HIDDEN_BIT") (354:Nat)), (.int 4503599627370496 (353:Nat))⟩ :: ⟨(PySem.PyData.keyHash P (.ofString "EXPONENT_MASK")), (.str (.ofString "EXPONENT_MASK") (356:Nat)), (.int 2047 (355:Nat))⟩ :: ⟨(PySem.PyData.keyHash P (.ofString "EXPONENT_SHIFT")), (.str (.ofString "EXPONENT_SHIFT") (358:Nat)), (.int 1075 (357:Nat))⟩ :: ⟨(PySem.PyData.keyHash P (.ofString "LEAST_POWER")), (.str (.ofString "LEAST_POWER") (361:Nat)), (.int (-1074) (360:Nat))⟩ :: ⟨(PySem.PyData.keyHash P (.ofString "ZERO")), (.str (.ofString "ZERO") (363:Nat)), (.int 0 (362:Nat))⟩ :: ⟨(PySem.PyData.keyHash P (.ofString "INF")), (.str (.ofString "INF") (367:Nat)), (.int 9218868437227405312 (366:Nat))⟩ :: ⟨(PySem.PyData.keyHash P (.ofString "width")), (.str (.ofString "width") (375:Nat)), (.ref (119:Nat))⟩ :: ⟨(PySem.PyData.keyHash P (.ofString "pack")), (.str (.ofString "pack") (384:Nat)), (.ref (126:Nat))⟩ :: ⟨(PySem.PyData.keyHash P (.ofString "signed")), (.str (.ofString "signed") (392:Nat)), (.ref (133:Nat))⟩ :: ⟨(PySem.PyData.keyHash P (.ofString "quotient")), (.str (.ofString "quotient") (401:Nat)), (.ref (140:Nat))⟩ :: ⟨(PySem.PyData.keyHash P (.ofString "round_ratio")), (.str (.ofString "round_ratio") (414:Nat)), (.ref (147:Nat))⟩ :: ⟨(PySem.PyData.keyHash P (.ofString "assembled")), (.str (.ofString "assembled") (424:Nat)), (.ref (154:Nat))⟩ :: ⟨(PySem.PyData.keyHash P (.ofString "from_int")), (.str (.ofString "from_int") (431:Nat)), (.ref (161:Nat))⟩ :: ⟨(PySem.PyData.keyHash P (.ofString "SINGLE")), (.str (.ofString "SINGLE") (452:Nat)), (.ref (162:Nat))⟩ :: ⟨(PySem.PyData.keyHash P (.ofString "code_at")), (.str (.ofString "code_at") (460:Nat)), (.ref (169:Nat))⟩ :: ⟨(PySem.PyData.keyHash P (.ofString "hex_at")), (.str (.ofString "hex_at") (472:Nat)), (.ref (176:Nat))⟩ :: ⟨(PySem.PyData.keyHash P (.ofString "line_end_size")), (.str (.ofString "line_end_size") (480:Nat)), (.ref (183:Nat))⟩ :: ⟨(PySem.PyData.keyHash P (.ofString "octal_escape")), (.str (.ofString "octal_escape") (491:Nat)), (.ref (190:Nat))⟩ :: ⟨(PySem.PyData.keyHash P (.ofString "read_escape")), (.str (.ofString "read_escape") (504:Nat)), (.ref (197:Nat))⟩ :: ⟨(PySem.PyData.keyHash P (.ofString "FARTHEST")), (.str (.ofString "FARTHEST") (508:Nat)), (.int 400 (507:Nat))⟩ :: ⟨(PySem.PyData.keyHash P (.ofString "figure_of")), (.str (.ofString "figure_of") (515:Nat)), (.ref (204:Nat))⟩ :: ⟨(PySem.PyData.keyHash P (.ofString "worth")), (.str (.ofString "worth") (527:Nat)), (.ref (211:Nat))⟩ :: ⟨(PySem.PyData.keyHash P (.ofString "from_decimal")), (.str (.ofString "from_decimal") (538:Nat)), (.ref (218:Nat))⟩ :: ⟨(PySem.PyData.keyHash P (.ofString "KEYWORDS")), (.str (.ofString "KEYWORDS") (577:Nat)), (.ref (219:Nat))⟩ :: ⟨(PySem.PyData.keyHash P (.ofString "PUNCTS")), (.str (.ofString "PUNCTS") (626:Nat)), (.ref (220:Nat))⟩ :: ⟨(PySem.PyData.keyHash P (.ofString "Token")), (.str (.ofString "Token") (667:Nat)), (.ref (237:Nat))⟩ :: ⟨(PySem.PyData.keyHash P (.ofString "is_keyword")), (.str (.ofString "is_keyword") (674:Nat)), (.ref (248:Nat))⟩ :: ⟨(PySem.PyData.keyHash P (.ofString "punct_at")), (.str (.ofString "punct_at") (683:Nat)), (.ref (255:Nat))⟩ :: ⟨(PySem.PyData.keyHash P (.ofString "SyntaxFail")), (.str (.ofString "SyntaxFail") (716:Nat)), (.ref (272:Nat))⟩ :: ⟨(PySem.PyData.keyHash P (.ofString "Lexer")), (.str (.ofString "Lexer") (919:Nat)), (.ref (418:Nat))⟩ :: ⟨(PySem.PyData.keyHash P (.ofString "_law_take")), (.str (.ofString "_law_take") (929:Nat)), (.ref (429:Nat))⟩ :: ⟨(PySem.PyData.keyHash P (.ofString "_law_pick")), (.str (.ofString "_law_pick") (937:Nat)), (.ref (436:Nat))⟩ :: ⟨(PySem.PyData.keyHash P (.ofString "_law_hex")), (.str (.ofString "_law_hex") (947:Nat)), (.ref (443:Nat))⟩ :: ⟨(PySem.PyData.keyHash P (.ofString "_law_bits")), (.str (.ofString "_law_bits") (957:Nat)), (.ref (450:Nat))⟩ :: ⟨(PySem.PyData.keyHash P (.ofString "_law_word")), (.str (.ofString "_law_word") (967:Nat)), (.ref (457:Nat))⟩ :: ⟨(PySem.PyData.keyHash P (.ofString "_law_number")), (.str (.ofString "_law_number") (976:Nat)), (.ref (464:Nat))⟩ :: ⟨(PySem.PyData.keyHash P (.ofString "_law_sign")), (.str (.ofString "_law_sign") (991:Nat)), (.ref (471:Nat))⟩ :: ⟨(PySem.PyData.keyHash P (.ofString "_law_text")), (.str (.ofString "_law_text") (1006:Nat)), (.ref (478:Nat))⟩ :: ⟨(PySem.PyData.keyHash P (.ofString "_law_gap")), (.str (.ofString "_law_gap") (1014:Nat)), (.ref (485:Nat))⟩ :: ⟨(PySem.PyData.keyHash P (.ofString "_law_token")), (.str (.ofString "_law_token") (1024:Nat)), (.ref (492:Nat))⟩ :: ⟨(PySem.PyData.keyHash P (.ofString "law")), (.str (.ofString "law") (1048:Nat)), (.ref (499:Nat))⟩ :: [])) (64:Nat)), #[]⟩) ::
  (nat_lit 15, ⟨(.type "list"), (@none Nat), (.seq #[(.int 9 (189:Nat)), (.int 11 (190:Nat)), (.int 12 (191:Nat)), (.int 32 (192:Nat)), (.int 160 (193:Nat)), (.int 5760 (194:Nat)), (.int 6158 (195:Nat)), (.int 8239 (196:Nat)), (.int 8287 (197:Nat)), (.int 12288 (198:Nat)), (.int 65279 (199:Nat))] (0:Nat)), #[]⟩) ::
  (nat_lit 16, ⟨(.type "list"), (@none Nat), (.seq #[(.int 10 (201:Nat)), (.int 13 (202:Nat)), (.int 8232 (203:Nat)), (.int 8233 (204:Nat))] (0:Nat)), #[]⟩) ::
  (nat_lit 17, ⟨(.type "tuple"), (@none Nat), (.seq #[(.int 170 (206:Nat)), (.int 170 (207:Nat))] (0:Nat)), #[]⟩) ::
  (nat_lit 18, ⟨(.type "tuple"), (@none Nat), (.seq #[(.int 181 (208:Nat)), (.int 181 (209:Nat))] (0:Nat)), #[]⟩) ::
  (nat_lit 19, ⟨(.type "tuple"), (@none Nat), (.seq #[(.int 186 (210:Nat)), (.int 186 (211:Nat))] (0:Nat)), #[]⟩) ::
  (nat_lit 20, ⟨(.type "tuple"), (@none Nat), (.seq #[(.int 192 (212:Nat)), (.int 214 (213:Nat))] (0:Nat)), #[]⟩) ::
  (nat_lit 21, ⟨(.type "tuple"), (@none Nat), (.seq #[(.int 216 (214:Nat)), (.int 246 (215:Nat))] (0:Nat)), #[]⟩) ::
  (nat_lit 22, ⟨(.type "tuple"), (@none Nat), (.seq #[(.int 248 (216:Nat)), (.int 705 (217:Nat))] (0:Nat)), #[]⟩) ::
  (nat_lit 23, ⟨(.type "tuple"), (@none Nat), (.seq #[(.int 880 (218:Nat)), (.int 883 (219:Nat))] (0:Nat)), #[]⟩) ::
  (nat_lit 24, ⟨(.type "tuple"), (@none Nat), (.seq #[(.int 886 (220:Nat)), (.int 887 (221:Nat))] (0:Nat)), #[]⟩) ::
  (nat_lit 25, ⟨(.type "tuple"), (@none Nat), (.seq #[(.int 891 (222:Nat)), (.int 893 (223:Nat))] (0:Nat)), #[]⟩) ::
  (nat_lit 26, ⟨(.type "tuple"), (@none Nat), (.seq #[(.int 902 (224:Nat)), (.int 902 (225:Nat))] (0:Nat)), #[]⟩) ::
  (nat_lit 27, ⟨(.type "tuple"), (@none Nat), (.seq #[(.int 904 (226:Nat)), (.int 906 (227:Nat))] (0:Nat)), #[]⟩) ::
  (nat_lit 28, ⟨(.type "tuple"), (@none Nat), (.seq #[(.int 908 (228:Nat)), (.int 908 (229:Nat))] (0:Nat)), #[]⟩) ::
  (nat_lit 29, ⟨(.type "tuple"), (@none Nat), (.seq #[(.int 910 (230:Nat)), (.int 929 (231:Nat))] (0:Nat)), #[]⟩) ::
  (nat_lit 30, ⟨(.type "tuple"), (@none Nat), (.seq #[(.int 931 (232:Nat)), (.int 1013 (233:Nat))] (0:Nat)), #[]⟩) ::
  (nat_lit 31, ⟨(.type "tuple"), (@none Nat), (.seq #[(.int 1015 (234:Nat)), (.int 1153 (235:Nat))] (0:Nat)), #[]⟩) ::
  (nat_lit 32, ⟨(.type "tuple"), (@none Nat), (.seq #[(.int 1162 (236:Nat)), (.int 1315 (237:Nat))] (0:Nat)), #[]⟩) ::
  (nat_lit 33, ⟨(.type "tuple"), (@none Nat), (.seq #[(.int 1329 (238:Nat)), (.int 1366 (239:Nat))] (0:Nat)), #[]⟩) ::
  (nat_lit 34, ⟨(.type "tuple"), (@none Nat), (.seq #[(.int 1377 (240:Nat)), (.int 1415 (241:Nat))] (0:Nat)), #[]⟩) ::
  (nat_lit 35, ⟨(.type "tuple"), (@none Nat), (.seq #[(.int 1488 (242:Nat)), (.int 1514 (243:Nat))] (0:Nat)), #[]⟩) ::
  (nat_lit 36, ⟨(.type "tuple"), (@none Nat), (.seq #[(.int 1569 (244:Nat)), (.int 1594 (245:Nat))] (0:Nat)), #[]⟩) ::
  (nat_lit 37, ⟨(.type "tuple"), (@none Nat), (.seq #[(.int 1601 (246:Nat)), (.int 1610 (247:Nat))] (0:Nat)), #[]⟩) ::
  (nat_lit 38, ⟨(.type "tuple"), (@none Nat), (.seq #[(.int 2308 (248:Nat)), (.int 2361 (249:Nat))] (0:Nat)), #[]⟩) ::
  (nat_lit 39, ⟨(.type "tuple"), (@none Nat), (.seq #[(.int 4256 (250:Nat)), (.int 4293 (251:Nat))] (0:Nat)), #[]⟩) ::
  (nat_lit 40, ⟨(.type "tuple"), (@none Nat), (.seq #[(.int 4304 (252:Nat)), (.int 4346 (253:Nat))] (0:Nat)), #[]⟩) ::
  (nat_lit 41, ⟨(.type "tuple"), (@none Nat), (.seq #[(.int 7680 (254:Nat)), (.int 7835 (255:Nat))] (0:Nat)), #[]⟩) ::
  (nat_lit 42, ⟨(.type "tuple"), (@none Nat), (.seq #[(.int 7840 (256:Nat)), (.int 7929 (257:Nat))] (0:Nat)), #[]⟩) ::
  (nat_lit 43, ⟨(.type "tuple"), (@none Nat), (.seq #[(.int 8544 (258:Nat)), (.int 8578 (259:Nat))] (0:Nat)), #[]⟩) ::
  (nat_lit 44, ⟨(.type "tuple"), (@none Nat), (.seq #[(.int 12353 (260:Nat)), (.int 12438 (261:Nat))] (0:Nat)), #[]⟩) ::
  (nat_lit 45, ⟨(.type "tuple"), (@none Nat), (.seq #[(.int 12449 (262:Nat)), (.int 12538 (263:Nat))] (0:Nat)), #[]⟩) ::
  (nat_lit 46, ⟨(.type "tuple"), (@none Nat), (.seq #[(.int 12549 (264:Nat)), (.int 12588 (265:Nat))] (0:Nat)), #[]⟩) ::
  (nat_lit 47, ⟨(.type "tuple"), (@none Nat), (.seq #[(.int 19968 (266:Nat)), (.int 40891 (267:Nat))] (0:Nat)), #[]⟩) ::
  (nat_lit 48, ⟨(.type "tuple"), (@none Nat), (.seq #[(.int 44032 (268:Nat)), (.int 55203 (269:Nat))] (0:Nat)), #[]⟩) ::
  (nat_lit 49, ⟨(.type "list"), (@none Nat), (.seq (List.toArray ((.ref (17:Nat)) :: (.ref (18:Nat)) :: (.ref (19:Nat)) :: (.ref (20:Nat)) :: (.ref (21:Nat)) :: (.ref (22:Nat)) :: (.ref (23:Nat)) :: (.ref (24:Nat)) :: (.ref (25:Nat)) :: (.ref (26:Nat)) :: (.ref (27:Nat)) :: (.ref (28:Nat)) :: (.ref (29:Nat)) :: (.ref (30:Nat)) :: (.ref (31:Nat)) :: (.ref (32:Nat)) :: (.ref (33:Nat)) :: (.ref (34:Nat)) :: (.ref (35:Nat)) :: (.ref (36:Nat)) :: (.ref (37:Nat)) :: (.ref (38:Nat)) :: (.ref (39:Nat)) :: (.ref (40:Nat)) :: (.ref (41:Nat)) :: (.ref (42:Nat)) :: (.ref (43:Nat)) :: (.ref (44:Nat)) :: (.ref (45:Nat)) :: (.ref (46:Nat)) :: (.ref (47:Nat)) :: (.ref (48:Nat)) :: [])) (0:Nat)), #[]⟩) ::
  (nat_lit 50, ⟨(.type "tuple"), (@none Nat), (.seq #[(.int 768 (271:Nat)), (.int 879 (272:Nat))] (0:Nat)), #[]⟩) ::
  (nat_lit 51, ⟨(.type "tuple"), (@none Nat), (.seq #[(.int 1632 (273:Nat)), (.int 1641 (274:Nat))] (0:Nat)), #[]⟩) ::
  (nat_lit 52, ⟨(.type "tuple"), (@none Nat), (.seq #[(.int 2406 (275:Nat)), (.int 2415 (276:Nat))] (0:Nat)), #[]⟩) ::
  (nat_lit 53, ⟨(.type "tuple"), (@none Nat), (.seq #[(.int 8204 (277:Nat)), (.int 8205 (278:Nat))] (0:Nat)), #[]⟩) ::
  (nat_lit 54, ⟨(.type "tuple"), (@none Nat), (.seq #[(.int 8255 (279:Nat)), (.int 8256 (280:Nat))] (0:Nat)), #[]⟩) ::
  (nat_lit 55, ⟨(.type "tuple"), (@none Nat), (.seq #[(.int 8276 (281:Nat)), (.int 8276 (282:Nat))] (0:Nat)), #[]⟩) ::
  (nat_lit 56, ⟨(.type "list"), (@none Nat), (.seq #[(.ref (50:Nat)), (.ref (51:Nat)), (.ref (52:Nat)), (.ref (53:Nat)), (.ref (54:Nat)), (.ref (55:Nat))] (0:Nat)), #[]⟩) ::
  (nat_lit 57, ⟨(.type "tuple"), (@none Nat), (.seq #[] (0:Nat)), #[]⟩) ::
  (nat_lit 59, ⟨(.type "tuple"), (@none Nat), (.seq #[(.str (.ofString "code") (287:Nat)), (.str (.ofString "ranges") (288:Nat)), (.str (.ofString "first") (289:Nat)), (.str (.ofString "last") (290:Nat))] (0:Nat)), #[]⟩) ::
  (nat_lit 60, ⟨(.type "tuple"), (@none Nat), (.seq #[] (0:Nat)), #[]⟩) ::
  (nat_lit 62, ⟨(.type "code"), (@none Nat), (.fields #[(.str (.ofString "is_among") (284:Nat)), (.str (.ofString "is_among") (285:Nat)), (.str (.ofString "/claim/cut.py") (286:Nat)), (.int 6 (0:Nat)), (.int 2 (0:Nat)), (.int 0 (0:Nat)), (.int 0 (0:Nat)), (.int 3 (0:Nat)), (.ref (57:Nat)), (.bool true), (.int 181 (0:Nat)), (.ref (58:Nat)), .none, (.ref (59:Nat)), (.ref (60:Nat)), (.ref (61:Nat)), (.int 291 (0:Nat)), (.int 6 (0:Nat)), (.str (.ofString "/claim/cut.py") (292:Nat))]), #[]⟩) ::
  (nat_lit 63, ⟨(.type "function"), (@none Nat), (.func ⟨(.ofString "is_among"), (.ofString "is_among"), (by refine (?f1 : (kxA (kxSt 5) = ?b1) → PySem.Arguments) ?h1; (case h1 => conv => (lhs; whnf)); (case f1 => exact fun _ => ?b1)), (.stmts (by refine (?f2 : (kxB (kxSt 5) = ?b2) → List PySem.Stmt) ?h2; (case h2 => conv => (lhs; whnf)); (case f2 => exact fun _ => ?b2))), (by refine (?f3 : (kxS (kxSt 5) = ?b3) → PySem.Scope) ?h3; (case h3 => conv => (lhs; whnf)); (case f3 => exact fun _ => ?b3)), (3:Nat), (@List.nil (PySem.Str × Nat)), .none, .none, .none, (.str (.ofString "js.chars") (187:Nat)), (@none Nat), (.ref (62:Nat)), .none, (0:Nat)⟩), #[]⟩) ::
  (nat_lit 64, ⟨(.type "tuple"), (@none Nat), (.seq #[] (0:Nat)), #[]⟩) ::
  (nat_lit 66, ⟨(.type "tuple"), (@none Nat), (.seq #[(.str (.ofString "code") (297:Nat))] (0:Nat)), #[]⟩) ::
  (nat_lit 67, ⟨(.type "tuple"), (@none Nat), (.seq #[] (0:Nat)), #[]⟩) ::
  (nat_lit 69, ⟨(.type "code"), (@none Nat), (.fields #[(.str (.ofString "is_white") (294:Nat)), (.str (.ofString "is_white") (295:Nat)), (.str (.ofString "/claim/cut.py") (296:Nat)), (.int 11 (0:Nat)), (.int 1 (0:Nat)), (.int 0 (0:Nat)), (.int 0 (0:Nat)), (.int 3 (0:Nat)), (.ref (64:Nat)), (.bool true), (.int 181 (0:Nat)), (.ref (65:Nat)), .none, (.ref (66:Nat)), (.ref (67:Nat)), (.ref (68:Nat)), (.int 298 (0:Nat)), (.int 11 (0:Nat)), (.str (.ofString "/claim/cut.py") (299:Nat))]), #[]⟩) ::
  (nat_lit 70, ⟨(.type "function"), (@none Nat), (.func ⟨(.ofString "is_white"), (.ofString "is_white"), (by refine (?f4 : (kxA (kxSt 6) = ?b4) → PySem.Arguments) ?h4; (case h4 => conv => (lhs; whnf)); (case f4 => exact fun _ => ?b4)), (.stmts (by refine (?f5 : (kxB (kxSt 6) = ?b5) → List PySem.Stmt) ?h5; (case h5 => conv => (lhs; whnf)); (case f5 => exact fun _ => ?b5))), (by refine (?f6 : (kxS (kxSt 6) = ?b6) → PySem.Scope) ?h6; (case h6 => conv => (lhs; whnf)); (case f6 => exact fun _ => ?b6)), (3:Nat), (@List.nil (PySem.Str × Nat)), .none, .none, .none, (.str (.ofString "js.chars") (187:Nat)), (@none Nat), (.ref (69:Nat)), .none, (0:Nat)⟩), #[]⟩) ::
  (nat_lit 71, ⟨(.type "tuple"), (@none Nat), (.seq #[] (0:Nat)), #[]⟩) ::
  (nat_lit 73, ⟨(.type "tuple"), (@none Nat), (.seq #[(.str (.ofString "code") (304:Nat))] (0:Nat)), #[]⟩) ::
  (nat_lit 74, ⟨(.type "tuple"), (@none Nat), (.seq #[] (0:Nat)), #[]⟩) ::
  (nat_lit 76, ⟨(.type "code"), (@none Nat), (.fields #[(.str (.ofString "is_line_end") (301:Nat)), (.str (.ofString "is_line_end") (302:Nat)), (.str (.ofString "/claim/cut.py") (303:Nat)), (.int 13 (0:Nat)), (.int 1 (0:Nat)), (.int 0 (0:Nat)), (.int 0 (0:Nat)), (.int 3 (0:Nat)), (.ref (71:Nat)), (.bool true), (.int 181 (0:Nat)), (.ref (72:Nat)), .none, (.ref (73:Nat)), (.ref (74:Nat)), (.ref (75:Nat)), (.int 305 (0:Nat)), (.int 13 (0:Nat)), (.str (.ofString "/claim/cut.py") (306:Nat))]), #[]⟩) ::
  (nat_lit 77, ⟨(.type "function"), (@none Nat), (.func ⟨(.ofString "is_line_end"), (.ofString "is_line_end"), (by refine (?f7 : (kxA (kxSt 7) = ?b7) → PySem.Arguments) ?h7; (case h7 => conv => (lhs; whnf)); (case f7 => exact fun _ => ?b7)), (.stmts (by refine (?f8 : (kxB (kxSt 7) = ?b8) → List PySem.Stmt) ?h8; (case h8 => conv => (lhs; whnf)); (case f8 => exact fun _ => ?b8))), (by refine (?f9 : (kxS (kxSt 7) = ?b9) → PySem.Scope) ?h9; (case h9 => conv => (lhs; whnf)); (case f9 => exact fun _ => ?b9)), (3:Nat), (@List.nil (PySem.Str × Nat)), .none, .none, .none, (.str (.ofString "js.chars") (187:Nat)), (@none Nat), (.ref (76:Nat)), .none, (0:Nat)⟩), #[]⟩) ::
  (nat_lit 78, ⟨(.type "tuple"), (@none Nat), (.seq #[] (0:Nat)), #[]⟩) ::
  (nat_lit 80, ⟨(.type "tuple"), (@none Nat), (.seq #[(.str (.ofString "code") (311:Nat))] (0:Nat)), #[]⟩) ::
  (nat_lit 81, ⟨(.type "tuple"), (@none Nat), (.seq #[] (0:Nat)), #[]⟩) ::
  (nat_lit 83, ⟨(.type "code"), (@none Nat), (.fields #[(.str (.ofString "is_digit") (308:Nat)), (.str (.ofString "is_digit") (309:Nat)), (.str (.ofString "/claim/cut.py") (310:Nat)), (.int 15 (0:Nat)), (.int 1 (0:Nat)), (.int 0 (0:Nat)), (.int 0 (0:Nat)), (.int 3 (0:Nat)), (.ref (78:Nat)), (.bool true), (.int 181 (0:Nat)), (.ref (79:Nat)), .none, (.ref (80:Nat)), (.ref (81:Nat)), (.ref (82:Nat)), (.int 312 (0:Nat)), (.int 15 (0:Nat)), (.str (.ofString "/claim/cut.py") (313:Nat))]), #[]⟩) ::
  (nat_lit 84, ⟨(.type "function"), (@none Nat), (.func ⟨(.ofString "is_digit"), (.ofString "is_digit"), (by refine (?f10 : (kxA (kxSt 8) = ?b10) → PySem.Arguments) ?h10; (case h10 => conv => (lhs; whnf)); (case f10 => exact fun _ => ?b10)), (.stmts (by refine (?f11 : (kxB (kxSt 8) = ?b11) → List PySem.Stmt) ?h11; (case h11 => conv => (lhs; whnf)); (case f11 => exact fun _ => ?b11))), (by refine (?f12 : (kxS (kxSt 8) = ?b12) → PySem.Scope) ?h12; (case h12 => conv => (lhs; whnf)); (case f12 => exact fun _ => ?b12)), (3:Nat), (@List.nil (PySem.Str × Nat)), .none, .none, .none, (.str (.ofString "js.chars") (187:Nat)), (@none Nat), (.ref (83:Nat)), .none, (0:Nat)⟩), #[]⟩) ::
  (nat_lit 85, ⟨(.type "tuple"), (@none Nat), (.seq #[] (0:Nat)), #[]⟩) ::
  (nat_lit 87, ⟨(.type "tuple"), (@none Nat), (.seq #[(.str (.ofString "code") (318:Nat))] (0:Nat)), #[]⟩) ::
  (nat_lit 88, ⟨(.type "tuple"), (@none Nat), (.seq #[] (0:Nat)), #[]⟩) ::
  (nat_lit 90, ⟨(.type "code"), (@none Nat), (.fields #[(.str (.ofString "is_octal_digit") (315:Nat)), (.str (.ofString "is_octal_digit") (316:Nat)), (.str (.ofString "/claim/cut.py") (317:Nat)), (.int 17 (0:Nat)), (.int 1 (0:Nat)), (.int 0 (0:Nat)), (.int 0 (0:Nat)), (.int 3 (0:Nat)), (.ref (85:Nat)), (.bool true), (.int 181 (0:Nat)), (.ref (86:Nat)), .none, (.ref (87:Nat)), (.ref (88:Nat)), (.ref (89:Nat)), (.int 319 (0:Nat)), (.int 17 (0:Nat)), (.str (.ofString "/claim/cut.py") (320:Nat))]), #[]⟩) ::
  (nat_lit 91, ⟨(.type "function"), (@none Nat), (.func ⟨(.ofString "is_octal_digit"), (.ofString "is_octal_digit"), (by refine (?f13 : (kxA (kxSt 9) = ?b13) → PySem.Arguments) ?h13; (case h13 => conv => (lhs; whnf)); (case f13 => exact fun _ => ?b13)), (.stmts (by refine (?f14 : (kxB (kxSt 9) = ?b14) → List PySem.Stmt) ?h14; (case h14 => conv => (lhs; whnf)); (case f14 => exact fun _ => ?b14))), (by refine (?f15 : (kxS (kxSt 9) = ?b15) → PySem.Scope) ?h15; (case h15 => conv => (lhs; whnf)); (case f15 => exact fun _ => ?b15)), (3:Nat), (@List.nil (PySem.Str × Nat)), .none, .none, .none, (.str (.ofString "js.chars") (187:Nat)), (@none Nat), (.ref (90:Nat)), .none, (0:Nat)⟩), #[]⟩) ::
  (nat_lit 92, ⟨(.type "tuple"), (@none Nat), (.seq #[] (0:Nat)), #[]⟩) ::
  (nat_lit 94, ⟨(.type "tuple"), (@none Nat), (.seq #[(.str (.ofString "code") (325:Nat))] (0:Nat)), #[]⟩) ::
  (nat_lit 95, ⟨(.type "tuple"), (@none Nat), (.seq #[] (0:Nat)), #[]⟩) ::
  (nat_lit 97, ⟨(.type "code"), (@none Nat), (.fields #[(.str (.ofString "hex_value") (322:Nat)), (.str (.ofString "hex_value") (323:Nat)), (.str (.ofString "/claim/cut.py") (324:Nat)), (.int 19 (0:Nat)), (.int 1 (0:Nat)), (.int 0 (0:Nat)), (.int 0 (0:Nat)), (.int 3 (0:Nat)), (.ref (92:Nat)), (.bool true), (.int 181 (0:Nat)), (.ref (93:Nat)), .none, (.ref (94:Nat)), (.ref (95:Nat)), (.ref (96:Nat)), (.int 326 (0:Nat)), (.int 19 (0:Nat)), (.str (.ofString "/claim/cut.py") (327:Nat))]), #[]⟩) ::
  (nat_lit 98, ⟨(.type "function"), (@none Nat), (.func ⟨(.ofString "hex_value"), (.ofString "hex_value"), (by refine (?f16 : (kxA (kxSt 10) = ?b16) → PySem.Arguments) ?h16; (case h16 => conv => (lhs; whnf)); (case f16 => exact fun _ => ?b16)), (.stmts (by refine (?f17 : (kxB (kxSt 10) = ?b17) → List PySem.Stmt) ?h17; (case h17 => conv => (lhs; whnf)); (case f17 => exact fun _ => ?b17))), (by refine (?f18 : (kxS (kxSt 10) = ?b18) → PySem.Scope) ?h18; (case h18 => conv => (lhs; whnf)); (case f18 => exact fun _ => ?b18)), (3:Nat), (@List.nil (PySem.Str × Nat)), .none, .none, .none, (.str (.ofString "js.chars") (187:Nat)), (@none Nat), (.ref (97:Nat)), .none, (0:Nat)⟩), #[]⟩) ::
  (nat_lit 99, ⟨(.type "tuple"), (@none Nat), (.seq #[] (0:Nat)), #[]⟩) ::
  (nat_lit 101, ⟨(.type "tuple"), (@none Nat), (.seq #[(.str (.ofString "code") (332:Nat))] (0:Nat)), #[]⟩) ::
  (nat_lit 102, ⟨(.type "tuple"), (@none Nat), (.seq #[] (0:Nat)), #[]⟩) ::
  (nat_lit 104, ⟨(.type "code"), (@none Nat), (.fields #[(.str (.ofString "is_id_start") (329:Nat)), (.str (.ofString "is_id_start") (330:Nat)), (.str (.ofString "/claim/cut.py") (331:Nat)), (.int 25 (0:Nat)), (.int 1 (0:Nat)), (.int 0 (0:Nat)), (.int 0 (0:Nat)), (.int 3 (0:Nat)), (.ref (99:Nat)), (.bool true), (.int 181 (0:Nat)), (.ref (100:Nat)), .none, (.ref (101:Nat)), (.ref (102:Nat)), (.ref (103:Nat)), (.int 333 (0:Nat)), (.int 25 (0:Nat)), (.str (.ofString "/claim/cut.py") (334:Nat))]), #[]⟩) ::
  (nat_lit 105, ⟨(.type "function"), (@none Nat), (.func ⟨(.ofString "is_id_start"), (.ofString "is_id_start"), (by refine (?f19 : (kxA (kxSt 11) = ?b19) → PySem.Arguments) ?h19; (case h19 => conv => (lhs; whnf)); (case f19 => exact fun _ => ?b19)), (.stmts (by refine (?f20 : (kxB (kxSt 11) = ?b20) → List PySem.Stmt) ?h20; (case h20 => conv => (lhs; whnf)); (case f20 => exact fun _ => ?b20))), (by refine (?f21 : (kxS (kxSt 11) = ?b21) → PySem.Scope) ?h21; (case h21 => conv => (lhs; whnf)); (case f21 => exact fun _ => ?b21)), (3:Nat), (@List.nil (PySem.Str × Nat)), .none, .none, .none, (.str (.ofString "js.chars") (187:Nat)), (@none Nat), (.ref (104:Nat)), .none, (0:Nat)⟩), #[]⟩) ::
  (nat_lit 106, ⟨(.type "tuple"), (@none Nat), (.seq #[] (0:Nat)), #[]⟩) ::
  (nat_lit 108, ⟨(.type "tuple"), (@none Nat), (.seq #[(.str (.ofString "code") (339:Nat))] (0:Nat)), #[]⟩) ::
  (nat_lit 109, ⟨(.type "tuple"), (@none Nat), (.seq #[] (0:Nat)), #[]⟩) ::
  (nat_lit 111, ⟨(.type "code"), (@none Nat), (.fields #[(.str (.ofString "is_id_part") (336:Nat)), (.str (.ofString "is_id_part") (337:Nat)), (.str (.ofString "/claim/cut.py") (338:Nat)), (.int 29 (0:Nat)), (.int 1 (0:Nat)), (.int 0 (0:Nat)), (.int 0 (0:Nat)), (.int 3 (0:Nat)), (.ref (106:Nat)), (.bool true), (.int 181 (0:Nat)), (.ref (107:Nat)), .none, (.ref (108:Nat)), (.ref (109:Nat)), (.ref (110:Nat)), (.int 340 (0:Nat)), (.int 29 (0:Nat)), (.str (.ofString "/claim/cut.py") (341:Nat))]), #[]⟩) ::
  (nat_lit 112, ⟨(.type "function"), (@none Nat), (.func ⟨(.ofString "is_id_part"), (.ofString "is_id_part"), (by refine (?f22 : (kxA (kxSt 12) = ?b22) → PySem.Arguments) ?h22; (case h22 => conv => (lhs; whnf)); (case f22 => exact fun _ => ?b22)), (.stmts (by refine (?f23 : (kxB (kxSt 12) = ?b23) → List PySem.Stmt) ?h23; (case h23 => conv => (lhs; whnf)); (case f23 => exact fun _ => ?b23))), (by refine (?f24 : (kxS (kxSt 12) = ?b24) → PySem.Scope) ?h24; (case h24 => conv => (lhs; whnf)); (case f24 => exact fun _ => ?b24)), (3:Nat), (@List.nil (PySem.Str × Nat)), .none, .none, .none, (.str (.ofString "js.chars") (187:Nat)), (@none Nat), (.ref (111:Nat)), .none, (0:Nat)⟩), #[]⟩) ::
  (nat_lit 113, ⟨(.type "tuple"), (@none Nat), (.seq #[] (0:Nat)), #[]⟩) ::
  (nat_lit 115, ⟨(.type "tuple"), (@none Nat), (.seq #[(.str (.ofString "n") (371:Nat)), (.str (.ofString "many") (372:Nat))] (0:Nat)), #[]⟩) ::
  (nat_lit 116, ⟨(.type "tuple"), (@none Nat), (.seq #[] (0:Nat)), #[]⟩) ::
  (nat_lit 118, ⟨(.type "code"), (@none Nat), (.fields #[(.str (.ofString "width") (368:Nat)), (.str (.ofString "width") (369:Nat)), (.str (.ofString "/claim/cut.py") (370:Nat)), (.int 40 (0:Nat)), (.int 1 (0:Nat)), (.int 0 (0:Nat)), (.int 0 (0:Nat)), (.int 3 (0:Nat)), (.ref (113:Nat)), (.bool true), (.int 181 (0:Nat)), (.ref (114:Nat)), .none, (.ref (115:Nat)), (.ref (116:Nat)), (.ref (117:Nat)), (.int 373 (0:Nat)), (.int 40 (0:Nat)), (.str (.ofString "/claim/cut.py") (374:Nat))]), #[]⟩) ::
  (nat_lit 119, ⟨(.type "function"), (@none Nat), (.func ⟨(.ofString "width"), (.ofString "width"), (by refine (?f25 : (kxA (kxSt 22) = ?b25) → PySem.Arguments) ?h25; (case h25 => conv => (lhs; whnf)); (case f25 => exact fun _ => ?b25)), (.stmts (by refine (?f26 : (kxB (kxSt 22) = ?b26) → List PySem.Stmt) ?h26; (case h26 => conv => (lhs; whnf)); (case f26 => exact fun _ => ?b26))), (by refine (?f27 : (kxS (kxSt 22) = ?b27) → PySem.Scope) ?h27; (case h27 => conv => (lhs; whnf)); (case f27 => exact fun _ => ?b27)), (3:Nat), (@List.nil (PySem.Str × Nat)), .none, .none, .none, (.str (.ofString "js.dbits") (343:Nat)), (@none Nat), (.ref (118:Nat)), .none, (0:Nat)⟩), #[]⟩) ::
  (nat_lit 120, ⟨(.type "tuple"), (@none Nat), (.seq #[] (0:Nat)), #[]⟩) ::
  (nat_lit 122, ⟨(.type "tuple"), (@none Nat), (.seq #[(.str (.ofString "sign") (379:Nat)), (.str (.ofString "exponent") (380:Nat)), (.str (.ofString "fraction") (381:Nat))] (0:Nat)), #[]⟩) ::
  (nat_lit 123, ⟨(.type "tuple"), (@none Nat), (.seq #[] (0:Nat)), #[]⟩) ::
  (nat_lit 125, ⟨(.type "code"), (@none Nat), (.fields #[(.str (.ofString "pack") (376:Nat)), (.str (.ofString "pack") (377:Nat)), (.str (.ofString "/claim/cut.py") (378:Nat)), (.int 49 (0:Nat)), (.int 3 (0:Nat)), (.int 0 (0:Nat)), (.int 0 (0:Nat)), (.int 3 (0:Nat)), (.ref (120:Nat)), (.bool true), (.int 181 (0:Nat)), (.ref (121:Nat)), .none, (.ref (122:Nat)), (.ref (123:Nat)), (.ref (124:Nat)), (.int 382 (0:Nat)), (.int 49 (0:Nat)), (.str (.ofString "/claim/cut.py") (383:Nat))]), #[]⟩) ::
  (nat_lit 126, ⟨(.type "function"), (@none Nat), (.func ⟨(.ofString "pack"), (.ofString "pack"), (by refine (?f28 : (kxA (kxSt 23) = ?b28) → PySem.Arguments) ?h28; (case h28 => conv => (lhs; whnf)); (case f28 => exact fun _ => ?b28)), (.stmts (by refine (?f29 : (kxB (kxSt 23) = ?b29) → List PySem.Stmt) ?h29; (case h29 => conv => (lhs; whnf)); (case f29 => exact fun _ => ?b29))), (by refine (?f30 : (kxS (kxSt 23) = ?b30) → PySem.Scope) ?h30; (case h30 => conv => (lhs; whnf)); (case f30 => exact fun _ => ?b30)), (3:Nat), (@List.nil (PySem.Str × Nat)), .none, .none, .none, (.str (.ofString "js.dbits") (343:Nat)), (@none Nat), (.ref (125:Nat)), .none, (0:Nat)⟩), #[]⟩) ::
  (nat_lit 127, ⟨(.type "tuple"), (@none Nat), (.seq #[] (0:Nat)), #[]⟩) ::
  (nat_lit 129, ⟨(.type "tuple"), (@none Nat), (.seq #[(.str (.ofString "sign") (388:Nat)), (.str (.ofString "bits") (389:Nat))] (0:Nat)), #[]⟩) ::
  (nat_lit 130, ⟨(.type "tuple"), (@none Nat), (.seq #[] (0:Nat)), #[]⟩) ::
  (nat_lit 132, ⟨(.type "code"), (@none Nat), (.fields #[(.str (.ofString "signed") (385:Nat)), (.str (.ofString "signed") (386:Nat)), (.str (.ofString "/claim/cut.py") (387:Nat)), (.int 51 (0:Nat)), (.int 2 (0:Nat)), (.int 0 (0:Nat)), (.int 0 (0:Nat)), (.int 3 (0:Nat)), (.ref (127:Nat)), (.bool true), (.int 181 (0:Nat)), (.ref (128:Nat)), .none, (.ref (129:Nat)), (.ref (130:Nat)), (.ref (131:Nat)), (.int 390 (0:Nat)), (.int 51 (0:Nat)), (.str (.ofString "/claim/cut.py") (391:Nat))]), #[]⟩) ::
  (nat_lit 133, ⟨(.type "function"), (@none Nat), (.func ⟨(.ofString "signed"), (.ofString "signed"), (by refine (?f31 : (kxA (kxSt 24) = ?b31) → PySem.Arguments) ?h31; (case h31 => conv => (lhs; whnf)); (case f31 => exact fun _ => ?b31)), (.stmts (by refine (?f32 : (kxB (kxSt 24) = ?b32) → List PySem.Stmt) ?h32; (case h32 => conv => (lhs; whnf)); (case f32 => exact fun _ => ?b32))), (by refine (?f33 : (kxS (kxSt 24) = ?b33) → PySem.Scope) ?h33; (case h33 => conv => (lhs; whnf)); (case f33 => exact fun _ => ?b33)), (3:Nat), (@List.nil (PySem.Str × Nat)), .none, .none, .none, (.str (.ofString "js.dbits") (343:Nat)), (@none Nat), (.ref (132:Nat)), .none, (0:Nat)⟩), #[]⟩) ::
  (nat_lit 134, ⟨(.type "tuple"), (@none Nat), (.seq #[] (0:Nat)), #[]⟩) ::
  (nat_lit 136, ⟨(.type "tuple"), (@none Nat), (.seq #[(.str (.ofString "top") (396:Nat)), (.str (.ofString "bottom") (397:Nat)), (.str (.ofString "power") (398:Nat))] (0:Nat)), #[]⟩) ::
  (nat_lit 137, ⟨(.type "tuple"), (@none Nat), (.seq #[] (0:Nat)), #[]⟩) ::
  (nat_lit 139, ⟨(.type "code"), (@none Nat), (.fields #[(.str (.ofString "quotient") (393:Nat)), (.str (.ofString "quotient") (394:Nat)), (.str (.ofString "/claim/cut.py") (395:Nat)), (.int 53 (0:Nat)), (.int 3 (0:Nat)), (.int 0 (0:Nat)), (.int 0 (0:Nat)), (.int 3 (0:Nat)), (.ref (134:Nat)), (.bool true), (.int 181 (0:Nat)), (.ref (135:Nat)), .none, (.ref (136:Nat)), (.ref (137:Nat)), (.ref (138:Nat)), (.int 399 (0:Nat)), (.int 53 (0:Nat)), (.str (.ofString "/claim/cut.py") (400:Nat))]), #[]⟩) ::
  (nat_lit 140, ⟨(.type "function"), (@none Nat), (.func ⟨(.ofString "quotient"), (.ofString "quotient"), (by refine (?f34 : (kxA (kxSt 25) = ?b34) → PySem.Arguments) ?h34; (case h34 => conv => (lhs; whnf)); (case f34 => exact fun _ => ?b34)), (.stmts (by refine (?f35 : (kxB (kxSt 25) = ?b35) → List PySem.Stmt) ?h35; (case h35 => conv => (lhs; whnf)); (case f35 => exact fun _ => ?b35))), (by refine (?f36 : (kxS (kxSt 25) = ?b36) → PySem.Scope) ?h36; (case h36 => conv => (lhs; whnf)); (case f36 => exact fun _ => ?b36)), (3:Nat), (@List.nil (PySem.Str × Nat)), .none, .none, .none, (.str (.ofString "js.dbits") (343:Nat)), (@none Nat), (.ref (139:Nat)), .none, (0:Nat)⟩), #[]⟩) ::
  (nat_lit 141, ⟨(.type "tuple"), (@none Nat), (.seq #[] (0:Nat)), #[]⟩) ::
  (nat_lit 143, ⟨(.type "tuple"), (@none Nat), (.seq #[(.str (.ofString "sign") (405:Nat)), (.str (.ofString "top") (406:Nat)), (.str (.ofString "bottom") (407:Nat)), (.str (.ofString "power") (408:Nat)), (.str (.ofString "whole") (409:Nat)), (.str (.ofString "rest") (410:Nat)), (.str (.ofString "unit") (411:Nat))] (0:Nat)), #[]⟩) ::
  (nat_lit 144, ⟨(.type "tuple"), (@none Nat), (.seq #[] (0:Nat)), #[]⟩) ::
  (nat_lit 146, ⟨(.type "code"), (@none Nat), (.fields #[(.str (.ofString "round_ratio") (402:Nat)), (.str (.ofString "round_ratio") (403:Nat)), (.str (.ofString "/claim/cut.py") (404:Nat)), (.int 59 (0:Nat)), (.int 3 (0:Nat)), (.int 0 (0:Nat)), (.int 0 (0:Nat)), (.int 3 (0:Nat)), (.ref (141:Nat)), (.bool true), (.int 181 (0:Nat)), (.ref (142:Nat)), .none, (.ref (143:Nat)), (.ref (144:Nat)), (.ref (145:Nat)), (.int 412 (0:Nat)), (.int 59 (0:Nat)), (.str (.ofString "/claim/cut.py") (413:Nat))]), #[]⟩) ::
  (nat_lit 147, ⟨(.type "function"), (@none Nat), (.func ⟨(.ofString "round_ratio"), (.ofString "round_ratio"), (by refine (?f37 : (kxA (kxSt 26) = ?b37) → PySem.Arguments) ?h37; (case h37 => conv => (lhs; whnf)); (case f37 => exact fun _ => ?b37)), (.stmts (by refine (?f38 : (kxB (kxSt 26) = ?b38) → List PySem.Stmt) ?h38; (case h38 => conv => (lhs; whnf)); (case f38 => exact fun _ => ?b38))), (by refine (?f39 : (kxS (kxSt 26) = ?b39) → PySem.Scope) ?h39; (case h39 => conv => (lhs; whnf)); (case f39 => exact fun _ => ?b39)), (3:Nat), (@List.nil (PySem.Str × Nat)), .none, .none, .none, (.str (.ofString "js.dbits") (343:Nat)), (@none Nat), (.ref (146:Nat)), .none, (0:Nat)⟩), #[]⟩) ::
  (nat_lit 148, ⟨(.type "tuple"), (@none Nat), (.seq #[] (0:Nat)), #[]⟩) ::
  (nat_lit 150, ⟨(.type "tuple"), (@none Nat), (.seq #[(.str (.ofString "sign") (418:Nat)), (.str (.ofString "whole") (419:Nat)), (.str (.ofString "power") (420:Nat)), (.str (.ofString "exponent") (421:Nat))] (0:Nat)), #[]⟩) ::
  (nat_lit 151, ⟨(.type "tuple"), (@none Nat), (.seq #[] (0:Nat)), #[]⟩) ::
  (nat_lit 153, ⟨(.type "code"), (@none Nat), (.fields #[(.str (.ofString "assembled") (415:Nat)), (.str (.ofString "assembled") (416:Nat)), (.str (.ofString "/claim/cut.py") (417:Nat)), (.int 70 (0:Nat)), (.int 3 (0:Nat)), (.int 0 (0:Nat)), (.int 0 (0:Nat)), (.int 3 (0:Nat)), (.ref (148:Nat)), (.bool true), (.int 181 (0:Nat)), (.ref (149:Nat)), .none, (.ref (150:Nat)), (.ref (151:Nat)), (.ref (152:Nat)), (.int 422 (0:Nat)), (.int 70 (0:Nat)), (.str (.ofString "/claim/cut.py") (423:Nat))]), #[]⟩) ::
  (nat_lit 154, ⟨(.type "function"), (@none Nat), (.func ⟨(.ofString "assembled"), (.ofString "assembled"), (by refine (?f40 : (kxA (kxSt 27) = ?b40) → PySem.Arguments) ?h40; (case h40 => conv => (lhs; whnf)); (case f40 => exact fun _ => ?b40)), (.stmts (by refine (?f41 : (kxB (kxSt 27) = ?b41) → List PySem.Stmt) ?h41; (case h41 => conv => (lhs; whnf)); (case f41 => exact fun _ => ?b41))), (by refine (?f42 : (kxS (kxSt 27) = ?b42) → PySem.Scope) ?h42; (case h42 => conv => (lhs; whnf)); (case f42 => exact fun _ => ?b42)), (3:Nat), (@List.nil (PySem.Str × Nat)), .none, .none, .none, (.str (.ofString "js.dbits") (343:Nat)), (@none Nat), (.ref (153:Nat)), .none, (0:Nat)⟩), #[]⟩) ::
  (nat_lit 155, ⟨(.type "tuple"), (@none Nat), (.seq #[] (0:Nat)), #[]⟩) ::
  (nat_lit 157, ⟨(.type "tuple"), (@none Nat), (.seq #[(.str (.ofString "n") (428:Nat))] (0:Nat)), #[]⟩) ::
  (nat_lit 158, ⟨(.type "tuple"), (@none Nat), (.seq #[] (0:Nat)), #[]⟩) ::
  (nat_lit 160, ⟨(.type "code"), (@none Nat), (.fields #[(.str (.ofString "from_int") (425:Nat)), (.str (.ofString "from_int") (426:Nat)), (.str (.ofString "/claim/cut.py") (427:Nat)), (.int 79 (0:Nat)), (.int 1 (0:Nat)), (.int 0 (0:Nat)), (.int 0 (0:Nat)), (.int 3 (0:Nat)), (.ref (155:Nat)), (.bool true), (.int 181 (0:Nat)), (.ref (156:Nat)), .none, (.ref (157:Nat)), (.ref (158:Nat)), (.ref (159:Nat)), (.int 429 (0:Nat)), (.int 79 (0:Nat)), (.str (.ofString "/claim/cut.py") (430:Nat))]), #[]⟩) ::
  (nat_lit 161, ⟨(.type "function"), (@none Nat), (.func ⟨(.ofString "from_int"), (.ofString "from_int"), (by refine (?f43 : (kxA (kxSt 28) = ?b43) → PySem.Arguments) ?h43; (case h43 => conv => (lhs; whnf)); (case f43 => exact fun _ => ?b43)), (.stmts (by refine (?f44 : (kxB (kxSt 28) = ?b44) → List PySem.Stmt) ?h44; (case h44 => conv => (lhs; whnf)); (case f44 => exact fun _ => ?b44))), (by refine (?f45 : (kxS (kxSt 28) = ?b45) → PySem.Scope) ?h45; (case h45 => conv => (lhs; whnf)); (case f45 => exact fun _ => ?b45)), (3:Nat), (@List.nil (PySem.Str × Nat)), .none, .none, .none, (.str (.ofString "js.dbits") (343:Nat)), (@none Nat), (.ref (160:Nat)), .none, (0:Nat)⟩), #[]⟩) ::
  (nat_lit 162, ⟨(.type "dict"), (@none Nat), (.dict #[⟨(PySem.PyData.keyHash P (.ofString "b")), (.str (.ofString "b") (434:Nat)), (.int 8 (435:Nat))⟩, ⟨(PySem.PyData.keyHash P (.ofString "t")), (.str (.ofString "t") (436:Nat)), (.int 9 (437:Nat))⟩, ⟨(PySem.PyData.keyHash P (.ofString "n")), (.str (.ofString "n") (438:Nat)), (.int 10 (439:Nat))⟩, ⟨(PySem.PyData.keyHash P (.ofString "v")), (.str (.ofString "v") (440:Nat)), (.int 11 (441:Nat))⟩, ⟨(PySem.PyData.keyHash P (.ofString "f")), (.str (.ofString "f") (442:Nat)), (.int 12 (443:Nat))⟩, ⟨(PySem.PyData.keyHash P (.ofString "r")), (.str (.ofString "r") (444:Nat)), (.int 13 (445:Nat))⟩] (6:Nat)), #[]⟩) ::
  (nat_lit 163, ⟨(.type "tuple"), (@none Nat), (.seq #[] (0:Nat)), #[]⟩) ::
  (nat_lit 165, ⟨(.type "tuple"), (@none Nat), (.seq #[(.str (.ofString "text") (456:Nat)), (.str (.ofString "at") (457:Nat))] (0:Nat)), #[]⟩) ::
  (nat_lit 166, ⟨(.type "tuple"), (@none Nat), (.seq #[] (0:Nat)), #[]⟩) ::
  (nat_lit 168, ⟨(.type "code"), (@none Nat), (.fields #[(.str (.ofString "code_at") (453:Nat)), (.str (.ofString "code_at") (454:Nat)), (.str (.ofString "/claim/cut.py") (455:Nat)), (.int 83 (0:Nat)), (.int 2 (0:Nat)), (.int 0 (0:Nat)), (.int 0 (0:Nat)), (.int 3 (0:Nat)), (.ref (163:Nat)), (.bool true), (.int 181 (0:Nat)), (.ref (164:Nat)), .none, (.ref (165:Nat)), (.ref (166:Nat)), (.ref (167:Nat)), (.int 458 (0:Nat)), (.int 83 (0:Nat)), (.str (.ofString "/claim/cut.py") (459:Nat))]), #[]⟩) ::
  (nat_lit 169, ⟨(.type "function"), (@none Nat), (.func ⟨(.ofString "code_at"), (.ofString "code_at"), (by refine (?f46 : (kxA (kxSt 31) = ?b46) → PySem.Arguments) ?h46; (case h46 => conv => (lhs; whnf)); (case f46 => exact fun _ => ?b46)), (.stmts (by refine (?f47 : (kxB (kxSt 31) = ?b47) → List PySem.Stmt) ?h47; (case h47 => conv => (lhs; whnf)); (case f47 => exact fun _ => ?b47))), (by refine (?f48 : (kxS (kxSt 31) = ?b48) → PySem.Scope) ?h48; (case h48 => conv => (lhs; whnf)); (case f48 => exact fun _ => ?b48)), (3:Nat), (@List.nil (PySem.Str × Nat)), .none, .none, .none, (.str (.ofString "js.escapes") (432:Nat)), (@none Nat), (.ref (168:Nat)), .none, (0:Nat)⟩), #[]⟩) ::
  (nat_lit 170, ⟨(.type "tuple"), (@none Nat), (.seq #[] (0:Nat)), #[]⟩) ::
  (nat_lit 172, ⟨(.type "tuple"), (@none Nat), (.seq #[(.str (.ofString "text") (464:Nat)), (.str (.ofString "at") (465:Nat)), (.str (.ofString "many") (466:Nat)), (.str (.ofString "value") (467:Nat)), (.str (.ofString "step") (468:Nat)), (.str (.ofString "figure") (469:Nat))] (0:Nat)), #[]⟩) ::
  (nat_lit 173, ⟨(.type "tuple"), (@none Nat), (.seq #[] (0:Nat)), #[]⟩) ::
  (nat_lit 175, ⟨(.type "code"), (@none Nat), (.fields #[(.str (.ofString "hex_at") (461:Nat)), (.str (.ofString "hex_at") (462:Nat)), (.str (.ofString "/claim/cut.py") (463:Nat)), (.int 85 (0:Nat)), (.int 3 (0:Nat)), (.int 0 (0:Nat)), (.int 0 (0:Nat)), (.int 3 (0:Nat)), (.ref (170:Nat)), (.bool true), (.int 181 (0:Nat)), (.ref (171:Nat)), .none, (.ref (172:Nat)), (.ref (173:Nat)), (.ref (174:Nat)), (.int 470 (0:Nat)), (.int 85 (0:Nat)), (.str (.ofString "/claim/cut.py") (471:Nat))]), #[]⟩) ::
  (nat_lit 176, ⟨(.type "function"), (@none Nat), (.func ⟨(.ofString "hex_at"), (.ofString "hex_at"), (by refine (?f49 : (kxA (kxSt 32) = ?b49) → PySem.Arguments) ?h49; (case h49 => conv => (lhs; whnf)); (case f49 => exact fun _ => ?b49)), (.stmts (by refine (?f50 : (kxB (kxSt 32) = ?b50) → List PySem.Stmt) ?h50; (case h50 => conv => (lhs; whnf)); (case f50 => exact fun _ => ?b50))), (by refine (?f51 : (kxS (kxSt 32) = ?b51) → PySem.Scope) ?h51; (case h51 => conv => (lhs; whnf)); (case f51 => exact fun _ => ?b51)), (3:Nat), (@List.nil (PySem.Str × Nat)), .none, .none, .none, (.str (.ofString "js.escapes") (432:Nat)), (@none Nat), (.ref (175:Nat)), .none, (0:Nat)⟩), #[]⟩) ::
  (nat_lit 177, ⟨(.type "tuple"), (@none Nat), (.seq #[] (0:Nat)), #[]⟩) ::
  (nat_lit 179, ⟨(.type "tuple"), (@none Nat), (.seq #[(.str (.ofString "text") (476:Nat)), (.str (.ofString "at") (477:Nat))] (0:Nat)), #[]⟩) ::
  (nat_lit 180, ⟨(.type "tuple"), (@none Nat), (.seq #[] (0:Nat)), #[]⟩) ::
  (nat_lit 182, ⟨(.type "code"), (@none Nat), (.fields #[(.str (.ofString "line_end_size") (473:Nat)), (.str (.ofString "line_end_size") (474:Nat)), (.str (.ofString "/claim/cut.py") (475:Nat)), (.int 93 (0:Nat)), (.int 2 (0:Nat)), (.int 0 (0:Nat)), (.int 0 (0:Nat)), (.int 3 (0:Nat)), (.ref (177:Nat)), (.bool true), (.int 181 (0:Nat)), (.ref (178:Nat)), .none, (.ref (179:Nat)), (.ref (180:Nat)), (.ref (181:Nat)), (.int 478 (0:Nat)), (.int 93 (0:Nat)), (.str (.ofString "/claim/cut.py") (479:Nat))]), #[]⟩) ::
  (nat_lit 183, ⟨(.type "function"), (@none Nat), (.func ⟨(.ofString "line_end_size"), (.ofString "line_end_size"), (by refine (?f52 : (kxA (kxSt 33) = ?b52) → PySem.Arguments) ?h52; (case h52 => conv => (lhs; whnf)); (case f52 => exact fun _ => ?b52)), (.stmts (by refine (?f53 : (kxB (kxSt 33) = ?b53) → List PySem.Stmt) ?h53; (case h53 => conv => (lhs; whnf)); (case f53 => exact fun _ => ?b53))), (by refine (?f54 : (kxS (kxSt 33) = ?b54) → PySem.Scope) ?h54; (case h54 => conv => (lhs; whnf)); (case f54 => exact fun _ => ?b54)), (3:Nat), (@List.nil (PySem.Str × Nat)), .none, .none, .none, (.str (.ofString "js.escapes") (432:Nat)), (@none Nat), (.ref (182:Nat)), .none, (0:Nat)⟩), #[]⟩) ::
  (nat_lit 184, ⟨(.type "tuple"), (@none Nat), (.seq #[] (0:Nat)), #[]⟩) ::
  (nat_lit 186, ⟨(.type "tuple"), (@none Nat), (.seq #[(.str (.ofString "text") (484:Nat)), (.str (.ofString "at") (485:Nat)), (.str (.ofString "most") (486:Nat)), (.str (.ofString "many") (487:Nat)), (.str (.ofString "value") (488:Nat))] (0:Nat)), #[]⟩) ::
  (nat_lit 187, ⟨(.type "tuple"), (@none Nat), (.seq #[] (0:Nat)), #[]⟩) ::
  (nat_lit 189, ⟨(.type "code"), (@none Nat), (.fields #[(.str (.ofString "octal_escape") (481:Nat)), (.str (.ofString "octal_escape") (482:Nat)), (.str (.ofString "/claim/cut.py") (483:Nat)), (.int 95 (0:Nat)), (.int 2 (0:Nat)), (.int 0 (0:Nat)), (.int 0 (0:Nat)), (.int 3 (0:Nat)), (.ref (184:Nat)), (.bool true), (.int 181 (0:Nat)), (.ref (185:Nat)), .none, (.ref (186:Nat)), (.ref (187:Nat)), (.ref (188:Nat)), (.int 489 (0:Nat)), (.int 95 (0:Nat)), (.str (.ofString "/claim/cut.py") (490:Nat))]), #[]⟩) ::
  (nat_lit 190, ⟨(.type "function"), (@none Nat), (.func ⟨(.ofString "octal_escape"), (.ofString "octal_escape"), (by refine (?f55 : (kxA (kxSt 34) = ?b55) → PySem.Arguments) ?h55; (case h55 => conv => (lhs; whnf)); (case f55 => exact fun _ => ?b55)), (.stmts (by refine (?f56 : (kxB (kxSt 34) = ?b56) → List PySem.Stmt) ?h56; (case h56 => conv => (lhs; whnf)); (case f56 => exact fun _ => ?b56))), (by refine (?f57 : (kxS (kxSt 34) = ?b57) → PySem.Scope) ?h57; (case h57 => conv => (lhs; whnf)); (case f57 => exact fun _ => ?b57)), (3:Nat), (@List.nil (PySem.Str × Nat)), .none, .none, .none, (.str (.ofString "js.escapes") (432:Nat)), (@none Nat), (.ref (189:Nat)), .none, (0:Nat)⟩), #[]⟩) ::
  (nat_lit 191, ⟨(.type "tuple"), (@none Nat), (.seq #[] (0:Nat)), #[]⟩) ::
  (nat_lit 193, ⟨(.type "tuple"), (@none Nat), (.seq #[(.str (.ofString "text") (495:Nat)), (.str (.ofString "at") (496:Nat)), (.str (.ofString "code") (497:Nat)), (.str (.ofString "many") (498:Nat)), (.str (.ofString "value") (499:Nat)), (.str (.ofString "found") (500:Nat)), (.str (.ofString "sign") (501:Nat))] (0:Nat)), #[]⟩) ::
  (nat_lit 194, ⟨(.type "tuple"), (@none Nat), (.seq #[] (0:Nat)), #[]⟩) ::
  (nat_lit 196, ⟨(.type "code"), (@none Nat), (.fields #[(.str (.ofString "read_escape") (492:Nat)), (.str (.ofString "read_escape") (493:Nat)), (.str (.ofString "/claim/cut.py") (494:Nat)), (.int 104 (0:Nat)), (.int 2 (0:Nat)), (.int 0 (0:Nat)), (.int 0 (0:Nat)), (.int 3 (0:Nat)), (.ref (191:Nat)), (.bool true), (.int 181 (0:Nat)), (.ref (192:Nat)), .none, (.ref (193:Nat)), (.ref (194:Nat)), (.ref (195:Nat)), (.int 502 (0:Nat)), (.int 104 (0:Nat)), (.str (.ofString "/claim/cut.py") (503:Nat))]), #[]⟩) ::
  (nat_lit 197, ⟨(.type "function"), (@none Nat), (.func ⟨(.ofString "read_escape"), (.ofString "read_escape"), (by refine (?f58 : (kxA (kxSt 35) = ?b58) → PySem.Arguments) ?h58; (case h58 => conv => (lhs; whnf)); (case f58 => exact fun _ => ?b58)), (.stmts (by refine (?f59 : (kxB (kxSt 35) = ?b59) → List PySem.Stmt) ?h59; (case h59 => conv => (lhs; whnf)); (case f59 => exact fun _ => ?b59))), (by refine (?f60 : (kxS (kxSt 35) = ?b60) → PySem.Scope) ?h60; (case h60 => conv => (lhs; whnf)); (case f60 => exact fun _ => ?b60)), (3:Nat), (@List.nil (PySem.Str × Nat)), .none, .none, .none, (.str (.ofString "js.escapes") (432:Nat)), (@none Nat), (.ref (196:Nat)), .none, (0:Nat)⟩), #[]⟩) ::
  (nat_lit 198, ⟨(.type "tuple"), (@none Nat), (.seq #[] (0:Nat)), #[]⟩) ::
  (nat_lit 200, ⟨(.type "tuple"), (@none Nat), (.seq #[(.str (.ofString "sign") (512:Nat))] (0:Nat)), #[]⟩) ::
  (nat_lit 201, ⟨(.type "tuple"), (@none Nat), (.seq #[] (0:Nat)), #[]⟩) ::
  (nat_lit 203, ⟨(.type "code"), (@none Nat), (.fields #[(.str (.ofString "figure_of") (509:Nat)), (.str (.ofString "figure_of") (510:Nat)), (.str (.ofString "/claim/cut.py") (511:Nat)), (.int 125 (0:Nat)), (.int 1 (0:Nat)), (.int 0 (0:Nat)), (.int 0 (0:Nat)), (.int 3 (0:Nat)), (.ref (198:Nat)), (.bool true), (.int 181 (0:Nat)), (.ref (199:Nat)), .none, (.ref (200:Nat)), (.ref (201:Nat)), (.ref (202:Nat)), (.int 513 (0:Nat)), (.int 125 (0:Nat)), (.str (.ofString "/claim/cut.py") (514:Nat))]), #[]⟩) ::
  (nat_lit 204, ⟨(.type "function"), (@none Nat), (.func ⟨(.ofString "figure_of"), (.ofString "figure_of"), (by refine (?f61 : (kxA (kxSt 38) = ?b61) → PySem.Arguments) ?h61; (case h61 => conv => (lhs; whnf)); (case f61 => exact fun _ => ?b61)), (.stmts (by refine (?f62 : (kxB (kxSt 38) = ?b62) → List PySem.Stmt) ?h62; (case h62 => conv => (lhs; whnf)); (case f62 => exact fun _ => ?b62))), (by refine (?f63 : (kxS (kxSt 38) = ?b63) → PySem.Scope) ?h63; (case h63 => conv => (lhs; whnf)); (case f63 => exact fun _ => ?b63)), (3:Nat), (@List.nil (PySem.Str × Nat)), .none, .none, .none, (.str (.ofString "js.numparse") (505:Nat)), (@none Nat), (.ref (203:Nat)), .none, (0:Nat)⟩), #[]⟩) ::
  (nat_lit 205, ⟨(.type "tuple"), (@none Nat), (.seq #[] (0:Nat)), #[]⟩) ::
  (nat_lit 207, ⟨(.type "tuple"), (@none Nat), (.seq #[(.str (.ofString "text") (519:Nat)), (.str (.ofString "begin") (520:Nat)), (.str (.ofString "end") (521:Nat)), (.str (.ofString "radix") (522:Nat)), (.str (.ofString "found") (523:Nat)), (.str (.ofString "at") (524:Nat))] (0:Nat)), #[]⟩) ::
  (nat_lit 208, ⟨(.type "tuple"), (@none Nat), (.seq #[] (0:Nat)), #[]⟩) ::
  (nat_lit 210, ⟨(.type "code"), (@none Nat), (.fields #[(.str (.ofString "worth") (516:Nat)), (.str (.ofString "worth") (517:Nat)), (.str (.ofString "/claim/cut.py") (518:Nat)), (.int 131 (0:Nat)), (.int 4 (0:Nat)), (.int 0 (0:Nat)), (.int 0 (0:Nat)), (.int 3 (0:Nat)), (.ref (205:Nat)), (.bool true), (.int 181 (0:Nat)), (.ref (206:Nat)), .none, (.ref (207:Nat)), (.ref (208:Nat)), (.ref (209:Nat)), (.int 525 (0:Nat)), (.int 131 (0:Nat)), (.str (.ofString "/claim/cut.py") (526:Nat))]), #[]⟩) ::
  (nat_lit 211, ⟨(.type "function"), (@none Nat), (.func ⟨(.ofString "worth"), (.ofString "worth"), (by refine (?f64 : (kxA (kxSt 39) = ?b64) → PySem.Arguments) ?h64; (case h64 => conv => (lhs; whnf)); (case f64 => exact fun _ => ?b64)), (.stmts (by refine (?f65 : (kxB (kxSt 39) = ?b65) → List PySem.Stmt) ?h65; (case h65 => conv => (lhs; whnf)); (case f65 => exact fun _ => ?b65))), (by refine (?f66 : (kxS (kxSt 39) = ?b66) → PySem.Scope) ?h66; (case h66 => conv => (lhs; whnf)); (case f66 => exact fun _ => ?b66)), (3:Nat), (@List.nil (PySem.Str × Nat)), .none, .none, .none, (.str (.ofString "js.numparse") (505:Nat)), (@none Nat), (.ref (210:Nat)), .none, (0:Nat)⟩), #[]⟩) ::
  (nat_lit 212, ⟨(.type "tuple"), (@none Nat), (.seq #[] (0:Nat)), #[]⟩) ::
  (nat_lit 214, ⟨(.type "tuple"), (@none Nat), (.seq #[(.str (.ofString "figures") (531:Nat)), (.str (.ofString "exponent") (532:Nat)), (.str (.ofString "told") (533:Nat)), (.str (.ofString "place") (534:Nat)), (.str (.ofString "number") (535:Nat))] (0:Nat)), #[]⟩) ::
  (nat_lit 215, ⟨(.type "tuple"), (@none Nat), (.seq #[] (0:Nat)), #[]⟩) ::
  (nat_lit 217, ⟨(.type "code"), (@none Nat), (.fields #[(.str (.ofString "from_decimal") (528:Nat)), (.str (.ofString "from_decimal") (529:Nat)), (.str (.ofString "/claim/cut.py") (530:Nat)), (.int 136 (0:Nat)), (.int 2 (0:Nat)), (.int 0 (0:Nat)), (.int 0 (0:Nat)), (.int 3 (0:Nat)), (.ref (212:Nat)), (.bool true), (.int 181 (0:Nat)), (.ref (213:Nat)), .none, (.ref (214:Nat)), (.ref (215:Nat)), (.ref (216:Nat)), (.int 536 (0:Nat)), (.int 136 (0:Nat)), (.str (.ofString "/claim/cut.py") (537:Nat))]), #[]⟩) ::
  (nat_lit 218, ⟨(.type "function"), (@none Nat), (.func ⟨(.ofString "from_decimal"), (.ofString "from_decimal"), (by refine (?f67 : (kxA (kxSt 40) = ?b67) → PySem.Arguments) ?h67; (case h67 => conv => (lhs; whnf)); (case f67 => exact fun _ => ?b67)), (.stmts (by refine (?f68 : (kxB (kxSt 40) = ?b68) → List PySem.Stmt) ?h68; (case h68 => conv => (lhs; whnf)); (case f68 => exact fun _ => ?b68))), (by refine (?f69 : (kxS (kxSt 40) = ?b69) → PySem.Scope) ?h69; (case h69 => conv => (lhs; whnf)); (case f69 => exact fun _ => ?b69)), (3:Nat), (@List.nil (PySem.Str × Nat)), .none, .none, .none, (.str (.ofString "js.numparse") (505:Nat)), (@none Nat), (.ref (217:Nat)), .none, (0:Nat)⟩), #[]⟩) ::
  (nat_lit 219, ⟨(.type "list"), (@none Nat), (.seq (List.toArray ((.str (.ofString "break") (541:Nat)) :: (.str (.ofString "case") (542:Nat)) :: (.str (.ofString "catch") (543:Nat)) :: (.str (.ofString "continue") (544:Nat)) :: (.str (.ofString "debugger") (545:Nat)) :: (.str (.ofString "default") (546:Nat)) :: (.str (.ofString "delete") (547:Nat)) :: (.str (.ofString "do") (548:Nat)) :: (.str (.ofString "else") (549:Nat)) :: (.str (.ofString "finally") (550:Nat)) :: (.str (.ofString "for") (551:Nat)) :: (.str (.ofString "function") (552:Nat)) :: (.str (.ofString "if") (553:Nat)) :: (.str (.ofString "in") (554:Nat)) :: (.str (.ofString "instanceof") (555:Nat)) :: (.str (.ofString "new") (556:Nat)) :: (.str (.ofString "return") (557:Nat)) :: (.str (.ofString "switch") (558:Nat)) :: (.str (.ofString "this") (559:Nat)) :: (.str (.ofString "throw") (560:Nat)) :: (.str (.ofString "try") (561:Nat)) :: (.str (.ofString "typeof") (562:Nat)) :: (.str (.ofString "var") (563:Nat)) :: (.str (.ofString "void") (564:Nat)) :: (.str (.ofString "while") (565:Nat)) :: (.str (.ofString "with") (566:Nat)) :: (.str (.ofString "class") (567:Nat)) :: (.str (.ofString "const") (568:Nat)) :: (.str (.ofString "enum") (569:Nat)) :: (.str (.ofString "export") (570:Nat)) :: (.str (.ofString "extends") (571:Nat)) :: (.str (.ofString "imp\x6frt") (572:Nat)) :: (.str (.ofString "super") (573:Nat)) :: (.str (.ofString "null") (574:Nat)) :: (.str (.ofString "true") (575:Nat)) :: (.str (.ofString "false") (576:Nat)) :: [])) (0:Nat)), #[]⟩) ::
  (nat_lit 220, ⟨(.type "list"), (@none Nat), (.seq (List.toArray ((.str (.ofString ">>>=") (578:Nat)) :: (.str (.ofString "===") (579:Nat)) :: (.str (.ofString "!==") (580:Nat)) :: (.str (.ofString ">>>") (581:Nat)) :: (.str (.ofString "<<=") (582:Nat)) :: (.str (.ofString ">>=") (583:Nat)) :: (.str (.ofString "<=") (584:Nat)) :: (.str (.ofString ">=") (585:Nat)) :: (.str (.ofString "==") (586:Nat)) :: (.str (.ofString "!=") (587:Nat)) :: (.str (.ofString "++") (588:Nat)) :: (.str (.ofString "--") (589:Nat)) :: (.str (.ofString "<<") (590:Nat)) :: (.str (.ofString ">>") (591:Nat)) :: (.str (.ofString "&&") (592:Nat)) :: (.str (.ofString "||") (593:Nat)) :: (.str (.ofString "+=") (594:Nat)) :: (.str (.ofString "-=") (595:Nat)) :: (.str (.ofString "*=") (596:Nat)) :: (.str (.ofString "%=") (597:Nat)) :: (.str (.ofString "&=") (598:Nat)) :: (.str (.ofString "|=") (599:Nat)) :: (.str (.ofString "^=") (600:Nat)) :: (.str (.ofString "/=") (601:Nat)) :: (.str (.ofString "{") (602:Nat)) :: (.str (.ofString "}") (603:Nat)) :: (.str (.ofString "(") (604:Nat)) :: (.str (.ofString ")") (605:Nat)) :: (.str (.ofString "[") (606:Nat)) :: (.str (.ofString "]") (607:Nat)) :: (.str (.ofString ".") (608:Nat)) :: (.str (.ofString ";") (609:Nat)) :: (.str (.ofString ",") (610:Nat)) :: (.str (.ofString "<") (611:Nat)) :: (.str (.ofString ">") (612:Nat)) :: (.str (.ofString "+") (613:Nat)) :: (.str (.ofString "-") (614:Nat)) :: (.str (.ofString "*") (615:Nat)) :: (.str (.ofString "%") (616:Nat)) :: (.str (.ofString "&") (617:Nat)) :: (.str (.ofString "|") (618:Nat)) :: (.str (.ofString "^") (619:Nat)) :: (.str (.ofString "!") (620:Nat)) :: (.str (.ofString "~") (621:Nat)) :: (.str (.ofString "?") (622:Nat)) :: (.str (.ofString ":") (623:Nat)) :: (.str (.ofString "=") (624:Nat)) :: (.str (.ofString "/") (625:Nat)) :: [])) (0:Nat)), #[]⟩) ::
  (nat_lit 228, ⟨(.type "tuple"), (@none Nat), (.seq #[] (0:Nat)), #[]⟩) ::
  (nat_lit 230, ⟨(.type "tuple"), (@none Nat), (.seq #[(.str (.ofString "self") (642:Nat)), (.str (.ofString "kind") (643:Nat)), (.str (.ofString "value") (644:Nat)), (.str (.ofString "line") (645:Nat)), (.str (.ofString "is_behind_line") (646:Nat)), (.str (.ofString "start") (647:Nat)), (.str (.ofString "end") (648:Nat))] (0:Nat)), #[]⟩) ::
  (nat_lit 231, ⟨(.type "tuple"), (@none Nat), (.seq #[] (0:Nat)), #[]⟩) ::
  (nat_lit 233, ⟨(.type "code"), (@none Nat), (.fields #[(.str (.ofString "__init__") (639:Nat)), (.str (.ofString "Token.__init__") (640:Nat)), (.str (.ofString "/claim/cut.py") (641:Nat)), (.int 152 (0:Nat)), (.int 7 (0:Nat)), (.int 0 (0:Nat)), (.int 0 (0:Nat)), (.int 3 (0:Nat)), (.ref (228:Nat)), (.bool true), (.int 181 (0:Nat)), (.ref (229:Nat)), .none, (.ref (230:Nat)), (.ref (231:Nat)), (.ref (232:Nat)), (.int 649 (0:Nat)), (.int 152 (0:Nat)), (.str (.ofString "/claim/cut.py") (650:Nat))]), #[]⟩) ::
  (nat_lit 234, ⟨(.type "function"), (@none Nat), (.func ⟨(.ofString "__init__"), (.ofString "Token.__init__"), (by refine (?f70 : (kxA (kxM 44 0) = ?b70) → PySem.Arguments) ?h70; (case h70 => conv => (lhs; whnf)); (case f70 => exact fun _ => ?b70)), (.stmts (by refine (?f71 : (kxB (kxM 44 0) = ?b71) → List PySem.Stmt) ?h71; (case h71 => conv => (lhs; whnf)); (case f71 => exact fun _ => ?b71))), (by refine (?f72 : (kxS (kxM 44 0) = ?b72) → PySem.Scope) ?h72; (case h72 => conv => (lhs; whnf)); (case f72 => exact fun _ => ?b72)), (3:Nat), (@List.nil (PySem.Str × Nat)), .none, .none, .none, (.str (.ofString "js.tokens") (539:Nat)), (@none Nat), (.ref (233:Nat)), .none, (0:Nat)⟩), #[]⟩) ::
  (nat_lit 235, ⟨(.type "tuple"), (@none Nat), (.seq #[(.str (.ofString "end") (652:Nat)), (.str (.ofString "is_behind_line") (653:Nat)), (.str (.ofString "is_octal") (654:Nat)), (.str (.ofString "is_plain") (655:Nat)), (.str (.ofString "kind") (656:Nat)), (.str (.ofString "line") (657:Nat)), (.str (.ofString "start") (658:Nat)), (.str (.ofString "value") (659:Nat))] (0:Nat)), #[]⟩) ::
  (nat_lit 236, ⟨(.type "dict"), (@none Nat), (.dict #[⟨(PySem.PyData.keyHash P (.ofString "__module__")), (.str (.ofString "__module__") (634:Nat)), (.str (.ofString "js.tokens") (539:Nat))⟩, ⟨(PySem.PyData.keyHash P (.ofString "__firstlineno__")), (.str (.ofString "__firstlineno__") (638:Nat)), (.int 150 (637:Nat))⟩, ⟨(PySem.PyData.keyHash P (.ofString "__init__")), (.str (.ofString "__init__") (651:Nat)), (.ref (234:Nat))⟩, ⟨(PySem.PyData.keyHash P (.ofString "__static_attributes__")), (.str (.ofString "__static_attributes__") (660:Nat)), (.ref (235:Nat))⟩, ⟨(PySem.PyData.keyHash P (.ofString "__dict__")), (.str (.ofString "__dict__") (662:Nat)), (.ref (238:Nat))⟩, ⟨(PySem.PyData.keyHash P (.ofString "__weakref__")), (.str (.ofString "__weakref__") (664:Nat)), (.ref (239:Nat))⟩, ⟨(PySem.PyData.keyHash P (.ofString "__doc__")), (.str (.ofString "__doc__") (665:Nat)), .none⟩] (4:Nat)), #[]⟩) ::
  (nat_lit 237, ⟨(.type "type"), (@none Nat), (.cls ⟨(.ofString "Token"), [(.type "object")], [(.ref (237:Nat)), (.type "object")], (236:Nat), (.ofString "Token"), true, [], [], false, none, false⟩), #[none, none, (some (.str (.ofString "Token") (627:Nat))), (some (.str (.ofString "Token") (635:Nat))), (some (.builtin "object.__new__")), (some (.bool true))]⟩) ::
  (nat_lit 238, ⟨(.type "getset_descriptor"), (@none Nat), (.fields #[(.str (.ofString "__dict__") (661:Nat)), (.ref (237:Nat)), (.builtin "function.__dict__"), (.builtin "function.__dict__#set")]), #[]⟩) ::
  (nat_lit 239, ⟨(.type "getset_descriptor"), (@none Nat), (.fields #[(.str (.ofString "__weakref__") (663:Nat)), (.ref (237:Nat)), (.builtin "ExceptionGroup.__weakref__"), .none]), #[]⟩) ::
  (nat_lit 242, ⟨(.type "tuple"), (@none Nat), (.seq #[] (0:Nat)), #[]⟩) ::
  (nat_lit 244, ⟨(.type "tuple"), (@none Nat), (.seq #[(.str (.ofString "word") (671:Nat))] (0:Nat)), #[]⟩) ::
  (nat_lit 245, ⟨(.type "tuple"), (@none Nat), (.seq #[] (0:Nat)), #[]⟩) ::
  (nat_lit 247, ⟨(.type "code"), (@none Nat), (.fields #[(.str (.ofString "is_keyword") (668:Nat)), (.str (.ofString "is_keyword") (669:Nat)), (.str (.ofString "/claim/cut.py") (670:Nat)), (.int 161 (0:Nat)), (.int 1 (0:Nat)), (.int 0 (0:Nat)), (.int 0 (0:Nat)), (.int 3 (0:Nat)), (.ref (242:Nat)), (.bool true), (.int 181 (0:Nat)), (.ref (243:Nat)), .none, (.ref (244:Nat)), (.ref (245:Nat)), (.ref (246:Nat)), (.int 672 (0:Nat)), (.int 161 (0:Nat)), (.str (.ofString "/claim/cut.py") (673:Nat))]), #[]⟩) ::
  (nat_lit 248, ⟨(.type "function"), (@none Nat), (.func ⟨(.ofString "is_keyword"), (.ofString "is_keyword"), (by refine (?f73 : (kxA (kxSt 45) = ?b73) → PySem.Arguments) ?h73; (case h73 => conv => (lhs; whnf)); (case f73 => exact fun _ => ?b73)), (.stmts (by refine (?f74 : (kxB (kxSt 45) = ?b74) → List PySem.Stmt) ?h74; (case h74 => conv => (lhs; whnf)); (case f74 => exact fun _ => ?b74))), (by refine (?f75 : (kxS (kxSt 45) = ?b75) → PySem.Scope) ?h75; (case h75 => conv => (lhs; whnf)); (case f75 => exact fun _ => ?b75)), (3:Nat), (@List.nil (PySem.Str × Nat)), .none, .none, .none, (.str (.ofString "js.tokens") (539:Nat)), (@none Nat), (.ref (247:Nat)), .none, (0:Nat)⟩), #[]⟩) ::
  (nat_lit 249, ⟨(.type "tuple"), (@none Nat), (.seq #[] (0:Nat)), #[]⟩) ::
  (nat_lit 251, ⟨(.type "tuple"), (@none Nat), (.seq #[(.str (.ofString "text") (678:Nat)), (.str (.ofString "at") (679:Nat)), (.str (.ofString "punct") (680:Nat))] (0:Nat)), #[]⟩) ::
  (nat_lit 252, ⟨(.type "tuple"), (@none Nat), (.seq #[] (0:Nat)), #[]⟩) ::
  (nat_lit 254, ⟨(.type "code"), (@none Nat), (.fields #[(.str (.ofString "punct_at") (675:Nat)), (.str (.ofString "punct_at") (676:Nat)), (.str (.ofString "/claim/cut.py") (677:Nat)), (.int 163 (0:Nat)), (.int 2 (0:Nat)), (.int 0 (0:Nat)), (.int 0 (0:Nat)), (.int 3 (0:Nat)), (.ref (249:Nat)), (.bool true), (.int 181 (0:Nat)), (.ref (250:Nat)), .none, (.ref (251:Nat)), (.ref (252:Nat)), (.ref (253:Nat)), (.int 681 (0:Nat)), (.int 163 (0:Nat)), (.str (.ofString "/claim/cut.py") (682:Nat))]), #[]⟩) ::
  (nat_lit 255, ⟨(.type "function"), (@none Nat), (.func ⟨(.ofString "punct_at"), (.ofString "punct_at"), (by refine (?f76 : (kxA (kxSt 46) = ?b76) → PySem.Arguments) ?h76; (case h76 => conv => (lhs; whnf)); (case f76 => exact fun _ => ?b76)), (.stmts (by refine (?f77 : (kxB (kxSt 46) = ?b77) → List PySem.Stmt) ?h77; (case h77 => conv => (lhs; whnf)); (case f77 => exact fun _ => ?b77))), (by refine (?f78 : (kxS (kxSt 46) = ?b78) → PySem.Scope) ?h78; (case h78 => conv => (lhs; whnf)); (case f78 => exact fun _ => ?b78)), (3:Nat), (@List.nil (PySem.Str × Nat)), .none, .none, .none, (.str (.ofString "js.tokens") (539:Nat)), (@none Nat), (.ref (254:Nat)), .none, (0:Nat)⟩), #[]⟩) ::
  (nat_lit 256, ⟨(.type "tuple"), (@none Nat), (.seq #[(.type "Exception")] (0:Nat)), #[]⟩) ::
  (nat_lit 263, ⟨(.type "tuple"), (@none Nat), (.seq #[] (0:Nat)), #[]⟩) ::
  (nat_lit 265, ⟨(.type "tuple"), (@none Nat), (.seq #[(.str (.ofString "self") (701:Nat)), (.str (.ofString "text") (702:Nat)), (.str (.ofString "line") (703:Nat))] (0:Nat)), #[]⟩) ::
  (nat_lit 266, ⟨(.type "tuple"), (@none Nat), (.seq #[] (0:Nat)), #[]⟩) ::
  (nat_lit 268, ⟨(.type "code"), (@none Nat), (.fields #[(.str (.ofString "__init__") (698:Nat)), (.str (.ofString "SyntaxFail.__init__") (699:Nat)), (.str (.ofString "/claim/cut.py") (700:Nat)), (.int 171 (0:Nat)), (.int 3 (0:Nat)), (.int 0 (0:Nat)), (.int 0 (0:Nat)), (.int 3 (0:Nat)), (.ref (263:Nat)), (.bool true), (.int 181 (0:Nat)), (.ref (264:Nat)), .none, (.ref (265:Nat)), (.ref (266:Nat)), (.ref (267:Nat)), (.int 704 (0:Nat)), (.int 171 (0:Nat)), (.str (.ofString "/claim/cut.py") (705:Nat))]), #[]⟩) ::
  (nat_lit 269, ⟨(.type "function"), (@none Nat), (.func ⟨(.ofString "__init__"), (.ofString "SyntaxFail.__init__"), (by refine (?f79 : (kxA (kxM 48 0) = ?b79) → PySem.Arguments) ?h79; (case h79 => conv => (lhs; whnf)); (case f79 => exact fun _ => ?b79)), (.stmts (by refine (?f80 : (kxB (kxM 48 0) = ?b80) → List PySem.Stmt) ?h80; (case h80 => conv => (lhs; whnf)); (case f80 => exact fun _ => ?b80))), (by refine (?f81 : (kxS (kxM 48 0) = ?b81) → PySem.Scope) ?h81; (case h81 => conv => (lhs; whnf)); (case f81 => exact fun _ => ?b81)), (3:Nat), (@List.nil (PySem.Str × Nat)), .none, .none, .none, (.str (.ofString "js.values") (684:Nat)), (@none Nat), (.ref (268:Nat)), .none, (0:Nat)⟩), #[]⟩) ::
  (nat_lit 270, ⟨(.type "tuple"), (@none Nat), (.seq #[(.str (.ofString "line") (707:Nat)), (.str (.ofString "text") (708:Nat))] (0:Nat)), #[]⟩) ::
  (nat_lit 271, ⟨(.type "dict"), (@none Nat), (.dict #[⟨(PySem.PyData.keyHash P (.ofString "__module__")), (.str (.ofString "__module__") (693:Nat)), (.str (.ofString "js.values") (684:Nat))⟩, ⟨(PySem.PyData.keyHash P (.ofString "__firstlineno__")), (.str (.ofString "__firstlineno__") (697:Nat)), (.int 169 (696:Nat))⟩, ⟨(PySem.PyData.keyHash P (.ofString "__init__")), (.str (.ofString "__init__") (706:Nat)), (.ref (269:Nat))⟩, ⟨(PySem.PyData.keyHash P (.ofString "__static_attributes__")), (.str (.ofString "__static_attributes__") (709:Nat)), (.ref (270:Nat))⟩, ⟨(PySem.PyData.keyHash P (.ofString "__weakref__")), (.str (.ofString "__weakref__") (711:Nat)), (.ref (273:Nat))⟩, ⟨(PySem.PyData.keyHash P (.ofString "__doc__")), (.str (.ofString "__doc__") (712:Nat)), .none⟩] (3:Nat)), #[]⟩) ::
  (nat_lit 272, ⟨(.type "type"), (@none Nat), (.cls ⟨(.ofString "SyntaxFail"), [(.type "Exception")], [(.ref (272:Nat)), (.type "Exception"), (.type "BaseException"), (.type "object")], (271:Nat), (.ofString "SyntaxFail"), true, [], [], false, none, false⟩), #[(some (.ref (256:Nat))), none, (some (.str (.ofString "SyntaxFail") (686:Nat))), (some (.str (.ofString "SyntaxFail") (694:Nat))), (some (.builtin "Exception.__new__")), (some (.bool true))]⟩) ::
  (nat_lit 273, ⟨(.type "getset_descriptor"), (@none Nat), (.fields #[(.str (.ofString "__weakref__") (710:Nat)), (.ref (272:Nat)), (.builtin "ExceptionGroup.__weakref__"), .none]), #[]⟩) ::
  (nat_lit 283, ⟨(.type "tuple"), (@none Nat), (.seq #[] (0:Nat)), #[]⟩) ::
  (nat_lit 285, ⟨(.type "tuple"), (@none Nat), (.seq #[(.str (.ofString "self") (734:Nat)), (.str (.ofString "text") (735:Nat))] (0:Nat)), #[]⟩) ::
  (nat_lit 286, ⟨(.type "tuple"), (@none Nat), (.seq #[] (0:Nat)), #[]⟩) ::
  (nat_lit 288, ⟨(.type "code"), (@none Nat), (.fields #[(.str (.ofString "__init__") (731:Nat)), (.str (.ofString "Lexer.__init__") (732:Nat)), (.str (.ofString "/claim/cut.py") (733:Nat)), (.int 177 (0:Nat)), (.int 2 (0:Nat)), (.int 0 (0:Nat)), (.int 0 (0:Nat)), (.int 3 (0:Nat)), (.ref (283:Nat)), (.bool true), (.int 181 (0:Nat)), (.ref (284:Nat)), .none, (.ref (285:Nat)), (.ref (286:Nat)), (.ref (287:Nat)), (.int 736 (0:Nat)), (.int 177 (0:Nat)), (.str (.ofString "/claim/cut.py") (737:Nat))]), #[]⟩) ::
  (nat_lit 289, ⟨(.type "function"), (@none Nat), (.func ⟨(.ofString "__init__"), (.ofString "Lexer.__init__"), (by refine (?f82 : (kxA (kxM 50 0) = ?b82) → PySem.Arguments) ?h82; (case h82 => conv => (lhs; whnf)); (case f82 => exact fun _ => ?b82)), (.stmts (by refine (?f83 : (kxB (kxM 50 0) = ?b83) → List PySem.Stmt) ?h83; (case h83 => conv => (lhs; whnf)); (case f83 => exact fun _ => ?b83))), (by refine (?f84 : (kxS (kxM 50 0) = ?b84) → PySem.Scope) ?h84; (case h84 => conv => (lhs; whnf)); (case f84 => exact fun _ => ?b84)), (3:Nat), (@List.nil (PySem.Str × Nat)), .none, .none, .none, (.str (.ofString "js.lexer") (717:Nat)), (@none Nat), (.ref (288:Nat)), .none, (0:Nat)⟩), #[]⟩) ::
  (nat_lit 290, ⟨(.type "tuple"), (@none Nat), (.seq #[] (0:Nat)), #[]⟩) ::
  (nat_lit 292, ⟨(.type "tuple"), (@none Nat), (.seq #[(.str (.ofString "self") (742:Nat)), (.str (.ofString "is_behind_line") (743:Nat)), (.str (.ofString "start") (744:Nat)), (.str (.ofString "code") (745:Nat)), (.str (.ofString "token") (746:Nat))] (0:Nat)), #[]⟩) ::
  (nat_lit 293, ⟨(.type "tuple"), (@none Nat), (.seq #[] (0:Nat)), #[]⟩) ::
  (nat_lit 295, ⟨(.type "code"), (@none Nat), (.fields #[(.str (.ofString "next") (739:Nat)), (.str (.ofString "Lexer.next") (740:Nat)), (.str (.ofString "/claim/cut.py") (741:Nat)), (.int 182 (0:Nat)), (.int 1 (0:Nat)), (.int 0 (0:Nat)), (.int 0 (0:Nat)), (.int 3 (0:Nat)), (.ref (290:Nat)), (.bool true), (.int 181 (0:Nat)), (.ref (291:Nat)), .none, (.ref (292:Nat)), (.ref (293:Nat)), (.ref (294:Nat)), (.int 747 (0:Nat)), (.int 182 (0:Nat)), (.str (.ofString "/claim/cut.py") (748:Nat))]), #[]⟩) ::
  (nat_lit 296, ⟨(.type "function"), (@none Nat), (.func ⟨(.ofString "next"), (.ofString "Lexer.next"), (by refine (?f85 : (kxA (kxM 50 1) = ?b85) → PySem.Arguments) ?h85; (case h85 => conv => (lhs; whnf)); (case f85 => exact fun _ => ?b85)), (.stmts (by refine (?f86 : (kxB (kxM 50 1) = ?b86) → List PySem.Stmt) ?h86; (case h86 => conv => (lhs; whnf)); (case f86 => exact fun _ => ?b86))), (by refine (?f87 : (kxS (kxM 50 1) = ?b87) → PySem.Scope) ?h87; (case h87 => conv => (lhs; whnf)); (case f87 => exact fun _ => ?b87)), (3:Nat), (@List.nil (PySem.Str × Nat)), .none, .none, .none, (.str (.ofString "js.lexer") (717:Nat)), (@none Nat), (.ref (295:Nat)), .none, (0:Nat)⟩), #[]⟩) ::
  (nat_lit 297, ⟨(.type "tuple"), (@none Nat), (.seq #[] (0:Nat)), #[]⟩) ::
  (nat_lit 299, ⟨(.type "tuple"), (@none Nat), (.seq #[(.str (.ofString "self") (753:Nat)), (.str (.ofString "text") (754:Nat))] (0:Nat)), #[]⟩) ::
  (nat_lit 300, ⟨(.type "tuple"), (@none Nat), (.seq #[] (0:Nat)), #[]⟩) ::
  (nat_lit 302, ⟨(.type "code"), (@none Nat), (.fields #[(.str (.ofString "fail") (750:Nat)), (.str (.ofString "Lexer.fail") (751:Nat)), (.str (.ofString "/claim/cut.py") (752:Nat)), (.int 199 (0:Nat)), (.int 2 (0:Nat)), (.int 0 (0:Nat)), (.int 0 (0:Nat)), (.int 3 (0:Nat)), (.ref (297:Nat)), (.bool true), (.int 181 (0:Nat)), (.ref (298:Nat)), .none, (.ref (299:Nat)), (.ref (300:Nat)), (.ref (301:Nat)), (.int 755 (0:Nat)), (.int 199 (0:Nat)), (.str (.ofString "/claim/cut.py") (756:Nat))]), #[]⟩) ::
  (nat_lit 303, ⟨(.type "function"), (@none Nat), (.func ⟨(.ofString "fail"), (.ofString "Lexer.fail"), (by refine (?f88 : (kxA (kxM 50 2) = ?b88) → PySem.Arguments) ?h88; (case h88 => conv => (lhs; whnf)); (case f88 => exact fun _ => ?b88)), (.stmts (by refine (?f89 : (kxB (kxM 50 2) = ?b89) → List PySem.Stmt) ?h89; (case h89 => conv => (lhs; whnf)); (case f89 => exact fun _ => ?b89))), (by refine (?f90 : (kxS (kxM 50 2) = ?b90) → PySem.Scope) ?h90; (case h90 => conv => (lhs; whnf)); (case f90 => exact fun _ => ?b90)), (3:Nat), (@List.nil (PySem.Str × Nat)), .none, .none, .none, (.str (.ofString "js.lexer") (717:Nat)), (@none Nat), (.ref (302:Nat)), .none, (0:Nat)⟩), #[]⟩) ::
  (nat_lit 304, ⟨(.type "tuple"), (@none Nat), (.seq #[] (0:Nat)), #[]⟩) ::
  (nat_lit 306, ⟨(.type "tuple"), (@none Nat), (.seq #[(.str (.ofString "self") (761:Nat))] (0:Nat)), #[]⟩) ::
  (nat_lit 307, ⟨(.type "tuple"), (@none Nat), (.seq #[] (0:Nat)), #[]⟩) ::
  (nat_lit 309, ⟨(.type "code"), (@none Nat), (.fields #[(.str (.ofString "end_line") (758:Nat)), (.str (.ofString "Lexer.end_line") (759:Nat)), (.str (.ofString "/claim/cut.py") (760:Nat)), (.int 202 (0:Nat)), (.int 1 (0:Nat)), (.int 0 (0:Nat)), (.int 0 (0:Nat)), (.int 3 (0:Nat)), (.ref (304:Nat)), (.bool true), (.int 181 (0:Nat)), (.ref (305:Nat)), .none, (.ref (306:Nat)), (.ref (307:Nat)), (.ref (308:Nat)), (.int 762 (0:Nat)), (.int 202 (0:Nat)), (.str (.ofString "/claim/cut.py") (763:Nat))]), #[]⟩) ::
  (nat_lit 310, ⟨(.type "function"), (@none Nat), (.func ⟨(.ofString "end_line"), (.ofString "Lexer.end_line"), (by refine (?f91 : (kxA (kxM 50 3) = ?b91) → PySem.Arguments) ?h91; (case h91 => conv => (lhs; whnf)); (case f91 => exact fun _ => ?b91)), (.stmts (by refine (?f92 : (kxB (kxM 50 3) = ?b92) → List PySem.Stmt) ?h92; (case h92 => conv => (lhs; whnf)); (case f92 => exact fun _ => ?b92))), (by refine (?f93 : (kxS (kxM 50 3) = ?b93) → PySem.Scope) ?h93; (case h93 => conv => (lhs; whnf)); (case f93 => exact fun _ => ?b93)), (3:Nat), (@List.nil (PySem.Str × Nat)), .none, .none, .none, (.str (.ofString "js.lexer") (717:Nat)), (@none Nat), (.ref (309:Nat)), .none, (0:Nat)⟩), #[]⟩) ::
  (nat_lit 311, ⟨(.type "tuple"), (@none Nat), (.seq #[] (0:Nat)), #[]⟩) ::
  (nat_lit 313, ⟨(.type "tuple"), (@none Nat), (.seq #[(.str (.ofString "self") (768:Nat)), (.str (.ofString "line") (769:Nat)), (.str (.ofString "code") (770:Nat))] (0:Nat)), #[]⟩) ::
  (nat_lit 314, ⟨(.type "tuple"), (@none Nat), (.seq #[] (0:Nat)), #[]⟩) ::
  (nat_lit 316, ⟨(.type "code"), (@none Nat), (.fields #[(.str (.ofString "skip_blanks") (765:Nat)), (.str (.ofString "Lexer.skip_blanks") (766:Nat)), (.str (.ofString "/claim/cut.py") (767:Nat)), (.int 206 (0:Nat)), (.int 1 (0:Nat)), (.int 0 (0:Nat)), (.int 0 (0:Nat)), (.int 3 (0:Nat)), (.ref (311:Nat)), (.bool true), (.int 181 (0:Nat)), (.ref (312:Nat)), .none, (.ref (313:Nat)), (.ref (314:Nat)), (.ref (315:Nat)), (.int 771 (0:Nat)), (.int 206 (0:Nat)), (.str (.ofString "/claim/cut.py") (772:Nat))]), #[]⟩) ::
  (nat_lit 317, ⟨(.type "function"), (@none Nat), (.func ⟨(.ofString "skip_blanks"), (.ofString "Lexer.skip_blanks"), (by refine (?f94 : (kxA (kxM 50 4) = ?b94) → PySem.Arguments) ?h94; (case h94 => conv => (lhs; whnf)); (case f94 => exact fun _ => ?b94)), (.stmts (by refine (?f95 : (kxB (kxM 50 4) = ?b95) → List PySem.Stmt) ?h95; (case h95 => conv => (lhs; whnf)); (case f95 => exact fun _ => ?b95))), (by refine (?f96 : (kxS (kxM 50 4) = ?b96) → PySem.Scope) ?h96; (case h96 => conv => (lhs; whnf)); (case f96 => exact fun _ => ?b96)), (3:Nat), (@List.nil (PySem.Str × Nat)), .none, .none, .none, (.str (.ofString "js.lexer") (717:Nat)), (@none Nat), (.ref (316:Nat)), .none, (0:Nat)⟩), #[]⟩) ::
  (nat_lit 318, ⟨(.type "tuple"), (@none Nat), (.seq #[] (0:Nat)), #[]⟩) ::
  (nat_lit 320, ⟨(.type "tuple"), (@none Nat), (.seq #[(.str (.ofString "self") (777:Nat))] (0:Nat)), #[]⟩) ::
  (nat_lit 321, ⟨(.type "tuple"), (@none Nat), (.seq #[] (0:Nat)), #[]⟩) ::
  (nat_lit 323, ⟨(.type "code"), (@none Nat), (.fields #[(.str (.ofString "skip_comment") (774:Nat)), (.str (.ofString "Lexer.skip_comment") (775:Nat)), (.str (.ofString "/claim/cut.py") (776:Nat)), (.int 222 (0:Nat)), (.int 1 (0:Nat)), (.int 0 (0:Nat)), (.int 0 (0:Nat)), (.int 3 (0:Nat)), (.ref (318:Nat)), (.bool true), (.int 181 (0:Nat)), (.ref (319:Nat)), .none, (.ref (320:Nat)), (.ref (321:Nat)), (.ref (322:Nat)), (.int 778 (0:Nat)), (.int 222 (0:Nat)), (.str (.ofString "/claim/cut.py") (779:Nat))]), #[]⟩) ::
  (nat_lit 324, ⟨(.type "function"), (@none Nat), (.func ⟨(.ofString "skip_comment"), (.ofString "Lexer.skip_comment"), (by refine (?f97 : (kxA (kxM 50 5) = ?b97) → PySem.Arguments) ?h97; (case h97 => conv => (lhs; whnf)); (case f97 => exact fun _ => ?b97)), (.stmts (by refine (?f98 : (kxB (kxM 50 5) = ?b98) → List PySem.Stmt) ?h98; (case h98 => conv => (lhs; whnf)); (case f98 => exact fun _ => ?b98))), (by refine (?f99 : (kxS (kxM 50 5) = ?b99) → PySem.Scope) ?h99; (case h99 => conv => (lhs; whnf)); (case f99 => exact fun _ => ?b99)), (3:Nat), (@List.nil (PySem.Str × Nat)), .none, .none, .none, (.str (.ofString "js.lexer") (717:Nat)), (@none Nat), (.ref (323:Nat)), .none, (0:Nat)⟩), #[]⟩) ::
  (nat_lit 325, ⟨(.type "tuple"), (@none Nat), (.seq #[] (0:Nat)), #[]⟩) ::
  (nat_lit 327, ⟨(.type "tuple"), (@none Nat), (.seq #[(.str (.ofString "self") (784:Nat)), (.str (.ofString "is_first") (785:Nat)), (.str (.ofString "code") (786:Nat)), (.str (.ofString "behind") (787:Nat)), (.str (.ofString "is_escape") (788:Nat)), (.str (.ofString "is_right") (789:Nat))] (0:Nat)), #[]⟩) ::
  (nat_lit 328, ⟨(.type "tuple"), (@none Nat), (.seq #[] (0:Nat)), #[]⟩) ::
  (nat_lit 330, ⟨(.type "code"), (@none Nat), (.fields #[(.str (.ofString "name_sign") (781:Nat)), (.str (.ofString "Lexer.name_sign") (782:Nat)), (.str (.ofString "/claim/cut.py") (783:Nat)), (.int 233 (0:Nat)), (.int 2 (0:Nat)), (.int 0 (0:Nat)), (.int 0 (0:Nat)), (.int 3 (0:Nat)), (.ref (325:Nat)), (.bool true), (.int 181 (0:Nat)), (.ref (326:Nat)), .none, (.ref (327:Nat)), (.ref (328:Nat)), (.ref (329:Nat)), (.int 790 (0:Nat)), (.int 233 (0:Nat)), (.str (.ofString "/claim/cut.py") (791:Nat))]), #[]⟩) ::
  (nat_lit 331, ⟨(.type "function"), (@none Nat), (.func ⟨(.ofString "name_sign"), (.ofString "Lexer.name_sign"), (by refine (?f100 : (kxA (kxM 50 6) = ?b100) → PySem.Arguments) ?h100; (case h100 => conv => (lhs; whnf)); (case f100 => exact fun _ => ?b100)), (.stmts (by refine (?f101 : (kxB (kxM 50 6) = ?b101) → List PySem.Stmt) ?h101; (case h101 => conv => (lhs; whnf)); (case f101 => exact fun _ => ?b101))), (by refine (?f102 : (kxS (kxM 50 6) = ?b102) → PySem.Scope) ?h102; (case h102 => conv => (lhs; whnf)); (case f102 => exact fun _ => ?b102)), (3:Nat), (@List.nil (PySem.Str × Nat)), .none, .none, .none, (.str (.ofString "js.lexer") (717:Nat)), (@none Nat), (.ref (330:Nat)), .none, (0:Nat)⟩), #[]⟩) ::
  (nat_lit 332, ⟨(.type "tuple"), (@none Nat), (.seq #[] (0:Nat)), #[]⟩) ::
  (nat_lit 334, ⟨(.type "tuple"), (@none Nat), (.seq #[(.str (.ofString "self") (796:Nat)), (.str (.ofString "token") (797:Nat)), (.str (.ofString "found") (798:Nat)), (.str (.ofString "told") (799:Nat))] (0:Nat)), #[]⟩) ::
  (nat_lit 335, ⟨(.type "tuple"), (@none Nat), (.seq #[] (0:Nat)), #[]⟩) ::
  (nat_lit 337, ⟨(.type "code"), (@none Nat), (.fields #[(.str (.ofString "read_name") (793:Nat)), (.str (.ofString "Lexer.read_name") (794:Nat)), (.str (.ofString "/claim/cut.py") (795:Nat)), (.int 244 (0:Nat)), (.int 2 (0:Nat)), (.int 0 (0:Nat)), (.int 0 (0:Nat)), (.int 3 (0:Nat)), (.ref (332:Nat)), (.bool true), (.int 181 (0:Nat)), (.ref (333:Nat)), .none, (.ref (334:Nat)), (.ref (335:Nat)), (.ref (336:Nat)), (.int 800 (0:Nat)), (.int 244 (0:Nat)), (.str (.ofString "/claim/cut.py") (801:Nat))]), #[]⟩) ::
  (nat_lit 338, ⟨(.type "function"), (@none Nat), (.func ⟨(.ofString "read_name"), (.ofString "Lexer.read_name"), (by refine (?f103 : (kxA (kxM 50 7) = ?b103) → PySem.Arguments) ?h103; (case h103 => conv => (lhs; whnf)); (case f103 => exact fun _ => ?b103)), (.stmts (by refine (?f104 : (kxB (kxM 50 7) = ?b104) → List PySem.Stmt) ?h104; (case h104 => conv => (lhs; whnf)); (case f104 => exact fun _ => ?b104))), (by refine (?f105 : (kxS (kxM 50 7) = ?b105) → PySem.Scope) ?h105; (case h105 => conv => (lhs; whnf)); (case f105 => exact fun _ => ?b105)), (3:Nat), (@List.nil (PySem.Str × Nat)), .none, .none, .none, (.str (.ofString "js.lexer") (717:Nat)), (@none Nat), (.ref (337:Nat)), .none, (0:Nat)⟩), #[]⟩) ::
  (nat_lit 339, ⟨(.type "tuple"), (@none Nat), (.seq #[] (0:Nat)), #[]⟩) ::
  (nat_lit 341, ⟨(.type "tuple"), (@none Nat), (.seq #[(.str (.ofString "self") (806:Nat)), (.str (.ofString "start") (807:Nat))] (0:Nat)), #[]⟩) ::
  (nat_lit 342, ⟨(.type "tuple"), (@none Nat), (.seq #[] (0:Nat)), #[]⟩) ::
  (nat_lit 344, ⟨(.type "code"), (@none Nat), (.fields #[(.str (.ofString "skip_digits") (803:Nat)), (.str (.ofString "Lexer.skip_digits") (804:Nat)), (.str (.ofString "/claim/cut.py") (805:Nat)), (.int 255 (0:Nat)), (.int 1 (0:Nat)), (.int 0 (0:Nat)), (.int 0 (0:Nat)), (.int 3 (0:Nat)), (.ref (339:Nat)), (.bool true), (.int 181 (0:Nat)), (.ref (340:Nat)), .none, (.ref (341:Nat)), (.ref (342:Nat)), (.ref (343:Nat)), (.int 808 (0:Nat)), (.int 255 (0:Nat)), (.str (.ofString "/claim/cut.py") (809:Nat))]), #[]⟩) ::
  (nat_lit 345, ⟨(.type "function"), (@none Nat), (.func ⟨(.ofString "skip_digits"), (.ofString "Lexer.skip_digits"), (by refine (?f106 : (kxA (kxM 50 8) = ?b106) → PySem.Arguments) ?h106; (case h106 => conv => (lhs; whnf)); (case f106 => exact fun _ => ?b106)), (.stmts (by refine (?f107 : (kxB (kxM 50 8) = ?b107) → List PySem.Stmt) ?h107; (case h107 => conv => (lhs; whnf)); (case f107 => exact fun _ => ?b107))), (by refine (?f108 : (kxS (kxM 50 8) = ?b108) → PySem.Scope) ?h108; (case h108 => conv => (lhs; whnf)); (case f108 => exact fun _ => ?b108)), (3:Nat), (@List.nil (PySem.Str × Nat)), .none, .none, .none, (.str (.ofString "js.lexer") (717:Nat)), (@none Nat), (.ref (344:Nat)), .none, (0:Nat)⟩), #[]⟩) ::
  (nat_lit 346, ⟨(.type "tuple"), (@none Nat), (.seq #[] (0:Nat)), #[]⟩) ::
  (nat_lit 348, ⟨(.type "tuple"), (@none Nat), (.seq #[(.str (.ofString "self") (814:Nat)), (.str (.ofString "token") (815:Nat)), (.str (.ofString "ahead") (816:Nat)), (.str (.ofString "sign") (817:Nat)), (.str (.ofString "code") (818:Nat))] (0:Nat)), #[]⟩) ::
  (nat_lit 349, ⟨(.type "tuple"), (@none Nat), (.seq #[] (0:Nat)), #[]⟩) ::
  (nat_lit 351, ⟨(.type "code"), (@none Nat), (.fields #[(.str (.ofString "read_number") (811:Nat)), (.str (.ofString "Lexer.read_number") (812:Nat)), (.str (.ofString "/claim/cut.py") (813:Nat)), (.int 261 (0:Nat)), (.int 2 (0:Nat)), (.int 0 (0:Nat)), (.int 0 (0:Nat)), (.int 3 (0:Nat)), (.ref (346:Nat)), (.bool true), (.int 181 (0:Nat)), (.ref (347:Nat)), .none, (.ref (348:Nat)), (.ref (349:Nat)), (.ref (350:Nat)), (.int 819 (0:Nat)), (.int 261 (0:Nat)), (.str (.ofString "/claim/cut.py") (820:Nat))]), #[]⟩) ::
  (nat_lit 352, ⟨(.type "function"), (@none Nat), (.func ⟨(.ofString "read_number"), (.ofString "Lexer.read_number"), (by refine (?f109 : (kxA (kxM 50 9) = ?b109) → PySem.Arguments) ?h109; (case h109 => conv => (lhs; whnf)); (case f109 => exact fun _ => ?b109)), (.stmts (by refine (?f110 : (kxB (kxM 50 9) = ?b110) → List PySem.Stmt) ?h110; (case h110 => conv => (lhs; whnf)); (case f110 => exact fun _ => ?b110))), (by refine (?f111 : (kxS (kxM 50 9) = ?b111) → PySem.Scope) ?h111; (case h111 => conv => (lhs; whnf)); (case f111 => exact fun _ => ?b111)), (3:Nat), (@List.nil (PySem.Str × Nat)), .none, .none, .none, (.str (.ofString "js.lexer") (717:Nat)), (@none Nat), (.ref (351:Nat)), .none, (0:Nat)⟩), #[]⟩) ::
  (nat_lit 353, ⟨(.type "tuple"), (@none Nat), (.seq #[] (0:Nat)), #[]⟩) ::
  (nat_lit 355, ⟨(.type "tuple"), (@none Nat), (.seq #[(.str (.ofString "self") (825:Nat)), (.str (.ofString "value") (826:Nat)), (.str (.ofString "many") (827:Nat))] (0:Nat)), #[]⟩) ::
  (nat_lit 356, ⟨(.type "tuple"), (@none Nat), (.seq #[] (0:Nat)), #[]⟩) ::
  (nat_lit 358, ⟨(.type "code"), (@none Nat), (.fields #[(.str (.ofString "read_hex") (822:Nat)), (.str (.ofString "Lexer.read_hex") (823:Nat)), (.str (.ofString "/claim/cut.py") (824:Nat)), (.int 275 (0:Nat)), (.int 1 (0:Nat)), (.int 0 (0:Nat)), (.int 0 (0:Nat)), (.int 3 (0:Nat)), (.ref (353:Nat)), (.bool true), (.int 181 (0:Nat)), (.ref (354:Nat)), .none, (.ref (355:Nat)), (.ref (356:Nat)), (.ref (357:Nat)), (.int 828 (0:Nat)), (.int 275 (0:Nat)), (.str (.ofString "/claim/cut.py") (829:Nat))]), #[]⟩) ::
  (nat_lit 359, ⟨(.type "function"), (@none Nat), (.func ⟨(.ofString "read_hex"), (.ofString "Lexer.read_hex"), (by refine (?f112 : (kxA (kxM 50 10) = ?b112) → PySem.Arguments) ?h112; (case h112 => conv => (lhs; whnf)); (case f112 => exact fun _ => ?b112)), (.stmts (by refine (?f113 : (kxB (kxM 50 10) = ?b113) → List PySem.Stmt) ?h113; (case h113 => conv => (lhs; whnf)); (case f113 => exact fun _ => ?b113))), (by refine (?f114 : (kxS (kxM 50 10) = ?b114) → PySem.Scope) ?h114; (case h114 => conv => (lhs; whnf)); (case f114 => exact fun _ => ?b114)), (3:Nat), (@List.nil (PySem.Str × Nat)), .none, .none, .none, (.str (.ofString "js.lexer") (717:Nat)), (@none Nat), (.ref (358:Nat)), .none, (0:Nat)⟩), #[]⟩) ::
  (nat_lit 360, ⟨(.type "tuple"), (@none Nat), (.seq #[] (0:Nat)), #[]⟩) ::
  (nat_lit 362, ⟨(.type "tuple"), (@none Nat), (.seq #[(.str (.ofString "self") (834:Nat)), (.str (.ofString "value") (835:Nat))] (0:Nat)), #[]⟩) ::
  (nat_lit 363, ⟨(.type "tuple"), (@none Nat), (.seq #[] (0:Nat)), #[]⟩) ::
  (nat_lit 365, ⟨(.type "code"), (@none Nat), (.fields #[(.str (.ofString "read_octal") (831:Nat)), (.str (.ofString "Lexer.read_octal") (832:Nat)), (.str (.ofString "/claim/cut.py") (833:Nat)), (.int 286 (0:Nat)), (.int 1 (0:Nat)), (.int 0 (0:Nat)), (.int 0 (0:Nat)), (.int 3 (0:Nat)), (.ref (360:Nat)), (.bool true), (.int 181 (0:Nat)), (.ref (361:Nat)), .none, (.ref (362:Nat)), (.ref (363:Nat)), (.ref (364:Nat)), (.int 836 (0:Nat)), (.int 286 (0:Nat)), (.str (.ofString "/claim/cut.py") (837:Nat))]), #[]⟩) ::
  (nat_lit 366, ⟨(.type "function"), (@none Nat), (.func ⟨(.ofString "read_octal"), (.ofString "Lexer.read_octal"), (by refine (?f115 : (kxA (kxM 50 11) = ?b115) → PySem.Arguments) ?h115; (case h115 => conv => (lhs; whnf)); (case f115 => exact fun _ => ?b115)), (.stmts (by refine (?f116 : (kxB (kxM 50 11) = ?b116) → List PySem.Stmt) ?h116; (case h116 => conv => (lhs; whnf)); (case f116 => exact fun _ => ?b116))), (by refine (?f117 : (kxS (kxM 50 11) = ?b117) → PySem.Scope) ?h117; (case h117 => conv => (lhs; whnf)); (case f117 => exact fun _ => ?b117)), (3:Nat), (@List.nil (PySem.Str × Nat)), .none, .none, .none, (.str (.ofString "js.lexer") (717:Nat)), (@none Nat), (.ref (365:Nat)), .none, (0:Nat)⟩), #[]⟩) ::
  (nat_lit 367, ⟨(.type "tuple"), (@none Nat), (.seq #[] (0:Nat)), #[]⟩) ::
  (nat_lit 369, ⟨(.type "tuple"), (@none Nat), (.seq #[(.str (.ofString "self") (842:Nat)), (.str (.ofString "whole") (843:Nat)), (.str (.ofString "part") (844:Nat))] (0:Nat)), #[]⟩) ::
  (nat_lit 370, ⟨(.type "tuple"), (@none Nat), (.seq #[] (0:Nat)), #[]⟩) ::
  (nat_lit 372, ⟨(.type "code"), (@none Nat), (.fields #[(.str (.ofString "read_decimal") (839:Nat)), (.str (.ofString "Lexer.read_decimal") (840:Nat)), (.str (.ofString "/claim/cut.py") (841:Nat)), (.int 293 (0:Nat)), (.int 1 (0:Nat)), (.int 0 (0:Nat)), (.int 0 (0:Nat)), (.int 3 (0:Nat)), (.ref (367:Nat)), (.bool true), (.int 181 (0:Nat)), (.ref (368:Nat)), .none, (.ref (369:Nat)), (.ref (370:Nat)), (.ref (371:Nat)), (.int 845 (0:Nat)), (.int 293 (0:Nat)), (.str (.ofString "/claim/cut.py") (846:Nat))]), #[]⟩) ::
  (nat_lit 373, ⟨(.type "function"), (@none Nat), (.func ⟨(.ofString "read_decimal"), (.ofString "Lexer.read_decimal"), (by refine (?f118 : (kxA (kxM 50 12) = ?b118) → PySem.Arguments) ?h118; (case h118 => conv => (lhs; whnf)); (case f118 => exact fun _ => ?b118)), (.stmts (by refine (?f119 : (kxB (kxM 50 12) = ?b119) → List PySem.Stmt) ?h119; (case h119 => conv => (lhs; whnf)); (case f119 => exact fun _ => ?b119))), (by refine (?f120 : (kxS (kxM 50 12) = ?b120) → PySem.Scope) ?h120; (case h120 => conv => (lhs; whnf)); (case f120 => exact fun _ => ?b120)), (3:Nat), (@List.nil (PySem.Str × Nat)), .none, .none, .none, (.str (.ofString "js.lexer") (717:Nat)), (@none Nat), (.ref (372:Nat)), .none, (0:Nat)⟩), #[]⟩) ::
  (nat_lit 374, ⟨(.type "tuple"), (@none Nat), (.seq #[] (0:Nat)), #[]⟩) ::
  (nat_lit 376, ⟨(.type "tuple"), (@none Nat), (.seq #[(.str (.ofString "self") (851:Nat)), (.str (.ofString "sign") (852:Nat)), (.str (.ofString "figures") (853:Nat)), (.str (.ofString "shown") (854:Nat)), (.str (.ofString "power") (855:Nat))] (0:Nat)), #[]⟩) ::
  (nat_lit 377, ⟨(.type "tuple"), (@none Nat), (.seq #[] (0:Nat)), #[]⟩) ::
  (nat_lit 379, ⟨(.type "code"), (@none Nat), (.fields #[(.str (.ofString "read_exponent") (848:Nat)), (.str (.ofString "Lexer.read_exponent") (849:Nat)), (.str (.ofString "/claim/cut.py") (850:Nat)), (.int 305 (0:Nat)), (.int 1 (0:Nat)), (.int 0 (0:Nat)), (.int 0 (0:Nat)), (.int 3 (0:Nat)), (.ref (374:Nat)), (.bool true), (.int 181 (0:Nat)), (.ref (375:Nat)), .none, (.ref (376:Nat)), (.ref (377:Nat)), (.ref (378:Nat)), (.int 856 (0:Nat)), (.int 305 (0:Nat)), (.str (.ofString "/claim/cut.py") (857:Nat))]), #[]⟩) ::
  (nat_lit 380, ⟨(.type "function"), (@none Nat), (.func ⟨(.ofString "read_exponent"), (.ofString "Lexer.read_exponent"), (by refine (?f121 : (kxA (kxM 50 13) = ?b121) → PySem.Arguments) ?h121; (case h121 => conv => (lhs; whnf)); (case f121 => exact fun _ => ?b121)), (.stmts (by refine (?f122 : (kxB (kxM 50 13) = ?b122) → List PySem.Stmt) ?h122; (case h122 => conv => (lhs; whnf)); (case f122 => exact fun _ => ?b122))), (by refine (?f123 : (kxS (kxM 50 13) = ?b123) → PySem.Scope) ?h123; (case h123 => conv => (lhs; whnf)); (case f123 => exact fun _ => ?b123)), (3:Nat), (@List.nil (PySem.Str × Nat)), .none, .none, .none, (.str (.ofString "js.lexer") (717:Nat)), (@none Nat), (.ref (379:Nat)), .none, (0:Nat)⟩), #[]⟩) ::
  (nat_lit 381, ⟨(.type "tuple"), (@none Nat), (.seq #[] (0:Nat)), #[]⟩) ::
  (nat_lit 383, ⟨(.type "tuple"), (@none Nat), (.seq #[(.str (.ofString "self") (862:Nat)), (.str (.ofString "token") (863:Nat)), (.str (.ofString "body") (864:Nat)), (.str (.ofString "start") (865:Nat)), (.str (.ofString "found") (866:Nat))] (0:Nat)), #[]⟩) ::
  (nat_lit 384, ⟨(.type "tuple"), (@none Nat), (.seq #[] (0:Nat)), #[]⟩) ::
  (nat_lit 386, ⟨(.type "code"), (@none Nat), (.fields #[(.str (.ofString "regex") (859:Nat)), (.str (.ofString "Lexer.regex") (860:Nat)), (.str (.ofString "/claim/cut.py") (861:Nat)), (.int 319 (0:Nat)), (.int 2 (0:Nat)), (.int 0 (0:Nat)), (.int 0 (0:Nat)), (.int 3 (0:Nat)), (.ref (381:Nat)), (.bool true), (.int 181 (0:Nat)), (.ref (382:Nat)), .none, (.ref (383:Nat)), (.ref (384:Nat)), (.ref (385:Nat)), (.int 867 (0:Nat)), (.int 319 (0:Nat)), (.str (.ofString "/claim/cut.py") (868:Nat))]), #[]⟩) ::
  (nat_lit 387, ⟨(.type "function"), (@none Nat), (.func ⟨(.ofString "regex"), (.ofString "Lexer.regex"), (by refine (?f124 : (kxA (kxM 50 14) = ?b124) → PySem.Arguments) ?h124; (case h124 => conv => (lhs; whnf)); (case f124 => exact fun _ => ?b124)), (.stmts (by refine (?f125 : (kxB (kxM 50 14) = ?b125) → List PySem.Stmt) ?h125; (case h125 => conv => (lhs; whnf)); (case f125 => exact fun _ => ?b125))), (by refine (?f126 : (kxS (kxM 50 14) = ?b126) → PySem.Scope) ?h126; (case h126 => conv => (lhs; whnf)); (case f126 => exact fun _ => ?b126)), (3:Nat), (@List.nil (PySem.Str × Nat)), .none, .none, .none, (.str (.ofString "js.lexer") (717:Nat)), (@none Nat), (.ref (386:Nat)), .none, (0:Nat)⟩), #[]⟩) ::
  (nat_lit 388, ⟨(.type "tuple"), (@none Nat), (.seq #[] (0:Nat)), #[]⟩) ::
  (nat_lit 390, ⟨(.type "tuple"), (@none Nat), (.seq #[(.str (.ofString "self") (873:Nat)), (.str (.ofString "start") (874:Nat)), (.str (.ofString "is_class") (875:Nat)), (.str (.ofString "code") (876:Nat))] (0:Nat)), #[]⟩) ::
  (nat_lit 391, ⟨(.type "tuple"), (@none Nat), (.seq #[] (0:Nat)), #[]⟩) ::
  (nat_lit 393, ⟨(.type "code"), (@none Nat), (.fields #[(.str (.ofString "regex_body") (870:Nat)), (.str (.ofString "Lexer.regex_body") (871:Nat)), (.str (.ofString "/claim/cut.py") (872:Nat)), (.int 330 (0:Nat)), (.int 1 (0:Nat)), (.int 0 (0:Nat)), (.int 0 (0:Nat)), (.int 3 (0:Nat)), (.ref (388:Nat)), (.bool true), (.int 181 (0:Nat)), (.ref (389:Nat)), .none, (.ref (390:Nat)), (.ref (391:Nat)), (.ref (392:Nat)), (.int 877 (0:Nat)), (.int 330 (0:Nat)), (.str (.ofString "/claim/cut.py") (878:Nat))]), #[]⟩) ::
  (nat_lit 394, ⟨(.type "function"), (@none Nat), (.func ⟨(.ofString "regex_body"), (.ofString "Lexer.regex_body"), (by refine (?f127 : (kxA (kxM 50 15) = ?b127) → PySem.Arguments) ?h127; (case h127 => conv => (lhs; whnf)); (case f127 => exact fun _ => ?b127)), (.stmts (by refine (?f128 : (kxB (kxM 50 15) = ?b128) → List PySem.Stmt) ?h128; (case h128 => conv => (lhs; whnf)); (case f128 => exact fun _ => ?b128))), (by refine (?f129 : (kxS (kxM 50 15) = ?b129) → PySem.Scope) ?h129; (case h129 => conv => (lhs; whnf)); (case f129 => exact fun _ => ?b129)), (3:Nat), (@List.nil (PySem.Str × Nat)), .none, .none, .none, (.str (.ofString "js.lexer") (717:Nat)), (@none Nat), (.ref (393:Nat)), .none, (0:Nat)⟩), #[]⟩) ::
  (nat_lit 395, ⟨(.type "tuple"), (@none Nat), (.seq #[] (0:Nat)), #[]⟩) ::
  (nat_lit 397, ⟨(.type "tuple"), (@none Nat), (.seq #[(.str (.ofString "self") (883:Nat)), (.str (.ofString "token") (884:Nat)), (.str (.ofString "quote") (885:Nat)), (.str (.ofString "found") (886:Nat)), (.str (.ofString "code") (887:Nat))] (0:Nat)), #[]⟩) ::
  (nat_lit 398, ⟨(.type "tuple"), (@none Nat), (.seq #[] (0:Nat)), #[]⟩) ::
  (nat_lit 400, ⟨(.type "code"), (@none Nat), (.fields #[(.str (.ofString "read_text") (880:Nat)), (.str (.ofString "Lexer.read_text") (881:Nat)), (.str (.ofString "/claim/cut.py") (882:Nat)), (.int 346 (0:Nat)), (.int 3 (0:Nat)), (.int 0 (0:Nat)), (.int 0 (0:Nat)), (.int 3 (0:Nat)), (.ref (395:Nat)), (.bool true), (.int 181 (0:Nat)), (.ref (396:Nat)), .none, (.ref (397:Nat)), (.ref (398:Nat)), (.ref (399:Nat)), (.int 888 (0:Nat)), (.int 346 (0:Nat)), (.str (.ofString "/claim/cut.py") (889:Nat))]), #[]⟩) ::
  (nat_lit 401, ⟨(.type "function"), (@none Nat), (.func ⟨(.ofString "read_text"), (.ofString "Lexer.read_text"), (by refine (?f130 : (kxA (kxM 50 16) = ?b130) → PySem.Arguments) ?h130; (case h130 => conv => (lhs; whnf)); (case f130 => exact fun _ => ?b130)), (.stmts (by refine (?f131 : (kxB (kxM 50 16) = ?b131) → List PySem.Stmt) ?h131; (case h131 => conv => (lhs; whnf)); (case f131 => exact fun _ => ?b131))), (by refine (?f132 : (kxS (kxM 50 16) = ?b132) → PySem.Scope) ?h132; (case h132 => conv => (lhs; whnf)); (case f132 => exact fun _ => ?b132)), (3:Nat), (@List.nil (PySem.Str × Nat)), .none, .none, .none, (.str (.ofString "js.lexer") (717:Nat)), (@none Nat), (.ref (400:Nat)), .none, (0:Nat)⟩), #[]⟩) ::
  (nat_lit 402, ⟨(.type "tuple"), (@none Nat), (.seq #[] (0:Nat)), #[]⟩) ::
  (nat_lit 404, ⟨(.type "tuple"), (@none Nat), (.seq #[(.str (.ofString "self") (894:Nat)), (.str (.ofString "token") (895:Nat)), (.str (.ofString "told") (896:Nat))] (0:Nat)), #[]⟩) ::
  (nat_lit 405, ⟨(.type "tuple"), (@none Nat), (.seq #[] (0:Nat)), #[]⟩) ::
  (nat_lit 407, ⟨(.type "code"), (@none Nat), (.fields #[(.str (.ofString "escaped") (891:Nat)), (.str (.ofString "Lexer.escaped") (892:Nat)), (.str (.ofString "/claim/cut.py") (893:Nat)), (.int 362 (0:Nat)), (.int 2 (0:Nat)), (.int 0 (0:Nat)), (.int 0 (0:Nat)), (.int 3 (0:Nat)), (.ref (402:Nat)), (.bool true), (.int 181 (0:Nat)), (.ref (403:Nat)), .none, (.ref (404:Nat)), (.ref (405:Nat)), (.ref (406:Nat)), (.int 897 (0:Nat)), (.int 362 (0:Nat)), (.str (.ofString "/claim/cut.py") (898:Nat))]), #[]⟩) ::
  (nat_lit 408, ⟨(.type "function"), (@none Nat), (.func ⟨(.ofString "escaped"), (.ofString "Lexer.escaped"), (by refine (?f133 : (kxA (kxM 50 17) = ?b133) → PySem.Arguments) ?h133; (case h133 => conv => (lhs; whnf)); (case f133 => exact fun _ => ?b133)), (.stmts (by refine (?f134 : (kxB (kxM 50 17) = ?b134) → List PySem.Stmt) ?h134; (case h134 => conv => (lhs; whnf)); (case f134 => exact fun _ => ?b134))), (by refine (?f135 : (kxS (kxM 50 17) = ?b135) → PySem.Scope) ?h135; (case h135 => conv => (lhs; whnf)); (case f135 => exact fun _ => ?b135)), (3:Nat), (@List.nil (PySem.Str × Nat)), .none, .none, .none, (.str (.ofString "js.lexer") (717:Nat)), (@none Nat), (.ref (407:Nat)), .none, (0:Nat)⟩), #[]⟩) ::
  (nat_lit 409, ⟨(.type "tuple"), (@none Nat), (.seq #[] (0:Nat)), #[]⟩) ::
  (nat_lit 411, ⟨(.type "tuple"), (@none Nat), (.seq #[(.str (.ofString "self") (903:Nat)), (.str (.ofString "token") (904:Nat)), (.str (.ofString "punct") (905:Nat))] (0:Nat)), #[]⟩) ::
  (nat_lit 412, ⟨(.type "tuple"), (@none Nat), (.seq #[] (0:Nat)), #[]⟩) ::
  (nat_lit 414, ⟨(.type "code"), (@none Nat), (.fields #[(.str (.ofString "read_punct") (900:Nat)), (.str (.ofString "Lexer.read_punct") (901:Nat)), (.str (.ofString "/claim/cut.py") (902:Nat)), (.int 373 (0:Nat)), (.int 2 (0:Nat)), (.int 0 (0:Nat)), (.int 0 (0:Nat)), (.int 3 (0:Nat)), (.ref (409:Nat)), (.bool true), (.int 181 (0:Nat)), (.ref (410:Nat)), .none, (.ref (411:Nat)), (.ref (412:Nat)), (.ref (413:Nat)), (.int 906 (0:Nat)), (.int 373 (0:Nat)), (.str (.ofString "/claim/cut.py") (907:Nat))]), #[]⟩) ::
  (nat_lit 415, ⟨(.type "function"), (@none Nat), (.func ⟨(.ofString "read_punct"), (.ofString "Lexer.read_punct"), (by refine (?f136 : (kxA (kxM 50 18) = ?b136) → PySem.Arguments) ?h136; (case h136 => conv => (lhs; whnf)); (case f136 => exact fun _ => ?b136)), (.stmts (by refine (?f137 : (kxB (kxM 50 18) = ?b137) → List PySem.Stmt) ?h137; (case h137 => conv => (lhs; whnf)); (case f137 => exact fun _ => ?b137))), (by refine (?f138 : (kxS (kxM 50 18) = ?b138) → PySem.Scope) ?h138; (case h138 => conv => (lhs; whnf)); (case f138 => exact fun _ => ?b138)), (3:Nat), (@List.nil (PySem.Str × Nat)), .none, .none, .none, (.str (.ofString "js.lexer") (717:Nat)), (@none Nat), (.ref (414:Nat)), .none, (0:Nat)⟩), #[]⟩) ::
  (nat_lit 416, ⟨(.type "tuple"), (@none Nat), (.seq #[(.str (.ofString "at") (909:Nat)), (.str (.ofString "line") (910:Nat)), (.str (.ofString "text") (911:Nat))] (0:Nat)), #[]⟩) ::
  (nat_lit 417, ⟨(.type "dict"), (@none Nat), (.dict (List.toArray (⟨(PySem.PyData.keyHash P (.ofString "__module__")), (.str (.ofString "__module__") (726:Nat)), (.str (.ofString "js.lexer") (717:Nat))⟩ :: ⟨(PySem.PyData.keyHash P (.ofString "__firstlineno__")), (.str (.ofString "__firstlineno__") (730:Nat)), (.int 175 (729:Nat))⟩ :: ⟨(PySem.PyData.keyHash P (.ofString "__init__")), (.str (.ofString "__init__") (738:Nat)), (.ref (289:Nat))⟩ :: ⟨(PySem.PyData.keyHash P (.ofString "next")), (.str (.ofString "next") (749:Nat)), (.ref (296:Nat))⟩ :: ⟨(PySem.PyData.keyHash P (.ofString "fail")), (.str (.ofString "fail") (757:Nat)), (.ref (303:Nat))⟩ :: ⟨(PySem.PyData.keyHash P (.ofString "end_line")), (.str (.ofString "end_line") (764:Nat)), (.ref (310:Nat))⟩ :: ⟨(PySem.PyData.keyHash P (.ofString "skip_blanks")), (.str (.ofString "skip_blanks") (773:Nat)), (.ref (317:Nat))⟩ :: ⟨(PySem.PyData.keyHash P (.ofString "skip_comment")), (.str (.ofString "skip_comment") (780:Nat)), (.ref (324:Nat))⟩ :: ⟨(PySem.PyData.keyHash P (.ofString "name_sign")), (.str (.ofString "name_sign") (792:Nat)), (.ref (331:Nat))⟩ :: ⟨(PySem.PyData.keyHash P (.ofString "read_name")), (.str (.ofString "read_name") (802:Nat)), (.ref (338:Nat))⟩ :: ⟨(PySem.PyData.keyHash P (.ofString "skip_digits")), (.str (.ofString "skip_digits") (810:Nat)), (.ref (345:Nat))⟩ :: ⟨(PySem.PyData.keyHash P (.ofString "read_number")), (.str (.ofString "read_number") (821:Nat)), (.ref (352:Nat))⟩ :: ⟨(PySem.PyData.keyHash P (.ofString "read_hex")), (.str (.ofString "read_hex") (830:Nat)), (.ref (359:Nat))⟩ :: ⟨(PySem.PyData.keyHash P (.ofString "read_octal")), (.str (.ofString "read_octal") (838:Nat)), (.ref (366:Nat))⟩ :: ⟨(PySem.PyData.keyHash P (.ofString "read_decimal")), (.str (.ofString "read_decimal") (847:Nat)), (.ref (373:Nat))⟩ :: ⟨(PySem.PyData.keyHash P (.ofString "read_exponent")), (.str (.ofString "read_exponent") (858:Nat)), (.ref (380:Nat))⟩ :: ⟨(PySem.PyData.keyHash P (.ofString "regex")), (.str (.ofString "regex") (869:Nat)), (.ref (387:Nat))⟩ :: ⟨(PySem.PyData.keyHash P (.ofString "regex_body")), (.str (.ofString "regex_body") (879:Nat)), (.ref (394:Nat))⟩ :: ⟨(PySem.PyData.keyHash P (.ofString "read_text")), (.str (.ofString "read_text") (890:Nat)), (.ref (401:Nat))⟩ :: ⟨(PySem.PyData.keyHash P (.ofString "escaped")), (.str (.ofString "escaped") (899:Nat)), (.ref (408:Nat))⟩ :: ⟨(PySem.PyData.keyHash P (.ofString "read_punct")), (.str (.ofString "read_punct") (908:Nat)), (.ref (415:Nat))⟩ :: ⟨(PySem.PyData.keyHash P (.ofString "__static_attributes__")), (.str (.ofString "__static_attributes__") (912:Nat)), (.ref (416:Nat))⟩ :: ⟨(PySem.PyData.keyHash P (.ofString "__dict__")), (.str (.ofString "__dict__") (914:Nat)), (.ref (419:Nat))⟩ :: ⟨(PySem.PyData.keyHash P (.ofString "__weakref__")), (.str (.ofString "__weakref__") (916:Nat)), (.ref (420:Nat))⟩ :: ⟨(PySem.PyData.keyHash P (.ofString "__doc__")), (.str (.ofString "__doc__") (917:Nat)), .none⟩ :: [])) (4:Nat)), #[]⟩) ::
  (nat_lit 418, ⟨(.type "type"), (@none Nat), (.cls ⟨(.ofString "Lexer"), [(.type "object")], [(.ref (418:Nat)), (.type "object")], (417:Nat), (.ofString "Lexer"), true, [], [], false, none, false⟩), #[none, none, (some (.str (.ofString "Lexer") (719:Nat))), (some (.str (.ofString "Lexer") (727:Nat))), (some (.builtin "object.__new__")), (some (.bool true))]⟩) ::
  (nat_lit 419, ⟨(.type "getset_descriptor"), (@none Nat), (.fields #[(.str (.ofString "__dict__") (913:Nat)), (.ref (418:Nat)), (.builtin "function.__dict__"), (.builtin "function.__dict__#set")]), #[]⟩) ::
  (nat_lit 420, ⟨(.type "getset_descriptor"), (@none Nat), (.fields #[(.str (.ofString "__weakref__") (915:Nat)), (.ref (418:Nat)), (.builtin "ExceptionGroup.__weakref__"), .none]), #[]⟩) ::
  (nat_lit 423, ⟨(.type "tuple"), (@none Nat), (.seq #[] (0:Nat)), #[]⟩) ::
  (nat_lit 425, ⟨(.type "tuple"), (@none Nat), (.seq #[(.str (.ofString "box") (925:Nat)), (.str (.ofString "wide") (926:Nat))] (0:Nat)), #[]⟩) ::
  (nat_lit 426, ⟨(.type "tuple"), (@none Nat), (.seq #[] (0:Nat)), #[]⟩) ::
  (nat_lit 428, ⟨(.type "code"), (@none Nat), (.fields #[(.str (.ofString "_law_take") (922:Nat)), (.str (.ofString "_law_take") (923:Nat)), (.str (.ofString "/claim/cut.py") (924:Nat)), (.int 381 (0:Nat)), (.int 2 (0:Nat)), (.int 0 (0:Nat)), (.int 0 (0:Nat)), (.int 3 (0:Nat)), (.ref (423:Nat)), (.bool true), (.int 181 (0:Nat)), (.ref (424:Nat)), .none, (.ref (425:Nat)), (.ref (426:Nat)), (.ref (427:Nat)), (.int 927 (0:Nat)), (.int 381 (0:Nat)), (.str (.ofString "/claim/cut.py") (928:Nat))]), #[]⟩) ::
  (nat_lit 429, ⟨(.type "function"), (@none Nat), (.func ⟨(.ofString "_law_take"), (.ofString "_law_take"), (by refine (?f139 : (kxA (kxSt 52) = ?b139) → PySem.Arguments) ?h139; (case h139 => conv => (lhs; whnf)); (case f139 => exact fun _ => ?b139)), (.stmts (by refine (?f140 : (kxB (kxSt 52) = ?b140) → List PySem.Stmt) ?h140; (case h140 => conv => (lhs; whnf)); (case f140 => exact fun _ => ?b140))), (by refine (?f141 : (kxS (kxSt 52) = ?b141) → PySem.Scope) ?h141; (case h141 => conv => (lhs; whnf)); (case f141 => exact fun _ => ?b141)), (3:Nat), (@List.nil (PySem.Str × Nat)), .none, .none, .none, (.str (.ofString "law_nt0411_01") (920:Nat)), (@none Nat), (.ref (428:Nat)), .none, (0:Nat)⟩), #[]⟩) ::
  (nat_lit 430, ⟨(.type "tuple"), (@none Nat), (.seq #[] (0:Nat)), #[]⟩) ::
  (nat_lit 432, ⟨(.type "tuple"), (@none Nat), (.seq #[(.str (.ofString "box") (933:Nat)), (.str (.ofString "choices_here") (934:Nat))] (0:Nat)), #[]⟩) ::
  (nat_lit 433, ⟨(.type "tuple"), (@none Nat), (.seq #[] (0:Nat)), #[]⟩) ::
  (nat_lit 435, ⟨(.type "code"), (@none Nat), (.fields #[(.str (.ofString "_law_pick") (930:Nat)), (.str (.ofString "_law_pick") (931:Nat)), (.str (.ofString "/claim/cut.py") (932:Nat)), (.int 386 (0:Nat)), (.int 2 (0:Nat)), (.int 0 (0:Nat)), (.int 0 (0:Nat)), (.int 3 (0:Nat)), (.ref (430:Nat)), (.bool true), (.int 181 (0:Nat)), (.ref (431:Nat)), .none, (.ref (432:Nat)), (.ref (433:Nat)), (.ref (434:Nat)), (.int 935 (0:Nat)), (.int 386 (0:Nat)), (.str (.ofString "/claim/cut.py") (936:Nat))]), #[]⟩) ::
  (nat_lit 436, ⟨(.type "function"), (@none Nat), (.func ⟨(.ofString "_law_pick"), (.ofString "_law_pick"), (by refine (?f142 : (kxA (kxSt 53) = ?b142) → PySem.Arguments) ?h142; (case h142 => conv => (lhs; whnf)); (case f142 => exact fun _ => ?b142)), (.stmts (by refine (?f143 : (kxB (kxSt 53) = ?b143) → List PySem.Stmt) ?h143; (case h143 => conv => (lhs; whnf)); (case f143 => exact fun _ => ?b143))), (by refine (?f144 : (kxS (kxSt 53) = ?b144) → PySem.Scope) ?h144; (case h144 => conv => (lhs; whnf)); (case f144 => exact fun _ => ?b144)), (3:Nat), (@List.nil (PySem.Str × Nat)), .none, .none, .none, (.str (.ofString "law_nt0411_01") (920:Nat)), (@none Nat), (.ref (435:Nat)), .none, (0:Nat)⟩), #[]⟩) ::
  (nat_lit 437, ⟨(.type "tuple"), (@none Nat), (.seq #[] (0:Nat)), #[]⟩) ::
  (nat_lit 439, ⟨(.type "tuple"), (@none Nat), (.seq #[(.str (.ofString "code") (941:Nat)), (.str (.ofString "many") (942:Nat)), (.str (.ofString "found") (943:Nat)), (.str (.ofString "step") (944:Nat))] (0:Nat)), #[]⟩) ::
  (nat_lit 440, ⟨(.type "tuple"), (@none Nat), (.seq #[] (0:Nat)), #[]⟩) ::
  (nat_lit 442, ⟨(.type "code"), (@none Nat), (.fields #[(.str (.ofString "_law_hex") (938:Nat)), (.str (.ofString "_law_hex") (939:Nat)), (.str (.ofString "/claim/cut.py") (940:Nat)), (.int 388 (0:Nat)), (.int 2 (0:Nat)), (.int 0 (0:Nat)), (.int 0 (0:Nat)), (.int 3 (0:Nat)), (.ref (437:Nat)), (.bool true), (.int 181 (0:Nat)), (.ref (438:Nat)), .none, (.ref (439:Nat)), (.ref (440:Nat)), (.ref (441:Nat)), (.int 945 (0:Nat)), (.int 388 (0:Nat)), (.str (.ofString "/claim/cut.py") (946:Nat))]), #[]⟩) ::
  (nat_lit 443, ⟨(.type "function"), (@none Nat), (.func ⟨(.ofString "_law_hex"), (.ofString "_law_hex"), (by refine (?f145 : (kxA (kxSt 54) = ?b145) → PySem.Arguments) ?h145; (case h145 => conv => (lhs; whnf)); (case f145 => exact fun _ => ?b145)), (.stmts (by refine (?f146 : (kxB (kxSt 54) = ?b146) → List PySem.Stmt) ?h146; (case h146 => conv => (lhs; whnf)); (case f146 => exact fun _ => ?b146))), (by refine (?f147 : (kxS (kxSt 54) = ?b147) → PySem.Scope) ?h147; (case h147 => conv => (lhs; whnf)); (case f147 => exact fun _ => ?b147)), (3:Nat), (@List.nil (PySem.Str × Nat)), .none, .none, .none, (.str (.ofString "law_nt0411_01") (920:Nat)), (@none Nat), (.ref (442:Nat)), .none, (0:Nat)⟩), #[]⟩) ::
  (nat_lit 444, ⟨(.type "tuple"), (@none Nat), (.seq #[] (0:Nat)), #[]⟩) ::
  (nat_lit 446, ⟨(.type "tuple"), (@none Nat), (.seq #[(.str (.ofString "number") (951:Nat)), (.str (.ofString "halves") (952:Nat)), (.str (.ofString "size") (953:Nat)), (.str (.ofString "left") (954:Nat))] (0:Nat)), #[]⟩) ::
  (nat_lit 447, ⟨(.type "tuple"), (@none Nat), (.seq #[] (0:Nat)), #[]⟩) ::
  (nat_lit 449, ⟨(.type "code"), (@none Nat), (.fields #[(.str (.ofString "_law_bits") (948:Nat)), (.str (.ofString "_law_bits") (949:Nat)), (.str (.ofString "/claim/cut.py") (950:Nat)), (.int 394 (0:Nat)), (.int 2 (0:Nat)), (.int 0 (0:Nat)), (.int 0 (0:Nat)), (.int 3 (0:Nat)), (.ref (444:Nat)), (.bool true), (.int 181 (0:Nat)), (.ref (445:Nat)), .none, (.ref (446:Nat)), (.ref (447:Nat)), (.ref (448:Nat)), (.int 955 (0:Nat)), (.int 394 (0:Nat)), (.str (.ofString "/claim/cut.py") (956:Nat))]), #[]⟩) ::
  (nat_lit 450, ⟨(.type "function"), (@none Nat), (.func ⟨(.ofString "_law_bits"), (.ofString "_law_bits"), (by refine (?f148 : (kxA (kxSt 55) = ?b148) → PySem.Arguments) ?h148; (case h148 => conv => (lhs; whnf)); (case f148 => exact fun _ => ?b148)), (.stmts (by refine (?f149 : (kxB (kxSt 55) = ?b149) → List PySem.Stmt) ?h149; (case h149 => conv => (lhs; whnf)); (case f149 => exact fun _ => ?b149))), (by refine (?f150 : (kxS (kxSt 55) = ?b150) → PySem.Scope) ?h150; (case h150 => conv => (lhs; whnf)); (case f150 => exact fun _ => ?b150)), (3:Nat), (@List.nil (PySem.Str × Nat)), .none, .none, .none, (.str (.ofString "law_nt0411_01") (920:Nat)), (@none Nat), (.ref (449:Nat)), .none, (0:Nat)⟩), #[]⟩) ::
  (nat_lit 451, ⟨(.type "tuple"), (@none Nat), (.seq #[] (0:Nat)), #[]⟩) ::
  (nat_lit 453, ⟨(.type "tuple"), (@none Nat), (.seq #[(.str (.ofString "box") (961:Nat)), (.str (.ofString "word") (962:Nat)), (.str (.ofString "kind") (963:Nat)), (.str (.ofString "at") (964:Nat))] (0:Nat)), #[]⟩) ::
  (nat_lit 454, ⟨(.type "tuple"), (@none Nat), (.seq #[] (0:Nat)), #[]⟩) ::
  (nat_lit 456, ⟨(.type "code"), (@none Nat), (.fields #[(.str (.ofString "_law_word") (958:Nat)), (.str (.ofString "_law_word") (959:Nat)), (.str (.ofString "/claim/cut.py") (960:Nat)), (.int 401 (0:Nat)), (.int 1 (0:Nat)), (.int 0 (0:Nat)), (.int 0 (0:Nat)), (.int 3 (0:Nat)), (.ref (451:Nat)), (.bool true), (.int 181 (0:Nat)), (.ref (452:Nat)), .none, (.ref (453:Nat)), (.ref (454:Nat)), (.ref (455:Nat)), (.int 965 (0:Nat)), (.int 401 (0:Nat)), (.str (.ofString "/claim/cut.py") (966:Nat))]), #[]⟩) ::
  (nat_lit 457, ⟨(.type "function"), (@none Nat), (.func ⟨(.ofString "_law_word"), (.ofString "_law_word"), (by refine (?f151 : (kxA (kxSt 56) = ?b151) → PySem.Arguments) ?h151; (case h151 => conv => (lhs; whnf)); (case f151 => exact fun _ => ?b151)), (.stmts (by refine (?f152 : (kxB (kxSt 56) = ?b152) → List PySem.Stmt) ?h152; (case h152 => conv => (lhs; whnf)); (case f152 => exact fun _ => ?b152))), (by refine (?f153 : (kxS (kxSt 56) = ?b153) → PySem.Scope) ?h153; (case h153 => conv => (lhs; whnf)); (case f153 => exact fun _ => ?b153)), (3:Nat), (@List.nil (PySem.Str × Nat)), .none, .none, .none, (.str (.ofString "law_nt0411_01") (920:Nat)), (@none Nat), (.ref (456:Nat)), .none, (0:Nat)⟩), #[]⟩) ::
  (nat_lit 458, ⟨(.type "tuple"), (@none Nat), (.seq #[] (0:Nat)), #[]⟩) ::
  (nat_lit 460, ⟨(.type "tuple"), (@none Nat), (.seq #[(.str (.ofString "box") (971:Nat)), (.str (.ofString "n") (972:Nat)), (.str (.ofString "form") (973:Nat))] (0:Nat)), #[]⟩) ::
  (nat_lit 461, ⟨(.type "tuple"), (@none Nat), (.seq #[] (0:Nat)), #[]⟩) ::
  (nat_lit 463, ⟨(.type "code"), (@none Nat), (.fields #[(.str (.ofString "_law_number") (968:Nat)), (.str (.ofString "_law_number") (969:Nat)), (.str (.ofString "/claim/cut.py") (970:Nat)), (.int 408 (0:Nat)), (.int 1 (0:Nat)), (.int 0 (0:Nat)), (.int 0 (0:Nat)), (.int 3 (0:Nat)), (.ref (458:Nat)), (.bool true), (.int 181 (0:Nat)), (.ref (459:Nat)), .none, (.ref (460:Nat)), (.ref (461:Nat)), (.ref (462:Nat)), (.int 974 (0:Nat)), (.int 408 (0:Nat)), (.str (.ofString "/claim/cut.py") (975:Nat))]), #[]⟩) ::
  (nat_lit 464, ⟨(.type "function"), (@none Nat), (.func ⟨(.ofString "_law_number"), (.ofString "_law_number"), (by refine (?f154 : (kxA (kxSt 57) = ?b154) → PySem.Arguments) ?h154; (case h154 => conv => (lhs; whnf)); (case f154 => exact fun _ => ?b154)), (.stmts (by refine (?f155 : (kxB (kxSt 57) = ?b155) → List PySem.Stmt) ?h155; (case h155 => conv => (lhs; whnf)); (case f155 => exact fun _ => ?b155))), (by refine (?f156 : (kxS (kxSt 57) = ?b156) → PySem.Scope) ?h156; (case h156 => conv => (lhs; whnf)); (case f156 => exact fun _ => ?b156)), (3:Nat), (@List.nil (PySem.Str × Nat)), .none, .none, .none, (.str (.ofString "law_nt0411_01") (920:Nat)), (@none Nat), (.ref (463:Nat)), .none, (0:Nat)⟩), #[]⟩) ::
  (nat_lit 465, ⟨(.type "tuple"), (@none Nat), (.seq #[] (0:Nat)), #[]⟩) ::
  (nat_lit 467, ⟨(.type "tuple"), (@none Nat), (.seq #[(.str (.ofString "box") (980:Nat)), (.str (.ofString "quote") (981:Nat)), (.str (.ofString "form") (982:Nat)), (.str (.ofString "code") (983:Nat)), (.str (.ofString "word") (984:Nat)), (.str (.ofString "told") (985:Nat)), (.str (.ofString "number") (986:Nat)), (.str (.ofString "behind") (987:Nat)), (.str (.ofString "sign") (988:Nat))] (0:Nat)), #[]⟩) ::
  (nat_lit 468, ⟨(.type "tuple"), (@none Nat), (.seq #[] (0:Nat)), #[]⟩) ::
  (nat_lit 470, ⟨(.type "code"), (@none Nat), (.fields #[(.str (.ofString "_law_sign") (977:Nat)), (.str (.ofString "_law_sign") (978:Nat)), (.str (.ofString "/claim/cut.py") (979:Nat)), (.int 423 (0:Nat)), (.int 2 (0:Nat)), (.int 0 (0:Nat)), (.int 0 (0:Nat)), (.int 3 (0:Nat)), (.ref (465:Nat)), (.bool true), (.int 181 (0:Nat)), (.ref (466:Nat)), .none, (.ref (467:Nat)), (.ref (468:Nat)), (.ref (469:Nat)), (.int 989 (0:Nat)), (.int 423 (0:Nat)), (.str (.ofString "/claim/cut.py") (990:Nat))]), #[]⟩) ::
  (nat_lit 471, ⟨(.type "function"), (@none Nat), (.func ⟨(.ofString "_law_sign"), (.ofString "_law_sign"), (by refine (?f157 : (kxA (kxSt 58) = ?b157) → PySem.Arguments) ?h157; (case h157 => conv => (lhs; whnf)); (case f157 => exact fun _ => ?b157)), (.stmts (by refine (?f158 : (kxB (kxSt 58) = ?b158) → List PySem.Stmt) ?h158; (case h158 => conv => (lhs; whnf)); (case f158 => exact fun _ => ?b158))), (by refine (?f159 : (kxS (kxSt 58) = ?b159) → PySem.Scope) ?h159; (case h159 => conv => (lhs; whnf)); (case f159 => exact fun _ => ?b159)), (3:Nat), (@List.nil (PySem.Str × Nat)), .none, .none, .none, (.str (.ofString "law_nt0411_01") (920:Nat)), (@none Nat), (.ref (470:Nat)), .none, (0:Nat)⟩), #[]⟩) ::
  (nat_lit 472, ⟨(.type "tuple"), (@none Nat), (.seq #[] (0:Nat)), #[]⟩) ::
  (nat_lit 474, ⟨(.type "tuple"), (@none Nat), (.seq #[(.str (.ofString "box") (995:Nat)), (.str (.ofString "quote") (996:Nat)), (.str (.ofString "value") (997:Nat)), (.str (.ofString "text") (998:Nat)), (.str (.ofString "is_octal") (999:Nat)), (.str (.ofString "is_plain") (1000:Nat)), (.str (.ofString "lines") (1001:Nat)), (.str (.ofString "turn") (1002:Nat)), (.str (.ofString "told") (1003:Nat))] (0:Nat)), #[]⟩) ::
  (nat_lit 475, ⟨(.type "tuple"), (@none Nat), (.seq #[] (0:Nat)), #[]⟩) ::
  (nat_lit 477, ⟨(.type "code"), (@none Nat), (.fields #[(.str (.ofString "_law_text") (992:Nat)), (.str (.ofString "_law_text") (993:Nat)), (.str (.ofString "/claim/cut.py") (994:Nat)), (.int 440 (0:Nat)), (.int 1 (0:Nat)), (.int 0 (0:Nat)), (.int 0 (0:Nat)), (.int 3 (0:Nat)), (.ref (472:Nat)), (.bool true), (.int 181 (0:Nat)), (.ref (473:Nat)), .none, (.ref (474:Nat)), (.ref (475:Nat)), (.ref (476:Nat)), (.int 1004 (0:Nat)), (.int 440 (0:Nat)), (.str (.ofString "/claim/cut.py") (1005:Nat))]), #[]⟩) ::
  (nat_lit 478, ⟨(.type "function"), (@none Nat), (.func ⟨(.ofString "_law_text"), (.ofString "_law_text"), (by refine (?f160 : (kxA (kxSt 59) = ?b160) → PySem.Arguments) ?h160; (case h160 => conv => (lhs; whnf)); (case f160 => exact fun _ => ?b160)), (.stmts (by refine (?f161 : (kxB (kxSt 59) = ?b161) → List PySem.Stmt) ?h161; (case h161 => conv => (lhs; whnf)); (case f161 => exact fun _ => ?b161))), (by refine (?f162 : (kxS (kxSt 59) = ?b162) → PySem.Scope) ?h162; (case h162 => conv => (lhs; whnf)); (case f162 => exact fun _ => ?b162)), (3:Nat), (@List.nil (PySem.Str × Nat)), .none, .none, .none, (.str (.ofString "law_nt0411_01") (920:Nat)), (@none Nat), (.ref (477:Nat)), .none, (0:Nat)⟩), #[]⟩) ::
  (nat_lit 479, ⟨(.type "tuple"), (@none Nat), (.seq #[] (0:Nat)), #[]⟩) ::
  (nat_lit 481, ⟨(.type "tuple"), (@none Nat), (.seq #[(.str (.ofString "box") (1010:Nat)), (.str (.ofString "gaps") (1011:Nat))] (0:Nat)), #[]⟩) ::
  (nat_lit 482, ⟨(.type "tuple"), (@none Nat), (.seq #[] (0:Nat)), #[]⟩) ::
  (nat_lit 484, ⟨(.type "code"), (@none Nat), (.fields #[(.str (.ofString "_law_gap") (1007:Nat)), (.str (.ofString "_law_gap") (1008:Nat)), (.str (.ofString "/claim/cut.py") (1009:Nat)), (.int 448 (0:Nat)), (.int 1 (0:Nat)), (.int 0 (0:Nat)), (.int 0 (0:Nat)), (.int 3 (0:Nat)), (.ref (479:Nat)), (.bool true), (.int 181 (0:Nat)), (.ref (480:Nat)), .none, (.ref (481:Nat)), (.ref (482:Nat)), (.ref (483:Nat)), (.int 1012 (0:Nat)), (.int 448 (0:Nat)), (.str (.ofString "/claim/cut.py") (1013:Nat))]), #[]⟩) ::
  (nat_lit 485, ⟨(.type "function"), (@none Nat), (.func ⟨(.ofString "_law_gap"), (.ofString "_law_gap"), (by refine (?f163 : (kxA (kxSt 60) = ?b163) → PySem.Arguments) ?h163; (case h163 => conv => (lhs; whnf)); (case f163 => exact fun _ => ?b163)), (.stmts (by refine (?f164 : (kxB (kxSt 60) = ?b164) → List PySem.Stmt) ?h164; (case h164 => conv => (lhs; whnf)); (case f164 => exact fun _ => ?b164))), (by refine (?f165 : (kxS (kxSt 60) = ?b165) → PySem.Scope) ?h165; (case h165 => conv => (lhs; whnf)); (case f165 => exact fun _ => ?b165)), (3:Nat), (@List.nil (PySem.Str × Nat)), .none, .none, .none, (.str (.ofString "law_nt0411_01") (920:Nat)), (@none Nat), (.ref (484:Nat)), .none, (0:Nat)⟩), #[]⟩) ::
  (nat_lit 486, ⟨(.type "tuple"), (@none Nat), (.seq #[] (0:Nat)), #[]⟩) ::
  (nat_lit 488, ⟨(.type "tuple"), (@none Nat), (.seq #[(.str (.ofString "box") (1018:Nat)), (.str (.ofString "form") (1019:Nat)), (.str (.ofString "choices_here") (1020:Nat)), (.str (.ofString "punct") (1021:Nat))] (0:Nat)), #[]⟩) ::
  (nat_lit 489, ⟨(.type "tuple"), (@none Nat), (.seq #[] (0:Nat)), #[]⟩) ::
  (nat_lit 491, ⟨(.type "code"), (@none Nat), (.fields #[(.str (.ofString "_law_token") (1015:Nat)), (.str (.ofString "_law_token") (1016:Nat)), (.str (.ofString "/claim/cut.py") (1017:Nat)), (.int 452 (0:Nat)), (.int 1 (0:Nat)), (.int 0 (0:Nat)), (.int 0 (0:Nat)), (.int 3 (0:Nat)), (.ref (486:Nat)), (.bool true), (.int 181 (0:Nat)), (.ref (487:Nat)), .none, (.ref (488:Nat)), (.ref (489:Nat)), (.ref (490:Nat)), (.int 1022 (0:Nat)), (.int 452 (0:Nat)), (.str (.ofString "/claim/cut.py") (1023:Nat))]), #[]⟩) ::
  (nat_lit 492, ⟨(.type "function"), (@none Nat), (.func ⟨(.ofString "_law_token"), (.ofString "_law_token"), (by refine (?f166 : (kxA (kxSt 61) = ?b166) → PySem.Arguments) ?h166; (case h166 => conv => (lhs; whnf)); (case f166 => exact fun _ => ?b166)), (.stmts (by refine (?f167 : (kxB (kxSt 61) = ?b167) → List PySem.Stmt) ?h167; (case h167 => conv => (lhs; whnf)); (case f167 => exact fun _ => ?b167))), (by refine (?f168 : (kxS (kxSt 61) = ?b168) → PySem.Scope) ?h168; (case h168 => conv => (lhs; whnf)); (case f168 => exact fun _ => ?b168)), (3:Nat), (@List.nil (PySem.Str × Nat)), .none, .none, .none, (.str (.ofString "law_nt0411_01") (920:Nat)), (@none Nat), (.ref (491:Nat)), .none, (0:Nat)⟩), #[]⟩) ::
  (nat_lit 493, ⟨(.type "tuple"), (@none Nat), (.seq #[] (0:Nat)), #[]⟩) ::
  (nat_lit 495, ⟨(.type "tuple"), (@none Nat), (.seq #[(.str (.ofString "script") (1028:Nat)), (.str (.ofString "seed") (1029:Nat)), (.str (.ofString "one") (1030:Nat)), (.str (.ofString "box") (1031:Nat)), (.str (.ofString "text") (1032:Nat)), (.str (.ofString "line") (1033:Nat)), (.str (.ofString "has_end") (1034:Nat)), (.str (.ofString "due") (1035:Nat)), (.str (.ofString "turn") (1036:Nat)), (.str (.ofString "told") (1037:Nat)), (.str (.ofString "more") (1038:Nat)), (.str (.ofString "step") (1039:Nat)), (.str (.ofString "gap") (1040:Nat)), (.str (.ofString "lexer") (1041:Nat)), (.str (.ofString "row") (1042:Nat)), (.str (.ofString "token") (1043:Nat)), (.str (.ofString "found") (1044:Nat)), (.str (.ofString "again") (1045:Nat))] (0:Nat)), #[]⟩) ::
  (nat_lit 496, ⟨(.type "tuple"), (@none Nat), (.seq #[] (0:Nat)), #[]⟩) ::
  (nat_lit 498, ⟨(.type "code"), (@none Nat), (.fields #[(.str (.ofString "law") (1025:Nat)), (.str (.ofString "law") (1026:Nat)), (.str (.ofString "/claim/cut.py") (1027:Nat)), (.int 465 (0:Nat)), (.int 1 (0:Nat)), (.int 0 (0:Nat)), (.int 0 (0:Nat)), (.int 3 (0:Nat)), (.ref (493:Nat)), (.bool true), (.int 181 (0:Nat)), (.ref (494:Nat)), .none, (.ref (495:Nat)), (.ref (496:Nat)), (.ref (497:Nat)), (.int 1046 (0:Nat)), (.int 465 (0:Nat)), (.str (.ofString "/claim/cut.py") (1047:Nat))]), #[]⟩) ::
  (nat_lit 499, ⟨(.type "function"), (@none Nat), (.func ⟨(.ofString "law"), (.ofString "law"), (by refine (?f169 : (kxA (kxSt 62) = ?b169) → PySem.Arguments) ?h169; (case h169 => conv => (lhs; whnf)); (case f169 => exact fun _ => ?b169)), (.stmts (by refine (?f170 : (kxB (kxSt 62) = ?b170) → List PySem.Stmt) ?h170; (case h170 => conv => (lhs; whnf)); (case f170 => exact fun _ => ?b170))), (by refine (?f171 : (kxS (kxSt 62) = ?b171) → PySem.Scope) ?h171; (case h171 => conv => (lhs; whnf)); (case f171 => exact fun _ => ?b171)), (3:Nat), (@List.nil (PySem.Str × Nat)), .none, .none, .none, (.str (.ofString "law_nt0411_01") (920:Nat)), (@none Nat), (.ref (498:Nat)), .none, (0:Nat)⟩), #[]⟩) ::
  [] : List (Nat × PySem.Obj))
noncomputable def hpV : PySem.Program := { PySem.Challenge.rw_nt0411_01.row.toRowW.1 with main := { PySem.Challenge.rw_nt0411_01.row.toRowW.1.main with body :=
  (by refine (?f172 : (kxSt 1 = ?b172) → PySem.Stmt) ?h172; (case h172 => conv => (lhs; whnf)); (case f172 => exact fun _ => ?b172)) ::
  (by refine (?f173 : (kxSt 2 = ?b173) → PySem.Stmt) ?h173; (case h173 => conv => (lhs; whnf)); (case f173 => exact fun _ => ?b173)) ::
  (by refine (?f174 : (kxSt 3 = ?b174) → PySem.Stmt) ?h174; (case h174 => conv => (lhs; whnf)); (case f174 => exact fun _ => ?b174)) ::
  (by refine (?f175 : (kxSt 4 = ?b175) → PySem.Stmt) ?h175; (case h175 => conv => (lhs; whnf)); (case f175 => exact fun _ => ?b175)) ::
  (by refine (?f176 : (kxSt 5 = ?b176) → PySem.Stmt) ?h176; (case h176 => conv => (lhs; whnf)); (case f176 => exact fun _ => ?b176)) ::
  (by refine (?f177 : (kxSt 6 = ?b177) → PySem.Stmt) ?h177; (case h177 => conv => (lhs; whnf)); (case f177 => exact fun _ => ?b177)) ::
  (by refine (?f178 : (kxSt 7 = ?b178) → PySem.Stmt) ?h178; (case h178 => conv => (lhs; whnf)); (case f178 => exact fun _ => ?b178)) ::
  (by refine (?f179 : (kxSt 8 = ?b179) → PySem.Stmt) ?h179; (case h179 => conv => (lhs; whnf)); (case f179 => exact fun _ => ?b179)) ::
  (by refine (?f180 : (kxSt 9 = ?b180) → PySem.Stmt) ?h180; (case h180 => conv => (lhs; whnf)); (case f180 => exact fun _ => ?b180)) ::
  (by refine (?f181 : (kxSt 10 = ?b181) → PySem.Stmt) ?h181; (case h181 => conv => (lhs; whnf)); (case f181 => exact fun _ => ?b181)) ::
  (by refine (?f182 : (kxSt 11 = ?b182) → PySem.Stmt) ?h182; (case h182 => conv => (lhs; whnf)); (case f182 => exact fun _ => ?b182)) ::
  (by refine (?f183 : (kxSt 12 = ?b183) → PySem.Stmt) ?h183; (case h183 => conv => (lhs; whnf)); (case f183 => exact fun _ => ?b183)) ::
  (by refine (?f184 : (kxSt 14 = ?b184) → PySem.Stmt) ?h184; (case h184 => conv => (lhs; whnf)); (case f184 => exact fun _ => ?b184)) ::
  (by refine (?f185 : (kxSt 15 = ?b185) → PySem.Stmt) ?h185; (case h185 => conv => (lhs; whnf)); (case f185 => exact fun _ => ?b185)) ::
  (by refine (?f186 : (kxSt 16 = ?b186) → PySem.Stmt) ?h186; (case h186 => conv => (lhs; whnf)); (case f186 => exact fun _ => ?b186)) ::
  (by refine (?f187 : (kxSt 17 = ?b187) → PySem.Stmt) ?h187; (case h187 => conv => (lhs; whnf)); (case f187 => exact fun _ => ?b187)) ::
  (by refine (?f188 : (kxSt 18 = ?b188) → PySem.Stmt) ?h188; (case h188 => conv => (lhs; whnf)); (case f188 => exact fun _ => ?b188)) ::
  (by refine (?f189 : (kxSt 19 = ?b189) → PySem.Stmt) ?h189; (case h189 => conv => (lhs; whnf)); (case f189 => exact fun _ => ?b189)) ::
  (by refine (?f190 : (kxSt 20 = ?b190) → PySem.Stmt) ?h190; (case h190 => conv => (lhs; whnf)); (case f190 => exact fun _ => ?b190)) ::
  (by refine (?f191 : (kxSt 21 = ?b191) → PySem.Stmt) ?h191; (case h191 => conv => (lhs; whnf)); (case f191 => exact fun _ => ?b191)) ::
  (by refine (?f192 : (kxSt 22 = ?b192) → PySem.Stmt) ?h192; (case h192 => conv => (lhs; whnf)); (case f192 => exact fun _ => ?b192)) ::
  (by refine (?f193 : (kxSt 23 = ?b193) → PySem.Stmt) ?h193; (case h193 => conv => (lhs; whnf)); (case f193 => exact fun _ => ?b193)) ::
  (by refine (?f194 : (kxSt 24 = ?b194) → PySem.Stmt) ?h194; (case h194 => conv => (lhs; whnf)); (case f194 => exact fun _ => ?b194)) ::
  (by refine (?f195 : (kxSt 25 = ?b195) → PySem.Stmt) ?h195; (case h195 => conv => (lhs; whnf)); (case f195 => exact fun _ => ?b195)) ::
  (by refine (?f196 : (kxSt 26 = ?b196) → PySem.Stmt) ?h196; (case h196 => conv => (lhs; whnf)); (case f196 => exact fun _ => ?b196)) ::
  (by refine (?f197 : (kxSt 27 = ?b197) → PySem.Stmt) ?h197; (case h197 => conv => (lhs; whnf)); (case f197 => exact fun _ => ?b197)) ::
  (by refine (?f198 : (kxSt 28 = ?b198) → PySem.Stmt) ?h198; (case h198 => conv => (lhs; whnf)); (case f198 => exact fun _ => ?b198)) ::
  (by refine (?f199 : (kxSt 30 = ?b199) → PySem.Stmt) ?h199; (case h199 => conv => (lhs; whnf)); (case f199 => exact fun _ => ?b199)) ::
  (by refine (?f200 : (kxSt 31 = ?b200) → PySem.Stmt) ?h200; (case h200 => conv => (lhs; whnf)); (case f200 => exact fun _ => ?b200)) ::
  (by refine (?f201 : (kxSt 32 = ?b201) → PySem.Stmt) ?h201; (case h201 => conv => (lhs; whnf)); (case f201 => exact fun _ => ?b201)) ::
  (by refine (?f202 : (kxSt 33 = ?b202) → PySem.Stmt) ?h202; (case h202 => conv => (lhs; whnf)); (case f202 => exact fun _ => ?b202)) ::
  (by refine (?f203 : (kxSt 34 = ?b203) → PySem.Stmt) ?h203; (case h203 => conv => (lhs; whnf)); (case f203 => exact fun _ => ?b203)) ::
  (by refine (?f204 : (kxSt 35 = ?b204) → PySem.Stmt) ?h204; (case h204 => conv => (lhs; whnf)); (case f204 => exact fun _ => ?b204)) ::
  (by refine (?f205 : (kxSt 37 = ?b205) → PySem.Stmt) ?h205; (case h205 => conv => (lhs; whnf)); (case f205 => exact fun _ => ?b205)) ::
  (by refine (?f206 : (kxSt 38 = ?b206) → PySem.Stmt) ?h206; (case h206 => conv => (lhs; whnf)); (case f206 => exact fun _ => ?b206)) ::
  (by refine (?f207 : (kxSt 39 = ?b207) → PySem.Stmt) ?h207; (case h207 => conv => (lhs; whnf)); (case f207 => exact fun _ => ?b207)) ::
  (by refine (?f208 : (kxSt 40 = ?b208) → PySem.Stmt) ?h208; (case h208 => conv => (lhs; whnf)); (case f208 => exact fun _ => ?b208)) ::
  (by refine (?f209 : (kxSt 42 = ?b209) → PySem.Stmt) ?h209; (case h209 => conv => (lhs; whnf)); (case f209 => exact fun _ => ?b209)) ::
  (by refine (?f210 : (kxSt 43 = ?b210) → PySem.Stmt) ?h210; (case h210 => conv => (lhs; whnf)); (case f210 => exact fun _ => ?b210)) ::
  (by refine (?f211 : (kxSt 44 = ?b211) → PySem.Stmt) ?h211; (case h211 => conv => (lhs; whnf)); (case f211 => exact fun _ => ?b211)) ::
  (by refine (?f212 : (kxSt 45 = ?b212) → PySem.Stmt) ?h212; (case h212 => conv => (lhs; whnf)); (case f212 => exact fun _ => ?b212)) ::
  (by refine (?f213 : (kxSt 46 = ?b213) → PySem.Stmt) ?h213; (case h213 => conv => (lhs; whnf)); (case f213 => exact fun _ => ?b213)) ::
  (by refine (?f214 : (kxSt 48 = ?b214) → PySem.Stmt) ?h214; (case h214 => conv => (lhs; whnf)); (case f214 => exact fun _ => ?b214)) ::
  (by refine (?f215 : (kxSt 50 = ?b215) → PySem.Stmt) ?h215; (case h215 => conv => (lhs; whnf)); (case f215 => exact fun _ => ?b215)) ::
  (by refine (?f216 : (kxSt 52 = ?b216) → PySem.Stmt) ?h216; (case h216 => conv => (lhs; whnf)); (case f216 => exact fun _ => ?b216)) ::
  (by refine (?f217 : (kxSt 53 = ?b217) → PySem.Stmt) ?h217; (case h217 => conv => (lhs; whnf)); (case f217 => exact fun _ => ?b217)) ::
  (by refine (?f218 : (kxSt 54 = ?b218) → PySem.Stmt) ?h218; (case h218 => conv => (lhs; whnf)); (case f218 => exact fun _ => ?b218)) ::
  (by refine (?f219 : (kxSt 55 = ?b219) → PySem.Stmt) ?h219; (case h219 => conv => (lhs; whnf)); (case f219 => exact fun _ => ?b219)) ::
  (by refine (?f220 : (kxSt 56 = ?b220) → PySem.Stmt) ?h220; (case h220 => conv => (lhs; whnf)); (case f220 => exact fun _ => ?b220)) ::
  (by refine (?f221 : (kxSt 57 = ?b221) → PySem.Stmt) ?h221; (case h221 => conv => (lhs; whnf)); (case f221 => exact fun _ => ?b221)) ::
  (by refine (?f222 : (kxSt 58 = ?b222) → PySem.Stmt) ?h222; (case h222 => conv => (lhs; whnf)); (case f222 => exact fun _ => ?b222)) ::
  (by refine (?f223 : (kxSt 59 = ?b223) → PySem.Stmt) ?h223; (case h223 => conv => (lhs; whnf)); (case f223 => exact fun _ => ?b223)) ::
  (by refine (?f224 : (kxSt 60 = ?b224) → PySem.Stmt) ?h224; (case h224 => conv => (lhs; whnf)); (case f224 => exact fun _ => ?b224)) ::
  (by refine (?f225 : (kxSt 61 = ?b225) → PySem.Stmt) ?h225; (case h225 => conv => (lhs; whnf)); (case f225 => exact fun _ => ?b225)) ::
  (by refine (?f226 : (kxSt 62 = ?b226) → PySem.Stmt) ?h226; (case h226 => conv => (lhs; whnf)); (case f226 => exact fun _ => ?b226)) ::
  [] } }
end Mine
theorem Mine.fillT : PySem.Challenge.rw_nt0411_01 = PySem.Challenge.rw_nt0411_01 ∧ Mine.hpK = Mine.hpK := by
  k_fill
  exact ⟨rfl, rfl⟩
/- the frame of every contract -/
namespace Mine
noncomputable abbrev prg : Program := PySem.Challenge.rw_nt0411_01.row.prog
noncomputable abbrev LS : List Str := [Str.ofString "BLANKS", Str.ofString "LINE_ENDS", Str.ofString "LETTERS", Str.ofString "PARTS", Str.ofString "SIGN_BIT", Str.ofString "HIDDEN_BIT", Str.ofString "INF", Str.ofString "SINGLE", Str.ofString "KEYWORDS", Str.ofString "PUNCTS"]
noncomputable abbrev Led := List (Addr × Obj)

/-- a tree hands back, from the ledger news, a value and a ledger that Post tells of; d frames deep at most -/
noncomputable def Spec (w : World) (mg mb : Str → Option Value) (mean : ExcName → Option Value) (d : Nat) (c : Sem Value) (news : Led) (Post : Value → Led → Prop) : Prop :=
  ∀ (dp un : Nat) (gd : Option (List Code)) (cn : Str) (cs : Scope) (a : Addr) (ccd : Value) (cl : List (Str × Addr)) (outer : List Env) (A₀ : Around) (base h₀ : Heap) (L : Addr) (m : Str → Option Value) (s : Shared) (Q E : Value → Shared → Prop),
    Below A₀ base outer h₀ → Fr h₀ L s.heap m → (hpK w.params).In h₀ → News h₀ L s.heap news → Top hpV (looseW hpV LS) mean mg mb h₀ → cs.kind = .function → dp + d < 900 → un + 8 * d < 9000 →
    (∀ v news' h' tk', Post v news' → Fr h₀ L h' m → News h₀ L h' news' → Q v { s with heap := h', toks := tk' }) →
    wpAny (model prg w) (ktrTop dp un gd cn cs L a ccd cl outer) c Q E s

section
variable {w : World} {mg mb : Str → Option Value} {mean : ExcName → Option Value} {d : Nat} {c : Sem Value} {news : Led} {Post : Value → Led → Prop} {dp un : Nat} {gd : Option (List Code)} {cn : Str} {cs : Scope} {a : Addr} {ccd : Value} {cl : List (Str × Addr)} {outer : List Env} {A₀ : Around} {base h₀ : Heap} {L : Addr} {m : Str → Option Value} {s : Shared} {Q E : Value → Shared → Prop}
theorem Spec.use (S : Spec w mg mb mean d c news Post) (B : Below A₀ base outer h₀) (F : Fr h₀ L s.heap m) (X : (hpK w.params).In h₀) (N : News h₀ L s.heap news) (T : Top hpV (looseW hpV LS) mean mg mb h₀) (hk : cs.kind = .function) (hd : dp + d < 900) (hu : un + 8 * d < 9000)
    (ret : ∀ v news' h' tk', Post v news' → Fr h₀ L h' m → News h₀ L h' news' → Q v { s with heap := h', toks := tk' }) :
    wpAny (model prg w) (ktrTop dp un gd cn cs L a ccd cl outer) c Q E s := S _ _ _ _ _ _ _ _ _ _ _ _ _ _ _ _ _ B F X N T hk hd hu ret
/-- the ledger stays, the value is told by P -/
theorem Spec.mono {Post' : Value → Led → Prop} (S : Spec w mg mb mean d c news Post) (h : ∀ v n, Post v n → Post' v n) : Spec w mg mb mean d c news Post' :=
  fun _ _ _ _ _ _ _ _ _ _ _ _ _ _ _ _ _ B F X N T hk hd hu ret => S _ _ _ _ _ _ _ _ _ _ _ _ _ _ _ _ _ B F X N T hk hd hu fun v n h' t' p => ret v n h' t' (h v n p)
end

theorem news_sub {h₀ h : Heap} {L : Addr} {l l' : Led} (N : News h₀ L h l) (hs : ∀ p ∈ l', p ∈ l) : News h₀ L h l' := fun p hp => N p (hs p hp)

theorem news_tl {h₀ h : Heap} {L : Addr} {p : Addr × Obj} {l : Led} (N : News h₀ L h (p :: l)) : News h₀ L h l := fun q hq => N q (.tail _ hq)
section
variable {w : World} {mg mb : Str → Option Value} {mean : ExcName → Option Value} {d : Nat} {c : Sem Value} {news : Led} {dp un : Nat} {gd : Option (List Code)} {cn : Str} {cs : Scope} {a : Addr} {ccd : Value} {cl : List (Str × Addr)} {outer : List Env} {A₀ : Around} {base h₀ : Heap} {L : Addr} {m : Str → Option Value} {s : Shared} {Q E : Value → Shared → Prop} (N : News h₀ L s.heap news) (B : Below A₀ base outer h₀) (F : Fr h₀ L s.heap m) (X : (hpK w.params).In h₀) (T : Top hpV (looseW hpV LS) mean mg mb h₀) (hk : cs.kind = .function)
include N B F X T hk
end
/-- how a body ends: by a value and a ledger that Post tells of -/
noncomputable def Back (s : Shared) (g : Heap) (L : Addr) (Post : Value → Led → Prop) (fl : Flow) (s' : Shared) : Prop :=
  ∃ h' tk m' news', s' = { s with heap := h', toks := tk } ∧ Fr g L h' m' ∧ News g L h' news' ∧ Post (match fl with | .ret v => v | _ => .none) news'
theorem back_sub {s : Shared} {g : Heap} {L : Addr} {Post : Value → Led → Prop} {v : Value} {h' : Heap} {tk : Nat} {m' : Str → Option Value} {news' small : Led} (F : Fr g L h' m') (N : News g L h' news') (p : Post v small) (hs : ∀ p ∈ small, p ∈ news') :
    Back s g L Post (.ret v) { s with heap := h', toks := tk } := ⟨h', tk, m', small, rfl, F, news_sub N hs, p⟩
theorem back_nsub {s : Shared} {g : Heap} {L : Addr} {Post : Value → Led → Prop} {h' : Heap} {tk : Nat} {m' : Str → Option Value} {news' small : Led} (F : Fr g L h' m') (N : News g L h' news') (p : Post .none small) (hs : ∀ p ∈ small, p ∈ news') :
    Back s g L Post .next { s with heap := h', toks := tk } := ⟨h', tk, m', small, rfl, F, news_sub N hs, p⟩
theorem Spec.fn {w : World} {mg mb : Str → Option Value} {mean : ExcName → Option Value} {d : Nat} {news : Led} {Post : Value → Led → Prop} {f : Addr} {vs : List Value}
    {name qual : Str} {params : Arguments} {body : List Stmt} {scope : Scope} {dV kV doc pm cdv ct oc : Value} {an od : Option Addr} {osl : Array (Option Value)} (binds rb : List (Str × Value))
    (ho : (hpK w.params).lookup f = some ⟨oc, od, .func (fnOf name qual params body scope dV kV doc pm an cdv ct), osl⟩) (hcd : codeIn (hpK w.params) cdv qual = true)
    (hbind : bindArgs (fnOf name qual params body scope dV kV doc pm an cdv ct) ⟨vs, []⟩ = pure binds) (hrb : binds.reverse = rb)
    (hloc : (binds.all fun x => decide (scope.names.lookup x.1 = some .local)) = true) (hco : scope.isCoroutine = false) (hgen : scope.isGenerator = false) (hk : scope.kind = .function) (hcell : ∀ x ∈ scope.names, x.2 ≠ .cell)
    (H : ∀ (dp un : Nat) (gd : Option (List Code)) (outer : List Env) (A₀ : Around) (base g : Heap) (L : Addr) (s : Shared),
      Below A₀ base outer g → Fr g L s.heap (fun y => rb.lookup y) → (hpK w.params).In g → News g L s.heap news → Top hpV (looseW hpV LS) mean mg mb g → dp + d < 900 → un + 8 * d < 9000 →
      wpAny (model prg w) (ktrTop dp un gd qual scope L f cdv [] outer) (execs body (envOf qual scope L f cdv)) (Back s g L Post) (fun _ _ => False) s) :
    Spec w mg mb mean (d + 1) (call (.ref f) vs) news Post := by
  intro dp un gd cn cs a ccd cl outer A₀ base h₀ L m s Q E B F X N T hks hdp hun ret
  subst hrb
  refine wpAny_call ?_
  refine code_def (env := envX cn cs L a ccd cl) (outer := outer) B F X N T rfl rfl hks ho hcd (by show dp < 1000; omega) (BindsTo.of_eq hbind) (locs hloc) ?_ hco hgen hk hcell
  intro g L' h₁ FG F' N' B' X' T'
  refine wpAny_mono (H (dp + 1) (un + 3) gd (envX cn cs L a ccd cl :: outer) _ base g L' { s with heap := h₁, toks := s.toks + binds.length } B' F' X' N' T' (by omega) (by omega)) ?_ (fun _ _ x => x.elim)
  rintro fl s' ⟨h', tk, m', news', rfl, F2, N2, p⟩
  refine leaveK_ F2 N2 fun F3 N3 => ?_
  exact ret _ _ _ _ p F3 N3
end Mine
namespace Mine
open PySem.W PySem.Calls PyProof.V PySem.Spec
section
variable {prog : Program} {w : World} {A : Around} {E : Value → Shared → Prop} {s : Shared} {env : Env} {h₀ : Heap} {target : PySem.Expr} {body : List Stmt} {Q : Flow → Shared → Prop}
theorem unr_mono {L : Addr} {s₁ : Shared} {its : Led} {rest rest' : (Str → Option Value) → Led → Prop} {f : Flow} {s₂ : Shared} (h : UnrPostW h₀ L s₁ its rest Q f s₂) (hr : ∀ m n, rest m n → rest' m n) : UnrPostW h₀ L s₁ its rest' Q f s₂ := by
  cases f with
  | ret v => exact h
  | brk => exact h
  | next => obtain ⟨h', tk, m', n', e, F, N, o, r⟩ := h; exact ⟨h', tk, m', n', e, F, N, o, hr _ _ r⟩
  | cont => obtain ⟨h', tk, m', n', e, F, N, o, r⟩ := h; exact ⟨h', tk, m', n', e, F, N, o, hr _ _ r⟩
theorem items_rest {ws : List (Addr × String)} {keep : Led} {xs : List Itm} (J : Nat → (Str → Option Value) → Led → Prop)
    (turn : ∀ i a v m₁ nx h tk, xs[i]? = some a → a.Is v h → J i m₁ nx → Fr h₀ env.locals h m₁ → ∀ its, Objs ws its → News h₀ env.locals h (its ++ nx) →
      wpAny (model prog w) A (assign target env v) (fun _ s₂ => wpAny (model prog w) A (execs body env) (UnrPostW h₀ env.locals { s with heap := h, toks := tk } its (fun m' n' => SubL keep n' ∧ J (i + 1) m' n') Q) E s₂) E { s with heap := h, toks := tk })
    (done : ∀ m₁ nx h tk, J xs.length m₁ nx → Fr h₀ env.locals h m₁ → News h₀ env.locals h nx → Q .next { s with heap := h, toks := tk }) :
    ∀ (r : List Itm) (i : Nat) (m : Str → Option Value) (nx : Led), xs.drop i = r → i ≤ xs.length → J i m nx → ItemsRest prog w A E h₀ env target body Q s ws keep r m nx
  | [], i, m, nx, e, hi, j => by
    have : xs.length ≤ i := by simpa using e
    have e2 : i = xs.length := by omega
    subst e2
    exact ItemsRest.zero fun h tk F N => done m nx h tk j F N
  | a :: r, i, m, nx, e, hi, j => by
    have hlt : i < xs.length := by
      rcases Nat.lt_or_ge i xs.length with h | h
      · exact h
      · rw [List.drop_eq_nil_of_le h] at e; cases e
    have e3 := List.drop_eq_getElem_cons hlt
    rw [e] at e3
    obtain ⟨e4, e5⟩ := List.cons.inj e3
    intro v h tk hv F
    have key : ∀ its, Objs ws its → News h₀ env.locals h (its ++ nx) → wpAny (model prog w) A (assign target env v) (fun _ s₂ => wpAny (model prog w) A (execs body env) (UnrPostW h₀ env.locals { s with heap := h, toks := tk } its (fun m' n' => SubL keep n' ∧ ItemsRest prog w A E h₀ env target body Q s ws keep r m' n') Q) E s₂) E { s with heap := h, toks := tk } := by
      intro its hi' N
      refine wpAny_mono (turn i a v m nx h tk (by rw [List.getElem?_eq_getElem hlt, e4]) hv j F its hi' N) (fun _ s₂ h₂ => wpAny_mono h₂ (fun f s₃ h₃ => ?_) fun _ _ x => x) fun _ _ x => x
      exact unr_mono h₃ fun m' n' q => ⟨q.1, items_rest J turn done r (i + 1) m' n' e5.symm hlt q.2⟩
    have all : ∀ (ws' : List (Addr × String)) (k : Led → Prop), (∀ its, Objs ws' its → k its) → AllObj ws' k := by
      intro ws'
      induction ws' with
      | nil => intro k hk; exact hk [] trivial
      | cons w r ih => intro k hk o ho; exact ih _ fun its hi' => hk _ ⟨⟨rfl, ho⟩, hi'⟩
    exact all _ _ key

theorem for_K {ax : Addr} {vs : List Value} {m₀ : Str → Option Value} {news : Led} (J : Nat → (Str → Option Value) → Led → Prop)
    (hh : A.handled = none) (F : Fr h₀ env.locals s.heap m₀) (N : News h₀ env.locals s.heap news) (hl : h₀.IsList ax vs.toArray) (j0 : J 0 m₀ news)
    (turn : ∀ I o i v m₁ nx h tk, (∀ p ∈ news, p.1 < I) → vs[i]? = some v → J i m₁ nx → Fr h₀ env.locals h m₁ → News h₀ env.locals h ((I, o) :: nx) →
      wpAny (model prog w) A (assign target env v) (fun _ s₂ => wpAny (model prog w) A (execs body env) (UnrPostW h₀ env.locals { s with heap := h, toks := tk } [(I, o)] (J (i + 1)) Q) E s₂) E { s with heap := h, toks := tk })
    (done : ∀ m₁ nx h tk, J vs.length m₁ nx → Fr h₀ env.locals h m₁ → News h₀ env.locals h nx → Q .next { s with heap := h, toks := tk }) :
    wpAny (model prog w) A (pyIter (.ref ax)) (fun it s₂ => TurnsAt prog w A h₀ env target body Q E it s₂) E s := by
  obtain ⟨lo, hg, hc, n, hd⟩ := hl
  have hax : s.heap.get? ax = some lo := F.keep _ _ hg
  have hl : s.heap.IsList ax vs.toArray := ⟨lo, hax, hc, n, hd⟩
  have hlt : ax < s.heap.objs.size := Heap.lt_size hax
  have hne : ax ≠ s.heap.objs.size := Nat.ne_of_lt hlt
  have hnewsI : ∀ p ∈ news, p.1 < s.heap.objs.size := fun p hp => Heap.lt_size (N p hp).1
  have rest : ItemsRest prog w A E h₀ env target body Q s [(s.heap.objs.size, "list_iterator")] [] (vs.map .val) m₀ news := by
    refine items_rest (J := J) ?_ ?_ _ 0 m₀ news rfl (Nat.zero_le _) j0
    · intro i a v m₁ nx h tk ha hav j F₁ its hi N₁
      rw [List.getElem?_map] at ha
      cases hv : vs[i]? with
      | none => rw [hv] at ha; cases ha
      | some x =>
        rw [hv] at ha
        have ha' : Itm.val x = a := Option.some.inj ha
        subst ha'
        have hav' : v = x := hav
        subst hav'
        match its, hi with
        | [p], hi =>
          obtain ⟨I', o⟩ := p
          have : I' = s.heap.objs.size := hi.1.1
          subst this
          refine wpAny_mono (turn _ o i v m₁ nx h tk hnewsI hv j F₁ N₁) (fun _ s₂ h₂ => wpAny_mono h₂ (fun f s₃ h₃ => ?_) fun _ _ x => x) fun _ _ x => x
          exact unr_mono h₃ fun _ _ q => ⟨trivial, q⟩
        | [], hi => exact hi.elim
        | _ :: _ :: _, hi => exact hi.2.elim
    · intro m₁ nx h tk j; rw [List.length_map] at j; exact done m₁ nx h tk j
  refine wpAny_pyIter_list hl ?_
  refine ktg_core (tk0 := s.toks) (keep := []) (KTurns.ofWalks (Walks.list hh s.heap.objs.size ax hne vs.toArray) fun i v s Q E st q => letGo_listiter st.1 q) (by simp) (fun i v h hp => ⟨.val v, ?_, rfl⟩) (fun i h st => ?_) (fun b hb => ?_) (fun b hb => by simpa using hb) (fun b hb => ?_) ?_ (fun p hp hI => ?_) ?_ (F.push _) (fun p hp => ⟨Heap.get?_push_of_some _ (N p hp).1, (N p hp).2⟩) trivial rest
  · have hp' : vs.toArray[i]? = some v := hp
    simpa using hp'
  · obtain ⟨it, hit, hic, _⟩ := st.1
    exact ⟨[(s.heap.objs.size, it)], ⟨⟨rfl, hic⟩, trivial⟩, fun p hp => by rw [List.mem_singleton.mp hp]; exact hit⟩
  · have hb' : b = s.heap.objs.size := by simpa using hb
    rw [hb']
    exact ⟨List.mem_cons_self .., next_is_new F⟩
  · have hb' : b = s.heap.objs.size ∨ b = ax := by simpa using hb
    rcases hb' with e | e
    · exact .inl (by simp [e])
    · exact .inr (.inr ⟨lo, by rw [e]; exact hg⟩)
  · intro hI
    rcases List.mem_cons.mp hI with e | hI
    · exact absurd F.ns.lt (e ▸ Nat.lt_irrefl _)
    · have e : env.locals = ax := List.mem_singleton.mp hI
      exact absurd (Heap.lt_size hg) (Nat.not_lt.mpr (e ▸ F.above))
  · exact absurd (Heap.lt_size (N p hp).1) ((List.mem_singleton.mp hI) ▸ Nat.lt_irrefl _)
  · exact ⟨⟨_, Heap.get?_push_size _ rfl, rfl, rfl⟩, hl.at fun o e => Heap.get?_push_of_some _ e⟩

theorem for_L {ax : Addr} {lo : Obj} {vs : List Value} {n : Nat} {m₀ : Str → Option Value} {news : Led} (J : Nat → (Str → Option Value) → Led → Prop)
    (hh : A.handled = none) (F : Fr h₀ env.locals s.heap m₀) (N : News h₀ env.locals s.heap news) (hm : (ax, lo) ∈ news) (hc : lo.cls = .type "list") (hd : lo.data = .seq vs.toArray n) (j0 : J 0 m₀ news) (jm : ∀ i m nx, J i m nx → (ax, lo) ∈ nx)
    (turn : ∀ I o i v m₁ nx h tk, (∀ p ∈ news, p.1 < I) → vs[i]? = some v → J i m₁ nx → Fr h₀ env.locals h m₁ → News h₀ env.locals h ((I, o) :: nx) →
      wpAny (model prog w) A (assign target env v) (fun _ s₂ => wpAny (model prog w) A (execs body env) (UnrPostW h₀ env.locals { s with heap := h, toks := tk } [(I, o)] (J (i + 1)) Q) E s₂) E { s with heap := h, toks := tk })
    (done : ∀ m₁ nx h tk, J vs.length m₁ nx → Fr h₀ env.locals h m₁ → News h₀ env.locals h nx → Q .next { s with heap := h, toks := tk }) :
    wpAny (model prog w) A (pyIter (.ref ax)) (fun it s₂ => TurnsAt prog w A h₀ env target body Q E it s₂) E s := by
  refine iter_listTurns hh F N hm hc hd fun I hI => ?_
  refine items_rest (J := J) ?_ ?_ _ 0 m₀ news rfl (Nat.zero_le _) j0
  · intro i a v m₁ nx h tk ha hav j F₁ its hi N₁
    rw [List.getElem?_map] at ha
    cases hv : vs[i]? with
    | none => rw [hv] at ha; cases ha
    | some x =>
      rw [hv] at ha
      have ha' : Itm.val x = a := Option.some.inj ha
      subst ha'
      have hav' : v = x := hav
      subst hav'
      match its, hi with
      | [p], hi =>
        obtain ⟨I', o⟩ := p
        have : I' = I := hi.1.1
        subst this
        refine wpAny_mono (turn _ o i v m₁ nx h tk hI hv j F₁ N₁) (fun _ s₂ h₂ => wpAny_mono h₂ (fun f s₃ h₃ => ?_) fun _ _ x => x) fun _ _ x => x
        exact unr_mono h₃ fun m' n' q => ⟨⟨jm _ _ _ q, trivial⟩, q⟩
      | [], hi => exact hi.elim
      | _ :: _ :: _, hi => exact hi.2.elim
  · intro m₁ nx h tk j; rw [List.length_map] at j; exact done m₁ nx h tk j

theorem for_R {x : Str} {px : Pos} {r : Addr} {a₀ b₀ : Int} {t₀ u₀ v₀ : Tok} {n : Nat} {m₀ : Str → Option Value} {news : Led} (J : Nat → (Str → Option Value) → Led → Prop)
    (hh : A.handled = none) (hr : IsRange s.heap r a₀ b₀ 1 t₀ u₀ v₀) (hsmall : Builtin.Range.small a₀ b₀ 1 = true) (hn : Builtin.Range.rangeSize a₀ b₀ 1 = (n : Int)) (F : Fr h₀ env.locals s.heap m₀) (N : News h₀ env.locals s.heap news) (j0 : J 0 m₀ news)
    (turn : ∀ I o i t m₁ nx h tk, (∀ p ∈ news, p.1 < I) → i < n → J i m₁ nx → Fr h₀ env.locals h m₁ → News h₀ env.locals h ((I, o) :: nx) →
      wpAny (model prog w) A (assign (.Name x px) env (.int (a₀ + (i : Int)) t)) (fun _ s₂ => wpAny (model prog w) A (execs body env) (UnrPostW h₀ env.locals { s with heap := h, toks := tk } [(I, o)] (J (i + 1)) Q) E s₂) E { s with heap := h, toks := tk })
    (done : ∀ m₁ nx h tk, J n m₁ nx → Fr h₀ env.locals h m₁ → News h₀ env.locals h nx → Q .next { s with heap := h, toks := tk }) :
    wpAny (model prog w) A (pyIter (.ref r)) (fun it s₂ => TurnsAt prog w A h₀ env (.Name x px) body Q E it s₂) E s := by
  refine wpAny_pyIter_range hr hsmall ?_
  have W : Walks prog w A s.heap.objs.size [s.heap.objs.size] [s.heap.objs.size] n (fun i v => i < n ∧ ∃ t, v = .int (a₀ + i * 1) t)
      (fun i h => IsRangeIter h s.heap.objs.size (a₀ + (i : Nat) * 1) ((n : Int) - (i : Nat)) 1) := (Walks.range hh _ a₀ 1 n).bound
  have hnewsI : ∀ p ∈ news, p.1 < s.heap.objs.size := fun p hp => Heap.lt_size (N p hp).1
  let xs : List Itm := (List.range n).map fun (i : Nat) => Itm.tok fun t => .int (a₀ + (i : Int)) t
  have hxl : xs.length = n := by simp [xs]
  have rest : ItemsRest prog w A E h₀ env (.Name x px) body Q s [(s.heap.objs.size, "range_iterator")] [] xs m₀ news := by
    refine items_rest (J := J) ?_ ?_ _ 0 m₀ news rfl (Nat.zero_le _) j0
    · intro i a v m₁ nx h tk ha hav j F₁ its hi N₁
      have hi' : i < n := by
        rcases Nat.lt_or_ge i n with h | h
        · exact h
        · rw [List.getElem?_eq_none (by rw [hxl]; exact h)] at ha; cases ha
      have ha' : a = Itm.tok fun t => .int (a₀ + (i : Int)) t := by
        have : xs[i]? = some (Itm.tok fun t => .int (a₀ + (i : Int)) t) := by simp [xs, hi']
        rw [this] at ha; exact (Option.some.inj ha).symm
      subst ha'
      obtain ⟨t, rfl⟩ := hav
      match its, hi with
      | [p], hi =>
        obtain ⟨I', o⟩ := p
        have : I' = s.heap.objs.size := hi.1.1
        subst this
        refine wpAny_mono (turn _ o i t m₁ nx h tk hnewsI hi' j F₁ N₁) (fun _ s₂ h₂ => wpAny_mono h₂ (fun f s₃ h₃ => ?_) fun _ _ x => x) fun _ _ x => x
        exact unr_mono h₃ fun _ _ q => ⟨trivial, q⟩
      | [], hi => exact hi.elim
      | _ :: _ :: _, hi => exact hi.2.elim
    · intro m₁ nx h tk j; rw [hxl] at j; exact done m₁ nx h tk j
  refine ktu_core (tk0 := s.toks) (keep := []) (xs := xs) (KTurns.ofWalks W fun i v s Q E st q => wpAny_pure q) hxl.symm (fun i v h hp => ?_) (fun i h st => ?_) (fun b hb => ?_) (fun b hb => by simpa using hb) (fun b hb => ?_) ?_ (fun p hp hI => ?_) ?_ (F.push _) (fun p hp => ⟨Heap.get?_push_of_some _ (N p hp).1, (N p hp).2⟩) trivial rest
  · obtain ⟨hi, t, rfl⟩ := hp
    refine ⟨Itm.tok fun t => .int (a₀ + (i : Int)) t, by simp [xs, hi], t, ?_⟩
    rw [Int.mul_one]
  · exact ⟨[(s.heap.objs.size, _)], ⟨⟨rfl, rfl⟩, trivial⟩, fun p hp => by rw [List.mem_singleton.mp hp]; exact st⟩
  · have hb' : b = s.heap.objs.size := by simpa using hb
    rw [hb']
    exact ⟨List.mem_cons_self .., next_is_new F⟩
  · have hb' : b = s.heap.objs.size := by simpa using hb
    exact .inl (by simp [hb'])
  · intro hI
    exact absurd F.ns.lt ((List.mem_singleton.mp hI) ▸ Nat.lt_irrefl _)
  · exact absurd (Heap.lt_size (N p hp).1) ((List.mem_singleton.mp hI) ▸ Nat.lt_irrefl _)
  · show IsRangeIter _ _ _ _ _
    rw [hn]
    simpa using Heap.get?_push_size _ rfl

end
end Mine
namespace Mine
open PySem.W PySem.Calls PyProof.V PySem.Spec
section
variable {prog : Program} {w : World} {A : Around} {E : Value → Shared → Prop} {s : Shared} {env : Env} {h₀ : Heap} {target : PySem.Expr} {body : List Stmt} {Q : Flow → Shared → Prop}
theorem for_RI {x : Str} {px : Pos} {r : Addr} {a₀ b₀ : Int} {t₀ u₀ v₀ : Tok} {n : Nat} {m₀ : Str → Option Value} {news : Led} (J : Nat → (Str → Option Value) → Led → Prop)
    (hh : A.handled = none) (hr : IsRange s.heap r a₀ b₀ 1 t₀ u₀ v₀) (hsmall : Builtin.Range.small a₀ b₀ 1 = true) (hn : Builtin.Range.rangeSize a₀ b₀ 1 = (n : Int)) (F : Fr h₀ env.locals s.heap m₀) (N : News h₀ env.locals s.heap news) (j0 : J 0 m₀ news)
    (turn : ∀ o i t m₁ nx h tk, i < n → J i m₁ nx → Fr h₀ env.locals h m₁ → News h₀ env.locals h ((s.heap.objs.size, o) :: nx) →
      wpAny (model prog w) A (assign (.Name x px) env (.int (a₀ + (i : Int)) t)) (fun _ s₂ => wpAny (model prog w) A (execs body env) (UnrPostW h₀ env.locals { s with heap := h, toks := tk } [(s.heap.objs.size, o)] (J (i + 1)) Q) E s₂) E { s with heap := h, toks := tk })
    (done : ∀ m₁ nx h tk, J n m₁ nx → Fr h₀ env.locals h m₁ → News h₀ env.locals h nx → Q .next { s with heap := h, toks := tk }) :
    wpAny (model prog w) A (pyIter (.ref r)) (fun it s₂ => TurnsAt prog w A h₀ env (.Name x px) body Q E it s₂) E s := by
  refine wpAny_pyIter_range hr hsmall ?_
  have W : Walks prog w A s.heap.objs.size [s.heap.objs.size] [s.heap.objs.size] n (fun i v => i < n ∧ ∃ t, v = .int (a₀ + i * 1) t)
      (fun i h => IsRangeIter h s.heap.objs.size (a₀ + (i : Nat) * 1) ((n : Int) - (i : Nat)) 1) := (Walks.range hh _ a₀ 1 n).bound
  have hnewsI : ∀ p ∈ news, p.1 < s.heap.objs.size := fun p hp => Heap.lt_size (N p hp).1
  let xs : List Itm := (List.range n).map fun (i : Nat) => Itm.tok fun t => .int (a₀ + (i : Int)) t
  have hxl : xs.length = n := by simp [xs]
  have rest : ItemsRest prog w A E h₀ env (.Name x px) body Q s [(s.heap.objs.size, "range_iterator")] [] xs m₀ news := by
    refine items_rest (J := J) ?_ ?_ _ 0 m₀ news rfl (Nat.zero_le _) j0
    · intro i a v m₁ nx h tk ha hav j F₁ its hi N₁
      have hi' : i < n := by
        rcases Nat.lt_or_ge i n with h | h
        · exact h
        · rw [List.getElem?_eq_none (by rw [hxl]; exact h)] at ha; cases ha
      have ha' : a = Itm.tok fun t => .int (a₀ + (i : Int)) t := by
        have : xs[i]? = some (Itm.tok fun t => .int (a₀ + (i : Int)) t) := by simp [xs, hi']
        rw [this] at ha; exact (Option.some.inj ha).symm
      subst ha'
      obtain ⟨t, rfl⟩ := hav
      match its, hi with
      | [p], hi =>
        obtain ⟨I', o⟩ := p
        have : I' = s.heap.objs.size := hi.1.1
        subst this
        refine wpAny_mono (turn o i t m₁ nx h tk hi' j F₁ N₁) (fun _ s₂ h₂ => wpAny_mono h₂ (fun f s₃ h₃ => ?_) fun _ _ x => x) fun _ _ x => x
        exact unr_mono h₃ fun _ _ q => ⟨trivial, q⟩
      | [], hi => exact hi.elim
      | _ :: _ :: _, hi => exact hi.2.elim
    · intro m₁ nx h tk j; rw [hxl] at j; exact done m₁ nx h tk j
  refine ktu_core (tk0 := s.toks) (keep := []) (xs := xs) (KTurns.ofWalks W fun i v s Q E st q => wpAny_pure q) hxl.symm (fun i v h hp => ?_) (fun i h st => ?_) (fun b hb => ?_) (fun b hb => by simpa using hb) (fun b hb => ?_) ?_ (fun p hp hI => ?_) ?_ (F.push _) (fun p hp => ⟨Heap.get?_push_of_some _ (N p hp).1, (N p hp).2⟩) trivial rest
  · obtain ⟨hi, t, rfl⟩ := hp
    refine ⟨Itm.tok fun t => .int (a₀ + (i : Int)) t, by simp [xs, hi], t, ?_⟩
    rw [Int.mul_one]
  · exact ⟨[(s.heap.objs.size, _)], ⟨⟨rfl, rfl⟩, trivial⟩, fun p hp => by rw [List.mem_singleton.mp hp]; exact st⟩
  · have hb' : b = s.heap.objs.size := by simpa using hb
    rw [hb']
    exact ⟨List.mem_cons_self .., next_is_new F⟩
  · have hb' : b = s.heap.objs.size := by simpa using hb
    exact .inl (by simp [hb'])
  · intro hI
    exact absurd F.ns.lt ((List.mem_singleton.mp hI) ▸ Nat.lt_irrefl _)
  · exact absurd (Heap.lt_size (N p hp).1) ((List.mem_singleton.mp hI) ▸ Nat.lt_irrefl _)
  · show IsRangeIter _ _ _ _ _
    rw [hn]
    simpa using Heap.get?_push_size _ rfl

end
end Mine
namespace Mine
theorem mint {x y : Int} {t : Tok} (h : x = y) : ∃ t', Value.int x t = .int y t' := ⟨t, h ▸ rfl⟩
theorem mstr {x y : Str} {t : Tok} (h : x = y) : ∃ t', Value.str x t = .str y t' := ⟨t, h ▸ rfl⟩
theorem mbool {x y : Bool} (h : x = y) : Value.bool x = .bool y := h ▸ rfl
noncomputable def isDigit (c : Int) : Bool := decide (48 ≤ c) && decide (c ≤ 57)
noncomputable def isOctal (c : Int) : Bool := decide (48 ≤ c) && decide (c ≤ 55)
noncomputable def hexVal (c : Int) : Int := if 48 ≤ c ∧ c ≤ 57 then c - 48 else if 65 ≤ c ∧ c ≤ 70 then c - 55 else if 97 ≤ c ∧ c ≤ 102 then c - 87 else -1
noncomputable def codeAt (T : Str) (i : Int) : Int := if i < T.length then (T.cps.getD i.toNat 0 : Nat) else -1
theorem item_getD {T : Str} {i : Int} (h0 : 0 ≤ i) (h1 : i < T.length) : ((Txt.item T i).cps.getD 0 0 : Nat) = (T.cps.getD i.toNat 0 : Nat) := by
  have e : (Txt.item T i).cps = #[T.cps.getD i.toNat 0] := by
    have e2 : Txt.charAt T i = some (T.cps.getD i.toNat 0) := by
      have h2 : i.toNat < T.cps.size := by have : T.length = T.cps.size := rfl; omega
      have h3 : ¬ i < 0 := by omega
      have h4 : T.length = T.cps.size := rfl
      simp only [Txt.charAt, seqIndex?, if_neg h3]
      rw [if_pos (by simp only [Bool.and_eq_true, decide_eq_true_eq]; omega)]
      simp [Array.getD, h2]
    unfold Txt.item
    rw [e2]; rfl
  rw [e]; rfl
section
variable {w : World} {mg mb : Str → Option Value} {mean : ExcName → Option Value} {news : Led}
noncomputable def BLANKS : List Int := [9, 11, 12, 32, 160, 5760, 6158, 8239, 8287, 12288, 65279]
noncomputable def isLineEnd (c : Int) : Bool := [10, 13, 8232, 8233].contains c
noncomputable def isWhite (c : Int) : Bool := BLANKS.contains c || (decide (8192 ≤ c) && decide (c ≤ 8202))
noncomputable def LETTERS : List (Int × Int) := [(170, 170), (181, 181), (186, 186), (192, 214), (216, 246), (248, 705), (880, 883), (886, 887), (891, 893), (902, 902), (904, 906), (908, 908), (910, 929), (931, 1013), (1015, 1153), (1162, 1315), (1329, 1366), (1377, 1415), (1488, 1514), (1569, 1594), (1601, 1610), (2308, 2361), (4256, 4293), (4304, 4346), (7680, 7835), (7840, 7929), (8544, 8578), (12353, 12438), (12449, 12538), (12549, 12588), (19968, 40891), (44032, 55203)]
noncomputable def PARTS : List (Int × Int) := [(768, 879), (1632, 1641), (2406, 2415), (8204, 8205), (8255, 8256), (8276, 8276)]
noncomputable def isAmong (c : Int) (rs : List (Int × Int)) : Bool := rs.any fun r => decide (r.1 ≤ c) && decide (c ≤ r.2)
noncomputable def RItems (h : Heap) : List Value → List (Int × Int) → Prop
  | [], [] => True
  | v :: vs, r :: rs => (∃ (T : Addr) (ta tb : Tok), v = Value.ref T ∧ h.IsTuple T #[Value.int r.1 ta, Value.int r.2 tb]) ∧ RItems h vs rs
  | _, _ => False
theorem RItems.at {h : Heap} : ∀ {vs : List Value} {rs : List (Int × Int)}, RItems h vs rs → vs.length = rs.length ∧ ∀ (i : Nat) (v : Value), vs[i]? = some v → ∃ (T : Addr) (a b : Int) (ta tb : Tok), v = Value.ref T ∧ rs[i]? = some (a, b) ∧ h.IsTuple T #[Value.int a ta, Value.int b tb]
  | [], [], _ => ⟨rfl, fun i v h => by simp at h⟩
  | v :: vs, r :: rs, H => by
    obtain ⟨h1, h2⟩ := RItems.at H.2
    refine ⟨by simp [h1], ?_⟩
    intro i u hu
    cases i with
    | zero =>
      obtain ⟨T, ta, tb, e, t⟩ := H.1
      simp only [List.getElem?_cons_zero, Option.some.injEq] at hu
      exact ⟨T, r.1, r.2, ta, tb, by rw [← hu, e], by simp, t⟩
    | succ i =>
      simp only [List.getElem?_cons_succ] at hu ⊢
      exact h2 i u hu
  | [], _ :: _, H => H.elim
  | _ :: _, [], H => H.elim
noncomputable def RangesAt (h : Heap) (ax : Addr) (rs : List (Int × Int)) : Prop := ∃ vs : List Value, h.IsList ax vs.toArray ∧ RItems h vs rs
theorem parts_at {P : Params} {h : Heap} (X : (Mine.hpK P).In h) : RangesAt h 56 PARTS := by
  refine ⟨_, ⟨_, X 56 _ (by k_is), rfl, _, rfl⟩, ?_⟩
  repeat (first | exact True.intro | refine ⟨⟨_, _, _, rfl, ⟨_, X _ _ (by k_is), rfl, _, rfl⟩⟩, ?_⟩)
theorem letters_at {P : Params} {h : Heap} (X : (Mine.hpK P).In h) : RangesAt h 49 LETTERS := by
  refine ⟨_, ⟨_, X 49 _ (by k_is), rfl, _, rfl⟩, ?_⟩
  repeat (first | exact True.intro | refine ⟨⟨_, _, _, rfl, ⟨_, X _ _ (by k_is), rfl, _, rfl⟩⟩, ?_⟩)
noncomputable def isIdStart (c : Int) : Bool := if c < 128 then (decide (65 ≤ c) && decide (c ≤ 90)) || (decide (97 ≤ c) && decide (c ≤ 122)) || decide (c = 36) || decide (c = 95) else isAmong c LETTERS
noncomputable def isIdPart (c : Int) : Bool := isIdStart c || isDigit c || (decide (127 < c) && isAmong c PARTS)
end
end Mine
namespace Mine
open PySem.Calls
structure LexId where
  x : Addr
  dx : Addr
  h1 : Int
  h2 : Int
  h3 : Int
  k1 : Tok
  k2 : Tok
  k3 : Tok
  tT : Tok
  T : Str
noncomputable abbrev lexL (I : LexId) (pos ln : Int) (ta tl : Tok) (rest : Led) : Led :=
  (I.x, instObj 418 I.dx) :: (I.dx, dictOf [⟨I.h1, .str (Str.ofString "text") I.k1, .str I.T I.tT⟩, ⟨I.h2, .str (Str.ofString "at") I.k2, .int pos ta⟩, ⟨I.h3, .str (Str.ofString "line") I.k3, .int ln tl⟩] 3) :: rest
noncomputable abbrev lexD (I : LexId) (pos ln : Int) (ta tl : Tok) : Obj := dictOf [⟨I.h1, .str (Str.ofString "text") I.k1, .str I.T I.tT⟩, ⟨I.h2, .str (Str.ofString "at") I.k2, .int pos ta⟩, ⟨I.h3, .str (Str.ofString "line") I.k3, .int ln tl⟩] 3
end Mine
namespace Mine
noncomputable def suf (T : Str) (i : Int) : List Nat := T.cps.toList.drop i.toNat
noncomputable def hd1 : List Nat → Int
  | [] => -1
  | c :: _ => c
theorem codeAt_suf {T : Str} {i : Int} (h : 0 ≤ i) : codeAt T i = hd1 (suf T i) := by
  unfold codeAt suf
  have hl : T.length = T.cps.toList.length := by show T.cps.size = _; simp
  by_cases h2 : i < T.length
  · rw [if_pos h2]
    have h3 : i.toNat < T.cps.toList.length := by omega
    rw [List.drop_eq_getElem_cons h3]
    show _ = ((T.cps.toList[i.toNat] : Nat) : Int)
    have h4 : i.toNat < T.cps.size := by simpa using h3
    simp [Array.getD, h4]
  · rw [if_neg h2, List.drop_eq_nil_of_le (by omega)]
    rfl
theorem suf_succ {T : Str} {i : Int} (h : 0 ≤ i) : suf T (i + 1) = (suf T i).tail := by
  unfold suf
  have : (i + 1).toNat = i.toNat + 1 := by omega
  rw [this, List.tail_drop]
theorem suf_add {T : Str} {i : Int} (h : 0 ≤ i) (k : Nat) : suf T (i + k) = (suf T i).drop k := by
  unfold suf
  have : (i + k).toNat = i.toNat + k := by omega
  rw [this, List.drop_drop]
theorem suf_length {T : Str} {i : Int} (h : 0 ≤ i) : (suf T i).length = T.length - i.toNat := by
  unfold suf
  rw [List.length_drop]; rfl
noncomputable def lineEndSize (T : Str) (i : Int) : Int := if codeAt T i = 13 ∧ codeAt T (i + 1) = 10 then 2 else 1
theorem slice_suf {T : Str} {i j : Int} (h0 : 0 ≤ i) (h1 : i ≤ j) (h2 : j ≤ T.length) : Txt.slice T (some i) (some j) = ⟨((suf T i).take (j - i).toNat).toArray⟩ := by
  have hl : T.length = T.cps.toList.length := by show T.cps.size = _; simp
  exact StrLaws.sliceText_plain (x := T) ⟨h0, h1, by omega⟩
theorem slice_same {T : Str} {i : Int} : Txt.slice T (some i) (some i) = ⟨#[]⟩ := by
  have e : (Builtin.Str.strSliceIndices (some i) (some i) 1 T.length) = [] := by
    unfold Builtin.Str.strSliceIndices sliceRange
    simp
  unfold Txt.slice
  rw [e]
  split
  · rename_i h
    have h2 : T.cps.size = 0 := by
      have : T.length = T.cps.size := rfl
      simp at h; omega
    have h3 : T.cps = #[] := Array.eq_empty_of_size_eq_zero h2
    cases T
    simp_all
  · rfl
noncomputable def digs (l : List Nat) : Nat := (l.takeWhile fun (c : Nat) => isDigit c).length
theorem digs_yes {l : List Nat} (h : isDigit (hd1 l) = true) : digs l = digs l.tail + 1 ∧ 0 < l.length := by
  cases l with
  | nil => exact absurd h (by decide)
  | cons c r => 
    have h' : isDigit (c : Int) = true := h
    simp [digs, List.takeWhile_cons, h']
theorem digs_no {l : List Nat} (h : isDigit (hd1 l) = false) : digs l = 0 := by
  cases l with
  | nil => rfl
  | cons c r =>
    have h' : isDigit (c : Int) = false := h
    simp [digs, List.takeWhile_cons, h']
theorem take_digs (l : List Nat) : l.take (digs l) = l.takeWhile fun (c : Nat) => isDigit c := by
  induction l with
  | nil => rfl
  | cons c r ih =>
    cases h : isDigit (c : Int) with
    | true => simp [digs, h]; exact ih
    | false => simp [digs, h]
theorem slice_digs {T : Str} {i : Int} (h0 : 0 ≤ i) : Txt.slice T (some i) (some (i + digs (suf T i))) = ⟨((suf T i).takeWhile fun (c : Nat) => isDigit c).toArray⟩ := by
  rw [← take_digs]
  have hle : digs (suf T i) ≤ (suf T i).length := (List.takeWhile_sublist _).length_le
  rw [suf_length h0] at hle
  by_cases h : i ≤ T.length
  · rw [slice_suf h0 (by omega) (by omega)]
    congr 3
    omega
  · have e : digs (suf T i) = 0 := by omega
    rw [e]
    have e2 : i + ((0 : Nat) : Int) = i := by omega
    rw [e2, slice_same]; rfl
noncomputable def hexAt : List Nat → Nat → Int → Int
  | _, 0, v => v
  | l, n + 1, v => if hexVal (hd1 l) < 0 then -1 else hexAt l.tail n (v * 16 + hexVal (hd1 l))
theorem hexVal_bnd (c : Int) : -1 ≤ hexVal c ∧ hexVal c ≤ 15 := by
  unfold hexVal; (repeat' split) <;> omega
end Mine
namespace Mine
noncomputable def sw (p l : List Nat) : Bool := l.take p.length == p
theorem sw3 {T y : Str} {i : Int} (h0 : 0 ≤ i) (h1 : i ≤ T.length) : Txt.startswith3 T y i = sw y.cps.toList (suf T i) := by
  have hl : T.length = T.cps.toList.length := by show T.cps.size = _; simp
  have hy : y.length = y.cps.toList.length := by show y.cps.size = _; simp
  have hf : fromIndex T.length i = i.toNat := by
    unfold fromIndex
    omega
  unfold Txt.startswith3 sw suf
  rw [hf, StrLaws.subAt_eq, ← hy]
  cases hb : (List.take y.length (List.drop i.toNat T.cps.toList) == y.cps.toList) with
  | false => simp
  | true =>
    have h2 := congrArg List.length (eq_of_beq hb)
    rw [List.length_take, List.length_drop] at h2
    simp only [Bool.and_true, decide_eq_true_eq]
    omega
theorem sw2 {a b : Nat} {l : List Nat} : sw [a, b] l = (decide (hd1 l = a) && decide (hd1 l.tail = b)) := by
  match l with
  | [] => simp [sw, hd1]
  | [c] => simp [sw, hd1]
  | c :: d :: r =>
    simp only [sw, hd1, List.tail_cons, List.length_cons, List.length_nil, List.take_succ_cons, List.take_zero]
    rw [Bool.eq_iff_iff]
    simp only [beq_iff_eq, List.cons.injEq, and_true, Bool.and_eq_true, decide_eq_true_eq]
    constructor
    · rintro ⟨rfl, rfl⟩; exact ⟨decide_eq_true rfl, decide_eq_true rfl⟩
    · rintro ⟨h1, h2⟩; exact ⟨Int.ofNat.inj (of_decide_eq_true h1), Int.ofNat.inj (of_decide_eq_true h2)⟩
noncomputable def leS (l : List Nat) : Nat := if hd1 l = 13 ∧ hd1 l.tail = 10 then 2 else 1
theorem leS_suf {T : Str} {i : Int} (h : 0 ≤ i) : lineEndSize T i = leS (suf T i) := by
  unfold lineEndSize leS
  rw [codeAt_suf h, codeAt_suf (by omega), suf_succ h]
  split <;> rfl
theorem leS_le {l : List Nat} (h : isLineEnd (hd1 l) = true) : 1 ≤ leS l ∧ leS l ≤ l.length := by
  match l with
  | [] => exact absurd h (by decide)
  | [c] => simp [leS, hd1]
  | c :: d :: r => unfold leS; split <;> simp
inductive Cmt : List Nat → Nat → Nat → Prop
  | close {r} : Cmt (42 :: 47 :: r) 2 0
  | crlf {r k n} : Cmt r k n → Cmt (13 :: 10 :: r) (k + 2) (n + 1)
  | line {c r k n} : isLineEnd (c : Nat) = true → ¬ (c = 13 ∧ hd1 r = 10) → Cmt r k n → Cmt (c :: r) (k + 1) (n + 1)
  | other {c r k n} : isLineEnd (c : Nat) = false → ¬ (c = 42 ∧ hd1 r = 47) → Cmt r k n → Cmt (c :: r) (k + 1) n
theorem Cmt.sw_yes {l : List Nat} {k n : Nat} (H : Cmt l k n) (h : sw [42, 47] l = true) : k = 2 ∧ n = 0 := by
  rw [sw2] at h
  simp only [Bool.and_eq_true, decide_eq_true_eq] at h
  cases H with
  | close => exact ⟨rfl, rfl⟩
  | crlf H => exact absurd h.1 (by show ¬ ((13 : Nat) : Int) = ((42 : Nat) : Int); decide)
  | line h1 h2 H => 
    have e : _ = 42 := Int.ofNat.inj h.1
    subst e; exact absurd h1 (by decide)
  | other h1 h2 H => exact absurd ⟨Int.ofNat.inj h.1, h.2⟩ h2
theorem Cmt.pos {l : List Nat} {k n : Nat} (H : Cmt l k n) : 0 < l.length := by
  cases H <;> simp
theorem Cmt.onLine {l : List Nat} {k n : Nat} (H : Cmt l k n) (h : isLineEnd (hd1 l) = true) : ∃ k' n', k = k' + leS l ∧ n = n' + 1 ∧ Cmt (l.drop (leS l)) k' n' := by
  cases H with
  | close => exact absurd h (by show ¬ isLineEnd ((42 : Nat) : Int) = true; decide)
  | crlf H => exact ⟨_, _, rfl, rfl, H⟩
  | @line c r k' n' h1 h2 H =>
    have e : leS (c :: r) = 1 := by
      unfold leS
      rw [if_neg]
      rintro ⟨a, b⟩
      exact h2 ⟨Int.ofNat.inj a, b⟩
    rw [e]
    exact ⟨_, _, rfl, rfl, H⟩
  | other h1 h2 H =>
    have h' := h.symm.trans h1
    cases h'
theorem Cmt.onOther {l : List Nat} {k n : Nat} (H : Cmt l k n) (h : isLineEnd (hd1 l) = false) (hs : sw [42, 47] l = false) : ∃ k', k = k' + 1 ∧ Cmt l.tail k' n := by
  cases H with
  | close => exact absurd hs (by simp [sw])
  | crlf H => exact absurd h (by show ¬ isLineEnd ((13 : Nat) : Int) = false; decide)
  | line h1 h2 H =>
    have h' := h.symm.trans h1
    cases h'
  | other h1 h2 H => exact ⟨_, rfl, H⟩
section
variable {w : World} {mg mb : Str → Option Value} {mean : ExcName → Option Value} {news : Led}
end
end Mine
namespace Mine
noncomputable def toEnd (l : List Nat) : Nat := (l.takeWhile fun (c : Nat) => !isLineEnd c).length
theorem toEnd_yes {l : List Nat} (h0 : 0 < l.length) (h : isLineEnd (hd1 l) = false) : toEnd l = toEnd l.tail + 1 := by
  cases l with
  | nil => cases h0
  | cons c r =>
    have h' : isLineEnd (c : Int) = false := h
    simp [toEnd, h']
theorem toEnd_no {l : List Nat} (h : l.length = 0 ∨ isLineEnd (hd1 l) = true) : toEnd l = 0 := by
  cases l with
  | nil => rfl
  | cons c r =>
    have h' : isLineEnd (c : Int) = true := h.resolve_left (by simp)
    simp [toEnd, h']
theorem toEnd_le (l : List Nat) : toEnd l ≤ l.length := (List.takeWhile_sublist _).length_le
inductive Skip : List Nat → Nat → Nat → Prop
  | stop {l} : isLineEnd (hd1 l) = false → isWhite (hd1 l) = false → sw [47, 47] l = false → sw [47, 42] l = false → Skip l 0 0
  | line {l k n} : isLineEnd (hd1 l) = true → Skip (l.drop (leS l)) k n → Skip l (leS l + k) (n + 1)
  | white {l k n} : isLineEnd (hd1 l) = false → isWhite (hd1 l) = true → Skip l.tail k n → Skip l (1 + k) n
  | slashes {l k n} : isLineEnd (hd1 l) = false → isWhite (hd1 l) = false → sw [47, 47] l = true → Skip (l.drop (toEnd l)) k n → Skip l (toEnd l + k) n
  | block {l j m k n} : isLineEnd (hd1 l) = false → isWhite (hd1 l) = false → sw [47, 47] l = false → sw [47, 42] l = true → Cmt (l.drop 2) j m → Skip (l.drop (2 + j)) k n → Skip l (2 + j + k) (m + n)
theorem Skip.onLine {l : List Nat} {k n : Nat} (H : Skip l k n) (h1 : isLineEnd (hd1 l) = true) : ∃ k' n', k = leS l + k' ∧ n = n' + 1 ∧ Skip (l.drop (leS l)) k' n' := by
  cases H <;> first | exact ⟨_, _, rfl, rfl, by assumption⟩ | simp_all
theorem Skip.onWhite {l : List Nat} {k n : Nat} (H : Skip l k n) (h1 : isLineEnd (hd1 l) = false) (h2 : isWhite (hd1 l) = true) : ∃ k', k = 1 + k' ∧ Skip l.tail k' n := by
  cases H <;> first | exact ⟨_, rfl, by assumption⟩ | simp_all
theorem Skip.onSlashes {l : List Nat} {k n : Nat} (H : Skip l k n) (h1 : isLineEnd (hd1 l) = false) (h2 : isWhite (hd1 l) = false) (h3 : sw [47, 47] l = true) : ∃ k', k = toEnd l + k' ∧ Skip (l.drop (toEnd l)) k' n := by
  cases H <;> first | exact ⟨_, rfl, by assumption⟩ | simp_all
theorem Skip.onBlock {l : List Nat} {k n : Nat} (H : Skip l k n) (h1 : isLineEnd (hd1 l) = false) (h2 : isWhite (hd1 l) = false) (h3 : sw [47, 47] l = false) (h4 : sw [47, 42] l = true) : ∃ j m k' n', k = 2 + j + k' ∧ n = m + n' ∧ Cmt (l.drop 2) j m ∧ Skip (l.drop (2 + j)) k' n' := by
  cases H <;> first | exact ⟨_, _, _, _, rfl, rfl, by assumption, by assumption⟩ | simp_all
theorem Skip.onStop {l : List Nat} {k n : Nat} (H : Skip l k n) (h1 : isLineEnd (hd1 l) = false) (h2 : isWhite (hd1 l) = false) (h3 : sw [47, 47] l = false) (h4 : sw [47, 42] l = false) : k = 0 ∧ n = 0 := by
  cases H <;> first | exact ⟨rfl, rfl⟩ | simp_all
theorem sw_len {a b : Nat} {l : List Nat} (h : sw [a, b] l = true) : 2 ≤ l.length := by
  match l with
  | [] => exact absurd h (by simp [sw])
  | [c] => exact absurd h (by simp [sw])
  | c :: d :: r => simp
theorem Cmt.len {l : List Nat} {j m : Nat} (H : Cmt l j m) : 2 ≤ j ∧ j ≤ l.length := by
  induction H <;> simp only [List.length_cons] <;> omega
section
variable {w : World} {mg mb : Str → Option Value} {mean : ExcName → Option Value} {news : Led}
end
end Mine
namespace Mine
noncomputable def bl (n : Nat) : Nat := if n = 0 then 0 else Nat.log2 n + 1
theorem bl_half {n : Nat} (h : 0 < n) : bl n = bl (n / 2) + 1 := by
  unfold bl
  rw [if_neg (by omega)]
  by_cases h2 : n / 2 = 0
  · have : n = 1 := by omega
    subst this
    decide
  · rw [if_neg h2, Nat.log2_def, if_pos (by omega)]
section
variable {w : World} {mg mb : Str → Option Value} {mean : ExcName → Option Value} {news : Led}
noncomputable def packV (e f : Int) : Int := Builtin.bitOr (Builtin.bitOr (0 * 2 ^ Int.toNat 63) (e * 2 ^ Int.toNat 52)) f
noncomputable def asm (whole p : Int) : Int :=
  if whole = 9007199254740992 then packV (p + 1 + 1075) (4503599627370496 - 4503599627370496)
  else if whole < 4503599627370496 then Builtin.bitOr (0 * 2 ^ Int.toNat 63) whole
  else packV (p + 1075) (whole - 4503599627370496)
noncomputable def RR2 (top bottom : Nat) (p : Int) : Int :=
  asm (if bottom < 2 * (top * 2 ^ (-p).toNat % bottom) ∨ (2 * (top * 2 ^ (-p).toNat % bottom) = bottom ∧ (top * 2 ^ (-p).toNat / bottom) % 2 = 1) then (top * 2 ^ (-p).toNat / bottom : Nat) + 1 else (top * 2 ^ (-p).toNat / bottom : Nat)) p
noncomputable def RR (top bottom : Nat) : Int :=
  if top = 0 then 0 * 2 ^ Int.toNat 63
  else if 9007199254740992 ≤ top * 2 ^ (-((bl top : Int) - bl bottom - 53)).toNat / bottom then RR2 top bottom ((bl top : Int) - bl bottom - 53 + 1)
  else RR2 top bottom ((bl top : Int) - bl bottom - 53)
theorem rr2_up {top bottom : Nat} {p : Int} (h : bottom < 2 * (top * 2 ^ (-p).toNat % bottom) ∨ (2 * (top * 2 ^ (-p).toNat % bottom) = bottom ∧ (top * 2 ^ (-p).toNat / bottom) % 2 = 1)) : RR2 top bottom p = asm ((top * 2 ^ (-p).toNat / bottom : Nat) + 1) p := by
  unfold RR2; rw [if_pos h]
theorem rr2_no {top bottom : Nat} {p : Int} (h : ¬ (bottom < 2 * (top * 2 ^ (-p).toNat % bottom) ∨ (2 * (top * 2 ^ (-p).toNat % bottom) = bottom ∧ (top * 2 ^ (-p).toNat / bottom) % 2 = 1))) : RR2 top bottom p = asm (top * 2 ^ (-p).toNat / bottom : Nat) p := by
  unfold RR2; rw [if_neg h]
theorem fmod2 (n : Nat) : (n : Int).fmod 2 = ((n % 2 : Nat) : Int) := by
  rw [Int.fmod_eq_emod_of_nonneg _ (by decide)]; rfl
theorem bl_bnd {n B : Nat} (h : n < 2 ^ B) : bl n ≤ B := by
  unfold bl
  split
  · omega
  · have : Nat.log2 n < B := (Nat.log2_lt (by omega)).mpr h
    omega
end
end Mine
namespace Mine
noncomputable def decv (ds : List Nat) : Nat := ds.foldl (fun v c => v * 10 + (c - 48)) 0
theorem one_lt {a b : Nat} : ((⟨#[a]⟩ : Str).cps.toList < (⟨#[b]⟩ : Str).cps.toList) ↔ a < b := by
  show ([a] : List Nat) < [b] ↔ a < b
  rw [List.cons_lt_cons_iff]
  simp
theorem s0 : Str.ofString "0" = ⟨#[48]⟩ := by decide +kernel
theorem s9 : Str.ofString "9" = ⟨#[57]⟩ := by decide +kernel
section
variable {w : World} {mg mb : Str → Option Value} {mean : ExcName → Option Value} {news : Led}
theorem decv_bnd (ds : List Nat) (h : ∀ c ∈ ds, c ≤ 57) : decv ds < 10 ^ ds.length := by
  have key : ∀ (ds : List Nat) (v : Nat), (∀ c ∈ ds, c ≤ 57) → ds.foldl (fun v c => v * 10 + (c - 48)) v + 1 ≤ (v + 1) * 10 ^ ds.length := by
    intro ds
    induction ds with
    | nil => intro v h; simp
    | cons c r ih =>
      intro v h
      have h1 := ih (v * 10 + (c - 48)) (fun d hd => h d (.tail _ hd))
      have h2 := h c (.head _)
      rw [List.foldl_cons, List.length_cons, Nat.pow_succ, Nat.mul_comm (10 ^ r.length) 10, ← Nat.mul_assoc]
      exact Nat.le_trans h1 (Nat.mul_le_mul_right _ (by omega))
  have := key ds 0 h
  unfold decv
  omega
theorem charAt_nat {x : Str} {i : Nat} (h : i < x.length) : Txt.charAt x i = some (x.cps[i]'h) := by
  have h4 : x.length = x.cps.size := rfl
  have h3 : ¬ (i : Int) < 0 := by omega
  simp only [Txt.charAt, seqIndex?, if_neg h3]
  rw [if_pos (by simp only [Bool.and_eq_true, decide_eq_true_eq]; omega)]
  have h2 : i < x.cps.size := h
  simp [h2]
  rfl
theorem dropWhile_at {p : Nat → Bool} : ∀ (l : List Nat) (lo : Nat), lo ≤ l.length → (∀ k, k < lo → p (l.getD k 0) = true) → (lo = l.length ∨ p (l.getD lo 0) = false) → l.dropWhile p = l.drop lo
  | [], lo, h, _, _ => by simp
  | c :: r, 0, _, _, h => by
    have hc : p c = false := h.resolve_left (by simp)
    simp [List.dropWhile_cons, hc]
  | c :: r, lo + 1, h1, h2, h3 => by
    have hc : p c = true := h2 0 (by omega)
    rw [List.dropWhile_cons, if_pos hc, List.drop_succ_cons]
    refine dropWhile_at r lo (by simp at h1; omega) (fun k hk => h2 (k + 1) (by omega)) ?_
    rcases h3 with h | h
    · exact .inl (by simp at h; omega)
    · exact .inr h
theorem lstrip_zeros (x : Str) : (Txt.lstripChars x (Str.ofString "0")).cps.toList = x.cps.toList.dropWhile fun c => decide (c = 48) := by
  have hy : (Str.ofString "0").cps.contains = fun c => decide (c = 48) := by
    rw [s0]; funext c; simp
  unfold Txt.lstripChars
  rw [hy]
  generalize (fun c => decide (c = 48) : Nat → Bool) = p
  obtain ⟨f1, f2, f3⟩ := lo_facts p x
  have hl : x.length = x.cps.toList.length := by show x.cps.size = _; simp
  have hg : ∀ k, x.cps.getD k 0 = x.cps.toList.getD k 0 := fun k => by simp
  have key := dropWhile_at (p := p) x.cps.toList (stripLo p true x) (by omega) (fun k hk => by rw [← hg]; exact f2 k hk) (by rw [← hl, ← hg]; exact f3)
  rw [key]
  have hh : stripHi p false x (stripLo p true x) = x.length := rfl
  unfold Txt.stripBy
  split
  · rename_i h
    unfold stripSame at h
    simp only [Bool.and_eq_true, beq_iff_eq] at h
    rw [h.1, List.drop_zero]
  · unfold PySem.stripped
    rw [StrLaws.strSub_toList, hh, List.take_of_length_le]
    rw [List.length_drop]; omega
noncomputable def FD (ds : List Nat) (e : Int) : Int :=
  if (ds.dropWhile fun c => decide (c = 48)) = [] then 0
  else if 0 ≤ e then RR (decv (ds.dropWhile fun c => decide (c = 48)) * 10 ^ e.toNat) 1
  else RR (decv (ds.dropWhile fun c => decide (c = 48))) (10 ^ (0 - e).toNat)
end
end Mine
namespace Mine
theorem Spec.cls {w : World} {mg mb : Str → Option Value} {mean : ExcName → Option Value} {d : Nat} {news : Led} {Post : Addr → Addr → Led → Prop} {C f : Addr} {vs : List Value}
    {name qual : Str} {params : Arguments} {body : List Stmt} {scope : Scope} {dV kV doc pm cdv ct oc : Value} {an od : Option Addr} {osl : Array (Option Value)} {binds : Addr → List (Str × Value)}
    (hm : makesIn (hpK w.params) C = true) (hi : findIn (hpK w.params) (.ref C) "__init__" = some (some (.ref f))) (hf : isFn (hpK w.params) (.ref f) = true)
    (ho : (hpK w.params).lookup f = some ⟨oc, od, .func (fnOf name qual params body scope dV kV doc pm an cdv ct), osl⟩) (hcd : codeIn (hpK w.params) cdv qual = true)
    (hbind : ∀ x, bindArgs (fnOf name qual params body scope dV kV doc pm an cdv ct) ⟨.ref x :: vs, []⟩ = pure (binds x))
    (hloc : ∀ x, ((binds x).all fun x => decide (scope.names.lookup x.1 = some .local)) = true) (hco : scope.isCoroutine = false) (hgen : scope.isGenerator = false) (hk : scope.kind = .function) (hcell : ∀ x ∈ scope.names, x.2 ≠ .cell)
    (H : ∀ (x dx : Addr), (∀ p ∈ news, @LT.lt Nat _ p.1 dx) → @LT.lt Nat _ dx x → ∀ (dp un : Nat) (gd : Option (List Code)) (outer : List Env) (A₀ : Around) (base g : Heap) (L : Addr) (s : Shared),
      Below A₀ base outer g → Fr g L s.heap (fun y => (binds x).reverse.lookup y) → (hpK w.params).In g → News g L s.heap ((x, instObj C dx) :: (dx, dictOf [] 0) :: news) → Top hpV (looseW hpV LS) mean mg mb g → dp + d < 900 → un + 8 * d < 9000 →
      wpAny (model prg w) (ktrTop dp un gd qual scope L f cdv [] outer) (execs body (envOf qual scope L f cdv)) (Back s g L (fun v n => v = .none ∧ Post x dx n)) (fun _ _ => False) s) :
    Spec w mg mb mean (d + 2) (call (.ref C) vs) news (fun v n => ∃ x dx, ((∀ p ∈ news, @LT.lt Nat _ p.1 dx) ∧ @LT.lt Nat _ dx x) ∧ v = .ref x ∧ Post x dx n) := by
  intro dp un gd cn cs a ccd cl outer A₀ base h₀ L m s Q E B F X N T hks hdp hun ret
  refine call_cls F X N hm hi hf ?_
  intro x dx h' F1 N1 l1 l2
  refine code_def (env := envX cn cs L a ccd cl) (outer := outer) B F1 X N1 T rfl rfl hks ho hcd (by first | (show dp < 1000; omega) | (show dp + 1 < 1000; omega)) (BindsTo.of_eq (hbind x)) (locs (hloc x)) ?_ hco hgen hk hcell
  intro g L' h₁ FG F' N' B' X' T'
  refine wpAny_mono (H x dx l1 l2 _ _ gd (envX cn cs L a ccd cl :: outer) _ base g L' { s with heap := h₁, toks := s.toks + (binds x).length } B' F' X' N' T' ?_ ?_) ?_ (fun _ _ x => x.elim)
  · first | (show dp + 1 + d < 900; omega) | (show dp + 1 + 1 + d < 900; omega)
  · first | (show un + 3 + 8 * d < 9000; omega) | (show un + 3 + 3 + 8 * d < 9000; omega) | (show un + 4 + 3 + 8 * d < 9000; omega) | (show un + 5 + 3 + 8 * d < 9000; omega) | (show un + 1 + 3 + 8 * d < 9000; omega) | (show un + 2 + 3 + 8 * d < 9000; omega)
  rintro fl s' ⟨h', tk, m', news', rfl, F2, N2, p⟩
  refine leaveK_ F2 N2 fun F3 N3 => ?_
  exact ⟨p.1, ret _ _ _ _ ⟨x, dx, ⟨l1, l2⟩, rfl, p.2⟩ F3 N3⟩
end Mine
namespace Mine
/-- what is known of a value: the tokens are left out -/
inductive AV where
  | un
  | int (i : Int)
  | str (x : Str)
  | is (v : Value)
noncomputable def AV.has : AV → Value → Prop
  | .un, _ => True
  | .int i, v => ∃ t, v = .int i t
  | .str x, v => ∃ t, v = .str x t
  | .is u, v => v = u
noncomputable def AV.ok : AV → Bool
  | .un => false
  | _ => true
noncomputable abbrev Loc := List (Str × AV)
noncomputable def hasO : AV → Option Value → Prop
  | .un, _ => True
  | V, o => ∃ v, o = some v ∧ V.has v
noncomputable def HasAll : List AV → List Value → Prop
  | [], [] => True
  | V :: Vs, v :: vs => V.has v ∧ HasAll Vs vs
  | _, _ => False
structure Wd where
  w : World
  mg : Str → Option Value
  mb : Str → Option Value
  mean : ExcName → Option Value
structure Cx where
  W : Wd
  dp : Nat
  un : Nat
  gd : Option (List Code)
  cn : Str
  L : Addr
  a : Addr
  ccd : Value
  outer : List Env
  A₀ : Around
  base : Heap
  g : Heap
structure Sc where
  scope : Scope
  d : Nat
  ns : List Str
noncomputable abbrev Cx.A (c : Cx) (S : Sc) : Around := ktrTop c.dp c.un c.gd c.cn S.scope c.L c.a c.ccd [] c.outer
noncomputable abbrev Cx.env (c : Cx) (S : Sc) : Env := envX c.cn S.scope c.L c.a c.ccd []
structure Sc.Ok (S : Sc) : Prop where
  kind : S.scope.kind = .function
  nod : S.ns.Nodup
  loc : ∀ x ∈ S.ns, S.scope.names.lookup x = some .local ∧ (x == (Str.ofString "__debug__")) = false
structure Cx.Ok (c : Cx) (S : Sc) : Prop where
  B : Below c.A₀ c.base c.outer c.g
  X : (hpK c.W.w.params).In c.g
  T : Top hpV (looseW hpV LS) c.W.mean c.W.mg c.W.mb c.g
  dp : c.dp + S.d < 900
  un : c.un + 8 * S.d < 9000
  S : S.Ok
structure Rep (S : Sc) (l : Loc) (m : Str → Option Value) : Prop where
  keys : l.map Prod.fst = S.ns
  get : ∀ p ∈ l, hasO p.2 (m p.1)
noncomputable abbrev no : Value → Shared → Prop := fun _ _ => False
/-- a tree with locals l and ledger n ends, told of by P -/
noncomputable def CE (c : Cx) (S : Sc) (l : Loc) (n : Led) {α : Type} (t : Sem α) (P : α → Led → Prop) : Prop :=
  c.Ok S → ∀ (s : Shared) (m : Str → Option Value) (Q : α → Shared → Prop), Rep S l m → Fr c.g c.L s.heap m → News c.g c.L s.heap n →
    (∀ v n' h' tk', P v n' → Fr c.g c.L h' m → News c.g c.L h' n' → Q v { s with heap := h', toks := tk' }) → wpAny (model prg c.W.w) (c.A S) t Q no s
noncomputable def EP (c : Cx) (S : Sc) (l : Loc) (n : Led) (e : Expr) (V : AV) : Prop := CE c S l n (eval e (c.env S)) (fun v n' => V.has v ∧ n' = n)
noncomputable def TT (c : Cx) (S : Sc) (l : Loc) (n : Led) (e : Expr) (T F : Prop) : Prop := CE c S l n (isTrue e (c.env S) (eval e (c.env S))) (fun b n' => n' = n ∧ ((b = true ∧ T) ∨ (b = false ∧ F)))
noncomputable def EC (c : Cx) (S : Sc) (l : Loc) (n : Led) (e : Expr) (X : Type) (P : X → Prop) (fV : X → AV) (fn : X → Led) : Prop := CE c S l n (eval e (c.env S)) (fun v n' => ∃ x : X, P x ∧ (fV x).has v ∧ n' = fn x)
noncomputable def EA (c : Cx) (S : Sc) (l : Loc) (n : Led) (p : Pos) (es : List Expr) (Vs : List AV) : Prop := CE c S l n (spliced (backTo p (starEach es (c.env S)))) (fun vs n' => HasAll Vs vs ∧ n' = n)
/-- statements: R tells of what is handed back, K of going on -/
noncomputable def SG (c : Cx) (S : Sc) (R : AV → Led → Prop) (l : Loc) (n : Led) (t : Sem Flow) (K : Loc → Led → Prop) : Prop :=
  c.Ok S → ∀ (s : Shared) (m : Str → Option Value) (Q : Flow → Shared → Prop), Rep S l m → Fr c.g c.L s.heap m → News c.g c.L s.heap n →
    (∀ l' m' n' h' tk', K l' n' → Rep S l' m' → Fr c.g c.L h' m' → News c.g c.L h' n' → Q .next { s with heap := h', toks := tk' }) →
    (∀ V v m' n' h' tk', R V n' → V.has v → Fr c.g c.L h' m' → News c.g c.L h' n' → Q (.ret v) { s with heap := h', toks := tk' }) → wpAny (model prg c.W.w) (c.A S) t Q no s
noncomputable abbrev SX (c : Cx) (S : Sc) (R : AV → Led → Prop) (l : Loc) (n : Led) (st : Stmt) (K : Loc → Led → Prop) : Prop := SG c S R l n (exec st (c.env S)) K
noncomputable def SS (c : Cx) (S : Sc) (R : AV → Led → Prop) (l : Loc) (n : Led) (ss : List Stmt) (K : Loc → Led → Prop) : Prop := SG c S R l n (execs ss (c.env S)) K
noncomputable def CP (W : Wd) (d : Nat) (n : Led) (f : Addr) (Vs : List AV) (V : AV) : Prop := ∀ vs, HasAll Vs vs → Spec W.w W.mg W.mb W.mean d (call (.ref f) vs) n (fun v n' => n' = n ∧ V.has v)
noncomputable def CC (W : Wd) (d : Nat) (n : Led) (f : Addr) (Vs : List AV) (X : Type) (P : X → Prop) (fV : X → AV) (fn : X → Led) : Prop :=
  ∀ vs, HasAll Vs vs → Spec W.w W.mg W.mb W.mean d (call (.ref f) vs) n (fun v n' => ∃ x : X, P x ∧ (fV x).has v ∧ n' = fn x)

section
variable {c : Cx} {S : Sc} {l l' : Loc} {n : Led} {R : AV → Led → Prop} {K : Loc → Led → Prop} {rest : List Stmt}
theorem Rep.at (r : Rep S l m) (hm : (x, V) ∈ l) (hv : V.ok = true) : ∃ v, m x = some v ∧ V.has v := by
  have h := r.get _ hm
  cases V with
  | un => cases hv
  | int i => exact h
  | str y => exact h
  | is u => exact h
theorem Rep.isLoc (k : S.Ok) (r : Rep S l m) (hm : (x, V) ∈ l) : S.scope.names.lookup x = some .local ∧ (x == (Str.ofString "__debug__")) = false := k.loc x (r.keys ▸ List.mem_map.mpr ⟨_, hm, rfl⟩)
theorem EP_name (hm : (x, V) ∈ l) (hv : V.ok = true) {p : Pos} : EP c S l n (.Name x p) V := by
  intro ok s m Q r F N ret
  obtain ⟨v, h1, h2⟩ := r.at hm hv
  obtain ⟨k1, k2⟩ := r.isLoc ok.S hm
  exact nameX_L F h1 (ret v n _ s.toks ⟨h2, rfl⟩ F N) ok.S.kind k1 k2
theorem nm0 {V : AV} {x : Str} {p : Pos} (hv : V.ok = true) : EP c S ((x, V) :: l) n (.Name x p) V := EP_name (.head _) hv
theorem nm1 {q0 : Str × AV} {V : AV} {x : Str} {p : Pos} (hv : V.ok = true) : EP c S (q0 :: (x, V) :: l) n (.Name x p) V := EP_name (.tail _ (.head _)) hv
theorem nm2 {q0 q1 : Str × AV} {V : AV} {x : Str} {p : Pos} (hv : V.ok = true) : EP c S (q0 :: q1 :: (x, V) :: l) n (.Name x p) V := EP_name (.tail _ (.tail _ (.head _))) hv
theorem nm3 {q0 q1 q2 : Str × AV} {V : AV} {x : Str} {p : Pos} (hv : V.ok = true) : EP c S (q0 :: q1 :: q2 :: (x, V) :: l) n (.Name x p) V := EP_name (.tail _ (.tail _ (.tail _ (.head _)))) hv
theorem nm4 {q0 q1 q2 q3 : Str × AV} {V : AV} {x : Str} {p : Pos} (hv : V.ok = true) : EP c S (q0 :: q1 :: q2 :: q3 :: (x, V) :: l) n (.Name x p) V := EP_name (.tail _ (.tail _ (.tail _ (.tail _ (.head _))))) hv
theorem nm5 {q0 q1 q2 q3 q4 : Str × AV} {V : AV} {x : Str} {p : Pos} (hv : V.ok = true) : EP c S (q0 :: q1 :: q2 :: q3 :: q4 :: (x, V) :: l) n (.Name x p) V := EP_name (.tail _ (.tail _ (.tail _ (.tail _ (.tail _ (.head _)))))) hv
theorem nm6 {q0 q1 q2 q3 q4 q5 : Str × AV} {V : AV} {x : Str} {p : Pos} (hv : V.ok = true) : EP c S (q0 :: q1 :: q2 :: q3 :: q4 :: q5 :: (x, V) :: l) n (.Name x p) V := EP_name (.tail _ (.tail _ (.tail _ (.tail _ (.tail _ (.tail _ (.head _))))))) hv
theorem nm7 {q0 q1 q2 q3 q4 q5 q6 : Str × AV} {V : AV} {x : Str} {p : Pos} (hv : V.ok = true) : EP c S (q0 :: q1 :: q2 :: q3 :: q4 :: q5 :: q6 :: (x, V) :: l) n (.Name x p) V := EP_name (.tail _ (.tail _ (.tail _ (.tail _ (.tail _ (.tail _ (.tail _ (.head _)))))))) hv
theorem EP_int {i : Int} {k : Nat} {p : Pos} : EP c S l n (.Constant (.int i) k p) (.int i) := fun _ _ _ _ _ F N ret => wpAny_Constant_int (ret _ _ _ _ ⟨⟨_, rfl⟩, rfl⟩ F N)
theorem EP_str {x : Str} {k : Nat} {p : Pos} : EP c S l n (.Constant (.str x) k p) (.str x) := fun _ _ _ _ _ F N ret => Calls.Constant_str (ret _ _ _ _ ⟨⟨_, rfl⟩, rfl⟩ F N)
theorem EP_boo {b : Bool} {k : Nat} {p : Pos} : EP c S l n (.Constant (.bool b) k p) (.is (.bool b)) := fun _ s _ _ _ F N ret => Constant_bool (ret _ _ s.heap s.toks ⟨rfl, rfl⟩ F N)
theorem EP_non {k : Nat} {p : Pos} : EP c S l n (.Constant .none k p) (.is .none) := fun _ s _ _ _ F N ret => Constant_none (ret _ _ s.heap s.toks ⟨rfl, rfl⟩ F N)
theorem EP_bin {op : Operator} {A B V : AV} {a b : Expr} {p : Pos}
    (hop : ∀ (va vb : Value) (s : Shared) (Q : Value → Shared → Prop), A.has va → B.has vb → (∀ v tk, V.has v → Q v { s with toks := tk }) → wpAny (model prg c.W.w) (c.A S) (binaryOp op va vb) Q no s)
    (ha : EP c S l n a A) (hb : EP c S l n b B) : EP c S l n (.BinOp a op b p) V := by
  intro ok s m Q r F N ret
  refine wpAny_BinOp ?_
  refine ha ok s m _ r F N (fun va n' h' tk' hp F' N' => ?_)
  obtain ⟨hva, rfl⟩ := hp
  refine hb ok _ m _ r F' N' (fun vb n2 h2 tk2 hp F2 N2 => ?_)
  obtain ⟨hvb, rfl⟩ := hp
  exact hop va vb _ _ hva hvb (fun v tk hv => ret _ _ h2 _ ⟨hv, rfl⟩ F2 N2)
theorem EP_add {i j : Int} {a b : Expr} {p : Pos} (ha : EP c S l n a (.int i)) (hb : EP c S l n b (.int j)) : EP c S l n (.BinOp a .Add b p) (.int (i + j)) :=
  EP_bin (by rintro _ _ s Q ⟨t, rfl⟩ ⟨u, rfl⟩ ret; exact P.add_int (ret _ _ ⟨_, rfl⟩)) ha hb
theorem EP_sub {i j : Int} {a b : Expr} {p : Pos} (ha : EP c S l n a (.int i)) (hb : EP c S l n b (.int j)) : EP c S l n (.BinOp a .Sub b p) (.int (i - j)) :=
  EP_bin (by rintro _ _ s Q ⟨t, rfl⟩ ⟨u, rfl⟩ ret; exact P.sub_int (ret _ _ ⟨_, rfl⟩)) ha hb
theorem EP_mul {i j : Int} {a b : Expr} {p : Pos} (ha : EP c S l n a (.int i)) (hb : EP c S l n b (.int j)) (hm : IntMulOk i j) : EP c S l n (.BinOp a .Mult b p) (.int (i * j)) :=
  EP_bin (by rintro _ _ s Q ⟨t, rfl⟩ ⟨u, rfl⟩ ret; exact P.mul_int (ret _ _ ⟨_, rfl⟩) hm) ha hb
theorem TT_cmp {op : CmpOp} {A B : AV} {b1 : Bool} {T F : Prop} {a b : Expr} {p : Pos}
    (hop : ∀ (va vb : Value) (s : Shared) (Q : Value → Shared → Prop), A.has va → B.has vb → (∀ tk, Q (.bool b1) { s with toks := tk }) → wpAny (model prg c.W.w) (c.A S) (compareOp op va vb) Q no s)
    (ht : b1 = true → T) (hf : b1 = false → F) (hm : behindInMarks op b = false)
    (ha : EP c S l n a A) (hb : EP c S l n b B) : TT c S l n (.Compare a [op] [b] p) T F := by
  intro ok s m Q r F N ret
  refine wpAny_isTrue_Compare1 ?_ hm
  refine ha ok s m _ r F N (fun va n' h' tk' hp F' N' => ?_)
  obtain ⟨hva, rfl⟩ := hp
  refine hb ok _ m _ r F' N' (fun vb n2 h2 tk2 hp F2 N2 => ?_)
  obtain ⟨hvb, rfl⟩ := hp
  refine hop va vb _ _ hva hvb (fun tk => wpAny_truthy_bool (ret b1 _ h2 _ ⟨rfl, ?_⟩ F2 N2))
  cases b1 with
  | true => exact .inl ⟨rfl, ht rfl⟩
  | false => exact .inr ⟨rfl, hf rfl⟩
theorem EP_cmp {op : CmpOp} {A B : AV} {b1 : Bool} {a b : Expr} {p : Pos}
    (hop : ∀ (va vb : Value) (s : Shared) (Q : Value → Shared → Prop), A.has va → B.has vb → (∀ tk, Q (.bool b1) { s with toks := tk }) → wpAny (model prg c.W.w) (c.A S) (compareOp op va vb) Q no s)
    (hm : behindInMarks op b = false)
    (ha : EP c S l n a A) (hb : EP c S l n b B) : EP c S l n (.Compare a [op] [b] p) (.is (.bool b1)) := by
  intro ok s m Q r F N ret
  refine wpAny_Compare1 ?_ hm
  refine ha ok s m _ r F N (fun va n' h' tk' hp F' N' => ?_)
  obtain ⟨hva, rfl⟩ := hp
  refine hb ok _ m _ r F' N' (fun vb n2 h2 tk2 hp F2 N2 => ?_)
  obtain ⟨hvb, rfl⟩ := hp
  exact hop va vb _ _ hva hvb (fun tk => ret _ _ h2 _ ⟨rfl, rfl⟩ F2 N2)
theorem marks {op : CmpOp} {b : Expr} (h1 : op ≠ .In) (h2 : op ≠ .NotIn) : behindInMarks op b = false := by
  cases op <;> first | exact absurd rfl h1 | exact absurd rfl h2 | (cases b <;> first | rfl | (simp [behindInMarks, constInMarks]; done) | simp [behindInMarks])
section
variable {i j : Int} {a b : Expr} {p : Pos} (ha : EP c S l n a (.int i)) (hb : EP c S l n b (.int j))
include ha hb
theorem TT_lt : TT c S l n (.Compare a [.Lt] [b] p) (i < j) (j ≤ i) :=
  TT_cmp (b1 := decide (i < j)) (by rintro _ _ s Q ⟨t, rfl⟩ ⟨u, rfl⟩ ret; exact P.lt_int (ret s.toks)) of_decide_eq_true (fun h => Int.not_lt.mp (of_decide_eq_false h)) (marks nofun nofun) ha hb
theorem TT_le : TT c S l n (.Compare a [.LtE] [b] p) (i ≤ j) (j < i) :=
  TT_cmp (b1 := decide (i ≤ j)) (by rintro _ _ s Q ⟨t, rfl⟩ ⟨u, rfl⟩ ret; exact P.le_int (ret s.toks)) of_decide_eq_true (fun h => Int.not_le.mp (of_decide_eq_false h)) (marks nofun nofun) ha hb
theorem TT_gt : TT c S l n (.Compare a [.Gt] [b] p) (j < i) (i ≤ j) :=
  TT_cmp (b1 := decide (i > j)) (by rintro _ _ s Q ⟨t, rfl⟩ ⟨u, rfl⟩ ret; exact P.gt_int (ret s.toks)) of_decide_eq_true (fun h => Int.not_lt.mp (of_decide_eq_false h)) (marks nofun nofun) ha hb
theorem TT_ge : TT c S l n (.Compare a [.GtE] [b] p) (j ≤ i) (i < j) :=
  TT_cmp (b1 := decide (i ≥ j)) (by rintro _ _ s Q ⟨t, rfl⟩ ⟨u, rfl⟩ ret; exact P.ge_int (ret s.toks)) of_decide_eq_true (fun h => Int.not_le.mp (of_decide_eq_false h)) (marks nofun nofun) ha hb
theorem TT_eq : TT c S l n (.Compare a [.Eq] [b] p) (i = j) (i ≠ j) :=
  TT_cmp (b1 := i == j) (by rintro _ _ s Q ⟨t, rfl⟩ ⟨u, rfl⟩ ret; exact P.eq_int (ret s.toks)) (fun h => eq_of_beq h) (fun h => ne_of_beq_false h) (marks nofun nofun) ha hb
theorem TT_ne : TT c S l n (.Compare a [.NotEq] [b] p) (i ≠ j) (i = j) :=
  TT_cmp (b1 := i != j) (by rintro _ _ s Q ⟨t, rfl⟩ ⟨u, rfl⟩ ret; exact P.ne_int (ret s.toks)) (fun h => by simpa using h) (fun h => by simpa using h) (marks nofun nofun) ha hb
theorem EP_lt : EP c S l n (.Compare a [.Lt] [b] p) (.is (.bool (decide (i < j)))) := EP_cmp (by rintro _ _ s Q ⟨t, rfl⟩ ⟨u, rfl⟩ ret; exact P.lt_int (ret s.toks)) (marks nofun nofun) ha hb
theorem EP_le : EP c S l n (.Compare a [.LtE] [b] p) (.is (.bool (decide (i ≤ j)))) := EP_cmp (by rintro _ _ s Q ⟨t, rfl⟩ ⟨u, rfl⟩ ret; exact P.le_int (ret s.toks)) (marks nofun nofun) ha hb
theorem EP_gt : EP c S l n (.Compare a [.Gt] [b] p) (.is (.bool (decide (j < i)))) := EP_cmp (by rintro _ _ s Q ⟨t, rfl⟩ ⟨u, rfl⟩ ret; exact P.gt_int (ret s.toks)) (marks nofun nofun) ha hb
theorem EP_ge : EP c S l n (.Compare a [.GtE] [b] p) (.is (.bool (decide (j ≤ i)))) := EP_cmp (by rintro _ _ s Q ⟨t, rfl⟩ ⟨u, rfl⟩ ret; exact P.ge_int (ret s.toks)) (marks nofun nofun) ha hb
theorem EP_eq : EP c S l n (.Compare a [.Eq] [b] p) (.is (.bool (decide (i = j)))) := EP_cmp (by rintro _ _ s Q ⟨t, rfl⟩ ⟨u, rfl⟩ ret; exact P.eq_int (ret s.toks)) (marks nofun nofun) ha hb
end
theorem TT_and {a b : Expr} {T1 F1 T2 F2 : Prop} {p : Pos} (ha : TT c S l n a T1 F1) (hb : T1 → TT c S l n b T2 F2) : TT c S l n (.BoolOp .And [a, b] p) (T1 ∧ T2) (F1 ∨ (T1 ∧ F2)) := by
  intro ok s m Q r F N ret
  refine isTrue_and ?_
  refine ha ok s m _ r F N (fun b1 n' h' tk' hp F' N' => ?_)
  obtain ⟨rfl, ⟨rfl, ht⟩ | ⟨rfl, hf⟩⟩ := hp
  · refine isTrue_and ?_
    refine hb ht ok _ m _ r F' N' (fun b1 n2 h2 tk2 hp F2 N2 => ?_)
    obtain ⟨rfl, ⟨rfl, ht2⟩ | ⟨rfl, hf2⟩⟩ := hp
    · exact isTrue_and_nil (ret true _ h2 _ ⟨rfl, .inl ⟨rfl, ht, ht2⟩⟩ F2 N2)
    · exact ret false _ h2 _ ⟨rfl, .inr ⟨rfl, .inr ⟨ht, hf2⟩⟩⟩ F2 N2
  · exact ret false _ h' _ ⟨rfl, .inr ⟨rfl, .inl hf⟩⟩ F' N'
theorem TT_or {a b : Expr} {T1 F1 T2 F2 : Prop} {p : Pos} (ha : TT c S l n a T1 F1) (hb : F1 → TT c S l n b T2 F2) : TT c S l n (.BoolOp .Or [a, b] p) (T1 ∨ (F1 ∧ T2)) (F1 ∧ F2) := by
  intro ok s m Q r F N ret
  refine isTrue_or ?_
  refine ha ok s m _ r F N (fun b1 n' h' tk' hp F' N' => ?_)
  obtain ⟨rfl, ⟨rfl, ht⟩ | ⟨rfl, hf⟩⟩ := hp
  · exact ret true _ h' _ ⟨rfl, .inl ⟨rfl, .inl ht⟩⟩ F' N'
  · refine isTrue_or ?_
    refine hb hf ok _ m _ r F' N' (fun b1 n2 h2 tk2 hp F2 N2 => ?_)
    obtain ⟨rfl, ⟨rfl, ht2⟩ | ⟨rfl, hf2⟩⟩ := hp
    · exact ret true _ h2 _ ⟨rfl, .inl ⟨rfl, .inr ⟨hf, ht2⟩⟩⟩ F2 N2
    · exact isTrue_or_nil (ret false _ h2 _ ⟨rfl, .inr ⟨rfl, hf, hf2⟩⟩ F2 N2)
theorem TT_not {a : Expr} {T F : Prop} {p : Pos} (ha : TT c S l n a T F) : TT c S l n (.UnaryOp .Not a p) F T := by
  intro ok s m Q r F N ret
  refine isTrue_not ?_
  refine ha ok s m _ r F N (fun b1 n' h' tk' hp F' N' => ?_)
  obtain ⟨rfl, ⟨rfl, ht⟩ | ⟨rfl, hf⟩⟩ := hp
  · exact ret _ _ h' _ ⟨rfl, .inr ⟨rfl, ht⟩⟩ F' N'
  · exact ret _ _ h' _ ⟨rfl, .inl ⟨rfl, hf⟩⟩ F' N'
noncomputable def plainT : Expr → Bool
  | .Name .. => true
  | .Call .. => true
  | .Attribute .. => true
  | .Constant .. => true
  | _ => false
theorem plain_eq {e : Expr} {env : Env} {whole : Sem Value} (h : plainT e = true) : isTrue e env whole = (do let v ← whole; standAt e.pos; holding [v] (truthy v)) := by
  cases e <;> first | rfl | cases h
theorem TT_bool {e : Expr} {b : Bool} (he : EP c S l n e (.is (.bool b))) (hp : plainT e = true) : TT c S l n e (b = true) (b = false) := by
  intro ok s m Q r F N ret
  refine isTrue_plain ?_ (plain_eq hp)
  refine he ok s m _ r F N (fun v n' h' tk' hp F' N' => ?_)
  obtain ⟨rfl, rfl⟩ := hp
  refine wpAny_truthy_bool (ret b _ h' _ ⟨rfl, ?_⟩ F' N')
  cases b with
  | true => exact .inl ⟨rfl, rfl⟩
  | false => exact .inr ⟨rfl, rfl⟩
theorem EP_if {t a b : Expr} {T F : Prop} {V : AV} {p : Pos} (ht : TT c S l n t T F) (ha : T → EP c S l n a V) (hb : F → EP c S l n b V) : EP c S l n (.IfExp t a b p) V := by
  intro ok s m Q r F N ret
  refine IfExp_ ?_
  refine ht ok s m _ r F N (fun b1 n' h' tk' hp F' N' => ?_)
  obtain ⟨rfl, ⟨rfl, ht⟩ | ⟨rfl, hf⟩⟩ := hp
  · exact ha ht ok _ m _ r F' N' ret
  · exact hb hf ok _ m _ r F' N' ret
theorem TT_weak {e : Expr} {T F T' F' : Prop} (h : TT c S l n e T F) (ht : T → T') (hf : F → F') : TT c S l n e T' F' := by
  intro ok s m Q r Fr N ret
  refine h ok s m _ r Fr N (fun b1 n' h' tk' hp F' N' => ret _ _ _ _ ⟨hp.1, ?_⟩ F' N')
  rcases hp.2 with h | h
  · exact .inl ⟨h.1, ht h.2⟩
  · exact .inr ⟨h.1, hf h.2⟩
/- arguments -/
noncomputable def plainE : Expr → Bool
  | .Starred .. => false
  | _ => true
theorem star_plain {e : Expr} {rest : List Expr} {env : Env} (h : plainE e = true) : starEach (e :: rest) env = (false, eval e env) :: starEach rest env := by
  cases e <;> first | rfl | cases h
theorem star_all {es : List Expr} {env : Env} {pos : Pos} (h : es.all plainE = true) : (backTo pos (starEach es env)).any (·.1) = false := by
  induction es with
  | nil => rfl
  | cons e es ih =>
    rw [List.all_cons, Bool.and_eq_true] at h
    rw [star_plain h.1]
    exact ih h.2
theorem EA_nil {p : Pos} : EA c S l n p [] [] := fun _ s _ _ _ F N ret => args_nil (ret _ _ s.heap s.toks ⟨trivial, rfl⟩ F N)
theorem EA_cons {p : Pos} {e : Expr} {es : List Expr} {V : AV} {Vs : List AV} (he : EP c S l n e V) (hp : plainE e = true) (h : EA c S l n p es Vs) : EA c S l n p (e :: es) (V :: Vs) := by
  intro ok s m Q r F N ret
  refine args_cons ?_ (star_plain hp)
  refine he ok s m _ r F N (fun v n' h' tk' hp F' N' => ?_)
  obtain ⟨hv, rfl⟩ := hp
  refine h ok _ m _ r F' N' (fun vs n2 h2 tk2 hp F2 N2 => ?_)
  obtain ⟨hvs, rfl⟩ := hp
  exact ret _ _ h2 _ ⟨⟨hv, hvs⟩, rfl⟩ F2 N2
/-- x names the function at f -/
noncomputable def GF (x : Str) (f : Addr) : Prop := (∀ P, nsIn (hpK P) mainGlobals x = some (some (.ref f))) ∧ (∀ P, keepIn (hpK P) (.ref f) = true) ∧ (x == (Str.ofString "__debug__")) = false
noncomputable def Sc.glob (S : Sc) (x : Str) : Bool := match S.scope.names.lookup x with
  | some .globalImplicit => true
  | _ => false
theorem Sc.glob_eq (h : S.glob x = true) : S.scope.names.lookup x = some .globalImplicit := by
  unfold Sc.glob at h
  split at h
  · assumption
  · cases h
theorem call_fin {P : Value → Led → Prop} {d : Nat} {f : Addr} {vs : List Value} {s : Shared} {m : Str → Option Value} {Q : Value → Shared → Prop} (C : Spec c.W.w c.W.mg c.W.mb c.W.mean d (call (.ref f) vs) n P) (hd : Nat.ble d S.d = true) (ok : c.Ok S) (F : Fr c.g c.L s.heap m) (N : News c.g c.L s.heap n)
    (ret : ∀ v n' h' tk', P v n' → Fr c.g c.L h' m → News c.g c.L h' n' → Q v { s with heap := h', toks := tk' }) : wpAny (model prg c.W.w) (c.A S) (call (.ref f) vs) Q no s := by
  have hd' := Nat.le_of_ble_eq_true hd
  have o1 := ok.dp
  have o2 := ok.un
  exact C.use ok.B F ok.X N ok.T ok.S.kind (by omega) (by omega) ret
theorem call_core {x : Str} {f : Addr} {e0 : Expr} {es : List Expr} {p1 p2 : Pos} {Vs : List AV} {d : Nat} {P : Value → Led → Prop} (hg : GF x f) (hk : S.glob x = true) (ha : EA c S l n p2 (e0 :: es) Vs) (hp : (e0 :: es).all plainE = true)
    (C : ∀ vs, HasAll Vs vs → Spec c.W.w c.W.mg c.W.mb c.W.mean d (call (.ref f) vs) n P) (hd : Nat.ble d S.d = true) : CE c S l n (eval (.Call (.Name x p1) (e0 :: es) [] p2) (c.env S)) P := by
  intro ok s m Q r F N ret
  refine Call_ ?_
  refine nameX_K F ok.X (topRead_of ok.T) (hg.1 _) ?_ ok.S.kind (Sc.glob_eq hk) hg.2.2
  rw [List.all_cons, Bool.and_eq_true] at hp
  refine callWith_K ok.X (hg.2.1 _) ?_ (star_plain hp.1) (star_all hp.2)
  refine ha ok s m _ r F N (fun vs n' h' tk' hq F' N' => ?_)
  obtain ⟨hvs, rfl⟩ := hq
  exact ⟨ok.X.keeps F'.keep, call_fin (C vs hvs) hd ok F' N' ret⟩
theorem call_core0 {x : Str} {f : Addr} {p1 p2 : Pos} {d : Nat} {P : Value → Led → Prop} (hg : GF x f) (hk : S.glob x = true)
    (C : Spec c.W.w c.W.mg c.W.mb c.W.mean d (call (.ref f) []) n P) (hd : Nat.ble d S.d = true) : CE c S l n (eval (.Call (.Name x p1) [] [] p2) (c.env S)) P := by
  intro ok s m Q r F N ret
  refine Call_ ?_
  refine nameX_K F ok.X (topRead_of ok.T) (hg.1 _) ?_ ok.S.kind (Sc.glob_eq hk) hg.2.2
  exact callWith_K0 (ok.X.keeps F.keep) (hg.2.1 _) (call_fin C hd ok F N ret)
theorem EP_call {x : Str} {f : Addr} {e0 : Expr} {es : List Expr} {p1 p2 : Pos} {Vs : List AV} {d : Nat} {V : AV} (hg : GF x f) (hk : S.glob x = true) (ha : EA c S l n p2 (e0 :: es) Vs) (hp : (e0 :: es).all plainE = true)
    (C : CP c.W d n f Vs V) (hd : Nat.ble d S.d = true) : EP c S l n (.Call (.Name x p1) (e0 :: es) [] p2) V := by
  intro ok s m Q r F N ret
  refine call_core hg hk ha hp C hd ok s m Q r F N (fun v n' h' tk' hp F' N' => ret v n' h' tk' ⟨hp.2, hp.1⟩ F' N')
theorem EC_call {x : Str} {f : Addr} {e0 : Expr} {es : List Expr} {p1 p2 : Pos} {Vs : List AV} {d : Nat} {X : Type} {P : X → Prop} {fV : X → AV} {fn : X → Led} (hg : GF x f) (hk : S.glob x = true) (ha : EA c S l n p2 (e0 :: es) Vs) (hp : (e0 :: es).all plainE = true)
    (C : CC c.W d n f Vs X P fV fn) (hd : Nat.ble d S.d = true) : EC c S l n (.Call (.Name x p1) (e0 :: es) [] p2) X P fV fn := call_core hg hk ha hp C hd
/-- the class of lexers has the method x at f -/
structure GM (cls : Addr) (x : Str) (f : Addr) : Prop where
  plain : ∀ P, plainGet (hpK P) cls x = true
  find : ∀ P, findIn (hpK P) (.ref cls) x = some (some (.ref f))
  fn : ∀ P, isFn (hpK P) (.ref f) = true
  keep : ∀ P, keepIn (hpK P) (.ref f) = true
theorem meth_core {x : Str} {f ox dx cls : Addr} {o : Expr} {e0 : Expr} {es : List Expr} {ds : List DictEntry} {dn : Nat} {p1 p2 : Pos} {Vs : List AV} {d : Nat} {P : Value → Led → Prop} (ho : EP c S l n o (.is (.ref ox))) (hg : GM cls x f)
    (hm1 : (ox, instObj cls dx) ∈ n) (hm2 : (dx, dictOf ds dn) ∈ n) (hl : getL x ds = some none) (ha : EA c S l n p2 (e0 :: es) Vs) (hp : (e0 :: es).all plainE = true)
    (C : ∀ vs, HasAll Vs vs → Spec c.W.w c.W.mg c.W.mb c.W.mean d (call (.ref f) (.ref ox :: vs)) n P) (hd : Nat.ble d S.d = true) {pl : Sem Bool} (hme : eval (.Call (.Attribute o x p1) (e0 :: es) [] p2) (c.env S) = (do
      let ov ← eval o (c.env S)
      standAt p1.atName
      let (f, first) ← holding [ov] (getMethod ov x pl)
      callWith p2 f first (backTo p2 (starEach (e0 :: es) (c.env S))) [])) : CE c S l n (eval (.Call (.Attribute o x p1) (e0 :: es) [] p2) (c.env S)) P := by
  intro ok s m Q r F N ret
  refine MethodCall_ ?_ hme
  refine ho ok s m _ r F N (fun v n' h' tk' hp2 F' N' => ?_)
  obtain ⟨rfl, rfl⟩ := hp2
  refine method_inst F' ok.X (InstAt.of_news N' hm1 hm2) (hg.plain _) (hg.find _) (hg.fn _) hl ?_
  rw [List.all_cons, Bool.and_eq_true] at hp
  refine callWith_K ok.X (hg.keep _) ?_ (star_plain hp.1) (star_all hp.2)
  refine ha ok _ m _ r F' N' (fun vs n2 h2 tk2 hq F2 N2 => ?_)
  obtain ⟨hvs, rfl⟩ := hq
  exact ⟨ok.X.keeps F2.keep, call_fin (C vs hvs) hd ok F2 N2 ret⟩
/- statements -/
inductive SetR : Loc → Str → AV → Loc → Prop
  | hd {x : Str} {V0 V : AV} {l : Loc} : SetR ((x, V0) :: l) x V ((x, V) :: l)
  | tl {p : Str × AV} {x : Str} {V : AV} {l l' : Loc} : SetR l x V l' → SetR (p :: l) x V (p :: l')
theorem SetR.keys {l l' : Loc} {x : Str} {V : AV} (h : SetR l x V l') : l'.map Prod.fst = l.map Prod.fst ∧ x ∈ l.map Prod.fst := by
  induction h with
  | hd => exact ⟨rfl, .head _⟩
  | tl _ ih => exact ⟨by rw [List.map_cons, List.map_cons, ih.1], .tail _ ih.2⟩
theorem hasO_some {V : AV} {v : Value} (h : V.has v) : hasO V (some v) := by
  cases V with
  | un => trivial
  | int i => exact ⟨v, rfl, h⟩
  | str y => exact ⟨v, rfl, h⟩
  | is u => exact ⟨v, rfl, h⟩
theorem SetR.rep {l l' : Loc} {x : Str} {V : AV} (h : SetR l x V l') {m : Str → Option Value} {v : Value} (hn : (l.map Prod.fst).Nodup) (r : ∀ p ∈ l, hasO p.2 (m p.1)) (hv : V.has v) : ∀ p ∈ l', hasO p.2 (if p.1 = x then some v else m p.1) := by
  induction h with
  | @hd x V0 V l =>
    intro p hp
    rw [List.map_cons, List.nodup_cons] at hn
    cases hp with
    | head => rw [if_pos rfl]; exact hasO_some hv
    | tail _ hp =>
      rw [if_neg]
      · exact r _ (.tail _ hp)
      · intro e
        exact hn.1 (e ▸ List.mem_map.mpr ⟨_, hp, rfl⟩)
  | @tl q x V l l' h ih =>
    intro p hp
    rw [List.map_cons, List.nodup_cons] at hn
    cases hp with
    | head =>
      rw [if_neg]
      · exact r _ (.head _)
      · intro e
        exact hn.1 (e ▸ h.keys.2)
    | tail _ hp => exact ih hn.2 (fun p hp => r p (.tail _ hp)) hv p hp
theorem Rep.set {l l' : Loc} {x : Str} {V : AV} {m : Str → Option Value} {v : Value} (ok : S.Ok) (r : Rep S l m) (h : SetR l x V l') (hv : V.has v) : Rep S l' (fun y => if y = x then some v else m y) :=
  ⟨h.keys.1.trans r.keys, h.rep (r.keys ▸ ok.nod) r.get hv⟩
theorem Rep.loc {l l' : Loc} {x : Str} {V : AV} {m : Str → Option Value} (ok : S.Ok) (r : Rep S l m) (h : SetR l x V l') : S.scope.names.lookup x = some .local := (ok.loc x (r.keys ▸ h.keys.2)).1
theorem SS_nil (h : K l n) : SS c S R l n [] K := fun _ s m Q r F N next _ => wpAny_execs_nil (next l m n s.heap s.toks h r F N)
theorem SS_cons {K1 : Loc → Led → Prop} {st : Stmt} (h : SX c S R l n st K1) (hk : ∀ l' n', K1 l' n' → SS c S R l' n' rest K) : SS c S R l n (st :: rest) K := by
  intro ok s m Q r F N next ret
  refine wpAny_execs_cons ?_
  refine h ok s m _ r F N (fun l' m' n' h' tk' hK r' F' N' => ?_) (fun V v m' n' h' tk' hR hv F' N' => ret V v m' n' h' tk' hR hv F' N')
  exact hk l' n' hK ok _ m' Q r' F' N' next ret
theorem SS_ret {e : Expr} {V : AV} {p : Pos} (he : EP c S l n e V) (h : R V n) : SS c S R l n (.Return (some e) p :: rest) K := by
  refine SS_cons (K1 := fun _ _ => False) ?_ (fun _ _ x => x.elim)
  intro ok s m Q r F N next ret
  refine wpAny_Return_some ?_
  refine he ok s m _ r F N (fun v n' h' tk' hp F' N' => ?_)
  obtain ⟨hv, rfl⟩ := hp
  exact ret V v m _ h' tk' h hv F' N'
theorem SS_ret0 {p : Pos} (h : R (.is .none) n) : SS c S R l n (.Return none p :: rest) K := by
  refine SS_cons (K1 := fun _ _ => False) ?_ (fun _ _ x => x.elim)
  intro ok s m Q r F N next ret
  exact wpAny_Return_none (ret _ _ m _ s.heap s.toks h rfl F N)
theorem SS_retC {e : Expr} {X : Type} {P : X → Prop} {fV : X → AV} {fn : X → Led} {p : Pos} (he : EC c S l n e X P fV fn) (h : ∀ x, P x → R (fV x) (fn x)) : SS c S R l n (.Return (some e) p :: rest) K := by
  refine SS_cons (K1 := fun _ _ => False) ?_ (fun _ _ x => x.elim)
  intro ok s m Q r F N next ret
  refine wpAny_Return_some ?_
  refine he ok s m _ r F N (fun v n' h' tk' hp F' N' => ?_)
  obtain ⟨x, hx, hv, rfl⟩ := hp
  exact ret _ v m _ h' tk' (h x hx) hv F' N'
noncomputable def plainS : Expr → Bool
  | .ListComp .. => false
  | .SetComp .. => false
  | .DictComp .. => false
  | _ => true
theorem swap_plain {e : Expr} {x : Option Expr} {k : Nat} {env : Env} (h : plainS e = true) : swapsWith e x k env = pure false := by
  cases e <;> first | rfl | cases h
theorem SS_set {x : Str} {e : Expr} {V : AV} {p p' : Pos} (he : EP c S l n e V) (hp : plainS e = true) (hs : SetR l x V l') (h : SS c S R l' n rest K) : SS c S R l n (.Assign [.Name x p'] e p :: rest) K := by
  refine SS_cons (K1 := fun l1 n1 => l1 = l' ∧ n1 = n) ?_ (by rintro _ _ ⟨rfl, rfl⟩; exact h)
  intro ok s m Q r F N next ret
  refine wpAny_Assign_Name ?_ (swap_plain hp)
  refine he ok s m _ r F N (fun v n' h' tk' hp F' N' => ?_)
  obtain ⟨hv, rfl⟩ := hp
  exact storeX_L F' N' (fun h2 F2 N2 => next _ _ _ h2 _ ⟨rfl, rfl⟩ (r.set ok.S hs hv) F2 N2) ok.S.kind (r.loc ok.S hs)
theorem SS_setC {x : Str} {e : Expr} {X : Type} {P : X → Prop} {fV : X → AV} {fn : X → Led} {fl : X → Loc} {p p' : Pos} (he : EC c S l n e X P fV fn) (hp : plainS e = true) (hs : ∀ y, SetR l x (fV y) (fl y)) (h : ∀ y, P y → SS c S R (fl y) (fn y) rest K) : SS c S R l n (.Assign [.Name x p'] e p :: rest) K := by
  refine SS_cons (K1 := fun l1 n1 => ∃ y, P y ∧ l1 = fl y ∧ n1 = fn y) ?_ (by rintro _ _ ⟨y, hy, rfl, rfl⟩; exact h y hy)
  intro ok s m Q r F N next ret
  refine wpAny_Assign_Name ?_ (swap_plain hp)
  refine he ok s m _ r F N (fun v n' h' tk' hp F' N' => ?_)
  obtain ⟨y, hy, hv, rfl⟩ := hp
  exact storeX_L F' N' (fun h2 F2 N2 => next _ _ _ h2 _ ⟨y, hy, rfl, rfl⟩ (r.set ok.S (hs y) hv) F2 N2) ok.S.kind (r.loc ok.S (hs y))
theorem SS_expr {e : Expr} {X : Type} {P : X → Prop} {fV : X → AV} {fn : X → Led} {p : Pos} (he : EC c S l n e X P fV fn) (hp : plainS e = true) (h : ∀ y, P y → SS c S R l (fn y) rest K) : SS c S R l n (.Expr e p :: rest) K := by
  refine SS_cons (K1 := fun l1 n1 => ∃ y, P y ∧ l1 = l ∧ n1 = fn y) ?_ (by rintro _ _ ⟨y, hy, rfl, rfl⟩; exact h y hy)
  intro ok s m Q r F N next ret
  refine wpAny_Expr_any ?_ (by show (S.scope.kind == .module && _) = false; rw [ok.S.kind]; rfl) (swap_plain hp)
  refine he ok s m _ r F N (fun v n' h' tk' hp F' N' => ?_)
  obtain ⟨y, hy, hv, rfl⟩ := hp
  exact next _ _ _ h' _ ⟨y, hy, rfl, rfl⟩ r F' N'
theorem SG_mono {t : Sem Flow} {K1 : Loc → Led → Prop} (h : SG c S R l n t K1) (hk : ∀ l' n', K1 l' n' → K l' n') : SG c S R l n t K :=
  fun ok s m Q r F N next ret => h ok s m Q r F N (fun l' m' n' h' tk' hK => next l' m' n' h' tk' (hk _ _ hK)) ret
theorem SS_if {t : Expr} {A B : List Stmt} {T F : Prop} {p : Pos} (ht : TT c S l n t T F)
    (h : ∀ K' : Loc → Led → Prop, (∀ l' n', SS c S R l' n' rest K → K' l' n') → (T → SS c S R l n A K') ∧ (F → SS c S R l n B K')) : SS c S R l n (.If t A B p :: rest) K := by
  refine SS_cons (K1 := fun l' n' => SS c S R l' n' rest K) ?_ (fun _ _ x => x)
  have h2 := h _ (fun l' n' x => x)
  intro ok s m Q r Fr N next ret
  refine wpAny_If ?_
  refine ht ok s m _ r Fr N (fun b1 n' h' tk' hp F' N' => ?_)
  obtain ⟨rfl, ⟨rfl, ht⟩ | ⟨rfl, hf⟩⟩ := hp
  · exact h2.1 ht ok _ m Q r F' N' next ret
  · exact h2.2 hf ok _ m Q r F' N' next ret
/-- an if whose branches both hand back, or that falls through to the rest only where the test fails -/
theorem SS_ifr {t : Expr} {A : List Stmt} {T F : Prop} {p : Pos} (ht : TT c S l n t T F) (h1 : T → SS c S R l n A (fun l' n' => SS c S R l' n' rest K)) (h2 : F → SS c S R l n rest K) : SS c S R l n (.If t A [] p :: rest) K :=
  SS_if ht fun K' hK => ⟨fun h => SG_mono (h1 h) hK, fun h => SS_nil (hK _ _ (h2 h))⟩
theorem SS_ife {t : Expr} {A B : List Stmt} {T F : Prop} {p : Pos} (ht : TT c S l n t T F) (h1 : T → SS c S R l n A (fun l' n' => SS c S R l' n' rest K)) (h2 : F → SS c S R l n B (fun l' n' => SS c S R l' n' rest K)) : SS c S R l n (.If t A B p :: rest) K :=
  SS_if ht fun K' hK => ⟨fun h => SG_mono (h1 h) hK, fun h => SG_mono (h2 h) hK⟩
/-- less is known of the locals -/
inductive LeR : Loc → Loc → Prop
  | nil : LeR [] []
  | same {p : Str × AV} {l l' : Loc} : LeR l l' → LeR (p :: l) (p :: l')
  | un {x : Str} {V : AV} {l l' : Loc} : LeR l l' → LeR ((x, V) :: l) ((x, .un) :: l')
theorem LeR.rep {l l' : Loc} (h : LeR l l') {m : Str → Option Value} (r : Rep S l m) : Rep S l' m := by
  have h1 : l'.map Prod.fst = l.map Prod.fst := by
    clear r
    induction h with
    | nil => rfl
    | same _ ih => rw [List.map_cons, List.map_cons, ih]
    | un _ ih => rw [List.map_cons, List.map_cons, ih]
  refine ⟨h1.trans r.keys, ?_⟩
  have g := r.get
  clear r h1
  induction h with
  | nil => exact g
  | same _ ih =>
    intro p hp
    cases hp with
    | head => exact g _ (.head _)
    | tail _ hp => exact ih (fun p hp => g p (.tail _ hp)) p hp
  | un _ ih =>
    intro p hp
    cases hp with
    | head => trivial
    | tail _ hp => exact ih (fun p hp => g p (.tail _ hp)) p hp
theorem LeR.refl (l : Loc) : LeR l l := by
  induction l with
  | nil => exact .nil
  | cons p l ih => exact .same ih
theorem SS_while {σ : Type} {t : Expr} {B : List Stmt} {p : Pos} (fl : σ → Loc) (fn : σ → Led) (I : σ → Prop) (μ : σ → Nat) (x₀ : σ) (h0 : I x₀) (hl : LeR l (fl x₀)) (hn : ∀ p ∈ fn x₀, p ∈ n)
    (turn : ∀ x, I x → ∀ K' : Loc → Led → Prop, (∀ y l' n', I y → μ y < μ x → LeR l' (fl y) → (∀ p ∈ fn y, p ∈ n') → K' l' n') →
      ∃ T F : Prop, TT c S (fl x) (fn x) t T F ∧ (T → SS c S R (fl x) (fn x) B K') ∧ (F → SS c S R (fl x) (fn x) rest K)) : SS c S R l n (.While t B [] p :: rest) K := by
  refine SS_cons (K1 := fun l' n' => SS c S R l' n' rest K) ?_ (fun _ _ x => x)
  intro ok s m Q r F N next ret
  refine While_inv2 (fun k m' nx => ∃ y, I y ∧ μ y = k ∧ Rep S (fl y) m' ∧ nx = fn y) F (fun p hp => N p (hn p hp)) ⟨x₀, h0, rfl, hl.rep r, rfl⟩ ?_ PassesOwn.never
  rintro k m₁ nx h₁ tk₁ F₁ N₁ ⟨x, hx, rfl, r₁, rfl⟩
  obtain ⟨T, Fp, h1, h2, h3⟩ := turn x hx (fun l' n' => ∃ y, I y ∧ μ y < μ x ∧ LeR l' (fl y) ∧ (∀ p ∈ fn y, p ∈ n')) (fun y l' n' a b c d => ⟨y, a, b, c, d⟩)
  refine h1 ok _ m₁ _ r₁ F₁ N₁ (fun b1 n' h' tk' hp F' N' => ?_)
  obtain ⟨rfl, ⟨rfl, ht⟩ | ⟨rfl, hf⟩⟩ := hp
  · rw [if_pos rfl]
    refine h2 ht ok _ m₁ _ r₁ F' N' (fun l' m' n' h2 tk2 hK r' F2 N2 => ?_) (fun V v m' n' h2 tk2 hR hv F2 N2 => ?_)
    · obtain ⟨y, a, b, c, d⟩ := hK
      exact ⟨h2, tk2, m', fn y, μ y, rfl, F2, fun p hp => N2 p (d p hp), b, y, a, rfl, c.rep r', rfl⟩
    · exact ret V v m' n' h2 tk2 hR hv F2 N2
  · rw [if_neg nofun]
    exact next _ _ _ h' _ (h3 hf) r₁ F' N'
end
end Mine
namespace Mine
noncomputable abbrev uns (us : List Str) : Loc := us.map fun x => (x, AV.un)
theorem uns_ok {us : List Str} {m : Str → Option Value} : ∀ p ∈ uns us, hasO p.2 (m p.1) := by
  intro p hp
  obtain ⟨x, _, rfl⟩ := List.mem_map.mp hp
  trivial
theorem uns_keys {us : List Str} : (uns us).map Prod.fst = us := by
  induction us with
  | nil => rfl
  | cons x us ih => exact congrArg _ ih
section
variable {W : Wd} {d : Nat} {n : Led} {f : Addr} {Vs : List AV} {X : Type} {P : X → Prop} {fV : X → AV} {fn : X → Led} {name qual : Str} {params : Arguments} {body : List Stmt} {scope : Scope} {dV kV doc pm cdv ct oc : Value} {an od : Option Addr} {osl : Array (Option Value)} {ns : List Str} {l0 : Loc}
theorem fn_core (ho : (hpK W.w.params).lookup f = some ⟨oc, od, .func (fnOf name qual params body scope dV kV doc pm an cdv ct), osl⟩) (hcd : codeIn (hpK W.w.params) cdv qual = true) (hok : Sc.Ok ⟨scope, d, ns⟩)
    (hb : ∀ vs, HasAll Vs vs → ∃ binds, bindArgs (fnOf name qual params body scope dV kV doc pm an cdv ct) ⟨vs, []⟩ = pure binds ∧ (∀ x ∈ binds, x.1 ∈ ns) ∧ (∀ p ∈ l0, hasO p.2 (binds.reverse.lookup p.1))) (hl : l0.map Prod.fst = ns)
    (hco : scope.isCoroutine = false) (hgen : scope.isGenerator = false) (hcell : (scope.names.all fun x => decide (x.2 ≠ .cell)) = true)
    (H : ∀ (c : Cx) (R : AV → Led → Prop), (∀ x V n', P x → V = fV x → (∀ p ∈ fn x, p ∈ n') → R V n') → SS c ⟨scope, d, ns⟩ R l0 n body (fun _ n' => R (.is .none) n')) : CC W (d + 1) n f Vs X P fV fn := by
  intro vs hvs
  obtain ⟨binds, b1, b2, b3⟩ := hb vs hvs
  have hcell' : ∀ x ∈ scope.names, x.2 ≠ .cell := fun x hx => of_decide_eq_true (List.all_eq_true.mp hcell x hx)
  refine Spec.fn binds binds.reverse ho hcd b1 rfl (List.all_eq_true.mpr fun x hx => decide_eq_true (hok.loc x.1 (b2 x hx)).1) hco hgen hok.kind hcell' ?_
  intro dp un gd outer A₀ base g L s B F X' N T hdp hun
  have h := H ⟨W, dp, un, gd, qual, L, f, cdv, outer, A₀, base, g⟩ (fun V n' => ∃ x : X, P x ∧ V = fV x ∧ (∀ p ∈ fn x, p ∈ n')) (fun x V n' h1 h2 h3 => ⟨x, h1, h2, h3⟩) ⟨B, X', T, hdp, hun, hok⟩ s (fun y => binds.reverse.lookup y) (Back s g L (fun v n' => ∃ x : X, P x ∧ (fV x).has v ∧ n' = fn x)) ⟨hl, b3⟩ F N
    (fun l' m' n' h' tk' hK r' F' N' => by
      obtain ⟨x, h1, h2, h3⟩ := hK
      exact back_nsub F' N' ⟨x, h1, h2 ▸ rfl, rfl⟩ h3)
    (fun V v m' n' h' tk' hR hv F' N' => by
      obtain ⟨x, h1, h2, h3⟩ := hR
      exact back_sub F' N' ⟨x, h1, h2 ▸ hv, rfl⟩ h3)
  exact h
theorem has_cons {V : AV} {Vs : List AV} {vs : List Value} (h : HasAll (V :: Vs) vs) : ∃ v r, vs = v :: r ∧ V.has v ∧ HasAll Vs r := by
  cases vs with
  | nil => exact h.elim
  | cons v r => exact ⟨v, r, rfl, h.1, h.2⟩
theorem has_nil {vs : List Value} (h : HasAll [] vs) : vs = [] := by
  cases vs with
  | nil => rfl
  | cons v r => exact h.elim
theorem has1 {V : AV} {vs : List Value} (h : HasAll [V] vs) : ∃ v, vs = [v] ∧ V.has v := by
  obtain ⟨v, r, rfl, h1, h2⟩ := has_cons h
  cases has_nil h2
  exact ⟨v, rfl, h1⟩
theorem has2 {V V2 : AV} {vs : List Value} (h : HasAll [V, V2] vs) : ∃ v v2, vs = [v, v2] ∧ V.has v ∧ V2.has v2 := by
  obtain ⟨v, r, rfl, h1, h2⟩ := has_cons h
  obtain ⟨v2, rfl, h3⟩ := has1 h2
  exact ⟨v, v2, rfl, h1, h3⟩
theorem hasO_or {V : AV} {o o' : Option Value} (h : hasO V o) : hasO V (o.or o') := by
  cases V with
  | un => trivial
  | int i => obtain ⟨v, rfl, h⟩ := h; exact ⟨v, rfl, h⟩
  | str x => obtain ⟨v, rfl, h⟩ := h; exact ⟨v, rfl, h⟩
  | is u => obtain ⟨v, rfl, h⟩ := h; exact ⟨v, rfl, h⟩
theorem zip_keys {xs : List Str} {Vs : List AV} {vs : List Value} (h : HasAll Vs vs) : ∀ p ∈ xs.zip vs, p.1 ∈ xs := fun p hp => (List.of_mem_zip hp).1
theorem zip_has {xs : List Str} {Vs : List AV} {vs : List Value} (hn : xs.Nodup) (h : HasAll Vs vs) : ∀ p ∈ xs.zip Vs, hasO p.2 ((xs.zip vs).reverse.lookup p.1) := by
  induction xs generalizing Vs vs with
  | nil => intro p hp; cases hp
  | cons x xs ih =>
    cases Vs with
    | nil => intro p hp; cases hp
    | cons V Vs =>
      obtain ⟨v, r, rfl, hv, h⟩ := has_cons h
      have hn2 := List.nodup_cons.mp hn
      intro p hp
      rw [List.zip_cons_cons, List.reverse_cons, List.lookup_append]
      rcases List.mem_cons.mp hp with rfl | hp
      · have e : List.lookup x (xs.zip r).reverse = none := List.lookup_eq_none_iff.mpr fun q hq => by
          have := zip_keys h q (List.mem_reverse.mp hq)
          simp only [bne_iff_ne, ne_eq]
          exact fun e => hn2.1 (e ▸ this)
        dsimp only
        rw [e, Option.none_or, List.lookup_cons_self]
        exact hasO_some hv
      · exact hasO_or (ih hn2.2 h p hp)
section
variable {x1 x2 x3 x4 : Str} {V1 V2 V3 V4 : AV} {us xs : List Str}
theorem fnL (ho : (hpK W.w.params).lookup f = some ⟨oc, od, .func (fnOf name qual params body scope dV kV doc pm an cdv ct), osl⟩) (hcd : codeIn (hpK W.w.params) cdv qual = true) (hok : Sc.Ok ⟨scope, d, xs ++ us⟩) (hlen : xs.length = Vs.length)
    (hb : ∀ vs, HasAll Vs vs → bindArgs (fnOf name qual params body scope dV kV doc pm an cdv ct) ⟨vs, []⟩ = pure (xs.zip vs))
    (hco : scope.isCoroutine = false) (hgen : scope.isGenerator = false) (hcell : (scope.names.all fun x => decide (x.2 ≠ .cell)) = true)
    (H : ∀ (c : Cx) (R : AV → Led → Prop), (∀ x V n', P x → V = fV x → (∀ p ∈ fn x, p ∈ n') → R V n') → SS c ⟨scope, d, xs ++ us⟩ R (xs.zip Vs ++ uns us) n body (fun _ n' => R (.is .none) n')) : CC W (d + 1) n f Vs X P fV fn := by
  refine fn_core (l0 := xs.zip Vs ++ uns us) ho hcd hok ?_ ?_ hco hgen hcell H
  · intro vs hvs
    refine ⟨_, hb vs hvs, fun x hx => List.mem_append.mpr (.inl (zip_keys hvs x hx)), fun p hp => ?_⟩
    rcases List.mem_append.mp hp with hp | hp
    · exact zip_has (List.nodup_append.mp hok.nod).1 hvs p hp
    · exact uns_ok (m := fun y => List.lookup y _) p hp
  · rw [List.map_append, uns_keys, List.map_fst_zip (by rw [hlen]; exact Nat.le_refl _)]
theorem fn1 (ho : (hpK W.w.params).lookup f = some ⟨oc, od, .func (fnOf name qual params body scope dV kV doc pm an cdv ct), osl⟩) (hcd : codeIn (hpK W.w.params) cdv qual = true) (hok : Sc.Ok ⟨scope, d, x1 :: us⟩)
    (hb : ∀ v1, bindArgs (fnOf name qual params body scope dV kV doc pm an cdv ct) ⟨[v1], []⟩ = pure [(x1, v1)])
    (hco : scope.isCoroutine = false) (hgen : scope.isGenerator = false) (hcell : (scope.names.all fun x => decide (x.2 ≠ .cell)) = true)
    (H : ∀ (c : Cx) (R : AV → Led → Prop), (∀ x V n', P x → V = fV x → (∀ p ∈ fn x, p ∈ n') → R V n') → SS c ⟨scope, d, x1 :: us⟩ R ((x1, V1) :: uns us) n body (fun _ n' => R (.is .none) n')) : CC W (d + 1) n f [V1] X P fV fn :=
  fnL (xs := [x1]) ho hcd hok rfl (fun vs h => by
    obtain ⟨v1, vs, rfl, -, g1⟩ := has_cons h
    obtain rfl := has_nil g1
    exact hb v1) hco hgen hcell H
theorem fn2 (ho : (hpK W.w.params).lookup f = some ⟨oc, od, .func (fnOf name qual params body scope dV kV doc pm an cdv ct), osl⟩) (hcd : codeIn (hpK W.w.params) cdv qual = true) (hok : Sc.Ok ⟨scope, d, x1 :: x2 :: us⟩)
    (hb : ∀ v1 v2, bindArgs (fnOf name qual params body scope dV kV doc pm an cdv ct) ⟨[v1, v2], []⟩ = pure [(x1, v1), (x2, v2)])
    (hco : scope.isCoroutine = false) (hgen : scope.isGenerator = false) (hcell : (scope.names.all fun x => decide (x.2 ≠ .cell)) = true)
    (H : ∀ (c : Cx) (R : AV → Led → Prop), (∀ x V n', P x → V = fV x → (∀ p ∈ fn x, p ∈ n') → R V n') → SS c ⟨scope, d, x1 :: x2 :: us⟩ R ((x1, V1) :: (x2, V2) :: uns us) n body (fun _ n' => R (.is .none) n')) : CC W (d + 1) n f [V1, V2] X P fV fn :=
  fnL (xs := [x1, x2]) ho hcd hok rfl (fun vs h => by
    obtain ⟨v1, vs, rfl, -, g1⟩ := has_cons h
    obtain ⟨v2, vs, rfl, -, g2⟩ := has_cons g1
    obtain rfl := has_nil g2
    exact hb v1 v2) hco hgen hcell H
theorem fn3 (ho : (hpK W.w.params).lookup f = some ⟨oc, od, .func (fnOf name qual params body scope dV kV doc pm an cdv ct), osl⟩) (hcd : codeIn (hpK W.w.params) cdv qual = true) (hok : Sc.Ok ⟨scope, d, x1 :: x2 :: x3 :: us⟩)
    (hb : ∀ v1 v2 v3, bindArgs (fnOf name qual params body scope dV kV doc pm an cdv ct) ⟨[v1, v2, v3], []⟩ = pure [(x1, v1), (x2, v2), (x3, v3)])
    (hco : scope.isCoroutine = false) (hgen : scope.isGenerator = false) (hcell : (scope.names.all fun x => decide (x.2 ≠ .cell)) = true)
    (H : ∀ (c : Cx) (R : AV → Led → Prop), (∀ x V n', P x → V = fV x → (∀ p ∈ fn x, p ∈ n') → R V n') → SS c ⟨scope, d, x1 :: x2 :: x3 :: us⟩ R ((x1, V1) :: (x2, V2) :: (x3, V3) :: uns us) n body (fun _ n' => R (.is .none) n')) : CC W (d + 1) n f [V1, V2, V3] X P fV fn :=
  fnL (xs := [x1, x2, x3]) ho hcd hok rfl (fun vs h => by
    obtain ⟨v1, vs, rfl, -, g1⟩ := has_cons h
    obtain ⟨v2, vs, rfl, -, g2⟩ := has_cons g1
    obtain ⟨v3, vs, rfl, -, g3⟩ := has_cons g2
    obtain rfl := has_nil g3
    exact hb v1 v2 v3) hco hgen hcell H
theorem fn4 (ho : (hpK W.w.params).lookup f = some ⟨oc, od, .func (fnOf name qual params body scope dV kV doc pm an cdv ct), osl⟩) (hcd : codeIn (hpK W.w.params) cdv qual = true) (hok : Sc.Ok ⟨scope, d, x1 :: x2 :: x3 :: x4 :: us⟩)
    (hb : ∀ v1 v2 v3 v4, bindArgs (fnOf name qual params body scope dV kV doc pm an cdv ct) ⟨[v1, v2, v3, v4], []⟩ = pure [(x1, v1), (x2, v2), (x3, v3), (x4, v4)])
    (hco : scope.isCoroutine = false) (hgen : scope.isGenerator = false) (hcell : (scope.names.all fun x => decide (x.2 ≠ .cell)) = true)
    (H : ∀ (c : Cx) (R : AV → Led → Prop), (∀ x V n', P x → V = fV x → (∀ p ∈ fn x, p ∈ n') → R V n') → SS c ⟨scope, d, x1 :: x2 :: x3 :: x4 :: us⟩ R ((x1, V1) :: (x2, V2) :: (x3, V3) :: (x4, V4) :: uns us) n body (fun _ n' => R (.is .none) n')) : CC W (d + 1) n f [V1, V2, V3, V4] X P fV fn :=
  fnL (xs := [x1, x2, x3, x4]) ho hcd hok rfl (fun vs h => by
    obtain ⟨v1, vs, rfl, -, g1⟩ := has_cons h
    obtain ⟨v2, vs, rfl, -, g2⟩ := has_cons g1
    obtain ⟨v3, vs, rfl, -, g3⟩ := has_cons g2
    obtain ⟨v4, vs, rfl, -, g4⟩ := has_cons g3
    obtain rfl := has_nil g4
    exact hb v1 v2 v3 v4) hco hgen hcell H
theorem CP.of (h : CC W d n f Vs Unit (fun _ => True) (fun _ => V1) (fun _ => n)) : CP W d n f Vs V1 := fun vs hvs => (h vs hvs).mono fun v n' ⟨_, _, h1, h2⟩ => ⟨h2, h1⟩
end
end
noncomputable def okb (s : Scope) (ns : List Str) : Bool := s.kind == .function && (ns.all fun x => decide (s.names.lookup x = some .local) && !(x == (Str.ofString "__debug__"))) && decide ns.Nodup
theorem ok_of {s : Scope} {d : Nat} {ns : List Str} (h : okb s ns = true) : Sc.Ok ⟨s, d, ns⟩ := by
  unfold okb at h
  rw [Bool.and_eq_true, Bool.and_eq_true] at h
  obtain ⟨⟨h1, h2⟩, h3⟩ := h
  refine ⟨eq_of_beq h1, of_decide_eq_true h3, fun x hx => ?_⟩
  have h4 := List.all_eq_true.mp h2 x hx
  rw [Bool.and_eq_true] at h4
  exact ⟨of_decide_eq_true h4.1, by simpa using h4.2⟩
end Mine
local macro_rules | `(tactic| walk_at "S e") => `(tactic| first | ((with_reducible refine' Mine.nm0 ?_); exact rfl) | ((with_reducible refine' Mine.nm1 ?_); exact rfl) | ((with_reducible refine' Mine.nm2 ?_); exact rfl) | ((with_reducible refine' Mine.nm3 ?_); exact rfl) | ((with_reducible refine' Mine.nm4 ?_); exact rfl) | ((with_reducible refine' Mine.nm5 ?_); exact rfl) | ((with_reducible refine' Mine.nm6 ?_); exact rfl) | ((with_reducible refine' Mine.nm7 ?_); exact rfl) | ((with_reducible refine' Mine.EP_name ?m ?v); (case m => walk_at "S mem"); (case v => exact rfl)) | with_reducible exact Mine.EP_int | with_reducible exact Mine.EP_str | with_reducible exact Mine.EP_boo | with_reducible exact Mine.EP_non | ((with_reducible refine' Mine.EP_add ?a ?b); (case a => walk_at "S e"); (case b => walk_at "S e")) | ((with_reducible refine' Mine.EP_sub ?a ?b); (case a => walk_at "S e"); (case b => walk_at "S e")) | ((with_reducible refine' Mine.EP_mul ?a ?b ?c); (case a => walk_at "S e"); (case b => walk_at "S e"); (case c => mul_fits)) | walk_at "S call" | walk_at "S more" | fail "S e")
local macro_rules | `(tactic| walk_at "S a") => `(tactic| first | with_reducible exact Mine.EA_nil | ((with_reducible refine' Mine.EA_cons ?a rfl ?c); (case a => walk_at "S e"); (case c => walk_at "S a")) | fail "S a")
local macro_rules | `(tactic| walk_at "S t") => `(tactic| first | ((with_reducible refine' Mine.TT_and ?a ?b); (case a => walk_at "S t"); (case b => intro ha; walk_at "S t")) | ((with_reducible refine' Mine.TT_or ?a ?b); (case a => walk_at "S t"); (case b => intro ha; walk_at "S t")) | ((with_reducible refine' Mine.TT_not ?a); (case a => walk_at "S t")) | ((with_reducible refine' Mine.TT_lt ?a ?b); (case a => walk_at "S e"); (case b => walk_at "S e")) | ((with_reducible refine' Mine.TT_le ?a ?b); (case a => walk_at "S e"); (case b => walk_at "S e")) | ((with_reducible refine' Mine.TT_gt ?a ?b); (case a => walk_at "S e"); (case b => walk_at "S e")) | ((with_reducible refine' Mine.TT_ge ?a ?b); (case a => walk_at "S e"); (case b => walk_at "S e")) | ((with_reducible refine' Mine.TT_eq ?a ?b); (case a => walk_at "S e"); (case b => walk_at "S e")) | ((with_reducible refine' Mine.TT_ne ?a ?b); (case a => walk_at "S e"); (case b => walk_at "S e")) | walk_at "S tmore" | ((with_reducible refine' Mine.TT_bool ?a rfl); (case a => walk_at "S e")) | fail "S t")
local macro_rules | `(tactic| walk_at "S p") => `(tactic| first | (with_reducible exact Mine.SetR.hd) | ((with_reducible refine' Mine.SetR.tl ?s); (case s => walk_at "S p")) | fail "S p")
local macro_rules | `(tactic| walk_at "S s") => `(tactic| first | ((with_reducible refine' Mine.SS_set ?a rfl ?b ?_); (case a => walk_at "S e"); (case b => walk_at "S p")) | ((with_reducible refine' Mine.SS_ifr ?a ?_ ?_); (case a => walk_at "S t")) | ((with_reducible refine' Mine.SS_ife ?a ?_ ?_); (case a => walk_at "S t")) | ((with_reducible refine' Mine.SS_ret ?a ?_); (case a => walk_at "S e")) | (with_reducible refine' Mine.SS_nil ?_) | walk_at "S smore" | walk_at "S tup" | fail "S s")
local macro_rules | `(tactic| walk_at "S fn") => `(tactic| ((iterate 2 kernel_rfl); intros; (dsimp only [Mine.uns, List.map])))
local macro_rules | `(tactic| walk_at "S n") => `(tactic| repeat (with_reducible refine' Mine.SS_nil ?_))
local macro_rules | `(tactic| walk_at "S mem") => `(tactic| first | (with_reducible exact List.mem_cons_self) | ((with_reducible refine' List.mem_cons_of_mem _ ?t); (case t => walk_at "S mem")) | fail "S mem")
namespace Mine
noncomputable abbrev tupO (vs : List Value) : Obj := { cls := .type "tuple", data := .seq vs.toArray }
inductive SetsR : Loc → List Str → List AV → Loc → Prop
  | nil {l : Loc} : SetsR l [] [] l
  | cons {l l1 l2 : Loc} {x : Str} {V : AV} {xs : List Str} {Vs : List AV} : SetR l x V l1 → SetsR l1 xs Vs l2 → SetsR l (x :: xs) (V :: Vs) l2
theorem HasAll.len {Vs : List AV} {vs : List Value} (h : HasAll Vs vs) : vs.length = Vs.length := by
  induction Vs generalizing vs with
  | nil => cases vs with
    | nil => rfl
    | cons _ _ => exact h.elim
  | cons V Vs ih => cases vs with
    | nil => exact h.elim
    | cons v vs => rw [List.length_cons, List.length_cons, ih h.2]
theorem HasAll.get {Vs : List AV} {vs : List Value} (h : HasAll Vs vs) {k : Nat} {V : AV} (hk : Vs[k]? = some V) : ∃ v, vs[k]? = some v ∧ V.has v := by
  induction Vs generalizing vs k with
  | nil => cases hk
  | cons V Vs ih => cases vs with
    | nil => exact h.elim
    | cons v vs =>
      cases k with
      | zero => cases hk; exact ⟨v, rfl, h.1⟩
      | succ k => exact ih h.2 hk
theorem HasAll.append {Vs Us : List AV} {vs us : List Value} (h : HasAll Vs vs) (g : HasAll Us us) : HasAll (Vs ++ Us) (vs ++ us) := by
  induction Vs generalizing vs with
  | nil => cases vs with
    | nil => exact g
    | cons _ _ => exact h.elim
  | cons V Vs ih => cases vs with
    | nil => exact h.elim
    | cons v vs => exact ⟨h.1, ih h.2⟩
theorem HasAll.rev {Vs : List AV} {vs : List Value} (h : HasAll Vs vs) : HasAll Vs.reverse vs.reverse := by
  induction Vs generalizing vs with
  | nil => cases vs with
    | nil => trivial
    | cons _ _ => exact h.elim
  | cons V Vs ih => cases vs with
    | nil => exact h.elim
    | cons v vs => 
      rw [List.reverse_cons, List.reverse_cons]
      exact (ih h.2).append ⟨h.1, trivial⟩
section
variable {c : Cx} {S : Sc} {l l' : Loc} {n : Led} {R : AV → Led → Prop} {K : Loc → Led → Prop} {rest : List Stmt}
theorem EC_weak {e : Expr} {X : Type} {P : X → Prop} {fV : X → AV} {fn fn' : X → Led} (h : EC c S l n e X P fV fn) (hs : ∀ x, ∀ p ∈ fn' x, p ∈ fn x) : EC c S l n e X P fV fn' := by
  intro ok s m Q r F N ret
  refine h ok s m Q r F N (fun v n' h' tk' hp F' N' => ?_)
  obtain ⟨x, h1, h2, rfl⟩ := hp
  exact ret v _ h' tk' ⟨x, h1, h2, rfl⟩ F' (news_sub N' (hs x))
theorem EC_tup {es : List Expr} {Vs : List AV} {k : Nat} {p : Pos} (ha : EA c S l n p es Vs) (hz : Nat.ble Vs.length 1000 = true) : EC c S l n (.Tuple es k p) (Addr × List Value) (fun x => HasAll Vs x.2 ∧ ∀ q ∈ n, q.1 < x.1) (fun x => .is (.ref x.1)) (fun x => (x.1, tupO x.2) :: n) := by
  intro ok s m Q r F N ret
  refine Tuple_ ?_
  refine ha ok s m _ r F N (fun vs n' h' tk' hp F' N' => ?_)
  obtain ⟨hv, rfl⟩ := hp
  refine kup_newTuple F' N' (fun D h2 F2 N2 hD => ?_) (Nat.le_trans (by rw [hv.len]; exact Nat.le_of_ble_eq_true hz) (by decide))
  exact ret _ _ h2 _ ⟨(D, vs), ⟨hv, hD⟩, rfl, rfl⟩ F2 N2
theorem EC_list {es : List Expr} {Vs : List AV} {p : Pos} (ha : EA c S l n p es Vs) (hz : Nat.ble Vs.length 1000 = true) : EC c S l n (.List es p) (Addr × List Value) (fun x => HasAll Vs x.2 ∧ ∀ q ∈ n, q.1 < x.1) (fun x => .is (.ref x.1)) (fun x => (x.1, W.listOf x.2.toArray 0) :: n) := by
  intro ok s m Q r F N ret
  refine List_ ?_
  refine ha ok s m _ r F N (fun vs n' h' tk' hp F' N' => ?_)
  obtain ⟨hv, rfl⟩ := hp
  refine newList_K F' N' (fun D h2 F2 N2 hD => ?_) (Nat.le_trans (by rw [hv.len]; exact Nat.le_of_ble_eq_true hz) (by decide))
  exact ret _ _ h2 _ ⟨(D, vs), ⟨hv, hD⟩, rfl, rfl⟩ F2 N2
theorem sets_in {xs : List Str} {Vs : List AV} {vs : List Value} (hs : SetsR l xs Vs l') (hv : HasAll Vs vs) (ok : c.Ok S) {s : Shared} {m : Str → Option Value} {Q : Unit → Shared → Prop} (r : Rep S l m) (F : Fr c.g c.L s.heap m) (N : News c.g c.L s.heap n) {ts : List (Value → Sem Unit)}
    (ht : ts.length = xs.length) (hts : ∀ (k : Nat) (t : Value → Sem Unit) (x : Str), ts[k]? = some t → xs[k]? = some x → ∀ (v : Value) (s : Shared) (Q : Unit → Shared → Prop), wpAny (model prg c.W.w) (c.A S) (storeName (c.env S) x v) Q no s → wpAny (model prg c.W.w) (c.A S) (t v) Q no s)
    (ret : ∀ m' h' tk', Rep S l' m' → Fr c.g c.L h' m' → News c.g c.L h' n → Q () { s with heap := h', toks := tk' }) : wpAny (model prg c.W.w) (c.A S) (assignInOrder ts vs) Q no s := by
  induction hs generalizing vs s m ts with
  | nil =>
    cases vs with
    | cons _ _ => exact hv.elim
    | nil => cases ts with
      | cons _ _ => cases ht
      | nil => exact assignInOrder_nil (ret m s.heap s.toks r F N)
  | @cons l l1 l2 x V xs Vs h1 h2 ih =>
    cases vs with
    | nil => exact hv.elim
    | cons v vs => cases ts with
      | nil => cases ht
      | cons t ts =>
        refine assignInOrder_cons ?_
        refine hts 0 t x rfl rfl v _ _ ?_
        refine storeX_L F N (fun h' F' N' => ?_) ok.S.kind (r.loc ok.S h1)
        exact ih hv.2 (r.set ok.S h1 hv.1) F' N' (Nat.succ.inj ht) (fun k t x a b => hts (k + 1) t x a b) (fun m' h' tk' a b d => ret m' h' tk' a b d)
/-- a, b = e1, e2 whose stores are swapped -/
theorem SS_tupS {es elts : List Expr} {Vs : List AV} {names : List Str} {k k2 : Nat} {p p1 p2 : Pos} (ha : EA c S l n p2 es Vs) (hs : SetsR l names.reverse Vs.reverse l') (hz : Nat.ble Vs.length 1000 = true) (hlen : names.length = Vs.length) (hw1 : swapsWithSole [.Tuple elts k p1] (.Tuple es k2 p2) p.line (c.env S) = pure false)
    (hw : swappedStores [.Tuple elts k p1] (.Tuple es k2 p2) (c.env S) = pure (some names)) (h : SS c S R l' n rest K) : SS c S R l n (.Assign [.Tuple elts k p1] (.Tuple es k2 p2) p :: rest) K := by
  refine SS_cons (K1 := fun l1 n1 => l1 = l' ∧ n1 = n) ?_ (by rintro _ _ ⟨rfl, rfl⟩; exact h)
  intro ok s m Q r F N next ret
  refine Assign_Tuple_swapped ?_ hw1 hw
  refine EC_tup ha hz ok s m _ r F N (fun v n' h' tk' hp F' N' => ?_)
  obtain ⟨⟨D, vs⟩, ⟨hv, hD⟩, rfl, rfl⟩ := hp
  refine unpackItemsN_ F' N' (News.isTup N' (.head _)) rfl (by rw [hlen, ← hv.len]; exact List.size_toArray.symm) (fun h2 F2 N2 => ?_)
  refine sets_in (c := c) hs (by simpa using hv.rev) ok r F2 N2 (by simp) (fun k t x a b v s Q hq => ?_) (fun m' h' tk' a b d => next _ m' _ h' tk' ⟨rfl, rfl⟩ a b (news_tl d))
  rw [List.getElem?_map] at a
  rw [b] at a
  cases a
  exact bindName_ hq
theorem SS_tupA {es elts : List Expr} {Vs : List AV} {names : List (Str × Pos)} {k k2 : Nat} {p p1 p2 : Pos} (ha : EA c S l n p2 es Vs) (hs : SetsR l (names.map Prod.fst) Vs l') (hz : Nat.ble Vs.length 1000 = true) (hlen : names.length = Vs.length) (hel : elts = names.map fun q => .Name q.1 q.2) (hw1 : swapsWithSole [.Tuple elts k p1] (.Tuple es k2 p2) p.line (c.env S) = pure false)
    (hw : swappedStores [.Tuple elts k p1] (.Tuple es k2 p2) (c.env S) = pure none) (h : SS c S R l' n rest K) : SS c S R l n (.Assign [.Tuple elts k p1] (.Tuple es k2 p2) p :: rest) K := by
  refine SS_cons (K1 := fun l1 n1 => l1 = l' ∧ n1 = n) ?_ (by rintro _ _ ⟨rfl, rfl⟩; exact h)
  intro ok s m Q r F N next ret
  refine Assign_Tuple ?_ hw1 hw
  refine EC_tup ha hz ok s m _ r F N (fun v n' h' tk' hp F' N' => ?_)
  obtain ⟨⟨D, vs⟩, ⟨hv, hD⟩, rfl, rfl⟩ := hp
  have e : ∀ names : List (Str × Pos), (assignEach (names.map fun q => Expr.Name q.1 q.2) (c.env S)) = names.map fun q => (false, assign (.Name q.1 q.2) (c.env S)) := by
    intro ns
    induction ns with
    | nil => rfl
    | cons q ns ih => 
      show _ :: _ = _ :: _
      exact congrArg _ ih
  refine unpackN_ F' N' (News.isTup N' (.head _)) rfl (by rw [hel, e, List.length_map, hlen, ← hv.len]; exact List.size_toArray.symm) (by rw [hel, e]; simp) (fun h2 F2 N2 => ?_)
  refine sets_in (c := c) hs (by simpa using hv) ok r F2 N2 (by rw [hel, e]; simp) (fun k t x a b v s Q hq => ?_) (fun m' h' tk' a b d => next _ m' _ h' tk' ⟨rfl, rfl⟩ a b (news_tl d))
  rw [hel, e, List.map_map, List.getElem?_map] at a
  rw [List.getElem?_map] at b
  cases hn : names[k]? with
  | none => rw [hn] at a; cases a
  | some q =>
    rw [hn] at a b
    cases a
    cases b
    exact assign_Name hq
/-- a, b = f(..) -/
theorem SS_untup {e : Expr} {elts : List Expr} {names : List (Str × Pos)} {k : Nat} {p p1 : Pos} {X : Type} {P : X → Prop} {fn : X → Led} {fa : X → Addr} {fvs : X → List Value} {fVs : X → List AV} {fl : X → Loc} (he : EC c S l n e X P (fun x => .is (.ref (fa x))) fn) (hm : ∀ x, (fa x, tupO (fvs x)) ∈ fn x) (hh : ∀ x, P x → HasAll (fVs x) (fvs x)) (hlen : ∀ x, names.length = (fVs x).length)
    (hs : ∀ x, SetsR l (names.map Prod.fst) (fVs x) (fl x)) (hel : elts = names.map fun q => .Name q.1 q.2) (hw1 : swapsWithSole [.Tuple elts k p1] e p.line (c.env S) = pure false)
    (hw : swappedStores [.Tuple elts k p1] e (c.env S) = pure none) (h : ∀ x, P x → SS c S R (fl x) (fn x) rest K) : SS c S R l n (.Assign [.Tuple elts k p1] e p :: rest) K := by
  refine SS_cons (K1 := fun l1 n1 => ∃ x, P x ∧ l1 = fl x ∧ n1 = fn x) ?_ (by rintro _ _ ⟨x, hx, rfl, rfl⟩; exact h x hx)
  intro ok s m Q r F N next ret
  refine Assign_Tuple ?_ hw1 hw
  refine he ok s m _ r F N (fun v n' h' tk' hp F' N' => ?_)
  obtain ⟨x, hx, rfl, rfl⟩ := hp
  have e : ∀ names : List (Str × Pos), (assignEach (names.map fun q => Expr.Name q.1 q.2) (c.env S)) = names.map fun q => (false, assign (.Name q.1 q.2) (c.env S)) := by
    intro ns
    induction ns with
    | nil => rfl
    | cons q ns ih => 
      show _ :: _ = _ :: _
      exact congrArg _ ih
  refine unpackN_ F' N' (News.isTup N' (hm x)) rfl (by rw [hel, e, List.length_map, hlen x, ← (hh x hx).len]; exact List.size_toArray.symm) (by rw [hel, e]; simp) (fun h2 F2 N2 => ?_)
  refine sets_in (c := c) (hs x) (by simpa using hh x hx) ok r F2 N2 (by rw [hel, e]; simp) (fun k t x a b v s Q hq => ?_) (fun m' h' tk' a b d => next _ m' _ h' tk' ⟨x, hx, rfl, rfl⟩ a b d)
  rw [hel, e, List.map_map, List.getElem?_map] at a
  rw [List.getElem?_map] at b
  cases hn : names[k]? with
  | none => rw [hn] at a; cases a
  | some q =>
    rw [hn] at a b
    cases a
    cases b
    exact assign_Name hq
theorem SS_tupS2 {x1 x2 : Str} {e1 e2 : Expr} {V1 V2 : AV} {q1 q2 : Pos} {k k2 : Nat} {p p1 p2 : Pos} {l1 l2 : Loc} (h1 : EP c S l n e1 V1) (h2 : EP c S l n e2 V2) (g1 : plainE e1 = true) (g2 : plainE e2 = true) (s2 : SetR l x2 V2 l1) (s1 : SetR l1 x1 V1 l2) (hw : swappedStores [.Tuple [.Name x1 q1, .Name x2 q2] k p1] (.Tuple [e1, e2] k2 p2) (c.env S) = pure (some [x1, x2])) (h : SS c S R l2 n rest K) : SS c S R l n (.Assign [.Tuple [.Name x1 q1, .Name x2 q2] k p1] (.Tuple [e1, e2] k2 p2) p :: rest) K :=
  SS_tupS (Vs := [V1, V2]) (names := [x1, x2]) (EA_cons h1 g1 (EA_cons h2 g2 (EA_nil))) (.cons s2 (.cons s1 (.nil))) rfl rfl rfl hw h
theorem SS_tupA2 {x1 x2 : Str} {e1 e2 : Expr} {V1 V2 : AV} {q1 q2 : Pos} {k k2 : Nat} {p p1 p2 : Pos} {l1 l2 : Loc} (h1 : EP c S l n e1 V1) (h2 : EP c S l n e2 V2) (g1 : plainE e1 = true) (g2 : plainE e2 = true) (s1 : SetR l x1 V1 l1) (s2 : SetR l1 x2 V2 l2) (hw : swappedStores [.Tuple [.Name x1 q1, .Name x2 q2] k p1] (.Tuple [e1, e2] k2 p2) (c.env S) = pure none) (h : SS c S R l2 n rest K) : SS c S R l n (.Assign [.Tuple [.Name x1 q1, .Name x2 q2] k p1] (.Tuple [e1, e2] k2 p2) p :: rest) K :=
  SS_tupA (Vs := [V1, V2]) (names := [(x1, q1), (x2, q2)]) (EA_cons h1 g1 (EA_cons h2 g2 (EA_nil))) (.cons s1 (.cons s2 (.nil))) rfl rfl rfl rfl hw h
theorem SS_tupS3 {x1 x2 x3 : Str} {e1 e2 e3 : Expr} {V1 V2 V3 : AV} {q1 q2 q3 : Pos} {k k2 : Nat} {p p1 p2 : Pos} {l1 l2 l3 : Loc} (h1 : EP c S l n e1 V1) (h2 : EP c S l n e2 V2) (h3 : EP c S l n e3 V3) (g1 : plainE e1 = true) (g2 : plainE e2 = true) (g3 : plainE e3 = true) (s3 : SetR l x3 V3 l1) (s2 : SetR l1 x2 V2 l2) (s1 : SetR l2 x1 V1 l3) (hw : swappedStores [.Tuple [.Name x1 q1, .Name x2 q2, .Name x3 q3] k p1] (.Tuple [e1, e2, e3] k2 p2) (c.env S) = pure (some [x1, x2, x3])) (h : SS c S R l3 n rest K) : SS c S R l n (.Assign [.Tuple [.Name x1 q1, .Name x2 q2, .Name x3 q3] k p1] (.Tuple [e1, e2, e3] k2 p2) p :: rest) K :=
  SS_tupS (Vs := [V1, V2, V3]) (names := [x1, x2, x3]) (EA_cons h1 g1 (EA_cons h2 g2 (EA_cons h3 g3 (EA_nil)))) (.cons s3 (.cons s2 (.cons s1 (.nil)))) rfl rfl rfl hw h
theorem SS_tupA3 {x1 x2 x3 : Str} {e1 e2 e3 : Expr} {V1 V2 V3 : AV} {q1 q2 q3 : Pos} {k k2 : Nat} {p p1 p2 : Pos} {l1 l2 l3 : Loc} (h1 : EP c S l n e1 V1) (h2 : EP c S l n e2 V2) (h3 : EP c S l n e3 V3) (g1 : plainE e1 = true) (g2 : plainE e2 = true) (g3 : plainE e3 = true) (s1 : SetR l x1 V1 l1) (s2 : SetR l1 x2 V2 l2) (s3 : SetR l2 x3 V3 l3) (hw : swappedStores [.Tuple [.Name x1 q1, .Name x2 q2, .Name x3 q3] k p1] (.Tuple [e1, e2, e3] k2 p2) (c.env S) = pure none) (h : SS c S R l3 n rest K) : SS c S R l n (.Assign [.Tuple [.Name x1 q1, .Name x2 q2, .Name x3 q3] k p1] (.Tuple [e1, e2, e3] k2 p2) p :: rest) K :=
  SS_tupA (Vs := [V1, V2, V3]) (names := [(x1, q1), (x2, q2), (x3, q3)]) (EA_cons h1 g1 (EA_cons h2 g2 (EA_cons h3 g3 (EA_nil)))) (.cons s1 (.cons s2 (.cons s3 (.nil)))) rfl rfl rfl rfl hw h
theorem SS_tupA4 {x1 x2 x3 x4 : Str} {e1 e2 e3 e4 : Expr} {V1 V2 V3 V4 : AV} {q1 q2 q3 q4 : Pos} {k k2 : Nat} {p p1 p2 : Pos} {l1 l2 l3 l4 : Loc} (h1 : EP c S l n e1 V1) (h2 : EP c S l n e2 V2) (h3 : EP c S l n e3 V3) (h4 : EP c S l n e4 V4) (g1 : plainE e1 = true) (g2 : plainE e2 = true) (g3 : plainE e3 = true) (g4 : plainE e4 = true) (s1 : SetR l x1 V1 l1) (s2 : SetR l1 x2 V2 l2) (s3 : SetR l2 x3 V3 l3) (s4 : SetR l3 x4 V4 l4) (hw : swappedStores [.Tuple [.Name x1 q1, .Name x2 q2, .Name x3 q3, .Name x4 q4] k p1] (.Tuple [e1, e2, e3, e4] k2 p2) (c.env S) = pure none) (h : SS c S R l4 n rest K) : SS c S R l n (.Assign [.Tuple [.Name x1 q1, .Name x2 q2, .Name x3 q3, .Name x4 q4] k p1] (.Tuple [e1, e2, e3, e4] k2 p2) p :: rest) K :=
  SS_tupA (Vs := [V1, V2, V3, V4]) (names := [(x1, q1), (x2, q2), (x3, q3), (x4, q4)]) (EA_cons h1 g1 (EA_cons h2 g2 (EA_cons h3 g3 (EA_cons h4 g4 (EA_nil))))) (.cons s1 (.cons s2 (.cons s3 (.cons s4 (.nil))))) rfl rfl rfl rfl hw h
theorem SS_tupA5 {x1 x2 x3 x4 x5 : Str} {e1 e2 e3 e4 e5 : Expr} {V1 V2 V3 V4 V5 : AV} {q1 q2 q3 q4 q5 : Pos} {k k2 : Nat} {p p1 p2 : Pos} {l1 l2 l3 l4 l5 : Loc} (h1 : EP c S l n e1 V1) (h2 : EP c S l n e2 V2) (h3 : EP c S l n e3 V3) (h4 : EP c S l n e4 V4) (h5 : EP c S l n e5 V5) (g1 : plainE e1 = true) (g2 : plainE e2 = true) (g3 : plainE e3 = true) (g4 : plainE e4 = true) (g5 : plainE e5 = true) (s1 : SetR l x1 V1 l1) (s2 : SetR l1 x2 V2 l2) (s3 : SetR l2 x3 V3 l3) (s4 : SetR l3 x4 V4 l4) (s5 : SetR l4 x5 V5 l5) (hw : swappedStores [.Tuple [.Name x1 q1, .Name x2 q2, .Name x3 q3, .Name x4 q4, .Name x5 q5] k p1] (.Tuple [e1, e2, e3, e4, e5] k2 p2) (c.env S) = pure none) (h : SS c S R l5 n rest K) : SS c S R l n (.Assign [.Tuple [.Name x1 q1, .Name x2 q2, .Name x3 q3, .Name x4 q4, .Name x5 q5] k p1] (.Tuple [e1, e2, e3, e4, e5] k2 p2) p :: rest) K :=
  SS_tupA (Vs := [V1, V2, V3, V4, V5]) (names := [(x1, q1), (x2, q2), (x3, q3), (x4, q4), (x5, q5)]) (EA_cons h1 g1 (EA_cons h2 g2 (EA_cons h3 g3 (EA_cons h4 g4 (EA_cons h5 g5 (EA_nil)))))) (.cons s1 (.cons s2 (.cons s3 (.cons s4 (.cons s5 (.nil)))))) rfl rfl rfl rfl hw h
end
end Mine
local macro_rules | `(tactic| walk_at "S tup") => `(tactic| first | ((with_reducible refine' Mine.SS_tupS2 ?a1 ?a2 rfl rfl  ?s2 ?s1 ?w ?_); (case w => rfl); (case a1 => walk_at "S e"); (case a2 => walk_at "S e"); (case s2 => walk_at "S p"); (case s1 => walk_at "S p")) | ((with_reducible refine' Mine.SS_tupS3 ?a1 ?a2 ?a3 rfl rfl rfl  ?s3 ?s2 ?s1 ?w ?_); (case w => rfl); (case a1 => walk_at "S e"); (case a2 => walk_at "S e"); (case a3 => walk_at "S e"); (case s3 => walk_at "S p"); (case s2 => walk_at "S p"); (case s1 => walk_at "S p")) | ((with_reducible refine' Mine.SS_tupA2 ?a1 ?a2 rfl rfl  ?s1 ?s2 ?w ?_); (case w => rfl); (case a1 => walk_at "S e"); (case a2 => walk_at "S e"); (case s1 => walk_at "S p"); (case s2 => walk_at "S p")) | ((with_reducible refine' Mine.SS_tupA3 ?a1 ?a2 ?a3 rfl rfl rfl  ?s1 ?s2 ?s3 ?w ?_); (case w => rfl); (case a1 => walk_at "S e"); (case a2 => walk_at "S e"); (case a3 => walk_at "S e"); (case s1 => walk_at "S p"); (case s2 => walk_at "S p"); (case s3 => walk_at "S p")) | ((with_reducible refine' Mine.SS_tupA4 ?a1 ?a2 ?a3 ?a4 rfl rfl rfl rfl  ?s1 ?s2 ?s3 ?s4 ?w ?_); (case w => rfl); (case a1 => walk_at "S e"); (case a2 => walk_at "S e"); (case a3 => walk_at "S e"); (case a4 => walk_at "S e"); (case s1 => walk_at "S p"); (case s2 => walk_at "S p"); (case s3 => walk_at "S p"); (case s4 => walk_at "S p")) | ((with_reducible refine' Mine.SS_tupA5 ?a1 ?a2 ?a3 ?a4 ?a5 rfl rfl rfl rfl rfl  ?s1 ?s2 ?s3 ?s4 ?s5 ?w ?_); (case w => rfl); (case a1 => walk_at "S e"); (case a2 => walk_at "S e"); (case a3 => walk_at "S e"); (case a4 => walk_at "S e"); (case a5 => walk_at "S e"); (case s1 => walk_at "S p"); (case s2 => walk_at "S p"); (case s3 => walk_at "S p"); (case s4 => walk_at "S p"); (case s5 => walk_at "S p")) | fail "S tup")
namespace Mine
section
variable {c : Cx} {S : Sc} {l l' : Loc} {n : Led} {R : AV → Led → Prop} {K : Loc → Led → Prop} {rest : List Stmt}
/-- x names the builtin id -/
structure GB (x : Str) (v : Value) : Prop where
  none : ∀ P, nsIn (hpK P) mainGlobals x = some Option.none
  boot : bootBuiltins x = some v
  ne : x ≠ (Str.ofString "__name__")
  dbg : (x == (Str.ofString "__debug__")) = false
theorem EP_b {x : Str} {id : String} {e0 : Expr} {es : List Expr} {Vs : List AV} {V : AV} {p1 p2 : Pos} (hb : GB x (.builtin id)) (hk : S.glob x = true) (ha : EA c S l n p2 (e0 :: es) Vs) (hp : (e0 :: es).all plainE = true)
    (hop : ∀ (vs : List Value) (s : Shared) (Q : Value → Shared → Prop), HasAll Vs vs → News c.g c.L s.heap n → (∀ v tk, V.has v → Q v { s with toks := tk }) → wpAny (model prg c.W.w) (c.A S) (call (.builtin id) vs) Q no s) : EP c S l n (.Call (.Name x p1) (e0 :: es) [] p2) V := by
  intro ok s m Q r F N ret
  refine Call_ ?_
  refine nameX_B F ok.X (topRead_of ok.T) (hb.none _) hb.boot hb.ne ?_ ok.S.kind (Sc.glob_eq hk) hb.dbg
  rw [List.all_cons, Bool.and_eq_true] at hp
  refine callWith_method1 (first := []) ?_ (star_plain hp.1) (star_all hp.2)
  refine ha ok s m _ r F N (fun vs n' h' tk' hq F' N' => ?_)
  obtain ⟨hvs, rfl⟩ := hq
  exact hop _ _ _ hvs N' (fun v tk hv => ret v _ h' tk ⟨hv, rfl⟩ F' N')
theorem gb_len : GB (Str.ofString "len") (.builtin "len") := ⟨fun P => by k_is, rfl, by decide +kernel, by decide +kernel⟩
theorem gb_chr : GB (Str.ofString "chr") (.builtin "chr") := ⟨fun P => by k_is, rfl, by decide +kernel, by decide +kernel⟩
theorem gb_ord : GB (Str.ofString "ord") (.builtin "ord") := ⟨fun P => by k_is, rfl, by decide +kernel, by decide +kernel⟩
theorem EP_len {e : Expr} {x : Str} {p1 p2 : Pos} (hk : S.glob (Str.ofString "len") = true) (he : EP c S l n e (.str x)) (hp : plainE e = true) (hx : x.length ≤ 1000000000) : EP c S l n (.Call (.Name (Str.ofString "len") p1) [e] [] p2) (.int x.length) :=
  EP_b gb_len hk (EA_cons he hp EA_nil) (by simp [hp]) (by
    intro vs s Q hv _ ret
    obtain ⟨_, rfl, ⟨t, rfl⟩⟩ := has1 hv
    exact P.len_str (by omega) (ret _ _ ⟨_, rfl⟩))
theorem EP_lenl {e : Expr} {a : Addr} {its : List Value} {k : Nat} {p1 p2 : Pos} (hk : S.glob (Str.ofString "len") = true) (he : EP c S l n e (.is (.ref a))) (hp : plainE e = true) (hm : (a, W.listOf its.toArray k) ∈ n) (hx : its.length ≤ 1000000000) : EP c S l n (.Call (.Name (Str.ofString "len") p1) [e] [] p2) (.int its.length) :=
  EP_b gb_len hk (EA_cons he hp EA_nil) (by simp [hp]) (by
    intro vs s Q hv N ret
    obtain ⟨_, rfl, rfl⟩ := has1 hv
    exact len_list (News.isList N hm) (by rw [List.size_toArray]; omega) (ret _ _ ⟨_, by rw [List.size_toArray]⟩))
theorem EP_chr {e : Expr} {i : Int} {p1 p2 : Pos} (hk : S.glob (Str.ofString "chr") = true) (he : EP c S l n e (.int i)) (hp : plainE e = true) (h0 : 0 ≤ i) (h1 : i ≤ 1114111) : EP c S l n (.Call (.Name (Str.ofString "chr") p1) [e] [] p2) (.str ⟨#[i.toNat]⟩) :=
  EP_b gb_chr hk (EA_cons he hp EA_nil) (by simp [hp]) (by
    intro vs s Q hv _ ret
    obtain ⟨_, rfl, ⟨t, rfl⟩⟩ := has1 hv
    exact chr_of_range h0 h1 (ret _ _ ⟨_, rfl⟩))
theorem EP_neg {e : Expr} {i : Int} {p : Pos} (he : EP c S l n e (.int i)) : EP c S l n (.UnaryOp .USub e p) (.int (-i)) := by
  intro ok s m Q r F N ret
  refine UnaryOp_ ?_
  refine he ok s m _ r F N (fun v n' h' tk' hp F' N' => ?_)
  obtain ⟨⟨t, rfl⟩, rfl⟩ := hp
  exact P.neg_int (ret _ _ h' _ ⟨⟨_, rfl⟩, rfl⟩ F' N')
theorem EP_andb {a b : Expr} {x y : Bool} {p : Pos} (ha : EP c S l n a (.is (.bool x))) (hb : x = true → EP c S l n b (.is (.bool y))) : EP c S l n (.BoolOp .And [a, b] p) (.is (.bool (x && y))) := by
  intro ok s m Q r F N ret
  refine BoolOp_and ?_
  refine ha ok s m _ r F N (fun v n' h' tk' hp F' N' => ?_)
  obtain ⟨rfl, rfl⟩ := hp
  refine wpAny_truthy_bool ?_
  cases x with
  | true =>
    rw [if_pos rfl]
    refine BoolOp_one (hb rfl ok _ m _ r F' N' (fun v n2 h2 tk2 hp F2 N2 => ?_))
    obtain ⟨rfl, rfl⟩ := hp
    exact ret _ _ h2 _ ⟨rfl, rfl⟩ F2 N2
  | false =>
    rw [if_neg nofun]
    exact ret _ _ h' _ ⟨rfl, rfl⟩ F' N'
theorem EP_orb {a b : Expr} {x y : Bool} {p : Pos} (ha : EP c S l n a (.is (.bool x))) (hb : x = false → EP c S l n b (.is (.bool y))) : EP c S l n (.BoolOp .Or [a, b] p) (.is (.bool (x || y))) := by
  intro ok s m Q r F N ret
  refine BoolOp_or ?_
  refine ha ok s m _ r F N (fun v n' h' tk' hp F' N' => ?_)
  obtain ⟨rfl, rfl⟩ := hp
  refine wpAny_truthy_bool ?_
  cases x with
  | false =>
    rw [if_neg nofun]
    refine BoolOp_one (hb rfl ok _ m _ r F' N' (fun v n2 h2 tk2 hp F2 N2 => ?_))
    obtain ⟨rfl, rfl⟩ := hp
    exact ret _ _ h2 _ ⟨rfl, rfl⟩ F2 N2
  | true =>
    rw [if_pos rfl]
    exact ret _ _ h' _ ⟨rfl, rfl⟩ F' N'
theorem TT_chain {a b d : Expr} {i j k : Int} {p : Pos} (ha : EP c S l n a (.int i)) (hb : EP c S l n b (.int j)) (hd : EP c S l n d (.int k)) (hm : lastMarks [.LtE, .LtE] [b, d] = false) : TT c S l n (.Compare a [.LtE, .LtE] [b, d] p) (i ≤ j ∧ j ≤ k) (j < i ∨ k < j) := by
  intro ok s m Q r F N ret
  refine isTrue_chain ?_ hm
  refine ha ok s m _ r F N (fun va n' h' tk' hp F' N' => ?_)
  obtain ⟨⟨t, rfl⟩, rfl⟩ := hp
  refine test_link ?_
  refine hb ok _ m _ r F' N' (fun vb n2 h2 tk2 hp F2 N2 => ?_)
  obtain ⟨⟨t2, rfl⟩, rfl⟩ := hp
  refine P.le_int (wpAny_truthy_bool ?_)
  cases hc : decide (i ≤ j) with
  | false =>
    rw [if_neg nofun]
    have := of_decide_eq_false hc
    exact ret _ _ h2 _ ⟨rfl, .inr ⟨rfl, .inl (by omega)⟩⟩ F2 N2
  | true =>
    rw [if_pos rfl]
    refine test_last ?_
    refine hd ok _ m _ r F2 N2 (fun vb n3 h3 tk3 hp F3 N3 => ?_)
    obtain ⟨⟨t3, rfl⟩, rfl⟩ := hp
    refine P.le_int (wpAny_truthy_bool ?_)
    refine ret _ _ h3 _ ⟨rfl, ?_⟩ F3 N3
    have h1 := of_decide_eq_true hc
    cases hc2 : decide (j ≤ k) with
    | true => exact .inl ⟨rfl, h1, of_decide_eq_true hc2⟩
    | false => exact .inr ⟨rfl, .inr (by have := of_decide_eq_false hc2; omega)⟩
theorem none_con {b : Expr} {k : Nat} {p : Pos} : b = .Constant .none k p → EP c S l n b (.is .none) := by rintro rfl; exact EP_non
theorem TT_isn {a : Expr} {v : Value} {k : Nat} {p p2 : Pos} (ha : EP c S l n a (.is v)) : TT c S l n (.Compare a [.Is] [.Constant .none k p2] p) (v = .none) (v ≠ .none) :=
  TT_cmp (b1 := v == .none) (by rintro _ _ s Q rfl rfl ret; exact is_none_gen (ret s.toks)) (fun h => eq_of_beq h) (fun h => ne_of_beq_false h) (marks nofun nofun) ha EP_non
theorem TT_notn {a : Expr} {v : Value} {k : Nat} {p p2 : Pos} (ha : EP c S l n a (.is v)) : TT c S l n (.Compare a [.IsNot] [.Constant .none k p2] p) (v ≠ .none) (v = .none) :=
  TT_cmp (b1 := !(v == .none)) (by rintro _ _ s Q rfl rfl ret; exact isnot_none_gen (ret s.toks)) (fun h => ne_of_beq_false (by simpa using h)) (fun h => eq_of_beq (by simpa using h)) (marks nofun nofun) ha EP_non
theorem str_ext {x y : Str} (h : x.cps.toList = y.cps.toList) : x = y := by
  cases x; cases y
  exact congrArg _ (Array.toList_inj.mp h)
theorem TT_seq {a b : Expr} {x y : Str} {p : Pos} (ha : EP c S l n a (.str x)) (hb : EP c S l n b (.str y)) : TT c S l n (.Compare a [.Eq] [b] p) (x = y) (x ≠ y) :=
  TT_cmp (b1 := x.cps.toList == y.cps.toList) (by rintro _ _ s Q ⟨t, rfl⟩ ⟨u, rfl⟩ ret; exact P.eq_str (ret s.toks)) (fun h => str_ext (eq_of_beq h)) (fun h e => ne_of_beq_false h (e ▸ rfl)) (marks nofun nofun) ha hb
theorem EP_titem {o i : Expr} {a : Addr} {vs : List Value} {Vs : List AV} {k : Int} {j : Nat} {V : AV} {p : Pos} (ho : EP c S l n o (.is (.ref a))) (hi : EP c S l n i (.int k)) (hm : (a, tupO vs) ∈ n) (hv : HasAll Vs vs) (hk : Vs[j]? = some V) (hlo : -(2 ^ 63) ≤ k) (hhi : k < 2 ^ 63) (hj : seqIndex? k Vs.length = some j)
    (hs : ∀ u, subscripted i false (.ref a) (.int k u) = operate [.ref a, .int k u] (getItem (.ref a) (.int k u))) : EP c S l n (.Subscript o i p) V := by
  intro ok s m Q r F N ret
  refine Subscript_ ?_
  refine ho ok s m _ r F N (fun v n' h' tk' hp F' N' => ?_)
  obtain ⟨rfl, rfl⟩ := hp
  refine hi ok _ m _ r F' N' (fun v n2 h2 tk2 hp F2 N2 => ?_)
  obtain ⟨⟨t, rfl⟩, rfl⟩ := hp
  obtain ⟨v, hv1, hv2⟩ := hv.get hk
  exact item_tupleT (News.isTup N2 hm) hlo hhi (by rw [hv.len]; exact hj) hv1 (ret v _ h2 _ ⟨hv2, rfl⟩ F2 N2) (hs t)
theorem EP_slice {o a b : Expr} {x : Str} {i j : Int} {p p2 : Pos} (ho : EP c S l n o (.str x)) (ha : EP c S l n a (.int i)) (hb : EP c S l n b (.int j)) (hz : x.length ≤ 10000000)
    (hs : ∀ v w, subscripted (.Slice (some a) (some b) none p2) false v w = operate [w, v] (getItem v w)) (ht : ∀ t r, letTemporaryGo o (.str x t) r = pure ()) : EP c S l n (.Subscript o (.Slice (some a) (some b) none p2) p) (.str (Txt.slice x (some i) (some j))) := by
  intro ok s m Q r F N ret
  refine Subscript_ ?_
  refine ho ok s m _ r F N (fun v n' h' tk' hp F' N' => ?_)
  obtain ⟨⟨t, rfl⟩, rfl⟩ := hp
  refine wpAny_Slice (evalPart_some_step ?_)
  refine ha ok _ m _ r F' N' (fun v n2 h2 tk2 hp F2 N2 => ?_)
  obtain ⟨⟨t2, rfl⟩, rfl⟩ := hp
  refine evalPart_some_step ?_
  refine hb ok _ m _ r F2 N2 (fun v n3 h3 tk3 hp F3 N3 => ?_)
  obtain ⟨⟨t3, rfl⟩, rfl⟩ := hp
  refine evalPart_none_step ?_
  exact slice_strN_ss_len (s := { s with heap := h3, toks := tk3 }) F3 N3 (fun h4 t4 k4 F4 N4 _ => ret _ _ h4 _ ⟨⟨t4, rfl⟩, rfl⟩ F4 N4) (hs _ _) (ht t) (Nat.le_trans hz (by decide))
theorem EP_sw {o e1 e2 : Expr} {x y : Str} {j : Int} {p1 p2 : Pos} {pl : Sem Bool} (ho : EP c S l n o (.str x)) (h1 : EP c S l n e1 (.str y)) (h2 : EP c S l n e2 (.int j)) (hp : [e1, e2].all plainE = true) (hme : eval (.Call (.Attribute o (Str.ofString "startswith") p1) [e1, e2] [] p2) (c.env S) = (do
      let ov ← eval o (c.env S)
      standAt p1.atName
      let (f, first) ← holding [ov] (getMethod ov (Str.ofString "startswith") pl)
      callWith p2 f first (backTo p2 (starEach [e1, e2] (c.env S))) [])) : EP c S l n (.Call (.Attribute o (Str.ofString "startswith") p1) [e1, e2] [] p2) (.is (.bool (Txt.startswith3 x y j))) := by
  intro ok s m Q r F N ret
  refine MethodCall_ ?_ hme
  refine ho ok s m _ r F N (fun v n' h' tk' hp2 F' N' => ?_)
  obtain ⟨⟨t, rfl⟩, rfl⟩ := hp2
  refine GM.startswith ?_
  have hp' := hp
  rw [List.all_cons, Bool.and_eq_true] at hp
  have hp3 := hp.2
  rw [List.all_cons, Bool.and_eq_true] at hp3
  refine callWith_method1 ?_ (star_plain hp.1) (star_all hp.2)
  refine (EA_cons h1 hp.1 (EA_cons h2 hp3.1 EA_nil) : EA c S l _ p2 [e1, e2] [.str y, .int j]) ok _ m _ r F' N' (fun vs n2 g2 tk2 hq F2 N2 => ?_)
  obtain ⟨hvs, rfl⟩ := hq
  obtain ⟨_, _, rfl, ⟨t2, rfl⟩, ⟨t3, rfl⟩⟩ := has2 hvs
  exact SC.startswith3 (ret _ _ g2 tk2 ⟨rfl, rfl⟩ F2 N2)
/-- an expression whose value R tells of -/
noncomputable def ER (c : Cx) (S : Sc) (R : AV → Led → Prop) (l : Loc) (n : Led) (e : Expr) : Prop := CE c S l n (eval e (c.env S)) (fun v n' => ∃ V, V.has v ∧ R V n')
theorem ER_p {e : Expr} {V : AV} (he : EP c S l n e V) (h : R V n) : ER c S R l n e := by
  intro ok s m Q r F N ret
  refine he ok s m Q r F N (fun v n' h' tk' hp F' N' => ?_)
  obtain ⟨hv, rfl⟩ := hp
  exact ret v _ h' tk' ⟨V, hv, h⟩ F' N'
theorem ER_c {e : Expr} {X : Type} {P : X → Prop} {fV : X → AV} {fn : X → Led} (he : EC c S l n e X P fV fn) (h : ∀ x, P x → R (fV x) (fn x)) : ER c S R l n e := by
  intro ok s m Q r F N ret
  refine he ok s m Q r F N (fun v n' h' tk' hp F' N' => ?_)
  obtain ⟨x, hx, hv, rfl⟩ := hp
  exact ret v _ h' tk' ⟨_, hv, h x hx⟩ F' N'
theorem ER_if {t a b : Expr} {T Fp : Prop} {p : Pos} (ht : TT c S l n t T Fp) (ha : T → ER c S R l n a) (hb : Fp → ER c S R l n b) : ER c S R l n (.IfExp t a b p) := by
  intro ok s m Q r F N ret
  refine IfExp_ ?_
  refine ht ok s m _ r F N (fun b1 n' h' tk' hp F' N' => ?_)
  obtain ⟨rfl, ⟨rfl, ht⟩ | ⟨rfl, hf⟩⟩ := hp
  · exact ha ht ok _ m _ r F' N' ret
  · exact hb hf ok _ m _ r F' N' ret
theorem SS_retR {e : Expr} {p : Pos} (he : ER c S R l n e) : SS c S R l n (.Return (some e) p :: rest) K := by
  refine SS_cons (K1 := fun _ _ => False) ?_ (fun _ _ x => x.elim)
  intro ok s m Q r F N next ret
  refine wpAny_Return_some ?_
  refine he ok s m _ r F N (fun v n' h' tk' hp F' N' => ?_)
  obtain ⟨V, hv, h⟩ := hp
  exact ret V v m _ h' tk' h hv F' N'
theorem EP_ifV {t a b : Expr} {T F : Prop} {V V1 V2 : AV} {p : Pos} (ht : TT c S l n t T F) (ha : T → EP c S l n a V1) (hb : F → EP c S l n b V2) (e1 : T → V = V1) (e2 : F → V = V2) : EP c S l n (.IfExp t a b p) V :=
  EP_if ht (fun h => e1 h ▸ ha h) (fun h => e2 h ▸ hb h)
theorem upd_of {d : Addr} {o o' : Obj} {post : Led} : ∀ {pre : Led}, ((pre ++ (d, o) :: post).map Prod.fst).Nodup → Upd d o o' (pre ++ (d, o) :: post) (pre ++ (d, o') :: post)
  | [], h => .head fun p hp e => (List.nodup_cons.mp h).1 (e ▸ List.mem_map.mpr ⟨p, hp, rfl⟩)
  | q :: pre, h => by
    have h2 := List.nodup_cons.mp h
    exact .tail (fun e => h2.1 (by rw [e]; exact List.mem_map.mpr ⟨(d, o), List.mem_append.mpr (.inr (.head _)), rfl⟩)) (upd_of h2.2)
theorem nod_ins {a : Addr} {post : List Addr} : ∀ {pre : List Addr}, (pre ++ post).Nodup → (∀ x ∈ pre ++ post, @LT.lt Nat _ x a) → (pre ++ a :: post).Nodup
  | [], h, g => List.nodup_cons.mpr ⟨fun hm => Nat.lt_irrefl _ (g a hm), h⟩
  | x :: pre, h, g => by
    have h2 := List.nodup_cons.mp h
    refine List.nodup_cons.mpr ⟨fun hm => ?_, nod_ins h2.2 (fun y hy => g y (.tail _ hy))⟩
    rcases List.mem_append.mp hm with hm | hm
    · exact h2.1 (List.mem_append.mpr (.inl hm))
    · cases hm with
      | head => exact Nat.lt_irrefl _ (g _ (.head _))
      | tail _ hm => exact h2.1 (List.mem_append.mpr (.inr hm))
theorem SS_append {y : Str} {e : Expr} {D : Addr} {its : List Value} {k : Nat} {V : AV} {fn : Value → Led} {p p1 p2 p3 : Pos} {pl : Sem Bool} (ho : EP c S l n (.Name y p1) (.is (.ref D))) (he : EP c S l n e V) (hp : plainE e = true) (hz : its.length ≤ 1000000)
    (hm : (D, W.listOf its.toArray k) ∈ n) (U : ∀ v, Upd D (W.listOf its.toArray k) (W.listOf (its ++ [v]).toArray (k + 1)) n (fn v)) (hme : eval (.Call (.Attribute (.Name y p1) (Str.ofString "append") p2) [e] [] p3) (c.env S) = (do
      let ov ← eval (.Name y p1) (c.env S)
      standAt p2.atName
      let (f, first) ← holding [ov] (getMethod ov (Str.ofString "append") pl)
      callWith p3 f first (backTo p3 (starEach [e] (c.env S))) []))
    (h : ∀ v, V.has v → SS c S R l (fn v) rest K) : SS c S R l n (.Expr (.Call (.Attribute (.Name y p1) (Str.ofString "append") p2) [e] [] p3) p :: rest) K := by
  refine SS_cons (K1 := fun l1 n1 => ∃ v, V.has v ∧ l1 = l ∧ n1 = fn v) ?_ (by rintro _ _ ⟨v, hv, rfl, rfl⟩; exact h v hv)
  intro ok s m Q r F N next ret
  refine wpAny_Expr_any ?_ (by show (S.scope.kind == .module && _) = false; rw [ok.S.kind]; rfl) rfl
  refine MethodCall_ ?_ hme
  refine ho ok s m _ r F N (fun v n' h' tk' hp2 F' N' => ?_)
  obtain ⟨rfl, rfl⟩ := hp2
  refine listMethod_K N' hm PySem.F.slot_list_append PySem.F.type_list_append ?_
  refine callWith_method1 ?_ (star_plain hp) rfl
  refine (EA_cons he hp EA_nil) ok _ m _ r F' N' (fun vs n2 h2 tk2 hq F2 N2 => ?_)
  obtain ⟨hvs, rfl⟩ := hq
  obtain ⟨v, rfl, hv⟩ := has1 hvs
  have e : (its ++ [v]).toArray = its.toArray.push v := by simp
  exact append_K F2 N2 (e ▸ U v) (fun h3 F3 N3 => next _ _ _ h3 _ ⟨v, hv, rfl, rfl⟩ r F3 N3) (Nat.le_trans (by rw [List.size_toArray]; exact hz) (by decide))
theorem has_strs {ys : List Str} {vs : List Value} (h : HasAll (ys.map AV.str) vs) : StrsAre vs ys := by
  induction ys generalizing vs with
  | nil => cases vs with
    | nil => exact .nil
    | cons _ _ => exact h.elim
  | cons y ys ih => cases vs with
    | nil => exact h.elim
    | cons v vs =>
      obtain ⟨⟨t, rfl⟩, h2⟩ := h
      exact .cons _ _ (ih h2)
theorem EP_join {e : Expr} {sep : Str} {D : Addr} {its : List Value} {k k2 : Nat} {ys : List Str} {p p1 p3 : Pos} {pl : Sem Bool} (he : EP c S l n e (.is (.ref D))) (hp : plainE e = true) (hm : (D, W.listOf its.toArray k) ∈ n) (hi : HasAll (ys.map AV.str) its) (hs : sep.length = 0) (hw : (ys.map (·.length)).sum + ys.length ≤ 1048576)
    (hme : eval (.Call (.Attribute (.Constant (.str sep) k2 p) (Str.ofString "join") p1) [e] [] p3) (c.env S) = (do
      let ov ← eval (.Constant (.str sep) k2 p) (c.env S)
      standAt p1.atName
      let (f, first) ← holding [ov] (getMethod ov (Str.ofString "join") pl)
      callWith p3 f first (backTo p3 (starEach [e] (c.env S))) [])) : EP c S l n (.Call (.Attribute (.Constant (.str sep) k2 p) (Str.ofString "join") p1) [e] [] p3) (.str (Txt.join sep ys)) := by
  intro ok s m Q r F N ret
  refine MethodCall_ ?_ hme
  refine Calls.Constant_str ?_
  refine GM.join ?_
  refine callWith_method1 ?_ (star_plain hp) rfl
  refine (EA_cons he hp EA_nil) ok { s with toks := s.toks + 1 } m _ r F N (fun vs n2 h2 tk2 hq F2 N2 => ?_)
  obtain ⟨hvs, rfl⟩ := hq
  obtain ⟨_, rfl, rfl⟩ := has1 hvs
  refine join_listW (News.isList N2 hm) (by simpa using has_strs hi) (by rw [hs]; decide) ?_ ?_
  · omega
  · intro t' k'
    exact ret _ _ h2 _ ⟨⟨t', rfl⟩, rfl⟩ F2 N2
theorem SS_sub {ss : List Stmt} {n2 : Led} (hs : ∀ p ∈ n2, p ∈ n) (h : SS c S R l n2 ss K) : SS c S R l n ss K := fun ok s m Q r F N next ret => h ok s m Q r F (news_sub N hs) next ret
/-- a, b = e1, e2 whose parts change the ledger -/
theorem SS_tupC {e1 e2 : Expr} {x1 x2 : Str} {k k2 : Nat} {p p1 p2 q1 q2 : Pos} {X1 X2 : Type} {P1 : X1 → Prop} {P2 : X1 → X2 → Prop} {fV1 : X1 → AV} {fV2 : X1 → X2 → AV} {fn1 : X1 → Led} {fn2 : X1 → X2 → Led} {l1 l2 : X1 → X2 → Loc}
    (h1 : EC c S l n e1 X1 P1 fV1 fn1) (h2 : ∀ y1, P1 y1 → EC c S l (fn1 y1) e2 X2 (P2 y1) (fV2 y1) (fn2 y1)) (g1 : plainE e1 = true) (g2 : plainE e2 = true) (s2 : ∀ y1 y2, SetR l x2 (fV2 y1 y2) (l1 y1 y2)) (s1 : ∀ y1 y2, SetR (l1 y1 y2) x1 (fV1 y1) (l2 y1 y2))
    (hw1 : swapsWithSole [.Tuple [.Name x1 q1, .Name x2 q2] k p1] (.Tuple [e1, e2] k2 p2) p.line (c.env S) = pure false) (hw : swappedStores [.Tuple [.Name x1 q1, .Name x2 q2] k p1] (.Tuple [e1, e2] k2 p2) (c.env S) = pure (some [x1, x2]))
    (h : ∀ y1 y2, P1 y1 → P2 y1 y2 → SS c S R (l2 y1 y2) (fn2 y1 y2) rest K) : SS c S R l n (.Assign [.Tuple [.Name x1 q1, .Name x2 q2] k p1] (.Tuple [e1, e2] k2 p2) p :: rest) K := by
  refine SS_cons (K1 := fun l' n' => ∃ y1 y2, P1 y1 ∧ P2 y1 y2 ∧ l' = l2 y1 y2 ∧ n' = fn2 y1 y2) ?_ (by rintro _ _ ⟨y1, y2, a, b, rfl, rfl⟩; exact h y1 y2 a b)
  intro ok s m Q r F N next ret
  refine Assign_Tuple_swapped ?_ hw1 hw
  refine Tuple_ (args_cons ?_ (star_plain g1))
  refine h1 ok s m _ r F N (fun v1 n' h' tk' hp F' N' => ?_)
  obtain ⟨y1, a1, b1, rfl⟩ := hp
  refine args_cons ?_ (star_plain g2)
  refine h2 y1 a1 ok _ m _ r F' N' (fun v2 n' h2 tk2 hp F2 N2 => ?_)
  obtain ⟨y2, a2, b2, rfl⟩ := hp
  refine args_nil ?_
  refine kup_newTuple F2 N2 (fun D h3 F3 N3 hD => ?_) (show 2 ≤ 2 ^ 24 by decide)
  refine unpackItemsN_ F3 N3 (News.isTup N3 (.head _)) rfl rfl (fun h4 F4 N4 => ?_)
  refine assignInOrder_cons (bindName_ (storeX_L F4 N4 (fun h5 F5 N5 => ?_) ok.S.kind (r.loc ok.S (s2 y1 y2))))
  have r2 := r.set ok.S (s2 y1 y2) b2
  refine assignInOrder_cons (bindName_ (storeX_L F5 N5 (fun h6 F6 N6 => ?_) ok.S.kind (r2.loc ok.S (s1 y1 y2))))
  exact assignInOrder_nil (next _ _ _ h6 _ ⟨y1, y2, a1, a2, rfl, rfl⟩ (r2.set ok.S (s1 y1 y2) b1) F6 (news_tl N6))
theorem EC_sub {e : Expr} {n2 : Led} {X : Type} {P : X → Prop} {fV : X → AV} {fn : X → Led} (hs : ∀ p ∈ n2, p ∈ n) (h : EC c S l n2 e X P fV fn) : EC c S l n e X P fV fn := fun ok s m Q r F N ret => h ok s m Q r F (news_sub N hs) ret
theorem EC_list0 {p : Pos} : EC c S l n (.List [] p) Addr (fun a => ∀ q ∈ n, @LT.lt Nat _ q.1 a) (fun a => .is (.ref a)) (fun a => (a, W.listOf #[] 0) :: n) := by
  intro ok s m Q r F N ret
  refine List_ (args_nil ?_)
  exact newList_K F N (fun D h2 F2 N2 hD => ret _ _ h2 s.toks ⟨D, hD, rfl, rfl⟩ F2 N2) (by decide)
/-- an if whose branches meet again -/
theorem SS_ifj {ι : Type} (fl : ι → Loc) (fn : ι → Led) (g : ι → Prop) {t : Expr} {A B : List Stmt} {T F : Prop} {p : Pos} (ht : TT c S l n t T F) (h1 : T → SS c S R l n A (fun l' n' => ∃ i, g i ∧ l' = fl i ∧ n' = fn i)) (h2 : F → SS c S R l n B (fun l' n' => ∃ i, g i ∧ l' = fl i ∧ n' = fn i))
    (hr : ∀ i, g i → SS c S R (fl i) (fn i) rest K) : SS c S R l n (.If t A B p :: rest) K :=
  SS_if ht fun K' hK => ⟨fun h => SG_mono (h1 h) (by rintro _ _ ⟨i, hi, rfl, rfl⟩; exact hK _ _ (hr i hi)), fun h => SG_mono (h2 h) (by rintro _ _ ⟨i, hi, rfl, rfl⟩; exact hK _ _ (hr i hi))⟩
theorem mem_rot4 {a b c d e : Addr × Obj} {r : Led} : ∀ p ∈ b :: c :: d :: e :: a :: r, p ∈ a :: b :: c :: d :: e :: r := by
  intro p hp
  simp only [List.mem_cons] at hp ⊢
  rcases hp with h | h | h | h | h | h <;> simp [h]
theorem mem_rotm {b c d e f : Addr × Obj} {m r : Led} : ∀ p ∈ b :: c :: d :: e :: f :: (m ++ r), p ∈ b :: c :: (m ++ d :: e :: f :: r) := by
  intro p hp
  simp only [List.mem_cons, List.mem_append] at hp ⊢
  rcases hp with h | h | h | h | h | h | h <;> simp [h]
theorem mem_skip5 {b c d e f : Addr × Obj} {m r : Led} : ∀ p ∈ b :: c :: d :: e :: f :: r, p ∈ b :: c :: d :: e :: f :: (m ++ r) := by
  intro p hp
  simp only [List.mem_cons, List.mem_append] at hp ⊢
  rcases hp with h | h | h | h | h | h <;> simp [h]
theorem mem_skip4 {b c d e f : Addr × Obj} {m r : Led} : ∀ p ∈ b :: c :: d :: e :: r, p ∈ b :: c :: d :: e :: f :: (m ++ r) := by
  intro p hp
  simp only [List.mem_cons, List.mem_append] at hp ⊢
  rcases hp with h | h | h | h | h <;> simp [h]
end
end Mine
local macro_rules | `(tactic| walk_at "S more") => `(tactic| first | ((with_reducible refine' Mine.EP_slice ?o ?a ?b ?z ?s ?t); (case o => walk_at "S e"); (case a => walk_at "S e"); (case b => walk_at "S e"); (case z => omega); (case s => exact fun _ _ => rfl); (case t => exact fun _ _ => by with_unfolding_all rfl)) | ((with_reducible refine' Mine.EP_sw ?o ?a ?b rfl ?m); (case o => walk_at "S e"); (case a => walk_at "S e"); (case b => walk_at "S e"); (case m => exact rfl)) | ((with_reducible refine' Mine.EP_neg ?o); (case o => walk_at "S e")) | ((with_reducible refine' Mine.EP_andb ?a ?b); (case a => walk_at "S e"); (case b => intro ha; walk_at "S e")) | ((with_reducible refine' Mine.EP_orb ?a ?b); (case a => walk_at "S e"); (case b => intro ha; walk_at "S e")) | ((with_reducible refine' Mine.EP_len ?k ?a rfl ?z); (case a => walk_at "S e"); (case k => kernel_rfl); (case z => omega)) | ((with_reducible refine' Mine.EP_chr ?k ?a rfl ?h0 ?h1); (case a => walk_at "S e"); (case k => kernel_rfl); (case h0 => omega); (case h1 => omega)) | ((with_reducible refine' Mine.EP_lt ?a ?b); (case a => walk_at "S e"); (case b => walk_at "S e")) | ((with_reducible refine' Mine.EP_le ?a ?b); (case a => walk_at "S e"); (case b => walk_at "S e")) | ((with_reducible refine' Mine.EP_gt ?a ?b); (case a => walk_at "S e"); (case b => walk_at "S e")) | ((with_reducible refine' Mine.EP_ge ?a ?b); (case a => walk_at "S e"); (case b => walk_at "S e")) | ((with_reducible refine' Mine.EP_eq ?a ?b); (case a => walk_at "S e"); (case b => walk_at "S e")) | fail "S more")
local macro_rules | `(tactic| walk_at "S tmore") => `(tactic| first | ((with_reducible refine' Mine.TT_chain ?a ?b ?d rfl); (case a => walk_at "S e"); (case b => walk_at "S e"); (case d => walk_at "S e")) | ((with_reducible refine' Mine.TT_isn ?a); (case a => walk_at "S e")) | ((with_reducible refine' Mine.TT_notn ?a); (case a => walk_at "S e")) | ((with_reducible refine' Mine.TT_seq ?a ?b); (case a => walk_at "S e"); (case b => walk_at "S e")) | fail "S tmore")
namespace Mine
noncomputable def clsOf (first : Bool) (c : Int) : Bool := if first then isIdStart c else isIdPart c
noncomputable def nameSign (first : Bool) (l : List Nat) : Option (Int × Nat) :=
  if hd1 l = 92 then
    (let c := if hd1 l.tail = 117 then hexAt (l.drop 2) 4 0 else -1
     if 0 ≤ c ∧ clsOf first c = true then some (c, 6) else none)
  else if 0 ≤ hd1 l ∧ clsOf first (hd1 l) = true then some (hd1 l, 1) else none
theorem hexAt_bnd : ∀ (n : Nat) (l : List Nat) (v : Int), 0 ≤ v → hexAt l n v < (v + 1) * 16 ^ n ∧ -1 ≤ hexAt l n v
  | 0, l, v, h => by simp only [hexAt, Int.pow_zero]; omega
  | n + 1, l, v, h => by
    have hb := hexVal_bnd (hd1 l)
    rw [hexAt]
    split
    · refine ⟨?_, Int.le_refl _⟩
      have : (0 : Int) ≤ (v + 1) * 16 ^ (n + 1) := Int.mul_nonneg (by omega) (Int.pow_nonneg (by decide))
      omega
    · obtain ⟨h1, h2⟩ := hexAt_bnd n l.tail (v * 16 + hexVal (hd1 l)) (by omega)
      refine ⟨Int.lt_of_lt_of_le h1 ?_, h2⟩
      rw [Int.pow_succ, Int.mul_comm (16 ^ n) 16, ← Int.mul_assoc]
      exact Int.mul_le_mul_of_nonneg_right (by omega) (Int.pow_nonneg (by decide))
theorem hexAt4 (l : List Nat) : hexAt l 4 0 < 65536 := by
  have := (hexAt_bnd 4 l 0 (by decide)).1
  have e : ((0 : Int) + 1) * 16 ^ 4 = 65536 := by decide
  rw [e] at this; exact this
theorem codeAt_bnd {T : Str} {i : Int} (hc : ∀ c ∈ T.cps.toList, c < 1114112) : codeAt T i < 1114112 := by
  unfold codeAt
  split
  · rw [Array.getD]
    split
    · rename_i h
      have := hc T.cps[i.toNat] (by simp)
      exact Int.ofNat_lt.mpr this
    · decide
  · decide
theorem nameSign_eq {T : Str} {pos : Int} {first : Bool} (h0 : 0 ≤ pos) : nameSign first (suf T pos) =
    if codeAt T pos = 92 then
      (if codeAt T (pos + 1) = 117 then (if 0 ≤ hexAt (suf T (pos + 2)) 4 0 then (if clsOf first (hexAt (suf T (pos + 2)) 4 0) = true then some (hexAt (suf T (pos + 2)) 4 0, 6) else none) else none) else none)
    else if 0 ≤ codeAt T pos then (if clsOf first (codeAt T pos) = true then some (codeAt T pos, 1) else none) else none := by
  have e2 : suf T (pos + 2) = (suf T pos).drop 2 := suf_add (T := T) h0 2
  rw [codeAt_suf h0, codeAt_suf (by omega), suf_succ h0, e2]
  unfold nameSign
  (repeat' split) <;> first | rfl | (simp_all; done) | (simp_all; omega) | (exfalso; simp_all; done)
section
variable {T : Str} {pos : Int} {f : Bool}
theorem ns_esc (h0 : 0 ≤ pos) (h1 : codeAt T pos = 92) (h2 : codeAt T (pos + 1) = 117) (h3 : 0 ≤ hexAt (suf T (pos + 2)) 4 0) (h4 : clsOf f (hexAt (suf T (pos + 2)) 4 0) = true) : nameSign f (suf T pos) = some (hexAt (suf T (pos + 2)) 4 0, 6) := by
  rw [nameSign_eq h0, if_pos h1, if_pos h2, if_pos h3, if_pos h4]
theorem ns_one (h0 : 0 ≤ pos) (h1 : ¬ codeAt T pos = 92) (h3 : 0 ≤ codeAt T pos) (h4 : clsOf f (codeAt T pos) = true) : nameSign f (suf T pos) = some (codeAt T pos, 1) := by
  rw [nameSign_eq h0, if_neg h1, if_pos h3, if_pos h4]
theorem ns_no1 (h0 : 0 ≤ pos) (h1 : ¬ codeAt T pos = 92) (h3 : ¬ 0 ≤ codeAt T pos) : nameSign f (suf T pos) = none := by
  rw [nameSign_eq h0, if_neg h1, if_neg h3]
theorem ns_no2 (h0 : 0 ≤ pos) (h1 : ¬ codeAt T pos = 92) (h4 : clsOf f (codeAt T pos) = false) : nameSign f (suf T pos) = none := by
  rw [nameSign_eq h0, if_neg h1]
  split
  · rw [if_neg (by rw [h4]; decide)]
  · rfl
theorem ns_bad1 (h0 : 0 ≤ pos) (h1 : codeAt T pos = 92) (h2 : ¬ codeAt T (pos + 1) = 117) : nameSign f (suf T pos) = none := by
  rw [nameSign_eq h0, if_pos h1, if_neg h2]
theorem ns_bad2 (h0 : 0 ≤ pos) (h1 : codeAt T pos = 92) (h3 : ¬ 0 ≤ hexAt (suf T (pos + 2)) 4 0) : nameSign f (suf T pos) = none := by
  rw [nameSign_eq h0, if_pos h1, if_neg h3]
  split <;> rfl
theorem ns_bad3 (h0 : 0 ≤ pos) (h1 : codeAt T pos = 92) (h4 : clsOf f (hexAt (suf T (pos + 2)) 4 0) = false) : nameSign f (suf T pos) = none := by
  rw [nameSign_eq h0, if_pos h1]
  (repeat' split) <;> first | rfl | simp_all
end
end Mine
namespace Mine
noncomputable def KEYS : List Str := [Str.ofString "break", Str.ofString "case", Str.ofString "catch", Str.ofString "continue", Str.ofString "debugger", Str.ofString "default", Str.ofString "delete", Str.ofString "do", Str.ofString "else", Str.ofString "finally", Str.ofString "for", Str.ofString "function", Str.ofString "if", Str.ofString "in", Str.ofString "instanceof", Str.ofString "new", Str.ofString "return", Str.ofString "switch", Str.ofString "this", Str.ofString "throw", Str.ofString "try", Str.ofString "typeof", Str.ofString "var", Str.ofString "void", Str.ofString "while", Str.ofString "with", Str.ofString "class", Str.ofString "const", Str.ofString "enum", Str.ofString "export", Str.ofString "extends", Str.ofString "imp\x6frt", Str.ofString "super", Str.ofString "null", Str.ofString "true", Str.ofString "false"]
theorem join_flat : ∀ ys : List Str, Txt.join (Str.ofString "") ys = ⟨(ys.flatMap fun y => y.cps.toList).toArray⟩ := by
  intro ys
  show Builtin.Str.glued (Str.ofString "") ys = _
  rw [StrLaws.glued_eq_join]
  induction ys with
  | nil => rfl
  | cons a r ih =>
    cases r with
    | nil => simp [Str.join]
    | cons b r =>
      have e : Str.ofString "" = ⟨#[]⟩ := by decide
      rw [Str.join, ih, e]
      · show (⟨(a.cps ++ #[]) ++ _⟩ : Str) = _
        simp
      · simp
theorem join_codes (cs : List Nat) : Txt.join (Str.ofString "") (cs.map fun c => (⟨#[c]⟩ : Str)) = ⟨cs.toArray⟩ := by
  rw [join_flat]
  congr 1
  induction cs with
  | nil => rfl
  | cons c r ih => simp_all
section
variable {w : World} {mg mb : Str → Option Value} {mean : ExcName → Option Value} {news : Led}
theorem keys_eq : KEYS = [⟨#[98, 114, 101, 97, 107]⟩, ⟨#[99, 97, 115, 101]⟩, ⟨#[99, 97, 116, 99, 104]⟩, ⟨#[99, 111, 110, 116, 105, 110, 117, 101]⟩, ⟨#[100, 101, 98, 117, 103, 103, 101, 114]⟩, ⟨#[100, 101, 102, 97, 117, 108, 116]⟩, ⟨#[100, 101, 108, 101, 116, 101]⟩, ⟨#[100, 111]⟩, ⟨#[101, 108, 115, 101]⟩, ⟨#[102, 105, 110, 97, 108, 108, 121]⟩, ⟨#[102, 111, 114]⟩, ⟨#[102, 117, 110, 99, 116, 105, 111, 110]⟩, ⟨#[105, 102]⟩, ⟨#[105, 110]⟩, ⟨#[105, 110, 115, 116, 97, 110, 99, 101, 111, 102]⟩, ⟨#[110, 101, 119]⟩, ⟨#[114, 101, 116, 117, 114, 110]⟩, ⟨#[115, 119, 105, 116, 99, 104]⟩, ⟨#[116, 104, 105, 115]⟩, ⟨#[116, 104, 114, 111, 119]⟩, ⟨#[116, 114, 121]⟩, ⟨#[116, 121, 112, 101, 111, 102]⟩, ⟨#[118, 97, 114]⟩, ⟨#[118, 111, 105, 100]⟩, ⟨#[119, 104, 105, 108, 101]⟩, ⟨#[119, 105, 116, 104]⟩, ⟨#[99, 108, 97, 115, 115]⟩, ⟨#[99, 111, 110, 115, 116]⟩, ⟨#[101, 110, 117, 109]⟩, ⟨#[101, 120, 112, 111, 114, 116]⟩, ⟨#[101, 120, 116, 101, 110, 100, 115]⟩, ⟨#[105, 109, 112, 111, 114, 116]⟩, ⟨#[115, 117, 112, 101, 114]⟩, ⟨#[110, 117, 108, 108]⟩, ⟨#[116, 114, 117, 101]⟩, ⟨#[102, 97, 108, 115, 101]⟩] := by decide +kernel
inductive NameRun : Bool → List Nat → List Nat → Nat → Bool → Prop
  | stop {f l} : nameSign f l = none → (hd1 l ≠ 92) → NameRun f l [] 0 true
  | step {f l c j cs k p} : nameSign f l = some (c, j) → NameRun false (l.drop j) cs k p → NameRun f l (c.toNat :: cs) (j + k) (decide (j ≤ 1) && p)
theorem NameRun.esc {f : Bool} {l : List Nat} {cs : List Nat} {k : Nat} {p : Bool} (H : NameRun f l cs k p) : hd1 l = 92 → nameSign f l ≠ none := by
  cases H with
  | stop h1 h2 => exact fun h => absurd h h2
  | step h1 H => exact fun _ h => by rw [h1] at h; cases h
theorem NameRun.no {f : Bool} {l : List Nat} {cs : List Nat} {k : Nat} {p : Bool} (H : NameRun f l cs k p) (h : nameSign f l = none) : cs = [] ∧ k = 0 ∧ p = true := by
  cases H with
  | stop h1 h2 => exact ⟨rfl, rfl, rfl⟩
  | step h1 H => rw [h1] at h; cases h
theorem NameRun.yes {f : Bool} {l : List Nat} {cs : List Nat} {k : Nat} {p : Bool} {c : Int} {j : Nat} (H : NameRun f l cs k p) (h : nameSign f l = some (c, j)) : ∃ cs' k' p', cs = c.toNat :: cs' ∧ k = j + k' ∧ p = (decide (j ≤ 1) && p') ∧ NameRun false (l.drop j) cs' k' p' := by
  cases H with
  | stop h1 h2 => rw [h1] at h; cases h
  | step h1 H =>
    rw [h1] at h
    cases h
    exact ⟨_, _, _, rfl, rfl, rfl, H⟩
theorem sum_ones : ∀ cs : List Nat, ((cs.map fun c => (⟨#[c]⟩ : Str)).map (·.length)).sum = cs.length
  | [] => rfl
  | c :: r => by
    simp only [List.map_cons, List.sum_cons, List.length_cons, sum_ones r]
    have : (⟨#[c]⟩ : Str).length = 1 := rfl
    omega
end
end Mine
namespace Mine
noncomputable def hxn (l : List Nat) : Nat := (l.takeWhile fun (c : Nat) => decide (0 ≤ hexVal c)).length
noncomputable def hxv (l : List Nat) (v : Int) : Int := (l.takeWhile fun (c : Nat) => decide (0 ≤ hexVal c)).foldl (fun v c => v * 16 + hexVal (c : Nat)) v
theorem hx_yes {l : List Nat} (h : 0 ≤ hexVal (hd1 l)) (v : Int) : hxn l = hxn l.tail + 1 ∧ hxv l v = hxv l.tail (v * 16 + hexVal (hd1 l)) ∧ 0 < l.length := by
  cases l with
  | nil => exact absurd h (by decide)
  | cons c r =>
    have h' : 0 ≤ hexVal (c : Int) := h
    simp [hxn, hxv, h', hd1]
theorem hx_no {l : List Nat} (h : ¬ 0 ≤ hexVal (hd1 l)) (v : Int) : hxn l = 0 ∧ hxv l v = v := by
  cases l with
  | nil => exact ⟨rfl, rfl⟩
  | cons c r =>
    have h' : ¬ 0 ≤ hexVal (c : Int) := h
    simp [hxn, hxv, h']
noncomputable def ocn (l : List Nat) : Nat := (l.takeWhile fun (c : Nat) => isOctal c).length
noncomputable def ocv (l : List Nat) (v : Int) : Int := (l.takeWhile fun (c : Nat) => isOctal c).foldl (fun v c => v * 8 + (c : Nat) - 48) v
theorem oc_yes {l : List Nat} (h : isOctal (hd1 l) = true) (v : Int) : ocn l = ocn l.tail + 1 ∧ ocv l v = ocv l.tail (v * 8 + hd1 l - 48) ∧ 0 < l.length ∧ 48 ≤ hd1 l ∧ hd1 l ≤ 55 := by
  cases l with
  | nil => exact absurd h (by decide)
  | cons c r =>
    have h' : isOctal (c : Int) = true := h
    have h2 := h'
    unfold isOctal at h2
    simp only [Bool.and_eq_true, decide_eq_true_eq] at h2
    refine ⟨?_, ?_, by simp, h2.1, h2.2⟩
    · simp [ocn, h']
    · simp [ocv, h', hd1]
theorem oc_no {l : List Nat} (h : isOctal (hd1 l) = false) (v : Int) : ocn l = 0 ∧ ocv l v = v := by
  cases l with
  | nil => exact ⟨rfl, rfl⟩
  | cons c r =>
    have h' : isOctal (c : Int) = false := h
    simp [ocn, ocv, h']
section
variable {w : World} {mg mb : Str → Option Value} {mean : ExcName → Option Value} {news : Led}
noncomputable def expRun (l : List Nat) : Nat × Int :=
  if hd1 l = 69 ∨ hd1 l = 101 then
    if hd1 l.tail = 45 then (2 + digs (l.drop 2), -(if ((l.drop 2).takeWhile fun (c : Nat) => isDigit c).dropWhile (fun c => decide (c = 48)) = [] then 0 else 2))
    else if hd1 l.tail = 43 then (2 + digs (l.drop 2), if ((l.drop 2).takeWhile fun (c : Nat) => isDigit c).dropWhile (fun c => decide (c = 48)) = [] then 0 else 2)
    else (1 + digs l.tail, if (l.tail.takeWhile fun (c : Nat) => isDigit c).dropWhile (fun c => decide (c = 48)) = [] then 0 else 2)
  else (0, 0)
theorem lstrip_mk (ds : List Nat) : Txt.lstripChars ⟨ds.toArray⟩ (Str.ofString "0") = ⟨(ds.dropWhile fun c => decide (c = 48)).toArray⟩ := by
  have h := lstrip_zeros ⟨ds.toArray⟩
  cases hy : Txt.lstripChars ⟨ds.toArray⟩ (Str.ofString "0") with
  | mk a =>
    rw [hy] at h
    congr 1
    rw [← Array.toArray_toList (xs := a)]
    have h' : a.toList = (ds.dropWhile fun c => decide (c = 48)) := by simpa using h
    rw [h']
theorem figs_fit {T : Str} {i : Int} (hT : T.length ≤ 1000000) : (⟨((suf T i).takeWhile fun (c : Nat) => isDigit c).toArray⟩ : Str).length ≤ sizeLine := by
  have h1 := (List.takeWhile_sublist (l := suf T i) (fun (c : Nat) => isDigit c)).length_le
  have h2 : (suf T i).length ≤ T.length := by
    unfold suf
    rw [List.length_drop]
    have : T.length = T.cps.toList.length := by show T.cps.size = _; simp
    omega
  show Array.size _ ≤ _
  rw [List.size_toArray, sizeLine_eq]
  omega
theorem figs_ne {l : List Nat} (h : 0 < digs l) : (⟨(l.takeWhile fun (c : Nat) => isDigit c).toArray⟩ : Str) ≠ Str.ofString "" := by
  have e : Str.ofString "" = ⟨#[]⟩ := by decide +kernel
  rw [e]
  intro h2
  have h3 := congrArg (fun x : Str => x.cps.size) h2
  simp only [List.size_toArray, List.length_nil] at h3
  unfold digs at h
  omega
/-- the exponent's figures: some, and worth nought or two -/
noncomputable def figOk (l : List Nat) : Prop := 0 < digs l ∧ ((l.takeWhile fun (c : Nat) => isDigit c).dropWhile (fun c => decide (c = 48)) = [] ∨ (l.takeWhile fun (c : Nat) => isDigit c).dropWhile (fun c => decide (c = 48)) = [50])
theorem figs_strip {l : List Nat} (h : figOk l) : (∃ z, Txt.lstripChars ⟨(l.takeWhile fun (c : Nat) => isDigit c).toArray⟩ (Str.ofString "0") = z ∧ z = Str.ofString "" ∧ (l.takeWhile fun (c : Nat) => isDigit c).dropWhile (fun c => decide (c = 48)) = []) ∨
    (∃ z, Txt.lstripChars ⟨(l.takeWhile fun (c : Nat) => isDigit c).toArray⟩ (Str.ofString "0") = z ∧ z = Str.ofString "2" ∧ (l.takeWhile fun (c : Nat) => isDigit c).dropWhile (fun c => decide (c = 48)) ≠ []) := by
  rcases h.2 with h2 | h2
  · exact .inl ⟨_, rfl, by rw [lstrip_mk, h2]; decide +kernel, h2⟩
  · exact .inr ⟨_, rfl, by rw [lstrip_mk, h2]; decide +kernel, by rw [h2]; decide⟩
theorem exr_plus {l : List Nat} (hel : hd1 l = 69 ∨ hd1 l = 101) (h : hd1 l.tail = 43) : expRun l = (2 + digs (l.drop 2), if ((l.drop 2).takeWhile fun (c : Nat) => isDigit c).dropWhile (fun c => decide (c = 48)) = [] then 0 else 2) := by
  unfold expRun; rw [if_pos hel, if_neg (by omega), if_pos h]
theorem exr_minus {l : List Nat} (hel : hd1 l = 69 ∨ hd1 l = 101) (h : hd1 l.tail = 45) : expRun l = (2 + digs (l.drop 2), -(if ((l.drop 2).takeWhile fun (c : Nat) => isDigit c).dropWhile (fun c => decide (c = 48)) = [] then 0 else 2)) := by
  unfold expRun; rw [if_pos hel, if_pos h]
theorem exr_none {l : List Nat} (hel : hd1 l = 69 ∨ hd1 l = 101) (h : hd1 l.tail ≠ 43) (h' : hd1 l.tail ≠ 45) : expRun l = (1 + digs l.tail, if (l.tail.takeWhile fun (c : Nat) => isDigit c).dropWhile (fun c => decide (c = 48)) = [] then 0 else 2) := by
  unfold expRun; rw [if_pos hel, if_neg h', if_neg h]
end
end Mine
namespace Mine
/-- whole part, part behind the dot, exponent: what is read, the figures, the power -/
noncomputable def decRun (l : List Nat) : Nat × List Nat × Int :=
  let w := if hd1 l = 48 then 1 else digs l
  let l1 := l.drop w
  if hd1 l1 = 46 then
    (w + (1 + digs l1.tail) + (expRun (l1.tail.drop (digs l1.tail))).1, l.take w ++ l1.tail.take (digs l1.tail), (expRun (l1.tail.drop (digs l1.tail))).2 - digs l1.tail)
  else (w + (expRun l1).1, l.take w, (expRun l1).2)
noncomputable def expOk (l : List Nat) : Prop := hd1 l = 69 ∨ hd1 l = 101 → figOk (if hd1 l.tail = 45 ∨ hd1 l.tail = 43 then l.drop 2 else l.tail)
theorem cat_str {A : Around} {E : Value → Shared → Prop} {s : Shared} {x y z : Str} {t u : Tok} {Q : Value → Shared → Prop} (hz : x ++ y = z) (hs : z.length ≤ sizeLine) (h : ∀ t' k, Q (.str z t') { s with toks := k }) : wpAny (model prg w) A (binaryOp .Add (.str x t) (.str y u)) Q E s := by
  refine P.add_str ?_
  subst hz
  by_cases h1 : x.length = 0
  · have e : x ++ y = y := by
      cases x with | mk a => cases y with | mk b =>
      have : a.size = 0 := h1
      have : a = #[] := Array.eq_empty_of_size_eq_zero this
      subst this
      show (⟨#[] ++ b⟩ : Str) = ⟨b⟩
      simp
    rw [if_pos (by simp [h1])]
    rw [e] at h
    exact h u s.toks
  · rw [if_neg (by simp [h1])]
    by_cases h2 : y.length = 0
    · have e : x ++ y = x := by
        cases x with | mk a => cases y with | mk b =>
        have : b.size = 0 := h2
        have : b = #[] := Array.eq_empty_of_size_eq_zero this
        subst this
        show (⟨a ++ #[]⟩ : Str) = ⟨a⟩
        simp
      rw [if_pos (by simp [h2])]
      rw [e] at h
      exact h t s.toks
    · rw [if_neg (by simp [h2])]
      exact ⟨hs, h _ _⟩
theorem dec_dot {l : List Nat} {k : Nat} (hw : (if hd1 l = 48 then 1 else digs l) = k) (h : hd1 (l.drop k) = 46) : decRun l = (k + (1 + digs (l.drop k).tail) + (expRun ((l.drop k).tail.drop (digs (l.drop k).tail))).1, l.take k ++ (l.drop k).tail.take (digs (l.drop k).tail), (expRun ((l.drop k).tail.drop (digs (l.drop k).tail))).2 - digs (l.drop k).tail) := by
  subst hw; unfold decRun; dsimp only; rw [if_pos h]
theorem dec_int {l : List Nat} {k : Nat} (hw : (if hd1 l = 48 then 1 else digs l) = k) (h : hd1 (l.drop k) ≠ 46) : decRun l = (k + (expRun (l.drop k)).1, l.take k, (expRun (l.drop k)).2) := by
  subst hw; unfold decRun; dsimp only; rw [if_neg h]
theorem take_one {l : List Nat} (h : hd1 l = 48) : l.take 1 = [48] := by
  cases l with
  | nil => exact absurd h (by decide)
  | cons c r =>
    have : c = 48 := Int.ofNat.inj h
    subst this; rfl
theorem digs_all {l : List Nat} : ∀ c ∈ (l.takeWhile fun (c : Nat) => isDigit c), 48 ≤ c ∧ c ≤ 57 := by
  induction l with
  | nil => intro c hc; cases hc
  | cons d r ih =>
    intro c hc
    cases h : isDigit (d : Int) with
    | false => simp [List.takeWhile_cons, h] at hc
    | true =>
      rw [List.takeWhile_cons, if_pos h] at hc
      rcases List.mem_cons.mp hc with rfl | hc
      · unfold isDigit at h
        simp only [Bool.and_eq_true, decide_eq_true_eq] at h
        omega
      · exact ih c hc
section
variable {w : World} {mg mb : Str → Option Value} {mean : ExcName → Option Value} {news : Led}
end
end Mine
namespace Mine
noncomputable abbrev isHexNum (l : List Nat) : Prop := hd1 l = 48 ∧ (hd1 l.tail = 120 ∨ hd1 l.tail = 88)
noncomputable abbrev isOctNum (l : List Nat) : Prop := hd1 l = 48 ∧ isOctal (hd1 l.tail) = true
noncomputable def behindDec (l : List Nat) : List Nat := let w := if hd1 l = 48 then 1 else digs l; let l1 := l.drop w; if hd1 l1 = 46 then l1.tail.drop (digs l1.tail) else l1
/-- what a number is: its length, its bits, whether octal -/
noncomputable def numRun (l : List Nat) : Nat × Int × Bool :=
  if isHexNum l then (2 + hxn (l.drop 2), RR (hxv (l.drop 2) 0).toNat 1, false)
  else if isOctNum l then (ocn l, RR (ocv l 0).toNat 1, true)
  else ((decRun l).1, FD (decRun l).2.1 (decRun l).2.2, false)
noncomputable def NumOk (l : List Nat) : Prop :=
  (if isHexNum l then 0 < hxn (l.drop 2) ∧ hxn (l.drop 2) ≤ 8 else if isOctNum l then ocn l ≤ 8
   else expOk (behindDec l) ∧ (decRun l).2.1.length ≤ 8 ∧ -4 ≤ (decRun l).2.2 ∧ (decRun l).2.2 ≤ 3) ∧
  isDigit (hd1 (l.drop (numRun l).1)) = false ∧ isIdStart (hd1 (l.drop (numRun l).1)) = false ∧ hd1 (l.drop (numRun l).1) ≠ 92
section
variable {w : World} {mg mb : Str → Option Value} {mean : ExcName → Option Value} {news : Led}
end
end Mine
namespace Mine
/-- octal figures, f at most: the worth, how many -/
noncomputable def octGo : Nat → List Nat → Int → Nat → Int × Nat
  | 0, _, v, m => (v, m)
  | f + 1, l, v, m => if isOctal (hd1 l) = true then octGo f l.tail (v * 8 + hd1 l - 48) (m + 1) else (v, m)
noncomputable def octMost (l : List Nat) : Nat := if hd1 l ≤ 51 then 3 else 2
noncomputable def octRun (l : List Nat) : Int × Nat := octGo (octMost l) l 0 0
noncomputable def SINGLES : List (Nat × Nat) := [(98, 8), (116, 9), (110, 10), (118, 11), (102, 12), (114, 13), (39, 39), (34, 34), (92, 92), (113, 113)]
/-- behind a backslash: the codes that it stands for, how many signs are read, whether octal -/
inductive EscRun : List Nat → List Nat → Nat → Bool → Prop
  | line {l} : isLineEnd (hd1 l) = true → EscRun l [] (leS l) false
  | hex {l v} : hd1 l = 120 → hexAt l.tail 2 0 = v → 0 ≤ v → EscRun l [v.toNat] 3 false
  | uni {l v} : hd1 l = 117 → hexAt l.tail 4 0 = v → 0 ≤ v → EscRun l [v.toNat] 5 false
  | nul {l} : hd1 l = 48 → isDigit (hd1 l.tail) = false → EscRun l [0] 1 false
  | oct {l v m} : isOctal (hd1 l) = true → ¬ (hd1 l = 48 ∧ isDigit (hd1 l.tail) = false) → octRun l = (v, m) → ¬ (m < octMost l ∧ isDigit (hd1 (l.drop m)) = true) → EscRun l [v.toNat] m true
  | one {l c d} : (c, d) ∈ SINGLES → hd1 l = (c : Nat) → EscRun l [d] 1 false
theorem octGo_bnd : ∀ (f : Nat) (l : List Nat) (v : Int) (m : Nat), 0 ≤ v → v < ((8 ^ m : Nat) : Int) → 0 ≤ (octGo f l v m).1 ∧ (octGo f l v m).1 < ((8 ^ (octGo f l v m).2 : Nat) : Int) ∧ m ≤ (octGo f l v m).2 ∧ (octGo f l v m).2 ≤ m + f
  | 0, l, v, m, h0, h1 => ⟨h0, h1, Nat.le_refl _, Nat.le_refl _⟩
  | f + 1, l, v, m, h0, h1 => by
    rw [octGo]
    split
    · rename_i h
      have h2 := h
      unfold isOctal at h2
      simp only [Bool.and_eq_true, decide_eq_true_eq] at h2
      have := octGo_bnd f l.tail (v * 8 + hd1 l - 48) (m + 1) (by omega) (by rw [Nat.pow_succ]; omega)
      omega
    · exact ⟨h0, h1, Nat.le_refl _, by omega⟩
theorem oct_turn {f f' : Nat} {l : List Nat} {x v : Int} {k m : Nat} (h : octGo f l x k = (v, m)) (hf : f = f' + 1) (ho : isOctal (hd1 l) = true) : octGo f' l.tail (x * 8 + hd1 l - 48) (k + 1) = (v, m) := by
  subst hf
  rw [octGo, if_pos ho] at h; exact h
theorem oct_stop {f : Nat} {l : List Nat} {x v : Int} {k m : Nat} (h : octGo f l x k = (v, m)) (hf : f = 0 ∨ isOctal (hd1 l) = false) : x = v ∧ k = m := by
  cases f with
  | zero => cases h; exact ⟨rfl, rfl⟩
  | succ f =>
    have h2 := hf.resolve_left (by omega)
    rw [octGo, if_neg (by rw [h2]; decide)] at h
    cases h; exact ⟨rfl, rfl⟩
theorem isOctal_bnd {c : Int} (h : isOctal c = true) : 48 ≤ c ∧ c ≤ 55 := by
  unfold isOctal at h
  simp only [Bool.and_eq_true, decide_eq_true_eq] at h
  exact h
section
variable {w : World} {mg mb : Str → Option Value} {mean : ExcName → Option Value} {news : Led}
end
end Mine
namespace Mine
section
variable {w : World} {mg mb : Str → Option Value} {mean : ExcName → Option Value} {news : Led}
theorem leS_cast {T : Str} {i : Int} (h : 0 ≤ i) : i + lineEndSize T i = i + (leS (suf T i) : Int) := by
  rw [leS_suf h]
theorem item_one {T : Str} {i : Int} (h0 : 0 ≤ i) (h1 : i < T.length) : Txt.item T i = ⟨#[T.cps.getD i.toNat 0]⟩ := by
  have e2 : Txt.charAt T i = some (T.cps.getD i.toNat 0) := by
    have h2 : i.toNat < T.cps.size := by have : T.length = T.cps.size := rfl; omega
    have h3 : ¬ i < 0 := by omega
    have h4 : T.length = T.cps.size := rfl
    simp only [Txt.charAt, seqIndex?, if_neg h3]
    rw [if_pos (by simp only [Bool.and_eq_true, decide_eq_true_eq]; omega)]
    simp [Array.getD, h2]
  unfold Txt.item
  rw [e2]; rfl
section
variable {w : World} {mg mb : Str → Option Value} {mean : ExcName → Option Value} {d : Nat} {c : Sem Value} {news : Led} {dp un : Nat} {gd : Option (List Code)} {cn : Str} {cs : Scope} {a : Addr} {ccd : Value} {cl : List (Str × Addr)} {outer : List Env} {A₀ : Around} {base h₀ : Heap} {L : Addr} {m : Str → Option Value} {s : Shared} {Q E : Value → Shared → Prop} (N : News h₀ L s.heap news) (B : Below A₀ base outer h₀) (F : Fr h₀ L s.heap m) (X : (hpK w.params).In h₀) (T : Top hpV (looseW hpV LS) mean mg mb h₀) (hk : cs.kind = .function)
include N B F X T hk
end
end
end Mine
namespace Mine
section
variable {w : World} {mg mb : Str → Option Value} {mean : ExcName → Option Value} {news : Led}
end
inductive TextRun (q : Int) : List Nat → List Nat → Nat → Bool → Bool → Nat → Prop
  | close {l} : hd1 l = q → TextRun q l [] 1 false true 0
  | one {c : Nat} {r cs k o p n} : (c : Int) ≠ q → (c : Int) ≠ 92 → isLineEnd (c : Int) = false → TextRun q r cs k o p n → TextRun q (c :: r) (c :: cs) (1 + k) o p n
  | esc {l es j oe cs k o p n} : hd1 l = 92 → EscRun l.tail es j oe → TextRun q (l.drop (1 + j)) cs k o p n → TextRun q l (es ++ cs) (1 + j + k) (oe || o) false ((if isLineEnd (hd1 l.tail) = true then 1 else 0) + n)
theorem TextRun.split {q : Int} {l cs : List Nat} {k : Nat} {o p : Bool} {n : Nat} (hq : q ≠ 92) (H : TextRun q l cs k o p n) :
    (hd1 l = q ∧ cs = [] ∧ k = 1 ∧ o = false ∧ p = true ∧ n = 0) ∨
    (∃ (c : Nat) (r cs' : List Nat) (k' : Nat), l = c :: r ∧ (c : Int) ≠ q ∧ (c : Int) ≠ 92 ∧ isLineEnd (c : Int) = false ∧ cs = c :: cs' ∧ k = 1 + k' ∧ TextRun q r cs' k' o p n) ∨
    (∃ (es : List Nat) (j : Nat) (oe : Bool) (cs' : List Nat) (k' : Nat) (o' p' : Bool) (n' : Nat), hd1 l = 92 ∧ hd1 l ≠ q ∧ EscRun l.tail es j oe ∧ cs = es ++ cs' ∧ k = 1 + j + k' ∧ o = (oe || o') ∧ p = false ∧ n = (if isLineEnd (hd1 l.tail) = true then 1 else 0) + n' ∧ TextRun q (l.drop (1 + j)) cs' k' o' p' n') := by
  cases H with
  | close h => exact .inl ⟨h, rfl, rfl, rfl, rfl, rfl⟩
  | one h1 h2 h3 H => exact .inr (.inl ⟨_, _, _, _, rfl, h1, h2, h3, rfl, rfl, H⟩)
  | esc h1 h2 H => exact .inr (.inr ⟨_, _, _, _, _, _, _, _, h1, fun e => hq (e.symm.trans h1), h2, rfl, rfl, rfl, rfl, rfl, H⟩)
noncomputable def flat (ys : List Str) : List Nat := ys.flatMap fun y => y.cps.toList
theorem flat_len : ∀ ys : List Str, (ys.map (·.length)).sum = (flat ys).length
  | [] => rfl
  | y :: r => by
    have := flat_len r
    unfold flat at this ⊢
    simp only [List.map_cons, List.sum_cons, List.flatMap_cons, List.length_append, this]
    rfl
theorem flat_snoc (ys : List Str) (y : Str) : flat (ys ++ [y]) = flat ys ++ y.cps.toList := by
  unfold flat; simp
section
variable {w : World} {mg mb : Str → Option Value} {mean : ExcName → Option Value} {news : Led}
end
end Mine
namespace Mine
noncomputable def PUN : List Str := [⟨#[62, 62, 62, 61]⟩, ⟨#[61, 61, 61]⟩, ⟨#[33, 61, 61]⟩, ⟨#[62, 62, 62]⟩, ⟨#[60, 60, 61]⟩, ⟨#[62, 62, 61]⟩, ⟨#[60, 61]⟩, ⟨#[62, 61]⟩, ⟨#[61, 61]⟩, ⟨#[33, 61]⟩, ⟨#[43, 43]⟩, ⟨#[45, 45]⟩, ⟨#[60, 60]⟩, ⟨#[62, 62]⟩, ⟨#[38, 38]⟩, ⟨#[124, 124]⟩, ⟨#[43, 61]⟩, ⟨#[45, 61]⟩, ⟨#[42, 61]⟩, ⟨#[37, 61]⟩, ⟨#[38, 61]⟩, ⟨#[124, 61]⟩, ⟨#[94, 61]⟩, ⟨#[47, 61]⟩, ⟨#[123]⟩, ⟨#[125]⟩, ⟨#[40]⟩, ⟨#[41]⟩, ⟨#[91]⟩, ⟨#[93]⟩, ⟨#[46]⟩, ⟨#[59]⟩, ⟨#[44]⟩, ⟨#[60]⟩, ⟨#[62]⟩, ⟨#[43]⟩, ⟨#[45]⟩, ⟨#[42]⟩, ⟨#[37]⟩, ⟨#[38]⟩, ⟨#[124]⟩, ⟨#[94]⟩, ⟨#[33]⟩, ⟨#[126]⟩, ⟨#[63]⟩, ⟨#[58]⟩, ⟨#[61]⟩, ⟨#[47]⟩]
theorem pun_eq : ([Str.ofString ">>>=", Str.ofString "===", Str.ofString "!==", Str.ofString ">>>", Str.ofString "<<=", Str.ofString ">>=", Str.ofString "<=", Str.ofString ">=", Str.ofString "==", Str.ofString "!=", Str.ofString "++", Str.ofString "--", Str.ofString "<<", Str.ofString ">>", Str.ofString "&&", Str.ofString "||", Str.ofString "+=", Str.ofString "-=", Str.ofString "*=", Str.ofString "%=", Str.ofString "&=", Str.ofString "|=", Str.ofString "^=", Str.ofString "/=", Str.ofString "{", Str.ofString "}", Str.ofString "(", Str.ofString ")", Str.ofString "[", Str.ofString "]", Str.ofString ".", Str.ofString ";", Str.ofString ",", Str.ofString "<", Str.ofString ">", Str.ofString "+", Str.ofString "-", Str.ofString "*", Str.ofString "%", Str.ofString "&", Str.ofString "|", Str.ofString "^", Str.ofString "!", Str.ofString "~", Str.ofString "?", Str.ofString ":", Str.ofString "=", Str.ofString "/"] : List Str) = PUN := by decide +kernel
theorem find_at {α : Type} {p : α → Bool} {l : List α} {j : Nat} {y : α} (h1 : (l.take j).find? p = none) (h2 : l[j]? = some y) (h3 : p y = true) : l.find? p = some y := by
  have e : l = l.take (j + 1) ++ l.drop (j + 1) := (List.take_append_drop _ _).symm
  rw [e, List.take_add_one, h2, List.append_assoc, List.find?_append, h1]
  simp [h3]
theorem find_on {α : Type} {p : α → Bool} {l : List α} {j : Nat} {y : α} (h1 : (l.take j).find? p = none) (h2 : l[j]? = some y) (h3 : p y = false) : (l.take (j + 1)).find? p = none := by
  rw [List.take_add_one, h2, List.find?_append, h1]
  simp [h3]
section
variable {w : World} {mg mb : Str → Option Value} {mean : ExcName → Option Value} {news : Led}
theorem puns_at {h : Heap} (X : (Mine.hpK w.params).In h) : ∃ vs : List Value, h.IsList 220 vs.toArray ∧ StrsAre vs PUN := by
  rw [← pun_eq]
  refine ⟨_, ⟨_, X 220 _ (by k_is), rfl, _, rfl⟩, ?_⟩
  repeat (first | exact StrsAre.nil | refine StrsAre.cons _ _ ?_)
end
end Mine
namespace Mine
inductive Tv where
  | s (x : Str)
  | i (n : Int)
noncomputable def Tv.val : Tv → Tok → Value
  | .s x, t => .str x t
  | .i n, t => .int n t
/-- one token: its kind, its value, its length, whether octal, whether plain, the ends of lines in it -/
inductive TokRun : List Nat → Str → Tv → Nat → Bool → Bool → Nat → Prop
  | name {l cs k p} : (isIdStart (hd1 l) = true ∨ hd1 l = 92) → NameRun true l cs k p → cs.length ≤ 1000 → 0 ≤ hd1 l → TokRun l (if KEYS.contains ⟨cs.toArray⟩ then Str.ofString "keyword" else Str.ofString "name") (.s ⟨cs.toArray⟩) k false p 0
  | num {l} : isIdStart (hd1 l) = false → hd1 l ≠ 92 → (isDigit (hd1 l) = true ∨ (isDigit (hd1 l) = false ∧ hd1 l = 46 ∧ isDigit (hd1 l.tail) = true)) → NumOk l → 0 ≤ hd1 l → TokRun l (Str.ofString "number") (.i (numRun l).2.1) (numRun l).1 (numRun l).2.2 true 0
  | text {l q cs k o p n} : hd1 l = q → (q = 34 ∨ q = 39) → TextRun q l.tail cs k o p n → cs.length ≤ 1000 → k ≤ 1000 → TokRun l (Str.ofString "text") (.s ⟨cs.toArray⟩) (1 + k) o p n
  | punct {l x} : 0 ≤ hd1 l → isIdStart (hd1 l) = false → hd1 l ≠ 92 → isDigit (hd1 l) = false → (hd1 l = 46 → isDigit (hd1 l.tail) = false) → hd1 l ≠ 34 → hd1 l ≠ 39 → PUN.find? (fun y => sw y.cps.toList l) = some x → x.length ≤ 4 → TokRun l (Str.ofString "punct") (.s x) x.length false true 0
section
variable {w : World} {mg mb : Str → Option Value} {mean : ExcName → Option Value} {news : Led}
end
end Mine
namespace Mine
section
variable {c : Cx} {S : Sc} {l l' : Loc} {n : Led} {R : AV → Led → Prop} {K : Loc → Led → Prop} {rest : List Stmt}
noncomputable def conStrs : List Expr → Option (List Str)
  | [] => some []
  | .Constant (.str x) _ _ :: r => (conStrs r).map (x :: ·)
  | _ => none
noncomputable def conInts : List Expr → Option (List Int)
  | [] => some []
  | .Constant (.int x) _ _ :: r => (conInts r).map (x :: ·)
  | _ => none
theorem EA_strs {p : Pos} {es : List Expr} {L : List Str} (h : conStrs es = some L) : EA c S l n p es (L.map AV.str) := by
  induction es generalizing L with
  | nil => cases h; exact EA_nil
  | cons e es ih =>
    cases e with
    | Constant v k p' =>
      cases v with
      | str x =>
        have h2 : (conStrs es).map (x :: ·) = some L := h
        cases hr : conStrs es with
        | none => rw [hr] at h2; cases h2
        | some L2 => rw [hr] at h2; cases h2; exact EA_cons EP_str rfl (ih hr)
      | _ => cases h
    | _ => cases h
theorem EA_ints {p : Pos} {es : List Expr} {L : List Int} (h : conInts es = some L) : EA c S l n p es (L.map AV.int) := by
  induction es generalizing L with
  | nil => cases h; exact EA_nil
  | cons e es ih =>
    cases e with
    | Constant v k p' =>
      cases v with
      | int x =>
        have h2 : (conInts es).map (x :: ·) = some L := h
        cases hr : conInts es with
        | none => rw [hr] at h2; cases h2
        | some L2 => rw [hr] at h2; cases h2; exact EA_cons EP_int rfl (ih hr)
      | _ => cases h
    | _ => cases h
theorem has_ints {ys : List Int} {vs : List Value} (h : HasAll (ys.map AV.int) vs) : IntsAre vs ys := by
  induction ys generalizing vs with
  | nil => cases vs with
    | nil => exact .nil
    | cons _ _ => exact h.elim
  | cons y ys ih => cases vs with
    | nil => exact h.elim
    | cons v vs =>
      obtain ⟨⟨t, rfl⟩, h2⟩ := h
      exact .cons _ _ (ih h2)
theorem TT_inS {e : Expr} {es : List Expr} {L : List Str} {y : Str} {k : Nat} {p p1 : Pos} (he : EP c S l n e (.str y)) (hc : conStrs es = some L) (hz : Nat.ble L.length 1000 = true) : TT c S l n (.Compare e [.In] [.Tuple es k p1] p) ((L.any fun x => x == y) = true) ((L.any fun x => x == y) = false) := by
  intro ok s m Q r F N ret
  refine wpAny_isTrue_Compare1 ?_ rfl
  refine he ok s m _ r F N (fun va n' h' tk' hp F' N' => ?_)
  obtain ⟨⟨t, rfl⟩, rfl⟩ := hp
  refine EC_tup (EA_strs hc) (by rw [List.length_map]; exact hz) ok _ m _ r F' N' (fun vb n2 h2 tk2 hp F2 N2 => ?_)
  obtain ⟨⟨D, vs⟩, ⟨hv, hD⟩, rfl, rfl⟩ := hp
  refine in_tuple_strs (News.isTup N2 (.head _)) (by simpa using has_strs hv) (wpAny_truthy_bool (ret _ _ h2 _ ⟨rfl, ?_⟩ F2 (news_tl N2)))
  cases L.any fun x => x == y with
  | true => exact .inl ⟨rfl, rfl⟩
  | false => exact .inr ⟨rfl, rfl⟩
theorem TT_ninI {e : Expr} {es : List Expr} {L : List Int} {y : Int} {k : Nat} {p p1 : Pos} (he : EP c S l n e (.int y)) (hc : conInts es = some L) (hz : Nat.ble L.length 1000 = true) : TT c S l n (.Compare e [.NotIn] [.Tuple es k p1] p) ((L.any fun x => x == y) = false) ((L.any fun x => x == y) = true) := by
  intro ok s m Q r F N ret
  refine wpAny_isTrue_Compare1 ?_ rfl
  refine he ok s m _ r F N (fun va n' h' tk' hp F' N' => ?_)
  obtain ⟨⟨t, rfl⟩, rfl⟩ := hp
  refine EC_tup (EA_ints hc) (by rw [List.length_map]; exact hz) ok _ m _ r F' N' (fun vb n2 h2 tk2 hp F2 N2 => ?_)
  obtain ⟨⟨D, vs⟩, ⟨hv, hD⟩, rfl, rfl⟩ := hp
  refine notin_tuple_ints (News.isTup N2 (.head _)) (by simpa using has_ints hv) (wpAny_truthy_bool (ret _ _ h2 _ ⟨rfl, ?_⟩ F2 (news_tl N2)))
  cases L.any fun x => x == y with
  | true => exact .inr ⟨rfl, rfl⟩
  | false => exact .inl ⟨rfl, rfl⟩
theorem EP_cat {x y : Str} {a b : Expr} {p : Pos} (ha : EP c S l n a (.str x)) (hb : EP c S l n b (.str y)) (hs : x.length + y.length ≤ 10000000) : EP c S l n (.BinOp a .Add b p) (.str (x ++ y)) :=
  EP_bin (by
    rintro _ _ s Q ⟨t, rfl⟩ ⟨u, rfl⟩ ret
    refine cat_str rfl ?_ (fun t' k => ret _ _ ⟨_, rfl⟩)
    have e : (x ++ y).length = x.length + y.length := by
      show (x.cps ++ y.cps).size = _
      rw [Array.size_append]; rfl
    rw [e]
    exact Nat.le_trans hs (by decide)) ha hb
theorem EP_slice_n {o b : Expr} {x : Str} {j : Int} {p p2 : Pos} (ho : EP c S l n o (.str x)) (hb : EP c S l n b (.int j)) (hz : x.length ≤ 10000000)
    (hs : ∀ v w, subscripted (.Slice none (some b) none p2) false v w = operate [w, v] (getItem v w)) (ht : ∀ t r, letTemporaryGo o (.str x t) r = pure ()) : EP c S l n (.Subscript o (.Slice none (some b) none p2) p) (.str (Txt.slice x none (some j))) := by
  intro ok s m Q r F N ret
  refine Subscript_ ?_
  refine ho ok s m _ r F N (fun v n' h' tk' hp F' N' => ?_)
  obtain ⟨⟨t, rfl⟩, rfl⟩ := hp
  refine wpAny_Slice (evalPart_none_step (evalPart_some_step ?_))
  refine hb ok _ m _ r F' N' (fun v n3 h3 tk3 hp F3 N3 => ?_)
  obtain ⟨⟨t3, rfl⟩, rfl⟩ := hp
  refine evalPart_none_step ?_
  exact slice_strN_ns_len (s := { s with heap := h3, toks := tk3 }) F3 N3 (fun h4 t4 k4 F4 N4 _ => ret _ _ h4 _ ⟨⟨t4, rfl⟩, rfl⟩ F4 N4) (hs _ _) (ht t) (Nat.le_trans hz (by decide))
theorem EP_slice_s {o b : Expr} {x : Str} {j : Int} {p p2 : Pos} (ho : EP c S l n o (.str x)) (hb : EP c S l n b (.int j)) (hz : x.length ≤ 10000000)
    (hs : ∀ v w, subscripted (.Slice (some b) none none p2) false v w = operate [w, v] (getItem v w)) (ht : ∀ t r, letTemporaryGo o (.str x t) r = pure ()) : EP c S l n (.Subscript o (.Slice (some b) none none p2) p) (.str (Txt.slice x (some j) none)) := by
  intro ok s m Q r F N ret
  refine Subscript_ ?_
  refine ho ok s m _ r F N (fun v n' h' tk' hp F' N' => ?_)
  obtain ⟨⟨t, rfl⟩, rfl⟩ := hp
  refine wpAny_Slice (evalPart_some_step ?_)
  refine hb ok _ m _ r F' N' (fun v n3 h3 tk3 hp F3 N3 => ?_)
  obtain ⟨⟨t3, rfl⟩, rfl⟩ := hp
  refine evalPart_none_step (evalPart_none_step ?_)
  exact slice_strN_sn_len (s := { s with heap := h3, toks := tk3 }) F3 N3 (fun h4 t4 k4 F4 N4 _ => ret _ _ h4 _ ⟨⟨t4, rfl⟩, rfl⟩ F4 N4) (hs _ _) (ht t) (Nat.le_trans hz (by decide))
theorem EP_sitem {o i : Expr} {x : Str} {k : Int} {p : Pos} (ho : EP c S l n o (.str x)) (hi : EP c S l n i (.int k)) (h0 : 0 ≤ k) (h1 : k < x.length) (hz : x.length ≤ 10000000)
    (hs : ∀ v w, subscripted i false v w = operate [v, w] (getItem v w)) (ht : ∀ t r, letTemporaryGo o (.str x t) r = pure ()) : EP c S l n (.Subscript o i p) (.str (Txt.item x k)) := by
  intro ok s m Q r F N ret
  refine Subscript_ ?_
  refine ho ok s m _ r F N (fun v n' h' tk' hp F' N' => ?_)
  obtain ⟨⟨t, rfl⟩, rfl⟩ := hp
  refine hi ok _ m _ r F' N' (fun v n2 h2 tk2 hp F2 N2 => ?_)
  obtain ⟨⟨t2, rfl⟩, rfl⟩ := hp
  exact item_str (fitsSsize_of (N := 9223372036854775808) (by omega) (by omega) (Int.le_refl _)) (by omega) h1 (fun _ => ret _ _ h2 _ ⟨⟨_, rfl⟩, rfl⟩ F2 N2) (hs _ _) (ht t)
theorem EP_ord {e : Expr} {x : Str} {p1 p2 : Pos} (hk : S.glob (Str.ofString "ord") = true) (he : EP c S l n e (.str x)) (hp : plainE e = true) (h1 : x.length = 1) : EP c S l n (.Call (.Name (Str.ofString "ord") p1) [e] [] p2) (.int ((x.cps.getD 0 0 : Nat) : Int)) :=
  EP_b gb_ord hk (EA_cons he hp EA_nil) (by simp [hp]) (by
    intro vs s Q hv _ ret
    obtain ⟨_, rfl, ⟨t, rfl⟩⟩ := has1 hv
    exact ord_of_one h1 (ret _ _ ⟨_, rfl⟩))
end
theorem app_len (x y : Str) : (x ++ y).length = x.length + y.length := by
  show (x.cps ++ y.cps).size = _
  rw [Array.size_append]; rfl
end Mine
local macro_rules | `(tactic| walk_at "S more") => `(tactic| first | ((with_reducible refine' Mine.EP_cat ?a ?b ?z); (case a => walk_at "S e"); (case b => walk_at "S e"); (case z => first | omega | (simp only [Mine.app_len]; omega))) | ((with_reducible refine' Mine.EP_slice_n ?o ?b ?z ?s ?t); (case o => walk_at "S e"); (case b => walk_at "S e"); (case z => omega); (case s => exact fun _ _ => rfl); (case t => exact fun _ _ => by with_unfolding_all rfl)) | ((with_reducible refine' Mine.EP_slice_s ?o ?b ?z ?s ?t); (case o => walk_at "S e"); (case b => walk_at "S e"); (case z => omega); (case s => exact fun _ _ => rfl); (case t => exact fun _ _ => by with_unfolding_all rfl)) | ((with_reducible refine' Mine.EP_ord ?k ?a ?pe ?z); (case a => walk_at "S e"); (case k => kernel_rfl); (case pe => exact rfl); (case z => exact len_item _ _)) | ((with_reducible refine' Mine.EP_sitem ?o ?b ?h0 ?h1 ?z ?s ?t); (case o => walk_at "S e"); (case b => walk_at "S e"); (case h0 => omega); (case h1 => omega); (case z => omega); (case s => exact fun _ _ => rfl); (case t => exact fun _ _ => by with_unfolding_all rfl)) | fail "S more")
namespace Mine
section
variable {c : Cx} {S : Sc} {l l' : Loc} {n : Led} {R : AV → Led → Prop} {K : Loc → Led → Prop} {rest : List Stmt}
theorem mono_led {h₀ h : Heap} {L : Addr} {a b : Led} (N : News h₀ L h b) (hs : ∀ p ∈ a, p ∈ b) : News h₀ L h a := news_sub N hs
/-- what is to be shown of the turns of a for over range(N), begun with locals l and ledger n -/
structure Turns (c : Cx) (S : Sc) (R : AV → Led → Prop) (l : Loc) (n : Led) (N : Nat) (x : Str) (body rest : List Stmt) (K : Loc → Led → Prop) (σ : Type) (fl : σ → Loc) (flI : σ → Int → Loc) (fn : σ → Led) (fnI : σ → Addr × Obj → Led) (I : Nat → σ → Prop) (x₀ : σ) : Prop where
  small : N ≤ 1000000
  h0 : I 0 x₀
  hl : LeR l (fl x₀)
  hn : ∀ p ∈ fn x₀, p ∈ n
  adr : ∀ y, (fn y).map Prod.fst = (fn x₀).map Prod.fst
  hI : ∀ y io, ∀ p ∈ fnI y io, p ∈ io :: fn y
  hs : ∀ y i, SetR (fl y) x (.int i) (flI y i)
  turn : ∀ i y io, i < N → I i y → (∀ p ∈ fn x₀, @LT.lt Nat _ p.1 io.1) → ∀ K' : Loc → Led → Prop, (∀ y' l' n', I (i + 1) y' → LeR l' (fl y') → (∀ p ∈ io :: fn y', p ∈ n') → K' l' n') → SS c S R (flI y i) (fnI y io) body K'
  done : ∀ y, I N y → SS c S R (fl y) (fn y) rest K
theorem range_core {N : Nat} {x : Str} {px : Pos} {body : List Stmt} {σ : Type} {fl : σ → Loc} {flI : σ → Int → Loc} {fn : σ → Led} {fnI : σ → Addr × Obj → Led} {I : Nat → σ → Prop} {x₀ : σ} (H : Turns c S R l n N x body rest K σ fl flI fn fnI I x₀)
    (ok : c.Ok S) {s : Shared} {m : Str → Option Value} {Q : Flow → Shared → Prop} (r : Rep S l m) (F : Fr c.g c.L s.heap m) (Nw : News c.g c.L s.heap n) {ra : Addr} {t₀ u₀ v₀ : Tok} (hr : IsRange s.heap ra 0 (N : Int) 1 t₀ u₀ v₀)
    (next : ∀ l' m' n' h' tk', SS c S R l' n' rest K → Rep S l' m' → Fr c.g c.L h' m' → News c.g c.L h' n' → Q .next { s with heap := h', toks := tk' })
    (ret : ∀ V v m' n' h' tk', R V n' → V.has v → Fr c.g c.L h' m' → News c.g c.L h' n' → Q (.ret v) { s with heap := h', toks := tk' }) :
    wpAny (model prg c.W.w) (c.A S) (pyIter (.ref ra)) (fun it s₂ => TurnsAt prg c.W.w (c.A S) c.g (c.env S) (.Name x px) body Q no it s₂) no s := by
  have hN := H.small
  refine for_R (env := c.env S) (n := N) (m₀ := m) (news := fn x₀) (fun i m' nx => ∃ y, I i y ∧ Rep S (fl y) m' ∧ nx = fn y) rfl hr (small_one (by omega) (by omega) (by omega) (by omega)) (by simp [rangeSize_nat]) F (news_sub Nw H.hn) ⟨x₀, H.h0, H.hl.rep r, rfl⟩ ?_ ?_
  · rintro I0 o i t m₁ nx h tk hI hi ⟨y, hy, r₁, rfl⟩ F₁ N₁
    have hio : ∀ p ∈ fn x₀, @LT.lt Nat _ p.1 I0 := hI
    refine assign_Name (storeX_L F₁ N₁ (fun h2 F2 N2 => ?_) ok.S.kind (r₁.loc ok.S (H.hs y i)))
    refine H.turn i y (I0, o) hi hy hio (fun l' n' => ∃ y', I (i + 1) y' ∧ LeR l' (fl y') ∧ ∀ p ∈ (I0, o) :: fn y', p ∈ n') (fun y' l' n' a b d => ⟨y', a, b, d⟩) ok _ _ _ (r₁.set ok.S (H.hs y i) ⟨t, by rw [Int.zero_add]⟩) F2 (news_sub N2 (H.hI y (I0, o))) (fun l' m' n' h3 tk3 hK r' F3 N3 => ?_) (fun V v m' n' h3 tk3 hR hv F3 N3 => ?_)
    · obtain ⟨y', a, b, d⟩ := hK
      refine ⟨h3, tk3, m', fn y', rfl, F3, fun p hp => N3 p (d p hp), ?_, y', a, b.rep r', rfl⟩
      intro p hp q hq e
      rw [List.mem_singleton.mp hq] at e
      have h4 : p.1 ∈ (fn x₀).map Prod.fst := H.adr y' ▸ List.mem_map.mpr ⟨p, hp, rfl⟩
      obtain ⟨q', hq', e'⟩ := List.mem_map.mp h4
      have h5 := hio q' hq'
      rw [e', e] at h5
      exact Nat.lt_irrefl _ h5
    · exact ret V v m' n' h3 tk3 hR hv F3 N3
  · rintro m₁ nx h tk ⟨y, hy, r₁, rfl⟩ F₁ N₁
    exact next _ m₁ _ h tk (H.done y hy) r₁ F₁ N₁
theorem gb_range : GB (Str.ofString "range") (.type "range") := ⟨fun P => by k_is, rfl, by decide +kernel, by decide +kernel⟩
theorem SS_rangeC {x : Str} {e : Expr} {body : List Stmt} {px p1 p2 p3 : Pos} {X : Type} {P : X → Prop} {fN : X → Nat} {fn0 : X → Led} (hk : S.glob (Str.ofString "range") = true) (he : EC c S l n e X P (fun y => .int (fN y)) fn0) (hp : plainE e = true)
    (hs : ∀ x, foldedSetIterable (.Call (.Name (Str.ofString "range") p1) [e] [] p2) (c.env S) x = pure x)
    (H : ∀ z, P z → ∃ (σ : Type) (fl : σ → Loc) (flI : σ → Int → Loc) (fn : σ → Led) (fnI : σ → Addr × Obj → Led) (I : Nat → σ → Prop) (x₀ : σ), Turns c S R l (fn0 z) (fN z) x body rest K σ fl flI fn fnI I x₀) :
    SS c S R l n (.For (.Name x px) (.Call (.Name (Str.ofString "range") p1) [e] [] p2) body [] p3 :: rest) K := by
  refine SS_cons (K1 := fun l' n' => SS c S R l' n' rest K) ?_ (fun _ _ x => x)
  intro ok s m Q r F N next ret
  refine For_turns F ?_ hs PassesOwn.never
  refine Call_ ?_
  refine nameX_B F ok.X (topRead_of ok.T) (gb_range.none _) gb_range.boot gb_range.ne ?_ ok.S.kind (Sc.glob_eq hk) gb_range.dbg
  refine Pv.callWith_type1 ?_ (star_plain hp) rfl
  refine args_cons ?_ (star_plain hp)
  refine he ok s m _ r F N (fun v n' h' tk' hq F' N' => ?_)
  obtain ⟨z, hz, ⟨t, rfl⟩, rfl⟩ := hq
  refine args_nil ?_
  refine range1_rows F' N' (fun h2 tk2 t₁ u₁ v₁ hr F2 N2 _ => ?_)
  obtain ⟨σ, fl, flI, fn, fnI, I, x₀, T⟩ := H z hz
  exact range_core T ok r F2 N2 hr (fun l' m' n' h' tk' a b d e => next l' m' n' h' tk' a b d e) (fun V v m' n' h' tk' a b d e => ret V v m' n' h' tk' a b d e)
end
end Mine
namespace Mine
section
variable {c : Cx} {S : Sc} {l l' : Loc} {n : Led} {R : AV → Led → Prop} {K : Loc → Led → Prop} {rest : List Stmt}
section
variable {i j : Int} {a b : Expr} {p : Pos} (ha : EP c S l n a (.int i)) (hb : EP c S l n b (.int j))
include ha hb
theorem EP_mod (hj : j ≠ 0) : EP c S l n (.BinOp a .Mod b p) (.int (i.fmod j)) :=
  EP_bin (by rintro _ _ s Q ⟨t, rfl⟩ ⟨u, rfl⟩ ret; exact mod_int hj (ret _ _ ⟨_, rfl⟩)) ha hb
theorem EP_fdiv (hj : j ≠ 0) (hj2 : j.natAbs < 1073741824) : EP c S l n (.BinOp a .FloorDiv b p) (.int (i.fdiv j)) :=
  EP_bin (by rintro _ _ s Q ⟨t, rfl⟩ ⟨u, rfl⟩ ret; exact floordiv_int hj (ret _ _ ⟨_, rfl⟩) (.inl (PyProof.noPylong_small hj2))) ha hb
theorem EP_pow (h0 : 0 ≤ j) (h1 : j ≤ 1000000) (h2 : i.natAbs < 2 ^ 64) : EP c S l n (.BinOp a .Pow b p) (.int (i ^ j.toNat)) :=
  EP_bin (by rintro _ _ s Q ⟨t, rfl⟩ ⟨u, rfl⟩ ret; exact pow_int_small h0 h1 h2 (ret _ _ ⟨_, rfl⟩)) ha hb
theorem EP_shl (h0 : 0 ≤ j) (h1 : j ≤ 1000000) (h2 : i.natAbs < 2 ^ 64) : EP c S l n (.BinOp a .LShift b p) (.int (i * 2 ^ j.toNat)) :=
  EP_bin (by rintro _ _ s Q ⟨t, rfl⟩ ⟨u, rfl⟩ ret; exact lshift_int_small h0 h1 h2 (ret _ _ ⟨_, rfl⟩)) ha hb
theorem EP_shr (h0 : 0 ≤ j) : EP c S l n (.BinOp a .RShift b p) (.int (i.fdiv (2 ^ j.toNat))) :=
  EP_bin (by rintro _ _ s Q ⟨t, rfl⟩ ⟨u, rfl⟩ ret; exact rshift_int h0 (ret _ _ ⟨_, rfl⟩)) ha hb
theorem EP_bor : EP c S l n (.BinOp a .BitOr b p) (.int (Builtin.bitOr i j)) :=
  EP_bin (by rintro _ _ s Q ⟨t, rfl⟩ ⟨u, rfl⟩ ret; exact or_int (ret _ _ ⟨_, rfl⟩)) ha hb
end
theorem EC_p {e : Expr} {V : AV} (h : EP c S l n e V) : EC c S l n e Unit (fun _ => True) (fun _ => V) (fun _ => n) := by
  intro ok s m Q r F N ret
  refine h ok s m Q r F N (fun v n' h' tk' hp F' N' => ?_)
  obtain ⟨hv, rfl⟩ := hp
  exact ret v _ h' tk' ⟨(), trivial, hv, rfl⟩ F' N'
theorem EP_chain {a b d : Expr} {i j k : Int} {p : Pos} (ha : EP c S l n a (.int i)) (hb : EP c S l n b (.int j)) (hd : EP c S l n d (.int k)) (hm : lastMarks [.LtE, .LtE] [b, d] = false) : EP c S l n (.Compare a [.LtE, .LtE] [b, d] p) (.is (.bool (decide (i ≤ j) && decide (j ≤ k)))) := by
  intro ok s m Q r F N ret
  refine Compare_chain ?_ hm
  refine ha ok s m _ r F N (fun va n' h' tk' hp F' N' => ?_)
  obtain ⟨⟨t, rfl⟩, rfl⟩ := hp
  refine chain_link ?_
  refine hb ok _ m _ r F' N' (fun vb n2 h2 tk2 hp F2 N2 => ?_)
  obtain ⟨⟨t2, rfl⟩, rfl⟩ := hp
  refine P.le_int (wpAny_truthy_bool ?_)
  cases hc : decide (i ≤ j) with
  | false =>
    rw [if_neg nofun]
    exact ret _ _ h2 _ ⟨congrArg Value.bool (by rw [hc, Bool.false_and]), rfl⟩ F2 N2
  | true =>
    rw [if_pos rfl]
    refine chain_last ?_
    refine hd ok _ m _ r F2 N2 (fun vb n3 h3 tk3 hp F3 N3 => ?_)
    obtain ⟨⟨t3, rfl⟩, rfl⟩ := hp
    exact P.le_int (ret _ _ h3 _ ⟨congrArg Value.bool (by rw [hc, Bool.true_and]), rfl⟩ F3 N3)
/-- a chain of texts that holds -/
theorem TT_chainS {a b d : Expr} {x y z : Str} {p : Pos} (ha : EP c S l n a (.str x)) (hb : EP c S l n b (.str y)) (hd : EP c S l n d (.str z)) (hm : lastMarks [.LtE, .LtE] [b, d] = false) (g1 : ¬ y.cps.toList < x.cps.toList) (g2 : ¬ z.cps.toList < y.cps.toList) : TT c S l n (.Compare a [.LtE, .LtE] [b, d] p) True False := by
  intro ok s m Q r F N ret
  refine isTrue_chain ?_ hm
  refine ha ok s m _ r F N (fun va n' h' tk' hp F' N' => ?_)
  obtain ⟨⟨t, rfl⟩, rfl⟩ := hp
  refine test_link ?_
  refine hb ok _ m _ r F' N' (fun vb n2 h2 tk2 hp F2 N2 => ?_)
  obtain ⟨⟨t2, rfl⟩, rfl⟩ := hp
  refine P.le_str (wpAny_truthy_bool ?_)
  rw [decide_eq_false g1, if_pos (by rfl)]
  refine test_last ?_
  refine hd ok _ m _ r F2 N2 (fun vb n3 h3 tk3 hp F3 N3 => ?_)
  obtain ⟨⟨t3, rfl⟩, rfl⟩ := hp
  refine P.le_str (wpAny_truthy_bool ?_)
  exact ret _ _ h3 _ ⟨rfl, .inl ⟨by rw [decide_eq_false g2]; rfl, trivial⟩⟩ F3 N3
theorem EP_orN {a b : Expr} {es : List Expr} {x y : Bool} {p : Pos} (ha : EP c S l n a (.is (.bool x))) (hb : x = false → EP c S l n (.BoolOp .Or (b :: es) p) (.is (.bool y))) : EP c S l n (.BoolOp .Or (a :: b :: es) p) (.is (.bool (x || y))) := by
  intro ok s m Q r F N ret
  refine BoolOp_or ?_
  refine ha ok s m _ r F N (fun v n' h' tk' hp F' N' => ?_)
  obtain ⟨rfl, rfl⟩ := hp
  refine wpAny_truthy_bool ?_
  cases x with
  | false =>
    rw [if_neg nofun]
    exact hb rfl ok _ m _ r F' N' ret
  | true =>
    rw [if_pos rfl]
    exact ret _ _ h' _ ⟨rfl, rfl⟩ F' N'
theorem EP_or1 {a : Expr} {V : AV} {p : Pos} (ha : EP c S l n a V) : EP c S l n (.BoolOp .Or [a] p) V := fun ok s m Q r F N ret => BoolOp_one (ha ok s m Q r F N ret)
/-- x names a number of the file -/
structure GI (x : Str) (i : Int) : Prop where
  val : ∀ P, ∃ t, nsIn (hpK P) mainGlobals x = some (some (.int i t))
  dbg : (x == (Str.ofString "__debug__")) = false
theorem EP_gi {x : Str} {i : Int} {p : Pos} (hg : GI x i) (hk : S.glob x = true) : EP c S l n (.Name x p) (.int i) := by
  intro ok s m Q r F N ret
  obtain ⟨t, ht⟩ := hg.val c.W.w.params
  exact nameX_K F ok.X (topRead_of ok.T) ht (ret _ _ _ s.toks ⟨⟨t, rfl⟩, rfl⟩ F N) ok.S.kind (Sc.glob_eq hk) hg.dbg
/-- x names the object at a -/
structure GR (x : Str) (a : Addr) : Prop where
  val : ∀ P, nsIn (hpK P) mainGlobals x = some (some (.ref a))
  dbg : (x == (Str.ofString "__debug__")) = false
theorem EP_gr {x : Str} {a : Addr} {p : Pos} (hg : GR x a) (hk : S.glob x = true) : EP c S l n (.Name x p) (.is (.ref a)) := by
  intro ok s m Q r F N ret
  exact nameX_K F ok.X (topRead_of ok.T) (hg.val _) (ret _ _ _ s.toks ⟨rfl, rfl⟩ F N) ok.S.kind (Sc.glob_eq hk) hg.dbg
theorem EP_inG {e : Expr} {x : Str} {a : Addr} {L : List Int} {y : Int} {p p1 : Pos} (he : EP c S l n e (.int y)) (hg : GR x a) (hk : S.glob x = true) (hL : ∀ h, (hpK c.W.w.params).In h → ∃ vs : List Value, h.IsList a vs.toArray ∧ IntsAre vs L) : EP c S l n (.Compare e [.In] [.Name x p1] p) (.is (.bool (L.any fun z => z == y))) := by
  intro ok s m Q r F N ret
  refine wpAny_Compare1 ?_ rfl
  refine he ok s m _ r F N (fun va n' h' tk' hp F' N' => ?_)
  obtain ⟨⟨t, rfl⟩, rfl⟩ := hp
  refine EP_gr hg hk ok _ m _ r F' N' (fun vb n2 h2 tk2 hp F2 N2 => ?_)
  obtain ⟨rfl, rfl⟩ := hp
  obtain ⟨vs, h1, h3⟩ := hL h2 (ok.X.keeps F2.keep)
  exact in_list_ints h1 h3 (ret _ _ h2 _ ⟨rfl, rfl⟩ F2 N2)
theorem EP_inGS {e : Expr} {x : Str} {a : Addr} {L : List Str} {y : Str} {p p1 : Pos} (he : EP c S l n e (.str y)) (hg : GR x a) (hk : S.glob x = true) (hL : ∀ h, (hpK c.W.w.params).In h → ∃ vs : List Value, h.IsList a vs.toArray ∧ StrsAre vs L) : EP c S l n (.Compare e [.In] [.Name x p1] p) (.is (.bool (L.any fun z => z == y))) := by
  intro ok s m Q r F N ret
  refine wpAny_Compare1 ?_ rfl
  refine he ok s m _ r F N (fun va n' h' tk' hp F' N' => ?_)
  obtain ⟨⟨t, rfl⟩, rfl⟩ := hp
  refine EP_gr hg hk ok _ m _ r F' N' (fun vb n2 h2 tk2 hp F2 N2 => ?_)
  obtain ⟨rfl, rfl⟩ := hp
  obtain ⟨vs, h1, h3⟩ := hL h2 (ok.X.keeps F2.keep)
  exact in_list_strs h1 h3 (ret _ _ h2 _ ⟨rfl, rfl⟩ F2 N2)
/-- for over a list of the file; the state is the place alone -/
theorem SS_forK {target iter : Expr} {body : List Stmt} {ax : Addr} {vs : List Value} {l0 : Loc} {lI : Nat → Loc} {I : Nat → Prop} {p3 : Pos} (he : EP c S l n iter (.is (.ref ax))) (hl : c.Ok S → c.g.IsList ax vs.toArray) (hs : ∀ x, foldedSetIterable iter (c.env S) x = pure x) (h0 : I 0) (hle : LeR l l0)
    (hA : ∀ i v n' (s : Shared) (m : Str → Option Value) (Q : Unit → Shared → Prop), c.Ok S → vs[i]? = some v → Rep S l0 m → Fr c.g c.L s.heap m → News c.g c.L s.heap n' → (∀ m' h' tk', Rep S (lI i) m' → Fr c.g c.L h' m' → News c.g c.L h' n' → Q () { s with heap := h', toks := tk' }) → wpAny (model prg c.W.w) (c.A S) (assign target (c.env S) v) Q no s)
    (turn : ∀ i io, i < vs.length → I i → ∀ K' : Loc → Led → Prop, (∀ l' n', I (i + 1) → LeR l' l0 → (∀ p ∈ io :: n, p ∈ n') → K' l' n') → SS c S R (lI i) (io :: n) body K')
    (done : I vs.length → SS c S R l0 n rest K) : SS c S R l n (.For target iter body [] p3 :: rest) K := by
  refine SS_cons (K1 := fun l' n' => SS c S R l' n' rest K) ?_ (fun _ _ x => x)
  intro ok s m Q r F N next ret
  refine For_turns F ?_ hs PassesOwn.never
  refine he ok s m _ r F N (fun v n' h' tk' hq F' N' => ?_)
  obtain ⟨rfl, rfl⟩ := hq
  refine for_K (J := fun i m' nx => I i ∧ Rep S l0 m' ∧ nx = n') rfl F' N' (hl ok) ⟨h0, hle.rep r, rfl⟩ ?_ ?_
  · rintro I0 o i v m₁ nx h tk hio hv ⟨hi, r₁, rfl⟩ F₁ N₁
    refine hA i v _ _ _ _ ok hv r₁ F₁ N₁ (fun m2 h2 tk2 r2 F2 N2 => ?_)
    refine turn i (I0, o) (List.getElem?_eq_some_iff.mp hv).1 hi (fun l' n2 => I (i + 1) ∧ LeR l' l0 ∧ ∀ p ∈ (I0, o) :: nx, p ∈ n2) (fun l' n2 a b d => ⟨a, b, d⟩) ok _ m2 _ r2 F2 N2 (fun l' m' n2 h3 tk3 hK r' F3 N3 => ?_) (fun V v m' n2 h3 tk3 hR hv F3 N3 => ?_)
    · obtain ⟨a, b, d⟩ := hK
      refine ⟨h3, tk3, m', nx, rfl, F3, fun p hp => N3 p (d p hp), ?_, a, b.rep r', rfl⟩
      intro p hp q hq e
      rw [List.mem_singleton.mp hq] at e
      have h5 : @LT.lt Nat _ p.1 I0 := hio p hp
      rw [e] at h5
      exact Nat.lt_irrefl _ h5
    · exact ret V v m' n2 h3 tk3 hR hv F3 N3
  · rintro m₁ nx h tk ⟨hi, r₁, rfl⟩ F₁ N₁
    exact next _ m₁ _ h tk (done hi) r₁ F₁ N₁
theorem as_name {x : Str} {px : Pos} {l0 l1 : Loc} {V : AV} {v : Value} {n' : Led} {s : Shared} {m : Str → Option Value} {Q : Unit → Shared → Prop} (ok : c.Ok S) (hs : SetR l0 x V l1) (hv : V.has v) (r : Rep S l0 m) (F : Fr c.g c.L s.heap m) (N : News c.g c.L s.heap n')
    (ret : ∀ m' h' tk', Rep S l1 m' → Fr c.g c.L h' m' → News c.g c.L h' n' → Q () { s with heap := h', toks := tk' }) : wpAny (model prg c.W.w) (c.A S) (assign (.Name x px) (c.env S) v) Q no s :=
  assign_Name (storeX_L F N (fun h2 F2 N2 => ret _ h2 _ (r.set ok.S hs hv) F2 N2) ok.S.kind (r.loc ok.S hs))
theorem SS_rangeP {x : Str} {e : Expr} {body : List Stmt} {px p1 p2 p3 : Pos} {N : Nat} (hk : S.glob (Str.ofString "range") = true) (he : EP c S l n e (.int N)) (hp : plainE e = true)
    (hs : ∀ x, foldedSetIterable (.Call (.Name (Str.ofString "range") p1) [e] [] p2) (c.env S) x = pure x)
    {σ : Type} {fl : σ → Loc} {flI : σ → Int → Loc} {fn : σ → Led} {fnI : σ → Addr × Obj → Led} {I : Nat → σ → Prop} {x₀ : σ} (H : Turns c S R l n N x body rest K σ fl flI fn fnI I x₀) :
    SS c S R l n (.For (.Name x px) (.Call (.Name (Str.ofString "range") p1) [e] [] p2) body [] p3 :: rest) K :=
  SS_rangeC (X := Unit) (P := fun _ => True) (fN := fun _ => N) (fn0 := fun _ => n) hk (EC_p he) hp hs (fun _ _ => ⟨σ, fl, flI, fn, fnI, I, x₀, H⟩)
theorem EP_max {a b : Expr} {i j : Int} {p1 p2 : Pos} (hb0 : GB (Str.ofString "max") (.builtin "max")) (hk : S.glob (Str.ofString "max") = true) (ha : EP c S l n a (.int i)) (hb : EP c S l n b (.int j)) (h1 : plainE a = true) (h2 : plainE b = true) : EP c S l n (.Call (.Name (Str.ofString "max") p1) [a, b] [] p2) (.int (if j > i then j else i)) := by
  intro ok s m Q r F N ret
  refine Call_ ?_
  refine nameX_B F ok.X (topRead_of ok.T) (hb0.none _) hb0.boot hb0.ne ?_ ok.S.kind (Sc.glob_eq hk) hb0.dbg
  refine callWith_method1 (first := []) ?_ (star_plain h1) (star_all (by simp [h2]))
  refine (EA_cons ha h1 (EA_cons hb h2 EA_nil)) ok s m _ r F N (fun vs n' h' tk' hq F' N' => ?_)
  obtain ⟨hvs, rfl⟩ := hq
  obtain ⟨v1, vs, rfl, ⟨t1, rfl⟩, g1⟩ := has_cons hvs
  obtain ⟨v2, vs, rfl, ⟨t2, rfl⟩, g2⟩ := has_cons g1
  obtain rfl := has_nil g2
  exact max_two_N rfl F' N' (fun h2 tk2 F2 N2 => ret _ _ h2 tk2 ⟨⟨_, rfl⟩, rfl⟩ F2 N2)
theorem gb_max : GB (Str.ofString "max") (.builtin "max") := ⟨fun P => by k_is, rfl, by decide +kernel, by decide +kernel⟩
theorem gb_abs : GB (Str.ofString "abs") (.builtin "abs") := ⟨fun P => by k_is, rfl, by decide +kernel, by decide +kernel⟩
theorem EP_abs {e : Expr} {i : Int} {p1 p2 : Pos} (hk : S.glob (Str.ofString "abs") = true) (he : EP c S l n e (.int i)) (hp : plainE e = true) : EP c S l n (.Call (.Name (Str.ofString "abs") p1) [e] [] p2) (.int (if i < 0 then -i else i)) :=
  EP_b gb_abs hk (EA_cons he hp EA_nil) (by simp [hp]) (by
    intro vs s Q hv _ ret
    obtain ⟨v1, vs, rfl, ⟨t1, rfl⟩, g1⟩ := has_cons hv
    obtain rfl := has_nil g1
    exact call_abs_int (fun u tk => ret _ _ ⟨_, rfl⟩))
end
end Mine
local macro_rules | `(tactic| walk_at "S more") => `(tactic| first | ((with_reducible refine' Mine.EP_mod ?a ?b ?z); (case a => walk_at "S e"); (case b => walk_at "S e"); (case z => first | decide | omega)) | ((with_reducible refine' Mine.EP_fdiv ?a ?b ?z ?y); (case a => walk_at "S e"); (case b => walk_at "S e"); (case z => first | decide | omega); (case y => first | decide | omega)) | ((with_reducible refine' Mine.EP_bor ?a ?b); (case a => walk_at "S e"); (case b => walk_at "S e")) | ((with_reducible refine' Mine.EP_chain ?a ?b ?d rfl); (case a => walk_at "S e"); (case b => walk_at "S e"); (case d => walk_at "S e")) | ((with_reducible refine' Mine.EP_or1 ?a); (case a => walk_at "S e")) | ((with_reducible refine' Mine.EP_orN ?a ?b); (case a => walk_at "S e"); (case b => intro ha; walk_at "S e")) | fail "S more")
namespace Mine
section
variable {W : Wd} {n : Led}
theorem is_digit_c {i : Int} : CP W 2 n 84 [.int i] (.is (.bool (isDigit i))) := by
  refine CP.of (fn1 (x1 := Str.ofString "code") (us := []) (by k_is) (by k_is) (Mine.ok_of ?hok) (fun _ => rfl) rfl rfl ?e3 ?H)
  walk_at "S fn"
  rename_i c R hR
  walk_at "S s"
  exact hR () _ _ trivial rfl (fun _ h => h)
theorem is_octal_digit_c {i : Int} : CP W 2 n 91 [.int i] (.is (.bool (isOctal i))) := by
  refine CP.of (fn1 (x1 := Str.ofString "code") (us := []) (by k_is) (by k_is) (Mine.ok_of ?hok) (fun _ => rfl) rfl rfl ?e3 ?H)
  walk_at "S fn"
  rename_i c R hR
  walk_at "S s"
  exact hR () _ _ trivial rfl (fun _ h => h)
theorem hex_value_c {i : Int} : CP W 2 n 98 [.int i] (.int (hexVal i)) := by
  refine CP.of (fn1 (x1 := Str.ofString "code") (us := []) (by k_is) (by k_is) (Mine.ok_of ?hok) (fun _ => rfl) rfl rfl ?e3 ?H)
  walk_at "S fn"
  rename_i c R hR
  unfold hexVal at hR
  walk_at "S s"
  · intro h
    rw [if_pos h] at hR
    walk_at "S s"
    exact hR () _ _ trivial rfl (fun _ h => h)
  intro h
  rw [if_neg (by omega)] at hR
  walk_at "S s"
  · intro h
    rw [if_pos h] at hR
    walk_at "S s"
    exact hR () _ _ trivial rfl (fun _ h => h)
  intro h
  rw [if_neg (by omega)] at hR
  with_reducible refine' SS_ret (EP_ifV (V := .int (if 97 ≤ i ∧ i ≤ 102 then i - 87 else -1)) ?a1 (fun _ => ?a2) (fun _ => ?a3) (fun h => congrArg AV.int (if_pos h)) ?a4) ?a5
  case a1 => walk_at "S t"
  case a2 => walk_at "S e"
  case a3 => walk_at "S e"
  case a4 => exact fun h => congrArg AV.int (if_neg (by omega))
  case a5 => exact hR () _ _ trivial rfl (fun _ h => h)
theorem gr_line_ends : GR (Str.ofString "LINE_ENDS") 16 := ⟨fun P => by k_is, by decide +kernel⟩
theorem gr_blanks : GR (Str.ofString "BLANKS") 15 := ⟨fun P => by k_is, by decide +kernel⟩
theorem ends_at {P : Params} {h : Heap} (X : (hpK P).In h) : ∃ vs : List Value, h.IsList 16 vs.toArray ∧ IntsAre vs [10, 13, 8232, 8233] := by
  refine ⟨_, ⟨_, X 16 _ (by k_is), rfl, _, rfl⟩, ?_⟩
  repeat (first | exact IntsAre.nil | refine IntsAre.cons _ _ ?_)
theorem blanks_at {P : Params} {h : Heap} (X : (hpK P).In h) : ∃ vs : List Value, h.IsList 15 vs.toArray ∧ IntsAre vs BLANKS := by
  refine ⟨_, ⟨_, X 15 _ (by k_is), rfl, _, rfl⟩, ?_⟩
  unfold BLANKS
  repeat (first | exact IntsAre.nil | refine IntsAre.cons _ _ ?_)
theorem any_con {L : List Int} {i : Int} : (L.any fun z => z == i) = L.contains i := by
  rw [List.contains_eq_any_beq]
  exact congrArg (List.any L) (funext fun z => Bool.beq_comm)
theorem is_line_end_c {i : Int} : CP W 2 n 77 [.int i] (.is (.bool (isLineEnd i))) := by
  refine CP.of (fn1 (x1 := Str.ofString "code") (us := []) (by k_is) (by k_is) (Mine.ok_of ?hok) (fun _ => rfl) rfl rfl ?e3 ?H)
  walk_at "S fn"
  rename_i c R hR
  with_reducible refine' SS_ret (EP_inG ?a1 gr_line_ends ?a2 (fun _ X => ends_at X)) ?a3
  case a1 => walk_at "S e"
  case a2 => kernel_rfl
  case a3 => exact hR () _ _ trivial (congrArg (fun b => AV.is (.bool b)) any_con) (fun _ h => h)
theorem is_white_c {i : Int} : CP W 2 n 70 [.int i] (.is (.bool (isWhite i))) := by
  refine CP.of (fn1 (x1 := Str.ofString "code") (us := []) (by k_is) (by k_is) (Mine.ok_of ?hok) (fun _ => rfl) rfl rfl ?e3 ?H)
  walk_at "S fn"
  rename_i c R hR
  with_reducible refine' SS_ret (EP_orb (EP_inG ?a1 gr_blanks ?a2 (fun _ X => blanks_at X)) (fun _ => ?a4)) ?a3
  case a1 => walk_at "S e"
  case a2 => kernel_rfl
  case a4 => walk_at "S e"
  case a3 => exact hR () _ _ trivial (congrArg (fun b => AV.is (.bool (b || _))) any_con) (fun _ h => h)
theorem SS_ok {c : Cx} {S : Sc} {R : AV → Led → Prop} {l : Loc} {n : Led} {ss : List Stmt} {K : Loc → Led → Prop} (h : c.Ok S → SS c S R l n ss K) : SS c S R l n ss K := fun ok => h ok ok
theorem is_among_c {i : Int} {ax : Addr} {rs : List (Int × Int)} (hA : ∀ P h, (hpK P).In h → RangesAt h ax rs) : CP W 2 n 63 [.int i, .is (.ref ax)] (.is (.bool (isAmong i rs))) := by
  refine CP.of (fn2 (x1 := Str.ofString "code") (x2 := Str.ofString "ranges") (us := [Str.ofString "first", Str.ofString "last"]) (by k_is) (by k_is) (Mine.ok_of ?hok) (fun _ _ => rfl) rfl rfl ?e3 ?H)
  walk_at "S fn"
  rename_i c R hR
  refine SS_ok fun ok => ?_
  obtain ⟨vs, hvs, hRI⟩ := hA _ _ ok.X
  obtain ⟨hlen, hitem⟩ := RItems.at hRI
  with_reducible refine' SS_forK (l0 := [(Str.ofString "code", .int i), (Str.ofString "ranges", .is (.ref ax)), (Str.ofString "first", .un), (Str.ofString "last", .un)]) (lI := fun j => [(Str.ofString "code", .int i), (Str.ofString "ranges", .is (.ref ax)), (Str.ofString "first", .int (rs.getD j (0, 0)).1), (Str.ofString "last", .int (rs.getD j (0, 0)).2)]) (I := fun j => isAmong i (rs.take j) = false) ?a1 (fun _ => hvs) ?a2 ?a3 ?a4 ?a5 ?a6 ?a7
  case a1 => walk_at "S e"
  case a2 => exact fun _ => rfl
  case a3 => rfl
  case a4 => exact LeR.refl _
  case a5 =>
    intro j v n' s m Q ok hv r F N ret
    obtain ⟨Tp, x, y, tx, ty, rfl, hrs, hT⟩ := hitem j v hv
    have e : rs.getD j (0, 0) = (x, y) := by rw [List.getD_eq_getElem?_getD, hrs]; rfl
    rw [e] at ret
    refine PyProof.Rows.unpackN_ F N (hT.at fun o e => F.keep _ _ e) rfl rfl rfl (fun h2 F2 N2 => ?_)
    refine sets_in (c := c) (xs := [Str.ofString "first", Str.ofString "last"]) (Vs := [.int x, .int y]) (.cons (.tl (.tl .hd)) (.cons (.tl (.tl (.tl .hd))) .nil)) (show HasAll [.int x, .int y] [.int x tx, .int y ty] from ⟨⟨_, rfl⟩, ⟨_, rfl⟩, trivial⟩) ok r F2 N2 rfl (fun k t z a b v s Q hq => ?_) ret
    match k, a, b with
    | 0, a, b => cases a; cases b; exact assign_Name hq
    | 1, a, b => cases a; cases b; exact assign_Name hq
  case a6 =>
    intro j io hj hP K' hK'
    have hj2 : j < rs.length := hlen ▸ hj
    have e : rs.getD j (0, 0) = rs[j] := by rw [List.getD_eq_getElem?_getD, List.getElem?_eq_getElem hj2]; rfl
    rw [e]
    have htk : isAmong i (rs.take (j + 1)) = (decide (rs[j].1 ≤ i) && decide (i ≤ rs[j].2)) := by
      unfold isAmong at hP ⊢
      rw [List.take_add_one, List.getElem?_eq_getElem hj2, List.any_append, hP]; simp
    walk_at "S s"
    · intro h
      walk_at "S s"
      refine hR () _ _ trivial (congrArg (fun b => AV.is (.bool b)) ?_) (fun _ h => .tail _ h)
      unfold isAmong
      exact (List.any_eq_true.mpr ⟨rs[j], List.getElem_mem hj2, by rw [decide_eq_true h.1, decide_eq_true h.2]; rfl⟩).symm
    · intro h
      walk_at "S n"
      refine hK' _ _ ?_ (.same (.same (.un (.un .nil)))) (fun _ h => h)
      rw [htk]
      rcases h with h | h
      · rw [decide_eq_false (by omega), Bool.false_and]
      · rw [decide_eq_false (show ¬ i ≤ rs[j].2 by omega), Bool.and_false]
  case a7 =>
    intro hP
    rw [hlen, List.take_length] at hP
    walk_at "S s"
    exact hR () _ _ trivial (congrArg (fun b => AV.is (.bool b)) hP.symm) (fun _ h => h)
theorem gf_is_among : GF (Str.ofString "is_among") 63 := ⟨fun P => by k_is, fun P => by k_is, by decide +kernel⟩
theorem gf_is_digit : GF (Str.ofString "is_digit") 84 := ⟨fun P => by k_is, fun P => by k_is, by decide +kernel⟩
theorem gf_is_octal_digit : GF (Str.ofString "is_octal_digit") 91 := ⟨fun P => by k_is, fun P => by k_is, by decide +kernel⟩
theorem gf_hex_value : GF (Str.ofString "hex_value") 98 := ⟨fun P => by k_is, fun P => by k_is, by decide +kernel⟩
theorem gf_is_line_end : GF (Str.ofString "is_line_end") 77 := ⟨fun P => by k_is, fun P => by k_is, by decide +kernel⟩
theorem gf_is_white : GF (Str.ofString "is_white") 70 := ⟨fun P => by k_is, fun P => by k_is, by decide +kernel⟩
theorem gf_is_id_start : GF (Str.ofString "is_id_start") 105 := ⟨fun P => by k_is, fun P => by k_is, by decide +kernel⟩
theorem gf_is_id_part : GF (Str.ofString "is_id_part") 112 := ⟨fun P => by k_is, fun P => by k_is, by decide +kernel⟩
theorem gf_code_at : GF (Str.ofString "code_at") 169 := ⟨fun P => by k_is, fun P => by k_is, by decide +kernel⟩
theorem gf_line_end_size : GF (Str.ofString "line_end_size") 183 := ⟨fun P => by k_is, fun P => by k_is, by decide +kernel⟩
theorem gf_hex_at : GF (Str.ofString "hex_at") 176 := ⟨fun P => by k_is, fun P => by k_is, by decide +kernel⟩
theorem gr_letters : GR (Str.ofString "LETTERS") 49 := ⟨fun P => by k_is, by decide +kernel⟩
theorem gr_parts : GR (Str.ofString "PARTS") 56 := ⟨fun P => by k_is, by decide +kernel⟩
theorem is_id_start_c {i : Int} : CP W 3 n 105 [.int i] (.is (.bool (isIdStart i))) := by
  refine CP.of (fn1 (x1 := Str.ofString "code") (us := []) (by k_is) (by k_is) (Mine.ok_of ?hok) (fun _ => rfl) rfl rfl ?e3 ?H)
  walk_at "S fn"
  rename_i c R hR
  unfold isIdStart at hR
  walk_at "S s"
  · intro h
    rw [if_pos h] at hR
    walk_at "S s"
    refine hR () _ _ trivial (congrArg (fun b => AV.is (.bool b)) ?_) (fun _ h => h)
    simp only [Bool.or_assoc]
  intro h
  rw [if_neg (by omega)] at hR
  with_reducible refine' SS_ret (EP_call gf_is_among ?a1 (EA_cons ?a2 ?a3 (EA_cons (EP_gr gr_letters ?a4) ?a5 EA_nil)) ?a6 (is_among_c (W := c.W) (fun _ _ X => letters_at X)) ?a7) ?a8
  case a1 => kernel_rfl
  case a2 => walk_at "S e"
  case a3 => exact rfl
  case a4 => kernel_rfl
  case a5 => exact rfl
  case a6 => exact rfl
  case a7 => exact rfl
  case a8 => exact hR () _ _ trivial rfl (fun _ h => h)
theorem is_id_part_c {i : Int} : CP W 4 n 112 [.int i] (.is (.bool (isIdPart i))) := by
  refine CP.of (fn1 (x1 := Str.ofString "code") (us := []) (by k_is) (by k_is) (Mine.ok_of ?hok) (fun _ => rfl) rfl rfl ?e3 ?H)
  walk_at "S fn"
  rename_i c R hR
  with_reducible refine' SS_ret (EP_orN (EP_call gf_is_id_start ?a1 (EA_cons ?a2 ?a3 EA_nil) ?a4 is_id_start_c ?a5) (fun _ => EP_orN (EP_call gf_is_digit ?b1 (EA_cons ?b2 ?b3 EA_nil) ?b4 is_digit_c ?b5) (fun _ => EP_or1 (EP_andb (EP_gt ?c1 ?c2) (fun _ => EP_call gf_is_among ?d1 (EA_cons ?d2 ?d3 (EA_cons (EP_gr gr_parts ?d4) ?d5 EA_nil)) ?d6 (is_among_c (W := c.W) (fun _ _ X => parts_at X)) ?d7))))) ?z
  case a1 => kernel_rfl
  case a2 => walk_at "S e"
  case a3 => exact rfl
  case a4 => exact rfl
  case a5 => exact rfl
  case b1 => kernel_rfl
  case b2 => walk_at "S e"
  case b3 => exact rfl
  case b4 => exact rfl
  case b5 => exact rfl
  case c1 => walk_at "S e"
  case c2 => walk_at "S e"
  case d1 => kernel_rfl
  case d2 => walk_at "S e"
  case d3 => exact rfl
  case d4 => kernel_rfl
  case d5 => exact rfl
  case d6 => exact rfl
  case d7 => exact rfl
  case z =>
    refine hR () _ _ trivial (congrArg (fun b => AV.is (.bool b)) ?_) (fun _ h => h)
    unfold isIdPart
    simp only [Bool.or_assoc]
theorem code_at_c {T : Str} {i : Int} (hT : T.length ≤ 1000000) (h0 : 0 ≤ i) : CP W 2 n 169 [.str T, .int i] (.int (codeAt T i)) := by
  refine CP.of (fn2 (x1 := Str.ofString "text") (x2 := Str.ofString "at") (us := []) (by k_is) (by k_is) (Mine.ok_of ?hok) (fun _ _ => rfl) rfl rfl ?e3 ?H)
  walk_at "S fn"
  rename_i c R hR
  with_reducible refine' SS_ret (EP_ifV (V := .int (codeAt T i)) ?a1 (fun h => ?a2) (fun h => ?a3) (fun h => congrArg AV.int ?a4) (fun h => congrArg AV.int ?a5)) ?a6
  case a1 => walk_at "S t"
  case a2 => walk_at "S e"
  case a3 => walk_at "S e"
  case a4 => unfold codeAt; rw [if_pos h, item_getD h0 h]
  case a5 => unfold codeAt; rw [if_neg (by omega)]
  case a6 => exact hR () _ _ trivial rfl (fun _ h => h)
theorem line_end_size_c {T : Str} {i : Int} (hT : T.length ≤ 1000000) (h0 : 0 ≤ i) : CP W 3 n 183 [.str T, .int i] (.int (lineEndSize T i)) := by
  have q1 : 0 ≤ i + 1 := by omega
  refine CP.of (fn2 (x1 := Str.ofString "text") (x2 := Str.ofString "at") (us := []) (by k_is) (by k_is) (Mine.ok_of ?hok) (fun _ _ => rfl) rfl rfl ?e3 ?H)
  walk_at "S fn"
  rename_i c R hR
  with_reducible refine' SS_ret (EP_ifV (V := .int (lineEndSize T i)) (TT_and (TT_eq (EP_call gf_code_at ?b1 ?b2 ?b3 (code_at_c hT h0) ?b4) ?b5) (fun _ => TT_eq (EP_call gf_code_at ?c1 ?c2 ?c3 (code_at_c hT q1) ?c4) ?c5)) (fun h => EP_int) (fun h => EP_int) (fun h => congrArg AV.int ?a4) (fun h => congrArg AV.int ?a5)) ?a6
  case b2 => walk_at "S a"
  case b1 => kernel_rfl
  case b3 => exact rfl
  case b4 => exact rfl
  case b5 => walk_at "S e"
  case c2 => walk_at "S a"
  case c1 => kernel_rfl
  case c3 => exact rfl
  case c4 => exact rfl
  case c5 => walk_at "S e"
  case a4 => unfold lineEndSize; rw [if_pos h]
  case a5 => unfold lineEndSize; rw [if_neg (by rintro ⟨a, b⟩; rcases h with h | ⟨-, h⟩; exact h a; exact h b)]
  case a6 => exact hR () _ _ trivial rfl (fun _ h => h)
theorem hex_at_c {T : Str} {i : Int} {many : Nat} (hT : T.length ≤ 1000000) (hi : 0 ≤ i) (hm : many ≤ 4) : CP W 3 n 176 [.str T, .int i, .int many] (.int (hexAt (suf T i) many 0)) := by
  refine CP.of (fn3 (x1 := Str.ofString "text") (x2 := Str.ofString "at") (x3 := Str.ofString "many") (us := [Str.ofString "value", Str.ofString "step", Str.ofString "figure"]) (by k_is) (by k_is) (Mine.ok_of ?hok) (fun _ _ _ => rfl) rfl rfl ?e3 ?H)
  walk_at "S fn"
  rename_i c R hR
  walk_at "S s"
  with_reducible refine' SS_rangeP (N := many) ?a1 ?a2 ?a3 ?a4 (σ := Int) (fl := fun v => [(Str.ofString "text", .str T), (Str.ofString "at", .int i), (Str.ofString "many", .int many), (Str.ofString "value", .int v), (Str.ofString "step", .un), (Str.ofString "figure", .un)]) (flI := fun v k => [(Str.ofString "text", .str T), (Str.ofString "at", .int i), (Str.ofString "many", .int many), (Str.ofString "value", .int v), (Str.ofString "step", .int k), (Str.ofString "figure", .un)]) (fn := fun _ => n) (fnI := fun _ io => io :: n) (I := fun k v => hexAt (suf T (i + k)) (many - k) v = hexAt (suf T i) many 0 ∧ 0 ≤ v ∧ v < ((16 ^ k : Nat) : Int)) (x₀ := 0) ⟨?b1, ?b2, ?b3, ?b4, ?b5, ?b6, ?b7, ?b8, ?b9⟩
  case a1 => kernel_rfl
  case a2 => walk_at "S e"
  case a3 => exact rfl
  case a4 => exact fun _ => rfl
  case b1 => omega
  case b2 => exact ⟨by rw [Int.natCast_zero, Int.add_zero, Nat.sub_zero], Int.le_refl _, (by decide : (0 : Int) < ((16 ^ 0 : Nat) : Int))⟩
  case b3 => exact LeR.refl _
  case b4 => exact fun _ h => h
  case b5 => exact fun _ => rfl
  case b6 => exact fun _ _ _ h => h
  case b7 => exact fun _ _ => by walk_at "S p"
  case b8 =>
    rintro k v io hk ⟨he, h0, hb⟩ hio K' hK'
    have hb2 : ((16 ^ k : Nat) : Int) ≤ 65536 := by
      have : 16 ^ k ≤ 65536 := Nat.le_trans (Nat.pow_le_pow_right (by decide) (by omega) : 16 ^ k ≤ 16 ^ 4) (by decide)
      exact Int.ofNat_le.mpr this
    have hb3 : v < 65536 := by omega
    clear hb2
    have q1 : 0 ≤ i + (k : Int) := by omega
    have hc : codeAt T (i + k) = hd1 (suf T (i + k)) := codeAt_suf q1
    have hn : many - k = (many - (k + 1)) + 1 := by omega
    rw [hn, hexAt, ← hc] at he
    have hbd := hexVal_bnd (codeAt T (i + k))
    with_reducible refine' SS_set (EP_call gf_hex_value ?c1 (EA_cons (EP_call gf_code_at ?c2 ?c3 ?c4 (code_at_c hT q1) ?c5) ?c6 EA_nil) ?c7 hex_value_c ?c8) ?c9 ?ca ?_
    case c3 => walk_at "S a"
    case c1 => kernel_rfl
    case c2 => kernel_rfl
    case c4 => exact rfl
    case c5 => exact rfl
    case c6 => exact rfl
    case c7 => exact rfl
    case c8 => exact rfl
    case c9 => exact rfl
    case ca => walk_at "S p"
    walk_at "S s"
    · intro h9
      rw [if_pos h9] at he
      walk_at "S s"
      exact hR () _ _ trivial (congrArg AV.int he) (fun _ h => .tail _ h)
    · intro h9
      rw [if_neg (by omega)] at he
      walk_at "S s"
      walk_at "S n"
      refine hK' (v * 16 + hexVal (codeAt T (i + k))) _ _ ⟨?d1, by omega, ?d2⟩ (.same (.same (.same (.same (.un (.un .nil)))))) (fun _ h => h)
      case d1 =>
        have hs : suf T (i + ((k + 1 : Nat) : Int)) = (suf T (i + k)).tail := by
          rw [← suf_succ q1]; congr 1; omega
        rw [hs]; exact he
      case d2 => rw [Nat.pow_succ]; omega
  case b9 =>
    rintro v ⟨he, h0, hb⟩
    rw [Nat.sub_self] at he
    walk_at "S s"
    exact hR () _ _ trivial (congrArg AV.int he) (fun _ h => h)
theorem hex_at4_c {T : Str} {i : Int} (hT : T.length ≤ 1000000) (h0 : 0 ≤ i) : CP W 3 n 176 [.str T, .int i, .int 4] (.int (hexAt (suf T i) 4 0)) := hex_at_c (many := 4) hT h0 (by decide)
theorem hex_at2_c {T : Str} {i : Int} (hT : T.length ≤ 1000000) (h0 : 0 ≤ i) : CP W 3 n 176 [.str T, .int i, .int 2] (.int (hexAt (suf T i) 2 0)) := hex_at_c (many := 2) hT h0 (by decide)
end
end Mine
namespace Mine
structure BoxId where
  bx : Addr
  il : Addr
structure BoxSt where
  items : List Value
  n1 : Nat
  n2 : Nat
  seed : Int
  ts : Tok
noncomputable abbrev boxL (B : BoxId) (c : BoxSt) (rest : Led) : Led :=
  (B.bx, W.listOf #[.ref B.il, .int c.seed c.ts] c.n1) :: (B.il, W.listOf c.items.toArray c.n2) :: rest
noncomputable def BoxOk (c : BoxSt) : Prop := (∃ ns, IntsAre c.items ns) ∧ c.items.length ≤ 24 ∧ 0 ≤ c.seed ∧ c.seed < 2147483647
section
variable {w : World} {mg mb : Str → Option Value} {mean : ExcName → Option Value} {news : Led}
end
section
variable {w : World} {mg mb : Str → Option Value} {mean : ExcName → Option Value} {news : Led}
end
end Mine
namespace Mine
noncomputable def hexDig (n : Nat) : Nat := if n < 10 then 48 + n else 87 + n
/-- the last k figures of c -/
noncomputable def hexL (c : Nat) : Nat → List Nat
  | 0 => []
  | k + 1 => hexDig (c / 16 ^ k % 16) :: hexL c k
theorem hexL_len (c : Nat) : ∀ k, (hexL c k).length = k
  | 0 => rfl
  | k + 1 => by rw [hexL, List.length_cons, hexL_len c k]
theorem hex_item : ∀ n, n < 16 → Txt.item (Str.ofString "0123456789abcdef") ((n : Nat) : Int) = ⟨#[hexDig n]⟩ := by decide +kernel
section
variable {w : World} {mg mb : Str → Option Value} {mean : ExcName → Option Value} {news : Led}
end
end Mine
namespace Mine
noncomputable def lg (n : Nat) : Nat := Nat.log2 n
noncomputable def bitsV (n h : Nat) : Int := if n = 0 then 0 else (1023 + (lg n : Int) - h) * 2 ^ Int.toNat 52 + ((n : Int) - 2 ^ Int.toNat (lg n)) * 2 ^ Int.toNat (52 - (lg n : Int))
theorem lg_half {n : Nat} (h : 1 < n) : lg n = lg (n / 2) + 1 := by
  unfold lg
  rw [Nat.log2_def, if_pos (by omega)]
theorem lg_one {n : Nat} (h : n = 1) : lg n = 0 := by subst h; decide
theorem lg_bnd {n : Nat} (h0 : n ≠ 0) (h : n < 1073741824) : lg n < 30 := (Nat.log2_lt h0).mpr h
section
variable {w : World} {mg mb : Str → Option Value} {mean : ExcName → Option Value} {news : Led}
end
end Mine
namespace Mine
noncomputable abbrev boxA (B : BoxId) (rest : Led) : Prop := (B.bx :: B.il :: rest.map Prod.fst).Nodup
theorem boxA_ne {B : BoxId} {rest : Led} (h : boxA B rest) : B.bx ≠ B.il := fun e => (List.nodup_cons.mp h).1 (e ▸ .head _)
theorem boxA_r1 {B : BoxId} {rest : Led} (h : boxA B rest) : ∀ p ∈ rest, p.1 ≠ B.bx := fun p hp e => (List.nodup_cons.mp h).1 (e ▸ .tail _ (List.mem_map.mpr ⟨p, hp, rfl⟩))
theorem boxA_r2 {B : BoxId} {rest : Led} (h : boxA B rest) : ∀ p ∈ rest, p.1 ≠ B.il := fun p hp e => (List.nodup_cons.mp (List.nodup_cons.mp h).2).1 (e ▸ List.mem_map.mpr ⟨p, hp, rfl⟩)
section
variable {c : Cx} {S : Sc} {l l' : Loc} {n n' : Led} {R : AV → Led → Prop} {K : Loc → Led → Prop} {rest : List Stmt}
theorem EP_litem {o i : Expr} {a : Addr} {its : List Value} {e : Nat} {k : Int} {v : Value} {V : AV} {p : Pos} (ho : EP c S l n o (.is (.ref a))) (hi : EP c S l n i (.int k)) (hm : (a, PySem.W.listOf its.toArray e) ∈ n) (h0 : 0 ≤ k) (h1 : k < 2 ^ 63) (hx : its[k.toNat]? = some v) (hv : V.has v)
    (hs : ∀ u, subscripted i false (.ref a) (.int k u) = operate [.ref a, .int k u] (getItem (.ref a) (.int k u))) : EP c S l n (.Subscript o i p) V := by
  intro ok s m Q r F N ret
  refine Subscript_ ?_
  refine ho ok s m _ r F N (fun v n' h' tk' hp F' N' => ?_)
  obtain ⟨rfl, rfl⟩ := hp
  refine hi ok _ m _ r F' N' (fun v n2 h2 tk2 hp F2 N2 => ?_)
  obtain ⟨⟨t, rfl⟩, rfl⟩ := hp
  have hl := News.isList N2 hm
  exact tail_any hl.typeIs slot_list_getitem.lookup (wpAny_getItem_list hl h0 h1 (by simpa using hx) (ret _ _ h2 _ ⟨hv, rfl⟩ F2 N2)) (hs t)
theorem EC_litem {o i : Expr} {a : Addr} {its : List Value} {e : Nat} {X : Type} {Pz : X → Prop} {f : X → Int} {fn : X → Led} {p : Pos} (ho : EP c S l n o (.is (.ref a))) (hi : EC c S l n i X Pz (fun x => .int (f x)) fn) (hm : ∀ x, (a, PySem.W.listOf its.toArray e) ∈ fn x) (hb : ∀ x, Pz x → 0 ≤ f x ∧ f x < its.length) (hz : its.length ≤ 1000)
    (hs : ∀ k u, subscripted i false (.ref a) (.int k u) = operate [.ref a, .int k u] (getItem (.ref a) (.int k u))) : EC c S l n (.Subscript o i p) X Pz (fun x => .is (its.getD (f x).toNat .none)) fn := by
  intro ok s m Q r F N ret
  refine Subscript_ ?_
  refine ho ok s m _ r F N (fun v n' h' tk' hp F' N' => ?_)
  obtain ⟨rfl, rfl⟩ := hp
  refine hi ok _ m _ r F' N' (fun v n2 h2 tk2 hp F2 N2 => ?_)
  obtain ⟨x, hx, ⟨t, rfl⟩, rfl⟩ := hp
  have hl := News.isList N2 (hm x)
  obtain ⟨b1, b2⟩ := hb x hx
  have hlt : (f x).toNat < its.length := by omega
  have hx2 : its.toArray[(f x).toNat]? = some its[(f x).toNat] := by simp [hlt]
  refine tail_any hl.typeIs slot_list_getitem.lookup (wpAny_getItem_list hl b1 (by omega) hx2 (ret _ _ h2 _ ⟨x, hx, ?_, rfl⟩ F2 N2)) (hs _ t)
  show _ = its.getD _ _
  rw [List.getD_eq_getElem?_getD, List.getElem?_eq_getElem hlt]; rfl
theorem EC_pop0 {o e : Expr} {D : Addr} {x : Value} {xs : List Value} {k : Nat} {V : AV} {p1 p2 : Pos} {pl : Sem Bool} (ho : EP c S l n o (.is (.ref D))) (he : EP c S l n e (.int 0)) (hp : plainE e = true) (hm : (D, PySem.W.listOf (x :: xs).toArray k) ∈ n) (U : Upd D (PySem.W.listOf (x :: xs).toArray k) (PySem.W.listOf xs.toArray (k + 1)) n n') (hV : V.has x) (hz : xs.length ≤ 1000)
    (hme : eval (.Call (.Attribute o (Str.ofString "pop") p1) [e] [] p2) (c.env S) = (do
      let ov ← eval o (c.env S)
      standAt p1.atName
      let (f, first) ← holding [ov] (getMethod ov (Str.ofString "pop") pl)
      callWith p2 f first (backTo p2 (starEach [e] (c.env S))) [])) : EC c S l n (.Call (.Attribute o (Str.ofString "pop") p1) [e] [] p2) Unit (fun _ => True) (fun _ => V) (fun _ => n') := by
  intro ok s m Q r F N ret
  refine MethodCall_ ?_ hme
  refine ho ok s m _ r F N (fun v n1 h' tk' hp2 F' N' => ?_)
  obtain ⟨rfl, rfl⟩ := hp2
  refine listMethod_K N' hm PySem.F.slot_list_pop PySem.F.type_list_pop ?_
  refine callWith_method1 ?_ (star_plain hp) rfl
  refine (EA_cons he hp EA_nil) ok _ m _ r F' N' (fun vs n2 h2 tk2 hq F2 N2 => ?_)
  obtain ⟨hvs, rfl⟩ := hq
  obtain ⟨v1, vs, rfl, ⟨t1, rfl⟩, g1⟩ := has_cons hvs
  obtain rfl := has_nil g1
  refine kl_popAt (k := 0) (p := []) (y := x) (q := xs) F2 N2 rfl (by simp [seqIndex?]) rfl U ?_ (fun h3 F3 N3 => ret _ _ h3 tk2 ⟨(), trivial, hV, rfl⟩ F3 N3)
  show (x :: xs).length ≤ sizeLine
  rw [List.length_cons, sizeLine_eq]; omega
theorem EC_modl {X : Type} {Pz : X → Prop} {f : X → Int} {fn : X → Led} {a b : Expr} {p : Pos} {j : Int} (ha : EC c S l n a X Pz (fun x => .int (f x)) fn) (hb : ∀ x, Pz x → EP c S l (fn x) b (.int j)) (hj : j ≠ 0) : EC c S l n (.BinOp a .Mod b p) X Pz (fun x => .int ((f x).fmod j)) fn := by
  intro ok s m Q r F N ret
  refine wpAny_BinOp ?_
  refine ha ok s m _ r F N (fun va n' h' tk' hp F' N' => ?_)
  obtain ⟨x, hx, ⟨t, rfl⟩, rfl⟩ := hp
  refine hb x hx ok _ m _ r F' N' (fun vb n2 h2 tk2 hp F2 N2 => ?_)
  obtain ⟨⟨u, rfl⟩, rfl⟩ := hp
  exact mod_int hj (ret _ _ h2 _ ⟨x, hx, ⟨_, rfl⟩, rfl⟩ F2 N2)
theorem SS_lset {o i e : Expr} {a : Addr} {its : List Value} {k : Nat} {j : Int} {V : AV} {fq : Value → List Value} {fn : Value → Led} {p p1 : Pos} (he : EP c S l n e V) (hp : plainS e = true) (ho : EP c S l n o (.is (.ref a))) (hi : EP c S l n i (.int j)) (h0 : 0 ≤ j) (h1 : j < 2 ^ 63) (hq : ∀ v, ki_setL its j.toNat v = some (fq v))
    (U : ∀ v, Upd a (PySem.W.listOf its.toArray k) (PySem.W.listOf (fq v).toArray k) n (fn v)) (h : ∀ v, V.has v → SS c S R l (fn v) rest K) : SS c S R l n (.Assign [.Subscript o i p1] e p :: rest) K := by
  refine SS_cons (K1 := fun l1 n1 => ∃ v, V.has v ∧ l1 = l ∧ n1 = fn v) ?_ (by rintro _ _ ⟨v, hv, rfl, rfl⟩; exact h v hv)
  intro ok s m Q r F N next ret
  refine wpAny_Assign_Subscript ?_ (swap_plain hp)
  refine he ok s m _ r F N (fun v n' h' tk' hp F' N' => ?_)
  obtain ⟨hv, rfl⟩ := hp
  refine ho ok _ m _ r F' N' (fun v1 n2 h2 tk2 hp F2 N2 => ?_)
  obtain ⟨rfl, rfl⟩ := hp
  refine hi ok _ m _ r F2 N2 (fun v1 n3 h3 tk3 hp F3 N3 => ?_)
  obtain ⟨⟨t, rfl⟩, rfl⟩ := hp
  exact ki_set F3 N3 h0 h1 (hq v) (U v) (fun h4 F4 N4 => next _ _ _ h4 _ ⟨v, hv, rfl, rfl⟩ r F4 N4)
end
theorem fmod_bnd {x j : Int} (h : 0 < j) : 0 ≤ x.fmod j ∧ x.fmod j < j := by
  rw [Int.fmod_eq_emod_of_nonneg _ (by omega)]; exact ⟨Int.emod_nonneg _ (by omega), Int.emod_lt_of_pos _ h⟩
theorem take_d {W : Wd} {B : BoxId} {b : BoxSt} {rest : Led} {wide : Int} (hB : B.bx ≠ B.il) (hr1 : ∀ p ∈ rest, p.1 ≠ B.bx) (hr2 : ∀ p ∈ rest, p.1 ≠ B.il) (hc : BoxOk b) (h0 : 0 < wide) (h1 : wide ≤ 1000) : CC W 2 (boxL B b rest) 429 [.is (.ref B.bx), .int wide] (Int × BoxSt) (fun x => 0 ≤ x.1 ∧ x.1 < wide ∧ BoxOk x.2) (fun x => .int x.1) (fun x => boxL B x.2 rest) := by
  refine fn2 (x1 := Str.ofString "box") (x2 := Str.ofString "wide") (us := []) (by k_is) (by k_is) (Mine.ok_of ?hok) (fun _ _ => rfl) rfl rfl ?e3 ?H
  walk_at "S fn"
  rename_i c R hR
  obtain ⟨items, n1, n2, seed, ts⟩ := b
  obtain ⟨⟨ns, c1⟩, c2, c3, c4⟩ := hc
  dsimp only at c1 c2 c3 c4
  have U1 : ∀ {o o' : Obj}, Upd B.il o o' ((B.bx, PySem.W.listOf #[.ref B.il, .int seed ts] n1) :: (B.il, o) :: rest) ((B.bx, PySem.W.listOf #[.ref B.il, .int seed ts] n1) :: (B.il, o') :: rest) := .tail hB (.head hr2)
  have U2 : ∀ {o o' x : Obj}, Upd B.bx o o' ((B.bx, o) :: (B.il, x) :: rest) ((B.bx, o') :: (B.il, x) :: rest) := .head (List.forall_mem_cons.mpr ⟨hB.symm, hr1⟩)
  with_reducible refine' SS_ifr (TT_gt (EP_lenl (its := items) (k := n2) ?a1 (EP_litem (its := [.ref B.il, .int seed ts]) (e := n1) (v := .ref B.il) ?a2 EP_int ?a3 ?a4 ?a5 ?a6 ?a7 ?a8) ?a9 ?aa ?ab) EP_int) ?_ ?_
  case a1 => kernel_rfl
  case a2 => walk_at "S e"
  case a3 => exact .head _
  case a4 => decide
  case a5 => decide
  case a6 => rfl
  case a7 => rfl
  case a8 => exact fun _ => rfl
  case a9 => exact rfl
  case aa => exact .tail _ (.head _)
  case ab => omega
  · intro h
    cases c1 with
    | nil => cases h
    | @cons x tx vs ms hm =>
      rw [List.length_cons] at c2
      with_reducible refine' SS_retC (EC_modl (EC_pop0 (xs := vs) (k := n2) (V := .int x) (EP_litem (its := [.ref B.il, .int seed ts]) (e := n1) (v := .ref B.il) ?b2 EP_int ?b3 ?b4 ?b5 ?b6 ?b7 ?b8) EP_int ?b9 ?ba U1 ?bb ?bc ?bd) (fun _ _ => ?be) ?bf) (fun _ _ => ?bg)
      case b2 => walk_at "S e"
      case b3 => exact .head _
      case b4 => decide
      case b5 => decide
      case b6 => rfl
      case b7 => rfl
      case b8 => exact fun _ => rfl
      case b9 => exact rfl
      case ba => exact .tail _ (.head _)
      case bb => exact ⟨tx, rfl⟩
      case bc => omega
      case bd => exact rfl
      case be => walk_at "S e"
      case bf => omega
      case bg => exact hR (x.fmod wide, ⟨vs, n1, n2 + 1, seed, ts⟩) _ _ ⟨(fmod_bnd h0).1, (fmod_bnd h0).2, ⟨ms, hm⟩, by dsimp only; omega, c3, c4⟩ rfl (fun _ h => h)
  · intro h
    have g1 := fmod_bnd (x := seed * 48271 + 11) (j := 2147483647) (by decide)
    with_reducible refine' SS_lset (its := [.ref B.il, .int seed ts]) (k := n1) (fq := fun v => [.ref B.il, v]) (fn := fun v => (B.bx, PySem.W.listOf [.ref B.il, v].toArray n1) :: (B.il, PySem.W.listOf items.toArray n2) :: rest) (EP_mod (EP_add (EP_mul (EP_litem (V := .int seed) (its := [.ref B.il, .int seed ts]) (e := n1) (v := .int seed ts) ?c2 EP_int ?c3 ?c4 ?c5 ?c6 ?c7 ?c8) EP_int ?c9) EP_int) EP_int ?ca) ?cb ?cc EP_int ?cd ?ce ?cf ?cg ?_
    case c2 => walk_at "S e"
    case c3 => exact .head _
    case c4 => decide
    case c5 => decide
    case c6 => rfl
    case c7 => exact ⟨ts, rfl⟩
    case c8 => exact fun _ => rfl
    case c9 => mul_fits
    case ca => decide
    case cb => exact rfl
    case cc => walk_at "S e"
    case cd => decide
    case ce => decide
    case cf => exact fun _ => rfl
    case cg => exact fun _ => U2
    rintro _ ⟨t2, rfl⟩
    with_reducible refine' SS_ret (EP_mod (EP_fdiv (EP_litem (V := .int ((seed * 48271 + 11).fmod 2147483647)) (its := [.ref B.il, .int ((seed * 48271 + 11).fmod 2147483647) t2]) (e := n1) (v := .int ((seed * 48271 + 11).fmod 2147483647) t2) ?d2 EP_int ?d3 ?d4 ?d5 ?d6 ?d7 ?d8) EP_int ?d9 ?da) ?db ?dc) ?dd
    case d2 => walk_at "S e"
    case d3 => exact .head _
    case d4 => decide
    case d5 => decide
    case d6 => rfl
    case d7 => exact ⟨t2, rfl⟩
    case d8 => exact fun _ => rfl
    case d9 => decide
    case da => decide
    case db => walk_at "S e"
    case dc => omega
    case dd => exact hR ((((seed * 48271 + 11).fmod 2147483647).fdiv 97).fmod wide, ⟨items, n1, n2, (seed * 48271 + 11).fmod 2147483647, t2⟩) _ _ ⟨(fmod_bnd h0).1, (fmod_bnd h0).2, ⟨ns, c1⟩, c2, g1.1, g1.2⟩ rfl (fun _ h => h)
theorem take_c {W : Wd} {B : BoxId} {b : BoxSt} {rest : Led} {wide : Int} (hA : boxA B rest) (hc : BoxOk b) (h0 : 0 < wide) (h1 : wide ≤ 1000) : CC W 2 (boxL B b rest) 429 [.is (.ref B.bx), .int wide] (Int × BoxSt) (fun x => 0 ≤ x.1 ∧ x.1 < wide ∧ BoxOk x.2) (fun x => .int x.1) (fun x => boxL B x.2 rest) := take_d (boxA_ne hA) (boxA_r1 hA) (boxA_r2 hA) hc h0 h1
theorem gf_take : GF (Str.ofString "_law_take") 429 := ⟨fun P => by k_is, fun P => by k_is, by decide +kernel⟩
theorem gf_pick : GF (Str.ofString "_law_pick") 436 := ⟨fun P => by k_is, fun P => by k_is, by decide +kernel⟩
theorem pick_d {W : Wd} {B : BoxId} {b : BoxSt} {rest : Led} {ch : Addr} {vs : List Value} {nv : Nat} (hB : B.bx ≠ B.il) (hr1 : ∀ p ∈ rest, p.1 ≠ B.bx) (hr2 : ∀ p ∈ rest, p.1 ≠ B.il) (hc : BoxOk b) (hm : (ch, PySem.W.listOf vs.toArray nv) ∈ rest) (h0 : 0 < vs.length) (h1 : vs.length ≤ 1000) :
    CC W 3 (boxL B b rest) 436 [.is (.ref B.bx), .is (.ref ch)] (Value × BoxSt) (fun x => (∃ i : Nat, vs[i]? = some x.1) ∧ BoxOk x.2) (fun x => .is x.1) (fun x => boxL B x.2 rest) := by
  refine fn2 (x1 := Str.ofString "box") (x2 := Str.ofString "choices_here") (us := []) (by k_is) (by k_is) (Mine.ok_of ?hok) (fun _ _ => rfl) rfl rfl ?e3 ?H
  walk_at "S fn"
  rename_i c R hR
  have h2 : (0 : Int) < vs.length := by omega
  have h3 : (vs.length : Int) ≤ 1000 := by omega
  with_reducible refine' SS_retC (EC_litem (its := vs) (e := nv) ?a1 (EC_call gf_take ?a2 (EA_cons ?a3 ?a4 (EA_cons (EP_lenl (its := vs) (k := nv) ?a5 ?a6 ?a7 ?a8 ?a9) ?aa EA_nil)) ?ab (take_d hB hr1 hr2 hc h2 h3) ?ac) ?ad ?ae h1 ?af) ?ag
  case a1 => walk_at "S e"
  case a2 => kernel_rfl
  case a3 => walk_at "S e"
  case a4 => exact rfl
  case a6 => walk_at "S e"
  case a5 => kernel_rfl
  case a7 => exact rfl
  case a8 => exact .tail _ (.tail _ hm)
  case a9 => omega
  case aa => exact rfl
  case ab => exact rfl
  case ac => exact rfl
  case ad => exact fun _ => .tail _ (.tail _ hm)
  case ae => exact fun x hx => ⟨hx.1, hx.2.1⟩
  case af => exact fun _ _ => rfl
  case ag =>
    rintro ⟨k, b'⟩ ⟨k0, k1, hb'⟩
    have hlt : k.toNat < vs.length := by dsimp only at k0 k1; omega
    refine hR (vs.getD k.toNat .none, b') _ _ ⟨⟨k.toNat, ?_⟩, hb'⟩ rfl (fun _ h => h)
    rw [List.getD_eq_getElem?_getD, List.getElem?_eq_getElem hlt]; rfl
theorem law_hex_c {W : Wd} {n : Led} {code many : Nat} (hc : code < 16777216) (hm : many ≤ 6) : CP W 2 n 443 [.int code, .int many] (.str ⟨(hexL code many).toArray⟩) := by
  refine CP.of (fn2 (x1 := Str.ofString "code") (x2 := Str.ofString "many") (us := [Str.ofString "found", Str.ofString "step"]) (by k_is) (by k_is) (Mine.ok_of ?hok) (fun _ _ => rfl) rfl rfl ?e3 ?H)
  walk_at "S fn"
  rename_i c R hR
  walk_at "S s"
  with_reducible refine' SS_rangeP (N := many) ?a1 ?a2 ?a3 ?a4 (σ := Str × Nat) (fl := fun x => [(Str.ofString "code", .int x.2), (Str.ofString "many", .int many), (Str.ofString "found", .str x.1), (Str.ofString "step", .un)]) (flI := fun x k => [(Str.ofString "code", .int x.2), (Str.ofString "many", .int many), (Str.ofString "found", .str x.1), (Str.ofString "step", .int k)]) (fn := fun _ => n) (fnI := fun _ io => io :: n) (I := fun k x => x.1 = ⟨(hexL code k).toArray⟩ ∧ x.2 = code / 16 ^ k) (x₀ := (Str.ofString "", code)) ⟨?b1, ?b2, ?b3, ?b4, ?b5, ?b6, ?b7, ?b8, ?b9⟩
  case a1 => kernel_rfl
  case a2 => walk_at "S e"
  case a3 => exact rfl
  case a4 => exact fun _ => rfl
  case b1 => omega
  case b2 => exact ⟨(by decide +kernel : Str.ofString "" = ⟨#[]⟩), (Nat.div_one _).symm⟩
  case b3 => exact LeR.refl _
  case b4 => exact fun _ h => h
  case b5 => exact fun _ => rfl
  case b6 => exact fun _ _ _ h => h
  case b7 => exact fun _ _ => by walk_at "S p"
  case b8 =>
    rintro k ⟨f, c⟩ io hk ⟨h1, h2⟩ hio K' hK'
    dsimp only at h1 h2 ⊢
    have e1 : (c : Int).fmod 16 = ((c % 16 : Nat) : Int) := by rw [Int.fmod_eq_emod_of_nonneg _ (by decide)]; rfl
    have e2 : (c : Int).fdiv 16 = ((c / 16 : Nat) : Int) := by rw [Int.fdiv_eq_ediv_of_nonneg _ (by decide)]; rfl
    have hz : Txt.item (Str.ofString "0123456789abcdef") ((c : Int).fmod 16) ++ f = ⟨(hexL code (k + 1)).toArray⟩ := by
      rw [e1, hex_item _ (Nat.mod_lt _ (by decide)), hexL, ← h2, h1]
      show (⟨#[_] ++ _⟩ : Str) = _
      simp
    have hl : f.length = k := by
      rw [h1]; show Array.size _ = _; rw [List.size_toArray, hexL_len]
    have b := fmod_bnd (x := (c : Int)) (j := 16) (by decide)
    have hl2 : (Txt.item (Str.ofString "0123456789abcdef") ((c : Int).fmod 16)).length = 1 := by
      rw [e1, hex_item _ (Nat.mod_lt _ (by decide))]; rfl
    have l16 : (Str.ofString "0123456789abcdef").length = 16 := by decide +kernel
    with_reducible refine' SS_set (EP_cat (EP_sitem ?c1 ?c2 b.1 ?c3 ?c4 ?c5 ?c6) ?c7 ?c8) ?c9 ?ca ?_
    case c1 => exact EP_str
    case c2 => walk_at "S e"
    case c3 => rw [l16]; exact b.2
    case c4 => rw [l16]; decide
    case c5 => exact fun _ _ => rfl
    case c6 => exact fun _ _ => by with_unfolding_all rfl
    case c7 => walk_at "S e"
    case c8 => omega
    case c9 => exact rfl
    case ca => walk_at "S p"
    walk_at "S s"
    walk_at "S n"
    rw [hz, e2]
    refine hK' (⟨(hexL code (k + 1)).toArray⟩, c / 16) _ _ ⟨rfl, ?_⟩ (.same (.same (.same (.un .nil)))) (fun _ h => h)
    dsimp only
    rw [h2, Nat.div_div_eq_div_mul, Nat.pow_succ]
  case b9 =>
    rintro ⟨f, c⟩ ⟨h1, h2⟩
    dsimp only at h1 h2 ⊢
    walk_at "S s"
    exact hR () _ _ trivial (congrArg AV.str h1) (fun _ h => h)
theorem law_bits_c {W : Wd} {n : Led} {N hv : Nat} (hn : N < 1073741824) (hh : hv ≤ 2) : CP W 2 n 450 [.int N, .int hv] (.int (bitsV N hv)) := by
  refine CP.of (fn2 (x1 := Str.ofString "number") (x2 := Str.ofString "halves") (us := [Str.ofString "size", Str.ofString "left"]) (by k_is) (by k_is) (Mine.ok_of ?hok) (fun _ _ => rfl) rfl rfl ?e3 ?H)
  walk_at "S fn"
  rename_i c R hR
  unfold bitsV at hR
  walk_at "S s"
  · intro h
    rw [if_pos (by omega)] at hR
    walk_at "S s"
    exact hR () _ _ trivial rfl (fun _ h => h)
  intro h0
  rw [if_neg (by omega)] at hR
  have hl := lg_bnd (n := N) (by omega) hn
  walk_at "S s"
  refine SS_while (σ := Nat × Nat) (fun x => [(Str.ofString "number", .int N), (Str.ofString "halves", .int hv), (Str.ofString "size", .int x.2), (Str.ofString "left", .int x.1)]) (fun _ => n) (fun x => 1 ≤ x.1 ∧ x.2 + lg x.1 = lg N) (fun x => x.1) (N, 0) ⟨by dsimp only; omega, Nat.zero_add _⟩ (LeR.refl _) (fun _ h => h) ?_
  rintro ⟨l, z⟩ ⟨g1, g2⟩ K' hK'
  dsimp only at g1 g2 ⊢
  refine ⟨_, _, by walk_at "S t", ?_, ?_⟩
  · intro g3
    have g4 := lg_half (n := l) (by omega)
    have e2 : (l : Int).fdiv 2 = ((l / 2 : Nat) : Int) := by rw [Int.fdiv_eq_ediv_of_nonneg _ (by decide)]; rfl
    walk_at "S s"
    walk_at "S n"
    rw [e2]
    exact hK' (l / 2, z + 1) _ _ ⟨by dsimp only; omega, by dsimp only; omega⟩ (by dsimp only; omega) (LeR.refl _) (fun _ h => h)
  · intro g3
    have g4 := lg_one (n := l) (by omega)
    have g5 : z = lg N := by omega
    subst g5
    have hp : (2 : Int) ^ Int.toNat (lg N : Int) ≤ N ∧ 0 < (2 : Int) ^ Int.toNat (lg N : Int) := by
      rw [Int.toNat_natCast]
      have h1 : 2 ^ lg N ≤ N := Nat.log2_self_le (by omega)
      have h2 : 0 < 2 ^ lg N := Nat.pow_pos (by decide)
      have h3 : (2 : Int) ^ lg N = ((2 ^ lg N : Nat) : Int) := by rw [Int.natCast_pow]; rfl
      rw [h3]; omega
    have m1 : IntMulOk (1023 + (lg N : Int) - hv) (2 ^ Int.toNat 52) := IntMulOk.of_right (by decide)
    have m2 : IntMulOk ((N : Int) - 2 ^ Int.toNat (lg N : Int)) (2 ^ Int.toNat (52 - (lg N : Int))) := IntMulOk.of_left (PySem.intBits_le_64 (by omega) (by omega))
    clear hp
    with_reducible refine' SS_ret (EP_add (EP_mul ?a1 (EP_pow EP_int EP_int ?a2 ?a3 ?a4) m1) (EP_mul (EP_sub ?a5 (EP_pow EP_int ?a6 ?a7 ?a8 ?a9)) (EP_pow EP_int ?aa ?ab ?ac ?ad) m2)) ?ae
    case a1 => walk_at "S e"
    case a2 => decide
    case a3 => decide
    case a4 => decide
    case a5 => walk_at "S e"
    case a6 => walk_at "S e"
    case a7 => omega
    case a8 => omega
    case a9 => decide
    case aa => walk_at "S e"
    case ab => omega
    case ac => omega
    case ad => decide
    case ae => exact hR () _ _ trivial rfl (fun _ h => h)
theorem law_hex4_c {W : Wd} {n : Led} {x : Int} (h0 : 0 ≤ x) (h1 : x < 16777216) : CP W 2 n 443 [.int x, .int 4] (.str ⟨(hexL x.toNat 4).toArray⟩) := by
  obtain ⟨k, rfl⟩ := Int.eq_ofNat_of_zero_le h0
  exact law_hex_c (many := 4) (by omega) (by decide)
theorem law_hex2_c {W : Wd} {n : Led} {x : Int} (h0 : 0 ≤ x) (h1 : x < 16777216) : CP W 2 n 443 [.int x, .int 2] (.str ⟨(hexL x.toNat 2).toArray⟩) := by
  obtain ⟨k, rfl⟩ := Int.eq_ofNat_of_zero_le h0
  exact law_hex_c (many := 2) (by omega) (by decide)
theorem law_hex6_c {W : Wd} {n : Led} {x : Int} (h0 : 0 ≤ x) (h1 : x < 16777216) : CP W 2 n 443 [.int x, .int 6] (.str ⟨(hexL x.toNat 6).toArray⟩) := by
  obtain ⟨k, rfl⟩ := Int.eq_ofNat_of_zero_le h0
  exact law_hex_c (many := 6) (by omega) (by decide)
theorem law_bits0_c {W : Wd} {n : Led} {x : Int} (h0 : 0 ≤ x) (h1 : x < 1073741824) : CP W 2 n 450 [.int x, .int 0] (.int (bitsV x.toNat 0)) := by
  obtain ⟨k, rfl⟩ := Int.eq_ofNat_of_zero_le h0
  exact law_bits_c (hv := 0) (by omega) (by decide)
theorem law_bits1_c {W : Wd} {n : Led} {x : Int} (h0 : 0 ≤ x) (h1 : x < 1073741824) : CP W 2 n 450 [.int x, .int 1] (.int (bitsV x.toNat 1)) := by
  obtain ⟨k, rfl⟩ := Int.eq_ofNat_of_zero_le h0
  exact law_bits_c (hv := 1) (by omega) (by decide)
theorem law_bits2_c {W : Wd} {n : Led} {x : Int} (h0 : 0 ≤ x) (h1 : x < 1073741824) : CP W 2 n 450 [.int x, .int 2] (.int (bitsV x.toNat 2)) := by
  obtain ⟨k, rfl⟩ := Int.eq_ofNat_of_zero_le h0
  exact law_bits_c (hv := 2) (by omega) (by decide)
theorem gf_law_hex : GF (Str.ofString "_law_hex") 443 := ⟨fun P => by k_is, fun P => by k_is, by decide +kernel⟩
theorem gf_law_bits : GF (Str.ofString "_law_bits") 450 := ⟨fun P => by k_is, fun P => by k_is, by decide +kernel⟩
end Mine
namespace Mine
theorem gi_hidden : GI (Str.ofString "HIDDEN_BIT") 4503599627370496 := ⟨fun P => ⟨_, by k_is⟩, by decide +kernel⟩
theorem gi_fbits : GI (Str.ofString "FRACTION_BITS") 52 := ⟨fun P => ⟨_, by k_is⟩, by decide +kernel⟩
theorem gi_mask : GI (Str.ofString "EXPONENT_MASK") 2047 := ⟨fun P => ⟨_, by k_is⟩, by decide +kernel⟩
theorem gi_shift : GI (Str.ofString "EXPONENT_SHIFT") 1075 := ⟨fun P => ⟨_, by k_is⟩, by decide +kernel⟩
theorem gi_least : GI (Str.ofString "LEAST_POWER") (-1074) := ⟨fun P => ⟨_, by k_is⟩, by decide +kernel⟩
theorem gi_far : GI (Str.ofString "FARTHEST") 400 := ⟨fun P => ⟨_, by k_is⟩, by decide +kernel⟩
theorem gi_zero : GI (Str.ofString "ZERO") 0 := ⟨fun P => ⟨_, by k_is⟩, by decide +kernel⟩
theorem gf_width : GF (Str.ofString "width") 119 := ⟨fun P => by k_is, fun P => by k_is, by decide +kernel⟩
theorem gf_pack : GF (Str.ofString "pack") 126 := ⟨fun P => by k_is, fun P => by k_is, by decide +kernel⟩
theorem gf_quotient : GF (Str.ofString "quotient") 140 := ⟨fun P => by k_is, fun P => by k_is, by decide +kernel⟩
theorem gf_round_ratio : GF (Str.ofString "round_ratio") 147 := ⟨fun P => by k_is, fun P => by k_is, by decide +kernel⟩
theorem gf_assembled : GF (Str.ofString "assembled") 154 := ⟨fun P => by k_is, fun P => by k_is, by decide +kernel⟩
theorem gf_from_int : GF (Str.ofString "from_int") 161 := ⟨fun P => by k_is, fun P => by k_is, by decide +kernel⟩
theorem width_c {W : Wd} {n : Led} {N : Nat} (hn : N < 1152921504606846976) : CP W 2 n 119 [.int N] (.int (bl N)) := by
  refine CP.of (fn1 (x1 := Str.ofString "n") (us := [Str.ofString "many"]) (by k_is) (by k_is) (Mine.ok_of ?hok) (fun _ => rfl) rfl rfl ?e3 ?H)
  walk_at "S fn"
  rename_i c R hR
  walk_at "S s"
  refine SS_while (σ := Unit) (fun _ => [(Str.ofString "n", .int N), (Str.ofString "many", .int 0)]) (fun _ => n) (fun _ => True) (fun _ => 0) () trivial (LeR.refl _) (fun _ h => h) ?_
  rintro ⟨⟩ - K' hK'
  refine ⟨_, _, TT_ge (i := (N : Int)) ?a1 (EP_shl EP_int EP_int ?a2 ?a3 ?a4), ?_, ?_⟩
  case a1 => walk_at "S e"
  case a2 => decide
  case a3 => decide
  case a4 => decide
  · intro h
    rw [show (1 : Int) * 2 ^ Int.toNat 64 = 18446744073709551616 from by decide] at h
    omega
  intro _
  refine SS_while (σ := Nat × Nat) (fun x => [(Str.ofString "n", .int x.1), (Str.ofString "many", .int x.2)]) (fun _ => n) (fun x => x.2 + bl x.1 = bl N) (fun x => x.1) (N, 0) (Nat.zero_add _) (LeR.refl _) (fun _ h => h) ?_
  rintro ⟨k, m⟩ hb K2 hK2
  dsimp only at hb ⊢
  refine ⟨_, _, by walk_at "S t", ?_, ?_⟩
  · intro h
    have h2 := bl_half (n := k) (by omega)
    have h3 : Int.fdiv (k : Int) (2 ^ Int.toNat 1) = ((k / 2 : Nat) : Int) := by
      show Int.fdiv (k : Int) 2 = _
      rw [Int.fdiv_eq_ediv_of_nonneg _ (by decide)]; rfl
    with_reducible refine' SS_set (EP_shr ?b1 EP_int ?b2) ?b3 ?b4 ?_
    case b1 => walk_at "S e"
    case b2 => decide
    case b3 => exact rfl
    case b4 => walk_at "S p"
    walk_at "S s"
    walk_at "S n"
    rw [h3]
    exact hK2 (k / 2, m + 1) _ _ (by dsimp only; omega) (by dsimp only; omega) (LeR.refl _) (fun _ h => h)
  · intro h
    have h2 : k = 0 := by omega
    subst h2
    walk_at "S s"
    exact hR () _ _ trivial (congrArg AV.int (congrArg Int.ofNat hb)) (fun _ h => h)
theorem quotient_c {W : Wd} {n : Led} {top bottom : Nat} {p : Int} (h1 : top < 1099511627776) (h2 : 0 < bottom) (h3 : bottom < 1048576) (hk : -80 ≤ p) (hk0 : p < 0) : CC W 2 n 140 [.int top, .int bottom, .int p] (Addr × List Value) (fun x => HasAll [.int (top * 2 ^ (-p).toNat / bottom : Nat), .int (top * 2 ^ (-p).toNat % bottom : Nat), .int bottom] x.2 ∧ ∀ q ∈ n, @LT.lt Nat _ q.1 x.1) (fun x => .is (.ref x.1)) (fun x => (x.1, tupO x.2) :: n) := by
  refine fn3 (x1 := Str.ofString "top") (x2 := Str.ofString "bottom") (x3 := Str.ofString "power") (us := []) (by k_is) (by k_is) (Mine.ok_of ?hok) (fun _ _ _ => rfl) rfl rfl ?e3 ?H
  walk_at "S fn"
  rename_i c R hR
  have e1 : (top : Int) * 2 ^ (-p).toNat = ((top * 2 ^ (-p).toNat : Nat) : Int) := by rw [Int.natCast_mul, Int.natCast_pow]; rfl
  walk_at "S s"
  · intro h; omega
  intro _
  with_reducible refine' SS_set (EP_shl ?b1 (EP_neg ?b2) ?b3 ?b4 ?b5) ?b6 ?b7 ?_
  case b1 => walk_at "S e"
  case b2 => walk_at "S e"
  case b3 => omega
  case b4 => omega
  case b5 => omega
  case b6 => exact rfl
  case b7 => walk_at "S p"
  walk_at "S n"
  rw [e1]
  with_reducible refine' SS_retC (EC_tup (EA_cons (EP_fdiv ?c1 ?c2 ?c3 ?c4) ?c5 (EA_cons (EP_mod ?c6 ?c7 ?c8) ?c9 (EA_cons ?ca ?cb EA_nil))) ?cc) ?cd
  case c1 => walk_at "S e"
  case c2 => walk_at "S e"
  case c3 => omega
  case c4 => omega
  case c5 => exact rfl
  case c6 => walk_at "S e"
  case c7 => walk_at "S e"
  case c8 => omega
  case c9 => exact rfl
  case ca => walk_at "S e"
  case cb => exact rfl
  case cc => exact rfl
  case cd =>
    intro x hx
    rw [Int.fdiv_eq_ediv_of_nonneg _ (by omega), Int.fmod_eq_emod_of_nonneg _ (by omega)] at hx
    exact hR x _ _ hx rfl (fun _ h => h)
theorem pack_c {W : Wd} {n : Led} {e f : Int} (h0 : 0 ≤ e) (h1 : e < 4096) : CP W 2 n 126 [.int 0, .int e, .int f] (.int (packV e f)) := by
  refine CP.of (fn3 (x1 := Str.ofString "sign") (x2 := Str.ofString "exponent") (x3 := Str.ofString "fraction") (us := []) (by k_is) (by k_is) (Mine.ok_of ?hok) (fun _ _ _ => rfl) rfl rfl ?e3 ?H)
  walk_at "S fn"
  rename_i c R hR
  with_reducible refine' SS_ret (EP_bor (EP_bor (EP_shl ?b1 EP_int ?b3 ?b4 ?b5) (EP_shl ?c1 (EP_gi gi_fbits ?c2) ?c3 ?c4 ?c5)) ?d1) ?e1
  case b1 => walk_at "S e"
  case b3 => decide
  case b4 => decide
  case b5 => decide
  case c1 => walk_at "S e"
  case c2 => kernel_rfl
  case c3 => decide
  case c4 => decide
  case c5 => omega
  case d1 => walk_at "S e"
  case e1 => exact hR () _ _ trivial rfl (fun _ h => h)
theorem asm_eq {w p : Int} : asm w p = if (if w = 9007199254740992 then 4503599627370496 else w) < 4503599627370496 then Builtin.bitOr (0 * 2 ^ Int.toNat 63) (if w = 9007199254740992 then 4503599627370496 else w)
    else packV ((if w = 9007199254740992 then p + 1 else p) + 1075) ((if w = 9007199254740992 then 4503599627370496 else w) - 4503599627370496) := by
  unfold asm
  by_cases h : w = 9007199254740992
  · simp only [if_pos h]; rfl
  · simp only [if_neg h]
theorem assembled_c {W : Wd} {n : Led} {whole p : Int} (hk : -80 ≤ p) (hk0 : p < 0) : CP W 3 n 154 [.int 0, .int whole, .int p] (.int (asm whole p)) := by
  refine CP.of (fn3 (x1 := Str.ofString "sign") (x2 := Str.ofString "whole") (x3 := Str.ofString "power") (us := [Str.ofString "exponent"]) (by k_is) (by k_is) (Mine.ok_of ?hok) (fun _ _ _ => rfl) rfl rfl ?e3 ?H)
  walk_at "S fn"
  rename_i c R hR
  rw [asm_eq] at hR
  have hH : (4503599627370496 : Int) * 2 ^ Int.toNat 1 = 9007199254740992 := by decide
  refine SS_ifj (ι := Unit) (fun _ => [(Str.ofString "sign", .int 0), (Str.ofString "whole", .int (if whole = 9007199254740992 then 4503599627370496 else whole)), (Str.ofString "power", .int (if whole = 9007199254740992 then p + 1 else p)), (Str.ofString "exponent", .un)]) (fun _ => n) (fun _ => True) (TT_eq (i := whole) ?a1 (EP_shl (EP_gi gi_hidden ?a2) EP_int ?a3 ?a4 ?a5)) ?_ ?_ ?_
  case a1 => walk_at "S e"
  case a2 => kernel_rfl
  case a3 => decide
  case a4 => decide
  case a5 => decide
  · intro h
    rw [hH] at h
    with_reducible refine' SS_tupS2 (EP_gi gi_hidden ?b1) ?b2 ?b3 ?b4 ?b5 ?b6 ?b7 ?_
    case b1 => kernel_rfl
    case b2 => walk_at "S e"
    case b3 => exact rfl
    case b4 => exact rfl
    case b5 => walk_at "S p"
    case b6 => walk_at "S p"
    case b7 => exact rfl
    walk_at "S n"
    exact ⟨(), trivial, by rw [if_pos h, if_pos h], rfl⟩
  · intro h
    rw [hH] at h
    walk_at "S n"
    exact ⟨(), trivial, by rw [if_neg h, if_neg h], rfl⟩
  rintro ⟨⟩ _
  have hp2 : -80 ≤ (if whole = 9007199254740992 then p + 1 else p) ∧ (if whole = 9007199254740992 then p + 1 else p) ≤ 0 := by split <;> omega
  generalize (if whole = 9007199254740992 then p + 1 else p) = p' at hR hp2
  generalize (if whole = 9007199254740992 then 4503599627370496 else whole) = w' at hR
  with_reducible refine' SS_ifr (TT_lt ?c1 (EP_gi gi_hidden ?c2)) ?_ ?_
  case c1 => walk_at "S e"
  case c2 => kernel_rfl
  · intro h
    rw [if_pos h] at hR
    with_reducible refine' SS_ret (EP_bor (EP_shl ?d1 EP_int ?d2 ?d3 ?d4) ?d5) ?d6
    case d1 => walk_at "S e"
    case d2 => decide
    case d3 => decide
    case d4 => decide
    case d5 => walk_at "S e"
    case d6 => exact hR () _ _ trivial rfl (fun _ h => h)
  intro h
  rw [if_neg (by omega)] at hR
  with_reducible refine' SS_set (EP_add ?ff1 (EP_gi gi_shift ?ff2)) ?ff3 ?ff4 ?_
  case ff1 => walk_at "S e"
  case ff2 => kernel_rfl
  case ff3 => exact rfl
  case ff4 => walk_at "S p"
  with_reducible refine' SS_ifr (TT_ge ?f1 (EP_gi gi_mask ?f2)) ?_ ?_
  case f1 => walk_at "S e"
  case f2 => kernel_rfl
  · intro h; omega
  intro _
  have g1 : 0 ≤ p' + 1075 := by omega
  have g2 : p' + 1075 < 4096 := by omega
  with_reducible refine' SS_ret (EP_call gf_pack ?g1 (EA_cons ?g2 ?g3 (EA_cons ?g4 ?g5 (EA_cons (EP_sub ?g6 (EP_gi gi_hidden ?g7)) ?g8 EA_nil))) ?g9 (pack_c g1 g2) ?ga) ?gb
  case g1 => kernel_rfl
  case g2 => walk_at "S e"
  case g3 => exact rfl
  case g4 => walk_at "S e"
  case g5 => exact rfl
  case g6 => walk_at "S e"
  case g7 => kernel_rfl
  case g8 => exact rfl
  case g9 => exact rfl
  case ga => exact rfl
  case gb => exact hR () _ _ trivial rfl (fun _ h => h)
theorem round_ratio_c {W : Wd} {n : Led} {top bottom : Nat} (h1 : top < 1099511627776) (h2 : 0 < bottom) (h3 : bottom < 1048576) : CP W 4 n 147 [.int 0, .int top, .int bottom] (.int (RR top bottom)) := by
  refine CP.of (fn3 (x1 := Str.ofString "sign") (x2 := Str.ofString "top") (x3 := Str.ofString "bottom") (us := [Str.ofString "power", Str.ofString "whole", Str.ofString "rest", Str.ofString "unit"]) (by k_is) (by k_is) (Mine.ok_of ?hok) (fun _ _ _ => rfl) rfl rfl ?e3 ?H)
  walk_at "S fn"
  rename_i c R hR
  unfold RR at hR
  walk_at "S s"
  · intro h
    rw [if_pos (by omega)] at hR
    with_reducible refine' SS_ret (EP_shl ?a1 EP_int ?a2 ?a3 ?a4) ?a5
    case a1 => walk_at "S e"
    case a2 => decide
    case a3 => decide
    case a4 => decide
    case a5 => exact hR () _ _ trivial rfl (fun _ h => h)
  intro h
  rw [if_neg (by omega)] at hR
  have b1 := bl_bnd (n := top) (B := 40) h1
  have b2 := bl_bnd (n := bottom) (B := 20) h3
  with_reducible refine' SS_set (EP_max gb_max ?b1 (EP_sub (EP_sub (EP_call gf_width ?b2 (EA_cons ?b3 ?b4 EA_nil) ?b5 (width_c ?b6) ?b7) (EP_call gf_width ?c2 (EA_cons ?c3 ?c4 EA_nil) ?c5 (width_c ?c6) ?c7)) EP_int) (EP_gi gi_least ?d1) ?d2 ?d3) ?d4 ?d5 ?_
  case b1 => kernel_rfl
  case b2 => kernel_rfl
  case b3 => walk_at "S e"
  case b4 => exact rfl
  case b5 => exact rfl
  case b6 => omega
  case b7 => exact rfl
  case c2 => kernel_rfl
  case c3 => walk_at "S e"
  case c4 => exact rfl
  case c5 => exact rfl
  case c6 => omega
  case c7 => exact rfl
  case d1 => kernel_rfl
  case d2 => exact rfl
  case d3 => exact rfl
  case d4 => exact rfl
  case d5 => walk_at "S p"
  have hpe : (if (-1074 : Int) > (bl top : Int) - bl bottom - 53 then -1074 else (bl top : Int) - bl bottom - 53) = (bl top : Int) - bl bottom - 53 := if_neg (by omega)
  rw [hpe]
  have hpl : -80 ≤ (bl top : Int) - bl bottom - 53 ∧ (bl top : Int) - bl bottom - 53 < -1 := by omega
  generalize (bl top : Int) - bl bottom - 53 = p at hpl hR
  have q1 : p < 0 := by omega
  with_reducible refine' SS_untup (names := [(Str.ofString "whole", _), (Str.ofString "rest", _), (Str.ofString "unit", _)]) (fvs := fun x => x.2) (fVs := fun _ => [.int (top * 2 ^ (-p).toNat / bottom : Nat), .int (top * 2 ^ (-p).toNat % bottom : Nat), .int bottom]) (EC_call gf_quotient ?ee1 ?ee2 ?ee3 (quotient_c h1 h2 h3 hpl.1 q1) ?ee4) ?ee5 ?ee6 ?ee7 ?ee8 ?ee9 ?eea ?eeb ?_
  case ee2 => walk_at "S a"
  case ee1 => kernel_rfl
  case ee3 => exact rfl
  case ee4 => exact rfl
  case ee5 => exact fun _ => .head _
  case ee6 => exact fun _ h => h.1
  case ee7 => exact fun _ => rfl
  case ee8 => exact fun _ => .cons (by walk_at "S p") (.cons (by walk_at "S p") (.cons (by walk_at "S p") .nil))
  case ee9 => exact rfl
  case eea => exact rfl
  case eeb => kernel_rfl
  intro x _
  with_reducible refine' SS_sub (n2 := n) ?f1 ?_
  case f1 => exact fun _ h => .tail _ h
  have hH : (4503599627370496 : Int) * 2 ^ Int.toNat 1 = 9007199254740992 := by decide
  refine SS_ifj (ι := Int) (fun q => [(Str.ofString "sign", .int 0), (Str.ofString "top", .int top), (Str.ofString "bottom", .int bottom), (Str.ofString "power", .int q), (Str.ofString "whole", .int (top * 2 ^ (-q).toNat / bottom : Nat)), (Str.ofString "rest", .int (top * 2 ^ (-q).toNat % bottom : Nat)), (Str.ofString "unit", .int bottom)]) (fun _ => n) (fun q => -80 ≤ q ∧ q < 0 ∧ ∀ V n', V = .int (RR2 top bottom q) → (∀ p ∈ n, p ∈ n') → R V n') (TT_ge (i := ((top * 2 ^ (-p).toNat / bottom : Nat) : Int)) ?g1 (EP_shl (EP_gi gi_hidden ?g2) EP_int ?g3 ?g4 ?g5)) ?_ ?_ ?_
  case g1 => walk_at "S e"
  case g2 => kernel_rfl
  case g3 => decide
  case g4 => decide
  case g5 => decide
  · intro hw
    rw [hH] at hw
    rw [if_pos (by omega)] at hR
    walk_at "S s"
    have q2 : -80 ≤ p + 1 := by omega
    have q3 : p + 1 < 0 := by omega
    with_reducible refine' SS_untup (names := [(Str.ofString "whole", _), (Str.ofString "rest", _), (Str.ofString "unit", _)]) (fvs := fun x => x.2) (fVs := fun _ => [.int (top * 2 ^ (-(p + 1)).toNat / bottom : Nat), .int (top * 2 ^ (-(p + 1)).toNat % bottom : Nat), .int bottom]) (EC_call gf_quotient ?h1 ?h2 ?h3 (quotient_c h1 h2 h3 q2 q3) ?h4) ?h5 ?h6 ?h7 ?h8 ?h9 ?ha ?hb ?_
    case h2 => walk_at "S a"
    case h1 => kernel_rfl
    case h3 => exact rfl
    case h4 => exact rfl
    case h5 => exact fun _ => .head _
    case h6 => exact fun _ h => h.1
    case h7 => exact fun _ => rfl
    case h8 => exact fun _ => .cons (by walk_at "S p") (.cons (by walk_at "S p") (.cons (by walk_at "S p") .nil))
    case h9 => exact rfl
    case ha => exact rfl
    case hb => kernel_rfl
    intro x _
    with_reducible refine' SS_sub (n2 := n) ?i1 ?_
    case i1 => exact fun _ h => .tail _ h
    walk_at "S n"
    exact ⟨p + 1, ⟨q2, q3, fun V n' h h' => hR () V n' trivial h h'⟩, rfl, rfl⟩
  · intro hw
    rw [hH] at hw
    rw [if_neg (by omega)] at hR
    walk_at "S n"
    exact ⟨p, ⟨hpl.1, q1, fun V n' h h' => hR () V n' trivial h h'⟩, rfl, rfl⟩
  rintro q ⟨k1, k2, k3⟩
  unfold RR2 at k3
  generalize top * 2 ^ (-q).toNat / bottom = w at k3 ⊢
  have hr : top * 2 ^ (-q).toNat % bottom < bottom := Nat.mod_lt _ h2
  generalize top * 2 ^ (-q).toNat % bottom = r at k3 hr ⊢
  refine SS_ifj (ι := Unit) (fun _ => [(Str.ofString "sign", .int 0), (Str.ofString "top", .int top), (Str.ofString "bottom", .int bottom), (Str.ofString "power", .int q), (Str.ofString "whole", .int (if bottom < 2 * r ∨ (2 * r = bottom ∧ w % 2 = 1) then (w : Nat) + 1 else (w : Nat))), (Str.ofString "rest", .int r), (Str.ofString "unit", .int bottom)]) (fun _ => n) (fun _ => True) (by walk_at "S t") ?_ ?_ ?_
  · intro g
    rw [fmod2] at g
    walk_at "S s"
    walk_at "S n"
    exact ⟨(), trivial, by rw [if_pos (by omega)], rfl⟩
  · intro g
    rw [fmod2] at g
    walk_at "S n"
    exact ⟨(), trivial, by rw [if_neg (by omega)], rfl⟩
  rintro ⟨⟩ _
  with_reducible refine' SS_ret (EP_call gf_assembled ?j1 ?j2 ?j3 (assembled_c k1 k2) ?j4) ?j5
  case j2 => walk_at "S a"
  case j1 => kernel_rfl
  case j3 => exact rfl
  case j4 => exact rfl
  case j5 => exact k3 _ _ rfl (fun _ h => h)
theorem EP_conv {c : Cx} {S : Sc} {l : Loc} {n : Led} {e : Expr} {V V' : AV} (h : EP c S l n e V) (hv : V = V') : EP c S l n e V' := hv ▸ h
theorem from_int_c {W : Wd} {n : Led} {i : Nat} (h : i < 1099511627776) : CP W 5 n 161 [.int i] (.int (RR i 1)) := by
  refine CP.of (fn1 (x1 := Str.ofString "n") (us := []) (by k_is) (by k_is) (Mine.ok_of ?hok) (fun _ => rfl) rfl rfl ?e3 ?H)
  walk_at "S fn"
  rename_i c R hR
  have e : (if (i : Int) < 0 then -(i : Int) else i) = i := if_neg (by omega)
  with_reducible refine' SS_ret (EP_call gf_round_ratio ?a1 (Vs := [.int 0, .int i, .int 1]) (EA_cons (EP_if ?a2 ?a3 (fun _ => EP_int)) ?a4 (EA_cons ?a5 ?a6 (EA_cons EP_int ?a7 EA_nil))) ?a8 (round_ratio_c (bottom := 1) h ?a9 ?aa) ?ab) ?ac
  case a1 => kernel_rfl
  case a2 => walk_at "S t"
  case a3 => intro g; omega
  case a4 => exact rfl
  case a5 =>
    with_reducible refine' EP_conv (EP_abs ?z1 ?z2 ?z3) (congrArg AV.int e)
    case z1 => kernel_rfl
    case z2 => walk_at "S e"
    case z3 => exact rfl
  case a6 => exact rfl
  case a7 => exact rfl
  case a8 => exact rfl
  case a9 => decide
  case aa => decide
  case ab => exact rfl
  case ac => exact hR () _ _ trivial rfl (fun _ h => h)
end Mine
namespace Mine
section
variable {c : Cx} {S : Sc} {l l' : Loc} {n : Led} {R : AV → Led → Prop} {K : Loc → Led → Prop} {rest : List Stmt}
theorem EP_lstrip {o e : Expr} {x z : Str} {p1 p2 : Pos} {pl : Sem Bool} (ho : EP c S l n o (.str x)) (he : EP c S l n e (.str z)) (hp : plainE e = true) (hz : x.length ≤ 10000000) (hme : eval (.Call (.Attribute o (Str.ofString "lstrip") p1) [e] [] p2) (c.env S) = (do
      let ov ← eval o (c.env S)
      standAt p1.atName
      let (f, first) ← holding [ov] (getMethod ov (Str.ofString "lstrip") pl)
      callWith p2 f first (backTo p2 (starEach [e] (c.env S))) [])) : EP c S l n (.Call (.Attribute o (Str.ofString "lstrip") p1) [e] [] p2) (.str (Txt.lstripChars x z)) := by
  intro ok s m Q r F N ret
  refine MethodCall_ ?_ hme
  refine ho ok s m _ r F N (fun v n' h' tk' hp2 F' N' => ?_)
  obtain ⟨⟨t, rfl⟩, rfl⟩ := hp2
  refine GM.lstrip ?_
  refine callWith_method1 ?_ (star_plain hp) rfl
  refine (EA_cons he hp EA_nil) ok _ m _ r F' N' (fun vs n2 g2 tk2 hq F2 N2 => ?_)
  obtain ⟨hvs, rfl⟩ := hq
  obtain ⟨_, rfl, ⟨t2, rfl⟩⟩ := has1 hvs
  exact KXw.lstripChars rfl (Nat.le_trans hz (by decide)) (fun t' k => ret _ _ g2 k ⟨⟨t', rfl⟩, rfl⟩ F2 N2)
theorem gb_int : GB (Str.ofString "int") (.type "int") := ⟨fun P => by k_is, rfl, by decide +kernel, by decide +kernel⟩
theorem EP_intS {e : Expr} {x : Str} {i : Int} {p1 p2 : Pos} (hk : S.glob (Str.ofString "int") = true) (he : EP c S l n e (.str x)) (hp : plainE e = true) (hn : PySem.intText? x = some i) (hl : x.length ≤ 640) : EP c S l n (.Call (.Name (Str.ofString "int") p1) [e] [] p2) (.int i) := by
  intro ok s m Q r F N ret
  refine Call_ ?_
  refine nameX_B F ok.X (topRead_of ok.T) (gb_int.none _) gb_int.boot gb_int.ne ?_ ok.S.kind (Sc.glob_eq hk) gb_int.dbg
  refine Pv.callWith_type1 ?_ (star_plain hp) rfl
  refine (EA_cons he hp EA_nil) ok s m _ r F N (fun vs n' h' tk' hq F' N' => ?_)
  obtain ⟨hv, rfl⟩ := hq
  obtain ⟨_, rfl, ⟨t, rfl⟩⟩ := has1 hv
  exact KIN.call_text hn hl (ret _ _ h' _ ⟨⟨_, rfl⟩, rfl⟩ F' N')
end
end Mine
namespace Mine
section
variable {c : Cx} {S : Sc} {l l' : Loc} {n : Led} {R : AV → Led → Prop} {K : Loc → Led → Prop} {rest : List Stmt}
theorem SS_range02 {x : Str} {e1 e2 : Expr} {body : List Stmt} {px p1 p2 p3 : Pos} {N : Nat} (hk : S.glob (Str.ofString "range") = true) (h1 : EP c S l n e1 (.int 0)) (h2 : EP c S l n e2 (.int N)) (g1 : plainE e1 = true) (g2 : plainE e2 = true)
    (hs : ∀ x, foldedSetIterable (.Call (.Name (Str.ofString "range") p1) [e1, e2] [] p2) (c.env S) x = pure x)
    {σ : Type} {fl : σ → Loc} {flI : σ → Int → Loc} {fn : σ → Led} {fnI : σ → Addr × Obj → Led} {I : Nat → σ → Prop} {x₀ : σ} (H : Turns c S R l n N x body rest K σ fl flI fn fnI I x₀) :
    SS c S R l n (.For (.Name x px) (.Call (.Name (Str.ofString "range") p1) [e1, e2] [] p2) body [] p3 :: rest) K := by
  refine SS_cons (K1 := fun l' n' => SS c S R l' n' rest K) ?_ (fun _ _ x => x)
  intro ok s m Q r F Nw next ret
  refine For_turns F ?_ hs PassesOwn.never
  refine Call_ ?_
  refine nameX_B F ok.X (topRead_of ok.T) (gb_range.none _) gb_range.boot gb_range.ne ?_ ok.S.kind (Sc.glob_eq hk) gb_range.dbg
  refine Pv.callWith_type1 ?_ (star_plain g1) (star_all (by simp [g2]))
  refine (EA_cons h1 g1 (EA_cons h2 g2 EA_nil)) ok s m _ r F Nw (fun vs n' h' tk' hq F' N' => ?_)
  obtain ⟨hvs, rfl⟩ := hq
  obtain ⟨v1, vs, rfl, ⟨t1, rfl⟩, k1⟩ := has_cons hvs
  obtain ⟨v2, vs, rfl, ⟨t2, rfl⟩, k2⟩ := has_cons k1
  obtain rfl := has_nil k2
  exact range2_rows F' N' (fun h2 tk2 t₁ u₁ v₁ hr F2 N2 _ => range_core H ok r F2 N2 hr (fun l' m' n' h' tk' a b d e => next l' m' n' h' tk' a b d e) (fun V v m' n' h' tk' a b d e => ret V v m' n' h' tk' a b d e))
end
theorem gf_figure_of : GF (Str.ofString "figure_of") 204 := ⟨fun P => by k_is, fun P => by k_is, by decide +kernel⟩
theorem gf_worth : GF (Str.ofString "worth") 211 := ⟨fun P => by k_is, fun P => by k_is, by decide +kernel⟩
theorem gf_from_decimal : GF (Str.ofString "from_decimal") 218 := ⟨fun P => by k_is, fun P => by k_is, by decide +kernel⟩
theorem figure_of_c {W : Wd} {n : Led} {ch : Nat} (h1 : 48 ≤ ch) (h2 : ch ≤ 57) : CP W 2 n 204 [.str ⟨#[ch]⟩] (.int ((ch : Int) - 48)) := by
  refine CP.of (fn1 (x1 := Str.ofString "sign") (us := []) (by k_is) (by k_is) (Mine.ok_of ?hok) (fun _ => rfl) rfl rfl ?e3 ?H)
  walk_at "S fn"
  rename_i c R hR
  with_reducible refine' SS_ifr (TT_chainS EP_str ?a1 EP_str ?a2 ?a3 ?a4) ?_ ?a5
  case a1 => walk_at "S e"
  case a2 => exact rfl
  case a3 => rw [s0, one_lt]; omega
  case a4 => rw [s9, one_lt]; omega
  case a5 => exact fun h => h.elim
  intro _
  with_reducible refine' SS_ret (EP_sub (EP_ord (x := ⟨#[ch]⟩) ?b1 ?b2 ?b3 ?b4) EP_int) ?b5
  case b1 => kernel_rfl
  case b2 => walk_at "S e"
  case b3 => exact rfl
  case b4 => exact rfl
  case b5 => exact hR () _ _ trivial rfl (fun _ h => h)
theorem worth_c {W : Wd} {n : Led} {x : Str} (h1 : x.length ≤ 8) (hd : ∀ c ∈ x.cps.toList, 48 ≤ c ∧ c ≤ 57) : CP W 4 n 211 [.str x, .int 0, .int x.length, .int 10] (.int (decv x.cps.toList)) := by
  refine CP.of (fn4 (x1 := Str.ofString "text") (x2 := Str.ofString "begin") (x3 := Str.ofString "end") (x4 := Str.ofString "radix") (us := [Str.ofString "found", Str.ofString "at"]) (by k_is) (by k_is) (Mine.ok_of ?hok) (fun _ _ _ _ => rfl) rfl rfl ?e3 ?H)
  walk_at "S fn"
  rename_i c R hR
  have hl : x.length = x.cps.toList.length := by show x.cps.size = _; simp
  walk_at "S s"
  with_reducible refine' SS_range02 (N := x.length) ?a1 ?a2 ?a3 ?a4 ?a5 ?a6 (σ := Int) (fl := fun v => [(Str.ofString "text", .str x), (Str.ofString "begin", .int 0), (Str.ofString "end", .int x.length), (Str.ofString "radix", .int 10), (Str.ofString "found", .int v), (Str.ofString "at", .un)]) (flI := fun v k => [(Str.ofString "text", .str x), (Str.ofString "begin", .int 0), (Str.ofString "end", .int x.length), (Str.ofString "radix", .int 10), (Str.ofString "found", .int v), (Str.ofString "at", .int k)]) (fn := fun _ => n) (fnI := fun _ io => io :: n) (I := fun k v => v = (decv (x.cps.toList.take k) : Nat)) (x₀ := 0) ⟨?b1, ?b2, ?b3, ?b4, ?b5, ?b6, ?b7, ?b8, ?b9⟩
  case a1 => kernel_rfl
  case a2 => walk_at "S e"
  case a3 => walk_at "S e"
  case a4 => exact rfl
  case a5 => exact rfl
  case a6 => exact fun _ => rfl
  case b1 => omega
  case b2 => rfl
  case b3 => exact LeR.refl _
  case b4 => exact fun _ h => h
  case b5 => exact fun _ => rfl
  case b6 => exact fun _ _ _ h => h
  case b7 => exact fun _ _ => by walk_at "S p"
  case b8 =>
    rintro k v io hk rfl hio K' hK'
    have hk2 : k < x.cps.toList.length := by omega
    have hmem := hd _ (List.getElem_mem hk2)
    have hit : Txt.item x (k : Int) = ⟨#[x.cps.toList[k]]⟩ := by
      unfold Txt.item
      rw [charAt_nat hk]; simp; rfl
    have hb : decv (x.cps.toList.take k) < 100000000 := by
      have h2 := decv_bnd (x.cps.toList.take k) (fun c hc => (hd c (List.mem_of_mem_take hc)).2)
      have h3 : 10 ^ (x.cps.toList.take k).length ≤ 10 ^ 8 := Nat.pow_le_pow_right (by decide) (by rw [List.length_take]; omega)
      omega
    have hv : ((decv (x.cps.toList.take k) : Nat) : Int) * 10 + ((x.cps.toList[k] : Nat) - 48) = (decv (x.cps.toList.take (k + 1)) : Nat) := by
      rw [List.take_add_one, List.getElem?_eq_getElem hk2]
      have : decv (x.cps.toList.take k ++ (some x.cps.toList[k]).toList) = decv (x.cps.toList.take k) * 10 + (x.cps.toList[k] - 48) := by
        unfold decv; rw [List.foldl_append]; rfl
      rw [this]
      omega
    with_reducible refine' SS_set (EP_add (EP_mul ?c1 ?c2 ?c3) (EP_call gf_figure_of ?c4 (EA_cons (EP_conv (EP_sitem ?c5 ?c6 ?c7 ?c8 ?c9 ?ca ?cb) (congrArg AV.str hit)) ?cc EA_nil) ?cd (figure_of_c hmem.1 hmem.2) ?ce)) ?cf ?cg ?_
    case c1 => walk_at "S e"
    case c2 => walk_at "S e"
    case c3 => mul_fits
    case c4 => kernel_rfl
    case c5 => walk_at "S e"
    case c6 => walk_at "S e"
    case c7 => omega
    case c8 => omega
    case c9 => omega
    case ca => exact fun _ _ => rfl
    case cb => exact fun _ _ => by with_unfolding_all rfl
    case cc => exact rfl
    case cd => exact rfl
    case ce => exact rfl
    case cf => exact rfl
    case cg => walk_at "S p"
    walk_at "S n"
    exact hK' _ _ _ hv (.same (.same (.same (.same (.same (.un .nil)))))) (fun _ h => h)
  case b9 =>
    rintro v rfl
    walk_at "S s"
    refine hR () _ _ trivial (congrArg AV.int ?_) (fun _ h => h)
    rw [hl, List.take_length]
theorem from_decimal_c {W : Wd} {n : Led} {x : Str} {e : Int} (h1 : x.length ≤ 8) (he : -4 ≤ e) (he2 : e ≤ 3) (hd : ∀ c ∈ x.cps.toList, 48 ≤ c ∧ c ≤ 57) : CP W 6 n 218 [.str x, .int e] (.int (FD x.cps.toList e)) := by
  refine CP.of (fn2 (x1 := Str.ofString "figures") (x2 := Str.ofString "exponent") (us := [Str.ofString "told", Str.ofString "place", Str.ofString "number"]) (by k_is) (by k_is) (Mine.ok_of ?hok) (fun _ _ => rfl) rfl rfl ?e3 ?H)
  walk_at "S fn"
  rename_i c R hR
  have hz := lstrip_zeros x
  have hzl := len_lstripChars x (Str.ofString "0")
  unfold FD at hR
  rw [← hz] at hR
  have hd2 : ∀ c ∈ (Txt.lstripChars x (Str.ofString "0")).cps.toList, 48 ≤ c ∧ c ≤ 57 := by
    rw [hz]; exact fun c hc => hd c ((List.dropWhile_sublist _).mem hc)
  with_reducible refine' SS_set (EP_lstrip (z := Str.ofString "0") ?a1 EP_str ?a2 ?a3 ?a4) ?a5 ?a6 ?_
  case a1 => walk_at "S e"
  case a2 => exact rfl
  case a3 => omega
  case a4 => exact rfl
  case a5 => exact rfl
  case a6 => walk_at "S p"
  generalize Txt.lstripChars x (Str.ofString "0") = z at hR hd2 hzl ⊢
  have hl8 : z.length ≤ 8 := Nat.le_trans hzl h1
  walk_at "S s"
  with_reducible refine' SS_ifr (TT_or (T2 := False) (F2 := True) (TT_seq ?b1 EP_str) (fun _ => TT_weak (TT_lt ?b2 (EP_sub EP_int (EP_gi gi_far ?b3))) ?b4 ?b5)) ?_ ?_
  case b1 => walk_at "S e"
  case b2 => walk_at "S e"
  case b3 => kernel_rfl
  case b4 => intro h; omega
  case b5 => exact fun _ => trivial
  · rintro (h | ⟨-, h⟩)
    · have h5 : z.cps.toList = [] := by rw [h]; decide +kernel
      rw [if_pos h5] at hR
      with_reducible refine' SS_ret (EP_gi gi_zero ?c1) ?c2
      case c1 => kernel_rfl
      case c2 => exact hR () _ _ trivial rfl (fun _ h => h)
    · exact h.elim
  rintro ⟨h, -⟩
  have hne : z.cps.toList ≠ [] := fun h2 => h (str_ext (h2.trans (by decide +kernel)))
  rw [if_neg hne] at hR
  with_reducible refine' SS_ifr (TT_gt ?d1 (EP_gi gi_far ?d2)) ?_ ?_
  case d1 => walk_at "S e"
  case d2 => kernel_rfl
  · intro h; omega
  intro _
  have hdb : decv z.cps.toList < 100000000 := by
    have h2 := decv_bnd _ (fun c hc => (hd2 c hc).2)
    have hl : z.length = z.cps.toList.length := by show Array.size _ = _; simp
    have h3 : 10 ^ z.cps.toList.length ≤ 10 ^ 8 := Nat.pow_le_pow_right (by decide) (by omega)
    omega
  with_reducible refine' SS_set (EP_call gf_worth ?f1 (EA_cons ?f2 ?f3 (EA_cons EP_int ?f4 (EA_cons (EP_len (x := z) ?f5 ?f6 ?f7 ?f8) ?f9 (EA_cons EP_int ?fa EA_nil)))) ?fb (worth_c hl8 hd2) ?fc) ?fd ?fe ?_
  case f1 => kernel_rfl
  case f2 => walk_at "S e"
  case f3 => exact rfl
  case f4 => exact rfl
  case f5 => kernel_rfl
  case f6 => walk_at "S e"
  case f7 => exact rfl
  case f8 => omega
  case f9 => exact rfl
  case fa => exact rfl
  case fb => exact rfl
  case fc => exact rfl
  case fd => exact rfl
  case fe => walk_at "S p"
  have hp1 : 10 ^ e.toNat ≤ 1000 := Nat.le_trans (Nat.pow_le_pow_right (by decide) (by omega) : 10 ^ e.toNat ≤ 10 ^ 3) (by decide)
  have hp2 : 10 ^ (0 - e).toNat ≤ 10000 := Nat.le_trans (Nat.pow_le_pow_right (by decide) (by omega) : 10 ^ (0 - e).toNat ≤ 10 ^ 4) (by decide)
  have hp3 : 0 < 10 ^ (0 - e).toNat := Nat.pow_pos (by decide)
  have ec1 : ((decv z.cps.toList : Nat) : Int) * 10 ^ e.toNat = ((decv z.cps.toList * 10 ^ e.toNat : Nat) : Int) := by rw [Int.natCast_mul, Int.natCast_pow]; rfl
  have ec2 : (10 : Int) ^ (0 - e).toNat = ((10 ^ (0 - e).toNat : Nat) : Int) := by rw [Int.natCast_pow]; rfl
  walk_at "S s"
  · intro h6
    rw [if_pos h6] at hR
    with_reducible refine' SS_ret (EP_call gf_round_ratio ?g1 (EA_cons EP_int ?g2 (EA_cons (EP_conv (EP_mul ?g3 (EP_pow EP_int ?g4 ?g5 ?g6 ?g7) ?g8) (congrArg AV.int ec1)) ?g9 (EA_cons EP_int ?ga EA_nil))) ?gb (round_ratio_c (bottom := 1) (Nat.lt_of_le_of_lt (Nat.mul_le_mul (Nat.le_of_lt hdb) hp1) ?gc) ?gd ?ge) ?gf) ?gg
    case g1 => kernel_rfl
    case g2 => exact rfl
    case g3 => walk_at "S e"
    case g4 => walk_at "S e"
    case g5 => omega
    case g6 => omega
    case g7 => decide
    case g8 => exact IntMulOk.of_left (PySem.intBits_le_64 (by omega) (by omega))
    case g9 => exact rfl
    case ga => exact rfl
    case gb => exact rfl
    case gc => decide
    case gd => decide
    case ge => decide
    case gf => exact rfl
    case gg => exact hR () _ _ trivial rfl (fun _ h => h)
  · intro h6
    rw [if_neg (by omega)] at hR
    with_reducible refine' SS_ret (EP_call gf_round_ratio ?h1 (EA_cons EP_int ?h2 (EA_cons ?h3 ?h4 (EA_cons (EP_conv (EP_pow EP_int (EP_sub EP_int ?h5) ?h6 ?h7 ?h8) (congrArg AV.int ec2)) ?h9 EA_nil))) ?ha (round_ratio_c ?hb hp3 ?hc) ?hd) ?he
    case h1 => kernel_rfl
    case h2 => exact rfl
    case h3 => walk_at "S e"
    case h4 => exact rfl
    case h5 => walk_at "S e"
    case h6 => omega
    case h7 => omega
    case h8 => decide
    case h9 => exact rfl
    case ha => exact rfl
    case hb => omega
    case hc => omega
    case hd => exact rfl
    case he => exact hR () _ _ trivial rfl (fun _ h => h)
end Mine
namespace Mine
section
variable {c : Cx} {S : Sc} {l l' : Loc} {n : Led} {R : AV → Led → Prop} {K : Loc → Led → Prop} {rest : List Stmt}
/-- x is a plain attribute of what stands at cls -/
structure GA (cls : Addr) (x : Str) : Prop where
  plain : ∀ P, plainGet (hpK P) cls x = true
  dict : ∀ P, hasDictIn (hpK P) cls = true
  find : ∀ P, findIn (hpK P) (.ref cls) x = some none
  set : ∀ P, findIn (hpK P) (.ref cls) "__setattr__" = some (some (.builtin "object.__setattr__"))
  over : ∀ P, plainOver (hpK P) cls = true
  take : ∀ P, takerIn (hpK P) cls x = some none
section
variable {x y : Str} {ox dx cls : Addr} {ds ds' : List DictEntry} {k : Nat} {v : Value} {V : AV} {p p1 p2 : Pos} {n' : Led}
theorem get_core {s : Shared} {m : Str → Option Value} {Q : Value → Shared → Prop} (ok : c.Ok S) (F : Fr c.g c.L s.heap m) (N : News c.g c.L s.heap n) (ga : GA cls x) (hm1 : (ox, instObj cls dx) ∈ n) (hm2 : (dx, dictOf ds k) ∈ n)
    (hl : getL x ds = some (some v)) (hh : handedIn v = true) (h : Q v { s with toks := s.toks + 1 }) : wpAny (model prg c.W.w) (c.A S) (getAttr (.ref ox) x true) Q no s :=
  get_own F ok.X (InstAt.of_news N hm1 hm2) (ga.plain _) (ga.dict _) (ga.find _) rfl hl hh h
theorem EP_attr (ho : EP c S l n (.Name y p1) (.is (.ref ox))) (ga : GA cls x) (hm1 : (ox, instObj cls dx) ∈ n) (hm2 : (dx, dictOf ds k) ∈ n)
    (hl : getL x ds = some (some v)) (hv : V.has v) (hh : handedIn v = true) : EP c S l n (.Attribute (.Name y p1) x p) V := by
  intro ok s m Q r F N ret
  refine Attribute_name ?_
  refine ho ok s m _ r F N (fun v1 n' h' tk' hp2 F' N' => ?_)
  obtain ⟨rfl, rfl⟩ := hp2
  exact get_core ok F' N' ga hm1 hm2 hl hh (ret v _ h' _ ⟨hv, rfl⟩ F' N')
theorem set_core {s : Shared} {m : Str → Option Value} {Q : Unit → Shared → Prop} (ok : c.Ok S) (F : Fr c.g c.L s.heap m) (N : News c.g c.L s.heap n) (ga : GA cls x) (hm1 : (ox, instObj cls dx) ∈ n) (hm2 : (dx, dictOf ds k) ∈ n)
    (hl : (getL x ds).isSome = true) (e : ∀ hs key, (putL x hs key v ds, putN x ds k) = (ds', k)) (U : Upd dx (dictOf ds k) (dictOf ds' k) n n') (hz : ds'.length ≤ 1000)
    (h : ∀ h', Fr c.g c.L h' m → News c.g c.L h' n' → Q () { s with heap := h', toks := s.toks + 2 }) : wpAny (model prg c.W.w) (c.A S) (setAttr (.ref ox) x v) Q no s :=
  set_dict F ok.X N (InstAt.of_news N hm1 hm2) rfl (ga.set _) (ga.over _) (ga.take _) (ga.dict _) hl (e _ _) U hz h
theorem SS_attr {e : Expr} {fd : Value → List DictEntry} {fn : Value → Led} (ho : EP c S l n (.Name y p1) (.is (.ref ox))) (he : EP c S l n e V) (hp : plainS e = true) (ga : GA cls x) (hm1 : (ox, instObj cls dx) ∈ n) (hm2 : (dx, dictOf ds k) ∈ n)
    (hl : (getL x ds).isSome = true) (ee : ∀ v hs key, (putL x hs key v ds, putN x ds k) = (fd v, k)) (U : ∀ v, Upd dx (dictOf ds k) (dictOf (fd v) k) n (fn v)) (hz : ∀ v, (fd v).length ≤ 1000)
    (h : ∀ v, V.has v → SS c S R l (fn v) rest K) : SS c S R l n (.Assign [.Attribute (.Name y p1) x p2] e p :: rest) K := by
  refine SS_cons (K1 := fun l1 n1 => ∃ v, V.has v ∧ l1 = l ∧ n1 = fn v) ?_ (by rintro _ _ ⟨v, hv, rfl, rfl⟩; exact h v hv)
  intro ok s m Q r F N next ret
  refine plainObj_wpAny_Assign_Attribute ?_ (swap_plain hp)
  refine he ok s m _ r F N (fun v n' h' tk' hp F' N' => ?_)
  obtain ⟨hv, rfl⟩ := hp
  refine ho ok _ m _ r F' N' (fun v1 n2 h2 tk2 hp F2 N2 => ?_)
  obtain ⟨rfl, rfl⟩ := hp
  exact set_core ok F2 N2 ga hm1 hm2 hl (ee v) (U v) (hz v) (fun h3 F3 N3 => next _ _ _ h3 _ ⟨v, hv, rfl, rfl⟩ r F3 N3)
theorem SS_attr_aug {e : Expr} {i j : Int} {t : Tok} {fd : Value → List DictEntry} {fn : Value → Led} (ho : EP c S l n (.Name y p1) (.is (.ref ox))) (he : EP c S l n e (.int j)) (ga : GA cls x) (hm1 : (ox, instObj cls dx) ∈ n) (hm2 : (dx, dictOf ds k) ∈ n)
    (hg : getL x ds = some (some (.int i t))) (hl : (getL x ds).isSome = true) (ee : ∀ v hs key, (putL x hs key v ds, putN x ds k) = (fd v, k)) (U : ∀ v, Upd dx (dictOf ds k) (dictOf (fd v) k) n (fn v)) (hz : ∀ v, (fd v).length ≤ 1000)
    (h : ∀ t, SS c S R l (fn (.int (i + j) t)) rest K) : SS c S R l n (.AugAssign (.Attribute (.Name y p1) x p2) .Add e p :: rest) K := by
  refine SS_cons (K1 := fun l1 n1 => ∃ t, l1 = l ∧ n1 = fn (.int (i + j) t)) ?_ (by rintro _ _ ⟨v, rfl, rfl⟩; exact h v)
  intro ok s m Q r F N next ret
  refine wpAny_AugAssign_AttributeAny ?_
  refine ho ok _ m _ r F N (fun v1 n2 h2 tk2 hp F2 N2 => ?_)
  obtain ⟨rfl, rfl⟩ := hp
  refine get_core ok F2 N2 ga hm1 hm2 hg rfl ?_
  refine he ok _ m _ r F2 N2 (fun v n' h' tk' hp F' N' => ?_)
  obtain ⟨⟨t2, rfl⟩, rfl⟩ := hp
  refine P.iadd_int ?_
  exact set_core (s := { s with heap := h', toks := tk' + 1 }) ok F' N' ga hm1 hm2 hl (ee _) (U _) (hz _) (fun h3 F3 N3 => next _ _ _ h3 _ ⟨_, rfl, rfl⟩ r F3 N3)
end
theorem ga_at : GA 418 (Str.ofString "at") := by constructor <;> (intro P; k_is)
theorem ga_line : GA 418 (Str.ofString "line") := by constructor <;> (intro P; k_is)
theorem ga_text : GA 418 (Str.ofString "text") := by constructor <;> (intro P; k_is)
noncomputable abbrev lexA (I : LexId) (rest : Led) : Prop := (I.x :: I.dx :: rest.map Prod.fst).Nodup
theorem lexA_ne {I : LexId} {rest : Led} (h : lexA I rest) : I.x ≠ I.dx := fun e => (List.nodup_cons.mp h).1 (e ▸ .head _)
theorem lexA_rest {I : LexId} {rest : Led} (h : lexA I rest) : ∀ p ∈ rest, p.1 ≠ I.dx := fun p hp e => (List.nodup_cons.mp (List.nodup_cons.mp h).2).1 (e ▸ List.mem_map.mpr ⟨p, hp, rfl⟩)
section
variable {I : LexId} {pos ln : Int} {ta tl : Tok} {r : Led} {y : Str} {p p1 p2 p3 p4 p5 p6 p7 : Pos}
theorem EP_at (ho : EP c S l (lexL I pos ln ta tl r) (.Name y p1) (.is (.ref I.x))) : EP c S l (lexL I pos ln ta tl r) (.Attribute (.Name y p1) (Str.ofString "at") p) (.int pos) :=
  EP_attr ho ga_at (.head _) (.tail _ (.head _)) rfl ⟨ta, rfl⟩ rfl
theorem EP_line (ho : EP c S l (lexL I pos ln ta tl r) (.Name y p1) (.is (.ref I.x))) : EP c S l (lexL I pos ln ta tl r) (.Attribute (.Name y p1) (Str.ofString "line") p) (.int ln) :=
  EP_attr ho ga_line (.head _) (.tail _ (.head _)) rfl ⟨tl, rfl⟩ rfl
theorem EP_text (ho : EP c S l (lexL I pos ln ta tl r) (.Name y p1) (.is (.ref I.x))) : EP c S l (lexL I pos ln ta tl r) (.Attribute (.Name y p1) (Str.ofString "text") p) (.str I.T) :=
  EP_attr ho ga_text (.head _) (.tail _ (.head _)) rfl ⟨I.tT, rfl⟩ rfl
theorem upd_lex (hA : lexA I r) {o o' : Obj} : Upd I.dx o o' ((I.x, instObj 418 I.dx) :: (I.dx, o) :: r) ((I.x, instObj 418 I.dx) :: (I.dx, o') :: r) := .tail (lexA_ne hA) (.head (lexA_rest hA))
theorem SS_at {e : Expr} {i : Int} (ho : EP c S l (lexL I pos ln ta tl r) (.Name y p1) (.is (.ref I.x))) (he : EP c S l (lexL I pos ln ta tl r) e (.int i)) (hp : plainS e = true) (hA : lexA I r)
    (h : ∀ t, SS c S R l (lexL I i ln t tl r) rest K) : SS c S R l (lexL I pos ln ta tl r) (.Assign [.Attribute (.Name y p1) (Str.ofString "at") p2] e p :: rest) K :=
  SS_attr (fd := fun v => [⟨I.h1, .str (Str.ofString "text") I.k1, .str I.T I.tT⟩, ⟨I.h2, .str (Str.ofString "at") I.k2, v⟩, ⟨I.h3, .str (Str.ofString "line") I.k3, .int ln tl⟩]) (fn := fun v => (I.x, instObj 418 I.dx) :: (I.dx, dictOf [⟨I.h1, .str (Str.ofString "text") I.k1, .str I.T I.tT⟩, ⟨I.h2, .str (Str.ofString "at") I.k2, v⟩, ⟨I.h3, .str (Str.ofString "line") I.k3, .int ln tl⟩] 3) :: r)
    ho he hp ga_at (.head _) (.tail _ (.head _)) rfl (fun _ _ _ => rfl) (fun _ => upd_lex hA) (fun _ => (by decide : 3 ≤ 1000)) (by rintro _ ⟨t, rfl⟩; exact h t)
theorem SS_at_aug {e : Expr} {i : Int} (ho : EP c S l (lexL I pos ln ta tl r) (.Name y p1) (.is (.ref I.x))) (he : EP c S l (lexL I pos ln ta tl r) e (.int i)) (hA : lexA I r)
    (h : ∀ t, SS c S R l (lexL I (pos + i) ln t tl r) rest K) : SS c S R l (lexL I pos ln ta tl r) (.AugAssign (.Attribute (.Name y p1) (Str.ofString "at") p2) .Add e p :: rest) K :=
  SS_attr_aug (fd := fun v => [⟨I.h1, .str (Str.ofString "text") I.k1, .str I.T I.tT⟩, ⟨I.h2, .str (Str.ofString "at") I.k2, v⟩, ⟨I.h3, .str (Str.ofString "line") I.k3, .int ln tl⟩]) (fn := fun v => (I.x, instObj 418 I.dx) :: (I.dx, dictOf [⟨I.h1, .str (Str.ofString "text") I.k1, .str I.T I.tT⟩, ⟨I.h2, .str (Str.ofString "at") I.k2, v⟩, ⟨I.h3, .str (Str.ofString "line") I.k3, .int ln tl⟩] 3) :: r)
    ho he ga_at (.head _) (.tail _ (.head _)) rfl rfl (fun _ _ _ => rfl) (fun _ => upd_lex hA) (fun _ => (by decide : 3 ≤ 1000)) h
theorem SS_ln_aug {e : Expr} {i : Int} (ho : EP c S l (lexL I pos ln ta tl r) (.Name y p1) (.is (.ref I.x))) (he : EP c S l (lexL I pos ln ta tl r) e (.int i)) (hA : lexA I r)
    (h : ∀ t, SS c S R l (lexL I pos (ln + i) ta t r) rest K) : SS c S R l (lexL I pos ln ta tl r) (.AugAssign (.Attribute (.Name y p1) (Str.ofString "line") p2) .Add e p :: rest) K :=
  SS_attr_aug (fd := fun v => [⟨I.h1, .str (Str.ofString "text") I.k1, .str I.T I.tT⟩, ⟨I.h2, .str (Str.ofString "at") I.k2, .int pos ta⟩, ⟨I.h3, .str (Str.ofString "line") I.k3, v⟩]) (fn := fun v => (I.x, instObj 418 I.dx) :: (I.dx, dictOf [⟨I.h1, .str (Str.ofString "text") I.k1, .str I.T I.tT⟩, ⟨I.h2, .str (Str.ofString "at") I.k2, .int pos ta⟩, ⟨I.h3, .str (Str.ofString "line") I.k3, v⟩] 3) :: r)
    ho he ga_line (.head _) (.tail _ (.head _)) rfl rfl (fun _ _ _ => rfl) (fun _ => upd_lex hA) (fun _ => (by decide : 3 ≤ 1000)) h
end
end
end Mine
namespace Mine
section
variable {c : Cx} {S : Sc} {l l' : Loc} {n : Led} {R : AV → Led → Prop} {K : Loc → Led → Prop} {rest : List Stmt}
section
variable {I : LexId} {pos ln : Int} {ta tl : Tok} {r : Led} {y : Str} {p p1 p2 p3 p4 p5 p6 p7 : Pos}
theorem EP_code (hT : I.T.length ≤ 1000000) (h0 : 0 ≤ pos) (hk : S.glob (Str.ofString "code_at") = true) (hd : Nat.ble 2 S.d = true) (ho1 : EP c S l (lexL I pos ln ta tl r) (.Name y p1) (.is (.ref I.x))) (ho2 : EP c S l (lexL I pos ln ta tl r) (.Name y p3) (.is (.ref I.x))) :
    EP c S l (lexL I pos ln ta tl r) (.Call (.Name (Str.ofString "code_at") p5) [(.Attribute (.Name y p1) (Str.ofString "text") p2), (.Attribute (.Name y p3) (Str.ofString "at") p4)] [] p6) (.int (codeAt I.T pos)) :=
  EP_call gf_code_at hk (EA_cons (EP_text ho1) rfl (EA_cons (EP_at ho2) rfl EA_nil)) rfl (code_at_c hT h0) hd
theorem EP_codek {k : Int} {e : Expr} (hT : I.T.length ≤ 1000000) (h0 : 0 ≤ pos + k) (hk : S.glob (Str.ofString "code_at") = true) (hd : Nat.ble 2 S.d = true) (ho1 : EP c S l (lexL I pos ln ta tl r) (.Name y p1) (.is (.ref I.x))) (ho2 : EP c S l (lexL I pos ln ta tl r) (.Name y p3) (.is (.ref I.x))) (he : EP c S l (lexL I pos ln ta tl r) e (.int k)) :
    EP c S l (lexL I pos ln ta tl r) (.Call (.Name (Str.ofString "code_at") p5) [(.Attribute (.Name y p1) (Str.ofString "text") p2), (.BinOp (.Attribute (.Name y p3) (Str.ofString "at") p4) .Add e p7)] [] p6) (.int (codeAt I.T (pos + k))) :=
  EP_call gf_code_at hk (EA_cons (EP_text ho1) rfl (EA_cons (EP_add (EP_at ho2) he) rfl EA_nil)) rfl (code_at_c hT h0) hd
end
end
end Mine
local macro_rules | `(tactic| walk_at "S call") => `(tactic| first | ((with_reducible refine' Mine.EP_call Mine.gf_is_digit ?k ?a rfl Mine.is_digit_c rfl); (case a => walk_at "S a"); (case k => kernel_rfl)) | ((with_reducible refine' Mine.EP_call Mine.gf_is_octal_digit ?k ?a rfl Mine.is_octal_digit_c rfl); (case a => walk_at "S a"); (case k => kernel_rfl)) | ((with_reducible refine' Mine.EP_call Mine.gf_hex_value ?k ?a rfl Mine.hex_value_c rfl); (case a => walk_at "S a"); (case k => kernel_rfl)) | ((with_reducible refine' Mine.EP_call Mine.gf_is_line_end ?k ?a rfl Mine.is_line_end_c rfl); (case a => walk_at "S a"); (case k => kernel_rfl)) | ((with_reducible refine' Mine.EP_call Mine.gf_is_white ?k ?a rfl Mine.is_white_c rfl); (case a => walk_at "S a"); (case k => kernel_rfl)) | ((with_reducible refine' Mine.EP_call Mine.gf_is_id_start ?k ?a rfl Mine.is_id_start_c rfl); (case a => walk_at "S a"); (case k => kernel_rfl)) | ((with_reducible refine' Mine.EP_call Mine.gf_is_id_part ?k ?a rfl Mine.is_id_part_c rfl); (case a => walk_at "S a"); (case k => kernel_rfl)) | ((with_reducible refine' Mine.EP_call Mine.gf_code_at ?k ?a rfl (Mine.code_at_c ?hT ?h0) rfl); (case a => walk_at "S a"); (case hT => with_reducible assumption); (case h0 => first | with_reducible assumption | omega); (case k => kernel_rfl)) | ((with_reducible refine' Mine.EP_call Mine.gf_line_end_size ?k ?a rfl (Mine.line_end_size_c ?hT ?h0) rfl); (case a => walk_at "S a"); (case hT => with_reducible assumption); (case h0 => first | with_reducible assumption | omega); (case k => kernel_rfl)) | ((with_reducible refine' Mine.EP_call Mine.gf_hex_at ?k ?a rfl (Mine.hex_at4_c ?hT ?h0) rfl); (case a => walk_at "S a"); (case hT => with_reducible assumption); (case h0 => first | with_reducible assumption | omega); (case k => kernel_rfl)) | ((with_reducible refine' Mine.EP_call Mine.gf_hex_at ?k ?a rfl (Mine.hex_at2_c ?hT ?h0) rfl); (case a => walk_at "S a"); (case hT => with_reducible assumption); (case h0 => first | with_reducible assumption | omega); (case k => kernel_rfl)) | fail "S call")
local macro_rules | `(tactic| walk_at "S more") => `(tactic| first | ((with_reducible refine' Mine.EP_at ?_); walk_at "S e") | ((with_reducible refine' Mine.EP_text ?_); walk_at "S e") | ((with_reducible refine' Mine.EP_line ?_); walk_at "S e") | ((with_reducible refine' Mine.EP_code ?hT ?h0 ?hk rfl ?o1 ?o2); (case o1 => walk_at "S e"); (case o2 => walk_at "S e"); (case hT => with_reducible assumption); (case h0 => first | with_reducible assumption | omega); (case hk => kernel_rfl)) | ((with_reducible refine' Mine.EP_codek ?hT ?h0 ?hk rfl ?o1 ?o2 ?he); (case o1 => walk_at "S e"); (case o2 => walk_at "S e"); (case he => walk_at "S e"); (case hT => with_reducible assumption); (case h0 => first | with_reducible assumption | omega); (case hk => kernel_rfl)) | fail "S more")
local macro_rules | `(tactic| walk_at "S smore") => `(tactic| first | ((with_reducible refine' Mine.SS_at_aug ?a ?b ?c ?_); (case a => walk_at "S e"); (case b => walk_at "S e"); (case c => first | with_reducible assumption | assumption); intro t9) | ((with_reducible refine' Mine.SS_ln_aug ?a ?b ?c ?_); (case a => walk_at "S e"); (case b => walk_at "S e"); (case c => first | with_reducible assumption | assumption); intro t9) | ((with_reducible refine' Mine.SS_at ?a ?b rfl ?c ?_); (case a => walk_at "S e"); (case b => walk_at "S e"); (case c => first | with_reducible assumption | assumption); intro t9) | fail "S smore")
namespace Mine
structure TokId where
  t : Addr
  dt : Addr
  h1 : Int
  h2 : Int
  h3 : Int
  h4 : Int
  h5 : Int
  h6 : Int
  h7 : Int
  h8 : Int
  k1 : Tok
  k2 : Tok
  k3 : Tok
  k4 : Tok
  k5 : Tok
  k6 : Tok
  k7 : Tok
  k8 : Tok
noncomputable abbrev tokL (J : TokId) (kind value line isb start fin oct plain : Value) (rest : Led) : Led :=
  (J.t, instObj 237 J.dt) :: (J.dt, dictOf [⟨J.h1, .str (Str.ofString "kind") J.k1, kind⟩, ⟨J.h2, .str (Str.ofString "value") J.k2, value⟩, ⟨J.h3, .str (Str.ofString "line") J.k3, line⟩, ⟨J.h4, .str (Str.ofString "is_behind_line") J.k4, isb⟩, ⟨J.h5, .str (Str.ofString "start") J.k5, start⟩, ⟨J.h6, .str (Str.ofString "end") J.k6, fin⟩, ⟨J.h7, .str (Str.ofString "is_octal") J.k7, oct⟩, ⟨J.h8, .str (Str.ofString "is_plain") J.k8, plain⟩] 8) :: rest
end Mine
namespace Mine
section
variable {c : Cx} {S : Sc} {l l' : Loc} {n : Led} {R : AV → Led → Prop} {K : Loc → Led → Prop} {rest : List Stmt}
theorem meth_core0 {x : Str} {f ox dx cls : Addr} {o : Expr} {ds : List DictEntry} {dn : Nat} {p1 p2 : Pos} {d : Nat} {P : Value → Led → Prop} (ho : EP c S l n o (.is (.ref ox))) (hg : GM cls x f)
    (hm1 : (ox, instObj cls dx) ∈ n) (hm2 : (dx, dictOf ds dn) ∈ n) (hl : getL x ds = some none)
    (C : Spec c.W.w c.W.mg c.W.mb c.W.mean d (call (.ref f) [.ref ox]) n P) (hd : Nat.ble d S.d = true) {pl : Sem Bool} (hme : eval (.Call (.Attribute o x p1) [] [] p2) (c.env S) = (do
      let ov ← eval o (c.env S)
      standAt p1.atName
      let (f, first) ← holding [ov] (getMethod ov x pl)
      callWith p2 f first (backTo p2 (starEach [] (c.env S))) [])) : CE c S l n (eval (.Call (.Attribute o x p1) [] [] p2) (c.env S)) P := by
  intro ok s m Q r F N ret
  refine MethodCall_ ?_ hme
  refine ho ok s m _ r F N (fun v n' h' tk' hp2 F' N' => ?_)
  obtain ⟨rfl, rfl⟩ := hp2
  refine method_inst F' ok.X (InstAt.of_news N' hm1 hm2) (hg.plain _) (hg.find _) (hg.fn _) hl ?_
  exact callWith_K0 (ok.X.keeps F'.keep) (hg.keep _) (call_fin C hd ok F' N' ret)
/-- the lexers have the method x at f -/
structure GL (x : Str) (f : Addr) : Prop where
  meth : GM 418 x f
  none : ∀ (h1 h2 h3 : Int) (k1 k2 k3 : Tok) (v1 v2 v3 : Value), getL x [⟨h1, .str (Str.ofString "text") k1, v1⟩, ⟨h2, .str (Str.ofString "at") k2, v2⟩, ⟨h3, .str (Str.ofString "line") k3, v3⟩] = some Option.none
section
variable {I : LexId} {pos ln : Int} {ta tl : Tok} {r : Led} {y x : Str} {f : Addr} {p p1 p2 p3 p4 p5 p6 p7 : Pos} {d : Nat} {X : Type} {P : X → Prop} {fV : X → AV} {fn : X → Led} {pl : Sem Bool}
theorem EC_meth0 (ho : EP c S l (lexL I pos ln ta tl r) (.Name y p) (.is (.ref I.x))) (hg : GL x f) (C : CC c.W d (lexL I pos ln ta tl r) f [.is (.ref I.x)] X P fV fn) (hd : Nat.ble d S.d = true)
    (hme : eval (.Call (.Attribute (.Name y p) x p1) [] [] p2) (c.env S) = (do
      let ov ← eval (.Name y p) (c.env S)
      standAt p1.atName
      let (f, first) ← holding [ov] (getMethod ov x pl)
      callWith p2 f first (backTo p2 (starEach [] (c.env S))) [])) : EC c S l (lexL I pos ln ta tl r) (.Call (.Attribute (.Name y p) x p1) [] [] p2) X P fV fn :=
  meth_core0 ho hg.meth (.head _) (.tail _ (.head _)) (hg.none ..) (C [.ref I.x] ⟨rfl, trivial⟩) hd hme
theorem EC_meth {e0 : Expr} {es : List Expr} {Vs : List AV} (ho : EP c S l (lexL I pos ln ta tl r) (.Name y p) (.is (.ref I.x))) (hg : GL x f) (ha : EA c S l (lexL I pos ln ta tl r) p2 (e0 :: es) Vs) (hp : (e0 :: es).all plainE = true) (C : CC c.W d (lexL I pos ln ta tl r) f (.is (.ref I.x) :: Vs) X P fV fn) (hd : Nat.ble d S.d = true)
    (hme : eval (.Call (.Attribute (.Name y p) x p1) (e0 :: es) [] p2) (c.env S) = (do
      let ov ← eval (.Name y p) (c.env S)
      standAt p1.atName
      let (f, first) ← holding [ov] (getMethod ov x pl)
      callWith p2 f first (backTo p2 (starEach (e0 :: es) (c.env S))) [])) : EC c S l (lexL I pos ln ta tl r) (.Call (.Attribute (.Name y p) x p1) (e0 :: es) [] p2) X P fV fn :=
  meth_core ho hg.meth (.head _) (.tail _ (.head _)) (hg.none ..) ha hp (fun vs h => C (.ref I.x :: vs) ⟨rfl, h⟩) hd hme
end
theorem gl_skip_blanks : GL (Str.ofString "skip_blanks") 317 := ⟨by constructor <;> (intro P; k_is), fun _ _ _ _ _ _ _ _ _ => rfl⟩
end
noncomputable abbrev tokA (I : LexId) (J : TokId) (rest : Led) : Prop := (I.x :: I.dx :: J.t :: J.dt :: rest.map Prod.fst).Nodup
theorem ga_kind : GA 237 (Str.ofString "kind") := by constructor <;> (intro P; k_is)
theorem ga_value : GA 237 (Str.ofString "value") := by constructor <;> (intro P; k_is)
theorem ga_end : GA 237 (Str.ofString "end") := by constructor <;> (intro P; k_is)
theorem ga_octal : GA 237 (Str.ofString "is_octal") := by constructor <;> (intro P; k_is)
theorem ga_plain : GA 237 (Str.ofString "is_plain") := by constructor <;> (intro P; k_is)
noncomputable abbrev tokE (J : TokId) (kind value line isb start fin oct plain : Value) : List DictEntry := [⟨J.h1, .str (Str.ofString "kind") J.k1, kind⟩, ⟨J.h2, .str (Str.ofString "value") J.k2, value⟩, ⟨J.h3, .str (Str.ofString "line") J.k3, line⟩, ⟨J.h4, .str (Str.ofString "is_behind_line") J.k4, isb⟩, ⟨J.h5, .str (Str.ofString "start") J.k5, start⟩, ⟨J.h6, .str (Str.ofString "end") J.k6, fin⟩, ⟨J.h7, .str (Str.ofString "is_octal") J.k7, oct⟩, ⟨J.h8, .str (Str.ofString "is_plain") J.k8, plain⟩]
theorem upd_tok {I : LexId} {J : TokId} {r : Led} (hA : tokA I J r) {o1 : Obj} {o o' : Obj} : Upd J.dt o o' ((I.x, instObj 418 I.dx) :: (I.dx, o1) :: (J.t, instObj 237 J.dt) :: (J.dt, o) :: r) ((I.x, instObj 418 I.dx) :: (I.dx, o1) :: (J.t, instObj 237 J.dt) :: (J.dt, o') :: r) := by
  have h1 := List.nodup_cons.mp hA
  have h2 := List.nodup_cons.mp h1.2
  have h3 := List.nodup_cons.mp h2.2
  have h4 := List.nodup_cons.mp h3.2
  exact .tail (fun e => h1.1 (e ▸ .tail _ (.tail _ (.head _)))) (.tail (fun e => h2.1 (e ▸ .tail _ (.head _))) (.tail (fun e => h3.1 (e ▸ .head _)) (.head fun p hp e => h4.1 (e ▸ List.mem_map.mpr ⟨p, hp, rfl⟩))))
section
variable {c : Cx} {S : Sc} {l l' : Loc} {R : AV → Led → Prop} {K : Loc → Led → Prop} {rest : List Stmt}
variable {I : LexId} {J : TokId} {pos ln : Int} {ta tl : Tok} {r : Led} {y : Str} {p p1 p2 p3 p4 p5 p6 p7 : Pos} {kind value line isb start fin oct plain v : Value} {V : AV} {e : Expr}
theorem EP_tval (ho : EP c S l (lexL I pos ln ta tl (tokL J kind value line isb start fin oct plain r)) (.Name y p1) (.is (.ref J.t))) (hv : V.has value) (hh : handedIn value = true) : EP c S l (lexL I pos ln ta tl (tokL J kind value line isb start fin oct plain r)) (.Attribute (.Name y p1) (Str.ofString "value") p) V :=
  EP_attr (dx := J.dt) (v := value) ho ga_value (.tail _ (.tail _ (.head _))) (.tail _ (.tail _ (.tail _ (.head _)))) rfl hv hh
theorem EP_toct (ho : EP c S l (lexL I pos ln ta tl (tokL J kind value line isb start fin oct plain r)) (.Name y p1) (.is (.ref J.t))) (hv : V.has oct) (hh : handedIn oct = true) : EP c S l (lexL I pos ln ta tl (tokL J kind value line isb start fin oct plain r)) (.Attribute (.Name y p1) (Str.ofString "is_octal") p) V :=
  EP_attr (dx := J.dt) (v := oct) ho ga_octal (.tail _ (.tail _ (.head _))) (.tail _ (.tail _ (.tail _ (.head _)))) rfl hv hh
section
variable (ho : EP c S l (lexL I pos ln ta tl (tokL J kind value line isb start fin oct plain r)) (.Name y p1) (.is (.ref J.t))) (he : EP c S l (lexL I pos ln ta tl (tokL J kind value line isb start fin oct plain r)) e V) (hp : plainS e = true) (hA : tokA I J r)
include ho he hp hA
theorem SS_tkind (h : ∀ v, V.has v → SS c S R l (lexL I pos ln ta tl (tokL J v value line isb start fin oct plain r)) rest K) : SS c S R l (lexL I pos ln ta tl (tokL J kind value line isb start fin oct plain r)) (.Assign [.Attribute (.Name y p1) (Str.ofString "kind") p2] e p :: rest) K :=
  SS_attr (dx := J.dt) (ds := tokE J kind value line isb start fin oct plain) (fd := fun v => tokE J v value line isb start fin oct plain) (fn := fun v => lexL I pos ln ta tl (tokL J v value line isb start fin oct plain r)) ho he hp ga_kind (.tail _ (.tail _ (.head _))) (.tail _ (.tail _ (.tail _ (.head _)))) rfl (fun _ _ _ => rfl) (fun _ => upd_tok hA) (fun _ => (by decide : 8 ≤ 1000)) h
theorem SS_tvalue (h : ∀ v, V.has v → SS c S R l (lexL I pos ln ta tl (tokL J kind v line isb start fin oct plain r)) rest K) : SS c S R l (lexL I pos ln ta tl (tokL J kind value line isb start fin oct plain r)) (.Assign [.Attribute (.Name y p1) (Str.ofString "value") p2] e p :: rest) K :=
  SS_attr (dx := J.dt) (ds := tokE J kind value line isb start fin oct plain) (fd := fun v => tokE J kind v line isb start fin oct plain) (fn := fun v => lexL I pos ln ta tl (tokL J kind v line isb start fin oct plain r)) ho he hp ga_value (.tail _ (.tail _ (.head _))) (.tail _ (.tail _ (.tail _ (.head _)))) rfl (fun _ _ _ => rfl) (fun _ => upd_tok hA) (fun _ => (by decide : 8 ≤ 1000)) h
theorem SS_tend (h : ∀ v, V.has v → SS c S R l (lexL I pos ln ta tl (tokL J kind value line isb start v oct plain r)) rest K) : SS c S R l (lexL I pos ln ta tl (tokL J kind value line isb start fin oct plain r)) (.Assign [.Attribute (.Name y p1) (Str.ofString "end") p2] e p :: rest) K :=
  SS_attr (dx := J.dt) (ds := tokE J kind value line isb start fin oct plain) (fd := fun v => tokE J kind value line isb start v oct plain) (fn := fun v => lexL I pos ln ta tl (tokL J kind value line isb start v oct plain r)) ho he hp ga_end (.tail _ (.tail _ (.head _))) (.tail _ (.tail _ (.tail _ (.head _)))) rfl (fun _ _ _ => rfl) (fun _ => upd_tok hA) (fun _ => (by decide : 8 ≤ 1000)) h
theorem SS_toctal (h : ∀ v, V.has v → SS c S R l (lexL I pos ln ta tl (tokL J kind value line isb start fin v plain r)) rest K) : SS c S R l (lexL I pos ln ta tl (tokL J kind value line isb start fin oct plain r)) (.Assign [.Attribute (.Name y p1) (Str.ofString "is_octal") p2] e p :: rest) K :=
  SS_attr (dx := J.dt) (ds := tokE J kind value line isb start fin oct plain) (fd := fun v => tokE J kind value line isb start fin v plain) (fn := fun v => lexL I pos ln ta tl (tokL J kind value line isb start fin v plain r)) ho he hp ga_octal (.tail _ (.tail _ (.head _))) (.tail _ (.tail _ (.tail _ (.head _)))) rfl (fun _ _ _ => rfl) (fun _ => upd_tok hA) (fun _ => (by decide : 8 ≤ 1000)) h
theorem SS_tplain (h : ∀ v, V.has v → SS c S R l (lexL I pos ln ta tl (tokL J kind value line isb start fin oct v r)) rest K) : SS c S R l (lexL I pos ln ta tl (tokL J kind value line isb start fin oct plain r)) (.Assign [.Attribute (.Name y p1) (Str.ofString "is_plain") p2] e p :: rest) K :=
  SS_attr (dx := J.dt) (ds := tokE J kind value line isb start fin oct plain) (fd := fun v => tokE J kind value line isb start fin oct v) (fn := fun v => lexL I pos ln ta tl (tokL J kind value line isb start fin oct v r)) ho he hp ga_plain (.tail _ (.tail _ (.head _))) (.tail _ (.tail _ (.tail _ (.head _)))) rfl (fun _ _ _ => rfl) (fun _ => upd_tok hA) (fun _ => (by decide : 8 ≤ 1000)) h
end
section
variable (ho : EP c S l (lexL I pos ln ta tl (tokL J kind value line isb start fin oct plain r)) (.Name y p1) (.is (.ref J.t))) (hp : plainS e = true) (hA : tokA I J r)
include ho hp hA
theorem tk_kind {x : Str} (he : EP c S l (lexL I pos ln ta tl (tokL J kind value line isb start fin oct plain r)) e (.str x)) (h : ∀ t, SS c S R l (lexL I pos ln ta tl (tokL J (.str x t) value line isb start fin oct plain r)) rest K) : SS c S R l (lexL I pos ln ta tl (tokL J kind value line isb start fin oct plain r)) (.Assign [.Attribute (.Name y p1) (Str.ofString "kind") p2] e p :: rest) K :=
  SS_tkind ho he hp hA (by rintro _ ⟨t, rfl⟩; exact h t)
theorem tk_str {x : Str} (he : EP c S l (lexL I pos ln ta tl (tokL J kind value line isb start fin oct plain r)) e (.str x)) (h : ∀ t, SS c S R l (lexL I pos ln ta tl (tokL J kind (.str x t) line isb start fin oct plain r)) rest K) : SS c S R l (lexL I pos ln ta tl (tokL J kind value line isb start fin oct plain r)) (.Assign [.Attribute (.Name y p1) (Str.ofString "value") p2] e p :: rest) K :=
  SS_tvalue ho he hp hA (by rintro _ ⟨t, rfl⟩; exact h t)
theorem tk_int {i : Int} (he : EP c S l (lexL I pos ln ta tl (tokL J kind value line isb start fin oct plain r)) e (.int i)) (h : ∀ t, SS c S R l (lexL I pos ln ta tl (tokL J kind (.int i t) line isb start fin oct plain r)) rest K) : SS c S R l (lexL I pos ln ta tl (tokL J kind value line isb start fin oct plain r)) (.Assign [.Attribute (.Name y p1) (Str.ofString "value") p2] e p :: rest) K :=
  SS_tvalue ho he hp hA (by rintro _ ⟨t, rfl⟩; exact h t)
theorem tk_end {i : Int} (he : EP c S l (lexL I pos ln ta tl (tokL J kind value line isb start fin oct plain r)) e (.int i)) (h : ∀ t, SS c S R l (lexL I pos ln ta tl (tokL J kind value line isb start (.int i t) oct plain r)) rest K) : SS c S R l (lexL I pos ln ta tl (tokL J kind value line isb start fin oct plain r)) (.Assign [.Attribute (.Name y p1) (Str.ofString "end") p2] e p :: rest) K :=
  SS_tend ho he hp hA (by rintro _ ⟨t, rfl⟩; exact h t)
theorem tk_octal {v : Value} (he : EP c S l (lexL I pos ln ta tl (tokL J kind value line isb start fin oct plain r)) e (.is v)) (h : SS c S R l (lexL I pos ln ta tl (tokL J kind value line isb start fin v plain r)) rest K) : SS c S R l (lexL I pos ln ta tl (tokL J kind value line isb start fin oct plain r)) (.Assign [.Attribute (.Name y p1) (Str.ofString "is_octal") p2] e p :: rest) K :=
  SS_toctal ho he hp hA (by rintro _ rfl; exact h)
theorem tk_plain {v : Value} (he : EP c S l (lexL I pos ln ta tl (tokL J kind value line isb start fin oct plain r)) e (.is v)) (h : SS c S R l (lexL I pos ln ta tl (tokL J kind value line isb start fin oct v r)) rest K) : SS c S R l (lexL I pos ln ta tl (tokL J kind value line isb start fin oct plain r)) (.Assign [.Attribute (.Name y p1) (Str.ofString "is_plain") p2] e p :: rest) K :=
  SS_tplain ho he hp hA (by rintro _ rfl; exact h)
end
end
end Mine
local macro_rules | `(tactic| walk_at "S smore") => `(tactic| first | ((with_reducible refine' Mine.tk_kind ?a rfl ?c ?b ?_); (case a => walk_at "S e"); (case b => walk_at "S e"); (case c => first | with_reducible assumption | assumption); intro t9) | ((with_reducible refine' Mine.tk_octal ?a rfl ?c ?b ?_); (case a => walk_at "S e"); (case b => walk_at "S e"); (case c => first | with_reducible assumption | assumption)) | ((with_reducible refine' Mine.tk_plain ?a rfl ?c ?b ?_); (case a => walk_at "S e"); (case b => walk_at "S e"); (case c => first | with_reducible assumption | assumption)) | ((with_reducible refine' Mine.tk_end ?a rfl ?c ?b ?_); (case a => walk_at "S e"); (case b => walk_at "S e"); (case c => first | with_reducible assumption | assumption); intro t9) | ((with_reducible refine' Mine.tk_str ?a rfl ?c ?b ?_); (case a => walk_at "S e"); (case b => walk_at "S e"); (case c => first | with_reducible assumption | assumption); intro t9) | ((with_reducible refine' Mine.tk_int ?a rfl ?c ?b ?_); (case a => walk_at "S e"); (case b => walk_at "S e"); (case c => first | with_reducible assumption | assumption); intro t9) | fail "S smore")
namespace Mine
section
variable {W : Wd} {d : Nat} {n : Led} {C f : Addr} {Vs : List AV} {name qual : Str} {params : Arguments} {body : List Stmt} {scope : Scope} {dV kV doc pm cdv ct oc : Value} {an od : Option Addr} {osl : Array (Option Value)} {xs us : List Str} {slf : Str} {Y : Type} {fn : Addr → Addr → Y → Led}
theorem cls_core (hm : makesIn (hpK W.w.params) C = true) (hi : findIn (hpK W.w.params) (.ref C) "__init__" = some (some (.ref f))) (hf : isFn (hpK W.w.params) (.ref f) = true)
    (ho : (hpK W.w.params).lookup f = some ⟨oc, od, .func (fnOf name qual params body scope dV kV doc pm an cdv ct), osl⟩) (hcd : codeIn (hpK W.w.params) cdv qual = true) (hok : Sc.Ok ⟨scope, d, (slf :: xs) ++ us⟩) (hlen : xs.length = Vs.length)
    (hb : ∀ v0 vs, HasAll Vs vs → bindArgs (fnOf name qual params body scope dV kV doc pm an cdv ct) ⟨v0 :: vs, []⟩ = pure ((slf :: xs).zip (v0 :: vs)))
    (hco : scope.isCoroutine = false) (hgen : scope.isGenerator = false) (hcell : (scope.names.all fun x => decide (x.2 ≠ .cell)) = true)
    (H : ∀ (x dx : Addr), (∀ p ∈ n, @LT.lt Nat _ p.1 dx) → @LT.lt Nat _ dx x → ∀ (c : Cx) (R : AV → Led → Prop), (∀ y n', (∀ p ∈ fn x dx y, p ∈ n') → R (.is .none) n') → SS c ⟨scope, d, (slf :: xs) ++ us⟩ R ((slf :: xs).zip (.is (.ref x) :: Vs) ++ uns us) ((x, instObj C dx) :: (dx, dictOf [] 0) :: n) body (fun _ n' => R (.is .none) n')) :
    CC W (d + 2) n C Vs (Addr × Addr × Y) (fun y => (∀ p ∈ n, @LT.lt Nat _ p.1 y.2.1) ∧ @LT.lt Nat _ y.2.1 y.1) (fun y => .is (.ref y.1)) (fun y => fn y.1 y.2.1 y.2.2) := by
  intro vs hvs
  have hcell' : ∀ x ∈ scope.names, x.2 ≠ .cell := fun x hx => of_decide_eq_true (List.all_eq_true.mp hcell x hx)
  refine (Spec.cls (binds := fun x => (slf :: xs).zip (.ref x :: vs)) (Post := fun x dx n' => ∃ y, n' = fn x dx y) hm hi hf ho hcd (fun x => hb _ vs hvs) (fun x => ?_) hco hgen hok.kind hcell' ?_).mono ?_
  · have hv : HasAll (.is (.ref x) :: Vs) (.ref x :: vs) := ⟨rfl, hvs⟩
    exact List.all_eq_true.mpr fun p hp => decide_eq_true (hok.loc p.1 (List.mem_append.mpr (.inl (zip_keys hv p hp)))).1
  · intro x dx l1 l2 dp un gd outer A₀ base g L s B F X' N T hdp hun
    have hv : HasAll (.is (.ref x) :: Vs) (.ref x :: vs) := ⟨rfl, hvs⟩
    have h := H x dx l1 l2 ⟨W, dp, un, gd, qual, L, f, cdv, outer, A₀, base, g⟩ (fun V n' => V = .is .none ∧ ∃ y, ∀ p ∈ fn x dx y, p ∈ n') (fun y n' h => ⟨rfl, y, h⟩) ⟨B, X', T, hdp, hun, hok⟩ s (fun y => ((slf :: xs).zip (.ref x :: vs)).reverse.lookup y) (Back s g L (fun v n' => v = .none ∧ ∃ y, n' = fn x dx y))
      ⟨by rw [List.map_append, uns_keys, List.map_fst_zip (by rw [List.length_cons, List.length_cons, hlen]; exact Nat.le_refl _)], fun p hp => by
        rcases List.mem_append.mp hp with hp | hp
        · exact zip_has (List.nodup_append.mp hok.nod).1 hv p hp
        · exact uns_ok (m := fun y => List.lookup y _) p hp⟩ F N
      (fun l' m' n' h' tk' hK r' F' N' => by
        obtain ⟨_, y, h3⟩ := hK
        exact back_nsub F' N' ⟨rfl, y, rfl⟩ h3)
      (fun V v m' n' h' tk' hR hv F' N' => by
        obtain ⟨h1, y, h3⟩ := hR
        subst h1
        exact back_sub F' N' ⟨hv, y, rfl⟩ h3)
    exact h
  · rintro v n' ⟨x, dx, h1, rfl, y, rfl⟩
    exact ⟨(x, dx, y), h1, rfl, rfl⟩
end
section
variable {c : Cx} {S : Sc} {l l' : Loc} {n : Led} {R : AV → Led → Prop} {K : Loc → Led → Prop} {rest : List Stmt}
/-- self.x = e, the first time -/
theorem SS_attrN {e : Expr} {x y : Str} {ox dx cls : Addr} {ds : List DictEntry} {k : Nat} {V : AV} {p p1 p2 : Pos} {r : Led} {fd : Int → Tok → Value → List DictEntry} (ho : EP c S l ((ox, instObj cls dx) :: (dx, dictOf ds k) :: r) (.Name y p1) (.is (.ref ox))) (he : EP c S l ((ox, instObj cls dx) :: (dx, dictOf ds k) :: r) e V) (hp : plainS e = true) (ga : GA cls x) (hne : ox ≠ dx) (hr : ∀ p ∈ r, p.1 ≠ dx)
    (hl : (getL x ds).isSome = true) (ee : ∀ h t v, (putL x h (.str x t) v ds, putN x ds k) = (fd h t v, k + 1)) (hz : ∀ h t v, (fd h t v).length ≤ 1000)
    (h : ∀ h t v, V.has v → SS c S R l ((ox, instObj cls dx) :: (dx, dictOf (fd h t v) (k + 1)) :: r) rest K) : SS c S R l ((ox, instObj cls dx) :: (dx, dictOf ds k) :: r) (.Assign [.Attribute (.Name y p1) x p2] e p :: rest) K := by
  refine SS_cons (K1 := fun l1 n1 => ∃ h t v, V.has v ∧ l1 = l ∧ n1 = (ox, instObj cls dx) :: (dx, dictOf (fd h t v) (k + 1)) :: r) ?_ (by rintro _ _ ⟨a, t, v, hv, rfl, rfl⟩; exact h a t v hv)
  intro ok s m Q rr F N next ret
  refine plainObj_wpAny_Assign_Attribute ?_ (swap_plain hp)
  refine he ok s m _ rr F N (fun v n' h' tk' hp F' N' => ?_)
  obtain ⟨hv, rfl⟩ := hp
  refine ho ok _ m _ rr F' N' (fun v1 n2 h2 tk2 hp F2 N2 => ?_)
  obtain ⟨rfl, rfl⟩ := hp
  exact set_dict F2 ok.X N2 (InstAt.of_news N2 (.head _) (.tail _ (.head _))) rfl (ga.set _) (ga.over _) (ga.take _) (ga.dict _) hl (ee _ _ _) (.tail hne (.head hr)) (hz _ _ _) (fun h3 F3 N3 => next _ _ _ h3 _ ⟨_, _, v, hv, rfl, rfl⟩ rr F3 N3)
end
theorem ga_tline : GA 237 (Str.ofString "line") := by constructor <;> (intro P; k_is)
theorem ga_isb : GA 237 (Str.ofString "is_behind_line") := by constructor <;> (intro P; k_is)
theorem ga_start : GA 237 (Str.ofString "start") := by constructor <;> (intro P; k_is)
structure TkX where
  J : TokId
  t1 : Tok
  t2 : Tok
  t3 : Tok
  t4 : Tok
  t5 : Tok
noncomputable abbrev TkX.at (y : TkX) (x dx : Addr) : TokId := ⟨x, dx, y.J.h1, y.J.h2, y.J.h3, y.J.h4, y.J.h5, y.J.h6, y.J.h7, y.J.h8, y.J.k1, y.J.k2, y.J.k3, y.J.k4, y.J.k5, y.J.k6, y.J.k7, y.J.k8⟩
noncomputable def FreshT (J : TokId) (n : Led) : Prop := J.t ≠ J.dt ∧ ∀ q ∈ n, @LT.lt Nat _ q.1 J.dt ∧ @LT.lt Nat _ q.1 J.t
theorem token_i {W : Wd} {n : Led} {k v : Str} {ln a b : Int} {isb : Value} : CC W 3 n 237 [.str k, .str v, .int ln, .is isb, .int a, .int b] (Addr × Addr × TkX) (fun y => (∀ p ∈ n, @LT.lt Nat _ p.1 y.2.1) ∧ @LT.lt Nat _ y.2.1 y.1) (fun y => .is (.ref y.1)) (fun y => tokL (y.2.2.at y.1 y.2.1) (.str k y.2.2.t1) (.str v y.2.2.t2) (.int ln y.2.2.t3) isb (.int a y.2.2.t4) (.int b y.2.2.t5) (.bool false) (.bool true) n) := by
  refine cls_core (slf := Str.ofString "self") (xs := [Str.ofString "kind", Str.ofString "value", Str.ofString "line", Str.ofString "is_behind_line", Str.ofString "start", Str.ofString "end"]) (us := []) (fn := fun x dx (y : TkX) => tokL (y.at x dx) (.str k y.t1) (.str v y.t2) (.int ln y.t3) isb (.int a y.t4) (.int b y.t5) (.bool false) (.bool true) n) (by k_is) (by k_is) (by k_is) (by k_is) (by k_is) (Mine.ok_of ?hok) rfl ?hb rfl rfl ?e3 ?H
  case hb =>
    intro v0 vs h
    obtain ⟨v1, vs, rfl, -, g1⟩ := has_cons h
    obtain ⟨v2, vs, rfl, -, g2⟩ := has_cons g1
    obtain ⟨v3, vs, rfl, -, g3⟩ := has_cons g2
    obtain ⟨v4, vs, rfl, -, g4⟩ := has_cons g3
    obtain ⟨v5, vs, rfl, -, g5⟩ := has_cons g4
    obtain ⟨v6, vs, rfl, -, g6⟩ := has_cons g5
    obtain rfl := has_nil g6
    rfl
  iterate 2 kernel_rfl
  intro x dx l1 l2 c R hR
  dsimp only [uns, List.map, List.zip, List.zipWith, List.append, List.cons_append, List.nil_append]
  have hne : x ≠ dx := Nat.ne_of_gt l2
  have hr : ∀ p ∈ n, p.1 ≠ dx := fun p hp => Nat.ne_of_lt (l1 p hp)
  with_reducible refine' SS_attrN (fd := fun h t w => [⟨h, .str (Str.ofString "kind") t, w⟩]) ?a1 ?a2 ?a3 ga_kind hne hr ?a4 ?a5 ?a6 ?_
  case a1 => walk_at "S e"
  case a2 => walk_at "S e"
  case a3 => exact rfl
  case a4 => exact rfl
  case a5 => exact fun _ _ _ => rfl
  case a6 => exact fun _ _ _ => Nat.le_of_ble_eq_true rfl
  rintro h1 k1 _ ⟨t1, rfl⟩
  with_reducible refine' SS_attrN (fd := fun h t w => [⟨h1, .str (Str.ofString "kind") k1, .str k t1⟩, ⟨h, .str (Str.ofString "value") t, w⟩]) ?b1 ?b2 ?b3 ga_value hne hr ?b4 ?b5 ?b6 ?_
  case b1 => walk_at "S e"
  case b2 => walk_at "S e"
  case b3 => exact rfl
  case b4 => exact rfl
  case b5 => exact fun _ _ _ => rfl
  case b6 => exact fun _ _ _ => Nat.le_of_ble_eq_true rfl
  rintro h2 k2 _ ⟨t2, rfl⟩
  with_reducible refine' SS_attrN (fd := fun h t w => [⟨h1, .str (Str.ofString "kind") k1, .str k t1⟩, ⟨h2, .str (Str.ofString "value") k2, .str v t2⟩, ⟨h, .str (Str.ofString "line") t, w⟩]) ?c1 ?c2 ?c3 ga_tline hne hr ?c4 ?c5 ?c6 ?_
  case c1 => walk_at "S e"
  case c2 => walk_at "S e"
  case c3 => exact rfl
  case c4 => exact rfl
  case c5 => exact fun _ _ _ => rfl
  case c6 => exact fun _ _ _ => Nat.le_of_ble_eq_true rfl
  rintro h3 k3 _ ⟨t3, rfl⟩
  with_reducible refine' SS_attrN (fd := fun h t w => [⟨h1, .str (Str.ofString "kind") k1, .str k t1⟩, ⟨h2, .str (Str.ofString "value") k2, .str v t2⟩, ⟨h3, .str (Str.ofString "line") k3, .int ln t3⟩, ⟨h, .str (Str.ofString "is_behind_line") t, w⟩]) ?d1 ?d2 ?d3 ga_isb hne hr ?d4 ?d5 ?d6 ?_
  case d1 => walk_at "S e"
  case d2 => walk_at "S e"
  case d3 => exact rfl
  case d4 => exact rfl
  case d5 => exact fun _ _ _ => rfl
  case d6 => exact fun _ _ _ => Nat.le_of_ble_eq_true rfl
  intro h4 k4 w4 hv4
  have hw4 : isb = w4 := hv4.symm
  subst hw4
  clear hv4
  with_reducible refine' SS_attrN (fd := fun h t w => [⟨h1, .str (Str.ofString "kind") k1, .str k t1⟩, ⟨h2, .str (Str.ofString "value") k2, .str v t2⟩, ⟨h3, .str (Str.ofString "line") k3, .int ln t3⟩, ⟨h4, .str (Str.ofString "is_behind_line") k4, isb⟩, ⟨h, .str (Str.ofString "start") t, w⟩]) ?ze1 ?ze2 ?ze3 ga_start hne hr ?ze4 ?ze5 ?ze6 ?_
  case ze1 => walk_at "S e"
  case ze2 => walk_at "S e"
  case ze3 => exact rfl
  case ze4 => exact rfl
  case ze5 => exact fun _ _ _ => rfl
  case ze6 => exact fun _ _ _ => Nat.le_of_ble_eq_true rfl
  rintro h5 k5 _ ⟨t4, rfl⟩
  with_reducible refine' SS_attrN (fd := fun h t w => [⟨h1, .str (Str.ofString "kind") k1, .str k t1⟩, ⟨h2, .str (Str.ofString "value") k2, .str v t2⟩, ⟨h3, .str (Str.ofString "line") k3, .int ln t3⟩, ⟨h4, .str (Str.ofString "is_behind_line") k4, isb⟩, ⟨h5, .str (Str.ofString "start") k5, .int a t4⟩, ⟨h, .str (Str.ofString "end") t, w⟩]) ?f1 ?f2 ?f3 ga_end hne hr ?f4 ?f5 ?f6 ?_
  case f1 => walk_at "S e"
  case f2 => walk_at "S e"
  case f3 => exact rfl
  case f4 => exact rfl
  case f5 => exact fun _ _ _ => rfl
  case f6 => exact fun _ _ _ => Nat.le_of_ble_eq_true rfl
  rintro h6 k6 _ ⟨t5, rfl⟩
  with_reducible refine' SS_attrN (fd := fun h t w => [⟨h1, .str (Str.ofString "kind") k1, .str k t1⟩, ⟨h2, .str (Str.ofString "value") k2, .str v t2⟩, ⟨h3, .str (Str.ofString "line") k3, .int ln t3⟩, ⟨h4, .str (Str.ofString "is_behind_line") k4, isb⟩, ⟨h5, .str (Str.ofString "start") k5, .int a t4⟩, ⟨h6, .str (Str.ofString "end") k6, .int b t5⟩, ⟨h, .str (Str.ofString "is_octal") t, w⟩]) ?g1 ?g2 ?g3 ga_octal hne hr ?g4 ?g5 ?g6 ?_
  case g1 => walk_at "S e"
  case g2 => walk_at "S e"
  case g3 => exact rfl
  case g4 => exact rfl
  case g5 => exact fun _ _ _ => rfl
  case g6 => exact fun _ _ _ => Nat.le_of_ble_eq_true rfl
  intro h7 k7 w7 hv7
  have hw7 : .bool false = w7 := hv7.symm
  subst hw7
  clear hv7
  with_reducible refine' SS_attrN (fd := fun h t w => [⟨h1, .str (Str.ofString "kind") k1, .str k t1⟩, ⟨h2, .str (Str.ofString "value") k2, .str v t2⟩, ⟨h3, .str (Str.ofString "line") k3, .int ln t3⟩, ⟨h4, .str (Str.ofString "is_behind_line") k4, isb⟩, ⟨h5, .str (Str.ofString "start") k5, .int a t4⟩, ⟨h6, .str (Str.ofString "end") k6, .int b t5⟩, ⟨h7, .str (Str.ofString "is_octal") k7, .bool false⟩, ⟨h, .str (Str.ofString "is_plain") t, w⟩]) ?h1 ?h2 ?h3 ga_plain hne hr ?h4 ?h5 ?h6 ?_
  case h1 => walk_at "S e"
  case h2 => walk_at "S e"
  case h3 => exact rfl
  case h4 => exact rfl
  case h5 => exact fun _ _ _ => rfl
  case h6 => exact fun _ _ _ => Nat.le_of_ble_eq_true rfl
  intro h8 k8 w8 hv8
  have hw8 : .bool true = w8 := hv8.symm
  subst hw8
  clear hv8
  walk_at "S n"
  exact hR ⟨⟨x, dx, h1, h2, h3, h4, h5, h6, h7, h8, k1, k2, k3, k4, k5, k6, k7, k8⟩, t1, t2, t3, t4, t5⟩ _ (fun _ h => h)
theorem token_c {W : Wd} {n : Led} {k v : Str} {ln a b : Int} {isb : Value} : CC W 3 n 237 [.str k, .str v, .int ln, .is isb, .int a, .int b] TkX (fun x => FreshT x.J n) (fun x => .is (.ref x.J.t)) (fun x => tokL x.J (.str k x.t1) (.str v x.t2) (.int ln x.t3) isb (.int a x.t4) (.int b x.t5) (.bool false) (.bool true) n) := by
  intro vs hvs
  refine (token_i vs hvs).mono ?_
  rintro v' n' ⟨⟨x, dx, y⟩, ⟨h1, h2⟩, h3, rfl⟩
  exact ⟨⟨y.at x dx, y.t1, y.t2, y.t3, y.t4, y.t5⟩, ⟨Nat.ne_of_gt h2, fun q hq => ⟨h1 q hq, Nat.lt_trans (h1 q hq) h2⟩⟩, h3, rfl⟩
theorem gf_token : GF (Str.ofString "Token") 237 := ⟨fun P => by k_is, fun P => by k_is, by decide +kernel⟩
structure LxX where
  h1 : Int
  h2 : Int
  h3 : Int
  k1 : Tok
  k2 : Tok
  k3 : Tok
  tT : Tok
  ta : Tok
  tl : Tok
theorem lexer_i {W : Wd} {n : Led} {T : Str} : CC W 3 n 418 [.str T] (Addr × Addr × LxX) (fun y => (∀ p ∈ n, @LT.lt Nat _ p.1 y.2.1) ∧ @LT.lt Nat _ y.2.1 y.1) (fun y => .is (.ref y.1)) (fun y => lexL ⟨y.1, y.2.1, y.2.2.h1, y.2.2.h2, y.2.2.h3, y.2.2.k1, y.2.2.k2, y.2.2.k3, y.2.2.tT, T⟩ 0 1 y.2.2.ta y.2.2.tl n) := by
  refine cls_core (slf := Str.ofString "self") (xs := [Str.ofString "text"]) (us := []) (fn := fun x dx (y : LxX) => lexL ⟨x, dx, y.h1, y.h2, y.h3, y.k1, y.k2, y.k3, y.tT, T⟩ 0 1 y.ta y.tl n) (by k_is) (by k_is) (by k_is) (by k_is) (by k_is) (Mine.ok_of ?hok) rfl ?hb rfl rfl ?e3 ?H
  case hb =>
    intro v0 vs h
    obtain ⟨v1, vs, rfl, -, g1⟩ := has_cons h
    obtain rfl := has_nil g1
    rfl
  iterate 2 kernel_rfl
  intro x dx l1 l2 c R hR
  dsimp only [uns, List.map, List.zip, List.zipWith, List.append, List.cons_append, List.nil_append]
  have hne : x ≠ dx := Nat.ne_of_gt l2
  have hr : ∀ p ∈ n, p.1 ≠ dx := fun p hp => Nat.ne_of_lt (l1 p hp)
  with_reducible refine' SS_attrN (fd := fun h t w => [⟨h, .str (Str.ofString "text") t, w⟩]) ?a1 ?a2 ?a3 ga_text hne hr ?a4 ?a5 ?a6 ?_
  case a1 => walk_at "S e"
  case a2 => walk_at "S e"
  case a3 => exact rfl
  case a4 => exact rfl
  case a5 => exact fun _ _ _ => rfl
  case a6 => exact fun _ _ _ => Nat.le_of_ble_eq_true rfl
  rintro h1 k1 _ ⟨t1, rfl⟩
  with_reducible refine' SS_attrN (fd := fun h t w => [⟨h1, .str (Str.ofString "text") k1, .str T t1⟩, ⟨h, .str (Str.ofString "at") t, w⟩]) ?b1 ?b2 ?b3 ga_at hne hr ?b4 ?b5 ?b6 ?_
  case b1 => walk_at "S e"
  case b2 => walk_at "S e"
  case b3 => exact rfl
  case b4 => exact rfl
  case b5 => exact fun _ _ _ => rfl
  case b6 => exact fun _ _ _ => Nat.le_of_ble_eq_true rfl
  rintro h2 k2 _ ⟨t2, rfl⟩
  with_reducible refine' SS_attrN (fd := fun h t w => [⟨h1, .str (Str.ofString "text") k1, .str T t1⟩, ⟨h2, .str (Str.ofString "at") k2, .int 0 t2⟩, ⟨h, .str (Str.ofString "line") t, w⟩]) ?c1 ?c2 ?c3 ga_line hne hr ?c4 ?c5 ?c6 ?_
  case c1 => walk_at "S e"
  case c2 => walk_at "S e"
  case c3 => exact rfl
  case c4 => exact rfl
  case c5 => exact fun _ _ _ => rfl
  case c6 => exact fun _ _ _ => Nat.le_of_ble_eq_true rfl
  rintro h3 k3 _ ⟨t3, rfl⟩
  walk_at "S n"
  exact hR ⟨h1, h2, h3, k1, k2, k3, t1, t2, t3⟩ _ (fun _ h => h)
theorem lexer_c {W : Wd} {n : Led} {T : Str} : CC W 3 n 418 [.str T] (LexId × Tok × Tok) (fun x => x.1.T = T ∧ x.1.x ≠ x.1.dx ∧ ∀ q ∈ n, @LT.lt Nat _ q.1 x.1.dx ∧ @LT.lt Nat _ q.1 x.1.x) (fun x => .is (.ref x.1.x)) (fun x => lexL x.1 0 1 x.2.1 x.2.2 n) := by
  intro vs hvs
  refine (lexer_i vs hvs).mono ?_
  rintro v' n' ⟨⟨x, dx, y⟩, ⟨h1, h2⟩, h3, rfl⟩
  exact ⟨(⟨x, dx, y.h1, y.h2, y.h3, y.k1, y.k2, y.k3, y.tT, T⟩, y.ta, y.tl), ⟨rfl, Nat.ne_of_gt h2, fun q hq => ⟨h1 q hq, Nat.lt_trans (h1 q hq) h2⟩⟩, h3, rfl⟩
theorem gf_lexer : GF (Str.ofString "Lexer") 418 := ⟨fun P => by k_is, fun P => by k_is, by decide +kernel⟩
theorem keys_at {P : Params} {h : Heap} (X : (hpK P).In h) : ∃ vs : List Value, h.IsList 219 vs.toArray ∧ StrsAre vs KEYS := by
  refine ⟨_, ⟨_, X 219 _ (by k_is), rfl, _, rfl⟩, ?_⟩
  unfold KEYS
  repeat (first | exact StrsAre.nil | refine StrsAre.cons _ _ ?_)
theorem gr_keywords : GR (Str.ofString "KEYWORDS") 219 := ⟨fun P => by k_is, by decide +kernel⟩
theorem gr_puncts : GR (Str.ofString "PUNCTS") 220 := ⟨fun P => by k_is, by decide +kernel⟩
theorem any_conS {L : List Str} {i : Str} : (L.any fun z => z == i) = L.contains i := by
  rw [List.contains_eq_any_beq]
  exact congrArg (List.any L) (funext fun z => Bool.beq_comm)
theorem is_keyword_c {W : Wd} {n : Led} {x : Str} : CP W 2 n 248 [.str x] (.is (.bool (KEYS.contains x))) := by
  refine CP.of (fn1 (x1 := Str.ofString "word") (us := []) (by k_is) (by k_is) (Mine.ok_of ?hok) (fun _ => rfl) rfl rfl ?e3 ?H)
  walk_at "S fn"
  rename_i c R hR
  with_reducible refine' SS_ret (EP_inGS ?a1 gr_keywords ?a2 (fun _ X => keys_at X)) ?a3
  case a1 => walk_at "S e"
  case a2 => kernel_rfl
  case a3 => exact hR () _ _ trivial (congrArg (fun b => AV.is (.bool b)) any_conS) (fun _ h => h)
theorem punct_at_c {W : Wd} {n : Led} {T x : Str} {i : Int} (hT : T.length ≤ 1000000) (hi : 0 ≤ i) (hi1 : i ≤ T.length) (hF : PUN.find? (fun y => sw y.cps.toList (suf T i)) = some x) : CP W 2 n 255 [.str T, .int i] (.str x) := by
  refine CP.of (fn2 (x1 := Str.ofString "text") (x2 := Str.ofString "at") (us := [Str.ofString "punct"]) (by k_is) (by k_is) (Mine.ok_of ?hok) (fun _ _ => rfl) rfl rfl ?e3 ?H)
  walk_at "S fn"
  rename_i c R hR
  refine SS_ok fun ok => ?_
  obtain ⟨vs, hvs, hSA⟩ := puns_at ok.X
  have hlen := StrsAre.length hSA
  with_reducible refine' SS_forK (l0 := [(Str.ofString "text", .str T), (Str.ofString "at", .int i), (Str.ofString "punct", .un)]) (lI := fun j => [(Str.ofString "text", .str T), (Str.ofString "at", .int i), (Str.ofString "punct", .str (PUN.getD j ⟨#[]⟩))]) (I := fun j => (PUN.take j).find? (fun y => sw y.cps.toList (suf T i)) = none) (EP_gr gr_puncts ?a1) (fun _ => hvs) ?a2 ?a3 ?a4 ?a5 ?a6 ?a7
  case a1 => kernel_rfl
  case a2 => exact fun _ => rfl
  case a3 => rfl
  case a4 => exact LeR.refl _
  case a5 =>
    intro j v n' s m Q ok hv r F N ret
    obtain ⟨y, ty, rfl, hy⟩ := StrsAre.item hSA j v hv
    have e : PUN.getD j ⟨#[]⟩ = y := by rw [List.getD_eq_getElem?_getD, hy]; rfl
    rw [e] at ret
    exact as_name (V := .str y) ok (.tl (.tl .hd)) ⟨ty, rfl⟩ r F N ret
  case a6 =>
    intro j io hj hP K' hK'
    have hj2 : j < PUN.length := hlen ▸ hj
    have e : PUN.getD j ⟨#[]⟩ = PUN[j] := by rw [List.getD_eq_getElem?_getD, List.getElem?_eq_getElem hj2]; rfl
    rw [e]
    walk_at "S s"
    · intro h3
      rw [sw3 hi hi1] at h3
      have h4 := find_at hP (List.getElem?_eq_getElem hj2) h3
      rw [hF] at h4
      cases h4
      walk_at "S s"
      exact hR () _ _ trivial rfl (fun _ h => .tail _ h)
    · intro h3
      rw [sw3 hi hi1] at h3
      walk_at "S n"
      exact hK' _ _ (find_on hP (List.getElem?_eq_getElem hj2) h3) (.same (.same (.un .nil))) (fun _ h => h)
  case a7 =>
    intro hP
    have hl2 : vs.length = PUN.length := hlen
    rw [hl2, List.take_length, hF] at hP
    cases hP
theorem gf_punct_at : GF (Str.ofString "punct_at") 255 := ⟨fun P => by k_is, fun P => by k_is, by decide +kernel⟩
theorem gf_is_keyword : GF (Str.ofString "is_keyword") 248 := ⟨fun P => by k_is, fun P => by k_is, by decide +kernel⟩
end Mine
namespace Mine
theorem end_line_c {W : Wd} {I : LexId} {pos ln : Int} {ta tl : Tok} {rest : Led} (hA : lexA I rest) (hT : I.T.length ≤ 1000000) (h0 : 0 ≤ pos) :
    CC W 4 (lexL I pos ln ta tl rest) 310 [.is (.ref I.x)] (Tok × Tok) (fun _ => True) (fun _ => .is .none) (fun t => lexL I (pos + lineEndSize I.T pos) (ln + 1) t.1 t.2 rest) := by
  refine fn1 (x1 := Str.ofString "self") (us := []) (by k_is) (by k_is) (Mine.ok_of ?hok) (fun _ => rfl) rfl rfl ?e3 ?H
  walk_at "S fn"
  rename_i c R hR
  walk_at "S s"
  walk_at "S s"
  walk_at "S s"
  exact hR (_, _) _ _ trivial rfl (fun _ h => h)
theorem gl_end_line : GL (Str.ofString "end_line") 310 := ⟨by constructor <;> (intro P; k_is), fun _ _ _ _ _ _ _ _ _ => rfl⟩
theorem skip_digits_c {W : Wd} {I : LexId} {pos ln : Int} {ta tl : Tok} {rest : Led} (hA : lexA I rest) (hT : I.T.length ≤ 1000000) (h0 : 0 ≤ pos) :
    CC W 4 (lexL I pos ln ta tl rest) 345 [.is (.ref I.x)] Tok (fun _ => True) (fun _ => .str ⟨((suf I.T pos).takeWhile fun (c : Nat) => isDigit c).toArray⟩) (fun t => lexL I (pos + digs (suf I.T pos)) ln t tl rest) := by
  refine fn1 (x1 := Str.ofString "self") (us := [Str.ofString "start"]) (by k_is) (by k_is) (Mine.ok_of ?hok) (fun _ => rfl) rfl rfl ?e3 ?H
  walk_at "S fn"
  rename_i c R hR
  walk_at "S s"
  refine SS_while (σ := Int × Tok) (fun _ => [(Str.ofString "self", .is (.ref I.x)), (Str.ofString "start", .int pos)]) (fun c => lexL I c.1 ln c.2 tl rest) (fun c => pos ≤ c.1 ∧ c.1 + digs (suf I.T c.1) = pos + digs (suf I.T pos)) (fun c => (suf I.T c.1).length) (pos, ta) ⟨Int.le_refl _, rfl⟩ (LeR.refl _) (fun _ h => h) ?_
  rintro ⟨i, ti⟩ ⟨hi, he⟩ K' hK'
  dsimp only at hi he ⊢
  refine ⟨_, _, by walk_at "S t", ?_, ?_⟩
  · intro h1
    walk_at "S s"
    walk_at "S s"
    rw [codeAt_suf (by omega)] at h1
    have h2 := digs_yes h1
    have h3 := suf_succ (T := I.T) (i := i) (by omega)
    refine hK' (i + 1, _) _ _ ?_ ?_ (LeR.refl _) (fun _ h => h)
    · dsimp only
      rw [h3]
      omega
    · dsimp only
      rw [h3, List.length_tail]
      omega
  · intro h1
    walk_at "S s"
    rw [codeAt_suf (by omega)] at h1
    have h2 := digs_no h1
    have h3 : i = pos + digs (suf I.T pos) := by omega
    subst h3
    exact hR ti _ _ trivial (congrArg AV.str (slice_digs h0)) (fun _ h => h)
theorem gl_skip_digits : GL (Str.ofString "skip_digits") 345 := ⟨by constructor <;> (intro P; k_is), fun _ _ _ _ _ _ _ _ _ => rfl⟩
end Mine
namespace Mine
theorem lt_of_sw {T y : Str} {i : Int} {b : Bool} (h0 : 0 ≤ i) (h1 : i ≤ T.length) (h : Txt.startswith3 T y i = b) : sw y.cps.toList (suf T i) = b := (sw3 h0 h1).symm.trans h
theorem skip_comment_c {W : Wd} {I : LexId} {pos ln : Int} {ta tl : Tok} {rest : Led} {k n : Nat} (hA : lexA I rest) (hT : I.T.length ≤ 1000000) (h0 : 0 ≤ pos) (hp : pos + 2 ≤ I.T.length) (hC : Cmt (suf I.T (pos + 2)) k n) :
    CC W 5 (lexL I pos ln ta tl rest) 324 [.is (.ref I.x)] (Tok × Tok) (fun _ => True) (fun _ => .is .none) (fun t => lexL I (pos + 2 + k) (ln + n) t.1 t.2 rest) := by
  refine fn1 (x1 := Str.ofString "self") (us := []) (by k_is) (by k_is) (Mine.ok_of ?hok) (fun _ => rfl) rfl rfl ?e3 ?H
  walk_at "S fn"
  rename_i c R hR
  walk_at "S s"
  refine SS_while (σ := Int × Tok × Int × Tok) (fun _ => [(Str.ofString "self", .is (.ref I.x))]) (fun c => lexL I c.1 c.2.2.1 c.2.1 c.2.2.2 rest) (fun c => ∃ k' n' : Nat, Cmt (suf I.T c.1) k' n' ∧ c.1 + k' = pos + 2 + k ∧ c.2.2.1 + n' = ln + n ∧ 0 ≤ c.1 ∧ c.1 ≤ I.T.length) (fun c => (suf I.T c.1).length) (pos + 2, _, ln, tl) ⟨k, n, hC, rfl, rfl, by dsimp only; omega, hp⟩ (LeR.refl _) (fun _ h => h) ?_
  rintro ⟨i, ti, l, tl2⟩ ⟨k', n', hC', hk', hn', hi0, hi1⟩ K' hK'
  dsimp only at hC' hk' hn' hi0 hi1 ⊢
  have hl := suf_length (T := I.T) hi0
  have hc1 := codeAt_suf (T := I.T) hi0
  refine ⟨_, _, by walk_at "S t", ?_, ?_⟩
  · intro h2
    replace h2 := lt_of_sw hi0 hi1 h2
    walk_at "S s"
    · intro h1
      have h3 := hC'.pos
      omega
    · intro _
      walk_at "S s"
      · intro h1
        rw [hc1] at h1
        obtain ⟨k2, n2, rfl, rfl, h3⟩ := hC'.onLine h1
        have h4 := leS_le h1
        refine SS_expr (EC_meth0 (by walk_at "S e") gl_end_line (end_line_c hA hT hi0) rfl rfl) rfl ?_
        intro t _
        walk_at "S s"
        walk_at "S s"
        refine hK' (i + lineEndSize I.T i, _, l + 1, _) _ _ ?_ ?_ (LeR.refl _) (fun _ h => h)
        · dsimp only
          rw [leS_suf hi0, suf_add hi0]
          exact ⟨k2, n2, h3, by omega, by omega, by omega, by omega⟩
        · dsimp only
          rw [leS_suf hi0, suf_add hi0, List.length_drop]
          omega
      · intro h1
        rw [hc1] at h1
        obtain ⟨k2, rfl, h3⟩ := hC'.onOther h1 h2
        have h4 := hC'.pos
        walk_at "S s"
        walk_at "S s"
        walk_at "S s"
        refine hK' (i + 1, _, l, _) _ _ ?_ ?_ (LeR.refl _) (fun _ h => h)
        · dsimp only
          rw [suf_succ hi0]
          exact ⟨k2, n', h3, by omega, by omega, by omega, by omega⟩
        · dsimp only
          rw [suf_succ hi0, List.length_tail]
          omega
  · intro h2
    obtain ⟨rfl, rfl⟩ := hC'.sw_yes (lt_of_sw hi0 hi1 h2)
    walk_at "S s"
    walk_at "S s"
    have e1 : i + 2 = pos + 2 + k := by omega
    have e2 : l = ln + n := by omega
    subst e2
    rw [e1]
    exact hR (_, _) _ _ trivial rfl (fun _ h => h)
theorem gl_skip_comment : GL (Str.ofString "skip_comment") 324 := ⟨by constructor <;> (intro P; k_is), fun _ _ _ _ _ _ _ _ _ => rfl⟩
theorem TT_true {c : Cx} {S : Sc} {l : Loc} {n : Led} {k : Nat} {p : Pos} : TT c S l n (.Constant (.bool true) k p) True False := TT_weak (TT_bool EP_boo rfl) (fun _ => trivial) nofun
theorem skip_blanks_c {W : Wd} {I : LexId} {pos ln : Int} {ta tl : Tok} {rest : Led} {k n : Nat} (hA : lexA I rest) (hT : I.T.length ≤ 1000000) (h0 : 0 ≤ pos) (hp : pos ≤ I.T.length) (hS : Skip (suf I.T pos) k n) :
    CC W 6 (lexL I pos ln ta tl rest) 317 [.is (.ref I.x)] (Tok × Tok) (fun _ => True) (fun _ => .is (.bool (decide (0 < n)))) (fun t => lexL I (pos + k) (ln + n) t.1 t.2 rest) := by
  refine fn1 (x1 := Str.ofString "self") (us := [Str.ofString "line", Str.ofString "code"]) (by k_is) (by k_is) (Mine.ok_of ?hok) (fun _ => rfl) rfl rfl ?e3 ?H
  walk_at "S fn"
  rename_i c R hR
  walk_at "S s"
  refine SS_while (σ := Int × Tok × Int × Tok) (fun _ => [(Str.ofString "self", .is (.ref I.x)), (Str.ofString "line", .int ln), (Str.ofString "code", .un)]) (fun c => lexL I c.1 c.2.2.1 c.2.1 c.2.2.2 rest) (fun c => ∃ k' n' : Nat, Skip (suf I.T c.1) k' n' ∧ c.1 + k' = pos + k ∧ c.2.2.1 + n' = ln + n ∧ 0 ≤ c.1 ∧ c.1 ≤ I.T.length) (fun c => (suf I.T c.1).length) (pos, ta, ln, tl) ⟨k, n, hS, rfl, rfl, h0, hp⟩ (LeR.refl _) (fun _ h => h) ?_
  rintro ⟨i, ti, l, tl2⟩ ⟨k', n', hS', hk', hn', hi0, hi1⟩ K' hK'
  dsimp only at hS' hk' hn' hi0 hi1 ⊢
  have hlen := suf_length (T := I.T) hi0
  have hcs := codeAt_suf (T := I.T) hi0
  have out : ∀ (j : Int) (m : Int) (k2 n2 : Nat) (t1 t2 : Tok) (V : AV), i < j → j ≤ I.T.length → j + k2 = pos + k → m + n2 = ln + n → Skip (suf I.T j) k2 n2 → K' [(Str.ofString "self", .is (.ref I.x)), (Str.ofString "line", .int ln), (Str.ofString "code", V)] (lexL I j m t1 t2 rest) := by
    intro j m k2 n2 t1 t2 V a b c d e
    refine hK' (j, t1, m, t2) _ _ ⟨k2, n2, e, c, d, by dsimp only; omega, b⟩ ?_ (.same (.same (.un .nil))) (fun _ h => h)
    have := suf_length (T := I.T) (i := j) (by omega)
    dsimp only
    omega
  refine ⟨_, _, TT_true, ?_, nofun⟩
  intro _
  walk_at "S s"
  walk_at "S s"
  · intro h1
    rw [hcs] at h1
    obtain ⟨k2, n2, rfl, rfl, h3⟩ := hS'.onLine h1
    have h4 := leS_le h1
    refine SS_expr (EC_meth0 (by walk_at "S e") gl_end_line (end_line_c hA hT hi0) rfl rfl) rfl ?_
    intro t _
    walk_at "S n"
    have e := leS_suf (T := I.T) hi0
    rw [e]
    exact out _ _ k2 n2 _ _ _ (by omega) (by omega) (by omega) (by omega) (by rw [suf_add hi0]; exact h3)
  intro h1
  rw [hcs] at h1
  walk_at "S s"
  · intro h2
    rw [hcs] at h2
    obtain ⟨k2, rfl, h3⟩ := hS'.onWhite h1 h2
    have h4 : 0 < (suf I.T i).length := by
      cases hl : suf I.T i with
      | nil => rw [hl] at h2; exact absurd h2 (by decide)
      | cons c r => simp
    walk_at "S s"
    walk_at "S n"
    exact out _ _ k2 n' _ _ _ (by omega) (by omega) (by omega) (by omega) (by rw [suf_succ hi0]; exact h3)
  intro h2
  rw [hcs] at h2
  walk_at "S s"
  · intro h3
    replace h3 := lt_of_sw hi0 hi1 h3
    obtain ⟨k2, rfl, h4⟩ := hS'.onSlashes h1 h2 h3
    have h5 : 0 < (suf I.T i).length := by have := sw_len h3; omega
    have h6 := toEnd_yes h5 h1
    have h7 := toEnd_le (suf I.T i)
    refine SS_while (σ := Int × Tok) (fun _ => [(Str.ofString "self", .is (.ref I.x)), (Str.ofString "line", .int ln), (Str.ofString "code", .un)]) (fun c => lexL I c.1 l c.2 tl2 rest) (fun c => 0 ≤ c.1 ∧ c.1 ≤ I.T.length ∧ c.1 + toEnd (suf I.T c.1) = i + toEnd (suf I.T i)) (fun c => (suf I.T c.1).length) (i, ti) ⟨hi0, hi1, rfl⟩ (.same (.same (.un .nil))) (fun _ h => h) ?_
    rintro ⟨j, tj⟩ ⟨hj0, hj1, hj⟩ K2 hK2
    dsimp only at hj0 hj1 hj ⊢
    have hlenj := suf_length (T := I.T) hj0
    have hcj := codeAt_suf (T := I.T) hj0
    refine ⟨_, _, by walk_at "S t", ?_, ?_⟩
    · rintro ⟨g1, g2⟩
      rw [hcj] at g2
      have g3 := toEnd_yes (by omega) g2
      have g4 := suf_succ (T := I.T) hj0
      walk_at "S s"
      walk_at "S s"
      refine hK2 (j + 1, _) _ _ ?_ ?_ (LeR.refl _) (fun _ h => h)
      · dsimp only
        rw [g4]
        omega
      · dsimp only
        rw [g4, List.length_tail]
        omega
    · intro g
      have g3 : toEnd (suf I.T j) = 0 := by
        rcases g with g | ⟨_, g⟩
        · exact toEnd_no (.inl (by omega))
        · exact toEnd_no (.inr (hcj ▸ g))
      have e : j = i + toEnd (suf I.T i) := by omega
      subst e
      walk_at "S n"
      exact out _ _ k2 n' _ _ _ (by omega) (by omega) (by omega) (by omega) (by rw [suf_add hi0]; exact h4)
  intro h3
  replace h3 := lt_of_sw hi0 hi1 h3
  walk_at "S s"
  · intro h4
    replace h4 := lt_of_sw hi0 hi1 h4
    obtain ⟨j, m, k2, n2, rfl, rfl, h5, h6⟩ := hS'.onBlock h1 h2 h3 h4
    have h7 := sw_len h4
    have h8 := h5.len
    rw [List.length_drop] at h8
    have h9 : i + 2 ≤ I.T.length := by omega
    have h5' : Cmt (suf I.T (i + 2)) j m := by
      have := suf_add (T := I.T) hi0 2
      rw [show i + ((2 : Nat) : Int) = i + 2 from rfl] at this
      rw [this]; exact h5
    refine SS_expr (EC_meth0 (by walk_at "S e") gl_skip_comment (skip_comment_c hA hT hi0 h9 h5') rfl rfl) rfl ?_
    intro t _
    walk_at "S n"
    have e : i + 2 + (j : Int) = i + ((2 + j : Nat) : Int) := by omega
    exact out _ _ k2 n2 _ _ _ (by omega) (by omega) (by omega) (by omega) (by rw [e, suf_add hi0]; exact h6)
  intro h4
  replace h4 := lt_of_sw hi0 hi1 h4
  obtain ⟨rfl, rfl⟩ := hS'.onStop h1 h2 h3 h4
  have e1 : i = pos + k := by omega
  have e2 : l = ln + n := by omega
  subst e1
  subst e2
  walk_at "S s"
  refine hR (_, _) _ _ trivial (congrArg (fun b => AV.is (.bool b)) ?_) (fun _ h => h)
  rw [decide_eq_decide]; omega
end Mine
namespace Mine
noncomputable abbrev nsv (o : Option (Int × Nat)) (a : Addr) : Value := match o with
  | none => .none
  | some _ => .ref a
noncomputable abbrev nsl (o : Option (Int × Nat)) (x : Addr × List Value) : Led := match o with
  | none => []
  | some _ => [(x.1, tupO x.2)]
noncomputable abbrev nsP (o : Option (Int × Nat)) (pos : Int) (n : Led) (x : Addr × List Value) : Prop := ∀ q, o = some q → HasAll [.str ⟨#[q.1.toNat]⟩, .int (pos + q.2)] x.2 ∧ ∀ p ∈ n, @LT.lt Nat _ p.1 x.1
section
variable {c : Cx} {S : Sc} {l : Loc} {n : Led}
theorem EP_cls {e e2 : Expr} {first : Bool} {i : Int} {l : Loc} {n : Led} {f : Str} {p p1 p2 p3 p4 p5 : Pos} (hf : EP c S l n (.Name f p) (.is (.bool first))) (he : EP c S l n e (.int i)) (he2 : EP c S l n e2 (.int i)) (hp : plainE e = true) (hp2 : plainE e2 = true) (h1 : S.glob (Str.ofString "is_id_start") = true) (h2 : S.glob (Str.ofString "is_id_part") = true) (hd : Nat.ble 4 S.d = true) :
    EP c S l n (.IfExp (.Name f p) (.Call (.Name (Str.ofString "is_id_start") p1) [e] [] p2) (.Call (.Name (Str.ofString "is_id_part") p3) [e2] [] p4) p5) (.is (.bool (clsOf first i))) := by
  have hd3 : Nat.ble 3 S.d = true := Nat.ble_eq_true_of_le (Nat.le_trans (by decide) (Nat.le_of_ble_eq_true hd))
  refine EP_ifV (TT_bool hf rfl) (fun _ => EP_call gf_is_id_start h1 (EA_cons he hp EA_nil) (by simp [hp]) is_id_start_c hd3) (fun _ => EP_call gf_is_id_part h2 (EA_cons he2 hp2 EA_nil) (by simp [hp2]) is_id_part_c hd) ?_ ?_
  · rintro rfl; rfl
  · rintro rfl; rfl
end
end Mine
local macro_rules | `(tactic| walk_at "S more") => `(tactic| first | ((with_reducible refine' Mine.EP_cls ?f ?a ?b ?pe ?pf ?g1 ?g2 ?d); (case b => walk_at "S e"); (case pf => exact rfl); (case f => walk_at "S e"); (case a => walk_at "S e"); (case g1 => kernel_rfl); (case g2 => kernel_rfl); (case pe => exact rfl); (case d => exact rfl)) | fail "S more")
namespace Mine
theorem name_sign_c {W : Wd} {I : LexId} {pos ln : Int} {ta tl : Tok} {rest : Led} {first : Bool} (hA : lexA I rest) (hT : I.T.length ≤ 1000000) (h0 : 0 ≤ pos) (hc : ∀ c ∈ I.T.cps.toList, c < 1114112)
    (hE : hd1 (suf I.T pos) = 92 → nameSign first (suf I.T pos) ≠ none) :
    CC W 6 (lexL I pos ln ta tl rest) 331 [.is (.ref I.x), .is (.bool first)] (Addr × List Value) (nsP (nameSign first (suf I.T pos)) pos (lexL I pos ln ta tl rest)) (fun x => .is (nsv (nameSign first (suf I.T pos)) x.1)) (fun x => lexL I pos ln ta tl (nsl (nameSign first (suf I.T pos)) x ++ rest)) := by
  refine fn2 (x1 := Str.ofString "self") (x2 := Str.ofString "is_first") (us := [Str.ofString "code", Str.ofString "behind", Str.ofString "is_escape", Str.ofString "is_right"]) (by k_is) (by k_is) (Mine.ok_of ?hok) (fun _ _ => rfl) rfl rfl ?e3 ?H
  walk_at "S fn"
  rename_i c R hR
  have hE' : codeAt I.T pos = 92 → nameSign first (suf I.T pos) ≠ none := fun h => hE ((codeAt_suf h0).symm.trans h)
  have hR0 : nameSign first (suf I.T pos) = none → R (.is .none) (lexL I pos ln ta tl rest) := by
    intro h
    refine hR (0, []) _ _ ?_ ?_ ?_
    · rw [h]; exact nofun
    · rw [h]
    · rw [h]; exact fun _ h => h
  have hR1 : ∀ (ch : Int) (j : Nat) (x : Addr × List Value), nameSign first (suf I.T pos) = some (ch, j) → HasAll [.str ⟨#[ch.toNat]⟩, .int (pos + j)] x.2 → (∀ p ∈ lexL I pos ln ta tl rest, @LT.lt Nat _ p.1 x.1) → R (.is (.ref x.1)) ((x.1, tupO x.2) :: lexL I pos ln ta tl rest) := by
    intro ch j x h h1 h2
    refine hR x _ _ ?_ ?_ ?_
    · rw [h]
      intro q e
      cases e
      exact ⟨h1, h2⟩
    · rw [h]
    · rw [h]
      intro p hp
      cases hp with
      | head => exact .tail _ (.head _)
      | tail _ hp => cases hp with
        | head => exact .tail _ (.tail _ (.head _))
        | tail _ hp => cases hp with
          | head => exact .head _
          | tail _ hp => exact .tail _ (.tail _ (.tail _ hp))
  have h5 : (0 : Int) ≤ pos + 2 := by omega
  have h6 := codeAt_bnd (i := pos) hc
  have h7 := hexAt4 (suf I.T (pos + 2))
  walk_at "S s"
  walk_at "S s"
  · intro e92
    walk_at "S s"
    refine SS_set (V := .int (if codeAt I.T (pos + 1) = 117 then hexAt (suf I.T (pos + 2)) 4 0 else -1)) (EP_ifV (by walk_at "S t") (fun h => by walk_at "S e") (fun h => by walk_at "S e") (fun h => congrArg AV.int (if_pos h)) (fun h => congrArg AV.int (if_neg h))) rfl (by walk_at "S p") ?_
    walk_at "S s"
    walk_at "S n"
    have hns := nameSign_eq (T := I.T) (first := first) h0
    rw [if_pos e92] at hns
    have ex : ∃ cc : Int, (if codeAt I.T (pos + 1) = 117 then hexAt (suf I.T (pos + 2)) 4 0 else -1) = cc ∧ cc < 65536 ∧ nameSign first (suf I.T pos) = if 0 ≤ cc then (if clsOf first cc = true then some (cc, 6) else none) else none := by
      by_cases h : codeAt I.T (pos + 1) = 117
      · rw [if_pos h] at hns ⊢
        exact ⟨_, rfl, h7, hns⟩
      · rw [if_neg h] at hns ⊢
        exact ⟨_, rfl, by decide, hns⟩
    obtain ⟨cc, e, hcc, hns⟩ := ex
    rw [e]
    walk_at "S s"
    have no : (decide (0 ≤ cc) && clsOf first cc) = false → False := by
      intro h
      refine hE' e92 (hns.trans ?_)
      by_cases g : 0 ≤ cc
      · rw [if_pos g]
        rw [decide_eq_true g, Bool.true_and] at h
        rw [if_neg (by rw [h]; decide)]
      · rw [if_neg g]
    walk_at "S s"
    · rintro ⟨_, h⟩
      exact (no h).elim
    · intro _
      refine SS_retR (ER_if (by walk_at "S t") ?_ (fun h => (no h).elim))
      intro h
      rw [Bool.and_eq_true] at h
      have g := of_decide_eq_true h.1
      refine ER_c (EC_tup (by walk_at "S a") rfl) ?_
      rintro x ⟨hx1, hx2⟩
      exact hR1 cc 6 x (by rw [hns, if_pos g, if_pos h.2]) hx1 hx2
  · intro e92
    walk_at "S n"
    have hns := nameSign_eq (T := I.T) (first := first) h0
    rw [if_neg e92] at hns
    walk_at "S s"
    walk_at "S s"
    · rintro ⟨h, _⟩
      cases h
    · intro _
      refine SS_retR (ER_if (by walk_at "S t") ?_ ?_)
      · intro h
        rw [Bool.and_eq_true] at h
        have g := of_decide_eq_true h.1
        refine ER_c (EC_tup (by walk_at "S a") rfl) ?_
        rintro x ⟨hx1, hx2⟩
        exact hR1 _ 1 x (by rw [hns, if_pos g, if_pos h.2]) hx1 hx2
      · intro h
        refine ER_p EP_non (hR0 (hns.trans ?_))
        by_cases g : 0 ≤ codeAt I.T pos
        · rw [if_pos g]
          rw [decide_eq_true g, Bool.true_and] at h
          rw [if_neg (by rw [h]; decide)]
        · rw [if_neg g]
theorem gl_name_sign : GL (Str.ofString "name_sign") 331 := ⟨by constructor <;> (intro P; k_is), fun _ _ _ _ _ _ _ _ _ => rfl⟩
end Mine
namespace Mine
structure NT2 where
  f : Bool
  done : List Nat
  cs : List Nat
  k : Nat
  q : Bool
  its : List Value
  ep : Nat
  i : Int
  ti : Tok
  p : Bool
  o : Option (Int × Nat)
  y : Addr × List Value
theorem nsA {I : LexId} {J : TokId} {lf : Addr} {ob : Obj} {rest n : Led} {o : Option (Int × Nat)} {pos : Int} {y : Addr × List Value} (hA : tokA I J ((lf, ob) :: rest)) (hP : nsP o pos n y) (hn : ∀ a ∈ (I.x :: I.dx :: J.t :: J.dt :: lf :: rest.map Prod.fst), ∃ p ∈ n, p.1 = a) : tokA I J ((lf, ob) :: (nsl o y ++ rest)) := by
  cases o with
  | none => exact hA
  | some q =>
    refine nod_ins (pre := [I.x, I.dx, J.t, J.dt, lf]) hA fun a ha => ?_
    obtain ⟨p, hp, rfl⟩ := hn a ha
    exact (hP q rfl).2 p hp
theorem mem_adr {n : Led} {a : Addr} (h : a ∈ n.map Prod.fst) : ∃ p ∈ n, p.1 = a := List.mem_map.mp h
theorem read_name_c {W : Wd} {I : LexId} {J : TokId} {pos ln : Int} {ta tl : Tok} {rest : Led} {kind value line isb start fin oct : Value} {cs : List Nat} {k : Nat} {p : Bool}
    (hA : tokA I J rest) (hT : I.T.length ≤ 1000000) (h0 : 0 ≤ pos) (hc : ∀ c ∈ I.T.cps.toList, c < 1114112) (hN : NameRun true (suf I.T pos) cs k p) (hcs : cs.length ≤ 1000) :
    CC W 8 (lexL I pos ln ta tl (tokL J kind value line isb start fin oct (.bool true) rest)) 338 [.is (.ref I.x), .is (.ref J.t)] (Tok × Tok × Tok) (fun _ => True) (fun _ => .is .none)
      (fun t => lexL I (pos + k) ln t.1 tl (tokL J (.str (if KEYS.contains ⟨cs.toArray⟩ then Str.ofString "keyword" else Str.ofString "name") t.2.1) (.str ⟨cs.toArray⟩ t.2.2) line isb start fin oct (.bool p) rest)) := by
  refine fn2 (x1 := Str.ofString "self") (x2 := Str.ofString "token") (us := [Str.ofString "found", Str.ofString "told"]) (by k_is) (by k_is) (Mine.ok_of ?hok) (fun _ _ => rfl) rfl rfl ?e3 ?H
  walk_at "S fn"
  rename_i c R hR
  refine' SS_tupC EC_list0 (fun y hy => EC_sub (n2 := lexL I pos ln ta tl (tokL J kind value line isb start fin oct (.bool true) ((y, PySem.W.listOf #[] 0) :: rest))) ?cs (EC_weak (fn' := fun x => lexL I pos ln ta tl (tokL J kind value line isb start fin oct (.bool true) ((y, PySem.W.listOf #[] 0) :: (nsl (nameSign true (suf I.T pos)) x ++ rest)))) (EC_meth (by walk_at "S e") gl_name_sign (by walk_at "S a") rfl (name_sign_c (first := true) ?cA hT h0 hc hN.esc) rfl rfl) ?cw)) rfl rfl (fun _ _ => ?s2) (fun _ _ => ?s1) rfl ?hw ?_
  case hw => kernel_rfl
  case s2 => walk_at "S p"
  case s1 => walk_at "S p"
  case cs => exact mem_rot4
  case cw => exact fun _ => mem_rotm
  case cA =>
    refine nod_ins (pre := [I.x, I.dx, J.t, J.dt]) hA fun a ha => ?_
    obtain ⟨p, hp, rfl⟩ := mem_adr (n := lexL I pos ln ta tl (tokL J kind value line isb start fin oct (.bool true) rest)) ha
    exact hy p hp
  intro lf y hy1 hy2
  have hA1 : tokA I J ((lf, PySem.W.listOf #[] 0) :: rest) := nod_ins (pre := [I.x, I.dx, J.t, J.dt]) hA fun a ha => by
    obtain ⟨p, hp, rfl⟩ := mem_adr (n := lexL I pos ln ta tl (tokL J kind value line isb start fin oct (.bool true) rest)) ha
    exact hy1 p hp
  have hA2 := nsA hA1 hy2 (fun a ha => mem_adr (n := lexL I pos ln ta tl (tokL J kind value line isb start fin oct (.bool true) ((lf, PySem.W.listOf #[] 0) :: rest))) ha)
  refine SS_while (σ := NT2) (fun x => [(Str.ofString "self", .is (.ref I.x)), (Str.ofString "token", .is (.ref J.t)), (Str.ofString "found", .is (.ref lf)), (Str.ofString "told", .is (nsv x.o x.y.1))])
    (fun x => lexL I x.i ln x.ti tl (tokL J kind value line isb start fin oct (.bool x.p) ((lf, PySem.W.listOf x.its.toArray x.ep) :: (nsl x.o x.y ++ rest))))
    (fun x => ∀ C : Prop, (NameRun x.f (suf I.T x.i) x.cs x.k x.q → nameSign x.f (suf I.T x.i) = x.o → x.done ++ x.cs = cs → x.i + x.k = pos + k → (x.p && x.q) = p → 0 ≤ x.i → HasAll (x.done.map fun c => AV.str ⟨#[c]⟩) x.its → (∀ q, x.o = some q → HasAll [.str ⟨#[q.1.toNat]⟩, .int (x.i + q.2)] x.y.2) → tokA I J ((lf, PySem.W.listOf #[] 0) :: (nsl x.o x.y ++ rest)) → C) → C)
    (fun x => x.cs.length) ⟨true, [], cs, k, p, [], 0, pos, ta, true, nameSign true (suf I.T pos), y⟩ (fun C k => k hN rfl rfl rfl rfl h0 trivial (fun q e => (hy2 q e).1) hA2) (LeR.refl _) (fun _ h => h) ?_
  rintro ⟨f, done, cs1, k1, q1, its, ep, i, ti, p1, o, yy⟩ hI K' hK'
  refine hI _ ?_
  clear hI
  intro g1 g2 g3 g4 g5 g6 g7 g8 g9
  dsimp only at g1 g2 g3 g4 g5 g6 g7 g8 g9 ⊢
  clear hA2 hy1 hy2 hN y
  refine ⟨_, _, by walk_at "S t", ?_, ?_⟩
  · cases o with
    | none => exact fun h => absurd rfl h
    | some o =>
      intro _
      obtain ⟨ch, j⟩ := o
      obtain ⟨cs2, k2, q2, rfl, rfl, rfl, g10⟩ := g1.yes g2
      have g11 := g8 _ rfl
      dsimp only at g11 g9
      rw [← suf_add g6] at g10
      dsimp only [nsl, nsv, List.cons_append, List.nil_append] at g9 ⊢
      refine SS_ifj (ι := Bool) (fun _ => [(Str.ofString "self", .is (.ref I.x)), (Str.ofString "token", .is (.ref J.t)), (Str.ofString "found", .is (.ref lf)), (Str.ofString "told", .is (.ref yy.1))]) (fun b => lexL I i ln ti tl (tokL J kind value line isb start fin oct (.bool b) ((lf, PySem.W.listOf its.toArray ep) :: (yy.1, tupO yy.2) :: rest))) (fun b => b = (p1 && decide (j ≤ 1)))
        (TT_gt (EP_titem (by walk_at "S e") EP_int (.tail _ (.tail _ (.tail _ (.tail _ (.tail _ (.head _)))))) g11 rfl (by decide) (by decide) rfl (fun _ => rfl)) (by walk_at "S e")) ?_ ?_ ?_
      · intro h
        walk_at "S s"
        walk_at "S n"
        exact ⟨false, by rw [decide_eq_false (by omega), Bool.and_false], rfl, rfl⟩
      · intro h
        walk_at "S n"
        exact ⟨p1, by rw [decide_eq_true (by omega), Bool.and_true], rfl, rfl⟩
      intro b hb
      have hlen : its.length ≤ 1000 := by
        have h1 := g7.len
        rw [List.length_map] at h1
        have h2 := congrArg List.length g3
        rw [List.length_append] at h2
        omega
      refine SS_append (fn := fun v => lexL I i ln ti tl (tokL J kind value line isb start fin oct (.bool b) ((lf, PySem.W.listOf (its ++ [v]).toArray (ep + 1)) :: (yy.1, tupO yy.2) :: rest))) (by walk_at "S e") (EP_titem (by walk_at "S e") EP_int (.tail _ (.tail _ (.tail _ (.tail _ (.tail _ (.head _)))))) g11 rfl (by decide) (by decide) rfl (fun _ => rfl)) rfl (Nat.le_trans hlen (by decide)) (.tail _ (.tail _ (.tail _ (.tail _ (.head _))))) (fun v => upd_of (pre := lexL I i ln ti tl (tokL J kind value line isb start fin oct (.bool b) [])) g9) rfl ?_
      intro v hv
      refine SS_at (by walk_at "S e") (EP_titem (by walk_at "S e") EP_int (.tail _ (.tail _ (.tail _ (.tail _ (.tail _ (.head _)))))) g11 rfl (by decide) (by decide) rfl (fun _ => rfl)) rfl g9 ?_
      intro t
      have hij : 0 ≤ i + (j : Int) := by omega
      refine SS_setC (fl := fun x => [(Str.ofString "self", .is (.ref I.x)), (Str.ofString "token", .is (.ref J.t)), (Str.ofString "found", .is (.ref lf)), (Str.ofString "told", .is (nsv (nameSign false (suf I.T (i + j))) x.1))]) (EC_sub (n2 := lexL I (i + j) ln t tl (tokL J kind value line isb start fin oct (.bool b) ((lf, PySem.W.listOf (its ++ [v]).toArray (ep + 1)) :: rest))) (mem_skip5 (m := [_])) (EC_weak (fn' := fun x => lexL I (i + j) ln t tl (tokL J kind value line isb start fin oct (.bool b) ((lf, PySem.W.listOf (its ++ [v]).toArray (ep + 1)) :: (nsl (nameSign false (suf I.T (i + j))) x ++ rest)))) (EC_meth (by walk_at "S e") gl_name_sign (by walk_at "S a") rfl (name_sign_c (first := false) hA1 hT hij hc g10.esc) rfl rfl) (fun _ => mem_rotm))) rfl (fun _ => by walk_at "S p") ?_
      intro y2 hy2
      walk_at "S n"
      refine hK' ⟨false, done ++ [ch.toNat], cs2, k2, q2, its ++ [v], ep + 1, i + j, t, b, nameSign false (suf I.T (i + j)), y2⟩ _ _ (fun C k => k g10 rfl ((List.append_assoc ..).trans g3) (by dsimp only; omega) (by rw [hb, Bool.and_assoc]; exact g5) hij ?_ (fun q e => (hy2 q e).1) ?_) (Nat.lt_succ_self _) (LeR.refl _) (fun _ h => h)
      · rw [List.map_append]
        exact g7.append ⟨hv, trivial⟩
      · exact nsA hA1 hy2 (fun a ha => mem_adr (n := lexL I (i + j) ln t tl (tokL J kind value line isb start fin oct (.bool b) ((lf, PySem.W.listOf (its ++ [v]).toArray (ep + 1)) :: rest))) ha)
  · cases o with
    | some o => exact nofun
    | none =>
      intro _
      obtain ⟨rfl, rfl, rfl⟩ := g1.no g2
      rw [List.append_nil] at g3
      subst g3
      have e1 : i = pos + k := by omega
      subst e1
      rw [Bool.and_true] at g5
      subst g5
      refine tk_str (by walk_at "S e") rfl hA1 (EP_join (by walk_at "S e") rfl (.tail _ (.tail _ (.tail _ (.tail _ (.head _))))) (show HasAll ((done.map fun c => (⟨#[c]⟩ : Str)).map AV.str) its by rw [List.map_map]; exact g7) rfl (by rw [sum_ones, List.length_map]; omega) rfl) ?_
      intro t1
      rw [join_codes]
      refine tk_kind (x := if KEYS.contains ⟨done.toArray⟩ then Str.ofString "keyword" else Str.ofString "name") (by walk_at "S e") rfl hA1 (EP_ifV (TT_bool (EP_call gf_is_keyword (by kernel_rfl) (EA_cons (EP_tval (V := .str ⟨done.toArray⟩) (by walk_at "S e") ⟨t1, rfl⟩ rfl) rfl EA_nil) rfl is_keyword_c rfl) rfl) (fun _ => EP_str) (fun _ => EP_str) (fun h => by rw [if_pos h]) (fun h => by rw [h]; rfl)) ?_
      intro t2
      walk_at "S n"
      exact hR (_, _, _) _ _ trivial rfl mem_skip4
end Mine
namespace Mine
noncomputable def GH : List Int := [32, 9, 160, 10, 13, 8232, 65279, 8233]
/-- what follows a token: a gap -/
noncomputable def Gapped (r : List Nat) : Prop := hd1 r ∈ GH
structure TokMade (kind : Str) (tv : Tv) (text : Str) (o p : Bool) (m : Nat) : Prop where
  pos : 0 < text.length
  len : text.length ≤ 60
  codes : ∀ c ∈ text.cps.toList, c < 1114112
  run : ∀ r, Gapped r → TokRun (text.cps.toList ++ r) kind tv text.length o p m
  skip : ∀ r, Gapped r → Skip (text.cps.toList ++ r) 0 0
theorem gap_cases {r : List Nat} {P : Int → Prop} (h : Gapped r) (H : ∀ c ∈ GH, P c) : P (hd1 r) := H _ h
theorem hd1_app {t r : List Nat} (h : t ≠ []) : hd1 (t ++ r) = hd1 t := by
  cases t with
  | nil => exact absurd rfl h
  | cons c t => rfl
theorem skip_of {t r : List Nat} (h : t ≠ []) (h1 : isLineEnd (hd1 t) = false) (h2 : isWhite (hd1 t) = false) (h3 : hd1 t ≠ 47) : Skip (t ++ r) 0 0 := by
  have e := hd1_app (r := r) h
  refine .stop (by rw [e]; exact h1) (by rw [e]; exact h2) ?_ ?_
  · rw [sw2, e, decide_eq_false (by exact h3)]; rfl
  · rw [sw2, e, decide_eq_false (by exact h3)]; rfl
theorem hexAt_app : ∀ (n : Nat) (l r : List Nat) (v : Int), n ≤ l.length → hexAt (l ++ r) n v = hexAt l n v
  | 0, l, r, v, _ => by rw [hexAt, hexAt]
  | n + 1, [], r, v, h => absurd h (by simp)
  | n + 1, c :: l, r, v, h => by
    rw [List.cons_append, hexAt, hexAt]
    show (if hexVal (c : Int) < 0 then -1 else hexAt (l ++ r) n _) = (if hexVal (c : Int) < 0 then -1 else hexAt l n _)
    rw [hexAt_app n l r _ (by simpa using h)]
    rfl
noncomputable def nameChk : Nat → Bool → List Nat → Option (List Nat × Bool)
  | 0, _, _ => none
  | _ + 1, f, [] => if f = true then none else some ([], true)
  | n + 1, f, c :: t =>
    if c = 92 then
      (if hd1 t = 117 ∧ 5 ≤ t.length ∧ 0 ≤ hexAt (t.drop 1) 4 0 ∧ clsOf f (hexAt (t.drop 1) 4 0) = true then
        (match nameChk n false (t.drop 5) with
          | some (cs, _) => some ((hexAt (t.drop 1) 4 0).toNat :: cs, false)
          | none => none)
      else none)
    else if clsOf f c = true then
      (match nameChk n false t with
        | some (cs, p) => some (c :: cs, p)
        | none => none)
    else none
theorem gap_name {r : List Nat} (h : Gapped r) : nameSign false r = none ∧ hd1 r ≠ 92 := by
  have key : ∀ c ∈ GH, c ≠ 92 ∧ clsOf false c = false := by decide
  obtain ⟨h1, h2⟩ := gap_cases h key
  refine ⟨?_, h1⟩
  unfold nameSign
  rw [if_neg h1, if_neg (by rw [h2]; rintro ⟨-, q⟩; cases q)]
theorem nameChk_ok : ∀ (n : Nat) (f : Bool) (t r : List Nat) (cs : List Nat) (p : Bool), nameChk n f t = some (cs, p) → Gapped r → NameRun f (t ++ r) cs t.length p
  | 0, f, t, r, cs, p, h, _ => by rw [nameChk] at h; cases h
  | n + 1, f, [], r, cs, p, h, g => by
    rw [nameChk] at h
    cases f with
    | true => simp at h
    | false =>
      simp at h
      obtain ⟨rfl, rfl⟩ := h
      exact .stop (gap_name g).1 (gap_name g).2
  | n + 1, f, c :: t, r, cs, p, h, g => by
    rw [nameChk] at h
    by_cases h1 : c = 92
    · subst h1
      rw [if_pos rfl] at h
      by_cases h2 : hd1 t = 117 ∧ 5 ≤ t.length ∧ 0 ≤ hexAt (t.drop 1) 4 0 ∧ clsOf f (hexAt (t.drop 1) 4 0) = true
      · rw [if_pos h2] at h
        obtain ⟨a1, a2, a3, a4⟩ := h2
        cases hq : nameChk n false (t.drop 5) with
        | none => rw [hq] at h; cases h
        | some q =>
          obtain ⟨cs', p'⟩ := q
          rw [hq] at h
          obtain ⟨rfl, rfl⟩ : _ :: cs' = cs ∧ false = p := by
            have := Option.some.inj h
            exact ⟨congrArg Prod.fst this, congrArg Prod.snd this⟩
          have ih := nameChk_ok n false (t.drop 5) r cs' p' hq g
          have hne : t ≠ [] := by intro e; rw [e] at a2; simp at a2
          have e1 : hd1 (t ++ r) = 117 := by rw [hd1_app hne]; exact a1
          have e2 : hexAt ((92 :: t ++ r).drop 2) 4 0 = hexAt (t.drop 1) 4 0 := by
            have : (92 :: t ++ r).drop 2 = t.drop 1 ++ r := by
              show (t ++ r).drop 1 = _
              rw [List.drop_append_of_le_length (by omega)]
            rw [this, hexAt_app _ _ _ _ (by rw [List.length_drop]; omega)]
          have hs : nameSign f (92 :: t ++ r) = some (hexAt (t.drop 1) 4 0, 6) := by
            unfold nameSign
            show (if ((92 : Nat) : Int) = 92 then _ else _) = _
            rw [if_pos (show ((92 : Nat) : Int) = 92 from rfl)]
            show (let c := if hd1 (t ++ r) = 117 then hexAt ((92 :: t ++ r).drop 2) 4 0 else -1; if 0 ≤ c ∧ clsOf f c = true then some (c, 6) else none) = _
            rw [e1, e2]
            simp only [if_true]
            rw [if_pos ⟨a3, a4⟩]
          have ed : (92 :: t ++ r).drop 6 = t.drop 5 ++ r := by
            show (t ++ r).drop 5 = _
            rw [List.drop_append_of_le_length a2]
          have key := NameRun.step (k := (t.drop 5).length) hs (by rw [ed]; exact ih)
          have el : 6 + (t.drop 5).length = (92 :: t).length := by rw [List.length_drop, List.length_cons]; omega
          rw [el] at key
          exact key
      · rw [if_neg h2] at h; cases h
    · rw [if_neg h1] at h
      by_cases h2 : clsOf f c = true
      · rw [if_pos h2] at h
        cases hq : nameChk n false t with
        | none => rw [hq] at h; cases h
        | some q =>
          obtain ⟨cs', p'⟩ := q
          rw [hq] at h
          obtain ⟨rfl, rfl⟩ : c :: cs' = cs ∧ p' = p := by
            have := Option.some.inj h
            exact ⟨congrArg Prod.fst this, congrArg Prod.snd this⟩
          have ih := nameChk_ok n false t r cs' p' hq g
          have hs : nameSign f (c :: t ++ r) = some ((c : Int), 1) := by
            unfold nameSign
            show (if ((c : Nat) : Int) = 92 then _ else if 0 ≤ ((c : Nat) : Int) ∧ clsOf f ((c : Nat) : Int) = true then some (((c : Nat) : Int), 1) else none) = _
            rw [if_neg (by omega), if_pos ⟨by omega, h2⟩]
          have key := NameRun.step (k := t.length) (p := p') hs (by exact ih)
          have el : 1 + t.length = (c :: t).length := by rw [List.length_cons]; omega
          rw [el] at key
          have e3 : (decide (1 ≤ 1) && p') = p' := by simp
          rw [e3] at key
          exact key
      · rw [if_neg h2] at h; cases h
theorem name_made {x t : Str} {p : Bool} (h : nameChk 30 true t.cps.toList = some (x.cps.toList, p)) (h0 : 0 < t.length) (h1 : t.length ≤ 60) (h2 : ∀ c ∈ t.cps.toList, c < 1114112) (h3 : isIdStart (hd1 t.cps.toList) = true ∨ hd1 t.cps.toList = 92) (h4 : isLineEnd (hd1 t.cps.toList) = false ∧ isWhite (hd1 t.cps.toList) = false ∧ hd1 t.cps.toList ≠ 47 ∧ 0 ≤ hd1 t.cps.toList) (h5 : x.length ≤ 1000) :
    TokMade (if KEYS.contains x then Str.ofString "keyword" else Str.ofString "name") (.s x) t false p 0 := by
  have hne : t.cps.toList ≠ [] := by
    intro e
    have : t.length = t.cps.toList.length := by show t.cps.size = _; simp
    rw [e] at this; simp at this; omega
  have hl : t.length = t.cps.toList.length := by show t.cps.size = _; simp
  have hx : (⟨x.cps.toList.toArray⟩ : Str) = x := by cases x; simp
  refine ⟨h0, h1, h2, fun r g => ?_, fun r g => skip_of hne h4.1 h4.2.1 h4.2.2.1⟩
  have key := TokRun.name (l := t.cps.toList ++ r) (by rw [hd1_app hne]; exact h3) (nameChk_ok 30 true _ r _ _ h g) (by
    have : x.length = x.cps.toList.length := by show x.cps.size = _; simp
    omega) (by rw [hd1_app hne]; exact h4.2.2.2)
  rw [hx] at key
  rw [hl]
  exact key
end Mine
namespace Mine
noncomputable def NT : List (List Nat × Int × Bool) := [([48, 120, 48, 48, 48, 48, 48, 48], 0, false), ([48, 88, 48, 48, 48, 48, 48, 48], 0, false), ([48, 53], 4617315517961601024, true), ([48, 46, 53], 4602678819172646912, false), ([48, 101, 50], 0, false), ([48, 69, 43, 50], 0, false), ([48, 46, 101, 50], 0, false), ([48, 46, 48, 101, 48, 50], 0, false), ([48, 46], 0, false), ([48], 0, false), ([48, 120, 48, 48, 48, 48, 48, 49], 4607182418800017408, false), ([48, 88, 48, 48, 48, 48, 48, 49], 4607182418800017408, false), ([48, 49, 53], 4623507967449235456, true), ([49, 46, 53], 4609434218613702656, false), ([49, 101, 50], 4636737291354636288, false), ([49, 69, 43, 50], 4636737291354636288, false), ([49, 46, 101, 50], 4636737291354636288, false), ([49, 46, 48, 101, 48, 50], 4636737291354636288, false), ([49, 46], 4607182418800017408, false), ([49], 4607182418800017408, false), ([48, 120, 48, 48, 48, 48, 48, 55], 4619567317775286272, false), ([48, 88, 48, 48, 48, 48, 48, 55], 4619567317775286272, false), ([48, 55, 53], 4633781804099174400, true), ([55, 46, 53], 4620130267728707584, false), ([55, 101, 50], 4649368480934526976, false), ([55, 69, 43, 50], 4649368480934526976, false), ([55, 46, 101, 50], 4649368480934526976, false), ([55, 46, 48, 101, 48, 50], 4649368480934526976, false), ([55, 46], 4619567317775286272, false), ([55], 4619567317775286272, false), ([48, 120, 48, 48, 48, 48, 48, 97], 4621819117588971520, false), ([48, 88, 48, 48, 48, 48, 48, 97], 4621819117588971520, false), ([48, 49, 50, 53], 4635681760191971328, true), ([49, 48, 46, 53], 4622100592565682176, false), ([49, 48, 101, 50], 4652007308841189376, false), ([49, 48, 69, 43, 50], 4652007308841189376, false), ([49, 48, 46, 101, 50], 4652007308841189376, false), ([49, 48, 46, 48, 101, 48, 50], 4652007308841189376, false), ([49, 48, 46], 4621819117588971520, false), ([49, 48], 4621819117588971520, false), ([48, 120, 48, 48, 48, 48, 102, 102], 4643176031446892544, false), ([48, 88, 48, 48, 48, 48, 102, 102], 4643176031446892544, false), ([48, 55, 55, 53], 4647662038888218624, true), ([50, 53, 53, 46, 53], 4643193623632936960, false), ([50, 53, 53, 101, 50], 4672738600582905856, false), ([50, 53, 53, 69, 43, 50], 4672738600582905856, false), ([50, 53, 53, 46, 101, 50], 4672738600582905856, false), ([50, 53, 53, 46, 48, 101, 48, 50], 4672738600582905856, false), ([50, 53, 53, 46], 4643176031446892544, false), ([50, 53, 53], 4643176031446892544, false), ([48, 120, 48, 102, 52, 50, 52, 51], 4696837172454490112, false), ([48, 88, 48, 102, 52, 50, 52, 51], 4696837172454490112, false), ([48, 51, 53], 4628855992006737920, true), ([49, 48, 48, 48, 48, 48, 51, 46, 53], 4696837176749457408, false), ([49, 48, 48, 48, 48, 48, 51, 101, 50], 4726483316016939008, false), ([49, 48, 48, 48, 48, 48, 51, 69, 43, 50], 4726483316016939008, false), ([49, 48, 48, 48, 48, 48, 51, 46, 101, 50], 4726483316016939008, false), ([49, 48, 48, 48, 48, 48, 51, 46, 48, 101, 48, 50], 4726483316016939008, false), ([49, 48, 48, 48, 48, 48, 51, 46], 4696837172454490112, false), ([49, 48, 48, 48, 48, 48, 51], 4696837172454490112, false), ([46, 50, 53], 4598175219545276416, false), ([46, 50, 53, 101, 48], 4598175219545276416, false), ([50, 53, 69, 45, 50], 4598175219545276416, false), ([48, 46, 48, 48, 50, 53, 101, 43, 50], 4598175219545276416, false)]
noncomputable def GHN : List Nat := [32, 9, 160, 10, 13, 8232, 65279, 8233]
noncomputable def figOkB (l : List Nat) : Bool := Nat.ble 1 (digs l) && (decide ((l.takeWhile fun (c : Nat) => isDigit c).dropWhile (fun c => decide (c = 48)) = []) || decide ((l.takeWhile fun (c : Nat) => isDigit c).dropWhile (fun c => decide (c = 48)) = [50]))
noncomputable def expOkB (l : List Nat) : Bool := if hd1 l = 69 ∨ hd1 l = 101 then figOkB (if hd1 l.tail = 45 ∨ hd1 l.tail = 43 then l.drop 2 else l.tail) else true
noncomputable def numOkB (l : List Nat) : Bool :=
  (if isHexNum l then Nat.ble 1 (hxn (l.drop 2)) && Nat.ble (hxn (l.drop 2)) 8 else if isOctNum l then Nat.ble (ocn l) 8
   else expOkB (behindDec l) && Nat.ble (decRun l).2.1.length 8 && decide (-4 ≤ (decRun l).2.2) && decide ((decRun l).2.2 ≤ 3)) &&
  (!isDigit (hd1 (l.drop (numRun l).1)) && !isIdStart (hd1 (l.drop (numRun l).1)) && !decide (hd1 (l.drop (numRun l).1) = 92))
theorem figOkB_ok {l : List Nat} (h : figOkB l = true) : figOk l := by
  unfold figOkB at h
  simp only [Bool.and_eq_true, Bool.or_eq_true, decide_eq_true_eq] at h
  exact ⟨Nat.le_of_ble_eq_true h.1, h.2⟩
theorem expOkB_ok {l : List Nat} (h : expOkB l = true) : expOk l := by
  intro he
  unfold expOkB at h
  rw [if_pos he] at h
  exact figOkB_ok h
theorem numOkB_ok {l : List Nat} (h : numOkB l = true) : NumOk l := by
  unfold numOkB at h
  rw [Bool.and_eq_true] at h
  obtain ⟨h1, h2⟩ := h
  simp only [Bool.and_eq_true, Bool.not_eq_true', decide_eq_false_iff_not] at h2
  refine ⟨?_, h2.1.1, h2.1.2, h2.2⟩
  by_cases g1 : isHexNum l
  · rw [if_pos g1] at h1 ⊢
    rw [Bool.and_eq_true] at h1
    exact ⟨Nat.le_of_ble_eq_true h1.1, Nat.le_of_ble_eq_true h1.2⟩
  · rw [if_neg g1] at h1 ⊢
    by_cases g2 : isOctNum l
    · rw [if_pos g2] at h1 ⊢
      exact Nat.le_of_ble_eq_true h1
    · rw [if_neg g2] at h1 ⊢
      simp only [Bool.and_eq_true, decide_eq_true_eq] at h1
      exact ⟨expOkB_ok h1.1.1.1, Nat.le_of_ble_eq_true h1.1.1.2, h1.1.2, h1.2⟩
noncomputable def numB (l : List Nat) (k : Nat) (v : Int) (o : Bool) : Bool :=
  Nat.beq (numRun l).1 k && (decide ((numRun l).2.1 = v) && ((numRun l).2.2 == o && (numOkB l && (!isIdStart (hd1 l) && (!decide (hd1 l = 92) && (decide (0 ≤ hd1 l) && (if isDigit (hd1 l) = true then true else decide (hd1 l = 46) && isDigit (hd1 l.tail))))))))
theorem numB_run {l : List Nat} {k : Nat} {v : Int} {o : Bool} (h : numB l k v o = true) : TokRun l (Str.ofString "number") (.i v) k o true 0 := by
  unfold numB at h
  simp only [Bool.and_eq_true, Bool.not_eq_true', decide_eq_true_eq, decide_eq_false_iff_not, beq_iff_eq] at h
  obtain ⟨h1, h2, h3, h4, h5, h6, h7, h8⟩ := h
  have h1 := Nat.eq_of_beq_eq_true h1
  have key := TokRun.num (l := l) h5 h6 (by
    cases hd : isDigit (hd1 l) with
    | true => exact .inl rfl
    | false =>
      rw [hd, if_neg (by decide)] at h8
      simp only [Bool.and_eq_true, decide_eq_true_eq] at h8
      exact .inr ⟨rfl, h8.1, h8.2⟩) (numOkB_ok h4) h7
  rw [h1, h2, h3] at key
  exact key
theorem nt_all (r : List Nat) : (NT.all fun e => GHN.all fun c => numB (e.1 ++ c :: r) e.1.length e.2.1 e.2.2) = true := by kernel_rfl
theorem gap_split {r : List Nat} (h : Gapped r) : ∃ (c : Nat) (r' : List Nat), r = c :: r' ∧ c ∈ GHN := by
  cases r with
  | nil => exact absurd h (by unfold Gapped; decide)
  | cons c r' =>
    refine ⟨c, r', rfl, ?_⟩
    have h' : (c : Int) ∈ GH := h
    have e : GH = GHN.map (fun x : Nat => (x : Int)) := by decide +kernel
    rw [e] at h'
    obtain ⟨y, hy, e2⟩ := List.mem_map.mp h'
    exact Int.ofNat.inj e2 ▸ hy
theorem num_made {t : Str} {v : Int} {o : Bool} (h : (t.cps.toList, v, o) ∈ NT) : TokMade (Str.ofString "number") (.i v) t o true 0 := by
  have hl : t.length = t.cps.toList.length := by show t.cps.size = _; simp
  have key : ∀ e ∈ NT, 0 < e.1.length ∧ e.1.length ≤ 60 ∧ (∀ c ∈ e.1, c < 1114112) ∧ isLineEnd (hd1 e.1) = false ∧ isWhite (hd1 e.1) = false ∧ hd1 e.1 ≠ 47 := by decide +kernel
  obtain ⟨k1, k2, k3, k4, k5, k6⟩ := key _ h
  dsimp only at k1 k2 k3 k4 k5 k6
  refine ⟨by omega, by omega, k3, fun r g => ?_, fun r g => skip_of (by intro e; rw [e] at k1; cases k1) k4 k5 k6⟩
  obtain ⟨c, r', rfl, hc⟩ := gap_split g
  rw [hl]
  exact numB_run (List.all_eq_true.mp (List.all_eq_true.mp (nt_all r') _ h) c hc)
end Mine
namespace Mine
noncomputable def ST : List (List Nat × List Nat × Bool × Bool × Nat) := [([0], [92, 117, 48, 48, 48, 48], false, false, 0), ([8], [92, 117, 48, 48, 48, 56], false, false, 0), ([9], [92, 117, 48, 48, 48, 57], false, false, 0), ([34], [92, 117, 48, 48, 50, 50], false, false, 0), ([39], [92, 117, 48, 48, 50, 55], false, false, 0), ([65], [92, 117, 48, 48, 52, 49], false, false, 0), ([92], [92, 117, 48, 48, 53, 99], false, false, 0), ([110], [92, 117, 48, 48, 54, 101], false, false, 0), ([255], [92, 117, 48, 48, 102, 102], false, false, 0), ([8232], [92, 117, 50, 48, 50, 56], false, false, 0), ([55296], [92, 117, 100, 56, 48, 48], false, false, 0), ([65535], [92, 117, 102, 102, 102, 102], false, false, 0), ([0], [92, 120, 48, 48], false, false, 0), ([8], [92, 120, 48, 56], false, false, 0), ([9], [92, 120, 48, 57], false, false, 0), ([34], [92, 120, 50, 50], false, false, 0), ([39], [92, 120, 50, 55], false, false, 0), ([65], [92, 120, 52, 49], false, false, 0), ([92], [92, 120, 53, 99], false, false, 0), ([110], [92, 120, 54, 101], false, false, 0), ([255], [92, 120, 102, 102], false, false, 0), ([40], [92, 120, 50, 56], false, false, 0), ([8], [92, 98], false, false, 0), ([9], [92, 116], false, false, 0), ([10], [92, 110], false, false, 0), ([11], [92, 118], false, false, 0), ([12], [92, 102], false, false, 0), ([13], [92, 114], false, false, 0), ([0, 97], [92, 48, 97], false, false, 0), ([39], [92, 39], false, false, 0), ([34], [92, 34], false, false, 0), ([92], [92, 92], false, false, 0), ([113], [92, 113], false, false, 0), ([], [92, 10], false, false, 1), ([], [92, 13, 10], false, false, 1), ([], [92, 8232], false, false, 1), ([], [92, 8233], false, false, 1), ([7, 97], [92, 55, 97], true, false, 0), ([7, 46], [92, 55, 46], true, false, 0), ([7, 45], [92, 55, 45], true, false, 0), ([33, 97], [92, 52, 49, 97], true, false, 0), ([33, 46], [92, 52, 49, 46], true, false, 0), ([33, 45], [92, 52, 49, 45], true, false, 0), ([63, 97], [92, 55, 55, 97], true, false, 0), ([63, 46], [92, 55, 55, 46], true, false, 0), ([63, 45], [92, 55, 55, 45], true, false, 0), ([64, 97], [92, 49, 48, 48, 97], true, false, 0), ([64, 46], [92, 49, 48, 48, 46], true, false, 0), ([64, 45], [92, 49, 48, 48, 45], true, false, 0), ([255, 97], [92, 51, 55, 55, 97], true, false, 0), ([255, 46], [92, 51, 55, 55, 46], true, false, 0), ([255, 45], [92, 51, 55, 55, 45], true, false, 0), ([97], [97], false, true, 0), ([53], [53], false, true, 0), ([47, 47], [47, 47], false, true, 0), ([47, 42], [47, 42], false, true, 0), ([32], [32], false, true, 0), ([9], [9], false, true, 0), ([233], [233], false, true, 0), ([65279], [65279], false, true, 0), ([120], [120], false, true, 0)]
noncomputable def escF (l : List Nat) : Option (List Nat × Nat × Bool) :=
  if isLineEnd (hd1 l) = true then some ([], leS l, false)
  else if hd1 l = 120 then (if 0 ≤ hexAt l.tail 2 0 then some ([(hexAt l.tail 2 0).toNat], 3, false) else none)
  else if hd1 l = 117 then (if 0 ≤ hexAt l.tail 4 0 then some ([(hexAt l.tail 4 0).toNat], 5, false) else none)
  else if hd1 l = 48 ∧ isDigit (hd1 l.tail) = false then some ([0], 1, false)
  else if isOctal (hd1 l) = true then (if (octRun l).2 < octMost l ∧ isDigit (hd1 (l.drop (octRun l).2)) = true then none else some ([(octRun l).1.toNat], (octRun l).2, true))
  else (match l with
    | [] => none
    | c :: _ => match SINGLES.find? (fun e => Nat.beq e.1 c) with
      | some e => some ([e.2], 1, false)
      | none => none)
theorem escF_ok {l cs : List Nat} {j : Nat} {o : Bool} (h : escF l = some (cs, j, o)) : EscRun l cs j o := by
  unfold escF at h
  by_cases h1 : isLineEnd (hd1 l) = true
  · rw [if_pos h1] at h; cases h; exact .line h1
  rw [if_neg h1] at h
  by_cases h2 : hd1 l = 120
  · rw [if_pos h2] at h
    by_cases g : 0 ≤ hexAt l.tail 2 0
    · rw [if_pos g] at h; cases h; exact .hex h2 rfl g
    · rw [if_neg g] at h; cases h
  rw [if_neg h2] at h
  by_cases h3 : hd1 l = 117
  · rw [if_pos h3] at h
    by_cases g : 0 ≤ hexAt l.tail 4 0
    · rw [if_pos g] at h; cases h; exact .uni h3 rfl g
    · rw [if_neg g] at h; cases h
  rw [if_neg h3] at h
  by_cases h4 : hd1 l = 48 ∧ isDigit (hd1 l.tail) = false
  · rw [if_pos h4] at h; cases h; exact .nul h4.1 h4.2
  rw [if_neg h4] at h
  by_cases h5 : isOctal (hd1 l) = true
  · rw [if_pos h5] at h
    by_cases g : (octRun l).2 < octMost l ∧ isDigit (hd1 (l.drop (octRun l).2)) = true
    · rw [if_pos g] at h; cases h
    · rw [if_neg g] at h; cases h; exact .oct h5 h4 rfl g
  rw [if_neg h5] at h
  cases l with
  | nil => cases h
  | cons c r =>
    dsimp only at h
    cases hf : SINGLES.find? (fun e => Nat.beq e.1 c) with
    | none => rw [hf] at h; cases h
    | some e =>
      rw [hf] at h; cases h
      have m := List.mem_of_find?_eq_some hf
      have p := Nat.eq_of_beq_eq_true (List.find?_some (p := fun (e : Nat × Nat) => Nat.beq e.1 c) hf)
      obtain ⟨a, b⟩ := e
      dsimp only at p
      subst p
      exact .one m rfl
noncomputable def tstep (q : Int) (l : List Nat) : Option (List Nat × Nat × Bool × Bool × Nat) :=
  match l with
  | [] => none
  | c :: r =>
    if c = 92 then (match escF r with
      | some (cs, j, o) => some (cs, 1 + j, o, false, if isLineEnd (hd1 r) = true then 1 else 0)
      | none => none)
    else if (c : Int) = q ∨ isLineEnd (c : Int) = true then none else some ([c], 1, false, true, 0)
noncomputable def tgo : Nat → Int → List Nat → Nat → Option (List Nat × Bool × Bool × Nat)
  | _, _, _, 0 => some ([], false, true, 0)
  | 0, _, _, _ + 1 => none
  | n + 1, q, l, k + 1 => match tstep q l with
    | none => none
    | some (cs, j, o, p, m) => if j ≤ k + 1 then (match tgo n q (l.drop j) (k + 1 - j) with
        | none => none
        | some (cs', o', p', m') => some (cs ++ cs', o || o', p && p', m + m')) else none
theorem tgo_ok {q : Int} : ∀ (n : Nat) (l : List Nat) (k : Nat) (cs : List Nat) (o p : Bool) (m : Nat), tgo n q l k = some (cs, o, p, m) → ∀ {cs' : List Nat} {k' : Nat} {o' p' : Bool} {m' : Nat}, TextRun q (l.drop k) cs' k' o' p' m' → TextRun q l (cs ++ cs') (k + k') (o || o') (p && p') (m + m')
  | n, l, 0, cs, o, p, m, h, cs', k', o', p', m', H => by
    rw [tgo] at h
    cases h
    simpa using H
  | 0, l, k + 1, cs, o, p, m, h, cs', k', o', p', m', H => by rw [tgo] at h; cases h
  | n + 1, l, k + 1, cs, o, p, m, h, cs', k', o', p', m', H => by
    rw [tgo] at h
    cases hs : tstep q l with
    | none => rw [hs] at h; cases h
    | some t =>
      obtain ⟨c1, j, o1, p1, m1⟩ := t
      rw [hs] at h
      dsimp only at h
      by_cases hj : j ≤ k + 1
      · rw [if_pos hj] at h
        cases hg : tgo n q (l.drop j) (k + 1 - j) with
        | none => rw [hg] at h; cases h
        | some t2 =>
          obtain ⟨c2, o2, p2, m2⟩ := t2
          rw [hg] at h
          cases h
          have ih := tgo_ok n (l.drop j) (k + 1 - j) c2 o2 p2 m2 hg (cs' := cs') (k' := k') (o' := o') (p' := p') (m' := m') (by
            rw [List.drop_drop]
            have e : j + (k + 1 - j) = k + 1 := by omega
            rw [e]; exact H)
          cases l with
          | nil => cases hs
          | cons c r =>
            dsimp only [tstep] at hs
            by_cases h1 : c = 92
            · rw [if_pos h1] at hs
              cases he : escF r with
              | none => rw [he] at hs; cases hs
              | some e =>
                obtain ⟨ce, je, oe⟩ := e
                rw [he] at hs
                cases hs
                subst h1
                have key := TextRun.esc (q := q) (l := 92 :: r) rfl (escF_ok he) ih
                have e1 : k + 1 + k' = 1 + je + (k + 1 - (1 + je) + k') := by omega
                rw [List.append_assoc, Bool.or_assoc, Bool.false_and, Bool.false_and, e1, Nat.add_assoc _ m2 m']
                exact key
            · rw [if_neg h1] at hs
              by_cases h2 : (c : Int) = q ∨ isLineEnd (c : Int) = true
              · rw [if_pos h2] at hs; cases hs
              · rw [if_neg h2] at hs
                cases hs
                have h3 : isLineEnd (c : Int) = false := by
                  cases hb : isLineEnd (c : Int) with
                  | false => rfl
                  | true => exact absurd (.inr hb) h2
                have key := TextRun.one (q := q) (c := c) (fun e => h2 (.inl e)) (by omega) h3 ih
                have e1 : k + 1 + k' = 1 + (k + 1 - 1 + k') := by omega
                rw [e1, Nat.add_assoc 0, Nat.zero_add]
                simpa using key
      · rw [if_neg hj] at h; cases h
noncomputable def signB (q : Int) (e : List Nat × List Nat × Bool × Bool × Nat) (r : List Nat) : Bool :=
  match tgo 8 q (e.2.1 ++ r) e.2.1.length with
  | some (cs, o, p, m) => decide (cs = e.1) && (o == e.2.2.1 && (p == e.2.2.2.1 && Nat.beq m e.2.2.2.2))
  | none => false
theorem st_all (r : List Nat) : ([34, 39].all fun q => ST.all fun e => signB q e r) = true := by kernel_rfl
structure SignMade (told text : Str) (o p : Bool) (m : Nat) : Prop where
  pos : 0 < text.length
  len : text.length ≤ 6
  tl4 : told.length ≤ 4
  codes : ∀ c ∈ text.cps.toList, c < 1114112
  head : hd1 text.cps.toList ≠ 10
  run : ∀ (q : Int), (q = 34 ∨ q = 39) → ∀ {r cs : List Nat} {k : Nat} {o' p' : Bool} {m' : Nat}, hd1 r ≠ 10 → TextRun q r cs k o' p' m' → TextRun q (text.cps.toList ++ r) (told.cps.toList ++ cs) (text.length + k) (o || o') (p && p') (m + m')
theorem sign_made {told text : Str} {o p : Bool} {m : Nat} (h : (told.cps.toList, text.cps.toList, o, p, m) ∈ ST) : SignMade told text o p m := by
  have hl : text.length = text.cps.toList.length := by show text.cps.size = _; simp
  have hl2 : told.length = told.cps.toList.length := by show told.cps.size = _; simp
  have key : ∀ e ∈ ST, 0 < e.2.1.length ∧ e.2.1.length ≤ 6 ∧ e.1.length ≤ 4 ∧ (∀ c ∈ e.2.1, c < 1114112) ∧ hd1 e.2.1 ≠ 10 := by decide +kernel
  obtain ⟨k1, k2, k3, k4, k5⟩ := key _ h
  dsimp only at k1 k2 k3 k4 k5
  refine ⟨by omega, by omega, by omega, k4, k5, fun q hq r cs k o' p' m' _ H => ?_⟩
  have hb := List.all_eq_true.mp (List.all_eq_true.mp (st_all r) q (by simpa using hq)) _ h
  unfold signB at hb
  dsimp only at hb
  cases hg : tgo 8 q (text.cps.toList ++ r) text.cps.toList.length with
  | none => rw [hg] at hb; cases hb
  | some t =>
    obtain ⟨c1, o1, p1, m1⟩ := t
    rw [hg] at hb
    simp only [Bool.and_eq_true, decide_eq_true_eq, beq_iff_eq] at hb
    obtain ⟨rfl, rfl, rfl, hm⟩ := hb
    have hm := Nat.eq_of_beq_eq_true hm
    subst hm
    rw [hl]
    refine tgo_ok 8 _ _ _ _ _ _ hg ?_
    rw [List.drop_left]
    exact H
theorem sign_cr {told text : Str} (h1 : told.cps.toList = []) (h2 : text.cps.toList = [92, 13]) : SignMade told text false false 1 := by
  have hl : text.length = text.cps.toList.length := by show text.cps.size = _; simp
  have hl2 : told.length = told.cps.toList.length := by show told.cps.size = _; simp
  rw [h2] at hl
  rw [h1] at hl2
  simp only [List.length_cons, List.length_nil] at hl hl2
  refine ⟨by omega, by omega, by omega, by rw [h2]; decide, by rw [h2]; decide, fun q hq r cs k o' p' m' hr H => ?_⟩
  rw [h1, h2, hl]
  have e : leS (13 :: r) = 1 := by
    unfold leS
    rw [if_neg]
    rintro ⟨-, b⟩
    exact hr b
  have key := TextRun.esc (q := q) (l := 92 :: 13 :: r) (es := []) (j := 1) (oe := false) rfl (by
    have := EscRun.line (l := 13 :: r) (by show isLineEnd ((13 : Nat) : Int) = true; decide)
    rw [e] at this; exact this) H
  exact key
end Mine
namespace Mine
noncomputable def GT : List (List Nat × Nat) := [([32], 0), ([9], 0), ([160], 0), ([10], 1), ([13, 10], 1), ([13, 32], 1), ([8232], 1), ([32, 47, 47, 32, 120, 32, 42, 47, 32, 39, 97, 10], 1), ([32, 47, 42, 32, 97, 32, 42, 42, 47], 0), ([32, 47, 42, 32, 47, 47, 32, 10, 13, 32, 42, 47], 2), ([65279, 11, 12, 32], 0), ([8233, 32, 10], 2), ([32, 47, 42, 42, 42, 47, 32], 0)]
noncomputable def PT : List Str := [⟨#[123]⟩, ⟨#[125]⟩, ⟨#[40]⟩, ⟨#[41]⟩, ⟨#[91]⟩, ⟨#[93]⟩, ⟨#[46]⟩, ⟨#[59]⟩, ⟨#[44]⟩, ⟨#[60]⟩, ⟨#[62]⟩, ⟨#[60, 61]⟩, ⟨#[62, 61]⟩, ⟨#[61, 61]⟩, ⟨#[33, 61]⟩, ⟨#[61, 61, 61]⟩, ⟨#[33, 61, 61]⟩, ⟨#[43]⟩, ⟨#[45]⟩, ⟨#[42]⟩, ⟨#[37]⟩, ⟨#[43, 43]⟩, ⟨#[45, 45]⟩, ⟨#[60, 60]⟩, ⟨#[62, 62]⟩, ⟨#[62, 62, 62]⟩, ⟨#[38]⟩, ⟨#[124]⟩, ⟨#[94]⟩, ⟨#[33]⟩, ⟨#[126]⟩, ⟨#[38, 38]⟩, ⟨#[124, 124]⟩, ⟨#[63]⟩, ⟨#[58]⟩, ⟨#[61]⟩, ⟨#[43, 61]⟩, ⟨#[45, 61]⟩, ⟨#[42, 61]⟩, ⟨#[37, 61]⟩, ⟨#[60, 60, 61]⟩, ⟨#[62, 62, 61]⟩, ⟨#[62, 62, 62, 61]⟩, ⟨#[38, 61]⟩, ⟨#[124, 61]⟩, ⟨#[94, 61]⟩, ⟨#[47]⟩, ⟨#[47, 61]⟩]
noncomputable def cmtF : Nat → List Nat → Option (Nat × Nat)
  | 0, _ => none
  | _ + 1, [] => none
  | n + 1, c :: r =>
    if c = 42 ∧ hd1 r = 47 then some (2, 0)
    else if c = 13 ∧ hd1 r = 10 then (match cmtF n r.tail with | some (k, m) => some (k + 2, m + 1) | none => none)
    else (match cmtF n r with
      | some (k, m) => if isLineEnd (c : Int) = true then some (k + 1, m + 1) else some (k + 1, m)
      | none => none)
theorem cmtF_ok : ∀ (n : Nat) (l : List Nat) (k m : Nat), cmtF n l = some (k, m) → Cmt l k m
  | 0, l, k, m, h => by rw [cmtF] at h; cases h
  | n + 1, [], k, m, h => by rw [cmtF] at h; cases h
  | n + 1, c :: r, k, m, h => by
    rw [cmtF] at h
    by_cases h1 : c = 42 ∧ hd1 r = 47
    · rw [if_pos h1] at h
      cases h
      cases r with
      | nil => exact absurd h1.2 (by decide)
      | cons d r =>
        have e2 : d = 47 := Int.ofNat.inj h1.2
        rw [h1.1, e2]
        exact .close
    · rw [if_neg h1] at h
      by_cases h2 : c = 13 ∧ hd1 r = 10
      · rw [if_pos h2] at h
        cases r with
        | nil => exact absurd h2.2 (by decide)
        | cons d r =>
          have e2 : d = 10 := Int.ofNat.inj h2.2
          cases hq : cmtF n (d :: r).tail with
          | none => rw [hq] at h; cases h
          | some t =>
            obtain ⟨k', m'⟩ := t
            rw [hq] at h
            cases h
            rw [h2.1, e2]
            exact .crlf (cmtF_ok n r k' m' hq)
      · rw [if_neg h2] at h
        cases hq : cmtF n r with
        | none => rw [hq] at h; cases h
        | some t =>
          obtain ⟨k', m'⟩ := t
          rw [hq] at h
          dsimp only at h
          by_cases h3 : isLineEnd (c : Int) = true
          · rw [if_pos h3] at h; cases h
            exact .line h3 h2 (cmtF_ok n r k' m' hq)
          · rw [if_neg h3] at h; cases h
            exact .other (by cases hb : isLineEnd (c : Int) with | false => rfl | true => exact absurd hb h3) h1 (cmtF_ok n r _ _ hq)
noncomputable def skF : Nat → List Nat → Nat → Option Nat
  | _, _, 0 => some 0
  | 0, _, _ + 1 => none
  | n + 1, l, k + 1 =>
    if isLineEnd (hd1 l) = true then (if leS l ≤ k + 1 then (match skF n (l.drop (leS l)) (k + 1 - leS l) with | some m => some (m + 1) | none => none) else none)
    else if isWhite (hd1 l) = true then skF n l.tail k
    else if sw [47, 47] l = true then (if toEnd l ≤ k + 1 then skF n (l.drop (toEnd l)) (k + 1 - toEnd l) else none)
    else if sw [47, 42] l = true then (match cmtF 30 (l.drop 2) with
      | some (j, m) => if 2 + j ≤ k + 1 then (match skF n (l.drop (2 + j)) (k + 1 - (2 + j)) with | some m' => some (m + m') | none => none) else none
      | none => none)
    else none
theorem bf {b : Bool} (h : ¬ b = true) : b = false := by cases b with | false => rfl | true => exact absurd rfl h
theorem skF_ok : ∀ (n : Nat) (l : List Nat) (k m : Nat), skF n l k = some m → ∀ {k' m' : Nat}, Skip (l.drop k) k' m' → Skip l (k + k') (m + m')
  | n, l, 0, m, h, k', m', H => by
    rw [skF] at h
    cases h
    simpa using H
  | 0, l, k + 1, m, h, k', m', H => by rw [skF] at h; cases h
  | n + 1, l, k + 1, m, h, k', m', H => by
    rw [skF] at h
    by_cases h1 : isLineEnd (hd1 l) = true
    · rw [if_pos h1] at h
      by_cases g : leS l ≤ k + 1
      · rw [if_pos g] at h
        cases hq : skF n (l.drop (leS l)) (k + 1 - leS l) with
        | none => rw [hq] at h; cases h
        | some m1 =>
          rw [hq] at h; cases h
          have ih := skF_ok n _ _ _ hq (k' := k') (m' := m') (by rw [List.drop_drop]; have e : leS l + (k + 1 - leS l) = k + 1 := by omega
                                                                 rw [e]; exact H)
          have key := Skip.line h1 ih
          have e1 : k + 1 + k' = leS l + (k + 1 - leS l + k') := by omega
          have e2 : m1 + 1 + m' = m1 + m' + 1 := by omega
          rw [e1, e2]; exact key
      · rw [if_neg g] at h; cases h
    · rw [if_neg h1] at h
      have h1 := bf h1
      by_cases h2 : isWhite (hd1 l) = true
      · rw [if_pos h2] at h
        have ih := skF_ok n _ _ _ h (k' := k') (m' := m') (by
          have e : l.tail.drop k = l.drop (k + 1) := by rw [List.drop_tail]
          rw [e]; exact H)
        have key := Skip.white h1 h2 ih
        have e1 : k + 1 + k' = 1 + (k + k') := by omega
        rw [e1]; exact key
      · rw [if_neg h2] at h
        have h2 := bf h2
        by_cases h3 : sw [47, 47] l = true
        · rw [if_pos h3] at h
          by_cases g : toEnd l ≤ k + 1
          · rw [if_pos g] at h
            have ih := skF_ok n _ _ _ h (k' := k') (m' := m') (by rw [List.drop_drop]; have e : toEnd l + (k + 1 - toEnd l) = k + 1 := by omega
                                                                  rw [e]; exact H)
            have key := Skip.slashes h1 h2 h3 ih
            have e1 : k + 1 + k' = toEnd l + (k + 1 - toEnd l + k') := by omega
            rw [e1]; exact key
          · rw [if_neg g] at h; cases h
        · rw [if_neg h3] at h
          have h3 := bf h3
          by_cases h4 : sw [47, 42] l = true
          · rw [if_pos h4] at h
            cases hc : cmtF 30 (l.drop 2) with
            | none => rw [hc] at h; cases h
            | some t =>
              obtain ⟨j, mc⟩ := t
              rw [hc] at h
              dsimp only at h
              by_cases g : 2 + j ≤ k + 1
              · rw [if_pos g] at h
                cases hq : skF n (l.drop (2 + j)) (k + 1 - (2 + j)) with
                | none => rw [hq] at h; cases h
                | some m1 =>
                  rw [hq] at h; cases h
                  have ih := skF_ok n _ _ _ hq (k' := k') (m' := m') (by rw [List.drop_drop]; have e : 2 + j + (k + 1 - (2 + j)) = k + 1 := by omega
                                                                         rw [e]; exact H)
                  have key := Skip.block h1 h2 h3 h4 (cmtF_ok 30 _ _ _ hc) ih
                  have e1 : k + 1 + k' = 2 + j + (k + 1 - (2 + j) + k') := by omega
                  rw [e1, Nat.add_assoc mc m1 m']; exact key
              · rw [if_neg g] at h; cases h
          · rw [if_neg h4] at h; cases h
/-- a gap: what it reads as, whatever follows -/
structure GapMade (gap : Str) (m : Nat) : Prop where
  pos : 0 < gap.length
  len : gap.length ≤ 20
  codes : ∀ c ∈ gap.cps.toList, c < 1114112
  head : Gapped gap.cps.toList
  run : ∀ (r : List Nat) {k' m' : Nat}, Skip r k' m' → Skip (gap.cps.toList ++ r) (gap.length + k') (m + m')
noncomputable def gapB (e : List Nat × Nat) (r : List Nat) : Bool := match skF 20 (e.1 ++ r) e.1.length with | some m => Nat.beq m e.2 | none => false
theorem gt_all (r : List Nat) : (GT.all fun e => gapB e r) = true := by kernel_rfl
theorem gap_made {g : Str} {m : Nat} (h : (g.cps.toList, m) ∈ GT) : GapMade g m := by
  have hl : g.length = g.cps.toList.length := by show g.cps.size = _; simp
  have key : ∀ e ∈ GT, 0 < e.1.length ∧ e.1.length ≤ 20 ∧ (∀ c ∈ e.1, c < 1114112) ∧ hd1 e.1 ∈ GH := by decide +kernel
  obtain ⟨k1, k2, k3, k4⟩ := key _ h
  dsimp only at k1 k2 k3 k4
  refine ⟨by omega, by omega, k3, k4, fun r k' m' H => ?_⟩
  have hb := List.all_eq_true.mp (gt_all r) _ h
  unfold gapB at hb
  dsimp only at hb
  cases hg : skF 20 (g.cps.toList ++ r) g.cps.toList.length with
  | none => rw [hg] at hb; cases hb
  | some m1 =>
    rw [hg] at hb
    have e := Nat.eq_of_beq_eq_true hb
    subst e
    rw [hl]
    exact skF_ok 20 _ _ _ hg (by rw [List.drop_left]; exact H)
noncomputable def punB (x : Str) (l : List Nat) : Bool :=
  (match PUN.find? (fun y => sw y.cps.toList l) with | some y => decide (y = x) | none => false) && (decide (0 ≤ hd1 l) && (!isIdStart (hd1 l) && (!decide (hd1 l = 92) && (!isDigit (hd1 l) && ((if hd1 l = 46 then !isDigit (hd1 l.tail) else true) && (!decide (hd1 l = 34) && (!decide (hd1 l = 39) && (!isLineEnd (hd1 l) && (!isWhite (hd1 l) && (!sw [47, 47] l && !sw [47, 42] l))))))))))
theorem pt_all (r : List Nat) : (PT.all fun x => GHN.all fun c => punB x (x.cps.toList ++ c :: r)) = true := by kernel_rfl
theorem pun_made {x : Str} (h : x ∈ PT) : TokMade (Str.ofString "punct") (.s x) x false true 0 := by
  have key : ∀ e ∈ PT, 0 < e.length ∧ e.length ≤ 4 ∧ (∀ c ∈ e.cps.toList, c < 1114112) := by decide +kernel
  obtain ⟨k1, k2, k3⟩ := key _ h
  have all : ∀ r, Gapped r → TokRun (x.cps.toList ++ r) (Str.ofString "punct") (.s x) x.length false true 0 ∧ Skip (x.cps.toList ++ r) 0 0 := by
    intro r g
    obtain ⟨c, r', rfl, hc⟩ := gap_split g
    have hb := List.all_eq_true.mp (List.all_eq_true.mp (pt_all r') x h) c hc
    unfold punB at hb
    simp only [Bool.and_eq_true, Bool.not_eq_true', decide_eq_true_eq, decide_eq_false_iff_not] at hb
    obtain ⟨b1, b2, b3, b4, b5, b6, b7, b8, b9, b10, b11, b12⟩ := hb
    refine ⟨.punct b2 b3 b4 b5 (fun e => ?_) b7 b8 ?_ k2, .stop b9 b10 b11 b12⟩
    · rw [if_pos e] at b6
      simpa using b6
    · cases hf : PUN.find? (fun y => sw y.cps.toList (x.cps.toList ++ c :: r')) with
      | none => rw [hf] at b1; cases b1
      | some y =>
        rw [hf] at b1
        have e : y = x := of_decide_eq_true b1
        rw [e]
  exact ⟨k1, by omega, k3, fun r g => (all r g).1, fun r g => (all r g).2⟩
end Mine
namespace Mine
structure GapRun (g : List Nat) (gl : Nat) : Prop where
  head : Gapped g
  codes : ∀ c ∈ g, c < 1114112
  run : ∀ (r : List Nat) (k m : Nat), Skip r k m → Skip (g ++ r) (g.length + k) (gl + m)
theorem str_len (x : Str) : x.length = x.cps.toList.length := by show x.cps.size = _; simp
theorem gapped_app {g r : List Nat} (h : Gapped g) : Gapped (g ++ r) := by
  cases g with
  | nil => exact absurd h (by unfold Gapped; decide)
  | cons c g => exact h
theorem gapRun_one {x : Str} {m : Nat} (h : GapMade x m) : GapRun x.cps.toList m :=
  ⟨h.head, h.codes, fun r k m' H => by rw [← str_len]; exact h.run r H⟩
theorem gapRun_snoc {g : List Nat} {gl : Nat} {x : Str} {m : Nat} (G : GapRun g gl) (h : GapMade x m) : GapRun (g ++ x.cps.toList) (gl + m) := by
  refine ⟨gapped_app G.head, fun c hc => ?_, fun r k m' H => ?_⟩
  · rcases List.mem_append.mp hc with hc | hc
    · exact G.codes c hc
    · exact h.codes c hc
  · have h1 := h.run r H
    rw [str_len] at h1
    have h2 := G.run _ _ _ h1
    rw [List.append_assoc, List.length_append, Nat.add_assoc, Nat.add_assoc]
    exact h2
structure Item where
  kind : Str
  tv : Tv
  text : Str
  o : Bool
  p : Bool
  m : Nat
  gap : List Nat
  gl : Nat
noncomputable def Item.Ok (it : Item) : Prop := TokMade it.kind it.tv it.text it.o it.p it.m ∧ GapRun it.gap it.gl
noncomputable def lay : List Item → List Nat
  | [] => []
  | it :: r => it.text.cps.toList ++ (it.gap ++ lay r)
noncomputable def endLine : List Item → Int → Int
  | [], ln => ln
  | it :: r, ln => endLine r (ln + it.m + it.gl)
noncomputable def endHe : List Item → Bool → Bool
  | [], he => he
  | it :: r, _ => endHe r (decide (0 < it.gl))
structure RowV where
  kind : Str
  tv : Tv
  line : Int
  he : Bool
  st : Int
  fin : Int
  o : Bool
  p : Bool
noncomputable def rowsOf : List Item → Int → Int → Bool → List RowV
  | [], _, _, _ => []
  | it :: r, pos, ln, he => ⟨it.kind, it.tv, ln, he, pos, pos + it.text.length, it.o, it.p⟩ :: rowsOf r (pos + it.text.length + it.gap.length) (ln + it.m + it.gl) (decide (0 < it.gl))
theorem lay_snoc : ∀ (its : List Item) (it : Item), lay (its ++ [it]) = lay its ++ (it.text.cps.toList ++ it.gap)
  | [], it => by simp [lay]
  | i :: r, it => by simp only [List.cons_append, lay, lay_snoc r it, List.append_assoc]
theorem endLine_snoc : ∀ (its : List Item) (it : Item) (ln : Int), endLine (its ++ [it]) ln = endLine its ln + it.m + it.gl
  | [], it, ln => rfl
  | i :: r, it, ln => by simp only [List.cons_append, endLine, endLine_snoc r it]
theorem endHe_snoc : ∀ (its : List Item) (it : Item) (he : Bool), endHe (its ++ [it]) he = decide (0 < it.gl)
  | [], it, he => rfl
  | i :: r, it, he => by simp only [List.cons_append, endHe, endHe_snoc r it]
theorem rowsOf_snoc : ∀ (its : List Item) (it : Item) (pos ln : Int) (he : Bool), rowsOf (its ++ [it]) pos ln he = rowsOf its pos ln he ++ [⟨it.kind, it.tv, endLine its ln, endHe its he, pos + (lay its).length, pos + (lay its).length + it.text.length, it.o, it.p⟩]
  | [], it, pos, ln, he => by simp [rowsOf, lay, endLine, endHe]
  | i :: r, it, pos, ln, he => by
    simp only [List.cons_append, rowsOf, rowsOf_snoc r it, endLine, endHe, lay, List.length_append, List.cons.injEq, true_and]
    congr 3
    all_goals (rw [← str_len]; omega)
theorem lay_skip : ∀ {its : List Item}, (∀ it ∈ its, it.Ok) → Skip (lay its) 0 0
  | [], _ => .stop (by decide) (by decide) rfl rfl
  | it :: r, h => (h it (.head _)).1.skip _ (gapped_app (h it (.head _)).2.head)
theorem lay_codes : ∀ {its : List Item}, (∀ it ∈ its, it.Ok) → ∀ c ∈ lay its, c < 1114112
  | [], _, c, h => by cases h
  | it :: r, ok, c, h => by
    rcases List.mem_append.mp h with h | h
    · exact (ok it (.head _)).1.codes c h
    · rcases List.mem_append.mp h with h | h
      · exact (ok it (.head _)).2.codes c h
      · exact lay_codes (fun x hx => ok x (.tail _ hx)) c h
/-- where the reader stands: k signs of gap ahead of it (n ends of lines), then the items rem -/
structure Stands (T : Str) (pos : Int) (k n : Nat) (rem : List Item) : Prop where
  pos0 : 0 ≤ pos
  posk : pos + k ≤ T.length
  skip : Skip (suf T pos) k n
  rest : suf T (pos + k) = lay rem
  ok : ∀ it ∈ rem, it.Ok
theorem stands_init {T : Str} {its : List Item} (h : T.cps.toList = lay its) (ok : ∀ it ∈ its, it.Ok) : Stands T 0 0 0 its := by
  have e : suf T 0 = lay its := by unfold suf; rw [h]; rfl
  exact ⟨Int.le_refl _, by omega, by rw [e]; exact lay_skip ok, e, ok⟩
theorem stands_run {T : Str} {pos : Int} {k n : Nat} {it : Item} {r : List Item} (S : Stands T pos k n (it :: r)) : TokRun (suf T (pos + k)) it.kind it.tv it.text.length it.o it.p it.m := by
  rw [S.rest]
  exact (S.ok it (.head _)).1.run _ (gapped_app (S.ok it (.head _)).2.head)
theorem stands_next {T : Str} {pos : Int} {k n : Nat} {it : Item} {r : List Item} (S : Stands T pos k n (it :: r)) : Stands T (pos + k + it.text.length) it.gap.length it.gl r := by
  have q0 : 0 ≤ pos + k := by have := S.pos0; omega
  have e1 : suf T (pos + k + it.text.length) = it.gap ++ lay r := by
    rw [suf_add q0, S.rest, str_len]
    show List.drop _ (it.text.cps.toList ++ (it.gap ++ lay r)) = _
    rw [List.drop_left]
  have e2 : suf T (pos + k + it.text.length + it.gap.length) = lay r := by
    rw [suf_add (by omega), e1, List.drop_left]
  have hl := suf_length (T := T) q0
  rw [S.rest] at hl
  have hl2 : (lay (it :: r)).length = it.text.length + (it.gap.length + (lay r).length) := by
    rw [str_len]; simp only [lay, List.length_append]
  have hp := S.posk
  refine ⟨by omega, by omega, ?_, e2, fun x hx => S.ok x (.tail _ hx)⟩
  rw [e1]
  have := (S.ok it (.head _)).2.run _ 0 0 (lay_skip fun x hx => S.ok x (.tail _ hx))
  exact this
theorem stands_end {T : Str} {pos : Int} {k n : Nat} (S : Stands T pos k n []) : hd1 (suf T (pos + k)) = -1 ∧ pos + k = T.length := by
  have q0 : 0 ≤ pos + k := by have := S.pos0; omega
  have hl := suf_length (T := T) q0
  rw [S.rest] at hl
  have hp := S.posk
  refine ⟨by rw [S.rest]; rfl, ?_⟩
  have : (lay []).length = 0 := rfl
  omega
end Mine
namespace Mine
theorem boxA_cons {B : BoxId} {b : BoxSt} {rest : Led} {a : Addr} {o : Obj} (h : boxA B rest) (hf : ∀ q ∈ boxL B b rest, @LT.lt Nat _ q.1 a) : boxA B ((a, o) :: rest) := nod_ins (pre := [B.bx, B.il]) h fun x hx => by
  obtain ⟨p, hp, rfl⟩ := mem_adr (n := boxL B b rest) hx
  exact hf p hp
theorem mem_rot2 {a b c : Addr × Obj} {r : Led} : ∀ p ∈ b :: c :: a :: r, p ∈ a :: b :: c :: r := by
  intro p hp
  simp only [List.mem_cons] at hp ⊢
  rcases hp with h | h | h | h <;> simp [h]
theorem mem_skip2 {b c f : Addr × Obj} {r : Led} : ∀ p ∈ b :: c :: r, p ∈ b :: c :: f :: r := by
  intro p hp
  simp only [List.mem_cons] at hp ⊢
  rcases hp with h | h | h <;> simp [h]
theorem HasAll.back {Vs : List AV} {vs : List Value} (h : HasAll Vs vs) {i : Nat} {v : Value} (hi : vs[i]? = some v) : ∃ V ∈ Vs, V.has v := by
  induction Vs generalizing vs i with
  | nil => cases vs with
    | nil => cases hi
    | cons _ _ => exact h.elim
  | cons V Vs ih => cases vs with
    | nil => exact h.elim
    | cons w vs =>
      cases i with
      | zero => cases hi; exact ⟨V, .head _, h.1⟩
      | succ i =>
        obtain ⟨V', a, b⟩ := ih h.2 hi
        exact ⟨V', .tail _ a, b⟩
section
variable {c : Cx} {S : Sc} {l l' : Loc} {n : Led} {R : AV → Led → Prop} {K : Loc → Led → Prop}
variable {B : BoxId} {b : BoxSt} {rest : Led} {y : Str} {p p1 p2 p3 p4 : Pos}
theorem EC_take {e : Expr} {wide : Int} (hk : S.glob (Str.ofString "_law_take") = true) (hb : EP c S l (boxL B b rest) (.Name y p1) (.is (.ref B.bx))) (he : EP c S l (boxL B b rest) e (.int wide)) (hp : plainE e = true) (hA : boxA B rest) (hc : BoxOk b) (h0 : 0 < wide) (h1 : wide ≤ 1000) (hd : Nat.ble 2 S.d = true) :
    EC c S l (boxL B b rest) (.Call (.Name (Str.ofString "_law_take") p) [.Name y p1, e] [] p4) (Int × BoxSt) (fun x => 0 ≤ x.1 ∧ x.1 < wide ∧ BoxOk x.2) (fun x => .int x.1) (fun x => boxL B x.2 rest) :=
  EC_call gf_take hk (EA_cons hb rfl (EA_cons he hp EA_nil)) (by rw [List.all_cons, List.all_cons, hp]; rfl) (take_c hA hc h0 h1) hd
theorem pick_core {Vs : List AV} {vs : List Value} {ch : Addr} {k : Nat} (hA : boxA B ((ch, PySem.W.listOf vs.toArray k) :: rest)) (hc : BoxOk b) (hv : HasAll Vs vs) (h0 : Nat.ble 1 Vs.length = true) (h1 : Nat.ble Vs.length 1000 = true) {W : Wd} :
    Spec W.w W.mg W.mb W.mean 3 (call (.ref 436) [.ref B.bx, .ref ch]) (boxL B b ((ch, PySem.W.listOf vs.toArray k) :: rest)) (fun v n' => ∃ x : AV × BoxSt, (x.1 ∈ Vs ∧ BoxOk x.2) ∧ x.1.has v ∧ n' = boxL B x.2 ((ch, PySem.W.listOf vs.toArray k) :: rest)) := by
  refine (pick_d (W := W) (boxA_ne hA) (boxA_r1 hA) (boxA_r2 hA) hc (.head _) (by rw [hv.len]; exact Nat.le_of_ble_eq_true h0) (by rw [hv.len]; exact Nat.le_of_ble_eq_true h1) [.ref B.bx, .ref ch] ⟨rfl, rfl, trivial⟩).mono fun v n h => ?_
  obtain ⟨⟨v', c'⟩, ⟨⟨i, hi⟩, h2⟩, h3, rfl⟩ := h
  have h3' : v = v' := h3
  subst h3'
  obtain ⟨V, a, d⟩ := hv.back hi
  exact ⟨(V, c'), ⟨a, h2⟩, d, rfl⟩
theorem EC_pick {es : List Expr} {Vs : List AV} (hk : S.glob (Str.ofString "_law_pick") = true) (hb : EP c S l (boxL B b rest) (.Name y p1) (.is (.ref B.bx))) (he : EA c S l (boxL B b rest) p3 es Vs) (hA : boxA B rest) (hc : BoxOk b) (h0 : Nat.ble 1 Vs.length = true) (h1 : Nat.ble Vs.length 1000 = true) (hd : Nat.ble 3 S.d = true) :
    EC c S l (boxL B b rest) (.Call (.Name (Str.ofString "_law_pick") p) [.Name y p1, .List es p3] [] p4) (AV × BoxSt) (fun x => x.1 ∈ Vs ∧ BoxOk x.2) (fun x => x.1) (fun x => boxL B x.2 rest) := by
  intro ok s m Q r F N ret
  refine Call_ ?_
  refine nameX_K F ok.X (topRead_of ok.T) (gf_pick.1 _) ?_ ok.S.kind (Sc.glob_eq hk) gf_pick.2.2
  refine callWith_K ok.X (gf_pick.2.1 _) ?_ rfl rfl
  refine args_cons ?_ rfl
  refine hb ok s m _ r F N (fun v n' h' tk' hq F' N' => ?_)
  obtain ⟨rfl, rfl⟩ := hq
  refine args_cons ?_ rfl
  refine EC_list he h1 ok _ m _ r F' N' (fun v n' h2 tk2 hq F2 N2 => ?_)
  obtain ⟨⟨ch, vs⟩, ⟨hv, hf⟩, rfl, rfl⟩ := hq
  refine args_nil ⟨ok.X.keeps F2.keep, ?_⟩
  refine call_fin (pick_core (boxA_cons hA hf) hc hv h0 h1) hd ok F2 (news_sub N2 mem_rot2) (fun v n' h3 tk3 hp F3 N3 => ?_)
  obtain ⟨x, hx, hv, rfl⟩ := hp
  exact ret v _ h3 tk3 ⟨x, hx, hv, rfl⟩ F3 (news_sub N3 mem_skip2)
theorem EC_pickS {es : List Expr} {L : List Str} (hk : S.glob (Str.ofString "_law_pick") = true) (hb : EP c S l (boxL B b rest) (.Name y p1) (.is (.ref B.bx))) (he : conStrs es = some L) (hA : boxA B rest) (hc : BoxOk b) (h0 : Nat.ble 1 L.length = true) (h1 : Nat.ble L.length 1000 = true) (hd : Nat.ble 3 S.d = true) :
    EC c S l (boxL B b rest) (.Call (.Name (Str.ofString "_law_pick") p) [.Name y p1, .List es p3] [] p4) (Str × BoxSt) (fun x => x.1 ∈ L ∧ BoxOk x.2) (fun x => .str x.1) (fun x => boxL B x.2 rest) := by
  intro ok s m Q r F N ret
  refine EC_pick hk hb (EA_strs he) hA hc (by rw [List.length_map]; exact h0) (by rw [List.length_map]; exact h1) hd ok s m Q r F N (fun v n' h' tk' hp F' N' => ?_)
  obtain ⟨⟨V, b'⟩, ⟨h2, h3⟩, h4, rfl⟩ := hp
  obtain ⟨x, hx, rfl⟩ := List.mem_map.mp h2
  exact ret v _ h' tk' ⟨(x, b'), ⟨hx, h3⟩, h4, rfl⟩ F' N'
theorem EC_pickI {es : List Expr} {L : List Int} (hk : S.glob (Str.ofString "_law_pick") = true) (hb : EP c S l (boxL B b rest) (.Name y p1) (.is (.ref B.bx))) (he : conInts es = some L) (hA : boxA B rest) (hc : BoxOk b) (h0 : Nat.ble 1 L.length = true) (h1 : Nat.ble L.length 1000 = true) (hd : Nat.ble 3 S.d = true) :
    EC c S l (boxL B b rest) (.Call (.Name (Str.ofString "_law_pick") p) [.Name y p1, .List es p3] [] p4) (Int × BoxSt) (fun x => x.1 ∈ L ∧ BoxOk x.2) (fun x => .int x.1) (fun x => boxL B x.2 rest) := by
  intro ok s m Q r F N ret
  refine EC_pick hk hb (EA_ints he) hA hc (by rw [List.length_map]; exact h0) (by rw [List.length_map]; exact h1) hd ok s m Q r F N (fun v n' h' tk' hp F' N' => ?_)
  obtain ⟨⟨V, b'⟩, ⟨h2, h3⟩, h4, rfl⟩ := hp
  obtain ⟨x, hx, rfl⟩ := List.mem_map.mp h2
  exact ret v _ h' tk' ⟨(x, b'), ⟨hx, h3⟩, h4, rfl⟩ F' N'
end
end Mine
namespace Mine
noncomputable def WORDS : List Str := [Str.ofString "a", Str.ofString "$x1", Str.ofString "_", Str.ofString "ifs", Str.ofString "ét٣", Str.ofString "if", Str.ofString "null", Str.ofString "class", Str.ofString "static", Str.ofString "let", Str.ofString "typeof", Str.ofString "instanceof"]
theorem words_len : ∀ y ∈ WORDS, 1 ≤ y.length ∧ y.length ≤ 10 := by decide +kernel
theorem words_ord : ∀ y ∈ WORDS, ∀ k, k < 12 → (Txt.item y ((k : Nat) : Int)).cps.getD 0 0 < 65536 := by decide +kernel
theorem words_ord' {y : Str} (h : y ∈ WORDS) {k : Int} (h0 : 0 ≤ k) (h1 : k < 12) : (Txt.item y k).cps.getD 0 0 < 65536 := by
  have e : ((k.toNat : Nat) : Int) = k := Int.toNat_of_nonneg h0
  rw [← e]; exact words_ord y h _ (by omega)
/-- what a maker of one token hands back -/
noncomputable def MadeTok (B : BoxId) (rest : Led) (m : Nat) (v : Value) (n : Led) : Prop :=
  ∃ (a : Addr) (c' : BoxSt) (kind text : Str) (tv : Tv) (o p : Bool) (t1 t2 t3 : Tok), v = .ref a ∧ BoxOk c' ∧ n = boxL B c' ((a, ({ cls := .type "tuple", data := .seq #[.str kind t1, tv.val t2, .str text t3, .bool o, .bool p] } : Obj)) :: rest) ∧ @LT.lt Nat _ B.bx a ∧ @LT.lt Nat _ B.il a ∧ AllLt a rest ∧ TokMade kind tv text o p m
section
variable {w : World} {mg mb : Str → Option Value} {mean : ExcName → Option Value} {d : Nat} {c : Sem Value} {news : Led} {dp un : Nat} {gd : Option (List Code)} {cn : Str} {cs : Scope} {a : Addr} {ccd : Value} {cl : List (Str × Addr)} {outer : List Env} {A₀ : Around} {base h₀ : Heap} {L : Addr} {m : Str → Option Value} {s : Shared} {Q E : Value → Shared → Prop} (N : News h₀ L s.heap news) (B : Below A₀ base outer h₀) (F : Fr h₀ L s.heap m) (X : (hpK w.params).In h₀) (T : Top hpV (looseW hpV LS) mean mg mb h₀) (hk : cs.kind = .function)
include N B F X T hk
end
noncomputable def nmOk (x t : Str) (p : Bool) : Bool := decide (nameChk 30 true t.cps.toList = some (x.cps.toList, p)) && decide (0 < t.length) && decide (t.length ≤ 60) && (t.cps.toList.all fun c => decide (c < 1114112)) && (isIdStart (hd1 t.cps.toList) || decide (hd1 t.cps.toList = 92)) && !isLineEnd (hd1 t.cps.toList) && !isWhite (hd1 t.cps.toList) && decide (hd1 t.cps.toList ≠ 47) && decide (0 ≤ hd1 t.cps.toList)
theorem nmOk_made {x t : Str} {p : Bool} (h : nmOk x t p = true) (hx : x.length ≤ 1000) : TokMade (if KEYS.contains x then Str.ofString "keyword" else Str.ofString "name") (.s x) t false p 0 := by
  unfold nmOk at h
  simp only [Bool.and_eq_true, Bool.or_eq_true, Bool.not_eq_true', decide_eq_true_eq, List.all_eq_true] at h
  obtain ⟨⟨⟨⟨⟨⟨⟨⟨a1, a2⟩, a3⟩, a4⟩, a5⟩, a6⟩, a7⟩, a8⟩, a9⟩ := h
  exact name_made a1 a2 a3 a4 a5 ⟨a6, a7, a8, a9⟩ hx
noncomputable def escText (y : Str) (k : Int) : Str := Txt.slice y none (some k) ++ Str.ofString "\\u" ++ ⟨(hexL ((Txt.item y k).cps.getD 0 0) 4).toArray⟩ ++ Txt.slice y (some (k + 1)) none
theorem words_kw : ∀ y ∈ WORDS, KEYS.contains y = ([Str.ofString "if", Str.ofString "null", Str.ofString "class", Str.ofString "typeof", Str.ofString "instanceof"].any fun x => x == y) := by decide +kernel
theorem words_ok : ∀ y ∈ WORDS, nmOk y y true = true := by decide +kernel
theorem words_esc : ∀ y ∈ WORDS, ∀ k, k < 12 → k < y.length → nmOk y (escText y ((k : Nat) : Int)) false = true := by decide +kernel
theorem word_plain {y : Str} {b : Bool} (h : y ∈ WORDS) (hk : ([Str.ofString "if", Str.ofString "null", Str.ofString "class", Str.ofString "typeof", Str.ofString "instanceof"].any fun x => x == y) = b) : TokMade (if b then Str.ofString "keyword" else Str.ofString "name") (.s y) y false true 0 := by
  have := nmOk_made (words_ok y h) (Nat.le_trans (words_len y h).2 (by decide))
  rw [words_kw y h, hk] at this
  exact this
theorem word_esc {y x : Str} {b : Bool} {k : Int} (h : y ∈ WORDS) (hk : ([Str.ofString "if", Str.ofString "null", Str.ofString "class", Str.ofString "typeof", Str.ofString "instanceof"].any fun x => x == y) = b) (h0 : 0 ≤ k) (h1 : k < 12) (h2 : ¬ (y.length : Int) ≤ k) (hx : x = ⟨(hexL ((Txt.item y k).cps.getD 0 0) 4).toArray⟩) :
    TokMade (if b then Str.ofString "keyword" else Str.ofString "name") (.s y) (Txt.slice y none (some k) ++ Str.ofString "\\u" ++ x ++ Txt.slice y (some (k + 1)) none) false false 0 := by
  have e : ((k.toNat : Nat) : Int) = k := Int.toNat_of_nonneg h0
  have := nmOk_made (words_esc y h k.toNat (by omega) (by omega)) (Nat.le_trans (words_len y h).2 (by decide))
  rw [words_kw y h, hk, e] at this
  rw [hx]
  exact this
section
variable {w : World} {mg mb : Str → Option Value} {mean : ExcName → Option Value} {news : Led}
end
end Mine
namespace Mine
theorem hex_len {n k : Nat} : (⟨(hexL n k).toArray⟩ : Str).length = k := by
  show Array.size _ = _
  rw [List.size_toArray, hexL_len]
end Mine
local macro_rules | `(tactic| walk_at "S more") => `(tactic| first | ((with_reducible refine' Mine.EP_call Mine.gf_law_hex ?k ?a ?pe (Mine.law_hex4_c ?h0 ?h1) ?d); (case a => walk_at "S a"); (case k => kernel_rfl); (case pe => exact rfl); (case d => exact rfl); (case h0 => omega); (case h1 => omega)) | ((with_reducible refine' Mine.EP_call Mine.gf_law_hex ?k ?a ?pe (Mine.law_hex2_c ?h0 ?h1) ?d); (case a => walk_at "S a"); (case k => kernel_rfl); (case pe => exact rfl); (case d => exact rfl); (case h0 => omega); (case h1 => omega)) | ((with_reducible refine' Mine.EP_call Mine.gf_law_hex ?k ?a ?pe (Mine.law_hex6_c ?h0 ?h1) ?d); (case a => walk_at "S a"); (case k => kernel_rfl); (case pe => exact rfl); (case d => exact rfl); (case h0 => omega); (case h1 => omega)) | fail "S more")
namespace Mine
noncomputable def Tv.av : Tv → AV
  | .s x => .str x
  | .i n => .int n
structure MT where
  a : Addr
  b : BoxSt
  vs : List Value
  kind : Str
  tv : Tv
  text : Str
  o : Bool
  p : Bool
noncomputable abbrev mtV (kind : Str) (tv : Tv) (text : Str) (o p : Bool) : List AV := [.str kind, tv.av, .str text, .is (.bool o), .is (.bool p)]
noncomputable def MTP (B : BoxId) (rest : Led) (m : Nat) (x : MT) : Prop := BoxOk x.b ∧ HasAll (mtV x.kind x.tv x.text x.o x.p) x.vs ∧ TokMade x.kind x.tv x.text x.o x.p m ∧ boxA B ((x.a, tupO x.vs) :: rest)
noncomputable abbrev CMT (W : Wd) (d : Nat) (B : BoxId) (b : BoxSt) (rest : Led) (f : Addr) : Prop := CC W d (boxL B b rest) f [.is (.ref B.bx)] MT (MTP B rest 0) (fun x => .is (.ref x.a)) (fun x => boxL B x.b ((x.a, tupO x.vs) :: rest))
theorem mt_ret {c : Cx} {S : Sc} {R : AV → Led → Prop} {K : Loc → Led → Prop} {l : Loc} {B : BoxId} {b : BoxSt} {rest : Led} {m : Nat} {ss : List Stmt} {es : List Expr} {k : Nat} {p1 p2 : Pos} (hR : ∀ (x : MT) (V : AV) (n' : Led), MTP B rest m x → V = .is (.ref x.a) → (∀ p ∈ boxL B x.b ((x.a, tupO x.vs) :: rest), p ∈ n') → R V n') (hA : boxA B rest) (hb : BoxOk b)
    (kind : Str) (tv : Tv) (text : Str) (o p : Bool) {V : AV} (ha : EA c S l (boxL B b rest) p1 es [.str kind, V, .str text, .is (.bool o), .is (.bool p)]) (hV : V = tv.av) (hm : TokMade kind tv text o p m) : SS c S R l (boxL B b rest) (.Return (some (.Tuple es k p1)) p2 :: ss) K :=
  SS_retC (EC_tup (Vs := mtV kind tv text o p) (by subst hV; exact ha) rfl) fun x hx => hR ⟨x.1, b, x.2, kind, tv, text, o, p⟩ _ _ ⟨hb, hx.1, hm, boxA_cons hA hx.2⟩ rfl mem_rot2
noncomputable abbrev KWS : List Str := [Str.ofString "if", Str.ofString "null", Str.ofString "class", Str.ofString "typeof", Str.ofString "instanceof"]
theorem law_word_c {W : Wd} {B : BoxId} {b : BoxSt} {rest : Led} (hA : boxA B rest) (hc : BoxOk b) : CMT W 4 B b rest 457 := by
  refine fn1 (x1 := Str.ofString "box") (us := [Str.ofString "word", Str.ofString "kind", Str.ofString "at"]) (by k_is) (by k_is) (Mine.ok_of ?hok) (fun _ => rfl) rfl rfl ?e3 ?H
  walk_at "S fn"
  rename_i c R hR
  refine' SS_setC (EC_pickS (L := WORDS) (by kernel_rfl) (by walk_at "S e") (by kernel_rfl) hA hc rfl rfl rfl) rfl (fun _ => by walk_at "S p") ?_
  rintro ⟨y, b1⟩ ⟨hy, hb1⟩
  dsimp only at hy hb1 ⊢
  obtain ⟨w1, w2⟩ := words_len _ hy
  refine SS_set (V := .str (if (KWS.any fun x => x == y) = true then Str.ofString "keyword" else Str.ofString "name")) (EP_ifV (TT_inS (L := KWS) (by walk_at "S e") (by kernel_rfl) rfl) (fun _ => EP_str) (fun _ => EP_str) (fun h => by rw [if_pos h]) (fun h => by rw [h]; rfl)) rfl (by walk_at "S p") ?_
  refine' SS_setC (EC_take (by kernel_rfl) (by walk_at "S e") EP_int rfl hA hb1 (by decide) (by decide) rfl) rfl (fun _ => by walk_at "S p") ?_
  rintro ⟨k, b2⟩ ⟨hk0, hk1, hb2⟩
  dsimp only at hk0 hk1 hb2 ⊢
  have w3 := words_ord' hy hk0 hk1
  walk_at "S s"
  · intro hl
    refine' mt_ret hR hA hb2 _ (.s y) _ _ _ ?ha ?hv (word_plain hy rfl)
    case ha => walk_at "S a"
    case hv => rfl
  · intro hl
    have s1 := PyProof.Txt.length_slice_le y none (some k)
    have s2 := PyProof.Txt.length_slice_le y (some (k + 1)) none
    have s3 : (Str.ofString "\\u").length = 2 := by decide +kernel
    have s4 := hex_len (n := (((Txt.item y k).cps.getD 0 0 : Nat) : Int).toNat) (k := 4)
    refine' mt_ret hR hA hb2 _ (.s y) _ _ _ ?ha ?hv (word_esc (x := ⟨(hexL (((Txt.item y k).cps.getD 0 0 : Nat) : Int).toNat 4).toArray⟩) hy rfl hk0 hk1 (by omega) rfl)
    case ha => walk_at "S a"
    case hv => rfl
theorem gf_law_word : GF (Str.ofString "_law_word") 457 := ⟨fun P => by k_is, fun P => by k_is, by decide +kernel⟩
end Mine
namespace Mine
noncomputable def NUMS : List Int := [0, 1, 7, 10, 255, 1000003]
theorem nums_bnd : ∀ n ∈ NUMS, 0 ≤ n ∧ n ≤ 1000003 := by decide
theorem nums_txt : ∀ n ∈ NUMS, (Str.ofString (toString n)).length ≤ 7 ∧ (baseText "0o" 8 ((8 * n).fmod 512 + 5)).length ≤ 10 := by decide +kernel
theorem nt0 {n : Int} {y x : Str} (h : n ∈ NUMS) (hy : y ∈ [Str.ofString "0x", Str.ofString "0X"]) (hx : x = ⟨(hexL n.toNat 6).toArray⟩) : TokMade (Str.ofString "number") (.i (bitsV n.toNat 0)) (y ++ x) false true 0 := by
  have key : ∀ n ∈ NUMS, ∀ y ∈ [Str.ofString "0x", Str.ofString "0X"], ((y ++ ⟨(hexL n.toNat 6).toArray⟩ : Str).cps.toList, bitsV n.toNat 0, false) ∈ NT := by decide +kernel
  subst hx; exact num_made (key n h y hy)
theorem nt1 {n : Int} {z : Str} (h : n ∈ NUMS) (hz : z = baseText "0o" 8 ((8 * n).fmod 512 + 5)) : TokMade (Str.ofString "number") (.i (bitsV ((8 * n).fmod 512 + 5).toNat 0)) (Str.ofString "0" ++ Txt.slice z (some 2) none) true true 0 := by
  have key : ∀ n ∈ NUMS, ((Str.ofString "0" ++ Txt.slice (baseText "0o" 8 ((8 * n).fmod 512 + 5)) (some 2) none).cps.toList, bitsV ((8 * n).fmod 512 + 5).toNat 0, true) ∈ NT := by decide +kernel
  subst hz; exact num_made (key n h)
theorem nt2 {n : Int} (h : n ∈ NUMS) : TokMade (Str.ofString "number") (.i (bitsV (2 * n + 1).toNat 1)) (Str.ofString (toString n) ++ Str.ofString ".5") false true 0 := by
  have key : ∀ n ∈ NUMS, ((Str.ofString (toString n) ++ Str.ofString ".5").cps.toList, bitsV (2 * n + 1).toNat 1, false) ∈ NT := by decide +kernel
  exact num_made (key n h)
theorem nt3 {y : Str} (h : y ∈ [Str.ofString ".25", Str.ofString ".25e0", Str.ofString "25E-2", Str.ofString "0.0025e+2"]) : TokMade (Str.ofString "number") (.i (bitsV (Int.toNat 1) 2)) y false true 0 := by
  have key : ∀ y ∈ [Str.ofString ".25", Str.ofString ".25e0", Str.ofString "25E-2", Str.ofString "0.0025e+2"], (y.cps.toList, bitsV (Int.toNat 1) 2, false) ∈ NT := by decide +kernel
  exact num_made (key y h)
theorem nt4 {n : Int} {y : Str} (h : n ∈ NUMS) (hy : y ∈ [Str.ofString "e2", Str.ofString "E+2", Str.ofString ".e2", Str.ofString ".0e02"]) : TokMade (Str.ofString "number") (.i (bitsV (100 * n).toNat 0)) (Str.ofString (toString n) ++ y) false true 0 := by
  have key : ∀ n ∈ NUMS, ∀ y ∈ [Str.ofString "e2", Str.ofString "E+2", Str.ofString ".e2", Str.ofString ".0e02"], ((Str.ofString (toString n) ++ y).cps.toList, bitsV (100 * n).toNat 0, false) ∈ NT := by decide +kernel
  exact num_made (key n h y hy)
theorem nt5 {n : Int} (h : n ∈ NUMS) : TokMade (Str.ofString "number") (.i (bitsV n.toNat 0)) (Str.ofString (toString n) ++ Str.ofString ".") false true 0 := by
  have key : ∀ n ∈ NUMS, ((Str.ofString (toString n) ++ Str.ofString ".").cps.toList, bitsV n.toNat 0, false) ∈ NT := by decide +kernel
  exact num_made (key n h)
theorem nt6 {n : Int} (h : n ∈ NUMS) : TokMade (Str.ofString "number") (.i (bitsV n.toNat 0)) (Str.ofString (toString n)) false true 0 := by
  have key : ∀ n ∈ NUMS, ((Str.ofString (toString n)).cps.toList, bitsV n.toNat 0, false) ∈ NT := by decide +kernel
  exact num_made (key n h)
theorem fmod_512 {n : Int} {l : List Int} (_ : n ∈ l) : 0 ≤ (8 * n).fmod 512 ∧ (8 * n).fmod 512 < 512 := by
  rw [Int.fmod_eq_emod_of_nonneg _ (by decide)]; omega
section
variable {w : World} {mg mb : Str → Option Value} {mean : ExcName → Option Value} {news : Led}
theorem oct_as {A : Around} {E : Value → Shared → Prop} {s : Shared} {i : Int} {t : Tok} {Q : Value → Shared → Prop} (hl : (baseText "0o" 8 i).length ≤ 10) (h : ∀ z : Str, z = baseText "0o" 8 i → z.length ≤ 10 → Q (.str z s.toks) { s with toks := s.toks + 1 }) : wpAny (model prg w) A (call (.builtin "oct") [.int i t]) Q E s := P.oct_of_int (h _ rfl hl) (Nat.le_trans hl (by rw [sizeLine_eq]; omega))
end
end Mine
namespace Mine
section
variable {c : Cx} {S : Sc} {l l' : Loc} {n : Led} {R : AV → Led → Prop} {K : Loc → Led → Prop} {rest : List Stmt}
theorem EP_strI {e : Expr} {i : Int} {p1 p2 : Pos} (hb : GB (Str.ofString "str") (.type "str")) (hk : S.glob (Str.ofString "str") = true) (he : EP c S l n e (.int i)) (hp : plainE e = true) (hi : i.natAbs.log2 < 1920) : EP c S l n (.Call (.Name (Str.ofString "str") p1) [e] [] p2) (.str (Str.ofString (toString i))) := by
  intro ok s m Q r F N ret
  refine Call_ ?_
  refine nameX_B F ok.X (topRead_of ok.T) (hb.none _) hb.boot hb.ne ?_ ok.S.kind (Sc.glob_eq hk) hb.dbg
  refine Pv.callWith_type1 ?_ (star_plain hp) rfl
  refine (EA_cons he hp EA_nil) ok s m _ r F N (fun vs n' h' tk' hq F' N' => ?_)
  obtain ⟨hv, rfl⟩ := hq
  obtain ⟨_, rfl, ⟨t, rfl⟩⟩ := has1 hv
  exact P.str_of_int hi (ret _ _ h' _ ⟨⟨_, rfl⟩, rfl⟩ F' N')
theorem gb_str : GB (Str.ofString "str") (.type "str") := ⟨fun P => by k_is, rfl, by decide +kernel, by decide +kernel⟩
theorem gb_oct : GB (Str.ofString "oct") (.builtin "oct") := ⟨fun P => by k_is, rfl, by decide +kernel, by decide +kernel⟩
theorem EP_oct {e : Expr} {i : Int} {p1 p2 : Pos} (hk : S.glob (Str.ofString "oct") = true) (he : EP c S l n e (.int i)) (hp : plainE e = true) (hl : (baseText "0o" 8 i).length ≤ 10) : EP c S l n (.Call (.Name (Str.ofString "oct") p1) [e] [] p2) (.str (baseText "0o" 8 i)) :=
  EP_b gb_oct hk (EA_cons he hp EA_nil) (by simp [hp]) (by
    intro vs s Q hv _ ret
    obtain ⟨_, rfl, ⟨t, rfl⟩⟩ := has1 hv
    exact P.oct_of_int (ret _ _ ⟨_, rfl⟩) (Nat.le_trans hl (by decide)))
section
variable {X : Type} {P : X → Prop} {f : X → Str} {fn : X → Led} {a b : Expr} {p : Pos}
theorem EC_catl {y : Str} (ha : EC c S l n a X P (fun x => .str (f x)) fn) (hb : ∀ x, P x → EP c S l (fn x) b (.str y)) (hz : ∀ x, P x → (f x).length + y.length ≤ 10000000) : EC c S l n (.BinOp a .Add b p) X P (fun x => .str (f x ++ y)) fn := by
  intro ok s m Q r F N ret
  refine wpAny_BinOp ?_
  refine ha ok s m _ r F N (fun va n' h' tk' hp F' N' => ?_)
  obtain ⟨x, hx, ⟨t, rfl⟩, rfl⟩ := hp
  refine hb x hx ok _ m _ r F' N' (fun vb n2 h2 tk2 hp F2 N2 => ?_)
  obtain ⟨⟨u, rfl⟩, rfl⟩ := hp
  refine cat_str rfl ?_ (fun t' k => ret _ _ h2 _ ⟨x, hx, ⟨_, rfl⟩, rfl⟩ F2 N2)
  rw [app_len]
  exact Nat.le_trans (hz x hx) (by decide)
theorem EC_catr {y : Str} (ha : EP c S l n a (.str y)) (hb : EC c S l n b X P (fun x => .str (f x)) fn) (hz : ∀ x, P x → y.length + (f x).length ≤ 10000000) : EC c S l n (.BinOp a .Add b p) X P (fun x => .str (y ++ f x)) fn := by
  intro ok s m Q r F N ret
  refine wpAny_BinOp ?_
  refine ha ok s m _ r F N (fun va n' h' tk' hp F' N' => ?_)
  obtain ⟨⟨t, rfl⟩, rfl⟩ := hp
  refine hb ok _ m _ r F' N' (fun vb n2 h2 tk2 hp F2 N2 => ?_)
  obtain ⟨x, hx, ⟨u, rfl⟩, rfl⟩ := hp
  refine cat_str rfl ?_ (fun t' k => ret _ _ h2 _ ⟨x, hx, ⟨_, rfl⟩, rfl⟩ F2 N2)
  rw [app_len]
  exact Nat.le_trans (hz x hx) (by decide)
noncomputable def AK (c : Cx) (S : Sc) (l : Loc) (n : Led) (p : Pos) (es : List Expr) (X : Type) (P : X → Prop) (fV : X → List AV) (fn : X → Led) : Prop := CE c S l n (spliced (backTo p (starEach es (c.env S)))) (fun vs n' => ∃ x : X, P x ∧ HasAll (fV x) vs ∧ n' = fn x)
theorem AK_p {e : Expr} {es : List Expr} {V : AV} {fV : X → List AV} (he : EP c S l n e V) (hp : plainE e = true) (h : AK c S l n p es X P fV fn) : AK c S l n p (e :: es) X P (fun x => V :: fV x) fn := by
  intro ok s m Q r F N ret
  refine args_cons ?_ (star_plain hp)
  refine he ok s m _ r F N (fun v n' h' tk' hp F' N' => ?_)
  obtain ⟨hv, rfl⟩ := hp
  refine h ok _ m _ r F' N' (fun vs n2 h2 tk2 hq F2 N2 => ?_)
  obtain ⟨x, hx, hvs, rfl⟩ := hq
  exact ret _ _ h2 _ ⟨x, hx, ⟨hv, hvs⟩, rfl⟩ F2 N2
theorem AK_c {e : Expr} {es : List Expr} {fv : X → AV} {fV : X → List AV} (he : EC c S l n e X P fv fn) (hp : plainE e = true) (h : ∀ x, P x → EA c S l (fn x) p es (fV x)) : AK c S l n p (e :: es) X P (fun x => fv x :: fV x) fn := by
  intro ok s m Q r F N ret
  refine args_cons ?_ (star_plain hp)
  refine he ok s m _ r F N (fun v n' h' tk' hp F' N' => ?_)
  obtain ⟨x, hx, hv, rfl⟩ := hp
  refine h x hx ok _ m _ r F' N' (fun vs n2 h2 tk2 hq F2 N2 => ?_)
  obtain ⟨hvs, rfl⟩ := hq
  exact ret _ _ h2 _ ⟨x, hx, ⟨hv, hvs⟩, rfl⟩ F2 N2
theorem EC_tupK {es : List Expr} {fV : X → List AV} {k : Nat} (h : AK c S l n p es X P fV fn) (hz : ∀ x, (fV x).length ≤ 1000) : EC c S l n (.Tuple es k p) (X × Addr × List Value) (fun x => P x.1 ∧ HasAll (fV x.1) x.2.2 ∧ ∀ q ∈ fn x.1, @LT.lt Nat _ q.1 x.2.1) (fun x => .is (.ref x.2.1)) (fun x => (x.2.1, tupO x.2.2) :: fn x.1) := by
  intro ok s m Q r F N ret
  refine Tuple_ ?_
  refine h ok s m _ r F N (fun vs n' h' tk' hp F' N' => ?_)
  obtain ⟨x, hx, hv, rfl⟩ := hp
  refine kup_newTuple F' N' (fun D h2 F2 N2 hD => ?_) (Nat.le_trans (by rw [hv.len]; exact hz x) (by decide))
  exact ret _ _ h2 _ ⟨(x, D, vs), ⟨hx, hv, hD⟩, rfl, rfl⟩ F2 N2
end
theorem mt_ret3 {B : BoxId} {b : BoxSt} {led : Led} {m : Nat} {ss : List Stmt} {e1 e2 e3 : Expr} {k k1 k2 : Nat} {p1 p2 p3 p4 : Pos} (hR : ∀ (x : MT) (V : AV) (n' : Led), MTP B led m x → V = .is (.ref x.a) → (∀ p ∈ boxL B x.b ((x.a, tupO x.vs) :: led), p ∈ n') → R V n') (hA : boxA B led)
    (kind : Str) (tv : Tv) (o p : Bool) {V : AV} {Y : Str → Prop} {f : Str → Str} (h1 : EP c S l (boxL B b led) e1 (.str kind)) (h2 : EP c S l (boxL B b led) e2 V) (h3 : EC c S l (boxL B b led) e3 (Str × BoxSt) (fun x => Y x.1 ∧ BoxOk x.2) (fun x => .str (f x.1)) (fun x => boxL B x.2 led)) (g1 : plainE e1 = true) (g2 : plainE e2 = true) (g3 : plainE e3 = true) (hV : V = tv.av) (hm : ∀ y, Y y → TokMade kind tv (f y) o p m) :
    SS c S R l (boxL B b led) (.Return (some (.Tuple [e1, e2, e3, .Constant (.bool o) k1 p3, .Constant (.bool p) k2 p4] k p1)) p2 :: ss) K := by
  subst hV
  refine SS_retC (EC_tupK (AK_p h1 g1 (AK_p h2 g2 (AK_c h3 g3 fun x hx => EA_cons EP_boo rfl (EA_cons EP_boo rfl EA_nil)))) (fun _ => (by decide : 5 ≤ 1000))) ?_
  rintro ⟨⟨y, b'⟩, D, vs⟩ ⟨⟨h4, h5⟩, h6, h7⟩
  exact hR ⟨D, b', vs, kind, tv, f y, o, p⟩ _ _ ⟨h5, h6, hm y h4, boxA_cons hA h7⟩ rfl mem_rot2
end
end Mine
local macro_rules | `(tactic| walk_at "S more") => `(tactic| first | ((with_reducible refine' Mine.EP_strI Mine.gb_str ?k ?a ?pe ?z); (case a => walk_at "S e"); (case k => kernel_rfl); (case pe => exact rfl); (case z => with_reducible assumption)) | ((with_reducible refine' Mine.EP_oct ?k ?a ?pe ?z); (case a => walk_at "S e"); (case k => kernel_rfl); (case pe => exact rfl); (case z => with_reducible assumption)) | ((with_reducible refine' Mine.EP_call Mine.gf_law_bits ?k ?a ?pe (Mine.law_bits0_c ?h0 ?h1) ?d); (case a => walk_at "S a"); (case k => kernel_rfl); (case pe => exact rfl); (case d => exact rfl); (case h0 => omega); (case h1 => omega)) | ((with_reducible refine' Mine.EP_call Mine.gf_law_bits ?k ?a ?pe (Mine.law_bits1_c ?h0 ?h1) ?d); (case a => walk_at "S a"); (case k => kernel_rfl); (case pe => exact rfl); (case d => exact rfl); (case h0 => omega); (case h1 => omega)) | ((with_reducible refine' Mine.EP_call Mine.gf_law_bits ?k ?a ?pe (Mine.law_bits2_c ?h0 ?h1) ?d); (case a => walk_at "S a"); (case k => kernel_rfl); (case pe => exact rfl); (case d => exact rfl); (case h0 => omega); (case h1 => omega)) | fail "S more")
local macro_rules | `(tactic| walk_at "S pickS") => `(tactic| ((refine' Mine.EC_pickS ?g ?b ?cs ?hA ?hc ?h0 ?h1 ?d); (case b => walk_at "S e"); (case g => kernel_rfl); (case cs => kernel_rfl); (case hA => with_reducible assumption); (case hc => with_reducible assumption); (case h0 => exact rfl); (case h1 => exact rfl); (case d => exact rfl)))
local macro_rules | `(tactic| walk_at "S pickI") => `(tactic| ((refine' Mine.EC_pickI ?g ?b ?cs ?hA ?hc ?h0 ?h1 ?d); (case b => walk_at "S e"); (case g => kernel_rfl); (case cs => kernel_rfl); (case hA => with_reducible assumption); (case hc => with_reducible assumption); (case h0 => exact rfl); (case h1 => exact rfl); (case d => exact rfl)))
local macro_rules | `(tactic| walk_at "S take") => `(tactic| ((refine' Mine.EC_take ?g ?b ?e ?pe ?hA ?hc ?h0 ?h1 ?d); (case b => walk_at "S e"); (case e => walk_at "S e"); (case g => kernel_rfl); (case pe => exact rfl); (case hA => with_reducible assumption); (case hc => with_reducible assumption); (case h0 => first | decide | omega); (case h1 => first | decide | omega); (case d => exact rfl)))
namespace Mine
theorem nums_log : ∀ n ∈ NUMS, n.natAbs.log2 < 1920 := by decide +kernel
theorem law_number_c {W : Wd} {B : BoxId} {b : BoxSt} {rest : Led} (hA : boxA B rest) (hc : BoxOk b) : CMT W 5 B b rest 464 := by
  refine fn1 (x1 := Str.ofString "box") (us := [Str.ofString "n", Str.ofString "form"]) (by k_is) (by k_is) (Mine.ok_of ?hok) (fun _ => rfl) rfl rfl ?e3 ?H
  walk_at "S fn"
  rename_i c R hR
  refine' SS_tupC (X1 := Int × BoxSt) (X2 := Int × BoxSt) (P1 := fun x => x.1 ∈ NUMS ∧ BoxOk x.2) (fV1 := fun x => .int x.1) (fn1 := fun x => boxL B x.2 rest) (by walk_at "S pickI") (fun y hy => EC_take (wide := 9) (by kernel_rfl) (by walk_at "S e") EP_int rfl hA hy.2 (by decide) (by decide) rfl) rfl rfl (fun _ _ => ?s2) (fun _ _ => ?s1) rfl ?hw ?_
  case hw => kernel_rfl
  case s2 => walk_at "S p"
  case s1 => walk_at "S p"
  rintro ⟨n, b1⟩ ⟨form, b2⟩ ⟨hy, -⟩ ⟨hf0, hf1, hb⟩
  dsimp only at hy hf0 hf1 hb ⊢
  obtain ⟨w1, w2⟩ := nums_bnd _ hy
  obtain ⟨w3, w4⟩ := nums_txt _ hy
  obtain ⟨w5, w6⟩ := fmod_512 hy
  have w7 := nums_log _ hy
  have l0 : (Str.ofString "0").length = 1 := by decide +kernel
  have l1 : (Str.ofString ".5").length = 2 := by decide +kernel
  have l2 : (Str.ofString ".").length = 1 := by decide +kernel
  have l3 := PyProof.Txt.length_slice_le (baseText "0o" 8 ((8 * n).fmod 512 + 5)) (some 2) none
  have w8 := hex_len (n := n.toNat) (k := 6)
  walk_at "S s"
  · intro _
    refine' mt_ret3 hR hA _ (.i _) _ _ (Y := fun y => y ∈ [Str.ofString "0x", Str.ofString "0X"]) ?h1 ?h2 (EC_catl (X := Str × BoxSt) (P := fun x => x.1 ∈ [Str.ofString "0x", Str.ofString "0X"] ∧ BoxOk x.2) (f := fun x => x.1) (y := ⟨(hexL n.toNat 6).toArray⟩) (by walk_at "S pickS") (fun x hx => by walk_at "S e") ?z) rfl rfl rfl ?h4 (fun y hy2 => nt0 hy hy2 rfl)
    case h1 => walk_at "S e"
    case h2 => walk_at "S e"
    case h4 => rfl
    case z => 
      rintro ⟨x, _⟩ ⟨hx, _⟩
      have h9 : ∀ x ∈ [Str.ofString "0x", Str.ofString "0X"], x.length ≤ 2 := by decide +kernel
      have h10 := h9 _ hx
      dsimp only at h10 ⊢
      omega
  intro _
  walk_at "S s"
  · intro _
    refine' mt_ret hR hA hb _ (.i _) _ _ _ ?ha1 ?hv1 (nt1 hy rfl)
    case ha1 => walk_at "S a"
    case hv1 => rfl
  intro _
  walk_at "S s"
  · intro _
    refine' mt_ret hR hA hb _ (.i _) _ _ _ ?ha2 ?hv2 (nt2 hy)
    case ha2 => walk_at "S a"
    case hv2 => rfl
  intro _
  walk_at "S s"
  · intro _
    refine' mt_ret3 hR hA _ (.i _) _ _ (Y := fun y => y ∈ [Str.ofString ".25", Str.ofString ".25e0", Str.ofString "25E-2", Str.ofString "0.0025e+2"]) (f := fun x => x) ?h13 ?h23 (by walk_at "S pickS") rfl rfl rfl ?h43 (fun y hy2 => nt3 hy2)
    case h13 => walk_at "S e"
    case h23 => walk_at "S e"
    case h43 => rfl
  intro _
  walk_at "S s"
  · intro _
    refine' mt_ret3 hR hA _ (.i _) _ _ (Y := fun y => y ∈ [Str.ofString "e2", Str.ofString "E+2", Str.ofString ".e2", Str.ofString ".0e02"]) ?h14 ?h24 (EC_catr (X := Str × BoxSt) (P := fun x => x.1 ∈ [Str.ofString "e2", Str.ofString "E+2", Str.ofString ".e2", Str.ofString ".0e02"] ∧ BoxOk x.2) (f := fun x => x.1) (by walk_at "S e") (by walk_at "S pickS") ?z4) rfl rfl rfl ?h44 (fun y hy2 => nt4 hy hy2)
    case h14 => walk_at "S e"
    case h24 => walk_at "S e"
    case h44 => rfl
    case z4 => 
      rintro ⟨x, _⟩ ⟨hx, _⟩
      have h9 : ∀ x ∈ [Str.ofString "e2", Str.ofString "E+2", Str.ofString ".e2", Str.ofString ".0e02"], x.length ≤ 5 := by decide +kernel
      have h10 := h9 _ hx
      dsimp only at h10 ⊢
      omega
  intro _
  walk_at "S s"
  · intro _
    refine' mt_ret hR hA hb _ (.i _) _ _ _ ?ha5 ?hv5 (nt5 hy)
    case ha5 => walk_at "S a"
    case hv5 => rfl
  intro _
  refine' mt_ret hR hA hb _ (.i _) _ _ _ ?ha6 ?hv6 (nt6 hy)
  case ha6 => walk_at "S a"
  case hv6 => rfl
theorem gf_law_number : GF (Str.ofString "_law_number") 464 := ⟨fun P => by k_is, fun P => by k_is, by decide +kernel⟩
end Mine
namespace Mine
noncomputable def CODES : List Int := [0, 8, 9, 34, 39, 65, 92, 110, 255, 8232, 55296, 65535]
theorem codes_bnd {n : Int} (h : n ∈ CODES) : 0 ≤ n ∧ n ≤ 65535 ∧ 0 ≤ n.fmod 256 ∧ n.fmod 256 < 256 := by
  have key : ∀ n ∈ CODES, 0 ≤ n ∧ n ≤ 65535 ∧ 0 ≤ n.fmod 256 ∧ n.fmod 256 < 256 := by decide
  exact key n h
noncomputable def OCTS : List Int := [7, 33, 63, 64, 255]
theorem octs_bnd {n : Int} (h : n ∈ OCTS) : 0 ≤ n ∧ n ≤ 255 ∧ (baseText "0o" 8 n).length ≤ 10 := by
  have key : ∀ n ∈ OCTS, 0 ≤ n ∧ n ≤ 255 ∧ (baseText "0o" 8 n).length ≤ 10 := by decide +kernel
  exact key n h
theorem sg0 {n : Int} {x : Str} (h : n ∈ CODES) (hx : x = ⟨(hexL n.toNat 4).toArray⟩) : SignMade ⟨#[n.toNat]⟩ (Str.ofString "\\u" ++ x) false false 0 := by
  have key : ∀ n ∈ CODES, ((⟨#[n.toNat]⟩ : Str).cps.toList, (Str.ofString "\\u" ++ ⟨(hexL n.toNat 4).toArray⟩ : Str).cps.toList, false, false, 0) ∈ ST := by decide +kernel
  subst hx; exact sign_made (key n h)
theorem sg1 {n : Int} {x : Str} (h : n ∈ CODES) (hx : x = ⟨(hexL (n.fmod 256).toNat 2).toArray⟩) : SignMade ⟨#[(n.fmod 256).toNat]⟩ (Str.ofString "\\x" ++ x) false false 0 := by
  have key : ∀ n ∈ CODES, ((⟨#[(n.fmod 256).toNat]⟩ : Str).cps.toList, (Str.ofString "\\x" ++ ⟨(hexL (n.fmod 256).toNat 2).toArray⟩ : Str).cps.toList, false, false, 0) ∈ ST := by decide +kernel
  subst hx; exact sign_made (key n h)
theorem sg3 {y : Str} (h : y ∈ [Str.ofString "\n", Str.ofString "\r\n", Str.ofString "\r", Str.ofString "\u2028", Str.ofString "\u2029"]) : SignMade (Str.ofString "") (Str.ofString "\\" ++ y) false false 1 := by
  have e0 : (Str.ofString "").cps.toList = [] := by decide +kernel
  have key : ∀ y ∈ [Str.ofString "\n", Str.ofString "\r\n", Str.ofString "\r", Str.ofString "\u2028", Str.ofString "\u2029"], (Str.ofString "\\" ++ y).cps.toList = [92, 13] ∨ ((Str.ofString "").cps.toList, (Str.ofString "\\" ++ y).cps.toList, false, false, 1) ∈ ST := by decide +kernel
  rcases key y h with h | h
  · exact sign_cr e0 h
  · exact sign_made h
theorem sg4 {n : Int} {y z : Str} (h : n ∈ OCTS) (hy : y ∈ [Str.ofString "a", Str.ofString ".", Str.ofString "-"]) (hz : z = baseText "0o" 8 n) : SignMade (⟨#[n.toNat]⟩ ++ y) (Str.ofString "\\" ++ Txt.slice z (some 2) none ++ y) true false 0 := by
  have key : ∀ n ∈ OCTS, ∀ y ∈ [Str.ofString "a", Str.ofString ".", Str.ofString "-"], ((⟨#[n.toNat]⟩ ++ y : Str).cps.toList, (Str.ofString "\\" ++ Txt.slice (baseText "0o" 8 n) (some 2) none ++ y).cps.toList, true, false, 0) ∈ ST := by decide +kernel
  subst hz; exact sign_made (key n h y hy)
theorem sg5 {y : Str} (h : y ∈ [Str.ofString "a", Str.ofString "5", Str.ofString "//", Str.ofString "/*", Str.ofString " ", Str.ofString "\t", Str.ofString "é", Str.ofString "\ufeff", Str.ofString "x"]) : SignMade y y false true 0 := by
  have key : ∀ y ∈ [Str.ofString "a", Str.ofString "5", Str.ofString "//", Str.ofString "/*", Str.ofString " ", Str.ofString "\t", Str.ofString "é", Str.ofString "\ufeff", Str.ofString "x"], (y.cps.toList, y.cps.toList, false, true, 0) ∈ ST := by decide +kernel
  exact sign_made (key y h)
theorem sg2_list {y : Str} (h : y ∈ [Str.ofString "b", Str.ofString "t", Str.ofString "n", Str.ofString "v", Str.ofString "f", Str.ofString "r", Str.ofString "0a", Str.ofString "'", Str.ofString "\"", Str.ofString "\\", Str.ofString "q"]) : y = Str.ofString "b" ∨ y = Str.ofString "t" ∨ y = Str.ofString "n" ∨ y = Str.ofString "v" ∨ y = Str.ofString "f" ∨ y = Str.ofString "r" ∨ y = Str.ofString "0a" ∨ y = Str.ofString "'" ∨ y = Str.ofString "\"" ∨ y = Str.ofString "\\" ∨ y = Str.ofString "q" := by
  simpa only [List.mem_cons, List.not_mem_nil, or_false] using h
theorem flat_str {v : Value} {d : PyData} {z : Str} (h : PyProof.V.Flat v d) (e : d = .str z) : ∃ t, v = .str z t := by
  subst e; exact PyProof.V.Flat.str_inv h
/-- what the maker of a sign hands back -/
noncomputable def MadeSign (B : BoxId) (rest : Led) (v : Value) (n : Led) : Prop :=
  ∃ (a : Addr) (c' : BoxSt) (told text : Str) (o p : Bool) (m : Nat) (t1 t2 t3 : Tok), v = .ref a ∧ BoxOk c' ∧ n = boxL B c' ((a, ({ cls := .type "tuple", data := .seq #[.str told t1, .str text t2, .bool o, .bool p, .int m t3] } : Obj)) :: rest) ∧ @LT.lt Nat _ B.bx a ∧ @LT.lt Nat _ B.il a ∧ AllLt a rest ∧ SignMade told text o p m
section
variable {w : World} {mg mb : Str → Option Value} {mean : ExcName → Option Value} {d : Nat} {c : Sem Value} {news : Led} {dp un : Nat} {gd : Option (List Code)} {cn : Str} {cs : Scope} {a : Addr} {ccd : Value} {cl : List (Str × Addr)} {outer : List Env} {A₀ : Around} {base h₀ : Heap} {L : Addr} {m : Str → Option Value} {s : Shared} {Q E : Value → Shared → Prop} (N : News h₀ L s.heap news) (B : Below A₀ base outer h₀) (F : Fr h₀ L s.heap m) (X : (hpK w.params).In h₀) (T : Top hpV (looseW hpV LS) mean mg mb h₀) (hk : cs.kind = .function)
include N B F X T hk
end
section
variable {w : World} {mg mb : Str → Option Value} {mean : ExcName → Option Value} {news : Led}
end
end Mine
namespace Mine
structure SigT where
  a : Addr
  b : BoxSt
  vs : List Value
  told : Str
  text : Str
  o : Bool
  p : Bool
  m : Nat
noncomputable abbrev sgV (told text : Str) (o p : Bool) (m : Nat) : List AV := [.str told, .str text, .is (.bool o), .is (.bool p), .int m]
noncomputable def SigP (B : BoxId) (rest : Led) (x : SigT) : Prop := BoxOk x.b ∧ HasAll (sgV x.told x.text x.o x.p x.m) x.vs ∧ SignMade x.told x.text x.o x.p x.m ∧ boxA B ((x.a, tupO x.vs) :: rest)
section
variable {c : Cx} {S : Sc} {l l' : Loc} {n : Led} {R : AV → Led → Prop} {K : Loc → Led → Prop} {rest : Led} {B : BoxId} {b : BoxSt} {ss : List Stmt} {k k1 k2 k3 : Nat} {p1 p2 p3 p4 p5 : Pos}
theorem sg_ret {es : List Expr} (hR : ∀ (x : SigT) (V : AV) (n' : Led), SigP B rest x → V = .is (.ref x.a) → (∀ p ∈ boxL B x.b ((x.a, tupO x.vs) :: rest), p ∈ n') → R V n') (hA : boxA B rest) (hb : BoxOk b)
    (told text : Str) (o p : Bool) (m : Nat) {V : AV} (ha : EA c S l (boxL B b rest) p1 es [.str told, .str text, .is (.bool o), .is (.bool p), V]) (hV : V = .int m) (hm : SignMade told text o p m) : SS c S R l (boxL B b rest) (.Return (some (.Tuple es k p1)) p2 :: ss) K :=
  SS_retC (EC_tup (Vs := sgV told text o p m) (by subst hV; exact ha) rfl) fun x hx => hR ⟨x.1, b, x.2, told, text, o, p, m⟩ _ _ ⟨hb, hx.1, hm, boxA_cons hA hx.2⟩ rfl mem_rot2
theorem sg_ret2 {e1 e2 : Expr} {i : Int} (hR : ∀ (x : SigT) (V : AV) (n' : Led), SigP B rest x → V = .is (.ref x.a) → (∀ p ∈ boxL B x.b ((x.a, tupO x.vs) :: rest), p ∈ n') → R V n') (hA : boxA B rest)
    (told : Str) (o p : Bool) (m : Nat) {Y : Str → Prop} {f : Str → Str} (h1 : EP c S l (boxL B b rest) e1 (.str told)) (h2 : EC c S l (boxL B b rest) e2 (Str × BoxSt) (fun x => Y x.1 ∧ BoxOk x.2) (fun x => .str (f x.1)) (fun x => boxL B x.2 rest)) (g1 : plainE e1 = true) (g2 : plainE e2 = true) (hi : i = m) (hm : ∀ y, Y y → SignMade told (f y) o p m) :
    SS c S R l (boxL B b rest) (.Return (some (.Tuple [e1, e2, .Constant (.bool o) k1 p3, .Constant (.bool p) k2 p4, .Constant (.int i) k3 p5] k p1)) p2 :: ss) K := by
  subst hi
  refine SS_retC (EC_tupK (AK_p h1 g1 (AK_c h2 g2 fun x hx => EA_cons EP_boo rfl (EA_cons EP_boo rfl (EA_cons EP_int rfl EA_nil)))) (fun _ => (by decide : 5 ≤ 1000))) ?_
  rintro ⟨⟨y, b'⟩, D, vs⟩ ⟨⟨h4, h5⟩, h6, h7⟩
  exact hR ⟨D, b', vs, told, f y, o, p, m⟩ _ _ ⟨h5, h6, hm y h4, boxA_cons hA h7⟩ rfl mem_rot2
end
noncomputable abbrev SGW : List Str := [Str.ofString "b", Str.ofString "t", Str.ofString "n", Str.ofString "v", Str.ofString "f", Str.ofString "r", Str.ofString "0a", Str.ofString "'", Str.ofString "\"", Str.ofString "\\", Str.ofString "q"]
noncomputable def sgT (y : Str) : Str := if y = Str.ofString "b" then ⟨#[8]⟩ else if y = Str.ofString "t" then ⟨#[9]⟩ else if y = Str.ofString "n" then ⟨#[10]⟩ else if y = Str.ofString "v" then ⟨#[11]⟩ else if y = Str.ofString "f" then ⟨#[12]⟩ else if y = Str.ofString "r" then ⟨#[13]⟩ else if y = Str.ofString "0a" then ⟨#[0, 97]⟩ else y
theorem sg2 {y : Str} (h : y ∈ SGW) : SignMade (sgT y) (Str.ofString "\\" ++ y) false false 0 := by
  have key : ∀ y ∈ SGW, ((sgT y).cps.toList, (Str.ofString "\\" ++ y : Str).cps.toList, false, false, 0) ∈ ST := by decide +kernel
  exact sign_made (key y h)
theorem law_sign_c {W : Wd} {B : BoxId} {b : BoxSt} {rest : Led} {q : AV} (hA : boxA B rest) (hc : BoxOk b) : CC W 5 (boxL B b rest) 471 [.is (.ref B.bx), q] SigT (SigP B rest) (fun x => .is (.ref x.a)) (fun x => boxL B x.b ((x.a, tupO x.vs) :: rest)) := by
  refine fn2 (x1 := Str.ofString "box") (x2 := Str.ofString "quote") (us := [Str.ofString "form", Str.ofString "code", Str.ofString "word", Str.ofString "told", Str.ofString "number", Str.ofString "behind", Str.ofString "sign"]) (by k_is) (by k_is) (Mine.ok_of ?hok) (fun _ _ => rfl) rfl rfl ?e3 ?H
  walk_at "S fn"
  rename_i c R hR
  refine' SS_tupC (X1 := Int × BoxSt) (X2 := Int × BoxSt) (P1 := fun x => 0 ≤ x.1 ∧ x.1 < 9 ∧ BoxOk x.2) (P2 := fun _ x => x.1 ∈ CODES ∧ BoxOk x.2) (fV1 := fun x => .int x.1) (fV2 := fun _ x => .int x.1) (fn1 := fun x => boxL B x.2 rest) (fn2 := fun _ x => boxL B x.2 rest) (by walk_at "S take") (fun y hy => ?e2) rfl rfl (fun _ _ => ?s2) (fun _ _ => ?s1) rfl ?hw ?_
  case e2 =>
    have hb := hy.2.2
    walk_at "S pickI"
  case hw => kernel_rfl
  case s2 => walk_at "S p"
  case s1 => walk_at "S p"
  rintro ⟨form, b1⟩ ⟨code, b2⟩ ⟨hf0, hf1, -⟩ ⟨hy, hb⟩
  dsimp only at hy hf0 hf1 hb ⊢
  obtain ⟨w1, w2, w3, w4⟩ := codes_bnd hy
  have l0 : (Str.ofString "\\u").length = 2 := by decide +kernel
  have l1 : (Str.ofString "\\x").length = 2 := by decide +kernel
  have l2 : (Str.ofString "\\").length = 1 := by decide +kernel
  have w8 := hex_len (n := code.toNat) (k := 4)
  have w9 := hex_len (n := (code.fmod 256).toNat) (k := 2)
  walk_at "S s"
  · intro _
    refine' sg_ret hR hA hb _ _ _ _ 0 ?ha0 ?hv0 (sg0 hy rfl)
    case ha0 => walk_at "S a"
    case hv0 => rfl
  intro _
  walk_at "S s"
  · intro _
    refine' sg_ret hR hA hb _ _ _ _ 0 ?ha1 ?hv1 (sg1 hy rfl)
    case ha1 => walk_at "S a"
    case hv1 => rfl
  intro _
  walk_at "S s"
  · intro _
    refine' SS_setC (X := Str × BoxSt) (P := fun x => x.1 ∈ SGW ∧ BoxOk x.2) (fV := fun x => .str x.1) (fn := fun x => boxL B x.2 rest) (by walk_at "S pickS") rfl (fun _ => by walk_at "S p") ?_
    rintro ⟨y, b3⟩ ⟨hy3, hb3⟩
    dsimp only at hy3 hb3 ⊢
    have l3 : ∀ y ∈ SGW, y.length ≤ 2 := by decide +kernel
    have l4 := l3 _ hy3
    refine' SS_set (V := .str (sgT y)) ?he ?pl ?sp ?_
    case pl => exact rfl
    case sp => walk_at "S p"
    case he =>
      intro ok s m Q r F N ret
      obtain ⟨v, hv, t, rfl⟩ := r.at (x := Str.ofString "word") (V := .str y) (.tail _ (.tail _ (.tail _ (.tail _ (.head _))))) rfl
      have B0 := ok.B
      have X0 := ok.X
      have T0 := ok.T
      repeat' (first | walk1 | (dsimp only; walk1))
      refine EP_name (S := Sc.mk _ 4 _) (n := (_, _) :: boxL B b3 rest) (V := .str y) (.tail _ (.tail _ (.tail _ (.tail _ (.head _))))) rfl ok _ m _ r (by assumption) (by assumption) ?_
      rintro _ _ h8 tk8 ⟨⟨t8, rfl⟩, rfl⟩ F8 N8
      repeat' (first | walk1 | (dsimp only; walk1))
      refine EP_name (S := Sc.mk _ 4 _) (n := (_, _) :: boxL B b3 rest) (V := .str y) (.tail _ (.tail _ (.tail _ (.tail _ (.head _))))) rfl ok _ m _ r (by assumption) (by assumption) ?_
      rintro _ _ h9 tk9 ⟨⟨t9, rfl⟩, rfl⟩ F9 N9
      repeat' (first | walk1 | (dsimp only; walk1))
      rename PyProof.V.Flat _ _ => hv9
      refine ret _ _ h9 _ ⟨?_, rfl⟩ F9 (news_tl N9)
      rcases sg2_list hy3 with rfl | rfl | rfl | rfl | rfl | rfl | rfl | rfl | rfl | rfl | rfl <;> exact flat_str hv9 (by kernel_rfl)
    refine' sg_ret hR hA hb3 _ _ _ _ 0 ?ha2 ?hv2 (sg2 hy3)
    case ha2 => walk_at "S a"
    case hv2 => rfl
  intro _
  walk_at "S s"
  · intro _
    refine' sg_ret2 hR hA _ _ _ 1 (Y := fun y => y ∈ [Str.ofString "\n", Str.ofString "\r\n", Str.ofString "\r", Str.ofString "\u2028", Str.ofString "\u2029"]) ?h13 (EC_catr (X := Str × BoxSt) (P := fun x => x.1 ∈ [Str.ofString "\n", Str.ofString "\r\n", Str.ofString "\r", Str.ofString "\u2028", Str.ofString "\u2029"] ∧ BoxOk x.2) (f := fun x => x.1) (by walk_at "S e") (by walk_at "S pickS") ?z3) rfl rfl rfl (fun y hy2 => sg3 hy2)
    case h13 => walk_at "S e"
    case z3 =>
      rintro ⟨x, _⟩ ⟨hx, _⟩
      have h9 : ∀ x ∈ [Str.ofString "\n", Str.ofString "\r\n", Str.ofString "\r", Str.ofString "\u2028", Str.ofString "\u2029"], x.length ≤ 5 := by decide +kernel
      have h10 := h9 _ hx
      dsimp only at h10 ⊢
      omega
  intro _
  walk_at "S s"
  · intro _
    refine' SS_tupC (X1 := Int × BoxSt) (X2 := Str × BoxSt) (P1 := fun x => x.1 ∈ OCTS ∧ BoxOk x.2) (P2 := fun _ x => x.1 ∈ [Str.ofString "a", Str.ofString ".", Str.ofString "-"] ∧ BoxOk x.2) (fV1 := fun x => .int x.1) (fV2 := fun _ x => .str x.1) (fn1 := fun x => boxL B x.2 rest) (fn2 := fun _ x => boxL B x.2 rest) (by walk_at "S pickI") (fun y hy => ?e24) rfl rfl (fun _ _ => ?s24) (fun _ _ => ?s14) rfl ?hw4 ?_
    case e24 =>
      have hb := hy.2
      walk_at "S pickS"
    case hw4 => kernel_rfl
    case s24 => walk_at "S p"
    case s14 => walk_at "S p"
    rintro ⟨num, b4⟩ ⟨y, b5⟩ ⟨hn, -⟩ ⟨hy5, hb5⟩
    dsimp only at hn hy5 hb5 ⊢
    obtain ⟨v1, v2, v3⟩ := octs_bnd hn
    have l3 : ∀ x ∈ [Str.ofString "a", Str.ofString ".", Str.ofString "-"], x.length ≤ 1 := by decide +kernel
    have l4 := l3 _ hy5
    have l5 := PyProof.Txt.length_slice_le (baseText "0o" 8 num) (some 2) none
    have l6 : (⟨#[num.toNat]⟩ : Str).length = 1 := rfl
    refine' sg_ret hR hA hb5 _ _ _ _ 0 ?ha4 ?hv4 (sg4 hn hy5 rfl)
    case ha4 => walk_at "S a"
    case hv4 => rfl
  intro _
  refine' SS_setC (X := Str × BoxSt) (P := fun x => x.1 ∈ [Str.ofString "a", Str.ofString "5", Str.ofString "//", Str.ofString "/*", Str.ofString " ", Str.ofString "\t", Str.ofString "é", Str.ofString "\ufeff", Str.ofString "x"] ∧ BoxOk x.2) (fV := fun x => .str x.1) (fn := fun x => boxL B x.2 rest) (by walk_at "S pickS") rfl (fun _ => by walk_at "S p") ?_
  rintro ⟨y, b3⟩ ⟨hy3, hb3⟩
  dsimp only at hy3 hb3 ⊢
  refine' sg_ret hR hA hb3 _ _ _ _ 0 ?ha6 ?hv6 (sg5 hy3)
  case ha6 => walk_at "S a"
  case hv6 => rfl
theorem gf_law_sign : GF (Str.ofString "_law_sign") 471 := ⟨fun P => by k_is, fun P => by k_is, by decide +kernel⟩
end Mine
namespace Mine
noncomputable def BodyMade (q : Int) (value body : List Nat) (o p : Bool) (m : Nat) : Prop :=
  ∀ (r cs : List Nat) (k : Nat) (o' p' : Bool) (m' : Nat), hd1 r ≠ 10 → TextRun q r cs k o' p' m' → TextRun q (body ++ r) (value ++ cs) (body.length + k) (o || o') (p && p') (m + m')
theorem body_nil {q : Int} : BodyMade q [] [] false true 0 := by
  intro r cs k o' p' m' _ H
  simpa using H
theorem body_snoc {q : Int} (hq : q = 34 ∨ q = 39) {value body : List Nat} {o p : Bool} {m : Nat} {told text : Str} {o2 p2 : Bool} {m2 : Nat} (H : BodyMade q value body o p m) (S : SignMade told text o2 p2 m2) : BodyMade q (value ++ told.cps.toList) (body ++ text.cps.toList) (o || o2) (p && p2) (m + m2) := by
  intro r cs k o' p' m' hr R
  have hl : text.length = text.cps.toList.length := by show text.cps.size = _; simp
  have hne : text.cps.toList ≠ [] := by
    intro e
    have := S.pos
    rw [hl, e] at this; cases this
  have key := H _ _ _ _ _ _ (by rw [hd1_app hne]; exact S.head) (S.run q hq hr R)
  rw [hl] at key
  rw [List.append_assoc, List.append_assoc, List.length_append, Nat.add_assoc, Bool.or_assoc, Bool.and_assoc, Nat.add_assoc]
  exact key
theorem app_cps (x y : Str) : (x ++ y).cps.toList = x.cps.toList ++ y.cps.toList := by
  show (x.cps ++ y.cps).toList = _
  rw [Array.toList_append]
theorem body_on {q : Int} (hq : q = 34 ∨ q = 39) {v x : Str} {qc : Nat} {body : List Nat} {o p : Bool} {m : Nat} {told text : Str} {o2 p2 : Bool} {m2 : Nat} (hx : x.cps.toList = qc :: body) (H : BodyMade q v.cps.toList body o p m) (S : SignMade told text o2 p2 m2) :
    ∃ body', (x ++ text).cps.toList = qc :: body' ∧ BodyMade q (v ++ told).cps.toList body' (o || o2) (p && p2) (m + m2) := by
  refine ⟨body ++ text.cps.toList, by rw [app_cps, hx]; rfl, ?_⟩
  rw [app_cps]
  exact body_snoc hq H S
theorem codes_app {x y : Str} (h1 : ∀ d ∈ x.cps.toList, d < 1114112) (h2 : ∀ d ∈ y.cps.toList, d < 1114112) : ∀ d ∈ (x ++ y).cps.toList, d < 1114112 := by
  rw [app_cps]
  intro d hd
  rcases List.mem_append.mp hd with hd | hd
  · exact h1 d hd
  · exact h2 d hd
structure XS where
  box : BoxSt
  v : Str
  tv : Tok
  x : Str
  tx : Tok
  o : Bool
  p : Bool
  m : Nat
  tm : Tok
noncomputable def QS : List Str := [Str.ofString "'", Str.ofString "\""]
theorem qs_code {y : Str} (h : y ∈ QS) : ∃ c : Nat, y.cps.toList = [c] ∧ ((c : Int) = 34 ∨ (c : Int) = 39) ∧ y.length = 1 := by
  have key : ∀ y ∈ QS, (y.cps.toList = [34] ∨ y.cps.toList = [39]) ∧ y.length = 1 := by decide +kernel
  obtain ⟨h1 | h1, h2⟩ := key y h
  · exact ⟨34, h1, .inl rfl, h2⟩
  · exact ⟨39, h1, .inr rfl, h2⟩
/-- what the makers of a token with its ends of lines hand back -/
noncomputable def MadeOne (B : BoxId) (rest : Led) (v : Value) (n : Led) : Prop :=
  ∃ (a b : Addr) (c' : BoxSt) (kind text : Str) (tv : Tv) (o p : Bool) (m : Nat) (t1 t2 t3 t4 : Tok), v = .ref a ∧ BoxOk c' ∧ n = boxL B c' ((a, ({ cls := .type "tuple", data := .seq #[.ref b, .int m t4] } : Obj)) :: (b, ({ cls := .type "tuple", data := .seq #[.str kind t1, tv.val t2, .str text t3, .bool o, .bool p] } : Obj)) :: rest) ∧ (@LT.lt Nat _ B.bx a ∧ @LT.lt Nat _ B.il a ∧ AllLt a rest) ∧ (@LT.lt Nat _ B.bx b ∧ @LT.lt Nat _ B.il b ∧ AllLt b rest) ∧ TokMade kind tv text o p m
section
variable {w : World} {mg mb : Str → Option Value} {mean : ExcName → Option Value} {d : Nat} {c : Sem Value} {news : Led} {dp un : Nat} {gd : Option (List Code)} {cn : Str} {cs : Scope} {a : Addr} {ccd : Value} {cl : List (Str × Addr)} {outer : List Env} {A₀ : Around} {base h₀ : Heap} {L : Addr} {m : Str → Option Value} {s : Shared} {Q E : Value → Shared → Prop} (N : News h₀ L s.heap news) (B : Below A₀ base outer h₀) (F : Fr h₀ L s.heap m) (X : (hpK w.params).In h₀) (T : Top hpV (looseW hpV LS) mean mg mb h₀) (hk : cs.kind = .function)
include N B F X T hk
end
theorem text_made {v x y : Str} {qc : Nat} {body : List Nat} {o p : Bool} {m : Nat} (hy : y.cps.toList = [qc]) (hq : (qc : Int) = 34 ∨ (qc : Int) = 39) (hx : x.cps.toList = qc :: body) (hb : BodyMade qc v.cps.toList body o p m) (h1 : v.length ≤ 12) (h2 : x.length ≤ 20) (h3 : ∀ d ∈ x.cps.toList, d < 1114112) : TokMade (Str.ofString "text") (.s v) (x ++ y) o p m := by
  have hl : ∀ z : Str, z.length = z.cps.toList.length := fun z => by show z.cps.size = _; simp
  have hc : (x ++ y).cps.toList = qc :: (body ++ [qc]) := by
    show (x.cps ++ y.cps).toList = _
    rw [Array.toList_append, hx, hy]; rfl
  have hlx := hl x
  rw [hx, List.length_cons] at hlx
  have hln : (x ++ y).length = 1 + (body.length + 1) := by
    rw [hl, hc, List.length_cons, List.length_append, List.length_singleton]; omega
  have hq2 : isLineEnd (qc : Int) = false ∧ isWhite (qc : Int) = false ∧ (qc : Int) ≠ 47 := by
    rcases hq with e | e <;> (rw [e]; decide)
  refine ⟨by omega, by omega, ?_, fun r g => ?_, fun r g => ?_⟩
  · rw [hc]
    intro d hd
    rcases List.mem_cons.mp hd with rfl | hd
    · omega
    · rcases List.mem_append.mp hd with hd | hd
      · exact h3 d (by rw [hx]; exact .tail _ hd)
      · have := List.mem_singleton.mp hd; omega
  · rw [hc, hln]
    have R := hb (qc :: r) [] 1 false true 0 (by show (qc : Int) ≠ 10; omega) (TextRun.close (l := qc :: r) rfl)
    rw [List.append_nil, Bool.or_false, Bool.and_true, Nat.add_zero] at R
    have key := TokRun.text (l := qc :: (body ++ [qc]) ++ r) (q := (qc : Int)) (cs := v.cps.toList) (k := body.length + 1) (o := o) (p := p) (n := m) rfl hq (by
      show TextRun _ ((body ++ [qc]) ++ r) _ _ _ _ _
      rw [List.append_assoc]; exact R) (by rw [← hl]; omega) (by omega)
    have hv : (⟨v.cps.toList.toArray⟩ : Str) = v := by cases v; simp
    rw [hv] at key
    exact key
  · rw [hc]
    exact skip_of (by simp) hq2.1 hq2.2.1 hq2.2.2
section
variable {w : World} {mg mb : Str → Option Value} {mean : ExcName → Option Value} {news : Led}
end
end Mine
namespace Mine
structure MO where
  a : Addr
  ib : Addr
  b : BoxSt
  vs : List Value
  ws : List Value
  kind : Str
  tv : Tv
  text : Str
  o : Bool
  p : Bool
  m : Nat
noncomputable def MOP (B : BoxId) (rest : Led) (x : MO) : Prop := BoxOk x.b ∧ HasAll (mtV x.kind x.tv x.text x.o x.p) x.vs ∧ HasAll [.is (.ref x.ib), .int x.m] x.ws ∧ TokMade x.kind x.tv x.text x.o x.p x.m ∧ boxA B ((x.a, tupO x.ws) :: (x.ib, tupO x.vs) :: rest)
noncomputable abbrev moL (B : BoxId) (rest : Led) (x : MO) : Led := boxL B x.b ((x.a, tupO x.ws) :: (x.ib, tupO x.vs) :: rest)
noncomputable abbrev CMO (W : Wd) (d : Nat) (B : BoxId) (b : BoxSt) (rest : Led) (f : Addr) : Prop := CC W d (boxL B b rest) f [.is (.ref B.bx)] MO (MOP B rest) (fun x => .is (.ref x.a)) (moL B rest)
section
variable {c : Cx} {S : Sc} {l l' : Loc} {n : Led} {R : AV → Led → Prop} {K : Loc → Led → Prop} {rest : Led} {B : BoxId} {b : BoxSt} {ss : List Stmt} {k : Nat} {p1 p2 : Pos}
theorem EC_mt {es : List Expr} {m : Nat} (hA : boxA B rest) (hb : BoxOk b) (kind : Str) (tv : Tv) (text : Str) (o p : Bool) {V : AV} (ha : EA c S l (boxL B b rest) p1 es [.str kind, V, .str text, .is (.bool o), .is (.bool p)]) (hV : V = tv.av) (hm : TokMade kind tv text o p m) :
    EC c S l (boxL B b rest) (.Tuple es k p1) MT (MTP B rest m) (fun x => .is (.ref x.a)) (fun x => boxL B x.b ((x.a, tupO x.vs) :: rest)) := by
  subst hV
  intro ok s mm Q r F N ret
  refine EC_tup (Vs := mtV kind tv text o p) ha rfl ok s mm Q r F N (fun v n' h' tk' hp F' N' => ?_)
  obtain ⟨x, hx, hv, rfl⟩ := hp
  exact ret v _ h' tk' ⟨⟨x.1, b, x.2, kind, tv, text, o, p⟩, ⟨hb, hx.1, hm, boxA_cons hA hx.2⟩, hv, rfl⟩ F' (news_sub N' mem_rot2)
theorem one_ret {e1 e2 : Expr} {m : Nat} {i : Int} (hR : ∀ (x : MO) (V : AV) (n' : Led), MOP B rest x → V = .is (.ref x.a) → (∀ p ∈ moL B rest x, p ∈ n') → R V n') (h1 : EC c S l (boxL B b rest) e1 MT (MTP B rest m) (fun x => .is (.ref x.a)) (fun x => boxL B x.b ((x.a, tupO x.vs) :: rest))) (g1 : plainE e1 = true)
    (h2 : ∀ b' q, EP c S l (boxL B b' (q :: rest)) e2 (.int i)) (g2 : plainE e2 = true) (hi : i = m) : SS c S R l (boxL B b rest) (.Return (some (.Tuple [e1, e2] k p1)) p2 :: ss) K := by
  subst hi
  refine SS_retC (EC_tupK (AK_c h1 g1 fun x hx => EA_cons (h2 x.b _) g2 EA_nil) (fun _ => (by decide : 2 ≤ 1000))) ?_
  rintro ⟨x, D, ws⟩ ⟨⟨h3, h4, h5, h6⟩, h7, h8⟩
  exact hR ⟨D, x.a, x.b, x.vs, ws, x.kind, x.tv, x.text, x.o, x.p, m⟩ _ _ ⟨h3, h4, h7, h5, boxA_cons h6 h8⟩ rfl mem_rot2
end
theorem mem_io {a b c d : Addr × Obj} {r : Led} : ∀ p ∈ a :: b :: c :: r, p ∈ b :: c :: d :: a :: r := by
  intro p hp
  simp only [List.mem_cons] at hp ⊢
  rcases hp with h | h | h | h <;> simp [h]
structure XT where
  b : BoxSt
  v : Str
  x : Str
  o : Bool
  p : Bool
  m : Nat
theorem law_text_c {W : Wd} {B : BoxId} {b : BoxSt} {rest : Led} (hA : boxA B rest) (hc : BoxOk b) : CMO W 6 B b rest 478 := by
  refine fn1 (x1 := Str.ofString "box") (us := [Str.ofString "quote", Str.ofString "value", Str.ofString "text", Str.ofString "is_octal", Str.ofString "is_plain", Str.ofString "lines", Str.ofString "turn", Str.ofString "told"]) (by k_is) (by k_is) (Mine.ok_of ?hok) (fun _ => rfl) rfl rfl ?e3 ?H
  walk_at "S fn"
  rename_i c R hR
  refine' SS_setC (X := Str × BoxSt) (P := fun x => x.1 ∈ QS ∧ BoxOk x.2) (fV := fun x => .str x.1) (fn := fun x => boxL B x.2 rest) (by walk_at "S pickS") rfl (fun _ => by walk_at "S p") ?_
  rintro ⟨y, b1⟩ ⟨hy, hb1⟩
  dsimp only at hy hb1 ⊢
  obtain ⟨qc, hqc, hq2, hql⟩ := qs_code hy
  walk_at "S s"
  refine' SS_rangeC (X := Int × BoxSt) (P := fun x => 0 ≤ x.1 ∧ x.1 < 4 ∧ BoxOk x.2) (fN := fun x => x.1.toNat) (fn0 := fun x => boxL B x.2 rest) ?hk ?he ?hp ?hs ?_
  case hk => kernel_rfl
  case hp => exact rfl
  case hs => exact fun _ => rfl
  case he =>
    intro ok s m Q r F N ret
    refine EC_take (wide := 4) (by kernel_rfl) (by walk_at "S e") EP_int rfl hA hb1 (by decide) (by decide) rfl ok s m Q r F N (fun v n' h' tk' hp F' N' => ?_)
    obtain ⟨x, hx, ⟨t, rfl⟩, rfl⟩ := hp
    exact ret _ _ h' tk' ⟨x, hx, ⟨t, by rw [Int.toNat_of_nonneg hx.1]⟩, rfl⟩ F' N'
  rintro ⟨kk, b2⟩ ⟨hk0, hk1, hb2⟩
  dsimp only at hk0 hk1 hb2 ⊢
  obtain ⟨n, hn⟩ := Int.eq_ofNat_of_zero_le hk0
  subst hn
  rw [Int.toNat_natCast]
  refine ⟨XT, fun x => [(Str.ofString "box", .is (.ref B.bx)), (Str.ofString "quote", .str y), (Str.ofString "value", .str x.v), (Str.ofString "text", .str x.x), (Str.ofString "is_octal", .is (.bool x.o)), (Str.ofString "is_plain", .is (.bool x.p)), (Str.ofString "lines", .int x.m), (Str.ofString "turn", .un), (Str.ofString "told", .un)],
    fun x i => [(Str.ofString "box", .is (.ref B.bx)), (Str.ofString "quote", .str y), (Str.ofString "value", .str x.v), (Str.ofString "text", .str x.x), (Str.ofString "is_octal", .is (.bool x.o)), (Str.ofString "is_plain", .is (.bool x.p)), (Str.ofString "lines", .int x.m), (Str.ofString "turn", .int i), (Str.ofString "told", .un)],
    fun x => boxL B x.b rest, fun x io => boxL B x.b (io :: rest),
    fun k c => k ≤ n ∧ BoxOk c.b ∧ c.v.length ≤ 4 * k ∧ c.x.length ≤ 1 + 6 * k ∧ (∀ d ∈ c.x.cps.toList, d < 1114112) ∧ ∃ body, c.x.cps.toList = qc :: body ∧ BodyMade qc c.v.cps.toList body c.o c.p c.m,
    ⟨b2, Str.ofString "", y, false, true, 0⟩, ?small, ?h0, LeR.refl _, fun _ h => h, fun _ => rfl, fun _ _ => mem_rot2, fun _ _ => by walk_at "S p", ?turn, ?done⟩
  case small => omega
  case h0 => exact ⟨Nat.zero_le _, hb2, Nat.zero_le _, by dsimp only; omega, by dsimp only; rw [hqc]; intro d hd; have := List.mem_singleton.mp hd; omega, [], hqc, body_nil⟩
  case turn =>
    rintro i ⟨bx, v, x, o, p, m⟩ io hi ⟨h1, h2, h3, h4, h5, body, h6, h7⟩ hio K' hK'
    dsimp only at h2 h3 h4 h5 h6 h7 ⊢
    have hA2 : boxA B (io :: rest) := boxA_cons (b := b2) hA hio
    refine' SS_setC (EC_call gf_law_sign ?kc1 (by walk_at "S a") rfl (law_sign_c hA2 h2) rfl) rfl (fun _ => by walk_at "S p") ?_
    case kc1 => kernel_rfl
    intro z hz
    have hz1 := hz.1
    have hz2 := hz.2.1
    have hz3 := hz.2.2.1
    have hl4 := hz3.tl4
    have hl2 := hz3.len
    refine' SS_tupS2 (EP_cat (y := z.told) (by walk_at "S e") (EP_titem (by walk_at "S e") EP_int (.tail _ (.tail _ (.head _))) hz2 rfl (by decide) (by decide) rfl (fun _ => rfl)) (by omega)) (EP_cat (y := z.text) (by walk_at "S e") (EP_titem (by walk_at "S e") EP_int (.tail _ (.tail _ (.head _))) hz2 rfl (by decide) (by decide) rfl (fun _ => rfl)) (by omega)) rfl rfl ?t2 ?t1 ?tw ?_
    case tw => kernel_rfl
    case t2 => walk_at "S p"
    case t1 => walk_at "S p"
    refine' SS_tupS3 (EP_orb (y := z.o) (by walk_at "S e") (fun _ => EP_titem (by walk_at "S e") EP_int (.tail _ (.tail _ (.head _))) hz2 rfl (by decide) (by decide) rfl (fun _ => rfl))) (EP_andb (y := z.p) (by walk_at "S e") (fun _ => EP_titem (by walk_at "S e") EP_int (.tail _ (.tail _ (.head _))) hz2 rfl (by decide) (by decide) rfl (fun _ => rfl))) (EP_add (j := z.m) (by walk_at "S e") (EP_titem (by walk_at "S e") EP_int (.tail _ (.tail _ (.head _))) hz2 rfl (by decide) (by decide) rfl (fun _ => rfl))) rfl rfl rfl ?u3 ?u2 ?u1 ?uw ?_
    case uw => kernel_rfl
    case u3 => walk_at "S p"
    case u2 => walk_at "S p"
    case u1 => walk_at "S p"
    walk_at "S n"
    rw [← Int.natCast_add]
    refine hK' ⟨z.b, v ++ z.told, x ++ z.text, o || z.o, p && z.p, m + z.m⟩ _ _ ⟨hi, hz1, ?_, ?_, codes_app h5 hz3.codes, body_on hq2 h6 h7 hz3⟩ ?_ ?_
    · dsimp only; rw [app_len]; omega
    · dsimp only; rw [app_len]; omega
    · exact .same (.same (.same (.same (.same (.same (.same (.un (.un .nil))))))))
    · exact mem_io
  case done =>
    rintro ⟨bx, v, x, o, p, m⟩ ⟨h1, h2, h3, h4, h5, body, h6, h7⟩
    dsimp only at h2 h3 h4 h5 h6 h7 ⊢
    have hm : TokMade (Str.ofString "text") (.s v) (x ++ y) o p m := text_made hqc hq2 h6 h7 (by omega) (by omega) h5
    refine' one_ret hR (EC_mt hA h2 _ (.s _) _ _ _ ?ha ?hv hm) rfl (fun b' q => ?h2) rfl rfl
    case ha => walk_at "S a"
    case hv => rfl
    case h2 => walk_at "S e"
theorem gf_law_text : GF (Str.ofString "_law_text") 478 := ⟨fun P => by k_is, fun P => by k_is, by decide +kernel⟩
end Mine
namespace Mine
section
variable {c : Cx} {S : Sc} {l l' : Loc} {n : Led} {R : AV → Led → Prop} {K : Loc → Led → Prop} {p p1 p2 : Pos}
noncomputable def freshOn (ex n : Led) : Prop := ∀ p ∈ ex, ∀ q ∈ n, @LT.lt Nat _ q.1 p.1
/-- arguments that lay objects of their own ahead of the ledger -/
noncomputable def EL (c : Cx) (S : Sc) (l : Loc) (n : Led) (p : Pos) (es : List Expr) (P : List Value → Led → Prop) : Prop := CE c S l n (spliced (backTo p (starEach es (c.env S)))) (fun vs n' => ∃ ex, n' = ex ++ n ∧ P vs ex ∧ freshOn ex n)
theorem fresh_nil {n : Led} : freshOn [] n := by intro p hp; cases hp
theorem EL_strs {es : List Expr} {L : List Str} (h : conStrs es = some L) : EL c S l n p es (fun vs _ => HasAll (L.map AV.str) vs) := by
  intro ok s m Q r F N ret
  have h2 := EA_strs (c := c) (S := S) (l := l) (n := n) (p := p) h
  refine h2 ok s m Q r F N (fun vs n' h' tk' hp F' N' => ?_)
  exact ret vs n' h' tk' ⟨[], hp.2, hp.1, fresh_nil⟩ F' N'
inductive PairsIn : List (Str × Int) → List Value → Led → Prop
  | nil {ex : Led} : PairsIn [] [] ex
  | cons {g : Str} {m : Int} {L : List (Str × Int)} {a : Addr} {ws vs : List Value} {ex : Led} : (a, tupO ws) ∈ ex → HasAll [.str g, .int m] ws → PairsIn L vs ex → PairsIn ((g, m) :: L) (.ref a :: vs) ex
theorem PairsIn.mono {L : List (Str × Int)} {vs : List Value} {ex ex' : Led} (h : PairsIn L vs ex) (hs : ∀ p ∈ ex, p ∈ ex') : PairsIn L vs ex' := by
  induction h with
  | nil => exact .nil
  | cons h1 h2 _ ih => exact .cons (hs _ h1) h2 (ih hs)
theorem PairsIn.app {L L' : List (Str × Int)} {vs vs' : List Value} {ex : Led} (h : PairsIn L vs ex) (g : PairsIn L' vs' ex) : PairsIn (L ++ L') (vs ++ vs') ex := by
  induction h with
  | nil => exact g
  | cons h1 h2 _ ih => exact .cons h1 h2 (ih g)
theorem PairsIn.get {L : List (Str × Int)} {vs : List Value} {ex : Led} (h : PairsIn L vs ex) {i : Nat} {v : Value} (hi : vs[i]? = some v) : ∃ (g : Str) (m : Int) (a : Addr) (ws : List Value), (g, m) ∈ L ∧ v = .ref a ∧ (a, tupO ws) ∈ ex ∧ HasAll [.str g, .int m] ws := by
  induction h generalizing i with
  | nil => cases hi
  | cons h1 h2 _ ih =>
    cases i with
    | zero => cases hi; exact ⟨_, _, _, _, .head _, rfl, h1, h2⟩
    | succ i =>
      obtain ⟨g, m, a, ws, a1, a2, a3, a4⟩ := ih hi
      exact ⟨g, m, a, ws, .tail _ a1, a2, a3, a4⟩
theorem PairsIn.len {L : List (Str × Int)} {vs : List Value} {ex : Led} (h : PairsIn L vs ex) : vs.length = L.length := by
  induction h with
  | nil => rfl
  | cons _ _ _ ih => rw [List.length_cons, List.length_cons, ih]
noncomputable def strOf : Expr → Option Str
  | .Constant c _ _ => (match c with | .str x => some x | _ => none)
  | _ => none
noncomputable def intOf : Expr → Option Int
  | .Constant c _ _ => (match c with | .int x => some x | _ => none)
  | _ => none
theorem strOf_eq {e : Expr} {x : Str} (h : strOf e = some x) : ∃ k p, e = .Constant (.str x) k p := by
  cases e with
  | Constant v k p =>
    cases v with
    | str y => cases h; exact ⟨_, _, rfl⟩
    | _ => cases h
  | _ => cases h
theorem intOf_eq {e : Expr} {x : Int} (h : intOf e = some x) : ∃ k p, e = .Constant (.int x) k p := by
  cases e with
  | Constant v k p =>
    cases v with
    | int y => cases h; exact ⟨_, _, rfl⟩
    | _ => cases h
  | _ => cases h
noncomputable def twoOf : List Expr → Option (Str × Int)
  | [a, b] => (strOf a).bind fun g => (intOf b).map fun m => (g, m)
  | _ => none
theorem twoOf_eq {es : List Expr} {g : Str} {m : Int} (h : twoOf es = some (g, m)) : ∃ k1 q1 k2 q2, es = [.Constant (.str g) k1 q1, .Constant (.int m) k2 q2] := by
  match es, h with
  | [a, b], h =>
    have h' : ((strOf a).bind fun g => (intOf b).map fun m => (g, m)) = some (g, m) := h
    cases h1 : strOf a with
    | none => rw [h1] at h'; cases h'
    | some g' =>
      cases h2 : intOf b with
      | none => rw [h1, h2] at h'; cases h'
      | some m' =>
        rw [h1, h2] at h'
        cases h'
        obtain ⟨k1, q1, rfl⟩ := strOf_eq h1
        obtain ⟨k2, q2, rfl⟩ := intOf_eq h2
        exact ⟨_, _, _, _, rfl⟩
noncomputable def pairOf : Expr → Option (Str × Int)
  | .Tuple es _ _ => twoOf es
  | _ => none
theorem pairOf_eq {e : Expr} {g : Str} {m : Int} (h : pairOf e = some (g, m)) : ∃ k1 q1 k2 q2 k q, e = .Tuple [.Constant (.str g) k1 q1, .Constant (.int m) k2 q2] k q := by
  cases e with
  | Tuple es k q =>
    obtain ⟨_, _, _, _, rfl⟩ := twoOf_eq (es := es) h
    exact ⟨_, _, _, _, _, _, rfl⟩
  | _ => cases h
noncomputable def conPairs : List Expr → Option (List (Str × Int))
  | [] => some []
  | e :: r => (pairOf e).bind fun x => (conPairs r).map (x :: ·)
theorem EL_pair {g : Str} {m : Int} {k1 k2 k : Nat} {q1 q2 q : Pos} {es : List Expr} {L : List (Str × Int)} (ih : ∀ {n : Led}, EL c S l n p es (fun vs ex => PairsIn L vs ex)) : EL c S l n p (.Tuple [.Constant (.str g) k1 q1, .Constant (.int m) k2 q2] k q :: es) (fun vs ex => PairsIn ((g, m) :: L) vs ex) := by
  intro ok s mm Q r F N ret
  refine args_cons ?_ rfl
  refine EC_tup (EA_cons EP_str rfl (EA_cons EP_int rfl EA_nil)) rfl ok s mm _ r F N (fun v n' h' tk' hp F' N' => ?_)
  obtain ⟨⟨a, ws⟩, ⟨hw, hf⟩, rfl, rfl⟩ := hp
  refine ih ok _ mm _ r F' N' (fun vs n2 h2 tk2 hq F2 N2 => ?_)
  obtain ⟨ex, rfl, hp, hfr⟩ := hq
  refine ret _ _ h2 _ ⟨ex ++ [(a, tupO ws)], by rw [List.append_assoc]; rfl, .cons (List.mem_append.mpr (.inr (.head _))) hw (hp.mono fun p hp => List.mem_append.mpr (.inl hp)), ?_⟩ F2 N2
  intro p hp q hq
  rcases List.mem_append.mp hp with hp | hp
  · exact hfr p hp q (.tail _ hq)
  · rw [List.mem_singleton.mp hp]; exact hf q hq
theorem conPairs_cons {e : Expr} {es : List Expr} {L : List (Str × Int)} (h : conPairs (e :: es) = some L) : ∃ g k1 q1 m k2 q2 k q L2, e = .Tuple [.Constant (.str g) k1 q1, .Constant (.int m) k2 q2] k q ∧ conPairs es = some L2 ∧ L = (g, m) :: L2 := by
  have h' : ((pairOf e).bind fun x => (conPairs es).map (x :: ·)) = some L := h
  cases h1 : pairOf e with
  | none => rw [h1] at h'; cases h'
  | some x =>
    cases h2 : conPairs es with
    | none => rw [h1, h2] at h'; cases h'
    | some L2 =>
      rw [h1, h2] at h'
      cases h'
      obtain ⟨_, _, _, _, _, _, rfl⟩ := pairOf_eq (g := x.1) (m := x.2) h1
      exact ⟨_, _, _, _, _, _, _, _, _, rfl, rfl, rfl⟩
theorem EL_pairs {es : List Expr} {L : List (Str × Int)} (h : conPairs es = some L) : EL c S l n p es (fun vs ex => PairsIn L vs ex) := by
  induction es generalizing L n with
  | nil =>
    cases h
    intro ok s m Q r F N ret
    exact args_nil (ret _ _ s.heap s.toks ⟨[], rfl, .nil, fresh_nil⟩ F N)
  | cons e es ih =>
    obtain ⟨g, k1, q1, m, k2, q2, k, q, L2, rfl, h2, rfl⟩ := conPairs_cons h
    exact EL_pair fun {n} => ih h2
theorem EC_listE {es : List Expr} {P : List Value → Led → Prop} (he : EL c S l n p es P) (hz : ∀ vs ex, P vs ex → vs.length ≤ 1000) : EC c S l n (.List es p) (List Value × Led × Addr) (fun x => P x.1 x.2.1 ∧ freshOn x.2.1 n ∧ ∀ q ∈ x.2.1 ++ n, @LT.lt Nat _ q.1 x.2.2) (fun x => .is (.ref x.2.2)) (fun x => (x.2.2, W.listOf x.1.toArray 0) :: (x.2.1 ++ n)) := by
  intro ok s m Q r F N ret
  refine List_ ?_
  refine he ok s m _ r F N (fun vs n' h' tk' hp F' N' => ?_)
  obtain ⟨ex, rfl, hv, hf⟩ := hp
  refine newList_K F' N' (fun D h2 F2 N2 hD => ?_) (Nat.le_trans (hz _ _ hv) (by decide))
  exact ret _ _ h2 _ ⟨(vs, ex, D), ⟨hv, hf, hD⟩, rfl, rfl⟩ F2 N2
theorem EC_addE {o : Expr} {es : List Expr} {P : List Value → Led → Prop} {l1 : Addr} {vs1 : List Value} {k1 : Nat} (ho : EP c S l n o (.is (.ref l1))) (hm : (l1, W.listOf vs1.toArray k1) ∈ n) (hz1 : vs1.length ≤ 1000) (he : EL c S l n p es P) (hz : ∀ vs ex, P vs ex → vs.length ≤ 1000) :
    EC c S l n (.BinOp o .Add (.List es p) p2) (List Value × Led × Addr) (fun x => P x.1 x.2.1 ∧ freshOn x.2.1 n ∧ ∀ q ∈ x.2.1 ++ n, @LT.lt Nat _ q.1 x.2.2) (fun x => .is (.ref x.2.2)) (fun x => (x.2.2, W.listOf (vs1 ++ x.1).toArray 0) :: (x.2.1 ++ n)) := by
  intro ok s m Q r F N ret
  refine wpAny_BinOp ?_
  refine ho ok s m _ r F N (fun va n' h' tk' hp F' N' => ?_)
  obtain ⟨rfl, rfl⟩ := hp
  refine EC_listE he hz ok _ m _ r F' N' (fun vb n2 h2 tk2 hp F2 N2 => ?_)
  obtain ⟨⟨vs, ex, D⟩, ⟨hv, hf, hD⟩, rfl, rfl⟩ := hp
  refine add_lists F2 N2 (News.isList N2 (.tail _ (List.mem_append.mpr (.inr hm)))) (News.isList N2 (.head _)) (fun h3 F3 N3 => ?_) (Nat.le_trans (Nat.add_le_add hz1 (hz _ _ hv)) (by decide))
  refine ret _ _ h3 _ ⟨(vs, ex, h2.objs.size), ⟨hv, hf, fun q hq => ?_⟩, rfl, rfl⟩ F3 (news_sub N3 fun p hp => ?_)
  · exact Heap.lt_size (N2 q (.tail _ hq)).1
  · cases hp with
    | head => exact .head _
    | tail _ hp => exact .tail _ (.tail _ hp)
end
theorem pick_var {c : Cx} {S : Sc} {l : Loc} {n : Led} {B : BoxId} {b : BoxSt} {big : Led} {y z : Str} {p p1 p2 p4 : Pos} {ch : Addr} {vs : List Value} {k : Nat} (hk : S.glob (Str.ofString "_law_pick") = true) (hb : EP c S l n (.Name y p1) (.is (.ref B.bx))) (hc1 : EP c S l n (.Name z p2) (.is (.ref ch))) (hn : ∀ p ∈ boxL B b big, p ∈ n) (hB : B.bx ≠ B.il) (h1 : ∀ p ∈ big, p.1 ≠ B.bx ∧ p.1 ≠ B.il) (hm : (ch, W.listOf vs.toArray k) ∈ big) (hc : BoxOk b) (h0 : 0 < vs.length) (h2 : vs.length ≤ 1000) (hd : Nat.ble 3 S.d = true) :
    EC c S l n (.Call (.Name (Str.ofString "_law_pick") p) [.Name y p1, .Name z p2] [] p4) (Value × BoxSt) (fun x => (∃ i : Nat, vs[i]? = some x.1) ∧ BoxOk x.2) (fun x => .is x.1) (fun x => boxL B x.2 big) := by
  intro ok s m Q r F N ret
  refine Call_ ?_
  refine nameX_K F ok.X (topRead_of ok.T) (gf_pick.1 _) ?_ ok.S.kind (Sc.glob_eq hk) gf_pick.2.2
  refine callWith_K ok.X (gf_pick.2.1 _) ?_ rfl rfl
  refine (EA_cons hb rfl (EA_cons hc1 rfl EA_nil)) ok s m _ r F N (fun vs n' h' tk' hq F' N' => ?_)
  obtain ⟨hv, rfl⟩ := hq
  obtain ⟨_, _, rfl, rfl, rfl⟩ := has2 hv
  refine ⟨ok.X.keeps F'.keep, ?_⟩
  refine call_fin (pick_d (W := c.W) hB (fun p hp => (h1 p hp).1) (fun p hp => (h1 p hp).2) hc hm h0 h2 [.ref B.bx, .ref ch] ⟨rfl, rfl, trivial⟩) hd ok F' (news_sub N' hn) (fun v n' h3 tk3 hp F3 N3 => ?_)
  obtain ⟨x, h4, h5, rfl⟩ := hp
  exact ret v _ h3 tk3 ⟨x, h4, h5, rfl⟩ F3 N3
structure GpT where
  a : Addr
  b : BoxSt
  ws : List Value
  g : Str
  m : Nat
noncomputable def GpP (B : BoxId) (rest : Led) (x : GpT) : Prop := BoxOk x.b ∧ HasAll [.str x.g, .int x.m] x.ws ∧ GapMade x.g x.m ∧ boxA B ((x.a, tupO x.ws) :: rest)
noncomputable abbrev GP1 : List (Str × Int) := [(Str.ofString " ", 0), (Str.ofString "\t", 0), (Str.ofString "\u00a0", 0), (Str.ofString "\n", 1), (Str.ofString "\r\n", 1), (Str.ofString "\r ", 1), (Str.ofString "\u2028", 1), (Str.ofString " // x */ 'a\n", 1)]
noncomputable abbrev GP2 : List (Str × Int) := [(Str.ofString " /* a **/", 0), (Str.ofString " /* // \n\r */", 2), (Str.ofString "\ufeff\x0b\x0c ", 0), (Str.ofString "\u2029 \n", 2), (Str.ofString " /***/ ", 0)]
theorem gaps_all : ∀ e ∈ GP1 ++ GP2, (e.1.cps.toList, e.2.toNat) ∈ GT ∧ e.2 = (e.2.toNat : Int) := by decide +kernel
theorem law_gap_c {W : Wd} {B : BoxId} {b : BoxSt} {rest : Led} (hA : boxA B rest) (hc : BoxOk b) : CC W 6 (boxL B b rest) 485 [.is (.ref B.bx)] GpT (GpP B rest) (fun x => .is (.ref x.a)) (fun x => boxL B x.b ((x.a, tupO x.ws) :: rest)) := by
  refine fn1 (x1 := Str.ofString "box") (us := [Str.ofString "gaps"]) (by k_is) (by k_is) (Mine.ok_of ?hok) (fun _ => rfl) rfl rfl ?e3 ?H
  walk_at "S fn"
  rename_i c R hR
  with_reducible refine' SS_setC ?he1 ?pl1 ?sp1 ?mn1
  case he1 =>
    with_reducible refine' EC_listE (P := fun vs ex => PairsIn GP1 vs ex) ?ep1 ?cz1
    case ep1 =>
      with_reducible refine' EL_pairs ?cp1
      kernel_rfl
    case cz1 => exact fun vs ex h => Nat.le_of_ble_eq_true (by rw [h.len]; rfl)
  case pl1 => exact rfl
  case sp1 => exact fun _ => by walk_at "S p"
  rintro ⟨vs1, ex1, a1⟩ ⟨hp1, hf1, hl1⟩
  dsimp only at hp1 hf1 hl1 ⊢
  with_reducible refine' SS_setC ?he2 ?pl2 ?sp2 ?mn2
  case he2 =>
    with_reducible refine' EC_addE (P := fun vs ex => PairsIn GP2 vs ex) ?eo2 ?em2 ?cy2 ?ep2 ?cz2
    case eo2 => walk_at "S e"
    case em2 => exact .head _
    case ep2 =>
      with_reducible refine' EL_pairs ?cp2
      kernel_rfl
    case cy2 => exact Nat.le_of_ble_eq_true (by rw [hp1.len]; rfl)
    case cz2 => exact fun vs ex h => Nat.le_of_ble_eq_true (by rw [h.len]; rfl)
  case pl2 => exact rfl
  case sp2 => exact fun _ => by walk_at "S p"
  rintro ⟨vs2, ex2, a2⟩ ⟨hp2, hf2, hl2⟩
  dsimp only at hp2 hf2 hl2 ⊢
  have hpp : PairsIn (GP1 ++ GP2) (vs1 ++ vs2) (ex2 ++ ex1) := (hp1.mono fun p hp => List.mem_append.mpr (.inr hp)).app (hp2.mono fun p hp => List.mem_append.mpr (.inl hp))
  have fr : ∀ p ∈ ex2 ++ ex1, ∀ q ∈ boxL B b rest, @LT.lt Nat _ q.1 p.1 := by
    intro p hp q hq
    rcases List.mem_append.mp hp with hp | hp
    · exact hf2 p hp q (.tail _ (List.mem_append.mpr (.inr hq)))
    · exact hf1 p hp q hq
  have ha2 : ∀ q ∈ boxL B b rest, @LT.lt Nat _ q.1 a2 := fun q hq => hl2 q (List.mem_append.mpr (.inr (.tail _ (List.mem_append.mpr (.inr hq)))))
  with_reducible refine' SS_retC ?he3 ?mn3
  case he3 =>
    with_reducible refine' pick_var (b := b) (big := (a2, PySem.W.listOf (vs1 ++ vs2).toArray 0) :: (ex2 ++ ex1 ++ rest)) ?pk1 ?pb1 ?pc1 ?m1 ?pB ?m2 ?pm1 hc ?pz1 ?pz2 ?pd1
    case pk1 => kernel_rfl
    case pb1 => walk_at "S e"
    case pc1 => walk_at "S e"
    case pB => exact boxA_ne hA
    case pm1 => exact .head _
    case pz1 => rw [hpp.len]; exact Nat.le_of_ble_eq_true rfl
    case pz2 => rw [hpp.len]; exact Nat.le_of_ble_eq_true rfl
    case pd1 => exact rfl
    case m1 =>
      intro p hp
      simp only [List.mem_cons, List.mem_append] at hp ⊢
      rcases hp with h | h | h | (h | h) | h <;> simp [h]
    case m2 =>
      intro p hp
      cases hp with
      | head => exact ⟨Nat.ne_of_gt (ha2 _ (.head _)), Nat.ne_of_gt (ha2 _ (.tail _ (.head _)))⟩
      | tail _ hp =>
        rcases List.mem_append.mp hp with hp | hp
        · exact ⟨Nat.ne_of_gt (fr p hp _ (.head _)), Nat.ne_of_gt (fr p hp _ (.tail _ (.head _)))⟩
        · exact ⟨boxA_r1 hA p hp, boxA_r2 hA p hp⟩
  rintro ⟨v, b3⟩ ⟨⟨i, hi⟩, hb3⟩
  dsimp only at hi hb3 ⊢
  obtain ⟨g, m, a, ws, g1, rfl, g3, g4⟩ := hpp.get hi
  obtain ⟨g5, g6⟩ := gaps_all _ g1
  dsimp only at g5 g6
  rw [g6] at g4
  refine hR ⟨a, b3, ws, g, m.toNat⟩ _ _ ⟨hb3, g4, gap_made g5, boxA_cons (b := b) hA (fr _ g3)⟩ rfl ?_
  intro p hp
  have g7 : (a, tupO ws) ∈ ex2 ++ ex1 ++ rest := List.mem_append.mpr (.inl g3)
  cases hp with
  | head => exact .head _
  | tail _ hp => cases hp with
    | head => exact .tail _ (.head _)
    | tail _ hp => cases hp with
      | head => exact .tail _ (.tail _ (.tail _ g7))
      | tail _ hp => exact .tail _ (.tail _ (.tail _ (List.mem_append.mpr (.inr hp))))
theorem gf_law_gap : GF (Str.ofString "_law_gap") 485 := ⟨fun P => by k_is, fun P => by k_is, by decide +kernel⟩
end Mine
namespace Mine
theorem pul_made {y : Str} (h : y ∈ [Str.ofString "{", Str.ofString "}", Str.ofString "(", Str.ofString ")", Str.ofString "[", Str.ofString "]", Str.ofString ".", Str.ofString ";", Str.ofString ",", Str.ofString "<", Str.ofString ">", Str.ofString "<=", Str.ofString ">=", Str.ofString "==", Str.ofString "!=", Str.ofString "===", Str.ofString "!==", Str.ofString "+", Str.ofString "-", Str.ofString "*", Str.ofString "%", Str.ofString "++", Str.ofString "--", Str.ofString "<<", Str.ofString ">>", Str.ofString ">>>", Str.ofString "&", Str.ofString "|", Str.ofString "^", Str.ofString "!", Str.ofString "~", Str.ofString "&&", Str.ofString "||", Str.ofString "?", Str.ofString ":", Str.ofString "=", Str.ofString "+=", Str.ofString "-=", Str.ofString "*=", Str.ofString "%=", Str.ofString "<<=", Str.ofString ">>=", Str.ofString ">>>=", Str.ofString "&=", Str.ofString "|=", Str.ofString "^=", Str.ofString "/", Str.ofString "/="]) : TokMade (Str.ofString "punct") (.s y) y false true 0 := by
  have key : ∀ y ∈ [Str.ofString "{", Str.ofString "}", Str.ofString "(", Str.ofString ")", Str.ofString "[", Str.ofString "]", Str.ofString ".", Str.ofString ";", Str.ofString ",", Str.ofString "<", Str.ofString ">", Str.ofString "<=", Str.ofString ">=", Str.ofString "==", Str.ofString "!=", Str.ofString "===", Str.ofString "!==", Str.ofString "+", Str.ofString "-", Str.ofString "*", Str.ofString "%", Str.ofString "++", Str.ofString "--", Str.ofString "<<", Str.ofString ">>", Str.ofString ">>>", Str.ofString "&", Str.ofString "|", Str.ofString "^", Str.ofString "!", Str.ofString "~", Str.ofString "&&", Str.ofString "||", Str.ofString "?", Str.ofString ":", Str.ofString "=", Str.ofString "+=", Str.ofString "-=", Str.ofString "*=", Str.ofString "%=", Str.ofString "<<=", Str.ofString ">>=", Str.ofString ">>>=", Str.ofString "&=", Str.ofString "|=", Str.ofString "^=", Str.ofString "/", Str.ofString "/="], y ∈ PT := by decide +kernel
  exact pun_made (key y h)
section
variable {w : World} {mg mb : Str → Option Value} {mean : ExcName → Option Value} {news : Led}
end
end Mine
namespace Mine
noncomputable abbrev PU1 : List Str := [Str.ofString "{", Str.ofString "}", Str.ofString "(", Str.ofString ")", Str.ofString "[", Str.ofString "]", Str.ofString ".", Str.ofString ";", Str.ofString ",", Str.ofString "<", Str.ofString ">", Str.ofString "<=", Str.ofString ">=", Str.ofString "==", Str.ofString "!=", Str.ofString "===", Str.ofString "!==", Str.ofString "+", Str.ofString "-", Str.ofString "*"]
noncomputable abbrev PU2 : List Str := [Str.ofString "%", Str.ofString "++", Str.ofString "--", Str.ofString "<<", Str.ofString ">>", Str.ofString ">>>", Str.ofString "&", Str.ofString "|", Str.ofString "^", Str.ofString "!", Str.ofString "~", Str.ofString "&&", Str.ofString "||", Str.ofString "?", Str.ofString ":", Str.ofString "=", Str.ofString "+=", Str.ofString "-="]
noncomputable abbrev PU3 : List Str := [Str.ofString "*=", Str.ofString "%=", Str.ofString "<<=", Str.ofString ">>=", Str.ofString ">>>=", Str.ofString "&=", Str.ofString "|=", Str.ofString "^=", Str.ofString "/", Str.ofString "/="]
theorem pus_made {y : Str} (h : y ∈ PU1 ++ PU2 ++ PU3) : TokMade (Str.ofString "punct") (.s y) y false true 0 := by
  refine pul_made ?_
  exact h
theorem EP_st {c : Cx} {S : Sc} {l : Loc} {n : Led} {e : Expr} {y : Str} {t : Tok} (h : EP c S l n e (.is (.str y t))) : EP c S l n e (.str y) := fun ok s m Q r F N ret => h ok s m Q r F N (fun v n' h' tk' hp => ret v n' h' tk' ⟨⟨t, hp.1⟩, hp.2⟩)
theorem law_token_c {W : Wd} {B : BoxId} {b : BoxSt} {rest : Led} (hA : boxA B rest) (hc : BoxOk b) : CMO W 7 B b rest 492 := by
  refine fn1 (x1 := Str.ofString "box") (us := [Str.ofString "form", Str.ofString "choices_here", Str.ofString "punct"]) (by k_is) (by k_is) (Mine.ok_of ?hok) (fun _ => rfl) rfl rfl ?e3 ?H
  walk_at "S fn"
  rename_i c R hR
  refine' SS_setC (X := Int × BoxSt) (P := fun x => 0 ≤ x.1 ∧ x.1 < 4 ∧ BoxOk x.2) (fV := fun x => .int x.1) (fn := fun x => boxL B x.2 rest) (by walk_at "S take") rfl (fun _ => by walk_at "S p") ?_
  rintro ⟨form, b1⟩ ⟨hf0, hf1, hb⟩
  dsimp only at hf0 hf1 hb ⊢
  walk_at "S s"
  · intro _
    refine' one_ret (i := 0) hR (EC_call gf_law_word ?k1 (by walk_at "S a") rfl (law_word_c hA hb) rfl) rfl (fun b' q => ?h1) rfl rfl
    case k1 => kernel_rfl
    case h1 => walk_at "S e"
  intro _
  walk_at "S s"
  · intro _
    refine' one_ret (i := 0) hR (EC_call gf_law_number ?k2 (by walk_at "S a") rfl (law_number_c hA hb) rfl) rfl (fun b' q => ?h2) rfl rfl
    case k2 => kernel_rfl
    case h2 => walk_at "S e"
  intro _
  walk_at "S s"
  · intro _
    refine SS_retC (EC_call gf_law_text (by kernel_rfl) (by walk_at "S a") rfl (law_text_c hA hb) rfl) ?_
    intro x hx
    exact hR x _ _ hx rfl (fun _ h => h)
  intro _
  with_reducible refine' SS_setC ?he1 ?pl1 ?sp1 ?mn1
  case he1 =>
    with_reducible refine' EC_listE (P := fun vs _ => HasAll (PU1.map AV.str) vs) ?ep1 ?cz1
    case ep1 =>
      with_reducible refine' EL_strs ?cp1
      kernel_rfl
    case cz1 => exact fun vs ex h => Nat.le_of_ble_eq_true (by rw [h.len]; rfl)
  case pl1 => exact rfl
  case sp1 => exact fun _ => by walk_at "S p"
  rintro ⟨vs1, ex1, a1⟩ ⟨hp1, hf1, hl1⟩
  dsimp only at hp1 hf1 hl1 ⊢
  with_reducible refine' SS_setC ?he2 ?pl2 ?sp2 ?mn2
  case he2 =>
    with_reducible refine' EC_addE (P := fun vs _ => HasAll (PU2.map AV.str) vs) ?eo2 ?em2 ?cy2 ?ep2 ?cz2
    case eo2 => walk_at "S e"
    case em2 => exact .head _
    case ep2 =>
      with_reducible refine' EL_strs ?cp2
      kernel_rfl
    case cy2 => exact Nat.le_of_ble_eq_true (by rw [hp1.len]; rfl)
    case cz2 => exact fun vs ex h => Nat.le_of_ble_eq_true (by rw [h.len]; rfl)
  case pl2 => exact rfl
  case sp2 => exact fun _ => by walk_at "S p"
  rintro ⟨vs2, ex2, a2⟩ ⟨hp2, hf2, hl2⟩
  dsimp only at hp2 hf2 hl2 ⊢
  have hp12 := hp1.append hp2
  with_reducible refine' SS_setC ?he4 ?pl4 ?sp4 ?mn4
  case he4 =>
    with_reducible refine' EC_addE (P := fun vs _ => HasAll (PU3.map AV.str) vs) ?eo4 ?em4 ?cy4 ?ep4 ?cz4
    case eo4 => walk_at "S e"
    case em4 => exact .head _
    case ep4 =>
      with_reducible refine' EL_strs ?cp4
      kernel_rfl
    case cy4 => exact Nat.le_of_ble_eq_true (by rw [hp12.len]; rfl)
    case cz4 => exact fun vs ex h => Nat.le_of_ble_eq_true (by rw [h.len]; rfl)
  case pl4 => exact rfl
  case sp4 => exact fun _ => by walk_at "S p"
  rintro ⟨vs3, ex3, a3⟩ ⟨hp3, hf3, hl3⟩
  dsimp only at hp3 hf3 hl3 ⊢
  have hp := hp12.append hp3
  have ha3 : ∀ q ∈ boxL B b1 rest, @LT.lt Nat _ q.1 a3 := fun q hq => hl3 q (List.mem_append.mpr (.inr (.tail _ (List.mem_append.mpr (.inr (.tail _ (List.mem_append.mpr (.inr hq))))))))
  with_reducible refine' SS_setC (X := Value × BoxSt) (fV := fun x => .is x.1) (fn := fun x => boxL B x.2 ((a3, PySem.W.listOf (vs1 ++ vs2 ++ vs3).toArray 0) :: rest)) ?he3 ?pl3 ?sp3 ?mn3
  case he3 =>
    with_reducible refine' pick_var (b := b1) (big := (a3, PySem.W.listOf (vs1 ++ vs2 ++ vs3).toArray 0) :: rest) ?pk1 ?pb1 ?pc1 ?m1 ?pB ?m2 ?pm1 hb ?pz1 ?pz2 ?pd1
    case pk1 => kernel_rfl
    case pb1 => walk_at "S e"
    case pc1 => walk_at "S e"
    case pB => exact boxA_ne hA
    case pm1 => exact .head _
    case pz1 => rw [hp.len]; exact Nat.le_of_ble_eq_true rfl
    case pz2 => rw [hp.len]; exact Nat.le_of_ble_eq_true rfl
    case pd1 => exact rfl
    case m1 =>
      intro p hp
      simp only [List.mem_cons, List.mem_append] at hp ⊢
      rcases hp with h | h | h | h <;> simp [h]
    case m2 =>
      intro p hp
      cases hp with
      | head => exact ⟨Nat.ne_of_gt (ha3 _ (.head _)), Nat.ne_of_gt (ha3 _ (.tail _ (.head _)))⟩
      | tail _ hp => exact ⟨boxA_r1 hA p hp, boxA_r2 hA p hp⟩
  case pl3 => exact rfl
  case sp3 => exact fun _ => by walk_at "S p"
  rintro ⟨v, b3⟩ ⟨⟨i, hi⟩, hb3⟩
  dsimp only at hi hb3 ⊢
  obtain ⟨V, hV1, hV2⟩ := hp.back hi
  rw [← List.map_append, ← List.map_append] at hV1
  obtain ⟨y, hy, rfl⟩ := List.mem_map.mp hV1
  obtain ⟨t, rfl⟩ := hV2
  with_reducible refine' SS_sub (n2 := boxL B b3 rest) ?ms ?mn5
  case ms => exact mem_skip2
  refine' one_ret (i := 0) hR (EC_mt hA hb3 _ (.s y) _ _ _ (V := .str y) ?ha ?hv (pus_made hy)) rfl (fun b' q => ?h5) rfl rfl
  case ha => exact EA_cons EP_str rfl (EA_cons (EP_st (by walk_at "S e")) rfl (EA_cons (EP_st (by walk_at "S e")) rfl (EA_cons EP_boo rfl (EA_cons EP_boo rfl EA_nil))))
  case hv => rfl
  case h5 => walk_at "S e"
theorem gf_law_token : GF (Str.ofString "_law_token") 492 := ⟨fun P => by k_is, fun P => by k_is, by decide +kernel⟩
end Mine
namespace Mine
section
variable {c : Cx} {S : Sc} {l l' : Loc} {n : Led} {R : AV → Led → Prop} {K : Loc → Led → Prop} {rest : List Stmt}
theorem SS_aug {x : Str} {e : Expr} {i j : Int} {p p' : Pos} (hm : (x, AV.int i) ∈ l) (he : EP c S l n e (.int j)) (hs : SetR l x (.int (i + j)) l') (h : SS c S R l' n rest K) : SS c S R l n (.AugAssign (.Name x p') .Add e p :: rest) K := by
  refine SS_cons (K1 := fun l1 n1 => l1 = l' ∧ n1 = n) ?_ (by rintro _ _ ⟨rfl, rfl⟩; exact h)
  intro ok s m Q r F N next ret
  obtain ⟨v, h1, ⟨t, rfl⟩⟩ := r.at hm rfl
  obtain ⟨k1, k2⟩ := r.isLoc ok.S hm
  refine wpAny_AugAssign_Name (wpAny_loadName_local ok.S.kind k1 F.ns h1 ?_)
  refine he ok s m _ r F N (fun v n' h' tk' hp F' N' => ?_)
  obtain ⟨⟨u, rfl⟩, e2⟩ := hp
  subst e2
  refine P.iadd_int ?_
  exact storeX_L F' N' (fun h2 F2 N2 => next _ _ _ h2 _ ⟨rfl, rfl⟩ (r.set ok.S hs ⟨_, rfl⟩) F2 N2) ok.S.kind (r.loc ok.S hs)
end
end Mine
local macro_rules | `(tactic| walk_at "S tup") => `(tactic| first | ((with_reducible refine' Mine.SS_aug ?m ?a ?b ?_); (case m => walk_at "S mem"); (case a => walk_at "S e"); (case b => walk_at "S p")) | fail "S tup")
namespace Mine
theorem read_hex_c {W : Wd} {I : LexId} {pos ln : Int} {ta tl : Tok} {rest : Led} (hA : lexA I rest) (hT : I.T.length ≤ 1000000) (h0 : 0 ≤ pos) (h1 : 0 < hxn (suf I.T (pos + 2))) (h2 : hxn (suf I.T (pos + 2)) ≤ 8) :
    CC W 4 (lexL I pos ln ta tl rest) 359 [.is (.ref I.x)] Tok (fun _ => (hxv (suf I.T (pos + 2)) 0).toNat < 4294967296) (fun _ => .int ((hxv (suf I.T (pos + 2)) 0).toNat : Int)) (fun t => lexL I (pos + 2 + hxn (suf I.T (pos + 2))) ln t tl rest) := by
  refine fn1 (x1 := Str.ofString "self") (us := [Str.ofString "value", Str.ofString "many"]) (by k_is) (by k_is) (Mine.ok_of ?hok) (fun _ => rfl) rfl rfl ?e3 ?H
  walk_at "S fn"
  rename_i c R hR
  walk_at "S s"
  walk_at "S s"
  refine SS_while (σ := Int × Tok × Int × Nat) (fun x => [(Str.ofString "self", .is (.ref I.x)), (Str.ofString "value", .int x.2.2.1), (Str.ofString "many", .int x.2.2.2)]) (fun x => lexL I x.1 ln x.2.1 tl rest)
    (fun c => ∀ C : Prop, (0 ≤ c.1 → c.1 + hxn (suf I.T c.1) = pos + 2 + hxn (suf I.T (pos + 2)) → hxv (suf I.T c.1) c.2.2.1 = hxv (suf I.T (pos + 2)) 0 → c.1 = pos + 2 + c.2.2.2 → 0 ≤ c.2.2.1 → c.2.2.1 < ((16 ^ c.2.2.2 : Nat) : Int) → C) → C)
    (fun c => (suf I.T c.1).length) (pos + 2, _, 0, 0) (fun C k => k (by dsimp only; omega) rfl rfl (by dsimp only; omega) (Int.le_refl _) (by decide : (0 : Int) < ((16 ^ 0 : Nat) : Int))) (LeR.refl _) (fun _ h => h) ?_
  rintro ⟨i, ti, v, m⟩ hI K' hK'
  refine hI _ ?_
  clear hI
  intro hi0 hi1 hi2 hi3 hi4 hi5
  dsimp only at hi0 hi1 hi2 hi3 hi4 hi5 ⊢
  have hm : m ≤ 8 := by omega
  have hb2 : ((16 ^ m : Nat) : Int) ≤ 4294967296 := by
    have : 16 ^ m ≤ 4294967296 := Nat.le_trans (Nat.pow_le_pow_right (by decide) hm : 16 ^ m ≤ 16 ^ 8) (by decide)
    exact Int.ofNat_le.mpr this
  have hb3 : v < 4294967296 := by omega
  clear hb2
  have hc := codeAt_suf (T := I.T) hi0
  have hbd := hexVal_bnd (codeAt I.T i)
  refine ⟨_, _, by walk_at "S t", ?_, ?_⟩
  · intro g2
    walk_at "S s"
    walk_at "S s"
    walk_at "S s"
    walk_at "S n"
    have g3 := g2
    rw [hc] at g3
    obtain ⟨y1, y2, y3⟩ := hx_yes g3 v
    have hs := suf_succ (T := I.T) hi0
    refine hK' (i + 1, _, v * 16 + hexVal (codeAt I.T i), m + 1) _ _ (fun C k => k (by dsimp only; omega) (by dsimp only; rw [hs]; omega) (by dsimp only; rw [hs, ← hi2, y2, hc]) (by dsimp only; omega) (by dsimp only; omega) (by dsimp only; rw [Nat.pow_succ]; omega)) ?_ (LeR.refl _) (fun _ h => h)
    dsimp only
    rw [hs, List.length_tail]; omega
  · intro g2
    have g2' : ¬ 0 ≤ hexVal (codeAt I.T i) := by omega
    rw [hc] at g2'
    obtain ⟨g3, g4⟩ := hx_no g2' v
    have g5 : i = pos + 2 + hxn (suf I.T (pos + 2)) := by omega
    have g6 : v = ((hxv (suf I.T (pos + 2)) 0).toNat : Int) := by rw [← hi2, g4]; omega
    have g7 : (hxv (suf I.T (pos + 2)) 0).toNat < 4294967296 := by omega
    walk_at "S s"
    · intro hz
      exfalso
      omega
    · intro _
      walk_at "S s"
      subst g5
      exact hR ti _ _ g7 (congrArg AV.int g6) (fun _ h => h)
theorem gl_read_hex : GL (Str.ofString "read_hex") 359 := ⟨by constructor <;> (intro P; k_is), fun _ _ _ _ _ _ _ _ _ => rfl⟩
end Mine
namespace Mine
theorem read_octal_c {W : Wd} {I : LexId} {pos ln : Int} {ta tl : Tok} {rest : Led} (hA : lexA I rest) (hT : I.T.length ≤ 1000000) (h0 : 0 ≤ pos) (h2 : ocn (suf I.T pos) ≤ 8) :
    CC W 4 (lexL I pos ln ta tl rest) 366 [.is (.ref I.x)] Tok (fun _ => (ocv (suf I.T pos) 0).toNat < 4294967296) (fun _ => .int ((ocv (suf I.T pos) 0).toNat : Int)) (fun t => lexL I (pos + ocn (suf I.T pos)) ln t tl rest) := by
  refine fn1 (x1 := Str.ofString "self") (us := [Str.ofString "value"]) (by k_is) (by k_is) (Mine.ok_of ?hok) (fun _ => rfl) rfl rfl ?e3 ?H
  walk_at "S fn"
  rename_i c R hR
  walk_at "S s"
  refine SS_while (σ := Int × Tok × Int) (fun x => [(Str.ofString "self", .is (.ref I.x)), (Str.ofString "value", .int x.2.2)]) (fun x => lexL I x.1 ln x.2.1 tl rest)
    (fun c => 0 ≤ c.1 ∧ c.1 + ocn (suf I.T c.1) = pos + ocn (suf I.T pos) ∧ ocv (suf I.T c.1) c.2.2 = ocv (suf I.T pos) 0 ∧ pos ≤ c.1 ∧ 0 ≤ c.2.2 ∧ c.2.2 < ((8 ^ (c.1 - pos).toNat : Nat) : Int))
    (fun c => (suf I.T c.1).length) (pos, ta, 0) ⟨h0, rfl, rfl, Int.le_refl _, Int.le_refl _, by dsimp only; rw [Int.sub_self]; decide⟩ (LeR.refl _) (fun _ h => h) ?_
  rintro ⟨i, ti, v⟩ ⟨hi0, hi1, hi2, hi3, hi4, hi5⟩ K' hK'
  dsimp only at hi0 hi1 hi2 hi3 hi4 hi5 ⊢
  have hm : (i - pos).toNat ≤ 8 := by omega
  have hb2 : ((8 ^ (i - pos).toNat : Nat) : Int) ≤ 16777216 := by
    have : 8 ^ (i - pos).toNat ≤ 16777216 := Nat.le_trans (Nat.pow_le_pow_right (by decide) hm : 8 ^ (i - pos).toNat ≤ 8 ^ 8) (by decide)
    exact Int.ofNat_le.mpr this
  have hb3 : v < 16777216 := by omega
  clear hb2
  have hc := codeAt_suf (T := I.T) hi0
  refine ⟨_, _, by walk_at "S t", ?_, ?_⟩
  · intro g2
    walk_at "S s"
    walk_at "S s"
    walk_at "S s"
    rw [hc] at g2
    obtain ⟨y1, y2, y3, y4, y5⟩ := oc_yes g2 v
    refine hK' (i + 1, _, v * 8 + codeAt I.T i - 48) _ _ ?_ ?_ (LeR.refl _) (fun _ h => h)
    · dsimp only
      rw [suf_succ hi0]
      refine ⟨by omega, by omega, by rw [← hi2, y2, hc], by omega, by omega, ?_⟩
      have e : (i + 1 - pos).toNat = (i - pos).toNat + 1 := by omega
      rw [e, Nat.pow_succ]; omega
    · dsimp only
      rw [suf_succ hi0, List.length_tail]; omega
  · intro g2
    walk_at "S s"
    rw [hc] at g2
    obtain ⟨g3, g4⟩ := oc_no g2 v
    have g5 : i = pos + ocn (suf I.T pos) := by omega
    have g6 : v = ((ocv (suf I.T pos) 0).toNat : Int) := by rw [← hi2, g4]; omega
    have g7 : (ocv (suf I.T pos) 0).toNat < 4294967296 := by omega
    subst g5
    exact hR ti _ _ g7 (congrArg AV.int g6) (fun _ h => h)
end Mine
namespace Mine
section
variable {c : Cx} {S : Sc} {l l' : Loc} {n : Led} {R : AV → Led → Prop} {K : Loc → Led → Prop} {rest : List Stmt}
theorem SS_attrC {x y : Str} {ox dx cls : Addr} {k : Nat} {p p1 p2 : Pos} {e : Expr} {X : Type} {P : X → Prop} {fV : X → AV} {fn0 : X → Led} {ds : X → List DictEntry} {fd : X → Value → List DictEntry} {fn : X → Value → Led} (he : EC c S l n e X P fV fn0) (hp : plainS e = true) (ho : ∀ z, P z → EP c S l (fn0 z) (.Name y p1) (.is (.ref ox))) (ga : GA cls x) (hm1 : ∀ z, (ox, instObj cls dx) ∈ fn0 z) (hm2 : ∀ z, (dx, dictOf (ds z) k) ∈ fn0 z)
    (hl : ∀ z, (getL x (ds z)).isSome = true) (ee : ∀ z v hs key, (putL x hs key v (ds z), putN x (ds z) k) = (fd z v, k)) (U : ∀ z v, Upd dx (dictOf (ds z) k) (dictOf (fd z v) k) (fn0 z) (fn z v)) (hz : ∀ z v, (fd z v).length ≤ 1000)
    (h : ∀ z v, P z → (fV z).has v → SS c S R l (fn z v) rest K) : SS c S R l n (.Assign [.Attribute (.Name y p1) x p2] e p :: rest) K := by
  refine SS_cons (K1 := fun l1 n1 => ∃ z v, P z ∧ (fV z).has v ∧ l1 = l ∧ n1 = fn z v) ?_ (by rintro _ _ ⟨z, v, hz, hv, rfl, rfl⟩; exact h z v hz hv)
  intro ok s m Q r F N next ret
  refine plainObj_wpAny_Assign_Attribute ?_ (swap_plain hp)
  refine he ok s m _ r F N (fun v n' h' tk' hp F' N' => ?_)
  obtain ⟨z, hz1, hv, rfl⟩ := hp
  refine ho z hz1 ok _ m _ r F' N' (fun v1 n2 h2 tk2 hp F2 N2 => ?_)
  obtain ⟨rfl, rfl⟩ := hp
  exact set_core ok F2 N2 ga (hm1 z) (hm2 z) (hl z) (ee z v) (U z v) (hz z v) (fun h3 F3 N3 => next _ _ _ h3 _ ⟨z, v, hz1, hv, rfl, rfl⟩ r F3 N3)
theorem EC_pcall {x : Str} {f : Addr} {e : Expr} {p1 p2 : Pos} {d : Nat} {X : Type} {P : X → Prop} {fV gV : X → AV} {fn : X → Led} (hg : GF x f) (hk : S.glob x = true) (he : EC c S l n e X P fV fn) (hp : plainE e = true) (C : ∀ z, P z → CP c.W d (fn z) f [fV z] (gV z)) (hd : Nat.ble d S.d = true) :
    EC c S l n (.Call (.Name x p1) [e] [] p2) X P gV fn := by
  intro ok s m Q r F N ret
  refine Call_ ?_
  refine nameX_K F ok.X (topRead_of ok.T) (hg.1 _) ?_ ok.S.kind (Sc.glob_eq hk) hg.2.2
  refine callWith_K ok.X (hg.2.1 _) ?_ (star_plain hp) rfl
  refine args_cons ?_ (star_plain hp)
  refine he ok s m _ r F N (fun v n' h' tk' hq F' N' => ?_)
  obtain ⟨z, hz, hv, rfl⟩ := hq
  refine args_nil ⟨ok.X.keeps F'.keep, ?_⟩
  refine call_fin (C z hz [v] ⟨hv, trivial⟩) hd ok F' N' (fun v2 n2 h2 tk2 hp2 F2 N2 => ?_)
  exact ret v2 n2 h2 tk2 ⟨z, hz, hp2.2, hp2.1⟩ F2 N2
theorem tkC {I : LexId} {J : TokId} {ln : Int} {tl : Tok} {r : Led} {y : Str} {p p1 p2 : Pos} {kind value line isb start fin oct plain : Value} {e : Expr} {X : Type} {P : X → Prop} {fi fp : X → Int} {fa : X → Tok} (he : EC c S l n e X P (fun x => .int (fi x)) (fun x => lexL I (fp x) ln (fa x) tl (tokL J kind value line isb start fin oct plain r))) (hp : plainS e = true) (hA : tokA I J r)
    (ho : ∀ x, P x → EP c S l (lexL I (fp x) ln (fa x) tl (tokL J kind value line isb start fin oct plain r)) (.Name y p1) (.is (.ref J.t)))
    (h : ∀ x t, P x → SS c S R l (lexL I (fp x) ln (fa x) tl (tokL J kind (.int (fi x) t) line isb start fin oct plain r)) rest K) : SS c S R l n (.Assign [.Attribute (.Name y p1) (Str.ofString "value") p2] e p :: rest) K :=
  SS_attrC (dx := J.dt) (ds := fun _ => tokE J kind value line isb start fin oct plain) (fd := fun _ v => tokE J kind v line isb start fin oct plain) (fn := fun x v => lexL I (fp x) ln (fa x) tl (tokL J kind v line isb start fin oct plain r)) he hp ho ga_value (fun _ => .tail _ (.tail _ (.head _))) (fun _ => .tail _ (.tail _ (.tail _ (.head _)))) (fun _ => rfl) (fun _ _ _ _ => rfl) (fun _ _ => upd_tok hA) (fun _ _ => (by decide : 8 ≤ 1000)) (by rintro z _ hz ⟨t, rfl⟩; exact h z t hz)
end
end Mine
namespace Mine
section
variable {c : Cx} {S : Sc} {l l' : Loc} {n : Led} {R : AV → Led → Prop} {K : Loc → Led → Prop} {rest : List Stmt}
theorem EC_subl {X : Type} {Pz : X → Prop} {f : X → Int} {fn : X → Led} {a b : Expr} {p : Pos} {j : Int} (ha : EC c S l n a X Pz (fun x => .int (f x)) fn) (hb : ∀ x, Pz x → EP c S l (fn x) b (.int j)) : EC c S l n (.BinOp a .Sub b p) X Pz (fun x => .int (f x - j)) fn := by
  intro ok s m Q r F N ret
  refine wpAny_BinOp ?_
  refine ha ok s m _ r F N (fun va n' h' tk' hp F' N' => ?_)
  obtain ⟨x, hx, ⟨t, rfl⟩, rfl⟩ := hp
  refine hb x hx ok _ m _ r F' N' (fun vb n2 h2 tk2 hp F2 N2 => ?_)
  obtain ⟨⟨u, rfl⟩, rfl⟩ := hp
  exact P.sub_int (ret _ _ h2 _ ⟨x, hx, ⟨_, rfl⟩, rfl⟩ F2 N2)
theorem TT_or3 {a b d : Expr} {T1 F1 T2 F2 T3 F3 : Prop} {p : Pos} (ha : TT c S l n a T1 F1) (hb : F1 → TT c S l n b T2 F2) (hd : F1 → F2 → TT c S l n d T3 F3) : TT c S l n (.BoolOp .Or [a, b, d] p) (T1 ∨ (F1 ∧ (T2 ∨ (F2 ∧ T3)))) (F1 ∧ F2 ∧ F3) := by
  intro ok s m Q r F N ret
  refine isTrue_or ?_
  refine ha ok s m _ r F N (fun b1 n' h' tk' hp F' N' => ?_)
  obtain ⟨rfl, ⟨rfl, ht⟩ | ⟨rfl, hf⟩⟩ := hp
  · exact ret true _ h' _ ⟨rfl, .inl ⟨rfl, .inl ht⟩⟩ F' N'
  · refine isTrue_or ?_
    refine hb hf ok _ m _ r F' N' (fun b1 n2 h2 tk2 hp F2 N2 => ?_)
    obtain ⟨rfl, ⟨rfl, ht2⟩ | ⟨rfl, hf2⟩⟩ := hp
    · exact ret true _ h2 _ ⟨rfl, .inl ⟨rfl, .inr ⟨hf, .inl ht2⟩⟩⟩ F2 N2
    · refine isTrue_or ?_
      refine hd hf hf2 ok _ m _ r F2 N2 (fun b1 n3 h3 tk3 hp F3 N3 => ?_)
      obtain ⟨rfl, ⟨rfl, ht3⟩ | ⟨rfl, hf3⟩⟩ := hp
      · exact ret true _ h3 _ ⟨rfl, .inl ⟨rfl, .inr ⟨hf, .inr ⟨hf2, ht3⟩⟩⟩⟩ F3 N3
      · exact isTrue_or_nil (ret false _ h3 _ ⟨rfl, .inr ⟨rfl, hf, hf2, hf3⟩⟩ F3 N3)
end
noncomputable def expOff (l : List Nat) : Nat := if hd1 l.tail = 43 ∨ hd1 l.tail = 45 then 2 else 1
noncomputable def expW (l : List Nat) : Int := if (l.takeWhile fun (c : Nat) => isDigit c).dropWhile (fun c => decide (c = 48)) = [] then 0 else 2
theorem exp_run {l : List Nat} (hel : hd1 l = 69 ∨ hd1 l = 101) : expRun l = (expOff l + digs (l.drop (expOff l)), if hd1 l.tail = 45 then - expW (l.drop (expOff l)) else expW (l.drop (expOff l))) := by
  by_cases h1 : hd1 l.tail = 45
  · have e : expOff l = 2 := if_pos (.inr h1)
    rw [exr_minus hel h1, e, if_pos h1]; rfl
  · by_cases h2 : hd1 l.tail = 43
    · have e : expOff l = 2 := if_pos (.inl h2)
      rw [exr_plus hel h2, e, if_neg h1]; rfl
    · have e : expOff l = 1 := if_neg (by omega)
      rw [exr_none hel h2 h1, e, if_neg h1, List.drop_one]; rfl
theorem exp_figs {l : List Nat} (hel : hd1 l = 69 ∨ hd1 l = 101) (h : expOk l) : figOk (l.drop (expOff l)) := by
  have h2 := h hel
  unfold expOff
  by_cases g : hd1 l.tail = 45 ∨ hd1 l.tail = 43
  · rw [if_pos g] at h2
    rw [if_pos g.symm]; exact h2
  · rw [if_neg g] at h2
    rw [if_neg (fun q => g q.symm), List.drop_one]; exact h2
theorem figs_len {T : Str} {i : Int} (hT : T.length ≤ 1000000) : (⟨((suf T i).takeWhile fun (c : Nat) => isDigit c).toArray⟩ : Str).length ≤ 1000000 := by
  have h1 := (List.takeWhile_sublist (l := suf T i) (fun (c : Nat) => isDigit c)).length_le
  have h2 : (suf T i).length ≤ T.length := by
    unfold suf
    rw [List.length_drop]
    exact Nat.sub_le _ _
  show Array.size _ ≤ _
  rw [List.size_toArray]
  exact Nat.le_trans h1 (Nat.le_trans h2 hT)
theorem figs_one {l : List Nat} (h : figOk l) : ∃ z, Txt.lstripChars ⟨(l.takeWhile fun (c : Nat) => isDigit c).toArray⟩ (Str.ofString "0") = z ∧ z.length ≤ 1 ∧ PySem.intText? (Str.ofString "0" ++ z) = some (expW l) ∧ (Str.ofString "0" ++ z).length ≤ 640 := by
  rcases h.2 with h2 | h2
  · exact ⟨Str.ofString "", by rw [lstrip_mk, h2]; decide +kernel, by decide +kernel, by rw [show expW l = 0 from if_pos h2]; decide +kernel, by decide +kernel⟩
  · exact ⟨Str.ofString "2", by rw [lstrip_mk, h2]; decide +kernel, by decide +kernel, by rw [show expW l = 2 from if_neg (by rw [h2]; decide)]; decide +kernel, by decide +kernel⟩
theorem read_exponent_c {W : Wd} {I : LexId} {pos ln : Int} {ta tl : Tok} {rest : Led} (hA : lexA I rest) (hT : I.T.length ≤ 1000000) (h0 : 0 ≤ pos) (hE : expOk (suf I.T pos)) :
    CC W 5 (lexL I pos ln ta tl rest) 380 [.is (.ref I.x)] Tok (fun _ => True) (fun _ => .int (expRun (suf I.T pos)).2) (fun t => lexL I (pos + (expRun (suf I.T pos)).1) ln t tl rest) := by
  refine fn1 (x1 := Str.ofString "self") (us := [Str.ofString "sign", Str.ofString "figures", Str.ofString "shown", Str.ofString "power"]) (by k_is) (by k_is) (Mine.ok_of ?hok) (fun _ => rfl) rfl rfl ?e3 ?H
  walk_at "S fn"
  rename_i c R hR
  have e0 := codeAt_suf (T := I.T) h0
  have q1 : (0 : Int) ≤ pos + 1 := by omega
  have e1 : codeAt I.T (pos + 1) = hd1 (suf I.T pos).tail := by rw [codeAt_suf q1, suf_succ h0]
  refine SS_ifr (TT_ninI (L := [69, 101]) (by walk_at "S e") (by kernel_rfl) rfl) ?_ ?_
  · intro hn
    have hel : ¬ (hd1 (suf I.T pos) = 69 ∨ hd1 (suf I.T pos) = 101) := by
      rw [← e0]; simp only [List.any_cons, List.any_nil, Bool.or_false, Bool.or_eq_false_iff, beq_eq_false_iff_ne] at hn; omega
    have e6 : expRun (suf I.T pos) = (0, 0) := by unfold expRun; rw [if_neg hel]
    rw [e6] at hR
    walk_at "S s"
    exact hR ta _ _ trivial rfl (by dsimp only; rw [Int.natCast_zero, Int.add_zero]; exact fun _ h => h)
  intro hn
  have hel : hd1 (suf I.T pos) = 69 ∨ hd1 (suf I.T pos) = 101 := by
    rw [← e0]; simp only [List.any_cons, List.any_nil, Bool.or_false, Bool.or_eq_true, beq_iff_eq] at hn; omega
  have hf := exp_figs hel hE
  rw [← suf_add h0] at hf
  rw [exp_run hel, ← suf_add h0] at hR
  walk_at "S s"
  walk_at "S s"
  refine SS_ifj (ι := Tok) (fun _ => [(Str.ofString "self", .is (.ref I.x)), (Str.ofString "sign", .int (codeAt I.T (pos + 1))), (Str.ofString "figures", .un), (Str.ofString "shown", .un), (Str.ofString "power", .un)]) (fun t => lexL I (pos + expOff (suf I.T pos)) ln t tl rest) (fun _ => True) (by walk_at "S t") ?_ ?_ ?_
  · intro h
    rw [e1] at h
    have e : expOff (suf I.T pos) = 2 := if_pos (by omega)
    walk_at "S s"
    walk_at "S n"
    exact ⟨_, trivial, rfl, by rw [e, Int.add_assoc]; rfl⟩
  · intro h
    rw [e1] at h
    have e : expOff (suf I.T pos) = 1 := if_neg (by omega)
    walk_at "S n"
    exact ⟨_, trivial, rfl, by rw [e]; rfl⟩
  intro t2 _
  have q2 : (0 : Int) ≤ pos + expOff (suf I.T pos) := by omega
  generalize hj : pos + (expOff (suf I.T pos) : Int) = j at hf hR q2 ⊢
  have hne := figs_ne hf.1
  obtain ⟨z, hz, z1, z2, z3⟩ := figs_one hf
  have hlen := figs_len (i := j) hT
  refine SS_setC (EC_meth0 (by walk_at "S e") gl_skip_digits (skip_digits_c hA hT q2) rfl rfl) rfl (fun _ => by walk_at "S p") ?_
  intro t3 _
  walk_at "S s"
  · intro h
    exact (hne h).elim
  intro _
  refine SS_set (EP_lstrip (x := ⟨((suf I.T j).takeWhile fun (c : Nat) => isDigit c).toArray⟩) (z := Str.ofString "0") (by walk_at "S e") (by walk_at "S e") rfl (Nat.le_trans hlen (by decide)) rfl) rfl (by walk_at "S p") ?_
  rw [hz]
  have l0 : (Str.ofString "0").length = 1 := by decide +kernel
  refine SS_set (V := .int (expW (suf I.T j))) (EP_if (by walk_at "S t") (fun h => absurd h (by omega)) (fun _ => EP_intS (x := Str.ofString "0" ++ z) (by kernel_rfl) (EP_cat EP_str (by walk_at "S e") (by omega)) rfl z2 z3)) rfl (by walk_at "S p") ?_
  refine SS_ret (V := .int (if hd1 (suf I.T pos).tail = 45 then - expW (suf I.T j) else expW (suf I.T j))) (EP_ifV (by walk_at "S t") (fun _ => EP_neg (by walk_at "S e")) (fun _ => by walk_at "S e") (fun h => congrArg AV.int (if_pos (e1 ▸ h))) (fun h => congrArg AV.int (if_neg (e1 ▸ h)))) ?_
  refine hR t3 _ _ trivial rfl ?_
  dsimp only
  rw [Int.natCast_add, ← Int.add_assoc, hj]
  exact fun _ h => h
theorem gl_read_exponent : GL (Str.ofString "read_exponent") 380 := ⟨by constructor <;> (intro P; k_is), fun _ _ _ _ _ _ _ _ _ => rfl⟩
end Mine
namespace Mine
section
variable {c : Cx} {S : Sc} {l l' : Loc} {n : Led} {R : AV → Led → Prop} {K : Loc → Led → Prop} {rest : List Stmt}
theorem EC_callK {x : Str} {f : Addr} {e0 : Expr} {es : List Expr} {p1 p2 : Pos} {d : Nat} {X : Type} {P : X → Prop} {fV : X → List AV} {gV : X → AV} {fn : X → Led} (hg : GF x f) (hk : S.glob x = true) (ha : AK c S l n p2 (e0 :: es) X P fV fn) (hp : (e0 :: es).all plainE = true) (C : ∀ z, P z → CP c.W d (fn z) f (fV z) (gV z)) (hd : Nat.ble d S.d = true) :
    EC c S l n (.Call (.Name x p1) (e0 :: es) [] p2) X P gV fn := by
  intro ok s m Q r F N ret
  refine Call_ ?_
  refine nameX_K F ok.X (topRead_of ok.T) (hg.1 _) ?_ ok.S.kind (Sc.glob_eq hk) hg.2.2
  rw [List.all_cons, Bool.and_eq_true] at hp
  refine callWith_K ok.X (hg.2.1 _) ?_ (star_plain hp.1) (star_all hp.2)
  refine ha ok s m _ r F N (fun vs n' h' tk' hq F' N' => ?_)
  obtain ⟨z, hz, hvs, rfl⟩ := hq
  refine ⟨ok.X.keeps F'.keep, ?_⟩
  refine call_fin (C z hz vs hvs) hd ok F' N' (fun v2 n2 h2 tk2 hp2 F2 N2 => ?_)
  exact ret v2 n2 h2 tk2 ⟨z, hz, hp2.2, hp2.1⟩ F2 N2
end
noncomputable def decW (l : List Nat) : Nat := if hd1 l = 48 then 1 else digs l
noncomputable def decP (l : List Nat) : Nat := if hd1 l = 46 then 1 + digs l.tail else 0
noncomputable def decF (l : List Nat) : List Nat := if hd1 l = 46 then l.tail.takeWhile fun (c : Nat) => isDigit c else []
theorem dec_run (l : List Nat) : decRun l = (decW l + decP (l.drop (decW l)) + (expRun ((l.drop (decW l)).drop (decP (l.drop (decW l))))).1, l.take (decW l) ++ decF (l.drop (decW l)), (expRun ((l.drop (decW l)).drop (decP (l.drop (decW l))))).2 - ((⟨(decF (l.drop (decW l))).toArray⟩ : Str).length : Int)) := by
  by_cases h : hd1 (l.drop (decW l)) = 46
  · have e1 : decP (l.drop (decW l)) = 1 + digs (l.drop (decW l)).tail := if_pos h
    have e2 : decF (l.drop (decW l)) = (l.drop (decW l)).tail.takeWhile fun (c : Nat) => isDigit c := if_pos h
    have e3 : ((⟨((l.drop (decW l)).tail.takeWhile fun (c : Nat) => isDigit c).toArray⟩ : Str).length : Int) = digs (l.drop (decW l)).tail := by
      show ((Array.size _ : Nat) : Int) = _; rw [List.size_toArray]; rfl
    rw [dec_dot (k := decW l) rfl h, e1, e2, e3, take_digs, ← List.drop_drop, List.drop_one]
  · have e1 : decP (l.drop (decW l)) = 0 := if_neg h
    have e2 : decF (l.drop (decW l)) = [] := if_neg h
    rw [dec_int (k := decW l) rfl h, e1, e2, List.append_nil, List.drop_zero]
    show _ = (_, _, _ - ((0 : Nat) : Int))
    rw [Int.natCast_zero, Int.sub_zero, Nat.add_zero]
theorem behind_eq (l : List Nat) : behindDec l = (l.drop (decW l)).drop (decP (l.drop (decW l))) := by
  unfold behindDec decP
  show (if hd1 (l.drop (decW l)) = 46 then _ else _) = _
  by_cases h : hd1 (l.drop (decW l)) = 46
  · rw [if_pos h, if_pos h, ← List.drop_drop, List.drop_one]; rfl
  · rw [if_neg h, if_neg h, List.drop_zero]; rfl
theorem dec_digs {l : List Nat} : ∀ c ∈ l.take (decW l) ++ decF (l.drop (decW l)), 48 ≤ c ∧ c ≤ 57 := by
  intro c hc
  rcases List.mem_append.mp hc with h | h
  · unfold decW at h
    split at h
    · rename_i g
      rw [take_one g] at h
      have := List.mem_singleton.mp h; omega
    · rw [take_digs] at h
      exact digs_all c h
  · unfold decF at h
    split at h
    · exact digs_all c h
    · cases h
theorem str_cat (a b : List Nat) : (⟨a.toArray⟩ : Str) ++ ⟨b.toArray⟩ = ⟨(a ++ b).toArray⟩ := by
  show (⟨_ ++ _⟩ : Str) = _; simp
theorem read_decimal_c {W : Wd} {I : LexId} {pos ln : Int} {ta tl : Tok} {rest : Led} (hA : lexA I rest) (hT : I.T.length ≤ 1000000) (h0 : 0 ≤ pos)
    (hE : expOk (behindDec (suf I.T pos))) (hL : (decRun (suf I.T pos)).2.1.length ≤ 8) (he1 : -4 ≤ (decRun (suf I.T pos)).2.2) (he2 : (decRun (suf I.T pos)).2.2 ≤ 3) :
    CC W 7 (lexL I pos ln ta tl rest) 373 [.is (.ref I.x)] Tok (fun _ => True) (fun _ => .int (FD (decRun (suf I.T pos)).2.1 (decRun (suf I.T pos)).2.2)) (fun t => lexL I (pos + (decRun (suf I.T pos)).1) ln t tl rest) := by
  refine fn1 (x1 := Str.ofString "self") (us := [Str.ofString "whole", Str.ofString "part"]) (by k_is) (by k_is) (Mine.ok_of ?hok) (fun _ => rfl) rfl rfl ?e3 ?H
  walk_at "S fn"
  rename_i c R hR
  have e0 := codeAt_suf (T := I.T) h0
  have hds := dec_digs (l := suf I.T pos)
  rw [behind_eq] at hE
  rw [dec_run] at hL he1 he2 hR
  rw [← suf_add h0] at hE hL he1 he2 hR hds
  generalize hw : decW (suf I.T pos) = w at hE hL he1 he2 hR hds
  have q1 : (0 : Int) ≤ pos + w := by omega
  rw [← suf_add q1] at hE he1 he2 hR
  refine SS_ifj (ι := Tok) (fun _ => [(Str.ofString "self", .is (.ref I.x)), (Str.ofString "whole", .str ⟨((suf I.T pos).take w).toArray⟩), (Str.ofString "part", .un)]) (fun t => lexL I (pos + w) ln t tl rest) (fun _ => True) (by walk_at "S t") ?_ ?_ ?_
  · intro h
    rw [e0] at h
    have e : w = 1 := hw ▸ if_pos h
    walk_at "S s"
    walk_at "S s"
    walk_at "S n"
    exact ⟨_, trivial, by rw [e, take_one h, s0], by rw [e]; rfl⟩
  · intro h
    rw [e0] at h
    have e : w = digs (suf I.T pos) := hw ▸ if_neg h
    refine SS_setC (EC_meth0 (by walk_at "S e") gl_skip_digits (skip_digits_c hA hT h0) rfl rfl) rfl (fun _ => by walk_at "S p") ?_
    intro t _
    walk_at "S n"
    exact ⟨t, trivial, by rw [e, take_digs], by rw [e]⟩
  intro t _
  generalize hi : pos + (w : Int) = i at hE hL he1 he2 hR hds q1 ⊢
  have ei := codeAt_suf (T := I.T) q1
  walk_at "S s"
  refine SS_ifj (ι := Tok) (fun _ => [(Str.ofString "self", .is (.ref I.x)), (Str.ofString "whole", .str ⟨((suf I.T pos).take w).toArray⟩), (Str.ofString "part", .str ⟨(decF (suf I.T i)).toArray⟩)]) (fun t => lexL I (i + decP (suf I.T i)) ln t tl rest) (fun _ => True) (by walk_at "S t") ?_ ?_ ?_
  · intro h
    rw [ei] at h
    have f1 : decP (suf I.T i) = 1 + digs (suf I.T i).tail := if_pos h
    have f2 : decF (suf I.T i) = (suf I.T i).tail.takeWhile fun (c : Nat) => isDigit c := if_pos h
    have q2 : (0 : Int) ≤ i + 1 := by omega
    rw [← suf_succ q1] at f1 f2
    walk_at "S s"
    refine SS_setC (EC_meth0 (by walk_at "S e") gl_skip_digits (skip_digits_c hA hT q2) rfl rfl) rfl (fun _ => by walk_at "S p") ?_
    intro t2 _
    walk_at "S n"
    exact ⟨t2, trivial, by rw [f2], by rw [f1, Int.natCast_add, ← Int.add_assoc]; rfl⟩
  · intro h
    rw [ei] at h
    have f1 : decP (suf I.T i) = 0 := if_neg h
    have f2 : decF (suf I.T i) = [] := if_neg h
    have lit0 : Str.ofString "" = ⟨([] : List Nat).toArray⟩ := by decide +kernel
    walk_at "S n"
    exact ⟨_, trivial, by rw [f2, lit0], by rw [f1, Int.natCast_zero, Int.add_zero]⟩
  intro t2 _
  have q2 : (0 : Int) ≤ i + decP (suf I.T i) := by omega
  have hl8 : (⟨((suf I.T pos).take w ++ decF (suf I.T i)).toArray⟩ : Str).length ≤ 8 := by
    show Array.size _ ≤ _; rw [List.size_toArray]; exact hL
  have hl9 : (⟨((suf I.T pos).take w).toArray⟩ : Str).length + (⟨(decF (suf I.T i)).toArray⟩ : Str).length ≤ 8 := by
    show Array.size _ + Array.size _ ≤ _; rw [List.size_toArray, List.size_toArray, ← List.length_append]; exact hL
  refine SS_retC (X := Tok) (P := fun _ => True) (fV := fun _ => .int (FD ((suf I.T pos).take w ++ decF (suf I.T i)) ((expRun (suf I.T (i + decP (suf I.T i)))).2 - ((⟨(decF (suf I.T i)).toArray⟩ : Str).length : Int)))) (fn := fun t => lexL I (i + decP (suf I.T i) + (expRun (suf I.T (i + decP (suf I.T i)))).1) ln t tl rest)
    (EC_callK (fV := fun _ => [.str ⟨((suf I.T pos).take w ++ decF (suf I.T i)).toArray⟩, .int ((expRun (suf I.T (i + decP (suf I.T i)))).2 - ((⟨(decF (suf I.T i)).toArray⟩ : Str).length : Int))]) gf_from_decimal (by kernel_rfl) (AK_p (str_cat .. ▸ EP_cat (by walk_at "S e") (by walk_at "S e") (Nat.le_trans hl9 (by decide))) rfl (AK_c (fV := fun _ => []) (EC_subl (EC_meth0 (by walk_at "S e") gl_read_exponent (read_exponent_c hA hT q2 hE) rfl rfl) (fun t _ => EP_len (by kernel_rfl) (by walk_at "S e") rfl (by omega))) rfl (fun _ _ => EA_nil))) rfl (fun _ _ => from_decimal_c hl8 he1 he2 hds) rfl) ?_
  intro t3 _
  refine hR t3 _ _ trivial rfl ?_
  dsimp only
  rw [Int.natCast_add, Int.natCast_add, ← Int.add_assoc, ← Int.add_assoc, hi]
  exact fun _ h => h
theorem gl_read_decimal : GL (Str.ofString "read_decimal") 373 := ⟨by constructor <;> (intro P; k_is), fun _ _ _ _ _ _ _ _ _ => rfl⟩
end Mine
namespace Mine
theorem gl_read_octal : GL (Str.ofString "read_octal") 366 := ⟨by constructor <;> (intro P; k_is), fun _ _ _ _ _ _ _ _ _ => rfl⟩
theorem hex_not_oct {c : Int} (h : c = 120 ∨ c = 88) : isOctal c = false := by
  rcases h with rfl | rfl <;> decide
theorem read_number_c {W : Wd} {I : LexId} {J : TokId} {pos ln : Int} {ta tl : Tok} {rest : Led} {kind value line isb start fin plain : Value}
    (hA : tokA I J rest) (hT : I.T.length ≤ 1000000) (h0 : 0 ≤ pos) (hN : NumOk (suf I.T pos)) :
    CC W 8 (lexL I pos ln ta tl (tokL J kind value line isb start fin (.bool false) plain rest)) 352 [.is (.ref I.x), .is (.ref J.t)] (Tok × Tok × Tok) (fun _ => True) (fun _ => .is .none)
      (fun t => lexL I (pos + (numRun (suf I.T pos)).1) ln t.1 tl (tokL J (.str (Str.ofString "number") t.2.1) (.int (numRun (suf I.T pos)).2.1 t.2.2) line isb start fin (.bool (numRun (suf I.T pos)).2.2) plain rest)) := by
  refine fn2 (x1 := Str.ofString "self") (x2 := Str.ofString "token") (us := [Str.ofString "ahead", Str.ofString "sign", Str.ofString "code"]) (by k_is) (by k_is) (Mine.ok_of ?hok) (fun _ _ => rfl) rfl rfl ?e3 ?H
  walk_at "S fn"
  rename_i c R hR
  have e0 := codeAt_suf (T := I.T) h0
  have q1 : (0 : Int) ≤ pos + 1 := by omega
  have e1 : codeAt I.T (pos + 1) = hd1 (suf I.T pos).tail := by rw [codeAt_suf q1, suf_succ h0]
  have e2 : suf I.T (pos + 2) = (suf I.T pos).drop 2 := suf_add (T := I.T) h0 2
  obtain ⟨hN1, n1, n2, n3⟩ := hN
  rw [← suf_add h0] at n1 n2 n3
  walk_at "S s"
  rename_i tk
  walk_at "S s"
  refine SS_ifj (ι := Tok × Tok) (fun _ => [(Str.ofString "self", .is (.ref I.x)), (Str.ofString "token", .is (.ref J.t)), (Str.ofString "ahead", .int (codeAt I.T pos)), (Str.ofString "sign", .int (codeAt I.T (pos + 1))), (Str.ofString "code", .un)])
    (fun t => lexL I (pos + (numRun (suf I.T pos)).1) ln t.1 tl (tokL J (.str (Str.ofString "number") tk) (.int (numRun (suf I.T pos)).2.1 t.2) line isb start fin (.bool (numRun (suf I.T pos)).2.2) plain rest)) (fun _ => True) (TT_weak (T' := isHexNum (suf I.T pos)) (F' := ¬ isHexNum (suf I.T pos)) (by walk_at "S t") ?_ ?_) ?_ ?_ ?_
  · rw [e0, e1]; exact fun h => ⟨h.1, h.2.elim .inl (fun h => .inr h.2)⟩
  · rw [e0, e1]
    rintro (h | ⟨-, h1, h2⟩) ⟨g1, g2⟩
    · exact h g1
    · exact g2.elim h1 h2
  · intro hh
    rw [if_pos hh, ← e2] at hN1
    obtain ⟨m1, m2⟩ := hN1
    have hnr : numRun (suf I.T pos) = (2 + hxn (suf I.T (pos + 2)), RR (hxv (suf I.T (pos + 2)) 0).toNat 1, false) := by unfold numRun; rw [if_pos hh, ← e2]
    rw [hnr]
    refine tkC (X := Tok) (P := fun _ => (hxv (suf I.T (pos + 2)) 0).toNat < 4294967296) (fi := fun _ => RR (hxv (suf I.T (pos + 2)) 0).toNat 1) (fp := fun _ => pos + 2 + hxn (suf I.T (pos + 2))) (fa := fun t => t) (EC_pcall gf_from_int (by kernel_rfl) (EC_meth0 (by walk_at "S e") gl_read_hex (read_hex_c hA hT h0 m1 m2) rfl rfl) rfl (fun z hz => from_int_c (Nat.lt_trans hz (by decide))) rfl) rfl hA (fun _ _ => by walk_at "S e") ?_
    intro t1 t2 _
    walk_at "S n"
    exact ⟨(t1, t2), trivial, rfl, by dsimp only; rw [Int.natCast_add, ← Int.add_assoc]; rfl⟩
  · intro hh
    rw [if_neg hh] at hN1
    refine SS_ife (TT_weak (T' := isOctNum (suf I.T pos)) (F' := ¬ isOctNum (suf I.T pos)) (by walk_at "S t") ?_ ?_) ?_ ?_
    · rw [e0, e1]; exact fun h => h
    · rw [e0, e1]
      rintro (h | ⟨-, h⟩) ⟨g1, g2⟩
      · exact h g1
      · rw [h] at g2; cases g2
    · intro ho
      rw [if_pos ho] at hN1
      have hnr : numRun (suf I.T pos) = (ocn (suf I.T pos), RR (ocv (suf I.T pos) 0).toNat 1, true) := by unfold numRun; rw [if_neg hh, if_pos ho]
      rw [hnr]
      walk_at "S s"
      refine tkC (X := Tok) (P := fun _ => (ocv (suf I.T pos) 0).toNat < 4294967296) (fi := fun _ => RR (ocv (suf I.T pos) 0).toNat 1) (fp := fun _ => pos + ocn (suf I.T pos)) (fa := fun t => t) (EC_pcall gf_from_int (by kernel_rfl) (EC_meth0 (by walk_at "S e") gl_read_octal (read_octal_c hA hT h0 hN1) rfl rfl) rfl (fun z hz => from_int_c (Nat.lt_trans hz (by decide))) rfl) rfl hA (fun _ _ => by walk_at "S e") ?_
      intro t1 t2 _
      walk_at "S n"
      exact ⟨(t1, t2), trivial, rfl, rfl⟩
    · intro ho
      rw [if_neg ho] at hN1
      obtain ⟨m1, m2, m3, m4⟩ := hN1
      have hnr : numRun (suf I.T pos) = ((decRun (suf I.T pos)).1, FD (decRun (suf I.T pos)).2.1 (decRun (suf I.T pos)).2.2, false) := by unfold numRun; rw [if_neg hh, if_neg ho]
      rw [hnr]
      refine tkC (X := Tok) (P := fun _ => True) (fi := fun _ => FD (decRun (suf I.T pos)).2.1 (decRun (suf I.T pos)).2.2) (fp := fun _ => pos + (decRun (suf I.T pos)).1) (fa := fun t => t) (EC_meth0 (by walk_at "S e") gl_read_decimal (read_decimal_c hA hT h0 m1 m2 m3 m4) rfl rfl) rfl hA (fun _ _ => by walk_at "S e") ?_
      intro t1 t2 _
      walk_at "S n"
      exact ⟨(t1, t2), trivial, rfl, rfl⟩
  rintro ⟨t1, t2⟩ _
  dsimp only
  have q3 : (0 : Int) ≤ pos + (numRun (suf I.T pos)).1 := by omega
  have ez := codeAt_suf (T := I.T) q3
  rw [← ez] at n1 n2 n3
  walk_at "S s"
  refine SS_ifr (TT_or3 (by walk_at "S t") (fun _ => by walk_at "S t") (fun _ _ => by walk_at "S t")) ?_ ?_
  · rintro (h | ⟨-, h | ⟨-, h⟩⟩)
    · rw [n1] at h; cases h
    · rw [n2] at h; cases h
    · exact (n3 h).elim
  · intro _
    walk_at "S n"
    exact hR (t1, tk, t2) _ _ trivial rfl (fun _ h => h)
theorem gl_read_number : GL (Str.ofString "read_number") 352 := ⟨by constructor <;> (intro P; k_is), fun _ _ _ _ _ _ _ _ _ => rfl⟩
end Mine
namespace Mine
theorem octal_escape_c {W : Wd} {n : Led} {T : Str} {i v : Int} {m : Nat} (hT : T.length ≤ 1000000) (hi : 0 ≤ i) (hr : octRun (suf T i) = (v, m)) (hn : ¬ (m < octMost (suf T i) ∧ isDigit (hd1 ((suf T i).drop m)) = true)) :
    CC W 3 n 190 [.str T, .int i] (Addr × List Value) (fun x => HasAll [.int v, .int m] x.2 ∧ ∀ q ∈ n, @LT.lt Nat _ q.1 x.1) (fun x => .is (.ref x.1)) (fun x => (x.1, tupO x.2) :: n) := by
  refine fn2 (x1 := Str.ofString "text") (x2 := Str.ofString "at") (us := [Str.ofString "most", Str.ofString "many", Str.ofString "value"]) (by k_is) (by k_is) (Mine.ok_of ?hok) (fun _ _ => rfl) rfl rfl ?e3 ?H
  walk_at "S fn"
  rename_i c R hR
  have e0 := codeAt_suf (T := T) hi
  have hM : octMost (suf T i) ≤ 3 := by unfold octMost; split <;> omega
  refine SS_set (V := .int (octMost (suf T i) : Nat)) (EP_ifV (by walk_at "S t") (fun _ => EP_int) (fun _ => EP_int) (fun h => congrArg AV.int ?m1) (fun h => congrArg AV.int ?m2)) rfl (by walk_at "S p") ?_
  case m1 => rw [e0] at h; unfold octMost; rw [if_pos h]; rfl
  case m2 => rw [e0] at h; unfold octMost; rw [if_neg (by omega)]; rfl
  walk_at "S s"
  refine SS_while (σ := Nat × Int) (fun x => [(Str.ofString "text", .str T), (Str.ofString "at", .int i), (Str.ofString "most", .int (octMost (suf T i) : Nat)), (Str.ofString "many", .int x.1), (Str.ofString "value", .int x.2)]) (fun _ => n)
    (fun c => c.1 ≤ octMost (suf T i) ∧ octGo (octMost (suf T i) - c.1) (suf T (i + c.1)) c.2 c.1 = (v, m) ∧ 0 ≤ c.2 ∧ c.2 < ((8 ^ c.1 : Nat) : Int)) (fun c => octMost (suf T i) - c.1) (0, 0)
    ⟨Nat.zero_le _, by dsimp only; rw [Nat.sub_zero, Int.natCast_zero, Int.add_zero]; exact hr, Int.le_refl _, (by decide : (0 : Int) < ((8 ^ 0 : Nat) : Int))⟩ (LeR.refl _) (fun _ h => h) ?_
  rintro ⟨k, x⟩ ⟨g1, g2, g3, g4⟩ K' hK'
  dsimp only at g1 g2 g3 g4 ⊢
  have hc : codeAt T (i + k) = hd1 (suf T (i + k)) := codeAt_suf (by omega)
  have hb2 : ((8 ^ k : Nat) : Int) ≤ 512 := by
    have : 8 ^ k ≤ 512 := Nat.le_trans (Nat.pow_le_pow_right (by decide) (by omega) : 8 ^ k ≤ 8 ^ 3) (by decide)
    exact Int.ofNat_le.mpr this
  have hb3 : x < 512 := by omega
  clear hb2
  refine ⟨_, _, by walk_at "S t", ?_, ?_⟩
  · rintro ⟨gk, g5⟩
    have g6 := isOctal_bnd g5
    rw [hc] at g5
    have hs : suf T (i + ((k + 1 : Nat) : Int)) = (suf T (i + k)).tail := by
      rw [← suf_succ (by omega)]; congr 1; omega
    walk_at "S s"
    walk_at "S s"
    walk_at "S n"
    refine hK' (k + 1, x * 8 + codeAt T (i + k) - 48) _ _ ⟨by dsimp only; omega, ?_, by dsimp only; omega, ?_⟩ ?_ (LeR.refl _) (fun _ h => h)
    · dsimp only
      rw [hs, hc]
      exact oct_turn g2 (by omega) g5
    · dsimp only
      rw [Nat.pow_succ]; omega
    · dsimp only; omega
  · intro hf
    have hst : x = v ∧ k = m := by
      rcases hf with hf | ⟨-, hf⟩
      · exact oct_stop g2 (.inl (by omega))
      · rw [hc] at hf
        exact oct_stop g2 (.inr hf)
    obtain ⟨rfl, rfl⟩ := hst
    walk_at "S s"
    · rintro ⟨h1, h2⟩
      rw [hc, suf_add hi] at h2
      exact absurd ⟨by omega, h2⟩ hn
    · intro _
      refine SS_retC (EC_tup (by walk_at "S a") rfl) ?_
      intro y hy
      exact hR y _ _ hy rfl (fun _ h => h)
theorem gf_octal_escape : GF (Str.ofString "octal_escape") 190 := ⟨fun P => by k_is, fun P => by k_is, by decide +kernel⟩
end Mine
namespace Mine
/-- x names the dict at a -/
structure GDict (x : Str) (a : Addr) : Prop where
  name : ∀ P, nsIn (hpK P) mainGlobals x = some (some (.ref a))
  dict : ∀ P, ∃ es n, (hpK P).lookup a = some ⟨.type "dict", none, .dict es n, #[]⟩ ∧ KeysLit P es.toList
  low : (a == sysModules) = false
  dbg : (x == (Str.ofString "__debug__")) = false
section
variable {c : Cx} {S : Sc} {l l' : Loc} {n : Led} {R : AV → Led → Prop} {K : Loc → Led → Prop} {rest : List Stmt}
theorem EP_gd {x : Str} {a : Addr} {p : Pos} (hg : GDict x a) (hk : S.glob x = true) : EP c S l n (.Name x p) (.is (.ref a)) := by
  intro ok s m Q r F N ret
  exact nameX_K F ok.X (topRead_of ok.T) (hg.name _) (ret _ _ _ s.toks ⟨rfl, rfl⟩ F N) ok.S.kind (Sc.glob_eq hk) hg.dbg
theorem TT_inD {x y : Str} {a : Addr} {e : Expr} {p p1 : Pos} {r : Option Value} (hg : GDict x a) (hk : S.glob x = true) (he : EP c S l n e (.str y)) (hr : nsIn (hpK c.W.w.params) a y = some r) : TT c S l n (.Compare e [.In] [.Name x p1] p) (r.isSome = true) (r.isSome = false) := by
  intro ok s m Q rr F N ret
  refine wpAny_isTrue_Compare1 ?_ rfl
  refine he ok s m _ rr F N (fun va n' h' tk' hp F' N' => ?_)
  obtain ⟨⟨t, rfl⟩, rfl⟩ := hp
  refine EP_gd hg hk ok _ m _ rr F' N' (fun vb n2 h2 tk2 hp F2 N2 => ?_)
  obtain ⟨rfl, rfl⟩ := hp
  obtain ⟨es, k, d1, d2⟩ := hg.dict c.W.w.params
  refine topIn_K F2 ok.X d1 d2 hr hg.low (wpAny_truthy_bool (ret _ _ h2 _ ⟨rfl, ?_⟩ F2 N2))
  cases r.isSome with
  | true => exact .inl ⟨rfl, rfl⟩
  | false => exact .inr ⟨rfl, rfl⟩
theorem EP_dget {x y : Str} {a : Addr} {e : Expr} {p p1 : Pos} {v : Value} {V : AV} (hg : GDict x a) (hk : S.glob x = true) (he : EP c S l n e (.str y)) (hr : nsIn (hpK c.W.w.params) a y = some (some v)) (hv : V.has v)
    (hs : ∀ u, subscripted e false (.ref a) (.str y u) = operate [.ref a, .str y u] (getItem (.ref a) (.str y u))) : EP c S l n (.Subscript (.Name x p1) e p) V := by
  intro ok s m Q r F N ret
  refine Subscript_ ?_
  refine EP_gd hg hk ok s m _ r F N (fun v1 n' h' tk' hp F' N' => ?_)
  obtain ⟨rfl, rfl⟩ := hp
  refine he ok _ m _ r F' N' (fun va n2 h2 tk2 hp F2 N2 => ?_)
  obtain ⟨⟨t, rfl⟩, rfl⟩ := hp
  obtain ⟨es, k, d1, d2⟩ := hg.dict c.W.w.params
  exact topItem_K F2 ok.X d1 d2 hr (ret _ _ h2 _ ⟨hv, rfl⟩ F2 N2) (hs t)
end
theorem gd_single : GDict (Str.ofString "SINGLE") 162 := ⟨fun P => by k_is, fun P => ⟨_, _, by k_is, by k_keys⟩, by decide, by decide +kernel⟩
theorem single_in {P : Params} {c d : Nat} (h : (c, d) ∈ SINGLES) : (nsIn (hpK P) 162 ⟨#[c]⟩ = some none ∧ c = d) ∨ ∃ t, nsIn (hpK P) 162 ⟨#[c]⟩ = some (some (.int d t)) := by
  simp only [SINGLES, List.mem_cons, List.not_mem_nil, or_false, Prod.mk.injEq] at h
  rcases h with ⟨rfl, rfl⟩ | ⟨rfl, rfl⟩ | ⟨rfl, rfl⟩ | ⟨rfl, rfl⟩ | ⟨rfl, rfl⟩ | ⟨rfl, rfl⟩ | ⟨rfl, rfl⟩ | ⟨rfl, rfl⟩ | ⟨rfl, rfl⟩ | ⟨rfl, rfl⟩
  all_goals first | exact .inr ⟨_, by k_is⟩ | exact .inl ⟨by k_is, rfl⟩
theorem singles_all : ∀ e ∈ SINGLES, isLineEnd (e.1 : Int) = false ∧ (e.1 : Int) ≠ 120 ∧ (e.1 : Int) ≠ 117 ∧ isDigit (e.1 : Int) = false ∧ isOctal (e.1 : Int) = false ∧ e.2 < 256 := by decide
theorem octal_all {c : Int} (h : isOctal c = true) : isLineEnd c = false ∧ c ≠ 120 ∧ c ≠ 117 ∧ isDigit c = true := by
  have h2 := isOctal_bnd h
  have : c = 48 ∨ c = 49 ∨ c = 50 ∨ c = 51 ∨ c = 52 ∨ c = 53 ∨ c = 54 ∨ c = 55 := by omega
  rcases this with rfl | rfl | rfl | rfl | rfl | rfl | rfl | rfl <;> decide
/-- what an escape is told by -/
theorem esc_line {l cs : List Nat} {j : Nat} {o : Bool} (h : EscRun l cs j o) (g : isLineEnd (hd1 l) = true) : cs = [] ∧ j = leS l ∧ o = false := by
  cases h with
  | line h1 => exact ⟨rfl, rfl, rfl⟩
  | hex h1 => rw [h1] at g; exact absurd g (by decide)
  | uni h1 => rw [h1] at g; exact absurd g (by decide)
  | nul h1 => rw [h1] at g; exact absurd g (by decide)
  | oct h1 => rw [(octal_all h1).1] at g; cases g
  | one h1 h2 => rw [h2, (singles_all _ h1).1] at g; cases g
theorem esc_hex {l cs : List Nat} {j : Nat} {o : Bool} (h : EscRun l cs j o) (g0 : isLineEnd (hd1 l) = false) (g : hd1 l = 120 ∨ hd1 l = 117) : ∃ v, hexAt l.tail (if hd1 l = 120 then 2 else 4) 0 = v ∧ 0 ≤ v ∧ v < 65536 ∧ cs = [v.toNat] ∧ j = 1 + (if hd1 l = 120 then 2 else 4) ∧ o = false := by
  cases h with
  | line h1 => rw [h1] at g0; cases g0
  | hex h1 h2 h3 =>
    rw [if_pos h1]
    have := (hexAt_bnd 2 l.tail 0 (by decide)).1
    rw [h2, show ((0 : Int) + 1) * 16 ^ 2 = 256 from by decide] at this
    exact ⟨_, h2, h3, by omega, rfl, rfl, rfl⟩
  | uni h1 h2 h3 =>
    rw [if_neg (show ¬ hd1 l = 120 by omega)]
    have := hexAt4 l.tail
    rw [h2] at this
    exact ⟨_, h2, h3, by omega, rfl, rfl, rfl⟩
  | nul h1 => omega
  | oct h1 => have := octal_all h1; omega
  | one h1 h2 => have := singles_all _ h1; omega
theorem esc_nul {l cs : List Nat} {j : Nat} {o : Bool} (h : EscRun l cs j o) (g : hd1 l = 48) (g2 : isDigit (hd1 l.tail) = false) : cs = [0] ∧ j = 1 ∧ o = false := by
  cases h with
  | line h1 => rw [g] at h1; exact absurd h1 (by decide)
  | hex h1 => omega
  | uni h1 => omega
  | nul h1 => exact ⟨rfl, rfl, rfl⟩
  | oct h1 h2 => exact absurd ⟨g, g2⟩ h2
  | one h1 h2 =>
    have h3 := (singles_all _ h1).2.2.2.1
    rw [← h2, g] at h3
    exact absurd h3 (by decide)
theorem esc_oct {l cs : List Nat} {j : Nat} {o : Bool} (h : EscRun l cs j o) (g : isOctal (hd1 l) = true) (g2 : ¬ (hd1 l = 48 ∧ isDigit (hd1 l.tail) = false)) : ∃ v, octRun l = (v, j) ∧ ¬ (j < octMost l ∧ isDigit (hd1 (l.drop j)) = true) ∧ cs = [v.toNat] ∧ o = true ∧ 0 ≤ v ∧ v < 512 := by
  have g3 := octal_all g
  cases h with
  | line h1 => rw [h1] at g3; cases g3.1
  | hex h1 => omega
  | uni h1 => omega
  | nul h1 h2 => exact absurd ⟨h1, h2⟩ g2
  | @oct v _ h1 h2 h3 h4 =>
    have hg := octGo_bnd (octMost l) l 0 0 (Int.le_refl _) (by decide)
    have e : octGo (octMost l) l 0 0 = (v, j) := h3
    rw [e] at hg
    dsimp only at hg
    have hm : j ≤ 3 := by
      have : octMost l ≤ 3 := by unfold octMost; split <;> omega
      omega
    have : 8 ^ j ≤ 512 := Nat.le_trans (Nat.pow_le_pow_right (by decide) hm : 8 ^ j ≤ 8 ^ 3) (by decide)
    exact ⟨v, h3, h4, rfl, rfl, by omega, by omega⟩
  | one h1 h2 => rw [h2, (singles_all _ h1).2.2.2.2.1] at g; cases g
theorem esc_one {l cs : List Nat} {j : Nat} {o : Bool} (h : EscRun l cs j o) (g0 : isLineEnd (hd1 l) = false) (g1 : hd1 l ≠ 120) (g2 : hd1 l ≠ 117) (g3 : isOctal (hd1 l) = false) : ∃ c d, (c, d) ∈ SINGLES ∧ hd1 l = (c : Nat) ∧ cs = [d] ∧ j = 1 ∧ o = false := by
  cases h with
  | line h1 => rw [h1] at g0; cases g0
  | hex h1 => exact absurd h1 g1
  | uni h1 => exact absurd h1 g2
  | nul h1 => rw [h1] at g3; exact absurd g3 (by decide)
  | oct h1 => rw [h1] at g3; cases g3
  | one h1 h2 => exact ⟨_, _, h1, h2, rfl, rfl, rfl⟩
theorem esc_pos {l cs : List Nat} {j : Nat} {o : Bool} (h : EscRun l cs j o) : 0 ≤ hd1 l := by
  cases l with
  | nil => cases h with
    | line h1 => exact absurd h1 (by decide)
    | hex h1 => exact absurd h1 (by decide)
    | uni h1 => exact absurd h1 (by decide)
    | nul h1 => exact absurd h1 (by decide)
    | oct h1 => exact absurd h1 (by decide)
    | one h1 h2 => exact h2 ▸ Int.natCast_nonneg _
  | cons c r => exact Int.natCast_nonneg _
theorem read_escape_c {W : Wd} {n : Led} {T : Str} {i : Int} {cs : List Nat} {j : Nat} {o : Bool} (hT : T.length ≤ 1000000) (hi : 0 ≤ i) (hE : EscRun (suf T i) cs j o) :
    CC W 4 n 197 [.str T, .int i] (Addr × List Value) (fun x => HasAll [.str ⟨cs.toArray⟩, .int (i + j), .is (.bool o)] x.2 ∧ ∀ q ∈ n, @LT.lt Nat _ q.1 x.1) (fun x => .is (.ref x.1)) (fun x => (x.1, tupO x.2) :: n) := by
  refine fn2 (x1 := Str.ofString "text") (x2 := Str.ofString "at") (us := [Str.ofString "code", Str.ofString "many", Str.ofString "value", Str.ofString "found", Str.ofString "sign"]) (by k_is) (by k_is) (Mine.ok_of ?hok) (fun _ _ => rfl) rfl rfl ?e3 ?H
  walk_at "S fn"
  rename_i c R hR
  have e0 := codeAt_suf (T := T) hi
  have q1 : (0 : Int) ≤ i + 1 := by omega
  have s1 := suf_succ (T := T) hi
  have e1 : codeAt T (i + 1) = hd1 (suf T i).tail := by rw [codeAt_suf q1, s1]
  have hp := esc_pos hE
  have lit0 : Str.ofString "" = ⟨([] : List Nat).toArray⟩ := by decide +kernel
  have fin : ∀ (S : Sc) (l : Loc) (n' : Led) (es : List Expr) (k : Nat) (p1 : Pos) (V1 V2 V3 : AV), (∀ q ∈ n, q ∈ n') → EA c S l n' p1 es [V1, V2, V3] → V1 = .str ⟨cs.toArray⟩ → V2 = .int (i + j) → V3 = .is (.bool o) → ER c S R l n' (.Tuple es k p1) := by
    intro S l n' es k p1 V1 V2 V3 hn ha h1 h2 h3
    subst h1 h2 h3
    exact ER_c (EC_tup ha rfl) fun y hy => hR y _ _ ⟨hy.1, fun q hq => hy.2 q (hn q hq)⟩ rfl (List.forall_mem_cons.mpr ⟨.head _, fun q hq => .tail _ (hn q hq)⟩)
  walk_at "S s"
  rw [e0]
  walk_at "S s"
  · intro h; omega
  intro _
  walk_at "S s"
  · intro h
    obtain ⟨rfl, rfl, rfl⟩ := esc_line hE h
    with_reducible refine' SS_retR ?rt0
    with_reducible refine' fin _ _ _ _ _ _ _ _ _ (fun _ h => h) ?ha0 ?va0 ?vb0 ?vc0
    case ha0 => walk_at "S a"
    case va0 => exact congrArg AV.str lit0
    case vb0 => exact congrArg AV.int (leS_cast hi)
    case vc0 => rfl
  intro g0
  walk_at "S s"
  · intro h
    obtain ⟨v, h1, h2, h3, rfl, rfl, rfl⟩ := esc_hex hE g0 (h.imp id (·.2))
    rw [← s1] at h1
    have ex : ∃ m : Nat, (if hd1 (suf T i) = 120 then 2 else 4) = m ∧ m ≤ 4 := ⟨_, rfl, by split <;> decide⟩
    obtain ⟨m, hm, hm4⟩ := ex
    have hc := hex_at_c (W := c.W) (n := n) hT q1 hm4
    rw [hm] at h1 fin
    rw [h1] at hc
    refine SS_set (V := .int m) (EP_ifV (by walk_at "S t") (fun _ => EP_int) (fun _ => EP_int) (fun g => congrArg AV.int ?m1) (fun g => congrArg AV.int ?m2)) rfl (by walk_at "S p") ?_
    case m1 => rw [← hm, if_pos g]; rfl
    case m2 => rw [← hm, if_neg g]; rfl
    refine SS_set (EP_call gf_hex_at (by kernel_rfl) (by walk_at "S a") rfl hc rfl) rfl (by walk_at "S p") ?_
    with_reducible refine' SS_retR ?rt1
    with_reducible refine' ER_if ?rt2 ?rt3 ?rt4
    case rt2 => walk_at "S t"
    case rt3 => intro g; omega
    case rt4 =>
      intro _
      with_reducible refine' fin _ _ _ _ _ _ _ _ _ (fun _ h => h) ?ha1 ?va1 ?vb1 ?vc1
      case ha1 => walk_at "S a"
      case va1 => rfl
      case vb1 => exact congrArg AV.int (by omega)
      case vc1 => rfl
  intro g1
  walk_at "S s"
  · intro h
    rw [e1] at h
    obtain ⟨rfl, rfl, rfl⟩ := esc_nul hE h.1 h.2
    with_reducible refine' SS_retR ?rt5
    with_reducible refine' fin _ _ _ _ _ _ _ _ _ (fun _ h => h) ?ha2 ?va2 ?vb2 ?vc2
    case ha2 => walk_at "S a"
    case va2 => rfl
    case vb2 => rfl
    case vc2 => rfl
  intro g2
  walk_at "S s"
  · intro h
    obtain ⟨v, h1, h2, rfl, rfl, h3, h4⟩ := esc_oct hE h (by rintro ⟨a, b⟩; rw [e1] at g2; rcases g2 with g2 | ⟨-, g2⟩; exact g2 a; rw [b] at g2; cases g2)
    refine SS_setC (EC_call gf_octal_escape (by kernel_rfl) (by walk_at "S a") rfl (octal_escape_c hT hi h1 h2) rfl) rfl (fun _ => by walk_at "S p") ?_
    rintro ⟨a, vs⟩ ⟨hv, -⟩
    dsimp only at hv ⊢
    with_reducible refine' SS_retR ?rt6
    with_reducible refine' ER_if ?rt7 ?rt8 ?rt9
    case rt7 => walk_at "S t"
    case rt8 => exact nofun
    case rt9 =>
      intro _
      with_reducible refine' fin _ _ _ _ _ _ _ _ _ (fun _ h => List.mem_cons_of_mem _ h) ?ha3 ?va3 ?vb3 ?vc3
      case ha3 =>
        with_reducible refine' EA_cons ?y1 ?y4 (EA_cons ?y2 ?y5 (EA_cons EP_boo ?y6 EA_nil))
        case y1 => 
          with_reducible refine' EP_chr ?z1 ?z2 ?z3 ?z4 ?z5
          case z2 =>
            with_reducible refine' EP_titem (V := .int v) (j := 0) ?t1 EP_int ?t3 hv ?t4 ?t5 ?t6 ?t7 ?t8
            case t1 => walk_at "S e"
            case t3 => exact .head _
            case t4 => rfl
            case t5 => decide
            case t6 => decide
            case t7 => rfl
            case t8 => exact fun _ => rfl
          case z1 => kernel_rfl
          case z3 => rfl
          case z4 => omega
          case z5 => omega
        case y2 => 
          with_reducible refine' EP_add ?s1 ?s2
          case s1 => walk_at "S e"
          case s2 =>
            with_reducible refine' EP_titem (V := .int j) (j := 1) ?r1 EP_int ?r3 hv ?r4 ?r5 ?r6 ?r7 ?r8
            case r1 => walk_at "S e"
            case r3 => exact .head _
            case r4 => rfl
            case r5 => decide
            case r6 => decide
            case r7 => rfl
            case r8 => exact fun _ => rfl
        case y4 => exact rfl
        case y5 => exact rfl
        case y6 => exact rfl
      case va3 => rfl
      case vb3 => rfl
      case vc3 => rfl
  intro g3
  obtain ⟨ch, d, k1, k2, rfl, rfl, rfl⟩ := esc_one hE g0 (by omega) (by omega) g3
  have k3 := singles_all _ k1
  walk_at "S s"
  · intro h
    rw [k2, k3.2.2.2.1] at h; cases h
  intro _
  have hil : i < T.length := by
    rw [← e0] at k2
    unfold codeAt at k2
    split at k2
    · assumption
    · omega
  have hit : Txt.item T i = ⟨#[ch]⟩ := by
    have h2 := e0.trans k2
    unfold codeAt at h2
    rw [if_pos hil] at h2
    rw [item_one hi hil]
    have : T.cps.getD i.toNat 0 = ch := Int.ofNat.inj h2
    rw [this]
  walk_at "S s"
  rw [hit]
  with_reducible refine' SS_retR ?rta
  with_reducible refine' fin _ _ _ _ _ _ (.str ⟨#[d]⟩) _ _ (fun _ h => h) (EA_cons ?hv rfl ?ha4) ?va4 ?vb4 ?vc4
  case ha4 => walk_at "S a"
  case hv =>
    rcases single_in (P := c.W.w.params) k1 with ⟨h, rfl⟩ | ⟨t, h⟩
    · with_reducible refine' EP_if (TT_inD gd_single ?w1 ?w2 h) ?w4 ?w3
      case w1 => kernel_rfl
      case w4 => exact fun h => absurd h (by decide)
      case w2 => walk_at "S e"
      case w3 => intro _; walk_at "S e"
    · with_reducible refine' EP_if (TT_inD gd_single ?x1 ?x2 h) ?x3 ?x4
      case x1 => kernel_rfl
      case x4 => exact fun h => absurd h (by simp)
      case x2 => walk_at "S e"
      case x3 =>
        intro _
        exact EP_chr (by kernel_rfl) (EP_dget (V := .int d) gd_single (by kernel_rfl) (by walk_at "S e") h ⟨t, rfl⟩ (fun _ => rfl)) rfl (by omega) (by omega)
  case va4 => rfl
  case vb4 => rfl
  case vc4 => rfl
theorem gf_read_escape : GF (Str.ofString "read_escape") 197 := ⟨fun P => by k_is, fun P => by k_is, by decide +kernel⟩
end Mine
local macro_rules | `(tactic| walk_at "S ti") => `(tactic| first | ((with_reducible refine' Mine.EP_titem ?t1 Mine.EP_int ?t3 ?t9 ?t4 ?t5 ?t6 ?t7 ?t8); (case t1 => walk_at "S e"); (case t3 => first | with_reducible assumption | walk_at "S mem"); (case t9 => with_reducible assumption); (case t7 => exact rfl); (case t4 => exact rfl); (case t5 => decide); (case t6 => decide); (case t8 => exact fun _ => rfl)) | fail "S ti")
local macro_rules | `(tactic| walk_at "S more") => `(tactic| first | walk_at "S ti" | fail "S more")
namespace Mine
section
variable {W : Wd} {d : Nat} {n : Led} {f : Addr} {X : Type} {P : X → Prop} {fV : X → AV} {fn : X → Led} {name qual : Str} {params : Arguments} {body : List Stmt} {scope : Scope} {dV kV doc pm cdv ct oc : Value} {an od : Option Addr} {osl : Array (Option Value)} {x1 x2 x3 : Str} {V1 V2 V3 : AV} {us : List Str}
end
section
variable {c : Cx} {S : Sc} {l l' : Loc} {n : Led} {R : AV → Led → Prop} {K : Loc → Led → Prop} {rest : List Stmt}
theorem SS_appendC {y : Str} {e : Expr} {D : Addr} {its : List Value} {k : Nat} {X : Type} {P : X → Prop} {fV : X → AV} {fn0 : X → Led} {fn : X → Value → Led} {p p1 p2 p3 : Pos} {pl : Sem Bool} (ho : EP c S l n (.Name y p1) (.is (.ref D))) (he : EC c S l n e X P fV fn0) (hp : plainE e = true) (hz : its.length ≤ 1000000)
    (hm0 : (D, W.listOf its.toArray k) ∈ n) (U : ∀ x v, P x → Upd D (W.listOf its.toArray k) (W.listOf (its ++ [v]).toArray (k + 1)) (fn0 x) (fn x v)) (hme : eval (.Call (.Attribute (.Name y p1) (Str.ofString "append") p2) [e] [] p3) (c.env S) = (do
      let ov ← eval (.Name y p1) (c.env S)
      standAt p2.atName
      let (f, first) ← holding [ov] (getMethod ov (Str.ofString "append") pl)
      callWith p3 f first (backTo p3 (starEach [e] (c.env S))) []))
    (h : ∀ x v, P x → (fV x).has v → SS c S R l (fn x v) rest K) : SS c S R l n (.Expr (.Call (.Attribute (.Name y p1) (Str.ofString "append") p2) [e] [] p3) p :: rest) K := by
  refine SS_cons (K1 := fun l1 n1 => ∃ x v, P x ∧ (fV x).has v ∧ l1 = l ∧ n1 = fn x v) ?_ (by rintro _ _ ⟨x, v, hx, hv, rfl, rfl⟩; exact h x v hx hv)
  intro ok s m Q r F N next ret
  refine wpAny_Expr_any ?_ (by show (S.scope.kind == .module && _) = false; rw [ok.S.kind]; rfl) rfl
  refine MethodCall_ ?_ hme
  refine ho ok s m _ r F N (fun v n' h' tk' hp2 F' N' => ?_)
  obtain ⟨rfl, rfl⟩ := hp2
  refine listMethod_K N' hm0 PySem.F.slot_list_append PySem.F.type_list_append ?_
  refine callWith_method1 ?_ (star_plain hp) rfl
  refine args_cons ?_ (star_plain hp)
  refine he ok _ m _ r F' N' (fun v n2 h2 tk2 hq F2 N2 => ?_)
  obtain ⟨x, hx, hv, rfl⟩ := hq
  refine args_nil ?_
  have e : (its ++ [v]).toArray = its.toArray.push v := by simp
  exact append_K F2 N2 (e ▸ U x v hx) (fun h3 F3 N3 => next _ _ _ h3 _ ⟨x, v, hx, hv, rfl, rfl⟩ r F3 N3) (Nat.le_trans (by rw [List.size_toArray]; exact hz) (by decide))
end
theorem tok_fresh {I : LexId} {J : TokId} {rest n : Led} {D : Addr} {o : Obj} (hA : tokA I J rest) (hn : n.map Prod.fst = I.x :: I.dx :: J.t :: J.dt :: rest.map Prod.fst) (hf : ∀ q ∈ n, @LT.lt Nat _ q.1 D) : tokA I J ((D, o) :: rest) :=
  nod_ins (pre := [I.x, I.dx, J.t, J.dt]) hA fun a ha => by
    obtain ⟨p, hp, rfl⟩ := mem_adr (n := n) (by rw [hn]; exact ha)
    exact hf p hp
theorem escaped_c {W : Wd} {I : LexId} {J : TokId} {pos ln : Int} {ta tl : Tok} {rest : Led} {kind value line isb start fin plain : Value} {o o' : Bool} {cs : List Nat} {j : Nat}
    (hA : tokA I J rest) (hT : I.T.length ≤ 1000000) (h0 : 0 ≤ pos) (hE : EscRun (suf I.T (pos + 1)) cs j o') :
    CC W 6 (lexL I pos ln ta tl (tokL J kind value line isb start fin (.bool o) plain rest)) 408 [.is (.ref I.x), .is (.ref J.t)] (Tok × Tok) (fun _ => True) (fun _ => .str ⟨cs.toArray⟩)
      (fun t => lexL I (pos + 1 + j) (ln + ((if isLineEnd (hd1 (suf I.T (pos + 1))) = true then 1 else 0 : Nat) : Int)) t.1 t.2 (tokL J kind value line isb start fin (.bool (o || o')) (.bool false) rest)) := by
  refine fn2 (x1 := Str.ofString "self") (x2 := Str.ofString "token") (us := [Str.ofString "told"]) (by k_is) (by k_is) (Mine.ok_of ?hok) (fun _ _ => rfl) rfl rfl ?e3 ?H
  walk_at "S fn"
  rename_i c R hR
  have q1 : (0 : Int) ≤ pos + 1 := by omega
  have e1 := codeAt_suf (T := I.T) q1
  walk_at "S s"
  refine SS_setC (X := Addr × List Value) (fV := fun x => .is (.ref x.1)) (fn := fun x => lexL I pos ln ta tl (tokL J kind value line isb start fin (.bool o) (.bool false) ((x.1, tupO x.2) :: rest))) (EC_weak (EC_call gf_read_escape (by kernel_rfl) (by walk_at "S a") rfl (read_escape_c hT q1 hE) rfl) (fun _ => mem_rot4)) rfl (fun _ => by walk_at "S p") ?_
  rintro ⟨D, vs⟩ ⟨hv, hlt⟩
  dsimp only at hv hlt ⊢
  have hA2 : tokA I J ((D, tupO vs) :: rest) := tok_fresh hA rfl hlt
  walk_at "S s"
  · exact nofun
  intro _
  refine SS_ifj (ι := Tok) (fun _ => [(Str.ofString "self", .is (.ref I.x)), (Str.ofString "token", .is (.ref J.t)), (Str.ofString "told", .is (.ref D))]) (fun t => lexL I pos (ln + ((if isLineEnd (hd1 (suf I.T (pos + 1))) = true then 1 else 0 : Nat) : Int)) ta t (tokL J kind value line isb start fin (.bool o) (.bool false) ((D, tupO vs) :: rest))) (fun _ => True) (by walk_at "S t") ?_ ?_ ?_
  · intro h
    rw [e1] at h
    walk_at "S s"
    walk_at "S n"
    exact ⟨_, trivial, rfl, by rw [if_pos h]; rfl⟩
  · intro h
    rw [e1] at h
    walk_at "S n"
    exact ⟨_, trivial, rfl, by rw [if_neg (by rw [h]; decide), Int.natCast_zero, Int.add_zero]⟩
  intro t2 _
  with_reducible refine' tk_octal (v := .bool (o || o')) ?a1 ?a2 hA2 ?a3 ?_
  case a1 => walk_at "S e"
  case a2 => rfl
  case a3 =>
    with_reducible refine' EP_orb ?b1 ?b2
    case b1 => exact EP_toct (by walk_at "S e") rfl rfl
    case b2 => intro _; walk_at "S ti"
  walk_at "S s"
  with_reducible refine' SS_ret ?c1 ?c2
  case c1 => walk_at "S ti"
  case c2 => exact hR (_, t2) _ _ trivial rfl (mem_skip4 (m := []))
theorem gl_escaped : GL (Str.ofString "escaped") 408 := ⟨by constructor <;> (intro P; k_is), fun _ _ _ _ _ _ _ _ _ => rfl⟩
theorem text_go {q : Int} {l cs : List Nat} {k : Nat} {o p : Bool} {n : Nat} (hq : q ≠ 92) (H : TextRun q l cs k o p n) (h : hd1 l ≠ q) : 0 ≤ hd1 l ∧ isLineEnd (hd1 l) = false := by
  rcases H.split hq with ⟨h1, _⟩ | ⟨c, r, _, _, rfl, _, _, h3, _⟩ | ⟨_, _, _, _, _, _, _, _, h1, _⟩
  · exact absurd h1 h
  · exact ⟨Int.natCast_nonneg _, h3⟩
  · rw [h1]; decide
theorem text_end {q : Int} {l cs : List Nat} {k : Nat} {o p : Bool} {n : Nat} (hq : q ≠ 92) (H : TextRun q l cs k o p n) (h : hd1 l = q) : cs = [] ∧ k = 1 ∧ o = false ∧ p = true ∧ n = 0 := by
  rcases H.split hq with ⟨_, h⟩ | ⟨c, r, _, _, rfl, h1, _⟩ | ⟨_, _, _, _, _, _, _, _, _, h1, _⟩
  · exact h
  · exact absurd h h1
  · exact absurd h h1
theorem text_one {q : Int} {l cs : List Nat} {k : Nat} {o p : Bool} {n : Nat} (hq : q ≠ 92) (H : TextRun q l cs k o p n) (h : hd1 l ≠ q) (h2 : hd1 l ≠ 92) : ∃ (c : Nat) (r cs' : List Nat) (k' : Nat), l = c :: r ∧ cs = c :: cs' ∧ k = 1 + k' ∧ TextRun q r cs' k' o p n := by
  rcases H.split hq with ⟨h1, _⟩ | ⟨c, r, cs', k', h3, _, _, _, h4, h5, h6⟩ | ⟨_, _, _, _, _, _, _, _, h1, _⟩
  · exact absurd h1 h
  · exact ⟨c, r, cs', k', h3, h4, h5, h6⟩
  · exact absurd h1 h2
theorem text_esc {q : Int} {l cs : List Nat} {k : Nat} {o p : Bool} {n : Nat} (hq : q ≠ 92) (H : TextRun q l cs k o p n) (h2 : hd1 l = 92) : ∃ (es : List Nat) (j : Nat) (oe : Bool) (cs' : List Nat) (k' : Nat) (o' p' : Bool) (n' : Nat), EscRun l.tail es j oe ∧ cs = es ++ cs' ∧ k = 1 + j + k' ∧ o = (oe || o') ∧ p = false ∧ n = (if isLineEnd (hd1 l.tail) = true then 1 else 0) + n' ∧ TextRun q (l.drop (1 + j)) cs' k' o' p' n' := by
  rcases H.split hq with ⟨h1, _⟩ | ⟨c, r, cs', k', rfl, _, h1, _⟩ | ⟨a, b, c, d, e, f, g, i, _, _, H⟩
  · exact absurd (h1.symm.trans h2) hq
  · exact absurd h2 h1
  · exact ⟨a, b, c, d, e, f, g, i, H⟩
structure TS2 where
  ys : List Str
  its : List Value
  ep : Nat
  i : Int
  ti : Tok
  l : Int
  tl : Tok
  o : Bool
  p : Bool
  cs : List Nat
  k : Nat
  o2 : Bool
  p2 : Bool
  n : Nat
theorem read_text_c {W : Wd} {I : LexId} {J : TokId} {pos ln q : Int} {ta tl : Tok} {rest : Led} {kind value line isb start fin : Value} {cs : List Nat} {k n : Nat} {o p : Bool}
    (hA : tokA I J rest) (hT : I.T.length ≤ 1000000) (h0 : 0 ≤ pos) (hq : q ≠ 92) (hN : TextRun q (suf I.T (pos + 1)) cs k o p n) (hcs : cs.length ≤ 1000) (hk : k ≤ 1000) :
    CC W 8 (lexL I pos ln ta tl (tokL J kind value line isb start fin (.bool false) (.bool true) rest)) 401 [.is (.ref I.x), .is (.ref J.t), .int q] (Tok × Tok × Tok × Tok) (fun _ => True) (fun _ => .is .none)
      (fun t => lexL I (pos + 1 + k) (ln + n) t.1 t.2.1 (tokL J (.str (Str.ofString "text") t.2.2.1) (.str ⟨cs.toArray⟩ t.2.2.2) line isb start fin (.bool o) (.bool p) rest)) := by
  refine fn3 (x1 := Str.ofString "self") (x2 := Str.ofString "token") (x3 := Str.ofString "quote") (us := [Str.ofString "found", Str.ofString "code"]) (by k_is) (by k_is) (Mine.ok_of ?hok) (fun _ _ _ => rfl) rfl rfl ?e3 ?H
  walk_at "S fn"
  rename_i c R hR
  walk_at "S s"
  rename_i tk
  refine SS_setC (X := Addr) (P := fun a => ∀ q ∈ lexL I pos ln ta tl (tokL J (.str (Str.ofString "text") tk) value line isb start fin (.bool false) (.bool true) rest), @LT.lt Nat _ q.1 a) (fV := fun a => .is (.ref a)) (fn := fun a => lexL I pos ln ta tl (tokL J (.str (Str.ofString "text") tk) value line isb start fin (.bool false) (.bool true) ((a, PySem.W.listOf #[] 0) :: rest))) (EC_weak EC_list0 (fun _ => mem_rot4)) rfl (fun _ => by walk_at "S p") ?_
  intro lf hlf
  have hA1 : tokA I J ((lf, PySem.W.listOf #[] 0) :: rest) := tok_fresh hA rfl hlf
  clear hlf
  walk_at "S s"
  refine SS_while (σ := TS2) (fun _ => [(Str.ofString "self", .is (.ref I.x)), (Str.ofString "token", .is (.ref J.t)), (Str.ofString "quote", .int q), (Str.ofString "found", .is (.ref lf)), (Str.ofString "code", .un)])
    (fun x => lexL I x.i x.l x.ti x.tl (tokL J (.str (Str.ofString "text") tk) value line isb start fin (.bool x.o) (.bool x.p) ((lf, PySem.W.listOf x.its.toArray x.ep) :: rest)))
    (fun x => ∀ C : Prop, (TextRun q (suf I.T x.i) x.cs x.k x.o2 x.p2 x.n → flat x.ys ++ x.cs = cs → x.i + x.k = pos + 1 + k → x.l + x.n = ln + n → (x.o || x.o2) = o → (x.p && x.p2) = p → x.ys.length + x.k ≤ k → 0 ≤ x.i → HasAll (x.ys.map AV.str) x.its → C) → C)
    (fun x => x.k) ⟨[], [], 0, pos + 1, _, ln, tl, false, true, cs, k, o, p, n⟩ (fun C f => f hN rfl rfl rfl rfl rfl (by simp) (by dsimp only; omega) trivial) (LeR.refl _) (fun _ h => h) ?_
  rintro ⟨ys, its, ep, i, ti, l, tl1, o1, p1, cs1, k1, o2, p2, n1⟩ hI K' hK'
  refine hI _ ?_
  clear hI
  intro hN1 hcs1 hk1 hn1 ho1 hp1 hy1 hi0 hsa
  dsimp only at hN1 hcs1 hk1 hn1 ho1 hp1 hy1 hi0 hsa ⊢
  clear hN
  have hA2 : tokA I J ((lf, PySem.W.listOf its.toArray ep) :: rest) := hA1
  have hc := codeAt_suf (T := I.T) hi0
  have hlen := hsa.len
  rw [List.length_map] at hlen
  have hz : its.length ≤ 1000000 := by omega
  refine ⟨_, _, by walk_at "S t", ?_, ?_⟩
  · intro g
    rw [hc] at g
    obtain ⟨g1, g2⟩ := text_go hq hN1 g
    rw [← hc] at g1 g2
    walk_at "S s"
    walk_at "S s"
    · rintro (h | ⟨-, h⟩)
      · omega
      · rw [g2] at h; cases h
    intro _
    walk_at "S s"
    · intro h92
      rw [hc] at h92
      obtain ⟨es, j, oe, cs2, k2, o3, p3, n3, hE, rfl, rfl, rfl, rfl, rfl, hN2⟩ := text_esc hq hN1 h92
      rw [← suf_succ hi0] at hE hn1
      have s2 : suf I.T (i + 1 + (j : Int)) = (suf I.T i).drop (1 + j) := by
        rw [← suf_add hi0]; congr 1; omega
      rw [← s2] at hN2
      have hmm : ∀ (o : Obj), (lf, o) ∈ (lf, o) :: rest := fun _ => .head _
      with_reducible refine' SS_appendC (its := its) (k := ep) (fn := fun (t : Tok × Tok) v => lexL I (i + 1 + j) (l + ((if isLineEnd (hd1 (suf I.T (i + 1))) = true then 1 else 0 : Nat) : Int)) t.1 t.2 (tokL J (.str (Str.ofString "text") tk) value line isb start fin (.bool (o1 || oe)) (.bool false) ((lf, PySem.W.listOf (its ++ [v]).toArray (ep + 1)) :: rest))) ?a1 (EC_meth ?b1 gl_escaped ?b2 ?b3 (escaped_c hA2 hT hi0 hE) ?b4 ?b5) ?a2 hz ?a3 ?a4 ?a5 ?_
      case a1 => walk_at "S e"
      case b1 => walk_at "S e"
      case b2 => walk_at "S a"
      case b3 => exact rfl
      case b4 => exact rfl
      case b5 => exact rfl
      case a2 => exact rfl
      case a3 => exact .tail _ (.tail _ (.tail _ (.tail _ (.head _))))
      case a4 => exact fun t v _ => upd_of (pre := lexL I (i + 1 + j) (l + ((if isLineEnd (hd1 (suf I.T (i + 1))) = true then 1 else 0 : Nat) : Int)) t.1 t.2 (tokL J (.str (Str.ofString "text") tk) value line isb start fin (.bool (o1 || oe)) (.bool false) [])) hA1
      case a5 => exact rfl
      rintro ⟨t1, t2⟩ v _ hv
      walk_at "S n"
      refine hK' ⟨ys ++ [⟨es.toArray⟩], its ++ [v], ep + 1, i + 1 + j, t1, l + ((if isLineEnd (hd1 (suf I.T (i + 1))) = true then 1 else 0 : Nat) : Int), t2, o1 || oe, false, cs2, k2, o3, p3, n3⟩ _ _ (fun C f => f hN2 ?f1 ?f2 ?f3 ?f4 ?f5 ?f6 ?f7 ?f8) ?f9 (.same (.same (.same (.same (.un .nil))))) (fun _ h => h)
      case f1 => dsimp only; rw [flat_snoc, List.append_assoc]; exact hcs1
      case f2 => dsimp only; omega
      case f3 => dsimp only; omega
      case f4 => dsimp only; rw [Bool.or_assoc]; exact ho1
      case f5 => rw [← hp1, Bool.and_false]; rfl
      case f6 => dsimp only; rw [List.length_append, List.length_singleton]; omega
      case f7 => dsimp only; omega
      case f8 => rw [List.map_append]; exact hsa.append ⟨hv, trivial⟩
      case f9 => dsimp only; omega
    · intro h92
      rw [hc] at h92
      obtain ⟨c, r, cs2, k2, hl, rfl, rfl, hN2⟩ := text_one hq hN1 g h92
      have hll := suf_length (T := I.T) hi0
      rw [hl, List.length_cons] at hll
      have hil : i < I.T.length := by omega
      have hit : (Txt.item I.T i).cps.toList = [c] := by
        rw [item_one hi0 hil]
        have hcc := hc
        rw [hl] at hcc
        unfold codeAt at hcc
        rw [if_pos hil] at hcc
        exact congrArg (fun x => [x]) (Int.ofNat.inj hcc)
      have hr2 : suf I.T (i + 1) = r := by rw [suf_succ hi0, hl]; rfl
      rw [← hr2] at hN2
      with_reducible refine' SS_append (its := its) (k := ep) (V := .str (Txt.item I.T i)) (fn := fun v => lexL I i l ti tl1 (tokL J (.str (Str.ofString "text") tk) value line isb start fin (.bool o1) (.bool p1) ((lf, PySem.W.listOf (its ++ [v]).toArray (ep + 1)) :: rest))) ?d1 ?d2 ?d3 hz ?d4 ?d5 ?d6 ?_
      case d1 => walk_at "S e"
      case d2 => walk_at "S e"
      case d3 => exact rfl
      case d4 => exact .tail _ (.tail _ (.tail _ (.tail _ (.head _))))
      case d5 => exact fun v => upd_of (pre := lexL I i l ti tl1 (tokL J (.str (Str.ofString "text") tk) value line isb start fin (.bool o1) (.bool p1) [])) hA1
      case d6 => exact rfl
      intro v hv
      with_reducible refine' SS_at_aug ?j1 ?j2 ?j3 ?_
      case j1 => walk_at "S e"
      case j2 => walk_at "S e"
      case j3 => exact hA1
      intro t9
      walk_at "S n"
      refine hK' ⟨ys ++ [Txt.item I.T i], its ++ [v], ep + 1, i + 1, t9, l, tl1, o1, p1, cs2, k2, o2, p2, n1⟩ _ _ (fun C f => f hN2 ?g1 ?g2 hn1 ho1 hp1 ?g6 ?g7 ?g8) ?g9 (.same (.same (.same (.same (.un .nil))))) (fun _ h => h)
      case g1 => dsimp only; rw [flat_snoc, hit, List.append_assoc]; exact hcs1
      case g2 => dsimp only; omega
      case g6 => dsimp only; rw [List.length_append, List.length_singleton]; omega
      case g7 => dsimp only; omega
      case g8 => rw [List.map_append]; exact hsa.append ⟨hv, trivial⟩
      case g9 => dsimp only; omega
  · intro g
    rw [hc] at g
    obtain ⟨rfl, rfl, rfl, rfl, rfl⟩ := text_end hq hN1 g
    rw [List.append_nil] at hcs1
    rw [Bool.or_false] at ho1
    rw [Bool.and_true] at hp1
    have e1 : i + 1 = pos + 1 + k := by omega
    have e2 : l = ln + n := by omega
    subst e2
    subst ho1
    subst hp1
    subst hcs1
    with_reducible refine' SS_at_aug ?m1 ?m2 ?m3 ?_
    case m1 => walk_at "S e"
    case m2 => walk_at "S e"
    case m3 => exact hA1
    intro t9
    rw [e1]
    with_reducible refine' tk_str ?n1 ?n2 hA2 (EP_join (its := its) (k := ep) (ys := ys) ?n3 ?n4 ?n5 hsa ?n6 ?n7 ?n8) ?_
    case n1 => walk_at "S e"
    case n2 => exact rfl
    case n3 => walk_at "S e"
    case n4 => exact rfl
    case n5 => exact .tail _ (.tail _ (.tail _ (.tail _ (.head _))))
    case n6 => exact rfl
    case n7 => rw [flat_len]; omega
    case n8 => exact rfl
    intro t8
    walk_at "S n"
    rw [join_flat]
    exact hR (_, _, _, _) _ _ trivial rfl (mem_skip4 (m := []))
theorem gl_read_text : GL (Str.ofString "read_text") 401 := ⟨by constructor <;> (intro P; k_is), fun _ _ _ _ _ _ _ _ _ => rfl⟩
end Mine
namespace Mine
theorem TT_isS {c : Cx} {S : Sc} {l : Loc} {n : Led} {a : Expr} {x : Str} {k : Nat} {p p2 : Pos} (ha : EP c S l n a (.str x)) : TT c S l n (.Compare a [.Is] [.Constant .none k p2] p) False True :=
  TT_cmp (b1 := false) (by rintro _ _ s Q ⟨t, rfl⟩ rfl ret; exact is_none_gen (ret s.toks)) nofun (fun _ => trivial) (marks nofun nofun) ha EP_non
theorem read_punct_c {W : Wd} {I : LexId} {J : TokId} {pos ln : Int} {ta tl : Tok} {rest : Led} {kind value line isb start fin oct plain : Value} {x : Str}
    (hA : tokA I J rest) (hT : I.T.length ≤ 1000000) (h0 : 0 ≤ pos) (h1 : pos ≤ I.T.length) (hF : PUN.find? (fun y => sw y.cps.toList (suf I.T pos)) = some x) (hxl : x.length ≤ 4) :
    CC W 8 (lexL I pos ln ta tl (tokL J kind value line isb start fin oct plain rest)) 415 [.is (.ref I.x), .is (.ref J.t)] (Tok × Tok × Tok) (fun _ => True) (fun _ => .is .none)
      (fun t => lexL I (pos + x.length) ln t.1 tl (tokL J (.str (Str.ofString "punct") t.2.1) (.str x t.2.2) line isb start fin oct plain rest)) := by
  refine fn2 (x1 := Str.ofString "self") (x2 := Str.ofString "token") (us := [Str.ofString "punct"]) (by k_is) (by k_is) (Mine.ok_of ?hok) (fun _ _ => rfl) rfl rfl ?e3 ?H
  walk_at "S fn"
  rename_i c R hR
  with_reducible refine' SS_set (EP_call gf_punct_at ?a1 ?a2 ?a3 (punct_at_c hT h0 h1 hF) ?a4) ?a5 ?a6 ?_
  case a2 => walk_at "S a"
  case a1 => kernel_rfl
  case a3 => exact rfl
  case a4 => exact rfl
  case a5 => exact rfl
  case a6 => walk_at "S p"
  with_reducible refine' SS_ifr (TT_isS ?b1) ?b2 ?_
  case b1 => walk_at "S e"
  case b2 => exact nofun
  intro _
  walk_at "S s"
  rename_i t1
  walk_at "S s"
  rename_i t2
  walk_at "S s"
  walk_at "S n"
  exact hR (_, t1, t2) _ _ trivial rfl (fun _ h => h)
theorem gl_read_punct : GL (Str.ofString "read_punct") 415 := ⟨by constructor <;> (intro P; k_is), fun _ _ _ _ _ _ _ _ _ => rfl⟩
end Mine
namespace Mine
theorem nod_ne {a : Addr} {post : List Addr} : ∀ {pre : List Addr}, (pre ++ post).Nodup → (∀ x ∈ pre ++ post, x ≠ a) → (pre ++ a :: post).Nodup
  | [], h, g => List.nodup_cons.mpr ⟨fun hm => g a hm rfl, h⟩
  | x :: pre, h, g => by
    have h2 := List.nodup_cons.mp h
    refine List.nodup_cons.mpr ⟨fun hm => ?_, nod_ne h2.2 (fun y hy => g y (.tail _ hy))⟩
    rcases List.mem_append.mp hm with hm | hm
    · exact h2.1 (List.mem_append.mpr (.inl hm))
    · cases hm with
      | head => exact g _ (.head _) rfl
      | tail _ hm => exact h2.1 (List.mem_append.mpr (.inr hm))
theorem gl_read_name : GL (Str.ofString "read_name") 338 := ⟨by constructor <;> (intro P; k_is), fun _ _ _ _ _ _ _ _ _ => rfl⟩
theorem fresh_tok {I : LexId} {J : TokId} {rest n : Led} (hA : lexA I rest) (hn : n.map Prod.fst = I.x :: I.dx :: rest.map Prod.fst) (h : FreshT J n) : tokA I J rest := by
  have h1 : ∀ x ∈ [I.x, I.dx] ++ rest.map Prod.fst, @LT.lt Nat _ x J.dt ∧ @LT.lt Nat _ x J.t := fun x hx => by
    obtain ⟨p, hp, rfl⟩ := mem_adr (n := n) (by rw [hn]; exact hx)
    exact h.2 p hp
  refine nod_ne (pre := [I.x, I.dx]) (nod_ne (pre := [I.x, I.dx]) hA fun x hx => Nat.ne_of_lt (h1 x hx).1) fun x hx => ?_
  rcases List.mem_append.mp hx with hx | hx
  · exact Nat.ne_of_lt (h1 x (List.mem_append.mpr (.inl hx))).2
  · cases hx with
    | head => exact h.1.symm
    | tail _ hx => exact Nat.ne_of_lt (h1 x (List.mem_append.mpr (.inr hx))).2
theorem mem_rott {b c d e : Addr × Obj} {r : Led} : ∀ p ∈ b :: c :: d :: e :: r, p ∈ d :: e :: b :: c :: r := by
  intro p hp
  simp only [List.mem_cons] at hp ⊢
  rcases hp with h | h | h | h | h <;> simp [h]
theorem tok_pos {l : List Nat} {kind : Str} {tv : Tv} {j m : Nat} {o p : Bool} (h : TokRun l kind tv j o p m) : 0 ≤ hd1 l := by
  cases h with
  | name h1 h2 h3 h4 => exact h4
  | num h1 h2 h3 h4 h5 => exact h5
  | text h1 h2 => omega
  | punct h1 => exact h1
theorem quote_not {c : Int} (h : c = 34 ∨ c = 39) : isIdStart c = false ∧ isDigit c = false := by
  rcases h with rfl | rfl <;> decide
theorem tok_name {l : List Nat} {kind : Str} {tv : Tv} {j m : Nat} {o p : Bool} (h : TokRun l kind tv j o p m) (g : isIdStart (hd1 l) = true ∨ hd1 l = 92) : ∃ cs, NameRun true l cs j p ∧ cs.length ≤ 1000 ∧ kind = (if KEYS.contains ⟨cs.toArray⟩ then Str.ofString "keyword" else Str.ofString "name") ∧ tv = .s ⟨cs.toArray⟩ ∧ o = false ∧ m = 0 := by
  cases h with
  | name h1 h2 h3 h4 => exact ⟨_, h2, h3, rfl, rfl, rfl, rfl⟩
  | num h1 h2 => rcases g with g | g; exact absurd (h1.symm.trans g) nofun; exact absurd g h2
  | text h1 h2 =>
    have := (quote_not (h1 ▸ h2)).1
    rcases g with g | g; exact absurd (this.symm.trans g) nofun; omega
  | punct h1 h2 h3 => rcases g with g | g; exact absurd (h2.symm.trans g) nofun; exact absurd g h3
theorem tok_num {l : List Nat} {kind : Str} {tv : Tv} {j m : Nat} {o p : Bool} (h : TokRun l kind tv j o p m) (g1 : isIdStart (hd1 l) = false) (g2 : hd1 l ≠ 92) (g : isDigit (hd1 l) = true ∨ (hd1 l = 46 ∧ isDigit (hd1 l.tail) = true)) : NumOk l ∧ kind = Str.ofString "number" ∧ tv = .i (numRun l).2.1 ∧ j = (numRun l).1 ∧ o = (numRun l).2.2 ∧ p = true ∧ m = 0 := by
  cases h with
  | name h1 => rcases h1 with h1 | h1; exact absurd (g1.symm.trans h1) nofun; exact absurd h1 g2
  | num h1 h2 h3 h4 => exact ⟨h4, rfl, rfl, rfl, rfl, rfl, rfl⟩
  | text h1 h2 =>
    have := (quote_not (h1 ▸ h2)).2
    rcases g with g | g; exact absurd (this.symm.trans g) nofun; omega
  | punct h1 h2 h3 h4 h5 => rcases g with g | g; exact absurd (h4.symm.trans g) nofun; exact absurd ((h5 g.1).symm.trans g.2) nofun
theorem tok_text {l : List Nat} {kind : Str} {tv : Tv} {j m : Nat} {o p : Bool} (h : TokRun l kind tv j o p m) (g : hd1 l = 34 ∨ hd1 l = 39) : ∃ cs k, TextRun (hd1 l) l.tail cs k o p m ∧ cs.length ≤ 1000 ∧ k ≤ 1000 ∧ kind = Str.ofString "text" ∧ tv = .s ⟨cs.toArray⟩ ∧ j = 1 + k := by
  cases h with
  | name h1 => rcases h1 with h1 | h1; exact absurd ((quote_not g).1.symm.trans h1) nofun; omega
  | num h1 h2 h3 => rcases h3 with h3 | ⟨_, h3, _⟩; exact absurd ((quote_not g).2.symm.trans h3) nofun; omega
  | text h1 h2 h3 h4 h5 => exact ⟨_, _, h1 ▸ h3, h4, h5, rfl, rfl, rfl⟩
  | punct h1 h2 h3 h4 h5 h6 h7 => exact absurd g (by omega)
theorem tok_punct {l : List Nat} {kind : Str} {tv : Tv} {j m : Nat} {o p : Bool} (h : TokRun l kind tv j o p m) (g1 : isIdStart (hd1 l) = false) (g2 : hd1 l ≠ 92) (g3 : isDigit (hd1 l) = false) (g4 : hd1 l = 46 → isDigit (hd1 l.tail) = false) (g5 : hd1 l ≠ 34) (g6 : hd1 l ≠ 39) : ∃ x, PUN.find? (fun y => sw y.cps.toList l) = some x ∧ x.length ≤ 4 ∧ kind = Str.ofString "punct" ∧ tv = .s x ∧ j = x.length ∧ o = false ∧ p = true ∧ m = 0 := by
  cases h with
  | name h1 => rcases h1 with h1 | h1; exact absurd (g1.symm.trans h1) nofun; exact absurd h1 g2
  | num h1 h2 h3 => rcases h3 with h3 | ⟨_, h3, h4⟩; exact absurd (g3.symm.trans h3) nofun; exact absurd ((g4 h3).symm.trans h4) nofun
  | text h1 h2 => omega
  | punct h1 h2 h3 h4 h5 h6 h7 h8 h9 => exact ⟨_, h8, h9, rfl, rfl, rfl, rfl, rfl, rfl⟩
structure NxX where
  J : TokId
  ta : Tok
  tl : Tok
  t1 : Tok
  t2 : Tok
  t3 : Tok
  t4 : Tok
  t5 : Tok
end Mine
namespace Mine
noncomputable abbrev nxL (I : LexId) (p1 l1 : Int) (kind : Str) (tv : Tv) (l0 : Int) (b0 : Bool) (p0 pe : Int) (o p : Bool) (rest : Led) (x : NxX) : Led :=
  lexL I p1 l1 x.ta x.tl (tokL x.J (.str kind x.t1) (tv.val x.t2) (.int l0 x.t3) (.bool b0) (.int p0 x.t4) (.int pe x.t5) (.bool o) (.bool p) rest)
theorem next_c {W : Wd} {I : LexId} {pos ln : Int} {ta tl : Tok} {rest : Led} {k n : Nat} {kind : Str} {tv : Tv} {j m : Nat} {o p : Bool} (hA : lexA I rest) (hT : I.T.length ≤ 1000000) (hc : ∀ c ∈ I.T.cps.toList, c < 1114112) (h0 : 0 ≤ pos) (hp : pos ≤ I.T.length) (hp2 : pos + k ≤ I.T.length) (hS : Skip (suf I.T pos) k n)
    (hK : TokRun (suf I.T (pos + k)) kind tv j o p m) :
    CC W 10 (lexL I pos ln ta tl rest) 296 [.is (.ref I.x)] NxX (fun x => tokA I x.J rest) (fun x => .is (.ref x.J.t)) (nxL I (pos + k + j) (ln + n + m) kind tv (ln + n) (decide (0 < n)) (pos + k) (pos + k + j) o p rest) := by
  refine fn1 (x1 := Str.ofString "self") (us := [Str.ofString "is_behind_line", Str.ofString "start", Str.ofString "code", Str.ofString "token"]) (by k_is) (by k_is) (Mine.ok_of ?hok) (fun _ => rfl) rfl rfl ?e3 ?H
  walk_at "S fn"
  rename_i c R hR
  have q0 : (0 : Int) ≤ pos + k := by omega
  have q1 : (0 : Int) ≤ pos + k + 1 := by omega
  have e0 := codeAt_suf (T := I.T) q0
  have e1 : codeAt I.T (pos + k + 1) = hd1 (suf I.T (pos + k)).tail := by rw [codeAt_suf q1, suf_succ q0]
  have hpos := tok_pos hK
  rw [← e0] at hpos
  with_reducible refine' SS_setC (EC_meth0 ?a1 gl_skip_blanks (skip_blanks_c hA hT h0 hp hS) ?a2 ?a3) ?a4 ?a5 ?_
  case a1 => walk_at "S e"
  case a2 => exact rfl
  case a3 => exact rfl
  case a4 => exact rfl
  case a5 => exact fun _ => by walk_at "S p"
  rintro ⟨ta1, tl1⟩ _
  dsimp only
  walk_at "S s"
  with_reducible refine' SS_setC (X := TkX) (fV := fun x => .is (.ref x.J.t)) (fn := fun x => lexL I (pos + k) (ln + n) ta1 tl1 (tokL x.J (.str (Str.ofString "end") x.t1) (.str (Str.ofString "") x.t2) (.int (ln + n) x.t3) (.bool (decide (0 < n))) (.int (pos + k) x.t4) (.int (pos + k) x.t5) (.bool false) (.bool true) rest)) (EC_weak (EC_call gf_token ?b1 ?b2 ?b3 token_c ?b4) (fun _ => mem_rott)) ?b5 ?b6 ?_
  case b2 => walk_at "S a"
  case b1 => kernel_rfl
  case b3 => exact rfl
  case b4 => exact rfl
  case b5 => exact rfl
  case b6 => exact fun _ => by walk_at "S p"
  rintro ⟨J, t1, t2, t3, t4, t5⟩ hf
  have hA2 : tokA I J rest := fresh_tok hA rfl hf
  clear hf
  dsimp only
  walk_at "S s"
  · intro h; omega
  intro _
  refine SS_ifj (ι := Tok × Tok × Tok × Tok) (fun _ => [(Str.ofString "self", .is (.ref I.x)), (Str.ofString "is_behind_line", .is (.bool (decide (0 < n)))), (Str.ofString "start", .int (pos + k)), (Str.ofString "code", .int (codeAt I.T (pos + k))), (Str.ofString "token", .is (.ref J.t))])
    (fun x => lexL I (pos + k + j) (ln + n + m) x.1 x.2.1 (tokL J (.str kind x.2.2.1) (tv.val x.2.2.2) (.int (ln + n) t3) (.bool (decide (0 < n))) (.int (pos + k) t4) (.int (pos + k) t5) (.bool o) (.bool p) rest)) (fun _ => True) (by walk_at "S t") ?_ ?_ ?_
  · intro g
    rw [e0] at g
    obtain ⟨cs, h2, h3, rfl, rfl, rfl, rfl⟩ := tok_name hK (g.imp id (·.2))
    with_reducible refine' SS_expr (EC_meth ?c1 gl_read_name ?c2 ?c3 (read_name_c hA2 hT q0 hc h2 h3) ?c4 ?c5) ?c6 ?_
    case c1 => walk_at "S e"
    case c2 => walk_at "S a"
    case c3 => exact rfl
    case c4 => exact rfl
    case c5 => exact rfl
    case c6 => exact rfl
    rintro ⟨x1, x2, x3⟩ _
    walk_at "S n"
    exact ⟨(x1, tl1, x2, x3), trivial, rfl, by rw [Int.natCast_zero, Int.add_zero]; rfl⟩
  intro g
  rw [e0] at g
  obtain ⟨g1, g2⟩ := g
  walk_at "S s"
  · intro g
    rw [e0, e1] at g
    obtain ⟨h2, rfl, rfl, rfl, rfl, rfl, rfl⟩ := tok_num hK g1 g2 (g.imp id (·.2))
    with_reducible refine' SS_expr (EC_meth ?d1 gl_read_number ?d2 ?d3 (read_number_c hA2 hT q0 h2) ?d4 ?d5) ?d6 ?_
    case d1 => walk_at "S e"
    case d2 => walk_at "S a"
    case d3 => exact rfl
    case d4 => exact rfl
    case d5 => exact rfl
    case d6 => exact rfl
    rintro ⟨x1, x2, x3⟩ _
    walk_at "S n"
    exact ⟨(x1, tl1, x2, x3), trivial, rfl, by rw [Int.natCast_zero, Int.add_zero]; rfl⟩
  intro g
  rw [e0, e1] at g
  obtain ⟨g3, g4⟩ := g
  walk_at "S s"
  · intro g
    rw [e0] at g
    obtain ⟨cs, k', h2, h3, h4, rfl, rfl, rfl⟩ := tok_text hK (g.imp id (·.2))
    rw [← suf_succ q0, ← e0] at h2
    have hne : codeAt I.T (pos + k) ≠ 92 := e0 ▸ g2
    with_reducible refine' SS_expr (EC_meth ?f1 gl_read_text ?f2 ?f3 (read_text_c hA2 hT q0 hne h2 h3 h4) ?f4 ?f5) ?f6 ?_
    case f1 => walk_at "S e"
    case f2 => walk_at "S a"
    case f3 => exact rfl
    case f4 => exact rfl
    case f5 => exact rfl
    case f6 => exact rfl
    rintro ⟨x1, x2, x3, x4⟩ _
    walk_at "S n"
    exact ⟨(x1, x2, x3, x4), trivial, rfl, by rw [Int.natCast_add, ← Int.add_assoc]; rfl⟩
  · intro g
    rw [e0] at g
    obtain ⟨x, h2, h3, rfl, rfl, rfl, rfl, rfl, rfl⟩ := tok_punct hK g1 g2 g3 (fun h => g4.elim (fun g => absurd h g) (·.2)) g.1 g.2
    with_reducible refine' SS_expr (EC_meth ?i1 gl_read_punct ?i2 ?i3 (read_punct_c hA2 hT q0 hp2 h2 h3) ?i4 ?i5) ?i6 ?_
    case i1 => walk_at "S e"
    case i2 => walk_at "S a"
    case i3 => exact rfl
    case i4 => exact rfl
    case i5 => exact rfl
    case i6 => exact rfl
    rintro ⟨x1, x2, x3⟩ _
    walk_at "S n"
    exact ⟨(x1, tl1, x2, x3), trivial, rfl, by rw [Int.natCast_zero, Int.add_zero]; rfl⟩
  rintro ⟨x1, x2, x3, x4⟩ _
  dsimp only
  walk_at "S s"
  rename_i t9
  walk_at "S s"
  exact hR ⟨J, x1, x2, x3, x4, t3, t4, t9⟩ _ _ hA2 rfl (fun _ h => h)
theorem next_end_c {W : Wd} {I : LexId} {pos ln : Int} {ta tl : Tok} {rest : Led} {k n : Nat} (hA : lexA I rest) (hT : I.T.length ≤ 1000000) (h0 : 0 ≤ pos) (hp : pos ≤ I.T.length) (hS : Skip (suf I.T pos) k n) (hE : hd1 (suf I.T (pos + k)) = -1) :
    CC W 10 (lexL I pos ln ta tl rest) 296 [.is (.ref I.x)] NxX (fun x => tokA I x.J rest) (fun x => .is (.ref x.J.t)) (nxL I (pos + k) (ln + n) (Str.ofString "end") (.s (Str.ofString "")) (ln + n) (decide (0 < n)) (pos + k) (pos + k) false true rest) := by
  refine fn1 (x1 := Str.ofString "self") (us := [Str.ofString "is_behind_line", Str.ofString "start", Str.ofString "code", Str.ofString "token"]) (by k_is) (by k_is) (Mine.ok_of ?hok) (fun _ => rfl) rfl rfl ?e3 ?H
  walk_at "S fn"
  rename_i c R hR
  have q0 : (0 : Int) ≤ pos + k := by omega
  have e0 := codeAt_suf (T := I.T) q0
  rw [hE] at e0
  with_reducible refine' SS_setC (EC_meth0 ?a1 gl_skip_blanks (skip_blanks_c hA hT h0 hp hS) ?a2 ?a3) ?a4 ?a5 ?_
  case a1 => walk_at "S e"
  case a2 => exact rfl
  case a3 => exact rfl
  case a4 => exact rfl
  case a5 => exact fun _ => by walk_at "S p"
  rintro ⟨ta1, tl1⟩ _
  dsimp only
  walk_at "S s"
  with_reducible refine' SS_setC (X := TkX) (fV := fun x => .is (.ref x.J.t)) (fn := fun x => lexL I (pos + k) (ln + n) ta1 tl1 (tokL x.J (.str (Str.ofString "end") x.t1) (.str (Str.ofString "") x.t2) (.int (ln + n) x.t3) (.bool (decide (0 < n))) (.int (pos + k) x.t4) (.int (pos + k) x.t5) (.bool false) (.bool true) rest)) (EC_weak (EC_call gf_token ?b1 ?b2 ?b3 token_c ?b4) (fun _ => mem_rott)) ?b5 ?b6 ?_
  case b2 => walk_at "S a"
  case b1 => kernel_rfl
  case b3 => exact rfl
  case b4 => exact rfl
  case b5 => exact rfl
  case b6 => exact fun _ => by walk_at "S p"
  rintro ⟨J, t1, t2, t3, t4, t5⟩ hf
  have hA2 : tokA I J rest := fresh_tok hA rfl hf
  dsimp only
  walk_at "S s"
  · intro _
    walk_at "S s"
    exact hR ⟨J, ta1, tl1, t1, t2, t3, t4, t5⟩ _ _ hA2 rfl (fun _ h => h)
  · intro h; omega
theorem gl_next : GL (Str.ofString "next") 296 := ⟨by constructor <;> (intro P; k_is), fun _ _ _ _ _ _ _ _ _ => rfl⟩
end Mine
namespace Mine
open PySem.W PySem.Calls PyProof.V PySem.Spec
section
variable {prog : Program} {w : World} {A : Around} {E : Value → Shared → Prop} {s : Shared}
theorem adjust_upto (b n : Nat) (hb : b ≤ n) : Builtin.Slice.sliceAdjust none (some (b : Int)) 1 (n : Int) = (0, (b : Int)) := by
  unfold Builtin.Slice.sliceAdjust
  have h1 : ¬ ((1 : Int) < 0) := by omega
  have h2 : ¬ ((b : Int) < 0) := by omega
  simp only [h1, h2, if_false]
  congr 1
  omega
theorem places_upto (b : Nat) : Builtin.Slice.slicePlaces 0 (b : Int) 1 = b := by
  unfold Builtin.Slice.slicePlaces
  have h1 : (1 : Int) > 0 := by omega
  simp only [h1, if_true, Int.ediv_one]
  split <;> omega
theorem sliceApplied_upto {sl : Addr} {b n : Nat} {u : Tok} {Q : Int × Int × Nat → Shared → Prop} (hs : s.heap.IsSliceOf sl .none (.int b u) .none) (hb : b ≤ n) (h : Q (0, 1, b) s) :
    wpAny (model prog w) A (Builtin.Slice.sliceApplied (.ref sl) (pure (n : Int))) Q E s := by
  obtain ⟨os, hos, hcs, hds⟩ := id hs
  unfold Builtin.Slice.sliceApplied Builtin.Slice.sliceFields
  refine wpAny_bind (wpAny_bind (wpAny_field hos hds (x := .none) rfl (wpAny_bind (wpAny_field hos hds (x := .int b u) rfl (wpAny_bind (wpAny_field hos hds (x := .none) rfl (wpAny_pure ?_)))))))
  refine wpAny_bind (slicePart_none ?_)
  show wpAny _ _ (if ((1 : Int) == 0) = true then _ else _) _ _ s
  rw [if_neg (by decide)]
  refine wpAny_bind (slicePart_none (wpAny_bind (slicePart_int (wpAny_bind (wpAny_pure ?_)))))
  show wpAny _ _ (match Builtin.Slice.sliceAdjust none (some (b : Int)) 1 (n : Int) with | (lo, hi) => pure (lo, (1 : Int), Builtin.Slice.slicePlaces lo hi 1)) _ _ s
  rw [adjust_upto b n hb]
  show wpAny _ _ (pure ((0 : Int), (1 : Int), Builtin.Slice.slicePlaces 0 (b : Int) 1)) _ _ s
  rw [places_upto b]
  exact wpAny_pure h
theorem pick_upto (xs : Array Value) (b : Nat) : ((List.range b).filterMap fun (k : Nat) => xs[((0 : Int) + (k : Int) * 1).toNat]?).toArray = (xs.toList.take b).toArray := by
  have e : (fun (k : Nat) => xs[((0 : Int) + (k : Int) * 1).toNat]?) = fun k => xs[0 + k]? := by
    funext k
    have : ((0 : Int) + (k : Int) * 1).toNat = 0 + k := by omega
    rw [this]
  rw [e]
  have := pick_run xs 0 b
  rw [List.filterMap_map] at this
  have e2 : ((fun x => xs[x]?) ∘ fun x => 0 + x) = fun k => xs[0 + k]? := rfl
  rw [e2] at this
  rw [this, List.drop_zero]
theorem getItem_tuple_upto {t sl : Addr} {items : Array Value} {b : Nat} {u : Tok} {Q : Value → Shared → Prop} (ht : IsTup s.heap t items) (hs : s.heap.IsSliceOf sl .none (.int b u) .none) (hb : b < items.size)
    (h : Q (.ref s.heap.objs.size) { s with heap := s.heap.push { cls := .type "tuple", data := .seq (items.toList.take b).toArray } })
    (hsz : items.size ≤ sizeLine) : wpAny (model prog w) A (getItem (.ref t) (.ref sl)) Q E s := by
  have htake : sizeOk (.seq (items.toList.take b).toArray) := by
    show (items.toList.take b).toArray.size ≤ sizeLine
    rw [List.size_toArray, List.length_take, Array.length_toList]
    omega
  obtain ⟨os, hos, hcs, hds⟩ := id hs
  have hTs : s.TypeIs (.ref sl) "slice" := ⟨os, hos, hcs⟩
  unfold getItem
  try with_reducible refine wpAny_holding ?_
  first | refine wpAny_bind (wpAny_pure ?_) | skip
  refine wpAny_bind (wpAny_sequenceKey ht.typeIs (by decide) ?_)
  refine wpAny_bind (wpAny_callSpecial?_slot (name := Str.ofString "__getitem__") ht.typeIs slot_tuple_getitem
    (wpAny_call_entry slot_tuple_getitem ht.typeIs entry_tuple_getitem ?_ (args_tuple_getitem _ _)))
  show wpAny _ _ (Builtin.Tuple.tupleItemsOf (.ref t) >>= _) _ _ s
  refine wpAny_bind (tupleItemsOf_ ht ?_)
  refine wpAny_bind (wpAny_typeOf hTs ?_)
  rw [if_pos (by decide)]
  refine wpAny_bind (sliceApplied_upto hs (Nat.le_of_lt hb) ?_)
  have hno : ¬ (((0 : Int) == 0 && (1 : Int) == 1 && b == items.size) = true) := by
    have : (b == items.size) = false := by rw [beq_eq_false_iff_ne]; omega
    rw [this]; simp
  show wpAny _ _ (if ((0 : Int) == 0 && (1 : Int) == 1 && b == items.size) = true then _ else _) _ _ s
  rw [if_neg hno, pick_upto items b]
  first
    | exact wpAny_bind (m := Builtin.Tuple.tupleExact _) (wpAny_newObj_type (wpAny_pure ⟨_, rfl, wpAny_pure h⟩) htake)
    | exact wpAny_bind (m := Builtin.Tuple.tupleExact _) (wpAny_newObj_type (wpAny_bind (wpAny_pure (wpAny_pure ⟨_, rfl, wpAny_pure h⟩))) htake)
    | exact wpAny_bind (wpAny_bind (m := Builtin.Tuple.tupleExact _) (wpAny_newObj_type (wpAny_pure (wpAny_pure ⟨_, rfl, wpAny_pure h⟩)) htake))
    | exact wpAny_bind (wpAny_bind (m := Builtin.Tuple.tupleExact _) (wpAny_newObj_type (wpAny_pure ⟨_, rfl, wpAny_pure h⟩) htake))
variable {h₀ : Heap} {L : Addr} {m : Str → Option Value} {news : List (Addr × Obj)}
theorem slice_upto {value slice : PySem.Expr} {t : Addr} {items : Array Value} {b : Nat} {u : Tok} {zs : List Value} {Q : Value → Shared → Prop}
    (F : Fr h₀ L s.heap m) (N : News h₀ L s.heap news) (ht : IsTup s.heap t items) (hb : b < items.size) (e : items.toList.take b = zs)
    (h : ∀ D h', Fr h₀ L h' m → News h₀ L h' ((D, ({ cls := .type "tuple", data := .seq zs.toArray } : Obj)) :: news) → (∀ p ∈ news, p.1 < D) → Q (.ref D) { s with heap := h' })
    (hs : subscripted slice false (.ref t) (.ref s.heap.objs.size) = operate [.ref s.heap.objs.size, .ref t] (getItem (.ref t) (.ref s.heap.objs.size)))
    (hg : ∀ r, letTemporaryGo value (.ref t) r = pure ()) (hsz : items.size ≤ sizeLine) :
    wpAny (model prog w) A (subscriptTail value slice (.ref t) (.ref s.heap.objs.size)) Q E { s with heap := s.heap.push { cls := .type "slice", data := .fields #[.none, .int b u, .none] } } := by
  have hnI : ∀ p ∈ news, p.1 < s.heap.objs.size + 1 := fun p hp => Nat.lt_succ_of_lt (Heap.lt_size (N p hp).1)
  have ht' : IsTup (s.heap.push { cls := .type "slice", data := .fields #[.none, .int b u, .none] }) t items := ht.keeps fun _ _ e => Heap.get?_push_of_some _ e
  refine subscriptTail_ops (s := { s with heap := s.heap.push { cls := .type "slice", data := .fields #[.none, .int b u, .none] } }) ht'.typeIs slot_tuple_getitem.lookup
    (getItem_tuple_upto ht' (Heap.IsSliceOf.new ..) hb ?_ hsz) hs hg
  have N1 := News.push (F.push { cls := .type "slice", data := .fields #[.none, .int b u, .none] }) (N.grown fun _ _ e => Heap.get?_push_of_some _ e) { cls := .type "tuple", data := .seq (items.toList.take b).toArray }
  rw [Heap.size_push] at N1
  rw [e] at N1 ⊢
  show Q (.ref (s.heap.push _).objs.size) _
  rw [Heap.size_push]
  exact h _ _ ((F.push _).push _) N1 hnI
theorem slice_from {value slice : PySem.Expr} {t : Addr} {items : Array Value} {b : Nat} {u : Tok} {zs : List Value} {Q : Value → Shared → Prop}
    (F : Fr h₀ L s.heap m) (N : News h₀ L s.heap news) (ht : IsTup s.heap t items) (h1 : 1 ≤ b) (hb : b ≤ items.size) (e : items.toList.drop b = zs)
    (h : ∀ D h', Fr h₀ L h' m → News h₀ L h' ((D, ({ cls := .type "tuple", data := .seq zs.toArray } : Obj)) :: news) → (∀ p ∈ news, p.1 < D) → Q (.ref D) { s with heap := h' })
    (hs : subscripted slice false (.ref t) (.ref s.heap.objs.size) = operate [.ref s.heap.objs.size, .ref t] (getItem (.ref t) (.ref s.heap.objs.size)))
    (hg : ∀ r, letTemporaryGo value (.ref t) r = pure ()) (hsz : items.size ≤ sizeLine) :
    wpAny (model prog w) A (subscriptTail value slice (.ref t) (.ref s.heap.objs.size)) Q E { s with heap := s.heap.push { cls := .type "slice", data := .fields #[.int b u, .none, .none] } } :=
  slice_tuple_from F N ht h1 hb (fun h' F' N' => h _ h' F' (by rw [← e]; exact N') (fun p hp => Nat.lt_succ_of_lt (Heap.lt_size (N p hp).1))) hs hg hsz
end
inductive EqAts (A : Around) (s : Shared) : List Value → List Value → Prop
  | nil : EqAts A s [] []
  | cons {a b : Value} {xs ys : List Value} : SeqAt.EqAt A s a b true → EqAts A s xs ys → EqAts A s (a :: xs) (b :: ys)
theorem eqAts_str {A : Around} {s : Shared} {a b : Str} {t u : Tok} {xs ys : List Value} (e : a = b) (h : EqAts A s xs ys) : EqAts A s (.str a t :: xs) (.str b u :: ys) := by
  subst e
  refine .cons ?_ h
  have := SeqAt.EqAt.str_str (A := A) (s := s) a t a u
  rwa [beq_self_eq_true] at this
theorem eqAts_int {A : Around} {s : Shared} {a b : Int} {t u : Tok} {xs ys : List Value} (e : a = b) (h : EqAts A s xs ys) : EqAts A s (.int a t :: xs) (.int b u :: ys) := by
  subst e
  refine .cons ?_ h
  have := SeqAt.EqAt.int_int (A := A) (s := s) a t a u
  rwa [beq_self_eq_true] at this
theorem eqAts_bool {A : Around} {s : Shared} {a b : Bool} {xs ys : List Value} (e : a = b) (h : EqAts A s xs ys) : EqAts A s (.bool a :: xs) (.bool b :: ys) := by
  subst e
  refine .cons ?_ h
  have := SeqAt.EqAt.bool_bool (A := A) (s := s) a a
  rwa [beq_self_eq_true] at this
theorem EqAts.len {A : Around} {s : Shared} : ∀ {xs ys : List Value}, EqAts A s xs ys → xs.length = ys.length
  | _, _, .nil => rfl
  | _, _, .cons _ h => by rw [List.length_cons, List.length_cons, h.len]
theorem EqAts.at {A : Around} {s : Shared} : ∀ {xs ys : List Value}, EqAts A s xs ys → ∀ (j : Nat) (h1 : j < xs.length) (h2 : j < ys.length), SeqAt.EqAt A s xs[j] ys[j] true
  | _, _, .nil, j, h1, _ => absurd h1 (by simp)
  | _, _, .cons h _, 0, _, _ => h
  | _, _, .cons _ h, j + 1, h1, h2 => h.at j (by simpa using h1) (by simpa using h2)
section
variable {prog : Program} {w : World} {A : Around} {E : Value → Shared → Prop} {s : Shared} {h₀ : Heap} {L : Addr} {m : Str → Option Value} {news : List (Addr × Obj)}
theorem tup_all {xs ys : List Value} (h : EqAts A s xs ys) : ((List.range (min xs.toArray.size ys.toArray.size)).all (fun _ => true) && xs.toArray.size == ys.toArray.size) = true := by
  simp [h.len]
theorem tup_ne {l b : Addr} {xs ys : List Value} {n n2 : Nat} {Q : Value → Shared → Prop} (N : News h₀ L s.heap news) (hl : (l, ({ cls := .type "tuple", data := .seq xs.toArray n } : Obj)) ∈ news) (hb : (b, ({ cls := .type "tuple", data := .seq ys.toArray n2 } : Obj)) ∈ news) (hu : A.units < cLine)
    (he : EqAts A.in1 s xs ys) (h : Q (.bool false) s) : wpAny (model prog w) A (compareOp .NotEq (.ref l) (.ref b)) Q E s := by
  refine SeqAt.RcNeAt.tuples (e := fun _ => true) (News.isTup N hl) (News.isTup N hb) hu (fun j h1 h2 => ?_) prog w E Q ?_
  · simp only [List.size_toArray] at h1 h2
    simpa using he.at j h1 h2
  · rw [tup_all he]; exact h
theorem tup_eq {l b : Addr} {xs ys : List Value} {n n2 : Nat} {Q : Value → Shared → Prop} (N : News h₀ L s.heap news) (hl : (l, ({ cls := .type "tuple", data := .seq xs.toArray n } : Obj)) ∈ news) (hb : (b, ({ cls := .type "tuple", data := .seq ys.toArray n2 } : Obj)) ∈ news) (hu : A.units < cLine)
    (he : EqAts A.in1 s xs ys) (h : Q (.bool true) s) : wpAny (model prog w) A (compareOp .Eq (.ref l) (.ref b)) Q E s := by
  refine SeqAt.RcAt.tuples (e := fun _ => true) (News.isTup N hl) (News.isTup N hb) hu (fun j h1 h2 => ?_) prog w E Q ?_
  · simp only [List.size_toArray] at h1 h2
    simpa using he.at j h1 h2
  · rw [tup_all he]; exact h
theorem slot_type_ne : Slot "type" (cmpInfo .NotEq).2.1 "object.__ne__" :=
  .of (owner := "object") (n := "__ne__") (by rw [typeLookup_type, builtinLookup_eq_fast]; kernel_rfl) (by decide +kernel) (by decide +kernel) (by decide +kernel)
    (by first | exact .inl (by decide +kernel) | exact .inr (by decide +kernel)) (by rw [isSubtype_type]; kernel_rfl)
theorem ne_type_same {X : String} {Q : Value → Shared → Prop} (hX : ∀ s' : Shared, s'.TypeIs (.type X) "type") (h : Q (.bool false) s) : wpAny (model prog w) A (compareOp .NotEq (.type X) (.type X)) Q E s := by
  show wpAny _ A (richCompare .NotEq _ _) Q E s
  refine wpAny_richCompare_same (T := "type") (hX s) (hX s) slot_type_ne (wpAny_call_entry slot_type_ne (hX s) F.entry_object_ne ?_ (F.args_object_ne_2 _ _))
  unfold Builtin.«object.__ne__»
  refine wpAny_bind (m := slotArgs _ _ _) (wpAny_pure ?_)
  refine wpAny_bind (wpAny_cRoomFor_or (.inl rfl) ?_)
  refine wpAny_bind (wpAny_callSpecialIfBound?_slot (name := Str.ofString "__eq__") (hX s) TypeEq.slot_type_eq
    (call_gives TypeEq.slot_type_eq (hX s) F.entry_object_eq (F.args_object_eq_2 _ _) (TypeEq.object_eq_same rfl (by simp)) ?_))
  exact wpAny_bind (wpAny_truthy_bool (wpAny_pure ⟨_, rfl, (by intro e; cases e), h⟩))
end
end Mine
namespace Mine
section
variable {c : Cx} {S : Sc} {l l' : Loc} {n : Led} {R : AV → Led → Prop} {K : Loc → Led → Prop} {rest : List Stmt}
theorem EC_addr {X : Type} {Pz : X → Prop} {f : X → Int} {fn : X → Led} {a b : Expr} {p : Pos} {i : Int} (ha : EP c S l n a (.int i)) (hb : EC c S l n b X Pz (fun x => .int (f x)) fn) : EC c S l n (.BinOp a .Add b p) X Pz (fun x => .int (i + f x)) fn := by
  intro ok s m Q r F N ret
  refine wpAny_BinOp ?_
  refine ha ok s m _ r F N (fun va n' h' tk' hp F' N' => ?_)
  obtain ⟨⟨t, rfl⟩, rfl⟩ := hp
  refine hb ok _ m _ r F' N' (fun vb n2 h2 tk2 hp F2 N2 => ?_)
  obtain ⟨x, hx, ⟨u, rfl⟩, rfl⟩ := hp
  exact P.add_int (ret _ _ h2 _ ⟨x, hx, ⟨_, rfl⟩, rfl⟩ F2 N2)
theorem EC_upto {o b : Expr} {sc : Addr} {vs : List Value} {ns : List Int} {j : Int} {p p2 : Pos} (ho : EP c S l n o (.is (.ref sc))) (hb : EP c S l n b (.int j)) (hl : c.g.IsList sc vs.toArray) (hi : IntsAre vs ns) (h0 : 0 ≤ j) (hz : ns.length ≤ 1000)
    (hs : ∀ v w, subscripted (.Slice none (some b) none p2) false v w = operate [w, v] (getItem v w)) (ht : ∀ r, letTemporaryGo o (.ref sc) r = pure ()) :
    EC c S l n (.Subscript o (.Slice none (some b) none p2) p) (Addr × List Value) (fun x => IntsAre x.2 (ns.take j.toNat) ∧ ∀ q ∈ n, @LT.lt Nat _ q.1 x.1) (fun x => .is (.ref x.1)) (fun x => (x.1, PySem.W.listOf x.2.toArray 0) :: n) := by
  intro ok s m Q r F N ret
  refine Subscript_ ?_
  refine ho ok s m _ r F N (fun v n' h' tk' hp F' N' => ?_)
  obtain ⟨rfl, rfl⟩ := hp
  refine wpAny_Slice (evalPart_none_step (evalPart_some_step ?_))
  refine hb ok _ m _ r F' N' (fun v n3 h3 tk3 hp F3 N3 => ?_)
  obtain ⟨⟨t3, rfl⟩, rfl⟩ := hp
  refine evalPart_none_step ?_
  exact kmk_slice_ints (s := { s with heap := h3, toks := tk3 }) F3 N3 (Fr.lst F3 hl) .none (.int _ _) hi (kmk_upto hi h0) rfl (fun D ws h4 F4 N4 hD hI _ _ => ret _ _ h4 tk3 ⟨(D, ws), ⟨hI, hD⟩, rfl, rfl⟩ F4 N4) (hs _ _) ht (kmk_sz hi (Nat.le_trans hz (by decide)))
theorem gb_list : GB (Str.ofString "list") (.type "list") := ⟨fun P => by k_is, rfl, by decide +kernel, by decide +kernel⟩
theorem EC_listOf {e : Expr} {X : Type} {Pz : X → Prop} {fa : X → Addr} {fvs : X → List Value} {fk : X → Nat} {fn : X → Led} {p1 p2 : Pos} (hk : S.glob (Str.ofString "list") = true) (he : EC c S l n e X Pz (fun x => .is (.ref (fa x))) fn) (hp : plainE e = true) (hm : ∀ x, (fa x, PySem.W.listOf (fvs x).toArray (fk x)) ∈ fn x) (hz : ∀ x, Pz x → (fvs x).length ≤ 1000) :
    EC c S l n (.Call (.Name (Str.ofString "list") p1) [e] [] p2) (X × Addr × Nat) (fun y => Pz y.1 ∧ ∀ q ∈ fn y.1, @LT.lt Nat _ q.1 y.2.1) (fun y => .is (.ref y.2.1)) (fun y => (y.2.1, PySem.W.listOf (fvs y.1).toArray y.2.2) :: fn y.1) := by
  intro ok s m Q r F N ret
  refine Call_ ?_
  refine nameX_B F ok.X (topRead_of ok.T) (gb_list.none _) gb_list.boot gb_list.ne ?_ ok.S.kind (Sc.glob_eq hk) gb_list.dbg
  refine Pv.callWith_type1 ?_ (star_plain hp) rfl
  refine args_cons ?_ (star_plain hp)
  refine he ok s m _ r F N (fun v n' h' tk' hq F' N' => ?_)
  obtain ⟨x, hx, rfl, rfl⟩ := hq
  refine args_nil ?_
  exact kup_listOf F' N' (hm x) rfl (fun D c' h2 F2 N2 hD => ret _ _ h2 tk' ⟨(x, D, c'), ⟨hx, hD⟩, rfl, rfl⟩ F2 N2) (Nat.le_trans (hz x hx) (by decide))
theorem EC_listK {X : Type} {Pz : X → Prop} {fn : X → Led} {es : List Expr} {fV : X → List AV} {p : Pos} (h : AK c S l n p es X Pz fV fn) (hz : ∀ x, (fV x).length ≤ 1000) : EC c S l n (.List es p) (X × Addr × List Value) (fun x => Pz x.1 ∧ HasAll (fV x.1) x.2.2 ∧ ∀ q ∈ fn x.1, @LT.lt Nat _ q.1 x.2.1) (fun x => .is (.ref x.2.1)) (fun x => (x.2.1, PySem.W.listOf x.2.2.toArray 0) :: fn x.1) := by
  intro ok s m Q r F N ret
  refine List_ ?_
  refine h ok s m _ r F N (fun vs n' h' tk' hp F' N' => ?_)
  obtain ⟨x, hx, hv, rfl⟩ := hp
  refine newList_K F' N' (fun D h2 F2 N2 hD => ?_) (Nat.le_trans (by rw [hv.len]; exact hz x) (by decide))
  exact ret _ _ h2 _ ⟨(x, D, vs), ⟨hx, hv, hD⟩, rfl, rfl⟩ F2 N2
structure TurnsL (c : Cx) (S : Sc) (R : AV → Led → Prop) (l : Loc) (n : Led) (ax : Addr) (lo : Obj) (vs : List Value) (x : Str) (body rest : List Stmt) (K : Loc → Led → Prop) (σ : Type) (fl : σ → Loc) (flI : Nat → σ → Loc) (fn : σ → Led) (fnI : σ → Addr × Obj → Led) (I : Nat → σ → Prop) (fV : Nat → AV) (x₀ : σ) : Prop where
  h0 : I 0 x₀
  hl : LeR l (fl x₀)
  hn : ∀ p ∈ fn x₀, p ∈ n
  mem : ∀ y, (ax, lo) ∈ fn y
  adr : ∀ y, (fn y).map Prod.fst = (fn x₀).map Prod.fst
  hI : ∀ y io, ∀ p ∈ fnI y io, p ∈ io :: fn y
  hv : ∀ i v, vs[i]? = some v → (fV i).has v
  hs : ∀ y i, SetR (fl y) x (fV i) (flI i y)
  turn : ∀ i y io, i < vs.length → I i y → (∀ p ∈ fn x₀, @LT.lt Nat _ p.1 io.1) → ∀ K' : Loc → Led → Prop, (∀ y' l' n', I (i + 1) y' → LeR l' (fl y') → (∀ p ∈ io :: fn y', p ∈ n') → K' l' n') → SS c S R (flI i y) (fnI y io) body K'
  done : ∀ y, I vs.length y → SS c S R (fl y) (fn y) rest K
theorem list_core {ax : Addr} {lo : Obj} {vs : List Value} {k : Nat} {x : Str} {px : Pos} {body : List Stmt} {σ : Type} {fl : σ → Loc} {flI : Nat → σ → Loc} {fn : σ → Led} {fnI : σ → Addr × Obj → Led} {I : Nat → σ → Prop} {fV : Nat → AV} {x₀ : σ} (H : TurnsL c S R l n ax lo vs x body rest K σ fl flI fn fnI I fV x₀)
    (hc : lo.cls = .type "list") (hd : lo.data = .seq vs.toArray k) (ok : c.Ok S) {s : Shared} {m : Str → Option Value} {Q : Flow → Shared → Prop} (r : Rep S l m) (F : Fr c.g c.L s.heap m) (Nw : News c.g c.L s.heap n)
    (next : ∀ l' m' n' h' tk', SS c S R l' n' rest K → Rep S l' m' → Fr c.g c.L h' m' → News c.g c.L h' n' → Q .next { s with heap := h', toks := tk' })
    (ret : ∀ V v m' n' h' tk', R V n' → V.has v → Fr c.g c.L h' m' → News c.g c.L h' n' → Q (.ret v) { s with heap := h', toks := tk' }) :
    wpAny (model prg c.W.w) (c.A S) (pyIter (.ref ax)) (fun it s₂ => TurnsAt prg c.W.w (c.A S) c.g (c.env S) (.Name x px) body Q no it s₂) no s := by
  refine for_L (env := c.env S) (ax := ax) (lo := lo) (vs := vs) (n := k) (m₀ := m) (news := fn x₀) (fun i m' nx => ∃ y, I i y ∧ Rep S (fl y) m' ∧ nx = fn y) rfl F (news_sub Nw H.hn) (H.mem x₀) hc hd ⟨x₀, H.h0, H.hl.rep r, rfl⟩ (by rintro i m nx ⟨y, _, _, rfl⟩; exact H.mem y) ?_ ?_
  · rintro I0 o i v m₁ nx h tk hio hv ⟨y, hy, r₁, rfl⟩ F₁ N₁
    have hil : i < vs.length := (List.getElem?_eq_some_iff.mp hv).1
    refine assign_Name (storeX_L F₁ N₁ (fun h2 F2 N2 => ?_) ok.S.kind (r₁.loc ok.S (H.hs y i)))
    refine H.turn i y (I0, o) hil hy hio (fun l' n' => ∃ y', I (i + 1) y' ∧ LeR l' (fl y') ∧ ∀ p ∈ (I0, o) :: fn y', p ∈ n') (fun y' l' n' a b d => ⟨y', a, b, d⟩) ok _ _ _ (r₁.set ok.S (H.hs y i) (H.hv i v hv)) F2 (news_sub N2 (H.hI y (I0, o))) (fun l' m' n' h3 tk3 hK r' F3 N3 => ?_) (fun V v m' n' h3 tk3 hR hv F3 N3 => ?_)
    · obtain ⟨y', a, b, d⟩ := hK
      refine ⟨h3, tk3, m', fn y', rfl, F3, fun p hp => N3 p (d p hp), ?_, y', a, b.rep r', rfl⟩
      intro p hp q hq e
      rw [List.mem_singleton.mp hq] at e
      have h4 : p.1 ∈ (fn x₀).map Prod.fst := H.adr y' ▸ List.mem_map.mpr ⟨p, hp, rfl⟩
      obtain ⟨q', hq', e'⟩ := List.mem_map.mp h4
      have h5 : @LT.lt Nat _ q'.1 I0 := hio q' hq'
      rw [e', e] at h5
      exact Nat.lt_irrefl _ h5
    · exact ret V v m' n' h3 tk3 hR hv F3 N3
  · rintro m₁ nx h tk ⟨y, hy, r₁, rfl⟩ F₁ N₁
    exact next _ m₁ _ h tk (H.done y hy) r₁ F₁ N₁
theorem SS_forL {x : Str} {e : Expr} {body : List Stmt} {px p3 : Pos} {X : Type} {Pz : X → Prop} {fa : X → Addr} {fvs : X → List Value} {fk : X → Nat} {fn0 : X → Led} (he : EC c S l n e X Pz (fun y => .is (.ref (fa y))) fn0)
    (hs : ∀ x, foldedSetIterable e (c.env S) x = pure x)
    (H : ∀ z, Pz z → ∃ (σ : Type) (fl : σ → Loc) (flI : Nat → σ → Loc) (fn : σ → Led) (fnI : σ → Addr × Obj → Led) (I : Nat → σ → Prop) (fV : Nat → AV) (x₀ : σ), TurnsL c S R l (fn0 z) (fa z) (PySem.W.listOf (fvs z).toArray (fk z)) (fvs z) x body rest K σ fl flI fn fnI I fV x₀) :
    SS c S R l n (.For (.Name x px) e body [] p3 :: rest) K := by
  refine SS_cons (K1 := fun l' n' => SS c S R l' n' rest K) ?_ (fun _ _ x => x)
  intro ok s m Q r F N next ret
  refine For_turns F ?_ hs PassesOwn.never
  refine he ok s m _ r F N (fun v n' h' tk' hq F' N' => ?_)
  obtain ⟨z, hz, rfl, rfl⟩ := hq
  obtain ⟨σ, fl, flI, fn, fnI, I, fV, x₀, T⟩ := H z hz
  exact list_core T rfl rfl ok r F' N' (fun l' m' n' h' tk' a b d e => next l' m' n' h' tk' a b d e) (fun V v m' n' h' tk' a b d e => ret V v m' n' h' tk' a b d e)
structure TurnsI (c : Cx) (S : Sc) (R : AV → Led → Prop) (l : Loc) (n : Led) (N : Nat) (x : Str) (body rest : List Stmt) (K : Loc → Led → Prop) (σ : Type) (fl : σ → Loc) (flI : σ → Int → Loc) (fn : σ → Led) (fnI : σ → Addr × Obj → Led) (I : Addr → Nat → σ → Prop) (x₀ : σ) : Prop where
  small : N ≤ 1000000
  h0 : ∀ a, (∀ p ∈ n, @LT.lt Nat _ p.1 a) → I a 0 x₀
  hl : LeR l (fl x₀)
  hn : ∀ p ∈ fn x₀, p ∈ n
  ne : ∀ a i y, I a i y → ∀ p ∈ fn y, p.1 ≠ a
  hI : ∀ y io, ∀ p ∈ fnI y io, p ∈ io :: fn y
  hs : ∀ y i, SetR (fl y) x (.int i) (flI y i)
  turn : ∀ i y io, i < N → I io.1 i y → ∀ K' : Loc → Led → Prop, (∀ y' l' n', I io.1 (i + 1) y' → LeR l' (fl y') → (∀ p ∈ io :: fn y', p ∈ n') → K' l' n') → SS c S R (flI y i) (fnI y io) body K'
  done : ∀ a y, I a N y → SS c S R (fl y) (fn y) rest K
theorem range_coreI {N : Nat} {x : Str} {px : Pos} {body : List Stmt} {σ : Type} {fl : σ → Loc} {flI : σ → Int → Loc} {fn : σ → Led} {fnI : σ → Addr × Obj → Led} {I : Addr → Nat → σ → Prop} {x₀ : σ} (H : TurnsI c S R l n N x body rest K σ fl flI fn fnI I x₀)
    (ok : c.Ok S) {s : Shared} {m : Str → Option Value} {Q : Flow → Shared → Prop} (r : Rep S l m) (F : Fr c.g c.L s.heap m) (Nw : News c.g c.L s.heap n) {ra : Addr} {t₀ u₀ v₀ : Tok} (hr : IsRange s.heap ra 0 (N : Int) 1 t₀ u₀ v₀)
    (next : ∀ l' m' n' h' tk', SS c S R l' n' rest K → Rep S l' m' → Fr c.g c.L h' m' → News c.g c.L h' n' → Q .next { s with heap := h', toks := tk' })
    (ret : ∀ V v m' n' h' tk', R V n' → V.has v → Fr c.g c.L h' m' → News c.g c.L h' n' → Q (.ret v) { s with heap := h', toks := tk' }) :
    wpAny (model prg c.W.w) (c.A S) (pyIter (.ref ra)) (fun it s₂ => TurnsAt prg c.W.w (c.A S) c.g (c.env S) (.Name x px) body Q no it s₂) no s := by
  have hN := H.small
  refine for_RI (env := c.env S) (n := N) (m₀ := m) (news := fn x₀) (fun i m' nx => ∃ y, I s.heap.objs.size i y ∧ Rep S (fl y) m' ∧ nx = fn y) rfl hr (small_one (by omega) (by omega) (by omega) (by omega)) (by simp [rangeSize_nat]) F (news_sub Nw H.hn) ⟨x₀, H.h0 _ (fun p hp => Heap.lt_size (Nw p hp).1), H.hl.rep r, rfl⟩ ?_ ?_
  · rintro o i t m₁ nx h tk hi ⟨y, hy, r₁, rfl⟩ F₁ N₁
    refine assign_Name (storeX_L F₁ N₁ (fun h2 F2 N2 => ?_) ok.S.kind (r₁.loc ok.S (H.hs y i)))
    refine H.turn i y (s.heap.objs.size, o) hi hy (fun l' n' => ∃ y', I s.heap.objs.size (i + 1) y' ∧ LeR l' (fl y') ∧ ∀ p ∈ (s.heap.objs.size, o) :: fn y', p ∈ n') (fun y' l' n' a b d => ⟨y', a, b, d⟩) ok _ _ _ (r₁.set ok.S (H.hs y i) ⟨t, by rw [Int.zero_add]⟩) F2 (news_sub N2 (H.hI y (s.heap.objs.size, o))) (fun l' m' n' h3 tk3 hK r' F3 N3 => ?_) (fun V v m' n' h3 tk3 hR hv F3 N3 => ?_)
    · obtain ⟨y', a, b, d⟩ := hK
      refine ⟨h3, tk3, m', fn y', rfl, F3, fun p hp => N3 p (d p hp), ?_, y', a, b.rep r', rfl⟩
      intro p hp q hq e
      rw [List.mem_singleton.mp hq] at e
      exact H.ne _ _ _ a p hp e
    · exact ret V v m' n' h3 tk3 hR hv F3 N3
  · rintro m₁ nx h tk ⟨y, hy, r₁, rfl⟩ F₁ N₁
    exact next _ m₁ _ h tk (H.done _ y hy) r₁ F₁ N₁
theorem SS_rangeI {x : Str} {e : Expr} {body : List Stmt} {px p1 p2 p3 : Pos} {N : Nat} (hk : S.glob (Str.ofString "range") = true) (he : EP c S l n e (.int N)) (hp : plainE e = true)
    (hs : ∀ x, foldedSetIterable (.Call (.Name (Str.ofString "range") p1) [e] [] p2) (c.env S) x = pure x)
    {σ : Type} {fl : σ → Loc} {flI : σ → Int → Loc} {fn : σ → Led} {fnI : σ → Addr × Obj → Led} {I : Addr → Nat → σ → Prop} {x₀ : σ} (H : TurnsI c S R l n N x body rest K σ fl flI fn fnI I x₀) :
    SS c S R l n (.For (.Name x px) (.Call (.Name (Str.ofString "range") p1) [e] [] p2) body [] p3 :: rest) K := by
  refine SS_cons (K1 := fun l' n' => SS c S R l' n' rest K) ?_ (fun _ _ x => x)
  intro ok s m Q r F Nw next ret
  refine For_turns F ?_ hs PassesOwn.never
  refine Call_ ?_
  refine nameX_B F ok.X (topRead_of ok.T) (gb_range.none _) gb_range.boot gb_range.ne ?_ ok.S.kind (Sc.glob_eq hk) gb_range.dbg
  refine Pv.callWith_type1 ?_ (star_plain hp) rfl
  refine args_cons ?_ (star_plain hp)
  refine he ok s m _ r F Nw (fun v n' h' tk' hq F' N' => ?_)
  obtain ⟨⟨t, rfl⟩, rfl⟩ := hq
  refine args_nil ?_
  refine range1_rows F' N' (fun h2 tk2 t₁ u₁ v₁ hr F2 N2 _ => ?_)
  exact range_coreI H ok r F2 N2 hr (fun l' m' n' h' tk' a b d e => next l' m' n' h' tk' a b d e) (fun V v m' n' h' tk' a b d e => ret V v m' n' h' tk' a b d e)
end
end Mine
namespace Mine
noncomputable def AV.cmp : AV → Bool
  | .int _ => true
  | .str _ => true
  | .is (.bool _) => true
  | _ => false
theorem eqs_of {A : Around} {s : Shared} {Vs : List AV} {xs ys : List Value} (hc : Vs.all AV.cmp = true) (hx : HasAll Vs xs) (hy : HasAll Vs ys) : EqAts A s xs ys := by
  induction Vs generalizing xs ys with
  | nil => rw [has_nil hx, has_nil hy]; exact .nil
  | cons V Vs ih =>
    rw [List.all_cons, Bool.and_eq_true] at hc
    obtain ⟨v, xs', rfl, a1, a2⟩ := has_cons hx
    obtain ⟨u, ys', rfl, b1, b2⟩ := has_cons hy
    have h := ih hc.2 a2 b2
    cases V with
    | un => cases hc.1
    | int i =>
      obtain ⟨t, rfl⟩ := a1
      obtain ⟨t', rfl⟩ := b1
      exact eqAts_int rfl h
    | str x =>
      obtain ⟨t, rfl⟩ := a1
      obtain ⟨t', rfl⟩ := b1
      exact eqAts_str rfl h
    | is w =>
      have a1' : v = w := a1
      have b1' : u = w := b1
      subst a1' b1'
      cases u with
      | bool b => exact eqAts_bool rfl h
      | _ => cases hc.1
theorem HasAll.take {Vs : List AV} {vs : List Value} (h : HasAll Vs vs) (k : Nat) : HasAll (Vs.take k) (vs.take k) := by
  induction Vs generalizing vs k with
  | nil => rw [has_nil h, List.take_nil, List.take_nil]; trivial
  | cons V Vs ih =>
    obtain ⟨v, r, rfl, a, b⟩ := has_cons h
    cases k with
    | zero => trivial
    | succ k => exact ⟨a, ih b k⟩
theorem HasAll.drop {Vs : List AV} {vs : List Value} (h : HasAll Vs vs) (k : Nat) : HasAll (Vs.drop k) (vs.drop k) := by
  induction Vs generalizing vs k with
  | nil => rw [has_nil h, List.drop_nil, List.drop_nil]; trivial
  | cons V Vs ih =>
    obtain ⟨v, r, rfl, a, b⟩ := has_cons h
    cases k with
    | zero => exact ⟨a, b⟩
    | succ k => exact ih b k
section
variable {c : Cx} {S : Sc} {l l' : Loc} {n : Led} {R : AV → Led → Prop} {K : Loc → Led → Prop} {rest : List Stmt}
noncomputable def ET (c : Cx) (S : Sc) (l : Loc) (n : Led) (e : Expr) (Vs : List AV) : Prop := EC c S l n e (Addr × List Value × Led) (fun x => HasAll Vs x.2.1 ∧ (x.1, tupO x.2.1) ∈ x.2.2 ∧ ∀ p ∈ n, p ∈ x.2.2) (fun x => .is (.ref x.1)) (fun x => x.2.2)
theorem ET_name {e : Expr} {a : Addr} {vs : List Value} {Vs : List AV} (h : EP c S l n e (.is (.ref a))) (hm : (a, tupO vs) ∈ n) (hv : HasAll Vs vs) : ET c S l n e Vs := by
  intro ok s m Q r F N ret
  refine h ok s m Q r F N (fun v n' h' tk' hp F' N' => ?_)
  obtain ⟨rfl, rfl⟩ := hp
  exact ret _ _ h' tk' ⟨(a, vs, _), ⟨hv, hm, fun _ h => h⟩, rfl, rfl⟩ F' N'
theorem ET_tup {es : List Expr} {Vs : List AV} {k : Nat} {p : Pos} (ha : EA c S l n p es Vs) (hz : Nat.ble Vs.length 1000 = true) : ET c S l n (.Tuple es k p) Vs := by
  intro ok s m Q r F N ret
  refine EC_tup ha hz ok s m Q r F N (fun v n' h' tk' hp F' N' => ?_)
  obtain ⟨x, hx, hv, rfl⟩ := hp
  exact ret v _ h' tk' ⟨(x.1, x.2, _), ⟨hx.1, .head _, fun _ h => .tail _ h⟩, hv, rfl⟩ F' N'
theorem ET_upto {o b : Expr} {a : Addr} {vs : List Value} {Us : List AV} {k : Nat} {p p2 : Pos} (ho : EP c S l n o (.is (.ref a))) (hm : (a, tupO vs) ∈ n) (hv : HasAll Us vs) (hb : EP c S l n b (.int k)) (hk : Nat.blt k Us.length = true) (hz : Nat.ble Us.length 1000 = true)
    (hs : ∀ v w, subscripted (.Slice none (some b) none p2) false v w = operate [w, v] (getItem v w)) (ht : ∀ r, letTemporaryGo o (.ref a) r = pure ()) : ET c S l n (.Subscript o (.Slice none (some b) none p2) p) (Us.take k) := by
  intro ok s m Q r F N ret
  refine Subscript_ ?_
  refine ho ok s m _ r F N (fun v n' h' tk' hp F' N' => ?_)
  obtain ⟨rfl, rfl⟩ := hp
  refine wpAny_Slice (evalPart_none_step (evalPart_some_step ?_))
  refine hb ok _ m _ r F' N' (fun v n3 h3 tk3 hp F3 N3 => ?_)
  obtain ⟨⟨t3, rfl⟩, rfl⟩ := hp
  refine evalPart_none_step ?_
  have hl := hv.len
  have h1 : k < Us.length := Nat.le_of_ble_eq_true hk
  exact slice_upto (s := { s with heap := h3, toks := tk3 }) (b := k) F3 N3 (News.isTup N3 hm) (by rw [List.size_toArray, hl]; exact h1) rfl (fun D h4 F4 N4 hD => ret _ _ h4 tk3 ⟨(D, vs.take k, _), ⟨hv.take k, .head _, fun _ h => .tail _ h⟩, rfl, rfl⟩ F4 N4) (hs _ _) ht (by rw [List.size_toArray, hl]; exact Nat.le_trans (Nat.le_of_ble_eq_true hz) (by decide))
theorem ET_from {o b : Expr} {a : Addr} {vs : List Value} {Us : List AV} {k : Nat} {p p2 : Pos} (ho : EP c S l n o (.is (.ref a))) (hm : (a, tupO vs) ∈ n) (hv : HasAll Us vs) (hb : EP c S l n b (.int k)) (hk1 : Nat.ble 1 k = true) (hk : Nat.ble k Us.length = true) (hz : Nat.ble Us.length 1000 = true)
    (hs : ∀ v w, subscripted (.Slice (some b) none none p2) false v w = operate [w, v] (getItem v w)) (ht : ∀ r, letTemporaryGo o (.ref a) r = pure ()) : ET c S l n (.Subscript o (.Slice (some b) none none p2) p) (Us.drop k) := by
  intro ok s m Q r F N ret
  refine Subscript_ ?_
  refine ho ok s m _ r F N (fun v n' h' tk' hp F' N' => ?_)
  obtain ⟨rfl, rfl⟩ := hp
  refine wpAny_Slice (evalPart_some_step ?_)
  refine hb ok _ m _ r F' N' (fun v n3 h3 tk3 hp F3 N3 => ?_)
  obtain ⟨⟨t3, rfl⟩, rfl⟩ := hp
  refine evalPart_none_step (evalPart_none_step ?_)
  have hl := hv.len
  exact slice_from (s := { s with heap := h3, toks := tk3 }) (b := k) F3 N3 (News.isTup N3 hm) (Nat.le_of_ble_eq_true hk1) (by rw [List.size_toArray, hl]; exact Nat.le_of_ble_eq_true hk) rfl (fun D h4 F4 N4 hD => ret _ _ h4 tk3 ⟨(D, vs.drop k, _), ⟨hv.drop k, .head _, fun _ h => .tail _ h⟩, rfl, rfl⟩ F4 N4) (hs _ _) ht (by rw [List.size_toArray, hl]; exact Nat.le_trans (Nat.le_of_ble_eq_true hz) (by decide))
theorem TT_tne {a b : Expr} {Vs Us : List AV} {p : Pos} (ha : ET c S l n a Vs) (hb : ∀ n2, (∀ p ∈ n, p ∈ n2) → ET c S l n2 b Us) (e : Us = Vs) (hc : Vs.all AV.cmp = true) : TT c S l n (.Compare a [.NotEq] [b] p) False True := by
  subst e
  intro ok s m Q r F N ret
  refine wpAny_isTrue_Compare1 ?_ (marks nofun nofun)
  refine ha ok s m _ r F N (fun v n1 h1 tk1 hp F1 N1 => ?_)
  obtain ⟨⟨A, xs, n1'⟩, ⟨hx, hm, hs⟩, rfl, rfl⟩ := hp
  refine hb _ hs ok _ m _ r F1 N1 (fun v n2 h2 tk2 hp F2 N2 => ?_)
  obtain ⟨⟨B, ys, n2'⟩, ⟨hy, hm2, hs2⟩, rfl, rfl⟩ := hp
  have hu := ok.un
  refine tup_ne N2 (hs2 _ hm) hm2 (by show _ < 9900; dsimp only [Cx.A, ktrTop]; omega) (eqs_of hc hx hy) ?_
  exact wpAny_truthy_bool (ret false _ h2 _ ⟨rfl, .inr ⟨rfl, trivial⟩⟩ F2 (news_sub N2 (fun p hp => hs2 p (hs p hp))))
theorem EP_teq {a b : Expr} {Vs Us : List AV} {p : Pos} (ha : ET c S l n a Vs) (hb : ∀ n2, (∀ p ∈ n, p ∈ n2) → ET c S l n2 b Us) (e : Us = Vs) (hc : Vs.all AV.cmp = true) : EP c S l n (.Compare a [.Eq] [b] p) (.is (.bool true)) := by
  subst e
  intro ok s m Q r F N ret
  refine wpAny_Compare1 ?_ (marks nofun nofun)
  refine ha ok s m _ r F N (fun v n1 h1 tk1 hp F1 N1 => ?_)
  obtain ⟨⟨A, xs, n1'⟩, ⟨hx, hm, hs⟩, rfl, rfl⟩ := hp
  refine hb _ hs ok _ m _ r F1 N1 (fun v n2 h2 tk2 hp F2 N2 => ?_)
  obtain ⟨⟨B, ys, n2'⟩, ⟨hy, hm2, hs2⟩, rfl, rfl⟩ := hp
  have hu := ok.un
  refine tup_eq N2 (hs2 _ hm) hm2 (by show _ < 9900; dsimp only [Cx.A, ktrTop]; omega) (eqs_of hc hx hy) ?_
  exact ret _ _ h2 _ ⟨rfl, rfl⟩ F2 (news_sub N2 (fun p hp => hs2 p (hs p hp)))
theorem gb_type : GB (Str.ofString "type") (.type "type") := ⟨fun P => by k_is, rfl, by decide +kernel, by decide +kernel⟩
theorem EP_typeV {e : Expr} {V : AV} {T : String} {p1 p2 : Pos} (hk : S.glob (Str.ofString "type") = true) (he : EP c S l n e V) (hp : plainE e = true) (hT : ∀ v, V.has v → ∀ s : Shared, s.TypeIs v T) (hn : (Value.type T == Value.type "builtin_function_or_method") = false) : EP c S l n (.Call (.Name (Str.ofString "type") p1) [e] [] p2) (.is (.type T)) := by
  intro ok s m Q r F N ret
  refine Call_ ?_
  refine nameX_B F ok.X (topRead_of ok.T) (gb_type.none _) gb_type.boot gb_type.ne ?_ ok.S.kind (Sc.glob_eq hk) gb_type.dbg
  refine Pv.callWith_type1 ?_ (star_plain hp) rfl
  refine (EA_cons he hp EA_nil) ok s m _ r F N (fun vs n' h' tk' hq F' N' => ?_)
  obtain ⟨hv, rfl⟩ := hq
  obtain ⟨v, rfl, hv2⟩ := has1 hv
  exact call_type_of (hT v hv2 _) hn (ret _ _ h' _ ⟨rfl, rfl⟩ F' N')
theorem TT_tyne {a b : Expr} {T : String} {p : Pos} (ha : EP c S l n a (.is (.type T))) (hb : EP c S l n b (.is (.type T))) (hm : ∀ s : Shared, s.TypeIs (.type T) "type") : TT c S l n (.Compare a [.NotEq] [b] p) False True :=
  TT_cmp (b1 := false) (by rintro _ _ s Q rfl rfl ret; exact ne_type_same hm (ret s.toks)) nofun (fun _ => trivial) (marks nofun nofun) ha hb
end
noncomputable def Tv.ty : Tv → String
  | .s _ => "str"
  | .i _ => "int"
theorem tv_ty {tv : Tv} {v : Value} (h : tv.av.has v) (s : Shared) : s.TypeIs v tv.ty := by
  cases tv with
  | s x => obtain ⟨t, rfl⟩ := h; exact rfl
  | i x => obtain ⟨t, rfl⟩ := h; exact rfl
theorem tv_meta (tv : Tv) : ∀ s : Shared, s.TypeIs (.type tv.ty) "type" := by
  cases tv with
  | s x => exact TypeEq.meta_str
  | i x => exact TypeEq.meta_int
theorem tv_nb (tv : Tv) : (Value.type tv.ty == Value.type "builtin_function_or_method") = false := by
  cases tv with
  | s x => show (Value.type "str" == _) = false; decide +kernel
  | i x => show (Value.type "int" == _) = false; decide +kernel
theorem tv_has (tv : Tv) (t : Tok) : tv.av.has (tv.val t) := by
  cases tv with
  | s x => exact ⟨t, rfl⟩
  | i x => exact ⟨t, rfl⟩
theorem tv_cmp (tv : Tv) : tv.av.cmp = true := by cases tv <;> rfl
theorem tv_handed (tv : Tv) (t : Tok) : handedIn (tv.val t) = true := by cases tv <;> rfl
theorem has_s {x : Str} {t : Tok} : (AV.str x).has (.str x t) := ⟨t, rfl⟩
theorem has_i {x : Int} {t : Tok} : (AV.int x).has (.int x t) := ⟨t, rfl⟩
theorem has_v {v : Value} : (AV.is v).has v := rfl
theorem hd_s {x : Str} {t : Tok} : handedIn (.str x t) = true := rfl
theorem hd_i {x : Int} {t : Tok} : handedIn (.int x t) = true := rfl
theorem hd_b {b : Bool} : handedIn (.bool b) = true := rfl
structure TokAt (n : Led) (J : TokId) (kind value line isb start fin oct plain : Value) : Prop where
  i : (J.t, instObj 237 J.dt) ∈ n
  d : (J.dt, dictOf (tokE J kind value line isb start fin oct plain) 8) ∈ n
section
variable {c : Cx} {S : Sc} {l : Loc} {n : Led} {J : TokId} {kind value line isb start fin oct plain : Value} {y : Str} {p p1 : Pos} {V : AV}
section
variable (T : TokAt n J kind value line isb start fin oct plain) (ho : EP c S l n (.Name y p1) (.is (.ref J.t)))
include T ho
theorem at_kind (hv : V.has kind) (hh : handedIn kind = true) : EP c S l n (.Attribute (.Name y p1) (Str.ofString "kind") p) V := EP_attr (v := kind) ho ga_kind T.i T.d rfl hv hh
theorem at_value (hv : V.has value) (hh : handedIn value = true) : EP c S l n (.Attribute (.Name y p1) (Str.ofString "value") p) V := EP_attr (v := value) ho ga_value T.i T.d rfl hv hh
theorem at_line (hv : V.has line) (hh : handedIn line = true) : EP c S l n (.Attribute (.Name y p1) (Str.ofString "line") p) V := EP_attr (v := line) ho ga_tline T.i T.d rfl hv hh
theorem at_isb (hv : V.has isb) (hh : handedIn isb = true) : EP c S l n (.Attribute (.Name y p1) (Str.ofString "is_behind_line") p) V := EP_attr (v := isb) ho ga_isb T.i T.d rfl hv hh
theorem at_start (hv : V.has start) (hh : handedIn start = true) : EP c S l n (.Attribute (.Name y p1) (Str.ofString "start") p) V := EP_attr (v := start) ho ga_start T.i T.d rfl hv hh
theorem at_end (hv : V.has fin) (hh : handedIn fin = true) : EP c S l n (.Attribute (.Name y p1) (Str.ofString "end") p) V := EP_attr (v := fin) ho ga_end T.i T.d rfl hv hh
theorem at_octal (hv : V.has oct) (hh : handedIn oct = true) : EP c S l n (.Attribute (.Name y p1) (Str.ofString "is_octal") p) V := EP_attr (v := oct) ho ga_octal T.i T.d rfl hv hh
theorem at_plain (hv : V.has plain) (hh : handedIn plain = true) : EP c S l n (.Attribute (.Name y p1) (Str.ofString "is_plain") p) V := EP_attr (v := plain) ho ga_plain T.i T.d rfl hv hh
end
end
end Mine
namespace Mine
noncomputable def LawSays (w : World) (mg mb : Str → Option Value) (mean : ExcName → Option Value) (f : Addr) (qual : Str) (scope : Scope) (body : List Stmt) (cdv : Value) : Prop :=
  ∀ (dp un : Nat) (gd : Option (List Code)) (outer : List Env) (A₀ : Around) (base g : Heap) (L : Addr) (s : Shared) (sc : Addr) (vs : List Value) (ns : List Int),
    Below A₀ base outer g → Fr g L s.heap (fun y => ([(Str.ofString "script", Value.ref sc)] : List (Str × Value)).lookup y) → (hpK w.params).In g → News g L s.heap [] → Top hpV (looseW hpV LS) mean mg mb g → g.IsList sc vs.toArray → IntsAre vs ns → ns.length ≤ 63 → dp + 20 < 900 → un + 200 < 9000 →
    wpAny (model prg w) (ktrTop dp un gd qual scope L f cdv [] outer) (execs body (envOf qual scope L f cdv)) (Back s g L (fun v _ => v = .bool true)) (fun _ _ => False) s
theorem law_fn {w : World} {mg mb : Str → Option Value} {mean : ExcName → Option Value} {name qual : Str} {params : Arguments} {body : List Stmt} {scope : Scope} {dV kV doc pm cdv ct oc : Value} {an od : Option Addr} {osl : Array (Option Value)}
    (ho : (hpK w.params).lookup 499 = some ⟨oc, od, .func (fnOf name qual params body scope dV kV doc pm an cdv ct), osl⟩) (H : ∀ (f : Addr) (cd : Value), LawSays w mg mb mean f qual scope body cd) :
    ∀ {name' qual' : Str} {params' : Arguments} {body' : List Stmt} {scope' : Scope} {dV' kV' doc' pm' cdv' ct' oc' : Value} {an' od' : Option Addr} {osl' : Array (Option Value)},
      (hpK w.params).lookup 499 = some ⟨oc', od', .func (fnOf name' qual' params' body' scope' dV' kV' doc' pm' an' cdv' ct'), osl'⟩ → ∀ (f : Addr) (cd : Value), LawSays w mg mb mean f qual' scope' body' cd := by
  intro name' qual' params' body' scope' dV' kV' doc' pm' cdv' ct' oc' an' od' osl' ho'
  have e := Option.some.inj (ho.symm.trans ho')
  simp only [fnOf, Obj.mk.injEq, Data.func.injEq, FuncData.mk.injEq] at e
  obtain ⟨-, -, ⟨-, rfl, -, hb, rfl, -, -, -, -, -, -, -, rfl, -⟩, -⟩ := e
  cases hb
  exact H
theorem law_go {w : World} {mg mb : Str → Option Value} {mean : ExcName → Option Value} {qual : Str} {scope : Scope} {body : List Stmt} {us : List Str} {f : Addr} {cd : Value} (hok : okb scope (Str.ofString "script" :: us) = true)
    (H : ∀ (c : Cx) (R : AV → Led → Prop) (sc : Addr) (vs : List Value) (ns : List Int), c.g.IsList sc vs.toArray → IntsAre vs ns → ns.length ≤ 63 → (∀ n', R (.is (.bool true)) n') → SS c ⟨scope, 20, Str.ofString "script" :: us⟩ R ((Str.ofString "script", .is (.ref sc)) :: uns us) [] body (fun _ _ => False)) : LawSays w mg mb mean f qual scope body cd := by
  intro dp un gd outer A₀ base g L s sc vs ns B F X N T hsc hI hlen hdp hun
  have h := H ⟨⟨w, mg, mb, mean⟩, dp, un, gd, qual, L, f, cd, outer, A₀, base, g⟩ (fun V _ => V = .is (.bool true)) sc vs ns hsc hI hlen (fun _ => rfl) ⟨B, X, T, hdp, by dsimp only; omega, ok_of hok⟩ s (fun y => ([(Str.ofString "script", Value.ref sc)] : List (Str × Value)).lookup y) (Back s g L (fun v _ => v = .bool true))
    ⟨congrArg (fun l => Str.ofString "script" :: l) (uns_keys (us := us)), fun p hp => by
      cases hp with
      | head =>
        show hasO (.is (.ref sc)) (List.lookup _ [(Str.ofString "script", Value.ref sc)])
        rw [List.lookup_cons_self]
        exact hasO_some rfl
      | tail _ hp => exact uns_ok (m := fun y => List.lookup y _) p hp⟩ F N (fun _ _ _ _ _ hK => hK.elim) (fun V v m' n' h' tk' hR hv F' N' => by
      subst hR
      exact back_sub F' N' hv (fun _ h => h))
  exact h
theorem ints_has {vs : List Value} {ns : List Int} (h : IntsAre vs ns) {i : Nat} {v : Value} (hv : vs[i]? = some v) : (AV.int (ns.getD i 0)).has v := by
  induction h generalizing i with
  | nil => cases hv
  | cons n t _ ih =>
    cases i with
    | zero =>
      simp only [List.getElem?_cons_zero, Option.some.injEq] at hv
      exact ⟨t, hv.symm⟩
    | succ i =>
      simp only [List.getElem?_cons_succ] at hv
      exact ih hv
noncomputable abbrev rowVs (r : RowV) : List AV := [.str r.kind, r.tv.av, .int r.line, .is (.bool r.he), .int r.st, .int r.fin, .is (.bool r.o), .is (.bool r.p)]
/-- the rows that are due -/
inductive DueR (led : Led) : List Value → List RowV → Prop
  | nil : DueR led [] []
  | cons {a : Addr} {ws vs : List Value} {r : RowV} {rs : List RowV} : (a, tupO ws) ∈ led → HasAll (rowVs r) ws → DueR led vs rs → DueR led (.ref a :: vs) (r :: rs)
theorem DueR.snoc {led : Led} {a : Addr} {ws vs : List Value} {r : RowV} {rs : List RowV} (h : DueR led vs rs) (hr : HasAll (rowVs r) ws) : DueR ((a, tupO ws) :: led) (vs ++ [.ref a]) (rs ++ [r]) := by
  induction h with
  | nil => exact .cons (.head _) hr .nil
  | cons h1 h2 _ ih => exact .cons (.tail _ h1) h2 ih
theorem DueR.at {led : Led} {vs : List Value} {rs : List RowV} (h : DueR led vs rs) {i : Nat} (hi : i < vs.length) : ∃ (a : Addr) (ws : List Value) (r : RowV), vs[i]? = some (.ref a) ∧ rs[i]? = some r ∧ (a, tupO ws) ∈ led ∧ HasAll (rowVs r) ws := by
  induction h generalizing i with
  | nil => cases hi
  | cons h1 h2 _ ih =>
    cases i with
    | zero => exact ⟨_, _, _, rfl, rfl, h1, h2⟩
    | succ i =>
      rw [List.getElem?_cons_succ, List.getElem?_cons_succ]
      exact ih (Nat.lt_of_succ_lt_succ hi)
theorem DueR.len {led : Led} {vs : List Value} {rs : List RowV} (h : DueR led vs rs) : vs.length = rs.length := by
  induction h with
  | nil => rfl
  | cons _ _ _ ih => rw [List.length_cons, List.length_cons, ih]
theorem gap_on {gg : List Nat} {ggl j : Nat} {x : Str} {m : Nat} (r6 : j = 0 → gg = [] ∧ ggl = 0) (r7 : 0 < j → GapRun gg ggl) (h : GapMade x m) : GapRun (gg ++ x.cps.toList) (ggl + m) := by
  by_cases hj : j = 0
  · obtain ⟨rfl, rfl⟩ := r6 hj
    rw [List.nil_append, Nat.zero_add]
    exact gapRun_one h
  · exact gapRun_snoc (r7 (by omega)) h
structure MS2 where
  box : BoxSt
  its : List Item
  rows : Led
  vs : List Value
  nd : Nat
  text : Str
  line : Int
  he : Bool
structure GS2 where
  box : BoxSt
  g : List Nat
  gl : Nat
  text : Str
  line : Int
  he : Bool
structure CS2 where
  pos : Int
  ta : Tok
  ln : Int
  tl : Tok
  k : Nat
  n : Nat
  rem : List Item
noncomputable abbrev mkL (sc bx du : Addr) (x : Str) (ln : Int) (he : Bool) (turn told more step gap lexer row token found : AV) : Loc :=
  [(Str.ofString "script", .is (.ref sc)), (Str.ofString "seed", .un), (Str.ofString "one", .un), (Str.ofString "box", .is (.ref bx)), (Str.ofString "text", .str x), (Str.ofString "line", .int ln), (Str.ofString "has_end", .is (.bool he)), (Str.ofString "due", .is (.ref du)), (Str.ofString "turn", turn), (Str.ofString "told", told), (Str.ofString "more", more), (Str.ofString "step", step), (Str.ofString "gap", gap), (Str.ofString "lexer", lexer), (Str.ofString "row", row), (Str.ofString "token", token), (Str.ofString "found", found), (Str.ofString "again", .un)]
theorem nod_del {a : Addr} {pre post : List Addr} (h : (pre ++ a :: post).Nodup) : (pre ++ post).Nodup := h.sublist (List.Sublist.append_left (List.sublist_cons_self a post) pre)
theorem he_or {a b : Nat} : (decide (0 < a) || decide (0 < (b : Int))) = decide (0 < a + b) := by
  rw [Bool.eq_iff_iff, Bool.or_eq_true, decide_eq_true_eq, decide_eq_true_eq, decide_eq_true_eq]; omega
theorem law_says {w : World} {mg mb : Str → Option Value} {mean : ExcName → Option Value} {name' qual' : Str} {params' : Arguments} {body' : List Stmt} {scope' : Scope} {dV' kV' doc' pm' cdv' ct' oc' : Value} {an' od' : Option Addr} {osl' : Array (Option Value)}
      (ho : (hpK w.params).lookup 499 = some ⟨oc', od', .func (fnOf name' qual' params' body' scope' dV' kV' doc' pm' an' cdv' ct'), osl'⟩) : ∀ (f : Addr) (cd : Value), LawSays w mg mb mean f qual' scope' body' cd := by
  refine law_fn (by k_is) ?_ ho
  clear ho
  intro fa0 cd0
  refine law_go (us := [Str.ofString "seed", Str.ofString "one", Str.ofString "box", Str.ofString "text", Str.ofString "line", Str.ofString "has_end", Str.ofString "due", Str.ofString "turn", Str.ofString "told", Str.ofString "more", Str.ofString "step", Str.ofString "gap", Str.ofString "lexer", Str.ofString "row", Str.ofString "token", Str.ofString "found", Str.ofString "again"]) ?hok ?_
  case hok => kernel_rfl
  intro c R sc vs ns hsc hI hlen hR
  dsimp only [uns, List.map]
  walk_at "S s"
  with_reducible refine' SS_forL (X := Addr × List Value) (fa := fun x => x.1) (fvs := fun x => x.2) (fk := fun _ => 0) (EC_upto ?a1 EP_int hsc hI ?a2 ?a3 ?a4 ?a5) ?a6 ?_
  case a1 => walk_at "S e"
  case a2 => decide
  case a3 => omega
  case a4 => exact fun _ _ => rfl
  case a5 => exact fun _ => by with_unfolding_all rfl
  case a6 => exact fun _ => rfl
  rintro ⟨D, ws⟩ ⟨hW, hD⟩
  dsimp only at hW hD ⊢
  refine ⟨Int, fun s => [(Str.ofString "script", .is (.ref sc)), (Str.ofString "seed", .int s), (Str.ofString "one", .un), (Str.ofString "box", .un), (Str.ofString "text", .un), (Str.ofString "line", .un), (Str.ofString "has_end", .un), (Str.ofString "due", .un), (Str.ofString "turn", .un), (Str.ofString "told", .un), (Str.ofString "more", .un), (Str.ofString "step", .un), (Str.ofString "gap", .un), (Str.ofString "lexer", .un), (Str.ofString "row", .un), (Str.ofString "token", .un), (Str.ofString "found", .un), (Str.ofString "again", .un)],
    fun i s => [(Str.ofString "script", .is (.ref sc)), (Str.ofString "seed", .int s), (Str.ofString "one", .int ((ns.take (Int.toNat 24)).getD i 0)), (Str.ofString "box", .un), (Str.ofString "text", .un), (Str.ofString "line", .un), (Str.ofString "has_end", .un), (Str.ofString "due", .un), (Str.ofString "turn", .un), (Str.ofString "told", .un), (Str.ofString "more", .un), (Str.ofString "step", .un), (Str.ofString "gap", .un), (Str.ofString "lexer", .un), (Str.ofString "row", .un), (Str.ofString "token", .un), (Str.ofString "found", .un), (Str.ofString "again", .un)],
    fun _ => [(D, PySem.W.listOf ws.toArray 0)], fun _ io => [io, (D, PySem.W.listOf ws.toArray 0)], fun _ s => 0 ≤ s ∧ s < 2147483647, fun i => .int ((ns.take (Int.toNat 24)).getD i 0), 77,
    ⟨by decide, by decide⟩, LeR.refl _, fun _ h => h, fun _ => .head _, fun _ => rfl, fun _ _ _ h => h, fun i v hv => ints_has hW hv, fun _ _ => ?b1, ?b2, ?b3⟩
  case b1 => walk_at "S p"
  case b2 =>
    rintro i s io hi ⟨h1, h2⟩ hio K' hK'
    walk_at "S s"
    walk_at "S n"
    refine hK' _ _ _ ?c1 (.same (.same (.un (LeR.refl _)))) (fun _ h => h)
    case c1 =>
      rw [Int.fmod_eq_emod_of_nonneg _ (by decide)]; exact ⟨Int.emod_nonneg _ (by decide), Int.emod_lt_of_pos _ (by decide)⟩
  case b3 =>
  rintro sd ⟨h1, h2⟩
  with_reducible refine' SS_sub (n2 := []) ?d1 ?_
  case d1 => exact fun _ h => nomatch h
  with_reducible refine' SS_setC (EC_listK (AK_c (fV := fun _ => [.int sd]) (EC_listOf (X := Addr × List Value) (fa := fun x => x.1) (fvs := fun x => x.2) (fk := fun _ => 0) ?e1 (EC_upto ?e2 EP_int hsc hI ?e3 ?e4 ?e5 ?e6) ?e7 ?e8 ?e9) ?ea ?eb) ?ec) ?ed ?ee ?_
  case e1 => kernel_rfl
  case e2 => walk_at "S e"
  case e3 => decide
  case e4 => omega
  case e5 => exact fun _ _ => rfl
  case e6 => exact fun _ => by with_unfolding_all rfl
  case e7 => exact rfl
  case e8 => exact fun _ => .head _
  case e9 => exact fun x hx => by rw [hx.1.length, List.length_take]; exact Nat.le_trans (Nat.min_le_left _ _) (by decide)
  case ea => exact rfl
  case eb => exact fun x hx => EA_cons (by walk_at "S e") rfl EA_nil
  case ec => exact fun _ => (by decide : 2 ≤ 1000)
  case ed => exact rfl
  case ee => exact fun _ => by walk_at "S p"
  rintro ⟨⟨⟨D1, w1⟩, il, ci⟩, bx, bvs⟩ ⟨⟨⟨hW1, hD1⟩, hil⟩, hbv, hbx⟩
  dsimp only at hW1 hil hbv hbx ⊢
  obtain ⟨v1, r1, rfl, hv1, g1⟩ := has_cons hbv
  obtain ⟨v2, r2, rfl, ⟨ts, rfl⟩, g2⟩ := has_cons g1
  obtain rfl := has_nil g2
  have hv1' : v1 = .ref il := hv1
  subst hv1'
  clear hv1 g1 g2 hbv
  have nbi : il < bx := hbx _ (.head _)
  obtain ⟨B, rfl, rfl⟩ : ∃ B : BoxId, B.bx = bx ∧ B.il = il := ⟨⟨bx, il⟩, rfl, rfl⟩
  have hw24 : w1.length ≤ 24 := by rw [hW1.length, List.length_take]; exact Nat.min_le_left _ _
  with_reducible refine' SS_sub (n2 := boxL B ⟨w1, 0, ci, sd, ts⟩ []) ?f1 ?_
  case f1 => exact List.forall_mem_cons.mpr ⟨.head _, List.forall_mem_cons.mpr ⟨.tail _ (.head _), fun _ h => nomatch h⟩⟩
  clear hbx hil hD1 D1 hW hD ws D
  with_reducible refine' SS_untup (X := Addr × Addr × List Value) (names := [(Str.ofString "text", _), (Str.ofString "line", _), (Str.ofString "has_end", _), (Str.ofString "due", _)]) (fvs := fun x => x.2.2) (fVs := fun x => [.str (Str.ofString ""), .int 1, .is (.bool false), .is (.ref x.1)]) (EC_tupK (AK_p EP_str ?g1 (AK_p EP_int ?g2 (AK_p EP_boo ?g3 (AK_c (fV := fun _ => []) EC_list0 ?g4 (fun _ _ => EA_nil))))) ?g5) ?g6 ?g7 ?g8 ?g9 ?ga ?gb ?gc ?_
  case g1 => exact rfl
  case g2 => exact rfl
  case g3 => exact rfl
  case g4 => exact rfl
  case g5 => exact fun _ => (by decide : 4 ≤ 1000)
  case g6 => exact fun _ => .head _
  case g7 => exact fun _ h => h.2.1
  case g8 => exact fun _ => rfl
  case g9 => exact fun _ => .cons (by walk_at "S p") (.cons (by walk_at "S p") (.cons (by walk_at "S p") (.cons (by walk_at "S p") .nil)))
  case ga => exact rfl
  case gb => exact rfl
  case gc => kernel_rfl
  rintro ⟨du, D2, tvs⟩ ⟨hdu, -, -⟩
  dsimp only at hdu ⊢
  have hA0 : boxA B [(du, PySem.W.listOf #[] 0)] := boxA_cons (b := ⟨w1, 0, ci, sd, ts⟩) (rest := []) (by
    refine List.nodup_cons.mpr ⟨fun h => ?_, List.nodup_cons.mpr ⟨(fun h => nomatch h), List.nodup_nil⟩⟩
    rcases List.mem_cons.mp h with e | h
    · exact Nat.ne_of_gt nbi e
    · exact nomatch h) hdu
  clear hdu
  with_reducible refine' SS_sub (n2 := boxL B ⟨w1, 0, ci, sd, ts⟩ [(du, PySem.W.listOf #[] 0)]) ?h1 ?_
  case h1 =>
    refine List.forall_mem_cons.mpr ⟨?_, List.forall_mem_cons.mpr ⟨?_, List.forall_mem_cons.mpr ⟨?_, fun _ h => nomatch h⟩⟩⟩ <;> repeat (first | with_reducible exact List.mem_cons_self | with_reducible assumption | with_reducible refine List.mem_cons_of_mem _ ?_)
  with_reducible refine' SS_rangeI (N := 5) (σ := MS2) (fl := fun x => mkL sc B.bx du x.text x.line x.he .un .un .un .un .un .un .un .un .un) (flI := fun x i => mkL sc B.bx du x.text x.line x.he (.int i) .un .un .un .un .un .un .un .un) (fn := fun x => boxL B x.box ((du, PySem.W.listOf x.vs.toArray x.nd) :: x.rows)) (fnI := fun x io => boxL B x.box (io :: (du, PySem.W.listOf x.vs.toArray x.nd) :: x.rows)) (I := fun a k x => ∀ C : Prop, (BoxOk x.box → (∀ it ∈ x.its, it.Ok) → x.text.cps.toList = lay x.its → x.text.length ≤ 100 * k → x.line = endLine x.its 1 → x.he = endHe x.its false → DueR x.rows x.vs (rowsOf x.its 0 1 false) → x.vs.length = k → (a :: B.bx :: B.il :: du :: x.rows.map Prod.fst).Nodup → C) → C) (x₀ := ⟨⟨w1, 0, ci, sd, ts⟩, [], [], [], 0, Str.ofString "", 1, false⟩) ?i1 ?i2 ?i3 ?i4 ⟨?j1, ?j2, ?j3, ?j4, ?j5, ?j6, ?j7, ?j8, ?j9⟩
  case i1 => kernel_rfl
  case i2 => exact EP_int
  case i3 => exact rfl
  case i4 => exact fun _ => rfl
  case j1 => decide
  case j2 =>
    intro a ha C f
    refine f ⟨⟨_, hW1⟩, hw24, h1, h2⟩ (fun _ h => nomatch h) ?_ ?_ rfl rfl .nil rfl ?_
    · exact (by decide +kernel : (Str.ofString "").cps.toList = [])
    · exact (by decide +kernel : (Str.ofString "").length ≤ 0)
    · refine List.nodup_cons.mpr ⟨fun h => ?_, hA0⟩
      obtain ⟨p, hp, e⟩ := mem_adr (n := boxL B ⟨w1, 0, ci, sd, ts⟩ [(du, PySem.W.listOf #[] 0)]) h
      have h3 := ha p hp
      rw [e] at h3
      exact Nat.lt_irrefl _ h3
  case j3 => exact .same (.un (.same (.same (.same (.same (.same (.same (LeR.refl _))))))))
  case j4 => exact fun _ h => h
  case j5 =>
    intro a i y hI p hp e
    refine hI _ ?_
    intro _ _ _ _ _ _ _ _ hnd
    exact (List.nodup_cons.mp hnd).1 (e ▸ List.mem_map.mpr ⟨p, hp, rfl⟩ : a ∈ (boxL B y.box ((du, PySem.W.listOf y.vs.toArray y.nd) :: y.rows)).map Prod.fst)
  case j6 => exact fun _ _ => mem_rot2
  case j7 => exact fun _ _ => by walk_at "S p"
  case j8 =>
    clear hA0 nbi hw24 hW1 h1 h2 hI hsc hlen
    rintro k ⟨box, its, rows, vs, nd, text, line, he⟩ io hk5 hI K' hK'
    refine hI _ ?_
    clear hI
    intro p1 p2 p3 p4 p5 p6 p7 p8 p9
    dsimp only at p1 p2 p3 p4 p5 p6 p7 p8 p9 ⊢
    have hA1 : boxA B ((du, PySem.W.listOf vs.toArray nd) :: rows) := (List.nodup_cons.mp p9).2
    have hA2 : boxA B (io :: (du, PySem.W.listOf vs.toArray nd) :: rows) := nod_ne (pre := [B.bx, B.il]) hA1 (fun x hx e => (List.nodup_cons.mp p9).1 (e ▸ hx))
    have hvl : vs.length ≤ 1000000 := by omega
    with_reducible refine' SS_untup (names := [(Str.ofString "told", _), (Str.ofString "more", _)]) (fvs := fun x => x.ws) (fVs := fun x => [.is (.ref x.ib), .int x.m]) (EC_call gf_law_token ?k1 ?k2 ?k3 (law_token_c hA2 p1) ?k4) ?k5 ?k6 ?k7 ?k8 ?k9 ?ka ?kb ?_
    case k2 => walk_at "S a"
    case k1 => kernel_rfl
    case k3 => exact rfl
    case k4 => exact rfl
    case k5 => exact fun _ => .tail _ (.tail _ (.head _))
    case k6 => exact fun _ h => h.2.2.1
    case k7 => exact fun _ => rfl
    case k8 => exact fun _ => .cons (by walk_at "S p") (.cons (by walk_at "S p") .nil)
    case k9 => exact rfl
    case ka => exact rfl
    case kb => kernel_rfl
    rintro ⟨a9, ib, b2, tvs, tws, kd, tv, tx, oo, pp, mm⟩ ⟨q1, q2, -, q4, q5⟩
    dsimp only at q1 q2 q4 q5 ⊢
    have htl := q4.len
    have htp := q4.pos
    have hml : ∀ {o : Obj}, (ib, o) ∈ (ib, o) :: rows := fun {o} => .head _
    with_reducible refine' SS_appendC (D := du) (its := vs) (k := nd) (X := Addr × List Value) (fn := fun y v => (y.1, tupO y.2) :: boxL B b2 ((a9, tupO tws) :: (ib, tupO tvs) :: io :: (du, PySem.W.listOf (vs ++ [v]).toArray (nd + 1)) :: rows)) ?l1 (EC_tup (Vs := [.str kd, tv.av, .int line, .is (.bool he), .int text.length, .int ((text.length : Int) + tx.length), .is (.bool oo), .is (.bool pp)]) ?l2 ?l3) ?l4 hvl ?l5 ?l6 ?l7 ?_
    case l1 => walk_at "S e"
    case l2 => walk_at "S a"
    case l3 => exact rfl
    case l4 => exact rfl
    case l5 => exact .tail _ (.tail _ (.tail _ (.tail _ (.tail _ (.head _)))))
    case l6 =>
      rintro ⟨y, ys⟩ v ⟨-, hy⟩
      refine upd_of (pre := (y, tupO ys) :: boxL B b2 [(a9, tupO tws), (ib, tupO tvs), io]) (List.nodup_cons.mpr ⟨fun h => ?_, q5⟩)
      obtain ⟨p, hp, e⟩ := mem_adr h
      have h3 := hy p hp
      rw [e] at h3
      exact Nat.lt_irrefl _ h3
    case l7 => exact rfl
    rintro ⟨ra, rvs⟩ v ⟨hr1, hr2⟩ hv
    have hv' : v = .ref ra := hv
    subst hv'
    clear hv
    dsimp only at hr1 hr2 ⊢
    have hfr : ∀ x ∈ (B.bx :: B.il :: a9 :: ib :: io.1 :: du :: rows.map Prod.fst), @LT.lt Nat _ x ra := fun x hx => by
      obtain ⟨p, hp, rfl⟩ := mem_adr (n := boxL B b2 ((a9, tupO tws) :: (ib, tupO tvs) :: io :: (du, PySem.W.listOf vs.toArray nd) :: rows)) hx
      exact hr2 p hp
    have hA3 : boxA B ((ra, tupO rvs) :: (ib, tupO tvs) :: io :: (du, PySem.W.listOf (vs ++ [Value.ref ra]).toArray (nd + 1)) :: rows) := nod_ins (pre := [B.bx, B.il]) (nod_del (pre := [B.bx, B.il]) q5) (fun x hx => hfr x (by
      rcases List.mem_append.mp hx with h | h
      · exact List.mem_append.mpr (.inl h : x ∈ [B.bx, B.il] ∨ x ∈ a9 :: ib :: io.1 :: du :: rows.map Prod.fst)
      · exact .tail _ (.tail _ (.tail _ h))))
    have hs1 : ∀ x ∈ io.1 :: B.bx :: B.il :: du :: rows.map Prod.fst, x ∈ B.bx :: B.il :: a9 :: ib :: io.1 :: du :: rows.map Prod.fst := by
      refine List.forall_mem_cons.mpr ⟨?_, List.forall_mem_cons.mpr ⟨?_, List.forall_mem_cons.mpr ⟨?_, List.forall_mem_cons.mpr ⟨?_, fun p hp => ?_⟩⟩⟩⟩ <;> repeat (first | with_reducible exact List.mem_cons_self | with_reducible assumption | with_reducible refine List.mem_cons_of_mem _ ?_)
    have hnd : (io.1 :: B.bx :: B.il :: du :: ra :: rows.map Prod.fst).Nodup := nod_ins (pre := [io.1, B.bx, B.il, du]) p9 (fun x hx => hfr x (hs1 x hx))
    clear hfr hr2 q5 p9 hA2 hA1 hs1
    generalize hR2 : (ra, tupO rvs) :: (ib, tupO tvs) :: io :: (du, PySem.W.listOf (vs ++ [Value.ref ra]).toArray (nd + 1)) :: rows = R2 at hA3
    with_reducible refine' SS_sub (n2 := boxL B b2 R2) ?n1 ?_
    case n1 =>
      subst hR2
      refine List.forall_mem_cons.mpr ⟨?_, List.forall_mem_cons.mpr ⟨?_, List.forall_mem_cons.mpr ⟨?_, List.forall_mem_cons.mpr ⟨?_, List.forall_mem_cons.mpr ⟨?_, List.forall_mem_cons.mpr ⟨?_, fun p hp => ?_⟩⟩⟩⟩⟩⟩ <;> repeat (first | with_reducible exact List.mem_cons_self | with_reducible assumption | with_reducible refine List.mem_cons_of_mem _ ?_)
    have htm : (ib, tupO tvs) ∈ R2 := by subst hR2; exact .tail _ (.head _)
    have hm2 : (ib, tupO tvs) ∈ boxL B b2 R2 := .tail _ (.tail _ htm)
    walk_at "S s"
    with_reducible refine' SS_rangeC (X := Int × BoxSt) (P := fun x => 0 ≤ x.1 ∧ x.1 < 2 ∧ BoxOk x.2) (fN := fun x => (1 + x.1).toNat) (fn0 := fun x => boxL B x.2 R2) ?o1 ?o2 ?o3 ?o4 ?_
    case o1 => kernel_rfl
    case o2 =>
      intro ok s m Q r F N ret
      refine EC_addr EP_int (EC_take (wide := 2) (by kernel_rfl) (by walk_at "S e") EP_int rfl hA3 q1 (by decide) (by decide) rfl) ok s m Q r F N (fun v n' h' tk' hp F' N' => ?_)
      obtain ⟨x, hx, ⟨t, rfl⟩, rfl⟩ := hp
      exact ret _ _ h' tk' ⟨x, hx, ⟨t, by rw [Int.toNat_of_nonneg (by have := hx.1; omega)]⟩, rfl⟩ F' N'
    case o3 => exact rfl
    case o4 => exact fun _ => rfl
    rintro ⟨kk, b3⟩ ⟨hk0, hk1, hb3⟩
    dsimp only at hk0 hk1 hb3 ⊢
    obtain ⟨nz, hn⟩ := Int.eq_ofNat_of_zero_le hk0
    subst hn
    have e1 : (1 + (nz : Int)).toNat = 1 + nz := by omega
    rw [e1]
    refine ⟨GS2, fun x => mkL sc B.bx du x.text x.line x.he (.int k) (.is (.ref ib)) .un .un .un .un .un .un .un, fun x i => mkL sc B.bx du x.text x.line x.he (.int k) (.is (.ref ib)) .un (.int i) .un .un .un .un .un, fun x => boxL B x.box R2, fun x io2 => boxL B x.box (io2 :: R2),
      fun j x => ∀ C : Prop, (BoxOk x.box → x.text.cps.toList = lay its ++ (tx.cps.toList ++ x.g) → x.text.length ≤ 100 * k + 60 + 20 * j → x.line = line + mm + x.gl → x.he = decide (0 < x.gl) → (j = 0 → x.g = [] ∧ x.gl = 0) → (0 < j → GapRun x.g x.gl) → C) → C,
      ⟨b3, [], 0, text ++ tx, line + mm, false⟩, ⟨?r1, ?r2, ?r3, fun _ h => h, fun _ => rfl, fun _ _ => mem_rot2, fun _ _ => ?r4, ?r5, ?r6⟩⟩
    case r1 => omega
    case r2 =>
      intro C f
      refine f hb3 ?_ ?_ ?_ rfl (fun _ => ⟨rfl, rfl⟩) (fun h => absurd h (by omega))
      · rw [app_cps, p3, List.append_nil]
      · dsimp only; rw [app_len]; omega
      · dsimp only; omega
    case r3 => exact .same (.same (.same (.same (.same (.same (.same (.same (.same (.same (.un (LeR.refl _)))))))))))
    case r4 => walk_at "S p"
    case r5 =>
      rintro j ⟨gb, gg, ggl, gt, gli, ghe⟩ io2 hj hI hio K2 hK2
      refine hI _ ?_
      clear hI
      intro r1 r2 r3 r4 r5 r6 r7
      dsimp only at r1 r2 r3 r4 r5 r6 r7 ⊢
      have hA4 : boxA B (io2 :: R2) := boxA_cons (b := b3) hA3 hio
      with_reducible refine' SS_untup (names := [(Str.ofString "gap", _), (Str.ofString "more", _)]) (fvs := fun x => x.ws) (fVs := fun x => [.str x.g, .int x.m]) (EC_call gf_law_gap ?s1 ?s2 ?s3 (law_gap_c hA4 r1) ?s4) ?s5 ?s6 ?s7 ?s8 ?s9 ?sa ?sb ?_
      case s2 => walk_at "S a"
      case s1 => kernel_rfl
      case s3 => exact rfl
      case s4 => exact rfl
      case s5 => exact fun _ => .tail _ (.tail _ (.head _))
      case s6 => exact fun _ h => h.2.1
      case s7 => exact fun _ => rfl
      case s8 => exact fun _ => .cons (by walk_at "S p") (.cons (by walk_at "S p") .nil)
      case s9 => exact rfl
      case sa => exact rfl
      case sb => kernel_rfl
      rintro ⟨ga, gb2, gws, xg, mg⟩ ⟨t1, -, t3, -⟩
      dsimp only at t1 t3 ⊢
      have hgl := t3.len
      have hgp := t3.pos
      walk_at "S s"
      walk_at "S n"
      refine hK2 ⟨gb2, gg ++ xg.cps.toList, ggl + mg, gt ++ xg, gli + mg, ghe || decide (0 < (mg : Int))⟩ _ _ (fun C f => f t1 ?u1 ?u2 ?u3 ?u4 ?u5 ?u6) ?u7 mem_io
      case u1 => rw [app_cps, r2, List.append_assoc, List.append_assoc]
      case u2 => dsimp only; rw [app_len]; omega
      case u3 => dsimp only; rw [r4, Int.natCast_add, ← Int.add_assoc]
      case u4 => dsimp only; rw [r5]; exact he_or
      case u5 => exact fun h => absurd h (Nat.succ_ne_zero _)
      case u6 => exact fun _ => gap_on r6 r7 t3
      case u7 => exact .same (.same (.same (.same (.same (.same (.same (.same (.same (.same (.un (.un (.un (LeR.refl _)))))))))))))
    case r6 =>
      rintro ⟨gb, gg, ggl, gt, gli, ghe⟩ hI
      refine hI _ ?_
      clear hI
      intro r1 r2 r3 r4 r5 r6 r7
      dsimp only at r1 r2 r3 r4 r5 r6 r7 ⊢
      walk_at "S n"
      have hr : (⟨kd, tv, line, he, (text.length : Int), (text.length : Int) + tx.length, oo, pp⟩ : RowV) = ⟨kd, tv, endLine its 1, endHe its false, 0 + ((lay its).length : Int), 0 + ((lay its).length : Int) + tx.length, oo, pp⟩ := by
        rw [← p5, ← p6, ← p3, ← str_len, Int.zero_add]
      refine hK' ⟨gb, its ++ [⟨kd, tv, tx, oo, pp, mm, gg, ggl⟩], (ra, tupO rvs) :: rows, vs ++ [Value.ref ra], nd + 1, gt, gli, ghe⟩ _ _ (fun C f => f r1 ?v1 ?v2 ?v3 ?v4 ?v5 ?v6 ?v7 hnd) ?v8 ?v9
      case v1 =>
        intro it hit
        rcases List.mem_append.mp hit with h | h
        · exact p2 it h
        · rw [List.mem_singleton.mp h]; exact ⟨q4, r7 (by omega)⟩
      case v2 => rw [lay_snoc]; exact r2
      case v3 => dsimp only; omega
      case v4 => rw [endLine_snoc, ← p5]; exact r4
      case v5 => rw [endHe_snoc]; exact r5
      case v6 =>
        rw [rowsOf_snoc, ← hr]
        exact p7.snoc hr1
      case v7 => rw [List.length_append, List.length_singleton, p8]
      case v8 => exact .same (.same (.same (.same (.same (.same (.same (.same (.un (.un (LeR.refl _))))))))))
      case v9 =>
        subst hR2
        refine List.forall_mem_cons.mpr ⟨?_, List.forall_mem_cons.mpr ⟨?_, List.forall_mem_cons.mpr ⟨?_, List.forall_mem_cons.mpr ⟨?_, List.forall_mem_cons.mpr ⟨?_, fun p hp => ?_⟩⟩⟩⟩⟩ <;> repeat (first | with_reducible exact List.mem_cons_self | with_reducible assumption | with_reducible refine List.mem_cons_of_mem _ ?_)
  case j9 =>
    clear hA0 nbi hw24 hW1 h1 h2 hI hsc hlen
    rintro a ⟨box, its, rows, vs, nd, text, line, he⟩ hI
    refine hI _ ?_
    clear hI
    intro p1 p2 p3 p4 p5 p6 p7 p8 p9
    dsimp only at p1 p2 p3 p4 p5 p6 p7 p8 p9 ⊢
    clear p1
    have hnd : (du :: rows.map Prod.fst).Nodup := (List.nodup_cons.mp (List.nodup_cons.mp (List.nodup_cons.mp p9).2).2).2
    clear p9
    with_reducible refine' SS_setC (EC_call gf_lexer ?w1 ?w2 ?w3 lexer_c ?w4) ?w5 ?w6 ?_
    case w2 => walk_at "S a"
    case w1 => kernel_rfl
    case w3 => exact rfl
    case w4 => exact rfl
    case w5 => exact rfl
    case w6 => exact fun _ => by walk_at "S p"
    rintro ⟨J, ta0, tl0⟩ ⟨hT, hx, hf⟩
    dsimp only at hT hx hf ⊢
    subst hT
    have hA : lexA J ((du, PySem.W.listOf vs.toArray nd) :: rows) := by
      have h4 : ∀ x ∈ du :: rows.map Prod.fst, @LT.lt Nat _ x J.dx ∧ @LT.lt Nat _ x J.x := fun x hx => by
        obtain ⟨p, hp, rfl⟩ := mem_adr (n := (du, PySem.W.listOf vs.toArray nd) :: rows) hx
        exact hf p (.tail _ (.tail _ hp))
      refine List.nodup_cons.mpr ⟨fun h => ?_, List.nodup_cons.mpr ⟨fun h => Nat.lt_irrefl _ (h4 _ h).1, hnd⟩⟩
      rcases List.mem_cons.mp h with e | h
      · exact hx e
      · exact Nat.lt_irrefl _ (h4 _ h).2
    clear hf hx hnd
    with_reducible refine' SS_sub (n2 := lexL J 0 1 ta0 tl0 ((du, PySem.W.listOf vs.toArray nd) :: rows)) ?x1 ?_
    case x1 => exact List.forall_mem_cons.mpr ⟨.head _, List.forall_mem_cons.mpr ⟨.tail _ (.head _), fun p hp => .tail _ (.tail _ (.tail _ (.tail _ hp)))⟩⟩
    have hl6 : J.T.length ≤ 1000000 := by omega
    have hcd : ∀ c ∈ J.T.cps.toList, c < 1114112 := by rw [p3]; exact lay_codes p2
    with_reducible refine' SS_forL (X := Unit) (fa := fun _ => du) (fvs := fun _ => vs) (fk := fun _ => nd) (EC_p ?x2) ?x3 ?_
    case x2 => walk_at "S e"
    case x3 => exact fun _ => rfl
    rintro ⟨⟩ -
    refine ⟨CS2, fun _ => mkL sc B.bx du J.T line he .un .un .un .un .un (.is (.ref J.x)) .un .un .un, fun i _ => mkL sc B.bx du J.T line he .un .un .un .un .un (.is (.ref J.x)) (.is (vs.getD i .none)) .un .un, fun y => lexL J y.pos y.ln y.ta y.tl ((du, PySem.W.listOf vs.toArray nd) :: rows), fun y io => lexL J y.pos y.ln y.ta y.tl (io :: (du, PySem.W.listOf vs.toArray nd) :: rows),
      fun i y => Stands J.T y.pos y.k y.n y.rem ∧ rowsOf y.rem (y.pos + y.k) (y.ln + y.n) (decide (0 < y.n)) = (rowsOf its 0 1 false).drop i ∧ endLine y.rem (y.ln + y.n) = endLine its 1 ∧ endHe y.rem (decide (0 < y.n)) = endHe its false, fun i => .is (vs.getD i .none), ⟨0, ta0, 1, tl0, 0, 0, its⟩,
      ⟨⟨stands_init p3 p2, rfl, rfl, rfl⟩, LeR.refl _, fun _ h => h, fun _ => .tail _ (.tail _ (.head _)), fun _ => rfl, fun _ _ => mem_rot2, fun i v hv => ?y1, fun _ _ => ?y2, ?y3, ?y4⟩⟩
    case y1 =>
      show v = vs.getD i .none
      rw [List.getD_eq_getElem?_getD, hv]; rfl
    case y2 => walk_at "S p"
    case y3 =>
      rintro i ⟨pos, ta, ln, tl, kk, nn, rem⟩ io hi ⟨hS, hrw, hre, hrh⟩ hio K' hK'
      dsimp only at hS hrw hre hrh ⊢
      obtain ⟨ra, rws, r, hv, hr, hrm, hra⟩ := p7.at hi
      rw [List.getD_eq_getElem?_getD, hv]
      have hne : rem ≠ [] := by
        rintro rfl
        have h0 : ((rowsOf its 0 1 false).drop i).length = 0 := by rw [← hrw]; rfl
        have := (List.getElem?_eq_some_iff.mp hr).1
        rw [List.length_drop] at h0
        omega
      obtain ⟨⟨kd, tv, tx, oo, pp, mm, gap, gl⟩, rs, rfl⟩ := List.exists_cons_of_ne_nil hne
      have hrow : r = ⟨kd, tv, ln + nn, decide (0 < nn), pos + kk, pos + kk + tx.length, oo, pp⟩ ∧ rowsOf rs (pos + kk + tx.length + gap.length) (ln + nn + mm + gl) (decide (0 < gl)) = (rowsOf its 0 1 false).drop (i + 1) := by
        have h1 := List.drop_eq_getElem_cons (List.getElem?_eq_some_iff.mp hr).1
        rw [(List.getElem?_eq_some_iff.mp hr).2, ← hrw] at h1
        have h2 := List.cons.inj h1
        exact ⟨h2.1.symm, h2.2⟩
      obtain ⟨rfl, hrw2⟩ := hrow
      dsimp only [endLine, endHe] at hre hrh
      dsimp only [rowVs] at hra
      have hrun := stands_run hS
      have hnx := stands_next hS
      dsimp only at hrun hnx
      have hk1 := hS.pos0
      have hk2 := hS.posk
      have hk3 : pos ≤ J.T.length := by omega
      have hk4 := hS.skip
      have hA3 : lexA J (io :: (du, PySem.W.listOf vs.toArray nd) :: rows) := nod_ins (pre := [J.x, J.dx]) hA (fun x hx => by
        obtain ⟨p, hp, rfl⟩ := mem_adr (n := lexL J 0 1 ta0 tl0 ((du, PySem.W.listOf vs.toArray nd) :: rows)) hx
        exact hio p hp)
      clear hio hS hne hrw hr hi
      with_reducible refine' SS_setC (EC_meth0 ?z1 gl_next (next_c hA3 hl6 hcd hk1 hk3 hk2 hk4 hrun) ?z2 ?z3) ?z4 ?z5 ?_
      case z1 => walk_at "S e"
      case z2 => exact rfl
      case z3 => exact rfl
      case z4 => exact rfl
      case z5 => exact fun _ => by walk_at "S p"
      rintro ⟨Kt, ta1, tl1, t1, t2, t3, t4, t5⟩ -
      dsimp only [nxL, Option.getD]
      have T : TokAt (lexL J (pos + kk + tx.length) (ln + nn + mm) ta1 tl1 (tokL Kt (.str kd t1) (tv.val t2) (.int (ln + nn) t3) (.bool (decide (0 < nn))) (.int (pos + kk) t4) (.int (pos + kk + tx.length) t5) (.bool oo) (.bool pp) (io :: (du, PySem.W.listOf vs.toArray nd) :: rows))) Kt (.str kd t1) (tv.val t2) (.int (ln + nn) t3) (.bool (decide (0 < nn))) (.int (pos + kk) t4) (.int (pos + kk + tx.length) t5) (.bool oo) (.bool pp) := ⟨.tail _ (.tail _ (.head _)), .tail _ (.tail _ (.tail _ (.head _)))⟩
      have hrm2 : (ra, tupO rws) ∈ lexL J (pos + kk + tx.length) (ln + nn + mm) ta1 tl1 (tokL Kt (.str kd t1) (tv.val t2) (.int (ln + nn) t3) (.bool (decide (0 < nn))) (.int (pos + kk) t4) (.int (pos + kk + tx.length) t5) (.bool oo) (.bool pp) (io :: (du, PySem.W.listOf vs.toArray nd) :: rows)) := .tail _ (.tail _ (.tail _ (.tail _ (.tail _ (.tail _ hrm)))))
      have hsub : ∀ p ∈ io :: lexL J (pos + kk + tx.length) (ln + nn + mm) ta1 tl1 ((du, PySem.W.listOf vs.toArray nd) :: rows), p ∈ lexL J (pos + kk + tx.length) (ln + nn + mm) ta1 tl1 (tokL Kt (.str kd t1) (tv.val t2) (.int (ln + nn) t3) (.bool (decide (0 < nn))) (.int (pos + kk) t4) (.int (pos + kk + tx.length) t5) (.bool oo) (.bool pp) (io :: (du, PySem.W.listOf vs.toArray nd) :: rows)) := by
        refine List.forall_mem_cons.mpr ⟨?_, List.forall_mem_cons.mpr ⟨?_, List.forall_mem_cons.mpr ⟨?_, List.forall_mem_cons.mpr ⟨?_, fun p hp => ?_⟩⟩⟩⟩ <;> repeat (first | with_reducible exact List.mem_cons_self | with_reducible assumption | with_reducible refine List.mem_cons_of_mem _ ?_)
      generalize lexL J (pos + kk + tx.length) (ln + nn + mm) ta1 tl1 (tokL Kt (.str kd t1) (tv.val t2) (.int (ln + nn) t3) (.bool (decide (0 < nn))) (.int (pos + kk) t4) (.int (pos + kk + tx.length) t5) (.bool oo) (.bool pp) (io :: (du, PySem.W.listOf vs.toArray nd) :: rows)) = n1 at T hrm2 hsub
      with_reducible refine' SS_setC (EC_tup (Vs := [.str kd, tv.av, .int (ln + nn), .is (.bool (decide (0 < nn))), .int (pos + kk), .int (pos + kk + tx.length)]) ?aa1 ?aa2) ?aa3 ?aa4 ?_
      case aa1 =>
        with_reducible refine' EA_cons (at_kind T ?ab1 has_s hd_s) ?ac1 (EA_cons (at_value T ?ab2 (tv_has _ _) (tv_handed _ _)) ?ac2 (EA_cons (at_line T ?ab3 has_i hd_i) ?ac3 (EA_cons (at_isb T ?ab4 has_v hd_b) ?ac4 (EA_cons (at_start T ?ab5 has_i hd_i) ?ac5 (EA_cons (at_end T ?ab6 has_i hd_i) ?ac6 EA_nil)))))
        case ab1 => walk_at "S e"
        case ab2 => walk_at "S e"
        case ab3 => walk_at "S e"
        case ab4 => walk_at "S e"
        case ab5 => walk_at "S e"
        case ab6 => walk_at "S e"
        case ac1 => exact rfl
        case ac2 => exact rfl
        case ac3 => exact rfl
        case ac4 => exact rfl
        case ac5 => exact rfl
        case ac6 => exact rfl
      case aa2 => exact rfl
      case aa3 => exact rfl
      case aa4 => exact fun _ => by walk_at "S p"
      rintro ⟨fd, fvs⟩ ⟨hfv, -⟩
      dsimp only at hfv ⊢
      have T3 : TokAt ((fd, tupO fvs) :: n1) Kt (.str kd t1) (tv.val t2) (.int (ln + nn) t3) (.bool (decide (0 < nn))) (.int (pos + kk) t4) (.int (pos + kk + tx.length) t5) (.bool oo) (.bool pp) := ⟨.tail _ T.i, .tail _ T.d⟩
      have hrm3 : (ra, tupO rws) ∈ (fd, tupO fvs) :: n1 := .tail _ hrm2
      have hc6 : ([.str kd, tv.av, .int (ln + nn), .is (.bool (decide (0 < nn))), .int (pos + kk), .int (pos + kk + tx.length)] : List AV).all AV.cmp = true := by
        simp only [List.all_cons, List.all_nil, tv_cmp]; rfl
      with_reducible refine' SS_ifr (TT_or3 (TT_tne (ET_name ?ba1 ?ba2 hfv) ?ba3 ?ba4 hc6) ?bb ?bc) ?bd ?_
      case ba1 => walk_at "S e"
      case ba2 => exact .head _
      case ba3 =>
        intro n2 hn
        with_reducible refine' ET_upto (k := 6) ?bx1 (hn _ hrm3) hra ?bx2 ?bx3 ?bx4 ?bx5 ?bx6
        case bx1 => walk_at "S e"
        case bx2 => exact EP_int
        case bx3 => exact rfl
        case bx4 => exact rfl
        case bx5 => exact fun _ _ => rfl
        case bx6 => exact fun _ => by with_unfolding_all rfl
      case ba4 => rfl
      case bb =>
        intro _
        with_reducible refine' TT_tne (Vs := [.is (.bool oo), .is (.bool pp)]) (ET_tup (EA_cons (at_octal T3 ?by1 has_v hd_b) ?by2 (EA_cons (at_plain T3 ?by3 has_v hd_b) ?by4 EA_nil)) ?by5) ?by6 ?by7 ?by8
        case by1 => walk_at "S e"
        case by3 => walk_at "S e"
        case by2 => exact rfl
        case by4 => exact rfl
        case by5 => exact rfl
        case by6 =>
          intro n2 hn
          with_reducible refine' ET_from (k := 6) ?bw1 (hn _ hrm3) hra ?bw2 ?bw3 ?bw4 ?bw5 ?bw6 ?bw7
          case bw1 => walk_at "S e"
          case bw2 => exact EP_int
          case bw3 => exact rfl
          case bw4 => exact rfl
          case bw5 => exact rfl
          case bw6 => exact fun _ _ => rfl
          case bw7 => exact fun _ => by with_unfolding_all rfl
        case by7 => rfl
        case by8 => exact rfl
      case bc =>
        intro _ _
        with_reducible refine' TT_tyne (EP_typeV (V := tv.av) ?bu1 (at_value T3 ?bu2 (tv_has _ _) (tv_handed _ _)) ?bu3 (fun _ h s => tv_ty h s) (tv_nb tv)) (EP_typeV (V := tv.av) ?bu4 (EP_titem (j := 1) ?bu5 EP_int hrm3 hra ?bu6 ?bu7 ?bu8 ?bu9 ?bua) ?bub (fun _ h s => tv_ty h s) (tv_nb tv)) (tv_meta tv)
        case bu1 => kernel_rfl
        case bu2 => walk_at "S e"
        case bu3 => exact rfl
        case bu4 => kernel_rfl
        case bu5 => walk_at "S e"
        case bu6 => rfl
        case bu7 => decide
        case bu8 => decide
        case bu9 => rfl
        case bua => exact fun _ => rfl
        case bub => exact rfl
      case bd =>
        rintro (h | ⟨-, h | ⟨-, h⟩⟩)
        · exact h.elim
        · exact h.elim
        · exact h.elim
      intro _
      walk_at "S n"
      refine hK' ⟨pos + kk + tx.length, ta1, ln + nn + mm, tl1, gap.length, gl, rs⟩ _ _ ⟨hnx, hrw2, hre, hrh⟩ ?bt1 (fun p hp => .tail _ (hsub p hp))
      case bt1 => exact .same (.same (.same (.same (.same (.same (.same (.same (.same (.same (.same (.same (.same (.same (.un (.un (.un (LeR.refl _)))))))))))))))))
    case y4 =>
      rintro ⟨pos, ta, ln, tl, kk, nn, rem⟩ ⟨hS, hrw, hre, hrh⟩
      dsimp only at hS hrw hre hrh ⊢
      have hlr : (rowsOf its 0 1 false).length = 5 := by rw [← p7.len]; exact p8
      have hrem : rem = [] := by
        have h0 : (rowsOf rem (pos + kk) (ln + nn) (decide (0 < nn))).length = 0 := by rw [hrw, List.length_drop, hlr, p8]
        cases rem with
        | nil => rfl
        | cons a b => cases h0
      subst hrem
      dsimp only [endLine, endHe] at hre hrh
      obtain ⟨hE, hEn⟩ := stands_end hS
      have hk1 := hS.pos0
      have hk2 := hS.posk
      have hk3 : pos ≤ J.T.length := by omega
      have hk4 := hS.skip
      have q0 : (0 : Int) ≤ pos + kk := by omega
      have hj1 : ln + nn = line := by rw [p5]; exact hre
      have hj2 : decide (0 < nn) = he := by rw [p6]; exact hrh
      have hq4 : Skip (suf J.T (pos + kk)) 0 0 := by rw [hS.rest]; exact lay_skip (its := []) (fun _ h => nomatch h)
      have hE2 : hd1 (suf J.T (pos + kk + ((0 : Nat) : Int))) = -1 := by rw [Int.natCast_zero, Int.add_zero]; exact hE
      have hA' : ∀ (y : NxX) (a1 a2 a3 a4 a5 a6 a7 a8 : Value), tokA J y.J ((du, PySem.W.listOf vs.toArray nd) :: rows) → lexA J (tokL y.J a1 a2 a3 a4 a5 a6 a7 a8 ((du, PySem.W.listOf vs.toArray nd) :: rows)) := fun _ _ _ _ _ _ _ _ _ h => h
      with_reducible refine' SS_tupC (EC_meth0 ?ca1 gl_next (next_end_c hA hl6 hk1 hk3 hk4 hE) ?ca2 ?ca3) (fun y hy => EC_meth0 ?ca4 gl_next (next_end_c (k := 0) (n := 0) (hA' y _ _ _ _ _ _ _ _ hy) hl6 q0 hk2 hq4 hE2) ?ca5 ?ca6) ?ca7 ?ca8 (fun _ _ => ?ca9) (fun _ _ => ?caa) ?cab ?cac ?_
      case ca1 => walk_at "S e"
      case ca2 => exact rfl
      case ca3 => exact rfl
      case ca4 => walk_at "S e"
      case ca5 => exact rfl
      case ca6 => exact rfl
      case ca7 => exact rfl
      case ca8 => exact rfl
      case ca9 => walk_at "S p"
      case caa => walk_at "S p"
      case cab => exact rfl
      case cac => kernel_rfl
      rintro ⟨K1, b1, b2, b3, b4, b5, b6, b7⟩ ⟨K2, c1, c2, c3, c4, c5, c6, c7⟩ - -
      dsimp only [nxL, Tv.val]
      have T1 : TokAt (lexL J (pos + kk + ((0 : Nat) : Int)) (ln + nn + ((0 : Nat) : Int)) c1 c2 (tokL K2 (.str (Str.ofString "end") c3) (.str (Str.ofString "") c4) (.int (ln + nn + ((0 : Nat) : Int)) c5) (.bool (decide (0 < 0))) (.int (pos + kk + ((0 : Nat) : Int)) c6) (.int (pos + kk + ((0 : Nat) : Int)) c7) (.bool false) (.bool true) (tokL K1 (.str (Str.ofString "end") b3) (.str (Str.ofString "") b4) (.int (ln + nn) b5) (.bool (decide (0 < nn))) (.int (pos + kk) b6) (.int (pos + kk) b7) (.bool false) (.bool true) ((du, PySem.W.listOf vs.toArray nd) :: rows)))) K1 (.str (Str.ofString "end") b3) (.str (Str.ofString "") b4) (.int (ln + nn) b5) (.bool (decide (0 < nn))) (.int (pos + kk) b6) (.int (pos + kk) b7) (.bool false) (.bool true) := ⟨.tail _ (.tail _ (.tail _ (.tail _ (.head _)))), .tail _ (.tail _ (.tail _ (.tail _ (.tail _ (.head _)))))⟩
      have T2 : TokAt (lexL J (pos + kk + ((0 : Nat) : Int)) (ln + nn + ((0 : Nat) : Int)) c1 c2 (tokL K2 (.str (Str.ofString "end") c3) (.str (Str.ofString "") c4) (.int (ln + nn + ((0 : Nat) : Int)) c5) (.bool (decide (0 < 0))) (.int (pos + kk + ((0 : Nat) : Int)) c6) (.int (pos + kk + ((0 : Nat) : Int)) c7) (.bool false) (.bool true) (tokL K1 (.str (Str.ofString "end") b3) (.str (Str.ofString "") b4) (.int (ln + nn) b5) (.bool (decide (0 < nn))) (.int (pos + kk) b6) (.int (pos + kk) b7) (.bool false) (.bool true) ((du, PySem.W.listOf vs.toArray nd) :: rows)))) K2 (.str (Str.ofString "end") c3) (.str (Str.ofString "") c4) (.int (ln + nn + ((0 : Nat) : Int)) c5) (.bool (decide (0 < 0))) (.int (pos + kk + ((0 : Nat) : Int)) c6) (.int (pos + kk + ((0 : Nat) : Int)) c7) (.bool false) (.bool true) := ⟨.tail _ (.tail _ (.head _)), .tail _ (.tail _ (.tail _ (.head _)))⟩
      generalize lexL J (pos + kk + ((0 : Nat) : Int)) (ln + nn + ((0 : Nat) : Int)) c1 c2 _ = n1 at T1 T2 ⊢
      with_reducible refine' SS_ifr (TT_tne (Vs := [.str (Str.ofString "end"), .str (Str.ofString ""), .int (ln + nn), .is (.bool (decide (0 < nn))), .int (pos + kk)]) (ET_tup (EA_cons (at_kind T1 ?da1 has_s hd_s) ?db1 (EA_cons (at_value T1 ?da2 has_s hd_s) ?db2 (EA_cons (at_line T1 ?da3 has_i hd_i) ?db3 (EA_cons (at_isb T1 ?da4 has_v hd_b) ?db4 (EA_cons (at_start T1 ?da5 has_i hd_i) ?db5 EA_nil))))) ?dc) ?dd ?de ?df) ?dg ?_
      case da1 => walk_at "S e"
      case da2 => walk_at "S e"
      case da3 => walk_at "S e"
      case da4 => walk_at "S e"
      case da5 => walk_at "S e"
      case db1 => exact rfl
      case db2 => exact rfl
      case db3 => exact rfl
      case db4 => exact rfl
      case db5 => exact rfl
      case dc => exact rfl
      case dd =>
        intro n2 hn
        with_reducible refine' ET_tup ?dh ?di
        case dh => walk_at "S a"
        case di => exact rfl
      case de => rw [hj1, hj2, hEn]
      case df => exact rfl
      case dg => exact fun h => h.elim
      intro _
      with_reducible refine' SS_ret (EP_teq (Vs := [.str (Str.ofString "end"), .int (pos + kk + ((0 : Nat) : Int)), .is (.bool (decide (0 < 0)))]) (ET_tup (EA_cons (at_kind T2 ?ea1 has_s hd_s) ?eb1 (EA_cons (at_start T2 ?ea2 has_i hd_i) ?eb2 (EA_cons (at_isb T2 ?ea3 has_v hd_b) ?eb3 EA_nil))) ?ec1) ?ed1 ?ee1 ?ef1) (hR _)
      case ea1 => walk_at "S e"
      case ea2 => walk_at "S e"
      case ea3 => walk_at "S e"
      case eb1 => exact rfl
      case eb2 => exact rfl
      case eb3 => exact rfl
      case ec1 => exact rfl
      case ed1 =>
        intro n2 hn
        with_reducible refine' ET_tup ?eh ?ei
        case eh => walk_at "S a"
        case ei => exact rfl
      case ee1 => rw [Int.natCast_zero, Int.add_zero, hEn]; rfl
      case ef1 => exact rfl
end Mine
def Mine.fin.tw2415902012162501839 : Nat := 0
def Mine.fin.tw3211687289105081006 : Nat := 0
def Mine.fin.tw11587955951900863698 : Nat := 0
def Mine.fin.tw17717364068325071970 : Nat := 0
def Mine.fin.tw7930893340574950883 : Nat := 0
def Mine.fin.tw4312942655851389009 : Nat := 0
def Mine.fin.tw15688172546075569117 : Nat := 0
def Mine.fin.tw4209717502836232480 : Nat := 0
def Mine.fin.tw876206183137641144 : Nat := 0
def Mine.fin.tw2589697916480095131 : Nat := 0
def Mine.fin.tw15216479089859931547 : Nat := 0
def Mine.fin.tw11454252539852477091 : Nat := 0
def Mine.fin.tw13337293482115323266 : Nat := 0
def Mine.fin.tw7439575562449295702 : Nat := 0
def Mine.fin.tw17425937995043322649 : Nat := 0
def Mine.fin.tw16175276709679454751 : Nat := 0
def Mine.fin.tw7976502392129159676 : Nat := 0
def Mine.fin.tw16229209127682248589 : Nat := 0
def Mine.fin.tw17149882997012438147 : Nat := 0
def Mine.fin.tw7468727024169554154 : Nat := 0
def Mine.fin.tw17896612028031085017 : Nat := 0
def Mine.fin.tw3955986520655104412 : Nat := 0
def Mine.fin.tw428092273266315144 : Nat := 0
def Mine.fin.tw5805905742469029177 : Nat := 0
def Mine.fin.tw16906536467411238026 : Nat := 0
def Mine.fin.tw9659392335347125073 : Nat := 0
def Mine.fin.tw1625080806587739848 : Nat := 0
def Mine.fin.tw16510490156224867327 : Nat := 0
def Mine.fin.tw3199103547748192838 : Nat := 0
def Mine.fin.tw4928979718650693569 : Nat := 0
def Mine.fin.tw220677088936066577 : Nat := 0
def Mine.fin.tw17416127249078093707 : Nat := 0
def Mine.fin.tw14793013804824869981 : Nat := 0
def Mine.fin.tw6341822008880759003 : Nat := 0
def Mine.fin.tw2067723777617599883 : Nat := 0
def Mine.fin.tw14449560505687523246 : Nat := 0
def Mine.fin.tw1544503264643628384 : Nat := 0
def Mine.fin.tw13199158710529813207 : Nat := 0
def Mine.fin.tw4395496475954998127 : Nat := 0
def Mine.fin.tw15566928917628492161 : Nat := 0
def Mine.fin.tw16252508478716706905 : Nat := 0
def Mine.fin.tw15523922138108190246 : Nat := 0
def Mine.fin.tw9001875181463519149 : Nat := 0
def Mine.fin.tw7830629276484211593 : Nat := 0
def Mine.fin.tw17430205856086898164 : Nat := 0
def Mine.fin.tw4588413851689716618 : Nat := 0
def Mine.fin.tw10852849658779182186 : Nat := 0
def Mine.fin.tw1128348596072947701 : Nat := 0
def Mine.fin.tw18295790063311454060 : Nat := 0
def Mine.fin.tw15309079848183770524 : Nat := 0
def Mine.fin.tw17130245016438642246 : Nat := 0
def Mine.fin.tw3112429581023547943 : Nat := 0
def Mine.fin.tw2462912638960843985 : Nat := 0
def Mine.fin.tw828056024939588000 : Nat := 0
def Mine.fin.tw13489014295062590020 : Nat := 0
def Mine.fin.tw13574545013463194659 : Nat := 0
def Mine.fin.tw17123178472405020103 : Nat := 0
def Mine.fin.tw4878226113927451544 : Nat := 0
def Mine.fin.tw6766378078585498003 : Nat := 0
def Mine.fin.tw4769821431679368130 : Nat := 0
def Mine.fin.tw16205109500356779066 : Nat := 0
def Mine.fin.tw5250828734511838712 : Nat := 0
def Mine.fin.tw7380833856163905736 : Nat := 0
def Mine.fin.tw3506512066687448480 : Nat := 0
def Mine.fin.tw5962627729488381771 : Nat := 0
def Mine.fin.tw3599858809825778643 : Nat := 0
def Mine.fin.tw12347537446847802165 : Nat := 0
def Mine.fin.tw3105451386036433885 : Nat := 0
def Mine.fin.tw1545086475593560577 : Nat := 0
def Mine.fin.tw6718411051458867188 : Nat := 0
def Mine.fin.tw13360279666012451719 : Nat := 0
def Mine.fin.tw10907391636593693970 : Nat := 0
def Mine.fin.tw803859442106103436 : Nat := 0
def Mine.fin.tw14075178694198228753 : Nat := 0
def Mine.fin.tw1560641971993327685 : Nat := 0
def Mine.fin.tw8261031787919469916 : Nat := 0
def Mine.fin.tw10936777179133785780 : Nat := 0
def Mine.fin.tw9725021084223525626 : Nat := 0
def Mine.fin.tw3598329298470268980 : Nat := 0
def Mine.fin.tw14333544728242365436 : Nat := 0
def Mine.fin.tw14347400895652799225 : Nat := 0
def Mine.fin.tw15234240111613058569 : Nat := 0
def Mine.fin.tw9997704412844104603 : Nat := 0
def Mine.fin.tw13021059552284102479 : Nat := 0
def Mine.fin.tw1080700006314346644 : Nat := 0
def Mine.fin.tw4171678462856256454 : Nat := 0
def Mine.fin.tw7547296005191728479 : Nat := 0
def Mine.fin.tw3974152918291533672 : Nat := 0
def Mine.fin.tw9221430085559818832 : Nat := 0
def Mine.fin.tw10580198807604790814 : Nat := 0
def Mine.fin.tw1921391257341544841 : Nat := 0
def Mine.fin.tw3432132637015033673 : Nat := 0
def Mine.fin.tw4100293265295638779 : Nat := 0
def Mine.fin.tw3028926083550364057 : Nat := 0
def Mine.fin.tw14578271805448956485 : Nat := 0
def Mine.fin.tw5792265106169080782 : Nat := 0
def Mine.fin.tw4043148821406017626 : Nat := 0
def Mine.fin.tw11192643925408225281 : Nat := 0
def Mine.fin.tw2910385600587045654 : Nat := 0
def Mine.fin.tw6449190631224713292 : Nat := 0
def Mine.fin.tw14279960228734115912 : Nat := 0
def Mine.fin.tw15564276425815640635 : Nat := 0
def Mine.fin.tw9218923581257491847 : Nat := 0
def Mine.fin.tw982560976839675504 : Nat := 0
def Mine.fin.tw9363291351745731410 : Nat := 0
def Mine.fin.tw17186005699333237546 : Nat := 0
def Mine.fin.tw14679806638718605512 : Nat := 0
def Mine.fin.tw10782327089294195420 : Nat := 0
def Mine.fin.tw4326780796455107134 : Nat := 0
def Mine.fin.tw12847644182280273618 : Nat := 0
def Mine.fin.tw12946824338688289833 : Nat := 0
def Mine.fin.tw10818889477481085253 : Nat := 0
def Mine.fin.tw12711679700452659978 : Nat := 0
def Mine.fin.tw7334248845499685764 : Nat := 0
def Mine.fin.tw8416529770105884409 : Nat := 0
def Mine.fin.tw3810570522144960214 : Nat := 0
def Mine.fin.tw6144012678527597917 : Nat := 0
def Mine.fin.tw1422313219903470601 : Nat := 0
def Mine.fin.tw6498334528663615478 : Nat := 0
def Mine.fin.tw8643116662766533202 : Nat := 0
def Mine.fin.tw15201286185872193147 : Nat := 0
def Mine.fin.tw9746214513668125432 : Nat := 0
def Mine.fin.tw16503470079419688546 : Nat := 0
def Mine.fin.tw14541005305830221311 : Nat := 0
def Mine.fin.tw10279692637995926009 : Nat := 0
def Mine.fin.tw4040260094072895976 : Nat := 0
def Mine.fin.tw7786677914034681988 : Nat := 0
def Mine.fin.tw6577878126316647860 : Nat := 0
def Mine.fin.tw2789213428527533208 : Nat := 0
def Mine.fin.tw612862322836996645 : Nat := 0
def Mine.fin.tw4218790737952374519 : Nat := 0
def Mine.fin.tw14254621764821748828 : Nat := 0
def Mine.fin.tw7613945582906998725 : Nat := 0
def Mine.fin.tw4924110625330727750 : Nat := 0
def Mine.fin.tw1088692219920020602 : Nat := 0
def Mine.fin.tw14134379338385194387 : Nat := 0
def Mine.fin.tw7613857476909055813 : Nat := 0
def Mine.fin.tw18105942590061964161 : Nat := 0
def Mine.fin.tw1713156846745171867 : Nat := 0
def Mine.fin.tw12135189313929291683 : Nat := 0
def Mine.fin.tw6515953530934532768 : Nat := 0
def Mine.fin.tw17570709534508481193 : Nat := 0
def Mine.fin.tw17041991840579044601 : Nat := 0
def Mine.fin.tw7890596953891613788 : Nat := 0
def Mine.fin.tw3222278782482380304 : Nat := 0
def Mine.fin.tw12669758225909598566 : Nat := 0
def Mine.fin.tw12876064707754696378 : Nat := 0
def Mine.fin.tw17698704350827878285 : Nat := 0
def Mine.fin.tw4365726373996958463 : Nat := 0
def Mine.fin.tw2656788454239962097 : Nat := 0
def Mine.fin.tw1035503724928835527 : Nat := 0
def Mine.fin.tw11227884535216515135 : Nat := 0
def Mine.fin.tw6766580051018981234 : Nat := 0
def Mine.fin.tw15533503492667675913 : Nat := 0
def Mine.fin.tw5071919506433949198 : Nat := 0
def Mine.fin.tw9917203430921899224 : Nat := 0
def Mine.fin.tw17132207802985990308 : Nat := 0
def Mine.fin.tw14855157385224911753 : Nat := 0
def Mine.fin.tw9746901515087519452 : Nat := 0
def Mine.fin.tw13093503161671486093 : Nat := 0
def Mine.fin.tw12751662967071866640 : Nat := 0
def Mine.fin.tw9757074474933493440 : Nat := 0
def Mine.fin.tw3767311804947220896 : Nat := 0
def Mine.fin.tw3837020019201816242 : Nat := 0
def Mine.fin.tw5486226609284752418 : Nat := 0
def Mine.fin.tw15675102808854859970 : Nat := 0
def Mine.fin.tw2305881189932309285 : Nat := 0
def Mine.fin.tw6435670951450185984 : Nat := 0
def Mine.fin.tw5073790198343104882 : Nat := 0
def Mine.fin.tw4144819383078699286 : Nat := 0
def Mine.fin.tw11147117730913898307 : Nat := 0
def Mine.fin.tw7716820226725407877 : Nat := 0
def Mine.fin.tw3794220679723124481 : Nat := 0
def Mine.fin.tw2103456241558337223 : Nat := 0
def Mine.fin.tw12284014389350100970 : Nat := 0
def Mine.fin.tw17311274769643918242 : Nat := 0
def Mine.fin.tw11293339424137598113 : Nat := 0
def Mine.fin.tw2503846163805864124 : Nat := 0
def Mine.fin.tw3404873503106905745 : Nat := 0
def Mine.fin.tw3788772014149755174 : Nat := 0
def Mine.fin.tw11154830654865731599 : Nat := 0
def Mine.fin.tw12557769604369416430 : Nat := 0
def Mine.fin.tw14111491100615862519 : Nat := 0
def Mine.fin.tw15399907426655090358 : Nat := 0
def Mine.fin.tw9913140749668108558 : Nat := 0
def Mine.fin.tw6707113841082798463 : Nat := 0
def Mine.fin.tw17861066769153400444 : Nat := 0
def Mine.fin.tw8025084765662995669 : Nat := 0
def Mine.fin.tw16488607150827929282 : Nat := 0
def Mine.fin.tw4768634762848416435 : Nat := 0
def Mine.fin.tw17656766251404061198 : Nat := 0
def Mine.fin.tw7661832156752021035 : Nat := 0
def Mine.fin.tw16103849850496634939 : Nat := 0
def Mine.fin.tw16256441300576474876 : Nat := 0
def Mine.fin.tw8288733244629462318 : Nat := 0
def Mine.fin.tw12105171945263650130 : Nat := 0
def Mine.fin.tw17067295170570645592 : Nat := 0
def Mine.fin.tw10829458402184033698 : Nat := 0
def Mine.fin.tw2331231422344091171 : Nat := 0
def Mine.fin.tw12740692763255036000 : Nat := 0
def Mine.fin.tw12550770813317053977 : Nat := 0
def Mine.fin.tw3550807849831375056 : Nat := 0
def Mine.fin.tw7000300075881102575 : Nat := 0
def Mine.fin.tw11061592194353771069 : Nat := 0
def Mine.fin.tw14242707590111362544 : Nat := 0
def Mine.fin.tw16502652511500755 : Nat := 0
def Mine.fin.tw8919302590299486024 : Nat := 0
def Mine.fin.tw4598667867955821814 : Nat := 0
def Mine.fin.tw16798467561266328274 : Nat := 0
def Mine.fin.tw5098551885099359569 : Nat := 0
def Mine.fin.tw6531376189190222733 : Nat := 0
def Mine.fin.tw12180539936304867106 : Nat := 0
def Mine.fin.tw11897717083992391400 : Nat := 0
def Mine.fin.tw13700621096757390547 : Nat := 0
def Mine.fin.tw2824846461999071874 : Nat := 0
def Mine.fin.tw11637692176511229722 : Nat := 0
def Mine.fin.tw3314143786362844604 : Nat := 0
def Mine.fin.tw15741700470354863883 : Nat := 0
def Mine.fin.tw17821466097196317003 : Nat := 0
def Mine.fin.tw846297522682114974 : Nat := 0
def Mine.fin.tw10599938827571368224 : Nat := 0
def Mine.fin.tw8408514402456403777 : Nat := 0
def Mine.fin.tw16903924287465469464 : Nat := 0
def Mine.fin.tw10708223146118651492 : Nat := 0
def Mine.fin.tw17628183408451194143 : Nat := 0
def Mine.fin.tw3683778510129048087 : Nat := 0
def Mine.fin.tw6525817661751114472 : Nat := 0
def Mine.fin.tw10147658903529517814 : Nat := 0
def Mine.fin.tw10567028658651823492 : Nat := 0
def Mine.fin.tw7070210977369740762 : Nat := 0
def Mine.fin.tw7282745182861764756 : Nat := 0
def Mine.fin.tw13177410634674063896 : Nat := 0
def Mine.fin.tw16109372258727991565 : Nat := 0
def Mine.fin.tw10391319463526535247 : Nat := 0
def Mine.fin.tw1209720653154232198 : Nat := 0
def Mine.fin.tw16540275574145912595 : Nat := 0
def Mine.fin.tw6207176494656529804 : Nat := 0
def Mine.fin.tw1635022588487117616 : Nat := 0
def Mine.fin.tw9839346839192117915 : Nat := 0
def Mine.fin.tw7845872953664198349 : Nat := 0
def Mine.fin.tw7822013112032934038 : Nat := 0
def Mine.fin.tw6381419901266130222 : Nat := 0
def Mine.fin.tw12567809125941998234 : Nat := 0
def Mine.fin.tw14210890002308233579 : Nat := 0
def Mine.fin.tw6081921254191324426 : Nat := 0
def Mine.fin.tw3343445320678177929 : Nat := 0
def Mine.fin.tw18082680734076937219 : Nat := 0
def Mine.fin.tw17933470926392208243 : Nat := 0
def Mine.fin.tw744865244796547220 : Nat := 0
def Mine.fin.tw17260493314774615805 : Nat := 0
def Mine.fin.tw7522001649326652513 : Nat := 0
def Mine.fin.tw8947099994592609211 : Nat := 0
def Mine.fin.tw1012361349325877821 : Nat := 0
def Mine.fin.tw7055459427971326715 : Nat := 0
def Mine.fin.tw500868675978126160 : Nat := 0
def Mine.fin.tw12868640280835112553 : Nat := 0
def Mine.fin.tw12291753297600562012 : Nat := 0
def Mine.fin.tw4640724917100965312 : Nat := 0
def Mine.fin.tw16958243865122950064 : Nat := 0
def Mine.fin.tw18195182924450695511 : Nat := 0
def Mine.fin.tw10329872625359487480 : Nat := 0
def Mine.fin.tw14139026862911339306 : Nat := 0
def Mine.fin.tw4013537778516871869 : Nat := 0
def Mine.fin.tw18255404467826089762 : Nat := 0
def Mine.fin.tw13815853411582834384 : Nat := 0
def Mine.fin.tw4759752924163587094 : Nat := 0
def Mine.fin.tw13295704053362595847 : Nat := 0
def Mine.fin.tw6815667921103612162 : Nat := 0
def Mine.fin.tw2896703901015224195 : Nat := 0
def Mine.fin.tw17204297501091165112 : Nat := 0
def Mine.fin.tw14728723275428758510 : Nat := 0
def Mine.fin.tw17743408960866722510 : Nat := 0
def Mine.fin.tw15344004072050561172 : Nat := 0
def Mine.fin.tw6400248389586479577 : Nat := 0
def Mine.fin.tw5102460946473063141 : Nat := 0
def Mine.fin.tw8656503046869711584 : Nat := 0
def Mine.fin.tw12212933522069011988 : Nat := 0
def Mine.fin.tw888132650186811988 : Nat := 0
def Mine.fin.tw2617349483901765261 : Nat := 0
def Mine.fin.tw13516622038369049944 : Nat := 0
def Mine.fin.tw13870153662132920491 : Nat := 0
def Mine.fin.tw2236755162388048479 : Nat := 0
def Mine.fin.tw7028063314416541132 : Nat := 0
def Mine.fin.tw15094949803261831281 : Nat := 0
def Mine.fin.tw6968583824967984638 : Nat := 0
def Mine.fin.tw1934850986556158784 : Nat := 0
def Mine.fin.tw12149302876761508202 : Nat := 0
def Mine.fin.tw8289400949097046189 : Nat := 0
def Mine.fin.tw12237877928780879103 : Nat := 0
def Mine.fin.tw3906754673857718949 : Nat := 0
def Mine.fin.tw12809788781938459499 : Nat := 0
def Mine.fin.tw14637358334870819178 : Nat := 0
def Mine.fin.tw2976117146107443816 : Nat := 0
def Mine.fin.tw2086631506510373192 : Nat := 0
def Mine.fin.tw10751089155417173751 : Nat := 0
def Mine.fin.tw17719728818120068181 : Nat := 0
def Mine.fin.tw807531904560671035 : Nat := 0
def Mine.fin.tw373065315874586923 : Nat := 0
def Mine.fin.tw11936995450923721628 : Nat := 0
def Mine.fin.tw14109310954907245088 : Nat := 0
def Mine.fin.tw4424551920762525699 : Nat := 0
def Mine.fin.tw12649782002744950493 : Nat := 0
def Mine.fin.tw17449020081951674710 : Nat := 0
def Mine.fin.tw7451905468542833597 : Nat := 0
def Mine.fin.tw16821315681066787758 : Nat := 0
def Mine.fin.tw14856888987745899463 : Nat := 0
def Mine.fin.tw4806268862455609328 : Nat := 0
def Mine.fin.tw2608567993692976607 : Nat := 0
def Mine.fin.tw11414119711712004833 : Nat := 0
def Mine.fin.tw2321816554428607280 : Nat := 0
def Mine.fin.tw4950403968356008110 : Nat := 0
def Mine.fin.tw891787732878383699 : Nat := 0
def Mine.fin.tw17637551073024348614 : Nat := 0
def Mine.fin.tw17347454772498655404 : Nat := 0
def Mine.fin.tw13326868189938593150 : Nat := 0
def Mine.fin.tw17108682257543074861 : Nat := 0
def Mine.fin.tw6232080684201472732 : Nat := 0
def Mine.fin.tw14838103818555229697 : Nat := 0
def Mine.fin.tw9357874355931990178 : Nat := 0
def Mine.fin.tw274485646020346020 : Nat := 0
def Mine.fin.tw16307707646766795581 : Nat := 0
def Mine.fin.tw5796354222422608987 : Nat := 0
def Mine.fin.tw4879674094562380441 : Nat := 0
def Mine.fin.tw999798209818781672 : Nat := 0
def Mine.fin.tw17869975865946814897 : Nat := 0
def Mine.fin.tw6127190174262240918 : Nat := 0
def Mine.fin.tw6385529401280152062 : Nat := 0
def Mine.fin.tw14239432107786713131 : Nat := 0
def Mine.fin.tw3975253019698251321 : Nat := 0
def Mine.fin.tw4992356995671143779 : Nat := 0
def Mine.fin.tw2316539691658765527 : Nat := 0
def Mine.fin.tw848606289541702500 : Nat := 0
def Mine.fin.tw7321584467024264148 : Nat := 0
def Mine.fin.tw4794972017131680667 : Nat := 0
def Mine.fin.tw5734618986648460908 : Nat := 0
def Mine.fin.tw13383306551100868464 : Nat := 0
def Mine.fin.tw2671655128345628175 : Nat := 0
def Mine.fin.tw7773504467932542270 : Nat := 0
def Mine.fin.tw14574801432027512755 : Nat := 0
def Mine.fin.tw13162651487661262736 : Nat := 0
def Mine.fin.tw6388184931127306564 : Nat := 0
def Mine.fin.tw13294311002278339166 : Nat := 0
def Mine.fin.tw13814004702073501669 : Nat := 0
def Mine.fin.tw7278507554335971580 : Nat := 0
def Mine.fin.tw3173534031939492945 : Nat := 0
def Mine.fin.tw7803649310394182010 : Nat := 0
def Mine.fin.tw12612204703400128841 : Nat := 0
def Mine.fin.tw6566618420281934 : Nat := 0
def Mine.fin.tw3459265974087741279 : Nat := 0
def Mine.fin.tw1105837973531982728 : Nat := 0
def Mine.fin.tw17701328389417463424 : Nat := 0
def Mine.fin.tw16275787546110486726 : Nat := 0
def Mine.fin.tw18387650150990424433 : Nat := 0
def Mine.fin.tw6474043946942992101 : Nat := 0
def Mine.fin.tw10383673109516279431 : Nat := 0
def Mine.fin.tw5227809002895711924 : Nat := 0
def Mine.fin.tw13790858721211988464 : Nat := 0
def Mine.fin.tw1982079694162106894 : Nat := 0
def Mine.fin.tw12221555665107904926 : Nat := 0
def Mine.fin.tw5011121235533021005 : Nat := 0
def Mine.fin.tw15590172107835277464 : Nat := 0
def Mine.fin.tw3302319216010004292 : Nat := 0
def Mine.fin.tw9712136527352899355 : Nat := 0
def Mine.fin.tw12696600883282566439 : Nat := 0
def Mine.fin.tw12494888245299231016 : Nat := 0
def Mine.fin.tw8992130219625755252 : Nat := 0
def Mine.fin.tw8590288500278120515 : Nat := 0
def Mine.fin.tw7021976415091001641 : Nat := 0
def Mine.fin.tw13929302177132474383 : Nat := 0
def Mine.fin.tw12962497063298326498 : Nat := 0
def Mine.fin.tw16656299143469825513 : Nat := 0
def Mine.fin.tw11209750170652599755 : Nat := 0
def Mine.fin.tw8472697214298850164 : Nat := 0
def Mine.fin.tw757079261281740938 : Nat := 0
def Mine.fin.tw14431720936831517352 : Nat := 0
def Mine.fin.tw5293390819737331289 : Nat := 0
def Mine.fin.tw16496857829328116044 : Nat := 0
def Mine.fin.tw3263211703599914710 : Nat := 0
def Mine.fin.tw9524518906428321964 : Nat := 0
def Mine.fin.tw14786503066443513839 : Nat := 0
def Mine.fin.tw12292906935544458286 : Nat := 0
def Mine.fin.tw17971676594858020690 : Nat := 0
def Mine.fin.tw15149952090015108872 : Nat := 0
def Mine.fin.tw15373703851562958014 : Nat := 0
def Mine.fin.tw5402249366112354979 : Nat := 0
def Mine.fin.tw12718612220689870738 : Nat := 0
def Mine.fin.tw17801579834951734752 : Nat := 0
def Mine.fin.tw9544026089342320630 : Nat := 0
def Mine.fin.tw11040825799340251285 : Nat := 0
def Mine.fin.tw3857263333814641470 : Nat := 0
def Mine.fin.tw9962418760945406050 : Nat := 0
def Mine.fin.tw15989303212955285315 : Nat := 0
def Mine.fin.tw15621619335703214680 : Nat := 0
def Mine.fin.tw8281523328739849912 : Nat := 0
def Mine.fin.tw10393886385942881009 : Nat := 0
def Mine.fin.tw11615019562542576733 : Nat := 0
def Mine.fin.tw5853953084782111080 : Nat := 0
def Mine.fin.tw895571856199123645 : Nat := 0
def Mine.fin.tw251868834278440796 : Nat := 0
def Mine.fin.tw8559517257967667466 : Nat := 0
def Mine.fin.tw7470013935711676318 : Nat := 0
def Mine.fin.tw3125960719983571848 : Nat := 0
def Mine.fin.tw12272180582564018144 : Nat := 0
def Mine.fin.tw12409915417874342407 : Nat := 0
def Mine.fin.tw12932903420030652473 : Nat := 0
def Mine.fin.tw6956187926921108005 : Nat := 0
def Mine.fin.tw1963134401048803436 : Nat := 0
def Mine.fin.tw17495881415371897999 : Nat := 0
def Mine.fin.tw8383268338085895543 : Nat := 0
def Mine.fin.tw15942684835789789487 : Nat := 0
def Mine.fin.tw17512474026176034454 : Nat := 0
def Mine.fin.tw3812028171767442716 : Nat := 0
def Mine.fin.tw10671828304227620169 : Nat := 0
def Mine.fin.tw5901363791540438844 : Nat := 0
def Mine.fin.tw3456623496861543869 : Nat := 0
def Mine.fin.tw3762306804915933987 : Nat := 0
def Mine.fin.tw8577089030196625639 : Nat := 0
def Mine.fin.tw7779959011674639804 : Nat := 0
def Mine.fin.tw13066358836101814915 : Nat := 0
def Mine.fin.tw10196768644732416780 : Nat := 0
def Mine.fin.tw13232076499608113247 : Nat := 0
def Mine.fin.tw11079828417688620724 : Nat := 0
def Mine.fin.tw4443050520305737185 : Nat := 0
def Mine.fin.tw4898026214463823928 : Nat := 0
def Mine.fin.tw11151619158091525091 : Nat := 0
def Mine.fin.tw9387745189664136937 : Nat := 0
def Mine.fin.tw11277574374343807151 : Nat := 0
def Mine.fin.tw6634307039904815820 : Nat := 0
def Mine.fin.tw12118000046449163591 : Nat := 0
def Mine.fin.tw6068950659093879613 : Nat := 0
def Mine.fin.tw17963964198891936676 : Nat := 0
def Mine.fin.tw17784850919643140607 : Nat := 0
def Mine.fin.tw14814673180317915700 : Nat := 0
def Mine.fin.tw783483362715066742 : Nat := 0
def Mine.fin.tw10895054467252067526 : Nat := 0
def Mine.fin.tw12171577908484138354 : Nat := 0
def Mine.fin.tw18105285910621931680 : Nat := 0
def Mine.fin.tw1535588207084551279 : Nat := 0
def Mine.fin.tw6846200578177281708 : Nat := 0
def Mine.fin.tw5678346346211369953 : Nat := 0
def Mine.fin.tw17164383140453370395 : Nat := 0
def Mine.fin.tw12448240930570709186 : Nat := 0
def Mine.fin.tw670465573061467203 : Nat := 0
def Mine.fin.tw4868334931027891882 : Nat := 0
def Mine.fin.tw3029852977388229646 : Nat := 0
def Mine.fin.tw2537931557510868981 : Nat := 0
def Mine.fin.tw7830602891274557492 : Nat := 0
def Mine.fin.tw9445451236469955387 : Nat := 0
def Mine.fin.tw3810338749695602999 : Nat := 0
def Mine.fin.tw11607805686811502034 : Nat := 0
def Mine.fin.tw10044329564118149508 : Nat := 0
def Mine.fin.tw10939691994893167182 : Nat := 0
def Mine.fin.tw12356021495744459628 : Nat := 0
def Mine.fin.tw11466478281803324712 : Nat := 0
def Mine.fin.tw16584127079891442865 : Nat := 0
def Mine.fin.tw3863403702602939814 : Nat := 0
def Mine.fin.tw15815952407149668801 : Nat := 0
def Mine.fin.tw9509447333196811905 : Nat := 0
def Mine.fin.tw7684487725183542926 : Nat := 0
def Mine.fin.tw6878024787957991413 : Nat := 0
def Mine.fin.tw12833947400113492166 : Nat := 0
def Mine.fin.tw13724452099449386491 : Nat := 0
def Mine.fin.tw3268265519342814607 : Nat := 0
def Mine.fin.tw16401934584784274106 : Nat := 0
def Mine.fin.tw8269367382603917829 : Nat := 0
def Mine.fin.tw7675655780812522254 : Nat := 0
def Mine.fin.tw1252854909445205041 : Nat := 0
def Mine.fin.tw13158425560686309300 : Nat := 0
def Mine.fin.tw480829909506669009 : Nat := 0
def Mine.fin.tw16530489862217454893 : Nat := 0
def Mine.fin.tw6380807493870290408 : Nat := 0
def Mine.fin.tw1666694428299288667 : Nat := 0
def Mine.fin.tw4329306826757983850 : Nat := 0
def Mine.fin.tw12996517811204074000 : Nat := 0
def Mine.fin.tw9260378047223084069 : Nat := 0
def Mine.fin.tw10696652717036330658 : Nat := 0
def Mine.fin.tw2775396313129547428 : Nat := 0
def Mine.fin.tw10070804522480449196 : Nat := 0
def Mine.fin.tw4570111826955561243 : Nat := 0
def Mine.fin.tw17362494058136835672 : Nat := 0
def Mine.fin.tw5679570950571409650 : Nat := 0
def Mine.fin.tw1976505206021243879 : Nat := 0
def Mine.fin.tw1390109508276135513 : Nat := 0
def Mine.fin.tw5647864574477489665 : Nat := 0
def Mine.fin.tw14517287926952318261 : Nat := 0
def Mine.fin.tw7249652514872940865 : Nat := 0
def Mine.fin.tw10699407837109476802 : Nat := 0
def Mine.fin.tw6567050819087999508 : Nat := 0
def Mine.fin.tw4613182775407389354 : Nat := 0
def Mine.fin.tw11414674201277728305 : Nat := 0
def Mine.fin.tw8896352889252549814 : Nat := 0
def Mine.fin.tw13925877587632400325 : Nat := 0
def Mine.fin.tw11953781441336167498 : Nat := 0
def Mine.fin.tw1397303283331804279 : Nat := 0
def Mine.fin.tw18164189302063226315 : Nat := 0
def Mine.fin.tw8126443298418566877 : Nat := 0
def Mine.fin.tw16570786720924097770 : Nat := 0
def Mine.fin.tw5634151482396758240 : Nat := 0
def Mine.fin.tw1202912048536075021 : Nat := 0
def Mine.fin.tw7929640520542984453 : Nat := 0
def Mine.fin.tw9806666330580929782 : Nat := 0
def Mine.fin.tw884059145510264010 : Nat := 0
def Mine.fin.tw10036218272323018037 : Nat := 0
def Mine.fin.tw3004984022683251337 : Nat := 0
def Mine.fin.tw10007411396671696613 : Nat := 0
def Mine.fin.tw9610726530385051774 : Nat := 0
def Mine.fin.tw1613116972386908190 : Nat := 0
def Mine.fin.tw7177338460636591580 : Nat := 0
def Mine.fin.tw1450881378762983150 : Nat := 0
def Mine.fin.tw8399098705505230059 : Nat := 0
def Mine.fin.tw10780969087567948381 : Nat := 0
def Mine.fin.tw16269368082590959529 : Nat := 0
def Mine.fin.tw5776136370200156792 : Nat := 0
def Mine.fin.tw452842511749404161 : Nat := 0
def Mine.fin.tw8668149382578428375 : Nat := 0
def Mine.fin.tw7130589087949165531 : Nat := 0
def Mine.fin.tw4754365596532378047 : Nat := 0
def Mine.fin.tw4788878847521262168 : Nat := 0
def Mine.fin.tw13467322939085005891 : Nat := 0
def Mine.fin.tw14245171486683049214 : Nat := 0
def Mine.fin.tw1887099378405440850 : Nat := 0
def Mine.fin.tw12869217540446652890 : Nat := 0
def Mine.fin.tw15069271281064182630 : Nat := 0
def Mine.fin.tw1819255440876223710 : Nat := 0
def Mine.fin.tw8088732932480780420 : Nat := 0
def Mine.fin.tw17197158672614542318 : Nat := 0
def Mine.fin.tw216489041496292469 : Nat := 0
def Mine.fin.tw6455845175183424153 : Nat := 0
def Mine.fin.tw6214469639950668122 : Nat := 0
def Mine.fin.tw12876116671307685997 : Nat := 0
namespace Mine
theorem law_join {w : World} {mg mb : Str → Option Value} {mean : ExcName → Option Value} {A : Around} {dp un : Nat} {gd : Option (List Code)} {f : Addr} {qual : Str} {scope : Scope} {body : List Stmt} {cd : Value} {outer : List Env} {A₀ : Around} {base g : Heap} {L : Addr} {s : Shared} {sc : Addr} {vs : List Value} {ns : List Int} {Q : Flow → Shared → Prop} {E : Value → Shared → Prop} {env : Env} {m : Str → Option Value}
    (H : LawSays w mg mb mean f qual scope body cd) (hA : A = ktrTop dp un gd qual scope L f cd [] outer) (he : env = envOf qual scope L f cd)
    (B : Below A₀ base outer g) (F : Fr g L s.heap m) (hm : m = fun y => ([(Str.ofString "script", Value.ref sc)] : List (Str × Value)).lookup y) (X : (hpK w.params).In g) (N : News g L s.heap []) (T : Top hpV (looseW hpV LS) mean mg mb g) (hl : g.IsList sc vs.toArray) (hi : IntsAre vs ns) (hn : ns.length ≤ 63) (hd : dp + 20 < 900) (hu : un + 200 < 9000)
    (K : ∀ h' tk m' news', Fr g L h' m' → News g L h' news' → Q (.ret (.bool true)) { s with heap := h', toks := tk }) :
    wpAny (model prg w) A (execs body env) Q E s := by
  subst hA he hm
  refine wpAny_mono (H dp un gd outer A₀ base g L s sc vs ns B F X N T hl hi hn hd hu) ?_ (fun _ _ x => x.elim)
  rintro fl s' ⟨h', tk, m', news', rfl, F2, N2, p⟩
  cases fl with
  | ret v => dsimp only at p; subst p; exact K h' tk m' news' F2 N2
  | _ => cases p
end Mine
--FIN
set_option Elab.async true in
theorem Mine.fin : PySem.Challenge.rw_nt0411_01.Holds := by
  w_on; o_law; k_head; (case hw => w_witness2)
  w_strict k_go0
  dsimp only
  refine' Mine.law_join (Mine.law_says (by k_is) _ _) ?zza ?zze ?zzb ?zzf ?zzm ?zzx ?zzn ?zzt ?zzl ?zzi ?zzk ?zzd ?zzu ?zzq
  case zza => exact rfl
  case zze => exact rfl
  case zzf => assumption
  case zzb => exact below_caller _
  case zzm => exact rfl
  case zzx => assumption
  case zzn => assumption
  case zzt => assumption
  case zzl => assumption
  case zzi => assumption
  case zzk => omega
  case zzd => decide
  case zzu => decide
  case zzq =>
    intro h' tk m' news' F2 N2
    wrow_close
theorem PySem.Challenge.cw_nt0411_01_holds : PySem.Challenge.rw_nt0411_01.Holds :=
  Mine.fin
