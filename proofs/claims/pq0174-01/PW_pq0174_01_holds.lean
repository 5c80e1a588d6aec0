import PyProof.Rows.All
import Wide.All
import OpenK.AllK
import Wide.FinOn
import PySem.Challenge.RW_pq0174_01
open PySem PySem.W PyProof.Rows
set_option Elab.async false
set_option maxRecDepth 100000
set_option maxHeartbeats 8000000
section
open PySem PySem.W PyProof.Rows
namespace Mine
noncomputable def hd.cell (i : Nat) : Stmt := (PySem.Challenge.pw_pq0174_01.main.body[i]?).getD default
noncomputable def hd.inCls (s : Stmt) (j : Nat) : Stmt := match s with
  | .ClassDef _ _ _ b _ _ _ _ _ _ _ => (b[j]?).getD default
  | _ => default
noncomputable def hd.fA (s : Stmt) : Arguments := match s with
  | .FunctionDef _ a _ _ _ _ _ _ _ _ => a
  | _ => default
noncomputable def hd.fB (s : Stmt) : List Stmt := match s with
  | .FunctionDef _ _ b _ _ _ _ _ _ _ => b
  | _ => []
noncomputable def hd.fC (s : Stmt) : Scope := match s with
  | .FunctionDef _ _ _ _ _ _ c _ _ _ => c
  | _ => default
noncomputable def hd.fP (s : Stmt) : Pos := match s with
  | .FunctionDef _ _ _ _ _ _ _ _ _ p => p
  | _ => default
noncomputable def hd.view_39 : Program := view PySem.Challenge.pw_pq0174_01 [1, 3, 4, 5, 6, 7, 8, 9, 10, 11, 12, 13, 14, 15, 16, 17, 18, 19, 20, 21, 22, 23, 24, 25, 26, 27, 28, 29, 30, 31, 33, 34, 35, 36, 37, 38]
noncomputable def hd.at39 : List Nat := [nat_lit 2, nat_lit 3, nat_lit 15, nat_lit 18, nat_lit 23, nat_lit 24, nat_lit 25, nat_lit 27, nat_lit 28, nat_lit 30, nat_lit 31, nat_lit 32, nat_lit 33, nat_lit 34, nat_lit 35, nat_lit 38, nat_lit 39, nat_lit 40, nat_lit 42, nat_lit 43, nat_lit 45, nat_lit 46, nat_lit 47, nat_lit 49, nat_lit 50, nat_lit 52, nat_lit 53, nat_lit 54, nat_lit 56, nat_lit 57, nat_lit 59, nat_lit 60, nat_lit 61, nat_lit 63, nat_lit 64, nat_lit 66, nat_lit 67, nat_lit 68, nat_lit 71, nat_lit 72, nat_lit 73, nat_lit 75, nat_lit 76, nat_lit 78, nat_lit 79, nat_lit 80, nat_lit 82, nat_lit 83, nat_lit 85, nat_lit 86, nat_lit 87, nat_lit 89, nat_lit 90, nat_lit 92, nat_lit 93, nat_lit 94, nat_lit 96, nat_lit 97, nat_lit 99, nat_lit 100, nat_lit 101, nat_lit 103, nat_lit 104, nat_lit 106, nat_lit 107, nat_lit 108, nat_lit 110, nat_lit 111, nat_lit 113, nat_lit 114, nat_lit 115, nat_lit 117, nat_lit 118, nat_lit 120, nat_lit 121, nat_lit 122, nat_lit 124, nat_lit 125, nat_lit 127, nat_lit 128, nat_lit 129, nat_lit 131, nat_lit 132, nat_lit 134, nat_lit 135, nat_lit 136, nat_lit 138, nat_lit 139, nat_lit 141, nat_lit 142, nat_lit 143, nat_lit 145, nat_lit 146, nat_lit 148, nat_lit 149, nat_lit 150, nat_lit 152, nat_lit 153, nat_lit 155, nat_lit 156, nat_lit 157, nat_lit 159, nat_lit 160, nat_lit 162, nat_lit 163, nat_lit 164, nat_lit 166, nat_lit 167, nat_lit 169, nat_lit 170, nat_lit 171, nat_lit 173, nat_lit 174, nat_lit 176, nat_lit 177, nat_lit 178, nat_lit 180, nat_lit 181, nat_lit 183, nat_lit 184, nat_lit 185, nat_lit 187, nat_lit 188, nat_lit 190, nat_lit 191, nat_lit 192, nat_lit 194, nat_lit 195, nat_lit 197, nat_lit 198, nat_lit 199, nat_lit 201, nat_lit 202, nat_lit 204, nat_lit 205, nat_lit 206, nat_lit 208, nat_lit 209, nat_lit 211, nat_lit 212, nat_lit 213, nat_lit 215, nat_lit 216, nat_lit 218, nat_lit 219, nat_lit 220, nat_lit 223, nat_lit 224]
noncomputable def hd.heap_39 : Params → Frag := fun P =>
  @List.cons (Prod Nat Obj) (@Prod.mk @Nat @Obj (nat_lit 2) (@Obj.mk @Value.none (@Option.none @Nat) (@Data.dict (@List.toArray @DictEntry [(@DictEntry.mk (@PyData.keyHash P (Str.ofString "type.__subclasses__.Exception.0")) (@Value.str (Str.ofString "type.__subclasses__.Exception.0") (219:Nat)) (@Value.int (34 : Int) (0:Nat))), (@DictEntry.mk (@PyData.keyHash P (Str.ofString "type.__subclasses__.Exception.n")) (@Value.str (Str.ofString "type.__subclasses__.Exception.n") (220:Nat)) (@Value.int (1 : Int) (0:Nat)))]) (2:Nat)) (@List.toArray (@Option @Value) (@List.nil (@Option @Value))))) (
  @List.cons (Prod Nat Obj) (@Prod.mk @Nat @Obj (nat_lit 3) (@Obj.mk (@Value.type "dict") (@Option.none @Nat) (@Data.dict (@List.toArray @DictEntry (@List.cons @DictEntry (@DictEntry.mk (@PyData.keyHash P (Str.ofString "__name__")) (@Value.str (Str.ofString "__name__") (165:Nat)) (@Value.str (Str.ofString "law_pq0174_01") (442:Nat))) (@List.cons @DictEntry (@DictEntry.mk (@PyData.keyHash P (Str.ofString "__doc__")) (@Value.str (Str.ofString "__doc__") (166:Nat)) @Value.none) (@List.cons @DictEntry (@DictEntry.mk (@PyData.keyHash P (Str.ofString "__package__")) (@Value.str (Str.ofString "__package__") (167:Nat)) @Value.none) (@List.cons @DictEntry (@DictEntry.mk (@PyData.keyHash P (Str.ofString "__loader__")) (@Value.str (Str.ofString "__loader__") (168:Nat)) (@Value.builtin "__main__.__loader__#opaque")) (@List.cons @DictEntry (@DictEntry.mk (@PyData.keyHash P (Str.ofString "__spec__")) (@Value.str (Str.ofString "__spec__") (169:Nat)) @Value.none) (@List.cons @DictEntry (@DictEntry.mk (@PyData.keyHash P (Str.ofString "__annotations__")) (@Value.str (Str.ofString "__annotations__") (170:Nat)) (@Value.ref (6:Nat))) (@List.cons @DictEntry (@DictEntry.mk (@PyData.keyHash P (Str.ofString "__builtins__")) (@Value.str (Str.ofString "__builtins__") (171:Nat)) (@Value.ref (4:Nat))) (@List.cons @DictEntry (@DictEntry.mk (@PyData.keyHash P (Str.ofString "__file__")) (@Value.str (Str.ofString "__file__") (173:Nat)) (@Value.str (Str.ofString "/claim/cut.py") (172:Nat))) (@List.cons @DictEntry (@DictEntry.mk (@PyData.keyHash P (Str.ofString "__cached__")) (@Value.str (Str.ofString "__cached__") (174:Nat)) @Value.none) (@List.cons @DictEntry (@DictEntry.mk (@PyData.keyHash P (Str.ofString "BasicError")) (@Value.str (Str.ofString "BasicError") (222:Nat)) (@Value.ref (34:Nat))) (@List.cons @DictEntry (@DictEntry.mk (@PyData.keyHash P (Str.ofString "MOST_SIGNS")) (@Value.str (Str.ofString "MOST_SIGNS") (226:Nat)) (@Value.int (255 : Int) (225:Nat))) (@List.cons @DictEntry (@DictEntry.mk (@PyData.keyHash P (Str.ofString "MOST_FIGURES")) (@Value.str (Str.ofString "MOST_FIGURES") (228:Nat)) (@Value.int (40 : Int) (227:Nat))) (@List.cons @DictEntry (@DictEntry.mk (@PyData.keyHash P (Str.ofString "SIGNS")) (@Value.str (Str.ofString "SIGNS") (230:Nat)) (@Value.str (Str.ofString "+-*/\\^(),;:#&@") (229:Nat))) (@List.cons @DictEntry (@DictEntry.mk (@PyData.keyHash P (Str.ofString "ORDERS")) (@Value.str (Str.ofString "ORDERS") (232:Nat)) (@Value.str (Str.ofString "<=>") (231:Nat))) (@List.cons @DictEntry (@DictEntry.mk (@PyData.keyHash P (Str.ofString "PAIRS")) (@Value.str (Str.ofString "PAIRS") (251:Nat)) (@Value.ref (38:Nat))) (@List.cons @DictEntry (@DictEntry.mk (@PyData.keyHash P (Str.ofString "WORDS")) (@Value.str (Str.ofString "WORDS") (253:Nat)) (@Value.str (Str.ofString "LET PRINT USING INPUT LINE IF THEN ELSE GOTO GOSUB ON RETURN FOR TO STEP NEXT WHILE WEND DEF FNEND READ DATA RESTORE DIM ERASE OPTION BASE SWAP ERROR RESUME STOP END REM RANDOMIZE DEFINT DEFSNG DEFSTR MAT ZER CON IDN INV TRN OPEN OUTPUT APPEND RANDOM AS CLOSE FIELD LSET RSET GET PUT WRITE CHAIN COMMON TRON TROFF AND OR XOR EQV IMP NOT MOD") (252:Nat))) (@List.cons @DictEntry (@DictEntry.mk (@PyData.keyHash P (Str.ofString "FUNCTION_WORDS")) (@Value.str (Str.ofString "FUNCTION_WORDS") (255:Nat)) (@Value.str (Str.ofString "ABS ASC CHR$ CINT CSNG CVI CVS EDIT$ EOF ERL ERR FIX FRE HEX$ INSTR INT LCASE$ LEFT$ LEN LOC LOF LPOS LTRIM$ MAX MID$ MIN MKI$ MKS$ OCT$ PI POS RIGHT$ RND RTRIM$ SEG$ SGN SPACE$ SPC SQR STR$ STRING$ SWAP% TAB UCASE$ VAL XLATE$") (254:Nat))) (@List.cons @DictEntry (@DictEntry.mk (@PyData.keyHash P (Str.ofString "WORD_LIKE")) (@Value.str (Str.ofString "WORD_LIKE") (259:Nat)) (@Value.ref (39:Nat))) (@List.cons @DictEntry (@DictEntry.mk (@PyData.keyHash P (Str.ofString "functions")) (@Value.str (Str.ofString "functions") (265:Nat)) (@Value.ref (46:Nat))) (@List.cons @DictEntry (@DictEntry.mk (@PyData.keyHash P (Str.ofString "is_word")) (@Value.str (Str.ofString "is_word") (272:Nat)) (@Value.ref (53:Nat))) (@List.cons @DictEntry (@DictEntry.mk (@PyData.keyHash P (Str.ofString "is_letter")) (@Value.str (Str.ofString "is_letter") (279:Nat)) (@Value.ref (60:Nat))) (@List.cons @DictEntry (@DictEntry.mk (@PyData.keyHash P (Str.ofString "is_figure")) (@Value.str (Str.ofString "is_figure") (286:Nat)) (@Value.ref (67:Nat))) (@List.cons @DictEntry (@DictEntry.mk (@PyData.keyHash P (Str.ofString "capital")) (@Value.str (Str.ofString "capital") (292:Nat)) (@Value.ref (72:Nat))) (@List.cons @DictEntry (@DictEntry.mk (@PyData.keyHash P (Str.ofString "figures_end")) (@Value.str (Str.ofString "figures_end") (300:Nat)) (@Value.ref (79:Nat))) (@List.cons @DictEntry (@DictEntry.mk (@PyData.keyHash P (Str.ofString "skipped")) (@Value.str (Str.ofString "skipped") (308:Nat)) (@Value.ref (86:Nat))) (@List.cons @DictEntry (@DictEntry.mk (@PyData.keyHash P (Str.ofString "power_end")) (@Value.str (Str.ofString "power_end") (318:Nat)) (@Value.ref (93:Nat))) (@List.cons @DictEntry (@DictEntry.mk (@PyData.keyHash P (Str.ofString "number_at")) (@Value.str (Str.ofString "number_at") (330:Nat)) (@Value.ref (100:Nat))) (@List.cons @DictEntry (@DictEntry.mk (@PyData.keyHash P (Str.ofString "name_end")) (@Value.str (Str.ofString "name_end") (338:Nat)) (@Value.ref (107:Nat))) (@List.cons @DictEntry (@DictEntry.mk (@PyData.keyHash P (Str.ofString "text_at")) (@Value.str (Str.ofString "text_at") (347:Nat)) (@Value.ref (114:Nat))) (@List.cons @DictEntry (@DictEntry.mk (@PyData.keyHash P (Str.ofString "order_at")) (@Value.str (Str.ofString "order_at") (357:Nat)) (@Value.ref (121:Nat))) (@List.cons @DictEntry (@DictEntry.mk (@PyData.keyHash P (Str.ofString "data_end")) (@Value.str (Str.ofString "data_end") (366:Nat)) (@Value.ref (128:Nat))) (@List.cons @DictEntry (@DictEntry.mk (@PyData.keyHash P (Str.ofString "remark_of")) (@Value.str (Str.ofString "remark_of") (373:Nat)) (@Value.ref (135:Nat))) (@List.cons @DictEntry (@DictEntry.mk (@PyData.keyHash P (Str.ofString "word_at")) (@Value.str (Str.ofString "word_at") (384:Nat)) (@Value.ref (142:Nat))) (@List.cons @DictEntry (@DictEntry.mk (@PyData.keyHash P (Str.ofString "tokens_at")) (@Value.str (Str.ofString "tokens_at") (395:Nat)) (@Value.ref (149:Nat))) (@List.cons @DictEntry (@DictEntry.mk (@PyData.keyHash P (Str.ofString "tokens_of")) (@Value.str (Str.ofString "tokens_of") (405:Nat)) (@Value.ref (156:Nat))) (@List.cons @DictEntry (@DictEntry.mk (@PyData.keyHash P (Str.ofString "token_text")) (@Value.str (Str.ofString "token_text") (414:Nat)) (@Value.ref (163:Nat))) (@List.cons @DictEntry (@DictEntry.mk (@PyData.keyHash P (Str.ofString "needs_blank")) (@Value.str (Str.ofString "needs_blank") (422:Nat)) (@Value.ref (170:Nat))) (@List.cons @DictEntry (@DictEntry.mk (@PyData.keyHash P (Str.ofString "row_of")) (@Value.str (Str.ofString "row_of") (433:Nat)) (@Value.ref (177:Nat))) (@List.cons @DictEntry (@DictEntry.mk (@PyData.keyHash P (Str.ofString "canonical")) (@Value.str (Str.ofString "canonical") (441:Nat)) (@Value.ref (184:Nat))) (@List.cons @DictEntry (@DictEntry.mk (@PyData.keyHash P (Str.ofString "_law_take")) (@Value.str (Str.ofString "_law_take") (451:Nat)) (@Value.ref (191:Nat))) (@List.cons @DictEntry (@DictEntry.mk (@PyData.keyHash P (Str.ofString "_law_piece")) (@Value.str (Str.ofString "_law_piece") (465:Nat)) (@Value.ref (198:Nat))) (@List.cons @DictEntry (@DictEntry.mk (@PyData.keyHash P (Str.ofString "_law_tail")) (@Value.str (Str.ofString "_law_tail") (472:Nat)) (@Value.ref (205:Nat))) (@List.cons @DictEntry (@DictEntry.mk (@PyData.keyHash P (Str.ofString "_law_is_order")) (@Value.str (Str.ofString "_law_is_order") (479:Nat)) (@Value.ref (212:Nat))) (@List.cons @DictEntry (@DictEntry.mk (@PyData.keyHash P (Str.ofString "_law_is_refused")) (@Value.str (Str.ofString "_law_is_refused") (486:Nat)) (@Value.ref (219:Nat))) (@List.cons @DictEntry (@DictEntry.mk (@PyData.keyHash P (Str.ofString "law")) (@Value.str (Str.ofString "law") (492:Nat)) (@Value.ref (224:Nat))) (@List.nil @DictEntry))))))))))))))))))))))))))))))))))))))))))))))) (45:Nat)) (@List.toArray (@Option @Value) (@List.nil (@Option @Value))))) (
  @List.cons (Prod Nat Obj) (@Prod.mk @Nat @Obj (nat_lit 15) (@Obj.mk (@Value.type "tuple") (@Option.none @Nat) (@Data.seq (@List.toArray @Value [(@Value.type "Exception")]) (0:Nat)) (@List.toArray (@Option @Value) (@List.nil (@Option @Value))))) (
  @List.cons (Prod Nat Obj) (@Prod.mk @Nat @Obj (nat_lit 18) (@Obj.mk (@Value.type "cell") (@Option.none @Nat) (@Data.cell (@Option.some @Value (@Value.ref (34:Nat)))) (@List.toArray (@Option @Value) (@List.nil (@Option @Value))))) (
  @List.cons (Prod Nat Obj) (@Prod.mk @Nat @Obj (nat_lit 23) (@Obj.mk (@Value.type "tuple") (@Option.none @Nat) (@Data.seq (@List.toArray @Value [(@Value.str (Str.ofString "") (201:Nat))]) (0:Nat)) (@List.toArray (@Option @Value) (@List.nil (@Option @Value))))) (
  @List.cons (Prod Nat Obj) (@Prod.mk @Nat @Obj (nat_lit 24) (@Obj.mk (@Value.type "tuple") (@Option.none @Nat) (@Data.seq (@List.toArray @Value [(@Value.ref (18:Nat))]) (0:Nat)) (@List.toArray (@Option @Value) (@List.nil (@Option @Value))))) (
  @List.cons (Prod Nat Obj) (@Prod.mk @Nat @Obj (nat_lit 25) (@Obj.mk (@Value.type "tuple") (@Option.none @Nat) (@Data.seq (@List.toArray @Value [(@Value.str (Str.ofString "__class__") (205:Nat))]) (0:Nat)) (@List.toArray (@Option @Value) (@List.nil (@Option @Value))))) (
  @List.cons (Prod Nat Obj) (@Prod.mk @Nat @Obj (nat_lit 27) (@Obj.mk (@Value.type "tuple") (@Option.none @Nat) (@Data.seq (@List.toArray @Value [(@Value.str (Str.ofString "self") (206:Nat)), (@Value.str (Str.ofString "code") (207:Nat)), (@Value.str (Str.ofString "told") (208:Nat))]) (0:Nat)) (@List.toArray (@Option @Value) (@List.nil (@Option @Value))))) (
  @List.cons (Prod Nat Obj) (@Prod.mk @Nat @Obj (nat_lit 28) (@Obj.mk (@Value.type "tuple") (@Option.none @Nat) (@Data.seq (@List.toArray @Value (@List.nil @Value)) (0:Nat)) (@List.toArray (@Option @Value) (@List.nil (@Option @Value))))) (
  @List.cons (Prod Nat Obj) (@Prod.mk @Nat @Obj (nat_lit 30) (@Obj.mk (@Value.type "code") (@Option.none @Nat) (@Data.fields (@List.toArray @Value [(@Value.str (Str.ofString "__init__") (202:Nat)), (@Value.str (Str.ofString "BasicError.__init__") (203:Nat)), (@Value.str (Str.ofString "/claim/cut.py") (204:Nat)), (@Value.int (4 : Int) (0:Nat)), (@Value.int (3 : Int) (0:Nat)), (@Value.int (0 : Int) (0:Nat)), (@Value.int (0 : Int) (0:Nat)), (@Value.int (3 : Int) (0:Nat)), (@Value.ref (25:Nat)), (@Value.bool @Bool.true), (@Value.int (181 : Int) (0:Nat)), (@Value.ref (26:Nat)), @Value.none, (@Value.ref (27:Nat)), (@Value.ref (28:Nat)), (@Value.ref (29:Nat)), (@Value.int (209 : Int) (0:Nat)), (@Value.int (4 : Int) (0:Nat)), (@Value.str (Str.ofString "/claim/cut.py") (210:Nat))])) (@List.toArray (@Option @Value) (@List.nil (@Option @Value))))) (
  @List.cons (Prod Nat Obj) (@Prod.mk @Nat @Obj (nat_lit 31) (@Obj.mk (@Value.type "function") (@Option.none @Nat) (@Data.func (@FuncData.mk (Str.ofString "__init__") (Str.ofString "BasicError.__init__") (by refine' (?f : (l : Arguments) → hd.fA (hd.inCls (hd.cell 1) 0) = l → Arguments) _ ?h; (case f => exact fun l _ => l); (case h => conv => lhs; whnf)) (@FuncBody.stmts (by refine' (?f : (l : List Stmt) → hd.fB (hd.inCls (hd.cell 1) 0) = l → List Stmt) _ ?h; (case f => exact fun l _ => l); (case h => conv => lhs; whnf))) (by refine' (?f : (l : Scope) → hd.fC (hd.inCls (hd.cell 1) 0) = l → Scope) _ ?h; (case f => exact fun l _ => l); (case h => conv => lhs; whnf)) (3:Nat) (@List.cons (@Prod @Str @Nat) (@Prod.mk @Str @Nat (Str.ofString "__class__") (18:Nat)) (@List.nil (@Prod @Str @Nat))) (@Value.ref (23:Nat)) @Value.none @Value.none (@Value.str (Str.ofString "basicplus.values") (187:Nat)) (@Option.none @Nat) (@Value.ref (30:Nat)) (@Value.ref (24:Nat)) (0:Nat))) (@List.toArray (@Option @Value) (@List.nil (@Option @Value))))) (
  @List.cons (Prod Nat Obj) (@Prod.mk @Nat @Obj (nat_lit 32) (@Obj.mk (@Value.type "tuple") (@Option.none @Nat) (@Data.seq (@List.toArray @Value [(@Value.str (Str.ofString "code") (212:Nat)), (@Value.str (Str.ofString "told") (213:Nat))]) (0:Nat)) (@List.toArray (@Option @Value) (@List.nil (@Option @Value))))) (
  @List.cons (Prod Nat Obj) (@Prod.mk @Nat @Obj (nat_lit 33) (@Obj.mk (@Value.type "dict") (@Option.none @Nat) (@Data.dict (@List.toArray @DictEntry [(@DictEntry.mk (@PyData.keyHash P (Str.ofString "__module__")) (@Value.str (Str.ofString "__module__") (196:Nat)) (@Value.str (Str.ofString "basicplus.values") (187:Nat))), (@DictEntry.mk (@PyData.keyHash P (Str.ofString "__firstlineno__")) (@Value.str (Str.ofString "__firstlineno__") (200:Nat)) (@Value.int (2 : Int) (199:Nat))), (@DictEntry.mk (@PyData.keyHash P (Str.ofString "__init__")) (@Value.str (Str.ofString "__init__") (211:Nat)) (@Value.ref (31:Nat))), (@DictEntry.mk (@PyData.keyHash P (Str.ofString "__static_attributes__")) (@Value.str (Str.ofString "__static_attributes__") (214:Nat)) (@Value.ref (32:Nat))), (@DictEntry.mk (@PyData.keyHash P (Str.ofString "__weakref__")) (@Value.str (Str.ofString "__weakref__") (217:Nat)) (@Value.ref (35:Nat))), (@DictEntry.mk (@PyData.keyHash P (Str.ofString "__doc__")) (@Value.str (Str.ofString "__doc__") (218:Nat)) @Value.none)]) (4:Nat)) (@List.toArray (@Option @Value) (@List.nil (@Option @Value))))) (
  @List.cons (Prod Nat Obj) (@Prod.mk @Nat @Obj (nat_lit 34) (@Obj.mk (@Value.type "type") (@Option.none @Nat) (@Data.cls (@ClassData.mk (Str.ofString "BasicError") [(@Value.type "Exception")] [(@Value.ref (34:Nat)), (@Value.type "Exception"), (@Value.type "BaseException"), (@Value.type "object")] (33:Nat) (Str.ofString "BasicError") @Bool.true (@List.nil @Str) (@List.nil @Value) @Bool.false (@Option.none @Bool) @Bool.false)) (@List.toArray (@Option @Value) (@List.cons (@Option @Value) (@Option.some @Value (@Value.ref (15:Nat))) (@List.cons (@Option @Value) (@Option.none @Value) (@List.cons (@Option @Value) (@Option.some @Value (@Value.str (Str.ofString "BasicError") (189:Nat))) (@List.cons (@Option @Value) (@Option.some @Value (@Value.str (Str.ofString "BasicError") (197:Nat))) (@List.cons (@Option @Value) (@Option.some @Value (@Value.builtin "Exception.__new__")) (@List.cons (@Option @Value) (@Option.some @Value (@Value.bool @Bool.true)) (@List.nil (@Option @Value))))))))))) (
  @List.cons (Prod Nat Obj) (@Prod.mk @Nat @Obj (nat_lit 35) (@Obj.mk (@Value.type "getset_descriptor") (@Option.none @Nat) (@Data.fields (@List.toArray @Value [(@Value.str (Str.ofString "__weakref__") (216:Nat)), (@Value.ref (34:Nat)), (@Value.builtin "ExceptionGroup.__weakref__"), @Value.none])) (@List.toArray (@Option @Value) (@List.nil (@Option @Value))))) (
  @List.cons (Prod Nat Obj) (@Prod.mk @Nat @Obj (nat_lit 38) (@Obj.mk (@Value.type "dict") (@Option.none @Nat) (@Data.dict (@List.toArray @DictEntry [(@DictEntry.mk (@PyData.keyHash P (Str.ofString "<=")) (@Value.str (Str.ofString "<=") (233:Nat)) (@Value.str (Str.ofString "<=") (234:Nat))), (@DictEntry.mk (@PyData.keyHash P (Str.ofString "=<")) (@Value.str (Str.ofString "=<") (235:Nat)) (@Value.str (Str.ofString "<=") (236:Nat))), (@DictEntry.mk (@PyData.keyHash P (Str.ofString ">=")) (@Value.str (Str.ofString ">=") (237:Nat)) (@Value.str (Str.ofString ">=") (238:Nat))), (@DictEntry.mk (@PyData.keyHash P (Str.ofString "=>")) (@Value.str (Str.ofString "=>") (239:Nat)) (@Value.str (Str.ofString ">=") (240:Nat))), (@DictEntry.mk (@PyData.keyHash P (Str.ofString "<>")) (@Value.str (Str.ofString "<>") (241:Nat)) (@Value.str (Str.ofString "<>") (242:Nat))), (@DictEntry.mk (@PyData.keyHash P (Str.ofString "><")) (@Value.str (Str.ofString "><") (243:Nat)) (@Value.str (Str.ofString "<>") (244:Nat)))]) (6:Nat)) (@List.toArray (@Option @Value) (@List.nil (@Option @Value))))) (
  @List.cons (Prod Nat Obj) (@Prod.mk @Nat @Obj (nat_lit 39) (@Obj.mk (@Value.type "tuple") (@Option.none @Nat) (@Data.seq (@List.toArray @Value [(@Value.str (Str.ofString "word") (256:Nat)), (@Value.str (Str.ofString "name") (257:Nat)), (@Value.str (Str.ofString "number") (258:Nat))]) (0:Nat)) (@List.toArray (@Option @Value) (@List.nil (@Option @Value))))) (
  @List.cons (Prod Nat Obj) (@Prod.mk @Nat @Obj (nat_lit 40) (@Obj.mk (@Value.type "tuple") (@Option.none @Nat) (@Data.seq (@List.toArray @Value (@List.nil @Value)) (0:Nat)) (@List.toArray (@Option @Value) (@List.nil (@Option @Value))))) (
  @List.cons (Prod Nat Obj) (@Prod.mk @Nat @Obj (nat_lit 42) (@Obj.mk (@Value.type "tuple") (@Option.none @Nat) (@Data.seq (@List.toArray @Value (@List.nil @Value)) (0:Nat)) (@List.toArray (@Option @Value) (@List.nil (@Option @Value))))) (
  @List.cons (Prod Nat Obj) (@Prod.mk @Nat @Obj (nat_lit 43) (@Obj.mk (@Value.type "tuple") (@Option.none @Nat) (@Data.seq (@List.toArray @Value (@List.nil @Value)) (0:Nat)) (@List.toArray (@Option @Value) (@List.nil (@Option @Value))))) (
  @List.cons (Prod Nat Obj) (@Prod.mk @Nat @Obj (nat_lit 45) (@Obj.mk (@Value.type "code") (@Option.none @Nat) (@Data.fields (@List.toArray @Value [(@Value.str (Str.ofString "functions") (260:Nat)), (@Value.str (Str.ofString "functions") (261:Nat)), (@Value.str (Str.ofString "/claim/cut.py") (262:Nat)), (@Value.int (17 : Int) (0:Nat)), (@Value.int (0 : Int) (0:Nat)), (@Value.int (0 : Int) (0:Nat)), (@Value.int (0 : Int) (0:Nat)), (@Value.int (3 : Int) (0:Nat)), (@Value.ref (40:Nat)), (@Value.bool @Bool.true), (@Value.int (181 : Int) (0:Nat)), (@Value.ref (41:Nat)), @Value.none, (@Value.ref (42:Nat)), (@Value.ref (43:Nat)), (@Value.ref (44:Nat)), (@Value.int (263 : Int) (0:Nat)), (@Value.int (17 : Int) (0:Nat)), (@Value.str (Str.ofString "/claim/cut.py") (264:Nat))])) (@List.toArray (@Option @Value) (@List.nil (@Option @Value))))) (
  @List.cons (Prod Nat Obj) (@Prod.mk @Nat @Obj (nat_lit 46) (@Obj.mk (@Value.type "function") (@Option.none @Nat) (@Data.func (@FuncData.mk (Str.ofString "functions") (Str.ofString "functions") (by refine' (?f : (l : Arguments) → hd.fA (hd.cell 11) = l → Arguments) _ ?h; (case f => exact fun l _ => l); (case h => conv => lhs; whnf)) (@FuncBody.stmts (by refine' (?f : (l : List Stmt) → hd.fB (hd.cell 11) = l → List Stmt) _ ?h; (case f => exact fun l _ => l); (case h => conv => lhs; whnf))) (by refine' (?f : (l : Scope) → hd.fC (hd.cell 11) = l → Scope) _ ?h; (case f => exact fun l _ => l); (case h => conv => lhs; whnf)) (3:Nat) (@List.nil (@Prod @Str @Nat)) @Value.none @Value.none @Value.none (@Value.str (Str.ofString "basicplus.tokens") (223:Nat)) (@Option.none @Nat) (@Value.ref (45:Nat)) @Value.none (0:Nat))) (@List.toArray (@Option @Value) (@List.nil (@Option @Value))))) (
  @List.cons (Prod Nat Obj) (@Prod.mk @Nat @Obj (nat_lit 47) (@Obj.mk (@Value.type "tuple") (@Option.none @Nat) (@Data.seq (@List.toArray @Value (@List.nil @Value)) (0:Nat)) (@List.toArray (@Option @Value) (@List.nil (@Option @Value))))) (
  @List.cons (Prod Nat Obj) (@Prod.mk @Nat @Obj (nat_lit 49) (@Obj.mk (@Value.type "tuple") (@Option.none @Nat) (@Data.seq (@List.toArray @Value [(@Value.str (Str.ofString "told") (269:Nat))]) (0:Nat)) (@List.toArray (@Option @Value) (@List.nil (@Option @Value))))) (
  @List.cons (Prod Nat Obj) (@Prod.mk @Nat @Obj (nat_lit 50) (@Obj.mk (@Value.type "tuple") (@Option.none @Nat) (@Data.seq (@List.toArray @Value (@List.nil @Value)) (0:Nat)) (@List.toArray (@Option @Value) (@List.nil (@Option @Value))))) (
  @List.cons (Prod Nat Obj) (@Prod.mk @Nat @Obj (nat_lit 52) (@Obj.mk (@Value.type "code") (@Option.none @Nat) (@Data.fields (@List.toArray @Value [(@Value.str (Str.ofString "is_word") (266:Nat)), (@Value.str (Str.ofString "is_word") (267:Nat)), (@Value.str (Str.ofString "/claim/cut.py") (268:Nat)), (@Value.int (19 : Int) (0:Nat)), (@Value.int (1 : Int) (0:Nat)), (@Value.int (0 : Int) (0:Nat)), (@Value.int (0 : Int) (0:Nat)), (@Value.int (3 : Int) (0:Nat)), (@Value.ref (47:Nat)), (@Value.bool @Bool.true), (@Value.int (181 : Int) (0:Nat)), (@Value.ref (48:Nat)), @Value.none, (@Value.ref (49:Nat)), (@Value.ref (50:Nat)), (@Value.ref (51:Nat)), (@Value.int (270 : Int) (0:Nat)), (@Value.int (19 : Int) (0:Nat)), (@Value.str (Str.ofString "/claim/cut.py") (271:Nat))])) (@List.toArray (@Option @Value) (@List.nil (@Option @Value))))) (
  @List.cons (Prod Nat Obj) (@Prod.mk @Nat @Obj (nat_lit 53) (@Obj.mk (@Value.type "function") (@Option.none @Nat) (@Data.func (@FuncData.mk (Str.ofString "is_word") (Str.ofString "is_word") (by refine' (?f : (l : Arguments) → hd.fA (hd.cell 12) = l → Arguments) _ ?h; (case f => exact fun l _ => l); (case h => conv => lhs; whnf)) (@FuncBody.stmts (by refine' (?f : (l : List Stmt) → hd.fB (hd.cell 12) = l → List Stmt) _ ?h; (case f => exact fun l _ => l); (case h => conv => lhs; whnf))) (by refine' (?f : (l : Scope) → hd.fC (hd.cell 12) = l → Scope) _ ?h; (case f => exact fun l _ => l); (case h => conv => lhs; whnf)) (3:Nat) (@List.nil (@Prod @Str @Nat)) @Value.none @Value.none @Value.none (@Value.str (Str.ofString "basicplus.tokens") (223:Nat)) (@Option.none @Nat) (@Value.ref (52:Nat)) @Value.none (0:Nat))) (@List.toArray (@Option @Value) (@List.nil (@Option @Value))))) (
  @List.cons (Prod Nat Obj) (@Prod.mk @Nat @Obj (nat_lit 54) (@Obj.mk (@Value.type "tuple") (@Option.none @Nat) (@Data.seq (@List.toArray @Value (@List.nil @Value)) (0:Nat)) (@List.toArray (@Option @Value) (@List.nil (@Option @Value))))) (
  @List.cons (Prod Nat Obj) (@Prod.mk @Nat @Obj (nat_lit 56) (@Obj.mk (@Value.type "tuple") (@Option.none @Nat) (@Data.seq (@List.toArray @Value [(@Value.str (Str.ofString "sign") (276:Nat))]) (0:Nat)) (@List.toArray (@Option @Value) (@List.nil (@Option @Value))))) (
  @List.cons (Prod Nat Obj) (@Prod.mk @Nat @Obj (nat_lit 57) (@Obj.mk (@Value.type "tuple") (@Option.none @Nat) (@Data.seq (@List.toArray @Value (@List.nil @Value)) (0:Nat)) (@List.toArray (@Option @Value) (@List.nil (@Option @Value))))) (
  @List.cons (Prod Nat Obj) (@Prod.mk @Nat @Obj (nat_lit 59) (@Obj.mk (@Value.type "code") (@Option.none @Nat) (@Data.fields (@List.toArray @Value [(@Value.str (Str.ofString "is_letter") (273:Nat)), (@Value.str (Str.ofString "is_letter") (274:Nat)), (@Value.str (Str.ofString "/claim/cut.py") (275:Nat)), (@Value.int (21 : Int) (0:Nat)), (@Value.int (1 : Int) (0:Nat)), (@Value.int (0 : Int) (0:Nat)), (@Value.int (0 : Int) (0:Nat)), (@Value.int (3 : Int) (0:Nat)), (@Value.ref (54:Nat)), (@Value.bool @Bool.true), (@Value.int (181 : Int) (0:Nat)), (@Value.ref (55:Nat)), @Value.none, (@Value.ref (56:Nat)), (@Value.ref (57:Nat)), (@Value.ref (58:Nat)), (@Value.int (277 : Int) (0:Nat)), (@Value.int (21 : Int) (0:Nat)), (@Value.str (Str.ofString "/claim/cut.py") (278:Nat))])) (@List.toArray (@Option @Value) (@List.nil (@Option @Value))))) (
  @List.cons (Prod Nat Obj) (@Prod.mk @Nat @Obj (nat_lit 60) (@Obj.mk (@Value.type "function") (@Option.none @Nat) (@Data.func (@FuncData.mk (Str.ofString "is_letter") (Str.ofString "is_letter") (by refine' (?f : (l : Arguments) → hd.fA (hd.cell 13) = l → Arguments) _ ?h; (case f => exact fun l _ => l); (case h => conv => lhs; whnf)) (@FuncBody.stmts (by refine' (?f : (l : List Stmt) → hd.fB (hd.cell 13) = l → List Stmt) _ ?h; (case f => exact fun l _ => l); (case h => conv => lhs; whnf))) (by refine' (?f : (l : Scope) → hd.fC (hd.cell 13) = l → Scope) _ ?h; (case f => exact fun l _ => l); (case h => conv => lhs; whnf)) (3:Nat) (@List.nil (@Prod @Str @Nat)) @Value.none @Value.none @Value.none (@Value.str (Str.ofString "basicplus.tokens") (223:Nat)) (@Option.none @Nat) (@Value.ref (59:Nat)) @Value.none (0:Nat))) (@List.toArray (@Option @Value) (@List.nil (@Option @Value))))) (
  @List.cons (Prod Nat Obj) (@Prod.mk @Nat @Obj (nat_lit 61) (@Obj.mk (@Value.type "tuple") (@Option.none @Nat) (@Data.seq (@List.toArray @Value (@List.nil @Value)) (0:Nat)) (@List.toArray (@Option @Value) (@List.nil (@Option @Value))))) (
  @List.cons (Prod Nat Obj) (@Prod.mk @Nat @Obj (nat_lit 63) (@Obj.mk (@Value.type "tuple") (@Option.none @Nat) (@Data.seq (@List.toArray @Value [(@Value.str (Str.ofString "sign") (283:Nat))]) (0:Nat)) (@List.toArray (@Option @Value) (@List.nil (@Option @Value))))) (
  @List.cons (Prod Nat Obj) (@Prod.mk @Nat @Obj (nat_lit 64) (@Obj.mk (@Value.type "tuple") (@Option.none @Nat) (@Data.seq (@List.toArray @Value (@List.nil @Value)) (0:Nat)) (@List.toArray (@Option @Value) (@List.nil (@Option @Value))))) (
  @List.cons (Prod Nat Obj) (@Prod.mk @Nat @Obj (nat_lit 66) (@Obj.mk (@Value.type "code") (@Option.none @Nat) (@Data.fields (@List.toArray @Value [(@Value.str (Str.ofString "is_figure") (280:Nat)), (@Value.str (Str.ofString "is_figure") (281:Nat)), (@Value.str (Str.ofString "/claim/cut.py") (282:Nat)), (@Value.int (23 : Int) (0:Nat)), (@Value.int (1 : Int) (0:Nat)), (@Value.int (0 : Int) (0:Nat)), (@Value.int (0 : Int) (0:Nat)), (@Value.int (3 : Int) (0:Nat)), (@Value.ref (61:Nat)), (@Value.bool @Bool.true), (@Value.int (181 : Int) (0:Nat)), (@Value.ref (62:Nat)), @Value.none, (@Value.ref (63:Nat)), (@Value.ref (64:Nat)), (@Value.ref (65:Nat)), (@Value.int (284 : Int) (0:Nat)), (@Value.int (23 : Int) (0:Nat)), (@Value.str (Str.ofString "/claim/cut.py") (285:Nat))])) (@List.toArray (@Option @Value) (@List.nil (@Option @Value))))) (
  @List.cons (Prod Nat Obj) (@Prod.mk @Nat @Obj (nat_lit 67) (@Obj.mk (@Value.type "function") (@Option.none @Nat) (@Data.func (@FuncData.mk (Str.ofString "is_figure") (Str.ofString "is_figure") (by refine' (?f : (l : Arguments) → hd.fA (hd.cell 14) = l → Arguments) _ ?h; (case f => exact fun l _ => l); (case h => conv => lhs; whnf)) (@FuncBody.stmts (by refine' (?f : (l : List Stmt) → hd.fB (hd.cell 14) = l → List Stmt) _ ?h; (case f => exact fun l _ => l); (case h => conv => lhs; whnf))) (by refine' (?f : (l : Scope) → hd.fC (hd.cell 13) = l → Scope) _ ?h; (case f => exact fun l _ => l); (case h => conv => lhs; whnf)) (3:Nat) (@List.nil (@Prod @Str @Nat)) @Value.none @Value.none @Value.none (@Value.str (Str.ofString "basicplus.tokens") (223:Nat)) (@Option.none @Nat) (@Value.ref (66:Nat)) @Value.none (0:Nat))) (@List.toArray (@Option @Value) (@List.nil (@Option @Value))))) (
  @List.cons (Prod Nat Obj) (@Prod.mk @Nat @Obj (nat_lit 68) (@Obj.mk (@Value.type "tuple") (@Option.none @Nat) (@Data.seq (@List.toArray @Value (@List.nil @Value)) (0:Nat)) (@List.toArray (@Option @Value) (@List.nil (@Option @Value))))) (
  @List.cons (Prod Nat Obj) (@Prod.mk @Nat @Obj (nat_lit 71) (@Obj.mk (@Value.type "code") (@Option.none @Nat) (@Data.fields (@List.toArray @Value [(@Value.str (Str.ofString "capital") (287:Nat)), (@Value.str (Str.ofString "capital") (288:Nat)), (@Value.str (Str.ofString "/claim/cut.py") (289:Nat)), (@Value.int (25 : Int) (0:Nat)), (@Value.int (1 : Int) (0:Nat)), (@Value.int (0 : Int) (0:Nat)), (@Value.int (0 : Int) (0:Nat)), (@Value.int (3 : Int) (0:Nat)), (@Value.ref (68:Nat)), (@Value.bool @Bool.true), (@Value.int (181 : Int) (0:Nat)), (@Value.ref (69:Nat)), @Value.none, @Value.none, @Value.none, (@Value.ref (70:Nat)), (@Value.int (290 : Int) (0:Nat)), (@Value.int (25 : Int) (0:Nat)), (@Value.str (Str.ofString "/claim/cut.py") (291:Nat))])) (@List.toArray (@Option @Value) (@List.nil (@Option @Value))))) (
  @List.cons (Prod Nat Obj) (@Prod.mk @Nat @Obj (nat_lit 72) (@Obj.mk (@Value.type "function") (@Option.none @Nat) (@Data.func (@FuncData.mk (Str.ofString "capital") (Str.ofString "capital") (by refine' (?f : (l : Arguments) → hd.fA (hd.cell 15) = l → Arguments) _ ?h; (case f => exact fun l _ => l); (case h => conv => lhs; whnf)) (@FuncBody.stmts (by refine' (?f : (l : List Stmt) → hd.fB (hd.cell 15) = l → List Stmt) _ ?h; (case f => exact fun l _ => l); (case h => conv => lhs; whnf))) (by refine' (?f : (l : Scope) → hd.fC (hd.cell 15) = l → Scope) _ ?h; (case f => exact fun l _ => l); (case h => conv => lhs; whnf)) (3:Nat) (@List.nil (@Prod @Str @Nat)) @Value.none @Value.none @Value.none (@Value.str (Str.ofString "basicplus.tokens") (223:Nat)) (@Option.none @Nat) (@Value.ref (71:Nat)) @Value.none (0:Nat))) (@List.toArray (@Option @Value) (@List.nil (@Option @Value))))) (
  @List.cons (Prod Nat Obj) (@Prod.mk @Nat @Obj (nat_lit 73) (@Obj.mk (@Value.type "tuple") (@Option.none @Nat) (@Data.seq (@List.toArray @Value (@List.nil @Value)) (0:Nat)) (@List.toArray (@Option @Value) (@List.nil (@Option @Value))))) (
  @List.cons (Prod Nat Obj) (@Prod.mk @Nat @Obj (nat_lit 75) (@Obj.mk (@Value.type "tuple") (@Option.none @Nat) (@Data.seq (@List.toArray @Value [(@Value.str (Str.ofString "row") (296:Nat)), (@Value.str (Str.ofString "at") (297:Nat))]) (0:Nat)) (@List.toArray (@Option @Value) (@List.nil (@Option @Value))))) (
  @List.cons (Prod Nat Obj) (@Prod.mk @Nat @Obj (nat_lit 76) (@Obj.mk (@Value.type "tuple") (@Option.none @Nat) (@Data.seq (@List.toArray @Value (@List.nil @Value)) (0:Nat)) (@List.toArray (@Option @Value) (@List.nil (@Option @Value))))) (
  @List.cons (Prod Nat Obj) (@Prod.mk @Nat @Obj (nat_lit 78) (@Obj.mk (@Value.type "code") (@Option.none @Nat) (@Data.fields (@List.toArray @Value [(@Value.str (Str.ofString "figures_end") (293:Nat)), (@Value.str (Str.ofString "figures_end") (294:Nat)), (@Value.str (Str.ofString "/claim/cut.py") (295:Nat)), (@Value.int (27 : Int) (0:Nat)), (@Value.int (2 : Int) (0:Nat)), (@Value.int (0 : Int) (0:Nat)), (@Value.int (0 : Int) (0:Nat)), (@Value.int (3 : Int) (0:Nat)), (@Value.ref (73:Nat)), (@Value.bool @Bool.true), (@Value.int (181 : Int) (0:Nat)), (@Value.ref (74:Nat)), @Value.none, (@Value.ref (75:Nat)), (@Value.ref (76:Nat)), (@Value.ref (77:Nat)), (@Value.int (298 : Int) (0:Nat)), (@Value.int (27 : Int) (0:Nat)), (@Value.str (Str.ofString "/claim/cut.py") (299:Nat))])) (@List.toArray (@Option @Value) (@List.nil (@Option @Value))))) (
  @List.cons (Prod Nat Obj) (@Prod.mk @Nat @Obj (nat_lit 79) (@Obj.mk (@Value.type "function") (@Option.none @Nat) (@Data.func (@FuncData.mk (Str.ofString "figures_end") (Str.ofString "figures_end") (by refine' (?f : (l : Arguments) → hd.fA (hd.cell 16) = l → Arguments) _ ?h; (case f => exact fun l _ => l); (case h => conv => lhs; whnf)) (@FuncBody.stmts (by refine' (?f : (l : List Stmt) → hd.fB (hd.cell 16) = l → List Stmt) _ ?h; (case f => exact fun l _ => l); (case h => conv => lhs; whnf))) (by refine' (?f : (l : Scope) → hd.fC (hd.cell 16) = l → Scope) _ ?h; (case f => exact fun l _ => l); (case h => conv => lhs; whnf)) (3:Nat) (@List.nil (@Prod @Str @Nat)) @Value.none @Value.none @Value.none (@Value.str (Str.ofString "basicplus.tokens") (223:Nat)) (@Option.none @Nat) (@Value.ref (78:Nat)) @Value.none (0:Nat))) (@List.toArray (@Option @Value) (@List.nil (@Option @Value))))) (
  @List.cons (Prod Nat Obj) (@Prod.mk @Nat @Obj (nat_lit 80) (@Obj.mk (@Value.type "tuple") (@Option.none @Nat) (@Data.seq (@List.toArray @Value (@List.nil @Value)) (0:Nat)) (@List.toArray (@Option @Value) (@List.nil (@Option @Value))))) (
  @List.cons (Prod Nat Obj) (@Prod.mk @Nat @Obj (nat_lit 82) (@Obj.mk (@Value.type "tuple") (@Option.none @Nat) (@Data.seq (@List.toArray @Value [(@Value.str (Str.ofString "row") (304:Nat)), (@Value.str (Str.ofString "at") (305:Nat))]) (0:Nat)) (@List.toArray (@Option @Value) (@List.nil (@Option @Value))))) (
  @List.cons (Prod Nat Obj) (@Prod.mk @Nat @Obj (nat_lit 83) (@Obj.mk (@Value.type "tuple") (@Option.none @Nat) (@Data.seq (@List.toArray @Value (@List.nil @Value)) (0:Nat)) (@List.toArray (@Option @Value) (@List.nil (@Option @Value))))) (
  @List.cons (Prod Nat Obj) (@Prod.mk @Nat @Obj (nat_lit 85) (@Obj.mk (@Value.type "code") (@Option.none @Nat) (@Data.fields (@List.toArray @Value [(@Value.str (Str.ofString "skipped") (301:Nat)), (@Value.str (Str.ofString "skipped") (302:Nat)), (@Value.str (Str.ofString "/claim/cut.py") (303:Nat)), (@Value.int (31 : Int) (0:Nat)), (@Value.int (2 : Int) (0:Nat)), (@Value.int (0 : Int) (0:Nat)), (@Value.int (0 : Int) (0:Nat)), (@Value.int (3 : Int) (0:Nat)), (@Value.ref (80:Nat)), (@Value.bool @Bool.true), (@Value.int (181 : Int) (0:Nat)), (@Value.ref (81:Nat)), @Value.none, (@Value.ref (82:Nat)), (@Value.ref (83:Nat)), (@Value.ref (84:Nat)), (@Value.int (306 : Int) (0:Nat)), (@Value.int (31 : Int) (0:Nat)), (@Value.str (Str.ofString "/claim/cut.py") (307:Nat))])) (@List.toArray (@Option @Value) (@List.nil (@Option @Value))))) (
  @List.cons (Prod Nat Obj) (@Prod.mk @Nat @Obj (nat_lit 86) (@Obj.mk (@Value.type "function") (@Option.none @Nat) (@Data.func (@FuncData.mk (Str.ofString "skipped") (Str.ofString "skipped") (by refine' (?f : (l : Arguments) → hd.fA (hd.cell 17) = l → Arguments) _ ?h; (case f => exact fun l _ => l); (case h => conv => lhs; whnf)) (@FuncBody.stmts (by refine' (?f : (l : List Stmt) → hd.fB (hd.cell 17) = l → List Stmt) _ ?h; (case f => exact fun l _ => l); (case h => conv => lhs; whnf))) (by refine' (?f : (l : Scope) → hd.fC (hd.cell 17) = l → Scope) _ ?h; (case f => exact fun l _ => l); (case h => conv => lhs; whnf)) (3:Nat) (@List.nil (@Prod @Str @Nat)) @Value.none @Value.none @Value.none (@Value.str (Str.ofString "basicplus.tokens") (223:Nat)) (@Option.none @Nat) (@Value.ref (85:Nat)) @Value.none (0:Nat))) (@List.toArray (@Option @Value) (@List.nil (@Option @Value))))) (
  @List.cons (Prod Nat Obj) (@Prod.mk @Nat @Obj (nat_lit 87) (@Obj.mk (@Value.type "tuple") (@Option.none @Nat) (@Data.seq (@List.toArray @Value (@List.nil @Value)) (0:Nat)) (@List.toArray (@Option @Value) (@List.nil (@Option @Value))))) (
  @List.cons (Prod Nat Obj) (@Prod.mk @Nat @Obj (nat_lit 89) (@Obj.mk (@Value.type "tuple") (@Option.none @Nat) (@Data.seq (@List.toArray @Value [(@Value.str (Str.ofString "row") (312:Nat)), (@Value.str (Str.ofString "at") (313:Nat)), (@Value.str (Str.ofString "begin") (314:Nat)), (@Value.str (Str.ofString "end") (315:Nat))]) (0:Nat)) (@List.toArray (@Option @Value) (@List.nil (@Option @Value))))) (
  @List.cons (Prod Nat Obj) (@Prod.mk @Nat @Obj (nat_lit 90) (@Obj.mk (@Value.type "tuple") (@Option.none @Nat) (@Data.seq (@List.toArray @Value (@List.nil @Value)) (0:Nat)) (@List.toArray (@Option @Value) (@List.nil (@Option @Value))))) (
  @List.cons (Prod Nat Obj) (@Prod.mk @Nat @Obj (nat_lit 92) (@Obj.mk (@Value.type "code") (@Option.none @Nat) (@Data.fields (@List.toArray @Value [(@Value.str (Str.ofString "power_end") (309:Nat)), (@Value.str (Str.ofString "power_end") (310:Nat)), (@Value.str (Str.ofString "/claim/cut.py") (311:Nat)), (@Value.int (35 : Int) (0:Nat)), (@Value.int (2 : Int) (0:Nat)), (@Value.int (0 : Int) (0:Nat)), (@Value.int (0 : Int) (0:Nat)), (@Value.int (3 : Int) (0:Nat)), (@Value.ref (87:Nat)), (@Value.bool @Bool.true), (@Value.int (181 : Int) (0:Nat)), (@Value.ref (88:Nat)), @Value.none, (@Value.ref (89:Nat)), (@Value.ref (90:Nat)), (@Value.ref (91:Nat)), (@Value.int (316 : Int) (0:Nat)), (@Value.int (35 : Int) (0:Nat)), (@Value.str (Str.ofString "/claim/cut.py") (317:Nat))])) (@List.toArray (@Option @Value) (@List.nil (@Option @Value))))) (
  @List.cons (Prod Nat Obj) (@Prod.mk @Nat @Obj (nat_lit 93) (@Obj.mk (@Value.type "function") (@Option.none @Nat) (@Data.func (@FuncData.mk (Str.ofString "power_end") (Str.ofString "power_end") (by refine' (?f : (l : Arguments) → hd.fA (hd.cell 18) = l → Arguments) _ ?h; (case f => exact fun l _ => l); (case h => conv => lhs; whnf)) (@FuncBody.stmts (by refine' (?f : (l : List Stmt) → hd.fB (hd.cell 18) = l → List Stmt) _ ?h; (case f => exact fun l _ => l); (case h => conv => lhs; whnf))) (by refine' (?f : (l : Scope) → hd.fC (hd.cell 18) = l → Scope) _ ?h; (case f => exact fun l _ => l); (case h => conv => lhs; whnf)) (3:Nat) (@List.nil (@Prod @Str @Nat)) @Value.none @Value.none @Value.none (@Value.str (Str.ofString "basicplus.tokens") (223:Nat)) (@Option.none @Nat) (@Value.ref (92:Nat)) @Value.none (0:Nat))) (@List.toArray (@Option @Value) (@List.nil (@Option @Value))))) (
  @List.cons (Prod Nat Obj) (@Prod.mk @Nat @Obj (nat_lit 94) (@Obj.mk (@Value.type "tuple") (@Option.none @Nat) (@Data.seq (@List.toArray @Value (@List.nil @Value)) (0:Nat)) (@List.toArray (@Option @Value) (@List.nil (@Option @Value))))) (
  @List.cons (Prod Nat Obj) (@Prod.mk @Nat @Obj (nat_lit 96) (@Obj.mk (@Value.type "tuple") (@Option.none @Nat) (@Data.seq (@List.toArray @Value [(@Value.str (Str.ofString "row") (322:Nat)), (@Value.str (Str.ofString "at") (323:Nat)), (@Value.str (Str.ofString "end") (324:Nat)), (@Value.str (Str.ofString "is_plain") (325:Nat)), (@Value.str (Str.ofString "behind") (326:Nat)), (@Value.str (Str.ofString "last") (327:Nat))]) (0:Nat)) (@List.toArray (@Option @Value) (@List.nil (@Option @Value))))) (
  @List.cons (Prod Nat Obj) (@Prod.mk @Nat @Obj (nat_lit 97) (@Obj.mk (@Value.type "tuple") (@Option.none @Nat) (@Data.seq (@List.toArray @Value (@List.nil @Value)) (0:Nat)) (@List.toArray (@Option @Value) (@List.nil (@Option @Value))))) (
  @List.cons (Prod Nat Obj) (@Prod.mk @Nat @Obj (nat_lit 99) (@Obj.mk (@Value.type "code") (@Option.none @Nat) (@Data.fields (@List.toArray @Value [(@Value.str (Str.ofString "number_at") (319:Nat)), (@Value.str (Str.ofString "number_at") (320:Nat)), (@Value.str (Str.ofString "/claim/cut.py") (321:Nat)), (@Value.int (43 : Int) (0:Nat)), (@Value.int (2 : Int) (0:Nat)), (@Value.int (0 : Int) (0:Nat)), (@Value.int (0 : Int) (0:Nat)), (@Value.int (3 : Int) (0:Nat)), (@Value.ref (94:Nat)), (@Value.bool @Bool.true), (@Value.int (181 : Int) (0:Nat)), (@Value.ref (95:Nat)), @Value.none, (@Value.ref (96:Nat)), (@Value.ref (97:Nat)), (@Value.ref (98:Nat)), (@Value.int (328 : Int) (0:Nat)), (@Value.int (43 : Int) (0:Nat)), (@Value.str (Str.ofString "/claim/cut.py") (329:Nat))])) (@List.toArray (@Option @Value) (@List.nil (@Option @Value))))) (
  @List.cons (Prod Nat Obj) (@Prod.mk @Nat @Obj (nat_lit 100) (@Obj.mk (@Value.type "function") (@Option.none @Nat) (@Data.func (@FuncData.mk (Str.ofString "number_at") (Str.ofString "number_at") (by refine' (?f : (l : Arguments) → hd.fA (hd.cell 19) = l → Arguments) _ ?h; (case f => exact fun l _ => l); (case h => conv => lhs; whnf)) (@FuncBody.stmts (by refine' (?f : (l : List Stmt) → hd.fB (hd.cell 19) = l → List Stmt) _ ?h; (case f => exact fun l _ => l); (case h => conv => lhs; whnf))) (by refine' (?f : (l : Scope) → hd.fC (hd.cell 19) = l → Scope) _ ?h; (case f => exact fun l _ => l); (case h => conv => lhs; whnf)) (3:Nat) (@List.nil (@Prod @Str @Nat)) @Value.none @Value.none @Value.none (@Value.str (Str.ofString "basicplus.tokens") (223:Nat)) (@Option.none @Nat) (@Value.ref (99:Nat)) @Value.none (0:Nat))) (@List.toArray (@Option @Value) (@List.nil (@Option @Value))))) (
  @List.cons (Prod Nat Obj) (@Prod.mk @Nat @Obj (nat_lit 101) (@Obj.mk (@Value.type "tuple") (@Option.none @Nat) (@Data.seq (@List.toArray @Value (@List.nil @Value)) (0:Nat)) (@List.toArray (@Option @Value) (@List.nil (@Option @Value))))) (
  @List.cons (Prod Nat Obj) (@Prod.mk @Nat @Obj (nat_lit 103) (@Obj.mk (@Value.type "tuple") (@Option.none @Nat) (@Data.seq (@List.toArray @Value [(@Value.str (Str.ofString "row") (334:Nat)), (@Value.str (Str.ofString "at") (335:Nat))]) (0:Nat)) (@List.toArray (@Option @Value) (@List.nil (@Option @Value))))) (
  @List.cons (Prod Nat Obj) (@Prod.mk @Nat @Obj (nat_lit 104) (@Obj.mk (@Value.type "tuple") (@Option.none @Nat) (@Data.seq (@List.toArray @Value (@List.nil @Value)) (0:Nat)) (@List.toArray (@Option @Value) (@List.nil (@Option @Value))))) (
  @List.cons (Prod Nat Obj) (@Prod.mk @Nat @Obj (nat_lit 106) (@Obj.mk (@Value.type "code") (@Option.none @Nat) (@Data.fields (@List.toArray @Value [(@Value.str (Str.ofString "name_end") (331:Nat)), (@Value.str (Str.ofString "name_end") (332:Nat)), (@Value.str (Str.ofString "/claim/cut.py") (333:Nat)), (@Value.int (55 : Int) (0:Nat)), (@Value.int (2 : Int) (0:Nat)), (@Value.int (0 : Int) (0:Nat)), (@Value.int (0 : Int) (0:Nat)), (@Value.int (3 : Int) (0:Nat)), (@Value.ref (101:Nat)), (@Value.bool @Bool.true), (@Value.int (181 : Int) (0:Nat)), (@Value.ref (102:Nat)), @Value.none, (@Value.ref (103:Nat)), (@Value.ref (104:Nat)), (@Value.ref (105:Nat)), (@Value.int (336 : Int) (0:Nat)), (@Value.int (55 : Int) (0:Nat)), (@Value.str (Str.ofString "/claim/cut.py") (337:Nat))])) (@List.toArray (@Option @Value) (@List.nil (@Option @Value))))) (
  @List.cons (Prod Nat Obj) (@Prod.mk @Nat @Obj (nat_lit 107) (@Obj.mk (@Value.type "function") (@Option.none @Nat) (@Data.func (@FuncData.mk (Str.ofString "name_end") (Str.ofString "name_end") (by refine' (?f : (l : Arguments) → hd.fA (hd.cell 20) = l → Arguments) _ ?h; (case f => exact fun l _ => l); (case h => conv => lhs; whnf)) (@FuncBody.stmts (by refine' (?f : (l : List Stmt) → hd.fB (hd.cell 20) = l → List Stmt) _ ?h; (case f => exact fun l _ => l); (case h => conv => lhs; whnf))) (by refine' (?f : (l : Scope) → hd.fC (hd.cell 20) = l → Scope) _ ?h; (case f => exact fun l _ => l); (case h => conv => lhs; whnf)) (3:Nat) (@List.nil (@Prod @Str @Nat)) @Value.none @Value.none @Value.none (@Value.str (Str.ofString "basicplus.tokens") (223:Nat)) (@Option.none @Nat) (@Value.ref (106:Nat)) @Value.none (0:Nat))) (@List.toArray (@Option @Value) (@List.nil (@Option @Value))))) (
  @List.cons (Prod Nat Obj) (@Prod.mk @Nat @Obj (nat_lit 108) (@Obj.mk (@Value.type "tuple") (@Option.none @Nat) (@Data.seq (@List.toArray @Value (@List.nil @Value)) (0:Nat)) (@List.toArray (@Option @Value) (@List.nil (@Option @Value))))) (
  @List.cons (Prod Nat Obj) (@Prod.mk @Nat @Obj (nat_lit 110) (@Obj.mk (@Value.type "tuple") (@Option.none @Nat) (@Data.seq (@List.toArray @Value [(@Value.str (Str.ofString "row") (342:Nat)), (@Value.str (Str.ofString "at") (343:Nat)), (@Value.str (Str.ofString "end") (344:Nat))]) (0:Nat)) (@List.toArray (@Option @Value) (@List.nil (@Option @Value))))) (
  @List.cons (Prod Nat Obj) (@Prod.mk @Nat @Obj (nat_lit 111) (@Obj.mk (@Value.type "tuple") (@Option.none @Nat) (@Data.seq (@List.toArray @Value (@List.nil @Value)) (0:Nat)) (@List.toArray (@Option @Value) (@List.nil (@Option @Value))))) (
  @List.cons (Prod Nat Obj) (@Prod.mk @Nat @Obj (nat_lit 113) (@Obj.mk (@Value.type "code") (@Option.none @Nat) (@Data.fields (@List.toArray @Value [(@Value.str (Str.ofString "text_at") (339:Nat)), (@Value.str (Str.ofString "text_at") (340:Nat)), (@Value.str (Str.ofString "/claim/cut.py") (341:Nat)), (@Value.int (59 : Int) (0:Nat)), (@Value.int (2 : Int) (0:Nat)), (@Value.int (0 : Int) (0:Nat)), (@Value.int (0 : Int) (0:Nat)), (@Value.int (3 : Int) (0:Nat)), (@Value.ref (108:Nat)), (@Value.bool @Bool.true), (@Value.int (181 : Int) (0:Nat)), (@Value.ref (109:Nat)), @Value.none, (@Value.ref (110:Nat)), (@Value.ref (111:Nat)), (@Value.ref (112:Nat)), (@Value.int (345 : Int) (0:Nat)), (@Value.int (59 : Int) (0:Nat)), (@Value.str (Str.ofString "/claim/cut.py") (346:Nat))])) (@List.toArray (@Option @Value) (@List.nil (@Option @Value))))) (
  @List.cons (Prod Nat Obj) (@Prod.mk @Nat @Obj (nat_lit 114) (@Obj.mk (@Value.type "function") (@Option.none @Nat) (@Data.func (@FuncData.mk (Str.ofString "text_at") (Str.ofString "text_at") (by refine' (?f : (l : Arguments) → hd.fA (hd.cell 21) = l → Arguments) _ ?h; (case f => exact fun l _ => l); (case h => conv => lhs; whnf)) (@FuncBody.stmts (by refine' (?f : (l : List Stmt) → hd.fB (hd.cell 21) = l → List Stmt) _ ?h; (case f => exact fun l _ => l); (case h => conv => lhs; whnf))) (by refine' (?f : (l : Scope) → hd.fC (hd.cell 21) = l → Scope) _ ?h; (case f => exact fun l _ => l); (case h => conv => lhs; whnf)) (3:Nat) (@List.nil (@Prod @Str @Nat)) @Value.none @Value.none @Value.none (@Value.str (Str.ofString "basicplus.tokens") (223:Nat)) (@Option.none @Nat) (@Value.ref (113:Nat)) @Value.none (0:Nat))) (@List.toArray (@Option @Value) (@List.nil (@Option @Value))))) (
  @List.cons (Prod Nat Obj) (@Prod.mk @Nat @Obj (nat_lit 115) (@Obj.mk (@Value.type "tuple") (@Option.none @Nat) (@Data.seq (@List.toArray @Value (@List.nil @Value)) (0:Nat)) (@List.toArray (@Option @Value) (@List.nil (@Option @Value))))) (
  @List.cons (Prod Nat Obj) (@Prod.mk @Nat @Obj (nat_lit 117) (@Obj.mk (@Value.type "tuple") (@Option.none @Nat) (@Data.seq (@List.toArray @Value [(@Value.str (Str.ofString "row") (351:Nat)), (@Value.str (Str.ofString "at") (352:Nat)), (@Value.str (Str.ofString "later") (353:Nat)), (@Value.str (Str.ofString "both") (354:Nat))]) (0:Nat)) (@List.toArray (@Option @Value) (@List.nil (@Option @Value))))) (
  @List.cons (Prod Nat Obj) (@Prod.mk @Nat @Obj (nat_lit 118) (@Obj.mk (@Value.type "tuple") (@Option.none @Nat) (@Data.seq (@List.toArray @Value (@List.nil @Value)) (0:Nat)) (@List.toArray (@Option @Value) (@List.nil (@Option @Value))))) (
  @List.cons (Prod Nat Obj) (@Prod.mk @Nat @Obj (nat_lit 120) (@Obj.mk (@Value.type "code") (@Option.none @Nat) (@Data.fields (@List.toArray @Value [(@Value.str (Str.ofString "order_at") (348:Nat)), (@Value.str (Str.ofString "order_at") (349:Nat)), (@Value.str (Str.ofString "/claim/cut.py") (350:Nat)), (@Value.int (64 : Int) (0:Nat)), (@Value.int (2 : Int) (0:Nat)), (@Value.int (0 : Int) (0:Nat)), (@Value.int (0 : Int) (0:Nat)), (@Value.int (3 : Int) (0:Nat)), (@Value.ref (115:Nat)), (@Value.bool @Bool.true), (@Value.int (181 : Int) (0:Nat)), (@Value.ref (116:Nat)), @Value.none, (@Value.ref (117:Nat)), (@Value.ref (118:Nat)), (@Value.ref (119:Nat)), (@Value.int (355 : Int) (0:Nat)), (@Value.int (64 : Int) (0:Nat)), (@Value.str (Str.ofString "/claim/cut.py") (356:Nat))])) (@List.toArray (@Option @Value) (@List.nil (@Option @Value))))) (
  @List.cons (Prod Nat Obj) (@Prod.mk @Nat @Obj (nat_lit 121) (@Obj.mk (@Value.type "function") (@Option.none @Nat) (@Data.func (@FuncData.mk (Str.ofString "order_at") (Str.ofString "order_at") (by refine' (?f : (l : Arguments) → hd.fA (hd.cell 22) = l → Arguments) _ ?h; (case f => exact fun l _ => l); (case h => conv => lhs; whnf)) (@FuncBody.stmts (by refine' (?f : (l : List Stmt) → hd.fB (hd.cell 22) = l → List Stmt) _ ?h; (case f => exact fun l _ => l); (case h => conv => lhs; whnf))) (by refine' (?f : (l : Scope) → hd.fC (hd.cell 22) = l → Scope) _ ?h; (case f => exact fun l _ => l); (case h => conv => lhs; whnf)) (3:Nat) (@List.nil (@Prod @Str @Nat)) @Value.none @Value.none @Value.none (@Value.str (Str.ofString "basicplus.tokens") (223:Nat)) (@Option.none @Nat) (@Value.ref (120:Nat)) @Value.none (0:Nat))) (@List.toArray (@Option @Value) (@List.nil (@Option @Value))))) (
  @List.cons (Prod Nat Obj) (@Prod.mk @Nat @Obj (nat_lit 122) (@Obj.mk (@Value.type "tuple") (@Option.none @Nat) (@Data.seq (@List.toArray @Value (@List.nil @Value)) (0:Nat)) (@List.toArray (@Option @Value) (@List.nil (@Option @Value))))) (
  @List.cons (Prod Nat Obj) (@Prod.mk @Nat @Obj (nat_lit 124) (@Obj.mk (@Value.type "tuple") (@Option.none @Nat) (@Data.seq (@List.toArray @Value [(@Value.str (Str.ofString "row") (361:Nat)), (@Value.str (Str.ofString "at") (362:Nat)), (@Value.str (Str.ofString "is_quoted") (363:Nat))]) (0:Nat)) (@List.toArray (@Option @Value) (@List.nil (@Option @Value))))) (
  @List.cons (Prod Nat Obj) (@Prod.mk @Nat @Obj (nat_lit 125) (@Obj.mk (@Value.type "tuple") (@Option.none @Nat) (@Data.seq (@List.toArray @Value (@List.nil @Value)) (0:Nat)) (@List.toArray (@Option @Value) (@List.nil (@Option @Value))))) (
  @List.cons (Prod Nat Obj) (@Prod.mk @Nat @Obj (nat_lit 127) (@Obj.mk (@Value.type "code") (@Option.none @Nat) (@Data.fields (@List.toArray @Value [(@Value.str (Str.ofString "data_end") (358:Nat)), (@Value.str (Str.ofString "data_end") (359:Nat)), (@Value.str (Str.ofString "/claim/cut.py") (360:Nat)), (@Value.int (70 : Int) (0:Nat)), (@Value.int (2 : Int) (0:Nat)), (@Value.int (0 : Int) (0:Nat)), (@Value.int (0 : Int) (0:Nat)), (@Value.int (3 : Int) (0:Nat)), (@Value.ref (122:Nat)), (@Value.bool @Bool.true), (@Value.int (181 : Int) (0:Nat)), (@Value.ref (123:Nat)), @Value.none, (@Value.ref (124:Nat)), (@Value.ref (125:Nat)), (@Value.ref (126:Nat)), (@Value.int (364 : Int) (0:Nat)), (@Value.int (70 : Int) (0:Nat)), (@Value.str (Str.ofString "/claim/cut.py") (365:Nat))])) (@List.toArray (@Option @Value) (@List.nil (@Option @Value))))) (
  @List.cons (Prod Nat Obj) (@Prod.mk @Nat @Obj (nat_lit 128) (@Obj.mk (@Value.type "function") (@Option.none @Nat) (@Data.func (@FuncData.mk (Str.ofString "data_end") (Str.ofString "data_end") (by refine' (?f : (l : Arguments) → hd.fA (hd.cell 23) = l → Arguments) _ ?h; (case f => exact fun l _ => l); (case h => conv => lhs; whnf)) (@FuncBody.stmts (by refine' (?f : (l : List Stmt) → hd.fB (hd.cell 23) = l → List Stmt) _ ?h; (case f => exact fun l _ => l); (case h => conv => lhs; whnf))) (by refine' (?f : (l : Scope) → hd.fC (hd.cell 23) = l → Scope) _ ?h; (case f => exact fun l _ => l); (case h => conv => lhs; whnf)) (3:Nat) (@List.nil (@Prod @Str @Nat)) @Value.none @Value.none @Value.none (@Value.str (Str.ofString "basicplus.tokens") (223:Nat)) (@Option.none @Nat) (@Value.ref (127:Nat)) @Value.none (0:Nat))) (@List.toArray (@Option @Value) (@List.nil (@Option @Value))))) (
  @List.cons (Prod Nat Obj) (@Prod.mk @Nat @Obj (nat_lit 129) (@Obj.mk (@Value.type "tuple") (@Option.none @Nat) (@Data.seq (@List.toArray @Value (@List.nil @Value)) (0:Nat)) (@List.toArray (@Option @Value) (@List.nil (@Option @Value))))) (
  @List.cons (Prod Nat Obj) (@Prod.mk @Nat @Obj (nat_lit 131) (@Obj.mk (@Value.type "tuple") (@Option.none @Nat) (@Data.seq (@List.toArray @Value [(@Value.str (Str.ofString "text") (370:Nat))]) (0:Nat)) (@List.toArray (@Option @Value) (@List.nil (@Option @Value))))) (
  @List.cons (Prod Nat Obj) (@Prod.mk @Nat @Obj (nat_lit 132) (@Obj.mk (@Value.type "tuple") (@Option.none @Nat) (@Data.seq (@List.toArray @Value (@List.nil @Value)) (0:Nat)) (@List.toArray (@Option @Value) (@List.nil (@Option @Value))))) (
  @List.cons (Prod Nat Obj) (@Prod.mk @Nat @Obj (nat_lit 134) (@Obj.mk (@Value.type "code") (@Option.none @Nat) (@Data.fields (@List.toArray @Value [(@Value.str (Str.ofString "remark_of") (367:Nat)), (@Value.str (Str.ofString "remark_of") (368:Nat)), (@Value.str (Str.ofString "/claim/cut.py") (369:Nat)), (@Value.int (77 : Int) (0:Nat)), (@Value.int (1 : Int) (0:Nat)), (@Value.int (0 : Int) (0:Nat)), (@Value.int (0 : Int) (0:Nat)), (@Value.int (3 : Int) (0:Nat)), (@Value.ref (129:Nat)), (@Value.bool @Bool.true), (@Value.int (181 : Int) (0:Nat)), (@Value.ref (130:Nat)), @Value.none, (@Value.ref (131:Nat)), (@Value.ref (132:Nat)), (@Value.ref (133:Nat)), (@Value.int (371 : Int) (0:Nat)), (@Value.int (77 : Int) (0:Nat)), (@Value.str (Str.ofString "/claim/cut.py") (372:Nat))])) (@List.toArray (@Option @Value) (@List.nil (@Option @Value))))) (
  @List.cons (Prod Nat Obj) (@Prod.mk @Nat @Obj (nat_lit 135) (@Obj.mk (@Value.type "function") (@Option.none @Nat) (@Data.func (@FuncData.mk (Str.ofString "remark_of") (Str.ofString "remark_of") (by refine' (?f : (l : Arguments) → hd.fA (hd.cell 24) = l → Arguments) _ ?h; (case f => exact fun l _ => l); (case h => conv => lhs; whnf)) (@FuncBody.stmts (by refine' (?f : (l : List Stmt) → hd.fB (hd.cell 24) = l → List Stmt) _ ?h; (case f => exact fun l _ => l); (case h => conv => lhs; whnf))) (by refine' (?f : (l : Scope) → hd.fC (hd.cell 24) = l → Scope) _ ?h; (case f => exact fun l _ => l); (case h => conv => lhs; whnf)) (3:Nat) (@List.nil (@Prod @Str @Nat)) @Value.none @Value.none @Value.none (@Value.str (Str.ofString "basicplus.tokens") (223:Nat)) (@Option.none @Nat) (@Value.ref (134:Nat)) @Value.none (0:Nat))) (@List.toArray (@Option @Value) (@List.nil (@Option @Value))))) (
  @List.cons (Prod Nat Obj) (@Prod.mk @Nat @Obj (nat_lit 136) (@Obj.mk (@Value.type "tuple") (@Option.none @Nat) (@Data.seq (@List.toArray @Value (@List.nil @Value)) (0:Nat)) (@List.toArray (@Option @Value) (@List.nil (@Option @Value))))) (
  @List.cons (Prod Nat Obj) (@Prod.mk @Nat @Obj (nat_lit 138) (@Obj.mk (@Value.type "tuple") (@Option.none @Nat) (@Data.seq (@List.toArray @Value [(@Value.str (Str.ofString "row") (377:Nat)), (@Value.str (Str.ofString "at") (378:Nat)), (@Value.str (Str.ofString "end") (379:Nat)), (@Value.str (Str.ofString "told") (380:Nat)), (@Value.str (Str.ofString "last") (381:Nat))]) (0:Nat)) (@List.toArray (@Option @Value) (@List.nil (@Option @Value))))) (
  @List.cons (Prod Nat Obj) (@Prod.mk @Nat @Obj (nat_lit 139) (@Obj.mk (@Value.type "tuple") (@Option.none @Nat) (@Data.seq (@List.toArray @Value (@List.nil @Value)) (0:Nat)) (@List.toArray (@Option @Value) (@List.nil (@Option @Value))))) (
  @List.cons (Prod Nat Obj) (@Prod.mk @Nat @Obj (nat_lit 141) (@Obj.mk (@Value.type "code") (@Option.none @Nat) (@Data.fields (@List.toArray @Value [(@Value.str (Str.ofString "word_at") (374:Nat)), (@Value.str (Str.ofString "word_at") (375:Nat)), (@Value.str (Str.ofString "/claim/cut.py") (376:Nat)), (@Value.int (79 : Int) (0:Nat)), (@Value.int (2 : Int) (0:Nat)), (@Value.int (0 : Int) (0:Nat)), (@Value.int (0 : Int) (0:Nat)), (@Value.int (3 : Int) (0:Nat)), (@Value.ref (136:Nat)), (@Value.bool @Bool.true), (@Value.int (181 : Int) (0:Nat)), (@Value.ref (137:Nat)), @Value.none, (@Value.ref (138:Nat)), (@Value.ref (139:Nat)), (@Value.ref (140:Nat)), (@Value.int (382 : Int) (0:Nat)), (@Value.int (79 : Int) (0:Nat)), (@Value.str (Str.ofString "/claim/cut.py") (383:Nat))])) (@List.toArray (@Option @Value) (@List.nil (@Option @Value))))) (
  @List.cons (Prod Nat Obj) (@Prod.mk @Nat @Obj (nat_lit 142) (@Obj.mk (@Value.type "function") (@Option.none @Nat) (@Data.func (@FuncData.mk (Str.ofString "word_at") (Str.ofString "word_at") (by refine' (?f : (l : Arguments) → hd.fA (hd.cell 25) = l → Arguments) _ ?h; (case f => exact fun l _ => l); (case h => conv => lhs; whnf)) (@FuncBody.stmts (by refine' (?f : (l : List Stmt) → hd.fB (hd.cell 25) = l → List Stmt) _ ?h; (case f => exact fun l _ => l); (case h => conv => lhs; whnf))) (by refine' (?f : (l : Scope) → hd.fC (hd.cell 25) = l → Scope) _ ?h; (case f => exact fun l _ => l); (case h => conv => lhs; whnf)) (3:Nat) (@List.nil (@Prod @Str @Nat)) @Value.none @Value.none @Value.none (@Value.str (Str.ofString "basicplus.tokens") (223:Nat)) (@Option.none @Nat) (@Value.ref (141:Nat)) @Value.none (0:Nat))) (@List.toArray (@Option @Value) (@List.nil (@Option @Value))))) (
  @List.cons (Prod Nat Obj) (@Prod.mk @Nat @Obj (nat_lit 143) (@Obj.mk (@Value.type "tuple") (@Option.none @Nat) (@Data.seq (@List.toArray @Value (@List.nil @Value)) (0:Nat)) (@List.toArray (@Option @Value) (@List.nil (@Option @Value))))) (
  @List.cons (Prod Nat Obj) (@Prod.mk @Nat @Obj (nat_lit 145) (@Obj.mk (@Value.type "tuple") (@Option.none @Nat) (@Data.seq (@List.toArray @Value [(@Value.str (Str.ofString "row") (388:Nat)), (@Value.str (Str.ofString "at") (389:Nat)), (@Value.str (Str.ofString "sign") (390:Nat)), (@Value.str (Str.ofString "told") (391:Nat)), (@Value.str (Str.ofString "end") (392:Nat))]) (0:Nat)) (@List.toArray (@Option @Value) (@List.nil (@Option @Value))))) (
  @List.cons (Prod Nat Obj) (@Prod.mk @Nat @Obj (nat_lit 146) (@Obj.mk (@Value.type "tuple") (@Option.none @Nat) (@Data.seq (@List.toArray @Value (@List.nil @Value)) (0:Nat)) (@List.toArray (@Option @Value) (@List.nil (@Option @Value))))) (
  @List.cons (Prod Nat Obj) (@Prod.mk @Nat @Obj (nat_lit 148) (@Obj.mk (@Value.type "code") (@Option.none @Nat) (@Data.fields (@List.toArray @Value [(@Value.str (Str.ofString "tokens_at") (385:Nat)), (@Value.str (Str.ofString "tokens_at") (386:Nat)), (@Value.str (Str.ofString "/claim/cut.py") (387:Nat)), (@Value.int (88 : Int) (0:Nat)), (@Value.int (2 : Int) (0:Nat)), (@Value.int (0 : Int) (0:Nat)), (@Value.int (0 : Int) (0:Nat)), (@Value.int (3 : Int) (0:Nat)), (@Value.ref (143:Nat)), (@Value.bool @Bool.true), (@Value.int (181 : Int) (0:Nat)), (@Value.ref (144:Nat)), @Value.none, (@Value.ref (145:Nat)), (@Value.ref (146:Nat)), (@Value.ref (147:Nat)), (@Value.int (393 : Int) (0:Nat)), (@Value.int (88 : Int) (0:Nat)), (@Value.str (Str.ofString "/claim/cut.py") (394:Nat))])) (@List.toArray (@Option @Value) (@List.nil (@Option @Value))))) (
  @List.cons (Prod Nat Obj) (@Prod.mk @Nat @Obj (nat_lit 149) (@Obj.mk (@Value.type "function") (@Option.none @Nat) (@Data.func (@FuncData.mk (Str.ofString "tokens_at") (Str.ofString "tokens_at") (by refine' (?f : (l : Arguments) → hd.fA (hd.cell 26) = l → Arguments) _ ?h; (case f => exact fun l _ => l); (case h => conv => lhs; whnf)) (@FuncBody.stmts (by refine' (?f : (l : List Stmt) → hd.fB (hd.cell 26) = l → List Stmt) _ ?h; (case f => exact fun l _ => l); (case h => conv => lhs; whnf))) (by refine' (?f : (l : Scope) → hd.fC (hd.cell 26) = l → Scope) _ ?h; (case f => exact fun l _ => l); (case h => conv => lhs; whnf)) (3:Nat) (@List.nil (@Prod @Str @Nat)) @Value.none @Value.none @Value.none (@Value.str (Str.ofString "basicplus.tokens") (223:Nat)) (@Option.none @Nat) (@Value.ref (148:Nat)) @Value.none (0:Nat))) (@List.toArray (@Option @Value) (@List.nil (@Option @Value))))) (
  @List.cons (Prod Nat Obj) (@Prod.mk @Nat @Obj (nat_lit 150) (@Obj.mk (@Value.type "tuple") (@Option.none @Nat) (@Data.seq (@List.toArray @Value (@List.nil @Value)) (0:Nat)) (@List.toArray (@Option @Value) (@List.nil (@Option @Value))))) (
  @List.cons (Prod Nat Obj) (@Prod.mk @Nat @Obj (nat_lit 152) (@Obj.mk (@Value.type "tuple") (@Option.none @Nat) (@Data.seq (@List.toArray @Value [(@Value.str (Str.ofString "row") (399:Nat)), (@Value.str (Str.ofString "found") (400:Nat)), (@Value.str (Str.ofString "at") (401:Nat)), (@Value.str (Str.ofString "told") (402:Nat))]) (0:Nat)) (@List.toArray (@Option @Value) (@List.nil (@Option @Value))))) (
  @List.cons (Prod Nat Obj) (@Prod.mk @Nat @Obj (nat_lit 153) (@Obj.mk (@Value.type "tuple") (@Option.none @Nat) (@Data.seq (@List.toArray @Value (@List.nil @Value)) (0:Nat)) (@List.toArray (@Option @Value) (@List.nil (@Option @Value))))) (
  @List.cons (Prod Nat Obj) (@Prod.mk @Nat @Obj (nat_lit 155) (@Obj.mk (@Value.type "code") (@Option.none @Nat) (@Data.fields (@List.toArray @Value [(@Value.str (Str.ofString "tokens_of") (396:Nat)), (@Value.str (Str.ofString "tokens_of") (397:Nat)), (@Value.str (Str.ofString "/claim/cut.py") (398:Nat)), (@Value.int (108 : Int) (0:Nat)), (@Value.int (1 : Int) (0:Nat)), (@Value.int (0 : Int) (0:Nat)), (@Value.int (0 : Int) (0:Nat)), (@Value.int (3 : Int) (0:Nat)), (@Value.ref (150:Nat)), (@Value.bool @Bool.true), (@Value.int (181 : Int) (0:Nat)), (@Value.ref (151:Nat)), @Value.none, (@Value.ref (152:Nat)), (@Value.ref (153:Nat)), (@Value.ref (154:Nat)), (@Value.int (403 : Int) (0:Nat)), (@Value.int (108 : Int) (0:Nat)), (@Value.str (Str.ofString "/claim/cut.py") (404:Nat))])) (@List.toArray (@Option @Value) (@List.nil (@Option @Value))))) (
  @List.cons (Prod Nat Obj) (@Prod.mk @Nat @Obj (nat_lit 156) (@Obj.mk (@Value.type "function") (@Option.none @Nat) (@Data.func (@FuncData.mk (Str.ofString "tokens_of") (Str.ofString "tokens_of") (by refine' (?f : (l : Arguments) → hd.fA (hd.cell 27) = l → Arguments) _ ?h; (case f => exact fun l _ => l); (case h => conv => lhs; whnf)) (@FuncBody.stmts (by refine' (?f : (l : List Stmt) → hd.fB (hd.cell 27) = l → List Stmt) _ ?h; (case f => exact fun l _ => l); (case h => conv => lhs; whnf))) (by refine' (?f : (l : Scope) → hd.fC (hd.cell 27) = l → Scope) _ ?h; (case f => exact fun l _ => l); (case h => conv => lhs; whnf)) (3:Nat) (@List.nil (@Prod @Str @Nat)) @Value.none @Value.none @Value.none (@Value.str (Str.ofString "basicplus.tokens") (223:Nat)) (@Option.none @Nat) (@Value.ref (155:Nat)) @Value.none (0:Nat))) (@List.toArray (@Option @Value) (@List.nil (@Option @Value))))) (
  @List.cons (Prod Nat Obj) (@Prod.mk @Nat @Obj (nat_lit 157) (@Obj.mk (@Value.type "tuple") (@Option.none @Nat) (@Data.seq (@List.toArray @Value (@List.nil @Value)) (0:Nat)) (@List.toArray (@Option @Value) (@List.nil (@Option @Value))))) (
  @List.cons (Prod Nat Obj) (@Prod.mk @Nat @Obj (nat_lit 159) (@Obj.mk (@Value.type "tuple") (@Option.none @Nat) (@Data.seq (@List.toArray @Value [(@Value.str (Str.ofString "token") (409:Nat)), (@Value.str (Str.ofString "kind") (410:Nat)), (@Value.str (Str.ofString "told") (411:Nat))]) (0:Nat)) (@List.toArray (@Option @Value) (@List.nil (@Option @Value))))) (
  @List.cons (Prod Nat Obj) (@Prod.mk @Nat @Obj (nat_lit 160) (@Obj.mk (@Value.type "tuple") (@Option.none @Nat) (@Data.seq (@List.toArray @Value (@List.nil @Value)) (0:Nat)) (@List.toArray (@Option @Value) (@List.nil (@Option @Value))))) (
  @List.cons (Prod Nat Obj) (@Prod.mk @Nat @Obj (nat_lit 162) (@Obj.mk (@Value.type "code") (@Option.none @Nat) (@Data.fields (@List.toArray @Value [(@Value.str (Str.ofString "token_text") (406:Nat)), (@Value.str (Str.ofString "token_text") (407:Nat)), (@Value.str (Str.ofString "/claim/cut.py") (408:Nat)), (@Value.int (117 : Int) (0:Nat)), (@Value.int (1 : Int) (0:Nat)), (@Value.int (0 : Int) (0:Nat)), (@Value.int (0 : Int) (0:Nat)), (@Value.int (3 : Int) (0:Nat)), (@Value.ref (157:Nat)), (@Value.bool @Bool.true), (@Value.int (181 : Int) (0:Nat)), (@Value.ref (158:Nat)), @Value.none, (@Value.ref (159:Nat)), (@Value.ref (160:Nat)), (@Value.ref (161:Nat)), (@Value.int (412 : Int) (0:Nat)), (@Value.int (117 : Int) (0:Nat)), (@Value.str (Str.ofString "/claim/cut.py") (413:Nat))])) (@List.toArray (@Option @Value) (@List.nil (@Option @Value))))) (
  @List.cons (Prod Nat Obj) (@Prod.mk @Nat @Obj (nat_lit 163) (@Obj.mk (@Value.type "function") (@Option.none @Nat) (@Data.func (@FuncData.mk (Str.ofString "token_text") (Str.ofString "token_text") (by refine' (?f : (l : Arguments) → hd.fA (hd.cell 28) = l → Arguments) _ ?h; (case f => exact fun l _ => l); (case h => conv => lhs; whnf)) (@FuncBody.stmts (by refine' (?f : (l : List Stmt) → hd.fB (hd.cell 28) = l → List Stmt) _ ?h; (case f => exact fun l _ => l); (case h => conv => lhs; whnf))) (by refine' (?f : (l : Scope) → hd.fC (hd.cell 28) = l → Scope) _ ?h; (case f => exact fun l _ => l); (case h => conv => lhs; whnf)) (3:Nat) (@List.nil (@Prod @Str @Nat)) @Value.none @Value.none @Value.none (@Value.str (Str.ofString "basicplus.tokens") (223:Nat)) (@Option.none @Nat) (@Value.ref (162:Nat)) @Value.none (0:Nat))) (@List.toArray (@Option @Value) (@List.nil (@Option @Value))))) (
  @List.cons (Prod Nat Obj) (@Prod.mk @Nat @Obj (nat_lit 164) (@Obj.mk (@Value.type "tuple") (@Option.none @Nat) (@Data.seq (@List.toArray @Value (@List.nil @Value)) (0:Nat)) (@List.toArray (@Option @Value) (@List.nil (@Option @Value))))) (
  @List.cons (Prod Nat Obj) (@Prod.mk @Nat @Obj (nat_lit 166) (@Obj.mk (@Value.type "tuple") (@Option.none @Nat) (@Data.seq (@List.toArray @Value [(@Value.str (Str.ofString "one") (418:Nat)), (@Value.str (Str.ofString "other") (419:Nat))]) (0:Nat)) (@List.toArray (@Option @Value) (@List.nil (@Option @Value))))) (
  @List.cons (Prod Nat Obj) (@Prod.mk @Nat @Obj (nat_lit 167) (@Obj.mk (@Value.type "tuple") (@Option.none @Nat) (@Data.seq (@List.toArray @Value (@List.nil @Value)) (0:Nat)) (@List.toArray (@Option @Value) (@List.nil (@Option @Value))))) (
  @List.cons (Prod Nat Obj) (@Prod.mk @Nat @Obj (nat_lit 169) (@Obj.mk (@Value.type "code") (@Option.none @Nat) (@Data.fields (@List.toArray @Value [(@Value.str (Str.ofString "needs_blank") (415:Nat)), (@Value.str (Str.ofString "needs_blank") (416:Nat)), (@Value.str (Str.ofString "/claim/cut.py") (417:Nat)), (@Value.int (124 : Int) (0:Nat)), (@Value.int (2 : Int) (0:Nat)), (@Value.int (0 : Int) (0:Nat)), (@Value.int (0 : Int) (0:Nat)), (@Value.int (3 : Int) (0:Nat)), (@Value.ref (164:Nat)), (@Value.bool @Bool.true), (@Value.int (181 : Int) (0:Nat)), (@Value.ref (165:Nat)), @Value.none, (@Value.ref (166:Nat)), (@Value.ref (167:Nat)), (@Value.ref (168:Nat)), (@Value.int (420 : Int) (0:Nat)), (@Value.int (124 : Int) (0:Nat)), (@Value.str (Str.ofString "/claim/cut.py") (421:Nat))])) (@List.toArray (@Option @Value) (@List.nil (@Option @Value))))) (
  @List.cons (Prod Nat Obj) (@Prod.mk @Nat @Obj (nat_lit 170) (@Obj.mk (@Value.type "function") (@Option.none @Nat) (@Data.func (@FuncData.mk (Str.ofString "needs_blank") (Str.ofString "needs_blank") (by refine' (?f : (l : Arguments) → hd.fA (hd.cell 29) = l → Arguments) _ ?h; (case f => exact fun l _ => l); (case h => conv => lhs; whnf)) (@FuncBody.stmts (by refine' (?f : (l : List Stmt) → hd.fB (hd.cell 29) = l → List Stmt) _ ?h; (case f => exact fun l _ => l); (case h => conv => lhs; whnf))) (by refine' (?f : (l : Scope) → hd.fC (hd.cell 29) = l → Scope) _ ?h; (case f => exact fun l _ => l); (case h => conv => lhs; whnf)) (3:Nat) (@List.nil (@Prod @Str @Nat)) @Value.none @Value.none @Value.none (@Value.str (Str.ofString "basicplus.tokens") (223:Nat)) (@Option.none @Nat) (@Value.ref (169:Nat)) @Value.none (0:Nat))) (@List.toArray (@Option @Value) (@List.nil (@Option @Value))))) (
  @List.cons (Prod Nat Obj) (@Prod.mk @Nat @Obj (nat_lit 171) (@Obj.mk (@Value.type "tuple") (@Option.none @Nat) (@Data.seq (@List.toArray @Value (@List.nil @Value)) (0:Nat)) (@List.toArray (@Option @Value) (@List.nil (@Option @Value))))) (
  @List.cons (Prod Nat Obj) (@Prod.mk @Nat @Obj (nat_lit 173) (@Obj.mk (@Value.type "tuple") (@Option.none @Nat) (@Data.seq (@List.toArray @Value [(@Value.str (Str.ofString "tokens") (426:Nat)), (@Value.str (Str.ofString "found") (427:Nat)), (@Value.str (Str.ofString "at") (428:Nat)), (@Value.str (Str.ofString "token") (429:Nat)), (@Value.str (Str.ofString "told") (430:Nat))]) (0:Nat)) (@List.toArray (@Option @Value) (@List.nil (@Option @Value))))) (
  @List.cons (Prod Nat Obj) (@Prod.mk @Nat @Obj (nat_lit 174) (@Obj.mk (@Value.type "tuple") (@Option.none @Nat) (@Data.seq (@List.toArray @Value (@List.nil @Value)) (0:Nat)) (@List.toArray (@Option @Value) (@List.nil (@Option @Value))))) (
  @List.cons (Prod Nat Obj) (@Prod.mk @Nat @Obj (nat_lit 176) (@Obj.mk (@Value.type "code") (@Option.none @Nat) (@Data.fields (@List.toArray @Value [(@Value.str (Str.ofString "row_of") (423:Nat)), (@Value.str (Str.ofString "row_of") (424:Nat)), (@Value.str (Str.ofString "/claim/cut.py") (425:Nat)), (@Value.int (130 : Int) (0:Nat)), (@Value.int (1 : Int) (0:Nat)), (@Value.int (0 : Int) (0:Nat)), (@Value.int (0 : Int) (0:Nat)), (@Value.int (3 : Int) (0:Nat)), (@Value.ref (171:Nat)), (@Value.bool @Bool.true), (@Value.int (181 : Int) (0:Nat)), (@Value.ref (172:Nat)), @Value.none, (@Value.ref (173:Nat)), (@Value.ref (174:Nat)), (@Value.ref (175:Nat)), (@Value.int (431 : Int) (0:Nat)), (@Value.int (130 : Int) (0:Nat)), (@Value.str (Str.ofString "/claim/cut.py") (432:Nat))])) (@List.toArray (@Option @Value) (@List.nil (@Option @Value))))) (
  @List.cons (Prod Nat Obj) (@Prod.mk @Nat @Obj (nat_lit 177) (@Obj.mk (@Value.type "function") (@Option.none @Nat) (@Data.func (@FuncData.mk (Str.ofString "row_of") (Str.ofString "row_of") (by refine' (?f : (l : Arguments) → hd.fA (hd.cell 30) = l → Arguments) _ ?h; (case f => exact fun l _ => l); (case h => conv => lhs; whnf)) (@FuncBody.stmts (by refine' (?f : (l : List Stmt) → hd.fB (hd.cell 30) = l → List Stmt) _ ?h; (case f => exact fun l _ => l); (case h => conv => lhs; whnf))) (by refine' (?f : (l : Scope) → hd.fC (hd.cell 30) = l → Scope) _ ?h; (case f => exact fun l _ => l); (case h => conv => lhs; whnf)) (3:Nat) (@List.nil (@Prod @Str @Nat)) @Value.none @Value.none @Value.none (@Value.str (Str.ofString "basicplus.tokens") (223:Nat)) (@Option.none @Nat) (@Value.ref (176:Nat)) @Value.none (0:Nat))) (@List.toArray (@Option @Value) (@List.nil (@Option @Value))))) (
  @List.cons (Prod Nat Obj) (@Prod.mk @Nat @Obj (nat_lit 178) (@Obj.mk (@Value.type "tuple") (@Option.none @Nat) (@Data.seq (@List.toArray @Value (@List.nil @Value)) (0:Nat)) (@List.toArray (@Option @Value) (@List.nil (@Option @Value))))) (
  @List.cons (Prod Nat Obj) (@Prod.mk @Nat @Obj (nat_lit 180) (@Obj.mk (@Value.type "tuple") (@Option.none @Nat) (@Data.seq (@List.toArray @Value [(@Value.str (Str.ofString "row") (437:Nat)), (@Value.str (Str.ofString "found") (438:Nat))]) (0:Nat)) (@List.toArray (@Option @Value) (@List.nil (@Option @Value))))) (
  @List.cons (Prod Nat Obj) (@Prod.mk @Nat @Obj (nat_lit 181) (@Obj.mk (@Value.type "tuple") (@Option.none @Nat) (@Data.seq (@List.toArray @Value (@List.nil @Value)) (0:Nat)) (@List.toArray (@Option @Value) (@List.nil (@Option @Value))))) (
  @List.cons (Prod Nat Obj) (@Prod.mk @Nat @Obj (nat_lit 183) (@Obj.mk (@Value.type "code") (@Option.none @Nat) (@Data.fields (@List.toArray @Value [(@Value.str (Str.ofString "canonical") (434:Nat)), (@Value.str (Str.ofString "canonical") (435:Nat)), (@Value.str (Str.ofString "/claim/cut.py") (436:Nat)), (@Value.int (138 : Int) (0:Nat)), (@Value.int (1 : Int) (0:Nat)), (@Value.int (0 : Int) (0:Nat)), (@Value.int (0 : Int) (0:Nat)), (@Value.int (3 : Int) (0:Nat)), (@Value.ref (178:Nat)), (@Value.bool @Bool.true), (@Value.int (181 : Int) (0:Nat)), (@Value.ref (179:Nat)), @Value.none, (@Value.ref (180:Nat)), (@Value.ref (181:Nat)), (@Value.ref (182:Nat)), (@Value.int (439 : Int) (0:Nat)), (@Value.int (138 : Int) (0:Nat)), (@Value.str (Str.ofString "/claim/cut.py") (440:Nat))])) (@List.toArray (@Option @Value) (@List.nil (@Option @Value))))) (
  @List.cons (Prod Nat Obj) (@Prod.mk @Nat @Obj (nat_lit 184) (@Obj.mk (@Value.type "function") (@Option.none @Nat) (@Data.func (@FuncData.mk (Str.ofString "canonical") (Str.ofString "canonical") (by refine' (?f : (l : Arguments) → hd.fA (hd.cell 31) = l → Arguments) _ ?h; (case f => exact fun l _ => l); (case h => conv => lhs; whnf)) (@FuncBody.stmts (by refine' (?f : (l : List Stmt) → hd.fB (hd.cell 31) = l → List Stmt) _ ?h; (case f => exact fun l _ => l); (case h => conv => lhs; whnf))) (by refine' (?f : (l : Scope) → hd.fC (hd.cell 31) = l → Scope) _ ?h; (case f => exact fun l _ => l); (case h => conv => lhs; whnf)) (3:Nat) (@List.nil (@Prod @Str @Nat)) @Value.none @Value.none @Value.none (@Value.str (Str.ofString "basicplus.tokens") (223:Nat)) (@Option.none @Nat) (@Value.ref (183:Nat)) @Value.none (0:Nat))) (@List.toArray (@Option @Value) (@List.nil (@Option @Value))))) (
  @List.cons (Prod Nat Obj) (@Prod.mk @Nat @Obj (nat_lit 185) (@Obj.mk (@Value.type "tuple") (@Option.none @Nat) (@Data.seq (@List.toArray @Value (@List.nil @Value)) (0:Nat)) (@List.toArray (@Option @Value) (@List.nil (@Option @Value))))) (
  @List.cons (Prod Nat Obj) (@Prod.mk @Nat @Obj (nat_lit 187) (@Obj.mk (@Value.type "tuple") (@Option.none @Nat) (@Data.seq (@List.toArray @Value [(@Value.str (Str.ofString "bag") (447:Nat)), (@Value.str (Str.ofString "many") (448:Nat))]) (0:Nat)) (@List.toArray (@Option @Value) (@List.nil (@Option @Value))))) (
  @List.cons (Prod Nat Obj) (@Prod.mk @Nat @Obj (nat_lit 188) (@Obj.mk (@Value.type "tuple") (@Option.none @Nat) (@Data.seq (@List.toArray @Value (@List.nil @Value)) (0:Nat)) (@List.toArray (@Option @Value) (@List.nil (@Option @Value))))) (
  @List.cons (Prod Nat Obj) (@Prod.mk @Nat @Obj (nat_lit 190) (@Obj.mk (@Value.type "code") (@Option.none @Nat) (@Data.fields (@List.toArray @Value [(@Value.str (Str.ofString "_law_take") (444:Nat)), (@Value.str (Str.ofString "_law_take") (445:Nat)), (@Value.str (Str.ofString "/claim/cut.py") (446:Nat)), (@Value.int (144 : Int) (0:Nat)), (@Value.int (2 : Int) (0:Nat)), (@Value.int (0 : Int) (0:Nat)), (@Value.int (0 : Int) (0:Nat)), (@Value.int (3 : Int) (0:Nat)), (@Value.ref (185:Nat)), (@Value.bool @Bool.true), (@Value.int (181 : Int) (0:Nat)), (@Value.ref (186:Nat)), @Value.none, (@Value.ref (187:Nat)), (@Value.ref (188:Nat)), (@Value.ref (189:Nat)), (@Value.int (449 : Int) (0:Nat)), (@Value.int (144 : Int) (0:Nat)), (@Value.str (Str.ofString "/claim/cut.py") (450:Nat))])) (@List.toArray (@Option @Value) (@List.nil (@Option @Value))))) (
  @List.cons (Prod Nat Obj) (@Prod.mk @Nat @Obj (nat_lit 191) (@Obj.mk (@Value.type "function") (@Option.none @Nat) (@Data.func (@FuncData.mk (Str.ofString "_law_take") (Str.ofString "_law_take") (by refine' (?f : (l : Arguments) → hd.fA (hd.cell 33) = l → Arguments) _ ?h; (case f => exact fun l _ => l); (case h => conv => lhs; whnf)) (@FuncBody.stmts (by refine' (?f : (l : List Stmt) → hd.fB (hd.cell 33) = l → List Stmt) _ ?h; (case f => exact fun l _ => l); (case h => conv => lhs; whnf))) (by refine' (?f : (l : Scope) → hd.fC (hd.cell 33) = l → Scope) _ ?h; (case f => exact fun l _ => l); (case h => conv => lhs; whnf)) (3:Nat) (@List.nil (@Prod @Str @Nat)) @Value.none @Value.none @Value.none (@Value.str (Str.ofString "law_pq0174_01") (442:Nat)) (@Option.none @Nat) (@Value.ref (190:Nat)) @Value.none (0:Nat))) (@List.toArray (@Option @Value) (@List.nil (@Option @Value))))) (
  @List.cons (Prod Nat Obj) (@Prod.mk @Nat @Obj (nat_lit 192) (@Obj.mk (@Value.type "tuple") (@Option.none @Nat) (@Data.seq (@List.toArray @Value (@List.nil @Value)) (0:Nat)) (@List.toArray (@Option @Value) (@List.nil (@Option @Value))))) (
  @List.cons (Prod Nat Obj) (@Prod.mk @Nat @Obj (nat_lit 194) (@Obj.mk (@Value.type "tuple") (@Option.none @Nat) (@Data.seq (@List.toArray @Value [(@Value.str (Str.ofString "bag") (455:Nat)), (@Value.str (Str.ofString "form") (456:Nat)), (@Value.str (Str.ofString "word") (457:Nat)), (@Value.str (Str.ofString "name") (458:Nat)), (@Value.str (Str.ofString "told") (459:Nat)), (@Value.str (Str.ofString "sign") (460:Nat)), (@Value.str (Str.ofString "some") (461:Nat)), (@Value.str (Str.ofString "written") (462:Nat))]) (0:Nat)) (@List.toArray (@Option @Value) (@List.nil (@Option @Value))))) (
  @List.cons (Prod Nat Obj) (@Prod.mk @Nat @Obj (nat_lit 195) (@Obj.mk (@Value.type "tuple") (@Option.none @Nat) (@Data.seq (@List.toArray @Value (@List.nil @Value)) (0:Nat)) (@List.toArray (@Option @Value) (@List.nil (@Option @Value))))) (
  @List.cons (Prod Nat Obj) (@Prod.mk @Nat @Obj (nat_lit 197) (@Obj.mk (@Value.type "code") (@Option.none @Nat) (@Data.fields (@List.toArray @Value [(@Value.str (Str.ofString "_law_piece") (452:Nat)), (@Value.str (Str.ofString "_law_piece") (453:Nat)), (@Value.str (Str.ofString "/claim/cut.py") (454:Nat)), (@Value.int (149 : Int) (0:Nat)), (@Value.int (1 : Int) (0:Nat)), (@Value.int (0 : Int) (0:Nat)), (@Value.int (0 : Int) (0:Nat)), (@Value.int (3 : Int) (0:Nat)), (@Value.ref (192:Nat)), (@Value.bool @Bool.true), (@Value.int (181 : Int) (0:Nat)), (@Value.ref (193:Nat)), @Value.none, (@Value.ref (194:Nat)), (@Value.ref (195:Nat)), (@Value.ref (196:Nat)), (@Value.int (463 : Int) (0:Nat)), (@Value.int (149 : Int) (0:Nat)), (@Value.str (Str.ofString "/claim/cut.py") (464:Nat))])) (@List.toArray (@Option @Value) (@List.nil (@Option @Value))))) (
  @List.cons (Prod Nat Obj) (@Prod.mk @Nat @Obj (nat_lit 198) (@Obj.mk (@Value.type "function") (@Option.none @Nat) (@Data.func (@FuncData.mk (Str.ofString "_law_piece") (Str.ofString "_law_piece") (by refine' (?f : (l : Arguments) → hd.fA (hd.cell 34) = l → Arguments) _ ?h; (case f => exact fun l _ => l); (case h => conv => lhs; whnf)) (@FuncBody.stmts (by refine' (?f : (l : List Stmt) → hd.fB (hd.cell 34) = l → List Stmt) _ ?h; (case f => exact fun l _ => l); (case h => conv => lhs; whnf))) (by refine' (?f : (l : Scope) → hd.fC (hd.cell 34) = l → Scope) _ ?h; (case f => exact fun l _ => l); (case h => conv => lhs; whnf)) (3:Nat) (@List.nil (@Prod @Str @Nat)) @Value.none @Value.none @Value.none (@Value.str (Str.ofString "law_pq0174_01") (442:Nat)) (@Option.none @Nat) (@Value.ref (197:Nat)) @Value.none (0:Nat))) (@List.toArray (@Option @Value) (@List.nil (@Option @Value))))) (
  @List.cons (Prod Nat Obj) (@Prod.mk @Nat @Obj (nat_lit 199) (@Obj.mk (@Value.type "tuple") (@Option.none @Nat) (@Data.seq (@List.toArray @Value (@List.nil @Value)) (0:Nat)) (@List.toArray (@Option @Value) (@List.nil (@Option @Value))))) (
  @List.cons (Prod Nat Obj) (@Prod.mk @Nat @Obj (nat_lit 201) (@Obj.mk (@Value.type "tuple") (@Option.none @Nat) (@Data.seq (@List.toArray @Value [(@Value.str (Str.ofString "bag") (469:Nat))]) (0:Nat)) (@List.toArray (@Option @Value) (@List.nil (@Option @Value))))) (
  @List.cons (Prod Nat Obj) (@Prod.mk @Nat @Obj (nat_lit 202) (@Obj.mk (@Value.type "tuple") (@Option.none @Nat) (@Data.seq (@List.toArray @Value (@List.nil @Value)) (0:Nat)) (@List.toArray (@Option @Value) (@List.nil (@Option @Value))))) (
  @List.cons (Prod Nat Obj) (@Prod.mk @Nat @Obj (nat_lit 204) (@Obj.mk (@Value.type "code") (@Option.none @Nat) (@Data.fields (@List.toArray @Value [(@Value.str (Str.ofString "_law_tail") (466:Nat)), (@Value.str (Str.ofString "_law_tail") (467:Nat)), (@Value.str (Str.ofString "/claim/cut.py") (468:Nat)), (@Value.int (169 : Int) (0:Nat)), (@Value.int (1 : Int) (0:Nat)), (@Value.int (0 : Int) (0:Nat)), (@Value.int (0 : Int) (0:Nat)), (@Value.int (3 : Int) (0:Nat)), (@Value.ref (199:Nat)), (@Value.bool @Bool.true), (@Value.int (181 : Int) (0:Nat)), (@Value.ref (200:Nat)), @Value.none, (@Value.ref (201:Nat)), (@Value.ref (202:Nat)), (@Value.ref (203:Nat)), (@Value.int (470 : Int) (0:Nat)), (@Value.int (169 : Int) (0:Nat)), (@Value.str (Str.ofString "/claim/cut.py") (471:Nat))])) (@List.toArray (@Option @Value) (@List.nil (@Option @Value))))) (
  @List.cons (Prod Nat Obj) (@Prod.mk @Nat @Obj (nat_lit 205) (@Obj.mk (@Value.type "function") (@Option.none @Nat) (@Data.func (@FuncData.mk (Str.ofString "_law_tail") (Str.ofString "_law_tail") (by refine' (?f : (l : Arguments) → hd.fA (hd.cell 35) = l → Arguments) _ ?h; (case f => exact fun l _ => l); (case h => conv => lhs; whnf)) (@FuncBody.stmts (by refine' (?f : (l : List Stmt) → hd.fB (hd.cell 35) = l → List Stmt) _ ?h; (case f => exact fun l _ => l); (case h => conv => lhs; whnf))) (by refine' (?f : (l : Scope) → hd.fC (hd.cell 35) = l → Scope) _ ?h; (case f => exact fun l _ => l); (case h => conv => lhs; whnf)) (3:Nat) (@List.nil (@Prod @Str @Nat)) @Value.none @Value.none @Value.none (@Value.str (Str.ofString "law_pq0174_01") (442:Nat)) (@Option.none @Nat) (@Value.ref (204:Nat)) @Value.none (0:Nat))) (@List.toArray (@Option @Value) (@List.nil (@Option @Value))))) (
  @List.cons (Prod Nat Obj) (@Prod.mk @Nat @Obj (nat_lit 206) (@Obj.mk (@Value.type "tuple") (@Option.none @Nat) (@Data.seq (@List.toArray @Value (@List.nil @Value)) (0:Nat)) (@List.toArray (@Option @Value) (@List.nil (@Option @Value))))) (
  @List.cons (Prod Nat Obj) (@Prod.mk @Nat @Obj (nat_lit 208) (@Obj.mk (@Value.type "tuple") (@Option.none @Nat) (@Data.seq (@List.toArray @Value [(@Value.str (Str.ofString "token") (476:Nat))]) (0:Nat)) (@List.toArray (@Option @Value) (@List.nil (@Option @Value))))) (
  @List.cons (Prod Nat Obj) (@Prod.mk @Nat @Obj (nat_lit 209) (@Obj.mk (@Value.type "tuple") (@Option.none @Nat) (@Data.seq (@List.toArray @Value (@List.nil @Value)) (0:Nat)) (@List.toArray (@Option @Value) (@List.nil (@Option @Value))))) (
  @List.cons (Prod Nat Obj) (@Prod.mk @Nat @Obj (nat_lit 211) (@Obj.mk (@Value.type "code") (@Option.none @Nat) (@Data.fields (@List.toArray @Value [(@Value.str (Str.ofString "_law_is_order") (473:Nat)), (@Value.str (Str.ofString "_law_is_order") (474:Nat)), (@Value.str (Str.ofString "/claim/cut.py") (475:Nat)), (@Value.int (171 : Int) (0:Nat)), (@Value.int (1 : Int) (0:Nat)), (@Value.int (0 : Int) (0:Nat)), (@Value.int (0 : Int) (0:Nat)), (@Value.int (3 : Int) (0:Nat)), (@Value.ref (206:Nat)), (@Value.bool @Bool.true), (@Value.int (181 : Int) (0:Nat)), (@Value.ref (207:Nat)), @Value.none, (@Value.ref (208:Nat)), (@Value.ref (209:Nat)), (@Value.ref (210:Nat)), (@Value.int (477 : Int) (0:Nat)), (@Value.int (171 : Int) (0:Nat)), (@Value.str (Str.ofString "/claim/cut.py") (478:Nat))])) (@List.toArray (@Option @Value) (@List.nil (@Option @Value))))) (
  @List.cons (Prod Nat Obj) (@Prod.mk @Nat @Obj (nat_lit 212) (@Obj.mk (@Value.type "function") (@Option.none @Nat) (@Data.func (@FuncData.mk (Str.ofString "_law_is_order") (Str.ofString "_law_is_order") (by refine' (?f : (l : Arguments) → hd.fA (hd.cell 36) = l → Arguments) _ ?h; (case f => exact fun l _ => l); (case h => conv => lhs; whnf)) (@FuncBody.stmts (by refine' (?f : (l : List Stmt) → hd.fB (hd.cell 36) = l → List Stmt) _ ?h; (case f => exact fun l _ => l); (case h => conv => lhs; whnf))) (by refine' (?f : (l : Scope) → hd.fC (hd.cell 36) = l → Scope) _ ?h; (case f => exact fun l _ => l); (case h => conv => lhs; whnf)) (3:Nat) (@List.nil (@Prod @Str @Nat)) @Value.none @Value.none @Value.none (@Value.str (Str.ofString "law_pq0174_01") (442:Nat)) (@Option.none @Nat) (@Value.ref (211:Nat)) @Value.none (0:Nat))) (@List.toArray (@Option @Value) (@List.nil (@Option @Value))))) (
  @List.cons (Prod Nat Obj) (@Prod.mk @Nat @Obj (nat_lit 213) (@Obj.mk (@Value.type "tuple") (@Option.none @Nat) (@Data.seq (@List.toArray @Value (@List.nil @Value)) (0:Nat)) (@List.toArray (@Option @Value) (@List.nil (@Option @Value))))) (
  @List.cons (Prod Nat Obj) (@Prod.mk @Nat @Obj (nat_lit 215) (@Obj.mk (@Value.type "tuple") (@Option.none @Nat) (@Data.seq (@List.toArray @Value [(@Value.str (Str.ofString "row") (483:Nat))]) (0:Nat)) (@List.toArray (@Option @Value) (@List.nil (@Option @Value))))) (
  @List.cons (Prod Nat Obj) (@Prod.mk @Nat @Obj (nat_lit 216) (@Obj.mk (@Value.type "tuple") (@Option.none @Nat) (@Data.seq (@List.toArray @Value (@List.nil @Value)) (0:Nat)) (@List.toArray (@Option @Value) (@List.nil (@Option @Value))))) (
  @List.cons (Prod Nat Obj) (@Prod.mk @Nat @Obj (nat_lit 218) (@Obj.mk (@Value.type "code") (@Option.none @Nat) (@Data.fields (@List.toArray @Value [(@Value.str (Str.ofString "_law_is_refused") (480:Nat)), (@Value.str (Str.ofString "_law_is_refused") (481:Nat)), (@Value.str (Str.ofString "/claim/cut.py") (482:Nat)), (@Value.int (173 : Int) (0:Nat)), (@Value.int (1 : Int) (0:Nat)), (@Value.int (0 : Int) (0:Nat)), (@Value.int (0 : Int) (0:Nat)), (@Value.int (3 : Int) (0:Nat)), (@Value.ref (213:Nat)), (@Value.bool @Bool.true), (@Value.int (181 : Int) (0:Nat)), (@Value.ref (214:Nat)), @Value.none, (@Value.ref (215:Nat)), (@Value.ref (216:Nat)), (@Value.ref (217:Nat)), (@Value.int (484 : Int) (0:Nat)), (@Value.int (173 : Int) (0:Nat)), (@Value.str (Str.ofString "/claim/cut.py") (485:Nat))])) (@List.toArray (@Option @Value) (@List.nil (@Option @Value))))) (
  @List.cons (Prod Nat Obj) (@Prod.mk @Nat @Obj (nat_lit 219) (@Obj.mk (@Value.type "function") (@Option.none @Nat) (@Data.func (@FuncData.mk (Str.ofString "_law_is_refused") (Str.ofString "_law_is_refused") (by refine' (?f : (l : Arguments) → hd.fA (hd.cell 37) = l → Arguments) _ ?h; (case f => exact fun l _ => l); (case h => conv => lhs; whnf)) (@FuncBody.stmts (by refine' (?f : (l : List Stmt) → hd.fB (hd.cell 37) = l → List Stmt) _ ?h; (case f => exact fun l _ => l); (case h => conv => lhs; whnf))) (by refine' (?f : (l : Scope) → hd.fC (hd.cell 37) = l → Scope) _ ?h; (case f => exact fun l _ => l); (case h => conv => lhs; whnf)) (3:Nat) (@List.nil (@Prod @Str @Nat)) @Value.none @Value.none @Value.none (@Value.str (Str.ofString "law_pq0174_01") (442:Nat)) (@Option.none @Nat) (@Value.ref (218:Nat)) @Value.none (0:Nat))) (@List.toArray (@Option @Value) (@List.nil (@Option @Value))))) (
  @List.cons (Prod Nat Obj) (@Prod.mk @Nat @Obj (nat_lit 220) (@Obj.mk (@Value.type "tuple") (@Option.none @Nat) (@Data.seq (@List.toArray @Value (@List.nil @Value)) (0:Nat)) (@List.toArray (@Option @Value) (@List.nil (@Option @Value))))) (
  @List.cons (Prod Nat Obj) (@Prod.mk @Nat @Obj (nat_lit 223) (@Obj.mk (@Value.type "code") (@Option.none @Nat) (@Data.fields (@List.toArray @Value [(@Value.str (Str.ofString "law") (487:Nat)), (@Value.str (Str.ofString "law") (488:Nat)), (@Value.str (Str.ofString "/claim/cut.py") (489:Nat)), (@Value.int (179 : Int) (0:Nat)), (@Value.int (1 : Int) (0:Nat)), (@Value.int (0 : Int) (0:Nat)), (@Value.int (0 : Int) (0:Nat)), (@Value.int (3 : Int) (0:Nat)), (@Value.ref (220:Nat)), (@Value.bool @Bool.true), (@Value.int (181 : Int) (0:Nat)), (@Value.ref (221:Nat)), @Value.none, @Value.none, @Value.none, (@Value.ref (222:Nat)), (@Value.int (490 : Int) (0:Nat)), (@Value.int (179 : Int) (0:Nat)), (@Value.str (Str.ofString "/claim/cut.py") (491:Nat))])) (@List.toArray (@Option @Value) (@List.nil (@Option @Value))))) (
  @List.cons (Prod Nat Obj) (@Prod.mk @Nat @Obj (nat_lit 224) (@Obj.mk (@Value.type "function") (@Option.none @Nat) (@Data.func (@FuncData.mk (Str.ofString "law") (Str.ofString "law") (by refine' (?f : (l : Arguments) → hd.fA (hd.cell 38) = l → Arguments) _ ?h; (case f => exact fun l _ => l); (case h => conv => lhs; whnf)) (@FuncBody.stmts (by refine' (?f : (l : List Stmt) → hd.fB (hd.cell 38) = l → List Stmt) _ ?h; (case f => exact fun l _ => l); (case h => conv => lhs; whnf))) (by refine' (?f : (l : Scope) → hd.fC (hd.cell 38) = l → Scope) _ ?h; (case f => exact fun l _ => l); (case h => conv => lhs; whnf)) (3:Nat) (@List.nil (@Prod @Str @Nat)) @Value.none @Value.none @Value.none (@Value.str (Str.ofString "law_pq0174_01") (442:Nat)) (@Option.none @Nat) (@Value.ref (223:Nat)) @Value.none (0:Nat))) (@List.toArray (@Option @Value) (@List.nil (@Option @Value))))) (
  @List.nil (Prod Nat Obj)))))))))))))))))))))))))))))))))))))))))))))))))))))))))))))))))))))))))))))))))))))))))))))))))))))))))))))))))))))))))))))))))))))))))))))))))))))

noncomputable def hd.loose : List Str := [Str.ofString "BasicError", Str.ofString "PAIRS"]
noncomputable def hd.hook : Hook := kHook hd.heap_39 hd.at39 (fun _ => by kernel_rfl)
noncomputable def hd.Xt (s : Shared) : Bool := xlAt hd.view_39 [] s && recOk (RowW.records PySem.Challenge.rw_pq0174_01.row.toRowW) s
noncomputable def hd.kob (P : Params) (a : Nat) : Obj := ((hd.heap_39 P).lookup a).getD default
noncomputable def hd.objs (P : Params) : List Obj :=
  @List.cons Obj (boot_o_0 P) (
  @List.cons Obj (boot_o_1 P) (
  @List.cons Obj (hd.kob P 2) (
  @List.cons Obj (hd.kob P 3) (
  @List.cons Obj (boot_o_4 P) (
  @List.cons Obj (boot_o_5 P) (
  @List.cons Obj (boot_o_6 P) (
  @List.cons Obj (boot_o_7 P) (
  @List.cons Obj (boot_o_8 P) (
  @List.cons Obj (boot_o_9 P) (
  @List.cons Obj (boot_o_10 P) (
  @List.cons Obj (@Obj.mk (@Value.type "tuple") (@Option.none @Nat) (@Data.seq (@List.toArray @Value (@List.nil @Value)) (0:Nat)) (@List.toArray (@Option @Value) (@List.nil (@Option @Value)))) (
  @List.cons Obj (@Obj.mk @Value.none (@Option.none @Nat) (@Data.fields (@List.toArray @Value (@List.cons @Value (@Value.int (2 : Int) (0:Nat)) (@List.cons @Value (@Value.int (0 : Int) (0:Nat)) (@List.cons @Value (@Value.ref (21:Nat)) (@List.cons @Value (@Value.int (17 : Int) (0:Nat)) (@List.cons @Value (@Value.int (0 : Int) (0:Nat)) (@List.cons @Value (@Value.ref (45:Nat)) (@List.cons @Value (@Value.int (19 : Int) (0:Nat)) (@List.cons @Value (@Value.int (0 : Int) (0:Nat)) (@List.cons @Value (@Value.ref (52:Nat)) (@List.cons @Value (@Value.int (21 : Int) (0:Nat)) (@List.cons @Value (@Value.int (0 : Int) (0:Nat)) (@List.cons @Value (@Value.ref (59:Nat)) (@List.cons @Value (@Value.int (23 : Int) (0:Nat)) (@List.cons @Value (@Value.int (0 : Int) (0:Nat)) (@List.cons @Value (@Value.ref (66:Nat)) (@List.cons @Value (@Value.int (25 : Int) (0:Nat)) (@List.cons @Value (@Value.int (0 : Int) (0:Nat)) (@List.cons @Value (@Value.ref (71:Nat)) (@List.cons @Value (@Value.int (27 : Int) (0:Nat)) (@List.cons @Value (@Value.int (0 : Int) (0:Nat)) (@List.cons @Value (@Value.ref (78:Nat)) (@List.cons @Value (@Value.int (31 : Int) (0:Nat)) (@List.cons @Value (@Value.int (0 : Int) (0:Nat)) (@List.cons @Value (@Value.ref (85:Nat)) (@List.cons @Value (@Value.int (35 : Int) (0:Nat)) (@List.cons @Value (@Value.int (0 : Int) (0:Nat)) (@List.cons @Value (@Value.ref (92:Nat)) (@List.cons @Value (@Value.int (43 : Int) (0:Nat)) (@List.cons @Value (@Value.int (0 : Int) (0:Nat)) (@List.cons @Value (@Value.ref (99:Nat)) (@List.cons @Value (@Value.int (55 : Int) (0:Nat)) (@List.cons @Value (@Value.int (0 : Int) (0:Nat)) (@List.cons @Value (@Value.ref (106:Nat)) (@List.cons @Value (@Value.int (59 : Int) (0:Nat)) (@List.cons @Value (@Value.int (0 : Int) (0:Nat)) (@List.cons @Value (@Value.ref (113:Nat)) (@List.cons @Value (@Value.int (64 : Int) (0:Nat)) (@List.cons @Value (@Value.int (0 : Int) (0:Nat)) (@List.cons @Value (@Value.ref (120:Nat)) (@List.cons @Value (@Value.int (70 : Int) (0:Nat)) (@List.cons @Value (@Value.int (0 : Int) (0:Nat)) (@List.cons @Value (@Value.ref (127:Nat)) (@List.cons @Value (@Value.int (77 : Int) (0:Nat)) (@List.cons @Value (@Value.int (0 : Int) (0:Nat)) (@List.cons @Value (@Value.ref (134:Nat)) (@List.cons @Value (@Value.int (79 : Int) (0:Nat)) (@List.cons @Value (@Value.int (0 : Int) (0:Nat)) (@List.cons @Value (@Value.ref (141:Nat)) (@List.cons @Value (@Value.int (88 : Int) (0:Nat)) (@List.cons @Value (@Value.int (0 : Int) (0:Nat)) (@List.cons @Value (@Value.ref (148:Nat)) (@List.cons @Value (@Value.int (108 : Int) (0:Nat)) (@List.cons @Value (@Value.int (0 : Int) (0:Nat)) (@List.cons @Value (@Value.ref (155:Nat)) (@List.cons @Value (@Value.int (117 : Int) (0:Nat)) (@List.cons @Value (@Value.int (0 : Int) (0:Nat)) (@List.cons @Value (@Value.ref (162:Nat)) (@List.cons @Value (@Value.int (124 : Int) (0:Nat)) (@List.cons @Value (@Value.int (0 : Int) (0:Nat)) (@List.cons @Value (@Value.ref (169:Nat)) (@List.cons @Value (@Value.int (130 : Int) (0:Nat)) (@List.cons @Value (@Value.int (0 : Int) (0:Nat)) (@List.cons @Value (@Value.ref (176:Nat)) (@List.cons @Value (@Value.int (138 : Int) (0:Nat)) (@List.cons @Value (@Value.int (0 : Int) (0:Nat)) (@List.cons @Value (@Value.ref (183:Nat)) (@List.cons @Value (@Value.int (144 : Int) (0:Nat)) (@List.cons @Value (@Value.int (0 : Int) (0:Nat)) (@List.cons @Value (@Value.ref (190:Nat)) (@List.cons @Value (@Value.int (149 : Int) (0:Nat)) (@List.cons @Value (@Value.int (0 : Int) (0:Nat)) (@List.cons @Value (@Value.ref (197:Nat)) (@List.cons @Value (@Value.int (169 : Int) (0:Nat)) (@List.cons @Value (@Value.int (0 : Int) (0:Nat)) (@List.cons @Value (@Value.ref (204:Nat)) (@List.cons @Value (@Value.int (171 : Int) (0:Nat)) (@List.cons @Value (@Value.int (0 : Int) (0:Nat)) (@List.cons @Value (@Value.ref (211:Nat)) (@List.cons @Value (@Value.int (173 : Int) (0:Nat)) (@List.cons @Value (@Value.int (0 : Int) (0:Nat)) (@List.cons @Value (@Value.ref (218:Nat)) (@List.cons @Value (@Value.int (179 : Int) (0:Nat)) (@List.cons @Value (@Value.int (0 : Int) (0:Nat)) (@List.cons @Value (@Value.ref (223:Nat)) (@List.nil @Value))))))))))))))))))))))))))))))))))))))))))))))))))))))))))))))))))))))))))))))))))))))) (@List.toArray (@Option @Value) (@List.nil (@Option @Value)))) (
  @List.cons Obj (@Obj.mk (@Value.type "code") (@Option.none @Nat) (@Data.fields (@List.toArray @Value [(@Value.str (Str.ofString "<module>") (182:Nat)), (@Value.str (Str.ofString "<module>") (183:Nat)), (@Value.str (Str.ofString "/claim/cut.py") (184:Nat)), (@Value.int (1 : Int) (0:Nat)), (@Value.int (0 : Int) (0:Nat)), (@Value.int (0 : Int) (0:Nat)), (@Value.int (0 : Int) (0:Nat)), (@Value.int (0 : Int) (0:Nat)), (@Value.ref (11:Nat)), (@Value.bool @Bool.false), (@Value.int (181 : Int) (0:Nat)), (@Value.ref (12:Nat)), @Value.none, @Value.none, @Value.none, @Value.none, (@Value.int (185 : Int) (0:Nat)), (@Value.int (1 : Int) (0:Nat)), (@Value.str (Str.ofString "/claim/cut.py") (186:Nat))])) (@List.toArray (@Option @Value) (@List.nil (@Option @Value)))) (
  @List.cons Obj (@Obj.mk (@Value.type "frame") (@Option.none @Nat) @Data.plain (@List.toArray (@Option @Value) (@List.cons (@Option @Value) (@Option.some @Value (@Value.ref (13:Nat))) (@List.cons (@Option @Value) (@Option.some @Value (@Value.ref (3:Nat))) (@List.cons (@Option @Value) (@Option.some @Value (@Value.ref (3:Nat))) (@List.cons (@Option @Value) (@Option.none @Value) (@List.cons (@Option @Value) (@Option.some @Value (@Value.str (Str.ofString "__main__") (164:Nat))) (@List.cons (@Option @Value) (@Option.none @Value) (@List.cons (@Option @Value) (@Option.some @Value (@Value.ref (0:Nat))) (@List.nil (@Option @Value))))))))))) (
  @List.cons Obj (hd.kob P 15) (
  @List.cons Obj (@Obj.mk (@Value.type "builtin_function_or_method") (@Option.none @Nat) (@Data.fields (@List.toArray @Value [(@Value.builtin "type.__prepare__"), (@Value.type "type")])) (@List.toArray (@Option @Value) (@List.nil (@Option @Value)))) (
  @List.cons Obj (@Obj.mk (@Value.type "dict") (@Option.none @Nat) (@Data.dict (@List.toArray @DictEntry [(@DictEntry.mk (@PyData.keyHash P (Str.ofString "__module__")) (@Value.str (Str.ofString "__module__") (196:Nat)) (@Value.str (Str.ofString "basicplus.values") (187:Nat))), (@DictEntry.mk (@PyData.keyHash P (Str.ofString "__qualname__")) (@Value.str (Str.ofString "__qualname__") (198:Nat)) (@Value.str (Str.ofString "BasicError") (197:Nat))), (@DictEntry.mk (@PyData.keyHash P (Str.ofString "__firstlineno__")) (@Value.str (Str.ofString "__firstlineno__") (200:Nat)) (@Value.int (2 : Int) (199:Nat))), (@DictEntry.mk (@PyData.keyHash P (Str.ofString "__init__")) (@Value.str (Str.ofString "__init__") (211:Nat)) (@Value.ref (31:Nat))), (@DictEntry.mk (@PyData.keyHash P (Str.ofString "__static_attributes__")) (@Value.str (Str.ofString "__static_attributes__") (214:Nat)) (@Value.ref (32:Nat))), (@DictEntry.mk (@PyData.keyHash P (Str.ofString "__classcell__")) (@Value.str (Str.ofString "__classcell__") (215:Nat)) (@Value.ref (18:Nat)))]) (6:Nat)) (@List.toArray (@Option @Value) (@List.nil (@Option @Value)))) (
  @List.cons Obj (hd.kob P 18) (
  @List.cons Obj (@Obj.mk (@Value.type "tuple") (@Option.none @Nat) (@Data.seq (@List.toArray @Value (@List.nil @Value)) (0:Nat)) (@List.toArray (@Option @Value) (@List.nil (@Option @Value)))) (
  @List.cons Obj (@Obj.mk @Value.none (@Option.none @Nat) (@Data.fields (@List.toArray @Value [(@Value.int (4 : Int) (0:Nat)), (@Value.int (4 : Int) (0:Nat)), (@Value.ref (30:Nat))])) (@List.toArray (@Option @Value) (@List.nil (@Option @Value)))) (
  @List.cons Obj (@Obj.mk (@Value.type "code") (@Option.none @Nat) (@Data.fields (@List.toArray @Value [(@Value.str (Str.ofString "BasicError") (191:Nat)), (@Value.str (Str.ofString "BasicError") (192:Nat)), (@Value.str (Str.ofString "/claim/cut.py") (193:Nat)), (@Value.int (2 : Int) (0:Nat)), (@Value.int (0 : Int) (0:Nat)), (@Value.int (0 : Int) (0:Nat)), (@Value.int (0 : Int) (0:Nat)), (@Value.int (0 : Int) (0:Nat)), (@Value.ref (19:Nat)), (@Value.bool @Bool.false), (@Value.int (181 : Int) (0:Nat)), (@Value.ref (20:Nat)), @Value.none, @Value.none, @Value.none, @Value.none, (@Value.int (194 : Int) (0:Nat)), (@Value.int (2 : Int) (0:Nat)), (@Value.str (Str.ofString "/claim/cut.py") (195:Nat))])) (@List.toArray (@Option @Value) (@List.nil (@Option @Value)))) (
  @List.cons Obj (@Obj.mk (@Value.type "frame") (@Option.none @Nat) @Data.plain (@List.toArray (@Option @Value) (@List.cons (@Option @Value) (@Option.some @Value (@Value.ref (21:Nat))) (@List.cons (@Option @Value) (@Option.some @Value (@Value.ref (3:Nat))) (@List.cons (@Option @Value) (@Option.some @Value (@Value.ref (17:Nat))) (@List.cons (@Option @Value) (@Option.none @Value) (@List.cons (@Option @Value) (@Option.some @Value (@Value.str (Str.ofString "basicplus.values") (187:Nat))) (@List.cons (@Option @Value) (@Option.none @Value) (@List.cons (@Option @Value) (@Option.some @Value (@Value.ref (0:Nat))) (@List.nil (@Option @Value))))))))))) (
  @List.cons Obj (hd.kob P 23) (
  @List.cons Obj (hd.kob P 24) (
  @List.cons Obj (hd.kob P 25) (
  @List.cons Obj (@Obj.mk @Value.none (@Option.none @Nat) (@Data.fields (@List.toArray @Value (@List.nil @Value))) (@List.toArray (@Option @Value) (@List.nil (@Option @Value)))) (
  @List.cons Obj (hd.kob P 27) (
  @List.cons Obj (hd.kob P 28) (
  @List.cons Obj (@Obj.mk @Value.none (@Option.none @Nat) (@Data.func (@FuncData.mk (Str.ofString "__init__") (Str.ofString "BasicError.__init__") (hd.fA (hd.inCls (hd.cell 1) 0)) (@FuncBody.stmts (hd.fB (hd.inCls (hd.cell 1) 0))) (hd.fC (hd.inCls (hd.cell 1) 0)) (0:Nat) (@List.nil (@Prod @Str @Nat)) @Value.none @Value.none @Value.none @Value.none (@Option.none @Nat) @Value.none @Value.none (0:Nat))) (@List.toArray (@Option @Value) (@List.nil (@Option @Value)))) (
  @List.cons Obj (hd.kob P 30) (
  @List.cons Obj (hd.kob P 31) (
  @List.cons Obj (hd.kob P 32) (
  @List.cons Obj (hd.kob P 33) (
  @List.cons Obj (hd.kob P 34) (
  @List.cons Obj (hd.kob P 35) (
  @List.cons Obj (@Obj.mk (@Value.type "super") (@Option.none @Nat) (@Data.fields (@List.toArray @Value [(@Value.ref (34:Nat)), (@Value.ref (34:Nat)), (@Value.ref (34:Nat))])) (@List.toArray (@Option @Value) (@List.nil (@Option @Value)))) (
  @List.cons Obj (@Obj.mk (@Value.type "builtin_function_or_method") (@Option.none @Nat) (@Data.fields (@List.toArray @Value [(@Value.builtin "object.__init_subclass__"), (@Value.ref (34:Nat))])) (@List.toArray (@Option @Value) (@List.nil (@Option @Value)))) (
  @List.cons Obj (hd.kob P 38) (
  @List.cons Obj (hd.kob P 39) (
  @List.cons Obj (hd.kob P 40) (
  @List.cons Obj (@Obj.mk @Value.none (@Option.none @Nat) (@Data.fields (@List.toArray @Value (@List.nil @Value))) (@List.toArray (@Option @Value) (@List.nil (@Option @Value)))) (
  @List.cons Obj (hd.kob P 42) (
  @List.cons Obj (hd.kob P 43) (
  @List.cons Obj (@Obj.mk @Value.none (@Option.none @Nat) (@Data.func (@FuncData.mk (Str.ofString "functions") (Str.ofString "functions") (hd.fA (hd.cell 11)) (@FuncBody.stmts (hd.fB (hd.cell 11))) (hd.fC (hd.cell 11)) (0:Nat) (@List.nil (@Prod @Str @Nat)) @Value.none @Value.none @Value.none @Value.none (@Option.none @Nat) @Value.none @Value.none (0:Nat))) (@List.toArray (@Option @Value) (@List.nil (@Option @Value)))) (
  @List.cons Obj (hd.kob P 45) (
  @List.cons Obj (hd.kob P 46) (
  @List.cons Obj (hd.kob P 47) (
  @List.cons Obj (@Obj.mk @Value.none (@Option.none @Nat) (@Data.fields (@List.toArray @Value (@List.nil @Value))) (@List.toArray (@Option @Value) (@List.nil (@Option @Value)))) (
  @List.cons Obj (hd.kob P 49) (
  @List.cons Obj (hd.kob P 50) (
  @List.cons Obj (@Obj.mk @Value.none (@Option.none @Nat) (@Data.func (@FuncData.mk (Str.ofString "is_word") (Str.ofString "is_word") (hd.fA (hd.cell 12)) (@FuncBody.stmts (hd.fB (hd.cell 12))) (hd.fC (hd.cell 12)) (0:Nat) (@List.nil (@Prod @Str @Nat)) @Value.none @Value.none @Value.none @Value.none (@Option.none @Nat) @Value.none @Value.none (0:Nat))) (@List.toArray (@Option @Value) (@List.nil (@Option @Value)))) (
  @List.cons Obj (hd.kob P 52) (
  @List.cons Obj (hd.kob P 53) (
  @List.cons Obj (hd.kob P 54) (
  @List.cons Obj (@Obj.mk @Value.none (@Option.none @Nat) (@Data.fields (@List.toArray @Value (@List.nil @Value))) (@List.toArray (@Option @Value) (@List.nil (@Option @Value)))) (
  @List.cons Obj (hd.kob P 56) (
  @List.cons Obj (hd.kob P 57) (
  @List.cons Obj (@Obj.mk @Value.none (@Option.none @Nat) (@Data.func (@FuncData.mk (Str.ofString "is_letter") (Str.ofString "is_letter") (hd.fA (hd.cell 13)) (@FuncBody.stmts (hd.fB (hd.cell 13))) (hd.fC (hd.cell 13)) (0:Nat) (@List.nil (@Prod @Str @Nat)) @Value.none @Value.none @Value.none @Value.none (@Option.none @Nat) @Value.none @Value.none (0:Nat))) (@List.toArray (@Option @Value) (@List.nil (@Option @Value)))) (
  @List.cons Obj (hd.kob P 59) (
  @List.cons Obj (hd.kob P 60) (
  @List.cons Obj (hd.kob P 61) (
  @List.cons Obj (@Obj.mk @Value.none (@Option.none @Nat) (@Data.fields (@List.toArray @Value (@List.nil @Value))) (@List.toArray (@Option @Value) (@List.nil (@Option @Value)))) (
  @List.cons Obj (hd.kob P 63) (
  @List.cons Obj (hd.kob P 64) (
  @List.cons Obj (@Obj.mk @Value.none (@Option.none @Nat) (@Data.func (@FuncData.mk (Str.ofString "is_figure") (Str.ofString "is_figure") (hd.fA (hd.cell 14)) (@FuncBody.stmts (hd.fB (hd.cell 14))) (hd.fC (hd.cell 13)) (0:Nat) (@List.nil (@Prod @Str @Nat)) @Value.none @Value.none @Value.none @Value.none (@Option.none @Nat) @Value.none @Value.none (0:Nat))) (@List.toArray (@Option @Value) (@List.nil (@Option @Value)))) (
  @List.cons Obj (hd.kob P 66) (
  @List.cons Obj (hd.kob P 67) (
  @List.cons Obj (hd.kob P 68) (
  @List.cons Obj (@Obj.mk @Value.none (@Option.none @Nat) (@Data.fields (@List.toArray @Value (@List.nil @Value))) (@List.toArray (@Option @Value) (@List.nil (@Option @Value)))) (
  @List.cons Obj (@Obj.mk @Value.none (@Option.none @Nat) (@Data.func (@FuncData.mk (Str.ofString "capital") (Str.ofString "capital") (hd.fA (hd.cell 15)) (@FuncBody.stmts (hd.fB (hd.cell 15))) (hd.fC (hd.cell 15)) (0:Nat) (@List.nil (@Prod @Str @Nat)) @Value.none @Value.none @Value.none @Value.none (@Option.none @Nat) @Value.none @Value.none (0:Nat))) (@List.toArray (@Option @Value) (@List.nil (@Option @Value)))) (
  @List.cons Obj (hd.kob P 71) (
  @List.cons Obj (hd.kob P 72) (
  @List.cons Obj (hd.kob P 73) (
  @List.cons Obj (@Obj.mk @Value.none (@Option.none @Nat) (@Data.fields (@List.toArray @Value (@List.nil @Value))) (@List.toArray (@Option @Value) (@List.nil (@Option @Value)))) (
  @List.cons Obj (hd.kob P 75) (
  @List.cons Obj (hd.kob P 76) (
  @List.cons Obj (@Obj.mk @Value.none (@Option.none @Nat) (@Data.func (@FuncData.mk (Str.ofString "figures_end") (Str.ofString "figures_end") (hd.fA (hd.cell 16)) (@FuncBody.stmts (hd.fB (hd.cell 16))) (hd.fC (hd.cell 16)) (0:Nat) (@List.nil (@Prod @Str @Nat)) @Value.none @Value.none @Value.none @Value.none (@Option.none @Nat) @Value.none @Value.none (0:Nat))) (@List.toArray (@Option @Value) (@List.nil (@Option @Value)))) (
  @List.cons Obj (hd.kob P 78) (
  @List.cons Obj (hd.kob P 79) (
  @List.cons Obj (hd.kob P 80) (
  @List.cons Obj (@Obj.mk @Value.none (@Option.none @Nat) (@Data.fields (@List.toArray @Value (@List.nil @Value))) (@List.toArray (@Option @Value) (@List.nil (@Option @Value)))) (
  @List.cons Obj (hd.kob P 82) (
  @List.cons Obj (hd.kob P 83) (
  @List.cons Obj (@Obj.mk @Value.none (@Option.none @Nat) (@Data.func (@FuncData.mk (Str.ofString "skipped") (Str.ofString "skipped") (hd.fA (hd.cell 17)) (@FuncBody.stmts (hd.fB (hd.cell 17))) (hd.fC (hd.cell 17)) (0:Nat) (@List.nil (@Prod @Str @Nat)) @Value.none @Value.none @Value.none @Value.none (@Option.none @Nat) @Value.none @Value.none (0:Nat))) (@List.toArray (@Option @Value) (@List.nil (@Option @Value)))) (
  @List.cons Obj (hd.kob P 85) (
  @List.cons Obj (hd.kob P 86) (
  @List.cons Obj (hd.kob P 87) (
  @List.cons Obj (@Obj.mk @Value.none (@Option.none @Nat) (@Data.fields (@List.toArray @Value (@List.nil @Value))) (@List.toArray (@Option @Value) (@List.nil (@Option @Value)))) (
  @List.cons Obj (hd.kob P 89) (
  @List.cons Obj (hd.kob P 90) (
  @List.cons Obj (@Obj.mk @Value.none (@Option.none @Nat) (@Data.func (@FuncData.mk (Str.ofString "power_end") (Str.ofString "power_end") (hd.fA (hd.cell 18)) (@FuncBody.stmts (hd.fB (hd.cell 18))) (hd.fC (hd.cell 18)) (0:Nat) (@List.nil (@Prod @Str @Nat)) @Value.none @Value.none @Value.none @Value.none (@Option.none @Nat) @Value.none @Value.none (0:Nat))) (@List.toArray (@Option @Value) (@List.nil (@Option @Value)))) (
  @List.cons Obj (hd.kob P 92) (
  @List.cons Obj (hd.kob P 93) (
  @List.cons Obj (hd.kob P 94) (
  @List.cons Obj (@Obj.mk @Value.none (@Option.none @Nat) (@Data.fields (@List.toArray @Value (@List.nil @Value))) (@List.toArray (@Option @Value) (@List.nil (@Option @Value)))) (
  @List.cons Obj (hd.kob P 96) (
  @List.cons Obj (hd.kob P 97) (
  @List.cons Obj (@Obj.mk @Value.none (@Option.none @Nat) (@Data.func (@FuncData.mk (Str.ofString "number_at") (Str.ofString "number_at") (hd.fA (hd.cell 19)) (@FuncBody.stmts (hd.fB (hd.cell 19))) (hd.fC (hd.cell 19)) (0:Nat) (@List.nil (@Prod @Str @Nat)) @Value.none @Value.none @Value.none @Value.none (@Option.none @Nat) @Value.none @Value.none (0:Nat))) (@List.toArray (@Option @Value) (@List.nil (@Option @Value)))) (
  @List.cons Obj (hd.kob P 99) (
  @List.cons Obj (hd.kob P 100) (
  @List.cons Obj (hd.kob P 101) (
  @List.cons Obj (@Obj.mk @Value.none (@Option.none @Nat) (@Data.fields (@List.toArray @Value (@List.nil @Value))) (@List.toArray (@Option @Value) (@List.nil (@Option @Value)))) (
  @List.cons Obj (hd.kob P 103) (
  @List.cons Obj (hd.kob P 104) (
  @List.cons Obj (@Obj.mk @Value.none (@Option.none @Nat) (@Data.func (@FuncData.mk (Str.ofString "name_end") (Str.ofString "name_end") (hd.fA (hd.cell 20)) (@FuncBody.stmts (hd.fB (hd.cell 20))) (hd.fC (hd.cell 20)) (0:Nat) (@List.nil (@Prod @Str @Nat)) @Value.none @Value.none @Value.none @Value.none (@Option.none @Nat) @Value.none @Value.none (0:Nat))) (@List.toArray (@Option @Value) (@List.nil (@Option @Value)))) (
  @List.cons Obj (hd.kob P 106) (
  @List.cons Obj (hd.kob P 107) (
  @List.cons Obj (hd.kob P 108) (
  @List.cons Obj (@Obj.mk @Value.none (@Option.none @Nat) (@Data.fields (@List.toArray @Value (@List.nil @Value))) (@List.toArray (@Option @Value) (@List.nil (@Option @Value)))) (
  @List.cons Obj (hd.kob P 110) (
  @List.cons Obj (hd.kob P 111) (
  @List.cons Obj (@Obj.mk @Value.none (@Option.none @Nat) (@Data.func (@FuncData.mk (Str.ofString "text_at") (Str.ofString "text_at") (hd.fA (hd.cell 21)) (@FuncBody.stmts (hd.fB (hd.cell 21))) (hd.fC (hd.cell 21)) (0:Nat) (@List.nil (@Prod @Str @Nat)) @Value.none @Value.none @Value.none @Value.none (@Option.none @Nat) @Value.none @Value.none (0:Nat))) (@List.toArray (@Option @Value) (@List.nil (@Option @Value)))) (
  @List.cons Obj (hd.kob P 113) (
  @List.cons Obj (hd.kob P 114) (
  @List.cons Obj (hd.kob P 115) (
  @List.cons Obj (@Obj.mk @Value.none (@Option.none @Nat) (@Data.fields (@List.toArray @Value (@List.nil @Value))) (@List.toArray (@Option @Value) (@List.nil (@Option @Value)))) (
  @List.cons Obj (hd.kob P 117) (
  @List.cons Obj (hd.kob P 118) (
  @List.cons Obj (@Obj.mk @Value.none (@Option.none @Nat) (@Data.func (@FuncData.mk (Str.ofString "order_at") (Str.ofString "order_at") (hd.fA (hd.cell 22)) (@FuncBody.stmts (hd.fB (hd.cell 22))) (hd.fC (hd.cell 22)) (0:Nat) (@List.nil (@Prod @Str @Nat)) @Value.none @Value.none @Value.none @Value.none (@Option.none @Nat) @Value.none @Value.none (0:Nat))) (@List.toArray (@Option @Value) (@List.nil (@Option @Value)))) (
  @List.cons Obj (hd.kob P 120) (
  @List.cons Obj (hd.kob P 121) (
  @List.cons Obj (hd.kob P 122) (
  @List.cons Obj (@Obj.mk @Value.none (@Option.none @Nat) (@Data.fields (@List.toArray @Value (@List.nil @Value))) (@List.toArray (@Option @Value) (@List.nil (@Option @Value)))) (
  @List.cons Obj (hd.kob P 124) (
  @List.cons Obj (hd.kob P 125) (
  @List.cons Obj (@Obj.mk @Value.none (@Option.none @Nat) (@Data.func (@FuncData.mk (Str.ofString "data_end") (Str.ofString "data_end") (hd.fA (hd.cell 23)) (@FuncBody.stmts (hd.fB (hd.cell 23))) (hd.fC (hd.cell 23)) (0:Nat) (@List.nil (@Prod @Str @Nat)) @Value.none @Value.none @Value.none @Value.none (@Option.none @Nat) @Value.none @Value.none (0:Nat))) (@List.toArray (@Option @Value) (@List.nil (@Option @Value)))) (
  @List.cons Obj (hd.kob P 127) (
  @List.cons Obj (hd.kob P 128) (
  @List.cons Obj (hd.kob P 129) (
  @List.cons Obj (@Obj.mk @Value.none (@Option.none @Nat) (@Data.fields (@List.toArray @Value (@List.nil @Value))) (@List.toArray (@Option @Value) (@List.nil (@Option @Value)))) (
  @List.cons Obj (hd.kob P 131) (
  @List.cons Obj (hd.kob P 132) (
  @List.cons Obj (@Obj.mk @Value.none (@Option.none @Nat) (@Data.func (@FuncData.mk (Str.ofString "remark_of") (Str.ofString "remark_of") (hd.fA (hd.cell 24)) (@FuncBody.stmts (hd.fB (hd.cell 24))) (hd.fC (hd.cell 24)) (0:Nat) (@List.nil (@Prod @Str @Nat)) @Value.none @Value.none @Value.none @Value.none (@Option.none @Nat) @Value.none @Value.none (0:Nat))) (@List.toArray (@Option @Value) (@List.nil (@Option @Value)))) (
  @List.cons Obj (hd.kob P 134) (
  @List.cons Obj (hd.kob P 135) (
  @List.cons Obj (hd.kob P 136) (
  @List.cons Obj (@Obj.mk @Value.none (@Option.none @Nat) (@Data.fields (@List.toArray @Value (@List.nil @Value))) (@List.toArray (@Option @Value) (@List.nil (@Option @Value)))) (
  @List.cons Obj (hd.kob P 138) (
  @List.cons Obj (hd.kob P 139) (
  @List.cons Obj (@Obj.mk @Value.none (@Option.none @Nat) (@Data.func (@FuncData.mk (Str.ofString "word_at") (Str.ofString "word_at") (hd.fA (hd.cell 25)) (@FuncBody.stmts (hd.fB (hd.cell 25))) (hd.fC (hd.cell 25)) (0:Nat) (@List.nil (@Prod @Str @Nat)) @Value.none @Value.none @Value.none @Value.none (@Option.none @Nat) @Value.none @Value.none (0:Nat))) (@List.toArray (@Option @Value) (@List.nil (@Option @Value)))) (
  @List.cons Obj (hd.kob P 141) (
  @List.cons Obj (hd.kob P 142) (
  @List.cons Obj (hd.kob P 143) (
  @List.cons Obj (@Obj.mk @Value.none (@Option.none @Nat) (@Data.fields (@List.toArray @Value (@List.nil @Value))) (@List.toArray (@Option @Value) (@List.nil (@Option @Value)))) (
  @List.cons Obj (hd.kob P 145) (
  @List.cons Obj (hd.kob P 146) (
  @List.cons Obj (@Obj.mk @Value.none (@Option.none @Nat) (@Data.func (@FuncData.mk (Str.ofString "tokens_at") (Str.ofString "tokens_at") (hd.fA (hd.cell 26)) (@FuncBody.stmts (hd.fB (hd.cell 26))) (hd.fC (hd.cell 26)) (0:Nat) (@List.nil (@Prod @Str @Nat)) @Value.none @Value.none @Value.none @Value.none (@Option.none @Nat) @Value.none @Value.none (0:Nat))) (@List.toArray (@Option @Value) (@List.nil (@Option @Value)))) (
  @List.cons Obj (hd.kob P 148) (
  @List.cons Obj (hd.kob P 149) (
  @List.cons Obj (hd.kob P 150) (
  @List.cons Obj (@Obj.mk @Value.none (@Option.none @Nat) (@Data.fields (@List.toArray @Value (@List.nil @Value))) (@List.toArray (@Option @Value) (@List.nil (@Option @Value)))) (
  @List.cons Obj (hd.kob P 152) (
  @List.cons Obj (hd.kob P 153) (
  @List.cons Obj (@Obj.mk @Value.none (@Option.none @Nat) (@Data.func (@FuncData.mk (Str.ofString "tokens_of") (Str.ofString "tokens_of") (hd.fA (hd.cell 27)) (@FuncBody.stmts (hd.fB (hd.cell 27))) (hd.fC (hd.cell 27)) (0:Nat) (@List.nil (@Prod @Str @Nat)) @Value.none @Value.none @Value.none @Value.none (@Option.none @Nat) @Value.none @Value.none (0:Nat))) (@List.toArray (@Option @Value) (@List.nil (@Option @Value)))) (
  @List.cons Obj (hd.kob P 155) (
  @List.cons Obj (hd.kob P 156) (
  @List.cons Obj (hd.kob P 157) (
  @List.cons Obj (@Obj.mk @Value.none (@Option.none @Nat) (@Data.fields (@List.toArray @Value (@List.nil @Value))) (@List.toArray (@Option @Value) (@List.nil (@Option @Value)))) (
  @List.cons Obj (hd.kob P 159) (
  @List.cons Obj (hd.kob P 160) (
  @List.cons Obj (@Obj.mk @Value.none (@Option.none @Nat) (@Data.func (@FuncData.mk (Str.ofString "token_text") (Str.ofString "token_text") (hd.fA (hd.cell 28)) (@FuncBody.stmts (hd.fB (hd.cell 28))) (hd.fC (hd.cell 28)) (0:Nat) (@List.nil (@Prod @Str @Nat)) @Value.none @Value.none @Value.none @Value.none (@Option.none @Nat) @Value.none @Value.none (0:Nat))) (@List.toArray (@Option @Value) (@List.nil (@Option @Value)))) (
  @List.cons Obj (hd.kob P 162) (
  @List.cons Obj (hd.kob P 163) (
  @List.cons Obj (hd.kob P 164) (
  @List.cons Obj (@Obj.mk @Value.none (@Option.none @Nat) (@Data.fields (@List.toArray @Value (@List.nil @Value))) (@List.toArray (@Option @Value) (@List.nil (@Option @Value)))) (
  @List.cons Obj (hd.kob P 166) (
  @List.cons Obj (hd.kob P 167) (
  @List.cons Obj (@Obj.mk @Value.none (@Option.none @Nat) (@Data.func (@FuncData.mk (Str.ofString "needs_blank") (Str.ofString "needs_blank") (hd.fA (hd.cell 29)) (@FuncBody.stmts (hd.fB (hd.cell 29))) (hd.fC (hd.cell 29)) (0:Nat) (@List.nil (@Prod @Str @Nat)) @Value.none @Value.none @Value.none @Value.none (@Option.none @Nat) @Value.none @Value.none (0:Nat))) (@List.toArray (@Option @Value) (@List.nil (@Option @Value)))) (
  @List.cons Obj (hd.kob P 169) (
  @List.cons Obj (hd.kob P 170) (
  @List.cons Obj (hd.kob P 171) (
  @List.cons Obj (@Obj.mk @Value.none (@Option.none @Nat) (@Data.fields (@List.toArray @Value (@List.nil @Value))) (@List.toArray (@Option @Value) (@List.nil (@Option @Value)))) (
  @List.cons Obj (hd.kob P 173) (
  @List.cons Obj (hd.kob P 174) (
  @List.cons Obj (@Obj.mk @Value.none (@Option.none @Nat) (@Data.func (@FuncData.mk (Str.ofString "row_of") (Str.ofString "row_of") (hd.fA (hd.cell 30)) (@FuncBody.stmts (hd.fB (hd.cell 30))) (hd.fC (hd.cell 30)) (0:Nat) (@List.nil (@Prod @Str @Nat)) @Value.none @Value.none @Value.none @Value.none (@Option.none @Nat) @Value.none @Value.none (0:Nat))) (@List.toArray (@Option @Value) (@List.nil (@Option @Value)))) (
  @List.cons Obj (hd.kob P 176) (
  @List.cons Obj (hd.kob P 177) (
  @List.cons Obj (hd.kob P 178) (
  @List.cons Obj (@Obj.mk @Value.none (@Option.none @Nat) (@Data.fields (@List.toArray @Value (@List.nil @Value))) (@List.toArray (@Option @Value) (@List.nil (@Option @Value)))) (
  @List.cons Obj (hd.kob P 180) (
  @List.cons Obj (hd.kob P 181) (
  @List.cons Obj (@Obj.mk @Value.none (@Option.none @Nat) (@Data.func (@FuncData.mk (Str.ofString "canonical") (Str.ofString "canonical") (hd.fA (hd.cell 31)) (@FuncBody.stmts (hd.fB (hd.cell 31))) (hd.fC (hd.cell 31)) (0:Nat) (@List.nil (@Prod @Str @Nat)) @Value.none @Value.none @Value.none @Value.none (@Option.none @Nat) @Value.none @Value.none (0:Nat))) (@List.toArray (@Option @Value) (@List.nil (@Option @Value)))) (
  @List.cons Obj (hd.kob P 183) (
  @List.cons Obj (hd.kob P 184) (
  @List.cons Obj (hd.kob P 185) (
  @List.cons Obj (@Obj.mk @Value.none (@Option.none @Nat) (@Data.fields (@List.toArray @Value (@List.nil @Value))) (@List.toArray (@Option @Value) (@List.nil (@Option @Value)))) (
  @List.cons Obj (hd.kob P 187) (
  @List.cons Obj (hd.kob P 188) (
  @List.cons Obj (@Obj.mk @Value.none (@Option.none @Nat) (@Data.func (@FuncData.mk (Str.ofString "_law_take") (Str.ofString "_law_take") (hd.fA (hd.cell 33)) (@FuncBody.stmts (hd.fB (hd.cell 33))) (hd.fC (hd.cell 33)) (0:Nat) (@List.nil (@Prod @Str @Nat)) @Value.none @Value.none @Value.none @Value.none (@Option.none @Nat) @Value.none @Value.none (0:Nat))) (@List.toArray (@Option @Value) (@List.nil (@Option @Value)))) (
  @List.cons Obj (hd.kob P 190) (
  @List.cons Obj (hd.kob P 191) (
  @List.cons Obj (hd.kob P 192) (
  @List.cons Obj (@Obj.mk @Value.none (@Option.none @Nat) (@Data.fields (@List.toArray @Value (@List.nil @Value))) (@List.toArray (@Option @Value) (@List.nil (@Option @Value)))) (
  @List.cons Obj (hd.kob P 194) (
  @List.cons Obj (hd.kob P 195) (
  @List.cons Obj (@Obj.mk @Value.none (@Option.none @Nat) (@Data.func (@FuncData.mk (Str.ofString "_law_piece") (Str.ofString "_law_piece") (hd.fA (hd.cell 34)) (@FuncBody.stmts (hd.fB (hd.cell 34))) (hd.fC (hd.cell 34)) (0:Nat) (@List.nil (@Prod @Str @Nat)) @Value.none @Value.none @Value.none @Value.none (@Option.none @Nat) @Value.none @Value.none (0:Nat))) (@List.toArray (@Option @Value) (@List.nil (@Option @Value)))) (
  @List.cons Obj (hd.kob P 197) (
  @List.cons Obj (hd.kob P 198) (
  @List.cons Obj (hd.kob P 199) (
  @List.cons Obj (@Obj.mk @Value.none (@Option.none @Nat) (@Data.fields (@List.toArray @Value (@List.nil @Value))) (@List.toArray (@Option @Value) (@List.nil (@Option @Value)))) (
  @List.cons Obj (hd.kob P 201) (
  @List.cons Obj (hd.kob P 202) (
  @List.cons Obj (@Obj.mk @Value.none (@Option.none @Nat) (@Data.func (@FuncData.mk (Str.ofString "_law_tail") (Str.ofString "_law_tail") (hd.fA (hd.cell 35)) (@FuncBody.stmts (hd.fB (hd.cell 35))) (hd.fC (hd.cell 35)) (0:Nat) (@List.nil (@Prod @Str @Nat)) @Value.none @Value.none @Value.none @Value.none (@Option.none @Nat) @Value.none @Value.none (0:Nat))) (@List.toArray (@Option @Value) (@List.nil (@Option @Value)))) (
  @List.cons Obj (hd.kob P 204) (
  @List.cons Obj (hd.kob P 205) (
  @List.cons Obj (hd.kob P 206) (
  @List.cons Obj (@Obj.mk @Value.none (@Option.none @Nat) (@Data.fields (@List.toArray @Value (@List.nil @Value))) (@List.toArray (@Option @Value) (@List.nil (@Option @Value)))) (
  @List.cons Obj (hd.kob P 208) (
  @List.cons Obj (hd.kob P 209) (
  @List.cons Obj (@Obj.mk @Value.none (@Option.none @Nat) (@Data.func (@FuncData.mk (Str.ofString "_law_is_order") (Str.ofString "_law_is_order") (hd.fA (hd.cell 36)) (@FuncBody.stmts (hd.fB (hd.cell 36))) (hd.fC (hd.cell 36)) (0:Nat) (@List.nil (@Prod @Str @Nat)) @Value.none @Value.none @Value.none @Value.none (@Option.none @Nat) @Value.none @Value.none (0:Nat))) (@List.toArray (@Option @Value) (@List.nil (@Option @Value)))) (
  @List.cons Obj (hd.kob P 211) (
  @List.cons Obj (hd.kob P 212) (
  @List.cons Obj (hd.kob P 213) (
  @List.cons Obj (@Obj.mk @Value.none (@Option.none @Nat) (@Data.fields (@List.toArray @Value (@List.nil @Value))) (@List.toArray (@Option @Value) (@List.nil (@Option @Value)))) (
  @List.cons Obj (hd.kob P 215) (
  @List.cons Obj (hd.kob P 216) (
  @List.cons Obj (@Obj.mk @Value.none (@Option.none @Nat) (@Data.func (@FuncData.mk (Str.ofString "_law_is_refused") (Str.ofString "_law_is_refused") (hd.fA (hd.cell 37)) (@FuncBody.stmts (hd.fB (hd.cell 37))) (hd.fC (hd.cell 37)) (0:Nat) (@List.nil (@Prod @Str @Nat)) @Value.none @Value.none @Value.none @Value.none (@Option.none @Nat) @Value.none @Value.none (0:Nat))) (@List.toArray (@Option @Value) (@List.nil (@Option @Value)))) (
  @List.cons Obj (hd.kob P 218) (
  @List.cons Obj (hd.kob P 219) (
  @List.cons Obj (hd.kob P 220) (
  @List.cons Obj (@Obj.mk @Value.none (@Option.none @Nat) (@Data.fields (@List.toArray @Value (@List.nil @Value))) (@List.toArray (@Option @Value) (@List.nil (@Option @Value)))) (
  @List.cons Obj (@Obj.mk @Value.none (@Option.none @Nat) (@Data.func (@FuncData.mk (Str.ofString "law") (Str.ofString "law") (hd.fA (hd.cell 38)) (@FuncBody.stmts (hd.fB (hd.cell 38))) (hd.fC (hd.cell 38)) (0:Nat) (@List.nil (@Prod @Str @Nat)) @Value.none @Value.none @Value.none @Value.none (@Option.none @Nat) @Value.none @Value.none (0:Nat))) (@List.toArray (@Option @Value) (@List.nil (@Option @Value)))) (
  @List.cons Obj (hd.kob P 223) (
  @List.cons Obj (hd.kob P 224) (
  @List.nil Obj)))))))))))))))))))))))))))))))))))))))))))))))))))))))))))))))))))))))))))))))))))))))))))))))))))))))))))))))))))))))))))))))))))))))))))))))))))))))))))))))))))))))))))))))))))))))))))))))))))))))))))))))))))))))))))))))))
noncomputable def hd.fin (P : Params) : Heap := ⟨⟨hd.objs P⟩, (@Life.mk (@List.nil @Nat) (@List.nil @Nat) (@List.nil @Nat) (0:Nat) (@List.nil (@Prod @Nat @Nat)) (@List.nil @Nat) @Bool.false (@List.toArray @Nat (@List.nil @Nat)) (@List.nil @Nat) (0:Nat) @Bool.false @Bool.false @Bool.false (0 : Int) [(2000 : Int), (10 : Int), (10 : Int)] @Bool.false (0:Nat) @Bool.true (@List.nil @Nat) (@List.nil @Nat) (0:Nat) @Bool.false)⟩
noncomputable def hd.end_ (P : Params) (os : OsState) : Shared := ⟨hd.fin P, Array.mk [], (@Drawn.mk (0:Nat) (0:Nat) (0:Nat) (0:Nat)), 493, os⟩
def hd.Run (w : World) : Prop := ∀ os : OsState,
  topRun treeTable PySem.Challenge.pw_pq0174_01 w 11 (some (Value.ref 6)) 2652 ⟨boot_heap w.params, Array.mk [], boot_drawn, boot_toks, os⟩ (topStub PySem.Challenge.pw_pq0174_01) = some (hd.end_ w.params os)
theorem hd.run0 : ∀ w : World, hd.Run (w.withFollow "special-get-raises" false) := fun w os => by
  rewrite [Fast.te14082659384304107361, Fast.te14364793385576792824]
  kernel_rfl
theorem hd.run1 : ∀ w : World, hd.Run (w.withFollow "special-get-raises" true) := fun w os => by
  rewrite [Fast.te14082659384304107361, Fast.te14364793385576792824]
  kernel_rfl
theorem hd.run (w : World) : hd.Run w := byRow2 "special-get-raises" hd.run0 hd.run1 w
theorem hd.boot : ∀ w : World, (fencedOpening treeTable PySem.Challenge.pw_pq0174_01 w 2652).map (fun s => (s.heap, s.gens, s.drawn, s.toks)) = some (boot_heap w.params, Array.mk [], boot_drawn, boot_toks) :=
  boot_open (by kernel_rfl) (by kernel_rfl) (fun s => by kernel_rfl)
theorem hd.size : ∀ P : Params, ((boot_heap P).isNs mainGlobals && (Array.mk ([] : List GenState)).size == 0, (boot_heap P).objs.size, (boot_heap P).nsMap mainGlobals "__annotations__") = (true, 11, some (Value.ref 6)) := fun P => by kernel_rfl
theorem hd.statics : ∀ (P : Params) (os : OsState), (staticsOk (importedModules PySem.Challenge.pw_pq0174_01.main.body) (boot_heap P) (hd.fin P) && namesBound PySem.Challenge.pw_pq0174_01 (hd.fin P) && gensDone (hd.end_ P os) && laidKept (boot_heap P) (hd.fin P)) = true := fun P os => by
  rewrite [Fast.te5923862056798008813]
  kernel_rfl
theorem hd.kept : ∀ (P : Params), hd.at39.map (hd.fin P).get? = (hd.heap_39 P).map fun p => some p.2 := fun P => by kernel_rfl
theorem hd.look0 : ∀ (P : Params) (os : OsState), PyProof.Rows.seen ((recsOf hd.view_39).map (·.name)) (ownsOf hd.view_39) [] { (hd.end_ P os) with gens := #[] } = expectedOf hd.view_39 := fun P os => by
  rewrite [Fast.te5160383126252970620, Fast.te3399658132070893891, Fast.te5991557255702980513]
  kernel_rfl
theorem hd.look1 : ∀ (P : Params) (os : OsState), (hd.end_ P os).heap.bltView = bltViewBooted := fun P os => by
  kernel_rfl
theorem hd.look2 : ∀ (P : Params) (os : OsState), ((hd.end_ P os).heap.keysOk (looseW hd.view_39 hd.loose) ((recsOf hd.view_39).map (·.name)) ((litsOf hd.view_39).map (·.1)) ((clssOf hd.view_39 (looseW hd.view_39 hd.loose)).map (·.name)) && (hd.end_ P os).heap.accountedOkI (importedModules PySem.Challenge.pw_pq0174_01.main.body) && (hd.end_ P os).heap.isNs mainGlobals && (hd.end_ P os).heap.isNs builtinsNs && tablesOk hd.view_39 (hd.end_ P os).heap && hd.Xt (hd.end_ P os) && (if true then (hd.end_ P os).gens.size == 0 else !leftWithCleanup (hd.end_ P os).gens)) = true := fun P os => by
  rewrite [Fast.te10880121769531294198, Fast.te821141287760084731, Fast.te3399658132070893891, Fast.te7409074990110511671, Fast.te13664370479719496447, Fast.te14722251495701143533, Fast.te10994771534591457954, Fast.te5923862056798008813]
  kernel_rfl
theorem hd.look3 : ∀ (P : Params) (os : OsState), tabsOk hd.view_39 (hd.end_ P os) = true := fun P os => by
  rewrite [Fast.te479339242167458305]
  kernel_rfl
theorem hd.look4 : ∀ (P : Params) (os : OsState), pinSeenD hd.view_39 (drecsOf hd.view_39) (hd.end_ P os) = pinGoodD (drecsOf hd.view_39) := fun P os => by
  rewrite [Fast.te16090120013241838585, Fast.te3247288618530077131]
  kernel_rfl
theorem hd.look5 : ∀ (P : Params) (os : OsState), plainSeenE hd.view_39 (looseW hd.view_39 hd.loose) (hd.end_ P os) = plainGoodE hd.view_39 (looseW hd.view_39 hd.loose) := fun P os => by
  rewrite [Fast.te2386780881361962483, Fast.te821141287760084731]
  kernel_rfl
theorem hd.look6 : ∀ (P : Params) (os : OsState), plainSeenD hd.view_39 hd.loose (hd.end_ P os) = plainGoodD hd.view_39 hd.loose := fun P os => by
  rewrite [Fast.te11698064438423848299]
  kernel_rfl
theorem hd.look7 : ∀ (P : Params) (os : OsState), wideSeen hd.view_39 (hd.end_ P os) = wideGood hd.view_39 := fun P os => by
  rewrite [Fast.te7317090234206586261]
  kernel_rfl
theorem hd.look8 : ∀ (P : Params) (os : OsState), clsSeenW hd.view_39 hd.loose (hd.end_ P os) = clsGoodW hd.view_39 hd.loose := fun P os => by
  rewrite [Fast.te7369524293546568484]
  kernel_rfl
theorem hd.nine {q : Program} {loose mods : List Str} {Xt : Shared → Bool} {s : Shared}
    (h0 : PyProof.Rows.seen ((recsOf q).map (·.name)) (ownsOf q) [] { s with gens := #[] } = expectedOf q)
    (h1 : s.heap.bltView = bltViewBooted)
    (h2 : (s.heap.keysOk (looseW q loose) ((recsOf q).map (·.name)) ((litsOf q).map (·.1)) ((clssOf q (looseW q loose)).map (·.name)) && s.heap.accountedOkI mods && s.heap.isNs mainGlobals && s.heap.isNs builtinsNs && tablesOk q s.heap && Xt s && (if true then s.gens.size == 0 else !leftWithCleanup s.gens)) = true)
    (h3 : tabsOk q s = true)
    (h4 : pinSeenD q (drecsOf q) s = pinGoodD (drecsOf q))
    (h5 : plainSeenE q (looseW q loose) s = plainGoodE q (looseW q loose))
    (h6 : plainSeenD q loose s = plainGoodD q loose)
    (h7 : wideSeen q s = wideGood q)
    (h8 : clsSeenW q loose s = clsGoodW q loose)
    : openSeen q loose mods Xt true s = openGood q loose :=
  Prod.ext h0 (Prod.ext h1 (Prod.ext h2 (Prod.ext h3 (Prod.ext h4 (Prod.ext h5 (Prod.ext h6 (Prod.ext h7 h8)))))))
theorem hd.left : LeftO PySem.Challenge.pw_pq0174_01 hd.view_39 hd.loose hd.Xt hd.hook.obs hd.hook.val 2652 true :=
  LeftO.of_pieces hd.boot (fun w => hd.size w.params) hd.run (by rfl) fun w => funext fun os =>
    Prod.ext (hd.statics w.params os) (Prod.ext (hd.nine (hd.look0 w.params os) (hd.look1 w.params os) (hd.look2 w.params os) (hd.look3 w.params os) (hd.look4 w.params os) (hd.look5 w.params os) (hd.look6 w.params os) (hd.look7 w.params os) (hd.look8 w.params os)) (hd.kept w.params))
theorem hd.nr_app (lk : Look) : ∀ (a b : List Stmt), noRoadLSs lk a = true → noRoadLSs lk b = true → noRoadLSs lk (a ++ b) = true
  | [], _, _, h => h
  | s :: r, b, ha, hb => by
    have e : noRoadLSs lk (s :: r) = (noRoadLS lk s && noRoadLSs lk r) := by rw [noRoadLSs]
    rw [e] at ha
    have x := Bool.and_eq_true_iff.mp ha
    show noRoadLSs lk (s :: (r ++ b)) = true
    rw [noRoadLSs, x.1, hd.nr_app lk r b x.2 hb]
    rfl
theorem hd.nr_cut {lk : Look} {l : List Stmt} (n : Nat) (a : noRoadLSs lk (l.take n) = true) (b : noRoadLSs lk (l.drop n) = true) : noRoadLSs lk l = true := by
  have := hd.nr_app lk _ _ a b
  rwa [List.take_append_drop] at this
noncomputable def hd.lk : Look := { strict := false, foot := none, bare := [] }
noncomputable def hd.body : List Stmt := PySem.Challenge.pw_pq0174_01.main.body
theorem hd.nr1 : noRoadLSs hd.lk (hd.body.take 20) = true := by
  rewrite [Fast.te8326940854005059898]
  kernel_rfl
theorem hd.nr2 : noRoadLSs hd.lk ((hd.body.drop 20).take 6) = true := by
  rewrite [Fast.te8326940854005059898]
  kernel_rfl
theorem hd.nr3 : noRoadLSs hd.lk (((hd.body.drop 20).drop 6).take 7) = true := by
  rewrite [Fast.te8326940854005059898]
  kernel_rfl
theorem hd.nr4 : noRoadLSs hd.lk (((hd.body.drop 20).drop 6).drop 7) = true := by
  rewrite [Fast.te8326940854005059898]
  kernel_rfl
theorem hd.nr : noRoadLSs hd.lk hd.body = true := hd.nr_cut 20 hd.nr1 (hd.nr_cut 6 hd.nr2 (hd.nr_cut 7 hd.nr3 hd.nr4))
theorem hd.lk1 : (!(importedModules hd.body).all cThrough.contains) = false := by
  rewrite [Fast.te5923862056798008813]
  kernel_rfl
theorem hd.lk2 : (["vars", "dir", "locals"] : List Str).filter (readsOut PySem.Challenge.pw_pq0174_01 hd.body) = [] := by
  rewrite [Fast.te13343964577679436407]
  kernel_rfl
theorem hd.nrR : noRoadLSs { strict := !(importedModules PySem.Challenge.rw_pq0174_01.row.prog.main.body).all cThrough.contains, foot := none, bare := (["vars", "dir", "locals"] : List Str).filter (readsOut PySem.Challenge.rw_pq0174_01.row.prog PySem.Challenge.rw_pq0174_01.row.prog.main.body) } PySem.Challenge.rw_pq0174_01.row.prog.main.body = true := by
  have e : PySem.Challenge.rw_pq0174_01.row.prog = PySem.Challenge.pw_pq0174_01 := rfl
  rw [e]
  have h1 : (!(importedModules PySem.Challenge.pw_pq0174_01.main.body).all cThrough.contains) = false := hd.lk1
  have h2 : (["vars", "dir", "locals"] : List Str).filter (readsOut PySem.Challenge.pw_pq0174_01 PySem.Challenge.pw_pq0174_01.main.body) = [] := hd.lk2
  rw [h1, h2]
  exact hd.nr
theorem hd.said : PySem.Challenge.rw_pq0174_01.wellSaid = true := by
  unfold OpenLaw.wellSaid OpenRow.wellSaid OpenRow.partSaid looksOpen
  rewrite [hd.nrR]
  rewrite [Fast.te8377067652309620493]
  rewrite [Fast.te17119622794617984870]
  rewrite [Fast.te8326940854005059898]
  rewrite [Fast.te18344453789297297638]
  rewrite [Fast.te8179353310426384613]
  rewrite [Fast.te16286561074155671207]
  rewrite [Fast.te11788848310118352699]
  rewrite [Fast.te12862048085361865435]
  rewrite [Fast.te9807087744658564304]
  rewrite [Fast.te797321630700447069]
  rewrite [Fast.te6984425678791042302]
  rewrite [Fast.te10792542408131684335]
  rewrite [Fast.te9572597257264208301]
  rewrite [Fast.named_eq]
  rewrite [Fast.te3471404346716756564]
  rewrite [Fast.sDec_eq]
  rewrite [Fast.te14412699480532031325]
  rewrite [Fast.te2357444279172408678]
  rewrite [Fast.te13582783067957832011]
  rewrite [Fast.te12749700546528644094]
  rewrite [Fast.te10501279942588096481]
  kernel_rfl
theorem hd.glob1 : namesOk hd.view_39 (looseW hd.view_39 [Str.ofString "BasicError", Str.ofString "PAIRS"]) (namesW hd.view_39 [Str.ofString "BasicError", Str.ofString "PAIRS"]) = true := by
  rewrite [Fast.te17448422675489707002, Fast.te821141287760084731]
  kernel_rfl
theorem hd.glob2 : importsNone hd.view_39 = true := by kernel_rfl
theorem hd (walk : WalkO hd.view_39 [Str.ofString "BasicError", Str.ofString "PAIRS"] (XL hd.view_39 []) (kHook hd.heap_39 hd.at39 (fun _ => by kernel_rfl)).says PySem.Challenge.rw_pq0174_01.row.toRowW
    { name := Str.ofString "law"
      params := (by refine' (?f : (l : Arguments) → hd.fA (hd.cell 38) = l → Arguments) _ ?h; (case f => exact fun l _ => l); (case h => conv => lhs; whnf))
      body := (by refine' (?f : (l : List Stmt) → hd.fB (hd.cell 38) = l → List Stmt) _ ?h; (case f => exact fun l _ => l); (case h => conv => lhs; whnf))
      scope := (by refine' (?f : (l : Scope) → hd.fC (hd.cell 38) = l → Scope) _ ?h; (case f => exact fun l _ => l); (case h => conv => lhs; whnf))
      pos := (by refine' (?f : (l : Pos) → hd.fP (hd.cell 38) = l → Pos) _ ?h; (case f => exact fun l _ => l); (case h => conv => lhs; whnf)) } [] (fun f vs => PySem.call f vs)) : PySem.Challenge.rw_pq0174_01.Holds := by
  w_on
  refine holds_law hd.said fun said => ?_
  refine holds_open (q := hd.view_39) (loose := [Str.ofString "BasicError", Str.ofString "PAIRS"]) (Xt := hd.Xt) (XP := XL hd.view_39 []) (Yf := hd.hook.obs) (Ya := hd.hook.val) (YP := hd.hook.says) (N := 2652) hd.left (Hook.of hd.hook) (Hook.keeps hd.hook) (fun s e => xl_of s (Bool.and_eq_true_iff.mp e).1) XL.keeps (by rfl) (by rfl) (by rfl) (fun s e => recFacts_of (Bool.and_eq_true_iff.mp e).2) (by rfl) said (by decide +kernel) ⟨rfl, rfl, rfl, rfl, rfl, by decide +kernel⟩ ?hw walk
  case hw => w_witness2

end Mine
end
local macro_rules | `(tactic| walk_at "binaryOp Add ref ref") => `(tactic| k_extra "my binaryOp Add ref ref")
local macro_rules | `(tactic| walk_at "call builtin:len") => `(tactic| k_extra "my call builtin:len")
local macro_rules | `(tactic| walk_at "call builtin:list.append") => `(tactic| k_extra "my call builtin:list.append")
local macro_rules | `(tactic| walk_at "call builtin:list.extend") => `(tactic| k_extra "my call builtin:list.extend")
local macro_rules | `(tactic| walk_at "call builtin:str.find") => `(tactic| k_extra "my call builtin:str.find")
local macro_rules | `(tactic| walk_at "call builtin:str.lower") => `(tactic| k_extra "my call builtin:str.lower")
local macro_rules | `(tactic| walk_at "call builtin:str.upper") => `(tactic| k_extra "my call builtin:str.upper")
local macro_rules | `(tactic| walk_at "call ref") => `(tactic| k_extra "my call ref")
local macro_rules | `(tactic| walk_at "call type:enumerate") => `(tactic| k_extra "my call type:enumerate")
local macro_rules | `(tactic| walk_at "compareOp Eq ref ref") => `(tactic| k_extra "my compareOp Eq ref ref")
local macro_rules | `(tactic| walk_at "compareOp In str ref") => `(tactic| k_extra "my compareOp In str ref")
local macro_rules | `(tactic| walk_at "compareOp NotEq ref ref") => `(tactic| k_extra "my compareOp NotEq ref ref")
local macro_rules | `(tactic| walk_at "exec For Tuple Call cons nil") => `(tactic| k_extra "my exec For Tuple Call cons nil")
local macro_rules | `(tactic| walk_at "exec Raise some none") => `(tactic| k_extra "my exec Raise some none")
local macro_rules | `(tactic| walk_at "getMethod ref") => `(tactic| k_extra "my getMethod ref")
local macro_rules | `(tactic| walk_at "ite") => `(tactic| k_extra "my ite")
local macro_rules | `(tactic| walk_at "pyIter ref") => `(tactic| k_extra "my pyIter ref")
local macro_rules | `(tactic| walk_at "setItem ref str") => `(tactic| k_extra "my setItem ref str")
local macro_rules | `(tactic| walk_at "subscriptTail") => `(tactic| k_extra "my subscriptTail")
local macro_rules | `(tactic| walk_at "subscriptTail Name UnaryOp ref int") => `(tactic| k_extra "my subscriptTail Name UnaryOp ref int")
local macro_rules | `(tactic| k_qdec) => `(tactic| first | exact Mine.hd.glob1 | exact Mine.hd.glob2)
section
open PySem PySem.W PyProof.Rows
namespace Mine

/-! plain functions over lists of signs -/
def isFig (c : Nat) : Bool := decide (48 ≤ c) && decide (c ≤ 57)
def isLet (c : Nat) : Bool := (decide (65 ≤ c) && decide (c ≤ 90)) || (decide (97 ≤ c) && decide (c ≤ 122))
def isBl (c : Nat) : Bool := c == 32 || c == 9
def isNm (c : Nat) : Bool := isLet c || isFig c || c == 46
def up (c : Nat) : Nat := if decide (97 ≤ c) && decide (c ≤ 122) then c - 32 else c
def cnt (p : Nat → Bool) (l : List Nat) : Nat := (l.takeWhile p).length

/-- the text from place a on -/
def suf (x : Str) (a : Int) : List Nat := x.cps.toList.drop a.toNat

theorem suf_add (x : Str) (a : Int) (n : Nat) (h : 0 ≤ a) : suf x (a + n) = (suf x a).drop n := by
  unfold suf
  rw [List.drop_drop]
  congr 1
  omega
theorem suf_len (x : Str) (a : Int) : (suf x a).length = x.length - a.toNat := by
  unfold suf
  rw [List.length_drop]
  rfl
theorem suf_nil {x : Str} {a : Int} (h : (x.length : Int) ≤ a) : suf x a = [] := by
  apply List.eq_nil_of_length_eq_zero
  rw [suf_len]
  omega
theorem suf_cons {x : Str} {a : Int} (h : 0 ≤ a) (hl : a < x.length) : suf x a = x.cps.getD a.toNat 0 :: suf x (a + 1) := by
  have hn : a.toNat < x.cps.toList.length := by
    have : x.cps.toList.length = x.length := rfl
    omega
  unfold suf
  rw [List.drop_eq_getElem_cons hn]
  congr 1
  · have : x.cps.getD a.toNat 0 = x.cps[a.toNat]'hn := by
      rw [Array.getD_eq_getD_getElem?, Array.getElem?_eq_getElem hn]
      rfl
    rw [this]
    rfl
  · congr 1
    omega
theorem cnt_cons_t {p : Nat → Bool} {c : Nat} {r : List Nat} (h : p c = true) : cnt p (c :: r) = cnt p r + 1 := by
  unfold cnt
  rw [List.takeWhile_cons, if_pos h]
  rfl
theorem cnt_cons_f {p : Nat → Bool} {c : Nat} {r : List Nat} (h : p c = false) : cnt p (c :: r) = 0 := by
  unfold cnt
  rw [List.takeWhile_cons, if_neg (by rw [h]; exact Bool.false_ne_true)]
  rfl
theorem cnt_nil {p : Nat → Bool} : cnt p [] = 0 := rfl
theorem cnt_le (p : Nat → Bool) : ∀ l : List Nat, cnt p l ≤ l.length
  | [] => Nat.le_refl _
  | c :: r => by
    cases h : p c with
    | true =>
      rw [cnt_cons_t h, List.length_cons]
      have := cnt_le p r
      omega
    | false =>
      rw [cnt_cons_f h]
      exact Nat.zero_le _

theorem cps_mk (l : List Nat) : (Str.mk l.toArray).cps.toList = l := rfl
theorem str_eta (x : Str) : Str.mk x.cps.toList.toArray = x := by
  obtain ⟨⟨l⟩⟩ := x
  rfl

/-! cuts of a text -/
theorem range'_pick (l : List Nat) : ∀ (n a : Nat), a + n ≤ l.length → ((List.range n).map fun k => a + k).filterMap (fun i => l[i]?) = (l.drop a).take n
  | 0, a, _ => by simp
  | n + 1, a, h => by
    rw [List.range_succ, List.map_append, List.filterMap_append, range'_pick l n a (by omega), List.take_add_one, List.getElem?_drop]
    have : a + n < l.length := by omega
    simp [List.getElem?_eq_getElem this]

theorem sliceIdx (l : List Nat) (i j : Int) (h0 : 0 ≤ i) (h1 : 0 ≤ j) : Builtin.Str.strSliceIndices (some i) (some j) 1 l.length = (List.range ((min j.toNat l.length) - i.toNat)).map fun k => (i.toNat + k) := by
  unfold Builtin.Str.strSliceIndices sliceRange
  simp only [show (1 : Int) > 0 by decide, if_true, show ¬ i < 0 by omega, show ¬ j < 0 by omega, if_false]
  have e1 : max (0 : Int) (min i l.length) = ((min i.toNat l.length : Nat) : Int) := by omega
  have e2 : max (0 : Int) (min j l.length) = ((min j.toNat l.length : Nat) : Int) := by omega
  rw [e1, e2]
  by_cases h : ((min i.toNat l.length : Nat) : Int) < ((min j.toNat l.length : Nat) : Int)
  · rw [if_pos h]
    have e3 : (((min j.toNat l.length : Nat) : Int) - ((min i.toNat l.length : Nat) : Int) + 1 - 1) / 1 = (((min j.toNat l.length) - i.toNat : Nat) : Int) := by
      rw [Int.ediv_one]
      omega
    rw [e3, Int.toNat_natCast]
    refine List.map_congr_left fun k hk => ?_
    have : k < min j.toNat l.length - i.toNat := List.mem_range.mp hk
    omega
  · rw [if_neg h]
    have : min j.toNat l.length - i.toNat = 0 := by omega
    rw [this]
    rfl

theorem slice_ss (x : Str) (i j : Int) (h0 : 0 ≤ i) (h1 : 0 ≤ j) : Txt.slice x (some i) (some j) = ⟨((suf x i).take (j - i).toNat).toArray⟩ := by
  obtain ⟨⟨l⟩⟩ := x
  have hx : (Str.mk ⟨l⟩).length = l.length := rfl
  have e : (Builtin.Str.strSliceIndices (some i) (some j) 1 l.length).filterMap (fun k => (Str.mk ⟨l⟩).cps[k]?) = ((l.drop i.toNat).take (j - i).toNat) := by
    rw [sliceIdx l i j h0 h1]
    have : ∀ k : Nat, (Str.mk ⟨l⟩).cps[k]? = l[k]? := fun k => by simp
    simp only [this]
    by_cases hl : i.toNat ≤ min j.toNat l.length
    · rw [range'_pick l _ _ (by omega)]
      by_cases hj : j.toNat ≤ l.length
      · congr 1
        omega
      · rw [List.take_of_length_le (by rw [List.length_drop]; omega), List.take_of_length_le (by rw [List.length_drop]; omega)]
    · have z : min j.toNat l.length - i.toNat = 0 := by omega
      rw [z]
      by_cases hj : j.toNat ≤ i.toNat
      · have : (j - i).toNat = 0 := by omega
        rw [this]
        simp
      · rw [List.drop_eq_nil_of_le (by omega)]
        simp
  unfold Txt.slice
  rw [hx]
  split
  · rename_i hc
    have hc' : (Builtin.Str.strSliceIndices (some i) (some j) 1 l.length).length = l.length := by simpa using hc
    rw [sliceIdx l i j h0 h1, List.length_map, List.length_range] at hc'
    unfold suf
    show _ = Str.mk ((l.drop i.toNat).take (j - i).toNat).toArray
    by_cases hl : l.length = 0
    · have := List.eq_nil_of_length_eq_zero hl
      subst this
      simp
    · have hi : i.toNat = 0 := by omega
      rw [hi, List.drop_zero, List.take_of_length_le (by omega)]
  · rw [e]
    rfl

theorem sliceIdxN (l : List Nat) (i : Int) (h0 : 0 ≤ i) : Builtin.Str.strSliceIndices (some i) none 1 l.length = Builtin.Str.strSliceIndices (some i) (some (l.length : Int)) 1 l.length := by
  unfold Builtin.Str.strSliceIndices
  simp only [show (1 : Int) > 0 by decide, if_true, show ¬ ((l.length : Int) < 0) by omega, if_false]
  congr 1
  omega
theorem slice_sn (x : Str) (i : Int) (h0 : 0 ≤ i) : Txt.slice x (some i) none = ⟨(suf x i).toArray⟩ := by
  have e := slice_ss x i x.length h0 (by omega)
  have : Txt.slice x (some i) none = Txt.slice x (some i) (some (x.length : Int)) := by
    unfold Txt.slice
    have : Builtin.Str.strSliceIndices (some i) none 1 x.length = Builtin.Str.strSliceIndices (some i) (some (x.length : Int)) 1 x.length := sliceIdxN x.cps.toList i h0
    rw [this]
  rw [this, e, List.take_of_length_le]
  rw [suf_len]
  omega
theorem item_at (x : Str) (i : Int) (h0 : 0 ≤ i) (h1 : i < x.length) : Txt.item x i = ⟨#[x.cps.getD i.toNat 0]⟩ := item_meets ⟨h0, h1⟩

theorem beq_mk (l r : List Nat) : (Str.mk l.toArray == Str.mk r.toArray) = (l == r) := by
  rw [Bool.eq_iff_iff, beq_iff_eq, beq_iff_eq, Str.mk.injEq]
  constructor
  · intro h
    exact congrArg Array.toList h
  · intro h
    rw [h]
theorem bne_mk (l r : List Nat) : (Str.mk l.toArray != Str.mk r.toArray) = (l != r) := by
  unfold bne
  rw [beq_mk]
theorem lit (z : String) (l : List Nat) (h : Str.ofString z = Str.mk l.toArray) : Str.ofString z = Str.mk l.toArray := h

/-- the sign that may end a name -/
def endSign : List Nat → Nat
  | c :: _ => if c == 37 || c == 36 || c == 33 then 1 else 0
  | [] => 0
def nName (l : List Nat) : Nat := cnt isNm l + endSign (l.drop (cnt isNm l))
theorem endSign_any (x : Str) (i : Int) (h0 : 0 ≤ i) : ([Str.ofString "%", Str.ofString "$", Str.ofString "!"].any fun y => y == Txt.slice x (some i) (some (i + 1))) = (endSign (suf x i) == 1) := by
  rw [slice_ss x i (i + 1) h0 (by omega), show (i + 1 - i).toNat = 1 by omega, show Str.ofString "%" = Str.mk [37].toArray by decide, show Str.ofString "$" = Str.mk [36].toArray by decide, show Str.ofString "!" = Str.mk [33].toArray by decide]
  simp only [List.any_cons, List.any_nil, beq_mk, Bool.or_false]
  cases suf x i with
  | nil => rfl
  | cons c r =>
    simp only [List.take_succ_cons, List.take_zero, endSign]
    rw [Bool.eq_iff_iff]
    simp only [Bool.or_eq_true, beq_iff_eq, List.cons.injEq, and_true]
    constructor
    · rintro (h | h | h) <;> subst h <;> rfl
    · intro h
      split at h
      · rename_i q
        omega
      · cases h
theorem slice1_ne (x : Str) (i : Int) (h0 : 0 ≤ i) : (Txt.slice x (some i) (some (i + 1)) != Str.ofString "") = (suf x i != []) := by
  rw [slice_ss x i (i + 1) h0 (by omega), show (i + 1 - i).toNat = 1 by omega, show Str.ofString "" = Str.mk [].toArray by decide, bne_mk]
  cases suf x i with
  | nil => rfl
  | cons c r => rfl
theorem endSign_le (l : List Nat) : endSign l = 0 ∨ endSign l = 1 := by
  unfold endSign
  split
  · split
    · exact .inr rfl
    · exact .inl rfl
  · exact .inl rfl
theorem name_out {x : Str} {a i : Int} (h0 : 0 ≤ a) (he : i = a + cnt isNm (suf x a)) : i + endSign (suf x i) = a + nName (suf x a) := by
  subst he
  rw [suf_add x a _ h0]
  unfold nName
  omega
theorem name_yes {x : Str} {a i : Int} (h0 : 0 ≤ a) (he : i = a + cnt isNm (suf x a)) (h : ([Str.ofString "%", Str.ofString "$", Str.ofString "!"].any fun y => y == Txt.slice x (some i) (some (i + 1))) = true) : i + 1 = a + nName (suf x a) := by
  rw [endSign_any x i (by omega), beq_iff_eq] at h
  have := name_out h0 he
  rw [h] at this
  exact this
theorem name_no {x : Str} {a i : Int} (h0 : 0 ≤ a) (he : i = a + cnt isNm (suf x a)) (h : ([Str.ofString "%", Str.ofString "$", Str.ofString "!"].any fun y => y == Txt.slice x (some i) (some (i + 1))) = false) : i = a + nName (suf x a) := by
  rw [endSign_any x i (by omega)] at h
  have := name_out h0 he
  rcases endSign_le (suf x i) with e | e
  · rw [e] at this
    simpa using this
  · rw [e] at h
    cases h
theorem name_absurd {x : Str} {i : Int} (h0 : 0 ≤ i) (h : ([Str.ofString "%", Str.ofString "$", Str.ofString "!"].any fun y => y == Txt.slice x (some i) (some (i + 1))) = true) (h' : (Txt.slice x (some i) (some (i + 1)) != Str.ofString "") = false) : False := by
  rw [endSign_any x i h0] at h
  rw [slice1_ne x i h0] at h'
  cases e : suf x i with
  | nil =>
    rw [e] at h
    cases h
  | cons c r =>
    rw [e] at h'
    cases h'

end Mine
end
section
open PySem PySem.W PyProof.Rows
namespace Mine

/-! one sign of a text -/
theorem slice_one (x : Str) (i j : Int) (h0 : 0 ≤ i) (hj : j = i + 1) : Txt.slice x (some i) (some j) = ⟨((suf x i).take 1).toArray⟩ := by
  subst hj
  rw [slice_ss x i (i + 1) h0 (by omega), show (i + 1 - i).toNat = 1 by omega]
def hdIs (p : Nat → Bool) : List Nat → Bool
  | c :: _ => p c
  | [] => false
theorem one_beq (l : List Nat) (d : Nat) : (Str.mk (l.take 1).toArray == Str.mk [d].toArray) = hdIs (· == d) l := by
  rw [beq_mk]
  cases l with
  | nil => rfl
  | cons c r =>
    rw [Bool.eq_iff_iff]
    simp [hdIs]
theorem one_beq' (l : List Nat) (d : Nat) : (Str.mk [d].toArray == Str.mk (l.take 1).toArray) = hdIs (· == d) l := by
  rw [beq_mk]
  cases l with
  | nil => rfl
  | cons c r =>
    rw [Bool.eq_iff_iff]
    simp only [hdIs, List.take_succ_cons, List.take_zero, beq_iff_eq, List.cons.injEq, and_true]
    exact ⟨Eq.symm, Eq.symm⟩

/-! the power of a number -/
def pSign (l : List Nat) : Nat := if hdIs (fun d => d == 43 || d == 45) l then 1 else 0
def isE (c : Nat) : Bool := c == 69 || c == 101
def nPow (l : List Nat) : Nat := if hdIs isE l then (if cnt isFig ((l.drop 1).drop (pSign (l.drop 1))) = 0 then 0 else 1 + pSign (l.drop 1) + cnt isFig ((l.drop 1).drop (pSign (l.drop 1)))) else 0
def okPow (l : List Nat) : Prop := hdIs isE l = true → cnt isFig ((l.drop 1).drop (pSign (l.drop 1))) ≤ 3

theorem any_E (x : Str) (i j : Int) (h0 : 0 ≤ i) (hj : j = i + 1) : ([Str.ofString "E", Str.ofString "e"].any fun y => y == Txt.slice x (some i) (some j)) = hdIs isE (suf x i) := by
  rw [slice_one x i j h0 hj, show Str.ofString "E" = Str.mk [69].toArray by decide, show Str.ofString "e" = Str.mk [101].toArray by decide]
  simp only [List.any_cons, List.any_nil, one_beq', Bool.or_false]
  cases suf x i <;> rfl
theorem any_pm (x : Str) (i j : Int) (h0 : 0 ≤ i) (hj : j = i + 1) : ([Str.ofString "+", Str.ofString "-"].any fun y => y == Txt.slice x (some i) (some j)) = hdIs (fun d => d == 43 || d == 45) (suf x i) := by
  rw [slice_one x i j h0 hj, show Str.ofString "+" = Str.mk [43].toArray by decide, show Str.ofString "-" = Str.mk [45].toArray by decide]
  simp only [List.any_cons, List.any_nil, one_beq', Bool.or_false]
  cases suf x i <;> rfl
section
variable {x : Str} {a : Int}
theorem suf1 (h : 0 ≤ a) : suf x (a + 1) = (suf x a).drop 1 := suf_add x a 1 h
theorem pow_no (h0 : 0 ≤ a) (h : ([Str.ofString "E", Str.ofString "e"].any fun y => y == Txt.slice x (some a) (some (a + 1))) = false) : a = a + nPow (suf x a) := by
  rw [any_E x a _ h0 rfl] at h
  unfold nPow
  rw [h]
  simp
theorem pow_big2 (h0 : 0 ≤ a) (ok : okPow (suf x a)) (h : ([Str.ofString "E", Str.ofString "e"].any fun y => y == Txt.slice x (some a) (some (a + 1))) = true) (h' : ([Str.ofString "+", Str.ofString "-"].any fun y => y == Txt.slice x (some (a + 1)) (some (a + 2))) = true)
    (hb : 3 < a + 2 + (cnt isFig (suf x (a + 2)) : Int) - (a + 2)) : False := by
  rw [any_E x a _ h0 rfl] at h
  rw [any_pm x (a + 1) _ (by omega) (by omega)] at h'
  have k := ok h
  rw [← suf1 h0] at k
  unfold pSign at k
  rw [h', if_pos rfl, ← suf1 (by omega), show a + 1 + 1 = a + 2 by omega] at k
  omega
theorem pow_big1 (h0 : 0 ≤ a) (ok : okPow (suf x a)) (h : ([Str.ofString "E", Str.ofString "e"].any fun y => y == Txt.slice x (some a) (some (a + 1))) = true) (h' : ([Str.ofString "+", Str.ofString "-"].any fun y => y == Txt.slice x (some (a + 1)) (some (a + 2))) = false)
    (hb : 3 < a + 1 + (cnt isFig (suf x (a + 1)) : Int) - (a + 1)) : False := by
  rw [any_E x a _ h0 rfl] at h
  rw [any_pm x (a + 1) _ (by omega) (by omega)] at h'
  have k := ok h
  rw [← suf1 h0] at k
  unfold pSign at k
  rw [h', if_neg Bool.false_ne_true, List.drop_zero] at k
  omega
theorem pow_yes2 (h0 : 0 ≤ a) (h : ([Str.ofString "E", Str.ofString "e"].any fun y => y == Txt.slice x (some a) (some (a + 1))) = true) (h' : ([Str.ofString "+", Str.ofString "-"].any fun y => y == Txt.slice x (some (a + 1)) (some (a + 2))) = true)
    (hb : a + 2 < a + 2 + (cnt isFig (suf x (a + 2)) : Int)) : a + 2 + (cnt isFig (suf x (a + 2)) : Int) = a + nPow (suf x a) := by
  rw [any_E x a _ h0 rfl] at h
  rw [any_pm x (a + 1) _ (by omega) (by omega)] at h'
  unfold nPow pSign
  rw [← suf1 h0, h, h', if_pos rfl, if_pos rfl, ← suf1 (by omega), show a + 1 + 1 = a + 2 by omega, if_neg (by omega)]
  omega
theorem pow_zero2 (h0 : 0 ≤ a) (h : ([Str.ofString "E", Str.ofString "e"].any fun y => y == Txt.slice x (some a) (some (a + 1))) = true) (h' : ([Str.ofString "+", Str.ofString "-"].any fun y => y == Txt.slice x (some (a + 1)) (some (a + 2))) = true)
    (hb : ¬ a + 2 < a + 2 + (cnt isFig (suf x (a + 2)) : Int)) : a = a + nPow (suf x a) := by
  rw [any_E x a _ h0 rfl] at h
  rw [any_pm x (a + 1) _ (by omega) (by omega)] at h'
  unfold nPow pSign
  rw [← suf1 h0, h, h', if_pos rfl, if_pos rfl, ← suf1 (by omega), show a + 1 + 1 = a + 2 by omega, if_pos (by omega)]
  omega
theorem pow_yes1 (h0 : 0 ≤ a) (h : ([Str.ofString "E", Str.ofString "e"].any fun y => y == Txt.slice x (some a) (some (a + 1))) = true) (h' : ([Str.ofString "+", Str.ofString "-"].any fun y => y == Txt.slice x (some (a + 1)) (some (a + 2))) = false)
    (hb : a + 1 < a + 1 + (cnt isFig (suf x (a + 1)) : Int)) : a + 1 + (cnt isFig (suf x (a + 1)) : Int) = a + nPow (suf x a) := by
  rw [any_E x a _ h0 rfl] at h
  rw [any_pm x (a + 1) _ (by omega) (by omega)] at h'
  unfold nPow pSign
  rw [← suf1 h0, h, h', if_pos rfl, if_neg Bool.false_ne_true, List.drop_zero, if_neg (by omega)]
  omega
theorem pow_zero1 (h0 : 0 ≤ a) (h : ([Str.ofString "E", Str.ofString "e"].any fun y => y == Txt.slice x (some a) (some (a + 1))) = true) (h' : ([Str.ofString "+", Str.ofString "-"].any fun y => y == Txt.slice x (some (a + 1)) (some (a + 2))) = false)
    (hb : ¬ a + 1 < a + 1 + (cnt isFig (suf x (a + 1)) : Int)) : a = a + nPow (suf x a) := by
  rw [any_E x a _ h0 rfl] at h
  rw [any_pm x (a + 1) _ (by omega) (by omega)] at h'
  unfold nPow pSign
  rw [← suf1 h0, h, h', if_pos rfl, if_neg Bool.false_ne_true, List.drop_zero, if_pos (by omega)]
  omega
end

/-! the end of DATA's text -/
def dEnd : Bool → List Nat → Nat
  | _, [] => 0
  | q, c :: r => if q || c != 58 then dEnd (if c == 34 then !q else q) r + 1 else 0
section
variable {x : Str} {i z : Int} {q : Bool}
theorem item_beq (h0 : 0 ≤ i) (hl : i < x.length) (d : Nat) (y : Str) (hy : y = Str.mk [d].toArray) : (Txt.item x i == y) = (x.cps.getD i.toNat 0 == d) := by
  subst hy
  rw [item_at x i h0 hl, show Str.mk #[x.cps.getD i.toNat 0] = Str.mk [x.cps.getD i.toNat 0].toArray from rfl, beq_mk, Bool.eq_iff_iff]
  simp
theorem item_bne (h0 : 0 ≤ i) (hl : i < x.length) (d : Nat) (y : Str) (hy : y = Str.mk [d].toArray) : (Txt.item x i != y) = (x.cps.getD i.toNat 0 != d) := by
  unfold bne
  rw [item_beq h0 hl d y hy]
theorem quote_lit : Str.ofString "\"" = Str.mk [34].toArray := by decide
theorem colon_lit : Str.ofString ":" = Str.mk [58].toArray := by decide
theorem data_q (h0 : 0 ≤ i) (hl : i < x.length) (hq : (Txt.item x i == Str.ofString "\"") = true) (hs : q = true ∨ (Txt.item x i != Str.ofString ":") = true) (he : i + dEnd q (suf x i) = z) : 0 ≤ i + 1 ∧ i + 1 + dEnd (!q) (suf x (i + 1)) = z := by
  rw [item_beq h0 hl 34 _ quote_lit] at hq
  rw [item_bne h0 hl 58 _ colon_lit] at hs
  rw [suf_cons h0 hl, dEnd, if_pos (by rcases hs with h | h <;> rw [h] <;> simp), if_pos hq] at he
  omega
theorem data_n (h0 : 0 ≤ i) (hl : i < x.length) (hq : (Txt.item x i == Str.ofString "\"") = false) (hs : q = true ∨ (Txt.item x i != Str.ofString ":") = true) (he : i + dEnd q (suf x i) = z) : 0 ≤ i + 1 ∧ i + 1 + dEnd q (suf x (i + 1)) = z := by
  rw [item_beq h0 hl 34 _ quote_lit] at hq
  rw [item_bne h0 hl 58 _ colon_lit] at hs
  rw [suf_cons h0 hl, dEnd, if_pos (by rcases hs with h | h <;> rw [h] <;> simp), if_neg (by rw [hq]; exact Bool.false_ne_true)] at he
  omega
theorem data_out (h0 : 0 ≤ i) (hl : i < x.length) (he : i + dEnd q (suf x i) = z) (hq : q = false) (hs : (Txt.item x i != Str.ofString ":") = false) : i = z := by
  rw [item_bne h0 hl 58 _ colon_lit] at hs
  rw [suf_cons h0 hl, dEnd, if_neg (by rw [hq, hs]; exact Bool.false_ne_true)] at he
  omega
theorem data_end (hl : ¬ i < x.length) (he : i + dEnd q (suf x i) = z) : i = z := by
  rw [suf_nil (by omega), dEnd] at he
  omega
end

/-! a remark's text -/
def remL (l : List Nat) : List Nat := if hdIs (· == 32) l then l.drop 1 else l
theorem suf0 (x : Str) : suf x 0 = x.cps.toList := rfl
theorem slice_n1 (x : Str) : Txt.slice x none (some 1) = Txt.slice x (some 0) (some 1) := by
  unfold Txt.slice
  have : Builtin.Str.strSliceIndices none (some 1) 1 x.length = Builtin.Str.strSliceIndices (some 0) (some 1) 1 x.length := by
    unfold Builtin.Str.strSliceIndices
    simp only [show (1 : Int) > 0 by decide, if_true, show ¬ (0 : Int) < 0 by decide, if_false]
    congr 1
  rw [this]
theorem rem_yes {x : Str} (h : (Txt.slice x none (some 1) == Str.ofString " ") = true) : Txt.slice x (some 1) none = ⟨(remL x.cps.toList).toArray⟩ := by
  rw [slice_n1, slice_one x 0 1 (by omega) (by omega), show Str.ofString " " = Str.mk [32].toArray by decide, one_beq, suf0] at h
  unfold remL
  rw [slice_sn x 1 (by omega), h, if_pos rfl]
  try rfl
theorem rem_no {x : Str} (h : (Txt.slice x none (some 1) == Str.ofString " ") = false) : x = ⟨(remL x.cps.toList).toArray⟩ := by
  rw [slice_n1, slice_one x 0 1 (by omega) (by omega), show Str.ofString " " = Str.mk [32].toArray by decide, one_beq, suf0] at h
  unfold remL
  rw [h, if_neg Bool.false_ne_true]
end Mine
end
section
open PySem PySem.W PyProof.Rows
namespace Mine

/-! a search between two places -/
def find4 (x y : Str) (i j : Int) : Int := match Builtin.Str.occurrences x y (fromIndex x.length i) (min (fromIndex x.length j) x.length) 1 with | k :: _ => (k : Int) | [] => -1
theorem gives_find4 (x y : Str) (i j : Int) (t u v z : Tok) : Gives (Builtin.«str.find» ⟨[.str x t, .str y u, .int i v, .int j z], []⟩) (.int (find4 x y i j)) := by
  show Gives (match Builtin.Str.occurrences x y (fromIndex x.length i) (min (fromIndex x.length j) x.length) 1 with | k :: _ => retInt k | [] => (do rule "str.find.not-found"; retInt (-1))) _
  unfold find4
  cases Builtin.Str.occurrences x y (fromIndex x.length i) (min (fromIndex x.length j) x.length) 1 with
  | nil => exact .rule (.of_eq rfl)
  | cons k _ => exact .of_eq rfl
theorem m_find4 {prog : Program} {w : World} {A : Around} {E : Value → Shared → Prop} {s : Shared} {x y : Str} {t u v z : Tok} {i j : Int} {Q : Value → Shared → Prop}
    (hq : Q (.int (find4 x y i j) s.toks) { s with toks := s.toks + 1 }) : wpAny (model prog w) A (call (.builtin "str.find") [.str x t, .str y u, .int i v, .int j z]) Q E s :=
  call_gives F.slot_str_find (typeIs_str _ _ _) F.entry_str_find (F.args_str_find_4 _ _ _ _) (gives_find4 x y i j t u v z) hq
theorem fromIndex_nonneg {n : Nat} {i : Int} (h : 0 ≤ i) : fromIndex n i = i.toNat := by
  unfold fromIndex
  rw [if_neg (by omega)]
  congr 1
  omega
theorem find4_spec (x : Str) (c : Nat) (i j : Int) (h0 : 0 ≤ i) (hij : i ≤ j) (hj : j ≤ x.length) : decide (find4 x ⟨#[c]⟩ i j < 0) = !((suf x i).take (j - i).toNat).contains c := by
  unfold find4
  rw [fromIndex_nonneg h0, fromIndex_nonneg (by omega : (0 : Int) ≤ j), show min j.toNat x.length = j.toNat by omega, StrLaws.occ_eq]
  have hmem : ∀ k : Nat, i.toNat ≤ k → (StrLaws.At x ⟨#[c]⟩ j.toNat k ↔ k < j.toNat ∧ x.cps.toList[k]? = some c) := by
    intro k hk
    unfold StrLaws.At
    have e : (⟨#[c]⟩ : Str).length = 1 := rfl
    have h1 := StrLaws.subAt_one x c k
    have e2 : x.cps.toList.length = x.length := rfl
    constructor
    · rintro ⟨a, b⟩
      exact ⟨by omega, h1.mp ⟨by omega, b⟩⟩
    · rintro ⟨a, b⟩
      exact ⟨by omega, (h1.mpr b).2⟩
  have hc : ((suf x i).take (j - i).toNat).contains c = true ↔ ∃ k : Nat, i.toNat ≤ k ∧ k < j.toNat ∧ x.cps.toList[k]? = some c := by
    rw [List.contains_iff_mem, List.mem_iff_getElem?]
    constructor
    · rintro ⟨n, hn⟩
      rw [List.getElem?_take] at hn
      split at hn
      · unfold suf at hn
        rw [List.getElem?_drop] at hn
        exact ⟨i.toNat + n, by omega, by omega, hn⟩
      · cases hn
    · rintro ⟨k, h1, h2, h3⟩
      refine ⟨k - i.toNat, ?_⟩
      rw [List.getElem?_take, if_pos (by omega)]
      unfold suf
      rw [List.getElem?_drop, show i.toNat + (k - i.toNat) = k by omega]
      exact h3
  rcases StrLaws.occ_first x ⟨#[c]⟩ j.toNat 1 (Nat.le_refl 1) (List.range' i.toNat (j.toNat + 1 - i.toNat)) i.toNat (fun k hk => by have := List.mem_range'_1.mp hk; omega) with ⟨e, hn⟩ | ⟨pre, a, post, e, h1, ha, hn⟩
  · rw [e]
    have : ((suf x i).take (j - i).toNat).contains c = false := by
      rw [Bool.eq_false_iff]
      intro h
      obtain ⟨k, k1, k2, k3⟩ := hc.mp h
      exact hn k (by rw [List.mem_range'_1]; omega) ((hmem k k1).mpr ⟨k2, k3⟩)
    rw [this]
    rfl
  · generalize (forIn (List.range' i.toNat (j.toNat + 1 - i.toNat)) ((#[] : Array Nat), i.toNat) (StrLaws.occBody x ⟨#[c]⟩ j.toNat 1)).run.fst = arr at h1
    have h2 : arr.toList[0]? = some a := by simpa using h1
    cases hL : arr.toList with
    | nil => rw [hL] at h2; cases h2
    | cons b r =>
      have hr := StrLaws.range'_split_from e
      have := (hmem a hr.1).mp ha
      rw [hc.mpr ⟨a, hr.1, this⟩]
      show decide ((b : Int) < 0) = !true
      rw [decide_eq_false (by omega)]
      rfl

/-! a number -/
def nMant (l : List Nat) : Nat := if hdIs (· == 46) (l.drop (cnt isFig l)) then cnt isFig l + 1 + cnt isFig ((l.drop (cnt isFig l)).drop 1) else cnt isFig l
def nBeh (l : List Nat) : Nat := nMant l + nPow (l.drop (nMant l))
def nNum (l : List Nat) : Nat :=
  if hdIs (· == 33) (l.drop (nBeh l)) || (hdIs (· == 37) (l.drop (nBeh l)) && (!(l.take (nMant l)).contains 46) && nPow (l.drop (nMant l)) == 0) then nBeh l + 1 else nBeh l
def okNum (l : List Nat) : Prop := nMant l ≤ 40 ∧ okPow (l.drop (nMant l))
section
variable {x : Str} {a : Int}
theorem dot_lit : Str.ofString "." = Str.mk [46].toArray := by decide
theorem bang_lit : Str.ofString "!" = Str.mk [33].toArray := by decide
theorem perc_lit : Str.ofString "%" = Str.mk [37].toArray := by decide
theorem mant_dot (h0 : 0 ≤ a) (h : (Txt.slice x (some (a + cnt isFig (suf x a))) (some (a + cnt isFig (suf x a) + 1)) == Str.ofString ".") = true) :
    a + cnt isFig (suf x a) + 1 + cnt isFig (suf x (a + cnt isFig (suf x a) + 1)) = a + nMant (suf x a) := by
  rw [slice_one x _ _ (by omega) rfl, dot_lit, one_beq, suf_add x a _ h0] at h
  unfold nMant
  rw [h, if_pos rfl, suf1 (by omega), suf_add x a _ h0]
  omega
theorem mant_no (h0 : 0 ≤ a) (h : (Txt.slice x (some (a + cnt isFig (suf x a))) (some (a + cnt isFig (suf x a) + 1)) == Str.ofString ".") = false) :
    a + cnt isFig (suf x a) = a + nMant (suf x a) := by
  rw [slice_one x _ _ (by omega) rfl, dot_lit, one_beq, suf_add x a _ h0] at h
  unfold nMant
  rw [h, if_neg Bool.false_ne_true]
theorem mant_dot' {i j : Int} (h0 : 0 ≤ a) (hi : i = a + cnt isFig (suf x a)) (h : (Txt.slice x (some i) (some (i + 1)) == Str.ofString ".") = true) (hj : j = i + 1 + cnt isFig (suf x (i + 1))) : j = a + nMant (suf x a) := by
  subst hj
  subst hi
  exact mant_dot h0 h
theorem mant_no' {i : Int} (h0 : 0 ≤ a) (hi : i = a + cnt isFig (suf x a)) (h : (Txt.slice x (some i) (some (i + 1)) == Str.ofString ".") = false) : i = a + nMant (suf x a) := by
  subst hi
  exact mant_no h0 h
theorem mant_le (l : List Nat) : nMant l ≤ l.length := by
  have h1 := cnt_le isFig l
  unfold nMant
  split
  · rename_i h
    have h2 := cnt_le isFig ((l.drop (cnt isFig l)).drop 1)
    rw [List.length_drop, List.length_drop] at h2
    have h4 : 0 < (l.drop (cnt isFig l)).length := by
      cases e : l.drop (cnt isFig l) with
      | nil => rw [e] at h; cases h
      | cons c r => simp
    rw [List.length_drop] at h4
    omega
  · exact h1
theorem num_big {b : Int} (hb : b = a + nMant (suf x a)) (ok : okNum (suf x a)) (h : 40 < b - a) : False := by
  have := ok.1
  omega
theorem num_pow {b : Int} (h0 : 0 ≤ a) (hb : b = a + nMant (suf x a)) (ok : okNum (suf x a)) : okPow (suf x b) := by
  rw [hb, suf_add x a _ h0]
  exact ok.2
theorem num_beh {b : Int} (h0 : 0 ≤ a) (hb : b = a + nMant (suf x a)) : b + nPow (suf x b) = a + nBeh (suf x a) := by
  rw [hb, suf_add x a _ h0]
  unfold nBeh
  omega
theorem num_plain {b : Int} (h0 : 0 ≤ a) (ha : a < x.length) (hb : b = a + nMant (suf x a)) : decide (find4 x (Str.ofString ".") a b < 0) = !((suf x a).take (nMant (suf x a))).contains 46 := by
  have hm := mant_le (suf x a)
  rw [suf_len] at hm
  rw [dot_lit, show Str.mk [46].toArray = ⟨#[46]⟩ from rfl, find4_spec x 46 a b h0 (by omega) (by omega), show (b - a).toNat = nMant (suf x a) by omega]
theorem num_last {e : Int} {c : Nat} {y : Str} (h0 : 0 ≤ a) (he : e = a + nBeh (suf x a)) (hy : y = Str.mk [c].toArray) : (Txt.slice x (some e) (some (e + 1)) == y) = hdIs (· == c) ((suf x a).drop (nBeh (suf x a))) := by
  subst hy
  rw [slice_one x _ _ (by omega) rfl, one_beq, he, suf_add x a _ h0]
theorem num_bang {b e : Int} (h0 : 0 ≤ a) (hb : b = a + nMant (suf x a)) (he : e = b + nPow (suf x b)) (h : (Txt.slice x (some e) (some (e + 1)) == Str.ofString "!") = true) : e + 1 = a + nNum (suf x a) := by
  subst he
  have hB := num_beh (x := x) h0 hb
  rw [num_last h0 hB bang_lit] at h
  unfold nNum
  rw [h, Bool.true_or, if_pos rfl]
  omega
theorem num_perc {b e : Int} (h0 : 0 ≤ a) (ha : a < x.length) (hb : b = a + nMant (suf x a)) (he : e = b + nPow (suf x b)) (h : (Txt.slice x (some e) (some (e + 1)) == Str.ofString "%") = true)
    (hp : find4 x (Str.ofString ".") a b < 0) (hz : e = b) : e + 1 = a + nNum (suf x a) := by
  subst he
  have hB := num_beh (x := x) h0 hb
  rw [num_last h0 hB perc_lit] at h
  have h2 := num_plain (x := x) h0 ha hb
  rw [decide_eq_true hp] at h2
  have h3 : nPow ((suf x a).drop (nMant (suf x a))) = 0 := by
    rw [hb, suf_add x a _ h0] at hz
    omega
  unfold nNum
  rw [h, ← h2, h3, Bool.true_and, Bool.true_and, beq_self_eq_true, Bool.or_true, if_pos rfl]
  omega
theorem num_out {b e : Int} (h0 : 0 ≤ a) (ha : a < x.length) (hb : b = a + nMant (suf x a)) (he : e = b + nPow (suf x b)) (h : (Txt.slice x (some e) (some (e + 1)) == Str.ofString "!") = false)
    (h' : (Txt.slice x (some e) (some (e + 1)) == Str.ofString "%") = false ∨ ¬ find4 x (Str.ofString ".") a b < 0 ∨ ¬ e = b) : e = a + nNum (suf x a) := by
  subst he
  have hB := num_beh (x := x) h0 hb
  rw [num_last h0 hB bang_lit] at h
  rw [num_last h0 hB perc_lit] at h'
  have h2 := num_plain (x := x) h0 ha hb
  have h3 : ¬ b + nPow (suf x b) = b → (nPow ((suf x a).drop (nMant (suf x a))) == 0) = false := by
    intro hz
    rw [hb, suf_add x a _ h0] at hz
    rw [beq_eq_false_iff_ne]
    omega
  unfold nNum
  rw [h, Bool.false_or]
  rcases h' with e | e | e
  · rw [e]
    simpa using hB
  · rw [decide_eq_false e] at h2
    rw [← h2]
    simpa using hB
  · rw [h3 e]
    simpa using hB
end
end Mine
end
section
open PySem PySem.W PyProof.Rows
namespace Mine

/-! comparisons -/
def pairOf (c d : Nat) : Option (List Nat) :=
  if c = 60 ∧ d = 61 then some [60, 61] else if c = 61 ∧ d = 60 then some [60, 61] else if c = 62 ∧ d = 61 then some [62, 61] else if c = 61 ∧ d = 62 then some [62, 61]
  else if c = 60 ∧ d = 62 then some [60, 62] else if c = 62 ∧ d = 60 then some [60, 62] else none
def ordF (c : Nat) (r : List Nat) : List Nat × Nat := match r.drop (cnt isBl r) with
  | d :: _ => (match pairOf c d with | some w => (w, cnt isBl r + 2) | none => ([c], 1))
  | [] => ([c], 1)
def ordT : List Nat → List Nat × Nat
  | c :: r => ordF c r
  | [] => ([], 0)
section
variable {x : Str} {a i : Int}
theorem app_one (c : Nat) (l : List Nat) : (Str.mk #[c] ++ Str.mk l.toArray : Str) = Str.mk (c :: l).toArray := by
  show Str.mk (#[c] ++ l.toArray) = _
  congr 1
  simp
theorem ord_both (h0 : 0 ≤ a) (hl : a < x.length) (hi : i = a + 1 + cnt isBl (suf x (a + 1))) :
    Txt.item x a ++ Txt.slice x (some i) (some (i + 1)) = Str.mk (x.cps.getD a.toNat 0 :: ((suf x (a + 1)).drop (cnt isBl (suf x (a + 1)))).take 1).toArray := by
  rw [item_at x a h0 hl, slice_one x i _ (by omega) rfl, app_one, hi, suf_add x (a + 1) _ (by omega)]
theorem ord_hit (h0 : 0 ≤ a) (hl : a < x.length) (hi : i = a + 1 + cnt isBl (suf x (a + 1))) {p q : Nat} {w : List Nat} (h : Txt.item x a ++ Txt.slice x (some i) (some (i + 1)) = ⟨#[p, q]⟩) (hw : pairOf p q = some w) :
    ordT (suf x a) = (w, cnt isBl (suf x (a + 1)) + 2) := by
  rw [ord_both h0 hl hi] at h
  have h2 : x.cps.getD a.toNat 0 :: ((suf x (a + 1)).drop (cnt isBl (suf x (a + 1)))).take 1 = [p, q] := by
    have := congrArg (fun s : Str => s.cps.toList) h
    exact this
  rw [List.cons.injEq] at h2
  rw [suf_cons h0 hl, ordT, ordF, h2.1]
  cases e : (suf x (a + 1)).drop (cnt isBl (suf x (a + 1))) with
  | nil => rw [e] at h2; cases h2.2
  | cons d r =>
    rw [e] at h2
    have h3 : d = q := by simpa using h2.2
    subst h3
    simp only [hw]
theorem ord_e (h0 : 0 ≤ a) (hl : a < x.length) (hi : i = a + 1 + cnt isBl (suf x (a + 1))) {p q : Nat} {w : List Nat} (h : Txt.item x a ++ Txt.slice x (some i) (some (i + 1)) = ⟨#[p, q]⟩) (hw : pairOf p q = some w) :
    i + 1 = a + (ordT (suf x a)).2 := by
  rw [ord_hit h0 hl hi h hw]
  show i + 1 = a + ((cnt isBl (suf x (a + 1)) + 2 : Nat) : Int)
  omega
theorem ord_t (h0 : 0 ≤ a) (hl : a < x.length) (hi : i = a + 1 + cnt isBl (suf x (a + 1))) {p q : Nat} {w : List Nat} {y : Str} (h : Txt.item x a ++ Txt.slice x (some i) (some (i + 1)) = ⟨#[p, q]⟩) (hw : pairOf p q = some w) (hy : y = ⟨w.toArray⟩) :
    y = ⟨(ordT (suf x a)).1.toArray⟩ := by
  rw [ord_hit h0 hl hi h hw]
  exact hy
theorem ord_none (h0 : 0 ≤ a) (hl : a < x.length) (hi : i = a + 1 + cnt isBl (suf x (a + 1))) {y : Str} (hy : y = Txt.item x a ++ Txt.slice x (some i) (some (i + 1)))
    (h : (decide (y = { cps := #[60, 61] }) || (decide (y = { cps := #[61, 60] }) || (decide (y = { cps := #[62, 61] }) || (decide (y = { cps := #[61, 62] }) || (decide (y = { cps := #[60, 62] }) || (decide (y = { cps := #[62, 60] }) || false)))))) = false) :
    ordT (suf x a) = ([x.cps.getD a.toNat 0], 1) := by
  rw [ord_both h0 hl hi] at hy
  rw [suf_cons h0 hl, ordT, ordF]
  cases e : (suf x (a + 1)).drop (cnt isBl (suf x (a + 1))) with
  | nil => rfl
  | cons d r =>
    rw [e] at hy
    simp only [List.take_succ_cons, List.take_zero] at hy
    generalize x.cps.getD a.toNat 0 = c at hy ⊢
    have hp : pairOf c d = none := by
      subst hy
      simp only [Bool.or_eq_false_iff, decide_eq_false_iff_not, Str.mk.injEq] at h
      unfold pairOf
      have k : ∀ p q : Nat, ¬ ([c, d].toArray = #[p, q]) → ¬ (c = p ∧ d = q) := fun p q hn ⟨e1, e2⟩ => hn (by rw [e1, e2])
      rw [if_neg (k _ _ h.1), if_neg (k _ _ h.2.1), if_neg (k _ _ h.2.2.1), if_neg (k _ _ h.2.2.2.1), if_neg (k _ _ h.2.2.2.2.1), if_neg (k _ _ h.2.2.2.2.2.1)]
    simp only [hp]

/-! texts -/
theorem cnt_first (p : Nat → Bool) : ∀ (l : List Nat) (n : Nat), (∀ k, k < n → ∃ c, l[k]? = some c ∧ p c = true) → (∃ c, l[n]? = some c ∧ p c = false) → cnt p l = n
  | [], n, _, ⟨_, h, _⟩ => by simp at h
  | c :: r, 0, _, ⟨d, h, hp⟩ => by
    have : d = c := by simpa using h.symm
    subst this
    exact cnt_cons_f hp
  | c :: r, n + 1, h, ⟨d, hd, hp⟩ => by
    obtain ⟨e, he, hpe⟩ := h 0 (Nat.succ_pos n)
    have : e = c := by simpa using he.symm
    subst this
    rw [cnt_cons_t hpe, cnt_first p r n (fun k hk => by simpa using h (k + 1) (Nat.succ_lt_succ hk)) ⟨d, by simpa using hd, hp⟩]
theorem txt_find (h0 : 0 ≤ a) (h : 34 ∈ suf x (a + 1)) : Txt.find3 x (Str.ofString "\"") (a + 1) = a + 1 + cnt (fun c => c != 34) (suf x (a + 1)) := by
  have hq : Str.ofString "\"" = (⟨#[34]⟩ : Str) := by decide
  have hf : fromIndex x.length (a + 1) = (a + 1).toNat := fromIndex_nonneg (by omega)
  have hg : ∀ v : Nat, x.cps.toList[v]? = x.cps[v]? := fun v => by simp
  have hD : ∀ v : Nat, v < x.length → x.cps.toList[v]? = some (x.cps.getD v 0) := fun v hv => by
    have hv' : v < x.cps.size := hv
    rw [hg, Array.getD_eq_getD_getElem?, Array.getElem?_eq_getElem hv']
    rfl
  have hs : ∀ n : Nat, (suf x (a + 1))[n]? = x.cps.toList[(a + 1).toNat + n]? := fun n => by
    unfold suf
    rw [List.getElem?_drop]
  rw [hq]
  rcases StrLaws.find3_spec x 34 (a + 1) with ⟨_, hn⟩ | ⟨k, e, hlo, hlt, hc, hn⟩
  · exfalso
    rw [hf] at hn
    obtain ⟨n, hn'⟩ := List.mem_iff_getElem?.mp h
    rw [hs] at hn'
    have hlt : (a + 1).toNat + n < x.length := by
      have := (List.getElem?_eq_some_iff.mp hn').1
      exact this
    rw [hD _ hlt] at hn'
    exact hn _ (by omega) hlt (Option.some.inj hn')
  · rw [hf] at hlo hn
    rw [e]
    have := cnt_first (fun c => c != 34) (suf x (a + 1)) (k - (a + 1).toNat) (fun v hv => ⟨x.cps.getD ((a + 1).toNat + v) 0, by rw [hs]; exact hD _ (by omega), by
      have := hn ((a + 1).toNat + v) (by omega) (by omega)
      simpa using this⟩) ⟨34, by rw [hs, show (a + 1).toNat + (k - (a + 1).toNat) = k by omega, hD k hlt, hc], rfl⟩
    omega
def nTxt (l : List Nat) : Nat := cnt (fun c => c != 34) l
theorem txt_told (h0 : 0 ≤ a) (h : 34 ∈ suf x (a + 1)) : Txt.slice x (some (a + 1)) (some (Txt.find3 x (Str.ofString "\"") (a + 1))) = ⟨((suf x (a + 1)).take (nTxt (suf x (a + 1)))).toArray⟩ := by
  rw [txt_find h0 h, slice_ss x _ _ (by omega) (by omega)]
  unfold nTxt
  congr 3
  omega
theorem txt_e (h0 : 0 ≤ a) (h : 34 ∈ suf x (a + 1)) : Txt.find3 x (Str.ofString "\"") (a + 1) + 1 = a + ((nTxt (suf x (a + 1)) + 2 : Nat) : Int) := by
  rw [txt_find h0 h]
  unfold nTxt
  omega
theorem txt_no (h0 : 0 ≤ a) (h : 34 ∈ suf x (a + 1)) (hn : Txt.find3 x (Str.ofString "\"") (a + 1) < 0) : False := by
  rw [txt_find h0 h] at hn
  omega
end
end Mine
end
section
open PySem PySem.W PyProof.Rows
namespace Mine

/-! words -/
def wordsL : List Str := Txt.split (Str.ofString "LET PRINT USING INPUT LINE IF THEN ELSE GOTO GOSUB ON RETURN FOR TO STEP NEXT WHILE WEND DEF FNEND READ DATA RESTORE DIM ERASE OPTION BASE SWAP ERROR RESUME STOP END REM RANDOMIZE DEFINT DEFSNG DEFSTR MAT ZER CON IDN INV TRN OPEN OUTPUT APPEND RANDOM AS CLOSE FIELD LSET RSET GET PUT WRITE CHAIN COMMON TRON TROFF AND OR XOR EQV IMP NOT MOD") (Str.ofString " ")
def funcsL : List Str := Txt.split (Str.ofString "ABS ASC CHR$ CINT CSNG CVI CVS EDIT$ EOF ERL ERR FIX FRE HEX$ INSTR INT LCASE$ LEFT$ LEN LOC LOF LPOS LTRIM$ MAX MID$ MIN MKI$ MKS$ OCT$ PI POS RIGHT$ RND RTRIM$ SEG$ SGN SPACE$ SPC SQR STR$ STRING$ SWAP% TAB UCASE$ VAL XLATE$") (Str.ofString " ")
def isWordS (x : Str) : Bool := wordsL.any (· == x) || funcsL.any (· == x)

/-- a token: its kind, what it tells -/
abbrev Tk := Str × Str
def tkD (t : Tk) : Dat := .tuple [.str t.1, .str t.2]
def strip2 (l : List Nat) : Str := Txt.stripChars (Str.mk l.toArray) (Str.ofString " \t")
def toldW (l : List Nat) : Str := ⟨((l.take (nName l)).map up).toArray⟩
def wordF (l : List Nat) : List Tk × Nat :=
  if toldW l == Str.ofString "REM" then ([(Str.ofString "rem", ⟨(remL (l.drop (nName l))).toArray⟩)], l.length)
  else if toldW l == Str.ofString "DATA" then ([(Str.ofString "word", toldW l), (Str.ofString "raw", strip2 ((l.drop (nName l)).take (dEnd false (l.drop (nName l)))))], nName l + dEnd false (l.drop (nName l)))
  else ([(if isWordS (toldW l) then Str.ofString "word" else Str.ofString "name", toldW l)], nName l)
section
variable {x : Str} {a e : Int} {y : Str}
theorem word_told (h0 : 0 ≤ a) (he : e = a + nName (suf x a)) (hy : y = ⟨(List.map up (Txt.slice x (some a) (some e)).cps.toList).toArray⟩) : y = toldW (suf x a) := by
  rw [hy, slice_ss x a e h0 (by omega), he, show (a + (nName (suf x a) : Int) - a).toNat = nName (suf x a) by omega]
  rfl
theorem wordF_rem (hy : y = toldW (suf x a)) (h : (y == Str.ofString "REM") = true) : wordF (suf x a) = ([(Str.ofString "rem", ⟨(remL ((suf x a).drop (nName (suf x a)))).toArray⟩)], (suf x a).length) := by
  subst hy
  unfold wordF
  rw [if_pos h]
theorem wordF_data (hy : y = toldW (suf x a)) (h : (y == Str.ofString "REM") = false) (h' : (y == Str.ofString "DATA") = true) : wordF (suf x a) = ([(Str.ofString "word", y), (Str.ofString "raw", strip2 (((suf x a).drop (nName (suf x a))).take (dEnd false ((suf x a).drop (nName (suf x a))))))], nName (suf x a) + dEnd false ((suf x a).drop (nName (suf x a)))) := by
  subst hy
  unfold wordF
  rw [if_neg (by rw [h]; exact Bool.false_ne_true), if_pos h']
theorem wordF_else (hy : y = toldW (suf x a)) (h : (y == Str.ofString "REM") = false) (h' : (y == Str.ofString "DATA") = false) : wordF (suf x a) = ([(if isWordS y then Str.ofString "word" else Str.ofString "name", y)], nName (suf x a)) := by
  subst hy
  unfold wordF
  rw [if_neg (by rw [h]; exact Bool.false_ne_true), if_neg (by rw [h']; exact Bool.false_ne_true)]
theorem rem_told (h0 : 0 ≤ a) (he : e = a + nName (suf x a)) (hy : y = ⟨(remL (Txt.slice x (some e) none).cps.toList).toArray⟩) : y = ⟨(remL ((suf x a).drop (nName (suf x a)))).toArray⟩ := by
  rw [hy, slice_sn x e (by omega), he, suf_add x a _ h0]
theorem raw_told {e' : Int} (h0 : 0 ≤ a) (he : e = a + nName (suf x a)) (he' : e' = e + dEnd false (suf x e)) : Txt.stripChars (Txt.slice x (some e) (some e')) (Str.ofString " \t") = strip2 (((suf x a).drop (nName (suf x a))).take (dEnd false ((suf x a).drop (nName (suf x a))))) := by
  rw [slice_ss x e e' (by omega) (by omega), he', show (e + (dEnd false (suf x e) : Int) - e).toNat = dEnd false (suf x e) by omega, he, suf_add x a _ h0]
  rfl
section
variable (h0 : 0 ≤ a) (he : e = a + nName (suf x a)) (hy : y = ⟨(List.map up (Txt.slice x (some a) (some e)).cps.toList).toArray⟩)
include h0 he hy
theorem wl_rem_e (hl : a < x.length) (h : (y == Str.ofString "REM") = true) : (x.length : Int) = a + ((wordF (suf x a)).2 : Int) := by
  rw [wordF_rem (word_told h0 he hy) h]
  show (x.length : Int) = a + ((suf x a).length : Int)
  rw [suf_len]
  omega
theorem wl_rem_t {z : Str} (h : (y == Str.ofString "REM") = true) (hz : z = ⟨(remL (Txt.slice x (some e) none).cps.toList).toArray⟩) : (wordF (suf x a)).1 = [(Str.ofString "rem", z)] := by
  rw [wordF_rem (word_told h0 he hy) h, rem_told h0 he hz]
theorem wl_data_e {e' : Int} (h : (y == Str.ofString "REM") = false) (h' : (y == Str.ofString "DATA") = true) (he' : e' = e + dEnd false (suf x e)) : e' = a + ((wordF (suf x a)).2 : Int) := by
  rw [wordF_data (word_told h0 he hy) h h']
  rw [he, suf_add x a _ h0] at he'
  show e' = a + ((nName (suf x a) + dEnd false ((suf x a).drop (nName (suf x a))) : Nat) : Int)
  omega
theorem wl_data_t {e' : Int} (h : (y == Str.ofString "REM") = false) (h' : (y == Str.ofString "DATA") = true) (he' : e' = e + dEnd false (suf x e)) :
    (wordF (suf x a)).1 = [(Str.ofString "word", y), (Str.ofString "raw", Txt.stripChars (Txt.slice x (some e) (some e')) (Str.ofString " \t"))] := by
  rw [wordF_data (word_told h0 he hy) h h', raw_told h0 he he']
theorem wl_e (h : (y == Str.ofString "REM") = false) (h' : (y == Str.ofString "DATA") = false) : e = a + ((wordF (suf x a)).2 : Int) := by
  rw [wordF_else (word_told h0 he hy) h h']
  exact he
theorem wl_word (h : (y == Str.ofString "REM") = false) (h' : (y == Str.ofString "DATA") = false) (hw : isWordS y = true) : (wordF (suf x a)).1 = [(Str.ofString "word", y)] := by
  rw [wordF_else (word_told h0 he hy) h h', hw]
  rfl
theorem wl_name (h : (y == Str.ofString "REM") = false) (h' : (y == Str.ofString "DATA") = false) (hw : isWordS y = false) : (wordF (suf x a)).1 = [(Str.ofString "name", y)] := by
  rw [wordF_else (word_told h0 he hy) h h', hw]
  rfl
end
end
end Mine
end
section
open PySem PySem.W PyProof.Rows
namespace Mine

/-- what a call of the def at f with vs does where the ledger is news: it comes back by Out, or (where Thr) it raises the text's own exception -/
def Tel (w : World) (f : Addr) (n : Nat) (news : List (Addr × Obj)) (vs : List Value) (Out : List (Addr × Obj) → Value → Prop) (Thr : Prop) : Prop :=
  ∀ (mean : ExcName → Option Value) (mg mb : Str → Option Value) (dp un : Nat) (gd : Option (List Code)) (cn : Str) (cs : Scope) (a : Addr) (ccd : Value) (cl : List (Str × Addr)) (outer : List Env) (A₀ : Around) (base h₀ : Heap) (L : Addr) (m : Str → Option Value) (s : Shared)
    (Q E : Value → Shared → Prop),
    Below A₀ base outer h₀ → Fr h₀ L s.heap m → (hd.heap_39 w.params).In h₀ → News h₀ L s.heap news →
    Top hd.view_39 (looseW hd.view_39 [Str.ofString "BasicError", Str.ofString "PAIRS"]) mean mg mb h₀ → cs.kind = .function → dp + n < recursionLimit → un + 8 * n < cLine →
    (∀ r nw h' tk', Fr h₀ L h' m → News h₀ L h' nw → Out nw r → Q r { s with heap := h', toks := tk' }) →
    (∀ e g h' tk', Thr → Fr h₀ L g m → RaisedSN base g (envX cn cs L a ccd cl :: outer) e (.ref 34) news h' → g.UpToSlots h' → E (.ref e) { s with heap := h', toks := tk' }) →
    wpAny (model (PySem.Challenge.rw_pq0174_01.row.prog) w) (ktrTop dp un gd cn cs L a ccd cl outer) (call (.ref f) vs) Q E s

def OutB (news : List (Addr × Obj)) (b : Bool) (nw : List (Addr × Obj)) (r : Value) : Prop := news = nw ∧ r = .bool b
def OutI (news : List (Addr × Obj)) (i : Int) (nw : List (Addr × Obj)) (r : Value) : Prop := news = nw ∧ ∃ (e : Int) (t : Tok), r = .int e t ∧ e = i
def OutS (news : List (Addr × Obj)) (x : Str) (nw : List (Addr × Obj)) (r : Value) : Prop := news = nw ∧ ∃ (y : Str) (t : Tok), r = .str y t ∧ y = x
end Mine
end
section
open PySem PySem.W PyProof.Rows
namespace Mine
/-- how a call stands where a contract is used -/
theorem use_tel {w : World} {f : Addr} {n : Nat} {news : List (Addr × Obj)} {vs : List Value} {Out : List (Addr × Obj) → Value → Prop} {Thr : Prop} (C : Tel w f n news vs Out Thr)
    {mean : ExcName → Option Value} {mg mb : Str → Option Value} {dp un : Nat} {gd : Option (List Code)} {cn : Str} {cs : Scope} {a : Addr} {ccd : Value} {cl : List (Str × Addr)} {outer : List Env} {A₀ : Around} {base h₀ : Heap} {L : Addr} {m : Str → Option Value} {s : Shared}
    {Q E : Value → Shared → Prop}
    (B : Below A₀ base outer h₀) (F : Fr h₀ L s.heap m) (X : (hd.heap_39 w.params).In h₀) (N : News h₀ L s.heap news)
    (T : Top hd.view_39 (looseW hd.view_39 [Str.ofString "BasicError", Str.ofString "PAIRS"]) mean mg mb h₀) (hk : cs.kind = .function) (hd : dp + n < recursionLimit) (hu : un + 8 * n < cLine)
    (hret : ∀ r nw h' tk', Fr h₀ L h' m → News h₀ L h' nw → Out nw r → Q r { s with heap := h', toks := tk' })
    (hthr : ∀ e g h' tk', Thr → Fr h₀ L g m → RaisedSN base g (envX cn cs L a ccd cl :: outer) e (.ref 34) news h' → g.UpToSlots h' → E (.ref e) { s with heap := h', toks := tk' }) :
    wpAny (model (PySem.Challenge.rw_pq0174_01.row.prog) w) (ktrTop dp un gd cn cs L a ccd cl outer) (call (.ref f) vs) Q E s :=
  C _ _ _ _ _ _ _ _ _ _ _ _ _ _ _ _ _ _ _ _ B F X N T hk hd hu hret hthr

def isFigL (x : List Nat) : Bool := !decide (x < [48]) && !decide ([57] < x)
theorem isFigL_one (c : Nat) : isFigL [c] = isFig c := by
  unfold isFigL isFig
  have h1 : ([c] < [48]) ↔ c < 48 := by rw [List.cons_lt_cons_iff]; simp
  have h2 : ([57] < [c]) ↔ 57 < c := by rw [List.cons_lt_cons_iff]; simp
  rw [Bool.eq_iff_iff]
  simp only [Bool.and_eq_true, Bool.not_eq_true', decide_eq_false_iff_not, decide_eq_true_eq, h1, h2]
  omega
theorem isFigL_nil : isFigL [] = false := by decide

theorem tIsFig (w : World) (news : List (Addr × Obj)) (x : Str) (t : Tok) : Tel w 67 1 news [.str x t] (OutB news (isFigL x.cps.toList)) False := by
  unfold Tel
  k_with_none
  k_with "m_open" => (
        refine wpAny_call ?_
        k_dflt ktr_enter)
  k_with "m_use" => (
        (case k1 => k_asm); (case k2 => k_asm); (case k3 => k_asm); (case k4 => k_asm); (case k5 => k_asm); (case kK => first | exact rfl | assumption); (case kd => ktr_room); (case ku => ktr_units))
  w_top off
  k_fill
  intro mean mg mb dp un gd cn cs a ccd cl outer A₀ base h₀ L m s Q E B F X N T hk hd hu hret hthr
  k_extra "m_open"
  k_steps
  · refine hret _ _ _ _ (by assumption) (by assumption) ⟨rfl, ?_⟩
    rename _ < _ => hc
    have e0 : (Str.ofString "0").cps.toList = [48] := by decide
    rw [e0] at hc ⊢
    unfold isFigL
    simp [hc]
  · refine hret _ _ _ _ (by assumption) (by assumption) ⟨rfl, ?_⟩
    rename ¬ (_ < _) => hc
    have e0 : (Str.ofString "0").cps.toList = [48] := by decide
    have e9 : (Str.ofString "9").cps.toList = [57] := by decide
    rw [e0] at hc
    rw [e9]
    unfold isFigL
    simp [hc]

end Mine
end
section
open PySem PySem.W PyProof.Rows
namespace Mine

theorem m_item {prog : Program} {w : World} {A : Around} {E : Value → Shared → Prop} {s : Shared} {value slice : PySem.Expr} {x : PySem.Str} {t u : Tok} {i : Int} {Q : Value → Shared → Prop}
    (hn : x.length ≤ 1000) (h0 : 0 ≤ i) (h1 : i < x.length) (h : Q (.str ⟨#[x.cps.getD i.toNat 0]⟩ s.toks) { s with toks := s.toks + 1 })
    (hs : subscripted slice false (.str x t) (.int i u) = operate [.str x t, .int i u] (getItem (.str x t) (.int i u)) := by with_unfolding_all rfl)
    (ht : ∀ r, letTemporaryGo value (.str x t) r = pure () := by intro _; with_unfolding_all rfl) :
    wpAny (model prog w) A (subscriptTail value slice (.str x t) (.int i u)) Q E s :=
  KXi.item rfl (by omega) h1 (by omega) (fun _ => by rw [item_at x i h0 h1]; exact h) hs ht


theorem loop_step {p : Nat → Bool} {x : Str} {i z : Int} (h0 : 0 ≤ i) (hl : i < x.length) (hp : p (x.cps.getD i.toNat 0) = true) (he : i + cnt p (suf x i) = z) : 0 ≤ i + 1 ∧ i + 1 + cnt p (suf x (i + 1)) = z := by
  rw [suf_cons h0 hl, cnt_cons_t hp] at he
  omega
theorem loop_out {p : Nat → Bool} {x : Str} {i z : Int} (h0 : 0 ≤ i) (hl : i < x.length) (hp : p (x.cps.getD i.toNat 0) = false) (he : i + cnt p (suf x i) = z) : i = z := by
  rw [suf_cons h0 hl, cnt_cons_f hp] at he
  omega
theorem loop_end {p : Nat → Bool} {x : Str} {i z : Int} (hl : ¬ i < x.length) (he : i + cnt p (suf x i) = z) : i = z := by
  rw [suf_nil (by omega), cnt_nil] at he
  omega
theorem outI {news : List (Addr × Obj)} {i z : Int} {t : Tok} (h : i = z) : OutI news z news (.int i t) := ⟨rfl, i, t, rfl, h⟩
theorem fig_item {x : Str} {i : Int} {b : Bool} (h0 : 0 ≤ i) (hl : i < x.length) (h : isFigL (Txt.item x i).cps.toList = b) : isFig (x.cps.getD i.toNat 0) = b := by
  rw [item_at x i h0 hl] at h
  rw [← h, ← isFigL_one]

theorem tFigEnd (w : World) (news : List (Addr × Obj)) (x : Str) (a : Int) (t u : Tok) (hx : x.length ≤ 1000) (ha : 0 ≤ a) : Tel w 79 2 news [.str x t, .int a u] (OutI news (a + cnt isFig (suf x a))) False := by
  unfold Tel
  k_with_none
  k_with "m_open" => (
        refine wpAny_call ?_
        k_dflt ktr_enter)
  k_with "m_use" => (
        (case k1 => k_asm); (case k2 => k_asm); (case k3 => k_asm); (case k4 => k_asm); (case k5 => k_asm); (case kK => first | exact rfl | assumption); (case kd => ktr_room); (case ku => ktr_units))
  k_with "my call builtin:len" => (k_here; (with_reducible show wpAny _ _ (call (Value.builtin "len") [Value.str _ _]) _ _ _); refine len_str (by omega) ?_)
  k_with "my subscriptTail" => (k_here; (with_reducible show wpAny _ _ (subscriptTail _ _ (Value.str _ _) (Value.int _ _)) _ _ _); refine m_item (by assumption) (by omega) (by omega) ?_)
  k_with "m_scalar" => (
        k_extra "m_use"
        intro r9 nw9 h9 tk9 F9 N9 O9
        obtain ⟨e9, e9'⟩ := O9
        subst e9
        first | subst e9' | (obtain ⟨i9, t9, e9'', hv9⟩ := e9'; subst e9'')
        try dsimp only
        try k_fold)
  k_with "my call ref" => (
        k_here
        (with_reducible show wpAny _ _ (call (Value.ref 67) [Value.str _ _]) _ _ _)
        k_dflt (refine' use_tel (tIsFig _ _ _ _) ?k1 ?k2 ?k3 ?k4 ?k5 ?kK ?kd ?ku ?_ (fun _ _ _ _ z => False.elim z))
        k_extra "m_scalar")
  w_top off
  k_fill
  intro mean mg mb dp un gd cn cs ad ccd cl outer A₀ base h₀ L m s Q E B F X N T hk hd hu hret hthr
  k_extra "m_open"
  k_with "exec While BoolOp" => k_while (fun _ i => 0 ≤ i ∧ i + cnt isFig (suf x i) = a + cnt isFig (suf x a)) (fun _ i => x.length - i.toNat) "at"
  k_with "state" => first | exact ⟨ha, rfl⟩ | exact loop_step (by assumption) (by assumption) (fig_item (by assumption) (by assumption) (by assumption)) (by assumption)
  k_steps
  · exact hret _ _ _ _ (by assumption) (by assumption) (outI (loop_out (by assumption) (by assumption) (fig_item (by assumption) (by assumption) (by assumption)) (by assumption)))
  · exact hret _ _ _ _ (by assumption) (by assumption) (outI (loop_end (by assumption) (by assumption)))
end Mine
end
section
open PySem PySem.W PyProof.Rows
namespace Mine
def isLetL (x : List Nat) : Bool := (!decide (x < [65]) && !decide ([90] < x)) || (!decide (x < [97]) && !decide ([122] < x))
theorem isLetL_one (c : Nat) : isLetL [c] = isLet c := by
  unfold isLetL isLet
  have h1 : ∀ a b : Nat, ([a] < [b]) ↔ a < b := fun a b => by rw [List.cons_lt_cons_iff]; simp
  rw [Bool.eq_iff_iff]
  simp only [Bool.or_eq_true, Bool.and_eq_true, Bool.not_eq_true', decide_eq_false_iff_not, decide_eq_true_eq, h1]
  omega
theorem sA : (Str.ofString "A").cps.toList = [65] := by decide
theorem sZ : (Str.ofString "Z").cps.toList = [90] := by decide
theorem sa : (Str.ofString "a").cps.toList = [97] := by decide
theorem sz : (Str.ofString "z").cps.toList = [122] := by decide

theorem tIsLet (w : World) (news : List (Addr × Obj)) (x : Str) (t : Tok) : Tel w 60 1 news [.str x t] (OutB news (isLetL x.cps.toList)) False := by
  unfold Tel
  k_with_none
  k_with "m_open" => (
        refine wpAny_call ?_
        k_dflt ktr_enter)
  k_with "m_use" => (
        (case k1 => k_asm); (case k2 => k_asm); (case k3 => k_asm); (case k4 => k_asm); (case k5 => k_asm); (case kK => first | exact rfl | assumption); (case kd => ktr_room); (case ku => ktr_units))
  k_with "my call builtin:len" => (k_here; (with_reducible show wpAny _ _ (call (Value.builtin "len") [Value.str _ _]) _ _ _); refine len_str (by omega) ?_)
  k_with "m_scalar" => (
        k_extra "m_use"
        intro r9 nw9 h9 tk9 F9 N9 O9
        obtain ⟨e9, e9'⟩ := O9
        subst e9
        first | subst e9' | (obtain ⟨i9, t9, e9'', hv9⟩ := e9'; subst e9'')
        try dsimp only
        try k_fold)
  k_with "my call ref" => (
        k_here
        (with_reducible show wpAny _ _ (call (Value.ref 67) [Value.str _ _]) _ _ _)
        k_dflt (refine' use_tel (tIsFig _ _ _ _) ?k1 ?k2 ?k3 ?k4 ?k5 ?kK ?kd ?ku ?_ (fun _ _ _ _ z => False.elim z))
        k_extra "m_scalar")
  w_top off
  k_fill
  intro mean mg mb dp un gd cn cs a ccd cl outer A₀ base h₀ L m s Q E B F X N T hk hd hu hret hthr
  k_extra "m_open"
  k_steps
  all_goals (
    refine hret _ _ _ _ (by assumption) (by assumption) ⟨rfl, ?_⟩
    simp only [sA, sZ, sa, sz] at *
    unfold isLetL
    simp only [*, decide_true, decide_false, Bool.not_true, Bool.not_false, Bool.true_and, Bool.false_and, Bool.and_false, Bool.or_false, Bool.false_or, Bool.or_true, Bool.true_or, Bool.and_true])

theorem blank_item {x : Str} {i : Int} {b : Bool} (h0 : 0 ≤ i) (hl : i < x.length) (h : (Builtin.Str.occurrences (Str.ofString " \t") (Txt.item x i) 0 (Str.ofString " \t").length 1).isEmpty = b) : isBl (x.cps.getD i.toNat 0) = !b := by
  rw [item_at x i h0 hl] at h
  have := StrLaws.found_one (Str.ofString " \t") (x.cps.getD i.toNat 0)
  rw [h] at this
  rw [this, show (Str.ofString " \t").cps.toList = [32, 9] from by decide]
  unfold isBl
  rw [Bool.eq_iff_iff]
  simp

theorem tSkip (w : World) (news : List (Addr × Obj)) (x : Str) (a : Int) (t u : Tok) (hx : x.length ≤ 1000) (ha : 0 ≤ a) : Tel w 86 2 news [.str x t, .int a u] (OutI news (a + cnt isBl (suf x a))) False := by
  unfold Tel
  w_top off
  k_fill
  intro mean mg mb dp un gd cn cs ad ccd cl outer A₀ base h₀ L m s Q E B F X N T hk hd hu hret hthr
  k_extra "m_open"
  k_with "exec While BoolOp" => k_while (fun _ i => 0 ≤ i ∧ i + cnt isBl (suf x i) = a + cnt isBl (suf x a)) (fun _ i => x.length - i.toNat) "at"
  k_with "state" => first | exact ⟨ha, rfl⟩ | exact loop_step (by assumption) (by assumption) (blank_item (by assumption) (by assumption) (by assumption)) (by assumption)
  k_steps
  · exact hret _ _ _ _ (by assumption) (by assumption) (outI (loop_out (by assumption) (by assumption) (blank_item (by assumption) (by assumption) (by assumption)) (by assumption)))
  · exact hret _ _ _ _ (by assumption) (by assumption) (outI (loop_end (by assumption) (by assumption)))


theorem nm_let {x : Str} {i : Int} (h0 : 0 ≤ i) (hl : i < x.length) (h : isLetL (Txt.item x i).cps.toList = true) : isNm (x.cps.getD i.toNat 0) = true := by
  rw [item_at x i h0 hl, show (Str.mk #[x.cps.getD i.toNat 0]).cps.toList = [x.cps.getD i.toNat 0] from rfl, isLetL_one] at h
  unfold isNm
  rw [h]
  rfl
theorem nm_fig {x : Str} {i : Int} (h0 : 0 ≤ i) (hl : i < x.length) (h : isFigL (Txt.item x i).cps.toList = true) : isNm (x.cps.getD i.toNat 0) = true := by
  have := fig_item h0 hl h
  unfold isNm
  rw [this, Bool.or_true]
  rfl
theorem nm_dot {x : Str} {i : Int} (h0 : 0 ≤ i) (hl : i < x.length) (h : (Txt.item x i == Str.ofString ".") = true) : isNm (x.cps.getD i.toNat 0) = true := by
  rw [item_at x i h0 hl, show Str.ofString "." = Str.mk [46].toArray by decide, show Str.mk #[x.cps.getD i.toNat 0] = Str.mk [x.cps.getD i.toNat 0].toArray from rfl, beq_mk] at h
  unfold isNm
  simp only [beq_iff_eq, List.cons.injEq, and_true] at h
  rw [h]
  rfl
theorem nm_none {x : Str} {i : Int} (h0 : 0 ≤ i) (hl : i < x.length) (h1 : isLetL (Txt.item x i).cps.toList = false) (h2 : isFigL (Txt.item x i).cps.toList = false) (h : (Txt.item x i == Str.ofString ".") = false) : isNm (x.cps.getD i.toNat 0) = false := by
  have := fig_item h0 hl h2
  rw [item_at x i h0 hl, show (Str.mk #[x.cps.getD i.toNat 0]).cps.toList = [x.cps.getD i.toNat 0] from rfl, isLetL_one] at h1
  rw [item_at x i h0 hl, show Str.ofString "." = Str.mk [46].toArray by decide, show Str.mk #[x.cps.getD i.toNat 0] = Str.mk [x.cps.getD i.toNat 0].toArray from rfl, beq_mk] at h
  unfold isNm
  rw [h1, this]
  simpa using h

theorem tNameEnd (w : World) (news : List (Addr × Obj)) (x : Str) (a : Int) (t u : Tok) (hx : x.length ≤ 1000) (ha : 0 ≤ a) : Tel w 107 2 news [.str x t, .int a u] (OutI news (a + nName (suf x a))) False := by
  unfold Tel
  k_with_none
  k_with "m_open" => (
        refine wpAny_call ?_
        k_dflt ktr_enter)
  k_with "m_use" => (
        (case k1 => k_asm); (case k2 => k_asm); (case k3 => k_asm); (case k4 => k_asm); (case k5 => k_asm); (case kK => first | exact rfl | assumption); (case kd => ktr_room); (case ku => ktr_units))
  k_with "my call builtin:len" => (k_here; (with_reducible show wpAny _ _ (call (Value.builtin "len") [Value.str _ _]) _ _ _); refine len_str (by omega) ?_)
  k_with "m_scalar" => (
        k_extra "m_use"
        intro r9 nw9 h9 tk9 F9 N9 O9
        obtain ⟨e9, e9'⟩ := O9
        subst e9
        first | subst e9' | (obtain ⟨i9, t9, e9'', hv9⟩ := e9'; subst e9'')
        try dsimp only
        try k_fold)
  k_with "my call ref" => (
        k_here
        (with_reducible show wpAny _ _ (call (Value.ref 67) [Value.str _ _]) _ _ _)
        k_dflt (refine' use_tel (tIsFig _ _ _ _) ?k1 ?k2 ?k3 ?k4 ?k5 ?kK ?kd ?ku ?_ (fun _ _ _ _ z => False.elim z))
        k_extra "m_scalar")
  k_with "my call ref" => (
        k_here
        (with_reducible show wpAny _ _ (call (Value.ref 60) [Value.str _ _]) _ _ _)
        k_dflt (refine' use_tel (tIsLet _ _ _ _) ?k1 ?k2 ?k3 ?k4 ?k5 ?kK ?kd ?ku ?_ (fun _ _ _ _ z => False.elim z))
        k_extra "m_scalar")
  w_top off
  k_fill
  intro mean mg mb dp un gd cn cs ad ccd cl outer A₀ base h₀ L m s Q E B F X N T hk hd hu hret hthr
  k_extra "m_open"
  k_with "exec While BoolOp" => k_while (fun _ i => 0 ≤ i ∧ i + cnt isNm (suf x i) = a + cnt isNm (suf x a)) (fun _ i => x.length - i.toNat) "at"
  k_with "state" => first | exact ⟨ha, rfl⟩ | exact loop_step (by assumption) (by assumption) (nm_let (by assumption) (by assumption) (by assumption)) (by assumption) | exact loop_step (by assumption) (by assumption) (nm_fig (by assumption) (by assumption) (by assumption)) (by assumption) | exact loop_step (by assumption) (by assumption) (nm_dot (by assumption) (by assumption) (by assumption)) (by assumption)
  k_steps
  all_goals first
    | exact False.elim (name_absurd (by assumption) (by assumption) (by assumption))
    | exact hret _ _ _ _ (by assumption) (cb_drop (by assumption) (fun _ h => List.Mem.tail _ h)) (outI (name_yes ha (loop_out (by assumption) (by assumption) (nm_none (by assumption) (by assumption) (by assumption) (by assumption) (by assumption)) (by assumption)) (by assumption)))
    | exact hret _ _ _ _ (by assumption) (cb_drop (by assumption) (fun _ h => List.Mem.tail _ h)) (outI (name_no ha (loop_out (by assumption) (by assumption) (nm_none (by assumption) (by assumption) (by assumption) (by assumption) (by assumption)) (by assumption)) (by assumption)))
    | exact hret _ _ _ _ (by assumption) (cb_drop (by assumption) (fun _ h => List.Mem.tail _ h)) (outI (name_yes ha (loop_end (by assumption) (by assumption)) (by assumption)))
    | exact hret _ _ _ _ (by assumption) (cb_drop (by assumption) (fun _ h => List.Mem.tail _ h)) (outI (name_no ha (loop_end (by assumption) (by assumption)) (by assumption)))
end Mine
end
section
open PySem PySem.W PyProof.Rows
namespace Mine
section
variable {prog : Program} {w : World} {A : Around} {E : Value → Shared → Prop} {s : Shared} {h₀ : Heap} {L : Addr} {m : Str → Option Value} {news : List (Addr × Obj)} {env : Env}
theorem ListComp_signs1 {elt iter : PySem.Expr} {x : Str} {px : Pos} {scope : Scope} {pos : Pos} {Q : Value → Shared → Prop} {d : Nat → PyData}
    (_F : Fr h₀ L s.heap m) (_N : News h₀ L s.heap news) (hh : A.handled = none) (hfree : closureFor scope env = pure []) (hcell : ∀ y ∈ scope.names, y.2 ≠ .cell) (hkind : scope.kind = .function)
    (hnames : ∀ y ∈ scope.names, y.2 = .local → scope.names.lookup y.1 = some .local) (hx : scope.names.lookup x = some .local)
    (h : wpAny (model prog w) A (eval iter env) (fun xv s₁ => ∃ y t, xv = .str y t ∧ y.length ≤ sizeLine ∧ Fr h₀ L s₁.heap m ∧ News h₀ L s₁.heap news ∧
      (∀ C c u s₂ m₂ E', s₂.heap.Ns C m₂ → m₂ x = some (.str ⟨#[c]⟩ u) → (∀ b o, s₁.heap.get? b = some o → s₂.heap.get? b = some o) → wpAny (model prog w) A (eval elt (compEnvC scope [] C env)) (fun r s₃ => Carried r (d c) ∧ Keeps s₂ s₃) E' s₂) ∧
      (∀ D (ys : List Value) h' tk, Fr h₀ L h' m → News h₀ L h' news → h₀.get? D = none → h'.IsList D ys.toArray → NewPlain h' news D ys.toArray → CarriedAll ys (y.cps.toList.map d) → Q (.ref D) { s₁ with heap := h', toks := tk })) E s)
    (hs : ∀ x, foldedSetIterable iter env x = pure x) :
    wpAny (model prog w) A (eval (.ListComp elt [⟨.Name x px, iter, [], 0⟩] scope pos) env) Q E s := by
  refine wpAny_ListComp_free (ItemKind.str.lift fun _ => true) (fun v r => ∃ a : Str, ItemKind.str.is a v ∧ Carried r (d (a.cps.getD 0 0))) hfree hcell hkind hnames hx
    (wpAny_mono h (fun xv s₁ h₁ => ?_) fun _ _ e => e) hs
  obtain ⟨y, t, rfl, hsz, F, N, helt, hQ⟩ := h₁
  refine wpAny_pyIter_str fun o St W hst => ?_
  have up : ∀ (h' : Heap), (∀ b o', b ∉ [s₁.heap.objs.size] → (s₁.heap.push o).get? b = some o' → h'.get? b = some o') → ∀ b o', s₁.heap.get? b = some o' → h'.get? b = some o' :=
    fun h' hk b o' e => hk b o' (old_not_new e) (Heap.get?_push_of_some _ e)
  refine ⟨s₁.heap.objs.size, [s₁.heap.objs.size], [s₁.heap.objs.size], y.cps.size, SignAt y, St, rfl, W A hh, hsz, hst, ?_, ⟨?_, ?_⟩, ?_⟩
  · intro b hb
    show b < (s₁.heap.push o).objs.size
    rw [Heap.size_push, List.mem_singleton.mp hb]
    exact Nat.lt_succ_self _
  · intro C i v s₃ m₃ E' _ hP hn hm _ _
    obtain ⟨c, u, _, rfl⟩ := hP
    have hl : ItemKind.str.lift (fun _ : Str => true) (.str ⟨#[c]⟩ u) = true := ItemKind.lift_is (K := ItemKind.str) (a := ⟨#[c]⟩) ⟨u, rfl⟩
    exact wpAny_pure ⟨hl.symm, s₃.heap, s₃.toks, rfl, fun _ _ e => e⟩
  · intro C i v s₃ m₃ E' _ hP hp hn hm hk _
    obtain ⟨c, u, _, rfl⟩ := hP
    exact wpAny_mono (helt C _ _ s₃ m₃ E' hn hm (up _ hk)) (fun r s₄ h₄ => ⟨⟨⟨#[c]⟩, ⟨u, rfl⟩, h₄.1⟩, h₄.2⟩) fun _ _ e => e
  · intro D h' tk ys vs hnew hlD hplD hlen hP hF hk
    refine hQ D ys.toList h' tk (F.keeps (up h' hk)) (N.grown (up h' hk)) ?_ (by rw [Array.toArray_toList]; exact hlD) ⟨by rw [Array.toArray_toList]; exact hplD, fun p hp e => by rw [← e, Heap.get?_push_of_some _ (N p hp).1] at hnew; cases hnew⟩ ?_
    · cases e : h₀.get? D with
      | none => rfl
      | some o' => rw [Heap.get?_push_of_some _ (F.keep _ _ e)] at hnew; cases hnew
    · have hc := (areOf_signs hlen hP).paired (fun _ => true) (fun a : Str => d (a.cps.getD 0 0)) ys.toList hF
      have e : ((signs y).filter fun _ => true).map (fun a : Str => d (a.cps.getD 0 0)) = y.cps.toList.map d := by
        rw [List.filter_eq_self.mpr fun _ _ => rfl]
        unfold signs
        rw [List.map_map]
        rfl
      rw [e] at hc
      exact hc
end
theorem strs_of_carried (f : Nat → Nat) : ∀ (l : List Nat) {ys : List Value}, CarriedAll ys (l.map fun c => PyData.str ⟨#[f c]⟩) → StrsAre ys (l.map fun c => ⟨#[f c]⟩)
  | [], _, .nil => .nil
  | _ :: r, _, .cons h t => by
    cases h with
    | str x u => exact .cons _ u (strs_of_carried f r t)
theorem glue_ones (f : Nat → Nat) (l : List Nat) : Txt.join (Str.ofString "") (l.map fun c => (⟨#[f c]⟩ : Str)) = ⟨(l.map f).toArray⟩ := by
  have key : ∀ (r : List Nat) (acc : Array Nat), (r.map fun c => (⟨#[f c]⟩ : Str)).foldl (fun acc p => acc ++ (Str.ofString "").cps ++ p.cps) acc = acc ++ (r.map f).toArray := by
    intro r
    induction r with
    | nil => intro acc; simp
    | cons c r ih =>
      intro acc
      rw [List.map_cons, List.foldl_cons, ih, List.map_cons]
      rw [show (Str.ofString "").cps = #[] by decide]
      apply Array.toList_inj.mp
      simp
  unfold Txt.join Builtin.Str.glued
  cases l with
  | nil => rfl
  | cons c r =>
    simp only [List.map_cons, List.drop_succ_cons, List.drop_zero, List.headD_cons]
    rw [key]
    congr 1
    apply Array.toList_inj.mp
    simp
theorem sum_ones (f : Nat → Nat) (l : List Nat) : (List.map (fun x : Str => x.length) (l.map fun c => (⟨#[f c]⟩ : Str))).sum = l.length := by
  induction l with
  | nil => rfl
  | cons c r ih =>
    rw [List.map_cons, List.map_cons, List.sum_cons, ih, List.length_cons]
    show 1 + r.length = _
    omega
theorem up_no1 {c : Nat} (h : #[c].toList < (Str.ofString "a").cps.toList) : up c = c := by
  rw [sa] at h
  have h' : [c] < [97] := h
  rw [List.cons_lt_cons_iff] at h'
  unfold up
  rw [if_neg]
  simp at h'
  simp
  omega
theorem up_no2 {c : Nat} (h : (Str.ofString "z").cps.toList < #[c].toList) : up c = c := by
  rw [sz] at h
  have h' : [122] < [c] := h
  rw [List.cons_lt_cons_iff] at h'
  unfold up
  rw [if_neg]
  simp at h'
  simp
  omega
theorem up_yes {c : Nat} (h1 : ¬ #[c].toList < (Str.ofString "a").cps.toList) (h2 : ¬ (Str.ofString "z").cps.toList < #[c].toList) : 97 ≤ c ∧ c ≤ 122 := by
  rw [sa] at h1
  rw [sz] at h2
  have h1' : ¬ [c] < [97] := h1
  have h2' : ¬ [122] < [c] := h2
  rw [List.cons_lt_cons_iff] at h1' h2'
  simp at h1' h2'
  omega
theorem up_val {c : Nat} (h : 97 ≤ c ∧ c ≤ 122) : up c = ((c : Int) - 32).toNat := by
  unfold up
  rw [if_pos (by simp [h.1, h.2])]
  omega
theorem keeps_self {s : Shared} {k : Nat} : Keeps s { s with toks := k } := ⟨s.heap, k, rfl, fun _ _ e => e⟩
theorem carried_up {c : Nat} {t : Tok} {x : Str} (h : x = ⟨#[up c]⟩) : Carried (.str x t) (.str ⟨#[up c]⟩) := by
  subst h
  exact .str _ _

theorem tCapital (w : World) (news : List (Addr × Obj)) (x : Str) (t : Tok) (hx : x.length ≤ 1000) : Tel w 72 3 news [.str x t] (OutS news ⟨(x.cps.toList.map up).toArray⟩) False := by
  unfold Tel
  k_with_none
  k_with "m_open" => (
        refine wpAny_call ?_
        k_dflt ktr_enter)
  k_with "m_use" => (
        (case k1 => k_asm); (case k2 => k_asm); (case k3 => k_asm); (case k4 => k_asm); (case k5 => k_asm); (case kK => first | exact rfl | assumption); (case kd => ktr_room); (case ku => ktr_units))
  k_with "my call builtin:len" => (k_here; (with_reducible show wpAny _ _ (call (Value.builtin "len") [Value.str _ _]) _ _ _); refine len_str (by omega) ?_)
  k_with "m_scalar" => (
        k_extra "m_use"
        intro r9 nw9 h9 tk9 F9 N9 O9
        obtain ⟨e9, e9'⟩ := O9
        subst e9
        first | subst e9' | (obtain ⟨i9, t9, e9'', hv9⟩ := e9'; subst e9'')
        try dsimp only
        try k_fold)
  k_with "my call ref" => (
        k_here
        (with_reducible show wpAny _ _ (call (Value.ref 67) [Value.str _ _]) _ _ _)
        k_dflt (refine' use_tel (tIsFig _ _ _ _) ?k1 ?k2 ?k3 ?k4 ?k5 ?kK ?kd ?ku ?_ (fun _ _ _ _ z => False.elim z))
        k_extra "m_scalar")
  k_with "my call ref" => (
        k_here
        (with_reducible show wpAny _ _ (call (Value.ref 60) [Value.str _ _]) _ _ _)
        k_dflt (refine' use_tel (tIsLet _ _ _ _) ?k1 ?k2 ?k3 ?k4 ?k5 ?kK ?kd ?ku ?_ (fun _ _ _ _ z => False.elim z))
        k_extra "m_scalar")
  k_with "my call ref" => (
        k_here
        (with_reducible show wpAny _ _ (call (Value.ref 79) [Value.str _ _, Value.int _ _]) _ _ _)
        k_dflt (refine' use_tel (tFigEnd _ _ _ _ _ _ ?hx_21 ?ha_21) ?k1 ?k2 ?k3 ?k4 ?k5 ?kK ?kd ?ku ?_ (fun _ _ _ _ z => False.elim z))
        (case hx_21 => first | assumption | omega)
        (case ha_21 => omega)
        k_extra "m_scalar")
  k_with "my call ref" => (
        k_here
        (with_reducible show wpAny _ _ (call (Value.ref 86) [Value.str _ _, Value.int _ _]) _ _ _)
        k_dflt (refine' use_tel (tSkip _ _ _ _ _ _ ?hx_22 ?ha_22) ?k1 ?k2 ?k3 ?k4 ?k5 ?kK ?kd ?ku ?_ (fun _ _ _ _ z => False.elim z))
        (case hx_22 => first | assumption | omega)
        (case ha_22 => omega)
        k_extra "m_scalar")
  k_with "my call ref" => (
        k_here
        (with_reducible show wpAny _ _ (call (Value.ref 107) [Value.str _ _, Value.int _ _]) _ _ _)
        k_dflt (refine' use_tel (tNameEnd _ _ _ _ _ _ ?hx_23 ?ha_23) ?k1 ?k2 ?k3 ?k4 ?k5 ?kK ?kd ?ku ?_ (fun _ _ _ _ z => False.elim z))
        (case hx_23 => first | assumption | omega)
        (case ha_23 => omega)
        k_extra "m_scalar")
  w_top off
  k_fill
  intro mean mg mb dp un gd cn cs ad ccd cl outer A₀ base h₀ L m s Q E B F X N T hk hd hu hret hthr
  k_extra "m_open"
  iterate 8 walk1
  k_dflt (refine ListComp_signs1 (d := fun c => .str ⟨#[up c]⟩) (by assumption) (by assumption) ?_ ?_ ?_ ?_ ?_ ?_ ?_ ?_)
  · rfl
  · rfl
  · decide
  · rfl
  · decide
  · rfl
  · refine ld (by assumption) rfl ?_
    refine ⟨x, t, rfl, by rw [sizeLine_eq]; omega, by assumption, by assumption, ?_, ?_⟩
    · intro C c u s₂ m₂ E' hC hc hkeep
      k_steps
      · exact carried_up (by rw [up_no1 (by assumption)])
      · exact keeps_self
      · exact carried_up (by rw [up_no2 (by assumption)])
      · exact keeps_self
      · have hh := up_yes (by assumption) (by assumption)
        refine chr_of_range (by omega) (by omega) ?_
        k_steps
        · exact carried_up (by rw [up_val hh])
        · exact keeps_self
    · intro D ys h' tk F9 N9 hD hl hp hc
      walk1
      refine join_listC hl (strs_of_carried up _ (by simpa using hc)) (by decide) ?_ ?_
      · rw [sum_ones, List.length_map]
        have : x.cps.toList.length = x.length := rfl
        omega
      · intro t' k
        k_steps
        exact hret _ _ _ _ (by assumption) (cb_drop (by assumption) (fun _ h => List.Mem.tail _ h)) ⟨rfl, _, t', rfl, by rw [glue_ones]⟩
  · intro _; rfl
end Mine
end
section
open PySem PySem.W PyProof.Rows
namespace Mine
theorem outS {news : List (Addr × Obj)} {x z : Str} {t : Tok} (h : x = z) : OutS news z news (.str x t) := ⟨rfl, x, t, rfl, h⟩
theorem tDataEnd (w : World) (news : List (Addr × Obj)) (x : Str) (a : Int) (t u : Tok) (hx : x.length ≤ 1000) (ha : 0 ≤ a) : Tel w 128 2 news [.str x t, .int a u] (OutI news (a + dEnd false (suf x a))) False := by
  unfold Tel
  k_with_none
  k_with "m_open" => (
        refine wpAny_call ?_
        k_dflt ktr_enter)
  k_with "m_use" => (
        (case k1 => k_asm); (case k2 => k_asm); (case k3 => k_asm); (case k4 => k_asm); (case k5 => k_asm); (case kK => first | exact rfl | assumption); (case kd => ktr_room); (case ku => ktr_units))
  k_with "my call builtin:len" => (k_here; (with_reducible show wpAny _ _ (call (Value.builtin "len") [Value.str _ _]) _ _ _); refine len_str (by omega) ?_)
  k_with "m_scalar" => (
        k_extra "m_use"
        intro r9 nw9 h9 tk9 F9 N9 O9
        obtain ⟨e9, e9'⟩ := O9
        subst e9
        first | subst e9' | (obtain ⟨i9, t9, e9'', hv9⟩ := e9'; subst e9'')
        try dsimp only
        try k_fold)
  k_with "my call ref" => (
        k_here
        (with_reducible show wpAny _ _ (call (Value.ref 67) [Value.str _ _]) _ _ _)
        k_dflt (refine' use_tel (tIsFig _ _ _ _) ?k1 ?k2 ?k3 ?k4 ?k5 ?kK ?kd ?ku ?_ (fun _ _ _ _ z => False.elim z))
        k_extra "m_scalar")
  k_with "my call ref" => (
        k_here
        (with_reducible show wpAny _ _ (call (Value.ref 60) [Value.str _ _]) _ _ _)
        k_dflt (refine' use_tel (tIsLet _ _ _ _) ?k1 ?k2 ?k3 ?k4 ?k5 ?kK ?kd ?ku ?_ (fun _ _ _ _ z => False.elim z))
        k_extra "m_scalar")
  k_with "my call ref" => (
        k_here
        (with_reducible show wpAny _ _ (call (Value.ref 79) [Value.str _ _, Value.int _ _]) _ _ _)
        k_dflt (refine' use_tel (tFigEnd _ _ _ _ _ _ ?hx_30 ?ha_30) ?k1 ?k2 ?k3 ?k4 ?k5 ?kK ?kd ?ku ?_ (fun _ _ _ _ z => False.elim z))
        (case hx_30 => first | assumption | omega)
        (case ha_30 => omega)
        k_extra "m_scalar")
  k_with "my call ref" => (
        k_here
        (with_reducible show wpAny _ _ (call (Value.ref 86) [Value.str _ _, Value.int _ _]) _ _ _)
        k_dflt (refine' use_tel (tSkip _ _ _ _ _ _ ?hx_31 ?ha_31) ?k1 ?k2 ?k3 ?k4 ?k5 ?kK ?kd ?ku ?_ (fun _ _ _ _ z => False.elim z))
        (case hx_31 => first | assumption | omega)
        (case ha_31 => omega)
        k_extra "m_scalar")
  k_with "my call ref" => (
        k_here
        (with_reducible show wpAny _ _ (call (Value.ref 107) [Value.str _ _, Value.int _ _]) _ _ _)
        k_dflt (refine' use_tel (tNameEnd _ _ _ _ _ _ ?hx_32 ?ha_32) ?k1 ?k2 ?k3 ?k4 ?k5 ?kK ?kd ?ku ?_ (fun _ _ _ _ z => False.elim z))
        (case hx_32 => first | assumption | omega)
        (case ha_32 => omega)
        k_extra "m_scalar")
  w_top off
  k_fill
  intro mean mg mb dp un gd cn cs ad ccd cl outer A₀ base h₀ L m s Q E B F X N T hk hd hu hret hthr
  k_extra "m_open"
  k_with "exec While BoolOp" => k_while (fun _ i q => 0 ≤ i ∧ i + dEnd q (suf x i) = a + dEnd false (suf x a)) (fun _ i _ => x.length - i.toNat) "at" "is_quoted"
  k_with "state" => first | exact ⟨ha, rfl⟩ | exact data_q (by assumption) (by assumption) (by assumption) (.inl (by assumption)) (by assumption) | exact data_q (by assumption) (by assumption) (by assumption) (.inr (by assumption)) (by assumption) | exact data_n (by assumption) (by assumption) (by assumption) (.inl (by assumption)) (by assumption) | exact data_n (by assumption) (by assumption) (by assumption) (.inr (by assumption)) (by assumption)
  k_steps
  all_goals first
    | exact hret _ _ _ _ (by assumption) (by assumption) (outI (data_out (by assumption) (by assumption) (by assumption) (by assumption) (by assumption)))
    | exact hret _ _ _ _ (by assumption) (by assumption) (outI (data_end (by assumption) (by assumption)))
theorem tPowEnd (w : World) (news : List (Addr × Obj)) (x : Str) (a : Int) (t u : Tok) (hx : x.length ≤ 1000) (ha : 0 ≤ a) (hok : okPow (suf x a)) : Tel w 93 3 news [.str x t, .int a u] (OutI news (a + nPow (suf x a))) False := by
  unfold Tel
  k_with_none
  k_with "m_open" => (
        refine wpAny_call ?_
        k_dflt ktr_enter)
  k_with "m_use" => (
        (case k1 => k_asm); (case k2 => k_asm); (case k3 => k_asm); (case k4 => k_asm); (case k5 => k_asm); (case kK => first | exact rfl | assumption); (case kd => ktr_room); (case ku => ktr_units))
  k_with "my call builtin:len" => (k_here; (with_reducible show wpAny _ _ (call (Value.builtin "len") [Value.str _ _]) _ _ _); refine len_str (by omega) ?_)
  k_with "m_scalar" => (
        k_extra "m_use"
        intro r9 nw9 h9 tk9 F9 N9 O9
        obtain ⟨e9, e9'⟩ := O9
        subst e9
        first | subst e9' | (obtain ⟨i9, t9, e9'', hv9⟩ := e9'; subst e9'')
        try dsimp only
        try k_fold)
  k_with "my call ref" => (
        k_here
        (with_reducible show wpAny _ _ (call (Value.ref 67) [Value.str _ _]) _ _ _)
        k_dflt (refine' use_tel (tIsFig _ _ _ _) ?k1 ?k2 ?k3 ?k4 ?k5 ?kK ?kd ?ku ?_ (fun _ _ _ _ z => False.elim z))
        k_extra "m_scalar")
  k_with "my call ref" => (
        k_here
        (with_reducible show wpAny _ _ (call (Value.ref 60) [Value.str _ _]) _ _ _)
        k_dflt (refine' use_tel (tIsLet _ _ _ _) ?k1 ?k2 ?k3 ?k4 ?k5 ?kK ?kd ?ku ?_ (fun _ _ _ _ z => False.elim z))
        k_extra "m_scalar")
  k_with "my call ref" => (
        k_here
        (with_reducible show wpAny _ _ (call (Value.ref 79) [Value.str _ _, Value.int _ _]) _ _ _)
        k_dflt (refine' use_tel (tFigEnd _ _ _ _ _ _ ?hx_30 ?ha_30) ?k1 ?k2 ?k3 ?k4 ?k5 ?kK ?kd ?ku ?_ (fun _ _ _ _ z => False.elim z))
        (case hx_30 => first | assumption | omega)
        (case ha_30 => omega)
        k_extra "m_scalar")
  k_with "my call ref" => (
        k_here
        (with_reducible show wpAny _ _ (call (Value.ref 86) [Value.str _ _, Value.int _ _]) _ _ _)
        k_dflt (refine' use_tel (tSkip _ _ _ _ _ _ ?hx_31 ?ha_31) ?k1 ?k2 ?k3 ?k4 ?k5 ?kK ?kd ?ku ?_ (fun _ _ _ _ z => False.elim z))
        (case hx_31 => first | assumption | omega)
        (case ha_31 => omega)
        k_extra "m_scalar")
  k_with "my call ref" => (
        k_here
        (with_reducible show wpAny _ _ (call (Value.ref 107) [Value.str _ _, Value.int _ _]) _ _ _)
        k_dflt (refine' use_tel (tNameEnd _ _ _ _ _ _ ?hx_32 ?ha_32) ?k1 ?k2 ?k3 ?k4 ?k5 ?kK ?kd ?ku ?_ (fun _ _ _ _ z => False.elim z))
        (case hx_32 => first | assumption | omega)
        (case ha_32 => omega)
        k_extra "m_scalar")
  w_top off
  k_fill
  intro mean mg mb dp un gd cn cs ad ccd cl outer A₀ base h₀ L m s Q E B F X N T hk hd hu hret hthr
  k_extra "m_open"
  k_steps
  all_goals (try subst_vars)
  all_goals first
    | exact False.elim (pow_big2 ha hok (by assumption) (by assumption) (by assumption))
    | exact False.elim (pow_big1 ha hok (by assumption) (by assumption) (by assumption))
    | exact hret _ _ _ _ (by assumption) (cb_drop (by assumption) (fun _ h => List.Mem.tail _ (List.Mem.tail _ h))) (outI (pow_yes2 ha (by assumption) (by assumption) (by assumption)))
    | exact hret _ _ _ _ (by assumption) (cb_drop (by assumption) (fun _ h => List.Mem.tail _ (List.Mem.tail _ h))) (outI (pow_yes1 ha (by assumption) (by assumption) (by assumption)))
    | exact hret _ _ _ _ (by assumption) (cb_drop (by assumption) (fun _ h => List.Mem.tail _ (List.Mem.tail _ h))) (outI (pow_zero2 ha (by assumption) (by assumption) (by assumption)))
    | exact hret _ _ _ _ (by assumption) (cb_drop (by assumption) (fun _ h => List.Mem.tail _ (List.Mem.tail _ h))) (outI (pow_zero1 ha (by assumption) (by assumption) (by assumption)))
    | exact hret _ _ _ _ (by assumption) (cb_drop (by assumption) (fun _ h => List.Mem.tail _ h)) (outI (pow_no ha (by assumption)))
theorem tRemark (w : World) (news : List (Addr × Obj)) (x : Str) (t : Tok) (hx : x.length ≤ 1000)  : Tel w 135 3 news [.str x t] (OutS news ⟨(remL x.cps.toList).toArray⟩) False := by
  unfold Tel
  w_top off
  k_fill
  intro mean mg mb dp un gd cn cs ad ccd cl outer A₀ base h₀ L m s Q E B F X N T hk hd hu hret hthr
  k_extra "m_open"
  k_steps
  · exact hret _ _ _ _ (by assumption) (by assumption) (outS (rem_yes (by assumption)))
  · exact hret _ _ _ _ (by assumption) (by assumption) (outS (rem_no (by assumption)))
end Mine
end
section
open PySem PySem.W PyProof.Rows
namespace Mine
def OutF (news : List (Addr × Obj)) (nw : List (Addr × Obj)) (r : Value) : Prop := ∃ (D : Addr) (l : List (Str × Tok)), nw = (D, W.listOf (strValues l).toArray 0) :: news ∧ l.map (fun x => x.1) = funcsL ∧ StrsAre (strValues l) (l.map fun x => x.1) ∧ (∀ p ∈ news, p.1 < D) ∧ r = .ref D
theorem tFuncs (w : World) (news : List (Addr × Obj)) : Tel w 46 2 news [] (OutF news) False := by
  unfold Tel
  k_with_none
  k_with "m_open" => (
        refine wpAny_call ?_
        k_dflt ktr_enter)
  k_with "m_use" => (
        (case k1 => k_asm); (case k2 => k_asm); (case k3 => k_asm); (case k4 => k_asm); (case k5 => k_asm); (case kK => first | exact rfl | assumption); (case kd => first | omega | ktr_room); (case ku => first | omega | ktr_units))
  k_with "my call builtin:len" => (k_here; (with_reducible show wpAny _ _ (call (Value.builtin "len") [Value.str _ _]) _ _ _); refine len_str (by omega) ?_)
  k_with "m_scalar" => (
        k_extra "m_use"
        intro r9 nw9 h9 tk9 F9 N9 O9
        obtain ⟨e9, e9'⟩ := O9
        subst e9
        first | subst e9' | (obtain ⟨i9, t9, e9'', hv9⟩ := e9'; subst e9'')
        try dsimp only
        try k_fold)
  k_with "my call ref" => (
        k_here
        (with_reducible show wpAny _ _ (call (Value.ref 67) [Value.str _ _]) _ _ _)
        k_dflt (refine' use_tel (tIsFig _ _ _ _) ?k1 ?k2 ?k3 ?k4 ?k5 ?kK ?kd ?ku ?_ (fun _ _ _ _ z => False.elim z))
        k_extra "m_scalar")
  k_with "my call ref" => (
        k_here
        (with_reducible show wpAny _ _ (call (Value.ref 60) [Value.str _ _]) _ _ _)
        k_dflt (refine' use_tel (tIsLet _ _ _ _) ?k1 ?k2 ?k3 ?k4 ?k5 ?kK ?kd ?ku ?_ (fun _ _ _ _ z => False.elim z))
        k_extra "m_scalar")
  k_with "my call ref" => (
        k_here
        (with_reducible show wpAny _ _ (call (Value.ref 79) [Value.str _ _, Value.int _ _]) _ _ _)
        k_dflt (refine' use_tel (tFigEnd _ _ _ _ _ _ ?hx_39 ?ha_39) ?k1 ?k2 ?k3 ?k4 ?k5 ?kK ?kd ?ku ?_ (fun _ _ _ _ z => False.elim z))
        (case hx_39 => first | assumption | omega)
        (case ha_39 => omega)
        k_extra "m_scalar")
  k_with "my call ref" => (
        k_here
        (with_reducible show wpAny _ _ (call (Value.ref 86) [Value.str _ _, Value.int _ _]) _ _ _)
        k_dflt (refine' use_tel (tSkip _ _ _ _ _ _ ?hx_40 ?ha_40) ?k1 ?k2 ?k3 ?k4 ?k5 ?kK ?kd ?ku ?_ (fun _ _ _ _ z => False.elim z))
        (case hx_40 => first | assumption | omega)
        (case ha_40 => omega)
        k_extra "m_scalar")
  k_with "my call ref" => (
        k_here
        (with_reducible show wpAny _ _ (call (Value.ref 107) [Value.str _ _, Value.int _ _]) _ _ _)
        k_dflt (refine' use_tel (tNameEnd _ _ _ _ _ _ ?hx_41 ?ha_41) ?k1 ?k2 ?k3 ?k4 ?k5 ?kK ?kd ?ku ?_ (fun _ _ _ _ z => False.elim z))
        (case hx_41 => first | assumption | omega)
        (case ha_41 => omega)
        k_extra "m_scalar")
  k_with "my ite" => (k_here; first
        | with_reducible refine ite_tt ?_
        | with_reducible refine ite_ff ?_
        | with_reducible refine ite_True_then ?_
        | with_reducible refine ite_False_else ?_
        | (refine ite_pos (by with_reducible assumption) ?_)
        | (refine ite_neg (by with_reducible assumption) ?_)
        | (refine ite_isFalse (by with_reducible assumption) ?_)
        | with_reducible refine split_not ?_
        | (with_reducible refine split_ine ?_ ?_ <;> intro _)
        | (with_reducible refine split_ieq ?_ ?_ <;> intro _)
        | (refine split_dec ?_ ?_ <;> intro _)
        | (refine split_bool ?_ ?_ <;> intro _))
  k_with "my call ref" => (
        k_here
        (with_reducible show wpAny _ _ (call (Value.ref 72) [Value.str _ _]) _ _ _)
        k_dflt (refine' use_tel (tCapital _ _ _ _ ?hx_43) ?k1 ?k2 ?k3 ?k4 ?k5 ?kK ?kd ?ku ?_ (fun _ _ _ _ z => False.elim z))
        (case hx_43 => first | assumption | omega)
        k_extra "m_scalar")
  k_with "my call ref" => (
        k_here
        (with_reducible show wpAny _ _ (call (Value.ref 93) [Value.str _ _, Value.int _ _]) _ _ _)
        k_dflt (refine' use_tel (tPowEnd _ _ _ _ _ _ ?hx_44 ?ha_44 ?hok_44) ?k1 ?k2 ?k3 ?k4 ?k5 ?kK ?kd ?ku ?_ (fun _ _ _ _ z => False.elim z))
        (case hx_44 => first | assumption | omega)
        (case ha_44 => omega)
        (case hok_44 => k_extra "m_okPow")
        k_extra "m_scalar")
  k_with "my call ref" => (
        k_here
        (with_reducible show wpAny _ _ (call (Value.ref 128) [Value.str _ _, Value.int _ _]) _ _ _)
        k_dflt (refine' use_tel (tDataEnd _ _ _ _ _ _ ?hx_45 ?ha_45) ?k1 ?k2 ?k3 ?k4 ?k5 ?kK ?kd ?ku ?_ (fun _ _ _ _ z => False.elim z))
        (case hx_45 => first | assumption | omega)
        (case ha_45 => omega)
        k_extra "m_scalar")
  k_with "my call ref" => (
        k_here
        (with_reducible show wpAny _ _ (call (Value.ref 135) [Value.str _ _]) _ _ _)
        k_dflt (refine' use_tel (tRemark _ _ _ _ ?hx_46) ?k1 ?k2 ?k3 ?k4 ?k5 ?kK ?kd ?ku ?_ (fun _ _ _ _ z => False.elim z))
        (case hx_46 => first | assumption | omega)
        k_extra "m_scalar")
  w_top off
  k_fill
  intro mean mg mb dp un gd cn cs ad ccd cl outer A₀ base h₀ L m s Q E B F X N T hk hd hu hret hthr
  k_extra "m_open"
  k_steps
  exact hret _ _ _ _ (by assumption) (by assumption) ⟨_, _, rfl, by assumption, by assumption, by assumption, rfl⟩
theorem tIsWord (w : World) (news : List (Addr × Obj)) (x : Str) (t : Tok) : Tel w 53 3 news [.str x t] (OutB news (isWordS x)) False := by
  unfold Tel
  k_with "my call ref" => (
        k_here
        (with_reducible show wpAny _ _ (call (Value.ref 46) _) _ _ _)
        k_dflt (refine' use_tel (tFuncs _ _) ?k1 ?k2 ?k3 ?k4 ?k5 ?kK ?kd ?ku ?_ (fun _ _ _ _ z => False.elim z))
        k_extra "m_use"
        intro r9 nw9 h9 tk9 F9 N9 O9
        obtain ⟨D9, l9, e9, el9, ea9, eo9, er9⟩ := O9
        subst e9
        subst er9
        try dsimp only
        try k_fold)
  w_top off
  k_fill
  intro mean mg mb dp un gd cn cs ad ccd cl outer A₀ base h₀ L m s Q E B F X N T hk hd hu hret hthr
  k_extra "m_open"
  k_steps
  · refine hret _ _ _ _ (by assumption) (cb_drop (by assumption) (fun _ h => List.Mem.tail _ h)) ⟨rfl, ?_⟩
    rename (List.any _ _) = true => hc
    rename List.map _ _ = wordsL => he
    rw [hc]
    rw [he] at hc
    unfold isWordS
    rw [show wordsL.any (fun y => y == x) = true from hc, Bool.true_or]
  · refine hret _ _ _ _ (by assumption) (cb_drop (by assumption) (fun _ h => List.Mem.tail _ (List.Mem.tail _ h))) ⟨rfl, ?_⟩
    rename (List.any _ _) = false => hc
    rename List.map _ _ = wordsL => he
    rename List.map _ _ = funcsL => hf
    rw [he] at hc
    rw [hf]
    unfold isWordS
    rw [show wordsL.any (fun y => y == x) = false from hc, Bool.false_or]
end Mine
end
section
open PySem PySem.W PyProof.Rows
namespace Mine
/-- a token and the place behind it, as a def of the text hands them back -/
def OutTok (news : List (Addr × Obj)) (kind told : Str) (e : Int) (nw : List (Addr × Obj)) (r : Value) : Prop := ∃ (D D' : Addr) (t1 t2 t3 : Tok),
  nw = (D, { cls := .type "tuple", data := .seq #[.ref D', .int e t3] }) :: (D', { cls := .type "tuple", data := .seq #[.str kind t1, .str told t2] }) :: news ∧ (∀ p ∈ news, p.1 < D') ∧ (D' < D ∧ AllLt D news) ∧ r = .ref D
theorem outTok {news : List (Addr × Obj)} {kind told told' : Str} {e e' : Int} {D D' : Addr} {t1 t2 t3 : Tok} (hl : ∀ p ∈ news, p.1 < D') (hl2 : D' < D ∧ AllLt D news) (he : e' = e) (ht : told' = told) :
    OutTok news kind told e ((D, { cls := .type "tuple", data := .seq #[.ref D', .int e' t3] }) :: (D', { cls := .type "tuple", data := .seq #[.str kind t1, .str told' t2] }) :: news) (.ref D) := by
  subst he
  subst ht
  exact ⟨D, D', t1, t2, t3, rfl, hl, hl2, rfl⟩
theorem told_of {x : Str} {a e : Int} {n : Nat} (h0 : 0 ≤ a) (he : e = a + n) : (⟨(((Txt.slice x (some a) (some e)).cps.toList).map up).toArray⟩ : Str) = ⟨(((suf x a).take n).map up).toArray⟩ := by
  rw [slice_ss x a e h0 (by omega), he, show (a + (n : Int) - a).toNat = n by omega]
theorem num_done {news : List (Addr × Obj)} {x told : Str} {a e : Int} {kind : Str} {n : Nat} {D D' : Addr} {t1 t2 t3 : Tok} (he : e = a + n) (h0 : 0 ≤ a) (ht : told = ⟨(((Txt.slice x (some a) (some e)).cps.toList).map up).toArray⟩) (hl : ∀ p ∈ news, p.1 < D') (hl2 : D' < D ∧ AllLt D news) :
    OutTok news kind ⟨(((suf x a).take n).map up).toArray⟩ (a + n) ((D, { cls := .type "tuple", data := .seq #[.ref D', .int e t3] }) :: (D', { cls := .type "tuple", data := .seq #[.str kind t1, .str told t2] }) :: news) (.ref D) :=
  outTok hl hl2 he (ht.trans (told_of h0 he))
theorem tNumber (w : World) (news : List (Addr × Obj)) (x : Str) (a : Int) (t u : Tok) (hx : x.length ≤ 1000) (ha : 0 ≤ a) (hl : a < x.length) (ok : okNum (suf x a)) :
    Tel w 100 5 news [.str x t, .int a u] (OutTok news (Str.ofString "number") ⟨(((suf x a).take (nNum (suf x a))).map up).toArray⟩ (a + nNum (suf x a))) False := by
  unfold Tel
  k_with_none
  k_with "m_open" => (
        refine wpAny_call ?_
        k_dflt ktr_enter)
  k_with "m_use" => (
        (case k1 => k_asm); (case k2 => k_asm); (case k3 => k_asm); (case k4 => k_asm); (case k5 => k_asm); (case kK => first | exact rfl | assumption); (case kd => first | omega | ktr_room); (case ku => first | omega | ktr_units))
  k_with "my call builtin:len" => (k_here; (with_reducible show wpAny _ _ (call (Value.builtin "len") [Value.str _ _]) _ _ _); refine len_str (by omega) ?_)
  k_with "m_scalar" => (
        k_extra "m_use"
        intro r9 nw9 h9 tk9 F9 N9 O9
        obtain ⟨e9, e9'⟩ := O9
        subst e9
        first | subst e9' | (obtain ⟨i9, t9, e9'', hv9⟩ := e9'; subst e9'')
        try dsimp only
        try k_fold)
  k_with "my call ref" => (
        k_here
        (with_reducible show wpAny _ _ (call (Value.ref 67) [Value.str _ _]) _ _ _)
        k_dflt (refine' use_tel (tIsFig _ _ _ _) ?k1 ?k2 ?k3 ?k4 ?k5 ?kK ?kd ?ku ?_ (fun _ _ _ _ z => False.elim z))
        k_extra "m_scalar")
  k_with "my call ref" => (
        k_here
        (with_reducible show wpAny _ _ (call (Value.ref 60) [Value.str _ _]) _ _ _)
        k_dflt (refine' use_tel (tIsLet _ _ _ _) ?k1 ?k2 ?k3 ?k4 ?k5 ?kK ?kd ?ku ?_ (fun _ _ _ _ z => False.elim z))
        k_extra "m_scalar")
  k_with "my call ref" => (
        k_here
        (with_reducible show wpAny _ _ (call (Value.ref 79) [Value.str _ _, Value.int _ _]) _ _ _)
        k_dflt (refine' use_tel (tFigEnd _ _ _ _ _ _ ?hx_54 ?ha_54) ?k1 ?k2 ?k3 ?k4 ?k5 ?kK ?kd ?ku ?_ (fun _ _ _ _ z => False.elim z))
        (case hx_54 => first | assumption | omega)
        (case ha_54 => omega)
        k_extra "m_scalar")
  k_with "my call ref" => (
        k_here
        (with_reducible show wpAny _ _ (call (Value.ref 86) [Value.str _ _, Value.int _ _]) _ _ _)
        k_dflt (refine' use_tel (tSkip _ _ _ _ _ _ ?hx_55 ?ha_55) ?k1 ?k2 ?k3 ?k4 ?k5 ?kK ?kd ?ku ?_ (fun _ _ _ _ z => False.elim z))
        (case hx_55 => first | assumption | omega)
        (case ha_55 => omega)
        k_extra "m_scalar")
  k_with "my call ref" => (
        k_here
        (with_reducible show wpAny _ _ (call (Value.ref 107) [Value.str _ _, Value.int _ _]) _ _ _)
        k_dflt (refine' use_tel (tNameEnd _ _ _ _ _ _ ?hx_56 ?ha_56) ?k1 ?k2 ?k3 ?k4 ?k5 ?kK ?kd ?ku ?_ (fun _ _ _ _ z => False.elim z))
        (case hx_56 => first | assumption | omega)
        (case ha_56 => omega)
        k_extra "m_scalar")
  k_with "my ite" => (k_here; first
        | with_reducible refine ite_tt ?_
        | with_reducible refine ite_ff ?_
        | with_reducible refine ite_True_then ?_
        | with_reducible refine ite_False_else ?_
        | (refine ite_pos (by with_reducible assumption) ?_)
        | (refine ite_neg (by with_reducible assumption) ?_)
        | (refine ite_isFalse (by with_reducible assumption) ?_)
        | with_reducible refine split_not ?_
        | (with_reducible refine split_ine ?_ ?_ <;> intro _)
        | (with_reducible refine split_ieq ?_ ?_ <;> intro _)
        | (refine split_dec ?_ ?_ <;> intro _)
        | (refine split_bool ?_ ?_ <;> intro _))
  k_with "my call ref" => (
        k_here
        (with_reducible show wpAny _ _ (call (Value.ref 72) [Value.str _ _]) _ _ _)
        k_dflt (refine' use_tel (tCapital _ _ _ _ ?hx_58) ?k1 ?k2 ?k3 ?k4 ?k5 ?kK ?kd ?ku ?_ (fun _ _ _ _ z => False.elim z))
        (case hx_58 => first | assumption | omega)
        k_extra "m_scalar")
  k_with "my call ref" => (
        k_here
        (with_reducible show wpAny _ _ (call (Value.ref 93) [Value.str _ _, Value.int _ _]) _ _ _)
        k_dflt (refine' use_tel (tPowEnd _ _ _ _ _ _ ?hx_59 ?ha_59 ?hok_59) ?k1 ?k2 ?k3 ?k4 ?k5 ?kK ?kd ?ku ?_ (fun _ _ _ _ z => False.elim z))
        (case hx_59 => first | assumption | omega)
        (case ha_59 => omega)
        (case hok_59 => k_extra "m_okPow")
        k_extra "m_scalar")
  k_with "my call ref" => (
        k_here
        (with_reducible show wpAny _ _ (call (Value.ref 128) [Value.str _ _, Value.int _ _]) _ _ _)
        k_dflt (refine' use_tel (tDataEnd _ _ _ _ _ _ ?hx_60 ?ha_60) ?k1 ?k2 ?k3 ?k4 ?k5 ?kK ?kd ?ku ?_ (fun _ _ _ _ z => False.elim z))
        (case hx_60 => first | assumption | omega)
        (case ha_60 => omega)
        k_extra "m_scalar")
  k_with "my call ref" => (
        k_here
        (with_reducible show wpAny _ _ (call (Value.ref 135) [Value.str _ _]) _ _ _)
        k_dflt (refine' use_tel (tRemark _ _ _ _ ?hx_61) ?k1 ?k2 ?k3 ?k4 ?k5 ?kK ?kd ?ku ?_ (fun _ _ _ _ z => False.elim z))
        (case hx_61 => first | assumption | omega)
        k_extra "m_scalar")
  k_with "my call builtin:str.find" => (
        k_here
        (with_reducible show wpAny _ _ (call (Value.builtin "str.find") [Value.str _ _, Value.str _ _, Value.int _ _, Value.int _ _]) _ _ _)
        k_dflt (refine m_find4 ?_))
  k_with "m_okPow" => (
        rename okNum _ => okN
        first
        | exact num_pow (by assumption) (mant_dot' (by assumption) (by assumption) (by assumption) (by assumption)) okN
        | exact num_pow (by assumption) (mant_no' (by assumption) (by assumption) (by assumption)) okN)
  w_top off
  k_fill
  intro mean mg mb dp un gd cn cs ad ccd cl outer A₀ base h₀ L m s Q E B F X N T hk hd hu hret hthr
  k_extra "m_open"
  k_steps
  all_goals (first | have hb := mant_dot' (x := x) ha (by with_reducible assumption) (by with_reducible assumption) (by with_reducible assumption) | have hb := mant_no' (x := x) ha (by with_reducible assumption) (by with_reducible assumption))
  all_goals first
    | exact False.elim (num_big hb ok (by with_reducible assumption))
    | (refine hret _ _ _ _ (by with_reducible assumption) (by with_reducible assumption) (num_done ?_ ha (by with_reducible assumption) (by with_reducible assumption) (by with_reducible assumption))
       first
       | exact num_bang ha hb (by with_reducible assumption) (by with_reducible assumption)
       | exact num_perc ha hl hb (by with_reducible assumption) (by with_reducible assumption) (by with_reducible assumption) (by with_reducible assumption)
       | exact num_out ha hl hb (by with_reducible assumption) (by with_reducible assumption) (.inl (by with_reducible assumption))
       | exact num_out ha hl hb (by with_reducible assumption) (by with_reducible assumption) (.inr (.inl (by with_reducible assumption)))
       | exact num_out ha hl hb (by with_reducible assumption) (by with_reducible assumption) (.inr (.inr (by with_reducible assumption))))
end Mine
end
section
open PySem PySem.W PyProof.Rows
namespace Mine
theorem tOrder (w : World) (news : List (Addr × Obj)) (x : Str) (a : Int) (t u : Tok) (hx : x.length ≤ 1000) (ha : 0 ≤ a) (hl : a < x.length) :
    Tel w 121 3 news [.str x t, .int a u] (OutTok news (Str.ofString "sign") ⟨(ordT (suf x a)).1.toArray⟩ (a + (ordT (suf x a)).2)) False := by
  unfold Tel
  k_with_none
  k_with "m_open" => (
        refine wpAny_call ?_
        k_dflt ktr_enter)
  k_with "m_use" => (
        (case k1 => k_asm); (case k2 => k_asm); (case k3 => k_asm); (case k4 => k_asm); (case k5 => k_asm); (case kK => first | exact rfl | assumption); (case kd => first | omega | ktr_room); (case ku => first | omega | ktr_units))
  k_with "my call builtin:len" => (k_here; (with_reducible show wpAny _ _ (call (Value.builtin "len") [Value.str _ _]) _ _ _); refine len_str (by omega) ?_)
  k_with "m_scalar" => (
        k_extra "m_use"
        intro r9 nw9 h9 tk9 F9 N9 O9
        obtain ⟨e9, e9'⟩ := O9
        subst e9
        first | subst e9' | (obtain ⟨i9, t9, e9'', hv9⟩ := e9'; subst e9'')
        try dsimp only
        try k_fold)
  k_with "my call ref" => (
        k_here
        (with_reducible show wpAny _ _ (call (Value.ref 67) [Value.str _ _]) _ _ _)
        k_dflt (refine' use_tel (tIsFig _ _ _ _) ?k1 ?k2 ?k3 ?k4 ?k5 ?kK ?kd ?ku ?_ (fun _ _ _ _ z => False.elim z))
        k_extra "m_scalar")
  k_with "my call ref" => (
        k_here
        (with_reducible show wpAny _ _ (call (Value.ref 60) [Value.str _ _]) _ _ _)
        k_dflt (refine' use_tel (tIsLet _ _ _ _) ?k1 ?k2 ?k3 ?k4 ?k5 ?kK ?kd ?ku ?_ (fun _ _ _ _ z => False.elim z))
        k_extra "m_scalar")
  k_with "my call ref" => (
        k_here
        (with_reducible show wpAny _ _ (call (Value.ref 79) [Value.str _ _, Value.int _ _]) _ _ _)
        k_dflt (refine' use_tel (tFigEnd _ _ _ _ _ _ ?hx_70 ?ha_70) ?k1 ?k2 ?k3 ?k4 ?k5 ?kK ?kd ?ku ?_ (fun _ _ _ _ z => False.elim z))
        (case hx_70 => first | assumption | omega)
        (case ha_70 => omega)
        k_extra "m_scalar")
  k_with "my call ref" => (
        k_here
        (with_reducible show wpAny _ _ (call (Value.ref 86) [Value.str _ _, Value.int _ _]) _ _ _)
        k_dflt (refine' use_tel (tSkip _ _ _ _ _ _ ?hx_71 ?ha_71) ?k1 ?k2 ?k3 ?k4 ?k5 ?kK ?kd ?ku ?_ (fun _ _ _ _ z => False.elim z))
        (case hx_71 => first | assumption | omega)
        (case ha_71 => omega)
        k_extra "m_scalar")
  k_with "my call ref" => (
        k_here
        (with_reducible show wpAny _ _ (call (Value.ref 107) [Value.str _ _, Value.int _ _]) _ _ _)
        k_dflt (refine' use_tel (tNameEnd _ _ _ _ _ _ ?hx_72 ?ha_72) ?k1 ?k2 ?k3 ?k4 ?k5 ?kK ?kd ?ku ?_ (fun _ _ _ _ z => False.elim z))
        (case hx_72 => first | assumption | omega)
        (case ha_72 => omega)
        k_extra "m_scalar")
  k_with "my ite" => (k_here; first
        | with_reducible refine ite_tt ?_
        | with_reducible refine ite_ff ?_
        | with_reducible refine ite_True_then ?_
        | with_reducible refine ite_False_else ?_
        | (refine ite_pos (by with_reducible assumption) ?_)
        | (refine ite_neg (by with_reducible assumption) ?_)
        | (refine ite_isFalse (by with_reducible assumption) ?_)
        | with_reducible refine split_not ?_
        | (with_reducible refine split_ine ?_ ?_ <;> intro _)
        | (with_reducible refine split_ieq ?_ ?_ <;> intro _)
        | (refine split_dec ?_ ?_ <;> intro _)
        | (refine split_bool ?_ ?_ <;> intro _))
  k_with "my call ref" => (
        k_here
        (with_reducible show wpAny _ _ (call (Value.ref 72) [Value.str _ _]) _ _ _)
        k_dflt (refine' use_tel (tCapital _ _ _ _ ?hx_74) ?k1 ?k2 ?k3 ?k4 ?k5 ?kK ?kd ?ku ?_ (fun _ _ _ _ z => False.elim z))
        (case hx_74 => first | assumption | omega)
        k_extra "m_scalar")
  k_with "my call ref" => (
        k_here
        (with_reducible show wpAny _ _ (call (Value.ref 93) [Value.str _ _, Value.int _ _]) _ _ _)
        k_dflt (refine' use_tel (tPowEnd _ _ _ _ _ _ ?hx_75 ?ha_75 ?hok_75) ?k1 ?k2 ?k3 ?k4 ?k5 ?kK ?kd ?ku ?_ (fun _ _ _ _ z => False.elim z))
        (case hx_75 => first | assumption | omega)
        (case ha_75 => omega)
        (case hok_75 => k_extra "m_okPow")
        k_extra "m_scalar")
  k_with "my call ref" => (
        k_here
        (with_reducible show wpAny _ _ (call (Value.ref 128) [Value.str _ _, Value.int _ _]) _ _ _)
        k_dflt (refine' use_tel (tDataEnd _ _ _ _ _ _ ?hx_76 ?ha_76) ?k1 ?k2 ?k3 ?k4 ?k5 ?kK ?kd ?ku ?_ (fun _ _ _ _ z => False.elim z))
        (case hx_76 => first | assumption | omega)
        (case ha_76 => omega)
        k_extra "m_scalar")
  k_with "my call ref" => (
        k_here
        (with_reducible show wpAny _ _ (call (Value.ref 135) [Value.str _ _]) _ _ _)
        k_dflt (refine' use_tel (tRemark _ _ _ _ ?hx_77) ?k1 ?k2 ?k3 ?k4 ?k5 ?kK ?kd ?ku ?_ (fun _ _ _ _ z => False.elim z))
        (case hx_77 => first | assumption | omega)
        k_extra "m_scalar")
  w_top off
  k_fill
  intro mean mg mb dp un gd cn cs ad ccd cl outer A₀ base h₀ L m s Q E B F X N T hk hd hu hret hthr
  k_extra "m_open"
  k_steps
  all_goals first
    | (refine hret _ _ _ _ (by with_reducible assumption) (by with_reducible assumption) (outTok (by with_reducible assumption) (by with_reducible assumption) (ord_e ha hl (by with_reducible assumption) (p := 60) (q := 61) (by with_reducible assumption) rfl) (ord_t ha hl (by with_reducible assumption) (p := 60) (q := 61) (by with_reducible assumption) rfl (by decide))))
    | (refine hret _ _ _ _ (by with_reducible assumption) (by with_reducible assumption) (outTok (by with_reducible assumption) (by with_reducible assumption) (ord_e ha hl (by with_reducible assumption) (p := 61) (q := 60) (by with_reducible assumption) rfl) (ord_t ha hl (by with_reducible assumption) (p := 61) (q := 60) (by with_reducible assumption) rfl (by decide))))
    | (refine hret _ _ _ _ (by with_reducible assumption) (by with_reducible assumption) (outTok (by with_reducible assumption) (by with_reducible assumption) (ord_e ha hl (by with_reducible assumption) (p := 62) (q := 61) (by with_reducible assumption) rfl) (ord_t ha hl (by with_reducible assumption) (p := 62) (q := 61) (by with_reducible assumption) rfl (by decide))))
    | (refine hret _ _ _ _ (by with_reducible assumption) (by with_reducible assumption) (outTok (by with_reducible assumption) (by with_reducible assumption) (ord_e ha hl (by with_reducible assumption) (p := 61) (q := 62) (by with_reducible assumption) rfl) (ord_t ha hl (by with_reducible assumption) (p := 61) (q := 62) (by with_reducible assumption) rfl (by decide))))
    | (refine hret _ _ _ _ (by with_reducible assumption) (by with_reducible assumption) (outTok (by with_reducible assumption) (by with_reducible assumption) (ord_e ha hl (by with_reducible assumption) (p := 60) (q := 62) (by with_reducible assumption) rfl) (ord_t ha hl (by with_reducible assumption) (p := 60) (q := 62) (by with_reducible assumption) rfl (by decide))))
    | (refine hret _ _ _ _ (by with_reducible assumption) (by with_reducible assumption) (outTok (by with_reducible assumption) (by with_reducible assumption) (ord_e ha hl (by with_reducible assumption) (p := 62) (q := 60) (by with_reducible assumption) rfl) (ord_t ha hl (by with_reducible assumption) (p := 62) (q := 60) (by with_reducible assumption) rfl (by decide))))
    | (have hn := ord_none (x := x) (a := a) ha hl (by with_reducible assumption) rfl (by with_reducible assumption)
       refine hret _ _ _ _ (by with_reducible assumption) (by with_reducible assumption) (outTok (by with_reducible assumption) (by with_reducible assumption) (by rw [hn]; rfl) (by rw [hn, item_at x a ha hl]))) 
theorem tText (w : World) (news : List (Addr × Obj)) (x : Str) (a : Int) (t u : Tok) (hx : x.length ≤ 1000) (ha : 0 ≤ a) (hq : 34 ∈ suf x (a + 1)) :
    Tel w 114 3 news [.str x t, .int a u] (OutTok news (Str.ofString "text") ⟨((suf x (a + 1)).take (nTxt (suf x (a + 1)))).toArray⟩ (a + ((nTxt (suf x (a + 1)) + 2 : Nat) : Int))) False := by
  unfold Tel
  w_top off
  k_fill
  intro mean mg mb dp un gd cn cs ad ccd cl outer A₀ base h₀ L m s Q E B F X N T hk hd hu hret hthr
  k_extra "m_open"
  k_steps
  · exact False.elim (txt_no ha hq (by with_reducible assumption))
  · exact hret _ _ _ _ (by with_reducible assumption) (by with_reducible assumption) (outTok (by with_reducible assumption) (by with_reducible assumption) (txt_e ha hq) (txt_told ha hq))
end Mine
end
section
open PySem PySem.W PyProof.Rows
namespace Mine
abbrev tupO (vs : List Value) : Obj := { cls := .type "tuple", data := .seq vs.toArray }
/-- a list of tokens and the place behind them, as tokens_at hands them back -/
def OutToks (news : List (Addr × Obj)) (toks : List Tk) (e : Int) (nw : List (Addr × Obj)) (r : Value) : Prop := ∃ (D DL : Addr) (vs : List Value) (t3 : Tok) (mid : List (Addr × Obj)),
  nw = (D, { cls := .type "tuple", data := .seq #[.ref DL, .int e t3] }) :: (DL, W.listOf vs.toArray 0) :: (mid ++ news) ∧ DatAll mid vs (toks.map tkD) ∧ (∀ q ∈ news, ∀ p ∈ mid, q.1 < p.1) ∧ (∀ q ∈ mid ++ news, q.1 < DL ∧ q.1 < D) ∧ DL < D ∧ r = .ref D
theorem allLt_mem {d : Addr} : ∀ {l : List (Addr × Obj)}, AllLt d l → ∀ p ∈ l, p.1 < d
  | [], _, _, hp => (nomatch hp)
  | q :: r, h, p, hp => by
    rcases List.mem_cons.mp hp with rfl | hp
    · exact h.1
    · exact allLt_mem h.2 p hp
theorem toks1 {news : List (Addr × Obj)} {k1 y1 : Str} {e e' : Int} {toks : List Tk} {D DL D1 : Addr} {t1 t2 t3 : Tok} (h1 : ∀ p ∈ news, p.1 < D1) (h2 : D1 < DL ∧ AllLt DL news) (h3 : DL < D ∧ D1 < D ∧ AllLt D news) (he : e' = e) (ht : toks = [(k1, y1)]) :
    OutToks news toks e ((D, { cls := .type "tuple", data := .seq #[.ref DL, .int e' t3] }) :: (DL, W.listOf #[.ref D1] 0) :: (D1, { cls := .type "tuple", data := .seq #[.str k1 t1, .str y1 t2] }) :: news) (.ref D) := by
  subst he
  subst ht
  refine ⟨D, DL, [.ref D1], t3, [(D1, { cls := .type "tuple", data := .seq #[.str k1 t1, .str y1 t2] })], rfl, .cons (.tuple (vs := [.str k1 t1, .str y1 t2]) (n := 0) (.head _) (.cons (.str _ _) (.cons (.str _ _) .nil))) .nil, ?_, ?_, h3.1, rfl⟩
  · intro q hq p hp
    rw [List.mem_singleton.mp hp]
    exact h1 q hq
  · intro q hq
    rcases List.mem_cons.mp hq with rfl | hq
    · exact ⟨h2.1, h3.2.1⟩
    · exact ⟨allLt_mem h2.2 q hq, allLt_mem h3.2.2 q hq⟩
theorem toks2 {news : List (Addr × Obj)} {k1 y1 k2 y2 : Str} {e e' : Int} {toks : List Tk} {D DL D1 D2 : Addr} {t1 t2 t3 t4 t5 : Tok} (h0 : ∀ p ∈ news, p.1 < D2) (h1 : D2 < D1 ∧ AllLt D1 news) (h2 : D1 < DL ∧ D2 < DL ∧ AllLt DL news) (h3 : DL < D ∧ D1 < D ∧ D2 < D ∧ AllLt D news) (he : e' = e) (ht : toks = [(k2, y2), (k1, y1)]) :
    OutToks news toks e ((D, { cls := .type "tuple", data := .seq #[.ref DL, .int e' t3] }) :: (DL, W.listOf #[.ref D2, .ref D1] 0) :: (D1, { cls := .type "tuple", data := .seq #[.str k1 t1, .str y1 t2] }) :: (D2, { cls := .type "tuple", data := .seq #[.str k2 t4, .str y2 t5] }) :: news) (.ref D) := by
  subst he
  subst ht
  refine ⟨D, DL, [.ref D2, .ref D1], t3, [(D1, { cls := .type "tuple", data := .seq #[.str k1 t1, .str y1 t2] }), (D2, { cls := .type "tuple", data := .seq #[.str k2 t4, .str y2 t5] })], rfl,
    .cons (.tuple (vs := [.str k2 t4, .str y2 t5]) (n := 0) (.tail _ (.head _)) (.cons (.str _ _) (.cons (.str _ _) .nil))) (.cons (.tuple (vs := [.str k1 t1, .str y1 t2]) (n := 0) (.head _) (.cons (.str _ _) (.cons (.str _ _) .nil))) .nil), ?_, ?_, h3.1, rfl⟩
  · intro q hq p hp
    rcases List.mem_cons.mp hp with rfl | hp
    · exact allLt_mem h1.2 q hq
    · rw [List.mem_singleton.mp hp]
      exact h0 q hq
  · intro q hq
    rcases List.mem_cons.mp hq with rfl | hq
    · exact ⟨h2.1, h3.2.1⟩
    · rcases List.mem_cons.mp hq with rfl | hq
      · exact ⟨h2.2.1, h3.2.2.1⟩
      · exact ⟨allLt_mem h2.2.2 q hq, allLt_mem h3.2.2.2 q hq⟩
theorem tWordAt (w : World) (news : List (Addr × Obj)) (x : Str) (a : Int) (t u : Tok) (hx : x.length ≤ 1000) (ha : 0 ≤ a) (hl : a < x.length) :
    Tel w 142 5 news [.str x t, .int a u] (OutToks news (wordF (suf x a)).1 (a + (wordF (suf x a)).2)) False := by
  unfold Tel
  k_with_none
  k_with "m_open" => (
        refine wpAny_call ?_
        k_dflt ktr_enter)
  k_with "m_use" => (
        (case k1 => k_asm); (case k2 => k_asm); (case k3 => k_asm); (case k4 => k_asm); (case k5 => k_asm); (case kK => first | exact rfl | assumption); (case kd => first | omega | ktr_room); (case ku => first | omega | ktr_units))
  k_with "my call builtin:len" => (k_here; (with_reducible show wpAny _ _ (call (Value.builtin "len") [Value.str _ _]) _ _ _); refine len_str (by omega) ?_)
  k_with "m_scalar" => (
        k_extra "m_use"
        intro r9 nw9 h9 tk9 F9 N9 O9
        obtain ⟨e9, e9'⟩ := O9
        subst e9
        first | subst e9' | (obtain ⟨i9, t9, e9'', hv9⟩ := e9'; subst e9'')
        try dsimp only
        try k_fold)
  k_with "my call ref" => (
        k_here
        (with_reducible show wpAny _ _ (call (Value.ref 67) [Value.str _ _]) _ _ _)
        k_dflt (refine' use_tel (tIsFig _ _ _ _) ?k1 ?k2 ?k3 ?k4 ?k5 ?kK ?kd ?ku ?_ (fun _ _ _ _ z => False.elim z))
        k_extra "m_scalar")
  k_with "my call ref" => (
        k_here
        (with_reducible show wpAny _ _ (call (Value.ref 60) [Value.str _ _]) _ _ _)
        k_dflt (refine' use_tel (tIsLet _ _ _ _) ?k1 ?k2 ?k3 ?k4 ?k5 ?kK ?kd ?ku ?_ (fun _ _ _ _ z => False.elim z))
        k_extra "m_scalar")
  k_with "my call ref" => (
        k_here
        (with_reducible show wpAny _ _ (call (Value.ref 79) [Value.str _ _, Value.int _ _]) _ _ _)
        k_dflt (refine' use_tel (tFigEnd _ _ _ _ _ _ ?hx_84 ?ha_84) ?k1 ?k2 ?k3 ?k4 ?k5 ?kK ?kd ?ku ?_ (fun _ _ _ _ z => False.elim z))
        (case hx_84 => first | assumption | omega)
        (case ha_84 => omega)
        k_extra "m_scalar")
  k_with "my call ref" => (
        k_here
        (with_reducible show wpAny _ _ (call (Value.ref 86) [Value.str _ _, Value.int _ _]) _ _ _)
        k_dflt (refine' use_tel (tSkip _ _ _ _ _ _ ?hx_85 ?ha_85) ?k1 ?k2 ?k3 ?k4 ?k5 ?kK ?kd ?ku ?_ (fun _ _ _ _ z => False.elim z))
        (case hx_85 => first | assumption | omega)
        (case ha_85 => omega)
        k_extra "m_scalar")
  k_with "my call ref" => (
        k_here
        (with_reducible show wpAny _ _ (call (Value.ref 107) [Value.str _ _, Value.int _ _]) _ _ _)
        k_dflt (refine' use_tel (tNameEnd _ _ _ _ _ _ ?hx_86 ?ha_86) ?k1 ?k2 ?k3 ?k4 ?k5 ?kK ?kd ?ku ?_ (fun _ _ _ _ z => False.elim z))
        (case hx_86 => first | assumption | omega)
        (case ha_86 => omega)
        k_extra "m_scalar")
  k_with "my ite" => (k_here; first
        | with_reducible refine ite_tt ?_
        | with_reducible refine ite_ff ?_
        | with_reducible refine ite_True_then ?_
        | with_reducible refine ite_False_else ?_
        | (refine ite_pos (by with_reducible assumption) ?_)
        | (refine ite_neg (by with_reducible assumption) ?_)
        | (refine ite_isFalse (by with_reducible assumption) ?_)
        | with_reducible refine split_not ?_
        | (with_reducible refine split_ine ?_ ?_ <;> intro _)
        | (with_reducible refine split_ieq ?_ ?_ <;> intro _)
        | (refine split_dec ?_ ?_ <;> intro _)
        | (refine split_bool ?_ ?_ <;> intro _))
  k_with "my call ref" => (
        k_here
        (with_reducible show wpAny _ _ (call (Value.ref 72) [Value.str _ _]) _ _ _)
        k_dflt (refine' use_tel (tCapital _ _ _ _ ?hx_88) ?k1 ?k2 ?k3 ?k4 ?k5 ?kK ?kd ?ku ?_ (fun _ _ _ _ z => False.elim z))
        (case hx_88 => first | assumption | omega)
        k_extra "m_scalar")
  k_with "my call ref" => (
        k_here
        (with_reducible show wpAny _ _ (call (Value.ref 93) [Value.str _ _, Value.int _ _]) _ _ _)
        k_dflt (refine' use_tel (tPowEnd _ _ _ _ _ _ ?hx_89 ?ha_89 ?hok_89) ?k1 ?k2 ?k3 ?k4 ?k5 ?kK ?kd ?ku ?_ (fun _ _ _ _ z => False.elim z))
        (case hx_89 => first | assumption | omega)
        (case ha_89 => omega)
        (case hok_89 => k_extra "m_okPow")
        k_extra "m_scalar")
  k_with "my call ref" => (
        k_here
        (with_reducible show wpAny _ _ (call (Value.ref 128) [Value.str _ _, Value.int _ _]) _ _ _)
        k_dflt (refine' use_tel (tDataEnd _ _ _ _ _ _ ?hx_90 ?ha_90) ?k1 ?k2 ?k3 ?k4 ?k5 ?kK ?kd ?ku ?_ (fun _ _ _ _ z => False.elim z))
        (case hx_90 => first | assumption | omega)
        (case ha_90 => omega)
        k_extra "m_scalar")
  k_with "my call ref" => (
        k_here
        (with_reducible show wpAny _ _ (call (Value.ref 135) [Value.str _ _]) _ _ _)
        k_dflt (refine' use_tel (tRemark _ _ _ _ ?hx_91) ?k1 ?k2 ?k3 ?k4 ?k5 ?kK ?kd ?ku ?_ (fun _ _ _ _ z => False.elim z))
        (case hx_91 => first | assumption | omega)
        k_extra "m_scalar")
  k_with "my call ref" => (
        k_here
        (with_reducible show wpAny _ _ (call (Value.ref 53) [Value.str _ _]) _ _ _)
        k_dflt (refine' use_tel (tIsWord _ _ _ _) ?k1 ?k2 ?k3 ?k4 ?k5 ?kK ?kd ?ku ?_ (fun _ _ _ _ z => False.elim z))
        k_extra "m_scalar")
  w_top off
  k_fill
  intro mean mg mb dp un gd cn cs ad ccd cl outer A₀ base h₀ L m s Q E B F X N T hk hd hu hret hthr
  k_extra "m_open"
  k_steps
  · exact hret _ _ _ _ (by with_reducible assumption) (by with_reducible assumption) (toks1 (by with_reducible assumption) (by with_reducible assumption) (by with_reducible assumption) (wl_rem_e ha (by with_reducible assumption) (by with_reducible assumption) hl (by with_reducible assumption)) (wl_rem_t ha (by with_reducible assumption) (by with_reducible assumption) (by with_reducible assumption) (by with_reducible assumption)))
  · exact hret _ _ _ _ (by with_reducible assumption) (by with_reducible assumption) (toks2 (by with_reducible assumption) (by with_reducible assumption) (by with_reducible assumption) (by with_reducible assumption) (wl_data_e ha (by with_reducible assumption) (by with_reducible assumption) (by with_reducible assumption) (by with_reducible assumption) (by with_reducible assumption)) (wl_data_t ha (by with_reducible assumption) (by with_reducible assumption) (by with_reducible assumption) (by with_reducible assumption) (by with_reducible assumption)))
  · exact hret _ _ _ _ (by with_reducible assumption) (by with_reducible assumption) (toks1 (by with_reducible assumption) (by with_reducible assumption) (by with_reducible assumption) (wl_e ha (by with_reducible assumption) (by with_reducible assumption) (by with_reducible assumption) (by with_reducible assumption)) (wl_word ha (by with_reducible assumption) (by with_reducible assumption) (by with_reducible assumption) (by with_reducible assumption) (by with_reducible assumption)))
  · exact hret _ _ _ _ (by with_reducible assumption) (by with_reducible assumption) (toks1 (by with_reducible assumption) (by with_reducible assumption) (by with_reducible assumption) (wl_e ha (by with_reducible assumption) (by with_reducible assumption) (by with_reducible assumption) (by with_reducible assumption)) (wl_name ha (by with_reducible assumption) (by with_reducible assumption) (by with_reducible assumption) (by with_reducible assumption) (by with_reducible assumption)))
end Mine
end
section
open PySem PySem.W PyProof.Rows PySem.Calls
namespace Mine
abbrev bmE : List Value := [.type "Exception", .type "BaseException", .type "object"]
abbrev excObj (C te : Addr) : Obj := { cls := .ref C, data := .fields #[.ref te, .none, .none, .none, .bool false, .none] }
section
variable {prog : Program} {w : World} {A : Around} {h : Heap} {g : Array GenState} {d : Drawn} {t : Nat} {os : OsState} {R : Result → Shared → Prop}
variable {nm q : Str} {C N : Addr} {bs : List Value} {hdct : Bool} {sn : List Str} {sub : List Value} {ab : Bool} {col : Option Bool} {dd : Option Addr} {k0 k1 k2 k3 k5 : Option Value}
theorem exc_call {K : Frag} {fI : Addr} {rest : List Value} (X : K.In h) (hC : h.get? C = some (excClassObj nm q C N bs bmE hdct sn sub ab col dd k0 k1 k2 k3 k5 "Exception.__new__"))
    (hi : findIn K (.ref C) "__init__" = some (some (.ref fI))) (hf : typeIn K (.ref fI) = some (.type "function")) (hrest : rest.length ≤ sizeLine)
    (hq : codeAny (model prog w) (A.under (.builtin "type.__call__" ⟨.ref C :: rest, []⟩)) (.call (.ref fI) ⟨.ref (h.objs.size + 1) :: rest, []⟩) (InitBack (h.objs.size + 1) R)
      ⟨(h.push { cls := .type "tuple", data := .seq rest.toArray }).push (excObj C h.objs.size), g, d, t, os⟩) :
    codeAny (model prog w) A (.call (.ref C) ⟨rest, []⟩) R ⟨h, g, d, t, os⟩ := by
  have F := PySem.F.excBase_Exception
  have T : OwnTail h bmE bmE := .base
  have f1 := tc_lookup
  have f2 := tc_bind (.ref C)
  have hT : (⟨h, g, d, t, os⟩ : Shared).TypeIs (.ref C) "type" := ⟨_, hC, rfl⟩
  refine codeAny_of_tree ?_
  show wpAny _ _ (callAny (.ref C) _) _ _ _
  repeat (any_goals (first | assumption | with_reducible refine wpAny_loadPart_at hC ?_ | wp_step))
  refine ⟨rfl, ?_⟩
  refine codeAny_call_builtin_at (Code.quiet_builtin _ (by decide +kernel)) entry_typeCall (wpAny_check_type_call_sub hC ?_)
  repeat (first | with_reducible refine wpAny_loadPart_at hC ?_ | with_reducible refine wpAny_madeBy_exc hC ?_ | wp_step)
  refine codeAny_call_builtin_code (Code.quiet_builtin _ F.quiet) (wpAny_check_new_subT F T hC ?_)
  refine codeAny_exc_new_subT F T hC ?_ hrest
  show wpAny _ _ _ _ _ _
  have up : ∀ b o, h.get? b = some o → ((h.push { cls := .type "tuple", data := .seq rest.toArray }).push (excObj C h.objs.size)).get? b = some o := fun b o e => Heap.get?_push_of_some _ (Heap.get?_push_of_some _ e)
  have hC₁ := up _ _ hC
  have hget : ((h.push { cls := .type "tuple", data := .seq rest.toArray }).push (excObj C h.objs.size)).get? (h.objs.size + 1) = some (excObj C h.objs.size) := by heap_get
  have hcC : (Value.ref C :: bmE).contains (.ref C) = true := by simp
  have X₁ : K.In ((h.push { cls := .type "tuple", data := .seq rest.toArray }).push (excObj C h.objs.size)) := X.keeps up
  unfold isInstance
  repeat (first | with_reducible refine wpAny_loadPart_at hget ?_ | (with_reducible refine wpAny_isSubtype_exc hC₁ ?_; rw [hcC]) | wp_step)
  refine wpAny_isSubtype_exc hC₁ ?_
  rw [hcC]
  dsimp only
  rw [if_neg (by decide : ¬ ((!true) = true))]
  have I : InstAt ((h.push { cls := .type "tuple", data := .seq rest.toArray }).push (excObj C h.objs.size)) (h.objs.size + 1) (excObj C h.objs.size) C none := ⟨hget, rfl, rfl, trivial⟩
  refine wpAny_bind (wpAny_holding ?_)
  refine special_fn (args := rest) X₁ I hi hf (wpAny_call ?_)
  refine codeAny_mono hq fun r s' z => ?_
  rcases r with e | (v | _ | _ | _) <;> first | exact z | exact z.elim | skip
  obtain ⟨rfl, z⟩ := z
  exact wpAny_pure z
end
end Mine
end
section
open PySem PySem.W PyProof.Rows PySem.Calls
namespace Mine
theorem mw_type : typeOf (.builtin "Exception.__init__") = pure (.type "wrapper_descriptor") := by show builtinType _ = _; rw [builtinType_eq_fast]; kernel_rfl
theorem mw_slot_get : Slot "wrapper_descriptor" "__get__" "wrapper_descriptor.__get__" :=
  .of (owner := "wrapper_descriptor") (n := "__get__") (by rw [typeLookup_type, builtinLookup_eq_fast]; kernel_rfl) (by decide +kernel) (by decide +kernel) (by decide +kernel)
    (by first | exact .inl (by decide +kernel) | exact .inr (by decide +kernel)) (by rw [isSubtype_type]; kernel_rfl)
theorem mw_entry_get : entryFor table "wrapper_descriptor.__get__" = some Builtin.«wrapper_descriptor.__get__» := entryFor_of_tree (by kernel_rfl)
theorem mw_args_get (a b c : Value) : argsOk "wrapper_descriptor.__get__" ⟨[a, b, c], []⟩ := by unfold argsOk; kernel_rfl
theorem mw_owner : (kfb_private% "ownerAndName") "Exception.__init__" = ("Exception", "__init__") := by first | decide +kernel | kernel_rfl
theorem mw_quiet {as : Args} : (Code.builtin "Exception.__init__" as).quiet = true := Code.quiet_builtin _ (by decide +kernel)
theorem mw_sup (w : World) : ks_superIn (hd.heap_39 w.params) 34 34 (Str.ofString "__init__") = some (some (.builtin "Exception.__init__")) := by rfl
abbrev wrapB (x : Addr) : Obj := { cls := .type "method-wrapper", data := .fields #[.builtin "Exception.__init__", .ref x] }
section
variable {prog : Program} {w : World} {A : Around} {E : Value → Shared → Prop} {h : Heap} {g : Array GenState} {d : Drawn} {t : Nat} {os : OsState}
theorem mw_get {x C : Addr} {ox : Obj} {P : Fin → Shared → Prop} (hx : h.get? x = some ox) (hxc : ox.cls = .ref C) (hs : Looks (model prog w) h (isSubtype (.ref C) (.type "Exception")) true)
    (hq : P (.done (.ret (.ref h.objs.size))) ⟨h.push (wrapB x), g, d, t, os⟩) :
    wpAny (model prog w) A (Builtin.«wrapper_descriptor.__get__» ⟨[.builtin "Exception.__init__", .ref x, .ref C], []⟩) P E ⟨h, g, d, t, os⟩ := by
  unfold Builtin.«wrapper_descriptor.__get__»
  refine wpAny_bind (wpAny_of_eq (a := (.builtin "Exception.__init__", some (.ref x), some (.ref C))) (by first | rfl | kernel_rfl) ?_)
  dsimp only
  refine wpAny_bind (m := (kfb_private% "checkInstance") (.builtin "Exception.__init__") (.ref x)) ?_
  refine wpAny_bind (m := (kfb_private% "nameAndClass") (.builtin "Exception.__init__")) ?_
  refine wpAny_of_eq (a := (("__init__" : Str), .type "Exception")) (by first | rfl | kernel_rfl) ?_
  dsimp only
  refine wpAny_bind (m := isInstance (.ref x) (.type "Exception")) ?_
  unfold isInstance
  repeat (any_goals (first | assumption | (with_reducible refine wpAny_loadPart_at hx ?_; rw [hxc]) | (with_reducible refine Looks.at hs ?_) | wp_step))
theorem mw_printed {x C : Addr} {ox oC : Obj} {cd : ClassData} {P : String → Shared → Prop} (hx : h.get? x = some ox) (hxc : ox.cls = .ref C) (hC : h.get? C = some oC) (hcd : oC.data = .cls cd) (hq : ∀ f, P f ⟨h, g, d, t, os⟩) :
    wpAny (model prog w) A (Bind.printed "*" true ⟨.positional, "*", "Exception", .self, [⟨"args", .varPos, false⟩]⟩ (some (.ref x))) P E ⟨h, g, d, t, os⟩ := by
  unfold Bind.printed Bind.receiverType
  rw [if_neg (by decide)]
  refine wpAny_bind (m := typeOf (.ref x)) ?_
  unfold typeNameWhole
  repeat (any_goals (first | assumption | (with_reducible refine wpAny_loadPart_at hx ?_; rw [hxc]) | (with_reducible refine wpAny_loadPart_at hC ?_; rw [hcd]) | exact hq _ | wp_step))
  rw [hcd]
  exact wpAny_pure (wpAny_pure (wpAny_pure (hq _)))
theorem mw_checkBound {x C : Addr} {ox oC : Obj} {cd : ClassData} {v : Value} {P : Unit → Shared → Prop} (hx : h.get? x = some ox) (hxc : ox.cls = .ref C) (hC : h.get? C = some oC) (hcd : oC.data = .cls cd) (hq : P () ⟨h, g, d, t, os⟩) :
    wpAny (model prog w) A (checkBoundCall "Exception.__init__" ⟨[.ref x, v], []⟩) P E ⟨h, g, d, t, os⟩ := by
  have hc := excClass_Exception
  unfold checkBoundCall
  simp only [hc.initKind, hc.initSig]
  refine KFB.if_so rfl ?_
  unfold Bind.checkArgs
  dsimp only
  refine wpAny_bind (m := Bind.printed "*" true _ _) ?_
  refine mw_printed hx hxc hC hcd fun full => ?_
  refine wpAny_bind (m := Bind.printed "Exception" false _ _) (printed_name (by decide) ?_)
  show wpAny _ A (Sem.onRaise (Bind.check _ full "Exception" _ []) _) P E _
  rw [check_varPos]
  exact wpAny_pure hq
theorem mw_call {u x C : Addr} {ox oC : Obj} {cd : ClassData} {v : Value} {vs : Array Value} {t0 : Addr} {P : Value → Shared → Prop} (hu : h.get? u = some (wrapB x)) (hx : h.get? x = some ox) (hxc : ox.cls = .ref C) (hC : h.get? C = some oC) (hcd : oC.data = .cls cd)
    (hd : ox.data = .fields vs) (h0 : vs[0]? = some (.ref t0))
    (hq : P .none ⟨(h.push { cls := .type "tuple", data := .seq #[v] }).update x (Obj.mapFields (·.setIfInBounds 0 (.ref h.objs.size))), g, d, t, os⟩) :
    wpAny (model prog w) A (call (.ref u) [v]) P E ⟨h, g, d, t, os⟩ := by
  have hc := excClass_Exception
  refine wpAny_call (codeAny_of_tree ?_)
  show wpAny _ A.in1 (callAny (.ref u) ⟨[v], []⟩) _ _ _
  simp only [callAny]
  refine wpAny_bind (wpAny_load hu ?_)
  simp only [wrapB, show (Value.type "method-wrapper" == Value.type "method" || Value.type "method-wrapper" == Value.type "builtin_function_or_method" || Value.type "method-wrapper" == Value.type "method-wrapper") = true by decide, if_true]
  refine KFB.if_so (by decide) ?_
  refine wpAny_bind (mw_checkBound hx hxc hC hcd ?_)
  refine wpAny_bind (wpAny_pure (wpAny_pure ?_))
  refine ⟨mw_quiet, codeAny_builtin hc.initEntry ?_⟩
  unfold Builtin.«BaseException.__init__»
  dsimp only
  rw [if_neg (by simp)]
  unfold newTuple Builtin.BaseException.bexcPut
  have hsz : 0 < vs.size := (Array.getElem?_eq_some_iff.mp h0).1
  have he₁ := Heap.get?_push_of_some (h := h) { cls := .type "tuple", data := .seq #[v] } hx
  refine wpAny_bind (wpAny_newObj_type (wpAny_bind (wpAny_bind (wpAny_field he₁ hd h0 (wpAny_bind (wpAny_setField he₁ hd hsz ?_))))) (by show 1 ≤ sizeLine; rw [sizeLine_eq]; decide))
  exact wpAny_letGo (wpAny_pure hq)
theorem mw_getm {so x C : Addr} {ox : Obj} {l₀ l : List Value} {K : Frag} {pl : Sem Bool} {Q : Value × List Value → Shared → Prop}
    (hso : h.get? so = some (ks_superObj C x C)) (hno : Looks (model prog w) h (opaqueClassAbove (.ref C)) none)
    (hC : Looks (model prog w) h (mroOf (.ref C)) l₀) (hl : (l₀.dropWhile (· != .ref C)).drop 1 = l) (X : K.In h)
    (hf : alongIn K "__init__" l = some (some (.builtin "Exception.__init__"))) (hx : h.get? x = some ox) (hxc : ox.cls = .ref C) (hxC : x ≠ C) (hs : Looks (model prog w) h (isSubtype (.ref C) (.type "Exception")) true)
    (hq : Q (.ref h.objs.size, []) ⟨h.push (wrapB x), g, d, t + 1, os⟩) :
    wpAny (model prog w) A (getMethod (.ref so) "__init__" pl) Q E ⟨h, g, d, t, os⟩ := by
  have hlk := F.ks_slot_super_ga.lookup
  have hcan := F.ks_canon_super_ga
  have hT : ∀ t', (⟨h, g, d, t', os⟩ : Shared).TypeIs (.ref so) "super" := fun _ => ⟨_, hso, rfl⟩
  unfold getMethod
  refine wpAny_bind (wpAny_specialOf (hT _) hlk ?_)
  show wpAny _ _ (if (Manifest.canonical "super.__getattribute__" != "object.__getattribute__") = true then _ else _) _ _ _
  rw [if_pos hcan]
  unfold getAttr getAttrBy
  refine wpAny_bind (wpAny_bind (wpAny_mkText (wpAny_holding (wpAny_bind (wpAny_typeOf (hT _) (wpAny_bind (wpAny_of_eq hlk ?_)))))))
  show wpAny _ _ (getAttrByItsOwn (.ref so) (.str "__init__" t) (.type "super") (.builtin "super.__getattribute__") true false) _ _ _
  unfold getAttrByItsOwn hookBefore callGetattribute boundAndCalled
  refine wpAny_bind (wpAny_of_eq (show (if onTheHeap (.type "super") then typeLookup (.type "super") "__getattr__" else pure none) = pure none from rfl) ?_)
  refine wpAny_bind (wpAny_attempt (wpAny_holding ?_))
  show wpAny _ _ (bindSpecial (.builtin "super.__getattribute__") (.ref so) >>= _) _ _ _
  refine wpAny_bind (wpAny_of_eq (F.ks_slot_super_ga.bind _) ?_)
  refine wpAny_mono (Q := fun v s' => v = .ref h.objs.size ∧ s' = ⟨h.push (wrapB x), g, d, t + 1, os⟩) (E := fun _ _ => False)
    (wpAny_call_entry F.ks_slot_super_ga (hT _) F.ks_entry_super_ga ?_ (F.ks_gaArgs_super _ _)) (fun v s' hv => ?_) fun _ _ z => z.elim
  · have hne : (Value.ref x == Value.ref C) = false := by simp [hxC]
    have hlk2 := mw_slot_get.lookup
    have f0 : (#[.ref C, .ref x, .ref C] : Array Value)[0]? = some (.ref C) := rfl
    have f1 : (#[.ref C, .ref x, .ref C] : Array Value)[1]? = some (.ref x) := rfl
    have f2 : (#[.ref C, .ref x, .ref C] : Array Value)[2]? = some (.ref C) := rfl
    have hdt : (ks_superObj C x C).data = .fields #[.ref C, .ref x, .ref C] := rfl
    have hTf : (⟨h, g, d, t+1, os⟩ : Shared).TypeIs (.builtin "Exception.__init__") "wrapper_descriptor" := mw_type
    unfold Builtin.«super.__getattribute__»
    repeat (first
      | (with_reducible refine wpAny_field hso hdt f0 ?_) | (with_reducible refine wpAny_field hso hdt f1 ?_) | (with_reducible refine wpAny_field hso hdt f2 ?_)
      | (with_reducible refine ks_wpAny_notOpaque hno ?_)
      | (with_reducible refine Looks.at hC ?_; rw [hl])
      | (refine ks_forIn_along X (fun _ _ => rfl) rfl ?_ hf)
      | (with_reducible refine wpAny_typeOf hTf ?_)
      | (with_reducible refine wpAny_call_entry mw_slot_get hTf mw_entry_get ?_ (mw_args_get _ _ _))
      | (with_reducible refine mw_get hx hxc hs ?_)
      | (with_reducible refine ⟨_, rfl, ?_⟩)
      | (simp only [hne, Bool.or_false, Bool.false_eq_true, if_false])
      | wp_step
      | dsimp only)
    all_goals (first | exact ⟨_, rfl, rfl, rfl⟩ | trivial)
  obtain ⟨rfl, rfl⟩ := hv
  exact wpAny_pure (wpAny_pure hq)
end
end Mine
end
section
open PySem PySem.W PyProof.Rows PySem.Calls
open PySem.Builtin PySem.Builtin.ObjectAttr
namespace Mine
section
variable {prog : Program} {w : World} {A : Around} {E : Value → Shared → Prop} {h : Heap} {g : Array GenState} {d : Drawn} {t : Nat} {os : OsState}
variable {nm q : Str} {C N x : Addr} {bs bm : List Value} {sn : List Str} {sub : List Value} {ab : Bool} {col : Option Bool} {dd : Option Addr} {k0 k1 k2 k3 k5 : Option Value} {B newId sa owner : String}
  {mN mA : Str → Option Value} {name : Str} {v : Value} {o : Obj}

theorem store_first {Q : Unit → Shared → Prop} (SF : StoreFacts B bm sa owner)
    (hC : h.get? C = some (excClassObj nm q C N bs bm true sn sub ab col dd k0 k1 k2 k3 k5 newId)) (hn : h.Ns N mN) (hns : mN "__setattr__" = none) (hna : mN name = none)
    (hB : typeLookup (.type B) name = pure none) (hxC : x ≠ C) (hx : h.get? x = some o) (hc : o.cls = .ref C) (hnc : ∀ c, o.data ≠ .cls c) (hdn : o.dict = none)
    (hq : ∀ h' tk', h'.get? x = some { cls := o.cls, dict := some h.objs.size, data := o.data, slots := o.slots } → h'.Ns1 h.objs.size (fun y => if y = name then some v else none) →
      (∀ b o, b ≠ x → h.get? b = some o → h'.get? b = some o) → Q () ⟨h', g, d, tk', os⟩) :
    wpAny (model prog w) A (setAttr (.ref x) name v) Q E ⟨h, g, d, t, os⟩ := by
  have f3 := SF.slot.bind (.ref x)
  unfold setAttr callSpecial? specialOf
  repeat (any_goals (first | assumption | (with_reducible refine wpAny_loadPart_at hx ?_; rw [hc]) | (with_reducible refine wpAny_typeLookup_exc hC hn SF.mro SF.slot.lookup ?_; rw [hns]) | wp_step))
  refine codeAny_call_builtin SF.slot.plain SF.entry (wpAny_check_sa SF hC hx hc ?_)
  have hpass := SF.passes (.ref x)
  unfold Builtin.«object.__setattr__»
  repeat (first | rw [refuse_eq] | (rw [refuseLoop_ref, hpass]) | (with_reducible refine wpAny_loadPart_at hx ?_; rw [hc]) | with_reducible refine wpAny_mroOf_exc hC ?_ | (with_reducible refine wpAny_typeLookup_exc hC hn SF.mro hB ?_; rw [hna]) | wp_step)
  rw [hdn, if_neg (by simp [typeHasDict])]
  split
  · rename_i hcd
    cases hcd
  split
  · rename_i c hcd
    exact absurd hcd (hnc c)
  · have hx₁ : (h.push { cls := .type "dict", data := .dict #[] }).get? x = some o := Heap.get?_push_of_some _ hx
    have hxs : x ≠ h.objs.size := Nat.ne_of_lt (Heap.lt_size hx)
    refine wpAny_bind (wpAny_alloc' ?_)
    refine wpAny_bind (wpAny_update' hx₁ ?_)
    refine wpAny_pure ?_
    have hgd : ((h.push { cls := .type "dict", data := .dict #[] }).update x fun o => { cls := o.cls, dict := some h.objs.size, data := o.data, slots := o.slots }).get? h.objs.size
        = some { cls := .type "dict", data := .dict #[] } :=
      (Heap.get?_update_ne _ _ _ _ hxs.symm).trans (Heap.get?_push_at rfl rfl)
    have hnd : ((h.push { cls := .type "dict", data := .dict #[] }).update x fun o => { cls := o.cls, dict := some h.objs.size, data := o.data, slots := o.slots }).Ns h.objs.size (fun _ => none) :=
      ⟨_, #[], _, hgd, rfl, fun e he => absurd he (by simp), fun _ => rfl⟩
    show wpAny _ _ (storeInDict h.objs.size (.str name t) name v) _ _ _
    unfold storeInDict newKeyGuard
    refine wpAny_bind (wpAny_pure (wpAny_bind (wpAny_nsSet1 (Heap.Ns1.of_empty hnd) fun h' hn' hs => ?_)))
    obtain ⟨oD, esD, epD, hoD, hdD, hcD⟩ := hn'.count (Within.cons name v Within.nil)
    refine wpAny_bind (wpAny_lookBehind hoD (by rw [hdD]; exact pastItsLine_dict (Nat.le_trans hcD (by rw [List.length_cons, List.length_nil, sizeLine_eq]; omega))) ?_)
    wp_walk
    have hx' : h'.get? x = some { cls := o.cls, dict := some h.objs.size, data := o.data, slots := o.slots } := by
      refine (hs.2 x hxs).trans (Heap.get?_update_self _ hx₁ ?_)
      have hfr := (Heap.get?_some_iff.mp hx).2
      obtain ⟨oc, od, odt, osl⟩ := o
      cases odt <;> first | rfl | exact hfr
    exact hq h' _ hx' hn' fun b ob hbx hb =>
      (hs.2 b (Nat.ne_of_lt (Heap.lt_size hb))).trans ((Heap.get?_update_ne _ _ _ _ hbx).trans (Heap.get?_push_of_some _ hb))
end
theorem ns33 {w : World} {h : Heap} (X : (hd.heap_39 w.params).In h) : ∃ mN, h.Ns 33 mN ∧ mN "__setattr__" = none ∧ mN "code" = none ∧ mN "told" = none := by
  obtain ⟨oc, od, es, n, sl, ho, hk⟩ : ∃ oc od es n sl, (hd.heap_39 w.params).lookup 33 = some ⟨oc, od, .dict es n, sl⟩ ∧ StrKeys es := ⟨_, _, _, _, _, rfl, by
    intro e he
    simp only [List.mem_toArray, List.mem_cons, List.not_mem_nil, or_false] at he
    rcases he with rfl | rfl | rfl | rfl | rfl | rfl | rfl | rfl | rfl <;> exact ⟨_, _, rfl⟩⟩
  have hN : h.Ns 33 (fun y => nsFind es y) := ⟨_, es, n, X _ _ ho, rfl, hk, fun _ => rfl⟩
  exact ⟨_, hN, ns_none_of X hN (by rfl), ns_none_of X hN (by rfl), ns_none_of X hN (by rfl)⟩
theorem Fr.keep2 {g h h' : Heap} {L x d : Addr} {m : Str → Option Value} (F : Fr g L h m) (hk : ∀ b o, b ≠ x → b ≠ d → h.get? b = some o → h'.get? b = some o) (hx : g.get? x = none) (hd : g.get? d = none) (hxL : L ≠ x) (hdL : L ≠ d) : Fr g L h' m := by
  obtain ⟨⟨o, es, ep, ho, r⟩, k, a⟩ := F
  exact ⟨⟨o, es, ep, hk _ _ hxL hdL ho, r⟩, fun b o e => hk b o (by rintro rfl; rw [hx] at e; cases e) (by rintro rfl; rw [hd] at e; cases e) (k b o e), a⟩
end Mine
end
section
open PySem PySem.W PyProof.Rows PySem.Calls
namespace Mine
theorem mw_callWith {prog : Program} {w : World} {A : Around} {E : Value → Shared → Prop} {s : Shared} {pos : Pos} {u x : Addr} {e : Expr} {env : Env} {Q : Value → Shared → Prop}
    (h : wpAny (model prog w) A (spliced (backTo pos (starEach [e] env))) (fun vs s₁ => s₁.heap.get? u = some (wrapB x) ∧ wpAny (model prog w) A (call (.ref u) vs) Q E s₁) E s)
    (he : starEach [e] env = (false, eval e env) :: starEach [] env := by rfl) :
    wpAny (model prog w) A (callWith pos (.ref u) [] (backTo pos (starEach [e] env)) []) Q E s := by
  have hplain : (backTo pos (starEach [e] env)).any (·.1) = false := by rw [he]; rfl
  unfold callWith
  refine wpAny_bind (wpAny_holding (wpAny_mono (Q := fun x' s₁ => s₁.heap.get? u = some (wrapB x) ∧ wpAny (model prog w) A (call (.ref u) x'.pos x'.kw) Q E s₁) ?_ (fun x s₁ h₁ => wpAny_bind (wpAny_standAt ?_)) fun _ _ x => x))
  · rw [he] at h ⊢
    exact evalArgs_plain h
  obtain ⟨ho, hcall⟩ := h₁
  simp only [hplain, List.any_nil, Bool.or_false]
  refine wpAny_bind (m := keeperOf (.ref u)) ?_
  unfold keeperOf
  refine wpAny_bind (wpAny_load ho ?_)
  simp only [wrapB, show (Value.type "method-wrapper" != Value.type "method") = true by decide, show (Value.type "method-wrapper" == Value.type "builtin_function_or_method" || Value.type "method-wrapper" == Value.type "method-wrapper") = true by decide, if_true]
  refine wpAny_pure ?_
  exact wpAny_bind (wpAny_mono hcall (fun r s₂ hr => wpAny_bind (wpAny_holding (wpAny_point (wpAny_pure hr)))) fun _ _ x => x)
theorem tExc (w : World) (news : List (Addr × Obj)) (c : Str) (a : Int) (t u : Tok) : Tel w 34 2 news [.str c t, .int a u] (fun nw r => ∃ e ob t0, nw = (e, ob) :: news ∧ r = .ref e ∧ ob.cls = .ref 34 ∧ ob.data = .fields #[t0, .none, .none, .none, .bool false, .none] ∧ ∀ p ∈ news, p.1 < e) False := by
  unfold Tel
  k_with_none
  w_top off
  k_fill
  intro mean mg mb dp un gd cn cs ad ccd cl outer A₀ base h₀ L m s Q E B F X N T hk hd hu hret hthr
  obtain ⟨hh, g, d, tk, os⟩ := s
  dsimp only at F N hret hthr
  have X1 := X.keeps F.keep
  refine wpAny_call (exc_call X1 (X1 34 _ (by k_is)) (by k_is) (by k_is) (by show 2 ≤ _; rw [sizeLine_eq]; decide) ?_)
  have N' := (N.push F { cls := .type "tuple", data := .seq [Value.str c t, Value.int a u].toArray }).push (F.push _) (excObj 34 hh.objs.size)
  rw [Heap.size_push] at N'
  have F' : Fr h₀ L ((hh.push { cls := .type "tuple", data := .seq [Value.str c t, Value.int a u].toArray }).push (excObj 34 hh.objs.size)) m := (F.push _).push _
  have l1 : ∀ p ∈ news, p.1 < hh.objs.size := fun p hp => Heap.lt_size (N p hp).1
  refine' ks_code_super (f := 31) B F' X N' T ?kA ?kF ?kK ?k6 ?k7 ?k8 ?k9 ?kB ?_ ?c1 ?c2 ?c3 ?c4
  case kA => exact rfl
  case kF => exact rfl
  case kK => exact hk
  case k6 => k_is
  case k7 => k_is
  case k8 => ktr_room
  case k9 => exact binds_K (X1.keeps fun b o e => Heap.get?_push_of_some _ (Heap.get?_push_of_some _ e)) rfl (by k_is) rfl rfl rfl
  case kB => exact locs rfl
  case c1 => decide
  case c2 => exact rfl
  case c3 => exact rfl
  case c4 => exact rfl
  have l0 := l1
  intro g' L' h' FG' F' N' B' X' T' l1
  (try k_lt l1)
  (try dsimp only)
  (try k_lift B')
  have hI : InstAt h' (hh.objs.size+1) (excObj 34 hh.objs.size) 34 none := ⟨(N' _ (by k_mem)).1, rfl, rfl, trivial⟩
  k_steps
  refine' ks_node ?g1 ?g2 ?g3 ?g4 ?g5 ?g6 ?g7 ?g8 ?g9 ?g10 ?g11 ?g12 ?g13 ?g14 ?g15 ?g16 ?g17 ?g18 ?g19 ?g20 ?g21 ?g22 ?_
  case g1 => k_asm
  case g2 => k_asm
  case g3 => k_asm
  case g4 => k_asm
  case g5 => k_is
  case g6 => rfl
  case g7 => rfl
  case g8 => exact hI
  all_goals try rfl
  all_goals try k_is
  intro so h2 F2 N2 l2
  clear F' N'
  have X2 := X'.keeps F2.keep
  obtain ⟨oC, cdC, hoC, hcd, hmro, hcl⟩ : ∃ oC cd, (Mine.hd.heap_39 w.params).lookup 34 = some oC ∧ oC.data = .cls cd ∧ cd.mro = .ref 34 :: bmE ∧ clsIn (Mine.hd.heap_39 w.params) 34 = some cd := ⟨_, _, rfl, rfl, rfl, rfl⟩
  have hI2 : InstAt h2 (hh.objs.size+1) (excObj 34 hh.objs.size) 34 none := ⟨N2.get (by k_mem), rfl, rfl, trivial⟩
  refine mw_getm (C := 34) (x := hh.objs.size+1) (l₀ := cdC.mro) (l := bmE) (K := Mine.hd.heap_39 w.params) (N2.get (by k_mem)) (looks_opaque X2 (by rfl)) (fun A Q E s k q => wpAny_bind ((looks_clsIn X2 hcl) A _ E s k (wpAny_pure q))) (by rw [hmro]; rfl) X2 (by rfl) (N2.get (by k_mem)) rfl (ks_ne X2 hI2 hcl) (looks_mroIn X2 (by rfl)) ?_
  have N3 := N2.push F2 (wrapB (hh.objs.size+1))
  have F3 := F2.push (wrapB (hh.objs.size+1))
  have l3 : ∀ p ∈ ((so, ks_superObj 34 (hh.objs.size + 1) 34) :: (hh.objs.size + 1, excObj 34 hh.objs.size) :: (hh.objs.size, ({ cls := Value.type "tuple", data := Data.seq #[Value.str c t, Value.int a u] } : Obj)) :: news), p.1 < h2.objs.size := fun p hp => Heap.lt_size (N2 p hp).1
  clear hI hI2 X2
  clear F2 N2
  generalize hmw : h2.objs.size = mw at *
  generalize h2.push (wrapB (hh.objs.size+1)) = h3 at *
  refine mw_callWith (x := hh.objs.size+1) ?_
  dsimp only
  k_steps
  exact N3.get (by k_mem)
  have X3 := X'.keeps F3.keep
  refine mw_call (x := hh.objs.size+1) (C := 34) (N3.get (by k_mem)) (N3.get (by k_mem)) rfl (X3 _ _ hoC) hcd rfl rfl ?_
  have F4 := F3.push { cls := .type "tuple", data := .seq #[Value.str c t] }
  have N4 := N3.push F3 { cls := .type "tuple", data := .seq #[Value.str c t] }
  have l4 := fun p hp => Heap.lt_size (N3 p hp).1
  generalize h3.objs.size = tu at *
  generalize h3.push { cls := .type "tuple", data := .seq #[Value.str c t] } = h4 at *
  have hs4 := Heap.SameBut.update h4 (hh.objs.size+1) (Obj.mapFields (·.setIfInBounds 0 (.ref tu)))
  have o4 := Heap.get?_update_self (Obj.mapFields (·.setIfInBounds 0 (.ref tu))) (N4.get (o := excObj 34 hh.objs.size) (a := hh.objs.size+1) (by k_mem)) rfl
  generalize h4.update (hh.objs.size+1) (Obj.mapFields (·.setIfInBounds 0 (.ref tu))) = h5 at *
  have q1 : @LT.lt Nat _ (hh.objs.size + 1) so := l2 _ (.head _)
  have q2 : @LT.lt Nat _ so mw := l3 _ (.head _)
  have q3 : @LT.lt Nat _ mw tu := l4 _ (.head _)
  have F5 := F4.update N4 (o := excObj 34 hh.objs.size) (by k_mem) hs4
  have N5 := News.setIn (own := [(tu, _), (mw, _), (so, _)]) N4 (by intro p hp; simp only [List.mem_cons, List.not_mem_nil, or_false] at hp; rcases hp with rfl | rfl | rfl <;> refine Nat.ne_of_gt ?_ <;> dsimp only <;> omega)
    (by
      intro p hp
      rcases List.mem_cons.mp hp with rfl | hp
      · exact Nat.ne_of_lt (Nat.lt_succ_self _)
      · exact Nat.ne_of_lt (Nat.lt_succ_of_lt (l0 p hp))) hs4 o4
  dsimp only [Obj.mapFields, List.cons_append, List.nil_append, excObj] at N5
  clear N4 F4 N3 F3
  k_steps
  have X5 := X'.keeps F5.keep
  obtain ⟨mN, hN, hN1, hN2, hN3⟩ := ns33 X5
  have hm5 := N5 _ (List.Mem.tail _ (List.Mem.tail _ (List.Mem.tail _ (List.Mem.head _))))
  dsimp only at hm5
  have hxg : g'.get? (hh.objs.size+1) = none := hm5.2.2
  have hxL : L' ≠ hh.objs.size+1 := fun z => hm5.2.1 z.symm
  have hxC : hh.objs.size + 1 ≠ 34 := by
    intro z
    have := (X' 34 _ hoC)
    rw [← z] at this
    rw [hxg] at this
    cases this
  have hdg : g'.get? h5.objs.size = none := by
    cases z : g'.get? h5.objs.size with
    | none => rfl
    | some o => exact absurd (Heap.lt_size (F5.keep _ _ z)) (Nat.lt_irrefl _)
  have hdL : L' ≠ h5.objs.size := Nat.ne_of_lt F5.ns.lt
  have hdn : ∀ p ∈ news, p.1 ≠ h5.objs.size := fun p hp => Nat.ne_of_lt (Heap.lt_size (N5 p (List.mem_append_right [(tu, _), (mw, _), (so, _), (hh.objs.size+1, _), (hh.objs.size, _)] hp)).1)
  refine store_first PySem.F.store_Exception (X5 34 _ (by k_is)) hN hN1 hN2 (by rw [typeLookup_type, builtinLookup_eq_fast]; kernel_rfl) hxC hm5.1 rfl (by intro c z; cases z) rfl ?_
  intro h6 tk6 ox6 hD6 hk6
  have F6 : Fr g' L' h6 _ := Fr.keep2 (x := hh.objs.size+1) (d := h5.objs.size) F5 (fun b o e _ => hk6 b o e) hxg hdg hxL hdL
  have N6 : News g' L' h6 ((hh.objs.size+1, { cls := .ref 34, dict := some h5.objs.size, data := .fields #[.ref tu, .none, .none, .none, .bool false, .none] }) :: news) := by
    intro p hp
    rcases List.mem_cons.mp hp with rfl | hp
    · exact ⟨ox6, hxL.symm, hxg⟩
    · have z := N5 p (List.mem_append_right [(tu, _), (mw, _), (so, _), (hh.objs.size+1, _), (hh.objs.size, _)] hp)
      exact ⟨hk6 _ _ (Nat.ne_of_lt (Nat.lt_succ_of_lt (l0 p hp))) z.1, z.2⟩
  clear N5
  have X6 := X'.keeps F6.keep
  clear X5 hN hN1 hN2 hN3 F5 ox6 hk6
  clear mN
  have ox6 := (N6 _ (.head _)).1
  dsimp only at ox6
  generalize h5.objs.size = dx at *
  dsimp only
  k_steps
  obtain ⟨mN, hN, hN1, hN2, hN3⟩ := ns33 X6
  have hdx : dx ≠ hh.objs.size + 1 := by
    intro z
    subst z
    obtain ⟨o, es, ep, e, d', r⟩ := hD6
    rw [ox6] at e
    cases e
    cases d'
  refine store_attr PySem.F.store_Exception (X6 34 _ (by k_is)) hN hN1 hN3 (by rw [typeLookup_type, builtinLookup_eq_fast]; kernel_rfl) hxC ⟨_, ox6, rfl, (by intro c z; cases z), .inr ⟨dx, rfl, hdx, hD6⟩⟩ ?_ (ns := [Str.ofString "code"]) (Within.cons _ _ Within.nil)
  intro h7 tk7 _ hk7 ho7
  obtain ⟨o7, ox7, oc7, od7, -, -⟩ := ho7 _ ox6
  have hk7' : ∀ b o, b ≠ hh.objs.size + 1 → b ≠ dx → h6.get? b = some o → h7.get? b = some o := fun b o n1 n2 e => hk7 b o n1 (fun o₀ d' z1 z2 => by rw [ox6] at z1; cases z1; cases z2; exact n2) e
  have F7 : Fr g' L' h7 _ := Fr.keep2 (x := hh.objs.size+1) (d := dx) F6 hk7' hxg hdg hxL hdL
  have N7 : News g' L' h7 ((hh.objs.size+1, o7) :: news) := by
    intro p hp
    rcases List.mem_cons.mp hp with rfl | hp
    · exact ⟨ox7, hxL.symm, hxg⟩
    · have z := N6 p (List.Mem.tail _ hp)
      exact ⟨hk7' _ _ (Nat.ne_of_lt (Nat.lt_succ_of_lt (l0 p hp))) (hdn p hp) z.1, z.2⟩
  clear N6 F6
  dsimp only
  k_steps
  exact hret _ _ _ _ (by assumption) (by assumption) ⟨_, _, .ref tu, rfl, rfl, oc7, od7, fun p hp => Nat.lt_succ_of_lt (l0 p hp)⟩
end Mine
end
section
open PySem PySem.W PyProof.Rows PySem.Calls
namespace Mine
def OwnExc (K : Frag) (E : Value → Shared → Prop) (v : Value) (s₁ : Shared) : Prop := ∃ e ob t0, v = .ref e ∧ K.In s₁.heap ∧ s₁.heap.get? e = some ob ∧ ob.cls = .ref 34 ∧ ob.data = .fields #[t0, .none, .none, .none, .bool false, .none] ∧ E (.ref e) s₁
section
variable {M : Model} {A : Around} {E : Value → Shared → Prop} {env : Env} {s : Shared}
theorem raise_own {prog : Program} {w : World} {ex : Expr} {pos : Pos} {Q : Flow → Shared → Prop} (hh : A.handled = none) (h : wpAny (model prog w) A (eval ex env) (OwnExc (hd.heap_39 w.params) E) E s) :
    wpAny (model prog w) A (exec (.Raise (some ex) none pos) env) Q E s := by
  rw [arm_exec_Raise]
  refine wpAny_bind (wpAny_standAt ?_)
  simp only [evalOpt, Option.map]
  unfold raiseStmt
  refine wpAny_bind (wpAny_bind (wpAny_mono h (fun v s₁ h₁ => ?_) fun _ _ x => x))
  refine wpAny_bind (wpAny_standAt (wpAny_pure ?_))
  obtain ⟨e, ob, t0, rfl, X, he, hc, hdt, hE⟩ := h₁
  obtain ⟨hp, g, d, tk, os⟩ := s₁
  obtain ⟨oc, od, oda, osl⟩ := ob
  dsimp only at hc hdt
  subst hc hdt
  have L : Looks (model prog w) hp (isSubtype (.ref 34) (.type "BaseException")) true := looks_mroIn X (by rfl)
  obtain ⟨oC, hC, hoC⟩ : ∃ oC, hp.get? 34 = some oC ∧ oC.cls = .type "type" := ⟨_, X 34 _ rfl, rfl⟩
  repeat (first | with_reducible refine wpAny_loadPart_at he ?_ | (with_reducible refine wpAny_loadPart_at hC ?_; rw [hoC]) | with_reducible refine Looks.at L ?_ | wp_step)
  all_goals first | exact wpAny_raiseNew_none hh hE
end
section
variable {M : Model} {A : Around} {E : Value → Shared → Prop} {s' : Shared} {base g g₂ h : Heap} {outer : List Env} {L a e : Addr} {m : Str → Option Value} {name : Str} {scope : Scope} {cd : Value} {Q : Unit → Shared → Prop} {news : List (Addr × Obj)}
theorem leave_own {ob : Obj} {t0 : Value} (K : Below A base outer g) (F' : Fr g L s'.heap m) (N' : News g L s'.heap ((e, ob) :: news)) (hcls : ob.cls = .ref 34) (hd : ob.data = .fields #[t0, .none, .none, .none, .bool false, .none])
    (hap : ∀ p ∈ news, p.1 < e)
    (hQ : ∀ h', RaisedSN base g outer e (.ref 34) news h' → g.UpToSlots h' → Q () { s' with heap := h' }) (hk : scope.kind = .function := by rfl) :
    wpAny M (A.deeper (envOf name scope L a cd)) (leaving (envOf name scope L a cd) (.ref e)) Q E s' := by
  obtain ⟨he, heL, heg⟩ := N' _ (.head _)
  dsimp only at he heL heg
  have kk : ∀ b o, (hideAll s'.heap [e]).get? b = some o → s'.heap.get? b = some o := fun b o q => of_hideAll _ q
  have hnew : (hideAll s'.heap [e]).get? e = none := hideAll_none _ (.head _)
  have F : Fr g L (hideAll s'.heap [e]) m := by
    obtain ⟨⟨o, es, ep, ho, r⟩, k, ab⟩ := F'
    exact ⟨⟨o, es, ep, hideAll_get _ ho (by simp only [List.mem_singleton]; exact fun z => heL z.symm), r⟩, fun b o q => hideAll_get _ (k b o q) (by simp only [List.mem_singleton]; rintro rfl; rw [heg] at q; cases q), ab⟩
  have N : News g L (hideAll s'.heap [e]) news := fun p hp => by
    have z := N' p (.tail _ hp)
    exact ⟨hideAll_get _ z.1 (by simp only [List.mem_singleton]; exact Nat.ne_of_lt (hap p hp)), z.2⟩
  generalize hideAll s'.heap [e] = h at *
  have K' := K.push (name := name) (a := a) (cd := cd) F hk
  have hin : ∀ env ∈ (envOf name scope L a cd :: outer), ∀ b, env.frame = some b → b ∈ (envOf name scope L a cd :: outer).filterMap (·.frame) := fun env he b hb => List.mem_filterMap.mpr ⟨env, he, hb⟩
  have st : base.StaysIn (hideAll h ((envOf name scope L a cd :: outer).filterMap (·.frame))) := fun b o q => hideAll_get _ (K'.stays b o q) fun hm => by
    rw [(K'.frames.mem hm).1] at q; cases q
  have sg : ∀ b o, g.get? b = some o → b ∉ outer.filterMap (·.frame) → (hideAll h ((envOf name scope L a cd :: outer).filterMap (·.frame))).get? b = some o := fun b o q nm => hideAll_get _ (F.keep b o q) fun hm => by
    rcases kts_mem hm with z | z
    · rw [z, kts_self F] at q
      cases q
    · exact nm z
  have hl : ∀ q ∈ news, (hideAll h ((envOf name scope L a cd :: outer).filterMap (·.frame))).get? q.1 = some q.2 ∧ g.get? q.1 = none ∧ base.get? q.1 = none := fun q hq => by
    refine ⟨hideAll_get _ (N q hq).1 fun hm => ?_, (N q hq).2.2, fresh_of_stays K.stays (N q hq).2.2⟩
    obtain ⟨env, he, hf⟩ := List.mem_filterMap.mp hm
    rcases List.mem_cons.mp he with rfl | he
    · exact (N q hq).2.1 (Option.some.inj hf).symm
    · obtain ⟨o, ho, _⟩ := (K.frames.mem (List.mem_filterMap.mpr ⟨env, he, hf⟩)).2
      rw [(N q hq).2.2] at ho; cases ho
  have hen : (hideAll h ((envOf name scope L a cd :: outer).filterMap (·.frame))).get? e = none := by
    cases q : (hideAll h ((envOf name scope L a cd :: outer).filterMap (·.frame))).get? e with
    | none => rfl
    | some o => have := of_hideAll _ q; rw [hnew] at this; cases this
  refine wpAny_leaving_firstW (a0 := t0) K'.stack ((funFrames_hide K'.frames hin).of_keeps fun b o hb _ => ⟨o, kk b o hb, rfl⟩) rfl he (fun b o hb => kk b o (of_hideAll _ hb)) hen hd rfl rfl fun h' hL => ?_
  obtain ⟨k1, ⟨_, _, k2⟩, k3, k4⟩ := hL
  have R : RaisedSN base g outer e (.ref 34) news h' := ⟨_, t0, st, sg, hl, k1, hen, k2, by rw [← hcls]; exact k3⟩
  exact hQ h' R (((Heap.UpToSlots.of_keeps F.keep).trans (Heap.UpToSlots.of_keeps kk)).trans k4)
end
end Mine
end
section
open PySem PySem.W PyProof.Rows
namespace Mine
def isOrd (c : Nat) : Bool := c == 60 || c == 61 || c == 62
def sgnL : List Nat := [43, 45, 42, 47, 92, 94, 40, 41, 44, 59, 58, 35, 38, 64]
def isSgn (c : Nat) : Bool := sgnL.contains c
def numAt : List Nat → Bool
  | c :: r => isFig c || (c == 46 && hdIs isFig r)
  | [] => false
def tokF : List Nat → Option (List Tk × Nat)
  | [] => none
  | c :: r =>
    if numAt (c :: r) then some ([(Str.ofString "number", ⟨(((c :: r).take (nNum (c :: r))).map up).toArray⟩)], nNum (c :: r))
    else if isLet c then some (wordF (c :: r))
    else if c == 34 then some ([(Str.ofString "text", ⟨(r.take (nTxt r)).toArray⟩)], nTxt r + 2)
    else if isOrd c then some ([(Str.ofString "sign", ⟨(ordT (c :: r)).1.toArray⟩)], (ordT (c :: r)).2)
    else if c == 63 then some ([(Str.ofString "word", Str.ofString "PRINT")], 1)
    else if c == 39 then some ([(Str.ofString "rem", ⟨(remL r).toArray⟩)], (c :: r).length)
    else if isSgn c then some ([(Str.ofString "sign", ⟨#[c]⟩)], 1)
    else none
def okTok : List Nat → Prop
  | c :: r => (numAt (c :: r) = true → okNum (c :: r)) ∧ (c = 34 → 34 ∈ r)
  | [] => True
section
variable {x : Str} {a : Int}
theorem tk_open (h0 : 0 ≤ a) (hl : a < x.length) : ∃ c r, suf x a = c :: r ∧ Txt.item x a = ⟨#[c]⟩ ∧ suf x (a + 1) = r ∧ x.cps.getD a.toNat 0 = c :=
  ⟨_, _, suf_cons h0 hl, item_at x a h0 hl, rfl, rfl⟩
theorem tk_num1 (h0 : 0 ≤ a) (hl : a < x.length) (h : isFigL (Txt.item x a).cps.toList = true) : numAt (suf x a) = true := by
  obtain ⟨c, r, e, i, -, -⟩ := tk_open h0 hl
  rw [i] at h
  rw [e]
  change isFigL [c] = true at h
  rw [isFigL_one] at h
  unfold numAt
  dsimp only
  rw [h]
  rfl
theorem isFigL_take (l : List Nat) : isFigL (l.take 1) = hdIs isFig l := by
  cases l with
  | nil => decide
  | cons c r => exact isFigL_one c
theorem tk_num2 (h0 : 0 ≤ a) (hl : a < x.length) (h : (Txt.item x a == Str.ofString ".") = true) (h' : isFigL (Txt.slice x (some (a + 1)) (some (a + 2))).cps.toList = true) : numAt (suf x a) = true := by
  obtain ⟨c, r, e, i, e', eg⟩ := tk_open h0 hl
  rw [item_beq h0 hl 46 (Str.ofString ".") (by decide), eg] at h
  rw [slice_one x (a + 1) (a + 2) (by omega) (by omega), e'] at h'
  change isFigL (r.take 1) = true at h'
  rw [isFigL_take] at h'
  rw [e]
  unfold numAt
  dsimp only
  rw [h, h']
  simp
theorem tk_nn1 (h0 : 0 ≤ a) (hl : a < x.length) (h : isFigL (Txt.item x a).cps.toList = false) (h' : (Txt.item x a == Str.ofString ".") = false) : numAt (suf x a) = false := by
  obtain ⟨c, r, e, i, e', eg⟩ := tk_open h0 hl
  rw [item_beq h0 hl 46 (Str.ofString ".") (by decide), eg] at h'
  rw [i] at h
  change isFigL [c] = false at h
  rw [isFigL_one] at h
  rw [e]
  unfold numAt
  dsimp only
  rw [h, h']
  rfl
theorem tk_nn2 (h0 : 0 ≤ a) (hl : a < x.length) (h : isFigL (Txt.item x a).cps.toList = false) (h' : isFigL (Txt.slice x (some (a + 1)) (some (a + 2))).cps.toList = false) : numAt (suf x a) = false := by
  obtain ⟨c, r, e, i, e', eg⟩ := tk_open h0 hl
  rw [slice_one x (a + 1) (a + 2) (by omega) (by omega), e'] at h'
  change isFigL (r.take 1) = false at h'
  rw [isFigL_take] at h'
  rw [i] at h
  change isFigL [c] = false at h
  rw [isFigL_one] at h
  rw [e]
  unfold numAt
  dsimp only
  rw [h, h']
  simp
theorem tkf_num (hn : numAt (suf x a) = true) : tokF (suf x a) = some ([(Str.ofString "number", ⟨(((suf x a).take (nNum (suf x a))).map up).toArray⟩)], nNum (suf x a)) := by
  cases e : suf x a with
  | nil => rw [e] at hn; cases hn
  | cons c r =>
    rw [e] at hn
    unfold tokF
    dsimp only
    rw [if_pos hn]
section
variable (h0 : 0 ≤ a) (hl : a < x.length) (hn : numAt (suf x a) = false)
include h0 hl hn
theorem tkf_word (h4 : isLetL (Txt.item x a).cps.toList = true) : tokF (suf x a) = some (wordF (suf x a)) := by
  obtain ⟨c, r, e, i, e', eg⟩ := tk_open h0 hl
  rw [i] at h4
  change isLetL [c] = true at h4
  rw [isLetL_one] at h4
  rw [e] at hn ⊢
  unfold tokF
  dsimp only
  rw [hn, if_neg (by decide), if_pos h4]
variable (h4 : isLetL (Txt.item x a).cps.toList = false)
include h4
theorem tkf_text (h5 : (Txt.item x a == Str.ofString "\"") = true) : tokF (suf x a) = some ([(Str.ofString "text", ⟨((suf x (a + 1)).take (nTxt (suf x (a + 1)))).toArray⟩)], nTxt (suf x (a + 1)) + 2) := by
  obtain ⟨c, r, e, i, e', eg⟩ := tk_open h0 hl
  rw [item_beq h0 hl 34 (Str.ofString "\"") (by decide), eg] at h5
  rw [i] at h4
  change isLetL [c] = false at h4
  rw [isLetL_one] at h4
  rw [e'] 
  rw [e] at hn ⊢
  unfold tokF
  dsimp only
  rw [hn, if_neg (by decide), h4, if_neg (by decide), if_pos h5]
variable (h5 : (Txt.item x a == Str.ofString "\"") = false)
include h5
theorem ord_item {b : Bool} (h6 : (Builtin.Str.occurrences (Str.ofString "<=>") (Txt.item x a) 0 (Str.ofString "<=>").length 1).isEmpty = b) : isOrd (x.cps.getD a.toNat 0) = !b := by
  rw [item_at x a h0 hl] at h6
  have := StrLaws.found_one (Str.ofString "<=>") (x.cps.getD a.toNat 0)
  rw [h6] at this
  rw [this, show (Str.ofString "<=>").cps.toList = [60, 61, 62] from by decide]
  unfold isOrd
  rw [Bool.eq_iff_iff]
  simp [or_assoc]
theorem sgn_item {b : Bool} (h6 : (Builtin.Str.occurrences (Str.ofString "+-*/\\^(),;:#&@") (Txt.item x a) 0 (Str.ofString "+-*/\\^(),;:#&@").length 1).isEmpty = b) : isSgn (x.cps.getD a.toNat 0) = !b := by
  rw [item_at x a h0 hl] at h6
  have := StrLaws.found_one (Str.ofString "+-*/\\^(),;:#&@") (x.cps.getD a.toNat 0)
  rw [h6] at this
  rw [this, show (Str.ofString "+-*/\\^(),;:#&@").cps.toList = sgnL from by decide]
  unfold isSgn
  rw [Bool.eq_iff_iff]
  simp
theorem tkf_ord (h6 : (Builtin.Str.occurrences (Str.ofString "<=>") (Txt.item x a) 0 (Str.ofString "<=>").length 1).isEmpty = false) : tokF (suf x a) = some ([(Str.ofString "sign", ⟨(ordT (suf x a)).1.toArray⟩)], (ordT (suf x a)).2) := by
  have h6' : isOrd (x.cps.getD a.toNat 0) = _ := ord_item h0 hl hn h4 h5 h6
  simp only [Bool.not_true, Bool.not_false] at h6'
  obtain ⟨c, r, e, i, e', eg⟩ := tk_open h0 hl
  rw [item_beq h0 hl 34 (Str.ofString "\"") (by decide), eg] at h5
  rw [eg] at h6'
  rw [i] at h4
  change isLetL [c] = false at h4
  rw [isLetL_one] at h4
  rw [e] at hn ⊢
  unfold tokF
  dsimp only
  rw [hn, if_neg (by decide), h4, if_neg (by decide), h5, if_neg (by decide), if_pos h6']
variable (h6 : (Builtin.Str.occurrences (Str.ofString "<=>") (Txt.item x a) 0 (Str.ofString "<=>").length 1).isEmpty = true)
include h6
theorem tkf_print (h7 : (Txt.item x a == Str.ofString "?") = true) : tokF (suf x a) = some ([(Str.ofString "word", Str.ofString "PRINT")], 1) := by
  have h6' : isOrd (x.cps.getD a.toNat 0) = _ := ord_item h0 hl hn h4 h5 h6
  simp only [Bool.not_true, Bool.not_false] at h6'
  obtain ⟨c, r, e, i, e', eg⟩ := tk_open h0 hl
  rw [item_beq h0 hl 34 (Str.ofString "\"") (by decide), eg] at h5
  rw [item_beq h0 hl 63 (Str.ofString "?") (by decide), eg] at h7
  rw [eg] at h6'
  rw [i] at h4
  change isLetL [c] = false at h4
  rw [isLetL_one] at h4
  rw [e] at hn ⊢
  unfold tokF
  dsimp only
  rw [hn, if_neg (by decide), h4, if_neg (by decide), h5, if_neg (by decide), h6', if_neg (by decide), if_pos h7]
variable (h7 : (Txt.item x a == Str.ofString "?") = false)
include h7
theorem tkf_rem (h8 : (Txt.item x a == Str.ofString "'") = true) : tokF (suf x a) = some ([(Str.ofString "rem", ⟨(remL (Txt.slice x (some (a + 1)) none).cps.toList).toArray⟩)], (suf x a).length) := by
  have h6' : isOrd (x.cps.getD a.toNat 0) = _ := ord_item h0 hl hn h4 h5 h6
  simp only [Bool.not_true, Bool.not_false] at h6'
  obtain ⟨c, r, e, i, e', eg⟩ := tk_open h0 hl
  rw [slice_sn x (a + 1) (by omega), e']
  rw [item_beq h0 hl 34 (Str.ofString "\"") (by decide), eg] at h5
  rw [item_beq h0 hl 63 (Str.ofString "?") (by decide), eg] at h7
  rw [item_beq h0 hl 39 (Str.ofString "'") (by decide), eg] at h8
  rw [eg] at h6'
  rw [i] at h4
  change isLetL [c] = false at h4
  rw [isLetL_one] at h4
  rw [e] at hn ⊢
  unfold tokF
  dsimp only
  rw [hn, if_neg (by decide), h4, if_neg (by decide), h5, if_neg (by decide), h6', if_neg (by decide), h7, if_neg (by decide), if_pos h8]
variable (h8 : (Txt.item x a == Str.ofString "'") = false)
include h8
theorem tkf_sign (h9 : (Builtin.Str.occurrences (Str.ofString "+-*/\\^(),;:#&@") (Txt.item x a) 0 (Str.ofString "+-*/\\^(),;:#&@").length 1).isEmpty = false) : tokF (suf x a) = some ([(Str.ofString "sign", Txt.item x a)], 1) := by
  have h6' : isOrd (x.cps.getD a.toNat 0) = _ := ord_item h0 hl hn h4 h5 h6
  simp only [Bool.not_true, Bool.not_false] at h6'
  have h9' : isSgn (x.cps.getD a.toNat 0) = _ := sgn_item h0 hl hn h4 h5 h9
  simp only [Bool.not_true, Bool.not_false] at h9'
  obtain ⟨c, r, e, i, e', eg⟩ := tk_open h0 hl
  rw [i]
  rw [item_beq h0 hl 34 (Str.ofString "\"") (by decide), eg] at h5
  rw [item_beq h0 hl 63 (Str.ofString "?") (by decide), eg] at h7
  rw [item_beq h0 hl 39 (Str.ofString "'") (by decide), eg] at h8
  rw [eg] at h6' h9'
  rw [i] at h4
  change isLetL [c] = false at h4
  rw [isLetL_one] at h4
  rw [e] at hn ⊢
  unfold tokF
  dsimp only
  rw [hn, if_neg (by decide), h4, if_neg (by decide), h5, if_neg (by decide), h6', if_neg (by decide), h7, if_neg (by decide), h8, if_neg (by decide), if_pos h9']
theorem tkf_none (h9 : (Builtin.Str.occurrences (Str.ofString "+-*/\\^(),;:#&@") (Txt.item x a) 0 (Str.ofString "+-*/\\^(),;:#&@").length 1).isEmpty = true) : tokF (suf x a) = none := by
  have h6' : isOrd (x.cps.getD a.toNat 0) = _ := ord_item h0 hl hn h4 h5 h6
  simp only [Bool.not_true, Bool.not_false] at h6'
  have h9' : isSgn (x.cps.getD a.toNat 0) = _ := sgn_item h0 hl hn h4 h5 h9
  simp only [Bool.not_true, Bool.not_false] at h9'
  obtain ⟨c, r, e, i, e', eg⟩ := tk_open h0 hl
  rw [item_beq h0 hl 34 (Str.ofString "\"") (by decide), eg] at h5
  rw [item_beq h0 hl 63 (Str.ofString "?") (by decide), eg] at h7
  rw [item_beq h0 hl 39 (Str.ofString "'") (by decide), eg] at h8
  rw [eg] at h6' h9'
  rw [i] at h4
  change isLetL [c] = false at h4
  rw [isLetL_one] at h4
  rw [e] at hn ⊢
  unfold tokF
  dsimp only
  rw [hn, if_neg (by decide), h4, if_neg (by decide), h5, if_neg (by decide), h6', if_neg (by decide), h7, if_neg (by decide), h8, if_neg (by decide), h9', if_neg (by decide)]
end
theorem tk_ok1 (ok : okTok (suf x a)) (hn : numAt (suf x a) = true) : okNum (suf x a) := by
  cases e : suf x a with
  | nil => rw [e] at hn; cases hn
  | cons c r => rw [e] at ok hn; exact ok.1 hn
theorem tk_ok2 (h0 : 0 ≤ a) (hl : a < x.length) (ok : okTok (suf x a)) (h5 : (Txt.item x a == Str.ofString "\"") = true) : 34 ∈ suf x (a + 1) := by
  obtain ⟨c, r, e, i, e', eg⟩ := tk_open h0 hl
  rw [item_beq h0 hl 34 (Str.ofString "\"") (by decide), eg] at h5
  rw [e] at ok
  rw [e']
  exact ok.2 (beq_iff_eq.mp h5)
end
end Mine
end
section
open PySem PySem.W PyProof.Rows
namespace Mine
def skipB (l : List Nat) : List Nat := l.drop (cnt isBl l)
inductive Run : List Nat → Option (List Tk) → Prop
  | nil : Run [] (some [])
  | stop {l : List Nat} : l ≠ [] → okTok l → tokF l = none → Run l none
  | step {l : List Nat} {ts : List Tk} {n : Nat} {R : Option (List Tk)} : l ≠ [] → okTok l → tokF l = some (ts, n) → 1 ≤ n → Run (skipB (l.drop n)) R → Run l (R.map (ts ++ ·))
theorem Run.ok {l : List Nat} {R : Option (List Tk)} (h : Run l R) (hl : l ≠ []) : okTok l := by
  cases h with
  | nil => exact absurd rfl hl
  | stop _ o _ => exact o
  | step _ o _ _ _ => exact o
theorem Run.none_of {l : List Nat} {R : Option (List Tk)} (h : Run l R) (hl : l ≠ []) (hn : tokF l = none) : R = none := by
  cases h with
  | nil => exact absurd rfl hl
  | stop _ _ _ => rfl
  | step _ _ e _ _ => rw [hn] at e; cases e
theorem Run.some_of {l : List Nat} {R : Option (List Tk)} (h : Run l R) (hl : l ≠ []) {p : List Tk × Nat} (hn : tokF l = some p) : 1 ≤ p.2 ∧ ∃ R', Run (skipB (l.drop p.2)) R' ∧ R = R'.map (p.1 ++ ·) := by
  cases h with
  | nil => exact absurd rfl hl
  | stop _ _ e => rw [hn] at e; cases e
  | step _ _ e h1 h2 => rw [hn] at e; cases e; exact ⟨h1, _, h2, rfl⟩
theorem Run.nil_of {R : Option (List Tk)} (h : Run [] R) : R = some [] := by
  cases h with
  | nil => rfl
  | stop z _ _ => exact absurd rfl z
  | step z _ _ _ _ => exact absurd rfl z
theorem len1 {α : Type} {a : α} {l : List α} (h : l = [a]) : 1 ≤ l.length ∧ l.length ≤ 2 := by subst h; exact ⟨Nat.le_refl 1, by show 1 ≤ 2; decide⟩
theorem len2 {α : Type} {a b : α} {l : List α} (h : l = [a, b]) : 1 ≤ l.length ∧ l.length ≤ 2 := by subst h; exact ⟨by show 1 ≤ 2; decide, Nat.le_refl 2⟩
theorem wordF_len (l : List Nat) : 1 ≤ (wordF l).1.length ∧ (wordF l).1.length ≤ 2 := by
  unfold wordF
  split
  · exact len1 rfl
  · split
    · exact len2 rfl
    · exact len1 rfl
theorem tokF_len {l : List Nat} {p : List Tk × Nat} (h : tokF l = some p) : 1 ≤ p.1.length ∧ p.1.length ≤ 2 := by
  cases l with
  | nil => cases h
  | cons c r =>
    unfold tokF at h
    dsimp only at h
    split at h
    · exact len1 (congrArg Prod.fst (Option.some.inj h)).symm
    split at h
    · rw [← Option.some.inj h]; exact wordF_len _
    split at h
    · exact len1 (congrArg Prod.fst (Option.some.inj h)).symm
    split at h
    · exact len1 (congrArg Prod.fst (Option.some.inj h)).symm
    split at h
    · exact len1 (congrArg Prod.fst (Option.some.inj h)).symm
    split at h
    · exact len1 (congrArg Prod.fst (Option.some.inj h)).symm
    split at h
    · exact len1 (congrArg Prod.fst (Option.some.inj h)).symm
    · cases h
section
variable {x : Str} {i j : Int} {n : Nat}
theorem suf_ne (h0 : 0 ≤ i) (hl : i < x.length) : suf x i ≠ [] := by rw [suf_cons h0 hl]; exact List.cons_ne_nil _ _
theorem suf_skip (h0 : 0 ≤ i) (hj : j = i + n + cnt isBl (suf x (i + n))) : suf x j = skipB ((suf x i).drop n) := by
  rw [hj, suf_add x (i + n) _ (by omega)]
  unfold skipB
  rw [suf_add x i n h0]
end
end Mine
end
section
open PySem PySem.W PyProof.Rows
namespace Mine
def OutTokAt (news : List (Addr × Obj)) (x : Str) (a : Int) (nw : List (Addr × Obj)) (r : Value) : Prop := ∃ p, tokF (suf x a) = some p ∧ OutToks news p.1 (a + p.2) nw r
theorem toksJ {news : List (Addr × Obj)} {k1 y1 : Str} {e e' : Int} {toks : List Tk} {D DL D1 DJ : Addr} {t1 t2 t3 t4 : Tok} {ej : Int} (h1 : ∀ p ∈ news, p.1 < D1) (h1' : D1 < DJ ∧ AllLt DJ news) (h2 : DJ < DL ∧ D1 < DL ∧ AllLt DL news) (h3 : DL < D ∧ DJ < D ∧ D1 < D ∧ AllLt D news)
    (he : e' = e) (ht : toks = [(k1, y1)]) :
    OutToks news toks e ((D, { cls := .type "tuple", data := .seq #[.ref DL, .int e' t3] }) :: (DL, W.listOf #[.ref D1] 0) :: (DJ, { cls := .type "tuple", data := .seq #[.ref D1, .int ej t4] }) :: (D1, { cls := .type "tuple", data := .seq #[.str k1 t1, .str y1 t2] }) :: news) (.ref D) := by
  subst he
  subst ht
  refine ⟨D, DL, [.ref D1], t3, [(DJ, { cls := .type "tuple", data := .seq #[.ref D1, .int ej t4] }), (D1, { cls := .type "tuple", data := .seq #[.str k1 t1, .str y1 t2] })], rfl,
    .cons (.tuple (vs := [.str k1 t1, .str y1 t2]) (n := 0) (.tail _ (.head _)) (.cons (.str _ _) (.cons (.str _ _) .nil))) .nil, ?_, ?_, h3.1, rfl⟩
  · intro q hq p hp
    rcases List.mem_cons.mp hp with rfl | hp
    · exact allLt_mem h1'.2 q hq
    · rw [List.mem_singleton.mp hp]
      exact h1 q hq
  · intro q hq
    rcases List.mem_cons.mp hq with rfl | hq
    · exact ⟨h2.1, h3.2.1⟩
    · rcases List.mem_cons.mp hq with rfl | hq
      · exact ⟨h2.2.1, h3.2.2.1⟩
      · exact ⟨allLt_mem h2.2.2 q hq, allLt_mem h3.2.2.2 q hq⟩
theorem tkf_rem' {x : Str} {a : Int} (h0 : 0 ≤ a) (hl : a < x.length) (hn : numAt (suf x a) = false) (h4 : isLetL (Txt.item x a).cps.toList = false) (h5 : (Txt.item x a == Str.ofString "\"") = false)
    (h6 : (Builtin.Str.occurrences (Str.ofString "<=>") (Txt.item x a) 0 (Str.ofString "<=>").length 1).isEmpty = true) (h7 : (Txt.item x a == Str.ofString "?") = false) (h8 : (Txt.item x a == Str.ofString "'") = true)
    {y : Str} (hy : y = ⟨(remL (Txt.slice x (some (a + 1)) none).cps.toList).toArray⟩) : tokF (suf x a) = some ([(Str.ofString "rem", y)], (suf x a).length) := by
  rw [hy]
  exact tkf_rem h0 hl hn h4 h5 h6 h7 h8
theorem rem_end {x : Str} {a : Int} (h0 : 0 ≤ a) (hl : a < x.length) : (x.length : Int) = a + ((suf x a).length : Int) := by
  rw [suf_len]
  omega
theorem one_end (a : Int) : a + 1 = a + ((1 : Nat) : Int) := rfl
theorem tTokAt (w : World) (news : List (Addr × Obj)) (x : Str) (a : Int) (t u : Tok) (hx : x.length ≤ 1000) (ha : 0 ≤ a) (hl : a < x.length) (ok : okTok (suf x a)) :
    Tel w 149 6 news [.str x t, .int a u] (OutTokAt news x a) (tokF (suf x a) = none) := by
  unfold Tel
  k_with_none
  k_with "m_open" => (
        refine wpAny_call ?_
        k_dflt ktr_enter)
  k_with "m_use" => (
        (case k1 => k_asm); (case k2 => k_asm); (case k3 => k_asm); (case k4 => k_asm); (case k5 => k_asm); (case kK => first | exact rfl | assumption); (case kd => first | omega | ktr_room); (case ku => first | omega | ktr_units))
  k_with "my call builtin:len" => (k_here; (with_reducible show wpAny _ _ (call (Value.builtin "len") [Value.str _ _]) _ _ _); refine len_str (by omega) ?_)
  k_with "m_scalar" => (
        k_extra "m_use"
        intro r9 nw9 h9 tk9 F9 N9 O9
        obtain ⟨e9, e9'⟩ := O9
        subst e9
        first | subst e9' | (obtain ⟨i9, t9, e9'', hv9⟩ := e9'; subst e9'')
        try dsimp only
        try k_fold)
  k_with "my call ref" => (
        k_here
        (with_reducible show wpAny _ _ (call (Value.ref 67) [Value.str _ _]) _ _ _)
        k_dflt (refine' use_tel (tIsFig _ _ _ _) ?k1 ?k2 ?k3 ?k4 ?k5 ?kK ?kd ?ku ?_ (fun _ _ _ _ z => False.elim z))
        k_extra "m_scalar")
  k_with "my call ref" => (
        k_here
        (with_reducible show wpAny _ _ (call (Value.ref 60) [Value.str _ _]) _ _ _)
        k_dflt (refine' use_tel (tIsLet _ _ _ _) ?k1 ?k2 ?k3 ?k4 ?k5 ?kK ?kd ?ku ?_ (fun _ _ _ _ z => False.elim z))
        k_extra "m_scalar")
  k_with "my call ref" => (
        k_here
        (with_reducible show wpAny _ _ (call (Value.ref 79) [Value.str _ _, Value.int _ _]) _ _ _)
        k_dflt (refine' use_tel (tFigEnd _ _ _ _ _ _ ?hx_99 ?ha_99) ?k1 ?k2 ?k3 ?k4 ?k5 ?kK ?kd ?ku ?_ (fun _ _ _ _ z => False.elim z))
        (case hx_99 => first | assumption | omega)
        (case ha_99 => omega)
        k_extra "m_scalar")
  k_with "my call ref" => (
        k_here
        (with_reducible show wpAny _ _ (call (Value.ref 86) [Value.str _ _, Value.int _ _]) _ _ _)
        k_dflt (refine' use_tel (tSkip _ _ _ _ _ _ ?hx_100 ?ha_100) ?k1 ?k2 ?k3 ?k4 ?k5 ?kK ?kd ?ku ?_ (fun _ _ _ _ z => False.elim z))
        (case hx_100 => first | assumption | omega)
        (case ha_100 => omega)
        k_extra "m_scalar")
  k_with "my call ref" => (
        k_here
        (with_reducible show wpAny _ _ (call (Value.ref 107) [Value.str _ _, Value.int _ _]) _ _ _)
        k_dflt (refine' use_tel (tNameEnd _ _ _ _ _ _ ?hx_101 ?ha_101) ?k1 ?k2 ?k3 ?k4 ?k5 ?kK ?kd ?ku ?_ (fun _ _ _ _ z => False.elim z))
        (case hx_101 => first | assumption | omega)
        (case ha_101 => omega)
        k_extra "m_scalar")
  k_with "my ite" => (k_here; first
        | with_reducible refine ite_tt ?_
        | with_reducible refine ite_ff ?_
        | with_reducible refine ite_True_then ?_
        | with_reducible refine ite_False_else ?_
        | (refine ite_pos (by with_reducible assumption) ?_)
        | (refine ite_neg (by with_reducible assumption) ?_)
        | (refine ite_isFalse (by with_reducible assumption) ?_)
        | with_reducible refine split_not ?_
        | (with_reducible refine split_ine ?_ ?_ <;> intro _)
        | (with_reducible refine split_ieq ?_ ?_ <;> intro _)
        | (refine split_dec ?_ ?_ <;> intro _)
        | (refine split_bool ?_ ?_ <;> intro _))
  k_with "my call ref" => (
        k_here
        (with_reducible show wpAny _ _ (call (Value.ref 72) [Value.str _ _]) _ _ _)
        k_dflt (refine' use_tel (tCapital _ _ _ _ ?hx_103) ?k1 ?k2 ?k3 ?k4 ?k5 ?kK ?kd ?ku ?_ (fun _ _ _ _ z => False.elim z))
        (case hx_103 => first | assumption | omega)
        k_extra "m_scalar")
  k_with "my call ref" => (
        k_here
        (with_reducible show wpAny _ _ (call (Value.ref 93) [Value.str _ _, Value.int _ _]) _ _ _)
        k_dflt (refine' use_tel (tPowEnd _ _ _ _ _ _ ?hx_104 ?ha_104 ?hok_104) ?k1 ?k2 ?k3 ?k4 ?k5 ?kK ?kd ?ku ?_ (fun _ _ _ _ z => False.elim z))
        (case hx_104 => first | assumption | omega)
        (case ha_104 => omega)
        (case hok_104 => k_extra "m_okPow")
        k_extra "m_scalar")
  k_with "my call ref" => (
        k_here
        (with_reducible show wpAny _ _ (call (Value.ref 128) [Value.str _ _, Value.int _ _]) _ _ _)
        k_dflt (refine' use_tel (tDataEnd _ _ _ _ _ _ ?hx_105 ?ha_105) ?k1 ?k2 ?k3 ?k4 ?k5 ?kK ?kd ?ku ?_ (fun _ _ _ _ z => False.elim z))
        (case hx_105 => first | assumption | omega)
        (case ha_105 => omega)
        k_extra "m_scalar")
  k_with "my call ref" => (
        k_here
        (with_reducible show wpAny _ _ (call (Value.ref 135) [Value.str _ _]) _ _ _)
        k_dflt (refine' use_tel (tRemark _ _ _ _ ?hx_106) ?k1 ?k2 ?k3 ?k4 ?k5 ?kK ?kd ?ku ?_ (fun _ _ _ _ z => False.elim z))
        (case hx_106 => first | assumption | omega)
        k_extra "m_scalar")
  k_with "my call ref" => (
        k_here
        (with_reducible show wpAny _ _ (call (Value.ref 53) [Value.str _ _]) _ _ _)
        k_dflt (refine' use_tel (tIsWord _ _ _ _) ?k1 ?k2 ?k3 ?k4 ?k5 ?kK ?kd ?ku ?_ (fun _ _ _ _ z => False.elim z))
        k_extra "m_scalar")
  k_with "m_toks" => (
        k_extra "m_use"
        intro r9 nw9 h9 tk9 F9 N9 O9
        obtain ⟨D9, DL9, vs9, t9, mid9, e9, A9, l9, l9', m9, e9'⟩ := O9
        subst e9
        subst e9'
        try dsimp only
        try k_fold)
  k_with "m_tok" => (
        k_extra "m_use"
        intro r9 nw9 h9 tk9 F9 N9 O9
        obtain ⟨D9, D9', t9, u9, v9, e9, l9, l9', e9'⟩ := O9
        subst e9
        subst e9'
        try dsimp only
        try k_fold)
  k_with "my call ref" => (
        k_here
        (with_reducible show wpAny _ _ (call (Value.ref 100) [Value.str _ _, Value.int _ _]) _ _ _)
        k_dflt (refine' use_tel (tNumber _ _ _ _ _ _ ?hx_110 ?ha_110 ?hl_110 ?hok_110) ?k1 ?k2 ?k3 ?k4 ?k5 ?kK ?kd ?ku ?_ (fun _ _ _ _ z => False.elim z))
        (case hx_110 => first | assumption | omega)
        (case ha_110 => omega)
        (case hl_110 => omega)
        (case hok_110 => k_extra "m_okNum")
        k_extra "m_tok")
  k_with "my call ref" => (
        k_here
        (with_reducible show wpAny _ _ (call (Value.ref 121) [Value.str _ _, Value.int _ _]) _ _ _)
        k_dflt (refine' use_tel (tOrder _ _ _ _ _ _ ?hx_111 ?ha_111 ?hl_111) ?k1 ?k2 ?k3 ?k4 ?k5 ?kK ?kd ?ku ?_ (fun _ _ _ _ z => False.elim z))
        (case hx_111 => first | assumption | omega)
        (case ha_111 => omega)
        (case hl_111 => omega)
        k_extra "m_tok")
  k_with "my call ref" => (
        k_here
        (with_reducible show wpAny _ _ (call (Value.ref 114) [Value.str _ _, Value.int _ _]) _ _ _)
        k_dflt (refine' use_tel (tText _ _ _ _ _ _ ?hx_112 ?ha_112 ?hok_112) ?k1 ?k2 ?k3 ?k4 ?k5 ?kK ?kd ?ku ?_ (fun _ _ _ _ z => False.elim z))
        (case hx_112 => first | assumption | omega)
        (case ha_112 => omega)
        (case hok_112 => k_extra "m_okTxt")
        k_extra "m_tok")
  k_with "my call ref" => (
        k_here
        (with_reducible show wpAny _ _ (call (Value.ref 142) [Value.str _ _, Value.int _ _]) _ _ _)
        k_dflt (refine' use_tel (tWordAt _ _ _ _ _ _ ?hx_113 ?ha_113 ?hl_113) ?k1 ?k2 ?k3 ?k4 ?k5 ?kK ?kd ?ku ?_ (fun _ _ _ _ z => False.elim z))
        (case hx_113 => first | assumption | omega)
        (case ha_113 => omega)
        (case hl_113 => omega)
        k_extra "m_toks")
  k_with "my call ref" => (
        k_here
        (with_reducible show wpAny _ _ (call (Value.ref 34) [Value.str _ _, Value.int _ _]) _ _ _)
        k_dflt (refine' use_tel (tExc _ _ _ _ _ _) ?k1 ?k2 ?k3 ?k4 ?k5 ?kK ?kd ?ku ?_ (fun _ _ _ _ z => False.elim z))
        k_extra "m_use"
        intro r9 nw9 h9 tk9 F9 N9 O9
        obtain ⟨e9, o9, t9, e9', e9'', c9, d9, l9⟩ := O9
        subst e9'
        subst e9''
        try dsimp only
        try k_fold)
  k_with "my exec Raise some none" => (
        k_here
        k_dflt (refine raise_own rfl ?_))
  k_with "m_okNum" => (
        rename okTok _ => okN
        first
        | exact tk_ok1 okN (tk_num1 (by with_reducible assumption) (by with_reducible assumption) (by with_reducible assumption))
        | exact tk_ok1 okN (tk_num2 (by with_reducible assumption) (by with_reducible assumption) (by with_reducible assumption) (by with_reducible assumption)))
  k_with "m_okTxt" => (
        rename okTok _ => okN
        exact tk_ok2 (by with_reducible assumption) (by with_reducible assumption) okN (by with_reducible assumption))
  k_with "m_nn" => first
        | exact tk_nn1 (by with_reducible assumption) (by with_reducible assumption) (by with_reducible assumption) (by with_reducible assumption)
        | exact tk_nn2 (by with_reducible assumption) (by with_reducible assumption) (by with_reducible assumption) (by with_reducible assumption)
  w_top off
  k_fill
  intro mean mg mb dp un gd cn cs ad ccd cl outer A₀ base h₀ L m s Q E B F X N T hk hd hu hret hthr
  k_extra "m_open"
  k_steps
  all_goals first
    | exact hret _ _ _ _ (by with_reducible assumption) (by with_reducible assumption) ⟨_, tkf_num (by first | exact tk_num1 (by with_reducible assumption) (by with_reducible assumption) (by with_reducible assumption) | exact tk_num2 (by with_reducible assumption) (by with_reducible assumption) (by with_reducible assumption) (by with_reducible assumption)), toksJ (by with_reducible assumption) (by with_reducible assumption) (by with_reducible assumption) (by with_reducible assumption) rfl rfl⟩
    | exact hret _ _ _ _ (by with_reducible assumption) (by with_reducible assumption) ⟨_, tkf_word ha hl (by k_extra "m_nn") (by with_reducible assumption), _, _, _, _, _, rfl, by with_reducible assumption, by with_reducible assumption, by with_reducible assumption, by with_reducible assumption, rfl⟩
    | exact hret _ _ _ _ (by with_reducible assumption) (by with_reducible assumption) ⟨_, tkf_text ha hl (by k_extra "m_nn") (by with_reducible assumption) (by with_reducible assumption), toksJ (by with_reducible assumption) (by with_reducible assumption) (by with_reducible assumption) (by with_reducible assumption) rfl rfl⟩
    | exact hret _ _ _ _ (by with_reducible assumption) (by with_reducible assumption) ⟨_, tkf_ord ha hl (by k_extra "m_nn") (by with_reducible assumption) (by with_reducible assumption) (by with_reducible assumption), toksJ (by with_reducible assumption) (by with_reducible assumption) (by with_reducible assumption) (by with_reducible assumption) rfl rfl⟩
    | exact hret _ _ _ _ (by with_reducible assumption) (by with_reducible assumption) ⟨_, tkf_print ha hl (by k_extra "m_nn") (by with_reducible assumption) (by with_reducible assumption) (by with_reducible assumption) (by with_reducible assumption), toks1 (by with_reducible assumption) (by with_reducible assumption) (by with_reducible assumption) (one_end a) rfl⟩
    | exact hret _ _ _ _ (by with_reducible assumption) (by with_reducible assumption) ⟨_, tkf_rem' ha hl (by k_extra "m_nn") (by with_reducible assumption) (by with_reducible assumption) (by with_reducible assumption) (by with_reducible assumption) (by with_reducible assumption) (by with_reducible assumption), toks1 (by with_reducible assumption) (by with_reducible assumption) (by with_reducible assumption) (rem_end ha hl) rfl⟩
    | exact hret _ _ _ _ (by with_reducible assumption) (by with_reducible assumption) ⟨_, tkf_sign ha hl (by k_extra "m_nn") (by with_reducible assumption) (by with_reducible assumption) (by with_reducible assumption) (by with_reducible assumption) (by with_reducible assumption) (by with_reducible assumption), toks1 (by with_reducible assumption) (by with_reducible assumption) (by with_reducible assumption) (one_end a) rfl⟩
    | skip
  all_goals
    refine ⟨_, _, _, rfl, by k_in, News.get (by assumption) (.head _), by assumption, by assumption, ?_⟩
    refine leave_own (by assumption) (by assumption) (by assumption) (by assumption) (by assumption) (by assumption) ?_
    intro h' R U
    exact hthr _ _ _ _ (tkf_none ha hl (by k_extra "m_nn") (by with_reducible assumption) (by with_reducible assumption) (by with_reducible assumption) (by with_reducible assumption) (by with_reducible assumption) (by with_reducible assumption)) (by assumption) R U
end Mine
end
section
open PySem PySem.W PyProof.Rows
namespace Mine
theorem thr_goal {α : Prop} {E : Value → Shared → Prop} {base : Heap} {news : List (Addr × Obj)} {h₀ : Heap} {L : Addr} {m : Str → Option Value} {l : List Env} {s : Shared} (k : ∀ e g h' tk', α → Fr h₀ L g m → RaisedSN base g l e (.ref 34) news h' → g.UpToSlots h' → E (.ref e) { s with heap := h', toks := tk' }) :
    ∀ e g h' tk', α → Fr h₀ L g m → RaisedSN base g l e (.ref 34) news h' → g.UpToSlots h' → E (.ref e) { s with heap := h', toks := tk' } := k
theorem tk_len {mid9 : List (Addr × Obj)} {vs9 : List Value} {l : List Nat} {p : List Tk × Nat} (A : DatAll mid9 vs9 (p.1.map tkD)) (tf : tokF l = some p) : 1 ≤ vs9.length ∧ vs9.length ≤ 2 := by
  have := tokF_len tf
  rw [A.length, List.length_map]
  exact this
theorem RaisedSN.less {base G : Heap} {l : List Env} {e : Addr} {cls : Value} {news news' : List (Addr × Obj)} {h : Heap} (R : RaisedSN base G l e cls news h) (hs : ∀ p ∈ news', p ∈ news) : RaisedSN base G l e cls news' h := by
  obtain ⟨B, a0, hB, hG, hl, hfl⟩ := R
  exact ⟨B, a0, hB, hG, fun q hq => hl q (hs q hq), hfl⟩
def OutList (news : List (Addr × Obj)) (ts : List Tk) (nw : List (Addr × Obj)) (r : Value) : Prop := ∃ (D : Addr) (vs : List Value) (c : Nat) (mid : List (Addr × Obj)),
  nw = mid ++ (D, W.listOf vs.toArray c) :: news ∧ DatAll mid vs (ts.map tkD) ∧ (∀ p ∈ mid, D < p.1) ∧ (∀ p ∈ news, p.1 < D) ∧ vs.length ≤ 600 ∧ r = .ref D
def TokInv (D : Addr) (x : Str) (m₀ : Str → Option Value) (tot : Option (List Tk)) (news : List (Addr × Obj)) (n : Nat) (m₁ : Str → Option Value) (news₁ : List (Addr × Obj)) : Prop :=
  ∃ (i : Int) (t1 : Tok) (o1 : Option Value) (vs : List Value) (c : Nat) (mid : List (Addr × Obj)) (toks : List Tk) (R : Option (List Tk)), 0 ≤ i ∧ n = x.length - i.toNat ∧
    m₁ = (fun y => if y = Str.ofString "at" then some (.int i t1) else if y = Str.ofString "told" then o1 else if y = Str.ofString "found" then some (.ref D) else m₀ y) ∧
    news₁ = mid ++ (D, W.listOf vs.toArray c) :: news ∧ DatAll mid vs (toks.map tkD) ∧ (∀ p ∈ mid, D < p.1) ∧ vs.length ≤ 2 * min i.toNat x.length ∧ Run (suf x i) R ∧ tot = R.map (toks ++ ·)
def TokStep (g : Heap) (L : Addr) (s : Shared) (D : Addr) (x : Str) (m₀ : Str → Option Value) (tot : Option (List Tk)) (news : List (Addr × Obj)) (n : Nat) (f : Flow) (s₃ : Shared) : Prop := WhileStep g L s (TokInv D x m₀ tot news) n f s₃
theorem While_toks {prog : Program} {w : World} {A : Around} {E : Value → Shared → Prop} {Q : Flow → Shared → Prop} {s : Shared} {env : Env} {g : Heap} {L D D' : Addr} {test : Expr} {body : List Stmt} {pos : Pos} {m₀ : Str → Option Value} {news : List (Addr × Obj)}
    {i₀ : Int} {t₀ : Tok} {x : Str} {tot : Option (List Tk)} {oj : Obj}
    (F : Fr g L s.heap (fun y => if y = Str.ofString "found" then some (.ref D) else if y = Str.ofString "at" then some (.int i₀ t₀) else m₀ y))
    (N : News g L s.heap ((D', oj) :: (D, W.listOf #[] 0) :: news)) (hD : D < D' ∧ AllLt D' news) (l : ∀ p ∈ news, p.1 < D) (h0 : i₀ = 0 + ((cnt isBl (suf x 0) : Nat) : Int)) (hR : Run (suf x (cnt isBl (suf x 0))) tot)
    (turn : ∀ h₁ tk₁ i t1 o1 vs c mid toks R, 0 ≤ i → Fr g L h₁ (fun y => if y = Str.ofString "at" then some (.int i t1) else if y = Str.ofString "told" then o1 else if y = Str.ofString "found" then some (.ref D) else m₀ y) →
      News g L h₁ (mid ++ (D, W.listOf vs.toArray c) :: news) → DatAll mid vs (toks.map tkD) → (∀ p ∈ mid, D < p.1) → (∀ p ∈ news, p.1 < D) → vs.length ≤ 2 * min i.toNat x.length → Run (suf x i) R → tot = R.map (toks ++ ·) →
      wpAny (model prog w) A (isTrue test env (eval test env)) (fun b s₂ =>
        if b = true then wpAny (model prog w) A (execs body env) (TokStep g L s D x m₀ tot news (x.length - i.toNat)) E s₂ else Q .next s₂) E { s with heap := h₁, toks := tk₁ })
    (hE : PassesOwn (model prog w) A env E := by passes_own) :
    wpAny (model prog w) A (exec (.While test body [] pos) env) Q E s := by
  refine While_inv (TokInv D x m₀ tot news) (n₀ := x.length - i₀.toNat) F N ⟨i₀, t₀, m₀ (Str.ofString "told"), [], 0, [(D', oj)], [], tot, by omega, rfl, ?_, rfl, .nil, ?_, Nat.zero_le _, ?_, ?_⟩ ?_ hE
  · funext y
    by_cases h1 : y = Str.ofString "at"
    · subst h1; rfl
    · by_cases h2 : y = Str.ofString "told"
      · subst h2; rfl
      · simp only [h1, h2, if_false]
  · intro p hp
    rw [List.mem_singleton.mp hp]
    exact hD.1
  · rw [h0, Int.zero_add]; exact hR
  · cases tot <;> rfl
  · rintro n m₁ news₁ h₁ tk₁ F₁ N₁ ⟨i, t1, o1, vs, c, mid, toks, R, hi, rfl, rfl, rfl, hA, hm, hv, hr, ht⟩
    exact turn h₁ tk₁ i t1 o1 vs c mid toks R hi F₁ N₁ hA hm l hv hr ht
theorem m_extend {prog : Program} {w : World} {A : Around} {E : Value → Shared → Prop} {s : Shared} {g : Heap} {L D D9 DL9 : Addr} {m : Str → Option Value} {news mid mid9 : List (Addr × Obj)} {o9 : Obj} {vs vs9 : List Value} {c : Nat} {Q : Value → Shared → Prop}
    (F : Fr g L s.heap m) (N : News g L s.heap ((D9, o9) :: (DL9, W.listOf vs9.toArray 0) :: (mid9 ++ (mid ++ (D, W.listOf vs.toArray c) :: news))))
    (l9 : ∀ q ∈ mid ++ (D, W.listOf vs.toArray c) :: news, ∀ p ∈ mid9, q.1 < p.1) (l9' : ∀ q ∈ mid9 ++ (mid ++ (D, W.listOf vs.toArray c) :: news), q.1 < DL9 ∧ q.1 < D9) (hm : ∀ p ∈ mid, D < p.1) (l : ∀ p ∈ news, p.1 < D)
    (h1 : vs9.length ≠ 0) (h2 : vs.length + vs9.length ≤ 1000)
    (h : ∀ h', Fr g L h' m → News g L h' (((D9, o9) :: (DL9, W.listOf vs9.toArray 0) :: (mid9 ++ mid)) ++ (D, W.listOf (vs ++ vs9).toArray (c + 1)) :: news) → (∀ p ∈ (D9, o9) :: (DL9, W.listOf vs9.toArray 0) :: (mid9 ++ mid), D < p.1) → Q .none { s with heap := h' }) :
    wpAny (model prog w) A (call (.builtin "list.extend") [.ref D, .ref DL9]) Q E s := by
  have hmm : ∀ p ∈ (D9, o9) :: (DL9, W.listOf vs9.toArray 0) :: (mid9 ++ mid), D < p.1 := by
    intro p hp
    have z := l9' (D, W.listOf vs.toArray c) (List.mem_append_right _ (List.mem_append_right _ (.head _)))
    rcases List.mem_cons.mp hp with rfl | hp
    · exact z.2
    · rcases List.mem_cons.mp hp with rfl | hp
      · exact z.1
      · rcases List.mem_append.mp hp with hp | hp
        · exact l9 _ (List.mem_append_right _ (.head _)) p hp
        · exact hm p hp
  have e : (D9, o9) :: (DL9, W.listOf vs9.toArray 0) :: (mid9 ++ (mid ++ (D, W.listOf vs.toArray c) :: news)) = ((D9, o9) :: (DL9, W.listOf vs9.toArray 0) :: (mid9 ++ mid)) ++ (D, W.listOf vs.toArray c) :: news := by
    simp
  rw [e] at N
  have z := N (D, W.listOf vs.toArray c) (List.mem_append.mpr (.inr (.head _)))
  have hb := N (DL9, W.listOf vs9.toArray 0) (List.mem_append.mpr (.inl (.tail _ (.head _))))
  have sz : sizeLine = 16777216 := sizeLine_eq
  refine call_meets PySem.F.slot_list_extend ⟨_, z.1, rfl⟩ PySem.F.entry_list_extend (PySem.F.args_list_extend_2 _ _) (PySem.AutoSeq1.list_extend_list_list_0 D vs.toArray c DL9 vs9.toArray 0 ?_ (by rw [List.size_toArray]; omega) (by rw [List.size_toArray, List.size_toArray]; omega))
    ⟨z.1, hb.1, h _ (F.change (Heap.SameBut.update ..) z.2.1 z.2.2) (kl_turn _ N (fun p hp => Nat.ne_of_gt (hmm p hp)) (fun p hp => Nat.ne_of_lt (l p hp)) ?_ ?_) hmm⟩
  · simp [Builtin.List.listTooLong]
    omega
  · apply Array.toList_inj.mp
    simp
  · simp at h1 ⊢
    exact h1
theorem step_out {g h' : Heap} {L D DL9 D9 : Addr} {s : Shared} {x : Str} {m₀ m₂ : Str → Option Value} {tot R : Option (List Tk)} {news mid mid9 : List (Addr × Obj)} {i j : Int} {tj : Tok} {tk : Nat} {toks : List Tk} {p : List Tk × Nat} {vs vs9 : List Value} {c : Nat} {o9 : Obj}
    (hi : 0 ≤ i) (hl : i < x.length) (tf : tokF (suf x i) = some p) (hr : Run (suf x i) R) (ht : tot = R.map (toks ++ ·)) (A : DatAll mid vs (toks.map tkD)) (A9 : DatAll mid9 vs9 (p.1.map tkD)) (hv : vs.length ≤ 2 * min i.toNat x.length)
    (hj : j = i + p.2 + cnt isBl (suf x (i + p.2))) (F : Fr g L h' m₂) (N : News g L h' (((D9, o9) :: (DL9, W.listOf vs9.toArray 0) :: (mid9 ++ mid)) ++ (D, W.listOf (vs ++ vs9).toArray (c + 1)) :: news))
    (hm2 : ∀ q ∈ (D9, o9) :: (DL9, W.listOf vs9.toArray 0) :: (mid9 ++ mid), D < q.1)
    (ha : m₂ (Str.ofString "at") = some (.int j tj)) (hf : m₂ (Str.ofString "found") = some (.ref D)) (hm : ∀ y, y ≠ Str.ofString "at" → y ≠ Str.ofString "told" → y ≠ Str.ofString "found" → m₂ y = m₀ y) :
    TokStep g L s D x m₀ tot news (x.length - i.toNat) .next { s with heap := h', toks := tk } := by
  obtain ⟨hp, R', hR', he⟩ := hr.some_of (suf_ne hi hl) tf
  have hlen := tk_len A9 tf
  refine WhileStep.intro (n' := x.length - j.toNat) F N (by omega) ⟨j, tj, m₂ (Str.ofString "told"), vs ++ vs9, c + 1, (D9, o9) :: (DL9, W.listOf vs9.toArray 0) :: (mid9 ++ mid), toks ++ p.1, R', by omega, rfl, ?_, rfl, ?_, hm2, ?_, ?_, ?_⟩
  · funext y
    by_cases h1 : y = Str.ofString "at"
    · subst h1; rw [if_pos rfl]; exact ha
    · rw [if_neg h1]
      by_cases h2 : y = Str.ofString "told"
      · subst h2; rw [if_pos rfl]
      · rw [if_neg h2]
        by_cases h3 : y = Str.ofString "found"
        · subst h3; rw [if_pos rfl]; exact hf
        · rw [if_neg h3]; exact hm y h1 h2 h3
  · rw [List.map_append]
    exact (A.mono fun q hq => .tail _ (.tail _ (List.mem_append_right _ hq))).append (A9.mono fun q hq => .tail _ (.tail _ (List.mem_append_left _ hq)))
  · rw [List.length_append]
    omega
  · rw [suf_skip hi hj]
    exact hR'
  · rw [ht, he]
    cases R' with
    | none => rfl
    | some l => simp
theorem tToksOf (w : World) (news : List (Addr × Obj)) (x : Str) (t : Tok) (hx : x.length ≤ 1000) {R : Option (List Tk)} (hR : Run (suf x (cnt isBl (suf x 0))) R) :
    Tel w 156 8 news [.str x t] (fun nw r => ∃ ts, x.length ≤ 255 ∧ R = some ts ∧ OutList news ts nw r) (255 < x.length ∨ R = none) := by
  unfold Tel
  k_with_none
  k_with "m_open" => (
        refine wpAny_call ?_
        k_dflt ktr_enter)
  k_with "m_use" => (
        (case k1 => k_asm); (case k2 => k_asm); (case k3 => k_asm); (case k4 => k_asm); (case k5 => k_asm); (case kK => first | exact rfl | assumption); (case kd => first | omega | ktr_room); (case ku => first | omega | ktr_units))
  k_with "my call builtin:len" => (k_here; (with_reducible show wpAny _ _ (call (Value.builtin "len") [Value.str _ _]) _ _ _); refine len_str (by omega) ?_)
  k_with "m_scalar" => (
        k_extra "m_use"
        intro r9 nw9 h9 tk9 F9 N9 O9
        obtain ⟨e9, e9'⟩ := O9
        subst e9
        first | subst e9' | (obtain ⟨i9, t9, e9'', hv9⟩ := e9'; subst e9'')
        try dsimp only
        try k_fold)
  k_with "my call ref" => (
        k_here
        (with_reducible show wpAny _ _ (call (Value.ref 67) [Value.str _ _]) _ _ _)
        k_dflt (refine' use_tel (tIsFig _ _ _ _) ?k1 ?k2 ?k3 ?k4 ?k5 ?kK ?kd ?ku ?_ (fun _ _ _ _ z => False.elim z))
        k_extra "m_scalar")
  k_with "my call ref" => (
        k_here
        (with_reducible show wpAny _ _ (call (Value.ref 60) [Value.str _ _]) _ _ _)
        k_dflt (refine' use_tel (tIsLet _ _ _ _) ?k1 ?k2 ?k3 ?k4 ?k5 ?kK ?kd ?ku ?_ (fun _ _ _ _ z => False.elim z))
        k_extra "m_scalar")
  k_with "my call ref" => (
        k_here
        (with_reducible show wpAny _ _ (call (Value.ref 79) [Value.str _ _, Value.int _ _]) _ _ _)
        k_dflt (refine' use_tel (tFigEnd _ _ _ _ _ _ ?hx_125 ?ha_125) ?k1 ?k2 ?k3 ?k4 ?k5 ?kK ?kd ?ku ?_ (fun _ _ _ _ z => False.elim z))
        (case hx_125 => first | assumption | omega)
        (case ha_125 => omega)
        k_extra "m_scalar")
  k_with "my call ref" => (
        k_here
        (with_reducible show wpAny _ _ (call (Value.ref 86) [Value.str _ _, Value.int _ _]) _ _ _)
        k_dflt (refine' use_tel (tSkip _ _ _ _ _ _ ?hx_126 ?ha_126) ?k1 ?k2 ?k3 ?k4 ?k5 ?kK ?kd ?ku ?_ (fun _ _ _ _ z => False.elim z))
        (case hx_126 => first | assumption | omega)
        (case ha_126 => omega)
        k_extra "m_scalar")
  k_with "my call ref" => (
        k_here
        (with_reducible show wpAny _ _ (call (Value.ref 107) [Value.str _ _, Value.int _ _]) _ _ _)
        k_dflt (refine' use_tel (tNameEnd _ _ _ _ _ _ ?hx_127 ?ha_127) ?k1 ?k2 ?k3 ?k4 ?k5 ?kK ?kd ?ku ?_ (fun _ _ _ _ z => False.elim z))
        (case hx_127 => first | assumption | omega)
        (case ha_127 => omega)
        k_extra "m_scalar")
  k_with "my ite" => (k_here; first
        | with_reducible refine ite_tt ?_
        | with_reducible refine ite_ff ?_
        | with_reducible refine ite_True_then ?_
        | with_reducible refine ite_False_else ?_
        | (refine ite_pos (by with_reducible assumption) ?_)
        | (refine ite_neg (by with_reducible assumption) ?_)
        | (refine ite_isFalse (by with_reducible assumption) ?_)
        | with_reducible refine split_not ?_
        | (with_reducible refine split_ine ?_ ?_ <;> intro _)
        | (with_reducible refine split_ieq ?_ ?_ <;> intro _)
        | (refine split_dec ?_ ?_ <;> intro _)
        | (refine split_bool ?_ ?_ <;> intro _))
  k_with "my call ref" => (
        k_here
        (with_reducible show wpAny _ _ (call (Value.ref 72) [Value.str _ _]) _ _ _)
        k_dflt (refine' use_tel (tCapital _ _ _ _ ?hx_129) ?k1 ?k2 ?k3 ?k4 ?k5 ?kK ?kd ?ku ?_ (fun _ _ _ _ z => False.elim z))
        (case hx_129 => first | assumption | omega)
        k_extra "m_scalar")
  k_with "my call ref" => (
        k_here
        (with_reducible show wpAny _ _ (call (Value.ref 93) [Value.str _ _, Value.int _ _]) _ _ _)
        k_dflt (refine' use_tel (tPowEnd _ _ _ _ _ _ ?hx_130 ?ha_130 ?hok_130) ?k1 ?k2 ?k3 ?k4 ?k5 ?kK ?kd ?ku ?_ (fun _ _ _ _ z => False.elim z))
        (case hx_130 => first | assumption | omega)
        (case ha_130 => omega)
        (case hok_130 => k_extra "m_okPow")
        k_extra "m_scalar")
  k_with "my call ref" => (
        k_here
        (with_reducible show wpAny _ _ (call (Value.ref 128) [Value.str _ _, Value.int _ _]) _ _ _)
        k_dflt (refine' use_tel (tDataEnd _ _ _ _ _ _ ?hx_131 ?ha_131) ?k1 ?k2 ?k3 ?k4 ?k5 ?kK ?kd ?ku ?_ (fun _ _ _ _ z => False.elim z))
        (case hx_131 => first | assumption | omega)
        (case ha_131 => omega)
        k_extra "m_scalar")
  k_with "my call ref" => (
        k_here
        (with_reducible show wpAny _ _ (call (Value.ref 135) [Value.str _ _]) _ _ _)
        k_dflt (refine' use_tel (tRemark _ _ _ _ ?hx_132) ?k1 ?k2 ?k3 ?k4 ?k5 ?kK ?kd ?ku ?_ (fun _ _ _ _ z => False.elim z))
        (case hx_132 => first | assumption | omega)
        k_extra "m_scalar")
  k_with "my call ref" => (
        k_here
        (with_reducible show wpAny _ _ (call (Value.ref 53) [Value.str _ _]) _ _ _)
        k_dflt (refine' use_tel (tIsWord _ _ _ _) ?k1 ?k2 ?k3 ?k4 ?k5 ?kK ?kd ?ku ?_ (fun _ _ _ _ z => False.elim z))
        k_extra "m_scalar")
  k_with "m_toks" => (
        k_extra "m_use"
        intro r9 nw9 h9 tk9 F9 N9 O9
        obtain ⟨D9, DL9, vs9, t9, mid9, e9, A9, l9, l9', m9, e9'⟩ := O9
        subst e9
        subst e9'
        try dsimp only
        try k_fold)
  k_with "m_tok" => (
        k_extra "m_use"
        intro r9 nw9 h9 tk9 F9 N9 O9
        obtain ⟨D9, D9', t9, u9, v9, e9, l9, l9', e9'⟩ := O9
        subst e9
        subst e9'
        try dsimp only
        try k_fold)
  k_with "my call ref" => (
        k_here
        (with_reducible show wpAny _ _ (call (Value.ref 34) [Value.str _ _, Value.int _ _]) _ _ _)
        k_dflt (refine' use_tel (tExc _ _ _ _ _ _) ?k1 ?k2 ?k3 ?k4 ?k5 ?kK ?kd ?ku ?_ (fun _ _ _ _ z => False.elim z))
        k_extra "m_use"
        intro r9 nw9 h9 tk9 F9 N9 O9
        obtain ⟨e9, o9, t9, e9', e9'', c9, d9, l9⟩ := O9
        subst e9'
        subst e9''
        try dsimp only
        try k_fold)
  k_with "my exec Raise some none" => (
        k_here
        k_dflt (refine raise_own rfl ?_))
  k_with "m_tokat" => (
        k_extra "m_use"
        intro r9 nw9 h9 tk9 F9 N9 O9
        obtain ⟨p9, tf9, O9⟩ := O9
        obtain ⟨D9, DL9, vs9, t9, mid9, e9, A9, l9, l9', m9, e9'⟩ := O9
        subst e9
        subst e9'
        try dsimp only
        try k_fold)
  k_with "my call ref" => (
        k_here
        (with_reducible show wpAny _ _ (call (Value.ref 149) [Value.str _ _, Value.int _ _]) _ _ _)
        k_dflt (refine' use_tel (tTokAt _ _ _ _ _ _ ?hx_139 ?ha_139 ?hl_139 ?hok_139) ?k1 ?k2 ?k3 ?k4 ?k5 ?kK ?kd ?ku ?_ ?hthr_139)
        (case hx_139 => first | assumption | omega)
        (case ha_139 => omega)
        (case hl_139 => omega)
        (case hok_139 => k_extra "m_okTok")
        k_extra "m_tokat")
  k_with "m_okTok" => (
        rename Run _ _ => hrun
        exact hrun.ok (suf_ne (by assumption) (by assumption)))
  k_with "my getMethod ref" => (k_here; (with_reducible show wpAny _ _ (getMethod (Value.ref _) (PySem.Str.ofString "extend") _) _ _ _); k_dflt (refine' kl_method ?N_141 ?m_141 PySem.F.slot_list_extend PySem.F.type_list_extend ?_; (case N_141 => k_asm); (case m_141 => exact .tail _ (.tail _ (List.mem_append_right _ (List.mem_append_right _ (.head _)))))))
  k_with "my call builtin:list.extend" => (k_here; (with_reducible show wpAny _ _ (call (Value.builtin _) [Value.ref _, Value.ref _]) _ _ _); k_dflt (refine' m_extend ?F_142 ?N_142 ?l_142 ?lq_142 ?hm_142 ?hn_142 ?h1_142 ?h2_142 ?_; (case F_142 => k_asm); (case N_142 => k_asm); (case l_142 => assumption); (case lq_142 => assumption); (case hm_142 => assumption); (case hn_142 => assumption); (case h1_142 => k_extra "m_len1"); (case h2_142 => k_extra "m_len2")); intro h9 F9 N9 l9)
  k_with "m_len1" => (
        rename DatAll _ _ _ => aA
        rename tokF _ = some _ => aT
        have aL := tk_len aA aT
        omega)
  k_with "m_len2" => (
        rename DatAll _ _ _ => aA
        rename tokF _ = some _ => aT
        have aL := tk_len aA aT
        omega)
  w_top off
  k_fill
  intro mean mg mb dp un gd cn cs ad ccd cl outer A₀ base h₀ L m s Q E B F X N T hk hd hu hret hthr
  k_extra "m_open"
  k_with "exec While Compare cons nil" => (k_dflt (refine While_toks (x := _) (by assumption) (by assumption) (by assumption) (by assumption) (by assumption) (by assumption) ?_); intro hh ktk i9 t9 o9 vs9 c9 mid9 toks9 R9 hi9 F9 N9 A9 l9 l9' hv9 hr9 ht9)
  k_steps
  · refine ⟨_, _, _, rfl, by k_in, News.get (by assumption) (.head _), by assumption, by assumption, ?_⟩
    refine leave_own (by assumption) (by assumption) (by assumption) (by assumption) (by assumption) (by assumption) ?_
    intro h' R U
    exact hthr _ _ _ _ (.inl (by omega)) (by assumption) R U
  · refine step_out (by assumption) (by assumption) (by assumption) (by assumption) (by assumption) (by assumption) (by assumption) (by assumption) (by assumption) (by assumption) (by assumption) (by assumption) rfl rfl ?_
    intro y h1 h2 h3
    simp only [h1, h2, h3, if_false]
  · refine leave_onSN (by assumption) (by assumption) (by assumption) (by assumption) ?_
    intro h' R' _ U'
    exact hthr _ _ _ _ (.inr (by rw [ht9, hr9.none_of (suf_ne (by assumption) (by assumption)) (by assumption)]; rfl)) (by assumption) (Mine.RaisedSN.less R' fun q hq => List.mem_append_right _ (.tail _ hq)) U'
  · have hn : suf x i9 = [] := suf_nil (by omega)
    rw [hn] at hr9
    exact hret _ _ _ _ (by assumption) (by assumption) ⟨toks9, by omega, by rw [ht9, hr9.nil_of]; show some (toks9 ++ []) = _; rw [List.append_nil], _, vs9, c9, mid9, rfl, by assumption, by assumption, by assumption, by omega, rfl⟩
end Mine
end
section
open PySem PySem.W PyProof.Rows
namespace Mine
def tokO (k y : Str) (t1 t2 : Tok) (n : Nat) : Obj := { cls := .type "tuple", data := .seq #[.str k t1, .str y t2] n }
def tkText (k y : Str) : Str := if (k == Str.ofString "text") = true then Str.ofString "\"" ++ y ++ Str.ofString "\"" else if (k == Str.ofString "rem") = true then (if (y != Str.ofString "") = true then Str.ofString "REM " ++ y else Str.ofString "REM") else y
def isLike (k : Str) : Bool := [Str.ofString "word", Str.ofString "name", Str.ofString "number"].any (· == k)
theorem like_in {prog : Program} {w : World} {A : Around} {E : Value → Shared → Prop} {s : Shared} {h₀ : Heap} {L : Addr} {m : Str → Option Value} {x : Str} {u : Tok} {Q : Value → Shared → Prop} (F : Fr h₀ L s.heap m) (X : (hd.heap_39 w.params).In h₀)
    (h : Q (.bool (isLike x)) s) : wpAny (model prog w) A (compareOp .In (.str x u) (.ref 39)) Q E s := by
  obtain ⟨l, n, dd, sl, e, hs⟩ : ∃ l n dd sl, (hd.heap_39 w.params).lookup 39 = some ⟨.type "tuple", dd, .seq l.toArray n, sl⟩ ∧ StrsAre l [Str.ofString "word", Str.ofString "name", Str.ofString "number"] := ⟨[_, _, _], _, _, _, rfl, by repeat constructor⟩
  exact in_tuple_strs (tupK (X.keeps F.keep) e) hs h
theorem tText1 (w : World) (news : List (Addr × Obj)) (a : Addr) (k y : Str) (t1 t2 : Tok) (n : Nat) (hy : y.length ≤ 1000) :
    Tel w 163 3 ((a, { cls := .type "tuple", data := .seq #[.str k t1, .str y t2] n }) :: news) [.ref a] (OutS ((a, { cls := .type "tuple", data := .seq #[.str k t1, .str y t2] n }) :: news) (tkText k y)) False := by
  unfold Tel
  k_with_none
  k_with "m_open" => (
        refine wpAny_call ?_
        k_dflt ktr_enter)
  k_with "m_use" => (
        (case k1 => k_asm); (case k2 => k_asm); (case k3 => k_asm); (case k4 => k_asm); (case k5 => k_asm); (case kK => first | exact rfl | assumption); (case kd => first | omega | ktr_room); (case ku => first | omega | ktr_units))
  k_with "my call builtin:len" => (k_here; (with_reducible show wpAny _ _ (call (Value.builtin "len") [Value.str _ _]) _ _ _); refine len_str (by omega) ?_)
  k_with "m_scalar" => (
        k_extra "m_use"
        intro r9 nw9 h9 tk9 F9 N9 O9
        obtain ⟨e9, e9'⟩ := O9
        subst e9
        first | subst e9' | (obtain ⟨i9, t9, e9'', hv9⟩ := e9'; subst e9'')
        try dsimp only
        try k_fold)
  k_with "my call ref" => (
        k_here
        (with_reducible show wpAny _ _ (call (Value.ref 67) [Value.str _ _]) _ _ _)
        k_dflt (refine' use_tel (tIsFig _ _ _ _) ?k1 ?k2 ?k3 ?k4 ?k5 ?kK ?kd ?ku ?_ (fun _ _ _ _ z => False.elim z))
        k_extra "m_scalar")
  k_with "my call ref" => (
        k_here
        (with_reducible show wpAny _ _ (call (Value.ref 60) [Value.str _ _]) _ _ _)
        k_dflt (refine' use_tel (tIsLet _ _ _ _) ?k1 ?k2 ?k3 ?k4 ?k5 ?kK ?kd ?ku ?_ (fun _ _ _ _ z => False.elim z))
        k_extra "m_scalar")
  k_with "my call ref" => (
        k_here
        (with_reducible show wpAny _ _ (call (Value.ref 79) [Value.str _ _, Value.int _ _]) _ _ _)
        k_dflt (refine' use_tel (tFigEnd _ _ _ _ _ _ ?hx_151 ?ha_151) ?k1 ?k2 ?k3 ?k4 ?k5 ?kK ?kd ?ku ?_ (fun _ _ _ _ z => False.elim z))
        (case hx_151 => first | assumption | omega)
        (case ha_151 => omega)
        k_extra "m_scalar")
  k_with "my call ref" => (
        k_here
        (with_reducible show wpAny _ _ (call (Value.ref 86) [Value.str _ _, Value.int _ _]) _ _ _)
        k_dflt (refine' use_tel (tSkip _ _ _ _ _ _ ?hx_152 ?ha_152) ?k1 ?k2 ?k3 ?k4 ?k5 ?kK ?kd ?ku ?_ (fun _ _ _ _ z => False.elim z))
        (case hx_152 => first | assumption | omega)
        (case ha_152 => omega)
        k_extra "m_scalar")
  k_with "my call ref" => (
        k_here
        (with_reducible show wpAny _ _ (call (Value.ref 107) [Value.str _ _, Value.int _ _]) _ _ _)
        k_dflt (refine' use_tel (tNameEnd _ _ _ _ _ _ ?hx_153 ?ha_153) ?k1 ?k2 ?k3 ?k4 ?k5 ?kK ?kd ?ku ?_ (fun _ _ _ _ z => False.elim z))
        (case hx_153 => first | assumption | omega)
        (case ha_153 => omega)
        k_extra "m_scalar")
  k_with "my ite" => (k_here; first
        | with_reducible refine ite_tt ?_
        | with_reducible refine ite_ff ?_
        | with_reducible refine ite_True_then ?_
        | with_reducible refine ite_False_else ?_
        | (refine ite_pos (by with_reducible assumption) ?_)
        | (refine ite_neg (by with_reducible assumption) ?_)
        | (refine ite_isFalse (by with_reducible assumption) ?_)
        | with_reducible refine split_not ?_
        | (with_reducible refine split_ine ?_ ?_ <;> intro _)
        | (with_reducible refine split_ieq ?_ ?_ <;> intro _)
        | (refine split_dec ?_ ?_ <;> intro _)
        | (refine split_bool ?_ ?_ <;> intro _))
  k_with "my call ref" => (
        k_here
        (with_reducible show wpAny _ _ (call (Value.ref 72) [Value.str _ _]) _ _ _)
        k_dflt (refine' use_tel (tCapital _ _ _ _ ?hx_155) ?k1 ?k2 ?k3 ?k4 ?k5 ?kK ?kd ?ku ?_ (fun _ _ _ _ z => False.elim z))
        (case hx_155 => first | assumption | omega)
        k_extra "m_scalar")
  k_with "my call ref" => (
        k_here
        (with_reducible show wpAny _ _ (call (Value.ref 93) [Value.str _ _, Value.int _ _]) _ _ _)
        k_dflt (refine' use_tel (tPowEnd _ _ _ _ _ _ ?hx_156 ?ha_156 ?hok_156) ?k1 ?k2 ?k3 ?k4 ?k5 ?kK ?kd ?ku ?_ (fun _ _ _ _ z => False.elim z))
        (case hx_156 => first | assumption | omega)
        (case ha_156 => omega)
        (case hok_156 => k_extra "m_okPow")
        k_extra "m_scalar")
  k_with "my call ref" => (
        k_here
        (with_reducible show wpAny _ _ (call (Value.ref 128) [Value.str _ _, Value.int _ _]) _ _ _)
        k_dflt (refine' use_tel (tDataEnd _ _ _ _ _ _ ?hx_157 ?ha_157) ?k1 ?k2 ?k3 ?k4 ?k5 ?kK ?kd ?ku ?_ (fun _ _ _ _ z => False.elim z))
        (case hx_157 => first | assumption | omega)
        (case ha_157 => omega)
        k_extra "m_scalar")
  k_with "my call ref" => (
        k_here
        (with_reducible show wpAny _ _ (call (Value.ref 135) [Value.str _ _]) _ _ _)
        k_dflt (refine' use_tel (tRemark _ _ _ _ ?hx_158) ?k1 ?k2 ?k3 ?k4 ?k5 ?kK ?kd ?ku ?_ (fun _ _ _ _ z => False.elim z))
        (case hx_158 => first | assumption | omega)
        k_extra "m_scalar")
  k_with "my call ref" => (
        k_here
        (with_reducible show wpAny _ _ (call (Value.ref 53) [Value.str _ _]) _ _ _)
        k_dflt (refine' use_tel (tIsWord _ _ _ _) ?k1 ?k2 ?k3 ?k4 ?k5 ?kK ?kd ?ku ?_ (fun _ _ _ _ z => False.elim z))
        k_extra "m_scalar")
  k_with "my compareOp In str ref" => (k_here; (with_reducible show wpAny _ _ (compareOp CmpOp.In (Value.str _ _) (Value.ref 39)) _ _ _); k_dflt (refine like_in (by k_asm) (by k_asm) ?_))
  w_top off
  k_fill
  intro mean mg mb dp un gd cn cs ad ccd cl outer A₀ base h₀ L m s Q E B F X N T hk hd hu hret hthr
  k_extra "m_open"
  k_steps
  · exact hret _ _ _ _ (by with_reducible assumption) (by with_reducible assumption) ⟨rfl, _, _, rfl, by unfold tkText; rw [if_pos (by assumption)]⟩
  · exact hret _ _ _ _ (by with_reducible assumption) (by with_reducible assumption) ⟨rfl, _, _, rfl, by unfold tkText; rw [if_neg (ne_true_of_eq_false (by assumption)), if_pos (by assumption), if_pos (by assumption)]⟩
  · exact hret _ _ _ _ (by with_reducible assumption) (by with_reducible assumption) ⟨rfl, _, _, rfl, by unfold tkText; rw [if_neg (ne_true_of_eq_false (by assumption)), if_pos (by assumption), if_neg (ne_true_of_eq_false (by assumption))]⟩
  · exact hret _ _ _ _ (by with_reducible assumption) (by with_reducible assumption) ⟨rfl, _, _, rfl, by unfold tkText; rw [if_neg (ne_true_of_eq_false (by assumption)), if_neg (ne_true_of_eq_false (by assumption))]⟩
section
variable {prog : Program} {w : World} {A : Around} {E : Value → Shared → Prop} {s : Shared} {h₀ : Heap} {L : Addr} {news n₁ n₂ : List (Addr × Obj)} {Q : Value → Shared → Prop} {v u : Value} {d e : Dat}
open PyProof.V PySem.Spec
open Classical in
theorem dat_eqv (o1 : kqdOk 8 d = true) (o2 : kqdOk 8 e = true) : PyData.eqv (kqdP d) (kqdP e) = decide (d = e) := by
  have q := kqd_eqv 8 d e 8 o1 o2
  by_cases hq : d = e
  · rw [decide_eq_true hq]; exact q.mpr hq
  · rw [decide_eq_false hq]; exact Bool.eq_false_iff.mpr fun x => hq (q.mp x)
theorem dat_sh (o1 : kqdOk 8 d = true) : SeqAt.shaped (kqdP d) = true := by
  have la := kqd_lay 8 d o1
  unfold SeqAt.shaped; rw [la.1, Bool.true_and]; exact decide_eq_true (Nat.le_trans la.2 (by decide))
open Classical in
theorem dat_eq (N : News h₀ L s.heap news) (Dv : DatIn news v d) (Du : DatIn news u e) (o1 : kqdOk 8 d = true) (o2 : kqdOk 8 e = true) (hu : A.units + 64 < cLine) (h : Q (.bool (decide (d = e))) s) : wpAny (model prog w) A (compareOp .Eq v u) Q E s := by
  obtain ⟨as, ra⟩ := kqd_in N 8 Dv o1
  obtain ⟨bs, rb⟩ := kqd_in N 8 Du o2
  exact eq_dataH ra rb (dat_sh o1) (dat_sh o2) hu (by rw [dat_eqv o1 o2]; exact h)
open Classical in
theorem dat_ne (N : News h₀ L s.heap news) (Dv : DatIn news v d) (Du : DatIn news u e) (o1 : kqdOk 8 d = true) (o2 : kqdOk 8 e = true) (hu : A.units + 64 < cLine) (h : Q (.bool (!decide (d = e))) s) : wpAny (model prog w) A (compareOp .NotEq v u) Q E s := by
  obtain ⟨as, ra⟩ := kqd_in N 8 Dv o1
  obtain ⟨bs, rb⟩ := kqd_in N 8 Du o2
  exact ne_dataH ra rb (dat_sh o1) (dat_sh o2) hu (by rw [dat_eqv o1 o2]; exact h)
variable {a b : Addr} {k y k' y' : Str} {t1 t2 t3 t4 : Tok} {n n' : Nat}
open Classical in
theorem tk_dec : decide (Dat.tuple [.str k, .str y] = Dat.tuple [.str k', .str y']) = (k == k' && y == y') := by
  rw [Bool.eq_iff_iff]
  simp
theorem tok_in (m : (a, ({ cls := .type "tuple", data := .seq #[.str k t1, .str y t2] n } : Obj)) ∈ news) : DatIn news (.ref a) (.tuple [.str k, .str y]) := .tuple (vs := [.str k t1, .str y t2]) m (.cons (.str _ _) (.cons (.str _ _) .nil))
theorem tok_ok (h1 : PyData.strOk k = true) (h2 : PyData.strOk y = true) : kqdOk 8 (.tuple [.str k, .str y]) = true := by
  simp [kqdOk, h1, h2]
theorem tok_eq (N : News h₀ L s.heap news) (ma : (a, ({ cls := .type "tuple", data := .seq #[.str k t1, .str y t2] n } : Obj)) ∈ news) (mb : (b, ({ cls := .type "tuple", data := .seq #[.str k' t3, .str y' t4] n' } : Obj)) ∈ news)
    (h1 : PyData.strOk k = true) (h2 : PyData.strOk y = true) (h3 : PyData.strOk k' = true) (h4 : PyData.strOk y' = true) (hu : A.units + 64 < cLine) (h : Q (.bool (k == k' && y == y')) s) : wpAny (model prog w) A (compareOp .Eq (.ref a) (.ref b)) Q E s :=
  dat_eq N (tok_in ma) (tok_in mb) (tok_ok h1 h2) (tok_ok h3 h4) hu (by rw [tk_dec]; exact h)
theorem tok_ne (N : News h₀ L s.heap news) (ma : (a, ({ cls := .type "tuple", data := .seq #[.str k t1, .str y t2] n } : Obj)) ∈ news) (mb : (b, ({ cls := .type "tuple", data := .seq #[.str k' t3, .str y' t4] n' } : Obj)) ∈ news)
    (h1 : PyData.strOk k = true) (h2 : PyData.strOk y = true) (h3 : PyData.strOk k' = true) (h4 : PyData.strOk y' = true) (hu : A.units + 64 < cLine) (h : Q (.bool (!(k == k' && y == y'))) s) : wpAny (model prog w) A (compareOp .NotEq (.ref a) (.ref b)) Q E s :=
  dat_ne N (tok_in ma) (tok_in mb) (tok_ok h1 h2) (tok_ok h3 h4) hu (by rw [tk_dec]; exact h)
end
def nbF (k y k' : Str) : Bool := (isLike k && isLike k') || (([Str.ofString "rem", Str.ofString "raw"].any fun x => x == k') || (k == Str.ofString "word" && k' == Str.ofString "text")) || ((k == Str.ofString "sign" && y == Str.ofString ":") || (k' == Str.ofString "word" && !(k == Str.ofString "sign" && y == Str.ofString "(")))
theorem nb_and1 {p q : Bool} (h : p = false) : (p && q) = false := by subst h; rfl
theorem nb_and2 {p q : Bool} (h : q = false) : (p && q) = false := by subst h; cases p <;> rfl
section
variable {k y k' : Str}
theorem nb1 (h : isLike k = true) (h' : isLike k' = true) : true = nbF k y k' := by unfold nbF; rw [h, h']; rfl
theorem nb2 (h : ([Str.ofString "rem", Str.ofString "raw"].any fun x => x == k') = true) : true = nbF k y k' := by unfold nbF; rw [h]; simp
theorem nb3 (h : (k == Str.ofString "word") = true) (h' : (k' == Str.ofString "text") = true) : true = nbF k y k' := by unfold nbF; rw [h, h']; simp
theorem nb4 (h : (k == Str.ofString "sign" && y == Str.ofString ":") = true) : (k == Str.ofString "sign" && y == Str.ofString ":") = nbF k y k' := by unfold nbF; rw [h]; simp
section
variable (h1 : (isLike k && isLike k') = false) (h2 : ([Str.ofString "rem", Str.ofString "raw"].any fun x => x == k') = false) (h3 : (k == Str.ofString "word" && k' == Str.ofString "text") = false) (h4 : (k == Str.ofString "sign" && y == Str.ofString ":") = false)
include h1 h2 h3 h4
theorem nb5 (h5 : (k' == Str.ofString "word") = true) : (!(k == Str.ofString "sign" && y == Str.ofString "(")) = nbF k y k' := by unfold nbF; rw [h1, h2, h3, h4, h5]; simp only [Bool.false_or, Bool.true_and]
theorem nb6 (h5 : (k' == Str.ofString "word") = false) : (k' == Str.ofString "word") = nbF k y k' := by unfold nbF; rw [h1, h2, h3, h4, h5]; simp only [Bool.false_or, Bool.false_and]
end
end
def OutBG (news : List (Addr × Obj)) (b : Bool) (nw : List (Addr × Obj)) (r : Value) : Prop := (∃ mid, nw = mid ++ news) ∧ ∃ b', r = .bool b' ∧ b' = b
theorem tBlank (w : World) (news : List (Addr × Obj)) (a b : Addr) (k y k' y' : Str) (t1 t2 t1' t2' : Tok) (n n' : Nat) (h1 : PyData.strOk k = true) (h2 : PyData.strOk y = true) :
    Tel w 170 12 ((a, { cls := .type "tuple", data := .seq #[.str k t1, .str y t2] n }) :: (b, { cls := .type "tuple", data := .seq #[.str k' t1', .str y' t2'] n' }) :: news) [.ref a, .ref b] (OutBG ((a, { cls := .type "tuple", data := .seq #[.str k t1, .str y t2] n }) :: (b, { cls := .type "tuple", data := .seq #[.str k' t1', .str y' t2'] n' }) :: news) (nbF k y k')) False := by
  unfold Tel
  k_with "my compareOp Eq ref ref" => (k_here; (with_reducible show wpAny _ _ (compareOp CmpOp.Eq (Value.ref _) (Value.ref _)) _ _ _); k_dflt (refine' tok_eq ?N_161 ?a_161 ?b_161 ?c_161 ?d_161 ?e_161 ?f_161 ?u_161 ?_; (case N_161 => k_asm); (case a_161 => k_mem); (case b_161 => k_mem); (case c_161 => assumption); (case d_161 => assumption); (case e_161 => decide +kernel); (case f_161 => decide +kernel); (case u_161 => first | omega | ktr_units)))
  k_with "my compareOp NotEq ref ref" => (k_here; (with_reducible show wpAny _ _ (compareOp CmpOp.NotEq (Value.ref _) (Value.ref _)) _ _ _); k_dflt (refine' tok_ne ?N_162 ?a_162 ?b_162 ?c_162 ?d_162 ?e_162 ?f_162 ?u_162 ?_; (case N_162 => k_asm); (case a_162 => k_mem); (case b_162 => k_mem); (case c_162 => assumption); (case d_162 => assumption); (case e_162 => decide +kernel); (case f_162 => decide +kernel); (case u_162 => first | omega | ktr_units)))
  k_with "m_nb" => first
        | exact nb1 (by with_reducible assumption) (by with_reducible assumption)
        | exact nb2 (by with_reducible assumption)
        | exact nb3 (by with_reducible assumption) (by with_reducible assumption)
        | exact nb4 (by with_reducible assumption)
        | exact nb5 (by first | exact nb_and1 (by with_reducible assumption) | exact nb_and2 (by with_reducible assumption)) (by with_reducible assumption) (by first | exact nb_and1 (by with_reducible assumption) | exact nb_and2 (by with_reducible assumption)) (by with_reducible assumption) (by with_reducible assumption)
        | exact nb6 (by first | exact nb_and1 (by with_reducible assumption) | exact nb_and2 (by with_reducible assumption)) (by with_reducible assumption) (by first | exact nb_and1 (by with_reducible assumption) | exact nb_and2 (by with_reducible assumption)) (by with_reducible assumption) (by with_reducible assumption)
  w_top off
  k_fill
  intro mean mg mb dp un gd cn cs ad ccd cl outer A₀ base h₀ L m s Q E B F X N T hk hd hu hret hthr
  k_extra "m_open"
  k_steps
  all_goals
    refine hret _ _ _ _ (by with_reducible assumption) (by with_reducible assumption) ⟨?_, _, rfl, by k_extra "m_nb"⟩
    first
    | exact ⟨[], rfl⟩
    | exact ⟨[_], rfl⟩
    | exact ⟨[_, _], rfl⟩
    | exact ⟨[_, _, _], rfl⟩
end Mine
end
section
open PySem PySem.W PyProof.Rows
namespace Mine
theorem Tel.mem {w : World} {f : Addr} {n : Nat} {news : List (Addr × Obj)} {p : List (Addr × Obj)} {vs : List Value} {Out Out' : List (Addr × Obj) → Value → Prop} {Thr : Prop} (hp : ∀ q ∈ p, q ∈ news) (C : Tel w f n (p ++ news) vs Out Thr)
    (hO : ∀ nw r, Out nw r → ∃ nw', (∀ q ∈ nw', q ∈ nw) ∧ Out' nw' r) : Tel w f n news vs Out' Thr := by
  intro mean mg mb dp un gd cn cs ad ccd cl outer A₀ base h₀ L m s Q E B F X N T hk hd hu hret hthr
  refine C mean mg mb dp un gd cn cs ad ccd cl outer A₀ base h₀ L m s Q E B F X (fun q hq => ?_) T hk hd hu (fun r nw h' tk' F' N' O => ?_) (fun e g h' tk' t F' R U => hthr e g h' tk' t F' (RaisedSN.less R fun q hq => List.mem_append_right _ hq) U)
  · rcases List.mem_append.mp hq with hq | hq
    · exact N q (hp q hq)
    · exact N q hq
  · obtain ⟨nw', hs, O'⟩ := hO nw r O
    exact hret r nw' h' tk' F' (fun q hq => N' q (hs q hq)) O'
abbrev tkO (k y : Str) (t1 t2 : Tok) (n : Nat) : Obj := { cls := .type "tuple", data := .seq #[.str k t1, .str y t2] n }
theorem tText' (w : World) (news : List (Addr × Obj)) (a : Addr) (k y : Str) (t1 t2 : Tok) (n : Nat) (hm : (a, tkO k y t1 t2 n) ∈ news) (hy : y.length ≤ 1000) : Tel w 163 3 news [.ref a] (OutS news (tkText k y)) False :=
  Tel.mem (p := [(a, tkO k y t1 t2 n)]) (fun q hq => by rw [List.mem_singleton.mp hq]; exact hm) (tText1 w news a k y t1 t2 n hy) fun nw r O => ⟨news, fun q hq => by rw [← O.1]; exact .tail _ hq, rfl, O.2⟩
theorem tBlank' (w : World) (news : List (Addr × Obj)) (a b : Addr) (k y k' y' : Str) (t1 t2 t1' t2' : Tok) (n n' : Nat) (hm : (a, tkO k y t1 t2 n) ∈ news) (hm' : (b, tkO k' y' t1' t2' n') ∈ news) (h1 : PyData.strOk k = true) (h2 : PyData.strOk y = true) :
    Tel w 170 12 news [.ref a, .ref b] (OutB news (nbF k y k')) False :=
  Tel.mem (p := [(a, tkO k y t1 t2 n), (b, tkO k' y' t1' t2' n')]) (fun q hq => by
      rcases List.mem_cons.mp hq with rfl | hq
      · exact hm
      · rw [List.mem_singleton.mp hq]; exact hm') (tBlank w news a b k y k' y' t1 t2 t1' t2' n n' h1 h2)
    fun nw r O => by
      obtain ⟨⟨mid, rfl⟩, b', rfl, rfl⟩ := O
      exact ⟨news, fun q hq => List.mem_append_right _ (.tail _ (.tail _ hq)), rfl, rfl⟩
/-- the row of tokens -/
def rowStep (acc : Str) (p : Option Tk) (t : Tk) : Str := (if (match p with | some p => nbF p.1 p.2 t.1 && (tkText t.1 t.2 != Str.ofString "") | none => false) = true then acc ++ Str.ofString " " else acc) ++ tkText t.1 t.2
def rowL : Str → Option Tk → List Tk → Str
  | acc, _, [] => acc
  | acc, p, t :: r => rowL (rowStep acc p t) (some t) r
def rowT (ts : List Tk) : Str := rowL (Str.ofString "") none ts
def tsz (ts : List Tk) : Nat := (ts.map fun t => t.2.length + 6).sum
theorem dat_tok {news : List (Addr × Obj)} {v : Value} {t : Tk} (h : DatIn news v (tkD t)) : ∃ a t1 t2 n, v = .ref a ∧ (a, tkO t.1 t.2 t1 t2 n) ∈ news := by
  obtain ⟨k, y⟩ := t
  cases h with
  | @tuple a vs n ds hm hA =>
    cases hA with
    | cons h1 hA =>
      cases h1
      cases hA with
      | cons h2 hA =>
        cases h2
        cases hA
        exact ⟨a, _, _, n, rfl, hm⟩
theorem tkText_len (t : Tk) : (tkText t.1 t.2).length ≤ t.2.length + 4 := by
  unfold tkText
  split
  · rw [Str.length_append, Str.length_append]
    show 1 + t.2.length + 1 ≤ _
    omega
  · split
    · split
      · rw [Str.length_append]
        show 4 + t.2.length ≤ _
        omega
      · show 3 ≤ _
        omega
    · omega
theorem rowStep_len (acc : Str) (p : Option Tk) (t : Tk) : (rowStep acc p t).length ≤ acc.length + (t.2.length + 6) := by
  have h : ∀ b : Bool, (if b = true then acc ++ Str.ofString " " else acc).length ≤ acc.length + 1 := by
    intro b
    cases b
    · exact Nat.le_succ _
    · show (acc ++ Str.ofString " ").length ≤ _
      rw [Str.length_append]
      exact Nat.le_refl _
  unfold rowStep
  rw [Str.length_append]
  have h1 := tkText_len t
  exact Nat.le_trans (Nat.add_le_add (h _) h1) (by omega)
abbrev mmR (acc : Str) (tacc : Tok) (o1 o2 o3 : Option Value) (m₀ : Str → Option Value) : Str → Option Value :=
  fun y => if y = Str.ofString "found" then some (.str acc tacc) else if y = Str.ofString "told" then o1 else if y = Str.ofString "at" then o2 else if y = Str.ofString "token" then o3 else m₀ y
theorem mmR_eq {m' m₀ : Str → Option Value} {acc : Str} {tacc : Tok} (hf : m' (Str.ofString "found") = some (.str acc tacc))
    (hm : ∀ y, y ≠ Str.ofString "found" → y ≠ Str.ofString "told" → y ≠ Str.ofString "at" → y ≠ Str.ofString "token" → m' y = m₀ y) : m' = mmR acc tacc (m' (Str.ofString "told")) (m' (Str.ofString "at")) (m' (Str.ofString "token")) m₀ := by
  funext y
  unfold mmR
  by_cases h1 : y = Str.ofString "found"
  · subst h1; rw [if_pos rfl]; exact hf
  rw [if_neg h1]
  by_cases h2 : y = Str.ofString "told"
  · subst h2; rw [if_pos rfl]
  rw [if_neg h2]
  by_cases h3 : y = Str.ofString "at"
  · subst h3; rw [if_pos rfl]
  rw [if_neg h3]
  by_cases h4 : y = Str.ofString "token"
  · subst h4; rw [if_pos rfl]
  rw [if_neg h4]
  exact hm y h1 h2 h3 h4
theorem row_ind {IR : List Itm → (Str → Option Value) → List (Addr × Obj) → Prop} {m₀ : Str → Option Value} {led news : List (Addr × Obj)} {vs : List Value} {ts : List Tk} (hA : DatAll news vs (ts.map tkD)) (hsz : tsz ts ≤ 900)
    (fin : ∀ tacc o1 o2 o3, IR [] (mmR (rowT ts) tacc o1 o2 o3 m₀) led)
    (first : ∀ a t1 t2 n t vs', (a, tkO t.1 t.2 t1 t2 n) ∈ news → t ∈ ts → t.2.length ≤ 900 → (∀ tacc o1 o2 o3, IR (enumItems 1 vs') (mmR (rowStep (Str.ofString "") none t) tacc o1 o2 o3 m₀) led) →
      ∀ tacc o1 o2 o3, IR (.pair (fun t => .int 0 t) (.ref a) :: enumItems 1 vs') (mmR (Str.ofString "") tacc o1 o2 o3 m₀) led)
    (next : ∀ i a b t1 t2 n u1 u2 k t p acc vs', vs[i]? = some (.ref b) → (b, tkO p.1 p.2 u1 u2 k) ∈ news → (a, tkO t.1 t.2 t1 t2 n) ∈ news → p ∈ ts → t ∈ ts → t.2.length ≤ 900 → acc.length ≤ 900 →
      (∀ tacc o1 o2 o3, IR (enumItems (i + 2) vs') (mmR (rowStep acc (some p) t) tacc o1 o2 o3 m₀) led) →
      ∀ tacc o1 o2 o3, IR (.pair (fun t => .int ((i + 1 : Nat) : Int) t) (.ref a) :: enumItems (i + 2) vs') (mmR acc tacc o1 o2 o3 m₀) led) :
    ∀ tacc o1 o2 o3, IR (enumItems 0 vs) (mmR (Str.ofString "") tacc o1 o2 o3 m₀) led := by
  have main : ∀ (ts₂ : List Tk) (vs₂ : List Value) (i : Nat) (b : Addr) (u1 u2 : Tok) (k : Nat) (p : Tk) (acc : Str), DatAll news vs₂ (ts₂.map tkD) → vs[i]? = some (.ref b) → vs.drop (i + 1) = vs₂ → (b, tkO p.1 p.2 u1 u2 k) ∈ news → p ∈ ts → (∀ t ∈ ts₂, t ∈ ts) →
      acc.length + tsz ts₂ ≤ 900 → rowL acc (some p) ts₂ = rowT ts → ∀ tacc o1 o2 o3, IR (enumItems (i + 1) vs₂) (mmR acc tacc o1 o2 o3 m₀) led := by
    intro ts₂
    induction ts₂ with
    | nil =>
      intro vs₂ i b u1 u2 k p acc A hi hd hb hp hs hz hr tacc o1 o2 o3
      cases A
      rw [show acc = rowT ts from hr]
      exact fin tacc o1 o2 o3
    | cons t r ih =>
      intro vs₂ i b u1 u2 k p acc A hi hd hb hp hs hz hr
      cases A with
      | cons h A =>
        rename_i v vs'
        obtain ⟨a, t1, t2, n, rfl, ha⟩ := dat_tok h
        have hz' : acc.length + (t.2.length + 6 + tsz r) ≤ 900 := by simpa [tsz] using hz
        have hl := rowStep_len acc (some p) t
        refine next i a b t1 t2 n u1 u2 k t p acc vs' hi hb ha hp (hs t (.head _)) (by omega) (by omega) ?_
        have hi' : vs[i + 1]? = some (.ref a) := by
          have : (vs.drop (i + 1))[0]? = some (.ref a) := by rw [hd]; rfl
          rw [List.getElem?_drop] at this
          exact this
        have hd' : vs.drop (i + 1 + 1) = vs' := by
          rw [← List.drop_drop, hd]
          rfl
        exact ih vs' (i + 1) a t1 t2 n t _ A hi' hd' ha (hs t (.head _)) (fun q hq => hs q (.tail _ hq)) (by omega) hr
  cases ts with
  | nil =>
    cases hA
    intro tacc o1 o2 o3
    exact fin tacc o1 o2 o3
  | cons t r =>
    cases hA with
    | cons h A =>
      rename_i v vs'
      obtain ⟨a, t1, t2, n, rfl, ha⟩ := dat_tok h
      have hz' : t.2.length + 6 + tsz r ≤ 900 := by simpa [tsz] using hsz
      have hl := rowStep_len (Str.ofString "") none t
      have h0 : (Str.ofString "").length = 0 := rfl
      exact first a t1 t2 n t vs' ha (.head _) (by omega) (main r vs' 0 a t1 t2 n t _ A rfl rfl ha (.head _) (fun q hq => .tail _ hq) (by omega) rfl)
end Mine
end
section
open PySem PySem.W PyProof.Rows
namespace Mine
theorem mmR_start {P : (Str → Option Value) → Prop} {m₀ : Str → Option Value} {tk : Tok} (h : ∀ tacc o1 o2 o3, P (mmR (Str.ofString "") tacc o1 o2 o3 m₀)) : P (fun y => if y = Str.ofString "found" then some (.str (Str.ofString "") tk) else m₀ y) := by
  have := h tk (m₀ (Str.ofString "told")) (m₀ (Str.ofString "at")) (m₀ (Str.ofString "token"))
  rw [show (fun y => if y = Str.ofString "found" then some (Value.str (Str.ofString "") tk) else m₀ y) = mmR (Str.ofString "") tk (m₀ (Str.ofString "told")) (m₀ (Str.ofString "at")) (m₀ (Str.ofString "token")) m₀ from mmR_eq rfl fun y h1 _ _ _ => if_neg h1]
  exact this
section
variable {prog : Program} {w : World} {A : Around} {E : Value → Shared → Prop} {s : Shared} {h₀ : Heap} {L l : Addr}
theorem at_item {value slice : PySem.Expr} {news : List (Addr × Obj)} {us : List Value} {n i : Nat} {k : Int} {u : Tok} {v : Value} {Q : Value → Shared → Prop} (N : News h₀ L s.heap news) (hm : (l, W.listOf us.toArray n) ∈ news) (hv : us[i]? = some v)
    (hk : k = (i : Int)) (hfit : us.length ≤ 1000) (h : Q v s)
    (hs : subscripted slice false (.ref l) (.int k u) = operate [.ref l, .int k u] (getItem (.ref l) (.int k u)) := by with_unfolding_all rfl) :
    wpAny (model prog w) A (subscriptTail value slice (.ref l) (.int k u)) Q E s := by
  have hl : s.heap.IsList l us.toArray := ⟨_, (N _ hm).1, rfl, n, rfl⟩
  subst hk
  have hlt : i < us.length := (List.getElem?_eq_some_iff.mp hv).1
  have hb : ((i : Nat) : Int) < 2 ^ 63 := by
    have : (2 : Int) ^ 63 = 9223372036854775808 := by decide
    omega
  exact tail_any hl.typeIs slot_list_getitem.lookup (wpAny_getItem_list hl (by omega) hb (by simpa using hv) h) hs
end
theorem unr_out {IR : (Str → Option Value) → List (Addr × Obj) → Prop} {g h' : Heap} {L I D : Addr} {s : Shared} {m' m₀ : Str → Option Value} {O1 O2 o : Obj} {news : List (Addr × Obj)} {tk : Nat} {z acc' : Str} {tacc : Tok}
    (F : Fr g L h' m') (N : News g L h' ((I + 1, O1) :: (I, O2) :: (D, o) :: news)) (hI : ∀ p ∈ (D, o) :: news, p.1 < I) (hz : z = acc') (hf : m' (Str.ofString "found") = some (.str z tacc))
    (hm : ∀ y, y ≠ Str.ofString "found" → y ≠ Str.ofString "told" → y ≠ Str.ofString "at" → y ≠ Str.ofString "token" → m' y = m₀ y)
    (IH : ∀ tacc o1 o2 o3, IR (mmR acc' tacc o1 o2 o3 m₀) ((D, o) :: news)) :
    UnrEndW g L s [(I + 1, O1), (I, O2)] (fun m' n' => SubL [(D, o)] n' ∧ IR m' n') { s with heap := h', toks := tk } := by
  subst hz
  refine ⟨h', tk, m', (D, o) :: news, rfl, F, N, fun p hp q hq => ?_, ⟨.head _, trivial⟩, ?_⟩
  · have := hI p hp
    rcases List.mem_cons.mp hq with rfl | hq
    · exact Nat.ne_of_lt (Nat.lt_succ_of_lt this)
    · rw [List.mem_singleton.mp hq]
      exact Nat.ne_of_lt this
  · rw [mmR_eq hf hm]
    exact IH _ _ _ _
theorem rs_none {y : Str} {t : Tk} (h : y = tkText t.1 t.2) : Str.ofString "" ++ y = rowStep (Str.ofString "") none t := by rw [h]; rfl
theorem rs_yes {acc y : Str} {p t : Tk} (h : y = tkText t.1 t.2) (h1 : nbF p.1 p.2 t.1 = true) (h2 : (y != Str.ofString "") = true) : acc ++ Str.ofString " " ++ y = rowStep acc (some p) t := by
  subst h
  unfold rowStep
  dsimp only
  rw [if_pos (by rw [h1, h2]; rfl)]
theorem rs_no1 {acc y : Str} {p t : Tk} (h : y = tkText t.1 t.2) (h1 : nbF p.1 p.2 t.1 = false) : acc ++ y = rowStep acc (some p) t := by
  subst h
  unfold rowStep
  dsimp only
  rw [if_neg (by rw [h1, Bool.false_and]; exact Bool.false_ne_true)]
theorem rs_no2 {acc y : Str} {p t : Tk} (h : y = tkText t.1 t.2) (h1 : nbF p.1 p.2 t.1 = true) (h2 : (y != Str.ofString "") = false) : acc ++ y = rowStep acc (some p) t := by
  subst h
  unfold rowStep
  dsimp only
  rw [if_neg (by rw [h1, h2]; exact Bool.false_ne_true)]
theorem tRowOf (w : World) (news : List (Addr × Obj)) (D : Addr) (vs : List Value) (c : Nat) (ts : List Tk) (A : DatAll news vs (ts.map tkD)) (hsz : tsz ts ≤ 900) (hlen : vs.length ≤ 1000) (hok : ∀ t ∈ ts, PyData.strOk t.1 = true ∧ PyData.strOk t.2 = true) :
    Tel w 177 16 ((D, W.listOf vs.toArray c) :: news) [.ref D] (OutS ((D, W.listOf vs.toArray c) :: news) (rowT ts)) False := by
  unfold Tel
  k_with_none
  k_with "m_open" => (
        refine wpAny_call ?_
        k_dflt ktr_enter)
  k_with "m_use" => (
        (case k1 => k_asm); (case k2 => k_asm); (case k3 => k_asm); (case k4 => k_asm); (case k5 => k_asm); (case kK => first | exact rfl | assumption); (case kd => first | omega | ktr_room); (case ku => first | omega | ktr_units))
  k_with "my call builtin:len" => (k_here; (with_reducible show wpAny _ _ (call (Value.builtin "len") [Value.str _ _]) _ _ _); refine len_str (by omega) ?_)
  k_with "m_scalar" => (
        k_extra "m_use"
        intro r9 nw9 h9 tk9 F9 N9 O9
        obtain ⟨e9, e9'⟩ := O9
        subst e9
        first | subst e9' | (obtain ⟨i9, t9, e9'', hv9⟩ := e9'; subst e9'')
        try dsimp only
        try k_fold)
  k_with "my call ref" => (
        k_here
        (with_reducible show wpAny _ _ (call (Value.ref 67) [Value.str _ _]) _ _ _)
        k_dflt (refine' use_tel (tIsFig _ _ _ _) ?k1 ?k2 ?k3 ?k4 ?k5 ?kK ?kd ?ku ?_ (fun _ _ _ _ z => False.elim z))
        k_extra "m_scalar")
  k_with "my call ref" => (
        k_here
        (with_reducible show wpAny _ _ (call (Value.ref 60) [Value.str _ _]) _ _ _)
        k_dflt (refine' use_tel (tIsLet _ _ _ _) ?k1 ?k2 ?k3 ?k4 ?k5 ?kK ?kd ?ku ?_ (fun _ _ _ _ z => False.elim z))
        k_extra "m_scalar")
  k_with "my call ref" => (
        k_here
        (with_reducible show wpAny _ _ (call (Value.ref 79) [Value.str _ _, Value.int _ _]) _ _ _)
        k_dflt (refine' use_tel (tFigEnd _ _ _ _ _ _ ?hx_170 ?ha_170) ?k1 ?k2 ?k3 ?k4 ?k5 ?kK ?kd ?ku ?_ (fun _ _ _ _ z => False.elim z))
        (case hx_170 => first | assumption | omega)
        (case ha_170 => omega)
        k_extra "m_scalar")
  k_with "my call ref" => (
        k_here
        (with_reducible show wpAny _ _ (call (Value.ref 86) [Value.str _ _, Value.int _ _]) _ _ _)
        k_dflt (refine' use_tel (tSkip _ _ _ _ _ _ ?hx_171 ?ha_171) ?k1 ?k2 ?k3 ?k4 ?k5 ?kK ?kd ?ku ?_ (fun _ _ _ _ z => False.elim z))
        (case hx_171 => first | assumption | omega)
        (case ha_171 => omega)
        k_extra "m_scalar")
  k_with "my call ref" => (
        k_here
        (with_reducible show wpAny _ _ (call (Value.ref 107) [Value.str _ _, Value.int _ _]) _ _ _)
        k_dflt (refine' use_tel (tNameEnd _ _ _ _ _ _ ?hx_172 ?ha_172) ?k1 ?k2 ?k3 ?k4 ?k5 ?kK ?kd ?ku ?_ (fun _ _ _ _ z => False.elim z))
        (case hx_172 => first | assumption | omega)
        (case ha_172 => omega)
        k_extra "m_scalar")
  k_with "my ite" => (k_here; first
        | with_reducible refine ite_tt ?_
        | with_reducible refine ite_ff ?_
        | with_reducible refine ite_True_then ?_
        | with_reducible refine ite_False_else ?_
        | (refine ite_pos (by with_reducible assumption) ?_)
        | (refine ite_neg (by with_reducible assumption) ?_)
        | (refine ite_isFalse (by with_reducible assumption) ?_)
        | with_reducible refine split_not ?_
        | (with_reducible refine split_ine ?_ ?_ <;> intro _)
        | (with_reducible refine split_ieq ?_ ?_ <;> intro _)
        | (refine split_dec ?_ ?_ <;> intro _)
        | (refine split_bool ?_ ?_ <;> intro _))
  k_with "my call ref" => (
        k_here
        (with_reducible show wpAny _ _ (call (Value.ref 72) [Value.str _ _]) _ _ _)
        k_dflt (refine' use_tel (tCapital _ _ _ _ ?hx_174) ?k1 ?k2 ?k3 ?k4 ?k5 ?kK ?kd ?ku ?_ (fun _ _ _ _ z => False.elim z))
        (case hx_174 => first | assumption | omega)
        k_extra "m_scalar")
  k_with "my call ref" => (
        k_here
        (with_reducible show wpAny _ _ (call (Value.ref 93) [Value.str _ _, Value.int _ _]) _ _ _)
        k_dflt (refine' use_tel (tPowEnd _ _ _ _ _ _ ?hx_175 ?ha_175 ?hok_175) ?k1 ?k2 ?k3 ?k4 ?k5 ?kK ?kd ?ku ?_ (fun _ _ _ _ z => False.elim z))
        (case hx_175 => first | assumption | omega)
        (case ha_175 => omega)
        (case hok_175 => k_extra "m_okPow")
        k_extra "m_scalar")
  k_with "my call ref" => (
        k_here
        (with_reducible show wpAny _ _ (call (Value.ref 128) [Value.str _ _, Value.int _ _]) _ _ _)
        k_dflt (refine' use_tel (tDataEnd _ _ _ _ _ _ ?hx_176 ?ha_176) ?k1 ?k2 ?k3 ?k4 ?k5 ?kK ?kd ?ku ?_ (fun _ _ _ _ z => False.elim z))
        (case hx_176 => first | assumption | omega)
        (case ha_176 => omega)
        k_extra "m_scalar")
  k_with "my call ref" => (
        k_here
        (with_reducible show wpAny _ _ (call (Value.ref 135) [Value.str _ _]) _ _ _)
        k_dflt (refine' use_tel (tRemark _ _ _ _ ?hx_177) ?k1 ?k2 ?k3 ?k4 ?k5 ?kK ?kd ?ku ?_ (fun _ _ _ _ z => False.elim z))
        (case hx_177 => first | assumption | omega)
        k_extra "m_scalar")
  k_with "my call ref" => (
        k_here
        (with_reducible show wpAny _ _ (call (Value.ref 53) [Value.str _ _]) _ _ _)
        k_dflt (refine' use_tel (tIsWord _ _ _ _) ?k1 ?k2 ?k3 ?k4 ?k5 ?kK ?kd ?ku ?_ (fun _ _ _ _ z => False.elim z))
        k_extra "m_scalar")
  k_with "my exec For Tuple Call cons nil" => (k_here; (rename Fr _ _ _ _ => lF'); (with_unfolding_all refine' For_turns lF' ?_); k_whole)
  k_with "my call type:enumerate" => (k_here; k_dflt (refine' ktu_enum ?hh_180 ?F_180 ?N_180 ?m_180 ?c_180 ?d_180 rfl ?_; (case hh_180 => rfl); (case F_180 => k_asm); (case N_180 => k_asm); (case m_180 => k_mem); (case c_180 => rfl); (case d_180 => rfl)))
  k_with "m_use4" => (
        (case k1 => k_asm); (case k2 => k_asm); (case k3 => k_asm); (case k4 => k_asm); (case k5 => k_asm); (case kK => first | exact rfl | assumption); (case kd => first | omega | ktr_room); (case ku => first | omega | ktr_units)
        intro r9 nw9 h9 tk9 F9 N9 O9
        obtain ⟨e9, e9'⟩ := O9
        subst e9
        first | subst e9' | (obtain ⟨i9, t9, e9'', hv9⟩ := e9'; subst e9'')
        try dsimp only
        try k_fold)
  k_with "m_use5" => (
        (case k1 => k_asm); (case k2 => k_asm); (case k3 => k_asm); (case k4 => k_asm); (case k5 => k_asm); (case kK => first | exact rfl | assumption); (case kd => first | omega | ktr_room); (case ku => first | omega | ktr_units))
  w_top off
  k_fill
  intro mean mg mb dp un gd cn cs ad ccd cl outer A₀ base h₀ L m s Q E B F X N T hk hd hu hret hthr
  k_extra "m_open"
  k_steps
  rename_i I hI
  refine mmR_start (P := fun m => ItemsRest _ _ _ _ _ _ _ _ _ _ _ _ _ m _) (row_ind (IR := ItemsRest _ _ _ _ _ _ _ _ _ _ _ _) A hsz ?_ ?_ ?_)
  · intro tacc o1 o2 o3
    refine ItemsRest.zero fun hh ktk F1 N1 => ?_
    unfold mmR at F1
    dsimp only
    k_steps
    exact hret _ _ _ _ (by with_reducible assumption) (by with_reducible assumption) ⟨rfl, _, _, rfl, rfl⟩
  · intro a t1 t2 n t vs' ha ht hy IH tacc o1 o2 o3
    refine ItemsRest.pair fun T tt hh ktk hT F1 => ?_
    refine AllObj.cons fun O1 hc1 => ?_
    refine AllObj.cons fun O2 hc2 => ?_
    refine AllObj.nil fun N1 => ?_
    dsimp only at hc1 hc2
    simp only [List.cons_append, List.nil_append] at N1
    unfold mmR at F1
    dsimp only
    k_with "call ref" => (k_dflt (refine' use_tel (tText' _ _ _ _ _ _ _ _ (.tail _ (.tail _ (.tail _ ha))) ?hy) ?k1 ?k2 ?k3 ?k4 ?k5 ?kK ?kd ?ku ?_ (fun _ _ _ _ z => False.elim z)); (case hy => omega); k_extra "m_use5"; intro r9 nw9 h9 tk9 F9 N9 O9; obtain ⟨e9, y9, u9, e9', hv9⟩ := O9; subst e9; subst e9'; have hz9 := tkText_len t; rw [← hv9] at hz9; (try dsimp only); (try k_fold))
    k_steps
    all_goals first
      | exact unr_out (by assumption) (by assumption) hI (rs_none (by with_reducible assumption)) rfl (fun y h1 h2 h3 h4 => by simp only [h1, h2, h3, h4, if_false]) IH
      | (exfalso; omega)
  · intro i a b t1 t2 n u1 u2 k t p acc vs' hi hb ha hp ht hy hacc IH tacc o1 o2 o3
    refine ItemsRest.pair fun T tt hh ktk hT F1 => ?_
    refine AllObj.cons fun O1 hc1 => ?_
    refine AllObj.cons fun O2 hc2 => ?_
    refine AllObj.nil fun N1 => ?_
    dsimp only at hc1 hc2
    simp only [List.cons_append, List.nil_append] at N1
    unfold mmR at F1
    dsimp only
    have okp := hok p hp
    k_with "call ref" => (k_dflt (first
      | (refine' use_tel (tText' _ _ _ _ _ _ _ _ (.tail _ (.tail _ (.tail _ ha))) ?hy) ?k1 ?k2 ?k3 ?k4 ?k5 ?kK ?kd ?ku ?_ (fun _ _ _ _ z => False.elim z); (case hy => omega); k_extra "m_use5"; intro r9 nw9 h9 tk9 F9 N9 O9; obtain ⟨e9, y9, u9, e9', hv9⟩ := O9; subst e9; subst e9'; have hz9 := tkText_len t; rw [← hv9] at hz9; (try dsimp only); (try k_fold))
      | (refine' use_tel (tBlank' _ _ _ _ _ _ _ _ _ _ _ _ _ _ (.tail _ (.tail _ (.tail _ hb))) (.tail _ (.tail _ (.tail _ ha))) okp.1 okp.2) ?k1 ?k2 ?k3 ?k4 ?k5 ?kK ?kd ?ku ?_ (fun _ _ _ _ z => False.elim z); k_extra "m_use4")))
    k_with "subscriptTail" => (k_dflt (refine at_item (by k_asm) (by k_mem) hi (by omega) hlen ?_))
    k_steps
    all_goals first
      | exact unr_out (by assumption) (by assumption) hI (by first | exact rs_yes (by with_reducible assumption) (by with_reducible assumption) (by with_reducible assumption) | exact rs_no1 (by with_reducible assumption) (by with_reducible assumption) | exact rs_no2 (by with_reducible assumption) (by with_reducible assumption) (by with_reducible assumption)) rfl (fun y h1 h2 h3 h4 => by simp only [h1, h2, h3, h4, if_false]) IH
      | (exfalso; omega)
end Mine
end
section
open PySem PySem.W PyProof.Rows
namespace Mine
theorem tRowOf' (w : World) (news : List (Addr × Obj)) (D : Addr) (vs : List Value) (c : Nat) (ts : List Tk) (hm : (D, W.listOf vs.toArray c) ∈ news) (A : DatAll news vs (ts.map tkD)) (hsz : tsz ts ≤ 900) (hlen : vs.length ≤ 1000) (hok : ∀ t ∈ ts, PyData.strOk t.1 = true ∧ PyData.strOk t.2 = true) :
    Tel w 177 16 news [.ref D] (OutS news (rowT ts)) False :=
  Tel.mem (p := [(D, W.listOf vs.toArray c)]) (fun q hq => by rw [List.mem_singleton.mp hq]; exact hm) (tRowOf w news D vs c ts A hsz hlen hok) fun nw r O => ⟨news, fun q hq => by rw [← O.1]; exact .tail _ hq, rfl, O.2⟩
theorem tCanon (w : World) (news : List (Addr × Obj)) (x : Str) (t : Tok) (ts : List Tk) (hx : x.length ≤ 255) (hR : Run (suf x (cnt isBl (suf x 0))) (some ts)) (hsz : tsz ts ≤ 900) (hok : ∀ t ∈ ts, PyData.strOk t.1 = true ∧ PyData.strOk t.2 = true) (hrow : (rowT ts).length ≤ 255) :
    Tel w 184 18 news [.str x t] (OutS news (rowT ts)) False := by
  have hno : ¬ (255 < x.length ∨ some ts = none) := by
    rintro (z | z)
    · omega
    · cases z
  unfold Tel
  k_with_none
  k_with "m_open" => (
        refine wpAny_call ?_
        k_dflt ktr_enter)
  k_with "m_use" => (
        (case k1 => k_asm); (case k2 => k_asm); (case k3 => k_asm); (case k4 => k_asm); (case k5 => k_asm); (case kK => first | exact rfl | assumption); (case kd => first | omega | ktr_room); (case ku => first | omega | ktr_units))
  k_with "my call builtin:len" => (k_here; (with_reducible show wpAny _ _ (call (Value.builtin "len") [Value.str _ _]) _ _ _); refine len_str (by omega) ?_)
  k_with "m_scalar" => (
        k_extra "m_use"
        intro r9 nw9 h9 tk9 F9 N9 O9
        obtain ⟨e9, e9'⟩ := O9
        subst e9
        first | subst e9' | (obtain ⟨i9, t9, e9'', hv9⟩ := e9'; subst e9'')
        try dsimp only
        try k_fold)
  k_with "my call ref" => (
        k_here
        (with_reducible show wpAny _ _ (call (Value.ref 67) [Value.str _ _]) _ _ _)
        k_dflt (refine' use_tel (tIsFig _ _ _ _) ?k1 ?k2 ?k3 ?k4 ?k5 ?kK ?kd ?ku ?_ (fun _ _ _ _ z => False.elim z))
        k_extra "m_scalar")
  k_with "my call ref" => (
        k_here
        (with_reducible show wpAny _ _ (call (Value.ref 60) [Value.str _ _]) _ _ _)
        k_dflt (refine' use_tel (tIsLet _ _ _ _) ?k1 ?k2 ?k3 ?k4 ?k5 ?kK ?kd ?ku ?_ (fun _ _ _ _ z => False.elim z))
        k_extra "m_scalar")
  k_with "my call ref" => (
        k_here
        (with_reducible show wpAny _ _ (call (Value.ref 79) [Value.str _ _, Value.int _ _]) _ _ _)
        k_dflt (refine' use_tel (tFigEnd _ _ _ _ _ _ ?hx_189 ?ha_189) ?k1 ?k2 ?k3 ?k4 ?k5 ?kK ?kd ?ku ?_ (fun _ _ _ _ z => False.elim z))
        (case hx_189 => first | assumption | omega)
        (case ha_189 => omega)
        k_extra "m_scalar")
  k_with "my call ref" => (
        k_here
        (with_reducible show wpAny _ _ (call (Value.ref 86) [Value.str _ _, Value.int _ _]) _ _ _)
        k_dflt (refine' use_tel (tSkip _ _ _ _ _ _ ?hx_190 ?ha_190) ?k1 ?k2 ?k3 ?k4 ?k5 ?kK ?kd ?ku ?_ (fun _ _ _ _ z => False.elim z))
        (case hx_190 => first | assumption | omega)
        (case ha_190 => omega)
        k_extra "m_scalar")
  k_with "my call ref" => (
        k_here
        (with_reducible show wpAny _ _ (call (Value.ref 107) [Value.str _ _, Value.int _ _]) _ _ _)
        k_dflt (refine' use_tel (tNameEnd _ _ _ _ _ _ ?hx_191 ?ha_191) ?k1 ?k2 ?k3 ?k4 ?k5 ?kK ?kd ?ku ?_ (fun _ _ _ _ z => False.elim z))
        (case hx_191 => first | assumption | omega)
        (case ha_191 => omega)
        k_extra "m_scalar")
  k_with "my ite" => (k_here; first
        | with_reducible refine ite_tt ?_
        | with_reducible refine ite_ff ?_
        | with_reducible refine ite_True_then ?_
        | with_reducible refine ite_False_else ?_
        | (refine ite_pos (by with_reducible assumption) ?_)
        | (refine ite_neg (by with_reducible assumption) ?_)
        | (refine ite_isFalse (by with_reducible assumption) ?_)
        | with_reducible refine split_not ?_
        | (with_reducible refine split_ine ?_ ?_ <;> intro _)
        | (with_reducible refine split_ieq ?_ ?_ <;> intro _)
        | (refine split_dec ?_ ?_ <;> intro _)
        | (refine split_bool ?_ ?_ <;> intro _))
  k_with "my call ref" => (
        k_here
        (with_reducible show wpAny _ _ (call (Value.ref 72) [Value.str _ _]) _ _ _)
        k_dflt (refine' use_tel (tCapital _ _ _ _ ?hx_193) ?k1 ?k2 ?k3 ?k4 ?k5 ?kK ?kd ?ku ?_ (fun _ _ _ _ z => False.elim z))
        (case hx_193 => first | assumption | omega)
        k_extra "m_scalar")
  k_with "my call ref" => (
        k_here
        (with_reducible show wpAny _ _ (call (Value.ref 93) [Value.str _ _, Value.int _ _]) _ _ _)
        k_dflt (refine' use_tel (tPowEnd _ _ _ _ _ _ ?hx_194 ?ha_194 ?hok_194) ?k1 ?k2 ?k3 ?k4 ?k5 ?kK ?kd ?ku ?_ (fun _ _ _ _ z => False.elim z))
        (case hx_194 => first | assumption | omega)
        (case ha_194 => omega)
        (case hok_194 => k_extra "m_okPow")
        k_extra "m_scalar")
  k_with "my call ref" => (
        k_here
        (with_reducible show wpAny _ _ (call (Value.ref 128) [Value.str _ _, Value.int _ _]) _ _ _)
        k_dflt (refine' use_tel (tDataEnd _ _ _ _ _ _ ?hx_195 ?ha_195) ?k1 ?k2 ?k3 ?k4 ?k5 ?kK ?kd ?ku ?_ (fun _ _ _ _ z => False.elim z))
        (case hx_195 => first | assumption | omega)
        (case ha_195 => omega)
        k_extra "m_scalar")
  k_with "my call ref" => (
        k_here
        (with_reducible show wpAny _ _ (call (Value.ref 135) [Value.str _ _]) _ _ _)
        k_dflt (refine' use_tel (tRemark _ _ _ _ ?hx_196) ?k1 ?k2 ?k3 ?k4 ?k5 ?kK ?kd ?ku ?_ (fun _ _ _ _ z => False.elim z))
        (case hx_196 => first | assumption | omega)
        k_extra "m_scalar")
  k_with "my call ref" => (
        k_here
        (with_reducible show wpAny _ _ (call (Value.ref 53) [Value.str _ _]) _ _ _)
        k_dflt (refine' use_tel (tIsWord _ _ _ _) ?k1 ?k2 ?k3 ?k4 ?k5 ?kK ?kd ?ku ?_ (fun _ _ _ _ z => False.elim z))
        k_extra "m_scalar")
  k_with "m_toks" => (
        k_extra "m_use"
        intro r9 nw9 h9 tk9 F9 N9 O9
        obtain ⟨D9, DL9, vs9, t9, mid9, e9, A9, l9, l9', m9, e9'⟩ := O9
        subst e9
        subst e9'
        try dsimp only
        try k_fold)
  k_with "m_tok" => (
        k_extra "m_use"
        intro r9 nw9 h9 tk9 F9 N9 O9
        obtain ⟨D9, D9', t9, u9, v9, e9, l9, l9', e9'⟩ := O9
        subst e9
        subst e9'
        try dsimp only
        try k_fold)
  k_with "my call ref" => (
        k_here
        (with_reducible show wpAny _ _ (call (Value.ref 34) [Value.str _ _, Value.int _ _]) _ _ _)
        k_dflt (refine' use_tel (tExc _ _ _ _ _ _) ?k1 ?k2 ?k3 ?k4 ?k5 ?kK ?kd ?ku ?_ (fun _ _ _ _ z => False.elim z))
        k_extra "m_use"
        intro r9 nw9 h9 tk9 F9 N9 O9
        obtain ⟨e9, o9, t9, e9', e9'', c9, d9, l9⟩ := O9
        subst e9'
        subst e9''
        try dsimp only
        try k_fold)
  k_with "my exec Raise some none" => (
        k_here
        k_dflt (refine raise_own rfl ?_))
  k_with "m_use5" => (
        (case k1 => k_asm); (case k2 => k_asm); (case k3 => k_asm); (case k4 => k_asm); (case k5 => k_asm); (case kK => first | exact rfl | assumption); (case kd => first | omega | ktr_room); (case ku => first | omega | ktr_units))
  w_top off
  k_fill
  intro mean mg mb dp un gd cn cs ad ccd cl outer A₀ base h₀ L m s Q E B F X N T hk hd hu hret hthr
  k_extra "m_open"
  k_with "call ref" => (k_dflt (first
    | (refine' use_tel (tToksOf _ _ _ _ ?hx hR) ?k1 ?k2 ?k3 ?k4 ?k5 ?kK ?kd ?ku ?_ (fun _ _ _ _ z => absurd z hno); (case hx => omega); k_extra "m_use5"; intro r9 nw9 h9 tk9 F9 N9 O9; obtain ⟨ts9, -, e9, D9, vs9, c9, mid9, e9', A9, l9, l9', v9, e9''⟩ := O9; cases e9; subst e9'; subst e9''; (try dsimp only); (try k_fold))
    | (refine' use_tel (tRowOf' _ _ _ _ _ ts (List.mem_append_right _ (.head _)) ?hA hsz ?hlen hok) ?k1 ?k2 ?k3 ?k4 ?k5 ?kK ?kd ?ku ?_ (fun _ _ _ _ z => False.elim z); (case k4 => k_asm); (case hA => exact A9.mono fun q hq => List.mem_append_left _ hq); (case hlen => omega); (case k1 => k_asm); (case k2 => k_asm); (case k3 => k_asm); (case k5 => k_asm); (case kK => first | exact rfl | assumption); (case kd => first | omega | ktr_room); (case ku => first | omega | ktr_units); intro r8 nw8 h8 tk8 F8 N8 O8; obtain ⟨e8, y8, u8, e8', hv8⟩ := O8; subst e8; subst e8'; have hz8 := hrow; rw [← hv8] at hz8; (try dsimp only); (try k_fold))))
  k_steps
  all_goals first
    | (exfalso; omega)
    | exact hret _ news _ _ (by assumption) (fun q hq => by first | exact (by assumption : News _ _ _ _) q (List.mem_append_right _ (.tail _ hq))) ⟨rfl, _, _, rfl, by assumption⟩
end Mine
end
section
open PySem PySem.W PyProof.Rows
namespace Mine
def isOrdT (t : Tk) : Bool := t.1 == Str.ofString "sign" && [Str.ofString "<", Str.ofString "=", Str.ofString ">", Str.ofString "<=", Str.ofString ">=", Str.ofString "<>"].any (· == t.2)
theorem ord_yes {k y : Str} (h : (k == Str.ofString "sign") = true) : ([Str.ofString "<", Str.ofString "=", Str.ofString ">", Str.ofString "<=", Str.ofString ">=", Str.ofString "<>"].any fun x => x == y) = isOrdT (k, y) := by
  unfold isOrdT
  dsimp only
  rw [h, Bool.true_and]
theorem ord_not {k y : Str} (h : (k == Str.ofString "sign") = false) : (k == Str.ofString "sign") = isOrdT (k, y) := by
  unfold isOrdT
  dsimp only
  rw [h, Bool.false_and]
theorem tIsOrder (w : World) (news : List (Addr × Obj)) (a : Addr) (k y : Str) (t1 t2 : Tok) (n : Nat) :
    Tel w 212 3 ((a, tkO k y t1 t2 n) :: news) [.ref a] (OutBG ((a, tkO k y t1 t2 n) :: news) (isOrdT (k, y))) False := by
  unfold Tel
  k_with_none
  k_with "m_open" => (
        refine wpAny_call ?_
        k_dflt ktr_enter)
  k_with "m_use" => (
        (case k1 => k_asm); (case k2 => k_asm); (case k3 => k_asm); (case k4 => k_asm); (case k5 => k_asm); (case kK => first | exact rfl | assumption); (case kd => first | omega | ktr_room); (case ku => first | omega | ktr_units))
  k_with "my call builtin:len" => (k_here; (with_reducible show wpAny _ _ (call (Value.builtin "len") [Value.str _ _]) _ _ _); refine len_str (by omega) ?_)
  k_with "m_scalar" => (
        k_extra "m_use"
        intro r9 nw9 h9 tk9 F9 N9 O9
        obtain ⟨e9, e9'⟩ := O9
        subst e9
        first | subst e9' | (obtain ⟨i9, t9, e9'', hv9⟩ := e9'; subst e9'')
        try dsimp only
        try k_fold)
  k_with "my call ref" => (
        k_here
        (with_reducible show wpAny _ _ (call (Value.ref 67) [Value.str _ _]) _ _ _)
        k_dflt (refine' use_tel (tIsFig _ _ _ _) ?k1 ?k2 ?k3 ?k4 ?k5 ?kK ?kd ?ku ?_ (fun _ _ _ _ z => False.elim z))
        k_extra "m_scalar")
  k_with "my call ref" => (
        k_here
        (with_reducible show wpAny _ _ (call (Value.ref 60) [Value.str _ _]) _ _ _)
        k_dflt (refine' use_tel (tIsLet _ _ _ _) ?k1 ?k2 ?k3 ?k4 ?k5 ?kK ?kd ?ku ?_ (fun _ _ _ _ z => False.elim z))
        k_extra "m_scalar")
  k_with "my call ref" => (
        k_here
        (with_reducible show wpAny _ _ (call (Value.ref 79) [Value.str _ _, Value.int _ _]) _ _ _)
        k_dflt (refine' use_tel (tFigEnd _ _ _ _ _ _ ?hx_209 ?ha_209) ?k1 ?k2 ?k3 ?k4 ?k5 ?kK ?kd ?ku ?_ (fun _ _ _ _ z => False.elim z))
        (case hx_209 => first | assumption | omega)
        (case ha_209 => omega)
        k_extra "m_scalar")
  k_with "my call ref" => (
        k_here
        (with_reducible show wpAny _ _ (call (Value.ref 86) [Value.str _ _, Value.int _ _]) _ _ _)
        k_dflt (refine' use_tel (tSkip _ _ _ _ _ _ ?hx_210 ?ha_210) ?k1 ?k2 ?k3 ?k4 ?k5 ?kK ?kd ?ku ?_ (fun _ _ _ _ z => False.elim z))
        (case hx_210 => first | assumption | omega)
        (case ha_210 => omega)
        k_extra "m_scalar")
  k_with "my call ref" => (
        k_here
        (with_reducible show wpAny _ _ (call (Value.ref 107) [Value.str _ _, Value.int _ _]) _ _ _)
        k_dflt (refine' use_tel (tNameEnd _ _ _ _ _ _ ?hx_211 ?ha_211) ?k1 ?k2 ?k3 ?k4 ?k5 ?kK ?kd ?ku ?_ (fun _ _ _ _ z => False.elim z))
        (case hx_211 => first | assumption | omega)
        (case ha_211 => omega)
        k_extra "m_scalar")
  k_with "my ite" => (k_here; first
        | with_reducible refine ite_tt ?_
        | with_reducible refine ite_ff ?_
        | with_reducible refine ite_True_then ?_
        | with_reducible refine ite_False_else ?_
        | (refine ite_pos (by with_reducible assumption) ?_)
        | (refine ite_neg (by with_reducible assumption) ?_)
        | (refine ite_isFalse (by with_reducible assumption) ?_)
        | with_reducible refine split_not ?_
        | (with_reducible refine split_ine ?_ ?_ <;> intro _)
        | (with_reducible refine split_ieq ?_ ?_ <;> intro _)
        | (refine split_dec ?_ ?_ <;> intro _)
        | (refine split_bool ?_ ?_ <;> intro _))
  k_with "my call ref" => (
        k_here
        (with_reducible show wpAny _ _ (call (Value.ref 72) [Value.str _ _]) _ _ _)
        k_dflt (refine' use_tel (tCapital _ _ _ _ ?hx_213) ?k1 ?k2 ?k3 ?k4 ?k5 ?kK ?kd ?ku ?_ (fun _ _ _ _ z => False.elim z))
        (case hx_213 => first | assumption | omega)
        k_extra "m_scalar")
  k_with "my call ref" => (
        k_here
        (with_reducible show wpAny _ _ (call (Value.ref 93) [Value.str _ _, Value.int _ _]) _ _ _)
        k_dflt (refine' use_tel (tPowEnd _ _ _ _ _ _ ?hx_214 ?ha_214 ?hok_214) ?k1 ?k2 ?k3 ?k4 ?k5 ?kK ?kd ?ku ?_ (fun _ _ _ _ z => False.elim z))
        (case hx_214 => first | assumption | omega)
        (case ha_214 => omega)
        (case hok_214 => k_extra "m_okPow")
        k_extra "m_scalar")
  k_with "my call ref" => (
        k_here
        (with_reducible show wpAny _ _ (call (Value.ref 128) [Value.str _ _, Value.int _ _]) _ _ _)
        k_dflt (refine' use_tel (tDataEnd _ _ _ _ _ _ ?hx_215 ?ha_215) ?k1 ?k2 ?k3 ?k4 ?k5 ?kK ?kd ?ku ?_ (fun _ _ _ _ z => False.elim z))
        (case hx_215 => first | assumption | omega)
        (case ha_215 => omega)
        k_extra "m_scalar")
  k_with "my call ref" => (
        k_here
        (with_reducible show wpAny _ _ (call (Value.ref 135) [Value.str _ _]) _ _ _)
        k_dflt (refine' use_tel (tRemark _ _ _ _ ?hx_216) ?k1 ?k2 ?k3 ?k4 ?k5 ?kK ?kd ?ku ?_ (fun _ _ _ _ z => False.elim z))
        (case hx_216 => first | assumption | omega)
        k_extra "m_scalar")
  k_with "my call ref" => (
        k_here
        (with_reducible show wpAny _ _ (call (Value.ref 53) [Value.str _ _]) _ _ _)
        k_dflt (refine' use_tel (tIsWord _ _ _ _) ?k1 ?k2 ?k3 ?k4 ?k5 ?kK ?kd ?ku ?_ (fun _ _ _ _ z => False.elim z))
        k_extra "m_scalar")
  w_top off
  k_fill
  intro mean mg mb dp un gd cn cs ad ccd cl outer A₀ base h₀ L m s Q E B F X N T hk hd hu hret hthr
  k_extra "m_open"
  k_steps
  · refine hret _ _ _ _ (by with_reducible assumption) (by with_reducible assumption) ⟨?_, _, rfl, ?_⟩
    exact ⟨[_], rfl⟩
    exact ord_yes (by assumption)
  · refine hret _ _ _ _ (by with_reducible assumption) (by with_reducible assumption) ⟨?_, _, rfl, ?_⟩
    exact ⟨[], rfl⟩
    exact ord_not (by assumption)
theorem tIsOrder' (w : World) (news : List (Addr × Obj)) (a : Addr) (k y : Str) (t1 t2 : Tok) (n : Nat) (hm : (a, tkO k y t1 t2 n) ∈ news) : Tel w 212 3 news [.ref a] (OutB news (isOrdT (k, y))) False :=
  Tel.mem (p := [(a, tkO k y t1 t2 n)]) (fun q hq => by rw [List.mem_singleton.mp hq]; exact hm) (tIsOrder w news a k y t1 t2 n) fun nw r O => by
    obtain ⟨⟨mid, rfl⟩, b', rfl, rfl⟩ := O
    exact ⟨news, fun q hq => List.mem_append_right _ (.tail _ hq), rfl, rfl⟩
end Mine
end
section
open PySem PySem.W PyProof.Rows
namespace Mine
abbrev bagL (C : Addr) (took sum : Int) (t1 t2 : Tok) : List (Str × Value) := [(Str.ofString "cells", Value.ref C), (Str.ofString "took", Value.int took t1), (Str.ofString "sum", Value.int sum t2)]
/-- the bag: what its dict holds -/
def Bag (w : World) (C : Addr) (o : Obj) (took : Int) : Prop := ∃ sum t1 t2, Obj.IsDictOf (PySem.strKind PySem.Challenge.rw_pq0174_01.row.prog w) o (bagL C took sum t1 t2) ∧ 0 ≤ took ∧ 0 ≤ sum ∧ sum ≤ 100
theorem tTake (w : World) (news : List (Addr × Obj)) (B C : Addr) (o : Obj) (ws : List Value) (cells : List Int) (c : Nat) (took many : Int) (u : Tok) (hBag : Bag w C o took)
    (hI : IntsAre ws cells) (hlen : cells.length ≤ 40) (h1 : took ≤ 1000) (hb : ∀ p ∈ (C, W.listOf ws.toArray c) :: news, p.1 ≠ B) (hmany : 0 < many) (hmany' : many ≤ 100) :
    Tel w 191 4 ((B, o) :: (C, W.listOf ws.toArray c) :: news) [.ref B, .int many u] (fun nw r => ∃ o' i t, Bag w C o' (took + 1) ∧ nw = (B, o') :: (C, W.listOf ws.toArray c) :: news ∧ r = .int i t ∧ 0 ≤ i ∧ i < many) False := by
  obtain ⟨sum, t1, t2, hd, h0, h2, h3⟩ := hBag
  unfold Tel
  k_with_none
  k_with "m_open" => (
        refine wpAny_call ?_
        k_dflt ktr_enter)
  k_with "m_use" => (
        (case k1 => k_asm); (case k2 => k_asm); (case k3 => k_asm); (case k4 => k_asm); (case k5 => k_asm); (case kK => first | exact rfl | assumption); (case kd => first | omega | ktr_room); (case ku => first | omega | ktr_units))
  k_with "my ite" => (k_here; first
        | with_reducible refine ite_tt ?_
        | with_reducible refine ite_ff ?_
        | with_reducible refine ite_True_then ?_
        | with_reducible refine ite_False_else ?_
        | (refine ite_pos (by with_reducible assumption) ?_)
        | (refine ite_neg (by with_reducible assumption) ?_)
        | (refine ite_isFalse (by with_reducible assumption) ?_)
        | with_reducible refine split_not ?_
        | (with_reducible refine split_ine ?_ ?_ <;> intro _)
        | (with_reducible refine split_ieq ?_ ?_ <;> intro _)
        | (refine split_dec ?_ ?_ <;> intro _)
        | (refine split_bool ?_ ?_ <;> intro _))
  k_with "my setItem ref str" => (k_here; k_dflt (refine' kda_set (knd := PySem.strKind _ _) ?F_221 ?N_221 (UpdF.head ?U_221) ?d_221 (strKind_is _ _ _ _) ?z_221 ?_; (case F_221 => k_asm); (case N_221 => k_asm); (case U_221 => assumption); (case d_221 => k_asm); (case z_221 => kob_size)); intro h' o' F' N' hd'; (try kob_lit); (try dsimp only at N'))
  w_top off
  k_fill
  intro mean mg mb dp un gd cn cs ad ccd cl outer A₀ base h₀ L m s Q E B' F X N T hk hd' hu hret hthr
  k_extra "m_open"
  k_steps
  all_goals
    refine hret _ _ _ _ (by assumption) (by assumption) ⟨_, _, _, ⟨sum, _, _, by assumption, by omega, h2, h3⟩, rfl, rfl, ?_, ?_⟩
    · exact Int.fmod_nonneg_of_pos _ hmany
    · exact Int.fmod_lt_of_pos _ hmany
theorem Tel.re {w : World} {f : Addr} {n : Nat} {news news' : List (Addr × Obj)} {vs : List Value} {Out Out' : List (Addr × Obj) → Value → Prop} (hp : ∀ q ∈ news', q ∈ news) (C : Tel w f n news' vs Out' False)
    (hO : ∀ nw r, Out' nw r → ∃ nw', (∀ q ∈ nw', q ∈ nw) ∧ Out nw' r) : Tel w f n news vs Out False := by
  intro mean mg mb dp un gd cn cs ad ccd cl outer A₀ base h₀ L m s Q E B F X N T hk hd hu hret hthr
  refine C mean mg mb dp un gd cn cs ad ccd cl outer A₀ base h₀ L m s Q E B F X (fun q hq => N q (hp q hq)) T hk hd hu (fun r nw h' tk' F' N' O => ?_) (fun _ _ _ _ z => z.elim)
  obtain ⟨nw', hs, O'⟩ := hO nw r O
  exact hret r nw' h' tk' F' (fun q hq => N' q (hs q hq)) O'
theorem tTake' (w : World) (news : List (Addr × Obj)) (g : Obj → List (Addr × Obj)) (B C : Addr) (o : Obj) (ws : List Value) (cells : List Int) (c : Nat) (took many : Int) (u : Tok) (hBag : Bag w C o took)
    (hI : IntsAre ws cells) (hlen : cells.length ≤ 40) (h1 : took ≤ 1000) (U : UpdF B o news g) (hcb : C ≠ B) (hC : (C, W.listOf ws.toArray c) ∈ news) (hmany : 0 < many) (hmany' : many ≤ 100) :
    Tel w 191 4 news [.ref B, .int many u] (fun nw r => ∃ o' i t, Bag w C o' (took + 1) ∧ nw = g o' ∧ r = .int i t ∧ 0 ≤ i ∧ i < many) False := by
  obtain ⟨pre, post, rfl, hg, a, b⟩ := U.split
  refine Tel.re (news' := (B, o) :: (C, W.listOf ws.toArray c) :: (pre ++ post)) ?_ (tTake w (pre ++ post) B C o ws cells c took many u hBag hI hlen h1 ?_ hmany hmany') ?_
  · intro q hq
    rcases List.mem_cons.mp hq with rfl | hq
    · exact List.mem_append_right _ (.head _)
    rcases List.mem_cons.mp hq with rfl | hq
    · exact hC
    rcases List.mem_append.mp hq with hq | hq
    · exact List.mem_append_left _ hq
    · exact List.mem_append_right _ (.tail _ hq)
  · intro p hp
    rcases List.mem_cons.mp hp with rfl | hp
    · exact hcb
    rcases List.mem_append.mp hp with hp | hp
    · exact a p hp
    · exact b p hp
  · rintro nw r ⟨o', i, t, hB, rfl, rfl, h0, h1⟩
    refine ⟨g o', ?_, o', i, t, hB, rfl, rfl, h0, h1⟩
    rw [hg]
    intro q hq
    rcases List.mem_append.mp hq with hq | hq
    · exact .tail _ (.tail _ (List.mem_append_left _ hq))
    rcases List.mem_cons.mp hq with rfl | hq
    · exact .head _
    · exact .tail _ (.tail _ (List.mem_append_right _ hq))
end Mine
end
section
open PySem PySem.W PyProof.Rows
namespace Mine
theorem m_itemS {prog : Program} {w : World} {A : Around} {E : Value → Shared → Prop} {s : Shared} {h₀ : Heap} {L l : Addr} {news : List (Addr × Obj)} {value slice : PySem.Expr} {vs : List Value} {ys : List Str} {c : Nat} {k : Int} {u : Tok} {Q : Value → Shared → Prop}
    (N : News h₀ L s.heap news) (hm : (l, W.listOf vs.toArray c) ∈ news) (hv : StrsAre vs ys) (h0 : 0 ≤ k) (h1 : k < (ys.length : Int)) (hz : ys.length ≤ 100) {n : Nat} (hl : ys.all (fun y => decide (y.length ≤ n)) = true) (h : ∀ y t, y ∈ ys → y.length ≤ n → Q (.str y t) s)
    (hs : subscripted slice false (.ref l) (.int k u) = operate [.ref l, .int k u] (getItem (.ref l) (.int k u)) := by with_unfolding_all rfl) :
    wpAny (model prog w) A (subscriptTail value slice (.ref l) (.int k u)) Q E s := by
  have hk : k.toNat < ys.length := by omega
  obtain ⟨t, ht⟩ := hv.at (List.getElem?_eq_getElem hk)
  exact item_litK (News.isList N hm) h0 (by omega) ht (h _ _ (List.getElem_mem hk) (of_decide_eq_true (List.all_eq_true.mp hl _ (List.getElem_mem hk)))) hs
theorem m_item6 {prog : Program} {w : World} {A : Around} {E : Value → Shared → Prop} {s : Shared} {h₀ : Heap} {L l : Addr} {news : List (Addr × Obj)} {value slice : PySem.Expr} {v0 v1 v2 v3 v4 v5 : Value} {c : Nat} {k : Int} {u : Tok} {Q : Value → Shared → Prop}
    (N : News h₀ L s.heap news) (hm : (l, W.listOf #[v0, v1, v2, v3, v4, v5] c) ∈ news) (h0 : 0 ≤ k) (h1 : k < 6) (q0 : Q v0 s) (q1 : Q v1 s) (q2 : Q v2 s) (q3 : Q v3 s) (q4 : Q v4 s) (q5 : Q v5 s)
    (hs : subscripted slice false (.ref l) (.int k u) = operate [.ref l, .int k u] (getItem (.ref l) (.int k u)) := by with_unfolding_all rfl) :
    wpAny (model prog w) A (subscriptTail value slice (.ref l) (.int k u)) Q E s := by
  have hl : s.heap.IsList l #[v0, v1, v2, v3, v4, v5] := News.isList N hm
  have hk : k = 0 ∨ k = 1 ∨ k = 2 ∨ k = 3 ∨ k = 4 ∨ k = 5 := by omega
  rcases hk with rfl | rfl | rfl | rfl | rfl | rfl
  · exact item_litK (vs := [v0, v1, v2, v3, v4, v5]) hl (by decide) (by decide) rfl q0 hs
  · exact item_litK (vs := [v0, v1, v2, v3, v4, v5]) hl (by decide) (by decide) rfl q1 hs
  · exact item_litK (vs := [v0, v1, v2, v3, v4, v5]) hl (by decide) (by decide) rfl q2 hs
  · exact item_litK (vs := [v0, v1, v2, v3, v4, v5]) hl (by decide) (by decide) rfl q3 hs
  · exact item_litK (vs := [v0, v1, v2, v3, v4, v5]) hl (by decide) (by decide) rfl q4 hs
  · exact item_litK (vs := [v0, v1, v2, v3, v4, v5]) hl (by decide) (by decide) rfl q5 hs
theorem getD_len {ys : List Str} {i : Nat} (h : ys.all (fun y => decide (y.length ≤ 50)) = true) : (ys.getD i Str.empty).length ≤ 50 := by
  rw [List.getD_eq_getElem?_getD]
  cases e : ys[i]? with
  | none => exact Nat.zero_le _
  | some y => exact of_decide_eq_true (List.all_eq_true.mp h y (List.mem_of_getElem? e))
theorem getD_mem {ys : List Str} {i : Nat} (h : i < ys.length) : ys.getD i Str.empty ∈ ys := by
  rw [List.getD_eq_getElem?_getD, List.getElem?_eq_getElem h]
  exact List.getElem_mem h
abbrev signs14 : Str := Str.ofString "+-*/\\^(),;:#&@"
abbrev words7 : List Str := [Str.ofString "PRINT", Str.ofString "FOR", Str.ofString "LEFT$", Str.ofString "AND", Str.ofString "MAT", Str.ofString "ELSE", Str.ofString "TAB"]
abbrev names7 : List Str := [Str.ofString "A", Str.ofString "B1%", Str.ofString "FNX$", Str.ofString "PRINTER", Str.ofString "E5", Str.ofString "X.Y!", Str.ofString "REMARK"]
abbrev nums10 : List Str := [Str.ofString "0", Str.ofString "32767", Str.ofString "1.5", Str.ofString ".25", Str.ofString "7.", Str.ofString "2E+10", Str.ofString "3.5e-7", Str.ofString "12%", Str.ofString "8!", Str.ofString "00012"]
abbrev texts5 : List Str := [Str.ofString "", Str.ofString "a:b", Str.ofString "REM 'x", Str.ofString "  ", Str.ofString "?"]
abbrev ords6 : List (Str × Str) := [(Str.ofString "<", Str.ofString "<"), (Str.ofString "=", Str.ofString "="), (Str.ofString "<=", Str.ofString "=<"), (Str.ofString ">=", Str.ofString "> ="), (Str.ofString "<>", Str.ofString "><"), (Str.ofString "<=", Str.ofString "< =")]
/-- what a piece may be -/
def Pc (k y z : Str) : Prop :=
  (k = Str.ofString "word" ∧ y ∈ words7 ∧ z ∈ [y, Txt.lower y]) ∨ (k = Str.ofString "name" ∧ y ∈ names7 ∧ z ∈ [y, Txt.lower y]) ∨ (k = Str.ofString "number" ∧ z ∈ nums10 ∧ y = Txt.upper z) ∨
  (k = Str.ofString "text" ∧ y ∈ texts5 ∧ z = Str.ofString "\"" ++ y ++ Str.ofString "\"") ∨ (k = Str.ofString "sign" ∧ ∃ i : Int, 0 ≤ i ∧ i < 14 ∧ y = Txt.item signs14 i ∧ z = Txt.item signs14 i) ∨ (k = Str.ofString "sign" ∧ (y, z) ∈ ords6)
abbrev tkP (k y : Str) (t1 t2 : Tok) (n : Nat) : Obj := { cls := .type "tuple", data := .seq #[.str k t1, .str y t2] n }
def OutPiece (w : World) (B C : Addr) (lst : Obj) (news : List (Addr × Obj)) (took : Int) (nw : List (Addr × Obj)) (r : Value) : Prop :=
  ∃ (o' : Obj) (took' : Int) (D T : Addr) (k y z : Str) (t1 t2 t3 : Tok) (n m : Nat), Bag w C o' took' ∧ took ≤ took' ∧ took' ≤ took + 3 ∧
    nw = (D, { cls := .type "tuple", data := .seq #[.ref T, .str z t3] n }) :: (T, tkP k y t1 t2 m) :: (B, o') :: (C, lst) :: news ∧ AllLt T news ∧ T < D ∧ B < T ∧ C < T ∧ Pc k y z ∧ r = .ref D
theorem fin_piece {h₀ h' : Heap} {L D T B C : Addr} {od ot ob oc : Obj} {big news : List (Addr × Obj)} (N : News h₀ L h' big) (h1 : (D, od) ∈ big) (h2 : (T, ot) ∈ big) (h3 : (B, ob) ∈ big) (h4 : (C, oc) ∈ big) (h5 : ∀ q ∈ news, q ∈ big) :
    News h₀ L h' ((D, od) :: (T, ot) :: (B, ob) :: (C, oc) :: news) := by
  intro q hq
  rcases List.mem_cons.mp hq with rfl | hq
  · exact N _ h1
  rcases List.mem_cons.mp hq with rfl | hq
  · exact N _ h2
  rcases List.mem_cons.mp hq with rfl | hq
  · exact N _ h3
  rcases List.mem_cons.mp hq with rfl | hq
  · exact N _ h4
  · exact N _ (h5 q hq)
theorem two_len {y z : Str} (h : y.length ≤ 50) (h' : z.length ≤ 3 * y.length) : [y, z].all (fun y => decide (y.length ≤ 200)) = true := by
  have h1 : y.length ≤ 200 := by omega
  have h2 : z.length ≤ 200 := by omega
  simp [h1, h2]
theorem out_piece {w : World} {B C : Addr} {lst : Obj} {news big : List (Addr × Obj)} {took : Int} {h₀ h' : Heap} {L : Addr} {m : Str → Option Value} {s : Shared} {Q : Value → Shared → Prop} {tk' : Nat} {D T : Addr} {o' : Obj} {took' : Int} {k y z : Str} {t1 t2 t3 : Tok} {n j : Nat}
    (hret : ∀ r nw h' tk', Fr h₀ L h' m → News h₀ L h' nw → OutPiece w B C lst news took nw r → Q r { s with heap := h', toks := tk' })
    (F : Fr h₀ L h' m) (N : News h₀ L h' big) (hB : Bag w C o' took') (c1 : took ≤ took') (c2 : took' ≤ took + 3) (h1 : (D, ({ cls := .type "tuple", data := .seq #[.ref T, .str z t3] n } : Obj)) ∈ big) (h2 : (T, tkP k y t1 t2 j) ∈ big) (h3 : (B, o') ∈ big) (h4 : (C, lst) ∈ big) (h5 : ∀ q ∈ news, q ∈ big)
    (l1 : AllLt T news) (l2 : T < D) (l3 : B < T) (l4 : C < T) (hp : Pc k y z) : Q (.ref D) { s with heap := h', toks := tk' } :=
  hret _ _ _ _ F (fin_piece N h1 h2 h3 h4 h5) ⟨o', took', D, T, k, y, z, t1, t2, t3, n, j, hB, c1, c2, rfl, l1, l2, l3, l4, hp, rfl⟩
theorem tPiece (w : World) (news : List (Addr × Obj)) (B C : Addr) (o : Obj) (ws : List Value) (cells : List Int) (c : Nat) (took : Int) (hBag : Bag w C o took)
    (hI : IntsAre ws cells) (hlen : cells.length ≤ 40) (h1 : took ≤ 900) (hb : ∀ p ∈ (C, W.listOf ws.toArray c) :: news, p.1 ≠ B) (hcb : C ≠ B) :
    Tel w 198 12 ((B, o) :: (C, W.listOf ws.toArray c) :: news) [.ref B] (OutPiece w B C (W.listOf ws.toArray c) news took) False := by
  unfold Tel
  k_with_none
  k_with "m_open" => (
        refine wpAny_call ?_
        k_dflt ktr_enter)
  k_with "m_use" => (
        (case k1 => k_asm); (case k2 => k_asm); (case k3 => k_asm); (case k4 => k_asm); (case k5 => k_asm); (case kK => first | exact rfl | assumption); (case kd => first | omega | ktr_room); (case ku => first | omega | ktr_units))
  k_with "my ite" => (k_here; first
        | with_reducible refine ite_tt ?_
        | with_reducible refine ite_ff ?_
        | with_reducible refine ite_True_then ?_
        | with_reducible refine ite_False_else ?_
        | (refine ite_pos (by with_reducible assumption) ?_)
        | (refine ite_neg (by with_reducible assumption) ?_)
        | (refine ite_isFalse (by with_reducible assumption) ?_)
        | with_reducible refine split_not ?_
        | (with_reducible refine split_ine ?_ ?_ <;> intro _)
        | (with_reducible refine split_ieq ?_ ?_ <;> intro _)
        | (refine split_dec ?_ ?_ <;> intro _)
        | (refine split_bool ?_ ?_ <;> intro _))
  k_with "m_updB" => first
        | (refine' UpdF.head ?ua_225; (case ua_225 => with_reducible assumption))
        | (refine' UpdF.tail ?ua_225 ?ub_225; (case ua_225 => k_ne); (case ub_225 => k_extra "m_updB"))
  k_with "my call ref" => (
        k_here
        (with_reducible show wpAny _ _ (call (Value.ref 191) [Value.ref _, Value.int _ _]) _ _ _)
        k_dflt (refine' use_tel (tTake' _ _ _ _ _ _ _ _ _ _ _ _ ?hB_226 ?hI_226 ?hlen_226 ?h1_226 ?hU_226 ?hcb_226 ?hC_226 ?hm_226 ?hmq_226) ?k1 ?k2 ?k3 ?k4 ?k5 ?kK ?kd ?ku ?_ (fun _ _ _ _ z => False.elim z))
        (case k4 => k_asm)
        (case hB_226 => with_reducible assumption)
        (case hI_226 => with_reducible assumption)
        (case hU_226 => k_extra "m_updB")
        (case hlen_226 => assumption)
        (case h1_226 => omega)
        (case hcb_226 => assumption)
        (case hC_226 => k_mem)
        (case hm_226 => decide)
        (case hmq_226 => decide)
        (case k1 => k_asm); (case k2 => k_asm); (case k3 => k_asm); (case k5 => k_asm); (case kK => first | exact rfl | assumption); (case kd => first | omega | ktr_room); (case ku => first | omega | ktr_units)
        intro r9 nw9 h9 tk9 F9 N9 O9
        obtain ⟨o9, i9, t9, B9, e9, e9', g9, g9'⟩ := O9
        subst e9
        subst e9'
        try dsimp only
        try k_fold)
  k_with "my subscriptTail" => (
        k_here
        (with_reducible show wpAny _ _ (subscriptTail _ _ (Value.ref _) (Value.int _ _)) _ _ _)
        (with_unfolding_all refine' m_itemS (n := 200) ?N_227 ?m_227 ?v_227 ?a_227 ?b_227 ?z_227 ?hl_227 ?_ ?hs_227)
        (case N_227 => k_asm)
        (case m_227 => k_mem)
        (case v_227 => (repeat' constructor); done)
        (case a_227 => assumption)
        (case b_227 => simp only [List.length_cons, List.length_nil]; omega)
        (case z_227 => simp only [List.length_cons, List.length_nil]; decide)
        (case hs_227 => with_unfolding_all rfl)
        (case hl_227 => exact two_len (by with_reducible assumption) (by with_reducible assumption))
        intro y9 t9 m9 n9)
  k_with "my subscriptTail" => (
        k_here
        (with_reducible show wpAny _ _ (subscriptTail _ _ (Value.ref _) (Value.int _ _)) _ _ _)
        (with_unfolding_all refine' m_itemS (n := 50) ?N_228 ?m_228 ?v_228 ?a_228 ?b_228 ?z_228 ?hl_228 ?_ ?hs_228)
        (case N_228 => k_asm)
        (case m_228 => k_mem)
        (case v_228 => (repeat' constructor); done)
        (case a_228 => assumption)
        (case b_228 => simp only [List.length_cons, List.length_nil]; omega)
        (case z_228 => simp only [List.length_cons, List.length_nil]; decide)
        (case hs_228 => with_unfolding_all rfl)
        (case hl_228 => decide +kernel)
        intro y9 t9 m9 n9)
  k_with "my subscriptTail" => (
        k_here
        (with_reducible show wpAny _ _ (subscriptTail (PySem.Expr.Name (Str.ofString "some") _) _ (Value.ref _) (Value.int _ _)) _ _ _)
        (with_unfolding_all refine' m_item6 ?N_229 ?m_229 ?a_229 ?b_229 ?_ ?_ ?_ ?_ ?_ ?_ ?hs_229)
        (case N_229 => k_asm)
        (case m_229 => k_mem)
        (case a_229 => assumption)
        (case b_229 => assumption)
        (case hs_229 => with_unfolding_all rfl))
  k_with "my call builtin:str.upper" => (
        k_here
        (with_reducible show wpAny _ _ (call (Value.builtin "str.upper") [Value.str _ _]) _ _ _)
        refine SCL.upper ?hfit_230 ?_
        (case hfit_230 => first | omega | exact Nat.le_trans (getD_len (by decide +kernel)) (by decide))
        intro _)
  k_with "my call builtin:str.lower" => (
        k_here
        (with_reducible show wpAny _ _ (call (Value.builtin "str.lower") [Value.str _ _]) _ _ _)
        refine SCL.lower ?hfit_231 ?_
        (case hfit_231 => first | omega | exact Nat.le_trans (getD_len (by decide +kernel)) (by decide))
        intro _)
  k_with "m_allLt" => first
        | with_reducible assumption
        | exact (by with_reducible assumption : _ ∧ AllLt _ _).2
        | exact (by with_reducible assumption : _ ∧ _ ∧ AllLt _ _).2.2
        | exact (by with_reducible assumption : _ ∧ _ ∧ _ ∧ AllLt _ _).2.2.2
        | exact (by with_reducible assumption : _ ∧ _ ∧ _ ∧ _ ∧ AllLt _ _).2.2.2.2
        | exact (by with_reducible assumption : _ ∧ _ ∧ _ ∧ _ ∧ _ ∧ AllLt _ _).2.2.2.2.2
        | exact (by with_reducible assumption : _ ∧ _ ∧ _ ∧ _ ∧ _ ∧ _ ∧ AllLt _ _).2.2.2.2.2.2
        | exact (by with_reducible assumption : _ ∧ _ ∧ _ ∧ _ ∧ _ ∧ _ ∧ _ ∧ AllLt _ _).2.2.2.2.2.2.2
        | exact (by with_reducible assumption : _ ∧ _ ∧ _ ∧ _ ∧ _ ∧ _ ∧ _ ∧ _ ∧ AllLt _ _).2.2.2.2.2.2.2.2
        | exact (by with_reducible assumption : _ ∧ _ ∧ _ ∧ _ ∧ _ ∧ _ ∧ _ ∧ _ ∧ _ ∧ AllLt _ _).2.2.2.2.2.2.2.2.2
        | exact (by with_reducible assumption : _ ∧ _ ∧ _ ∧ _ ∧ _ ∧ _ ∧ _ ∧ _ ∧ _ ∧ _ ∧ AllLt _ _).2.2.2.2.2.2.2.2.2.2
  k_with "m_pc" => first
        | exact .inl ⟨rfl, by with_reducible assumption, by with_reducible assumption⟩
        | exact .inr (.inl ⟨rfl, by with_reducible assumption, by with_reducible assumption⟩)
        | exact .inr (.inr (.inl ⟨rfl, getD_mem (by assumption), rfl⟩))
        | exact .inr (.inr (.inl ⟨rfl, by with_reducible assumption, rfl⟩))
        | exact .inr (.inr (.inr (.inl ⟨rfl, by with_reducible assumption, rfl⟩)))
        | exact .inr (.inr (.inr (.inr (.inl ⟨rfl, _, by with_reducible assumption, by with_reducible assumption, rfl, rfl⟩))))
        | exact .inr (.inr (.inr (.inr (.inr ⟨rfl, by decide +kernel⟩))))
  k_with "m_fin" => (
        refine' out_piece ?oR_234 ?oF_234 ?oN_234 ?oB_234 ?o1_234 ?o2_234 ?oD_234 ?oT_234 ?oBm_234 ?oC_234 ?o5_234 ?l1_234 ?l2_234 ?l3_234 ?l4_234 ?op_234
        (case oR_234 => with_reducible assumption)
        (case oF_234 => with_reducible assumption)
        (case oN_234 => with_reducible assumption)
        (case oB_234 => with_reducible assumption)
        (case o1_234 => omega)
        (case o2_234 => omega)
        (case oD_234 => k_mem)
        (case oT_234 => k_mem)
        (case oBm_234 => k_mem)
        (case oC_234 => k_mem)
        (case o5_234 => (intro q hq; repeat (first | exact hq | refine List.Mem.tail _ ?_)))
        (case l1_234 => k_extra "m_allLt")
        (case l2_234 => show @LT.lt Nat _ _ _; omega)
        (case l3_234 => show @LT.lt Nat _ _ _; omega)
        (case l4_234 => show @LT.lt Nat _ _ _; omega)
        (case op_234 => k_extra "m_pc"))
  w_top off
  k_fill
  intro mean mg mb dp un gd cn cs ad ccd cl outer A₀ base h₀ L m s Q E B' F X N T hk hd' hu hret hthr
  k_extra "m_open"
  k_steps
  all_goals first
  | k_extra "m_fin"
end Mine
end
section
open PySem PySem.W PyProof.Rows
namespace Mine
def tails6 : List (List Tk × Str) :=
  [([], Str.ofString ""), ([(Str.ofString "rem", Str.ofString "it's: \"so")], Str.ofString " REM it's: \"so"), ([(Str.ofString "rem", Str.ofString " x")], Str.ofString " '  x"), ([(Str.ofString "rem", Str.ofString "")], Str.ofString " rem"),
    ([(Str.ofString "sign", Str.ofString ":"), (Str.ofString "word", Str.ofString "DATA"), (Str.ofString "raw", Str.ofString "1, \"a:b\" ,x")], Str.ofString ": data   1, \"a:b\" ,x "), ([(Str.ofString "sign", Str.ofString ":"), (Str.ofString "word", Str.ofString "PRINT"), (Str.ofString "sign", Str.ofString "#")], Str.ofString ":?#")]
def OutTail (news : List (Addr × Obj)) (nw : List (Addr × Obj)) (r : Value) : Prop :=
  ∃ (D ML : Addr) (vs : List Value) (c : Nat) (toks : List Tk) (z : Str) (t : Tok) (n : Nat) (mid : List (Addr × Obj)), nw = (D, { cls := .type "tuple", data := .seq #[.ref ML, .str z t] n }) :: (ML, W.listOf vs.toArray c) :: mid ∧ (∀ q ∈ news, q ∈ mid) ∧ DatAll mid vs (toks.map tkD) ∧ (toks, z) ∈ tails6 ∧ r = .ref D
theorem out_tail {news big : List (Addr × Obj)} {h₀ h' : Heap} {L : Addr} {m : Str → Option Value} {s : Shared} {Q : Value → Shared → Prop} {tk' : Nat} {D ML : Addr} {vs : List Value} {toks : List Tk} {z : Str} {t : Tok} {n c : Nat}
    (hret : ∀ r nw h' tk', Fr h₀ L h' m → News h₀ L h' nw → OutTail news nw r → Q r { s with heap := h', toks := tk' })
    (F : Fr h₀ L h' m) (N : News h₀ L h' big) (h1 : (D, ({ cls := .type "tuple", data := .seq #[.ref ML, .str z t] n } : Obj)) ∈ big) (h2 : (ML, W.listOf vs.toArray c) ∈ big) (hin : (toks, z) ∈ tails6) (A : DatAll big vs (toks.map tkD)) (h5 : ∀ q ∈ news, q ∈ big) : Q (.ref D) { s with heap := h', toks := tk' } := by
  refine hret _ ((D, { cls := .type "tuple", data := .seq #[.ref ML, .str z t] n }) :: (ML, W.listOf vs.toArray c) :: big) _ _ F ?_ ⟨D, ML, vs, c, toks, z, t, n, big, rfl, h5, A, hin, rfl⟩
  intro q hq
  rcases List.mem_cons.mp hq with rfl | hq
  · exact N _ h1
  rcases List.mem_cons.mp hq with rfl | hq
  · exact N _ h2
  · exact N _ hq
theorem tTail (w : World) (news : List (Addr × Obj)) (B C : Addr) (o : Obj) (ws : List Value) (cells : List Int) (c : Nat) (took : Int) (hBag : Bag w C o took)
    (hI : IntsAre ws cells) (hlen : cells.length ≤ 40) (h1 : took ≤ 900) (hb : ∀ p ∈ (C, W.listOf ws.toArray c) :: news, p.1 ≠ B) (hcb : C ≠ B) :
    Tel w 205 12 ((B, o) :: (C, W.listOf ws.toArray c) :: news) [.ref B] (OutTail news) False := by
  unfold Tel
  k_with_none
  k_with "m_open" => (
        refine wpAny_call ?_
        k_dflt ktr_enter)
  k_with "m_use" => (
        (case k1 => k_asm); (case k2 => k_asm); (case k3 => k_asm); (case k4 => k_asm); (case k5 => k_asm); (case kK => first | exact rfl | assumption); (case kd => first | omega | ktr_room); (case ku => first | omega | ktr_units))
  k_with "my ite" => (k_here; first
        | with_reducible refine ite_tt ?_
        | with_reducible refine ite_ff ?_
        | with_reducible refine ite_True_then ?_
        | with_reducible refine ite_False_else ?_
        | (refine ite_pos (by with_reducible assumption) ?_)
        | (refine ite_neg (by with_reducible assumption) ?_)
        | (refine ite_isFalse (by with_reducible assumption) ?_)
        | with_reducible refine split_not ?_
        | (with_reducible refine split_ine ?_ ?_ <;> intro _)
        | (with_reducible refine split_ieq ?_ ?_ <;> intro _)
        | (refine split_dec ?_ ?_ <;> intro _)
        | (refine split_bool ?_ ?_ <;> intro _))
  k_with "m_updB" => first
        | (refine' UpdF.head ?ua_238; (case ua_238 => with_reducible assumption))
        | (refine' UpdF.tail ?ua_238 ?ub_238; (case ua_238 => k_ne); (case ub_238 => k_extra "m_updB"))
  k_with "my call ref" => (
        k_here
        (with_reducible show wpAny _ _ (call (Value.ref 191) [Value.ref _, Value.int _ _]) _ _ _)
        k_dflt (refine' use_tel (tTake' _ _ _ _ _ _ _ _ _ _ _ _ ?hB_239 ?hI_239 ?hlen_239 ?h1_239 ?hU_239 ?hcb_239 ?hC_239 ?hm_239 ?hmq_239) ?k1 ?k2 ?k3 ?k4 ?k5 ?kK ?kd ?ku ?_ (fun _ _ _ _ z => False.elim z))
        (case k4 => k_asm)
        (case hB_239 => with_reducible assumption)
        (case hI_239 => with_reducible assumption)
        (case hU_239 => k_extra "m_updB")
        (case hlen_239 => assumption)
        (case h1_239 => omega)
        (case hcb_239 => assumption)
        (case hC_239 => k_mem)
        (case hm_239 => decide)
        (case hmq_239 => decide)
        (case k1 => k_asm); (case k2 => k_asm); (case k3 => k_asm); (case k5 => k_asm); (case kK => first | exact rfl | assumption); (case kd => first | omega | ktr_room); (case ku => first | omega | ktr_units)
        intro r9 nw9 h9 tk9 F9 N9 O9
        obtain ⟨o9, i9, t9, B9, e9, e9', g9, g9'⟩ := O9
        subst e9
        subst e9'
        try dsimp only
        try k_fold)
  k_with "my subscriptTail" => (
        k_here
        (with_reducible show wpAny _ _ (subscriptTail _ _ (Value.ref _) (Value.int _ _)) _ _ _)
        (with_unfolding_all refine' m_itemS (n := 200) ?N_240 ?m_240 ?v_240 ?a_240 ?b_240 ?z_240 ?hl_240 ?_ ?hs_240)
        (case N_240 => k_asm)
        (case m_240 => k_mem)
        (case v_240 => (repeat' constructor); done)
        (case a_240 => assumption)
        (case b_240 => simp only [List.length_cons, List.length_nil]; omega)
        (case z_240 => simp only [List.length_cons, List.length_nil]; decide)
        (case hs_240 => with_unfolding_all rfl)
        (case hl_240 => exact two_len (by with_reducible assumption) (by with_reducible assumption))
        intro y9 t9 m9 n9)
  k_with "my subscriptTail" => (
        k_here
        (with_reducible show wpAny _ _ (subscriptTail _ _ (Value.ref _) (Value.int _ _)) _ _ _)
        (with_unfolding_all refine' m_itemS (n := 50) ?N_241 ?m_241 ?v_241 ?a_241 ?b_241 ?z_241 ?hl_241 ?_ ?hs_241)
        (case N_241 => k_asm)
        (case m_241 => k_mem)
        (case v_241 => (repeat' constructor); done)
        (case a_241 => assumption)
        (case b_241 => simp only [List.length_cons, List.length_nil]; omega)
        (case z_241 => simp only [List.length_cons, List.length_nil]; decide)
        (case hs_241 => with_unfolding_all rfl)
        (case hl_241 => decide +kernel)
        intro y9 t9 m9 n9)
  k_with "my subscriptTail" => (
        k_here
        (with_reducible show wpAny _ _ (subscriptTail (PySem.Expr.Name (Str.ofString "some") _) _ (Value.ref _) (Value.int _ _)) _ _ _)
        (with_unfolding_all refine' m_item6 ?N_242 ?m_242 ?a_242 ?b_242 ?_ ?_ ?_ ?_ ?_ ?_ ?hs_242)
        (case N_242 => k_asm)
        (case m_242 => k_mem)
        (case a_242 => assumption)
        (case b_242 => assumption)
        (case hs_242 => with_unfolding_all rfl))
  k_with "my call builtin:str.upper" => (
        k_here
        (with_reducible show wpAny _ _ (call (Value.builtin "str.upper") [Value.str _ _]) _ _ _)
        refine SCL.upper ?hfit_243 ?_
        (case hfit_243 => first | omega | exact Nat.le_trans (getD_len (by decide +kernel)) (by decide))
        intro _)
  k_with "my call builtin:str.lower" => (
        k_here
        (with_reducible show wpAny _ _ (call (Value.builtin "str.lower") [Value.str _ _]) _ _ _)
        refine SCL.lower ?hfit_244 ?_
        (case hfit_244 => first | omega | exact Nat.le_trans (getD_len (by decide +kernel)) (by decide))
        intro _)
  k_with "m_allLt" => first
        | with_reducible assumption
        | exact (by with_reducible assumption : _ ∧ AllLt _ _).2
        | exact (by with_reducible assumption : _ ∧ _ ∧ AllLt _ _).2.2
        | exact (by with_reducible assumption : _ ∧ _ ∧ _ ∧ AllLt _ _).2.2.2
        | exact (by with_reducible assumption : _ ∧ _ ∧ _ ∧ _ ∧ AllLt _ _).2.2.2.2
        | exact (by with_reducible assumption : _ ∧ _ ∧ _ ∧ _ ∧ _ ∧ AllLt _ _).2.2.2.2.2
        | exact (by with_reducible assumption : _ ∧ _ ∧ _ ∧ _ ∧ _ ∧ _ ∧ AllLt _ _).2.2.2.2.2.2
        | exact (by with_reducible assumption : _ ∧ _ ∧ _ ∧ _ ∧ _ ∧ _ ∧ _ ∧ AllLt _ _).2.2.2.2.2.2.2
        | exact (by with_reducible assumption : _ ∧ _ ∧ _ ∧ _ ∧ _ ∧ _ ∧ _ ∧ _ ∧ AllLt _ _).2.2.2.2.2.2.2.2
        | exact (by with_reducible assumption : _ ∧ _ ∧ _ ∧ _ ∧ _ ∧ _ ∧ _ ∧ _ ∧ _ ∧ AllLt _ _).2.2.2.2.2.2.2.2.2
        | exact (by with_reducible assumption : _ ∧ _ ∧ _ ∧ _ ∧ _ ∧ _ ∧ _ ∧ _ ∧ _ ∧ _ ∧ AllLt _ _).2.2.2.2.2.2.2.2.2.2
  k_with "m_pc" => first
        | exact .inl ⟨rfl, by with_reducible assumption, by with_reducible assumption⟩
        | exact .inr (.inl ⟨rfl, by with_reducible assumption, by with_reducible assumption⟩)
        | exact .inr (.inr (.inl ⟨rfl, getD_mem (by assumption), rfl⟩))
        | exact .inr (.inr (.inl ⟨rfl, by with_reducible assumption, rfl⟩))
        | exact .inr (.inr (.inr (.inl ⟨rfl, by with_reducible assumption, rfl⟩)))
        | exact .inr (.inr (.inr (.inr (.inl ⟨rfl, _, by with_reducible assumption, by with_reducible assumption, rfl, rfl⟩))))
        | exact .inr (.inr (.inr (.inr (.inr ⟨rfl, by decide +kernel⟩))))
  k_with "m_fin" => (
        refine' out_piece ?oR_247 ?oF_247 ?oN_247 ?oB_247 ?o1_247 ?o2_247 ?oD_247 ?oT_247 ?oBm_247 ?oC_247 ?o5_247 ?l1_247 ?l2_247 ?l3_247 ?l4_247 ?op_247
        (case oR_247 => with_reducible assumption)
        (case oF_247 => with_reducible assumption)
        (case oN_247 => with_reducible assumption)
        (case oB_247 => with_reducible assumption)
        (case o1_247 => omega)
        (case o2_247 => omega)
        (case oD_247 => k_mem)
        (case oT_247 => k_mem)
        (case oBm_247 => k_mem)
        (case oC_247 => k_mem)
        (case o5_247 => (intro q hq; repeat (first | exact hq | refine List.Mem.tail _ ?_)))
        (case l1_247 => k_extra "m_allLt")
        (case l2_247 => show @LT.lt Nat _ _ _; omega)
        (case l3_247 => show @LT.lt Nat _ _ _; omega)
        (case l4_247 => show @LT.lt Nat _ _ _; omega)
        (case op_247 => k_extra "m_pc"))
  k_with "my subscriptTail" => (
        k_here
        (with_reducible show wpAny _ _ (subscriptTail _ _ (Value.ref _) (Value.int _ _)) _ _ _)
        (with_unfolding_all refine' m_item6 ?N_248 ?m_248 ?a_248 ?b_248 ?_ ?_ ?_ ?_ ?_ ?_ ?hs_248)
        (case N_248 => k_asm)
        (case m_248 => k_mem)
        (case a_248 => assumption)
        (case b_248 => assumption)
        (case hs_248 => with_unfolding_all rfl))
  k_with "m_in6" => first
        | exact .head _
        | exact .tail _ (.head _)
        | exact .tail _ (.tail _ (.head _))
        | exact .tail _ (.tail _ (.tail _ (.head _)))
        | exact .tail _ (.tail _ (.tail _ (.tail _ (.head _))))
        | exact .tail _ (.tail _ (.tail _ (.tail _ (.tail _ (.head _)))))
  k_with "m_dat" => first
        | exact .nil
        | (refine' DatAll.cons (.tuple (vs := [.str _ _, .str _ _]) ?da_250 (.cons (.str _ _) (.cons (.str _ _) .nil))) ?db_250; (case da_250 => k_mem); (case db_250 => k_extra "m_dat"))
  k_with "m_fint" => (
        refine' out_tail ?oR_251 ?oF_251 ?oN_251 ?oD_251 ?oM_251 ?oI_251 ?oA_251 ?o5_251
        (case oR_251 => with_reducible assumption)
        (case oF_251 => with_reducible assumption)
        (case oN_251 => with_reducible assumption)
        (case oD_251 => k_mem)
        (case oM_251 => k_mem)
        (case oI_251 => k_extra "m_in6")
        (case oA_251 => (simp only [List.map_cons, List.map_nil, tkD]; k_extra "m_dat"))
        (case o5_251 => (intro q hq; repeat (first | exact hq | refine List.Mem.tail _ ?_))))
  w_top off
  k_fill
  intro mean mg mb dp un gd cn cs ad ccd cl outer A₀ base h₀ L m s Q E B' F X N T hk hd' hu hret hthr
  k_extra "m_open"
  k_steps
  all_goals k_extra "m_fint"
end Mine
end
section
open PySem PySem.W PyProof.Rows
namespace Mine
def Stop (P : Prop) : Prop := P
theorem stopHere {P : Prop} (h : Stop P) : P := h
/-- as Tel, of a call from the outermost frame; nothing is raised -/
def TelE (w : World) (f : Addr) (n : Nat) (news : List (Addr × Obj)) (vs : List Value) (Out : List (Addr × Obj) → Value → Prop) : Prop :=
  ∀ (mean : ExcName → Option Value) (mg mb : Str → Option Value) (dp un : Nat) (gd : Option (List Code)) (cn : Str) (cs : Scope) (a : Addr) (ccd : Value) (A₀ : Around) (h₀ : Heap) (L : Addr) (m : Str → Option Value) (s : Shared)
    (Q E : Value → Shared → Prop),
    Below A₀ h₀ [] h₀ → Fr h₀ L s.heap m → (hd.heap_39 w.params).In h₀ → News h₀ L s.heap news →
    Top hd.view_39 (looseW hd.view_39 [Str.ofString "BasicError", Str.ofString "PAIRS"]) mean mg mb h₀ → cs.kind = .function → dp + n < recursionLimit → un + 8 * n < cLine →
    (∀ r nw h' tk', Fr h₀ L h' m → News h₀ L h' nw → Out nw r → Q r { s with heap := h', toks := tk' }) →
    wpAny (model (PySem.Challenge.rw_pq0174_01.row.prog) w) (ktrTop dp un gd cn cs L a ccd [] []) (call (.ref f) vs) Q E s
theorem fr_turn {h₀ g g' : Heap} {L : Addr} {m : Str → Option Value} (F : Fr h₀ L g m) (T : KtsTurn [L] g g') : Fr h₀ L g' m := by
  obtain ⟨⟨o, es, ep, e, r⟩, k, ab⟩ := F
  obtain ⟨sl, e'⟩ := T.frame L o e (.head _)
  refine ⟨⟨_, es, ep, e', r⟩, fun b o q => T.other b o (k b o q) ?_, ab⟩
  intro hb
  rw [List.mem_singleton.mp hb] at q
  exact absurd (Heap.lt_size q) (Nat.not_lt.mpr ab)
theorem fr_dicts {h₀ g : Heap} {L : Addr} {m : Str → Option Value} (F : Fr h₀ L g m) : KtsDicts [L] g := fun b hb => by
  obtain ⟨⟨o, es, ep, e, r, _⟩, k, ab⟩ := F
  rw [List.mem_singleton.mp hb]
  exact ⟨o, es, ep, e, r⟩
def runBad (x : Str) (R : Option (List Tk)) : Bool := decide (255 < x.length) || R.isNone
theorem tRefused (w : World) (news : List (Addr × Obj)) (x : Str) (t : Tok) (hx : x.length ≤ 1000) {R : Option (List Tk)} (hR : Run (suf x (cnt isBl (suf x 0))) R) :
    TelE w 219 12 news [.str x t] (OutB news (runBad x R)) := by
  unfold TelE
  k_with_none
  k_with "m_open" => (
        refine wpAny_call ?_
        k_dflt ktr_enter)
  k_with "m_use" => (
        (case k1 => k_asm); (case k2 => k_asm); (case k3 => k_asm); (case k4 => k_asm); (case k5 => k_asm); (case kK => first | exact rfl | assumption); (case kd => first | omega | ktr_room); (case ku => first | omega | ktr_units))
  k_with "my ite" => (k_here; first
        | with_reducible refine ite_tt ?_
        | with_reducible refine ite_ff ?_
        | with_reducible refine ite_True_then ?_
        | with_reducible refine ite_False_else ?_
        | (refine ite_pos (by with_reducible assumption) ?_)
        | (refine ite_neg (by with_reducible assumption) ?_)
        | (refine ite_isFalse (by with_reducible assumption) ?_)
        | with_reducible refine split_not ?_
        | (with_reducible refine split_ine ?_ ?_ <;> intro _)
        | (with_reducible refine split_ieq ?_ ?_ <;> intro _)
        | (refine split_dec ?_ ?_ <;> intro _)
        | (refine split_bool ?_ ?_ <;> intro _))
  k_with "m_use5" => (
        (case k1 => k_asm); (case k2 => k_asm); (case k3 => k_asm); (case k4 => k_asm); (case k5 => k_asm); (case kK => first | exact rfl | assumption); (case kd => first | omega | ktr_room); (case ku => first | omega | ktr_units))
  w_top off
  k_fill
  intro mean mg mb dp un gd cn cs ad ccd A₀ h₀ L m s Q E B F X N T hk hd hu hret
  refine wpAny_call ?_
  refine' code_defS0 ?k1 ?k2 ?k3 ?k4 ?k5 ?kF ?k6 ?k7 ?k8 ?k9 ?kB ?_ ?c1 ?c2 ?c3 ?c4 ?c5
  (case kF => exact rfl)
  (case c1 => assumption)
  (case k1 => k_asm); (case k2 => k_asm); (case k3 => k_asm); (case k4 => k_asm); (case k5 => k_asm)
  (case k6 => k_is); (case k7 => k_is); (case k8 => ktr_room); (case k9 => exact BindsTo.of_eq rfl); (case c5 => decide); (case kB => exact locs rfl); (case c2 => exact rfl); (case c3 => exact rfl); (case c4 => exact rfl)
  intro g' L' h' FG' F' N' B' X' T' D'
  dsimp only
  try k_fold
  k_with "call ref" => (k_dflt (refine' use_tel (tToksOf _ _ _ _ ?hx hR) ?k1 ?k2 ?k3 ?k4 ?k5 ?kK ?kd ?ku ?main ?hthr); (case hx => omega); k_extra "m_use5"; (case' hthr => intro e9 g9 h9 tk9 t9 F9 R9 U9; refine stopHere ?_); (case' main => intro r9 nw9 h9 tk9 F9 N9 O9; obtain ⟨ts9, p9, e9, D9, vs9, c9, mid9, e9', A9, l9, l9', v9, e9''⟩ := O9; subst e9'; subst e9''; (try dsimp only); (try k_fold)))
  k_steps
  · refine hret _ _ _ _ (by assumption) (fun q hq => (by assumption : News h₀ L _ _) q (List.mem_append_right _ (.tail _ hq))) ⟨rfl, ?_⟩
    unfold runBad
    rw [e9]
    simp
    omega
  · unfold Stop
    refine kts_lookSN R9 F9 B' U9 D' ?_
    intro h8 R8 U8
    refine' hit_SN0 (KF := Mine.hd.heap_39 w.params) (g₀ := g') ?hR ?hF ?hK ?hU ?hXB ?hTB ?hD ?hT0 ?hT ?_
    case hR => exact R8
    case hF => exact F9
    case hK => exact B'
    case hU => exact U8
    case hXB => exact X
    case hTB => exact T
    case hD => exact D'
    case hT0 => exact KtsTurn.refl
    case hT => kts_test
    intro h7 g7 T7 F7 N7 K7 X7 P7 D7
    clear R8 U8 R9 U9 F9 F' N' B' X' T' D'
    dsimp only
    k_steps
    refine hret _ _ _ _ (by assumption) (by assumption) ⟨rfl, ?_⟩
    unfold runBad
    rcases t9 with z | z
    · simp [z]
    · rw [z]; simp
end Mine
end
section
open PySem PySem.W PyProof.Rows
namespace Mine
def LawPost (h₀ : Heap) (L : Addr) (J : (Str → Option Value) → List (Addr × Obj) → Prop) (own : List (Addr × Obj)) (s₁ : Shared) (Q : Flow → Shared → Prop) (f : Flow) (s₂ : Shared) : Prop :=
  match f with
  | .ret v => Q (.ret v) s₂
  | .brk => Q .next s₂
  | _ => ∃ h' tk m₂ news₂, s₂ = { s₁ with heap := h', toks := tk } ∧ Fr h₀ L h' m₂ ∧ News h₀ L h' (news₂ ++ own) ∧ (∀ p ∈ own, ∀ q ∈ news₂, p.1 ≠ q.1) ∧ J m₂ news₂
section
variable {prog : Program} {w : World} {A : Around} {E : Value → Shared → Prop} {s : Shared} {env : Env} {h₀ : Heap} {x : Str} {body : List Stmt} {Q : Flow → Shared → Prop}
theorem iter_rangeG {r : Addr} {a₀ b₀ : Int} {t₀ u₀ v₀ : Tok} {n : Nat} {m₀ : Str → Option Value} {news : List (Addr × Obj)}
    (J : Nat → (Str → Option Value) → List (Addr × Obj) → Prop)
    (hh : A.handled = none) (hr : IsRange s.heap r a₀ b₀ 1 t₀ u₀ v₀) (hsmall : Builtin.Range.small a₀ b₀ 1 = true) (hn : Builtin.Range.rangeSize a₀ b₀ 1 = (n : Int)) (F : Fr h₀ env.locals s.heap m₀) (N : News h₀ env.locals s.heap news) (hJ : J 0 m₀ news)
    (turn : ∀ i v m₁ news₁ h tk own, i < n → J i m₁ news₁ → (∀ p ∈ own, ∀ q ∈ news₁, p.1 ≠ q.1) → Fr h₀ env.locals h (fun y => if y = x then some v else m₁ y) → News h₀ env.locals h (news₁ ++ own) →
      wpAny (model prog w) A (execs body env) (LawPost h₀ env.locals (J (i + 1)) own { s with heap := h, toks := tk } Q) E { s with heap := h, toks := tk })
    (done : ∀ m₁ news₁ h tk, J n m₁ news₁ → Fr h₀ env.locals h m₁ → News h₀ env.locals h news₁ → Q .next { s with heap := h, toks := tk }) :
    wpAny (model prog w) A (pyIter (.ref r)) (fun it s₂ => LoopAtV prog w A h₀ env x body Q E it s₂) E s := by
  refine wpAny_pyIter_range hr hsmall ?_
  have W : Walks prog w A s.heap.objs.size [s.heap.objs.size] [s.heap.objs.size] n (fun i v => i < n ∧ ∃ t, v = .int (a₀ + i * 1) t)
      (fun i h => IsRangeIter h s.heap.objs.size (a₀ + (i : Nat) * 1) ((n : Int) - (i : Nat)) 1) := (Walks.range hh _ a₀ 1 n).bound
  refine ⟨s.heap.objs.size, [s.heap.objs.size], [s.heap.objs.size], n, _, _, m₀, news, J, rfl, W, ?_, ?_, ?_, (by show IsRangeIter _ _ _ _ _; rw [hn]; simpa using Heap.get?_push_size _ rfl), F.push _, (fun p hp => ⟨Heap.get?_push_of_some _ (N p hp).1, (N p hp).2⟩), hJ, ?_, ?_⟩
  · intro hm
    exact absurd F.ns.lt ((List.mem_singleton.mp hm) ▸ Nat.lt_irrefl _)
  · intro b hb
    rw [List.mem_singleton.mp hb]
    exact next_is_new F
  · intro p hp hI
    exact absurd (Heap.lt_size (N p hp).1) ((List.mem_singleton.mp hI) ▸ Nat.lt_irrefl _)
  · rintro i v m₁ news₁ s₁ own ⟨hh', tk', rfl⟩ hin hP hJ' hoff hown hownh hall hst' F₁ N₁
    have hap : ∀ p ∈ own, ∀ q ∈ news₁, p.1 ≠ q.1 := by
      intro p hp q hq e
      exact hoff q hq (e ▸ hown p hp)
    have N₂ : News h₀ env.locals hh' (news₁ ++ own) := fun p hp => N₁ p ((List.mem_append.mp hp).elim (fun h => List.mem_append.mpr (.inr h)) fun h => List.mem_append.mpr (.inl h))
    refine wpAny_mono (turn i v m₁ news₁ hh' tk' own hin hJ' hap F₁ N₂) (fun f s₂ p => ?_) fun _ _ e => e
    have hI : ∃ o, (s.heap.objs.size, o) ∈ own := ⟨_, hall _ (List.mem_singleton.mpr rfl) (next_is_new F) _ hst'⟩
    obtain ⟨oI, hI⟩ := hI
    have fin : (∃ h' tk m₂ news₂, s₂ = { s with heap := h', toks := tk } ∧ Fr h₀ env.locals h' m₂ ∧ News h₀ env.locals h' (news₂ ++ own) ∧ (∀ p ∈ own, ∀ q ∈ news₂, p.1 ≠ q.1) ∧ J (i + 1) m₂ news₂) → LoopStepU h₀ env.locals [s.heap.objs.size] own (J (i + 1)) { s with heap := hh', toks := tk' } .next s₂ := by
      rintro ⟨h', tk, m', news', e, F', N', ho, hm⟩
      refine ⟨rfl, h', tk, m', news', e, F', fun p hp => N' p ((List.mem_append.mp hp).elim (fun h => List.mem_append.mpr (.inr h)) fun h => List.mem_append.mpr (.inl h)), fun p hp hq => ?_, hm⟩
      exact ho _ hI p hp (List.mem_singleton.mp hq).symm
    cases f with
    | ret v => exact .ret p
    | brk => exact .brk p
    | next => exact .next (fin p)
    | cont => exact .cont (fin p)
  · intro h' tk m' news' F' N' _ hJ'
    exact done m' news' h' tk hJ' F' N'
end
end Mine
end
section
open PySem PySem.W PyProof.Rows
namespace Mine
def blanks3 : List Str := [Str.ofString " ", Str.ofString "  ", Str.ofString "\t"]
/-- the rows that may be drawn, and their tokens -/
inductive Drawn : Str → List Tk → Prop
  | nil : Drawn (Str.ofString "") []
  | add {row : Str} {ts : List Tk} {k y z b : Str} : Drawn row ts → Pc k y z → b ∈ blanks3 → (∀ p, ts.getLast? = some p → ¬ (isOrdT p = true ∧ isOrdT (k, y) = true)) → Drawn (row ++ b ++ z) (ts ++ [(k, y)])
abbrev mmL (B FL : Addr) (row : Str) (tr : Tok) (f : Str → Option Value) : Str → Option Value :=
  fun y => if y = Str.ofString "row" then some (.str row tr) else if y = Str.ofString "found" then some (.ref FL) else if y = Str.ofString "bag" then some (.ref B) else f y
theorem mmL_eq {m : Str → Option Value} {B FL : Addr} {row : Str} {tr : Tok} (h1 : m (Str.ofString "row") = some (.str row tr)) (h2 : m (Str.ofString "found") = some (.ref FL)) (h3 : m (Str.ofString "bag") = some (.ref B)) : m = mmL B FL row tr m := by
  funext y
  unfold mmL
  by_cases e1 : y = Str.ofString "row"
  · subst e1; rw [if_pos rfl]; exact h1
  rw [if_neg e1]
  by_cases e2 : y = Str.ofString "found"
  · subst e2; rw [if_pos rfl]; exact h2
  rw [if_neg e2]
  by_cases e3 : y = Str.ofString "bag"
  · subst e3; rw [if_pos rfl]; exact h3
  rw [if_neg e3]
def tkOk (t : Tk) : Prop := PyData.strOk t.1 = true ∧ PyData.strOk t.2 = true
def LawInv (w : World) (B C FL : Addr) (lst : Obj) (i : Nat) (m : Str → Option Value) (news : List (Addr × Obj)) : Prop :=
  ∃ (o : Obj) (took : Int) (vs : List Value) (c : Nat) (mid : List (Addr × Obj)) (ts : List Tk) (row : Str) (tr : Tok) (f : Str → Option Value),
    m = mmL B FL row tr f ∧ news = (B, o) :: (C, lst) :: (FL, W.listOf vs.toArray c) :: mid ∧ Bag w C o took ∧ took ≤ 1 + 4 * (i : Int) ∧ DatAll mid vs (ts.map tkD) ∧ (∀ p ∈ mid, p.1 ≠ B) ∧ (∀ p ∈ mid, p.1 ≠ FL) ∧
    Drawn row ts ∧ ts.length ≤ i ∧ row.length ≤ 200 * i ∧ (∀ t ∈ ts, tkOk t)
section
variable {prog : Program} {w : World} {A : Around} {E : Value → Shared → Prop} {s : Shared} {h₀ : Heap} {L a b l : Addr} {news mid : List (Addr × Obj)} {xs ys vs : List Value} {ka kb c : Nat} {ts us : List Tk} {Q : Value → Shared → Prop}
theorem tk_kqd (h : ∀ t ∈ ts, tkOk t) : ∀ d ∈ ts.map tkD, kqdOk 8 d = true := by
  intro d hd
  obtain ⟨t, ht, rfl⟩ := List.mem_map.mp hd
  have := h t ht
  simp [tkD, kqdOk, this.1, this.2]
theorem tkD_inj {ts us : List Tk} : ts.map tkD = us.map tkD ↔ ts = us := by
  constructor
  · intro h
    exact List.map_inj_right (fun x y e => by
      obtain ⟨x1, x2⟩ := x
      obtain ⟨y1, y2⟩ := y
      simp only [tkD, Dat.tuple.injEq, List.cons.injEq, Dat.str.injEq, and_true] at e
      rw [e.1, e.2]) |>.mp h
  · intro h; rw [h]
theorem lists_ne (N : News h₀ L s.heap news) (ma : (a, W.listOf xs.toArray ka) ∈ news) (mb : (b, W.listOf ys.toArray kb) ∈ news) (Da : DatAll news xs (ts.map tkD)) (Db : DatAll news ys (us.map tkD)) (ha : ∀ t ∈ ts, tkOk t) (hb : ∀ t ∈ us, tkOk t)
    (hu : A.units + 64 < cLine) (h : ∀ q : Bool, (q = true ↔ ts ≠ us) → Q (.bool q) s) : wpAny (model prog w) A (compareOp .NotEq (.ref a) (.ref b)) Q E s := by
  refine kqd_ne N ma rfl rfl Da (fun _ h => h) mb rfl rfl Db (fun _ h => h) (tk_kqd ha) (tk_kqd hb) hu (h _ ?_)
  rw [Bool.not_eq_true', decide_eq_false_iff_not, ne_eq, tkD_inj]
theorem lists_same (N : News h₀ L s.heap news) (ma : (a, W.listOf xs.toArray ka) ∈ news) (mb : (b, W.listOf ys.toArray kb) ∈ news) (Da : DatAll news xs (ts.map tkD)) (Db : DatAll news ys (ts.map tkD)) (ha : ∀ t ∈ ts, tkOk t)
    (hu : A.units + 64 < cLine) (h : Q (.bool false) s) : wpAny (model prog w) A (compareOp .NotEq (.ref a) (.ref b)) Q E s := by
  refine lists_ne N ma mb Da Db ha ha hu fun q hq => ?_
  have : q = false := by
    cases q
    · rfl
    · exact absurd rfl (hq.mp rfl)
  rw [this]; exact h
theorem dat_last : ∀ {vs : List Value} {ts : List Tk}, DatAll mid vs (ts.map tkD) → ∀ p, ts.getLast? = some p → ∃ a t1 t2 n, vs.getLast? = some (.ref a) ∧ (a, tkO p.1 p.2 t1 t2 n) ∈ mid
  | _, [], _, p, h => by cases h
  | _, [t], .cons h .nil, p, e => by
    obtain ⟨a, t1, t2, n, rfl, hm⟩ := dat_tok h
    cases e
    exact ⟨a, t1, t2, n, rfl, hm⟩
  | _, t :: u :: r, .cons h (.cons h' A), p, e => by
    rw [List.getLast?_cons_cons] at e ⊢
    exact dat_last (ts := u :: r) (.cons h' A) p e
theorem m_lastD {value slice : PySem.Expr} {u : Tok} (N : News h₀ L s.heap news) (hm : (l, W.listOf vs.toArray c) ∈ news) (D : DatAll mid vs (ts.map tkD)) (hne : ts ≠ []) (hz : vs.length ≤ 1000)
    (h : ∀ a p t1 t2 n, ts.getLast? = some p → (a, tkO p.1 p.2 t1 t2 n) ∈ mid → Q (.ref a) s)
    (hs : subscripted slice false (.ref l) (.int (-1) u) = operate [.ref l, .int (-1) u] (getItem (.ref l) (.int (-1) u)) := by with_unfolding_all rfl) :
    wpAny (model prog w) A (subscriptTail value slice (.ref l) (.int (-1) u)) Q E s := by
  obtain ⟨p, hp⟩ : ∃ p, ts.getLast? = some p := ⟨_, List.getLast?_eq_some_getLast hne⟩
  obtain ⟨a, t1, t2, n, hv, ha⟩ := dat_last D p hp
  have hvs : 1 ≤ vs.length := by
    cases vs with
    | nil => cases hv
    | cons _ _ => simp
  refine kde_neg (j := vs.length - 1) (News.isList N hm) (by decide) (by decide) ?_ (by rw [← List.getLast?_eq_getElem?]; exact hv) (h a p t1 t2 n hp ha) hs
  unfold seqIndex?
  simp
  omega
end
end Mine
end
section
open PySem PySem.W PyProof.Rows
namespace Mine
theorem kinds_ok {x y : Str} (h : PyData.strOk x = true) : PyData.strOk ((x, y) : Tk).1 = true := h
theorem pc_len {k y z : Str} (h : Pc k y z) : z.length ≤ 50 ∧ y.length ≤ 50 ∧ tkOk (k, y) := by
  rcases h with ⟨rfl, hy, hz⟩ | ⟨rfl, hy, hz⟩ | ⟨rfl, hz, rfl⟩ | ⟨rfl, hy, rfl⟩ | ⟨rfl, i, h0, h1, rfl, rfl⟩ | ⟨rfl, hyz⟩
  · have h1 : words7.all (fun y => decide (y.length ≤ 50) && PyData.strOk y && decide ((Txt.lower y).length ≤ 50)) = true := by decide +kernel
    have h2 := List.all_eq_true.mp h1 y hy
    simp only [Bool.and_eq_true, decide_eq_true_eq] at h2
    refine ⟨?_, h2.1.1, kinds_ok (by decide +kernel), h2.1.2⟩
    rcases List.mem_cons.mp hz with rfl | hz
    · exact h2.1.1
    · rw [List.mem_singleton.mp hz]; exact h2.2
  · have h1 : names7.all (fun y => decide (y.length ≤ 50) && PyData.strOk y && decide ((Txt.lower y).length ≤ 50)) = true := by decide +kernel
    have h2 := List.all_eq_true.mp h1 y hy
    simp only [Bool.and_eq_true, decide_eq_true_eq] at h2
    refine ⟨?_, h2.1.1, kinds_ok (by decide +kernel), h2.1.2⟩
    rcases List.mem_cons.mp hz with rfl | hz
    · exact h2.1.1
    · rw [List.mem_singleton.mp hz]; exact h2.2
  · have h1 : nums10.all (fun z => decide (z.length ≤ 50) && PyData.strOk (Txt.upper z) && decide ((Txt.upper z).length ≤ 50)) = true := by decide +kernel
    have h2 := List.all_eq_true.mp h1 z hz
    simp only [Bool.and_eq_true, decide_eq_true_eq] at h2
    exact ⟨h2.1.1, h2.2, kinds_ok (by decide +kernel), h2.1.2⟩
  · have h1 : texts5.all (fun y => decide (y.length ≤ 50) && PyData.strOk y && decide ((Str.ofString "\"" ++ y ++ Str.ofString "\"").length ≤ 50)) = true := by decide +kernel
    have h2 := List.all_eq_true.mp h1 y hy
    simp only [Bool.and_eq_true, decide_eq_true_eq] at h2
    exact ⟨h2.2, h2.1.1, kinds_ok (by decide +kernel), h2.1.2⟩
  · have h1 : (List.range 14).all (fun i => decide ((Txt.item signs14 i).length ≤ 50) && PyData.strOk (Txt.item signs14 i)) = true := by decide +kernel
    have h2 := List.all_eq_true.mp h1 i.toNat (List.mem_range.mpr (by omega))
    rw [show ((i.toNat : Nat) : Int) = i by omega] at h2
    simp only [Bool.and_eq_true, decide_eq_true_eq] at h2
    exact ⟨h2.1, h2.1, kinds_ok (by decide +kernel), h2.2⟩
  · have h1 : ords6.all (fun p => decide (p.2.length ≤ 50) && PyData.strOk p.1 && decide (p.1.length ≤ 50)) = true := by decide +kernel
    have h2 := List.all_eq_true.mp h1 (y, z) hyz
    simp only [Bool.and_eq_true, decide_eq_true_eq] at h2
    exact ⟨h2.1.1, h2.2, kinds_ok (by decide +kernel), h2.1.2⟩
section
variable {w : World} {A : Around} {E : Value → Shared → Prop} {s : Shared} {env : Env} {h₀ : Heap} {x : Str} {body : List Stmt} {Q : Flow → Shared → Prop}
theorem law_iter {prog : Program} {r B C FL : Addr} {o lst : Obj} {b : Int} {t₀ u₀ v₀ tr : Tok} {m₀ : Str → Option Value} {news : List (Addr × Obj)}
    (hh : A.handled = none) (hr : IsRange s.heap r 0 b 1 t₀ u₀ v₀) (hb0 : 0 ≤ b) (hb1 : b < 10) (F : Fr h₀ env.locals s.heap m₀) (N : News h₀ env.locals s.heap news)
    (hB : (B, o) ∈ news) (hC : (C, lst) ∈ news) (hFL : (FL, W.listOf #[] 0) ∈ news) (bag : Bag w C o 1)
    (h1 : m₀ (Str.ofString "row") = some (.str (Str.ofString "") tr)) (h2 : m₀ (Str.ofString "found") = some (.ref FL)) (h3 : m₀ (Str.ofString "bag") = some (.ref B))
    (turn : ∀ (i : Nat) v o took vs c mid ts row tr f h tk own, i < 9 → Bag w C o took → took ≤ 1 + 4 * (i : Int) → DatAll mid vs (ts.map tkD) → (C ≠ B → FL ≠ B → ∀ p ∈ (C, lst) :: (FL, W.listOf vs.toArray c) :: (mid ++ own), p.1 ≠ B) → (∀ p ∈ mid ++ own, p.1 ≠ FL) →
      Drawn row ts → ts.length ≤ i → vs.length ≤ i → row.length ≤ 200 * i → (∀ t ∈ ts, tkOk t) → (∀ p ∈ own, p.1 ≠ B ∧ p.1 ≠ C ∧ p.1 ≠ FL ∧ ∀ q ∈ mid, p.1 ≠ q.1) →
      Fr h₀ env.locals h (fun y => if y = x then some v else mmL B FL row tr f y) → News h₀ env.locals h ((B, o) :: (C, lst) :: (FL, W.listOf vs.toArray c) :: (mid ++ own)) →
      wpAny (model prog w) A (execs body env) (LawPost h₀ env.locals (LawInv w B C FL lst (i + 1)) own { s with heap := h, toks := tk } Q) E { s with heap := h, toks := tk })
    (done : ∀ o took vs c mid ts row tr f h tk, Bag w C o took → took ≤ 100 → DatAll mid vs (ts.map tkD) → (C ≠ B → FL ≠ B → ∀ p ∈ (C, lst) :: (FL, W.listOf vs.toArray c) :: mid, p.1 ≠ B) → (∀ p ∈ mid, p.1 ≠ FL) →
      Drawn row ts → ts.length ≤ 9 → vs.length ≤ 9 → row.length ≤ 1800 → (∀ t ∈ ts, tkOk t) →
      Fr h₀ env.locals h (mmL B FL row tr f) → News h₀ env.locals h ((B, o) :: (C, lst) :: (FL, W.listOf vs.toArray c) :: mid) → Q .next { s with heap := h, toks := tk }) :
    wpAny (model prog w) A (pyIter (.ref r)) (fun it s₂ => LoopAtV prog w A h₀ env x body Q E it s₂) E s := by
  have hn : Builtin.Range.small 0 b 1 = true ∧ Builtin.Range.rangeSize 0 b 1 = ((b.toNat : Nat) : Int) := by
    have hb : b = 0 ∨ b = 1 ∨ b = 2 ∨ b = 3 ∨ b = 4 ∨ b = 5 ∨ b = 6 ∨ b = 7 ∨ b = 8 ∨ b = 9 := by omega
    rcases hb with rfl | rfl | rfl | rfl | rfl | rfl | rfl | rfl | rfl | rfl <;> decide
  have N0 : News h₀ env.locals s.heap [(B, o), (C, lst), (FL, W.listOf #[] 0)] := by
    intro q hq
    rcases List.mem_cons.mp hq with rfl | hq
    · exact N _ hB
    rcases List.mem_cons.mp hq with rfl | hq
    · exact N _ hC
    rw [List.mem_singleton.mp hq]
    exact N _ hFL
  refine iter_rangeG (LawInv w B C FL lst) hh hr hn.1 hn.2 F N0 ⟨o, 1, [], 0, [], [], Str.ofString "", tr, m₀, mmL_eq h1 h2 h3, rfl, bag, by omega, .nil, (fun _ h => nomatch h), (fun _ h => nomatch h), .nil, Nat.le_refl _, Nat.zero_le _, (fun _ h => nomatch h)⟩ ?_ ?_
  · rintro i v m₁ news₁ h tk own hi ⟨o, took, vs, c, mid, ts, row, tr, f, rfl, rfl, bag, ht, D, d1, d2, dr, hl, hrow, hok⟩ hown F₁ N₁
    have hvl : vs.length = ts.length := by rw [D.length, List.length_map]
    refine turn i v o took vs c mid ts row tr f h tk own (by omega) bag ht D ?_ ?_ dr hl (by omega) hrow hok ?_ F₁ ?_
    · intro e1 e2 p hp
      rcases List.mem_cons.mp hp with rfl | hp
      · exact e1
      rcases List.mem_cons.mp hp with rfl | hp
      · exact e2
      rcases List.mem_append.mp hp with hp | hp
      · exact d1 p hp
      · exact hown p hp _ (.head _)
    · intro p hp
      rcases List.mem_append.mp hp with hp | hp
      · exact d2 p hp
      · exact hown p hp _ (.tail _ (.tail _ (.head _)))
    · intro p hp
      exact ⟨hown p hp _ (.head _), hown p hp _ (.tail _ (.head _)), hown p hp _ (.tail _ (.tail _ (.head _))), fun q hq => hown p hp q (.tail _ (.tail _ (.tail _ hq)))⟩
    · exact N₁
  · rintro m₁ news₁ h tk ⟨o, took, vs, c, mid, ts, row, tr, f, rfl, rfl, bag, ht, D, d1, d2, dr, hl, hrow, hok⟩ F₁ N₁
    have hvl : vs.length = ts.length := by rw [D.length, List.length_map]
    refine done o took vs c mid ts row tr f h tk bag (by omega) D ?_ d2 dr (by omega) (by omega) (by omega) hok F₁ N₁
    intro e1 e2 p hp
    rcases List.mem_cons.mp hp with rfl | hp
    · exact e1
    rcases List.mem_cons.mp hp with rfl | hp
    · exact e2
    · exact d1 p hp
end
end Mine
end
section
open PySem PySem.W PyProof.Rows
namespace Mine
section
variable {w : World} {B C FL : Addr} {lst : Obj} {i : Nat} {own mid news' : List (Addr × Obj)} {s : Shared} {h₀ h h' : Heap} {L : Addr} {m₂ : Str → Option Value} {Q : Flow → Shared → Prop} {tk tk' : Nat} {o' : Obj} {took took' : Int} {vs : List Value} {c : Nat} {ts : List Tk} {row : Str} {tr : Tok}
theorem law_post (F : Fr h₀ L h' m₂) (N : News h₀ L h' news') (hB : (B, o') ∈ news') (hC : (C, lst) ∈ news') (hFL : (FL, W.listOf vs.toArray c) ∈ news') (hmid : ∀ p ∈ mid, p ∈ news') (hown : ∀ p ∈ own, p ∈ news')
    (h1 : m₂ (Str.ofString "row") = some (.str row tr)) (h2 : m₂ (Str.ofString "found") = some (.ref FL)) (h3 : m₂ (Str.ofString "bag") = some (.ref B))
    (bag : Bag w C o' took') (ht : took' ≤ 1 + 4 * ((i + 1 : Nat) : Int)) (D : DatAll mid vs (ts.map tkD)) (d1 : ∀ p ∈ mid, p.1 ≠ B) (d2 : ∀ p ∈ mid, p.1 ≠ FL) (dr : Drawn row ts) (hl : ts.length ≤ i + 1) (hrow : row.length ≤ 200 * (i + 1)) (hok : ∀ t ∈ ts, tkOk t)
    (hsep : ∀ p ∈ own, p.1 ≠ B ∧ p.1 ≠ C ∧ p.1 ≠ FL ∧ ∀ q ∈ mid, p.1 ≠ q.1) :
    ∃ h'' tk'' m₂ news₂, ({ s with heap := h', toks := tk' } : Shared) = { s with heap := h'', toks := tk'' } ∧ Fr h₀ L h'' m₂ ∧ News h₀ L h'' (news₂ ++ own) ∧ (∀ p ∈ own, ∀ q ∈ news₂, p.1 ≠ q.1) ∧ LawInv w B C FL lst (i + 1) m₂ news₂ := by
  refine ⟨h', tk', m₂, (B, o') :: (C, lst) :: (FL, W.listOf vs.toArray c) :: mid, rfl, F, ?_, ?_, o', took', vs, c, mid, ts, row, tr, m₂, mmL_eq h1 h2 h3, rfl, bag, ht, D, d1, d2, dr, hl, hrow, hok⟩
  · intro q hq
    rcases List.mem_append.mp hq with hq | hq
    · rcases List.mem_cons.mp hq with rfl | hq
      · exact N _ hB
      rcases List.mem_cons.mp hq with rfl | hq
      · exact N _ hC
      rcases List.mem_cons.mp hq with rfl | hq
      · exact N _ hFL
      · exact N _ (hmid q hq)
    · exact N _ (hown q hq)
  · intro p hp q hq
    have z := hsep p hp
    rcases List.mem_cons.mp hq with rfl | hq
    · exact z.1
    rcases List.mem_cons.mp hq with rfl | hq
    · exact z.2.1
    rcases List.mem_cons.mp hq with rfl | hq
    · exact z.2.2.1
    · exact z.2.2.2 q hq
theorem law_cont (F : Fr h₀ L h' m₂) (N : News h₀ L h' news') (hB : (B, o') ∈ news') (hC : (C, lst) ∈ news') (hFL : (FL, W.listOf vs.toArray c) ∈ news') (hmid : ∀ p ∈ mid, p ∈ news') (hown : ∀ p ∈ own, p ∈ news')
    (h1 : m₂ (Str.ofString "row") = some (.str row tr)) (h2 : m₂ (Str.ofString "found") = some (.ref FL)) (h3 : m₂ (Str.ofString "bag") = some (.ref B))
    (bag : Bag w C o' took') (ht : took' ≤ 1 + 4 * ((i + 1 : Nat) : Int)) (D : DatAll mid vs (ts.map tkD)) (hb : ∀ p ∈ (C, lst) :: (FL, W.listOf vs.toArray c) :: (mid ++ own), p.1 ≠ B) (hf : ∀ p ∈ mid ++ own, p.1 ≠ FL) (dr : Drawn row ts) (hl : ts.length ≤ i) (hrow : row.length ≤ 200 * i) (hok : ∀ t ∈ ts, tkOk t)
    (hsep : ∀ p ∈ own, p.1 ≠ B ∧ p.1 ≠ C ∧ p.1 ≠ FL ∧ ∀ q ∈ mid, p.1 ≠ q.1) :
    LawPost h₀ L (LawInv w B C FL lst (i + 1)) own { s with heap := h, toks := tk } Q .cont { s with heap := h', toks := tk' } :=
  law_post (s := { s with heap := h, toks := tk }) F N hB hC hFL hmid hown h1 h2 h3 bag ht D (fun p hp => hb p (.tail _ (.tail _ (List.mem_append_left _ hp)))) (fun p hp => hf p (List.mem_append_left _ hp)) dr (by omega) (by omega) hok hsep
theorem law_next {T : Addr} {k y z b : Str} {t1 t2 : Tok} {n : Nat} (F : Fr h₀ L h' m₂) (N : News h₀ L h' news') (hB : (B, o') ∈ news') (hC : (C, lst) ∈ news') (hFL : (FL, W.listOf (vs.toArray.push (.ref T)) (c + 1)) ∈ news') (hT : (T, tkP k y t1 t2 n) ∈ news') (hmid : ∀ p ∈ mid, p ∈ news') (hown : ∀ p ∈ own, p ∈ news')
    (h1 : m₂ (Str.ofString "row") = some (.str (row ++ b ++ z) tr)) (h2 : m₂ (Str.ofString "found") = some (.ref FL)) (h3 : m₂ (Str.ofString "bag") = some (.ref B))
    (bag : Bag w C o' took') (ht : took' ≤ 1 + 4 * ((i + 1 : Nat) : Int)) (D : DatAll mid vs (ts.map tkD)) (hb : ∀ p ∈ (C, lst) :: (FL, W.listOf vs.toArray c) :: (mid ++ own), p.1 ≠ B) (hf : ∀ p ∈ mid ++ own, p.1 ≠ FL) (dr : Drawn row ts) (hl : ts.length ≤ i) (hrow : row.length ≤ 200 * i) (hok : ∀ t ∈ ts, tkOk t)
    (hsep : ∀ p ∈ own, p.1 ≠ B ∧ p.1 ≠ C ∧ p.1 ≠ FL ∧ ∀ q ∈ mid, p.1 ≠ q.1) (lT : AllLt T ((FL, W.listOf vs.toArray c) :: (mid ++ own))) (lB : @LT.lt Nat _ B T) (hp : Pc k y z) (hbl : b ∈ blanks3) (hcond : ∀ p, ts.getLast? = some p → ¬ (isOrdT p = true ∧ isOrdT (k, y) = true)) :
    LawPost h₀ L (LawInv w B C FL lst (i + 1)) own { s with heap := h, toks := tk } Q .next { s with heap := h', toks := tk' } := by
  have hbz : b.length ≤ 2 := by
    have h0 : blanks3.all (fun b => decide (b.length ≤ 2)) = true := by decide +kernel
    exact of_decide_eq_true (List.all_eq_true.mp h0 b hbl)
  have hpl := pc_len hp
  refine law_post (s := { s with heap := h, toks := tk }) (mid := (T, tkP k y t1 t2 n) :: mid) (vs := vs ++ [.ref T]) (ts := ts ++ [(k, y)]) (c := c + 1) F N hB hC ?_ ?_ hown h1 h2 h3 bag ht ?_ ?_ ?_ (.add dr hp hbl hcond) ?_ ?_ ?_ ?_
  · have e : (vs ++ [Value.ref T]).toArray = vs.toArray.push (.ref T) := by simp
    rw [e]
    exact hFL
  · intro p hp'
    rcases List.mem_cons.mp hp' with rfl | hp'
    · exact hT
    · exact hmid p hp'
  · rw [List.map_append]
    exact (D.mono fun q hq => .tail _ hq).append (.cons (.tuple (vs := [.str k t1, .str y t2]) (n := n) (.head _) (.cons (.str _ _) (.cons (.str _ _) .nil))) .nil)
  · intro p hp'
    rcases List.mem_cons.mp hp' with rfl | hp'
    · exact Nat.ne_of_gt lB
    · exact hb p (.tail _ (.tail _ (List.mem_append_left _ hp')))
  · intro p hp'
    rcases List.mem_cons.mp hp' with rfl | hp'
    · exact Nat.ne_of_gt lT.1
    · exact hf p (List.mem_append_left _ hp')
  · rw [List.length_append]
    show ts.length + 1 ≤ i + 1
    omega
  · rw [Str.length_append, Str.length_append]
    omega
  · intro t ht'
    rcases List.mem_append.mp ht' with ht' | ht'
    · exact hok t ht'
    · rw [List.mem_singleton.mp ht']
      exact hpl.2.2
  · intro p hp'
    have z := hsep p hp'
    refine ⟨z.1, z.2.1, z.2.2.1, fun q hq => ?_⟩
    rcases List.mem_cons.mp hq with rfl | hq
    · exact Nat.ne_of_lt (allLt_mem lT.2 p (List.mem_append_right _ hp'))
    · exact z.2.2.2 q hq
theorem cond_nil {q : Bool} {x : Tk} (h : q = true ↔ ts ≠ []) (hq : q = false) : ∀ p, ts.getLast? = some p → ¬ (isOrdT p = true ∧ isOrdT x = true) := by
  intro p hp
  have : ts = [] := Decidable.byContradiction fun z => by rw [h.mpr z] at hq; cases hq
  rw [this] at hp
  cases hp
theorem cond_new {x : Tk} (h : isOrdT x = false) : ∀ p, ts.getLast? = some p → ¬ (isOrdT p = true ∧ isOrdT x = true) := by
  rintro p _ ⟨_, z⟩
  rw [h] at z
  cases z
theorem cond_last {x p : Tk} (hp : ts.getLast? = some p) (h : isOrdT (p.1, p.2) = false) : ∀ p, ts.getLast? = some p → ¬ (isOrdT p = true ∧ isOrdT x = true) := by
  rintro q hq ⟨z, _⟩
  rw [hp] at hq
  cases hq
  rw [show p = (p.1, p.2) from rfl, h] at z
  cases z
theorem ne_of_iff {q : Bool} {P : Prop} (h : q = true ↔ P) (hq : q = true) : P := h.mp hq
end
end Mine
end
section
open PySem PySem.W PyProof.Rows
namespace Mine
def newRow (row : Str) : Str := row ++ Str.ofString "\n{"
def isOpenT (toks : List Tk) : Bool := match toks.getLast? with | none => true | some p => ![Str.ofString "rem", Str.ofString "raw"].any (· == p.1)
/-- what the plain law tells of the row that was drawn -/
structure PlainOk (row : Str) (F : List Tk) (toks : List Tk) : Prop where
  len : row.length ≤ 250
  run : Run (suf row (cnt isBl (suf row 0))) (some F)
  ok : ∀ t ∈ F, tkOk t
  sz : tsz F ≤ 900
  llen : (rowT F).length ≤ 255
  lrun : Run (suf (rowT F) (cnt isBl (suf (rowT F) 0))) (some F)
  nrun : ∃ R, Run (suf (row ++ Str.ofString "\n{") (cnt isBl (suf (row ++ Str.ofString "\n{") 0))) R ∧ runBad (row ++ Str.ofString "\n{") R = isOpenT toks
section
variable {prog : Program} {w : World} {A : Around} {E : Value → Shared → Prop} {s : Shared} {h₀ : Heap} {L a b l : Addr} {m : Str → Option Value} {news mid : List (Addr × Obj)} {xs ys vs : List Value} {ka kb c : Nat} {ts us : List Tk} {Q : Value → Shared → Prop}
theorem m_add2 (F : Fr h₀ L s.heap m) (N : News h₀ L s.heap news) (ha : (a, W.listOf xs.toArray ka) ∈ news) (hb : (b, W.listOf ys.toArray kb) ∈ news) (hz : xs.length + ys.length ≤ 1000)
    (h : ∀ D h', Fr h₀ L h' m → News h₀ L h' ((D, W.listOf (xs ++ ys).toArray 0) :: news) → Q (.ref D) { s with heap := h' }) : wpAny (model prog w) A (binaryOp .Add (.ref a) (.ref b)) Q E s :=
  kmk_add_lit F N (News.isList N ha) (News.isList N hb) (zs := xs ++ ys) rfl (fun D h' F' N' _ => h D h' F' N') (by rw [sizeLine_eq]; show xs.length + ys.length ≤ _; omega)
open Classical in
theorem lists_eq (N : News h₀ L s.heap news) (ma : (a, W.listOf xs.toArray ka) ∈ news) (mb : (b, W.listOf ys.toArray kb) ∈ news) (Da : DatAll news xs (ts.map tkD)) (Db : DatAll news ys (us.map tkD)) (ha : ∀ t ∈ ts, tkOk t) (hb : ∀ t ∈ us, tkOk t)
    (hu : A.units + 64 < cLine) (h : ∀ q : Bool, (q = true ↔ ts = us) → Q (.bool q) s) : wpAny (model prog w) A (compareOp .Eq (.ref a) (.ref b)) Q E s := by
  refine kqd_eq N ma rfl rfl Da (fun _ h => h) mb rfl rfl Db (fun _ h => h) (tk_kqd ha) (tk_kqd hb) hu (h _ ?_)
  rw [decide_eq_true_iff, tkD_inj]
theorem use_telE {f : Addr} {n : Nat} {Out : List (Addr × Obj) → Value → Prop} (C : TelE w f n news vs Out)
    {mean : ExcName → Option Value} {mg mb : Str → Option Value} {dp un : Nat} {gd : Option (List Code)} {cn : Str} {cs : Scope} {a : Addr} {ccd : Value} {A₀ : Around}
    (B : Below A₀ h₀ [] h₀) (F : Fr h₀ L s.heap m) (X : (hd.heap_39 w.params).In h₀) (N : News h₀ L s.heap news)
    (T : Top hd.view_39 (looseW hd.view_39 [Str.ofString "BasicError", Str.ofString "PAIRS"]) mean mg mb h₀) (hk : cs.kind = .function) (hd : dp + n < recursionLimit) (hu : un + 8 * n < cLine)
    (hret : ∀ r nw h' tk', Fr h₀ L h' m → News h₀ L h' nw → Out nw r → Q r { s with heap := h', toks := tk' }) :
    wpAny (model (PySem.Challenge.rw_pq0174_01.row.prog) w) (ktrTop dp un gd cn cs L a ccd [] []) (call (.ref f) vs) Q E s :=
  C _ _ _ _ _ _ _ _ _ _ _ _ _ _ _ _ _ B F X N T hk hd hu hret
theorem toksOf_some {x : Str} {t : Tok} (hx : x.length ≤ 255) {F : List Tk} (hR : Run (suf x (cnt isBl (suf x 0))) (some F)) :
    Tel w 156 8 news [.str x t] (fun nw r => ∃ (D : Addr) (vs : List Value) (c : Nat) (mid : List (Addr × Obj)), nw = (D, W.listOf vs.toArray c) :: mid ∧ (∀ q ∈ news, q ∈ mid) ∧ DatAll mid vs (F.map tkD) ∧ vs.length ≤ 600 ∧ r = .ref D) False := by
  intro mean mg mb dp un gd cn cs a ccd cl outer A₀ base h₀ L m s Q E B F X N T hk hd hu hret hthr
  refine tToksOf w news x t (by omega) hR mean mg mb dp un gd cn cs a ccd cl outer A₀ base h₀ L m s Q E B F X N T hk hd hu (fun r nw h' tk' F' N' O => ?_) (fun _ _ _ _ z => absurd z ?_)
  · obtain ⟨ts, -, e, D, vs, c, mid, rfl, A, -, -, hv, rfl⟩ := O
    cases e
    refine hret _ ((D, W.listOf vs.toArray c) :: (mid ++ news)) h' tk' F' ?_ ⟨D, vs, c, mid ++ news, rfl, fun q hq => List.mem_append_right _ hq, A.mono fun q hq => List.mem_append_left _ hq, hv, rfl⟩
    intro q hq
    rcases List.mem_cons.mp hq with rfl | hq
    · exact N' _ (List.mem_append_right _ (.head _))
    rcases List.mem_append.mp hq with hq | hq
    · exact N' _ (List.mem_append_left _ hq)
    · exact N' _ (List.mem_append_right _ (.tail _ hq))
  · rintro (z | z)
    · omega
    · cases z
theorem m_lastX {value slice : PySem.Expr} {u : Tok} (N : News h₀ L s.heap news) (hm : (l, W.listOf vs.toArray c) ∈ news) (D : DatAll mid vs (ts.map tkD)) (hmid : ∀ q ∈ mid, q ∈ news) (hne : ts ≠ []) (hz : vs.length ≤ 1000)
    (h : ∀ a p t1 t2 n, ts.getLast? = some p → News h₀ L s.heap ((a, tkO p.1 p.2 t1 t2 n) :: news) → Q (.ref a) s)
    (hs : subscripted slice false (.ref l) (.int (-1) u) = operate [.ref l, .int (-1) u] (getItem (.ref l) (.int (-1) u)) := by with_unfolding_all rfl) :
    wpAny (model prog w) A (subscriptTail value slice (.ref l) (.int (-1) u)) Q E s :=
  m_lastD N hm D hne hz (fun a p t1 t2 n g m => h a p t1 t2 n g fun q hq => by
    rcases List.mem_cons.mp hq with rfl | hq
    · exact N _ (hmid _ m)
    · exact N _ hq) hs
theorem mem_up {x : Addr × Obj} {old mid : List (Addr × Obj)} (h : ∀ q ∈ old, q ∈ mid) (m : x ∈ old) : x ∈ mid := h _ m
theorem ne_of_iff' {q : Bool} {P : Prop} (h : q = true ↔ P) (hq : q = false) : ¬ P := fun z => by rw [h.mpr z] at hq; cases hq
theorem len_250 {row : Str} {F toks : List Tk} (P : PlainOk row F toks) : row.length ≤ 255 := Nat.le_trans P.len (by decide)
end
theorem ok3 : ∀ t ∈ ([(Str.ofString "name", Str.ofString "A"), (Str.ofString "sign", Str.ofString "<="), (Str.ofString "name", Str.ofString "B")] : List Tk), tkOk t := by
  intro t ht
  rcases List.mem_cons.mp ht with rfl | ht
  · exact ⟨by decide +kernel, by decide +kernel⟩
  rcases List.mem_cons.mp ht with rfl | ht
  · exact ⟨by decide +kernel, by decide +kernel⟩
  rw [List.mem_singleton.mp ht]
  exact ⟨by decide +kernel, by decide +kernel⟩
theorem blank256 : Run (suf (Txt.mul (Str.ofString " ") 256) (cnt isBl (suf (Txt.mul (Str.ofString " ") 256) 0))) (some []) := by
  have e : (suf (Txt.mul (Str.ofString " ") 256) (cnt isBl (suf (Txt.mul (Str.ofString " ") 256) 0))) = [] := by decide +kernel
  rw [e]
  exact .nil
theorem blank256_len : (Txt.mul (Str.ofString " ") 256).length ≤ 1000 := by decide +kernel
theorem blank256_bad : runBad (Txt.mul (Str.ofString " ") 256) (some []) = true := by decide +kernel
theorem bad_a {x : Str} {R : Option (List Tk)} {toks : List Tk} {q : Bool} (hb : runBad x R = isOpenT toks) (e : q = true ↔ toks = []) (hq : q = true) (h : (runBad x R == q) = false) : False := by
  rw [hb, e.mp hq, hq] at h
  cases h
theorem bad_b {x : Str} {R : Option (List Tk)} {toks : List Tk} {p : Tk} (hb : runBad x R = isOpenT toks) (g : toks.getLast? = some p) (h : (runBad x R == !([Str.ofString "rem", Str.ofString "raw"].any fun x => x == p.1)) = false) : False := by
  rw [hb] at h
  unfold isOpenT at h
  rw [g] at h
  simp at h
end Mine
end
section
open PySem PySem.W PyProof.Rows
namespace Mine
abbrev cp (x : Str) : List Nat := x.cps.toList
theorem cp_app (x y : Str) : cp (x ++ y) = cp x ++ cp y := by
  show (x.cps ++ y.cps).toList = _
  exact Array.toList_append
theorem cp_inj {x y : Str} (h : cp x = cp y) : x = y := by
  obtain ⟨a⟩ := x
  obtain ⟨b⟩ := y
  exact congrArg Str.mk (Array.toList_inj.mp h)
theorem str_lit (l : List Char) : Str.ofString (String.ofList l) = ⟨(l.map Char.toNat).toArray⟩ := by
  rw [Str.ofString_eq_toList, String.toList_ofList]
def Jn : List (List Nat) → List Nat
  | [] => []
  | [p] => p
  | p :: q :: r => p ++ 32 :: Jn (q :: r)
theorem cp_join : ∀ ps : List Str, cp (Str.join ⟨#[32]⟩ ps) = Jn (ps.map cp)
  | [] => rfl
  | [p] => rfl
  | p :: q :: r => by
    rw [join_cons_cons, cp_app, cp_app, cp_join (q :: r), List.append_assoc]
    rfl
theorem cut_eq : ∀ {p q A B : List Nat}, 32 ∉ p → 32 ∉ q → p ++ 32 :: A = q ++ 32 :: B → p = q ∧ A = B
  | [], [], _, _, _, _, h => by cases h; exact ⟨rfl, rfl⟩
  | [], c :: q, _, _, _, hq, h => by
    cases h
    exact absurd (List.Mem.head _) hq
  | c :: p, [], _, _, hp, _, h => by
    cases h
    exact absurd (List.Mem.head _) hp
  | c :: p, d :: q, A, B, hp, hq, h => by
    rw [List.cons_append, List.cons_append] at h
    obtain ⟨h1, h2⟩ := List.cons.inj h
    obtain ⟨h3, h4⟩ := cut_eq (fun z => hp (.tail _ z)) (fun z => hq (.tail _ z)) h2
    exact ⟨by rw [h1, h3], h4⟩
theorem Jn_uniq : ∀ {ps qs : List (List Nat)}, ps ≠ [] → qs ≠ [] → (∀ p ∈ ps, 32 ∉ p) → (∀ p ∈ qs, 32 ∉ p) → Jn ps = Jn qs → ps = qs
  | [], _, h, _, _, _, _ => absurd rfl h
  | _ :: _, [], _, h, _, _, _ => absurd rfl h
  | [p], [q], _, _, _, _, h => by rw [show p = q from h]
  | [p], q :: q' :: r, _, _, hp, _, h => by
    refine absurd ?_ (hp p (.head _))
    rw [show p = q ++ 32 :: Jn (q' :: r) from h]
    exact List.mem_append_right _ (.head _)
  | p :: p' :: r, [q], _, _, _, hq, h => by
    refine absurd ?_ (hq q (.head _))
    rw [show q = p ++ 32 :: Jn (p' :: r) from h.symm]
    exact List.mem_append_right _ (.head _)
  | p :: p' :: r, q :: q' :: r', _, _, hp, hq, h => by
    obtain ⟨h1, h2⟩ := cut_eq (hp p (.head _)) (hq q (.head _)) h
    rw [h1, Jn_uniq (List.cons_ne_nil _ _) (List.cons_ne_nil _ _) (fun x hx => hp x (.tail _ hx)) (fun x hx => hq x (.tail _ hx)) h2]
theorem split_uniq {K : List Str} {l : List Nat} (hJ : Jn (K.map cp) = l) (hf : (K.all fun p => !(cp p).contains 32) = true) (hl : l ≠ []) : Txt.split ⟨l.toArray⟩ ⟨#[32]⟩ = K := by
  have hj : Jn ((Txt.split ⟨l.toArray⟩ ⟨#[32]⟩).map cp) = l := by
    rw [← cp_join, StrLaws.join_split]
  have n1 : (Txt.split ⟨l.toArray⟩ ⟨#[32]⟩).map cp ≠ [] := by
    intro z
    rw [z] at hj
    exact hl hj.symm
  have n2 : K.map cp ≠ [] := by
    intro z
    rw [z] at hJ
    exact hl hJ.symm
  have h := Jn_uniq n1 n2 (fun p hp => by
    obtain ⟨x, hx, rfl⟩ := List.mem_map.mp hp
    exact StrLaws.split_free _ 32 x hx) (fun p hp => by
    obtain ⟨x, hx, rfl⟩ := List.mem_map.mp hp
    have := List.all_eq_true.mp hf x hx
    intro z
    rw [List.contains_iff_mem.mpr z] at this
    cases this) (hj.trans hJ.symm)
  exact (List.map_inj_right fun x y => cp_inj).mp h
def wordsK : List Str := [⟨#[76, 69, 84]⟩, ⟨#[80, 82, 73, 78, 84]⟩, ⟨#[85, 83, 73, 78, 71]⟩, ⟨#[73, 78, 80, 85, 84]⟩, ⟨#[76, 73, 78, 69]⟩, ⟨#[73, 70]⟩, ⟨#[84, 72, 69, 78]⟩, ⟨#[69, 76, 83, 69]⟩, ⟨#[71, 79, 84, 79]⟩, ⟨#[71, 79, 83, 85, 66]⟩, ⟨#[79, 78]⟩, ⟨#[82, 69, 84, 85, 82, 78]⟩, ⟨#[70, 79, 82]⟩, ⟨#[84, 79]⟩, ⟨#[83, 84, 69, 80]⟩, ⟨#[78, 69, 88, 84]⟩, ⟨#[87, 72, 73, 76, 69]⟩, ⟨#[87, 69, 78, 68]⟩, ⟨#[68, 69, 70]⟩, ⟨#[70, 78, 69, 78, 68]⟩, ⟨#[82, 69, 65, 68]⟩, ⟨#[68, 65, 84, 65]⟩, ⟨#[82, 69, 83, 84, 79, 82, 69]⟩, ⟨#[68, 73, 77]⟩, ⟨#[69, 82, 65, 83, 69]⟩, ⟨#[79, 80, 84, 73, 79, 78]⟩, ⟨#[66, 65, 83, 69]⟩, ⟨#[83, 87, 65, 80]⟩, ⟨#[69, 82, 82, 79, 82]⟩, ⟨#[82, 69, 83, 85, 77, 69]⟩, ⟨#[83, 84, 79, 80]⟩, ⟨#[69, 78, 68]⟩, ⟨#[82, 69, 77]⟩, ⟨#[82, 65, 78, 68, 79, 77, 73, 90, 69]⟩, ⟨#[68, 69, 70, 73, 78, 84]⟩, ⟨#[68, 69, 70, 83, 78, 71]⟩, ⟨#[68, 69, 70, 83, 84, 82]⟩, ⟨#[77, 65, 84]⟩, ⟨#[90, 69, 82]⟩, ⟨#[67, 79, 78]⟩, ⟨#[73, 68, 78]⟩, ⟨#[73, 78, 86]⟩, ⟨#[84, 82, 78]⟩, ⟨#[79, 80, 69, 78]⟩, ⟨#[79, 85, 84, 80, 85, 84]⟩, ⟨#[65, 80, 80, 69, 78, 68]⟩, ⟨#[82, 65, 78, 68, 79, 77]⟩, ⟨#[65, 83]⟩, ⟨#[67, 76, 79, 83, 69]⟩, ⟨#[70, 73, 69, 76, 68]⟩, ⟨#[76, 83, 69, 84]⟩, ⟨#[82, 83, 69, 84]⟩, ⟨#[71, 69, 84]⟩, ⟨#[80, 85, 84]⟩, ⟨#[87, 82, 73, 84, 69]⟩, ⟨#[67, 72, 65, 73, 78]⟩, ⟨#[67, 79, 77, 77, 79, 78]⟩, ⟨#[84, 82, 79, 78]⟩, ⟨#[84, 82, 79, 70, 70]⟩, ⟨#[65, 78, 68]⟩, ⟨#[79, 82]⟩, ⟨#[88, 79, 82]⟩, ⟨#[69, 81, 86]⟩, ⟨#[73, 77, 80]⟩, ⟨#[78, 79, 84]⟩, ⟨#[77, 79, 68]⟩]
theorem words_lit : Str.ofString "LET PRINT USING INPUT LINE IF THEN ELSE GOTO GOSUB ON RETURN FOR TO STEP NEXT WHILE WEND DEF FNEND READ DATA RESTORE DIM ERASE OPTION BASE SWAP ERROR RESUME STOP END REM RANDOMIZE DEFINT DEFSNG DEFSTR MAT ZER CON IDN INV TRN OPEN OUTPUT APPEND RANDOM AS CLOSE FIELD LSET RSET GET PUT WRITE CHAIN COMMON TRON TROFF AND OR XOR EQV IMP NOT MOD" = ⟨#[76, 69, 84, 32, 80, 82, 73, 78, 84, 32, 85, 83, 73, 78, 71, 32, 73, 78, 80, 85, 84, 32, 76, 73, 78, 69, 32, 73, 70, 32, 84, 72, 69, 78, 32, 69, 76, 83, 69, 32, 71, 79, 84, 79, 32, 71, 79, 83, 85, 66, 32, 79, 78, 32, 82, 69, 84, 85, 82, 78, 32, 70, 79, 82, 32, 84, 79, 32, 83, 84, 69, 80, 32, 78, 69, 88, 84, 32, 87, 72, 73, 76, 69, 32, 87, 69, 78, 68, 32, 68, 69, 70, 32, 70, 78, 69, 78, 68, 32, 82, 69, 65, 68, 32, 68, 65, 84, 65, 32, 82, 69, 83, 84, 79, 82, 69, 32, 68, 73, 77, 32, 69, 82, 65, 83, 69, 32, 79, 80, 84, 73, 79, 78, 32, 66, 65, 83, 69, 32, 83, 87, 65, 80, 32, 69, 82, 82, 79, 82, 32, 82, 69, 83, 85, 77, 69, 32, 83, 84, 79, 80, 32, 69, 78, 68, 32, 82, 69, 77, 32, 82, 65, 78, 68, 79, 77, 73, 90, 69, 32, 68, 69, 70, 73, 78, 84, 32, 68, 69, 70, 83, 78, 71, 32, 68, 69, 70, 83, 84, 82, 32, 77, 65, 84, 32, 90, 69, 82, 32, 67, 79, 78, 32, 73, 68, 78, 32, 73, 78, 86, 32, 84, 82, 78, 32, 79, 80, 69, 78, 32, 79, 85, 84, 80, 85, 84, 32, 65, 80, 80, 69, 78, 68, 32, 82, 65, 78, 68, 79, 77, 32, 65, 83, 32, 67, 76, 79, 83, 69, 32, 70, 73, 69, 76, 68, 32, 76, 83, 69, 84, 32, 82, 83, 69, 84, 32, 71, 69, 84, 32, 80, 85, 84, 32, 87, 82, 73, 84, 69, 32, 67, 72, 65, 73, 78, 32, 67, 79, 77, 77, 79, 78, 32, 84, 82, 79, 78, 32, 84, 82, 79, 70, 70, 32, 65, 78, 68, 32, 79, 82, 32, 88, 79, 82, 32, 69, 81, 86, 32, 73, 77, 80, 32, 78, 79, 84, 32, 77, 79, 68]⟩ := str_lit ['L', 'E', 'T', ' ', 'P', 'R', 'I', 'N', 'T', ' ', 'U', 'S', 'I', 'N', 'G', ' ', 'I', 'N', 'P', 'U', 'T', ' ', 'L', 'I', 'N', 'E', ' ', 'I', 'F', ' ', 'T', 'H', 'E', 'N', ' ', 'E', 'L', 'S', 'E', ' ', 'G', 'O', 'T', 'O', ' ', 'G', 'O', 'S', 'U', 'B', ' ', 'O', 'N', ' ', 'R', 'E', 'T', 'U', 'R', 'N', ' ', 'F', 'O', 'R', ' ', 'T', 'O', ' ', 'S', 'T', 'E', 'P', ' ', 'N', 'E', 'X', 'T', ' ', 'W', 'H', 'I', 'L', 'E', ' ', 'W', 'E', 'N', 'D', ' ', 'D', 'E', 'F', ' ', 'F', 'N', 'E', 'N', 'D', ' ', 'R', 'E', 'A', 'D', ' ', 'D', 'A', 'T', 'A', ' ', 'R', 'E', 'S', 'T', 'O', 'R', 'E', ' ', 'D', 'I', 'M', ' ', 'E', 'R', 'A', 'S', 'E', ' ', 'O', 'P', 'T', 'I', 'O', 'N', ' ', 'B', 'A', 'S', 'E', ' ', 'S', 'W', 'A', 'P', ' ', 'E', 'R', 'R', 'O', 'R', ' ', 'R', 'E', 'S', 'U', 'M', 'E', ' ', 'S', 'T', 'O', 'P', ' ', 'E', 'N', 'D', ' ', 'R', 'E', 'M', ' ', 'R', 'A', 'N', 'D', 'O', 'M', 'I', 'Z', 'E', ' ', 'D', 'E', 'F', 'I', 'N', 'T', ' ', 'D', 'E', 'F', 'S', 'N', 'G', ' ', 'D', 'E', 'F', 'S', 'T', 'R', ' ', 'M', 'A', 'T', ' ', 'Z', 'E', 'R', ' ', 'C', 'O', 'N', ' ', 'I', 'D', 'N', ' ', 'I', 'N', 'V', ' ', 'T', 'R', 'N', ' ', 'O', 'P', 'E', 'N', ' ', 'O', 'U', 'T', 'P', 'U', 'T', ' ', 'A', 'P', 'P', 'E', 'N', 'D', ' ', 'R', 'A', 'N', 'D', 'O', 'M', ' ', 'A', 'S', ' ', 'C', 'L', 'O', 'S', 'E', ' ', 'F', 'I', 'E', 'L', 'D', ' ', 'L', 'S', 'E', 'T', ' ', 'R', 'S', 'E', 'T', ' ', 'G', 'E', 'T', ' ', 'P', 'U', 'T', ' ', 'W', 'R', 'I', 'T', 'E', ' ', 'C', 'H', 'A', 'I', 'N', ' ', 'C', 'O', 'M', 'M', 'O', 'N', ' ', 'T', 'R', 'O', 'N', ' ', 'T', 'R', 'O', 'F', 'F', ' ', 'A', 'N', 'D', ' ', 'O', 'R', ' ', 'X', 'O', 'R', ' ', 'E', 'Q', 'V', ' ', 'I', 'M', 'P', ' ', 'N', 'O', 'T', ' ', 'M', 'O', 'D']
theorem words_eq : wordsL = wordsK := by
  unfold wordsL
  rw [words_lit, show Str.ofString " " = ⟨#[32]⟩ from str_lit [' ']]
  exact split_uniq (by decide +kernel) (by decide +kernel) (List.cons_ne_nil _ _)
def funcsK : List Str := [⟨#[65, 66, 83]⟩, ⟨#[65, 83, 67]⟩, ⟨#[67, 72, 82, 36]⟩, ⟨#[67, 73, 78, 84]⟩, ⟨#[67, 83, 78, 71]⟩, ⟨#[67, 86, 73]⟩, ⟨#[67, 86, 83]⟩, ⟨#[69, 68, 73, 84, 36]⟩, ⟨#[69, 79, 70]⟩, ⟨#[69, 82, 76]⟩, ⟨#[69, 82, 82]⟩, ⟨#[70, 73, 88]⟩, ⟨#[70, 82, 69]⟩, ⟨#[72, 69, 88, 36]⟩, ⟨#[73, 78, 83, 84, 82]⟩, ⟨#[73, 78, 84]⟩, ⟨#[76, 67, 65, 83, 69, 36]⟩, ⟨#[76, 69, 70, 84, 36]⟩, ⟨#[76, 69, 78]⟩, ⟨#[76, 79, 67]⟩, ⟨#[76, 79, 70]⟩, ⟨#[76, 80, 79, 83]⟩, ⟨#[76, 84, 82, 73, 77, 36]⟩, ⟨#[77, 65, 88]⟩, ⟨#[77, 73, 68, 36]⟩, ⟨#[77, 73, 78]⟩, ⟨#[77, 75, 73, 36]⟩, ⟨#[77, 75, 83, 36]⟩, ⟨#[79, 67, 84, 36]⟩, ⟨#[80, 73]⟩, ⟨#[80, 79, 83]⟩, ⟨#[82, 73, 71, 72, 84, 36]⟩, ⟨#[82, 78, 68]⟩, ⟨#[82, 84, 82, 73, 77, 36]⟩, ⟨#[83, 69, 71, 36]⟩, ⟨#[83, 71, 78]⟩, ⟨#[83, 80, 65, 67, 69, 36]⟩, ⟨#[83, 80, 67]⟩, ⟨#[83, 81, 82]⟩, ⟨#[83, 84, 82, 36]⟩, ⟨#[83, 84, 82, 73, 78, 71, 36]⟩, ⟨#[83, 87, 65, 80, 37]⟩, ⟨#[84, 65, 66]⟩, ⟨#[85, 67, 65, 83, 69, 36]⟩, ⟨#[86, 65, 76]⟩, ⟨#[88, 76, 65, 84, 69, 36]⟩]
theorem funcs_lit : Str.ofString "ABS ASC CHR$ CINT CSNG CVI CVS EDIT$ EOF ERL ERR FIX FRE HEX$ INSTR INT LCASE$ LEFT$ LEN LOC LOF LPOS LTRIM$ MAX MID$ MIN MKI$ MKS$ OCT$ PI POS RIGHT$ RND RTRIM$ SEG$ SGN SPACE$ SPC SQR STR$ STRING$ SWAP% TAB UCASE$ VAL XLATE$" = ⟨#[65, 66, 83, 32, 65, 83, 67, 32, 67, 72, 82, 36, 32, 67, 73, 78, 84, 32, 67, 83, 78, 71, 32, 67, 86, 73, 32, 67, 86, 83, 32, 69, 68, 73, 84, 36, 32, 69, 79, 70, 32, 69, 82, 76, 32, 69, 82, 82, 32, 70, 73, 88, 32, 70, 82, 69, 32, 72, 69, 88, 36, 32, 73, 78, 83, 84, 82, 32, 73, 78, 84, 32, 76, 67, 65, 83, 69, 36, 32, 76, 69, 70, 84, 36, 32, 76, 69, 78, 32, 76, 79, 67, 32, 76, 79, 70, 32, 76, 80, 79, 83, 32, 76, 84, 82, 73, 77, 36, 32, 77, 65, 88, 32, 77, 73, 68, 36, 32, 77, 73, 78, 32, 77, 75, 73, 36, 32, 77, 75, 83, 36, 32, 79, 67, 84, 36, 32, 80, 73, 32, 80, 79, 83, 32, 82, 73, 71, 72, 84, 36, 32, 82, 78, 68, 32, 82, 84, 82, 73, 77, 36, 32, 83, 69, 71, 36, 32, 83, 71, 78, 32, 83, 80, 65, 67, 69, 36, 32, 83, 80, 67, 32, 83, 81, 82, 32, 83, 84, 82, 36, 32, 83, 84, 82, 73, 78, 71, 36, 32, 83, 87, 65, 80, 37, 32, 84, 65, 66, 32, 85, 67, 65, 83, 69, 36, 32, 86, 65, 76, 32, 88, 76, 65, 84, 69, 36]⟩ := str_lit ['A', 'B', 'S', ' ', 'A', 'S', 'C', ' ', 'C', 'H', 'R', '$', ' ', 'C', 'I', 'N', 'T', ' ', 'C', 'S', 'N', 'G', ' ', 'C', 'V', 'I', ' ', 'C', 'V', 'S', ' ', 'E', 'D', 'I', 'T', '$', ' ', 'E', 'O', 'F', ' ', 'E', 'R', 'L', ' ', 'E', 'R', 'R', ' ', 'F', 'I', 'X', ' ', 'F', 'R', 'E', ' ', 'H', 'E', 'X', '$', ' ', 'I', 'N', 'S', 'T', 'R', ' ', 'I', 'N', 'T', ' ', 'L', 'C', 'A', 'S', 'E', '$', ' ', 'L', 'E', 'F', 'T', '$', ' ', 'L', 'E', 'N', ' ', 'L', 'O', 'C', ' ', 'L', 'O', 'F', ' ', 'L', 'P', 'O', 'S', ' ', 'L', 'T', 'R', 'I', 'M', '$', ' ', 'M', 'A', 'X', ' ', 'M', 'I', 'D', '$', ' ', 'M', 'I', 'N', ' ', 'M', 'K', 'I', '$', ' ', 'M', 'K', 'S', '$', ' ', 'O', 'C', 'T', '$', ' ', 'P', 'I', ' ', 'P', 'O', 'S', ' ', 'R', 'I', 'G', 'H', 'T', '$', ' ', 'R', 'N', 'D', ' ', 'R', 'T', 'R', 'I', 'M', '$', ' ', 'S', 'E', 'G', '$', ' ', 'S', 'G', 'N', ' ', 'S', 'P', 'A', 'C', 'E', '$', ' ', 'S', 'P', 'C', ' ', 'S', 'Q', 'R', ' ', 'S', 'T', 'R', '$', ' ', 'S', 'T', 'R', 'I', 'N', 'G', '$', ' ', 'S', 'W', 'A', 'P', '%', ' ', 'T', 'A', 'B', ' ', 'U', 'C', 'A', 'S', 'E', '$', ' ', 'V', 'A', 'L', ' ', 'X', 'L', 'A', 'T', 'E', '$']
theorem funcs_eq : funcsL = funcsK := by
  unfold funcsL
  rw [funcs_lit, show Str.ofString " " = ⟨#[32]⟩ from str_lit [' ']]
  exact split_uniq (by decide +kernel) (by decide +kernel) (List.cons_ne_nil _ _)
def isWordK (x : Str) : Bool := wordsK.any (· == x) || funcsK.any (· == x)
theorem isWord_eq (x : Str) : isWordS x = isWordK x := by
  unfold isWordS isWordK
  rw [words_eq, funcs_eq]
def wordK (l : List Nat) : List Tk × Nat :=
  if toldW l == Str.ofString "REM" then ([(Str.ofString "rem", ⟨(remL (l.drop (nName l))).toArray⟩)], l.length)
  else if toldW l == Str.ofString "DATA" then ([(Str.ofString "word", toldW l), (Str.ofString "raw", strip2 ((l.drop (nName l)).take (dEnd false (l.drop (nName l)))))], nName l + dEnd false (l.drop (nName l)))
  else ([(if isWordK (toldW l) then Str.ofString "word" else Str.ofString "name", toldW l)], nName l)
theorem wordK_eq (l : List Nat) : wordF l = wordK l := by
  unfold wordF wordK
  rw [isWord_eq]
def tokK : List Nat → Option (List Tk × Nat)
  | [] => none
  | c :: r =>
    if numAt (c :: r) then some ([(Str.ofString "number", ⟨(((c :: r).take (nNum (c :: r))).map up).toArray⟩)], nNum (c :: r))
    else if isLet c then some (wordK (c :: r))
    else if c == 34 then some ([(Str.ofString "text", ⟨(r.take (nTxt r)).toArray⟩)], nTxt r + 2)
    else if isOrd c then some ([(Str.ofString "sign", ⟨(ordT (c :: r)).1.toArray⟩)], (ordT (c :: r)).2)
    else if c == 63 then some ([(Str.ofString "word", Str.ofString "PRINT")], 1)
    else if c == 39 then some ([(Str.ofString "rem", ⟨(remL r).toArray⟩)], (c :: r).length)
    else if isSgn c then some ([(Str.ofString "sign", ⟨#[c]⟩)], 1)
    else none
theorem tokK_eq (l : List Nat) : tokF l = tokK l := by
  cases l with
  | nil => rfl
  | cons c r =>
    unfold tokF tokK
    dsimp only
    rw [wordK_eq]
def okTokB : List Nat → Bool
  | c :: r => (!numAt (c :: r) || (decide (nMant (c :: r) ≤ 40) && (!hdIs isE ((c :: r).drop (nMant (c :: r))) || decide (cnt isFig ((((c :: r).drop (nMant (c :: r))).drop 1).drop (pSign (((c :: r).drop (nMant (c :: r))).drop 1))) ≤ 3)))) && (!(c == 34) || r.contains 34)
  | [] => true
theorem okTokB_sound {l : List Nat} (h : okTokB l = true) : okTok l := by
  cases l with
  | nil => trivial
  | cons c r =>
    unfold okTokB at h
    simp only [Bool.and_eq_true, Bool.or_eq_true, Bool.not_eq_true', decide_eq_true_eq, beq_eq_false_iff_ne] at h
    refine ⟨fun hn => ?_, fun hc => ?_⟩
    · rcases h.1 with z | z
      · rw [hn] at z; cases z
      · refine ⟨z.1, fun hE => ?_⟩
        rcases z.2 with y | y
        · rw [hE] at y; cases y
        · exact y
    · rcases h.2 with z | z
      · exact absurd hc z
      · exact List.contains_iff_mem.mp z
def runF : Nat → List Nat → Option (Option (List Tk))
  | 0, _ => none
  | _ + 1, [] => some (some [])
  | n + 1, c :: r => if okTokB (c :: r) then match tokK (c :: r) with
      | none => some none
      | some (ts, k) => if 1 ≤ k then (runF n (skipB ((c :: r).drop k))).map (fun R => R.map (ts ++ ·)) else none
    else none
theorem runF_sound : ∀ {n : Nat} {l : List Nat} {R : Option (List Tk)}, runF n l = some R → Run l R
  | 0, _, _, h => by cases h
  | n + 1, [], _, h => by cases h; exact .nil
  | n + 1, c :: r, R, h => by
    unfold runF at h
    split at h
    · rename_i ok
      split at h
      · rename_i e
        cases h
        exact .stop (List.cons_ne_nil _ _) (okTokB_sound ok) (by rw [tokK_eq]; exact e)
      · rename_i ts k e
        split at h
        · rename_i hk
          cases e2 : runF n (skipB ((c :: r).drop k)) with
          | none => rw [e2] at h; cases h
          | some R' =>
            rw [e2] at h
            cases h
            exact .step (List.cons_ne_nil _ _) (okTokB_sound ok) (by rw [tokK_eq]; exact e) hk (runF_sound e2)
        · cases h
    · cases h
theorem suf_skip0 (x : Str) : suf x (cnt isBl (suf x 0)) = skipB (cp x) := by
  unfold skipB suf
  simp
theorem plain3 : Run (suf (Str.ofString "A< =B") (cnt isBl (suf (Str.ofString "A< =B") 0))) (some [(Str.ofString "name", Str.ofString "A"), (Str.ofString "sign", Str.ofString "<="), (Str.ofString "name", Str.ofString "B")]) :=
  runF_sound (n := 10) (by decide +kernel)
end Mine
end
section
open PySem PySem.W PyProof.Rows
namespace Mine
def endsW (rest : List Nat) : Prop := ∀ c r, rest = c :: r → isNm c = false ∧ c ≠ 37 ∧ c ≠ 36 ∧ c ≠ 33
def noOrd (rest : List Nat) : Prop := ∀ c r, skipB rest = c :: r → isOrd c = false
/-- what may follow a token -/
def Follow (t : Tk) (rest : List Nat) : Prop := (isLike t.1 = true → endsW rest) ∧ (isOrdT t = true → noOrd rest)
structure StepOK (t : Tk) (w : List Nat) : Prop where
  hd : ∃ c w', w = c :: w' ∧ isBl c = false ∧ (isOrd c = true → isOrdT t = true) ∧ (isLike t.1 = false → isNm c = false ∧ c ≠ 37 ∧ c ≠ 36 ∧ c ≠ 33)
  step : ∀ rest, Follow t rest → okTok (w ++ rest) ∧ tokF (w ++ rest) = some ([t], w.length)
theorem cnt_lt {p : Nat → Bool} : ∀ {w rest : List Nat}, cnt p w < w.length → cnt p (w ++ rest) = cnt p w
  | [], _, h => absurd h (Nat.not_lt_zero _)
  | c :: w, rest, h => by
    cases hc : p c with
    | false => rw [List.cons_append, cnt_cons_f hc, cnt_cons_f hc]
    | true =>
      rw [cnt_cons_t hc] at h
      rw [List.cons_append, cnt_cons_t hc, cnt_cons_t hc, cnt_lt (by simpa using h)]
theorem cnt_loc {p : Nat → Bool} : ∀ {w rest : List Nat}, (∀ c r, rest = c :: r → p c = false) → cnt p (w ++ rest) = cnt p w
  | [], [], _ => rfl
  | [], c :: r, h => by rw [List.nil_append, cnt_cons_f (h c r rfl)]; rfl
  | c :: w, rest, h => by
    cases hc : p c with
    | false => rw [List.cons_append, cnt_cons_f hc, cnt_cons_f hc]
    | true => rw [List.cons_append, cnt_cons_t hc, cnt_cons_t hc, cnt_loc h]
theorem cnt_stop {p : Nat → Bool} {c : Nat} {r : List Nat} (hc : p c = false) : ∀ {w : List Nat}, (∀ x ∈ w, p x = true) → cnt p (w ++ c :: r) = w.length
  | [], _ => cnt_cons_f hc
  | d :: w, h => by
    rw [List.cons_append, cnt_cons_t (h d (.head _)), cnt_stop hc fun x hx => h x (.tail _ hx)]
    rfl
theorem hdIs_app {q : Nat → Bool} : ∀ {v rest : List Nat}, (v ≠ [] ∨ ∀ c r, rest = c :: r → q c = false) → hdIs q (v ++ rest) = hdIs q v
  | [], [], _ => rfl
  | [], c :: r, h => by
    rcases h with h | h
    · exact absurd rfl h
    · exact h c r rfl
  | _ :: _, _, _ => rfl
theorem hdIs_ne {q : Nat → Bool} {v : List Nat} (h : hdIs q v = true) : v ≠ [] := by
  intro z
  rw [z] at h
  cases h
theorem dropapp {a : Nat} {w rest : List Nat} (h : a ≤ w.length) : (w ++ rest).drop a = w.drop a ++ rest := List.drop_append_of_le_length h
theorem takeapp {a : Nat} {w rest : List Nat} (h : a ≤ w.length) : (w ++ rest).take a = w.take a := List.take_append_of_le_length h
theorem num_cons (c : Nat) (r : List Nat) : numAt (c :: r) = (isFig c || (c == 46 && hdIs isFig r)) := rfl
theorem end_cons (c : Nat) (r : List Nat) : endSign (c :: r) = if (c == 37 || c == 36 || c == 33) = true then 1 else 0 := rfl
/-! words and names -/
def wordChk (k y : Str) (w : List Nat) : Bool :=
  match w with
  | c :: w' => isLet c && (w.drop (cnt isNm w) == [] || w.drop (cnt isNm w) == [37] || w.drop (cnt isNm w) == [36] || w.drop (cnt isNm w) == [33]) && (Str.mk (w.map up).toArray == y) && !(y == Str.ofString "REM") && !(y == Str.ofString "DATA") && ((if isWordK y then Str.ofString "word" else Str.ofString "name") == k)
  | [] => false
theorem let_nm {c : Nat} (h : isLet c = true) : isFig c = false ∧ c ≠ 46 ∧ isBl c = false ∧ isOrd c = false := by
  unfold isLet at h
  unfold isFig isBl isOrd
  simp only [Bool.or_eq_true, Bool.and_eq_true, decide_eq_true_eq] at h
  refine ⟨?_, by omega, ?_, ?_⟩
  · simp; omega
  · simp; omega
  · simp; omega
theorem nName_app {w rest : List Nat} (hw : w.drop (cnt isNm w) = [] ∨ w.drop (cnt isNm w) = [37] ∨ w.drop (cnt isNm w) = [36] ∨ w.drop (cnt isNm w) = [33]) (he : endsW rest) : nName (w ++ rest) = w.length := by
  have hle := cnt_le isNm w
  have hl : (w.drop (cnt isNm w)).length = w.length - cnt isNm w := List.length_drop
  unfold nName
  by_cases h0 : w.drop (cnt isNm w) = []
  · rw [h0] at hl
    have e : cnt isNm w = w.length := by simp at hl; omega
    rw [cnt_loc fun c r h => (he c r h).1, dropapp hle, h0, List.nil_append, e]
    cases rest with
    | nil => rfl
    | cons c r =>
      have z := he c r rfl
      have : (c == 37 || c == 36 || c == 33) = false := by simp [z.2.1, z.2.2.1, z.2.2.2]
      rw [end_cons, this]
      rfl
  · have h1 : ∃ d, w.drop (cnt isNm w) = [d] ∧ (d == 37 || d == 36 || d == 33) = true := by
      rcases hw with h | h | h | h
      · exact absurd h h0
      · exact ⟨37, h, rfl⟩
      · exact ⟨36, h, rfl⟩
      · exact ⟨33, h, rfl⟩
    obtain ⟨d, hd, hd'⟩ := h1
    rw [hd] at hl
    have hl' : 1 = w.length - cnt isNm w := hl
    rw [cnt_lt (by omega), dropapp hle, hd]
    show cnt isNm w + (if (d == 37 || d == 36 || d == 33) = true then 1 else 0) = _
    rw [hd']
    simp
    omega
theorem word_step {k y : Str} {w : List Nat} (h : wordChk k y w = true) (hk : isLike k = true) : StepOK (k, y) w := by
  cases w with
  | nil => cases h
  | cons c w' =>
    unfold wordChk at h
    simp only [Bool.and_eq_true, Bool.or_eq_true, beq_iff_eq, Bool.not_eq_true'] at h
    obtain ⟨⟨⟨⟨⟨hc, hs⟩, hy⟩, hrem⟩, hdat⟩, hkk⟩ := h
    have hs' : (c :: w').drop (cnt isNm (c :: w')) = [] ∨ (c :: w').drop (cnt isNm (c :: w')) = [37] ∨ (c :: w').drop (cnt isNm (c :: w')) = [36] ∨ (c :: w').drop (cnt isNm (c :: w')) = [33] := by
      rcases hs with ((h | h) | h) | h
      · exact .inl h
      · exact .inr (.inl h)
      · exact .inr (.inr (.inl h))
      · exact .inr (.inr (.inr h))
    obtain ⟨l1, l2, l3, l4⟩ := let_nm hc
    refine ⟨⟨c, w', rfl, l3, (fun z => by rw [l4] at z; cases z), (fun z => by rw [hk] at z; cases z)⟩, fun rest F => ?_⟩
    have hn := nName_app (rest := rest) hs' (F.1 hk)
    have hnum : numAt (c :: (w' ++ rest)) = false := by
      rw [num_cons, l1, Bool.false_or, show (c == 46) = false by simp [l2]]
      rfl
    constructor
    · refine ⟨fun z => ?_, fun z => ?_⟩
      · exact absurd (hnum.symm.trans z) Bool.false_ne_true
      · subst z; cases hc
    · rw [tokK_eq, List.cons_append]
      unfold tokK
      dsimp only
      rw [hnum, if_neg Bool.false_ne_true, if_pos hc]
      have e : wordK (c :: (w' ++ rest)) = ([(k, y)], (c :: w').length) := by
        have ht : toldW (c :: (w' ++ rest)) = y := by
          unfold toldW
          rw [← List.cons_append, hn, List.take_left' rfl]
          exact hy
        unfold wordK
        rw [ht]
        rw [show (y == Str.ofString "REM") = false from hrem, show (y == Str.ofString "DATA") = false from hdat, if_neg Bool.false_ne_true, if_neg Bool.false_ne_true]
        rw [← List.cons_append, hn, hkk]
      rw [e]
/-! signs -/
def sgnChk (c : Nat) : Bool := !isFig c && !(c == 46) && !isLet c && !(c == 34) && !isOrd c && !(c == 63) && !(c == 39) && isSgn c && !isBl c && !isNm c && !(c == 37) && !(c == 36) && !(c == 33)
theorem sgn_step {c : Nat} (h : sgnChk c = true) : StepOK (Str.ofString "sign", ⟨#[c]⟩) [c] := by
  unfold sgnChk at h
  simp only [Bool.and_eq_true, Bool.not_eq_true', beq_eq_false_iff_ne] at h
  obtain ⟨⟨⟨⟨⟨⟨⟨⟨⟨⟨⟨⟨h1, h2⟩, h3⟩, h4⟩, h5⟩, h6⟩, h7⟩, h8⟩, h9⟩, h10⟩, h11⟩, h12⟩, h13⟩ := h
  refine ⟨⟨c, [], rfl, h9, (fun z => by rw [h5] at z; cases z), fun _ => ⟨h10, h11, h12, h13⟩⟩, fun rest F => ?_⟩
  have hnum : numAt (c :: rest) = false := by
    rw [num_cons, h1, Bool.false_or, show (c == 46) = false by simp [h2]]
    rfl
  constructor
  · refine ⟨fun z => ?_, fun z => absurd z h4⟩
    exact absurd (hnum.symm.trans z) Bool.false_ne_true
  · rw [tokK_eq]
    show tokK (c :: rest) = _
    unfold tokK
    dsimp only
    rw [hnum, if_neg Bool.false_ne_true, h3, if_neg Bool.false_ne_true, show (c == 34) = false by simp [h4], if_neg Bool.false_ne_true, h5, if_neg Bool.false_ne_true, show (c == 63) = false by simp [h6], if_neg Bool.false_ne_true, show (c == 39) = false by simp [h7], if_neg Bool.false_ne_true, if_pos h8]
    rfl
/-! texts -/
theorem text_step {y : Str} (h : (cp y).contains 34 = false) : StepOK (Str.ofString "text", y) (34 :: (cp y ++ [34])) := by
  have hall : ∀ x ∈ cp y, (x != 34) = true := by
    intro x hx
    simp only [bne_iff_ne, ne_eq]
    rintro rfl
    rw [List.contains_iff_mem.mpr hx] at h
    cases h
  refine ⟨⟨34, _, rfl, rfl, (fun z => by cases z), fun _ => ⟨rfl, by decide, by decide, by decide⟩⟩, fun rest F => ?_⟩
  have hn : nTxt (cp y ++ 34 :: rest) = (cp y).length := cnt_stop rfl hall
  have e : (34 :: (cp y ++ [34])) ++ rest = 34 :: (cp y ++ 34 :: rest) := by simp
  rw [e]
  refine ⟨⟨fun z => absurd z Bool.false_ne_true, fun _ => List.mem_append_right _ (.head _)⟩, ?_⟩
  · rw [tokK_eq]
    unfold tokK
    dsimp only
    rw [show numAt (34 :: (cp y ++ 34 :: rest)) = false from rfl, if_neg Bool.false_ne_true, show isLet 34 = false from rfl, if_neg Bool.false_ne_true, if_pos (show (34 == 34) = true from rfl), hn, List.take_left' rfl]
    simp
end Mine
end
section
open PySem PySem.W PyProof.Rows
namespace Mine
theorem nm_parts {c : Nat} (h : isNm c = false) : isFig c = false ∧ (c == 46) = false ∧ isE c = false := by
  unfold isNm at h
  simp only [Bool.or_eq_false_iff] at h
  refine ⟨h.1.2, h.2, ?_⟩
  have h1 := h.1.1
  unfold isLet at h1
  simp only [Bool.or_eq_false_iff, Bool.and_eq_false_iff, decide_eq_false_iff_not] at h1
  unfold isE
  simp
  omega
section
variable {w rest : List Nat} (he : endsW rest)
include he
theorem e_fig : ∀ c r, rest = c :: r → isFig c = false := fun c r h => (nm_parts (he c r h).1).1
theorem e_dot : ∀ c r, rest = c :: r → (c == 46) = false := fun c r h => (nm_parts (he c r h).1).2.1
theorem e_E : ∀ c r, rest = c :: r → isE c = false := fun c r h => (nm_parts (he c r h).1).2.2
theorem e_33 : ∀ c r, rest = c :: r → (c == 33) = false := fun c r h => by simp [(he c r h).2.2.2]
theorem e_37 : ∀ c r, rest = c :: r → (c == 37) = false := fun c r h => by simp [(he c r h).2.1]
theorem drop1_app {v : List Nat} (h : v ≠ []) : (v ++ rest).drop 1 = v.drop 1 ++ rest := dropapp (by
  cases v with
  | nil => exact absurd rfl h
  | cons _ _ => simp)
theorem nMant_app : nMant (w ++ rest) = nMant w := by
  unfold nMant
  rw [cnt_loc (e_fig he), dropapp (cnt_le isFig w), hdIs_app (.inr (e_dot he))]
  by_cases hd : hdIs (· == 46) (w.drop (cnt isFig w)) = true
  · rw [if_pos hd, if_pos hd, drop1_app he (hdIs_ne hd), cnt_loc (e_fig he)]
  · rw [if_neg hd, if_neg hd]
theorem pSign_app {v : List Nat} (h : v ≠ []) : pSign (v ++ rest) = pSign v := by
  unfold pSign
  rw [hdIs_app (.inl h)]
theorem pSign_le {v : List Nat} (h : v ≠ []) : pSign v ≤ v.length := by
  unfold pSign
  cases v with
  | nil => exact absurd rfl h
  | cons _ _ => split <;> simp
theorem pfig_app {v : List Nat} (h : v ≠ []) : cnt isFig ((v ++ rest).drop (pSign (v ++ rest))) = cnt isFig (v.drop (pSign v)) := by
  rw [pSign_app he h, dropapp (pSign_le he h), cnt_loc (e_fig he)]
theorem nPow_app {v : List Nat} (h : hdIs isE v = true → v.drop 1 ≠ []) : nPow (v ++ rest) = nPow v := by
  unfold nPow
  rw [hdIs_app (.inr (e_E he))]
  by_cases hd : hdIs isE v = true
  · rw [if_pos hd, if_pos hd, drop1_app he (hdIs_ne hd), pfig_app he (h hd), pSign_app he (h hd)]
  · rw [if_neg hd, if_neg hd]
theorem nBeh_app (hm : nMant w ≤ w.length) (h : hdIs isE (w.drop (nMant w)) = true → (w.drop (nMant w)).drop 1 ≠ []) : nBeh (w ++ rest) = nBeh w := by
  unfold nBeh
  rw [nMant_app he, dropapp hm, nPow_app he h]
theorem nNum_app (hm : nMant w ≤ w.length) (hb : nBeh w ≤ w.length) (h : hdIs isE (w.drop (nMant w)) = true → (w.drop (nMant w)).drop 1 ≠ []) : nNum (w ++ rest) = nNum w := by
  unfold nNum
  rw [nBeh_app he hm h, nMant_app he, dropapp hb, hdIs_app (.inr (e_33 he)), hdIs_app (.inr (e_37 he)), takeapp hm, dropapp hm, nPow_app he h]
end
def numChk (y : Str) (w : List Nat) : Bool :=
  match w with
  | c :: w' => (isFig c || (c == 46 && hdIs isFig w')) && !isBl c && !isOrd c && !(c == 34) && decide (nMant w ≤ 40) && decide (nMant w ≤ w.length) && decide (nBeh w ≤ w.length) && decide (nNum w = w.length) &&
      (!hdIs isE (w.drop (nMant w)) || (!((w.drop (nMant w)).drop 1).isEmpty && decide (cnt isFig (((w.drop (nMant w)).drop 1).drop (pSign ((w.drop (nMant w)).drop 1))) ≤ 3))) && (Str.mk (w.map up).toArray == y)
  | [] => false
theorem num_step {y : Str} {w : List Nat} (h : numChk y w = true) : StepOK (Str.ofString "number", y) w := by
  cases w with
  | nil => cases h
  | cons c w' =>
    unfold numChk at h
    simp only [Bool.and_eq_true, Bool.not_eq_true', decide_eq_true_eq, beq_iff_eq, beq_eq_false_iff_ne] at h
    obtain ⟨⟨⟨⟨⟨⟨⟨⟨⟨h1, h2⟩, h3⟩, h4⟩, h5⟩, h6⟩, h7⟩, h8⟩, h9⟩, h10⟩ := h
    have hE : hdIs isE ((c :: w').drop (nMant (c :: w'))) = true → ((c :: w').drop (nMant (c :: w'))).drop 1 ≠ [] ∧ cnt isFig ((((c :: w').drop (nMant (c :: w'))).drop 1).drop (pSign (((c :: w').drop (nMant (c :: w'))).drop 1))) ≤ 3 := by
      intro z
      rw [z] at h9
      simp only [Bool.not_true, Bool.false_or, Bool.and_eq_true, Bool.not_eq_true', decide_eq_true_eq] at h9
      exact ⟨fun e => by rw [e] at h9; exact absurd h9.1 (by decide), h9.2⟩
    refine ⟨⟨c, w', rfl, h2, (fun z => by rw [h3] at z; cases z), (fun z => by cases z)⟩, fun rest F => ?_⟩
    have he : endsW rest := F.1 rfl
    have hn := nNum_app he h6 h7 fun z => (hE z).1
    have hnum : numAt (c :: (w' ++ rest)) = true := by
      rw [num_cons, hdIs_app (.inr (e_fig he))]
      exact h1
    constructor
    · refine ⟨fun _ => ?_, fun z => absurd z h4⟩
      show okNum ((c :: w') ++ rest)
      unfold okNum
      rw [nMant_app he]
      refine ⟨h5, ?_⟩
      rw [dropapp h6]
      intro z
      rw [hdIs_app (.inr (e_E he))] at z
      have q := hE z
      rw [drop1_app he (hdIs_ne z), pfig_app he q.1]
      exact q.2
    · rw [tokK_eq]
      show tokK (c :: (w' ++ rest)) = _
      unfold tokK
      dsimp only
      rw [if_pos hnum, ← List.cons_append, hn, h8, List.take_left' rfl, h10]
/-! comparisons -/
def ordChk (y : Str) (w : List Nat) : Bool :=
  match w with
  | [c] => isOrd c && !isFig c && !(c == 46) && !isLet c && !(c == 34) && !isBl c && (⟨#[c]⟩ == y)
  | c :: v => isOrd c && !isFig c && !(c == 46) && !isLet c && !(c == 34) && !isBl c && decide (cnt isBl v < v.length) && (match v.drop (cnt isBl v) with | [d] => (match pairOf c d with | some p => Str.mk p.toArray == y | none => false) | _ => false) && decide (cnt isBl v + 1 = v.length)
  | [] => false
theorem pair_none {c d : Nat} (h : isOrd d = false) : pairOf c d = none := by
  unfold isOrd at h
  simp only [Bool.or_eq_false_iff, beq_eq_false_iff_ne] at h
  unfold pairOf
  simp only [h.1.1, h.1.2, h.2, and_false, if_false]
theorem ord_step {y : Str} {w : List Nat} (h : ordChk y w = true) (ht : isOrdT (Str.ofString "sign", y) = true) : StepOK (Str.ofString "sign", y) w := by
  have key : ∀ {c : Nat} {r : List Nat} {p : List Nat × Nat}, isOrd c = true → isFig c = false → c ≠ 46 → isLet c = false → c ≠ 34 → ordF c r = p → okTok (c :: r) ∧ tokF (c :: r) = some ([(Str.ofString "sign", ⟨p.1.toArray⟩)], p.2) := by
    intro c r p h1 h2 h3 h4 h5 e
    have hnum : numAt (c :: r) = false := by
      rw [num_cons, h2, Bool.false_or, show (c == 46) = false by simp [h3]]
      rfl
    refine ⟨⟨fun z => absurd (hnum.symm.trans z) Bool.false_ne_true, fun z => absurd z h5⟩, ?_⟩
    rw [tokK_eq]
    unfold tokK
    dsimp only
    rw [hnum, if_neg Bool.false_ne_true, h4, if_neg Bool.false_ne_true, show (c == 34) = false by simp [h5], if_neg Bool.false_ne_true, if_pos h1]
    show some ([(Str.ofString "sign", (⟨(ordF c r).1.toArray⟩ : Str))], (ordF c r).2) = _
    rw [e]
  match w, h with
  | [c], h =>
    unfold ordChk at h
    simp only [Bool.and_eq_true, Bool.not_eq_true', beq_iff_eq, beq_eq_false_iff_ne] at h
    obtain ⟨⟨⟨⟨⟨⟨h1, h2⟩, h3⟩, h4⟩, h5⟩, h6⟩, h7⟩ := h
    refine ⟨⟨c, [], rfl, h6, fun _ => ht, fun _ => ?_⟩, fun rest F => ?_⟩
    · unfold isOrd at h1
      simp only [Bool.or_eq_true, beq_iff_eq] at h1
      rcases h1 with (rfl | rfl) | rfl <;> exact ⟨by decide, by decide, by decide, by decide⟩
    · have e : ordF c rest = ([c], 1) := by
        unfold ordF
        have hf := F.2 ht
        cases hr : rest.drop (cnt isBl rest) with
        | nil => rfl
        | cons d r =>
          have := hf d r hr
          simp only [pair_none this]
      have k := key (r := rest) h1 h2 h3 h4 h5 e
      rw [show (⟨#[c]⟩ : Str) = y from h7] at k
      exact k
  | c :: d' :: v', h =>
    unfold ordChk at h
    simp only [Bool.and_eq_true, Bool.not_eq_true', beq_iff_eq, beq_eq_false_iff_ne, decide_eq_true_eq] at h
    obtain ⟨⟨⟨⟨⟨⟨⟨⟨h1, h2⟩, h3⟩, h4⟩, h5⟩, h6⟩, h7⟩, h8⟩, h9⟩ := h
    refine ⟨⟨c, d' :: v', rfl, h6, fun _ => ht, fun _ => ?_⟩, fun rest F => ?_⟩
    · unfold isOrd at h1
      simp only [Bool.or_eq_true, beq_iff_eq] at h1
      rcases h1 with (rfl | rfl) | rfl <;> exact ⟨by decide, by decide, by decide, by decide⟩
    · split at h8
      · rename_i d hd
        split at h8
        · rename_i p hp
          have h8' : Str.mk p.toArray = y := beq_iff_eq.mp h8
          have e : ordF c ((d' :: v') ++ rest) = (p, (c :: d' :: v').length) := by
            unfold ordF
            rw [cnt_lt h7, dropapp (Nat.le_of_lt h7), hd]
            show (match pairOf c d with | some w => (w, cnt isBl (d' :: v') + 2) | none => ([c], 1)) = _
            rw [hp]
            show (p, cnt isBl (d' :: v') + 2) = _
            rw [show cnt isBl (d' :: v') + 2 = (c :: d' :: v').length by rw [List.length_cons, ← h9]]
          have k := key (r := (d' :: v') ++ rest) h1 h2 h3 h4 h5 e
          rw [h8'] at k
          exact k
        · cases h8
      · cases h8
end Mine
end
section
open PySem PySem.W PyProof.Rows
namespace Mine
theorem pc_step {k y z : Str} (h : Pc k y z) : StepOK (k, y) (cp z) ∧ StepOK (k, y) (cp (tkText k y)) ∧ z.length ≤ 9 ∧ (tkText k y).length ≤ 9 ∧ y.length ≤ 9 ∧ tkOk (k, y) := by
  rcases h with ⟨rfl, hy, hz⟩ | ⟨rfl, hy, hz⟩ | ⟨rfl, hz, rfl⟩ | ⟨rfl, hy, rfl⟩ | ⟨rfl, i, h0, h1, rfl, rfl⟩ | ⟨rfl, hyz⟩
  · have h1 : words7.all (fun y => wordChk (Str.ofString "word") y (cp y) && wordChk (Str.ofString "word") y (cp (Txt.lower y)) && decide (y.length ≤ 9) && decide ((Txt.lower y).length ≤ 9) && PyData.strOk y && (tkText (Str.ofString "word") y == y)) = true := by decide +kernel
    have h2 := List.all_eq_true.mp h1 y hy
    simp only [Bool.and_eq_true, decide_eq_true_eq, beq_iff_eq] at h2
    obtain ⟨⟨⟨⟨⟨a, b⟩, c⟩, d⟩, e⟩, f⟩ := h2
    have hl : isLike (Str.ofString "word") = true := by decide +kernel
    rw [f]
    have hk : tkOk (Str.ofString "word", y) := ⟨kinds_ok (by decide +kernel), e⟩
    rcases List.mem_cons.mp hz with rfl | hz
    · exact ⟨word_step a hl, word_step a hl, c, c, c, hk⟩
    · rw [List.mem_singleton.mp hz]; exact ⟨word_step b hl, word_step a hl, d, c, c, hk⟩
  · have h1 : names7.all (fun y => wordChk (Str.ofString "name") y (cp y) && wordChk (Str.ofString "name") y (cp (Txt.lower y)) && decide (y.length ≤ 9) && decide ((Txt.lower y).length ≤ 9) && PyData.strOk y && (tkText (Str.ofString "name") y == y)) = true := by decide +kernel
    have h2 := List.all_eq_true.mp h1 y hy
    simp only [Bool.and_eq_true, decide_eq_true_eq, beq_iff_eq] at h2
    obtain ⟨⟨⟨⟨⟨a, b⟩, c⟩, d⟩, e⟩, f⟩ := h2
    have hl : isLike (Str.ofString "name") = true := by decide +kernel
    rw [f]
    have hk : tkOk (Str.ofString "name", y) := ⟨kinds_ok (by decide +kernel), e⟩
    rcases List.mem_cons.mp hz with rfl | hz
    · exact ⟨word_step a hl, word_step a hl, c, c, c, hk⟩
    · rw [List.mem_singleton.mp hz]; exact ⟨word_step b hl, word_step a hl, d, c, c, hk⟩
  · have h1 : nums10.all (fun z => numChk (Txt.upper z) (cp z) && numChk (Txt.upper z) (cp (Txt.upper z)) && decide (z.length ≤ 9) && decide ((Txt.upper z).length ≤ 9) && PyData.strOk (Txt.upper z) && (tkText (Str.ofString "number") (Txt.upper z) == Txt.upper z)) = true := by decide +kernel
    have h2 := List.all_eq_true.mp h1 z hz
    simp only [Bool.and_eq_true, decide_eq_true_eq, beq_iff_eq] at h2
    obtain ⟨⟨⟨⟨⟨a, b⟩, c⟩, d⟩, e⟩, f⟩ := h2
    rw [f]
    exact ⟨num_step a, num_step b, c, d, d, kinds_ok (by decide +kernel), e⟩
  · have h1 : texts5.all (fun y => !(cp y).contains 34 && (cp (Str.ofString "\"" ++ y ++ Str.ofString "\"") == 34 :: (cp y ++ [34])) && decide ((Str.ofString "\"" ++ y ++ Str.ofString "\"").length ≤ 9) && decide (y.length ≤ 9) && PyData.strOk y && (tkText (Str.ofString "text") y == Str.ofString "\"" ++ y ++ Str.ofString "\"")) = true := by decide +kernel
    have h2 := List.all_eq_true.mp h1 y hy
    simp only [Bool.and_eq_true, decide_eq_true_eq, beq_iff_eq, Bool.not_eq_true'] at h2
    obtain ⟨⟨⟨⟨⟨a, b⟩, c⟩, d⟩, e⟩, f⟩ := h2
    rw [f, b]
    exact ⟨text_step a, text_step a, c, c, d, kinds_ok (by decide +kernel), e⟩
  · have h1 : (List.range 14).all (fun i => (match cp (Txt.item signs14 i) with | [c] => sgnChk c | _ => false) && decide ((Txt.item signs14 i).length ≤ 9) && PyData.strOk (Txt.item signs14 i) && (tkText (Str.ofString "sign") (Txt.item signs14 i) == Txt.item signs14 i)) = true := by decide +kernel
    have h2 := List.all_eq_true.mp h1 i.toNat (List.mem_range.mpr (by omega))
    rw [show ((i.toNat : Nat) : Int) = i by omega] at h2
    simp only [Bool.and_eq_true, decide_eq_true_eq, beq_iff_eq] at h2
    obtain ⟨⟨⟨a, c⟩, e⟩, f⟩ := h2
    rw [f]
    have s : StepOK (Str.ofString "sign", Txt.item signs14 i) (cp (Txt.item signs14 i)) := by
      split at a
      · rename_i d hd
        have : Txt.item signs14 i = ⟨#[d]⟩ := cp_inj hd
        rw [hd, this]
        exact sgn_step a
      · cases a
    exact ⟨s, s, c, c, c, kinds_ok (by decide +kernel), e⟩
  · have h1 : ords6.all (fun p => ordChk p.1 (cp p.2) && ordChk p.1 (cp p.1) && isOrdT (Str.ofString "sign", p.1) && decide (p.2.length ≤ 9) && PyData.strOk p.1 && decide (p.1.length ≤ 9) && (tkText (Str.ofString "sign") p.1 == p.1)) = true := by decide +kernel
    have h2 := List.all_eq_true.mp h1 (y, z) hyz
    simp only [Bool.and_eq_true, decide_eq_true_eq, beq_iff_eq] at h2
    obtain ⟨⟨⟨⟨⟨⟨a, b⟩, t⟩, c⟩, e⟩, d⟩, f⟩ := h2
    rw [f]
    exact ⟨ord_step a t, ord_step b t, c, d, d, kinds_ok (by decide +kernel), e⟩
/-! a row that grows -/
def Jp (acc : List Nat) (ts : List Tk) : Prop := ∀ rest R, (∀ p, ts.getLast? = some p → Follow p rest) → Run (skipB rest) R → Run (skipB (acc ++ rest)) (R.map (ts ++ ·))
theorem skipB_bl {sep : List Nat} (h : ∀ c ∈ sep, isBl c = true) (l : List Nat) : skipB (sep ++ l) = skipB l := by
  induction sep with
  | nil => rfl
  | cons c r ih =>
    have := ih fun x hx => h x (.tail _ hx)
    unfold skipB at this ⊢
    rw [List.cons_append, cnt_cons_t (h c (.head _)), List.drop_succ_cons]
    exact this
theorem skipB_no {c : Nat} {l : List Nat} (h : isBl c = false) : skipB (c :: l) = c :: l := by
  unfold skipB
  rw [cnt_cons_f h]
  rfl
theorem Jp_nil : Jp [] [] := by
  intro rest R _ h
  have : R.map (([] : List Tk) ++ ·) = R := by cases R <;> rfl
  rw [this]
  exact h
theorem Jp_add {acc sep w : List Nat} {ts : List Tk} {t : Tk} (J : Jp acc ts) (S : StepOK t w) (hb : ∀ c ∈ sep, isBl c = true) (hf : ∀ p, ts.getLast? = some p → ∀ rest, Follow p (sep ++ (w ++ rest))) : Jp (acc ++ (sep ++ w)) (ts ++ [t]) := by
  intro rest R F h
  have Ft := F t (by simp)
  obtain ⟨ok, e⟩ := S.step rest Ft
  obtain ⟨c, w', rfl, hc, -, -⟩ := S.hd
  have r1 : Run (c :: w' ++ rest) (R.map ([t] ++ ·)) := .step (List.cons_ne_nil _ _) ok e (by simp) (by rw [List.drop_left' rfl]; exact h)
  have r2 : Run (skipB (sep ++ (c :: w' ++ rest))) (R.map ([t] ++ ·)) := by
    rw [skipB_bl hb]
    rw [List.cons_append, skipB_no hc]
    exact r1
  have r3 := J _ _ (fun p hp => hf p hp rest) r2
  have e1 : acc ++ (sep ++ (c :: w')) ++ rest = acc ++ (sep ++ (c :: w' ++ rest)) := by simp
  have e2 : (R.map ([t] ++ ·)).map (ts ++ ·) = R.map (ts ++ [t] ++ ·) := by cases R <;> simp
  rw [e1, ← e2]
  exact r3
theorem follow_bl {p t : Tk} {sep w rest : List Nat} (S : StepOK t w) (hb : ∀ c ∈ sep, isBl c = true) (hn : sep ≠ [] ∨ (isLike p.1 = true → isLike t.1 = false)) (hc : ¬ (isOrdT p = true ∧ isOrdT t = true)) : Follow p (sep ++ (w ++ rest)) := by
  obtain ⟨c, w', rfl, hbc, ho, hl⟩ := S.hd
  constructor
  · intro hp d r e
    cases sep with
    | nil =>
      rcases hn with hn | hn
      · exact absurd rfl hn
      · cases e
        exact hl (hn hp)
    | cons b s =>
      cases e
      have hb := hb d (.head _)
      unfold isBl at hb
      simp only [Bool.or_eq_true, beq_iff_eq] at hb
      rcases hb with rfl | rfl
      · exact ⟨rfl, by decide, by decide, by decide⟩
      · exact ⟨rfl, by decide, by decide, by decide⟩
  · intro hp d r e
    rw [skipB_bl hb, List.cons_append, skipB_no hbc] at e
    cases e
    cases q : isOrd c with
    | false => rfl
    | true => exact absurd ⟨hp, ho q⟩ hc
theorem str_app (a b c : Str) : a ++ b ++ c = a ++ (b ++ c) := cp_inj (by rw [cp_app, cp_app, cp_app, cp_app, List.append_assoc])
theorem cp_empty : cp (Str.ofString "") = [] := by decide +kernel
theorem app_empty (x y : Str) : x ++ y = x ++ (Str.ofString "" ++ y) := cp_inj (by rw [cp_app, cp_app, cp_app, cp_empty]; rfl)
theorem empty_bl : ∀ c ∈ cp (Str.ofString ""), isBl c = true := by
  rw [cp_empty]
  intro c hc
  cases hc
theorem rowL_snoc (t : Tk) : ∀ (ts : List Tk) (acc : Str) (p : Option Tk), rowL acc p (ts ++ [t]) = rowStep (rowL acc p ts) (match ts.getLast? with | some q => some q | none => p) t
  | [], _, _ => rfl
  | [u], _, _ => rfl
  | u :: v :: r, acc, p => by
    show rowL (rowStep acc p u) (some u) (v :: r ++ [t]) = _
    rw [rowL_snoc t (v :: r)]
    rw [List.getLast?_cons_cons]
    rfl
theorem drawn_J {row : Str} {ts : List Tk} (d : Drawn row ts) : Jp (cp row) ts ∧ Jp (cp (rowT ts)) ts ∧ row.length ≤ 11 * ts.length ∧ (rowT ts).length ≤ 10 * ts.length ∧ tsz ts ≤ 15 * ts.length ∧ ∀ t ∈ ts, tkOk t := by
  induction d with
  | nil => exact ⟨Jp_nil, Jp_nil, Nat.zero_le _, Nat.zero_le _, Nat.zero_le _, fun _ h => nomatch h⟩
  | @add row ts k y z b d hp hb hc ih =>
    obtain ⟨j1, j2, l1, l2, l3, ok⟩ := ih
    obtain ⟨s1, s2, n1, n2, n3, kok⟩ := pc_step hp
    have hbl : ∀ c ∈ cp b, isBl c = true := by
      have h0 : blanks3.all (fun b => (cp b).all isBl && !(cp b).isEmpty && decide (b.length ≤ 2)) = true := by decide +kernel
      have h1 := List.all_eq_true.mp h0 b hb
      simp only [Bool.and_eq_true] at h1
      exact List.all_eq_true.mp h1.1.1
    have hbn : cp b ≠ [] ∧ b.length ≤ 2 := by
      have h0 : blanks3.all (fun b => (cp b).all isBl && !(cp b).isEmpty && decide (b.length ≤ 2)) = true := by decide +kernel
      have h1 := List.all_eq_true.mp h0 b hb
      simp only [Bool.and_eq_true, decide_eq_true_eq, Bool.not_eq_true'] at h1
      exact ⟨fun e => by rw [e] at h1; exact absurd h1.1.2 (by decide), h1.2⟩
    have e1 : cp (row ++ b ++ z) = cp row ++ (cp b ++ cp z) := by rw [str_app, cp_app, cp_app]
    have hle : (ts ++ [(k, y)]).length = ts.length + 1 := by simp
    have row2 : ∃ sep : Str, rowT (ts ++ [(k, y)]) = rowT ts ++ (sep ++ tkText k y) ∧ sep.length ≤ 1 ∧ (∀ c ∈ cp sep, isBl c = true) ∧ ∀ p, ts.getLast? = some p → (cp sep ≠ [] ∨ (isLike p.1 = true → isLike k = false)) := by
      have e2 : rowT (ts ++ [(k, y)]) = rowStep (rowT ts) (match ts.getLast? with | some q => some q | none => none) (k, y) := rowL_snoc (k, y) ts _ _
      rw [e2]
      cases hl : ts.getLast? with
      | none => exact ⟨Str.ofString "", app_empty _ _, by decide, empty_bl, fun p hp => by cases hp⟩
      | some p =>
        unfold rowStep
        dsimp only
        by_cases hq : (nbF p.1 p.2 k && (tkText k y != Str.ofString "")) = true
        · exact ⟨Str.ofString " ", by rw [if_pos hq, str_app], by decide, (by decide +kernel), fun q _ => .inl (by decide +kernel)⟩
        · refine ⟨Str.ofString "", by rw [if_neg hq]; exact app_empty _ _, by decide, empty_bl, fun q hq' => .inr fun hlk => ?_⟩
          have hq := Bool.not_eq_true _ ▸ hq
          cases hq'
          have hne : (tkText k y != Str.ofString "") = true := by
            obtain ⟨c, w', e, -⟩ := s2.hd
            rw [bne_iff_ne]
            intro z
            rw [z, cp_empty] at e
            cases e
          rw [hne, Bool.and_true] at hq
          unfold nbF at hq
          rw [hlk, Bool.true_and] at hq
          simp only [Bool.or_eq_false_iff] at hq
          exact hq.1.1
    obtain ⟨sep, e3, m1, m2, m3⟩ := row2
    refine ⟨?_, ?_, ?_, ?_, ?_, ?_⟩
    · rw [e1]
      exact Jp_add j1 s1 hbl fun p hp' rest => follow_bl s1 hbl (.inl hbn.1) (hc p hp')
    · rw [e3, cp_app, cp_app]
      exact Jp_add j2 s2 m2 fun p hp' rest => follow_bl s2 m2 (m3 p hp') (hc p hp')
    · rw [Str.length_append, Str.length_append, hle]
      omega
    · rw [e3, Str.length_append, Str.length_append, hle]
      omega
    · have : tsz (ts ++ [(k, y)]) = tsz ts + (y.length + 6) := by simp [tsz]
      rw [this, hle]
      omega
    · intro t ht
      rcases List.mem_append.mp ht with ht | ht
      · exact ok t ht
      · rw [List.mem_singleton.mp ht]; exact kok
end Mine
end
section
open PySem PySem.W PyProof.Rows
namespace Mine
def segChk (l : List Nat) : Bool :=
  (match l with | [] => true | c :: _ => !isNm c && !(c == 37) && !(c == 36) && !(c == 33)) && (match skipB l with | [] => true | d :: _ => !isOrd d)
theorem seg_follow {p : Tk} {l : List Nat} (h : segChk l = true) : Follow p l := by
  unfold segChk at h
  rw [Bool.and_eq_true] at h
  constructor
  · rintro - c r rfl
    have := h.1
    simp only [Bool.and_eq_true, Bool.not_eq_true', beq_eq_false_iff_ne] at this
    exact ⟨this.1.1.1, this.1.1.2, this.1.2, this.2⟩
  · intro _ d r e
    have := h.2
    rw [e] at this
    simpa using this
theorem rowStep_app (acc : Str) (p : Option Tk) (t : Tk) : rowStep acc p t = acc ++ rowStep (Str.ofString "") p t := by
  unfold rowStep
  cases p with
  | none => exact app_empty _ _
  | some q =>
    dsimp only
    by_cases h : (nbF q.1 q.2 t.1 && (tkText t.1 t.2 != Str.ofString "")) = true
    · rw [if_pos h, if_pos h, str_app, str_app, ← app_empty]
    · rw [if_neg h, if_neg h]; exact app_empty _ _
theorem rowL_app : ∀ (ts : List Tk) (acc : Str) (p : Option Tk), rowL acc p ts = acc ++ rowL (Str.ofString "") p ts
  | [], acc, p => by
    show acc = acc ++ Str.ofString ""
    exact cp_inj (by rw [cp_app, cp_empty, List.append_nil])
  | t :: r, acc, p => by
    show rowL (rowStep acc p t) (some t) r = acc ++ rowL (rowStep (Str.ofString "") p t) (some t) r
    rw [rowL_app r (rowStep acc p t), rowL_app r (rowStep (Str.ofString "") p t), rowStep_app acc, str_app]
theorem rowL_two : ∀ (a : List Tk) (b : List Tk) (acc : Str) (p : Option Tk), rowL acc p (a ++ b) = rowL (rowL acc p a) (match a.getLast? with | some q => some q | none => p) b
  | [], _, _, _ => rfl
  | [_], _, _, _ => rfl
  | u :: v :: r, b, acc, p => by
    show rowL (rowStep acc p u) (some u) (v :: r ++ b) = _
    rw [rowL_two (v :: r) b]
    rw [List.getLast?_cons_cons]
    rfl
/-- what is listed of a tail -/
theorem tail_listed {t : Tk} {r : List Tk} {q : Option Tk} : ∃ sep : Str, rowL (Str.ofString "") q (t :: r) = sep ++ rowL (Str.ofString "") none (t :: r) ∧ (sep = Str.ofString " " ∨ sep = Str.ofString "" ∧ (q = none ∨ ∃ p, q = some p ∧ (nbF p.1 p.2 t.1 && (tkText t.1 t.2 != Str.ofString "")) = false)) := by
  cases q with
  | none => exact ⟨Str.ofString "", cp_inj (by rw [cp_app, cp_empty]; rfl), .inr ⟨rfl, .inl rfl⟩⟩
  | some p =>
    by_cases h : (nbF p.1 p.2 t.1 && (tkText t.1 t.2 != Str.ofString "")) = true
    · refine ⟨Str.ofString " ", ?_, .inl rfl⟩
      show rowL (rowStep (Str.ofString "") (some p) t) (some t) r = Str.ofString " " ++ rowL (rowStep (Str.ofString "") none t) (some t) r
      rw [rowL_app r (rowStep (Str.ofString "") (some p) t), rowL_app r (rowStep (Str.ofString "") none t)]
      unfold rowStep
      dsimp only
      rw [if_pos h]
      exact cp_inj (by simp only [cp_app, cp_empty, List.nil_append, List.append_assoc, if_false, Bool.false_eq_true])
    · refine ⟨Str.ofString "", ?_, .inr ⟨rfl, .inr ⟨p, rfl, Bool.not_eq_true _ ▸ h⟩⟩⟩
      show rowL (rowStep (Str.ofString "") (some p) t) (some t) r = Str.ofString "" ++ rowL (rowStep (Str.ofString "") none t) (some t) r
      unfold rowStep
      dsimp only
      rw [if_neg h]
      exact cp_inj (by rw [cp_app, cp_empty]; rfl)
def tailChk (toks : List Tk) (z : Str) : Bool :=
  (runF 20 (skipB (cp z)) == some (some toks)) && segChk (cp z) && segChk (cp (z ++ Str.ofString "\n{")) &&
  (match runF 20 (skipB (cp (z ++ Str.ofString "\n{"))) with | some R => R.isNone == isOpenT toks | none => false) &&
  (toks.all fun t => PyData.strOk t.1 && PyData.strOk t.2) && decide (z.length ≤ 40) && decide (tsz toks ≤ 90) && decide ((rowL (Str.ofString "") none toks).length ≤ 40) &&
  (match toks with
    | [] => true
    | t :: r => (runF 20 (skipB (cp (rowL (Str.ofString "") none toks))) == some (some toks)) && segChk (cp (Str.ofString " " ++ rowL (Str.ofString "") none toks)) && (segChk (cp (rowL (Str.ofString "") none toks)) || (t.1 == Str.ofString "rem" && (tkText t.1 t.2 != Str.ofString ""))))
theorem tails_ok : (tails6.all fun p => tailChk p.1 p.2) = true := by decide +kernel
theorem nb_rem {k y k' : Str} (h : (k' == Str.ofString "rem") = true) : nbF k y k' = true := by
  unfold nbF
  have : ([Str.ofString "rem", Str.ofString "raw"].any fun x => x == k') = true := by
    rw [beq_iff_eq] at h
    subst h
    decide +kernel
  rw [this]
  simp
theorem Jp_end {acc l : List Nat} {ts : List Tk} {R : Option (List Tk)} (J : Jp acc ts) (hs : segChk l = true) (h : Run (skipB l) R) : Run (skipB (acc ++ l)) (R.map (ts ++ ·)) := J l R (fun p _ => seg_follow hs) h
theorem plainOk {row z : Str} {ts toks : List Tk} (d : Drawn row ts) (hl : ts.length ≤ 9) (h : (toks, z) ∈ tails6) : PlainOk (row ++ z) (ts ++ toks) toks := by
  obtain ⟨j1, j2, l1, l2, l3, ok⟩ := drawn_J d
  have hc := List.all_eq_true.mp tails_ok _ h
  unfold tailChk at hc
  simp only [Bool.and_eq_true, decide_eq_true_eq, beq_iff_eq] at hc
  obtain ⟨⟨⟨⟨⟨⟨⟨⟨c1, c2⟩, c3⟩, c4⟩, c5⟩, c6⟩, c7⟩, c8⟩, c9⟩ := hc
  have hok : ∀ t ∈ ts ++ toks, tkOk t := by
    intro t ht
    rcases List.mem_append.mp ht with ht | ht
    · exact ok t ht
    · have := List.all_eq_true.mp c5 t ht
      rw [Bool.and_eq_true] at this
      exact ⟨this.1, this.2⟩
  have hlen : (row ++ z).length ≤ 250 := by rw [Str.length_append]; omega
  have hsz : tsz (ts ++ toks) ≤ 900 := by
    have : tsz (ts ++ toks) = tsz ts + tsz toks := by simp [tsz]
    omega
  have hrun : Run (suf (row ++ z) (cnt isBl (suf (row ++ z) 0))) (some (ts ++ toks)) := by
    rw [suf_skip0, cp_app]
    exact Jp_end j1 c2 (runF_sound c1)
  have hlist : (rowT (ts ++ toks)).length ≤ 255 ∧ Run (skipB (cp (rowT (ts ++ toks)))) (some (ts ++ toks)) := by
    have e : rowT (ts ++ toks) = rowL (rowT ts) (match ts.getLast? with | some q => some q | none => none) toks := rowL_two ts toks _ _
    cases toks with
    | nil =>
      rw [List.append_nil]
      refine ⟨by omega, ?_⟩
      have := Jp_end (l := []) j2 rfl (R := some []) .nil
      simpa using this
    | cons t r =>
      dsimp only at c9
      simp only [Bool.and_eq_true, beq_iff_eq] at c9
      obtain ⟨⟨d1, d2⟩, d3⟩ := c9
      rw [e, rowL_app]
      generalize hq : (match ts.getLast? with | some q => some q | none => none) = q
      obtain ⟨sep, e2, hsep⟩ := tail_listed (t := t) (r := r) (q := q)
      rw [e2]
      have hs1 : sep.length ≤ 1 := by
        rcases hsep with rfl | ⟨rfl, _⟩ <;> decide
      refine ⟨by rw [Str.length_append, Str.length_append]; omega, ?_⟩
      have hbl : ∀ c ∈ cp sep, isBl c = true := by
        rcases hsep with rfl | ⟨rfl, _⟩
        · decide +kernel
        · exact empty_bl
      have hr : Run (skipB (cp (sep ++ rowL (Str.ofString "") none (t :: r)))) (some (t :: r)) := by
        rw [cp_app, skipB_bl hbl]
        exact runF_sound d1
      rw [cp_app]
      refine j2 _ _ (fun p hp => ?_) hr
      rcases hsep with rfl | ⟨rfl, hsep⟩
      · exact seg_follow d2
      · have e3 : cp (Str.ofString "" ++ rowL (Str.ofString "") none (t :: r)) = cp (rowL (Str.ofString "") none (t :: r)) := by rw [cp_app, cp_empty]; rfl
        rw [e3]
        rcases Bool.or_eq_true _ _ ▸ d3 with d3 | d3
        · exact seg_follow d3
        · exfalso
          rw [Bool.and_eq_true] at d3
          rw [hp] at hq
          rcases hsep with hsep | ⟨p', hsep, hnb⟩
          · rw [hsep] at hq; cases hq
          · rw [hsep] at hq
            cases hq
            rw [nb_rem d3.1, d3.2] at hnb
            cases hnb
  refine ⟨hlen, hrun, hok, hsz, hlist.1, ?_, ?_⟩
  · rw [suf_skip0]; exact hlist.2
  · cases e4 : runF 20 (skipB (cp (z ++ Str.ofString "\n{"))) with
    | none => rw [e4] at c4; cases c4
    | some R =>
      rw [e4] at c4
      have c4 : (R.isNone == isOpenT toks) = true := c4
      refine ⟨R.map (ts ++ ·), ?_, ?_⟩
      · rw [suf_skip0, str_app, cp_app]
        exact Jp_end j1 c3 (runF_sound e4)
      · unfold runBad
        have hb : ¬ 255 < (row ++ z ++ Str.ofString "\n{").length := by
          rw [Str.length_append]
          show ¬ 255 < (row ++ z).length + 2
          omega
        rw [decide_eq_false hb, Bool.false_or, ← beq_iff_eq.mp c4]
        cases R <;> rfl
end Mine
end
namespace Mine
theorem bag0 {w : World} {C : Addr} {o : Obj} {z : Int} {k1 k2 k3 t1 t2 : Tok} (h : Obj.IsDictOf (PySem.strKind PySem.Challenge.rw_pq0174_01.row.prog w) o (strPairs [(Value.str (Str.ofString "cells") k1, Value.ref C), (Value.str (Str.ofString "took") k2, Value.int 0 t1), (Value.str (Str.ofString "sum") k3, Value.int (z.fmod 89) t2)])) : Bag w C o 0 := by
  refine ⟨z.fmod 89, t1, t2, h, Int.le_refl _, Int.fmod_nonneg_of_pos _ (by decide), ?_⟩
  have := Int.fmod_lt_of_pos z (b := 89) (by decide)
  omega

theorem allLt_head {T FL : Addr} {o : Obj} {l : List (Addr × Obj)} (h : AllLt T ((FL, o) :: l)) : @LT.lt Nat _ FL T := h.1
theorem size_small {vs : List Value} (h : vs.length ≤ 1000) : vs.toArray.size ≤ sizeLine := by
  rw [List.size_toArray, sizeLine_eq]
  omega

def Stop1 (P : Prop) : Prop := P
theorem stopHere1 {P : Prop} (h : Stop1 P) : P := h

theorem lawHolds : PySem.Challenge.rw_pq0174_01.Holds := Mine.hd (by
  k_with_none
  k_with "m_open" => (
        refine wpAny_call ?_
        k_dflt ktr_enter)
  k_with "m_use" => (
        (case k1 => k_asm); (case k2 => k_asm); (case k3 => k_asm); (case k4 => k_asm); (case k5 => k_asm); (case kK => first | exact rfl | assumption); (case kd => first | omega | ktr_room); (case ku => first | omega | ktr_units))
  k_with "my ite" => (k_here; first
        | with_reducible refine ite_tt ?_
        | with_reducible refine ite_ff ?_
        | with_reducible refine ite_True_then ?_
        | with_reducible refine ite_False_else ?_
        | (refine ite_pos (by with_reducible assumption) ?_)
        | (refine ite_neg (by with_reducible assumption) ?_)
        | (refine ite_isFalse (by with_reducible assumption) ?_)
        | with_reducible refine split_not ?_
        | (with_reducible refine split_ine ?_ ?_ <;> intro _)
        | (with_reducible refine split_ieq ?_ ?_ <;> intro _)
        | (refine split_dec ?_ ?_ <;> intro _)
        | (refine split_bool ?_ ?_ <;> intro _))
  k_with "m_updB" => first
        | (refine' UpdF.head ?ua_259; (case ua_259 => with_reducible assumption))
        | (refine' UpdF.tail ?ua_259 ?ub_259; (case ua_259 => k_ne); (case ub_259 => k_extra "m_updB"))
  k_with "my subscriptTail" => (
        k_here
        (with_reducible show wpAny _ _ (subscriptTail _ _ (Value.ref _) (Value.int _ _)) _ _ _)
        (with_unfolding_all refine' m_itemS (n := 50) ?N_260 ?m_260 ?v_260 ?a_260 ?b_260 ?z_260 ?hl_260 ?_ ?hs_260)
        (case N_260 => k_asm)
        (case m_260 => k_mem)
        (case v_260 => (repeat' constructor); done)
        (case a_260 => assumption)
        (case b_260 => simp only [List.length_cons, List.length_nil]; omega)
        (case z_260 => simp only [List.length_cons, List.length_nil]; decide)
        (case hs_260 => with_unfolding_all rfl)
        (case hl_260 => decide +kernel)
        intro y9 t9 m9 n9)
  k_with "m_memL" => first
        | exact List.Mem.head _
        | (exact List.mem_append_left _ (by with_reducible assumption))
        | (refine List.Mem.tail _ ?_; k_extra "m_memL")
  k_with "m_subL" => (
        intro q hq
        repeat (first | exact hq | exact List.mem_append_left _ hq | refine List.Mem.tail _ ?_))
  k_with "m_updL" => first
        | (refine' Upd.head ?ua_263; (case ua_263 => with_reducible assumption))
        | (refine' Upd.tail ?ua_263 ?ub_263; (case ua_263 => k_ne); (case ub_263 => k_extra "m_updL"))
  k_with "my call ref" => (
        k_here
        (with_reducible show wpAny _ _ (call (Value.ref 198) [Value.ref _]) _ _ _)
        k_dflt (
          k_dflt (refine' use_tel (tPiece _ _ _ _ _ _ _ _ _ ?hB_264 ?hI_264 ?hlen_264 ?h1_264 ?hb_264 ?hcb_264) ?k1 ?k2 ?k3 ?k4 ?k5 ?kK ?kd ?ku ?_ (fun _ _ _ _ z => False.elim z))
          (case k4 => k_asm)
          (case hB_264 => with_reducible assumption)
          (case hI_264 => with_reducible assumption)
          (case hlen_264 => exact List.length_take_le _ _)
          (case h1_264 => omega)
          (case hb_264 => with_reducible assumption)
          (case hcb_264 => with_reducible assumption)
          (case k1 => exact below_caller _); (case k2 => k_asm); (case k3 => k_asm); (case k5 => k_asm); (case kK => first | exact rfl | assumption); (case kd => first | omega | ktr_room); (case ku => first | omega | ktr_units)
          intro r9 nw9 h9 tk9 F9 N9 O9
          k_dflt (obtain ⟨o9, took9, D9, T9, k9, y9, z9, t91, t92, t93, n9, j9, B9, c9, c9', e9, l9, l9', l9'', l9''', p9, e9'⟩ := O9)
          subst e9
          subst e9'
          have q9 := pc_len p9
          k_dflt (obtain ⟨q91, q92, q93⟩ := q9)
          have u9 := allLt_head l9
          have u91 := ltN l9'
          have u92 := ltN l9''
          have u93 := ltN l9'''
          clear l9' l9'' l9'''
          try dsimp only
          try k_fold))
  k_with "my call ref" => (
        k_here
        (with_reducible show wpAny _ _ (call (Value.ref 191) [Value.ref _, Value.int 3 _]) _ _ _)
        k_dflt (
          k_dflt (refine' use_tel (tTake' _ _ _ _ _ _ _ _ _ _ _ _ ?hB_265 ?hI_265 ?hlen_265 ?h1_265 ?hU_265 ?hcb_265 ?hC_265 ?hm_265 ?hmq_265) ?k1 ?k2 ?k3 ?k4 ?k5 ?kK ?kd ?ku ?_ (fun _ _ _ _ z => False.elim z))
          (case k4 => k_asm)
          (case hB_265 => with_reducible assumption)
          (case hU_265 => k_extra "m_updB")
          (case hC_265 => k_extra "m_memL")
          (case hI_265 => with_reducible assumption)
          (case hlen_265 => exact List.length_take_le _ _)
          (case h1_265 => omega)
          (case hcb_265 => with_reducible assumption)
          (case hm_265 => decide)
          (case hmq_265 => decide)
          (case k1 => exact below_caller _); (case k2 => k_asm); (case k3 => k_asm); (case k5 => k_asm); (case kK => first | exact rfl | assumption); (case kd => first | omega | ktr_room); (case ku => first | omega | ktr_units)
          intro r9 nw9 h9 tk9 F9 N9 O9
          k_dflt (obtain ⟨o9, i9, t9, B9, e9, e9', g9, g9'⟩ := O9)
          subst e9
          subst e9'
          try dsimp only
          try k_fold))
  k_with "my call ref" => (
        k_here
        (with_reducible show wpAny _ _ (call (Value.ref 212) [Value.ref _]) _ _ _)
        k_dflt (
          k_dflt (refine' use_tel (tIsOrder' _ _ _ _ _ _ _ _ ?hm_266) ?k1 ?k2 ?k3 ?k4 ?k5 ?kK ?kd ?ku ?_ (fun _ _ _ _ z => False.elim z))
          (case k4 => k_asm)
          (case hm_266 => k_extra "m_memL")
          (case k1 => exact below_caller _); (case k2 => k_asm); (case k3 => k_asm); (case k5 => k_asm); (case kK => first | exact rfl | assumption); (case kd => first | omega | ktr_room); (case ku => first | omega | ktr_units)
          intro r9 nw9 h9 tk9 F9 N9 O9
          k_dflt (obtain ⟨e9, e9'⟩ := O9)
          subst e9
          subst e9'
          try dsimp only
          try k_fold))
  k_with "my compareOp NotEq ref ref" => (
        k_here
        (with_reducible show wpAny _ _ (compareOp CmpOp.NotEq (Value.ref _) (Value.ref _)) _ _ _)
        k_dflt (
          k_dflt (refine' lists_ne (us := []) (ys := []) ?N_267 ?a_267 ?b_267 ?A_267 .nil ?ha_267 (fun _ h => nomatch h) ?hu_267 ?_)
          (case N_267 => k_asm)
          (case b_267 => exact List.Mem.head _)
          (case a_267 => k_extra "m_memL")
          (case A_267 => (refine' DatAll.mono ?sA_267 ?dA_267; (case dA_267 => with_reducible assumption); (case sA_267 => k_extra "m_subL")))
          (case ha_267 => with_reducible assumption)
          (case hu_267 => first | omega | ktr_units)
          intro q9 e9))
  k_with "my subscriptTail Name UnaryOp ref int" => (
        k_here
        (with_reducible show wpAny _ _ (subscriptTail _ _ (Value.ref _) (Value.int _ _)) _ _ _)
        k_dflt (
          (with_unfolding_all refine' m_lastD ?N_268 ?m_268 ?D_268 ?ne_268 ?z_268 ?_ ?hs_268)
          (case N_268 => k_asm)
          (case D_268 => with_reducible assumption)
          (case m_268 => k_extra "m_memL")
          (case ne_268 => first | (refine' ne_of_iff ?ii_268 ?jj_268; (case ii_268 => with_reducible assumption); (case jj_268 => with_reducible assumption)))
          (case z_268 => omega)
          (case hs_268 => with_unfolding_all rfl)
          intro a9 p9 t1 t2 n9 g9 m9))
  k_with "my getMethod ref" => (k_here; (with_reducible show wpAny _ _ (getMethod (Value.ref _) (PySem.Str.ofString "append") _) _ _ _); k_dflt (refine' listMethod_K ?N_269 ?m_269 PySem.F.slot_list_append PySem.F.type_list_append ?_; (case N_269 => k_asm); (case m_269 => k_extra "m_memL")))
  k_with "my call builtin:list.append" => (k_here; (with_reducible show wpAny _ _ (call (Value.builtin _) [Value.ref _, _]) _ _ _); k_dflt (refine' append_K ?k1 ?k2 ?k3 ?_ ?z_270; (case k1 => k_asm); (case k2 => k_asm); (case k3 => k_extra "m_updL"); (case z_270 => exact size_small (by omega))); intro h' F' N')
  k_with "m_subO" => (
        intro q hq
        repeat (first | exact hq | exact List.mem_append_right _ hq | refine List.Mem.tail _ ?_))
  k_with "m_cond" => first
        | exact cond_nil (by with_reducible assumption) (by with_reducible assumption)
        | exact cond_new (by with_reducible assumption)
        | exact cond_last (by with_reducible assumption) (by with_reducible assumption)
  k_with "m_turn" => first
        | (refine' law_cont ?oF_273 ?oN_273 ?o1_273 ?o2_273 ?o3_273 ?o4_273 ?o5_273 ?o6_273 ?o7_273 ?o8_273 ?o9_273 ?p1_273 ?p2_273 ?p3_273 ?p4_273 ?p5_273 ?p6_273 ?p7_273 ?p8_273 ?p9_273
           (case oF_273 => k_asm)
           (case oN_273 => k_asm)
           (case o6_273 => exact rfl)
           (case o7_273 => exact rfl)
           (case o8_273 => exact rfl)
           (case o9_273 => with_reducible assumption)
           (case p2_273 => with_reducible assumption)
           (case p3_273 => with_reducible assumption)
           (case p4_273 => with_reducible assumption)
           (case p5_273 => with_reducible assumption)
           (case p6_273 => with_reducible assumption)
           (case p7_273 => with_reducible assumption)
           (case p8_273 => with_reducible assumption)
           (case p9_273 => with_reducible assumption)
           (case p1_273 => omega)
           (case o1_273 => k_extra "m_memL")
           (case o2_273 => k_extra "m_memL")
           (case o3_273 => k_extra "m_memL")
           (case o4_273 => k_extra "m_subL")
           (case o5_273 => k_extra "m_subO"))
        | (refine' law_next ?oF_273 ?oN_273 ?o1_273 ?o2_273 ?o3_273 ?oT_273 ?o4_273 ?o5_273 ?o6_273 ?o7_273 ?o8_273 ?o9_273 ?p1_273 ?p2_273 ?p3_273 ?p4_273 ?p5_273 ?p6_273 ?p7_273 ?p8_273 ?p9_273 ?q1_273 ?q2_273 ?q3_273 ?q4_273 ?q5_273
           (case oF_273 => k_asm)
           (case oN_273 => k_asm)
           (case o6_273 => exact rfl)
           (case o7_273 => exact rfl)
           (case o8_273 => exact rfl)
           (case o9_273 => with_reducible assumption)
           (case p2_273 => with_reducible assumption)
           (case p3_273 => with_reducible assumption)
           (case p4_273 => with_reducible assumption)
           (case p5_273 => with_reducible assumption)
           (case p6_273 => with_reducible assumption)
           (case p7_273 => with_reducible assumption)
           (case p8_273 => with_reducible assumption)
           (case p9_273 => with_reducible assumption)
           (case q1_273 => with_reducible assumption)
           (case q2_273 => with_reducible assumption)
           (case q3_273 => with_reducible assumption)
           (case q4_273 => assumption)
           (case q5_273 => k_extra "m_cond")
           (case p1_273 => omega)
           (case o1_273 => k_extra "m_memL")
           (case o2_273 => k_extra "m_memL")
           (case o3_273 => k_extra "m_memL")
           (case oT_273 => k_extra "m_memL")
           (case o4_273 => k_extra "m_subL")
           (case o5_273 => k_extra "m_subO"))
  k_with "m_memX" => first
        | exact List.Mem.head _
        | with_reducible assumption
        | (refine List.mem_append_right _ ?_; k_extra "m_memX")
        | (refine List.mem_cons_of_mem _ ?_; k_extra "m_memX")
        | (refine' mem_up ?hu_274 ?mu_274; (case hu_274 => with_reducible assumption); (case mu_274 => k_extra "m_memX"))
  k_with "m_datX" => first
        | (refine' DatAll.mono ?sX_275 ?dX_275; (case dX_275 => with_reducible assumption); (case sX_275 => (intro q hq; k_extra "m_memX")))
        | ((simp only [List.map_cons, List.map_nil, tkD]); k_extra "m_datL")
  k_with "m_datL" => first
        | exact .nil
        | (refine' DatAll.cons (.tuple (vs := [.str _ _, .str _ _]) ?da_276 (.cons (.str _ _) (.cons (.str _ _) .nil))) ?db_276; (case da_276 => k_extra "m_memX"); (case db_276 => k_extra "m_datL"))
  k_with "m_call" => (
        (case k1 => exact below_caller _); (case k2 => k_asm); (case k3 => k_asm); (case k5 => k_asm); (case kK => first | exact rfl | assumption); (case kd => first | omega | ktr_room); (case ku => first | omega | ktr_units))
  k_with "my binaryOp Add ref ref" => (
        k_here
        (with_reducible show wpAny _ _ (binaryOp _ (Value.ref _) (Value.ref _)) _ _ _)
        k_dflt (
          refine' m_add2 ?F_278 ?N_278 ?a_278 ?b_278 ?z_278 ?_
          (case F_278 => k_asm)
          (case N_278 => k_asm)
          (case a_278 => k_extra "m_memX")
          (case b_278 => k_extra "m_memX")
          (case z_278 => omega)
          intro D9 h9 F9 N9))
  k_with "my call ref" => (
        k_here
        (with_reducible show wpAny _ _ (call (Value.ref 156) [Value.str _ _]) _ _ _)
        k_dflt (
          refine' use_tel (toksOf_some ?hx_279 ?hR_279) ?k1 ?k2 ?k3 ?k4 ?k5 ?kK ?kd ?ku ?_ (fun _ _ _ _ z => False.elim z)
          (case k4 => k_asm)
          (case hR_279 => with_reducible assumption)
          (case hx_279 => with_reducible assumption)
          k_extra "m_call"
          intro r9 nw9 h9 tk9 F9 N9 O9
          obtain ⟨D9, vs9, c9, mid9, e9, s9, A9, v9, e9'⟩ := O9
          subst e9
          subst e9'
          try dsimp only
          try k_fold))
  k_with "my call ref" => (
        k_here
        (with_reducible show wpAny _ _ (call (Value.ref 177) [Value.ref _]) _ _ _)
        k_dflt (
          refine' use_tel (tRowOf' _ _ _ _ _ _ ?hm_280 ?A_280 ?sz_280 ?len_280 ?ok_280) ?k1 ?k2 ?k3 ?k4 ?k5 ?kK ?kd ?ku ?_ (fun _ _ _ _ z => False.elim z)
          (case k4 => k_asm)
          (case hm_280 => k_extra "m_memX")
          (case A_280 => k_extra "m_datX")
          (case sz_280 => with_reducible assumption)
          (case len_280 => omega)
          (case ok_280 => assumption)
          k_extra "m_call"
          intro r9 nw9 h9 tk9 F9 N9 O9
          obtain ⟨e9, y9, u9, e9', v9⟩ := O9
          subst e9
          subst e9'
          subst v9
          try dsimp only
          try k_fold))
  k_with "my call ref" => (
        k_here
        (with_reducible show wpAny _ _ (call (Value.ref 184) [Value.str _ _]) _ _ _)
        k_dflt (
          refine' use_tel (tCanon _ _ _ _ _ ?hx_281 ?hR_281 ?sz_281 ?ok_281 ?row_281) ?k1 ?k2 ?k3 ?k4 ?k5 ?kK ?kd ?ku ?_ (fun _ _ _ _ z => False.elim z)
          (case k4 => k_asm)
          (case hR_281 => with_reducible assumption)
          (case hx_281 => with_reducible assumption)
          (case sz_281 => with_reducible assumption)
          (case ok_281 => assumption)
          (case row_281 => with_reducible assumption)
          k_extra "m_call"
          intro r9 nw9 h9 tk9 F9 N9 O9
          obtain ⟨e9, y9, u9, e9', v9⟩ := O9
          subst e9
          subst e9'
          subst v9
          try dsimp only
          try k_fold))
  k_with "my call ref" => (
        k_here
        (with_reducible show wpAny _ _ (call (Value.ref 219) [Value.str _ _]) _ _ _)
        k_dflt (
          refine' use_telE (tRefused _ _ _ _ ?hx_282 ?hR_282) ?k1 ?k2 ?k3 ?k4 ?k5 ?kK ?kd ?ku ?_
          (case k4 => k_asm)
          (case hR_282 => with_reducible assumption)
          (case hx_282 => first | with_reducible assumption | omega)
          k_extra "m_call"
          intro r9 nw9 h9 tk9 F9 N9 O9
          obtain ⟨e9, e9'⟩ := O9
          subst e9
          subst e9'
          try dsimp only
          try k_fold))
  k_with "my compareOp NotEq ref ref" => (
        k_here
        (with_reducible show wpAny _ _ (compareOp CmpOp.NotEq (Value.ref _) (Value.ref _)) _ _ _)
        k_dflt (
          refine' lists_same ?N_283 ?a_283 ?b_283 ?A_283 ?B_283 ?ha_283 ?hu_283 ?_
          (case N_283 => k_asm)
          (case a_283 => k_extra "m_memX")
          (case b_283 => k_extra "m_memX")
          (case A_283 => k_extra "m_datX")
          (case B_283 => k_extra "m_datX")
          (case ha_283 => with_reducible assumption)
          (case hu_283 => first | omega | ktr_units)))
  k_with "my compareOp Eq ref ref" => (
        k_here
        (with_reducible show wpAny _ _ (compareOp CmpOp.Eq (Value.ref _) (Value.ref _)) _ _ _)
        k_dflt (
          refine' lists_eq (us := []) (ys := []) ?N_284 ?a_284 ?b_284 ?A_284 .nil ?ha_284 (fun _ h => nomatch h) ?hu_284 ?_
          (case N_284 => k_asm)
          (case b_284 => exact List.Mem.head _)
          (case a_284 => k_extra "m_memX")
          (case A_284 => k_extra "m_datX")
          (case ha_284 => with_reducible assumption)
          (case hu_284 => first | omega | ktr_units)
          intro q9 e9))
  k_with "my subscriptTail Name UnaryOp ref int" => (
        k_here
        (with_reducible show wpAny _ _ (subscriptTail _ _ (Value.ref _) (Value.int _ _)) _ _ _)
        k_dflt (
          (with_unfolding_all refine' m_lastX ?N_285 ?m_285 ?D_285 ?sub_285 ?ne_285 ?z_285 ?_ ?hs_285)
          (case N_285 => k_asm)
          (case m_285 => k_extra "m_memX")
          (case D_285 => with_reducible assumption)
          (case sub_285 => (intro q hq; k_extra "m_memX"))
          (case ne_285 => (refine' ne_of_iff' ?ii_285 ?jj_285; (case ii_285 => with_reducible assumption); (case jj_285 => with_reducible assumption)))
          (case z_285 => omega)
          (case hs_285 => with_unfolding_all rfl)
          intro a9 p9 t1 t2 n9 g9 N9))
  k_with "my call ref" => (k_here; (with_reducible show wpAny _ _ (call (Value.ref 191) [_, Value.int 10 _]) _ _ _); refine stopHere1 ?_)
  k_with "my pyIter ref" => (k_here; (with_reducible show wpAny _ _ (pyIter (Value.ref _)) _ _ _); refine stopHere1 ?_)
  k_with "my call ref" => (k_here; (with_reducible show wpAny _ _ (call (Value.ref 205) _) _ _ _); refine stopHere1 ?_)
  w_strict k_go0
  k_steps
  unfold Stop1
  (rename Obj.IsDictOf _ _ (PySem.strPairs _) => dX)
  (have bX := bag0 dX)
  k_dflt (refine' use_tel (tTake' _ _ _ _ _ _ _ _ _ _ _ _ bX ?hI ?hlen ?h1 ?hU ?hcb ?hC ?hm ?hm') ?k1 ?k2 ?k3 ?k4 ?k5 ?kK ?kd ?ku ?_ (fun _ _ _ _ z => False.elim z))
  (case k4 => k_asm)
  (case hU => k_updF)
  (case hC => k_mem)
  (case hI => with_reducible assumption)
  (case hlen => exact List.length_take_le _ _)
  (case h1 => decide)
  (case hcb => k_ne)
  (case hm => decide)
  (case hm' => decide)
  (case k1 => exact below_caller _)
  (case k2 => k_asm); (case k3 => k_asm); (case k5 => k_asm); (case kK => first | exact rfl | assumption); (case kd => first | omega | ktr_room); (case ku => first | omega | ktr_units)
  intro r9 nw9 h9 tk9 F9 N9 O9
  obtain ⟨o9, i9, t9, B9, e9, e9', g9, g9'⟩ := O9
  subst e9
  subst e9'
  (try dsimp only)
  (try k_fold)
  k_steps
  unfold Stop1
  (rename IsRange _ _ _ _ _ _ _ _ => rgX)
  refine' law_iter ?hh rgX ?hb0 ?hb1 ?hF ?hN ?hB ?hC ?hFL ?bag ?h1 ?h2 ?h3 ?turn ?done
  (case hh => rfl)
  (case hF => k_asm)
  (case hN => k_asm)
  (case h1 => rfl)
  (case h2 => rfl)
  (case h3 => rfl)
  (case bag => assumption)
  (case hB => k_mem)
  (case hC => k_mem)
  (case hFL => k_mem)
  (case hb0 => assumption)
  (case hb1 => assumption)
  case turn =>
    w_top off
    intro i v o took vs c mid ts row tr f h tk own hi hbag htook hD hb₀ hfl hdr hts hvs hrow hok hown F₁ N₁
    have hb := hb₀ (by k_ne) (by k_ne)
    have hcb := hb _ (.head _)
    dsimp only at hcb
    have hfb := hb _ (.tail _ (.head _))
    dsimp only at hfb
    clear hb₀
    dsimp only [envOf] at F₁ N₁
    (try k_fold)
    k_steps
    all_goals ((try dsimp only); k_extra "m_turn")
  case done =>
    w_top off
    intro o took vs c mid ts row tr f h tk hbag htook hD hb₀ hfl hdr hts hvs hrow hok F₁ N₁
    have hb := hb₀ (by k_ne) (by k_ne)
    have hcb := hb _ (.head _)
    dsimp only at hcb
    clear hb₀
    dsimp only [envOf] at F₁ N₁
    (try k_fold)
    k_steps
    unfold Stop1
    k_dflt (refine' use_tel (tTail _ _ _ _ _ _ _ _ _ ?hB ?hI ?hlen ?h1 ?hb ?hcb) ?k1 ?k2 ?k3 ?k4 ?k5 ?kK ?kd ?ku ?_ (fun _ _ _ _ z => False.elim z))
    (case k4 => k_asm)
    (case hB => with_reducible assumption)
    (case hI => with_reducible assumption)
    (case hlen => exact List.length_take_le _ _)
    (case h1 => omega)
    (case hb => with_reducible assumption)
    (case hcb => with_reducible assumption)
    k_extra "m_call"
    intro r9 nw9 h9 tk9 F9 N9 O9
    obtain ⟨D9, ML9, vs9, c9, toks9, z9, t9, n9, mid9, e9, hs9, A9, in9, e9'⟩ := O9
    subst e9
    subst e9'
    have P9 := plainOk hdr hts in9
    have memF := hs9 _ (.head _)
    have Df := (hD.mono fun q hq => hs9 q (.tail _ hq)).append A9
    rw [← List.map_append] at Df
    have hz9 : z9.length ≤ 50 := by
      have h0 : tails6.all (fun p => decide (p.2.length ≤ 50)) = true := by decide +kernel
      exact of_decide_eq_true (List.all_eq_true.mp h0 _ in9)
    have hv9 : vs9.length ≤ 3 := by
      have h0 : tails6.all (fun p => decide (p.1.length ≤ 3)) = true := by decide +kernel
      have h1 := of_decide_eq_true (List.all_eq_true.mp h0 _ in9)
      rw [A9.length, List.length_map]
      exact h1
    have hfv : (vs ++ vs9).length ≤ 20 := by rw [List.length_append]; omega
    have hok9 : ∀ t ∈ toks9, tkOk t := fun t ht => P9.ok t (List.mem_append_right _ ht)
    have hlen1 := len_250 P9
    have hrun1 := P9.run
    have hok1 := P9.ok
    have hsz1 := P9.sz
    have hlen2 := P9.llen
    have hrun2 := P9.lrun
    have hrun3 := plain3
    have hlen3 : (Str.ofString "A< =B").length ≤ 255 := by decide
    have hok3 := ok3
    have hlen4 : (row ++ z9).length ≤ 250 := P9.len
    obtain ⟨R4, hrun4, hbad4⟩ := P9.nrun
    have hlen5 : (row ++ z9 ++ Str.ofString "\n{").length ≤ 1000 := by
      rw [Str.length_append]
      show _ + 2 ≤ 1000
      omega
    have hrun6 := blank256
    have hlen6 := blank256_len
    clear hs9 hfl hb N₁ F₁ P9
    (try dsimp only)
    (try k_fold)
    k_steps
    all_goals first
      | exact (bad_a hbad4 (by with_reducible assumption) (by with_reducible assumption) (by with_reducible assumption)).elim
      | exact (bad_b hbad4 (by with_reducible assumption) (by with_reducible assumption)).elim)
end Mine
theorem PySem.Challenge.cw_pq0174_01_holds : PySem.Challenge.rw_pq0174_01.Holds := by
  exact Mine.lawHolds
