import PyProof.Rows.All
import Wide.All
import OpenK.AllK
import Wide.FinOn
import PySem.Challenge.RW_or0048_01
open PySem PySem.W PyProof.Rows
set_option Elab.async false
set_option maxRecDepth 100000
set_option maxHeartbeats 8000000
namespace Mine
open PySem PySem.W PyProof.Rows
noncomputable def stAt (i : Nat) : Stmt := (PySem.Challenge.rw_or0048_01.row.prog.main.body[i]?).getD (.Pass ⟨0, 0, 0, 0⟩)
noncomputable def fP (i : Nat) : Arguments := match stAt i with
  | .FunctionDef _ a _ _ _ _ _ _ _ _ => a
  | _ => ⟨[], [], none, [], [], none, []⟩
noncomputable def fB (i : Nat) : List Stmt := match stAt i with
  | .FunctionDef _ _ b _ _ _ _ _ _ _ => b
  | _ => []
noncomputable def fS (i : Nat) : Scope := match stAt i with
  | .FunctionDef _ _ _ _ _ _ s _ _ _ => s
  | _ => ⟨.function, [], false, false, []⟩
noncomputable def hd.view_39 : Program := { PySem.Challenge.rw_or0048_01.row.prog with main := { PySem.Challenge.rw_or0048_01.row.prog.main with body := [0, 2, 3, 4, 5, 6, 8, 9, 11, 12, 14, 15, 16, 17, 18, 19, 20, 21, 22, 23, 24, 25, 27, 28, 29, 30, 31, 32, 33, 35, 36, 37, 38, 39, 40, 41, 42, 43, 44, 45, 47, 48, 49, 50, 51, 52].map stAt } }
noncomputable def hd.heap_39 : Params → Frag := fun P => (fun (p0 : Arguments) (_ : fP 0 = p0) (b0 : List Stmt) (_ : fB 0 = b0) (s0 : Scope) (_ : fS 0 = s0) (p4 : Arguments) (_ : fP 4 = p4) (b4 : List Stmt) (_ : fB 4 = b4) (s4 : Scope) (_ : fS 4 = s4) (p5 : Arguments) (_ : fP 5 = p5) (b5 : List Stmt) (_ : fB 5 = b5) (s5 : Scope) (_ : fS 5 = s5) (p6 : Arguments) (_ : fP 6 = p6) (b6 : List Stmt) (_ : fB 6 = b6) (s6 : Scope) (_ : fS 6 = s6) (p11 : Arguments) (_ : fP 11 = p11) (b11 : List Stmt) (_ : fB 11 = b11) (s11 : Scope) (_ : fS 11 = s11) (p12 : Arguments) (_ : fP 12 = p12) (b12 : List Stmt) (_ : fB 12 = b12) (s12 : Scope) (_ : fS 12 = s12) (p19 : Arguments) (_ : fP 19 = p19) (b19 : List Stmt) (_ : fB 19 = b19) (s19 : Scope) (_ : fS 19 = s19) (p20 : Arguments) (_ : fP 20 = p20) (b20 : List Stmt) (_ : fB 20 = b20) (s20 : Scope) (_ : fS 20 = s20) (p21 : Arguments) (_ : fP 21 = p21) (b21 : List Stmt) (_ : fB 21 = b21) (s21 : Scope) (_ : fS 21 = s21) (p22 : Arguments) (_ : fP 22 = p22) (b22 : List Stmt) (_ : fB 22 = b22) (s22 : Scope) (_ : fS 22 = s22) (p23 : Arguments) (_ : fP 23 = p23) (b23 : List Stmt) (_ : fB 23 = b23) (s23 : Scope) (_ : fS 23 = s23) (p24 : Arguments) (_ : fP 24 = p24) (b24 : List Stmt) (_ : fB 24 = b24) (s24 : Scope) (_ : fS 24 = s24) (p25 : Arguments) (_ : fP 25 = p25) (b25 : List Stmt) (_ : fB 25 = b25) (s25 : Scope) (_ : fS 25 = s25) (p30 : Arguments) (_ : fP 30 = p30) (b30 : List Stmt) (_ : fB 30 = b30) (s30 : Scope) (_ : fS 30 = s30) (p31 : Arguments) (_ : fP 31 = p31) (b31 : List Stmt) (_ : fB 31 = b31) (s31 : Scope) (_ : fS 31 = s31) (p32 : Arguments) (_ : fP 32 = p32) (b32 : List Stmt) (_ : fB 32 = b32) (s32 : Scope) (_ : fS 32 = s32) (p33 : Arguments) (_ : fP 33 = p33) (b33 : List Stmt) (_ : fB 33 = b33) (s33 : Scope) (_ : fS 33 = s33) (p39 : Arguments) (_ : fP 39 = p39) (b39 : List Stmt) (_ : fB 39 = b39) (s39 : Scope) (_ : fS 39 = s39) (p40 : Arguments) (_ : fP 40 = p40) (b40 : List Stmt) (_ : fB 40 = b40) (s40 : Scope) (_ : fS 40 = s40) (p41 : Arguments) (_ : fP 41 = p41) (b41 : List Stmt) (_ : fB 41 = b41) (s41 : Scope) (_ : fS 41 = s41) (p42 : Arguments) (_ : fP 42 = p42) (b42 : List Stmt) (_ : fB 42 = b42) (s42 : Scope) (_ : fS 42 = s42) (p43 : Arguments) (_ : fP 43 = p43) (b43 : List Stmt) (_ : fB 43 = b43) (s43 : Scope) (_ : fS 43 = s43) (p44 : Arguments) (_ : fP 44 = p44) (b44 : List Stmt) (_ : fB 44 = b44) (s44 : Scope) (_ : fS 44 = s44) (p45 : Arguments) (_ : fP 45 = p45) (b45 : List Stmt) (_ : fB 45 = b45) (s45 : Scope) (_ : fS 45 = s45) (p47 : Arguments) (_ : fP 47 = p47) (b47 : List Stmt) (_ : fB 47 = b47) (s47 : Scope) (_ : fS 47 = s47) (p48 : Arguments) (_ : fP 48 = p48) (b48 : List Stmt) (_ : fB 48 = b48) (s48 : Scope) (_ : fS 48 = s48) (p49 : Arguments) (_ : fP 49 = p49) (b49 : List Stmt) (_ : fB 49 = b49) (s49 : Scope) (_ : fS 49 = s49) (p50 : Arguments) (_ : fP 50 = p50) (b50 : List Stmt) (_ : fB 50 = b50) (s50 : Scope) (_ : fS 50 = s50) (p51 : Arguments) (_ : fP 51 = p51) (b51 : List Stmt) (_ : fB 51 = b51) (s51 : Scope) (_ : fS 51 = s51) (p52 : Arguments) (_ : fP 52 = p52) (b52 : List Stmt) (_ : fB 52 = b52) (s52 : Scope) (_ : fS 52 = s52) => (
(nat_lit 2, (Obj.mk Value.none none (Data.dict #[(DictEntry.mk (PyData.keyHash P (Str.ofString "type.__subclasses__.Exception.0")) (Value.str (Str.ofString "type.__subclasses__.Exception.0") 262) (Value.int 63 0)), (DictEntry.mk (PyData.keyHash P (Str.ofString "type.__subclasses__.Exception.n")) (Value.str (Str.ofString "type.__subclasses__.Exception.n") 263) (Value.int 1 0))] 2) #[])) ::
(nat_lit 3, (Obj.mk (Value.type "dict") none (Data.dict #[(DictEntry.mk (PyData.keyHash P (Str.ofString "__name__")) (Value.str (Str.ofString "__name__") 165) (Value.str (Str.ofString "law_or0048_01") 488)), (DictEntry.mk (PyData.keyHash P (Str.ofString "__doc__")) (Value.str (Str.ofString "__doc__") 166) Value.none), (DictEntry.mk (PyData.keyHash P (Str.ofString "__package__")) (Value.str (Str.ofString "__package__") 167) Value.none), (DictEntry.mk (PyData.keyHash P (Str.ofString "__loader__")) (Value.str (Str.ofString "__loader__") 168) (Value.builtin "__main__.__loader__#opaque")), (DictEntry.mk (PyData.keyHash P (Str.ofString "__spec__")) (Value.str (Str.ofString "__spec__") 169) Value.none), (DictEntry.mk (PyData.keyHash P (Str.ofString "__annotations__")) (Value.str (Str.ofString "__annotations__") 170) (Value.ref 6)), (DictEntry.mk (PyData.keyHash P (Str.ofString "__builtins__")) (Value.str (Str.ofString "__builtins__") 171) (Value.ref 4)), (DictEntry.mk (PyData.keyHash P (Str.ofString "__file__")) (Value.str (Str.ofString "__file__") 173) (Value.str (Str.ofString "/claim/cut.py") 172)), (DictEntry.mk (PyData.keyHash P (Str.ofString "__cached__")) (Value.str (Str.ofString "__cached__") 174) Value.none), (DictEntry.mk (PyData.keyHash P (Str.ofString "_wall")) (Value.str (Str.ofString "_wall") 193) (Value.ref 21)), (DictEntry.mk (PyData.keyHash P (Str.ofString "SIGNS")) (Value.str (Str.ofString "SIGNS") 197) (Value.bytes #[65, 66, 67, 68, 69, 70, 71, 72, 73, 74, 75, 76, 77, 78, 79, 80, 81, 82, 83, 84, 85, 86, 87, 88, 89, 90, 97, 98, 99, 100, 101, 102, 103, 104, 105, 106, 107, 108, 109, 110, 111, 112, 113, 114, 115, 116, 117, 118, 119, 120, 121, 122, 48, 49, 50, 51, 52, 53, 54, 55, 56, 57, 43, 47] 196)), (DictEntry.mk (PyData.keyHash P (Str.ofString "PAD")) (Value.str (Str.ofString "PAD") 199) (Value.int 61 198)), (DictEntry.mk (PyData.keyHash P (Str.ofString "worth_table")) (Value.str (Str.ofString "worth_table") 205) (Value.ref 26)), (DictEntry.mk (PyData.keyHash P (Str.ofString "group_octets")) (Value.str (Str.ofString "group_octets") 211) (Value.ref 31)), (DictEntry.mk (PyData.keyHash P (Str.ofString "decoded")) (Value.str (Str.ofString "decoded") 223) (Value.ref 38)), (DictEntry.mk (PyData.keyHash P (Str.ofString "PostError")) (Value.str (Str.ofString "PostError") 265) (Value.ref 63)), (DictEntry.mk (PyData.keyHash P (Str.ofString "MimeFault")) (Value.str (Str.ofString "MimeFault") 281) (Value.ref 76)), (DictEntry.mk (PyData.keyHash P (Str.ofString "lower_code")) (Value.str (Str.ofString "lower_code") 290) (Value.ref 85)), (DictEntry.mk (PyData.keyHash P (Str.ofString "lower_text")) (Value.str (Str.ofString "lower_text") 296) (Value.ref 90)), (DictEntry.mk (PyData.keyHash P (Str.ofString "ASCII")) (Value.str (Str.ofString "ASCII") 300) (Value.str (Str.ofString "us-ascii") 299)), (DictEntry.mk (PyData.keyHash P (Str.ofString "LATIN")) (Value.str (Str.ofString "LATIN") 302) (Value.str (Str.ofString "iso-8859-1") 301)), (DictEntry.mk (PyData.keyHash P (Str.ofString "UTF8")) (Value.str (Str.ofString "UTF8") 304) (Value.str (Str.ofString "utf-8") 303)), (DictEntry.mk (PyData.keyHash P (Str.ofString "CHARSETS")) (Value.str (Str.ofString "CHARSETS") 305) (Value.ref 91)), (DictEntry.mk (PyData.keyHash P (Str.ofString "UNKNOWN_SIGN")) (Value.str (Str.ofString "UNKNOWN_SIGN") 308) (Value.str (Str.ofString "�") 307)), (DictEntry.mk (PyData.keyHash P (Str.ofString "charset_names")) (Value.str (Str.ofString "charset_names") 316) (Value.ref 98)), (DictEntry.mk (PyData.keyHash P (Str.ofString "charset_name")) (Value.str (Str.ofString "charset_name") 323) (Value.ref 105)), (DictEntry.mk (PyData.keyHash P (Str.ofString "need_charset")) (Value.str (Str.ofString "need_charset") 330) (Value.ref 112)), (DictEntry.mk (PyData.keyHash P (Str.ofString "follower_span")) (Value.str (Str.ofString "follower_span") 337) (Value.ref 119)), (DictEntry.mk (PyData.keyHash P (Str.ofString "utf8_sign")) (Value.str (Str.ofString "utf8_sign") 351) (Value.ref 126)), (DictEntry.mk (PyData.keyHash P (Str.ofString "sign_at")) (Value.str (Str.ofString "sign_at") 360) (Value.ref 133)), (DictEntry.mk (PyData.keyHash P (Str.ofString "text_in")) (Value.str (Str.ofString "text_in") 372) (Value.ref 140)), (DictEntry.mk (PyData.keyHash P (Str.ofString "EQUALS")) (Value.str (Str.ofString "EQUALS") 376) (Value.int 61 375)), (DictEntry.mk (PyData.keyHash P (Str.ofString "BLANK")) (Value.str (Str.ofString "BLANK") 378) (Value.int 32 377)), (DictEntry.mk (PyData.keyHash P (Str.ofString "UNDERLINE")) (Value.str (Str.ofString "UNDERLINE") 380) (Value.int 95 379)), (DictEntry.mk (PyData.keyHash P (Str.ofString "hex_worth")) (Value.str (Str.ofString "hex_worth") 387) (Value.ref 147)), (DictEntry.mk (PyData.keyHash P (Str.ofString "quoted_at")) (Value.str (Str.ofString "quoted_at") 397) (Value.ref 154)), (DictEntry.mk (PyData.keyHash P (Str.ofString "unquoted")) (Value.str (Str.ofString "unquoted") 407) (Value.ref 161)), (DictEntry.mk (PyData.keyHash P (Str.ofString "word_q_decoded")) (Value.str (Str.ofString "word_q_decoded") 413) (Value.ref 166)), (DictEntry.mk (PyData.keyHash P (Str.ofString "WHITE")) (Value.str (Str.ofString "WHITE") 420) (Value.ref 167)), (DictEntry.mk (PyData.keyHash P (Str.ofString "OPENING")) (Value.str (Str.ofString "OPENING") 422) (Value.int 40 421)), (DictEntry.mk (PyData.keyHash P (Str.ofString "CLOSING")) (Value.str (Str.ofString "CLOSING") 424) (Value.int 41 423)), (DictEntry.mk (PyData.keyHash P (Str.ofString "WAYS")) (Value.str (Str.ofString "WAYS") 427) (Value.ref 168)), (DictEntry.mk (PyData.keyHash P (Str.ofString "is_word_sign")) (Value.str (Str.ofString "is_word_sign") 434) (Value.ref 175)), (DictEntry.mk (PyData.keyHash P (Str.ofString "part_end")) (Value.str (Str.ofString "part_end") 443) (Value.ref 182)), (DictEntry.mk (PyData.keyHash P (Str.ofString "word_parts")) (Value.str (Str.ofString "word_parts") 449) (Value.ref 187)), (DictEntry.mk (PyData.keyHash P (Str.ofString "is_apart")) (Value.str (Str.ofString "is_apart") 458) (Value.ref 194)), (DictEntry.mk (PyData.keyHash P (Str.ofString "plain_text")) (Value.str (Str.ofString "plain_text") 464) (Value.ref 199)), (DictEntry.mk (PyData.keyHash P (Str.ofString "word_at")) (Value.str (Str.ofString "word_at") 476) (Value.ref 206)), (DictEntry.mk (PyData.keyHash P (Str.ofString "pieces_of")) (Value.str (Str.ofString "pieces_of") 487) (Value.ref 213)), (DictEntry.mk (PyData.keyHash P (Str.ofString "_law_pen")) (Value.str (Str.ofString "_law_pen") 495) (Value.ref 218)), (DictEntry.mk (PyData.keyHash P (Str.ofString "_law_draw")) (Value.str (Str.ofString "_law_draw") 508) (Value.ref 225)), (DictEntry.mk (PyData.keyHash P (Str.ofString "_law_pick")) (Value.str (Str.ofString "_law_pick") 516) (Value.ref 232)), (DictEntry.mk (PyData.keyHash P (Str.ofString "_law_row")) (Value.str (Str.ofString "_law_row") 522) (Value.ref 237)), (DictEntry.mk (PyData.keyHash P (Str.ofString "_law_is_sound")) (Value.str (Str.ofString "_law_is_sound") 528) (Value.ref 242)), (DictEntry.mk (PyData.keyHash P (Str.ofString "law")) (Value.str (Str.ofString "law") 543) (Value.ref 249))] 55) #[])) ::
(nat_lit 15, (Obj.mk (Value.type "tuple") none (Data.seq #[] 0) #[])) ::
(nat_lit 17, (Obj.mk (Value.type "tuple") none (Data.seq #[(Value.str (Str.ofString "k") 190)] 0) #[])) ::
(nat_lit 18, (Obj.mk (Value.type "tuple") none (Data.seq #[] 0) #[])) ::
(nat_lit 20, (Obj.mk (Value.type "code") none (Data.fields #[(Value.str (Str.ofString "_wall") 187), (Value.str (Str.ofString "_wall") 188), (Value.str (Str.ofString "/claim/cut.py") 189), (Value.int 1 0), (Value.int 1 0), (Value.int 0 0), (Value.int 0 0), (Value.int 3 0), (Value.ref 15), (Value.bool Bool.true), (Value.int 181 0), (Value.ref 16), Value.none, (Value.ref 17), (Value.ref 18), (Value.ref 19), (Value.int 191 0), (Value.int 1 0), (Value.str (Str.ofString "/claim/cut.py") 192)]) #[])) ::
(nat_lit 21, (Obj.mk (Value.type "function") none (Data.func (FuncData.mk (Str.ofString "_wall") (Str.ofString "_wall") p0 (.stmts b0) s0 3 [] Value.none Value.none Value.none (Value.str (Str.ofString "__main__") 164) none (Value.ref 20) Value.none 0)) #[])) ::
(nat_lit 22, (Obj.mk (Value.type "tuple") none (Data.seq #[] 0) #[])) ::
(nat_lit 25, (Obj.mk (Value.type "code") none (Data.fields #[(Value.str (Str.ofString "worth_table") 200), (Value.str (Str.ofString "worth_table") 201), (Value.str (Str.ofString "/claim/cut.py") 202), (Value.int 7 0), (Value.int 1 0), (Value.int 0 0), (Value.int 0 0), (Value.int 3 0), (Value.ref 22), (Value.bool Bool.true), (Value.int 181 0), (Value.ref 23), Value.none, Value.none, Value.none, (Value.ref 24), (Value.int 203 0), (Value.int 7 0), (Value.str (Str.ofString "/claim/cut.py") 204)]) #[])) ::
(nat_lit 26, (Obj.mk (Value.type "function") none (Data.func (FuncData.mk (Str.ofString "worth_table") (Str.ofString "worth_table") p4 (.stmts b4) s4 3 [] Value.none Value.none Value.none (Value.str (Str.ofString "postkeep.base64") 194) none (Value.ref 25) Value.none 0)) #[])) ::
(nat_lit 27, (Obj.mk (Value.type "tuple") none (Data.seq #[] 0) #[])) ::
(nat_lit 30, (Obj.mk (Value.type "code") none (Data.fields #[(Value.str (Str.ofString "group_octets") 206), (Value.str (Str.ofString "group_octets") 207), (Value.str (Str.ofString "/claim/cut.py") 208), (Value.int 9 0), (Value.int 1 0), (Value.int 0 0), (Value.int 0 0), (Value.int 3 0), (Value.ref 27), (Value.bool Bool.true), (Value.int 181 0), (Value.ref 28), Value.none, Value.none, Value.none, (Value.ref 29), (Value.int 209 0), (Value.int 9 0), (Value.str (Str.ofString "/claim/cut.py") 210)]) #[])) ::
(nat_lit 31, (Obj.mk (Value.type "function") none (Data.func (FuncData.mk (Str.ofString "group_octets") (Str.ofString "group_octets") p5 (.stmts b5) s5 3 [] Value.none Value.none Value.none (Value.str (Str.ofString "postkeep.base64") 194) none (Value.ref 30) Value.none 0)) #[])) ::
(nat_lit 32, (Obj.mk (Value.type "tuple") none (Data.seq #[] 0) #[])) ::
(nat_lit 34, (Obj.mk (Value.type "tuple") none (Data.seq #[(Value.str (Str.ofString "data") 215), (Value.str (Str.ofString "worths") 216), (Value.str (Str.ofString "worth_row") 217), (Value.str (Str.ofString "code") 218), (Value.str (Str.ofString "found") 219), (Value.str (Str.ofString "begin") 220)] 0) #[])) ::
(nat_lit 35, (Obj.mk (Value.type "tuple") none (Data.seq #[] 0) #[])) ::
(nat_lit 37, (Obj.mk (Value.type "code") none (Data.fields #[(Value.str (Str.ofString "decoded") 212), (Value.str (Str.ofString "decoded") 213), (Value.str (Str.ofString "/claim/cut.py") 214), (Value.int 17 0), (Value.int 1 0), (Value.int 0 0), (Value.int 0 0), (Value.int 3 0), (Value.ref 32), (Value.bool Bool.true), (Value.int 181 0), (Value.ref 33), Value.none, (Value.ref 34), (Value.ref 35), (Value.ref 36), (Value.int 221 0), (Value.int 17 0), (Value.str (Str.ofString "/claim/cut.py") 222)]) #[])) ::
(nat_lit 38, (Obj.mk (Value.type "function") none (Data.func (FuncData.mk (Str.ofString "decoded") (Str.ofString "decoded") p6 (.stmts b6) s6 3 [] Value.none Value.none Value.none (Value.str (Str.ofString "postkeep.base64") 194) none (Value.ref 37) Value.none 0)) #[])) ::
(nat_lit 39, (Obj.mk (Value.type "tuple") none (Data.seq #[(Value.type "Exception")] 0) #[])) ::
(nat_lit 46, (Obj.mk (Value.type "tuple") none (Data.seq #[(Value.int (Neg.neg 1) 239)] 0) #[])) ::
(nat_lit 47, (Obj.mk (Value.type "tuple") none (Data.seq #[] 0) #[])) ::
(nat_lit 49, (Obj.mk (Value.type "tuple") none (Data.seq #[(Value.str (Str.ofString "self") 243), (Value.str (Str.ofString "what") 244), (Value.str (Str.ofString "at") 245)] 0) #[])) ::
(nat_lit 50, (Obj.mk (Value.type "tuple") none (Data.seq #[] 0) #[])) ::
(nat_lit 52, (Obj.mk (Value.type "code") none (Data.fields #[(Value.str (Str.ofString "__init__") 240), (Value.str (Str.ofString "PostError.__init__") 241), (Value.str (Str.ofString "/claim/cut.py") 242), (Value.int 33 0), (Value.int 3 0), (Value.int 0 0), (Value.int 0 0), (Value.int 3 0), (Value.ref 47), (Value.bool Bool.true), (Value.int 181 0), (Value.ref 48), Value.none, (Value.ref 49), (Value.ref 50), (Value.ref 51), (Value.int 246 0), (Value.int 33 0), (Value.str (Str.ofString "/claim/cut.py") 247)]) #[])) ::
(nat_lit 54, (Obj.mk (Value.type "tuple") none (Data.seq #[] 0) #[])) ::
(nat_lit 56, (Obj.mk (Value.type "tuple") none (Data.seq #[(Value.str (Str.ofString "self") 252)] 0) #[])) ::
(nat_lit 57, (Obj.mk (Value.type "tuple") none (Data.seq #[] 0) #[])) ::
(nat_lit 59, (Obj.mk (Value.type "code") none (Data.fields #[(Value.str (Str.ofString "told") 249), (Value.str (Str.ofString "PostError.told") 250), (Value.str (Str.ofString "/claim/cut.py") 251), (Value.int 38 0), (Value.int 1 0), (Value.int 0 0), (Value.int 0 0), (Value.int 3 0), (Value.ref 54), (Value.bool Bool.true), (Value.int 181 0), (Value.ref 55), Value.none, (Value.ref 56), (Value.ref 57), (Value.ref 58), (Value.int 253 0), (Value.int 38 0), (Value.str (Str.ofString "/claim/cut.py") 254)]) #[])) ::
(nat_lit 61, (Obj.mk (Value.type "tuple") none (Data.seq #[(Value.str (Str.ofString "at") 256), (Value.str (Str.ofString "what") 257)] 0) #[])) ::
(nat_lit 62, (Obj.mk (Value.type "dict") none (Data.dict #[(DictEntry.mk (PyData.keyHash P (Str.ofString "__module__")) (Value.str (Str.ofString "__module__") 233) (Value.str (Str.ofString "postkeep.errors") 224)), (DictEntry.mk (PyData.keyHash P (Str.ofString "__firstlineno__")) (Value.str (Str.ofString "__firstlineno__") 237) (Value.int 31 236)), (DictEntry.mk (PyData.keyHash P (Str.ofString "__init__")) (Value.str (Str.ofString "__init__") 248) (Value.ref 53)), (DictEntry.mk (PyData.keyHash P (Str.ofString "told")) (Value.str (Str.ofString "told") 255) (Value.ref 60)), (DictEntry.mk (PyData.keyHash P (Str.ofString "__static_attributes__")) (Value.str (Str.ofString "__static_attributes__") 258) (Value.ref 61)), (DictEntry.mk (PyData.keyHash P (Str.ofString "__weakref__")) (Value.str (Str.ofString "__weakref__") 260) (Value.ref 64)), (DictEntry.mk (PyData.keyHash P (Str.ofString "__doc__")) (Value.str (Str.ofString "__doc__") 261) Value.none)] 3) #[])) ::
(nat_lit 63, (Obj.mk (Value.type "type") none (Data.cls (PySem.ClassData.mk (Str.ofString "PostError") [(Value.type "Exception")] [(Value.ref 63), (Value.type "Exception"), (Value.type "BaseException"), (Value.type "object")] 62 (Str.ofString "PostError") Bool.true [] [(Value.ref 76)] Bool.false none Bool.false)) #[(Option.some (Value.ref 39)), none, (Option.some (Value.str (Str.ofString "PostError") 226)), (Option.some (Value.str (Str.ofString "PostError") 234)), (Option.some (Value.builtin "Exception.__new__")), (Option.some (Value.bool Bool.true))])) ::
(nat_lit 64, (Obj.mk (Value.type "getset_descriptor") none (Data.fields #[(Value.str (Str.ofString "__weakref__") 259), (Value.ref 63), (Value.builtin "ExceptionGroup.__weakref__"), Value.none]) #[])) ::
(nat_lit 67, (Obj.mk (Value.type "tuple") none (Data.seq #[(Value.ref 63)] 0) #[])) ::
(nat_lit 74, (Obj.mk (Value.type "tuple") none (Data.seq #[] 0) #[])) ::
(nat_lit 75, (Obj.mk (Value.type "dict") none (Data.dict #[(DictEntry.mk (PyData.keyHash P (Str.ofString "__module__")) (Value.str (Str.ofString "__module__") 273) (Value.str (Str.ofString "postkeep.errors") 224)), (DictEntry.mk (PyData.keyHash P (Str.ofString "__firstlineno__")) (Value.str (Str.ofString "__firstlineno__") 277) (Value.int 40 276)), (DictEntry.mk (PyData.keyHash P (Str.ofString "__static_attributes__")) (Value.str (Str.ofString "__static_attributes__") 278) (Value.ref 74)), (DictEntry.mk (PyData.keyHash P (Str.ofString "__doc__")) (Value.str (Str.ofString "__doc__") 279) Value.none)] 2) #[])) ::
(nat_lit 76, (Obj.mk (Value.type "type") none (Data.cls (PySem.ClassData.mk (Str.ofString "MimeFault") [(Value.ref 63)] [(Value.ref 76), (Value.ref 63), (Value.type "Exception"), (Value.type "BaseException"), (Value.type "object")] 75 (Str.ofString "MimeFault") Bool.true [] [] Bool.false none Bool.false)) #[(Option.some (Value.ref 67)), none, (Option.some (Value.str (Str.ofString "MimeFault") 266)), (Option.some (Value.str (Str.ofString "MimeFault") 274)), (Option.some (Value.builtin "Exception.__new__")), (Option.some (Value.bool Bool.true))])) ::
(nat_lit 79, (Obj.mk (Value.type "tuple") none (Data.seq #[] 0) #[])) ::
(nat_lit 81, (Obj.mk (Value.type "tuple") none (Data.seq #[(Value.str (Str.ofString "code") 287)] 0) #[])) ::
(nat_lit 82, (Obj.mk (Value.type "tuple") none (Data.seq #[] 0) #[])) ::
(nat_lit 84, (Obj.mk (Value.type "code") none (Data.fields #[(Value.str (Str.ofString "lower_code") 284), (Value.str (Str.ofString "lower_code") 285), (Value.str (Str.ofString "/claim/cut.py") 286), (Value.int 43 0), (Value.int 1 0), (Value.int 0 0), (Value.int 0 0), (Value.int 3 0), (Value.ref 79), (Value.bool Bool.true), (Value.int 181 0), (Value.ref 80), Value.none, (Value.ref 81), (Value.ref 82), (Value.ref 83), (Value.int 288 0), (Value.int 43 0), (Value.str (Str.ofString "/claim/cut.py") 289)]) #[])) ::
(nat_lit 85, (Obj.mk (Value.type "function") none (Data.func (FuncData.mk (Str.ofString "lower_code") (Str.ofString "lower_code") p11 (.stmts b11) s11 3 [] Value.none Value.none Value.none (Value.str (Str.ofString "postkeep.octets") 282) none (Value.ref 84) Value.none 0)) #[])) ::
(nat_lit 86, (Obj.mk (Value.type "tuple") none (Data.seq #[] 0) #[])) ::
(nat_lit 89, (Obj.mk (Value.type "code") none (Data.fields #[(Value.str (Str.ofString "lower_text") 291), (Value.str (Str.ofString "lower_text") 292), (Value.str (Str.ofString "/claim/cut.py") 293), (Value.int 45 0), (Value.int 1 0), (Value.int 0 0), (Value.int 0 0), (Value.int 3 0), (Value.ref 86), (Value.bool Bool.true), (Value.int 181 0), (Value.ref 87), Value.none, Value.none, Value.none, (Value.ref 88), (Value.int 294 0), (Value.int 45 0), (Value.str (Str.ofString "/claim/cut.py") 295)]) #[])) ::
(nat_lit 90, (Obj.mk (Value.type "function") none (Data.func (FuncData.mk (Str.ofString "lower_text") (Str.ofString "lower_text") p12 (.stmts b12) s12 3 [] Value.none Value.none Value.none (Value.str (Str.ofString "postkeep.octets") 282) none (Value.ref 89) Value.none 0)) #[])) ::
(nat_lit 91, (Obj.mk (Value.type "tuple") none (Data.seq #[(Value.str (Str.ofString "us-ascii") 299), (Value.str (Str.ofString "iso-8859-1") 301), (Value.str (Str.ofString "utf-8") 303)] 0) #[])) ::
(nat_lit 92, (Obj.mk (Value.type "tuple") none (Data.seq #[] 0) #[])) ::
(nat_lit 94, (Obj.mk (Value.type "tuple") none (Data.seq #[(Value.str (Str.ofString "found") 312), (Value.str (Str.ofString "alias") 313)] 0) #[])) ::
(nat_lit 95, (Obj.mk (Value.type "tuple") none (Data.seq #[] 0) #[])) ::
(nat_lit 97, (Obj.mk (Value.type "code") none (Data.fields #[(Value.str (Str.ofString "charset_names") 309), (Value.str (Str.ofString "charset_names") 310), (Value.str (Str.ofString "/claim/cut.py") 311), (Value.int 53 0), (Value.int 0 0), (Value.int 0 0), (Value.int 0 0), (Value.int 3 0), (Value.ref 92), (Value.bool Bool.true), (Value.int 181 0), (Value.ref 93), Value.none, (Value.ref 94), (Value.ref 95), (Value.ref 96), (Value.int 314 0), (Value.int 53 0), (Value.str (Str.ofString "/claim/cut.py") 315)]) #[])) ::
(nat_lit 98, (Obj.mk (Value.type "function") none (Data.func (FuncData.mk (Str.ofString "charset_names") (Str.ofString "charset_names") p19 (.stmts b19) s19 3 [] Value.none Value.none Value.none (Value.str (Str.ofString "postkeep.charsets") 297) none (Value.ref 97) Value.none 0)) #[])) ::
(nat_lit 99, (Obj.mk (Value.type "tuple") none (Data.seq #[] 0) #[])) ::
(nat_lit 101, (Obj.mk (Value.type "tuple") none (Data.seq #[(Value.str (Str.ofString "text") 320)] 0) #[])) ::
(nat_lit 102, (Obj.mk (Value.type "tuple") none (Data.seq #[] 0) #[])) ::
(nat_lit 104, (Obj.mk (Value.type "code") none (Data.fields #[(Value.str (Str.ofString "charset_name") 317), (Value.str (Str.ofString "charset_name") 318), (Value.str (Str.ofString "/claim/cut.py") 319), (Value.int 62 0), (Value.int 1 0), (Value.int 0 0), (Value.int 0 0), (Value.int 3 0), (Value.ref 99), (Value.bool Bool.true), (Value.int 181 0), (Value.ref 100), Value.none, (Value.ref 101), (Value.ref 102), (Value.ref 103), (Value.int 321 0), (Value.int 62 0), (Value.str (Str.ofString "/claim/cut.py") 322)]) #[])) ::
(nat_lit 105, (Obj.mk (Value.type "function") none (Data.func (FuncData.mk (Str.ofString "charset_name") (Str.ofString "charset_name") p20 (.stmts b20) s20 3 [] Value.none Value.none Value.none (Value.str (Str.ofString "postkeep.charsets") 297) none (Value.ref 104) Value.none 0)) #[])) ::
(nat_lit 106, (Obj.mk (Value.type "tuple") none (Data.seq #[] 0) #[])) ::
(nat_lit 108, (Obj.mk (Value.type "tuple") none (Data.seq #[(Value.str (Str.ofString "charset") 327)] 0) #[])) ::
(nat_lit 109, (Obj.mk (Value.type "tuple") none (Data.seq #[] 0) #[])) ::
(nat_lit 111, (Obj.mk (Value.type "code") none (Data.fields #[(Value.str (Str.ofString "need_charset") 324), (Value.str (Str.ofString "need_charset") 325), (Value.str (Str.ofString "/claim/cut.py") 326), (Value.int 64 0), (Value.int 1 0), (Value.int 0 0), (Value.int 0 0), (Value.int 3 0), (Value.ref 106), (Value.bool Bool.true), (Value.int 181 0), (Value.ref 107), Value.none, (Value.ref 108), (Value.ref 109), (Value.ref 110), (Value.int 328 0), (Value.int 64 0), (Value.str (Str.ofString "/claim/cut.py") 329)]) #[])) ::
(nat_lit 112, (Obj.mk (Value.type "function") none (Data.func (FuncData.mk (Str.ofString "need_charset") (Str.ofString "need_charset") p21 (.stmts b21) s21 3 [] Value.none Value.none Value.none (Value.str (Str.ofString "postkeep.charsets") 297) none (Value.ref 111) Value.none 0)) #[])) ::
(nat_lit 113, (Obj.mk (Value.type "tuple") none (Data.seq #[] 0) #[])) ::
(nat_lit 115, (Obj.mk (Value.type "tuple") none (Data.seq #[(Value.str (Str.ofString "lead") 334)] 0) #[])) ::
(nat_lit 116, (Obj.mk (Value.type "tuple") none (Data.seq #[] 0) #[])) ::
(nat_lit 118, (Obj.mk (Value.type "code") none (Data.fields #[(Value.str (Str.ofString "follower_span") 331), (Value.str (Str.ofString "follower_span") 332), (Value.str (Str.ofString "/claim/cut.py") 333), (Value.int 67 0), (Value.int 1 0), (Value.int 0 0), (Value.int 0 0), (Value.int 3 0), (Value.ref 113), (Value.bool Bool.true), (Value.int 181 0), (Value.ref 114), Value.none, (Value.ref 115), (Value.ref 116), (Value.ref 117), (Value.int 335 0), (Value.int 67 0), (Value.str (Str.ofString "/claim/cut.py") 336)]) #[])) ::
(nat_lit 119, (Obj.mk (Value.type "function") none (Data.func (FuncData.mk (Str.ofString "follower_span") (Str.ofString "follower_span") p22 (.stmts b22) s22 3 [] Value.none Value.none Value.none (Value.str (Str.ofString "postkeep.charsets") 297) none (Value.ref 118) Value.none 0)) #[])) ::
(nat_lit 120, (Obj.mk (Value.type "tuple") none (Data.seq #[] 0) #[])) ::
(nat_lit 122, (Obj.mk (Value.type "tuple") none (Data.seq #[(Value.str (Str.ofString "octets") 341), (Value.str (Str.ofString "at") 342), (Value.str (Str.ofString "lead") 343), (Value.str (Str.ofString "least") 344), (Value.str (Str.ofString "most") 345), (Value.str (Str.ofString "count") 346), (Value.str (Str.ofString "code") 347), (Value.str (Str.ofString "place") 348)] 0) #[])) ::
(nat_lit 123, (Obj.mk (Value.type "tuple") none (Data.seq #[] 0) #[])) ::
(nat_lit 125, (Obj.mk (Value.type "code") none (Data.fields #[(Value.str (Str.ofString "utf8_sign") 338), (Value.str (Str.ofString "utf8_sign") 339), (Value.str (Str.ofString "/claim/cut.py") 340), (Value.int 75 0), (Value.int 2 0), (Value.int 0 0), (Value.int 0 0), (Value.int 3 0), (Value.ref 120), (Value.bool Bool.true), (Value.int 181 0), (Value.ref 121), Value.none, (Value.ref 122), (Value.ref 123), (Value.ref 124), (Value.int 349 0), (Value.int 75 0), (Value.str (Str.ofString "/claim/cut.py") 350)]) #[])) ::
(nat_lit 126, (Obj.mk (Value.type "function") none (Data.func (FuncData.mk (Str.ofString "utf8_sign") (Str.ofString "utf8_sign") p23 (.stmts b23) s23 3 [] Value.none Value.none Value.none (Value.str (Str.ofString "postkeep.charsets") 297) none (Value.ref 125) Value.none 0)) #[])) ::
(nat_lit 127, (Obj.mk (Value.type "tuple") none (Data.seq #[] 0) #[])) ::
(nat_lit 129, (Obj.mk (Value.type "tuple") none (Data.seq #[(Value.str (Str.ofString "charset") 355), (Value.str (Str.ofString "octets") 356), (Value.str (Str.ofString "at") 357)] 0) #[])) ::
(nat_lit 130, (Obj.mk (Value.type "tuple") none (Data.seq #[] 0) #[])) ::
(nat_lit 132, (Obj.mk (Value.type "code") none (Data.fields #[(Value.str (Str.ofString "sign_at") 352), (Value.str (Str.ofString "sign_at") 353), (Value.str (Str.ofString "/claim/cut.py") 354), (Value.int 89 0), (Value.int 3 0), (Value.int 0 0), (Value.int 0 0), (Value.int 3 0), (Value.ref 127), (Value.bool Bool.true), (Value.int 181 0), (Value.ref 128), Value.none, (Value.ref 129), (Value.ref 130), (Value.ref 131), (Value.int 358 0), (Value.int 89 0), (Value.str (Str.ofString "/claim/cut.py") 359)]) #[])) ::
(nat_lit 133, (Obj.mk (Value.type "function") none (Data.func (FuncData.mk (Str.ofString "sign_at") (Str.ofString "sign_at") p24 (.stmts b24) s24 3 [] Value.none Value.none Value.none (Value.str (Str.ofString "postkeep.charsets") 297) none (Value.ref 132) Value.none 0)) #[])) ::
(nat_lit 134, (Obj.mk (Value.type "tuple") none (Data.seq #[] 0) #[])) ::
(nat_lit 136, (Obj.mk (Value.type "tuple") none (Data.seq #[(Value.str (Str.ofString "charset") 364), (Value.str (Str.ofString "octets") 365), (Value.str (Str.ofString "signs") 366), (Value.str (Str.ofString "at") 367), (Value.str (Str.ofString "code") 368), (Value.str (Str.ofString "length") 369)] 0) #[])) ::
(nat_lit 137, (Obj.mk (Value.type "tuple") none (Data.seq #[] 0) #[])) ::
(nat_lit 139, (Obj.mk (Value.type "code") none (Data.fields #[(Value.str (Str.ofString "text_in") 361), (Value.str (Str.ofString "text_in") 362), (Value.str (Str.ofString "/claim/cut.py") 363), (Value.int 95 0), (Value.int 2 0), (Value.int 0 0), (Value.int 0 0), (Value.int 3 0), (Value.ref 134), (Value.bool Bool.true), (Value.int 181 0), (Value.ref 135), Value.none, (Value.ref 136), (Value.ref 137), (Value.ref 138), (Value.int 370 0), (Value.int 95 0), (Value.str (Str.ofString "/claim/cut.py") 371)]) #[])) ::
(nat_lit 140, (Obj.mk (Value.type "function") none (Data.func (FuncData.mk (Str.ofString "text_in") (Str.ofString "text_in") p25 (.stmts b25) s25 3 [] Value.none Value.none Value.none (Value.str (Str.ofString "postkeep.charsets") 297) none (Value.ref 139) Value.none 0)) #[])) ::
(nat_lit 141, (Obj.mk (Value.type "tuple") none (Data.seq #[] 0) #[])) ::
(nat_lit 143, (Obj.mk (Value.type "tuple") none (Data.seq #[(Value.str (Str.ofString "code") 384)] 0) #[])) ::
(nat_lit 144, (Obj.mk (Value.type "tuple") none (Data.seq #[] 0) #[])) ::
(nat_lit 146, (Obj.mk (Value.type "code") none (Data.fields #[(Value.str (Str.ofString "hex_worth") 381), (Value.str (Str.ofString "hex_worth") 382), (Value.str (Str.ofString "/claim/cut.py") 383), (Value.int 108 0), (Value.int 1 0), (Value.int 0 0), (Value.int 0 0), (Value.int 3 0), (Value.ref 141), (Value.bool Bool.true), (Value.int 181 0), (Value.ref 142), Value.none, (Value.ref 143), (Value.ref 144), (Value.ref 145), (Value.int 385 0), (Value.int 108 0), (Value.str (Str.ofString "/claim/cut.py") 386)]) #[])) ::
(nat_lit 147, (Obj.mk (Value.type "function") none (Data.func (FuncData.mk (Str.ofString "hex_worth") (Str.ofString "hex_worth") p30 (.stmts b30) s30 3 [] Value.none Value.none Value.none (Value.str (Str.ofString "postkeep.quoted") 373) none (Value.ref 146) Value.none 0)) #[])) ::
(nat_lit 148, (Obj.mk (Value.type "tuple") none (Data.seq #[] 0) #[])) ::
(nat_lit 150, (Obj.mk (Value.type "tuple") none (Data.seq #[(Value.str (Str.ofString "data") 391), (Value.str (Str.ofString "at") 392), (Value.str (Str.ofString "high") 393), (Value.str (Str.ofString "low") 394)] 0) #[])) ::
(nat_lit 151, (Obj.mk (Value.type "tuple") none (Data.seq #[] 0) #[])) ::
(nat_lit 153, (Obj.mk (Value.type "code") none (Data.fields #[(Value.str (Str.ofString "quoted_at") 388), (Value.str (Str.ofString "quoted_at") 389), (Value.str (Str.ofString "/claim/cut.py") 390), (Value.int 116 0), (Value.int 2 0), (Value.int 0 0), (Value.int 0 0), (Value.int 3 0), (Value.ref 148), (Value.bool Bool.true), (Value.int 181 0), (Value.ref 149), Value.none, (Value.ref 150), (Value.ref 151), (Value.ref 152), (Value.int 395 0), (Value.int 116 0), (Value.str (Str.ofString "/claim/cut.py") 396)]) #[])) ::
(nat_lit 154, (Obj.mk (Value.type "function") none (Data.func (FuncData.mk (Str.ofString "quoted_at") (Str.ofString "quoted_at") p31 (.stmts b31) s31 3 [] Value.none Value.none Value.none (Value.str (Str.ofString "postkeep.quoted") 373) none (Value.ref 153) Value.none 0)) #[])) ::
(nat_lit 155, (Obj.mk (Value.type "tuple") none (Data.seq #[] 0) #[])) ::
(nat_lit 157, (Obj.mk (Value.type "tuple") none (Data.seq #[(Value.str (Str.ofString "line") 401), (Value.str (Str.ofString "codes") 402), (Value.str (Str.ofString "at") 403), (Value.str (Str.ofString "code") 404)] 0) #[])) ::
(nat_lit 158, (Obj.mk (Value.type "tuple") none (Data.seq #[] 0) #[])) ::
(nat_lit 160, (Obj.mk (Value.type "code") none (Data.fields #[(Value.str (Str.ofString "unquoted") 398), (Value.str (Str.ofString "unquoted") 399), (Value.str (Str.ofString "/claim/cut.py") 400), (Value.int 122 0), (Value.int 1 0), (Value.int 0 0), (Value.int 0 0), (Value.int 3 0), (Value.ref 155), (Value.bool Bool.true), (Value.int 181 0), (Value.ref 156), Value.none, (Value.ref 157), (Value.ref 158), (Value.ref 159), (Value.int 405 0), (Value.int 122 0), (Value.str (Str.ofString "/claim/cut.py") 406)]) #[])) ::
(nat_lit 161, (Obj.mk (Value.type "function") none (Data.func (FuncData.mk (Str.ofString "unquoted") (Str.ofString "unquoted") p32 (.stmts b32) s32 3 [] Value.none Value.none Value.none (Value.str (Str.ofString "postkeep.quoted") 373) none (Value.ref 160) Value.none 0)) #[])) ::
(nat_lit 162, (Obj.mk (Value.type "tuple") none (Data.seq #[] 0) #[])) ::
(nat_lit 165, (Obj.mk (Value.type "code") none (Data.fields #[(Value.str (Str.ofString "word_q_decoded") 408), (Value.str (Str.ofString "word_q_decoded") 409), (Value.str (Str.ofString "/claim/cut.py") 410), (Value.int 134 0), (Value.int 1 0), (Value.int 0 0), (Value.int 0 0), (Value.int 3 0), (Value.ref 162), (Value.bool Bool.true), (Value.int 181 0), (Value.ref 163), Value.none, Value.none, Value.none, (Value.ref 164), (Value.int 411 0), (Value.int 134 0), (Value.str (Str.ofString "/claim/cut.py") 412)]) #[])) ::
(nat_lit 166, (Obj.mk (Value.type "function") none (Data.func (FuncData.mk (Str.ofString "word_q_decoded") (Str.ofString "word_q_decoded") p33 (.stmts b33) s33 3 [] Value.none Value.none Value.none (Value.str (Str.ofString "postkeep.quoted") 373) none (Value.ref 165) Value.none 0)) #[])) ::
(nat_lit 167, (Obj.mk (Value.type "tuple") none (Data.seq #[(Value.int 9 416), (Value.int 10 417), (Value.int 13 418), (Value.int 32 419)] 0) #[])) ::
(nat_lit 168, (Obj.mk (Value.type "tuple") none (Data.seq #[(Value.str (Str.ofString "Q") 425), (Value.str (Str.ofString "B") 426)] 0) #[])) ::
(nat_lit 169, (Obj.mk (Value.type "tuple") none (Data.seq #[] 0) #[])) ::
(nat_lit 171, (Obj.mk (Value.type "tuple") none (Data.seq #[(Value.str (Str.ofString "code") 431)] 0) #[])) ::
(nat_lit 172, (Obj.mk (Value.type "tuple") none (Data.seq #[] 0) #[])) ::
(nat_lit 174, (Obj.mk (Value.type "code") none (Data.fields #[(Value.str (Str.ofString "is_word_sign") 428), (Value.str (Str.ofString "is_word_sign") 429), (Value.str (Str.ofString "/claim/cut.py") 430), (Value.int 141 0), (Value.int 1 0), (Value.int 0 0), (Value.int 0 0), (Value.int 3 0), (Value.ref 169), (Value.bool Bool.true), (Value.int 181 0), (Value.ref 170), Value.none, (Value.ref 171), (Value.ref 172), (Value.ref 173), (Value.int 432 0), (Value.int 141 0), (Value.str (Str.ofString "/claim/cut.py") 433)]) #[])) ::
(nat_lit 175, (Obj.mk (Value.type "function") none (Data.func (FuncData.mk (Str.ofString "is_word_sign") (Str.ofString "is_word_sign") p39 (.stmts b39) s39 3 [] Value.none Value.none Value.none (Value.str (Str.ofString "postkeep.words") 414) none (Value.ref 174) Value.none 0)) #[])) ::
(nat_lit 176, (Obj.mk (Value.type "tuple") none (Data.seq #[] 0) #[])) ::
(nat_lit 178, (Obj.mk (Value.type "tuple") none (Data.seq #[(Value.str (Str.ofString "octets") 438), (Value.str (Str.ofString "at") 439), (Value.str (Str.ofString "here") 440)] 0) #[])) ::
(nat_lit 179, (Obj.mk (Value.type "tuple") none (Data.seq #[] 0) #[])) ::
(nat_lit 181, (Obj.mk (Value.type "code") none (Data.fields #[(Value.str (Str.ofString "part_end") 435), (Value.str (Str.ofString "part_end") 436), (Value.str (Str.ofString "/claim/cut.py") 437), (Value.int 143 0), (Value.int 2 0), (Value.int 0 0), (Value.int 0 0), (Value.int 3 0), (Value.ref 176), (Value.bool Bool.true), (Value.int 181 0), (Value.ref 177), Value.none, (Value.ref 178), (Value.ref 179), (Value.ref 180), (Value.int 441 0), (Value.int 143 0), (Value.str (Str.ofString "/claim/cut.py") 442)]) #[])) ::
(nat_lit 182, (Obj.mk (Value.type "function") none (Data.func (FuncData.mk (Str.ofString "part_end") (Str.ofString "part_end") p40 (.stmts b40) s40 3 [] Value.none Value.none Value.none (Value.str (Str.ofString "postkeep.words") 414) none (Value.ref 181) Value.none 0)) #[])) ::
(nat_lit 183, (Obj.mk (Value.type "tuple") none (Data.seq #[] 0) #[])) ::
(nat_lit 186, (Obj.mk (Value.type "code") none (Data.fields #[(Value.str (Str.ofString "word_parts") 444), (Value.str (Str.ofString "word_parts") 445), (Value.str (Str.ofString "/claim/cut.py") 446), (Value.int 148 0), (Value.int 2 0), (Value.int 0 0), (Value.int 0 0), (Value.int 3 0), (Value.ref 183), (Value.bool Bool.true), (Value.int 181 0), (Value.ref 184), Value.none, Value.none, Value.none, (Value.ref 185), (Value.int 447 0), (Value.int 148 0), (Value.str (Str.ofString "/claim/cut.py") 448)]) #[])) ::
(nat_lit 187, (Obj.mk (Value.type "function") none (Data.func (FuncData.mk (Str.ofString "word_parts") (Str.ofString "word_parts") p41 (.stmts b41) s41 3 [] Value.none Value.none Value.none (Value.str (Str.ofString "postkeep.words") 414) none (Value.ref 186) Value.none 0)) #[])) ::
(nat_lit 188, (Obj.mk (Value.type "tuple") none (Data.seq #[] 0) #[])) ::
(nat_lit 190, (Obj.mk (Value.type "tuple") none (Data.seq #[(Value.str (Str.ofString "octets") 453), (Value.str (Str.ofString "begin") 454), (Value.str (Str.ofString "end") 455)] 0) #[])) ::
(nat_lit 191, (Obj.mk (Value.type "tuple") none (Data.seq #[] 0) #[])) ::
(nat_lit 193, (Obj.mk (Value.type "code") none (Data.fields #[(Value.str (Str.ofString "is_apart") 450), (Value.str (Str.ofString "is_apart") 451), (Value.str (Str.ofString "/claim/cut.py") 452), (Value.int 161 0), (Value.int 3 0), (Value.int 0 0), (Value.int 0 0), (Value.int 3 0), (Value.ref 188), (Value.bool Bool.true), (Value.int 181 0), (Value.ref 189), Value.none, (Value.ref 190), (Value.ref 191), (Value.ref 192), (Value.int 456 0), (Value.int 161 0), (Value.str (Str.ofString "/claim/cut.py") 457)]) #[])) ::
(nat_lit 194, (Obj.mk (Value.type "function") none (Data.func (FuncData.mk (Str.ofString "is_apart") (Str.ofString "is_apart") p42 (.stmts b42) s42 3 [] Value.none Value.none Value.none (Value.str (Str.ofString "postkeep.words") 414) none (Value.ref 193) Value.none 0)) #[])) ::
(nat_lit 195, (Obj.mk (Value.type "tuple") none (Data.seq #[] 0) #[])) ::
(nat_lit 198, (Obj.mk (Value.type "code") none (Data.fields #[(Value.str (Str.ofString "plain_text") 459), (Value.str (Str.ofString "plain_text") 460), (Value.str (Str.ofString "/claim/cut.py") 461), (Value.int 165 0), (Value.int 1 0), (Value.int 0 0), (Value.int 0 0), (Value.int 3 0), (Value.ref 195), (Value.bool Bool.true), (Value.int 181 0), (Value.ref 196), Value.none, Value.none, Value.none, (Value.ref 197), (Value.int 462 0), (Value.int 165 0), (Value.str (Str.ofString "/claim/cut.py") 463)]) #[])) ::
(nat_lit 199, (Obj.mk (Value.type "function") none (Data.func (FuncData.mk (Str.ofString "plain_text") (Str.ofString "plain_text") p43 (.stmts b43) s43 3 [] Value.none Value.none Value.none (Value.str (Str.ofString "postkeep.words") 414) none (Value.ref 198) Value.none 0)) #[])) ::
(nat_lit 200, (Obj.mk (Value.type "tuple") none (Data.seq #[] 0) #[])) ::
(nat_lit 202, (Obj.mk (Value.type "tuple") none (Data.seq #[(Value.str (Str.ofString "octets") 468), (Value.str (Str.ofString "at") 469), (Value.str (Str.ofString "found") 470), (Value.str (Str.ofString "charset") 471), (Value.str (Str.ofString "way") 472), (Value.str (Str.ofString "row") 473)] 0) #[])) ::
(nat_lit 203, (Obj.mk (Value.type "tuple") none (Data.seq #[] 0) #[])) ::
(nat_lit 205, (Obj.mk (Value.type "code") none (Data.fields #[(Value.str (Str.ofString "word_at") 465), (Value.str (Str.ofString "word_at") 466), (Value.str (Str.ofString "/claim/cut.py") 467), (Value.int 167 0), (Value.int 2 0), (Value.int 0 0), (Value.int 0 0), (Value.int 3 0), (Value.ref 200), (Value.bool Bool.true), (Value.int 181 0), (Value.ref 201), Value.none, (Value.ref 202), (Value.ref 203), (Value.ref 204), (Value.int 474 0), (Value.int 167 0), (Value.str (Str.ofString "/claim/cut.py") 475)]) #[])) ::
(nat_lit 206, (Obj.mk (Value.type "function") none (Data.func (FuncData.mk (Str.ofString "word_at") (Str.ofString "word_at") p44 (.stmts b44) s44 3 [] Value.none Value.none Value.none (Value.str (Str.ofString "postkeep.words") 414) none (Value.ref 205) Value.none 0)) #[])) ::
(nat_lit 207, (Obj.mk (Value.type "tuple") none (Data.seq #[] 0) #[])) ::
(nat_lit 209, (Obj.mk (Value.type "tuple") none (Data.seq #[(Value.str (Str.ofString "octets") 480), (Value.str (Str.ofString "pieces") 481), (Value.str (Str.ofString "begun") 482), (Value.str (Str.ofString "at") 483), (Value.str (Str.ofString "found") 484)] 0) #[])) ::
(nat_lit 210, (Obj.mk (Value.type "tuple") none (Data.seq #[] 0) #[])) ::
(nat_lit 212, (Obj.mk (Value.type "code") none (Data.fields #[(Value.str (Str.ofString "pieces_of") 477), (Value.str (Str.ofString "pieces_of") 478), (Value.str (Str.ofString "/claim/cut.py") 479), (Value.int 177 0), (Value.int 1 0), (Value.int 0 0), (Value.int 0 0), (Value.int 3 0), (Value.ref 207), (Value.bool Bool.true), (Value.int 181 0), (Value.ref 208), Value.none, (Value.ref 209), (Value.ref 210), (Value.ref 211), (Value.int 485 0), (Value.int 177 0), (Value.str (Str.ofString "/claim/cut.py") 486)]) #[])) ::
(nat_lit 213, (Obj.mk (Value.type "function") none (Data.func (FuncData.mk (Str.ofString "pieces_of") (Str.ofString "pieces_of") p45 (.stmts b45) s45 3 [] Value.none Value.none Value.none (Value.str (Str.ofString "postkeep.words") 414) none (Value.ref 212) Value.none 0)) #[])) ::
(nat_lit 214, (Obj.mk (Value.type "tuple") none (Data.seq #[] 0) #[])) ::
(nat_lit 217, (Obj.mk (Value.type "code") none (Data.fields #[(Value.str (Str.ofString "_law_pen") 490), (Value.str (Str.ofString "_law_pen") 491), (Value.str (Str.ofString "/claim/cut.py") 492), (Value.int 192 0), (Value.int 1 0), (Value.int 0 0), (Value.int 0 0), (Value.int 3 0), (Value.ref 214), (Value.bool Bool.true), (Value.int 181 0), (Value.ref 215), Value.none, Value.none, Value.none, (Value.ref 216), (Value.int 493 0), (Value.int 192 0), (Value.str (Str.ofString "/claim/cut.py") 494)]) #[])) ::
(nat_lit 218, (Obj.mk (Value.type "function") none (Data.func (FuncData.mk (Str.ofString "_law_pen") (Str.ofString "_law_pen") p47 (.stmts b47) s47 3 [] Value.none Value.none Value.none (Value.str (Str.ofString "law_or0048_01") 488) none (Value.ref 217) Value.none 0)) #[])) ::
(nat_lit 219, (Obj.mk (Value.type "tuple") none (Data.seq #[] 0) #[])) ::
(nat_lit 221, (Obj.mk (Value.type "tuple") none (Data.seq #[(Value.str (Str.ofString "pen") 499), (Value.str (Str.ofString "many") 500), (Value.str (Str.ofString "digit") 501), (Value.str (Str.ofString "spot") 502), (Value.str (Str.ofString "cell") 503), (Value.str (Str.ofString "great") 504), (Value.str (Str.ofString "stirred") 505)] 0) #[])) ::
(nat_lit 222, (Obj.mk (Value.type "tuple") none (Data.seq #[] 0) #[])) ::
(nat_lit 224, (Obj.mk (Value.type "code") none (Data.fields #[(Value.str (Str.ofString "_law_draw") 496), (Value.str (Str.ofString "_law_draw") 497), (Value.str (Str.ofString "/claim/cut.py") 498), (Value.int 194 0), (Value.int 2 0), (Value.int 0 0), (Value.int 0 0), (Value.int 3 0), (Value.ref 219), (Value.bool Bool.true), (Value.int 181 0), (Value.ref 220), Value.none, (Value.ref 221), (Value.ref 222), (Value.ref 223), (Value.int 506 0), (Value.int 194 0), (Value.str (Str.ofString "/claim/cut.py") 507)]) #[])) ::
(nat_lit 225, (Obj.mk (Value.type "function") none (Data.func (FuncData.mk (Str.ofString "_law_draw") (Str.ofString "_law_draw") p48 (.stmts b48) s48 3 [] Value.none Value.none Value.none (Value.str (Str.ofString "law_or0048_01") 488) none (Value.ref 224) Value.none 0)) #[])) ::
(nat_lit 226, (Obj.mk (Value.type "tuple") none (Data.seq #[] 0) #[])) ::
(nat_lit 228, (Obj.mk (Value.type "tuple") none (Data.seq #[(Value.str (Str.ofString "pen") 512), (Value.str (Str.ofString "some") 513)] 0) #[])) ::
(nat_lit 229, (Obj.mk (Value.type "tuple") none (Data.seq #[] 0) #[])) ::
(nat_lit 231, (Obj.mk (Value.type "code") none (Data.fields #[(Value.str (Str.ofString "_law_pick") 509), (Value.str (Str.ofString "_law_pick") 510), (Value.str (Str.ofString "/claim/cut.py") 511), (Value.int 211 0), (Value.int 2 0), (Value.int 0 0), (Value.int 0 0), (Value.int 3 0), (Value.ref 226), (Value.bool Bool.true), (Value.int 181 0), (Value.ref 227), Value.none, (Value.ref 228), (Value.ref 229), (Value.ref 230), (Value.int 514 0), (Value.int 211 0), (Value.str (Str.ofString "/claim/cut.py") 515)]) #[])) ::
(nat_lit 232, (Obj.mk (Value.type "function") none (Data.func (FuncData.mk (Str.ofString "_law_pick") (Str.ofString "_law_pick") p49 (.stmts b49) s49 3 [] Value.none Value.none Value.none (Value.str (Str.ofString "law_or0048_01") 488) none (Value.ref 231) Value.none 0)) #[])) ::
(nat_lit 233, (Obj.mk (Value.type "tuple") none (Data.seq #[] 0) #[])) ::
(nat_lit 236, (Obj.mk (Value.type "code") none (Data.fields #[(Value.str (Str.ofString "_law_row") 517), (Value.str (Str.ofString "_law_row") 518), (Value.str (Str.ofString "/claim/cut.py") 519), (Value.int 213 0), (Value.int 1 0), (Value.int 0 0), (Value.int 0 0), (Value.int 3 0), (Value.ref 233), (Value.bool Bool.true), (Value.int 181 0), (Value.ref 234), Value.none, Value.none, Value.none, (Value.ref 235), (Value.int 520 0), (Value.int 213 0), (Value.str (Str.ofString "/claim/cut.py") 521)]) #[])) ::
(nat_lit 237, (Obj.mk (Value.type "function") none (Data.func (FuncData.mk (Str.ofString "_law_row") (Str.ofString "_law_row") p50 (.stmts b50) s50 3 [] Value.none Value.none Value.none (Value.str (Str.ofString "law_or0048_01") 488) none (Value.ref 236) Value.none 0)) #[])) ::
(nat_lit 238, (Obj.mk (Value.type "tuple") none (Data.seq #[] 0) #[])) ::
(nat_lit 241, (Obj.mk (Value.type "code") none (Data.fields #[(Value.str (Str.ofString "_law_is_sound") 523), (Value.str (Str.ofString "_law_is_sound") 524), (Value.str (Str.ofString "/claim/cut.py") 525), (Value.int 216 0), (Value.int 1 0), (Value.int 0 0), (Value.int 0 0), (Value.int 3 0), (Value.ref 238), (Value.bool Bool.true), (Value.int 181 0), (Value.ref 239), Value.none, Value.none, Value.none, (Value.ref 240), (Value.int 526 0), (Value.int 216 0), (Value.str (Str.ofString "/claim/cut.py") 527)]) #[])) ::
(nat_lit 242, (Obj.mk (Value.type "function") none (Data.func (FuncData.mk (Str.ofString "_law_is_sound") (Str.ofString "_law_is_sound") p51 (.stmts b51) s51 3 [] Value.none Value.none Value.none (Value.str (Str.ofString "law_or0048_01") 488) none (Value.ref 241) Value.none 0)) #[])) ::
(nat_lit 243, (Obj.mk (Value.type "tuple") none (Data.seq #[] 0) #[])) ::
(nat_lit 245, (Obj.mk (Value.type "tuple") none (Data.seq #[(Value.str (Str.ofString "script") 532), (Value.str (Str.ofString "pen") 533), (Value.str (Str.ofString "first") 534), (Value.str (Str.ofString "second") 535), (Value.str (Str.ofString "between") 536), (Value.str (Str.ofString "one") 537), (Value.str (Str.ofString "two") 538), (Value.str (Str.ofString "due") 539), (Value.str (Str.ofString "whole") 540)] 0) #[])) ::
(nat_lit 246, (Obj.mk (Value.type "tuple") none (Data.seq #[] 0) #[])) ::
(nat_lit 248, (Obj.mk (Value.type "code") none (Data.fields #[(Value.str (Str.ofString "law") 529), (Value.str (Str.ofString "law") 530), (Value.str (Str.ofString "/claim/cut.py") 531), (Value.int 220 0), (Value.int 1 0), (Value.int 0 0), (Value.int 0 0), (Value.int 3 0), (Value.ref 243), (Value.bool Bool.true), (Value.int 181 0), (Value.ref 244), Value.none, (Value.ref 245), (Value.ref 246), (Value.ref 247), (Value.int 541 0), (Value.int 220 0), (Value.str (Str.ofString "/claim/cut.py") 542)]) #[])) ::
(nat_lit 249, (Obj.mk (Value.type "function") none (Data.func (FuncData.mk (Str.ofString "law") (Str.ofString "law") p52 (.stmts b52) s52 3 [] Value.none Value.none Value.none (Value.str (Str.ofString "law_or0048_01") 488) none (Value.ref 248) Value.none 0)) #[])) ::
[])) _ (by (conv => lhs; whnf)) _ (by (conv => lhs; whnf)) _ (by (conv => lhs; whnf)) _ (by (conv => lhs; whnf)) _ (by (conv => lhs; whnf)) _ (by (conv => lhs; whnf)) _ (by (conv => lhs; whnf)) _ (by (conv => lhs; whnf)) _ (by (conv => lhs; whnf)) _ (by (conv => lhs; whnf)) _ (by (conv => lhs; whnf)) _ (by (conv => lhs; whnf)) _ (by (conv => lhs; whnf)) _ (by (conv => lhs; whnf)) _ (by (conv => lhs; whnf)) _ (by (conv => lhs; whnf)) _ (by (conv => lhs; whnf)) _ (by (conv => lhs; whnf)) _ (by (conv => lhs; whnf)) _ (by (conv => lhs; whnf)) _ (by (conv => lhs; whnf)) _ (by (conv => lhs; whnf)) _ (by (conv => lhs; whnf)) _ (by (conv => lhs; whnf)) _ (by (conv => lhs; whnf)) _ (by (conv => lhs; whnf)) _ (by (conv => lhs; whnf)) _ (by (conv => lhs; whnf)) _ (by (conv => lhs; whnf)) _ (by (conv => lhs; whnf)) _ (by (conv => lhs; whnf)) _ (by (conv => lhs; whnf)) _ (by (conv => lhs; whnf)) _ (by (conv => lhs; whnf)) _ (by (conv => lhs; whnf)) _ (by (conv => lhs; whnf)) _ (by (conv => lhs; whnf)) _ (by (conv => lhs; whnf)) _ (by (conv => lhs; whnf)) _ (by (conv => lhs; whnf)) _ (by (conv => lhs; whnf)) _ (by (conv => lhs; whnf)) _ (by (conv => lhs; whnf)) _ (by (conv => lhs; whnf)) _ (by (conv => lhs; whnf)) _ (by (conv => lhs; whnf)) _ (by (conv => lhs; whnf)) _ (by (conv => lhs; whnf)) _ (by (conv => lhs; whnf)) _ (by (conv => lhs; whnf)) _ (by (conv => lhs; whnf)) _ (by (conv => lhs; whnf)) _ (by (conv => lhs; whnf)) _ (by (conv => lhs; whnf)) _ (by (conv => lhs; whnf)) _ (by (conv => lhs; whnf)) _ (by (conv => lhs; whnf)) _ (by (conv => lhs; whnf)) _ (by (conv => lhs; whnf)) _ (by (conv => lhs; whnf)) _ (by (conv => lhs; whnf)) _ (by (conv => lhs; whnf)) _ (by (conv => lhs; whnf)) _ (by (conv => lhs; whnf)) _ (by (conv => lhs; whnf)) _ (by (conv => lhs; whnf)) _ (by (conv => lhs; whnf)) _ (by (conv => lhs; whnf)) _ (by (conv => lhs; whnf)) _ (by (conv => lhs; whnf)) _ (by (conv => lhs; whnf)) _ (by (conv => lhs; whnf)) _ (by (conv => lhs; whnf)) _ (by (conv => lhs; whnf)) _ (by (conv => lhs; whnf)) _ (by (conv => lhs; whnf)) _ (by (conv => lhs; whnf)) _ (by (conv => lhs; whnf)) _ (by (conv => lhs; whnf)) _ (by (conv => lhs; whnf)) _ (by (conv => lhs; whnf)) _ (by (conv => lhs; whnf)) _ (by (conv => lhs; whnf)) _ (by (conv => lhs; whnf)) _ (by (conv => lhs; whnf)) _ (by (conv => lhs; whnf)) _ (by (conv => lhs; whnf)) _ (by (conv => lhs; whnf)) _ (by (conv => lhs; whnf)) _ (by (conv => lhs; whnf))
noncomputable def hd.as : List Addr := [2, 3, 15, 17, 18, 20, 21, 22, 25, 26, 27, 30, 31, 32, 34, 35, 37, 38, 39, 46, 47, 49, 50, 52, 54, 56, 57, 59, 61, 62, 63, 64, 67, 74, 75, 76, 79, 81, 82, 84, 85, 86, 89, 90, 91, 92, 94, 95, 97, 98, 99, 101, 102, 104, 105, 106, 108, 109, 111, 112, 113, 115, 116, 118, 119, 120, 122, 123, 125, 126, 127, 129, 130, 132, 133, 134, 136, 137, 139, 140, 141, 143, 144, 146, 147, 148, 150, 151, 153, 154, 155, 157, 158, 160, 161, 162, 165, 166, 167, 168, 169, 171, 172, 174, 175, 176, 178, 179, 181, 182, 183, 186, 187, 188, 190, 191, 193, 194, 195, 198, 199, 200, 202, 203, 205, 206, 207, 209, 210, 212, 213, 214, 217, 218, 219, 221, 222, 224, 225, 226, 228, 229, 231, 232, 233, 236, 237, 238, 241, 242, 243, 245, 246, 248, 249]
noncomputable def hd.lv : List (Str × WData) := [(Str.ofString "CHARSETS", .tuple [.str ⟨#[117, 115, 45, 97, 115, 99, 105, 105]⟩, .str ⟨#[105, 115, 111, 45, 56, 56, 53, 57, 45, 49]⟩, .str ⟨#[117, 116, 102, 45, 56]⟩]), (Str.ofString "UNKNOWN_SIGN", .str ⟨#[65533]⟩)]
noncomputable def hd.loose : List Str := [Str.ofString "PostError", Str.ofString "CHARSETS", Str.ofString "UNKNOWN_SIGN"]
theorem hd.as_eq : ∀ P, hd.as = (hd.heap_39 P).map (·.1) := fun _ => by kernel_rfl
noncomputable def mAt (j : Nat) : Stmt := match stAt 8 with
  | .ClassDef _ _ _ b _ _ _ _ _ _ _ => (b[j]?).getD (.Pass ⟨0, 0, 0, 0⟩)
  | _ => .Pass ⟨0, 0, 0, 0⟩
noncomputable def mP (j : Nat) : Arguments := match mAt j with
  | .FunctionDef _ a _ _ _ _ _ _ _ _ => a
  | _ => ⟨[], [], none, [], [], none, []⟩
noncomputable def mB (j : Nat) : List Stmt := match mAt j with
  | .FunctionDef _ _ b _ _ _ _ _ _ _ => b
  | _ => []
noncomputable def mS (j : Nat) : Scope := match mAt j with
  | .FunctionDef _ _ _ _ _ _ s _ _ _ => s
  | _ => ⟨.function, [], false, false, []⟩
noncomputable def hd.o_43 : Params → Obj := fun P => (Obj.mk (Value.type "tuple") none (Data.seq #[] 0) #[])
noncomputable def hd.o_44 : Params → Obj := fun P => (Obj.mk Value.none none (Data.fields #[]) #[])
noncomputable def hd.o_45 : Params → Obj := fun P => (Obj.mk (Value.type "code") none (Data.fields #[(Value.str (Str.ofString "<module>") 182), (Value.str (Str.ofString "<module>") 183), (Value.str (Str.ofString "/claim/cut.py") 184), (Value.int 1 0), (Value.int 0 0), (Value.int 0 0), (Value.int 0 0), (Value.int 0 0), (Value.ref 11), (Value.bool Bool.false), (Value.int 181 0), (Value.ref 12), Value.none, Value.none, Value.none, Value.none, (Value.int 185 0), (Value.int 1 0), (Value.str (Str.ofString "/claim/cut.py") 186)]) #[])
noncomputable def hd.o_46 : Params → Obj := fun P => (Obj.mk (Value.type "frame") none Data.plain #[(some (Value.ref 13)), (some (Value.ref 3)), (some (Value.ref 3)), none, (some (Value.str (Str.ofString "__main__") 164)), none, (some (Value.ref 0))])
noncomputable def hd.o_49 : Params → Obj := fun P => (Obj.mk (Value.type "dict") none (Data.dict #[(DictEntry.mk (PyData.keyHash P (Str.ofString "__name__")) (Value.str (Str.ofString "__name__") 165) (Value.str (Str.ofString "postkeep.errors") 224)), (DictEntry.mk (PyData.keyHash P (Str.ofString "__doc__")) (Value.str (Str.ofString "__doc__") 166) Value.none), (DictEntry.mk (PyData.keyHash P (Str.ofString "__package__")) (Value.str (Str.ofString "__package__") 167) Value.none), (DictEntry.mk (PyData.keyHash P (Str.ofString "__loader__")) (Value.str (Str.ofString "__loader__") 168) (Value.builtin "__main__.__loader__#opaque")), (DictEntry.mk (PyData.keyHash P (Str.ofString "__spec__")) (Value.str (Str.ofString "__spec__") 169) Value.none), (DictEntry.mk (PyData.keyHash P (Str.ofString "__annotations__")) (Value.str (Str.ofString "__annotations__") 170) (Value.ref 6)), (DictEntry.mk (PyData.keyHash P (Str.ofString "__builtins__")) (Value.str (Str.ofString "__builtins__") 171) (Value.ref 4)), (DictEntry.mk (PyData.keyHash P (Str.ofString "__file__")) (Value.str (Str.ofString "__file__") 173) (Value.str (Str.ofString "/claim/cut.py") 172)), (DictEntry.mk (PyData.keyHash P (Str.ofString "__cached__")) (Value.str (Str.ofString "__cached__") 174) Value.none), (DictEntry.mk (PyData.keyHash P (Str.ofString "_wall")) (Value.str (Str.ofString "_wall") 193) (Value.ref 21)), (DictEntry.mk (PyData.keyHash P (Str.ofString "SIGNS")) (Value.str (Str.ofString "SIGNS") 197) (Value.bytes #[65, 66, 67, 68, 69, 70, 71, 72, 73, 74, 75, 76, 77, 78, 79, 80, 81, 82, 83, 84, 85, 86, 87, 88, 89, 90, 97, 98, 99, 100, 101, 102, 103, 104, 105, 106, 107, 108, 109, 110, 111, 112, 113, 114, 115, 116, 117, 118, 119, 120, 121, 122, 48, 49, 50, 51, 52, 53, 54, 55, 56, 57, 43, 47] 196)), (DictEntry.mk (PyData.keyHash P (Str.ofString "PAD")) (Value.str (Str.ofString "PAD") 199) (Value.int 61 198)), (DictEntry.mk (PyData.keyHash P (Str.ofString "worth_table")) (Value.str (Str.ofString "worth_table") 205) (Value.ref 26)), (DictEntry.mk (PyData.keyHash P (Str.ofString "group_octets")) (Value.str (Str.ofString "group_octets") 211) (Value.ref 31)), (DictEntry.mk (PyData.keyHash P (Str.ofString "decoded")) (Value.str (Str.ofString "decoded") 223) (Value.ref 38))] 15) #[])
noncomputable def hd.o_50 : Params → Obj := fun P => (Obj.mk Value.none none (Data.fields #[(Value.int 1 0), (Value.int 0 0), (Value.ref 20), (Value.int 7 0), (Value.int 0 0), (Value.ref 25), (Value.int 9 0), (Value.int 0 0), (Value.ref 30), (Value.int 17 0), (Value.int 0 0), (Value.ref 37)]) #[])
noncomputable def hd.o_51 : Params → Obj := fun P => (Obj.mk (Value.type "tuple") none (Data.seq #[] 0) #[])
noncomputable def hd.o_52 : Params → Obj := fun P => (Obj.mk Value.none none (Data.fields #[]) #[])
noncomputable def hd.o_53 : Params → Obj := fun P => (Obj.mk (Value.type "tuple") none (Data.seq #[(Value.str (Str.ofString "k") 190)] 0) #[])
noncomputable def hd.o_54 : Params → Obj := fun P => (Obj.mk (Value.type "tuple") none (Data.seq #[] 0) #[])
noncomputable def hd.o_55 : Params → Obj := fun P => (Obj.mk Value.none none (Data.func (FuncData.mk (Str.ofString "_wall") (Str.ofString "_wall") (fP 0) (.stmts (fB 0)) (fS 0) 0 [] Value.none Value.none Value.none Value.none none Value.none Value.none 0)) #[])
noncomputable def hd.o_56 : Params → Obj := fun P => (Obj.mk (Value.type "code") none (Data.fields #[(Value.str (Str.ofString "_wall") 187), (Value.str (Str.ofString "_wall") 188), (Value.str (Str.ofString "/claim/cut.py") 189), (Value.int 1 0), (Value.int 1 0), (Value.int 0 0), (Value.int 0 0), (Value.int 3 0), (Value.ref 15), (Value.bool Bool.true), (Value.int 181 0), (Value.ref 16), Value.none, (Value.ref 17), (Value.ref 18), (Value.ref 19), (Value.int 191 0), (Value.int 1 0), (Value.str (Str.ofString "/claim/cut.py") 192)]) #[])
noncomputable def hd.o_57 : Params → Obj := fun P => (Obj.mk (Value.type "function") none (Data.func (FuncData.mk (Str.ofString "_wall") (Str.ofString "_wall") (fP 0) (.stmts (fB 0)) (fS 0) 3 [] Value.none Value.none Value.none (Value.str (Str.ofString "__main__") 164) none (Value.ref 20) Value.none 0)) #[])
noncomputable def hd.o_58 : Params → Obj := fun P => (Obj.mk (Value.type "tuple") none (Data.seq #[] 0) #[])
noncomputable def hd.o_59 : Params → Obj := fun P => (Obj.mk Value.none none (Data.fields #[]) #[])
noncomputable def hd.o_60 : Params → Obj := fun P => (Obj.mk Value.none none (Data.func (FuncData.mk (Str.ofString "worth_table") (Str.ofString "worth_table") (fP 4) (.stmts (fB 4)) (fS 4) 0 [] Value.none Value.none Value.none Value.none none Value.none Value.none 0)) #[])
noncomputable def hd.o_61 : Params → Obj := fun P => (Obj.mk (Value.type "code") none (Data.fields #[(Value.str (Str.ofString "worth_table") 200), (Value.str (Str.ofString "worth_table") 201), (Value.str (Str.ofString "/claim/cut.py") 202), (Value.int 7 0), (Value.int 1 0), (Value.int 0 0), (Value.int 0 0), (Value.int 3 0), (Value.ref 22), (Value.bool Bool.true), (Value.int 181 0), (Value.ref 23), Value.none, Value.none, Value.none, (Value.ref 24), (Value.int 203 0), (Value.int 7 0), (Value.str (Str.ofString "/claim/cut.py") 204)]) #[])
noncomputable def hd.o_62 : Params → Obj := fun P => (Obj.mk (Value.type "function") none (Data.func (FuncData.mk (Str.ofString "worth_table") (Str.ofString "worth_table") (fP 4) (.stmts (fB 4)) (fS 4) 3 [] Value.none Value.none Value.none (Value.str (Str.ofString "postkeep.base64") 194) none (Value.ref 25) Value.none 0)) #[])
noncomputable def hd.o_63 : Params → Obj := fun P => (Obj.mk (Value.type "tuple") none (Data.seq #[] 0) #[])
noncomputable def hd.o_64 : Params → Obj := fun P => (Obj.mk Value.none none (Data.fields #[]) #[])
noncomputable def hd.o_65 : Params → Obj := fun P => (Obj.mk Value.none none (Data.func (FuncData.mk (Str.ofString "group_octets") (Str.ofString "group_octets") (fP 5) (.stmts (fB 5)) (fS 5) 0 [] Value.none Value.none Value.none Value.none none Value.none Value.none 0)) #[])
noncomputable def hd.o_66 : Params → Obj := fun P => (Obj.mk (Value.type "code") none (Data.fields #[(Value.str (Str.ofString "group_octets") 206), (Value.str (Str.ofString "group_octets") 207), (Value.str (Str.ofString "/claim/cut.py") 208), (Value.int 9 0), (Value.int 1 0), (Value.int 0 0), (Value.int 0 0), (Value.int 3 0), (Value.ref 27), (Value.bool Bool.true), (Value.int 181 0), (Value.ref 28), Value.none, Value.none, Value.none, (Value.ref 29), (Value.int 209 0), (Value.int 9 0), (Value.str (Str.ofString "/claim/cut.py") 210)]) #[])
noncomputable def hd.o_67 : Params → Obj := fun P => (Obj.mk (Value.type "function") none (Data.func (FuncData.mk (Str.ofString "group_octets") (Str.ofString "group_octets") (fP 5) (.stmts (fB 5)) (fS 5) 3 [] Value.none Value.none Value.none (Value.str (Str.ofString "postkeep.base64") 194) none (Value.ref 30) Value.none 0)) #[])
noncomputable def hd.o_68 : Params → Obj := fun P => (Obj.mk (Value.type "tuple") none (Data.seq #[] 0) #[])
noncomputable def hd.o_69 : Params → Obj := fun P => (Obj.mk Value.none none (Data.fields #[]) #[])
noncomputable def hd.o_70 : Params → Obj := fun P => (Obj.mk (Value.type "tuple") none (Data.seq #[(Value.str (Str.ofString "data") 215), (Value.str (Str.ofString "worths") 216), (Value.str (Str.ofString "worth_row") 217), (Value.str (Str.ofString "code") 218), (Value.str (Str.ofString "found") 219), (Value.str (Str.ofString "begin") 220)] 0) #[])
noncomputable def hd.o_71 : Params → Obj := fun P => (Obj.mk (Value.type "tuple") none (Data.seq #[] 0) #[])
noncomputable def hd.o_72 : Params → Obj := fun P => (Obj.mk Value.none none (Data.func (FuncData.mk (Str.ofString "decoded") (Str.ofString "decoded") (fP 6) (.stmts (fB 6)) (fS 6) 0 [] Value.none Value.none Value.none Value.none none Value.none Value.none 0)) #[])
noncomputable def hd.o_73 : Params → Obj := fun P => (Obj.mk (Value.type "code") none (Data.fields #[(Value.str (Str.ofString "decoded") 212), (Value.str (Str.ofString "decoded") 213), (Value.str (Str.ofString "/claim/cut.py") 214), (Value.int 17 0), (Value.int 1 0), (Value.int 0 0), (Value.int 0 0), (Value.int 3 0), (Value.ref 32), (Value.bool Bool.true), (Value.int 181 0), (Value.ref 33), Value.none, (Value.ref 34), (Value.ref 35), (Value.ref 36), (Value.int 221 0), (Value.int 17 0), (Value.str (Str.ofString "/claim/cut.py") 222)]) #[])
noncomputable def hd.o_74 : Params → Obj := fun P => (Obj.mk (Value.type "function") none (Data.func (FuncData.mk (Str.ofString "decoded") (Str.ofString "decoded") (fP 6) (.stmts (fB 6)) (fS 6) 3 [] Value.none Value.none Value.none (Value.str (Str.ofString "postkeep.base64") 194) none (Value.ref 37) Value.none 0)) #[])
noncomputable def hd.o_75 : Params → Obj := fun P => (Obj.mk Value.none none (Data.dict #[(DictEntry.mk (PyData.keyHash P (Str.ofString "type.__subclasses__.Exception.0")) (Value.str (Str.ofString "type.__subclasses__.Exception.0") 262) (Value.int 63 0)), (DictEntry.mk (PyData.keyHash P (Str.ofString "type.__subclasses__.Exception.n")) (Value.str (Str.ofString "type.__subclasses__.Exception.n") 263) (Value.int 1 0))] 2) #[])
noncomputable def hd.o_76 : Params → Obj := fun P => (Obj.mk (Value.type "dict") none (Data.dict #[(DictEntry.mk (PyData.keyHash P (Str.ofString "__name__")) (Value.str (Str.ofString "__name__") 165) (Value.str (Str.ofString "postkeep.errors") 224)), (DictEntry.mk (PyData.keyHash P (Str.ofString "__doc__")) (Value.str (Str.ofString "__doc__") 166) Value.none), (DictEntry.mk (PyData.keyHash P (Str.ofString "__package__")) (Value.str (Str.ofString "__package__") 167) Value.none), (DictEntry.mk (PyData.keyHash P (Str.ofString "__loader__")) (Value.str (Str.ofString "__loader__") 168) (Value.builtin "__main__.__loader__#opaque")), (DictEntry.mk (PyData.keyHash P (Str.ofString "__spec__")) (Value.str (Str.ofString "__spec__") 169) Value.none), (DictEntry.mk (PyData.keyHash P (Str.ofString "__annotations__")) (Value.str (Str.ofString "__annotations__") 170) (Value.ref 6)), (DictEntry.mk (PyData.keyHash P (Str.ofString "__builtins__")) (Value.str (Str.ofString "__builtins__") 171) (Value.ref 4)), (DictEntry.mk (PyData.keyHash P (Str.ofString "__file__")) (Value.str (Str.ofString "__file__") 173) (Value.str (Str.ofString "/claim/cut.py") 172)), (DictEntry.mk (PyData.keyHash P (Str.ofString "__cached__")) (Value.str (Str.ofString "__cached__") 174) Value.none), (DictEntry.mk (PyData.keyHash P (Str.ofString "_wall")) (Value.str (Str.ofString "_wall") 193) (Value.ref 21)), (DictEntry.mk (PyData.keyHash P (Str.ofString "SIGNS")) (Value.str (Str.ofString "SIGNS") 197) (Value.bytes #[65, 66, 67, 68, 69, 70, 71, 72, 73, 74, 75, 76, 77, 78, 79, 80, 81, 82, 83, 84, 85, 86, 87, 88, 89, 90, 97, 98, 99, 100, 101, 102, 103, 104, 105, 106, 107, 108, 109, 110, 111, 112, 113, 114, 115, 116, 117, 118, 119, 120, 121, 122, 48, 49, 50, 51, 52, 53, 54, 55, 56, 57, 43, 47] 196)), (DictEntry.mk (PyData.keyHash P (Str.ofString "PAD")) (Value.str (Str.ofString "PAD") 199) (Value.int 61 198)), (DictEntry.mk (PyData.keyHash P (Str.ofString "worth_table")) (Value.str (Str.ofString "worth_table") 205) (Value.ref 26)), (DictEntry.mk (PyData.keyHash P (Str.ofString "group_octets")) (Value.str (Str.ofString "group_octets") 211) (Value.ref 31)), (DictEntry.mk (PyData.keyHash P (Str.ofString "decoded")) (Value.str (Str.ofString "decoded") 223) (Value.ref 38)), (DictEntry.mk (PyData.keyHash P (Str.ofString "PostError")) (Value.str (Str.ofString "PostError") 265) (Value.ref 63))] 16) #[])
noncomputable def hd.o_77 : Params → Obj := fun P => (Obj.mk Value.none none (Data.fields #[(Value.int 1 0), (Value.int 0 0), (Value.ref 20), (Value.int 7 0), (Value.int 0 0), (Value.ref 25), (Value.int 9 0), (Value.int 0 0), (Value.ref 30), (Value.int 17 0), (Value.int 0 0), (Value.ref 37), (Value.int 31 0), (Value.int 0 0), (Value.ref 44)]) #[])
noncomputable def hd.o_78 : Params → Obj := fun P => (Obj.mk (Value.type "tuple") none (Data.seq #[(Value.type "Exception")] 0) #[])
noncomputable def hd.o_79 : Params → Obj := fun P => (Obj.mk (Value.type "builtin_function_or_method") none (Data.fields #[(Value.builtin "type.__prepare__"), (Value.type "type")]) #[])
noncomputable def hd.o_80 : Params → Obj := fun P => (Obj.mk (Value.type "dict") none (Data.dict #[(DictEntry.mk (PyData.keyHash P (Str.ofString "__module__")) (Value.str (Str.ofString "__module__") 233) (Value.str (Str.ofString "postkeep.errors") 224)), (DictEntry.mk (PyData.keyHash P (Str.ofString "__qualname__")) (Value.str (Str.ofString "__qualname__") 235) (Value.str (Str.ofString "PostError") 234)), (DictEntry.mk (PyData.keyHash P (Str.ofString "__firstlineno__")) (Value.str (Str.ofString "__firstlineno__") 237) (Value.int 31 236)), (DictEntry.mk (PyData.keyHash P (Str.ofString "__init__")) (Value.str (Str.ofString "__init__") 248) (Value.ref 53)), (DictEntry.mk (PyData.keyHash P (Str.ofString "told")) (Value.str (Str.ofString "told") 255) (Value.ref 60)), (DictEntry.mk (PyData.keyHash P (Str.ofString "__static_attributes__")) (Value.str (Str.ofString "__static_attributes__") 258) (Value.ref 61))] 6) #[])
noncomputable def hd.o_81 : Params → Obj := fun P => (Obj.mk (Value.type "tuple") none (Data.seq #[] 0) #[])
noncomputable def hd.o_82 : Params → Obj := fun P => (Obj.mk Value.none none (Data.fields #[(Value.int 33 0), (Value.int 4 0), (Value.ref 52), (Value.int 38 0), (Value.int 4 0), (Value.ref 59)]) #[])
noncomputable def hd.o_83 : Params → Obj := fun P => (Obj.mk (Value.type "code") none (Data.fields #[(Value.str (Str.ofString "PostError") 228), (Value.str (Str.ofString "PostError") 229), (Value.str (Str.ofString "/claim/cut.py") 230), (Value.int 31 0), (Value.int 0 0), (Value.int 0 0), (Value.int 0 0), (Value.int 0 0), (Value.ref 42), (Value.bool Bool.false), (Value.int 181 0), (Value.ref 43), Value.none, Value.none, Value.none, Value.none, (Value.int 231 0), (Value.int 31 0), (Value.str (Str.ofString "/claim/cut.py") 232)]) #[])
noncomputable def hd.o_84 : Params → Obj := fun P => (Obj.mk (Value.type "frame") none Data.plain #[(some (Value.ref 44)), (some (Value.ref 3)), (some (Value.ref 41)), none, (some (Value.str (Str.ofString "postkeep.errors") 224)), none, (some (Value.ref 0))])
noncomputable def hd.o_85 : Params → Obj := fun P => (Obj.mk (Value.type "tuple") none (Data.seq #[(Value.int (Neg.neg 1) 239)] 0) #[])
noncomputable def hd.o_86 : Params → Obj := fun P => (Obj.mk (Value.type "tuple") none (Data.seq #[] 0) #[])
noncomputable def hd.o_87 : Params → Obj := fun P => (Obj.mk Value.none none (Data.fields #[]) #[])
noncomputable def hd.o_88 : Params → Obj := fun P => (Obj.mk (Value.type "tuple") none (Data.seq #[(Value.str (Str.ofString "self") 243), (Value.str (Str.ofString "what") 244), (Value.str (Str.ofString "at") 245)] 0) #[])
noncomputable def hd.o_89 : Params → Obj := fun P => (Obj.mk (Value.type "tuple") none (Data.seq #[] 0) #[])
noncomputable def hd.o_90 : Params → Obj := fun P => (Obj.mk Value.none none (Data.func (FuncData.mk (Str.ofString "__init__") (Str.ofString "PostError.__init__") (mP 0) (.stmts (mB 0)) (mS 0) 0 [] Value.none Value.none Value.none Value.none none Value.none Value.none 0)) #[])
noncomputable def hd.o_91 : Params → Obj := fun P => (Obj.mk (Value.type "code") none (Data.fields #[(Value.str (Str.ofString "__init__") 240), (Value.str (Str.ofString "PostError.__init__") 241), (Value.str (Str.ofString "/claim/cut.py") 242), (Value.int 33 0), (Value.int 3 0), (Value.int 0 0), (Value.int 0 0), (Value.int 3 0), (Value.ref 47), (Value.bool Bool.true), (Value.int 181 0), (Value.ref 48), Value.none, (Value.ref 49), (Value.ref 50), (Value.ref 51), (Value.int 246 0), (Value.int 33 0), (Value.str (Str.ofString "/claim/cut.py") 247)]) #[])
noncomputable def hd.o_92 : Params → Obj := fun P => (Obj.mk (Value.type "function") none (Data.func (FuncData.mk (Str.ofString "__init__") (Str.ofString "PostError.__init__") (mP 0) (.stmts (mB 0)) (mS 0) 3 [] (Value.ref 46) Value.none Value.none (Value.str (Str.ofString "postkeep.errors") 224) none (Value.ref 52) Value.none 0)) #[])
noncomputable def hd.o_93 : Params → Obj := fun P => (Obj.mk (Value.type "tuple") none (Data.seq #[] 0) #[])
noncomputable def hd.o_94 : Params → Obj := fun P => (Obj.mk Value.none none (Data.fields #[]) #[])
noncomputable def hd.o_95 : Params → Obj := fun P => (Obj.mk (Value.type "tuple") none (Data.seq #[(Value.str (Str.ofString "self") 252)] 0) #[])
noncomputable def hd.o_96 : Params → Obj := fun P => (Obj.mk (Value.type "tuple") none (Data.seq #[] 0) #[])
noncomputable def hd.o_97 : Params → Obj := fun P => (Obj.mk Value.none none (Data.func (FuncData.mk (Str.ofString "told") (Str.ofString "PostError.told") (mP 1) (.stmts (mB 1)) (mS 1) 0 [] Value.none Value.none Value.none Value.none none Value.none Value.none 0)) #[])
noncomputable def hd.o_98 : Params → Obj := fun P => (Obj.mk (Value.type "code") none (Data.fields #[(Value.str (Str.ofString "told") 249), (Value.str (Str.ofString "PostError.told") 250), (Value.str (Str.ofString "/claim/cut.py") 251), (Value.int 38 0), (Value.int 1 0), (Value.int 0 0), (Value.int 0 0), (Value.int 3 0), (Value.ref 54), (Value.bool Bool.true), (Value.int 181 0), (Value.ref 55), Value.none, (Value.ref 56), (Value.ref 57), (Value.ref 58), (Value.int 253 0), (Value.int 38 0), (Value.str (Str.ofString "/claim/cut.py") 254)]) #[])
noncomputable def hd.o_99 : Params → Obj := fun P => (Obj.mk (Value.type "function") none (Data.func (FuncData.mk (Str.ofString "told") (Str.ofString "PostError.told") (mP 1) (.stmts (mB 1)) (mS 1) 3 [] Value.none Value.none Value.none (Value.str (Str.ofString "postkeep.errors") 224) none (Value.ref 59) Value.none 0)) #[])
noncomputable def hd.o_100 : Params → Obj := fun P => (Obj.mk (Value.type "tuple") none (Data.seq #[(Value.str (Str.ofString "at") 256), (Value.str (Str.ofString "what") 257)] 0) #[])
noncomputable def hd.o_101 : Params → Obj := fun P => (Obj.mk (Value.type "dict") none (Data.dict #[(DictEntry.mk (PyData.keyHash P (Str.ofString "__module__")) (Value.str (Str.ofString "__module__") 233) (Value.str (Str.ofString "postkeep.errors") 224)), (DictEntry.mk (PyData.keyHash P (Str.ofString "__firstlineno__")) (Value.str (Str.ofString "__firstlineno__") 237) (Value.int 31 236)), (DictEntry.mk (PyData.keyHash P (Str.ofString "__init__")) (Value.str (Str.ofString "__init__") 248) (Value.ref 53)), (DictEntry.mk (PyData.keyHash P (Str.ofString "told")) (Value.str (Str.ofString "told") 255) (Value.ref 60)), (DictEntry.mk (PyData.keyHash P (Str.ofString "__static_attributes__")) (Value.str (Str.ofString "__static_attributes__") 258) (Value.ref 61)), (DictEntry.mk (PyData.keyHash P (Str.ofString "__weakref__")) (Value.str (Str.ofString "__weakref__") 260) (Value.ref 64)), (DictEntry.mk (PyData.keyHash P (Str.ofString "__doc__")) (Value.str (Str.ofString "__doc__") 261) Value.none)] 3) #[])
noncomputable def hd.o_102 : Params → Obj := fun P => (Obj.mk (Value.type "type") none (Data.cls (PySem.ClassData.mk (Str.ofString "PostError") [(Value.type "Exception")] [(Value.ref 63), (Value.type "Exception"), (Value.type "BaseException"), (Value.type "object")] 62 (Str.ofString "PostError") Bool.true [] [] Bool.false none Bool.false)) #[(some (Value.ref 39)), none, (some (Value.str (Str.ofString "PostError") 226)), (some (Value.str (Str.ofString "PostError") 234)), (some (Value.builtin "Exception.__new__")), (some (Value.bool Bool.true))])
noncomputable def hd.o_103 : Params → Obj := fun P => (Obj.mk (Value.type "getset_descriptor") none (Data.fields #[(Value.str (Str.ofString "__weakref__") 259), (Value.ref 63), (Value.builtin "ExceptionGroup.__weakref__"), Value.none]) #[])
noncomputable def hd.o_104 : Params → Obj := fun P => (Obj.mk (Value.type "super") none (Data.fields #[(Value.ref 63), (Value.ref 63), (Value.ref 63)]) #[])
noncomputable def hd.o_105 : Params → Obj := fun P => (Obj.mk (Value.type "builtin_function_or_method") none (Data.fields #[(Value.builtin "object.__init_subclass__"), (Value.ref 63)]) #[])
noncomputable def hd.o_106 : Params → Obj := fun P => (Obj.mk (Value.type "dict") none (Data.dict #[(DictEntry.mk (PyData.keyHash P (Str.ofString "__name__")) (Value.str (Str.ofString "__name__") 165) (Value.str (Str.ofString "postkeep.charsets") 297)), (DictEntry.mk (PyData.keyHash P (Str.ofString "__doc__")) (Value.str (Str.ofString "__doc__") 166) Value.none), (DictEntry.mk (PyData.keyHash P (Str.ofString "__package__")) (Value.str (Str.ofString "__package__") 167) Value.none), (DictEntry.mk (PyData.keyHash P (Str.ofString "__loader__")) (Value.str (Str.ofString "__loader__") 168) (Value.builtin "__main__.__loader__#opaque")), (DictEntry.mk (PyData.keyHash P (Str.ofString "__spec__")) (Value.str (Str.ofString "__spec__") 169) Value.none), (DictEntry.mk (PyData.keyHash P (Str.ofString "__annotations__")) (Value.str (Str.ofString "__annotations__") 170) (Value.ref 6)), (DictEntry.mk (PyData.keyHash P (Str.ofString "__builtins__")) (Value.str (Str.ofString "__builtins__") 171) (Value.ref 4)), (DictEntry.mk (PyData.keyHash P (Str.ofString "__file__")) (Value.str (Str.ofString "__file__") 173) (Value.str (Str.ofString "/claim/cut.py") 172)), (DictEntry.mk (PyData.keyHash P (Str.ofString "__cached__")) (Value.str (Str.ofString "__cached__") 174) Value.none), (DictEntry.mk (PyData.keyHash P (Str.ofString "_wall")) (Value.str (Str.ofString "_wall") 193) (Value.ref 21)), (DictEntry.mk (PyData.keyHash P (Str.ofString "SIGNS")) (Value.str (Str.ofString "SIGNS") 197) (Value.bytes #[65, 66, 67, 68, 69, 70, 71, 72, 73, 74, 75, 76, 77, 78, 79, 80, 81, 82, 83, 84, 85, 86, 87, 88, 89, 90, 97, 98, 99, 100, 101, 102, 103, 104, 105, 106, 107, 108, 109, 110, 111, 112, 113, 114, 115, 116, 117, 118, 119, 120, 121, 122, 48, 49, 50, 51, 52, 53, 54, 55, 56, 57, 43, 47] 196)), (DictEntry.mk (PyData.keyHash P (Str.ofString "PAD")) (Value.str (Str.ofString "PAD") 199) (Value.int 61 198)), (DictEntry.mk (PyData.keyHash P (Str.ofString "worth_table")) (Value.str (Str.ofString "worth_table") 205) (Value.ref 26)), (DictEntry.mk (PyData.keyHash P (Str.ofString "group_octets")) (Value.str (Str.ofString "group_octets") 211) (Value.ref 31)), (DictEntry.mk (PyData.keyHash P (Str.ofString "decoded")) (Value.str (Str.ofString "decoded") 223) (Value.ref 38)), (DictEntry.mk (PyData.keyHash P (Str.ofString "PostError")) (Value.str (Str.ofString "PostError") 265) (Value.ref 63)), (DictEntry.mk (PyData.keyHash P (Str.ofString "MimeFault")) (Value.str (Str.ofString "MimeFault") 281) (Value.ref 76)), (DictEntry.mk (PyData.keyHash P (Str.ofString "lower_code")) (Value.str (Str.ofString "lower_code") 290) (Value.ref 85)), (DictEntry.mk (PyData.keyHash P (Str.ofString "lower_text")) (Value.str (Str.ofString "lower_text") 296) (Value.ref 90)), (DictEntry.mk (PyData.keyHash P (Str.ofString "ASCII")) (Value.str (Str.ofString "ASCII") 300) (Value.str (Str.ofString "us-ascii") 299)), (DictEntry.mk (PyData.keyHash P (Str.ofString "LATIN")) (Value.str (Str.ofString "LATIN") 302) (Value.str (Str.ofString "iso-8859-1") 301)), (DictEntry.mk (PyData.keyHash P (Str.ofString "UTF8")) (Value.str (Str.ofString "UTF8") 304) (Value.str (Str.ofString "utf-8") 303)), (DictEntry.mk (PyData.keyHash P (Str.ofString "CHARSETS")) (Value.str (Str.ofString "CHARSETS") 305) (Value.ref 91)), (DictEntry.mk (PyData.keyHash P (Str.ofString "UNKNOWN_SIGN")) (Value.str (Str.ofString "UNKNOWN_SIGN") 308) (Value.str (Str.ofString "�") 307)), (DictEntry.mk (PyData.keyHash P (Str.ofString "charset_names")) (Value.str (Str.ofString "charset_names") 316) (Value.ref 98))] 25) #[])
noncomputable def hd.o_107 : Params → Obj := fun P => (Obj.mk Value.none none (Data.fields #[(Value.int 1 0), (Value.int 0 0), (Value.ref 20), (Value.int 7 0), (Value.int 0 0), (Value.ref 25), (Value.int 9 0), (Value.int 0 0), (Value.ref 30), (Value.int 17 0), (Value.int 0 0), (Value.ref 37), (Value.int 31 0), (Value.int 0 0), (Value.ref 44), (Value.int 40 0), (Value.int 0 0), (Value.ref 72), (Value.int 43 0), (Value.int 0 0), (Value.ref 84), (Value.int 45 0), (Value.int 0 0), (Value.ref 89), (Value.int 53 0), (Value.int 0 0), (Value.ref 97)]) #[])
noncomputable def hd.o_108 : Params → Obj := fun P => (Obj.mk (Value.type "type") none (Data.cls (PySem.ClassData.mk (Str.ofString "PostError") [(Value.type "Exception")] [(Value.ref 63), (Value.type "Exception"), (Value.type "BaseException"), (Value.type "object")] 62 (Str.ofString "PostError") Bool.true [] [(Value.ref 76)] Bool.false none Bool.false)) #[(some (Value.ref 39)), none, (some (Value.str (Str.ofString "PostError") 226)), (some (Value.str (Str.ofString "PostError") 234)), (some (Value.builtin "Exception.__new__")), (some (Value.bool Bool.true))])
noncomputable def hd.o_109 : Params → Obj := fun P => (Obj.mk (Value.type "tuple") none (Data.seq #[(Value.ref 63)] 0) #[])
noncomputable def hd.o_110 : Params → Obj := fun P => (Obj.mk (Value.type "builtin_function_or_method") none (Data.fields #[(Value.builtin "type.__prepare__"), (Value.type "type")]) #[])
noncomputable def hd.o_111 : Params → Obj := fun P => (Obj.mk (Value.type "dict") none (Data.dict #[(DictEntry.mk (PyData.keyHash P (Str.ofString "__module__")) (Value.str (Str.ofString "__module__") 273) (Value.str (Str.ofString "postkeep.errors") 224)), (DictEntry.mk (PyData.keyHash P (Str.ofString "__qualname__")) (Value.str (Str.ofString "__qualname__") 275) (Value.str (Str.ofString "MimeFault") 274)), (DictEntry.mk (PyData.keyHash P (Str.ofString "__firstlineno__")) (Value.str (Str.ofString "__firstlineno__") 277) (Value.int 40 276)), (DictEntry.mk (PyData.keyHash P (Str.ofString "__static_attributes__")) (Value.str (Str.ofString "__static_attributes__") 278) (Value.ref 74))] 4) #[])
noncomputable def hd.o_112 : Params → Obj := fun P => (Obj.mk (Value.type "tuple") none (Data.seq #[] 0) #[])
noncomputable def hd.o_113 : Params → Obj := fun P => (Obj.mk Value.none none (Data.fields #[]) #[])
noncomputable def hd.o_114 : Params → Obj := fun P => (Obj.mk (Value.type "code") none (Data.fields #[(Value.str (Str.ofString "MimeFault") 268), (Value.str (Str.ofString "MimeFault") 269), (Value.str (Str.ofString "/claim/cut.py") 270), (Value.int 40 0), (Value.int 0 0), (Value.int 0 0), (Value.int 0 0), (Value.int 0 0), (Value.ref 70), (Value.bool Bool.false), (Value.int 181 0), (Value.ref 71), Value.none, Value.none, Value.none, Value.none, (Value.int 271 0), (Value.int 40 0), (Value.str (Str.ofString "/claim/cut.py") 272)]) #[])
noncomputable def hd.o_115 : Params → Obj := fun P => (Obj.mk (Value.type "frame") none Data.plain #[(some (Value.ref 72)), (some (Value.ref 3)), (some (Value.ref 69)), none, (some (Value.str (Str.ofString "postkeep.errors") 224)), none, (some (Value.ref 0))])
noncomputable def hd.o_116 : Params → Obj := fun P => (Obj.mk (Value.type "tuple") none (Data.seq #[] 0) #[])
noncomputable def hd.o_117 : Params → Obj := fun P => (Obj.mk (Value.type "dict") none (Data.dict #[(DictEntry.mk (PyData.keyHash P (Str.ofString "__module__")) (Value.str (Str.ofString "__module__") 273) (Value.str (Str.ofString "postkeep.errors") 224)), (DictEntry.mk (PyData.keyHash P (Str.ofString "__firstlineno__")) (Value.str (Str.ofString "__firstlineno__") 277) (Value.int 40 276)), (DictEntry.mk (PyData.keyHash P (Str.ofString "__static_attributes__")) (Value.str (Str.ofString "__static_attributes__") 278) (Value.ref 74)), (DictEntry.mk (PyData.keyHash P (Str.ofString "__doc__")) (Value.str (Str.ofString "__doc__") 279) Value.none)] 2) #[])
noncomputable def hd.o_118 : Params → Obj := fun P => (Obj.mk (Value.type "type") none (Data.cls (PySem.ClassData.mk (Str.ofString "MimeFault") [(Value.ref 63)] [(Value.ref 76), (Value.ref 63), (Value.type "Exception"), (Value.type "BaseException"), (Value.type "object")] 75 (Str.ofString "MimeFault") Bool.true [] [] Bool.false none Bool.false)) #[(some (Value.ref 67)), none, (some (Value.str (Str.ofString "MimeFault") 266)), (some (Value.str (Str.ofString "MimeFault") 274)), (some (Value.builtin "Exception.__new__")), (some (Value.bool Bool.true))])
noncomputable def hd.o_119 : Params → Obj := fun P => (Obj.mk (Value.type "super") none (Data.fields #[(Value.ref 76), (Value.ref 76), (Value.ref 76)]) #[])
noncomputable def hd.o_120 : Params → Obj := fun P => (Obj.mk (Value.type "builtin_function_or_method") none (Data.fields #[(Value.builtin "object.__init_subclass__"), (Value.ref 76)]) #[])
noncomputable def hd.o_121 : Params → Obj := fun P => (Obj.mk (Value.type "tuple") none (Data.seq #[] 0) #[])
noncomputable def hd.o_122 : Params → Obj := fun P => (Obj.mk Value.none none (Data.fields #[]) #[])
noncomputable def hd.o_123 : Params → Obj := fun P => (Obj.mk (Value.type "tuple") none (Data.seq #[(Value.str (Str.ofString "code") 287)] 0) #[])
noncomputable def hd.o_124 : Params → Obj := fun P => (Obj.mk (Value.type "tuple") none (Data.seq #[] 0) #[])
noncomputable def hd.o_125 : Params → Obj := fun P => (Obj.mk Value.none none (Data.func (FuncData.mk (Str.ofString "lower_code") (Str.ofString "lower_code") (fP 11) (.stmts (fB 11)) (fS 11) 0 [] Value.none Value.none Value.none Value.none none Value.none Value.none 0)) #[])
noncomputable def hd.o_126 : Params → Obj := fun P => (Obj.mk (Value.type "code") none (Data.fields #[(Value.str (Str.ofString "lower_code") 284), (Value.str (Str.ofString "lower_code") 285), (Value.str (Str.ofString "/claim/cut.py") 286), (Value.int 43 0), (Value.int 1 0), (Value.int 0 0), (Value.int 0 0), (Value.int 3 0), (Value.ref 79), (Value.bool Bool.true), (Value.int 181 0), (Value.ref 80), Value.none, (Value.ref 81), (Value.ref 82), (Value.ref 83), (Value.int 288 0), (Value.int 43 0), (Value.str (Str.ofString "/claim/cut.py") 289)]) #[])
noncomputable def hd.o_127 : Params → Obj := fun P => (Obj.mk (Value.type "function") none (Data.func (FuncData.mk (Str.ofString "lower_code") (Str.ofString "lower_code") (fP 11) (.stmts (fB 11)) (fS 11) 3 [] Value.none Value.none Value.none (Value.str (Str.ofString "postkeep.octets") 282) none (Value.ref 84) Value.none 0)) #[])
noncomputable def hd.o_128 : Params → Obj := fun P => (Obj.mk (Value.type "tuple") none (Data.seq #[] 0) #[])
noncomputable def hd.o_129 : Params → Obj := fun P => (Obj.mk Value.none none (Data.fields #[]) #[])
noncomputable def hd.o_130 : Params → Obj := fun P => (Obj.mk Value.none none (Data.func (FuncData.mk (Str.ofString "lower_text") (Str.ofString "lower_text") (fP 12) (.stmts (fB 12)) (fS 12) 0 [] Value.none Value.none Value.none Value.none none Value.none Value.none 0)) #[])
noncomputable def hd.o_131 : Params → Obj := fun P => (Obj.mk (Value.type "code") none (Data.fields #[(Value.str (Str.ofString "lower_text") 291), (Value.str (Str.ofString "lower_text") 292), (Value.str (Str.ofString "/claim/cut.py") 293), (Value.int 45 0), (Value.int 1 0), (Value.int 0 0), (Value.int 0 0), (Value.int 3 0), (Value.ref 86), (Value.bool Bool.true), (Value.int 181 0), (Value.ref 87), Value.none, Value.none, Value.none, (Value.ref 88), (Value.int 294 0), (Value.int 45 0), (Value.str (Str.ofString "/claim/cut.py") 295)]) #[])
noncomputable def hd.o_132 : Params → Obj := fun P => (Obj.mk (Value.type "function") none (Data.func (FuncData.mk (Str.ofString "lower_text") (Str.ofString "lower_text") (fP 12) (.stmts (fB 12)) (fS 12) 3 [] Value.none Value.none Value.none (Value.str (Str.ofString "postkeep.octets") 282) none (Value.ref 89) Value.none 0)) #[])
noncomputable def hd.o_133 : Params → Obj := fun P => (Obj.mk (Value.type "tuple") none (Data.seq #[(Value.str (Str.ofString "us-ascii") 299), (Value.str (Str.ofString "iso-8859-1") 301), (Value.str (Str.ofString "utf-8") 303)] 0) #[])
noncomputable def hd.o_134 : Params → Obj := fun P => (Obj.mk (Value.type "tuple") none (Data.seq #[] 0) #[])
noncomputable def hd.o_135 : Params → Obj := fun P => (Obj.mk Value.none none (Data.fields #[]) #[])
noncomputable def hd.o_136 : Params → Obj := fun P => (Obj.mk (Value.type "tuple") none (Data.seq #[(Value.str (Str.ofString "found") 312), (Value.str (Str.ofString "alias") 313)] 0) #[])
noncomputable def hd.o_137 : Params → Obj := fun P => (Obj.mk (Value.type "tuple") none (Data.seq #[] 0) #[])
noncomputable def hd.o_138 : Params → Obj := fun P => (Obj.mk Value.none none (Data.func (FuncData.mk (Str.ofString "charset_names") (Str.ofString "charset_names") (fP 19) (.stmts (fB 19)) (fS 19) 0 [] Value.none Value.none Value.none Value.none none Value.none Value.none 0)) #[])
noncomputable def hd.o_139 : Params → Obj := fun P => (Obj.mk (Value.type "code") none (Data.fields #[(Value.str (Str.ofString "charset_names") 309), (Value.str (Str.ofString "charset_names") 310), (Value.str (Str.ofString "/claim/cut.py") 311), (Value.int 53 0), (Value.int 0 0), (Value.int 0 0), (Value.int 0 0), (Value.int 3 0), (Value.ref 92), (Value.bool Bool.true), (Value.int 181 0), (Value.ref 93), Value.none, (Value.ref 94), (Value.ref 95), (Value.ref 96), (Value.int 314 0), (Value.int 53 0), (Value.str (Str.ofString "/claim/cut.py") 315)]) #[])
noncomputable def hd.o_140 : Params → Obj := fun P => (Obj.mk (Value.type "function") none (Data.func (FuncData.mk (Str.ofString "charset_names") (Str.ofString "charset_names") (fP 19) (.stmts (fB 19)) (fS 19) 3 [] Value.none Value.none Value.none (Value.str (Str.ofString "postkeep.charsets") 297) none (Value.ref 97) Value.none 0)) #[])
noncomputable def hd.o_141 : Params → Obj := fun P => (Obj.mk (Value.type "dict") none (Data.dict #[(DictEntry.mk (PyData.keyHash P (Str.ofString "__name__")) (Value.str (Str.ofString "__name__") 165) (Value.str (Str.ofString "postkeep.words") 414)), (DictEntry.mk (PyData.keyHash P (Str.ofString "__doc__")) (Value.str (Str.ofString "__doc__") 166) Value.none), (DictEntry.mk (PyData.keyHash P (Str.ofString "__package__")) (Value.str (Str.ofString "__package__") 167) Value.none), (DictEntry.mk (PyData.keyHash P (Str.ofString "__loader__")) (Value.str (Str.ofString "__loader__") 168) (Value.builtin "__main__.__loader__#opaque")), (DictEntry.mk (PyData.keyHash P (Str.ofString "__spec__")) (Value.str (Str.ofString "__spec__") 169) Value.none), (DictEntry.mk (PyData.keyHash P (Str.ofString "__annotations__")) (Value.str (Str.ofString "__annotations__") 170) (Value.ref 6)), (DictEntry.mk (PyData.keyHash P (Str.ofString "__builtins__")) (Value.str (Str.ofString "__builtins__") 171) (Value.ref 4)), (DictEntry.mk (PyData.keyHash P (Str.ofString "__file__")) (Value.str (Str.ofString "__file__") 173) (Value.str (Str.ofString "/claim/cut.py") 172)), (DictEntry.mk (PyData.keyHash P (Str.ofString "__cached__")) (Value.str (Str.ofString "__cached__") 174) Value.none), (DictEntry.mk (PyData.keyHash P (Str.ofString "_wall")) (Value.str (Str.ofString "_wall") 193) (Value.ref 21)), (DictEntry.mk (PyData.keyHash P (Str.ofString "SIGNS")) (Value.str (Str.ofString "SIGNS") 197) (Value.bytes #[65, 66, 67, 68, 69, 70, 71, 72, 73, 74, 75, 76, 77, 78, 79, 80, 81, 82, 83, 84, 85, 86, 87, 88, 89, 90, 97, 98, 99, 100, 101, 102, 103, 104, 105, 106, 107, 108, 109, 110, 111, 112, 113, 114, 115, 116, 117, 118, 119, 120, 121, 122, 48, 49, 50, 51, 52, 53, 54, 55, 56, 57, 43, 47] 196)), (DictEntry.mk (PyData.keyHash P (Str.ofString "PAD")) (Value.str (Str.ofString "PAD") 199) (Value.int 61 198)), (DictEntry.mk (PyData.keyHash P (Str.ofString "worth_table")) (Value.str (Str.ofString "worth_table") 205) (Value.ref 26)), (DictEntry.mk (PyData.keyHash P (Str.ofString "group_octets")) (Value.str (Str.ofString "group_octets") 211) (Value.ref 31)), (DictEntry.mk (PyData.keyHash P (Str.ofString "decoded")) (Value.str (Str.ofString "decoded") 223) (Value.ref 38)), (DictEntry.mk (PyData.keyHash P (Str.ofString "PostError")) (Value.str (Str.ofString "PostError") 265) (Value.ref 63)), (DictEntry.mk (PyData.keyHash P (Str.ofString "MimeFault")) (Value.str (Str.ofString "MimeFault") 281) (Value.ref 76)), (DictEntry.mk (PyData.keyHash P (Str.ofString "lower_code")) (Value.str (Str.ofString "lower_code") 290) (Value.ref 85)), (DictEntry.mk (PyData.keyHash P (Str.ofString "lower_text")) (Value.str (Str.ofString "lower_text") 296) (Value.ref 90)), (DictEntry.mk (PyData.keyHash P (Str.ofString "ASCII")) (Value.str (Str.ofString "ASCII") 300) (Value.str (Str.ofString "us-ascii") 299)), (DictEntry.mk (PyData.keyHash P (Str.ofString "LATIN")) (Value.str (Str.ofString "LATIN") 302) (Value.str (Str.ofString "iso-8859-1") 301)), (DictEntry.mk (PyData.keyHash P (Str.ofString "UTF8")) (Value.str (Str.ofString "UTF8") 304) (Value.str (Str.ofString "utf-8") 303)), (DictEntry.mk (PyData.keyHash P (Str.ofString "CHARSETS")) (Value.str (Str.ofString "CHARSETS") 305) (Value.ref 91)), (DictEntry.mk (PyData.keyHash P (Str.ofString "UNKNOWN_SIGN")) (Value.str (Str.ofString "UNKNOWN_SIGN") 308) (Value.str (Str.ofString "�") 307)), (DictEntry.mk (PyData.keyHash P (Str.ofString "charset_names")) (Value.str (Str.ofString "charset_names") 316) (Value.ref 98)), (DictEntry.mk (PyData.keyHash P (Str.ofString "charset_name")) (Value.str (Str.ofString "charset_name") 323) (Value.ref 105)), (DictEntry.mk (PyData.keyHash P (Str.ofString "need_charset")) (Value.str (Str.ofString "need_charset") 330) (Value.ref 112)), (DictEntry.mk (PyData.keyHash P (Str.ofString "follower_span")) (Value.str (Str.ofString "follower_span") 337) (Value.ref 119)), (DictEntry.mk (PyData.keyHash P (Str.ofString "utf8_sign")) (Value.str (Str.ofString "utf8_sign") 351) (Value.ref 126)), (DictEntry.mk (PyData.keyHash P (Str.ofString "sign_at")) (Value.str (Str.ofString "sign_at") 360) (Value.ref 133)), (DictEntry.mk (PyData.keyHash P (Str.ofString "text_in")) (Value.str (Str.ofString "text_in") 372) (Value.ref 140)), (DictEntry.mk (PyData.keyHash P (Str.ofString "EQUALS")) (Value.str (Str.ofString "EQUALS") 376) (Value.int 61 375)), (DictEntry.mk (PyData.keyHash P (Str.ofString "BLANK")) (Value.str (Str.ofString "BLANK") 378) (Value.int 32 377)), (DictEntry.mk (PyData.keyHash P (Str.ofString "UNDERLINE")) (Value.str (Str.ofString "UNDERLINE") 380) (Value.int 95 379)), (DictEntry.mk (PyData.keyHash P (Str.ofString "hex_worth")) (Value.str (Str.ofString "hex_worth") 387) (Value.ref 147)), (DictEntry.mk (PyData.keyHash P (Str.ofString "quoted_at")) (Value.str (Str.ofString "quoted_at") 397) (Value.ref 154)), (DictEntry.mk (PyData.keyHash P (Str.ofString "unquoted")) (Value.str (Str.ofString "unquoted") 407) (Value.ref 161)), (DictEntry.mk (PyData.keyHash P (Str.ofString "word_q_decoded")) (Value.str (Str.ofString "word_q_decoded") 413) (Value.ref 166)), (DictEntry.mk (PyData.keyHash P (Str.ofString "WHITE")) (Value.str (Str.ofString "WHITE") 420) (Value.ref 167)), (DictEntry.mk (PyData.keyHash P (Str.ofString "OPENING")) (Value.str (Str.ofString "OPENING") 422) (Value.int 40 421)), (DictEntry.mk (PyData.keyHash P (Str.ofString "CLOSING")) (Value.str (Str.ofString "CLOSING") 424) (Value.int 41 423)), (DictEntry.mk (PyData.keyHash P (Str.ofString "WAYS")) (Value.str (Str.ofString "WAYS") 427) (Value.ref 168))] 42) #[])
noncomputable def hd.o_142 : Params → Obj := fun P => (Obj.mk Value.none none (Data.fields #[(Value.int 1 0), (Value.int 0 0), (Value.ref 20), (Value.int 7 0), (Value.int 0 0), (Value.ref 25), (Value.int 9 0), (Value.int 0 0), (Value.ref 30), (Value.int 17 0), (Value.int 0 0), (Value.ref 37), (Value.int 31 0), (Value.int 0 0), (Value.ref 44), (Value.int 40 0), (Value.int 0 0), (Value.ref 72), (Value.int 43 0), (Value.int 0 0), (Value.ref 84), (Value.int 45 0), (Value.int 0 0), (Value.ref 89), (Value.int 53 0), (Value.int 0 0), (Value.ref 97), (Value.int 62 0), (Value.int 0 0), (Value.ref 104), (Value.int 64 0), (Value.int 0 0), (Value.ref 111), (Value.int 67 0), (Value.int 0 0), (Value.ref 118), (Value.int 75 0), (Value.int 0 0), (Value.ref 125), (Value.int 89 0), (Value.int 0 0), (Value.ref 132), (Value.int 95 0), (Value.int 0 0), (Value.ref 139), (Value.int 108 0), (Value.int 0 0), (Value.ref 146), (Value.int 116 0), (Value.int 0 0), (Value.ref 153), (Value.int 122 0), (Value.int 0 0), (Value.ref 160), (Value.int 134 0), (Value.int 0 0), (Value.ref 165)]) #[])
noncomputable def hd.o_143 : Params → Obj := fun P => (Obj.mk (Value.type "tuple") none (Data.seq #[] 0) #[])
noncomputable def hd.o_144 : Params → Obj := fun P => (Obj.mk Value.none none (Data.fields #[]) #[])
noncomputable def hd.o_145 : Params → Obj := fun P => (Obj.mk (Value.type "tuple") none (Data.seq #[(Value.str (Str.ofString "text") 320)] 0) #[])
noncomputable def hd.o_146 : Params → Obj := fun P => (Obj.mk (Value.type "tuple") none (Data.seq #[] 0) #[])
noncomputable def hd.o_147 : Params → Obj := fun P => (Obj.mk Value.none none (Data.func (FuncData.mk (Str.ofString "charset_name") (Str.ofString "charset_name") (fP 20) (.stmts (fB 20)) (fS 20) 0 [] Value.none Value.none Value.none Value.none none Value.none Value.none 0)) #[])
noncomputable def hd.o_148 : Params → Obj := fun P => (Obj.mk (Value.type "code") none (Data.fields #[(Value.str (Str.ofString "charset_name") 317), (Value.str (Str.ofString "charset_name") 318), (Value.str (Str.ofString "/claim/cut.py") 319), (Value.int 62 0), (Value.int 1 0), (Value.int 0 0), (Value.int 0 0), (Value.int 3 0), (Value.ref 99), (Value.bool Bool.true), (Value.int 181 0), (Value.ref 100), Value.none, (Value.ref 101), (Value.ref 102), (Value.ref 103), (Value.int 321 0), (Value.int 62 0), (Value.str (Str.ofString "/claim/cut.py") 322)]) #[])
noncomputable def hd.o_149 : Params → Obj := fun P => (Obj.mk (Value.type "function") none (Data.func (FuncData.mk (Str.ofString "charset_name") (Str.ofString "charset_name") (fP 20) (.stmts (fB 20)) (fS 20) 3 [] Value.none Value.none Value.none (Value.str (Str.ofString "postkeep.charsets") 297) none (Value.ref 104) Value.none 0)) #[])
noncomputable def hd.o_150 : Params → Obj := fun P => (Obj.mk (Value.type "tuple") none (Data.seq #[] 0) #[])
noncomputable def hd.o_151 : Params → Obj := fun P => (Obj.mk Value.none none (Data.fields #[]) #[])
noncomputable def hd.o_152 : Params → Obj := fun P => (Obj.mk (Value.type "tuple") none (Data.seq #[(Value.str (Str.ofString "charset") 327)] 0) #[])
noncomputable def hd.o_153 : Params → Obj := fun P => (Obj.mk (Value.type "tuple") none (Data.seq #[] 0) #[])
noncomputable def hd.o_154 : Params → Obj := fun P => (Obj.mk Value.none none (Data.func (FuncData.mk (Str.ofString "need_charset") (Str.ofString "need_charset") (fP 21) (.stmts (fB 21)) (fS 21) 0 [] Value.none Value.none Value.none Value.none none Value.none Value.none 0)) #[])
noncomputable def hd.o_155 : Params → Obj := fun P => (Obj.mk (Value.type "code") none (Data.fields #[(Value.str (Str.ofString "need_charset") 324), (Value.str (Str.ofString "need_charset") 325), (Value.str (Str.ofString "/claim/cut.py") 326), (Value.int 64 0), (Value.int 1 0), (Value.int 0 0), (Value.int 0 0), (Value.int 3 0), (Value.ref 106), (Value.bool Bool.true), (Value.int 181 0), (Value.ref 107), Value.none, (Value.ref 108), (Value.ref 109), (Value.ref 110), (Value.int 328 0), (Value.int 64 0), (Value.str (Str.ofString "/claim/cut.py") 329)]) #[])
noncomputable def hd.o_156 : Params → Obj := fun P => (Obj.mk (Value.type "function") none (Data.func (FuncData.mk (Str.ofString "need_charset") (Str.ofString "need_charset") (fP 21) (.stmts (fB 21)) (fS 21) 3 [] Value.none Value.none Value.none (Value.str (Str.ofString "postkeep.charsets") 297) none (Value.ref 111) Value.none 0)) #[])
noncomputable def hd.o_157 : Params → Obj := fun P => (Obj.mk (Value.type "tuple") none (Data.seq #[] 0) #[])
noncomputable def hd.o_158 : Params → Obj := fun P => (Obj.mk Value.none none (Data.fields #[]) #[])
noncomputable def hd.o_159 : Params → Obj := fun P => (Obj.mk (Value.type "tuple") none (Data.seq #[(Value.str (Str.ofString "lead") 334)] 0) #[])
noncomputable def hd.o_160 : Params → Obj := fun P => (Obj.mk (Value.type "tuple") none (Data.seq #[] 0) #[])
noncomputable def hd.o_161 : Params → Obj := fun P => (Obj.mk Value.none none (Data.func (FuncData.mk (Str.ofString "follower_span") (Str.ofString "follower_span") (fP 22) (.stmts (fB 22)) (fS 22) 0 [] Value.none Value.none Value.none Value.none none Value.none Value.none 0)) #[])
noncomputable def hd.o_162 : Params → Obj := fun P => (Obj.mk (Value.type "code") none (Data.fields #[(Value.str (Str.ofString "follower_span") 331), (Value.str (Str.ofString "follower_span") 332), (Value.str (Str.ofString "/claim/cut.py") 333), (Value.int 67 0), (Value.int 1 0), (Value.int 0 0), (Value.int 0 0), (Value.int 3 0), (Value.ref 113), (Value.bool Bool.true), (Value.int 181 0), (Value.ref 114), Value.none, (Value.ref 115), (Value.ref 116), (Value.ref 117), (Value.int 335 0), (Value.int 67 0), (Value.str (Str.ofString "/claim/cut.py") 336)]) #[])
noncomputable def hd.o_163 : Params → Obj := fun P => (Obj.mk (Value.type "function") none (Data.func (FuncData.mk (Str.ofString "follower_span") (Str.ofString "follower_span") (fP 22) (.stmts (fB 22)) (fS 22) 3 [] Value.none Value.none Value.none (Value.str (Str.ofString "postkeep.charsets") 297) none (Value.ref 118) Value.none 0)) #[])
noncomputable def hd.o_164 : Params → Obj := fun P => (Obj.mk (Value.type "tuple") none (Data.seq #[] 0) #[])
noncomputable def hd.o_165 : Params → Obj := fun P => (Obj.mk Value.none none (Data.fields #[]) #[])
noncomputable def hd.o_166 : Params → Obj := fun P => (Obj.mk (Value.type "tuple") none (Data.seq #[(Value.str (Str.ofString "octets") 341), (Value.str (Str.ofString "at") 342), (Value.str (Str.ofString "lead") 343), (Value.str (Str.ofString "least") 344), (Value.str (Str.ofString "most") 345), (Value.str (Str.ofString "count") 346), (Value.str (Str.ofString "code") 347), (Value.str (Str.ofString "place") 348)] 0) #[])
noncomputable def hd.o_167 : Params → Obj := fun P => (Obj.mk (Value.type "tuple") none (Data.seq #[] 0) #[])
noncomputable def hd.o_168 : Params → Obj := fun P => (Obj.mk Value.none none (Data.func (FuncData.mk (Str.ofString "utf8_sign") (Str.ofString "utf8_sign") (fP 23) (.stmts (fB 23)) (fS 23) 0 [] Value.none Value.none Value.none Value.none none Value.none Value.none 0)) #[])
noncomputable def hd.o_169 : Params → Obj := fun P => (Obj.mk (Value.type "code") none (Data.fields #[(Value.str (Str.ofString "utf8_sign") 338), (Value.str (Str.ofString "utf8_sign") 339), (Value.str (Str.ofString "/claim/cut.py") 340), (Value.int 75 0), (Value.int 2 0), (Value.int 0 0), (Value.int 0 0), (Value.int 3 0), (Value.ref 120), (Value.bool Bool.true), (Value.int 181 0), (Value.ref 121), Value.none, (Value.ref 122), (Value.ref 123), (Value.ref 124), (Value.int 349 0), (Value.int 75 0), (Value.str (Str.ofString "/claim/cut.py") 350)]) #[])
noncomputable def hd.o_170 : Params → Obj := fun P => (Obj.mk (Value.type "function") none (Data.func (FuncData.mk (Str.ofString "utf8_sign") (Str.ofString "utf8_sign") (fP 23) (.stmts (fB 23)) (fS 23) 3 [] Value.none Value.none Value.none (Value.str (Str.ofString "postkeep.charsets") 297) none (Value.ref 125) Value.none 0)) #[])
noncomputable def hd.o_171 : Params → Obj := fun P => (Obj.mk (Value.type "tuple") none (Data.seq #[] 0) #[])
noncomputable def hd.o_172 : Params → Obj := fun P => (Obj.mk Value.none none (Data.fields #[]) #[])
noncomputable def hd.o_173 : Params → Obj := fun P => (Obj.mk (Value.type "tuple") none (Data.seq #[(Value.str (Str.ofString "charset") 355), (Value.str (Str.ofString "octets") 356), (Value.str (Str.ofString "at") 357)] 0) #[])
noncomputable def hd.o_174 : Params → Obj := fun P => (Obj.mk (Value.type "tuple") none (Data.seq #[] 0) #[])
noncomputable def hd.o_175 : Params → Obj := fun P => (Obj.mk Value.none none (Data.func (FuncData.mk (Str.ofString "sign_at") (Str.ofString "sign_at") (fP 24) (.stmts (fB 24)) (fS 24) 0 [] Value.none Value.none Value.none Value.none none Value.none Value.none 0)) #[])
noncomputable def hd.o_176 : Params → Obj := fun P => (Obj.mk (Value.type "code") none (Data.fields #[(Value.str (Str.ofString "sign_at") 352), (Value.str (Str.ofString "sign_at") 353), (Value.str (Str.ofString "/claim/cut.py") 354), (Value.int 89 0), (Value.int 3 0), (Value.int 0 0), (Value.int 0 0), (Value.int 3 0), (Value.ref 127), (Value.bool Bool.true), (Value.int 181 0), (Value.ref 128), Value.none, (Value.ref 129), (Value.ref 130), (Value.ref 131), (Value.int 358 0), (Value.int 89 0), (Value.str (Str.ofString "/claim/cut.py") 359)]) #[])
noncomputable def hd.o_177 : Params → Obj := fun P => (Obj.mk (Value.type "function") none (Data.func (FuncData.mk (Str.ofString "sign_at") (Str.ofString "sign_at") (fP 24) (.stmts (fB 24)) (fS 24) 3 [] Value.none Value.none Value.none (Value.str (Str.ofString "postkeep.charsets") 297) none (Value.ref 132) Value.none 0)) #[])
noncomputable def hd.o_178 : Params → Obj := fun P => (Obj.mk (Value.type "tuple") none (Data.seq #[] 0) #[])
noncomputable def hd.o_179 : Params → Obj := fun P => (Obj.mk Value.none none (Data.fields #[]) #[])
noncomputable def hd.o_180 : Params → Obj := fun P => (Obj.mk (Value.type "tuple") none (Data.seq #[(Value.str (Str.ofString "charset") 364), (Value.str (Str.ofString "octets") 365), (Value.str (Str.ofString "signs") 366), (Value.str (Str.ofString "at") 367), (Value.str (Str.ofString "code") 368), (Value.str (Str.ofString "length") 369)] 0) #[])
noncomputable def hd.o_181 : Params → Obj := fun P => (Obj.mk (Value.type "tuple") none (Data.seq #[] 0) #[])
noncomputable def hd.o_182 : Params → Obj := fun P => (Obj.mk Value.none none (Data.func (FuncData.mk (Str.ofString "text_in") (Str.ofString "text_in") (fP 25) (.stmts (fB 25)) (fS 25) 0 [] Value.none Value.none Value.none Value.none none Value.none Value.none 0)) #[])
noncomputable def hd.o_183 : Params → Obj := fun P => (Obj.mk (Value.type "code") none (Data.fields #[(Value.str (Str.ofString "text_in") 361), (Value.str (Str.ofString "text_in") 362), (Value.str (Str.ofString "/claim/cut.py") 363), (Value.int 95 0), (Value.int 2 0), (Value.int 0 0), (Value.int 0 0), (Value.int 3 0), (Value.ref 134), (Value.bool Bool.true), (Value.int 181 0), (Value.ref 135), Value.none, (Value.ref 136), (Value.ref 137), (Value.ref 138), (Value.int 370 0), (Value.int 95 0), (Value.str (Str.ofString "/claim/cut.py") 371)]) #[])
noncomputable def hd.o_184 : Params → Obj := fun P => (Obj.mk (Value.type "function") none (Data.func (FuncData.mk (Str.ofString "text_in") (Str.ofString "text_in") (fP 25) (.stmts (fB 25)) (fS 25) 3 [] Value.none Value.none Value.none (Value.str (Str.ofString "postkeep.charsets") 297) none (Value.ref 139) Value.none 0)) #[])
noncomputable def hd.o_185 : Params → Obj := fun P => (Obj.mk (Value.type "tuple") none (Data.seq #[] 0) #[])
noncomputable def hd.o_186 : Params → Obj := fun P => (Obj.mk Value.none none (Data.fields #[]) #[])
noncomputable def hd.o_187 : Params → Obj := fun P => (Obj.mk (Value.type "tuple") none (Data.seq #[(Value.str (Str.ofString "code") 384)] 0) #[])
noncomputable def hd.o_188 : Params → Obj := fun P => (Obj.mk (Value.type "tuple") none (Data.seq #[] 0) #[])
noncomputable def hd.o_189 : Params → Obj := fun P => (Obj.mk Value.none none (Data.func (FuncData.mk (Str.ofString "hex_worth") (Str.ofString "hex_worth") (fP 30) (.stmts (fB 30)) (fS 30) 0 [] Value.none Value.none Value.none Value.none none Value.none Value.none 0)) #[])
noncomputable def hd.o_190 : Params → Obj := fun P => (Obj.mk (Value.type "code") none (Data.fields #[(Value.str (Str.ofString "hex_worth") 381), (Value.str (Str.ofString "hex_worth") 382), (Value.str (Str.ofString "/claim/cut.py") 383), (Value.int 108 0), (Value.int 1 0), (Value.int 0 0), (Value.int 0 0), (Value.int 3 0), (Value.ref 141), (Value.bool Bool.true), (Value.int 181 0), (Value.ref 142), Value.none, (Value.ref 143), (Value.ref 144), (Value.ref 145), (Value.int 385 0), (Value.int 108 0), (Value.str (Str.ofString "/claim/cut.py") 386)]) #[])
noncomputable def hd.o_191 : Params → Obj := fun P => (Obj.mk (Value.type "function") none (Data.func (FuncData.mk (Str.ofString "hex_worth") (Str.ofString "hex_worth") (fP 30) (.stmts (fB 30)) (fS 30) 3 [] Value.none Value.none Value.none (Value.str (Str.ofString "postkeep.quoted") 373) none (Value.ref 146) Value.none 0)) #[])
noncomputable def hd.o_192 : Params → Obj := fun P => (Obj.mk (Value.type "tuple") none (Data.seq #[] 0) #[])
noncomputable def hd.o_193 : Params → Obj := fun P => (Obj.mk Value.none none (Data.fields #[]) #[])
noncomputable def hd.o_194 : Params → Obj := fun P => (Obj.mk (Value.type "tuple") none (Data.seq #[(Value.str (Str.ofString "data") 391), (Value.str (Str.ofString "at") 392), (Value.str (Str.ofString "high") 393), (Value.str (Str.ofString "low") 394)] 0) #[])
noncomputable def hd.o_195 : Params → Obj := fun P => (Obj.mk (Value.type "tuple") none (Data.seq #[] 0) #[])
noncomputable def hd.o_196 : Params → Obj := fun P => (Obj.mk Value.none none (Data.func (FuncData.mk (Str.ofString "quoted_at") (Str.ofString "quoted_at") (fP 31) (.stmts (fB 31)) (fS 31) 0 [] Value.none Value.none Value.none Value.none none Value.none Value.none 0)) #[])
noncomputable def hd.o_197 : Params → Obj := fun P => (Obj.mk (Value.type "code") none (Data.fields #[(Value.str (Str.ofString "quoted_at") 388), (Value.str (Str.ofString "quoted_at") 389), (Value.str (Str.ofString "/claim/cut.py") 390), (Value.int 116 0), (Value.int 2 0), (Value.int 0 0), (Value.int 0 0), (Value.int 3 0), (Value.ref 148), (Value.bool Bool.true), (Value.int 181 0), (Value.ref 149), Value.none, (Value.ref 150), (Value.ref 151), (Value.ref 152), (Value.int 395 0), (Value.int 116 0), (Value.str (Str.ofString "/claim/cut.py") 396)]) #[])
noncomputable def hd.o_198 : Params → Obj := fun P => (Obj.mk (Value.type "function") none (Data.func (FuncData.mk (Str.ofString "quoted_at") (Str.ofString "quoted_at") (fP 31) (.stmts (fB 31)) (fS 31) 3 [] Value.none Value.none Value.none (Value.str (Str.ofString "postkeep.quoted") 373) none (Value.ref 153) Value.none 0)) #[])
noncomputable def hd.o_199 : Params → Obj := fun P => (Obj.mk (Value.type "tuple") none (Data.seq #[] 0) #[])
noncomputable def hd.o_200 : Params → Obj := fun P => (Obj.mk Value.none none (Data.fields #[]) #[])
noncomputable def hd.o_201 : Params → Obj := fun P => (Obj.mk (Value.type "tuple") none (Data.seq #[(Value.str (Str.ofString "line") 401), (Value.str (Str.ofString "codes") 402), (Value.str (Str.ofString "at") 403), (Value.str (Str.ofString "code") 404)] 0) #[])
noncomputable def hd.o_202 : Params → Obj := fun P => (Obj.mk (Value.type "tuple") none (Data.seq #[] 0) #[])
noncomputable def hd.o_203 : Params → Obj := fun P => (Obj.mk Value.none none (Data.func (FuncData.mk (Str.ofString "unquoted") (Str.ofString "unquoted") (fP 32) (.stmts (fB 32)) (fS 32) 0 [] Value.none Value.none Value.none Value.none none Value.none Value.none 0)) #[])
noncomputable def hd.o_204 : Params → Obj := fun P => (Obj.mk (Value.type "code") none (Data.fields #[(Value.str (Str.ofString "unquoted") 398), (Value.str (Str.ofString "unquoted") 399), (Value.str (Str.ofString "/claim/cut.py") 400), (Value.int 122 0), (Value.int 1 0), (Value.int 0 0), (Value.int 0 0), (Value.int 3 0), (Value.ref 155), (Value.bool Bool.true), (Value.int 181 0), (Value.ref 156), Value.none, (Value.ref 157), (Value.ref 158), (Value.ref 159), (Value.int 405 0), (Value.int 122 0), (Value.str (Str.ofString "/claim/cut.py") 406)]) #[])
noncomputable def hd.o_205 : Params → Obj := fun P => (Obj.mk (Value.type "function") none (Data.func (FuncData.mk (Str.ofString "unquoted") (Str.ofString "unquoted") (fP 32) (.stmts (fB 32)) (fS 32) 3 [] Value.none Value.none Value.none (Value.str (Str.ofString "postkeep.quoted") 373) none (Value.ref 160) Value.none 0)) #[])
noncomputable def hd.o_206 : Params → Obj := fun P => (Obj.mk (Value.type "tuple") none (Data.seq #[] 0) #[])
noncomputable def hd.o_207 : Params → Obj := fun P => (Obj.mk Value.none none (Data.fields #[]) #[])
noncomputable def hd.o_208 : Params → Obj := fun P => (Obj.mk Value.none none (Data.func (FuncData.mk (Str.ofString "word_q_decoded") (Str.ofString "word_q_decoded") (fP 33) (.stmts (fB 33)) (fS 33) 0 [] Value.none Value.none Value.none Value.none none Value.none Value.none 0)) #[])
noncomputable def hd.o_209 : Params → Obj := fun P => (Obj.mk (Value.type "code") none (Data.fields #[(Value.str (Str.ofString "word_q_decoded") 408), (Value.str (Str.ofString "word_q_decoded") 409), (Value.str (Str.ofString "/claim/cut.py") 410), (Value.int 134 0), (Value.int 1 0), (Value.int 0 0), (Value.int 0 0), (Value.int 3 0), (Value.ref 162), (Value.bool Bool.true), (Value.int 181 0), (Value.ref 163), Value.none, Value.none, Value.none, (Value.ref 164), (Value.int 411 0), (Value.int 134 0), (Value.str (Str.ofString "/claim/cut.py") 412)]) #[])
noncomputable def hd.o_210 : Params → Obj := fun P => (Obj.mk (Value.type "function") none (Data.func (FuncData.mk (Str.ofString "word_q_decoded") (Str.ofString "word_q_decoded") (fP 33) (.stmts (fB 33)) (fS 33) 3 [] Value.none Value.none Value.none (Value.str (Str.ofString "postkeep.quoted") 373) none (Value.ref 165) Value.none 0)) #[])
noncomputable def hd.o_211 : Params → Obj := fun P => (Obj.mk (Value.type "tuple") none (Data.seq #[(Value.int 9 416), (Value.int 10 417), (Value.int 13 418), (Value.int 32 419)] 0) #[])
noncomputable def hd.o_212 : Params → Obj := fun P => (Obj.mk (Value.type "tuple") none (Data.seq #[(Value.str (Str.ofString "Q") 425), (Value.str (Str.ofString "B") 426)] 0) #[])
noncomputable def hd.o_213 : Params → Obj := fun P => (Obj.mk (Value.type "dict") none (Data.dict #[(DictEntry.mk (PyData.keyHash P (Str.ofString "__name__")) (Value.str (Str.ofString "__name__") 165) (Value.str (Str.ofString "law_or0048_01") 488)), (DictEntry.mk (PyData.keyHash P (Str.ofString "__doc__")) (Value.str (Str.ofString "__doc__") 166) Value.none), (DictEntry.mk (PyData.keyHash P (Str.ofString "__package__")) (Value.str (Str.ofString "__package__") 167) Value.none), (DictEntry.mk (PyData.keyHash P (Str.ofString "__loader__")) (Value.str (Str.ofString "__loader__") 168) (Value.builtin "__main__.__loader__#opaque")), (DictEntry.mk (PyData.keyHash P (Str.ofString "__spec__")) (Value.str (Str.ofString "__spec__") 169) Value.none), (DictEntry.mk (PyData.keyHash P (Str.ofString "__annotations__")) (Value.str (Str.ofString "__annotations__") 170) (Value.ref 6)), (DictEntry.mk (PyData.keyHash P (Str.ofString "__builtins__")) (Value.str (Str.ofString "__builtins__") 171) (Value.ref 4)), (DictEntry.mk (PyData.keyHash P (Str.ofString "__file__")) (Value.str (Str.ofString "__file__") 173) (Value.str (Str.ofString "/claim/cut.py") 172)), (DictEntry.mk (PyData.keyHash P (Str.ofString "__cached__")) (Value.str (Str.ofString "__cached__") 174) Value.none), (DictEntry.mk (PyData.keyHash P (Str.ofString "_wall")) (Value.str (Str.ofString "_wall") 193) (Value.ref 21)), (DictEntry.mk (PyData.keyHash P (Str.ofString "SIGNS")) (Value.str (Str.ofString "SIGNS") 197) (Value.bytes #[65, 66, 67, 68, 69, 70, 71, 72, 73, 74, 75, 76, 77, 78, 79, 80, 81, 82, 83, 84, 85, 86, 87, 88, 89, 90, 97, 98, 99, 100, 101, 102, 103, 104, 105, 106, 107, 108, 109, 110, 111, 112, 113, 114, 115, 116, 117, 118, 119, 120, 121, 122, 48, 49, 50, 51, 52, 53, 54, 55, 56, 57, 43, 47] 196)), (DictEntry.mk (PyData.keyHash P (Str.ofString "PAD")) (Value.str (Str.ofString "PAD") 199) (Value.int 61 198)), (DictEntry.mk (PyData.keyHash P (Str.ofString "worth_table")) (Value.str (Str.ofString "worth_table") 205) (Value.ref 26)), (DictEntry.mk (PyData.keyHash P (Str.ofString "group_octets")) (Value.str (Str.ofString "group_octets") 211) (Value.ref 31)), (DictEntry.mk (PyData.keyHash P (Str.ofString "decoded")) (Value.str (Str.ofString "decoded") 223) (Value.ref 38)), (DictEntry.mk (PyData.keyHash P (Str.ofString "PostError")) (Value.str (Str.ofString "PostError") 265) (Value.ref 63)), (DictEntry.mk (PyData.keyHash P (Str.ofString "MimeFault")) (Value.str (Str.ofString "MimeFault") 281) (Value.ref 76)), (DictEntry.mk (PyData.keyHash P (Str.ofString "lower_code")) (Value.str (Str.ofString "lower_code") 290) (Value.ref 85)), (DictEntry.mk (PyData.keyHash P (Str.ofString "lower_text")) (Value.str (Str.ofString "lower_text") 296) (Value.ref 90)), (DictEntry.mk (PyData.keyHash P (Str.ofString "ASCII")) (Value.str (Str.ofString "ASCII") 300) (Value.str (Str.ofString "us-ascii") 299)), (DictEntry.mk (PyData.keyHash P (Str.ofString "LATIN")) (Value.str (Str.ofString "LATIN") 302) (Value.str (Str.ofString "iso-8859-1") 301)), (DictEntry.mk (PyData.keyHash P (Str.ofString "UTF8")) (Value.str (Str.ofString "UTF8") 304) (Value.str (Str.ofString "utf-8") 303)), (DictEntry.mk (PyData.keyHash P (Str.ofString "CHARSETS")) (Value.str (Str.ofString "CHARSETS") 305) (Value.ref 91)), (DictEntry.mk (PyData.keyHash P (Str.ofString "UNKNOWN_SIGN")) (Value.str (Str.ofString "UNKNOWN_SIGN") 308) (Value.str (Str.ofString "�") 307)), (DictEntry.mk (PyData.keyHash P (Str.ofString "charset_names")) (Value.str (Str.ofString "charset_names") 316) (Value.ref 98)), (DictEntry.mk (PyData.keyHash P (Str.ofString "charset_name")) (Value.str (Str.ofString "charset_name") 323) (Value.ref 105)), (DictEntry.mk (PyData.keyHash P (Str.ofString "need_charset")) (Value.str (Str.ofString "need_charset") 330) (Value.ref 112)), (DictEntry.mk (PyData.keyHash P (Str.ofString "follower_span")) (Value.str (Str.ofString "follower_span") 337) (Value.ref 119)), (DictEntry.mk (PyData.keyHash P (Str.ofString "utf8_sign")) (Value.str (Str.ofString "utf8_sign") 351) (Value.ref 126)), (DictEntry.mk (PyData.keyHash P (Str.ofString "sign_at")) (Value.str (Str.ofString "sign_at") 360) (Value.ref 133)), (DictEntry.mk (PyData.keyHash P (Str.ofString "text_in")) (Value.str (Str.ofString "text_in") 372) (Value.ref 140)), (DictEntry.mk (PyData.keyHash P (Str.ofString "EQUALS")) (Value.str (Str.ofString "EQUALS") 376) (Value.int 61 375)), (DictEntry.mk (PyData.keyHash P (Str.ofString "BLANK")) (Value.str (Str.ofString "BLANK") 378) (Value.int 32 377)), (DictEntry.mk (PyData.keyHash P (Str.ofString "UNDERLINE")) (Value.str (Str.ofString "UNDERLINE") 380) (Value.int 95 379)), (DictEntry.mk (PyData.keyHash P (Str.ofString "hex_worth")) (Value.str (Str.ofString "hex_worth") 387) (Value.ref 147)), (DictEntry.mk (PyData.keyHash P (Str.ofString "quoted_at")) (Value.str (Str.ofString "quoted_at") 397) (Value.ref 154)), (DictEntry.mk (PyData.keyHash P (Str.ofString "unquoted")) (Value.str (Str.ofString "unquoted") 407) (Value.ref 161)), (DictEntry.mk (PyData.keyHash P (Str.ofString "word_q_decoded")) (Value.str (Str.ofString "word_q_decoded") 413) (Value.ref 166)), (DictEntry.mk (PyData.keyHash P (Str.ofString "WHITE")) (Value.str (Str.ofString "WHITE") 420) (Value.ref 167)), (DictEntry.mk (PyData.keyHash P (Str.ofString "OPENING")) (Value.str (Str.ofString "OPENING") 422) (Value.int 40 421)), (DictEntry.mk (PyData.keyHash P (Str.ofString "CLOSING")) (Value.str (Str.ofString "CLOSING") 424) (Value.int 41 423)), (DictEntry.mk (PyData.keyHash P (Str.ofString "WAYS")) (Value.str (Str.ofString "WAYS") 427) (Value.ref 168)), (DictEntry.mk (PyData.keyHash P (Str.ofString "is_word_sign")) (Value.str (Str.ofString "is_word_sign") 434) (Value.ref 175)), (DictEntry.mk (PyData.keyHash P (Str.ofString "part_end")) (Value.str (Str.ofString "part_end") 443) (Value.ref 182)), (DictEntry.mk (PyData.keyHash P (Str.ofString "word_parts")) (Value.str (Str.ofString "word_parts") 449) (Value.ref 187)), (DictEntry.mk (PyData.keyHash P (Str.ofString "is_apart")) (Value.str (Str.ofString "is_apart") 458) (Value.ref 194)), (DictEntry.mk (PyData.keyHash P (Str.ofString "plain_text")) (Value.str (Str.ofString "plain_text") 464) (Value.ref 199)), (DictEntry.mk (PyData.keyHash P (Str.ofString "word_at")) (Value.str (Str.ofString "word_at") 476) (Value.ref 206)), (DictEntry.mk (PyData.keyHash P (Str.ofString "pieces_of")) (Value.str (Str.ofString "pieces_of") 487) (Value.ref 213)), (DictEntry.mk (PyData.keyHash P (Str.ofString "_law_pen")) (Value.str (Str.ofString "_law_pen") 495) (Value.ref 218)), (DictEntry.mk (PyData.keyHash P (Str.ofString "_law_draw")) (Value.str (Str.ofString "_law_draw") 508) (Value.ref 225)), (DictEntry.mk (PyData.keyHash P (Str.ofString "_law_pick")) (Value.str (Str.ofString "_law_pick") 516) (Value.ref 232)), (DictEntry.mk (PyData.keyHash P (Str.ofString "_law_row")) (Value.str (Str.ofString "_law_row") 522) (Value.ref 237)), (DictEntry.mk (PyData.keyHash P (Str.ofString "_law_is_sound")) (Value.str (Str.ofString "_law_is_sound") 528) (Value.ref 242)), (DictEntry.mk (PyData.keyHash P (Str.ofString "law")) (Value.str (Str.ofString "law") 543) (Value.ref 249))] 55) #[])
noncomputable def hd.o_214 : Params → Obj := fun P => (Obj.mk Value.none none (Data.fields #[(Value.int 1 0), (Value.int 0 0), (Value.ref 20), (Value.int 7 0), (Value.int 0 0), (Value.ref 25), (Value.int 9 0), (Value.int 0 0), (Value.ref 30), (Value.int 17 0), (Value.int 0 0), (Value.ref 37), (Value.int 31 0), (Value.int 0 0), (Value.ref 44), (Value.int 40 0), (Value.int 0 0), (Value.ref 72), (Value.int 43 0), (Value.int 0 0), (Value.ref 84), (Value.int 45 0), (Value.int 0 0), (Value.ref 89), (Value.int 53 0), (Value.int 0 0), (Value.ref 97), (Value.int 62 0), (Value.int 0 0), (Value.ref 104), (Value.int 64 0), (Value.int 0 0), (Value.ref 111), (Value.int 67 0), (Value.int 0 0), (Value.ref 118), (Value.int 75 0), (Value.int 0 0), (Value.ref 125), (Value.int 89 0), (Value.int 0 0), (Value.ref 132), (Value.int 95 0), (Value.int 0 0), (Value.ref 139), (Value.int 108 0), (Value.int 0 0), (Value.ref 146), (Value.int 116 0), (Value.int 0 0), (Value.ref 153), (Value.int 122 0), (Value.int 0 0), (Value.ref 160), (Value.int 134 0), (Value.int 0 0), (Value.ref 165), (Value.int 141 0), (Value.int 0 0), (Value.ref 174), (Value.int 143 0), (Value.int 0 0), (Value.ref 181), (Value.int 148 0), (Value.int 0 0), (Value.ref 186), (Value.int 161 0), (Value.int 0 0), (Value.ref 193), (Value.int 165 0), (Value.int 0 0), (Value.ref 198), (Value.int 167 0), (Value.int 0 0), (Value.ref 205), (Value.int 177 0), (Value.int 0 0), (Value.ref 212), (Value.int 192 0), (Value.int 0 0), (Value.ref 217), (Value.int 194 0), (Value.int 0 0), (Value.ref 224), (Value.int 211 0), (Value.int 0 0), (Value.ref 231), (Value.int 213 0), (Value.int 0 0), (Value.ref 236), (Value.int 216 0), (Value.int 0 0), (Value.ref 241), (Value.int 220 0), (Value.int 0 0), (Value.ref 248)]) #[])
noncomputable def hd.o_215 : Params → Obj := fun P => (Obj.mk (Value.type "tuple") none (Data.seq #[] 0) #[])
noncomputable def hd.o_216 : Params → Obj := fun P => (Obj.mk Value.none none (Data.fields #[]) #[])
noncomputable def hd.o_217 : Params → Obj := fun P => (Obj.mk (Value.type "tuple") none (Data.seq #[(Value.str (Str.ofString "code") 431)] 0) #[])
noncomputable def hd.o_218 : Params → Obj := fun P => (Obj.mk (Value.type "tuple") none (Data.seq #[] 0) #[])
noncomputable def hd.o_219 : Params → Obj := fun P => (Obj.mk Value.none none (Data.func (FuncData.mk (Str.ofString "is_word_sign") (Str.ofString "is_word_sign") (fP 39) (.stmts (fB 39)) (fS 39) 0 [] Value.none Value.none Value.none Value.none none Value.none Value.none 0)) #[])
noncomputable def hd.o_220 : Params → Obj := fun P => (Obj.mk (Value.type "code") none (Data.fields #[(Value.str (Str.ofString "is_word_sign") 428), (Value.str (Str.ofString "is_word_sign") 429), (Value.str (Str.ofString "/claim/cut.py") 430), (Value.int 141 0), (Value.int 1 0), (Value.int 0 0), (Value.int 0 0), (Value.int 3 0), (Value.ref 169), (Value.bool Bool.true), (Value.int 181 0), (Value.ref 170), Value.none, (Value.ref 171), (Value.ref 172), (Value.ref 173), (Value.int 432 0), (Value.int 141 0), (Value.str (Str.ofString "/claim/cut.py") 433)]) #[])
noncomputable def hd.o_221 : Params → Obj := fun P => (Obj.mk (Value.type "function") none (Data.func (FuncData.mk (Str.ofString "is_word_sign") (Str.ofString "is_word_sign") (fP 39) (.stmts (fB 39)) (fS 39) 3 [] Value.none Value.none Value.none (Value.str (Str.ofString "postkeep.words") 414) none (Value.ref 174) Value.none 0)) #[])
noncomputable def hd.o_222 : Params → Obj := fun P => (Obj.mk (Value.type "tuple") none (Data.seq #[] 0) #[])
noncomputable def hd.o_223 : Params → Obj := fun P => (Obj.mk Value.none none (Data.fields #[]) #[])
noncomputable def hd.o_224 : Params → Obj := fun P => (Obj.mk (Value.type "tuple") none (Data.seq #[(Value.str (Str.ofString "octets") 438), (Value.str (Str.ofString "at") 439), (Value.str (Str.ofString "here") 440)] 0) #[])
noncomputable def hd.o_225 : Params → Obj := fun P => (Obj.mk (Value.type "tuple") none (Data.seq #[] 0) #[])
noncomputable def hd.o_226 : Params → Obj := fun P => (Obj.mk Value.none none (Data.func (FuncData.mk (Str.ofString "part_end") (Str.ofString "part_end") (fP 40) (.stmts (fB 40)) (fS 40) 0 [] Value.none Value.none Value.none Value.none none Value.none Value.none 0)) #[])
noncomputable def hd.o_227 : Params → Obj := fun P => (Obj.mk (Value.type "code") none (Data.fields #[(Value.str (Str.ofString "part_end") 435), (Value.str (Str.ofString "part_end") 436), (Value.str (Str.ofString "/claim/cut.py") 437), (Value.int 143 0), (Value.int 2 0), (Value.int 0 0), (Value.int 0 0), (Value.int 3 0), (Value.ref 176), (Value.bool Bool.true), (Value.int 181 0), (Value.ref 177), Value.none, (Value.ref 178), (Value.ref 179), (Value.ref 180), (Value.int 441 0), (Value.int 143 0), (Value.str (Str.ofString "/claim/cut.py") 442)]) #[])
noncomputable def hd.o_228 : Params → Obj := fun P => (Obj.mk (Value.type "function") none (Data.func (FuncData.mk (Str.ofString "part_end") (Str.ofString "part_end") (fP 40) (.stmts (fB 40)) (fS 40) 3 [] Value.none Value.none Value.none (Value.str (Str.ofString "postkeep.words") 414) none (Value.ref 181) Value.none 0)) #[])
noncomputable def hd.o_229 : Params → Obj := fun P => (Obj.mk (Value.type "tuple") none (Data.seq #[] 0) #[])
noncomputable def hd.o_230 : Params → Obj := fun P => (Obj.mk Value.none none (Data.fields #[]) #[])
noncomputable def hd.o_231 : Params → Obj := fun P => (Obj.mk Value.none none (Data.func (FuncData.mk (Str.ofString "word_parts") (Str.ofString "word_parts") (fP 41) (.stmts (fB 41)) (fS 41) 0 [] Value.none Value.none Value.none Value.none none Value.none Value.none 0)) #[])
noncomputable def hd.o_232 : Params → Obj := fun P => (Obj.mk (Value.type "code") none (Data.fields #[(Value.str (Str.ofString "word_parts") 444), (Value.str (Str.ofString "word_parts") 445), (Value.str (Str.ofString "/claim/cut.py") 446), (Value.int 148 0), (Value.int 2 0), (Value.int 0 0), (Value.int 0 0), (Value.int 3 0), (Value.ref 183), (Value.bool Bool.true), (Value.int 181 0), (Value.ref 184), Value.none, Value.none, Value.none, (Value.ref 185), (Value.int 447 0), (Value.int 148 0), (Value.str (Str.ofString "/claim/cut.py") 448)]) #[])
noncomputable def hd.o_233 : Params → Obj := fun P => (Obj.mk (Value.type "function") none (Data.func (FuncData.mk (Str.ofString "word_parts") (Str.ofString "word_parts") (fP 41) (.stmts (fB 41)) (fS 41) 3 [] Value.none Value.none Value.none (Value.str (Str.ofString "postkeep.words") 414) none (Value.ref 186) Value.none 0)) #[])
noncomputable def hd.o_234 : Params → Obj := fun P => (Obj.mk (Value.type "tuple") none (Data.seq #[] 0) #[])
noncomputable def hd.o_235 : Params → Obj := fun P => (Obj.mk Value.none none (Data.fields #[]) #[])
noncomputable def hd.o_236 : Params → Obj := fun P => (Obj.mk (Value.type "tuple") none (Data.seq #[(Value.str (Str.ofString "octets") 453), (Value.str (Str.ofString "begin") 454), (Value.str (Str.ofString "end") 455)] 0) #[])
noncomputable def hd.o_237 : Params → Obj := fun P => (Obj.mk (Value.type "tuple") none (Data.seq #[] 0) #[])
noncomputable def hd.o_238 : Params → Obj := fun P => (Obj.mk Value.none none (Data.func (FuncData.mk (Str.ofString "is_apart") (Str.ofString "is_apart") (fP 42) (.stmts (fB 42)) (fS 42) 0 [] Value.none Value.none Value.none Value.none none Value.none Value.none 0)) #[])
noncomputable def hd.o_239 : Params → Obj := fun P => (Obj.mk (Value.type "code") none (Data.fields #[(Value.str (Str.ofString "is_apart") 450), (Value.str (Str.ofString "is_apart") 451), (Value.str (Str.ofString "/claim/cut.py") 452), (Value.int 161 0), (Value.int 3 0), (Value.int 0 0), (Value.int 0 0), (Value.int 3 0), (Value.ref 188), (Value.bool Bool.true), (Value.int 181 0), (Value.ref 189), Value.none, (Value.ref 190), (Value.ref 191), (Value.ref 192), (Value.int 456 0), (Value.int 161 0), (Value.str (Str.ofString "/claim/cut.py") 457)]) #[])
noncomputable def hd.o_240 : Params → Obj := fun P => (Obj.mk (Value.type "function") none (Data.func (FuncData.mk (Str.ofString "is_apart") (Str.ofString "is_apart") (fP 42) (.stmts (fB 42)) (fS 42) 3 [] Value.none Value.none Value.none (Value.str (Str.ofString "postkeep.words") 414) none (Value.ref 193) Value.none 0)) #[])
noncomputable def hd.o_241 : Params → Obj := fun P => (Obj.mk (Value.type "tuple") none (Data.seq #[] 0) #[])
noncomputable def hd.o_242 : Params → Obj := fun P => (Obj.mk Value.none none (Data.fields #[]) #[])
noncomputable def hd.o_243 : Params → Obj := fun P => (Obj.mk Value.none none (Data.func (FuncData.mk (Str.ofString "plain_text") (Str.ofString "plain_text") (fP 43) (.stmts (fB 43)) (fS 43) 0 [] Value.none Value.none Value.none Value.none none Value.none Value.none 0)) #[])
noncomputable def hd.o_244 : Params → Obj := fun P => (Obj.mk (Value.type "code") none (Data.fields #[(Value.str (Str.ofString "plain_text") 459), (Value.str (Str.ofString "plain_text") 460), (Value.str (Str.ofString "/claim/cut.py") 461), (Value.int 165 0), (Value.int 1 0), (Value.int 0 0), (Value.int 0 0), (Value.int 3 0), (Value.ref 195), (Value.bool Bool.true), (Value.int 181 0), (Value.ref 196), Value.none, Value.none, Value.none, (Value.ref 197), (Value.int 462 0), (Value.int 165 0), (Value.str (Str.ofString "/claim/cut.py") 463)]) #[])
noncomputable def hd.o_245 : Params → Obj := fun P => (Obj.mk (Value.type "function") none (Data.func (FuncData.mk (Str.ofString "plain_text") (Str.ofString "plain_text") (fP 43) (.stmts (fB 43)) (fS 43) 3 [] Value.none Value.none Value.none (Value.str (Str.ofString "postkeep.words") 414) none (Value.ref 198) Value.none 0)) #[])
noncomputable def hd.o_246 : Params → Obj := fun P => (Obj.mk (Value.type "tuple") none (Data.seq #[] 0) #[])
noncomputable def hd.o_247 : Params → Obj := fun P => (Obj.mk Value.none none (Data.fields #[]) #[])
noncomputable def hd.o_248 : Params → Obj := fun P => (Obj.mk (Value.type "tuple") none (Data.seq #[(Value.str (Str.ofString "octets") 468), (Value.str (Str.ofString "at") 469), (Value.str (Str.ofString "found") 470), (Value.str (Str.ofString "charset") 471), (Value.str (Str.ofString "way") 472), (Value.str (Str.ofString "row") 473)] 0) #[])
noncomputable def hd.o_249 : Params → Obj := fun P => (Obj.mk (Value.type "tuple") none (Data.seq #[] 0) #[])
noncomputable def hd.o_250 : Params → Obj := fun P => (Obj.mk Value.none none (Data.func (FuncData.mk (Str.ofString "word_at") (Str.ofString "word_at") (fP 44) (.stmts (fB 44)) (fS 44) 0 [] Value.none Value.none Value.none Value.none none Value.none Value.none 0)) #[])
noncomputable def hd.o_251 : Params → Obj := fun P => (Obj.mk (Value.type "code") none (Data.fields #[(Value.str (Str.ofString "word_at") 465), (Value.str (Str.ofString "word_at") 466), (Value.str (Str.ofString "/claim/cut.py") 467), (Value.int 167 0), (Value.int 2 0), (Value.int 0 0), (Value.int 0 0), (Value.int 3 0), (Value.ref 200), (Value.bool Bool.true), (Value.int 181 0), (Value.ref 201), Value.none, (Value.ref 202), (Value.ref 203), (Value.ref 204), (Value.int 474 0), (Value.int 167 0), (Value.str (Str.ofString "/claim/cut.py") 475)]) #[])
noncomputable def hd.o_252 : Params → Obj := fun P => (Obj.mk (Value.type "function") none (Data.func (FuncData.mk (Str.ofString "word_at") (Str.ofString "word_at") (fP 44) (.stmts (fB 44)) (fS 44) 3 [] Value.none Value.none Value.none (Value.str (Str.ofString "postkeep.words") 414) none (Value.ref 205) Value.none 0)) #[])
noncomputable def hd.o_253 : Params → Obj := fun P => (Obj.mk (Value.type "tuple") none (Data.seq #[] 0) #[])
noncomputable def hd.o_254 : Params → Obj := fun P => (Obj.mk Value.none none (Data.fields #[]) #[])
noncomputable def hd.o_255 : Params → Obj := fun P => (Obj.mk (Value.type "tuple") none (Data.seq #[(Value.str (Str.ofString "octets") 480), (Value.str (Str.ofString "pieces") 481), (Value.str (Str.ofString "begun") 482), (Value.str (Str.ofString "at") 483), (Value.str (Str.ofString "found") 484)] 0) #[])
noncomputable def hd.o_256 : Params → Obj := fun P => (Obj.mk (Value.type "tuple") none (Data.seq #[] 0) #[])
noncomputable def hd.o_257 : Params → Obj := fun P => (Obj.mk Value.none none (Data.func (FuncData.mk (Str.ofString "pieces_of") (Str.ofString "pieces_of") (fP 45) (.stmts (fB 45)) (fS 45) 0 [] Value.none Value.none Value.none Value.none none Value.none Value.none 0)) #[])
noncomputable def hd.o_258 : Params → Obj := fun P => (Obj.mk (Value.type "code") none (Data.fields #[(Value.str (Str.ofString "pieces_of") 477), (Value.str (Str.ofString "pieces_of") 478), (Value.str (Str.ofString "/claim/cut.py") 479), (Value.int 177 0), (Value.int 1 0), (Value.int 0 0), (Value.int 0 0), (Value.int 3 0), (Value.ref 207), (Value.bool Bool.true), (Value.int 181 0), (Value.ref 208), Value.none, (Value.ref 209), (Value.ref 210), (Value.ref 211), (Value.int 485 0), (Value.int 177 0), (Value.str (Str.ofString "/claim/cut.py") 486)]) #[])
noncomputable def hd.o_259 : Params → Obj := fun P => (Obj.mk (Value.type "function") none (Data.func (FuncData.mk (Str.ofString "pieces_of") (Str.ofString "pieces_of") (fP 45) (.stmts (fB 45)) (fS 45) 3 [] Value.none Value.none Value.none (Value.str (Str.ofString "postkeep.words") 414) none (Value.ref 212) Value.none 0)) #[])
noncomputable def hd.o_260 : Params → Obj := fun P => (Obj.mk (Value.type "tuple") none (Data.seq #[] 0) #[])
noncomputable def hd.o_261 : Params → Obj := fun P => (Obj.mk Value.none none (Data.fields #[]) #[])
noncomputable def hd.o_262 : Params → Obj := fun P => (Obj.mk Value.none none (Data.func (FuncData.mk (Str.ofString "_law_pen") (Str.ofString "_law_pen") (fP 47) (.stmts (fB 47)) (fS 47) 0 [] Value.none Value.none Value.none Value.none none Value.none Value.none 0)) #[])
noncomputable def hd.o_263 : Params → Obj := fun P => (Obj.mk (Value.type "code") none (Data.fields #[(Value.str (Str.ofString "_law_pen") 490), (Value.str (Str.ofString "_law_pen") 491), (Value.str (Str.ofString "/claim/cut.py") 492), (Value.int 192 0), (Value.int 1 0), (Value.int 0 0), (Value.int 0 0), (Value.int 3 0), (Value.ref 214), (Value.bool Bool.true), (Value.int 181 0), (Value.ref 215), Value.none, Value.none, Value.none, (Value.ref 216), (Value.int 493 0), (Value.int 192 0), (Value.str (Str.ofString "/claim/cut.py") 494)]) #[])
noncomputable def hd.o_264 : Params → Obj := fun P => (Obj.mk (Value.type "function") none (Data.func (FuncData.mk (Str.ofString "_law_pen") (Str.ofString "_law_pen") (fP 47) (.stmts (fB 47)) (fS 47) 3 [] Value.none Value.none Value.none (Value.str (Str.ofString "law_or0048_01") 488) none (Value.ref 217) Value.none 0)) #[])
noncomputable def hd.o_265 : Params → Obj := fun P => (Obj.mk (Value.type "tuple") none (Data.seq #[] 0) #[])
noncomputable def hd.o_266 : Params → Obj := fun P => (Obj.mk Value.none none (Data.fields #[]) #[])
noncomputable def hd.o_267 : Params → Obj := fun P => (Obj.mk (Value.type "tuple") none (Data.seq #[(Value.str (Str.ofString "pen") 499), (Value.str (Str.ofString "many") 500), (Value.str (Str.ofString "digit") 501), (Value.str (Str.ofString "spot") 502), (Value.str (Str.ofString "cell") 503), (Value.str (Str.ofString "great") 504), (Value.str (Str.ofString "stirred") 505)] 0) #[])
noncomputable def hd.o_268 : Params → Obj := fun P => (Obj.mk (Value.type "tuple") none (Data.seq #[] 0) #[])
noncomputable def hd.o_269 : Params → Obj := fun P => (Obj.mk Value.none none (Data.func (FuncData.mk (Str.ofString "_law_draw") (Str.ofString "_law_draw") (fP 48) (.stmts (fB 48)) (fS 48) 0 [] Value.none Value.none Value.none Value.none none Value.none Value.none 0)) #[])
noncomputable def hd.o_270 : Params → Obj := fun P => (Obj.mk (Value.type "code") none (Data.fields #[(Value.str (Str.ofString "_law_draw") 496), (Value.str (Str.ofString "_law_draw") 497), (Value.str (Str.ofString "/claim/cut.py") 498), (Value.int 194 0), (Value.int 2 0), (Value.int 0 0), (Value.int 0 0), (Value.int 3 0), (Value.ref 219), (Value.bool Bool.true), (Value.int 181 0), (Value.ref 220), Value.none, (Value.ref 221), (Value.ref 222), (Value.ref 223), (Value.int 506 0), (Value.int 194 0), (Value.str (Str.ofString "/claim/cut.py") 507)]) #[])
noncomputable def hd.o_271 : Params → Obj := fun P => (Obj.mk (Value.type "function") none (Data.func (FuncData.mk (Str.ofString "_law_draw") (Str.ofString "_law_draw") (fP 48) (.stmts (fB 48)) (fS 48) 3 [] Value.none Value.none Value.none (Value.str (Str.ofString "law_or0048_01") 488) none (Value.ref 224) Value.none 0)) #[])
noncomputable def hd.o_272 : Params → Obj := fun P => (Obj.mk (Value.type "tuple") none (Data.seq #[] 0) #[])
noncomputable def hd.o_273 : Params → Obj := fun P => (Obj.mk Value.none none (Data.fields #[]) #[])
noncomputable def hd.o_274 : Params → Obj := fun P => (Obj.mk (Value.type "tuple") none (Data.seq #[(Value.str (Str.ofString "pen") 512), (Value.str (Str.ofString "some") 513)] 0) #[])
noncomputable def hd.o_275 : Params → Obj := fun P => (Obj.mk (Value.type "tuple") none (Data.seq #[] 0) #[])
noncomputable def hd.o_276 : Params → Obj := fun P => (Obj.mk Value.none none (Data.func (FuncData.mk (Str.ofString "_law_pick") (Str.ofString "_law_pick") (fP 49) (.stmts (fB 49)) (fS 49) 0 [] Value.none Value.none Value.none Value.none none Value.none Value.none 0)) #[])
noncomputable def hd.o_277 : Params → Obj := fun P => (Obj.mk (Value.type "code") none (Data.fields #[(Value.str (Str.ofString "_law_pick") 509), (Value.str (Str.ofString "_law_pick") 510), (Value.str (Str.ofString "/claim/cut.py") 511), (Value.int 211 0), (Value.int 2 0), (Value.int 0 0), (Value.int 0 0), (Value.int 3 0), (Value.ref 226), (Value.bool Bool.true), (Value.int 181 0), (Value.ref 227), Value.none, (Value.ref 228), (Value.ref 229), (Value.ref 230), (Value.int 514 0), (Value.int 211 0), (Value.str (Str.ofString "/claim/cut.py") 515)]) #[])
noncomputable def hd.o_278 : Params → Obj := fun P => (Obj.mk (Value.type "function") none (Data.func (FuncData.mk (Str.ofString "_law_pick") (Str.ofString "_law_pick") (fP 49) (.stmts (fB 49)) (fS 49) 3 [] Value.none Value.none Value.none (Value.str (Str.ofString "law_or0048_01") 488) none (Value.ref 231) Value.none 0)) #[])
noncomputable def hd.o_279 : Params → Obj := fun P => (Obj.mk (Value.type "tuple") none (Data.seq #[] 0) #[])
noncomputable def hd.o_280 : Params → Obj := fun P => (Obj.mk Value.none none (Data.fields #[]) #[])
noncomputable def hd.o_281 : Params → Obj := fun P => (Obj.mk Value.none none (Data.func (FuncData.mk (Str.ofString "_law_row") (Str.ofString "_law_row") (fP 50) (.stmts (fB 50)) (fS 50) 0 [] Value.none Value.none Value.none Value.none none Value.none Value.none 0)) #[])
noncomputable def hd.o_282 : Params → Obj := fun P => (Obj.mk (Value.type "code") none (Data.fields #[(Value.str (Str.ofString "_law_row") 517), (Value.str (Str.ofString "_law_row") 518), (Value.str (Str.ofString "/claim/cut.py") 519), (Value.int 213 0), (Value.int 1 0), (Value.int 0 0), (Value.int 0 0), (Value.int 3 0), (Value.ref 233), (Value.bool Bool.true), (Value.int 181 0), (Value.ref 234), Value.none, Value.none, Value.none, (Value.ref 235), (Value.int 520 0), (Value.int 213 0), (Value.str (Str.ofString "/claim/cut.py") 521)]) #[])
noncomputable def hd.o_283 : Params → Obj := fun P => (Obj.mk (Value.type "function") none (Data.func (FuncData.mk (Str.ofString "_law_row") (Str.ofString "_law_row") (fP 50) (.stmts (fB 50)) (fS 50) 3 [] Value.none Value.none Value.none (Value.str (Str.ofString "law_or0048_01") 488) none (Value.ref 236) Value.none 0)) #[])
noncomputable def hd.o_284 : Params → Obj := fun P => (Obj.mk (Value.type "tuple") none (Data.seq #[] 0) #[])
noncomputable def hd.o_285 : Params → Obj := fun P => (Obj.mk Value.none none (Data.fields #[]) #[])
noncomputable def hd.o_286 : Params → Obj := fun P => (Obj.mk Value.none none (Data.func (FuncData.mk (Str.ofString "_law_is_sound") (Str.ofString "_law_is_sound") (fP 51) (.stmts (fB 51)) (fS 51) 0 [] Value.none Value.none Value.none Value.none none Value.none Value.none 0)) #[])
noncomputable def hd.o_287 : Params → Obj := fun P => (Obj.mk (Value.type "code") none (Data.fields #[(Value.str (Str.ofString "_law_is_sound") 523), (Value.str (Str.ofString "_law_is_sound") 524), (Value.str (Str.ofString "/claim/cut.py") 525), (Value.int 216 0), (Value.int 1 0), (Value.int 0 0), (Value.int 0 0), (Value.int 3 0), (Value.ref 238), (Value.bool Bool.true), (Value.int 181 0), (Value.ref 239), Value.none, Value.none, Value.none, (Value.ref 240), (Value.int 526 0), (Value.int 216 0), (Value.str (Str.ofString "/claim/cut.py") 527)]) #[])
noncomputable def hd.o_288 : Params → Obj := fun P => (Obj.mk (Value.type "function") none (Data.func (FuncData.mk (Str.ofString "_law_is_sound") (Str.ofString "_law_is_sound") (fP 51) (.stmts (fB 51)) (fS 51) 3 [] Value.none Value.none Value.none (Value.str (Str.ofString "law_or0048_01") 488) none (Value.ref 241) Value.none 0)) #[])
noncomputable def hd.o_289 : Params → Obj := fun P => (Obj.mk (Value.type "tuple") none (Data.seq #[] 0) #[])
noncomputable def hd.o_290 : Params → Obj := fun P => (Obj.mk Value.none none (Data.fields #[]) #[])
noncomputable def hd.o_291 : Params → Obj := fun P => (Obj.mk (Value.type "tuple") none (Data.seq #[(Value.str (Str.ofString "script") 532), (Value.str (Str.ofString "pen") 533), (Value.str (Str.ofString "first") 534), (Value.str (Str.ofString "second") 535), (Value.str (Str.ofString "between") 536), (Value.str (Str.ofString "one") 537), (Value.str (Str.ofString "two") 538), (Value.str (Str.ofString "due") 539), (Value.str (Str.ofString "whole") 540)] 0) #[])
noncomputable def hd.o_292 : Params → Obj := fun P => (Obj.mk (Value.type "tuple") none (Data.seq #[] 0) #[])
noncomputable def hd.o_293 : Params → Obj := fun P => (Obj.mk Value.none none (Data.func (FuncData.mk (Str.ofString "law") (Str.ofString "law") (fP 52) (.stmts (fB 52)) (fS 52) 0 [] Value.none Value.none Value.none Value.none none Value.none Value.none 0)) #[])
noncomputable def hd.o_294 : Params → Obj := fun P => (Obj.mk (Value.type "code") none (Data.fields #[(Value.str (Str.ofString "law") 529), (Value.str (Str.ofString "law") 530), (Value.str (Str.ofString "/claim/cut.py") 531), (Value.int 220 0), (Value.int 1 0), (Value.int 0 0), (Value.int 0 0), (Value.int 3 0), (Value.ref 243), (Value.bool Bool.true), (Value.int 181 0), (Value.ref 244), Value.none, (Value.ref 245), (Value.ref 246), (Value.ref 247), (Value.int 541 0), (Value.int 220 0), (Value.str (Str.ofString "/claim/cut.py") 542)]) #[])
noncomputable def hd.o_295 : Params → Obj := fun P => (Obj.mk (Value.type "function") none (Data.func (FuncData.mk (Str.ofString "law") (Str.ofString "law") (fP 52) (.stmts (fB 52)) (fS 52) 3 [] Value.none Value.none Value.none (Value.str (Str.ofString "law_or0048_01") 488) none (Value.ref 248) Value.none 0)) #[])
noncomputable def hd.tree_295 : Params → BT := fun P => (.node (boot_o_0 P) (.node (boot_o_1 P) (.node (hd.o_213 P) (.node (boot_o_7 P) (.node (hd.o_51 P) (.node (hd.o_67 P) (.node (hd.o_108 P) (.node (hd.o_171 P) .nil .nil) (.node (hd.o_237 P) .nil .nil)) (.node (hd.o_137 P) (.node (hd.o_203 P) .nil .nil) (.node (hd.o_269 P) .nil .nil))) (.node (hd.o_86 P) (.node (hd.o_121 P) (.node (hd.o_187 P) .nil .nil) (.node (hd.o_253 P) .nil .nil)) (.node (hd.o_155 P) (.node (hd.o_221 P) .nil .nil) (.node (hd.o_285 P) .nil .nil)))) (.node (hd.o_59 P) (.node (hd.o_78 P) (.node (hd.o_113 P) (.node (hd.o_179 P) .nil .nil) (.node (hd.o_245 P) .nil .nil)) (.node (hd.o_147 P) (.node (hd.o_211 P) .nil .nil) (.node (hd.o_277 P) .nil .nil))) (.node (hd.o_94 P) (.node (hd.o_129 P) (.node (hd.o_195 P) .nil .nil) (.node (hd.o_261 P) .nil .nil)) (.node (hd.o_163 P) (.node (hd.o_229 P) .nil .nil) (.node (hd.o_293 P) .nil .nil))))) (.node (hd.o_43 P) (.node (hd.o_55 P) (.node (hd.o_71 P) (.node (hd.o_109 P) (.node (hd.o_175 P) .nil .nil) (.node (hd.o_241 P) .nil .nil)) (.node (hd.o_143 P) (.node (hd.o_207 P) .nil .nil) (.node (hd.o_273 P) .nil .nil))) (.node (hd.o_90 P) (.node (hd.o_125 P) (.node (hd.o_191 P) .nil .nil) (.node (hd.o_257 P) .nil .nil)) (.node (hd.o_159 P) (.node (hd.o_225 P) .nil .nil) (.node (hd.o_289 P) .nil .nil)))) (.node (hd.o_63 P) (.node (hd.o_82 P) (.node (hd.o_117 P) (.node (hd.o_183 P) .nil .nil) (.node (hd.o_249 P) .nil .nil)) (.node (hd.o_151 P) (.node (hd.o_217 P) .nil .nil) (.node (hd.o_281 P) .nil .nil))) (.node (hd.o_98 P) (.node (hd.o_133 P) (.node (hd.o_199 P) .nil .nil) (.node (hd.o_265 P) .nil .nil)) (.node (hd.o_167 P) (.node (hd.o_233 P) .nil .nil) .nil))))) (.node (boot_o_5 P) (.node (boot_o_9 P) (.node (hd.o_53 P) (.node (hd.o_69 P) (.node (hd.o_104 P) (.node (hd.o_173 P) .nil .nil) (.node (hd.o_239 P) .nil .nil)) (.node (hd.o_139 P) (.node (hd.o_205 P) .nil .nil) (.node (hd.o_271 P) .nil .nil))) (.node (hd.o_88 P) (.node (hd.o_123 P) (.node (hd.o_189 P) .nil .nil) (.node (hd.o_255 P) .nil .nil)) (.node (hd.o_157 P) (.node (hd.o_223 P) .nil .nil) (.node (hd.o_287 P) .nil .nil)))) (.node (hd.o_61 P) (.node (hd.o_80 P) (.node (hd.o_115 P) (.node (hd.o_181 P) .nil .nil) (.node (hd.o_247 P) .nil .nil)) (.node (hd.o_149 P) (.node (hd.o_215 P) .nil .nil) (.node (hd.o_279 P) .nil .nil))) (.node (hd.o_96 P) (.node (hd.o_131 P) (.node (hd.o_197 P) .nil .nil) (.node (hd.o_263 P) .nil .nil)) (.node (hd.o_165 P) (.node (hd.o_231 P) .nil .nil) (.node (hd.o_295 P) .nil .nil))))) (.node (hd.o_45 P) (.node (hd.o_57 P) (.node (hd.o_73 P) (.node (hd.o_111 P) (.node (hd.o_177 P) .nil .nil) (.node (hd.o_243 P) .nil .nil)) (.node (hd.o_145 P) (.node (hd.o_209 P) .nil .nil) (.node (hd.o_275 P) .nil .nil))) (.node (hd.o_92 P) (.node (hd.o_127 P) (.node (hd.o_193 P) .nil .nil) (.node (hd.o_259 P) .nil .nil)) (.node (hd.o_161 P) (.node (hd.o_227 P) .nil .nil) (.node (hd.o_291 P) .nil .nil)))) (.node (hd.o_65 P) (.node (hd.o_84 P) (.node (hd.o_119 P) (.node (hd.o_185 P) .nil .nil) (.node (hd.o_251 P) .nil .nil)) (.node (hd.o_153 P) (.node (hd.o_219 P) .nil .nil) (.node (hd.o_283 P) .nil .nil))) (.node (hd.o_100 P) (.node (hd.o_135 P) (.node (hd.o_201 P) .nil .nil) (.node (hd.o_267 P) .nil .nil)) (.node (hd.o_169 P) (.node (hd.o_235 P) .nil .nil) .nil)))))) (.node (hd.o_75 P) (.node (boot_o_4 P) (.node (boot_o_8 P) (.node (hd.o_52 P) (.node (hd.o_68 P) (.node (hd.o_103 P) (.node (hd.o_172 P) .nil .nil) (.node (hd.o_238 P) .nil .nil)) (.node (hd.o_138 P) (.node (hd.o_204 P) .nil .nil) (.node (hd.o_270 P) .nil .nil))) (.node (hd.o_87 P) (.node (hd.o_122 P) (.node (hd.o_188 P) .nil .nil) (.node (hd.o_254 P) .nil .nil)) (.node (hd.o_156 P) (.node (hd.o_222 P) .nil .nil) (.node (hd.o_286 P) .nil .nil)))) (.node (hd.o_60 P) (.node (hd.o_79 P) (.node (hd.o_114 P) (.node (hd.o_180 P) .nil .nil) (.node (hd.o_246 P) .nil .nil)) (.node (hd.o_148 P) (.node (hd.o_212 P) .nil .nil) (.node (hd.o_278 P) .nil .nil))) (.node (hd.o_95 P) (.node (hd.o_130 P) (.node (hd.o_196 P) .nil .nil) (.node (hd.o_262 P) .nil .nil)) (.node (hd.o_164 P) (.node (hd.o_230 P) .nil .nil) (.node (hd.o_294 P) .nil .nil))))) (.node (hd.o_214 P) (.node (hd.o_56 P) (.node (hd.o_72 P) (.node (hd.o_110 P) (.node (hd.o_176 P) .nil .nil) (.node (hd.o_242 P) .nil .nil)) (.node (hd.o_144 P) (.node (hd.o_208 P) .nil .nil) (.node (hd.o_274 P) .nil .nil))) (.node (hd.o_91 P) (.node (hd.o_126 P) (.node (hd.o_192 P) .nil .nil) (.node (hd.o_258 P) .nil .nil)) (.node (hd.o_160 P) (.node (hd.o_226 P) .nil .nil) (.node (hd.o_290 P) .nil .nil)))) (.node (hd.o_64 P) (.node (hd.o_83 P) (.node (hd.o_118 P) (.node (hd.o_184 P) .nil .nil) (.node (hd.o_250 P) .nil .nil)) (.node (hd.o_152 P) (.node (hd.o_218 P) .nil .nil) (.node (hd.o_282 P) .nil .nil))) (.node (hd.o_99 P) (.node (hd.o_134 P) (.node (hd.o_200 P) .nil .nil) (.node (hd.o_266 P) .nil .nil)) (.node (hd.o_168 P) (.node (hd.o_234 P) .nil .nil) .nil))))) (.node (boot_o_6 P) (.node (boot_o_10 P) (.node (hd.o_54 P) (.node (hd.o_70 P) (.node (hd.o_105 P) (.node (hd.o_174 P) .nil .nil) (.node (hd.o_240 P) .nil .nil)) (.node (hd.o_140 P) (.node (hd.o_206 P) .nil .nil) (.node (hd.o_272 P) .nil .nil))) (.node (hd.o_89 P) (.node (hd.o_124 P) (.node (hd.o_190 P) .nil .nil) (.node (hd.o_256 P) .nil .nil)) (.node (hd.o_158 P) (.node (hd.o_224 P) .nil .nil) (.node (hd.o_288 P) .nil .nil)))) (.node (hd.o_62 P) (.node (hd.o_81 P) (.node (hd.o_116 P) (.node (hd.o_182 P) .nil .nil) (.node (hd.o_248 P) .nil .nil)) (.node (hd.o_150 P) (.node (hd.o_216 P) .nil .nil) (.node (hd.o_280 P) .nil .nil))) (.node (hd.o_97 P) (.node (hd.o_132 P) (.node (hd.o_198 P) .nil .nil) (.node (hd.o_264 P) .nil .nil)) (.node (hd.o_166 P) (.node (hd.o_232 P) .nil .nil) .nil)))) (.node (hd.o_46 P) (.node (hd.o_58 P) (.node (hd.o_74 P) (.node (hd.o_112 P) (.node (hd.o_178 P) .nil .nil) (.node (hd.o_244 P) .nil .nil)) (.node (hd.o_146 P) (.node (hd.o_210 P) .nil .nil) (.node (hd.o_276 P) .nil .nil))) (.node (hd.o_93 P) (.node (hd.o_128 P) (.node (hd.o_194 P) .nil .nil) (.node (hd.o_260 P) .nil .nil)) (.node (hd.o_162 P) (.node (hd.o_228 P) .nil .nil) (.node (hd.o_292 P) .nil .nil)))) (.node (hd.o_66 P) (.node (hd.o_85 P) (.node (hd.o_120 P) (.node (hd.o_186 P) .nil .nil) (.node (hd.o_252 P) .nil .nil)) (.node (hd.o_154 P) (.node (hd.o_220 P) .nil .nil) (.node (hd.o_284 P) .nil .nil))) (.node (hd.o_101 P) (.node (hd.o_136 P) (.node (hd.o_202 P) .nil .nil) (.node (hd.o_268 P) .nil .nil)) (.node (hd.o_170 P) (.node (hd.o_236 P) .nil .nil) .nil)))))))
noncomputable def hd.tree_212 : Params → BT := fun P => (.node (boot_o_0 P) (.node (boot_o_1 P) (.node (hd.o_141 P) (.node (boot_o_7 P) (.node (hd.o_51 P) (.node (hd.o_67 P) (.node (hd.o_108 P) (.node (hd.o_171 P) .nil .nil) .nil) (.node (hd.o_137 P) (.node (hd.o_203 P) .nil .nil) .nil)) (.node (hd.o_86 P) (.node (hd.o_121 P) (.node (hd.o_187 P) .nil .nil) .nil) (.node (hd.o_155 P) .nil .nil))) (.node (hd.o_59 P) (.node (hd.o_78 P) (.node (hd.o_113 P) (.node (hd.o_179 P) .nil .nil) .nil) (.node (hd.o_147 P) (.node (hd.o_211 P) .nil .nil) .nil)) (.node (hd.o_94 P) (.node (hd.o_129 P) (.node (hd.o_195 P) .nil .nil) .nil) (.node (hd.o_163 P) .nil .nil)))) (.node (hd.o_43 P) (.node (hd.o_55 P) (.node (hd.o_71 P) (.node (hd.o_109 P) (.node (hd.o_175 P) .nil .nil) .nil) (.node (hd.o_143 P) (.node (hd.o_207 P) .nil .nil) .nil)) (.node (hd.o_90 P) (.node (hd.o_125 P) (.node (hd.o_191 P) .nil .nil) .nil) (.node (hd.o_159 P) .nil .nil))) (.node (hd.o_63 P) (.node (hd.o_82 P) (.node (hd.o_117 P) (.node (hd.o_183 P) .nil .nil) .nil) (.node (hd.o_151 P) .nil .nil)) (.node (hd.o_98 P) (.node (hd.o_133 P) (.node (hd.o_199 P) .nil .nil) .nil) (.node (hd.o_167 P) .nil .nil))))) (.node (boot_o_5 P) (.node (boot_o_9 P) (.node (hd.o_53 P) (.node (hd.o_69 P) (.node (hd.o_104 P) (.node (hd.o_173 P) .nil .nil) .nil) (.node (hd.o_139 P) (.node (hd.o_205 P) .nil .nil) .nil)) (.node (hd.o_88 P) (.node (hd.o_123 P) (.node (hd.o_189 P) .nil .nil) .nil) (.node (hd.o_157 P) .nil .nil))) (.node (hd.o_61 P) (.node (hd.o_80 P) (.node (hd.o_115 P) (.node (hd.o_181 P) .nil .nil) .nil) (.node (hd.o_149 P) .nil .nil)) (.node (hd.o_96 P) (.node (hd.o_131 P) (.node (hd.o_197 P) .nil .nil) .nil) (.node (hd.o_165 P) .nil .nil)))) (.node (hd.o_45 P) (.node (hd.o_57 P) (.node (hd.o_73 P) (.node (hd.o_111 P) (.node (hd.o_177 P) .nil .nil) .nil) (.node (hd.o_145 P) (.node (hd.o_209 P) .nil .nil) .nil)) (.node (hd.o_92 P) (.node (hd.o_127 P) (.node (hd.o_193 P) .nil .nil) .nil) (.node (hd.o_161 P) .nil .nil))) (.node (hd.o_65 P) (.node (hd.o_84 P) (.node (hd.o_119 P) (.node (hd.o_185 P) .nil .nil) .nil) (.node (hd.o_153 P) .nil .nil)) (.node (hd.o_100 P) (.node (hd.o_135 P) (.node (hd.o_201 P) .nil .nil) .nil) (.node (hd.o_169 P) .nil .nil)))))) (.node (hd.o_75 P) (.node (boot_o_4 P) (.node (boot_o_8 P) (.node (hd.o_52 P) (.node (hd.o_68 P) (.node (hd.o_103 P) (.node (hd.o_172 P) .nil .nil) .nil) (.node (hd.o_138 P) (.node (hd.o_204 P) .nil .nil) .nil)) (.node (hd.o_87 P) (.node (hd.o_122 P) (.node (hd.o_188 P) .nil .nil) .nil) (.node (hd.o_156 P) .nil .nil))) (.node (hd.o_60 P) (.node (hd.o_79 P) (.node (hd.o_114 P) (.node (hd.o_180 P) .nil .nil) .nil) (.node (hd.o_148 P) (.node (hd.o_212 P) .nil .nil) .nil)) (.node (hd.o_95 P) (.node (hd.o_130 P) (.node (hd.o_196 P) .nil .nil) .nil) (.node (hd.o_164 P) .nil .nil)))) (.node (hd.o_142 P) (.node (hd.o_56 P) (.node (hd.o_72 P) (.node (hd.o_110 P) (.node (hd.o_176 P) .nil .nil) .nil) (.node (hd.o_144 P) (.node (hd.o_208 P) .nil .nil) .nil)) (.node (hd.o_91 P) (.node (hd.o_126 P) (.node (hd.o_192 P) .nil .nil) .nil) (.node (hd.o_160 P) .nil .nil))) (.node (hd.o_64 P) (.node (hd.o_83 P) (.node (hd.o_118 P) (.node (hd.o_184 P) .nil .nil) .nil) (.node (hd.o_152 P) .nil .nil)) (.node (hd.o_99 P) (.node (hd.o_134 P) (.node (hd.o_200 P) .nil .nil) .nil) (.node (hd.o_168 P) .nil .nil))))) (.node (boot_o_6 P) (.node (boot_o_10 P) (.node (hd.o_54 P) (.node (hd.o_70 P) (.node (hd.o_105 P) (.node (hd.o_174 P) .nil .nil) .nil) (.node (hd.o_140 P) (.node (hd.o_206 P) .nil .nil) .nil)) (.node (hd.o_89 P) (.node (hd.o_124 P) (.node (hd.o_190 P) .nil .nil) .nil) (.node (hd.o_158 P) .nil .nil))) (.node (hd.o_62 P) (.node (hd.o_81 P) (.node (hd.o_116 P) (.node (hd.o_182 P) .nil .nil) .nil) (.node (hd.o_150 P) .nil .nil)) (.node (hd.o_97 P) (.node (hd.o_132 P) (.node (hd.o_198 P) .nil .nil) .nil) (.node (hd.o_166 P) .nil .nil)))) (.node (hd.o_46 P) (.node (hd.o_58 P) (.node (hd.o_74 P) (.node (hd.o_112 P) (.node (hd.o_178 P) .nil .nil) .nil) (.node (hd.o_146 P) (.node (hd.o_210 P) .nil .nil) .nil)) (.node (hd.o_93 P) (.node (hd.o_128 P) (.node (hd.o_194 P) .nil .nil) .nil) (.node (hd.o_162 P) .nil .nil))) (.node (hd.o_66 P) (.node (hd.o_85 P) (.node (hd.o_120 P) (.node (hd.o_186 P) .nil .nil) .nil) (.node (hd.o_154 P) .nil .nil)) (.node (hd.o_101 P) (.node (hd.o_136 P) (.node (hd.o_202 P) .nil .nil) .nil) (.node (hd.o_170 P) .nil .nil)))))))
noncomputable def hd.tree_105 : Params → BT := fun P => (.node (boot_o_0 P) (.node (boot_o_1 P) (.node (hd.o_76 P) (.node (boot_o_7 P) (.node (hd.o_51 P) (.node (hd.o_67 P) (.node (hd.o_102 P) .nil .nil) .nil) (.node (hd.o_86 P) .nil .nil)) (.node (hd.o_59 P) (.node (hd.o_78 P) .nil .nil) (.node (hd.o_94 P) .nil .nil))) (.node (hd.o_43 P) (.node (hd.o_55 P) (.node (hd.o_71 P) .nil .nil) (.node (hd.o_90 P) .nil .nil)) (.node (hd.o_63 P) (.node (hd.o_82 P) .nil .nil) (.node (hd.o_98 P) .nil .nil)))) (.node (boot_o_5 P) (.node (boot_o_9 P) (.node (hd.o_53 P) (.node (hd.o_69 P) (.node (hd.o_104 P) .nil .nil) .nil) (.node (hd.o_88 P) .nil .nil)) (.node (hd.o_61 P) (.node (hd.o_80 P) .nil .nil) (.node (hd.o_96 P) .nil .nil))) (.node (hd.o_45 P) (.node (hd.o_57 P) (.node (hd.o_73 P) .nil .nil) (.node (hd.o_92 P) .nil .nil)) (.node (hd.o_65 P) (.node (hd.o_84 P) .nil .nil) (.node (hd.o_100 P) .nil .nil))))) (.node (hd.o_75 P) (.node (boot_o_4 P) (.node (boot_o_8 P) (.node (hd.o_52 P) (.node (hd.o_68 P) (.node (hd.o_103 P) .nil .nil) .nil) (.node (hd.o_87 P) .nil .nil)) (.node (hd.o_60 P) (.node (hd.o_79 P) .nil .nil) (.node (hd.o_95 P) .nil .nil))) (.node (hd.o_77 P) (.node (hd.o_56 P) (.node (hd.o_72 P) .nil .nil) (.node (hd.o_91 P) .nil .nil)) (.node (hd.o_64 P) (.node (hd.o_83 P) .nil .nil) (.node (hd.o_99 P) .nil .nil)))) (.node (boot_o_6 P) (.node (boot_o_10 P) (.node (hd.o_54 P) (.node (hd.o_70 P) (.node (hd.o_105 P) .nil .nil) .nil) (.node (hd.o_89 P) .nil .nil)) (.node (hd.o_62 P) (.node (hd.o_81 P) .nil .nil) (.node (hd.o_97 P) .nil .nil))) (.node (hd.o_46 P) (.node (hd.o_58 P) (.node (hd.o_74 P) .nil .nil) (.node (hd.o_93 P) .nil .nil)) (.node (hd.o_66 P) (.node (hd.o_85 P) .nil .nil) (.node (hd.o_101 P) .nil .nil))))))
noncomputable def hd.tree_140 : Params → BT := fun P => (.node (boot_o_0 P) (.node (boot_o_1 P) (.node (hd.o_106 P) (.node (boot_o_7 P) (.node (hd.o_51 P) (.node (hd.o_67 P) (.node (hd.o_108 P) .nil .nil) (.node (hd.o_137 P) .nil .nil)) (.node (hd.o_86 P) (.node (hd.o_121 P) .nil .nil) .nil)) (.node (hd.o_59 P) (.node (hd.o_78 P) (.node (hd.o_113 P) .nil .nil) .nil) (.node (hd.o_94 P) (.node (hd.o_129 P) .nil .nil) .nil))) (.node (hd.o_43 P) (.node (hd.o_55 P) (.node (hd.o_71 P) (.node (hd.o_109 P) .nil .nil) .nil) (.node (hd.o_90 P) (.node (hd.o_125 P) .nil .nil) .nil)) (.node (hd.o_63 P) (.node (hd.o_82 P) (.node (hd.o_117 P) .nil .nil) .nil) (.node (hd.o_98 P) (.node (hd.o_133 P) .nil .nil) .nil)))) (.node (boot_o_5 P) (.node (boot_o_9 P) (.node (hd.o_53 P) (.node (hd.o_69 P) (.node (hd.o_104 P) .nil .nil) (.node (hd.o_139 P) .nil .nil)) (.node (hd.o_88 P) (.node (hd.o_123 P) .nil .nil) .nil)) (.node (hd.o_61 P) (.node (hd.o_80 P) (.node (hd.o_115 P) .nil .nil) .nil) (.node (hd.o_96 P) (.node (hd.o_131 P) .nil .nil) .nil))) (.node (hd.o_45 P) (.node (hd.o_57 P) (.node (hd.o_73 P) (.node (hd.o_111 P) .nil .nil) .nil) (.node (hd.o_92 P) (.node (hd.o_127 P) .nil .nil) .nil)) (.node (hd.o_65 P) (.node (hd.o_84 P) (.node (hd.o_119 P) .nil .nil) .nil) (.node (hd.o_100 P) (.node (hd.o_135 P) .nil .nil) .nil))))) (.node (hd.o_75 P) (.node (boot_o_4 P) (.node (boot_o_8 P) (.node (hd.o_52 P) (.node (hd.o_68 P) (.node (hd.o_103 P) .nil .nil) (.node (hd.o_138 P) .nil .nil)) (.node (hd.o_87 P) (.node (hd.o_122 P) .nil .nil) .nil)) (.node (hd.o_60 P) (.node (hd.o_79 P) (.node (hd.o_114 P) .nil .nil) .nil) (.node (hd.o_95 P) (.node (hd.o_130 P) .nil .nil) .nil))) (.node (hd.o_107 P) (.node (hd.o_56 P) (.node (hd.o_72 P) (.node (hd.o_110 P) .nil .nil) .nil) (.node (hd.o_91 P) (.node (hd.o_126 P) .nil .nil) .nil)) (.node (hd.o_64 P) (.node (hd.o_83 P) (.node (hd.o_118 P) .nil .nil) .nil) (.node (hd.o_99 P) (.node (hd.o_134 P) .nil .nil) .nil)))) (.node (boot_o_6 P) (.node (boot_o_10 P) (.node (hd.o_54 P) (.node (hd.o_70 P) (.node (hd.o_105 P) .nil .nil) (.node (hd.o_140 P) .nil .nil)) (.node (hd.o_89 P) (.node (hd.o_124 P) .nil .nil) .nil)) (.node (hd.o_62 P) (.node (hd.o_81 P) (.node (hd.o_116 P) .nil .nil) .nil) (.node (hd.o_97 P) (.node (hd.o_132 P) .nil .nil) .nil))) (.node (hd.o_46 P) (.node (hd.o_58 P) (.node (hd.o_74 P) (.node (hd.o_112 P) .nil .nil) .nil) (.node (hd.o_93 P) (.node (hd.o_128 P) .nil .nil) .nil)) (.node (hd.o_66 P) (.node (hd.o_85 P) (.node (hd.o_120 P) .nil .nil) .nil) (.node (hd.o_101 P) (.node (hd.o_136 P) .nil .nil) .nil))))))
noncomputable def hd.tree_74 : Params → BT := fun P => (.node (boot_o_0 P) (.node (boot_o_1 P) (.node (hd.o_49 P) (.node (boot_o_7 P) (.node (hd.o_51 P) (.node (hd.o_67 P) .nil .nil) .nil) (.node (hd.o_59 P) .nil .nil)) (.node (hd.o_43 P) (.node (hd.o_55 P) (.node (hd.o_71 P) .nil .nil) .nil) (.node (hd.o_63 P) .nil .nil))) (.node (boot_o_5 P) (.node (boot_o_9 P) (.node (hd.o_53 P) (.node (hd.o_69 P) .nil .nil) .nil) (.node (hd.o_61 P) .nil .nil)) (.node (hd.o_45 P) (.node (hd.o_57 P) (.node (hd.o_73 P) .nil .nil) .nil) (.node (hd.o_65 P) .nil .nil)))) (.node (boot_o_2 P) (.node (boot_o_4 P) (.node (boot_o_8 P) (.node (hd.o_52 P) (.node (hd.o_68 P) .nil .nil) .nil) (.node (hd.o_60 P) .nil .nil)) (.node (hd.o_50 P) (.node (hd.o_56 P) (.node (hd.o_72 P) .nil .nil) .nil) (.node (hd.o_64 P) .nil .nil))) (.node (boot_o_6 P) (.node (boot_o_10 P) (.node (hd.o_54 P) (.node (hd.o_70 P) .nil .nil) .nil) (.node (hd.o_62 P) .nil .nil)) (.node (hd.o_46 P) (.node (hd.o_58 P) (.node (hd.o_74 P) .nil .nil) .nil) (.node (hd.o_66 P) .nil .nil)))))
noncomputable def hd.heap_46 : Params → Heap := fun P => Heap.mk #[boot_o_0 P, boot_o_1 P, boot_o_2 P, boot_o_3 P, boot_o_4 P, boot_o_5 P, boot_o_6 P, boot_o_7 P, boot_o_8 P, boot_o_9 P, boot_o_10 P, hd.o_43 P, hd.o_44 P, hd.o_45 P, hd.o_46 P] (PySem.Life.mk [] [] [] 0 [] [] Bool.false #[] [] 0 Bool.false Bool.false Bool.false 0 [2000, 10, 10] Bool.false 0 Bool.true [] [] 0 Bool.false)
noncomputable def hd.tree_47 : Params → BT := fun P => (.node (boot_o_0 P) (.node (boot_o_1 P) (.node (boot_o_3 P) (.node (boot_o_7 P) .nil .nil) (.node (hd.o_43 P) .nil .nil)) (.node (boot_o_5 P) (.node (boot_o_9 P) .nil .nil) (.node (hd.o_45 P) .nil .nil))) (.node (boot_o_2 P) (.node (boot_o_4 P) (.node (boot_o_8 P) .nil .nil) (.node (hd.o_44 P) .nil .nil)) (.node (boot_o_6 P) (.node (boot_o_10 P) .nil .nil) (.node (hd.o_46 P) .nil .nil))))
noncomputable def hd.heap_296 : Params → Heap := fun P => Heap.mk #[boot_o_0 P, boot_o_1 P, hd.o_75 P, hd.o_213 P, boot_o_4 P, boot_o_5 P, boot_o_6 P, boot_o_7 P, boot_o_8 P, boot_o_9 P, boot_o_10 P, hd.o_43 P, hd.o_214 P, hd.o_45 P, hd.o_46 P, hd.o_51 P, hd.o_52 P, hd.o_53 P, hd.o_54 P, hd.o_55 P, hd.o_56 P, hd.o_57 P, hd.o_58 P, hd.o_59 P, hd.o_60 P, hd.o_61 P, hd.o_62 P, hd.o_63 P, hd.o_64 P, hd.o_65 P, hd.o_66 P, hd.o_67 P, hd.o_68 P, hd.o_69 P, hd.o_70 P, hd.o_71 P, hd.o_72 P, hd.o_73 P, hd.o_74 P, hd.o_78 P, hd.o_79 P, hd.o_80 P, hd.o_81 P, hd.o_82 P, hd.o_83 P, hd.o_84 P, hd.o_85 P, hd.o_86 P, hd.o_87 P, hd.o_88 P, hd.o_89 P, hd.o_90 P, hd.o_91 P, hd.o_92 P, hd.o_93 P, hd.o_94 P, hd.o_95 P, hd.o_96 P, hd.o_97 P, hd.o_98 P, hd.o_99 P, hd.o_100 P, hd.o_101 P, hd.o_108 P, hd.o_103 P, hd.o_104 P, hd.o_105 P, hd.o_109 P, hd.o_110 P, hd.o_111 P, hd.o_112 P, hd.o_113 P, hd.o_114 P, hd.o_115 P, hd.o_116 P, hd.o_117 P, hd.o_118 P, hd.o_119 P, hd.o_120 P, hd.o_121 P, hd.o_122 P, hd.o_123 P, hd.o_124 P, hd.o_125 P, hd.o_126 P, hd.o_127 P, hd.o_128 P, hd.o_129 P, hd.o_130 P, hd.o_131 P, hd.o_132 P, hd.o_133 P, hd.o_134 P, hd.o_135 P, hd.o_136 P, hd.o_137 P, hd.o_138 P, hd.o_139 P, hd.o_140 P, hd.o_143 P, hd.o_144 P, hd.o_145 P, hd.o_146 P, hd.o_147 P, hd.o_148 P, hd.o_149 P, hd.o_150 P, hd.o_151 P, hd.o_152 P, hd.o_153 P, hd.o_154 P, hd.o_155 P, hd.o_156 P, hd.o_157 P, hd.o_158 P, hd.o_159 P, hd.o_160 P, hd.o_161 P, hd.o_162 P, hd.o_163 P, hd.o_164 P, hd.o_165 P, hd.o_166 P, hd.o_167 P, hd.o_168 P, hd.o_169 P, hd.o_170 P, hd.o_171 P, hd.o_172 P, hd.o_173 P, hd.o_174 P, hd.o_175 P, hd.o_176 P, hd.o_177 P, hd.o_178 P, hd.o_179 P, hd.o_180 P, hd.o_181 P, hd.o_182 P, hd.o_183 P, hd.o_184 P, hd.o_185 P, hd.o_186 P, hd.o_187 P, hd.o_188 P, hd.o_189 P, hd.o_190 P, hd.o_191 P, hd.o_192 P, hd.o_193 P, hd.o_194 P, hd.o_195 P, hd.o_196 P, hd.o_197 P, hd.o_198 P, hd.o_199 P, hd.o_200 P, hd.o_201 P, hd.o_202 P, hd.o_203 P, hd.o_204 P, hd.o_205 P, hd.o_206 P, hd.o_207 P, hd.o_208 P, hd.o_209 P, hd.o_210 P, hd.o_211 P, hd.o_212 P, hd.o_215 P, hd.o_216 P, hd.o_217 P, hd.o_218 P, hd.o_219 P, hd.o_220 P, hd.o_221 P, hd.o_222 P, hd.o_223 P, hd.o_224 P, hd.o_225 P, hd.o_226 P, hd.o_227 P, hd.o_228 P, hd.o_229 P, hd.o_230 P, hd.o_231 P, hd.o_232 P, hd.o_233 P, hd.o_234 P, hd.o_235 P, hd.o_236 P, hd.o_237 P, hd.o_238 P, hd.o_239 P, hd.o_240 P, hd.o_241 P, hd.o_242 P, hd.o_243 P, hd.o_244 P, hd.o_245 P, hd.o_246 P, hd.o_247 P, hd.o_248 P, hd.o_249 P, hd.o_250 P, hd.o_251 P, hd.o_252 P, hd.o_253 P, hd.o_254 P, hd.o_255 P, hd.o_256 P, hd.o_257 P, hd.o_258 P, hd.o_259 P, hd.o_260 P, hd.o_261 P, hd.o_262 P, hd.o_263 P, hd.o_264 P, hd.o_265 P, hd.o_266 P, hd.o_267 P, hd.o_268 P, hd.o_269 P, hd.o_270 P, hd.o_271 P, hd.o_272 P, hd.o_273 P, hd.o_274 P, hd.o_275 P, hd.o_276 P, hd.o_277 P, hd.o_278 P, hd.o_279 P, hd.o_280 P, hd.o_281 P, hd.o_282 P, hd.o_283 P, hd.o_284 P, hd.o_285 P, hd.o_286 P, hd.o_287 P, hd.o_288 P, hd.o_289 P, hd.o_290 P, hd.o_291 P, hd.o_292 P, hd.o_293 P, hd.o_294 P, hd.o_295 P] (PySem.Life.mk [] [] [] 0 [] [] Bool.false #[] [] 0 Bool.false Bool.false Bool.false 0 [2000, 10, 10] Bool.false 0 Bool.true [] [] 0 Bool.false)
noncomputable abbrev PR : Program := PySem.Challenge.rw_or0048_01.row.prog
noncomputable def hd.env_41 : Env := { scope := PR.main.scope, locals := mainNs, globals := mainNs, cells := [], code := Value.ref 13, frame := some 14 }
noncomputable def hd.sts (a n : Nat) : List Stmt := (PR.main.body.drop a).take n
noncomputable def hd.beh : List Stmt := hd.sts 0 8 ++ (hd.sts 8 1 ++ (hd.sts 9 11 ++ (hd.sts 20 19 ++ (hd.sts 39 14 ++ []))))
noncomputable def hd.code : Code := .body hd.beh hd.env_41
abbrev hd.B : List Frame := [topFrame ⟨0, 0, 0, 0⟩]
noncomputable abbrev hd.st (t : Params → BT) (n k : Nat) (w : World) (os : OsState) : SharedT := { tree := t w.params, n := n, life := {}, gens := #[], drawn := {}, toks := k, os := os }
noncomputable abbrev hd.s0 (w : World) (os : OsState) : Shared := { heap := boot_heap w.params, gens := #[], drawn := boot_drawn, toks := boot_toks, os := os }
noncomputable abbrev hd.s1 (w : World) (os : OsState) : Shared := { heap := hd.heap_296 w.params, gens := #[], drawn := {}, toks := 544, os := os }
theorem pc_pre : ∀ w : World, (fun os => topGo treeTable PR w 11 (some (Value.ref 6)) 12 (hd.s0 w os) (topStub PR)) = fun os => some (({ heap := hd.heap_46 w.params, gens := #[], drawn := {}, toks := 187, os := os } : Shared), (⟨denote treeTable (.body hd.beh hd.env_41), hd.code, ⟨0, 0, 0, 0⟩, hd.B⟩ : Thread)) := fun w => by kernel_rfl
theorem pc_block : ∀ w : World, (fun os => segRun treeTable PR w 11 (some (Value.ref 6)) 1 1 ({ heap := hd.heap_46 w.params, gens := #[], drawn := {}, toks := 187, os := os } : Shared) (blockOf hd.beh hd.env_41 hd.code ⟨0, 0, 0, 0⟩ hd.B)) = fun os => some (Flow.next, (hd.st hd.tree_47 15 187 w os).abs, hd.code, ⟨0, 0, 0, 0⟩) := fun w => by kernel_rfl
theorem pc_1 : ∀ w : World, (fun os => segRunT treeTable PR w 11 (some (Value.ref 6)) 1 152 (hd.st hd.tree_47 15 187 w os) (piecesOf (hd.sts 0 8) hd.env_41 hd.code ⟨0, 0, 0, 0⟩ hd.B)) = fun os => some (Flow.next, hd.st hd.tree_74 39 226 w os, hd.code, ⟨30, 0, 30, 8⟩) := fun w => by rw [Fast.te10110043849684766642, Fast.te14364793385576792824]; kernel_rfl
theorem pc_2 : ∀ w : World, (fun os => segRunT treeTable PR w 11 (some (Value.ref 6)) 1 269 (hd.st hd.tree_74 39 226 w os) (piecesOf (hd.sts 8 1) hd.env_41 hd.code ⟨30, 0, 30, 8⟩ hd.B)) = fun os => some (Flow.next, hd.st hd.tree_105 67 266 w os, hd.code, ⟨31, 0, 39, 16⟩) := fun w => by rw [Fast.te10110043849684766642, Fast.te14364793385576792824]; kernel_rfl
theorem pc_3 : ∀ w : World, (fun os => segRunT treeTable PR w 11 (some (Value.ref 6)) 1 378 (hd.st hd.tree_105 67 266 w os) (piecesOf (hd.sts 9 11) hd.env_41 hd.code ⟨31, 0, 39, 16⟩ hd.B)) = fun os => some (Flow.next, hd.st hd.tree_140 99 317 w os, hd.code, ⟨53, 0, 61, 16⟩) := fun w => by rw [Fast.te10110043849684766642, Fast.te14364793385576792824]; kernel_rfl
theorem pc_4 : ∀ w : World, (fun os => segRunT treeTable PR w 11 (some (Value.ref 6)) 1 397 (hd.st hd.tree_140 99 317 w os) (piecesOf (hd.sts 20 19) hd.env_41 hd.code ⟨53, 0, 61, 16⟩ hd.B)) = fun os => some (Flow.next, hd.st hd.tree_212 169 428 w os, hd.code, ⟨140, 0, 140, 4⟩) := fun w => by rw [Fast.te10110043849684766642, Fast.te14364793385576792824]; kernel_rfl
theorem pc_5 : ∀ w : World, (fun os => segRunT treeTable PR w 11 (some (Value.ref 6)) 1 400 (hd.st hd.tree_212 169 428 w os) (piecesOf (hd.sts 39 14) hd.env_41 hd.code ⟨140, 0, 140, 4⟩ hd.B)) = fun os => some (Flow.next, hd.st hd.tree_295 250 544 w os, hd.code, ⟨220, 0, 229, 48⟩) := fun w => by rw [Fast.te10110043849684766642, Fast.te14364793385576792824]; kernel_rfl
theorem pc_fin : ∀ w : World, (fun os => topRun treeTable PR w 11 (some (Value.ref 6)) 2 (hd.st hd.tree_295 250 544 w os).abs ⟨doneF .next, hd.code, ⟨220, 0, 229, 48⟩, hd.B⟩) = fun os => some (hd.s1 w os) := fun w => by kernel_rfl
theorem pc_run (w : World) (os : OsState) : topRun treeTable PR w 11 (some (Value.ref 6)) (12 + (1 + (152 + (269 + (378 + (397 + (400 + 2))))))) (hd.s0 w os) (topStub PR) = some (hd.s1 w os) :=
  go_top (congrFun (pc_pre w) os) (piece_block (congrFun (pc_block w) os) (piece_app (segRun_of (congrFun (pc_1 w) os)) (piece_app (segRun_of (congrFun (pc_2 w) os)) (piece_app (segRun_of (congrFun (pc_3 w) os)) (piece_app (segRun_of (congrFun (pc_4 w) os)) (piece_app (segRun_of (congrFun (pc_5 w) os)) (piece_nil (congrFun (pc_fin w) os))))))))
theorem pc_size : ∀ w : World, ((boot_heap w.params).isNs mainGlobals && (#[] : Array GenState).size == 0, (boot_heap w.params).objs.size, (boot_heap w.params).nsMap mainGlobals "__annotations__") = (true, 11, some (Value.ref 6)) := fun w => by kernel_rfl
theorem lk_0 : ∀ (w : World) (os : OsState), (staticsOk (importedModules PR.main.body) (boot_heap w.params) (hd.heap_296 w.params) && namesBound PR (hd.heap_296 w.params) && gensDone (hd.s1 w os) && laidKept (boot_heap w.params) (hd.heap_296 w.params)) = true := fun w os => by kernel_rfl
local macro_rules | `(tactic| walk_at "hdTw") => `(tactic| ((try rw [Fast.te5160383126252970620]); (try rw [Fast.te3399658132070893891]); (try rw [Fast.te5991557255702980513]); (try rw [Fast.te10880121769531294198]); (try rw [Fast.te821141287760084731]); (try rw [Fast.te7409074990110511671]); (try rw [Fast.te13664370479719496447]); (try rw [Fast.te14722251495701143533]); (try rw [Fast.te5923862056798008813]); (try rw [Fast.te10994771534591457954]); (try rw [Fast.te479339242167458305]); (try rw [Fast.te16090120013241838585]); (try rw [Fast.te3247288618530077131]); (try rw [Fast.te2386780881361962483]); (try rw [Fast.te11698064438423848299]); (try rw [Fast.te7317090234206586261]); (try rw [Fast.te7369524293546568484])))
noncomputable abbrev hd.Xt : Shared → Bool := fun s => xlAt hd.view_39 hd.lv s && recOk PySem.Challenge.rw_or0048_01.row.toRowW.records s
noncomputable abbrev hd.seen (w : World) (os : OsState) := openSeen hd.view_39 hd.loose (importedModules PR.main.body) hd.Xt true (hd.s1 w os)
noncomputable abbrev hd.good := openGood hd.view_39 hd.loose
theorem lk_1 : ∀ (w : World) (os : OsState), (hd.seen w os).1 = hd.good.1 := fun w os => by delta hd.seen hd.good openSeen openGood; dsimp only; (walk_at "hdTw"); kernel_rfl
theorem lk_2 : ∀ (w : World) (os : OsState), (hd.seen w os).2.1 = hd.good.2.1 := fun w os => by delta hd.seen hd.good openSeen openGood; dsimp only; (walk_at "hdTw"); kernel_rfl
theorem lk_3 : ∀ (w : World) (os : OsState), (hd.seen w os).2.2.1 = hd.good.2.2.1 := fun w os => by delta hd.seen hd.good openSeen openGood; dsimp only; (walk_at "hdTw"); kernel_rfl
theorem lk_4 : ∀ (w : World) (os : OsState), (hd.seen w os).2.2.2.1 = hd.good.2.2.2.1 := fun w os => by delta hd.seen hd.good openSeen openGood; dsimp only; (walk_at "hdTw"); kernel_rfl
theorem lk_5 : ∀ (w : World) (os : OsState), (hd.seen w os).2.2.2.2.1 = hd.good.2.2.2.2.1 := fun w os => by delta hd.seen hd.good openSeen openGood; dsimp only; (walk_at "hdTw"); kernel_rfl
theorem lk_6 : ∀ (w : World) (os : OsState), (hd.seen w os).2.2.2.2.2.1 = hd.good.2.2.2.2.2.1 := fun w os => by delta hd.seen hd.good openSeen openGood; dsimp only; (walk_at "hdTw"); kernel_rfl
theorem lk_7 : ∀ (w : World) (os : OsState), (hd.seen w os).2.2.2.2.2.2.1 = hd.good.2.2.2.2.2.2.1 := fun w os => by delta hd.seen hd.good openSeen openGood; dsimp only; (walk_at "hdTw"); kernel_rfl
theorem lk_8 : ∀ (w : World) (os : OsState), (hd.seen w os).2.2.2.2.2.2.2.1 = hd.good.2.2.2.2.2.2.2.1 := fun w os => by delta hd.seen hd.good openSeen openGood; dsimp only; (walk_at "hdTw"); kernel_rfl
theorem lk_9 : ∀ (w : World) (os : OsState), (hd.seen w os).2.2.2.2.2.2.2.2 = hd.good.2.2.2.2.2.2.2.2 := fun w os => by delta hd.seen hd.good openSeen openGood; dsimp only; (walk_at "hdTw"); kernel_rfl
theorem lk_h : ∀ (w : World) (os : OsState), (kHook hd.heap_39 hd.as hd.as_eq).obs (hd.s1 w os) = (kHook hd.heap_39 hd.as hd.as_eq).val w := fun w os => by kernel_rfl
theorem lk_all (w : World) (os : OsState) : hd.seen w os = hd.good := Prod.ext (lk_1 w os) (Prod.ext (lk_2 w os) (Prod.ext (lk_3 w os) (Prod.ext (lk_4 w os) (Prod.ext (lk_5 w os) (Prod.ext (lk_6 w os) (Prod.ext (lk_7 w os) (Prod.ext (lk_8 w os) (lk_9 w os))))))))
theorem op_1 : opening PR = plainProg PR.main.scope.names := by kernel_rfl
theorem op_2 : ∀ s : Shared, fenceModules? PR s = some s := fun s => by kernel_rfl
theorem raw_left : LeftO PR hd.view_39 hd.loose hd.Xt (Hook.obs (kHook hd.heap_39 hd.as hd.as_eq)) (Hook.val (kHook hd.heap_39 hd.as hd.as_eq)) 3308 :=
  LeftO.of_pieces (H₀ := boot_heap) (H₁ := hd.heap_296) (gs₀ := #[]) (gs₁ := #[]) (d₀ := boot_drawn) (d₁ := {}) (k₀ := boot_toks) (k₁ := 544) (m₀ := 11) (ann := some (Value.ref 6)) (M := 12 + (1 + (152 + (269 + (378 + (397 + (400 + 2)))))))
    (boot_open op_1 rfl op_2) pc_size pc_run rfl (fun w => funext fun os => looks_pair (lk_0 w os) (looks_pair (lk_all w os) (lk_h w os)))
theorem raw_said : PySem.Challenge.rw_or0048_01.wellSaid = true := by
  unfold OpenLaw.wellSaid OpenRow.wellSaid OpenRow.partSaid looksOpen
  repeat' (with_reducible refine Bool.and_eq_true_iff.mpr ⟨?_, ?_⟩)
  all_goals ((try rw [Fast.te8377067652309620493]); (try rw [Fast.te8326940854005059898]); (try rw [Fast.te5923862056798008813]); (try rw [Fast.te13343964577679436407]); (try rw [Fast.te17691160309236699985]); (try rw [Fast.te17119622794617984870]); (try rw [Fast.te17868728402115742887]); (try rw [Fast.te797321630700447069]); (try rw [Fast.te6984425678791042302]); (try rw [Fast.te10792542408131684335]); (try rw [Fast.te3471404346716756564]))
  all_goals decide +kernel
theorem raw_ok : (chainsOk hd.view_39 && opensWell PySem.Challenge.rw_or0048_01.row.prog && (frees PySem.Challenge.rw_or0048_01.row.toRowW && PySem.Challenge.rw_or0048_01.row.within.isEmpty)) = true := by decide +kernel
theorem raw_hw : PySem.Challenge.rw_or0048_01.row.toRowW.promised := by w_witness2
theorem raw_bare : PySem.Challenge.rw_or0048_01.row.prog.bare := ⟨rfl, rfl, rfl, rfl, rfl, by decide +kernel⟩
end Mine
open PySem PySem.W PySem.Calls PyProof.Rows PySem.Spec
set_option maxHeartbeats 4000000
namespace Mine
section
open PySem PySem.W PySem.Calls PyProof.Rows PySem.Spec

def NewIn (g h' : Heap) (tl : List (Addr × Obj)) : Prop := ∀ p ∈ tl, h'.get? p.1 = some p.2 ∧ g.get? p.1 = none

/-- a call that changes no object that stood: from any state it comes back, the value told by Out over the new objects tl -/
def PureC (prog : Program) (w : World) (K : Frag) (f : Addr) (k : Nat) (vs : List Value) (Pre : Heap → Prop) (Out : Heap → List (Addr × Obj) → Value → Prop) : Prop :=
  ∀ (p : Program) (loose : List Str) (mean : ExcName → Option Value) (mg mb : Str → Option Value) (dp un : Nat) (gd : Option (List Code)) (cn : Str) (cs : Scope) (a : Addr) (ccd : Value) (cl : List (Str × Addr)) (outer : List Env) (A₀ : Around) (base h₀ : Heap) (L : Addr) (m : Str → Option Value) (s : Shared) (Q E : Value → Shared → Prop),
    Below A₀ base outer h₀ → Fr h₀ L s.heap m → K.In h₀ → Top p loose mean mg mb h₀ → cs.kind = .function → dp + k < recursionLimit → un + 8 * k < cLine → Pre s.heap →
    (∀ r tl h' tk', (∀ b o, s.heap.get? b = some o → h'.get? b = some o) → NewIn s.heap h' tl → Out s.heap tl r → Q r { s with heap := h', toks := tk' }) →
    wpAny (model prog w) (ktrTop dp un gd cn cs L a ccd cl outer) (call (.ref f) vs) Q E s

section
variable {prog : Program} {w : World} {K : Frag} {f : Addr} {k : Nat} {vs : List Value} {Pre : Heap → Prop} {Out : Heap → List (Addr × Obj) → Value → Prop}

theorem pure_intro {name qual : Str} {params : Arguments} {body : List Stmt} {scope : Scope} {dV kV doc pm cdv ct oc : Value} {an od : Option Addr} {osl : Array (Option Value)} {binds : List (Str × Value)}
    (ho : K.lookup f = some ⟨oc, od, .func (fnOf name qual params body scope dV kV doc pm an cdv ct), osl⟩) (hcd : codeIn K cdv qual = true)
    (hbind : ∀ s, BindsTo s (fnOf name qual params body scope dV kV doc pm an cdv ct) ⟨vs, []⟩ binds) (hloc : ∀ y ∈ binds, scope.names.lookup y.1 = some .local)
    (hco : scope.isCoroutine = false) (hgen : scope.isGenerator = false) (hk : scope.kind = .function) (hcell : ∀ x ∈ scope.names, x.2 ≠ .cell)
    (h : ∀ (p : Program) (loose : List Str) (mean : ExcName → Option Value) (mg mb : Str → Option Value) (g : Heap) (L' : Addr) (dp un : Nat) (gd : Option (List Code)) (outer : List Env) (A₀ : Around) (base h₁ : Heap) (s : Shared) (R : Value → Shared → Prop),
      Below A₀ base outer g → K.In g → Top p loose mean mg mb g → Pre g → dp + k ≤ recursionLimit → un + 8 * k ≤ cLine + 3 →
      Fr g L' h₁ (fun y => binds.reverse.lookup y) → News g L' h₁ [] →
      (∀ r tl h' tk' m' news', Fr g L' h' m' → News g L' h' news' → (∀ p ∈ tl, p ∈ news') → Out g tl r → R r { s with heap := h', toks := tk' }) →
      wpAny (model prog w) (ktrTop dp un gd qual scope L' f cdv [] outer) (execs body (envOf qual scope L' f cdv)) (fun fl s' => R (match fl with | .ret v => v | _ => .none) s') (fun _ _ => False) { s with heap := h₁, toks := s.toks + binds.length }) :
    PureC prog w K f k vs Pre Out := by
  intro p loose mean mg mb dp un gd cn cs a ccd cl outer A₀ base h₀ L m s Q E B F X T hcs hd hu hpre ret
  refine wpAny_call ?_
  obtain ⟨FG, BG, st, _⟩ := groundX (R := fun _ _ => True) (A := ktrTop dp un gd cn cs L a ccd cl outer) (env := envX cn cs L a ccd cl) B F (News.nil (h₀ := h₀) (L := L) (h := s.heap)) rfl rfl hcs
  have e : hideAll s.heap (([] : List (Addr × Obj)).map (·.1)) = s.heap := rfl
  rw [e] at FG BG st
  have XS : K.In s.heap := X.keeps F.keep
  refine codeAny_call_def (fd := fnOf name qual params body scope dV kV doc pm an cdv ct) (body := body) (binds := binds) (by show dp < recursionLimit; omega) (XS _ _ ho) rfl (T.nolimit.keeps F.keep) (codeRec_of XS hcd) rfl (hbind s) hcell hloc (fun h₁ hns hk₁ => ?_) hco hgen hk
  refine wpAny_mono (h p loose mean mg mb s.heap s.heap.objs.size (dp + 1) (un + 3) gd (envX cn cs L a ccd cl :: outer) _ base h₁ s (fun v s' => Q v s') BG XS (T.keeps F.keep) hpre (by omega) (by omega)
    ⟨hns, hk₁, Nat.le_refl _⟩ News.nil ?_) (fun fl s' hl => ?_) fun _ _ x => x.elim
  · intro r tl h' tk' m' news' F' N' hs ho'
    exact ret r tl h' tk' F'.keep (fun p hp => ⟨(N' p (hs p hp)).1, (N' p (hs p hp)).2.2⟩) ho'
  · exact hl

theorem pure_use {p : Program} {loose : List Str} {mean : ExcName → Option Value} {mg mb : Str → Option Value} {dp un : Nat} {gd : Option (List Code)} {cn : Str} {cs : Scope} {a : Addr} {ccd : Value} {cl : List (Str × Addr)} {outer : List Env} {A₀ : Around} {base h₀ : Heap} {L : Addr} {m : Str → Option Value} {s : Shared} {Q E : Value → Shared → Prop} {news : List (Addr × Obj)}
    (C : PureC prog w K f k vs Pre Out) (B : Below A₀ base outer h₀) (F : Fr h₀ L s.heap m) (X : K.In h₀) (N : News h₀ L s.heap news) (T : Top p loose mean mg mb h₀) (hk : cs.kind = .function) (hd : dp + k < recursionLimit) (hu : un + 8 * k < cLine) (hpre : Pre s.heap)
    (ret : ∀ r tl h' tk', Fr h₀ L h' m → News h₀ L h' (tl ++ news) → (∀ q ∈ news, ∀ p ∈ tl, p.1 ≠ q.1) → Out s.heap tl r → Q r { s with heap := h', toks := tk' }) :
    wpAny (model prog w) (ktrTop dp un gd cn cs L a ccd cl outer) (call (.ref f) vs) Q E s := by
  refine C p loose mean mg mb dp un gd cn cs a ccd cl outer A₀ base h₀ L m s Q E B F X T hk hd hu hpre ?_
  intro r tl h' tk' hk' hn ho
  have F' := F.keptAll hk'
  refine ret r tl h' tk' F' (fun q hq => ?_) (fun q hq p hp e => ?_) ho
  · rcases List.mem_append.mp hq with hq | hq
    · refine ⟨(hn q hq).1, fun e => ?_, ?_⟩
      · obtain ⟨oL, _, _, hL, _⟩ := F.ns
        have := (hn q hq).2
        rw [e, hL] at this
        cases this
      · cases q0 : h₀.get? q.1 with
        | none => rfl
        | some o => have := F.keep _ _ q0; rw [(hn q hq).2] at this; cases this
    · exact (N.grown hk') q hq
  · have := (hn p hp).2
    rw [e, (N q hq).1] at this
    cases this
end

end
section
open PySem PySem.W PySem.Calls PyProof.Rows PySem.Spec

section
variable {prog : Program} {w : World} {K : Frag} {f : Addr} {k : Nat} {vs : List Value} {Pre : Heap → Prop} {Out : Heap → List (Addr × Obj) → Value → Prop}
/-- pure_intro for a def whose locals are captured by a comprehension (cells) -/
theorem pure_introC {name qual : Str} {params : Arguments} {body : List Stmt} {scope : Scope} {dV kV doc pm cdv ct oc : Value} {an od : Option Addr} {osl : Array (Option Value)} {binds : List (Str × Value)}
    (ho : K.lookup f = some ⟨oc, od, .func (fnOf name qual params body scope dV kV doc pm an cdv ct), osl⟩) (hcd : codeIn K cdv qual = true)
    (hbind : ∀ s, BindsTo s (fnOf name qual params body scope dV kV doc pm an cdv ct) ⟨vs, []⟩ binds) (hkind : (binds.all fun y => scope.names.lookup y.1 == some .local || scope.names.lookup y.1 == some .cell) = true)
    (hnd : ((cellsFrom 0 scope.names []).map (·.1)).Nodup)
    (hco : scope.isCoroutine = false) (hgen : scope.isGenerator = false) (hk : scope.kind = .function)
    (h : ∀ (p : Program) (loose : List Str) (mean : ExcName → Option Value) (mg mb : Str → Option Value) (g : Heap) (L' : Addr) (dp un : Nat) (gd : Option (List Code)) (outer : List Env) (A₀ : Around) (base h₁ : Heap) (tk : Nat) (cells : List (Addr × Obj)) (s : Shared) (R : Value → Shared → Prop),
      Below A₀ base outer g → K.In g → Top p loose mean mg mb g → Pre g → dp + k ≤ recursionLimit → un + 8 * k ≤ cLine + 3 →
      Fr g L' h₁ (bindL (envOfC qual scope L' f cdv).kindOf binds fun _ => none) → News g L' h₁ cells → CellsAre (bindC (envOfC qual scope L' f cdv).kindOf binds fun _ => none) (cellsFrom (L' + 1) scope.names []) cells →
      (∀ r tl h' tk' m' news', Fr g L' h' m' → News g L' h' news' → (∀ p ∈ tl, p ∈ news') → Out g tl r → R r { s with heap := h', toks := tk' }) →
      wpAny (model prog w) (ktrTop dp un gd qual scope L' f cdv (cellsFrom (L' + 1) scope.names []) outer) (execs body (envOfC qual scope L' f cdv)) (fun fl s' => R (match fl with | .ret v => v | _ => .none) s') (fun _ _ => False) { s with heap := h₁, toks := tk }) :
    PureC prog w K f k vs Pre Out := by
  intro p loose mean mg mb dp un gd cn cs a ccd cl outer A₀ base h₀ L m s Q E B F X T hcs hd hu hpre ret
  refine wpAny_call ?_
  obtain ⟨FG, BG, st, _⟩ := groundX (R := fun _ _ => True) (A := ktrTop dp un gd cn cs L a ccd cl outer) (env := envX cn cs L a ccd cl) B F (News.nil (h₀ := h₀) (L := L) (h := s.heap)) rfl rfl hcs
  have e : hideAll s.heap (([] : List (Addr × Obj)).map (·.1)) = s.heap := rfl
  rw [e] at FG BG st
  have XS : K.In s.heap := X.keeps F.keep
  have T' := T.keeps F.keep
  refine codeAny_call_function (fd := fnOf name qual params body scope dV kV doc pm an cdv ct) (body := body) (by show dp < recursionLimit; omega) (XS _ _ ho) rfl hco hgen rfl (codeRec_of XS hcd) (hbind s _ _ _ _ ?_)
  refine wpAny_newFunctionEnv_cells hk (kindsX hkind _) fun env' he s' x => ?_
  subst he
  refine ⟨T'.nolimit.keeps x.toInCall.keep, codeAny_func ?_⟩
  obtain ⟨h₁, tk, rfl, _⟩ := x.done
  have hk₁ := x.toInCall.keep
  obtain ⟨cells, NC, Y⟩ := Cl.news (h₀ := s.heap) (Nat.le_refl _) fun n c hm => ⟨x.cell n c (lookup_of_mem_nodup (cellsFrom_names scope.names 0 (s.heap.objs.size + 1) [] [] rfl ▸ hnd) hm), x.above n c hm⟩
  refine wpAny_mono (h p loose mean mg mb s.heap s.heap.objs.size (dp + 1) (un + 3) gd (envX cn cs L a ccd cl :: outer) _ base h₁ tk cells s (fun v s' => Q v s') BG XS T' hpre (by omega) (by omega)
    ⟨x.toInCall.ns, hk₁, Nat.le_refl _⟩ NC Y ?_) (fun fl s' hl => ?_) fun _ _ x => x.elim
  · intro r tl h' tk' m' news' F' N' hs ho'
    exact ret r tl h' tk' F'.keep (fun p hp => ⟨(N' p (hs p hp)).1, (N' p (hs p hp)).2.2⟩) ho'
  · exact hl
end

/-- a turn's end of my_while -/
def MwEnd {σ : Type} (h₀ : Heap) (L : Addr) (s : Shared) (Led : σ → List (Addr × Obj)) (ps : σ → List (Str × Value)) (P : σ → Prop) (μ : σ → Nat) (c : σ) (s₂ : Shared) : Prop :=
  ∃ (c' : σ) (h' : Heap) (tk : Nat) (m' : Str → Option Value) (news' : List (Addr × Obj)), s₂ = { s with heap := h', toks := tk } ∧ Fr h₀ L h' m' ∧ News h₀ L h' news' ∧ (∀ p ∈ Led c', p ∈ news') ∧ (∀ p ∈ ps c', m' p.1 = some p.2) ∧ P c' ∧ μ c' < μ c
def MwPost {σ : Type} (h₀ : Heap) (L : Addr) (s : Shared) (Led : σ → List (Addr × Obj)) (ps : σ → List (Str × Value)) (P : σ → Prop) (μ : σ → Nat) (Q : Flow → Shared → Prop) (c : σ) (f : Flow) (s₂ : Shared) : Prop :=
  match f with
  | .ret v => Q (.ret v) s₂
  | .brk => Q .next s₂
  | _ => MwEnd h₀ L s Led ps P μ c s₂
theorem mw_end {σ : Type} {h₀ : Heap} {L : Addr} {s : Shared} {Led : σ → List (Addr × Obj)} {ps : σ → List (Str × Value)} {m' : Str → Option Value} {P : σ → Prop} {μ : σ → Nat} {c : σ} {h' : Heap} {tk : Nat} {news' : List (Addr × Obj)} (c' : σ)
    (F : Fr h₀ L h' m') (N : News h₀ L h' news') (hn : ∀ p ∈ Led c', p ∈ news') (hk : ∀ p ∈ ps c', m' p.1 = some p.2) (hp : P c') (hm : μ c' < μ c) :
    MwEnd h₀ L s Led ps P μ c { s with heap := h', toks := tk } := ⟨c', h', tk, m', news', rfl, F, N, hn, hk, hp, hm⟩

theorem mw_fr {h₀ h : Heap} {L : Addr} {ps : List (Str × Value)} {m₁ : Str → Option Value} (h1 : ∀ p ∈ ps, m₁ p.1 = some p.2) (F : Fr h₀ L h m₁) : Fr h₀ L h (kstB m₁ ps) := by
  have em : kstB m₁ ps = m₁ := by
    funext y
    exact kstB_eq h1 fun _ => rfl
  rw [em]
  exact F

section
variable {prog : Program} {w : World} {A : Around} {E : Value → Shared → Prop} {Q : Flow → Shared → Prop} {s : Shared} {env : Env} {h₀ : Heap} {L : Addr}
theorem my_while {σ : Type} {test : Expr} {body : List Stmt} {pos : Pos} {m₀ : Str → Option Value} {news : List (Addr × Obj)} (Led : σ → List (Addr × Obj)) (ps : σ → List (Str × Value)) (P : σ → Prop) (μ : σ → Nat) (c₀ : σ)
    (F : Fr h₀ L s.heap m₀) (N : News h₀ L s.heap news) (hn : ∀ p ∈ Led c₀, p ∈ news) (hk : ∀ p ∈ ps c₀, m₀ p.1 = some p.2) (hp : P c₀)
    (turn : ∀ (c : σ) (u : Str → Option Value) h tk, P c → Fr h₀ L h (kstB u (ps c)) → News h₀ L h (Led c) →
      wpAny (model prog w) A (isTrue test env (eval test env)) (fun b s₂ =>
        if b = true then wpAny (model prog w) A (execs body env) (MwPost h₀ L s Led ps P μ Q c) E s₂ else Q .next s₂) E { s with heap := h, toks := tk })
    (hE : PassesOwn (model prog w) A env E := by passes_own) :
    wpAny (model prog w) A (exec (.While test body [] pos) env) Q E s := by
  refine While_inv2 (news := Led c₀) (fun n m nx => ∃ c : σ, nx = Led c ∧ μ c = n ∧ (∀ p ∈ ps c, m p.1 = some p.2) ∧ P c) F (fun p hp => N p (hn p hp)) ⟨c₀, rfl, rfl, hk, hp⟩ ?_ hE
  rintro n m₁ nx h tk F₁ N₁ ⟨c, hnx, hsz, h1, hp'⟩
  rw [hnx] at N₁
  rw [← hsz]
  refine wpAny_mono (turn c m₁ h tk hp' (mw_fr h1 F₁) N₁) (fun b s₂ p => ?_) fun _ _ x => x
  cases b with
  | false => simpa using p
  | true =>
    simp only [if_true] at p ⊢
    refine wpAny_mono p (fun f s₃ q => ?_) fun _ _ x => x
    cases f with
    | ret v => exact q
    | brk => exact q
    | next =>
      obtain ⟨c', h', tk', m', news', rfl, F', N', hn, hk9, hp9, hm9⟩ := q
      exact ⟨h', tk', m', Led c', μ c', rfl, F', fun p hp => N' p (hn p hp), hm9, c', rfl, rfl, hk9, hp9⟩
    | cont =>
      obtain ⟨c', h', tk', m', news', rfl, F', N', hn, hk9, hp9, hm9⟩ := q
      exact ⟨h', tk', m', Led c', μ c', rfl, F', fun p hp => N' p (hn p hp), hm9, c', rfl, rfl, hk9, hp9⟩
end

section
variable {prog : Program} {w : World} {A : Around} {E : Value → Shared → Prop} {s : Shared} {h₀ : Heap} {L : Addr} {m : Str → Option Value} {env : Env}
/-- a list comprehension over bytes -/
theorem ListComp_bytes {elt iter : Expr} {x : Str} {px : Pos} {scope : Scope} {cl : List (Str × Addr)} {pos : Pos} {Q : Value → Shared → Prop} (_F₀ : Fr h₀ L s.heap m)
    (hclos : closureFor scope env = pure cl) (hcell : ∀ y ∈ scope.names, y.2 ≠ .cell) (hkind : scope.kind = .function)
    (hnames : ∀ y ∈ scope.names, y.2 = .local → scope.names.lookup y.1 = some .local) (hx : scope.names.lookup x = some .local)
    (h : wpAny (model prog w) A (eval iter env) (fun xv s₁ => ∃ b t news, xv = .bytes b t ∧ A.handled = none ∧ Fr h₀ L s₁.heap m ∧ News h₀ L s₁.heap news ∧ b.size ≤ sizeLine ∧
      ∀ s₂ : Shared, (∃ h, s₂ = { s₁ with heap := h }) → LCg.CompRest prog w A h₀ L m env elt x scope cl s₂ (fun _ => True) (fun i v => ∃ c u, b[i]? = some c ∧ v = .int (c.toNat : Int) u) (LCg.FinE h₀ L m s₂ Q) b.size 0 [] news) E s)
    (hs : ∀ x, foldedSetIterable iter env x = pure x := by intro _; rfl) :
    wpAny (model prog w) A (eval (.ListComp elt [⟨.Name x px, iter, [], 0⟩] scope pos) env) Q E s := by
  rw [eval_ListComp]
  refine wpAny_comprehension_free (use := none) rfl hs hclos hkind hnames (wpAny_mono h (fun xv s₁ h₁ => ?_) fun _ _ e => e)
  obtain ⟨b, t, news, rfl, hh, F, N, hsz, R⟩ := h₁
  refine KBw.pyIter_bytes ?_
  refine LCg.block_U (KBw.walks hh s₁.heap.objs.size b t) hsz (fun i h st => by obtain ⟨o, e, _⟩ := st; exact ⟨o, e⟩) (fun i h h' o nw st e e' _ _ _ => by obtain ⟨o', q, r⟩ := st; rw [e] at q; cases q; exact ⟨o, e', r⟩) hcell hkind hx ⟨_, Heap.get?_push_size _ rfl, rfl, rfl⟩ (fun b hb => ?_)
      (F.keeps fun _ _ e => Heap.get?_push_of_some _ e) (N.grown fun _ _ e => Heap.get?_push_of_some _ e) (Nat.ne_of_lt F.ns.lt) (next_is_new F) (fun p hp => Nat.ne_of_lt (Heap.lt_size (N p hp).1)) trivial (R _ ⟨_, rfl⟩) ?_
  · rw [List.mem_singleton.mp hb]
    show s₁.heap.objs.size < (s₁.heap.push _).objs.size
    rw [Heap.size_push]; exact Nat.lt_succ_self _
  · intro D C h tk m' ys news' F' N' o1 hn hC₀ hD₀ hCL hDL hCD offC fin
    refine ⟨m', hn, fun h'' hs'' => fin D h'' tk (F'.change hs'' hCL hC₀) (fun p hp => ?_) o1⟩
    refine ⟨hs''.extBut _ _ ?_ (N' p hp).1, (N' p hp).2⟩
    rcases List.mem_cons.mp hp with rfl | hp
    · exact Ne.symm hCD
    · exact offC p hp

/-- a list comprehension over the signs of a text -/
theorem ListComp_text {elt iter : Expr} {x : Str} {px : Pos} {scope : Scope} {cl : List (Str × Addr)} {pos : Pos} {Q : Value → Shared → Prop} (_F₀ : Fr h₀ L s.heap m)
    (hclos : closureFor scope env = pure cl) (hcell : ∀ y ∈ scope.names, y.2 ≠ .cell) (hkind : scope.kind = .function)
    (hnames : ∀ y ∈ scope.names, y.2 = .local → scope.names.lookup y.1 = some .local) (hx : scope.names.lookup x = some .local)
    (h : wpAny (model prog w) A (eval iter env) (fun xv s₁ => ∃ b t news, xv = .str b t ∧ A.handled = none ∧ Fr h₀ L s₁.heap m ∧ News h₀ L s₁.heap news ∧ b.cps.size ≤ sizeLine ∧
      ∀ s₂ : Shared, (∃ h, s₂ = { s₁ with heap := h }) → LCg.CompRest prog w A h₀ L m env elt x scope cl s₂ (fun _ => True) (SignAt b) (LCg.FinE h₀ L m s₂ Q) b.cps.size 0 [] news) E s)
    (hs : ∀ x, foldedSetIterable iter env x = pure x := by intro _; rfl) :
    wpAny (model prog w) A (eval (.ListComp elt [⟨.Name x px, iter, [], 0⟩] scope pos) env) Q E s := by
  rw [eval_ListComp]
  refine wpAny_comprehension_free (use := none) rfl hs hclos hkind hnames (wpAny_mono h (fun xv s₁ h₁ => ?_) fun _ _ e => e)
  obtain ⟨b, t, news, rfl, hh, F, N, hsz, R⟩ := h₁
  have go : ∀ (T : String) (o : Obj), Walks prog w A s₁.heap.objs.size [s₁.heap.objs.size] [s₁.heap.objs.size] b.cps.size (SignAt b) (fun i h => h.IsStrIter s₁.heap.objs.size T b t i) →
      (s₁.heap.push o).IsStrIter s₁.heap.objs.size T b t 0 → _ := fun T o W hst =>
    LCg.block_U (s₂ := { s₁ with heap := s₁.heap.push o }) (pos := pos) (iter := iter) (px := px) (elt := elt) (x := x) (scope := scope) (cl := cl) (env := env) (E := E) (RR := fun acc C => compPost (model prog w) A E none Q acc C) W hsz (fun i h st => by obtain ⟨o, e, _⟩ := st; exact ⟨o, e⟩) (fun i h h' o nw st e e' _ _ _ => by obtain ⟨o', q, r⟩ := st; rw [e] at q; cases q; exact ⟨o, e', r⟩) hcell hkind hx hst (fun b hb => by
      rw [List.mem_singleton.mp hb]
      show s₁.heap.objs.size < (s₁.heap.push _).objs.size
      rw [Heap.size_push]; exact Nat.lt_succ_self _)
      (F.keeps fun _ _ e => Heap.get?_push_of_some _ e) (N.grown fun _ _ e => Heap.get?_push_of_some _ e) (Nat.ne_of_lt F.ns.lt) (next_is_new F) (fun p hp => Nat.ne_of_lt (Heap.lt_size (N p hp).1)) trivial (R _ ⟨_, rfl⟩)
      (fun D C h tk m' ys news' F' N' o1 hn hC₀ hD₀ hCL hDL hCD offC fin => ⟨m', hn, fun h'' hs'' => fin D h'' tk (F'.change hs'' hCL hC₀) (fun p hp => by
        refine ⟨hs''.extBut _ _ ?_ (N' p hp).1, (N' p hp).2⟩
        rcases List.mem_cons.mp hp with rfl | hp
        · exact Ne.symm hCD
        · exact offC p hp) o1⟩)
  cases ha : b.cps.all (· < 128)
  · exact wpAny_pyIter_wide ha (go "str_iterator" _ (Walks.strWide hh _ b t) ⟨_, Heap.get?_push_size _ rfl, rfl, rfl⟩)
  · exact wpAny_pyIter_ascii ha (go "str_ascii_iterator" _ (Walks.strAscii hh _ b t) ⟨_, Heap.get?_push_size _ rfl, rfl, rfl⟩)
end

def MfEnd {σ : Type} (h₀ : Heap) (L : Addr) (s : Shared) (Led : σ → List (Addr × Obj)) (ps : σ → List (Str × Value)) (P : σ → Prop) (I : Addr) (oI : Obj) (s₂ : Shared) : Prop :=
  ∃ (c' : σ) (h' : Heap) (tk : Nat) (m' : Str → Option Value) (news' : List (Addr × Obj)), s₂ = { s with heap := h', toks := tk } ∧ Fr h₀ L h' m' ∧ News h₀ L h' news' ∧ (∀ p ∈ (I, oI) :: Led c', p ∈ news') ∧ (∀ p ∈ ps c', m' p.1 = some p.2) ∧ P c'
def MfPost {σ : Type} (h₀ : Heap) (L : Addr) (s : Shared) (Led : σ → List (Addr × Obj)) (ps : σ → List (Str × Value)) (P : σ → Prop) (I : Addr) (oI : Obj) (Q : Flow → Shared → Prop) (f : Flow) (s₂ : Shared) : Prop :=
  match f with
  | .ret v => Q (.ret v) s₂
  | .brk => Q .next s₂
  | _ => MfEnd h₀ L s Led ps P I oI s₂
theorem mf_end {σ : Type} {h₀ : Heap} {L : Addr} {s : Shared} {Led : σ → List (Addr × Obj)} {ps : σ → List (Str × Value)} {m' : Str → Option Value} {P : σ → Prop} {I : Addr} {oI : Obj} {h' : Heap} {tk : Nat} {news' : List (Addr × Obj)} (c' : σ)
    (F : Fr h₀ L h' m') (N : News h₀ L h' news') (hn : ∀ p ∈ (I, oI) :: Led c', p ∈ news') (hk : ∀ p ∈ ps c', m' p.1 = some p.2) (hp : P c') :
    MfEnd h₀ L s Led ps P I oI { s with heap := h', toks := tk } := ⟨c', h', tk, m', news', rfl, F, N, hn, hk, hp⟩
theorem off1_of {D : Addr} : ∀ {l : List (Addr × Obj)}, (∀ p ∈ l, p.1 ≠ D) → LCg.Off1 D l
  | [], _ => trivial
  | p :: r, h => ⟨h p (.head _), off1_of fun q hq => h q (.tail _ hq)⟩
theorem mf_fr {h₀ h : Heap} {L : Addr} {ps : List (Str × Value)} {m₁ : Str → Option Value} {x : Str} {v : Value} (h1 : ∀ p ∈ ps, m₁ p.1 = some p.2) (F : Fr h₀ L h (fun y => if y = x then some v else m₁ y)) : Fr h₀ L h (fun y => if y = x then some v else kstB m₁ ps y) := by
  have em : kstB m₁ ps = m₁ := by
    funext y
    exact kstB_eq h1 fun _ => rfl
  rw [em]
  exact F
section
variable {prog : Program} {w : World} {A : Around} {E : Value → Shared → Prop} {Q : Flow → Shared → Prop} {s : Shared} {env : Env} {h₀ : Heap} {x : Str} {body : List Stmt}
theorem my_for {σ : Type} {I : Addr} {fp : List Addr} {n : Nat} {Pv : Nat → Value → Prop} {St : Nat → Heap → Prop} {m₀ : Str → Option Value} {news : List (Addr × Obj)} (Led : σ → List (Addr × Obj)) (adr : List Addr) (ps : σ → List (Str × Value)) (P : Nat → σ → Prop) (c₀ : σ)
    (W : Walks prog w A I fp [I] n Pv St) (hob : ∀ i h, St i h → ∃ o, h.get? I = some o) (hfp : ∀ b ∈ fp, b = I ∨ (∃ o, h₀.get? b = some o) ∨ ∃ o, ∀ c, (b, o) ∈ Led c) (hLf : env.locals ∉ fp) (hI : h₀.get? I = none) (hnI : I ∉ adr) (hadr : ∀ c, (Led c).map (·.1) = adr) (hst : St 0 s.heap)
    (F : Fr h₀ env.locals s.heap m₀) (N : News h₀ env.locals s.heap news) (hn : ∀ p ∈ Led c₀, p ∈ news) (hk : ∀ p ∈ ps c₀, m₀ p.1 = some p.2) (hp : P 0 c₀)
    (turn : ∀ i v (c : σ) (u : Str → Option Value) h tk oI, i < n → Pv i v → P i c → LCg.Off1 I (Led c) → Fr h₀ env.locals h (fun y => if y = x then some v else kstB u (ps c) y) → News h₀ env.locals h ((I, oI) :: Led c) →
      wpAny (model prog w) A (execs body env) (MfPost h₀ env.locals s Led ps (P (i + 1)) I oI Q) E { s with heap := h, toks := tk })
    (done : ∀ (c : σ) (u : Str → Option Value) h tk, P n c → Fr h₀ env.locals h (kstB u (ps c)) → News h₀ env.locals h (Led c) → Q .next { s with heap := h, toks := tk }) :
    LoopAtV prog w A h₀ env x body Q E (.ref I) s := by
  have offI : ∀ c, ∀ p ∈ Led c, p.1 ≠ I := fun c p hp' e => hnI (hadr c ▸ List.mem_map.mpr ⟨p, hp', e⟩)
  refine ⟨I, fp, [I], n, Pv, St, m₀, Led c₀, (fun i m nx => ∃ c : σ, nx = Led c ∧ (∀ p ∈ ps c, m p.1 = some p.2) ∧ P i c), rfl, W, hLf, (fun b hb => by rw [List.mem_singleton.mp hb]; exact hI), (fun p hp' hI' => offI c₀ p hp' (List.mem_singleton.mp hI')), hst, F, (fun p hp' => N p (hn p hp')), ⟨c₀, rfl, hk, hp⟩, ?_, ?_⟩
  · rintro i v m₁ news₁ s₁ own ⟨hh', tk', rfl⟩ hin hP ⟨c, rfl, hk', hp'⟩ hoff hown hget hmem hst' F₁ N₁
    obtain ⟨oI, hoI⟩ := hob _ _ hst'
    have hIn : (I, oI) ∈ own := hmem I (W.sub I (List.mem_singleton.mpr rfl)) hI oI hoI
    have N₂ : News h₀ env.locals hh' ((I, oI) :: Led c) := fun p hp9 => by
      rcases List.mem_cons.mp hp9 with rfl | hp9
      · exact N₁ _ (List.mem_append_left _ hIn)
      · exact N₁ _ (List.mem_append_right _ hp9)
    refine wpAny_mono (turn i v c m₁ hh' tk' oI hin hP hp' (off1_of (offI c)) (mf_fr hk' F₁) N₂) (fun f s₂ p => ?_) fun _ _ e => e
    have fin : MfEnd h₀ env.locals s Led ps (P (i + 1)) I oI s₂ → LoopStepU h₀ env.locals [I] own (fun m nx => ∃ c : σ, nx = Led c ∧ (∀ p ∈ ps c, m p.1 = some p.2) ∧ P (i + 1) c) { s with heap := hh', toks := tk' } .next s₂ := by
      rintro ⟨c', h', tk, m', news', e, F', N', hn', hk9, hp9⟩
      refine ⟨rfl, h', tk, m', Led c', e, F', fun p hp8 => ?_, fun p hp8 hI' => offI c' p hp8 (List.mem_singleton.mp hI'), c', rfl, hk9, hp9⟩
      rcases List.mem_append.mp hp8 with hp8 | hp8
      · have g1 := hget p hp8
        have g0 := (N₁ p (List.mem_append_left _ hp8)).2.2
        rcases hfp p.1 (hown p hp8) with e1 | ⟨o, e1⟩ | ⟨o, e1⟩
        · have g1' : hh'.get? I = some p.2 := e1 ▸ g1
          rw [hoI] at g1'
          have : p = (I, oI) := Prod.ext e1 (Option.some.inj g1').symm
          rw [this]
          exact N' _ (hn' _ (.head _))
        · rw [g0] at e1; cases e1
        · have g2 : hh'.get? p.1 = some o := (N₂ _ (.tail _ (e1 c))).1
          have g1' : hh'.get? p.1 = some p.2 := g1
          rw [g2] at g1'
          have : p = (p.1, o) := Prod.ext rfl (Option.some.inj g1').symm
          rw [this]
          exact N' _ (hn' _ (.tail _ (e1 c')))
      · exact N' p (hn' p (.tail _ hp8))
    cases f with
    | ret v => exact .ret p
    | brk => exact .brk p
    | next => exact .next (fin p)
    | cont => exact .cont (fin p)
  · rintro h' tk m' news' F' N' _ ⟨c, rfl, hk', hp'⟩
    exact done c m' h' tk hp' (mw_fr hk' F') N'

/-- a for over a tuple of the ledger -/
theorem for_tuple {σ : Type} {t : Addr} {items : List Value} {oT : Obj} {m₀ : Str → Option Value} {news : List (Addr × Obj)} (Led : σ → List (Addr × Obj)) (adr : List Addr) (ps : σ → List (Str × Value)) (P : Nat → σ → Prop) (c₀ : σ)
    (hh : A.handled = none) (hT : s.heap.IsTuple t items.toArray) (hmT : ∀ c, (t, oT) ∈ Led c) (hadr : ∀ c, (Led c).map (·.1) = adr)
    (F : Fr h₀ env.locals s.heap m₀) (N : News h₀ env.locals s.heap news) (hn : ∀ p ∈ Led c₀, p ∈ news) (hk : ∀ p ∈ ps c₀, m₀ p.1 = some p.2) (hp : P 0 c₀)
    (turn : ∀ I i v (c : σ) (u : Str → Option Value) h tk oI, items[i]? = some v → P i c → LCg.Off1 I (Led c) → Fr h₀ env.locals h (fun y => if y = x then some v else kstB u (ps c) y) → News h₀ env.locals h ((I, oI) :: Led c) →
      wpAny (model prog w) A (execs body env) (MfPost h₀ env.locals s Led ps (P (i + 1)) I oI Q) E { s with heap := h, toks := tk })
    (done : ∀ (c : σ) (u : Str → Option Value) h tk, P items.length c → Fr h₀ env.locals h (kstB u (ps c)) → News h₀ env.locals h (Led c) → Q .next { s with heap := h, toks := tk }) :
    wpAny (model prog w) A (pyIter (.ref t)) (fun it s₂ => LoopAtV prog w A h₀ env x body Q E it s₂) E s := by
  have hsz : ∀ p ∈ Led c₀, p.1 < s.heap.objs.size := fun p hp' => Heap.lt_size (N p (hn p hp')).1
  have hnt := N _ (hn _ (hmT c₀))
  refine wpAny_pyIter_tuple hT ?_
  refine my_for Led adr ps P c₀ (Walks.tuple hh s.heap.objs.size t (Nat.ne_of_lt (hsz _ (hmT c₀))) items.toArray) (fun i h st => by obtain ⟨o, e, _⟩ := st.1; exact ⟨o, e⟩) (fun b hb => ?_) ?_ (next_is_new F) (fun hm => ?_) hadr ⟨⟨_, Heap.get?_push_size _ rfl, rfl, rfl⟩, hT.at fun o e => Heap.get?_push_of_some _ e⟩ (F.push _) (fun p hp' => ⟨Heap.get?_push_of_some _ (N p hp').1, (N p hp').2⟩) hn hk hp
    (fun i v c u h tk oI hi hv hp' off F' N' => turn _ i v c u h tk oI (by simpa using hv) hp' off F' N') (by simpa using done)
  · rcases List.mem_cons.mp hb with rfl | hb
    · exact .inl rfl
    · rw [List.mem_singleton.mp hb]; exact .inr (.inr ⟨oT, hmT⟩)
  · intro hm
    rcases List.mem_cons.mp hm with e | hm
    · exact absurd F.ns.lt (e ▸ Nat.lt_irrefl _)
    · exact hnt.2.1 (List.mem_singleton.mp hm).symm
  · rw [← hadr c₀] at hm
    obtain ⟨p, hp', e⟩ := List.mem_map.mp hm
    exact absurd (hsz p hp') (e ▸ Nat.lt_irrefl _)

/-- a for over a range -/
theorem for_range {σ : Type} {r : Addr} {a₀ b₀ : Int} {st₀ : Int} {t₀ u₀ v₀ : Tok} {n : Nat} {m₀ : Str → Option Value} {news : List (Addr × Obj)} (Led : σ → List (Addr × Obj)) (adr : List Addr) (ps : σ → List (Str × Value)) (P : Nat → σ → Prop) (c₀ : σ)
    (hh : A.handled = none) (hr : IsRange s.heap r a₀ b₀ st₀ t₀ u₀ v₀) (hsmall : Builtin.Range.small a₀ b₀ st₀ = true) (hsz' : Builtin.Range.rangeSize a₀ b₀ st₀ = (n : Int)) (hadr : ∀ c, (Led c).map (·.1) = adr)
    (F : Fr h₀ env.locals s.heap m₀) (N : News h₀ env.locals s.heap news) (hn : ∀ p ∈ Led c₀, p ∈ news) (hk : ∀ p ∈ ps c₀, m₀ p.1 = some p.2) (hp : P 0 c₀)
    (turn : ∀ I i t (c : σ) (u : Str → Option Value) h tk oI, i < n → P i c → LCg.Off1 I (Led c) → Fr h₀ env.locals h (fun y => if y = x then some (.int (a₀ + (i : Int) * st₀) t) else kstB u (ps c) y) → News h₀ env.locals h ((I, oI) :: Led c) →
      wpAny (model prog w) A (execs body env) (MfPost h₀ env.locals s Led ps (P (i + 1)) I oI Q) E { s with heap := h, toks := tk })
    (done : ∀ (c : σ) (u : Str → Option Value) h tk, P n c → Fr h₀ env.locals h (kstB u (ps c)) → News h₀ env.locals h (Led c) → Q .next { s with heap := h, toks := tk }) :
    wpAny (model prog w) A (pyIter (.ref r)) (fun it s₂ => LoopAtV prog w A h₀ env x body Q E it s₂) E s := by
  have hsz : ∀ p ∈ Led c₀, p.1 < s.heap.objs.size := fun p hp' => Heap.lt_size (N p (hn p hp')).1
  refine wpAny_pyIter_range hr hsmall ?_
  refine my_for Led adr ps P c₀ (Walks.range hh s.heap.objs.size a₀ st₀ n).bound (fun i h st => ⟨_, st⟩) (fun b hb => .inl (List.mem_singleton.mp hb)) (fun hm => absurd F.ns.lt ((List.mem_singleton.mp hm) ▸ Nat.lt_irrefl _)) (next_is_new F) (fun hm => ?_) hadr (by show IsRangeIter _ _ _ _ _; rw [hsz']; simpa using Heap.get?_push_size _ rfl) (F.push _) (fun p hp' => ⟨Heap.get?_push_of_some _ (N p hp').1, (N p hp').2⟩) hn hk hp
    (fun i v c u h tk oI hi hv hp' off F' N' => by
      obtain ⟨_, t, rfl⟩ := hv
      exact turn _ i t c u h tk oI hi hp' off F' N') done
  rw [← hadr c₀] at hm
  obtain ⟨p, hp', e⟩ := List.mem_map.mp hm
  exact absurd (hsz p hp') (e ▸ Nat.lt_irrefl _)

/-- a for over bytes -/
theorem for_bytes {σ : Type} {b : Array UInt8} {tb : Tok} {kl : List Int} {m₀ : Str → Option Value} {news : List (Addr × Obj)} (Led : σ → List (Addr × Obj)) (adr : List Addr) (ps : σ → List (Str × Value)) (P : Nat → σ → Prop) (c₀ : σ)
    (hh : A.handled = none) (hb : KBw.bInts b = kl) (hadr : ∀ c, (Led c).map (·.1) = adr)
    (F : Fr h₀ env.locals s.heap m₀) (N : News h₀ env.locals s.heap news) (hn : ∀ p ∈ Led c₀, p ∈ news) (hk : ∀ p ∈ ps c₀, m₀ p.1 = some p.2) (hp : P 0 c₀)
    (turn : ∀ I i k t (c : σ) (u : Str → Option Value) h tk oI, kl[i]? = some k → P i c → LCg.Off1 I (Led c) → Fr h₀ env.locals h (fun y => if y = x then some (.int k t) else kstB u (ps c) y) → News h₀ env.locals h ((I, oI) :: Led c) →
      wpAny (model prog w) A (execs body env) (MfPost h₀ env.locals s Led ps (P (i + 1)) I oI Q) E { s with heap := h, toks := tk })
    (done : ∀ (c : σ) (u : Str → Option Value) h tk, P kl.length c → Fr h₀ env.locals h (kstB u (ps c)) → News h₀ env.locals h (Led c) → Q .next { s with heap := h, toks := tk }) :
    wpAny (model prog w) A (pyIter (.bytes b tb)) (fun it s₂ => LoopAtV prog w A h₀ env x body Q E it s₂) E s := by
  have hsz : ∀ p ∈ Led c₀, p.1 < s.heap.objs.size := fun p hp' => Heap.lt_size (N p (hn p hp')).1
  refine KBw.pyIter_bytes ?_
  refine my_for Led adr ps P c₀ (KBw.walks hh s.heap.objs.size b tb) (fun i h st => by obtain ⟨o, e, _⟩ := st; exact ⟨o, e⟩) (fun b hb => .inl (List.mem_singleton.mp hb)) (fun hm => absurd F.ns.lt ((List.mem_singleton.mp hm) ▸ Nat.lt_irrefl _)) (next_is_new F) (fun hm => ?_) hadr ⟨_, Heap.get?_push_size _ rfl, rfl, rfl⟩ (F.push _) (fun p hp' => ⟨Heap.get?_push_of_some _ (N p hp').1, (N p hp').2⟩) hn hk hp
    (fun i v c u h tk oI hi hv hp' off F' N' => by
      obtain ⟨c', t, hc, rfl⟩ := hv
      exact turn _ i _ t c u h tk oI (hb ▸ KBw.ints_get hc) hp' off F' N') (by rw [← KBw.ints_length, hb]; exact done)
  rw [← hadr c₀] at hm
  obtain ⟨p, hp', e⟩ := List.mem_map.mp hm
  exact absurd (hsz p hp') (e ▸ Nat.lt_irrefl _)
end
end
section
open PySem PySem.W PySem.Calls PyProof.Rows PySem.Spec
section
variable {prog : Program} {w : World} {A : Around} {E : Value → Shared → Prop} {s : Shared}
theorem list_no_keys : typeLookup (.type "list") "keys" = pure none := by rw [typeLookup_type, builtinLookup_eq_fast]; kernel_rfl
theorem keys_miss {a : Addr} {xs : Array Value} {k : Nat} {sl : Array (Option Value)} {Q : Option Value → Shared → Prop} (hx : s.heap.get? a = some { cls := .type "list", dict := none, data := .seq xs k, slots := sl }) (hA : A.handled = none)
    (h : ∀ h' tk, (∀ b o, s.heap.get? b = some o → h'.get? b = some o) → Q none { s with heap := h', toks := tk }) : wpAny (model prog w) A (getAttr? (.ref a) "keys") Q E s := by
  obtain ⟨hp, g, d, tk, os⟩ := s
  have hT : ∀ tk', (⟨hp, g, d, tk', os⟩ : Shared).TypeIs (.ref a) "list" := fun _ => ⟨_, hx, rfl⟩
  have f1 := sub_AttributeError
  have f3 := F.slot_list_getattribute.lookup
  have f4 := F.slot_list_getattribute.bind (.ref a)
  have f5 := am_list_getattr_none
  unfold getAttr? getAttrBy? getAttrBy
  repeat (any_goals (first | assumption | exact hT _ | ((with_reducible show wpAny _ _ (call (Value.builtin "list.__getattribute__") _ _) _ _ _); refine call_meets F.slot_list_getattribute (hT _) am_entry_list_getattribute (F.args_list_getattribute_2 _ _) (meets_getattribute_miss_list a xs k sl _ _ list_no_keys (by decide) (by decide)) ⟨hx, hA, fun h' tk' e hx' => ?_⟩) | wp_step))
  obtain ⟨t', u', he⟩ := hx'.there
  show wpAny _ _ (getattributeRaised _ _ _ _ _ _ _) _ _ _
  unfold getattributeRaised
  repeat (any_goals (first | assumption | wp_step))
  exact h _ _ hx'.keeps

/-- the items of vs are pairs of ints, each an own tuple -/
def PairsAt (h : Heap) (vs : List Value) (prs : List (Int × Int)) : Prop := vs.length = prs.length ∧ ∀ (j : Nat) (v : Value) (p : Int × Int), vs[j]? = some v → prs[j]? = some p → ∃ (a : Addr) (t u : Tok), v = .ref a ∧ h.IsTuple a #[.int p.1 t, .int p.2 u]
theorem PairsAt.keeps {h h' : Heap} {vs : List Value} {prs : List (Int × Int)} (x : PairsAt h vs prs) (k : ∀ a xs, h.IsTuple a xs → h'.IsTuple a xs) : PairsAt h' vs prs :=
  ⟨x.1, fun j v p h1 h2 => let ⟨a, t, u, e, i⟩ := x.2 j v p h1 h2; ⟨a, t, u, e, k _ _ i⟩⟩
theorem plain_dul : plainId "dict.update.loop" = true := by decide +kernel
theorem entry_dul : entryFor table "dict.update.loop" = some Builtin.«dict.update.loop» := by first | exact entryFor_of_fast (by kernel_rfl) | exact entryFor_of_tree (by kernel_rfl)
def ValsAre : List (Int × Value) → List (Int × Int) → Prop
  | [], [] => True
  | (k, v) :: r, p :: q => k = p.1 ∧ (∃ t, v = .int p.2 t) ∧ ValsAre r q
  | _, _ => False
theorem ValsAre.snoc {k v : Int} {t : Tok} : ∀ {r : List (Int × Value)} {q : List (Int × Int)}, ValsAre r q → ValsAre (r ++ [(k, .int v t)]) (q ++ [(k, v)])
  | [], [], _ => ⟨rfl, ⟨t, rfl⟩, trivial⟩
  | (_, _) :: _, _ :: _, h => ⟨h.1, h.2.1, h.2.2.snoc⟩
  | [], _ :: _, h => h.elim
  | (_, _) :: _, [], h => h.elim
theorem ValsAre.length : ∀ {r : List (Int × Value)} {q : List (Int × Int)}, ValsAre r q → r.length = q.length
  | [], [], _ => rfl
  | (_, _) :: _, _ :: _, h => by rw [List.length_cons, List.length_cons, h.2.2.length]
  | [], _ :: _, h => h.elim
  | (_, _) :: _, [], h => h.elim
theorem dul_loop {R : Result → Shared → Prop} {l I D : Addr} {vs : List Value} {prs : List (Int × Int)} {res : Value} (hh : A.handled = none) (hz : prs.length ≤ 4096) (hID : I ≠ D) (hlI : l ≠ I) (hlD : l ≠ D) :
    ∀ (k i : Nat) (s : Shared) (tk : Tok) (more : List (Int × Value)), prs.length - i = k → i ≤ prs.length → s.heap.IsList l vs.toArray → s.heap.IsListIter I l i → PairsAt s.heap vs prs → (∀ (j : Nat) (v : Value), vs[j]? = some v → v ≠ Value.ref I ∧ v ≠ Value.ref D) → s.heap.DictOf (intKind prog w) D (merged [] more) → ValsAre more (prs.take i) →
      (∀ h' k' more, ValsAre more prs → h'.DictOf (intKind prog w) D (merged [] more) → (∀ b o, b ≠ I → b ≠ D → s.heap.get? b = some o → h'.get? b = some o) → R (.ok (.ret res)) { s with heap := h', toks := k' }) →
      codeAny (model prog w) A (.builtin "dict.update.loop" ⟨[.ref D, .ref I, .int i tk, res], []⟩) R s := by
  intro k
  induction k with
  | zero =>
    intro i s tk more hk hle hl hit hP hne hD hv hR
    have hin : i = prs.length := by omega
    subst hin
    rw [List.take_length] at hv
    refine codeAny_builtin entry_dul ?_
    rw [Around.under_plainId plain_dul _]
    show wpAny _ A.in1 (pyNext (.ref I) >>= _) _ _ s
    refine wpAny_bind (wpAny_pyNext_list_end hh hit hl (by simp [hP.1]) fun h' he => ?_)
    show wpAny _ _ (Builtin.Dict.addKeywords D [] >>= fun _ => ret res) _ _ _
    exact wpAny_bind (wpAny_pure (wpAny_pure (hR h' _ more hv (hD.extBut he (Ne.symm hID)) fun b o hb _ e => he b o hb e)))
  | succ k ih =>
    intro i s tk more hk hle hl hit hP hne hD hv hR
    have hlt : i < prs.length := by omega
    obtain ⟨x, hx⟩ : ∃ x, vs[i]? = some x := ⟨vs[i]'(by rw [hP.1]; exact hlt), List.getElem?_eq_getElem (by rw [hP.1]; exact hlt)⟩
    obtain ⟨a, t, u, rfl, ha⟩ := hP.2 i x (prs[i]'hlt) hx (List.getElem?_eq_getElem hlt)
    refine codeAny_builtin entry_dul ?_
    rw [Around.under_plainId plain_dul _]
    show wpAny _ A.in1 (pyNext (.ref I) >>= _) _ _ s
    refine wpAny_bind (wpAny_pyNext_list_item (x := .ref a) hit hl (by simpa using hx) fun h' hit' hs => ?_)
    have hai : a ≠ I := fun e => (hne i _ hx).1 (by rw [e])
    have had : a ≠ D := fun e => (hne i _ hx).2 (by rw [e])
    have ha' : h'.IsTuple a #[.int (prs[i]'hlt).1 t, .int (prs[i]'hlt).2 u] := ha.extBut hs.extBut hai
    have hD' : h'.DictOf (intKind prog w) D (merged [] more) := hD.sameBut hs (Ne.symm hID)
    have hml : more.length = i := by have := hv.length; rw [List.length_take] at this; omega
    obtain ⟨oa, hoa, hca, na, hda⟩ := id ha'
    refine wpAny_bind (wpAny_holding (wpAny_bind (wpAny_tryCatch ?_)))
    unfold Builtin.Dict.pairItems
    refine wpAny_bind (wpAny_typeOf (T := "tuple") ⟨oa, hoa, hca⟩ ?_)
    refine bm_if_true (by decide) ?_
    refine wpAny_bind ?_
    unfold seqItems?
    show wpAny _ _ (load a >>= _) _ _ _
    refine wpAny_bind (wpAny_load hoa ?_)
    rw [hda]
    refine wpAny_pure (wpAny_pure ?_)
    show wpAny _ _ (holding [_, _] (dictSet D _ _)) _ _ _
    refine wpAny_holding (wpAny_dictSet_pairs (intKind_is prog w _ _) hD' (fun h2 hd2 hs2 => ?_) (by have := merged_length_le [] more; rw [sizeLine_eq]; simp only [List.length_nil] at this; omega))
    refine wpAny_pure ⟨plainId_quiet plain_dul _, ?_⟩
    refine ih (i + 1) _ 0 (more ++ [((prs[i]'hlt).1, .int (prs[i]'hlt).2 u)]) (by omega) hlt ?_ ?_ ?_ hne ?_ ?_ fun h3 k' more' hv3 hd3 hk3 => ?_
    · exact (hl.extBut hs.extBut hlI).extBut hs2.extBut hlD
    · exact hit'.extBut hs2.extBut hID
    · refine ⟨hP.1, fun j v p h1 h3 => ?_⟩
      obtain ⟨a', t', u', e', i'⟩ := hP.2 j v p h1 h3
      have n1 : a' ≠ I := fun e => (hne j _ h1).1 (by rw [e', e])
      have n2 : a' ≠ D := fun e => (hne j _ h1).2 (by rw [e', e])
      exact ⟨a', t', u', e', (i'.extBut hs.extBut n1).extBut hs2.extBut n2⟩
    · have e : merged [] (more ++ [((prs[i]'hlt).1, Value.int (prs[i]'hlt).2 u)]) = stored (merged [] more) (prs[i]'hlt).1 (.int (prs[i]'hlt).2 u) := by simp [merged, List.foldl_append]
      rw [e]
      exact hd2
    · rw [List.take_add_one, List.getElem?_eq_getElem hlt]
      exact hv.snoc
    · exact hR h3 k' more' hv3 hd3 fun b o hbI hbD e => hk3 b o hbI hbD (hs2.extBut b o hbD (hs.extBut b o hbI e))
theorem dict_pairs {l : Addr} {vs : List Value} {prs : List (Int × Int)} {k : Nat} {sl : Array (Option Value)} {Q : Value → Shared → Prop} (hh : A.handled = none) (hx : s.heap.get? l = some { cls := .type "list", dict := none, data := .seq vs.toArray k, slots := sl }) (hP : PairsAt s.heap vs prs) (hz : prs.length ≤ 4096)
    (h : ∀ h' k' more, ValsAre more prs → h'.DictOf (intKind prog w) s.heap.objs.size (merged [] more) → (∀ b o, s.heap.get? b = some o → h'.get? b = some o) → Q (.ref s.heap.objs.size) { s with heap := h', toks := k' }) :
    wpAny (model prog w) A (call (.type "dict") [.ref l]) Q E s := by
  refine callType_codes (Q₁ := fun obj s₁ => obj = .ref s.heap.objs.size ∧ s₁ = { s with heap := s.heap.push { cls := .type "dict", data := .dict #[] } }) F.kt_called_dict (F.kt_typeCall_dict_1 _) F.entry_dict_init (kt_code_dict_new _ ⟨rfl, rfl⟩) ?_
  rintro obj s₁ ⟨rfl, rfl⟩
  have hnew : (s.heap.push { cls := .type "dict", data := .dict #[] }).DictOf (intKind prog w) s.heap.objs.size [] := Heap.DictOf.new s.heap
  have hx1 : (s.heap.push { cls := .type "dict", data := .dict #[] }).get? l = some { cls := .type "list", dict := none, data := .seq vs.toArray k, slots := sl } := Heap.get?_push_of_some _ hx
  refine ⟨hnew.typeIs, F.args_dict_init_2 _ _, ?_⟩
  unfold Builtin.«dict.__init__»
  refine wpAny_bind ?_
  unfold Builtin.Dict.selfAndRest
  refine wpAny_bind (wpAny_notOrdered_dict hnew.typeIs ?_)
  show wpAny _ _ (pure (s.heap.objs.size, [Value.ref l])) _ _ _
  refine wpAny_pure ?_
  show wpAny _ _ (Builtin.Dict.updateFrom "dict.__init__" s.heap.objs.size (.ref l) [] .none) _ _ _
  unfold Builtin.Dict.updateFrom
  refine wpAny_bind (wpAny_typeOf (T := "list") ⟨_, hx1, rfl⟩ ?_)
  refine bm_if_true (by decide) ?_
  refine wpAny_bind (keys_miss hx1 hh fun h2 tk2 hk2 => ?_)
  refine bm_if_true (by decide) ?_
  refine wpAny_bind (wpAny_rule ?_)
  have hl2 : h2.IsList l vs.toArray := ⟨_, hk2 _ _ hx1, rfl, _, rfl⟩
  refine wpAny_bind (wpAny_pyIter_list hl2 ?_)
  have up : ∀ b o, s.heap.get? b = some o → h2.get? b = some o := fun b o e => hk2 b o (Heap.get?_push_of_some _ e)
  have hDlt : s.heap.objs.size < h2.objs.size := by
    obtain ⟨_, _, _, e, _⟩ := hnew
    exact Heap.lt_size (hk2 _ _ e)
  have hllt : l < s.heap.objs.size := Heap.lt_size hx
  have hD2 : h2.DictOf (intKind prog w) s.heap.objs.size [] := hnew.at fun o e => hk2 _ o e
  refine wpAny_pure ⟨plainId_quiet plain_dul _, ?_⟩
  refine dul_loop (prog := prog) (w := w) (A := A.in1) (I := h2.objs.size) (D := s.heap.objs.size) (l := l) (vs := vs) (prs := prs) hh hz (Nat.ne_of_gt hDlt) (Nat.ne_of_lt (Nat.lt_trans hllt hDlt)) (Nat.ne_of_lt hllt) _ 0 _ 0 [] rfl (Nat.zero_le _) ?_ ?_ ?_ ?_ ?_ trivial fun h' k' more hv hd hk => ?_
  · exact hl2.push _
  · exact ⟨_, Heap.get?_push_size _ rfl, rfl, rfl⟩
  · exact hP.keeps fun a xs ⟨o, e, r⟩ => ⟨o, Heap.get?_push_of_some _ (up a o e), r⟩
  · intro j v hv
    have hj : j < prs.length := by rw [← hP.1]; exact (List.getElem?_eq_some_iff.1 hv).1
    obtain ⟨a, t, u, e, o, ho, _⟩ := hP.2 j v (prs[j]'hj) hv (List.getElem?_eq_getElem hj)
    have ha : a < s.heap.objs.size := Heap.lt_size ho
    subst e
    exact ⟨fun q => absurd (Nat.lt_trans ha hDlt) (by cases q; exact Nat.lt_irrefl _), fun q => absurd ha (by cases q; exact Nat.lt_irrefl _)⟩
  · exact hD2.push _
  · refine ⟨rfl, h h' k' more hv hd fun b o e => ?_⟩
    have hb : b < s.heap.objs.size := Heap.lt_size e
    exact hk b o (Nat.ne_of_lt (Nat.lt_trans hb hDlt)) (Nat.ne_of_lt hb) (Heap.get?_push_of_some _ (up b o e))
end
end
section
open PySem PySem.W PySem.Calls PyProof.Rows PySem.Spec
namespace BJ
open Builtin
theorem slot_join : Slot "bytes" "join" "bytes.join" :=
  .of (owner := "bytes") (n := "join") (by rw [typeLookup_type, builtinLookup_eq_fast]; kernel_rfl) (by decide +kernel) (by decide +kernel) (by decide +kernel)
    (by first | exact .inl (by decide +kernel) | exact .inr (by decide +kernel)) (by rw [isSubtype_type]; kernel_rfl)
theorem entry_join : entryFor table "bytes.join" = some Builtin.«bytes.join» := by first | exact entryFor_of_fast (by kernel_rfl) | exact entryFor_of_tree (by kernel_rfl)
theorem args_join (a b : Value) : argsOk "bytes.join" ⟨[a, b], []⟩ := by unfold argsOk; kernel_rfl
theorem type_join : typeOf (.builtin "bytes.join") = pure (.type "method_descriptor") := by kernel_rfl
inductive BytesAre : List Value → List (Array UInt8) → Prop
  | nil : BytesAre [] []
  | cons {vs : List Value} {bs : List (Array UInt8)} (b : Array UInt8) (t : Tok) : BytesAre vs bs → BytesAre (.bytes b t :: vs) (b :: bs)
section
variable {prog : Program} {w : World} {A : Around} {E : Value → Shared → Prop} {s : Shared} {b : Array UInt8} {t : Tok}
theorem method {M : Model} {pl : Sem Bool} {Q : Value × List Value → Shared → Prop} (h : Q (.builtin "bytes.join", [.bytes b t]) s) : wpAny M A (getMethod (.bytes b t) "join" pl) Q E s := by
  with_reducible exact KBd.method_of (.bytes b t) (typeIs_bytes _ _ _) slot_join type_join KBd.noRef h
theorem take_eq {id : String} : Bytes.takeBufferQuiet? id (.bytes b t) 0 = pure (some (b, none)) := by
  unfold Bytes.takeBufferQuiet? Bytes.takeBuffer?
  rw [KBy.special_eq KBy.look_buffer, KBy.own_buffer]
  simp only [pure_bind]
  rw [if_neg (by decide)]
  have e : (0 == Bytes.fullReadOnly) = false := by decide
  rw [e, KBy.buffer_eq]
  rfl
theorem letGo_all : ∀ (taken : List (Value × Option Value)) (keep : List Value) {Q : Unit → Shared → Prop}, (∀ p ∈ taken, p.2 = none) → Q () s → wpAny (model prog w) A (Bytes.joinLetGo taken keep) Q E s
  | [], _, _, _, h => by unfold Bytes.joinLetGo; exact wpAny_pure h
  | (x, w') :: r', keep, Q, hn, h => by
    have : w' = none := hn _ (.head _)
    subst this
    unfold Bytes.joinLetGo
    refine wpAny_bind (wpAny_letGo (letGo_all r' keep (fun p hp => hn p (.tail _ hp)) h))
theorem bytes_get : ∀ {vs : List Value} {bs : List (Array UInt8)}, BytesAre vs bs → vs.length = bs.length ∧ ∀ (i : Nat) (h : i < bs.length), ∃ t', vs[i]? = some (.bytes bs[i] t')
  | _, _, .nil => ⟨rfl, fun i h => absurd h (Nat.not_lt_zero _)⟩
  | _, _, .cons b t r => by
    obtain ⟨h1, h2⟩ := bytes_get r
    refine ⟨by rw [List.length_cons, List.length_cons, h1], fun i h => ?_⟩
    cases i with
    | zero => exact ⟨t, rfl⟩
    | succ i => exact h2 i (by simpa using h)
def catB (bs : List (Array UInt8)) : Array UInt8 := bs.foldl (· ++ ·) #[]
theorem joined_go : ∀ (bs : List (Array UInt8)) (n : Nat) (acc : Array UInt8), (bs.zipIdx n).foldl (fun out (p, i) => (if i > 0 then out ++ #[] else out) ++ p) acc = bs.foldl (· ++ ·) acc
  | [], _, _ => rfl
  | b :: r, n, acc => by
    rw [List.zipIdx_cons, List.foldl_cons, List.foldl_cons, joined_go r]
    simp
theorem joined_nil (bs : List (Array UInt8)) : Bytes.joined #[] bs.toArray.toList = catB bs := by
  rw [List.toList_toArray]
  exact joined_go bs 0 #[]
theorem join_meets {D : Addr} {vs : List Value} {bs : List (Array UInt8)} (hb : BytesAre vs bs) (hz : (bs.map (·.size)).sum ≤ 65536) :
    Meets (Builtin.«bytes.join» ⟨[.bytes #[] t, .ref D], []⟩) (fun A R s => s.heap.IsList D vs.toArray ∧ ∀ t' k, R (.ok (.ret (.bytes (catB bs) t'))) { s with toks := k }) := by
  obtain ⟨hlen, hget⟩ := bytes_get hb
  intro prog w A R s ⟨hl, hR⟩
  unfold Builtin.«bytes.join» Bytes.joinM
  obtain ⟨o, ho, hc, n, hd⟩ := id hl
  refine wpAny_bind (wpAny_pure ?_)
  dsimp only
  refine wpAny_bind ?_
  unfold Bytes.joinItems
  refine wpAny_bind (wpAny_typeOf hl.typeIs ?_)
  rw [if_pos (by decide)]
  refine wpAny_pure ?_
  have seqI : ∀ {s' : Shared} {Q : Option (Array Value) → Shared → Prop}, s'.heap.get? D = some o → Q (some vs.toArray) s' → wpAny (model prog w) A.in1 (seqItems? (.ref D)) Q (fun e s' => R (.error e) s') s' := by
    intro s' Q h1 h2
    unfold seqItems?
    refine wpAny_bind (wpAny_load h1 ?_)
    rw [hd]
    exact wpAny_pure h2
  refine wpAny_bind (seqI ho ?_)
  dsimp only
  rw [if_pos (by decide)]
  have fin : ∀ (b : Array (Array UInt8) × List (Value × Option Value)), b.1 = bs.toArray → (∀ p ∈ b.2, p.2 = none ∧ p.1.onHeap = false) → wpAny (model prog w) A.in1 (do
      let sep ← Bytes.payload (.bytes #[] t)
      if Bytes.tooLong (b.1.foldl (· + ·.size) (sep.size * (b.1.size - 1))) then unsupported s!"{s!"{Bytes.Kind.bytes.name}.join"}:memory"
      let result ← Bytes.Kind.bytes.new (Bytes.joined sep b.1.toList)
      holding (result :: b.2.flatMap fun (y, u) => y :: u.toList) point
      Bytes.joinLetGo b.2 [result]
      ret result) (fun fin s' => match fin with | .done f => R (.ok f) s' | .again c' => c'.quiet = true ∧ codeAny (model prog w) A c' R s') (fun e s' => R (.error e) s') s := by
    intro b hb1 hb2
    rw [hb1]
    refine wpAny_bind ?_
    unfold Bytes.payload
    refine wpAny_bind (wpAny_pure (wpAny_pure ?_))
    have e1 : bs.toArray.foldl (fun x1 x2 => x1 + x2.size) ((#[] : Array UInt8).size * (bs.toArray.size - 1)) = (bs.map (·.size)).sum := by
      rw [List.foldl_toArray]
      have : ∀ (l : List (Array UInt8)) (n : Nat), l.foldl (fun x1 x2 => x1 + x2.size) n = n + (l.map (·.size)).sum := by
        intro l
        induction l with
        | nil => intro n; rfl
        | cons a l ih => intro n; rw [List.foldl_cons, ih, List.map_cons, List.sum_cons]; omega
      rw [this]
      simp
    have e2 : Bytes.tooLong (bs.toArray.foldl (fun x1 x2 => x1 + x2.size) ((#[] : Array UInt8).size * (bs.toArray.size - 1))) = false := by
      refine Eq.trans (congrArg Bytes.tooLong e1) ?_
      unfold Bytes.tooLong
      rw [sizeLine_eq]
      simp
      have hz' := hz
      rw [← e1] at hz'
      simp at hz'
      omega
    rw [e2]
    refine bm_if_false rfl ?_
    rw [joined_nil]
    have e3 : (catB bs).size ≤ sizeLine := by
      have : ∀ (l : List (Array UInt8)) (acc : Array UInt8), (l.foldl (· ++ ·) acc).size = acc.size + (l.map (·.size)).sum := by
        intro l
        induction l with
        | nil => intro acc; simp
        | cons b r ih => intro acc; rw [List.foldl_cons, ih, List.map_cons, List.sum_cons, Array.size_append]; omega
      rw [catB, this, sizeLine_eq]
      simp
      omega
    refine wpAny_bind (wpAny_mkBytes ?_ e3)
    refine wpAny_bind (wpAny_holding (wpAny_point ?_))
    refine wpAny_bind (letGo_all _ _ (fun p hp => (hb2 p hp).1) ?_)
    exact wpAny_pure (hR _ _)
  rcases vs with _ | ⟨x0, _ | ⟨y0, r0⟩⟩
  · cases hb
    refine wpAny_bind ?_
    rw [Std.Legacy.Range.forIn_eq_forIn_range']
    refine wpAny_pure ?_
    exact fin (#[], []) rfl (by intro p h; cases h)
  · cases hb with
    | cons b tb r =>
      cases r
      refine wpAny_bind (wpAny_pure ?_)
      rw [if_pos (by decide)]
      refine wpAny_bind (wpAny_rule ?_)
      have e : catB [b] = b := by simp [catB]
      have := hR tb s.toks
      rw [e] at this
      exact wpAny_pure this
  · refine wpAny_bind ?_
    rw [Std.Legacy.Range.forIn_eq_forIn_range']
    simp only [Std.Legacy.Range.size, Nat.sub_zero, Nat.add_sub_cancel, Nat.div_one]
    refine wpAny_forIn_list _
      (fun rest b s' => ∃ i, s' = s ∧ rest = List.range' i ((x0 :: y0 :: r0).length - i) ∧ i ≤ (x0 :: y0 :: r0).length ∧ b.1 = (bs.take i).toArray ∧ (∀ p ∈ b.2, p.2 = none ∧ p.1.onHeap = false))
      _ ?_ ?_ _ _ ⟨0, rfl, by simp, Nat.zero_le _, by simp, by intro p h; cases h⟩
    · rintro x rest b s' ⟨i, rfl, hr, hi, hb1, hb2⟩
      have hlt : i < (x0 :: y0 :: r0).length := by
        rcases Nat.lt_or_ge i (x0 :: y0 :: r0).length with h | h
        · exact h
        · rw [Nat.sub_eq_zero_of_le h] at hr; simp at hr
      obtain ⟨rfl, hrest⟩ : x = i ∧ rest = List.range' (i + 1) ((x0 :: y0 :: r0).length - (i + 1)) := by
        have e : (x0 :: y0 :: r0).length - i = ((x0 :: y0 :: r0).length - (i + 1)) + 1 := by omega
        rw [e, List.range'_succ] at hr
        injection hr with h1 h2
        exact ⟨h1, h2⟩
      refine wpAny_bind (seqI ho ?_)
      dsimp only
      obtain ⟨t', ht'⟩ := hget x (hlen ▸ hlt)
      have hnow : (x0 :: y0 :: r0).toArray.getD x .none = .bytes (bs[x]'(hlen ▸ hlt)) t' := by
        rw [Array.getD_eq_getD_getElem?]
        simp [ht']
      rw [hnow]
      have hany : (Bytes.Kind.bytes == Bytes.Kind.bytearray || b.2.any fun x => x.1.onHeap) = false := by
        rw [Bool.or_eq_false_iff]
        refine ⟨by decide, List.any_eq_false.mpr fun p hp => ?_⟩
        rw [(hb2 p hp).2]; decide
      rw [hany]
      rw [if_neg (by decide)]
      refine wpAny_bind (wpAny_holding ?_)
      rw [take_eq]
      refine wpAny_pure ?_
      dsimp only
      refine wpAny_bind (seqI ho ?_)
      dsimp only
      rw [if_neg (by simp)]
      refine wpAny_pure ⟨x + 1, rfl, hrest, hlt, ?_, ?_⟩
      · show b.1.push _ = _
        rw [hb1, List.push_toArray, List.take_add_one, List.getElem?_eq_getElem (hlen ▸ hlt)]
        rfl
      · intro p hp
        rcases List.mem_append.mp hp with hp | hp
        · exact hb2 p hp
        · rw [List.mem_singleton.mp hp]
          exact ⟨rfl, rfl⟩
    · rintro b s' ⟨i, rfl, hr, hi, hb1, hb2⟩
      have hin : i = (x0 :: y0 :: r0).length := by
        rcases Nat.lt_or_ge i (x0 :: y0 :: r0).length with h | h
        · have e : (x0 :: y0 :: r0).length - i = ((x0 :: y0 :: r0).length - (i + 1)) + 1 := by omega
          rw [e, List.range'_succ] at hr; exact nomatch hr
        · exact Nat.le_antisymm hi h
      rw [hin, hlen, List.take_length] at hb1
      exact fin b hb1 hb2
theorem join_call {D : Addr} {vs : List Value} {bs : List (Array UInt8)} {Q : Value → Shared → Prop} (hl : s.heap.IsList D vs.toArray) (hb : BytesAre vs bs) (hz : (bs.map (·.size)).sum ≤ 65536) (h : ∀ t' k, Q (.bytes (catB bs) t') { s with toks := k }) :
    wpAny (model prog w) A (call (.builtin "bytes.join") [.bytes #[] t, .ref D]) Q E s :=
  call_meets slot_join (typeIs_bytes _ _ _) entry_join (args_join _ _) (join_meets hb hz) ⟨hl, fun t' k => h t' k⟩
theorem bInts_append (a b : Array UInt8) : KBw.bInts (a ++ b) = KBw.bInts a ++ KBw.bInts b := by simp [KBw.bInts]
theorem bInts_cat (bs : List (Array UInt8)) : KBw.bInts (catB bs) = (bs.map KBw.bInts).flatten := by
  have : ∀ (l : List (Array UInt8)) (acc : Array UInt8), KBw.bInts (l.foldl (· ++ ·) acc) = KBw.bInts acc ++ (l.map KBw.bInts).flatten := by
    intro l
    induction l with
    | nil => intro acc; simp
    | cons b r ih => intro acc; rw [List.foldl_cons, ih, bInts_append]; simp
  rw [catB, this]
  simp [KBw.bInts]
end
end BJ
end
section
open PySem PySem.W PySem.Calls PyProof.Rows PySem.Spec
section
variable {prog : Program} {w : World} {A : Around} {E : Value → Shared → Prop} {Q : Flow → Shared → Prop} {s : Shared} {env : Env} {h₀ : Heap} {x : Str} {body : List Stmt}
/-- a for over a list that stood before the call -/
theorem for_list {σ : Type} {a : Addr} {items : List Value} {m₀ : Str → Option Value} {news : List (Addr × Obj)} (Led : σ → List (Addr × Obj)) (adr : List Addr) (ps : σ → List (Str × Value)) (P : Nat → σ → Prop) (c₀ : σ)
    (hh : A.handled = none) (hl : h₀.IsList a items.toArray) (hadr : ∀ c, (Led c).map (·.1) = adr)
    (F : Fr h₀ env.locals s.heap m₀) (N : News h₀ env.locals s.heap news) (hn : ∀ p ∈ Led c₀, p ∈ news) (hk : ∀ p ∈ ps c₀, m₀ p.1 = some p.2) (hp : P 0 c₀)
    (turn : ∀ I i v (c : σ) (u : Str → Option Value) h tk oI, items[i]? = some v → P i c → LCg.Off1 I (Led c) → Fr h₀ env.locals h (fun y => if y = x then some v else kstB u (ps c) y) → News h₀ env.locals h ((I, oI) :: Led c) →
      wpAny (model prog w) A (execs body env) (MfPost h₀ env.locals s Led ps (P (i + 1)) I oI Q) E { s with heap := h, toks := tk })
    (done : ∀ (c : σ) (u : Str → Option Value) h tk, P items.length c → Fr h₀ env.locals h (kstB u (ps c)) → News h₀ env.locals h (Led c) → Q .next { s with heap := h, toks := tk }) :
    wpAny (model prog w) A (pyIter (.ref a)) (fun it s₂ => LoopAtV prog w A h₀ env x body Q E it s₂) E s := by
  have hsz : ∀ p ∈ Led c₀, p.1 < s.heap.objs.size := fun p hp' => Heap.lt_size (N p (hn p hp')).1
  obtain ⟨oa, ha0, hra⟩ := id hl
  have hls : s.heap.IsList a items.toArray := ⟨oa, F.keep _ _ ha0, hra⟩
  have halt : a < s.heap.objs.size := Heap.lt_size (F.keep _ _ ha0)
  refine wpAny_pyIter_list hls ?_
  refine my_for Led adr ps P c₀ (Walks.list hh s.heap.objs.size a (Nat.ne_of_lt halt) items.toArray) (fun i h st => by obtain ⟨o, e, _⟩ := st.1; exact ⟨o, e⟩) (fun b hb => ?_) ?_ (next_is_new F) (fun hm => ?_) hadr ⟨⟨_, Heap.get?_push_size _ rfl, rfl, rfl⟩, hls.push _⟩ (F.push _) (fun p hp' => ⟨Heap.get?_push_of_some _ (N p hp').1, (N p hp').2⟩) hn hk hp
    (fun i v c u h tk oI hi hv hp' off F' N' => turn _ i v c u h tk oI (by simpa using hv) hp' off F' N') (by simpa using done)
  · rcases List.mem_cons.mp hb with rfl | hb
    · exact .inl rfl
    · rw [List.mem_singleton.mp hb]; exact .inr (.inl ⟨oa, ha0⟩)
  · intro hm
    rcases List.mem_cons.mp hm with e | hm
    · exact absurd F.ns.lt (e ▸ Nat.lt_irrefl _)
    · have e := List.mem_singleton.mp hm
      have := Heap.get?_none_of_le F.above
      rw [e, ha0] at this
      cases this
  · rw [← hadr c₀] at hm
    obtain ⟨p, hp', e⟩ := List.mem_map.mp hm
    exact absurd (hsz p hp') (e ▸ Nat.lt_irrefl _)

def MbEnd {σ : Type} (h₀ : Heap) (L : Addr) (s : Shared) (Led : σ → List (Addr × Obj)) (ps : σ → List (Str × Value)) (R : σ → Prop) (s₂ : Shared) : Prop :=
  ∃ (c' : σ) (h' : Heap) (tk : Nat) (m' : Str → Option Value) (news' : List (Addr × Obj)), s₂ = { s with heap := h', toks := tk } ∧ Fr h₀ L h' m' ∧ News h₀ L h' news' ∧ (∀ p ∈ Led c', p ∈ news') ∧ (∀ p ∈ ps c', m' p.1 = some p.2) ∧ R c'
def MbPost {σ : Type} (h₀ : Heap) (L : Addr) (s : Shared) (Led : σ → List (Addr × Obj)) (ps : σ → List (Str × Value)) (P R : σ → Prop) (I : Addr) (oI : Obj) (Q : Flow → Shared → Prop) (f : Flow) (s₂ : Shared) : Prop :=
  match f with
  | .ret v => Q (.ret v) s₂
  | .brk => MbEnd h₀ L s Led ps R s₂
  | _ => MfEnd h₀ L s Led ps P I oI s₂
theorem mb_end {σ : Type} {h₀ : Heap} {L : Addr} {s : Shared} {Led : σ → List (Addr × Obj)} {ps : σ → List (Str × Value)} {m' : Str → Option Value} {R : σ → Prop} {h' : Heap} {tk : Nat} {news' : List (Addr × Obj)} (c' : σ)
    (F : Fr h₀ L h' m') (N : News h₀ L h' news') (hn : ∀ p ∈ Led c', p ∈ news') (hk : ∀ p ∈ ps c', m' p.1 = some p.2) (hp : R c') :
    MbEnd h₀ L s Led ps R { s with heap := h', toks := tk } := ⟨c', h', tk, m', news', rfl, F, N, hn, hk, hp⟩
/-- a for over bytes with a break: one follow-up for both ends -/
theorem for_bytesB {σ : Type} {b : Array UInt8} {tb : Tok} {kl : List Int} {m₀ : Str → Option Value} {news : List (Addr × Obj)} (Led : σ → List (Addr × Obj)) (adr : List Addr) (ps : σ → List (Str × Value)) (P : Nat → σ → Prop) (R : σ → Prop) (c₀ : σ)
    (hh : A.handled = none) (hb : KBw.bInts b = kl) (hadr : ∀ c, (Led c).map (·.1) = adr)
    (F : Fr h₀ env.locals s.heap m₀) (N : News h₀ env.locals s.heap news) (hn : ∀ p ∈ Led c₀, p ∈ news) (hk : ∀ p ∈ ps c₀, m₀ p.1 = some p.2) (hp : P 0 c₀) (hPR : ∀ c, P kl.length c → R c)
    (turn : ∀ I i k t (c : σ) (u : Str → Option Value) h tk oI, kl[i]? = some k → P i c → LCg.Off1 I (Led c) → Fr h₀ env.locals h (fun y => if y = x then some (.int k t) else kstB u (ps c) y) → News h₀ env.locals h ((I, oI) :: Led c) →
      wpAny (model prog w) A (execs body env) (MbPost h₀ env.locals s Led ps (P (i + 1)) R I oI Q) E { s with heap := h, toks := tk })
    (done : ∀ (c : σ) (u : Str → Option Value) h tk, R c → Fr h₀ env.locals h (kstB u (ps c)) → News h₀ env.locals h (Led c) → Q .next { s with heap := h, toks := tk }) :
    wpAny (model prog w) A (pyIter (.bytes b tb)) (fun it s₂ => LoopAtV prog w A h₀ env x body Q E it s₂) E s := by
  refine for_bytes Led adr ps P c₀ hh hb hadr F N hn hk hp (fun I i k t c u h tk oI h1 h2 h3 h4 h5 => ?_) fun c u h tk hp' F' N' => done c u h tk (hPR c hp') F' N'
  refine wpAny_mono (turn I i k t c u h tk oI h1 h2 h3 h4 h5) (fun f s₂ p => ?_) fun _ _ e => e
  cases f with
  | ret v => exact p
  | brk =>
    obtain ⟨c', h', tk', m', news', e, F', N', hn', hk', hR⟩ := p
    subst e
    exact done c' m' h' tk' hR (mw_fr hk' F') fun q hq => N' q (hn' q hq)
  | next => exact p
  | cont => exact p
end
section
variable {prog : Program} {w : World} {A : Around} {E : Value → Shared → Prop} {s : Shared} {h₀ : Heap} {L : Addr} {m : Str → Option Value} {env : Env}
/-- a list comprehension over a range of any step -/
theorem ListComp_range {elt iter : Expr} {x : Str} {px : Pos} {scope : Scope} {cl : List (Str × Addr)} {pos : Pos} {Q : Value → Shared → Prop} (_F₀ : Fr h₀ L s.heap m)
    (hclos : closureFor scope env = pure cl) (hcell : ∀ y ∈ scope.names, y.2 ≠ .cell) (hkind : scope.kind = .function)
    (hnames : ∀ y ∈ scope.names, y.2 = .local → scope.names.lookup y.1 = some .local) (hx : scope.names.lookup x = some .local)
    (h : wpAny (model prog w) A (eval iter env) (fun xv s₁ => ∃ (r : Addr) (a b st : Int) (t u v : Tok) (n : Nat) (news : List (Addr × Obj)), xv = .ref r ∧ A.handled = none ∧ Fr h₀ L s₁.heap m ∧ News h₀ L s₁.heap news ∧ IsRange s₁.heap r a b st t u v ∧ Builtin.Range.small a b st = true ∧ Builtin.Range.rangeSize a b st = ((n : Nat) : Int) ∧ n ≤ sizeLine ∧
      ∀ s₂ : Shared, (∃ h, s₂ = { s₁ with heap := h }) → LCg.CompRest prog w A h₀ L m env elt x scope cl s₂ (fun _ => True) (fun i v => ∃ t, v = .int (a + (i : Int) * st) t) (LCg.FinE h₀ L m s₂ Q) n 0 [] news) E s)
    (hs : ∀ x, foldedSetIterable iter env x = pure x := by intro _; rfl) :
    wpAny (model prog w) A (eval (.ListComp elt [⟨.Name x px, iter, [], 0⟩] scope pos) env) Q E s := by
  rw [eval_ListComp]
  refine wpAny_comprehension_free (use := none) rfl hs hclos hkind hnames (wpAny_mono h (fun xv s₁ h₁ => ?_) fun _ _ e => e)
  obtain ⟨r, a, b, st, t, u, v, n, news, rfl, hh, F, N, hr, hsm, hn, hsz, R⟩ := h₁
  refine wpAny_pyIter_range hr hsm ?_
  refine LCg.block_U (P := fun i v => ∃ t, v = .int (a + (i : Int) * st) t) (Walks.range hh s₁.heap.objs.size a st n) hsz (fun i h st => ⟨_, st⟩) (fun i h h' o nw st e e' _ _ _ => by
      have st' : h.get? _ = some _ := st
      show h'.get? _ = some _
      rw [e', ← e]; exact st') hcell hkind hx (by show IsRangeIter _ _ _ _ _; rw [hn]; simpa using Heap.get?_push_size _ rfl) (fun b hb => ?_)
      (F.keeps fun _ _ e => Heap.get?_push_of_some _ e) (N.grown fun _ _ e => Heap.get?_push_of_some _ e) (Nat.ne_of_lt F.ns.lt) (next_is_new F) (fun p hp => Nat.ne_of_lt (Heap.lt_size (N p hp).1)) trivial (R _ ⟨_, rfl⟩) ?_
  · rw [List.mem_singleton.mp hb]
    show s₁.heap.objs.size < (s₁.heap.push _).objs.size
    rw [Heap.size_push]; exact Nat.lt_succ_self _
  · intro D C h tk m' ys news' F' N' o1 hn hC₀ hD₀ hCL hDL hCD offC fin
    refine ⟨m', hn, fun h'' hs'' => fin D h'' tk (F'.change hs'' hCL hC₀) (fun p hp => ?_) o1⟩
    refine ⟨hs''.extBut _ _ ?_ (N' p hp).1, (N' p hp).2⟩
    rcases List.mem_cons.mp hp with rfl | hp
    · exact Ne.symm hCD
    · exact offC p hp
end
theorem apart1 {a : Addr} {o : Obj} : ∀ {news : List (Addr × Obj)}, (∀ q ∈ news, ∀ p ∈ [(a, o)], p.1 ≠ q.1) → LCg.Off1 a news
  | [], _ => trivial
  | q :: r, h => ⟨Ne.symm (h q (.head _) (a, o) (.head _)), apart1 fun q' hq => h q' (.tail _ hq)⟩
end
section
open PySem PySem.W PySem.Calls PyProof.Rows PySem.Spec
/-- a call that changes one object q of its caller's ledger, leaves all others, and gives a flat value -/
def MutC (prog : Program) (w : World) (K : Frag) (f : Addr) (k : Nat) (vs : List Value) (q : Addr) (obj : Obj) (Pre : Heap → Prop) (Out : Value → Obj → Prop) : Prop :=
  ∀ (p : Program) (loose : List Str) (mean : ExcName → Option Value) (mg mb : Str → Option Value) (dp un : Nat) (gd : Option (List Code)) (cn : Str) (cs : Scope) (a : Addr) (ccd : Value) (cl : List (Str × Addr)) (outer : List Env) (A₀ : Around) (base h₀ : Heap) (L : Addr) (m : Str → Option Value) (s : Shared) (Q E : Value → Shared → Prop),
    Below A₀ base outer h₀ → Fr h₀ L s.heap m → K.In h₀ → Top p loose mean mg mb h₀ → cs.kind = .function → dp + k < recursionLimit → un + 8 * k < cLine → News h₀ L s.heap [(q, obj)] → Pre (hideAll s.heap [q]) →
    (∀ r obj' h' tk', (∀ b o, b ≠ q → s.heap.get? b = some o → h'.get? b = some o) → h'.get? q = some obj' → Out r obj' → Q r { s with heap := h', toks := tk' }) →
    wpAny (model prog w) (ktrTop dp un gd cn cs L a ccd cl outer) (call (.ref f) vs) Q E s
section
variable {prog : Program} {w : World} {K : Frag} {f : Addr} {k : Nat} {vs : List Value} {q : Addr} {obj : Obj} {Pre : Heap → Prop} {Out : Value → Obj → Prop}
theorem mut_intro {name qual : Str} {params : Arguments} {body : List Stmt} {scope : Scope} {dV kV doc pm cdv ct oc : Value} {an od : Option Addr} {osl : Array (Option Value)} {binds : List (Str × Value)}
    (ho : K.lookup f = some ⟨oc, od, .func (fnOf name qual params body scope dV kV doc pm an cdv ct), osl⟩) (hcd : codeIn K cdv qual = true)
    (hbind : ∀ s, BindsTo s (fnOf name qual params body scope dV kV doc pm an cdv ct) ⟨vs, []⟩ binds) (hloc : ∀ y ∈ binds, scope.names.lookup y.1 = some .local)
    (hco : scope.isCoroutine = false) (hgen : scope.isGenerator = false) (hk : scope.kind = .function) (hcell : ∀ x ∈ scope.names, x.2 ≠ .cell)
    (h : ∀ (p : Program) (loose : List Str) (mean : ExcName → Option Value) (mg mb : Str → Option Value) (g : Heap) (L' : Addr) (dp un : Nat) (gd : Option (List Code)) (outer : List Env) (A₀ : Around) (base h₁ : Heap) (s : Shared) (R : Value → Shared → Prop),
      Below A₀ base outer g → K.In g → Top p loose mean mg mb g → Pre g → dp + k ≤ recursionLimit → un + 8 * k ≤ cLine + 3 →
      Fr g L' h₁ (fun y => binds.reverse.lookup y) → News g L' h₁ [(q, obj)] →
      (∀ r obj' h' tk' m' news', Fr g L' h' m' → News g L' h' news' → (q, obj') ∈ news' → Out r obj' → R r { s with heap := h', toks := tk' }) →
      wpAny (model prog w) (ktrTop dp un gd qual scope L' f cdv [] outer) (execs body (envOf qual scope L' f cdv)) (fun fl s' => R (match fl with | .ret v => v | _ => .none) s') (fun _ _ => False) { s with heap := h₁, toks := s.toks + binds.length }) :
    MutC prog w K f k vs q obj Pre Out := by
  intro p loose mean mg mb dp un gd cn cs a ccd cl outer A₀ base h₀ L m s Q E B F X T hcs hd hu N hpre ret
  refine wpAny_call ?_
  obtain ⟨FG, BG, st, _⟩ := groundX (R := fun _ _ => True) (A := ktrTop dp un gd cn cs L a ccd cl outer) (env := envX cn cs L a ccd cl) B F N rfl rfl hcs
  have XG : K.In (hideAll s.heap [q]) := X.keeps st
  have XS : K.In s.heap := X.keeps F.keep
  refine codeAny_call_def (fd := fnOf name qual params body scope dV kV doc pm an cdv ct) (body := body) (binds := binds) (by show dp < recursionLimit; omega) (XS _ _ ho) rfl (T.nolimit.keeps F.keep) (codeRec_of XS hcd) rfl (hbind s) hcell hloc (fun h₁ hns hk₁ => ?_) hco hgen hk
  have hq := (N _ (.head _)).1
  have hqL : q ≠ s.heap.objs.size := Nat.ne_of_lt (Heap.lt_size hq)
  refine wpAny_mono (h p loose mean mg mb (hideAll s.heap [q]) s.heap.objs.size (dp + 1) (un + 3) gd (envX cn cs L a ccd cl :: outer) _ base h₁ s (fun v s' => Q v s') BG XG (T.keeps st) hpre (by omega) (by omega)
    ⟨hns, fun b o e => hk₁ b o (of_hideAll _ e), by rw [hideAll_size]; exact Nat.le_refl _⟩ (fun pr hp => ?_) ?_) (fun fl s' hl => ?_) fun _ _ x => x.elim
  · rw [List.mem_singleton.mp hp]
    exact ⟨hk₁ _ _ hq, hqL, hideAll_none [q] (.head _)⟩
  · intro r obj' h' tk' m' news' F' N' hm ho'
    exact ret r obj' h' tk' (fun b o hb e => F'.keep b o (hideAll_get _ e (by simpa using hb))) (N' _ hm).1 ho'
  · exact hl
theorem mut_use {p : Program} {loose : List Str} {mean : ExcName → Option Value} {mg mb : Str → Option Value} {dp un : Nat} {gd : Option (List Code)} {cn : Str} {cs : Scope} {a : Addr} {ccd : Value} {cl : List (Str × Addr)} {outer : List Env} {A₀ : Around} {base h₀ : Heap} {L : Addr} {m : Str → Option Value} {s : Shared} {Q E : Value → Shared → Prop} {pre post : List (Addr × Obj)}
    (C : MutC prog w K f k vs q obj Pre Out) (B : Below A₀ base outer h₀) (F : Fr h₀ L s.heap m) (X : K.In h₀) (N : News h₀ L s.heap (pre ++ (q, obj) :: post)) (n1 : ∀ p ∈ pre, p.1 ≠ q) (n2 : ∀ p ∈ post, p.1 ≠ q) (T : Top p loose mean mg mb h₀) (hk : cs.kind = .function) (hd : dp + k < recursionLimit) (hu : un + 8 * k < cLine) (hpre : Pre (hideAll s.heap [q]))
    (ret : ∀ r obj' h' tk', Fr h₀ L h' m → News h₀ L h' (pre ++ (q, obj') :: post) → Out r obj' → Q r { s with heap := h', toks := tk' }) :
    wpAny (model prog w) (ktrTop dp un gd cn cs L a ccd cl outer) (call (.ref f) vs) Q E s := by
  have Nq := N (q, obj) (List.mem_append_right _ (.head _))
  refine C p loose mean mg mb dp un gd cn cs a ccd cl outer A₀ base h₀ L m s Q E B F X T hk hd hu (fun pr hp => by rw [List.mem_singleton.mp hp]; exact Nq) hpre fun r obj' h' tk' hkp hq ho => ?_
  refine ret r obj' h' tk' ⟨F.ns.at' fun o e => hkp L o (Ne.symm Nq.2.1) e, fun b o e => hkp b o (fun hb => by rw [hb, Nq.2.2] at e; cases e) (F.keep b o e), F.above⟩ (fun pr hp => ?_) ho
  rcases List.mem_append.mp hp with hp | hp
  · have z := N pr (List.mem_append_left _ hp)
    exact ⟨hkp _ _ (n1 pr hp) z.1, z.2⟩
  · rcases List.mem_cons.mp hp with e | hp
    · rw [e]; exact ⟨hq, Nq.2⟩
    · have z := N pr (List.mem_append_right _ (.tail _ hp))
      exact ⟨hkp _ _ (n2 pr hp) z.1, z.2⟩
end
end
section
open PySem PySem.W PySem.Calls PyProof.Rows PySem.Spec
section
variable {prog : Program} {w : World} {A : Around} {E : Value → Shared → Prop} {s : Shared} {Q : Value → Shared → Prop} {a b : Int} {t u : Tok}
/-- operators whose value is hidden behind its bounds -/
theorem modX (hb : 0 < b) (h : ∀ r : Int, 0 ≤ r → r < b → Q (.int r s.toks) { s with toks := s.toks + 1 }) : wpAny (model prog w) A (binaryOp .Mod (.int a t) (.int b u)) Q E s :=
  mod_int' (Int.ne_of_gt hb) (h _ (Int.fmod_nonneg_of_pos _ hb) (Int.fmod_lt_of_pos _ hb))
theorem divX (ha : 0 ≤ a) (hb : 0 < b) (hb2 : b ≤ 1000) (h : ∀ r : Int, 0 ≤ r → Q (.int r s.toks) { s with toks := s.toks + 1 }) : wpAny (model prog w) A (binaryOp .FloorDiv (.int a t) (.int b u)) Q E s :=
  floordiv_int (Int.ne_of_gt hb) (h _ (Int.fdiv_nonneg ha (Int.le_of_lt hb))) (Or.inl (PyProof.noPylong_small (by omega)))
theorem pow18 (h : Q (.int 1000000000000000000 s.toks) { s with toks := s.toks + 1 }) : wpAny (model prog w) A (binaryOp .Pow (.int 10 t) (.int 18 u)) Q E s :=
  pow_int_small (by decide) (by decide) (by decide) (by
    have e : (10 : Int) ^ (18 : Int).toNat = 1000000000000000000 := by decide
    rw [e]; exact h)
theorem powX (ha : 0 ≤ a) (ha2 : a < 18446744073709551616) (hb : 0 ≤ b) (hb2 : b ≤ 1000) (h : ∀ r : Int, 0 ≤ r → Q (.int r s.toks) { s with toks := s.toks + 1 }) : wpAny (model prog w) A (binaryOp .Pow (.int a t) (.int b u)) Q E s :=
  pow_int_small hb (by omega) (by have : a.natAbs < 18446744073709551616 := by omega
                                  exact this) (h _ (Int.pow_nonneg ha))
theorem mulX (X Y : Int) (ha : 0 ≤ a) (ha2 : a ≤ X) (hb : 0 ≤ b) (hb2 : b ≤ Y) (hX : X < 18446744073709551616) (h : ∀ r : Int, 0 ≤ r → r ≤ X * Y → Q (.int r s.toks) { s with toks := s.toks + 1 }) : wpAny (model prog w) A (binaryOp .Mult (.int a t) (.int b u)) Q E s :=
  mul_int (h _ (Int.mul_nonneg ha hb) (Int.mul_le_mul ha2 hb2 hb (by omega))) (IntMulOk.of_left (PySem.intBits_le_64 (by omega) (by omega)))
end
theorem cutFr {h₀ h : Heap} {L : Addr} {m : Str → Option Value} {P : Prop} (F : Fr h₀ L h m) (ps : List (Str × Value)) (hk : ∀ p ∈ ps, m p.1 = some p.2) (k : ∀ u, Fr h₀ L h (kstB u ps) → P) : P := k m (mw_fr hk F)
theorem cutInt {h₀ h : Heap} {L : Addr} {m : Str → Option Value} {P : Prop} (F : Fr h₀ L h m) (x : Str) (X : Int) (tX : Tok) (ps : List (Str × Value)) (hk : ∀ p ∈ (x, Value.int X tX) :: ps, m p.1 = some p.2) (k : ∀ (X : Int) (tX : Tok) u, Fr h₀ L h (kstB u ((x, .int X tX) :: ps)) → P) : P := k X tX m (mw_fr hk F)
section
variable {prog : Program} {w : World} {K : Frag} {f : Addr} {k : Nat} {vs : List Value} {q : Addr} {obj : Obj} {Pre : Heap → Prop} {Out : Value → Obj → Prop}
/-- mut_use with the rest of the ledger named -/
theorem mut_use2 {p : Program} {loose : List Str} {mean : ExcName → Option Value} {mg mb : Str → Option Value} {dp un : Nat} {gd : Option (List Code)} {cn : Str} {cs : Scope} {a : Addr} {ccd : Value} {cl : List (Str × Addr)} {outer : List Env} {A₀ : Around} {base h₀ : Heap} {L : Addr} {m : Str → Option Value} {s : Shared} {Q E : Value → Shared → Prop} {news : List (Addr × Obj)} (rest : List (Addr × Obj))
    (C : MutC prog w K f k vs q obj Pre Out) (B : Below A₀ base outer h₀) (F : Fr h₀ L s.heap m) (X : K.In h₀) (N : News h₀ L s.heap news) (n1 : ∀ p ∈ (q, obj) :: rest, p ∈ news) (n2 : ∀ p ∈ rest, p.1 ≠ q) (T : Top p loose mean mg mb h₀) (hk : cs.kind = .function) (hd : dp + k < recursionLimit) (hu : un + 8 * k < cLine) (hpre : Pre (hideAll s.heap [q]))
    (ret : ∀ r obj' h' tk', Fr h₀ L h' m → News h₀ L h' ((q, obj') :: rest) → Out r obj' → Q r { s with heap := h', toks := tk' }) :
    wpAny (model prog w) (ktrTop dp un gd cn cs L a ccd cl outer) (call (.ref f) vs) Q E s :=
  mut_use (pre := []) (post := rest) C B F X (fun p hp => N p (n1 p hp)) (fun _ h => nomatch h) n2 T hk hd hu hpre ret
/-- mut_intro for a def whose locals are captured by a comprehension (cells) -/
theorem mut_introC {name qual : Str} {params : Arguments} {body : List Stmt} {scope : Scope} {dV kV doc pm cdv ct oc : Value} {an od : Option Addr} {osl : Array (Option Value)} {binds : List (Str × Value)}
    (ho : K.lookup f = some ⟨oc, od, .func (fnOf name qual params body scope dV kV doc pm an cdv ct), osl⟩) (hcd : codeIn K cdv qual = true)
    (hbind : ∀ s, BindsTo s (fnOf name qual params body scope dV kV doc pm an cdv ct) ⟨vs, []⟩ binds) (hkind : (binds.all fun y => scope.names.lookup y.1 == some .local || scope.names.lookup y.1 == some .cell) = true)
    (hnd : ((cellsFrom 0 scope.names []).map (·.1)).Nodup)
    (hco : scope.isCoroutine = false) (hgen : scope.isGenerator = false) (hk : scope.kind = .function)
    (h : ∀ (p : Program) (loose : List Str) (mean : ExcName → Option Value) (mg mb : Str → Option Value) (g : Heap) (L' : Addr) (dp un : Nat) (gd : Option (List Code)) (outer : List Env) (A₀ : Around) (base h₁ : Heap) (tk : Nat) (cells : List (Addr × Obj)) (s : Shared) (R : Value → Shared → Prop),
      Below A₀ base outer g → K.In g → Top p loose mean mg mb g → Pre g → dp + k ≤ recursionLimit → un + 8 * k ≤ cLine + 3 →
      Fr g L' h₁ (bindL (envOfC qual scope L' f cdv).kindOf binds fun _ => none) → News g L' h₁ (cells ++ [(q, obj)]) → (∀ p ∈ cells, p.1 ≠ q) → CellsAre (bindC (envOfC qual scope L' f cdv).kindOf binds fun _ => none) (cellsFrom (L' + 1) scope.names []) cells →
      (∀ r obj' h' tk' m' news', Fr g L' h' m' → News g L' h' news' → (q, obj') ∈ news' → Out r obj' → R r { s with heap := h', toks := tk' }) →
      wpAny (model prog w) (ktrTop dp un gd qual scope L' f cdv (cellsFrom (L' + 1) scope.names []) outer) (execs body (envOfC qual scope L' f cdv)) (fun fl s' => R (match fl with | .ret v => v | _ => .none) s') (fun _ _ => False) { s with heap := h₁, toks := tk }) :
    MutC prog w K f k vs q obj Pre Out := by
  intro p loose mean mg mb dp un gd cn cs a ccd cl outer A₀ base h₀ L m s Q E B F X T hcs hd hu N hpre ret
  refine wpAny_call ?_
  obtain ⟨FG, BG, st, _⟩ := groundX (R := fun _ _ => True) (A := ktrTop dp un gd cn cs L a ccd cl outer) (env := envX cn cs L a ccd cl) B F N rfl rfl hcs
  have XG : K.In (hideAll s.heap [q]) := X.keeps st
  have XS : K.In s.heap := X.keeps F.keep
  have T' := T.keeps F.keep
  have hq := (N _ (.head _)).1
  have hqlt : q < s.heap.objs.size := Heap.lt_size hq
  have hqL : q ≠ s.heap.objs.size := Nat.ne_of_lt hqlt
  refine codeAny_call_function (fd := fnOf name qual params body scope dV kV doc pm an cdv ct) (body := body) (by show dp < recursionLimit; omega) (XS _ _ ho) rfl hco hgen rfl (codeRec_of XS hcd) (hbind s _ _ _ _ ?_)
  refine wpAny_newFunctionEnv_cells hk (kindsX hkind _) fun env' he s' x => ?_
  subst he
  refine ⟨T'.nolimit.keeps x.toInCall.keep, codeAny_func ?_⟩
  obtain ⟨h₁, tk, rfl, _⟩ := x.done
  have hk₁ := x.toInCall.keep
  obtain ⟨cells, NC, Y⟩ := Cl.news (h₀ := s.heap) (Nat.le_refl _) fun n c hm => ⟨x.cell n c (lookup_of_mem_nodup (cellsFrom_names scope.names 0 (s.heap.objs.size + 1) [] [] rfl ▸ hnd) hm), x.above n c hm⟩
  have hge : ∀ p ∈ cells, p.1 ≠ q := fun p hp e => by
    have := (NC p hp).2.2
    rw [e, hq] at this
    cases this
  refine wpAny_mono (h p loose mean mg mb (hideAll s.heap [q]) s.heap.objs.size (dp + 1) (un + 3) gd (envX cn cs L a ccd cl :: outer) _ base h₁ tk cells s (fun v s' => Q v s') BG XG (T.keeps st) hpre (by omega) (by omega)
    ⟨x.toInCall.ns, fun b o e => hk₁ b o (of_hideAll _ e), by rw [hideAll_size]; exact Nat.le_refl _⟩ (fun pr hp => ?_) hge Y ?_) (fun fl s' hl => ?_) fun _ _ x => x.elim
  · rcases List.mem_append.mp hp with hp | hp
    · refine ⟨(NC pr hp).1, (NC pr hp).2.1, ?_⟩
      have e := (NC pr hp).2.2
      cases e9 : (hideAll s.heap [q]).get? pr.1 with
      | none => rfl
      | some o9 => have := of_hideAll _ e9; rw [e] at this; cases this
    · rw [List.mem_singleton.mp hp]
      exact ⟨hk₁ _ _ hq, hqL, hideAll_none [q] (.head _)⟩
  · intro r obj' h' tk' m' news' F' N' hm ho'
    exact ret r obj' h' tk' (fun b o hb e => F'.keep b o (hideAll_get _ e (by simpa using hb))) (N' _ hm).1 ho'
  · exact hl
end
end
section
open PySem PySem.W PySem.Calls PyProof.Rows PySem.Spec
abbrev Loc := List (Str × Value)
abbrev Led := List (Addr × Obj)
set_option genInjectivity false in
set_option genSizeOf false in
set_option genSizeOfSpec false in
/-- the walk's fixed surroundings -/
structure Cx where
  prog : Program
  w : World
  K : Frag
  p : Program
  loose : List Str
  mean : ExcName → Option Value
  mg : Str → Option Value
  mb : Str → Option Value
  dp : Nat
  un : Nat
  gd : Option (List Code)
  cn : Str
  cs : Scope
  a : Addr
  ccd : Value
  cl : List (Str × Addr)
  outer : List Env
  A₀ : Around
  base : Heap
  g : Heap
  L : Addr
abbrev Cx.A (c : Cx) : Around := ktrTop c.dp c.un c.gd c.cn c.cs c.L c.a c.ccd c.cl c.outer
abbrev Cx.env (c : Cx) : Env := envX c.cn c.cs c.L c.a c.ccd c.cl
abbrev Cx.M (c : Cx) : Model := model c.prog c.w
structure Cx.Is (c : Cx) (prog : Program) (w : World) (K : Frag) (sc : Scope) : Prop where
  p : c.prog = prog
  w : c.w = w
  k : c.K = K
  s : c.cs = sc
structure Cx.Ok (c : Cx) (k : Nat) : Prop where
  B : Below c.A₀ c.base c.outer c.g
  X : c.K.In c.g
  T : Top c.p c.loose c.mean c.mg c.mb c.g
  hk : c.cs.kind = .function
  hd : c.dp + k ≤ recursionLimit
  hu : c.un + 8 * k ≤ cLine + 3
  hs : ∀ y ∈ c.cs.names, (y.1 == ("__debug__" : Str)) = false

abbrev NoE : Value → Shared → Prop := fun _ _ => False
structure Wx (c : Cx) {α : Type} (m : Loc) (N : Led) (t : Sem α) (Q : α → Loc → Led → Prop) : Prop where
  run : ∀ (s : Shared) (u : Str → Option Value) (R : α → Shared → Prop), Fr c.g c.L s.heap (kstB u m) → News c.g c.L s.heap N →
    (∀ v h' tk u' m' N', Fr c.g c.L h' (kstB u' m') → News c.g c.L h' N' → Q v m' N' → R v { s with heap := h', toks := tk }) → wpAny c.M c.A t R NoE s

section
variable {c : Cx} {α β : Type} {m : Loc} {N : Led}
theorem Wx.ret {t : Sem α} {v : α} {Q : α → Loc → Led → Prop} (lem : ∀ s (R : α → Shared → Prop), R v s → wpAny c.M c.A t R NoE s) (h : Q v m N) : Wx c m N t Q :=
  ⟨fun s u R F N' k => lem s R (k v s.heap s.toks u m N F N' h)⟩
theorem Wx.tok {t : Sem α} {f : Tok → α} {Q : α → Loc → Led → Prop} (lem : ∀ s (R : α → Shared → Prop), R (f s.toks) { s with toks := s.toks + 1 } → wpAny c.M c.A t R NoE s) (h : ∀ k, Q (f k) m N) : Wx c m N t Q :=
  ⟨fun s u R F N' k => lem s R (k _ s.heap (s.toks + 1) u m N F N' (h _))⟩
theorem Wx.seq {t : Sem α} {t1 : Sem β} {t2 : β → Sem α} {Q : α → Loc → Led → Prop} (lem : ∀ s (R : α → Shared → Prop), wpAny c.M c.A t1 (fun b s₁ => wpAny c.M c.A (t2 b) R NoE s₁) NoE s → wpAny c.M c.A t R NoE s)
    (h : Wx c m N t1 fun b m N => Wx c m N (t2 b) Q) : Wx c m N t Q :=
  ⟨fun s u R F N' k => lem s R (h.run s u _ F N' fun b _ _ u' _ _ F' N'' H => H.run _ u' R F' N'' fun v h' tk u m N F NN q => k v h' tk u m N F NN q)⟩
theorem Wx.mono {t : Sem α} {Q Q' : α → Loc → Led → Prop} (h : Wx c m N t Q) (hq : ∀ v m N, Q v m N → Q' v m N) : Wx c m N t Q' :=
  ⟨fun s u R F N' k => h.run s u R F N' fun v h' tk u m N F NN q => k v h' tk u m N F NN (hq v m N q)⟩
theorem Wx.same {t t' : Sem α} {Q : α → Loc → Led → Prop} (lem : ∀ s (R : α → Shared → Prop), wpAny c.M c.A t R NoE s → wpAny c.M c.A t' R NoE s) (h : Wx c m N t Q) : Wx c m N t' Q :=
  ⟨fun s u R F N' k => lem s R (h.run s u R F N' k)⟩
end

def put : Loc → Str → Value → Loc
  | [], x, v => [(x, v)]
  | (y, w) :: r, x, v => bif decide (y = x) then (y, v) :: r else (y, w) :: put r x v
theorem kstB_put {u : Str → Option Value} : ∀ (m : Loc) (x : Str) (v : Value), kstB u (put m x v) = fun y => if y = x then some v else kstB u m y
  | [], x, v => rfl
  | (y, w) :: r, x, v => by
    unfold put
    by_cases e : y = x
    · subst e
      rw [decide_eq_true rfl]
      funext z
      show (if z = y then some v else kstB u r z) = if z = y then some v else (if z = y then some w else kstB u r z)
      by_cases q : z = y
      · rw [if_pos q, if_pos q]
      · rw [if_neg q, if_neg q, if_neg q]
    · rw [decide_eq_false e]
      funext z
      show (if z = y then some w else kstB u (put r x v) z) = if z = x then some v else (if z = y then some w else kstB u r z)
      rw [kstB_put r x v]
      by_cases q : z = y
      · rw [if_pos q, if_pos q, if_neg (fun h => e (q ▸ h))]
      · rw [if_neg q, if_neg q]
def look : Loc → Str → Option Value
  | [], _ => none
  | (y, w) :: r, x => bif decide (x = y) then some w else look r x
theorem kstB_look {u : Str → Option Value} {v : Value} : ∀ {m : Loc} {x : Str}, look m x = some v → kstB u m x = some v
  | [], _, h => nomatch h
  | (y, w) :: r, x, h => by
    unfold look at h
    show (if x = y then some w else kstB u r x) = some v
    by_cases e : x = y
    · rw [if_pos e]
      rw [decide_eq_true e] at h
      exact h
    · rw [if_neg e]
      rw [decide_eq_false e] at h
      exact kstB_look h

set_option genInjectivity false in
set_option genSizeOf false in
set_option genSizeOfSpec false in
inductive Md where
  | ex (e : PySem.Expr)
  | ts (e : PySem.Expr)
  | as (es : List PySem.Expr)
abbrev Kt := List Value → Loc → Led → Prop
abbrev KF := Flow → Loc → Led → Prop
def guard (b : Bool) (P : Prop) : Prop := match b with
  | true => P
  | false => False
theorem guard_mp {b : Bool} {P : Prop} (h : guard b P) : b = true ∧ P := by
  cases b
  · exact h.elim
  · exact ⟨rfl, h⟩
def intOf : Value → Option Int
  | .int x _ => some x
  | _ => none
theorem intOf_some {v : Value} {x : Int} (h : intOf v = some x) : ∃ t, v = .int x t := by
  cases v <;> first | (cases h; done) | skip
  cases h
  exact ⟨_, rfl⟩
def wpI (op : Operator) (x y : Int) (fb : Prop) (k : Int → Prop) : Prop := match op with
  | .Add => k (x + y)
  | .Sub => k (x - y)
  | .Mod => 0 < y ∧ k (x % y)
  | .FloorDiv => (0 < y ∧ y ≤ 1000) ∧ k (x / y)
  | .RShift => 0 ≤ y ∧ k (x / 2 ^ y.toNat)
  | .Mult => (x.natAbs < 18446744073709551616 ∨ y.natAbs < 18446744073709551616) ∧ k (x * y)
  | _ => fb
def wpB (c : Cx) (op : Operator) (a b : Value) (m : Loc) (N : Led) (Q : Kt) : Prop := match intOf a, intOf b with
  | some x, some y => wpI op x y (Wx c m N (binaryOp op a b) fun v m N => Q [v] m N) fun r => ∀ t, Q [.int r t] m N
  | _, _ => Wx c m N (binaryOp op a b) fun v m N => Q [v] m N
def cmpI (op : CmpOp) (x y : Int) : Option Bool := match op with
  | .Lt => some (decide (x < y))
  | .LtE => some (decide (x ≤ y))
  | .Gt => some (decide (y < x))
  | .GtE => some (decide (y ≤ x))
  | .Eq => some (decide (x = y))
  | .NotEq => some (!decide (x = y))
  | _ => none
/-- a comparison's value -/
def wpC (c : Cx) (op : CmpOp) (a b : Value) (m : Loc) (N : Led) (Q : Kt) : Prop := match intOf a, intOf b with
  | some x, some y => (match cmpI op x y with
    | some r => Q [.bool r] m N
    | none => Wx c m N (compareOp op a b) fun v m N => Q [v] m N)
  | _, _ => Wx c m N (compareOp op a b) fun v m N => Q [v] m N
def split (P : Prop) (Q1 Q2 : Prop) : Prop := (P → Q1) ∧ (¬ P → Q2)
/-- a comparison as a test -/
def cmpT (op : CmpOp) (x y : Int) (Q1 Q2 : Prop) : Option Prop := match op with
  | .Lt => some (split (x < y) Q1 Q2)
  | .LtE => some (split (x ≤ y) Q1 Q2)
  | .Gt => some (split (y < x) Q1 Q2)
  | .GtE => some (split (y ≤ x) Q1 Q2)
  | .Eq => some (split (x = y) Q1 Q2)
  | .NotEq => some (split (x = y) Q2 Q1)
  | _ => none
def tru (c : Cx) (v : Value) (m : Loc) (N : Led) (Q : Kt) : Prop := match v with
  | .bool b => split (b = true) (Q [.bool true] m N) (Q [.bool false] m N)
  | .none => Q [.bool false] m N
  | v => Wx c m N (truthy v) fun b m N => Q [.bool b] m N
def wpCT (c : Cx) (op : CmpOp) (a b : Value) (m : Loc) (N : Led) (Q : Kt) : Prop := match intOf a, intOf b with
  | some x, some y => (match cmpT op x y (Q [.bool true] m N) (Q [.bool false] m N) with
    | some r => r
    | none => Wx c m N (compareOp op a b) fun v m N => tru c v m N Q)
  | _, _ => Wx c m N (compareOp op a b) fun v m N => tru c v m N Q
def wpU (c : Cx) (a : Value) (m : Loc) (N : Led) (Q : Kt) : Prop := match intOf a with
  | some x => ∀ t, Q [.int (-x) t] m N
  | none => Wx c m N (unaryOp .USub a) fun v m N => Q [v] m N
/-- the first link of a chain of ints -/
def wpL (op : CmpOp) (a b : Value) (Q1 Q2 : Prop) : Prop := match intOf a, intOf b with
  | some x, some y => (match cmpT op x y Q1 Q2 with
    | some r => r
    | none => False)
  | _, _ => False
set_option genInjectivity false in
set_option genSizeOf false in
set_option genSizeOfSpec false in
structure Sx where
  sc : List (Str × NameKind)
  K : Frag
  gl : Loc
def wpN (c : Cx) (Z : Sx) (x : Str) (pos : Pos) (m : Loc) (N : Led) (Q : Kt) : Prop :=
  if Z.sc.lookup x = some .local then (match look m x with
    | some v => Q [v] m N
    | none => False)
  else (match look Z.gl x with
    | some v => Q [v] m N
    | none => Wx c m N (eval (.Name x pos) c.env) fun v m N => Q [v] m N)
/-- a slice of o behind its bounds -/
structure WxS (c : Cx) (v sl : PySem.Expr) (o l u : Value) (m : Loc) (N : Led) (Q : Kt) : Prop where
  run : ∀ (s : Shared) (w : Str → Option Value) (R : Value → Shared → Prop), Fr c.g c.L s.heap (kstB w m) → News c.g c.L s.heap N →
    (∀ v h' tk u' m' N', Fr c.g c.L h' (kstB u' m') → News c.g c.L h' N' → Q [v] m' N' → R v { s with heap := h', toks := tk }) →
    wpAny c.M c.A (subscriptTail v sl o (.ref s.heap.objs.size)) R NoE { s with heap := s.heap.push { cls := .type "slice", data := .fields #[l, u, .none] } }
def isStar : PySem.Expr → Bool
  | .Starred .. => true
  | _ => false
def callable (K : Frag) (args : List PySem.Expr) : Value → Bool
  | .builtin _ => !args.isEmpty
  | .type _ => !args.isEmpty
  | v => !args.isEmpty && keepIn K v
def isComp : PySem.Expr → Bool
  | .ListComp .. => true
  | .SetComp .. => true
  | .DictComp .. => true
  | _ => false
def isRef : Value → Bool
  | .ref _ => true
  | _ => false
set_option genInjectivity false
set_option genSizeOf false
set_option genSizeOfSpec false
inductive Ct where
  | ev (md : Md)
  | rt (vs : List Value)
  | bl (body : List Stmt)
  | fl (f : Flow)
inductive Fm where
  | as1 (es : List PySem.Expr)
  | as2 (v : Value)
  | bin1 (op : Operator) (r : PySem.Expr)
  | bin2 (op : Operator) (a : Value)
  | neg
  | cmp1 (op : CmpOp) (r : PySem.Expr)
  | cmp2 (op : CmpOp) (a : Value)
  | ct1 (op : CmpOp) (r : PySem.Expr)
  | ct2 (op : CmpOp) (a : Value)
  | ch1 (op : CmpOp) (r : PySem.Expr) (op' : CmpOp) (r' : PySem.Expr) (t : Bool)
  | ch2 (op : CmpOp) (a : Value) (op' : CmpOp) (r' : PySem.Expr) (t : Bool)
  | bo (op : BoolOp) (y : PySem.Expr) (rest : List PySem.Expr) (pos : Pos)
  | bo2 (op : BoolOp) (v : Value) (y : PySem.Expr) (rest : List PySem.Expr) (pos : Pos)
  | bt (op : BoolOp) (rest : List PySem.Expr) (pos : Pos)
  | tn
  | tr
  | ife (a b : PySem.Expr)
  | sb1 (v s : PySem.Expr)
  | sb2 (v s : PySem.Expr) (o : Value)
  | sl1 (v : PySem.Expr) (lo hi : Option PySem.Expr) (sp : Pos)
  | sl2 (v : PySem.Expr) (lo hi : Option PySem.Expr) (sp : Pos) (o : Value)
  | sl3 (v : PySem.Expr) (lo hi : Option PySem.Expr) (sp : Pos) (o l : Value)
  | cl1 (args : List PySem.Expr)
  | cl2 (fv : Value)
  | tp
  | ls
  | sA (x : Str)
  | sR
  | sI (a b : List Stmt)
  | sE
  | wl (body : List Stmt)
  | bk (rest : List Stmt)
def chF (t : Bool) (op : CmpOp) (v : Value) : Fm := match t with
  | true => .ct2 op v
  | false => .cmp2 op v
abbrev Rc := Ct → List Fm → Loc → Led → Prop
def wpP (c : Cx) (Z : Sx) (x : Str) (v : Value) (m : Loc) (N : Led) (K : KF) : Prop :=
  if Z.sc.lookup x = some .local then K .next (put m x v) N else Wx c m N (storeName c.env x v) fun _ m N => K .next m N
def evO (rec : Rc) (e : Option PySem.Expr) (st : List Fm) (m : Loc) (N : Led) : Prop := match e with
  | none => rec (.rt [.none]) st m N
  | some e => rec (.ev (.ex e)) st m N
def stE (c : Cx) (Z : Sx) (rec : Rc) (e : PySem.Expr) (st : List Fm) (m : Loc) (N : Led) : Prop := match e with
  | .Constant v k pos => (match v with
    | .int i => ∀ t, rec (.rt [.int i t]) st m N
    | .bool b => rec (.rt [.bool b]) st m N
    | .none => rec (.rt [.none]) st m N
    | .str x => ∀ t, rec (.rt [.str x t]) st m N
    | .bytes x => ∀ t, rec (.rt [.bytes x.toArray t]) st m N
    | v => Wx c m N (eval (.Constant v k pos) c.env) fun v m N => rec (.rt [v]) st m N)
  | .Name x pos => wpN c Z x pos m N fun vs m N => rec (.rt vs) st m N
  | .BinOp l op r _ => rec (.ev (.ex l)) (.bin1 op r :: st) m N
  | .UnaryOp op x pos => (match op with
    | .USub => rec (.ev (.ex x)) (.neg :: st) m N
    | op => Wx c m N (eval (.UnaryOp op x pos) c.env) fun v m N => rec (.rt [v]) st m N)
  | .Compare l [op] [r] _ => guard (!behindInMarks op r) (rec (.ev (.ex l)) (.cmp1 op r :: st) m N)
  | .Compare l [op, op'] [r, r'] _ => guard (!lastMarks [op, op'] [r, r']) (rec (.ev (.ex l)) (.ch1 op r op' r' false :: st) m N)
  | .BoolOp _ [x] _ => rec (.ev (.ex x)) st m N
  | .BoolOp op (x :: y :: rest) pos => rec (.ev (.ex x)) (.bo op y rest pos :: st) m N
  | .IfExp test a b _ => rec (.ev (.ts test)) (.ife a b :: st) m N
  | .Subscript v (.Slice lo hi none sp) _ => rec (.ev (.ex v)) (.sl1 v lo hi sp :: st) m N
  | .Subscript v s _ => rec (.ev (.ex v)) (.sb1 v s :: st) m N
  | .Call (.Name f fp) args [] _ => rec (.ev (.ex (.Name f fp))) (.cl1 args :: st) m N
  | .Tuple es _ _ => rec (.ev (.as es)) (.tp :: st) m N
  | .List es _ => rec (.ev (.as es)) (.ls :: st) m N
  | e => Wx c m N (eval e c.env) fun v m N => rec (.rt [v]) st m N
def stT (c : Cx) (rec : Rc) (e : PySem.Expr) (st : List Fm) (m : Loc) (N : Led) : Prop := match e with
  | .UnaryOp op x pos => (match op with
    | .Not => rec (.ev (.ts x)) (.tn :: st) m N
    | op => Wx c m N (isTrue (.UnaryOp op x pos) c.env (eval (.UnaryOp op x pos) c.env)) fun b m N => rec (.rt [.bool b]) st m N)
  | .BoolOp op [] _ => (match op with
    | .And => rec (.rt [.bool true]) st m N
    | .Or => rec (.rt [.bool false]) st m N)
  | .BoolOp op (x :: rest) pos => rec (.ev (.ts x)) (.bt op rest pos :: st) m N
  | .Compare l [op] [r] _ => guard (!behindInMarks op r) (rec (.ev (.ex l)) (.ct1 op r :: st) m N)
  | .Compare l [op, op'] [r, r'] _ => guard (!lastMarks [op, op'] [r, r']) (rec (.ev (.ex l)) (.ch1 op r op' r' true :: st) m N)
  | .Name x p => rec (.ev (.ex (.Name x p))) (.tr :: st) m N
  | .Call f as ks p => rec (.ev (.ex (.Call f as ks p))) (.tr :: st) m N
  | e => Wx c m N (isTrue e c.env (eval e c.env)) fun b m N => rec (.rt [.bool b]) st m N
def stV (c : Cx) (Z : Sx) (rec : Rc) (f : Fm) (v : Value) (st : List Fm) (m : Loc) (N : Led) : Prop := match f with
  | .as1 es => rec (.ev (.as es)) (.as2 v :: st) m N
  | .bin1 op r => rec (.ev (.ex r)) (.bin2 op v :: st) m N
  | .bin2 op a => wpB c op a v m N fun vs m N => rec (.rt vs) st m N
  | .neg => wpU c v m N fun vs m N => rec (.rt vs) st m N
  | .cmp1 op r => rec (.ev (.ex r)) (.cmp2 op v :: st) m N
  | .cmp2 op a => wpC c op a v m N fun vs m N => rec (.rt vs) st m N
  | .ct1 op r => rec (.ev (.ex r)) (.ct2 op v :: st) m N
  | .ct2 op a => wpCT c op a v m N fun vs m N => rec (.rt vs) st m N
  | .ch1 op r op' r' t => rec (.ev (.ex r)) (.ch2 op v op' r' t :: st) m N
  | .ch2 op a op' r' t => wpL op a v (rec (.ev (.ex r')) (chF t op' v :: st) m N) (rec (.rt [.bool false]) st m N)
  | .bo op y rest pos => tru c v m N fun vs m N => rec (.rt vs) (.bo2 op v y rest pos :: st) m N
  | .bo2 op v' y rest pos => (match v with
    | .bool b => (match op, b with
      | .And, true => rec (.ev (.ex (.BoolOp .And (y :: rest) pos))) st m N
      | .Or, false => rec (.ev (.ex (.BoolOp .Or (y :: rest) pos))) st m N
      | _, _ => rec (.rt [v']) st m N)
    | _ => False)
  | .bt op rest pos => (match v with
    | .bool b => (match op, b with
      | .And, true => rec (.ev (.ts (.BoolOp .And rest pos))) st m N
      | .Or, false => rec (.ev (.ts (.BoolOp .Or rest pos))) st m N
      | _, b => rec (.rt [.bool b]) st m N)
    | _ => False)
  | .tn => (match v with
    | .bool b => rec (.rt [.bool (!b)]) st m N
    | _ => False)
  | .tr => tru c v m N fun vs m N => rec (.rt vs) st m N
  | .ife a b => (match v with
    | .bool t => (match t with
      | true => rec (.ev (.ex a)) st m N
      | false => rec (.ev (.ex b)) st m N)
    | _ => False)
  | .sb1 x s => rec (.ev (.ex s)) (.sb2 x s v :: st) m N
  | .sb2 x s o => Wx c m N (subscriptTail x s o v) fun v m N => rec (.rt [v]) st m N
  | .sl1 x lo hi sp => evO rec lo (.sl2 x lo hi sp v :: st) m N
  | .sl2 x lo hi sp o => evO rec hi (.sl3 x lo hi sp o v :: st) m N
  | .sl3 x lo hi sp o l => WxS c x (.Slice lo hi none sp) o l v m N fun vs m N => rec (.rt vs) st m N
  | .cl1 args => (match args with
    | [] => guard (keepIn Z.K v) (Wx c m N (call v []) fun v m N => rec (.rt [v]) st m N)
    | e :: es => guard (callable Z.K (e :: es) v && !(e :: es).any isStar) (rec (.ev (.as (e :: es))) (.cl2 v :: st) m N))
  | .sA x => wpP c Z x v m N fun f m N => rec (.fl f) st m N
  | .sR => rec (.fl (.ret v)) st m N
  | .sI a b => (match v with
    | .bool t => (match t with
      | true => rec (.bl a) st m N
      | false => rec (.bl b) st m N)
    | _ => False)
  | .wl body => (match v with
    | .bool t => (match t with
      | true => rec (.bl body) st m N
      | false => rec (.fl .brk) st m N)
    | _ => False)
  | .sE => guard (!isRef v) (rec (.fl .next) st m N)
  | _ => False
def stR (c : Cx) (Z : Sx) (rec : Rc) (f : Fm) (vs : List Value) (st : List Fm) (m : Loc) (N : Led) : Prop := match f with
  | .as2 v => rec (.rt (v :: vs)) st m N
  | .cl2 fv => Wx c m N (call fv vs) fun v m N => rec (.rt [v]) st m N
  | .tp => guard (Nat.ble vs.length 1000) (∀ a, (∀ p ∈ N, p.1 < a) → rec (.rt [.ref a]) st m ((a, { cls := .type "tuple", data := .seq vs.toArray }) :: N))
  | .ls => guard (Nat.ble vs.length 1000) (∀ a, (∀ p ∈ N, p.1 < a) → rec (.rt [.ref a]) st m ((a, listOf vs.toArray 0) :: N))
  | f => (match vs with
    | [v] => stV c Z rec f v st m N
    | _ => False)
def stS (c : Cx) (rec : Rc) (s : Stmt) (st : List Fm) (m : Loc) (N : Led) : Prop := match s with
  | .Assign [.Name x _] value _ => guard (!isComp value) (rec (.ev (.ex value)) (.sA x :: st) m N)
  | .Return (some e) _ => rec (.ev (.ex e)) (.sR :: st) m N
  | .If test a b _ => rec (.ev (.ts test)) (.sI a b :: st) m N
  | .Expr e _ => guard (!isComp e) (rec (.ev (.ex e)) (.sE :: st) m N)
  | s => Wx c m N (exec s c.env) fun f m N => rec (.fl f) st m N
def stC (c : Cx) (Z : Sx) (Qf : KF) (rec : Rc) (ct : Ct) (st : List Fm) (m : Loc) (N : Led) : Prop := match ct with
  | .ev md => (match md with
    | .ex e => stE c Z rec e st m N
    | .ts e => stT c rec e st m N
    | .as es => (match es with
      | [] => rec (.rt []) st m N
      | e :: es => guard (!isStar e) (rec (.ev (.ex e)) (.as1 es :: st) m N)))
  | .rt vs => (match st with
    | [] => False
    | f :: st => stR c Z rec f vs st m N)
  | .bl body => (match body with
    | [] => rec (.fl .next) st m N
    | s :: rest => stS c rec s (.bk rest :: st) m N)
  | .fl f => (match st with
    | [] => Qf f m N
    | .bk rest :: st => (match f with
      | .next => rec (.bl rest) st m N
      | f => rec (.fl f) st m N)
    | _ => False)
def cek (c : Cx) (Z : Sx) (Qf : KF) : Nat → Rc
  | 0, _, _, _, _ => False
  | n + 1, ct, st, m, N => stC c Z Qf (cek c Z Qf n) ct st m N
def GlobOk (c : Cx) (sc : List (Str × NameKind)) (gl : Loc) : Prop := ∀ x v pos, look gl x = some v → sc.lookup x ≠ some .local → ∀ m N Q, Q v m N → Wx c m N (eval (.Name x pos) c.env) Q
structure ZOk (c : Cx) (Z : Sx) : Prop where
  s : c.cs.names = Z.sc
  k : c.K = Z.K
  g : GlobOk c Z.sc Z.gl
section
variable {c : Cx} {m : Loc} {N : Led} {Q : Kt} {Z : Sx} {k₀ : Nat}
theorem Wx.seq3 {α β γ : Type} {t : Sem α} {t1 : Sem β} {t2 : β → Sem γ} {t3 : β → γ → Sem α} {Q : α → Loc → Led → Prop}
    (lem : ∀ s (R : α → Shared → Prop), wpAny c.M c.A t1 (fun b s₁ => wpAny c.M c.A (t2 b) (fun d s₂ => wpAny c.M c.A (t3 b d) R NoE s₂) NoE s₁) NoE s → wpAny c.M c.A t R NoE s)
    (h : Wx c m N t1 fun b m N => Wx c m N (t2 b) fun d m N => Wx c m N (t3 b d) Q) : Wx c m N t Q :=
  ⟨fun s u R F N' k => lem s R (h.run s u _ F N' fun b _ _ u' _ _ F' N'' H => H.run _ u' _ F' N'' fun d _ _ u2 _ _ F2 N2 H2 => H2.run _ u2 R F2 N2 fun v h' tk u m N F NN q => k v h' tk u m N F NN q)⟩
theorem wpI_sound {op : Operator} {x y : Int} {fb : Prop} {k : Int → Prop} (H : wpI op x y fb k) : fb ∨ ∃ r, k r ∧ ∀ (s : Shared) (t u : Tok) (R : Value → Shared → Prop), R (.int r s.toks) { s with toks := s.toks + 1 } → wpAny c.M c.A (binaryOp op (.int x t) (.int y u)) R NoE s := by
  cases op <;> first | exact .inl H | skip
  · exact .inr ⟨_, H, fun s t u R h => PyProof.Rows.add_int h⟩
  · exact .inr ⟨_, H, fun s t u R h => PyProof.Rows.sub_int h⟩
  · refine .inr ⟨_, H.2, fun s t u R h => P.mul_int h ?_⟩
    rcases H.1 with q | q
    · exact IntMulOk.of_left (PySem.intBits_le_64 (by omega) (by omega))
    · exact IntMulOk.of_right (PySem.intBits_le_64 (by omega) (by omega))
  · have hp : 0 < y := H.1
    refine .inr ⟨_, H.2, fun s t u R h => PyProof.Rows.mod_int (by omega) ?_⟩
    rw [Int.fmod_eq_emod_of_nonneg _ (by omega)]
    exact h
  · have hp : 0 ≤ y := H.1
    refine .inr ⟨_, H.2, fun s t u R h => PyProof.Rows.rshift_int hp ?_⟩
    rw [Int.fdiv_eq_ediv_of_nonneg _ (Int.le_of_lt (Int.pow_pos (by decide)))]
    exact h
  · have hp : 0 < y ∧ y ≤ 1000 := H.1
    refine .inr ⟨_, H.2, fun s t u R h => PyProof.Rows.floordiv_int (by omega) ?_ (Or.inl (PyProof.noPylong_small (by omega)))⟩
    rw [Int.fdiv_eq_ediv_of_nonneg _ (by omega)]
    exact h
theorem wpB_sound {op : Operator} {a b : Value} (H : wpB c op a b m N Q) : Wx c m N (binaryOp op a b) fun v m N => Q [v] m N := by
  unfold wpB at H
  split at H
  · rename_i e1 e2
    obtain ⟨t, rfl⟩ := intOf_some e1
    obtain ⟨u, rfl⟩ := intOf_some e2
    rcases wpI_sound (c := c) H with H | ⟨r, H, hr⟩
    · exact H
    · exact Wx.tok (fun s R h => hr s _ _ R h) H
  · exact H
theorem beq_dec (x y : Int) : (x == y) = decide (x = y) := by rw [Bool.eq_iff_iff, beq_iff_eq, decide_eq_true_eq]
theorem cmpI_sound {op : CmpOp} {x y : Int} {r : Bool} (e : cmpI op x y = some r) {s : Shared} {t u : Tok} {R : Value → Shared → Prop} (h : R (.bool r) s) : wpAny c.M c.A (compareOp op (.int x t) (.int y u)) R NoE s := by
  cases op <;> first | (cases e; done) | skip
  · cases e; exact P.eq_int (by rw [beq_dec]; exact h)
  · cases e; exact P.ne_int (by rw [bne, beq_dec]; exact h)
  · cases e; exact PyProof.Rows.lt_int h
  · cases e; exact P.le_int h
  · cases e; exact P.gt_int h
  · cases e; exact P.ge_int h
theorem wpC_sound {op : CmpOp} {a b : Value} (H : wpC c op a b m N Q) : Wx c m N (compareOp op a b) fun v m N => Q [v] m N := by
  unfold wpC at H
  split at H
  · rename_i e1 e2
    obtain ⟨t, rfl⟩ := intOf_some e1
    obtain ⟨u, rfl⟩ := intOf_some e2
    split at H
    · rename_i e
      exact Wx.ret (fun s R h => cmpI_sound e h) H
    · exact H
  · exact H
theorem tru_sound {v : Value} (H : tru c v m N Q) : Wx c m N (truthy v) fun b m N => Q [.bool b] m N := by
  cases v <;> first | exact H | skip
  · exact Wx.ret (v := false) (fun s R h => truthy_none h) H
  · rename_i b
    refine Wx.ret (v := b) (fun s R h => wpAny_truthy_bool h) ?_
    cases b
    · exact H.2 (fun e => nomatch e)
    · exact H.1 rfl
theorem split_dec' {P Q1 Q2 : Prop} {d : Decidable P} (H : split P Q1 Q2) : (@decide P d = true → Q1) ∧ (@decide P d = false → Q2) := ⟨fun h => H.1 (of_decide_eq_true h), fun h => H.2 (of_decide_eq_false h)⟩
theorem cmpT_sound {op : CmpOp} {x y : Int} {Q1 Q2 r : Prop} (e : cmpT op x y Q1 Q2 = some r) (H : r) : ∃ b, cmpI op x y = some b ∧ (b = true → Q1) ∧ (b = false → Q2) := by
  cases op <;> first | (cases e; done) | skip
  · cases e; exact ⟨_, rfl, split_dec' H⟩
  · cases e
    have h := split_dec' (d := Int.instDecidableEq x y) H
    exact ⟨_, rfl, fun q => h.2 (by simpa using q), fun q => h.1 (by simpa using q)⟩
  · cases e; exact ⟨_, rfl, split_dec' H⟩
  · cases e; exact ⟨_, rfl, split_dec' H⟩
  · cases e; exact ⟨_, rfl, split_dec' H⟩
  · cases e; exact ⟨_, rfl, split_dec' H⟩
theorem wpCT_sound {op : CmpOp} {a b : Value} (H : wpCT c op a b m N Q) : Wx c m N (compareOp op a b) fun v m N => tru c v m N Q := by
  unfold wpCT at H
  split at H
  · rename_i e1 e2
    obtain ⟨t, rfl⟩ := intOf_some e1
    obtain ⟨u, rfl⟩ := intOf_some e2
    split at H
    · rename_i e
      obtain ⟨b, e1, h1, h2⟩ := cmpT_sound e H
      have hq : tru c (.bool b) m N Q := And.intro (a := b = true → Q [.bool true] m N) (b := ¬ b = true → Q [.bool false] m N) h1 fun q => h2 (Bool.eq_false_iff.mpr q)
      exact Wx.ret (Q := fun v m N => tru c v m N Q) (fun s R h => cmpI_sound e1 h) hq
    · exact H
  · exact H
theorem wpL_sound {op : CmpOp} {a b : Value} {Q1 Q2 : Prop} (H : wpL op a b Q1 Q2) : ∃ x t y u z, a = .int x t ∧ b = .int y u ∧ cmpI op x y = some z ∧ (z = true → Q1) ∧ (z = false → Q2) := by
  unfold wpL at H
  split at H
  · rename_i e1 e2
    obtain ⟨t, rfl⟩ := intOf_some e1
    obtain ⟨u, rfl⟩ := intOf_some e2
    split at H
    · rename_i e
      obtain ⟨b, e1, h⟩ := cmpT_sound e H
      exact ⟨_, _, _, _, b, rfl, rfl, e1, h⟩
    · exact H.elim
  · exact H.elim
theorem star_cons {e : PySem.Expr} {es : List PySem.Expr} {env : Env} (h : isStar e = false) : starEach (e :: es) env = (false, eval e env) :: starEach es env := by
  cases e <;> first | rfl | cases h
theorem any_star : ∀ {es : List PySem.Expr} {env : Env} {pos : Pos}, es.any isStar = false → (backTo pos (starEach es env)).any (·.1) = false
  | [], _, _, _ => rfl
  | e :: es, env, pos, h => by
    rw [List.any_cons, Bool.or_eq_false_iff] at h
    rw [star_cons h.1]
    exact any_star (es := es) h.2
theorem call_sound {fv : Value} {args : List PySem.Expr} {pos : Pos} {Q : Value → Loc → Led → Prop} (G : c.Ok k₀) (hc : callable c.K args fv = true) (hs : args.any isStar = false) (h : Wx c m N (spliced (backTo pos (starEach args c.env))) fun vs m N => Wx c m N (call fv vs) Q) :
    Wx c m N (callWith pos fv [] (backTo pos (starEach args c.env)) []) Q := by
  refine ⟨fun s u R F N' k => ?_⟩
  cases args with
  | nil => unfold callable at hc; split at hc <;> simp at hc
  | cons e rest =>
    have he : starEach (e :: rest) c.env = (false, eval e c.env) :: starEach rest c.env := star_cons (by rw [List.any_cons, Bool.or_eq_false_iff] at hs; exact hs.1)
    have hp : (backTo pos (starEach rest c.env)).any (·.1) = false := any_star (by rw [List.any_cons, Bool.or_eq_false_iff] at hs; exact hs.2)
    have hh := h.run s u _ F N' fun vs _ _ u m N F N' H => H.run _ u R F N' fun v h' tk u m N F NN q => k v h' tk u m N F NN q
    unfold callable at hc
    split at hc
    · exact callWith_builtin1 hh he hp
    · exact Pv.callWith_type1 hh he hp
    · refine callWith_K G.X (Bool.and_eq_true_iff.mp hc).2 ?_ he hp
      exact h.run s u _ F N' fun vs _ _ u m N F N' H => ⟨G.X.keeps F.keep, H.run _ u R F N' fun v h' tk u m N F NN q => k v h' tk u m N F NN q⟩
theorem wpU_sound {a : Value} (H : wpU c a m N Q) : Wx c m N (unaryOp .USub a) fun v m N => Q [v] m N := by
  unfold wpU at H
  split at H
  · rename_i e1
    obtain ⟨t, rfl⟩ := intOf_some e1
    exact Wx.tok (fun s R h => P.neg_int h) H
  · exact H
theorem name_sound {x : Str} {pos : Pos} (G : c.Ok k₀) (hg : ZOk c Z) (H : wpN c Z x pos m N Q) : Wx c m N (eval (.Name x pos) c.env) fun v m N => Q [v] m N := by
  unfold wpN at H
  by_cases e1 : Z.sc.lookup x = some .local
  · rw [if_pos e1] at H
    have e3 : c.cs.names.lookup x = some .local := hg.s ▸ e1
    split at H
    · rename_i v e2
      exact ⟨fun s u R F N' k => nameX_L F (kstB_look e2) (k v s.heap s.toks u m N F N' H) G.hk e3 (G.hs _ (mem_of_lookup_some e3))⟩
    · exact H.elim
  · rw [if_neg e1] at H
    split at H
    · rename_i v e2
      exact hg.g x v pos e2 e1 m N (fun v m N => Q [v] m N) H
    · exact H
end
section
variable {c : Cx} {m : Loc} {N : Led} {Z : Sx} {k₀ : Nat} {Qf : KF}
def SemOf (c : Cx) : Md → Loc → Led → Kt → Prop
  | .ex e, m, N, Q => Wx c m N (eval e c.env) fun v m N => Q [v] m N
  | .ts e, m, N, Q => Wx c m N (isTrue e c.env (eval e c.env)) fun b m N => Q [.bool b] m N
  | .as es, m, N, Q => ∀ pos, Wx c m N (spliced (backTo pos (starEach es c.env))) fun vs m N => Q vs m N
def Kx (c : Cx) (Z : Sx) (Qf : KF) (n : Nat) (st : List Fm) : Kt := fun vs m N => ∃ k, k + 1 < n ∧ stC c Z Qf (cek c Z Qf k) (.rt vs) st m N
def Kl (c : Cx) (Z : Sx) (Qf : KF) (n : Nat) (st : List Fm) : KF := fun f m N => ∃ k, k + 1 < n ∧ stC c Z Qf (cek c Z Qf k) (.fl f) st m N
theorem kx {k n : Nat} {vs : List Value} {st : List Fm} (h : cek c Z Qf k (.rt vs) st m N) (hk : k < n) : Kx c Z Qf n st vs m N := by
  cases k with
  | zero => exact h.elim
  | succ k => exact ⟨k, hk, h⟩
theorem kl {k n : Nat} {f : Flow} {st : List Fm} (h : cek c Z Qf k (.fl f) st m N) (hk : k < n) : Kl c Z Qf n st f m N := by
  cases k with
  | zero => exact h.elim
  | succ k => exact ⟨k, hk, h⟩
theorem Kx.up {k n : Nat} {vs : List Value} {st : List Fm} (h : Kx c Z Qf k st vs m N) (hk : k ≤ n) : Kx c Z Qf n st vs m N := by
  obtain ⟨j, h1, h2⟩ := h
  exact ⟨j, Nat.lt_of_lt_of_le h1 hk, h2⟩
theorem Kl.up {k n : Nat} {f : Flow} {st : List Fm} (h : Kl c Z Qf k st f m N) (hk : k ≤ n) : Kl c Z Qf n st f m N := by
  obtain ⟨j, h1, h2⟩ := h
  exact ⟨j, Nat.lt_of_lt_of_le h1 hk, h2⟩
theorem a0 {k n : Nat} (h : k + 1 < n) : k < n + 1 := by omega
theorem a1 {k n : Nat} (h : k + 1 < n) : k ≤ n := by omega
theorem a2 {k n : Nat} (h : k + 1 < n) : k < n := by omega
theorem a3 {k n : Nat} (h : k + 1 < n) : k ≤ n + 1 := by omega
theorem b0 {k j n : Nat} (h : k + 1 < n) (h2 : j + 1 < k) : j < n + 1 := by omega
theorem b1 {k j n : Nat} (h : k + 1 < n) (h2 : j + 1 < k) : j ≤ n := by omega
theorem b2 {k j n : Nat} (h : k + 1 < n) (h2 : j + 1 < k) : j < n := by omega
theorem b3 {k j n : Nat} (h : k + 1 < n) (h2 : j + 1 < k) : j ≤ n + 1 := by omega
local macro_rules | `(tactic| walk_at "wA") => `(tactic| first | exact Nat.lt_succ_self _ | exact Nat.le_refl _ | exact a0 (by assumption) | exact a1 (by assumption) | exact a2 (by assumption) | exact a3 (by assumption) | exact b0 (by assumption) (by assumption) | exact b1 (by assumption) (by assumption) | exact b2 (by assumption) (by assumption) | exact b3 (by assumption) (by assumption) | omega)
structure Ih (c : Cx) (Z : Sx) (Qf : KF) (n : Nat) : Prop where
  e : ∀ k, k ≤ n → ∀ md st m N, cek c Z Qf k (.ev md) st m N → SemOf c md m N (Kx c Z Qf k st)
  b : ∀ k, k ≤ n → ∀ body st m N, cek c Z Qf k (.bl body) st m N → Wx c m N (execs body c.env) (Kl c Z Qf k st)
variable {n : Nat}
theorem Ih.x (h : Ih c Z Qf n) {k : Nat} (hk : k ≤ n) {e : PySem.Expr} {st : List Fm} {m : Loc} {N : Led} (H : cek c Z Qf k (.ev (.ex e)) st m N) : Wx c m N (eval e c.env) fun v m N => Kx c Z Qf k st [v] m N := h.e k hk (.ex e) st m N H
theorem Ih.t (h : Ih c Z Qf n) {k : Nat} (hk : k ≤ n) {e : PySem.Expr} {st : List Fm} {m : Loc} {N : Led} (H : cek c Z Qf k (.ev (.ts e)) st m N) : Wx c m N (isTrue e c.env (eval e c.env)) fun b m N => Kx c Z Qf k st [.bool b] m N := h.e k hk (.ts e) st m N H
theorem Ih.a (h : Ih c Z Qf n) {k : Nat} (hk : k ≤ n) {es : List PySem.Expr} {st : List Fm} {m : Loc} {N : Led} (H : cek c Z Qf k (.ev (.as es)) st m N) (pos : Pos) : Wx c m N (spliced (backTo pos (starEach es c.env))) fun vs m N => Kx c Z Qf k st vs m N := h.e k hk (.as es) st m N H pos
theorem nb {b : Bool} (h : (!b) = true) : b = false := by cases b <;> first | rfl | cases h
theorem go_ {α : Type} {t : Sem α} {P : α → Loc → Led → Prop} (h : Wx c m N t P) {s : Shared} {u : Str → Option Value} {R : α → Shared → Prop} (F : Fr c.g c.L s.heap (kstB u m)) (NN : News c.g c.L s.heap N)
    (k : ∀ v h' tk u' m' N', Fr c.g c.L h' (kstB u' m') → News c.g c.L h' N' → P v m' N' → R v { s with heap := h', toks := tk }) : wpAny c.M c.A t R NoE s := h.run s u R F NN k
theorem evO_sound (h : Ih c Z Qf n) {k : Nat} (hk : k ≤ n) {e : Option PySem.Expr} {st : List Fm} (H : evO (cek c Z Qf k) e st m N) {s : Shared} {u : Str → Option Value} {R : Value → Shared → Prop} (F : Fr c.g c.L s.heap (kstB u m)) (NN : News c.g c.L s.heap N)
    (q : ∀ v h' tk u' m' N', Fr c.g c.L h' (kstB u' m') → News c.g c.L h' N' → Kx c Z Qf (k + 1) st [v] m' N' → R v { s with heap := h', toks := tk }) : wpAny c.M c.A (evalPart e c.env) R NoE s := by
  cases e with
  | none => exact evalPart_none_step (q _ _ _ u m N F NN (kx H (Nat.lt_succ_self _)))
  | some e => exact evalPart_some_step ((h.x hk H).run s u _ F NN fun v h' tk u m N F NN H => q v h' tk u m N F NN (H.up (Nat.le_succ _)))
theorem chain_sound (h : Ih c Z Qf n) {l r r' : PySem.Expr} {op op' : CmpOp} {st : List Fm} {t : Bool} (H : cek c Z Qf n (.ev (.ex l)) (.ch1 op r op' r' t :: st) m N) : Wx c m N (eval l c.env) fun a m N => Wx c m N (eval r c.env) fun b m N =>
    ∃ x ta y tb z, a = .int x ta ∧ b = .int y tb ∧ cmpI op x y = some z ∧ ∃ k, k < n ∧ (z = true → cek c Z Qf k (.ev (.ex r')) (chF t op' b :: st) m N) ∧ (z = false → cek c Z Qf k (.rt [.bool false]) st m N) :=
  (h.x (Nat.le_refl _) H).mono fun a m N ⟨k, hk, H⟩ => (h.x (by walk_at "wA") H).mono fun b m N ⟨k2, hk2, H⟩ => by
    obtain ⟨x, ta, y, tb, z, e1, e2, e3, e4, e5⟩ := wpL_sound H
    exact ⟨x, ta, y, tb, z, e1, e2, e3, k2, by omega, e4, e5⟩
theorem len1000 {n : Nat} (h : Nat.ble n 1000 = true) : n ≤ sizeLine := by
  have := Nat.le_of_ble_eq_true h
  rw [sizeLine_eq]; omega
theorem stE_sound (G : c.Ok k₀) (hg : ZOk c Z) (h : Ih c Z Qf n) : ∀ (e : PySem.Expr) (st : List Fm) (m : Loc) (N : Led), stE c Z (cek c Z Qf n) e st m N → Wx c m N (eval e c.env) fun v m N => Kx c Z Qf (n + 1) st [v] m N := by
  intro e st m N H
  have ret : ∀ {vs : List Value} {m : Loc} {N : Led}, cek c Z Qf n (.rt vs) st m N → Kx c Z Qf (n + 1) st vs m N := fun H => kx H (Nat.lt_succ_self _)
  cases e with
  | Constant v k pos =>
    cases v with
    | int i => exact Wx.tok (fun s R h => wpAny_Constant_int h) fun t => ret (H t)
    | bool b => exact Wx.ret (fun s R h => Constant_bool h) (ret H)
    | none => exact Wx.ret (fun s R h => Constant_none h) (ret H)
    | str x => exact Wx.tok (fun s R h => Constant_str h) fun t => ret (H t)
    | bytes x => exact Wx.tok (fun s R h => Constant_bytes h) fun t => ret (H t)
    | _ => exact Wx.mono H fun _ _ _ => ret
  | Name x pos => exact (name_sound (Q := fun vs m N => cek c Z Qf n (.rt vs) st m N) G hg H).mono fun _ _ _ => ret
  | BinOp l op r pos =>
    exact Wx.seq3 (fun s R h => wpAny_BinOp h) ((h.x (Nat.le_refl _) H).mono fun a m N ⟨k, hk, H⟩ => (h.x (by walk_at "wA") H).mono fun b m N ⟨k2, hk2, H⟩ => (wpB_sound (Q := fun vs m N => cek c Z Qf k2 (.rt vs) st m N) H).mono fun v m N H => kx H (by walk_at "wA"))
  | UnaryOp op x pos =>
    cases op with
    | USub => exact Wx.seq (fun s R h => UnaryOp_ h) ((h.x (Nat.le_refl _) H).mono fun a m N ⟨k, hk, H⟩ => (wpU_sound (Q := fun vs m N => cek c Z Qf k (.rt vs) st m N) H).mono fun v m N H => kx H (by walk_at "wA"))
    | _ => exact Wx.mono H fun _ _ _ => ret
  | Compare l ops rs pos =>
    rcases ops with _ | ⟨op, _ | ⟨op', _ | ⟨op2, ops⟩⟩⟩ <;> rcases rs with _ | ⟨r, _ | ⟨r', _ | ⟨r2, rs⟩⟩⟩ <;> first | exact Wx.mono H fun _ _ _ => ret | skip
    · obtain ⟨g1, H⟩ := guard_mp H
      exact Wx.seq3 (fun s R h => wpAny_Compare1 h (nb g1)) ((h.x (Nat.le_refl _) H).mono fun a m N ⟨k, hk, H⟩ => (h.x (by walk_at "wA") H).mono fun b m N ⟨k2, hk2, H⟩ => (wpC_sound (Q := fun vs m N => cek c Z Qf k2 (.rt vs) st m N) H).mono fun v m N H => kx H (by walk_at "wA"))
    · obtain ⟨g1, H⟩ := guard_mp H
      refine ⟨fun s u R F N' q => Compare_chain ((chain_sound h H).run s u _ F N' fun a _ _ u m N F N' H => chain_link (go_ H F N' fun b _ _ u m N F N' H => ?_)) (nb g1)⟩
      obtain ⟨x, ta, y, tb, z, rfl, rfl, e1, k, hk, h1, h2⟩ := H
      refine cmpI_sound e1 (wpAny_truthy_bool (split_bool (fun e => ?_) (fun e => ?_)))
      · exact chain_last (go_ (h.x (by walk_at "wA") (h1 e)) F N' fun d _ _ u m N F N' ⟨k2, hk2, H⟩ => go_ (wpC_sound (Q := fun vs m N => cek c Z Qf k2 (.rt vs) st m N) H) F N' fun v h' tk u m N F NN H => q v h' tk u m N F NN (kx H (by walk_at "wA")))
      · subst e
        exact q _ _ _ u m N F N' (kx (h2 rfl) (by walk_at "wA"))
  | BoolOp op xs pos =>
    rcases xs with _ | ⟨x, _ | ⟨y, rest⟩⟩
    · exact Wx.mono H fun _ _ _ => ret
    · exact Wx.same (fun s R h => BoolOp_one h) ((h.x (Nat.le_refl _) H).mono fun v m N H => H.up (Nat.le_succ _))
    · refine ⟨fun s u R F N' q => ?_⟩
      cases op with
      | And =>
        refine BoolOp_and (go_ (h.x (Nat.le_refl _) H) F N' fun v _ _ u m N F N' ⟨k, hk, H⟩ => go_ (tru_sound (Q := fun vs m N => cek c Z Qf k (.rt vs) (.bo2 .And v y rest pos :: st) m N) H) F N' fun b _ _ u m N F N' H => ?_)
        obtain ⟨k2, hk2, H⟩ := kx (n := n) H (by walk_at "wA")
        cases b
        · exact q _ _ _ u m N F N' (kx H (by walk_at "wA"))
        · exact go_ (h.x (by walk_at "wA") H) F N' fun v h' tk u m N F NN H => q v h' tk u m N F NN (H.up (by walk_at "wA"))
      | Or =>
        refine BoolOp_or (go_ (h.x (Nat.le_refl _) H) F N' fun v _ _ u m N F N' ⟨k, hk, H⟩ => go_ (tru_sound (Q := fun vs m N => cek c Z Qf k (.rt vs) (.bo2 .Or v y rest pos :: st) m N) H) F N' fun b _ _ u m N F N' H => ?_)
        obtain ⟨k2, hk2, H⟩ := kx (n := n) H (by walk_at "wA")
        cases b
        · exact go_ (h.x (by walk_at "wA") H) F N' fun v h' tk u m N F NN H => q v h' tk u m N F NN (H.up (by walk_at "wA"))
        · exact q _ _ _ u m N F N' (kx H (by walk_at "wA"))
  | IfExp test a b pos =>
    refine ⟨fun s u R F N' q => wpAny_IfExp (go_ (h.t (Nat.le_refl _) H) F N' fun t _ _ u m N F N' ⟨k, hk, H⟩ => ?_)⟩
    cases t
    · exact go_ (h.x (by walk_at "wA") H) F N' fun v h' tk u m N F NN H => q v h' tk u m N F NN (H.up (by walk_at "wA"))
    · exact go_ (h.x (by walk_at "wA") H) F N' fun v h' tk u m N F NN H => q v h' tk u m N F NN (H.up (by walk_at "wA"))
  | Subscript v sl pos =>
    have pl : ∀ {sl : PySem.Expr}, cek c Z Qf n (.ev (.ex v)) (.sb1 v sl :: st) m N → Wx c m N (eval (.Subscript v sl pos) c.env) fun v m N => Kx c Z Qf (n + 1) st [v] m N := fun {sl} H =>
      Wx.seq3 (fun s R h => Subscript_ h) ((h.x (Nat.le_refl _) H).mono fun a m N ⟨k, hk, H⟩ => (h.x (by walk_at "wA") H).mono fun b m N ⟨k2, hk2, H⟩ => Wx.mono H fun v m N H => kx H (by walk_at "wA"))
    cases sl with
    | Slice lo hi stp sp =>
      cases stp with
      | none =>
        exact ⟨fun s u R F N' q => Subscript_ (go_ (h.x (Nat.le_refl _) H) F N' fun o _ _ u m N F NN ⟨k, hk, H⟩ => wpAny_Slice (evO_sound h (by walk_at "wA") H F NN fun lv _ _ u m N F NN ⟨k2, hk2, H⟩ => evO_sound h (by walk_at "wA") H F NN fun uv _ _ u m N F NN ⟨k3, hk3, H⟩ =>
          evalPart_none_step (WxS.run (Q := fun vs m N => cek c Z Qf k3 (.rt vs) st m N) H _ u _ F NN fun v h' tk u m N F NN H => q v h' tk u m N F NN (kx H (by walk_at "wA")))))⟩
      | some _ => exact pl H
    | _ => exact pl H
  | Call f args kws pos =>
    cases f with
    | Name f fp =>
      cases kws with
      | cons _ _ => exact Wx.mono H fun _ _ _ => ret
      | nil =>
        refine Wx.seq (fun s R h => Call_ h rfl) ((h.x (Nat.le_refl _) H).mono fun fv m N ⟨k, hk, H⟩ => ?_)
        cases args with
        | nil =>
          obtain ⟨g1, H⟩ := guard_mp H
          rw [← hg.k] at g1
          exact ⟨fun s u R F N' q => callWith_K0 (G.X.keeps F.keep) g1 (Wx.run H s u R F N' fun v h' tk u m N F NN H => q v h' tk u m N F NN (kx H (by walk_at "wA")))⟩
        | cons a args =>
          obtain ⟨g1, H⟩ := guard_mp H
          rw [Bool.and_eq_true_iff, ← hg.k] at g1
          exact call_sound G g1.1 (nb g1.2) ((h.a (by walk_at "wA") H pos).mono fun vs m N ⟨k2, hk2, H⟩ => Wx.mono H fun v m N H => kx H (by walk_at "wA"))
    | _ => exact Wx.mono H fun _ _ _ => ret
  | Tuple es k pos =>
    refine Wx.seq (fun s R h => Tuple_ h) ((h.a (Nat.le_refl _) H pos).mono fun vs m N ⟨k, hk, H⟩ => ?_)
    obtain ⟨g1, H⟩ := guard_mp H
    exact ⟨fun s u R F N' q => newTuple_N F N' (fun h' F' N'' => q _ h' s.toks u m _ F' N'' (kx (H _ fun p hp => Heap.lt_size (N' p hp).1) (by walk_at "wA"))) (len1000 g1)⟩
  | List es pos =>
    refine Wx.seq (fun s R h => List_ h) ((h.a (Nat.le_refl _) H pos).mono fun vs m N ⟨k, hk, H⟩ => ?_)
    obtain ⟨g1, H⟩ := guard_mp H
    exact ⟨fun s u R F N' q => newList_N F N' (fun h' F' N'' => q _ h' s.toks u m _ F' N'' (kx (H _ fun p hp => Heap.lt_size (N' p hp).1) (by walk_at "wA"))) (len1000 g1)⟩
  | _ => exact Wx.mono H fun _ _ _ => ret
theorem swaps_no {e : PySem.Expr} {t : Option PySem.Expr} {l : Nat} {env : Env} (h : isComp e = false) : swapsWith e t l env = pure false := by
  cases e <;> first | rfl | cases h
theorem stT_sound (h : Ih c Z Qf n) : ∀ (e : PySem.Expr) (st : List Fm) (m : Loc) (N : Led), stT c (cek c Z Qf n) e st m N → Wx c m N (isTrue e c.env (eval e c.env)) fun b m N => Kx c Z Qf (n + 1) st [.bool b] m N := by
  intro e st m N H
  have ret : ∀ {vs : List Value} {m : Loc} {N : Led}, cek c Z Qf n (.rt vs) st m N → Kx c Z Qf (n + 1) st vs m N := fun H => kx H (Nat.lt_succ_self _)
  cases e with
  | UnaryOp op x pos =>
    cases op with
    | Not => exact ⟨fun s u R F N' q => isTrue_not (go_ (h.t (Nat.le_refl _) H) F N' fun b h' tk u m N F NN ⟨k, hk, H⟩ => q (!b) h' tk u m N F NN (kx H (by walk_at "wA")))⟩
    | _ => exact Wx.mono H fun _ _ _ => ret
  | BoolOp op xs pos =>
    cases xs with
    | nil =>
      cases op with
      | And => exact Wx.ret (fun s R h => isTrue_and_nil h) (ret H)
      | Or => exact Wx.ret (fun s R h => isTrue_or_nil h) (ret H)
    | cons x rest =>
      refine ⟨fun s u R F N' q => ?_⟩
      cases op with
      | And =>
        refine isTrue_and (go_ (h.t (Nat.le_refl _) H) F N' fun b h' tk u m N F N' ⟨k, hk, H⟩ => ?_)
        cases b
        · exact q false h' tk u m N F N' (kx H (by walk_at "wA"))
        · exact go_ (h.t (by walk_at "wA") H) F N' fun v h' tk u m N F NN H => q v h' tk u m N F NN (H.up (by walk_at "wA"))
      | Or =>
        refine isTrue_or (go_ (h.t (Nat.le_refl _) H) F N' fun b h' tk u m N F N' ⟨k, hk, H⟩ => ?_)
        cases b
        · exact go_ (h.t (by walk_at "wA") H) F N' fun v h' tk u m N F NN H => q v h' tk u m N F NN (H.up (by walk_at "wA"))
        · exact q true h' tk u m N F N' (kx H (by walk_at "wA"))
  | Compare l ops rs pos =>
    rcases ops with _ | ⟨op, _ | ⟨op', _ | ⟨op2, ops⟩⟩⟩ <;> rcases rs with _ | ⟨r, _ | ⟨r', _ | ⟨r2, rs⟩⟩⟩ <;> first | exact Wx.mono H fun _ _ _ => ret | skip
    · obtain ⟨g1, H⟩ := guard_mp H
      exact ⟨fun s u R F N' q => wpAny_isTrue_Compare1 (go_ (h.x (Nat.le_refl _) H) F N' fun a _ _ u m N F N' ⟨k, hk, H⟩ => go_ (h.x (by walk_at "wA") H) F N' fun b _ _ u m N F N' ⟨k2, hk2, H⟩ =>
        go_ (wpCT_sound (Q := fun vs m N => cek c Z Qf k2 (.rt vs) st m N) H) F N' fun v _ _ u m N F N' H => go_ (tru_sound H) F N' fun v h' tk u m N F NN H => q v h' tk u m N F NN (kx H (by walk_at "wA"))) (nb g1)⟩
    · obtain ⟨g1, H⟩ := guard_mp H
      refine ⟨fun s u R F N' q => isTrue_chain (go_ (chain_sound h H) F N' fun a _ _ u m N F N' H => test_link (go_ H F N' fun b _ _ u m N F N' H => ?_)) (nb g1)⟩
      obtain ⟨x, ta, y, tb, z, rfl, rfl, e1, k, hk, h1, h2⟩ := H
      refine cmpI_sound e1 (wpAny_truthy_bool (split_bool (fun e => ?_) (fun e => ?_)))
      · exact test_last (go_ (h.x (by walk_at "wA") (h1 e)) F N' fun d _ _ u m N F N' ⟨k2, hk2, H⟩ => go_ (wpCT_sound (Q := fun vs m N => cek c Z Qf k2 (.rt vs) st m N) H) F N' fun v _ _ u m N F N' H => go_ (tru_sound H) F N' fun v h' tk u m N F NN H => q v h' tk u m N F NN (kx H (by walk_at "wA")))
      · subst e
        exact q _ _ _ u m N F N' (kx (h2 rfl) (by walk_at "wA"))
  | Name x p => exact Wx.seq (fun s R h => isTrue_plain h rfl) ((h.x (Nat.le_refl _) H).mono fun v m N ⟨k, hk, H⟩ => (tru_sound (Q := fun vs m N => cek c Z Qf k (.rt vs) st m N) H).mono fun b m N H => kx H (by walk_at "wA"))
  | Call f as ks p => exact Wx.seq (fun s R h => isTrue_plain h rfl) ((h.x (Nat.le_refl _) H).mono fun v m N ⟨k, hk, H⟩ => (tru_sound (Q := fun vs m N => cek c Z Qf k (.rt vs) st m N) H).mono fun b m N H => kx H (by walk_at "wA"))
  | _ => exact Wx.mono H fun _ _ _ => ret
theorem store_sound {x : Str} {v : Value} {K : KF} (G : c.Ok k₀) (hg : ZOk c Z) (H : wpP c Z x v m N K) {s : Shared} {u : Str → Option Value} {R : Flow → Shared → Prop} (F : Fr c.g c.L s.heap (kstB u m)) (NN : News c.g c.L s.heap N)
    (k : ∀ v h' tk u' m' N', Fr c.g c.L h' (kstB u' m') → News c.g c.L h' N' → K v m' N' → R v { s with heap := h', toks := tk }) : wpAny c.M c.A (storeName c.env x v) (fun _ => R .next) NoE s := by
  unfold wpP at H
  by_cases e1 : Z.sc.lookup x = some .local
  · rw [if_pos e1] at H
    exact storeX_L F NN (fun h2 F2 N2 => k .next h2 _ u _ _ (by rw [kstB_put]; exact F2) N2 H) G.hk (show c.cs.names.lookup x = some .local from hg.s ▸ e1)
  · rw [if_neg e1] at H
    exact H.run _ u _ F NN fun _ h' tk u m N F NN q => k .next h' tk u m N F NN q
theorem stS_sound (G : c.Ok k₀) (hg : ZOk c Z) (h : Ih c Z Qf n) : ∀ (s : Stmt) (st : List Fm) (m : Loc) (N : Led), stS c (cek c Z Qf n) s st m N → Wx c m N (exec s c.env) (Kl c Z Qf (n + 1) st) := by
  intro s st m N H
  have ret : ∀ {f : Flow} {m : Loc} {N : Led}, cek c Z Qf n (.fl f) st m N → Kl c Z Qf (n + 1) st f m N := fun H => kl H (Nat.lt_succ_self _)
  cases s with
  | Assign ts value pos =>
    rcases ts with _ | ⟨t, _ | ⟨t2, ts⟩⟩
    · exact Wx.mono H fun _ _ _ => ret
    · cases t with
      | Name x xp =>
        obtain ⟨g1, H⟩ := guard_mp H
        exact ⟨fun s u R F N' q => wpAny_Assign_Name (go_ (h.x (Nat.le_refl _) H) F N' fun v _ _ u m N F NN ⟨k, hk, H⟩ => store_sound (K := fun f m N => cek c Z Qf k (.fl f) st m N) G hg H F NN fun v h' tk u m N F NN H => q v h' tk u m N F NN (kl H (by walk_at "wA"))) (swaps_no (nb g1))⟩
      | _ => exact Wx.mono H fun _ _ _ => ret
    · cases t <;> exact Wx.mono H fun _ _ _ => ret
  | Return e pos =>
    cases e with
    | none => exact Wx.mono H fun _ _ _ => ret
    | some e => exact ⟨fun s u R F N' q => wpAny_Return_some (go_ (h.x (Nat.le_refl _) H) F N' fun v h' tk u m N F NN ⟨k, hk, H⟩ => q (.ret v) h' tk u m N F NN (kl H (by walk_at "wA")))⟩
  | If test a b pos =>
    refine ⟨fun s u R F N' q => wpAny_If (go_ (h.t (Nat.le_refl _) H) F N' fun t _ _ u m N F N' ⟨k, hk, H⟩ => ?_)⟩
    cases t
    · exact go_ (h.b k (by walk_at "wA") b st m N H) F N' fun v h' tk u m N F NN H => q v h' tk u m N F NN (H.up (by walk_at "wA"))
    · exact go_ (h.b k (by walk_at "wA") a st m N H) F N' fun v h' tk u m N F NN H => q v h' tk u m N F NN (H.up (by walk_at "wA"))
  | Expr e pos =>
    obtain ⟨g1, H⟩ := guard_mp H
    refine ⟨fun s u R F N' q => wpAny_Expr (go_ (h.x (Nat.le_refl _) H) F N' fun v h' tk u m N F NN ⟨k, hk, H⟩ => ?_) (by unfold interactive; rw [show c.env.scope.kind = .function from G.hk]; rfl) (swaps_no (nb g1))⟩
    obtain ⟨g2, H⟩ := guard_mp H
    cases v <;> first | exact q .next h' tk u m N F NN (kl H (by walk_at "wA")) | cases g2
  | _ => exact Wx.mono H fun _ _ _ => ret
theorem ih_all (G : c.Ok k₀) (hg : ZOk c Z) : ∀ n, Ih c Z Qf n := by
  have key : ∀ n, (∀ k, k < n → Ih c Z Qf k) → Ih c Z Qf n := by
    intro n ih
    refine ⟨fun k hk md st m N H => ?_, fun k hk body st m N H => ?_⟩
    · cases k with
      | zero => exact H.elim
      | succ k =>
        have h := ih k (by walk_at "wA")
        cases md with
        | ex e => exact stE_sound G hg h e st m N H
        | ts e => exact stT_sound h e st m N H
        | as es =>
          intro pos
          cases es with
          | nil => exact Wx.ret (fun s R h => args_nil h) (kx H (by walk_at "wA"))
          | cons e es =>
            obtain ⟨g1, H⟩ := guard_mp H
            exact ⟨fun s u R F N' q => args_cons (go_ (h.x (Nat.le_refl _) H) F N' fun v _ _ u m N F N' ⟨j, hj, H⟩ => go_ (h.a (by walk_at "wA") H pos) F N' fun vs h' tk u m N F NN ⟨i, hi, H⟩ => q (v :: vs) h' tk u m N F NN (kx H (by walk_at "wA"))) (star_cons (nb g1))⟩
    · cases k with
      | zero => exact H.elim
      | succ k =>
        have h := ih k (by walk_at "wA")
        cases body with
        | nil => exact Wx.ret (fun s R h => wpAny_execs_nil h) (kl H (by walk_at "wA"))
        | cons s rest =>
          refine ⟨fun s' u R F N' q => wpAny_execs_cons (go_ (stS_sound G hg h s (.bk rest :: st) m N H) F N' fun f h' tk u m N F NN ⟨j, hj, H⟩ => ?_)⟩
          cases f with
          | next => exact go_ (h.b j (by walk_at "wA") rest st m N H) F NN fun v h' tk u m N F NN H => q v h' tk u m N F NN (H.up (by walk_at "wA"))
          | brk => exact q .brk h' tk u m N F NN (kl H (by walk_at "wA"))
          | cont => exact q .cont h' tk u m N F NN (kl H (by walk_at "wA"))
          | ret v => exact q (.ret v) h' tk u m N F NN (kl H (by walk_at "wA"))
  intro n
  induction n using Nat.strongRecOn with
  | _ n ih => exact key n ih
theorem run_sound (G : c.Ok k₀) (hg : ZOk c Z) (n : Nat) {body : List Stmt} (H : cek c Z Qf n (.bl body) [] m N) : Wx c m N (execs body c.env) Qf :=
  ((ih_all G hg n).b n (Nat.le_refl _) body [] m N H).mono fun f m N ⟨_, _, H⟩ => H
variable {prog : Program} {w : World} {K : Frag} {sc : Scope} {gl : Loc}
theorem glob_nil {sn : List (Str × NameKind)} : GlobOk c sn [] := fun _ _ _ h => nomatch h
theorem glob_cons {x : Str} {v : Value} (I : c.Is prog w K sc) (G : c.Ok k₀) (hx : sc.names.lookup x = some .globalImplicit) (e : nsIn K mainGlobals x = some (some v)) (h : GlobOk c sc.names gl) : GlobOk c sc.names ((x, v) :: gl) := by
  intro y v' pos hl hn m N Q q
  unfold look at hl
  by_cases e2 : y = x
  · subst e2
    rw [decide_eq_true rfl] at hl
    cases hl
    have hx' : c.cs.names.lookup y = some .globalImplicit := I.s ▸ hx
    exact ⟨fun s u R F N2 k => nameX_K F G.X (topRead_of G.T) (I.k ▸ e) (k v s.heap s.toks u m N F N2 q) G.hk hx' (G.hs _ (mem_of_lookup_some hx'))⟩
  · rw [decide_eq_false e2] at hl
    exact h y v' pos hl hn m N Q q
theorem glob_consB {x : Str} {v : Value} (I : c.Is prog w K sc) (G : c.Ok k₀) (hx : sc.names.lookup x = some .globalImplicit) (e : nsIn K mainGlobals x = some none) (hv : bootBuiltins x = some v) (hn2 : x ≠ "__name__") (h : GlobOk c sc.names gl) : GlobOk c sc.names ((x, v) :: gl) := by
  intro y v' pos hl hn m N Q q
  unfold look at hl
  by_cases e2 : y = x
  · subst e2
    rw [decide_eq_true rfl] at hl
    cases hl
    have hx' : c.cs.names.lookup y = some .globalImplicit := I.s ▸ hx
    exact ⟨fun s u R F N2 k => nameX_B F G.X (topRead_of G.T) (I.k ▸ e) hv hn2 (k v s.heap s.toks u m N F N2 q) G.hk hx' (G.hs _ (mem_of_lookup_some hx'))⟩
  · rw [decide_eq_false e2] at hl
    exact h y v' pos hl hn m N Q q
theorem z_ok (I : c.Is prog w K sc) (h : GlobOk c sc.names gl) : ZOk c ⟨sc.names, K, gl⟩ := ⟨congrArg Scope.names I.s, I.k, h⟩
theorem wx_call {f : Addr} {k : Nat} {vs : List Value} {Pre : Heap → Prop} {Out : Heap → List (Addr × Obj) → Value → Prop} {Q : Value → Loc → Led → Prop} (I : c.Is prog w K sc) (G : c.Ok k₀) (C : PureC prog w K f k vs Pre Out) (hk : k < k₀)
    (hpre : ∀ h u, Fr c.g c.L h (kstB u m) → News c.g c.L h N → Pre h) (ret : ∀ hp r tl, (∀ q ∈ N, ∀ p ∈ tl, p.1 ≠ q.1) → Out hp tl r → Q r m (tl ++ N)) : Wx c m N (call (.ref f) vs) Q := by
  obtain ⟨rfl, rfl, rfl, rfl⟩ := I
  refine ⟨fun s u R F N' k' => ?_⟩
  have hd := G.hd
  have hu := G.hu
  exact pure_use C G.B F G.X N' G.T G.hk (by omega) (by omega) (hpre _ u F N') fun r tl h' tk' F2 N2 ne o => k' r h' tk' u m _ F2 N2 (ret _ r tl ne o)
/-- what a turn of a loop must end in -/
def Turn {σ : Type} (ps : σ → Loc) (Ld : σ → Led) (P : σ → Prop) (μ : σ → Nat) (Q : KF) (c' : σ) : KF := fun f m N => match f with
  | .ret v => Q (.ret v) m N
  | .brk => Q .next m N
  | _ => ∃ c2, (∀ p ∈ Ld c2, p ∈ N) ∧ (∀ p ∈ ps c2, look m p.1 = some p.2) ∧ P c2 ∧ μ c2 < μ c'
theorem wx_while {σ : Type} {test : PySem.Expr} {body : List Stmt} {pos : Pos} {Q : KF} (G : c.Ok k₀) (hg : ZOk c Z) (n : Nat) (ps : σ → Loc) (Ld : σ → Led) (P : σ → Prop) (μ : σ → Nat) (c₀ : σ)
    (hN : ∀ p ∈ Ld c₀, p ∈ N) (hm : ∀ p ∈ ps c₀, look m p.1 = some p.2) (hp : P c₀)
    (turn : ∀ c', P c' → cek c Z (Turn ps Ld P μ Q c') n (.ev (.ts test)) [.wl body] (ps c') (Ld c')) : Wx c m N (exec (.While test body [] pos) c.env) Q := by
  refine ⟨fun s u R F N' k => ?_⟩
  refine my_while Ld ps P μ c₀ F N' hN (fun p hp => kstB_look (hm p hp)) hp fun c' u h tk hp F N2 => ?_
  have ih := ih_all (Qf := Turn ps Ld P μ Q c') G hg n
  refine go_ (ih.t (Nat.le_refl _) (turn c' hp)) F N2 fun b h' tk u m N F NN ⟨j, hj, H⟩ => ?_
  cases b
  · cases j with
    | zero => exact H.elim
    | succ j => exact k .next h' tk u m N F NN H
  · refine go_ (ih.b j (by walk_at "wA") body [] m N H) F NN fun f h' tk u m N F NN ⟨_, _, q⟩ => ?_
    cases f with
    | ret v => exact k (.ret v) h' tk u m N F NN q
    | brk => exact k .next h' tk u m N F NN q
    | next => obtain ⟨c2, q1, q2, q3, q4⟩ := q; exact mw_end c2 F NN q1 (fun p hp => kstB_look (q2 p hp)) q3 q4
    | cont => obtain ⟨c2, q1, q2, q3, q4⟩ := q; exact mw_end c2 F NN q1 (fun p hp => kstB_look (q2 p hp)) q3 q4
end
theorem kstB_lookup : ∀ (l : Loc) (y : Str), kstB (fun _ => none) l y = l.lookup y
  | [], _ => rfl
  | (x, v) :: r, y => by
    show (if y = x then some v else kstB (fun _ => none) r y) = _
    rw [List.lookup_cons, kstB_lookup r y]
    by_cases e : y = x
    · subst e; simp
    · rw [if_neg e, beq_eq_false_iff_ne.mpr e]
def retOf : Flow → Value
  | .ret v => v
  | _ => .none
/-- a def's end -/
def Qend (Out : List (Addr × Obj) → Value → Prop) : KF := fun fl _ N => ∃ tl, (∀ p ∈ tl, p ∈ N) ∧ Out tl (retOf fl)
theorem pure_wx {prog : Program} {w : World} {K : Frag} {f : Addr} {k : Nat} {vs : List Value} {Pre : Heap → Prop} {Out : Heap → List (Addr × Obj) → Value → Prop} {name qual : Str} {params : Arguments} {body : List Stmt} {scope : Scope} {dV kV doc pm cdv ct oc : Value} {an od : Option Addr} {osl : Array (Option Value)} (binds : List (Str × Value))
    (ho : K.lookup f = some ⟨oc, od, .func (fnOf name qual params body scope dV kV doc pm an cdv ct), osl⟩) (hcd : codeIn K cdv qual = true)
    (hbind : ∀ s, BindsTo s (fnOf name qual params body scope dV kV doc pm an cdv ct) ⟨vs, []⟩ binds) (hloc : ∀ y ∈ binds, scope.names.lookup y.1 = some .local)
    (hco : scope.isCoroutine = false) (hgen : scope.isGenerator = false) (hk : scope.kind = .function) (hcell : ∀ x ∈ scope.names, x.2 ≠ .cell) (hdb : (scope.names.all fun y => !(y.1 == ("__debug__" : Str))) = true)
    (h : ∀ c : Cx, c.Is prog w K scope → c.Ok k → Pre c.g → Wx c binds.reverse [] (execs body c.env) (Qend (Out c.g))) :
    PureC prog w K f k vs Pre Out := by
  refine pure_intro ho hcd hbind hloc hco hgen hk hcell fun p loose mean mg mb g L' dp un gd outer A₀ base h₁ s R B X T hp hd hu F N ret => ?_
  refine (h ⟨prog, w, K, p, loose, mean, mg, mb, dp, un, gd, qual, scope, f, cdv, [], outer, A₀, base, g, L'⟩ ⟨rfl, rfl, rfl, rfl⟩ ⟨B, X, T, hk, hd, hu, fun y hy => by simpa using List.all_eq_true.mp hdb y hy⟩ hp).run { s with heap := h₁, toks := s.toks + binds.length } (fun _ => none) _ (by
    have e : (fun y => binds.reverse.lookup y) = kstB (fun _ => none) binds.reverse := by funext y; exact (kstB_lookup _ y).symm
    rw [← e]; exact F) N fun fl h' tk u m N F N2 q => ?_
  obtain ⟨tl, q1, q2⟩ := q
  cases fl with
  | ret v => exact ret v tl h' tk _ N F N2 q1 q2
  | next => exact ret .none tl h' tk _ N F N2 q1 q2
  | brk => exact ret .none tl h' tk _ N F N2 q1 q2
  | cont => exact ret .none tl h' tk _ N F N2 q1 q2
end
section
open PySem PySem.W PySem.Calls PyProof.Rows PySem.Spec
section
variable {c : Cx} {m : Loc} {N : Led} {b d : Array UInt8} {t u : Tok} {ks : List Int}
theorem wx_len {Q : Value → Loc → Led → Prop} (hn : ks.length ≤ 16777216) (hk : KBw.bInts b = ks) (h : ∀ t, Q (.int ks.length t) m N) : Wx c m N (call (.builtin "len") [.bytes b t]) Q :=
  ⟨fun s u R F N' k => KBw.len_K hk (by omega) (k _ s.heap _ u m N F N' (h _))⟩
theorem wx_item {value slice : PySem.Expr} {i : Int} {ui : Tok} {Q : Value → Loc → Led → Prop} (hn : ks.length ≤ 16777216) (hk : KBw.bInts b = ks) (h0 : 0 ≤ i) (h1 : i < (ks.length : Int)) (h : ∀ t, 0 ≤ ks.getD i.toNat 0 → ks.getD i.toNat 0 < 256 → Q (.int (ks.getD i.toNat 0) t) m N)
    (hs : subscripted slice false (.bytes b t) (.int i ui) = operate [.bytes b t, .int i ui] (getItem (.bytes b t) (.int i ui)) := by with_unfolding_all rfl)
    (ht : ∀ r, letTemporaryGo value (.bytes b t) r = pure () := by intro _; with_unfolding_all rfl) : Wx c m N (subscriptTail value slice (.bytes b t) (.int i ui)) Q :=
  ⟨fun s u R F N' k => KBw.item_K hk (by omega) h0 h1 (fun t' k' q1 q2 => k _ s.heap k' u m N F N' (h _ q1 q2)) hs ht⟩
theorem wx_slice {value slice : PySem.Expr} {l v : Value} {lo hi : Option Int} {Q : Kt} (hn : ks.length ≤ 16777216) (hk : KBw.bInts b = ks) (hl : IsPart l lo) (hu : IsPart v hi)
    (h : ∀ t, KBw.bInts (KBy.picked b lo hi) = (ks.drop (lo.elim 0 (clipAt ks.length))).take (hi.elim ks.length (clipAt ks.length) - lo.elim 0 (clipAt ks.length)) → Q [.bytes (KBy.picked b lo hi) t] m N)
    (hs : ∀ a, subscripted slice false (.bytes b t) (.ref a) = operate [.ref a, .bytes b t] (getItem (.bytes b t) (.ref a)) := by intro _; with_unfolding_all rfl)
    (ht : ∀ r, letTemporaryGo value (.bytes b t) r = pure () := by intro _; with_unfolding_all rfl) : WxS c value slice (.bytes b t) l v m N Q :=
  ⟨fun s u R F N' k => KBc.slice_K F N' hk hl hu hn (fun h' t' k' F N' q => k _ h' k' u m N F N' (h _ q)) (hs _) ht⟩
theorem wx_addb {Q : Value → Loc → Led → Prop} (hsz : b.size + d.size ≤ 16777216) (h : ∀ t, Q (.bytes (b ++ d) t) m N) : Wx c m N (binaryOp .Add (.bytes b t) (.bytes d u)) Q :=
  ⟨fun s u R F N' k => KBy.add_bytes hsz fun t' k' => k _ s.heap k' u m N F N' (h _)⟩
theorem wx_call0 {prog : Program} {w : World} {K : Frag} {sc : Scope} {f : Addr} {k k₀ : Nat} {vs : List Value} {P : Value → Prop} {Q : Value → Loc → Led → Prop} (I : c.Is prog w K sc) (G : c.Ok k₀) (C : PureC prog w K f k vs (fun _ => True) (fun _ tl r => tl = [] ∧ P r)) (hk : k < k₀) (h : ∀ r, P r → Q r m N) : Wx c m N (call (.ref f) vs) Q :=
  wx_call I G C hk (fun _ _ _ _ => trivial) fun _ r tl _ o => by obtain ⟨e, o⟩ := o; subst e; exact h r o
end
theorem endO {N : Led} {v x : Value} (h : v = x) : ∃ tl : Led, (∀ p ∈ tl, p ∈ N) ∧ tl = [] ∧ v = x := ⟨[], fun _ h => (nomatch h), rfl, h⟩
theorem nil_mem {α : Type} {P : α → Prop} : ∀ p ∈ ([] : List α), P p := fun _ h => nomatch h
theorem qendO {P : Value → Prop} {m : Loc} {N : Led} {v : Value} (h : P v) : Qend (fun tl r => tl = [] ∧ P r) (.ret v) m N := ⟨[], nil_mem, rfl, h⟩
end
section
open PySem PySem.W PySem.Calls PyProof.Rows PySem.Spec
abbrev rngObj (a b st : Int) (t u v : Tok) : Obj := { cls := .type "range", dict := none, data := .fields #[.int a t, .int b u, .int st v], slots := #[] }
abbrev tupO (vs : List Value) : Obj := { cls := .type "tuple", data := .seq vs.toArray }
section
variable {c : Cx} {m : Loc} {N : Led} {Z : Sx} {k₀ : Nat}
theorem wx_range1 {n : Int} {t : Tok} {Q : Value → Loc → Led → Prop} (h : ∀ r t u v, (∀ p ∈ N, p.1 < r) → Q (.ref r) m ((r, rngObj 0 n 1 t u v) :: N)) : Wx c m N (call (.type "range") [.int n t]) Q :=
  ⟨fun s u R F N' k => call_range_1 (k _ _ _ u m _ (F.push _) (N'.push F _) (h _ _ _ _ fun p hp => Heap.lt_size (N' p hp).1))⟩
theorem wx_range2 {a b : Int} {t u : Tok} {Q : Value → Loc → Led → Prop} (h : ∀ r t u v, (∀ p ∈ N, p.1 < r) → Q (.ref r) m ((r, rngObj a b 1 t u v) :: N)) : Wx c m N (call (.type "range") [.int a t, .int b u]) Q :=
  ⟨fun s u R F N' k => call_range_2 (k _ _ _ u m _ (F.push _) (N'.push F _) (h _ _ _ _ fun p hp => Heap.lt_size (N' p hp).1))⟩
/-- the end of an expression that is run by itself -/
def OnRet (P : Value → Loc → Led → Prop) : KF := fun f m N => match f with
  | .ret v => P v m N
  | _ => False
theorem run_ex (G : c.Ok k₀) (hg : ZOk c Z) (n : Nat) {e : PySem.Expr} {P : Value → Loc → Led → Prop} (H : cek c Z (OnRet P) n (.ev (.ex e)) [.sR] m N) : Wx c m N (eval e c.env) P :=
  ((ih_all G hg n).x (Nat.le_refl _) H).mono fun v m N ⟨k, _, H⟩ => by
    cases k with
    | zero => exact H.elim
    | succ k => exact H
def TurnF {σ : Type} (ps : σ → Loc) (Ld : σ → Led) (P : Nat → σ → Prop) (Q : KF) (i : Nat) (I : Addr) (oI : Obj) : KF := fun f m N => match f with
  | .ret v => Q (.ret v) m N
  | .brk => Q .next m N
  | _ => ∃ c2, (∀ p ∈ (I, oI) :: Ld c2, p ∈ N) ∧ (∀ p ∈ ps c2, look m p.1 = some p.2) ∧ P (i + 1) c2
theorem off1_mem {I : Addr} : ∀ {l : Led}, LCg.Off1 I l → ∀ p ∈ l, p.1 ≠ I
  | [], _, _, h => nomatch h
  | _ :: _, h, _, .head _ => h.1
  | _ :: _, h, p, .tail _ hp => off1_mem h.2 p hp
theorem wx_forR {σ : Type} {x : Str} {px pos : Pos} {iter : PySem.Expr} {body : List Stmt} {Q : KF} (G : c.Ok k₀) (hg : ZOk c Z) (n : Nat) (a b st : Int) (cnt : Nat) (hx : Z.sc.lookup x = some .local)
    (hsmall : Builtin.Range.small a b st = true) (hsz : Builtin.Range.rangeSize a b st = (cnt : Int)) (hf : ∀ x, foldedSetIterable iter c.env x = pure x)
    (ps : σ → Loc) (Ld : σ → Led) (adr : List Addr) (hadr : ∀ c, (Ld c).map (·.1) = adr) (P : Nat → σ → Prop) (c₀ : σ) (hp : P 0 c₀)
    (it : cek c Z (OnRet fun v m' N' => ∃ r t u w, v = .ref r ∧ (r, rngObj a b st t u w) ∈ N' ∧ (∀ p ∈ Ld c₀, p ∈ N') ∧ (∀ p ∈ ps c₀, look m' p.1 = some p.2)) n (.ev (.ex iter)) [.sR] m N)
    (turn : ∀ i t c' I oI, i < cnt → P i c' → (∀ p ∈ Ld c', p.1 ≠ I) → cek c Z (TurnF ps Ld P Q i I oI) n (.bl body) [] (put (ps c') x (.int (a + (i : Int) * st) t)) ((I, oI) :: Ld c'))
    (done : ∀ c', P cnt c' → Q .next (ps c') (Ld c')) : Wx c m N (exec (.For (.Name x px) iter body [] pos) c.env) Q := by
  refine ⟨fun s u R F N' k => For_invVF (h₀ := c.g) F (show c.cs.names.lookup x = some .local from hg.s ▸ hx) (by show (c.cs.kind == .class || (c.cs.kind == .module && _)) = false; rw [G.hk]; rfl) (go_ (run_ex G hg n it) F N' fun v h' tk u m N F NN H => ?_) hf⟩
  obtain ⟨r, t, u', w, rfl, hr, hN, hm⟩ := H
  refine for_range Ld adr ps P c₀ rfl (NN _ hr).1 hsmall hsz hadr F NN hN (fun p hp => kstB_look (hm p hp)) hp (fun I i t c' u h tk oI hi hP off F NN => ?_) fun c' u h tk hP F NN => k .next h tk u _ _ F NN (done c' hP)
  have off' : ∀ p ∈ Ld c', p.1 ≠ I := off1_mem off
  refine go_ (run_sound G hg n (turn i t c' I oI hi hP off')) (u := u) (by rw [kstB_put]; exact F) NN fun f h' tk u m N F NN q => ?_
  cases f with
  | ret v => exact k (.ret v) h' tk u m N F NN q
  | brk => exact k .next h' tk u m N F NN q
  | next => obtain ⟨c2, q1, q2, q3⟩ := q; exact mf_end c2 F NN q1 (fun p hp => kstB_look (q2 p hp)) q3
  | cont => obtain ⟨c2, q1, q2, q3⟩ := q; exact mf_end c2 F NN q1 (fun p hp => kstB_look (q2 p hp)) q3
theorem st1 {x : Str} {v : Value} {s : Shared} {u : Str → Option Value} {R : Unit → Shared → Prop} (G : c.Ok k₀) (hg : ZOk c Z) (hx : Z.sc.lookup x = some .local) (F : Fr c.g c.L s.heap (kstB u m)) (NN : News c.g c.L s.heap N)
    (k : ∀ h' tk, Fr c.g c.L h' (kstB u (put m x v)) → News c.g c.L h' N → R () { s with heap := h', toks := tk }) : wpAny c.M c.A (storeName c.env x v) R NoE s :=
  storeX_L F NN (fun h2 F2 N2 => k h2 _ (by rw [kstB_put]; exact F2) N2) G.hk (show c.cs.names.lookup x = some .local from hg.s ▸ hx)
theorem sw_env {sc : Scope} {ts : List PySem.Expr} {v : PySem.Expr} {r : Sem (Option (List Str))} (hs : c.cs = sc) (h : swappedStores ts v (envX Str.empty sc 0 0 .none []) = r) : swappedStores ts v c.env = r := by
  subst hs
  exact h
theorem wx_unpack2 {x y : Str} {p1 p2 tp pos : Pos} {kk : Nat} {value : PySem.Expr} {Q : KF} (G : c.Ok k₀) (hg : ZOk c Z) (n : Nat) (hx : Z.sc.lookup x = some .local) (hy : Z.sc.lookup y = some .local)
    (it : cek c Z (OnRet fun v m' N' => ∃ a v1 v2 kk, v = .ref a ∧ (a, ({ cls := .type "tuple", data := .seq #[v1, v2] kk } : Obj)) ∈ N' ∧ Q .next (put (put m' x v1) y v2) N') n (.ev (.ex value)) [.sR] m N)
    (hs : swapsWithSole [.Tuple [.Name x p1, .Name y p2] kk tp] value pos.line c.env = pure false) (hw : swappedStores [.Tuple [.Name x p1, .Name y p2] kk tp] value c.env = pure none) :
    Wx c m N (exec (.Assign [.Tuple [.Name x p1, .Name y p2] kk tp] value pos) c.env) Q := by
  refine ⟨fun s u R F N' k => Assign_Tuple (go_ (run_ex G hg n it) F N' fun v h' tk u m N F NN H => ?_) hs hw⟩
  obtain ⟨a, v1, v2, kk, rfl, hm, q⟩ := H
  refine unpackN_ F NN ⟨_, (NN _ hm).1, rfl, _, rfl⟩ rfl rfl rfl fun h' F NN => ?_
  refine assignInOrder_cons (PyProof.Rows.assign_Name (st1 G hg hx F NN fun h' tk F NN => assignInOrder_cons (PyProof.Rows.assign_Name (st1 G hg hy F NN fun h' tk F NN => assignInOrder_nil (k .next h' tk u _ _ F NN q)))))
theorem wx_unpack3 {x y z : Str} {p1 p2 p3 tp pos : Pos} {kk : Nat} {value : PySem.Expr} {Q : KF} (G : c.Ok k₀) (hg : ZOk c Z) (n : Nat) (hx : Z.sc.lookup x = some .local) (hy : Z.sc.lookup y = some .local) (hz : Z.sc.lookup z = some .local)
    (it : cek c Z (OnRet fun v m' N' => ∃ a v1 v2 v3 kk, v = .ref a ∧ (a, ({ cls := .type "tuple", data := .seq #[v1, v2, v3] kk } : Obj)) ∈ N' ∧ Q .next (put (put (put m' x v1) y v2) z v3) N') n (.ev (.ex value)) [.sR] m N)
    (hs : swapsWithSole [.Tuple [.Name x p1, .Name y p2, .Name z p3] kk tp] value pos.line c.env = pure false) (hw : swappedStores [.Tuple [.Name x p1, .Name y p2, .Name z p3] kk tp] value c.env = pure none) :
    Wx c m N (exec (.Assign [.Tuple [.Name x p1, .Name y p2, .Name z p3] kk tp] value pos) c.env) Q := by
  refine ⟨fun s u R F N' k => Assign_Tuple (go_ (run_ex G hg n it) F N' fun v h' tk u m N F NN H => ?_) hs hw⟩
  obtain ⟨a, v1, v2, v3, kk, rfl, hm, q⟩ := H
  refine unpackN_ F NN ⟨_, (NN _ hm).1, rfl, _, rfl⟩ rfl rfl rfl fun h' F NN => ?_
  exact assignInOrder_cons (PyProof.Rows.assign_Name (st1 G hg hx F NN fun h' tk F NN => assignInOrder_cons (PyProof.Rows.assign_Name (st1 G hg hy F NN fun h' tk F NN => assignInOrder_cons (PyProof.Rows.assign_Name (st1 G hg hz F NN fun h' tk F NN => assignInOrder_nil (k .next h' tk u _ _ F NN q)))))))
theorem wx_in {a : Addr} {items : Array Value} {ns : List Int} {x : Int} {t : Tok} {Q : Value → Loc → Led → Prop} (ht : IsTup c.g a items) (hi : IntsAre items.toList ns) (h : Q (.bool (ns.any (· == x))) m N) : Wx c m N (compareOp .In (.int x t) (.ref a)) Q :=
  ⟨fun s u R F N' k => in_tuple_ints (ht.keeps F.keep) hi (k _ _ _ u m N F N' h)⟩
theorem wx_notin {a : Addr} {items : Array Value} {ns : List Int} {x : Int} {t : Tok} {Q : Value → Loc → Led → Prop} (ht : IsTup c.g a items) (hi : IntsAre items.toList ns) (h : Q (.bool (!(ns.any (· == x)))) m N) : Wx c m N (compareOp .NotIn (.int x t) (.ref a)) Q :=
  ⟨fun s u R F N' k => notin_tuple_ints (ht.keeps F.keep) hi (k _ _ _ u m N F N' h)⟩
end
end
section
open PySem PySem.W PySem.Calls PyProof.Rows PySem.Spec
section
variable {prog : Program} {w : World} {A : Around} {E : Value → Shared → Prop} {s : Shared}
theorem item_tup {value slice : PySem.Expr} {l : Addr} {items : Array Value} {n : Nat} {k : Nat} {u : Tok} {y : Value} {Q : Value → Shared → Prop}
    (hl : s.heap.get? l = some { cls := .type "tuple", data := .seq items n }) (hk : k < items.size) (hk2 : k < 1000) (hx : items[k]? = some y) (h : Q y s)
    (hs : subscripted slice false (.ref l) (.int (k : Int) u) = operate [.ref l, .int (k : Int) u] (getItem (.ref l) (.int (k : Int) u)) := by with_unfolding_all rfl) :
    wpAny (model prog w) A (subscriptTail value slice (.ref l) (.int (k : Int) u)) Q E s := by
  refine tail_any (ops := [.ref l, .int (k : Int) u]) ⟨_, hl, rfl⟩ F.slot_tuple_getitem.lookup (P.getItem_tuple (k := k) hl (by omega) (by omega) ?_ hx h) hs
  unfold seqIndex?
  simp
  omega
end
section
variable {c : Cx} {m : Loc} {N : Led} {Z : Sx} {k₀ : Nat}
theorem name_loc {x : Str} {px : Pos} {v : Value} {Q : Value → Loc → Led → Prop} (G : c.Ok k₀) (hg : ZOk c Z) (hx : Z.sc.lookup x = some .local) (hm : look m x = some v) (h : Q v m N) : Wx c m N (eval (.Name x px) c.env) Q := by
  have H : wpN c Z x px m N (fun vs m N => ∀ v, vs = [v] → Q v m N) := by
    unfold wpN
    rw [if_pos hx, hm]
    intro v' e
    cases e
    exact h
  exact (name_sound G hg H).mono fun v m N q => q v rfl
/-- the equation of a method's call, and of arguments -/
abbrev MethEq (c : Cx) (o : PySem.Expr) (name : Str) (apos pos : Pos) (args : List PySem.Expr) (pl : Sem Bool) : Prop :=
  eval (.Call (.Attribute o name apos) args [] pos) c.env = (do
      let ov ← eval o c.env
      standAt apos.atName
      let (f, first) ← holding [ov] (getMethod ov name pl)
      callWith pos f first (backTo pos (starEach args c.env)) [])
theorem run_as (G : c.Ok k₀) (hg : ZOk c Z) (n : Nat) {e : PySem.Expr} {pos : Pos} {P : Value → Loc → Led → Prop} (hst : isStar e = false) (H : cek c Z (OnRet P) n (.ev (.ex e)) [.sR] m N) :
    Wx c m N (spliced (backTo pos (starEach [e] c.env))) fun vs m N => ∃ v, vs = [v] ∧ P v m N := by
  exact ⟨fun s u R F N' q => args_cons (go_ (run_ex G hg n H) F N' fun v _ _ u m N F N' h => args_nil (q [v] _ _ u m N F N' ⟨v, rfl, h⟩)) (star_cons hst)⟩
theorem wx_append {x : Str} {px pa pos : Pos} {arg : PySem.Expr} {l : Addr} {vs : List Value} {cap : Nat} {pl : Sem Bool} {Q : Value → Loc → Led → Prop} (G : c.Ok k₀) (hg : ZOk c Z) (n : Nat)
    (hx : Z.sc.lookup x = some .local) (hm : look m x = some (.ref l)) (hN : (l, listOf vs.toArray cap) ∈ N) (hsz : vs.length ≤ 4096) (hst : isStar arg = false)
    (it : cek c Z (OnRet fun v m' N' => ∃ N2, Upd l (listOf vs.toArray cap) (listOf (vs ++ [v]).toArray (cap + 1)) N' N2 ∧ Q .none m' N2) n (.ev (.ex arg)) [.sR] m N)
    (he : MethEq c (.Name x px) (Str.ofString "append") pa pos [arg] pl := by rfl) :
    Wx c m N (eval (.Call (.Attribute (.Name x px) (Str.ofString "append") pa) [arg] [] pos) c.env) Q := by
  refine ⟨fun s u R F N' k => MethodCall_ (go_ (name_loc (Q := fun v m' N2 => v = .ref l ∧ m = m' ∧ N = N2) G hg hx hm ⟨rfl, rfl, rfl⟩) F N' fun v h1 t1 u m' N2 F N' q => ?_) he⟩
  obtain ⟨rfl, rfl, rfl⟩ := q
  refine getMethod_append_N (s := { s with heap := h1, toks := t1 }) N' hN (callWith_method1 (go_ (run_as G hg n hst it) F N' fun vs2 h2 t2 u m' N2 F N' q => ?_) (star_cons hst) rfl)
  obtain ⟨v, rfl, N3, U, q⟩ := q
  refine append_K (s := { s with heap := h2, toks := t2 }) F N' (by rw [List.push_toArray]; exact U) (fun h' F N' => k _ h' _ u m' N3 F N' q) (by rw [List.size_toArray, sizeLine_eq]; omega)
theorem upd1 {l : Addr} {o o' : Obj} : Upd l o o' [(l, o)] [(l, o')] := .head fun _ h => nomatch h
theorem wx_mkbytes {l : Addr} {vs : List Value} {ns : List Int} {cap : Nat} {Q : Value → Loc → Led → Prop} (hN : (l, listOf vs.toArray cap) ∈ N) (hi : IntsAre vs ns) (hr : KBa.In ns) (hn : ns.length ≤ 16777216)
    (h : ∀ t, Q (.bytes (byteArr ns) t) m N) : Wx c m N (call (.type "bytes") [.ref l]) Q :=
  ⟨fun s u R F N' k => KBa.make_K F N' rfl ⟨_, (N' _ hN).1, rfl, _, rfl⟩ hi hr hn fun h' t' tk F N' _ => k _ h' tk u m N F N' (h t')⟩
theorem wx_eqstr {x y : Str} {t u : Tok} {Q : Value → Loc → Led → Prop} (h : Q (.bool (x == y)) m N) : Wx c m N (compareOp .Eq (.str x t) (.str y u)) Q :=
  Wx.ret (fun _ _ h => PyProof.Rows.eq_str h) h
theorem wx_chr {i : Int} {t : Tok} {Q : Value → Loc → Led → Prop} (h0 : 0 ≤ i) (h1 : i ≤ 1114111) (h : ∀ t, Q (.str ⟨#[i.toNat]⟩ t) m N) : Wx c m N (call (.builtin "chr") [.int i t]) Q :=
  Wx.tok (f := fun t => .str ⟨#[i.toNat]⟩ t) (fun _ _ h => chr_of_range h0 h1 h) h
/-- a method's call with one argument -/
theorem wx_meth1 {o : PySem.Expr} {name : Str} {pa pos : Pos} {arg : PySem.Expr} {pl : Sem Bool} {Q : Value → Loc → Led → Prop} (G : c.Ok k₀) (hg : ZOk c Z) (n : Nat) (hst : isStar arg = false)
    (it : cek c Z (OnRet fun ov m1 N1 => Wx c m1 N1 (getMethod ov name pl) fun p m2 N2 => ∃ id, p = (.builtin id, [ov]) ∧ cek c Z (OnRet fun v m3 N3 => Wx c m3 N3 (call (.builtin id) [ov, v]) Q) n (.ev (.ex arg)) [.sR] m2 N2) n (.ev (.ex o)) [.sR] m N)
    (he : MethEq c o name pa pos [arg] pl := by rfl) : Wx c m N (eval (.Call (.Attribute o name pa) [arg] [] pos) c.env) Q := by
  refine ⟨fun s u R F N' k => MethodCall_ (go_ (run_ex G hg n it) F N' fun ov h1 t1 u m1 N1 F N' H => go_ H F N' fun p h2 t2 u m2 N2 F N' q => ?_) he⟩
  obtain ⟨id, rfl, H⟩ := q
  refine callWith_method1 (go_ (run_as G hg n hst H) F N' fun vs2 h3 t3 u m3 N3 F N' q => ?_) (star_cons hst) rfl
  obtain ⟨v, rfl, H⟩ := q
  exact H.run _ u _ F N' k
theorem gm_join {x : Str} {t : Tok} {pl : Sem Bool} {Q : Value × List Value → Loc → Led → Prop} (h : Q (.builtin "str.join", [.str x t]) m N) : Wx c m N (getMethod (.str x t) "join" pl) Q :=
  Wx.ret (fun _ _ h => GM.join h) h
theorem wx_join1 {l : Addr} {vs : List Value} {xs : List Str} {cap : Nat} {t : Tok} {Q : Value → Loc → Led → Prop} (hN : (l, listOf vs.toArray cap) ∈ N) (hi : StrsAre vs xs) (h1 : ∀ a ∈ xs, a.length = 1) (hn : xs.length ≤ 1048576)
    (h : ∀ t, Q (.str (PySem.Txt.join (Str.ofString "") xs) t) m N) : Wx c m N (call (.builtin "str.join") [.str (Str.ofString "") t, .ref l]) Q :=
  ⟨fun s u R F N' k => KT.join_1 (l := xs) (g := fun y => y) ⟨_, (N' _ hN).1, rfl, _, rfl⟩ hi.carried h1 hn fun t' tk _ => by rw [List.map_id']; exact k _ s.heap tk u m N F N' (h t')⟩
theorem wx_is_none {Q : Value → Loc → Led → Prop} (h : Q (.bool true) m N) : Wx c m N (compareOp .Is .none .none) Q := Wx.ret (fun _ _ h => is_none_none h) h
theorem wx_is_ref {a : Addr} {Q : Value → Loc → Led → Prop} (h : Q (.bool false) m N) : Wx c m N (compareOp .Is (.ref a) .none) Q := Wx.ret (fun _ _ h => is_ref_none h) h
/-- an item of a tuple of the ledger by a written number -/
theorem wx_tup {value slice : PySem.Expr} {l : Addr} {items : Array Value} {k : Nat} {cap : Nat} {u : Tok} {y : Value} {Q : Value → Loc → Led → Prop} (hN : (l, ({ cls := .type "tuple", data := .seq items cap } : Obj)) ∈ N) (hk : k < items.size) (hk2 : k < 1000) (hx : items[k]? = some y) (h : Q y m N)
    (hs : subscripted slice false (.ref l) (.int (k : Int) u) = operate [.ref l, .int (k : Int) u] (getItem (.ref l) (.int (k : Int) u)) := by with_unfolding_all rfl) : Wx c m N (subscriptTail value slice (.ref l) (.int (k : Int) u)) Q :=
  ⟨fun s u R F N' k => item_tup (N' _ hN).1 hk hk2 hx (k _ s.heap s.toks u m N F N' h) hs⟩
theorem wx_addl {a b : Addr} {xs ys : List Value} {ca cb : Nat} {Q : Value → Loc → Led → Prop} (ha : (a, listOf xs.toArray ca) ∈ N) (hb : (b, listOf ys.toArray cb) ∈ N) (hz : xs.length + ys.length ≤ 16777216)
    (h : ∀ D, (∀ p ∈ N, p.1 < D) → Q (.ref D) m ((D, listOf (xs ++ ys).toArray 0) :: N)) : Wx c m N (binaryOp .Add (.ref a) (.ref b)) Q :=
  ⟨fun s u R F N' k => kmk_add_lit F N' ⟨_, (N' _ ha).1, rfl, _, rfl⟩ ⟨_, (N' _ hb).1, rfl, _, rfl⟩ rfl (fun D h' F N' hD => k _ h' s.toks u m _ F N' (h D hD)) (by rw [sizeLine_eq]; exact hz)⟩
/-- a method's call with no argument -/
theorem wx_meth0 {o : PySem.Expr} {name : Str} {pa pos : Pos} {pl : Sem Bool} {Q : Value → Loc → Led → Prop} (G : c.Ok k₀) (hg : ZOk c Z) (n : Nat)
    (it : cek c Z (OnRet fun ov m1 N1 => Wx c m1 N1 (getMethod ov name pl) fun p m2 N2 => ∃ id, p = (.builtin id, [ov]) ∧ Wx c m2 N2 (call (.builtin id) [ov]) Q) n (.ev (.ex o)) [.sR] m N)
    (he : MethEq c o name pa pos [] pl := by rfl) : Wx c m N (eval (.Call (.Attribute o name pa) [] [] pos) c.env) Q := by
  refine ⟨fun s u R F N' k => MethodCall_ (go_ (run_ex G hg n it) F N' fun ov h1 t1 u m1 N1 F N' H => go_ H F N' fun p h2 t2 u m2 N2 F N' q => ?_) he⟩
  obtain ⟨id, rfl, H⟩ := q
  exact callWith_method0 (H.run _ u _ F N' k)
theorem gm_upper {x : Str} {t : Tok} {pl : Sem Bool} {Q : Value × List Value → Loc → Led → Prop} (h : Q (.builtin "str.upper", [.str x t]) m N) : Wx c m N (getMethod (.str x t) "upper" pl) Q := Wx.ret (fun _ _ h => GM.upper h) h
theorem gm_split {x : Str} {t : Tok} {pl : Sem Bool} {Q : Value × List Value → Loc → Led → Prop} (h : Q (.builtin "str.split", [.str x t]) m N) : Wx c m N (getMethod (.str x t) "split" pl) Q := Wx.ret (fun _ _ h => GM.split h) h
theorem wx_upper {x : Str} {t : Tok} {Q : Value → Loc → Led → Prop} (hx : x.length ≤ 4096) (h : ∀ t, Q (.str (PySem.Txt.upper x) t) m N) : Wx c m N (call (.builtin "str.upper") [.str x t]) Q :=
  Wx.tok (f := fun t => .str (PySem.Txt.upper x) t) (fun _ _ h => SCL.upper (Nat.le_trans hx (by decide)) fun _ => h) h
theorem wx_split1 {x y : Str} {t u : Tok} {Q : Value → Loc → Led → Prop} (hy : (y.length == 0) = false) (hx : x.length ≤ 4096)
    (h : ∀ D l, l.map (·.1) = PySem.Txt.split x y → (∀ p ∈ N, p.1 < D) → Q (.ref D) m ((D, listOf (strValues l).toArray 0) :: N)) : Wx c m N (call (.builtin "str.split") [.str x t, .str y u]) Q :=
  ⟨fun s u R F N' k => KSpl.split1 F N' hy (fun D l h' tk e _ F N' hD => k _ h' tk u m _ F N' (h D l e hD)) (Nat.le_trans (Nat.add_le_add_right hx 2) (by rw [sizeLine_eq]; decide))⟩
/-- an item of a list of the ledger by a written number -/
theorem wx_itemL {value slice : PySem.Expr} {l : Addr} {vs : List Value} {k : Int} {cap : Nat} {u : Tok} {v : Value} {Q : Value → Loc → Led → Prop} (hN : (l, listOf vs.toArray cap) ∈ N) (h0 : 0 ≤ k) (h2 : k < 2 ^ 63) (hx : vs[k.toNat]? = some v) (h : Q v m N)
    (hs : subscripted slice false (.ref l) (.int k u) = operate [.ref l, .int k u] (getItem (.ref l) (.int k u)) := by with_unfolding_all rfl) : Wx c m N (subscriptTail value slice (.ref l) (.int k u)) Q :=
  ⟨fun s u R F N' q => item_litK ⟨_, (N' _ hN).1, rfl, _, rfl⟩ h0 h2 hx (q _ s.heap s.toks u m N F N' h) hs⟩
theorem wx_notinS {a : Addr} {items : Array Value} {ys : List Str} {x : Str} {t : Tok} {Q : Value → Loc → Led → Prop} (ht : IsTup c.g a items) (hi : StrsAre items.toList ys) (h : Q (.bool (!(ys.any (· == x)))) m N) : Wx c m N (compareOp .NotIn (.str x t) (.ref a)) Q :=
  ⟨fun s u R F N' k => notin_tuple_strs (ht.keeps F.keep) hi (k _ _ _ u m N F N' h)⟩
end
theorem na {P Q : Prop} (h : ¬ P) : ¬ (P ∧ Q) := fun q => h q.1
theorem nb2 {P Q : Prop} (h : ¬ Q) : ¬ (P ∧ Q) := fun q => h q.2
end
section
open PySem PySem.W PySem.Calls PyProof.Rows PySem.Spec
def QendM (q : Addr) (Out : Value → Obj → Prop) : KF := fun fl _ N => ∃ o, (q, o) ∈ N ∧ Out (retOf fl) o
theorem mut_wx {prog : Program} {w : World} {K : Frag} {f : Addr} {k : Nat} {vs : List Value} {q : Addr} {obj : Obj} {Pre : Heap → Prop} {Out : Value → Obj → Prop} {name qual : Str} {params : Arguments} {body : List Stmt} {scope : Scope} {dV kV doc pm cdv ct oc : Value} {an od : Option Addr} {osl : Array (Option Value)} (binds : List (Str × Value))
    (ho : K.lookup f = some ⟨oc, od, .func (fnOf name qual params body scope dV kV doc pm an cdv ct), osl⟩) (hcd : codeIn K cdv qual = true)
    (hbind : ∀ s, BindsTo s (fnOf name qual params body scope dV kV doc pm an cdv ct) ⟨vs, []⟩ binds) (hloc : ∀ y ∈ binds, scope.names.lookup y.1 = some .local)
    (hco : scope.isCoroutine = false) (hgen : scope.isGenerator = false) (hk : scope.kind = .function) (hcell : ∀ x ∈ scope.names, x.2 ≠ .cell) (hdb : (scope.names.all fun y => !(y.1 == ("__debug__" : Str))) = true)
    (h : ∀ c : Cx, c.Is prog w K scope → c.Ok k → Pre c.g → Wx c binds.reverse [(q, obj)] (execs body c.env) (QendM q Out)) :
    MutC prog w K f k vs q obj Pre Out := by
  refine mut_intro ho hcd hbind hloc hco hgen hk hcell fun p loose mean mg mb g L' dp un gd outer A₀ base h₁ s R B X T hp hd hu F N ret => ?_
  refine (h ⟨prog, w, K, p, loose, mean, mg, mb, dp, un, gd, qual, scope, f, cdv, [], outer, A₀, base, g, L'⟩ ⟨rfl, rfl, rfl, rfl⟩ ⟨B, X, T, hk, hd, hu, fun y hy => by simpa using List.all_eq_true.mp hdb y hy⟩ hp).run { s with heap := h₁, toks := s.toks + binds.length } (fun _ => none) _ (by
    have e : (fun y => binds.reverse.lookup y) = kstB (fun _ => none) binds.reverse := by funext y; exact (kstB_lookup _ y).symm
    rw [← e]; exact F) N fun fl h' tk u m N F N2 q => ?_
  obtain ⟨o, q1, q2⟩ := q
  cases fl with
  | ret v => exact ret v o h' tk _ N F N2 q1 q2
  | next => exact ret .none o h' tk _ N F N2 q1 q2
  | brk => exact ret .none o h' tk _ N F N2 q1 q2
  | cont => exact ret .none o h' tk _ N F N2 q1 q2
section
variable {c : Cx} {m : Loc} {N : Led} {Z : Sx} {k₀ : Nat}
theorem wx_int {x : Int} {t : Tok} {Q : Value → Loc → Led → Prop} (h : Q (.int x t) m N) : Wx c m N (call (.type "int") [.int x t]) Q := Wx.ret (fun _ _ h => call_int_int h) h
theorem wx_intB {b : Bool} {Q : Value → Loc → Led → Prop} (h : ∀ t, Q (.int (if b then 1 else 0) t) m N) : Wx c m N (call (.type "int") [.bool b]) Q := Wx.tok (f := fun t => .int (if b then 1 else 0) t) (fun _ _ h => call_int_bool h) h
theorem wx_abs {a : Int} {t : Tok} {Q : Value → Loc → Led → Prop} (h : ∀ t, Q (.int (if a < 0 then -a else a) t) m N) : Wx c m N (call (.builtin "abs") [.int a t]) Q :=
  ⟨fun s u R F N' k => call_abs_int fun _ tk => k _ s.heap tk u m N F N' (h _)⟩
theorem wx_pow18 {t u : Tok} {Q : Value → Loc → Led → Prop} (h : ∀ t, Q (.int 1000000000000000000 t) m N) : Wx c m N (binaryOp .Pow (.int 10 t) (.int 18 u)) Q := Wx.tok (f := fun t => .int 1000000000000000000 t) (fun _ _ h => pow18 h) h
theorem wx_pow {a b : Int} {t u : Tok} {Q : Value → Loc → Led → Prop} (ha : 0 ≤ a) (ha2 : a < 18446744073709551616) (hb : 0 ≤ b) (hb2 : b ≤ 1000) (h : ∀ r t, 0 ≤ r → Q (.int r t) m N) : Wx c m N (binaryOp .Pow (.int a t) (.int b u)) Q :=
  ⟨fun s u R F N' k => powX ha ha2 hb hb2 fun r h0 => k _ s.heap _ u m N F N' (h r _ h0)⟩
theorem wx_setL {x : Str} {px pp pc pos : Pos} {k : Int} {ck : Nat} {value : PySem.Expr} {l : Addr} {vs : List Value} {cap : Nat} {Q : KF} (G : c.Ok k₀) (hg : ZOk c Z) (n : Nat) (hx : Z.sc.lookup x = some .local) (h0 : 0 ≤ k) (h1 : k < vs.length) (h2 : k < 2 ^ 63)
    (it : cek c Z (OnRet fun v m' N' => look m' x = some (.ref l) ∧ ∃ N2, Upd l (listOf vs.toArray cap) (listOf (vs.set k.toNat v).toArray cap) N' N2 ∧ Q .next m' N2) n (.ev (.ex value)) [.sR] m N)
    (hs : swapsWith value (some (.Subscript (.Name x px) (.Constant (.int k) ck pc) pp)) pos.line c.env = pure false := by rfl) :
    Wx c m N (exec (.Assign [.Subscript (.Name x px) (.Constant (.int k) ck pc) pp] value pos) c.env) Q := by
  refine ⟨fun s u R F N' q => wpAny_Assign_Subscript (go_ (run_ex G hg n it) F N' fun v h3 t3 u m3 N3 F N' H => ?_) hs⟩
  obtain ⟨hm, N2, U, H⟩ := H
  refine go_ (name_loc (Q := fun v m' N2 => v = .ref l ∧ m3 = m' ∧ N3 = N2) G hg hx hm ⟨rfl, rfl, rfl⟩) F N' fun ov h4 t4 u m4 N4 F N' e => ?_
  obtain ⟨rfl, rfl, rfl⟩ := e
  refine wpAny_Constant_int ?_
  obtain ⟨pre, post, rfl, rfl, a, b⟩ := U.split
  have z := N' (l, listOf vs.toArray cap) (List.mem_append.mpr (.inr (.head _)))
  refine ki_setAt z.1 h0 h2 (by rw [List.size_toArray]; exact h1) (q _ _ _ u m3 _ (F.change (Heap.SameBut.update ..) z.2.1 z.2.2) (ki_turn _ N' a b ?_ ?_) H)
  · show vs.toArray.setIfInBounds k.toNat v = (vs.set k.toNat v).toArray
    apply Array.toList_inj.mp
    simp
  · simp
theorem wx_cut1 {value slice : PySem.Expr} {l : Addr} {cs : List Value} {ns : List Int} {y : Int} {t : Tok} {Q : Kt} (hl : c.g.IsList l cs.toArray) (hi : IntsAre cs ns) (hy : 0 ≤ y) (hz : ns.length ≤ 4096)
    (h : ∀ D ws, IntsAre ws (ns.take y.toNat) → (∀ p ∈ N, p.1 < D) → Q [.ref D] m ((D, listOf ws.toArray 0) :: N))
    (hs : ∀ a, subscripted slice false (.ref l) (.ref a) = operate [.ref a, .ref l] (getItem (.ref l) (.ref a)) := by intro _; with_unfolding_all rfl)
    (ht : ∀ r, letTemporaryGo value (.ref l) r = pure () := by intro _; with_unfolding_all rfl) : WxS c value slice (.ref l) .none (.int y t) m N Q :=
  ⟨fun s u R F N' k => by
    obtain ⟨oc, e, hr⟩ := hl
    exact kmk_slice_ints (ms := ns.take y.toNat) (c := _) F N' ⟨oc, F.keep _ _ e, hr⟩ .none (.int _ _) hi (kmk_upto hi hy) rfl (fun D ws h' F N' hD hw _ _ => k _ h' s.toks u m _ F N' (h D ws hw hD)) (hs _) ht (by rw [List.size_toArray, hi.length, sizeLine_eq]; omega)⟩
theorem wxs_turn {value sl : PySem.Expr} {o l u : Value} {Q : Kt} (value' : PySem.Expr) (hv : ∀ r, letTemporaryGo value' o r = pure ()) (h : WxS c value' sl o l u m N Q) : WxS c value sl o l u m N Q :=
  ⟨fun s w R F N k => kba_turn hv (h.run s w R F N k)⟩
theorem wx_sum {l : Addr} {vs : List Value} {ns : List Int} {cap : Nat} {Q : Value → Loc → Led → Prop} (hN : (l, listOf vs.toArray cap) ∈ N) (hi : IntsAre vs ns) (h : ∀ t, Q (.int ns.sum t) m N) : Wx c m N (call (.builtin "sum") [.ref l]) Q :=
  ⟨fun s u R F N' k => LSm.sum_ints F N' rfl ⟨_, (N' _ hN).1, rfl, _, rfl⟩ hi fun h' tk t' F N' => k _ h' tk u m N F N' (h t')⟩
theorem wx_nel {a b : Addr} {xs ys : List Value} {ns ms : List Int} {cap : Nat} {Q : Value → Loc → Led → Prop} (hu : c.un + 64 < cLine) (ha : c.g.IsList a xs.toArray) (hb : (b, listOf ys.toArray cap) ∈ N) (hi : IntsAre xs ns) (hj : IntsAre ys ms) (h : Q (.bool (!decide (ns = ms))) m N) : Wx c m N (compareOp .NotEq (.ref a) (.ref b)) Q :=
  ⟨fun s u R F N' k => by
    obtain ⟨oc, e, hr⟩ := ha
    exact ke_ne_ints ⟨oc, F.keep _ _ e, hr⟩ ⟨_, (N' _ hb).1, rfl, _, rfl⟩ hi hj hu (k _ s.heap s.toks u m N F N' h)⟩
theorem wx_lenB {a : Addr} {xs : List Value} {Q : Value → Loc → Led → Prop} (ha : c.g.IsList a xs.toArray) (hz : xs.length ≤ 4096) (h : ∀ t, Q (.int xs.length t) m N) : Wx c m N (call (.builtin "len") [.ref a]) Q :=
  ⟨fun s u R F N' k => by
    obtain ⟨oc, e, hr⟩ := ha
    exact call_len_list ⟨oc, F.keep _ _ e, hr⟩ (by rw [List.size_toArray]; omega) (by rw [List.size_toArray]; exact k _ s.heap _ u m N F N' (h _))⟩
theorem wx_itemB {value slice : PySem.Expr} {a : Addr} {xs : List Value} {ns : List Int} {k : Int} {t : Tok} {Q : Value → Loc → Led → Prop} (ha : c.g.IsList a xs.toArray) (hi : IntsAre xs ns) (h0 : 0 ≤ k) (h1 : k < ns.length) (hf : k < 2 ^ 63) (h : ∀ t, Q (.int (ns.getD k.toNat 0) t) m N)
    (hs : subscripted slice false (.ref a) (.int k t) = operate [.ref a, .int k t] (getItem (.ref a) (.int k t)) := by with_unfolding_all rfl) : Wx c m N (subscriptTail value slice (.ref a) (.int k t)) Q :=
  ⟨fun s u R F N' q => by
    obtain ⟨oc, e, hr⟩ := ha
    exact item_anyK ⟨oc, F.keep _ _ e, hr⟩ hi h0 h1 hf (fun t => q _ s.heap s.toks u m N F N' (h t)) hs⟩
end
end
section
open PySem PySem.W PySem.Calls PyProof.Rows PySem.Spec
section
variable {prog : Program} {w : World} {A : Around} {E : Value → Shared → Prop} {s : Shared}
theorem item_last {value slice : PySem.Expr} {l : Addr} {vs : List Value} {v : Value} {u : Tok} {Q : Value → Shared → Prop}
    (hl : s.heap.IsList l (vs ++ [v]).toArray) (h : Q v s)
    (hs : subscripted slice false (.ref l) (.int (-1) u) = operate [.ref l, .int (-1) u] (getItem (.ref l) (.int (-1) u)) := by with_unfolding_all rfl) :
    wpAny (model prog w) A (subscriptTail value slice (.ref l) (.int (-1) u)) Q E s :=
  tail_any hl.typeIs slot_list_getitem.lookup (wpAny_getItem_list_neg hl (by decide) (by simp only [List.size_toArray, List.length_append, List.length_singleton]; omega) (by decide) (x := v) (by
    have e : (-1 + (((vs ++ [v]).toArray.size : Nat) : Int)).toNat = vs.length := by simp only [List.size_toArray, List.length_append, List.length_singleton]; omega
    rw [e]; simp) h) hs
end
section
variable {c : Cx} {m : Loc} {N : Led} {Z : Sx} {k₀ : Nat}
/-- a part of the ledger is enough -/
theorem Wx.sub {α : Type} {t : Sem α} {Q : α → Loc → Led → Prop} (N' : Led) (hs : ∀ p ∈ N', p ∈ N) (h : Wx c m N' t Q) : Wx c m N t Q :=
  ⟨fun s u R F NN k => h.run s u R F (fun p hp => NN p (hs p hp)) k⟩
theorem wx_callM {prog : Program} {w : World} {K : Frag} {sc : Scope} {f : Addr} {k : Nat} {vs : List Value} {q : Addr} {obj : Obj} {Pre : Heap → Prop} {Out : Value → Obj → Prop} {Q : Value → Loc → Led → Prop} (rest : Led) (I : c.Is prog w K sc) (G : c.Ok k₀) (C : MutC prog w K f k vs q obj Pre Out) (hk : k < k₀)
    (n1 : ∀ p ∈ (q, obj) :: rest, p ∈ N) (n2 : ∀ p ∈ rest, p.1 ≠ q) (hpre : ∀ h u, Fr c.g c.L h (kstB u m) → News c.g c.L h N → Pre (hideAll h [q])) (ret : ∀ r o, Out r o → Q r m ((q, o) :: rest)) : Wx c m N (call (.ref f) vs) Q := by
  obtain ⟨rfl, rfl, rfl, rfl⟩ := I
  refine ⟨fun s u R F N' k' => ?_⟩
  have hd := G.hd
  have hu := G.hu
  exact mut_use2 rest C G.B F G.X N' n1 n2 G.T G.hk (by omega) (by omega) (hpre _ u F N') fun r o h' tk' F2 N2 ho => k' r h' tk' u m _ F2 N2 (ret r o ho)
theorem wx_swap2 {x y : Str} {p1 p2 tp pos : Pos} {kk : Nat} {value : PySem.Expr} {Q : KF} (G : c.Ok k₀) (hg : ZOk c Z) (n : Nat) (hx : Z.sc.lookup x = some .local) (hy : Z.sc.lookup y = some .local)
    (it : cek c Z (OnRet fun v m' N' => ∃ a v1 v2 kk, v = .ref a ∧ (a, ({ cls := .type "tuple", data := .seq #[v1, v2] kk } : Obj)) ∈ N' ∧ Q .next (put (put m' y v2) x v1) N') n (.ev (.ex value)) [.sR] m N)
    (hs : swapsWithSole [.Tuple [.Name x p1, .Name y p2] kk tp] value pos.line c.env = pure false) (hw : swappedStores [.Tuple [.Name x p1, .Name y p2] kk tp] value c.env = pure (some [x, y])) :
    Wx c m N (exec (.Assign [.Tuple [.Name x p1, .Name y p2] kk tp] value pos) c.env) Q := by
  refine ⟨fun s u R F N' k => Assign_Tuple_swapped (names := [x, y]) (go_ (run_ex G hg n it) F N' fun v h1 t1 u m' N2 F NN H => ?_) hs hw⟩
  obtain ⟨a, v1, v2, kk, rfl, hm, q⟩ := H
  refine unpackItemsN_ (s := { s with heap := h1, toks := t1 }) F NN ⟨_, (NN _ hm).1, rfl, _, rfl⟩ rfl rfl fun h' F NN => ?_
  exact assignInOrder_cons (bindName_ (st1 G hg hy F NN fun h' tk F NN => assignInOrder_cons (bindName_ (st1 G hg hx F NN fun h' tk F NN => assignInOrder_nil (k .next h' tk u _ _ F NN q)))))
theorem wx_sliceL {value slice : PySem.Expr} {l : Addr} {vs zs : List Value} {cap : Nat} {lv uv : Value} {lo hi : Option Int} {Q : Kt} (hN : (l, listOf vs.toArray cap) ∈ N) (pl : IsPart lv lo) (pu : IsPart uv hi) (e : kms_pick vs.toArray.toList lo hi = zs) (hz : vs.length ≤ 4096)
    (h : ∀ D, (∀ p ∈ N, p.1 < D) → Q [.ref D] m ((D, listOf zs.toArray 0) :: N))
    (hs : ∀ a, subscripted slice false (.ref l) (.ref a) = operate [.ref a, .ref l] (getItem (.ref l) (.ref a)) := by intro _; with_unfolding_all rfl)
    (ht : ∀ r, letTemporaryGo value (.ref l) r = pure () := by intro _; with_unfolding_all rfl) : WxS c value slice (.ref l) lv uv m N Q :=
  ⟨fun s u R F N' k => kms_slice_lit F N' ⟨_, (N' _ hN).1, rfl, _, rfl⟩ pl pu e (fun D h' F N' hD => k _ h' s.toks u m _ F N' (h D hD)) (hs _) ht (by rw [List.size_toArray, sizeLine_eq]; omega)⟩
theorem wx_lastL {value slice : PySem.Expr} {l : Addr} {vs : List Value} {v : Value} {cap : Nat} {t : Tok} {Q : Value → Loc → Led → Prop} (hN : (l, listOf (vs ++ [v]).toArray cap) ∈ N) (h : Q v m N)
    (hs : subscripted slice false (.ref l) (.int (-1) t) = operate [.ref l, .int (-1) t] (getItem (.ref l) (.int (-1) t)) := by with_unfolding_all rfl) : Wx c m N (subscriptTail value slice (.ref l) (.int (-1) t)) Q :=
  ⟨fun s u R F N' k => item_last ⟨_, (N' _ hN).1, rfl, _, rfl⟩ (k _ s.heap s.toks u m N F N' h) hs⟩
/-- a def's body that is entered at the top -/
theorem wx_enter {prog p : Program} {w : World} {K : Frag} {loose : List Str} {mean : ExcName → Option Value} {mg mb : Str → Option Value} {dp un : Nat} {gd : Option (List Code)} {cn : Str} {cs : Scope} {a : Addr} {ccd : Value} {outer : List Env} {A₀ : Around} {base g : Heap} {L : Addr} {m : Loc} {s : Shared} {body : List Stmt} {Q : Flow → Shared → Prop} {E : Value → Shared → Prop} (k : Nat)
    (B : Below A₀ base outer g) (X : K.In g) (T : Top p loose mean mg mb g) (F : Fr g L s.heap (fun x => List.lookup x m)) (NN : News g L s.heap []) (hk : cs.kind = .function) (hd : dp + k ≤ recursionLimit) (hu : un + 8 * k ≤ cLine + 3) (hdb : (cs.names.all fun y => !(y.1 == ("__debug__" : Str))) = true)
    (h : ∀ c : Cx, c.Is prog w K cs → c.Ok k → c.g = g → Wx c m [] (execs body c.env) fun fl _ _ => fl = .ret (.bool true))
    (fin : ∀ h' tk m' N', Fr g L h' m' → News g L h' N' → Q (.ret (.bool true)) { s with heap := h', toks := tk }) : wpAny (model prog w) (ktrTop dp un gd cn cs L a ccd [] outer) (execs body (envX cn cs L a ccd [])) Q E s := by
  refine wpAny_mono ((h ⟨prog, w, K, p, loose, mean, mg, mb, dp, un, gd, cn, cs, a, ccd, [], outer, A₀, base, g, L⟩ ⟨rfl, rfl, rfl, rfl⟩ ⟨B, X, T, hk, hd, hu, fun y hy => by simpa using List.all_eq_true.mp hdb y hy⟩ rfl).run s (fun _ => none) Q (by
    have e : (fun y => List.lookup y m) = kstB (fun _ => none) m := by funext y; exact (kstB_lookup _ y).symm
    rw [← e]; exact F) NN fun fl h' tk u' m' N' F' NN' q => q ▸ fin h' tk _ N' F' NN') (fun _ _ q => q) fun _ _ x => x.elim
end
end
section
open PySem PySem.W PySem.Calls PyProof.Rows PySem.Spec
def TurnB {σ : Type} (ps : σ → Loc) (Ld : σ → Led) (P : Nat → σ → Prop) (R : σ → Prop) (Q : KF) (i : Nat) (I : Addr) (oI : Obj) : KF := fun f m N => match f with
  | .ret v => Q (.ret v) m N
  | .brk => ∃ c2, (∀ p ∈ Ld c2, p ∈ N) ∧ (∀ p ∈ ps c2, look m p.1 = some p.2) ∧ R c2
  | _ => ∃ c2, (∀ p ∈ (I, oI) :: Ld c2, p ∈ N) ∧ (∀ p ∈ ps c2, look m p.1 = some p.2) ∧ P (i + 1) c2
section
variable {c : Cx} {m : Loc} {N : Led} {Z : Sx} {k₀ : Nat}
theorem wx_break {pos : Pos} {Q : KF} (h : Q .brk m N) : Wx c m N (exec (.Break pos) c.env) Q := Wx.ret (fun _ _ h => wpAny_Break h) h
/-- a for over bytes with a break -/
theorem wx_forB {σ : Type} {x : Str} {px pos : Pos} {iter : PySem.Expr} {body : List Stmt} {Q : KF} {kl : List Int} (G : c.Ok k₀) (hg : ZOk c Z) (n : Nat) (hx : Z.sc.lookup x = some .local) (hf : ∀ x, foldedSetIterable iter c.env x = pure x)
    (ps : σ → Loc) (Ld : σ → Led) (adr : List Addr) (hadr : ∀ c, (Ld c).map (·.1) = adr) (P : Nat → σ → Prop) (R : σ → Prop) (c₀ : σ) (hp : P 0 c₀) (hPR : ∀ c, P kl.length c → R c)
    (it : cek c Z (OnRet fun v m' N' => ∃ b t, v = .bytes b t ∧ KBw.bInts b = kl ∧ (∀ p ∈ Ld c₀, p ∈ N') ∧ (∀ p ∈ ps c₀, look m' p.1 = some p.2)) n (.ev (.ex iter)) [.sR] m N)
    (turn : ∀ i k t c' I oI, kl[i]? = some k → P i c' → (∀ p ∈ Ld c', p.1 ≠ I) → cek c Z (TurnB ps Ld P R Q i I oI) n (.bl body) [] (put (ps c') x (.int k t)) ((I, oI) :: Ld c'))
    (done : ∀ c', R c' → Q .next (ps c') (Ld c')) : Wx c m N (exec (.For (.Name x px) iter body [] pos) c.env) Q := by
  refine ⟨fun s u R' F N' k => For_invVF (h₀ := c.g) F (show c.cs.names.lookup x = some .local from hg.s ▸ hx) (by show (c.cs.kind == .class || (c.cs.kind == .module && _)) = false; rw [G.hk]; rfl) (go_ (run_ex G hg n it) F N' fun v h' tk u m N F NN H => ?_) hf⟩
  obtain ⟨b, t, rfl, hb, hN, hm⟩ := H
  refine for_bytesB Ld adr ps P R c₀ rfl hb hadr F NN hN (fun p hp => kstB_look (hm p hp)) hp hPR (fun I i k' t c' u h tk oI hi hP off F NN => ?_) fun c' u h tk hP F NN => k .next h tk u _ _ F NN (done c' hP)
  have off' : ∀ p ∈ Ld c', p.1 ≠ I := off1_mem off
  refine go_ (run_sound G hg n (turn i k' t c' I oI hi hP off')) (u := u) (by rw [kstB_put]; exact F) NN fun f h' tk u m N F NN q => ?_
  cases f with
  | ret v => exact k (.ret v) h' tk u m N F NN q
  | brk => obtain ⟨c2, q1, q2, q3⟩ := q; exact mb_end c2 F NN q1 (fun p hp => kstB_look (q2 p hp)) q3
  | next => obtain ⟨c2, q1, q2, q3⟩ := q; exact mf_end c2 F NN q1 (fun p hp => kstB_look (q2 p hp)) q3
  | cont => obtain ⟨c2, q1, q2, q3⟩ := q; exact mf_end c2 F NN q1 (fun p hp => kstB_look (q2 p hp)) q3
theorem wx_range3 {a b st : Int} {t u v : Tok} {Q : Value → Loc → Led → Prop} (h0 : st ≠ 0) (hp : st.natAbs ≤ 1000) (h : ∀ r t u v, (∀ p ∈ N, p.1 < r) → Q (.ref r) m ((r, rngObj a b st t u v) :: N)) : Wx c m N (call (.type "range") [.int a t, .int b u, .int st v]) Q :=
  ⟨fun s u R F N' k => call_range_3 h0 (k _ _ _ u m _ (F.push _) (N'.push F _) (h _ _ _ _ fun p hp => Heap.lt_size (N' p hp).1)) (Or.inl (PyProof.noPylong_small (by omega)))⟩
theorem wx_inD {d : Addr} {o : Obj} {kvs : List (Int × Value)} {k : Int} {t : Tok} {b : Bool} {Q : Value → Loc → Led → Prop} (hN : (d, o) ∈ N) (hd : o.IsDictOf (intKind c.prog c.w) kvs) (lo : (d == sysModules) = false) (hb : (valueAt kvs k).isSome = b) (h : Q (.bool b) m N) : Wx c m N (compareOp .In (.int k t) (.ref d)) Q :=
  ⟨fun s u R F N' q => kda_in N' hN hd lo (intKind_is _ _ _ _) b hb (q _ s.heap _ u m N F N' h)⟩
theorem wx_getD {value slice : PySem.Expr} {d : Addr} {o : Obj} {kvs : List (Int × Value)} {k : Int} {t : Tok} {v : Value} {Q : Value → Loc → Led → Prop} (hN : (d, o) ∈ N) (hd : o.IsDictOf (intKind c.prog c.w) kvs) (hl : valueAt kvs k = some v) (h : Q v m N)
    (hs : subscripted slice false (.ref d) (.int k t) = operate [.ref d, .int k t] (getItem (.ref d) (.int k t)) := by with_unfolding_all rfl) : Wx c m N (subscriptTail value slice (.ref d) (.int k t)) Q :=
  ⟨fun s u R F N' q => kdt_tail N' hN hd (kdt_getItem N' hN hd (intKind_is _ _ _ _) hl (q _ s.heap _ u m N F N' h)) hs⟩
theorem wx_lenN {l : Addr} {vs : List Value} {cap : Nat} {Q : Value → Loc → Led → Prop} (hN : (l, listOf vs.toArray cap) ∈ N) (hz : vs.length ≤ 4096) (h : ∀ t, Q (.int vs.length t) m N) : Wx c m N (call (.builtin "len") [.ref l]) Q :=
  ⟨fun s u R F N' k => call_len_list ⟨_, (N' _ hN).1, rfl, _, rfl⟩ (by rw [List.size_toArray]; omega) (by rw [List.size_toArray]; exact k _ s.heap _ u m N F N' (h _))⟩
theorem wx_cutI {value slice : PySem.Expr} {l : Addr} {vs : List Value} {ns ms : List Int} {cap : Nat} {lv uv : Value} {lo hi : Option Int} {Q : Kt} (hN : (l, listOf vs.toArray cap) ∈ N) (pl : IsPart lv lo) (pu : IsPart uv hi) (hi' : IntsAre vs ns) (hm : IntsAre (slicePick vs.toArray lo hi none).toList ms) (hz : vs.length ≤ 4096)
    (h : ∀ D ws, IntsAre ws ms → (∀ p ∈ N, p.1 < D) → Q [.ref D] m ((D, listOf ws.toArray 0) :: N))
    (hs : ∀ a, subscripted slice false (.ref l) (.ref a) = operate [.ref a, .ref l] (getItem (.ref l) (.ref a)) := by intro _; with_unfolding_all rfl)
    (ht : ∀ r, letTemporaryGo value (.ref l) r = pure () := by intro _; with_unfolding_all rfl) : WxS c value slice (.ref l) lv uv m N Q :=
  ⟨fun s u R F N' k => kmk_slice_ints (ms := ms) (c := _) F N' ⟨_, (N' _ hN).1, rfl, _, rfl⟩ pl pu hi' hm rfl (fun D ws h' F N' hD hw _ _ => k _ h' s.toks u m _ F N' (h D ws hw hD)) (hs _) ht (by rw [List.size_toArray, sizeLine_eq]; omega)⟩
theorem gm_bjoin {b : Array UInt8} {t : Tok} {pl : Sem Bool} {Q : Value × List Value → Loc → Led → Prop} (h : Q (.builtin "bytes.join", [.bytes b t]) m N) : Wx c m N (getMethod (.bytes b t) "join" pl) Q := Wx.ret (fun _ _ h => BJ.method h) h
theorem wx_bjoin {l : Addr} {vs : List Value} {bs : List (Array UInt8)} {cap : Nat} {t : Tok} {Q : Value → Loc → Led → Prop} (hN : (l, listOf vs.toArray cap) ∈ N) (hb : BJ.BytesAre vs bs) (hz : (bs.map (·.size)).sum ≤ 65536) (h : ∀ t, Q (.bytes (BJ.catB bs) t) m N) : Wx c m N (call (.builtin "bytes.join") [.bytes #[] t, .ref l]) Q :=
  ⟨fun s u R F N' k => BJ.join_call ⟨_, (N' _ hN).1, rfl, _, rfl⟩ hb hz fun t' tk => k _ s.heap tk u m N F N' (h t')⟩
end
end
local macro_rules | `(tactic| walk_at "mOpen") => `(tactic| (k_fill; k_dflt (refine' pure_intro ?k6 ?k7 ?k9 ?kB ?c2 ?c3 ?c4 ?c5 ?_; (case k6 => k_is); (case k7 => k_is); (case k9 => (intro s; exact BindsTo.of_eq rfl)); (case c5 => decide); (case kB => exact locs rfl); (case c2 => exact rfl); (case c3 => exact rfl); (case c4 => exact rfl))))
local macro_rules | `(tactic| walk_at "mOpenC") => `(tactic| (k_fill; k_dflt (refine' pure_introC ?k6 ?k7 ?k9 ?kB ?kD ?c2 ?c3 ?c4 ?_; (case k6 => k_is); (case k7 => k_is); (case k9 => (intro s; exact BindsTo.of_eq rfl)); (case kB => exact rfl); (case kD => decide +kernel); (case c2 => exact rfl); (case c3 => exact rfl); (case c4 => exact rfl))))
local macro_rules | `(tactic| walk_at "mStop") => `(tactic| (with_reducible show wpAny _ _ (exec (Stmt.While _ _ _ _) _) _ _ _))
local macro_rules | `(tactic| walk_at "mStop") => `(tactic| (with_reducible show wpAny _ _ (pyIter _) (fun it s₂ => LoopAtV _ _ _ _ _ _ _ _ _ it s₂) _ _))
local macro_rules | `(tactic| walk_at "mStop") => `(tactic| (with_reducible show wpAny _ _ (eval (Expr.ListComp _ _ _ _) _) _ _ _))
local macro_rules | `(tactic| walk_at "mStop") => `(tactic| (with_reducible show wpAny _ _ (exec (Stmt.Assign _ (Expr.ListComp _ _ _ _) _) _) _ _ _))
local macro_rules | `(tactic| walk_at "mStop") => `(tactic| (with_reducible show ∃ (b : Array UInt8) (t : Tok) (_ : List (Addr × Obj)), _ = Value.bytes b t ∧ _))
local macro_rules | `(tactic| walk_at "mStop") => `(tactic| (with_reducible show ∃ (r : Addr) (_ _ _ : Int) (_ _ _ : Tok) (_ : Nat) (_ : List (Addr × Obj)), _ = Value.ref r ∧ _))
local macro_rules | `(tactic| walk_at "mStop") => `(tactic| (with_reducible show ∃ (b : Str) (t : Tok) (_ : List (Addr × Obj)), _ = Value.str b t ∧ _))
local macro_rules | `(tactic| walk_at "mStop") => `(tactic| (with_reducible show wpAny _ _ (exec (Stmt.For _ _ _ _ _) _) _ _ _))
local macro_rules | `(tactic| walk_at "mFor") => `(tactic| ((rename Fr _ _ _ _ => lF'); (with_unfolding_all refine' For_invVF lF' ?k1 ?k2 ?_; (case k1 => exact rfl); (case k2 => exact rfl); k_whole)))
local macro_rules | `(tactic| walk_at "mFree") => `(tactic| (fail_if_success (walk_at "mStop")))
local macro_rules | `(tactic| walk_at "mSteps") => `(tactic| repeat' (first | (k_unfold; (try dsimp only)) | ((walk_at "mFree"); walk1) | ((walk_at "mFree"); dsimp only; walk1) | fail "no step"))
local macro_rules | `(tactic| walk_at "mWStop") => `(tactic| (with_reducible show wpAny _ _ (exec (Stmt.While _ _ _ _) _) _ _ _))
local macro_rules | `(tactic| walk_at "mWStop") => `(tactic| (with_reducible show wpAny _ _ (eval (Expr.ListComp _ _ _ _) _) _ _ _))
local macro_rules | `(tactic| walk_at "mWStop") => `(tactic| (with_reducible show wpAny _ _ (exec (Stmt.Assign _ (Expr.ListComp _ _ _ _) _) _) _ _ _))
local macro_rules | `(tactic| walk_at "mWStop") => `(tactic| (with_reducible show LCg.CompSrc _ _ _ _ _ _ _ _ _ _ _ _ _ _))
local macro_rules | `(tactic| walk_at "mWStop") => `(tactic| (with_reducible show LCg.CompRest _ _ _ _ _ _ _ _ _ _ _ _ _ _ _ _ _ _ _))
local macro_rules | `(tactic| walk_at "mWFree") => `(tactic| (fail_if_success (walk_at "mWStop")))
local macro_rules | `(tactic| walk_at "mGoU") => `(tactic| ((try dsimp only); (try k_fold); repeat' (first | (k_unfold; (try dsimp only)) | ((walk_at "mWFree"); walk1) | ((walk_at "mWFree"); dsimp only; walk1) | fail "no step")))
local macro_rules | `(tactic| walk_at "mGo") => `(tactic| ((try dsimp only); (try k_fold); walk_at "mSteps"))
local macro_rules | `(tactic| walk_at "mUse") => `(tactic| (
  refine' pure_use ?kC ?k1 ?k2 ?k3 ?k4 ?k5 ?kK ?kd ?ku ?kp ?_
  (case kC => walk_at "mSpec")
  (case k1 => k_asm)
  (case k2 => k_asm)
  (case k3 => k_asm)
  (case k4 => k_asm)
  (case k5 => k_asm)
  (case kK => first | exact rfl | assumption)
  (case kd => ktr_room)
  (case ku => ktr_units)
  (case kp => first | trivial | assumption)
  intro r9 tl9 h9 tk9 F9 N9 hne9 ho9
  (first | (obtain ⟨e9, d9⟩ := ho9; subst e9; subst d9) | (obtain ⟨e9, t9, d9⟩ := ho9; subst e9; subst d9) | (obtain ⟨e9, b9, t9, d9, hb9⟩ := ho9; subst e9; subst d9) | (obtain ⟨e9, t9, d9, f9⟩ := ho9; subst e9; subst d9) | (obtain ⟨a9, b9, c9, e9, d9, x9, y9, z9⟩ := ho9; subst e9; subst d9) | (obtain ⟨a9, t9, u9, v9, e9, d9⟩ := ho9; subst e9; subst d9) | (obtain ⟨a9, x9, y9, t9, u9, e9, d9, q9⟩ := ho9; subst e9; subst d9) | skip)
  (try clear hne9)
  (try simp only [List.nil_append, List.cons_append] at N9)
  (try dsimp only)
  (try k_fold)
  (try k_sweep)))
local macro_rules | `(tactic| walk_at "call ref") => `(tactic| (k_here; k_dflt (walk_at "mUse")))
local macro_rules | `(tactic| walk_at "mEnd") => `(tactic| (refine hret _ [] _ _ _ _ (by assumption) (by assumption) (by intro _ h; cases h) ⟨rfl, ?_⟩; try dsimp only))
local macro_rules | `(tactic| walk_at "wOpen") => `(tactic| (
  (case k6 => k_is)
  (case k7 => k_is)
  (case k9 => (intro s; exact BindsTo.of_eq rfl))
  (case kB => exact locs rfl)
  (case c2 => exact rfl)
  (case c3 => exact rfl)
  (case c4 => exact rfl)
  (case c5 => decide)
  (case c6 => rfl)))
local macro_rules | `(tactic| walk_at "wGo") => `(tactic| repeat' (first | (intro _) | (refine ⟨rfl, ?_⟩) | (refine ⟨⟨rfl, rfl⟩, ?_⟩) | (refine ⟨trivial, ?_⟩) | (refine And.intro (a := _ → _) (b := ¬ _ → _) (fun _ => ?_) (fun _ => ?_)) | (refine' And.intro ?wgoA ?_; (case wgoA => first | decide | (apply Or.inr; decide) | fail "no")) | fail "no step"))
local macro_rules | `(tactic| walk_at "wGoD") => `(tactic| repeat' (first | (intro _) | (refine ⟨rfl, ?_⟩) | (refine And.intro (a := _ → _) (b := ¬ _ → _) (fun h => absurd h (by omega)) (fun _ => ?_)) | (refine And.intro (a := _ → _) (b := ¬ _ → _) (fun _ => ?_) (fun h => absurd (by omega) h)) | (refine And.intro (a := _ → _) (b := ¬ _ → _) (fun _ => ?_) (fun _ => ?_)) | (refine' And.intro ?wgoA ?_; (case wgoA => first | decide | (apply Or.inr; decide) | fail "no")) | fail "no step"))
section
def isSign (c : Int) : Bool := decide (33 ≤ c) && decide (c ≤ 126) && decide (c ≠ 63)
theorem isSign_iff (c : Int) : isSign c = true ↔ 33 ≤ c ∧ c ≤ 126 ∧ c ≠ 63 := by simp [isSign, and_assoc]
abbrev OutInt (x : Int) : Heap → List (Addr × Obj) → Value → Prop := fun _ tl r => tl = [] ∧ ∃ t : Tok, r = .int x t
abbrev OutBool (x : Bool) : Heap → List (Addr × Obj) → Value → Prop := fun _ tl r => tl = [] ∧ r = .bool x
abbrev OutStr (x : Str) : Heap → List (Addr × Obj) → Value → Prop := fun _ tl r => tl = [] ∧ ∃ t : Tok, r = .str x t
theorem outInt {x y : Int} {g : Heap} {t : Tok} (e : y = x) : OutInt x g [] (.int y t) := e ▸ ⟨rfl, _, rfl⟩
theorem outStr {x y : Str} {g : Heap} {t : Tok} (e : y = x) : OutStr x g [] (.str y t) := e ▸ ⟨rfl, _, rfl⟩
theorem outBool {x y : Bool} {g : Heap} (e : y = x) : OutBool x g [] (.bool y) := e ▸ ⟨rfl, rfl⟩
theorem c_is_word_sign (w : World) (x : Int) (t : Tok) : PureC PySem.Challenge.rw_or0048_01.row.prog w (hd.heap_39 w.params) 175 1 [.int x t] (fun _ => True) (OutBool (isSign x)) := by
  k_fill
  refine' pure_wx [(Str.ofString "code", .int x t)] ?k6 ?k7 ?k9 ?kB ?c2 ?c3 ?c4 ?c5 ?c6 ?_
  walk_at "wOpen"
  intro c I G hpre
  refine run_sound G (z_ok I glob_nil) 60 ?_
  walk_at "wGo"
  · rename_i h1 _ h2 _
    refine endO (congrArg Value.bool ?_)
    unfold isSign
    rw [h2, decide_eq_true h1]
    exact (decide_not ..).symm
  · rename_i h1 _ h2
    refine endO (congrArg Value.bool ?_)
    unfold isSign
    rw [Bool.eq_false_iff.mpr h2, decide_eq_true h1]
    rfl
  · rename_i q _
    cases q
  · rename_i h1 _
    refine endO (congrArg Value.bool ?_)
    unfold isSign
    rw [decide_eq_false h1]
    rfl

def pe : List Int → Option Nat
  | [] => none
  | c :: r => if isSign c then (pe r).map (· + 1) else if c = 63 then some 0 else none
def partEnd (ks : List Int) (at' : Nat) : Int := match pe (ks.drop at') with
  | none => -1
  | some n => at' + n

theorem partEnd_end {ks : List Int} {j : Nat} (h : ks.length ≤ j) : partEnd ks j = -1 := by
  unfold partEnd
  rw [List.drop_of_length_le h]
  rfl
theorem drop_getD {ks : List Int} {j : Nat} (h : j < ks.length) : ks.drop j = ks.getD j 0 :: ks.drop (j + 1) := by
  rw [List.drop_eq_getElem_cons h, List.getD_eq_getElem?_getD, List.getElem?_eq_getElem h]
  rfl
theorem partEnd_step {ks : List Int} {j : Nat} (h : j < ks.length) (hs : isSign (ks.getD j 0) = true) : partEnd ks (j + 1) = partEnd ks j := by
  unfold partEnd
  rw [drop_getD h, pe, if_pos hs]
  cases pe (ks.drop (j + 1)) with
  | none => rfl
  | some n => simp; omega
theorem partEnd_hit {ks : List Int} {j : Nat} (h : j < ks.length) (hs : isSign (ks.getD j 0) = false) : partEnd ks j = if ks.getD j 0 = 63 then (j : Int) else -1 := by
  unfold partEnd
  rw [drop_getD h, pe, if_neg (by rw [hs]; exact Bool.false_ne_true)]
  by_cases h63 : ks.getD j 0 = 63
  · rw [if_pos h63, if_pos h63]; simp
  · rw [if_neg h63, if_neg h63]
theorem ite_both {c : Prop} [Decidable c] {a b : Bool} (hc : c) {r : Bool} (h : (if c then a else b) = r) : a = r := by rwa [if_pos hc] at h

theorem c_part_end (w : World) (b : Array UInt8) (t : Tok) (i : Int) (u : Tok) (ks : List Int) (hb : KBw.bInts b = ks) (hn : ks.length ≤ 4096) (h0 : 0 ≤ i) : PureC PySem.Challenge.rw_or0048_01.row.prog w (hd.heap_39 w.params) 182 2 [.bytes b t, .int i u] (fun _ => True) (OutInt (partEnd ks i.toNat)) := by
  k_fill
  refine' pure_wx [(Str.ofString "octets", .bytes b t), (Str.ofString "at", .int i u)] ?k6 ?k7 ?k9 ?kB ?c2 ?c3 ?c4 ?c5 ?c6 ?_
  walk_at "wOpen"
  intro c I G hpre
  have hg := z_ok I (glob_consB (x := Str.ofString "len") (v := .builtin "len") I G rfl (by k_is) (by boot_fast) (by decide) (glob_cons (x := Str.ofString "is_word_sign") (v := .ref 175) I G rfl (by k_is) glob_nil))
  refine run_sound G hg 60 ?_
  walk_at "wGo"
  refine wx_while G hg 60 (σ := Int × Tok) (fun c => [(Str.ofString "octets", .bytes b t), (Str.ofString "here", .int c.1 c.2)]) (fun _ => []) (fun c => i ≤ c.1 ∧ partEnd ks c.1.toNat = partEnd ks i.toNat) (fun c => ks.length - c.1.toNat) (i, u) (fun _ h => (nomatch h)) ?_ ⟨Int.le_refl _, rfl⟩ ?_
  · exact List.forall_mem_cons.mpr ⟨rfl, List.forall_mem_cons.mpr ⟨rfl, nil_mem⟩⟩
  rintro ⟨j, tj⟩ ⟨hj0, hje⟩
  dsimp only at hj0 hje
  have hj1 : 0 ≤ j := Int.le_trans h0 hj0
  have hjl : (j + 1).toNat = j.toNat + 1 := by omega
  walk_at "wGo"
  refine wx_len (by omega) hb ?_
  walk_at "wGo"
  · rename_i hlt
    refine wx_item (by omega) hb hj1 hlt ?_
    walk_at "wGo"
    refine wx_call0 I G (c_is_word_sign w _ _) (by decide) ?_
    rintro r rfl
    walk_at "wGo"
    · rename (isSign _ = true) => hs
      refine ⟨(j + 1, _), nil_mem, List.forall_mem_cons.mpr ⟨rfl, List.forall_mem_cons.mpr ⟨rfl, nil_mem⟩⟩, ⟨?_, ?_⟩, ?_⟩
      · dsimp only; omega
      · dsimp only
        rw [hjl, partEnd_step (by omega) hs, hje]
      · dsimp only; omega
    · rename (¬ isSign _ = true) => hs
      have hs := Bool.eq_false_iff.mpr hs
      refine wx_len (by omega) hb ?_
      walk_at "wGo"
      · refine wx_item (by omega) hb hj1 hlt ?_
        walk_at "wGo"
        · rename_i h63
          refine ⟨[], nil_mem, rfl, _, congrArg (Value.int · _) ?_⟩
          rw [← hje, partEnd_hit (by omega) hs, if_pos h63, Int.toNat_of_nonneg hj1]
        · rename_i h63 _ _
          refine ⟨[], nil_mem, rfl, _, congrArg (Value.int · _) ?_⟩
          rw [← hje, partEnd_hit (by omega) hs, if_neg h63]
      · rename (¬ _) => h
        exact absurd hlt h
  · rename_i hge
    refine wx_len (by omega) hb ?_
    walk_at "wGo"
    · rename_i h
      exact absurd h hge
    · refine ⟨[], nil_mem, rfl, _, congrArg (Value.int · _) ?_⟩
      rw [← hje, partEnd_end (by dsimp only at hge; omega)]
end
section
theorem pe_lt : ∀ (l : List Int) (n : Nat), pe l = some n → n < l.length
  | [], n, h => by simp [pe] at h
  | c :: r, n, h => by
    unfold pe at h
    split at h
    · cases hp : pe r with
      | none => rw [hp] at h; simp at h
      | some m =>
        rw [hp] at h
        have := pe_lt r m hp
        simp at h
        simp only [List.length_cons]
        omega
    · split at h
      · simp at h; simp only [List.length_cons]; omega
      · cases h
theorem partEnd_bd (ks : List Int) (j : Nat) : -1 ≤ partEnd ks j ∧ partEnd ks j < ks.length := by
  unfold partEnd
  cases h : pe (ks.drop j) with
  | none => simp only; omega
  | some n =>
    have := pe_lt _ _ h
    rw [List.length_drop] at this
    simp only
    omega
theorem c_part_end' (w : World) (b : Array UInt8) (t : Tok) (i : Int) (u : Tok) (ks : List Int) (hb : KBw.bInts b = ks) (hn : ks.length ≤ 4096) (h0 : 0 ≤ i) : PureC PySem.Challenge.rw_or0048_01.row.prog w (hd.heap_39 w.params) 182 2 [.bytes b t, .int i u] (fun _ => True) (fun _ tl r => tl = [] ∧ ∃ (x : Int) (t : Tok), r = .int x t ∧ x = partEnd ks i.toNat ∧ -1 ≤ x ∧ x < ks.length) := by
  intro p loose mean mg mb dp un gd cn cs a ccd cl outer A₀ base h₀ L m s Q E B F X T hk hd hu hpre ret
  refine c_part_end w b t i u ks hb hn h0 p loose mean mg mb dp un gd cn cs a ccd cl outer A₀ base h₀ L m s Q E B F X T hk hd hu hpre (fun r tl h' tk' h9 hN ho => ?_)
  obtain ⟨e, t', e'⟩ := ho
  exact ret r tl h' tk' h9 hN ⟨e, _, t', e', rfl, partEnd_bd _ _⟩
local macro_rules | `(tactic| walk_at "mSpec") => `(tactic| exact c_part_end' _ _ _ _ _ _ (by kba_ints) (by kba_size) (by omega))
def seg (ks : List Int) (a b : Nat) : List Int := (ks.drop a).take (b - a)
def wp (ks : List Int) (i : Nat) : Option (List Int × List Int × List Int × Int) :=
  if (ks.drop i).take 2 = [61, 63] then
    if partEnd ks (i + 2) < 0 then none else
    if partEnd ks ((partEnd ks (i + 2)).toNat + 1) < 0 then none else
    if partEnd ks ((partEnd ks ((partEnd ks (i + 2)).toNat + 1)).toNat + 1) < 0 then none else
    if (ks.drop (partEnd ks ((partEnd ks ((partEnd ks (i + 2)).toNat + 1)).toNat + 1)).toNat).take 2 = [63, 61] then
      some (seg ks (i + 2) (partEnd ks (i + 2)).toNat, seg ks ((partEnd ks (i + 2)).toNat + 1) (partEnd ks ((partEnd ks (i + 2)).toNat + 1)).toNat,
        seg ks ((partEnd ks ((partEnd ks (i + 2)).toNat + 1)).toNat + 1) (partEnd ks ((partEnd ks ((partEnd ks (i + 2)).toNat + 1)).toNat + 1)).toNat,
        partEnd ks ((partEnd ks ((partEnd ks (i + 2)).toNat + 1)).toNat + 1) + 2)
    else none
  else none
theorem clip_min (n : Nat) (a : Int) (h : 0 ≤ a) : clipAt n a = min a.toNat n := by
  have e := clipAt_nat n a.toNat
  rwa [Int.toNat_of_nonneg h] at e
theorem seg_clip (ks : List Int) (a b : Int) (h0 : 0 ≤ a) (hab : a ≤ b) : (ks.drop (clipAt ks.length a)).take (clipAt ks.length b - clipAt ks.length a) = seg ks a.toNat b.toNat := by
  rw [clip_min _ _ h0, clip_min _ _ (by omega)]
  unfold seg
  by_cases h : a.toNat ≤ ks.length
  · rw [Nat.min_eq_left h]
    by_cases h2 : b.toNat ≤ ks.length
    · rw [Nat.min_eq_left h2]
    · rw [Nat.min_eq_right (by omega), List.take_of_length_le (by rw [List.length_drop]; exact Nat.le_refl _), List.take_of_length_le (by rw [List.length_drop]; omega)]
  · rw [Nat.min_eq_right (show ks.length ≤ a.toNat by omega), List.drop_length, List.drop_of_length_le (show ks.length ≤ a.toNat by omega), List.take_nil, List.take_nil]
theorem picked_seg {b : Array UInt8} {ks : List Int} (hb : KBw.bInts b = ks) {a c : Int} (h0 : 0 ≤ a) (hac : a ≤ c) : KBw.bInts (KBy.picked b (some a) (some c)) = seg ks a.toNat c.toNat := by
  rw [KBc.ints_picked hb]
  exact seg_clip ks a c h0 hac
theorem bInts_inj {b c : Array UInt8} (h : KBw.bInts b = KBw.bInts c) : b = c := by
  have h2 : b.toList = c.toList := by
    refine List.map_inj_right (f := fun c : UInt8 => (c.toNat : Int)) (fun x y e => ?_) |>.1 h
    exact UInt8.toNat_inj.1 (by omega)
  exact Array.toList_inj.1 h2
theorem eq_of_bne {b c : Array UInt8} (h : (b.toList != c.toList) = false) : KBw.bInts b = KBw.bInts c := by
  have : b.toList = c.toList := by simpa using h
  unfold KBw.bInts
  rw [this]
theorem ne_of_bne {b c : Array UInt8} (h : (b.toList != c.toList) = true) : KBw.bInts b ≠ KBw.bInts c := by
  intro e
  rw [bInts_inj e] at h
  simp at h
theorem bInts_open : KBw.bInts #[61, 63] = [61, 63] := by decide
theorem bInts_close : KBw.bInts #[63, 61] = [63, 61] := by decide
theorem seg2 (ks : List Int) {a : Int} (h0 : 0 ≤ a) : seg ks a.toNat (a + 2).toNat = (ks.drop a.toNat).take 2 := by
  unfold seg
  rw [show (a + 2).toNat - a.toNat = 2 by omega]
section
variable {ks : List Int} {i x y z : Int} (h0 : 0 ≤ i)
include h0
omit h0 in
theorem wp_n1 (h : (ks.drop i.toNat).take 2 ≠ [61, 63]) : wp ks i.toNat = none := by
  unfold wp
  rw [if_neg h]
variable (h : (ks.drop i.toNat).take 2 = [61, 63]) (hx : x = partEnd ks (i + 1 + 1).toNat)
include h hx
theorem wp_n2 (hn : x < 0) : wp ks i.toNat = none := by
  have e : (i + 1 + 1).toNat = i.toNat + 2 := by omega
  rw [e] at hx
  unfold wp
  rw [if_pos h, ← hx, if_pos hn]
variable (hx0 : ¬ x < 0) (hy : y = partEnd ks (x + 1).toNat)
include hx0 hy
theorem wp_n3 (hn : y < 0) : wp ks i.toNat = none := by
  have e : (i + 1 + 1).toNat = i.toNat + 2 := by omega
  have e2 : (x + 1).toNat = x.toNat + 1 := by omega
  rw [e] at hx
  rw [e2] at hy
  unfold wp
  rw [if_pos h, ← hx, if_neg hx0, ← hy, if_pos hn]
variable (hy0 : ¬ y < 0) (hz : z = partEnd ks (y + 1).toNat)
include hy0 hz
theorem wp_n4 (hn : z < 0) : wp ks i.toNat = none := by
  have e : (i + 1 + 1).toNat = i.toNat + 2 := by omega
  have e2 : (x + 1).toNat = x.toNat + 1 := by omega
  have e3 : (y + 1).toNat = y.toNat + 1 := by omega
  rw [e] at hx
  rw [e2] at hy
  rw [e3] at hz
  unfold wp
  rw [if_pos h, ← hx, if_neg hx0, ← hy, if_neg hy0, ← hz, if_pos hn]
variable (hz0 : ¬ z < 0)
include hz0
theorem wp_n5 (hn : (ks.drop z.toNat).take 2 ≠ [63, 61]) : wp ks i.toNat = none := by
  have e : (i + 1 + 1).toNat = i.toNat + 2 := by omega
  have e2 : (x + 1).toNat = x.toNat + 1 := by omega
  have e3 : (y + 1).toNat = y.toNat + 1 := by omega
  rw [e] at hx
  rw [e2] at hy
  rw [e3] at hz
  unfold wp
  rw [if_pos h, ← hx, if_neg hx0, ← hy, if_neg hy0, ← hz, if_neg hz0, if_neg hn]
theorem wp_s (hn : (ks.drop z.toNat).take 2 = [63, 61]) : wp ks i.toNat = some (seg ks (i + 1 + 1).toNat x.toNat, seg ks (x + 1).toNat y.toNat, seg ks (y + 1).toNat z.toNat, z + 2) := by
  have e : (i + 1 + 1).toNat = i.toNat + 2 := by omega
  have e2 : (x + 1).toNat = x.toNat + 1 := by omega
  have e3 : (y + 1).toNat = y.toNat + 1 := by omega
  rw [e] at hx ⊢
  rw [e2] at hy ⊢
  rw [e3] at hz ⊢
  unfold wp
  rw [if_pos h, ← hx, if_neg hx0, ← hy, if_neg hy0, ← hz, if_neg hz0, if_pos hn]
end
theorem partEnd_ge (ks : List Int) (j : Nat) (h : ¬ partEnd ks j < 0) : (j : Int) ≤ partEnd ks j := by
  unfold partEnd at h ⊢
  cases hp : pe (ks.drop j) with
  | none => rw [hp] at h; simp at h
  | some n => simp only; omega
theorem ge_of {ks : List Int} {x y : Int} (q : x = partEnd ks y.toNat) (h : ¬ x < 0) : y ≤ x := by
  have := partEnd_ge ks y.toNat (q ▸ h)
  omega
def tupObj (vs : Array Value) : Obj := { cls := .type "tuple", data := .seq vs }
abbrev OutParts (o : Option (List Int × List Int × List Int × Int)) : Heap → List (Addr × Obj) → Value → Prop := fun _ tl r =>
  (o = none ∧ tl = [] ∧ r = .none) ∨ ∃ A B C e, o = some (A, B, C, e) ∧ ∃ (a : Addr) (bA bB bC : Array UInt8) (tA tB tC te : Tok),
    tl = [(a, { cls := .type "tuple", data := .seq #[.bytes bA tA, .bytes bB tB, .bytes bC tC, .int e te] })] ∧ r = .ref a ∧ KBw.bInts bA = A ∧ KBw.bInts bB = B ∧ KBw.bInts bC = C
theorem outNone {o : Option (List Int × List Int × List Int × Int)} {g : Heap} (h : o = none) : OutParts o g [] .none := .inl ⟨h, rfl, rfl⟩
def PM (ks : List Int) (i : Int) : Nat → List Int → Prop
  | 0, ns => ns = [i + 1]
  | 1, ns => ∃ x, ns = [i + 1, x] ∧ x = partEnd ks (i + 1 + 1).toNat ∧ ¬ x < 0
  | 2, ns => ∃ x y, ns = [i + 1, x, y] ∧ (x = partEnd ks (i + 1 + 1).toNat ∧ ¬ x < 0) ∧ y = partEnd ks (x + 1).toNat ∧ ¬ y < 0
  | 3, ns => ∃ x y z, ns = [i + 1, x, y, z] ∧ (x = partEnd ks (i + 1 + 1).toNat ∧ ¬ x < 0) ∧ (y = partEnd ks (x + 1).toNat ∧ ¬ y < 0) ∧ z = partEnd ks (y + 1).toNat ∧ ¬ z < 0
  | _, _ => False
section
variable {ks : List Int} {i : Int} (h0 : 0 ≤ i)
include h0
theorem pm_last : ∀ {k : Nat} {ns : List Int}, k < 3 → PM ks i k ns → ∃ ini l, ns = ini ++ [l] ∧ 0 ≤ l + 1 ∧ ns.length = k + 1
  | 0, ns, _, h => ⟨[], i + 1, h, by omega, by rw [h]; rfl⟩
  | 1, ns, _, ⟨x, e, e1, hx⟩ => ⟨[i + 1], x, e, by omega, by rw [e]; rfl⟩
  | 2, ns, _, ⟨x, y, e, _, e1, hy⟩ => ⟨[i + 1, x], y, e, by omega, by rw [e]; rfl⟩
theorem pm_none (hq : (ks.drop i.toNat).take 2 = [61, 63]) : ∀ {k : Nat} {ini : List Int} {l : Int}, k < 3 → PM ks i k (ini ++ [l]) → partEnd ks (l + 1).toNat < 0 → wp ks i.toNat = none
  | 0, ini, l, _, h, hn => by
    have e : ini ++ [l] = [] ++ [i + 1] := h
    obtain ⟨_, e⟩ := List.append_inj' e rfl
    cases e
    exact wp_n2 h0 hq rfl hn
  | 1, ini, l, _, ⟨x, e, e1, hx⟩, hn => by
    have e : ini ++ [l] = [i + 1] ++ [x] := e
    obtain ⟨_, e⟩ := List.append_inj' e rfl
    cases e
    exact wp_n3 h0 hq e1 hx rfl hn
  | 2, ini, l, _, ⟨x, y, e, ⟨e1, hx⟩, e2, hy⟩, hn => by
    have e : ini ++ [l] = [i + 1, x] ++ [y] := e
    obtain ⟨_, e⟩ := List.append_inj' e rfl
    cases e
    exact wp_n4 h0 hq e1 hx e2 hy rfl hn
omit h0 in
theorem pm_next : ∀ {k : Nat} {ini : List Int} {l : Int}, k < 3 → PM ks i k (ini ++ [l]) → ¬ partEnd ks (l + 1).toNat < 0 → PM ks i (k + 1) (ini ++ [l] ++ [partEnd ks (l + 1).toNat])
  | 0, ini, l, _, h, hn => by
    have e : ini ++ [l] = [] ++ [i + 1] := h
    obtain ⟨e0, e⟩ := List.append_inj' e rfl
    cases e; cases e0
    exact ⟨_, rfl, rfl, hn⟩
  | 1, ini, l, _, ⟨x, e, e1, hx⟩, hn => by
    have e : ini ++ [l] = [i + 1] ++ [x] := e
    obtain ⟨e0, e⟩ := List.append_inj' e rfl
    cases e; cases e0
    exact ⟨_, _, rfl, ⟨e1, hx⟩, rfl, hn⟩
  | 2, ini, l, _, ⟨x, y, e, ⟨e1, hx⟩, e2, hy⟩, hn => by
    have e : ini ++ [l] = [i + 1, x] ++ [y] := e
    obtain ⟨e0, e⟩ := List.append_inj' e rfl
    cases e; cases e0
    exact ⟨_, _, _, rfl, ⟨e1, hx⟩, ⟨e2, hy⟩, rfl, hn⟩
end
theorem ints_uncons {vs : List Value} {n : Int} {ns : List Int} (h : IntsAre vs (n :: ns)) : ∃ t vs', vs = .int n t :: vs' ∧ IntsAre vs' ns := by
  cases h with
  | cons _ t h => exact ⟨t, _, rfl, h⟩
theorem ints_nilinv {vs : List Value} (h : IntsAre vs []) : vs = [] := by
  cases h
  rfl
theorem ints4 {vs : List Value} {a b c d : Int} (h : IntsAre vs [a, b, c, d]) : ∃ t0 t1 t2 t3, vs = [.int a t0, .int b t1, .int c t2, .int d t3] := by
  obtain ⟨t0, v1, e0, h⟩ := ints_uncons h
  obtain ⟨t1, v2, e1, h⟩ := ints_uncons h
  obtain ⟨t2, v3, e2, h⟩ := ints_uncons h
  obtain ⟨t3, v4, e3, h⟩ := ints_uncons h
  exact ⟨t0, t1, t2, t3, by rw [e0, e1, e2, e3, ints_nilinv h]⟩
theorem ints_unsnoc : ∀ {ini : List Int} {l : Int} {vs : List Value}, IntsAre vs (ini ++ [l]) → ∃ vi tl, vs = vi ++ [Value.int l tl] ∧ IntsAre vi ini
  | [], l, _, h => by
    obtain ⟨t, vs, e, h⟩ := ints_uncons h
    exact ⟨[], t, by rw [e, ints_nilinv h]; rfl, .nil⟩
  | a :: r, l, _, h => by
    obtain ⟨t, vs, e, h⟩ := ints_uncons h
    obtain ⟨vi, tl, e2, h2⟩ := ints_unsnoc h
    exact ⟨.int a t :: vi, tl, by rw [e, e2]; rfl, .cons _ _ h2⟩
local macro_rules | `(tactic| walk_at "mStop") => `(tactic| (with_reducible show wpAny _ _ (subscriptTail _ _ (Value.ref _) (Value.int (-1) _)) _ _ _))
theorem c_word_parts (w : World) (b : Array UInt8) (t : Tok) (i : Int) (u : Tok) (ks : List Int) (hb : KBw.bInts b = ks) (hn : ks.length ≤ 4096) (h0 : 0 ≤ i) (h1 : i < ks.length) : PureC PySem.Challenge.rw_or0048_01.row.prog w (hd.heap_39 w.params) 187 3 [.bytes b t, .int i u] (fun _ => True) (OutParts (wp ks i.toNat)) := by
  walk_at "mOpenC"
  intro p loose mean mg mb g L' dp un gd outer A₀ base h₁ tk cells s R B' X' T' hpre hd hu F' N' Y' hret
  obtain ⟨o1, o2, hE, d1, d2⟩ := CellsAre.two Y'
  subst hE
  change o1.data = Data.cell none at d1
  change o2.data = Data.cell (some (Value.bytes b t)) at d2
  change Fr g L' h₁ (fun y => if y = Str.ofString "at" then some (Value.int i u) else none) at F'
  walk_at "mGo"
  · rename (bne _ _ = true) => hne
    have hq := ne_of_bne hne
    rw [picked_seg hb h0 (by omega), bInts_open, seg2 _ h0] at hq
    exact hret _ [] _ _ _ _ (by assumption) (by assumption) (by intro _ h; cases h) (outNone (wp_n1 hq))
  · rename (bne _ _ = false) => hne
    have hq := eq_of_bne hne
    rw [picked_seg hb h0 (by omega), bInts_open, seg2 _ h0] at hq
    walk_at "mFor"
    walk_at "mGo"
    rename_i lM _ l1 _ oM _ _ dM _ _ _ _ _ hrg FA NA _
    refine for_range (σ := List Value × List Int × Nat) (n := 3) (fun c => [(lM, listOf c.1.toArray c.2.2), (L' + 1 + 1, oM), (L' + 1, o2)]) [lM, L' + 1 + 1, L' + 1] (fun c => [(Str.ofString "at", .int i u)])
      (fun k c => IntsAre c.1 c.2.1 ∧ PM ks i k c.2.1) ([.int (i + 1) _], [i + 1], 0) rfl hrg (by decide) (by decide) (fun _ => rfl) FA NA (by lcg_sub) (by kst_all) ⟨.cons _ _ .nil, rfl⟩ ?_ ?_
    · clear FA NA
      rintro I' k' t' ⟨vs, ns, cap⟩ u' h' tk' oI' hk' ⟨hI, hP⟩ hoff' F' N'
      dsimp only at hI hP hoff' F' N' ⊢
      simp only [LCg.Off1, and_true] at hoff'
      obtain ⟨ini, l, rfl, hl0, hlen⟩ := pm_last h0 hk' hP
      obtain ⟨vi, tl, rfl, hI2⟩ := ints_unsnoc hI
      walk_at "mGo"
      rename News _ _ _ _ => NE
      refine item_last ⟨_, (NE _ (.tail _ (.head _))).1, rfl, _, rfl⟩ ?_
      walk_at "mGo"
      rename News _ _ _ _ => NE2
      simp only [List.push_toArray] at NE2
      rename (_ = partEnd _ _ ∧ _) => p1
      obtain ⟨p1, p2, p3⟩ := p1
      subst p1
      refine item_last ⟨_, (NE2 _ (.tail _ (.head _))).1, rfl, _, rfl⟩ ?_
      walk_at "mGo"
      · exact hret _ [] _ _ _ _ (by assumption) (by assumption) (by intro _ h; cases h) (outNone (pm_none h0 hq hk' hP (by assumption)))
      · rename News _ _ _ _ => NE3
        exact mf_end (vi ++ [.int l tl] ++ [.int _ _], ini ++ [l] ++ [partEnd ks (l + 1).toNat], cap + 1) (by assumption) NE3 (by lcg_sub) (by kst_all) ⟨IntsAre.append hI (.cons _ _ .nil), pm_next hk' hP (by assumption)⟩
    · clear FA NA
      rintro ⟨vs, ns, cap⟩ u' h' tk' ⟨hI, hP⟩ F' N'
      dsimp only at hI hP F' N' ⊢
      obtain ⟨x, y, z, rfl, ⟨q1, g1⟩, ⟨q2, g2⟩, q3, g3⟩ := hP
      obtain ⟨t0, t1, t2, t3, rfl⟩ := ints4 hI
      clear hI
      have b1 := partEnd_bd ks (i + 1 + 1).toNat
      have b2 := partEnd_bd ks (x + 1).toNat
      have b3 := partEnd_bd ks (y + 1).toNat
      rw [← q1] at b1
      rw [← q2] at b2
      rw [← q3] at b3
      walk_at "mGoU"
      · rename (bne _ _ = true) => hne2
        have hne2 : ((KBy.picked b (some z) (some (z + 2))).toList != #[63, 61].toList) = true := hne2
        have hq2 := ne_of_bne hne2
        rw [picked_seg hb (by omega) (by omega), bInts_close, seg2 _ (by omega)] at hq2
        exact hret _ [] _ _ _ _ (by assumption) (by assumption) (by intro _ h; cases h) (outNone (wp_n5 h0 hq q1 g1 q2 g2 q3 g3 hq2))
      k_dflt (refine LCg.Assign_ListComp_U (F₀ := by k_asm) (by rfl) (by with_unfolding_all rfl) (by with_unfolding_all rfl) (by decide) (by rfl) (by decide) (by rfl) (by rfl) (by rfl) ?_)
      walk_at "mGoU"
      k_dflt (refine LCg.CompSrc.range (by rfl) (by k_asm) (by k_asm) (by assumption) (by decide) (by rfl) (by exact Nat.le_of_ble_eq_true rfl) ?_)
      intro g1
      refine LCg.CompRest.succ (k := 2) ?_
      intro v' I' oI' C' oC' D' m' h' tk' E' hv' hC' hx' F' N' off' ne'
      obtain ⟨t9', hv9'⟩ := hv'
      subst hv9'
      simp only [LCg.Off3, and_true] at off'
      walk_at "mGoU"
      refine LCg.CompRest.succ (k := 1) ?_
      intro v' I' oI' C' oC' D' m' h' tk' E' hv' hC' hx' F' N' off' ne'
      obtain ⟨t9', hv9'⟩ := hv'
      subst hv9'
      simp only [LCg.Off3, and_true] at off'
      walk_at "mGoU"
      refine LCg.CompRest.succ (k := 0) ?_
      intro v' I' oI' C' oC' D' m' h' tk' E' hv' hC' hx' F' N' off' ne'
      obtain ⟨t9', hv9'⟩ := hv'
      subst hv9'
      simp only [LCg.Off3, and_true] at off'
      walk_at "mGoU"
      refine LCg.CompRest.zero ?_
      walk_at "mGoU"
      rename (bne _ _ = false) => hne2
      have hne2 : ((KBy.picked b (some z) (some (z + 2))).toList != #[63, 61].toList) = false := hne2
      have hq2 := eq_of_bne hne2
      rw [picked_seg hb (by omega) (by omega), bInts_close, seg2 _ (by omega)] at hq2
      have g1 := (ge_of q1 (by assumption))
      have g2 := (ge_of q2 (by assumption))
      have g3 := (ge_of q3 (by assumption))
      refine hret _ [_] _ _ _ _ (by assumption) (by assumption) (by intro p hp; exact List.mem_of_mem_take (i := 1) hp) (.inr ⟨_, _, _, _, wp_s h0 hq q1 (by assumption) q2 (by assumption) q3 (by assumption) hq2, _, _, _, _, _, _, _, _, rfl, rfl, picked_seg (a := i + 1 + 1) (c := x) hb (by omega) (by omega), picked_seg (a := x + 1) (c := y) hb (by omega) (by omega), picked_seg (a := y + 1) (c := z) hb (by omega) (by omega)⟩)
end
section
def isWhite (c : Int) : Bool := [(9 : Int), 10, 13, 32].any (· == c)
def leftOk (ks : List Int) (i : Int) : Bool := decide (i ≤ 0) || isWhite (ks.getD (i - 1).toNat 0) || decide (ks.getD (i - 1).toNat 0 = 40)
def rightOk (ks : List Int) (j : Int) : Bool := decide (j = ks.length) || isWhite (ks.getD j.toNat 0) || decide (ks.getD j.toNat 0 = 41)
def apart (ks : List Int) (i j : Int) : Bool := leftOk ks i && rightOk ks j
theorem apart_no {ks : List Int} {i j : Int} (h1 : 0 < i) (h2 : isWhite (ks.getD (i - 1).toNat 0) = false) (h3 : ¬ ks.getD (i - 1).toNat 0 = 40) : apart ks i j = false := by
  unfold apart leftOk
  rw [decide_eq_false (by omega), h2, decide_eq_false h3]; rfl
theorem apart_r0 {ks : List Int} {i j : Int} (h1 : ¬ 0 < i) : apart ks i j = rightOk ks j := by
  unfold apart leftOk
  rw [decide_eq_true (by omega)]; rfl
theorem apart_r1 {ks : List Int} {i j : Int} (h1 : isWhite (ks.getD (i - 1).toNat 0) = true) : apart ks i j = rightOk ks j := by
  unfold apart leftOk
  rw [h1, Bool.or_true]; rfl
theorem apart_r2 {ks : List Int} {i j : Int} (h1 : ks.getD (i - 1).toNat 0 = 40) : apart ks i j = rightOk ks j := by
  unfold apart leftOk
  rw [decide_eq_true h1, Bool.or_true]; rfl
theorem nt {b : Bool} (h : ¬ (!b) = true) : b = true := by cases b <;> first | rfl | exact absurd rfl h
theorem right0 {ks : List Int} {j : Int} (h : j = ks.length) : rightOk ks j = true := by
  unfold rightOk
  rw [decide_eq_true h]; rfl
theorem right1 {ks : List Int} {j : Int} (h : ¬ j = ks.length) (h1 : isWhite (ks.getD j.toNat 0) = true) : rightOk ks j = true := by
  unfold rightOk
  rw [h1, Bool.or_true]; rfl
theorem right2 {ks : List Int} {j : Int} (h : ¬ j = ks.length) (h1 : isWhite (ks.getD j.toNat 0) = false) : rightOk ks j = decide (ks.getD j.toNat 0 = 41) := by
  unfold rightOk
  rw [h1, decide_eq_false h]; rfl
theorem c_is_apart (w : World) (b : Array UInt8) (t : Tok) (i : Int) (u : Tok) (j : Int) (v : Tok) (ks : List Int) (hb : KBw.bInts b = ks) (hn : ks.length ≤ 4096) (h0 : 0 ≤ i) (h1 : i ≤ ks.length) (hj0 : 0 ≤ j) (hj1 : j ≤ ks.length) : PureC PySem.Challenge.rw_or0048_01.row.prog w (hd.heap_39 w.params) 194 1 [.bytes b t, .int i u, .int j v] (fun _ => True) (OutBool (apart ks i j)) := by
  k_fill
  refine' pure_wx [(Str.ofString "octets", .bytes b t), (Str.ofString "begin", .int i u), (Str.ofString "end", .int j v)] ?k6 ?k7 ?k9 ?kB ?c2 ?c3 ?c4 ?c5 ?c6 ?_
  walk_at "wOpen"
  intro c I G hpre
  have hn' : ks.length ≤ 16777216 := by omega
  have hg := z_ok I (glob_cons (x := Str.ofString "WHITE") (v := .ref 167) I G rfl (by k_is) (glob_cons (x := Str.ofString "OPENING") I G rfl (by k_is) (glob_cons (x := Str.ofString "CLOSING") I G rfl (by k_is) (glob_consB (x := Str.ofString "len") (v := .builtin "len") I G rfl (by k_is) (by boot_fast) (by decide) glob_nil))))
  have X' : (hd.heap_39 w.params).In c.g := I.k ▸ G.X
  have hW := tupK X' (a := 167) (by k_dflt k_is)
  refine run_sound G hg 100 ?_
  have hI : IntsAre (#[Value.int 9 416, Value.int 10 417, Value.int 13 418, Value.int 32 419] : Array Value).toList [9, 10, 13, 32] := .cons _ _ (.cons _ _ (.cons _ _ (.cons _ _ .nil)))
  walk_at "wGo"
  · rename_i hi _ _
    have hi0 : 0 ≤ i - 1 := by omega
    have hi1 : i - 1 < ks.length := by omega
    refine wx_item hn' hb hi0 hi1 ?_
    walk_at "wGo"
    refine wx_notin hW hI ?_
    walk_at "wGo"
    · refine wx_item hn' hb hi0 hi1 ?_
      walk_at "wGo"
      · rename_i h40
        have e := apart_r2 (j := j) h40
        refine wx_len hn' hb ?_
        walk_at "wGo"
        · rename (decide (j = _) = true) => hj
          exact ⟨[], nil_mem, rfl, congrArg Value.bool (hj.trans (e.trans (right0 (of_decide_eq_true hj))).symm)⟩
        rename (¬ decide (j = _) = true) => hj
        have hj := of_decide_eq_false (Bool.eq_false_iff.mpr hj)
        have hj2 : j < ks.length := by omega
        refine wx_item hn' hb hj0 hj2 ?_
        walk_at "wGo"
        refine wx_in hW hI ?_
        walk_at "wGo"
        · rename (List.any _ _ = true) => hr
          exact ⟨[], nil_mem, rfl, congrArg Value.bool (hr.trans (e.trans (right1 hj hr)).symm)⟩
        rename (¬ List.any _ _ = true) => hr
        refine wx_item hn' hb hj0 hj2 ?_
        walk_at "wGo"
        exact ⟨[], nil_mem, rfl, congrArg Value.bool (e.trans (right2 hj (Bool.eq_false_iff.mpr hr))).symm⟩
      · rename (¬ _ = (40 : Int)) => h40
        rename ((!_) = true) => hw
        exact ⟨[], nil_mem, rfl, congrArg Value.bool (apart_no hi (nb hw) h40).symm⟩
    · rename (¬ _ = true) => hw
      have e := apart_r1 (j := j) (nt hw)
      refine wx_len hn' hb ?_
      walk_at "wGo"
      · rename (decide (j = _) = true) => hj
        exact ⟨[], nil_mem, rfl, congrArg Value.bool (hj.trans (e.trans (right0 (of_decide_eq_true hj))).symm)⟩
      rename (¬ decide (j = _) = true) => hj
      have hj := of_decide_eq_false (Bool.eq_false_iff.mpr hj)
      have hj2 : j < ks.length := by omega
      refine wx_item hn' hb hj0 hj2 ?_
      walk_at "wGo"
      refine wx_in hW hI ?_
      walk_at "wGo"
      · rename (List.any _ _ = true) => hr
        exact ⟨[], nil_mem, rfl, congrArg Value.bool (hr.trans (e.trans (right1 hj hr)).symm)⟩
      rename (¬ List.any _ _ = true) => hr
      refine wx_item hn' hb hj0 hj2 ?_
      walk_at "wGo"
      exact ⟨[], nil_mem, rfl, congrArg Value.bool (e.trans (right2 hj (Bool.eq_false_iff.mpr hr))).symm⟩
  · rename (¬ _) => hi
    have e := apart_r0 (ks := ks) (j := j) hi
    refine wx_len hn' hb ?_
    walk_at "wGo"
    · rename (decide (j = _) = true) => hj
      exact ⟨[], nil_mem, rfl, congrArg Value.bool (hj.trans (e.trans (right0 (of_decide_eq_true hj))).symm)⟩
    rename (¬ decide (j = _) = true) => hj
    have hj := of_decide_eq_false (Bool.eq_false_iff.mpr hj)
    have hj2 : j < ks.length := by omega
    refine wx_item hn' hb hj0 hj2 ?_
    walk_at "wGo"
    refine wx_in hW hI ?_
    walk_at "wGo"
    · rename (List.any _ _ = true) => hr
      exact ⟨[], nil_mem, rfl, congrArg Value.bool (hr.trans (e.trans (right1 hj hr)).symm)⟩
    rename (¬ List.any _ _ = true) => hr
    refine wx_item hn' hb hj0 hj2 ?_
    walk_at "wGo"
    exact ⟨[], nil_mem, rfl, congrArg Value.bool (e.trans (right2 hj (Bool.eq_false_iff.mpr hr))).symm⟩
end
section
def plainStr (ks : List Int) : Str := PySem.Txt.join (Str.ofString "") (ks.map fun k => (⟨#[k.toNat]⟩ : Str))
theorem c_plain_text (w : World) (b : Array UInt8) (t : Tok) (ks : List Int) (hb : KBw.bInts b = ks) (hn : ks.length ≤ 4096)  : PureC PySem.Challenge.rw_or0048_01.row.prog w (hd.heap_39 w.params) 199 1 [.bytes b t] (fun _ => True) (OutStr (plainStr ks)) := by
  walk_at "mOpen"
  intro p loose mean mg mb g L' dp un gd outer A₀ base h₁ s R B' X' T' hpre hd hu F' N' hret
  change Fr g L' h₁ (fun y => List.lookup y [(Str.ofString "octets", Value.bytes b t)]) at F'
  walk_at "mGo"
  refine ListComp_bytes (by assumption) (by rfl) (by decide) (by rfl) (by decide) (by rfl) ?_
  walk_at "mGo"
  refine ⟨b, t, [], rfl, rfl, by assumption, by assumption, by rw [← KBw.ints_length, hb, sizeLine_eq]; omega, ?_⟩
  rintro s₂ ⟨h₂, rfl⟩
  refine kct_rest (ks := ks) (fun k => (⟨#[k.toNat]⟩ : Str)) (by rw [← hb, KBw.ints_length]) (fun i v _ hv => by
    obtain ⟨c, u, hc, rfl⟩ := hv
    exact ⟨_, u, hb ▸ KBw.ints_get hc, rfl⟩) (fun k' t' I' oI' C' oC' D' m' ys' h' tk' E' hk' hC' hx' F' N' off' ne' mk' => ?_) ?_
  · simp only [LCg.Off3, and_true] at off'
    have hin := KBw.ints_in (hb.symm ▸ hk')
    walk_at "mGo"
  · intro ys hc hl
    walk_at "mGo"
    exact hret _ [] _ _ _ _ (by assumption) (by assumption) (by intro _ h; cases h) (outStr rfl)
theorem c_lower_code (w : World) (c : Int) (t : Tok) : PureC PySem.Challenge.rw_or0048_01.row.prog w (hd.heap_39 w.params) 85 1 [.int c t] (fun _ => True) (OutInt (if 65 ≤ c ∧ c ≤ 90 then c + 32 else c)) := by
  walk_at "mOpen"
  intro p loose mean mg mb g L' dp un gd outer A₀ base h₁ s R B' X' T' hpre hd hu F' N' hret
  walk_at "mGo"
  all_goals (refine hret _ [] _ _ _ _ (by assumption) (by assumption) (by intro _ h; cases h) (outInt ?_))
  all_goals (split <;> omega)
local macro_rules | `(tactic| walk_at "mSpec") => `(tactic| exact c_lower_code _ _ _)
def lowerCode (c : Nat) : Nat := (if 65 ≤ (c : Int) ∧ (c : Int) ≤ 90 then (c : Int) + 32 else c).toNat
def lowerStr (x : Str) : Str := PySem.Txt.join (Str.ofString "") (x.cps.toList.map fun c => (⟨#[lowerCode c]⟩ : Str))
/-- a comprehension over a text's signs whose element is a text of its own -/
theorem kct_signs {prog : Program} {w : World} {A : Around} {h₀ : Heap} {L : Addr} {m : Str → Option Value} {env : Env} {elt : Expr} {x : Str} {scope : Scope} {cl : List (Str × Addr)} {s : Shared} {S : List (Addr × Obj) → Prop} {Fin : List Value → List (Addr × Obj) → Prop} {news : List (Addr × Obj)} {tx : Str} (g : Nat → Str)
    (turn : ∀ k t I oI C oC D m₂ ys h tk (E' : Value → Shared → Prop), k ∈ tx.cps.toList → LCg.NsObj oC m₂ → m₂ x = some (.str ⟨#[k]⟩ t) → Fr h₀ L h m → News h₀ L h ((I, oI) :: (C, oC) :: (D, LCg.lst ys) :: news) → LCg.Off3 I C D news → ((@Ne Nat I C) ∧ (@Ne Nat I D) ∧ (@Ne Nat C D)) →
      wpAny (model prog w) A (eval elt (compEnvC scope cl C env)) (LCg.CompEnd h₀ L m { s with heap := h, toks := tk } I oI C oC D (LCg.lst ys) S (fun y news' => KCtEl news (g k) y news')) E' { s with heap := h, toks := tk })
    (fin : ∀ ys, CarriedAll ys (tx.cps.toList.map fun k => PyData.str (g k)) → Fin ys news) : LCg.CompRest prog w A h₀ L m env elt x scope cl s S (SignAt tx) Fin tx.cps.size 0 [] news := by
  have key : ∀ (j i : Nat) (ys : List Value), i + j = tx.cps.size → StrsAre ys ((tx.cps.toList.take i).map g) → LCg.CompRest prog w A h₀ L m env elt x scope cl s S (SignAt tx) Fin j i ys news := by
    intro j
    induction j with
    | zero =>
      intro i ys hi hy
      have e : i = tx.cps.toList.length := by simp; omega
      subst e
      rw [List.take_length] at hy
      have hc := hy.carried
      rw [List.map_map] at hc
      exact LCg.CompRest.zero (fin ys hc)
    | succ j ih =>
      intro i ys hi hy
      refine LCg.CompRest.succ ?_
      intro v I oI C oC D m₂ h tk E' hv hC hx F N off ne
      obtain ⟨k, t, hk, hv'⟩ := hv
      rw [hv'] at hx
      have hk' : tx.cps.toList[i]? = some k := by simpa using hk
      refine wpAny_mono (turn k t I oI C oC D m₂ ys h tk E' (List.mem_of_getElem? hk') hC hx F N off ne) (fun y s₂ hq => ?_) fun _ _ e => e
      obtain ⟨h', tk', nw, e, F', N', off', hS, hn, t', hy'⟩ := hq
      rw [hn] at N' off' hS
      refine ⟨h', tk', news, e, F', N', off', hS, ?_⟩
      rw [hy']
      refine ih (i + 1) _ (by omega) ?_
      rw [List.take_add_one, hk']
      simpa using kct_snoc hy
  exact key _ 0 [] (by omega) (by simp only [List.take_zero, List.map_nil]; exact .nil)
theorem c_lower_text (w : World) (x : Str) (t : Tok) (hx : x.length ≤ 4096) (hr : ∀ c ∈ x.cps.toList, c < 256) : PureC PySem.Challenge.rw_or0048_01.row.prog w (hd.heap_39 w.params) 90 2 [.str x t] (fun _ => True) (OutStr (lowerStr x)) := by
  walk_at "mOpen"
  intro p loose mean mg mb g L' dp un gd outer A₀ base h₁ s R B' X' T' hpre hd hu F' N' hret
  change Fr g L' h₁ (fun y => List.lookup y [(Str.ofString "text", Value.str x t)]) at F'
  walk_at "mGo"
  refine ListComp_text (by assumption) (by rfl) (by decide) (by rfl) (by decide) (by rfl) ?_
  walk_at "mGo"
  refine ⟨x, t, [], rfl, rfl, by assumption, by assumption, by rw [sizeLine_eq]; exact Nat.le_trans hx (by decide), ?_⟩
  rintro s₂ ⟨h₂, rfl⟩
  refine kct_signs (fun c : Nat => (⟨#[lowerCode c]⟩ : Str)) (fun k' t' I' oI' C' oC' D' m' ys' h' tk' E' hk' hC' hx' F' N' off' ne' => ?_) ?_
  · have hin := hr _ hk'
    walk_at "mGo"
    exact ⟨rfl, _, rfl⟩
  · intro ys hc
    have hlen : x.cps.toList.length ≤ 4096 := hx
    walk_at "mGo"
    exact hret _ [] _ _ _ _ (by assumption) (by assumption) (by intro _ h; cases h) (outStr rfl)
end
section
local macro_rules | `(tactic| walk_at "setItem ref str") => `(tactic| (k_here; k_dflt (refine' setItem_K PyProof.V.same_str (strKind_is _ _ _ _) ?v ?F ?N ?U ?d ?f ?_ ?z; (case F => k_asm); (case N => k_asm); (case U => k_updF); (case d => k_asm); (case f => k_asm); (case z => (rw [PySem.sizeLine_eq]; omega)); (case v => k_flat)); intro h' o' F' N' hd' hf'; (try dsimp only at N')))
def foldD (xs : List Str) (v : Str) (D : List (PyData × PyData)) : List (PyData × PyData) := xs.foldl (fun D x => PyProof.V.putD (PyData.str x) (PyData.str v) D) D
abbrev Tab0 (w : World) (o : Obj) (kvs : List (Str × Value)) (D : List (PyData × PyData)) : Prop := Obj.IsDictOf (PySem.strKind PySem.Challenge.rw_or0048_01.row.prog w) o kvs ∧ PyProof.V.FlatPairs PyData.str kvs D
def names1 : List Str := [Str.ofString "us-ascii", Str.ofString "ascii", Str.ofString "ansi_x3.4-1968", Str.ofString "iso_646.irv:1991", Str.ofString "iso-ir-6", Str.ofString "iso646-us", Str.ofString "us", Str.ofString "cp367", Str.ofString "ibm367"]
def names2 : List Str := [Str.ofString "iso-8859-1", Str.ofString "iso_8859-1", Str.ofString "iso_8859-1:1987", Str.ofString "iso-ir-100", Str.ofString "latin1", Str.ofString "l1", Str.ofString "cp819", Str.ofString "ibm819"]
def names3 : List Str := [Str.ofString "utf-8", Str.ofString "utf8"]
def charsetD : List (PyData × PyData) := foldD names3 (Str.ofString "utf-8") (foldD names2 (Str.ofString "iso-8859-1") (foldD names1 (Str.ofString "us-ascii") []))
theorem foldD_step {xs : List Str} {v x : Str} {D : List (PyData × PyData)} {i : Nat} (h : xs[i]? = some x) : PyProof.V.putD (PyData.str x) (PyData.str v) (foldD (xs.take i) v D) = foldD (xs.take (i + 1)) v D := by
  unfold foldD
  rw [List.take_add_one, h]
  simp
theorem strs_at {vs : List Value} {ys : List Str} (h : StrsAre vs ys) : ∀ {i : Nat} {v : Value}, vs[i]? = some v → ∃ x t, ys[i]? = some x ∧ v = .str x t := by
  induction h with
  | nil => intro i v h; simp at h
  | cons y t r ih =>
    intro i v h
    cases i with
    | zero => simp at h; exact ⟨y, t, rfl, h.symm⟩
    | succ i => simpa using ih (by simpa using h)
theorem putD_len (a b : PyData) (D : List (PyData × PyData)) : (PyProof.V.putD a b D).length ≤ D.length + 1 := PyProof.V.LenLe.put (PyProof.V.LenLe.self D) a b
theorem c_charset_names (w : World) : PureC PySem.Challenge.rw_or0048_01.row.prog w (hd.heap_39 w.params) 98 1 [] (fun _ => True) (fun _ tl r => ∃ d o kvs, tl = [(d, o)] ∧ r = .ref d ∧ (d == sysModules) = false ∧ Tab0 w o kvs charsetD) := by
  walk_at "mOpen"
  intro p loose mean mg mb g L' dp un gd outer A₀ base h₁ s R B' X' T' hpre hd hu F' N' hret
  walk_at "mGo"
  walk_at "mFor"
  walk_at "mGo"
  rename_i dA _ oA loA hsA fsA hiA fiA _ _ DA _ FA NA l1A
  clear hiA fiA
  refine for_tuple (σ := Obj × List (Str × Value) × List (PyData × PyData)) (fun c => [(DA, _), (dA, c.1)]) [DA, dA] (fun c => [(Str.ofString "found", .ref dA)]) (fun i c => Tab0 w c.1 c.2.1 c.2.2 ∧ c.2.2 = foldD (names1.take i) (Str.ofString "us-ascii") [] ∧ c.2.2.length ≤ 0 + i) (oA, [], []) rfl (News.isTup NA (by k_mem)) (fun _ => .head _) (fun _ => rfl) FA NA (by lcg_sub) (by kst_all) ⟨⟨hsA, fsA⟩, rfl, Nat.le_refl _⟩ ?_ ?_
  · clear FA NA
    rintro I i v ⟨o, kvs, D⟩ u h tk oI hv ⟨⟨hd1, hf1⟩, hD, hDl⟩ off F' N'
    have hi9 := (List.getElem?_eq_some_iff.1 hv).1
    dsimp only [List.length_cons, List.length_nil] at hd1 hf1 hD hDl F' N' hi9
    obtain ⟨x, tx, hx, rfl⟩ := strs_at (ys := names1) (by repeat constructor) hv
    simp only [LCg.Off1, and_true] at off
    walk_at "mGo"
    rename Obj.IsDictOf (PySem.strKind _ _) _ _ => hdN
    rename PyProof.V.FlatPairs PyData.str _ _ => hfN
    rename Fr _ _ _ _ => FN
    rename News _ _ _ _ => NN
    exact mf_end (_, _, _) FN NN (by lcg_sub) (by kst_all) ⟨⟨hdN, hfN⟩, by dsimp only; rw [hD]; exact foldD_step hx, by dsimp only; exact Nat.le_trans (putD_len _ _ _) (by omega)⟩
  · clear FA NA
    rintro ⟨o, kvs, D⟩ u h tk ⟨⟨hd1, hf1⟩, hD, hDl⟩ F' N'
    dsimp only at hd1 hf1 hD hDl F' N' ⊢
    change D = foldD names1 (Str.ofString "us-ascii") [] at hD
    change D.length ≤ 9 at hDl
    walk_at "mGo"
    walk_at "mFor"
    walk_at "mGo"
    rename_i D2 _ FA NA l2A
    refine for_tuple (σ := Obj × List (Str × Value) × List (PyData × PyData)) (fun c => [(D2, _), (dA, c.1)]) [D2, dA] (fun c => [(Str.ofString "found", .ref dA)]) (fun i c => Tab0 w c.1 c.2.1 c.2.2 ∧ c.2.2 = foldD (names2.take i) (Str.ofString "iso-8859-1") (foldD names1 (Str.ofString "us-ascii") []) ∧ c.2.2.length ≤ 9 + i) (o, kvs, D) rfl (News.isTup NA (by k_mem)) (fun _ => .head _) (fun _ => rfl) FA NA (by lcg_sub) (by kst_all) ⟨⟨hd1, hf1⟩, hD, hDl⟩ ?_ ?_
    · clear FA NA
      rintro I i v ⟨o, kvs, D⟩ u h tk oI hv ⟨⟨hd1, hf1⟩, hD, hDl⟩ off F' N'
      have hi9 := (List.getElem?_eq_some_iff.1 hv).1
      dsimp only [List.length_cons, List.length_nil] at hd1 hf1 hD hDl F' N' hi9
      obtain ⟨x, tx, hx, rfl⟩ := strs_at (ys := names2) (by repeat constructor) hv
      simp only [LCg.Off1, and_true] at off
      walk_at "mGo"
      rename Obj.IsDictOf (PySem.strKind _ _) _ _ => hdN
      rename PyProof.V.FlatPairs PyData.str _ _ => hfN
      rename Fr _ _ _ _ => FN
      rename News _ _ _ _ => NN
      exact mf_end (_, _, _) FN NN (by lcg_sub) (by kst_all) ⟨⟨hdN, hfN⟩, by dsimp only; rw [hD]; exact foldD_step hx, by dsimp only; exact Nat.le_trans (putD_len _ _ _) (by omega)⟩
    · clear FA NA
      rintro ⟨o, kvs, D⟩ u h tk ⟨⟨hd1, hf1⟩, hD, hDl⟩ F' N'
      dsimp only at hd1 hf1 hD hDl F' N' ⊢
      change D = foldD names2 (Str.ofString "iso-8859-1") (foldD names1 (Str.ofString "us-ascii") []) at hD
      change D.length ≤ 17 at hDl
      walk_at "mGo"
      walk_at "mFor"
      walk_at "mGo"
      rename_i D3 _ FA NA l3A
      refine for_tuple (σ := Obj × List (Str × Value) × List (PyData × PyData)) (fun c => [(D3, _), (dA, c.1)]) [D3, dA] (fun c => [(Str.ofString "found", .ref dA)]) (fun i c => Tab0 w c.1 c.2.1 c.2.2 ∧ c.2.2 = foldD (names3.take i) (Str.ofString "utf-8") (foldD names2 (Str.ofString "iso-8859-1") (foldD names1 (Str.ofString "us-ascii") [])) ∧ c.2.2.length ≤ 17 + i) (o, kvs, D) rfl (News.isTup NA (by k_mem)) (fun _ => .head _) (fun _ => rfl) FA NA (by lcg_sub) (by kst_all) ⟨⟨hd1, hf1⟩, hD, hDl⟩ ?_ ?_
      · clear FA NA
        rintro I i v ⟨o, kvs, D⟩ u h tk oI hv ⟨⟨hd1, hf1⟩, hD, hDl⟩ off F' N'
        have hi9 := (List.getElem?_eq_some_iff.1 hv).1
        dsimp only [List.length_cons, List.length_nil] at hd1 hf1 hD hDl F' N' hi9
        obtain ⟨x, tx, hx, rfl⟩ := strs_at (ys := names3) (by repeat constructor) hv
        simp only [LCg.Off1, and_true] at off
        walk_at "mGo"
        rename Obj.IsDictOf (PySem.strKind _ _) _ _ => hdN
        rename PyProof.V.FlatPairs PyData.str _ _ => hfN
        rename Fr _ _ _ _ => FN
        rename News _ _ _ _ => NN
        exact mf_end (_, _, _) FN NN (by lcg_sub) (by kst_all) ⟨⟨hdN, hfN⟩, by dsimp only; rw [hD]; exact foldD_step hx, by dsimp only; exact Nat.le_trans (putD_len _ _ _) (by omega)⟩
      · clear FA NA
        rintro ⟨o, kvs, D⟩ u h tk ⟨⟨hd1, hf1⟩, hD, hDl⟩ F' N'
        dsimp only at hd1 hf1 hD hDl F' N' ⊢
        change D = foldD names3 (Str.ofString "utf-8") (foldD names2 (Str.ofString "iso-8859-1") (foldD names1 (Str.ofString "us-ascii") [])) at hD
        change D.length ≤ 19 at hDl
        walk_at "mGo"
        exact hret _ [_] _ _ _ _ F' N' (by lcg_sub) ⟨dA, o, kvs, rfl, rfl, loA, hd1, by rw [hD] at hf1; exact hf1⟩
end
section
def charsetData (x : Str) : PyData := (PySem.Spec.lookup (PyData.str (lowerStr x)) charsetD).getD (PyData.str (Str.ofString ""))
def charsetOf (x : Str) : Str := match charsetData x with
  | .str y => y
  | _ => Str.ofString ""
def charsetsL : List Str := [Str.ofString "us-ascii", Str.ofString "iso-8859-1", Str.ofString "utf-8"]
theorem lookup_all {S : List Str} {k : PyData} : ∀ {D : List (PyData × PyData)}, (D.all fun p => match p.2 with | .str y => S.contains y | _ => false) = true → ∀ {d : PyData}, PySem.Spec.lookup k D = some d → ∃ y ∈ S, d = .str y
  | [], _, d, h => by simp [PySem.Spec.lookup] at h
  | (a, b) :: r, h, d, hl => by
    simp only [List.all_cons, Bool.and_eq_true] at h
    unfold PySem.Spec.lookup at hl
    split at hl
    · have hl' : b = d := Option.some.inj hl
      subst hl'
      have h1 := h.1
      cases b <;> simp at h1
      rename_i y
      exact ⟨y, by simpa using h1, rfl⟩
    · exact lookup_all h.2 hl
theorem charset_all : (charsetD.all fun p => match p.2 with | .str y => charsetsL.contains y | _ => false) = true := by decide +kernel
theorem charsetData_is (x : Str) : charsetData x = .str (charsetOf x) ∧ (charsetOf x ∈ charsetsL ∨ charsetOf x = Str.ofString "") := by
  have key : ∃ y, charsetData x = .str y ∧ (y ∈ charsetsL ∨ y = Str.ofString "") := by
    unfold charsetData
    cases h : PySem.Spec.lookup (PyData.str (lowerStr x)) charsetD with
    | none => exact ⟨_, rfl, .inr rfl⟩
    | some d =>
      obtain ⟨y, hy, rfl⟩ := lookup_all charset_all h
      exact ⟨y, rfl, .inl hy⟩
  obtain ⟨y, h, hy⟩ := key
  have e : charsetOf x = y := by unfold charsetOf; rw [h]
  rw [e]
  exact ⟨h, hy⟩
local macro_rules | `(tactic| walk_at "mSpec") => `(tactic| first | exact c_charset_names _ | exact c_lower_text _ _ _ (by assumption) (by assumption))
theorem c_charset_name (w : World) (x : Str) (t : Tok) (hx : x.length ≤ 4096) (hr : ∀ c ∈ x.cps.toList, c < 256) : PureC PySem.Challenge.rw_or0048_01.row.prog w (hd.heap_39 w.params) 105 3 [.str x t] (fun _ => True) (OutStr (charsetOf x)) := by
  walk_at "mOpen"
  intro p loose mean mg mb g L' dp un gd outer A₀ base h₁ s R B' X' T' hpre hd hu F' N' hret
  change Fr g L' h₁ (fun y => List.lookup y [(Str.ofString "text", Value.str x t)]) at F'
  walk_at "mGo"
  rename PyProof.V.Flat _ _ => hf
  change PyProof.V.Flat _ (charsetData x) at hf
  rw [(charsetData_is x).1] at hf
  cases hf {}
  exact hret _ [] _ _ _ _ (by assumption) (by assumption) (by intro _ h; cases h) (outStr rfl)
end
section
def hexWorth (c : Int) : Int := if 48 ≤ c ∧ c ≤ 57 then c - 48 else if 65 ≤ c ∧ c ≤ 70 then c - 55 else if 97 ≤ c ∧ c ≤ 102 then c - 87 else -1
theorem hex1 {c : Int} (h1 : 48 ≤ c) (h2 : c ≤ 57) : c - 48 = hexWorth c := (if_pos ⟨h1, h2⟩).symm
theorem hex2 {c : Int} (h1 : 65 ≤ c) (h2 : c ≤ 70) : c - 55 = hexWorth c := by
  unfold hexWorth
  rw [if_neg (fun q => by omega), if_pos ⟨h1, h2⟩]
theorem hex3 {c : Int} (h1 : 97 ≤ c) (h2 : c ≤ 102) : c - 87 = hexWorth c := by
  unfold hexWorth
  rw [if_neg (fun q => by omega), if_neg (fun q => by omega), if_pos ⟨h1, h2⟩]
theorem hexN {c : Int} (h1 : ¬ (48 ≤ c ∧ c ≤ 57)) (h2 : ¬ (65 ≤ c ∧ c ≤ 70)) (h3 : ¬ (97 ≤ c ∧ c ≤ 102)) : -1 = hexWorth c := by
  unfold hexWorth
  rw [if_neg h1, if_neg h2, if_neg h3]
theorem qInt {x y : Int} {t : Tok} {m : Loc} {N : Led} (e : x = y) : Qend (fun tl r => tl = [] ∧ ∃ t : Tok, r = .int y t) (.ret (.int x t)) m N := e ▸ ⟨[], nil_mem, rfl, _, rfl⟩
theorem c_hex_worth (w : World) (x : Int) (t : Tok) : PureC PySem.Challenge.rw_or0048_01.row.prog w (hd.heap_39 w.params) 147 1 [.int x t] (fun _ => True) (OutInt (hexWorth x)) := by
  k_fill
  refine' pure_wx [(Str.ofString "code", .int x t)] ?k6 ?k7 ?k9 ?kB ?c2 ?c3 ?c4 ?c5 ?c6 ?_
  walk_at "wOpen"
  intro c I G hpre
  refine run_sound G (z_ok I glob_nil) 60 ?_
  walk_at "wGo"
  all_goals refine qInt (m := []) ?_
  all_goals first | exact hex1 (by assumption) (by assumption) | exact hex2 (by assumption) (by assumption) | exact hex3 (by assumption) (by assumption) | exact hexN (by first | exact na (by assumption) | exact nb2 (by assumption)) (by first | exact na (by assumption) | exact nb2 (by assumption)) (by first | exact na (by assumption) | exact nb2 (by assumption))
theorem hexWorth_bd (c : Int) : -1 ≤ hexWorth c ∧ hexWorth c ≤ 15 := by
  unfold hexWorth
  (repeat' split) <;> omega
def quotedAt (ks : List Int) (i : Int) : Int := if i + 2 ≥ ks.length then -1 else
  if hexWorth (ks.getD (i + 1).toNat 0) ≥ 0 ∧ hexWorth (ks.getD (i + 2).toNat 0) ≥ 0 then 16 * hexWorth (ks.getD (i + 1).toNat 0) + hexWorth (ks.getD (i + 2).toNat 0) else -1
theorem quotedAt_bd (ks : List Int) (i : Int) : -1 ≤ quotedAt ks i ∧ quotedAt ks i ≤ 255 := by
  have h1 := hexWorth_bd (ks.getD (i + 1).toNat 0)
  have h2 := hexWorth_bd (ks.getD (i + 2).toNat 0)
  unfold quotedAt
  (repeat' split) <;> omega
theorem c_quoted_at (w : World) (b : Array UInt8) (t : Tok) (i : Int) (u : Tok) (ks : List Int) (hb : KBw.bInts b = ks) (hn : ks.length ≤ 4096) (h0 : 0 ≤ i) (h1 : i ≤ ks.length) : PureC PySem.Challenge.rw_or0048_01.row.prog w (hd.heap_39 w.params) 154 2 [.bytes b t, .int i u] (fun _ => True) (OutInt (quotedAt ks i)) := by
  k_fill
  refine' pure_wx [(Str.ofString "data", .bytes b t), (Str.ofString "at", .int i u)] ?k6 ?k7 ?k9 ?kB ?c2 ?c3 ?c4 ?c5 ?c6 ?_
  walk_at "wOpen"
  intro c I G hpre
  have hg := z_ok I (glob_consB (x := Str.ofString "len") (v := .builtin "len") I G rfl (by k_is) (by boot_fast) (by decide) (glob_cons (x := Str.ofString "hex_worth") (v := .ref 147) I G rfl (by k_is) glob_nil))
  have hn' : ks.length ≤ 16777216 := Nat.le_trans hn (by decide)
  refine run_sound G hg 100 ?_
  walk_at "wGo"
  refine wx_len hn' hb ?_
  walk_at "wGo"
  · exact qInt (m := []) (if_pos (by assumption)).symm
  · rename_i hlt _ _
    have a1 : 0 ≤ i + 1 := Int.add_nonneg h0 (by decide)
    have a2 : 0 ≤ i + 2 := Int.add_nonneg h0 (by decide)
    have a3 : i + 2 < ks.length := Int.not_le.mp hlt
    have a4 : i + 1 < ks.length := Int.lt_trans (Int.add_lt_add_left (by decide) i) a3
    refine wx_item hn' hb a1 a4 ?_
    walk_at "wGo"
    refine wx_call0 I G (c_hex_worth w _ _) (by decide) ?_
    rintro r ⟨tr, rfl⟩
    walk_at "wGo"
    refine wx_item hn' hb a2 a3 ?_
    walk_at "wGo"
    refine wx_call0 I G (c_hex_worth w _ _) (by decide) ?_
    rintro r ⟨tr, rfl⟩
    walk_at "wGo"
    · refine ⟨.inl (by decide), ?_⟩
      walk_at "wGo"
      refine qInt (m := []) ?_
      unfold quotedAt
      rw [if_neg hlt, if_pos ⟨by assumption, by assumption⟩]
    all_goals refine qInt (m := []) ?_
    all_goals unfold quotedAt
    all_goals rw [if_neg hlt, if_neg (by first | exact na (by assumption) | exact nb2 (by assumption))]
def unqF (ks : List Int) : Nat → Nat → List Int
  | 0, _ => []
  | f + 1, a => if a < ks.length then
      (if ks.getD a 0 = 61 ∧ 0 ≤ quotedAt ks a then quotedAt ks a :: unqF ks f (a + 3) else ks.getD a 0 :: unqF ks f (a + 1))
    else []
theorem unqF_fuel (ks : List Int) : ∀ (f f' a : Nat), ks.length - a ≤ f → ks.length - a ≤ f' → unqF ks f a = unqF ks f' a
  | 0, 0, _, _, _ => rfl
  | 0, f' + 1, a, h, _ => by rw [unqF, unqF, if_neg (by omega)]
  | f + 1, 0, a, _, h => by rw [unqF, unqF, if_neg (by omega)]
  | f + 1, f' + 1, a, h, h' => by
    rw [unqF, unqF]
    rw [unqF_fuel ks f f' (a + 3) (by omega) (by omega), unqF_fuel ks f f' (a + 1) (by omega) (by omega)]
def unquotedL (ks : List Int) : List Int := unqF ks ks.length 0
theorem unq_end {ks : List Int} {a : Nat} (h : ks.length ≤ a) : unqF ks (ks.length - a) a = [] := by
  have e : ks.length - a = 0 := by omega
  rw [e, unqF]
theorem unq_code {ks : List Int} {a : Nat} (h : a < ks.length) (h1 : ks.getD a 0 = 61) (h2 : 0 ≤ quotedAt ks a) : unqF ks (ks.length - a) a = quotedAt ks a :: unqF ks (ks.length - (a + 3)) (a + 3) := by
  obtain ⟨f, hf⟩ : ∃ f, ks.length - a = f + 1 := ⟨ks.length - a - 1, by omega⟩
  rw [hf, unqF, if_pos h, if_pos ⟨h1, h2⟩, unqF_fuel ks f (ks.length - (a + 3)) (a + 3) (by omega) (by omega)]
theorem unq_plain {ks : List Int} {a : Nat} (h : a < ks.length) (h1 : ¬ (ks.getD a 0 = 61 ∧ 0 ≤ quotedAt ks a)) : unqF ks (ks.length - a) a = ks.getD a 0 :: unqF ks (ks.length - (a + 1)) (a + 1) := by
  obtain ⟨f, hf⟩ : ∃ f, ks.length - a = f + 1 := ⟨ks.length - a - 1, by omega⟩
  rw [hf, unqF, if_pos h, if_neg h1, unqF_fuel ks f (ks.length - (a + 1)) (a + 1) (by omega) (by omega)]
abbrev OutBytes (x : List Int) : Heap → List (Addr × Obj) → Value → Prop := fun _ tl r => tl = [] ∧ ∃ (b : Array UInt8) (t : Tok), r = .bytes b t ∧ KBw.bInts b = x
theorem in_snoc {ns : List Int} {k : Int} (h : KBa.In ns) (h0 : 0 ≤ k) (h1 : k < 256) : KBa.In (ns ++ [k]) := by
  intro n hn
  rcases List.mem_append.mp hn with hn | hn
  · exact h n hn
  · rw [List.mem_singleton.mp hn]; exact ⟨h0, h1⟩
theorem ints_snoc {vs : List Value} {ns : List Int} (h : IntsAre vs ns) (k : Int) (t : Tok) : IntsAre (vs ++ [.int k t]) (ns ++ [k]) := IntsAre.append h (.cons k t .nil)
theorem quoted_gt {ks : List Int} {i : Int} (h : 0 ≤ quotedAt ks i) : i + 2 < ks.length := by
  unfold quotedAt at h
  split at h <;> omega
theorem n255 {x : Int} (h : x ≤ 255) : x < 256 := Int.lt_of_le_of_lt h (by decide)
theorem qBytes {x : Array UInt8} {y : List Int} {t : Tok} {m : Loc} {N : Led} (e : KBw.bInts x = y) : Qend (fun tl r => tl = [] ∧ ∃ (b : Array UInt8) (t : Tok), r = .bytes b t ∧ KBw.bInts b = y) (.ret (.bytes x t)) m N := ⟨[], nil_mem, rfl, _, _, rfl, e⟩
theorem c_unquoted (w : World) (b : Array UInt8) (t : Tok) (ks : List Int) (hb : KBw.bInts b = ks) (hn : ks.length ≤ 4096) : PureC PySem.Challenge.rw_or0048_01.row.prog w (hd.heap_39 w.params) 161 3 [.bytes b t] (fun _ => True) (OutBytes (unquotedL ks)) := by
  k_fill
  refine' pure_wx [(Str.ofString "line", .bytes b t)] ?k6 ?k7 ?k9 ?kB ?c2 ?c3 ?c4 ?c5 ?c6 ?_
  walk_at "wOpen"
  intro c I G hpre
  have hg := z_ok I (glob_consB (x := Str.ofString "len") (v := .builtin "len") I G rfl (by k_is) (by boot_fast) (by decide) (glob_consB (x := Str.ofString "bytes") (v := .type "bytes") I G rfl (by k_is) (by boot_fast) (by decide) (glob_cons (x := Str.ofString "quoted_at") (v := .ref 154) I G rfl (by k_is) (glob_cons (x := Str.ofString "EQUALS") I G rfl (by k_is) glob_nil))))
  have hn' : ks.length ≤ 16777216 := Nat.le_trans hn (by decide)
  refine run_sound G hg 100 ?_
  walk_at "wGo"
  rename_i lA _ tk0
  refine wx_while G hg 100 (σ := Int × Tok × List Value × List Int × Nat) (fun c => [(Str.ofString "line", .bytes b t), (Str.ofString "codes", .ref lA), (Str.ofString "at", .int c.1 c.2.1)]) (fun c => [(lA, listOf c.2.2.1.toArray c.2.2.2.2)])
    (fun c => 0 ≤ c.1 ∧ c.1 ≤ ks.length ∧ IntsAre c.2.2.1 c.2.2.2.1 ∧ KBa.In c.2.2.2.1 ∧ (c.2.2.2.1.length : Int) ≤ c.1 ∧ c.2.2.2.1 ++ unqF ks (ks.length - c.1.toNat) c.1.toNat = unquotedL ks) (fun c => ks.length - c.1.toNat) (0, tk0, [], [], 0) (fun p hp => hp) ?_ ⟨Int.le_refl _, Int.natCast_nonneg _, .nil, (fun _ h => nomatch h), Int.le_refl _, rfl⟩ ?_
  · exact List.forall_mem_cons.mpr ⟨rfl, List.forall_mem_cons.mpr ⟨rfl, List.forall_mem_cons.mpr ⟨rfl, nil_mem⟩⟩⟩
  rintro ⟨j, tj, vs, ns, n⟩ ⟨hj0, hj1, hI, hIn, hl, he⟩
  dsimp only at hj0 hj1 hI hIn hl he
  have hvl : vs.length ≤ 4096 := by
    have := hI.length
    omega
  have hjj : ((j.toNat : Nat) : Int) = j := Int.toNat_of_nonneg hj0
  have fin : ∀ (q j2 : Int) (tq : Tok), 0 ≤ q → q < 256 → j < j2 → j2 ≤ ks.length → unqF ks (ks.length - j.toNat) j.toNat = q :: unqF ks (ks.length - j2.toNat) j2.toNat →
      (0 ≤ j2 ∧ j2 ≤ ks.length ∧ IntsAre (vs ++ [.int q tq]) (ns ++ [q]) ∧ KBa.In (ns ++ [q]) ∧ ((ns ++ [q]).length : Int) ≤ j2 ∧ (ns ++ [q]) ++ unqF ks (ks.length - j2.toNat) j2.toNat = unquotedL ks) ∧ ks.length - j2.toNat < ks.length - j.toNat :=
    fun q j2 tq q0 q1 hj2 hj3 e => ⟨⟨Int.le_trans hj0 (Int.le_of_lt hj2), hj3, ints_snoc hI _ _, in_snoc hIn q0 q1, by rw [List.length_append, List.length_singleton]; exact Int.le_trans (Int.add_le_add_right hl 1) hj2, by rw [List.append_assoc, List.singleton_append, ← e]; exact he⟩, by omega⟩
  have plain : ¬ (ks.getD j.toNat 0 = 61 ∧ 0 ≤ quotedAt ks j) → j.toNat < ks.length → unqF ks (ks.length - j.toNat) j.toNat = ks.getD j.toNat 0 :: unqF ks (ks.length - (j + 1).toNat) (j + 1).toNat := fun h hl => by
    have e1 : (j + 1).toNat = j.toNat + 1 := Int.toNat_add hj0 (by decide)
    have := unq_plain (a := j.toNat) hl (by rw [hjj]; exact h)
    rw [e1]; exact this
  walk_at "wGo"
  refine wx_len hn' hb ?_
  walk_at "wGo"
  · rename_i hlt
    have hltn : j.toNat < ks.length := by omega
    refine wx_item hn' hb hj0 hlt ?_
    intro t9 g0 g1
    walk_at "wGo"
    · rename_i h61
      refine wx_call0 I G (c_quoted_at w b t j _ ks hb hn hj0 hj1) (by decide) ?_
      rintro r ⟨tr, rfl⟩
      walk_at "wGo"
      · rename_i hq
        refine wx_append G hg 60 rfl rfl (.head _) hvl rfl ?_
        walk_at "wGo"
        refine ⟨_, upd1, ?_⟩
        walk_at "wGo"
        rename_i t3 t4
        have e3 : (j + 3).toNat = j.toNat + 3 := Int.toNat_add hj0 (by decide)
        have e := unq_code (a := j.toNat) hltn h61 (by rw [hjj]; exact hq)
        rw [hjj, ← e3] at e
        have f := fin (quotedAt ks j) (j + 3) tr hq (n255 (quotedAt_bd ks j).2) (Int.lt_add_of_pos_right j (by decide)) (by have := quoted_gt hq; omega) e
        exact ⟨(j + 3, t4, vs ++ [.int (quotedAt ks j) tr], ns ++ [quotedAt ks j], n + 1), fun p hp => hp, List.forall_mem_cons.mpr ⟨rfl, List.forall_mem_cons.mpr ⟨rfl, List.forall_mem_cons.mpr ⟨rfl, nil_mem⟩⟩⟩, f.1, f.2⟩
      · rename_i hq
        refine wx_append G hg 60 rfl rfl (.head _) hvl rfl ?_
        walk_at "wGo"
        refine wx_item hn' hb hj0 hlt ?_
        intro t5 _ _
        walk_at "wGo"
        refine ⟨_, upd1, ?_⟩
        walk_at "wGo"
        rename_i t3 t4
        have f := fin (ks.getD j.toNat 0) (j + 1) t5 g0 g1 (Int.lt_succ j) hlt (plain (nb2 hq) hltn)
        exact ⟨(j + 1, t4, vs ++ [.int (ks.getD j.toNat 0) t5], ns ++ [ks.getD j.toNat 0], n + 1), fun p hp => hp, List.forall_mem_cons.mpr ⟨rfl, List.forall_mem_cons.mpr ⟨rfl, List.forall_mem_cons.mpr ⟨rfl, nil_mem⟩⟩⟩, f.1, f.2⟩
    · rename_i hq
      exact absurd hq (by decide)
    · rename_i h61 _ _ _ _
      refine wx_append G hg 60 rfl rfl (.head _) hvl rfl ?_
      walk_at "wGo"
      refine wx_item hn' hb hj0 hlt ?_
      intro t5 _ _
      walk_at "wGo"
      refine ⟨_, upd1, ?_⟩
      walk_at "wGo"
      rename_i t3 t4
      have f := fin (ks.getD j.toNat 0) (j + 1) t5 g0 g1 (Int.lt_succ j) hlt (plain (na h61) hltn)
      exact ⟨(j + 1, t4, vs ++ [.int (ks.getD j.toNat 0) t5], ns ++ [ks.getD j.toNat 0], n + 1), fun p hp => hp, List.forall_mem_cons.mpr ⟨rfl, List.forall_mem_cons.mpr ⟨rfl, List.forall_mem_cons.mpr ⟨rfl, nil_mem⟩⟩⟩, f.1, f.2⟩
  · rename_i hge
    refine wx_mkbytes (.head _) hI hIn (by rw [← hI.length]; exact Nat.le_trans hvl (by decide)) ?_
    walk_at "wGo"
    have hge2 : ks.length ≤ j.toNat := by omega
    rw [unq_end hge2, List.append_nil] at he
    exact qBytes (m := []) (by rw [KBa.ints_make hIn]; exact he)
local macro_rules | `(tactic| walk_at "mSpec") => `(tactic| exact c_unquoted _ _ _ _ (by kba_ints) (by kba_size))
theorem c_word_q (w : World) (b : Array UInt8) (t : Tok) (ks : List Int) (hb : KBw.bInts b = ks) (hn : ks.length ≤ 4096) : PureC PySem.Challenge.rw_or0048_01.row.prog w (hd.heap_39 w.params) 166 4 [.bytes b t] (fun _ => True) (OutBytes (unquotedL (ks.map fun c => if c = 95 then 32 else c))) := by
  walk_at "mOpen"
  intro p loose mean mg mb g L' dp un gd outer A₀ base h₁ s R B' X' T' hpre hd hu F' N' hret
  change Fr g L' h₁ (fun y => List.lookup y [(Str.ofString "octets", Value.bytes b t)]) at F'
  walk_at "mGo"
  refine ListComp_bytes (by assumption) (by rfl) (by decide) (by rfl) (by decide) (by rfl) ?_
  walk_at "mGo"
  refine ⟨b, t, [], rfl, rfl, by assumption, by assumption, by rw [← KBw.ints_length, hb, sizeLine_eq]; omega, ?_⟩
  rintro s₂ ⟨h₂, rfl⟩
  refine kcf_rest (ks := ks) (fun c => if c = 95 then 32 else c) (by rw [← hb, KBw.ints_length]) (fun i v _ hv => by
    obtain ⟨c, u, hc, rfl⟩ := hv
    exact ⟨_, u, hb ▸ KBw.ints_get hc, rfl⟩) (fun k' t' I' oI' C' oC' D' m' ys' h' tk' E' hk' hC' hx' F' N' off' ne' mk' => ?_) ?_
  · simp only [LCg.Off3] at off'
    have hin := KBw.ints_in (hb.symm ▸ hk')
    walk_at "mGo"
  · intro ys hc
    have hIn : KBa.In (ks.map fun c => if c = 95 then 32 else c) := by
      intro n hn
      obtain ⟨c, hc, e⟩ := List.mem_map.1 hn
      have := KBw.ints_in (hb.symm ▸ hc)
      subst e
      split <;> omega
    have hlm : (ks.map fun c => if c = 95 then 32 else c).length ≤ 4096 := by rw [List.length_map]; exact hn
    have hmk := KBa.ints_make hIn
    walk_at "mGo"
    exact hret _ [] _ _ _ _ (by assumption) (by assumption) (by intro _ h; cases h) ⟨rfl, _, _, rfl, by assumption⟩
end
section
local macro_rules | `(tactic| walk_at "mSteps") => `(tactic| repeat' (first | (k_unfold; (try dsimp only)) | walk1 | (dsimp only; walk1) | fail "no step"))
local macro_rules | `(tactic| walk_at "mGo") => `(tactic| ((try dsimp only); (try k_fold); walk_at "mSteps"))
def followSpan (c : Int) : Int × Int × Int :=
  if 194 ≤ c ∧ c ≤ 223 then (128, 191, 1) else if 224 ≤ c ∧ c ≤ 239 then (if c = 224 then 160 else 128, if c = 237 then 159 else 191, 2) else if 240 ≤ c ∧ c ≤ 244 then (if c = 240 then 144 else 128, if c = 244 then 143 else 191, 3) else (0, 0, 0)
theorem fs1 {c : Int} (h1 : 194 ≤ c) (h2 : c ≤ 223) : followSpan c = (128, 191, 1) := if_pos ⟨h1, h2⟩
theorem fs2 {c : Int} (h1 : 224 ≤ c) (h2 : c ≤ 239) : followSpan c = (if c = 224 then 160 else 128, if c = 237 then 159 else 191, 2) := by
  unfold followSpan
  rw [if_neg (by omega), if_pos ⟨h1, h2⟩]
theorem fs3 {c : Int} (h1 : 240 ≤ c) (h2 : c ≤ 244) : followSpan c = (if c = 240 then 144 else 128, if c = 244 then 143 else 191, 3) := by
  unfold followSpan
  rw [if_neg (by omega), if_neg (by omega), if_pos ⟨h1, h2⟩]
theorem fs4 {c : Int} (h : ¬ 194 ≤ c ∨ ¬ c ≤ 244) : followSpan c = (0, 0, 0) := by
  unfold followSpan
  rw [if_neg (by omega), if_neg (by omega), if_neg (by omega)]
theorem c_follow (w : World) (y : Int) (t : Tok) : PureC PySem.Challenge.rw_or0048_01.row.prog w (hd.heap_39 w.params) 119 1 [.int y t] (fun _ => True) (fun _ tl r => ∃ (a : Addr) (x1 x2 x3 : Int) (t1 t2 t3 : Tok), tl = [(a, { cls := .type "tuple", data := .seq #[.int x1 t1, .int x2 t2, .int x3 t3] })] ∧ r = .ref a ∧ (x1, x2, x3) = followSpan y) := by
  k_fill
  refine' pure_wx [(Str.ofString "lead", .int y t)] ?k6 ?k7 ?k9 ?kB ?c2 ?c3 ?c4 ?c5 ?c6 ?_
  walk_at "wOpen"
  intro c I G hpre
  have fin : ∀ (x1 x2 x3 : Int) (t1 t2 t3 : Tok) (a : Addr) (m : Loc), (x1, x2, x3) = followSpan y → Qend ((fun (_ : Heap) (tl : List (Addr × Obj)) r => ∃ (a : Addr) (x1 x2 x3 : Int) (t1 t2 t3 : Tok), tl = [(a, { cls := .type "tuple", data := .seq #[.int x1 t1, .int x2 t2, .int x3 t3] })] ∧ r = .ref a ∧ (x1, x2, x3) = followSpan y) c.g) (.ret (.ref a)) m [(a, ({ cls := .type "tuple", data := .seq [Value.int x1 t1, .int x2 t2, .int x3 t3].toArray } : Obj))] :=
    fun x1 x2 x3 t1 t2 t3 a m e => ⟨_, fun _ h => h, a, x1, x2, x3, t1, t2, t3, rfl, rfl, e⟩
  refine run_sound G (z_ok I glob_nil) 60 ?_
  walk_at "wGoD"
  · exact fin _ _ _ _ _ _ _ [] (fs1 (by assumption) (by assumption)).symm
  · refine Wx.mono (Q := fun r m N => ∃ tt, r = .int (if y = 224 then 160 else 128) tt ∧ m = [(Str.ofString "lead", .int y t)] ∧ N = []) ⟨fun s u R F' N' q => ?_⟩ ?_
    · have X' := G.X
      have T' := G.T
      clear fin
      obtain ⟨prog, w', K, p, loose, mean, mg, mb, dp, un, gd, cn, cs, a, ccd, cl, outer, A₀, base, g, L'⟩ := c
      obtain ⟨i1, i2, i3, i4⟩ := I
      dsimp only at i1 i2 i3 i4
      subst i1 i2 i3 i4
      change (hd.heap_39 _).In g at X'
      change Top p loose mean mg mb g at T'
      change Fr g L' s.heap (kstB u [(Str.ofString "lead", .int y t)]) at F'
      change News g L' s.heap [] at N'
      dsimp only [kstB] at F'
      show wpAny (model PySem.Challenge.rw_or0048_01.row.prog w') (ktrTop _ _ _ _ _ _ _ _ _ _) _ R NoE s
      walk_at "mGo"
      · exact q _ _ _ u [(Str.ofString "lead", .int y t)] [] (by assumption) (fun _ h => nomatch h) ⟨_, congrArg (fun z => Value.int z _) (if_pos (by assumption)).symm, rfl, rfl⟩
      · exact q _ _ _ u [(Str.ofString "lead", .int y t)] [] (by assumption) (fun _ h => nomatch h) ⟨_, congrArg (fun z => Value.int z _) (if_neg (by assumption)).symm, rfl, rfl⟩
    rintro r m N ⟨tt, rfl, rfl, rfl⟩
    walk_at "wGoD"
    refine Wx.mono (Q := fun r m N => ∃ tt, r = .int (if y = 237 then 159 else 191) tt ∧ m = [(Str.ofString "lead", .int y t)] ∧ N = []) ⟨fun s u R F' N' q => ?_⟩ ?_
    · have X' := G.X
      have T' := G.T
      clear fin
      obtain ⟨prog, w', K, p, loose, mean, mg, mb, dp, un, gd, cn, cs, a, ccd, cl, outer, A₀, base, g, L'⟩ := c
      obtain ⟨i1, i2, i3, i4⟩ := I
      dsimp only at i1 i2 i3 i4
      subst i1 i2 i3 i4
      change (hd.heap_39 _).In g at X'
      change Top p loose mean mg mb g at T'
      change Fr g L' s.heap (kstB u [(Str.ofString "lead", .int y t)]) at F'
      change News g L' s.heap [] at N'
      dsimp only [kstB] at F'
      show wpAny (model PySem.Challenge.rw_or0048_01.row.prog w') (ktrTop _ _ _ _ _ _ _ _ _ _) _ R NoE s
      walk_at "mGo"
      · exact q _ _ _ u [(Str.ofString "lead", .int y t)] [] (by assumption) (fun _ h => nomatch h) ⟨_, congrArg (fun z => Value.int z _) (if_pos (by assumption)).symm, rfl, rfl⟩
      · exact q _ _ _ u [(Str.ofString "lead", .int y t)] [] (by assumption) (fun _ h => nomatch h) ⟨_, congrArg (fun z => Value.int z _) (if_neg (by assumption)).symm, rfl, rfl⟩
    rintro r m N ⟨tt, rfl, rfl, rfl⟩
    walk_at "wGoD"
    exact fin _ _ _ _ _ _ _ [] (fs2 (by assumption) (by assumption)).symm
  · refine Wx.mono (Q := fun r m N => ∃ tt, r = .int (if y = 240 then 144 else 128) tt ∧ m = [(Str.ofString "lead", .int y t)] ∧ N = []) ⟨fun s u R F' N' q => ?_⟩ ?_
    · have X' := G.X
      have T' := G.T
      clear fin
      obtain ⟨prog, w', K, p, loose, mean, mg, mb, dp, un, gd, cn, cs, a, ccd, cl, outer, A₀, base, g, L'⟩ := c
      obtain ⟨i1, i2, i3, i4⟩ := I
      dsimp only at i1 i2 i3 i4
      subst i1 i2 i3 i4
      change (hd.heap_39 _).In g at X'
      change Top p loose mean mg mb g at T'
      change Fr g L' s.heap (kstB u [(Str.ofString "lead", .int y t)]) at F'
      change News g L' s.heap [] at N'
      dsimp only [kstB] at F'
      show wpAny (model PySem.Challenge.rw_or0048_01.row.prog w') (ktrTop _ _ _ _ _ _ _ _ _ _) _ R NoE s
      walk_at "mGo"
      · exact q _ _ _ u [(Str.ofString "lead", .int y t)] [] (by assumption) (fun _ h => nomatch h) ⟨_, congrArg (fun z => Value.int z _) (if_pos (by assumption)).symm, rfl, rfl⟩
      · exact q _ _ _ u [(Str.ofString "lead", .int y t)] [] (by assumption) (fun _ h => nomatch h) ⟨_, congrArg (fun z => Value.int z _) (if_neg (by assumption)).symm, rfl, rfl⟩
    rintro r m N ⟨tt, rfl, rfl, rfl⟩
    walk_at "wGoD"
    refine Wx.mono (Q := fun r m N => ∃ tt, r = .int (if y = 244 then 143 else 191) tt ∧ m = [(Str.ofString "lead", .int y t)] ∧ N = []) ⟨fun s u R F' N' q => ?_⟩ ?_
    · have X' := G.X
      have T' := G.T
      clear fin
      obtain ⟨prog, w', K, p, loose, mean, mg, mb, dp, un, gd, cn, cs, a, ccd, cl, outer, A₀, base, g, L'⟩ := c
      obtain ⟨i1, i2, i3, i4⟩ := I
      dsimp only at i1 i2 i3 i4
      subst i1 i2 i3 i4
      change (hd.heap_39 _).In g at X'
      change Top p loose mean mg mb g at T'
      change Fr g L' s.heap (kstB u [(Str.ofString "lead", .int y t)]) at F'
      change News g L' s.heap [] at N'
      dsimp only [kstB] at F'
      show wpAny (model PySem.Challenge.rw_or0048_01.row.prog w') (ktrTop _ _ _ _ _ _ _ _ _ _) _ R NoE s
      walk_at "mGo"
      · exact q _ _ _ u [(Str.ofString "lead", .int y t)] [] (by assumption) (fun _ h => nomatch h) ⟨_, congrArg (fun z => Value.int z _) (if_pos (by assumption)).symm, rfl, rfl⟩
      · exact q _ _ _ u [(Str.ofString "lead", .int y t)] [] (by assumption) (fun _ h => nomatch h) ⟨_, congrArg (fun z => Value.int z _) (if_neg (by assumption)).symm, rfl, rfl⟩
    rintro r m N ⟨tt, rfl, rfl, rfl⟩
    walk_at "wGoD"
    exact fin _ _ _ _ _ _ _ [] (fs3 (by assumption) (by assumption)).symm
  all_goals exact fin _ _ _ _ _ _ _ [] (fs4 (by first | exact .inl (by assumption) | exact .inr (by assumption))).symm
abbrev OutPair (q : Int × Int) : Heap → List (Addr × Obj) → Value → Prop := fun _ tl r => ∃ (a : Addr) (x y : Int) (t1 t2 : Tok), tl = [(a, { cls := .type "tuple", data := .seq #[.int x t1, .int y t2] })] ∧ r = .ref a ∧ (x, y) = q
def utf8Go (ks : List Int) (i : Int) : Nat → Int → Int → Int → Int → Int × Int
  | 0, place, code, _, _ => (code, place)
  | n + 1, place, code, lo, hi => if i + place ≥ ks.length ∨ ¬ (lo ≤ ks.getD (i + place).toNat 0 ∧ ks.getD (i + place).toNat 0 ≤ hi) then (-1, place) else utf8Go ks i n (place + 1) (code * 64 + ks.getD (i + place).toNat 0 % 64) 128 191
def utf8At (ks : List Int) (i : Int) : Int × Int :=
  if ks.getD i.toNat 0 < 128 then (ks.getD i.toNat 0, 1) else
  if (followSpan (ks.getD i.toNat 0)).2.2 = 0 then (-1, 1) else
  utf8Go ks i (followSpan (ks.getD i.toNat 0)).2.2.toNat 1 (ks.getD i.toNat 0 % (64 / 2 ^ (followSpan (ks.getD i.toNat 0)).2.2.toNat)) (followSpan (ks.getD i.toNat 0)).1 (followSpan (ks.getD i.toNat 0)).2.1
theorem utf8At_n {ks : List Int} {i lo hi n : Int} (h128 : ¬ ks.getD i.toNat 0 < 128) (hc : followSpan (ks.getD i.toNat 0) = (lo, hi, n)) (hn : n ≠ 0) :
    utf8At ks i = utf8Go ks i n.toNat 1 (ks.getD i.toNat 0 % (64 / 2 ^ n.toNat)) lo hi := by
  unfold utf8At
  rw [if_neg h128, hc, if_neg hn]
theorem go_hit {ks : List Int} {i p code lo hi : Int} {n : Nat} (h : i + p ≥ ks.length ∨ ¬ (lo ≤ ks.getD (i + p).toNat 0 ∧ ks.getD (i + p).toNat 0 ≤ hi)) : utf8Go ks i (n + 1) p code lo hi = (-1, p) := if_pos h
theorem go_on {ks : List Int} {i p code lo hi : Int} {n : Nat} (h1 : ¬ i + p ≥ ks.length) (h2 : lo ≤ ks.getD (i + p).toNat 0) (h3 : ks.getD (i + p).toNat 0 ≤ hi) : utf8Go ks i (n + 1) p code lo hi = utf8Go ks i n (p + 1) (code * 64 + ks.getD (i + p).toNat 0 % 64) 128 191 :=
  if_neg fun h => h.elim h1 fun h => h ⟨h2, h3⟩
theorem span_cnt {c x y z : Int} (h : (x, y, z) = followSpan c) : z = 0 ∨ z = 1 ∨ z = 2 ∨ z = 3 := by
  have e : z = (followSpan c).2.2 := by rw [← h]
  rw [e]
  unfold followSpan
  (repeat' split) <;> simp
theorem shr_pos {z : Int} (h : z = 0 ∨ z = 1 ∨ z = 2 ∨ z = 3) : 0 < (64 : Int) / 2 ^ z.toNat := by
  rcases h with rfl | rfl | rfl | rfl <;> decide
theorem c_utf8 (w : World) (b : Array UInt8) (t : Tok) (i : Int) (u : Tok) (ks : List Int) (hb : KBw.bInts b = ks) (hn : ks.length ≤ 4096) (h0 : 0 ≤ i) (h1 : i < ks.length) : PureC PySem.Challenge.rw_or0048_01.row.prog w (hd.heap_39 w.params) 126 2 [.bytes b t, .int i u] (fun _ => True) (OutPair (utf8At ks i)) := by
  k_fill
  refine' pure_wx [(Str.ofString "octets", .bytes b t), (Str.ofString "at", .int i u)] ?k6 ?k7 ?k9 ?kB ?c2 ?c3 ?c4 ?c5 ?c6 ?_
  walk_at "wOpen"
  intro c I G hpre
  have hg := z_ok I (glob_cons (x := Str.ofString "follower_span") (v := .ref 119) I G rfl (by k_is) (glob_consB (x := Str.ofString "len") (v := .builtin "len") I G rfl (by k_is) (by boot_fast) (by decide) (glob_consB (x := Str.ofString "range") (v := .type "range") I G rfl (by k_is) (by boot_fast) (by decide) glob_nil)))
  have hn' : ks.length ≤ 16777216 := by omega
  have fin : ∀ (x y : Int) (t1 t2 : Tok) (a : Addr) (m : Loc) (N : Led), (x, y) = utf8At ks i → Qend (OutPair (utf8At ks i) c.g) (.ret (.ref a)) m ((a, ({ cls := .type "tuple", data := .seq [Value.int x t1, .int y t2].toArray } : Obj)) :: N) :=
    fun x y t1 t2 a m N e => ⟨[_], fun p hp => by rw [List.mem_singleton.mp hp]; exact .head _, a, x, y, t1, t2, rfl, rfl, e⟩
  refine run_sound G hg 200 ?_
  walk_at "wGo"
  refine wx_item hn' hb h0 h1 ?_
  walk_at "wGo"
  · exact fin _ _ _ _ _ [] _ (if_pos (by assumption)).symm
  rename_i h128
  refine wx_unpack3 G hg 60 rfl rfl rfl ?_ rfl rfl
  walk_at "wGo"
  refine wx_call I G (c_follow w _ _) (by decide) (fun _ _ _ _ => trivial) ?_
  rintro hp r tl ne ⟨a, x, y, z, t1, t2, t3, rfl, rfl, e⟩
  refine ⟨a, _, _, _, _, rfl, .head _, ?_⟩
  have hz := span_cnt e
  walk_at "wGo"
  · rename (z = 0) => h
    refine fin _ _ _ _ _ [] _ ?_
    unfold utf8At
    rw [if_neg h128, ← e, if_pos h]
  rename (¬ z = 0) => hz0
  have e0 := utf8At_n h128 e.symm hz0
  refine ⟨by rcases hz with rfl | rfl | rfl | rfl <;> decide, ?_⟩
  walk_at "wGo"
  refine ⟨shr_pos hz, ?_⟩
  intro tcode
  walk_at "wGo"
  refine wx_forR (σ := (Int × Tok) × (Int × Tok) × (Int × Tok)) G hg 80 1 (z + 1) 1 z.toNat rfl (by rcases hz with rfl | rfl | rfl | rfl <;> decide) (by rcases hz with rfl | rfl | rfl | rfl <;> decide) (fun _ => rfl)
    (fun c => [(Str.ofString "octets", .bytes b t), (Str.ofString "at", .int i u), (Str.ofString "count", .int z t3), (Str.ofString "code", .int c.1.1 c.1.2), (Str.ofString "least", .int c.2.1.1 c.2.1.2), (Str.ofString "most", .int c.2.2.1 c.2.2.2)]) (fun _ => []) [] (fun _ => rfl)
    (fun j c => utf8Go ks i (z.toNat - j) (1 + (j : Int) * 1) c.1.1 c.2.1.1 c.2.2.1 = utf8At ks i) ((_, tcode), (x, t1), (y, t2)) e0.symm ?_ ?_ ?_
  · walk_at "wGo"
    refine wx_range2 ?_
    intro r tr ur vr hr
    refine ⟨r, _, _, _, rfl, .head _, nil_mem, ?_⟩
    repeat (first | exact nil_mem | refine List.forall_mem_cons.mpr ⟨rfl, ?_⟩)
  · rintro j tj ⟨⟨code, tc⟩, ⟨lo, tl⟩, hi, th⟩ It oI hj hP hI
    dsimp only at hP
    obtain ⟨d, hd⟩ : ∃ d, z.toNat - j = d + 1 := ⟨z.toNat - j - 1, by omega⟩
    rw [hd] at hP
    walk_at "wGo"
    refine wx_len hn' hb ?_
    walk_at "wGo"
    · rename_i hge _ _ _
      refine fin _ _ _ _ _ [] _ ?_
      rw [← hP]
      exact (go_hit (.inl (by assumption))).symm
    rename_i hlt _
    have hk1 : 0 ≤ i + (1 + (j : Int) * 1) := by omega
    refine wx_item hn' hb hk1 (by omega) ?_
    walk_at "wGo"
    · rename_i h1 _ h2
      refine wx_item hn' hb hk1 (by omega) ?_
      walk_at "wGo"
      refine wx_unpack2 G hg 60 rfl rfl ?_ rfl (sw_env I.s rfl)
      walk_at "wGo"
      refine ⟨_, _, _, _, rfl, .head _, ?_⟩
      walk_at "wGo"
      rename_i tA tB tC aa ha
      refine ⟨((code * 64 + ks.getD (i + (1 + (j : Int) * 1)).toNat 0 % 64, tA), (128, tB), 191, tC), fun p hp => .tail _ hp, ?_, ?_⟩
      · repeat (first | exact nil_mem | refine List.forall_mem_cons.mpr ⟨rfl, ?_⟩)
      · dsimp only
        rw [← hP, go_on (by assumption) (by assumption) (by assumption), show z.toNat - (j + 1) = d by omega, show (1 : Int) + ((j + 1 : Nat) : Int) * 1 = 1 + (j : Int) * 1 + 1 by omega]
    · refine fin _ _ _ _ _ [] _ ?_
      rw [← hP]
      exact (go_hit (.inr fun q => (by assumption : ¬ _) q.2)).symm
    · refine fin _ _ _ _ _ [] _ ?_
      rw [← hP]
      exact (go_hit (.inr fun q => (by assumption : ¬ _) q.1)).symm
  · rintro ⟨⟨code, tc⟩, ⟨lo, tl⟩, hi, th⟩ hP
    dsimp only at hP
    rw [Nat.sub_self] at hP
    walk_at "wGo"
    refine fin _ _ _ _ _ [] _ ?_
    rw [← hP]
    show _ = (code, _)
    rw [Int.mul_one, Int.toNat_of_nonneg (by omega), Int.add_comm]
end
section
theorem c_need (w : World) (x : Str) (t : Tok) (hx : x ∈ charsetsL) : PureC PySem.Challenge.rw_or0048_01.row.prog w (hd.heap_39 w.params) 112 1 [.str x t] (fun _ => True) (fun _ tl r => tl = [] ∧ r = .none) := by
  walk_at "mOpen"
  intro p loose mean mg mb g L' dp un gd outer A₀ base h₁ s R B' X' T' hpre hd hu F' N' hret
  change Fr g L' h₁ (fun y => List.lookup y [(Str.ofString "charset", Value.str x t)]) at F'
  have W' : IsTup g 91 _ := tupK X' (by k_dflt k_is)
  have hx' : ([Str.ofString "us-ascii", Str.ofString "iso-8859-1", Str.ofString "utf-8"].any fun x_1 => x_1 == x) = true := by
    rw [List.any_eq_true]
    exact ⟨x, hx, by simp⟩
  walk_at "mGo"
  all_goals exact hret _ [] _ _ _ _ (by assumption) (by assumption) (by intro _ h; cases h) ⟨rfl, rfl⟩
end
section
/-- a comprehension whose element is a fresh pair of ints; one cell at the ledger's head -/
theorem kc_pairs {prog : Program} {w : World} {A : Around} {h₀ : Heap} {L : Addr} {m : Str → Option Value} {env : Env} {elt : Expr} {x : Str} {scope : Scope} {cl : List (Str × Addr)} {s : Shared} {P : Nat → Value → Prop} {Fin : List Value → List (Addr × Obj) → Prop} {cell : Addr × Obj} {n : Nat} (prs : List (Int × Int)) (hpl : prs.length = n)
    (turn : ∀ i v p I oI C oC D m₂ ys (tups : List (Addr × Obj)) h tk (E' : Value → Shared → Prop), i < n → prs[i]? = some p → P i v → LCg.NsObj oC m₂ → m₂ x = some v → Fr h₀ L h m → News h₀ L h ((I, oI) :: (C, oC) :: (D, LCg.lst ys) :: cell :: tups) → LCg.Off3 I C D (cell :: tups) → ((@Ne Nat I C) ∧ (@Ne Nat I D) ∧ (@Ne Nat C D)) →
      wpAny (model prog w) A (eval elt (compEnvC scope cl C env)) (LCg.CompEnd h₀ L m { s with heap := h, toks := tk } I oI C oC D (LCg.lst ys) (fun _ => True) (fun y news' => ∃ (a : Addr) (t u : Tok), y = .ref a ∧ news' = (a, ({ cls := .type "tuple", data := .seq #[.int p.1 t, .int p.2 u] } : Obj)) :: cell :: tups)) E' { s with heap := h, toks := tk })
    (fin : ∀ ys tups, ys.length = prs.length → (∀ (j : Nat) (v : Value) (p : Int × Int), ys[j]? = some v → prs[j]? = some p → ∃ (a : Addr) (t u : Tok), v = .ref a ∧ (a, ({ cls := .type "tuple", data := .seq #[.int p.1 t, .int p.2 u] } : Obj)) ∈ tups) → Fin ys (cell :: tups)) :
    LCg.CompRest prog w A h₀ L m env elt x scope cl s (fun _ => True) P Fin n 0 [] [cell] := by
  have key : ∀ (j i : Nat) (ys : List Value) (tups : List (Addr × Obj)), i + j = n → ys.length = i → (∀ (j : Nat) (v : Value) (p : Int × Int), ys[j]? = some v → prs[j]? = some p → ∃ (a : Addr) (t u : Tok), v = .ref a ∧ (a, ({ cls := .type "tuple", data := .seq #[.int p.1 t, .int p.2 u] } : Obj)) ∈ tups) → LCg.CompRest prog w A h₀ L m env elt x scope cl s (fun _ => True) P Fin j i ys (cell :: tups) := by
    intro j
    induction j with
    | zero =>
      intro i ys tups hi hl hy
      exact LCg.CompRest.zero (fin ys tups (by omega) hy)
    | succ j ih =>
      intro i ys tups hi hl hy
      refine LCg.CompRest.succ ?_
      intro v I oI C oC D m₂ h tk E' hv hC hx F N off ne
      have hp : prs[i]? = some (prs[i]'(by omega)) := List.getElem?_eq_getElem (by omega)
      refine wpAny_mono (turn i v _ I oI C oC D m₂ ys tups h tk E' (by omega) hp hv hC hx F N off ne) (fun y s₂ hq => ?_) fun _ _ e => e
      obtain ⟨h', tk', nw, e, F', N', off', hS, a, t, u, hy', hn⟩ := hq
      subst hn
      subst hy'
      refine ⟨h', tk', cell :: (a, _) :: tups, e, F', fun q hq => N' q ?_, ⟨off'.2.1, off'.1, off'.2.2⟩, trivial, ?_⟩
      · simp only [List.mem_cons] at hq ⊢
        rcases hq with h | h | h | h | h | h
        · exact .inl h
        · exact .inr (.inl h)
        · exact .inr (.inr (.inl h))
        · exact .inr (.inr (.inr (.inr (.inl h))))
        · exact .inr (.inr (.inr (.inl h)))
        · exact .inr (.inr (.inr (.inr (.inr h))))
      · refine ih (i + 1) _ _ (by omega) (by simp [hl]) ?_
        intro k v' p' h1 h2
        by_cases hk : k < ys.length
        · rw [List.getElem?_append_left hk] at h1
          obtain ⟨a', t', u', e1, e2⟩ := hy k v' p' h1 h2
          exact ⟨a', t', u', e1, .tail _ e2⟩
        · rw [List.getElem?_append_right (by omega)] at h1
          have hk0 : k - ys.length = 0 := by
            have := (List.getElem?_eq_some_iff.1 h1).1
            simp at this
            omega
          rw [hk0] at h1
          have hki : k = i := by omega
          subst hki
          rw [hp] at h2
          cases h2
          cases h1
          exact ⟨a, t, u, rfl, .head _⟩
  exact key n 0 [] [] (by omega) rfl (fun j v p h => nomatch h)
def wPrs (ks : List Int) : List (Int × Int) := ks.zipIdx.map fun p => (p.1, (p.2 : Int))
theorem size_n {n : Nat} : Builtin.Range.rangeSize 0 (n : Int) 1 = (n : Int) := by
  unfold Builtin.Range.rangeSize
  rw [if_pos (by decide)]
  split <;> omega
theorem small_n {n : Nat} (h : n ≤ 4096) : Builtin.Range.small 0 (n : Int) 1 = true := by
  unfold Builtin.Range.small
  rw [size_n]
  have fl : ∀ x : Int, 0 ≤ x → x ≤ 4096 → Builtin.Range.rangeFitsLong x = true := by
    intro x h0 h1
    unfold Builtin.Range.rangeFitsLong
    simp only [Bool.and_eq_true, decide_eq_true_eq]
    omega
  rw [if_pos (by decide), fl 0 (by decide) (by decide), fl 1 (by decide) (by decide), fl n (by omega) (by omega), fl (n + (1 - 1)) (by omega) (by omega)]
  simp
theorem reorder4 {q a b c d : Addr × Obj} {r : List (Addr × Obj)} (h : q ∈ a :: b :: c :: d :: r) : q ∈ d :: a :: b :: c :: r := by
  simp only [List.mem_cons] at h ⊢
  rcases h with h | h | h | h | h
  · exact .inr (.inl h)
  · exact .inr (.inr (.inl h))
  · exact .inr (.inr (.inr (.inl h)))
  · exact .inl h
  · exact .inr (.inr (.inr (.inr h)))
theorem wPrs_get {ks : List Int} {i : Nat} {p : Int × Int} (h : (wPrs ks)[i]? = some p) : p.1 = ks.getD i 0 ∧ p.2 = i ∧ i < ks.length := by
  unfold wPrs at h
  rw [List.getElem?_map, List.getElem?_zipIdx] at h
  cases hk : ks[i]? with
  | none => rw [hk] at h; simp at h
  | some k =>
    rw [hk] at h
    have := (List.getElem?_eq_some_iff.1 hk).1
    simp at h
    subst h
    refine ⟨?_, rfl, this⟩
    rw [List.getD_eq_getElem?_getD, hk]
    rfl
theorem wPrs_len (ks : List Int) : (wPrs ks).length = ks.length := by simp [wPrs]
theorem vals_find : ∀ {kvs : List (Int × Value)} {prs : List (Int × Int)}, ValsAre kvs prs → ∀ c, match prs.lookup c with | none => valueAt kvs c = none | some n => ∃ t, valueAt kvs c = some (.int n t)
  | [], [], _, c => rfl
  | (k, v) :: r, (k', n) :: q, h, c => by
    obtain ⟨h1, ⟨t, h2⟩, h3⟩ := h
    have ih := vals_find h3 c
    dsimp only at h1 h2
    subst h1
    subst h2
    rw [List.lookup_cons]
    by_cases hc : c = k
    · subst hc
      rw [beq_self_eq_true]
      refine ⟨t, ?_⟩
      simp [valueAt]
    · have e : (c == k) = false := by simpa using hc
      rw [e]
      dsimp only
      have e2 : valueAt ((k, Value.int n t) :: r) c = valueAt r c := by
        simp [valueAt, Ne.symm hc]
      rw [e2]
      exact ih
theorem vals_keys : ∀ {kvs : List (Int × Value)} {prs : List (Int × Int)}, ValsAre kvs prs → kvs.map (·.1) = prs.map (·.1)
  | [], [], _ => rfl
  | (k, v) :: r, (k', n) :: q, h => by
    rw [List.map_cons, List.map_cons, vals_keys h.2.2, h.1]
def signsL : List Int := [65, 66, 67, 68, 69, 70, 71, 72, 73, 74, 75, 76, 77, 78, 79, 80, 81, 82, 83, 84, 85, 86, 87, 88, 89, 90, 97, 98, 99, 100, 101, 102, 103, 104, 105, 106, 107, 108, 109, 110, 111, 112, 113, 114, 115, 116, 117, 118, 119, 120, 121, 122, 48, 49, 50, 51, 52, 53, 54, 55, 56, 57, 43, 47]
def worthOf (c : Int) : Option Int := (wPrs signsL).lookup c
theorem worthOf_bd {c n : Int} (h : worthOf c = some n) : 0 ≤ n ∧ n < 64 := by
  have key : ∀ (l : List (Int × Int)), (∀ p ∈ l, 0 ≤ p.2 ∧ p.2 < 64) → l.lookup c = some n → 0 ≤ n ∧ n < 64 := by
    intro l
    induction l with
    | nil => intro _ h; cases h
    | cons p r ih =>
      intro hp hl
      rw [List.lookup_cons] at hl
      split at hl
      · cases hl; exact hp p (.head _)
      · exact ih (fun q hq => hp q (.tail _ hq)) hl
  exact key _ (by decide) h
abbrev OutTab (w : World) : Heap → List (Addr × Obj) → Value → Prop := fun _ tl r => ∃ (a : Addr) (o : Obj) (kvs : List (Int × Value)), r = .ref a ∧ tl = [(a, o)] ∧ o.IsDictOf (intKind PySem.Challenge.rw_or0048_01.row.prog w) kvs ∧ (∀ c, match worthOf c with | none => valueAt kvs c = none | some n => ∃ t, valueAt kvs c = some (.int n t)) ∧ (a == sysModules) = false
theorem c_worth (w : World) (b : Array UInt8) (t : Tok) (ks : List Int) (hb : KBw.bInts b = ks) (hn : ks.length ≤ 64) (hks : ks = signsL) : PureC PySem.Challenge.rw_or0048_01.row.prog w (hd.heap_39 w.params) 26 3 [.bytes b t] (fun _ => True) (OutTab w) := by
  walk_at "mOpenC"
  intro p loose mean mg mb g L' dp un gd outer A₀ base h₁ tk cells s R B' X' T' hpre hd hu F' N' Y' hret
  obtain ⟨o1, hE, d1⟩ := CellsAre.one Y'
  subst hE
  change o1.data = Data.cell (some (Value.bytes b t)) at d1
  change Fr g L' h₁ (fun y => none) at F'
  walk_at "mGoU"
  refine LCg.ListComp_U (F₀ := by k_asm) (by with_unfolding_all rfl) (by decide) (by rfl) (by decide) (by rfl) ?_
  walk_at "mGoU"
  refine LCg.CompSrc.range (n := ks.length) (by rfl) (by k_asm) (by k_asm) (by assumption) (small_n (by omega)) size_n (by rw [sizeLine_eq]; omega) ?_
  intro g1
  refine kc_pairs (wPrs ks) (wPrs_len ks) (fun i' v' p' I' oI' C' oC' D' m' ys' tups' h' tk' E' hi' hp' hv' hC' hx' F' N' off' ne' => ?_) ?_
  · obtain ⟨t9', hv9'⟩ := hv'
    subst hv9'
    obtain ⟨q1, q2, q3⟩ := wPrs_get hp'
    simp only [LCg.Off3] at off'
    walk_at "mGoU"
    rename Fr _ _ _ _ => FE
    rename News _ _ _ _ => NE
    rename_i l9
    have e0 : (0 + (i' : Int)).toNat = i' := by omega
    have e1 : (0 + (i' : Int)) = i' := by omega
    rw [e0, e1, ← q1, ← q2] at NE
    exact LCg.CompEnd.intro FE NE _ (fun q hq => reorder4 hq) ⟨⟨Ne.symm (Nat.ne_of_lt l9.1), Ne.symm (Nat.ne_of_lt l9.2.1), Ne.symm (Nat.ne_of_lt l9.2.2.1)⟩, off'⟩ trivial ⟨_, _, _, rfl, rfl⟩
  · intro ys tups hl hy
    walk_at "mGoU"
    rename Fr _ _ _ _ => FE
    rename News _ _ _ _ => NE
    refine dict_pairs (k := ys.length) (sl := #[]) (prs := wPrs ks) (vs := ys) rfl (NE _ (.head _)).1 ⟨hl, fun j v p h1 h2 => ?_⟩ (by rw [wPrs_len]; omega) ?_
    · obtain ⟨a, t, u, e, hm⟩ := hy j v p h1 h2
      exact ⟨a, t, u, e, _, (NE _ (.tail _ (.tail _ hm))).1, rfl, _, rfl⟩
    · intro h8 k8 kvs hv hd8 hk8
      rw [merged_nil_of_nodup kvs (by rw [vals_keys hv, hks]; decide)] at hd8
      have F8 := FE.keptAll hk8
      have N8 := NE.grown hk8
      obtain ⟨o, ho, hio⟩ := Heap.dictOf_iff.1 hd8
      refine hret _ [(_, o)] _ _ _ [(_, o)] F8 (fun q hq => ?_) (fun q hq => hq) ⟨_, o, kvs, rfl, rfl, hio, fun c => by have := vals_find hv c; rw [hks] at this; exact this, FE.notModules (modules_low T'.nolimit)⟩
      rw [List.mem_singleton.mp hq]
      have sz : ∀ b o', g.get? b = some o' → b < _ := fun b o' e => Heap.lt_size (FE.keep b o' e)
      have szL := FE.ns.lt
      refine ⟨ho, fun e => absurd szL (e ▸ Nat.lt_irrefl _), ?_⟩
      cases e : g.get? _ with
      | none => rfl
      | some o' => exact absurd (sz _ _ e) (Nat.lt_irrefl _)
end
section
theorem look1 (a : Str) (v : Value) : (fun y => if y = a then some v else none) = fun y => List.lookup y [(a, v)] := by
  funext y
  rw [List.lookup_cons]
  by_cases h : y = a
  · subst h; simp
  · have e : (y == a) = false := by simpa using h
    rw [if_neg h, e]
    rfl
theorem ints_get {vs : List Value} {ns : List Int} (h : IntsAre vs ns) {i : Nat} {v : Value} (hv : vs[i]? = some v) : ∃ n t, ns[i]? = some n ∧ v = .int n t := by
  induction h generalizing i with
  | nil => simp at hv
  | cons n t r ih =>
    cases i with
    | zero => simp at hv; exact ⟨n, t, rfl, hv.symm⟩
    | succ i => exact ih (by simpa using hv)
theorem small_d {n : Nat} (h1 : 2 ≤ n) (h2 : n ≤ 4) : Builtin.Range.small ((n : Int) - 1 - 1) (-1) (-1) = true := by
  rcases (by omega : n = 2 ∨ n = 3 ∨ n = 4) with e | e | e <;> (subst e; decide)
theorem size_d {n : Nat} (h1 : 2 ≤ n) (h2 : n ≤ 4) : Builtin.Range.rangeSize ((n : Int) - 1 - 1) (-1) (-1) = ((n - 1 : Nat) : Int) := by
  rcases (by omega : n = 2 ∨ n = 3 ∨ n = 4) with e | e | e <;> (subst e; decide)
def placesL (n : Nat) : List Int := (List.range (n - 1)).map fun (i : Nat) => (n : Int) - 2 - (i : Int)
def totalL (ns : List Int) : Int := ns.foldl (fun t n => 64 * t + n) 0
def wholeL (ns : List Int) : Int := (totalL ns).fdiv (2 ^ (6 * (ns.length : Int) - 8 * ((ns.length : Int) - 1)).toNat)
def octetL (ns : List Int) (k : Int) : Int := Builtin.bitAnd ((wholeL ns).fdiv (2 ^ (8 * k).toNat)) 255
def groupL (ns : List Int) : List Int := (placesL ns.length).map (octetL ns)
theorem group_in (ns : List Int) : KBa.In (groupL ns) := by
  intro n hn
  obtain ⟨k, _, e⟩ := List.mem_map.1 hn
  unfold octetL at e
  rw [bitAnd_m8] at e
  omega
theorem group_len (ns : List Int) : (groupL ns).length = ns.length - 1 := by simp [groupL, placesL]
abbrev OutGroup (ns : List Int) : Heap → List (Addr × Obj) → Value → Prop := fun _ tl r => ∃ (a : Addr) (b : Array UInt8) (x : Int) (t u : Tok), r = .ref a ∧ tl = [(a, ({ cls := .type "tuple", data := .seq #[.bytes b t, .int x u] } : Obj))] ∧ KBw.bInts b = groupL ns
theorem c_group (w : World) (l : Addr) (vs : List Value) (ns : List Int) (hI : IntsAre vs ns) (hl1 : 2 ≤ ns.length) (hl2 : ns.length ≤ 4) (hb : ∀ n ∈ ns, 0 ≤ n ∧ n < 64) : PureC PySem.Challenge.rw_or0048_01.row.prog w (hd.heap_39 w.params) 31 3 [.ref l] (fun g => g.IsList l vs.toArray) (OutGroup ns) := by
  walk_at "mOpenC"
  intro p loose mean mg mb g L' dp un gd outer A₀ base h₁ tk cells s R B' X' T' hpre hd hu F' N' Y' hret
  obtain ⟨o1, hE, d1⟩ := CellsAre.one Y'
  clear Y'
  subst hE
  change o1.data = Data.cell none at d1
  change Fr g L' h₁ (fun y => if y = Str.ofString "worth_row" then some (Value.ref l) else none) at F'
  rw [look1] at F'
  walk_at "mGo"
  walk_at "mFor"
  walk_at "mGo"
  rename Fr _ _ _ _ => FA
  rename News _ _ _ _ => NA
  refine for_list (σ := Int × Tok) (fun c => [(L' + 1, o1)]) [L' + 1] (fun c => [(Str.ofString "worth_row", Value.ref l), (Str.ofString "total", .int c.1 c.2)]) (fun i c => c.1 = totalL (ns.take i) ∧ 0 ≤ c.1 ∧ c.1 < 64 ^ i) (0, _) rfl hpre (fun _ => rfl) FA NA (fun p hp => hp) (by kst_all) ⟨rfl, Int.le_refl _, Int.zero_lt_one⟩ ?_ ?_
  · rintro I' i' v' ⟨tot, tt⟩ u' h' tk' oI' hv' ⟨hc1, hc2, hc3⟩ hoff' F' N'
    dsimp only at hc1 hc2 hc3 F' N' ⊢
    obtain ⟨nn, tn, hn1, hn2⟩ := ints_get hI hv'
    subst hn2
    have hbn := hb nn (List.mem_of_getElem? hn1)
    have hil : i' < 4 := by have := (List.getElem?_eq_some_iff.1 hn1).1; omega
    have hpow : (64 : Int) ^ i' ≤ 262144 := by
      rcases (by omega : i' = 0 ∨ i' = 1 ∨ i' = 2 ∨ i' = 3) with e | e | e | e <;> (subst e; decide)
    walk_at "mGo"
    rename News _ _ _ _ => NE
    rename Fr _ _ _ _ => FE
    refine mf_end (64 * tot + nn, _) FE NE (by lcg_sub) (by kst_all) ⟨?_, ?_, ?_⟩
    · dsimp only
      rw [List.take_add_one, hn1, hc1]
      simp [totalL, List.foldl_append]
    · dsimp only; omega
    · dsimp only
      rw [Int.pow_succ]
      omega
  · rintro ⟨tot, tt⟩ u' h' tk' ⟨hc1, hc2, hc3⟩ F' N'
    dsimp only at hc1 hc2 hc3 F' N' ⊢
    have hvl := hI.length
    rw [hvl] at hc1 hc3
    rw [List.take_length] at hc1
    have hpow : (64 : Int) ^ ns.length ≤ 16777216 := by
      rcases (by omega : ns.length = 2 ∨ ns.length = 3 ∨ ns.length = 4) with e | e | e <;> (rw [e]; decide)
    walk_at "mGo"
    refine ListComp_range (by assumption) (by with_unfolding_all rfl) (by decide) (by rfl) (by decide) (by rfl) ?_
    walk_at "mGo"
    refine ⟨_, _, _, _, _, _, _, ns.length - 1, _, rfl, rfl, by assumption, by assumption, by assumption, small_d hl1 hl2, size_d hl1 hl2, by rw [sizeLine_eq]; omega, ?_⟩
    rintro s₂ ⟨h₂, rfl⟩
    refine kcf_rest (ks := placesL ns.length) (octetL ns) (by simp [placesL]) (fun i v hi hv => by
      obtain ⟨u, rfl⟩ := hv
      refine ⟨_, u, ?_, rfl⟩
      rw [placesL, List.getElem?_map, List.getElem?_range hi]
      simp
      omega) (fun k' t' I' oI' C' oC' D' m' ys' h' tk' E' hk' hC' hx' F' N' off' ne' mk' => ?_) ?_
    · simp only [LCg.Off3, and_true] at off'
      have hk2 : 0 ≤ k' ∧ k' ≤ 2 := by
        obtain ⟨i, hi, e⟩ := List.mem_map.1 hk'
        have := List.mem_range.1 hi
        omega
      walk_at "mGo"
      subst hc1
      exact ⟨rfl, _, rfl⟩
    · intro ys hc
      have hIn : KBa.In ((placesL ns.length).map (octetL ns)) := group_in ns
      have hlm : ((placesL ns.length).map (octetL ns)).length ≤ 4096 := by have := group_len ns; unfold groupL at this; omega
      have hmk := KBa.ints_make hIn
      walk_at "mGo"
      rename News _ _ _ _ => NE
      exact hret _ [_] _ _ _ _ (by assumption) NE (by intro p hp; exact List.mem_of_mem_take (i := 1) hp) ⟨_, _, _, _, _, rfl, rfl, by assumption⟩
end
section
def wrow : List Int → List Int
  | [] => []
  | c :: r => if c = 61 then [] else match worthOf c with
    | none => wrow r
    | some n => n :: wrow r
theorem wrow_bd : ∀ (ks : List Int), ∀ n ∈ wrow ks, 0 ≤ n ∧ n < 64
  | [], n, h => nomatch h
  | c :: r, n, h => by
    unfold wrow at h
    split at h
    · cases h
    · split at h
      · exact wrow_bd r n h
      · rename_i hw
        rcases List.mem_cons.1 h with rfl | h
        · exact worthOf_bd hw
        · exact wrow_bd r n h
theorem wrow_len : ∀ (ks : List Int), (wrow ks).length ≤ ks.length
  | [] => Nat.le_refl _
  | c :: r => by
    have := wrow_len r
    unfold wrow
    split
    · simp
    · split <;> (simp only [List.length_cons]; omega)
theorem size_4 {n : Nat} : Builtin.Range.rangeSize 0 (n : Int) 4 = (((n + 3) / 4 : Nat) : Int) := by
  unfold Builtin.Range.rangeSize
  rw [if_pos (by decide)]
  split <;> omega
theorem small_4 {n : Nat} (h : n ≤ 4096) : Builtin.Range.small 0 (n : Int) 4 = true := by
  unfold Builtin.Range.small
  rw [size_4]
  have fl : ∀ x : Int, 0 ≤ x → x ≤ 8192 → Builtin.Range.rangeFitsLong x = true := by
    intro x h0 h1
    unfold Builtin.Range.rangeFitsLong
    simp only [Bool.and_eq_true, decide_eq_true_eq]
    omega
  rw [if_pos (by decide), fl 0 (by decide) (by decide), fl 4 (by decide) (by decide), fl n (by omega) (by omega), fl (n + (4 - 1)) (by omega) (by omega), fl _ (by omega) (by omega)]
  simp
def gsL (ns : List Int) (i : Nat) : List (List Int) := (List.range i).filterMap fun (j : Nat) => if (ns.length : Int) - 4 * (j : Int) > 1 then some (groupL ((ns.drop (4 * j)).take 4)) else none
theorem gsL_step (ns : List Int) (i : Nat) : gsL ns (i + 1) = gsL ns i ++ (if (ns.length : Int) - 4 * (i : Int) > 1 then [groupL ((ns.drop (4 * i)).take 4)] else []) := by
  unfold gsL
  rw [List.range_succ, List.filterMap_append]
  congr 1
  simp only [List.filterMap_cons, List.filterMap_nil]
  split <;> rename_i h <;> split at h <;> simp_all
theorem cut4 (ns : List Int) (i : Nat) : List.take (min (0 + (i : Int) * 4 + 4).toNat ns.length - (0 + (i : Int) * 4).toNat) (List.drop (0 + (i : Int) * 4).toNat ns) = (ns.drop (4 * i)).take 4 := by
  have e1 : (0 + (i : Int) * 4).toNat = 4 * i := by omega
  have e2 : (0 + (i : Int) * 4 + 4).toNat = 4 * i + 4 := by omega
  rw [e1, e2]
  rw [List.take_eq_take_iff, List.length_drop, ← Nat.sub_min_sub_right, Nat.add_sub_cancel_left, Nat.min_assoc, Nat.min_self]
theorem take4_len (ns : List Int) (i : Nat) : ((ns.drop (4 * i)).take 4).length = min 4 (ns.length - 4 * i) := by rw [List.length_take, List.length_drop]
theorem bytes_snoc {vs : List Value} {bs : List (Array UInt8)} (h : BJ.BytesAre vs bs) (b : Array UInt8) (t : Tok) : BJ.BytesAre (vs ++ [.bytes b t]) (bs ++ [b]) := by
  induction h with
  | nil => exact .cons b t .nil
  | cons b' t' _ ih => exact .cons b' t' ih
def decodedL (ks : List Int) : List Int := (gsL (wrow ks) (((wrow ks).length + 3) / 4)).flatten
theorem gsL_sum (ns : List Int) : ∀ i, ((gsL ns i).map List.length).sum ≤ 3 * i
  | 0 => Nat.le_refl _
  | i + 1 => by
    have ih := gsL_sum ns i
    rw [gsL_step, List.map_append, List.sum_append]
    have : ((if (ns.length : Int) - 4 * (i : Int) > 1 then [groupL ((ns.drop (4 * i)).take 4)] else []).map List.length).sum ≤ 3 := by
      split
      · have h1 := group_len ((ns.drop (4 * i)).take 4)
        have h2 := take4_len ns i
        simp only [List.map_cons, List.map_nil, List.sum_cons, List.sum_nil]
        omega
      · simp
    omega
theorem gsL_len (ns : List Int) (i : Nat) : (gsL ns i).length ≤ i := by
  have := List.length_filterMap_le (fun (j : Nat) => if (ns.length : Int) - 4 * (j : Int) > 1 then some (groupL ((ns.drop (4 * j)).take 4)) else none) (List.range i)
  rw [List.length_range] at this
  exact this
theorem bytes_small {bs : List (Array UInt8)} {ns : List Int} {i : Nat} (h : bs.map KBw.bInts = gsL ns i) (hi : i ≤ 8000) : (bs.map (·.size)).sum ≤ 65536 := by
  have e : bs.map (·.size) = (bs.map KBw.bInts).map List.length := by
    rw [List.map_map]
    refine List.map_congr_left fun b _ => ?_
    exact (KBw.ints_length (b := b)).symm
  rw [e, h]
  have := gsL_sum ns i
  omega
theorem decoded_len (ks : List Int) (hn : ks.length ≤ 1000) : (decodedL ks).length ≤ 4096 := by
  unfold decodedL
  rw [List.length_flatten]
  have h1 := gsL_sum (wrow ks) (((wrow ks).length + 3) / 4)
  have h2 := wrow_len ks
  omega
theorem mem2 {a b : Addr × Obj} {r : Led} : ∀ p ∈ [a, b], p ∈ a :: b :: r := List.forall_mem_cons.mpr ⟨.head _, List.forall_mem_cons.mpr ⟨.tail _ (.head _), nil_mem⟩⟩
theorem c_decoded (w : World) (b : Array UInt8) (t : Tok) (ks : List Int) (hb : KBw.bInts b = ks) (hn : ks.length ≤ 4096) : PureC PySem.Challenge.rw_or0048_01.row.prog w (hd.heap_39 w.params) 38 4 [.bytes b t] (fun _ => True) (OutBytes (decodedL ks)) := by
  k_fill
  refine' pure_wx [(Str.ofString "data", .bytes b t)] ?k6 ?k7 ?k9 ?kB ?c2 ?c3 ?c4 ?c5 ?c6 ?_
  walk_at "wOpen"
  intro c I G hpre
  have hg := z_ok I (glob_consB (x := Str.ofString "len") (v := .builtin "len") I G rfl (by k_is) (by boot_fast) (by decide) (glob_consB (x := Str.ofString "range") (v := .type "range") I G rfl (by k_is) (by boot_fast) (by decide) (glob_cons (x := Str.ofString "worth_table") (v := .ref 26) I G rfl (by k_is) (glob_cons (x := Str.ofString "group_octets") (v := .ref 31) I G rfl (by k_is) (glob_cons (x := Str.ofString "SIGNS") I G rfl (by k_is) (glob_cons (x := Str.ofString "PAD") I G rfl (by k_is) glob_nil))))))
  refine run_sound G hg 300 ?_
  walk_at "wGo"
  refine wx_call I G (c_worth w _ _ signsL (by decide +kernel) (by decide) rfl) (by decide) (fun _ _ _ _ => trivial) ?_
  rintro hp r tl ne ⟨dA, oA, kvs, rfl, rfl, hdT, hval, hlo⟩
  clear ne hp
  rw [← I.p, ← I.w] at hdT
  walk_at "wGo"
  rename_i lA hlA
  have neL : lA ≠ dA := Ne.symm (Nat.ne_of_lt (hlA _ (.head _)))
  refine wx_forB G hg 200 (σ := List Value × List Int × Nat) rfl (fun _ => rfl) (fun c => [(Str.ofString "data", .bytes b t), (Str.ofString "worths", .ref dA), (Str.ofString "worth_row", .ref lA)]) (fun c => [(lA, listOf c.1.toArray c.2.2), (dA, oA)]) [lA, dA] (fun _ => rfl)
    (fun i c => IntsAre c.1 c.2.1 ∧ c.2.1 ++ wrow (ks.drop i) = wrow ks ∧ c.2.1.length ≤ i) (fun c => IntsAre c.1 c.2.1 ∧ c.2.1 = wrow ks) ([], [], 0) ⟨.nil, rfl, Nat.le_refl _⟩ (fun c hc => ⟨hc.1, by have := hc.2.1; rw [List.drop_length] at this; simpa [wrow] using this⟩) ?_ ?_ ?_
  · walk_at "wGo"
    exact ⟨b, t, rfl, hb, mem2, List.forall_mem_cons.mpr ⟨rfl, List.forall_mem_cons.mpr ⟨rfl, List.forall_mem_cons.mpr ⟨rfl, nil_mem⟩⟩⟩⟩
  · rintro i k tk ⟨vs, ns, cap⟩ It oI hk ⟨hI, hns, hnl⟩ hoff
    dsimp only at hI hns hnl hoff ⊢
    have hil : i < ks.length := (List.getElem?_eq_some_iff.1 hk).1
    have hdr : ks.drop i = k :: ks.drop (i + 1) := by
      rw [List.drop_eq_getElem_cons hil, (List.getElem?_eq_some_iff.1 hk).2]
    rw [hdr, wrow] at hns
    have hv := hval k
    have hvl : vs.length ≤ 4096 := by rw [hI.length]; omega
    walk_at "wGo"
    · rename (k = 61) => h61
      refine wx_break ?_
      walk_at "wGo"
      refine ⟨(vs, ns, cap), fun p hp => .tail _ hp, List.forall_mem_cons.mpr ⟨rfl, List.forall_mem_cons.mpr ⟨rfl, List.forall_mem_cons.mpr ⟨rfl, nil_mem⟩⟩⟩, hI, ?_⟩
      rw [if_pos h61, List.append_nil] at hns
      exact hns
    · rename (¬ k = 61) => h61
      rw [if_neg h61] at hns
      cases hw : worthOf k with
      | none =>
        rw [hw] at hv hns
        dsimp only at hv hns
        refine wx_inD (.tail _ (.tail _ (.head _))) hdT hlo (b := false) (by rw [hv]; rfl) ?_
        walk_at "wGo"
        · rename (false = true) => h
          cases h
        · exact ⟨(vs, ns, cap), fun p hp => hp, List.forall_mem_cons.mpr ⟨rfl, List.forall_mem_cons.mpr ⟨rfl, List.forall_mem_cons.mpr ⟨rfl, nil_mem⟩⟩⟩, hI, hns, Nat.le_succ_of_le hnl⟩
      | some nn =>
        rw [hw] at hv hns
        dsimp only at hv hns
        obtain ⟨tn, hv⟩ := hv
        refine wx_inD (.tail _ (.tail _ (.head _))) hdT hlo (b := true) (by rw [hv]; rfl) ?_
        walk_at "wGo"
        · refine wx_append G hg 60 rfl rfl (.tail _ (.head _)) hvl rfl ?_
          walk_at "wGo"
          refine wx_getD (.tail _ (.tail _ (.head _))) hdT hv ?_
          walk_at "wGo"
          refine ⟨_, .tail (Ne.symm (hoff _ (.head _))) (.head (List.forall_mem_cons.mpr ⟨Ne.symm neL, nil_mem⟩)), ?_⟩
          walk_at "wGo"
          exact ⟨(vs ++ [.int nn tn], ns ++ [nn], cap + 1), fun p hp => hp, List.forall_mem_cons.mpr ⟨rfl, List.forall_mem_cons.mpr ⟨rfl, List.forall_mem_cons.mpr ⟨rfl, nil_mem⟩⟩⟩, ints_snoc hI _ _, by rw [List.append_assoc]; exact hns, by rw [List.length_append, List.length_singleton]; exact Nat.succ_le_succ hnl⟩
        · rename (¬ true = true) => h
          exact absurd rfl h
  · rintro ⟨vs, ns, cap⟩ ⟨hI, hns⟩
    dsimp only at hI hns ⊢
    have hwb := wrow_bd ks
    have hwl := wrow_len ks
    rw [← hns] at hwb hwl
    have hvl : vs.length ≤ 4096 := by rw [hI.length]; exact Nat.le_trans hwl hn
    have hn4 : ns.length ≤ 4096 := Nat.le_trans hwl hn
    walk_at "wGo"
    rename_i lG hlG
    have neG1 : lG ≠ lA := Ne.symm (Nat.ne_of_lt (hlG _ (.head _)))
    have neG2 : lG ≠ dA := Ne.symm (Nat.ne_of_lt (hlG _ (.tail _ (.head _))))
    refine wx_forR G hg 200 (σ := List Value × List (Array UInt8) × Nat) 0 ns.length 4 ((ns.length + 3) / 4) rfl (small_4 hn4) size_4 (fun _ => rfl) (fun c => [(Str.ofString "worth_row", .ref lA), (Str.ofString "found", .ref lG)]) (fun c => [(lG, listOf c.1.toArray c.2.2), (lA, listOf vs.toArray cap)]) [lG, lA] (fun _ => rfl)
      (fun i c => BJ.BytesAre c.1 c.2.1 ∧ c.2.1.map KBw.bInts = gsL ns i) ([], [], 0) ⟨.nil, rfl⟩ ?_ ?_ ?_
    · walk_at "wGo"
      refine wx_lenN (.tail _ (.head _)) hvl ?_
      rw [hI.length]
      walk_at "wGo"
      refine wx_range3 (by decide) (by decide) ?_
      intro r tr ur vr hr
      exact ⟨r, _, _, _, rfl, .head _, fun p hp => .tail _ (mem2 p hp), List.forall_mem_cons.mpr ⟨rfl, List.forall_mem_cons.mpr ⟨rfl, nil_mem⟩⟩⟩
    · rintro i tj ⟨gs, bs, cp⟩ It oI hi ⟨hB, hgs⟩ hoff
      dsimp only at hB hgs hoff ⊢
      have hg1 := gsL_step ns i
      have e4 : (0 : Int) + (i : Int) * 4 = 4 * (i : Int) := by rw [Int.zero_add, Int.mul_comm]
      have hgl : gs.length ≤ 4096 := by
        have e1 := (BJ.bytes_get hB).1
        have e2 := congrArg List.length hgs
        have e3 := gsL_len ns i
        rw [List.length_map] at e2
        omega
      walk_at "wGo"
      refine wx_lenN (.tail _ (.tail _ (.head _))) hvl ?_
      rw [hI.length]
      walk_at "wGo"
      · rename ((1 : Int) < _) => hgt
        rw [e4] at hgt
        rw [if_pos hgt] at hg1
        have h0 : (0 : Int) ≤ 0 + (i : Int) * 4 := by omega
        have hJ := kmk_run hI h0 (show (0 : Int) ≤ 0 + (i : Int) * 4 + 4 by omega)
        rw [cut4 ns i] at hJ
        have hn4 := take4_len ns i
        have hb4 : ∀ n ∈ (ns.drop (4 * i)).take 4, 0 ≤ n ∧ n < 64 := fun n hn => hwb n (List.mem_of_mem_drop (List.mem_of_mem_take hn))
        refine wx_append G hg 100 rfl rfl (.tail _ (.head _)) hgl rfl ?_
        walk_at "wGo"
        refine wx_cutI (.tail _ (.tail _ (.head _))) (.int _ _) (.int _ _) hI hJ hvl ?_
        intro D ws hw hD
        walk_at "wGo"
        refine wx_call I G (c_group w D ws _ hw (by omega) (by omega) hb4) (by decide) (fun h u F N => ⟨_, (N _ (.head _)).1, rfl, _, rfl⟩) ?_
        rintro hp r tl ne ⟨a, bg, x, t1, t2, rfl, rfl, hbg⟩
        walk_at "wGo"
        refine wx_tup (k := 0) (.head _) (Nat.zero_lt_succ _) (by decide) rfl ?_
        walk_at "wGo"
        refine ⟨_, .tail (ne _ (.tail _ (.tail _ (.head _))) _ (.head _)) (.tail (Ne.symm (Nat.ne_of_lt (hD _ (.tail _ (.head _))))) (.tail (Ne.symm (hoff _ (.head _))) (.head (List.forall_mem_cons.mpr ⟨Ne.symm neG1, nil_mem⟩)))), ?_⟩
        walk_at "wGo"
        refine ⟨(gs ++ [.bytes bg t1], bs ++ [bg], cp + 1), fun p hp => .tail _ (.tail _ hp), List.forall_mem_cons.mpr ⟨rfl, List.forall_mem_cons.mpr ⟨rfl, nil_mem⟩⟩, bytes_snoc hB _ _, ?_⟩
        dsimp only
        rw [List.map_append, hgs, hg1, ← hbg]
        rfl
      · rename (¬ (1 : Int) < _) => hgt
        rw [e4] at hgt
        rw [if_neg hgt, List.append_nil] at hg1
        exact ⟨(gs, bs, cp), fun p hp => hp, List.forall_mem_cons.mpr ⟨rfl, List.forall_mem_cons.mpr ⟨rfl, nil_mem⟩⟩, hB, hgs.trans hg1.symm⟩
    · rintro ⟨gs, bs, cp⟩ ⟨hB, hgs⟩
      dsimp only at hB hgs ⊢
      walk_at "wGo"
      refine wx_meth1 G hg 60 rfl ?_
      walk_at "wGo"
      refine gm_bjoin ⟨_, rfl, ?_⟩
      walk_at "wGo"
      refine wx_bjoin (.head _) hB (bytes_small hgs (by omega)) ?_
      walk_at "wGo"
      refine qBytes (m := []) ?_
      rw [BJ.bInts_cat, hgs, hns]
      rfl
end
section
theorem follow_cases (c : Int) : followSpan c = (0, 0, 0) ∨ (∃ lo hi, followSpan c = (lo, hi, 1)) ∨ (∃ lo hi, followSpan c = (lo, hi, 2)) ∨ (∃ lo hi, followSpan c = (lo, hi, 3)) := by
  unfold followSpan
  (repeat' split)
  all_goals first | exact .inl rfl | exact .inr (.inl ⟨_, _, rfl⟩) | exact .inr (.inr (.inl ⟨_, _, rfl⟩)) | exact .inr (.inr (.inr ⟨_, _, rfl⟩))
theorem utf8At_1 {ks : List Int} {i lo hi : Int} (h128 : ¬ ks.getD i.toNat 0 < 128) (hc : followSpan (ks.getD i.toNat 0) = (lo, hi, 1)) : utf8At ks i = utf8Go ks i 1 1 (ks.getD i.toNat 0 % 32) lo hi := by
  rw [utf8At_n h128 hc (by decide)]; rfl
theorem utf8At_2 {ks : List Int} {i lo hi : Int} (h128 : ¬ ks.getD i.toNat 0 < 128) (hc : followSpan (ks.getD i.toNat 0) = (lo, hi, 2)) : utf8At ks i = utf8Go ks i 2 1 (ks.getD i.toNat 0 % 16) lo hi := by
  rw [utf8At_n h128 hc (by decide)]; rfl
theorem utf8At_3 {ks : List Int} {i lo hi : Int} (h128 : ¬ ks.getD i.toNat 0 < 128) (hc : followSpan (ks.getD i.toNat 0) = (lo, hi, 3)) : utf8At ks i = utf8Go ks i 3 1 (ks.getD i.toNat 0 % 8) lo hi := by
  rw [utf8At_n h128 hc (by decide)]; rfl
def UB (q : Int × Int) : Prop := -1 ≤ q.1 ∧ q.1 < 1114112 ∧ 1 ≤ q.2 ∧ q.2 ≤ 4
theorem ub_m {y : Int} (h1 : 1 ≤ y) (h2 : y ≤ 4) : UB (-1, y) := ⟨Int.le_refl _, (by decide : (-1 : Int) < 1114112), h1, h2⟩
theorem ub_p {c : Int} (h1 : 0 ≤ c) (h2 : c < 256) : UB (c, 1) := ⟨(by omega : -1 ≤ c), (by omega : c < 1114112), Int.le_refl _, (by decide : (1 : Int) ≤ 4)⟩
theorem utf8Go_bd (ks : List Int) (i : Int) : ∀ (n : Nat) (place code lo hi : Int), 0 ≤ code → 1 ≤ place → place + n ≤ 4 → (code + 1) * 64 ^ n ≤ 1114112 → UB (utf8Go ks i n place code lo hi)
  | 0, place, code, lo, hi, h1, h2, h3, h4 => by
    have h4' : (code + 1) * 1 ≤ 1114112 := h4
    show -1 ≤ code ∧ code < 1114112 ∧ 1 ≤ place ∧ place ≤ 4
    omega
  | n + 1, place, code, lo, hi, h1, h2, h3, h4 => by
    unfold utf8Go
    split
    · exact ub_m h2 (by omega)
    · have hm1 := Int.emod_nonneg (ks.getD (i + place).toNat 0) (show (64 : Int) ≠ 0 by decide)
      have hm2 := Int.emod_lt_of_pos (ks.getD (i + place).toNat 0) (show (0 : Int) < 64 by decide)
      refine utf8Go_bd ks i n (place + 1) _ _ _ (by omega) (by omega) (by omega) ?_
      refine Int.le_trans (Int.mul_le_mul_of_nonneg_right (show code * 64 + ks.getD (i + place).toNat 0 % 64 + 1 ≤ (code + 1) * 64 by omega) (Int.le_of_lt (Int.pow_pos (by decide)))) ?_
      rw [Int.mul_assoc, Int.mul_comm 64, ← Int.pow_succ]
      exact h4
theorem follow3 {c lo hi : Int} (h : followSpan c = (lo, hi, 3)) : 240 ≤ c ∧ c ≤ 244 ∧ (c = 244 → hi = 143) := by
  unfold followSpan at h
  (repeat' split at h)
  all_goals first
    | (exfalso; revert h; decide)
    | (simp only [Prod.mk.injEq] at h; omega)
theorem utf8At_bd (ks : List Int) (hk : ∀ k ∈ ks, 0 ≤ k ∧ k < 256) (i : Int) : UB (utf8At ks i) := by
  have hgd := KBw.getD_in (ks := ks) (j := i.toNat) hk
  by_cases h : ks.getD i.toNat 0 < 128
  · unfold utf8At
    rw [if_pos h]
    exact ub_p hgd.1 hgd.2
  · rcases follow_cases (ks.getD i.toNat 0) with e | ⟨lo, hi, e⟩ | ⟨lo, hi, e⟩ | ⟨lo, hi, e⟩
    · unfold utf8At
      rw [if_neg h, e, if_pos rfl]
      exact ub_m (by decide) (by decide)
    · rw [utf8At_1 h e]
      exact utf8Go_bd ks i 1 1 _ _ _ (by omega) (by decide) (by decide) (by rw [Int.pow_one]; omega)
    · rw [utf8At_2 h e]
      exact utf8Go_bd ks i 2 1 _ _ _ (by omega) (by decide) (by decide) (by rw [show (64 : Int) ^ 2 = 4096 by decide]; omega)
    · rw [utf8At_3 h e]
      obtain ⟨f1, f2, f3⟩ := follow3 e
      by_cases h244 : ks.getD i.toNat 0 = 244
      · have hhi := f3 h244
        rw [h244, hhi]
        unfold utf8Go
        split
        · exact ub_m (by decide) (by decide)
        · rename_i hx
          have hy : ks.getD (i + 1).toNat 0 ≤ 143 := by omega
          have hg2 := KBw.getD_in (ks := ks) (j := (i + 1).toNat) hk
          have hz : 128 ≤ ks.getD (i + 1).toNat 0 ∨ lo < 128 := by omega
          have hlo : lo = 128 := by
            have e' := e
            rw [h244] at e'
            have : followSpan 244 = (128, 143, 3) := by decide
            rw [this] at e'
            simp only [Prod.mk.injEq] at e'
            omega
          exact utf8Go_bd ks i 2 2 _ _ _ (by omega) (by decide) (by decide) (by rw [show (64 : Int) ^ 2 = 4096 by decide]; omega)
      · exact utf8Go_bd ks i 3 1 _ _ _ (by omega) (by decide) (by decide) (by rw [show (64 : Int) ^ 3 = 262144 by decide]; omega)
def signAt (cs : Str) (ks : List Int) (i : Int) : Int × Int :=
  if cs = Str.ofString "utf-8" then utf8At ks i else if cs = Str.ofString "us-ascii" ∧ ks.getD i.toNat 0 > 127 then (-1, 1) else (ks.getD i.toNat 0, 1)
theorem signAt_bd (cs : Str) (ks : List Int) (hk : ∀ k ∈ ks, 0 ≤ k ∧ k < 256) (i : Int) : UB (signAt cs ks i) := by
  have hgd := KBw.getD_in (ks := ks) (j := i.toNat) hk
  unfold signAt
  split
  · exact utf8At_bd ks hk i
  · split
    · exact ub_m (by decide) (by decide)
    · exact ub_p hgd.1 hgd.2
theorem qPair {q : Int × Int} {x y : Int} {t1 t2 : Tok} {a : Addr} {m : Loc} {N : Led} (e : (x, y) = q) : Qend (fun tl r => ∃ (a : Addr) (x y : Int) (t1 t2 : Tok), tl = [(a, { cls := .type "tuple", data := .seq #[.int x t1, .int y t2] })] ∧ r = .ref a ∧ (x, y) = q) (.ret (.ref a)) m ((a, ({ cls := .type "tuple", data := .seq [Value.int x t1, .int y t2].toArray } : Obj)) :: N) :=
  ⟨[_], fun p hp => by rw [List.mem_singleton.mp hp]; exact .head _, a, x, y, t1, t2, rfl, rfl, e⟩
theorem c_sign_at (w : World) (x : Str) (tx : Tok) (_hx : x ∈ charsetsL) (b : Array UInt8) (t : Tok) (i : Int) (u : Tok) (ks : List Int) (hb : KBw.bInts b = ks) (hn : ks.length ≤ 4096) (h0 : 0 ≤ i) (h1 : i < ks.length) : PureC PySem.Challenge.rw_or0048_01.row.prog w (hd.heap_39 w.params) 133 3 [.str x tx, .bytes b t, .int i u] (fun _ => True) (OutPair (signAt x ks i)) := by
  k_fill
  refine' pure_wx [(Str.ofString "charset", .str x tx), (Str.ofString "octets", .bytes b t), (Str.ofString "at", .int i u)] ?k6 ?k7 ?k9 ?kB ?c2 ?c3 ?c4 ?c5 ?c6 ?_
  walk_at "wOpen"
  intro c I G hpre
  have hg := z_ok I (glob_cons (x := Str.ofString "UTF8") I G rfl (by k_is) (glob_cons (x := Str.ofString "ASCII") I G rfl (by k_is) (glob_cons (x := Str.ofString "utf8_sign") (v := .ref 126) I G rfl (by k_is) glob_nil)))
  have hn' : ks.length ≤ 16777216 := Nat.le_trans hn (by decide)
  refine run_sound G hg 100 ?_
  walk_at "wGo"
  refine wx_eqstr ?_
  walk_at "wGo"
  · rename_i hu
    refine wx_call I G (c_utf8 w b t i u ks hb hn h0 h1) (by decide) (fun _ _ _ _ => trivial) ?_
    intro hp r tl ne ho
    have e : signAt x ks i = utf8At ks i := if_pos (eq_of_beq hu)
    rw [e]
    exact ⟨tl, fun p hp => List.mem_append_left _ hp, ho⟩
  · rename_i hu
    have hu2 : ¬ x = Str.ofString "utf-8" := fun q => hu (beq_iff_eq.mpr q)
    refine wx_eqstr ?_
    walk_at "wGo"
    · rename_i ha
      refine wx_item hn' hb h0 h1 ?_
      walk_at "wGo"
      · refine qPair (m := []) ?_
        unfold signAt
        rw [if_neg hu2, if_pos ⟨eq_of_beq ha, by assumption⟩]
      · refine wx_item hn' hb h0 h1 ?_
        walk_at "wGo"
        refine qPair (m := []) ?_
        unfold signAt
        rw [if_neg hu2, if_neg (nb2 (by assumption))]
    · rename_i ha
      refine wx_item hn' hb h0 h1 ?_
      walk_at "wGo"
      refine qPair (m := []) ?_
      unfold signAt
      rw [if_neg hu2, if_neg (fun q => ha (beq_iff_eq.mpr q.1))]
end
section
theorem n1m {x : Int} (h : x < 1114112) : x ≤ 1114111 := Int.le_of_lt_add_one h
def signStr (c : Int) : Str := if 0 ≤ c then ⟨#[c.toNat]⟩ else ⟨#[65533]⟩
def textF (cs : Str) (ks : List Int) : Nat → Nat → List Str
  | 0, _ => []
  | f + 1, a => if a < ks.length then signStr (signAt cs ks a).1 :: textF cs ks f (a + (signAt cs ks a).2.toNat) else []
theorem textF_fuel (cs : Str) (ks : List Int) (hk : ∀ k ∈ ks, 0 ≤ k ∧ k < 256) : ∀ (f f' a : Nat), ks.length - a ≤ f → ks.length - a ≤ f' → textF cs ks f a = textF cs ks f' a
  | 0, 0, _, _, _ => rfl
  | 0, f' + 1, a, h, _ => by rw [textF, textF, if_neg (by omega)]
  | f + 1, 0, a, _, h => by rw [textF, textF, if_neg (by omega)]
  | f + 1, f' + 1, a, h, h' => by
    have hb := signAt_bd cs ks hk a
    have h3 := hb.2.2.1
    rw [textF, textF]
    rw [textF_fuel cs ks hk f f' (a + (signAt cs ks a).2.toNat) (by omega) (by omega)]
def textL (cs : Str) (ks : List Int) : List Str := textF cs ks ks.length 0
def textStr (cs : Str) (ks : List Int) : Str := PySem.Txt.join (Str.ofString "") (textL cs ks)
theorem text_end {cs : Str} {ks : List Int} {a : Nat} (h : ks.length ≤ a) : textF cs ks (ks.length - a) a = [] := by
  have e : ks.length - a = 0 := by omega
  rw [e, textF]
theorem text_step {cs : Str} {ks : List Int} (hk : ∀ k ∈ ks, 0 ≤ k ∧ k < 256) {a : Nat} (h : a < ks.length) : textF cs ks (ks.length - a) a = signStr (signAt cs ks a).1 :: textF cs ks (ks.length - (a + (signAt cs ks a).2.toNat)) (a + (signAt cs ks a).2.toNat) := by
  obtain ⟨f, hf⟩ : ∃ f, ks.length - a = f + 1 := ⟨ks.length - a - 1, by omega⟩
  have h3 := (signAt_bd cs ks hk a).2.2.1
  rw [hf, textF, if_pos h, textF_fuel cs ks hk f (ks.length - (a + (signAt cs ks a).2.toNat)) _ (by omega) (by omega)]
theorem toNat_add {j d : Int} (h : 0 ≤ j) (h2 : 1 ≤ d) : (j + d).toNat = j.toNat + d.toNat := by omega
theorem signStr_one (c : Int) : (signStr c).length = 1 := by
  unfold signStr
  split <;> rfl
theorem text_one (cs : Str) (ks : List Int) : ∀ (f a : Nat), ∀ y ∈ textF cs ks f a, y.length = 1
  | 0, _, y, h => nomatch h
  | f + 1, a, y, h => by
    unfold textF at h
    split at h
    · rcases List.mem_cons.1 h with rfl | h
      · exact signStr_one _
      · exact text_one cs ks f _ y h
    · cases h
theorem qStr {x y : Str} {t : Tok} {m : Loc} {N : Led} (e : x = y) : Qend (fun tl r => tl = [] ∧ ∃ t : Tok, r = .str y t) (.ret (.str x t)) m N := e ▸ ⟨[], nil_mem, rfl, _, rfl⟩
theorem c_text_in (w : World) (x : Str) (tx : Tok) (hx : x ∈ charsetsL) (b : Array UInt8) (t : Tok) (ks : List Int) (hb : KBw.bInts b = ks) (hn : ks.length ≤ 4096) : PureC PySem.Challenge.rw_or0048_01.row.prog w (hd.heap_39 w.params) 140 4 [.str x tx, .bytes b t] (fun _ => True) (OutStr (textStr x ks)) := by
  k_fill
  refine' pure_wx [(Str.ofString "charset", .str x tx), (Str.ofString "octets", .bytes b t)] ?k6 ?k7 ?k9 ?kB ?c2 ?c3 ?c4 ?c5 ?c6 ?_
  walk_at "wOpen"
  intro c I G hpre
  have hg := z_ok I (glob_consB (x := Str.ofString "len") (v := .builtin "len") I G rfl (by k_is) (by boot_fast) (by decide) (glob_consB (x := Str.ofString "chr") (v := .builtin "chr") I G rfl (by k_is) (by boot_fast) (by decide) (glob_cons (x := Str.ofString "need_charset") (v := .ref 112) I G rfl (by k_is) (glob_cons (x := Str.ofString "sign_at") (v := .ref 133) I G rfl (by k_is) (glob_cons (x := Str.ofString "UNKNOWN_SIGN") I G rfl (by k_is) glob_nil)))))
  have hn' : ks.length ≤ 16777216 := Nat.le_trans hn (by decide)
  have hk : ∀ k ∈ ks, 0 ≤ k ∧ k < 256 := fun k hk => KBw.ints_in (hb ▸ hk)
  refine run_sound G hg 100 ?_
  walk_at "wGo"
  refine wx_call I G (c_need w x _ hx) (by decide) (fun _ _ _ _ => trivial) ?_
  rintro hp r tl ne ⟨rfl, rfl⟩
  walk_at "wGo"
  rename_i lA _ tk0
  refine wx_while G hg 100 (σ := Int × Tok × List Value × List Str × Nat) (fun c => [(Str.ofString "charset", .str x tx), (Str.ofString "octets", .bytes b t), (Str.ofString "signs", .ref lA), (Str.ofString "at", .int c.1 c.2.1)]) (fun c => [(lA, listOf c.2.2.1.toArray c.2.2.2.2)])
    (fun c => 0 ≤ c.1 ∧ StrsAre c.2.2.1 c.2.2.2.1 ∧ (c.2.2.2.1.length : Int) ≤ c.1 ∧ c.2.2.2.1.length ≤ ks.length ∧ c.2.2.2.1 ++ textF x ks (ks.length - c.1.toNat) c.1.toNat = textL x ks) (fun c => ks.length - c.1.toNat) (0, tk0, [], [], 0) (fun p hp => hp) ?_ ⟨Int.le_refl _, .nil, Int.le_refl _, Nat.zero_le _, rfl⟩ ?_
  · exact List.forall_mem_cons.mpr ⟨rfl, List.forall_mem_cons.mpr ⟨rfl, List.forall_mem_cons.mpr ⟨rfl, List.forall_mem_cons.mpr ⟨rfl, nil_mem⟩⟩⟩⟩
  rintro ⟨j, tj, vs, xs, n⟩ ⟨hj0, hI, hl, hl2, he⟩
  dsimp only at hj0 hI hl hl2 he
  have hvl : vs.length ≤ 4096 := by rw [hI.length]; exact Nat.le_trans hl2 hn
  obtain ⟨hb1, hb2, hb3, hb4⟩ := signAt_bd x ks hk j
  walk_at "wGo"
  refine wx_len hn' hb ?_
  walk_at "wGo"
  · rename_i hlt
    have hltn : j.toNat < ks.length := by omega
    have st := text_step (cs := x) hk hltn
    rw [Int.toNat_of_nonneg hj0, ← toNat_add hj0 hb3] at st
    rw [st] at he
    have fin : ∀ (y : Str) (ty : Tok), signStr (signAt x ks j).1 = y → (0 ≤ j + (signAt x ks j).2 ∧ StrsAre (vs ++ [.str y ty]) (xs ++ [y]) ∧ ((xs ++ [y]).length : Int) ≤ j + (signAt x ks j).2 ∧ (xs ++ [y]).length ≤ ks.length ∧ (xs ++ [y]) ++ textF x ks (ks.length - (j + (signAt x ks j).2).toNat) (j + (signAt x ks j).2).toNat = textL x ks) ∧ ks.length - (j + (signAt x ks j).2).toNat < ks.length - j.toNat :=
      fun y ty e => ⟨⟨by omega, kct_snoc hI, by rw [List.length_append, List.length_singleton]; omega, by rw [List.length_append, List.length_singleton]; omega, by rw [List.append_assoc, List.singleton_append, ← e]; exact he⟩, by omega⟩
    refine wx_unpack2 G hg 60 rfl rfl ?_ rfl (sw_env I.s rfl)
    walk_at "wGo"
    refine wx_call I G (c_sign_at w x _ hx b t j _ ks hb hn hj0 hlt) (by decide) (fun _ _ _ _ => trivial) ?_
    rintro hp r tl ne ⟨a, x1, x2, t1, t2, rfl, rfl, e⟩
    refine ⟨a, _, _, _, rfl, .head _, ?_⟩
    obtain ⟨e1, e2⟩ : x1 = (signAt x ks j).1 ∧ x2 = (signAt x ks j).2 := ⟨congrArg Prod.fst e, congrArg Prod.snd e⟩
    clear e
    subst e1 e2
    have ne1 : a ≠ lA := ne _ (.head _) _ (.head _)
    walk_at "wGo"
    refine wx_append G hg 60 rfl rfl (.tail _ (.head _)) hvl rfl ?_
    walk_at "wGo"
    · rename_i hq
      refine wx_chr hq (n1m hb2) ?_
      intro t5
      walk_at "wGo"
      refine ⟨_, .tail ne1 upd1, ?_⟩
      walk_at "wGo"
      rename_i t6
      have f := fin _ t5 (if_pos hq)
      exact ⟨(j + (signAt x ks j).2, t6, vs ++ [.str _ t5], xs ++ [_], n + 1), fun p hp => .tail _ hp, List.forall_mem_cons.mpr ⟨rfl, List.forall_mem_cons.mpr ⟨rfl, List.forall_mem_cons.mpr ⟨rfl, List.forall_mem_cons.mpr ⟨rfl, nil_mem⟩⟩⟩⟩, f.1, f.2⟩
    · rename_i hq
      refine ⟨_, .tail ne1 upd1, ?_⟩
      walk_at "wGo"
      rename_i t6
      have f := fin (Str.ofString "\uFFFD") 307 ((if_neg hq).trans (by decide +kernel))
      exact ⟨(j + (signAt x ks j).2, t6, vs ++ [.str _ 307], xs ++ [_], n + 1), fun p hp => .tail _ hp, List.forall_mem_cons.mpr ⟨rfl, List.forall_mem_cons.mpr ⟨rfl, List.forall_mem_cons.mpr ⟨rfl, List.forall_mem_cons.mpr ⟨rfl, nil_mem⟩⟩⟩⟩, f.1, f.2⟩
  · rename_i hge
    have hge2 : ks.length ≤ j.toNat := by omega
    rw [text_end hge2, List.append_nil] at he
    refine wx_meth1 G hg 60 rfl ?_
    walk_at "wGo"
    refine gm_join ⟨_, rfl, ?_⟩
    walk_at "wGo"
    refine wx_join1 (.head _) hI (fun y hy => text_one x ks _ _ y (by rw [he] at hy; exact hy)) (Nat.le_trans hl2 (Nat.le_trans hn (by decide))) ?_
    walk_at "wGo"
    exact qStr (m := []) (by rw [he]; rfl)
end
section
theorem seg_len (ks : List Int) (a b : Nat) : (seg ks a b).length ≤ ks.length := by
  unfold seg
  rw [List.length_take, List.length_drop]
  omega
theorem take2_len {ks : List Int} {z : Nat} {a b : Int} (h : (ks.drop z).take 2 = [a, b]) : z + 2 ≤ ks.length := by
  have := congrArg List.length h
  rw [List.length_take, List.length_drop] at this
  simp only [List.length_cons, List.length_nil] at this
  omega
theorem wp_bd {ks : List Int} {i : Nat} {A B C : List Int} {e : Int} (h : wp ks i = some (A, B, C, e)) : A.length ≤ ks.length ∧ B.length ≤ ks.length ∧ C.length ≤ ks.length ∧ (i : Int) + 4 ≤ e ∧ e ≤ ks.length := by
  unfold wp at h
  split at h
  · split at h
    · cases h
    · rename_i h1
      split at h
      · cases h
      · rename_i h2
        split at h
        · cases h
        · rename_i h3
          split at h
          · rename_i h4
            have g1 := partEnd_ge _ _ h1
            have g2 := partEnd_ge _ _ h2
            have g3 := partEnd_ge _ _ h3
            have g4 := take2_len h4
            simp only [Option.some.injEq, Prod.mk.injEq] at h
            obtain ⟨e1, e2, e3, e4⟩ := h
            subst e1 e2 e3 e4
            exact ⟨seg_len _ _ _, seg_len _ _ _, seg_len _ _ _, by omega, by omega⟩
          · cases h
  · cases h
theorem glued_ones (f : Int → Nat) : ∀ (l : List Int) (acc : Array Nat), ((l.map fun k => (⟨#[f k]⟩ : Str)).foldl (fun acc p => acc ++ (Str.ofString "").cps ++ p.cps) acc).toList = acc.toList ++ l.map f
  | [], acc => by simp
  | k :: r, acc => by
    rw [List.map_cons, List.foldl_cons, glued_ones f r]
    have e : (Str.ofString "").cps = #[] := by decide
    rw [e]
    simp
theorem plain_cps (ks : List Int) : (plainStr ks).cps.toList = ks.map Int.toNat := by
  cases ks with
  | nil => rfl
  | cons k r =>
    exact glued_ones Int.toNat r _
theorem plain_len (ks : List Int) : (plainStr ks).length = ks.length := by
  have : (plainStr ks).length = (plainStr ks).cps.toList.length := by simp [Str.length]
  rw [this, plain_cps, List.length_map]
theorem split_ne (x y : Str) : PySem.Txt.split x y ≠ [] := by
  intro h
  unfold PySem.Txt.split at h
  split at h
  · cases h
  · split at h
    · cases h
    · have := congrArg List.length h
      unfold Builtin.Str.partsBetween at this
      rw [List.length_map, List.length_zip] at this
      simp at this
def starStr (A : List Int) : Str := (PySem.Txt.split (plainStr A) (Str.ofString "*")).headD Str.empty
theorem join_head (y x : Str) (r : List Str) : ∃ z, (Str.join y (x :: r)).cps.toList = x.cps.toList ++ z := by
  cases r with
  | nil => exact ⟨[], by simp [Str.join]⟩
  | cons a r => exact ⟨y.cps.toList ++ (Str.join y (a :: r)).cps.toList, by
      show ((x ++ y ++ Str.join y (a :: r)) : Str).cps.toList = _
      show (x.cps ++ y.cps ++ (Str.join y (a :: r)).cps).toList = _
      simp⟩
theorem star_sub (A : List Int) : ∃ z, (plainStr A).cps.toList = (starStr A).cps.toList ++ z := by
  have h := StrLaws.join_split (plainStr A) (Str.ofString "*")
  unfold starStr
  cases hs : PySem.Txt.split (plainStr A) (Str.ofString "*") with
  | nil => exact absurd hs (split_ne _ _)
  | cons a r =>
    rw [hs] at h
    obtain ⟨z, hz⟩ := join_head (Str.ofString "*") a r
    rw [h] at hz
    exact ⟨z, hz⟩
theorem star_len (A : List Int) : (starStr A).length ≤ A.length := by
  obtain ⟨z, hz⟩ := star_sub A
  have h1 := congrArg List.length hz
  rw [List.length_append, plain_cps, List.length_map] at h1
  have : (starStr A).length = (starStr A).cps.toList.length := by simp [Str.length]
  omega
theorem star_lt (A : List Int) (hA : ∀ k ∈ A, 0 ≤ k ∧ k < 256) : ∀ c ∈ (starStr A).cps.toList, c < 256 := by
  intro c hc
  obtain ⟨z, hz⟩ := star_sub A
  have h1 : c ∈ (plainStr A).cps.toList := by rw [hz]; exact List.mem_append_left _ hc
  rw [plain_cps] at h1
  obtain ⟨k, hk, e⟩ := List.mem_map.1 h1
  have := hA k hk
  omega
theorem unqF_len (ks : List Int) : ∀ (f a : Nat), (unqF ks f a).length ≤ f
  | 0, _ => Nat.le_refl _
  | f + 1, a => by
    have h1 := unqF_len ks f (a + 3)
    have h2 := unqF_len ks f (a + 1)
    unfold unqF
    split
    · split <;> (simp only [List.length_cons]; omega)
    · simp
def qRow (C : List Int) : List Int := unquotedL (C.map fun c => if c = 95 then 32 else c)
theorem qRow_len (C : List Int) : (qRow C).length ≤ C.length := by
  have := unqF_len (C.map fun c => if c = 95 then 32 else c) (C.map fun c => if c = 95 then 32 else c).length 0
  rw [List.length_map] at this
  exact Nat.le_trans (Nat.le_of_eq rfl) (by unfold qRow unquotedL; rw [List.length_map]; exact this)
def wordAt (ks : List Int) (i : Int) : Option (Str × Int) :=
  match wp ks i.toNat with
  | none => none
  | some (A, B, C, e) =>
    if apart ks i e = false then none else
    if charsetOf (starStr A) = Str.ofString "" then none else
    if PySem.Txt.upper (plainStr B) = Str.ofString "Q" then some (textStr (charsetOf (starStr A)) (qRow C), e) else
    if PySem.Txt.upper (plainStr B) = Str.ofString "B" then some (textStr (charsetOf (starStr A)) (decodedL C), e) else none
abbrev OutWord (o : Option (Str × Int)) : Heap → List (Addr × Obj) → Value → Prop := fun _ tl r =>
  (o = none ∧ tl = [] ∧ r = .none) ∨ ∃ x e, o = some (x, e) ∧ ∃ (a : Addr) (t1 t2 : Tok), tl = [(a, { cls := .type "tuple", data := .seq #[.str x t1, .int e t2] })] ∧ r = .ref a
theorem outWN {o : Option (Str × Int)} {g : Heap} (h : o = none) : OutWord o g [] .none := .inl ⟨h, rfl, rfl⟩
section
variable {ks : List Int} {i : Int} {A B C : List Int} {e : Int} (hw : wp ks i.toNat = some (A, B, C, e))
include hw
theorem wordF (h : apart ks i e = false) : wordAt ks i = none := by
  unfold wordAt; rw [hw]; exact if_pos h
variable (h : apart ks i e = true)
include h
theorem wordE (h2 : charsetOf (starStr A) = Str.ofString "") : wordAt ks i = none := by
  unfold wordAt; rw [hw]; dsimp only; rw [h, if_neg (by decide), if_pos h2]
variable (h2 : charsetOf (starStr A) ≠ Str.ofString "")
include h2
theorem wordQ (q : (PySem.Txt.upper (plainStr B) == Str.ofString "Q") = true) : wordAt ks i = some (textStr (charsetOf (starStr A)) (qRow C), e) := by
  unfold wordAt; rw [hw]; dsimp only; rw [h, if_neg (by decide), if_neg h2, if_pos (eq_of_beq q)]
theorem wordB (q : (PySem.Txt.upper (plainStr B) == Str.ofString "Q") = false) (r : ([Str.ofString "Q", Str.ofString "B"].any fun x => x == PySem.Txt.upper (plainStr B)) = true) : wordAt ks i = some (textStr (charsetOf (starStr A)) (decodedL C), e) := by
  have q' : PySem.Txt.upper (plainStr B) ≠ Str.ofString "Q" := by simpa using q
  have r' : PySem.Txt.upper (plainStr B) = Str.ofString "B" := by
    have r2 : Str.ofString "Q" = PySem.Txt.upper (plainStr B) ∨ Str.ofString "B" = PySem.Txt.upper (plainStr B) := by simpa using r
    rcases r2 with r2 | r2
    · exact absurd r2.symm q'
    · exact r2.symm
  unfold wordAt; rw [hw]; dsimp only; rw [h, if_neg (by decide), if_neg h2, if_neg q', if_pos r']
theorem wordN (r : ([Str.ofString "Q", Str.ofString "B"].any fun x => x == PySem.Txt.upper (plainStr B)) = false) : wordAt ks i = none := by
  have r2 : ¬ Str.ofString "Q" = PySem.Txt.upper (plainStr B) ∧ ¬ Str.ofString "B" = PySem.Txt.upper (plainStr B) := by simpa using r
  unfold wordAt; rw [hw]; dsimp only; rw [h, if_neg (by decide), if_neg h2, if_neg (fun q => r2.1 q.symm), if_neg (fun q => r2.2 q.symm)]
end
theorem qStr2 {o : Option (Str × Int)} {x : Str} {e : Int} {t1 t2 : Tok} {a : Addr} {m : Loc} {N : Led} (h : o = some (x, e)) : Qend (fun tl r => (o = none ∧ tl = [] ∧ r = .none) ∨ ∃ x e, o = some (x, e) ∧ ∃ (a : Addr) (t1 t2 : Tok), tl = [(a, { cls := .type "tuple", data := .seq #[.str x t1, .int e t2] })] ∧ r = .ref a) (.ret (.ref a)) m ((a, ({ cls := .type "tuple", data := .seq [Value.str x t1, .int e t2].toArray } : Obj)) :: N) :=
  ⟨[_], fun p hp => by rw [List.mem_singleton.mp hp]; exact .head _, .inr ⟨x, e, h, a, t1, t2, rfl, rfl⟩⟩
theorem c_word_at (w : World) (b : Array UInt8) (t : Tok) (i : Int) (u : Tok) (ks : List Int) (hb : KBw.bInts b = ks) (hn : ks.length ≤ 1000) (h0 : 0 ≤ i) (h1 : i < ks.length) : PureC PySem.Challenge.rw_or0048_01.row.prog w (hd.heap_39 w.params) 206 6 [.bytes b t, .int i u] (fun _ => True) (OutWord (wordAt ks i)) := by
  k_fill
  refine' pure_wx [(Str.ofString "octets", .bytes b t), (Str.ofString "at", .int i u)] ?k6 ?k7 ?k9 ?kB ?c2 ?c3 ?c4 ?c5 ?c6 ?_
  walk_at "wOpen"
  intro c I G hpre
  have hg := z_ok I (glob_cons (x := Str.ofString "word_parts") (v := .ref 187) I G rfl (by k_is) (glob_cons (x := Str.ofString "is_apart") (v := .ref 194) I G rfl (by k_is) (glob_cons (x := Str.ofString "charset_name") (v := .ref 105) I G rfl (by k_is) (glob_cons (x := Str.ofString "plain_text") (v := .ref 199) I G rfl (by k_is) (glob_cons (x := Str.ofString "word_q_decoded") (v := .ref 166) I G rfl (by k_is) (glob_cons (x := Str.ofString "decoded") (v := .ref 38) I G rfl (by k_is) (glob_cons (x := Str.ofString "text_in") (v := .ref 140) I G rfl (by k_is) (glob_cons (x := Str.ofString "WAYS") (v := .ref 168) I G rfl (by k_is) glob_nil))))))))
  have hn4 : ks.length ≤ 4096 := Nat.le_trans hn (by decide)
  have X' : (hd.heap_39 w.params).In c.g := I.k ▸ G.X
  have hW := tupK X' (a := 168) (by k_dflt k_is)
  refine run_sound G hg 150 ?_
  walk_at "wGo"
  refine wx_call I G (c_word_parts w b t i u ks hb hn4 h0 h1) (by decide) (fun _ _ _ _ => trivial) ?_
  rintro hp r tl ne (⟨hw, rfl, rfl⟩ | ⟨A, B, C, e, hw, a, bA, bB, bC, tA, tB, tC, te, rfl, rfl, hbA, hbB, hbC⟩)
  · walk_at "wGo"
    refine wx_is_none ?_
    walk_at "wGo"
    · exact ⟨[], nil_mem, outWN (by unfold wordAt; rw [hw])⟩
    · rename (¬ _) => h
      exact absurd rfl h
  · obtain ⟨w1, w2, w3, w4, w5⟩ := wp_bd hw
    rw [Int.toNat_of_nonneg h0] at w4
    have s1 : (starStr A).length ≤ 4096 := Nat.le_trans (star_len A) (Nat.le_trans w1 hn4)
    have s2 := star_lt A (fun k hk => KBw.ints_in (hbA ▸ hk))
    have s3 := (charsetData_is (starStr A)).2
    have lA := Nat.le_trans w1 hn4
    have lB := Nat.le_trans w2 hn4
    have lC := Nat.le_trans w3 hn
    have hql : (unquotedL (C.map fun c => if c = 95 then 32 else c)).length ≤ 4096 := Nat.le_trans (qRow_len C) (Nat.le_trans w3 hn4)
    walk_at "wGo"
    refine wx_is_ref ?_
    walk_at "wGo"
    · rename (false = true) => h
      cases h
    refine wx_tup (k := 3) (.head _) (Nat.lt_succ_self 3) (by decide) rfl ?_
    walk_at "wGo"
    refine wx_call I G (c_is_apart w b t i u e _ ks hb hn4 h0 (Int.le_of_lt h1) (Int.le_trans h0 (by omega)) w5) (by decide) (fun _ _ _ _ => trivial) ?_
    rintro hp r tl ne2 ⟨rfl, rfl⟩
    walk_at "wGo"
    · rename (apart ks i e = true) => ha
      have nmem : ∀ {q : Addr × Obj} {M : Led}, q ∈ M → ∀ p ∈ [q], p ∈ M := fun h p hp => by rw [List.mem_singleton.mp hp]; exact h
      refine wx_meth1 G hg 60 rfl ?_
      walk_at "wGo"
      refine wx_tup (k := 0) (.head _) (Nat.zero_lt_succ _) (by decide) rfl ?_
      walk_at "wGo"
      refine wx_call0 I G (c_plain_text w bA tA A hbA lA) (by decide) ?_
      rintro r ⟨tr, rfl⟩
      refine gm_split ⟨_, rfl, ?_⟩
      walk_at "wGo"
      refine wx_split1 (by decide) (by rw [plain_len]; exact lA) ?_
      intro D l el hD
      obtain ⟨⟨x0, t0⟩, l2, rfl, hx0⟩ : ∃ p l2, l = p :: l2 ∧ p.1 = starStr A := by
        cases l with
        | nil => exact absurd el.symm (split_ne _ _)
        | cons p l2 => exact ⟨p, l2, rfl, by unfold starStr; rw [← el]; rfl⟩
      dsimp only at hx0
      subst hx0
      clear el
      walk_at "wGo"
      refine wx_itemL (k := 0) (.head _) (by decide) (by decide) rfl ?_
      walk_at "wGo"
      refine wx_call0 I G (c_charset_name w (starStr A) t0 s1 s2) (by decide) ?_
      rintro r ⟨tc, rfl⟩
      walk_at "wGo"
      refine wx_meth0 G hg 60 ?_
      walk_at "wGo"
      refine wx_tup (k := 1) (.tail _ (.head _)) (Nat.succ_lt_succ (Nat.zero_lt_succ _)) (by decide) rfl ?_
      walk_at "wGo"
      refine wx_call0 I G (c_plain_text w bB tB B hbB lB) (by decide) ?_
      rintro r ⟨tr2, rfl⟩
      refine gm_upper ⟨_, rfl, ?_⟩
      refine wx_upper (by rw [plain_len]; exact lB) ?_
      walk_at "wGo"
      refine wx_eqstr ?_
      walk_at "wGo"
      · rename (BEq.beq _ _ = true) => q
        exact ⟨[], nil_mem, outWN (wordE hw ha (eq_of_beq q))⟩
      rename (¬ BEq.beq _ _ = true) => q
      have hne0 : charsetOf (starStr A) ≠ Str.ofString "" := fun e => q (beq_iff_eq.mpr e)
      have s4 : charsetOf (starStr A) ∈ charsetsL := s3.resolve_right hne0
      refine wx_notinS (ys := [Str.ofString "Q", Str.ofString "B"]) hW (.cons _ _ (.cons _ _ .nil)) ?_
      walk_at "wGo"
      · rename ((!_) = true) => q2
        exact ⟨[], nil_mem, outWN (wordN hw ha hne0 (nb q2))⟩
      rename (¬ (!_) = true) => q2
      have q3 := nt q2
      refine wx_eqstr ?_
      walk_at "wGo"
      · rename (BEq.beq (PySem.Txt.upper _) _ = true) => q4
        refine wx_tup (k := 2) (.tail _ (.head _)) (Nat.succ_lt_succ (Nat.succ_lt_succ (Nat.zero_lt_succ _))) (by decide) rfl ?_
        walk_at "wGo"
        refine wx_call0 I G (c_word_q w bC tC C hbC (Nat.le_trans w3 hn4)) (by decide) ?_
        rintro r ⟨b2, tb2, rfl, hb2⟩
        walk_at "wGo"
        refine wx_call0 I G (c_text_in w _ tc s4 b2 tb2 _ hb2 hql) (by decide) ?_
        rintro r ⟨tt, rfl⟩
        walk_at "wGo"
        refine wx_tup (k := 3) (.tail _ (.head _)) (Nat.lt_succ_self 3) (by decide) rfl ?_
        walk_at "wGo"
        exact qStr2 (m := []) (wordQ hw ha hne0 q4)
      · rename (¬ BEq.beq (PySem.Txt.upper _) _ = true) => q4
        refine wx_tup (k := 2) (.tail _ (.head _)) (Nat.succ_lt_succ (Nat.succ_lt_succ (Nat.zero_lt_succ _))) (by decide) rfl ?_
        walk_at "wGo"
        refine wx_call0 I G (c_decoded w bC tC C hbC (Nat.le_trans w3 hn4)) (by decide) ?_
        rintro r ⟨b2, tb2, rfl, hb2⟩
        walk_at "wGo"
        refine wx_call0 I G (c_text_in w _ tc s4 b2 tb2 _ hb2 (decoded_len C lC)) (by decide) ?_
        rintro r ⟨tt, rfl⟩
        walk_at "wGo"
        refine wx_tup (k := 3) (.tail _ (.head _)) (Nat.lt_succ_self 3) (by decide) rfl ?_
        walk_at "wGo"
        exact qStr2 (m := []) (wordB hw ha hne0 (Bool.eq_false_iff.mpr q4) q3)
    · rename (¬ _ = true) => ha
      exact ⟨[], nil_mem, outWN (wordF hw (Bool.eq_false_iff.mpr ha))⟩
end
section
inductive Pc where
  | gap : List Int → Pc
  | word : Str → Pc
def PcObj : Pc → Obj → Prop
  | .gap ks, o => ∃ b t, o = { cls := .type "tuple", data := .seq #[.bool false, .bytes b t] } ∧ KBw.bInts b = ks
  | .word x, o => ∃ t, o = { cls := .type "tuple", data := .seq #[.bool true, .str x t] }
inductive PcsAre (tups : List (Addr × Obj)) : List Value → List Pc → Prop
  | nil : PcsAre tups [] []
  | cons {vs ps} (a : Addr) (o : Obj) (p : Pc) : (a, o) ∈ tups → PcObj p o → PcsAre tups vs ps → PcsAre tups (.ref a :: vs) (p :: ps)
theorem PcsAre.length {tups vs ps} (h : PcsAre tups vs ps) : vs.length = ps.length := by
  induction h with
  | nil => rfl
  | cons _ _ _ _ _ _ ih => rw [List.length_cons, List.length_cons, ih]
theorem PcsAre.mono {tups tups' vs ps} (h : PcsAre tups vs ps) (hs : ∀ p ∈ tups, p ∈ tups') : PcsAre tups' vs ps := by
  induction h with
  | nil => exact .nil
  | cons a o p hm ho _ ih => exact .cons a o p (hs _ hm) ho ih
theorem PcsAre.append {tups vs ps vs' ps'} (h : PcsAre tups vs ps) (h' : PcsAre tups vs' ps') : PcsAre tups (vs ++ vs') (ps ++ ps') := by
  induction h with
  | nil => exact h'
  | cons a o p hm ho _ ih => exact .cons a o p hm ho ih
def piecesF (ks : List Int) : Nat → Nat → Nat → List Pc
  | 0, begun, _ => [.gap (ks.drop begun)]
  | f + 1, begun, at' => if at' < ks.length then
      (match (if ks.getD at' 0 = 61 then wordAt ks at' else none) with
        | none => piecesF ks f begun (at' + 1)
        | some (x, e) => .gap (seg ks begun at') :: .word x :: piecesF ks f e.toNat e.toNat)
    else [.gap (ks.drop begun)]
def piecesL (ks : List Int) : List Pc := piecesF ks ks.length 0 0
theorem word_bd {ks : List Int} {i : Int} {x : Str} {e : Int} (h : wordAt ks i = some (x, e)) (h0 : 0 ≤ i) : i + 4 ≤ e ∧ e ≤ ks.length := by
  unfold wordAt at h
  cases hw : wp ks i.toNat with
  | none => rw [hw] at h; cases h
  | some q =>
    obtain ⟨A, B, C, e'⟩ := q
    rw [hw] at h
    obtain ⟨_, _, _, w4, w5⟩ := wp_bd hw
    dsimp only at h
    have : e' = e := by
      (repeat' split at h)
      all_goals first | (cases h; done) | (simp only [Option.some.injEq, Prod.mk.injEq] at h; exact h.2)
    subst this
    omega
theorem piecesF_fuel (ks : List Int) : ∀ (f f' b a : Nat), ks.length - a ≤ f → ks.length - a ≤ f' → piecesF ks f b a = piecesF ks f' b a
  | 0, 0, _, _, _, _ => rfl
  | 0, f' + 1, b, a, h, _ => by rw [piecesF, piecesF, if_neg (by omega)]
  | f + 1, 0, b, a, _, h => by rw [piecesF, piecesF, if_neg (by omega)]
  | f + 1, f' + 1, b, a, h, h' => by
    rw [piecesF, piecesF]
    rw [piecesF_fuel ks f f' b (a + 1) (by omega) (by omega)]
    split
    · split
      · rfl
      · rename_i x e hw
        have hw' : wordAt ks a = some (x, e) := by
          split at hw
          · exact hw
          · cases hw
        have := word_bd hw' (by omega)
        rw [piecesF_fuel ks f f' e.toNat e.toNat (by omega) (by omega)]
    · rfl
theorem pc_end {ks : List Int} {b a : Nat} (h : ks.length ≤ a) : piecesF ks (ks.length - a) b a = [.gap (ks.drop b)] := by
  have e : ks.length - a = 0 := by omega
  rw [e, piecesF]
theorem pc_skip {ks : List Int} {b a : Nat} (h : a < ks.length) (hw : ks.getD a 0 ≠ 61 ∨ wordAt ks a = none) : piecesF ks (ks.length - a) b a = piecesF ks (ks.length - (a + 1)) b (a + 1) := by
  obtain ⟨f, hf⟩ : ∃ f, ks.length - a = f + 1 := ⟨ks.length - a - 1, by omega⟩
  have e : (if ks.getD a 0 = 61 then wordAt ks a else none) = none := by
    split
    · rcases hw with hw | hw
      · exact absurd ‹_› hw
      · exact hw
    · rfl
  rw [hf, piecesF, if_pos h, e]
  exact piecesF_fuel ks f _ b (a + 1) (by omega) (by omega)
theorem pc_word {ks : List Int} {b a : Nat} {x : Str} {e : Int} (h : a < ks.length) (h61 : ks.getD a 0 = 61) (hw : wordAt ks a = some (x, e)) : piecesF ks (ks.length - a) b a = .gap (seg ks b a) :: .word x :: piecesF ks (ks.length - e.toNat) e.toNat e.toNat := by
  obtain ⟨f, hf⟩ : ∃ f, ks.length - a = f + 1 := ⟨ks.length - a - 1, by omega⟩
  have hb := word_bd hw (by omega)
  rw [hf, piecesF, if_pos h, if_pos h61, hw]
  dsimp only
  rw [piecesF_fuel ks f (ks.length - e.toNat) e.toNat e.toNat (by omega) (by omega)]
theorem picked_drop {b : Array UInt8} {ks : List Int} (hb : KBw.bInts b = ks) {a : Int} (h0 : 0 ≤ a) : KBw.bInts (KBy.picked b (some a) none) = ks.drop a.toNat := by
  rw [KBc.ints_picked hb]
  show List.take (ks.length - clipAt ks.length a) (List.drop (clipAt ks.length a) ks) = _
  rw [clip_min _ _ h0]
  by_cases h : a.toNat ≤ ks.length
  · rw [Nat.min_eq_left h, List.take_of_length_le (by rw [List.length_drop]; exact Nat.le_refl _)]
  · rw [Nat.min_eq_right (by omega), List.drop_length, List.take_nil, List.drop_of_length_le (by omega)]
theorem upd2 {l a : Addr} {o o' x : Obj} (h : a ≠ l) : Upd l o o' [(a, x), (l, o)] [(a, x), (l, o')] := .tail h upd1
theorem c_pieces (w : World) (b : Array UInt8) (t : Tok) (ks : List Int) (hb : KBw.bInts b = ks) (hn : ks.length ≤ 1000) : PureC PySem.Challenge.rw_or0048_01.row.prog w (hd.heap_39 w.params) 213 7 [.bytes b t] (fun _ => True) (fun _ tl r => ∃ a vs n tups, r = .ref a ∧ tl = (a, listOf vs.toArray n) :: tups ∧ PcsAre tups vs (piecesL ks)) := by
  k_fill
  refine' pure_wx [(Str.ofString "octets", .bytes b t)] ?k6 ?k7 ?k9 ?kB ?c2 ?c3 ?c4 ?c5 ?c6 ?_
  walk_at "wOpen"
  intro c I G hpre
  have hg := z_ok I (glob_consB (x := Str.ofString "len") (v := .builtin "len") I G rfl (by k_is) (by boot_fast) (by decide) (glob_cons (x := Str.ofString "word_at") (v := .ref 206) I G rfl (by k_is) glob_nil))
  have hn' : ks.length ≤ 16777216 := Nat.le_trans hn (by decide)
  refine run_sound G hg 100 ?_
  walk_at "wGo"
  rename_i lA _ tk0 tk1
  refine wx_while G hg 100 (σ := (Int × Tok) × (Int × Tok) × List Value × List Pc × Nat × List (Addr × Obj)) (fun c => [(Str.ofString "octets", .bytes b t), (Str.ofString "pieces", .ref lA), (Str.ofString "begun", .int c.1.1 c.1.2), (Str.ofString "at", .int c.2.1.1 c.2.1.2)]) (fun c => (lA, listOf c.2.2.1.toArray c.2.2.2.2.1) :: c.2.2.2.2.2)
    (fun c => 0 ≤ c.1.1 ∧ c.1.1 ≤ c.2.1.1 ∧ c.2.1.1 ≤ ks.length ∧ PcsAre c.2.2.2.2.2 c.2.2.1 c.2.2.2.1 ∧ (∀ p ∈ c.2.2.2.2.2, p.1 ≠ lA) ∧ (c.2.2.2.1.length : Int) ≤ c.2.1.1 ∧ c.2.2.2.1 ++ piecesF ks (ks.length - c.2.1.1.toNat) c.1.1.toNat c.2.1.1.toNat = piecesL ks) (fun c => ks.length - c.2.1.1.toNat) ((0, tk0), (0, tk1), [], [], 0, []) (fun p hp => hp) ?_ ⟨Int.le_refl _, Int.le_refl _, Int.natCast_nonneg _, .nil, (fun _ h => nomatch h), Int.le_refl _, rfl⟩ ?_
  · exact List.forall_mem_cons.mpr ⟨rfl, List.forall_mem_cons.mpr ⟨rfl, List.forall_mem_cons.mpr ⟨rfl, List.forall_mem_cons.mpr ⟨rfl, nil_mem⟩⟩⟩⟩
  rintro ⟨⟨bg, tbg⟩, ⟨j, tj⟩, vs, ps, n, tups⟩ ⟨hb0, hbj, hjl, hP, hall, hl, he⟩
  dsimp only at hb0 hbj hjl hP hall hl he ⊢
  have hvl : vs.length ≤ 4000 := by have := hP.length; omega
  have hj0 : 0 ≤ j := Int.le_trans hb0 hbj
  have hjj : ((j.toNat : Nat) : Int) = j := Int.toNat_of_nonneg hj0
  have skip : j < ks.length → ks.getD j.toNat 0 ≠ 61 ∨ wordAt ks j = none → (0 ≤ bg ∧ bg ≤ j + 1 ∧ j + 1 ≤ ks.length ∧ PcsAre tups vs ps ∧ (∀ p ∈ tups, p.1 ≠ lA) ∧ (ps.length : Int) ≤ j + 1 ∧ ps ++ piecesF ks (ks.length - (j + 1).toNat) bg.toNat (j + 1).toNat = piecesL ks) ∧ ks.length - (j + 1).toNat < ks.length - j.toNat := fun hlt hw => by
    have e1 : (j + 1).toNat = j.toNat + 1 := Int.toNat_add hj0 (by decide)
    have u := pc_skip (b := bg.toNat) (a := j.toNat) (by omega : j.toNat < ks.length) (by rw [hjj]; exact hw)
    exact ⟨⟨hb0, Int.le_trans hbj (Int.le_of_lt (Int.lt_succ j)), hlt, hP, hall, Int.le_trans hl (Int.le_of_lt (Int.lt_succ j)), by rw [e1, ← u]; exact he⟩, by omega⟩
  walk_at "wGo"
  refine wx_len hn' hb ?_
  walk_at "wGo"
  · rename_i hlt
    refine wx_item hn' hb hj0 hlt ?_
    walk_at "wGo"
    · rename_i h61
      refine wx_call I G (c_word_at w b t j _ ks hb hn hj0 hlt) (by decide) (fun _ _ _ _ => trivial) ?_
      rintro hp r tl ne (⟨hw, rfl, rfl⟩ | ⟨x, e, hw, a, t1, t2, rfl, rfl⟩)
      · walk_at "wGo"
        refine wx_is_none ?_
        walk_at "wGo"
        · rename_i t5
          have f := skip hlt (.inr hw)
          exact ⟨((bg, tbg), (j + 1, t5), vs, ps, n, tups), fun p hp => hp, List.forall_mem_cons.mpr ⟨rfl, List.forall_mem_cons.mpr ⟨rfl, List.forall_mem_cons.mpr ⟨rfl, List.forall_mem_cons.mpr ⟨rfl, nil_mem⟩⟩⟩⟩, f.1, f.2⟩
        · rename (¬ _) => h
          exact absurd rfl h
      · walk_at "wGo"
        refine wx_is_ref ?_
        walk_at "wGo"
        · rename (false = true) => h
          cases h
        · obtain ⟨hw1, hw2⟩ := word_bd hw hj0
          have ne1 : a ≠ lA := ne _ (.head _) _ (.head _)
          refine wx_append G hg 60 rfl rfl (.tail _ (.head _)) (Nat.le_trans hvl (by decide)) rfl ?_
          walk_at "wGo"
          refine wx_slice (lo := some bg) (hi := some j) hn' hb (.int _ _) (.int _ _) ?_
          walk_at "wGo"
          rename_i tG _ aG hG
          have neG : aG ≠ lA := Ne.symm (Nat.ne_of_lt (hG _ (.tail _ (.head _))))
          refine ⟨_, .tail neG (.tail ne1 (.head hall)), ?_⟩
          walk_at "wGo"
          refine wx_append G hg 60 rfl rfl (.tail _ (.tail _ (.head _))) (by rw [List.length_append, List.length_singleton]; omega) rfl ?_
          walk_at "wGo"
          refine wx_tup (k := 0) (.tail _ (.head _)) (Nat.zero_lt_succ _) (by decide) rfl ?_
          walk_at "wGo"
          rename_i aW hW
          have neW : aW ≠ lA := Ne.symm (Nat.ne_of_lt (hW _ (.tail _ (.tail _ (.head _)))))
          refine ⟨_, .tail neW (.tail neG (.tail ne1 (.head hall))), ?_⟩
          walk_at "wGo"
          refine wx_tup (k := 1) (.tail _ (.tail _ (.head _))) (Nat.lt_succ_self 1) (by decide) rfl ?_
          walk_at "wGo"
          refine ⟨((e, t2), (e, t2), vs ++ [.ref aG] ++ [.ref aW], ps ++ [.gap (seg ks bg.toNat j.toNat)] ++ [.word x], n + 1 + 1, (aW, ({ cls := .type "tuple", data := .seq #[.bool true, .str x t1] } : Obj)) :: (aG, ({ cls := .type "tuple", data := .seq #[.bool false, .bytes (KBy.picked b (some bg) (some j)) tG] } : Obj)) :: tups), ?_, List.forall_mem_cons.mpr ⟨rfl, List.forall_mem_cons.mpr ⟨rfl, List.forall_mem_cons.mpr ⟨rfl, List.forall_mem_cons.mpr ⟨rfl, nil_mem⟩⟩⟩⟩, ⟨Int.le_trans (Int.le_trans hj0 (Int.le_add_of_nonneg_right (by decide))) hw1, Int.le_refl e, hw2, ?_, ?_, ?_, ?_⟩, ?_⟩
          · intro p hp
            rcases List.mem_cons.mp hp with h | hp
            · exact h ▸ .tail _ (.tail _ (.tail _ (.head _)))
            rcases List.mem_cons.mp hp with h | hp
            · exact h ▸ .head _
            rcases List.mem_cons.mp hp with h | hp
            · exact h ▸ .tail _ (.head _)
            · exact .tail _ (.tail _ (.tail _ (.tail _ hp)))
          · exact ((hP.mono fun p hp => .tail _ (.tail _ hp)).append (.cons _ _ (.gap _) (.tail _ (.head _)) ⟨_, _, rfl, picked_seg hb hb0 hbj⟩ .nil)).append (.cons _ _ (.word _) (.head _) ⟨_, rfl⟩ .nil)
          · intro p hp
            rcases List.mem_cons.1 hp with h | hp
            · rw [h]; exact neW
            rcases List.mem_cons.1 hp with h | hp
            · rw [h]; exact neG
            · exact hall p hp
          · dsimp only
            rw [List.length_append, List.length_append, List.length_singleton, List.length_singleton]; omega
          · have u := pc_word (b := bg.toNat) (by omega : j.toNat < ks.length) h61 (by rw [hjj]; exact hw)
            rw [List.append_assoc, List.append_assoc, List.singleton_append, List.singleton_append, ← u]
            exact he
          · dsimp only; omega
    · rename_i h61
      refine wx_is_none ?_
      walk_at "wGo"
      · rename_i t5
        have f := skip hlt (.inl h61)
        exact ⟨((bg, tbg), (j + 1, t5), vs, ps, n, tups), fun p hp => hp, List.forall_mem_cons.mpr ⟨rfl, List.forall_mem_cons.mpr ⟨rfl, List.forall_mem_cons.mpr ⟨rfl, List.forall_mem_cons.mpr ⟨rfl, nil_mem⟩⟩⟩⟩, f.1, f.2⟩
      · rename (¬ _ = true) => h
        exact absurd rfl h
  · rename_i hge
    have hge2 : ks.length ≤ j.toNat := by omega
    rw [pc_end hge2] at he
    refine wx_slice (lo := some bg) (hi := none) hn' hb (.int _ _) .none ?_
    walk_at "wGo"
    rename_i tD _ aD hD lB hB
    refine wx_addl (xs := vs) (ys := [.ref aD]) (.tail _ (.tail _ (.head _))) (.head _) (by rw [List.length_singleton]; omega) ?_
    walk_at "wGo"
    rename_i D hDD
    refine ⟨(D, listOf (vs ++ [Value.ref aD]).toArray 0) :: (aD, ({ cls := .type "tuple", data := .seq #[.bool false, .bytes (KBy.picked b (some bg) none) tD] } : Obj)) :: tups, ?_, D, vs ++ [Value.ref aD], 0, _, rfl, rfl, ?_⟩
    · intro p hp
      rcases List.mem_cons.mp hp with h | hp
      · exact h ▸ .head _
      rcases List.mem_cons.mp hp with h | hp
      · exact h ▸ .tail _ (.tail _ (.head _))
      · exact .tail _ (.tail _ (.tail _ (.tail _ hp)))
    · rw [← he]
      exact (hP.mono fun p hp => .tail _ hp).append (.cons _ _ _ (.head _) ⟨_, _, rfl, picked_drop hb hb0⟩ .nil)
end
section
def wpS (s : List Int) : Option (List Int × List Int × List Int × Nat) :=
  if s.take 2 = [61, 63] then
    match pe (s.drop 2) with
    | none => none
    | some n1 =>
      match pe (s.drop (3 + n1)) with
      | none => none
      | some n2 =>
        match pe (s.drop (4 + n1 + n2)) with
        | none => none
        | some n3 => if (s.drop (4 + n1 + n2 + n3)).take 2 = [63, 61] then some ((s.drop 2).take n1, (s.drop (3 + n1)).take n2, (s.drop (4 + n1 + n2)).take n3, 6 + n1 + n2 + n3) else none
  else none
theorem wp_eq (ks : List Int) (i : Nat) : wp ks i = (wpS (ks.drop i)).map fun q => (q.1, q.2.1, q.2.2.1, (i : Int) + (q.2.2.2 : Nat)) := by
  unfold wp wpS
  simp only [List.drop_drop]
  by_cases h : (ks.drop i).take 2 = [61, 63]
  · rw [if_pos h, if_pos h]
    unfold partEnd
    cases h1 : pe (ks.drop (i + 2)) with
    | none => simp
    | some n1 =>
      have a1 : ¬ ((i + 2 : Nat) : Int) + (n1 : Nat) < 0 := by omega
      have b1 : (((i + 2 : Nat) : Int) + (n1 : Nat)).toNat + 1 = i + (3 + n1) := by omega
      dsimp only
      rw [if_neg a1, b1]
      cases h2 : pe (ks.drop (i + (3 + n1))) with
      | none => simp
      | some n2 =>
        have a2 : ¬ ((i + (3 + n1) : Nat) : Int) + (n2 : Nat) < 0 := by omega
        have b2 : (((i + (3 + n1) : Nat) : Int) + (n2 : Nat)).toNat + 1 = i + (4 + n1 + n2) := by omega
        dsimp only
        rw [if_neg a2, b2]
        cases h3 : pe (ks.drop (i + (4 + n1 + n2))) with
        | none => simp
        | some n3 =>
          have a3 : ¬ ((i + (4 + n1 + n2) : Nat) : Int) + (n3 : Nat) < 0 := by omega
          have b3 : (((i + (4 + n1 + n2) : Nat) : Int) + (n3 : Nat)).toNat = i + (4 + n1 + n2 + n3) := by omega
          dsimp only
          rw [if_neg a3, b3]
          by_cases h4 : (ks.drop (i + (4 + n1 + n2 + n3))).take 2 = [63, 61]
          · rw [if_pos h4, if_pos h4]
            simp only [Option.map_some, Option.some.injEq, Prod.mk.injEq]
            unfold seg
            refine ⟨?_, ?_, ?_, by omega⟩
            · congr 1; omega
            · congr 1; omega
            · congr 1; omega
          · rw [if_neg h4, if_neg h4]; rfl
  · rw [if_neg h, if_neg h]; rfl
/-- a white opening: no word's sign -/
def White (c : Int) : Prop := c = 9 ∨ c = 10 ∨ c = 13 ∨ c = 32
theorem white_ne {c : Int} (h : White c) : isSign c = false ∧ c ≠ 63 ∧ c ≠ 61 := by
  rcases h with h | h | h | h <;> (subst h; decide)
theorem pe_app {c : Int} (hc : White c) (V : List Int) : ∀ t : List Int, pe (t ++ c :: V) = pe t
  | [] => by
    obtain ⟨h1, h2, _⟩ := white_ne hc
    show pe (c :: V) = none
    unfold pe
    rw [if_neg (by rw [h1]; decide), if_neg h2]
  | d :: r => by rw [List.cons_append, pe, pe, pe_app hc V r]
theorem take2_app {c a b : Int} (V : List Int) (ha : c ≠ a) (hb : c ≠ b) : ∀ t : List Int, (t ++ c :: V).take 2 = [a, b] ↔ t.take 2 = [a, b]
  | [] => by
    constructor
    · intro h
      cases V <;> simp_all
    · intro h; cases h
  | [d] => by simp [ha, hb]
  | d :: d' :: r => by simp
theorem pe_le {t : List Int} {n : Nat} (h : pe t = some n) : n < t.length := pe_lt t n h
theorem wpS_app {c : Int} (hc : White c) (V s : List Int) : wpS (s ++ c :: V) = wpS s := by
  obtain ⟨h1, h2, h3⟩ := white_ne hc
  unfold wpS
  by_cases h : s.take 2 = [61, 63]
  · have l2 := take2_len (z := 0) (by simpa using h)
    rw [if_pos h, if_pos ((take2_app V h3 h2 s).2 h), List.drop_append_of_le_length (by omega), pe_app hc]
    cases e1 : pe (s.drop 2) with
    | none => rfl
    | some n1 =>
      have m1 := pe_le e1
      rw [List.length_drop] at m1
      dsimp only
      rw [List.drop_append_of_le_length (by omega), pe_app hc]
      cases e2 : pe (s.drop (3 + n1)) with
      | none => rfl
      | some n2 =>
        have m2 := pe_le e2
        rw [List.length_drop] at m2
        dsimp only
        rw [List.drop_append_of_le_length (by omega), pe_app hc]
        cases e3 : pe (s.drop (4 + n1 + n2)) with
        | none => rfl
        | some n3 =>
          have m3 := pe_le e3
          rw [List.length_drop] at m3
          dsimp only
          rw [List.drop_append_of_le_length (by omega)]
          by_cases h4 : (s.drop (4 + n1 + n2 + n3)).take 2 = [63, 61]
          · rw [if_pos h4, if_pos ((take2_app V h2 h3 _).2 h4)]
            rw [List.take_append_of_le_length (show n1 ≤ (s.drop 2).length by rw [List.length_drop]; omega), List.take_append_of_le_length (show n2 ≤ (s.drop (3 + n1)).length by rw [List.length_drop]; omega), List.take_append_of_le_length (show n3 ≤ (s.drop (4 + n1 + n2)).length by rw [List.length_drop]; omega)]
          · rw [if_neg h4, if_neg (fun q => h4 ((take2_app V h2 h3 _).1 q))]
  · rw [if_neg h, if_neg (fun q => h ((take2_app V h3 h2 s).1 q))]
end
section
theorem getD_l {X V : List Int} {i : Nat} (h : i < X.length) : (X ++ V).getD i 0 = X.getD i 0 := by
  rw [List.getD_eq_getElem?_getD, List.getD_eq_getElem?_getD, List.getElem?_append_left h]
theorem getD_r {U Z : List Int} {i : Nat} : (U ++ Z).getD (U.length + i) 0 = Z.getD i 0 := by
  rw [List.getD_eq_getElem?_getD, List.getD_eq_getElem?_getD, List.getElem?_append_right (Nat.le_add_right _ _), Nat.add_sub_cancel_left]
theorem white_is {c : Int} (h : White c) : isWhite c = true := by
  rcases h with rfl | rfl | rfl | rfl <;> rfl
theorem pred_lt {i : Int} {n : Nat} (h1 : i ≤ n) (h : ¬ i ≤ 0) : (i - 1).toNat < n := by omega
theorem leftOk_l {X V : List Int} {i : Int} (h1 : i ≤ X.length) : leftOk (X ++ V) i = leftOk X i := by
  unfold leftOk
  by_cases h : i ≤ 0
  · rw [decide_eq_true h]; rfl
  · rw [getD_l (pred_lt h1 h)]
theorem rightOk_l {X V : List Int} {c : Int} (hc : White c) {e : Int} (e0 : 0 ≤ e) (e1 : e ≤ X.length) : rightOk (X ++ c :: V) e = rightOk X e := by
  unfold rightOk
  obtain ⟨n, rfl⟩ := Int.eq_ofNat_of_zero_le e0
  rw [Int.toNat_natCast]
  rcases Nat.lt_or_eq_of_le (Int.ofNat_le.mp e1) with h | h
  · rw [getD_l h]
    have a : ¬ (n : Int) = (X ++ c :: V).length := fun q => by rw [Int.ofNat_inj.mp q, List.length_append] at h; exact absurd h (Nat.not_lt.mpr (Nat.le_add_right _ _))
    have b : ¬ (n : Int) = X.length := fun q => absurd (Int.ofNat_inj.mp q) (Nat.ne_of_lt h)
    rw [decide_eq_false a, decide_eq_false b]
  · subst h
    have : (X ++ c :: V).getD X.length 0 = c := getD_r (i := 0)
    rw [this, white_is hc, decide_eq_true (rfl : (X.length : Int) = X.length), Bool.or_true]
    rfl
theorem apart_l {X V : List Int} {c : Int} (hc : White c) {i e : Int} (h1 : i ≤ X.length) (e0 : 0 ≤ e) (e1 : e ≤ X.length) : apart (X ++ c :: V) i e = apart X i e := by
  unfold apart
  rw [leftOk_l h1, rightOk_l hc e0 e1]
theorem leftOk_r {U Z : List Int} (hU : U = [] ∨ ∃ U' c, U = U' ++ [c] ∧ White c) (k : Nat) : leftOk (U ++ Z) ((U.length + k : Nat) : Int) = leftOk Z k := by
  unfold leftOk
  cases k with
  | zero =>
    rcases hU with rfl | ⟨U', c, rfl, hc⟩
    · rfl
    · have e : (((U' ++ [c]).length + 0 : Nat) - 1 : Int).toNat = U'.length + 0 := by rw [List.length_append, List.length_singleton]; omega
      rw [e, List.append_assoc, getD_r]
      have : ([c] ++ Z).getD 0 0 = c := rfl
      rw [this, white_is hc, Bool.or_true]
      rfl
  | succ k =>
    have e : ((U.length + (k + 1) : Nat) - 1 : Int).toNat = U.length + k := by omega
    have e' : ((k + 1 : Nat) - 1 : Int).toNat = k := by omega
    have a : ¬ ((U.length + (k + 1) : Nat) : Int) ≤ 0 := by omega
    have b : ¬ ((k + 1 : Nat) : Int) ≤ 0 := by omega
    rw [e, e', getD_r, decide_eq_false a, decide_eq_false b]
theorem rightOk_r {U Z : List Int} (e : Nat) : rightOk (U ++ Z) ((U.length + e : Nat) : Int) = rightOk Z e := by
  unfold rightOk
  rw [Int.toNat_natCast, Int.toNat_natCast, getD_r]
  have : (((U.length + e : Nat) : Int) = (U ++ Z).length) = ((e : Int) = Z.length) := by rw [List.length_append]; exact propext ⟨fun h => by omega, fun h => by omega⟩
  simp only [this]
theorem apart_r {U Z : List Int} (hU : U = [] ∨ ∃ U' c, U = U' ++ [c] ∧ White c) {k e : Int} (h0 : 0 ≤ k) (e0 : 0 ≤ e) : apart (U ++ Z) (U.length + k) (U.length + e) = apart Z k e := by
  obtain ⟨k, rfl⟩ := Int.eq_ofNat_of_zero_le h0
  obtain ⟨e, rfl⟩ := Int.eq_ofNat_of_zero_le e0
  unfold apart
  exact congr (congrArg _ (leftOk_r hU k)) (rightOk_r e)
theorem wordAt_l {X V : List Int} {c : Int} (hc : White c) {i : Nat} (h : i ≤ X.length) : wordAt (X ++ c :: V) i = wordAt X i := by
  have e1 : wp (X ++ c :: V) i = wp X i := by
    rw [wp_eq, wp_eq, List.drop_append_of_le_length h, wpS_app hc]
  unfold wordAt
  rw [Int.toNat_natCast, e1]
  cases hw : wp X i with
  | none => rfl
  | some q =>
    obtain ⟨A, B, C, e⟩ := q
    obtain ⟨_, _, _, w4, w5⟩ := wp_bd hw
    dsimp only
    rw [apart_l hc (by omega) (by omega) (by omega)]
theorem wordAt_r {U Z : List Int} (hU : U = [] ∨ ∃ U' c, U = U' ++ [c] ∧ White c) (k : Nat) : wordAt (U ++ Z) ((U.length + k : Nat) : Int) = (wordAt Z k).map fun q => (q.1, (U.length : Int) + q.2) := by
  have e1 : wp (U ++ Z) (U.length + k) = (wp Z k).map fun q => (q.1, q.2.1, q.2.2.1, (U.length : Int) + q.2.2.2) := by
    rw [wp_eq, wp_eq]
    have : (U ++ Z).drop (U.length + k) = Z.drop k := by rw [List.drop_append, List.drop_of_length_le (by omega)]; simp
    rw [this, Option.map_map]
    congr 1
    funext q
    simp only [Function.comp, Prod.mk.injEq, true_and]
    omega
  unfold wordAt
  rw [Int.toNat_natCast, Int.toNat_natCast, e1]
  cases hw : wp Z k with
  | none => rfl
  | some q =>
    obtain ⟨A, B, C, e⟩ := q
    obtain ⟨_, _, _, w4, w5⟩ := wp_bd hw
    simp only [Option.map_some]
    have := apart_r (Z := Z) hU (k := k) (e := e) (by omega) (by omega)
    rw [Int.natCast_add, this]
    (repeat' split) <;> rfl
end
section
def nxF (ks : List Int) : Nat → Nat → Nat × List Pc
  | 0, _ => (ks.length, [])
  | f + 1, a => if a < ks.length then
      (match (if ks.getD a 0 = 61 then wordAt ks a else none) with
        | none => nxF ks f (a + 1)
        | some (x, e) => (a, .word x :: .gap (seg ks e.toNat (nxF ks f e.toNat).1) :: (nxF ks f e.toNat).2))
    else (ks.length, [])
theorem seg_all (ks : List Int) (b : Nat) : seg ks b ks.length = ks.drop b := by
  unfold seg
  exact List.take_of_length_le (by rw [List.length_drop]; exact Nat.le_refl _)
theorem pieces_nx (ks : List Int) : ∀ (f b a : Nat), piecesF ks f b a = .gap (seg ks b (nxF ks f a).1) :: (nxF ks f a).2
  | 0, b, a => by rw [piecesF, nxF, seg_all]
  | f + 1, b, a => by
    rw [piecesF, nxF]
    by_cases h : a < ks.length
    · rw [if_pos h, if_pos h]
      cases (if ks.getD a 0 = 61 then wordAt ks a else none) with
      | none => exact pieces_nx ks f b (a + 1)
      | some q =>
        obtain ⟨x, e⟩ := q
        dsimp only
        rw [pieces_nx ks f e.toNat e.toNat]
    · rw [if_neg h, if_neg h, seg_all]
theorem seg_r (U Z : List Int) (a b : Nat) : seg (U ++ Z) (U.length + a) (U.length + b) = seg Z a b := by
  unfold seg
  rw [List.drop_append, List.drop_of_length_le (show U.length ≤ U.length + a by omega), List.nil_append]
  rw [show U.length + a - U.length = a by omega, show U.length + b - (U.length + a) = b - a by omega]
theorem nx_r {U Z : List Int} (hU : U = [] ∨ ∃ U' c, U = U' ++ [c] ∧ White c) : ∀ (f k : Nat), nxF (U ++ Z) f (U.length + k) = (U.length + (nxF Z f k).1, (nxF Z f k).2)
  | 0, k => by rw [nxF, nxF, List.length_append]
  | f + 1, k => by
    rw [nxF, nxF, getD_r, wordAt_r hU]
    by_cases h : k < Z.length
    · rw [if_pos h, if_pos (by rw [List.length_append]; omega)]
      by_cases h61 : Z.getD k 0 = 61
      · rw [if_pos h61, if_pos h61]
        cases hw : wordAt Z k with
        | none =>
          simp only [Option.map_none]
          exact nx_r hU f (k + 1)
        | some q =>
          obtain ⟨x, e⟩ := q
          have hb := word_bd hw (by omega)
          simp only [Option.map_some]
          have e1 : ((U.length : Int) + e).toNat = U.length + e.toNat := by omega
          rw [e1, nx_r hU f e.toNat, seg_r]
      · rw [if_neg h61, if_neg h61]
        exact nx_r hU f (k + 1)
    · rw [if_neg h, if_neg (by rw [List.length_append]; omega), List.length_append]
theorem run_l {X V : List Int} {c : Int} (hc : White c) : ∀ (d b a : Nat), a ≤ X.length → X.length - a = d → b ≤ a → ∃ init b', b' ≤ X.length ∧ piecesF X (X.length - a) b a = init ++ [.gap (X.drop b')] ∧ piecesF (X ++ c :: V) ((X ++ c :: V).length - a) b a = init ++ piecesF (X ++ c :: V) ((X ++ c :: V).length - X.length) b' X.length := by
  intro d
  induction d using Nat.strongRecOn with
  | _ d ih =>
    intro b a ha hd hb
    have hlen : (X ++ c :: V).length = X.length + (V.length + 1) := by simp
    by_cases h : a < X.length
    · have hg : (X ++ c :: V).getD a 0 = X.getD a 0 := getD_l h
      have hwl := wordAt_l (V := V) hc (i := a) ha
      by_cases hw : X.getD a 0 ≠ 61 ∨ wordAt X a = none
      · rw [pc_skip (ks := X) h hw, pc_skip (ks := X ++ c :: V) (a := a) (by omega) (by rw [hg, hwl]; exact hw)]
        exact ih (X.length - (a + 1)) (by omega) b (a + 1) (by omega) rfl (by omega)
      · have h61 : X.getD a 0 = 61 := by
          by_cases q : X.getD a 0 = 61
          · exact q
          · exact absurd (.inl q) hw
        cases hx : wordAt X a with
        | none => exact absurd (.inr hx) hw
        | some q =>
          obtain ⟨x, e⟩ := q
          have hbd := word_bd hx (by omega)
          rw [pc_word (ks := X) h h61 hx, pc_word (ks := X ++ c :: V) (a := a) (by omega) (by rw [hg]; exact h61) (by rw [hwl]; exact hx)]
          obtain ⟨init, b', h1, h2, h3⟩ := ih (X.length - e.toNat) (by omega) e.toNat e.toNat (by omega) rfl (Nat.le_refl _)
          have hs : seg (X ++ c :: V) b a = seg X b a := by
            unfold seg
            rw [List.drop_append_of_le_length (by omega), List.take_append_of_le_length (by rw [List.length_drop]; omega)]
          exact ⟨.gap (seg X b a) :: .word x :: init, b', h1, by rw [h2]; rfl, by rw [h3, hs]; rfl⟩
    · have hax : a = X.length := by omega
      subst hax
      exact ⟨[], b, hb, by rw [pc_end (Nat.le_refl _)]; rfl, rfl⟩
end
section
def YOk (Y : List Int) : Prop := ∀ k, k < Y.length → Y.getD k 0 = 61 → k + 1 < Y.length ∧ Y.getD (k + 1) 0 ≠ 63
theorem no_word {X Y Z : List Int} (hY : YOk Y) {k : Nat} (hk : k < Y.length) : (X ++ Y ++ Z).getD (X.length + k) 0 ≠ 61 ∨ wordAt (X ++ Y ++ Z) ((X.length + k : Nat) : Int) = none := by
  have g : ∀ j, j < Y.length → (X ++ Y ++ Z).getD (X.length + j) 0 = Y.getD j 0 := fun j hj => by rw [List.append_assoc, getD_r, getD_l hj]
  by_cases h : Y.getD k 0 = 61
  · obtain ⟨h1, h2⟩ := hY k hk h
    refine .inr ?_
    have e : wp (X ++ Y ++ Z) (X.length + k) = none := by
      unfold wp
      rw [if_neg]
      intro q
      have q1 := congrArg (fun l : List Int => l.getD 1 0) q
      have q2 : (X ++ Y ++ Z).getD (X.length + (k + 1)) 0 = 63 := by
        rw [← Nat.add_assoc]
        simp only [List.getD_eq_getElem?_getD, List.getElem?_take, List.getElem?_drop] at q1
        rw [List.getD_eq_getElem?_getD]
        simpa using q1
      rw [g (k + 1) h1] at q2
      exact h2 q2
    unfold wordAt
    rw [Int.toNat_natCast, e]
  · exact .inl (by rw [g k hk]; exact h)
theorem skip_Y {X Y Z : List Int} (hY : YOk Y) (b : Nat) : ∀ (d k : Nat), Y.length - k = d → k ≤ Y.length → piecesF (X ++ Y ++ Z) ((X ++ Y ++ Z).length - (X.length + k)) b (X.length + k) = piecesF (X ++ Y ++ Z) ((X ++ Y ++ Z).length - (X ++ Y).length) b (X ++ Y).length
  | 0, k, h, hk => by
    have : X.length + k = (X ++ Y).length := by rw [List.length_append]; omega
    rw [this]
  | d + 1, k, h, hk => by
    rw [pc_skip (ks := X ++ Y ++ Z) (a := X.length + k) (by simp only [List.length_append]; omega) (no_word hY (by omega))]
    exact skip_Y hY b d (k + 1) (by omega) (by omega)
theorem pieces_join {X Y Z : List Int} (hY : YOk Y) {c : Int} {Y1 : List Int} (h1 : Y = c :: Y1) (hc : White c) {Y2 : List Int} {c2 : Int} (h2 : Y = Y2 ++ [c2]) (hc2 : White c2) :
    ∃ i1 g1 g2 r2, piecesL X = i1 ++ [Pc.gap g1] ∧ piecesL Z = Pc.gap g2 :: r2 ∧ piecesL (X ++ Y ++ Z) = i1 ++ [Pc.gap (g1 ++ Y ++ g2)] ++ r2 := by
  obtain ⟨init, b', hb', e1, e2⟩ := run_l (X := X) (V := Y1 ++ Z) hc X.length 0 0 (Nat.zero_le _) rfl (Nat.le_refl _)
  have hW : X ++ c :: (Y1 ++ Z) = X ++ Y ++ Z := by rw [h1]; simp
  rw [hW] at e2
  have s := skip_Y (X := X) (Z := Z) hY b' (Y.length - 0) 0 rfl (Nat.zero_le _)
  rw [Nat.add_zero] at s
  rw [s] at e2
  have hU : X ++ Y = [] ∨ ∃ U' c, X ++ Y = U' ++ [c] ∧ White c := .inr ⟨X ++ Y2, c2, by rw [h2]; simp, hc2⟩
  have hl : (X ++ Y ++ Z).length - (X ++ Y).length = Z.length := by rw [List.length_append (as := X ++ Y)]; omega
  have n1 := nx_r (Z := Z) hU Z.length 0
  rw [Nat.add_zero] at n1
  rw [hl, pieces_nx (X ++ Y ++ Z) Z.length b', n1] at e2
  refine ⟨init, X.drop b', seg Z 0 (nxF Z Z.length 0).1, (nxF Z Z.length 0).2, e1, pieces_nx Z Z.length 0 0, ?_⟩
  show piecesF (X ++ Y ++ Z) ((X ++ Y ++ Z).length - 0) 0 0 = _
  rw [e2]
  dsimp only
  have hs : seg (X ++ Y ++ Z) b' ((X ++ Y).length + (nxF Z Z.length 0).1) = X.drop b' ++ Y ++ seg Z 0 (nxF Z Z.length 0).1 := by
    unfold seg
    rw [List.drop_append_of_le_length (by rw [List.length_append]; omega), List.drop_append_of_le_length hb', List.drop_zero, Nat.sub_zero]
    have : (X ++ Y).length + (nxF Z Z.length 0).1 - b' = (X.drop b' ++ Y).length + (nxF Z Z.length 0).1 := by rw [List.length_append, List.length_append, List.length_drop]; omega
    rw [this, List.take_length_add_append]
  rw [hs]
  simp
/-- the pieces alternate: gap, word, gap, .., gap -/
def Alt : List Pc → Prop
  | [.gap _] => True
  | .gap _ :: .word _ :: r => Alt r
  | _ => False
theorem alt_F (ks : List Int) : ∀ (f b a : Nat), Alt (piecesF ks f b a)
  | 0, _, _ => trivial
  | f + 1, b, a => by
    unfold piecesF
    by_cases h : a < ks.length
    · rw [if_pos h]
      cases (if ks.getD a 0 = 61 then wordAt ks a else none) with
      | none => exact alt_F ks f b (a + 1)
      | some q => exact alt_F ks f _ _
    · rw [if_neg h]
      exact trivial
def Pc.isWord : Pc → Bool
  | .gap _ => false
  | .word _ => true
theorem alt_len : ∀ (l : List Pc), Alt l → l.length % 2 = 1
  | [], h => h.elim
  | [.gap _], _ => rfl
  | [.word _], h => h.elim
  | .gap _ :: .gap _ :: _, h => h.elim
  | .word _ :: _ :: _, h => h.elim
  | .gap _ :: .word _ :: r, h => by have := alt_len r h; simp only [List.length_cons]; omega
theorem alt_bits : ∀ (l : List Pc), Alt l → ∀ i p, l[i]? = some p → p.isWord = decide (i % 2 = 1)
  | [], h, _, _, _ => h.elim
  | [.gap _], _, 0, _, hp => by cases hp; rfl
  | [.gap _], _, i + 1, _, hp => by simp at hp
  | [.word _], h, _, _, _ => h.elim
  | .gap _ :: .gap _ :: _, h, _, _, _ => h.elim
  | .word _ :: _ :: _, h, _, _, _ => h.elim
  | .gap _ :: .word _ :: r, h, 0, _, hp => by cases hp; rfl
  | .gap _ :: .word _ :: r, h, 1, _, hp => by cases hp; rfl
  | .gap _ :: .word _ :: r, h, i + 2, p, hp => by
    have := alt_bits r h i p (by simpa using hp)
    rw [this]
    congr 1
    rw [Nat.add_mod_right]
theorem pieces_len (ks : List Int) : ∀ (f b a : Nat), (piecesF ks f b a).length ≤ 2 * f + 1
  | 0, _, _ => Nat.le_refl _
  | f + 1, b, a => by
    unfold piecesF
    by_cases h : a < ks.length
    · rw [if_pos h]
      cases (if ks.getD a 0 = 61 then wordAt ks a else none) with
      | none => exact Nat.le_trans (pieces_len ks f b (a + 1)) (by omega)
      | some q => have := pieces_len ks f q.2.toNat q.2.toNat; simp only [List.length_cons]; omega
    · rw [if_neg h]; simp
end
section
theorem nat64 {x : Int} (h0 : 0 ≤ x) (h1 : x < 18446744073709551616) : x.natAbs < 18446744073709551616 := by omega
theorem stir1 {x spot : Int} (h0 : 0 ≤ spot) (h1 : spot ≤ 100) : 0 ≤ x % 2147483587 + 20947 * spot + 3571 ∧ x % 2147483587 + 20947 * spot + 3571 < 18446744073709551616 := by omega
theorem stir2 {x spot : Int} (h0 : 0 ≤ spot) (h1 : spot ≤ 100) : 0 ≤ x % 2147483629 * (2 * spot + 7207) + 20947 * spot * spot + 31 ∧ x % 2147483629 * (2 * spot + 7207) + 20947 * spot * spot + 31 < 18446744073709551616 := by
  have a0 : 0 ≤ x % 2147483629 := Int.emod_nonneg _ (by decide)
  have a1 : x % 2147483629 ≤ 2147483629 := Int.le_of_lt (Int.emod_lt_of_pos _ (by decide))
  have b0 : 0 ≤ 2 * spot + 7207 := by omega
  have b1 : 2 * spot + 7207 ≤ 7407 := by omega
  have p0 := Int.mul_nonneg a0 b0
  have p1 := Int.mul_le_mul a1 b1 b0 (by decide : (0 : Int) ≤ 2147483629)
  have q0 := Int.mul_nonneg (Int.mul_nonneg (by decide : (0 : Int) ≤ 20947) h0) h0
  have q1 := Int.mul_le_mul (Int.mul_le_mul_of_nonneg_left h1 (by decide : (0 : Int) ≤ 20947)) h1 h0 (by decide : (0 : Int) ≤ 20947 * 100)
  omega
theorem great0 {A : Int} {b : Bool} (h : 1000000000000000000 ≤ A) : 0 ≤ 2 * (A - 1000000000000000000) + (if b then 1 else 0) := by
  split <;> omega
abbrev OutDraw (c0 : Addr) (spot many : Int) : Value → Obj → Prop := fun r o => ∃ (d : Int) (t : Tok) (spot' held' : Int) (t1 t2 : Tok) (n : Nat), r = .int d t ∧ o = listOf #[.ref c0, .int spot' t1, .int held' t2] n ∧ 0 ≤ d ∧ d < many ∧ 0 ≤ held' ∧ spot ≤ spot' ∧ spot' ≤ spot + 1
theorem t_draw (w : World) (q c0 : Addr) (spot held many : Int) (t1 t2 tm : Tok) (n : Nat) (cs : List Value) (cells : List Int) (hI : IntsAre cs cells) (hc : cells.length ≤ 40) (hs0 : 0 ≤ spot) (hs1 : spot ≤ 100) (hh : 0 ≤ held) (hm : 1 ≤ many) (hm2 : many ≤ 100) :
    MutC PySem.Challenge.rw_or0048_01.row.prog w (hd.heap_39 w.params) 225 10 [.ref q, .int many tm] q (listOf #[.ref c0, .int spot t1, .int held t2] n) (fun g => g.IsList c0 cs.toArray) (OutDraw c0 spot many) := by
  k_fill
  refine' mut_wx [(Str.ofString "pen", .ref q), (Str.ofString "many", .int many tm)] ?k6 ?k7 ?k9 ?kB ?c2 ?c3 ?c4 ?c5 ?c6 ?_
  walk_at "wOpen"
  intro c I G hpre
  have hg := z_ok I (glob_consB (x := Str.ofString "len") (v := .builtin "len") I G rfl (by k_is) (by boot_fast) (by decide) (glob_consB (x := Str.ofString "abs") (v := .builtin "abs") I G rfl (by k_is) (by boot_fast) (by decide) (glob_consB (x := Str.ofString "sum") (v := .builtin "sum") I G rfl (by k_is) (by boot_fast) (by decide) (glob_consB (x := Str.ofString "int") (v := .type "int") I G rfl (by k_is) (by boot_fast) (by decide) glob_nil))))
  have hu := G.hu
  have hcs : cs.length ≤ 4096 := by rw [hI.length]; exact Nat.le_trans hc (by decide)
  have m0 : 0 < many := hm
  have m1 : many ≤ 1000 := Int.le_trans hm2 (by decide)
  have dm : ∀ x : Int, 0 ≤ x % many ∧ x % many < many := fun x => ⟨Int.emod_nonneg _ (Int.ne_of_gt m0), Int.emod_lt_of_pos _ m0⟩
  have pl : Value.ref q = .ref q := rfl
  refine run_sound G hg 600 ?_
  walk_at "wGo"
  refine wx_itemL (k := 2) (.head _) (by decide) (by decide) rfl ?_
  walk_at "wGo"
  · refine wx_itemL (k := 2) (.head _) (by decide) (by decide) rfl ?_
    walk_at "wGo"
    refine wx_int ?_
    walk_at "wGo"
    refine ⟨m0, ?_⟩
    walk_at "wGo"
    refine wx_setL G hg 60 (l := q) (cap := n) (vs := [.ref c0, .int spot t1, .int held t2]) rfl (by decide) (show (2 : Int) < 3 by decide) (by decide) ?_
    walk_at "wGo"
    refine wx_itemL (k := 2) (.head _) (by decide) (by decide) rfl ?_
    walk_at "wGo"
    refine wx_int ?_
    walk_at "wGo"
    refine ⟨⟨m0, m1⟩, ?_⟩
    intro t5
    refine ⟨rfl, _, upd1, ?_⟩
    walk_at "wGo"
    exact ⟨_, .head _, _, _, spot, held / many, _, _, _, rfl, rfl, (dm held).1, (dm held).2, Int.ediv_nonneg hh (Int.le_of_lt m0), Int.le_refl _, Int.le_add_one (Int.le_refl _)⟩
  · refine wx_itemL (k := 1) (.head _) (by decide) (by decide) rfl ?_
    walk_at "wGo"
    refine wx_setL G hg 60 (l := q) (cap := n) (vs := [.ref c0, .int spot t1, .int held t2]) rfl (by decide) (show (1 : Int) < 3 by decide) (by decide) ?_
    walk_at "wGo"
    rename_i t5
    refine ⟨_, upd1, ?_⟩
    walk_at "wGo"
    refine ⟨.inl (by decide), ?_⟩
    walk_at "wGo"
    refine wx_itemL (k := 0) (.head _) (by decide) (by decide) rfl ?_
    walk_at "wGo"
    refine wxs_turn (.Name (Str.ofString "_") ⟨0, 0, 0, 0⟩) (fun _ => rfl) (wx_cut1 hpre hI (by decide) (Nat.le_trans hc (by decide)) ?_)
    intro D ws hw hD
    have nD : D ≠ q := Ne.symm (Nat.ne_of_lt (hD _ (.head _)))
    walk_at "wGo"
    refine wx_sum (.head _) hw ?_
    walk_at "wGo"
    refine wx_int ?_
    walk_at "wGo"
    refine wx_itemL (k := 0) (.tail _ (.head _)) (by decide) (by decide) rfl ?_
    walk_at "wGo"
    rename_i E hE
    have nE : E ≠ q := Ne.symm (Nat.ne_of_lt (hE _ (.tail _ (.head _))))
    refine wx_nel (by omega) hpre (.head _) hI .nil ?_
    walk_at "wGo"
    · rename ((!_) = true) => hne
      have hpos : 0 < (cells.length : Int) := by
        cases cells with
        | nil => cases hne
        | cons _ _ => exact Int.ofNat_lt.mpr (Nat.zero_lt_succ _)
      refine wx_itemL (k := 0) (.tail _ (.tail _ (.head _))) (by decide) (by decide) rfl ?_
      walk_at "wGo"
      refine wx_int ?_
      walk_at "wGo"
      refine wx_itemL (k := 0) (.tail _ (.tail _ (.head _))) (by decide) (by decide) rfl ?_
      walk_at "wGo"
      refine wx_lenB hpre hcs ?_
      rw [hI.length]
      walk_at "wGo"
      refine ⟨hpos, ?_⟩
      walk_at "wGo"
      refine wx_itemB hpre hI (Int.emod_nonneg _ (Int.ne_of_gt hpos)) (Int.emod_lt_of_pos _ hpos) (Int.lt_trans (Int.emod_lt_of_pos _ hpos) (by omega)) ?_
      walk_at "wGo"
      refine wx_itemL (k := 0) (.tail _ (.tail _ (.head _))) (by decide) (by decide) rfl ?_
      walk_at "wGo"
      refine wx_lenB hpre hcs ?_
      walk_at "wGo"
      · refine wx_abs ?_
        walk_at "wGo"
        refine wx_pow18 ?_
        walk_at "wGo"
        · rename ((1000000000000000000 : Int) ≤ _) => hA
          refine wx_abs ?_
          walk_at "wGo"
          refine wx_pow18 ?_
          walk_at "wGo"
          refine ⟨.inl (by decide), ?_⟩
          walk_at "wGo"
          refine wx_intB ?_
          walk_at "wGo"
          refine wx_setL G hg 60 (l := q) (cap := n) (vs := [.ref c0, .int (spot + 1) t5, .int held t2]) rfl (by decide) (show (2 : Int) < 3 by decide) (by decide) ?_
          walk_at "wGo"
          refine wx_int ?_
          walk_at "wGo"
          refine ⟨⟨m0, m1⟩, ?_⟩
          intro t6
          refine ⟨rfl, _, .tail nE (.tail nD upd1), ?_⟩
          walk_at "wGo"
          refine wx_int ?_
          walk_at "wGo"
          refine ⟨m0, ?_⟩
          walk_at "wGo"
          exact ⟨_, .tail _ (.tail _ (.head _)), _, _, spot + 1, _, _, _, _, rfl, rfl, (dm _).1, (dm _).2, Int.ediv_nonneg (great0 hA) (Int.le_of_lt m0), Int.le_add_one (Int.le_refl _), Int.le_refl _⟩
        · refine wx_int ?_
          walk_at "wGo"
          refine ⟨.inl (by decide), ?_⟩
          walk_at "wGo"
          refine wx_pow (stir1 hs0 hs1).1 (stir1 hs0 hs1).2 (by decide) (by decide) ?_
          intro r1 tr1 hr1
          walk_at "wGo"
          refine wx_int ?_
          walk_at "wGo"
          refine ⟨.inl (by decide), ?_⟩
          walk_at "wGo"
          refine ⟨.inl (nat64 (Int.emod_nonneg _ (by decide)) (Int.lt_trans (Int.emod_lt_of_pos _ (by decide)) (by decide))), ?_⟩
          walk_at "wGo"
          refine ⟨.inl (by decide), ?_⟩
          walk_at "wGo"
          refine ⟨.inl (nat64 (Int.mul_nonneg (by decide) hs0) (Int.lt_of_le_of_lt (Int.mul_le_mul_of_nonneg_left hs1 (by decide)) (by decide))), ?_⟩
          walk_at "wGo"
          refine wx_pow (stir2 hs0 hs1).1 (stir2 hs0 hs1).2 (by decide) (by decide) ?_
          intro r2 tr2 hr2
          walk_at "wGo"
          refine wx_int ?_
          walk_at "wGo"
          refine wx_int ?_
          walk_at "wGo"
          refine ⟨m0, ?_⟩
          walk_at "wGo"
          exact ⟨_, .tail _ (.tail _ (.head _)), _, _, spot + 1, held, _, _, _, rfl, rfl, (dm _).1, (dm _).2, hh, Int.le_add_one (Int.le_refl _), Int.le_refl _⟩
      · refine wx_int ?_
        walk_at "wGo"
        refine ⟨.inl (by decide), ?_⟩
        walk_at "wGo"
        refine wx_pow (stir1 hs0 hs1).1 (stir1 hs0 hs1).2 (by decide) (by decide) ?_
        intro r1 tr1 hr1
        walk_at "wGo"
        refine wx_int ?_
        walk_at "wGo"
        refine ⟨.inl (by decide), ?_⟩
        walk_at "wGo"
        refine ⟨.inl (nat64 (Int.emod_nonneg _ (by decide)) (Int.lt_trans (Int.emod_lt_of_pos _ (by decide)) (by decide))), ?_⟩
        walk_at "wGo"
        refine ⟨.inl (by decide), ?_⟩
        walk_at "wGo"
        refine ⟨.inl (nat64 (Int.mul_nonneg (by decide) hs0) (Int.lt_of_le_of_lt (Int.mul_le_mul_of_nonneg_left hs1 (by decide)) (by decide))), ?_⟩
        walk_at "wGo"
        refine wx_pow (stir2 hs0 hs1).1 (stir2 hs0 hs1).2 (by decide) (by decide) ?_
        intro r2 tr2 hr2
        walk_at "wGo"
        refine wx_int ?_
        walk_at "wGo"
        refine wx_int ?_
        walk_at "wGo"
        refine ⟨m0, ?_⟩
        walk_at "wGo"
        exact ⟨_, .tail _ (.tail _ (.head _)), _, _, spot + 1, held, _, _, _, rfl, rfl, (dm _).1, (dm _).2, hh, Int.le_add_one (Int.le_refl _), Int.le_refl _⟩
    · walk_at "wGo"
      refine wx_itemL (k := 0) (.tail _ (.tail _ (.head _))) (by decide) (by decide) rfl ?_
      walk_at "wGo"
      refine wx_lenB hpre hcs ?_
      walk_at "wGo"
      · refine wx_abs ?_
        walk_at "wGo"
        refine wx_pow18 ?_
        walk_at "wGo"
        · rename ((1000000000000000000 : Int) ≤ _) => hA
          refine wx_abs ?_
          walk_at "wGo"
          refine wx_pow18 ?_
          walk_at "wGo"
          refine ⟨.inl (by decide), ?_⟩
          walk_at "wGo"
          refine wx_intB ?_
          walk_at "wGo"
          refine wx_setL G hg 60 (l := q) (cap := n) (vs := [.ref c0, .int (spot + 1) t5, .int held t2]) rfl (by decide) (show (2 : Int) < 3 by decide) (by decide) ?_
          walk_at "wGo"
          refine wx_int ?_
          walk_at "wGo"
          refine ⟨⟨m0, m1⟩, ?_⟩
          intro t6
          refine ⟨rfl, _, .tail nE (.tail nD upd1), ?_⟩
          walk_at "wGo"
          refine wx_int ?_
          walk_at "wGo"
          refine ⟨m0, ?_⟩
          walk_at "wGo"
          exact ⟨_, .tail _ (.tail _ (.head _)), _, _, spot + 1, _, _, _, _, rfl, rfl, (dm _).1, (dm _).2, Int.ediv_nonneg (great0 hA) (Int.le_of_lt m0), Int.le_add_one (Int.le_refl _), Int.le_refl _⟩
        · refine wx_int ?_
          walk_at "wGo"
          refine ⟨.inl (by decide), ?_⟩
          walk_at "wGo"
          refine wx_pow (stir1 hs0 hs1).1 (stir1 hs0 hs1).2 (by decide) (by decide) ?_
          intro r1 tr1 hr1
          walk_at "wGo"
          refine wx_int ?_
          walk_at "wGo"
          refine ⟨.inl (by decide), ?_⟩
          walk_at "wGo"
          refine ⟨.inl (nat64 (Int.emod_nonneg _ (by decide)) (Int.lt_trans (Int.emod_lt_of_pos _ (by decide)) (by decide))), ?_⟩
          walk_at "wGo"
          refine ⟨.inl (by decide), ?_⟩
          walk_at "wGo"
          refine ⟨.inl (nat64 (Int.mul_nonneg (by decide) hs0) (Int.lt_of_le_of_lt (Int.mul_le_mul_of_nonneg_left hs1 (by decide)) (by decide))), ?_⟩
          walk_at "wGo"
          refine wx_pow (stir2 hs0 hs1).1 (stir2 hs0 hs1).2 (by decide) (by decide) ?_
          intro r2 tr2 hr2
          walk_at "wGo"
          refine wx_int ?_
          walk_at "wGo"
          refine wx_int ?_
          walk_at "wGo"
          refine ⟨m0, ?_⟩
          walk_at "wGo"
          exact ⟨_, .tail _ (.tail _ (.head _)), _, _, spot + 1, held, _, _, _, rfl, rfl, (dm _).1, (dm _).2, hh, Int.le_add_one (Int.le_refl _), Int.le_refl _⟩
      · refine wx_int ?_
        walk_at "wGo"
        refine ⟨.inl (by decide), ?_⟩
        walk_at "wGo"
        refine wx_pow (stir1 hs0 hs1).1 (stir1 hs0 hs1).2 (by decide) (by decide) ?_
        intro r1 tr1 hr1
        walk_at "wGo"
        refine wx_int ?_
        walk_at "wGo"
        refine ⟨.inl (by decide), ?_⟩
        walk_at "wGo"
        refine ⟨.inl (nat64 (Int.emod_nonneg _ (by decide)) (Int.lt_trans (Int.emod_lt_of_pos _ (by decide)) (by decide))), ?_⟩
        walk_at "wGo"
        refine ⟨.inl (by decide), ?_⟩
        walk_at "wGo"
        refine ⟨.inl (nat64 (Int.mul_nonneg (by decide) hs0) (Int.lt_of_le_of_lt (Int.mul_le_mul_of_nonneg_left hs1 (by decide)) (by decide))), ?_⟩
        walk_at "wGo"
        refine wx_pow (stir2 hs0 hs1).1 (stir2 hs0 hs1).2 (by decide) (by decide) ?_
        intro r2 tr2 hr2
        walk_at "wGo"
        refine wx_int ?_
        walk_at "wGo"
        refine wx_int ?_
        walk_at "wGo"
        refine ⟨m0, ?_⟩
        walk_at "wGo"
        exact ⟨_, .tail _ (.tail _ (.head _)), _, _, spot + 1, held, _, _, _, rfl, rfl, (dm _).1, (dm _).2, hh, Int.le_add_one (Int.le_refl _), Int.le_refl _⟩
end
section
local macro_rules | `(tactic| walk_at "mUse") => `(tactic| (
  refine' pure_use ?kC ?k1 ?k2 ?k3 ?k4 ?k5 ?kK ?kd ?ku ?kp ?_
  (case kC => walk_at "mSpec")
  (case k1 => k_asm)
  (case k2 => k_asm)
  (case k3 => k_asm)
  (case k4 => k_asm)
  (case k5 => k_asm)
  (case kK => first | exact rfl | assumption)
  (case kd => ktr_room)
  (case ku => ktr_units)
  (case kp => first | trivial | assumption)
  intro r9 tl9 h9 tk9 F9 N9 hne9 ho9
  (first | (obtain ⟨e9, d9⟩ := ho9; subst e9; subst d9) | (obtain ⟨e9, t9, d9⟩ := ho9; subst e9; subst d9) | (obtain ⟨e9, b9, t9, d9, hb9⟩ := ho9; subst e9; subst d9) | (obtain ⟨e9, t9, d9, f9⟩ := ho9; subst e9; subst d9) | (obtain ⟨a9, b9, c9, e9, d9, x9, y9, z9⟩ := ho9; subst e9; subst d9) | (obtain ⟨a9, t9, u9, v9, e9, d9⟩ := ho9; subst e9; subst d9) | (obtain ⟨a9, x9, y9, t9, u9, e9, d9, q9⟩ := ho9; subst e9; subst d9) | (obtain ⟨a9, b9, c9, d9, t9, u9, v9, w9, e9, f9, x9, y9, z9⟩ := ho9; subst e9; subst f9) | skip)
  (first | (replace hne9 := apart1 hne9; simp only [LCg.Off1, and_true] at hne9) | (clear hne9))
  (try simp only [List.nil_append, List.cons_append] at N9)
  (try dsimp only)
  (try k_fold)
  (try k_sweep)))
theorem hid_list {g h : Heap} {L q c : Addr} {m : Str → Option Value} {xs : Array Value} {news : List (Addr × Obj)} {o : Obj} (F : Fr g L h m) (N : News g L h news) (hq : (q, o) ∈ news) (hl : g.IsList c xs) : (hideAll h [q]).IsList c xs := by
  obtain ⟨oc, e, r⟩ := hl
  refine ⟨oc, hideAll_get _ (F.keep _ _ e) (fun hm => ?_), r⟩
  have := (N _ hq).2.2
  rw [← List.mem_singleton.mp hm, e] at this
  cases this
theorem keeps_list {g h : Heap} {L c : Addr} {m : Str → Option Value} {xs : Array Value} (F : Fr g L h m) (hl : g.IsList c xs) : h.IsList c xs := by
  obtain ⟨oc, e, r⟩ := hl
  exact ⟨oc, F.keep _ _ e, r⟩
theorem hid_list' {g h : Heap} {L q c : Addr} {xs : Array Value} {news : List (Addr × Obj)} {n : Nat} (N : News g L h news) (hq : (c, listOf xs n) ∈ news) (hne : c ≠ q) : (hideAll h [q]).IsList c xs :=
  ⟨_, hideAll_get _ (N _ hq).1 (fun hm => hne (List.mem_singleton.mp hm)), rfl, n, rfl⟩
theorem item_at {prog : Program} {w : World} {A : Around} {E : Value → Shared → Prop} {s : Shared} {value slice : PySem.Expr} {l : Addr} {vs : List Value} {k : Int} {u : Tok} {Q : Value → Shared → Prop}
    (hl : s.heap.IsList l vs.toArray) (h0 : 0 ≤ k) (hhi : k < 2 ^ 63) (hx : k < vs.length) (h : ∀ v ∈ vs, Q v s)
    (hs : subscripted slice false (.ref l) (.int k u) = operate [.ref l, .int k u] (getItem (.ref l) (.int k u)) := by with_unfolding_all rfl) :
    wpAny (model prog w) A (subscriptTail value slice (.ref l) (.int k u)) Q E s := by
  have hk : k.toNat < vs.length := by omega
  exact tail_any hl.typeIs slot_list_getitem.lookup (wpAny_getItem_list hl h0 hhi (x := vs[k.toNat]) (by simp [hk]) (h _ (List.getElem_mem hk))) hs
local macro_rules | `(tactic| walk_at "mOpenM") => `(tactic| (k_fill; k_dflt (refine' mut_intro ?k6 ?k7 ?k9 ?kB ?c2 ?c3 ?c4 ?c5 ?_; (case k6 => k_is); (case k7 => k_is); (case k9 => (intro s; exact BindsTo.of_eq rfl)); (case c5 => decide); (case kB => exact locs rfl); (case c2 => exact rfl); (case c3 => exact rfl); (case c4 => exact rfl))))
local macro_rules | `(tactic| walk_at "mStop") => `(tactic| (with_reducible show wpAny _ _ (call (Value.ref 225) _) _ _ _))
local macro_rules | `(tactic| walk_at "mStop") => `(tactic| (with_reducible show wpAny _ _ (subscriptTail _ _ (Value.ref _) (Value.int _ _)) _ _ _))
theorem t_pick (w : World) (q c0 sm : Addr) (spot held : Int) (t1 t2 : Tok) (n : Nat) (cs : List Value) (cells : List Int) (hI : IntsAre cs cells) (hc : cells.length ≤ 40) (hs0 : 0 ≤ spot) (hs1 : spot ≤ 100) (hh : 0 ≤ held) (ms : List Value) (hm : 1 ≤ ms.length) (hm2 : ms.length ≤ 100) :
    MutC PySem.Challenge.rw_or0048_01.row.prog w (hd.heap_39 w.params) 232 12 [.ref q, .ref sm] q (listOf #[.ref c0, .int spot t1, .int held t2] n) (fun g => g.IsList c0 cs.toArray ∧ g.IsList sm ms.toArray) (fun r o => r ∈ ms ∧ ∃ (spot' held' : Int) (t1 t2 : Tok) (n : Nat), o = listOf #[.ref c0, .int spot' t1, .int held' t2] n ∧ 0 ≤ held' ∧ spot ≤ spot' ∧ spot' ≤ spot + 1) := by
  walk_at "mOpenM"
  intro p loose mean mg mb g L' dp un gd outer A₀ base h₁ s R B' X' T' hpre hd hu F' N' hret
  change Fr g L' h₁ (fun y => List.lookup y [(Str.ofString "some", Value.ref sm), (Str.ofString "pen", Value.ref q)]) at F'
  obtain ⟨hp1, hp2⟩ := hpre
  have lenS : ms.toArray.size = ms.length := by simp
  walk_at "mGo"
  rw [lenS]
  refine mut_use2 [] (t_draw w q c0 spot held (ms.length : Int) t1 t2 _ n cs cells hI hc hs0 hs1 hh (by omega) (by omega)) B' F' X' N' (fun _ h => h) (fun _ h => nomatch h) T' rfl (by omega) (by omega) (hid_list F' N' (.head _) hp1) ?_
  intro r obj' h' tk' F' N' ⟨d, td, spot', held', t1', t2', n', e1, e2, hd0, hd1, hh', hsp, hsp'⟩
  subst e1 e2
  walk_at "mGo"
  refine item_at (vs := ms) ?_ hd0 ?_ hd1 (fun v hv => ?_)
  · exact keeps_list F' hp2
  · omega
  walk_at "mGo"
  exact hret _ _ _ _ _ _ F' N' (.head _) ⟨hv, _, _, _, _, _, rfl, hh', hsp, hsp'⟩
end
section
local macro_rules | `(tactic| walk_at "mUse") => `(tactic| (
  refine' pure_use ?kC ?k1 ?k2 ?k3 ?k4 ?k5 ?kK ?kd ?ku ?kp ?_
  (case kC => walk_at "mSpec")
  (case k1 => k_asm)
  (case k2 => k_asm)
  (case k3 => k_asm)
  (case k4 => k_asm)
  (case k5 => k_asm)
  (case kK => first | exact rfl | assumption)
  (case kd => ktr_room)
  (case ku => ktr_units)
  (case kp => first | trivial | assumption)
  intro r9 tl9 h9 tk9 F9 N9 hne9 ho9
  (first | (obtain ⟨e9, d9⟩ := ho9; subst e9; subst d9) | (obtain ⟨e9, t9, d9⟩ := ho9; subst e9; subst d9) | (obtain ⟨e9, b9, t9, d9, hb9⟩ := ho9; subst e9; subst d9) | (obtain ⟨e9, t9, d9, f9⟩ := ho9; subst e9; subst d9) | (obtain ⟨a9, b9, c9, e9, d9, x9, y9, z9⟩ := ho9; subst e9; subst d9) | (obtain ⟨a9, t9, u9, v9, e9, d9⟩ := ho9; subst e9; subst d9) | (obtain ⟨a9, x9, y9, t9, u9, e9, d9, q9⟩ := ho9; subst e9; subst d9) | (obtain ⟨a9, b9, c9, d9, t9, u9, v9, w9, e9, f9, x9, y9, z9⟩ := ho9; subst e9; subst f9) | skip)
  (first | (replace hne9 := apart1 hne9; simp only [LCg.Off1, and_true] at hne9) | (clear hne9))
  (try simp only [List.nil_append, List.cons_append] at N9)
  (try dsimp only)
  (try k_fold)
  (try k_sweep)))
local macro_rules | `(tactic| walk_at "mOpenCM") => `(tactic| (k_fill; k_dflt (refine' mut_introC ?k6 ?k7 ?k9 ?kB ?kD ?c2 ?c3 ?c4 ?_; (case k6 => k_is); (case k7 => k_is); (case k9 => (intro s; exact BindsTo.of_eq rfl)); (case kB => exact rfl); (case kD => decide +kernel); (case c2 => exact rfl); (case c3 => exact rfl); (case c4 => exact rfl))))
local macro_rules | `(tactic| walk_at "mStop") => `(tactic| (with_reducible show wpAny _ _ (call (Value.ref 225) _) _ _ _))
local macro_rules | `(tactic| walk_at "mStop") => `(tactic| (with_reducible show wpAny _ _ (call (Value.ref 232) _) _ _ _))
local macro_rules | `(tactic| walk_at "mStop") => `(tactic| (with_reducible show wpAny _ _ (getMethod (Value.bytes _ _) _) _ _ _))
abbrev PenAt (c0 : Addr) (spot : Int) (o : Obj) : Prop := ∃ (spot' held' : Int) (t1 t2 : Tok) (n : Nat), o = listOf #[.ref c0, .int spot' t1, .int held' t2] n ∧ 0 ≤ held' ∧ 0 ≤ spot' ∧ spot' ≤ spot
def RowOk (ks : List Int) : Prop := ks.length ≤ 76
def Menu (N : Nat) (ms : List Value) : Prop := ∀ v ∈ ms, ∃ b t, v = Value.bytes b t ∧ (KBw.bInts b).length ≤ N
theorem menu_nil {N : Nat} : Menu N [] := fun _ h => nomatch h
theorem menu_cons {N : Nat} {b : Array UInt8} {t : Tok} {ms : List Value} (hb : (KBw.bInts b).length ≤ N) (h : Menu N ms) : Menu N (.bytes b t :: ms) := by
  intro v hv
  rcases List.mem_cons.mp hv with e | hv
  · exact ⟨b, t, e, hb⟩
  · exact h v hv
def MutEl {σ : Type} (Led : σ → List (Addr × Obj)) (Inv : σ → Prop) (Good : Value → Prop) (y : Value) (news' : List (Addr × Obj)) : Prop := ∃ c', news' = Led c' ∧ Inv c' ∧ Good y
theorem mut_rest {prog : Program} {w : World} {A : Around} {h₀ : Heap} {L : Addr} {m : Str → Option Value} {env : Env} {elt : Expr} {x : Str} {scope : Scope} {cl : List (Str × Addr)} {s : Shared} {S : List (Addr × Obj) → Prop} {P : Nat → Value → Prop} {Fin : List Value → List (Addr × Obj) → Prop} {n : Nat}
    {σ : Type} (Led : σ → List (Addr × Obj)) (Inv : Nat → σ → Prop) (Good : Value → Prop) (c₀ : σ) (h0 : Inv 0 c₀)
    (turn : ∀ i c v I oI C oC D m₂ ys h tk (E' : Value → Shared → Prop), i < n → Inv i c → P i v → LCg.NsObj oC m₂ → m₂ x = some v → Fr h₀ L h m → News h₀ L h ((I, oI) :: (C, oC) :: (D, LCg.lst ys) :: Led c) → LCg.Off3 I C D (Led c) → ((@Ne Nat I C) ∧ (@Ne Nat I D) ∧ (@Ne Nat C D)) →
      wpAny (model prog w) A (eval elt (compEnvC scope cl C env)) (LCg.CompEnd h₀ L m { s with heap := h, toks := tk } I oI C oC D (LCg.lst ys) S (fun y news' => MutEl Led (Inv (i + 1)) Good y news')) E' { s with heap := h, toks := tk })
    (fin : ∀ ys c, ys.length = n → (∀ y ∈ ys, Good y) → Inv n c → Fin ys (Led c)) : LCg.CompRest prog w A h₀ L m env elt x scope cl s S P Fin n 0 [] (Led c₀) := by
  have key : ∀ (j i : Nat) (ys : List Value) (c : σ), i + j = n → ys.length = i → (∀ y ∈ ys, Good y) → Inv i c → LCg.CompRest prog w A h₀ L m env elt x scope cl s S P Fin j i ys (Led c) := by
    intro j
    induction j with
    | zero =>
      intro i ys c hi hl hg hv
      have e : i = n := by omega
      subst e
      exact LCg.CompRest.zero (fin ys c hl hg hv)
    | succ j ih =>
      intro i ys c hi hl hg hv
      refine LCg.CompRest.succ ?_
      intro v I oI C oC D m₂ h tk E' hP hC hx F N off ne
      refine wpAny_mono (turn i c v I oI C oC D m₂ ys h tk E' (by omega) hv hP hC hx F N off ne) (fun y s₂ hq => ?_) fun _ _ e => e
      obtain ⟨h', tk', nw, e, F', N', off', hS, c', hn, hv', hg'⟩ := hq
      subst hn
      refine ⟨h', tk', _, e, F', N', off', hS, ?_⟩
      refine ih (i + 1) _ c' (by omega) (by rw [List.length_append, hl]; rfl) (fun y' hy => ?_) hv'
      rcases List.mem_append.mp hy with hy | hy
      · exact hg y' hy
      · rw [List.mem_singleton.mp hy]; exact hg'
  exact key n 0 [] c₀ (by omega) rfl (fun _ h => nomatch h) h0
theorem bytes_of {N : Nat} : ∀ {ys : List Value}, Menu N ys → ∃ bs, BJ.BytesAre ys bs ∧ ∀ b ∈ bs, (KBw.bInts b).length ≤ N
  | [], _ => ⟨[], .nil, fun _ h => nomatch h⟩
  | y :: r, h => by
    obtain ⟨bs, h1, h2⟩ := bytes_of (ys := r) fun v hv => h v (.tail _ hv)
    obtain ⟨b, t, e, hb⟩ := h y (.head _)
    subst e
    refine ⟨b :: bs, .cons b t h1, fun b' hb' => ?_⟩
    rcases List.mem_cons.mp hb' with e | hb'
    · subst e; exact hb
    · exact h2 b' hb'
theorem sum_le {N : Nat} : ∀ (bs : List (Array UInt8)), (∀ b ∈ bs, (KBw.bInts b).length ≤ N) → (bs.map (·.size)).sum ≤ N * bs.length ∧ ((bs.map KBw.bInts).flatten).length ≤ N * bs.length
  | [], _ => ⟨Nat.le_refl _, Nat.le_refl _⟩
  | b :: r, h => by
    obtain ⟨h1, h2⟩ := sum_le r fun v hv => h v (.tail _ hv)
    have hb := h b (.head _)
    have hs : b.size = (KBw.bInts b).length := by rw [KBw.ints_length]
    constructor
    · rw [List.map_cons, List.sum_cons, List.length_cons, Nat.mul_add, hs]; omega
    · rw [List.map_cons, List.flatten_cons, List.length_append, List.length_cons, Nat.mul_add]; omega
theorem t_row (w : World) (q c0 : Addr) (spot held : Int) (t1 t2 : Tok) (n : Nat) (cs : List Value) (cells : List Int) (hI : IntsAre cs cells) (hc : cells.length ≤ 40) (hs0 : 0 ≤ spot) (hs1 : spot ≤ 50) (hh : 0 ≤ held) :
    MutC PySem.Challenge.rw_or0048_01.row.prog w (hd.heap_39 w.params) 237 14 [.ref q] q (listOf #[.ref c0, .int spot t1, .int held t2] n) (fun g => g.IsList c0 cs.toArray) (fun r o => (∃ b t, r = .bytes b t ∧ (KBw.bInts b).length ≤ 76) ∧ PenAt c0 (spot + 5) o) := by
  walk_at "mOpenCM"
  intro p loose mean mg mb g L' dp un gd outer A₀ base h₁ tk cells' s R B' X' T' hpre hd hu F' N' hnq Y' hret
  obtain ⟨o1, o2, hE, d1, d2⟩ := CellsAre.two Y'
  subst hE
  change o1.data = Data.cell none at d1
  change o2.data = Data.cell (some (Value.ref q)) at d2
  change Fr g L' h₁ (fun y => none) at F'
  change News g L' h₁ [(L' + 1 + 1, o1), (L' + 1, o2), (q, listOf #[.ref c0, .int spot t1, .int held t2] n)] at N'
  walk_at "mGo"
  rename Fr _ _ _ _ => FA
  rename News _ _ _ _ => NA
  rename_i lA _ _ _ lt9 hA o3 d3
  simp only [List.cons_append, List.nil_append] at NA
  obtain ⟨ms, hms, hml, NB⟩ : ∃ ms, Menu 19 ms ∧ ms.length = 12 ∧ News g L' hA [(lA, listOf ms.toArray 0), (L' + 1 + 1, o3), (L' + 1, o2), (q, listOf #[.ref c0, .int spot t1, .int held t2] n)] := by
    refine ⟨_, ?_, ?_, NA⟩
    · repeat (first | exact menu_nil | refine menu_cons (by decide) ?_)
    · rfl
  clear NA
  refine BJ.method ?_
  walk_at "mGo"
  refine ListComp_range FA (by with_unfolding_all rfl) (by decide) (by rfl) (by decide) (by rfl) ?_
  walk_at "mGo"
  have ne1 : lA ≠ q := Nat.ne_of_gt lt9.2.2
  have ne2 : L' + 1 + 1 ≠ q := hnq _ (.head _)
  have ne3 : L' + 1 ≠ q := hnq _ (.tail _ (.head _))
  rename Fr _ _ _ _ => FB
  refine mut_use2 [(lA, listOf ms.toArray 0), (L' + 1 + 1, o3), (L' + 1, o2)] (t_draw w q c0 spot held 5 t1 t2 _ n cs cells hI hc hs0 (by omega) hh (by omega) (by omega)) B' FB X' NB ?_ ?_ T' rfl (by omega) (by omega) (hid_list FB NB (.tail _ (.tail _ (.tail _ (.head _)))) hpre) ?_
  · exact List.forall_mem_cons.mpr ⟨.tail _ (.tail _ (.tail _ (.head _))), List.forall_mem_cons.mpr ⟨.head _, List.forall_mem_cons.mpr ⟨.tail _ (.head _), List.forall_mem_cons.mpr ⟨.tail _ (.tail _ (.head _)), nil_mem⟩⟩⟩⟩
  · exact List.forall_mem_cons.mpr ⟨ne1, List.forall_mem_cons.mpr ⟨ne2, List.forall_mem_cons.mpr ⟨ne3, nil_mem⟩⟩⟩
  clear NB FB
  intro r obj' h' tk' F' N' ⟨d, td, spot', held', t1', t2', n', e1, e2, hd0, hd1, hh', hsp, hsp'⟩
  subst e1 e2
  obtain ⟨dn, rfl⟩ := Int.eq_ofNat_of_zero_le hd0
  have hdn : dn < 5 := by omega
  walk_at "mGo"
  rename Fr _ _ _ _ => FB
  rename IsRange _ _ _ _ _ _ _ _ => hr
  rename News _ _ _ _ => NB
  refine ⟨_, _, _, _, _, _, _, dn, [(q, listOf #[.ref c0, .int spot' t1', .int held' t2'] n'), (lA, listOf ms.toArray 0), (L' + 1 + 1, o3), (L' + 1, o2)], rfl, rfl, FB, NB, hr, small_n (by omega), size_n, by rw [sizeLine_eq]; omega, ?_⟩
  clear NB FB hr
  rintro s₂ ⟨h₂, rfl⟩
  refine mut_rest (σ := Int × Int × Tok × Tok × Nat) (fun c => [(q, listOf #[.ref c0, .int c.1 c.2.2.1, .int c.2.1 c.2.2.2.1] c.2.2.2.2), (lA, listOf ms.toArray 0), (L' + 1 + 1, o3), (L' + 1, o2)])
    (fun i c => 0 ≤ c.1 ∧ 0 ≤ c.2.1 ∧ c.1 ≤ spot + 1 + (i : Int)) (fun y => ∃ b t, y = Value.bytes b t ∧ (KBw.bInts b).length ≤ 19) (spot', held', t1', t2', n') ⟨by omega, by omega, by dsimp only; omega⟩ ?_ ?_
  · rintro i' ⟨sp, hl, ta, tb, nn⟩ v' I' oI' C' oC' D' m' ys' h' tk' E' hi' ⟨hv1, hv2, hv3⟩ hP' hC' hx' F' N' off' ne'
    dsimp only at hv1 hv2 hv3 N' off'
    obtain ⟨tv', rfl⟩ := hP'
    have off3 := off'
    simp only [LCg.Off3] at off'
    walk_at "mGo"
    rename Fr _ _ _ _ => FB
    rename News _ _ _ _ => NB
    refine mut_use2 [(I', oI'), (C', oC'), (D', LCg.lst ys'), (lA, listOf ms.toArray 0), (L' + 1 + 1, o3), (L' + 1, o2)] (t_pick w q c0 lA sp hl ta tb nn cs cells hI hc hv1 (by omega) hv2 ms (by omega) (by omega)) B' FB X' NB ?_ ?_ T' rfl (by omega) (by omega) ⟨hid_list FB NB (.tail _ (.tail _ (.tail _ (.head _)))) hpre, hid_list' NB (.tail _ (.tail _ (.tail _ (.tail _ (.head _))))) ne1⟩ ?_
    · exact List.forall_mem_cons.mpr ⟨.tail _ (.tail _ (.tail _ (.head _))), List.forall_mem_cons.mpr ⟨.head _, List.forall_mem_cons.mpr ⟨.tail _ (.head _), List.forall_mem_cons.mpr ⟨.tail _ (.tail _ (.head _)), List.forall_mem_cons.mpr ⟨.tail _ (.tail _ (.tail _ (.tail _ (.head _)))), List.forall_mem_cons.mpr ⟨.tail _ (.tail _ (.tail _ (.tail _ (.tail _ (.head _))))), List.forall_mem_cons.mpr ⟨.tail _ (.tail _ (.tail _ (.tail _ (.tail _ (.tail _ (.head _)))))), nil_mem⟩⟩⟩⟩⟩⟩⟩
    · exact List.forall_mem_cons.mpr ⟨Ne.symm off'.1.1, List.forall_mem_cons.mpr ⟨Ne.symm off'.1.2.1, List.forall_mem_cons.mpr ⟨Ne.symm off'.1.2.2, List.forall_mem_cons.mpr ⟨ne1, List.forall_mem_cons.mpr ⟨ne2, List.forall_mem_cons.mpr ⟨ne3, nil_mem⟩⟩⟩⟩⟩⟩
    clear NB FB
    intro r obj' h' tk' F' N' ⟨hr, sp', hl', ta', tb', nn', e2, hh2, hsp2, hsp3⟩
    subst e2
    obtain ⟨bb, bt, e1, hbl⟩ := hms r hr
    subst e1
    exact LCg.CompEnd.intro F' N' _ (List.forall_mem_cons.mpr ⟨.tail _ (.head _), List.forall_mem_cons.mpr ⟨.tail _ (.tail _ (.head _)), List.forall_mem_cons.mpr ⟨.tail _ (.tail _ (.tail _ (.head _))), List.forall_mem_cons.mpr ⟨.head _, List.forall_mem_cons.mpr ⟨.tail _ (.tail _ (.tail _ (.tail _ (.head _)))), List.forall_mem_cons.mpr ⟨.tail _ (.tail _ (.tail _ (.tail _ (.tail _ (.head _))))), List.forall_mem_cons.mpr ⟨.tail _ (.tail _ (.tail _ (.tail _ (.tail _ (.tail _ (.head _)))))), nil_mem⟩⟩⟩⟩⟩⟩⟩) off3 trivial ⟨(sp', hl', ta', tb', nn'), rfl, ⟨by dsimp only; omega, hh2, by dsimp only; omega⟩, _, _, rfl, hbl⟩
  · rintro ys ⟨sp, hl, ta, tb, nn⟩ hyl hyg ⟨hv1, hv2, hv3⟩
    dsimp only at hv1 hv2 hv3
    walk_at "mGo"
    rename Fr _ _ _ _ => FE
    rename News _ _ _ _ => NE
    obtain ⟨bs, hbs, hbl⟩ := bytes_of hyg
    have hbn := (BJ.bytes_get hbs).1
    have hsl := sum_le bs hbl
    have hbn4 : bs.length ≤ 4 := by omega
    refine BJ.join_call (vs := ys) (bs := bs) ⟨_, (NE _ (by k_mem)).1, rfl, _, rfl⟩ hbs (by omega) (fun t' k => ?_)
    refine hret _ _ _ _ _ _ FE NE (by k_mem) ⟨⟨_, _, rfl, ?_⟩, sp, hl, ta, tb, nn, rfl, hv2, hv1, by omega⟩
    rw [BJ.bInts_cat]
    omega
end
section
local macro_rules | `(tactic| walk_at "mUse") => `(tactic| (
  refine' pure_use ?kC ?k1 ?k2 ?k3 ?k4 ?k5 ?kK ?kd ?ku ?kp ?_
  (case kC => walk_at "mSpec")
  (case k1 => k_asm)
  (case k2 => k_asm)
  (case k3 => k_asm)
  (case k4 => k_asm)
  (case k5 => k_asm)
  (case kK => first | exact rfl | assumption)
  (case kd => ktr_room)
  (case ku => ktr_units)
  (case kp => first | trivial | assumption)
  intro r9 tl9 h9 tk9 F9 N9 hne9 ho9
  (first | (obtain ⟨e9, d9⟩ := ho9; subst e9; subst d9) | (obtain ⟨e9, t9, d9⟩ := ho9; subst e9; subst d9) | (obtain ⟨e9, b9, t9, d9, hb9⟩ := ho9; subst e9; subst d9) | (obtain ⟨e9, t9, d9, f9⟩ := ho9; subst e9; subst d9) | (obtain ⟨a9, b9, c9, e9, d9, x9, y9, z9⟩ := ho9; subst e9; subst d9) | (obtain ⟨a9, t9, u9, v9, e9, d9⟩ := ho9; subst e9; subst d9) | (obtain ⟨a9, x9, y9, t9, u9, e9, d9, q9⟩ := ho9; subst e9; subst d9) | (obtain ⟨a9, b9, c9, d9, t9, u9, v9, w9, e9, f9, x9, y9, z9⟩ := ho9; subst e9; subst f9) | skip)
  (first | (replace hne9 := apart1 hne9; simp only [LCg.Off1, and_true] at hne9) | (clear hne9))
  (try simp only [List.nil_append, List.cons_append] at N9)
  (try dsimp only)
  (try k_fold)
  (try k_sweep)))
theorem eqg_bytes (b : Array UInt8) (t u : Tok) : MeetsSeq.EqGives (.bytes b t) (.bytes b u) true := by
  intro prog w A E s Q h
  unfold eqBool
  show wpAny _ _ (if (Value.bytes b t == Value.bytes b u) = true then _ else _) Q E s
  by_cases hab : (Value.bytes b t == Value.bytes b u) = true
  · rw [if_pos hab]
    exact wpAny_bind (wpAny_rule (wpAny_pure h))
  · rw [if_neg hab]
    exact wpAny_bind (eq_bytes (wpAny_truthy_bool (by simpa using h)))
theorem eqg_str (x : Str) (t u : Tok) : MeetsSeq.EqGives (.str x t) (.str x u) true := by
  have := eqGives_str x x t u
  simpa using this
theorem PcsAre.get {tups : List (Addr × Obj)} {vs : List Value} {ps : List Pc} (h : PcsAre tups vs ps) : ∀ (i : Nat) (v : Value) (p : Pc), vs[i]? = some v → ps[i]? = some p → ∃ a o, v = .ref a ∧ (a, o) ∈ tups ∧ PcObj p o := by
  induction h with
  | nil => intro i v p hv; simp at hv
  | cons a o p hm ho _ ih =>
    intro i v p' hv hp
    cases i with
    | zero =>
      simp only [List.getElem?_cons_zero, Option.some.injEq] at hv hp
      subst hv hp
      exact ⟨a, o, rfl, hm, ho⟩
    | succ i => exact ih i v p' (by simpa using hv) (by simpa using hp)
theorem ints_inj {b c : Array UInt8} (h : KBw.bInts b = KBw.bInts c) : b = c := by
  have hl : b.size = c.size := by rw [← KBw.ints_length b, ← KBw.ints_length c, h]
  apply Array.ext hl
  intro i h1 h2
  have e1 := KBw.ints_get (b := b) (i := i) (c := b[i]) (by simp [h1])
  have e2 := KBw.ints_get (b := c) (i := i) (c := c[i]) (by simp [h2])
  rw [h, e2] at e1
  have e3 := Option.some.inj e1
  have e4 : c[i].toNat = b[i].toNat := by omega
  exact (UInt8.toNat_inj.mp e4).symm
section
variable {prog : Program} {w : World} {A : Around} {E : Value → Shared → Prop} {s : Shared}
theorem eq_pc {p : Pc} {o o' : Obj} {a a' : Addr} (h1 : s.heap.get? a = some o) (h2 : s.heap.get? a' = some o') (p1 : PcObj p o) (p2 : PcObj p o') (hu : A.units + 64 < cLine) : SeqAt.EqAt A.in1 s (.ref a) (.ref a') true := by
  by_cases e : a = a'
  · subst e; exact SeqAt.EqAt.same _
  · refine SeqAt.EqAt.of_refs e ?_
    cases p with
    | gap ks =>
      obtain ⟨b, t, e1, e2⟩ := p1
      obtain ⟨b', t', e3, e4⟩ := p2
      have eb : b = b' := ints_inj (e2.trans e4.symm)
      subst e1 e3 eb
      have := SeqAt.RcAt.tuples (A := A.in1) (s := s) (l := a) (b := a') (items := #[.bool false, .bytes b t]) (items2 := #[.bool false, .bytes b t']) (e := fun _ => true) ⟨_, h1, rfl, _, rfl⟩ ⟨_, h2, rfl, _, rfl⟩ (by show A.units + _ < cLine; omega) (fun j q1 q2 => by
        have : j = 0 ∨ j = 1 := by simp at q1; omega
        rcases this with e | e
        · subst e; exact SeqAt.EqAt.same _
        · subst e; exact (eqg_bytes b t t').at _ _)
      exact this
    | word x =>
      obtain ⟨t, e1⟩ := p1
      obtain ⟨t', e3⟩ := p2
      subst e1 e3
      have := SeqAt.RcAt.tuples (A := A.in1) (s := s) (l := a) (b := a') (items := #[.bool true, .str x t]) (items2 := #[.bool true, .str x t']) (e := fun _ => true) ⟨_, h1, rfl, _, rfl⟩ ⟨_, h2, rfl, _, rfl⟩ (by show A.units + _ < cLine; omega) (fun j q1 q2 => by
        have : j = 0 ∨ j = 1 := by simp at q1; omega
        rcases this with e | e
        · subst e; exact SeqAt.EqAt.same _
        · subst e; exact (eqg_str x t t').at _ _)
      exact this
theorem all_tt (n : Nat) : ((List.range n).all fun _ => true) = true := by simp
theorem eq_pcs {a b : Addr} {xs ys : List Value} {ps : List Pc} {t1 t2 : List (Addr × Obj)} {Q : Value → Shared → Prop} (hl : s.heap.IsList a xs.toArray) (hb : s.heap.IsList b ys.toArray) (P1 : PcsAre t1 xs ps) (P2 : PcsAre t2 ys ps) (h1 : ∀ p ∈ t1, s.heap.get? p.1 = some p.2) (h2 : ∀ p ∈ t2, s.heap.get? p.1 = some p.2)
    (hu : A.units + 64 < cLine) (h : Q (.bool true) s) : wpAny (model prog w) A (compareOp .Eq (.ref a) (.ref b)) Q E s := by
  refine SeqAt.eq_listAt (e := fun _ => true) hl hb (by simp [P1.length, P2.length]) (by omega) (fun j q1 q2 => ?_) (by rw [all_tt]; exact h)
  have k1 : j < xs.length := by simpa using q1
  have k2 : j < ys.length := by simpa using q2
  have k3 : j < ps.length := by rw [← P1.length]; exact k1
  obtain ⟨a1, o1, e1, m1, c1⟩ := P1.get j xs[j] ps[j] (by simp [k1]) (by simp [k3])
  obtain ⟨a2, o2, e2, m2, c2⟩ := P2.get j ys[j] ps[j] (by simp [k2]) (by simp [k3])
  show SeqAt.EqAt A.in1 s xs[j] ys[j] true
  rw [e1, e2]
  exact eq_pc (h1 _ m1) (h2 _ m2) c1 c2 hu
theorem eq_sames {a b : Addr} {xs : List Value} {Q : Value → Shared → Prop} (hl : s.heap.IsList a xs.toArray) (hb : s.heap.IsList b xs.toArray) (hu : A.units + 64 < cLine) (h : Q (.bool true) s) : wpAny (model prog w) A (compareOp .Eq (.ref a) (.ref b)) Q E s :=
  SeqAt.eq_listAt (e := fun _ => true) hl hb rfl (by omega) (fun j q1 q2 => SeqAt.EqAt.same _) (by rw [all_tt]; exact h)
end
def IdxEl (news : List (Addr × Obj)) (v y : Value) (news' : List (Addr × Obj)) : Prop := news' = news ∧ y = v
theorem idx_rest {prog : Program} {w : World} {A : Around} {h₀ : Heap} {L : Addr} {m : Str → Option Value} {env : Env} {elt : Expr} {x : Str} {scope : Scope} {cl : List (Str × Addr)} {s : Shared} {S : List (Addr × Obj) → Prop} {P : Nat → Value → Prop} {Fin : List Value → List (Addr × Obj) → Prop} {n : Nat} {news : List (Addr × Obj)}
    (g : Nat → Value)
    (turn : ∀ i v I oI C oC D m₂ ys h tk (E' : Value → Shared → Prop), i < n → P i v → LCg.NsObj oC m₂ → m₂ x = some v → Fr h₀ L h m → News h₀ L h ((I, oI) :: (C, oC) :: (D, LCg.lst ys) :: news) → LCg.Off3 I C D news → ((@Ne Nat I C) ∧ (@Ne Nat I D) ∧ (@Ne Nat C D)) →
      wpAny (model prog w) A (eval elt (compEnvC scope cl C env)) (LCg.CompEnd h₀ L m { s with heap := h, toks := tk } I oI C oC D (LCg.lst ys) S (fun y news' => IdxEl news (g i) y news')) E' { s with heap := h, toks := tk })
    (fin : Fin ((List.range n).map g) news) : LCg.CompRest prog w A h₀ L m env elt x scope cl s S P Fin n 0 [] news := by
  have key : ∀ (j i : Nat) (ys : List Value), i + j = n → ys = (List.range i).map g → LCg.CompRest prog w A h₀ L m env elt x scope cl s S P Fin j i ys news := by
    intro j
    induction j with
    | zero =>
      intro i ys hi hl
      have e : i = n := by omega
      subst e
      rw [hl]
      exact LCg.CompRest.zero fin
    | succ j ih =>
      intro i ys hi hl
      refine LCg.CompRest.succ ?_
      intro v I oI C oC D m₂ h tk E' hP hC hx F N off ne
      refine wpAny_mono (turn i v I oI C oC D m₂ ys h tk E' (by omega) hP hC hx F N off ne) (fun y s₂ hq => ?_) fun _ _ e => e
      obtain ⟨h', tk', nw, e, F', N', off', hS, hn, hy⟩ := hq
      subst hn
      refine ⟨h', tk', _, e, F', N', off', hS, ?_⟩
      exact ih (i + 1) _ (by omega) (by rw [hl, hy, List.range_succ, List.map_append]; rfl)
  exact key n 0 [] (by omega) rfl
theorem pc_tup {p : Pc} {o : Obj} (h : PcObj p o) : ∃ v, o = { cls := .type "tuple", data := .seq #[.bool p.isWord, v] } := by
  cases p with
  | gap ks => obtain ⟨b, t, e, _⟩ := h; exact ⟨_, e⟩
  | word x => obtain ⟨t, e⟩ := h; exact ⟨_, e⟩
local macro_rules | `(tactic| walk_at "mStop") => `(tactic| (with_reducible show wpAny _ _ (subscriptTail _ _ (Value.ref _) (Value.int _ _)) _ _ _))
local macro_rules | `(tactic| walk_at "mStop") => `(tactic| (with_reducible show wpAny _ _ (compareOp CmpOp.Eq (Value.ref _) (Value.ref _)) _ _ _))
local macro_rules | `(tactic| walk_at "mWStop") => `(tactic| (with_reducible show wpAny _ _ (subscriptTail _ _ (Value.ref _) (Value.int _ _)) _ _ _))
local macro_rules | `(tactic| walk_at "mWStop") => `(tactic| (with_reducible show wpAny _ _ (compareOp CmpOp.Eq (Value.ref _) (Value.ref _)) _ _ _))
theorem t_sound (w : World) (a : Addr) (vs : List Value) (ps : List Pc) (tups : List (Addr × Obj)) (hP : PcsAre tups vs ps) (hA : Alt ps) (hn : ps.length ≤ 1000) :
    PureC PySem.Challenge.rw_or0048_01.row.prog w (hd.heap_39 w.params) 242 12 [.ref a] (fun g => g.IsList a vs.toArray ∧ ∀ p ∈ tups, g.get? p.1 = some p.2) (fun _ tl r => tl = [] ∧ r = .bool true) := by
  walk_at "mOpen"
  intro p loose mean mg mb g L' dp un gd outer A₀ base h₁ s R B' X' T' hpre hd hu F' N' hret
  change Fr g L' h₁ (fun y => List.lookup y [(Str.ofString "pieces", Value.ref a)]) at F'
  obtain ⟨hp1, hp2⟩ := hpre
  have lenS : vs.toArray.size = vs.length := by simp
  have hvl := hP.length
  have hodd := alt_len ps hA
  walk_at "mGoU"
  · rename (Int.fmod _ _ = 0) => hbad
    exfalso
    rw [lenS, hvl, Int.fmod_eq_emod_of_nonneg _ (by decide)] at hbad
    omega
  rename (Int.fmod _ _ ≠ 0) => hgood
  clear hgood
  have hsz : vs.toArray.size ≤ sizeLine := by rw [lenS, sizeLine_eq]; omega
  refine LCg.ListComp_U (F₀ := by k_asm) (by with_unfolding_all rfl) (by decide) (by rfl) (by decide) (by rfl) ?_
  walk_at "mGoU"
  refine LCg.CompSrc.base (its := vs.toArray) (by rfl) (by k_asm) (by k_asm) hp1 hsz ?_
  intro g1
  refine idx_rest (fun i => .bool (decide (i % 2 = 1))) (fun i v' I' oI' C' oC' D' m' ys' h' tk' E' hi' hv' hC' hx' F' N' off' ne' => ?_) ?_
  · clear hret
    have k1 : i < vs.length := by rw [← lenS]; exact hi'
    have hv2 : vs[i]? = some v' := by simpa using hv'
    have k3 : i < ps.length := by omega
    obtain ⟨a1, o1, e1, m1, c1⟩ := hP.get i v' ps[i] hv2 (by simp [k3])
    subst e1
    obtain ⟨v2, e2⟩ := pc_tup c1
    rw [alt_bits ps hA i ps[i] (by simp [k3])] at e2
    have ho1 := hp2 _ m1
    dsimp only at ho1
    rw [e2] at ho1
    walk_at "mGoU"
    refine item_tup (k := 0) (F'.keep _ _ ho1) (by decide : 0 < 2) (by decide) rfl ?_
    walk_at "mGoU"
    exact ⟨rfl, rfl⟩
  · walk_at "mGoU"
    refine LCg.ListComp_U (F₀ := by k_asm) (by with_unfolding_all rfl) (by decide) (by rfl) (by decide) (by rfl) ?_
    walk_at "mGoU"
    refine LCg.CompSrc.range (n := vs.toArray.size) (by rfl) (by k_asm) (by k_asm) (by assumption) (small_n (by rw [lenS]; omega)) size_n hsz ?_
    intro g2
    refine idx_rest (fun i => .bool (decide (i % 2 = 1))) (fun i v' I' oI' C' oC' D' m' ys' h' tk' E' hi' hv' hC' hx' F' N' off' ne' => ?_) ?_
    · clear hret
      obtain ⟨t9, hv9⟩ := hv'
      subst hv9
      simp only [LCg.Off3] at off'
      walk_at "mGoU"
      refine ⟨rfl, ?_⟩
      congr 1
      rw [Int.fmod_eq_emod_of_nonneg _ (by decide), Bool.eq_iff_iff, decide_eq_true_eq, beq_iff_eq]
      omega
    · walk_at "mGoU"
      rename Fr _ _ _ _ => FE
      rename News _ _ _ _ => NE
      refine eq_sames ⟨_, (NE _ (.tail _ (.head _))).1, rfl, _, rfl⟩ ⟨_, (NE _ (.head _)).1, rfl, _, rfl⟩ ?_ ?_
      · show un + 64 < cLine
        omega
      · walk_at "mGoU"
        exact hret _ [] _ _ _ _ FE NE (by intro _ h; cases h) ⟨rfl, rfl⟩
end
section
theorem PcsAre.snoc_inv {tups : List (Addr × Obj)} : ∀ {ps : List Pc} {vs : List Value} {p : Pc}, PcsAre tups vs (ps ++ [p]) → ∃ vi a o, vs = vi ++ [Value.ref a] ∧ (a, o) ∈ tups ∧ PcObj p o ∧ PcsAre tups vi ps
  | [], vs, p, h => by
    cases h with
    | cons a o _ hm ho h2 => cases h2; exact ⟨[], a, o, rfl, hm, ho, .nil⟩
  | p0 :: ps, vs, p, h => by
    cases h with
    | cons a o _ hm ho h2 =>
      obtain ⟨vi, a', o', e, hm', ho', h3⟩ := PcsAre.snoc_inv h2
      exact ⟨.ref a :: vi, a', o', by rw [e]; rfl, hm', ho', .cons a o p0 hm ho h3⟩
theorem PcsAre.cons_inv {tups : List (Addr × Obj)} {ps : List Pc} {vs : List Value} {p : Pc} (h : PcsAre tups vs (p :: ps)) : ∃ a o vr, vs = Value.ref a :: vr ∧ (a, o) ∈ tups ∧ PcObj p o ∧ PcsAre tups vr ps := by
  cases h with
  | cons a o _ hm ho h2 => exact ⟨a, o, _, rfl, hm, ho, h2⟩
theorem pick_init (vi : List Value) (v : Value) : kms_pick (vi ++ [v]).toArray.toList none (some (-1)) = vi := by
  have e1 : kms_lo none (vi ++ [v]).length = 0 := rfl
  have e2 : kms_hi (some (-1)) (vi ++ [v]).length = vi.length := by
    simp [kms_hi]
  unfold kms_pick
  rw [e1, e2]
  simp
theorem pick_tail (v : Value) (vr : List Value) : kms_pick (v :: vr).toArray.toList (some 1) none = vr := by
  have e1 : kms_lo (some 1) (v :: vr).length = 1 := by simp [kms_lo]
  have e2 : kms_hi none (v :: vr).length = vr.length + 1 := rfl
  unfold kms_pick
  rw [e1, e2]
  simp
theorem gap_obj {g : List Int} {o : Obj} (h : PcObj (.gap g) o) : ∃ b t, o = { cls := .type "tuple", data := .seq #[.bool false, .bytes b t] } ∧ KBw.bInts b = g := h
end
section
theorem ints_add (b c : Array UInt8) : KBw.bInts (b ++ c) = KBw.bInts b ++ KBw.bInts c := by
  unfold KBw.bInts
  simp
theorem size_le {b : Array UInt8} {n : Nat} (h : (KBw.bInts b).length ≤ n) : b.size ≤ n := by rw [← KBw.ints_length]; exact h
theorem listN {h₀ h : Heap} {L a : Addr} {vs : List Value} {n : Nat} {r : List (Addr × Obj)} (N : News h₀ L h r) (hm : (a, listOf vs.toArray n) ∈ r) : h.IsList a vs.toArray := ⟨_, (N _ hm).1, rfl, _, rfl⟩
theorem gap_lenF (ks : List Int) : ∀ (f b a : Nat) (g : List Int), Pc.gap g ∈ piecesF ks f b a → g.length ≤ ks.length
  | 0, b, a, g, h => by
    unfold piecesF at h
    have e := Pc.gap.inj (List.mem_singleton.mp h)
    rw [e, List.length_drop]; omega
  | f + 1, b, a, g, h => by
    unfold piecesF at h
    by_cases hl : a < ks.length
    · rw [if_pos hl] at h
      cases hx : (if ks.getD a 0 = 61 then wordAt ks a else none) with
      | none => rw [hx] at h; exact gap_lenF ks f b (a + 1) g h
      | some q =>
        rw [hx] at h
        dsimp only at h
        rcases List.mem_cons.mp h with h | h
        · have e := Pc.gap.inj h
          rw [e]
          unfold seg
          rw [List.length_take, List.length_drop]; omega
        · rcases List.mem_cons.mp h with h | h
          · cases h
          · exact gap_lenF ks f _ _ g h
    · rw [if_neg hl] at h
      have e := Pc.gap.inj (List.mem_singleton.mp h)
      rw [e, List.length_drop]; omega
theorem gap_len {ks g : List Int} (h : Pc.gap g ∈ piecesL ks) : g.length ≤ ks.length := gap_lenF ks _ _ _ g h
end
section
local macro_rules | `(tactic| walk_at "mLGo") => `(tactic| ((try dsimp only); (try k_fold); repeat' (first | (k_unfold; (try dsimp only)) | walk1 | (dsimp only; walk1) | fail "no step")))
theorem len40 (ns : List Int) : (List.map (fun k' : Int => k') (List.take 40 ns)).length ≤ 40 := by
  rw [List.length_map, List.length_take]; exact Nat.min_le_left _ _
abbrev OutPen : Heap → List (Addr × Obj) → Value → Prop := fun _ tl r => ∃ (q c0 : Addr) (cs : List Value) (cells : List Int) (t1 t2 : Tok) (n : Nat), tl = [(q, listOf #[.ref c0, .int 0 t1, .int 0 t2] 0), (c0, listOf cs.toArray n)] ∧ r = .ref q ∧ IntsAre cs cells ∧ cells.length ≤ 40 ∧ c0 ≠ q
theorem c_pen (w : World) (sA : Addr) (vs : List Value) (ns : List Int) (hI : IntsAre vs ns) (hn : ns.length ≤ 63) : PureC PySem.Challenge.rw_or0048_01.row.prog w (hd.heap_39 w.params) 218 4 [.ref sA] (fun g => g.IsList sA vs.toArray) OutPen := by
  walk_at "mOpen"
  intro p loose mean mg mb g L' dp un gd outer A₀ base h₁ s R B' X' T' hpre hd hu F' N' hret
  change Fr g L' h₁ (fun y => List.lookup y [(Str.ofString "script", Value.ref sA)]) at F'
  walk_at "mLGo"
  rename IntsAre _ (List.map _ _) => hys
  rename_i D' _ tk' _ l' _ FE NE lt
  exact hret _ [_, _] _ _ _ _ FE NE (List.forall_mem_cons.mpr ⟨.head _, List.forall_mem_cons.mpr ⟨.tail _ (.head _), nil_mem⟩⟩) ⟨l', D', _, _, tk', tk' + 1, _, rfl, rfl, hys, len40 _, Nat.ne_of_lt lt.1⟩
end
section
theorem isL_of {g h : Heap} {a : Addr} {xs : Array Value} (e : g = h) (hl : h.IsList a xs) : g.IsList a xs := e ▸ hl
theorem n76 {n : Nat} (h : n ≤ 76) : n ≤ 1000 := Nat.le_trans h (by decide)
def GoodY (ks : List Int) : Prop := YOk ks ∧ (∃ c Y1, ks = c :: Y1 ∧ White c) ∧ (∃ Y2 c2, ks = Y2 ++ [c2] ∧ White c2) ∧ ks.length ≤ 3
theorem goodY {b : Array UInt8} (ks : List Int) (c : Int) (Y1 Y2 : List Int) (c2 : Int) (hb : KBw.bInts b = ks) (hy : YOk ks) (h1 : ks = c :: Y1) (hc : White c) (h2 : ks = Y2 ++ [c2]) (hc2 : White c2) (hl : ks.length ≤ 3) : GoodY (KBw.bInts b) := by
  rw [hb]; exact ⟨hy, ⟨c, Y1, h1, hc⟩, ⟨Y2, c2, h2, hc2⟩, hl⟩
theorem gy1 : GoodY (KBw.bInts #[32]) := goodY [32] 32 [] [] 32 (by decide) (by unfold YOk; decide) rfl (by unfold White; decide) rfl (by unfold White; decide) (by decide)
theorem gy2 : GoodY (KBw.bInts #[9]) := goodY [9] 9 [] [] 9 (by decide) (by unfold YOk; decide) rfl (by unfold White; decide) rfl (by unfold White; decide) (by decide)
theorem gy3 : GoodY (KBw.bInts #[13, 10, 32]) := goodY [13, 10, 32] 13 [10, 32] [13, 10] 32 (by decide) (by unfold YOk; decide) rfl (by unfold White; decide) rfl (by unfold White; decide) (by decide)
theorem gy4 : GoodY (KBw.bInts #[32, 120, 32]) := goodY [32, 120, 32] 32 [120, 32] [32, 120] 32 (by decide) (by unfold YOk; decide) rfl (by unfold White; decide) rfl (by unfold White; decide) (by decide)
theorem gy5 : GoodY (KBw.bInts #[32, 41, 32]) := goodY [32, 41, 32] 32 [41, 32] [32, 41] 32 (by decide) (by unfold YOk; decide) rfl (by unfold White; decide) rfl (by unfold White; decide) (by decide)
theorem gy6 : GoodY (KBw.bInts #[10, 61, 9]) := goodY [10, 61, 9] 10 [61, 9] [10, 61] 9 (by decide) (by unfold YOk; decide) rfl (by unfold White; decide) rfl (by unfold White; decide) (by decide)
def MenuY (ms : List Value) : Prop := ∀ v ∈ ms, ∃ b t, v = Value.bytes b t ∧ GoodY (KBw.bInts b)
theorem menuY_nil : MenuY [] := fun _ h => nomatch h
theorem menuY_cons {b : Array UInt8} {t : Tok} {ms : List Value} (hb : GoodY (KBw.bInts b)) (h : MenuY ms) : MenuY (.bytes b t :: ms) := by
  intro v hv
  rcases List.mem_cons.mp hv with e | hv
  · exact ⟨b, t, e, hb⟩
  · exact h v hv
theorem menu6 (a b c d e f : Tok) : MenuY [.bytes #[32] a, .bytes #[9] b, .bytes #[13, 10, 32] c, .bytes #[32, 120, 32] d, .bytes #[32, 41, 32] e, .bytes #[10, 61, 9] f] :=
  menuY_cons gy1 (menuY_cons gy2 (menuY_cons gy3 (menuY_cons gy4 (menuY_cons gy5 (menuY_cons gy6 menuY_nil)))))
theorem pl_len (ks : List Int) : (piecesL ks).length ≤ 2 * ks.length + 1 := pieces_len ks ks.length 0 0
theorem pl_alt (ks : List Int) : Alt (piecesL ks) := alt_F ks ks.length 0 0
section
variable {c : Cx} {m : Loc} {N : Led}
theorem wx_eqp {a b : Addr} {xs ys : List Value} {ps : List Pc} {t1 t2 : Led} {ca cb : Nat} {Q : Value → Loc → Led → Prop} (hu : c.un + 64 < cLine) (ha : (a, listOf xs.toArray ca) ∈ N) (hb : (b, listOf ys.toArray cb) ∈ N) (P1 : PcsAre t1 xs ps) (P2 : PcsAre t2 ys ps) (h1 : ∀ p ∈ t1, p ∈ N) (h2 : ∀ p ∈ t2, p ∈ N) (h : Q (.bool true) m N) : Wx c m N (compareOp .Eq (.ref a) (.ref b)) Q :=
  ⟨fun s u R F N' k => eq_pcs (listN N' ha) (listN N' hb) P1 P2 (fun p hp => (N' p (h1 p hp)).1) (fun p hp => (N' p (h2 p hp)).1) hu (k _ s.heap s.toks u m N F N' h)⟩
end
theorem t_law : PySem.Challenge.rw_or0048_01.Holds := by
  refine holds_law raw_said fun said => holds_open (q := hd.view_39) (loose := hd.loose) (Xt := fun s => xlAt hd.view_39 hd.lv s && recOk PySem.Challenge.rw_or0048_01.row.toRowW.records s) (XP := XL hd.view_39 hd.lv) (Yf := Hook.obs (kHook hd.heap_39 hd.as hd.as_eq)) (Ya := Hook.val (kHook hd.heap_39 hd.as hd.as_eq)) (YP := Hook.says (kHook hd.heap_39 hd.as hd.as_eq)) (N := 3308) raw_left (Hook.of (kHook hd.heap_39 hd.as hd.as_eq)) (Hook.keeps (kHook hd.heap_39 hd.as hd.as_eq)) (fun s e => xl_of s (Bool.and_eq_true_iff.mp e).1) XL.keeps (by rfl) (by rfl) (by rfl) (fun s e => recFacts_of (Bool.and_eq_true_iff.mp e).2) (by rfl) said raw_ok raw_bare raw_hw ?hc
  w_on
  k_fill
  intro wr sa sb gm bm GR YY fn ob p1 c1 d1 v1 k1 go gd gc gD gm1 gg ar vl al q1 q2 q3 q4 q5
  have KX := kIn_of YY
  refine Ground.open GR fun TT TB DD TE TW => ?_
  wrow_args q1 q2 q3 q4 q5
  refine enter_call ?_
  w_top on
  refine codeAny_mono ?_ fun _ _ g => GoodW.toG g
  have KB := below_caller TT.heap
  w_call any go gd gc gD TT FF
  dsimp only
  rename Fr _ _ _ _ => FF
  rename News _ _ _ _ => NN0
  rename Heap.IsList _ _ _ => hL
  rename IntsAre _ _ => hI
  refine wx_enter 20 KB KX TT FF NN0 rfl (by decide) (by decide) rfl ?_ ?_
  · intro c I G eg
    have hL' := isL_of eg hL
    have hg := z_ok I (glob_cons (x := Str.ofString "_law_pen") (v := .ref 218) I G rfl (by k_is) (glob_cons (x := Str.ofString "_law_row") (v := .ref 237) I G rfl (by k_is) (glob_cons (x := Str.ofString "_law_pick") (v := .ref 232) I G rfl (by k_is) (glob_cons (x := Str.ofString "pieces_of") (v := .ref 213) I G rfl (by k_is) (glob_cons (x := Str.ofString "_law_is_sound") (v := .ref 242) I G rfl (by k_is) glob_nil)))))
    have hu := G.hu
    refine run_sound G hg 400 ?_
    walk_at "wGo"
    refine wx_call I G (c_pen _ _ _ _ hI (by omega)) (by decide) (fun h u F N => keeps_list F hL') ?_
    rintro hp r tl ne ⟨q, c0, cs, cells, t1, t2, n0, rfl, rfl, hcs, hc40, hne⟩
    clear ne hp
    walk_at "wGo"
    refine wx_swap2 G hg 100 rfl rfl ?_ rfl (sw_env I.s rfl)
    walk_at "wGo"
    refine wx_callM [(c0, listOf cs.toArray n0)] I G (t_row _ q c0 0 0 t1 t2 0 cs cells hcs hc40 (by decide) (by decide) (by decide)) (by decide) (fun p hp => List.mem_append_left _ hp) (List.forall_mem_cons.mpr ⟨hne, nil_mem⟩) (fun h u F N => hid_list' N (.tail _ (.head _)) hne) ?_
    rintro r o ⟨⟨b1, tb1, rfl, hb1⟩, sp1, hl1, ta1, tc1, n1, rfl, hh1, hs1, hs1'⟩
    walk_at "wGo"
    refine wx_callM [(c0, listOf cs.toArray n0)] I G (t_row _ q c0 sp1 hl1 ta1 tc1 n1 cs cells hcs hc40 hs1 (by omega) hh1) (by decide) (fun p hp => hp) (List.forall_mem_cons.mpr ⟨hne, nil_mem⟩) (fun h u F N => hid_list' N (.tail _ (.head _)) hne) ?_
    rintro r o ⟨⟨b2, tb2, rfl, hb2⟩, sp2, hl2, ta2, tc2, n2, rfl, hh2, hs2, hs2'⟩
    walk_at "wGo"
    refine ⟨_, _, _, _, rfl, .head _, ?_⟩
    walk_at "wGo"
    rename_i y1 y2 y3 y4 y5 y6 lM hM
    have hneM : lM ≠ q := Ne.symm (Nat.ne_of_lt (hM _ (.tail _ (.head _))))
    refine wx_callM [(c0, listOf cs.toArray n0), (lM, _)] I G (t_pick _ q c0 lM sp2 hl2 ta2 tc2 n2 cs cells hcs hc40 hs2 (by omega) hh2 [.bytes #[32] y1, .bytes #[9] y2, .bytes #[13, 10, 32] y3, .bytes #[32, 120, 32] y4, .bytes #[32, 41, 32] y5, .bytes #[10, 61, 9] y6] (Nat.succ_le_succ (Nat.zero_le _)) (show 6 ≤ 100 by decide)) (by decide) (List.forall_mem_cons.mpr ⟨.tail _ (.tail _ (.head _)), List.forall_mem_cons.mpr ⟨.tail _ (.tail _ (.tail _ (.head _))), List.forall_mem_cons.mpr ⟨.head _, nil_mem⟩⟩⟩) (List.forall_mem_cons.mpr ⟨hne, List.forall_mem_cons.mpr ⟨hneM, nil_mem⟩⟩) (fun h u F N => ⟨hid_list' N (.tail _ (.tail _ (.tail _ (.head _)))) hne, hid_list' N (.head _) hneM⟩) ?_
    rintro r o ⟨hr, sp3, hl3, ta3, tc3, n3, rfl, hh3, hs3, hs3'⟩
    obtain ⟨bY, tY, rfl, hY⟩ := menu6 _ _ _ _ _ _ r hr
    clear hr
    walk_at "wGo"
    refine wx_swap2 G hg 100 rfl rfl ?_ rfl (sw_env I.s rfl)
    walk_at "wGo"
    refine wx_call I G (c_pieces _ b1 tb1 _ rfl (n76 hb1)) (by decide) (fun _ _ _ _ => trivial) ?_
    rintro hp r tl ne ⟨a1, vs1, m1, tp1, rfl, rfl, P1⟩
    clear ne hp
    walk_at "wGo"
    refine Wx.sub ((a1, listOf vs1.toArray m1) :: tp1) (fun p hp => List.mem_append_left _ hp) ?_
    refine wx_call I G (c_pieces _ b2 tb2 _ rfl (n76 hb2)) (by decide) (fun _ _ _ _ => trivial) ?_
    rintro hp r tl ne ⟨a2, vs2, m2, tp2, rfl, rfl, P2⟩
    clear ne hp
    walk_at "wGo"
    refine ⟨_, _, _, _, rfl, .head _, ?_⟩
    have hlen1 := pl_len (KBw.bInts b1)
    have hlen2 := pl_len (KBw.bInts b2)
    replace P1 := P1.mono fun p hp => List.mem_append_left tp2 hp
    replace P2 := P2.mono fun p hp => List.mem_append_right tp1 hp
    walk_at "wGo"
    refine Wx.sub ((a1, listOf vs1.toArray m1) :: (a2, listOf vs2.toArray m2) :: (tp1 ++ tp2)) ?_ ?_
    · refine List.forall_mem_cons.mpr ⟨.tail _ (List.mem_append_right _ (.head _)), List.forall_mem_cons.mpr ⟨.tail _ (.head _), fun p hp => ?_⟩⟩
      rcases List.mem_append.mp hp with h | h
      · exact .tail _ (List.mem_append_right _ (.tail _ h))
      · exact .tail _ (List.mem_append_left _ (.tail _ h))
    refine wx_call I G (t_sound _ a1 vs1 _ _ P1 (pl_alt _) (by omega)) (by decide) (fun h u F N => ⟨listN N (.head _), fun p hp => (N p (.tail _ (.tail _ hp))).1⟩) ?_
    rintro hp r tl ne ⟨rfl, rfl⟩
    clear ne hp
    walk_at "wGo"
    · refine wx_call I G (t_sound _ a2 vs2 _ _ P2 (pl_alt _) (by omega)) (by decide) (fun h u F N => ⟨listN N (.tail _ (.head _)), fun p hp => (N p (.tail _ (.tail _ hp))).1⟩) ?_
      rintro hp r tl ne ⟨rfl, rfl⟩
      clear ne hp
      walk_at "wGo"
      · obtain ⟨i1, g1, g2, r2, ex, ez, ew⟩ : ∃ i1 g1 g2 r2, piecesL (KBw.bInts b1) = i1 ++ [Pc.gap g1] ∧ piecesL (KBw.bInts b2) = Pc.gap g2 :: r2 ∧ piecesL (KBw.bInts b1 ++ KBw.bInts bY ++ KBw.bInts b2) = i1 ++ [Pc.gap (g1 ++ KBw.bInts bY ++ g2)] ++ r2 := by
          obtain ⟨hY1, ⟨c, Y1, hY2, hc⟩, ⟨Y2, c2, hY3, hc2⟩, _⟩ := hY
          exact pieces_join hY1 hY2 hc hY3 hc2
        have hlen3 := pl_len (KBw.bInts b1 ++ KBw.bInts bY ++ KBw.bInts b2)
        have hgl1 : g1.length ≤ 76 := Nat.le_trans (gap_len (by rw [ex]; exact List.mem_append_right _ (.head _))) hb1
        have hgl2 : g2.length ≤ 76 := Nat.le_trans (gap_len (by rw [ez]; exact .head _)) hb2
        have hYl : (KBw.bInts bY).length ≤ 3 := hY.2.2.2
        rw [List.length_append, List.length_append] at hlen3
        have hl3 : (piecesL (KBw.bInts b1 ++ KBw.bInts bY ++ KBw.bInts b2)).length ≤ 1000 := by omega
        have hl4 : (KBw.bInts b1 ++ KBw.bInts bY ++ KBw.bInts b2).length ≤ 1000 := by rw [List.length_append, List.length_append]; omega
        rw [ex] at P1 hlen1
        rw [ez] at P2 hlen2
        obtain ⟨v1, x1, o1, e1, mo1, c1, Q1⟩ := P1.snoc_inv
        obtain ⟨x2, o2, v2, e2, mo2, c2, Q2⟩ := P2.cons_inv
        subst e1 e2
        obtain ⟨bg1, tg1, e1, hg1⟩ := gap_obj c1
        obtain ⟨bg2, tg2, e2, hg2⟩ := gap_obj c2
        subst e1 e2
        have hv1 : v1.length ≤ 1000 := by have := Q1.length; rw [List.length_append, List.length_singleton] at hlen1; omega
        have hv2 : v2.length ≤ 1000 := by have := Q2.length; rw [List.length_cons] at hlen2; omega
        have hs1 : bg1.size ≤ 76 := size_le (by rw [hg1]; exact hgl1)
        have hs2 : bg2.size ≤ 76 := size_le (by rw [hg2]; exact hgl2)
        have hsY : bY.size ≤ 3 := size_le hYl
        have hz1 : b1.size ≤ 76 := size_le hb1
        have hz2 : b2.size ≤ 76 := size_le hb2
        clear c1 c2 P1 P2 ex ez hlen1 hlen2 hlen3 hgl1 hgl2 hYl
        refine wx_sliceL (vs := v1 ++ [.ref x1]) (zs := v1) (.head _) .none (.int _ _) (pick_init v1 _) (by rw [List.length_append, List.length_singleton]; omega) ?_
        intro d1 l1
        walk_at "wGo"
        refine wx_lastL (vs := v1) (.tail _ (.head _)) ?_
        walk_at "wGo"
        refine wx_tup (k := 1) (.tail _ (.tail _ (.tail _ mo1))) (Nat.lt_succ_self 1) (by decide) rfl ?_
        walk_at "wGo"
        refine wx_addb (by omega) ?_
        walk_at "wGo"
        refine wx_itemL (k := 0) (.tail _ (.tail _ (.head _))) (by decide) (by decide) rfl ?_
        walk_at "wGo"
        refine wx_tup (k := 1) (.tail _ (.tail _ (.tail _ mo2))) (Nat.lt_succ_self 1) (by decide) rfl ?_
        walk_at "wGo"
        refine wx_addb (by rw [Array.size_append]; omega) ?_
        walk_at "wGo"
        rename_i tA D hD Ls hLs
        refine wx_addl (xs := v1) (ys := [.ref D]) (.tail _ (.tail _ (.head _))) (.head _) (by rw [List.length_singleton]; omega) ?_
        intro d3 l3
        walk_at "wGo"
        refine wx_sliceL (vs := .ref x2 :: v2) (zs := v2) (.tail _ (.tail _ (.tail _ (.tail _ (.tail _ (.head _)))))) (.int _ _) .none (pick_tail _ v2) (by rw [List.length_cons]; omega) ?_
        intro d4 l4
        walk_at "wGo"
        refine wx_addl (xs := v1 ++ [.ref D]) (ys := v2) (.tail _ (.head _)) (.head _) (by rw [List.length_append, List.length_singleton]; omega) ?_
        intro d5 l5
        walk_at "wGo"
        refine wx_addb (by omega) ?_
        walk_at "wGo"
        refine wx_addb (by rw [Array.size_append]; omega) ?_
        walk_at "wGo"
        refine Wx.sub ((d5, listOf (v1 ++ [Value.ref D] ++ v2).toArray 0) :: (D, ({ cls := .type "tuple", data := .seq #[.bool false, .bytes (bg1 ++ bY ++ bg2) tA] } : Obj)) :: (tp1 ++ tp2)) (List.forall_mem_cons.mpr ⟨.head _, List.forall_mem_cons.mpr ⟨.tail _ (.tail _ (.tail _ (.tail _ (.head _)))), fun p hp => .tail _ (.tail _ (.tail _ (.tail _ (.tail _ (.tail _ (.tail _ (.tail _ hp)))))))⟩⟩) ?_
        refine wx_call I G (c_pieces _ (b1 ++ bY ++ b2) _ (KBw.bInts b1 ++ KBw.bInts bY ++ KBw.bInts b2) (by rw [ints_add, ints_add]) hl4) (by decide) (fun _ _ _ _ => trivial) ?_
        rintro hp r tl ne ⟨a3, vs3, m3, tp3, rfl, rfl, P3⟩
        clear ne hp
        walk_at "wGo"
        have P4 : PcsAre ((D, ({ cls := .type "tuple", data := .seq #[.bool false, .bytes (bg1 ++ bY ++ bg2) tA] } : Obj)) :: (tp1 ++ tp2)) (v1 ++ [Value.ref D] ++ v2) (i1 ++ [Pc.gap (g1 ++ KBw.bInts bY ++ g2)] ++ r2) :=
          ((Q1.mono fun p hp => .tail _ hp).append (.cons _ _ (Pc.gap (g1 ++ KBw.bInts bY ++ g2)) (.head _) ⟨_, _, rfl, by rw [ints_add, ints_add, hg1, hg2]⟩ .nil)).append (Q2.mono fun p hp => .tail _ hp)
        refine wx_eqp (by omega) (.head _) (List.mem_append_right _ (.head _)) P3 (by rw [ew]; exact P4) (fun p hp => List.mem_append_left _ (.tail _ hp)) (fun p hp => List.mem_append_right _ (.tail _ hp)) ?_
        walk_at "wGo"
        · refine wx_call I G (t_sound _ a3 vs3 _ tp3 P3 (pl_alt _) hl3) (by decide) (fun h u F N => ⟨listN N (.head _), fun p hp => (N p (List.mem_append_left _ (.tail _ hp))).1⟩) ?_
          rintro hp r tl ne ⟨rfl, rfl⟩
          walk_at "wGo"
          rfl
        · rename (¬ _) => h
          exact absurd rfl h
      · rename (¬ _) => h
        exact absurd rfl h
    · rename (¬ _) => h
      exact absurd rfl h
  · intro h' tk m' N' F' NN'
    all_goals k_end
    all_goals wrow_close
end
end Mine
theorem PySem.Challenge.cw_or0048_01_holds : PySem.Challenge.rw_or0048_01.Holds :=
  Mine.t_law
