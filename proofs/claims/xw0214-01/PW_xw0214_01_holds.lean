import PyProof.Rows.All
import Wide.All
import OpenK.AllK
import Wide.FinOn
import PySem.Challenge.RW_xw0214_01
open PySem PySem.Calls PySem.W PyProof.Rows
set_option Elab.async false
set_option compiler.extract_closed false
set_option maxRecDepth 100000
namespace Mine
noncomputable def nth : List Stmt → Nat → Stmt
  | [], _ => .Pass ⟨0, 0, 0, 0⟩
  | s :: _, 0 => s
  | _ :: r, n + 1 => nth r n
noncomputable def mem : Stmt → List Stmt
  | .ClassDef _ _ _ b _ _ _ _ _ _ _ => b
  | _ => []
noncomputable abbrev body : List Stmt := PySem.Challenge.pw_xw0214_01.main.body
set_option maxHeartbeats 8000000 in
noncomputable def hd.heap_39 : Params → Frag := (fun (a0 : Arguments) (b0 : List Stmt) (c0 : Scope) (p0 : Pos) (a7 : Arguments) (b7 : List Stmt) (c7 : Scope) (p7 : Pos) (a8 : Arguments) (b8 : List Stmt) (c8 : Scope) (p8 : Pos) (a9 : Arguments) (b9 : List Stmt) (c9 : Scope) (p9 : Pos) (a10 : Arguments) (b10 : List Stmt) (c10 : Scope) (p10 : Pos) (a11 : Arguments) (b11 : List Stmt) (c11 : Scope) (p11 : Pos) (a14 : Arguments) (b14 : List Stmt) (c14 : Scope) (p14 : Pos) (a15 : Arguments) (b15 : List Stmt) (c15 : Scope) (p15 : Pos) (a16 : Arguments) (b16 : List Stmt) (c16 : Scope) (p16 : Pos) (a18_0 : Arguments) (b18_0 : List Stmt) (c18_0 : Scope) (p18_0 : Pos) (a22_0 : Arguments) (b22_0 : List Stmt) (c22_0 : Scope) (p22_0 : Pos) (a23_0 : Arguments) (b23_0 : List Stmt) (c23_0 : Scope) (p23_0 : Pos) (a23_1 : Arguments) (b23_1 : List Stmt) (c23_1 : Scope) (p23_1 : Pos) (a23_2 : Arguments) (b23_2 : List Stmt) (c23_2 : Scope) (p23_2 : Pos) (a23_3 : Arguments) (b23_3 : List Stmt) (c23_3 : Scope) (p23_3 : Pos) (a23_4 : Arguments) (b23_4 : List Stmt) (c23_4 : Scope) (p23_4 : Pos) (a23_5 : Arguments) (b23_5 : List Stmt) (c23_5 : Scope) (p23_5 : Pos) (a23_6 : Arguments) (b23_6 : List Stmt) (c23_6 : Scope) (p23_6 : Pos) (a23_7 : Arguments) (b23_7 : List Stmt) (c23_7 : Scope) (p23_7 : Pos) (a23_8 : Arguments) (b23_8 : List Stmt) (c23_8 : Scope) (p23_8 : Pos) (a23_9 : Arguments) (b23_9 : List Stmt) (c23_9 : Scope) (p23_9 : Pos) (a23_10 : Arguments) (b23_10 : List Stmt) (c23_10 : Scope) (p23_10 : Pos) (a23_11 : Arguments) (b23_11 : List Stmt) (c23_11 : Scope) (p23_11 : Pos) (a23_12 : Arguments) (b23_12 : List Stmt) (c23_12 : Scope) (p23_12 : Pos) (a23_13 : Arguments) (b23_13 : List Stmt) (c23_13 : Scope) (p23_13 : Pos) (a23_14 : Arguments) (b23_14 : List Stmt) (c23_14 : Scope) (p23_14 : Pos) (a23_15 : Arguments) (b23_15 : List Stmt) (c23_15 : Scope) (p23_15 : Pos) (a23_16 : Arguments) (b23_16 : List Stmt) (c23_16 : Scope) (p23_16 : Pos) (a23_17 : Arguments) (b23_17 : List Stmt) (c23_17 : Scope) (p23_17 : Pos) (a23_18 : Arguments) (b23_18 : List Stmt) (c23_18 : Scope) (p23_18 : Pos) (a23_19 : Arguments) (b23_19 : List Stmt) (c23_19 : Scope) (p23_19 : Pos) (a23_20 : Arguments) (b23_20 : List Stmt) (c23_20 : Scope) (p23_20 : Pos) (a23_21 : Arguments) (b23_21 : List Stmt) (c23_21 : Scope) (p23_21 : Pos) (a23_22 : Arguments) (b23_22 : List Stmt) (c23_22 : Scope) (p23_22 : Pos) (a23_23 : Arguments) (b23_23 : List Stmt) (c23_23 : Scope) (p23_23 : Pos) (a23_24 : Arguments) (b23_24 : List Stmt) (c23_24 : Scope) (p23_24 : Pos) (a25 : Arguments) (b25 : List Stmt) (c25 : Scope) (p25 : Pos) (a26 : Arguments) (b26 : List Stmt) (c26 : Scope) (p26 : Pos) (a27 : Arguments) (b27 : List Stmt) (c27 : Scope) (p27 : Pos) (a28 : Arguments) (b28 : List Stmt) (c28 : Scope) (p28 : Pos) (a29 : Arguments) (b29 : List Stmt) (c29 : Scope) (p29 : Pos) (a30 : Arguments) (b30 : List Stmt) (c30 : Scope) (p30 : Pos) (a31 : Arguments) (b31 : List Stmt) (c31 : Scope) (p31 : Pos) (a32 : Arguments) (b32 : List Stmt) (c32 : Scope) (p32 : Pos) (a33 : Arguments) (b33 : List Stmt) (c33 : Scope) (p33 : Pos)
 (_ : [nth body 0, nth body 7, nth body 8, nth body 9, nth body 10, nth body 11, nth body 14, nth body 15, nth body 16, nth (mem (nth body 18)) 0, nth (mem (nth body 22)) 0, nth (mem (nth body 23)) 0, nth (mem (nth body 23)) 1, nth (mem (nth body 23)) 2, nth (mem (nth body 23)) 3, nth (mem (nth body 23)) 4, nth (mem (nth body 23)) 5, nth (mem (nth body 23)) 6, nth (mem (nth body 23)) 7, nth (mem (nth body 23)) 8, nth (mem (nth body 23)) 9, nth (mem (nth body 23)) 10, nth (mem (nth body 23)) 11, nth (mem (nth body 23)) 12, nth (mem (nth body 23)) 13, nth (mem (nth body 23)) 14, nth (mem (nth body 23)) 15, nth (mem (nth body 23)) 16, nth (mem (nth body 23)) 17, nth (mem (nth body 23)) 18, nth (mem (nth body 23)) 19, nth (mem (nth body 23)) 20, nth (mem (nth body 23)) 21, nth (mem (nth body 23)) 22, nth (mem (nth body 23)) 23, nth (mem (nth body 23)) 24, nth body 25, nth body 26, nth body 27, nth body 28, nth body 29, nth body 30, nth body 31, nth body 32, nth body 33] = [.FunctionDef "_wall" a0 b0 [] .none [] c0 .none "_wall" p0,
  .FunctionDef "text_form" a7 b7 [] .none [] c7 .none "text_form" p7,
  .FunctionDef "comment_form" a8 b8 [] .none [] c8 .none "comment_form" p8,
  .FunctionDef "instruction_form" a9 b9 [] .none [] c9 .none "instruction_form" p9,
  .FunctionDef "element_form" a10 b10 [] .none [] c10 .none "element_form" p10,
  .FunctionDef "root_form" a11 b11 [] .none [] c11 .none "root_form" p11,
  .FunctionDef "rows_of" a14 b14 [] .none [] c14 .none "rows_of" p14,
  .FunctionDef "one_form" a15 b15 [] .none [] c15 .none "one_form" p15,
  .FunctionDef "add_node" a16 b16 [] .none [] c16 .none "add_node" p16,
  .FunctionDef "__init__" a18_0 b18_0 [] .none [] c18_0 .none "__init__" p18_0,
  .FunctionDef "__init__" a22_0 b22_0 [] .none [] c22_0 .none "__init__" p22_0,
  .FunctionDef "__init__" a23_0 b23_0 [] .none [] c23_0 .none "__init__" p23_0,
  .FunctionDef "new_row" a23_1 b23_1 [] .none [] c23_1 .none "new_row" p23_1,
  .FunctionDef "row" a23_2 b23_2 [] .none [] c23_2 .none "row" p23_2,
  .FunctionDef "new_root" a23_3 b23_3 [] .none [] c23_3 .none "new_root" p23_3,
  .FunctionDef "add_child" a23_4 b23_4 [] .none [] c23_4 .none "add_child" p23_4,
  .FunctionDef "add_element" a23_5 b23_5 [] .none [] c23_5 .none "add_element" p23_5,
  .FunctionDef "add_text" a23_6 b23_6 [] .none [] c23_6 .none "add_text" p23_6,
  .FunctionDef "add_comment" a23_7 b23_7 [] .none [] c23_7 .none "add_comment" p23_7,
  .FunctionDef "add_instruction" a23_8 b23_8 [] .none [] c23_8 .none "add_instruction" p23_8,
  .FunctionDef "element_row" a23_9 b23_9 [] .none [] c23_9 .none "element_row" p23_9,
  .FunctionDef "set_attribute" a23_10 b23_10 [] .none [] c23_10 .none "set_attribute" p23_10,
  .FunctionDef "add_namespace" a23_11 b23_11 [] .none [] c23_11 .none "add_namespace" p23_11,
  .FunctionDef "set_value" a23_12 b23_12 [] .none [] c23_12 .none "set_value" p23_12,
  .FunctionDef "kind" a23_13 b23_13 [] .none [] c23_13 .none "kind" p23_13,
  .FunctionDef "name" a23_14 b23_14 [] .none [] c23_14 .none "name" p23_14,
  .FunctionDef "uri" a23_15 b23_15 [] .none [] c23_15 .none "uri" p23_15,
  .FunctionDef "local" a23_16 b23_16 [] .none [] c23_16 .none "local" p23_16,
  .FunctionDef "value" a23_17 b23_17 [] .none [] c23_17 .none "value" p23_17,
  .FunctionDef "parent" a23_18 b23_18 [] .none [] c23_18 .none "parent" p23_18,
  .FunctionDef "children" a23_19 b23_19 [] .none [] c23_19 .none "children" p23_19,
  .FunctionDef "attributes" a23_20 b23_20 [] .none [] c23_20 .none "attributes" p23_20,
  .FunctionDef "namespaces" a23_21 b23_21 [] .none [] c23_21 .none "namespaces" p23_21,
  .FunctionDef "root_of" a23_22 b23_22 [] .none [] c23_22 .none "root_of" p23_22,
  .FunctionDef "is_above" a23_23 b23_23 [] .none [] c23_23 .none "is_above" p23_23,
  .FunctionDef "attribute_value" a23_24 b23_24 [] .none [] c23_24 .none "attribute_value" p23_24,
  .FunctionDef "_law_pool" a25 b25 [] .none [] c25 .none "_law_pool" p25,
  .FunctionDef "_law_take" a26 b26 [] .none [] c26 .none "_law_take" p26,
  .FunctionDef "_law_one" a27 b27 [] .none [] c27 .none "_law_one" p27,
  .FunctionDef "_law_row" a28 b28 [] .none [] c28 .none "_law_row" p28,
  .FunctionDef "_law_put" a29 b29 [] .none [] c29 .none "_law_put" p29,
  .FunctionDef "_law_listed" a30 b30 [] .none [] c30 .none "_law_listed" p30,
  .FunctionDef "_law_plain_right" a31 b31 [] .none [] c31 .none "_law_plain_right" p31,
  .FunctionDef "_law_element_right" a32 b32 [] .none [] c32 .none "_law_element_right" p32,
  .FunctionDef "law" a33 b33 [] .none [] c33 .none "law" p33]) (P : Params) => (
 (nat_lit 2, ⟨.none,(none : Option Nat),.dict #[⟨PySem.PyData.keyHash P "type.__subclasses__.Exception.0",.str "type.__subclasses__.Exception.0" (314:Nat),.int 94 (0:Nat)⟩,⟨PySem.PyData.keyHash P "type.__subclasses__.Exception.n",.str "type.__subclasses__.Exception.n" (315:Nat),.int 1 (0:Nat)⟩] (2:Nat),#[]⟩) ::
 (nat_lit 3, ⟨.type "dict",(none : Option Nat),.dict #[⟨PySem.PyData.keyHash P "__name__",.str "__name__" (165:Nat),.str "law_xw0214_01" (634:Nat)⟩,⟨PySem.PyData.keyHash P "__doc__",.str "__doc__" (166:Nat),.none⟩,⟨PySem.PyData.keyHash P "__package__",.str "__package__" (167:Nat),.none⟩,⟨PySem.PyData.keyHash P "__loader__",.str "__loader__" (168:Nat),.builtin "__main__.__loader__#opaque"⟩,⟨PySem.PyData.keyHash P "__spec__",.str "__spec__" (169:Nat),.none⟩,⟨PySem.PyData.keyHash P "__annotations__",.str "__annotations__" (170:Nat),.ref (6:Nat)⟩,⟨PySem.PyData.keyHash P "__builtins__",.str "__builtins__" (171:Nat),.ref (4:Nat)⟩,⟨PySem.PyData.keyHash P "__file__",.str "__file__" (173:Nat),.str "/claim/cut.py" (172:Nat)⟩,⟨PySem.PyData.keyHash P "__cached__",.str "__cached__" (174:Nat),.none⟩,⟨PySem.PyData.keyHash P "_wall",.str "_wall" (193:Nat),.ref (21:Nat)⟩,⟨PySem.PyData.keyHash P "XMLNS_URI",.str "XMLNS_URI" (195:Nat),.str "http://www.w3.org/2000/xmlns/" (194:Nat)⟩,⟨PySem.PyData.keyHash P "KIND",.str "KIND" (199:Nat),.int 0 (198:Nat)⟩,⟨PySem.PyData.keyHash P "LABEL",.str "LABEL" (201:Nat),.int 1 (200:Nat)⟩,⟨PySem.PyData.keyHash P "VALUE",.str "VALUE" (203:Nat),.int 2 (202:Nat)⟩,⟨PySem.PyData.keyHash P "ATTRIBUTES",.str "ATTRIBUTES" (205:Nat),.int 3 (204:Nat)⟩,⟨PySem.PyData.keyHash P "text_form",.str "text_form" (212:Nat),.ref (28:Nat)⟩,⟨PySem.PyData.keyHash P "comment_form",.str "comment_form" (219:Nat),.ref (35:Nat)⟩,⟨PySem.PyData.keyHash P "instruction_form",.str "instruction_form" (227:Nat),.ref (42:Nat)⟩,⟨PySem.PyData.keyHash P "element_form",.str "element_form" (236:Nat),.ref (49:Nat)⟩,⟨PySem.PyData.keyHash P "root_form",.str "root_form" (243:Nat),.ref (56:Nat)⟩,⟨PySem.PyData.keyHash P "DECLARED",.str "DECLARED" (247:Nat),.str "xmlns" (246:Nat)⟩,⟨PySem.PyData.keyHash P "rows_of",.str "rows_of" (259:Nat),.ref (63:Nat)⟩,⟨PySem.PyData.keyHash P "one_form",.str "one_form" (269:Nat),.ref (70:Nat)⟩,⟨PySem.PyData.keyHash P "add_node",.str "add_node" (286:Nat),.ref (77:Nat)⟩,⟨PySem.PyData.keyHash P "MarkupError",.str "MarkupError" (317:Nat),.ref (94:Nat)⟩,⟨PySem.PyData.keyHash P "TreeFault",.str "TreeFault" (333:Nat),.ref (107:Nat)⟩,⟨PySem.PyData.keyHash P "PARENTS",.str "PARENTS" (338:Nat),.ref (110:Nat)⟩,⟨PySem.PyData.keyHash P "NodeRow",.str "NodeRow" (380:Nat),.ref (127:Nat)⟩,⟨PySem.PyData.keyHash P "Tree",.str "Tree" (633:Nat),.ref (316:Nat)⟩,⟨PySem.PyData.keyHash P "_law_pool",.str "_law_pool" (646:Nat),.ref (327:Nat)⟩,⟨PySem.PyData.keyHash P "_law_take",.str "_law_take" (655:Nat),.ref (334:Nat)⟩,⟨PySem.PyData.keyHash P "_law_one",.str "_law_one" (663:Nat),.ref (341:Nat)⟩,⟨PySem.PyData.keyHash P "_law_row",.str "_law_row" (671:Nat),.ref (348:Nat)⟩,⟨PySem.PyData.keyHash P "_law_put",.str "_law_put" (680:Nat),.ref (355:Nat)⟩,⟨PySem.PyData.keyHash P "_law_listed",.str "_law_listed" (686:Nat),.ref (360:Nat)⟩,⟨PySem.PyData.keyHash P "_law_plain_right",.str "_law_plain_right" (700:Nat),.ref (367:Nat)⟩,⟨PySem.PyData.keyHash P "_law_element_right",.str "_law_element_right" (706:Nat),.ref (372:Nat)⟩,⟨PySem.PyData.keyHash P "law",.str "law" (712:Nat),.ref (377:Nat)⟩] (38:Nat),#[]⟩) ::
 (nat_lit 15, ⟨.type "tuple",(none : Option Nat),.seq #[] (0:Nat),#[]⟩) ::
 (nat_lit 17, ⟨.type "tuple",(none : Option Nat),.seq #[.str "k" (190:Nat)] (0:Nat),#[]⟩) ::
 (nat_lit 18, ⟨.type "tuple",(none : Option Nat),.seq #[] (0:Nat),#[]⟩) ::
 (nat_lit 20, ⟨.type "code",(none : Option Nat),.fields #[.str "_wall" (187:Nat),.str "_wall" (188:Nat),.str "/claim/cut.py" (189:Nat),.int 1 (0:Nat),.int 1 (0:Nat),.int 0 (0:Nat),.int 0 (0:Nat),.int 3 (0:Nat),.ref (15:Nat),.bool true,.int 181 (0:Nat),.ref (16:Nat),.none,.ref (17:Nat),.ref (18:Nat),.ref (19:Nat),.int 191 (0:Nat),.int 1 (0:Nat),.str "/claim/cut.py" (192:Nat)],#[]⟩) ::
 (nat_lit 21, ⟨.type "function",(none : Option Nat),.func ⟨"_wall","_wall",a0,.stmts b0,c0,(3:Nat),[],.none,.none,.none,.str "__main__" (164:Nat),.none,.ref (20:Nat),.none,(0:Nat)⟩,#[]⟩) ::
 (nat_lit 22, ⟨.type "tuple",(none : Option Nat),.seq #[] (0:Nat),#[]⟩) ::
 (nat_lit 24, ⟨.type "tuple",(none : Option Nat),.seq #[.str "text" (209:Nat)] (0:Nat),#[]⟩) ::
 (nat_lit 25, ⟨.type "tuple",(none : Option Nat),.seq #[] (0:Nat),#[]⟩) ::
 (nat_lit 27, ⟨.type "code",(none : Option Nat),.fields #[.str "text_form" (206:Nat),.str "text_form" (207:Nat),.str "/claim/cut.py" (208:Nat),.int 10 (0:Nat),.int 1 (0:Nat),.int 0 (0:Nat),.int 0 (0:Nat),.int 3 (0:Nat),.ref (22:Nat),.bool true,.int 181 (0:Nat),.ref (23:Nat),.none,.ref (24:Nat),.ref (25:Nat),.ref (26:Nat),.int 210 (0:Nat),.int 10 (0:Nat),.str "/claim/cut.py" (211:Nat)],#[]⟩) ::
 (nat_lit 28, ⟨.type "function",(none : Option Nat),.func ⟨"text_form","text_form",a7,.stmts b7,c8,(3:Nat),[],.none,.none,.none,.str "markupmill.forms" (196:Nat),.none,.ref (27:Nat),.none,(0:Nat)⟩,#[]⟩) ::
 (nat_lit 29, ⟨.type "tuple",(none : Option Nat),.seq #[] (0:Nat),#[]⟩) ::
 (nat_lit 31, ⟨.type "tuple",(none : Option Nat),.seq #[.str "text" (216:Nat)] (0:Nat),#[]⟩) ::
 (nat_lit 32, ⟨.type "tuple",(none : Option Nat),.seq #[] (0:Nat),#[]⟩) ::
 (nat_lit 34, ⟨.type "code",(none : Option Nat),.fields #[.str "comment_form" (213:Nat),.str "comment_form" (214:Nat),.str "/claim/cut.py" (215:Nat),.int 12 (0:Nat),.int 1 (0:Nat),.int 0 (0:Nat),.int 0 (0:Nat),.int 3 (0:Nat),.ref (29:Nat),.bool true,.int 181 (0:Nat),.ref (30:Nat),.none,.ref (31:Nat),.ref (32:Nat),.ref (33:Nat),.int 217 (0:Nat),.int 12 (0:Nat),.str "/claim/cut.py" (218:Nat)],#[]⟩) ::
 (nat_lit 35, ⟨.type "function",(none : Option Nat),.func ⟨"comment_form","comment_form",a8,.stmts b8,c8,(3:Nat),[],.none,.none,.none,.str "markupmill.forms" (196:Nat),.none,.ref (34:Nat),.none,(0:Nat)⟩,#[]⟩) ::
 (nat_lit 36, ⟨.type "tuple",(none : Option Nat),.seq #[] (0:Nat),#[]⟩) ::
 (nat_lit 38, ⟨.type "tuple",(none : Option Nat),.seq #[.str "target" (223:Nat),.str "data" (224:Nat)] (0:Nat),#[]⟩) ::
 (nat_lit 39, ⟨.type "tuple",(none : Option Nat),.seq #[] (0:Nat),#[]⟩) ::
 (nat_lit 41, ⟨.type "code",(none : Option Nat),.fields #[.str "instruction_form" (220:Nat),.str "instruction_form" (221:Nat),.str "/claim/cut.py" (222:Nat),.int 14 (0:Nat),.int 2 (0:Nat),.int 0 (0:Nat),.int 0 (0:Nat),.int 3 (0:Nat),.ref (36:Nat),.bool true,.int 181 (0:Nat),.ref (37:Nat),.none,.ref (38:Nat),.ref (39:Nat),.ref (40:Nat),.int 225 (0:Nat),.int 14 (0:Nat),.str "/claim/cut.py" (226:Nat)],#[]⟩) ::
 (nat_lit 42, ⟨.type "function",(none : Option Nat),.func ⟨"instruction_form","instruction_form",a9,.stmts b9,c9,(3:Nat),[],.none,.none,.none,.str "markupmill.forms" (196:Nat),.none,.ref (41:Nat),.none,(0:Nat)⟩,#[]⟩) ::
 (nat_lit 43, ⟨.type "tuple",(none : Option Nat),.seq #[] (0:Nat),#[]⟩) ::
 (nat_lit 45, ⟨.type "tuple",(none : Option Nat),.seq #[.str "label" (231:Nat),.str "attributes" (232:Nat),.str "children" (233:Nat)] (0:Nat),#[]⟩) ::
 (nat_lit 46, ⟨.type "tuple",(none : Option Nat),.seq #[] (0:Nat),#[]⟩) ::
 (nat_lit 48, ⟨.type "code",(none : Option Nat),.fields #[.str "element_form" (228:Nat),.str "element_form" (229:Nat),.str "/claim/cut.py" (230:Nat),.int 16 (0:Nat),.int 3 (0:Nat),.int 0 (0:Nat),.int 0 (0:Nat),.int 3 (0:Nat),.ref (43:Nat),.bool true,.int 181 (0:Nat),.ref (44:Nat),.none,.ref (45:Nat),.ref (46:Nat),.ref (47:Nat),.int 234 (0:Nat),.int 16 (0:Nat),.str "/claim/cut.py" (235:Nat)],#[]⟩) ::
 (nat_lit 49, ⟨.type "function",(none : Option Nat),.func ⟨"element_form","element_form",a10,.stmts b10,c10,(3:Nat),[],.none,.none,.none,.str "markupmill.forms" (196:Nat),.none,.ref (48:Nat),.none,(0:Nat)⟩,#[]⟩) ::
 (nat_lit 50, ⟨.type "tuple",(none : Option Nat),.seq #[] (0:Nat),#[]⟩) ::
 (nat_lit 52, ⟨.type "tuple",(none : Option Nat),.seq #[.str "children" (240:Nat)] (0:Nat),#[]⟩) ::
 (nat_lit 53, ⟨.type "tuple",(none : Option Nat),.seq #[] (0:Nat),#[]⟩) ::
 (nat_lit 55, ⟨.type "code",(none : Option Nat),.fields #[.str "root_form" (237:Nat),.str "root_form" (238:Nat),.str "/claim/cut.py" (239:Nat),.int 18 (0:Nat),.int 1 (0:Nat),.int 0 (0:Nat),.int 0 (0:Nat),.int 3 (0:Nat),.ref (50:Nat),.bool true,.int 181 (0:Nat),.ref (51:Nat),.none,.ref (52:Nat),.ref (53:Nat),.ref (54:Nat),.int 241 (0:Nat),.int 18 (0:Nat),.str "/claim/cut.py" (242:Nat)],#[]⟩) ::
 (nat_lit 56, ⟨.type "function",(none : Option Nat),.func ⟨"root_form","root_form",a11,.stmts b11,c11,(3:Nat),[],.none,.none,.none,.str "markupmill.forms" (196:Nat),.none,.ref (55:Nat),.none,(0:Nat)⟩,#[]⟩) ::
 (nat_lit 57, ⟨.type "tuple",(none : Option Nat),.seq #[] (0:Nat),#[]⟩) ::
 (nat_lit 59, ⟨.type "tuple",(none : Option Nat),.seq #[.str "tree" (251:Nat),.str "element" (252:Nat),.str "found" (253:Nat),.str "node" (254:Nat),.str "prefix" (255:Nat),.str "name" (256:Nat)] (0:Nat),#[]⟩) ::
 (nat_lit 60, ⟨.type "tuple",(none : Option Nat),.seq #[] (0:Nat),#[]⟩) ::
 (nat_lit 62, ⟨.type "code",(none : Option Nat),.fields #[.str "rows_of" (248:Nat),.str "rows_of" (249:Nat),.str "/claim/cut.py" (250:Nat),.int 22 (0:Nat),.int 2 (0:Nat),.int 0 (0:Nat),.int 0 (0:Nat),.int 3 (0:Nat),.ref (57:Nat),.bool true,.int 181 (0:Nat),.ref (58:Nat),.none,.ref (59:Nat),.ref (60:Nat),.ref (61:Nat),.int 257 (0:Nat),.int 22 (0:Nat),.str "/claim/cut.py" (258:Nat)],#[]⟩) ::
 (nat_lit 63, ⟨.type "function",(none : Option Nat),.func ⟨"rows_of","rows_of",a14,.stmts b14,c14,(3:Nat),[],.none,.none,.none,.str "markupmill.tree_forms" (244:Nat),.none,.ref (62:Nat),.none,(0:Nat)⟩,#[]⟩) ::
 (nat_lit 64, ⟨.type "tuple",(none : Option Nat),.seq #[] (0:Nat),#[]⟩) ::
 (nat_lit 66, ⟨.type "tuple",(none : Option Nat),.seq #[.str "tree" (263:Nat),.str "node" (264:Nat),.str "children" (265:Nat),.str "kind" (266:Nat)] (0:Nat),#[]⟩) ::
 (nat_lit 67, ⟨.type "tuple",(none : Option Nat),.seq #[] (0:Nat),#[]⟩) ::
 (nat_lit 69, ⟨.type "code",(none : Option Nat),.fields #[.str "one_form" (260:Nat),.str "one_form" (261:Nat),.str "/claim/cut.py" (262:Nat),.int 31 (0:Nat),.int 3 (0:Nat),.int 0 (0:Nat),.int 0 (0:Nat),.int 3 (0:Nat),.ref (64:Nat),.bool true,.int 181 (0:Nat),.ref (65:Nat),.none,.ref (66:Nat),.ref (67:Nat),.ref (68:Nat),.int 267 (0:Nat),.int 31 (0:Nat),.str "/claim/cut.py" (268:Nat)],#[]⟩) ::
 (nat_lit 70, ⟨.type "function",(none : Option Nat),.func ⟨"one_form","one_form",a15,.stmts b15,c15,(3:Nat),[],.none,.none,.none,.str "markupmill.tree_forms" (244:Nat),.none,.ref (69:Nat),.none,(0:Nat)⟩,#[]⟩) ::
 (nat_lit 71, ⟨.type "tuple",(none : Option Nat),.seq #[] (0:Nat),#[]⟩) ::
 (nat_lit 73, ⟨.type "tuple",(none : Option Nat),.seq #[.str "tree" (273:Nat),.str "parent" (274:Nat),.str "form" (275:Nat),.str "kind" (276:Nat),.str "name" (277:Nat),.str "uri" (278:Nat),.str "local" (279:Nat),.str "element" (280:Nat),.str "key" (281:Nat),.str "told" (282:Nat),.str "value" (283:Nat)] (0:Nat),#[]⟩) ::
 (nat_lit 74, ⟨.type "tuple",(none : Option Nat),.seq #[] (0:Nat),#[]⟩) ::
 (nat_lit 76, ⟨.type "code",(none : Option Nat),.fields #[.str "add_node" (270:Nat),.str "add_node" (271:Nat),.str "/claim/cut.py" (272:Nat),.int 42 (0:Nat),.int 3 (0:Nat),.int 0 (0:Nat),.int 0 (0:Nat),.int 3 (0:Nat),.ref (71:Nat),.bool true,.int 181 (0:Nat),.ref (72:Nat),.none,.ref (73:Nat),.ref (74:Nat),.ref (75:Nat),.int 284 (0:Nat),.int 42 (0:Nat),.str "/claim/cut.py" (285:Nat)],#[]⟩) ::
 (nat_lit 77, ⟨.type "function",(none : Option Nat),.func ⟨"add_node","add_node",a16,.stmts b16,c16,(3:Nat),[],.none,.none,.none,.str "markupmill.tree_forms" (244:Nat),.none,.ref (76:Nat),.none,(0:Nat)⟩,#[]⟩) ::
 (nat_lit 78, ⟨.type "tuple",(none : Option Nat),.seq #[.type "Exception"] (0:Nat),#[]⟩) ::
 (nat_lit 85, ⟨.type "tuple",(none : Option Nat),.seq #[] (0:Nat),#[]⟩) ::
 (nat_lit 87, ⟨.type "tuple",(none : Option Nat),.seq #[.str "self" (304:Nat),.str "message" (305:Nat)] (0:Nat),#[]⟩) ::
 (nat_lit 88, ⟨.type "tuple",(none : Option Nat),.seq #[] (0:Nat),#[]⟩) ::
 (nat_lit 90, ⟨.type "code",(none : Option Nat),.fields #[.str "__init__" (301:Nat),.str "MarkupError.__init__" (302:Nat),.str "/claim/cut.py" (303:Nat),.int 61 (0:Nat),.int 2 (0:Nat),.int 0 (0:Nat),.int 0 (0:Nat),.int 3 (0:Nat),.ref (85:Nat),.bool true,.int 181 (0:Nat),.ref (86:Nat),.none,.ref (87:Nat),.ref (88:Nat),.ref (89:Nat),.int 306 (0:Nat),.int 61 (0:Nat),.str "/claim/cut.py" (307:Nat)],#[]⟩) ::
 (nat_lit 91, ⟨.type "function",(none : Option Nat),.func ⟨"__init__","MarkupError.__init__",a18_0,.stmts b18_0,c18_0,(3:Nat),[],.none,.none,.none,.str "markupmill.errors" (287:Nat),.none,.ref (90:Nat),.none,(0:Nat)⟩,#[]⟩) ::
 (nat_lit 92, ⟨.type "tuple",(none : Option Nat),.seq #[.str "message" (309:Nat)] (0:Nat),#[]⟩) ::
 (nat_lit 93, ⟨.type "dict",(none : Option Nat),.dict #[⟨PySem.PyData.keyHash P "__module__",.str "__module__" (296:Nat),.str "markupmill.errors" (287:Nat)⟩,⟨PySem.PyData.keyHash P "__firstlineno__",.str "__firstlineno__" (300:Nat),.int 59 (299:Nat)⟩,⟨PySem.PyData.keyHash P "__init__",.str "__init__" (308:Nat),.ref (91:Nat)⟩,⟨PySem.PyData.keyHash P "__static_attributes__",.str "__static_attributes__" (310:Nat),.ref (92:Nat)⟩,⟨PySem.PyData.keyHash P "__weakref__",.str "__weakref__" (312:Nat),.ref (95:Nat)⟩,⟨PySem.PyData.keyHash P "__doc__",.str "__doc__" (313:Nat),.none⟩] (3:Nat),#[]⟩) ::
 (nat_lit 94, ⟨.type "type",(none : Option Nat),.cls ⟨"MarkupError",[.type "Exception"],[.ref (94:Nat),.type "Exception",.type "BaseException",.type "object"],(93:Nat),"MarkupError",true,[],[.ref (107:Nat)],false,.none,false⟩,#[.some (.ref (78:Nat)),.none,.some (.str "MarkupError" (289:Nat)),.some (.str "MarkupError" (297:Nat)),.some (.builtin "Exception.__new__"),.some (.bool true)]⟩) ::
 (nat_lit 95, ⟨.type "getset_descriptor",(none : Option Nat),.fields #[.str "__weakref__" (311:Nat),.ref (94:Nat),.builtin "ExceptionGroup.__weakref__",.none],#[]⟩) ::
 (nat_lit 98, ⟨.type "tuple",(none : Option Nat),.seq #[.ref (94:Nat)] (0:Nat),#[]⟩) ::
 (nat_lit 105, ⟨.type "tuple",(none : Option Nat),.seq #[] (0:Nat),#[]⟩) ::
 (nat_lit 106, ⟨.type "dict",(none : Option Nat),.dict #[⟨PySem.PyData.keyHash P "__module__",.str "__module__" (325:Nat),.str "markupmill.errors" (287:Nat)⟩,⟨PySem.PyData.keyHash P "__firstlineno__",.str "__firstlineno__" (329:Nat),.int 64 (328:Nat)⟩,⟨PySem.PyData.keyHash P "__static_attributes__",.str "__static_attributes__" (330:Nat),.ref (105:Nat)⟩,⟨PySem.PyData.keyHash P "__doc__",.str "__doc__" (331:Nat),.none⟩] (2:Nat),#[]⟩) ::
 (nat_lit 107, ⟨.type "type",(none : Option Nat),.cls ⟨"TreeFault",[.ref (94:Nat)],[.ref (107:Nat),.ref (94:Nat),.type "Exception",.type "BaseException",.type "object"],(106:Nat),"TreeFault",true,[],[],false,.none,false⟩,#[.some (.ref (98:Nat)),.none,.some (.str "TreeFault" (318:Nat)),.some (.str "TreeFault" (326:Nat)),.some (.builtin "Exception.__new__"),.some (.bool true)]⟩) ::
 (nat_lit 110, ⟨.type "tuple",(none : Option Nat),.seq #[.str "root" (336:Nat),.str "element" (337:Nat)] (0:Nat),#[]⟩) ::
 (nat_lit 118, ⟨.type "tuple",(none : Option Nat),.seq #[] (0:Nat),#[]⟩) ::
 (nat_lit 120, ⟨.type "tuple",(none : Option Nat),.seq #[.str "self" (354:Nat),.str "kind" (355:Nat),.str "name" (356:Nat),.str "uri" (357:Nat),.str "local" (358:Nat),.str "value" (359:Nat),.str "parent" (360:Nat)] (0:Nat),#[]⟩) ::
 (nat_lit 121, ⟨.type "tuple",(none : Option Nat),.seq #[] (0:Nat),#[]⟩) ::
 (nat_lit 123, ⟨.type "code",(none : Option Nat),.fields #[.str "__init__" (351:Nat),.str "NodeRow.__init__" (352:Nat),.str "/claim/cut.py" (353:Nat),.int 70 (0:Nat),.int 7 (0:Nat),.int 0 (0:Nat),.int 0 (0:Nat),.int 3 (0:Nat),.ref (118:Nat),.bool true,.int 181 (0:Nat),.ref (119:Nat),.none,.ref (120:Nat),.ref (121:Nat),.ref (122:Nat),.int 361 (0:Nat),.int 70 (0:Nat),.str "/claim/cut.py" (362:Nat)],#[]⟩) ::
 (nat_lit 124, ⟨.type "function",(none : Option Nat),.func ⟨"__init__","NodeRow.__init__",a22_0,.stmts b22_0,c22_0,(3:Nat),[],.none,.none,.none,.str "markupmill.tree" (334:Nat),.none,.ref (123:Nat),.none,(0:Nat)⟩,#[]⟩) ::
 (nat_lit 125, ⟨.type "tuple",(none : Option Nat),.seq #[.str "attributes" (364:Nat),.str "children" (365:Nat),.str "kind" (366:Nat),.str "local" (367:Nat),.str "name" (368:Nat),.str "namespaces" (369:Nat),.str "parent" (370:Nat),.str "uri" (371:Nat),.str "value" (372:Nat)] (0:Nat),#[]⟩) ::
 (nat_lit 126, ⟨.type "dict",(none : Option Nat),.dict #[⟨PySem.PyData.keyHash P "__module__",.str "__module__" (346:Nat),.str "markupmill.tree" (334:Nat)⟩,⟨PySem.PyData.keyHash P "__firstlineno__",.str "__firstlineno__" (350:Nat),.int 68 (349:Nat)⟩,⟨PySem.PyData.keyHash P "__init__",.str "__init__" (363:Nat),.ref (124:Nat)⟩,⟨PySem.PyData.keyHash P "__static_attributes__",.str "__static_attributes__" (373:Nat),.ref (125:Nat)⟩,⟨PySem.PyData.keyHash P "__dict__",.str "__dict__" (375:Nat),.ref (128:Nat)⟩,⟨PySem.PyData.keyHash P "__weakref__",.str "__weakref__" (377:Nat),.ref (129:Nat)⟩,⟨PySem.PyData.keyHash P "__doc__",.str "__doc__" (378:Nat),.none⟩] (4:Nat),#[]⟩) ::
 (nat_lit 127, ⟨.type "type",(none : Option Nat),.cls ⟨"NodeRow",[.type "object"],[.ref (127:Nat),.type "object"],(126:Nat),"NodeRow",true,[],[],false,.none,false⟩,#[.none,.none,.some (.str "NodeRow" (339:Nat)),.some (.str "NodeRow" (347:Nat)),.some (.builtin "object.__new__"),.some (.bool true)]⟩) ::
 (nat_lit 128, ⟨.type "getset_descriptor",(none : Option Nat),.fields #[.str "__dict__" (374:Nat),.ref (127:Nat),.builtin "function.__dict__",.builtin "function.__dict__#set"],#[]⟩) ::
 (nat_lit 129, ⟨.type "getset_descriptor",(none : Option Nat),.fields #[.str "__weakref__" (376:Nat),.ref (127:Nat),.builtin "ExceptionGroup.__weakref__",.none],#[]⟩) ::
 (nat_lit 139, ⟨.type "tuple",(none : Option Nat),.seq #[] (0:Nat),#[]⟩) ::
 (nat_lit 141, ⟨.type "tuple",(none : Option Nat),.seq #[.str "self" (396:Nat)] (0:Nat),#[]⟩) ::
 (nat_lit 142, ⟨.type "tuple",(none : Option Nat),.seq #[] (0:Nat),#[]⟩) ::
 (nat_lit 144, ⟨.type "code",(none : Option Nat),.fields #[.str "__init__" (393:Nat),.str "Tree.__init__" (394:Nat),.str "/claim/cut.py" (395:Nat),.int 82 (0:Nat),.int 1 (0:Nat),.int 0 (0:Nat),.int 0 (0:Nat),.int 3 (0:Nat),.ref (139:Nat),.bool true,.int 181 (0:Nat),.ref (140:Nat),.none,.ref (141:Nat),.ref (142:Nat),.ref (143:Nat),.int 397 (0:Nat),.int 82 (0:Nat),.str "/claim/cut.py" (398:Nat)],#[]⟩) ::
 (nat_lit 145, ⟨.type "function",(none : Option Nat),.func ⟨"__init__","Tree.__init__",a23_0,.stmts b23_0,c23_3,(3:Nat),[],.none,.none,.none,.str "markupmill.tree" (334:Nat),.none,.ref (144:Nat),.none,(0:Nat)⟩,#[]⟩) ::
 (nat_lit 146, ⟨.type "tuple",(none : Option Nat),.seq #[] (0:Nat),#[]⟩) ::
 (nat_lit 148, ⟨.type "tuple",(none : Option Nat),.seq #[.str "self" (403:Nat),.str "kind" (404:Nat),.str "name" (405:Nat),.str "uri" (406:Nat),.str "local" (407:Nat),.str "value" (408:Nat),.str "parent" (409:Nat)] (0:Nat),#[]⟩) ::
 (nat_lit 149, ⟨.type "tuple",(none : Option Nat),.seq #[] (0:Nat),#[]⟩) ::
 (nat_lit 151, ⟨.type "code",(none : Option Nat),.fields #[.str "new_row" (400:Nat),.str "Tree.new_row" (401:Nat),.str "/claim/cut.py" (402:Nat),.int 85 (0:Nat),.int 7 (0:Nat),.int 0 (0:Nat),.int 0 (0:Nat),.int 3 (0:Nat),.ref (146:Nat),.bool true,.int 181 (0:Nat),.ref (147:Nat),.none,.ref (148:Nat),.ref (149:Nat),.ref (150:Nat),.int 410 (0:Nat),.int 85 (0:Nat),.str "/claim/cut.py" (411:Nat)],#[]⟩) ::
 (nat_lit 152, ⟨.type "function",(none : Option Nat),.func ⟨"new_row","Tree.new_row",a23_1,.stmts b23_1,c23_1,(3:Nat),[],.none,.none,.none,.str "markupmill.tree" (334:Nat),.none,.ref (151:Nat),.none,(0:Nat)⟩,#[]⟩) ::
 (nat_lit 153, ⟨.type "tuple",(none : Option Nat),.seq #[] (0:Nat),#[]⟩) ::
 (nat_lit 155, ⟨.type "tuple",(none : Option Nat),.seq #[.str "self" (416:Nat),.str "node" (417:Nat)] (0:Nat),#[]⟩) ::
 (nat_lit 156, ⟨.type "tuple",(none : Option Nat),.seq #[] (0:Nat),#[]⟩) ::
 (nat_lit 158, ⟨.type "code",(none : Option Nat),.fields #[.str "row" (413:Nat),.str "Tree.row" (414:Nat),.str "/claim/cut.py" (415:Nat),.int 89 (0:Nat),.int 2 (0:Nat),.int 0 (0:Nat),.int 0 (0:Nat),.int 3 (0:Nat),.ref (153:Nat),.bool true,.int 181 (0:Nat),.ref (154:Nat),.none,.ref (155:Nat),.ref (156:Nat),.ref (157:Nat),.int 418 (0:Nat),.int 89 (0:Nat),.str "/claim/cut.py" (419:Nat)],#[]⟩) ::
 (nat_lit 159, ⟨.type "function",(none : Option Nat),.func ⟨"row","Tree.row",a23_2,.stmts b23_2,c23_2,(3:Nat),[],.none,.none,.none,.str "markupmill.tree" (334:Nat),.none,.ref (158:Nat),.none,(0:Nat)⟩,#[]⟩) ::
 (nat_lit 160, ⟨.type "tuple",(none : Option Nat),.seq #[] (0:Nat),#[]⟩) ::
 (nat_lit 162, ⟨.type "tuple",(none : Option Nat),.seq #[.str "self" (424:Nat)] (0:Nat),#[]⟩) ::
 (nat_lit 163, ⟨.type "tuple",(none : Option Nat),.seq #[] (0:Nat),#[]⟩) ::
 (nat_lit 165, ⟨.type "code",(none : Option Nat),.fields #[.str "new_root" (421:Nat),.str "Tree.new_root" (422:Nat),.str "/claim/cut.py" (423:Nat),.int 94 (0:Nat),.int 1 (0:Nat),.int 0 (0:Nat),.int 0 (0:Nat),.int 3 (0:Nat),.ref (160:Nat),.bool true,.int 181 (0:Nat),.ref (161:Nat),.none,.ref (162:Nat),.ref (163:Nat),.ref (164:Nat),.int 425 (0:Nat),.int 94 (0:Nat),.str "/claim/cut.py" (426:Nat)],#[]⟩) ::
 (nat_lit 166, ⟨.type "function",(none : Option Nat),.func ⟨"new_root","Tree.new_root",a23_3,.stmts b23_3,c23_3,(3:Nat),[],.none,.none,.none,.str "markupmill.tree" (334:Nat),.none,.ref (165:Nat),.none,(0:Nat)⟩,#[]⟩) ::
 (nat_lit 167, ⟨.type "tuple",(none : Option Nat),.seq #[] (0:Nat),#[]⟩) ::
 (nat_lit 169, ⟨.type "tuple",(none : Option Nat),.seq #[.str "self" (431:Nat),.str "parent" (432:Nat),.str "kind" (433:Nat),.str "name" (434:Nat),.str "uri" (435:Nat),.str "local" (436:Nat),.str "value" (437:Nat),.str "node" (438:Nat)] (0:Nat),#[]⟩) ::
 (nat_lit 170, ⟨.type "tuple",(none : Option Nat),.seq #[] (0:Nat),#[]⟩) ::
 (nat_lit 172, ⟨.type "code",(none : Option Nat),.fields #[.str "add_child" (428:Nat),.str "Tree.add_child" (429:Nat),.str "/claim/cut.py" (430:Nat),.int 97 (0:Nat),.int 7 (0:Nat),.int 0 (0:Nat),.int 0 (0:Nat),.int 3 (0:Nat),.ref (167:Nat),.bool true,.int 181 (0:Nat),.ref (168:Nat),.none,.ref (169:Nat),.ref (170:Nat),.ref (171:Nat),.int 439 (0:Nat),.int 97 (0:Nat),.str "/claim/cut.py" (440:Nat)],#[]⟩) ::
 (nat_lit 173, ⟨.type "function",(none : Option Nat),.func ⟨"add_child","Tree.add_child",a23_4,.stmts b23_4,c23_4,(3:Nat),[],.none,.none,.none,.str "markupmill.tree" (334:Nat),.none,.ref (172:Nat),.none,(0:Nat)⟩,#[]⟩) ::
 (nat_lit 174, ⟨.type "tuple",(none : Option Nat),.seq #[] (0:Nat),#[]⟩) ::
 (nat_lit 176, ⟨.type "tuple",(none : Option Nat),.seq #[.str "self" (445:Nat),.str "parent" (446:Nat),.str "name" (447:Nat),.str "uri" (448:Nat),.str "local" (449:Nat)] (0:Nat),#[]⟩) ::
 (nat_lit 177, ⟨.type "tuple",(none : Option Nat),.seq #[] (0:Nat),#[]⟩) ::
 (nat_lit 179, ⟨.type "code",(none : Option Nat),.fields #[.str "add_element" (442:Nat),.str "Tree.add_element" (443:Nat),.str "/claim/cut.py" (444:Nat),.int 105 (0:Nat),.int 5 (0:Nat),.int 0 (0:Nat),.int 0 (0:Nat),.int 3 (0:Nat),.ref (174:Nat),.bool true,.int 181 (0:Nat),.ref (175:Nat),.none,.ref (176:Nat),.ref (177:Nat),.ref (178:Nat),.int 450 (0:Nat),.int 105 (0:Nat),.str "/claim/cut.py" (451:Nat)],#[]⟩) ::
 (nat_lit 180, ⟨.type "function",(none : Option Nat),.func ⟨"add_element","Tree.add_element",a23_5,.stmts b23_5,c23_5,(3:Nat),[],.none,.none,.none,.str "markupmill.tree" (334:Nat),.none,.ref (179:Nat),.none,(0:Nat)⟩,#[]⟩) ::
 (nat_lit 181, ⟨.type "tuple",(none : Option Nat),.seq #[] (0:Nat),#[]⟩) ::
 (nat_lit 183, ⟨.type "tuple",(none : Option Nat),.seq #[.str "self" (456:Nat),.str "parent" (457:Nat),.str "value" (458:Nat)] (0:Nat),#[]⟩) ::
 (nat_lit 184, ⟨.type "tuple",(none : Option Nat),.seq #[] (0:Nat),#[]⟩) ::
 (nat_lit 186, ⟨.type "code",(none : Option Nat),.fields #[.str "add_text" (453:Nat),.str "Tree.add_text" (454:Nat),.str "/claim/cut.py" (455:Nat),.int 108 (0:Nat),.int 3 (0:Nat),.int 0 (0:Nat),.int 0 (0:Nat),.int 3 (0:Nat),.ref (181:Nat),.bool true,.int 181 (0:Nat),.ref (182:Nat),.none,.ref (183:Nat),.ref (184:Nat),.ref (185:Nat),.int 459 (0:Nat),.int 108 (0:Nat),.str "/claim/cut.py" (460:Nat)],#[]⟩) ::
 (nat_lit 187, ⟨.type "function",(none : Option Nat),.func ⟨"add_text","Tree.add_text",a23_6,.stmts b23_6,c23_7,(3:Nat),[],.none,.none,.none,.str "markupmill.tree" (334:Nat),.none,.ref (186:Nat),.none,(0:Nat)⟩,#[]⟩) ::
 (nat_lit 188, ⟨.type "tuple",(none : Option Nat),.seq #[] (0:Nat),#[]⟩) ::
 (nat_lit 190, ⟨.type "tuple",(none : Option Nat),.seq #[.str "self" (465:Nat),.str "parent" (466:Nat),.str "value" (467:Nat)] (0:Nat),#[]⟩) ::
 (nat_lit 191, ⟨.type "tuple",(none : Option Nat),.seq #[] (0:Nat),#[]⟩) ::
 (nat_lit 193, ⟨.type "code",(none : Option Nat),.fields #[.str "add_comment" (462:Nat),.str "Tree.add_comment" (463:Nat),.str "/claim/cut.py" (464:Nat),.int 111 (0:Nat),.int 3 (0:Nat),.int 0 (0:Nat),.int 0 (0:Nat),.int 3 (0:Nat),.ref (188:Nat),.bool true,.int 181 (0:Nat),.ref (189:Nat),.none,.ref (190:Nat),.ref (191:Nat),.ref (192:Nat),.int 468 (0:Nat),.int 111 (0:Nat),.str "/claim/cut.py" (469:Nat)],#[]⟩) ::
 (nat_lit 194, ⟨.type "function",(none : Option Nat),.func ⟨"add_comment","Tree.add_comment",a23_7,.stmts b23_7,c23_7,(3:Nat),[],.none,.none,.none,.str "markupmill.tree" (334:Nat),.none,.ref (193:Nat),.none,(0:Nat)⟩,#[]⟩) ::
 (nat_lit 195, ⟨.type "tuple",(none : Option Nat),.seq #[] (0:Nat),#[]⟩) ::
 (nat_lit 197, ⟨.type "tuple",(none : Option Nat),.seq #[.str "self" (474:Nat),.str "parent" (475:Nat),.str "target" (476:Nat),.str "data" (477:Nat)] (0:Nat),#[]⟩) ::
 (nat_lit 198, ⟨.type "tuple",(none : Option Nat),.seq #[] (0:Nat),#[]⟩) ::
 (nat_lit 200, ⟨.type "code",(none : Option Nat),.fields #[.str "add_instruction" (471:Nat),.str "Tree.add_instruction" (472:Nat),.str "/claim/cut.py" (473:Nat),.int 114 (0:Nat),.int 4 (0:Nat),.int 0 (0:Nat),.int 0 (0:Nat),.int 3 (0:Nat),.ref (195:Nat),.bool true,.int 181 (0:Nat),.ref (196:Nat),.none,.ref (197:Nat),.ref (198:Nat),.ref (199:Nat),.int 478 (0:Nat),.int 114 (0:Nat),.str "/claim/cut.py" (479:Nat)],#[]⟩) ::
 (nat_lit 201, ⟨.type "function",(none : Option Nat),.func ⟨"add_instruction","Tree.add_instruction",a23_8,.stmts b23_8,c23_8,(3:Nat),[],.none,.none,.none,.str "markupmill.tree" (334:Nat),.none,.ref (200:Nat),.none,(0:Nat)⟩,#[]⟩) ::
 (nat_lit 202, ⟨.type "tuple",(none : Option Nat),.seq #[] (0:Nat),#[]⟩) ::
 (nat_lit 204, ⟨.type "tuple",(none : Option Nat),.seq #[.str "self" (484:Nat),.str "element" (485:Nat),.str "row" (486:Nat)] (0:Nat),#[]⟩) ::
 (nat_lit 205, ⟨.type "tuple",(none : Option Nat),.seq #[] (0:Nat),#[]⟩) ::
 (nat_lit 207, ⟨.type "code",(none : Option Nat),.fields #[.str "element_row" (481:Nat),.str "Tree.element_row" (482:Nat),.str "/claim/cut.py" (483:Nat),.int 117 (0:Nat),.int 2 (0:Nat),.int 0 (0:Nat),.int 0 (0:Nat),.int 3 (0:Nat),.ref (202:Nat),.bool true,.int 181 (0:Nat),.ref (203:Nat),.none,.ref (204:Nat),.ref (205:Nat),.ref (206:Nat),.int 487 (0:Nat),.int 117 (0:Nat),.str "/claim/cut.py" (488:Nat)],#[]⟩) ::
 (nat_lit 208, ⟨.type "function",(none : Option Nat),.func ⟨"element_row","Tree.element_row",a23_9,.stmts b23_9,c23_9,(3:Nat),[],.none,.none,.none,.str "markupmill.tree" (334:Nat),.none,.ref (207:Nat),.none,(0:Nat)⟩,#[]⟩) ::
 (nat_lit 209, ⟨.type "tuple",(none : Option Nat),.seq #[] (0:Nat),#[]⟩) ::
 (nat_lit 211, ⟨.type "tuple",(none : Option Nat),.seq #[.str "self" (493:Nat),.str "element" (494:Nat),.str "name" (495:Nat),.str "uri" (496:Nat),.str "local" (497:Nat),.str "value" (498:Nat),.str "row" (499:Nat),.str "node" (500:Nat),.str "known" (501:Nat)] (0:Nat),#[]⟩) ::
 (nat_lit 212, ⟨.type "tuple",(none : Option Nat),.seq #[] (0:Nat),#[]⟩) ::
 (nat_lit 214, ⟨.type "code",(none : Option Nat),.fields #[.str "set_attribute" (490:Nat),.str "Tree.set_attribute" (491:Nat),.str "/claim/cut.py" (492:Nat),.int 123 (0:Nat),.int 6 (0:Nat),.int 0 (0:Nat),.int 0 (0:Nat),.int 3 (0:Nat),.ref (209:Nat),.bool true,.int 181 (0:Nat),.ref (210:Nat),.none,.ref (211:Nat),.ref (212:Nat),.ref (213:Nat),.int 502 (0:Nat),.int 123 (0:Nat),.str "/claim/cut.py" (503:Nat)],#[]⟩) ::
 (nat_lit 215, ⟨.type "function",(none : Option Nat),.func ⟨"set_attribute","Tree.set_attribute",a23_10,.stmts b23_10,c23_10,(3:Nat),[],.none,.none,.none,.str "markupmill.tree" (334:Nat),.none,.ref (214:Nat),.none,(0:Nat)⟩,#[]⟩) ::
 (nat_lit 216, ⟨.type "tuple",(none : Option Nat),.seq #[] (0:Nat),#[]⟩) ::
 (nat_lit 218, ⟨.type "tuple",(none : Option Nat),.seq #[.str "self" (508:Nat),.str "element" (509:Nat),.str "prefix" (510:Nat),.str "uri" (511:Nat),.str "row" (512:Nat),.str "node" (513:Nat)] (0:Nat),#[]⟩) ::
 (nat_lit 219, ⟨.type "tuple",(none : Option Nat),.seq #[] (0:Nat),#[]⟩) ::
 (nat_lit 221, ⟨.type "code",(none : Option Nat),.fields #[.str "add_namespace" (505:Nat),.str "Tree.add_namespace" (506:Nat),.str "/claim/cut.py" (507:Nat),.int 135 (0:Nat),.int 4 (0:Nat),.int 0 (0:Nat),.int 0 (0:Nat),.int 3 (0:Nat),.ref (216:Nat),.bool true,.int 181 (0:Nat),.ref (217:Nat),.none,.ref (218:Nat),.ref (219:Nat),.ref (220:Nat),.int 514 (0:Nat),.int 135 (0:Nat),.str "/claim/cut.py" (515:Nat)],#[]⟩) ::
 (nat_lit 222, ⟨.type "function",(none : Option Nat),.func ⟨"add_namespace","Tree.add_namespace",a23_11,.stmts b23_11,c23_11,(3:Nat),[],.none,.none,.none,.str "markupmill.tree" (334:Nat),.none,.ref (221:Nat),.none,(0:Nat)⟩,#[]⟩) ::
 (nat_lit 223, ⟨.type "tuple",(none : Option Nat),.seq #[] (0:Nat),#[]⟩) ::
 (nat_lit 225, ⟨.type "tuple",(none : Option Nat),.seq #[.str "self" (520:Nat),.str "node" (521:Nat),.str "value" (522:Nat)] (0:Nat),#[]⟩) ::
 (nat_lit 226, ⟨.type "tuple",(none : Option Nat),.seq #[] (0:Nat),#[]⟩) ::
 (nat_lit 228, ⟨.type "code",(none : Option Nat),.fields #[.str "set_value" (517:Nat),.str "Tree.set_value" (518:Nat),.str "/claim/cut.py" (519:Nat),.int 145 (0:Nat),.int 3 (0:Nat),.int 0 (0:Nat),.int 0 (0:Nat),.int 3 (0:Nat),.ref (223:Nat),.bool true,.int 181 (0:Nat),.ref (224:Nat),.none,.ref (225:Nat),.ref (226:Nat),.ref (227:Nat),.int 523 (0:Nat),.int 145 (0:Nat),.str "/claim/cut.py" (524:Nat)],#[]⟩) ::
 (nat_lit 229, ⟨.type "function",(none : Option Nat),.func ⟨"set_value","Tree.set_value",a23_12,.stmts b23_12,c23_12,(3:Nat),[],.none,.none,.none,.str "markupmill.tree" (334:Nat),.none,.ref (228:Nat),.none,(0:Nat)⟩,#[]⟩) ::
 (nat_lit 230, ⟨.type "tuple",(none : Option Nat),.seq #[] (0:Nat),#[]⟩) ::
 (nat_lit 232, ⟨.type "tuple",(none : Option Nat),.seq #[.str "self" (529:Nat),.str "node" (530:Nat)] (0:Nat),#[]⟩) ::
 (nat_lit 233, ⟨.type "tuple",(none : Option Nat),.seq #[] (0:Nat),#[]⟩) ::
 (nat_lit 235, ⟨.type "code",(none : Option Nat),.fields #[.str "kind" (526:Nat),.str "Tree.kind" (527:Nat),.str "/claim/cut.py" (528:Nat),.int 148 (0:Nat),.int 2 (0:Nat),.int 0 (0:Nat),.int 0 (0:Nat),.int 3 (0:Nat),.ref (230:Nat),.bool true,.int 181 (0:Nat),.ref (231:Nat),.none,.ref (232:Nat),.ref (233:Nat),.ref (234:Nat),.int 531 (0:Nat),.int 148 (0:Nat),.str "/claim/cut.py" (532:Nat)],#[]⟩) ::
 (nat_lit 236, ⟨.type "function",(none : Option Nat),.func ⟨"kind","Tree.kind",a23_13,.stmts b23_13,c23_18,(3:Nat),[],.none,.none,.none,.str "markupmill.tree" (334:Nat),.none,.ref (235:Nat),.none,(0:Nat)⟩,#[]⟩) ::
 (nat_lit 237, ⟨.type "tuple",(none : Option Nat),.seq #[] (0:Nat),#[]⟩) ::
 (nat_lit 239, ⟨.type "tuple",(none : Option Nat),.seq #[.str "self" (537:Nat),.str "node" (538:Nat)] (0:Nat),#[]⟩) ::
 (nat_lit 240, ⟨.type "tuple",(none : Option Nat),.seq #[] (0:Nat),#[]⟩) ::
 (nat_lit 242, ⟨.type "code",(none : Option Nat),.fields #[.str "name" (534:Nat),.str "Tree.name" (535:Nat),.str "/claim/cut.py" (536:Nat),.int 151 (0:Nat),.int 2 (0:Nat),.int 0 (0:Nat),.int 0 (0:Nat),.int 3 (0:Nat),.ref (237:Nat),.bool true,.int 181 (0:Nat),.ref (238:Nat),.none,.ref (239:Nat),.ref (240:Nat),.ref (241:Nat),.int 539 (0:Nat),.int 151 (0:Nat),.str "/claim/cut.py" (540:Nat)],#[]⟩) ::
 (nat_lit 243, ⟨.type "function",(none : Option Nat),.func ⟨"name","Tree.name",a23_14,.stmts b23_14,c23_18,(3:Nat),[],.none,.none,.none,.str "markupmill.tree" (334:Nat),.none,.ref (242:Nat),.none,(0:Nat)⟩,#[]⟩) ::
 (nat_lit 244, ⟨.type "tuple",(none : Option Nat),.seq #[] (0:Nat),#[]⟩) ::
 (nat_lit 246, ⟨.type "tuple",(none : Option Nat),.seq #[.str "self" (545:Nat),.str "node" (546:Nat)] (0:Nat),#[]⟩) ::
 (nat_lit 247, ⟨.type "tuple",(none : Option Nat),.seq #[] (0:Nat),#[]⟩) ::
 (nat_lit 249, ⟨.type "code",(none : Option Nat),.fields #[.str "uri" (542:Nat),.str "Tree.uri" (543:Nat),.str "/claim/cut.py" (544:Nat),.int 154 (0:Nat),.int 2 (0:Nat),.int 0 (0:Nat),.int 0 (0:Nat),.int 3 (0:Nat),.ref (244:Nat),.bool true,.int 181 (0:Nat),.ref (245:Nat),.none,.ref (246:Nat),.ref (247:Nat),.ref (248:Nat),.int 547 (0:Nat),.int 154 (0:Nat),.str "/claim/cut.py" (548:Nat)],#[]⟩) ::
 (nat_lit 250, ⟨.type "function",(none : Option Nat),.func ⟨"uri","Tree.uri",a23_15,.stmts b23_15,c23_18,(3:Nat),[],.none,.none,.none,.str "markupmill.tree" (334:Nat),.none,.ref (249:Nat),.none,(0:Nat)⟩,#[]⟩) ::
 (nat_lit 251, ⟨.type "tuple",(none : Option Nat),.seq #[] (0:Nat),#[]⟩) ::
 (nat_lit 253, ⟨.type "tuple",(none : Option Nat),.seq #[.str "self" (553:Nat),.str "node" (554:Nat)] (0:Nat),#[]⟩) ::
 (nat_lit 254, ⟨.type "tuple",(none : Option Nat),.seq #[] (0:Nat),#[]⟩) ::
 (nat_lit 256, ⟨.type "code",(none : Option Nat),.fields #[.str "local" (550:Nat),.str "Tree.local" (551:Nat),.str "/claim/cut.py" (552:Nat),.int 157 (0:Nat),.int 2 (0:Nat),.int 0 (0:Nat),.int 0 (0:Nat),.int 3 (0:Nat),.ref (251:Nat),.bool true,.int 181 (0:Nat),.ref (252:Nat),.none,.ref (253:Nat),.ref (254:Nat),.ref (255:Nat),.int 555 (0:Nat),.int 157 (0:Nat),.str "/claim/cut.py" (556:Nat)],#[]⟩) ::
 (nat_lit 257, ⟨.type "function",(none : Option Nat),.func ⟨"local","Tree.local",a23_16,.stmts b23_16,c23_18,(3:Nat),[],.none,.none,.none,.str "markupmill.tree" (334:Nat),.none,.ref (256:Nat),.none,(0:Nat)⟩,#[]⟩) ::
 (nat_lit 258, ⟨.type "tuple",(none : Option Nat),.seq #[] (0:Nat),#[]⟩) ::
 (nat_lit 260, ⟨.type "tuple",(none : Option Nat),.seq #[.str "self" (561:Nat),.str "node" (562:Nat)] (0:Nat),#[]⟩) ::
 (nat_lit 261, ⟨.type "tuple",(none : Option Nat),.seq #[] (0:Nat),#[]⟩) ::
 (nat_lit 263, ⟨.type "code",(none : Option Nat),.fields #[.str "value" (558:Nat),.str "Tree.value" (559:Nat),.str "/claim/cut.py" (560:Nat),.int 160 (0:Nat),.int 2 (0:Nat),.int 0 (0:Nat),.int 0 (0:Nat),.int 3 (0:Nat),.ref (258:Nat),.bool true,.int 181 (0:Nat),.ref (259:Nat),.none,.ref (260:Nat),.ref (261:Nat),.ref (262:Nat),.int 563 (0:Nat),.int 160 (0:Nat),.str "/claim/cut.py" (564:Nat)],#[]⟩) ::
 (nat_lit 264, ⟨.type "function",(none : Option Nat),.func ⟨"value","Tree.value",a23_17,.stmts b23_17,c23_18,(3:Nat),[],.none,.none,.none,.str "markupmill.tree" (334:Nat),.none,.ref (263:Nat),.none,(0:Nat)⟩,#[]⟩) ::
 (nat_lit 265, ⟨.type "tuple",(none : Option Nat),.seq #[] (0:Nat),#[]⟩) ::
 (nat_lit 267, ⟨.type "tuple",(none : Option Nat),.seq #[.str "self" (569:Nat),.str "node" (570:Nat)] (0:Nat),#[]⟩) ::
 (nat_lit 268, ⟨.type "tuple",(none : Option Nat),.seq #[] (0:Nat),#[]⟩) ::
 (nat_lit 270, ⟨.type "code",(none : Option Nat),.fields #[.str "parent" (566:Nat),.str "Tree.parent" (567:Nat),.str "/claim/cut.py" (568:Nat),.int 163 (0:Nat),.int 2 (0:Nat),.int 0 (0:Nat),.int 0 (0:Nat),.int 3 (0:Nat),.ref (265:Nat),.bool true,.int 181 (0:Nat),.ref (266:Nat),.none,.ref (267:Nat),.ref (268:Nat),.ref (269:Nat),.int 571 (0:Nat),.int 163 (0:Nat),.str "/claim/cut.py" (572:Nat)],#[]⟩) ::
 (nat_lit 271, ⟨.type "function",(none : Option Nat),.func ⟨"parent","Tree.parent",a23_18,.stmts b23_18,c23_18,(3:Nat),[],.none,.none,.none,.str "markupmill.tree" (334:Nat),.none,.ref (270:Nat),.none,(0:Nat)⟩,#[]⟩) ::
 (nat_lit 272, ⟨.type "tuple",(none : Option Nat),.seq #[] (0:Nat),#[]⟩) ::
 (nat_lit 274, ⟨.type "tuple",(none : Option Nat),.seq #[.str "self" (577:Nat),.str "node" (578:Nat)] (0:Nat),#[]⟩) ::
 (nat_lit 275, ⟨.type "tuple",(none : Option Nat),.seq #[] (0:Nat),#[]⟩) ::
 (nat_lit 277, ⟨.type "code",(none : Option Nat),.fields #[.str "children" (574:Nat),.str "Tree.children" (575:Nat),.str "/claim/cut.py" (576:Nat),.int 166 (0:Nat),.int 2 (0:Nat),.int 0 (0:Nat),.int 0 (0:Nat),.int 3 (0:Nat),.ref (272:Nat),.bool true,.int 181 (0:Nat),.ref (273:Nat),.none,.ref (274:Nat),.ref (275:Nat),.ref (276:Nat),.int 579 (0:Nat),.int 166 (0:Nat),.str "/claim/cut.py" (580:Nat)],#[]⟩) ::
 (nat_lit 278, ⟨.type "function",(none : Option Nat),.func ⟨"children","Tree.children",a23_19,.stmts b23_19,c23_21,(3:Nat),[],.none,.none,.none,.str "markupmill.tree" (334:Nat),.none,.ref (277:Nat),.none,(0:Nat)⟩,#[]⟩) ::
 (nat_lit 279, ⟨.type "tuple",(none : Option Nat),.seq #[] (0:Nat),#[]⟩) ::
 (nat_lit 281, ⟨.type "tuple",(none : Option Nat),.seq #[.str "self" (585:Nat),.str "node" (586:Nat)] (0:Nat),#[]⟩) ::
 (nat_lit 282, ⟨.type "tuple",(none : Option Nat),.seq #[] (0:Nat),#[]⟩) ::
 (nat_lit 284, ⟨.type "code",(none : Option Nat),.fields #[.str "attributes" (582:Nat),.str "Tree.attributes" (583:Nat),.str "/claim/cut.py" (584:Nat),.int 169 (0:Nat),.int 2 (0:Nat),.int 0 (0:Nat),.int 0 (0:Nat),.int 3 (0:Nat),.ref (279:Nat),.bool true,.int 181 (0:Nat),.ref (280:Nat),.none,.ref (281:Nat),.ref (282:Nat),.ref (283:Nat),.int 587 (0:Nat),.int 169 (0:Nat),.str "/claim/cut.py" (588:Nat)],#[]⟩) ::
 (nat_lit 285, ⟨.type "function",(none : Option Nat),.func ⟨"attributes","Tree.attributes",a23_20,.stmts b23_20,c23_21,(3:Nat),[],.none,.none,.none,.str "markupmill.tree" (334:Nat),.none,.ref (284:Nat),.none,(0:Nat)⟩,#[]⟩) ::
 (nat_lit 286, ⟨.type "tuple",(none : Option Nat),.seq #[] (0:Nat),#[]⟩) ::
 (nat_lit 288, ⟨.type "tuple",(none : Option Nat),.seq #[.str "self" (593:Nat),.str "node" (594:Nat)] (0:Nat),#[]⟩) ::
 (nat_lit 289, ⟨.type "tuple",(none : Option Nat),.seq #[] (0:Nat),#[]⟩) ::
 (nat_lit 291, ⟨.type "code",(none : Option Nat),.fields #[.str "namespaces" (590:Nat),.str "Tree.namespaces" (591:Nat),.str "/claim/cut.py" (592:Nat),.int 172 (0:Nat),.int 2 (0:Nat),.int 0 (0:Nat),.int 0 (0:Nat),.int 3 (0:Nat),.ref (286:Nat),.bool true,.int 181 (0:Nat),.ref (287:Nat),.none,.ref (288:Nat),.ref (289:Nat),.ref (290:Nat),.int 595 (0:Nat),.int 172 (0:Nat),.str "/claim/cut.py" (596:Nat)],#[]⟩) ::
 (nat_lit 292, ⟨.type "function",(none : Option Nat),.func ⟨"namespaces","Tree.namespaces",a23_21,.stmts b23_21,c23_21,(3:Nat),[],.none,.none,.none,.str "markupmill.tree" (334:Nat),.none,.ref (291:Nat),.none,(0:Nat)⟩,#[]⟩) ::
 (nat_lit 293, ⟨.type "tuple",(none : Option Nat),.seq #[] (0:Nat),#[]⟩) ::
 (nat_lit 295, ⟨.type "tuple",(none : Option Nat),.seq #[.str "self" (601:Nat),.str "node" (602:Nat)] (0:Nat),#[]⟩) ::
 (nat_lit 296, ⟨.type "tuple",(none : Option Nat),.seq #[] (0:Nat),#[]⟩) ::
 (nat_lit 298, ⟨.type "code",(none : Option Nat),.fields #[.str "root_of" (598:Nat),.str "Tree.root_of" (599:Nat),.str "/claim/cut.py" (600:Nat),.int 175 (0:Nat),.int 2 (0:Nat),.int 0 (0:Nat),.int 0 (0:Nat),.int 3 (0:Nat),.ref (293:Nat),.bool true,.int 181 (0:Nat),.ref (294:Nat),.none,.ref (295:Nat),.ref (296:Nat),.ref (297:Nat),.int 603 (0:Nat),.int 175 (0:Nat),.str "/claim/cut.py" (604:Nat)],#[]⟩) ::
 (nat_lit 299, ⟨.type "function",(none : Option Nat),.func ⟨"root_of","Tree.root_of",a23_22,.stmts b23_22,c23_22,(3:Nat),[],.none,.none,.none,.str "markupmill.tree" (334:Nat),.none,.ref (298:Nat),.none,(0:Nat)⟩,#[]⟩) ::
 (nat_lit 300, ⟨.type "tuple",(none : Option Nat),.seq #[] (0:Nat),#[]⟩) ::
 (nat_lit 302, ⟨.type "tuple",(none : Option Nat),.seq #[.str "self" (609:Nat),.str "node" (610:Nat),.str "other" (611:Nat)] (0:Nat),#[]⟩) ::
 (nat_lit 303, ⟨.type "tuple",(none : Option Nat),.seq #[] (0:Nat),#[]⟩) ::
 (nat_lit 305, ⟨.type "code",(none : Option Nat),.fields #[.str "is_above" (606:Nat),.str "Tree.is_above" (607:Nat),.str "/claim/cut.py" (608:Nat),.int 178 (0:Nat),.int 3 (0:Nat),.int 0 (0:Nat),.int 0 (0:Nat),.int 3 (0:Nat),.ref (300:Nat),.bool true,.int 181 (0:Nat),.ref (301:Nat),.none,.ref (302:Nat),.ref (303:Nat),.ref (304:Nat),.int 612 (0:Nat),.int 178 (0:Nat),.str "/claim/cut.py" (613:Nat)],#[]⟩) ::
 (nat_lit 306, ⟨.type "function",(none : Option Nat),.func ⟨"is_above","Tree.is_above",a23_23,.stmts b23_23,c23_23,(3:Nat),[],.none,.none,.none,.str "markupmill.tree" (334:Nat),.none,.ref (305:Nat),.none,(0:Nat)⟩,#[]⟩) ::
 (nat_lit 307, ⟨.type "tuple",(none : Option Nat),.seq #[] (0:Nat),#[]⟩) ::
 (nat_lit 309, ⟨.type "tuple",(none : Option Nat),.seq #[.str "self" (618:Nat),.str "element" (619:Nat),.str "uri" (620:Nat),.str "local" (621:Nat)] (0:Nat),#[]⟩) ::
 (nat_lit 310, ⟨.type "tuple",(none : Option Nat),.seq #[] (0:Nat),#[]⟩) ::
 (nat_lit 312, ⟨.type "code",(none : Option Nat),.fields #[.str "attribute_value" (615:Nat),.str "Tree.attribute_value" (616:Nat),.str "/claim/cut.py" (617:Nat),.int 181 (0:Nat),.int 4 (0:Nat),.int 0 (0:Nat),.int 0 (0:Nat),.int 3 (0:Nat),.ref (307:Nat),.bool true,.int 181 (0:Nat),.ref (308:Nat),.none,.ref (309:Nat),.ref (310:Nat),.ref (311:Nat),.int 622 (0:Nat),.int 181 (0:Nat),.str "/claim/cut.py" (623:Nat)],#[]⟩) ::
 (nat_lit 313, ⟨.type "function",(none : Option Nat),.func ⟨"attribute_value","Tree.attribute_value",a23_24,.stmts b23_24,c23_24,(3:Nat),[],.none,.none,.none,.str "markupmill.tree" (334:Nat),.none,.ref (312:Nat),.none,(0:Nat)⟩,#[]⟩) ::
 (nat_lit 314, ⟨.type "tuple",(none : Option Nat),.seq #[.str "rows" (625:Nat)] (0:Nat),#[]⟩) ::
 (nat_lit 315, ⟨.type "dict",(none : Option Nat),.dict #[⟨PySem.PyData.keyHash P "__module__",.str "__module__" (388:Nat),.str "markupmill.tree" (334:Nat)⟩,⟨PySem.PyData.keyHash P "__firstlineno__",.str "__firstlineno__" (392:Nat),.int 80 (391:Nat)⟩,⟨PySem.PyData.keyHash P "__init__",.str "__init__" (399:Nat),.ref (145:Nat)⟩,⟨PySem.PyData.keyHash P "new_row",.str "new_row" (412:Nat),.ref (152:Nat)⟩,⟨PySem.PyData.keyHash P "row",.str "row" (420:Nat),.ref (159:Nat)⟩,⟨PySem.PyData.keyHash P "new_root",.str "new_root" (427:Nat),.ref (166:Nat)⟩,⟨PySem.PyData.keyHash P "add_child",.str "add_child" (441:Nat),.ref (173:Nat)⟩,⟨PySem.PyData.keyHash P "add_element",.str "add_element" (452:Nat),.ref (180:Nat)⟩,⟨PySem.PyData.keyHash P "add_text",.str "add_text" (461:Nat),.ref (187:Nat)⟩,⟨PySem.PyData.keyHash P "add_comment",.str "add_comment" (470:Nat),.ref (194:Nat)⟩,⟨PySem.PyData.keyHash P "add_instruction",.str "add_instruction" (480:Nat),.ref (201:Nat)⟩,⟨PySem.PyData.keyHash P "element_row",.str "element_row" (489:Nat),.ref (208:Nat)⟩,⟨PySem.PyData.keyHash P "set_attribute",.str "set_attribute" (504:Nat),.ref (215:Nat)⟩,⟨PySem.PyData.keyHash P "add_namespace",.str "add_namespace" (516:Nat),.ref (222:Nat)⟩,⟨PySem.PyData.keyHash P "set_value",.str "set_value" (525:Nat),.ref (229:Nat)⟩,⟨PySem.PyData.keyHash P "kind",.str "kind" (533:Nat),.ref (236:Nat)⟩,⟨PySem.PyData.keyHash P "name",.str "name" (541:Nat),.ref (243:Nat)⟩,⟨PySem.PyData.keyHash P "uri",.str "uri" (549:Nat),.ref (250:Nat)⟩,⟨PySem.PyData.keyHash P "local",.str "local" (557:Nat),.ref (257:Nat)⟩,⟨PySem.PyData.keyHash P "value",.str "value" (565:Nat),.ref (264:Nat)⟩,⟨PySem.PyData.keyHash P "parent",.str "parent" (573:Nat),.ref (271:Nat)⟩,⟨PySem.PyData.keyHash P "children",.str "children" (581:Nat),.ref (278:Nat)⟩,⟨PySem.PyData.keyHash P "attributes",.str "attributes" (589:Nat),.ref (285:Nat)⟩,⟨PySem.PyData.keyHash P "namespaces",.str "namespaces" (597:Nat),.ref (292:Nat)⟩,⟨PySem.PyData.keyHash P "root_of",.str "root_of" (605:Nat),.ref (299:Nat)⟩,⟨PySem.PyData.keyHash P "is_above",.str "is_above" (614:Nat),.ref (306:Nat)⟩,⟨PySem.PyData.keyHash P "attribute_value",.str "attribute_value" (624:Nat),.ref (313:Nat)⟩,⟨PySem.PyData.keyHash P "__static_attributes__",.str "__static_attributes__" (626:Nat),.ref (314:Nat)⟩,⟨PySem.PyData.keyHash P "__dict__",.str "__dict__" (628:Nat),.ref (317:Nat)⟩,⟨PySem.PyData.keyHash P "__weakref__",.str "__weakref__" (630:Nat),.ref (318:Nat)⟩,⟨PySem.PyData.keyHash P "__doc__",.str "__doc__" (631:Nat),.none⟩] (4:Nat),#[]⟩) ::
 (nat_lit 316, ⟨.type "type",(none : Option Nat),.cls ⟨"Tree",[.type "object"],[.ref (316:Nat),.type "object"],(315:Nat),"Tree",true,[],[],false,.none,false⟩,#[.none,.none,.some (.str "Tree" (381:Nat)),.some (.str "Tree" (389:Nat)),.some (.builtin "object.__new__"),.some (.bool true)]⟩) ::
 (nat_lit 317, ⟨.type "getset_descriptor",(none : Option Nat),.fields #[.str "__dict__" (627:Nat),.ref (316:Nat),.builtin "function.__dict__",.builtin "function.__dict__#set"],#[]⟩) ::
 (nat_lit 318, ⟨.type "getset_descriptor",(none : Option Nat),.fields #[.str "__weakref__" (629:Nat),.ref (316:Nat),.builtin "ExceptionGroup.__weakref__",.none],#[]⟩) ::
 (nat_lit 321, ⟨.type "tuple",(none : Option Nat),.seq #[] (0:Nat),#[]⟩) ::
 (nat_lit 323, ⟨.type "tuple",(none : Option Nat),.seq #[.str "script" (639:Nat),.str "k" (640:Nat),.str "cell" (641:Nat),.str "great" (642:Nat),.str "mixed" (643:Nat)] (0:Nat),#[]⟩) ::
 (nat_lit 324, ⟨.type "tuple",(none : Option Nat),.seq #[] (0:Nat),#[]⟩) ::
 (nat_lit 326, ⟨.type "code",(none : Option Nat),.fields #[.str "_law_pool" (636:Nat),.str "_law_pool" (637:Nat),.str "/claim/cut.py" (638:Nat),.int 184 (0:Nat),.int 2 (0:Nat),.int 0 (0:Nat),.int 0 (0:Nat),.int 3 (0:Nat),.ref (321:Nat),.bool true,.int 181 (0:Nat),.ref (322:Nat),.none,.ref (323:Nat),.ref (324:Nat),.ref (325:Nat),.int 644 (0:Nat),.int 184 (0:Nat),.str "/claim/cut.py" (645:Nat)],#[]⟩) ::
 (nat_lit 327, ⟨.type "function",(none : Option Nat),.func ⟨"_law_pool","_law_pool",a25,.stmts b25,c25,(3:Nat),[],.none,.none,.none,.str "law_xw0214_01" (634:Nat),.none,.ref (326:Nat),.none,(0:Nat)⟩,#[]⟩) ::
 (nat_lit 328, ⟨.type "tuple",(none : Option Nat),.seq #[] (0:Nat),#[]⟩) ::
 (nat_lit 330, ⟨.type "tuple",(none : Option Nat),.seq #[.str "source" (650:Nat),.str "top" (651:Nat),.str "drawn" (652:Nat)] (0:Nat),#[]⟩) ::
 (nat_lit 331, ⟨.type "tuple",(none : Option Nat),.seq #[] (0:Nat),#[]⟩) ::
 (nat_lit 333, ⟨.type "code",(none : Option Nat),.fields #[.str "_law_take" (647:Nat),.str "_law_take" (648:Nat),.str "/claim/cut.py" (649:Nat),.int 189 (0:Nat),.int 2 (0:Nat),.int 0 (0:Nat),.int 0 (0:Nat),.int 3 (0:Nat),.ref (328:Nat),.bool true,.int 181 (0:Nat),.ref (329:Nat),.none,.ref (330:Nat),.ref (331:Nat),.ref (332:Nat),.int 653 (0:Nat),.int 189 (0:Nat),.str "/claim/cut.py" (654:Nat)],#[]⟩) ::
 (nat_lit 334, ⟨.type "function",(none : Option Nat),.func ⟨"_law_take","_law_take",a26,.stmts b26,c26,(3:Nat),[],.none,.none,.none,.str "law_xw0214_01" (634:Nat),.none,.ref (333:Nat),.none,(0:Nat)⟩,#[]⟩) ::
 (nat_lit 335, ⟨.type "tuple",(none : Option Nat),.seq #[] (0:Nat),#[]⟩) ::
 (nat_lit 337, ⟨.type "tuple",(none : Option Nat),.seq #[.str "source" (659:Nat),.str "things" (660:Nat)] (0:Nat),#[]⟩) ::
 (nat_lit 338, ⟨.type "tuple",(none : Option Nat),.seq #[] (0:Nat),#[]⟩) ::
 (nat_lit 340, ⟨.type "code",(none : Option Nat),.fields #[.str "_law_one" (656:Nat),.str "_law_one" (657:Nat),.str "/claim/cut.py" (658:Nat),.int 196 (0:Nat),.int 2 (0:Nat),.int 0 (0:Nat),.int 0 (0:Nat),.int 3 (0:Nat),.ref (335:Nat),.bool true,.int 181 (0:Nat),.ref (336:Nat),.none,.ref (337:Nat),.ref (338:Nat),.ref (339:Nat),.int 661 (0:Nat),.int 196 (0:Nat),.str "/claim/cut.py" (662:Nat)],#[]⟩) ::
 (nat_lit 341, ⟨.type "function",(none : Option Nat),.func ⟨"_law_one","_law_one",a27,.stmts b27,c27,(3:Nat),[],.none,.none,.none,.str "law_xw0214_01" (634:Nat),.none,.ref (340:Nat),.none,(0:Nat)⟩,#[]⟩) ::
 (nat_lit 342, ⟨.type "tuple",(none : Option Nat),.seq #[] (0:Nat),#[]⟩) ::
 (nat_lit 344, ⟨.type "tuple",(none : Option Nat),.seq #[.str "told" (667:Nat),.str "name" (668:Nat)] (0:Nat),#[]⟩) ::
 (nat_lit 345, ⟨.type "tuple",(none : Option Nat),.seq #[] (0:Nat),#[]⟩) ::
 (nat_lit 347, ⟨.type "code",(none : Option Nat),.fields #[.str "_law_row" (664:Nat),.str "_law_row" (665:Nat),.str "/claim/cut.py" (666:Nat),.int 198 (0:Nat),.int 1 (0:Nat),.int 0 (0:Nat),.int 0 (0:Nat),.int 3 (0:Nat),.ref (342:Nat),.bool true,.int 181 (0:Nat),.ref (343:Nat),.none,.ref (344:Nat),.ref (345:Nat),.ref (346:Nat),.int 669 (0:Nat),.int 198 (0:Nat),.str "/claim/cut.py" (670:Nat)],#[]⟩) ::
 (nat_lit 348, ⟨.type "function",(none : Option Nat),.func ⟨"_law_row","_law_row",a28,.stmts b28,c28,(3:Nat),[],.none,.none,.none,.str "law_xw0214_01" (634:Nat),.none,.ref (347:Nat),.none,(0:Nat)⟩,#[]⟩) ::
 (nat_lit 349, ⟨.type "tuple",(none : Option Nat),.seq #[] (0:Nat),#[]⟩) ::
 (nat_lit 351, ⟨.type "tuple",(none : Option Nat),.seq #[.str "tree" (675:Nat),.str "element" (676:Nat),.str "told" (677:Nat)] (0:Nat),#[]⟩) ::
 (nat_lit 352, ⟨.type "tuple",(none : Option Nat),.seq #[] (0:Nat),#[]⟩) ::
 (nat_lit 354, ⟨.type "code",(none : Option Nat),.fields #[.str "_law_put" (672:Nat),.str "_law_put" (673:Nat),.str "/claim/cut.py" (674:Nat),.int 203 (0:Nat),.int 3 (0:Nat),.int 0 (0:Nat),.int 0 (0:Nat),.int 3 (0:Nat),.ref (349:Nat),.bool true,.int 181 (0:Nat),.ref (350:Nat),.none,.ref (351:Nat),.ref (352:Nat),.ref (353:Nat),.int 678 (0:Nat),.int 203 (0:Nat),.str "/claim/cut.py" (679:Nat)],#[]⟩) ::
 (nat_lit 355, ⟨.type "function",(none : Option Nat),.func ⟨"_law_put","_law_put",a29,.stmts b29,c29,(3:Nat),[],.none,.none,.none,.str "law_xw0214_01" (634:Nat),.none,.ref (354:Nat),.none,(0:Nat)⟩,#[]⟩) ::
 (nat_lit 356, ⟨.type "tuple",(none : Option Nat),.seq #[] (0:Nat),#[]⟩) ::
 (nat_lit 359, ⟨.type "code",(none : Option Nat),.fields #[.str "_law_listed" (681:Nat),.str "_law_listed" (682:Nat),.str "/claim/cut.py" (683:Nat),.int 208 (0:Nat),.int 1 (0:Nat),.int 0 (0:Nat),.int 0 (0:Nat),.int 3 (0:Nat),.ref (356:Nat),.bool true,.int 181 (0:Nat),.ref (357:Nat),.none,.none,.none,.ref (358:Nat),.int 684 (0:Nat),.int 208 (0:Nat),.str "/claim/cut.py" (685:Nat)],#[]⟩) ::
 (nat_lit 360, ⟨.type "function",(none : Option Nat),.func ⟨"_law_listed","_law_listed",a30,.stmts b30,c30,(3:Nat),[],.none,.none,.none,.str "law_xw0214_01" (634:Nat),.none,.ref (359:Nat),.none,(0:Nat)⟩,#[]⟩) ::
 (nat_lit 361, ⟨.type "tuple",(none : Option Nat),.seq #[] (0:Nat),#[]⟩) ::
 (nat_lit 363, ⟨.type "tuple",(none : Option Nat),.seq #[.str "tree" (690:Nat),.str "parent" (691:Nat),.str "kind" (692:Nat),.str "target" (693:Nat),.str "value" (694:Nat),.str "form" (695:Nat),.str "many" (696:Nat),.str "node" (697:Nat)] (0:Nat),#[]⟩) ::
 (nat_lit 364, ⟨.type "tuple",(none : Option Nat),.seq #[] (0:Nat),#[]⟩) ::
 (nat_lit 366, ⟨.type "code",(none : Option Nat),.fields #[.str "_law_plain_right" (687:Nat),.str "_law_plain_right" (688:Nat),.str "/claim/cut.py" (689:Nat),.int 210 (0:Nat),.int 5 (0:Nat),.int 0 (0:Nat),.int 0 (0:Nat),.int 3 (0:Nat),.ref (361:Nat),.bool true,.int 181 (0:Nat),.ref (362:Nat),.none,.ref (363:Nat),.ref (364:Nat),.ref (365:Nat),.int 698 (0:Nat),.int 210 (0:Nat),.str "/claim/cut.py" (699:Nat)],#[]⟩) ::
 (nat_lit 367, ⟨.type "function",(none : Option Nat),.func ⟨"_law_plain_right","_law_plain_right",a31,.stmts b31,c31,(3:Nat),[],.none,.none,.none,.str "law_xw0214_01" (634:Nat),.none,.ref (366:Nat),.none,(0:Nat)⟩,#[]⟩) ::
 (nat_lit 368, ⟨.type "tuple",(none : Option Nat),.seq #[] (0:Nat),#[]⟩) ::
 (nat_lit 371, ⟨.type "code",(none : Option Nat),.fields #[.str "_law_element_right" (701:Nat),.str "_law_element_right" (702:Nat),.str "/claim/cut.py" (703:Nat),.int 216 (0:Nat),.int 2 (0:Nat),.int 0 (0:Nat),.int 0 (0:Nat),.int 3 (0:Nat),.ref (368:Nat),.bool true,.int 181 (0:Nat),.ref (369:Nat),.none,.none,.none,.ref (370:Nat),.int 704 (0:Nat),.int 216 (0:Nat),.str "/claim/cut.py" (705:Nat)],#[]⟩) ::
 (nat_lit 372, ⟨.type "function",(none : Option Nat),.func ⟨"_law_element_right","_law_element_right",a32,.stmts b32,c32,(3:Nat),[],.none,.none,.none,.str "law_xw0214_01" (634:Nat),.none,.ref (371:Nat),.none,(0:Nat)⟩,#[]⟩) ::
 (nat_lit 373, ⟨.type "tuple",(none : Option Nat),.seq #[] (0:Nat),#[]⟩) ::
 (nat_lit 376, ⟨.type "code",(none : Option Nat),.fields #[.str "law" (707:Nat),.str "law" (708:Nat),.str "/claim/cut.py" (709:Nat),.int 236 (0:Nat),.int 1 (0:Nat),.int 0 (0:Nat),.int 0 (0:Nat),.int 3 (0:Nat),.ref (373:Nat),.bool true,.int 181 (0:Nat),.ref (374:Nat),.none,.none,.none,.ref (375:Nat),.int 710 (0:Nat),.int 236 (0:Nat),.str "/claim/cut.py" (711:Nat)],#[]⟩) ::
 (nat_lit 377, ⟨.type "function",(none : Option Nat),.func ⟨"law","law",a33,.stmts b33,c33,(3:Nat),[],.none,.none,.none,.str "law_xw0214_01" (634:Nat),.none,.ref (376:Nat),.none,(0:Nat)⟩,#[]⟩) :: [] : List (Nat × Obj))) _ _ _ _ _ _ _ _ _ _ _ _ _ _ _ _ _ _ _ _ _ _ _ _ _ _ _ _ _ _ _ _ _ _ _ _ _ _ _ _ _ _ _ _ _ _ _ _ _ _ _ _ _ _ _ _ _ _ _ _ _ _ _ _ _ _ _ _ _ _ _ _ _ _ _ _ _ _ _ _ _ _ _ _ _ _ _ _ _ _ _ _ _ _ _ _ _ _ _ _ _ _ _ _ _ _ _ _ _ _ _ _ _ _ _ _ _ _ _ _ _ _ _ _ _ _ _ _ _ _ _ _ _ _ _ _ _ _ _ _ _ _ _ _ _ _ _ _ _ _ _ _ _ _ _ _ _ _ _ _ _ _ _ _ _ _ _ _ _ _ _ _ _ _ _ _ _ _ _ _ rfl

noncomputable def kas : List Addr := [2, 3, 15, 17, 18, 20, 21, 22, 24, 25, 27, 28, 29, 31, 32, 34, 35, 36, 38, 39, 41, 42, 43, 45, 46, 48, 49, 50, 52, 53, 55, 56, 57, 59, 60, 62, 63, 64, 66, 67, 69, 70, 71, 73, 74, 76, 77, 78, 85, 87, 88, 90, 91, 92, 93, 94, 95, 98, 105, 106, 107, 110, 118, 120, 121, 123, 124, 125, 126, 127, 128, 129, 139, 141, 142, 144, 145, 146, 148, 149, 151, 152, 153, 155, 156, 158, 159, 160, 162, 163, 165, 166, 167, 169, 170, 172, 173, 174, 176, 177, 179, 180, 181, 183, 184, 186, 187, 188, 190, 191, 193, 194, 195, 197, 198, 200, 201, 202, 204, 205, 207, 208, 209, 211, 212, 214, 215, 216, 218, 219, 221, 222, 223, 225, 226, 228, 229, 230, 232, 233, 235, 236, 237, 239, 240, 242, 243, 244, 246, 247, 249, 250, 251, 253, 254, 256, 257, 258, 260, 261, 263, 264, 265, 267, 268, 270, 271, 272, 274, 275, 277, 278, 279, 281, 282, 284, 285, 286, 288, 289, 291, 292, 293, 295, 296, 298, 299, 300, 302, 303, 305, 306, 307, 309, 310, 312, 313, 314, 315, 316, 317, 318, 321, 323, 324, 326, 327, 328, 330, 331, 333, 334, 335, 337, 338, 340, 341, 342, 344, 345, 347, 348, 349, 351, 352, 354, 355, 356, 359, 360, 361, 363, 364, 366, 367, 368, 371, 372, 373, 376, 377]
noncomputable def ko (P : Params) (a : Nat) : Obj := match (hd.heap_39 P).lookup a with
  | some o => o
  | none => ⟨.none, .none, .plain, #[]⟩
noncomputable def tmpl (P : Params) (a : Nat) : Obj := match (ko P a).data with
  | .func ⟨n, q, a, b, c, _, _, _, _, _, _, _, _, _, _⟩ => ⟨.none, .none, .func ⟨n, q, a, b, c, 0, [], .none, .none, .none, .none, .none, .none, .none, 0⟩, #[]⟩
  | d => ⟨.none, .none, d, #[]⟩
noncomputable def oA11 (_ : Params) : Obj := ⟨.type "tuple",.none,.seq #[] 0,#[]⟩
noncomputable def oA12 (_ : Params) : Obj := ⟨.none,.none,.fields #[],#[]⟩
noncomputable def oA13 (_ : Params) : Obj := ⟨.type "code",.none,.fields #[.str "<module>" 182,.str "<module>" 183,.str "/claim/cut.py" 184,.int 1 0,.int 0 0,.int 0 0,.int 0 0,.int 0 0,.ref 11,.bool false,.int 181 0,.ref 12,.none,.none,.none,.none,.int 185 0,.int 1 0,.str "/claim/cut.py" 186],#[]⟩
noncomputable def oA14 (_ : Params) : Obj := ⟨.type "frame",.none,.plain,#[.some (.ref 13),.some (.ref 3),.some (.ref 3),.none,.some (.str "__main__" 164),.none,.some (.ref 0)]⟩
noncomputable def heapA (P : Params) : Heap := ⟨⟨[boot_o_0 P, boot_o_1 P, boot_o_2 P, boot_o_3 P, boot_o_4 P, boot_o_5 P, boot_o_6 P, boot_o_7 P, boot_o_8 P, boot_o_9 P, boot_o_10 P, oA11 P, oA12 P, oA13 P, oA14 P]⟩, {}⟩
noncomputable def treeA (P : Params) : BT := (.node (boot_o_0 P) (.node (boot_o_1 P) (.node (boot_o_3 P) (.node (boot_o_7 P) .nil .nil) (.node (oA11 P) .nil .nil)) (.node (boot_o_5 P) (.node (boot_o_9 P) .nil .nil) (.node (oA13 P) .nil .nil))) (.node (boot_o_2 P) (.node (boot_o_4 P) (.node (boot_o_8 P) .nil .nil) (.node (oA12 P) .nil .nil)) (.node (boot_o_6 P) (.node (boot_o_10 P) .nil .nil) (.node (oA14 P) .nil .nil))))
noncomputable def treeB (P : Params) : BT := (.node (boot_o_0 P) (.node (boot_o_1 P) (.node ⟨.type "dict",.none,.dict #[⟨PySem.PyData.keyHash P "__name__",.str "__name__" 165,.str "markupmill.tree" 334⟩,⟨PySem.PyData.keyHash P "__doc__",.str "__doc__" 166,.none⟩,⟨PySem.PyData.keyHash P "__package__",.str "__package__" 167,.none⟩,⟨PySem.PyData.keyHash P "__loader__",.str "__loader__" 168,.builtin "__main__.__loader__#opaque"⟩,⟨PySem.PyData.keyHash P "__spec__",.str "__spec__" 169,.none⟩,⟨PySem.PyData.keyHash P "__annotations__",.str "__annotations__" 170,.ref 6⟩,⟨PySem.PyData.keyHash P "__builtins__",.str "__builtins__" 171,.ref 4⟩,⟨PySem.PyData.keyHash P "__file__",.str "__file__" 173,.str "/claim/cut.py" 172⟩,⟨PySem.PyData.keyHash P "__cached__",.str "__cached__" 174,.none⟩,⟨PySem.PyData.keyHash P "_wall",.str "_wall" 193,.ref 21⟩,⟨PySem.PyData.keyHash P "XMLNS_URI",.str "XMLNS_URI" 195,.str "http://www.w3.org/2000/xmlns/" 194⟩,⟨PySem.PyData.keyHash P "KIND",.str "KIND" 199,.int 0 198⟩,⟨PySem.PyData.keyHash P "LABEL",.str "LABEL" 201,.int 1 200⟩,⟨PySem.PyData.keyHash P "VALUE",.str "VALUE" 203,.int 2 202⟩,⟨PySem.PyData.keyHash P "ATTRIBUTES",.str "ATTRIBUTES" 205,.int 3 204⟩,⟨PySem.PyData.keyHash P "text_form",.str "text_form" 212,.ref 28⟩,⟨PySem.PyData.keyHash P "comment_form",.str "comment_form" 219,.ref 35⟩,⟨PySem.PyData.keyHash P "instruction_form",.str "instruction_form" 227,.ref 42⟩,⟨PySem.PyData.keyHash P "element_form",.str "element_form" 236,.ref 49⟩,⟨PySem.PyData.keyHash P "root_form",.str "root_form" 243,.ref 56⟩,⟨PySem.PyData.keyHash P "DECLARED",.str "DECLARED" 247,.str "xmlns" 246⟩,⟨PySem.PyData.keyHash P "rows_of",.str "rows_of" 259,.ref 63⟩,⟨PySem.PyData.keyHash P "one_form",.str "one_form" 269,.ref 70⟩,⟨PySem.PyData.keyHash P "add_node",.str "add_node" 286,.ref 77⟩,⟨PySem.PyData.keyHash P "MarkupError",.str "MarkupError" 317,.ref 94⟩,⟨PySem.PyData.keyHash P "TreeFault",.str "TreeFault" 333,.ref 107⟩,⟨PySem.PyData.keyHash P "PARENTS",.str "PARENTS" 338,.ref 110⟩,⟨PySem.PyData.keyHash P "NodeRow",.str "NodeRow" 380,.ref 127⟩] 28,#[]⟩ (.node (boot_o_7 P) (.node (ko P 15) (.node (ko P 31) (.node (ko P 63) (.node (ko P 127) .nil .nil) .nil) (.node (ko P 95) .nil .nil)) (.node (tmpl P 49) (.node ⟨.type "builtin_function_or_method",.none,.fields #[.builtin "type.__prepare__",.type "type"],#[]⟩ .nil .nil) (.node ⟨.type "tuple",.none,.seq #[] 0,#[]⟩ .nil .nil))) (.node ⟨.none,.none,.fields #[],#[]⟩ (.node (ko P 39) (.node (ko P 71) .nil .nil) (.node ⟨.type "code",.none,.fields #[.str "TreeFault" 320,.str "TreeFault" 321,.str "/claim/cut.py" 322,.int 64 0,.int 0 0,.int 0 0,.int 0 0,.int 0 0,.ref 101,.bool false,.int 181 0,.ref 102,.none,.none,.none,.none,.int 323 0,.int 64 0,.str "/claim/cut.py" 324],#[]⟩ .nil .nil)) (.node (ko P 55) (.node (ko P 87) .nil .nil) (.node ⟨.none,.none,.fields #[],#[]⟩ .nil .nil)))) (.node ⟨.type "tuple",.none,.seq #[] 0,#[]⟩ (.node (tmpl P 21) (.node (ko P 35) (.node (ko P 67) (.node ⟨.type "builtin_function_or_method",.none,.fields #[.builtin "object.__init_subclass__",.ref 127],#[]⟩ .nil .nil) .nil) (.node ⟨.type "builtin_function_or_method",.none,.fields #[.builtin "type.__prepare__",.type "type"],#[]⟩ .nil .nil)) (.node ⟨.none,.none,.fields #[],#[]⟩ (.node ⟨.type "code",.none,.fields #[.str "MarkupError" 291,.str "MarkupError" 292,.str "/claim/cut.py" 293,.int 59 0,.int 0 0,.int 0 0,.int 0 0,.int 0 0,.ref 81,.bool false,.int 181 0,.ref 82,.none,.none,.none,.none,.int 294 0,.int 59 0,.str "/claim/cut.py" 295],#[]⟩ .nil .nil) (.node ⟨.none,.none,.fields #[.int 70 0,.int 4 0,.ref 123],#[]⟩ .nil .nil))) (.node (ko P 27) (.node (ko P 43) (.node (tmpl P 77) .nil .nil) (.node (ko P 107) .nil .nil)) (.node (ko P 59) (.node (ko P 91) .nil .nil) (.node (ko P 123) .nil .nil))))) (.node (boot_o_5 P) (.node (boot_o_9 P) (.node (ko P 17) (.node (tmpl P 35) (.node ⟨.none,.none,.fields #[],#[]⟩ (.node (ko P 129) .nil .nil) .nil) (.node ⟨.type "builtin_function_or_method",.none,.fields #[.builtin "object.__init_subclass__",.ref 94],#[]⟩ .nil .nil)) (.node (ko P 49) (.node ⟨.type "tuple",.none,.seq #[] 0,#[]⟩ .nil .nil) (.node ⟨.type "dict",.none,.dict #[⟨PySem.PyData.keyHash P "__module__",.str "__module__" 346,.str "markupmill.tree" 334⟩,⟨PySem.PyData.keyHash P "__qualname__",.str "__qualname__" 348,.str "NodeRow" 347⟩,⟨PySem.PyData.keyHash P "__firstlineno__",.str "__firstlineno__" 350,.int 68 349⟩,⟨PySem.PyData.keyHash P "__init__",.str "__init__" 363,.ref 124⟩,⟨PySem.PyData.keyHash P "__static_attributes__",.str "__static_attributes__" 373,.ref 125⟩] 5,#[]⟩ .nil .nil))) (.node (ko P 25) (.node (ko P 41) (.node (ko P 73) .nil .nil) (.node (ko P 105) .nil .nil)) (.node (ko P 57) (.node (tmpl P 91) .nil .nil) (.node (ko P 121) .nil .nil)))) (.node ⟨.type "code",.none,.fields #[.str "<module>" 182,.str "<module>" 183,.str "/claim/cut.py" 184,.int 1 0,.int 0 0,.int 0 0,.int 0 0,.int 0 0,.ref 11,.bool false,.int 181 0,.ref 12,.none,.none,.none,.none,.int 185 0,.int 1 0,.str "/claim/cut.py" 186],#[]⟩ (.node (ko P 21) (.node ⟨.none,.none,.fields #[],#[]⟩ (.node (ko P 69) .nil .nil) (.node ⟨.type "tuple",.none,.seq #[] 0,#[]⟩ .nil .nil)) (.node (ko P 53) (.node (ko P 85) .nil .nil) (.node ⟨.type "frame",.none,.plain,#[.some (.ref 116),.some (.ref 3),.some (.ref 113),.none,.some (.str "markupmill.tree" 334),.none,.some (.ref 0)]⟩ .nil .nil))) (.node (ko P 29) (.node (ko P 45) (.node (ko P 77) .nil .nil) (.node ⟨.type "builtin_function_or_method",.none,.fields #[.builtin "object.__init_subclass__",.ref 107],#[]⟩ .nil .nil)) (.node (tmpl P 63) (.node (ko P 93) .nil .nil) (.node (ko P 125) .nil .nil)))))) (.node (ko P 2) (.node (boot_o_4 P) (.node (boot_o_8 P) (.node ⟨.none,.none,.fields #[],#[]⟩ (.node (ko P 32) (.node (ko P 64) (.node (ko P 128) .nil .nil) .nil) (.node ⟨.type "super",.none,.fields #[.ref 94,.ref 94,.ref 94],#[]⟩ .nil .nil)) (.node (ko P 48) (.node ⟨.type "dict",.none,.dict #[⟨PySem.PyData.keyHash P "__module__",.str "__module__" 296,.str "markupmill.errors" 287⟩,⟨PySem.PyData.keyHash P "__qualname__",.str "__qualname__" 298,.str "MarkupError" 297⟩,⟨PySem.PyData.keyHash P "__firstlineno__",.str "__firstlineno__" 300,.int 59 299⟩,⟨PySem.PyData.keyHash P "__init__",.str "__init__" 308,.ref 91⟩,⟨PySem.PyData.keyHash P "__static_attributes__",.str "__static_attributes__" 310,.ref 92⟩] 5,#[]⟩ .nil .nil) (.node ⟨.type "builtin_function_or_method",.none,.fields #[.builtin "type.__prepare__",.type "type"],#[]⟩ .nil .nil))) (.node (ko P 24) (.node (tmpl P 42) (.node ⟨.none,.none,.fields #[],#[]⟩ .nil .nil) (.node ⟨.type "frame",.none,.plain,#[.some (.ref 103),.some (.ref 3),.some (.ref 100),.none,.some (.str "markupmill.errors" 287),.none,.some (.ref 0)]⟩ .nil .nil)) (.node (ko P 56) (.node (ko P 88) .nil .nil) (.node (ko P 120) .nil .nil)))) (.node ⟨.none,.none,.fields #[.int 1 0,.int 0 0,.ref 20,.int 10 0,.int 0 0,.ref 27,.int 12 0,.int 0 0,.ref 34,.int 14 0,.int 0 0,.ref 41,.int 16 0,.int 0 0,.ref 48,.int 18 0,.int 0 0,.ref 55,.int 22 0,.int 0 0,.ref 62,.int 31 0,.int 0 0,.ref 69,.int 42 0,.int 0 0,.ref 76,.int 59 0,.int 0 0,.ref 83,.int 64 0,.int 0 0,.ref 103,.int 68 0,.int 0 0,.ref 116],#[]⟩ (.node (ko P 20) (.node (ko P 36) (.node (tmpl P 70) .nil .nil) (.node ⟨.type "dict",.none,.dict #[⟨PySem.PyData.keyHash P "__module__",.str "__module__" 325,.str "markupmill.errors" 287⟩,⟨PySem.PyData.keyHash P "__qualname__",.str "__qualname__" 327,.str "TreeFault" 326⟩,⟨PySem.PyData.keyHash P "__firstlineno__",.str "__firstlineno__" 329,.int 64 328⟩,⟨PySem.PyData.keyHash P "__static_attributes__",.str "__static_attributes__" 330,.ref 105⟩] 4,#[]⟩ .nil .nil)) (.node (ko P 52) (.node ⟨.type "frame",.none,.plain,#[.some (.ref 83),.some (.ref 3),.some (.ref 80),.none,.some (.str "markupmill.errors" 287),.none,.some (.ref 0)]⟩ .nil .nil) (.node ⟨.type "code",.none,.fields #[.str "NodeRow" 341,.str "NodeRow" 342,.str "/claim/cut.py" 343,.int 68 0,.int 0 0,.int 0 0,.int 0 0,.int 0 0,.ref 114,.bool false,.int 181 0,.ref 115,.none,.none,.none,.none,.int 344 0,.int 68 0,.str "/claim/cut.py" 345],#[]⟩ .nil .nil))) (.node (ko P 28) (.node ⟨.none,.none,.fields #[],#[]⟩ (.node (ko P 76) .nil .nil) (.node ⟨.type "super",.none,.fields #[.ref 107,.ref 107,.ref 107],#[]⟩ .nil .nil)) (.node (ko P 60) (.node (ko P 92) .nil .nil) (.node (ko P 124) .nil .nil))))) (.node (boot_o_6 P) (.node (boot_o_10 P) (.node (ko P 18) (.node (ko P 34) (.node (ko P 66) (.node ⟨.type "super",.none,.fields #[.ref 127,.ref 127,.ref 127],#[]⟩ .nil .nil) .nil) (.node (ko P 98) .nil .nil)) (.node (ko P 50) (.node ⟨.none,.none,.fields #[.int 61 0,.int 4 0,.ref 90],#[]⟩ .nil .nil) (.node ⟨.type "tuple",.none,.seq #[] 0,#[]⟩ .nil .nil))) (.node (tmpl P 28) (.node (ko P 42) (.node (ko P 74) .nil .nil) (.node (ko P 106) .nil .nil)) (.node ⟨.none,.none,.fields #[],#[]⟩ (.node (ko P 90) .nil .nil) (.node (tmpl P 124) .nil .nil)))) (.node ⟨.type "frame",.none,.plain,#[.some (.ref 13),.some (.ref 3),.some (.ref 3),.none,.some (.str "__main__" 164),.none,.some (.ref 0)]⟩ (.node (ko P 22) (.node (ko P 38) (.node (ko P 70) .nil .nil) (.node ⟨.none,.none,.fields #[],#[]⟩ .nil .nil)) (.node (tmpl P 56) (.node ⟨.none,.none,.fields #[],#[]⟩ .nil .nil) (.node (ko P 118) .nil .nil))) (.node ⟨.none,.none,.fields #[],#[]⟩ (.node (ko P 46) (.node (ko P 78) .nil .nil) (.node (ko P 110) .nil .nil)) (.node (ko P 62) (.node (ko P 94) .nil .nil) (.node (ko P 126) .nil .nil)))))))
noncomputable def treeC (P : Params) : BT := (.node (boot_o_0 P) (.node (boot_o_1 P) (.node ⟨.type "dict",.none,.dict #[⟨PySem.PyData.keyHash P "__name__",.str "__name__" 165,.str "markupmill.tree" 334⟩,⟨PySem.PyData.keyHash P "__doc__",.str "__doc__" 166,.none⟩,⟨PySem.PyData.keyHash P "__package__",.str "__package__" 167,.none⟩,⟨PySem.PyData.keyHash P "__loader__",.str "__loader__" 168,.builtin "__main__.__loader__#opaque"⟩,⟨PySem.PyData.keyHash P "__spec__",.str "__spec__" 169,.none⟩,⟨PySem.PyData.keyHash P "__annotations__",.str "__annotations__" 170,.ref 6⟩,⟨PySem.PyData.keyHash P "__builtins__",.str "__builtins__" 171,.ref 4⟩,⟨PySem.PyData.keyHash P "__file__",.str "__file__" 173,.str "/claim/cut.py" 172⟩,⟨PySem.PyData.keyHash P "__cached__",.str "__cached__" 174,.none⟩,⟨PySem.PyData.keyHash P "_wall",.str "_wall" 193,.ref 21⟩,⟨PySem.PyData.keyHash P "XMLNS_URI",.str "XMLNS_URI" 195,.str "http://www.w3.org/2000/xmlns/" 194⟩,⟨PySem.PyData.keyHash P "KIND",.str "KIND" 199,.int 0 198⟩,⟨PySem.PyData.keyHash P "LABEL",.str "LABEL" 201,.int 1 200⟩,⟨PySem.PyData.keyHash P "VALUE",.str "VALUE" 203,.int 2 202⟩,⟨PySem.PyData.keyHash P "ATTRIBUTES",.str "ATTRIBUTES" 205,.int 3 204⟩,⟨PySem.PyData.keyHash P "text_form",.str "text_form" 212,.ref 28⟩,⟨PySem.PyData.keyHash P "comment_form",.str "comment_form" 219,.ref 35⟩,⟨PySem.PyData.keyHash P "instruction_form",.str "instruction_form" 227,.ref 42⟩,⟨PySem.PyData.keyHash P "element_form",.str "element_form" 236,.ref 49⟩,⟨PySem.PyData.keyHash P "root_form",.str "root_form" 243,.ref 56⟩,⟨PySem.PyData.keyHash P "DECLARED",.str "DECLARED" 247,.str "xmlns" 246⟩,⟨PySem.PyData.keyHash P "rows_of",.str "rows_of" 259,.ref 63⟩,⟨PySem.PyData.keyHash P "one_form",.str "one_form" 269,.ref 70⟩,⟨PySem.PyData.keyHash P "add_node",.str "add_node" 286,.ref 77⟩,⟨PySem.PyData.keyHash P "MarkupError",.str "MarkupError" 317,.ref 94⟩,⟨PySem.PyData.keyHash P "TreeFault",.str "TreeFault" 333,.ref 107⟩,⟨PySem.PyData.keyHash P "PARENTS",.str "PARENTS" 338,.ref 110⟩,⟨PySem.PyData.keyHash P "NodeRow",.str "NodeRow" 380,.ref 127⟩,⟨PySem.PyData.keyHash P "Tree",.str "Tree" 633,.ref 316⟩] 29,#[]⟩ (.node (boot_o_7 P) (.node (ko P 15) (.node (ko P 31) (.node (ko P 63) (.node (ko P 127) (.node (tmpl P 257) .nil .nil) .nil) (.node (ko P 191) (.node ⟨.type "super",.none,.fields #[.ref 316,.ref 316,.ref 316],#[]⟩ .nil .nil) .nil)) (.node (ko P 95) (.node (ko P 159) (.node ⟨.none,.none,.fields #[],#[]⟩ .nil .nil) .nil) (.node (ko P 223) .nil .nil))) (.node (tmpl P 49) (.node ⟨.type "builtin_function_or_method",.none,.fields #[.builtin "type.__prepare__",.type "type"],#[]⟩ (.node (tmpl P 145) (.node (ko P 271) .nil .nil) .nil) (.node (ko P 207) .nil .nil)) (.node ⟨.type "tuple",.none,.seq #[] 0,#[]⟩ (.node ⟨.none,.none,.fields #[],#[]⟩ (.node (ko P 303) .nil .nil) .nil) (.node (ko P 239) .nil .nil)))) (.node ⟨.none,.none,.fields #[],#[]⟩ (.node (ko P 39) (.node (ko P 71) (.node ⟨.type "tuple",.none,.seq #[] 0,#[]⟩ (.node (ko P 263) .nil .nil) .nil) (.node (tmpl P 201) .nil .nil)) (.node ⟨.type "code",.none,.fields #[.str "TreeFault" 320,.str "TreeFault" 321,.str "/claim/cut.py" 322,.int 64 0,.int 0 0,.int 0 0,.int 0 0,.int 0 0,.ref 101,.bool false,.int 181 0,.ref 102,.none,.none,.none,.none,.int 323 0,.int 64 0,.str "/claim/cut.py" 324],#[]⟩ (.node (ko P 167) (.node (ko P 295) .nil .nil) .nil) (.node ⟨.none,.none,.fields #[],#[]⟩ .nil .nil))) (.node (ko P 55) (.node (ko P 87) (.node (ko P 151) (.node (ko P 279) .nil .nil) .nil) (.node (ko P 215) .nil .nil)) (.node ⟨.none,.none,.fields #[],#[]⟩ (.node (ko P 183) (.node (tmpl P 313) .nil .nil) .nil) (.node (ko P 247) .nil .nil))))) (.node ⟨.type "tuple",.none,.seq #[] 0,#[]⟩ (.node (tmpl P 21) (.node (ko P 35) (.node (ko P 67) (.node ⟨.type "builtin_function_or_method",.none,.fields #[.builtin "object.__init_subclass__",.ref 127],#[]⟩ (.node ⟨.none,.none,.fields #[],#[]⟩ .nil .nil) .nil) (.node (ko P 195) .nil .nil)) (.node ⟨.type "builtin_function_or_method",.none,.fields #[.builtin "type.__prepare__",.type "type"],#[]⟩ (.node (ko P 163) (.node (ko P 291) .nil .nil) .nil) (.node (tmpl P 229) .nil .nil))) (.node ⟨.none,.none,.fields #[],#[]⟩ (.node ⟨.type "code",.none,.fields #[.str "MarkupError" 291,.str "MarkupError" 292,.str "/claim/cut.py" 293,.int 59 0,.int 0 0,.int 0 0,.int 0 0,.int 0 0,.ref 81,.bool false,.int 181 0,.ref 82,.none,.none,.none,.none,.int 294 0,.int 59 0,.str "/claim/cut.py" 295],#[]⟩ (.node ⟨.none,.none,.fields #[],#[]⟩ (.node (ko P 275) .nil .nil) .nil) (.node (ko P 211) .nil .nil)) (.node ⟨.none,.none,.fields #[.int 70 0,.int 4 0,.ref 123],#[]⟩ (.node (ko P 179) (.node (ko P 307) .nil .nil) .nil) (.node (ko P 243) .nil .nil)))) (.node (ko P 27) (.node (ko P 43) (.node (tmpl P 77) (.node (ko P 139) (.node (ko P 267) .nil .nil) .nil) (.node ⟨.none,.none,.fields #[],#[]⟩ .nil .nil)) (.node (ko P 107) (.node (tmpl P 173) (.node (ko P 299) .nil .nil) .nil) (.node (ko P 235) .nil .nil))) (.node (ko P 59) (.node (ko P 91) (.node (ko P 155) (.node (tmpl P 285) .nil .nil) .nil) (.node (ko P 219) .nil .nil)) (.node (ko P 123) (.node (ko P 187) (.node (ko P 315) .nil .nil) .nil) (.node (ko P 251) .nil .nil)))))) (.node (boot_o_5 P) (.node (boot_o_9 P) (.node (ko P 17) (.node (tmpl P 35) (.node ⟨.none,.none,.fields #[],#[]⟩ (.node (ko P 129) (.node (ko P 257) .nil .nil) .nil) (.node (ko P 193) .nil .nil)) (.node ⟨.type "builtin_function_or_method",.none,.fields #[.builtin "object.__init_subclass__",.ref 94],#[]⟩ (.node ⟨.none,.none,.fields #[],#[]⟩ (.node (ko P 289) .nil .nil) .nil) (.node (ko P 225) .nil .nil))) (.node (ko P 49) (.node ⟨.type "tuple",.none,.seq #[] 0,#[]⟩ (.node (ko P 145) (.node ⟨.none,.none,.fields #[],#[]⟩ .nil .nil) .nil) (.node (ko P 209) .nil .nil)) (.node ⟨.type "dict",.none,.dict #[⟨PySem.PyData.keyHash P "__module__",.str "__module__" 346,.str "markupmill.tree" 334⟩,⟨PySem.PyData.keyHash P "__qualname__",.str "__qualname__" 348,.str "NodeRow" 347⟩,⟨PySem.PyData.keyHash P "__firstlineno__",.str "__firstlineno__" 350,.int 68 349⟩,⟨PySem.PyData.keyHash P "__init__",.str "__init__" 363,.ref 124⟩,⟨PySem.PyData.keyHash P "__static_attributes__",.str "__static_attributes__" 373,.ref 125⟩] 5,#[]⟩ (.node (ko P 177) (.node (ko P 305) .nil .nil) .nil) (.node (tmpl P 243) .nil .nil)))) (.node (ko P 25) (.node (ko P 41) (.node (ko P 73) (.node ⟨.type "code",.none,.fields #[.str "Tree" 383,.str "Tree" 384,.str "/claim/cut.py" 385,.int 80 0,.int 0 0,.int 0 0,.int 0 0,.int 0 0,.ref 135,.bool false,.int 181 0,.ref 136,.none,.none,.none,.none,.int 386 0,.int 80 0,.str "/claim/cut.py" 387],#[]⟩ (.node (ko P 265) .nil .nil) .nil) (.node (ko P 201) .nil .nil)) (.node (ko P 105) (.node (ko P 169) (.node (tmpl P 299) .nil .nil) .nil) (.node (ko P 233) .nil .nil))) (.node (ko P 57) (.node (tmpl P 91) (.node (ko P 153) (.node (ko P 281) .nil .nil) .nil) (.node ⟨.none,.none,.fields #[],#[]⟩ .nil .nil)) (.node (ko P 121) (.node (tmpl P 187) (.node (ko P 313) .nil .nil) .nil) (.node (ko P 249) .nil .nil))))) (.node ⟨.type "code",.none,.fields #[.str "<module>" 182,.str "<module>" 183,.str "/claim/cut.py" 184,.int 1 0,.int 0 0,.int 0 0,.int 0 0,.int 0 0,.ref 11,.bool false,.int 181 0,.ref 12,.none,.none,.none,.none,.int 185 0,.int 1 0,.str "/claim/cut.py" 186],#[]⟩ (.node (ko P 21) (.node ⟨.none,.none,.fields #[],#[]⟩ (.node (ko P 69) (.node ⟨.type "builtin_function_or_method",.none,.fields #[.builtin "type.__prepare__",.type "type"],#[]⟩ (.node (ko P 261) .nil .nil) .nil) (.node (ko P 197) .nil .nil)) (.node ⟨.type "tuple",.none,.seq #[] 0,#[]⟩ (.node (ko P 165) (.node (ko P 293) .nil .nil) .nil) (.node (ko P 229) .nil .nil))) (.node (ko P 53) (.node (ko P 85) (.node (ko P 149) (.node (ko P 277) .nil .nil) .nil) (.node (tmpl P 215) .nil .nil)) (.node ⟨.type "frame",.none,.plain,#[.some (.ref 116),.some (.ref 3),.some (.ref 113),.none,.some (.str "markupmill.tree" 334),.none,.some (.ref 0)]⟩ (.node (ko P 181) (.node (ko P 309) .nil .nil) .nil) (.node ⟨.none,.none,.fields #[],#[]⟩ .nil .nil)))) (.node (ko P 29) (.node (ko P 45) (.node (ko P 77) (.node (ko P 141) (.node (tmpl P 271) .nil .nil) .nil) (.node (ko P 205) .nil .nil)) (.node ⟨.type "builtin_function_or_method",.none,.fields #[.builtin "object.__init_subclass__",.ref 107],#[]⟩ (.node (ko P 173) (.node ⟨.none,.none,.fields #[],#[]⟩ .nil .nil) .nil) (.node (ko P 237) .nil .nil))) (.node (tmpl P 63) (.node (ko P 93) (.node (tmpl P 159) (.node (ko P 285) .nil .nil) .nil) (.node (ko P 221) .nil .nil)) (.node (ko P 125) (.node ⟨.none,.none,.fields #[],#[]⟩ (.node (ko P 317) .nil .nil) .nil) (.node (ko P 253) .nil .nil))))))) (.node (ko P 2) (.node (boot_o_4 P) (.node (boot_o_8 P) (.node ⟨.none,.none,.fields #[],#[]⟩ (.node (ko P 32) (.node (ko P 64) (.node (ko P 128) (.node (ko P 256) .nil .nil) .nil) (.node (tmpl P 194) (.node ⟨.type "builtin_function_or_method",.none,.fields #[.builtin "object.__init_subclass__",.ref 316],#[]⟩ .nil .nil) .nil)) (.node ⟨.type "super",.none,.fields #[.ref 94,.ref 94,.ref 94],#[]⟩ (.node (ko P 160) (.node (ko P 288) .nil .nil) .nil) (.node ⟨.none,.none,.fields #[],#[]⟩ .nil .nil))) (.node (ko P 48) (.node ⟨.type "dict",.none,.dict #[⟨PySem.PyData.keyHash P "__module__",.str "__module__" 296,.str "markupmill.errors" 287⟩,⟨PySem.PyData.keyHash P "__qualname__",.str "__qualname__" 298,.str "MarkupError" 297⟩,⟨PySem.PyData.keyHash P "__firstlineno__",.str "__firstlineno__" 300,.int 59 299⟩,⟨PySem.PyData.keyHash P "__init__",.str "__init__" 308,.ref 91⟩,⟨PySem.PyData.keyHash P "__static_attributes__",.str "__static_attributes__" 310,.ref 92⟩] 5,#[]⟩ (.node (ko P 144) (.node (ko P 272) .nil .nil) .nil) (.node (ko P 208) .nil .nil)) (.node ⟨.type "builtin_function_or_method",.none,.fields #[.builtin "type.__prepare__",.type "type"],#[]⟩ (.node (ko P 176) (.node (tmpl P 306) .nil .nil) .nil) (.node (ko P 240) .nil .nil)))) (.node (ko P 24) (.node (tmpl P 42) (.node ⟨.none,.none,.fields #[],#[]⟩ (.node ⟨.none,.none,.fields #[.int 82 0,.int 4 0,.ref 144,.int 85 0,.int 4 0,.ref 151,.int 89 0,.int 4 0,.ref 158,.int 94 0,.int 4 0,.ref 165,.int 97 0,.int 4 0,.ref 172,.int 105 0,.int 4 0,.ref 179,.int 108 0,.int 4 0,.ref 186,.int 111 0,.int 4 0,.ref 193,.int 114 0,.int 4 0,.ref 200,.int 117 0,.int 4 0,.ref 207,.int 123 0,.int 4 0,.ref 214,.int 135 0,.int 4 0,.ref 221,.int 145 0,.int 4 0,.ref 228,.int 148 0,.int 4 0,.ref 235,.int 151 0,.int 4 0,.ref 242,.int 154 0,.int 4 0,.ref 249,.int 157 0,.int 4 0,.ref 256,.int 160 0,.int 4 0,.ref 263,.int 163 0,.int 4 0,.ref 270,.int 166 0,.int 4 0,.ref 277,.int 169 0,.int 4 0,.ref 284,.int 172 0,.int 4 0,.ref 291,.int 175 0,.int 4 0,.ref 298,.int 178 0,.int 4 0,.ref 305,.int 181 0,.int 4 0,.ref 312],#[]⟩ (.node (ko P 264) .nil .nil) .nil) (.node (ko P 200) .nil .nil)) (.node ⟨.type "frame",.none,.plain,#[.some (.ref 103),.some (.ref 3),.some (.ref 100),.none,.some (.str "markupmill.errors" 287),.none,.some (.ref 0)]⟩ (.node ⟨.none,.none,.fields #[],#[]⟩ (.node (ko P 296) .nil .nil) .nil) (.node (ko P 232) .nil .nil))) (.node (ko P 56) (.node (ko P 88) (.node (ko P 152) (.node ⟨.none,.none,.fields #[],#[]⟩ .nil .nil) .nil) (.node (ko P 216) .nil .nil)) (.node (ko P 120) (.node (ko P 184) (.node (ko P 312) .nil .nil) .nil) (.node (tmpl P 250) .nil .nil))))) (.node ⟨.none,.none,.fields #[.int 1 0,.int 0 0,.ref 20,.int 10 0,.int 0 0,.ref 27,.int 12 0,.int 0 0,.ref 34,.int 14 0,.int 0 0,.ref 41,.int 16 0,.int 0 0,.ref 48,.int 18 0,.int 0 0,.ref 55,.int 22 0,.int 0 0,.ref 62,.int 31 0,.int 0 0,.ref 69,.int 42 0,.int 0 0,.ref 76,.int 59 0,.int 0 0,.ref 83,.int 64 0,.int 0 0,.ref 103,.int 68 0,.int 0 0,.ref 116,.int 80 0,.int 0 0,.ref 137],#[]⟩ (.node (ko P 20) (.node (ko P 36) (.node (tmpl P 70) (.node ⟨.type "tuple",.none,.seq #[] 0,#[]⟩ (.node (ko P 260) .nil .nil) .nil) (.node ⟨.none,.none,.fields #[],#[]⟩ .nil .nil)) (.node ⟨.type "dict",.none,.dict #[⟨PySem.PyData.keyHash P "__module__",.str "__module__" 325,.str "markupmill.errors" 287⟩,⟨PySem.PyData.keyHash P "__qualname__",.str "__qualname__" 327,.str "TreeFault" 326⟩,⟨PySem.PyData.keyHash P "__firstlineno__",.str "__firstlineno__" 329,.int 64 328⟩,⟨PySem.PyData.keyHash P "__static_attributes__",.str "__static_attributes__" 330,.ref 105⟩] 4,#[]⟩ (.node (tmpl P 166) (.node (ko P 292) .nil .nil) .nil) (.node (ko P 228) .nil .nil))) (.node (ko P 52) (.node ⟨.type "frame",.none,.plain,#[.some (.ref 83),.some (.ref 3),.some (.ref 80),.none,.some (.str "markupmill.errors" 287),.none,.some (.ref 0)]⟩ (.node (ko P 148) (.node (tmpl P 278) .nil .nil) .nil) (.node (ko P 212) .nil .nil)) (.node ⟨.type "code",.none,.fields #[.str "NodeRow" 341,.str "NodeRow" 342,.str "/claim/cut.py" 343,.int 68 0,.int 0 0,.int 0 0,.int 0 0,.int 0 0,.ref 114,.bool false,.int 181 0,.ref 115,.none,.none,.none,.none,.int 344 0,.int 68 0,.str "/claim/cut.py" 345],#[]⟩ (.node (ko P 180) (.node ⟨.none,.none,.fields #[],#[]⟩ .nil .nil) .nil) (.node (ko P 244) .nil .nil)))) (.node (ko P 28) (.node ⟨.none,.none,.fields #[],#[]⟩ (.node (ko P 76) (.node ⟨.none,.none,.fields #[],#[]⟩ (.node (ko P 268) .nil .nil) .nil) (.node (ko P 204) .nil .nil)) (.node ⟨.type "super",.none,.fields #[.ref 107,.ref 107,.ref 107],#[]⟩ (.node (ko P 172) (.node (ko P 300) .nil .nil) .nil) (.node (ko P 236) .nil .nil))) (.node (ko P 60) (.node (ko P 92) (.node (ko P 156) (.node (ko P 284) .nil .nil) .nil) (.node (tmpl P 222) .nil .nil)) (.node (ko P 124) (.node (ko P 188) (.node (ko P 316) .nil .nil) .nil) (.node ⟨.none,.none,.fields #[],#[]⟩ .nil .nil)))))) (.node (boot_o_6 P) (.node (boot_o_10 P) (.node (ko P 18) (.node (ko P 34) (.node (ko P 66) (.node ⟨.type "super",.none,.fields #[.ref 127,.ref 127,.ref 127],#[]⟩ (.node (ko P 258) .nil .nil) .nil) (.node (ko P 194) .nil .nil)) (.node (ko P 98) (.node (ko P 162) (.node (tmpl P 292) .nil .nil) .nil) (.node (ko P 226) .nil .nil))) (.node (ko P 50) (.node ⟨.none,.none,.fields #[.int 61 0,.int 4 0,.ref 90],#[]⟩ (.node (ko P 146) (.node (ko P 274) .nil .nil) .nil) (.node ⟨.none,.none,.fields #[],#[]⟩ .nil .nil)) (.node ⟨.type "tuple",.none,.seq #[] 0,#[]⟩ (.node (tmpl P 180) (.node (ko P 306) .nil .nil) .nil) (.node (ko P 242) .nil .nil)))) (.node (tmpl P 28) (.node (ko P 42) (.node (ko P 74) (.node ⟨.type "frame",.none,.plain,#[.some (.ref 137),.some (.ref 3),.some (.ref 134),.none,.some (.str "markupmill.tree" 334),.none,.some (.ref 0)]⟩ (.node ⟨.none,.none,.fields #[],#[]⟩ .nil .nil) .nil) (.node (ko P 202) .nil .nil)) (.node (ko P 106) (.node (ko P 170) (.node (ko P 298) .nil .nil) .nil) (.node (tmpl P 236) .nil .nil))) (.node ⟨.none,.none,.fields #[],#[]⟩ (.node (ko P 90) (.node ⟨.none,.none,.fields #[],#[]⟩ (.node (ko P 282) .nil .nil) .nil) (.node (ko P 218) .nil .nil)) (.node (tmpl P 124) (.node (ko P 186) (.node (ko P 314) .nil .nil) .nil) (.node (ko P 250) .nil .nil))))) (.node ⟨.type "frame",.none,.plain,#[.some (.ref 13),.some (.ref 3),.some (.ref 3),.none,.some (.str "__main__" 164),.none,.some (.ref 0)]⟩ (.node (ko P 22) (.node (ko P 38) (.node (ko P 70) (.node ⟨.type "dict",.none,.dict #[⟨PySem.PyData.keyHash P "__module__",.str "__module__" 388,.str "markupmill.tree" 334⟩,⟨PySem.PyData.keyHash P "__qualname__",.str "__qualname__" 390,.str "Tree" 389⟩,⟨PySem.PyData.keyHash P "__firstlineno__",.str "__firstlineno__" 392,.int 80 391⟩,⟨PySem.PyData.keyHash P "__init__",.str "__init__" 399,.ref 145⟩,⟨PySem.PyData.keyHash P "new_row",.str "new_row" 412,.ref 152⟩,⟨PySem.PyData.keyHash P "row",.str "row" 420,.ref 159⟩,⟨PySem.PyData.keyHash P "new_root",.str "new_root" 427,.ref 166⟩,⟨PySem.PyData.keyHash P "add_child",.str "add_child" 441,.ref 173⟩,⟨PySem.PyData.keyHash P "add_element",.str "add_element" 452,.ref 180⟩,⟨PySem.PyData.keyHash P "add_text",.str "add_text" 461,.ref 187⟩,⟨PySem.PyData.keyHash P "add_comment",.str "add_comment" 470,.ref 194⟩,⟨PySem.PyData.keyHash P "add_instruction",.str "add_instruction" 480,.ref 201⟩,⟨PySem.PyData.keyHash P "element_row",.str "element_row" 489,.ref 208⟩,⟨PySem.PyData.keyHash P "set_attribute",.str "set_attribute" 504,.ref 215⟩,⟨PySem.PyData.keyHash P "add_namespace",.str "add_namespace" 516,.ref 222⟩,⟨PySem.PyData.keyHash P "set_value",.str "set_value" 525,.ref 229⟩,⟨PySem.PyData.keyHash P "kind",.str "kind" 533,.ref 236⟩,⟨PySem.PyData.keyHash P "name",.str "name" 541,.ref 243⟩,⟨PySem.PyData.keyHash P "uri",.str "uri" 549,.ref 250⟩,⟨PySem.PyData.keyHash P "local",.str "local" 557,.ref 257⟩,⟨PySem.PyData.keyHash P "value",.str "value" 565,.ref 264⟩,⟨PySem.PyData.keyHash P "parent",.str "parent" 573,.ref 271⟩,⟨PySem.PyData.keyHash P "children",.str "children" 581,.ref 278⟩,⟨PySem.PyData.keyHash P "attributes",.str "attributes" 589,.ref 285⟩,⟨PySem.PyData.keyHash P "namespaces",.str "namespaces" 597,.ref 292⟩,⟨PySem.PyData.keyHash P "root_of",.str "root_of" 605,.ref 299⟩,⟨PySem.PyData.keyHash P "is_above",.str "is_above" 614,.ref 306⟩,⟨PySem.PyData.keyHash P "attribute_value",.str "attribute_value" 624,.ref 313⟩,⟨PySem.PyData.keyHash P "__static_attributes__",.str "__static_attributes__" 626,.ref 314⟩] 29,#[]⟩ (.node (tmpl P 264) .nil .nil) .nil) (.node (ko P 198) .nil .nil)) (.node ⟨.none,.none,.fields #[],#[]⟩ (.node (ko P 166) (.node ⟨.none,.none,.fields #[],#[]⟩ .nil .nil) .nil) (.node (ko P 230) .nil .nil))) (.node (tmpl P 56) (.node ⟨.none,.none,.fields #[],#[]⟩ (.node (tmpl P 152) (.node (ko P 278) .nil .nil) .nil) (.node (ko P 214) .nil .nil)) (.node (ko P 118) (.node ⟨.none,.none,.fields #[],#[]⟩ (.node (ko P 310) .nil .nil) .nil) (.node (ko P 246) .nil .nil)))) (.node ⟨.none,.none,.fields #[],#[]⟩ (.node (ko P 46) (.node (ko P 78) (.node (ko P 142) (.node (ko P 270) .nil .nil) .nil) (.node (tmpl P 208) .nil .nil)) (.node (ko P 110) (.node (ko P 174) (.node (ko P 302) .nil .nil) .nil) (.node ⟨.none,.none,.fields #[],#[]⟩ .nil .nil))) (.node (ko P 62) (.node (ko P 94) (.node (ko P 158) (.node (ko P 286) .nil .nil) .nil) (.node (ko P 222) .nil .nil)) (.node (ko P 126) (.node (ko P 190) (.node (ko P 318) .nil .nil) .nil) (.node (ko P 254) .nil .nil))))))))
noncomputable def heapE (P : Params) : Heap := ⟨⟨[boot_o_0 P,
 boot_o_1 P,
 ko P 2,
 ko P 3,
 boot_o_4 P,
 boot_o_5 P,
 boot_o_6 P,
 boot_o_7 P,
 boot_o_8 P,
 boot_o_9 P,
 boot_o_10 P,
 ⟨.type "tuple",.none,.seq #[] 0,#[]⟩,
 ⟨.none,.none,.fields #[.int 1 0,.int 0 0,.ref 20,.int 10 0,.int 0 0,.ref 27,.int 12 0,.int 0 0,.ref 34,.int 14 0,.int 0 0,.ref 41,.int 16 0,.int 0 0,.ref 48,.int 18 0,.int 0 0,.ref 55,.int 22 0,.int 0 0,.ref 62,.int 31 0,.int 0 0,.ref 69,.int 42 0,.int 0 0,.ref 76,.int 59 0,.int 0 0,.ref 83,.int 64 0,.int 0 0,.ref 103,.int 68 0,.int 0 0,.ref 116,.int 80 0,.int 0 0,.ref 137,.int 184 0,.int 0 0,.ref 326,.int 189 0,.int 0 0,.ref 333,.int 196 0,.int 0 0,.ref 340,.int 198 0,.int 0 0,.ref 347,.int 203 0,.int 0 0,.ref 354,.int 208 0,.int 0 0,.ref 359,.int 210 0,.int 0 0,.ref 366,.int 216 0,.int 0 0,.ref 371,.int 236 0,.int 0 0,.ref 376],#[]⟩,
 ⟨.type "code",.none,.fields #[.str "<module>" 182,.str "<module>" 183,.str "/claim/cut.py" 184,.int 1 0,.int 0 0,.int 0 0,.int 0 0,.int 0 0,.ref 11,.bool false,.int 181 0,.ref 12,.none,.none,.none,.none,.int 185 0,.int 1 0,.str "/claim/cut.py" 186],#[]⟩,
 ⟨.type "frame",.none,.plain,#[.some (.ref 13),.some (.ref 3),.some (.ref 3),.none,.some (.str "__main__" 164),.none,.some (.ref 0)]⟩,
 ko P 15,
 ⟨.none,.none,.fields #[],#[]⟩,
 ko P 17,
 ko P 18,
 tmpl P 21,
 ko P 20,
 ko P 21,
 ko P 22,
 ⟨.none,.none,.fields #[],#[]⟩,
 ko P 24,
 ko P 25,
 tmpl P 28,
 ko P 27,
 ko P 28,
 ko P 29,
 ⟨.none,.none,.fields #[],#[]⟩,
 ko P 31,
 ko P 32,
 tmpl P 35,
 ko P 34,
 ko P 35,
 ko P 36,
 ⟨.none,.none,.fields #[],#[]⟩,
 ko P 38,
 ko P 39,
 tmpl P 42,
 ko P 41,
 ko P 42,
 ko P 43,
 ⟨.none,.none,.fields #[],#[]⟩,
 ko P 45,
 ko P 46,
 tmpl P 49,
 ko P 48,
 ko P 49,
 ko P 50,
 ⟨.none,.none,.fields #[],#[]⟩,
 ko P 52,
 ko P 53,
 tmpl P 56,
 ko P 55,
 ko P 56,
 ko P 57,
 ⟨.none,.none,.fields #[],#[]⟩,
 ko P 59,
 ko P 60,
 tmpl P 63,
 ko P 62,
 ko P 63,
 ko P 64,
 ⟨.none,.none,.fields #[],#[]⟩,
 ko P 66,
 ko P 67,
 tmpl P 70,
 ko P 69,
 ko P 70,
 ko P 71,
 ⟨.none,.none,.fields #[],#[]⟩,
 ko P 73,
 ko P 74,
 tmpl P 77,
 ko P 76,
 ko P 77,
 ko P 78,
 ⟨.type "builtin_function_or_method",.none,.fields #[.builtin "type.__prepare__",.type "type"],#[]⟩,
 ⟨.type "dict",.none,.dict #[⟨PySem.PyData.keyHash P "__module__",.str "__module__" 296,.str "markupmill.errors" 287⟩,⟨PySem.PyData.keyHash P "__qualname__",.str "__qualname__" 298,.str "MarkupError" 297⟩,⟨PySem.PyData.keyHash P "__firstlineno__",.str "__firstlineno__" 300,.int 59 299⟩,⟨PySem.PyData.keyHash P "__init__",.str "__init__" 308,.ref 91⟩,⟨PySem.PyData.keyHash P "__static_attributes__",.str "__static_attributes__" 310,.ref 92⟩] 5,#[]⟩,
 ⟨.type "tuple",.none,.seq #[] 0,#[]⟩,
 ⟨.none,.none,.fields #[.int 61 0,.int 4 0,.ref 90],#[]⟩,
 ⟨.type "code",.none,.fields #[.str "MarkupError" 291,.str "MarkupError" 292,.str "/claim/cut.py" 293,.int 59 0,.int 0 0,.int 0 0,.int 0 0,.int 0 0,.ref 81,.bool false,.int 181 0,.ref 82,.none,.none,.none,.none,.int 294 0,.int 59 0,.str "/claim/cut.py" 295],#[]⟩,
 ⟨.type "frame",.none,.plain,#[.some (.ref 83),.some (.ref 3),.some (.ref 80),.none,.some (.str "markupmill.errors" 287),.none,.some (.ref 0)]⟩,
 ko P 85,
 ⟨.none,.none,.fields #[],#[]⟩,
 ko P 87,
 ko P 88,
 tmpl P 91,
 ko P 90,
 ko P 91,
 ko P 92,
 ko P 93,
 ko P 94,
 ko P 95,
 ⟨.type "super",.none,.fields #[.ref 94,.ref 94,.ref 94],#[]⟩,
 ⟨.type "builtin_function_or_method",.none,.fields #[.builtin "object.__init_subclass__",.ref 94],#[]⟩,
 ko P 98,
 ⟨.type "builtin_function_or_method",.none,.fields #[.builtin "type.__prepare__",.type "type"],#[]⟩,
 ⟨.type "dict",.none,.dict #[⟨PySem.PyData.keyHash P "__module__",.str "__module__" 325,.str "markupmill.errors" 287⟩,⟨PySem.PyData.keyHash P "__qualname__",.str "__qualname__" 327,.str "TreeFault" 326⟩,⟨PySem.PyData.keyHash P "__firstlineno__",.str "__firstlineno__" 329,.int 64 328⟩,⟨PySem.PyData.keyHash P "__static_attributes__",.str "__static_attributes__" 330,.ref 105⟩] 4,#[]⟩,
 ⟨.type "tuple",.none,.seq #[] 0,#[]⟩,
 ⟨.none,.none,.fields #[],#[]⟩,
 ⟨.type "code",.none,.fields #[.str "TreeFault" 320,.str "TreeFault" 321,.str "/claim/cut.py" 322,.int 64 0,.int 0 0,.int 0 0,.int 0 0,.int 0 0,.ref 101,.bool false,.int 181 0,.ref 102,.none,.none,.none,.none,.int 323 0,.int 64 0,.str "/claim/cut.py" 324],#[]⟩,
 ⟨.type "frame",.none,.plain,#[.some (.ref 103),.some (.ref 3),.some (.ref 100),.none,.some (.str "markupmill.errors" 287),.none,.some (.ref 0)]⟩,
 ko P 105,
 ko P 106,
 ko P 107,
 ⟨.type "super",.none,.fields #[.ref 107,.ref 107,.ref 107],#[]⟩,
 ⟨.type "builtin_function_or_method",.none,.fields #[.builtin "object.__init_subclass__",.ref 107],#[]⟩,
 ko P 110,
 ⟨.type "tuple",.none,.seq #[] 0,#[]⟩,
 ⟨.type "builtin_function_or_method",.none,.fields #[.builtin "type.__prepare__",.type "type"],#[]⟩,
 ⟨.type "dict",.none,.dict #[⟨PySem.PyData.keyHash P "__module__",.str "__module__" 346,.str "markupmill.tree" 334⟩,⟨PySem.PyData.keyHash P "__qualname__",.str "__qualname__" 348,.str "NodeRow" 347⟩,⟨PySem.PyData.keyHash P "__firstlineno__",.str "__firstlineno__" 350,.int 68 349⟩,⟨PySem.PyData.keyHash P "__init__",.str "__init__" 363,.ref 124⟩,⟨PySem.PyData.keyHash P "__static_attributes__",.str "__static_attributes__" 373,.ref 125⟩] 5,#[]⟩,
 ⟨.type "tuple",.none,.seq #[] 0,#[]⟩,
 ⟨.none,.none,.fields #[.int 70 0,.int 4 0,.ref 123],#[]⟩,
 ⟨.type "code",.none,.fields #[.str "NodeRow" 341,.str "NodeRow" 342,.str "/claim/cut.py" 343,.int 68 0,.int 0 0,.int 0 0,.int 0 0,.int 0 0,.ref 114,.bool false,.int 181 0,.ref 115,.none,.none,.none,.none,.int 344 0,.int 68 0,.str "/claim/cut.py" 345],#[]⟩,
 ⟨.type "frame",.none,.plain,#[.some (.ref 116),.some (.ref 3),.some (.ref 113),.none,.some (.str "markupmill.tree" 334),.none,.some (.ref 0)]⟩,
 ko P 118,
 ⟨.none,.none,.fields #[],#[]⟩,
 ko P 120,
 ko P 121,
 tmpl P 124,
 ko P 123,
 ko P 124,
 ko P 125,
 ko P 126,
 ko P 127,
 ko P 128,
 ko P 129,
 ⟨.type "super",.none,.fields #[.ref 127,.ref 127,.ref 127],#[]⟩,
 ⟨.type "builtin_function_or_method",.none,.fields #[.builtin "object.__init_subclass__",.ref 127],#[]⟩,
 ⟨.type "tuple",.none,.seq #[] 0,#[]⟩,
 ⟨.type "builtin_function_or_method",.none,.fields #[.builtin "type.__prepare__",.type "type"],#[]⟩,
 ⟨.type "dict",.none,.dict #[⟨PySem.PyData.keyHash P "__module__",.str "__module__" 388,.str "markupmill.tree" 334⟩,⟨PySem.PyData.keyHash P "__qualname__",.str "__qualname__" 390,.str "Tree" 389⟩,⟨PySem.PyData.keyHash P "__firstlineno__",.str "__firstlineno__" 392,.int 80 391⟩,⟨PySem.PyData.keyHash P "__init__",.str "__init__" 399,.ref 145⟩,⟨PySem.PyData.keyHash P "new_row",.str "new_row" 412,.ref 152⟩,⟨PySem.PyData.keyHash P "row",.str "row" 420,.ref 159⟩,⟨PySem.PyData.keyHash P "new_root",.str "new_root" 427,.ref 166⟩,⟨PySem.PyData.keyHash P "add_child",.str "add_child" 441,.ref 173⟩,⟨PySem.PyData.keyHash P "add_element",.str "add_element" 452,.ref 180⟩,⟨PySem.PyData.keyHash P "add_text",.str "add_text" 461,.ref 187⟩,⟨PySem.PyData.keyHash P "add_comment",.str "add_comment" 470,.ref 194⟩,⟨PySem.PyData.keyHash P "add_instruction",.str "add_instruction" 480,.ref 201⟩,⟨PySem.PyData.keyHash P "element_row",.str "element_row" 489,.ref 208⟩,⟨PySem.PyData.keyHash P "set_attribute",.str "set_attribute" 504,.ref 215⟩,⟨PySem.PyData.keyHash P "add_namespace",.str "add_namespace" 516,.ref 222⟩,⟨PySem.PyData.keyHash P "set_value",.str "set_value" 525,.ref 229⟩,⟨PySem.PyData.keyHash P "kind",.str "kind" 533,.ref 236⟩,⟨PySem.PyData.keyHash P "name",.str "name" 541,.ref 243⟩,⟨PySem.PyData.keyHash P "uri",.str "uri" 549,.ref 250⟩,⟨PySem.PyData.keyHash P "local",.str "local" 557,.ref 257⟩,⟨PySem.PyData.keyHash P "value",.str "value" 565,.ref 264⟩,⟨PySem.PyData.keyHash P "parent",.str "parent" 573,.ref 271⟩,⟨PySem.PyData.keyHash P "children",.str "children" 581,.ref 278⟩,⟨PySem.PyData.keyHash P "attributes",.str "attributes" 589,.ref 285⟩,⟨PySem.PyData.keyHash P "namespaces",.str "namespaces" 597,.ref 292⟩,⟨PySem.PyData.keyHash P "root_of",.str "root_of" 605,.ref 299⟩,⟨PySem.PyData.keyHash P "is_above",.str "is_above" 614,.ref 306⟩,⟨PySem.PyData.keyHash P "attribute_value",.str "attribute_value" 624,.ref 313⟩,⟨PySem.PyData.keyHash P "__static_attributes__",.str "__static_attributes__" 626,.ref 314⟩] 29,#[]⟩,
 ⟨.type "tuple",.none,.seq #[] 0,#[]⟩,
 ⟨.none,.none,.fields #[.int 82 0,.int 4 0,.ref 144,.int 85 0,.int 4 0,.ref 151,.int 89 0,.int 4 0,.ref 158,.int 94 0,.int 4 0,.ref 165,.int 97 0,.int 4 0,.ref 172,.int 105 0,.int 4 0,.ref 179,.int 108 0,.int 4 0,.ref 186,.int 111 0,.int 4 0,.ref 193,.int 114 0,.int 4 0,.ref 200,.int 117 0,.int 4 0,.ref 207,.int 123 0,.int 4 0,.ref 214,.int 135 0,.int 4 0,.ref 221,.int 145 0,.int 4 0,.ref 228,.int 148 0,.int 4 0,.ref 235,.int 151 0,.int 4 0,.ref 242,.int 154 0,.int 4 0,.ref 249,.int 157 0,.int 4 0,.ref 256,.int 160 0,.int 4 0,.ref 263,.int 163 0,.int 4 0,.ref 270,.int 166 0,.int 4 0,.ref 277,.int 169 0,.int 4 0,.ref 284,.int 172 0,.int 4 0,.ref 291,.int 175 0,.int 4 0,.ref 298,.int 178 0,.int 4 0,.ref 305,.int 181 0,.int 4 0,.ref 312],#[]⟩,
 ⟨.type "code",.none,.fields #[.str "Tree" 383,.str "Tree" 384,.str "/claim/cut.py" 385,.int 80 0,.int 0 0,.int 0 0,.int 0 0,.int 0 0,.ref 135,.bool false,.int 181 0,.ref 136,.none,.none,.none,.none,.int 386 0,.int 80 0,.str "/claim/cut.py" 387],#[]⟩,
 ⟨.type "frame",.none,.plain,#[.some (.ref 137),.some (.ref 3),.some (.ref 134),.none,.some (.str "markupmill.tree" 334),.none,.some (.ref 0)]⟩,
 ko P 139,
 ⟨.none,.none,.fields #[],#[]⟩,
 ko P 141,
 ko P 142,
 tmpl P 145,
 ko P 144,
 ko P 145,
 ko P 146,
 ⟨.none,.none,.fields #[],#[]⟩,
 ko P 148,
 ko P 149,
 tmpl P 152,
 ko P 151,
 ko P 152,
 ko P 153,
 ⟨.none,.none,.fields #[],#[]⟩,
 ko P 155,
 ko P 156,
 tmpl P 159,
 ko P 158,
 ko P 159,
 ko P 160,
 ⟨.none,.none,.fields #[],#[]⟩,
 ko P 162,
 ko P 163,
 tmpl P 166,
 ko P 165,
 ko P 166,
 ko P 167,
 ⟨.none,.none,.fields #[],#[]⟩,
 ko P 169,
 ko P 170,
 tmpl P 173,
 ko P 172,
 ko P 173,
 ko P 174,
 ⟨.none,.none,.fields #[],#[]⟩,
 ko P 176,
 ko P 177,
 tmpl P 180,
 ko P 179,
 ko P 180,
 ko P 181,
 ⟨.none,.none,.fields #[],#[]⟩,
 ko P 183,
 ko P 184,
 tmpl P 187,
 ko P 186,
 ko P 187,
 ko P 188,
 ⟨.none,.none,.fields #[],#[]⟩,
 ko P 190,
 ko P 191,
 tmpl P 194,
 ko P 193,
 ko P 194,
 ko P 195,
 ⟨.none,.none,.fields #[],#[]⟩,
 ko P 197,
 ko P 198,
 tmpl P 201,
 ko P 200,
 ko P 201,
 ko P 202,
 ⟨.none,.none,.fields #[],#[]⟩,
 ko P 204,
 ko P 205,
 tmpl P 208,
 ko P 207,
 ko P 208,
 ko P 209,
 ⟨.none,.none,.fields #[],#[]⟩,
 ko P 211,
 ko P 212,
 tmpl P 215,
 ko P 214,
 ko P 215,
 ko P 216,
 ⟨.none,.none,.fields #[],#[]⟩,
 ko P 218,
 ko P 219,
 tmpl P 222,
 ko P 221,
 ko P 222,
 ko P 223,
 ⟨.none,.none,.fields #[],#[]⟩,
 ko P 225,
 ko P 226,
 tmpl P 229,
 ko P 228,
 ko P 229,
 ko P 230,
 ⟨.none,.none,.fields #[],#[]⟩,
 ko P 232,
 ko P 233,
 tmpl P 236,
 ko P 235,
 ko P 236,
 ko P 237,
 ⟨.none,.none,.fields #[],#[]⟩,
 ko P 239,
 ko P 240,
 tmpl P 243,
 ko P 242,
 ko P 243,
 ko P 244,
 ⟨.none,.none,.fields #[],#[]⟩,
 ko P 246,
 ko P 247,
 tmpl P 250,
 ko P 249,
 ko P 250,
 ko P 251,
 ⟨.none,.none,.fields #[],#[]⟩,
 ko P 253,
 ko P 254,
 tmpl P 257,
 ko P 256,
 ko P 257,
 ko P 258,
 ⟨.none,.none,.fields #[],#[]⟩,
 ko P 260,
 ko P 261,
 tmpl P 264,
 ko P 263,
 ko P 264,
 ko P 265,
 ⟨.none,.none,.fields #[],#[]⟩,
 ko P 267,
 ko P 268,
 tmpl P 271,
 ko P 270,
 ko P 271,
 ko P 272,
 ⟨.none,.none,.fields #[],#[]⟩,
 ko P 274,
 ko P 275,
 tmpl P 278,
 ko P 277,
 ko P 278,
 ko P 279,
 ⟨.none,.none,.fields #[],#[]⟩,
 ko P 281,
 ko P 282,
 tmpl P 285,
 ko P 284,
 ko P 285,
 ko P 286,
 ⟨.none,.none,.fields #[],#[]⟩,
 ko P 288,
 ko P 289,
 tmpl P 292,
 ko P 291,
 ko P 292,
 ko P 293,
 ⟨.none,.none,.fields #[],#[]⟩,
 ko P 295,
 ko P 296,
 tmpl P 299,
 ko P 298,
 ko P 299,
 ko P 300,
 ⟨.none,.none,.fields #[],#[]⟩,
 ko P 302,
 ko P 303,
 tmpl P 306,
 ko P 305,
 ko P 306,
 ko P 307,
 ⟨.none,.none,.fields #[],#[]⟩,
 ko P 309,
 ko P 310,
 tmpl P 313,
 ko P 312,
 ko P 313,
 ko P 314,
 ko P 315,
 ko P 316,
 ko P 317,
 ko P 318,
 ⟨.type "super",.none,.fields #[.ref 316,.ref 316,.ref 316],#[]⟩,
 ⟨.type "builtin_function_or_method",.none,.fields #[.builtin "object.__init_subclass__",.ref 316],#[]⟩,
 ko P 321,
 ⟨.none,.none,.fields #[],#[]⟩,
 ko P 323,
 ko P 324,
 tmpl P 327,
 ko P 326,
 ko P 327,
 ko P 328,
 ⟨.none,.none,.fields #[],#[]⟩,
 ko P 330,
 ko P 331,
 tmpl P 334,
 ko P 333,
 ko P 334,
 ko P 335,
 ⟨.none,.none,.fields #[],#[]⟩,
 ko P 337,
 ko P 338,
 tmpl P 341,
 ko P 340,
 ko P 341,
 ko P 342,
 ⟨.none,.none,.fields #[],#[]⟩,
 ko P 344,
 ko P 345,
 tmpl P 348,
 ko P 347,
 ko P 348,
 ko P 349,
 ⟨.none,.none,.fields #[],#[]⟩,
 ko P 351,
 ko P 352,
 tmpl P 355,
 ko P 354,
 ko P 355,
 ko P 356,
 ⟨.none,.none,.fields #[],#[]⟩,
 tmpl P 360,
 ko P 359,
 ko P 360,
 ko P 361,
 ⟨.none,.none,.fields #[],#[]⟩,
 ko P 363,
 ko P 364,
 tmpl P 367,
 ko P 366,
 ko P 367,
 ko P 368,
 ⟨.none,.none,.fields #[],#[]⟩,
 tmpl P 372,
 ko P 371,
 ko P 372,
 ko P 373,
 ⟨.none,.none,.fields #[],#[]⟩,
 tmpl P 377,
 ko P 376,
 ko P 377]⟩, {}⟩
noncomputable abbrev prg : Program := PySem.Challenge.rw_xw0214_01.row.prog
noncomputable def hd.view_39 : Program := view prg [0, 1, 3, 4, 5, 6, 7, 8, 9, 10, 11, 13, 14, 15, 16, 18, 19, 21, 22, 23, 25, 26, 27, 28, 29, 30, 31, 32, 33]
noncomputable def env0 : Env := { scope := prg.main.scope, locals := mainNs, globals := mainNs, cells := [], code := .ref 13, frame := some 14 }
noncomputable abbrev beh : List Stmt := behindTheImports prg
noncomputable abbrev pos0 : Pos := ⟨0, 0, 0, 0⟩
noncomputable abbrev pos1 : Pos := ⟨236, 0, 259, 15⟩
theorem seg_of_map {tb : String → Option Builtin} {p : Program} {w : World} {n₀ : Nat} {ann : Option Value} {b n : Nat} {s : SharedT} {t : Thread} {f : Flow} {S : Shared} {c : Code} {q : Pos}
    (h : (segRunT tb p w n₀ ann b n s t).map (fun r => (r.1, r.2.1.abs, r.2.2.1, r.2.2.2)) = some (f, S, c, q)) : segRun tb p w n₀ ann b n s.abs t = some (f, S, c, q) := by
  obtain ⟨⟨f', s', c', q'⟩, e, e'⟩ := Option.map_eq_some_iff.mp h
  obtain ⟨rfl, rfl, rfl, rfl⟩ : f' = f ∧ s'.abs = S ∧ c' = c ∧ q' = q := by simpa using e'
  exact segRun_of e
set_option maxHeartbeats 8000000
theorem h_pre (w : World) (os : OsState) : topGo treeTable prg w 11 (some (.ref 6)) 12 ⟨boot_heap w.params, Array.mk [], boot_drawn, boot_toks, os⟩ (topStub prg) =
    some (⟨heapA w.params, Array.mk [], {}, 187, os⟩, ⟨denote treeTable (.body beh env0), .body beh env0, pos0, [topFrame pos0]⟩) := by kernel_rfl
theorem h_block (w : World) (os : OsState) : segRun treeTable prg w 11 (some (.ref 6)) 1 1 ⟨heapA w.params, Array.mk [], {}, 187, os⟩ (blockOf beh env0 (.body beh env0) pos0 [topFrame pos0]) =
    some (.next, ⟨heapA w.params, Array.mk [], {}, 187, os⟩, .body beh env0, pos0) := by kernel_rfl
theorem h_abs (w : World) (os : OsState) : (SharedT.abs ⟨treeA w.params, 15, {}, Array.mk [], {}, 187, os⟩) = ⟨heapA w.params, Array.mk [], {}, 187, os⟩ := by kernel_rfl
noncomputable abbrev sts1 : List Stmt := beh.take 23
noncomputable abbrev sts2 : List Stmt := (beh.drop 23).take 1
noncomputable abbrev sts3 : List Stmt := beh.drop 24
noncomputable abbrev posB : Pos := ⟨68, 0, 79, 28⟩
noncomputable abbrev posC : Pos := ⟨80, 0, 182, 16⟩
theorem h_cut : sts1 ++ (sts2 ++ (sts3 ++ [])) = beh := by kernel_rfl
theorem h_run1 (w : World) (os : OsState) : segRunT treeTable prg w 11 (some (.ref 6)) 1 1064 ⟨treeA w.params, 15, {}, Array.mk [], {}, 187, os⟩ (piecesOf sts1 env0 (.body beh env0) pos0 [topFrame pos0]) =
    some (.next, ⟨treeB w.params, 132, {}, Array.mk [], {}, 381, os⟩, .body beh env0, posB) := by
  rewrite [PySem.W.Fast.te10110043849684766642, PySem.W.Fast.te14364793385576792824]
  kernel_rfl
theorem h_run2 (w : World) (os : OsState) : segRunT treeTable prg w 11 (some (.ref 6)) 1 1023 ⟨treeB w.params, 132, {}, Array.mk [], {}, 381, os⟩ (piecesOf sts2 env0 (.body beh env0) posB [topFrame pos0]) =
    some (.next, ⟨treeC w.params, 321, {}, Array.mk [], {}, 634, os⟩, .body beh env0, posC) := by
  rewrite [PySem.W.Fast.te10110043849684766642, PySem.W.Fast.te14364793385576792824]
  kernel_rfl
theorem h_run3 (w : World) (os : OsState) : (segRunT treeTable prg w 11 (some (.ref 6)) 1 279 ⟨treeC w.params, 321, {}, Array.mk [], {}, 634, os⟩ (piecesOf sts3 env0 (.body beh env0) posC [topFrame pos0])).map (fun r => (r.1, r.2.1.abs, r.2.2.1, r.2.2.2)) =
    some (.next, ⟨heapE w.params, Array.mk [], {}, 713, os⟩, .body beh env0, pos1) := by
  rewrite [PySem.W.Fast.te10110043849684766642, PySem.W.Fast.te14364793385576792824]
  kernel_rfl
theorem h_fin (w : World) (os : OsState) : topRun treeTable prg w 11 (some (.ref 6)) 2 ⟨heapE w.params, Array.mk [], {}, 713, os⟩ ⟨doneF .next, .body beh env0, pos1, [topFrame pos0]⟩ =
    some ⟨heapE w.params, Array.mk [], {}, 713, os⟩ := by kernel_rfl
theorem h_top (w : World) (os : OsState) : topRun treeTable prg w 11 (some (.ref 6)) (12 + (1 + (1064 + (1023 + (279 + 2))))) ⟨boot_heap w.params, Array.mk [], boot_drawn, boot_toks, os⟩ (topStub prg) =
    some ⟨heapE w.params, Array.mk [], {}, 713, os⟩ := by
  refine go_top (h_pre w os) (piece_block (h_block w os) ?_)
  have h := piece_app (segRun_of (h_run1 w os)) (piece_app (segRun_of (h_run2 w os)) (piece_app (rest := []) (seg_of_map (h_run3 w os)) (piece_nil (h_fin w os))))
  rw [h_cut, h_abs] at h
  exact h
noncomputable abbrev Xt (s : Shared) : Bool := xlAt hd.view_39 [] s && recOk (RowW.records PySem.Challenge.rw_xw0214_01.row.toRowW) s
theorem kas_eq (P : Params) : kas = (hd.heap_39 P).map (·.1) := by kernel_rfl
theorem h_size (w : World) : ((boot_heap w.params).isNs mainGlobals && (Array.mk [] : Array GenState).size == 0, (boot_heap w.params).objs.size, (boot_heap w.params).nsMap mainGlobals "__annotations__") = (true, 11, some (.ref 6)) := by kernel_rfl

theorem h_stat (w : World) (os : OsState) : (staticsOk (importedModules prg.main.body) (boot_heap w.params) (heapE w.params) && namesBound prg (heapE w.params) && gensDone ⟨heapE w.params, Array.mk [], {}, 713, os⟩ && laidKept (boot_heap w.params) (heapE w.params)) = true := by
  repeat' with_reducible refine look_both ?_ ?_
  all_goals kernel_rfl
theorem h_seen (w : World) (os : OsState) : openSeen hd.view_39 [] (importedModules prg.main.body) Xt true ⟨heapE w.params, Array.mk [], {}, 713, os⟩ = openGood hd.view_39 [] := by
  unfold openSeen openGood
  repeat' with_reducible refine looks_pair ?_ ?_
  all_goals kernel_rfl
theorem h_val (w : World) (os : OsState) : (kmHook hd.heap_39 kas kas_eq [369]).obs ⟨heapE w.params, Array.mk [], {}, 713, os⟩ = (kmHook hd.heap_39 kas kas_eq [369]).val w := by kernel_rfl
theorem h_looks (w : World) : (fun os => ((staticsOk (importedModules prg.main.body) (boot_heap w.params) (heapE w.params) && namesBound prg (heapE w.params) && gensDone ⟨heapE w.params, Array.mk [], {}, 713, os⟩ && laidKept (boot_heap w.params) (heapE w.params)),
        openSeen hd.view_39 [] (importedModules prg.main.body) Xt true ⟨heapE w.params, Array.mk [], {}, 713, os⟩, (kmHook hd.heap_39 kas kas_eq [369]).obs ⟨heapE w.params, Array.mk [], {}, 713, os⟩)) =
      fun _ => (true, openGood hd.view_39 [], (kmHook hd.heap_39 kas kas_eq [369]).val w) := funext fun os => looks_pair (h_stat w os) (looks_pair (h_seen w os) (h_val w os))
theorem h_open : opening prg = plainProg prg.main.scope.names := by kernel_rfl
theorem h_fence (s : Shared) : fenceModules? prg s = some s := by kernel_rfl
theorem h_left : LeftO prg hd.view_39 [] Xt (kmHook hd.heap_39 kas kas_eq [369]).obs (kmHook hd.heap_39 kas kas_eq [369]).val 4846 :=
  LeftO.of_pieces (boot_open h_open (by decide +kernel) h_fence) h_size h_top (by decide +kernel) h_looks
theorem h_row : PySem.Challenge.rw_xw0214_01.row.wellSaid = true := by
  unfold OpenRow.wellSaid OpenRow.partSaid looksOpen
  repeat' with_reducible refine look_both ?_ ?_
  all_goals decide +kernel
theorem h_said : PySem.Challenge.rw_xw0214_01.wellSaid = true := by
  unfold OpenLaw.wellSaid
  repeat' with_reducible refine look_both ?_ ?_
  all_goals first | with_reducible exact h_row | decide +kernel
end Mine
namespace Mine
theorem fillx50 : PySem.Challenge.rw_xw0214_01 = PySem.Challenge.rw_xw0214_01 ∧ hd.heap_39 = hd.heap_39 := by k_fill; exact ⟨rfl, rfl⟩
end Mine
namespace Mine
noncomputable abbrev LS : List Str := looseW hd.view_39 [] ++ List.map (fun x => x.name) (recsOf hd.view_39) ++ List.map (fun x => x.fst) (litsOf hd.view_39) ++ List.map (fun x => x.name) (clssOf hd.view_39 (looseW hd.view_39 []))

/-- where a contract starts: the top's heap H is kept, there is room -/
structure St (n : Nat) (w : World) (A : Around) (h H : Heap) : Prop where
  XH : (hd.heap_39 w.params).In H
  TH : ∃ mean mg mb, Top topProg LS mean mg mb H
  W : H.StaysIn h
  dp : A.depth ≤ n
  un : A.units ≤ 10 * n
  hh : A.handled = none

theorem St.to {n n' : Nat} {w : World} {A A' : Around} {h h' g H : Heap} {L : Addr} {m : Str → Option Value} (S : St n w A h H) (HG : H.StaysIn g) (F : Fr g L h' m) (hd : A'.depth ≤ n') (hu : A'.units ≤ 10 * n') (hh : A'.handled = none) : St n' w A' h' H :=
  ⟨S.XH, S.TH, fun b o e => F.keep b o (HG b o e), hd, hu, hh⟩
theorem St.room {n : Nat} {w : World} {A : Around} {h H : Heap} (S : St n w A h H) (hn : n ≤ 900) : A.depth < recursionLimit := by
  have := S.dp
  have : recursionLimit = 1000 := rfl
  omega

theorem enter {n : Nat} {prog : Program} {w : World} {A : Around} {s : Shared} {R : Result → Shared → Prop} {name qual : Str} {params : Arguments} {body : List Stmt} {scope : Scope} {dV kV doc pm cdv ct oc : Value} {an od : Option Addr} {osl : Array (Option Value)} {f : Addr} {args : Args}
    {H : Heap} (hid : List (Addr × Obj)) (binds : List (Str × Value)) (S : St n w A s.heap H) (hn : n ≤ 900) (hh : ∀ q ∈ hid, s.heap.get? q.1 = some q.2 ∧ H.get? q.1 = none)
    (ho : (hd.heap_39 w.params).lookup f = some ⟨oc, od, .func (fnOf name qual params body scope dV kV doc pm an cdv ct), osl⟩) (hcd : codeIn (hd.heap_39 w.params) cdv qual = true)
    (hbind : BindsTo s (fnOf name qual params body scope dV kV doc pm an cdv ct) args binds) (hloc : ∀ y ∈ binds, scope.names.lookup y.1 = some .local)
    (h : ∀ g L h₁ mean mg mb, (∀ b o, s.heap.get? b = some o → b ∉ hid.map (·.1) → g.get? b = some o) → (∀ b o, g.get? b = some o → s.heap.get? b = some o) → (∀ b o, s.heap.get? b = some o → b ≠ L) →
      Fr g L h₁ (fun y => binds.reverse.lookup y) → News g L h₁ hid → (hd.heap_39 w.params).In g → Top topProg LS mean mg mb g → H.StaysIn g →
      wpAny (model prog w) (A.deeper (envOf qual scope L f cdv)) (execs body (envOf qual scope L f cdv))
        (fun fl s' => R (.ok (.ret (match fl with | .ret v => v | _ => .none))) s')
        (fun e s' => wpAny (model prog w) (A.deeper (envOf qual scope L f cdv)) (leaving (envOf qual scope L f cdv) e) (fun _ s'' => R (.error e) s'') (fun e' s'' => R (.error e') s'') s')
        { s with heap := h₁, toks := s.toks + binds.length })
    (hco : scope.isCoroutine = false) (hgen : scope.isGenerator = false) (hk : scope.kind = .function) (hcell : ∀ x ∈ scope.names, x.2 ≠ .cell) :
    codeAny (model prog w) A (.call (.ref f) args) R s := by
  obtain ⟨mean, mg, mb, TH⟩ := S.TH
  have XS : (hd.heap_39 w.params).In s.heap := S.XH.keeps S.W
  have st : H.StaysIn (hideAll s.heap (hid.map (·.1))) := fun b o e => hideAll_get _ (S.W b o e) fun q => by
    obtain ⟨x, hx, rfl⟩ := List.mem_map.mp q
    rw [(hh x hx).2] at e; cases e
  have KG := S.XH.keeps st
  have TG := TH.keeps st
  refine codeAny_call_def (fd := fnOf name qual params body scope dV kV doc pm an cdv ct) (body := body) (binds := binds) (S.room hn) (XS _ _ ho) rfl (TH.nolimit.keeps S.W) (codeRec_of XS hcd) rfl hbind hcell hloc (fun h₁ hns hk₁ => ?_) hco hgen hk
  refine h (hideAll s.heap (hid.map (·.1))) s.heap.objs.size h₁ mean mg mb (fun b o e n => hideAll_get _ e n) (fun b o e => of_hideAll _ e) (fun b o e => Nat.ne_of_lt (Heap.lt_size e))
    ⟨hns, fun b o e => hk₁ b o (of_hideAll _ e), Nat.le_of_eq (hideAll_size _ _)⟩
    (fun q hq => ⟨hk₁ _ _ (hh q hq).1, Nat.ne_of_lt (Heap.lt_size (hh q hq).1), hideAll_none _ (List.mem_map_of_mem hq)⟩) KG TG st

/-- what a call leaves: every object but those at the named addresses is as it was -/
noncomputable def Keep (mods : List Addr) (h h' : Heap) : Prop := ∀ b o, h.get? b = some o → b ∉ mods → h'.get? b = some o
theorem Keep.refl (mods : List Addr) (h : Heap) : Keep mods h h := fun _ _ e _ => e
theorem Keep.nil {h h' : Heap} (k : Keep [] h h') : h.StaysIn h' := fun b o e => k b o e (by simp)
theorem Keep.trans {m1 m2 : List Addr} {h h' h'' : Heap} (k : Keep m1 h h') (k' : Keep m2 h' h'') : Keep (m1 ++ m2) h h'' := fun b o e n => k' b o (k b o e fun q => n (List.mem_append_left _ q)) fun q => n (List.mem_append_right _ q)
theorem fr_back {g h h' : Heap} {L : Addr} {m : Str → Option Value} {mods : List Addr} (F : Fr g L h m) (k : Keep mods h h') (hm : ∀ b ∈ mods, g.get? b = none ∧ b ≠ L) : Fr g L h' m := by
  obtain ⟨o, es, ep, ho, r⟩ := F.ns
  refine ⟨⟨o, es, ep, k L o ho fun q => (hm L q).2 rfl, r⟩, fun b x e => k b x (F.keep b x e) fun q => ?_, F.above⟩
  rw [(hm b q).1] at e
  cases e
theorem fr_stay {g h h' : Heap} {L : Addr} {m : Str → Option Value} (F : Fr g L h m) (k : Keep [] h h') : Fr g L h' m := fr_back F k (by simp)
theorem news_back {g h h' : Heap} {L : Addr} {news : List (Addr × Obj)} {mods : List Addr} (N : News g L h news) (k : Keep mods h h') (hm : ∀ p ∈ news, p.1 ∉ mods) : News g L h' news :=
  fun p hp => ⟨k _ _ (N p hp).1 (hm p hp), (N p hp).2⟩
theorem news_stay {g h h' : Heap} {L : Addr} {news : List (Addr × Obj)} (N : News g L h news) (k : Keep [] h h') : News g L h' news := news_back N k (by simp)
theorem keep_of_fr {g h h' : Heap} {L : Addr} {m : Str → Option Value} {mods : List Addr} (up : ∀ b o, h.get? b = some o → b ∉ mods → g.get? b = some o) (F : Fr g L h' m) : Keep mods h h' := fun b o e n => F.keep b o (up b o e n)
theorem inst_base {g h : Heap} {L x C dx : Addr} {m : Str → Option Value} {od : Obj} (F : Fr g L h m) (a : g.get? x = some (instObj C dx)) (b : g.get? dx = some od) : InstAt h x (instObj C dx) C (some od) := ⟨F.keep _ _ a, rfl, rfl, F.keep _ _ b⟩

mutual
/-- a value and the data that it stands for: strings and plain tuples -/
inductive Rd (h : Heap) : Value → PyData → Prop
  | str {x : Str} {t : Tok} : Rd h (.str x t) (.str x)
  | tup {a : Addr} {vs : List Value} {ds : List PyData} {n : Nat} : h.get? a = some { cls := .type "tuple", data := .seq vs.toArray n } → RdA h vs ds → Rd h (.ref a) (.tuple ds)
inductive RdA (h : Heap) : List Value → List PyData → Prop
  | nil : RdA h [] []
  | cons {v : Value} {d : PyData} {vs : List Value} {ds : List PyData} : Rd h v d → RdA h vs ds → RdA h (v :: vs) (d :: ds)
end
mutual
theorem Rd.up {h h' : Heap} {v : Value} {d : PyData} (k : h.StaysIn h') : Rd h v d → Rd h' v d
  | .str => .str
  | .tup e r => .tup (k _ _ e) (r.up k)
theorem RdA.up {h h' : Heap} {vs : List Value} {ds : List PyData} (k : h.StaysIn h') : RdA h vs ds → RdA h' vs ds
  | .nil => .nil
  | .cons a b => .cons (a.up k) (b.up k)
end
mutual
theorem Rd.reads {h : Heap} {v : Value} {d : PyData} : Rd h v d → Reads h v d []
  | .str => Reads.str _ _
  | .tup e r => reads_tuple_at e rfl rfl (by simpa using r.reads)
theorem RdA.reads {h : Heap} {vs : List Value} {ds : List PyData} : RdA h vs ds → ReadsAll h vs ds []
  | .nil => ReadsAll.nil
  | .cons a b => ReadsAll.cons (as := []) (bs := []) a.reads b.reads
end
theorem RdA.length {h : Heap} : ∀ {vs : List Value} {ds : List PyData}, RdA h vs ds → vs.length = ds.length
  | _, _, .nil => rfl
  | _, _, .cons _ b => by simp [b.length]
theorem RdA.get {h : Heap} : ∀ {vs : List Value} {ds : List PyData}, RdA h vs ds → ∀ (i : Nat) (v : Value) (d : PyData), vs[i]? = some v → ds[i]? = some d → Rd h v d
  | _, _, .nil, i, v, d, a, _ => by simp at a
  | _, _, .cons x _, 0, v, d, a, b => by simp at a b; subst a b; exact x
  | _, _, .cons _ y, i + 1, v, d, a, b => y.get i v d (by simpa using a) (by simpa using b)

structure TRef where
  t : Addr
  d : Addr
  l : Addr
  hs : Int
  tk : Tok
  k : Nat
structure RRef where
  r : Addr
  d : Addr
  c : Addr
  a : Addr
  n : Addr
  hs : Nat → Int
  tk : Nat → Tok
  vt : Nat → Tok
  k : Nat
  pa : Value
structure NRow where
  kind : Str
  name : Str
  uri : Str
  loc : Str
  value : Str
  ch : List Value
  at_ : List Value
  ns : List Value
noncomputable abbrev treeEs (T : TRef) : List DictEntry := [⟨T.hs, .str (Str.ofString "rows") T.tk, .ref T.l⟩]
noncomputable abbrev rowEs (x : RRef) (d : NRow) : List DictEntry := [⟨x.hs 0, .str (Str.ofString "kind") (x.tk 0), .str d.kind (x.vt 0)⟩, ⟨x.hs 1, .str (Str.ofString "name") (x.tk 1), .str d.name (x.vt 1)⟩, ⟨x.hs 2, .str (Str.ofString "uri") (x.tk 2), .str d.uri (x.vt 2)⟩,
  ⟨x.hs 3, .str (Str.ofString "local") (x.tk 3), .str d.loc (x.vt 3)⟩, ⟨x.hs 4, .str (Str.ofString "value") (x.tk 4), .str d.value (x.vt 4)⟩, ⟨x.hs 5, .str (Str.ofString "parent") (x.tk 5), x.pa⟩,
  ⟨x.hs 6, .str (Str.ofString "children") (x.tk 6), .ref x.c⟩, ⟨x.hs 7, .str (Str.ofString "attributes") (x.tk 7), .ref x.a⟩, ⟨x.hs 8, .str (Str.ofString "namespaces") (x.tk 8), .ref x.n⟩]
structure RowAt (h : Heap) (x : RRef) (d : NRow) : Prop where
  inst : h.get? x.r = some (instObj 127 x.d)
  dict : h.get? x.d = some (dictOf (rowEs x d) x.k)
  ch : ∃ e, h.get? x.c = some (listOf d.ch.toArray e)
  at_ : ∃ e, h.get? x.a = some (listOf d.at_.toArray e)
  ns : ∃ e, h.get? x.n = some (listOf d.ns.toArray e)
  short : d.ch.length ≤ 1000 ∧ d.at_.length ≤ 1000 ∧ d.ns.length ≤ 1000
noncomputable def RRef.lists (x : RRef) : List Addr := [x.c, x.a, x.n]
noncomputable def lists (T : TRef) (xs : List RRef) : List Addr := T.l :: xs.flatMap RRef.lists
structure TreeAt (h : Heap) (T : TRef) (xs : List RRef) (ds : List NRow) : Prop where
  inst : h.get? T.t = some (instObj 316 T.d)
  dict : h.get? T.d = some (dictOf (treeEs T) T.k)
  rows : ∃ e, h.get? T.l = some (listOf (xs.map fun x => Value.ref x.r).toArray e)
  len : xs.length = ds.length
  all : ∀ (i : Nat) (x : RRef) (d : NRow), xs[i]? = some x → ds[i]? = some d → RowAt h x d
  nodup : (lists T xs).Nodup
  short : xs.length ≤ 1000
theorem RowAt.up {h h' : Heap} {x : RRef} {d : NRow} (k : h.StaysIn h') (r : RowAt h x d) : RowAt h' x d :=
  ⟨k _ _ r.inst, k _ _ r.dict, let ⟨e, q⟩ := r.ch; ⟨e, k _ _ q⟩, let ⟨e, q⟩ := r.at_; ⟨e, k _ _ q⟩, let ⟨e, q⟩ := r.ns; ⟨e, k _ _ q⟩, r.short⟩
theorem TreeAt.up {h h' : Heap} {T : TRef} {xs : List RRef} {ds : List NRow} (k : h.StaysIn h') (t : TreeAt h T xs ds) : TreeAt h' T xs ds :=
  ⟨k _ _ t.inst, k _ _ t.dict, let ⟨e, q⟩ := t.rows; ⟨e, k _ _ q⟩, t.len, fun i x d a b => (t.all i x d a b).up k, t.nodup, t.short⟩

theorem St.deep {n n' : Nat} {w : World} {A : Around} {env : Env} {h h' g H : Heap} {L : Addr} {m : Str → Option Value} (S : St n w A h H) (HG : H.StaysIn g) (F : Fr g L h' m) (hn : n + 1 ≤ n') : St n' w (A.deeper env) h' H :=
  S.to HG F (by have := S.dp; show A.depth + 1 ≤ n'; omega) (by have := S.un; show A.units + 3 ≤ 10 * n'; omega) S.hh
theorem none_of_up {g h : Heap} {b : Addr} (up : ∀ (b : Addr) (o : Obj), h.get? b = some o → b ∉ ([] : List (Addr × Obj)).map (·.1) → g.get? b = some o) (e : g.get? b = none) : h.get? b = none := by
  cases q : h.get? b with
  | none => rfl
  | some o => rw [up b o q (by simp)] at e; cases e
theorem line_of {n : Nat} (h : n ≤ 1000) : n ≤ sizeLine := Nat.le_trans h (by decide)
theorem item_list {prog : Program} {w : World} {A : Around} {E : Value → Shared → Prop} {s : Shared} {g : Heap} {L l : Addr} {m : Str → Option Value} {value slice : PySem.Expr} {vs : Array Value} {k : Int} {u : Tok} {v : Value} {Q : Value → Shared → Prop}
    (F : Fr g L s.heap m) (hl : g.IsList l vs) (h0 : 0 ≤ k) (hhi : k < 2 ^ 63) (hx : vs[k.toNat]? = some v) (h : Q v s)
    (hs : subscripted slice false (.ref l) (.int k u) = operate [.ref l, .int k u] (getItem (.ref l) (.int k u)) := by with_unfolding_all rfl) :
    wpAny (model prog w) A (subscriptTail value slice (.ref l) (.int k u)) Q E s :=
  have hL : s.heap.IsList l vs := hl.at fun o e => F.keep _ o e
  tail_any hL.typeIs slot_list_getitem.lookup (wpAny_getItem_list hL h0 hhi hx h) hs
end Mine
namespace Mine
local macro_rules | `(tactic| k_inst) => `(tactic| (refine' inst_base ?F ?a ?b; (case F => k_asm); (case a => assumption); (case b => assumption)))
local macro_rules | `(tactic| walk_at "subscriptTail") => `(tactic| (k_here; (with_reducible show wpAny _ _ (subscriptTail _ _ (Value.ref _) (Value.int _ _)) _ _ _); (with_unfolding_all refine' item_list ?F ?l ?a ?b ?c ?_ ?d; (case F => k_asm); (case l => assumption); (case a => omega); (case b => omega); (case c => assumption); (case d => with_unfolding_all rfl); k_whole)))
section
variable {prog : Program} {w : World} {A : Around} {s : Shared} {H : Heap} {Q : Value → Shared → Prop} {E : Value → Shared → Prop} {T : TRef} {xs : List RRef} {ds : List NRow}
set_option maxHeartbeats 8000000 in
theorem row_c {i : Int} {ti : Tok} {x : RRef} (S : St 600 w A s.heap H) (t : TreeAt s.heap T xs ds) (h0 : 0 ≤ i) (hx : xs[i.toNat]? = some x)
    (q : ∀ h' tk', Keep [] s.heap h' → Q (.ref x.r) { s with heap := h', toks := tk' }) :
    wpAny (model prog w) A (call (.ref 159) [.ref T.t, .int i ti]) Q E s := by
  have hlt : i.toNat < xs.length := (List.getElem?_eq_some_iff.mp hx).1
  have hs := t.short
  obtain ⟨e, h3⟩ := t.rows
  refine wpAny_call ?_
  refine' enter [] [(Str.ofString "self", .ref T.t), (Str.ofString "node", .int i ti)] S (by omega) (by simp) ?ho ?hcd ?hbind ?hloc ?h ?hco ?hgen ?hk ?hcell
  case ho => k_is
  case hcd => k_is
  case hbind => exact BindsTo.of_eq rfl
  case hloc => exact locs rfl
  case hco => exact rfl
  case hgen => exact rfl
  case hk => exact rfl
  case hcell => decide
  intro g L h₁ mean mg mb up dn nL F N X Tp HG
  have g1 := up _ _ t.inst (by simp)
  have g2 := up _ _ t.dict (by simp)
  have g3 : g.IsList T.l (xs.map fun x => Value.ref x.r).toArray := ⟨_, up _ _ h3 (by simp), rfl, _, rfl⟩
  have hx' : (xs.map fun x => Value.ref x.r).toArray[i.toNat]? = some (Value.ref x.r) := by simp [hx]
  have hz : ((xs.map fun x => Value.ref x.r).toArray.size : Int) ≤ 1000 := by simp; omega
  have hi : i < ((xs.map fun x => Value.ref x.r).toArray.size : Int) := by simp; omega
  clear h3 hs hlt hx
  generalize (xs.map fun x => Value.ref x.r).toArray = items at g3 hx' hz hi
  dsimp only
  k_steps
  all_goals (first | exact q _ _ (keep_of_fr up (by assumption)) | skip)
  all_goals w_report
end
end Mine
namespace Mine
local macro_rules | `(tactic| k_inst) => `(tactic| (refine' inst_base ?F ?a ?b; (case F => k_asm); (case a => assumption); (case b => assumption)))
local macro_rules | `(tactic| walk_at "m st") => `(tactic| (refine' St.deep ?S ?G ?F ?n; (case S => assumption); (case G => assumption); (case F => k_asm); (case n => omega)))
local macro_rules | `(tactic| walk_at "m tree") => `(tactic| (refine' TreeAt.up (Fr.keep ?F) ?t; (case F => k_asm); (case t => assumption)))
local macro_rules | `(tactic| walk_at "call ref") => `(tactic| (k_here; (with_reducible show wpAny _ _ (call (Value.ref 159) _ _) _ _ _); (refine' row_c ?S ?t ?a ?b ?_; (case S => walk_at "m st"); (case t => walk_at "m tree"); (case a => omega); (case b => assumption)); intro h' tk' k'; (have F' := fr_stay (by k_asm) k'); (have N' := news_stay (by k_asm) k'); k_sweep))
local macro_rules | `(tactic| walk_at "call type:list") => `(tactic| (k_here; (with_reducible show wpAny _ _ (call (Value.type _) [Value.ref _]) _ _ _); (with_unfolding_all refine' list_copyK ?k1 ?k2 ?k3 ?_ ?z; (case k1 => k_asm); (case k2 => k_asm); (case k3 => is_list); (case z => exact line_of (by assumption)); k_whole); intro D' c' h' F' N' l1; (try k_lt l1); (try k_sweep)))
section
variable {prog : Program} {w : World} {A : Around} {s : Shared} {H : Heap} {Q : Value → Shared → Prop} {E : Value → Shared → Prop} {T : TRef} {xs : List RRef} {ds : List NRow}
set_option maxHeartbeats 8000000 in
theorem kind_c {i : Int} {ti : Tok} {d : NRow} (S : St 590 w A s.heap H) (t : TreeAt s.heap T xs ds) (h0 : 0 ≤ i) (hd : ds[i.toNat]? = some d)
    (q : ∀ h' tk' u, Keep [] s.heap h' → Q (.str d.kind u) { s with heap := h', toks := tk' }) :
    wpAny (model prog w) A (call (.ref 236) [.ref T.t, .int i ti]) Q E s := by
  obtain ⟨x, hx⟩ : ∃ x, xs[i.toNat]? = some x := ⟨_, List.getElem?_eq_getElem (t.len ▸ (List.getElem?_eq_some_iff.mp hd).1)⟩
  have r := t.all _ _ _ hx hd
  refine wpAny_call ?_
  refine' enter [] [(Str.ofString "self", .ref T.t), (Str.ofString "node", .int i ti)] S (by omega) (by simp) ?ho ?hcd ?hbind ?hloc ?h ?hco ?hgen ?hk ?hcell
  case ho => k_is
  case hcd => k_is
  case hbind => exact BindsTo.of_eq rfl
  case hloc => exact locs rfl
  case hco => exact rfl
  case hgen => exact rfl
  case hk => exact rfl
  case hcell => decide
  intro g L h₁ mean mg mb up dn nL F N X Tp HG
  have tg : TreeAt g T xs ds := t.up fun b o e => up b o e (by simp)
  have rg : RowAt g x d := r.up fun b o e => up b o e (by simp)
  have g1 := tg.inst
  have g2 := tg.dict
  have g4 := rg.inst
  have g5 := rg.dict
  clear t r
  dsimp only
  k_steps
  all_goals (first | exact q _ _ _ (keep_of_fr up (by assumption)) | skip)
  all_goals w_report
set_option maxHeartbeats 8000000 in
theorem name_c {i : Int} {ti : Tok} {d : NRow} (S : St 590 w A s.heap H) (t : TreeAt s.heap T xs ds) (h0 : 0 ≤ i) (hd : ds[i.toNat]? = some d)
    (q : ∀ h' tk' u, Keep [] s.heap h' → Q (.str d.name u) { s with heap := h', toks := tk' }) :
    wpAny (model prog w) A (call (.ref 243) [.ref T.t, .int i ti]) Q E s := by
  obtain ⟨x, hx⟩ : ∃ x, xs[i.toNat]? = some x := ⟨_, List.getElem?_eq_getElem (t.len ▸ (List.getElem?_eq_some_iff.mp hd).1)⟩
  have r := t.all _ _ _ hx hd
  refine wpAny_call ?_
  refine' enter [] [(Str.ofString "self", .ref T.t), (Str.ofString "node", .int i ti)] S (by omega) (by simp) ?ho ?hcd ?hbind ?hloc ?h ?hco ?hgen ?hk ?hcell
  case ho => k_is
  case hcd => k_is
  case hbind => exact BindsTo.of_eq rfl
  case hloc => exact locs rfl
  case hco => exact rfl
  case hgen => exact rfl
  case hk => exact rfl
  case hcell => decide
  intro g L h₁ mean mg mb up dn nL F N X Tp HG
  have tg : TreeAt g T xs ds := t.up fun b o e => up b o e (by simp)
  have rg : RowAt g x d := r.up fun b o e => up b o e (by simp)
  have g1 := tg.inst
  have g2 := tg.dict
  have g4 := rg.inst
  have g5 := rg.dict
  clear t r
  dsimp only
  k_steps
  all_goals (first | exact q _ _ _ (keep_of_fr up (by assumption)) | skip)
  all_goals w_report
set_option maxHeartbeats 8000000 in
theorem uri_c {i : Int} {ti : Tok} {d : NRow} (S : St 590 w A s.heap H) (t : TreeAt s.heap T xs ds) (h0 : 0 ≤ i) (hd : ds[i.toNat]? = some d)
    (q : ∀ h' tk' u, Keep [] s.heap h' → Q (.str d.uri u) { s with heap := h', toks := tk' }) :
    wpAny (model prog w) A (call (.ref 250) [.ref T.t, .int i ti]) Q E s := by
  obtain ⟨x, hx⟩ : ∃ x, xs[i.toNat]? = some x := ⟨_, List.getElem?_eq_getElem (t.len ▸ (List.getElem?_eq_some_iff.mp hd).1)⟩
  have r := t.all _ _ _ hx hd
  refine wpAny_call ?_
  refine' enter [] [(Str.ofString "self", .ref T.t), (Str.ofString "node", .int i ti)] S (by omega) (by simp) ?ho ?hcd ?hbind ?hloc ?h ?hco ?hgen ?hk ?hcell
  case ho => k_is
  case hcd => k_is
  case hbind => exact BindsTo.of_eq rfl
  case hloc => exact locs rfl
  case hco => exact rfl
  case hgen => exact rfl
  case hk => exact rfl
  case hcell => decide
  intro g L h₁ mean mg mb up dn nL F N X Tp HG
  have tg : TreeAt g T xs ds := t.up fun b o e => up b o e (by simp)
  have rg : RowAt g x d := r.up fun b o e => up b o e (by simp)
  have g1 := tg.inst
  have g2 := tg.dict
  have g4 := rg.inst
  have g5 := rg.dict
  clear t r
  dsimp only
  k_steps
  all_goals (first | exact q _ _ _ (keep_of_fr up (by assumption)) | skip)
  all_goals w_report
set_option maxHeartbeats 8000000 in
theorem local_c {i : Int} {ti : Tok} {d : NRow} (S : St 590 w A s.heap H) (t : TreeAt s.heap T xs ds) (h0 : 0 ≤ i) (hd : ds[i.toNat]? = some d)
    (q : ∀ h' tk' u, Keep [] s.heap h' → Q (.str d.loc u) { s with heap := h', toks := tk' }) :
    wpAny (model prog w) A (call (.ref 257) [.ref T.t, .int i ti]) Q E s := by
  obtain ⟨x, hx⟩ : ∃ x, xs[i.toNat]? = some x := ⟨_, List.getElem?_eq_getElem (t.len ▸ (List.getElem?_eq_some_iff.mp hd).1)⟩
  have r := t.all _ _ _ hx hd
  refine wpAny_call ?_
  refine' enter [] [(Str.ofString "self", .ref T.t), (Str.ofString "node", .int i ti)] S (by omega) (by simp) ?ho ?hcd ?hbind ?hloc ?h ?hco ?hgen ?hk ?hcell
  case ho => k_is
  case hcd => k_is
  case hbind => exact BindsTo.of_eq rfl
  case hloc => exact locs rfl
  case hco => exact rfl
  case hgen => exact rfl
  case hk => exact rfl
  case hcell => decide
  intro g L h₁ mean mg mb up dn nL F N X Tp HG
  have tg : TreeAt g T xs ds := t.up fun b o e => up b o e (by simp)
  have rg : RowAt g x d := r.up fun b o e => up b o e (by simp)
  have g1 := tg.inst
  have g2 := tg.dict
  have g4 := rg.inst
  have g5 := rg.dict
  clear t r
  dsimp only
  k_steps
  all_goals (first | exact q _ _ _ (keep_of_fr up (by assumption)) | skip)
  all_goals w_report
set_option maxHeartbeats 8000000 in
theorem value_c {i : Int} {ti : Tok} {d : NRow} (S : St 590 w A s.heap H) (t : TreeAt s.heap T xs ds) (h0 : 0 ≤ i) (hd : ds[i.toNat]? = some d)
    (q : ∀ h' tk' u, Keep [] s.heap h' → Q (.str d.value u) { s with heap := h', toks := tk' }) :
    wpAny (model prog w) A (call (.ref 264) [.ref T.t, .int i ti]) Q E s := by
  obtain ⟨x, hx⟩ : ∃ x, xs[i.toNat]? = some x := ⟨_, List.getElem?_eq_getElem (t.len ▸ (List.getElem?_eq_some_iff.mp hd).1)⟩
  have r := t.all _ _ _ hx hd
  refine wpAny_call ?_
  refine' enter [] [(Str.ofString "self", .ref T.t), (Str.ofString "node", .int i ti)] S (by omega) (by simp) ?ho ?hcd ?hbind ?hloc ?h ?hco ?hgen ?hk ?hcell
  case ho => k_is
  case hcd => k_is
  case hbind => exact BindsTo.of_eq rfl
  case hloc => exact locs rfl
  case hco => exact rfl
  case hgen => exact rfl
  case hk => exact rfl
  case hcell => decide
  intro g L h₁ mean mg mb up dn nL F N X Tp HG
  have tg : TreeAt g T xs ds := t.up fun b o e => up b o e (by simp)
  have rg : RowAt g x d := r.up fun b o e => up b o e (by simp)
  have g1 := tg.inst
  have g2 := tg.dict
  have g4 := rg.inst
  have g5 := rg.dict
  clear t r
  dsimp only
  k_steps
  all_goals (first | exact q _ _ _ (keep_of_fr up (by assumption)) | skip)
  all_goals w_report
set_option maxHeartbeats 8000000 in
theorem children_c {i : Int} {ti : Tok} {d : NRow} (S : St 590 w A s.heap H) (t : TreeAt s.heap T xs ds) (h0 : 0 ≤ i) (hd : ds[i.toNat]? = some d)
    (q : ∀ l e h' tk', Keep [] s.heap h' → s.heap.get? l = none → h'.get? l = some (listOf d.ch.toArray e) → Q (.ref l) { s with heap := h', toks := tk' }) :
    wpAny (model prog w) A (call (.ref 278) [.ref T.t, .int i ti]) Q E s := by
  obtain ⟨x, hx⟩ : ∃ x, xs[i.toNat]? = some x := ⟨_, List.getElem?_eq_getElem (t.len ▸ (List.getElem?_eq_some_iff.mp hd).1)⟩
  have r := t.all _ _ _ hx hd
  refine wpAny_call ?_
  refine' enter [] [(Str.ofString "self", .ref T.t), (Str.ofString "node", .int i ti)] S (by omega) (by simp) ?ho ?hcd ?hbind ?hloc ?h ?hco ?hgen ?hk ?hcell
  case ho => k_is
  case hcd => k_is
  case hbind => exact BindsTo.of_eq rfl
  case hloc => exact locs rfl
  case hco => exact rfl
  case hgen => exact rfl
  case hk => exact rfl
  case hcell => decide
  intro g L h₁ mean mg mb up dn nL F N X Tp HG
  have tg : TreeAt g T xs ds := t.up fun b o e => up b o e (by simp)
  have rg : RowAt g x d := r.up fun b o e => up b o e (by simp)
  have g1 := tg.inst
  have g2 := tg.dict
  have g4 := rg.inst
  have g5 := rg.dict
  obtain ⟨e, g6⟩ := rg.ch
  have g7 : g.IsList x.c d.ch.toArray := ⟨_, g6, rfl, _, rfl⟩
  have gz : d.ch.toArray.size ≤ 1000 := by have := rg.short; simp; omega
  clear t r
  dsimp only
  k_steps
  all_goals (first | (have q1 := News.get (by assumption) (List.Mem.head _); have q2 := News.fresh (by assumption) (List.Mem.head _); exact q _ _ _ _ (keep_of_fr up (by assumption)) (none_of_up up q2) q1) | skip)
  all_goals w_report
set_option maxHeartbeats 8000000 in
theorem attributes_c {i : Int} {ti : Tok} {d : NRow} (S : St 590 w A s.heap H) (t : TreeAt s.heap T xs ds) (h0 : 0 ≤ i) (hd : ds[i.toNat]? = some d)
    (q : ∀ l e h' tk', Keep [] s.heap h' → s.heap.get? l = none → h'.get? l = some (listOf d.at_.toArray e) → Q (.ref l) { s with heap := h', toks := tk' }) :
    wpAny (model prog w) A (call (.ref 285) [.ref T.t, .int i ti]) Q E s := by
  obtain ⟨x, hx⟩ : ∃ x, xs[i.toNat]? = some x := ⟨_, List.getElem?_eq_getElem (t.len ▸ (List.getElem?_eq_some_iff.mp hd).1)⟩
  have r := t.all _ _ _ hx hd
  refine wpAny_call ?_
  refine' enter [] [(Str.ofString "self", .ref T.t), (Str.ofString "node", .int i ti)] S (by omega) (by simp) ?ho ?hcd ?hbind ?hloc ?h ?hco ?hgen ?hk ?hcell
  case ho => k_is
  case hcd => k_is
  case hbind => exact BindsTo.of_eq rfl
  case hloc => exact locs rfl
  case hco => exact rfl
  case hgen => exact rfl
  case hk => exact rfl
  case hcell => decide
  intro g L h₁ mean mg mb up dn nL F N X Tp HG
  have tg : TreeAt g T xs ds := t.up fun b o e => up b o e (by simp)
  have rg : RowAt g x d := r.up fun b o e => up b o e (by simp)
  have g1 := tg.inst
  have g2 := tg.dict
  have g4 := rg.inst
  have g5 := rg.dict
  obtain ⟨e, g6⟩ := rg.at_
  have g7 : g.IsList x.a d.at_.toArray := ⟨_, g6, rfl, _, rfl⟩
  have gz : d.at_.toArray.size ≤ 1000 := by have := rg.short; simp; omega
  clear t r
  dsimp only
  k_steps
  all_goals (first | (have q1 := News.get (by assumption) (List.Mem.head _); have q2 := News.fresh (by assumption) (List.Mem.head _); exact q _ _ _ _ (keep_of_fr up (by assumption)) (none_of_up up q2) q1) | skip)
  all_goals w_report
set_option maxHeartbeats 8000000 in
theorem namespaces_c {i : Int} {ti : Tok} {d : NRow} (S : St 590 w A s.heap H) (t : TreeAt s.heap T xs ds) (h0 : 0 ≤ i) (hd : ds[i.toNat]? = some d)
    (q : ∀ l e h' tk', Keep [] s.heap h' → s.heap.get? l = none → h'.get? l = some (listOf d.ns.toArray e) → Q (.ref l) { s with heap := h', toks := tk' }) :
    wpAny (model prog w) A (call (.ref 292) [.ref T.t, .int i ti]) Q E s := by
  obtain ⟨x, hx⟩ : ∃ x, xs[i.toNat]? = some x := ⟨_, List.getElem?_eq_getElem (t.len ▸ (List.getElem?_eq_some_iff.mp hd).1)⟩
  have r := t.all _ _ _ hx hd
  refine wpAny_call ?_
  refine' enter [] [(Str.ofString "self", .ref T.t), (Str.ofString "node", .int i ti)] S (by omega) (by simp) ?ho ?hcd ?hbind ?hloc ?h ?hco ?hgen ?hk ?hcell
  case ho => k_is
  case hcd => k_is
  case hbind => exact BindsTo.of_eq rfl
  case hloc => exact locs rfl
  case hco => exact rfl
  case hgen => exact rfl
  case hk => exact rfl
  case hcell => decide
  intro g L h₁ mean mg mb up dn nL F N X Tp HG
  have tg : TreeAt g T xs ds := t.up fun b o e => up b o e (by simp)
  have rg : RowAt g x d := r.up fun b o e => up b o e (by simp)
  have g1 := tg.inst
  have g2 := tg.dict
  have g4 := rg.inst
  have g5 := rg.dict
  obtain ⟨e, g6⟩ := rg.ns
  have g7 : g.IsList x.n d.ns.toArray := ⟨_, g6, rfl, _, rfl⟩
  have gz : d.ns.toArray.size ≤ 1000 := by have := rg.short; simp; omega
  clear t r
  dsimp only
  k_steps
  all_goals (first | (have q1 := News.get (by assumption) (List.Mem.head _); have q2 := News.fresh (by assumption) (List.Mem.head _); exact q _ _ _ _ (keep_of_fr up (by assumption)) (none_of_up up q2) q1) | skip)
  all_goals w_report
end
end Mine
namespace Mine
theorem make0 {prog : Program} {w : World} {A : Around} {K : Frag} {C : Addr} {s : Shared} {Q : Value → Shared → Prop} {E : Value → Shared → Prop} {rest : List Value} {fI : Addr} (X : K.In s.heap) (hm : makesIn K C = true)
    (hi : findIn K (.ref C) "__init__" = some (some (.ref fI))) (hf : isFn K (.ref fI) = true)
    (h : ∀ x dx h', Keep [] s.heap h' → h'.get? x = some (instObj C dx) → h'.get? dx = some (dictOf [] 0) → s.heap.get? x = none → s.heap.get? dx = none → dx < x →
      codeAny (model prog w) (A.under (.builtin "type.__call__" ⟨.ref C :: rest, []⟩)) (.call (.ref fI) ⟨.ref x :: rest, []⟩) (InitBack x (fun r s' => match r with | .ok (.ret v) => Q v s' | .ok _ => False | .error e => E e s')) { s with heap := h' }) :
    wpAny (model prog w) A (call (.ref C) rest) Q E s := by
  obtain ⟨hh, g, d, t, os⟩ := s
  refine wpAny_call ?_
  refine make_core (makes_of X hm) (looks_findIn X hi) (fun self => bind_fn X self (beq_iff_eq.mp hf)) (.inl rfl) (h _ hh.objs.size _ ?_ ?_ ?_ ?_ ?_ (Nat.lt_succ_self _))
  · exact fun b o e _ => Heap.get?_push_of_some _ (Heap.get?_push_of_some _ e)
  · have := Heap.get?_push_size (hh.push emptyDict) (o := instObj C hh.objs.size) rfl
    rwa [Heap.size_push] at this
  · exact Heap.get?_push_of_some _ (Heap.get?_push_size _ rfl)
  · exact Heap.get?_none_of_le (Nat.le_succ _)
  · exact Heap.get?_none_of_le (Nat.le_refl _)
theorem St.make {n n' : Nat} {w : World} {A : Around} {C : Addr} {vals : List Value} {h h' H : Heap} (S : St n w A h H) (k : Keep [] h h') (hn : n + 1 ≤ n') : St n' w (A.under (.builtin "type.__call__" ⟨.ref C :: vals, []⟩)) h' H :=
  ⟨S.XH, S.TH, fun b o e => k.nil b o (S.W b o e), by rw [depth_under_make]; have := S.dp; omega, by rw [units_under_make]; have := S.un; omega, S.hh⟩
theorem none_H {n : Nat} {w : World} {A : Around} {h H : Heap} (S : St n w A h H) {b : Addr} (e : h.get? b = none) : H.get? b = none := by
  cases q : H.get? b with
  | none => rfl
  | some o => rw [S.W b o q] at e; cases e
theorem fresh_of {h h0 g : Heap} {hid : List (Addr × Obj)} {c : Addr} (k0 : Keep [] h h0) (up : ∀ (b : Addr) (o : Obj), h0.get? b = some o → b ∉ hid.map (·.1) → g.get? b = some o) (hn : ∀ q ∈ hid, h.get? q.1 = none) (e : g.get? c = none) : h.get? c = none := by
  cases q : h.get? c with
  | none => rfl
  | some o =>
    by_cases hc : c ∈ hid.map (·.1)
    · obtain ⟨p, hp, rfl⟩ := List.mem_map.mp hc
      rw [hn p hp] at q; cases q
    · rw [up c o (k0.nil c o q) hc] at e; cases e
theorem keep_up {h h0 g h' : Heap} {L : Addr} {m : Str → Option Value} {hid : List (Addr × Obj)} (k0 : Keep [] h h0) (up : ∀ (b : Addr) (o : Obj), h0.get? b = some o → b ∉ hid.map (·.1) → g.get? b = some o) (hn : ∀ q ∈ hid, h.get? q.1 = none) (F : Fr g L h' m) : Keep [] h h' := fun b o e _ => by
  refine F.keep b o (up b o (k0.nil b o e) fun hc => ?_)
  obtain ⟨p, hp, rfl⟩ := List.mem_map.mp hc
  rw [hn p hp] at e; cases e
theorem row_made {h g h' : Heap} {L n a c x dx : Addr} {i0 i1 i2 i3 i4 i5 i6 i7 i8 : Int} {t0 t1 t2 t3 t4 t5 t6 t7 t8 u0 u1 u2 u3 u4 : Tok} {kind name uri loc value : Str} {pa : Value} {k e1 e2 e3 : Nat}
    (N : News g L h' [(n, listOf #[] e3), (a, listOf #[] e2), (c, listOf #[] e1), (x, instObj 127 dx), (dx, dictOf [⟨i0, .str (Str.ofString "kind") t0, .str kind u0⟩, ⟨i1, .str (Str.ofString "name") t1, .str name u1⟩, ⟨i2, .str (Str.ofString "uri") t2, .str uri u2⟩,
      ⟨i3, .str (Str.ofString "local") t3, .str loc u3⟩, ⟨i4, .str (Str.ofString "value") t4, .str value u4⟩, ⟨i5, .str (Str.ofString "parent") t5, pa⟩, ⟨i6, .str (Str.ofString "children") t6, .ref c⟩, ⟨i7, .str (Str.ofString "attributes") t7, .ref a⟩, ⟨i8, .str (Str.ofString "namespaces") t8, .ref n⟩] k)])
    (fresh : ∀ b, g.get? b = none → h.get? b = none) (d1 : c ≠ a) (d2 : c ≠ n) (d3 : a ≠ n) :
    ∃ X : RRef, X.r = x ∧ RowAt h' X ⟨kind, name, uri, loc, value, [], [], []⟩ ∧ (∀ b ∈ X.r :: X.d :: X.lists, h.get? b = none) ∧ X.lists.Nodup ∧ X.pa = pa := by
  refine ⟨⟨x, dx, c, a, n, fun i => [i0, i1, i2, i3, i4, i5, i6, i7, i8].getD i 0, fun i => [t0, t1, t2, t3, t4, t5, t6, t7, t8].getD i 0, fun i => [u0, u1, u2, u3, u4].getD i 0, k, pa⟩, rfl, ⟨N.get (by k_mem), N.get (by k_mem), ⟨e1, N.get (by k_mem)⟩, ⟨e2, N.get (by k_mem)⟩, ⟨e3, N.get (by k_mem)⟩, by simp⟩, ?_, ?_, rfl⟩
  · intro b hb
    simp only [RRef.lists, List.mem_cons, List.not_mem_nil, or_false] at hb
    rcases hb with rfl | rfl | rfl | rfl | rfl
    · exact fresh _ (N.fresh (o := instObj 127 dx) (by k_mem))
    · exact fresh _ (N (_, _) (.tail _ (.tail _ (.tail _ (.tail _ (.head _)))))).2.2
    · exact fresh _ (N.fresh (o := listOf #[] e1) (by k_mem))
    · exact fresh _ (N.fresh (o := listOf #[] e2) (by k_mem))
    · exact fresh _ (N.fresh (o := listOf #[] e3) (by k_mem))
  · simp [RRef.lists, d1, d2, d3]
section
variable {prog : Program} {w : World} {A : Around} {s : Shared} {H : Heap} {Q : Value → Shared → Prop} {E : Value → Shared → Prop} {T : TRef} {xs : List RRef} {ds : List NRow}
set_option maxHeartbeats 8000000 in
theorem noderow_c {kind name uri loc value : Str} {t0 t1 t2 t3 t4 : Tok} {pa : Value} (S : St 580 w A s.heap H)
    (q : ∀ x h' tk', Keep [] s.heap h' → RowAt h' x ⟨kind, name, uri, loc, value, [], [], []⟩ → (∀ b ∈ x.r :: x.d :: x.lists, s.heap.get? b = none) → x.lists.Nodup → x.pa = pa → Q (.ref x.r) { s with heap := h', toks := tk' }) :
    wpAny (model prog w) A (call (.ref 127) [.str kind t0, .str name t1, .str uri t2, .str loc t3, .str value t4, pa]) Q E s := by
  refine' make0 (S.XH.keeps S.W) ?hm ?hi ?hf ?h0
  case hm => k_is
  case hi => k_is
  case hf => k_is
  intro x dx h0 k0 hx hdx nx ndx lt0
  replace lt0 := ltN lt0
  have S1 : St 581 w _ h0 H := S.make (C := 127) (vals := [.str kind t0, .str name t1, .str uri t2, .str loc t3, .str value t4, pa]) k0 (by omega)
  refine' enter [(x, instObj 127 dx), (dx, dictOf [] 0)] [(Str.ofString "self", .ref x), (Str.ofString "kind", .str kind t0), (Str.ofString "name", .str name t1), (Str.ofString "uri", .str uri t2), (Str.ofString "local", .str loc t3), (Str.ofString "value", .str value t4), (Str.ofString "parent", pa)] S1 (by omega) (by intro q hq; rcases List.mem_cons.mp hq with rfl | hq; exact ⟨hx, none_H S nx⟩; rcases List.mem_cons.mp hq with rfl | hq; exact ⟨hdx, none_H S ndx⟩; cases hq) ?ho ?hcd ?hbind ?hloc ?h ?hco ?hgen ?hk ?hcell
  case ho => k_is
  case hcd => k_is
  case hbind => exact BindsTo.of_eq rfl
  case hloc => exact locs rfl
  case hco => exact rfl
  case hgen => exact rfl
  case hk => exact rfl
  case hcell => decide
  intro g L h₁ mean mg mb up dn nL F N X Tp HG
  dsimp only
  k_steps
  all_goals (have hn : ∀ q ∈ [(x, instObj 127 dx), (dx, dictOf [] 0)], s.heap.get? q.1 = none := by (intro q hq; rcases List.mem_cons.mp hq with rfl | hq; exact nx; rcases List.mem_cons.mp hq with rfl | hq; exact ndx; cases hq))
  all_goals (obtain ⟨Y, y1, y2, y3, y4, y5⟩ := row_made (h := s.heap) (by assumption) (fun b e => fresh_of k0 up hn e) (neN (by omega)) (neN (by omega)) (neN (by omega)))
  all_goals (subst y1; exact ⟨rfl, q Y _ _ (keep_up k0 up hn (by assumption)) y2 y3 y4 y5⟩)
end
end Mine
namespace Mine
theorem ne_inst_list {h : Heap} {a b : Addr} {C dx : Addr} {its : Array Value} {e : Nat} (h1 : h.get? a = some (instObj C dx)) (h2 : h.get? b = some (listOf its e)) : a ≠ b := by
  rintro rfl; rw [h1] at h2; cases h2
theorem ne_dict_list {h : Heap} {a b : Addr} {es : List DictEntry} {k : Nat} {its : Array Value} {e : Nat} (h1 : h.get? a = some (dictOf es k)) (h2 : h.get? b = some (listOf its e)) : a ≠ b := by
  rintro rfl
  have e := congrArg (Option.map Obj.data) (h1.symm.trans h2)
  cases e
theorem RowAt.off {h h' : Heap} {x : RRef} {d : NRow} {mods : List Addr} (r : RowAt h x d) (k : Keep mods h h') (hl : ∀ b ∈ mods, ∃ its e, h.get? b = some (listOf its e)) (hx : ∀ b ∈ x.lists, b ∉ mods) : RowAt h' x d := by
  obtain ⟨a1, a2, ⟨e1, a3⟩, ⟨e2, a4⟩, ⟨e3, a5⟩, a6⟩ := r
  refine ⟨k _ _ a1 fun q => ?_, k _ _ a2 fun q => ?_, ⟨e1, k _ _ a3 (hx _ (by simp [RRef.lists]))⟩, ⟨e2, k _ _ a4 (hx _ (by simp [RRef.lists]))⟩, ⟨e3, k _ _ a5 (hx _ (by simp [RRef.lists]))⟩, a6⟩
  · obtain ⟨its, e, q⟩ := hl _ q; exact ne_inst_list a1 q rfl
  · obtain ⟨its, e, q⟩ := hl _ q; exact ne_dict_list a2 q rfl
theorem mem_lists {T : TRef} {xs : List RRef} {x : RRef} {b : Addr} (hx : x ∈ xs) (hb : b ∈ x.lists) : b ∈ lists T xs := List.mem_cons_of_mem _ (List.mem_flatMap.mpr ⟨x, hx, hb⟩)
theorem TreeAt.l_off {h : Heap} {T : TRef} {xs : List RRef} {ds : List NRow} (t : TreeAt h T xs ds) {x : RRef} (hx : x ∈ xs) : ∀ b ∈ x.lists, b ∉ [T.l] := by
  intro b hb q
  have hnd := t.nodup
  rw [lists, List.nodup_cons] at hnd
  rw [List.mem_singleton.mp q] at hb
  exact hnd.1 (List.mem_flatMap.mpr ⟨x, hx, hb⟩)
theorem TreeAt.push {h h' : Heap} {T : TRef} {xs : List RRef} {ds : List NRow} {x : RRef} {d : NRow} {e' : Nat} (t : TreeAt h T xs ds) (k : Keep [T.l] h h') (e : h'.get? T.l = some (listOf ((xs.map fun x => Value.ref x.r).toArray.push (.ref x.r)) e'))
    (r : RowAt h' x d) (fr : ∀ b ∈ x.lists, h.get? b = none) (nd : x.lists.Nodup) (hs : xs.length < 1000) : TreeAt h' T (xs ++ [x]) (ds ++ [d]) := by
  obtain ⟨e0, hl⟩ := t.rows
  have hlm : ∀ b ∈ [T.l], ∃ its e, h.get? b = some (listOf its e) := by
    intro b hb; rw [List.mem_singleton.mp hb]; exact ⟨_, _, hl⟩
  refine ⟨k _ _ t.inst fun q => ne_inst_list t.inst hl (List.mem_singleton.mp q), k _ _ t.dict fun q => ne_dict_list t.dict hl (List.mem_singleton.mp q), ⟨e', by rw [e]; simp⟩, by simp [t.len], ?_, ?_, by simp; omega⟩
  · intro i y d' hy hd
    by_cases hi : i < xs.length
    · rw [List.getElem?_append_left hi] at hy
      rw [List.getElem?_append_left (t.len ▸ hi)] at hd
      exact (t.all i y d' hy hd).off k hlm (t.l_off (List.mem_of_getElem? hy))
    · rw [List.getElem?_append_right (by omega)] at hy
      rw [List.getElem?_append_right (by have := t.len; omega), ← t.len] at hd
      have hi0 : i - xs.length = 0 := by
        rcases Nat.eq_zero_or_pos (i - xs.length) with q | q
        · exact q
        · rw [List.getElem?_eq_none (by simp; omega)] at hy; cases hy
      rw [hi0] at hy hd
      cases hy; cases hd; exact r
  · have hnd := t.nodup
    rw [lists] at hnd ⊢
    rw [List.flatMap_append, ← List.cons_append]
    simp only [List.flatMap_cons, List.flatMap_nil, List.append_nil]
    refine List.nodup_append.mpr ⟨hnd, nd, ?_⟩
    rintro a ha b hb rfl
    have hn := fr _ hb
    rcases List.mem_cons.mp ha with rfl | ha
    · rw [hl] at hn; cases hn
    · obtain ⟨y, hy, hay⟩ := List.mem_flatMap.mp ha
      obtain ⟨i, hi⟩ := List.getElem?_of_mem hy
      have hi' : i < ds.length := t.len ▸ (List.getElem?_eq_some_iff.mp hi).1
      have ry := t.all i y _ hi (List.getElem?_eq_getElem hi')
      simp only [RRef.lists, List.mem_cons, List.not_mem_nil, or_false] at hay
      obtain ⟨_, _, ⟨_, q1⟩, ⟨_, q2⟩, ⟨_, q3⟩, _⟩ := ry
      rcases hay with rfl | rfl | rfl
      · rw [q1] at hn; cases hn
      · rw [q2] at hn; cases hn
      · rw [q3] at hn; cases hn
theorem row_news {g h h' : Heap} {L : Addr} {m : Str → Option Value} {news : List (Addr × Obj)} {x : RRef} {d : NRow} (F : Fr g L h m) (N : News g L h news) (k : Keep [] h h') (r : RowAt h' x d) (fr : ∀ b ∈ x.r :: x.d :: x.lists, h.get? b = none) :
    ∃ e1 e2 e3, News g L h' ((x.n, listOf d.ns.toArray e3) :: (x.a, listOf d.at_.toArray e2) :: (x.c, listOf d.ch.toArray e1) :: (x.r, instObj 127 x.d) :: (x.d, dictOf (rowEs x d) x.k) :: news) := by
  obtain ⟨a1, a2, ⟨e1, a3⟩, ⟨e2, a4⟩, ⟨e3, a5⟩, _⟩ := r
  have off : ∀ b, h.get? b = none → b ≠ L ∧ g.get? b = none := fun b hb => by
    obtain ⟨oL, _, _, hL, _⟩ := F.ns
    refine ⟨fun q => (by rw [q, hL] at hb; cases hb), ?_⟩
    cases q : g.get? b with
    | none => rfl
    | some o => rw [F.keep _ _ q] at hb; cases hb
  refine ⟨e1, e2, e3, fun p hp => ?_⟩
  rcases List.mem_cons.mp hp with rfl | hp
  · exact ⟨a5, off _ (fr _ (by simp [RRef.lists]))⟩
  rcases List.mem_cons.mp hp with rfl | hp
  · exact ⟨a4, off _ (fr _ (by simp [RRef.lists]))⟩
  rcases List.mem_cons.mp hp with rfl | hp
  · exact ⟨a3, off _ (fr _ (by simp [RRef.lists]))⟩
  rcases List.mem_cons.mp hp with rfl | hp
  · exact ⟨a1, off _ (fr _ (by simp [RRef.lists]))⟩
  rcases List.mem_cons.mp hp with rfl | hp
  · exact ⟨a2, off _ (fr _ (by simp [RRef.lists]))⟩
  exact news_stay N k p hp
end Mine
namespace Mine
local macro_rules | `(tactic| k_inst) => `(tactic| (refine' inst_base ?F ?a ?b; (case F => k_asm); (case a => assumption); (case b => assumption)))
local macro_rules | `(tactic| walk_at "m st") => `(tactic| (refine' St.deep ?S ?G ?F ?n; (case S => assumption); (case G => assumption); (case F => k_asm); (case n => omega)))
local macro_rules | `(tactic| walk_at "m tree") => `(tactic| (refine' TreeAt.up (Fr.keep ?F) ?t; (case F => k_asm); (case t => assumption)))
local macro_rules | `(tactic| walk_at "m side") => `(tactic| first | k_is | exact BindsTo.of_eq rfl | exact locs rfl | exact rfl | decide)
local macro_rules | `(tactic| walk_at "call ref") => `(tactic| (k_here; (with_reducible show wpAny _ _ (call (Value.ref 159) _ _) _ _ _); (refine' row_c ?S ?t ?a ?b ?_; (case S => walk_at "m st"); (case t => walk_at "m tree"); (case a => omega); (case b => assumption)); intro h' tk' k'; (have F' := fr_stay (by k_asm) k'); (have N' := news_stay (by k_asm) k'); k_sweep))
local macro_rules | `(tactic| walk_at "call builtin:list.append") => `(tactic| (k_here; (with_reducible show wpAny _ _ (call (Value.builtin _) [Value.ref _, _]) _ _ _); k_dflt (refine' append_K ?k1 ?k2 ?k3 ?_ ?z; (case k1 => k_asm); (case k2 => k_asm); (case k3 => k_upd); (case z => exact line_of (by assumption)); k_whole); intro h' F' N'; (try k_sweep)))
local macro_rules | `(tactic| walk_at "call builtin:len") => `(tactic| (k_here; (with_reducible show wpAny _ _ (call (Value.builtin _) [Value.ref _]) _ _ _); (with_unfolding_all refine' len_list ?k1 ?k2 ?_; (case k1 => first | exact News.isList (by k_asm) (by k_mem) | exact Fr.lst (by k_asm) (by assumption)); (case k2 => exact Int.lt_of_le_of_lt (Int.ofNat_le.mpr (by assumption)) (by decide)))))
section
variable {prog : Program} {w : World} {A : Around} {s : Shared} {H : Heap} {Q : Value → Shared → Prop} {E : Value → Shared → Prop} {T : TRef} {xs : List RRef} {ds : List NRow}
set_option maxHeartbeats 8000000 in
theorem new_row_c {kind name uri loc value : Str} {t0 t1 t2 t3 t4 : Tok} {pa : Value} (S : St 570 w A s.heap H) (t : TreeAt s.heap T xs ds) (hs : xs.length < 1000) (hH : H.get? T.l = none)
    (q : ∀ x h' tk' u, Keep [T.l] s.heap h' → TreeAt h' T (xs ++ [x]) (ds ++ [⟨kind, name, uri, loc, value, [], [], []⟩]) → (∀ b ∈ x.r :: x.d :: x.lists, s.heap.get? b = none) → x.pa = pa → Q (.int xs.length u) { s with heap := h', toks := tk' }) :
    wpAny (model prog w) A (call (.ref 152) [.ref T.t, .str kind t0, .str name t1, .str uri t2, .str loc t3, .str value t4, pa]) Q E s := by
  obtain ⟨e, hl⟩ := t.rows
  refine wpAny_call ?_
  refine' enter [(T.l, listOf (xs.map fun x => Value.ref x.r).toArray e)] [(Str.ofString "self", .ref T.t), (Str.ofString "kind", .str kind t0), (Str.ofString "name", .str name t1), (Str.ofString "uri", .str uri t2), (Str.ofString "local", .str loc t3), (Str.ofString "value", .str value t4), (Str.ofString "parent", pa)] S (by omega) (by intro q hq; rw [List.mem_singleton.mp hq]; exact ⟨hl, hH⟩) ?ho ?hcd ?hbind ?hloc ?h ?hco ?hgen ?hk ?hcell
  case ho => k_is
  case hcd => k_is
  case hbind => exact BindsTo.of_eq rfl
  case hloc => exact locs rfl
  case hco => exact rfl
  case hgen => exact rfl
  case hk => exact rfl
  case hcell => decide
  intro g L h₁ mean mg mb up dn nL F N X Tp HG
  have g1 := up _ _ t.inst (by simpa using ne_inst_list t.inst hl)
  have g2 := up _ _ t.dict (by simpa using ne_dict_list t.dict hl)
  have hz : (xs.map fun x => Value.ref x.r).toArray.size < 1000 := by simp; omega
  have hz0 : (xs.map fun x => Value.ref x.r).toArray.size = xs.length := by simp
  have fin : ∀ (x : RRef) (h' : Heap) (e' : Nat), (∀ b ∈ x.r :: x.d :: x.lists, s.heap.get? b = none) → x.lists.Nodup → RowAt h' x ⟨kind, name, uri, loc, value, [], [], []⟩ → Keep [T.l] s.heap h' → h'.get? T.l = some (listOf ((xs.map fun x => Value.ref x.r).toArray.push (.ref x.r)) e') →
      TreeAt h' T (xs ++ [x]) (ds ++ [⟨kind, name, uri, loc, value, [], [], []⟩]) := fun x h' e' a1 a2 a3 a4 a5 => t.push a4 a5 a3 (fun b hb => a1 b (.tail _ (.tail _ hb))) a2 hs
  generalize (xs.map fun x => Value.ref x.r).toArray = its at N hz hz0 fin
  dsimp only
  k_steps
  rename Fr _ _ _ _ => F0
  rename News _ _ _ _ => N0
  refine noderow_c (S.deep HG F0 (by omega)) ?_
  intro x h2 tk2 k2 r fr nd hpa
  have hn : ∀ b ∈ x.r :: x.d :: x.lists, b ≠ T.l := fun b hb z => by
    have z1 := fr b hb
    have z2 := (N0 _ (.head _)).1
    rw [z] at z1; rw [z1] at z2; cases z2
  have fs : ∀ b ∈ x.r :: x.d :: x.lists, s.heap.get? b = none := fun b hb => by
    cases z : s.heap.get? b with
    | none => rfl
    | some o =>
      have z1 := F0.keep _ _ (up b o z (by simpa using hn b hb))
      rw [fr b hb] at z1; cases z1
  have n1 := neN (hn x.r (by simp))
  have n2 := neN (hn x.d (by simp))
  have n3 := neN (hn x.c (by simp [RRef.lists]))
  have n4 := neN (hn x.a (by simp [RRef.lists]))
  have n5 := neN (hn x.n (by simp [RRef.lists]))
  obtain ⟨e1, e2, e3, N2⟩ := row_news F0 N0 k2 r fr
  have F2 := fr_stay F0 k2
  have hz1 : (its.push (Value.ref x.r)).size ≤ 1000 := by simp; omega
  clear F0 N0
  k_steps
  rename Fr _ _ _ _ => F3
  rename News _ _ _ _ => N3
  have ek : ((its.push (Value.ref x.r)).size : Int) - 1 = (xs.length : Int) := by simp; omega
  have k3 : Keep [T.l] s.heap _ := keep_of_fr (mods := [T.l]) (fun b o e n => up b o e (by simpa using n)) F3
  have rz := RowAt.mk (x := x) (d := ⟨kind, name, uri, loc, value, [], [], []⟩) (N3.get (by k_mem)) (N3.get (by k_mem)) ⟨e1, N3.get (by k_mem)⟩ ⟨e2, N3.get (by k_mem)⟩ ⟨e3, N3.get (by k_mem)⟩ (by simp)
  show Q (.int (((its.push (Value.ref x.r)).size : Int) - 1) _) _
  rw [ek]
  exact q x _ _ _ k3 (fin x _ _ fs nd rz k3 (N3.get (by k_mem))) fs hpa
end
end Mine
namespace Mine
theorem item_listN {prog : Program} {w : World} {A : Around} {E : Value → Shared → Prop} {s : Shared} {g : Heap} {L l : Addr} {news : List (Addr × Obj)} {value slice : PySem.Expr} {vs : Array Value} {n : Nat} {k : Int} {u : Tok} {v : Value} {Q : Value → Shared → Prop}
    (N : News g L s.heap news) (hl : (l, listOf vs n) ∈ news) (h0 : 0 ≤ k) (hhi : k < 2 ^ 63) (hx : vs[k.toNat]? = some v) (h : Q v s)
    (hs : subscripted slice false (.ref l) (.int k u) = operate [.ref l, .int k u] (getItem (.ref l) (.int k u)) := by with_unfolding_all rfl) :
    wpAny (model prog w) A (subscriptTail value slice (.ref l) (.int k u)) Q E s :=
  have hL : s.heap.IsList l vs := ⟨_, N.get hl, rfl, _, rfl⟩
  tail_any hL.typeIs slot_list_getitem.lookup (wpAny_getItem_list hL h0 hhi hx h) hs
theorem notin_tup {prog : Program} {w : World} {A : Around} {E : Value → Shared → Prop} {s : Shared} {K : Frag} {g : Heap} {L a : Addr} {m : Str → Option Value} {u t1 t2 : Tok} {n : Nat} {x y z : Str} {dd : Option Addr} {sl : Array (Option Value)} {Q : Value → Shared → Prop} (F : Fr g L s.heap m) (X : K.In g)
    (hl : K.lookup a = some ⟨.type "tuple", dd, .seq #[.str y t1, .str z t2] n, sl⟩) (hx : x = y ∨ x = z) (hy : PyData.strOk y = true) (hz : PyData.strOk z = true) (hu : A.units ≤ 9000) (h : Q (.bool false) s) :
    wpAny (model prog w) A (compareOp .NotIn (.str x u) (.ref a)) Q E s := by
  have hc : cLine = 9900 := rfl
  have hxo : PyData.strOk x = true := by rcases hx with rfl | rfl <;> assumption
  refine SeqAt.notIn_tuple_reads (xs := [.str y, .str z]) (reads_tuple_at (F.keep _ _ (X _ _ hl)) rfl rfl (ReadsAll.cons (.str _ _) (ReadsAll.cons (.str _ _) .nil))) (Reads.str _ _) (by simp [PyData.canLayAll0, PyData.canLay0, hy, hz]) (by simpa [PyData.canLay0] using hxo) (by simp [PyData.depth, PyData.depthAll, hc]; omega) ?_
  have e : ([PyData.str y, PyData.str z].any fun d => PyData.eqv d (.str x)) = true := by
    rcases hx with rfl | rfl <;> simp [PyData.eqv]
  rw [e]; exact h
local macro_rules | `(tactic| k_inst) => `(tactic| (refine' inst_base ?F ?a ?b; (case F => k_asm); (case a => assumption); (case b => assumption)))
local macro_rules | `(tactic| walk_at "m st") => `(tactic| (refine' St.deep ?S ?G ?F ?n; (case S => assumption); (case G => assumption); (case F => k_asm); (case n => omega)))
local macro_rules | `(tactic| walk_at "call builtin:len") => `(tactic| (k_here; (with_reducible show wpAny _ _ (call (Value.builtin _) [Value.ref _]) _ _ _); (with_unfolding_all refine' len_list ?k1 ?k2 ?_; (case k1 => first | exact News.isList (by k_asm) (by k_mem) | exact Fr.lst (by k_asm) (by assumption)); (case k2 => exact Int.lt_of_le_of_lt (Int.ofNat_le.mpr (by assumption)) (by decide)))))
local macro_rules | `(tactic| walk_at "call builtin:list.append") => `(tactic| (k_here; (with_reducible show wpAny _ _ (call (Value.builtin _) [Value.ref _, _]) _ _ _); k_dflt (refine' append_K ?k1 ?k2 ?k3 ?_ ?z; (case k1 => k_asm); (case k2 => k_asm); (case k3 => k_upd); (case z => exact line_of (by assumption)); k_whole); intro h' F' N'; (try k_sweep)))
local macro_rules | `(tactic| walk_at "subscriptTail") => `(tactic| (k_here; (with_reducible show wpAny _ _ (subscriptTail _ _ (Value.ref _) (Value.int _ _)) _ _ _); (with_unfolding_all refine' item_listN ?F ?l ?a ?b ?c ?_ ?d; (case F => k_asm); (case l => k_mem); (case a => omega); (case b => omega); (case c => assumption); (case d => with_unfolding_all rfl); k_whole)))
local macro_rules | `(tactic| walk_at "compareOp NotIn") => `(tactic| (k_here; k_dflt (refine' notin_tup ?F ?X ?l ?x ?y ?z ?u ?_; (case F => k_asm); (case X => k_asm); (case l => k_is); (case x => assumption); (case y => decide +kernel); (case z => decide +kernel); (case u => walk_at "m un"))))
local macro_rules | `(tactic| walk_at "m un") => `(tactic| ((have z1 := St.un (by assumption)); simp only [Around.deeper_units] at *; omega))
local macro_rules | `(tactic| walk_at "call ref") => `(tactic| (k_here; (with_reducible show wpAny _ _ (call (Value.ref 159) _ _) _ _ _); (refine' row_c ?S ?t ?a ?b ?_; (case S => walk_at "m st"); (case t => assumption); (case a => omega); (case b => assumption)); intro h' tk' k'; (have t' := TreeAt.up k'.nil (by assumption)); (have F' := fr_stay (by k_asm) k'); (have N' := news_stay (by k_asm) k'); k_sweep))
section
variable {prog : Program} {w : World} {A : Around} {s : Shared} {H : Heap} {Q : Value → Shared → Prop} {E : Value → Shared → Prop} {T : TRef} {xs : List RRef} {ds : List NRow}

theorem keep0 {h g h₁ : Heap} {L : Addr} {m : Str → Option Value} {hid : List (Addr × Obj)} (up : ∀ (b : Addr) (o : Obj), h.get? b = some o → b ∉ hid.map (·.1) → g.get? b = some o) (F : Fr g L h₁ m) (N : News g L h₁ hid) (hh : ∀ q ∈ hid, h.get? q.1 = some q.2) : h.StaysIn h₁ := fun b o e => by
  by_cases hb : b ∈ hid.map (·.1)
  · obtain ⟨q, hq, rfl⟩ := List.mem_map.mp hb
    rw [hh q hq] at e; cases e
    exact (N q hq).1
  · exact F.keep b o (up b o e hb)
theorem news_app {g h : Heap} {L : Addr} {a b : List (Addr × Obj)} (x : News g L h a) (y : News g L h b) : News g L h (a ++ b) := fun p hp => (List.mem_append.mp hp).elim (x p) (y p)
theorem row_led {g h h' : Heap} {L : Addr} {m : Str → Option Value} {x : RRef} {d : NRow} (F : Fr g L h m) (r : RowAt h' x d) (fr : ∀ b ∈ x.r :: x.d :: x.lists, h.get? b = none) :
    ∃ e1 e2 e3, News g L h' [(x.n, listOf d.ns.toArray e3), (x.a, listOf d.at_.toArray e2), (x.c, listOf d.ch.toArray e1), (x.r, instObj 127 x.d), (x.d, dictOf (rowEs x d) x.k)] := by
  obtain ⟨a1, a2, ⟨e1, a3⟩, ⟨e2, a4⟩, ⟨e3, a5⟩, _⟩ := r
  have off : ∀ b, h.get? b = none → b ≠ L ∧ g.get? b = none := fun b hb => by
    obtain ⟨oL, _, _, hL, _⟩ := F.ns
    refine ⟨fun q => (by rw [q, hL] at hb; cases hb), ?_⟩
    cases q : g.get? b with
    | none => rfl
    | some o => rw [F.keep _ _ q] at hb; cases hb
  refine ⟨e1, e2, e3, fun p hp => ?_⟩
  rcases List.mem_cons.mp hp with rfl | hp
  · exact ⟨a5, off _ (fr _ (by simp [RRef.lists]))⟩
  rcases List.mem_cons.mp hp with rfl | hp
  · exact ⟨a4, off _ (fr _ (by simp [RRef.lists]))⟩
  rcases List.mem_cons.mp hp with rfl | hp
  · exact ⟨a3, off _ (fr _ (by simp [RRef.lists]))⟩
  rcases List.mem_cons.mp hp with rfl | hp
  · exact ⟨a1, off _ (fr _ (by simp [RRef.lists]))⟩
  rw [List.mem_singleton.mp hp]
  exact ⟨a2, off _ (fr _ (by simp [RRef.lists]))⟩
theorem TreeAt.grow {h h' : Heap} {T : TRef} {xs : List RRef} {ds : List NRow} {x y : RRef} {d d' d0 : NRow} {i e' : Nat} {z : Addr} (t : TreeAt h T xs ds) (hy : xs[i]? = some y) (hd : ds[i]? = some d) (hz : z ∈ y.lists) (k : Keep [T.l, z] h h')
    (e : h'.get? T.l = some (listOf (((xs ++ [x]).map fun x => Value.ref x.r).toArray) e')) (ry : RowAt h' y d') (r : RowAt h' x d0) (nd : (lists T (xs ++ [x])).Nodup) (hs : xs.length < 1000) : TreeAt h' T (xs ++ [x]) (ds.set i d' ++ [d0]) := by
  obtain ⟨e0, hl⟩ := t.rows
  have hyr := t.all _ _ _ hy hd
  have hzl : ∃ its e, h.get? z = some (listOf its e) := by
    simp only [RRef.lists, List.mem_cons, List.not_mem_nil, or_false] at hz
    obtain ⟨_, _, ⟨_, q1⟩, ⟨_, q2⟩, ⟨_, q3⟩, _⟩ := hyr
    rcases hz with rfl | rfl | rfl
    · exact ⟨_, _, q1⟩
    · exact ⟨_, _, q2⟩
    · exact ⟨_, _, q3⟩
  have hlm : ∀ b ∈ [T.l, z], ∃ its e, h.get? b = some (listOf its e) := by
    intro b hb
    rcases List.mem_cons.mp hb with rfl | hb
    · exact ⟨_, _, hl⟩
    · rw [List.mem_singleton.mp hb]; exact hzl
  have offi : ∀ (b C dx : Addr), h.get? b = some (instObj C dx) → b ∉ [T.l, z] := fun b C dx hb q => by
    obtain ⟨its, e, q'⟩ := hlm b q; exact ne_inst_list hb q' rfl
  have offd : ∀ (b : Addr) (es : List DictEntry) (k : Nat), h.get? b = some (dictOf es k) → b ∉ [T.l, z] := fun b es k hb q => by
    obtain ⟨its, e, q'⟩ := hlm b q; exact ne_dict_list hb q' rfl
  refine ⟨k _ _ t.inst (offi _ _ _ t.inst), k _ _ t.dict (offd _ _ _ t.dict), ⟨e', e⟩, by simp [t.len], ?_, nd, by simp; omega⟩
  intro j w dw hw hdw
  by_cases hj : j < xs.length
  · rw [List.getElem?_append_left hj] at hw
    rw [List.getElem?_append_left (by rw [List.length_set]; exact t.len ▸ hj)] at hdw
    by_cases hij : i = j
    · subst hij
      rw [hy] at hw; cases hw
      rw [List.getElem?_set_self (t.len ▸ hj)] at hdw; cases hdw
      exact ry
    · rw [List.getElem?_set_ne hij] at hdw
      refine (t.all j w dw hw hdw).off k hlm fun b hb q => ?_
      rcases List.mem_cons.mp q with rfl | q
      · exact t.l_off (List.mem_of_getElem? hw) _ hb (by simp)
      · rw [List.mem_singleton.mp q] at hb
        have hnd := t.nodup
        rw [lists, List.nodup_cons] at hnd
        have hnd := hnd.2
        have hpw := List.pairwise_iff_getElem.mp (List.pairwise_flatMap.mp hnd).2
        have hil : i < xs.length := (List.getElem?_eq_some_iff.mp hy).1
        have ey : xs[i] = y := (List.getElem?_eq_some_iff.mp hy).2
        have ew : xs[j] = w := (List.getElem?_eq_some_iff.mp hw).2
        rcases Nat.lt_or_gt_of_ne hij with hlt | hlt
        · have := hpw i j hil hj hlt
          rw [ey, ew] at this
          exact this z hz z hb rfl
        · have := hpw j i hj hil hlt
          rw [ey, ew] at this
          exact this z hb z hz rfl
  · rw [List.getElem?_append_right (by omega)] at hw
    rw [List.getElem?_append_right (by rw [List.length_set]; have := t.len; omega), List.length_set, ← t.len] at hdw
    have hi0 : j - xs.length = 0 := by
      rcases Nat.eq_zero_or_pos (j - xs.length) with q | q
      · exact q
      · rw [List.getElem?_eq_none (by simp; omega)] at hw; cases hw
    rw [hi0] at hw hdw
    cases hw; cases hdw; exact r
set_option maxHeartbeats 8000000 in
theorem add_child_c {p : Int} {tp : Tok} {d : NRow} {y : RRef} {kind name uri loc value : Str} {t0 t1 t2 t3 t4 : Tok} (S : St 560 w A s.heap H) (t : TreeAt s.heap T xs ds) (hs : xs.length < 1000) (hH : ∀ b ∈ lists T xs, H.get? b = none)
    (h0 : 0 ≤ p) (hd : ds[p.toNat]? = some d) (hy : xs[p.toNat]? = some y) (hk : d.kind = Str.ofString "root" ∨ d.kind = Str.ofString "element") (hc : d.ch.length < 1000)
    (q : ∀ x h' tk' u, Keep [T.l, y.c] s.heap h' → TreeAt h' T (xs ++ [x]) (ds.set p.toNat { d with ch := d.ch ++ [.int xs.length u] } ++ [⟨kind, name, uri, loc, value, [], [], []⟩]) → (∀ b ∈ x.r :: x.d :: x.lists, s.heap.get? b = none) → Q (.int xs.length u) { s with heap := h', toks := tk' }) :
    wpAny (model prog w) A (call (.ref 173) [.ref T.t, .int p tp, .str kind t0, .str name t1, .str uri t2, .str loc t3, .str value t4]) Q E s := by
  obtain ⟨e, hl⟩ := t.rows
  have r := t.all _ _ _ hy hd
  obtain ⟨ec, hc0⟩ := r.ch
  have hne : T.l ≠ y.c := fun z => t.l_off (List.mem_of_getElem? hy) y.c (by simp [RRef.lists]) (by simp [z])
  refine wpAny_call ?_
  refine' enter [(T.l, listOf (xs.map fun x => Value.ref x.r).toArray e), (y.c, listOf d.ch.toArray ec)] [(Str.ofString "self", .ref T.t), (Str.ofString "parent", .int p tp), (Str.ofString "kind", .str kind t0), (Str.ofString "name", .str name t1), (Str.ofString "uri", .str uri t2), (Str.ofString "local", .str loc t3), (Str.ofString "value", .str value t4)] S (by omega) (by intro q hq; rcases List.mem_cons.mp hq with rfl | hq; exact ⟨hl, hH _ (by simp [lists])⟩; rw [List.mem_singleton.mp hq]; exact ⟨hc0, hH _ (mem_lists (List.mem_of_getElem? hy) (by simp [RRef.lists]))⟩) ?ho ?hcd ?hbind ?hloc ?h ?hco ?hgen ?hk ?hcell
  case ho => k_is
  case hcd => k_is
  case hbind => exact BindsTo.of_eq rfl
  case hloc => exact locs rfl
  case hco => exact rfl
  case hgen => exact rfl
  case hk => exact rfl
  case hcell => decide
  intro g L h₁ mean mg mb up dn nL F N X Tp HG
  have g1 := up _ _ t.inst (by simp; exact ⟨ne_inst_list t.inst hl, ne_inst_list t.inst hc0⟩)
  have g2 := up _ _ t.dict (by simp; exact ⟨ne_dict_list t.dict hl, ne_dict_list t.dict hc0⟩)
  have g4 := up _ _ r.inst (by simp; exact ⟨ne_inst_list r.inst hl, ne_inst_list r.inst hc0⟩)
  have g5 := up _ _ r.dict (by simp; exact ⟨ne_dict_list r.dict hl, ne_dict_list r.dict hc0⟩)
  have u0 := keep0 up F N (by intro q hq; rcases List.mem_cons.mp hq with rfl | hq; exact hl; rw [List.mem_singleton.mp hq]; exact hc0)
  have tc := t.up u0
  dsimp only
  k_steps
  rename Fr _ _ _ _ => F0
  rename News _ _ _ _ => N0
  rename TreeAt _ _ _ _ => t1
  refine new_row_c (S.deep HG F0 (by omega)) t1 hs (hH _ (by simp [lists])) ?_
  intro x h2 tk2 u2 k2 t2 fr hpa
  have n0 := N0 _ (.head _)
  have n1 := N0 _ (.tail _ (.head _))
  have F2 := fr_back F0 k2 (by intro b hb; rw [List.mem_singleton.mp hb]; exact ⟨n0.2.2, n0.2.1⟩)
  have hxi : (xs ++ [x])[xs.length]? = some x := by simp
  have hdi : (ds ++ [⟨kind, name, uri, loc, value, [], [], []⟩])[xs.length]? = some (⟨kind, name, uri, loc, value, [], [], []⟩ : NRow) := by rw [t.len]; simp
  have rx := t2.all _ _ _ hxi hdi
  obtain ⟨e1, e2, e3, N2⟩ := row_led F0 rx fr
  obtain ⟨er, hr2⟩ := t2.rows
  have hy2 : h2.get? y.c = some (listOf d.ch.toArray ec) := k2 _ _ n1.1 (by simpa using hne.symm)
  have N3 := news_app (a := [(T.l, _), (y.c, _)]) (fun q hq => (by
    rcases List.mem_cons.mp hq with rfl | hq
    · exact ⟨hr2, n0.2⟩
    · rw [List.mem_singleton.mp hq]; exact ⟨hy2, n1.2⟩)) N2
  simp only [List.cons_append, List.nil_append] at N3
  have off : ∀ b ∈ x.r :: x.d :: x.lists, b ≠ T.l ∧ b ≠ y.c := fun b hb => ⟨fun z => (by have z1 := fr b hb; rw [z, n0.1] at z1; cases z1), fun z => (by have z1 := fr b hb; rw [z, n1.1] at z1; cases z1)⟩
  have fs : ∀ b ∈ x.r :: x.d :: x.lists, s.heap.get? b = none := fun b hb => by
    cases z : s.heap.get? b with
    | none => rfl
    | some o =>
      have z1 := F0.keep _ _ (up b o z (by simpa using off b hb))
      rw [fr b hb] at z1; cases z1
  have m0 := neN hne
  have m1 := neN (off x.r (by simp)).2
  have m2 := neN (off x.d (by simp)).2
  have m3 := neN (off x.c (by simp [RRef.lists])).2
  have m4 := neN (off x.a (by simp [RRef.lists])).2
  have m5 := neN (off x.n (by simp [RRef.lists])).2
  have hz1 : (d.ch.toArray.push (Value.int xs.length u2)).size ≤ 1000 := by simp; omega
  have hpl : p.toNat < xs.length := (List.getElem?_eq_some_iff.mp hy).1
  have hx2 : ((xs ++ [x]).map fun x => Value.ref x.r).toArray[p.toNat]? = some (Value.ref y.r) := by
    rw [List.getElem?_toArray, List.getElem?_map, List.getElem?_append_left hpl, hy]; rfl
  have nd2 := t2.nodup
  clear F0 N0 N2 t1 tc t2 k2 n0 n1 hr2 hy2 rx fr off
  have fin : ∀ (h' : Heap) (e' : Nat) (d' : NRow), Keep [T.l, y.c] s.heap h' → h'.get? T.l = some (listOf (((xs ++ [x]).map fun x => Value.ref x.r).toArray) e') → RowAt h' y d' → RowAt h' x ⟨kind, name, uri, loc, value, [], [], []⟩ →
      TreeAt h' T (xs ++ [x]) (ds.set p.toNat d' ++ [⟨kind, name, uri, loc, value, [], [], []⟩]) := fun h' e' d' a1 a2 a3 a4 => t.grow hy hd (by simp [RRef.lists]) a1 a2 a3 a4 nd2 hs
  generalize ((xs ++ [x]).map fun x => Value.ref x.r).toArray = its2 at hx2 N3 fin
  have ga := r.at_
  have gn := r.ns
  have gk := r.short
  have goff : ∀ b o, s.heap.get? b = some o → b ≠ T.l → b ≠ y.c → g.get? b = some o := fun b o z z1 z2 => up b o z (by simpa using ⟨z1, z2⟩)
  have hnl := t.l_off (List.mem_of_getElem? hy)
  have hyn : y.lists.Nodup := by
    have hnd := t.nodup
    rw [lists, List.nodup_cons] at hnd
    exact (List.pairwise_flatMap.mp hnd.2).1 _ (List.mem_of_getElem? hy)
  clear t r hd
  k_steps
  rename Fr _ _ _ _ => F4
  rename News _ _ _ _ => N4
  have kf : Keep [T.l, y.c] s.heap _ := keep_of_fr (mods := [T.l, y.c]) (fun b o e n => up b o e (by simpa using n)) F4
  obtain ⟨ea, ga⟩ := ga
  obtain ⟨en, gn⟩ := gn
  rw [RRef.lists] at hyn hnl
  simp only [List.nodup_cons, List.mem_cons, List.not_mem_nil, or_false, not_or, List.nodup_nil, and_true, not_false_eq_true] at hyn
  have ry : RowAt _ y { d with ch := d.ch ++ [.int xs.length u2] } := ⟨F4.keep _ _ g4, F4.keep _ _ g5, ⟨ec + 1, (N4.get (.tail _ (.head _))).trans (by simp)⟩,
    ⟨ea, F4.keep _ _ (goff _ _ ga (fun z => hnl y.a (by simp) (by simp [z])) (fun z => hyn.1.1 z.symm))⟩, ⟨en, F4.keep _ _ (goff _ _ gn (fun z => hnl y.n (by simp) (by simp [z])) (fun z => hyn.1.2 z.symm))⟩, by simp; omega⟩
  have rz := RowAt.mk (x := x) (d := ⟨kind, name, uri, loc, value, [], [], []⟩) (N4.get (by k_mem)) (N4.get (by k_mem)) ⟨e1, N4.get (by k_mem)⟩ ⟨e2, N4.get (by k_mem)⟩ ⟨e3, N4.get (by k_mem)⟩ (by simp)
  exact q x _ _ _ kf (fin _ _ _ kf (N4.get (.head _)) ry rz) fs
end
end Mine
namespace Mine
local macro_rules | `(tactic| k_inst) => `(tactic| (refine' inst_base ?F ?a ?b; (case F => k_asm); (case a => assumption); (case b => assumption)))
local macro_rules | `(tactic| walk_at "m st") => `(tactic| (refine' St.deep ?S ?G ?F ?n; (case S => assumption); (case G => assumption); (case F => k_asm); (case n => omega)))
local macro_rules | `(tactic| walk_at "call builtin:len") => `(tactic| (k_here; (with_reducible show wpAny _ _ (call (Value.builtin _) [Value.ref _]) _ _ _); (with_unfolding_all refine' len_list ?k1 ?k2 ?_; (case k1 => first | exact News.isList (by k_asm) (by k_mem) | exact Fr.lst (by k_asm) (by assumption)); (case k2 => exact Int.lt_of_le_of_lt (Int.ofNat_le.mpr (by assumption)) (by decide)))))
local macro_rules | `(tactic| walk_at "call builtin:list.append") => `(tactic| (k_here; (with_reducible show wpAny _ _ (call (Value.builtin _) [Value.ref _, _]) _ _ _); k_dflt (refine' append_K ?k1 ?k2 ?k3 ?_ ?z; (case k1 => k_asm); (case k2 => k_asm); (case k3 => k_upd); (case z => exact line_of (by assumption)); k_whole); intro h' F' N'; (try k_sweep)))
local macro_rules | `(tactic| walk_at "subscriptTail") => `(tactic| (k_here; (with_reducible show wpAny _ _ (subscriptTail _ _ (Value.ref _) (Value.int _ _)) _ _ _); (with_unfolding_all refine' item_listN ?F ?l ?a ?b ?c ?_ ?d; (case F => k_asm); (case l => k_mem); (case a => omega); (case b => omega); (case c => assumption); (case d => with_unfolding_all rfl); k_whole)))
section
variable {prog : Program} {w : World} {A : Around} {s : Shared} {H : Heap} {Q : Value → Shared → Prop} {E : Value → Shared → Prop} {T : TRef} {xs : List RRef} {ds : List NRow}
theorem none_sub {h h' : Heap} {b : Addr} (u : h.StaysIn h') (e : h'.get? b = none) : h.get? b = none := by
  cases z : h.get? b with
  | none => rfl
  | some o => rw [u b o z] at e; cases e
set_option maxHeartbeats 8000000 in
theorem add_element_c {p : Int} {tp : Tok} {d : NRow} {y : RRef} {name uri loc : Str} {t1 t2 t3 : Tok} (S : St 550 w A s.heap H) (t : TreeAt s.heap T xs ds) (hs : xs.length < 1000) (hH : ∀ b ∈ lists T xs, H.get? b = none)
    (h0 : 0 ≤ p) (hd : ds[p.toNat]? = some d) (hy : xs[p.toNat]? = some y) (hk : d.kind = Str.ofString "root" ∨ d.kind = Str.ofString "element") (hc : d.ch.length < 1000)
    (q : ∀ x h' tk' u, Keep [T.l, y.c] s.heap h' → TreeAt h' T (xs ++ [x]) (ds.set p.toNat { d with ch := d.ch ++ [.int xs.length u] } ++ [⟨Str.ofString "element", name, uri, loc, Str.ofString "", [], [], []⟩]) → (∀ b ∈ x.r :: x.d :: x.lists, s.heap.get? b = none) → Q (.int xs.length u) { s with heap := h', toks := tk' }) :
    wpAny (model prog w) A (call (.ref 180) [.ref T.t, .int p tp, .str name t1, .str uri t2, .str loc t3]) Q E s := by
  obtain ⟨e, hl⟩ := t.rows
  have r := t.all _ _ _ hy hd
  obtain ⟨ec, hc0⟩ := r.ch
  refine wpAny_call ?_
  refine' enter [(T.l, listOf (xs.map fun x => Value.ref x.r).toArray e), (y.c, listOf d.ch.toArray ec)] [(Str.ofString "self", .ref T.t), (Str.ofString "parent", .int p tp), (Str.ofString "name", .str name t1), (Str.ofString "uri", .str uri t2), (Str.ofString "local", .str loc t3)] S (by omega) (by intro q hq; rcases List.mem_cons.mp hq with rfl | hq; exact ⟨hl, hH _ (by simp [lists])⟩; rw [List.mem_singleton.mp hq]; exact ⟨hc0, hH _ (mem_lists (List.mem_of_getElem? hy) (by simp [RRef.lists]))⟩) ?ho ?hcd ?hbind ?hloc ?h ?hco ?hgen ?hk ?hcell
  case ho => k_is
  case hcd => k_is
  case hbind => exact BindsTo.of_eq rfl
  case hloc => exact locs rfl
  case hco => exact rfl
  case hgen => exact rfl
  case hk => exact rfl
  case hcell => decide
  intro g L h₁ mean mg mb up dn nL F N X Tp HG
  have g1 := up _ _ t.inst (by simp; exact ⟨ne_inst_list t.inst hl, ne_inst_list t.inst hc0⟩)
  have g2 := up _ _ t.dict (by simp; exact ⟨ne_dict_list t.dict hl, ne_dict_list t.dict hc0⟩)
  have u0 := keep0 up F N (by intro q hq; rcases List.mem_cons.mp hq with rfl | hq; exact hl; rw [List.mem_singleton.mp hq]; exact hc0)
  dsimp only
  k_steps
  rename Fr _ _ _ _ => F0
  refine add_child_c (S.deep HG F0 (by omega)) (t.up u0) hs hH h0 hd hy hk hc ?_
  intro x h' tk' u k t' fr
  exact q x h' tk' u (fun b o z n => k b o (u0 b o z) n) t' fun b hb => none_sub u0 (fr b hb)
set_option maxHeartbeats 8000000 in
theorem add_text_c {p : Int} {tp : Tok} {d : NRow} {y : RRef} {value : Str} {t1 : Tok} (S : St 550 w A s.heap H) (t : TreeAt s.heap T xs ds) (hs : xs.length < 1000) (hH : ∀ b ∈ lists T xs, H.get? b = none)
    (h0 : 0 ≤ p) (hd : ds[p.toNat]? = some d) (hy : xs[p.toNat]? = some y) (hk : d.kind = Str.ofString "root" ∨ d.kind = Str.ofString "element") (hc : d.ch.length < 1000)
    (q : ∀ x h' tk' u, Keep [T.l, y.c] s.heap h' → TreeAt h' T (xs ++ [x]) (ds.set p.toNat { d with ch := d.ch ++ [.int xs.length u] } ++ [⟨Str.ofString "text", Str.ofString "", Str.ofString "", Str.ofString "", value, [], [], []⟩]) → (∀ b ∈ x.r :: x.d :: x.lists, s.heap.get? b = none) → Q (.int xs.length u) { s with heap := h', toks := tk' }) :
    wpAny (model prog w) A (call (.ref 187) [.ref T.t, .int p tp, .str value t1]) Q E s := by
  obtain ⟨e, hl⟩ := t.rows
  have r := t.all _ _ _ hy hd
  obtain ⟨ec, hc0⟩ := r.ch
  refine wpAny_call ?_
  refine' enter [(T.l, listOf (xs.map fun x => Value.ref x.r).toArray e), (y.c, listOf d.ch.toArray ec)] [(Str.ofString "self", .ref T.t), (Str.ofString "parent", .int p tp), (Str.ofString "value", .str value t1)] S (by omega) (by intro q hq; rcases List.mem_cons.mp hq with rfl | hq; exact ⟨hl, hH _ (by simp [lists])⟩; rw [List.mem_singleton.mp hq]; exact ⟨hc0, hH _ (mem_lists (List.mem_of_getElem? hy) (by simp [RRef.lists]))⟩) ?ho ?hcd ?hbind ?hloc ?h ?hco ?hgen ?hk ?hcell
  case ho => k_is
  case hcd => k_is
  case hbind => exact BindsTo.of_eq rfl
  case hloc => exact locs rfl
  case hco => exact rfl
  case hgen => exact rfl
  case hk => exact rfl
  case hcell => decide
  intro g L h₁ mean mg mb up dn nL F N X Tp HG
  have g1 := up _ _ t.inst (by simp; exact ⟨ne_inst_list t.inst hl, ne_inst_list t.inst hc0⟩)
  have g2 := up _ _ t.dict (by simp; exact ⟨ne_dict_list t.dict hl, ne_dict_list t.dict hc0⟩)
  have u0 := keep0 up F N (by intro q hq; rcases List.mem_cons.mp hq with rfl | hq; exact hl; rw [List.mem_singleton.mp hq]; exact hc0)
  dsimp only
  k_steps
  rename Fr _ _ _ _ => F0
  refine add_child_c (S.deep HG F0 (by omega)) (t.up u0) hs hH h0 hd hy hk hc ?_
  intro x h' tk' u k t' fr
  exact q x h' tk' u (fun b o z n => k b o (u0 b o z) n) t' fun b hb => none_sub u0 (fr b hb)
set_option maxHeartbeats 8000000 in
theorem add_comment_c {p : Int} {tp : Tok} {d : NRow} {y : RRef} {value : Str} {t1 : Tok} (S : St 550 w A s.heap H) (t : TreeAt s.heap T xs ds) (hs : xs.length < 1000) (hH : ∀ b ∈ lists T xs, H.get? b = none)
    (h0 : 0 ≤ p) (hd : ds[p.toNat]? = some d) (hy : xs[p.toNat]? = some y) (hk : d.kind = Str.ofString "root" ∨ d.kind = Str.ofString "element") (hc : d.ch.length < 1000)
    (q : ∀ x h' tk' u, Keep [T.l, y.c] s.heap h' → TreeAt h' T (xs ++ [x]) (ds.set p.toNat { d with ch := d.ch ++ [.int xs.length u] } ++ [⟨Str.ofString "comment", Str.ofString "", Str.ofString "", Str.ofString "", value, [], [], []⟩]) → (∀ b ∈ x.r :: x.d :: x.lists, s.heap.get? b = none) → Q (.int xs.length u) { s with heap := h', toks := tk' }) :
    wpAny (model prog w) A (call (.ref 194) [.ref T.t, .int p tp, .str value t1]) Q E s := by
  obtain ⟨e, hl⟩ := t.rows
  have r := t.all _ _ _ hy hd
  obtain ⟨ec, hc0⟩ := r.ch
  refine wpAny_call ?_
  refine' enter [(T.l, listOf (xs.map fun x => Value.ref x.r).toArray e), (y.c, listOf d.ch.toArray ec)] [(Str.ofString "self", .ref T.t), (Str.ofString "parent", .int p tp), (Str.ofString "value", .str value t1)] S (by omega) (by intro q hq; rcases List.mem_cons.mp hq with rfl | hq; exact ⟨hl, hH _ (by simp [lists])⟩; rw [List.mem_singleton.mp hq]; exact ⟨hc0, hH _ (mem_lists (List.mem_of_getElem? hy) (by simp [RRef.lists]))⟩) ?ho ?hcd ?hbind ?hloc ?h ?hco ?hgen ?hk ?hcell
  case ho => k_is
  case hcd => k_is
  case hbind => exact BindsTo.of_eq rfl
  case hloc => exact locs rfl
  case hco => exact rfl
  case hgen => exact rfl
  case hk => exact rfl
  case hcell => decide
  intro g L h₁ mean mg mb up dn nL F N X Tp HG
  have g1 := up _ _ t.inst (by simp; exact ⟨ne_inst_list t.inst hl, ne_inst_list t.inst hc0⟩)
  have g2 := up _ _ t.dict (by simp; exact ⟨ne_dict_list t.dict hl, ne_dict_list t.dict hc0⟩)
  have u0 := keep0 up F N (by intro q hq; rcases List.mem_cons.mp hq with rfl | hq; exact hl; rw [List.mem_singleton.mp hq]; exact hc0)
  dsimp only
  k_steps
  rename Fr _ _ _ _ => F0
  refine add_child_c (S.deep HG F0 (by omega)) (t.up u0) hs hH h0 hd hy hk hc ?_
  intro x h' tk' u k t' fr
  exact q x h' tk' u (fun b o z n => k b o (u0 b o z) n) t' fun b hb => none_sub u0 (fr b hb)
set_option maxHeartbeats 8000000 in
theorem add_instruction_c {p : Int} {tp : Tok} {d : NRow} {y : RRef} {target data : Str} {t1 t2 : Tok} (S : St 550 w A s.heap H) (t : TreeAt s.heap T xs ds) (hs : xs.length < 1000) (hH : ∀ b ∈ lists T xs, H.get? b = none)
    (h0 : 0 ≤ p) (hd : ds[p.toNat]? = some d) (hy : xs[p.toNat]? = some y) (hk : d.kind = Str.ofString "root" ∨ d.kind = Str.ofString "element") (hc : d.ch.length < 1000)
    (q : ∀ x h' tk' u, Keep [T.l, y.c] s.heap h' → TreeAt h' T (xs ++ [x]) (ds.set p.toNat { d with ch := d.ch ++ [.int xs.length u] } ++ [⟨Str.ofString "instruction", target, Str.ofString "", target, data, [], [], []⟩]) → (∀ b ∈ x.r :: x.d :: x.lists, s.heap.get? b = none) → Q (.int xs.length u) { s with heap := h', toks := tk' }) :
    wpAny (model prog w) A (call (.ref 201) [.ref T.t, .int p tp, .str target t1, .str data t2]) Q E s := by
  obtain ⟨e, hl⟩ := t.rows
  have r := t.all _ _ _ hy hd
  obtain ⟨ec, hc0⟩ := r.ch
  refine wpAny_call ?_
  refine' enter [(T.l, listOf (xs.map fun x => Value.ref x.r).toArray e), (y.c, listOf d.ch.toArray ec)] [(Str.ofString "self", .ref T.t), (Str.ofString "parent", .int p tp), (Str.ofString "target", .str target t1), (Str.ofString "data", .str data t2)] S (by omega) (by intro q hq; rcases List.mem_cons.mp hq with rfl | hq; exact ⟨hl, hH _ (by simp [lists])⟩; rw [List.mem_singleton.mp hq]; exact ⟨hc0, hH _ (mem_lists (List.mem_of_getElem? hy) (by simp [RRef.lists]))⟩) ?ho ?hcd ?hbind ?hloc ?h ?hco ?hgen ?hk ?hcell
  case ho => k_is
  case hcd => k_is
  case hbind => exact BindsTo.of_eq rfl
  case hloc => exact locs rfl
  case hco => exact rfl
  case hgen => exact rfl
  case hk => exact rfl
  case hcell => decide
  intro g L h₁ mean mg mb up dn nL F N X Tp HG
  have g1 := up _ _ t.inst (by simp; exact ⟨ne_inst_list t.inst hl, ne_inst_list t.inst hc0⟩)
  have g2 := up _ _ t.dict (by simp; exact ⟨ne_dict_list t.dict hl, ne_dict_list t.dict hc0⟩)
  have u0 := keep0 up F N (by intro q hq; rcases List.mem_cons.mp hq with rfl | hq; exact hl; rw [List.mem_singleton.mp hq]; exact hc0)
  dsimp only
  k_steps
  rename Fr _ _ _ _ => F0
  refine add_child_c (S.deep HG F0 (by omega)) (t.up u0) hs hH h0 hd hy hk hc ?_
  intro x h' tk' u k t' fr
  exact q x h' tk' u (fun b o z n => k b o (u0 b o z) n) t' fun b hb => none_sub u0 (fr b hb)
set_option maxHeartbeats 8000000 in
theorem new_root_c (S : St 560 w A s.heap H) (t : TreeAt s.heap T xs ds) (hs : xs.length < 1000) (hH : H.get? T.l = none)
    (q : ∀ x h' tk' u, Keep [T.l] s.heap h' → TreeAt h' T (xs ++ [x]) (ds ++ [⟨Str.ofString "root", Str.ofString "", Str.ofString "", Str.ofString "", Str.ofString "", [], [], []⟩]) → (∀ b ∈ x.r :: x.d :: x.lists, s.heap.get? b = none) → Q (.int xs.length u) { s with heap := h', toks := tk' }) :
    wpAny (model prog w) A (call (.ref 166) [.ref T.t]) Q E s := by
  obtain ⟨e, hl⟩ := t.rows
  refine wpAny_call ?_
  refine' enter [(T.l, listOf (xs.map fun x => Value.ref x.r).toArray e)] [(Str.ofString "self", .ref T.t)] S (by omega) (by intro q hq; rw [List.mem_singleton.mp hq]; exact ⟨hl, hH⟩) ?ho ?hcd ?hbind ?hloc ?h ?hco ?hgen ?hk ?hcell
  case ho => k_is
  case hcd => k_is
  case hbind => exact BindsTo.of_eq rfl
  case hloc => exact locs rfl
  case hco => exact rfl
  case hgen => exact rfl
  case hk => exact rfl
  case hcell => decide
  intro g L h₁ mean mg mb up dn nL F N X Tp HG
  have g1 := up _ _ t.inst (by simpa using ne_inst_list t.inst hl)
  have g2 := up _ _ t.dict (by simpa using ne_dict_list t.dict hl)
  have u0 := keep0 up F N (by intro q hq; rw [List.mem_singleton.mp hq]; exact hl)
  dsimp only
  k_steps
  rename Fr _ _ _ _ => F0
  refine new_row_c (S.deep HG F0 (by omega)) (t.up u0) hs hH ?_
  intro x h' tk' u k t' fr _
  exact q x h' tk' u (fun b o z n => k b o (u0 b o z) n) t' fun b hb => none_sub u0 (fr b hb)
set_option maxHeartbeats 8000000 in
theorem tree_c (S : St 580 w A s.heap H)
    (q : ∀ T h' tk', Keep [] s.heap h' → TreeAt h' T [] [] → (∀ b ∈ [T.t, T.d, T.l], s.heap.get? b = none) → Q (.ref T.t) { s with heap := h', toks := tk' }) :
    wpAny (model prog w) A (call (.ref 316) []) Q E s := by
  refine' make0 (S.XH.keeps S.W) ?hm ?hi ?hf ?h0
  case hm => k_is
  case hi => k_is
  case hf => k_is
  intro x dx h0 k0 hx hdx nx ndx lt0
  replace lt0 := ltN lt0
  have S1 : St 581 w _ h0 H := S.make (C := 316) (vals := []) k0 (by omega)
  refine' enter [(x, instObj 316 dx), (dx, dictOf [] 0)] [(Str.ofString "self", .ref x)] S1 (by omega) (by intro q hq; rcases List.mem_cons.mp hq with rfl | hq; exact ⟨hx, none_H S nx⟩; rcases List.mem_cons.mp hq with rfl | hq; exact ⟨hdx, none_H S ndx⟩; cases hq) ?ho ?hcd ?hbind ?hloc ?h ?hco ?hgen ?hk ?hcell
  case ho => k_is
  case hcd => k_is
  case hbind => exact BindsTo.of_eq rfl
  case hloc => exact locs rfl
  case hco => exact rfl
  case hgen => exact rfl
  case hk => exact rfl
  case hcell => decide
  intro g L h₁ mean mg mb up dn nL F N X Tp HG
  have hn : ∀ q ∈ [(x, instObj 316 dx), (dx, dictOf [] 0)], s.heap.get? q.1 = none := by (intro q hq; rcases List.mem_cons.mp hq with rfl | hq; exact nx; rcases List.mem_cons.mp hq with rfl | hq; exact ndx; cases hq)
  have fin : ∀ {l : Addr} {h' : Heap} {hs : Int} {tk : Tok} {k e : Nat} {m : Str → Option Value}, Fr g L h' m → News g L h' [(l, listOf #[] e), (x, instObj 316 dx), (dx, dictOf [⟨hs, .str (Str.ofString "rows") tk, .ref l⟩] k)] → Keep [] s.heap h' ∧ TreeAt h' ⟨x, dx, l, hs, tk, k⟩ [] [] ∧ ∀ b ∈ [x, dx, l], s.heap.get? b = none := by
    intro l h' hs tk k e m F' N'
    refine ⟨keep_up k0 up hn F', ⟨N'.get (by k_mem), N'.get (by k_mem), ⟨e, N'.get (by k_mem)⟩, rfl, fun i x d hx => (by simp at hx), by simp [lists], by simp⟩, fun b hb => ?_⟩
    simp only [List.mem_cons, List.not_mem_nil, or_false] at hb
    rcases hb with rfl | rfl | rfl
    · exact nx
    · exact ndx
    · exact fresh_of k0 up hn (N' _ (.head _)).2.2
  dsimp only
  k_steps
  rename Fr _ _ _ _ => F4
  rename News _ _ _ _ => N4
  obtain ⟨z1, z2, z3⟩ := fin F4 N4
  exact ⟨rfl, q _ _ _ z1 z2 z3⟩
end
end Mine
namespace Mine
theorem fr_cases {g h : Heap} {L : Addr} {x : Str} {v : Value} {m₁ m₀ : Str → Option Value} {st : List Str} (F : Fr g L h (fun y => if y = x then some v else m₁ y)) (e : ∀ z, st.contains z = false → m₁ z = m₀ z) :
    Fr g L h (fun y => if y = x then some v else if st.contains y then m₁ y else m₀ y) := by
  have q : (fun y => if y = x then some v else m₁ y) = (fun y => if y = x then some v else if st.contains y then m₁ y else m₀ y) := by
    funext y
    by_cases h1 : y = x
    · simp [h1]
    · simp only [h1, if_false]
      cases h2 : st.contains y with
      | true => simp
      | false => simp [e y h2]
  rw [← q]; exact F
theorem fr_after {g h : Heap} {L : Addr} {m₁ m₀ : Str → Option Value} {st : List Str} (F : Fr g L h m₁) (e : ∀ z, st.contains z = false → m₁ z = m₀ z) : Fr g L h (fun y => if st.contains y then m₁ y else m₀ y) := by
  have q : m₁ = (fun y => if st.contains y then m₁ y else m₀ y) := by
    funext y
    cases h2 : st.contains y with
    | true => simp
    | false => simp [e y h2]
  rw [← q]; exact F

/-- what a turn of a loop leaves: the loop's state moved on, its own names alone stored -/
noncomputable def LpEnd {σ : Type} (g : Heap) (L : Addr) (Led : σ → List (Addr × Obj)) (P : σ → Prop) (stored : List Str) (m₀ : Str → Option Value) (own : List (Addr × Obj)) (s₁ s₂ : Shared) : Prop :=
  ∃ (c : σ) (h' : Heap) (tk : Nat) (m' : Str → Option Value) (news' : List (Addr × Obj)), s₂ = { s₁ with heap := h', toks := tk } ∧ P c ∧ Fr g L h' m' ∧ News g L h' news' ∧ (∀ p ∈ Led c, p ∈ news') ∧ (∀ p ∈ own, p ∈ news') ∧ OwnOff own ((Led c).map (·.1)) ∧ ∀ z, stored.contains z = false → m' z = m₀ z
noncomputable def LpPost {σ : Type} (g : Heap) (L : Addr) (Led : σ → List (Addr × Obj)) (P : σ → Prop) (stored : List Str) (m₀ : Str → Option Value) (own : List (Addr × Obj)) (s₁ : Shared) (Q : Flow → Shared → Prop) (f : Flow) (s₂ : Shared) : Prop := match f with
  | .ret v => Q (.ret v) s₂
  | .brk => Q .next s₂
  | _ => LpEnd g L Led P stored m₀ own s₁ s₂
section
variable {prog : Program} {w : World} {A : Around} {E : Value → Shared → Prop} {s : Shared} {env : Env} {g : Heap} {x : Str} {body : List Stmt} {Q : Flow → Shared → Prop}
theorem loop_st {σ : Type} {l : Addr} {vs : List Value} {nn : Nat} {m₀ : Str → Option Value} (Led : σ → List (Addr × Obj)) (P : Nat → σ → Prop) (c₀ : σ) (stored : List Str) (hx : stored.contains x = true)
    (hh : A.handled = none) (hl : ∀ c, (l, listOf vs.toArray nn) ∈ Led c) (F : Fr g env.locals s.heap m₀) (N : News g env.locals s.heap (Led c₀)) (hp : P 0 c₀)
    (turn : ∀ i v c (m₁ : Str → Option Value) h tk own, vs[i]? = some v → P i c → OwnOff own ((Led c).map (·.1)) → Fr g env.locals h (fun y => if y = x then some v else if stored.contains y then m₁ y else m₀ y) → News g env.locals h (Led c ++ own) →
      wpAny (model prog w) A (execs body env) (LpPost g env.locals Led (P (i + 1)) stored m₀ own { s with heap := h, toks := tk } Q) E { s with heap := h, toks := tk })
    (done : ∀ c (m₁ : Str → Option Value) h tk, P vs.length c → Fr g env.locals h (fun y => if stored.contains y then m₁ y else m₀ y) → News g env.locals h (Led c) → Q .next { s with heap := h, toks := tk }) :
    wpAny (model prog w) A (pyIter (.ref l)) (fun it s₂ => LoopAtV prog w A g env x body Q E it s₂) E s := by
  have _ := hx
  refine kdl_iter (news := Led c₀) (fun i m nx => (∃ c, nx = Led c ∧ P i c) ∧ ∀ z, stored.contains z = false → m z = m₀ z) hh (hl c₀) F N ⟨⟨c₀, rfl, hp⟩, fun _ _ => rfl⟩ ?_ ?_
  · rintro i v m₁ nx h tk own hv hoff _ ⟨⟨c, rfl, hP⟩, hm⟩ F₁ N₁
    refine wpAny_mono (turn i v c m₁ h tk own hv hP hoff (fr_cases F₁ hm) N₁) (fun f s₂ p => ?_) fun _ _ e => e
    have fin : LpEnd g env.locals Led (P (i + 1)) stored m₀ own { s with heap := h, toks := tk } s₂ → InvEndG g env.locals (fun m' nx => (l, listOf vs.toArray nn) ∈ nx ∧ (∃ c, nx = Led c ∧ P (i + 1) c) ∧ ∀ z, stored.contains z = false → m' z = m₀ z) own { s with heap := h, toks := tk } s₂ := by
      rintro ⟨c', h', tk', m', news', e, hP', F', N', hn, ho, ha, hm'⟩
      exact ⟨h', tk', m', news', Led c', e, F', N', hn, ho, ha, hl c', ⟨c', rfl, hP'⟩, hm'⟩
    cases f with
    | ret v => exact p
    | brk => exact p
    | next => exact fin p
    | cont => exact fin p
  · rintro m₁ nx h tk ⟨⟨c, rfl, hP⟩, hm⟩ F₁ N₁
    exact done c m₁ h tk hP (fr_after F₁ hm) N₁
theorem loop_bs {σ : Type} {l : Addr} {vs : List Value} {m₀ : Str → Option Value} (Led : σ → List (Addr × Obj)) (P : Nat → σ → Prop) (c₀ : σ) (stored : List Str) (hx : stored.contains x = true)
    (hh : A.handled = none) (hl : g.IsList l vs.toArray) (F : Fr g env.locals s.heap m₀) (N : News g env.locals s.heap (Led c₀)) (hp : P 0 c₀)
    (turn : ∀ i v c (m₁ : Str → Option Value) h tk own, vs[i]? = some v → P i c → OwnOff own ((Led c).map (·.1)) → Fr g env.locals h (fun y => if y = x then some v else if stored.contains y then m₁ y else m₀ y) → News g env.locals h (Led c ++ own) →
      wpAny (model prog w) A (execs body env) (LpPost g env.locals Led (P (i + 1)) stored m₀ own { s with heap := h, toks := tk } Q) E { s with heap := h, toks := tk })
    (done : ∀ c (m₁ : Str → Option Value) h tk, P vs.length c → Fr g env.locals h (fun y => if stored.contains y then m₁ y else m₀ y) → News g env.locals h (Led c) → Q .next { s with heap := h, toks := tk }) :
    wpAny (model prog w) A (pyIter (.ref l)) (fun it s₂ => LoopAtV prog w A g env x body Q E it s₂) E s := by
  have _ := hx
  have hls : s.heap.IsList l vs.toArray := hl.at fun o e => F.keep l o e
  obtain ⟨ol, hol, _⟩ := id hl
  have hlt : l < g.objs.size := Heap.lt_size hol
  have hne : l ≠ s.heap.objs.size := Nat.ne_of_lt (Nat.lt_trans (Nat.lt_of_lt_of_le hlt F.above) F.ns.lt)
  refine wpAny_pyIter_list hls ?_
  have W := Walks.list (prog := prog) (w := w) hh s.heap.objs.size l hne vs.toArray
  have hlen : vs.toArray.size = vs.length := by simp
  rw [hlen] at W
  refine ⟨_, _, _, vs.length, _, _, m₀, Led c₀, (fun i m nx => (∃ c, nx = Led c ∧ P i c) ∧ ∀ z, stored.contains z = false → m z = m₀ z), rfl, W, ?_, ?_, ?_, ⟨⟨_, Heap.get?_push_size _ rfl, rfl, rfl⟩, hls.at fun o e => Heap.get?_push_of_some _ e⟩, F.push _, (fun p hp => ⟨Heap.get?_push_of_some _ (N p hp).1, (N p hp).2⟩), ⟨⟨c₀, rfl, hp⟩, fun _ _ => rfl⟩, ?_, ?_⟩
  · intro hm
    rcases List.mem_cons.mp hm with e | hm
    · exact absurd F.ns.lt (e ▸ Nat.lt_irrefl _)
    · have := F.above
      rw [List.mem_singleton.mp hm] at this
      exact absurd (Nat.lt_of_lt_of_le hlt this) (Nat.lt_irrefl _)
  · intro b hb
    rw [List.mem_singleton.mp hb]
    exact next_is_new F
  · intro p hp hI
    exact absurd (Heap.lt_size (N p hp).1) ((List.mem_singleton.mp hI) ▸ Nat.lt_irrefl _)
  · rintro i v m₁ nx s₁ own ⟨hh', tk', rfl⟩ hin hP ⟨⟨c, rfl, hPc⟩, hm⟩ hoff hown hget hfp hst F₁ N₁
    have hP' : vs[i]? = some v := by simpa using hP
    have hI0 : g.get? s.heap.objs.size = none := next_is_new F
    obtain ⟨⟨oI, hoI, _⟩, _⟩ := id hst
    have hIown : (s.heap.objs.size, oI) ∈ own := hfp _ (List.mem_cons.mpr (.inl rfl)) hI0 _ hoI
    have hown' : ∀ p ∈ own, p.1 = s.heap.objs.size := fun p hp => by
      rcases List.mem_cons.mp (hown p hp) with e | e
      · exact e
      · have h1 := (N₁ p (List.mem_append.mpr (.inl hp))).2.2
        rw [List.mem_singleton.mp e, hol] at h1; cases h1
    have hsep : OwnOff own ((Led c).map (·.1)) := by
      intro p hp b hb e
      obtain ⟨q, hq, rfl⟩ := List.mem_map.mp hb
      exact hoff q hq (List.mem_singleton.mpr (e ▸ hown' p hp))
    have N₂ : News g env.locals hh' (Led c ++ own) := fun p hp => N₁ p ((List.mem_append.mp hp).elim (fun h => List.mem_append.mpr (.inr h)) fun h => List.mem_append.mpr (.inl h))
    refine wpAny_mono (turn i v c m₁ hh' tk' own hP' hPc hsep (fr_cases F₁ hm) N₂) (fun f s₂ p => ?_) fun _ _ e => e
    have fin : LpEnd g env.locals Led (P (i + 1)) stored m₀ own { s with heap := hh', toks := tk' } s₂ →
        LoopStepU g env.locals [s.heap.objs.size] own (fun m nx => (∃ c, nx = Led c ∧ P (i + 1) c) ∧ ∀ z, stored.contains z = false → m z = m₀ z) { s with heap := hh', toks := tk' } .next s₂ := by
      rintro ⟨c', h', tk, m', news', e, hPc', F', N', hn, ho, ha, hm'⟩
      refine ⟨rfl, h', tk, m', Led c', e, F', fun p hp => ?_, fun p hp hq => ?_, ⟨c', rfl, hPc'⟩, hm'⟩
      · rcases List.mem_append.mp hp with h | h
        · exact N' p (ho p h)
        · exact N' p (hn p h)
      · exact ha _ hIown p.1 (List.mem_map.mpr ⟨p, hp, rfl⟩) (List.mem_singleton.mp hq).symm
    cases f with
    | ret v => exact .ret p
    | brk => exact .brk p
    | next => exact .next (fin p)
    | cont => exact .cont (fin p)
  · rintro h' tk m' news' F' N' _ ⟨⟨c, rfl, hPc⟩, hm⟩
    exact done c m' h' tk hPc (fr_after F' hm) N'
end
end Mine
namespace Mine
local macro_rules | `(tactic| k_inst) => `(tactic| (refine' inst_base ?F ?a ?b; (case F => k_asm); (case a => assumption); (case b => assumption)))
local macro_rules | `(tactic| walk_at "m st") => `(tactic| (refine' St.deep ?S ?G ?F ?n; (case S => assumption); (case G => assumption); (case F => k_asm); (case n => omega)))
local macro_rules | `(tactic| walk_at "call builtin:len") => `(tactic| (k_here; (with_reducible show wpAny _ _ (call (Value.builtin _) [Value.ref _]) _ _ _); (with_unfolding_all refine' len_list ?k1 ?k2 ?_; (case k1 => first | exact News.isList (by k_asm) (by k_mem) | exact Fr.lst (by k_asm) (by assumption)); (case k2 => exact Int.lt_of_le_of_lt (Int.ofNat_le.mpr (by assumption)) (by decide)))))
local macro_rules | `(tactic| walk_at "call builtin:list.append") => `(tactic| (k_here; (with_reducible show wpAny _ _ (call (Value.builtin _) [Value.ref _, _]) _ _ _); k_dflt (refine' append_K ?k1 ?k2 ?k3 ?_ ?z; (case k1 => k_asm); (case k2 => k_asm); (case k3 => k_upd); (case z => exact line_of (by assumption)); k_whole); intro h' F' N'; (try k_sweep)))
local macro_rules | `(tactic| walk_at "subscriptTail") => `(tactic| (k_here; (with_reducible show wpAny _ _ (subscriptTail _ _ (Value.ref _) (Value.int _ _)) _ _ _); (with_unfolding_all refine' item_listN ?F ?l ?a ?b ?c ?_ ?d; (case F => k_asm); (case l => k_mem); (case a => omega); (case b => omega); (case c => assumption); (case d => with_unfolding_all rfl); k_whole)))
local macro_rules | `(tactic| walk_at "call ref") => `(tactic| (k_here; (with_reducible show wpAny _ _ (call (Value.ref 159) _ _) _ _ _); (refine' row_c ?S ?t ?a ?b ?_; (case S => walk_at "m st"); (case t => assumption); (case a => omega); (case b => assumption)); intro h' tk' k'; (have t' := TreeAt.up k'.nil (by assumption)); (have F' := fr_stay (by k_asm) k'); (have N' := news_stay (by k_asm) k'); k_sweep))
section
variable {prog : Program} {w : World} {A : Around} {s : Shared} {H : Heap} {Q : Value → Shared → Prop} {E : Value → Shared → Prop} {T : TRef} {xs : List RRef} {ds : List NRow}

set_option maxHeartbeats 8000000 in
theorem element_row_c {i : Int} {ti : Tok} {x : RRef} {d : NRow} (S : St 590 w A s.heap H) (t : TreeAt s.heap T xs ds) (h0 : 0 ≤ i) (hx : xs[i.toNat]? = some x) (hd : ds[i.toNat]? = some d) (hk : d.kind = Str.ofString "element")
    (q : ∀ h' tk', Keep [] s.heap h' → Q (.ref x.r) { s with heap := h', toks := tk' }) :
    wpAny (model prog w) A (call (.ref 208) [.ref T.t, .int i ti]) Q E s := by
  have r := t.all _ _ _ hx hd
  obtain ⟨kind, name, uri, loc, value, ch, at_, ns⟩ := d
  dsimp only at hk
  subst hk
  refine wpAny_call ?_
  refine' enter [] [(Str.ofString "self", .ref T.t), (Str.ofString "element", .int i ti)] S (by omega) (by simp) ?ho ?hcd ?hbind ?hloc ?h ?hco ?hgen ?hk ?hcell
  case ho => k_is
  case hcd => k_is
  case hbind => exact BindsTo.of_eq rfl
  case hloc => exact locs rfl
  case hco => exact rfl
  case hgen => exact rfl
  case hk => exact rfl
  case hcell => decide
  intro g L h₁ mean mg mb up dn nL F N X Tp HG
  have tg : TreeAt g T xs ds := t.up fun b o e => up b o e (by simp)
  have rg := r.up fun b o e => up b o e (by simp)
  have g1 := tg.inst
  have g2 := tg.dict
  have g4 := rg.inst
  have g5 := rg.dict
  have tc : TreeAt h₁ T xs ds := tg.up (Fr.keep F)
  clear t r
  dsimp only
  k_steps
  all_goals (first | exact q _ _ (keep_of_fr up (by assumption)) | skip)
  all_goals w_report
set_option maxHeartbeats 8000000 in
theorem set_attribute_c {i : Int} {ti : Tok} {y : RRef} {d : NRow} {name uri loc value : Str} {t1 t2 t3 t4 : Tok} (S : St 560 w A s.heap H) (t : TreeAt s.heap T xs ds) (hs : xs.length < 1000) (hH : ∀ b ∈ lists T xs, H.get? b = none)
    (h0 : 0 ≤ i) (hy : xs[i.toNat]? = some y) (hd : ds[i.toNat]? = some d) (hk : d.kind = Str.ofString "element") (hc : d.at_.length < 1000)
    (hno : ∀ v ∈ d.at_, ∃ (k : Nat) (tk : Tok) (x' : RRef) (d' : NRow), v = .int k tk ∧ xs[k]? = some x' ∧ ds[k]? = some d' ∧ ¬ (d'.uri = uri ∧ d'.loc = loc))
    (q : ∀ x h' tk' u, Keep [T.l, y.a] s.heap h' → TreeAt h' T (xs ++ [x]) (ds.set i.toNat { d with at_ := d.at_ ++ [.int xs.length u] } ++ [⟨Str.ofString "attribute", name, uri, loc, value, [], [], []⟩]) → (∀ b ∈ x.r :: x.d :: x.lists, s.heap.get? b = none) → Q (.int xs.length u) { s with heap := h', toks := tk' }) :
    wpAny (model prog w) A (call (.ref 215) [.ref T.t, .int i ti, .str name t1, .str uri t2, .str loc t3, .str value t4]) Q E s := by
  obtain ⟨e, hl⟩ := t.rows
  have r := t.all _ _ _ hy hd
  obtain ⟨ea, ha0⟩ := r.at_
  have hne : T.l ≠ y.a := fun z => t.l_off (List.mem_of_getElem? hy) y.a (by simp [RRef.lists]) (by simp [z])
  refine wpAny_call ?_
  refine' enter [(T.l, listOf (xs.map fun x => Value.ref x.r).toArray e), (y.a, listOf d.at_.toArray ea)] [(Str.ofString "self", .ref T.t), (Str.ofString "element", .int i ti), (Str.ofString "name", .str name t1), (Str.ofString "uri", .str uri t2), (Str.ofString "local", .str loc t3), (Str.ofString "value", .str value t4)] S (by omega) (by intro q hq; rcases List.mem_cons.mp hq with rfl | hq; exact ⟨hl, hH _ (by simp [lists])⟩; rw [List.mem_singleton.mp hq]; exact ⟨ha0, hH _ (mem_lists (List.mem_of_getElem? hy) (by simp [RRef.lists]))⟩) ?ho ?hcd ?hbind ?hloc ?h ?hco ?hgen ?hk ?hcell
  case ho => k_is
  case hcd => k_is
  case hbind => exact BindsTo.of_eq rfl
  case hloc => exact locs rfl
  case hco => exact rfl
  case hgen => exact rfl
  case hk => exact rfl
  case hcell => decide
  intro g L h₁ mean mg mb up dn nL F N X Tp HG
  have g1 := up _ _ t.inst (by simp; exact ⟨ne_inst_list t.inst hl, ne_inst_list t.inst ha0⟩)
  have g2 := up _ _ t.dict (by simp; exact ⟨ne_dict_list t.dict hl, ne_dict_list t.dict ha0⟩)
  have g4 := up _ _ r.inst (by simp; exact ⟨ne_inst_list r.inst hl, ne_inst_list r.inst ha0⟩)
  have g5 := up _ _ r.dict (by simp; exact ⟨ne_dict_list r.dict hl, ne_dict_list r.dict ha0⟩)
  have u0 := keep0 up F N (by intro q hq; rcases List.mem_cons.mp hq with rfl | hq; exact hl; rw [List.mem_singleton.mp hq]; exact ha0)
  have tc := t.up u0
  dsimp only
  k_steps
  rename Fr _ _ _ _ => F0
  refine element_row_c (S.deep HG F0 (by omega)) tc h0 hy hd hk ?_
  intro h2 tk2 k2
  have F2 := fr_stay F0 k2
  have N2 := news_stay N k2
  clear F0 N
  k_steps
  rename Fr _ _ _ _ => F3
  rename News _ _ _ _ => N3
  have hrow : ∀ (k : Nat) (x' : RRef) (d' : NRow), xs[k]? = some x' → ds[k]? = some d' → g.get? x'.r = some (instObj 127 x'.d) ∧ g.get? x'.d = some (dictOf (rowEs x' d') x'.k) := fun k x' d' z1 z2 => by
    have rr := t.all k x' d' z1 z2
    exact ⟨up _ _ rr.inst (by simp; exact ⟨ne_inst_list rr.inst hl, ne_inst_list rr.inst ha0⟩), up _ _ rr.dict (by simp; exact ⟨ne_dict_list rr.dict hl, ne_dict_list rr.dict ha0⟩)⟩
  have hits : ∀ (k : Nat) (x' : RRef), xs[k]? = some x' → (xs.map fun x => Value.ref x.r).toArray[((k : Int)).toNat]? = some (Value.ref x'.r) := fun k x' z => by simp [z]
  have hlen : ∀ (k : Nat) (x' : RRef), xs[k]? = some x' → (k : Int) < 2 ^ 62 := fun k x' z => by
    have := (List.getElem?_eq_some_iff.mp z).1
    omega
  refine loop_st (fun _ : Unit => [(T.l, listOf (xs.map fun x : RRef => Value.ref x.r).toArray e), (y.a, listOf d.at_.toArray ea)]) (fun _ _ => True) () [Str.ofString "node", Str.ofString "known"] (by decide +kernel) S.hh (fun _ => .tail _ (.head _)) F3 N3 trivial ?turn ?done
  case turn =>
    intro j v _ m₁ h tk own hv _ hoff F5 N5
    obtain ⟨k, tv, x', d', rfl, hx', hd', hne'⟩ := hno v (List.mem_of_getElem? hv)
    obtain ⟨q1, q2⟩ := hrow k x' d' hx' hd'
    have q3 := hits k x' hx'
    have q4 := hlen k x' hx'
    have q5 : (0 : Int) ≤ (k : Int) := Int.natCast_nonneg k
    clear N3 F3 t r tc
    generalize (xs.map fun x => Value.ref x.r).toArray = its at *
    simp only [List.cons_append, List.nil_append] at N5
    k_steps
    all_goals first | (exfalso; exact hne' ⟨eq_of_beq (by assumption), eq_of_beq (by assumption)⟩) | skip
    all_goals (refine ⟨(), _, _, _, _, rfl, trivial, by assumption, by assumption, fun p hp => List.mem_append_left own hp, fun p hp => List.mem_append_right _ hp, hoff, fun z hz => ?_⟩)
    all_goals (have hz' := hz; simp only [List.contains_cons, List.contains_nil, Bool.or_false, Bool.or_eq_false_iff, beq_eq_false_iff_ne, ne_eq] at hz'; simp [hz'.1, hz'.2])
  case done =>
    intro _ m₁ h tk _ F5 N5
    clear F3 N3 tc
    k_steps
    rename Fr _ _ _ _ => F0
    rename News _ _ _ _ => N0
    have u1 := keep0 up F0 N0 (by intro q hq; rcases List.mem_cons.mp hq with rfl | hq; exact hl; rw [List.mem_singleton.mp hq]; exact ha0)
    refine new_row_c (S.deep HG F0 (by omega)) (t.up u1) hs (hH _ (by simp [lists])) ?_
    intro x h2 tk2 u2 k2 t2 fr hpa
    have n0 := N0 _ (.head _)
    have n1 := N0 _ (.tail _ (.head _))
    have F2 := fr_back F0 k2 (by intro b hb; rw [List.mem_singleton.mp hb]; exact ⟨n0.2.2, n0.2.1⟩)
    have hxi : (xs ++ [x])[xs.length]? = some x := by simp
    have hdi : (ds ++ [⟨Str.ofString "attribute", name, uri, loc, value, [], [], []⟩])[xs.length]? = some (⟨Str.ofString "attribute", name, uri, loc, value, [], [], []⟩ : NRow) := by rw [t.len]; simp
    have rx := t2.all _ _ _ hxi hdi
    obtain ⟨e1, e2, e3, N2⟩ := row_led F0 rx fr
    obtain ⟨er, hr2⟩ := t2.rows
    have hy2 : h2.get? y.a = some (listOf d.at_.toArray ea) := k2 _ _ n1.1 (by simpa using hne.symm)
    have N3 := news_app (a := [(T.l, _), (y.a, _)]) (fun q hq => (by
      rcases List.mem_cons.mp hq with rfl | hq
      · exact ⟨hr2, n0.2⟩
      · rw [List.mem_singleton.mp hq]; exact ⟨hy2, n1.2⟩)) N2
    simp only [List.cons_append, List.nil_append] at N3
    have off : ∀ b ∈ x.r :: x.d :: x.lists, b ≠ T.l ∧ b ≠ y.a := fun b hb => ⟨fun z => (by have z1 := fr b hb; rw [z, n0.1] at z1; cases z1), fun z => (by have z1 := fr b hb; rw [z, n1.1] at z1; cases z1)⟩
    have fs : ∀ b ∈ x.r :: x.d :: x.lists, s.heap.get? b = none := fun b hb => none_sub u1 (fr b hb)
    have m0 := neN hne
    have m1 := neN (off x.r (by simp)).2
    have m2 := neN (off x.d (by simp)).2
    have m3 := neN (off x.c (by simp [RRef.lists])).2
    have m4 := neN (off x.a (by simp [RRef.lists])).2
    have m5 := neN (off x.n (by simp [RRef.lists])).2
    have hz1 : (d.at_.toArray.push (Value.int xs.length u2)).size ≤ 1000 := by simp; omega
    have nd2 := t2.nodup
    clear F0 N0 N2 t2 k2 n0 n1 hr2 hy2 rx fr off
    have fin : ∀ (h' : Heap) (e' : Nat) (d' : NRow), Keep [T.l, y.a] s.heap h' → h'.get? T.l = some (listOf (((xs ++ [x]).map fun x => Value.ref x.r).toArray) e') → RowAt h' y d' → RowAt h' x ⟨Str.ofString "attribute", name, uri, loc, value, [], [], []⟩ →
        TreeAt h' T (xs ++ [x]) (ds.set i.toNat d' ++ [⟨Str.ofString "attribute", name, uri, loc, value, [], [], []⟩]) := fun h' e' d' a1 a2 a3 a4 => t.grow hy hd (by simp [RRef.lists]) a1 a2 a3 a4 nd2 hs
    generalize ((xs ++ [x]).map fun x => Value.ref x.r).toArray = its2 at N3 fin
    have gc := r.ch
    have ga := r.at_
    have gn := r.ns
    have gk := r.short
    have goff : ∀ b o, s.heap.get? b = some o → b ≠ T.l → b ≠ y.a → g.get? b = some o := fun b o z z1 z2 => up b o z (by simpa using ⟨z1, z2⟩)
    have hnl := t.l_off (List.mem_of_getElem? hy)
    have hyn : y.lists.Nodup := by
      have hnd := t.nodup
      rw [lists, List.nodup_cons] at hnd
      exact (List.pairwise_flatMap.mp hnd.2).1 _ (List.mem_of_getElem? hy)
    clear t r hd u1 u0
    k_steps
    rename Fr _ _ _ _ => F4
    rename News _ _ _ _ => N4
    have kf : Keep [T.l, y.a] s.heap _ := keep_of_fr (mods := [T.l, y.a]) (fun b o e n => up b o e (by simpa using n)) F4
    obtain ⟨ec, gc⟩ := gc
    obtain ⟨ea', ga⟩ := ga
    obtain ⟨en, gn⟩ := gn
    rw [RRef.lists] at hyn hnl
    simp only [List.nodup_cons, List.mem_cons, List.not_mem_nil, or_false, not_or, List.nodup_nil, and_true, not_false_eq_true] at hyn
    have ry : RowAt _ y { d with at_ := d.at_ ++ [.int xs.length u2] } := ⟨F4.keep _ _ g4, F4.keep _ _ g5, ⟨ec, F4.keep _ _ (goff _ _ gc (fun z => hnl y.c (by simp) (by simp [z])) (fun z => hyn.1.1 z))⟩, ⟨ea + 1, (N4.get (.tail _ (.head _))).trans (by simp)⟩, ⟨en, F4.keep _ _ (goff _ _ gn (fun z => hnl y.n (by simp) (by simp [z])) (fun z => hyn.2 z.symm))⟩, by simp; omega⟩
    have rz := RowAt.mk (x := x) (d := ⟨Str.ofString "attribute", name, uri, loc, value, [], [], []⟩) (N4.get (by k_mem)) (N4.get (by k_mem)) ⟨e1, N4.get (by k_mem)⟩ ⟨e2, N4.get (by k_mem)⟩ ⟨e3, N4.get (by k_mem)⟩ (by simp)
    exact q x _ _ _ kf (fin _ _ _ kf (N4.get (.head _)) ry rz) fs
end
end Mine
namespace Mine
local macro_rules | `(tactic| k_inst) => `(tactic| (refine' inst_base ?F ?a ?b; (case F => k_asm); (case a => assumption); (case b => assumption)))
local macro_rules | `(tactic| walk_at "m st") => `(tactic| (refine' St.deep ?S ?G ?F ?n; (case S => assumption); (case G => assumption); (case F => k_asm); (case n => omega)))
local macro_rules | `(tactic| walk_at "call builtin:len") => `(tactic| (k_here; (with_reducible show wpAny _ _ (call (Value.builtin _) [Value.ref _]) _ _ _); (with_unfolding_all refine' len_list ?k1 ?k2 ?_; (case k1 => first | exact News.isList (by k_asm) (by k_mem) | exact Fr.lst (by k_asm) (by assumption)); (case k2 => exact Int.lt_of_le_of_lt (Int.ofNat_le.mpr (by assumption)) (by decide)))))
local macro_rules | `(tactic| walk_at "call builtin:list.append") => `(tactic| (k_here; (with_reducible show wpAny _ _ (call (Value.builtin _) [Value.ref _, _]) _ _ _); k_dflt (refine' append_K ?k1 ?k2 ?k3 ?_ ?z; (case k1 => k_asm); (case k2 => k_asm); (case k3 => k_upd); (case z => exact line_of (by assumption)); k_whole); intro h' F' N'; (try k_sweep)))
local macro_rules | `(tactic| walk_at "subscriptTail") => `(tactic| (k_here; (with_reducible show wpAny _ _ (subscriptTail _ _ (Value.ref _) (Value.int _ _)) _ _ _); (with_unfolding_all refine' item_listN ?F ?l ?a ?b ?c ?_ ?d; (case F => k_asm); (case l => k_mem); (case a => omega); (case b => omega); (case c => assumption); (case d => with_unfolding_all rfl); k_whole)))
section
variable {prog : Program} {w : World} {A : Around} {s : Shared} {H : Heap} {Q : Value → Shared → Prop} {E : Value → Shared → Prop} {T : TRef} {xs : List RRef} {ds : List NRow}
set_option maxHeartbeats 8000000 in
theorem add_namespace_c {i : Int} {ti : Tok} {y : RRef} {d : NRow} {pre uri : Str} {t1 t2 : Tok} (S : St 560 w A s.heap H) (t : TreeAt s.heap T xs ds) (hs : xs.length < 1000) (hH : ∀ b ∈ lists T xs, H.get? b = none)
    (h0 : 0 ≤ i) (hy : xs[i.toNat]? = some y) (hd : ds[i.toNat]? = some d) (hk : d.kind = Str.ofString "element") (hc : d.ns.length < 1000)
    (hno : ∀ v ∈ d.ns, ∃ (k : Nat) (tk : Tok) (x' : RRef) (d' : NRow), v = .int k tk ∧ xs[k]? = some x' ∧ ds[k]? = some d' ∧ d'.name ≠ pre)
    (q : ∀ x h' tk' u, Keep [T.l, y.n] s.heap h' → TreeAt h' T (xs ++ [x]) (ds.set i.toNat { d with ns := d.ns ++ [.int xs.length u] } ++ [⟨Str.ofString "namespace", pre, Str.ofString "", pre, uri, [], [], []⟩]) → (∀ b ∈ x.r :: x.d :: x.lists, s.heap.get? b = none) → Q (.int xs.length u) { s with heap := h', toks := tk' }) :
    wpAny (model prog w) A (call (.ref 222) [.ref T.t, .int i ti, .str pre t1, .str uri t2]) Q E s := by
  obtain ⟨e, hl⟩ := t.rows
  have r := t.all _ _ _ hy hd
  obtain ⟨ea, ha0⟩ := r.ns
  have hne : T.l ≠ y.n := fun z => t.l_off (List.mem_of_getElem? hy) y.n (by simp [RRef.lists]) (by simp [z])
  refine wpAny_call ?_
  refine' enter [(T.l, listOf (xs.map fun x => Value.ref x.r).toArray e), (y.n, listOf d.ns.toArray ea)] [(Str.ofString "self", .ref T.t), (Str.ofString "element", .int i ti), (Str.ofString "prefix", .str pre t1), (Str.ofString "uri", .str uri t2)] S (by omega) (by intro q hq; rcases List.mem_cons.mp hq with rfl | hq; exact ⟨hl, hH _ (by simp [lists])⟩; rw [List.mem_singleton.mp hq]; exact ⟨ha0, hH _ (mem_lists (List.mem_of_getElem? hy) (by simp [RRef.lists]))⟩) ?ho ?hcd ?hbind ?hloc ?h ?hco ?hgen ?hk ?hcell
  case ho => k_is
  case hcd => k_is
  case hbind => exact BindsTo.of_eq rfl
  case hloc => exact locs rfl
  case hco => exact rfl
  case hgen => exact rfl
  case hk => exact rfl
  case hcell => decide
  intro g L h₁ mean mg mb up dn nL F N X Tp HG
  have g1 := up _ _ t.inst (by simp; exact ⟨ne_inst_list t.inst hl, ne_inst_list t.inst ha0⟩)
  have g2 := up _ _ t.dict (by simp; exact ⟨ne_dict_list t.dict hl, ne_dict_list t.dict ha0⟩)
  have g4 := up _ _ r.inst (by simp; exact ⟨ne_inst_list r.inst hl, ne_inst_list r.inst ha0⟩)
  have g5 := up _ _ r.dict (by simp; exact ⟨ne_dict_list r.dict hl, ne_dict_list r.dict ha0⟩)
  have u0 := keep0 up F N (by intro q hq; rcases List.mem_cons.mp hq with rfl | hq; exact hl; rw [List.mem_singleton.mp hq]; exact ha0)
  have tc := t.up u0
  dsimp only
  k_steps
  rename Fr _ _ _ _ => F0
  refine element_row_c (S.deep HG F0 (by omega)) tc h0 hy hd hk ?_
  intro h2 tk2 k2
  have F2 := fr_stay F0 k2
  have N2 := news_stay N k2
  clear F0 N
  k_steps
  rename Fr _ _ _ _ => F3
  rename News _ _ _ _ => N3
  have hrow : ∀ (k : Nat) (x' : RRef) (d' : NRow), xs[k]? = some x' → ds[k]? = some d' → g.get? x'.r = some (instObj 127 x'.d) ∧ g.get? x'.d = some (dictOf (rowEs x' d') x'.k) := fun k x' d' z1 z2 => by
    have rr := t.all k x' d' z1 z2
    exact ⟨up _ _ rr.inst (by simp; exact ⟨ne_inst_list rr.inst hl, ne_inst_list rr.inst ha0⟩), up _ _ rr.dict (by simp; exact ⟨ne_dict_list rr.dict hl, ne_dict_list rr.dict ha0⟩)⟩
  have hits : ∀ (k : Nat) (x' : RRef), xs[k]? = some x' → (xs.map fun x => Value.ref x.r).toArray[((k : Int)).toNat]? = some (Value.ref x'.r) := fun k x' z => by simp [z]
  have hlen : ∀ (k : Nat) (x' : RRef), xs[k]? = some x' → (k : Int) < 2 ^ 62 := fun k x' z => by
    have := (List.getElem?_eq_some_iff.mp z).1
    omega
  refine loop_st (fun _ : Unit => [(T.l, listOf (xs.map fun x : RRef => Value.ref x.r).toArray e), (y.n, listOf d.ns.toArray ea)]) (fun _ _ => True) () [Str.ofString "node"] (by decide +kernel) S.hh (fun _ => .tail _ (.head _)) F3 N3 trivial ?turn ?done
  case turn =>
    intro j v _ m₁ h tk own hv _ hoff F5 N5
    obtain ⟨k, tv, x', d', rfl, hx', hd', hne'⟩ := hno v (List.mem_of_getElem? hv)
    obtain ⟨q1, q2⟩ := hrow k x' d' hx' hd'
    have q3 := hits k x' hx'
    have q4 := hlen k x' hx'
    have q5 : (0 : Int) ≤ (k : Int) := Int.natCast_nonneg k
    clear N3 F3 t r tc
    generalize (xs.map fun x => Value.ref x.r).toArray = its at *
    simp only [List.cons_append, List.nil_append] at N5
    k_steps
    all_goals first | (exfalso; exact hne' (eq_of_beq (by assumption))) | skip
    all_goals (refine ⟨(), _, _, _, _, rfl, trivial, by assumption, by assumption, fun p hp => List.mem_append_left own hp, fun p hp => List.mem_append_right _ hp, hoff, fun z hz => ?_⟩)
    all_goals (have hz' := hz; simp only [List.contains_cons, List.contains_nil, Bool.or_false, beq_eq_false_iff_ne, ne_eq] at hz'; simp [hz'])
  case done =>
    intro _ m₁ h tk _ F5 N5
    clear F3 N3 tc
    k_steps
    rename Fr _ _ _ _ => F0
    rename News _ _ _ _ => N0
    have u1 := keep0 up F0 N0 (by intro q hq; rcases List.mem_cons.mp hq with rfl | hq; exact hl; rw [List.mem_singleton.mp hq]; exact ha0)
    refine new_row_c (S.deep HG F0 (by omega)) (t.up u1) hs (hH _ (by simp [lists])) ?_
    intro x h2 tk2 u2 k2 t2 fr hpa
    have n0 := N0 _ (.head _)
    have n1 := N0 _ (.tail _ (.head _))
    have F2 := fr_back F0 k2 (by intro b hb; rw [List.mem_singleton.mp hb]; exact ⟨n0.2.2, n0.2.1⟩)
    have hxi : (xs ++ [x])[xs.length]? = some x := by simp
    have hdi : (ds ++ [⟨Str.ofString "namespace", pre, Str.ofString "", pre, uri, [], [], []⟩])[xs.length]? = some (⟨Str.ofString "namespace", pre, Str.ofString "", pre, uri, [], [], []⟩ : NRow) := by rw [t.len]; simp
    have rx := t2.all _ _ _ hxi hdi
    obtain ⟨e1, e2, e3, N2⟩ := row_led F0 rx fr
    obtain ⟨er, hr2⟩ := t2.rows
    have hy2 : h2.get? y.n = some (listOf d.ns.toArray ea) := k2 _ _ n1.1 (by simpa using hne.symm)
    have N3 := news_app (a := [(T.l, _), (y.n, _)]) (fun q hq => (by
      rcases List.mem_cons.mp hq with rfl | hq
      · exact ⟨hr2, n0.2⟩
      · rw [List.mem_singleton.mp hq]; exact ⟨hy2, n1.2⟩)) N2
    simp only [List.cons_append, List.nil_append] at N3
    have off : ∀ b ∈ x.r :: x.d :: x.lists, b ≠ T.l ∧ b ≠ y.n := fun b hb => ⟨fun z => (by have z1 := fr b hb; rw [z, n0.1] at z1; cases z1), fun z => (by have z1 := fr b hb; rw [z, n1.1] at z1; cases z1)⟩
    have fs : ∀ b ∈ x.r :: x.d :: x.lists, s.heap.get? b = none := fun b hb => none_sub u1 (fr b hb)
    have m0 := neN hne
    have m1 := neN (off x.r (by simp)).2
    have m2 := neN (off x.d (by simp)).2
    have m3 := neN (off x.c (by simp [RRef.lists])).2
    have m4 := neN (off x.a (by simp [RRef.lists])).2
    have m5 := neN (off x.n (by simp [RRef.lists])).2
    have hz1 : (d.ns.toArray.push (Value.int xs.length u2)).size ≤ 1000 := by simp; omega
    have nd2 := t2.nodup
    clear F0 N0 N2 t2 k2 n0 n1 hr2 hy2 rx fr off
    have fin : ∀ (h' : Heap) (e' : Nat) (d' : NRow), Keep [T.l, y.n] s.heap h' → h'.get? T.l = some (listOf (((xs ++ [x]).map fun x => Value.ref x.r).toArray) e') → RowAt h' y d' → RowAt h' x ⟨Str.ofString "namespace", pre, Str.ofString "", pre, uri, [], [], []⟩ →
        TreeAt h' T (xs ++ [x]) (ds.set i.toNat d' ++ [⟨Str.ofString "namespace", pre, Str.ofString "", pre, uri, [], [], []⟩]) := fun h' e' d' a1 a2 a3 a4 => t.grow hy hd (by simp [RRef.lists]) a1 a2 a3 a4 nd2 hs
    generalize ((xs ++ [x]).map fun x => Value.ref x.r).toArray = its2 at N3 fin
    have gc := r.ch
    have ga := r.at_
    have gn := r.ns
    have gk := r.short
    have goff : ∀ b o, s.heap.get? b = some o → b ≠ T.l → b ≠ y.n → g.get? b = some o := fun b o z z1 z2 => up b o z (by simpa using ⟨z1, z2⟩)
    have hnl := t.l_off (List.mem_of_getElem? hy)
    have hyn : y.lists.Nodup := by
      have hnd := t.nodup
      rw [lists, List.nodup_cons] at hnd
      exact (List.pairwise_flatMap.mp hnd.2).1 _ (List.mem_of_getElem? hy)
    clear t r hd u1 u0
    k_steps
    rename Fr _ _ _ _ => F4
    rename News _ _ _ _ => N4
    have kf : Keep [T.l, y.n] s.heap _ := keep_of_fr (mods := [T.l, y.n]) (fun b o e n => up b o e (by simpa using n)) F4
    obtain ⟨ec, gc⟩ := gc
    obtain ⟨ea', ga⟩ := ga
    obtain ⟨en, gn⟩ := gn
    rw [RRef.lists] at hyn hnl
    simp only [List.nodup_cons, List.mem_cons, List.not_mem_nil, or_false, not_or, List.nodup_nil, and_true, not_false_eq_true] at hyn
    have ry : RowAt _ y { d with ns := d.ns ++ [.int xs.length u2] } := ⟨F4.keep _ _ g4, F4.keep _ _ g5, ⟨ec, F4.keep _ _ (goff _ _ gc (fun z => hnl y.c (by simp) (by simp [z])) (fun z => hyn.1.2 z))⟩, ⟨ea', F4.keep _ _ (goff _ _ ga (fun z => hnl y.a (by simp) (by simp [z])) (fun z => hyn.2 z))⟩, ⟨ea + 1, (N4.get (.tail _ (.head _))).trans (by simp)⟩, by simp; omega⟩
    have rz := RowAt.mk (x := x) (d := ⟨Str.ofString "namespace", pre, Str.ofString "", pre, uri, [], [], []⟩) (N4.get (by k_mem)) (N4.get (by k_mem)) ⟨e1, N4.get (by k_mem)⟩ ⟨e2, N4.get (by k_mem)⟩ ⟨e3, N4.get (by k_mem)⟩ (by simp)
    exact q x _ _ _ kf (fin _ _ _ kf (N4.get (.head _)) ry rz) fs
end
end Mine
namespace Mine
local macro_rules | `(tactic| k_inst) => `(tactic| (refine' inst_base ?F ?a ?b; (case F => k_asm); (case a => assumption); (case b => assumption)))
local macro_rules | `(tactic| walk_at "m st") => `(tactic| (refine' St.deep ?S ?G ?F ?n; (case S => assumption); (case G => assumption); (case F => k_asm); (case n => omega)))
local macro_rules | `(tactic| walk_at "call builtin:len") => `(tactic| (k_here; (with_reducible show wpAny _ _ (call (Value.builtin _) [Value.ref _]) _ _ _); (with_unfolding_all refine' len_list ?k1 ?k2 ?_; (case k1 => first | exact News.isList (by k_asm) (by k_mem) | exact Fr.lst (by k_asm) (by assumption)); (case k2 => exact Int.lt_of_le_of_lt (Int.ofNat_le.mpr (by assumption)) (by decide)))))
local macro_rules | `(tactic| walk_at "call builtin:list.append") => `(tactic| (k_here; (with_reducible show wpAny _ _ (call (Value.builtin _) [Value.ref _, _]) _ _ _); k_dflt (refine' append_K ?k1 ?k2 ?k3 ?_ ?z; (case k1 => k_asm); (case k2 => k_asm); (case k3 => k_upd); (case z => exact line_of (by first | assumption | apply_assumption)); k_whole); intro h' F' N'; (try k_sweep)))
local macro_rules | `(tactic| walk_at "m tree") => `(tactic| (refine' TreeAt.up (Fr.keep ?F) ?t; (case F => k_asm); (case t => assumption)))
local macro_rules | `(tactic| walk_at "m end") => `(tactic| (intro h' tk' u' k'; (have F' := fr_stay (by k_asm) k'); (have N' := news_stay (by k_asm) k'); k_sweep))
local macro_rules | `(tactic| walk_at "call ref") => `(tactic| (k_here; (with_reducible show wpAny _ _ (call (Value.ref 236) _ _) _ _ _); (refine' kind_c ?S ?t ?a ?b ?_; (case S => walk_at "m st"); (case t => walk_at "m tree"); (case a => omega); (case b => assumption)); walk_at "m end"))
local macro_rules | `(tactic| walk_at "call ref") => `(tactic| (k_here; (with_reducible show wpAny _ _ (call (Value.ref 243) _ _) _ _ _); (refine' name_c ?S ?t ?a ?b ?_; (case S => walk_at "m st"); (case t => walk_at "m tree"); (case a => omega); (case b => assumption)); walk_at "m end"))
local macro_rules | `(tactic| walk_at "call ref") => `(tactic| (k_here; (with_reducible show wpAny _ _ (call (Value.ref 250) _ _) _ _ _); (refine' uri_c ?S ?t ?a ?b ?_; (case S => walk_at "m st"); (case t => walk_at "m tree"); (case a => omega); (case b => assumption)); walk_at "m end"))
local macro_rules | `(tactic| walk_at "call ref") => `(tactic| (k_here; (with_reducible show wpAny _ _ (call (Value.ref 257) _ _) _ _ _); (refine' local_c ?S ?t ?a ?b ?_; (case S => walk_at "m st"); (case t => walk_at "m tree"); (case a => omega); (case b => assumption)); walk_at "m end"))
local macro_rules | `(tactic| walk_at "call ref") => `(tactic| (k_here; (with_reducible show wpAny _ _ (call (Value.ref 264) _ _) _ _ _); (refine' value_c ?S ?t ?a ?b ?_; (case S => walk_at "m st"); (case t => walk_at "m tree"); (case a => omega); (case b => assumption)); walk_at "m end"))
local macro_rules | `(tactic| k_all) => `(tactic| assumption)
section
variable {prog : Program} {w : World} {A : Around} {s : Shared} {H : Heap} {Q : Value → Shared → Prop} {E : Value → Shared → Prop} {T : TRef} {xs : List RRef} {ds : List NRow}

/-- the ids of a list, and the rows that they name -/
inductive IdsAre (ds : List NRow) : List Value → List NRow → Prop
  | nil : IdsAre ds [] []
  | cons {k : Nat} {tk : Tok} {a : NRow} {vs : List Value} {as : List NRow} : ds[k]? = some a → IdsAre ds vs as → IdsAre ds (.int k tk :: vs) (a :: as)
theorem IdsAre.length {ds : List NRow} {vs : List Value} {as : List NRow} (h : IdsAre ds vs as) : vs.length = as.length := by
  induction h with
  | nil => rfl
  | cons _ _ ih => simp [ih]
theorem IdsAre.get {ds : List NRow} {vs : List Value} {as : List NRow} (h : IdsAre ds vs as) : ∀ {j : Nat} {v : Value}, vs[j]? = some v → ∃ (k : Nat) (tk : Tok) (a : NRow), v = .int k tk ∧ as[j]? = some a ∧ ds[k]? = some a := by
  induction h with
  | nil => intro j v hv; simp at hv
  | cons hk _ ih =>
    intro j v hv
    cases j with
    | zero => simp at hv; exact ⟨_, _, _, hv.symm, rfl, hk⟩
    | succ j => simpa using ih (by simpa using hv)
theorem IdsAre.mono {ds ds' : List NRow} {vs : List Value} {as : List NRow} (hs : ∀ (k : Nat) (a : NRow), a ∈ as → ds[k]? = some a → ds'[k]? = some a) (h : IdsAre ds vs as) : IdsAre ds' vs as := by
  induction h with
  | nil => exact .nil
  | cons hk _ ih => exact .cons (hs _ _ (.head _) hk) (ih fun k a ha => hs k a (.tail _ ha))
theorem IdsAre.snoc {ds : List NRow} {vs : List Value} {as : List NRow} {k : Nat} {tk : Tok} {a : NRow} (h : IdsAre ds vs as) (hk : ds[k]? = some a) : IdsAre ds (vs ++ [.int k tk]) (as ++ [a]) := by
  induction h with
  | nil => exact .cons hk .nil
  | cons hk' _ ih => exact .cons hk' ih

noncomputable abbrev xmlnsUri : Str := Str.ofString "http://www.w3.org/2000/xmlns/"
noncomputable def attrD (d : NRow) : PyData := .tuple [.tuple [.str d.uri, .str d.loc], .str d.name, .str d.value]
noncomputable def nsName (p : Str) : Str := if p == Str.ofString "" then Str.ofString "xmlns" else Str.ofString "xmlns:" ++ p
noncomputable def nsD (d : NRow) : PyData := .tuple [.tuple [.str xmlnsUri, .str d.loc], .str (nsName d.loc), .str d.value]
/-- in every heap that holds these objects the values read so -/
noncomputable def LRd (ex : List (Addr × Obj)) (vs : List Value) (ds : List PyData) : Prop := ∀ h : Heap, (∀ p ∈ ex, h.get? p.1 = some p.2) → RdA h vs ds
theorem RdA.snoc {h : Heap} {vs : List Value} {ds : List PyData} {v : Value} {d : PyData} (a : RdA h vs ds) (b : Rd h v d) : RdA h (vs ++ [v]) (ds ++ [d]) := by
  induction vs generalizing ds with
  | nil => cases a; exact .cons b .nil
  | cons u us ih =>
    cases a with
    | cons r q => exact .cons r (ih q)
theorem allLt_mem {d : Addr} : ∀ {l : List (Addr × Obj)}, AllLt d l → ∀ p ∈ l, p.1 < d
  | [], _, _, hp => nomatch hp
  | q :: r, h, p, hp => by
    rcases List.mem_cons.mp hp with rfl | hp
    · exact h.1
    · exact allLt_mem h.2 p hp
structure RSt where
  vs : List Value
  ex : List (Addr × Obj)
  e : Nat
theorem news_cons {h : Heap} {g : Heap} {L : Addr} {a : Addr} {o : Obj} {news : List (Addr × Obj)} (e : h.get? a = some o) (n1 : a ≠ L) (n2 : g.get? a = none) (N : News g L h news) : News g L h ((a, o) :: news) := fun p hp => by
  rcases List.mem_cons.mp hp with rfl | hp
  · exact ⟨e, n1, n2⟩
  · exact N p hp
theorem off_of {g h : Heap} {L b : Addr} {m : Str → Option Value} (F : Fr g L h m) (hb : h.get? b = none) : b ≠ L ∧ g.get? b = none := by
  obtain ⟨oL, _, _, hL, _⟩ := F.ns
  refine ⟨fun q => (by rw [q, hL] at hb; cases hb), ?_⟩
  cases q : g.get? b with
  | none => rfl
  | some o => rw [F.keep _ _ q] at hb; cases hb
theorem rows_end {g h' : Heap} {L ll lf A1 A2 : Addr} {m' m₀ : Str → Option Value} {o1 o2 ol : Obj} {vs : List Value} {ex own : List (Addr × Obj)} {e j tk : Nat} {stored : List Str} {s₁ : Shared} {D : List PyData} {d : PyData}
    (F : Fr g L h' m') (N : News g L h' ((A2, o2) :: (A1, o1) :: (ll, ol) :: (lf, listOf (vs.toArray.push (.ref A2)) (e + 1)) :: (ex ++ own))) (hoff : OwnOff own ((ll, ol).1 :: (lf, listOf vs.toArray e).1 :: ex.map (·.1)))
    (z1 : ll < A1 ∧ lf < A1 ∧ AllLt A1 (ex ++ own)) (z2 : A1 < A2 ∧ ll < A2 ∧ lf < A2 ∧ AllLt A2 (ex ++ own)) (hp : vs.length = j ∧ LRd ex vs D ∧ ∀ p ∈ ex, p.1 ≠ lf)
    (hr : ∀ h : Heap, h.get? A1 = some o1 → h.get? A2 = some o2 → Rd h (.ref A2) d) (hm : ∀ z, stored.contains z = false → m' z = m₀ z) :
    LpEnd g L (fun c : RSt => (ll, ol) :: (lf, listOf c.vs.toArray c.e) :: c.ex) (fun c => c.vs.length = j + 1 ∧ LRd c.ex c.vs (D ++ [d]) ∧ ∀ p ∈ c.ex, p.1 ≠ lf) stored m₀ own s₁ { s₁ with heap := h', toks := tk } := by
  refine ⟨⟨vs ++ [.ref A2], (A2, o2) :: (A1, o1) :: ex, e + 1⟩, h', tk, m', _, rfl, ⟨by simp [hp.1], fun h hh => ?_, ?_⟩, F, N, ?_, ?_, ?_, hm⟩
  · exact RdA.snoc (hp.2.1 h fun p hp => hh p (.tail _ (.tail _ hp))) (hr h (hh _ (.tail _ (.head _))) (hh _ (.head _)))
  · intro p hq
    rcases List.mem_cons.mp hq with rfl | hq
    · exact Nat.ne_of_gt z2.2.2.1
    rcases List.mem_cons.mp hq with rfl | hq
    · exact Nat.ne_of_gt z1.2.1
    exact hp.2.2 p hq
  · intro p hq
    simp only [List.mem_cons] at hq
    simp only [List.mem_cons, List.mem_append]
    rcases hq with rfl | rfl | rfl | rfl | hq <;> simp_all
  · intro p hq
    simp only [List.mem_cons, List.mem_append]
    exact .inr (.inr (.inr (.inr (.inr hq))))
  · intro p hq b hb
    have lt1 := allLt_mem z1.2.2 p (List.mem_append_right _ hq)
    have lt2 := allLt_mem z2.2.2.2 p (List.mem_append_right _ hq)
    simp only [List.map_cons, List.mem_cons] at hb
    rcases hb with rfl | rfl | rfl | rfl | hb
    · exact hoff p hq _ (.head _)
    · exact hoff p hq _ (.tail _ (.head _))
    · exact Nat.ne_of_lt lt2
    · exact Nat.ne_of_lt lt1
    · exact hoff p hq b (.tail _ (.tail _ hb))
set_option maxHeartbeats 8000000 in
theorem rows_of_c {i : Int} {ti : Tok} {d : NRow} {as bs : List NRow} (S : St 580 w A s.heap H) (t : TreeAt s.heap T xs ds) (h0 : 0 ≤ i) (hd : ds[i.toNat]? = some d)
    (ha : IdsAre ds d.at_ as) (hb : IdsAre ds d.ns bs) (hla : as.length + bs.length ≤ 900) (hsh : ∀ b ∈ bs, b.loc.length ≤ 1000)
    (q : ∀ l vs e h' tk', Keep [] s.heap h' → s.heap.get? l = none → h'.get? l = some (listOf vs.toArray e) → RdA h' vs (as.map attrD ++ bs.map nsD) → Q (.ref l) { s with heap := h', toks := tk' }) :
    wpAny (model prog w) A (call (.ref 63) [.ref T.t, .int i ti]) Q E s := by
  refine wpAny_call ?_
  refine' enter [] [(Str.ofString "tree", .ref T.t), (Str.ofString "element", .int i ti)] S (by omega) (by simp) ?ho ?hcd ?hbind ?hloc ?h ?hco ?hgen ?hk ?hcell
  case ho => k_is
  case hcd => k_is
  case hbind => exact BindsTo.of_eq rfl
  case hloc => exact locs rfl
  case hco => exact rfl
  case hgen => exact rfl
  case hk => exact rfl
  case hcell => decide
  intro g L h₁ mean mg mb up dn nL F N X Tp HG
  have tg : TreeAt g T xs ds := t.up fun b o e => up b o e (by simp)
  have g1 := tg.inst
  have g2 := tg.dict
  clear t
  dsimp only
  k_steps
  rename Fr _ _ _ _ => F0
  rename News _ _ _ _ => N0
  rename_i lf _ _ _
  refine attributes_c (S.deep HG F0 (by omega)) (tg.up (Fr.keep F0)) h0 hd ?_
  intro l1 e1 h2 tk2 k2 nf hl1
  have hlf := neN (show l1 ≠ lf from fun z => by rw [z, (N0 _ (.head _)).1] at nf; cases nf)
  have F2 := fr_stay F0 k2
  have N2 := news_cons hl1 (off_of F0 nf).1 (off_of F0 nf).2 (news_stay N0 k2)
  clear F0 N0
  have hal := ha.length
  have hbl := hb.length
  refine loop_st (fun c : RSt => (l1, listOf d.at_.toArray e1) :: (lf, listOf c.vs.toArray c.e) :: c.ex) (fun j c => c.vs.length = j ∧ LRd c.ex c.vs ((as.take j).map attrD) ∧ ∀ p ∈ c.ex, p.1 ≠ lf) ⟨[], [], 0⟩ [Str.ofString "node"] (by decide +kernel) S.hh (fun _ => .head _) F2 N2 ⟨rfl, fun _ _ => RdA.nil, fun p hp => nomatch hp⟩ ?turn ?done
  case turn =>
    intro j v c m₁ h tk own hv hp hoff F5 N5
    obtain ⟨k, tv, a, rfl, haj, hk⟩ := ha.get hv
    have hjl : j < as.length := (List.getElem?_eq_some_iff.mp haj).1
    have q4 : ds[((k : Int)).toNat]? = some a := by simpa using hk
    have q5 : (0 : Int) ≤ (k : Int) := Int.natCast_nonneg k
    have hz : ∀ v, (c.vs.toArray.push v).size ≤ 1000 := fun v => by simp [hp.1]; omega
    have hex : ∀ p ∈ c.ex ++ own, p.1 ≠ lf := fun p hq => (List.mem_append.mp hq).elim (hp.2.2 p) fun hq => hoff p hq lf (.tail _ (.head _))
    have hsnoc : (as.take (j + 1)).map attrD = (as.take j).map attrD ++ [attrD a] := by rw [List.take_add_one, haj]; simp
    simp only [List.cons_append, List.nil_append] at N5
    clear F2 N2
    k_steps
    rename Fr _ _ _ _ => F6
    rename News _ _ _ _ => N6
    rw [hsnoc]
    refine rows_end F6 N6 hoff (by assumption) (by assumption) hp (fun h' e1' e2' => Rd.tup (vs := [_, _, _]) e2' (RdA.cons (Rd.tup (vs := [_, _]) e1' (RdA.cons Rd.str (RdA.cons Rd.str RdA.nil))) (RdA.cons Rd.str (RdA.cons Rd.str RdA.nil)))) ?_
    intro z hz
    have hz' := hz
    simp only [List.contains_cons, List.contains_nil, Bool.or_false, beq_eq_false_iff_ne, ne_eq] at hz'
    simp [hz']
  case done =>
    intro c m₁ h tk hp F5 N5
    clear F2 N2
    have N6 : News g L h ((lf, listOf c.vs.toArray c.e) :: c.ex) := fun p hq => N5 p (.tail _ hq)
    clear N5
    k_steps
    rename Fr _ _ _ _ => F7
    rename News _ _ _ _ => N7
    refine namespaces_c (S.deep HG F7 (by omega)) (tg.up (Fr.keep F7)) h0 hd ?_
    intro l2 e2 h3 tk3 k3 nf2 hl2
    have hlf2 := neN (show l2 ≠ lf from fun z => by rw [z, (N7 _ (.head _)).1] at nf2; cases nf2)
    have F8 := fr_stay F7 k3
    have N8 := news_cons hl2 (off_of F7 nf2).1 (off_of F7 nf2).2 (news_stay N7 k3)
    clear F7 N7
    have hal2 : (as.take d.at_.length).map attrD = as.map attrD := by rw [hal, List.take_length]
    rw [hal2] at hp
    refine loop_st (fun c : RSt => (l2, listOf d.ns.toArray e2) :: (lf, listOf c.vs.toArray c.e) :: c.ex) (fun j c => c.vs.length = as.length + j ∧ LRd c.ex c.vs (as.map attrD ++ (bs.take j).map nsD) ∧ ∀ p ∈ c.ex, p.1 ≠ lf) c [Str.ofString "node", Str.ofString "prefix", Str.ofString "name"] (by decide +kernel) S.hh (fun _ => .head _) F8 N8 ⟨by rw [hp.1, hal]; rfl, by simpa using hp.2.1, hp.2.2⟩ ?turn2 ?done2
    case turn2 =>
      intro j v c m₂ h tk own hv hp hoff F5 N5
      obtain ⟨k, tv, a, rfl, haj, hk⟩ := hb.get hv
      have hjl : j < bs.length := (List.getElem?_eq_some_iff.mp haj).1
      have q4 : ds[((k : Int)).toNat]? = some a := by simpa using hk
      have q5 : (0 : Int) ≤ (k : Int) := Int.natCast_nonneg k
      have hz : ∀ v, (c.vs.toArray.push v).size ≤ 1000 := fun v => by simp [hp.1]; omega
      have hex : ∀ p ∈ c.ex ++ own, p.1 ≠ lf := fun p hq => (List.mem_append.mp hq).elim (hp.2.2 p) fun hq => hoff p hq lf (.tail _ (.head _))
      have hsnoc : as.map attrD ++ (bs.take (j + 1)).map nsD = (as.map attrD ++ (bs.take j).map nsD) ++ [nsD a] := by rw [List.take_add_one, haj]; simp
      have hsl := hsh a (List.mem_of_getElem? haj)
      simp only [List.cons_append, List.nil_append] at N5
      clear F8 N8
      k_steps
      all_goals (
        rename Fr _ _ _ _ => F6
        rename News _ _ _ _ => N6
        rw [hsnoc, ← Nat.add_assoc]
        refine rows_end F6 N6 hoff (by assumption) (by assumption) hp (fun h' e1' e2' => ?_) ?_)
      all_goals first
        | (intro z hz
           have hz' := hz
           simp only [List.contains_cons, List.contains_nil, Bool.or_false, Bool.or_eq_false_iff, beq_eq_false_iff_ne, ne_eq] at hz'
           simp [hz'.1, hz'.2.1, hz'.2.2])
        | (have hcond : (a.loc == Str.ofString "") = true := by assumption
           have hnd : nsD a = .tuple [.tuple [.str xmlnsUri, .str a.loc], .str (Str.ofString "xmlns"), .str a.value] := by unfold nsD nsName; rw [if_pos hcond]
           rw [hnd]
           exact Rd.tup (vs := [_, _, _]) e2' (RdA.cons (Rd.tup (vs := [_, _]) e1' (RdA.cons Rd.str (RdA.cons Rd.str RdA.nil))) (RdA.cons Rd.str (RdA.cons Rd.str RdA.nil))))
        | (have hcond : (a.loc == Str.ofString "") = false := by assumption
           have hnd : nsD a = .tuple [.tuple [.str xmlnsUri, .str a.loc], .str (Str.ofString "xmlns:" ++ a.loc), .str a.value] := by unfold nsD nsName; rw [if_neg (by rw [hcond]; decide)]
           rw [hnd]
           exact Rd.tup (vs := [_, _, _]) e2' (RdA.cons (Rd.tup (vs := [_, _]) e1' (RdA.cons Rd.str (RdA.cons Rd.str RdA.nil))) (RdA.cons Rd.str (RdA.cons Rd.str RdA.nil))))
    case done2 =>
      intro c m₂ h tk hp F5 N5
      clear F8 N8
      have hbl2 : (bs.take d.ns.length).map nsD = bs.map nsD := by rw [hbl, List.take_length]
      rw [hbl2] at hp
      k_steps
      exact q lf c.vs c.e h tk (keep_of_fr up F5) (none_of_up up (N5 _ (.tail _ (.head _))).2.2) (N5.get (.tail _ (.head _))) (hp.2.1 h fun p hq => (N5 p (.tail _ (.tail _ hq))).1)
end
end Mine
namespace Mine
noncomputable def sLt (a b : Str) : Bool := decide (a.cps.toList < b.cps.toList)
noncomputable def kLt (a b : Str × Str) : Bool := if a.1 = b.1 then sLt a.2 b.2 else sLt a.1 b.1
theorem kLt_1 {p1 p2 q1 q2 : Str} (h : p1 ≠ q1) : kLt (p1, p2) (q1, q2) = sLt p1 q1 := if_neg h
theorem kLt_2 {p1 p2 q1 q2 : Str} (h : p1 = q1) : kLt (p1, p2) (q1, q2) = sLt p2 q2 := if_pos h
open SeqAt AutoSeq1 MeetsSeq MeetsSeq2 MeetsSeq3 SeqRoads2 in
theorem tuple_ltS (l b : Addr) (p1 p2 q1 q2 : Str) (t1 t2 u1 u2 : Tok) (n n2 : Nat) (hne : ¬ (p1 = q1 ∧ p2 = q2)) :
    Meets (Builtin.«tuple.__lt__» ⟨[.ref l, .ref b], []⟩)
      (fun _ R s => s.heap.get? l = some { cls := .type "tuple", data := .seq #[.str p1 t1, .str p2 t2] n } ∧ s.heap.get? b = some { cls := .type "tuple", data := .seq #[.str q1 u1, .str q2 u2] n2 } ∧
        R (.ok (.ret (.bool (kLt (p1, p2) (q1, q2))))) s) :=
  .of_wp fun prog w A R s h => by
    obtain ⟨hp, g, d, tk, os⟩ := s; obtain ⟨hl, hb, h⟩ := h
    have f2 := AutoSeq1.sub_tuple_tuple
    wp_walk using AutoSeq1.wpAny_loadPart' hl, AutoSeq1.wpAny_loadPart' hb, wpAny_forIn_list _ (fun rest b s' => b.1 = none ∧ s' = ⟨hp, g, d, tk, os⟩ ∧
      (rest = [(Value.str p1 t1, Value.str q1 u1), (Value.str p2 t2, Value.str q2 u2)] ∨ (p1 = q1 ∧ p2 ≠ q2 ∧ rest = [(Value.str p2 t2, Value.str q2 u2)]))) _
    case turn =>
      rintro ⟨y, x⟩ rest b s' ⟨hb', rfl, hz⟩
      rcases hz with hz | ⟨he, hn, hz⟩
      · injection hz with h1 h2
        injection h1 with h3 h4
        subst h3 h4 h2
        refine wpAny_bind (wpAny_eqBool_str ?_)
        by_cases he : p1 = q1
        · have hn : p2 ≠ q2 := fun z => hne ⟨he, z⟩
          rw [decide_eq_true he]
          wp_walk
          exact ⟨rfl, rfl, .inr ⟨he, hn, rfl⟩⟩
        · rw [decide_eq_false he]
          simp only [Bool.not_false, if_true]
          refine wpAny_bind (wpAny_rule ?_)
          refine wpAny_bind (lt_str ?_)
          refine wpAny_bind (wpAny_pure (wpAny_pure ?_))
          rw [kLt_1 he] at h
          exact wpAny_pure ⟨_, rfl, h⟩
      · injection hz with h1 h2
        injection h1 with h3 h4
        subst h3 h4 h2
        refine wpAny_bind (wpAny_eqBool_str ?_)
        rw [decide_eq_false hn]
        simp only [Bool.not_false, if_true]
        refine wpAny_bind (wpAny_rule ?_)
        refine wpAny_bind (lt_str ?_)
        refine wpAny_bind (wpAny_pure (wpAny_pure ?_))
        rw [kLt_2 he] at h
        exact wpAny_pure ⟨_, rfl, h⟩
    case fin =>
      rintro ⟨b1, b2⟩ s' ⟨hb', rfl, hz⟩
      rcases hz with hz | ⟨_, _, hz⟩ <;> cases hz
    case h => exact ⟨rfl, rfl, .inl rfl⟩

section
variable {prog : Program} {w : World} {A : Around} {E : Value → Shared → Prop} {s : Shared} {H : Heap} {Q : Value → Shared → Prop}
theorem lt_tup2 {l b : Addr} {p1 p2 q1 q2 : Str} {t1 t2 u1 u2 : Tok} {n n2 : Nat} (hne : ¬ (p1 = q1 ∧ p2 = q2)) (hl : s.heap.get? l = some { cls := .type "tuple", data := .seq #[.str p1 t1, .str p2 t2] n })
    (hb : s.heap.get? b = some { cls := .type "tuple", data := .seq #[.str q1 u1, .str q2 u2] n2 }) (hu : A.units < cLine) (h : Q (.bool (kLt (p1, p2) (q1, q2))) s) :
    wpAny (model prog w) A (compareOp .Lt (.ref l) (.ref b)) Q E s :=
  richCompare_meets_room (op := .Lt) ⟨_, hl, rfl⟩ ⟨_, hb, rfl⟩ F.slot_tuple_lt F.entry_tuple_lt (F.args_tuple_lt_2 _ _) (tuple_ltS l b p1 p2 q1 q2 t1 t2 u1 u2 n n2 hne)
    ⟨hl, hb, show Value.bool (kLt (p1, p2) (q1, q2)) ≠ Value.notImplemented ∧ Q (.bool (kLt (p1, p2) (q1, q2))) s from ⟨(fun x => nomatch x), h⟩⟩ hu

/-- a tuple of two strings -/
noncomputable def Tup2 (h : Heap) (v : Value) (k : Str × Str) : Prop := ∃ a t u n, v = .ref a ∧ h.get? a = some { cls := .type "tuple", data := .seq #[.str k.1 t, .str k.2 u] n }
theorem eq_tup2 {v v' : Value} {k k' : Str × Str} {Q : Bool → Shared → Prop} (a : Tup2 s.heap v k) (b : Tup2 s.heap v' k') (hne : k ≠ k') (hu : A.units < cLine) (h : Q false s) : wpAny (model prog w) A (eqBool v v') Q E s := by
  obtain ⟨l, t1, t2, n, rfl, hl⟩ := a
  obtain ⟨b, u1, u2, n2, rfl, hb⟩ := b
  have hlb : l ≠ b := fun z => by
    subst z
    rw [hl] at hb
    injection hb with hb
    injection hb with _ _ hb
    injection hb with hb
    simp at hb
    exact hne (Prod.ext hb.1.1 hb.2.1)
  refine SeqAt.EqAt.of_refs hlb (SeqAt.RcAt.tuples (e := fun j => if j = 0 then decide (k.1 = k'.1) else decide (k.2 = k'.2)) ⟨_, hl, rfl, n, rfl⟩ ⟨_, hb, rfl, n2, rfl⟩ hu ?_) prog w E _ ?_
  · intro j h1 h2 prog w E Q hq
    have : j = 0 ∨ j = 1 := by simp at h1; omega
    rcases this with rfl | rfl
    · exact wpAny_eqBool_str hq
    · exact wpAny_eqBool_str hq
  · have : (decide (k.1 = k'.1) && decide (k.2 = k'.2)) = false := by
      by_cases e1 : k.1 = k'.1
      · have e2 : k.2 ≠ k'.2 := fun z => hne (Prod.ext e1 z)
        simp [e2]
      · simp [e1]
    simpa [List.range_succ, this] using h
end
end Mine
namespace Mine
/-- the decision tree of sort, its questions answered by lt -/
noncomputable def kRun {α : Type} (lt : Nat → Nat → Bool) : KasT α → α
  | .ret a => a
  | .ask i j k => kRun lt (k (lt i j))
noncomputable def kOk {α : Type} (n : Nat) (leaf : α → Bool) : KasT α → Bool
  | .ret a => leaf a
  | .ask i j k => decide (i < n) && decide (j < n) && (i != j) && kOk n leaf (k true) && kOk n leaf (k false)
theorem kRun_wp {α : Type} {n : Nat} {leaf : α → Bool} {lt : Nat → Nat → Bool} {cmp : Nat → Nat → (Bool → Shared → Prop) → Shared → Prop} {s : Shared} {Q : α → Shared → Prop}
    (h : ∀ i j C, i < n → j < n → i ≠ j → C (lt i j) s → cmp i j C s) : ∀ t : KasT α, kOk n leaf t = true → (∀ a, leaf a = true → a = kRun lt t → Q a s) → t.kasWp cmp Q s
  | .ret a, hk, q => q a hk rfl
  | .ask i j k, hk, q => by
    simp only [kOk, Bool.and_eq_true, decide_eq_true_eq, bne_iff_ne, ne_eq] at hk
    refine h i j _ hk.1.1.1.1 hk.1.1.1.2 hk.1.1.2 (kRun_wp h (k (lt i j)) ?_ q)
    cases lt i j with
    | true => exact hk.1.2
    | false => exact hk.2
/-- the leaf: a permutation of 0 .. n-1 -/
noncomputable def isPerm (n : Nat) (p : Array Nat) : Bool := p.toList.length == n && p.toList.all (· < n) && decide p.toList.Nodup
theorem kOk_2 : kOk 2 (isPerm 2) (kas_sort 2) = true := by decide +kernel
theorem kOk_3 : kOk 3 (isPerm 3) (kas_sort 3) = true := by decide +kernel
theorem kOk_4 : kOk 4 (isPerm 4) (kas_sort 4) = true := by decide +kernel
theorem kOk_n {n : Nat} (h2 : 2 ≤ n) (h4 : n ≤ 4) : kOk n (isPerm n) (kas_sort n) = true := by
  have : n = 2 ∨ n = 3 ∨ n = 4 := by omega
  rcases this with rfl | rfl | rfl
  · exact kOk_2
  · exact kOk_3
  · exact kOk_4
noncomputable abbrev Key := Str × Str
noncomputable def noKey : Key := (Str.ofString "", Str.ofString "")
/-- the places of the sorted items -/
noncomputable def sortIdx (ks : List Key) : List Nat := if ks.length < 2 then List.range ks.length else (kRun (fun i j => kLt (ks.getD i noKey) (ks.getD j noKey)) (kas_sort ks.length)).toList

section
variable {prog : Program} {w : World} {A : Around} {E : Value → Shared → Prop} {s : Shared} {h₀ : Heap} {L : Addr} {m : Str → Option Value} {news : List (Addr × Obj)} {vs : List Value}

theorem zip_self (v : Array Value) : (v.zip v).map (·.2) = v := by
  refine Array.ext (by simp) fun i h1 h2 => ?_
  simp

theorem list_sort_small {n : Nat} {a : Addr} {P : PySem.Fin → Shared → Prop} (F : Fr h₀ L s.heap m) (N : News h₀ L s.heap news) (ho : s.heap.get? a = some (seqObj "list" vs.toArray n)) (haL : a ≠ L) (ha0 : h₀.get? a = none)
    (hna : ∀ p ∈ news, p.1 ≠ a) (h2 : vs.length < 2)
    (h : ∀ c h', Fr h₀ L h' m → News h₀ L h' ((a, listOf vs.toArray c) :: news) → P (.done (.ret .none)) { s with heap := h' }) :
    wpAny (model prog w) A (Builtin.«list.sort» ⟨[.ref a], []⟩) P E s := by
  have s1 := Heap.SameBut.update s.heap a (Obj.mapSeq fun _ => (#[] : Array Value))
  obtain ⟨e1, ho1⟩ : ∃ e1, (s.heap.update a (Obj.mapSeq fun _ => (#[] : Array Value))).get? a = some (seqObj "list" #[] e1) := ⟨_, get?_update_seq ho fun _ => #[]⟩
  have F3 : Fr h₀ L (((s.heap.update a (Obj.mapSeq fun _ => (#[] : Array Value))).push (seqObj "tuple" vs.toArray 0)).push (seqObj "list" #[] 0)) m := ((kas_fr F s1 haL ha0).push _).push _
  have N3 : News h₀ L (((s.heap.update a (Obj.mapSeq fun _ => (#[] : Array Value))).push (seqObj "tuple" vs.toArray 0)).push (seqObj "list" #[] 0)) news :=
    (kas_news N s1 hna).grown fun b x e => Heap.get?_push_of_some _ (Heap.get?_push_of_some _ e)
  have ho3 : (((s.heap.update a (Obj.mapSeq fun _ => (#[] : Array Value))).push (seqObj "tuple" vs.toArray 0)).push (seqObj "list" #[] 0)).get? a = some (seqObj "list" #[] e1) :=
    Heap.get?_push_of_some _ (Heap.get?_push_of_some _ ho1)
  rw [list_sort_plain]
  refine wpAny_bind (listItems_at ho rfl ?_)
  refine wpAny_bind (listUpdate_at ho rfl ?_ (by rw [List.size_toArray, sizeLine_eq]; omega) (Nat.zero_le _))
  refine wpAny_bind (seqEpoch_at ho1 rfl ?_)
  refine wpAny_bind (wpAny_newTuple ?_ (by show vs.length ≤ _; rw [sizeLine_eq]; omega))
  refine wpAny_bind (wpAny_newList ?_ (Nat.zero_le _))
  refine wpAny_holding ?_
  show wpAny (model prog w) A _ P E { s with heap := ((s.heap.update a (Obj.mapSeq fun _ => (#[] : Array Value))).push (seqObj "tuple" vs.toArray 0)).push (seqObj "list" #[] 0) }
  dsimp only
  have hn2 : vs.toArray.size < 2 := by rw [List.size_toArray]; omega
  rw [if_pos hn2, if_pos hn2]
  refine wpAny_bind (wpAny_pure ?_)
  refine wpAny_bind (wpAny_pure ?_)
  dsimp only
  have hout : (arrOf (SortSt.mk' general' (vs.toArray.zip vs.toArray) #[] 7 none)).map (·.2) = vs.toArray := zip_self _
  rw [hout]
  have s2 := Heap.SameBut.update (((s.heap.update a (Obj.mapSeq fun _ => (#[] : Array Value))).push (seqObj "tuple" vs.toArray 0)).push (seqObj "list" #[] 0)) a (Obj.mapSeq fun _ => vs.toArray)
  obtain ⟨c2, hc2⟩ : ∃ c2, ((((s.heap.update a (Obj.mapSeq fun _ => (#[] : Array Value))).push (seqObj "tuple" vs.toArray 0)).push (seqObj "list" #[] 0)).update a (Obj.mapSeq fun _ => vs.toArray)).get? a = some (seqObj "list" vs.toArray c2) := ⟨_, get?_update_seq ho3 fun _ => vs.toArray⟩
  refine wpAny_bind (seqEpoch_at ho3 rfl ?_)
  refine wpAny_bind (listUpdate_at ho3 rfl ?_ (Nat.zero_le _) (by rw [List.size_toArray, sizeLine_eq]; omega))
  simp only [bne_self_eq_false, Bool.false_eq_true, if_false]
  refine wpAny_pure (h c2 _ (kas_fr F3 s2 haL ha0) ?_)
  intro p hp
  rcases List.mem_cons.mp hp with rfl | hp
  · exact ⟨hc2, haL, ha0⟩
  · exact kas_news N3 s2 hna p hp

theorem sorted_small {l : Addr} {Q : Value → Shared → Prop} (F : Fr h₀ L s.heap m) (N : News h₀ L s.heap news) (hl : s.heap.IsList l vs.toArray) (h2 : vs.length < 2)
    (h : ∀ D c h', Fr h₀ L h' m → News h₀ L h' ((D, listOf vs.toArray c) :: news) → (∀ q ∈ news, q.1 < D) → Q (.ref D) { s with heap := h' }) :
    wpAny (model prog w) A (call (.builtin "sorted") [.ref l]) Q E s := by
  refine Calls.call_function_entry kind_sorted plain_sorted entry_sorted (args_sorted1 _) ?_
  unfold Builtin.«sorted»
  refine wpAny_bind (m := checkCount "sorted" 1 1 _) (wpAny_pure ?_)
  refine wpAny_bind (collect_list hl ?_ (by rw [sizeLine_eq]; omega))
  refine wpAny_bind (wpAny_newList ?_ (by rw [sizeLine_eq]; omega))
  have hsz : ((s.heap.push (seqObj "list" #[] 0)).update s.heap.objs.size (Obj.mapSeq (· ++ vs.toArray))).objs.size = s.heap.objs.size + 1 := by
    rw [Heap.size_update, size_push']
  have hoL : (((s.heap.push (seqObj "list" #[] 0)).update s.heap.objs.size (Obj.mapSeq (· ++ vs.toArray))).push (seqObj "list" vs.toArray 0)).get? (s.heap.objs.size + 1) = some (seqObj "list" vs.toArray 0) := by
    rw [← hsz]; exact Heap.get?_push_size _ rfl
  have keep : ∀ b o, s.heap.get? b = some o → (((s.heap.push (seqObj "list" #[] 0)).update s.heap.objs.size (Obj.mapSeq (· ++ vs.toArray))).push (seqObj "list" vs.toArray 0)).get? b = some o := fun b o q => by
    have hlt : b < s.heap.objs.size := Heap.lt_size q
    rw [Heap.get?_push_ne _ _ _ (by rw [hsz]; exact Nat.ne_of_lt (Nat.lt_succ_of_lt hlt)), Heap.get?_update_ne _ _ _ _ (Nat.ne_of_lt hlt), Heap.get?_push_ne _ _ _ (Nat.ne_of_lt hlt)]
    exact q
  have hL : L < s.heap.objs.size := F.ns.lt
  show wpAny _ _ _ _ _ { s with heap := ((s.heap.push (seqObj "list" #[] 0)).update s.heap.objs.size (Obj.mapSeq (· ++ vs.toArray))).push (seqObj "list" vs.toArray 0) }
  rw [hsz]
  refine wpAny_bind (wpAny_holding (wpAny_call_entry slot_list_sort ⟨_, hoL, rfl⟩ entry_list_sort ?body (args_list_sort _)))
  case body =>
    refine list_sort_small (s := { s with heap := ((s.heap.push (seqObj "list" #[] 0)).update s.heap.objs.size (Obj.mapSeq (· ++ vs.toArray))).push (seqObj "list" vs.toArray 0) })
      (F.kept keep) (N.grown keep) hoL (Nat.ne_of_gt (Nat.lt_succ_of_lt hL)) (Heap.get?_none_of_le (Nat.le_trans F.above (Nat.le_succ_of_le (Nat.le_of_lt hL))))
      (fun p hp => Nat.ne_of_lt (Nat.lt_succ_of_lt (Heap.lt_size (N p hp).1))) h2 fun c h' F' N' => ?_
    exact ⟨_, rfl, wpAny_pure ⟨_, rfl, h _ c h' F' N' fun q hq => Nat.lt_succ_of_lt (Heap.lt_size (N q hq).1)⟩⟩

/-- a row: a tuple whose first item is a key of two strings -/
noncomputable def RowV (h : Heap) (v : Value) (k : Key) : Prop := ∃ a kv r n, v = .ref a ∧ h.get? a = some { cls := .type "tuple", data := .seq (kv :: r).toArray n } ∧ Tup2 h kv k
noncomputable def RowsV (h : Heap) (vs : List Value) (ks : List Key) : Prop := vs.length = ks.length ∧ ∀ (i : Nat) (v : Value) (k : Key), vs[i]? = some v → ks[i]? = some k → RowV h v k
theorem Tup2.up {h h' : Heap} {v : Value} {k : Key} (r : Tup2 h v k) (st : h.StaysIn h') : Tup2 h' v k :=
  let ⟨a, t, u, n, e, q⟩ := r; ⟨a, t, u, n, e, st _ _ q⟩
theorem RowV.up {h h' : Heap} {v : Value} {k : Key} (r : RowV h v k) (st : h.StaysIn h') : RowV h' v k :=
  let ⟨a, kv, l, n, e, q, t⟩ := r; ⟨a, kv, l, n, e, st _ _ q, t.up st⟩
theorem RowsV.up {h h' : Heap} {vs : List Value} {ks : List Key} (r : RowsV h vs ks) (st : h.StaysIn h') : RowsV h' vs ks :=
  ⟨r.1, fun i v k a b => (r.2 i v k a b).up st⟩
theorem kat_tups {h : Heap} : ∀ {vs : List Value} {ks : List Key}, RowsV h vs ks → ∃ fs, KatTups h vs fs ∧ fs.length = vs.length ∧ ∀ f ∈ fs, ∃ k, Tup2 h f k
  | [], ks, r => ⟨[], .nil, rfl, fun _ h => nomatch h⟩
  | v :: vs, [], r => by have := r.1; simp at this
  | v :: vs, k :: ks, r => by
    obtain ⟨a, kv, l, n, rfl, q, t⟩ := r.2 0 v k rfl rfl
    obtain ⟨fs, h1, h2, h3⟩ := kat_tups (vs := vs) (ks := ks) ⟨by have := r.1; simp at this; exact this, fun i v k a b => r.2 (i + 1) v k a b⟩
    refine ⟨kv :: fs, KatTups.cons q rfl rfl (by simp) h1, by simp [h2], ?_⟩
    intro f hf
    rcases List.mem_cons.mp hf with rfl | hf
    · exact ⟨k, t⟩
    · exact h3 f hf
theorem row_lt {v v' : Value} {k k' : Key} {Q : Bool → Shared → Prop} (a : RowV s.heap v k) (b : RowV s.heap v' k') (hne : k ≠ k') (hu : A.units < cLine) (h : Q (kLt k k') s) :
    wpAny (model prog w) A (keyLt' (tuples' (Value.type "tuple" != Value.type "tuple")) v v') Q E s := by
  obtain ⟨x, kv, r, n, rfl, hx, t⟩ := a
  obtain ⟨y, kv', r', n', rfl, hy, t'⟩ := b
  have hb : (Value.type "tuple" != Value.type "tuple") = false := by decide
  rw [hb]
  refine kat_lt hx rfl hy rfl ?_
  refine kat_cons (eq_tup2 t t' hne hu (kat_no ?_))
  obtain ⟨l, t1, t2, n1, rfl, hl⟩ := t
  obtain ⟨l', u1, u2, n2, rfl, hl'⟩ := t'
  refine kat_one _ _ (lt_tup2 (fun z => hne (Prod.ext z.1 z.2)) hl hl' hu ?_)
  exact h

theorem sorted_rows {l : Addr} {ks : List Key} {Q : Value → Shared → Prop} (F : Fr h₀ L s.heap m) (N : News h₀ L s.heap news) (hl : s.heap.IsList l vs.toArray) (hr : RowsV s.heap vs ks) (hr0 : ∀ h', Fr h₀ L h' m → News h₀ L h' news → RowsV h' vs ks) (hk : ks.Nodup) (h4 : ks.length ≤ 4)
    (hu : A.in1.in1.units < cLine)
    (h : ∀ D c h', Fr h₀ L h' m → News h₀ L h' ((D, listOf ((sortIdx ks).map fun i => vs.getD i Value.none).toArray c) :: news) → (∀ q ∈ news, q.1 < D) → (sortIdx ks).Nodup → (∀ i ∈ sortIdx ks, i < ks.length) → (sortIdx ks).length = ks.length → Q (.ref D) { s with heap := h' }) :
    wpAny (model prog w) A (call (.builtin "sorted") [.ref l]) Q E s := by
  have hlen := hr.1
  by_cases h2 : ks.length < 2
  · refine sorted_small F N hl (by omega) ?_
    intro D c h' F' N' z
    have hsi : sortIdx ks = List.range ks.length := if_pos h2
    refine h D c h' F' ?_ z (by rw [hsi]; exact List.nodup_range) (by rw [hsi]; simp) (by rw [hsi]; simp)
    have : (sortIdx ks).map (fun i => vs.getD i Value.none) = vs := by
      rw [hsi, ← hlen]
      refine List.ext_getElem (by simp) fun i a b => ?_
      simp [List.getD, b]
    rw [this]
    exact N'
  · refine kat_sorted F N hl (by omega) (by omega) ?_
    intro D e1 h' F' N' z
    have hr' : RowsV h' vs ks := hr0 h' F' fun p hp => N' p (.tail _ hp)
    obtain ⟨fs, f1, f2, f3⟩ := kat_tups hr'
    refine kat_kind (s := { s with heap := h' }) f1 (by omega) (T := .type "tuple") ?_ (by decide) ?_
    · intro v hv
      obtain ⟨k, a, t, u, n, rfl, ho⟩ := f3 v hv
      exact (Looks.ld ho).andThen .now
    · have hsi : sortIdx ks = (kRun (fun i j => kLt (ks.getD i noKey) (ks.getD j noKey)) (kas_sort vs.length)).toList := by rw [hlen]; exact if_neg h2
      have okn := kOk_n (n := vs.length) (by omega) (by omega)
      refine kRun_wp (n := vs.length) (leaf := isPerm vs.length) (lt := fun i j => kLt (ks.getD i noKey) (ks.getD j noKey)) ?_ _ okn ?_
      · intro i j C hi hj hij hc
        have e1 : vs[i]? = some (vs.getD i Value.none) := by simp [List.getD, hi]
        have e2 : vs[j]? = some (vs.getD j Value.none) := by simp [List.getD, hj]
        have e3 : ks[i]? = some (ks.getD i noKey) := by simp [List.getD, hlen ▸ hi]
        have e4 : ks[j]? = some (ks.getD j noKey) := by simp [List.getD, hlen ▸ hj]
        refine row_lt (s := { s with heap := h' }) (hr'.2 i _ _ e1 e3) (hr'.2 j _ _ e2 e4) ?_ hu hc
        intro q
        rw [q, ← e4] at e3
        exact hij ((List.getElem?_inj (hlen ▸ hi) hk).mp e3)
      · intro p hp hpe
        rw [hpe] at hp
        rw [← hpe] at hsi
        simp only [isPerm, Bool.and_eq_true, beq_iff_eq, decide_eq_true_eq, List.all_eq_true] at hp
        rw [← hpe, ← hsi] at hp
        refine KasFin.intro F' N' (.head fun q hq => Nat.ne_of_lt (z q hq)) ?_
        intro h'' c F'' N''
        refine h D c h'' F'' ?_ z hp.2 (fun i hi => by have := hp.1.2 i hi; omega) (by omega)
        rw [hsi]
        exact N''
end
end Mine
namespace Mine
/-- a row of a form: key, name, value -/
structure KRow where
  k1 : Str
  k2 : Str
  name : Str
  value : Str
noncomputable def KRow.key (r : KRow) : Key := (r.k1, r.k2)
noncomputable def kD (r : KRow) : PyData := .tuple [.tuple [.str r.k1, .str r.k2], .str r.name, .str r.value]
noncomputable def noRow : KRow := ⟨Str.ofString "", Str.ofString "", Str.ofString "", Str.ofString ""⟩
noncomputable def sortK (rows : List KRow) : List KRow := (sortIdx (rows.map KRow.key)).map fun i => rows.getD i noRow
theorem Rd.tup_inv {h : Heap} {v : Value} {ds : List PyData} (r : Rd h v (.tuple ds)) : ∃ a vs n, v = .ref a ∧ h.get? a = some { cls := .type "tuple", data := .seq vs.toArray n } ∧ RdA h vs ds := by
  cases r with
  | tup e q => exact ⟨_, _, _, rfl, e, q⟩
theorem Rd.str_inv {h : Heap} {v : Value} {x : Str} (r : Rd h v (.str x)) : ∃ t, v = .str x t := by
  cases r with
  | str => exact ⟨_, rfl⟩
theorem RdA.cons_inv {h : Heap} {vs : List Value} {d : PyData} {ds : List PyData} (r : RdA h vs (d :: ds)) : ∃ v us, vs = v :: us ∧ Rd h v d ∧ RdA h us ds := by
  cases r with
  | cons a b => exact ⟨_, _, rfl, a, b⟩
theorem RdA.nil_inv {h : Heap} {vs : List Value} (r : RdA h vs []) : vs = [] := by cases r; rfl
theorem Rd.key_inv {h : Heap} {v : Value} {a b : Str} (r : Rd h v (.tuple [.str a, .str b])) : Tup2 h v (a, b) := by
  obtain ⟨x, vs, n, rfl, e, q⟩ := r.tup_inv
  obtain ⟨v1, us, rfl, q1, q⟩ := q.cons_inv
  obtain ⟨v2, us, rfl, q2, q⟩ := q.cons_inv
  obtain rfl := q.nil_inv
  obtain ⟨t1, rfl⟩ := q1.str_inv
  obtain ⟨t2, rfl⟩ := q2.str_inv
  exact ⟨x, t1, t2, n, rfl, e⟩
theorem Rd.row_inv {h : Heap} {v : Value} {r : KRow} (x : Rd h v (kD r)) : ∃ a kv n t u, v = .ref a ∧ h.get? a = some { cls := .type "tuple", data := .seq #[kv, .str r.name t, .str r.value u] n } ∧ Tup2 h kv r.key := by
  obtain ⟨a, vs, n, rfl, e, q⟩ := x.tup_inv
  obtain ⟨v1, us, rfl, q1, q⟩ := q.cons_inv
  obtain ⟨v2, us, rfl, q2, q⟩ := q.cons_inv
  obtain ⟨v3, us, rfl, q3, q⟩ := q.cons_inv
  obtain rfl := q.nil_inv
  obtain ⟨t1, rfl⟩ := q2.str_inv
  obtain ⟨t2, rfl⟩ := q3.str_inv
  exact ⟨a, v1, n, t1, t2, rfl, e, q1.key_inv⟩
theorem RdA.rowsV {h : Heap} {vs : List Value} {rows : List KRow} (r : RdA h vs (rows.map kD)) : RowsV h vs (rows.map KRow.key) := by
  refine ⟨by simpa using r.length, fun i v k a b => ?_⟩
  obtain ⟨row, hr, rfl⟩ := List.getElem?_map .. ▸ b |> fun (b : Option.map KRow.key rows[i]? = some k) => Option.map_eq_some_iff.mp b
  obtain ⟨x, kv, n, t, u, rfl, e, q⟩ := (r.get i v (kD row) a (by simp [hr])).row_inv
  exact ⟨x, kv, [_, _], n, rfl, e, q⟩
theorem RdA.pick {h : Heap} {vs : List Value} {rows : List KRow} (r : RdA h vs (rows.map kD)) : ∀ {idx : List Nat}, (∀ i ∈ idx, i < rows.length) → RdA h (idx.map fun i => vs.getD i Value.none) ((idx.map fun i => rows.getD i noRow).map kD)
  | [], _ => .nil
  | i :: idx, hi => by
    have hl : i < rows.length := hi i (.head _)
    have hv : i < vs.length := by have := r.length; simp at this; omega
    refine .cons (r.get i _ _ ?_ ?_) (r.pick fun j hj => hi j (.tail _ hj))
    · simp [List.getD, hv]
    · simp [List.getD, hl]
local macro_rules | `(tactic| walk_at "call type:tuple") => `(tactic| (k_here; (with_reducible show wpAny _ _ (call (Value.type _) [Value.ref _]) _ _ _); k_dflt (refine' kde_tupleOf ?k1 ?k2 ?k3 ?k4 ?k5 ?_; (case k1 => k_asm); (case k2 => k_asm); (case k3 => first | exact News.isList (by k_asm) (by k_mem) | (refine' ⟨_, Fr.keep ?F _ _ ?e, ?x, _, ?y⟩; (case F => k_asm); (case e => assumption); (case x => exact rfl); (case y => exact rfl))); (case k4 => first | assumption | (simp; omega)); (case k5 => exact rfl); k_whole); intro D' h' F' N' l1; (try k_lt l1); (try k_sweep)))
section
variable {prog : Program} {w : World} {A : Around} {s : Shared} {H : Heap} {Q : Value → Shared → Prop} {E : Value → Shared → Prop} {T : TRef} {xs : List RRef} {ds : List NRow}
noncomputable abbrev eT : PyData := .tuple []
noncomputable abbrev formD (kind : Str) (label : PyData) (value : Str) (rows : List KRow) (ch : List PyData) : PyData := .tuple [.str kind, label, .str value, .tuple (rows.map kD), .tuple ch]
set_option maxHeartbeats 8000000 in
theorem text_form_c {x : Str} {tx : Tok} (S : St 590 w A s.heap H)
    (q : ∀ v h' tk', Keep [] s.heap h' → Rd h' v (formD (Str.ofString "text") (.str (Str.ofString "")) x [] []) → Q v { s with heap := h', toks := tk' }) :
    wpAny (model prog w) A (call (.ref 28) [.str x tx]) Q E s := by
  refine wpAny_call ?_
  refine' enter [] [(Str.ofString "text", .str x tx)] S (by omega) (by simp) ?ho ?hcd ?hbind ?hloc ?h ?hco ?hgen ?hk ?hcell
  case ho => k_is
  case hcd => k_is
  case hbind => exact BindsTo.of_eq rfl
  case hloc => exact locs rfl
  case hco => exact rfl
  case hgen => exact rfl
  case hk => exact rfl
  case hcell => decide
  intro g L h₁ mean mg mb up dn nL F N X Tp HG
  dsimp only
  k_steps
  rename Fr _ _ _ _ => F2
  rename News _ _ _ _ => N2
  refine q _ _ _ (keep_of_fr up F2) ?_
  first
    | exact Rd.tup (vs := [_, _, _, _, _]) (N2.get (.head _)) (.cons .str (.cons .str (.cons .str (.cons (.tup (vs := []) (by first | exact N2.get (by k_mem) | (exact F2.keep _ _ (by k_is))) .nil) (.cons (.tup (vs := []) (by first | exact N2.get (by k_mem) | (exact F2.keep _ _ (by k_is))) .nil) .nil)))))
    | skip
set_option maxHeartbeats 8000000 in
theorem comment_form_c {x : Str} {tx : Tok} (S : St 590 w A s.heap H)
    (q : ∀ v h' tk', Keep [] s.heap h' → Rd h' v (formD (Str.ofString "comment") (.str (Str.ofString "")) x [] []) → Q v { s with heap := h', toks := tk' }) :
    wpAny (model prog w) A (call (.ref 35) [.str x tx]) Q E s := by
  refine wpAny_call ?_
  refine' enter [] [(Str.ofString "text", .str x tx)] S (by omega) (by simp) ?ho ?hcd ?hbind ?hloc ?h ?hco ?hgen ?hk ?hcell
  case ho => k_is
  case hcd => k_is
  case hbind => exact BindsTo.of_eq rfl
  case hloc => exact locs rfl
  case hco => exact rfl
  case hgen => exact rfl
  case hk => exact rfl
  case hcell => decide
  intro g L h₁ mean mg mb up dn nL F N X Tp HG
  dsimp only
  k_steps
  rename Fr _ _ _ _ => F2
  rename News _ _ _ _ => N2
  refine q _ _ _ (keep_of_fr up F2) ?_
  first
    | exact Rd.tup (vs := [_, _, _, _, _]) (N2.get (.head _)) (.cons .str (.cons .str (.cons .str (.cons (.tup (vs := []) (by first | exact N2.get (by k_mem) | (exact F2.keep _ _ (by k_is))) .nil) (.cons (.tup (vs := []) (by first | exact N2.get (by k_mem) | (exact F2.keep _ _ (by k_is))) .nil) .nil)))))
    | skip
set_option maxHeartbeats 8000000 in
theorem instruction_form_c {x y : Str} {tx ty : Tok} (S : St 590 w A s.heap H)
    (q : ∀ v h' tk', Keep [] s.heap h' → Rd h' v (formD (Str.ofString "instruction") (.str y) x [] []) → Q v { s with heap := h', toks := tk' }) :
    wpAny (model prog w) A (call (.ref 42) [.str y ty, .str x tx]) Q E s := by
  refine wpAny_call ?_
  refine' enter [] [(Str.ofString "target", .str y ty), (Str.ofString "data", .str x tx)] S (by omega) (by simp) ?ho ?hcd ?hbind ?hloc ?h ?hco ?hgen ?hk ?hcell
  case ho => k_is
  case hcd => k_is
  case hbind => exact BindsTo.of_eq rfl
  case hloc => exact locs rfl
  case hco => exact rfl
  case hgen => exact rfl
  case hk => exact rfl
  case hcell => decide
  intro g L h₁ mean mg mb up dn nL F N X Tp HG
  dsimp only
  k_steps
  rename Fr _ _ _ _ => F2
  rename News _ _ _ _ => N2
  refine q _ _ _ (keep_of_fr up F2) ?_
  first
    | exact Rd.tup (vs := [_, _, _, _, _]) (N2.get (.head _)) (.cons .str (.cons .str (.cons .str (.cons (.tup (vs := []) (by first | exact N2.get (by k_mem) | (exact F2.keep _ _ (by k_is))) .nil) (.cons (.tup (vs := []) (by first | exact N2.get (by k_mem) | (exact F2.keep _ _ (by k_is))) .nil) .nil)))))
    | skip
set_option maxHeartbeats 8000000 in
theorem root_form_c {cl : Addr} {cvs : List Value} {ce : Nat} {ch : List PyData} (S : St 590 w A s.heap H) (hc : s.heap.get? cl = some (listOf cvs.toArray ce)) (rc : RdA s.heap cvs ch) (hcl : cvs.length ≤ 1000)
    (q : ∀ v h' tk', Keep [] s.heap h' → Rd h' v (formD (Str.ofString "root") (.str (Str.ofString "")) (Str.ofString "") [] ch) → Q v { s with heap := h', toks := tk' }) :
    wpAny (model prog w) A (call (.ref 56) [.ref cl]) Q E s := by
  refine wpAny_call ?_
  refine' enter [] [(Str.ofString "children", .ref cl)] S (by omega) (by simp) ?ho ?hcd ?hbind ?hloc ?h ?hco ?hgen ?hk ?hcell
  case ho => k_is
  case hcd => k_is
  case hbind => exact BindsTo.of_eq rfl
  case hloc => exact locs rfl
  case hco => exact rfl
  case hgen => exact rfl
  case hk => exact rfl
  case hcell => decide
  intro g L h₁ mean mg mb up dn nL F N X Tp HG
  have gc := up _ _ hc (by simp)
  have rg : RdA g cvs ch := rc.up fun b o e => up b o e (by simp)
  have hcl2 : cvs.toArray.size ≤ 16384 := by simp; omega
  dsimp only
  k_steps
  rename Fr _ _ _ _ => F2
  rename News _ _ _ _ => N2
  refine q _ _ _ (keep_of_fr up F2) ?_
  first
    | exact Rd.tup (vs := [_, _, _, _, _]) (N2.get (.head _)) (.cons .str (.cons .str (.cons .str (.cons (.tup (vs := []) (by first | exact N2.get (by k_mem) | (exact F2.keep _ _ (by k_is))) .nil) (.cons (.tup (N2.get (.tail _ (.head _))) (rg.up F2.keep)) .nil)))))
    | skip
set_option maxHeartbeats 8000000 in
theorem element_form_c {al cl : Addr} {vs cvs : List Value} {e ce : Nat} {lv : Value} {lab : PyData} {rows : List KRow} {ch : List PyData} (S : St 590 w A s.heap H) (rl : Rd s.heap lv lab) (ha : s.heap.get? al = some (listOf vs.toArray e)) (hc : s.heap.get? cl = some (listOf cvs.toArray ce))
    (ra : RdA s.heap vs (rows.map kD)) (hnd : (rows.map KRow.key).Nodup) (h4 : rows.length ≤ 4) (rc : RdA s.heap cvs ch) (hcl : cvs.length ≤ 1000)
    (q : ∀ v h' tk', Keep [] s.heap h' → Rd h' v (formD (Str.ofString "element") lab (Str.ofString "") (sortK rows) ch) → Q v { s with heap := h', toks := tk' }) :
    wpAny (model prog w) A (call (.ref 49) [lv, .ref al, .ref cl]) Q E s := by
  refine wpAny_call ?_
  refine' enter [] [(Str.ofString "label", lv), (Str.ofString "attributes", .ref al), (Str.ofString "children", .ref cl)] S (by omega) (by simp) ?ho ?hcd ?hbind ?hloc ?h ?hco ?hgen ?hk ?hcell
  case ho => k_is
  case hcd => k_is
  case hbind => exact BindsTo.of_eq rfl
  case hloc => exact locs rfl
  case hco => exact rfl
  case hgen => exact rfl
  case hk => exact rfl
  case hcell => decide
  intro g L h₁ mean mg mb up dn nL F N X Tp HG
  have ga := up _ _ ha (by simp)
  have gc := up _ _ hc (by simp)
  have upS : s.heap.StaysIn g := fun b o e => up b o e (by simp)
  have rg : RdA g cvs ch := rc.up upS
  have rag := ra.up upS
  have rlg := rl.up upS
  have hcl2 : cvs.toArray.size ≤ 16384 := by simp; omega
  dsimp only
  k_steps
  rename Fr _ _ _ _ => F2
  rename News _ _ _ _ => N2
  refine sorted_rows F2 N2 ⟨_, F2.keep _ _ ga, rfl, _, rfl⟩ (rag.rowsV.up F2.keep) (fun h' F' _ => rag.rowsV.up F'.keep) hnd (by simpa using h4) ?_ ?_
  · have := S.un
    show A.units + 5 < cLine
    exact Nat.lt_of_le_of_lt (Nat.add_le_add_right this 5) (by decide)
  intro D c h' F3 N3 z hp1 hp2 hp3
  clear F2 N2
  have hln : ((sortIdx (rows.map KRow.key)).map fun i => vs.getD i Value.none).toArray.size ≤ 16384 := by simp at hp3 ⊢; omega
  k_steps
  rename Fr _ _ _ _ => F4
  rename News _ _ _ _ => N4
  refine q _ _ _ (keep_of_fr up F4) ?_
  exact Rd.tup (vs := [_, _, _, _, _]) (N4.get (.head _)) (.cons .str (.cons (rlg.up F4.keep) (.cons .str (.cons (.tup (N4.get (by k_mem)) ((rag.pick (by simpa using hp2)).up F4.keep)) (.cons (.tup (N4.get (by k_mem)) (rg.up F4.keep)) .nil)))))
end
end Mine
namespace Mine
local macro_rules | `(tactic| k_inst) => `(tactic| (refine' inst_base ?F ?a ?b; (case F => k_asm); (case a => assumption); (case b => assumption)))
local macro_rules | `(tactic| walk_at "m st") => `(tactic| (refine' St.deep ?S ?G ?F ?n; (case S => assumption); (case G => assumption); (case F => k_asm); (case n => omega)))
local macro_rules | `(tactic| walk_at "m tree") => `(tactic| (refine' TreeAt.up (Fr.keep ?F) ?t; (case F => k_asm); (case t => assumption)))
local macro_rules | `(tactic| walk_at "m end") => `(tactic| (intro h' tk' u' k'; (have F' := fr_stay (by k_asm) k'); (have N' := news_stay (by k_asm) k'); k_sweep))
local macro_rules | `(tactic| walk_at "call ref") => `(tactic| (k_here; (with_reducible show wpAny _ _ (call (Value.ref 236) _ _) _ _ _); (refine' kind_c ?S ?t ?a ?b ?_; (case S => walk_at "m st"); (case t => walk_at "m tree"); (case a => omega); (case b => assumption)); walk_at "m end"))
local macro_rules | `(tactic| walk_at "call ref") => `(tactic| (k_here; (with_reducible show wpAny _ _ (call (Value.ref 243) _ _) _ _ _); (refine' name_c ?S ?t ?a ?b ?_; (case S => walk_at "m st"); (case t => walk_at "m tree"); (case a => omega); (case b => assumption)); walk_at "m end"))
local macro_rules | `(tactic| walk_at "call ref") => `(tactic| (k_here; (with_reducible show wpAny _ _ (call (Value.ref 250) _ _) _ _ _); (refine' uri_c ?S ?t ?a ?b ?_; (case S => walk_at "m st"); (case t => walk_at "m tree"); (case a => omega); (case b => assumption)); walk_at "m end"))
local macro_rules | `(tactic| walk_at "call ref") => `(tactic| (k_here; (with_reducible show wpAny _ _ (call (Value.ref 257) _ _) _ _ _); (refine' local_c ?S ?t ?a ?b ?_; (case S => walk_at "m st"); (case t => walk_at "m tree"); (case a => omega); (case b => assumption)); walk_at "m end"))
local macro_rules | `(tactic| walk_at "call ref") => `(tactic| (k_here; (with_reducible show wpAny _ _ (call (Value.ref 264) _ _) _ _ _); (refine' value_c ?S ?t ?a ?b ?_; (case S => walk_at "m st"); (case t => walk_at "m tree"); (case a => omega); (case b => assumption)); walk_at "m end"))
theorem kind_at {prog : Program} {w : World} {A : Around} {s : Shared} {H : Heap} {Q : Value → Shared → Prop} {E : Value → Shared → Prop} {T : TRef} {xs : List RRef} {ds : List NRow} {i : Int} {ti : Tok} {d : NRow} {k : Str} (S : St 590 w A s.heap H) (t : TreeAt s.heap T xs ds) (h0 : 0 ≤ i) (hd : ds[i.toNat]? = some d) (hk : d.kind = k)
    (q : ∀ h' tk' u, Keep [] s.heap h' → Q (.str k u) { s with heap := h', toks := tk' }) :
    wpAny (model prog w) A (call (.ref 236) [.ref T.t, .int i ti]) Q E s := kind_c S t h0 hd (by rw [hk]; exact q)
local macro_rules | `(tactic| walk_at "call ref") => `(tactic| (k_here; (with_reducible show wpAny _ _ (call (Value.ref 236) _ _) _ _ _); (refine' kind_at ?S ?t ?a ?b ?k ?_; (case S => walk_at "m st"); (case t => walk_at "m tree"); (case a => omega); (case b => assumption); (case k => assumption)); walk_at "m end"))
local macro_rules | `(tactic| k_all) => `(tactic| assumption)
section
variable {prog : Program} {w : World} {A : Around} {s : Shared} {H : Heap} {Q : Value → Shared → Prop} {E : Value → Shared → Prop} {T : TRef} {xs : List RRef} {ds : List NRow}
noncomputable def attrK (d : NRow) : KRow := ⟨d.uri, d.loc, d.name, d.value⟩
noncomputable def nsK (d : NRow) : KRow := ⟨xmlnsUri, d.loc, nsName d.loc, d.value⟩
noncomputable def elRows (as bs : List NRow) : List KRow := as.map attrK ++ bs.map nsK
theorem elRows_D (as bs : List NRow) : as.map attrD ++ bs.map nsD = (elRows as bs).map kD := by
  unfold elRows
  rw [List.map_append, List.map_map, List.map_map]
  rfl
set_option maxHeartbeats 8000000 in
theorem one_text_c {i : Int} {ti : Tok} {d : NRow} {cl : Value} (S : St 570 w A s.heap H) (t : TreeAt s.heap T xs ds) (h0 : 0 ≤ i)
    (hd : ds[i.toNat]? = some d) (hk : d.kind = Str.ofString "text")
    (q : ∀ v h' tk', Keep [] s.heap h' → Rd h' v (formD (Str.ofString "text") (.str (Str.ofString "")) d.value [] []) → Q v { s with heap := h', toks := tk' }) :
    wpAny (model prog w) A (call (.ref 70) [.ref T.t, .int i ti, cl]) Q E s := by
  refine wpAny_call ?_
  refine' enter [] [(Str.ofString "tree", .ref T.t), (Str.ofString "node", .int i ti), (Str.ofString "children", cl)] S (by omega) (by simp) ?ho ?hcd ?hbind ?hloc ?h ?hco ?hgen ?hk ?hcell
  case ho => k_is
  case hcd => k_is
  case hbind => exact BindsTo.of_eq rfl
  case hloc => exact locs rfl
  case hco => exact rfl
  case hgen => exact rfl
  case hk => exact rfl
  case hcell => decide
  intro g L h₁ mean mg mb up dn nL F N X Tp HG
  have tg : TreeAt g T xs ds := t.up fun b o e => up b o e (by simp)
  have g1 := tg.inst
  have g2 := tg.dict
  clear t
  dsimp only
  k_steps
  rename Fr _ _ _ _ => F2
  rename News _ _ _ _ => N2
  refine text_form_c (S.deep HG F2 (by omega)) ?_
  intro v h' tk' k' r
  have F3 := fr_stay F2 k'
  clear F2 N2
  k_steps
  exact q _ _ _ (keep_of_fr up F3) r
set_option maxHeartbeats 8000000 in
theorem one_comment_c {i : Int} {ti : Tok} {d : NRow} {cl : Value} (S : St 570 w A s.heap H) (t : TreeAt s.heap T xs ds) (h0 : 0 ≤ i)
    (hd : ds[i.toNat]? = some d) (hk : d.kind = Str.ofString "comment")
    (q : ∀ v h' tk', Keep [] s.heap h' → Rd h' v (formD (Str.ofString "comment") (.str (Str.ofString "")) d.value [] []) → Q v { s with heap := h', toks := tk' }) :
    wpAny (model prog w) A (call (.ref 70) [.ref T.t, .int i ti, cl]) Q E s := by
  refine wpAny_call ?_
  refine' enter [] [(Str.ofString "tree", .ref T.t), (Str.ofString "node", .int i ti), (Str.ofString "children", cl)] S (by omega) (by simp) ?ho ?hcd ?hbind ?hloc ?h ?hco ?hgen ?hk ?hcell
  case ho => k_is
  case hcd => k_is
  case hbind => exact BindsTo.of_eq rfl
  case hloc => exact locs rfl
  case hco => exact rfl
  case hgen => exact rfl
  case hk => exact rfl
  case hcell => decide
  intro g L h₁ mean mg mb up dn nL F N X Tp HG
  have tg : TreeAt g T xs ds := t.up fun b o e => up b o e (by simp)
  have g1 := tg.inst
  have g2 := tg.dict
  clear t
  dsimp only
  k_steps
  rename Fr _ _ _ _ => F2
  rename News _ _ _ _ => N2
  refine comment_form_c (S.deep HG F2 (by omega)) ?_
  intro v h' tk' k' r
  have F3 := fr_stay F2 k'
  clear F2 N2
  k_steps
  exact q _ _ _ (keep_of_fr up F3) r
set_option maxHeartbeats 8000000 in
theorem one_instruction_c {i : Int} {ti : Tok} {d : NRow} {cl : Value} (S : St 570 w A s.heap H) (t : TreeAt s.heap T xs ds) (h0 : 0 ≤ i)
    (hd : ds[i.toNat]? = some d) (hk : d.kind = Str.ofString "instruction")
    (q : ∀ v h' tk', Keep [] s.heap h' → Rd h' v (formD (Str.ofString "instruction") (.str d.name) d.value [] []) → Q v { s with heap := h', toks := tk' }) :
    wpAny (model prog w) A (call (.ref 70) [.ref T.t, .int i ti, cl]) Q E s := by
  refine wpAny_call ?_
  refine' enter [] [(Str.ofString "tree", .ref T.t), (Str.ofString "node", .int i ti), (Str.ofString "children", cl)] S (by omega) (by simp) ?ho ?hcd ?hbind ?hloc ?h ?hco ?hgen ?hk ?hcell
  case ho => k_is
  case hcd => k_is
  case hbind => exact BindsTo.of_eq rfl
  case hloc => exact locs rfl
  case hco => exact rfl
  case hgen => exact rfl
  case hk => exact rfl
  case hcell => decide
  intro g L h₁ mean mg mb up dn nL F N X Tp HG
  have tg : TreeAt g T xs ds := t.up fun b o e => up b o e (by simp)
  have g1 := tg.inst
  have g2 := tg.dict
  clear t
  dsimp only
  k_steps
  rename Fr _ _ _ _ => F2
  rename News _ _ _ _ => N2
  refine instruction_form_c (S.deep HG F2 (by omega)) ?_
  intro v h' tk' k' r
  have F3 := fr_stay F2 k'
  clear F2 N2
  k_steps
  exact q _ _ _ (keep_of_fr up F3) r
set_option maxHeartbeats 8000000 in
theorem one_root_c {i : Int} {ti : Tok} {d : NRow} {cl : Addr} {cvs : List Value} {ce : Nat} {ch : List PyData} (S : St 570 w A s.heap H) (t : TreeAt s.heap T xs ds) (h0 : 0 ≤ i)
    (hd : ds[i.toNat]? = some d) (hk : d.kind = Str.ofString "root") (hc : s.heap.get? cl = some (listOf cvs.toArray ce)) (rc : RdA s.heap cvs ch) (hcl : cvs.length ≤ 1000)
    (q : ∀ v h' tk', Keep [] s.heap h' → Rd h' v (formD (Str.ofString "root") (.str (Str.ofString "")) (Str.ofString "") [] ch) → Q v { s with heap := h', toks := tk' }) :
    wpAny (model prog w) A (call (.ref 70) [.ref T.t, .int i ti, .ref cl]) Q E s := by
  refine wpAny_call ?_
  refine' enter [] [(Str.ofString "tree", .ref T.t), (Str.ofString "node", .int i ti), (Str.ofString "children", .ref cl)] S (by omega) (by simp) ?ho ?hcd ?hbind ?hloc ?h ?hco ?hgen ?hk ?hcell
  case ho => k_is
  case hcd => k_is
  case hbind => exact BindsTo.of_eq rfl
  case hloc => exact locs rfl
  case hco => exact rfl
  case hgen => exact rfl
  case hk => exact rfl
  case hcell => decide
  intro g L h₁ mean mg mb up dn nL F N X Tp HG
  have tg : TreeAt g T xs ds := t.up fun b o e => up b o e (by simp)
  have g1 := tg.inst
  have g2 := tg.dict
  have upS : s.heap.StaysIn g := fun b o e => up b o e (by simp)
  have gc := up _ _ hc (by simp)
  have rg := rc.up upS
  clear t
  dsimp only
  k_steps
  rename Fr _ _ _ _ => F2
  rename News _ _ _ _ => N2
  refine root_form_c (S.deep HG F2 (by omega)) (F2.keep _ _ gc) (rg.up F2.keep) hcl ?_
  intro v h' tk' k' r
  have F3 := fr_stay F2 k'
  clear F2 N2
  k_steps
  exact q _ _ _ (keep_of_fr up F3) r
set_option maxHeartbeats 8000000 in
theorem one_element_c {i : Int} {ti : Tok} {d : NRow} {cl : Addr} {cvs : List Value} {ce : Nat} {ch : List PyData} {as bs : List NRow} (S : St 570 w A s.heap H) (t : TreeAt s.heap T xs ds) (h0 : 0 ≤ i)
    (hd : ds[i.toNat]? = some d) (hk : d.kind = Str.ofString "element") (ha : IdsAre ds d.at_ as) (hb : IdsAre ds d.ns bs) (hsh : ∀ b ∈ bs, b.loc.length ≤ 1000)
    (hnd : ((elRows as bs).map KRow.key).Nodup) (h4 : (elRows as bs).length ≤ 4) (hc : s.heap.get? cl = some (listOf cvs.toArray ce)) (rc : RdA s.heap cvs ch) (hcl : cvs.length ≤ 1000)
    (q : ∀ v h' tk', Keep [] s.heap h' → Rd h' v (formD (Str.ofString "element") (.tuple [.str d.name, .str d.uri, .str d.loc]) (Str.ofString "") (sortK (elRows as bs)) ch) → Q v { s with heap := h', toks := tk' }) :
    wpAny (model prog w) A (call (.ref 70) [.ref T.t, .int i ti, .ref cl]) Q E s := by
  refine wpAny_call ?_
  refine' enter [] [(Str.ofString "tree", .ref T.t), (Str.ofString "node", .int i ti), (Str.ofString "children", .ref cl)] S (by omega) (by simp) ?ho ?hcd ?hbind ?hloc ?h ?hco ?hgen ?hk ?hcell
  case ho => k_is
  case hcd => k_is
  case hbind => exact BindsTo.of_eq rfl
  case hloc => exact locs rfl
  case hco => exact rfl
  case hgen => exact rfl
  case hk => exact rfl
  case hcell => decide
  intro g L h₁ mean mg mb up dn nL F N X Tp HG
  have tg : TreeAt g T xs ds := t.up fun b o e => up b o e (by simp)
  have g1 := tg.inst
  have g2 := tg.dict
  have upS : s.heap.StaysIn g := fun b o e => up b o e (by simp)
  have gc := up _ _ hc (by simp)
  have rg := rc.up upS
  have hl4 : as.length + bs.length ≤ 4 := by simpa [elRows] using h4
  clear t
  dsimp only
  k_steps
  rename Fr _ _ _ _ => F2
  rename News _ _ _ _ => N2
  refine rows_of_c (S.deep HG F2 (by omega)) (tg.up F2.keep) h0 hd ha hb (by omega) hsh ?_
  intro l vs e h' tk' k' nf hl rr
  rw [elRows_D] at rr
  have F3 := fr_stay F2 k'
  have N3 := news_stay N2 k'
  clear F2 N2
  k_steps
  rename Fr _ _ _ _ => F4
  rename News _ _ _ _ => N4
  refine element_form_c (S.deep HG F4 (by omega)) (Rd.tup (vs := [_, _, _]) (N4.get (.head _)) (.cons .str (.cons .str (.cons .str .nil)))) hl (F4.keep _ _ gc) rr hnd h4 (rg.up F4.keep) hcl ?_
  intro v h' tk' k' r
  have F5 := fr_stay F4 k'
  clear F4 N4
  k_steps
  exact q _ _ _ (keep_of_fr up F5) r
end
end Mine
namespace Mine
local macro_rules | `(tactic| k_inst) => `(tactic| (refine' inst_base ?F ?a ?b; (case F => k_asm); (case a => assumption); (case b => assumption)))
local macro_rules | `(tactic| k_all) => `(tactic| assumption)
theorem item_tup {prog : Program} {w : World} {A : Around} {E : Value → Shared → Prop} {s : Shared} {g : Heap} {L l : Addr} {m : Str → Option Value} {value slice : PySem.Expr} {vs : Array Value} {n : Nat} {k : Int} {u : Tok} {v : Value} {Q : Value → Shared → Prop}
    (F : Fr g L s.heap m) (hl : g.get? l = some { cls := .type "tuple", data := .seq vs n }) (h0 : 0 ≤ k) (hhi : k < 2 ^ 63) {r : List Value} (hx : vs.toList.drop k.toNat = v :: r) (h : Q v s)
    (hs : subscripted slice false (.ref l) (.int k u) = operate [.ref l, .int k u] (getItem (.ref l) (.int k u)) := by with_unfolding_all rfl) :
    wpAny (model prog w) A (subscriptTail value slice (.ref l) (.int k u)) Q E s :=
  have hL : IsTup s.heap l vs := ⟨_, F.keep _ _ hl, rfl, _, rfl⟩
  have hx2 : vs[k.toNat]? = some v := by
    have := congrArg (fun l => l[0]?) hx
    simpa using this
  have hlt : k.toNat < vs.size := (Array.getElem?_eq_some_iff.mp hx2).1
  tail_any hL.typeIs slot_tuple_getitem.lookup (getItem_tuple hL (by omega) hhi (seqIndex_of h0 (by omega)) hx2 h) hs
theorem tup_ne_list {h : Heap} {a b : Addr} {vs ws : Array Value} {n k : Nat} (ha : h.get? a = some { cls := .type "tuple", data := .seq vs n }) (hb : h.get? b = some (listOf ws k)) : a ≠ b := by
  intro z
  subst z
  rw [ha] at hb
  injection hb with hb
  have := congrArg Obj.cls hb
  exact absurd (show Value.type "tuple" = Value.type "list" from this) (by decide)
local macro_rules | `(tactic| walk_at "subscriptTail") => `(tactic| (k_here; (with_reducible show wpAny _ _ (subscriptTail _ _ (Value.ref _) (Value.int _ _)) _ _ _); (with_unfolding_all refine' item_tup ?F ?l ?a ?b ?c ?_ ?d; (case F => k_asm); (case l => assumption); (case a => decide); (case b => decide); (case c => exact rfl); (case d => with_unfolding_all rfl); k_whole)))
section
variable {prog : Program} {w : World} {A : Around} {s : Shared} {H : Heap} {Q : Value → Shared → Prop} {E : Value → Shared → Prop} {T : TRef} {xs : List RRef} {ds : List NRow}
set_option maxHeartbeats 8000000 in
theorem add_node_text_c {p : Int} {tp : Tok} {d : NRow} {y : RRef} {fv : Value} {value lab : Str} (S : St 540 w A s.heap H) (t : TreeAt s.heap T xs ds) (hs : xs.length < 1000) (hH : ∀ b ∈ lists T xs, H.get? b = none)
    (h0 : 0 ≤ p) (hd : ds[p.toNat]? = some d) (hy : xs[p.toNat]? = some y) (hk : d.kind = Str.ofString "root" ∨ d.kind = Str.ofString "element") (hc : d.ch.length < 1000)
    (rf : Rd s.heap fv (formD (Str.ofString "text") (.str lab) value [] []))
    (q : ∀ x h' tk' u, Keep [T.l, y.c] s.heap h' → TreeAt h' T (xs ++ [x]) (ds.set p.toNat { d with ch := d.ch ++ [.int xs.length u] } ++ [⟨Str.ofString "text", Str.ofString "", Str.ofString "", Str.ofString "", value, [], [], []⟩]) → (∀ b ∈ x.r :: x.d :: x.lists, s.heap.get? b = none) → Q (.int xs.length u) { s with heap := h', toks := tk' }) :
    wpAny (model prog w) A (call (.ref 77) [.ref T.t, .int p tp, fv]) Q E s := by
  obtain ⟨fa, vs, n, rfl, hf, q1⟩ := rf.tup_inv
  obtain ⟨v1, us, rfl, r1, q1⟩ := q1.cons_inv
  obtain ⟨v2, us, rfl, r2, q1⟩ := q1.cons_inv
  obtain ⟨v3, us, rfl, r3, q1⟩ := q1.cons_inv
  obtain ⟨v4, us, rfl, r4, q1⟩ := q1.cons_inv
  obtain ⟨v5, us, rfl, r5, q1⟩ := q1.cons_inv
  obtain rfl := q1.nil_inv
  obtain ⟨t1, rfl⟩ := r1.str_inv
  obtain ⟨t2, rfl⟩ := r2.str_inv
  obtain ⟨t3, rfl⟩ := r3.str_inv
  have r := t.all _ _ _ hy hd
  obtain ⟨el, hel⟩ := t.rows
  obtain ⟨ec, hec⟩ := r.ch
  have hnl := hH T.l (.head _)
  have hnc : H.get? y.c = none := hH _ (mem_lists (List.mem_of_getElem? hy) (.head _))
  refine wpAny_call ?_
  refine' enter [(T.l, listOf (xs.map fun x => Value.ref x.r).toArray el), (y.c, listOf d.ch.toArray ec)] [(Str.ofString "tree", .ref T.t), (Str.ofString "parent", .int p tp), (Str.ofString "form", .ref fa)] S (by omega) (by intro q hq; simp at hq; rcases hq with rfl | rfl; exact ⟨hel, hnl⟩; exact ⟨hec, hnc⟩) ?ho ?hcd ?hbind ?hloc ?h ?hco ?hgen ?hk ?hcell
  case ho => k_is
  case hcd => k_is
  case hbind => exact BindsTo.of_eq rfl
  case hloc => exact locs rfl
  case hco => exact rfl
  case hgen => exact rfl
  case hk => exact rfl
  case hcell => decide
  intro g L h₁ mean mg mb up dn nL F N X Tp HG
  have nf1 := tup_ne_list hf hel
  have nf2 := tup_ne_list hf hec
  have gf := up _ _ hf (by simp [nf1, nf2])
  have g1 := up _ _ t.inst (by simp; exact ⟨ne_inst_list t.inst hel, ne_inst_list t.inst hec⟩)
  have g2 := up _ _ t.dict (by simp; exact ⟨ne_dict_list t.dict hel, ne_dict_list t.dict hec⟩)
  dsimp only
  k_steps
  rename Fr _ _ _ _ => F0
  rename News _ _ _ _ => N0
  have u0 := keep0 up F0 N0 (by intro q hq; rcases List.mem_cons.mp hq with rfl | hq; exact hel; rw [List.mem_singleton.mp hq]; exact hec)
  refine add_text_c (S.deep HG F0 (by omega)) (t.up u0) hs hH h0 hd hy hk hc ?_
  intro x h' tk' u k t' fr
  exact q x h' tk' u (fun b o z n => k b o (u0 b o z) n) t' fun b hb => none_sub u0 (fr b hb)
set_option maxHeartbeats 8000000 in
theorem add_node_comment_c {p : Int} {tp : Tok} {d : NRow} {y : RRef} {fv : Value} {value lab : Str} (S : St 540 w A s.heap H) (t : TreeAt s.heap T xs ds) (hs : xs.length < 1000) (hH : ∀ b ∈ lists T xs, H.get? b = none)
    (h0 : 0 ≤ p) (hd : ds[p.toNat]? = some d) (hy : xs[p.toNat]? = some y) (hk : d.kind = Str.ofString "root" ∨ d.kind = Str.ofString "element") (hc : d.ch.length < 1000)
    (rf : Rd s.heap fv (formD (Str.ofString "comment") (.str lab) value [] []))
    (q : ∀ x h' tk' u, Keep [T.l, y.c] s.heap h' → TreeAt h' T (xs ++ [x]) (ds.set p.toNat { d with ch := d.ch ++ [.int xs.length u] } ++ [⟨Str.ofString "comment", Str.ofString "", Str.ofString "", Str.ofString "", value, [], [], []⟩]) → (∀ b ∈ x.r :: x.d :: x.lists, s.heap.get? b = none) → Q (.int xs.length u) { s with heap := h', toks := tk' }) :
    wpAny (model prog w) A (call (.ref 77) [.ref T.t, .int p tp, fv]) Q E s := by
  obtain ⟨fa, vs, n, rfl, hf, q1⟩ := rf.tup_inv
  obtain ⟨v1, us, rfl, r1, q1⟩ := q1.cons_inv
  obtain ⟨v2, us, rfl, r2, q1⟩ := q1.cons_inv
  obtain ⟨v3, us, rfl, r3, q1⟩ := q1.cons_inv
  obtain ⟨v4, us, rfl, r4, q1⟩ := q1.cons_inv
  obtain ⟨v5, us, rfl, r5, q1⟩ := q1.cons_inv
  obtain rfl := q1.nil_inv
  obtain ⟨t1, rfl⟩ := r1.str_inv
  obtain ⟨t2, rfl⟩ := r2.str_inv
  obtain ⟨t3, rfl⟩ := r3.str_inv
  have r := t.all _ _ _ hy hd
  obtain ⟨el, hel⟩ := t.rows
  obtain ⟨ec, hec⟩ := r.ch
  have hnl := hH T.l (.head _)
  have hnc : H.get? y.c = none := hH _ (mem_lists (List.mem_of_getElem? hy) (.head _))
  refine wpAny_call ?_
  refine' enter [(T.l, listOf (xs.map fun x => Value.ref x.r).toArray el), (y.c, listOf d.ch.toArray ec)] [(Str.ofString "tree", .ref T.t), (Str.ofString "parent", .int p tp), (Str.ofString "form", .ref fa)] S (by omega) (by intro q hq; simp at hq; rcases hq with rfl | rfl; exact ⟨hel, hnl⟩; exact ⟨hec, hnc⟩) ?ho ?hcd ?hbind ?hloc ?h ?hco ?hgen ?hk ?hcell
  case ho => k_is
  case hcd => k_is
  case hbind => exact BindsTo.of_eq rfl
  case hloc => exact locs rfl
  case hco => exact rfl
  case hgen => exact rfl
  case hk => exact rfl
  case hcell => decide
  intro g L h₁ mean mg mb up dn nL F N X Tp HG
  have nf1 := tup_ne_list hf hel
  have nf2 := tup_ne_list hf hec
  have gf := up _ _ hf (by simp [nf1, nf2])
  have g1 := up _ _ t.inst (by simp; exact ⟨ne_inst_list t.inst hel, ne_inst_list t.inst hec⟩)
  have g2 := up _ _ t.dict (by simp; exact ⟨ne_dict_list t.dict hel, ne_dict_list t.dict hec⟩)
  dsimp only
  k_steps
  rename Fr _ _ _ _ => F0
  rename News _ _ _ _ => N0
  have u0 := keep0 up F0 N0 (by intro q hq; rcases List.mem_cons.mp hq with rfl | hq; exact hel; rw [List.mem_singleton.mp hq]; exact hec)
  refine add_comment_c (S.deep HG F0 (by omega)) (t.up u0) hs hH h0 hd hy hk hc ?_
  intro x h' tk' u k t' fr
  exact q x h' tk' u (fun b o z n => k b o (u0 b o z) n) t' fun b hb => none_sub u0 (fr b hb)
set_option maxHeartbeats 8000000 in
theorem add_node_instruction_c {p : Int} {tp : Tok} {d : NRow} {y : RRef} {fv : Value} {value lab : Str} (S : St 540 w A s.heap H) (t : TreeAt s.heap T xs ds) (hs : xs.length < 1000) (hH : ∀ b ∈ lists T xs, H.get? b = none)
    (h0 : 0 ≤ p) (hd : ds[p.toNat]? = some d) (hy : xs[p.toNat]? = some y) (hk : d.kind = Str.ofString "root" ∨ d.kind = Str.ofString "element") (hc : d.ch.length < 1000)
    (rf : Rd s.heap fv (formD (Str.ofString "instruction") (.str lab) value [] []))
    (q : ∀ x h' tk' u, Keep [T.l, y.c] s.heap h' → TreeAt h' T (xs ++ [x]) (ds.set p.toNat { d with ch := d.ch ++ [.int xs.length u] } ++ [⟨Str.ofString "instruction", lab, Str.ofString "", lab, value, [], [], []⟩]) → (∀ b ∈ x.r :: x.d :: x.lists, s.heap.get? b = none) → Q (.int xs.length u) { s with heap := h', toks := tk' }) :
    wpAny (model prog w) A (call (.ref 77) [.ref T.t, .int p tp, fv]) Q E s := by
  obtain ⟨fa, vs, n, rfl, hf, q1⟩ := rf.tup_inv
  obtain ⟨v1, us, rfl, r1, q1⟩ := q1.cons_inv
  obtain ⟨v2, us, rfl, r2, q1⟩ := q1.cons_inv
  obtain ⟨v3, us, rfl, r3, q1⟩ := q1.cons_inv
  obtain ⟨v4, us, rfl, r4, q1⟩ := q1.cons_inv
  obtain ⟨v5, us, rfl, r5, q1⟩ := q1.cons_inv
  obtain rfl := q1.nil_inv
  obtain ⟨t1, rfl⟩ := r1.str_inv
  obtain ⟨t2, rfl⟩ := r2.str_inv
  obtain ⟨t3, rfl⟩ := r3.str_inv
  have r := t.all _ _ _ hy hd
  obtain ⟨el, hel⟩ := t.rows
  obtain ⟨ec, hec⟩ := r.ch
  have hnl := hH T.l (.head _)
  have hnc : H.get? y.c = none := hH _ (mem_lists (List.mem_of_getElem? hy) (.head _))
  refine wpAny_call ?_
  refine' enter [(T.l, listOf (xs.map fun x => Value.ref x.r).toArray el), (y.c, listOf d.ch.toArray ec)] [(Str.ofString "tree", .ref T.t), (Str.ofString "parent", .int p tp), (Str.ofString "form", .ref fa)] S (by omega) (by intro q hq; simp at hq; rcases hq with rfl | rfl; exact ⟨hel, hnl⟩; exact ⟨hec, hnc⟩) ?ho ?hcd ?hbind ?hloc ?h ?hco ?hgen ?hk ?hcell
  case ho => k_is
  case hcd => k_is
  case hbind => exact BindsTo.of_eq rfl
  case hloc => exact locs rfl
  case hco => exact rfl
  case hgen => exact rfl
  case hk => exact rfl
  case hcell => decide
  intro g L h₁ mean mg mb up dn nL F N X Tp HG
  have nf1 := tup_ne_list hf hel
  have nf2 := tup_ne_list hf hec
  have gf := up _ _ hf (by simp [nf1, nf2])
  have g1 := up _ _ t.inst (by simp; exact ⟨ne_inst_list t.inst hel, ne_inst_list t.inst hec⟩)
  have g2 := up _ _ t.dict (by simp; exact ⟨ne_dict_list t.dict hel, ne_dict_list t.dict hec⟩)
  dsimp only
  k_steps
  rename Fr _ _ _ _ => F0
  rename News _ _ _ _ => N0
  have u0 := keep0 up F0 N0 (by intro q hq; rcases List.mem_cons.mp hq with rfl | hq; exact hel; rw [List.mem_singleton.mp hq]; exact hec)
  refine add_instruction_c (S.deep HG F0 (by omega)) (t.up u0) hs hH h0 hd hy hk hc ?_
  intro x h' tk' u k t' fr
  exact q x h' tk' u (fun b o z n => k b o (u0 b o z) n) t' fun b hb => none_sub u0 (fr b hb)
end
end Mine
namespace Mine
/-- the addresses of a tree -/
noncomputable def objs (T : TRef) (xs : List RRef) : List Addr := T.t :: T.d :: T.l :: xs.flatMap fun x => x.r :: x.d :: x.lists
theorem TreeAt.some {h : Heap} {T : TRef} {xs : List RRef} {ds : List NRow} (t : TreeAt h T xs ds) {b : Addr} (hb : b ∈ objs T xs) : ∃ o, h.get? b = some o := by
  simp only [objs, List.mem_cons, List.mem_flatMap] at hb
  rcases hb with rfl | rfl | rfl | ⟨x, hx, hb⟩
  · exact ⟨_, t.inst⟩
  · exact ⟨_, t.dict⟩
  · exact ⟨_, t.rows.choose_spec⟩
  · obtain ⟨i, hi⟩ := List.getElem?_of_mem hx
    have hlt : i < ds.length := t.len ▸ (List.getElem?_eq_some_iff.mp hi).1
    have r := t.all i x _ hi (List.getElem?_eq_getElem hlt)
    simp only [RRef.lists, List.mem_cons, List.not_mem_nil, or_false] at hb
    rcases hb with rfl | rfl | rfl | rfl | rfl
    · exact ⟨_, r.inst⟩
    · exact ⟨_, r.dict⟩
    · exact ⟨_, r.ch.choose_spec⟩
    · exact ⟨_, r.at_.choose_spec⟩
    · exact ⟨_, r.ns.choose_spec⟩
theorem TreeAt.hide {h G : Heap} {T : TRef} {xs : List RRef} {ds : List NRow} (t : TreeAt h T xs ds) (k : ∀ b o, h.get? b = .some o → b ∈ objs T xs → G.get? b = .some o) : TreeAt G T xs ds := by
  have mx : ∀ {x : RRef} {b : Addr}, x ∈ xs → b ∈ x.r :: x.d :: x.lists → b ∈ objs T xs := fun hx hb => List.mem_cons_of_mem _ (List.mem_cons_of_mem _ (List.mem_cons_of_mem _ (List.mem_flatMap.mpr ⟨_, hx, hb⟩)))
  refine ⟨k _ _ t.inst (by simp [objs]), k _ _ t.dict (by simp [objs]), let ⟨e, q⟩ := t.rows; ⟨e, k _ _ q (by simp [objs])⟩, t.len, fun i x d a b => ?_, t.nodup, t.short⟩
  have r := t.all i x d a b
  have hx := List.mem_of_getElem? a
  exact ⟨k _ _ r.inst (mx hx (by simp)), k _ _ r.dict (mx hx (by simp)), let ⟨e, q⟩ := r.ch; ⟨e, k _ _ q (mx hx (by simp [RRef.lists]))⟩, let ⟨e, q⟩ := r.at_; ⟨e, k _ _ q (mx hx (by simp [RRef.lists]))⟩, let ⟨e, q⟩ := r.ns; ⟨e, k _ _ q (mx hx (by simp [RRef.lists]))⟩, r.short⟩
theorem objs_snoc {T : TRef} {xs : List RRef} {x : RRef} {b : Addr} (hb : b ∈ objs T (xs ++ [x])) : b ∈ objs T xs ∨ b ∈ x.r :: x.d :: x.lists := by
  simp only [objs, List.flatMap_append, List.mem_cons, List.mem_append, List.flatMap_cons, List.flatMap_nil, List.append_nil] at hb ⊢
  rcases hb with h | h | h | h | h
  · exact .inl (.inl h)
  · exact .inl (.inr (.inl h))
  · exact .inl (.inr (.inr (.inl h)))
  · exact .inl (.inr (.inr (.inr h)))
  · exact .inr h

/-- G: what a walk knows beside its own objects; ex: the part of it that the base g lacks -/
structure Gat (g : Heap) (L : Addr) (ex : List (Addr × Obj)) (G : Heap) : Prop where
  stay : ∀ h m, Fr g L h m → (∀ p ∈ ex, h.get? p.1 = some p.2) → G.StaysIn h
  cov : ∀ b o, G.get? b = some o → g.get? b = none → (b, o) ∈ ex
  offL : G.get? L = none
  has : ∀ p ∈ ex, G.get? p.1 = some p.2
theorem Gat.up {g G h : Heap} {L : Addr} {ex news : List (Addr × Obj)} {m : Str → Option Value} (q : Gat g L ex G) (F : Fr g L h m) (N : News g L h news) (hs : ∀ p ∈ ex, p ∈ news) : G.StaysIn h :=
  q.stay h m F fun p hp => (N p (hs p hp)).1
theorem gather {g h : Heap} {L : Addr} {m : Str → Option Value} (F : Fr g L h m) (own : List Addr) (ho : ∀ b ∈ own, g.get? b = none) :
    ∃ G ex, Gat g L ex G ∧ News g L h ex ∧ (∀ p ∈ ex, p.1 ∉ own) ∧ G.StaysIn h ∧ ∀ b o, h.get? b = some o → b ≠ L → b ∉ own → G.get? b = some o := by
  let G := hideAll h (L :: own)
  have hG : ∀ b o, h.get? b = some o → b ≠ L → b ∉ own → G.get? b = some o := fun b o e n1 n2 => hideAll_get _ e (by simp [n1, n2])
  have Gh : G.StaysIn h := fun b o e => of_hideAll _ e
  have gL : G.get? L = none := hideAll_none _ (.head _)
  have gO : ∀ b ∈ own, G.get? b = none := fun b hb => hideAll_none _ (.tail _ hb)
  let ex : List (Addr × Obj) := (List.range h.objs.size).filterMap fun b => match G.get? b with
    | some o => if g.get? b = none then some (b, o) else none
    | none => none
  have mem : ∀ p, p ∈ ex ↔ G.get? p.1 = some p.2 ∧ g.get? p.1 = none := by
    rintro ⟨b, o⟩
    simp only [ex, List.mem_filterMap, List.mem_range]
    constructor
    · rintro ⟨c, _, e⟩
      cases q : G.get? c with
      | none => rw [q] at e; cases e
      | some o' =>
        rw [q] at e
        dsimp only at e
        split at e
        · rename_i hg
          injection e with e
          injection e with e1 e2
          subst e1 e2
          exact ⟨q, hg⟩
        · cases e
    · rintro ⟨a, b'⟩
      exact ⟨b, Heap.lt_size (Gh _ _ a), by have a2 : G.get? b = some o := a; have b2 : g.get? b = none := b'; rw [a2]; simp [b2]⟩
  refine ⟨G, ex, ⟨?_, fun b o a c => (mem (b, o)).mpr ⟨a, c⟩, gL, fun p hp => ((mem p).mp hp).1⟩, ?_, ?_, Gh, hG⟩
  · intro h' m' F' he b o e
    cases q : g.get? b with
    | none => exact he (b, o) ((mem _).mpr ⟨e, q⟩)
    | some o' =>
      have e1 := F'.keep _ _ q
      have e2 := F.keep _ _ q
      rw [Gh _ _ e] at e2
      injection e2 with e2
      rw [e2, e1]
  · intro p hp
    obtain ⟨a, b⟩ := (mem p).mp hp
    exact ⟨Gh _ _ a, fun z => (by rw [z, gL] at a; cases a), b⟩
  · intro p hp hq
    have := ((mem p).mp hp).1
    rw [gO _ hq] at this
    cases this

/-- after a call that changed the tree: all is gathered anew -/
theorem gather_next {g h h' G : Heap} {L : Addr} {m : Str → Option Value} {ex own news : List (Addr × Obj)} {mods : List Addr} {T : TRef} {xs : List RRef} {x : RRef} {ds ds' : List NRow}
    (F : Fr g L h m) (N : News g L h news) (hex : ∀ p ∈ ex, p ∈ news) (hown : ∀ p ∈ own, p ∈ news) (hoff : OwnOff own (ex.map (·.1))) (q : Gat g L ex G) (t : TreeAt G T xs ds) (k : Keep mods h h')
    (hm : ∀ b ∈ mods, b ∈ objs T xs ∧ g.get? b = none) (t' : TreeAt h' T (xs ++ [x]) ds') (fr : ∀ b ∈ x.r :: x.d :: x.lists, h.get? b = none) :
    ∃ G' ex', Gat g L ex' G' ∧ TreeAt G' T (xs ++ [x]) ds' ∧ Fr g L h' m ∧ News g L h' (ex' ++ own) ∧ OwnOff own (ex'.map (·.1)) ∧ Keep mods G G' := by
  have Gh := q.up F N hex
  have mL : ∀ b ∈ mods, b ≠ L := fun b hb z => by
    obtain ⟨o, e⟩ := t.some (hm b hb).1
    rw [z, q.offL] at e
    cases e
  have F' := fr_back F k fun b hb => ⟨(hm b hb).2, mL b hb⟩
  have oT : ∀ b ∈ objs T xs, b ≠ L ∧ b ∉ own.map (·.1) := by
    intro b hb
    obtain ⟨o, e⟩ := t.some hb
    refine ⟨fun z => (by rw [z, q.offL] at e; cases e), fun z => ?_⟩
    obtain ⟨p, hp, rfl⟩ := List.mem_map.mp z
    exact hoff p hp _ (List.mem_map_of_mem (f := (·.1)) (q.cov _ _ e (N p (hown p hp)).2.2)) rfl
  obtain ⟨G', ex', q', N', no, Gh', hG'⟩ := gather F' (own.map (·.1)) (by intro b hb; obtain ⟨p, hp, rfl⟩ := List.mem_map.mp hb; exact (N p (hown p hp)).2.2)
  refine ⟨G', ex', q', t'.hide fun b o e hb => ?_, F', ?_, ?_, ?_⟩
  · rcases objs_snoc hb with hb | hb
    · exact hG' b o e (oT b hb).1 (oT b hb).2
    · refine hG' b o e (fun z => ?_) fun z => ?_
      · obtain ⟨oL, _, _, hL, _⟩ := F.ns
        have := fr b hb
        rw [z, hL] at this
        cases this
      · obtain ⟨p, hp, rfl⟩ := List.mem_map.mp z
        have := fr _ hb
        rw [(N p (hown p hp)).1] at this
        cases this
  · intro p hp
    rcases List.mem_append.mp hp with hp | hp
    · exact N' p hp
    · have n := N p (hown p hp)
      exact ⟨k _ _ n.1 fun z => (oT _ (hm _ z).1).2 (List.mem_map_of_mem hp), n.2⟩
  · intro p hp b hb z
    obtain ⟨r, hr, rfl⟩ := List.mem_map.mp hb
    exact no r hr (List.mem_map.mpr ⟨p, hp, z⟩)
  · intro b o e n
    refine hG' b o (k b o (Gh b o e) n) (fun z => (by rw [z, q.offL] at e; cases e)) fun z => ?_
    obtain ⟨p, hp, rfl⟩ := List.mem_map.mp z
    exact hoff p hp _ (List.mem_map_of_mem (f := (·.1)) (q.cov _ _ e (N p (hown p hp)).2.2)) rfl
mutual
theorem Rd.keep {G G' : Heap} {mods : List Addr} {v : Value} {d : PyData} (k : Keep mods G G') (hm : ∀ b ∈ mods, ∃ ws e, G.get? b = some (listOf ws e)) : Rd G v d → Rd G' v d
  | .str => .str
  | .tup e r => .tup (k _ _ e fun z => let ⟨_, _, q⟩ := hm _ z; tup_ne_list e q rfl) (r.keep k hm)
theorem RdA.keep {G G' : Heap} {mods : List Addr} {vs : List Value} {ds : List PyData} (k : Keep mods G G') (hm : ∀ b ∈ mods, ∃ ws e, G.get? b = some (listOf ws e)) : RdA G vs ds → RdA G' vs ds
  | .nil => .nil
  | .cons a b => .cons (a.keep k hm) (b.keep k hm)
end

/-- rows of a form and the rows of a tree that they make -/
noncomputable def KRow.isA (r : KRow) : Bool := r.k1 != xmlnsUri
noncomputable def KRow.isN (r : KRow) : Bool := r.k1 == xmlnsUri
noncomputable def attrN (r : KRow) : NRow := ⟨Str.ofString "attribute", r.name, r.k1, r.k2, r.value, [], [], []⟩
noncomputable def declN (r : KRow) : NRow := ⟨Str.ofString "namespace", r.k2, Str.ofString "", r.k2, r.value, [], [], []⟩
/-- an element with the rows `done` put on it: e its id, d₀ what it was made with -/
structure Put (G : Heap) (T : TRef) (xs : List RRef) (ds : List NRow) (e : Nat) (y : RRef) (d d₀ : NRow) (rs : List KRow) : Prop where
  tree : TreeAt G T xs ds
  hy : xs[e]? = some y
  hd : ds[e]? = some d
  same : d = { d₀ with at_ := d.at_, ns := d.ns }
  kind : d.kind = Str.ofString "element"
  ha : IdsAre ds d.at_ ((rs.filter KRow.isA).map attrN)
  hb : IdsAre ds d.ns ((rs.filter KRow.isN).map declN)
theorem Put.up {G G' : Heap} {T : TRef} {xs : List RRef} {ds : List NRow} {e : Nat} {y : RRef} {d d₀ : NRow} {rs : List KRow} (p : Put G T xs ds e y d d₀ rs) (k : G.StaysIn G') : Put G' T xs ds e y d d₀ rs :=
  ⟨p.tree.up k, p.hy, p.hd, p.same, p.kind, p.ha, p.hb⟩
theorem IdsAre.of_mem {ds : List NRow} {vs : List Value} {as : List NRow} (h : IdsAre ds vs as) {v : Value} (hv : v ∈ vs) : ∃ (k : Nat) (tk : Tok) (a : NRow), v = .int k tk ∧ a ∈ as ∧ ds[k]? = some a := by
  obtain ⟨j, hj⟩ := List.getElem?_of_mem hv
  obtain ⟨k, tk, a, e1, e2, e3⟩ := h.get hj
  exact ⟨k, tk, a, e1, List.mem_of_getElem? e2, e3⟩
section
variable {G G' : Heap} {T : TRef} {xs : List RRef} {ds : List NRow} {e : Nat} {y x : RRef} {d d₀ : NRow} {rs : List KRow} {u : Tok}
theorem Put.at_len (p : Put G T xs ds e y d d₀ rs) : d.at_.length ≤ rs.length := by
  rw [p.ha.length, List.length_map]; exact List.length_filter_le ..
theorem Put.ns_len (p : Put G T xs ds e y d d₀ rs) : d.ns.length ≤ rs.length := by
  rw [p.hb.length, List.length_map]; exact List.length_filter_le ..
theorem Put.no_attr (p : Put G T xs ds e y d d₀ rs) (r : KRow) (hn : r.key ∉ rs.map KRow.key) :
    ∀ v ∈ d.at_, ∃ (k : Nat) (tk : Tok) (x' : RRef) (d' : NRow), v = .int k tk ∧ xs[k]? = some x' ∧ ds[k]? = some d' ∧ ¬ (d'.uri = r.k1 ∧ d'.loc = r.k2) := by
  intro v hv
  obtain ⟨k, tk, a, e1, e2, e3⟩ := p.ha.of_mem hv
  have hk : k < xs.length := p.tree.len ▸ (List.getElem?_eq_some_iff.mp e3).1
  refine ⟨k, tk, _, a, e1, List.getElem?_eq_getElem hk, e3, fun z => ?_⟩
  obtain ⟨r', hr', rfl⟩ := List.mem_map.mp e2
  exact hn (List.mem_map.mpr ⟨r', (List.mem_filter.mp hr').1, Prod.ext z.1 z.2⟩)
theorem Put.no_ns (p : Put G T xs ds e y d d₀ rs) (r : KRow) (hr : r.isN = true) (hn : r.key ∉ rs.map KRow.key) :
    ∀ v ∈ d.ns, ∃ (k : Nat) (tk : Tok) (x' : RRef) (d' : NRow), v = .int k tk ∧ xs[k]? = some x' ∧ ds[k]? = some d' ∧ d'.name ≠ r.k2 := by
  intro v hv
  obtain ⟨k, tk, a, e1, e2, e3⟩ := p.hb.of_mem hv
  have hk : k < xs.length := p.tree.len ▸ (List.getElem?_eq_some_iff.mp e3).1
  refine ⟨k, tk, _, a, e1, List.getElem?_eq_getElem hk, e3, fun z => ?_⟩
  obtain ⟨r', hr', rfl⟩ := List.mem_map.mp e2
  obtain ⟨h1, h2⟩ := List.mem_filter.mp hr'
  refine hn (List.mem_map.mpr ⟨r', h1, Prod.ext ?_ z⟩)
  exact (eq_of_beq h2).trans (eq_of_beq hr).symm
theorem set_app_get {ds : List NRow} {e k : Nat} {d a n : NRow} (hne : k ≠ e) (h : ds[k]? = some a) : (ds.set e d ++ [n])[k]? = some a := by
  have hk : k < ds.length := (List.getElem?_eq_some_iff.mp h).1
  rw [List.getElem?_append_left (by simpa using hk), List.getElem?_set_ne (Ne.symm hne)]
  exact h
theorem set_app_last {ds : List NRow} {e : Nat} {d n : NRow} : (ds.set e d ++ [n])[ds.length]? = some n := by
  rw [List.getElem?_append_right (by simp)]
  simp
theorem set_app_self {ds : List NRow} {e : Nat} {d d' n : NRow} (h : ds[e]? = some d) : (ds.set e d' ++ [n])[e]? = some d' := by
  have hk : e < ds.length := (List.getElem?_eq_some_iff.mp h).1
  rw [List.getElem?_append_left (by simpa using hk)]
  simp [hk]
theorem Put.off (p : Put G T xs ds e y d d₀ rs) {k : Nat} {a : NRow} (hk : a.kind ≠ Str.ofString "element") (h : ds[k]? = some a) : k ≠ e := by
  rintro rfl
  rw [p.hd] at h
  injection h with h
  exact hk (h ▸ p.kind)
theorem attr_kind {rs : List KRow} {a : NRow} (h : a ∈ rs.map attrN) : a.kind ≠ Str.ofString "element" := by
  obtain ⟨r, _, rfl⟩ := List.mem_map.mp h
  show Str.ofString "attribute" ≠ _
  decide
theorem decl_kind {rs : List KRow} {a : NRow} (h : a ∈ rs.map declN) : a.kind ≠ Str.ofString "element" := by
  obtain ⟨r, _, rfl⟩ := List.mem_map.mp h
  show Str.ofString "namespace" ≠ _
  decide
theorem Put.attr (p : Put G T xs ds e y d d₀ rs) {r : KRow} (hr : r.isN = false)
    (t : TreeAt G' T (xs ++ [x]) (ds.set e { d with at_ := d.at_ ++ [.int xs.length u] } ++ [attrN r])) : Put G' T (xs ++ [x]) (ds.set e { d with at_ := d.at_ ++ [.int xs.length u] } ++ [attrN r]) e y { d with at_ := d.at_ ++ [.int xs.length u] } d₀ (rs ++ [r]) := by
  have hA : r.isA = true := by simp only [KRow.isA, KRow.isN, bne] at *; rw [hr]; rfl
  refine ⟨t, ?_, set_app_self p.hd, ?_, p.kind, ?_, ?_⟩
  · rw [List.getElem?_append_left (List.getElem?_eq_some_iff.mp p.hy).1]; exact p.hy
  · have := p.same; rw [this]
  · rw [List.filter_append, List.map_append]
    have e1 : List.map attrN (List.filter KRow.isA [r]) = [attrN r] := by simp [List.filter, hA]
    rw [e1]
    exact (p.ha.mono fun k a ha hk => set_app_get (p.off (attr_kind ha) hk) hk).snoc (by rw [p.tree.len]; exact set_app_last)
  · rw [List.filter_append, List.map_append]
    have e1 : List.map declN (List.filter KRow.isN [r]) = [] := by simp [List.filter, hr]
    rw [e1, List.append_nil]
    exact p.hb.mono fun k a ha hk => set_app_get (p.off (decl_kind ha) hk) hk
theorem Put.decl (p : Put G T xs ds e y d d₀ rs) {r : KRow} (hr : r.isN = true)
    (t : TreeAt G' T (xs ++ [x]) (ds.set e { d with ns := d.ns ++ [.int xs.length u] } ++ [declN r])) : Put G' T (xs ++ [x]) (ds.set e { d with ns := d.ns ++ [.int xs.length u] } ++ [declN r]) e y { d with ns := d.ns ++ [.int xs.length u] } d₀ (rs ++ [r]) := by
  have hA : r.isA = false := by simp only [KRow.isA, KRow.isN, bne] at *; rw [hr]; rfl
  refine ⟨t, ?_, set_app_self p.hd, ?_, p.kind, ?_, ?_⟩
  · rw [List.getElem?_append_left (List.getElem?_eq_some_iff.mp p.hy).1]; exact p.hy
  · have := p.same; rw [this]
  · rw [List.filter_append, List.map_append]
    have e1 : List.map attrN (List.filter KRow.isA [r]) = [] := by simp [List.filter, hA]
    rw [e1, List.append_nil]
    exact p.ha.mono fun k a ha hk => set_app_get (p.off (attr_kind ha) hk) hk
  · rw [List.filter_append, List.map_append]
    have e1 : List.map declN (List.filter KRow.isN [r]) = [declN r] := by simp [List.filter, hr]
    rw [e1]
    exact (p.hb.mono fun k a ha hk => set_app_get (p.off (decl_kind ha) hk) hk).snoc (by rw [p.tree.len]; exact set_app_last)
end
end Mine
namespace Mine
section
variable {prog : Program} {w : World} {A : Around} {E : Value → Shared → Prop} {s : Shared} {env : Env} {g : Heap} {target : PySem.Expr} {body : List Stmt} {Q : Flow → Shared → Prop}
theorem loop_bt {σ : Type} {l : Addr} {vs : List Value} {m₀ : Str → Option Value} (Led : σ → List (Addr × Obj)) (P : Nat → σ → Prop) (c₀ : σ) (stored : List Str)
    (hh : A.handled = none) (hl : ∃ n, g.get? l = some { cls := .type "tuple", data := .seq vs.toArray n }) (F : Fr g env.locals s.heap m₀) (N : News g env.locals s.heap (Led c₀)) (hp : P 0 c₀)
    (turn : ∀ i v c (m₁ : Str → Option Value) h tk own, vs[i]? = some v → P i c → OwnOff own ((Led c).map (·.1)) → Fr g env.locals h (fun y => if stored.contains y then m₁ y else m₀ y) → News g env.locals h (Led c ++ own) →
      wpAny (model prog w) A (assign target env v) (fun _ s₃ => wpAny (model prog w) A (execs body env) (LpPost g env.locals Led (P (i + 1)) stored m₀ own { s with heap := h, toks := tk } Q) E s₃) E { s with heap := h, toks := tk })
    (done : ∀ c (m₁ : Str → Option Value) h tk, P vs.length c → Fr g env.locals h (fun y => if stored.contains y then m₁ y else m₀ y) → News g env.locals h (Led c) → Q .next { s with heap := h, toks := tk }) :
    wpAny (model prog w) A (pyIter (.ref l)) (fun it s₂ => TurnsAt prog w A g env target body Q E it s₂) E s := by
  obtain ⟨n, hol⟩ := hl
  have hls : s.heap.IsTuple l vs.toArray := ⟨_, F.keep _ _ hol, rfl, n, rfl⟩
  have hlt : l < g.objs.size := Heap.lt_size hol
  have hne : l ≠ s.heap.objs.size := Nat.ne_of_lt (Nat.lt_trans (Nat.lt_of_lt_of_le hlt F.above) F.ns.lt)
  refine wpAny_pyIter_tuple hls ?_
  have W := KTurns.ofWalks (target := target) (Walks.tuple (prog := prog) (w := w) hh s.heap.objs.size l hne vs.toArray) fun i v s Q E st q => letGo_tupleiter st.1 q
  have hlen : vs.toArray.size = vs.length := by simp
  rw [hlen] at W
  refine ⟨_, _, _, vs.length, _, _, _, m₀, Led c₀, (fun i m nx => (∃ c, nx = Led c ∧ P i c) ∧ ∀ z, stored.contains z = false → m z = m₀ z), rfl, W, ?_, ?_, ?_, ⟨⟨_, Heap.get?_push_size _ rfl, rfl, rfl⟩, hls.at fun o e => Heap.get?_push_of_some _ e⟩, F.push _, (fun p hp => ⟨Heap.get?_push_of_some _ (N p hp).1, (N p hp).2⟩), ⟨⟨c₀, rfl, hp⟩, fun _ _ => rfl⟩, ?_, ?_⟩
  · intro hm
    rcases List.mem_cons.mp hm with e | hm
    · exact absurd F.ns.lt (e ▸ Nat.lt_irrefl _)
    · have := F.above
      rw [List.mem_singleton.mp hm] at this
      exact absurd (Nat.lt_of_lt_of_le hlt this) (Nat.lt_irrefl _)
  · intro b hb
    rw [List.mem_singleton.mp hb]
    exact next_is_new F
  · intro p hp hI
    exact absurd (Heap.lt_size (N p hp).1) ((List.mem_singleton.mp hI) ▸ Nat.lt_irrefl _)
  · rintro i v m₁ nx hh' tk' own hin hP ⟨⟨c, rfl, hPc⟩, hm⟩ hoff hown hget hfp hst F₁ N₁
    have hP' : vs[i]? = some v := by simpa using hP
    have hI0 : g.get? s.heap.objs.size = none := next_is_new F
    obtain ⟨⟨oI, hoI, _⟩, _⟩ := id hst
    have hIown : (s.heap.objs.size, oI) ∈ own := hfp _ (List.mem_cons.mpr (.inl rfl)) hI0 _ hoI
    have hown' : ∀ p ∈ own, p.1 = s.heap.objs.size := fun p hp => by
      rcases List.mem_cons.mp (hown p hp) with e | e
      · exact e
      · have h1 := (N₁ p (List.mem_append.mpr (.inl hp))).2.2
        rw [List.mem_singleton.mp e, hol] at h1; cases h1
    have hsep : OwnOff own ((Led c).map (·.1)) := by
      intro p hp b hb e
      obtain ⟨q, hq, rfl⟩ := List.mem_map.mp hb
      exact hoff q hq (List.mem_singleton.mpr (e ▸ hown' p hp))
    have N₂ : News g env.locals hh' (Led c ++ own) := fun p hp => N₁ p ((List.mem_append.mp hp).elim (fun h => List.mem_append.mpr (.inr h)) fun h => List.mem_append.mpr (.inl h))
    refine wpAny_mono (turn i v c m₁ hh' tk' own hP' hPc hsep (fr_after F₁ hm) N₂) (fun _ s₃ h₃ => wpAny_mono h₃ (fun f s₂ p => ?_) fun _ _ e => e) fun _ _ e => e
    have fin : LpEnd g env.locals Led (P (i + 1)) stored m₀ own { s with heap := hh', toks := tk' } s₂ →
        LoopStepU g env.locals [s.heap.objs.size] own (fun m nx => (∃ c, nx = Led c ∧ P (i + 1) c) ∧ ∀ z, stored.contains z = false → m z = m₀ z) { s with heap := hh', toks := tk' } .next s₂ := by
      rintro ⟨c', h', tk, m', news', e, hPc', F', N', hn, ho, ha, hm'⟩
      refine ⟨rfl, h', tk, m', Led c', e, F', fun p hp => ?_, fun p hp hq => ?_, ⟨c', rfl, hPc'⟩, hm'⟩
      · rcases List.mem_append.mp hp with h | h
        · exact N' p (ho p h)
        · exact N' p (hn p h)
      · exact ha _ hIown p.1 (List.mem_map.mpr ⟨p, hp, rfl⟩) (List.mem_singleton.mp hq).symm
    cases f with
    | ret v => exact p
    | brk => exact p
    | next => exact fin p
    | cont => exact fin p
  · rintro h' tk m' news' F' N' _ ⟨⟨c, rfl, hPc⟩, hm⟩
    exact done c m' h' tk hPc (fr_after F' hm) N'
end
end Mine
namespace Mine
local macro_rules | `(tactic| k_inst) => `(tactic| (refine' inst_base ?F ?a ?b; (case F => k_asm); (case a => assumption); (case b => assumption)))
local macro_rules | `(tactic| k_all) => `(tactic| assumption)
local macro_rules | `(tactic| walk_at "subscriptTail") => `(tactic| (k_here; (with_reducible show wpAny _ _ (subscriptTail _ _ (Value.ref _) (Value.int _ _)) _ _ _); (with_unfolding_all refine' item_tup ?F ?l ?a ?b ?c ?_ ?d; (case F => k_asm); (case l => assumption); (case a => decide); (case b => decide); (case c => exact rfl); (case d => with_unfolding_all rfl); k_whole)))
local macro_rules | `(tactic| walk_at "assign Tuple") => `(tactic| (k_here; (with_reducible show wpAny _ _ (assign (PySem.Expr.Tuple _ _ _) _ (Value.ref _)) _ _ _); k_dflt (refine' unpackN_ ?k1 ?k2 ?k3 ?k4 ?k5 ?k6 ?_; (case k1 => k_asm); (case k2 => k_asm); (case k3 => (refine' ⟨_, Fr.keep ?F _ _ ?e, ?x, _, ?y⟩; (case F => k_asm); (case e => assumption); (case x => exact rfl); (case y => exact rfl))); (case k4 => assumption); (case k5 => exact rfl); (case k6 => exact rfl); k_whole); intro h' F' N'; (try k_sweep)))
/-- what else a run of puts leaves -/
structure Oth (s : Heap) (T : TRef) (xsO xs0 : List RRef) (ds0 : List NRow) (e : Nat) (xs' : List RRef) (ds' : List NRow) (j : Nat) : Prop where
  rows : ∀ (k : Nat) (r : NRow), k ≠ e → ds0[k]? = some r → ds'[k]? = some r
  refs : ∀ (k : Nat) (x : RRef), xs0[k]? = some x → xs'[k]? = some x
  len : xs'.length = xs0.length + j
  new : ∀ b ∈ lists T xs', b ∈ lists T xsO ∨ s.get? b = none
  newO : ∀ b ∈ objs T xs', b ∈ objs T xsO ∨ s.get? b = none
theorem lists_snoc {T : TRef} {xs : List RRef} {x : RRef} {b : Addr} (hb : b ∈ lists T (xs ++ [x])) : b ∈ lists T xs ∨ b ∈ x.lists := by
  simp only [lists, List.flatMap_append, List.mem_cons, List.mem_append, List.flatMap_cons, List.flatMap_nil, List.append_nil] at hb ⊢
  rcases hb with h | h | h
  · exact .inl (.inl h)
  · exact .inl (.inr h)
  · exact .inr h
theorem lists_objs {T : TRef} {xs : List RRef} {b : Addr} (hb : b ∈ lists T xs) : b ∈ objs T xs := by
  simp only [lists, objs, List.mem_cons, List.mem_flatMap] at hb ⊢
  rcases hb with h | ⟨x, hx, h⟩
  · exact .inr (.inr (.inl h))
  · exact .inr (.inr (.inr ⟨x, hx, .inr (.inr h)⟩))
theorem Oth.step {s : Heap} {T : TRef} {xsO xs0 : List RRef} {ds0 : List NRow} {e : Nat} {xs' : List RRef} {ds' : List NRow} {j : Nat} (o : Oth s T xsO xs0 ds0 e xs' ds' j) {x : RRef} {d n : NRow}
    (fr : ∀ b ∈ x.r :: x.d :: x.lists, s.get? b = none) : Oth s T xsO xs0 ds0 e (xs' ++ [x]) (ds'.set e d ++ [n]) (j + 1) :=
  ⟨fun k r hk h => set_app_get hk (o.rows k r hk h), fun k y h => (by have q := o.refs k y h; rw [List.getElem?_append_left (List.getElem?_eq_some_iff.mp q).1]; exact q), by rw [List.length_append, o.len]; rfl, fun b hb => (lists_snoc hb).elim (o.new b) fun q => .inr (fr b (List.mem_cons_of_mem _ (List.mem_cons_of_mem _ q))), fun b hb => (objs_snoc hb).elim (o.newO b) fun q => .inr (fr b q)⟩
theorem take_snoc {α : Type} {l : List α} {j : Nat} {r : α} (h : l[j]? = some r) : l.take (j + 1) = l.take j ++ [r] := by rw [List.take_add_one, h]; rfl
theorem key_new {rows : List KRow} (hnd : (rows.map KRow.key).Nodup) {j : Nat} {r : KRow} (h : rows[j]? = some r) : r.key ∉ (rows.take j).map KRow.key := by
  intro hm
  obtain ⟨r', hr', e⟩ := List.mem_map.mp hm
  obtain ⟨i, hi⟩ := List.getElem?_of_mem hr'
  have hij : i < j := by
    have := (List.getElem?_eq_some_iff.mp hi).1
    rw [List.length_take] at this
    omega
  rw [List.getElem?_take, if_pos hij] at hi
  have h1 : (rows.map KRow.key)[i]? = some r.key := by simp [hi, e]
  have h2 : (rows.map KRow.key)[j]? = some r.key := by simp [h]
  have hl : i < (rows.map KRow.key).length := (List.getElem?_eq_some_iff.mp h1).1
  have := (List.getElem?_inj hl hnd).mp (h1.trans h2.symm)
  omega
section
variable {prog : Program} {w : World} {A : Around} {s : Shared} {H : Heap} {Q : Value → Shared → Prop} {E : Value → Shared → Prop} {T : TRef} {xs : List RRef} {ds : List NRow}

set_option maxHeartbeats 8000000 in
theorem add_node_element_c {p : Int} {tp : Tok} {d : NRow} {y : RRef} {fv : Value} {va nm ur lo : Str} {rows : List KRow} {chd : List PyData} (S : St 540 w A s.heap H) (t : TreeAt s.heap T xs ds) (hs : xs.length ≤ 900) (hH : ∀ b ∈ lists T xs, H.get? b = none)
    (h0 : 0 ≤ p) (hd : ds[p.toNat]? = some d) (hy : xs[p.toNat]? = some y) (hk : d.kind = Str.ofString "root" ∨ d.kind = Str.ofString "element") (hc : d.ch.length < 1000)
    (rf : Rd s.heap fv (formD (Str.ofString "element") (.tuple [.str nm, .str ur, .str lo]) va rows chd)) (hnd : (rows.map KRow.key).Nodup) (h4 : rows.length ≤ 4)
    (q : ∀ x h' tk' u xs' ds' d', Keep [T.l, y.c] s.heap h' → Put h' T xs' ds' xs.length x d' ⟨Str.ofString "element", nm, ur, lo, Str.ofString "", [], [], []⟩ rows →
      Oth s.heap T xs (xs ++ [x]) (ds.set p.toNat { d with ch := d.ch ++ [.int xs.length u] } ++ [⟨Str.ofString "element", nm, ur, lo, Str.ofString "", [], [], []⟩]) xs.length xs' ds' rows.length → Q (.int xs.length u) { s with heap := h', toks := tk' }) :
    wpAny (model prog w) A (call (.ref 77) [.ref T.t, .int p tp, fv]) Q E s := by
  obtain ⟨fa, vs, n, rfl, hf, q1⟩ := rf.tup_inv
  obtain ⟨v1, us, rfl, r1, q1⟩ := q1.cons_inv
  obtain ⟨v2, us, rfl, r2, q1⟩ := q1.cons_inv
  obtain ⟨v3, us, rfl, r3, q1⟩ := q1.cons_inv
  obtain ⟨v4, us, rfl, r4, q1⟩ := q1.cons_inv
  obtain ⟨v5, us, rfl, r5, q1⟩ := q1.cons_inv
  obtain rfl := q1.nil_inv
  obtain ⟨t1, rfl⟩ := r1.str_inv
  obtain ⟨la, vs, n2, rfl, hla, q2⟩ := r2.tup_inv
  obtain ⟨l1, us, rfl, e1, q2⟩ := q2.cons_inv
  obtain ⟨l2, us, rfl, e2, q2⟩ := q2.cons_inv
  obtain ⟨l3, us, rfl, e3, q2⟩ := q2.cons_inv
  obtain rfl := q2.nil_inv
  obtain ⟨s1, rfl⟩ := e1.str_inv
  obtain ⟨s2, rfl⟩ := e2.str_inv
  obtain ⟨s3, rfl⟩ := e3.str_inv
  obtain ⟨ra, vs, n3, rfl, hra, qr⟩ := r4.tup_inv
  have r := t.all _ _ _ hy hd
  obtain ⟨el, hel⟩ := t.rows
  obtain ⟨ec, hec⟩ := r.ch
  have hnl := hH T.l (.head _)
  have hnc : H.get? y.c = none := hH _ (mem_lists (List.mem_of_getElem? hy) (.head _))
  refine wpAny_call ?_
  refine' enter [(T.l, listOf (xs.map fun x => Value.ref x.r).toArray el), (y.c, listOf d.ch.toArray ec)] [(Str.ofString "tree", .ref T.t), (Str.ofString "parent", .int p tp), (Str.ofString "form", .ref fa)] S (by omega) (by intro q hq; simp at hq; rcases hq with rfl | rfl; exact ⟨hel, hnl⟩; exact ⟨hec, hnc⟩) ?ho ?hcd ?hbind ?hloc ?h ?hco ?hgen ?hk ?hcell
  case ho => k_is
  case hcd => k_is
  case hbind => exact BindsTo.of_eq rfl
  case hloc => exact locs rfl
  case hco => exact rfl
  case hgen => exact rfl
  case hk => exact rfl
  case hcell => decide
  intro g L h₁ mean mg mb up dn nL F N X Tp HG
  have hhA := S.hh
  have gf := up _ _ hf (by simp [tup_ne_list hf hel, tup_ne_list hf hec])
  have gla := up _ _ hla (by simp [tup_ne_list hla hel, tup_ne_list hla hec])
  have gra := up _ _ hra (by simp [tup_ne_list hra hel, tup_ne_list hra hec])
  have g1 := up _ _ t.inst (by simp; exact ⟨ne_inst_list t.inst hel, ne_inst_list t.inst hec⟩)
  have g2 := up _ _ t.dict (by simp; exact ⟨ne_dict_list t.dict hel, ne_dict_list t.dict hec⟩)
  have upk : Keep [T.l, y.c] s.heap g := fun b o e n => up b o e (by simpa using n)
  have rg : RdA g vs (rows.map kD) := qr.keep upk (by intro b hb; simp at hb; rcases hb with rfl | rfl; exact ⟨_, _, hel⟩; exact ⟨_, _, hec⟩)
  clear e1 e2 e3 r1 r2 r3 r4 r5 rf
  dsimp only
  k_steps
  rename Fr _ _ _ _ => F0
  rename News _ _ _ _ => N0
  have u0 := keep0 up F0 N0 (by intro q hq; rcases List.mem_cons.mp hq with rfl | hq; exact hel; rw [List.mem_singleton.mp hq]; exact hec)
  have n0 := N0 _ (.head _)
  have n1 := N0 _ (.tail _ (.head _))
  have gl0 : ∀ b ∈ lists T xs, b = T.l ∨ b = y.c ∨ g.get? b ≠ none := fun b hb => by
    obtain ⟨o, ho⟩ := t.some (lists_objs hb)
    by_cases z1 : b = T.l
    · exact .inl z1
    by_cases z2 : b = y.c
    · exact .inr (.inl z2)
    exact .inr (.inr (by rw [up b o ho (by simp [z1, z2])]; simp))
  refine add_element_c (S.deep HG F0 (by omega)) (t.up u0) (by omega) hH h0 hd hy hk hc ?_
  intro x h2 tk2 u2 k2 t2 fr
  have F2 := fr_back F0 k2 (by intro b hb; simp at hb; rcases hb with rfl | rfl; exact ⟨n0.2.2, n0.2.1⟩; exact ⟨n1.2.2, n1.2.1⟩)
  have frs : ∀ b ∈ x.r :: x.d :: x.lists, s.heap.get? b = none := fun b hb => none_sub u0 (fr b hb)
  have frL : ∀ b ∈ x.r :: x.d :: x.lists, b ≠ L := fun b hb z => by
    obtain ⟨oL, _, _, hL, _⟩ := F0.ns
    have := fr b hb
    rw [z, hL] at this
    cases this
  obtain ⟨G, ex, gq, N2, _, Gh, hG⟩ := gather F2 [] (by simp)
  have tG : TreeAt G T (xs ++ [x]) _ := t2.hide fun b o e hb => hG b o e ((objs_snoc hb).elim (fun hb => (let ⟨o, ho⟩ := t.some hb; nL b o ho)) (frL b)) (by simp)
  have hrow := set_app_last (ds := ds) (e := p.toNat) (d := { d with ch := d.ch ++ [.int xs.length u2] }) (n := ⟨Str.ofString "element", nm, ur, lo, Str.ofString "", [], [], []⟩)
  rw [← t.len] at hrow
  have pu0 : Put G T (xs ++ [x]) _ xs.length x ⟨Str.ofString "element", nm, ur, lo, Str.ofString "", [], [], []⟩ ⟨Str.ofString "element", nm, ur, lo, Str.ofString "", [], [], []⟩ [] := ⟨tG, by simp, hrow, rfl, rfl, .nil, .nil⟩
  have ot0 : Oth s.heap T xs (xs ++ [x]) (ds.set p.toNat { d with ch := d.ch ++ [.int xs.length u2] } ++ [⟨Str.ofString "element", nm, ur, lo, Str.ofString "", [], [], []⟩]) xs.length (xs ++ [x]) (ds.set p.toNat { d with ch := d.ch ++ [.int xs.length u2] } ++ [⟨Str.ofString "element", nm, ur, lo, Str.ofString "", [], [], []⟩]) 0 :=
    ⟨fun _ _ _ h => h, fun _ _ h => h, rfl, fun b hb => (lists_snoc hb).elim .inl fun q => .inr (frs b (List.mem_cons_of_mem _ (List.mem_cons_of_mem _ q))), fun b hb => (objs_snoc hb).elim .inl fun q => .inr (frs b q)⟩
  have ngl : g.get? T.l = none := n0.2.2
  have ngx : ∀ b ∈ x.lists, g.get? b = none := fun b hb => by
    cases q : g.get? b with
    | none => rfl
    | some o => have := dn b o q; rw [frs b (List.mem_cons_of_mem _ (List.mem_cons_of_mem _ hb))] at this; cases this
  have hsub : ∀ h : Heap, (∀ b o, g.get? b = some o → h.get? b = some o) → (∃ o, h.get? T.l = some o) → (∃ o, h.get? y.c = some o) → ∀ b, h.get? b = none → s.heap.get? b = none := fun h hg hl hc b hb => by
    cases q : s.heap.get? b with
    | none => rfl
    | some o =>
      by_cases z1 : b = T.l
      · obtain ⟨o, ho⟩ := hl; rw [← z1, hb] at ho; cases ho
      by_cases z2 : b = y.c
      · obtain ⟨o, ho⟩ := hc; rw [← z2, hb] at ho; cases ho
      have := hg b o (up b o q (by simp [z1, z2])); rw [hb] at this; cases this
  clear F0 N0 Gh hG k2 t2 tG fr u0 n0 n1 t
  k_steps
  rename Fr _ _ _ _ => F3
  rename News _ _ _ _ => N3
  refine For_turns F3 ?_
  k_steps
  rename Fr _ _ _ _ => F4
  rename News _ _ _ _ => N4
  refine loop_bt (fun ex : List (Addr × Obj) => ex) (fun j ex => ∃ G xs' ds' d', Gat g L ex G ∧ Put G T xs' ds' xs.length x d' ⟨Str.ofString "element", nm, ur, lo, Str.ofString "", [], [], []⟩ (rows.take j) ∧
    Oth s.heap T xs (xs ++ [x]) (ds.set p.toNat { d with ch := d.ch ++ [.int xs.length u2] } ++ [⟨Str.ofString "element", nm, ur, lo, Str.ofString "", [], [], []⟩]) xs.length xs' ds' j) ex [Str.ofString "key", Str.ofString "told", Str.ofString "value"] S.hh ⟨_, gra⟩ F4 N4 ⟨G, _, _, _, gq, pu0, ot0⟩ ?turn ?done
  case turn =>
    intro j v ex m₁ h tk own hv hP hoff F5 N5
    obtain ⟨G, xs', ds', d', gq, pu, ot⟩ := hP
    have hj : j < rows.length := by have := rg.length; rw [List.length_map] at this; exact this ▸ (List.getElem?_eq_some_iff.mp hv).1
    obtain ⟨r, hr⟩ : ∃ r, rows[j]? = some r := ⟨_, List.getElem?_eq_getElem hj⟩
    obtain ⟨a, kv, n4, t4, t5, rfl, hga, ka, t6, t7, n5, rfl, hka⟩ := (rg.get j v (kD r) hv (by simp [hr])).row_inv
    dsimp only [KRow.key] at hka
    have hnew := key_new hnd hr
    rw [take_snoc hr]
    have hy0 : (xs ++ [x])[p.toNat]? = some y := by rw [List.getElem?_append_left (List.getElem?_eq_some_iff.mp hy).1]; exact hy
    have hxl : xs'.length < 1000 := by rw [ot.len, List.length_append]; simp; omega
    have hHn : ∀ b ∈ lists T xs', H.get? b = none := fun b hb => (ot.new b hb).elim (hH b) fun q => by
      cases z : H.get? b with
      | none => rfl
      | some o => rw [S.W b o z] at q; cases q
    have htl : (rows.take j).length ≤ 4 := by rw [List.length_take]; omega
    clear F4 N4 pu0 ot0
    k_steps
    · have hN : r.isN = true := by assumption
      rename Fr _ _ _ _ => F6
      rename News _ _ _ _ => N6
      have tu := pu.tree.up (gq.up F6 N6 (fun p hp => List.mem_append_left _ hp))
      refine add_namespace_c (S.deep HG F6 (by omega)) tu hxl hHn (Int.natCast_nonneg _) (by simpa using pu.hy) (by simpa using pu.hd) pu.kind (Nat.lt_of_le_of_lt (Nat.le_trans pu.ns_len htl) (by decide)) (pu.no_ns r hN hnew) ?_
      intro x2 h3 tk3 u3 k3 t3 fr3
      simp only [Int.toNat_natCast] at t3
      have frs' : ∀ b ∈ x2.r :: x2.d :: x2.lists, s.heap.get? b = none := fun b hb => hsub _ F6.keep (tu.some (by simp [objs])) (tu.some (lists_objs (mem_lists (List.mem_of_getElem? (ot.refs _ _ hy0)) (by simp [RRef.lists])))) b (fr3 b hb)
      obtain ⟨G', ex', gq', tG', F7, N7, hoff', kG⟩ := gather_next F6 N6 (ex := ex) (own := own) (fun p hp => List.mem_append_left _ hp) (fun p hp => List.mem_append_right _ hp) hoff gq pu.tree k3
        (by intro b hb; simp only [List.mem_cons, List.not_mem_nil, or_false] at hb; rcases hb with rfl | rfl; exact ⟨by simp [objs], ngl⟩; exact ⟨lists_objs (mem_lists (List.mem_of_getElem? pu.hy) (by simp [RRef.lists])), ngx _ (by simp [RRef.lists])⟩) t3 fr3
      have pu2 := pu.decl hN tG'
      clear F6 N6 pu tu k3 t3 fr3 gq
      k_steps
      rename Fr _ _ _ _ => F8
      rename News _ _ _ _ => N8
      refine ⟨ex', _, _, _, _, rfl, ⟨G', _, _, _, gq', pu2, ot.step frs'⟩, F8, N8, fun p hp => List.mem_append_left _ hp, fun p hp => List.mem_append_right _ hp, hoff', ?_⟩
      intro z hz
      have hz' := hz
      simp only [List.contains_cons, List.contains_nil, Bool.or_false, Bool.or_eq_false_iff, beq_eq_false_iff_ne, ne_eq] at hz'
      simp [hz'.1, hz'.2.1, hz'.2.2]
    · have hN : r.isN = false := by assumption
      rename Fr _ _ _ _ => F6
      rename News _ _ _ _ => N6
      have tu := pu.tree.up (gq.up F6 N6 (fun p hp => List.mem_append_left _ hp))
      refine set_attribute_c (S.deep HG F6 (by omega)) tu hxl hHn (Int.natCast_nonneg _) (by simpa using pu.hy) (by simpa using pu.hd) pu.kind (Nat.lt_of_le_of_lt (Nat.le_trans pu.at_len htl) (by decide)) (pu.no_attr r hnew) ?_
      intro x2 h3 tk3 u3 k3 t3 fr3
      simp only [Int.toNat_natCast] at t3
      have frs' : ∀ b ∈ x2.r :: x2.d :: x2.lists, s.heap.get? b = none := fun b hb => hsub _ F6.keep (tu.some (by simp [objs])) (tu.some (lists_objs (mem_lists (List.mem_of_getElem? (ot.refs _ _ hy0)) (by simp [RRef.lists])))) b (fr3 b hb)
      obtain ⟨G', ex', gq', tG', F7, N7, hoff', kG⟩ := gather_next F6 N6 (ex := ex) (own := own) (fun p hp => List.mem_append_left _ hp) (fun p hp => List.mem_append_right _ hp) hoff gq pu.tree k3
        (by intro b hb; simp only [List.mem_cons, List.not_mem_nil, or_false] at hb; rcases hb with rfl | rfl; exact ⟨by simp [objs], ngl⟩; exact ⟨lists_objs (mem_lists (List.mem_of_getElem? pu.hy) (by simp [RRef.lists])), ngx _ (by simp [RRef.lists])⟩) t3 fr3
      have pu2 := pu.attr hN tG'
      clear F6 N6 pu tu k3 t3 fr3 gq
      k_steps
      rename Fr _ _ _ _ => F8
      rename News _ _ _ _ => N8
      refine ⟨ex', _, _, _, _, rfl, ⟨G', _, _, _, gq', pu2, ot.step frs'⟩, F8, N8, fun p hp => List.mem_append_left _ hp, fun p hp => List.mem_append_right _ hp, hoff', ?_⟩
      intro z hz
      have hz' := hz
      simp only [List.contains_cons, List.contains_nil, Bool.or_false, Bool.or_eq_false_iff, beq_eq_false_iff_ne, ne_eq] at hz'
      simp [hz'.1, hz'.2.1, hz'.2.2]
  case done =>
    intro ex m₁ h tk hP F5 N5
    obtain ⟨G, xs', ds', d', gq, pu, ot⟩ := hP
    have hvl := qr.length
    rw [List.length_map] at hvl
    rw [hvl, List.take_length] at pu
    rw [hvl] at ot
    clear F4 N4 pu0 ot0
    k_steps
    rename Fr _ _ _ _ => F6
    rename News _ _ _ _ => N6
    exact q x _ _ _ xs' ds' d' (keep_of_fr upk F6) (pu.up (gq.up F6 N6 fun p hp => hp)) ot
end
end Mine
namespace Mine
local macro_rules | `(tactic| k_inst) => `(tactic| (refine' inst_base ?F ?a ?b; (case F => k_asm); (case a => assumption); (case b => assumption)))
local macro_rules | `(tactic| k_all) => `(tactic| assumption)
local macro_rules | `(tactic| walk_at "subscriptTail") => `(tactic| (k_here; (with_reducible show wpAny _ _ (subscriptTail _ _ (Value.ref _) (Value.int _ _)) _ _ _); (with_unfolding_all refine' item_tup ?F ?l ?a ?b ?c ?_ ?d; (case F => k_asm); (case l => assumption); (case a => decide); (case b => decide); (case c => exact rfl); (case d => with_unfolding_all rfl); k_whole)))
local macro_rules | `(tactic| walk_at "assign Tuple") => `(tactic| (k_here; (with_reducible show wpAny _ _ (assign (PySem.Expr.Tuple _ _ _) _ (Value.ref _)) _ _ _); k_dflt (refine' unpackN_ ?k1 ?k2 ?k3 ?k4 ?k5 ?k6 ?_; (case k1 => k_asm); (case k2 => k_asm); (case k3 => (refine' ⟨_, Fr.keep ?F _ _ ?e, ?x, _, ?y⟩; (case F => k_asm); (case e => assumption); (case x => exact rfl); (case y => exact rfl))); (case k4 => assumption); (case k5 => exact rfl); (case k6 => exact rfl); k_whole); intro h' F' N'; (try k_sweep)))
section
variable {prog : Program} {w : World} {A : Around} {s : Shared} {H : Heap} {Q : Value → Shared → Prop} {E : Value → Shared → Prop} {T : TRef} {xs : List RRef} {ds : List NRow}

/-- what the law puts on an element -/
inductive Told
  | a (uri loc name value : Str)
  | d (pre uri : Str)
noncomputable def toldD : Told → PyData
  | .a u l n v => .tuple [.str (Str.ofString "a"), .str u, .str l, .str n, .str v]
  | .d p u => .tuple [.str (Str.ofString "d"), .str p, .str u]
noncomputable def toldK : Told → KRow
  | .a u l n v => ⟨u, l, n, v⟩
  | .d p u => ⟨xmlnsUri, p, nsName p, u⟩
noncomputable def Told.ok : Told → Prop
  | .a u _ _ _ => (u == xmlnsUri) = false
  | .d p _ => p.length ≤ 1000
theorem xmlns_app (p : Str) : Str.ofString "xmlns:" ++ p = Str.ofString "xmlns" ++ (Str.ofString ":" ++ p) := by
  have h : Str.ofString "xmlns:" = Str.ofString "xmlns" ++ Str.ofString ":" := by decide +kernel
  rw [h]
  show Str.mk _ = Str.mk _
  congr 1
  exact Array.append_assoc
theorem Rd.a_inv {h : Heap} {v : Value} {u l n w : Str} (r : Rd h v (toldD (.a u l n w))) : ∃ a t0 t1 t2 t3 t4 k, v = .ref a ∧ h.get? a = some { cls := .type "tuple", data := .seq #[.str (Str.ofString "a") t0, .str u t1, .str l t2, .str n t3, .str w t4] k } := by
  obtain ⟨a, vs, k, rfl, e, q⟩ := r.tup_inv
  obtain ⟨v1, us, rfl, q1, q⟩ := q.cons_inv
  obtain ⟨v2, us, rfl, q2, q⟩ := q.cons_inv
  obtain ⟨v3, us, rfl, q3, q⟩ := q.cons_inv
  obtain ⟨v4, us, rfl, q4, q⟩ := q.cons_inv
  obtain ⟨v5, us, rfl, q5, q⟩ := q.cons_inv
  obtain rfl := q.nil_inv
  obtain ⟨t1, rfl⟩ := q1.str_inv
  obtain ⟨t2, rfl⟩ := q2.str_inv
  obtain ⟨t3, rfl⟩ := q3.str_inv
  obtain ⟨t4, rfl⟩ := q4.str_inv
  obtain ⟨t5, rfl⟩ := q5.str_inv
  exact ⟨a, _, _, _, _, _, _, rfl, e⟩
theorem Rd.d_inv {h : Heap} {v : Value} {p u : Str} (r : Rd h v (toldD (.d p u))) : ∃ a t0 t1 t2 k, v = .ref a ∧ h.get? a = some { cls := .type "tuple", data := .seq #[.str (Str.ofString "d") t0, .str p t1, .str u t2] k } := by
  obtain ⟨a, vs, k, rfl, e, q⟩ := r.tup_inv
  obtain ⟨v1, us, rfl, q1, q⟩ := q.cons_inv
  obtain ⟨v2, us, rfl, q2, q⟩ := q.cons_inv
  obtain ⟨v3, us, rfl, q3, q⟩ := q.cons_inv
  obtain rfl := q.nil_inv
  obtain ⟨t1, rfl⟩ := q1.str_inv
  obtain ⟨t2, rfl⟩ := q2.str_inv
  obtain ⟨t3, rfl⟩ := q3.str_inv
  exact ⟨a, _, _, _, _, rfl, e⟩
/-- read from objects that were made since h0 alone -/
noncomputable def FRd (h0 h : Heap) (v : Value) (d : PyData) : Prop := ∀ G : Heap, (∀ b o, h.get? b = some o → h0.get? b = none → G.get? b = some o) → Rd G v d
theorem FRd.rd {h0 h : Heap} {v : Value} {d : PyData} (r : FRd h0 h v d) : Rd h v d := r h fun _ _ e _ => e
set_option maxHeartbeats 8000000 in
theorem law_row_a {v : Value} {u l n x : Str} (S : St 590 w A s.heap H) (r : Rd s.heap v (toldD (.a u l n x)))
    (q : ∀ v' h' tk', Keep [] s.heap h' → FRd s.heap h' v' (kD (toldK (.a u l n x))) → Q v' { s with heap := h', toks := tk' }) :
    wpAny (model prog w) A (call (.ref 348) [v]) Q E s := by
  obtain ⟨a, t0, t1, t2, t3, t4, k, rfl, ho⟩ := r.a_inv
  refine wpAny_call ?_
  refine' enter [] [(Str.ofString "told", .ref a)] S (by omega) (by simp) ?ho ?hcd ?hbind ?hloc ?h ?hco ?hgen ?hk ?hcell
  case ho => k_is
  case hcd => k_is
  case hbind => exact BindsTo.of_eq rfl
  case hloc => exact locs rfl
  case hco => exact rfl
  case hgen => exact rfl
  case hk => exact rfl
  case hcell => decide
  intro g L h₁ mean mg mb up dn nL F N X Tp HG
  have ga := up _ _ ho (by simp)
  dsimp only
  k_steps
  rename Fr _ _ _ _ => F2
  rename News _ _ _ _ => N2
  exact q _ _ _ (keep_of_fr up F2) fun G hG => (Rd.tup (vs := [_, _, _]) (hG _ _ (N2.get (.head _)) (none_of_up up (N2 _ (.head _)).2.2)) (.cons (.tup (vs := [_, _]) (hG _ _ (N2.get (.tail _ (.head _))) (none_of_up up (N2 _ (.tail _ (.head _))).2.2)) (.cons .str (.cons .str .nil))) (.cons .str (.cons .str .nil))))
set_option maxHeartbeats 8000000 in
theorem law_row_d {v : Value} {p u : Str} (S : St 590 w A s.heap H) (r : Rd s.heap v (toldD (.d p u))) (hp : p.length ≤ 1000)
    (q : ∀ v' h' tk', Keep [] s.heap h' → FRd s.heap h' v' (kD (toldK (.d p u))) → Q v' { s with heap := h', toks := tk' }) :
    wpAny (model prog w) A (call (.ref 348) [v]) Q E s := by
  obtain ⟨a, t0, t1, t2, k, rfl, ho⟩ := r.d_inv
  refine wpAny_call ?_
  refine' enter [] [(Str.ofString "told", .ref a)] S (by omega) (by simp) ?ho ?hcd ?hbind ?hloc ?h ?hco ?hgen ?hk ?hcell
  case ho => k_is
  case hcd => k_is
  case hbind => exact BindsTo.of_eq rfl
  case hloc => exact locs rfl
  case hco => exact rfl
  case hgen => exact rfl
  case hk => exact rfl
  case hcell => decide
  intro g L h₁ mean mg mb up dn nL F N X Tp HG
  have ga := up _ _ ho (by simp)
  dsimp only
  k_steps
  · have hne : (p == Str.ofString "") = false := by
      have h : (p != Str.ofString "") = true := by assumption
      simpa [bne] using h
    rename Fr _ _ _ _ => F2
    rename News _ _ _ _ => N2
    have hn : nsName p = Str.ofString "xmlns" ++ (Str.ofString ":" ++ p) := by unfold nsName; rw [if_neg (by rw [hne]; decide)]; exact xmlns_app p
    have hk : kD (toldK (.d p u)) = .tuple [.tuple [.str xmlnsUri, .str p], .str (Str.ofString "xmlns" ++ (Str.ofString ":" ++ p)), .str u] := by rw [← hn]; rfl
    refine q _ _ _ (keep_of_fr up F2) fun G hG => ?_
    rw [hk]
    exact Rd.tup (vs := [_, _, _]) (hG _ _ (N2.get (.head _)) (none_of_up up (N2 _ (.head _)).2.2)) (.cons (.tup (vs := [_, _]) (hG _ _ (N2.get (.tail _ (.head _))) (none_of_up up (N2 _ (.tail _ (.head _))).2.2)) (.cons .str (.cons .str .nil))) (.cons .str (.cons .str .nil)))
  · have hne : (p == Str.ofString "") = true := by
      have h : (p != Str.ofString "") = false := by assumption
      simpa [bne] using h
    rename Fr _ _ _ _ => F2
    rename News _ _ _ _ => N2
    have hn : nsName p = Str.ofString "xmlns" := by unfold nsName; rw [if_pos hne]
    have hk : kD (toldK (.d p u)) = .tuple [.tuple [.str xmlnsUri, .str p], .str (Str.ofString "xmlns"), .str u] := by rw [← hn]; rfl
    refine q _ _ _ (keep_of_fr up F2) fun G hG => ?_
    rw [hk]
    exact Rd.tup (vs := [_, _, _]) (hG _ _ (N2.get (.head _)) (none_of_up up (N2 _ (.head _)).2.2)) (.cons (.tup (vs := [_, _]) (hG _ _ (N2.get (.tail _ (.head _))) (none_of_up up (N2 _ (.tail _ (.head _))).2.2)) (.cons .str (.cons .str .nil))) (.cons .str (.cons .str .nil)))
theorem law_row_c {v : Value} {t : Told} (S : St 590 w A s.heap H) (r : Rd s.heap v (toldD t)) (ht : t.ok)
    (q : ∀ v' h' tk', Keep [] s.heap h' → FRd s.heap h' v' (kD (toldK t)) → Q v' { s with heap := h', toks := tk' }) :
    wpAny (model prog w) A (call (.ref 348) [v]) Q E s := by
  cases t with
  | a u l n x => exact law_row_a S r q
  | d p u => exact law_row_d S r ht q
set_option maxHeartbeats 8000000 in
theorem law_put_a {v : Value} {u1 l1 n1 w1 : Str} {e : Nat} {te : Tok} {y : RRef} {d d₀ : NRow} {rs : List KRow} (S : St 550 w A s.heap H) (r : Rd s.heap v (toldD (.a u1 l1 n1 w1))) (P : Put s.heap T xs ds e y d d₀ rs) (hs : xs.length < 1000) (hH : ∀ b ∈ lists T xs, H.get? b = none)
    (hok : (Told.a u1 l1 n1 w1).ok) (hnew : (toldK (.a u1 l1 n1 w1)).key ∉ rs.map KRow.key) (hl : rs.length ≤ 4)
    (q : ∀ x d' n h' tk', Keep [T.l, y.a] s.heap h' → Put h' T (xs ++ [x]) (ds.set e d' ++ [n]) e y d' d₀ (rs ++ [toldK (.a u1 l1 n1 w1)]) → (∀ b ∈ x.r :: x.d :: x.lists, s.heap.get? b = none) → Q .none { s with heap := h', toks := tk' }) :
    wpAny (model prog w) A (call (.ref 355) [.ref T.t, .int e te, v]) Q E s := by
  obtain ⟨a, t0, t1, t2, t3, t4, k, rfl, ho⟩ := r.a_inv
  have t := P.tree
  have rr := t.all _ _ _ P.hy P.hd
  obtain ⟨el, hel⟩ := t.rows
  obtain ⟨ec, hec⟩ := rr.at_
  have hnl := hH T.l (.head _)
  have hnc : H.get? y.a = none := hH _ (mem_lists (List.mem_of_getElem? P.hy) (by simp [RRef.lists]))
  refine wpAny_call ?_
  refine' enter [(T.l, listOf (xs.map fun x => Value.ref x.r).toArray el), (y.a, listOf d.at_.toArray ec)] [(Str.ofString "tree", .ref T.t), (Str.ofString "element", .int e te), (Str.ofString "told", .ref a)] S (by omega) (by intro q hq; simp at hq; rcases hq with rfl | rfl; exact ⟨hel, hnl⟩; exact ⟨hec, hnc⟩) ?ho ?hcd ?hbind ?hloc ?h ?hco ?hgen ?hk ?hcell
  case ho => k_is
  case hcd => k_is
  case hbind => exact BindsTo.of_eq rfl
  case hloc => exact locs rfl
  case hco => exact rfl
  case hgen => exact rfl
  case hk => exact rfl
  case hcell => decide
  intro g L h₁ mean mg mb up dn nL F N X Tp HG
  have gf := up _ _ ho (by simp [tup_ne_list ho hel, tup_ne_list ho hec])
  have g1 := up _ _ t.inst (by simp; exact ⟨ne_inst_list t.inst hel, ne_inst_list t.inst hec⟩)
  have g2 := up _ _ t.dict (by simp; exact ⟨ne_dict_list t.dict hel, ne_dict_list t.dict hec⟩)
  dsimp only
  k_steps
  rename Fr _ _ _ _ => F0
  rename News _ _ _ _ => N0
  have u0 := keep0 up F0 N0 (by intro q hq; rcases List.mem_cons.mp hq with rfl | hq; exact hel; rw [List.mem_singleton.mp hq]; exact hec)
  refine set_attribute_c (S.deep HG F0 (by omega)) (t.up u0) hs hH (Int.natCast_nonneg _) (by simpa using P.hy) (by simpa using P.hd) P.kind (Nat.lt_of_le_of_lt (Nat.le_trans P.at_len hl) (by decide)) (P.no_attr _ hnew) ?_
  intro x h' tk' u k t' fr
  simp only [Int.toNat_natCast] at t'
  have P2 := P.attr (r := toldK (.a u1 l1 n1 w1)) hok t'
  have F2 := fr_back F0 k (by intro b hb; simp only [List.mem_cons, List.not_mem_nil, or_false] at hb; rcases hb with rfl | rfl; exact ⟨(N0 _ (.head _)).2.2, (N0 _ (.head _)).2.1⟩; exact ⟨(N0 _ (.tail _ (.head _))).2.2, (N0 _ (.tail _ (.head _))).2.1⟩)
  clear F0 N0
  k_steps
  exact q _ _ _ _ _ (fun b o z n => k b o (u0 b o z) n) P2 fun b hb => none_sub u0 (fr b hb)
set_option maxHeartbeats 8000000 in
theorem law_put_d {v : Value} {p1 u1 : Str} {e : Nat} {te : Tok} {y : RRef} {d d₀ : NRow} {rs : List KRow} (S : St 550 w A s.heap H) (r : Rd s.heap v (toldD (.d p1 u1))) (P : Put s.heap T xs ds e y d d₀ rs) (hs : xs.length < 1000) (hH : ∀ b ∈ lists T xs, H.get? b = none)
    (hok : (Told.d p1 u1).ok) (hnew : (toldK (.d p1 u1)).key ∉ rs.map KRow.key) (hl : rs.length ≤ 4)
    (q : ∀ x d' n h' tk', Keep [T.l, y.n] s.heap h' → Put h' T (xs ++ [x]) (ds.set e d' ++ [n]) e y d' d₀ (rs ++ [toldK (.d p1 u1)]) → (∀ b ∈ x.r :: x.d :: x.lists, s.heap.get? b = none) → Q .none { s with heap := h', toks := tk' }) :
    wpAny (model prog w) A (call (.ref 355) [.ref T.t, .int e te, v]) Q E s := by
  obtain ⟨a, t0, t1, t2, k, rfl, ho⟩ := r.d_inv
  have hN : (toldK (.d p1 u1)).isN = true := by simp [toldK, KRow.isN]
  have t := P.tree
  have rr := t.all _ _ _ P.hy P.hd
  obtain ⟨el, hel⟩ := t.rows
  obtain ⟨ec, hec⟩ := rr.ns
  have hnl := hH T.l (.head _)
  have hnc : H.get? y.n = none := hH _ (mem_lists (List.mem_of_getElem? P.hy) (by simp [RRef.lists]))
  refine wpAny_call ?_
  refine' enter [(T.l, listOf (xs.map fun x => Value.ref x.r).toArray el), (y.n, listOf d.ns.toArray ec)] [(Str.ofString "tree", .ref T.t), (Str.ofString "element", .int e te), (Str.ofString "told", .ref a)] S (by omega) (by intro q hq; simp at hq; rcases hq with rfl | rfl; exact ⟨hel, hnl⟩; exact ⟨hec, hnc⟩) ?ho ?hcd ?hbind ?hloc ?h ?hco ?hgen ?hk ?hcell
  case ho => k_is
  case hcd => k_is
  case hbind => exact BindsTo.of_eq rfl
  case hloc => exact locs rfl
  case hco => exact rfl
  case hgen => exact rfl
  case hk => exact rfl
  case hcell => decide
  intro g L h₁ mean mg mb up dn nL F N X Tp HG
  have gf := up _ _ ho (by simp [tup_ne_list ho hel, tup_ne_list ho hec])
  have g1 := up _ _ t.inst (by simp; exact ⟨ne_inst_list t.inst hel, ne_inst_list t.inst hec⟩)
  have g2 := up _ _ t.dict (by simp; exact ⟨ne_dict_list t.dict hel, ne_dict_list t.dict hec⟩)
  dsimp only
  k_steps
  rename Fr _ _ _ _ => F0
  rename News _ _ _ _ => N0
  have u0 := keep0 up F0 N0 (by intro q hq; rcases List.mem_cons.mp hq with rfl | hq; exact hel; rw [List.mem_singleton.mp hq]; exact hec)
  refine add_namespace_c (S.deep HG F0 (by omega)) (t.up u0) hs hH (Int.natCast_nonneg _) (by simpa using P.hy) (by simpa using P.hd) P.kind (Nat.lt_of_le_of_lt (Nat.le_trans P.ns_len hl) (by decide)) (P.no_ns _ hN hnew) ?_
  intro x h' tk' u k t' fr
  simp only [Int.toNat_natCast] at t'
  have P2 := P.decl (r := toldK (.d p1 u1)) hN t'
  have F2 := fr_back F0 k (by intro b hb; simp only [List.mem_cons, List.not_mem_nil, or_false] at hb; rcases hb with rfl | rfl; exact ⟨(N0 _ (.head _)).2.2, (N0 _ (.head _)).2.1⟩; exact ⟨(N0 _ (.tail _ (.head _))).2.2, (N0 _ (.tail _ (.head _))).2.1⟩)
  clear F0 N0
  k_steps
  exact q _ _ _ _ _ (fun b o z n => k b o (u0 b o z) n) P2 fun b hb => none_sub u0 (fr b hb)
end
end Mine
namespace Mine
local macro_rules | `(tactic| k_inst) => `(tactic| (refine' inst_base ?F ?a ?b; (case F => k_asm); (case a => assumption); (case b => assumption)))
local macro_rules | `(tactic| k_all) => `(tactic| assumption)
local macro_rules | `(tactic| walk_at "eval ListComp") => `(tactic| (k_here; k_dflt (refine LCt.ListComp_T (F₀ := by k_asm) (by with_unfolding_all rfl) (by decide) (by rfl) (by decide) (by rfl) ?_)))
local macro_rules | `(tactic| walk_at "subscriptTail") => `(tactic| (k_here; (with_reducible show wpAny _ _ (subscriptTail _ _ (Value.ref _) (Value.int _ _)) _ _ _); (with_unfolding_all refine' item_tup ?F ?l ?a ?b ?c ?_ ?d; (case F => k_asm); (case l => assumption); (case a => decide); (case b => decide); (case c => exact rfl); (case d => with_unfolding_all rfl); k_whole)))
local macro_rules | `(tactic| walk_at "assign Tuple") => `(tactic| (k_here; (with_reducible show wpAny _ _ (assign (PySem.Expr.Tuple _ _ _) _ (Value.ref _)) _ _ _); k_dflt (refine' unpackN_ ?k1 ?k2 ?k3 ?k4 ?k5 ?k6 ?_; (case k1 => k_asm); (case k2 => k_asm); (case k3 => (refine' ⟨_, Fr.keep ?F _ _ ?e, ?x, _, ?y⟩; (case F => k_asm); (case e => assumption); (case x => exact rfl); (case y => exact rfl))); (case k4 => assumption); (case k5 => exact rfl); (case k6 => exact rfl); k_whole); intro h' F' N'; (try k_sweep)))
theorem gather_keep {g h h' G : Heap} {L : Addr} {m m' : Str → Option Value} {ex news : List (Addr × Obj)} {own : List Addr} (F : Fr g L h m) (N : News g L h news) (hex : ∀ p ∈ ex, p ∈ news) (hown : ∀ b ∈ own, g.get? b = none ∧ ∃ o, h.get? b = some o)
    (hoff : ∀ p ∈ ex, p.1 ∉ own) (q : Gat g L ex G) (k : Keep [] h h') (F' : Fr g L h' m') :
    ∃ G' ex', Gat g L ex' G' ∧ News g L h' ex' ∧ (∀ p ∈ ex', p.1 ∉ own) ∧ G.StaysIn G' ∧ ∀ b o, h'.get? b = some o → h.get? b = none → G'.get? b = some o := by
  obtain ⟨G', ex', q', N', no, Gh', hG'⟩ := gather F' own (fun b hb => (hown b hb).1)
  refine ⟨G', ex', q', N', no, fun b o e => ?_, fun b o e e0 => ?_⟩
  · refine hG' b o (k b o (q.up F N hex b o e) (by simp)) (fun z => (by rw [z, q.offL] at e; cases e)) fun z => ?_
    exact hoff _ (q.cov _ _ e (hown b z).1) z
  · refine hG' b o e (fun z => ?_) fun z => ?_
    · obtain ⟨oL, _, _, hL, _⟩ := F.ns
      rw [z, hL] at e0
      cases e0
    · obtain ⟨o', ho⟩ := (hown b z).2
      rw [ho] at e0
      cases e0

section
variable {prog : Program} {w : World} {A : Around} {g : Heap} {L : Addr} {m : Str → Option Value} {env : Env}
open LCg in
/-- a comprehension with a test over any list -/
theorem comp_restT {ct elt : PySem.Expr} {x : Str} {scope : Scope} {cl : List (Str × Addr)} {s : Shared} {S : List (Addr × Obj) → Prop} {P : Nat → Value → Prop} {Fin : List Value → List (Addr × Obj) → Prop} (J : Nat → List Value → List (Addr × Obj) → Prop) {n : Nat}
    (fin : ∀ ys news, J n ys news → Fin ys news)
    (turn : ∀ i ys news v I oI C oC D m₂ h tk (E' : Value → Shared → Prop), i < n → J i ys news → P i v → NsObj oC m₂ → m₂ x = some v → Fr g L h m → News g L h ((I, oI) :: (C, oC) :: (D, lst ys) :: news) → Off3 I C D news → S news → ((@Ne Nat I C) ∧ (@Ne Nat I D) ∧ (@Ne Nat C D)) →
      wpAny (model prog w) A (isTrue ct (compEnvC scope cl C env) (eval ct (compEnvC scope cl C env))) (fun ok s' => if ok = true then
        wpAny (model prog w) A (eval elt (compEnvC scope cl C env)) (CompEnd g L m { s with heap := h, toks := tk } I oI C oC D (lst ys) S (fun y news' => J (i + 1) (ys ++ [y]) news')) E' s'
        else CompEnd g L m { s with heap := h, toks := tk } I oI C oC D (lst ys) S (fun _ news' => J (i + 1) ys news') Value.none s') E' { s with heap := h, toks := tk }) :
    ∀ k i ys news, i + k = n → S news → J i ys news → LCt.CompRestT prog w A g L m env ct elt x scope cl s S P Fin k i ys news
  | 0, i, ys, news, hi, _, hj => by subst hi; exact fin ys news hj
  | k + 1, i, ys, news, hi, hS, hj => by
    intro v I oI C oC D m₂ h tk E' hP hC hx F N hoff hne
    have rc := fun ys' news' => comp_restT J fin turn k (i + 1) ys' news' (by omega)
    refine wpAny_mono (turn i ys news v I oI C oC D m₂ h tk E' (by omega) hj hP hC hx F N hoff hS hne) (fun ok s' ho => ?_) fun _ _ e => e
    cases ok with
    | true =>
      simp only [if_true] at ho ⊢
      refine wpAny_mono ho (fun y s'' hy => ?_) fun _ _ e => e
      obtain ⟨h', tk', news', e, F', N', o', S', j'⟩ := hy
      exact ⟨h', tk', news', e, F', N', o', S', rc _ _ S' j'⟩
    | false =>
      simp only [Bool.false_eq_true, if_false] at ho ⊢
      obtain ⟨h', tk', news', e, F', N', o', S', j'⟩ := ho
      exact ⟨h', tk', news', e, F', N', o', S', rc _ _ S' j'⟩
end
noncomputable def Told.isA : Told → Bool
  | .a .. => true
  | .d .. => false
noncomputable def Told.isD (t : Told) : Bool := !t.isA
noncomputable def listed (ts : List Told) : List KRow := (ts.filter Told.isA).map toldK ++ (ts.filter Told.isD).map toldK
theorem rows_yes {p : Told → Bool} {ts : List Told} {i : Nat} {t : Told} (h : ts[i]? = some t) (hp : p t = true) : ((ts.take (i + 1)).filter p).map (fun t => kD (toldK t)) = ((ts.take i).filter p).map (fun t => kD (toldK t)) ++ [kD (toldK t)] := by
  rw [take_snoc h, List.filter_append, List.map_append]
  simp [List.filter, hp]
theorem rows_no {p : Told → Bool} {ts : List Told} {i : Nat} {t : Told} (h : ts[i]? = some t) (hp : p t = false) : ((ts.take (i + 1)).filter p).map (fun t => kD (toldK t)) = ((ts.take i).filter p).map (fun t => kD (toldK t)) := by
  rw [take_snoc h, List.filter_append, List.map_append]
  simp [List.filter, hp]
theorem RdA.append {h : Heap} {vs ws : List Value} {ds es : List PyData} (a : RdA h vs ds) (b : RdA h ws es) : RdA h (vs ++ ws) (ds ++ es) := by
  induction vs generalizing ds with
  | nil => cases a; exact b
  | cons u us ih =>
    cases a with
    | cons r q => exact .cons r (ih q)
theorem off3_own {g h : Heap} {L I C D : Addr} {oI oC oD : Obj} {ex : List (Addr × Obj)} (N : News g L h ((I, oI) :: (C, oC) :: (D, oD) :: ex)) : ∀ b ∈ [I, C, D], g.get? b = none ∧ ∃ o, h.get? b = some o := by
  intro b hb
  simp only [List.mem_cons, List.not_mem_nil, or_false] at hb
  rcases hb with rfl | rfl | rfl
  · exact ⟨(N _ (.head _)).2.2, _, (N _ (.head _)).1⟩
  · exact ⟨(N _ (.tail _ (.head _))).2.2, _, (N _ (.tail _ (.head _))).1⟩
  · exact ⟨(N _ (.tail _ (.tail _ (.head _)))).2.2, _, (N _ (.tail _ (.tail _ (.head _)))).1⟩
theorem off3_ex {I C D : Addr} {ex : List (Addr × Obj)} (o : LCg.Off3 I C D ex) : ∀ p ∈ ex, p.1 ∉ [I, C, D] := by
  intro p hp hb
  have := o.mem p hp
  simp only [List.mem_cons, List.not_mem_nil, or_false] at hb
  rcases hb with h | h | h
  · exact this.1 h
  · exact this.2.1 h
  · exact this.2.2 h
theorem ex_off3 {I C D : Addr} {ex : List (Addr × Obj)} (o : ∀ p ∈ ex, p.1 ∉ [I, C, D]) : LCg.Off3 I C D ex :=
  LCg.Off3.of fun p hp => by have := o p hp; simp only [List.mem_cons, List.not_mem_nil, or_false, not_or] at this; exact this
theorem empty_get (b : Addr) : ({} : Heap).get? b = none := Heap.get?_none_of_le (Nat.zero_le _)
theorem gat_nil {g : Heap} {L : Addr} : Gat g L [] ({} : Heap) :=
  ⟨fun _ _ _ _ b o e => (by rw [empty_get] at e; cases e), fun b o e => (by rw [empty_get] at e; cases e), empty_get _, fun p hp => nomatch hp⟩
/-- the end of a turn that gave a row -/
theorem comp_row {g h h' G : Heap} {L I C D : Addr} {oI oC : Obj} {m : Str → Option Value} {ex : List (Addr × Obj)} {ys : List Value} {y : Value} {d : PyData} {S : List (Addr × Obj) → Prop} {s₁ : Shared} {tk : Nat} {rest : Value → List (Addr × Obj) → Prop}
    (F : Fr g L h m) (N : News g L h ((I, oI) :: (C, oC) :: (D, LCg.lst ys) :: ex)) (o : LCg.Off3 I C D ex) (q : Gat g L ex G) (k : Keep [] h h') (r : FRd h h' y d)
    (hS : ∀ n, S n) (hrest : ∀ G' ex', Gat g L ex' G' → G.StaysIn G' → Rd G' y d → rest y ex') :
    LCg.CompEnd g L m s₁ I oI C oC D (LCg.lst ys) S rest y { s₁ with heap := h', toks := tk } := by
  have F' := fr_stay F k
  have N' := news_stay N k
  obtain ⟨G', ex', q', Nx, no, st, fr⟩ := gather_keep F N (ex := ex) (fun p hp => .tail _ (.tail _ (.tail _ hp))) (off3_own N) (off3_ex o) q k F'
  refine LCg.CompEnd.intro (all := (I, oI) :: (C, oC) :: (D, LCg.lst ys) :: ex') F' ?_ ex' (fun p hp => hp) (ex_off3 no) (hS _) (hrest G' ex' q' st (r G' fr))
  intro p hp
  simp only [List.mem_cons] at hp
  rcases hp with rfl | rfl | rfl | hp
  · exact N' _ (.head _)
  · exact N' _ (.tail _ (.head _))
  · exact N' _ (.tail _ (.tail _ (.head _)))
  · exact Nx p hp
section
variable {prog : Program} {w : World} {A : Around} {s : Shared} {H : Heap} {Q : Value → Shared → Prop} {E : Value → Shared → Prop} {T : TRef} {xs : List RRef} {ds : List NRow}

set_option maxHeartbeats 8000000 in
theorem law_listed_c {l : Addr} {vs : List Value} {ts : List Told} {n : Nat} (S : St 570 w A s.heap H) (hl : s.heap.get? l = some (listOf vs.toArray n)) (r : RdA s.heap vs (ts.map toldD)) (hok : ∀ t ∈ ts, t.ok) (h4 : ts.length ≤ 4)
    (q : ∀ (l' : Addr) (vs' : List Value) (e' : Nat) h' tk', Keep [] s.heap h' → s.heap.get? l' = none → h'.get? l' = some (listOf vs'.toArray e') → RdA h' vs' ((listed ts).map kD) → Q (.ref l') { s with heap := h', toks := tk' }) :
    wpAny (model prog w) A (call (.ref 360) [.ref l]) Q E s := by
  refine wpAny_call ?_
  refine' enter [] [(Str.ofString "lot", .ref l)] S (by omega) (by simp) ?ho ?hcd ?hbind ?hloc ?h ?hco ?hgen ?hk ?hcell
  case ho => k_is
  case hcd => k_is
  case hbind => exact BindsTo.of_eq rfl
  case hloc => exact locs rfl
  case hco => exact rfl
  case hgen => exact rfl
  case hk => exact rfl
  case hcell => decide
  intro g L h₁ mean mg mb up dn nL F N X Tp HG
  have gl := up _ _ hl (by simp)
  dsimp only
  k_steps
  rename Fr _ _ _ _ => F0
  rename News _ _ _ _ => N0
  have rg : RdA g vs (ts.map toldD) := r.up fun b o e => up b o e (by simp)
  have hsz : vs.toArray.size ≤ sizeLine := by have := rg.length; rw [List.length_map] at this; rw [List.size_toArray, sizeLine_eq]; omega
  have hn : vs.toArray.size = ts.length := by have := rg.length; rw [List.length_map] at this; rw [List.size_toArray, this]
  refine LCt.CompSrcT.base S.hh F0 N0 ⟨_, gl, rfl, _, rfl⟩ hsz fun h0' => ?_
  refine comp_restT (n := vs.toArray.size) (fun i ys ex => ∃ G, Gat g L ex G ∧ RdA G ys (((ts.take i).filter Told.isA).map fun t => kD (toldK t))) ?fin ?turn _ 0 [] [] (by simp) (.inl ⟨_, gl, rfl, _, rfl⟩) ⟨{}, gat_nil, .nil⟩
  case turn =>
    intro i ys ex v I oI C oC D m₂ h tk E' hi hJ hP hC hx F1 N1 hoff _ hne
    obtain ⟨G, gq, rG⟩ := hJ
    have hP' : vs[i]? = some v := by simpa using hP
    have hit : i < ts.length := by have := rg.length; rw [List.length_map] at this; exact this ▸ (List.getElem?_eq_some_iff.mp hP').1
    obtain ⟨t, ht⟩ : ∃ t, ts[i]? = some t := ⟨_, List.getElem?_eq_getElem hit⟩
    have rt := rg.get i v (toldD t) hP' (by simp [ht])
    have hokt := hok t (List.mem_of_getElem? ht)
    cases t with
    | a u1 l1 n1 w1 =>
      obtain ⟨a, t0, t1, t2, t3, t4, k, rfl, ho⟩ := rt.a_inv
      clear hP hP'
      k_steps
      rename Fr _ _ _ _ => F2
      rename News _ _ _ _ => N2
      refine law_row_c (S.deep HG F2 (by omega)) (rt.up F2.keep) hokt ?_
      intro v' h' tk' k' rd
      exact comp_row F2 N2 hoff gq k' rd (fun _ => .inl ⟨_, gl, rfl, _, rfl⟩) fun G' ex' q' st r' => ⟨G', q', by rw [rows_yes ht rfl]; exact (rG.up st).snoc r'⟩
    | d p1 u1 =>
      obtain ⟨a, t0, t1, t2, k, rfl, ho⟩ := rt.d_inv
      clear hP hP'
      k_steps
      rename Fr _ _ _ _ => F2
      rename News _ _ _ _ => N2
      exact LCg.CompEnd.intro F2 N2 ex (fun p hp => hp) hoff (.inl ⟨_, gl, rfl, _, rfl⟩) ⟨G, gq, by rw [rows_no ht rfl]; exact rG⟩
  case fin =>
    intro ysA exA hJ
    obtain ⟨G1, gq1, rG1⟩ := hJ
    intro D h1 tk1 F1 N1 o1
    rw [hn, List.take_length] at rG1
    have n1 := N1 _ (.head _)
    obtain ⟨G2, ex2, gq2, N2, _, _, hG2⟩ := gather F1 [] (by simp)
    have e2 : G2.get? D = some (LCg.lst ysA) := hG2 _ _ n1.1 n1.2.1 (by simp)
    have st2 : G1.StaysIn G2 := fun b o e => hG2 b o (gq1.up F1 N1 (fun p hp => .tail _ hp) b o e) (fun z => (by rw [z, gq1.offL] at e; cases e)) (by simp)
    have rG2 := rG1.up st2
    have ngD : g.get? D = none := n1.2.2
    clear N1 F0 N0 o1 gq1 rG1 st2 hG2 n1
    k_steps
    rename Fr _ _ _ _ => F3
    rename News _ _ _ _ => N3
    refine LCt.CompSrcT.base S.hh F3 N3 ⟨_, gl, rfl, _, rfl⟩ hsz fun h0' => ?_
    refine comp_restT (n := vs.toArray.size) (fun i ys ex => ∃ G, Gat g L ex G ∧ G.get? D = some (LCg.lst ysA) ∧ RdA G ysA ((ts.filter Told.isA).map fun t => kD (toldK t)) ∧ RdA G ys (((ts.take i).filter Told.isD).map fun t => kD (toldK t))) ?fin2 ?turn2 _ 0 [] ex2 (by simp) (.inl ⟨_, gl, rfl, _, rfl⟩) ⟨G2, gq2, e2, rG2, .nil⟩
    case turn2 =>
      intro i ys ex v I oI C oC D9 m₂ h tk E' hi hJ hP hC hx F1 N1 hoff _ hne
      obtain ⟨G, gq, e1, rG1, rG⟩ := hJ
      have hP' : vs[i]? = some v := by simpa using hP
      have hit : i < ts.length := by have := rg.length; rw [List.length_map] at this; exact this ▸ (List.getElem?_eq_some_iff.mp hP').1
      obtain ⟨t, ht⟩ : ∃ t, ts[i]? = some t := ⟨_, List.getElem?_eq_getElem hit⟩
      have rt := rg.get i v (toldD t) hP' (by simp [ht])
      have hokt := hok t (List.mem_of_getElem? ht)
      cases t with
      | a u1 l1 n1 w1 =>
        obtain ⟨a, t0, t1, t2, t3, t4, k, rfl, ho⟩ := rt.a_inv
        clear hP hP'
        k_steps
        rename Fr _ _ _ _ => F2
        rename News _ _ _ _ => N2
        exact LCg.CompEnd.intro F2 N2 ex (fun p hp => hp) hoff (.inl ⟨_, gl, rfl, _, rfl⟩) ⟨G, gq, e1, rG1, by rw [rows_no ht rfl]; exact rG⟩
      | d p1 u1 =>
        obtain ⟨a, t0, t1, t2, k, rfl, ho⟩ := rt.d_inv
        clear hP hP'
        k_steps
        rename Fr _ _ _ _ => F2
        rename News _ _ _ _ => N2
        refine law_row_c (S.deep HG F2 (by omega)) (rt.up F2.keep) hokt ?_
        intro v' h' tk' k' rd
        exact comp_row F2 N2 hoff gq k' rd (fun _ => .inl ⟨_, gl, rfl, _, rfl⟩) fun G' ex' q' st r' => ⟨G', q', st _ _ e1, rG1.up st, by rw [rows_yes ht rfl]; exact (rG.up st).snoc r'⟩
    case fin2 =>
      intro ysD exD hJ
      obtain ⟨G4, gq4, e4, rGA, rGD⟩ := hJ
      intro D4 h4 tk4 F4 N4 o4
      rw [hn, List.take_length] at rGD
      have N5 : News g L h4 ((D4, LCg.lst ysD) :: (D, LCg.lst ysA) :: exD) := fun p hp => by
        simp only [List.mem_cons] at hp
        rcases hp with rfl | rfl | hp
        · exact N4 _ (.head _)
        · exact N4 _ (.tail _ (gq4.cov _ _ e4 ngD))
        · exact N4 _ (.tail _ hp)
      have rA := rGA.length
      have rD := rGD.length
      rw [List.length_map] at rA rD
      have l1 : ysA.length ≤ 4 := by rw [rA]; exact Nat.le_trans (List.length_filter_le ..) (by assumption)
      have l2 : ysD.length ≤ 4 := by rw [rD]; exact Nat.le_trans (List.length_filter_le ..) (by assumption)
      clear F3 N3 N4 o4
      k_steps
      rename Fr _ _ _ _ => F6
      rename News _ _ _ _ => N6
      have st := gq4.up F6 N6 fun p hp => .tail _ (.tail _ (.tail _ hp))
      refine q _ (ysA ++ ysD) _ _ _ (keep_of_fr up F6) (none_of_up up (N6 _ (.head _)).2.2) (N6.get (.head _)) ?_
      have := (rGA.up st).append (rGD.up st)
      rw [listed, List.map_append, List.map_map, List.map_map]
      exact this
end
end Mine
namespace Mine
mutual
theorem eqv_self : ∀ d : PyData, d.canLay0 = true → PyData.eqv d d = true
  | .none, _ => by simp [PyData.eqv]
  | .bool _, _ => by simp [PyData.eqv]
  | .int _, _ => by simp [PyData.eqv]
  | .str _, _ => by simp [PyData.eqv]
  | .list xs, h => by simp only [PyData.eqv]; exact eqvAll_self xs (by simpa [PyData.canLay0] using h)
  | .tuple xs, h => by simp only [PyData.eqv]; exact eqvAll_self xs (by simpa [PyData.canLay0] using h)
  | .dict _, h => by simp [PyData.canLay0] at h
theorem eqvAll_self : ∀ xs : List PyData, PyData.canLayAll0 xs = true → PyData.eqvAll xs xs = true
  | [], _ => by simp [PyData.eqvAll]
  | x :: xs, h => by
    have h' : x.canLay0 = true ∧ PyData.canLayAll0 xs = true := by simpa [PyData.canLayAll0] using h
    simp only [PyData.eqvAll, eqv_self x h'.1, eqvAll_self xs h'.2, Bool.and_self]
end
section
variable {prog : Program} {w : World} {A : Around} {E : Value → Shared → Prop} {s : Shared} {a b : Value} {d : PyData} {as bs : List Addr} {Q : Value → Shared → Prop}
theorem ne_same (ra : Reads s.heap a d as) (rb : Reads s.heap b d bs) (hd : SeqAt.shaped d = true) (hu : A.units + 64 < cLine) (h : Q (.bool false) s) : wpAny (model prog w) A (compareOp .NotEq a b) Q E s :=
  ne_dataH ra rb hd hd hu (by rw [eqv_self d (SeqAt.canLay_of_shaped hd)]; exact h)
theorem eq_same (ra : Reads s.heap a d as) (rb : Reads s.heap b d bs) (hd : SeqAt.shaped d = true) (hu : A.units + 64 < cLine) (h : Q (.bool true) s) : wpAny (model prog w) A (compareOp .Eq a b) Q E s :=
  eq_dataH ra rb hd hd hu (by rw [eqv_self d (SeqAt.canLay_of_shaped hd)]; exact h)
end
/-- data of strings and tuples, not too deep -/
noncomputable def fine (d : PyData) : Prop := SeqAt.shaped d = true
theorem pick_last (vs : List Value) (v : Value) : slicePick (vs ++ [v]).toArray (some (vs.toArray.size : Int)) none none = #[v] := by
  have e : sliceBounds (some ((vs.toArray.size : Nat) : Int)) none none (vs ++ [v]).toArray.size = (((vs.length : Nat) : Int), ((vs.length + 1 : Nat) : Int), 1) := by
    simp only [sliceBounds, Option.getD_none, show (1 : Int) > 0 by decide, if_true, List.size_toArray, List.length_append, List.length_singleton]
    rw [if_neg (show ¬ (((vs.length : Nat) : Int) < 0) by omega)]
    congr 1
    omega
  rw [kmk_pick_nat _ e]
  simp
theorem deep_room {n : Nat} {w : World} {A : Around} {h H : Heap} {env : Env} (S : St n w A h H) (hn : n ≤ 900) : (A.deeper env).units + 64 < cLine := by
  have := S.un
  show A.units + 3 + 64 < cLine
  have e : cLine = 9900 := by decide
  omega
section
variable {prog : Program} {w : World} {A : Around} {s : Shared} {H : Heap} {Q : Value → Shared → Prop} {E : Value → Shared → Prop} {T : TRef} {xs : List RRef} {ds : List NRow}
theorem name_at {i : Int} {ti : Tok} {d : NRow} {k : Str} (S : St 590 w A s.heap H) (t : TreeAt s.heap T xs ds) (h0 : 0 ≤ i) (hd : ds[i.toNat]? = some d) (hk : d.name = k)
    (q : ∀ h' tk' u, Keep [] s.heap h' → Q (.str k u) { s with heap := h', toks := tk' }) :
    wpAny (model prog w) A (call (.ref 243) [.ref T.t, .int i ti]) Q E s := name_c S t h0 hd (by rw [hk]; exact q)
theorem value_at {i : Int} {ti : Tok} {d : NRow} {k : Str} (S : St 590 w A s.heap H) (t : TreeAt s.heap T xs ds) (h0 : 0 ≤ i) (hd : ds[i.toNat]? = some d) (hk : d.value = k)
    (q : ∀ h' tk' u, Keep [] s.heap h' → Q (.str k u) { s with heap := h', toks := tk' }) :
    wpAny (model prog w) A (call (.ref 264) [.ref T.t, .int i ti]) Q E s := value_c S t h0 hd (by rw [hk]; exact q)
theorem uri_at {i : Int} {ti : Tok} {d : NRow} {k : Str} (S : St 590 w A s.heap H) (t : TreeAt s.heap T xs ds) (h0 : 0 ≤ i) (hd : ds[i.toNat]? = some d) (hk : d.uri = k)
    (q : ∀ h' tk' u, Keep [] s.heap h' → Q (.str k u) { s with heap := h', toks := tk' }) :
    wpAny (model prog w) A (call (.ref 250) [.ref T.t, .int i ti]) Q E s := uri_c S t h0 hd (by rw [hk]; exact q)
theorem local_at {i : Int} {ti : Tok} {d : NRow} {k : Str} (S : St 590 w A s.heap H) (t : TreeAt s.heap T xs ds) (h0 : 0 ≤ i) (hd : ds[i.toNat]? = some d) (hk : d.loc = k)
    (q : ∀ h' tk' u, Keep [] s.heap h' → Q (.str k u) { s with heap := h', toks := tk' }) :
    wpAny (model prog w) A (call (.ref 257) [.ref T.t, .int i ti]) Q E s := local_c S t h0 hd (by rw [hk]; exact q)
end
end Mine
namespace Mine
local macro_rules | `(tactic| k_inst) => `(tactic| (refine' inst_base ?F ?a ?b; (case F => k_asm); (case a => assumption); (case b => assumption)))
local macro_rules | `(tactic| k_all) => `(tactic| assumption)
local macro_rules | `(tactic| walk_at "m st") => `(tactic| (refine' St.deep ?S ?G ?F ?n; (case S => assumption); (case G => assumption); (case F => k_asm); (case n => omega)))
local macro_rules | `(tactic| walk_at "m sub") => `(tactic| (intro p hp; repeat (first | exact hp | apply List.mem_cons_of_mem)))
local macro_rules | `(tactic| walk_at "m tree") => `(tactic| (refine' TreeAt.up (Gat.up ?q ?F ?N ?s) ?t; (case q => assumption); (case F => k_asm); (case N => k_asm); (case s => walk_at "m sub"); (case t => assumption)))
local macro_rules | `(tactic| walk_at "m end") => `(tactic| (intro h' tk' u' k'; (have F' := fr_stay (by k_asm) k'); (have N' := news_stay (by k_asm) k'); k_sweep))
local macro_rules | `(tactic| walk_at "call ref") => `(tactic| (k_here; (with_reducible show wpAny _ _ (call (Value.ref 236) _ _) _ _ _); (refine' kind_at ?S ?t ?a ?b ?k ?_; (case S => walk_at "m st"); (case t => walk_at "m tree"); (case a => omega); (case b => assumption); (case k => assumption)); walk_at "m end"))
local macro_rules | `(tactic| walk_at "call ref") => `(tactic| (k_here; (with_reducible show wpAny _ _ (call (Value.ref 243) _ _) _ _ _); (refine' name_at ?S ?t ?a ?b ?k ?_; (case S => walk_at "m st"); (case t => walk_at "m tree"); (case a => omega); (case b => assumption); (case k => assumption)); walk_at "m end"))
local macro_rules | `(tactic| walk_at "call ref") => `(tactic| (k_here; (with_reducible show wpAny _ _ (call (Value.ref 250) _ _) _ _ _); (refine' uri_at ?S ?t ?a ?b ?k ?_; (case S => walk_at "m st"); (case t => walk_at "m tree"); (case a => omega); (case b => assumption); (case k => assumption)); walk_at "m end"))
local macro_rules | `(tactic| walk_at "call ref") => `(tactic| (k_here; (with_reducible show wpAny _ _ (call (Value.ref 257) _ _) _ _ _); (refine' local_at ?S ?t ?a ?b ?k ?_; (case S => walk_at "m st"); (case t => walk_at "m tree"); (case a => omega); (case b => assumption); (case k => assumption)); walk_at "m end"))
local macro_rules | `(tactic| walk_at "call ref") => `(tactic| (k_here; (with_reducible show wpAny _ _ (call (Value.ref 264) _ _) _ _ _); (refine' value_at ?S ?t ?a ?b ?k ?_; (case S => walk_at "m st"); (case t => walk_at "m tree"); (case a => omega); (case b => assumption); (case k => assumption)); walk_at "m end"))
local macro_rules | `(tactic| walk_at "call builtin:len") => `(tactic| (k_here; (with_reducible show wpAny _ _ (call (Value.builtin _) [Value.ref _]) _ _ _); (with_unfolding_all refine' len_list ?k1 ?k2 ?_; (case k1 => first | exact News.isList (by k_asm) (by k_mem) | exact Fr.lst (by k_asm) (by assumption)); (case k2 => exact Int.lt_of_le_of_lt (Int.ofNat_le.mpr (by assumption)) (by decide)))))
local macro_rules | `(tactic| walk_at "unpackItems") => `(tactic| (k_here; k_dflt (refine' unpackItemsN_ ?k1 ?k2 ?k3 ?k4 ?k5 ?_; (case k1 => k_asm); (case k2 => k_asm); (case k3 => exact News.isTup (by k_asm) (by k_mem)); (case k4 => assumption); (case k5 => exact rfl); k_whole); intro h' F' N'; (try k_sweep)))
theorem pick_last' (vs : List Value) (v : Value) : (slicePick (vs ++ [v]).toArray (some (vs.toArray.size : Int)) none none).toList = [v] := by rw [pick_last]
local macro_rules | `(tactic| walk_at "subscriptTail Name Slice ref ref") => `(tactic| (k_here; (with_reducible show wpAny _ _ (subscriptTail _ (PySem.Expr.Slice _ _ none _) (Value.ref _) (Value.ref _)) _ _ _); k_dflt (refine' kmk_slice_lit ?F ?N ?l ?p ?q ?e ?_ ?s ?t ?z; (case F => k_asm); (case N => k_asm); (case l => exact News.isList (by k_asm) (by k_mem)); (case p => kmk_part); (case q => kmk_part); (case e => exact pick_last' _ _); (case s => with_unfolding_all rfl); (case t => (with_unfolding_all intro _; rfl)); (case z => exact line_of (by assumption)); k_whole); intro D' h' F' N' l1; (try k_lt l1); (try k_sweep)))
theorem shaped_kv {a v : Str} (ha : PyData.strOk a = true) (hv : PyData.strOk v = true) : SeqAt.shaped (.tuple [.str a, .str v]) = true := by
  simp [SeqAt.shaped, PyData.canLay0, PyData.canLayAll0, PyData.depth, PyData.depthAll, ha, hv]
theorem shaped_form {a l v : Str} (ha : PyData.strOk a = true) (hl : PyData.strOk l = true) (hv : PyData.strOk v = true) : SeqAt.shaped (formD a (.str l) v [] []) = true := by
  simp [SeqAt.shaped, formD, PyData.canLay0, PyData.canLayAll0, PyData.depth, PyData.depthAll, ha, hv, hl]
theorem off_mem {g h : Heap} {L b : Addr} {o : Obj} {news : List (Addr × Obj)} (N : News g L h news) (hm : (b, o) ∈ news) : g.get? b = none ∧ b ≠ L := ⟨(N _ hm).2.2, (N _ hm).2.1⟩
theorem tup_ne_L {g h : Heap} {L b : Addr} {m : Str → Option Value} {vs : Array Value} {n : Nat} (F : Fr g L h m) (e : h.get? b = some { cls := .type "tuple", data := .seq vs n }) : b ≠ L := by
  rintro rfl
  obtain ⟨o, es, ep, ho, hd, _⟩ := F.ns
  rw [e] at ho
  injection ho with ho
  subst ho
  cases hd
mutual
theorem Rd.toG {g h G : Heap} {L : Addr} {m : Str → Option Value} {v : Value} {d : PyData} (F : Fr g L h m) (k : ∀ b o, h.get? b = some o → b ≠ L → b ∉ ([] : List Addr) → G.get? b = some o) : Rd h v d → Rd G v d
  | .str => .str
  | .tup e r => .tup (k _ _ e (tup_ne_L F e) (by simp)) (r.toG F k)
theorem RdA.toG {g h G : Heap} {L : Addr} {m : Str → Option Value} {vs : List Value} {ds : List PyData} (F : Fr g L h m) (k : ∀ b o, h.get? b = some o → b ≠ L → b ∉ ([] : List Addr) → G.get? b = some o) : RdA h vs ds → RdA G vs ds
  | .nil => .nil
  | .cons a b => .cons (a.toG F k) (b.toG F k)
end
theorem sub2 {g h : Heap} {L : Addr} {a b c d e : Addr × Obj} (N : News g L h [a, b, c, d, e]) : News g L h [d, e] := fun p hp => N p (.tail _ (.tail _ (.tail _ hp)))
section
variable {prog : Program} {w : World} {A : Around} {s : Shared} {H : Heap} {Q : Value → Shared → Prop} {E : Value → Shared → Prop} {T : TRef} {xs : List RRef} {ds : List NRow}

set_option maxHeartbeats 8000000 in
theorem law_plain_text {p : Int} {tp : Tok} {d : NRow} {y : RRef} {target value : Str} {tk1 tk2 tk3 : Tok} (htg : PyData.strOk target = true) (hv : PyData.strOk value = true) (S : St 530 w A s.heap H) (t : TreeAt s.heap T xs ds) (hs : xs.length ≤ 900) (hH : ∀ b ∈ lists T xs, H.get? b = none)
    (h0 : 0 ≤ p) (hd : ds[p.toNat]? = some d) (hy : xs[p.toNat]? = some y) (hk : d.kind = Str.ofString "root" ∨ d.kind = Str.ofString "element") (hc : d.ch.length ≤ 900)
    (q : ∀ x n h' tk' u, Keep [T.l, y.c] s.heap h' → TreeAt h' T (xs ++ [x]) (ds.set p.toNat { d with ch := d.ch ++ [.int xs.length u] } ++ [n]) → (∀ b ∈ x.r :: x.d :: x.lists, s.heap.get? b = none) → Q (.bool true) { s with heap := h', toks := tk' }) :
    wpAny (model prog w) A (call (.ref 367) [.ref T.t, .int p tp, .str (Str.ofString "text") tk1, .str (Str.ofString "") tk2, .str value tk3]) Q E s := by
  have r := t.all _ _ _ hy hd
  obtain ⟨el, hel⟩ := t.rows
  obtain ⟨ec, hec⟩ := r.ch
  have hnl := hH T.l (.head _)
  have hnc : H.get? y.c = none := hH _ (mem_lists (List.mem_of_getElem? hy) (.head _))
  refine wpAny_call ?_
  refine' enter [(T.l, listOf (xs.map fun x => Value.ref x.r).toArray el), (y.c, listOf d.ch.toArray ec)] [(Str.ofString "tree", .ref T.t), (Str.ofString "parent", .int p tp), (Str.ofString "kind", .str (Str.ofString "text") tk1), (Str.ofString "target", .str (Str.ofString "") tk2), (Str.ofString "value", .str value tk3)] S (by omega) (by intro q hq; simp at hq; rcases hq with rfl | rfl; exact ⟨hel, hnl⟩; exact ⟨hec, hnc⟩) ?ho ?hcd ?hbind ?hloc ?h ?hco ?hgen ?hk ?hcell
  case ho => k_is
  case hcd => k_is
  case hbind => exact BindsTo.of_eq rfl
  case hloc => exact locs rfl
  case hco => exact rfl
  case hgen => exact rfl
  case hk => exact rfl
  case hcell => decide
  intro g L h₁ mean mg mb up dn nL F N X Tp HG
  have g1 := up _ _ t.inst (by simp; exact ⟨ne_inst_list t.inst hel, ne_inst_list t.inst hec⟩)
  have g2 := up _ _ t.dict (by simp; exact ⟨ne_dict_list t.dict hel, ne_dict_list t.dict hec⟩)
  have hhA := S.hh
  have upk : ∀ b o, s.heap.get? b = some o → b ∉ [T.l, y.c] → g.get? b = some o := fun b o e n => up b o e (by simpa using n)
  dsimp only
  k_steps
  rename Fr _ _ _ _ => F0
  rename News _ _ _ _ => N0
  rename_i da _ _ db _ _ fa _ _
  have hz : d.ch.toArray.size ≤ 1000 := by simp; omega
  have u0 := keep0 up F0 (sub2 N0) (by intro q hq; rcases List.mem_cons.mp hq with rfl | hq; exact hel; rw [List.mem_singleton.mp hq]; exact hec)
  refine children_c (S.deep HG F0 (by omega)) (t.up u0) h0 hd ?_
  intro l1 e1 h2 ntk2 k2 nf1 hl1
  have F2 := fr_stay F0 k2
  have N2 := news_cons hl1 (off_of F0 nf1).1 (off_of F0 nf1).2 (news_stay N0 k2)
  clear F0 N0
  k_steps
  rename Fr _ _ _ _ => F3
  rename News _ _ _ _ => N3
  have u3 := keep0 up F3 (fun p hp => N3 p (by simp only [List.mem_cons, List.not_mem_nil, or_false] at hp ⊢; rcases hp with rfl | rfl <;> simp)) (by intro q hq; rcases List.mem_cons.mp hq with rfl | hq; exact hel; rw [List.mem_singleton.mp hq]; exact hec)
  have rf : Rd _ (.ref fa) (formD (Str.ofString "text") (.str (Str.ofString "")) value [] []) := Rd.tup (vs := [_, _, _, _, _]) (N3.get (by k_mem)) (.cons .str (.cons .str (.cons .str (.cons (.tup (vs := []) (N3.get (by k_mem)) .nil) (.cons (.tup (vs := []) (N3.get (by k_mem)) .nil) .nil)))))
  have nl : g.get? T.l = none ∧ T.l ≠ L := off_mem N3 (show (T.l, _) ∈ _ by k_mem)
  have nc : g.get? y.c = none ∧ y.c ≠ L := off_mem N3 (show (y.c, _) ∈ _ by k_mem)
  refine add_node_text_c (S.deep HG F3 (by omega)) (t.up u3) (by omega) hH h0 hd hy hk (by omega) rf ?_
  intro x h4 ntk4 u4 k4 t4 fr4
  have F4 := fr_back F3 k4 (by intro b hb; simp only [List.mem_cons, List.not_mem_nil, or_false] at hb; rcases hb with rfl | rfl; exact nl; exact nc)
  have rf4 := rf.keep k4 (by intro b hb; simp only [List.mem_cons, List.not_mem_nil, or_false] at hb; rcases hb with rfl | rfl; exact ⟨_, _, u3 _ _ hel⟩; exact ⟨_, _, u3 _ _ hec⟩)
  obtain ⟨G, ex, gq, N4, _, _, hG⟩ := gather F4 [] (by simp)
  have rG := rf4.toG F4 hG
  have tG : TreeAt G T (xs ++ [x]) _ := t4.hide fun b o e hb => hG b o e ((objs_snoc hb).elim (fun hb => (let ⟨o, ho⟩ := t.some hb; nL b o ho)) (fun hb z => by
    obtain ⟨oL, _, _, hL, _⟩ := F3.ns
    have := fr4 b hb
    rw [z, hL] at this
    cases this)) (by simp)
  have frs : ∀ b ∈ x.r :: x.d :: x.lists, s.heap.get? b = none := fun b hb => none_sub u3 (fr4 b hb)
  obtain ⟨d2, hd2, hch⟩ : ∃ d2 : NRow, (ds.set p.toNat { d with ch := d.ch ++ [.int xs.length u4] } ++ [⟨Str.ofString "text", Str.ofString "", Str.ofString "", Str.ofString "", value, [], [], []⟩])[p.toNat]? = some d2 ∧ d2.ch = d.ch ++ [.int xs.length u4] := ⟨_, set_app_self hd, rfl⟩
  obtain ⟨nr, hn2, hnk, hnn, hnv⟩ : ∃ nr : NRow, (ds.set p.toNat { d with ch := d.ch ++ [.int xs.length u4] } ++ [⟨Str.ofString "text", Str.ofString "", Str.ofString "", Str.ofString "", value, [], [], []⟩])[xs.length]? = some nr ∧ nr.kind = Str.ofString "text" ∧ nr.name = (Str.ofString "") ∧ nr.value = value := ⟨_, by rw [t.len]; exact set_app_last, rfl, rfl, rfl⟩
  have q' := fun h' tk' => q x ⟨Str.ofString "text", Str.ofString "", Str.ofString "", Str.ofString "", value, [], [], []⟩ h' tk' u4
  generalize ds.set p.toNat { d with ch := d.ch ++ [.int xs.length u4] } ++ [⟨Str.ofString "text", Str.ofString "", Str.ofString "", Str.ofString "", value, [], [], []⟩] = ds2 at tG hd2 hn2 q'
  clear F3 N3 k4 t4 fr4 rf rf4 hG
  k_steps
  rename Fr _ _ _ _ => F5
  rename News _ _ _ _ => N5
  refine children_c (S.deep HG F5 (by omega)) (tG.up (gq.up F5 N5 fun p hp => hp)) h0 hd2 ?_
  intro l2 e2 h6 ntk6 k6 nf6 hl6
  rw [hch] at hl6
  have hz6 : (d.ch ++ [Value.int (xs.length : Int) u4]).toArray.size ≤ 1000 := by simp; omega
  have F6 := fr_stay F5 k6
  have N6 := news_cons hl6 (off_of F5 nf6).1 (off_of F5 nf6).2 (news_stay N5 k6)
  clear F5 N5
  k_steps
  rename Fr _ _ _ _ => F7
  rename News _ _ _ _ => N7
  refine ne_same (d := .list [.int xs.length]) (reads_list_at (N7.get (.tail _ (.head _))) rfl rfl (ReadsAll.cons (Reads.int _ _) .nil)) (reads_list_at (N7.get (.head _)) rfl rfl (ReadsAll.cons (Reads.int _ _) .nil)) (by simp [SeqAt.shaped, PyData.canLay0, PyData.canLayAll0, PyData.depth, PyData.depthAll]) (deep_room S (by decide)) ?_
  k_steps
  rename Fr _ _ _ _ => F8
  rename News _ _ _ _ => N8
  refine ne_same (d := .tuple [.str (Str.ofString "text"), .str value]) (Rd.tup (vs := [_, _]) (N8.get (.tail _ (.head _))) (.cons .str (.cons .str .nil))).reads (Rd.tup (vs := [_, _]) (N8.get (.head _)) (.cons .str (.cons .str .nil))).reads (shaped_kv (by decide +kernel) hv) (deep_room S (by decide)) ?_
  k_steps
  skip
  rename Fr _ _ _ _ => F9
  rename News _ _ _ _ => N9
  refine one_text_c (S.deep HG F9 (by omega)) (tG.up (gq.up F9 N9 (by walk_at "m sub"))) (Int.natCast_nonneg _) (by simpa using hn2) hnk ?_
  intro v h10 ntk10 k10 r10
  have F10 := fr_stay F9 k10
  have N10 := news_stay N9 k10
  rw [hnv] at r10
  clear hnn
  have G10 := gq.up F10 N10 (by walk_at "m sub")
  clear F9 N9
  k_steps
  rename Fr _ _ _ _ => F11
  rename News _ _ _ _ => N11
  refine eq_same r10.reads (rG.up G10).reads (shaped_form (by decide +kernel) (by decide +kernel) hv) (deep_room S (by decide)) ?_
  k_steps
  rename Fr _ _ _ _ => F12
  rename News _ _ _ _ => N12
  exact q' _ _ (keep_of_fr upk F12) (tG.up (gq.up F12 N12 (by walk_at "m sub"))) frs

set_option maxHeartbeats 8000000 in
theorem law_plain_comment {p : Int} {tp : Tok} {d : NRow} {y : RRef} {target value : Str} {tk1 tk2 tk3 : Tok} (htg : PyData.strOk target = true) (hv : PyData.strOk value = true) (S : St 530 w A s.heap H) (t : TreeAt s.heap T xs ds) (hs : xs.length ≤ 900) (hH : ∀ b ∈ lists T xs, H.get? b = none)
    (h0 : 0 ≤ p) (hd : ds[p.toNat]? = some d) (hy : xs[p.toNat]? = some y) (hk : d.kind = Str.ofString "root" ∨ d.kind = Str.ofString "element") (hc : d.ch.length ≤ 900)
    (q : ∀ x n h' tk' u, Keep [T.l, y.c] s.heap h' → TreeAt h' T (xs ++ [x]) (ds.set p.toNat { d with ch := d.ch ++ [.int xs.length u] } ++ [n]) → (∀ b ∈ x.r :: x.d :: x.lists, s.heap.get? b = none) → Q (.bool true) { s with heap := h', toks := tk' }) :
    wpAny (model prog w) A (call (.ref 367) [.ref T.t, .int p tp, .str (Str.ofString "comment") tk1, .str (Str.ofString "") tk2, .str value tk3]) Q E s := by
  have r := t.all _ _ _ hy hd
  obtain ⟨el, hel⟩ := t.rows
  obtain ⟨ec, hec⟩ := r.ch
  have hnl := hH T.l (.head _)
  have hnc : H.get? y.c = none := hH _ (mem_lists (List.mem_of_getElem? hy) (.head _))
  refine wpAny_call ?_
  refine' enter [(T.l, listOf (xs.map fun x => Value.ref x.r).toArray el), (y.c, listOf d.ch.toArray ec)] [(Str.ofString "tree", .ref T.t), (Str.ofString "parent", .int p tp), (Str.ofString "kind", .str (Str.ofString "comment") tk1), (Str.ofString "target", .str (Str.ofString "") tk2), (Str.ofString "value", .str value tk3)] S (by omega) (by intro q hq; simp at hq; rcases hq with rfl | rfl; exact ⟨hel, hnl⟩; exact ⟨hec, hnc⟩) ?ho ?hcd ?hbind ?hloc ?h ?hco ?hgen ?hk ?hcell
  case ho => k_is
  case hcd => k_is
  case hbind => exact BindsTo.of_eq rfl
  case hloc => exact locs rfl
  case hco => exact rfl
  case hgen => exact rfl
  case hk => exact rfl
  case hcell => decide
  intro g L h₁ mean mg mb up dn nL F N X Tp HG
  have g1 := up _ _ t.inst (by simp; exact ⟨ne_inst_list t.inst hel, ne_inst_list t.inst hec⟩)
  have g2 := up _ _ t.dict (by simp; exact ⟨ne_dict_list t.dict hel, ne_dict_list t.dict hec⟩)
  have hhA := S.hh
  have upk : ∀ b o, s.heap.get? b = some o → b ∉ [T.l, y.c] → g.get? b = some o := fun b o e n => up b o e (by simpa using n)
  dsimp only
  k_steps
  rename Fr _ _ _ _ => F0
  rename News _ _ _ _ => N0
  rename_i da _ _ db _ _ fa _ _
  have hz : d.ch.toArray.size ≤ 1000 := by simp; omega
  have u0 := keep0 up F0 (sub2 N0) (by intro q hq; rcases List.mem_cons.mp hq with rfl | hq; exact hel; rw [List.mem_singleton.mp hq]; exact hec)
  refine children_c (S.deep HG F0 (by omega)) (t.up u0) h0 hd ?_
  intro l1 e1 h2 ntk2 k2 nf1 hl1
  have F2 := fr_stay F0 k2
  have N2 := news_cons hl1 (off_of F0 nf1).1 (off_of F0 nf1).2 (news_stay N0 k2)
  clear F0 N0
  k_steps
  rename Fr _ _ _ _ => F3
  rename News _ _ _ _ => N3
  have u3 := keep0 up F3 (fun p hp => N3 p (by simp only [List.mem_cons, List.not_mem_nil, or_false] at hp ⊢; rcases hp with rfl | rfl <;> simp)) (by intro q hq; rcases List.mem_cons.mp hq with rfl | hq; exact hel; rw [List.mem_singleton.mp hq]; exact hec)
  have rf : Rd _ (.ref fa) (formD (Str.ofString "comment") (.str (Str.ofString "")) value [] []) := Rd.tup (vs := [_, _, _, _, _]) (N3.get (by k_mem)) (.cons .str (.cons .str (.cons .str (.cons (.tup (vs := []) (N3.get (by k_mem)) .nil) (.cons (.tup (vs := []) (N3.get (by k_mem)) .nil) .nil)))))
  have nl : g.get? T.l = none ∧ T.l ≠ L := off_mem N3 (show (T.l, _) ∈ _ by k_mem)
  have nc : g.get? y.c = none ∧ y.c ≠ L := off_mem N3 (show (y.c, _) ∈ _ by k_mem)
  refine add_node_comment_c (S.deep HG F3 (by omega)) (t.up u3) (by omega) hH h0 hd hy hk (by omega) rf ?_
  intro x h4 ntk4 u4 k4 t4 fr4
  have F4 := fr_back F3 k4 (by intro b hb; simp only [List.mem_cons, List.not_mem_nil, or_false] at hb; rcases hb with rfl | rfl; exact nl; exact nc)
  have rf4 := rf.keep k4 (by intro b hb; simp only [List.mem_cons, List.not_mem_nil, or_false] at hb; rcases hb with rfl | rfl; exact ⟨_, _, u3 _ _ hel⟩; exact ⟨_, _, u3 _ _ hec⟩)
  obtain ⟨G, ex, gq, N4, _, _, hG⟩ := gather F4 [] (by simp)
  have rG := rf4.toG F4 hG
  have tG : TreeAt G T (xs ++ [x]) _ := t4.hide fun b o e hb => hG b o e ((objs_snoc hb).elim (fun hb => (let ⟨o, ho⟩ := t.some hb; nL b o ho)) (fun hb z => by
    obtain ⟨oL, _, _, hL, _⟩ := F3.ns
    have := fr4 b hb
    rw [z, hL] at this
    cases this)) (by simp)
  have frs : ∀ b ∈ x.r :: x.d :: x.lists, s.heap.get? b = none := fun b hb => none_sub u3 (fr4 b hb)
  obtain ⟨d2, hd2, hch⟩ : ∃ d2 : NRow, (ds.set p.toNat { d with ch := d.ch ++ [.int xs.length u4] } ++ [⟨Str.ofString "comment", Str.ofString "", Str.ofString "", Str.ofString "", value, [], [], []⟩])[p.toNat]? = some d2 ∧ d2.ch = d.ch ++ [.int xs.length u4] := ⟨_, set_app_self hd, rfl⟩
  obtain ⟨nr, hn2, hnk, hnn, hnv⟩ : ∃ nr : NRow, (ds.set p.toNat { d with ch := d.ch ++ [.int xs.length u4] } ++ [⟨Str.ofString "comment", Str.ofString "", Str.ofString "", Str.ofString "", value, [], [], []⟩])[xs.length]? = some nr ∧ nr.kind = Str.ofString "comment" ∧ nr.name = (Str.ofString "") ∧ nr.value = value := ⟨_, by rw [t.len]; exact set_app_last, rfl, rfl, rfl⟩
  have q' := fun h' tk' => q x ⟨Str.ofString "comment", Str.ofString "", Str.ofString "", Str.ofString "", value, [], [], []⟩ h' tk' u4
  generalize ds.set p.toNat { d with ch := d.ch ++ [.int xs.length u4] } ++ [⟨Str.ofString "comment", Str.ofString "", Str.ofString "", Str.ofString "", value, [], [], []⟩] = ds2 at tG hd2 hn2 q'
  clear F3 N3 k4 t4 fr4 rf rf4 hG
  k_steps
  rename Fr _ _ _ _ => F5
  rename News _ _ _ _ => N5
  refine children_c (S.deep HG F5 (by omega)) (tG.up (gq.up F5 N5 fun p hp => hp)) h0 hd2 ?_
  intro l2 e2 h6 ntk6 k6 nf6 hl6
  rw [hch] at hl6
  have hz6 : (d.ch ++ [Value.int (xs.length : Int) u4]).toArray.size ≤ 1000 := by simp; omega
  have F6 := fr_stay F5 k6
  have N6 := news_cons hl6 (off_of F5 nf6).1 (off_of F5 nf6).2 (news_stay N5 k6)
  clear F5 N5
  k_steps
  rename Fr _ _ _ _ => F7
  rename News _ _ _ _ => N7
  refine ne_same (d := .list [.int xs.length]) (reads_list_at (N7.get (.tail _ (.head _))) rfl rfl (ReadsAll.cons (Reads.int _ _) .nil)) (reads_list_at (N7.get (.head _)) rfl rfl (ReadsAll.cons (Reads.int _ _) .nil)) (by simp [SeqAt.shaped, PyData.canLay0, PyData.canLayAll0, PyData.depth, PyData.depthAll]) (deep_room S (by decide)) ?_
  k_steps
  rename Fr _ _ _ _ => F8
  rename News _ _ _ _ => N8
  refine ne_same (d := .tuple [.str (Str.ofString "comment"), .str value]) (Rd.tup (vs := [_, _]) (N8.get (.tail _ (.head _))) (.cons .str (.cons .str .nil))).reads (Rd.tup (vs := [_, _]) (N8.get (.head _)) (.cons .str (.cons .str .nil))).reads (shaped_kv (by decide +kernel) hv) (deep_room S (by decide)) ?_
  k_steps
  skip
  rename Fr _ _ _ _ => F9
  rename News _ _ _ _ => N9
  refine one_comment_c (S.deep HG F9 (by omega)) (tG.up (gq.up F9 N9 (by walk_at "m sub"))) (Int.natCast_nonneg _) (by simpa using hn2) hnk ?_
  intro v h10 ntk10 k10 r10
  have F10 := fr_stay F9 k10
  have N10 := news_stay N9 k10
  rw [hnv] at r10
  clear hnn
  have G10 := gq.up F10 N10 (by walk_at "m sub")
  clear F9 N9
  k_steps
  rename Fr _ _ _ _ => F11
  rename News _ _ _ _ => N11
  refine eq_same r10.reads (rG.up G10).reads (shaped_form (by decide +kernel) (by decide +kernel) hv) (deep_room S (by decide)) ?_
  k_steps
  rename Fr _ _ _ _ => F12
  rename News _ _ _ _ => N12
  exact q' _ _ (keep_of_fr upk F12) (tG.up (gq.up F12 N12 (by walk_at "m sub"))) frs

set_option maxHeartbeats 8000000 in
theorem law_plain_instruction {p : Int} {tp : Tok} {d : NRow} {y : RRef} {target value : Str} {tk1 tk2 tk3 : Tok} (htg : PyData.strOk target = true) (hv : PyData.strOk value = true) (S : St 530 w A s.heap H) (t : TreeAt s.heap T xs ds) (hs : xs.length ≤ 900) (hH : ∀ b ∈ lists T xs, H.get? b = none)
    (h0 : 0 ≤ p) (hd : ds[p.toNat]? = some d) (hy : xs[p.toNat]? = some y) (hk : d.kind = Str.ofString "root" ∨ d.kind = Str.ofString "element") (hc : d.ch.length ≤ 900)
    (q : ∀ x n h' tk' u, Keep [T.l, y.c] s.heap h' → TreeAt h' T (xs ++ [x]) (ds.set p.toNat { d with ch := d.ch ++ [.int xs.length u] } ++ [n]) → (∀ b ∈ x.r :: x.d :: x.lists, s.heap.get? b = none) → Q (.bool true) { s with heap := h', toks := tk' }) :
    wpAny (model prog w) A (call (.ref 367) [.ref T.t, .int p tp, .str (Str.ofString "instruction") tk1, .str target tk2, .str value tk3]) Q E s := by
  have r := t.all _ _ _ hy hd
  obtain ⟨el, hel⟩ := t.rows
  obtain ⟨ec, hec⟩ := r.ch
  have hnl := hH T.l (.head _)
  have hnc : H.get? y.c = none := hH _ (mem_lists (List.mem_of_getElem? hy) (.head _))
  refine wpAny_call ?_
  refine' enter [(T.l, listOf (xs.map fun x => Value.ref x.r).toArray el), (y.c, listOf d.ch.toArray ec)] [(Str.ofString "tree", .ref T.t), (Str.ofString "parent", .int p tp), (Str.ofString "kind", .str (Str.ofString "instruction") tk1), (Str.ofString "target", .str target tk2), (Str.ofString "value", .str value tk3)] S (by omega) (by intro q hq; simp at hq; rcases hq with rfl | rfl; exact ⟨hel, hnl⟩; exact ⟨hec, hnc⟩) ?ho ?hcd ?hbind ?hloc ?h ?hco ?hgen ?hk ?hcell
  case ho => k_is
  case hcd => k_is
  case hbind => exact BindsTo.of_eq rfl
  case hloc => exact locs rfl
  case hco => exact rfl
  case hgen => exact rfl
  case hk => exact rfl
  case hcell => decide
  intro g L h₁ mean mg mb up dn nL F N X Tp HG
  have g1 := up _ _ t.inst (by simp; exact ⟨ne_inst_list t.inst hel, ne_inst_list t.inst hec⟩)
  have g2 := up _ _ t.dict (by simp; exact ⟨ne_dict_list t.dict hel, ne_dict_list t.dict hec⟩)
  have hhA := S.hh
  have upk : ∀ b o, s.heap.get? b = some o → b ∉ [T.l, y.c] → g.get? b = some o := fun b o e n => up b o e (by simpa using n)
  dsimp only
  k_steps
  rename Fr _ _ _ _ => F0
  rename News _ _ _ _ => N0
  rename_i da _ _ db _ _ fa _ _
  have hz : d.ch.toArray.size ≤ 1000 := by simp; omega
  have u0 := keep0 up F0 (sub2 N0) (by intro q hq; rcases List.mem_cons.mp hq with rfl | hq; exact hel; rw [List.mem_singleton.mp hq]; exact hec)
  refine children_c (S.deep HG F0 (by omega)) (t.up u0) h0 hd ?_
  intro l1 e1 h2 ntk2 k2 nf1 hl1
  have F2 := fr_stay F0 k2
  have N2 := news_cons hl1 (off_of F0 nf1).1 (off_of F0 nf1).2 (news_stay N0 k2)
  clear F0 N0
  k_steps
  rename Fr _ _ _ _ => F3
  rename News _ _ _ _ => N3
  have u3 := keep0 up F3 (fun p hp => N3 p (by simp only [List.mem_cons, List.not_mem_nil, or_false] at hp ⊢; rcases hp with rfl | rfl <;> simp)) (by intro q hq; rcases List.mem_cons.mp hq with rfl | hq; exact hel; rw [List.mem_singleton.mp hq]; exact hec)
  have rf : Rd _ (.ref fa) (formD (Str.ofString "instruction") (.str target) value [] []) := Rd.tup (vs := [_, _, _, _, _]) (N3.get (by k_mem)) (.cons .str (.cons .str (.cons .str (.cons (.tup (vs := []) (N3.get (by k_mem)) .nil) (.cons (.tup (vs := []) (N3.get (by k_mem)) .nil) .nil)))))
  have nl : g.get? T.l = none ∧ T.l ≠ L := off_mem N3 (show (T.l, _) ∈ _ by k_mem)
  have nc : g.get? y.c = none ∧ y.c ≠ L := off_mem N3 (show (y.c, _) ∈ _ by k_mem)
  refine add_node_instruction_c (S.deep HG F3 (by omega)) (t.up u3) (by omega) hH h0 hd hy hk (by omega) rf ?_
  intro x h4 ntk4 u4 k4 t4 fr4
  have F4 := fr_back F3 k4 (by intro b hb; simp only [List.mem_cons, List.not_mem_nil, or_false] at hb; rcases hb with rfl | rfl; exact nl; exact nc)
  have rf4 := rf.keep k4 (by intro b hb; simp only [List.mem_cons, List.not_mem_nil, or_false] at hb; rcases hb with rfl | rfl; exact ⟨_, _, u3 _ _ hel⟩; exact ⟨_, _, u3 _ _ hec⟩)
  obtain ⟨G, ex, gq, N4, _, _, hG⟩ := gather F4 [] (by simp)
  have rG := rf4.toG F4 hG
  have tG : TreeAt G T (xs ++ [x]) _ := t4.hide fun b o e hb => hG b o e ((objs_snoc hb).elim (fun hb => (let ⟨o, ho⟩ := t.some hb; nL b o ho)) (fun hb z => by
    obtain ⟨oL, _, _, hL, _⟩ := F3.ns
    have := fr4 b hb
    rw [z, hL] at this
    cases this)) (by simp)
  have frs : ∀ b ∈ x.r :: x.d :: x.lists, s.heap.get? b = none := fun b hb => none_sub u3 (fr4 b hb)
  obtain ⟨d2, hd2, hch⟩ : ∃ d2 : NRow, (ds.set p.toNat { d with ch := d.ch ++ [.int xs.length u4] } ++ [⟨Str.ofString "instruction", target, Str.ofString "", target, value, [], [], []⟩])[p.toNat]? = some d2 ∧ d2.ch = d.ch ++ [.int xs.length u4] := ⟨_, set_app_self hd, rfl⟩
  obtain ⟨nr, hn2, hnk, hnn, hnv⟩ : ∃ nr : NRow, (ds.set p.toNat { d with ch := d.ch ++ [.int xs.length u4] } ++ [⟨Str.ofString "instruction", target, Str.ofString "", target, value, [], [], []⟩])[xs.length]? = some nr ∧ nr.kind = Str.ofString "instruction" ∧ nr.name = target ∧ nr.value = value := ⟨_, by rw [t.len]; exact set_app_last, rfl, rfl, rfl⟩
  have q' := fun h' tk' => q x ⟨Str.ofString "instruction", target, Str.ofString "", target, value, [], [], []⟩ h' tk' u4
  generalize ds.set p.toNat { d with ch := d.ch ++ [.int xs.length u4] } ++ [⟨Str.ofString "instruction", target, Str.ofString "", target, value, [], [], []⟩] = ds2 at tG hd2 hn2 q'
  clear F3 N3 k4 t4 fr4 rf rf4 hG
  k_steps
  rename Fr _ _ _ _ => F5
  rename News _ _ _ _ => N5
  refine children_c (S.deep HG F5 (by omega)) (tG.up (gq.up F5 N5 fun p hp => hp)) h0 hd2 ?_
  intro l2 e2 h6 ntk6 k6 nf6 hl6
  rw [hch] at hl6
  have hz6 : (d.ch ++ [Value.int (xs.length : Int) u4]).toArray.size ≤ 1000 := by simp; omega
  have F6 := fr_stay F5 k6
  have N6 := news_cons hl6 (off_of F5 nf6).1 (off_of F5 nf6).2 (news_stay N5 k6)
  clear F5 N5
  k_steps
  rename Fr _ _ _ _ => F7
  rename News _ _ _ _ => N7
  refine ne_same (d := .list [.int xs.length]) (reads_list_at (N7.get (.tail _ (.head _))) rfl rfl (ReadsAll.cons (Reads.int _ _) .nil)) (reads_list_at (N7.get (.head _)) rfl rfl (ReadsAll.cons (Reads.int _ _) .nil)) (by simp [SeqAt.shaped, PyData.canLay0, PyData.canLayAll0, PyData.depth, PyData.depthAll]) (deep_room S (by decide)) ?_
  k_steps
  rename Fr _ _ _ _ => F8
  rename News _ _ _ _ => N8
  refine ne_same (d := .tuple [.str (Str.ofString "instruction"), .str value]) (Rd.tup (vs := [_, _]) (N8.get (.tail _ (.head _))) (.cons .str (.cons .str .nil))).reads (Rd.tup (vs := [_, _]) (N8.get (.head _)) (.cons .str (.cons .str .nil))).reads (shaped_kv (by decide +kernel) hv) (deep_room S (by decide)) ?_
  k_steps
  rotate_left; (exfalso; have hf : (target == target) = false := (by assumption); simp at hf)
  rename Fr _ _ _ _ => F9
  rename News _ _ _ _ => N9
  refine one_instruction_c (S.deep HG F9 (by omega)) (tG.up (gq.up F9 N9 (by walk_at "m sub"))) (Int.natCast_nonneg _) (by simpa using hn2) hnk ?_
  intro v h10 ntk10 k10 r10
  have F10 := fr_stay F9 k10
  have N10 := news_stay N9 k10
  rw [hnv] at r10
  rw [hnn] at r10
  have G10 := gq.up F10 N10 (by walk_at "m sub")
  clear F9 N9
  k_steps
  rename Fr _ _ _ _ => F11
  rename News _ _ _ _ => N11
  refine eq_same r10.reads (rG.up G10).reads (shaped_form (by decide +kernel) htg hv) (deep_room S (by decide)) ?_
  k_steps
  rename Fr _ _ _ _ => F12
  rename News _ _ _ _ => N12
  exact q' _ _ (keep_of_fr upk F12) (tG.up (gq.up F12 N12 (by walk_at "m sub"))) frs
end
end Mine
namespace Mine
/-- a call of a function with one cell name -/
theorem enterC {n : Nat} {prog : Program} {w : World} {A : Around} {s : Shared} {R : Result → Shared → Prop} {name : Str} {params : Arguments} {body : List Stmt} {scope : Scope} {pm cdv doc oc : Value} {od : Option Addr} {osl : Array (Option Value)} {f : Addr} {args : List Value}
    {H : Heap} (hid : List (Addr × Obj)) (binds : List (Str × Value)) (cn : Str) (S : St n w A s.heap H) (hn : n ≤ 900) (hh : ∀ q ∈ hid, s.heap.get? q.1 = some q.2 ∧ H.get? q.1 = none)
    (ho : (hd.heap_39 w.params).lookup f = some ⟨oc, od, .func (Calls.docDef name params body scope pm cdv doc), osl⟩) (hcd : codeIn (hd.heap_39 w.params) cdv name = true)
    (hbind : bindArgs (Calls.docDef name params body scope pm cdv doc) ⟨args, []⟩ = pure binds) (hloc : ∀ y ∈ binds, scope.names.lookup y.1 = some .local)
    (hcs : ∀ k, cellsFrom k scope.names [] = [(cn, k)])
    (h : ∀ g L h₁ tk₁ oC mean mg mb, (∀ b o, s.heap.get? b = some o → b ∉ hid.map (·.1) → g.get? b = some o) → (∀ b o, g.get? b = some o → s.heap.get? b = some o) → (∀ b o, s.heap.get? b = some o → b ≠ L) → oC.data = .cell none →
      Fr g L h₁ (fun y => binds.reverse.lookup y) → News g L h₁ ((L + 1, oC) :: hid) → (∀ q ∈ hid, q.1 < L) → (hd.heap_39 w.params).In g → Top topProg LS mean mg mb g → H.StaysIn g →
      wpAny (model prog w) (A.deeper (envOfC name scope L f cdv)) (execs body (envOfC name scope L f cdv))
        (fun fl s' => R (.ok (.ret (match fl with | .ret v => v | _ => .none))) s')
        (fun e s' => wpAny (model prog w) (A.deeper (envOfC name scope L f cdv)) (leaving (envOfC name scope L f cdv) e) (fun _ s'' => R (.error e) s'') (fun e' s'' => R (.error e') s'') s')
        { s with heap := h₁, toks := tk₁ })
    (hco : scope.isCoroutine = false) (hgen : scope.isGenerator = false) (hk : scope.kind = .function)
    (hb : ∀ k, bindL (envOfC name scope k f cdv).kindOf binds (fun _ => none) = fun y => binds.reverse.lookup y) (hb2 : ∀ k, bindC (envOfC name scope k f cdv).kindOf binds (fun _ => none) = fun _ => none) :
    codeAny (model prog w) A (.call (.ref f) ⟨args, []⟩) R s := by
  obtain ⟨mean, mg, mb, TH⟩ := S.TH
  have XS : (hd.heap_39 w.params).In s.heap := S.XH.keeps S.W
  have st : H.StaysIn (hideAll s.heap (hid.map (·.1))) := fun b o e => hideAll_get _ (S.W b o e) fun q => by
    obtain ⟨x, hx, rfl⟩ := List.mem_map.mp q
    rw [(hh x hx).2] at e; cases e
  have KG := S.XH.keeps st
  have TG := TH.keeps st
  refine call_cells (S.room hn) (XS _ _ ho) rfl (TH.nolimit.keeps S.W) (codeRec_of XS hcd) hbind (fun x hx => .inl (hloc x hx)) (fun h₁ tk F X => ?_) hco hgen hk
  rw [hb] at F
  rw [hb2, hcs] at X
  obtain ⟨oC, hoC, hdC⟩ := X.cell cn (s.heap.objs.size + 1) (by simp)
  have hLt := F.ns.lt
  refine h (hideAll s.heap (hid.map (·.1))) s.heap.objs.size h₁ tk oC mean mg mb (fun b o e n => hideAll_get _ e n) (fun b o e => of_hideAll _ e) (fun b o e => Nat.ne_of_lt (Heap.lt_size e)) hdC
    ⟨F.ns, fun b o e => F.keep b o (of_hideAll _ e), Nat.le_of_eq (hideAll_size _ _)⟩ ?_ (fun q hq => Heap.lt_size (hh q hq).1) KG TG st
  intro q hq
  rcases List.mem_cons.mp hq with rfl | hq
  · exact ⟨hoC, Nat.ne_of_gt (Nat.lt_succ_self _), Heap.get?_none_of_le (Nat.le_trans (Nat.le_of_eq (hideAll_size _ _)) (Nat.le_succ _))⟩
  · exact ⟨F.keep _ _ (hh q hq).1, Nat.ne_of_lt (Heap.lt_size (hh q hq).1), hideAll_none _ (List.mem_map_of_mem hq)⟩
end Mine
namespace Mine
/-- a call of a lambda without free names -/
theorem enterL {n : Nat} {prog : Program} {w : World} {A : Around} {s : Shared} {R : Result → Shared → Prop} {name qual : Str} {params : Arguments} {body : PySem.Expr} {scope : Scope} {pm ctv : Value} {c' f : Addr} {args : Args} {H : Heap}
    (binds : List (Str × Value)) (S : St n w A s.heap H) (hn : n ≤ 900) (ho : s.heap.get? f = some (kla_obj name qual params body scope [] pm c' ctv)) (hcd : s.heap.CodeRec (.ref c') qual)
    (hbind : bindArgs (kla_fn name qual params body scope [] pm (.ref c') ctv) args = pure binds) (hloc : ∀ y ∈ binds, scope.names.lookup y.1 = some .local)
    (h : ∀ g L h₁ mean mg mb, (∀ b o, s.heap.get? b = some o → g.get? b = some o) → (∀ b o, g.get? b = some o → s.heap.get? b = some o) → (∀ b o, s.heap.get? b = some o → b ≠ L) →
      Fr g L h₁ (fun y => binds.reverse.lookup y) → News g L h₁ [] → (hd.heap_39 w.params).In g → Top topProg LS mean mg mb g → H.StaysIn g →
      wpAny (model prog w) (A.deeper (envX qual scope L f (.ref c') [])) (eval body (envX qual scope L f (.ref c') []))
        (fun v s' => R (.ok (.ret v)) s')
        (fun e s' => wpAny (model prog w) (A.deeper (envX qual scope L f (.ref c') [])) (leaving (envX qual scope L f (.ref c') []) e) (fun _ s'' => R (.error e) s'') (fun e' s'' => R (.error e') s'') s')
        { s with heap := h₁, toks := s.toks + binds.length })
    (hco : scope.isCoroutine = false) (hgen : scope.isGenerator = false) (hk : scope.kind = .function) (hcell : ∀ x ∈ scope.names, x.2 ≠ .cell) :
    codeAny (model prog w) A (.call (.ref f) args) R s := by
  obtain ⟨mean, mg, mb, TH⟩ := S.TH
  have XS : (hd.heap_39 w.params).In s.heap := S.XH.keeps S.W
  have TS := TH.keeps S.W
  refine kla_callFunE (S.room hn) ho rfl hco hgen rfl hcd ?_
  rw [hbind]
  refine wpAny_pure (wpAny_newFunctionEnv hcell hloc (fun h₁ hns hsb => ⟨TS.nolimit.fresh _ hsb, ?_⟩) hk)
  show codeAny _ _ (.expr body (envX qual scope s.heap.objs.size f (.ref c') [])) _ _
  have hk₁ : ∀ b o, s.heap.get? b = some o → h₁.get? b = some o := fun b o e => hsb.extBut b o (Nat.ne_of_lt (Heap.lt_size e)) (Heap.get?_push_of_some _ e)
  exact kla_codeExpr (h s.heap s.heap.objs.size h₁ mean mg mb (fun _ _ e => e) (fun _ _ e => e) (fun b o e => Nat.ne_of_lt (Heap.lt_size e)) ⟨hns, hk₁, Nat.le_refl _⟩ (fun p hp => nomatch hp) XS TS S.W)
end Mine
namespace Mine
theorem gn_step {g h : Heap} {L : Addr} {m : Str → Option Value} {T : TRef} {xs : List RRef} {x : RRef} (F : Fr g L h m) (gn : ∀ b ∈ objs T xs, g.get? b = none) (fr : ∀ b ∈ x.r :: x.d :: x.lists, h.get? b = none) : ∀ b ∈ objs T (xs ++ [x]), g.get? b = none := fun b hb => by
  rcases objs_snoc hb with hb | hb
  · exact gn b hb
  · cases q : g.get? b with
    | none => rfl
    | some o => have := fr b hb; rw [F.keep _ _ q] at this; cases this
theorem H_none {H g : Heap} (HG : H.StaysIn g) {b : Addr} (e : g.get? b = none) : H.get? b = none := by
  cases q : H.get? b with
  | none => rfl
  | some o => rw [HG _ _ q] at e; cases e
/-- after a call that changed the walk's own tree -/
theorem gather_tree {g h h' G : Heap} {L : Addr} {m : Str → Option Value} {ex own : List (Addr × Obj)} {mods : List Addr} {T : TRef} {xs : List RRef} {x : RRef} {ds ds' : List NRow}
    (F : Fr g L h m) (N : News g L h (own ++ ex)) (hoff : OwnOff own (ex.map (·.1))) (q : Gat g L ex G) (t : TreeAt G T xs ds) (gn : ∀ b ∈ objs T xs, g.get? b = none) (k : Keep mods h h')
    (hm : ∀ b ∈ mods, b ∈ objs T xs) (t' : TreeAt h' T (xs ++ [x]) ds') (fr : ∀ b ∈ x.r :: x.d :: x.lists, h.get? b = none) :
    ∃ G' ex', Gat g L ex' G' ∧ TreeAt G' T (xs ++ [x]) ds' ∧ Fr g L h' m ∧ News g L h' (own ++ ex') ∧ OwnOff own (ex'.map (·.1)) ∧ Keep mods G G' ∧ ∀ b ∈ objs T (xs ++ [x]), g.get? b = none := by
  obtain ⟨G', ex', q', t2, F', N', o', k'⟩ := gather_next F N (ex := ex) (own := own) (fun p hp => List.mem_append_right _ hp) (fun p hp => List.mem_append_left _ hp) hoff q t k (fun b hb => ⟨hm b hb, gn b (hm b hb)⟩) t' fr
  exact ⟨G', ex', q', t2, F', fun p hp => N' p ((List.mem_append.mp hp).elim (fun h => List.mem_append_right _ h) fun h => List.mem_append_left _ h), o', k', gn_step F gn fr⟩
/-- after a call that left all in place: what it made is taken in -/
theorem gather_same {g h h' G : Heap} {L : Addr} {m m' : Str → Option Value} {ex own : List (Addr × Obj)}
    (F : Fr g L h m) (N : News g L h (own ++ ex)) (hoff : OwnOff own (ex.map (·.1))) (q : Gat g L ex G) (k : Keep [] h h') (F' : Fr g L h' m') :
    ∃ G' ex', Gat g L ex' G' ∧ News g L h' (own ++ ex') ∧ OwnOff own (ex'.map (·.1)) ∧ G.StaysIn G' ∧ ∀ b o, h'.get? b = some o → b ≠ L → b ∉ own.map (·.1) → G'.get? b = some o := by
  obtain ⟨G', ex', q', N', no, Gh', hG'⟩ := gather F' (own.map (·.1)) (by intro b hb; obtain ⟨p, hp, rfl⟩ := List.mem_map.mp hb; exact (N p (List.mem_append_left _ hp)).2.2)
  refine ⟨G', ex', q', fun p hp => ?_, ?_, fun b o e => ?_, hG'⟩
  · rcases List.mem_append.mp hp with hp | hp
    · have n := N p (List.mem_append_left _ hp)
      exact ⟨k _ _ n.1 (by simp), n.2⟩
    · exact N' p hp
  · intro p hp b hb z
    obtain ⟨r, hr, rfl⟩ := List.mem_map.mp hb
    exact no r hr (List.mem_map.mpr ⟨p, hp, z⟩)
  · refine hG' b o (k b o (q.up F N (fun p hp => List.mem_append_right _ hp) b o e) (by simp)) (fun z => (by rw [z, q.offL] at e; cases e)) fun z => ?_
    obtain ⟨p, hp, rfl⟩ := List.mem_map.mp z
    exact hoff p hp _ (List.mem_map_of_mem (f := (·.1)) (q.cov _ _ e (N p (List.mem_append_left _ hp)).2.2)) rfl
theorem bind2 (a b : Str) (v w : Value) : (fun y => if y = b then some w else (if y = a then some v else none)) = fun y => ([(a, v), (b, w)] : List (Str × Value)).reverse.lookup y := by
  funext y
  simp only [List.reverse_cons, List.reverse_nil, List.nil_append, List.cons_append, List.lookup_cons, List.lookup_nil]
  by_cases h1 : y = b
  · simp [h1]
  · have h3 : (y == b) = false := beq_eq_false_iff_ne.mpr h1
    rw [if_neg h1, h3]
    by_cases h2 : y = a
    · have h4 : (y == a) = true := by simp [h2]
      rw [if_pos h2, h4]
    · have h4 : (y == a) = false := beq_eq_false_iff_ne.mpr h2
      rw [if_neg h2, h4]
theorem mm1 {α : Type} {a b p : α} {ex own : List α} (h : p ∈ ([a, b] ++ own) ++ ex) : p ∈ (a :: b :: ex) ++ own := by
  simp only [List.mem_append, List.mem_cons, List.not_mem_nil, or_false] at h ⊢
  rcases h with ((h | h) | h) | h
  · exact .inl (.inl h)
  · exact .inl (.inr (.inl h))
  · exact .inr h
  · exact .inl (.inr (.inr h))
theorem mm2 {α : Type} {a b p : α} {ex own : List α} (h : p ∈ a :: b :: ex) : p ∈ ([a, b] ++ own) ++ ex := by
  simp only [List.mem_append, List.mem_cons, List.not_mem_nil, or_false] at h ⊢
  rcases h with h | h | h
  · exact .inl (.inl (.inl h))
  · exact .inl (.inl (.inr h))
  · exact .inr h
theorem mm3 {α : Type} {a b p : α} {ex own : List α} (h : p ∈ own) : p ∈ ([a, b] ++ own) ++ ex := List.mem_append_left _ (List.mem_append_right _ h)
mutual
theorem Rd.upT {h G : Heap} {v : Value} {d : PyData} (k : ∀ b vs n, h.get? b = some { cls := .type "tuple", data := .seq vs n } → G.get? b = some { cls := .type "tuple", data := .seq vs n }) : Rd h v d → Rd G v d
  | .str => .str
  | .tup e r => .tup (k _ _ _ e) (r.upT k)
theorem RdA.upT {h G : Heap} {vs : List Value} {ds : List PyData} (k : ∀ b vs n, h.get? b = some { cls := .type "tuple", data := .seq vs n } → G.get? b = some { cls := .type "tuple", data := .seq vs n }) : RdA h vs ds → RdA G vs ds
  | .nil => .nil
  | .cons a b => .cons (a.upT k) (b.upT k)
end
theorem tup_off {g h : Heap} {L : Addr} {oC : Obj} {c : Option Value} {ps : Array Value} {ex : List (Addr × Obj)} (N : News g L h ((L + 1, oC) :: (369, tabObj ps) :: ex)) (hd : oC.data = .cell c) {b : Addr} {vs : Array Value} {n : Nat}
    (e : h.get? b = some { cls := .type "tuple", data := .seq vs n }) : b ∉ [(L + 1, oC), (369, tabObj ps)].map (·.1) := by
  intro z
  simp only [List.map_cons, List.map_nil, List.mem_cons, List.not_mem_nil, or_false] at z
  rcases z with rfl | rfl
  · rw [(N _ (.head _)).1] at e
    injection e with e
    have e : oC = _ := e
    rw [e] at hd
    cases hd
  · rw [(N _ (.tail _ (.head _))).1] at e
    injection e with e
    have := congrArg Obj.cls e
    cases this
theorem new_off {g h : Heap} {L : Addr} {oC : Obj} {ps : Array Value} {ex : List (Addr × Obj)} (N : News g L h ((L + 1, oC) :: (369, tabObj ps) :: ex)) {b : Addr} (e : h.get? b = none) : b ∉ [(L + 1, oC), (369, tabObj ps)].map (·.1) := by
  intro z
  simp only [List.map_cons, List.map_nil, List.mem_cons, List.not_mem_nil, or_false] at z
  rcases z with rfl | rfl
  · rw [(N _ (.head _)).1] at e; cases e
  · rw [(N _ (.tail _ (.head _))).1] at e; cases e
noncomputable def KRow.good (r : KRow) : Prop := r.isN = true → r = ⟨xmlnsUri, r.k2, nsName r.k2, r.value⟩
theorem elRows_rows {rs : List KRow} (hg : ∀ r ∈ rs, r.good) : elRows ((rs.filter KRow.isA).map attrN) ((rs.filter KRow.isN).map declN) = rs.filter KRow.isA ++ rs.filter KRow.isN := by
  unfold elRows
  rw [List.map_map, List.map_map]
  congr 1
  · conv => rhs; rw [← List.map_id (rs.filter KRow.isA)]
    exact List.map_congr_left fun r _ => rfl
  · conv => rhs; rw [← List.map_id (rs.filter KRow.isN)]
    refine List.map_congr_left fun r hr => ?_
    obtain ⟨h1, h2⟩ := List.mem_filter.mp hr
    exact (hg r h1 h2).symm
theorem told_A {t : Told} (h : t.ok) : (toldK t).isA = t.isA := by
  cases t with
  | a u l n v => simp only [toldK, KRow.isA, Told.isA, bne]; rw [show (u == xmlnsUri) = false from h]; rfl
  | d p u => simp [toldK, KRow.isA, Told.isA]
theorem told_N {t : Told} (h : t.ok) : (toldK t).isN = t.isD := by
  cases t with
  | a u l n v => simp only [toldK, KRow.isN, Told.isD, Told.isA]; rw [show (u == xmlnsUri) = false from h]; rfl
  | d p u => simp [toldK, KRow.isN, Told.isD, Told.isA]
theorem told_good (t : Told) (h : t.ok) : (toldK t).good := by
  cases t with
  | a u l n v => intro hn; have : (u == xmlnsUri) = false := h; simp only [toldK, KRow.isN] at hn; rw [this] at hn; cases hn
  | d p u => intro _; rfl
theorem filter_told {ts : List Told} (hok : ∀ t ∈ ts, t.ok) : (ts.map toldK).filter KRow.isA ++ (ts.map toldK).filter KRow.isN = listed ts := by
  unfold listed
  rw [List.filter_map, List.filter_map]
  congr 2
  · exact List.filter_congr fun t ht => told_A (hok t ht)
  · exact List.filter_congr fun t ht => told_N (hok t ht)
theorem el_listed {ts : List Told} (hok : ∀ t ∈ ts, t.ok) : elRows (((ts.map toldK).filter KRow.isA).map attrN) (((ts.map toldK).filter KRow.isN).map declN) = listed ts := by
  rw [elRows_rows (fun r hr => by obtain ⟨t, ht, rfl⟩ := List.mem_map.mp hr; exact told_good t (hok t ht)), filter_told hok]
theorem short_of {ts : List Told} (hok : ∀ t ∈ ts, t.ok) : ∀ b ∈ ((ts.map toldK).filter KRow.isN).map declN, b.loc.length ≤ 1000 := by
  intro b hb
  obtain ⟨r, hr, rfl⟩ := List.mem_map.mp hb
  obtain ⟨h1, h2⟩ := List.mem_filter.mp hr
  obtain ⟨t, ht, rfl⟩ := List.mem_map.mp h1
  have hk := hok t ht
  rw [told_N hk] at h2
  cases t with
  | a u l n v => cases h2
  | d p u => exact hk
theorem listed_length (ts : List Told) : (listed ts).length ≤ ts.length := by
  unfold listed
  rw [List.length_append, List.length_map, List.length_map]
  induction ts with
  | nil => simp
  | cons t ts ih => cases t <;> simp [List.filter, Told.isA, Told.isD] at ih ⊢ <;> omega
theorem reads_lst {h : Heap} {a : Addr} {vs : List Value} {ds : List PyData} {e : Nat} (ha : h.get? a = some (listOf vs.toArray e)) (r : RdA h vs ds) : Reads h (.ref a) (.list ds) [a] := reads_list_at ha rfl rfl (by simpa using r.reads)
theorem gather_any {g h h' G : Heap} {L : Addr} {m : Str → Option Value} {ex own : List (Addr × Obj)} {mods : List Addr} {T : TRef} {xs xs2 : List RRef} {ds ds' : List NRow}
    (F : Fr g L h m) (N : News g L h (own ++ ex)) (hoff : OwnOff own (ex.map (·.1))) (q : Gat g L ex G) (t : TreeAt G T xs ds) (gn : ∀ b ∈ objs T xs, g.get? b = none) (k : Keep mods h h')
    (hm : ∀ b ∈ mods, b ∈ objs T xs) (t' : TreeAt h' T xs2 ds') (new : ∀ b ∈ objs T xs2, b ∈ objs T xs ∨ h.get? b = none) :
    ∃ G' ex', Gat g L ex' G' ∧ TreeAt G' T xs2 ds' ∧ Fr g L h' m ∧ News g L h' (own ++ ex') ∧ OwnOff own (ex'.map (·.1)) ∧ Keep mods G G' ∧ ∀ b ∈ objs T xs2, g.get? b = none := by
  have Gh := q.up F N fun p hp => List.mem_append_right _ hp
  have hown : ∀ p ∈ own, p ∈ own ++ ex := fun p hp => List.mem_append_left _ hp
  have mL : ∀ b ∈ mods, b ≠ L := fun b hb z => by
    obtain ⟨o, e⟩ := t.some (hm b hb)
    rw [z, q.offL] at e
    cases e
  have F' := fr_back F k fun b hb => ⟨gn b (hm b hb), mL b hb⟩
  have oT : ∀ b ∈ objs T xs, b ≠ L ∧ b ∉ own.map (·.1) := by
    intro b hb
    obtain ⟨o, e⟩ := t.some hb
    refine ⟨fun z => (by rw [z, q.offL] at e; cases e), fun z => ?_⟩
    obtain ⟨p, hp, rfl⟩ := List.mem_map.mp z
    exact hoff p hp _ (List.mem_map_of_mem (f := (·.1)) (q.cov _ _ e (N p (hown p hp)).2.2)) rfl
  obtain ⟨G', ex', q', N', no, Gh', hG'⟩ := gather F' (own.map (·.1)) (by intro b hb; obtain ⟨p, hp, rfl⟩ := List.mem_map.mp hb; exact (N p (hown p hp)).2.2)
  refine ⟨G', ex', q', t'.hide fun b o e hb => ?_, F', ?_, ?_, ?_, ?_⟩
  · rcases new b hb with hb | hb
    · exact hG' b o e (oT b hb).1 (oT b hb).2
    · refine hG' b o e (fun z => ?_) fun z => ?_
      · obtain ⟨oL, _, _, hL, _⟩ := F.ns
        rw [z, hL] at hb
        cases hb
      · obtain ⟨p, hp, rfl⟩ := List.mem_map.mp z
        rw [(N p (hown p hp)).1] at hb
        cases hb
  · intro p hp
    rcases List.mem_append.mp hp with hp | hp
    · have n := N p (hown p hp)
      exact ⟨k _ _ n.1 fun z => (oT _ (hm _ z)).2 (List.mem_map_of_mem hp), n.2⟩
    · exact N' p hp
  · intro p hp b hb z
    obtain ⟨r, hr, rfl⟩ := List.mem_map.mp hb
    exact no r hr (List.mem_map.mpr ⟨p, hp, z⟩)
  · intro b o e n
    refine hG' b o (k b o (Gh b o e) n) (fun z => (by rw [z, q.offL] at e; cases e)) fun z => ?_
    obtain ⟨p, hp, rfl⟩ := List.mem_map.mp z
    exact hoff p hp _ (List.mem_map_of_mem (f := (·.1)) (q.cov _ _ e (N p (hown p hp)).2.2)) rfl
  · intro b hb
    rcases new b hb with hb | hb
    · exact gn b hb
    · cases z : g.get? b with
      | none => rfl
      | some o => rw [F.keep _ _ z] at hb; cases hb

section
variable {M : Model} {A : Around} {E : Value → Shared → Prop} {s : Shared} {g G : Heap} {L a : Addr} {m mg mb : Str → Option Value} {cn : Str} {cs : Scope} {ccd : Value} {cl : List (Str × Addr)} {ex : List (Addr × Obj)} {oC : Obj}
  {p : Program} {loose : List Str} {mean : ExcName → Option Value} {name qual : Str} {params : Arguments} {body : PySem.Expr} {scope : Scope} {ps : Array Value} {pos : Pos} {firstLine : Nat} {clos : List (Str × Addr)}
noncomputable def tab1 (pos : Pos) (c' : Addr) : Array Value := #[rawInt pos.line, rawInt pos.col, .ref c']
theorem lam_made {Q : Value → Shared → Prop} {c : Option Value} (F : Fr g L s.heap m) (N : News g L s.heap ((L + 1, oC) :: (369, tabObj ps) :: ex)) (T : Top p loose mean mg mb g) (C : CodeHd g 371 369) (hcd : ccd = .ref 371) (hC : oC.data = .cell c) (l369 : 369 < L)
    (hoff : OwnOff [(L + 1, oC), (369, tabObj ps)] (ex.map (·.1))) (q : Gat g L ex G) (tab : ps = #[] ∨ ∃ c', ps = tab1 pos c' ∧ g.CodeRec (.ref c') qual)
    (hcl : closureFor scope (envX cn cs L a ccd cl) = pure clos)
    (h : ∀ f c' ctv h' tk ex' G', Fr g L h' m → News g L h' ((L + 1, oC) :: (369, tabObj (tab1 pos c')) :: ex') → OwnOff [(L + 1, oC), (369, tabObj (tab1 pos c'))] (ex'.map (·.1)) → Gat g L ex' G' → G.StaysIn G' →
      G'.get? f = some (kla_obj name qual params body scope clos ((mg "__name__").getD .none) c' ctv) → G'.CodeRec (.ref c') qual → (g.get? c' = none ∨ ps = tab1 pos c') → Q (.ref f) { s with heap := h', toks := tk }) :
    wpAny M A (makeFunction name qual params (.expr body) scope (envX cn cs L a ccd cl) [] [] [] pos firstLine) Q E s := by
  have hexT : ∀ p ∈ ex, p.1 ≠ 369 := fun p hp z => hoff (369, tabObj ps) (.tail _ (.head _)) p.1 (List.mem_map_of_mem hp) z.symm
  have hexC : ∀ p ∈ ex, p.1 ≠ L + 1 := fun p hp z => hoff (L + 1, oC) (.head _) p.1 (List.mem_map_of_mem hp) z.symm
  have ne : (L + 1 : Addr) ≠ 369 := Nat.ne_of_gt (Nat.lt_succ_of_lt l369)
  -- what is left when a new object f stands, the table at 369 being ps'
  have fin : ∀ (f c' : Addr) (ctv : Value) (h' : Heap) (tk : Nat) (news : List (Addr × Obj)), Fr g L h' m → News g L h' ((f, kla_obj name qual params body scope clos ((mg "__name__").getD .none) c' ctv) :: news) →
      (L + 1, oC) ∈ news → (369, tabObj (tab1 pos c')) ∈ news → (∀ p ∈ ex, p ∈ news) → h'.CodeRec (.ref c') qual → (g.get? c' = none ∨ ps = tab1 pos c') → Q (.ref f) { s with heap := h', toks := tk } := by
    intro f c' ctv h' tk news F' N' m1 m2 m3 hcr hnew
    have nf := N' _ (.head _)
    have n1 := N' _ (.tail _ m1)
    have n2 := N' _ (.tail _ m2)
    obtain ⟨G', ex', q', Nx, no, Gh', hG'⟩ := gather F' [L + 1, 369] (by intro b hb; simp only [List.mem_cons, List.not_mem_nil, or_false] at hb; rcases hb with rfl | rfl; exact n1.2.2; exact n2.2.2)
    have fC : f ≠ L + 1 := fun z => by
      rw [z, n1.1] at nf
      have := Option.some.inj nf.1
      have : oC = _ := this
      rw [this] at hC
      cases hC
    have fT : f ≠ 369 := fun z => by
      rw [z, n2.1] at nf
      have := congrArg Obj.cls (Option.some.inj nf.1)
      cases this
    have hst : G.StaysIn h' := q.stay h' m F' fun p hp => (N' p (.tail _ (m3 p hp))).1
    have gO : ∀ b o, G.get? b = some o → b ≠ L ∧ b ∉ [L + 1, 369] := fun b o e => by
      refine ⟨fun z => (by rw [z, q.offL] at e; cases e), fun z => ?_⟩
      simp only [List.mem_cons, List.not_mem_nil, or_false] at z
      rcases z with z | z
      · exact hexC _ (q.cov _ _ e (z ▸ n1.2.2)) z
      · exact hexT _ (q.cov _ _ e (z ▸ n2.2.2)) z
    obtain ⟨c₂, oc, vs, t, e2, hoc, hd, hv⟩ := hcr
    refine h f c' ctv h' tk ex' G' F' (fun p hp => ?_) ?_ q' (fun b o e => hG' b o (hst b o e) (gO b o e).1 (gO b o e).2) (hG' _ _ nf.1 nf.2.1 (by simp [fC, fT])) ⟨c₂, oc, vs, t, e2, hG' _ _ hoc ?_ ?_, hd, hv⟩ hnew
    · simp only [List.mem_cons] at hp
      rcases hp with rfl | rfl | hp
      · exact n1
      · exact n2
      · exact Nx p hp
    · intro p hp b hb z
      obtain ⟨r, hr, rfl⟩ := List.mem_map.mp hb
      refine no r hr ?_
      simp only [List.mem_cons, List.not_mem_nil, or_false] at hp
      rcases hp with rfl | rfl
      · simp [← z]
      · simp [← z]
    · intro z
      obtain ⟨oL, es, ep, hL, hdL, _⟩ := F'.ns
      rw [z, hL] at hoc
      have := Option.some.inj hoc
      rw [this, hd] at hdL
      cases hdL
    · intro z
      simp only [List.mem_cons, List.not_mem_nil, or_false] at z
      rcases z with z | z
      · rw [z, n1.1] at hoc
        have : oC = oc := Option.some.inj hoc
        rw [this, hd] at hC
        cases hC
      · rw [z, n2.1] at hoc
        have := Option.some.inj hoc
        rw [← this] at hd
        injection hd with hd
        rw [← hd] at hv
        simp [tab1, rawInt] at hv
  rcases tab with rfl | ⟨c', rfl, hcr⟩
  · refine kla_nest F N T C hcd (UpdF.tail ne (UpdF.head hexT)) True.intro rfl hcl ?_
    intro f c' oc vs t ctv h' tk F' N' d1 d2 _ _
    refine fin f c' ctv h' tk _ F' N' (.tail _ (.head _)) (.tail _ (.tail _ (.head _))) (fun p hp => .tail _ (.tail _ (.tail _ hp))) ⟨c', oc, vs, t, rfl, (N' _ (.tail _ (.head _))).1, d1, d2⟩ (.inl (N' _ (.tail _ (.head _))).2.2)
  · refine kla_hit (c' := c') F N T C hcd (.tail _ (.head _)) (by simp [TriplesOk, tab1, rawInt]) (by simp [codeAmong, tab1, rawInt]) hcl ?_
    intro f ctv h' tk F' N' _
    obtain ⟨c₂, oc, vs, t, e2, hoc, hd, hv⟩ := id hcr
    refine fin f c' ctv h' tk _ F' N' (.head _) (.tail _ (.head _)) (fun p hp => .tail _ (.tail _ hp)) ⟨c₂, oc, vs, t, e2, F'.keep _ _ hoc, hd, hv⟩ (.inr rfl)
/-- what the law's lambda gives -/
noncomputable def LamOk (prog : Program) (w : World) (H : Heap) (f : Addr) (O : Obj) (c' : Addr) (qual : Str) : Prop := ∀ (A : Around) (s : Shared) (v : Value) (t : Told) (Q E : Value → Shared → Prop), St 560 w A s.heap H → s.heap.get? f = some O → s.heap.CodeRec (.ref c') qual → Rd s.heap v (toldD t) → t.ok →
  (∀ v' h' tk', Keep [] s.heap h' → Rd h' v' (.tuple [.str (toldK t).k1, .str (toldK t).k2]) → Q v' { s with heap := h', toks := tk' }) → wpAny (model prog w) A (call (.ref f) [v]) Q E s
theorem Tup2.rd {h : Heap} {v : Value} {k : Key} (r : Tup2 h v k) : Rd h v (.tuple [.str k.1, .str k.2]) := by
  obtain ⟨a, t, u, n, rfl, e⟩ := r
  exact Rd.tup (vs := [_, _]) e (.cons .str (.cons .str .nil))
theorem item_tupH {prog : Program} {w : World} {A : Around} {E : Value → Shared → Prop} {s : Shared} {l : Addr} {value slice : PySem.Expr} {vs : Array Value} {n : Nat} {k : Int} {u : Tok} {v : Value} {r : List Value} {Q : Value → Shared → Prop}
    (hl : s.heap.get? l = some { cls := .type "tuple", data := .seq vs n }) (h0 : 0 ≤ k) (hhi : k < 2 ^ 63) (hx : vs.toList.drop k.toNat = v :: r) (h : Q v s)
    (hs : subscripted slice false (.ref l) (.int k u) = operate [.ref l, .int k u] (getItem (.ref l) (.int k u)) := by with_unfolding_all rfl) :
    wpAny (model prog w) A (subscriptTail value slice (.ref l) (.int k u)) Q E s :=
  have hL : IsTup s.heap l vs := ⟨_, hl, rfl, _, rfl⟩
  have hx2 : vs[k.toNat]? = some v := by
    have := congrArg (fun l => l[0]?) hx
    simpa using this
  have hlt : k.toNat < vs.size := (Array.getElem?_eq_some_iff.mp hx2).1
  tail_any hL.typeIs slot_tuple_getitem.lookup (getItem_tuple hL (by omega) hhi (seqIndex_of h0 (by omega)) hx2 h) hs
end
end Mine
namespace Mine
section
variable {prog : Program} {w : World} {A : Around} {E : Value → Shared → Prop} {s : Shared} {h₀ : Heap} {L kS a : Addr} {m : Str → Option Value} {news : List (Addr × Obj)} {vs ks : List Value}
theorem zip_snd (hl : ks.length = vs.length) : ((List.toArray ks).zip vs.toArray).map (·.2) = vs.toArray := by
  refine Array.ext (by simp [hl]) fun i h1 h2 => ?_
  simp
theorem end_small {e e1 : Nat} {P : PySem.Fin → Shared → Prop} (hl : ks.length = vs.length) (h2 : vs.length < 2) (h : KatFin h₀ L m kS a ks e e1 vs (fun s3 => P (.done (.ret .none)) s3) s) :
    wpAny (model prog w) A (ksk_end a false vs.toArray e1 (.ref kS) (List.toArray ks)) P E s := by
  unfold ksk_end
  have hn2 : vs.toArray.size < 2 := by rw [List.size_toArray]; omega
  simp only [Bool.false_eq_true, if_false]
  rw [if_pos hn2, if_pos hn2]
  refine wpAny_bind (wpAny_pure ?_)
  refine wpAny_bind (wpAny_pure ?_)
  exact kat_tail (b := false) (out := vs) (zip_snd hl) (by omega) (by omega) rfl h
theorem rest_small {f : Value} {e1 : Nat} {P : PySem.Fin → Shared → Prop} (hk : s.heap.get? kS = some (seqObj "list" #[] 0)) (h2 : vs.length < 2)
    (h : KatKeys prog w A h₀ L m kS f (fun ks e s' => KatFin h₀ L m kS a ks e e1 vs (fun s4 => P (.done (.ret .none)) s4) s') vs [] 0 s) :
    wpAny (model prog w) A (ksk_rest a f false vs.toArray e1 (.ref kS)) P E s := by
  unfold ksk_rest
  refine wpAny_bind (wpAny_rule ?_)
  first
    | rw [List.forIn_toArray]
    | (rw [← Array.forIn_toList]; simp only [List.toList_toArray])
    | rw [← Array.forIn_toList]
  refine wpAny_bind (wpAny_mono (kat_fold (show vs.length < 64 by omega) (fun x ks e s' C hz hx => ?_) vs [] 0 s (by simp) hk h) (fun _ s' hd => ?_) fun _ _ x => x)
  · refine wpAny_bind (wpAny_attempt (wpAny_mono hx (fun k s'' hk => ?_) fun _ _ hF => hF.elim))
    obtain ⟨news', g, F', N', U, c⟩ := hk
    obtain ⟨pre, post, e0, hg, x1, x2⟩ := U.split
    rw [e0] at N'
    have nk := N' (kS, seqObj "list" (List.toArray ks) e) (List.mem_append_right _ (.head _))
    have s1 := Heap.SameBut.update s''.heap kS (Obj.mapSeq (·.push k))
    have ea : (List.toArray ks).push k = List.toArray (ks ++ [k]) := by simp
    obtain ⟨c2, hc2⟩ : ∃ c2, (s''.heap.update kS (Obj.mapSeq (·.push k))).get? kS = some (seqObj "list" (List.toArray (ks ++ [k])) c2) := ⟨_, by rw [← ea]; exact get?_update_seq nk.1 (·.push k)⟩
    try dsimp only
    refine wpAny_bind (listUpdate_at nk.1 rfl ?_ (by rw [List.size_toArray, sizeLine_eq]; omega) (Nat.le_trans (Nat.le_of_eq (Array.size_push ..)) (by rw [List.size_toArray, sizeLine_eq]; omega)))
    exact wpAny_pure ⟨rfl, k, c2, hc2, c _ c2 (kas_fr F' s1 nk.2.1 nk.2.2) (by rw [hg]; exact news_set N' x1 x2 s1 hc2)⟩
  · obtain ⟨ks, e, hk', hl, fin⟩ := hd
    try dsimp only
    refine wpAny_bind (listItems_at hk' rfl ?_)
    exact end_small hl h2 fin
theorem keyed_small {f : Value} {n : Nat} {P : PySem.Fin → Shared → Prop} (F : Fr h₀ L s.heap m) (N : News h₀ L s.heap news) (ho : s.heap.get? a = some (seqObj "list" vs.toArray n)) (haL : a ≠ L) (ha0 : h₀.get? a = none) (hna : ∀ p ∈ news, p.1 ≠ a) (h2 : vs.length < 2)
    (h : ∀ kS e1 h', Fr h₀ L h' m → News h₀ L h' ((kS, seqObj "list" #[] 0) :: (a, seqObj "list" #[] e1) :: news) → a < kS → (∀ q ∈ news, q.1 < kS) →
      KatKeys prog w A h₀ L m kS f (fun ks e s' => KatFin h₀ L m kS a ks e e1 vs (fun s4 => P (.done (.ret .none)) s4) s') vs [] 0 { s with heap := h' }) :
    wpAny (model prog w) A (ksk_tree a f false) P E s := by
  have ha : a < s.heap.objs.size := Heap.lt_size ho
  have s1 := Heap.SameBut.update s.heap a (Obj.mapSeq fun _ => (#[] : Array Value))
  obtain ⟨e1, ho1⟩ : ∃ e1, (s.heap.update a (Obj.mapSeq fun _ => (#[] : Array Value))).get? a = some (seqObj "list" #[] e1) := ⟨_, get?_update_seq ho fun _ => #[]⟩
  have F1 := kas_fr F s1 haL ha0
  have N1 := kas_news N s1 hna
  have hkS : ((s.heap.update a (Obj.mapSeq fun _ => (#[] : Array Value))).push (seqObj "tuple" vs.toArray 0)).objs.size = s.heap.objs.size + 1 := by rw [size_push', Heap.size_update]
  have hLk : L < ((s.heap.update a (Obj.mapSeq fun _ => (#[] : Array Value))).push (seqObj "tuple" vs.toArray 0)).objs.size := (F1.push _).ns.lt
  unfold ksk_tree
  refine wpAny_bind (listItems_at ho rfl ?_)
  refine wpAny_bind (listUpdate_at ho rfl ?_ (by rw [List.size_toArray, sizeLine_eq]; omega) (Nat.zero_le _))
  refine wpAny_bind (seqEpoch_at ho1 rfl ?_)
  refine wpAny_bind (wpAny_newTuple ?_ (by show vs.length ≤ _; rw [sizeLine_eq]; omega))
  refine wpAny_bind (wpAny_newList ?_ (Nat.zero_le _))
  refine wpAny_holding ?_
  refine rest_small (s := { s with heap := ((s.heap.update a (Obj.mapSeq fun _ => (#[] : Array Value))).push (seqObj "tuple" vs.toArray 0)).push (seqObj "list" #[] 0) }) (kS := ((s.heap.update a (Obj.mapSeq fun _ => (#[] : Array Value))).push (seqObj "tuple" vs.toArray 0)).objs.size)
    (Heap.get?_push_size _ rfl) h2 (h _ e1 _ ((F1.push _).push _) (fun p hp => ?_) (by rw [hkS]; exact Nat.lt_succ_of_lt ha) fun q hq => by rw [hkS]; exact Nat.lt_succ_of_lt (Heap.lt_size (N q hq).1))
  rcases List.mem_cons.mp hp with rfl | hp
  · exact ⟨Heap.get?_push_size _ rfl, Nat.ne_of_gt hLk, Heap.get?_none_of_le (Nat.le_trans F.above (Nat.le_of_lt hLk))⟩
  · rcases List.mem_cons.mp hp with rfl | hp
    · exact ⟨Heap.get?_push_of_some _ (Heap.get?_push_of_some _ ho1), haL, ha0⟩
    · exact ⟨Heap.get?_push_of_some _ (Heap.get?_push_of_some _ (N1 p hp).1), (N1 p hp).2⟩
theorem sortedK_small {l : Addr} {f : Value} {kw : List (Str × Value)} {Q : Value → Shared → Prop} (F : Fr h₀ L s.heap m) (N : News h₀ L s.heap news) (hl : s.heap.IsList l vs.toArray) (h2 : vs.length < 2)
    (ha1 : argsOk "sorted" ⟨[.ref l], kw⟩) (ha2 : ∀ x, argsOk "list.sort" ⟨[.ref x], kw⟩) (ht : ∀ x, Builtin.«list.sort» ⟨[.ref x], kw⟩ = ksk_tree x f false)
    (h : ∀ D kS e1 h', Fr h₀ L h' m → News h₀ L h' ((kS, seqObj "list" #[] 0) :: (D, seqObj "list" #[] e1) :: news) → D < kS → (∀ q ∈ news, q.1 < D) →
      KatKeys prog w A.in1.in1 h₀ L m kS f (fun ks e s' => KatFin h₀ L m kS D ks e e1 vs (fun s4 => Q (.ref D) s4) s') vs [] 0 { s with heap := h' }) :
    wpAny (model prog w) A (call (.builtin "sorted") [.ref l] kw) Q E s := by
  refine call_function_entry_kw kind_sorted plain_sorted entry_sorted ha1 ?_
  unfold Builtin.«sorted»
  refine wpAny_bind (m := checkCount "sorted" 1 1 _) (wpAny_pure ?_)
  refine wpAny_bind (collect_list hl ?_ (by rw [sizeLine_eq]; omega))
  refine wpAny_bind (wpAny_newList ?_ (by rw [sizeLine_eq]; omega))
  have hsz : ((s.heap.push (seqObj "list" #[] 0)).update s.heap.objs.size (Obj.mapSeq (· ++ vs.toArray))).objs.size = s.heap.objs.size + 1 := by
    rw [Heap.size_update, size_push']
  have hoL : (((s.heap.push (seqObj "list" #[] 0)).update s.heap.objs.size (Obj.mapSeq (· ++ vs.toArray))).push (seqObj "list" vs.toArray 0)).get? (s.heap.objs.size + 1) = some (seqObj "list" vs.toArray 0) := by
    rw [← hsz]; exact Heap.get?_push_size _ rfl
  have keep : ∀ b o, s.heap.get? b = some o → (((s.heap.push (seqObj "list" #[] 0)).update s.heap.objs.size (Obj.mapSeq (· ++ vs.toArray))).push (seqObj "list" vs.toArray 0)).get? b = some o := fun b o q => by
    have hlt : b < s.heap.objs.size := Heap.lt_size q
    rw [Heap.get?_push_ne _ _ _ (by rw [hsz]; exact Nat.ne_of_lt (Nat.lt_succ_of_lt hlt)), Heap.get?_update_ne _ _ _ _ (Nat.ne_of_lt hlt), Heap.get?_push_ne _ _ _ (Nat.ne_of_lt hlt)]
    exact q
  have hL : L < s.heap.objs.size := F.ns.lt
  show wpAny _ _ _ _ _ { s with heap := ((s.heap.push (seqObj "list" #[] 0)).update s.heap.objs.size (Obj.mapSeq (· ++ vs.toArray))).push (seqObj "list" vs.toArray 0) }
  rw [hsz]
  refine wpAny_bind (wpAny_holding (wpAny_call_entry_kw slot_list_sort ⟨_, hoL, rfl⟩ entry_list_sort ?body (ha2 _)))
  case body =>
    have ht' := ht (s.heap.objs.size + 1)
    show wpAny (model prog w) A.in1.in1 (Builtin.«list.sort» ⟨[.ref (s.heap.objs.size + 1)], kw⟩) _ _ _
    rw [ht']
    refine keyed_small (s := { s with heap := ((s.heap.push (seqObj "list" #[] 0)).update s.heap.objs.size (Obj.mapSeq (· ++ vs.toArray))).push (seqObj "list" vs.toArray 0) })
      (F.kept keep) (N.grown keep) hoL (Nat.ne_of_gt (Nat.lt_succ_of_lt hL)) (Heap.get?_none_of_le (Nat.le_trans F.above (Nat.le_succ_of_le (Nat.le_of_lt hL))))
      (fun p hp => Nat.ne_of_lt (Nat.lt_succ_of_lt (Heap.lt_size (N p hp).1))) h2 fun kS e1 h' F' N' l0 l1 => ?_
    refine kat_keys_mono (h _ kS e1 h' F' N' l0 fun q hq => Nat.lt_succ_of_lt (Heap.lt_size (N q hq).1)) fun ks e s' _ hd => ?_
    exact hd.mono fun s4 hq => ⟨_, rfl, wpAny_pure ⟨_, rfl, hq⟩⟩
end
end Mine
namespace Mine
noncomputable def keyD (k : Key) : PyData := .tuple [.str k.1, .str k.2]
theorem codeRec_up {h h' : Heap} {v : Value} {q : Str} (r : h.CodeRec v q) (st : h.StaysIn h') : h'.CodeRec v q :=
  let ⟨c₂, oc, vs, t, e2, hoc, hd, hv⟩ := r; ⟨c₂, oc, vs, t, e2, st _ _ hoc, hd, hv⟩
theorem tup_off4 {g h : Heap} {L kS D : Addr} {oC : Obj} {c : Option Value} {ps : Array Value} {ks : Array Value} {e e1 : Nat} {ex : List (Addr × Obj)}
    (N : News g L h ((kS, seqObj "list" ks e) :: (D, seqObj "list" #[] e1) :: (L + 1, oC) :: (369, tabObj ps) :: ex)) (hd : oC.data = .cell c) {b : Addr} {vs : Array Value} {n : Nat}
    (z : h.get? b = some { cls := .type "tuple", data := .seq vs n }) : b ∉ [kS, D, L + 1, 369] := by
  intro q
  simp only [List.mem_cons, List.not_mem_nil, or_false] at q
  rcases q with q | q | q
  · exact tup_ne_list z (N _ (.head _)).1 q
  · exact tup_ne_list z (N _ (.tail _ (.head _))).1 q
  · exact tup_off (news_sub2 N) hd z (by simpa using q)
where news_sub2 {g h : Heap} {L : Addr} {a b : Addr × Obj} {l : List (Addr × Obj)} (N : News g L h (a :: b :: l)) : News g L h l := fun p hp => N p (.tail _ (.tail _ hp))
section
variable {prog : Program} {w : World} {A : Around} {E : Value → Shared → Prop} {s : Shared} {g H G0 : Heap} {L kS D f c' : Addr} {m : Str → Option Value} {oC O : Obj} {c : Option Value} {ps : Array Value} {e1 : Nat} {qual : Str} {Fin : List Value → Nat → Shared → Prop} {all : List Key}
theorem keys_run (lam : LamOk prog w H f O c' qual) (hS : ∀ h m, Fr g L h m → St 560 w A h H) (hC : oC.data = .cell c) (hO : G0.get? f = some O) (hcr : G0.CodeRec (.ref c') qual) (neD : D ≠ kS) (neC : L + 1 ≠ kS) (neT : (369 : Addr) ≠ kS)
    (fin : ∀ ks e h' tk ex' G', Fr g L h' m → News g L h' ((kS, seqObj "list" (List.toArray ks) e) :: (D, seqObj "list" #[] e1) :: (L + 1, oC) :: (369, tabObj ps) :: ex') → (∀ p ∈ ex', p.1 ∉ [kS, D, L + 1, 369]) → Gat g L ex' G' → G0.StaysIn G' → RdA G' ks (all.map keyD) → Fin ks e { s with heap := h', toks := tk }) :
    ∀ (r : List Value) (rts : List Told) (ks : List Value) (dn : List Key) (e : Nat) (h' : Heap) (tk : Nat) (ex' : List (Addr × Obj)) (G' : Heap), RdA g r (rts.map toldD) → (∀ t ∈ rts, t.ok) → Fr g L h' m →
      News g L h' ((kS, seqObj "list" (List.toArray ks) e) :: (D, seqObj "list" #[] e1) :: (L + 1, oC) :: (369, tabObj ps) :: ex') → (∀ p ∈ ex', p.1 ∉ [kS, D, L + 1, 369]) → Gat g L ex' G' → G0.StaysIn G' → RdA G' ks (dn.map keyD) → dn ++ rts.map (fun t => (toldK t).key) = all →
      KatKeys prog w A g L m kS (.ref f) Fin r ks e { s with heap := h', toks := tk }
  | [], rts, ks, dn, e, h', tk, ex', G', hr, _, F, N, off, q, st, rk, ha => by
    have : rts = [] := by
      cases rts with
      | nil => rfl
      | cons t rts => cases hr
    subst this
    rw [List.map_nil, List.append_nil] at ha
    subst ha
    exact KatKeys.nil (fin ks e h' tk ex' G' F N off q st rk)
  | v :: r, rts, ks, dn, e, h', tk, ex', G', hr, hok, F, N, off, q, st, rk, ha => by
    cases rts with
    | nil => cases hr
    | cons t rts =>
      rw [List.map_cons] at hr
      cases hr with
      | cons hv hr =>
        have up' : G'.StaysIn h' := q.up F N fun p hp => .tail _ (.tail _ (.tail _ (.tail _ hp)))
        refine KatKeys.cons (lam A { s with heap := h', toks := tk } v t _ _ (hS h' m F) (up' _ _ (st _ _ hO)) (codeRec_up hcr fun b o z => up' b o (st b o z)) (hv.up F.keep) (hok t (.head _)) ?_)
        intro v2 h2 tk2 k2 rd2
        have F2 := fr_stay F k2
        have N2 := news_stay N k2
        have own0 : ∀ b ∈ [kS, D, L + 1, 369], g.get? b = none := by
          intro b hb
          simp only [List.mem_cons, List.not_mem_nil, or_false] at hb
          rcases hb with rfl | rfl | rfl | rfl
          · exact (N _ (.head _)).2.2
          · exact (N _ (.tail _ (.head _))).2.2
          · exact (N _ (.tail _ (.tail _ (.head _)))).2.2
          · exact (N _ (.tail _ (.tail _ (.tail _ (.head _))))).2.2
        obtain ⟨G2, ex2, q2, Nx, no2, _, hG2⟩ := gather F2 [kS, D, L + 1, 369] own0
        have st2 : G'.StaysIn G2 := fun b o z => hG2 b o (k2 b o (up' b o z) (by simp)) (fun y => (by rw [y, q.offL] at z; cases z)) fun y => off _ (q.cov _ _ z (own0 b y)) y
        have rd3 : Rd G2 v2 (keyD (toldK t).key) := rd2.upT fun b vs n z => hG2 b _ z (tup_ne_L F2 z) (tup_off4 N2 hC z)
        have N3 : News g L h2 ((kS, seqObj "list" (List.toArray ks) e) :: (D, seqObj "list" #[] e1) :: (L + 1, oC) :: (369, tabObj ps) :: ex2) := fun p hp => by
          simp only [List.mem_cons] at hp
          rcases hp with rfl | rfl | rfl | rfl | hp
          · exact N2 _ (.head _)
          · exact N2 _ (.tail _ (.head _))
          · exact N2 _ (.tail _ (.tail _ (.head _)))
          · exact N2 _ (.tail _ (.tail _ (.tail _ (.head _))))
          · exact Nx p hp
        refine KatBack.intro F2 N3 (UpdF.head (fun p hp => ?_)) fun h3 c3 F3 N4 => ?_
        · simp only [List.mem_cons] at hp
          rcases hp with rfl | rfl | rfl | hp
          · exact neD
          · exact neC
          · exact neT
          · exact fun y => no2 p hp (by simp [y])
        · refine keys_run lam hS hC hO hcr neD neC neT fin r rts (ks ++ [v2]) (dn ++ [(toldK t).key]) c3 h3 tk2 ex2 G2 hr (fun t ht => hok t (.tail _ ht)) F3 N4 no2 q2 (fun b o z => st2 b o (st b o z)) ?_ ?_
          · rw [List.map_append]
            exact (rk.up st2).snoc rd3
          · rw [← ha, List.append_assoc]
            rfl
end
end Mine
namespace Mine
theorem key_tups {h : Heap} : ∀ {ks : List Value} {keys : List Key}, RdA h ks (keys.map keyD) → ∃ fs, KatTups h ks fs ∧ fs.length = ks.length ∧ ∀ v ∈ fs, ∃ x t, v = .str x t
  | [], keys, r => ⟨[], .nil, rfl, fun _ h => nomatch h⟩
  | v :: ks, [], r => by cases r
  | v :: ks, k :: keys, r => by
    cases r with
    | cons a b =>
      obtain ⟨x, t, u, n, rfl, e⟩ := Rd.key_inv a
      obtain ⟨fs, h1, h2, h3⟩ := key_tups b
      refine ⟨.str k.1 t :: fs, KatTups.cons e rfl rfl (by simp) h1, by simp [h2], ?_⟩
      intro w hw
      rcases List.mem_cons.mp hw with rfl | hw
      · exact ⟨_, _, rfl⟩
      · exact h3 w hw
section
variable {prog : Program} {w : World} {A : Around} {E : Value → Shared → Prop} {s : Shared}
theorem key_lt {v v' : Value} {k k' : Key} {Q : Bool → Shared → Prop} (a : Tup2 s.heap v k) (b : Tup2 s.heap v' k') (hne : k ≠ k') (h : Q (kLt k k') s) :
    wpAny (model prog w) A (keyLt' (tuples' (Value.type "str" != Value.type "tuple")) v v') Q E s := by
  obtain ⟨x, t1, t2, n1, rfl, hx⟩ := a
  obtain ⟨y, u1, u2, n2, rfl, hy⟩ := b
  have hb : (Value.type "str" != Value.type "tuple") = true := by decide
  rw [hb]
  refine kat_lt hx rfl hy rfl ?_
  show KatLex _ _ _ _ _ _ [(Value.str k.1 t1, Value.str k'.1 u1), (Value.str k.2 t2, Value.str k'.2 u2)] 0 s
  refine kat_cons (wpAny_eqBool_str ?_)
  by_cases h1 : k.1 = k'.1
  · have h2 : k.2 ≠ k'.2 := fun z => hne (Prod.ext h1 z)
    rw [decide_eq_true h1]
    refine kat_yes (kat_cons (wpAny_eqBool_str ?_))
    rw [decide_eq_false h2]
    refine kat_no ?_
    refine kat_one _ _ (lt_str ?_)
    have : kLt k k' = sLt k.2 k'.2 := if_pos h1
    rw [this] at h
    exact h
  · rw [decide_eq_false h1]
    refine kat_no ?_
    refine oneLt_str ?_
    have : kLt k k' = sLt k.1 k'.1 := if_neg h1
    rw [this] at h
    exact h
end
section
variable {prog : Program} {w : World} {A : Around} {E : Value → Shared → Prop} {s : Shared} {g H G : Heap} {L f c' l : Addr} {m : Str → Option Value} {oC O : Obj} {c : Option Value} {ps : Array Value} {qual : Str} {ex : List (Addr × Obj)} {vs : List Value} {ts : List Told} {kw : List (Str × Value)} {Q : Value → Shared → Prop}
theorem sorted_told (F : Fr g L s.heap m) (N : News g L s.heap ((L + 1, oC) :: (369, tabObj ps) :: ex)) (hC : oC.data = .cell c) (hoff : OwnOff [(L + 1, oC), (369, tabObj ps)] (ex.map (·.1))) (q : Gat g L ex G)
    (hl : g.IsList l vs.toArray) (rg : RdA g vs (ts.map toldD)) (hok : ∀ t ∈ ts, t.ok) (hnd : (ts.map fun t => (toldK t).key).Nodup) (h4 : ts.length ≤ 4) (lam : LamOk prog w H f O c' qual) (hS : ∀ h m, Fr g L h m → St 560 w A.in1.in1 h H)
    (hO : G.get? f = some O) (hcr : G.CodeRec (.ref c') qual)
    (ha1 : argsOk "sorted" ⟨[.ref l], kw⟩) (ha2 : ∀ x, argsOk "list.sort" ⟨[.ref x], kw⟩) (ht : ∀ x, Builtin.«list.sort» ⟨[.ref x], kw⟩ = ksk_tree x (.ref f) false)
    (h : ∀ D c2 h' tk ex' G', Fr g L h' m → News g L h' ((L + 1, oC) :: (369, tabObj ps) :: ex') → OwnOff [(L + 1, oC), (369, tabObj ps)] (ex'.map (·.1)) → Gat g L ex' G' → G.StaysIn G' → g.get? D = none →
      G'.get? D = some (listOf ((sortIdx (ts.map fun t => (toldK t).key)).map fun i => vs.getD i Value.none).toArray c2) → (∀ i ∈ sortIdx (ts.map fun t => (toldK t).key), i < ts.length) → (sortIdx (ts.map fun t => (toldK t).key)).length = ts.length → Q (.ref D) { s with heap := h', toks := tk }) :
    wpAny (model prog w) A (call (.builtin "sorted") [.ref l] kw) Q E s := by
  have hvl : vs.length = ts.length := by simpa using rg.length
  have hex : ∀ p ∈ ex, p.1 ≠ L + 1 ∧ p.1 ≠ 369 := fun p hp => ⟨fun z => hoff (L + 1, oC) (.head _) p.1 (List.mem_map_of_mem hp) z.symm, fun z => hoff (369, tabObj ps) (.tail _ (.head _)) p.1 (List.mem_map_of_mem hp) z.symm⟩
  -- the end: the sorted list stands
  have tofin : ∀ (D kS : Addr) (okS : Obj) (out : List Value) (c2 : Nat) (h' : Heap) (tk : Nat) (ex' : List (Addr × Obj)) (G' : Heap), L + 1 < D → 369 < D → Fr g L h' m →
      News g L h' ((kS, okS) :: (D, listOf out.toArray c2) :: (L + 1, oC) :: (369, tabObj ps) :: ex') → (∀ p ∈ ex', p.1 ∉ [kS, D, L + 1, 369]) → Gat g L ex' G' → G.StaysIn G' → out = (sortIdx (ts.map fun t => (toldK t).key)).map (fun i => vs.getD i Value.none) →
      (∀ i ∈ sortIdx (ts.map fun t => (toldK t).key), i < ts.length) → (sortIdx (ts.map fun t => (toldK t).key)).length = ts.length → Q (.ref D) { s with heap := h', toks := tk } := by
    intro D kS okS out c2 h' tk ex' G' d1 d2 F' N' off q' st ho p1 p2
    subst ho
    have n1 := N' _ (.tail _ (.tail _ (.head _)))
    have n2 := N' _ (.tail _ (.tail _ (.tail _ (.head _))))
    have nD := N' _ (.tail _ (.head _))
    have own0 : ∀ b ∈ [L + 1, 369], g.get? b = none := by intro b hb; simp only [List.mem_cons, List.not_mem_nil, or_false] at hb; rcases hb with rfl | rfl; exact n1.2.2; exact n2.2.2
    obtain ⟨G2, ex2, q2, Nx, no, _, hG⟩ := gather F' [L + 1, 369] own0
    have up' : G'.StaysIn h' := q'.up F' N' fun p hp => .tail _ (.tail _ (.tail _ (.tail _ hp)))
    refine h D c2 h' tk ex2 G2 F' (fun p hp => ?_) ?_ q2 (fun b o z => ?_) nD.2.2 (hG _ _ nD.1 nD.2.1 (by simp; exact ⟨Nat.ne_of_gt d1, Nat.ne_of_gt d2⟩)) p1 p2
    · simp only [List.mem_cons] at hp
      rcases hp with rfl | rfl | hp
      · exact n1
      · exact n2
      · exact Nx p hp
    · intro p hp b hb z
      obtain ⟨r, hr, rfl⟩ := List.mem_map.mp hb
      refine no r hr ?_
      simp only [List.mem_cons, List.not_mem_nil, or_false] at hp
      rcases hp with rfl | rfl <;> simp [← z]
    · have z' := st b o z
      refine hG b o (up' b o z') (fun y => (by rw [y, q'.offL] at z'; cases z')) fun y => ?_
      refine off _ (q'.cov _ _ z' (own0 b y)) ?_
      simp only [List.mem_cons, List.not_mem_nil, or_false] at y ⊢
      exact .inr (.inr y)
  have off0 : ∀ (D kS : Addr), (∀ p ∈ (L + 1, oC) :: (369, tabObj ps) :: ex, p.1 < D) → D < kS → ∀ p ∈ ex, p.1 ∉ [kS, D, L + 1, 369] := by
    intro D kS z1 z2 p hp y
    have a1 := z1 p (.tail _ (.tail _ hp))
    simp only [List.mem_cons, List.not_mem_nil, or_false] at y
    rcases y with y | y | y | y
    · exact Nat.lt_irrefl _ (Nat.lt_trans (y ▸ a1) z2)
    · exact Nat.lt_irrefl _ (y ▸ a1)
    · exact (hex p hp).1 y
    · exact (hex p hp).2 y
  have hlS : s.heap.IsList l vs.toArray := hl.at fun o e => F.keep _ o e
  by_cases h2 : ts.length < 2
  · refine sortedK_small F N hlS (by omega) ha1 ha2 ht ?_
    intro D kS e1 h' F' N' z1 z2
    have d1 := z2 _ (.head _)
    have d2 := z2 _ (.tail _ (.head _))
    have hsi : sortIdx (ts.map fun t => (toldK t).key) = List.range ts.length := by unfold sortIdx; rw [if_pos (by simpa using h2)]; simp
    refine keys_run (all := ts.map fun t => (toldK t).key) lam hS hC hO hcr (Nat.ne_of_lt z1) (Nat.ne_of_lt (Nat.lt_trans d1 z1)) (Nat.ne_of_lt (Nat.lt_trans d2 z1)) ?_ vs ts [] [] 0 h' s.toks ex G rg hok F' N' (off0 D kS z2 z1) q (fun _ _ z => z) .nil rfl
    intro ks e h2' tk2 ex2 G2 F2 N2 off2 q2 st2 rk
    refine KatFin.intro F2 N2 (UpdF.head (fun p hp => ?_)) fun h3 c3 F3 N3 => ?_
    · simp only [List.mem_cons] at hp
      rcases hp with rfl | rfl | rfl | hp
      · exact Nat.ne_of_lt z1
      · exact Nat.ne_of_lt (Nat.lt_trans d1 z1)
      · exact Nat.ne_of_lt (Nat.lt_trans d2 z1)
      · exact fun y => off2 p hp (by simp [y])
    · refine KasFin.intro F3 N3 (UpdF.tail (Nat.ne_of_gt z1) (UpdF.head (fun p hp => ?_))) fun h4' c4 F4 N4 => ?_
      · simp only [List.mem_cons] at hp
        rcases hp with rfl | rfl | hp
        · exact Nat.ne_of_lt d1
        · exact Nat.ne_of_lt d2
        · exact fun y => off2 p hp (by simp [y])
      · refine tofin D kS _ vs c4 h4' tk2 ex2 G2 d1 d2 F4 N4 off2 q2 st2 ?_ (by rw [hsi]; simp) (by rw [hsi]; simp)
        rw [hsi, ← hvl]
        refine List.ext_getElem (by simp) fun i a b => ?_
        simp [List.getD, a]
  · have hn2 : 2 ≤ vs.length := by omega
    refine kat_sortedK (b := false) F N hlS hn2 (by omega) ha1 ha2 ht ?_
    intro D kS e1 h' F' N' z1 z2
    have d1 := z2 _ (.head _)
    have d2 := z2 _ (.tail _ (.head _))
    refine keys_run (all := ts.map fun t => (toldK t).key) lam hS hC hO hcr (Nat.ne_of_lt z1) (Nat.ne_of_lt (Nat.lt_trans d1 z1)) (Nat.ne_of_lt (Nat.lt_trans d2 z1)) ?_ vs ts [] [] 0 h' s.toks ex G rg hok F' N' (off0 D kS z2 z1) q (fun _ _ z => z) .nil rfl
    intro ks e h2' tk2 ex2 G2 F2 N2 off2 q2 st2 rk
    have up2 : G2.StaysIn h2' := q2.up F2 N2 fun p hp => .tail _ (.tail _ (.tail _ (.tail _ hp)))
    have rk' := rk.up up2
    obtain ⟨fs, f1, f2, f3⟩ := key_tups rk'
    have hkl : ks.length = ts.length := by simpa using rk.length
    have hsi : sortIdx (ts.map fun t => (toldK t).key) = (kRun (fun i j => kLt ((ts.map fun t => (toldK t).key).getD i noKey) ((ts.map fun t => (toldK t).key).getD j noKey)) (kas_sort vs.length)).toList := by
      unfold sortIdx
      rw [if_neg (by rw [List.length_map]; exact h2), List.length_map, hvl]
    refine kat_kind (s := { s with heap := h2', toks := tk2 }) f1 (by omega) (T := .type "str") ?_ (by decide) ?_
    · intro v hv
      obtain ⟨x, t, rfl⟩ := f3 v hv
      exact Looks.of_pure rfl
    · have okn := kOk_n (n := vs.length) hn2 (by omega)
      refine kRun_wp (n := vs.length) (leaf := isPerm vs.length) (lt := fun i j => kLt ((ts.map fun t => (toldK t).key).getD i noKey) ((ts.map fun t => (toldK t).key).getD j noKey)) ?_ _ okn ?_
      · intro i j C hi hj hij hc
        have hi' : i < ts.length := hvl ▸ hi
        have hj' : j < ts.length := hvl ▸ hj
        have e1' : ks[i]? = some (ks.getD i Value.none) := by simp [List.getD, hkl, hi']
        have e2' : ks[j]? = some (ks.getD j Value.none) := by simp [List.getD, hkl, hj']
        have e3 : (ts.map fun t => (toldK t).key)[i]? = some ((ts.map fun t => (toldK t).key).getD i noKey) := by simp [List.getD, hi']
        have e4 : (ts.map fun t => (toldK t).key)[j]? = some ((ts.map fun t => (toldK t).key).getD j noKey) := by simp [List.getD, hj']
        have r1 := rk'.get i _ (keyD ((ts.map fun t => (toldK t).key).getD i noKey)) e1' (by rw [List.getElem?_map, e3]; rfl)
        have r2 := rk'.get j _ (keyD ((ts.map fun t => (toldK t).key).getD j noKey)) e2' (by rw [List.getElem?_map, e4]; rfl)
        refine key_lt (s := { s with heap := h2', toks := tk2 }) (Rd.key_inv r1) (Rd.key_inv r2) ?_ hc
        intro y
        have y2 : (ts.map fun t => (toldK t).key).getD i noKey = (ts.map fun t => (toldK t).key).getD j noKey := y
        rw [y2, ← e4] at e3
        exact hij ((List.getElem?_inj (by simpa using hi') hnd).mp e3)
      · intro p hp hpe
        rw [hpe] at hp
        rw [← hpe] at hsi
        simp only [isPerm, Bool.and_eq_true, beq_iff_eq, decide_eq_true_eq, List.all_eq_true] at hp
        rw [← hpe, ← hsi] at hp
        refine KatFin.intro F2 N2 (UpdF.head (fun p hp => ?_)) fun h3 c3 F3 N3 => ?_
        · simp only [List.mem_cons] at hp
          rcases hp with rfl | rfl | rfl | hp
          · exact Nat.ne_of_lt z1
          · exact Nat.ne_of_lt (Nat.lt_trans d1 z1)
          · exact Nat.ne_of_lt (Nat.lt_trans d2 z1)
          · exact fun y => off2 p hp (by simp [y])
        · refine KasFin.intro F3 N3 (UpdF.tail (Nat.ne_of_gt z1) (UpdF.head (fun p hp => ?_))) fun h4' c4 F4 N4 => ?_
          · simp only [List.mem_cons] at hp
            rcases hp with rfl | rfl | hp
            · exact Nat.ne_of_lt d1
            · exact Nat.ne_of_lt d2
            · exact fun y => off2 p hp (by simp [y])
          · exact tofin D kS _ (p.toList.map fun i => vs.getD i Value.none) c4 h4' tk2 ex2 G2 d1 d2 F4 N4 off2 q2 st2 (by rw [hsi]) (fun i hi => by have := hp.1.2 i hi; omega) (by omega)
end
end Mine
namespace Mine
section
variable {prog : Program} {w : World} {A : Around} {g : Heap} {L : Addr} {m : Str → Option Value} {env : Env}
open LCg in
/-- a comprehension without a test over any list -/
theorem comp_rest {elt : PySem.Expr} {x : Str} {scope : Scope} {cl : List (Str × Addr)} {s : Shared} {S : List (Addr × Obj) → Prop} {P : Nat → Value → Prop} {Fin : List Value → List (Addr × Obj) → Prop} (J : Nat → List Value → List (Addr × Obj) → Prop) {n : Nat}
    (fin : ∀ ys news, J n ys news → Fin ys news)
    (turn : ∀ i ys news v I oI C oC D m₂ h tk (E' : Value → Shared → Prop), i < n → J i ys news → P i v → NsObj oC m₂ → m₂ x = some v → Fr g L h m → News g L h ((I, oI) :: (C, oC) :: (D, lst ys) :: news) → Off3 I C D news → S news → ((@Ne Nat I C) ∧ (@Ne Nat I D) ∧ (@Ne Nat C D)) →
      wpAny (model prog w) A (eval elt (compEnvC scope cl C env)) (CompEnd g L m { s with heap := h, toks := tk } I oI C oC D (lst ys) S (fun y news' => J (i + 1) (ys ++ [y]) news')) E' { s with heap := h, toks := tk }) :
    ∀ k i ys news, i + k = n → S news → J i ys news → LCg.CompRest prog w A g L m env elt x scope cl s S P Fin k i ys news
  | 0, i, ys, news, hi, _, hj => by subst hi; exact fin ys news hj
  | k + 1, i, ys, news, hi, hS, hj => by
    intro v I oI C oC D m₂ h tk E' hP hC hx F N hoff hne
    have rc := fun ys' news' => comp_rest J fin turn k (i + 1) ys' news' (by omega)
    refine wpAny_mono (turn i ys news v I oI C oC D m₂ h tk E' (by omega) hj hP hC hx F N hoff hS hne) (fun y s'' hy => ?_) fun _ _ e => e
    obtain ⟨h', tk', news', e, F', N', o', S', j'⟩ := hy
    exact ⟨h', tk', news', e, F', N', o', S', rc _ _ S' j'⟩
end
end Mine
namespace Mine
noncomputable def noTold : Told := .d (Str.ofString "") (Str.ofString "")
noncomputable def Told.n3 : Told → Str
  | .a _ _ n _ => n
  | .d _ _ => Str.ofString ""
/-- the lot by rising keys -/
noncomputable def byK (ts : List Told) : List Told := (sortIdx (ts.map fun t => (toldK t).key)).map fun i => ts.getD i noTold
/-- what the law's element asks of its lot -/
structure Fit (ts : List Told) (inner : List PyData) : Prop where
  ok : ∀ t ∈ ts, t.ok
  four : ts.length ≤ 4
  nd : ((ts.map toldK).map KRow.key).Nodup
  ndL : ((listed ts).map KRow.key).Nodup
  shF : SeqAt.shaped (formD (Str.ofString "element") (.tuple [.str (Str.ofString "p:e"), .str (Str.ofString "u:1"), .str (Str.ofString "e")]) (Str.ofString "") (sortK (listed ts)) inner) = true
  shR : SeqAt.shaped (formD (Str.ofString "root") (.str (Str.ofString "")) (Str.ofString "") [] inner) = true
  ndS : ((sortK (listed ts)).map KRow.key).Nodup
  lenS : (sortK (listed ts)).length ≤ 4
  shL : SeqAt.shaped (.list ((listed ts).map kD)) = true
  ten : inner.length ≤ 10
  short : ∀ r ∈ sortK (listed ts), r.k2.length ≤ 1000
  end1 : elRows (((sortK (listed ts)).filter KRow.isA).map attrN) (((sortK (listed ts)).filter KRow.isN).map declN) = listed (byK ts)
  end2 : ((sortK (listed ts)).filter KRow.isA).map (fun r => PyData.str r.name) = ((byK ts).filter Told.isA).map fun t => PyData.str t.n3
  shE : SeqAt.shaped (.list ((listed (byK ts)).map kD)) = true
  shN : SeqAt.shaped (.list (((byK ts).filter Told.isA).map fun t => PyData.str t.n3)) = true
theorem RdA.pickT {h : Heap} {vs : List Value} {ts : List Told} (r : RdA h vs (ts.map toldD)) : ∀ {idx : List Nat}, (∀ i ∈ idx, i < ts.length) → RdA h (idx.map fun i => vs.getD i Value.none) ((idx.map fun i => ts.getD i noTold).map toldD)
  | [], _ => .nil
  | i :: idx, hi => by
    have h0 := hi i (.head _)
    have hl := r.length
    rw [List.length_map] at hl
    have hv : vs[i]? = some (vs.getD i Value.none) := by rw [List.getElem?_eq_getElem (by omega), List.getD_eq_getElem?_getD, List.getElem?_eq_getElem (by omega)]; rfl
    have ht : ts[i]? = some (ts.getD i noTold) := by rw [List.getElem?_eq_getElem (by omega), List.getD_eq_getElem?_getD, List.getElem?_eq_getElem (by omega)]; rfl
    exact .cons (r.get i _ _ hv (by rw [List.getElem?_map, ht]; rfl)) (RdA.pickT r fun j hj => hi j (.tail _ hj))
theorem byK_mem {ts : List Told} (hi : ∀ i ∈ sortIdx (ts.map fun t => (toldK t).key), i < ts.length) {t : Told} (h : t ∈ byK ts) : t ∈ ts := by
  obtain ⟨i, h1, rfl⟩ := List.mem_map.mp h
  have := hi i h1
  rw [List.getD_eq_getElem?_getD, List.getElem?_eq_getElem this]
  exact List.getElem_mem this
theorem filt_yes {α β : Type} {p : α → Bool} {f : α → β} {ts : List α} {i : Nat} {t : α} (h : ts[i]? = some t) (hp : p t = true) : ((ts.take (i + 1)).filter p).map f = ((ts.take i).filter p).map f ++ [f t] := by
  rw [take_snoc h, List.filter_append, List.map_append]
  simp [List.filter, hp]
theorem filt_no {α β : Type} {p : α → Bool} {f : α → β} {ts : List α} {i : Nat} {t : α} (h : ts[i]? = some t) (hp : p t = false) : ((ts.take (i + 1)).filter p).map f = ((ts.take i).filter p).map f := by
  rw [take_snoc h, List.filter_append, List.map_append]
  simp [List.filter, hp]
/-- two values that read as one datum -/
noncomputable def SameAt (h : Heap) (a b : Value) : Prop := ∃ d as bs, Reads h a d as ∧ Reads h b d bs ∧ SeqAt.shaped d = true
theorem eq_sameAt {prog : Program} {w : World} {A : Around} {E : Value → Shared → Prop} {s : Shared} {a b : Value} {Q : Value → Shared → Prop} (r : SameAt s.heap a b) (hu : A.units + 64 < cLine) (h : Q (.bool true) s) : wpAny (model prog w) A (compareOp .Eq a b) Q E s :=
  let ⟨_, _, _, ra, rb, hd⟩ := r; eq_same ra rb hd hu h
end Mine
namespace Mine
local macro_rules | `(tactic| walk_at "eval ListComp") => `(tactic| (k_here; k_dflt (refine LCt.ListComp_T (F₀ := by k_asm) (by with_unfolding_all rfl) (by decide) (by rfl) (by decide) (by rfl) ?_)))
local macro_rules | `(tactic| walk_at "subscriptTail") => `(tactic| (k_here; (with_reducible show wpAny _ _ (subscriptTail _ _ (Value.ref _) (Value.int _ _)) _ _ _); (with_unfolding_all refine' item_tup ?F ?l ?a ?b ?c ?_ ?d; (case F => k_asm); (case l => assumption); (case a => decide); (case b => decide); (case c => exact rfl); (case d => with_unfolding_all rfl); k_whole)))
local macro_rules | `(tactic| walk_at "compareOp Eq ref ref") => `(tactic| (k_here; (refine eq_sameAt ?a ?b ?_); (case a => assumption); (case b => exact deep_room (by assumption) (by decide)); k_whole))
local macro_rules | `(tactic| walk_at "m sub") => `(tactic| (intro p hp; repeat (first | exact hp | apply List.mem_cons_of_mem)))
local macro_rules | `(tactic| walk_at "m tree") => `(tactic| (refine' TreeAt.up (Gat.up ?q ?F ?N ?s) ?t; (case q => assumption); (case F => k_asm); (case N => k_asm); (case s => walk_at "m sub"); (case t => assumption)))
theorem inst_gat {g G h : Heap} {L x C dx : Addr} {ex news : List (Addr × Obj)} {m : Str → Option Value} {od : Obj} (q : Gat g L ex G) (F : Fr g L h m) (N : News g L h news) (hs : ∀ p ∈ ex, p ∈ news) (a : G.get? x = some (instObj C dx)) (b : G.get? dx = some od) : InstAt h x (instObj C dx) C (some od) :=
  ⟨q.up F N hs _ _ a, rfl, rfl, q.up F N hs _ _ b⟩
local macro_rules | `(tactic| k_inst) => `(tactic| (refine' inst_gat ?q ?F ?N ?s ?a ?b; (case q => assumption); (case F => k_asm); (case N => k_asm); (case s => walk_at "m sub"); (case a => assumption); (case b => assumption)))
local macro_rules | `(tactic| k_all) => `(tactic| assumption)
local macro_rules | `(tactic| walk_at "m st") => `(tactic| (refine' St.deep ?S ?G ?F ?n; (case S => assumption); (case G => assumption); (case F => k_asm); (case n => omega)))
local macro_rules | `(tactic| walk_at "m end") => `(tactic| (intro h' tk' u' k'; (have F' := fr_stay (by k_asm) k'); (have N' := news_stay (by k_asm) k'); k_sweep))
local macro_rules | `(tactic| walk_at "call ref") => `(tactic| (k_here; (with_reducible show wpAny _ _ (call (Value.ref 236) _ _) _ _ _); (refine' kind_at ?S ?t ?a ?b ?k ?_; (case S => walk_at "m st"); (case t => walk_at "m tree"); (case a => omega); (case b => assumption); (case k => assumption)); walk_at "m end"))
local macro_rules | `(tactic| walk_at "call ref") => `(tactic| (k_here; (with_reducible show wpAny _ _ (call (Value.ref 243) _ _) _ _ _); (refine' name_at ?S ?t ?a ?b ?k ?_; (case S => walk_at "m st"); (case t => walk_at "m tree"); (case a => omega); (case b => assumption); (case k => assumption)); walk_at "m end"))
local macro_rules | `(tactic| walk_at "call ref") => `(tactic| (k_here; (with_reducible show wpAny _ _ (call (Value.ref 250) _ _) _ _ _); (refine' uri_at ?S ?t ?a ?b ?k ?_; (case S => walk_at "m st"); (case t => walk_at "m tree"); (case a => omega); (case b => assumption); (case k => assumption)); walk_at "m end"))
local macro_rules | `(tactic| walk_at "call ref") => `(tactic| (k_here; (with_reducible show wpAny _ _ (call (Value.ref 257) _ _) _ _ _); (refine' local_at ?S ?t ?a ?b ?k ?_; (case S => walk_at "m st"); (case t => walk_at "m tree"); (case a => omega); (case b => assumption); (case k => assumption)); walk_at "m end"))
local macro_rules | `(tactic| walk_at "call ref") => `(tactic| (k_here; (with_reducible show wpAny _ _ (call (Value.ref 264) _ _) _ _ _); (refine' value_at ?S ?t ?a ?b ?k ?_; (case S => walk_at "m st"); (case t => walk_at "m tree"); (case a => omega); (case b => assumption); (case k => assumption)); walk_at "m end"))
local macro_rules | `(tactic| walk_at "call type:tuple") => `(tactic| (k_here; (with_reducible show wpAny _ _ (call (Value.type _) [Value.ref _]) _ _ _); k_dflt (refine' kde_tupleOf ?k1 ?k2 ?k3 ?k4 ?k5 ?_; (case k1 => k_asm); (case k2 => k_asm); (case k3 => first | exact News.isList (by k_asm) (by k_mem) | (refine' ⟨_, Fr.keep ?F _ _ ?e, ?x, _, ?y⟩; (case F => k_asm); (case e => assumption); (case x => exact rfl); (case y => exact rfl))); (case k4 => first | assumption | (simp; omega)); (case k5 => exact rfl); k_whole); intro D' h' F' N' l1; (try k_lt l1); (try k_sweep)))
theorem news_sub {g h : Heap} {L : Addr} {a b : List (Addr × Obj)} (N : News g L h b) (hs : ∀ p ∈ a, p ∈ b) : News g L h a := fun p hp => N p (hs p hp)
section
variable {prog : Program} {w : World} {A : Around} {s : Shared} {H : Heap} {Q : Value → Shared → Prop} {E : Value → Shared → Prop} {T : TRef} {xs : List RRef} {ds : List NRow}

set_option maxHeartbeats 8000000 in
theorem law_el_c {l il : Addr} {vs ivs : List Value} {n1 n2 : Nat} {ts : List Told} {inner : List PyData} {ps : Array Value} (S : St 520 w A s.heap H) (hl : s.heap.get? l = some (listOf vs.toArray n1)) (r : RdA s.heap vs (ts.map toldD)) (fit : Fit ts inner)
    (hil : s.heap.get? il = some (listOf ivs.toArray n2)) (ri : RdA s.heap ivs inner) (ht0 : s.heap.get? 369 = some (tabObj ps)) (htH : H.get? 369 = none) (hcode : CodeHd H 371 369) (tab : ps = #[] ∨ ∃ c', ps = tab1 ⟨233, 30, 233, 60⟩ c' ∧ s.heap.CodeRec (.ref c') (Str.ofString "_law_element_right.<locals>.<lambda>"))
    (q : ∀ c' h' tk', Keep [369] s.heap h' → h'.get? 369 = some (tabObj (tab1 ⟨233, 30, 233, 60⟩ c')) → h'.CodeRec (.ref c') (Str.ofString "_law_element_right.<locals>.<lambda>") → (s.heap.get? c' = none ∨ ps = tab1 ⟨233, 30, 233, 60⟩ c') → Q (.bool true) { s with heap := h', toks := tk' }) :
    wpAny (model prog w) A (call (.ref 372) [.ref l, .ref il]) Q E s := by
  obtain ⟨hok, h4, hnd, hndL, hshF, hshR, hndS, hlenS, hshL, hin, hshS, hEnd1, hEnd2, hshE, hshN⟩ := fit
  refine wpAny_call ?_
  refine' enterC [(369, tabObj ps)] [(Str.ofString "lot", .ref l), (Str.ofString "inner", .ref il)] (Str.ofString "tree") S (by omega) (by intro q hq; rw [List.mem_singleton.mp hq]; exact ⟨ht0, htH⟩) ?ho ?hcd ?hbind ?hloc ?hcs ?h ?hco ?hgen ?hk ?hb1 ?hb2
  case ho => k_is
  case hcd => k_is
  case hbind => exact rfl
  case hloc => exact locs rfl
  case hcs => intro k; exact rfl
  case hco => exact rfl
  case hgen => exact rfl
  case hk => exact rfl
  case hb1 => intro k; unfold bindL; rw [if_pos (by exact rfl)]; unfold bindL; rw [if_pos (by exact rfl)]; unfold bindL; exact bind2 _ _ _ _
  case hb2 => intro k; unfold bindC; rw [if_pos (by exact rfl)]; unfold bindC; rw [if_pos (by exact rfl)]; unfold bindC; exact rfl
  intro g L h₁ tk₁ oC mean mg mb up dn nL hoC F N lt0 X Tp HG
  have hcodeG : CodeHd g 371 369 := hcode.keeps HG
  have l369 : 369 < L := lt0 _ (.head _)
  have hhA := S.hh
  have upk : Keep [369] s.heap g := fun b o e n => up b o e (by simpa using n)
  have gl := up _ _ hl (by simp; rintro rfl; rw [hl] at ht0; cases ht0)
  have gil := up _ _ hil (by simp; rintro rfl; rw [hil] at ht0; cases ht0)
  dsimp only
  k_steps
  rename Fr _ _ _ _ => F0
  rename News _ _ _ _ => N0
  show wpAny _ _ (call (.ref 316) []) _ _ _
  refine tree_c (S.to HG F0 (by show A.depth + 1 ≤ 580; have := S.dp; omega) (by show A.units + 3 ≤ 5800; have := S.un; omega) S.hh) ?_
  intro T h2 ntk2 k2 t2 fr2
  have F2 := fr_stay F0 k2
  have F0k := F0.keep
  have N2 := news_stay N0 k2
  have own2 : ∀ b ∈ [L + 1, 369], g.get? b = none := by intro b hb; simp only [List.mem_cons, List.not_mem_nil, or_false] at hb; rcases hb with rfl | rfl; exact (N0 _ (.head _)).2.2; exact (N0 _ (.tail _ (.head _))).2.2
  obtain ⟨G, ex, gq, Nx, no2, _, hG⟩ := gather F2 [L + 1, 369] own2
  have frO : ∀ b ∈ [T.t, T.d, T.l], b ≠ L ∧ b ∉ [L + 1, 369] := fun b hb => by
    have fb := fr2 b hb
    refine ⟨fun z => ?_, fun z => ?_⟩
    · obtain ⟨oL, _, _, hL, _⟩ := F0.ns
      rw [z, hL] at fb
      cases fb
    · simp only [List.mem_cons, List.not_mem_nil, or_false] at z
      rcases z with z | z
      · rw [z, (N0 _ (.head _)).1] at fb; cases fb
      · rw [z, (N0 _ (.tail _ (.head _))).1] at fb; cases fb
  have tG : TreeAt G T [] [] := t2.hide fun b o e hb => hG b o e (frO b (by simpa [objs] using hb)).1 (frO b (by simpa [objs] using hb)).2
  have N3 : News g L h2 ((L + 1, oC) :: (369, tabObj ps) :: ex) := fun p hp => by
    simp only [List.mem_cons] at hp
    rcases hp with rfl | rfl | hp
    · exact N2 _ (.head _)
    · exact N2 _ (.tail _ (.head _))
    · exact Nx p hp
  have exC : ∀ p ∈ ex, p.1 ≠ L + 1 := fun p hp z => no2 p hp (by simp [z])
  have exT : ∀ p ∈ ex, p.1 ≠ 369 := fun p hp z => no2 p hp (by simp [z])
  have g1 := tG.inst
  have g2 := tG.dict
  clear F0 N0 N2 Nx no2 k2 t2
  k_steps
  refine stCN (own := []) F2 N3 rfl hoC (fun p hp => nomatch hp) (by intro p hp; rcases List.mem_cons.mp hp with rfl | hp; exact Nat.ne_of_lt (Nat.lt_succ_of_lt l369); exact exC p hp) ?_
  intro h3 oC' F3 N4 hoC'
  rw [List.nil_append] at N4
  clear F2 N3 hoC
  have hoff : OwnOff [(L + 1, oC'), (369, tabObj ps)] (ex.map (·.1)) := by
    intro p hp b hb z
    obtain ⟨r', hr', rfl⟩ := List.mem_map.mp hb
    simp only [List.mem_cons, List.not_mem_nil, or_false] at hp
    rcases hp with rfl | rfl
    · exact exC r' hr' z.symm
    · exact exT r' hr' z.symm
  have gn : ∀ b ∈ objs T [], g.get? b = none := fun b hb => by
    cases q : g.get? b with
    | none => rfl
    | some o => have := fr2 b (by simpa [objs] using hb); rw [F0k b o q] at this; cases this
  clear exC exT frO own2 fr2
  k_steps
  rename Fr _ _ _ _ => F5
  rename News _ _ _ _ => N5
  show wpAny _ _ (call (.ref 166) [.ref T.t]) _ _ _
  refine new_root_c (S.to HG F5 (by show A.depth + 1 ≤ 560; have := S.dp; omega) (by show A.units + 3 ≤ 5600; have := S.un; omega) S.hh) (tG.up (gq.up F5 N5 (by walk_at "m sub"))) (by simp) (H_none HG (gn _ (by simp [objs]))) ?_
  intro x0 h6 ntk6 u6 k6 t6 fr6
  obtain ⟨G6, ex6, gq6, tG6, F6, N6, hoff6, kG6, gn6⟩ := gather_tree (own := [(L + 1, oC'), (369, tabObj ps)]) F5 N5 hoff gq tG gn k6 (by intro b hb; rw [List.mem_singleton.mp hb]; simp [objs]) t6 fr6
  simp only [List.nil_append, List.cons_append] at N6 tG6
  clear F5 N5 k6 t6 fr6 gq tG g1 g2 gn hoff kG6
  have g1 := tG6.inst
  have g2 := tG6.dict
  k_steps
  rename Fr _ _ _ _ => F7
  rename News _ _ _ _ => N7
  obtain ⟨el, hel⟩ : ∃ d₀ : NRow, d₀ = ⟨Str.ofString "element", Str.ofString "p:e", Str.ofString "u:1", Str.ofString "e", Str.ofString "", [], [], []⟩ := ⟨_, rfl⟩
  refine add_element_c (d := ⟨Str.ofString "root", Str.ofString "", Str.ofString "", Str.ofString "", Str.ofString "", [], [], []⟩) (y := x0) (S.to HG F7 (by show A.depth + 1 ≤ 550; have := S.dp; omega) (by show A.units + 3 ≤ 5500; have := S.un; omega) S.hh) (tG6.up (gq6.up F7 N7 (by walk_at "m sub"))) (by simp) (fun b hb => H_none HG (gn6 b (lists_objs hb))) (by simp) (by simp) (by simp) (.inl rfl) (by simp) ?_
  intro x1 h8 ntk8 u8 k8 t8 fr8
  obtain ⟨G8, ex8, gq8, tG8, F8, N8, hoff8, kG8, gn8⟩ := gather_tree (own := [(L + 1, oC'), (369, tabObj ps)]) F7 N7 hoff6 gq6 tG6 gn6 k8 (by intro b hb; simp only [List.mem_cons, List.not_mem_nil, or_false] at hb; rcases hb with rfl | rfl <;> simp [objs, RRef.lists]) t8 fr8
  rw [← hel] at tG8
  clear F7 N7 k8 t8 fr8 gq6 tG6 g1 g2 gn6 hoff6 kG8
  simp only [List.nil_append, List.cons_append] at N8 tG8 gn8
  obtain ⟨r0, ds8, hds8, hr0k, hr0, hr1⟩ : ∃ (r0 : NRow) (ds8 : List NRow), ds8 = ([(⟨Str.ofString "root", Str.ofString "", Str.ofString "", Str.ofString "", Str.ofString "", [], [], []⟩ : NRow)].set (((([] : List RRef).length : Nat) : Int)).toNat ⟨Str.ofString "root", Str.ofString "", Str.ofString "", Str.ofString "", Str.ofString "", [.int [x0].length u8], [], []⟩ ++ [el]) ∧ r0.kind = Str.ofString "root" ∧ ds8[0]? = some r0 ∧ ds8[1]? = some el := ⟨_, _, rfl, rfl, rfl, rfl⟩
  rw [← hds8] at tG8
  clear hds8
  have pu8 : Put G8 T [x0, x1] ds8 1 x1 el el [] := ⟨tG8, rfl, hr1, rfl, by rw [hel], by rw [hel]; exact .nil, by rw [hel]; exact .nil⟩
  have g1 := tG8.inst
  have g2 := tG8.dict
  k_steps
  rename Fr _ _ _ _ => F9
  rename News _ _ _ _ => N9
  refine For_invVF F9 rfl rfl ?_
  k_steps
  rename Fr _ _ _ _ => F10
  rename News _ _ _ _ => N10
  have rg : RdA g vs (ts.map toldD) := r.upT fun b vs n e => upk b _ e (by intro z; rw [List.mem_singleton.mp z, ht0] at e; injection e with e; have := congrArg Obj.cls e; cases this)
  have hvl : vs.length = ts.length := by simpa using rg.length
  refine loop_bs (fun ex : List (Addr × Obj) => (L + 1, oC') :: (369, tabObj ps) :: ex) (fun j ex => ∃ G xs' ds' d', Gat g L ex G ∧ Put G T xs' ds' 1 x1 d' el ((ts.take j).map toldK) ∧ OwnOff [(L + 1, oC'), (369, tabObj ps)] (ex.map (·.1)) ∧ (∀ b ∈ objs T xs', g.get? b = none) ∧ xs'.length = 2 + j ∧ ds'[0]? = some r0)
    ex8 [Str.ofString "told"] (by decide +kernel) S.hh ⟨_, gl, rfl, _, rfl⟩ F10 N10 ⟨G8, _, _, _, gq8, pu8, hoff8, gn8, rfl, hr0⟩ ?turn ?done
  case turn =>
    intro j v ex m₁ h tk own hv hP hoff F5 N5
    obtain ⟨G, xs', ds', d', gq, pu, hoj, gnj, hxl, hr0⟩ := hP
    have hit : j < ts.length := hvl ▸ (List.getElem?_eq_some_iff.mp hv).1
    obtain ⟨t, ht⟩ : ∃ t, ts[j]? = some t := ⟨_, List.getElem?_eq_getElem hit⟩
    have rt := rg.get j v (toldD t) hv (by simp [ht])
    have hokt := hok t (List.mem_of_getElem? ht)
    have g1 := pu.tree.inst
    have g2 := pu.tree.dict
    clear F10 N10 pu8 gq8
    cases t with
    | a u1 l1 nn1 w1 =>
      have hnew : (toldK (.a u1 l1 nn1 w1)).key ∉ ((ts.take j).map toldK).map KRow.key := by
        rw [List.map_take]
        exact key_new hnd (by simp [ht])
      clear hv
      k_steps
      rename Fr _ _ _ _ => F6'
      rename News _ _ _ _ => N6'
      refine law_put_a (e := 1) (S.to HG F6' (by show A.depth + 1 ≤ 550; have := S.dp; omega) (by show A.units + 3 ≤ 5500; have := S.un; omega) S.hh) (rt.up F6'.keep) (pu.up (gq.up F6' N6' (fun p hp => List.mem_append_left _ (List.mem_cons_of_mem _ (List.mem_cons_of_mem _ hp))))) (by omega) (fun b hb => H_none HG (gnj b (lists_objs hb))) hokt hnew (by simp; omega) ?_
      intro x d' n' h' tk' k' pu' fr'
      obtain ⟨G', ex', gq', tG', F7', N7', hoff', kG', gn'⟩ := gather_tree (own := [(L + 1, oC'), (369, tabObj ps)] ++ own) F6' (fun p hp => N6' p (mm1 hp)) (by
        intro p hp b hb
        rcases List.mem_append.mp hp with hp | hp
        · exact hoj p hp b hb
        · exact hoff p hp b (by simp only [List.map_cons, List.mem_cons]; exact .inr (.inr hb))) gq pu.tree gnj k' (by
          intro b hb
          simp only [List.mem_cons, List.not_mem_nil, or_false] at hb
          rcases hb with rfl | rfl
          · simp [objs]
          · exact lists_objs (mem_lists (List.mem_of_getElem? pu.hy) (by simp [RRef.lists]))) pu'.tree fr'
      have pu2 : Put G' T (xs' ++ [x]) (ds'.set 1 d' ++ [n']) 1 x1 d' el ((ts.take (j + 1)).map toldK) := by
        rw [take_snoc ht, List.map_append]
        exact ⟨tG', pu'.hy, pu'.hd, pu'.same, pu'.kind, pu'.ha, pu'.hb⟩
      have hr0' : (ds'.set 1 d' ++ [n'])[0]? = some r0 := set_app_get (by decide) hr0
      have hxl' : (xs' ++ [x]).length = 2 + (j + 1) := by rw [List.length_append, hxl]; rfl
      clear F6' N6' k' fr' pu' pu gq tG'
      k_steps
      rename Fr _ _ _ _ => F8'
      rename News _ _ _ _ => N8'
      refine ⟨ex', _, _, _, _, rfl, ⟨G', _, _, _, gq', pu2, (fun p hp b hb => hoff' p (List.mem_append_left _ hp) b hb), gn', hxl', hr0'⟩, F8', N8', (fun p hp => mm2 hp), (fun p hp => mm3 hp), ?_, ?_⟩
      · intro p hp b hb
        simp only [List.map_cons, List.mem_cons] at hb
        rcases hb with rfl | rfl | hb
        · exact hoff p hp _ (by simp)
        · exact hoff p hp _ (by simp)
        · exact hoff' p (List.mem_append_right _ hp) b hb
      · intro z hz
        have hz' := hz
        simp only [List.contains_cons, List.contains_nil, Bool.or_false, beq_eq_false_iff_ne, ne_eq] at hz'
        simp [hz']
    | d p1 u1 =>
      have hnew : (toldK (.d p1 u1)).key ∉ ((ts.take j).map toldK).map KRow.key := by
        rw [List.map_take]
        exact key_new hnd (by simp [ht])
      clear hv
      k_steps
      rename Fr _ _ _ _ => F6'
      rename News _ _ _ _ => N6'
      refine law_put_d (e := 1) (S.to HG F6' (by show A.depth + 1 ≤ 550; have := S.dp; omega) (by show A.units + 3 ≤ 5500; have := S.un; omega) S.hh) (rt.up F6'.keep) (pu.up (gq.up F6' N6' (fun p hp => List.mem_append_left _ (List.mem_cons_of_mem _ (List.mem_cons_of_mem _ hp))))) (by omega) (fun b hb => H_none HG (gnj b (lists_objs hb))) hokt hnew (by simp; omega) ?_
      intro x d' n' h' tk' k' pu' fr'
      obtain ⟨G', ex', gq', tG', F7', N7', hoff', kG', gn'⟩ := gather_tree (own := [(L + 1, oC'), (369, tabObj ps)] ++ own) F6' (fun p hp => N6' p (mm1 hp)) (by
        intro p hp b hb
        rcases List.mem_append.mp hp with hp | hp
        · exact hoj p hp b hb
        · exact hoff p hp b (by simp only [List.map_cons, List.mem_cons]; exact .inr (.inr hb))) gq pu.tree gnj k' (by
          intro b hb
          simp only [List.mem_cons, List.not_mem_nil, or_false] at hb
          rcases hb with rfl | rfl
          · simp [objs]
          · exact lists_objs (mem_lists (List.mem_of_getElem? pu.hy) (by simp [RRef.lists]))) pu'.tree fr'
      have pu2 : Put G' T (xs' ++ [x]) (ds'.set 1 d' ++ [n']) 1 x1 d' el ((ts.take (j + 1)).map toldK) := by
        rw [take_snoc ht, List.map_append]
        exact ⟨tG', pu'.hy, pu'.hd, pu'.same, pu'.kind, pu'.ha, pu'.hb⟩
      have hr0' : (ds'.set 1 d' ++ [n'])[0]? = some r0 := set_app_get (by decide) hr0
      have hxl' : (xs' ++ [x]).length = 2 + (j + 1) := by rw [List.length_append, hxl]; rfl
      clear F6' N6' k' fr' pu' pu gq tG'
      k_steps
      rename Fr _ _ _ _ => F8'
      rename News _ _ _ _ => N8'
      refine ⟨ex', _, _, _, _, rfl, ⟨G', _, _, _, gq', pu2, (fun p hp b hb => hoff' p (List.mem_append_left _ hp) b hb), gn', hxl', hr0'⟩, F8', N8', (fun p hp => mm2 hp), (fun p hp => mm3 hp), ?_, ?_⟩
      · intro p hp b hb
        simp only [List.map_cons, List.mem_cons] at hb
        rcases hb with rfl | rfl | hb
        · exact hoff p hp _ (by simp)
        · exact hoff p hp _ (by simp)
        · exact hoff' p (List.mem_append_right _ hp) b hb
      · intro z hz
        have hz' := hz
        simp only [List.contains_cons, List.contains_nil, Bool.or_false, beq_eq_false_iff_ne, ne_eq] at hz'
        simp [hz']
  case done =>
    intro ex m₁ h tk hP F5 N5
    obtain ⟨G, xs', ds', d', gq, pu, hoj, gnj, hxl, hr0⟩ := hP
    rw [hvl, List.take_length] at pu
    have g1 := pu.tree.inst
    have g2 := pu.tree.dict
    clear F10 N10 pu8 gq8
    k_steps
    rename Fr _ _ _ _ => F11
    rename News _ _ _ _ => N11
    refine law_listed_c (S.to HG F11 (by show A.depth + 1 ≤ 570; have := S.dp; omega) (by show A.units + 3 ≤ 5700; have := S.un; omega) S.hh) (F11.keep _ _ gl) (rg.up F11.keep) hok h4 ?_
    intro lr vsr er h12 ntk12 k12 nfr hlr rr
    have F12 := fr_stay F11 k12
    obtain ⟨G12, ex12, gq12, N12, hoff12, st12, hG12⟩ := gather_same (own := [(L + 1, oC'), (369, tabObj ps)]) F11 N11 hoj gq k12 F12
    have e12 := hG12 _ _ hlr (off_of F11 nfr).1 (new_off N11 nfr)
    have rr12 : RdA G12 vsr ((listed ts).map kD) := rr.upT fun b vs n e => hG12 b _ e (tup_ne_L F12 e) (tup_off N12 hoC' e)
    have pu12 := pu.up st12
    clear g1 g2 F11 N11 gq pu hoj k12 hlr rr hG12 st12 nfr
    have g1 := pu12.tree.inst
    have g2 := pu12.tree.dict
    simp only [List.nil_append, List.cons_append] at N12
    k_steps
    rename Fr _ _ _ _ => F13
    rename News _ _ _ _ => N13
    have hal := pu12.ha.length
    have hbl := pu12.hb.length
    have hA := pu12.at_len
    have hB := pu12.ns_len
    have hlt4 : (ts.map toldK).length ≤ 4 := by rw [List.length_map]; exact h4
    refine rows_of_c (S.to HG F13 (by show A.depth + 1 ≤ 580; have := S.dp; omega) (by show A.units + 3 ≤ 5800; have := S.un; omega) S.hh) (pu12.tree.up (gq12.up F13 N13 (by walk_at "m sub"))) (by simp) (show ds'[1]? = some d' from pu12.hd) pu12.ha pu12.hb (by omega) (short_of hok) ?_
    intro l14 vs14 e14 h14 ntk14 k14 nf14 hl14 rr14
    rw [elRows_D, el_listed hok] at rr14
    have F14 := fr_stay F13 k14
    have N14 := news_stay N13 k14
    have st14 := gq12.up F14 N14 (by walk_at "m sub")
    clear F13 N13
    k_steps
    rename Fr _ _ _ _ => F15
    rename News _ _ _ _ => N15
    refine ne_same (d := .list ((listed ts).map kD)) (reads_lst hl14 rr14) (reads_lst (st14 _ _ e12) (rr12.up st14)) hshL (deep_room S (by decide)) ?_
    clear hl14 rr14 st14 k14 nf14
    k_steps
    rename Fr _ _ _ _ => F16
    rename News _ _ _ _ => N16
    have hlen4 : (listed ts).length ≤ 4 := Nat.le_trans (listed_length ts) h4
    refine sorted_rows F16 N16 ⟨_, gq12.up F16 N16 (by walk_at "m sub") _ _ e12, rfl, _, rfl⟩ (rr12.up (gq12.up F16 N16 (by walk_at "m sub"))).rowsV (fun h' F' N' => (rr12.up (gq12.up F' N' (by walk_at "m sub"))).rowsV) hndL (by rw [List.length_map]; exact hlen4) ?_ ?_
    · have := S.un
      show A.units + 5 < cLine
      exact Nat.lt_of_le_of_lt (Nat.add_le_add_right this 5) (by decide)
    intro D16 c16 h16 F17 N17 z17 p1 p2 p3
    clear F16 N16
    have hsz1 : ((sortIdx ((listed ts).map KRow.key)).map fun i => vsr.getD i Value.none).toArray.size ≤ 16384 := by simp at p3 ⊢; omega
    have rig : RdA g ivs inner := ri.upT fun b vs n e => upk b _ e (by intro z; rw [List.mem_singleton.mp z, ht0] at e; injection e with e; have := congrArg Obj.cls e; cases this)
    have hil2 : ivs.length = inner.length := rig.length
    have hsz2 : ivs.toArray.size ≤ 16384 := by simp; omega
    k_steps
    rename Fr _ _ _ _ => F18
    rename News _ _ _ _ => N18
    have st18 := gq12.up F18 N18 (by walk_at "m sub")
    have rform : Rd _ (.ref _) (formD (Str.ofString "element") (.tuple [.str (Str.ofString "p:e"), .str (Str.ofString "u:1"), .str (Str.ofString "e")]) (Str.ofString "") (sortK (listed ts)) inner) :=
      Rd.tup (vs := [_, _, _, _, _]) (N18.get (.head _)) (.cons .str (.cons (.tup (vs := [_, _, _]) (N18.get (by k_mem)) (.cons .str (.cons .str (.cons .str .nil)))) (.cons .str (.cons (.tup (N18.get (by k_mem)) ((rr12.pick (by simpa using p2)).up st18)) (.cons (.tup (N18.get (by k_mem)) (rig.up F18.keep)) .nil)))))
    have N18r : News g _ _ ([(L + 1, oC'), (369, tabObj ps)] ++ ex12) := news_sub N18 (by walk_at "m sub")
    obtain ⟨G18, ex18, gq18, N19, hoff18, stG, hG18⟩ := gather_same (own := [(L + 1, oC'), (369, tabObj ps)]) F18 N18r hoff12 gq12 (Keep.refl _ _) F18
    have rG18 := rform.upT fun b vs n e => hG18 b _ e (tup_ne_L F18 e) (tup_off N18r hoC' e)
    have pu18 := pu12.up stG
    clear g1 g2 N18 N18r rform st18 hG18 stG gq12 pu12 hoff12 e12 rr12 hsz1 p1 p2 p3 z17 F12 N12
    have g1 := pu18.tree.inst
    have g2 := pu18.tree.dict
    simp only [List.nil_append, List.cons_append] at N19
    refine one_element_c (S.to HG F18 (by show A.depth + 1 ≤ 570; have := S.dp; omega) (by show A.units + 3 ≤ 5700; have := S.un; omega) S.hh) (pu18.tree.up (gq18.up F18 N19 (by walk_at "m sub"))) (by simp) (show ds'[1]? = some d' from pu18.hd) pu18.kind pu18.ha pu18.hb (short_of hok) (by rw [el_listed hok]; exact hndL) (by rw [el_listed hok]; exact hlen4) (F18.keep _ _ gil) (rig.up F18.keep) (by omega) ?_
    intro v20 h20 ntk20 k20 r20
    rw [el_listed hok, show d'.name = Str.ofString "p:e" by rw [pu18.same, hel], show d'.uri = Str.ofString "u:1" by rw [pu18.same, hel], show d'.loc = Str.ofString "e" by rw [pu18.same, hel]] at r20
    have F20 := fr_stay F18 k20
    have N20 := news_stay N19 k20
    clear F18 N19 k20
    k_steps
    rename Fr _ _ _ _ => F21
    rename News _ _ _ _ => N21
    refine ne_same r20.reads (rG18.up (gq18.up F21 N21 (by walk_at "m sub"))).reads hshF (deep_room S (by decide)) ?_
    clear r20
    k_steps
    rename Fr _ _ _ _ => F22
    rename News _ _ _ _ => N22
    refine one_root_c (S.to HG F22 (by show A.depth + 1 ≤ 570; have := S.dp; omega) (by show A.units + 3 ≤ 5700; have := S.un; omega) S.hh) (pu18.tree.up (gq18.up F22 N22 (by walk_at "m sub"))) (by simp) (show ds'[0]? = some r0 from hr0) hr0k (F22.keep _ _ gil) (rig.up F22.keep) (by omega) ?_
    intro v23 h23 ntk23 k23 r23
    have F23 := fr_stay F22 k23
    obtain ⟨G23, ex23, gq23, N23, hoff23, stG, hG23⟩ := gather_same (own := [(L + 1, oC'), (369, tabObj ps)]) F22 N22 hoff18 gq18 k23 F23
    have rG23 := r23.upT fun b vs n e => hG23 b _ e (tup_ne_L F23 e) (tup_off (news_stay N22 k23) hoC' e)
    have rform := rG18.up stG
    have pu23 := pu18.up stG
    clear g1 g2 F22 N22 gq18 hoff18 k23 r23 hG23 stG rG18 pu18
    have g1 := pu23.tree.inst
    have g2 := pu23.tree.dict
    simp only [List.nil_append, List.cons_append] at N23
    k_steps
    rename Fr _ _ _ _ => F24
    rename News _ _ _ _ => N24
    refine ne_same (rG23.up (gq23.up F24 N24 (by walk_at "m sub"))).reads (Rd.tup (vs := [_, _, _, _, _]) (N24.get (.head _)) (.cons .str (.cons .str (.cons .str (.cons (.tup (vs := []) (N24.get (by k_mem)) .nil) (.cons (.tup (N24.get (by k_mem)) (rig.up F24.keep)) .nil)))))).reads hshR (deep_room S (by decide)) ?_
    k_steps
    rename Fr _ _ _ _ => F25
    rename News _ _ _ _ => N25
    have N25r : News g _ _ ([(L + 1, oC'), (369, tabObj ps)] ++ ex23) := news_sub N25 (by walk_at "m sub")
    have hdch : d'.ch = [] := by rw [pu23.same, hel]
    refine add_node_element_c (d := d') (y := x1) (S.to HG F25 (by show A.depth + 1 ≤ 540; have := S.dp; omega) (by show A.units + 3 ≤ 5400; have := S.un; omega) S.hh) (pu23.tree.up (gq23.up F25 N25 (by walk_at "m sub"))) (by rw [hxl, hvl]; omega) (fun b hb => H_none HG (gnj b (lists_objs hb))) (by simp) pu23.hd pu23.hy (.inr pu23.kind) (by rw [hdch]; simp) (rform.up (gq23.up F25 N25 (by walk_at "m sub"))) hndS hlenS ?_
    intro x h26 ntk26 u26 xs2 ds2 d2 k26 pu2 ot
    obtain ⟨G26, ex26, gq26, tG26, F26, N26, hoff26, kG26, gn26⟩ := gather_any (own := [(L + 1, oC'), (369, tabObj ps)]) F25 N25r hoff23 gq23 pu23.tree gnj k26 (by
      intro b hb
      simp only [List.mem_cons, List.not_mem_nil, or_false] at hb
      rcases hb with rfl | rfl
      · simp [objs]
      · exact lists_objs (mem_lists (List.mem_of_getElem? pu23.hy) (by simp [RRef.lists]))) pu2.tree ot.newO
    have pu26 : Put G26 T xs2 ds2 xs'.length x d2 ⟨Str.ofString "element", Str.ofString "p:e", Str.ofString "u:1", Str.ofString "e", Str.ofString "", [], [], []⟩ (sortK (listed ts)) := ⟨tG26, pu2.hy, pu2.hd, pu2.same, pu2.kind, pu2.ha, pu2.hb⟩
    obtain ⟨de, hde, hdec⟩ : ∃ de : NRow, ds2[1]? = some de ∧ de.ch = [.int xs'.length u26] := ⟨_, ot.rows 1 _ (by rw [hxl]; omega) (set_app_self pu23.hd), by show d'.ch ++ _ = _; rw [hdch]; rfl⟩
    have hn2 := pu26.hd
    have hkk := pu26.kind
    have hnm : d2.name = Str.ofString "p:e" := by rw [pu26.same]
    have hur : d2.uri = Str.ofString "u:1" := by rw [pu26.same]
    have hlo : d2.loc = Str.ofString "e" := by rw [pu26.same]
    have hch2 : d2.ch = [] := by rw [pu26.same]
    clear g1 g2 F25 N25 N25r gq23 rform hoff23 k26 pu2 ot pu23 rG23 kG26
    have tG := pu26.tree
    have g1 := tG.inst
    have g2 := tG.dict
    simp only [List.nil_append, List.cons_append] at N26
    k_steps
    rename Fr _ _ _ _ => F27
    rename News _ _ _ _ => N27
    refine children_c (S.to HG F27 (by show A.depth + 1 ≤ 590; have := S.dp; omega) (by show A.units + 3 ≤ 5900; have := S.un; omega) S.hh) (tG.up (gq26.up F27 N27 (by walk_at "m sub"))) (by simp) (show ds2[1]? = some de from hde) ?_
    intro l28 e28 h28 ntk28 k28 nf28 hl28
    rw [hdec] at hl28
    have F28 := fr_stay F27 k28
    have N28 := news_cons hl28 (off_of F27 nf28).1 (off_of F27 nf28).2 (news_stay N27 k28)
    clear F27 N27 k28 hl28
    k_steps
    rename Fr _ _ _ _ => F29
    rename News _ _ _ _ => N29
    refine ne_same (d := .list [.int xs'.length]) (reads_list_at (N29.get (.tail _ (.head _))) rfl rfl (ReadsAll.cons (Reads.int _ _) .nil)) (reads_list_at (N29.get (.head _)) rfl rfl (ReadsAll.cons (Reads.int _ _) .nil)) (by simp [SeqAt.shaped, PyData.canLay0, PyData.canLayAll0, PyData.depth, PyData.depthAll]) (deep_room S (by decide)) ?_
    k_steps
    rename Fr _ _ _ _ => F30
    rename News _ _ _ _ => N30
    refine children_c (S.to HG F30 (by show A.depth + 1 ≤ 590; have := S.dp; omega) (by show A.units + 3 ≤ 5900; have := S.un; omega) S.hh) (tG.up (gq26.up F30 N30 (by walk_at "m sub"))) (by simp) (show ds2[xs'.length]? = some d2 from hn2) ?_
    intro l31 e31 h31 ntk31 k31 nf31 hl31
    rw [hch2] at hl31
    have F31 := fr_stay F30 k31
    have N31 := news_cons hl31 (off_of F30 nf31).1 (off_of F30 nf31).2 (news_stay N30 k31)
    clear F30 N30 k31 hl31
    k_steps
    rename Fr _ _ _ _ => F32
    rename News _ _ _ _ => N32
    refine ne_same (d := .list []) (reads_list_at (N32.get (.tail _ (.head _))) rfl rfl ReadsAll.nil) (reads_list_at (N32.get (.head _)) rfl rfl ReadsAll.nil) (by simp [SeqAt.shaped, PyData.canLay0, PyData.canLayAll0, PyData.depth, PyData.depthAll]) (deep_room S (by decide)) ?_
    k_steps
    rename Fr _ _ _ _ => F33
    rename News _ _ _ _ => N33
    refine ne_same (d := .tuple [.str (Str.ofString "p:e"), .str (Str.ofString "u:1"), .str (Str.ofString "e")]) (Rd.tup (vs := [_, _, _]) (N33.get (.tail _ (.head _))) (.cons .str (.cons .str (.cons .str .nil)))).reads (Rd.tup (vs := [_, _, _]) (N33.get (.head _)) (.cons .str (.cons .str (.cons .str .nil)))).reads (by decide +kernel) (deep_room S (by decide)) ?_
    k_steps
    rename Fr _ _ _ _ => F34
    rename News _ _ _ _ => N34
    have N34r : News g _ _ ([(L + 1, oC'), (369, tabObj ps)] ++ ex26) := news_sub N34 (by walk_at "m sub")
    have tabg : ps = #[] ∨ ∃ c', ps = tab1 ⟨233, 30, 233, 60⟩ c' ∧ g.CodeRec (.ref c') (Str.ofString "_law_element_right.<locals>.<lambda>") := tab.imp_right fun ⟨c', e, hc⟩ => ⟨c', e, by
      obtain ⟨c₂, oc, vs, t, e2, hoc, hd, hv⟩ := hc
      refine ⟨c₂, oc, vs, t, e2, up _ _ hoc ?_, hd, hv⟩
      intro z
      rw [List.mem_singleton.mp z, ht0] at hoc
      have := Option.some.inj hoc
      rw [← this, e] at hd
      injection hd with hd
      rw [← hd] at hv
      simp [tab1, rawInt] at hv⟩
    refine kla_eval rfl ?_
    refine lam_made F34 N34r Tp hcodeG rfl hoC' l369 hoff26 gq26 tabg rfl ?_
    intro f c' ctv h35 ntk35 ex35 G35 F35 N35 hoff35 gq35 st35 hfo hcr hnew
    clear F34 N34 N34r
    obtain ⟨O, hO, lam⟩ : ∃ O, G35.get? f = some O ∧ LamOk prog w H f O c' (Str.ofString "_law_element_right.<locals>.<lambda>") := ⟨_, hfo, by
      clear F35 N35 hfo
      intro A2 s2 v2 t2 Q2 E2 S2 ho2 hc2 r2 ht2 q2
      refine wpAny_call ?_
      refine' enterL [(Str.ofString "told", v2)] S2 (by omega) ho2 hc2 ?hbindL ?hlocL ?hL ?hcoL ?hgenL ?hkL ?hcellL
      case hbindL => exact rfl
      case hlocL => exact locs rfl
      case hcoL => exact rfl
      case hgenL => exact rfl
      case hkL => exact rfl
      case hcellL => decide
      intro g2 L2 h2' mean2 mg2 mb2 up2 dn2 nL2 FL NL X2 Tp2 HG2
      clear X Tp HG hcodeG
      k_steps
      rename Fr g2 L2 _ _ => FL2
      refine law_row_c (S2.to HG2 FL2 (by show A2.depth + 1 ≤ 590; have := S2.dp; omega) (by show A2.units + 3 ≤ 5900; have := S2.un; omega) S2.hh) ((r2.up up2).up FL2.keep) ht2 ?_
      intro v3 h3' ntk3 k3 rd3
      obtain ⟨ra3, kv3, nn3, tt1, tt2, rfl, er3, hk3⟩ := rd3.rd.row_inv
      have FL3 := fr_stay FL2 k3
      clear FL2
      k_steps
      refine item_tupH er3 (by decide) (by decide) rfl ?_
      exact q2 _ _ _ (fun b o e _ => FL3.keep _ _ (up2 _ _ e)) hk3.rd⟩
    clear hfo
    have pu35 := pu26.up st35
    k_steps
    rename Fr _ _ _ _ => F36
    rename News _ _ _ _ => N36
    have hnd' : (ts.map fun t => (toldK t).key).Nodup := by have := hnd; rw [List.map_map] at this; exact this
    show wpAny _ _ (call (.builtin "sorted") [.ref l] [(Str.ofString "key", .ref f)]) _ _ _
    refine sorted_told F36 N36 hoC' hoff35 gq35 ⟨_, gl, rfl, _, rfl⟩ rg hok hnd' h4 lam (fun h m F => S.to HG F (by show A.depth + 1 ≤ 560; have := S.dp; omega) (by show A.units + 3 + 1 + 1 ≤ 5600; have := S.un; omega) S.hh) hO hcr (ksk_s1 _ _) (fun x => ksk_l1 _ _) (fun x => ksk_t1 f x) ?_
    intro D37 c37 h37 ntk37 ex37 G37 F37 N37 hoff37 gq37 st37 ngD eD pidx plen
    have pu37 := pu35.up st37
    clear g1 g2 F36 N36 gq35 hoff35 pu35
    have tG37 := pu37.tree
    have g1 := tG37.inst
    have g2 := tG37.dict
    k_steps
    rename Fr _ _ _ _ => F38
    rename News _ _ _ _ => N38
    refine LCg.Assign_ListComp_U (F₀ := F38) rfl (by with_unfolding_all rfl) (by with_unfolding_all rfl) (by decide) (by rfl) (by decide) (by rfl) (by rfl) (by rfl) ?_
    k_steps
    rename Fr _ _ _ _ => F39
    rename News _ _ _ _ => N39
    have hn37 := pu37.hd
    have hat4 : d2.at_.length ≤ 4 := Nat.le_trans pu37.at_len hlenS
    refine attributes_c (S.to HG F39 (by show A.depth + 1 ≤ 590; have := S.dp; omega) (by show A.units + 3 ≤ 5900; have := S.un; omega) S.hh) (tG37.up (gq37.up F39 N39 (by walk_at "m sub"))) (by simp) (show ds2[xs'.length]? = some d2 from hn37) ?_
    intro la ea h40 ntk40 k40 nfa hla
    have F40 := fr_stay F39 k40
    have N40 := news_cons hla (off_of F39 nfa).1 (off_of F39 nfa).2 (news_stay N39 k40)
    clear F39 N39 k40 hla
    refine LCg.CompSrc.ledger S.hh F40 N40 (.head _) (by rw [List.size_toArray, sizeLine_eq]; omega) fun h0' => ?_
    refine comp_rest (n := d2.at_.toArray.size) (fun i ys news => news = (la, listOf d2.at_.toArray ea) :: (L + 1, oC') :: (369, tabObj (tab1 ⟨233, 30, 233, 60⟩ c')) :: ex37 ∧ ∀ h, RdA h ys ((((sortK (listed ts)).filter KRow.isA).take i).map fun r => PyData.str r.name)) ?finN ?turnN _ 0 [] _ (by simp) (.inr ⟨_, .head _, rfl, _, rfl⟩) ⟨rfl, fun _ => .nil⟩
    case turnN =>
      intro i ys news v I oI C oCc D9 mC h41 tk41 E41 hi hJ hP hCc hxc F41 N41 hoff41 hSs hne
      obtain ⟨rfl, rys⟩ := hJ
      have hP' : d2.at_[i]? = some v := by simpa using hP
      obtain ⟨k, tv, a, rfl, haj, hk⟩ := pu37.ha.get hP'
      obtain ⟨rw1, hrw, rfl⟩ : ∃ r, ((sortK (listed ts)).filter KRow.isA)[i]? = some r ∧ attrN r = a := by
        rw [List.getElem?_map] at haj
        exact Option.map_eq_some_iff.mp haj
      clear hP hP'
      k_steps
      refine name_at (S.to HG F41 (by show A.depth + 1 ≤ 590; have := S.dp; omega) (by show A.units + 3 ≤ 5900; have := S.un; omega) S.hh) (tG37.up (gq37.up F41 N41 (by walk_at "m sub"))) (Int.natCast_nonneg _) (by simpa using hk) (show (attrN rw1).name = rw1.name from rfl) ?_
      intro h42 ntk42 u42 k42
      refine LCg.CompEnd.intro (fr_stay F41 k42) (news_stay N41 k42) _ (fun p hp => hp) hoff41 hSs ⟨rfl, fun h => ?_⟩
      rw [take_snoc hrw, List.map_append]
      exact (rys h).snoc .str
    case finN =>
      intro ysN exN hJ
      obtain ⟨rfl, rN⟩ := hJ
      intro DN h43 tk43 F43 N43 o43
      clear F40 N40
      k_steps
      rename Fr _ _ _ _ => F44
      rename News _ _ _ _ => N44
      have hal37 := pu37.ha.length
      have hbl37 := pu37.hb.length
      have hA37 := pu37.at_len
      have hB37 := pu37.ns_len
      refine rows_of_c (S.to HG F44 (by show A.depth + 1 ≤ 580; have := S.dp; omega) (by show A.units + 3 ≤ 5800; have := S.un; omega) S.hh) (tG37.up (gq37.up F44 N44 (by walk_at "m sub"))) (by simp) (show ds2[xs'.length]? = some d2 from hn37) pu37.ha pu37.hb (by omega) (by
        intro b hb
        obtain ⟨rw, hr, rfl⟩ := List.mem_map.mp hb
        exact hshS rw (List.mem_filter.mp hr).1) ?_
      intro l45 vs45 e45 h45 ntk45 k45 nf45 hl45 rr45
      rw [elRows_D, hEnd1] at rr45
      have F45 := fr_stay F44 k45
      have N45 := news_cons hl45 (off_of F44 nf45).1 (off_of F44 nf45).2 (news_stay N44 k45)
      clear F44 N44 k45
      k_steps
      rename Fr _ _ _ _ => F46
      rename News _ _ _ _ => N46
      have rgK : RdA g ((sortIdx (ts.map fun t => (toldK t).key)).map fun i => vs.getD i Value.none) ((byK ts).map toldD) := rg.pickT pidx
      have hokK : ∀ t ∈ byK ts, t.ok := fun t ht => hok t (byK_mem pidx ht)
      have hlK : (byK ts).length ≤ 4 := by show (List.map _ _).length ≤ 4; rw [List.length_map, plen]; exact h4
      refine law_listed_c (S.to HG F46 (by show A.depth + 1 ≤ 570; have := S.dp; omega) (by show A.units + 3 ≤ 5700; have := S.un; omega) S.hh) (gq37.up F46 N46 (by walk_at "m sub") _ _ eD) (rgK.up F46.keep) hokK hlK ?_
      intro l47 vs47 e47 h47 ntk47 k47 nf47 hl47 rr47
      have rr45' := rr45.up k47.nil
      have F47 := fr_stay F46 k47
      have N47 := news_cons hl47 (off_of F46 nf47).1 (off_of F46 nf47).2 (news_stay N46 k47)
      have sm : SameAt h47 (.ref l45) (.ref l47) := ⟨_, _, _, reads_lst (k47.nil _ _ hl45) rr45', reads_lst hl47 rr47, hshE⟩
      clear F46 N46 k47 hl45 hl47 rr45 rr45' rr47
      k_steps
      rename Fr _ _ _ _ => F49
      rename News _ _ _ _ => N49
      generalize hvK : ((sortIdx (ts.map fun t => (toldK t).key)).map fun i => vs.getD i Value.none) = vK at eD rgK
      have hvKl : vK.length = (byK ts).length := by simpa using rgK.length
      refine LCt.CompSrcT.ledger S.hh F49 N49 (by repeat (first | exact gq37.cov _ _ eD ngD | apply List.mem_cons_of_mem)) (by rw [List.size_toArray, sizeLine_eq]; omega) fun h50 => ?_
      refine comp_restT (n := vK.toArray.size) (fun i ys news => news = (l47, listOf vs47.toArray e47) :: (l45, listOf vs45.toArray e45) :: (DN, LCg.lst ysN) :: (la, listOf d2.at_.toArray ea) :: (L + 1, oC') :: (369, tabObj (tab1 ⟨233, 30, 233, 60⟩ c')) :: ex37 ∧ ∀ h, RdA h ys ((((byK ts).take i).filter Told.isA).map fun t => PyData.str t.n3)) ?finK ?turnK _ 0 [] _ (by simp) (.inr ⟨_, by repeat (first | exact gq37.cov _ _ eD ngD | apply List.mem_cons_of_mem), rfl, _, rfl⟩) ⟨rfl, fun _ => .nil⟩
      case turnK =>
        intro i ys news v I oI C oCc D9 mC h51 tk51 E51 hi hJ hP hCc hxc F51 N51 hoff51 hSs hne
        obtain ⟨rfl, rys⟩ := hJ
        have hP' : vK[i]? = some v := by simpa using hP
        have hit : i < (byK ts).length := hvKl ▸ (List.getElem?_eq_some_iff.mp hP').1
        obtain ⟨t, ht⟩ : ∃ t, (byK ts)[i]? = some t := ⟨_, List.getElem?_eq_getElem hit⟩
        have rt := rgK.get i v (toldD t) hP' (by simp [ht])
        clear hP hP' F49 N49
        cases t with
        | a u1 l1 n1 w1 =>
          obtain ⟨a, t0, t1, t2, t3, t4, k, rfl, ho⟩ := rt.a_inv
          k_steps
          rename Fr _ _ _ _ => F52
          rename News _ _ _ _ => N52
          refine LCg.CompEnd.intro F52 N52 _ (fun p hp => hp) hoff51 hSs ⟨rfl, fun h => ?_⟩
          rw [filt_yes ht rfl]
          exact (rys h).snoc .str
        | d p1 u1 =>
          obtain ⟨a, t0, t1, t2, k, rfl, ho⟩ := rt.d_inv
          k_steps
          rename Fr _ _ _ _ => F52
          rename News _ _ _ _ => N52
          refine LCg.CompEnd.intro F52 N52 _ (fun p hp => hp) hoff51 hSs ⟨rfl, fun h => ?_⟩
          rw [filt_no ht rfl]
          exact rys h
      case finK =>
        intro ysK exK hJ
        obtain ⟨rfl, rK⟩ := hJ
        intro DK h53 tk53 F53 N53 o53
        clear F49 N49
        have lenN : d2.at_.toArray.size = ((sortK (listed ts)).filter KRow.isA).length := by rw [List.size_toArray, hal37, List.length_map]
        have rN' := rN h53
        rw [lenN, List.take_length, hEnd2] at rN'
        have rK' := rK h53
        rw [show vK.toArray.size = (byK ts).length by rw [List.size_toArray, hvKl], List.take_length] at rK'
        have sm2 : SameAt h53 (.ref DN) (.ref DK) := ⟨_, _, _, reads_list_at (N53.get (by k_mem)) rfl rfl (by simpa using rN'.reads), reads_list_at (N53.get (.head _)) rfl rfl (by simpa using rK'.reads), hshN⟩
        k_steps
        refine q c' _ _ (keep_of_fr upk F53) (N53.get (by k_mem)) (codeRec_up (codeRec_up hcr st37) (gq37.up F53 N53 (by walk_at "m sub"))) ?_
        rcases hnew with e | r
        · refine .inl ?_
          cases hs : s.heap.get? c' with
          | none => rfl
          | some o =>
            by_cases c9 : c' = 369
            · obtain ⟨c₂, oc, vs2, t, e2, hoc, hd, hv⟩ := codeRec_up (codeRec_up hcr st37) (gq37.up F53 N53 (by walk_at "m sub"))
              injection e2 with e2
              rw [← e2, c9, N53.get (show (369, tabObj (tab1 ⟨233, 30, 233, 60⟩ c')) ∈ _ by k_mem)] at hoc
              have := Option.some.inj hoc
              rw [← this] at hd
              injection hd with hd
              rw [← hd] at hv
              simp [tab1, rawInt] at hv
            · rw [upk c' o hs (by simpa using c9)] at e; cases e
        · exact .inr r
end
end Mine
namespace Mine
theorem fdiv_pos' {a b : Int} (ha : 0 ≤ a) (hb : 0 ≤ b) : 0 ≤ a.fdiv b := by
  rw [Int.fdiv_eq_ediv_of_nonneg _ hb]
  exact Int.ediv_nonneg ha hb
theorem great_pos {c : Int} {b : Bool} : 0 ≤ (if -1 - c > c then -1 - c else c) * (if b = true then 1 else 0) := Int.mul_nonneg (by split <;> omega) (by split <;> decide)
local macro_rules | `(tactic| walk_at "call builtin:max") => `(tactic| (k_here; (with_reducible show wpAny _ _ (call (Value.builtin _) [Value.int _ _, Value.int _ _]) _ _ _); (refine' max_two_N ?hh ?F ?N ?_; (case hh => assumption); (case F => k_asm); (case N => k_asm)); intro h' tk' F' N'; (try k_sweep)))
section
variable {prog : Program} {w : World} {A : Around} {s : Shared} {H : Heap} {Q : Value → Shared → Prop} {E : Value → Shared → Prop}
set_option maxHeartbeats 8000000 in
theorem law_take_c {l : Addr} {p q top : Int} {t u tt : Tok} {e : Nat} (S : St 580 w A s.heap H) (hl : s.heap.get? l = some (listOf #[.int p t, .int q u] e)) (hH : H.get? l = none)
    (hp : 0 ≤ p) (hq0 : 0 ≤ q) (hq : q < 2147483647) (ht0 : 1 ≤ top) (ht : top ≤ 10)
    (qq : ∀ r tr p' q' t' u' e' h' tk', 0 ≤ r → r < top → 0 ≤ p' → 0 ≤ q' → q' < 2147483647 → Keep [l] s.heap h' → h'.get? l = some (listOf #[.int p' t', .int q' u'] e') → Q (.int r tr) { s with heap := h', toks := tk' }) :
    wpAny (model prog w) A (call (.ref 334) [.ref l, .int top tt]) Q E s := by
  refine wpAny_call ?_
  refine' enter [(l, listOf #[.int p t, .int q u] e)] [(Str.ofString "source", .ref l), (Str.ofString "top", .int top tt)] S (by omega) (by intro q hq; rw [List.mem_singleton.mp hq]; exact ⟨hl, hH⟩) ?ho ?hcd ?hbind ?hloc ?h ?hco ?hgen ?hk ?hcell
  case ho => k_is
  case hcd => k_is
  case hbind => exact BindsTo.of_eq rfl
  case hloc => exact locs rfl
  case hco => exact rfl
  case hgen => exact rfl
  case hk => exact rfl
  case hcell => decide
  intro g L h₁ mean mg mb up dn nL F N X Tp HG
  dsimp only
  have upk : ∀ b o, s.heap.get? b = some o → b ∉ [l] → g.get? b = some o := fun b o e n => up b o e (by simpa using n)
  k_steps
  · rename Fr _ _ _ _ => F0
    rename News g _ _ [(l, listOf #[.int (([p, q].getD (Int.toNat 0) 0).fdiv top) _, _] _)] => N0
    exact qq _ _ _ _ _ _ _ _ _ (Int.fmod_nonneg_of_pos _ (by omega)) (Int.fmod_lt_of_pos _ (by omega)) (fdiv_pos' hp (by omega)) hq0 hq (keep_of_fr upk F0) (N0.get (.head _))
  · rename Fr _ _ _ _ => F0
    rename News _ _ _ _ => N0
    have x0 : 0 ≤ (([p, q].getD (Int.toNat 1) 0 * 39373 + 7).fmod 2147483647) := Int.fmod_nonneg_of_pos _ (by decide)
    have x1 : (([p, q].getD (Int.toNat 1) 0 * 39373 + 7).fmod 2147483647) < 2147483647 := Int.fmod_lt_of_pos _ (by decide)
    generalize (([p, q].getD (Int.toNat 1) 0 * 39373 + 7).fmod 2147483647) = x at x0 x1 N0
    have e1 : [p, x].getD (Int.toNat 1) 0 = x := rfl
    simp only [e1]
    k_steps
    exact qq _ _ _ _ _ _ _ _ _ (Int.fmod_nonneg_of_pos _ (by omega)) (Int.fmod_lt_of_pos _ (by omega)) hp x0 x1 (keep_of_fr upk F0) (N0.get (.head _))
set_option maxHeartbeats 8000000 in
theorem law_pool_c {l : Addr} {vs : List Value} {ns : List Int} {tt : Tok} (S : St 580 w A s.heap H) (hl : s.heap.IsList l vs.toArray) (hI : IntsAre vs ns) (hn : ns.length ≤ 63)
    (qq : ∀ l' p q t u e h' tk', 0 ≤ p → 0 ≤ q → q < 2147483647 → Keep [] s.heap h' → s.heap.get? l' = none → h'.get? l' = some (listOf #[.int p t, .int q u] e) → Q (.ref l') { s with heap := h', toks := tk' }) :
    wpAny (model prog w) A (call (.ref 327) [.ref l, .int 0 tt]) Q E s := by
  refine wpAny_call ?_
  refine' enter [] [(Str.ofString "script", .ref l), (Str.ofString "k", .int 0 tt)] S (by omega) (by simp) ?ho ?hcd ?hbind ?hloc ?h ?hco ?hgen ?hk ?hcell
  case ho => k_is
  case hcd => k_is
  case hbind => exact BindsTo.of_eq rfl
  case hloc => exact locs rfl
  case hco => exact rfl
  case hgen => exact rfl
  case hk => exact rfl
  case hcell => decide
  intro g L h₁ mean mg mb up dn nL F N X Tp HG
  have gl : g.IsList l vs.toArray := hl.at fun o e => up _ o e (by simp)
  have hhA := S.hh
  dsimp only
  k_steps
  all_goals (
    rename Fr _ _ _ _ => F0
    rename News _ _ _ _ => N0
    refine qq _ _ _ _ _ _ _ _ ?_ (Int.fmod_nonneg_of_pos _ (by decide)) (Int.fmod_lt_of_pos _ (by decide)) (keep_of_fr up F0) (none_of_up up (N0 _ (.head _)).2.2) (N0.get (.head _))
    )
  all_goals exact great_pos
local macro_rules | `(tactic| walk_at "subscriptTail") => `(tactic| (k_here; (with_reducible show wpAny _ _ (subscriptTail _ _ (Value.ref _) (Value.int _ _)) _ _ _); (with_unfolding_all refine' item_list ?F ?l ?a ?b ?c ?_ ?d; (case F => k_asm); (case l => assumption); (case a => assumption); (case b => omega); (case c => assumption); (case d => with_unfolding_all rfl); k_whole)))
local macro_rules | `(tactic| walk_at "call builtin:len") => `(tactic| (k_here; (with_reducible show wpAny _ _ (call (Value.builtin _) [Value.ref _]) _ _ _); (with_unfolding_all refine' len_list ?k1 ?k2 ?_; (case k1 => first | exact News.isList (by k_asm) (by k_mem) | exact Fr.lst (by k_asm) (by assumption)); (case k2 => exact Int.lt_of_le_of_lt (Int.ofNat_le.mpr (by assumption)) (by decide)))))
set_option maxHeartbeats 8000000 in
theorem law_one_c {l th : Addr} {p q : Int} {t u : Tok} {e n : Nat} {vs : List Value} (S : St 570 w A s.heap H) (hl : s.heap.get? l = some (listOf #[.int p t, .int q u] e)) (hH : H.get? l = none) (hth : s.heap.get? th = some (listOf vs.toArray n)) (hne : th ≠ l)
    (hp : 0 ≤ p) (hq0 : 0 ≤ q) (hq : q < 2147483647) (ht0 : 1 ≤ vs.length) (ht : vs.length ≤ 10)
    (qq : ∀ v p' q' t' u' e' h' tk', v ∈ vs → 0 ≤ p' → 0 ≤ q' → q' < 2147483647 → Keep [l] s.heap h' → h'.get? l = some (listOf #[.int p' t', .int q' u'] e') → Q v { s with heap := h', toks := tk' }) :
    wpAny (model prog w) A (call (.ref 341) [.ref l, .ref th]) Q E s := by
  refine wpAny_call ?_
  refine' enter [(l, listOf #[.int p t, .int q u] e)] [(Str.ofString "source", .ref l), (Str.ofString "things", .ref th)] S (by omega) (by intro q hq; rw [List.mem_singleton.mp hq]; exact ⟨hl, hH⟩) ?ho ?hcd ?hbind ?hloc ?h ?hco ?hgen ?hk ?hcell
  case ho => k_is
  case hcd => k_is
  case hbind => exact BindsTo.of_eq rfl
  case hloc => exact locs rfl
  case hco => exact rfl
  case hgen => exact rfl
  case hk => exact rfl
  case hcell => decide
  intro g L h₁ mean mg mb up dn nL F N X Tp HG
  have upk : ∀ b o, s.heap.get? b = some o → b ∉ [l] → g.get? b = some o := fun b o e n => up b o e (by simpa using n)
  have gth : g.IsList th vs.toArray := ⟨_, upk _ _ hth (by simpa using hne), rfl, _, rfl⟩
  have hz : vs.toArray.size ≤ 10 := by simpa using ht
  dsimp only
  k_steps
  rename Fr _ _ _ _ => F0
  rename News _ _ _ _ => N0
  refine law_take_c (S.deep HG F0 (by omega)) (N0.get (.head _)) hH hp hq0 hq (by simp; omega) (by simp; omega) ?_
  intro r tr p' q' t' u' e' h' tk' r0 r1 p0 q0 q1 k hl'
  have nl := N0 _ (.head _)
  have F2 := fr_back F0 k (by intro b hb; rw [List.mem_singleton.mp hb]; exact ⟨nl.2.2, nl.2.1⟩)
  have N2 : News g L h' [(l, listOf #[.int p' t', .int q' u'] e')] := fun x hx => by rw [List.mem_singleton.mp hx]; exact ⟨hl', nl.2⟩
  have r1' : r.toNat < vs.length := by simp at r1; omega
  have hx : vs.toArray[r.toNat]? = some vs[r.toNat] := by simp [r1']
  clear F0 N0
  k_steps
  exact qq _ _ _ _ _ _ _ _ (List.getElem_mem r1') p0 q0 q1 (keep_of_fr upk F2) (N2.get (.head _))
end
end Mine
namespace Mine
/-- no tuple stands among these objects -/
noncomputable def NoTup (own : List (Addr × Obj)) : Prop := ∀ p ∈ own, ∀ vs n, p.2 ≠ ({ cls := .type "tuple", data := .seq vs n } : Obj)
section
variable {prog : Program} {w : World} {A : Around} {E : Value → Shared → Prop} {s : Shared} {env : Env} {g : Heap} {x : Str} {target : PySem.Expr} {body : List Stmt} {Q : Flow → Shared → Prop}
/-- a loop over a range from nought -/
theorem loop_rg {σ : Type} {r : Addr} {n : Nat} {b₀ : Int} {t₀ u₀ v₀ : Tok} {m₀ : Str → Option Value} (Led : σ → List (Addr × Obj)) (P : Nat → σ → Prop) (c₀ : σ) (stored : List Str)
    (hh : A.handled = none) (hr : IsRange s.heap r 0 b₀ 1 t₀ u₀ v₀) (hb : b₀ = (n : Int)) (hn : n ≤ 1000) (F : Fr g env.locals s.heap m₀) (N : News g env.locals s.heap (Led c₀)) (hp : P 0 c₀)
    (turn : ∀ (i : Nat) t c (m₁ : Str → Option Value) h tk own, i < n → P i c → OwnOff own ((Led c).map (·.1)) → NoTup own → Fr g env.locals h (fun y => if y = x then some (.int (i : Int) t) else if stored.contains y then m₁ y else m₀ y) → News g env.locals h (Led c ++ own) →
      wpAny (model prog w) A (execs body env) (LpPost g env.locals Led (P (i + 1)) stored m₀ own { s with heap := h, toks := tk } Q) E { s with heap := h, toks := tk })
    (done : ∀ c (m₁ : Str → Option Value) h tk, P n c → Fr g env.locals h (fun y => if stored.contains y then m₁ y else m₀ y) → News g env.locals h (Led c) → Q .next { s with heap := h, toks := tk }) :
    wpAny (model prog w) A (pyIter (.ref r)) (fun it s₂ => LoopAtV prog w A g env x body Q E it s₂) E s := by
  have hsmall : Builtin.Range.small 0 b₀ 1 = true := small_one (by decide) (by decide) (by omega) (by omega)
  have hsz : Builtin.Range.rangeSize 0 b₀ 1 = (n : Int) := by rw [rangeSize_nat, hb]; simp
  refine wpAny_pyIter_range hr hsmall ?_
  have W : Walks prog w A s.heap.objs.size [s.heap.objs.size] [s.heap.objs.size] n (fun i v => i < n ∧ ∃ t, v = .int (0 + i * 1) t)
      (fun i h => IsRangeIter h s.heap.objs.size (0 + (i : Nat) * 1) ((n : Int) - (i : Nat)) 1) := (Walks.range hh _ 0 1 n).bound
  refine ⟨_, _, _, n, _, _, m₀, Led c₀, (fun i m nx => (∃ c, nx = Led c ∧ P i c) ∧ ∀ z, stored.contains z = false → m z = m₀ z), rfl, W, ?_, ?_, ?_, (by show IsRangeIter _ _ _ _ _; rw [hsz]; simpa using Heap.get?_push_size _ rfl), F.push _, (fun p hp => ⟨Heap.get?_push_of_some _ (N p hp).1, (N p hp).2⟩), ⟨⟨c₀, rfl, hp⟩, fun _ _ => rfl⟩, ?_, ?_⟩
  · intro hm
    exact absurd F.ns.lt ((List.mem_singleton.mp hm) ▸ Nat.lt_irrefl _)
  · intro b hb
    rw [List.mem_singleton.mp hb]
    exact next_is_new F
  · intro p hp hI
    exact absurd (Heap.lt_size (N p hp).1) ((List.mem_singleton.mp hI) ▸ Nat.lt_irrefl _)
  · rintro i v m₁ nx s₁ own ⟨hh', tk', rfl⟩ hin ⟨_, t, rfl⟩ ⟨⟨c, rfl, hPc⟩, hm⟩ hoff hown hget hfp hst F₁ N₁
    have e1 : (0 : Int) + (i : Int) * 1 = (i : Int) := by omega
    rw [e1] at F₁
    have hI0 : g.get? s.heap.objs.size = none := next_is_new F
    have hIown := hfp _ (.head _) hI0 _ hst
    have hown' : ∀ p ∈ own, p.1 = s.heap.objs.size := fun p hp => List.mem_singleton.mp (hown p hp)
    have hsep : OwnOff own ((Led c).map (·.1)) := by
      intro p hp b hb e
      obtain ⟨q, hq, rfl⟩ := List.mem_map.mp hb
      exact hoff q hq (List.mem_singleton.mpr (e ▸ hown' p hp))
    have hnt : NoTup own := by
      intro p hp vs n e
      have h1 := hget p hp
      rw [hown' p hp, hst, e] at h1
      have := congrArg Obj.cls (Option.some.inj h1)
      exact absurd this (by simp)
    have N₂ : News g env.locals hh' (Led c ++ own) := fun p hp => N₁ p ((List.mem_append.mp hp).elim (fun h => List.mem_append.mpr (.inr h)) fun h => List.mem_append.mpr (.inl h))
    refine wpAny_mono (turn i t c m₁ hh' tk' own hin hPc hsep hnt (fr_cases F₁ hm) N₂) (fun f s₂ p => ?_) fun _ _ e => e
    have fin : LpEnd g env.locals Led (P (i + 1)) stored m₀ own { s with heap := hh', toks := tk' } s₂ →
        LoopStepU g env.locals [s.heap.objs.size] own (fun m nx => (∃ c, nx = Led c ∧ P (i + 1) c) ∧ ∀ z, stored.contains z = false → m z = m₀ z) { s with heap := hh', toks := tk' } .next s₂ := by
      rintro ⟨c', h', tk, m', news', e, hPc', F', N', hn, ho, ha, hm'⟩
      refine ⟨rfl, h', tk, m', Led c', e, F', fun p hp => ?_, fun p hp hq => ?_, ⟨c', rfl, hPc'⟩, hm'⟩
      · rcases List.mem_append.mp hp with h | h
        · exact N' p (ho p h)
        · exact N' p (hn p h)
      · exact ha _ hIown p.1 (List.mem_map.mpr ⟨p, hp, rfl⟩) (List.mem_singleton.mp hq).symm
    cases f with
    | ret v => exact .ret p
    | brk => exact .brk p
    | next => exact .next (fin p)
    | cont => exact .cont (fin p)
  · rintro h' tk m' news' F' N' _ ⟨⟨c, rfl, hPc⟩, hm⟩
    exact done c m' h' tk hPc (fr_after F' hm) N'
/-- a loop with any target over a list of the ledger that stays -/
theorem loop_lt {σ : Type} {l : Addr} {vs : List Value} {nn : Nat} {m₀ : Str → Option Value} (Led : σ → List (Addr × Obj)) (P : Nat → σ → Prop) (c₀ : σ) (stored : List Str)
    (hh : A.handled = none) (hl : ∀ c, (l, listOf vs.toArray nn) ∈ Led c) (F : Fr g env.locals s.heap m₀) (N : News g env.locals s.heap (Led c₀)) (hp : P 0 c₀)
    (turn : ∀ i v c (m₁ : Str → Option Value) h tk own, vs[i]? = some v → P i c → OwnOff own ((Led c).map (·.1)) → NoTup own → Fr g env.locals h (fun y => if stored.contains y then m₁ y else m₀ y) → News g env.locals h (Led c ++ own) →
      wpAny (model prog w) A (assign target env v) (fun _ s₃ => wpAny (model prog w) A (execs body env) (LpPost g env.locals Led (P (i + 1)) stored m₀ own { s with heap := h, toks := tk } Q) E s₃) E { s with heap := h, toks := tk })
    (done : ∀ c (m₁ : Str → Option Value) h tk, P vs.length c → Fr g env.locals h (fun y => if stored.contains y then m₁ y else m₀ y) → News g env.locals h (Led c) → Q .next { s with heap := h, toks := tk }) :
    wpAny (model prog w) A (pyIter (.ref l)) (fun it s₂ => TurnsAt prog w A g env target body Q E it s₂) E s := by
  have hol : s.heap.get? l = some (listOf vs.toArray nn) := (N _ (hl c₀)).1
  have hls : s.heap.IsList l vs.toArray := ⟨_, hol, rfl, nn, rfl⟩
  have hne : l ≠ s.heap.objs.size := Nat.ne_of_lt (Heap.lt_size hol)
  refine wpAny_pyIter_list hls ?_
  have W := KTurns.ofWalks (target := target) (Walks.list (prog := prog) (w := w) hh s.heap.objs.size l hne vs.toArray) fun i v s Q E st q => letGo_listiter st.1 q
  have hlen : vs.toArray.size = vs.length := by simp
  rw [hlen] at W
  refine ⟨_, _, _, vs.length, _, _, _, m₀, Led c₀, (fun i m nx => (∃ c, nx = Led c ∧ P i c) ∧ ∀ z, stored.contains z = false → m z = m₀ z), rfl, W, ?_, ?_, ?_, ⟨⟨_, Heap.get?_push_size _ rfl, rfl, rfl⟩, hls.at fun o e => Heap.get?_push_of_some _ e⟩, F.push _, (fun p hp => ⟨Heap.get?_push_of_some _ (N p hp).1, (N p hp).2⟩), ⟨⟨c₀, rfl, hp⟩, fun _ _ => rfl⟩, ?_, ?_⟩
  · intro hm
    rcases List.mem_cons.mp hm with e | hm
    · exact absurd F.ns.lt (e ▸ Nat.lt_irrefl _)
    · exact (N _ (hl c₀)).2.1 ((List.mem_singleton.mp hm).symm)
  · intro b hb
    rw [List.mem_singleton.mp hb]
    exact next_is_new F
  · intro p hp hI
    exact absurd (Heap.lt_size (N p hp).1) ((List.mem_singleton.mp hI) ▸ Nat.lt_irrefl _)
  · rintro i v m₁ nx hh' tk' own hin hP ⟨⟨c, rfl, hPc⟩, hm⟩ hoff hown hget hfp hst F₁ N₁
    have hP' : vs[i]? = some v := by simpa using hP
    have hI0 : g.get? s.heap.objs.size = none := next_is_new F
    obtain ⟨⟨oI, hoI, hcI, _⟩, _⟩ := id hst
    have hIown : (s.heap.objs.size, oI) ∈ own.filter fun p => decide (p.1 = s.heap.objs.size) := List.mem_filter.mpr ⟨hfp _ (List.mem_cons.mpr (.inl rfl)) hI0 _ hoI, by simp⟩
    have hsep : OwnOff (own.filter fun p => decide (p.1 = s.heap.objs.size)) ((Led c).map (·.1)) := by
      intro p hp b hb e
      obtain ⟨q, hq, rfl⟩ := List.mem_map.mp hb
      have h1 : p.1 = s.heap.objs.size := by simpa using (List.mem_filter.mp hp).2
      exact hoff q hq (List.mem_singleton.mpr (e ▸ h1))
    have N₂ : News g env.locals hh' (Led c ++ own.filter fun p => decide (p.1 = s.heap.objs.size)) := fun p hp => N₁ p ((List.mem_append.mp hp).elim (fun h => List.mem_append.mpr (.inr h)) fun h => List.mem_append.mpr (.inl ((List.mem_filter.mp h).1)))
    have hlo : hh'.get? l = some (listOf vs.toArray nn) := (N₁ _ (List.mem_append.mpr (.inr (hl c)))).1
    have hnt : NoTup (own.filter fun p => decide (p.1 = s.heap.objs.size)) := by
      intro p hp vs n e
      obtain ⟨h1, h2⟩ := List.mem_filter.mp hp
      have h1 := hget p h1
      rw [of_decide_eq_true h2, hoI, e] at h1
      rw [Option.some.inj h1] at hcI
      exact absurd hcI (by simp)
    refine wpAny_mono (turn i v c m₁ hh' tk' _ hP' hPc hsep hnt (fr_after F₁ hm) N₂) (fun _ s₃ h₃ => wpAny_mono h₃ (fun f s₂ p => ?_) fun _ _ e => e) fun _ _ e => e
    have fin : LpEnd g env.locals Led (P (i + 1)) stored m₀ (own.filter fun p => decide (p.1 = s.heap.objs.size)) { s with heap := hh', toks := tk' } s₂ →
        LoopStepU g env.locals [s.heap.objs.size] own (fun m nx => (∃ c, nx = Led c ∧ P (i + 1) c) ∧ ∀ z, stored.contains z = false → m z = m₀ z) { s with heap := hh', toks := tk' } .next s₂ := by
      rintro ⟨c', h', tk, m', news', e, hPc', F', N', hn, ho, ha, hm'⟩
      refine ⟨rfl, h', tk, m', Led c', e, F', fun p hp => ?_, fun p hp hq => ?_, ⟨c', rfl, hPc'⟩, hm'⟩
      · rcases List.mem_append.mp hp with h | h
        · by_cases hI : p.1 = s.heap.objs.size
          · exact N' p (ho p (List.mem_filter.mpr ⟨h, by simpa using hI⟩))
          · have h1 : p.1 = l := by
              rcases List.mem_cons.mp (hown p h) with h2 | h2
              · exact absurd h2 hI
              · exact List.mem_singleton.mp h2
            have h2 : hh'.get? p.1 = some p.2 := hget p h
            rw [h1, hlo] at h2
            have h3 : p = (l, listOf vs.toArray nn) := Prod.ext h1 (Option.some.inj h2).symm
            rw [h3]
            exact N' _ (hn _ (hl c'))
        · exact N' p (hn p h)
      · exact ha _ hIown p.1 (List.mem_map.mpr ⟨p, hp, rfl⟩) (List.mem_singleton.mp hq).symm
    cases f with
    | ret v => exact p
    | brk => exact p
    | next => exact fin p
    | cont => exact fin p
  · rintro h' tk m' news' F' N' _ ⟨⟨c, rfl, hPc⟩, hm⟩
    exact done c m' h' tk hPc (fr_after F' hm) N'
/-- a loop with a name over a list of the ledger that stays -/
theorem loop_ls {σ : Type} {l : Addr} {vs : List Value} {nn : Nat} {m₀ : Str → Option Value} (Led : σ → List (Addr × Obj)) (P : Nat → σ → Prop) (c₀ : σ) (stored : List Str)
    (hh : A.handled = none) (hl : ∀ c, (l, listOf vs.toArray nn) ∈ Led c) (F : Fr g env.locals s.heap m₀) (N : News g env.locals s.heap (Led c₀)) (hp : P 0 c₀)
    (turn : ∀ i v c (m₁ : Str → Option Value) h tk own, vs[i]? = some v → P i c → OwnOff own ((Led c).map (·.1)) → NoTup own → Fr g env.locals h (fun y => if y = x then some v else if stored.contains y then m₁ y else m₀ y) → News g env.locals h (Led c ++ own) →
      wpAny (model prog w) A (execs body env) (LpPost g env.locals Led (P (i + 1)) stored m₀ own { s with heap := h, toks := tk } Q) E { s with heap := h, toks := tk })
    (done : ∀ c (m₁ : Str → Option Value) h tk, P vs.length c → Fr g env.locals h (fun y => if stored.contains y then m₁ y else m₀ y) → News g env.locals h (Led c) → Q .next { s with heap := h, toks := tk }) :
    wpAny (model prog w) A (pyIter (.ref l)) (fun it s₂ => LoopAtV prog w A g env x body Q E it s₂) E s := by
  have hol : s.heap.get? l = some (listOf vs.toArray nn) := (N _ (hl c₀)).1
  have hls : s.heap.IsList l vs.toArray := ⟨_, hol, rfl, nn, rfl⟩
  have hne : l ≠ s.heap.objs.size := Nat.ne_of_lt (Heap.lt_size hol)
  refine wpAny_pyIter_list hls ?_
  have W := Walks.list (prog := prog) (w := w) hh s.heap.objs.size l hne vs.toArray
  have hlen : vs.toArray.size = vs.length := by simp
  rw [hlen] at W
  refine ⟨_, _, _, vs.length, _, _, m₀, Led c₀, (fun i m nx => (∃ c, nx = Led c ∧ P i c) ∧ ∀ z, stored.contains z = false → m z = m₀ z), rfl, W, ?_, ?_, ?_, ⟨⟨_, Heap.get?_push_size _ rfl, rfl, rfl⟩, hls.at fun o e => Heap.get?_push_of_some _ e⟩, F.push _, (fun p hp => ⟨Heap.get?_push_of_some _ (N p hp).1, (N p hp).2⟩), ⟨⟨c₀, rfl, hp⟩, fun _ _ => rfl⟩, ?_, ?_⟩
  · intro hm
    rcases List.mem_cons.mp hm with e | hm
    · exact absurd F.ns.lt (e ▸ Nat.lt_irrefl _)
    · exact (N _ (hl c₀)).2.1 ((List.mem_singleton.mp hm).symm)
  · intro b hb
    rw [List.mem_singleton.mp hb]
    exact next_is_new F
  · intro p hp hI
    exact absurd (Heap.lt_size (N p hp).1) ((List.mem_singleton.mp hI) ▸ Nat.lt_irrefl _)
  · rintro i v m₁ nx s₁ own ⟨hh', tk', rfl⟩ hin hP ⟨⟨c, rfl, hPc⟩, hm⟩ hoff hown hget hfp hst F₁ N₁
    have hP' : vs[i]? = some v := by simpa using hP
    have hI0 : g.get? s.heap.objs.size = none := next_is_new F
    obtain ⟨⟨oI, hoI, hcI, _⟩, _⟩ := id hst
    have hIown : (s.heap.objs.size, oI) ∈ own.filter fun p => decide (p.1 = s.heap.objs.size) := List.mem_filter.mpr ⟨hfp _ (List.mem_cons.mpr (.inl rfl)) hI0 _ hoI, by simp⟩
    have hsep : OwnOff (own.filter fun p => decide (p.1 = s.heap.objs.size)) ((Led c).map (·.1)) := by
      intro p hp b hb e
      obtain ⟨q, hq, rfl⟩ := List.mem_map.mp hb
      have h1 : p.1 = s.heap.objs.size := by simpa using (List.mem_filter.mp hp).2
      exact hoff q hq (List.mem_singleton.mpr (e ▸ h1))
    have N₂ : News g env.locals hh' (Led c ++ own.filter fun p => decide (p.1 = s.heap.objs.size)) := fun p hp => N₁ p ((List.mem_append.mp hp).elim (fun h => List.mem_append.mpr (.inr h)) fun h => List.mem_append.mpr (.inl ((List.mem_filter.mp h).1)))
    have hlo : hh'.get? l = some (listOf vs.toArray nn) := (N₁ _ (List.mem_append.mpr (.inr (hl c)))).1
    have hnt : NoTup (own.filter fun p => decide (p.1 = s.heap.objs.size)) := by
      intro p hp vs n e
      obtain ⟨h1, h2⟩ := List.mem_filter.mp hp
      have h1 := hget p h1
      rw [of_decide_eq_true h2, hoI, e] at h1
      rw [Option.some.inj h1] at hcI
      exact absurd hcI (by simp)
    refine wpAny_mono (turn i v c m₁ hh' tk' _ hP' hPc hsep hnt (fr_cases F₁ hm) N₂) (fun f s₂ p => ?_) fun _ _ e => e
    have fin : LpEnd g env.locals Led (P (i + 1)) stored m₀ (own.filter fun p => decide (p.1 = s.heap.objs.size)) { s with heap := hh', toks := tk' } s₂ →
        LoopStepU g env.locals [s.heap.objs.size] own (fun m nx => (∃ c, nx = Led c ∧ P (i + 1) c) ∧ ∀ z, stored.contains z = false → m z = m₀ z) { s with heap := hh', toks := tk' } .next s₂ := by
      rintro ⟨c', h', tk, m', news', e, hPc', F', N', hn, ho, ha, hm'⟩
      refine ⟨rfl, h', tk, m', Led c', e, F', fun p hp => ?_, fun p hp hq => ?_, ⟨c', rfl, hPc'⟩, hm'⟩
      · rcases List.mem_append.mp hp with h | h
        · by_cases hI : p.1 = s.heap.objs.size
          · exact N' p (ho p (List.mem_filter.mpr ⟨h, by simpa using hI⟩))
          · have h1 : p.1 = l := by
              rcases List.mem_cons.mp (hown p h) with h2 | h2
              · exact absurd h2 hI
              · exact List.mem_singleton.mp h2
            have h2 : hh'.get? p.1 = some p.2 := hget p h
            rw [h1, hlo] at h2
            have h3 : p = (l, listOf vs.toArray nn) := Prod.ext h1 (Option.some.inj h2).symm
            rw [h3]
            exact N' _ (hn _ (hl c'))
        · exact N' p (hn p h)
      · exact ha _ hIown p.1 (List.mem_map.mpr ⟨p, hp, rfl⟩) (List.mem_singleton.mp hq).symm
    cases f with
    | ret v => exact .ret p
    | brk => exact .brk p
    | next => exact .next (fin p)
    | cont => exact .cont (fin p)
  · rintro h' tk m' news' F' N' _ ⟨⟨c, rfl, hPc⟩, hm⟩
    exact done c m' h' tk hPc (fr_after F' hm) N'
end
end Mine
namespace Mine
noncomputable abbrev lamQ : Str := Str.ofString "_law_element_right.<locals>.<lambda>"
noncomputable abbrev lamP : Pos := ⟨233, 30, 233, 60⟩
noncomputable def TabOk (ps : Array Value) (G : Heap) : Prop := ps = #[] ∨ ∃ c', ps = tab1 lamP c' ∧ G.CodeRec (.ref c') lamQ
/-- the law's own tree, and what its frame knows beside the written objects fx -/
structure Lw (H : Heap) (L : Addr) (T : TRef) (x0 : RRef) (k : Nat) (ps : Array Value) (fx ex : List (Addr × Obj)) (G : Heap) : Prop where
  gat : Gat H L ex G
  off : OwnOff fx (ex.map (·.1))
  tree : ∃ xs ds d0, TreeAt G T xs ds ∧ (∀ b ∈ objs T xs, H.get? b = none) ∧ xs.length ≤ 1 + k ∧ xs[0]? = some x0 ∧ ds[0]? = some d0 ∧ d0.kind = Str.ofString "root" ∧ d0.ch.length ≤ k
  tab : TabOk ps G
/-- what reads in G reads in G' -/
structure RdMono (G G' : Heap) : Prop where
  one : ∀ v d, Rd G v d → Rd G' v d
  all : ∀ vs ds, RdA G vs ds → RdA G' vs ds
theorem RdMono.refl (G : Heap) : RdMono G G := ⟨fun _ _ h => h, fun _ _ h => h⟩
theorem RdMono.of_stays {G G' : Heap} (k : G.StaysIn G') : RdMono G G' := ⟨fun _ _ h => h.up k, fun _ _ h => h.up k⟩
theorem RdMono.trans {G G' G'' : Heap} (a : RdMono G G') (b : RdMono G' G'') : RdMono G G'' := ⟨fun v d h => b.one v d (a.one v d h), fun v d h => b.all v d (a.all v d h)⟩
theorem Gat.stays {g G h : Heap} {L : Addr} {ex news : List (Addr × Obj)} {m : Str → Option Value} (q : Gat g L ex G) (F : Fr g L h m) (N : News g L h news) (hs : ∀ p ∈ ex, p ∈ news) : G.StaysIn h := q.up F N hs
theorem codeRec_keep {G G' : Heap} {mods : List Addr} {v : Value} {q : Str} (k : Keep mods G G') (hm : ∀ b ∈ mods, ∃ ws e, G.get? b = some (listOf ws e)) (r : G.CodeRec v q) : G'.CodeRec v q := by
  obtain ⟨c₂, oc, vs, t, e2, hoc, hd, hv⟩ := r
  refine ⟨c₂, oc, vs, t, e2, k _ _ hoc fun z => ?_, hd, hv⟩
  obtain ⟨ws, e, q⟩ := hm _ z
  rw [hoc] at q
  have := Option.some.inj q
  rw [this] at hd
  cases hd
section
variable {prog : Program} {w : World} {A : Around} {s : Shared} {H : Heap} {Q : Value → Shared → Prop} {E : Value → Shared → Prop} {T : TRef} {x0 : RRef} {L : Addr} {m : Str → Option Value} {ps : Array Value} {fx ex : List (Addr × Obj)} {G : Heap}
/-- what the law may hand to _law_plain_right -/
noncomputable def PlainOk (kind target : Str) : Prop := PyData.strOk target = true ∧ ((kind = Str.ofString "text" ∧ target = Str.ofString "") ∨ (kind = Str.ofString "comment" ∧ target = Str.ofString "") ∨ kind = Str.ofString "instruction")
theorem plain_ls {kind target value : Str} {tk1 tk2 tk3 tp : Tok} {p : Int} {k : Nat} (hp : p = 0) (S : St 530 w A s.heap H) (F : Fr H L s.heap m) (N : News H L s.heap (fx ++ ex)) (W : Lw H L T x0 k ps fx ex G) (hk : k ≤ 100) (ok : PlainOk kind target) (hv : PyData.strOk value = true)
    (q : ∀ h' tk' ex' G', Fr H L h' m → News H L h' (fx ++ ex') → Lw H L T x0 (k + 1) ps fx ex' G' → RdMono G G' → Q (.bool true) { s with heap := h', toks := tk' }) :
    wpAny (model prog w) A (call (.ref 367) [.ref T.t, .int p tp, .str kind tk1, .str target tk2, .str value tk3]) Q E s := by
  subst hp
  obtain ⟨gat, off, ⟨xs, ds, d0, tG, gn, hxl, hx0, hd0, hkd, hch⟩, tab⟩ := W
  have up := gat.up F N fun p hp => List.mem_append_right _ hp
  have fin : ∀ x n h' tk' u, Keep [T.l, x0.c] s.heap h' → TreeAt h' T (xs ++ [x]) (ds.set 0 { d0 with ch := d0.ch ++ [.int xs.length u] } ++ [n]) → (∀ b ∈ x.r :: x.d :: x.lists, s.heap.get? b = none) → Q (.bool true) { s with heap := h', toks := tk' } := by
    intro x n h' tk' u kp t' fr
    obtain ⟨G', ex', gq', tG', F', N', hoff', kG', gn'⟩ := gather_tree (own := fx) F N off gat tG gn kp (by
      intro b hb
      simp only [List.mem_cons, List.not_mem_nil, or_false] at hb
      rcases hb with rfl | rfl
      · simp [objs]
      · exact lists_objs (mem_lists (List.mem_of_getElem? hx0) (by simp [RRef.lists]))) t' fr
    have hm : ∀ b ∈ [T.l, x0.c], ∃ ws e, G.get? b = some (listOf ws e) := by
      intro b hb
      simp only [List.mem_cons, List.not_mem_nil, or_false] at hb
      rcases hb with rfl | rfl
      · obtain ⟨e, he⟩ := tG.rows; exact ⟨_, e, he⟩
      · obtain ⟨e, he⟩ := (tG.all _ _ _ hx0 hd0).ch; exact ⟨_, e, he⟩
    refine q h' tk' ex' G' F' N' ⟨gq', hoff', ⟨_, _, _, tG', gn', ?_, ?_, set_app_self hd0, hkd, ?_⟩, ?_⟩ ⟨fun v d r => r.keep kG' hm, fun vs ds r => r.keep kG' hm⟩
    · rw [List.length_append]; exact Nat.succ_le_succ hxl
    · rw [List.getElem?_append_left (List.getElem?_eq_some_iff.mp hx0).1]; exact hx0
    · show (d0.ch ++ [_]).length ≤ k + 1
      rw [List.length_append]; exact Nat.succ_le_succ hch
    · exact tab.imp_right fun ⟨c', e, r⟩ => ⟨c', e, codeRec_keep kG' hm r⟩
  have hH : ∀ b ∈ lists T xs, H.get? b = none := fun b hb => gn b (lists_objs hb)
  rcases ok with ⟨htg, ⟨rfl, rfl⟩ | ⟨rfl, rfl⟩ | rfl⟩
  · exact law_plain_text htg hv S (tG.up up) (by omega) hH (by decide) hd0 hx0 (.inl hkd) (by omega) fin
  · exact law_plain_comment htg hv S (tG.up up) (by omega) hH (by decide) hd0 hx0 (.inl hkd) (by omega) fin
  · exact law_plain_instruction htg hv S (tG.up up) (by omega) hH (by decide) hd0 hx0 (.inl hkd) (by omega) fin
/-- _law_element_right from the law's frame -/
theorem el_ls {l il : Addr} {vs ivs : List Value} {n1 n2 : Nat} {ts : List Told} {inner : List PyData} {k : Nat} {fr : List (Addr × Obj)} (S : St 520 w A s.heap H) (F : Fr H L s.heap m) (N : News H L s.heap (((369, tabObj ps) :: fr) ++ ex)) (W : Lw H L T x0 k ps ((369, tabObj ps) :: fr) ex G)
    (hfr : ∀ p ∈ fr, p.1 ≠ 369) (hl : s.heap.get? l = some (listOf vs.toArray n1)) (r : RdA s.heap vs (ts.map toldD)) (fit : Fit ts inner) (hil : s.heap.get? il = some (listOf ivs.toArray n2)) (ri : RdA s.heap ivs inner) (hcode : CodeHd H 371 369)
    (q : ∀ c' h' tk' ex' G', Fr H L h' m → News H L h' (((369, tabObj (tab1 lamP c')) :: fr) ++ ex') → Lw H L T x0 k (tab1 lamP c') ((369, tabObj (tab1 lamP c')) :: fr) ex' G' → RdMono G G' → Q (.bool true) { s with heap := h', toks := tk' }) :
    wpAny (model prog w) A (call (.ref 372) [.ref l, .ref il]) Q E s := by
  obtain ⟨gat, off, ⟨xs, ds, d0, tG, gn, hxl, hx0, hd0, hkd, hch⟩, tab⟩ := W
  have up := gat.up F N fun p hp => List.mem_append_right _ hp
  have nt := N _ (List.mem_append_left _ (.head _))
  refine law_el_c S hl r fit hil ri nt.1 nt.2.2 hcode (tab.imp_right fun ⟨c', e, r⟩ => ⟨c', e, codeRec_up r up⟩) ?_
  intro c' h' tk' kp ht hcr hnew
  have F' := fr_back F kp (by intro b hb; rw [List.mem_singleton.mp hb]; exact ⟨nt.2.2, nt.2.1⟩)
  have own0 : ∀ b ∈ ((369, tabObj ps) :: fr).map (·.1), H.get? b = none := by
    intro b hb
    obtain ⟨p, hp, rfl⟩ := List.mem_map.mp hb
    exact (N p (List.mem_append_left _ hp)).2.2
  obtain ⟨G', ex', q', Nx, no, Gh', hG'⟩ := gather F' (((369, tabObj ps) :: fr).map (·.1)) own0
  have st : G.StaysIn G' := by
    intro b o e
    have no' : b ∉ ((369, tabObj ps) :: fr).map (·.1) := fun z => by
      obtain ⟨p, hp, rfl⟩ := List.mem_map.mp z
      exact off p hp _ (List.mem_map_of_mem (f := (·.1)) (gat.cov _ _ e (N p (List.mem_append_left _ hp)).2.2)) rfl
    refine hG' b o (kp b o (up b o e) fun z => no' ?_) (fun z => (by rw [z, gat.offL] at e; cases e)) no'
    rw [List.mem_singleton.mp z]
    exact .head _
  refine q c' h' tk' ex' G' F' ?_ ⟨q', ?_, ⟨xs, ds, d0, tG.up st, gn, hxl, hx0, hd0, hkd, hch⟩, .inr ⟨c', rfl, ?_⟩⟩ (.of_stays st)
  · intro p hp
    rcases List.mem_append.mp hp with hp | hp
    · rcases List.mem_cons.mp hp with rfl | hp
      · exact ⟨ht, nt.2⟩
      · have n := N p (List.mem_append_left _ (.tail _ hp))
        exact ⟨kp _ _ n.1 (by simpa using hfr p hp), n.2⟩
    · exact Nx p hp
  · intro p hp b hb z
    obtain ⟨r', hr', rfl⟩ := List.mem_map.mp hb
    refine no r' hr' ?_
    rcases List.mem_cons.mp hp with rfl | hp
    · rw [← z]; exact .head _
    · rw [← z]; exact List.mem_map_of_mem (f := (·.1)) (.tail _ hp)
  · rcases hnew with e0 | e0
    · obtain ⟨c₂, oc, vs2, t, e2, hoc, hd, hv⟩ := hcr
      refine ⟨c₂, oc, vs2, t, e2, ?_, hd, hv⟩
      injection e2 with e2
      refine hG' _ _ hoc (fun z => ?_) fun z => ?_
      · obtain ⟨oL, _, _, hL, _⟩ := F.ns
        rw [e2, z, hL] at e0
        cases e0
      · obtain ⟨p, hp, hz⟩ := List.mem_map.mp z
        rw [e2, ← hz, (N p (List.mem_append_left _ hp)).1] at e0
        cases e0
    · rcases tab with t0 | ⟨c2, t0, r2⟩
      · rw [t0] at e0; cases e0
      · rw [t0] at e0
        have : c2 = c' := by simpa [tab1] using e0
        subst this
        exact codeRec_up r2 st
end
theorem off_cons {D : Addr} {o : Obj} {fx ex : List (Addr × Obj)} (h : AllLt D ex) (k : OwnOff fx (ex.map (·.1))) : OwnOff ((D, o) :: fx) (ex.map (·.1)) := by
  intro p hp b hb z
  rcases List.mem_cons.mp hp with rfl | hp
  · obtain ⟨r, hr, rfl⟩ := List.mem_map.mp hb
    exact absurd (allLt_mem h r hr) (by rw [← z]; exact Nat.lt_irrefl _)
  · exact k p hp b hb z
theorem off_sub {fx fx' : List (Addr × Obj)} {bs : List Addr} (k : OwnOff fx bs) (h : ∀ p ∈ fx', p ∈ fx) : OwnOff fx' bs := fun p hp => k p (h p hp)
theorem noT_nil : NoTup [] := fun p hp => nomatch hp
theorem noT_cons {a : Addr} {o : Obj} {fx : List (Addr × Obj)} (h : ∀ vs n, o ≠ ({ cls := .type "tuple", data := .seq vs n } : Obj)) (k : NoTup fx) : NoTup ((a, o) :: fx) := by
  intro p hp vs n e
  rcases List.mem_cons.mp hp with rfl | hp
  · exact h vs n e
  · exact k p hp vs n e
theorem noT_app {a b : List (Addr × Obj)} (h : NoTup a) (k : NoTup b) : NoTup (a ++ b) := fun p hp => (List.mem_append.mp hp).elim (h p) (k p)
theorem noT_list {vs : Array Value} {e : Nat} : ∀ ws n, listOf vs e ≠ ({ cls := .type "tuple", data := .seq ws n } : Obj) := fun ws n e => by
  have := congrArg Obj.cls e
  exact absurd this (by simp [W.listOf])
theorem noT_cell {o : Obj} {c : Option Value} (h : o.data = .cell c) : ∀ ws n, o ≠ ({ cls := .type "tuple", data := .seq ws n } : Obj) := fun ws n e => by
  rw [e] at h; cases h
theorem noT_tab {ps : Array Value} : ∀ ws n, tabObj ps ≠ ({ cls := .type "tuple", data := .seq ws n } : Obj) := fun ws n e => by
  have := congrArg Obj.data e
  cases this
section
variable {H : Heap} {T : TRef} {x0 : RRef} {L : Addr} {m : Str → Option Value} {ps : Array Value} {fx fx' ex own news : List (Addr × Obj)} {G h : Heap} {k : Nat}
theorem Lw.addOwn (W : Lw H L T x0 k ps fx ex G) (ho : OwnOff own ((fx ++ ex).map (·.1))) : Lw H L T x0 k ps (fx ++ own) ex G :=
  ⟨W.gat, fun p hp b hb => (List.mem_append.mp hp).elim (fun h => W.off p h b hb) (fun h => ho p h b (by rw [List.map_append]; exact List.mem_append_right _ hb)), W.tree, W.tab⟩
theorem Lw.re (W : Lw H L T x0 k ps fx ex G) (h : OwnOff fx' (ex.map (·.1))) : Lw H L T x0 k ps fx' ex G := ⟨W.gat, h, W.tree, W.tab⟩
theorem Lw.sub (W : Lw H L T x0 k ps fx ex G) (h : ∀ p ∈ fx', p ∈ fx) : Lw H L T x0 k ps fx' ex G := ⟨W.gat, off_sub W.off h, W.tree, W.tab⟩
theorem lp_off {ex' : List (Addr × Obj)} (h : OwnOff own ((fx ++ ex).map (·.1))) (kk : OwnOff (fx' ++ own) (ex'.map (·.1))) (hf : fx'.map (·.1) = fx.map (·.1)) : OwnOff own ((fx' ++ ex').map (·.1)) := by
  intro p hp b hb
  rw [List.map_append] at hb
  rcases List.mem_append.mp hb with hb | hb
  · exact h p hp b (by rw [List.map_append]; exact List.mem_append_left _ (hf ▸ hb))
  · exact kk p (List.mem_append_right _ hp) b hb
/-- all that is not written in fx' is gathered anew -/
theorem lw_gather (F : Fr H L h m) (N : News H L h news) (hfx : ∀ p ∈ fx', p ∈ news) (hex : ∀ p ∈ ex, p ∈ news) (W : Lw H L T x0 k ps fx ex G) (hoff : OwnOff fx' (ex.map (·.1))) (nt : NoTup fx') :
    ∃ ex' G', News H L h (fx' ++ ex') ∧ Lw H L T x0 k ps fx' ex' G' ∧ RdMono G G' ∧ (∀ v d, Rd h v d → Rd G' v d) ∧ (∀ vs ds, RdA h vs ds → RdA G' vs ds) := by
  have N1 : News H L h (fx' ++ ex) := fun p hp => N p ((List.mem_append.mp hp).elim (hfx p) (hex p))
  obtain ⟨gat, _, ⟨xs, ds, d0, tG, gn, hxl, hx0, hd0, hkd, hch⟩, tab⟩ := W
  obtain ⟨G', ex', gq', N', hoff', st, hG'⟩ := gather_same (own := fx') F N1 hoff gat (Keep.refl _ _) F
  have hk : ∀ b vs n, h.get? b = some { cls := .type "tuple", data := .seq vs n } → G'.get? b = some { cls := .type "tuple", data := .seq vs n } := fun b vs n e => by
    refine hG' b _ e (tup_ne_L F e) fun z => ?_
    obtain ⟨p, hp, rfl⟩ := List.mem_map.mp z
    have e1 := (N p (hfx p hp)).1
    rw [e] at e1
    exact nt p hp vs n (Option.some.inj e1).symm
  exact ⟨ex', G', N', ⟨gq', hoff', ⟨xs, ds, d0, tG.up st, gn, hxl, hx0, hd0, hkd, hch⟩, tab.imp_right fun ⟨c', e, r⟩ => ⟨c', e, codeRec_up r st⟩⟩, .of_stays st, fun v d r => r.upT hk, fun vs ds r => r.upT hk⟩
end
theorem mmP {α : Type} {p : α} {fx own ex : List α} (h : p ∈ (fx ++ own) ++ ex) : p ∈ (fx ++ ex) ++ own := by
  simp only [List.mem_append] at h ⊢
  rcases h with (h | h) | h
  · exact .inl (.inl h)
  · exact .inr h
  · exact .inl (.inr h)
theorem mmQ {α : Type} {p : α} {fx own ex : List α} (h : p ∈ fx ++ ex) : p ∈ (fx ++ own) ++ ex := by
  simp only [List.mem_append] at h ⊢
  exact h.elim (fun h => .inl (.inl h)) .inr
theorem mmR {α : Type} {p : α} {fx own ex : List α} (h : p ∈ own) : p ∈ (fx ++ own) ++ ex := by
  simp only [List.mem_append]
  exact .inl (.inr h)
/-- a goal that the walk is to leave alone -/
structure Hold (p : Prop) : Prop where
  out : p
/-- what a turn of the law changes: the source's two ints, the table's code, what was gathered -/
structure LSt where
  p : Int
  q : Int
  t : Tok
  u : Tok
  e : Nat
  c : Addr
  ex : List (Addr × Obj)
noncomputable abbrev srcO (c : LSt) : Obj := listOf #[.int c.p c.t, .int c.q c.u] c.e
/-- what the loop over the menus changes -/
structure MSt where
  p : Int
  q : Int
  t : Tok
  u : Tok
  e : Nat
  vL : List Value
  eL : Nat
  tL : List Told
  vC : List Value
  eC : Nat
  tC : List Told
  vO : List Value
  eO : Nat
  tO : List Told
theorem off_cons' {D : Addr} {o : Obj} {fx ex own : List (Addr × Obj)} (h : AllLt D (ex ++ own)) (k : OwnOff fx (ex.map (·.1))) : OwnOff ((D, o) :: fx) (ex.map (·.1)) := by
  intro p hp b hb z
  rcases List.mem_cons.mp hp with rfl | hp
  · obtain ⟨r, hr, rfl⟩ := List.mem_map.mp hb
    exact absurd (allLt_mem h r (List.mem_append_left _ hr)) (by rw [← z]; exact Nat.lt_irrefl _)
  · exact k p hp b hb z
noncomputable def pairD (p : Str × Str) : PyData := .tuple [.str p.1, .str p.2]
end Mine
namespace Mine
noncomputable abbrev sO (s : String) : Str := Str.ofString s
noncomputable def someM : List Told := [.a (sO "") (sO "b") (sO "b") (sO "1"), .a (sO "u:1") (sO "a") (sO "p:a") (sO "2"), .a (sO "") (sO "a") (sO "a") (sO ""), .a (sO "u:3") (sO "b") (sO "q:b") (sO "1")]
noncomputable def moreM : List Told := [.d (sO "") (sO "u:2"), .d (sO "p") (sO "u:1"), .d (sO "a") (sO "")]
noncomputable def menu7 : List Told := someM ++ moreM
noncomputable def Leaf (d : PyData) : Prop := ∃ k v, PyData.strOk k = true ∧ PyData.strOk v = true ∧ d = formD k (.str (sO "")) v [] []

/-- what the answers asked so far say of two places -/
noncomputable def edge (fs : List (Nat × Nat × Bool)) (a b : Nat) : Bool := fs.any fun x => (x.1 == a && x.2.1 == b && x.2.2) || (x.1 == b && x.2.1 == a && !x.2.2)
noncomputable def reach (fs : List (Nat × Nat × Bool)) : Nat → Nat → Nat → Bool
  | 0, a, b => edge fs a b
  | k + 1, a, b => edge fs a b || (List.range 4).any fun c => edge fs a c && reach fs k c b
noncomputable def adjOk (fs : List (Nat × Nat × Bool)) : List Nat → Bool
  | a :: b :: r => reach fs 3 a b && adjOk fs (b :: r)
  | _ => true
noncomputable def kAdj (n : Nat) : List (Nat × Nat × Bool) → KasT (Array Nat) → Bool
  | fs, .ret p => (p.toList.isPerm (List.range n) && adjOk fs p.toList) || (List.range 4).any fun c => reach fs 3 c c
  | fs, .ask i j k => decide (i < n) && decide (j < n) && (i != j) && kAdj n ((i, j, true) :: fs) (k true) && kAdj n ((i, j, false) :: fs) (k false)
theorem kAdj_2 : kAdj 2 [] (kas_sort 2) = true := by decide +kernel
theorem kAdj_3 : kAdj 3 [] (kas_sort 3) = true := by decide +kernel
theorem kAdj_4 : kAdj 4 [] (kas_sort 4) = true := by decide +kernel
noncomputable def Asc (ρ : Nat → Nat) : List Nat → Prop
  | a :: b :: r => ρ a < ρ b ∧ Asc ρ (b :: r)
  | _ => True
noncomputable def Known (ρ : Nat → Nat) (fs : List (Nat × Nat × Bool)) : Prop := ∀ x ∈ fs, (x.2.2 = true → ρ x.1 < ρ x.2.1) ∧ (x.2.2 = false → ρ x.2.1 < ρ x.1)
section
variable {ρ : Nat → Nat} {fs : List (Nat × Nat × Bool)}
theorem edge_s (h : Known ρ fs) {a b : Nat} (e : edge fs a b = true) : ρ a < ρ b := by
  obtain ⟨x, hx, e2⟩ := List.any_eq_true.mp e
  simp only [Bool.or_eq_true, Bool.and_eq_true, beq_iff_eq, Bool.not_eq_true'] at e2
  rcases e2 with ⟨⟨e3, e4⟩, e5⟩ | ⟨⟨e3, e4⟩, e5⟩
  · rw [← e3, ← e4]; exact (h x hx).1 e5
  · rw [← e3, ← e4]; exact (h x hx).2 e5
theorem reach_s (h : Known ρ fs) : ∀ (k a b : Nat), reach fs k a b = true → ρ a < ρ b
  | 0, a, b, e => edge_s h e
  | k + 1, a, b, e => by
    simp only [reach, Bool.or_eq_true, List.any_eq_true, Bool.and_eq_true] at e
    rcases e with e | ⟨c, _, e1, e2⟩
    · exact edge_s h e
    · exact Nat.lt_trans (edge_s h e1) (reach_s h k c b e2)
theorem adj_s (h : Known ρ fs) : ∀ p : List Nat, adjOk fs p = true → Asc ρ p
  | [], _ => trivial
  | [_], _ => trivial
  | a :: b :: r, e => by
    simp only [adjOk, Bool.and_eq_true] at e
    exact ⟨reach_s h 3 a b e.1, adj_s h (b :: r) e.2⟩
theorem kAdj_s {n : Nat} {lt : Nat → Nat → Bool} (hlt : ∀ i j, i < n → j < n → i ≠ j → (lt i j = true → ρ i < ρ j) ∧ (lt i j = false → ρ j < ρ i)) :
    ∀ (t : KasT (Array Nat)) (fs : List (Nat × Nat × Bool)), kAdj n fs t = true → Known ρ fs → (kRun lt t).toList.Perm (List.range n) ∧ Asc ρ (kRun lt t).toList
  | .ret p, fs, e, h => by
    simp only [kAdj, Bool.or_eq_true, Bool.and_eq_true] at e
    rcases e with e | e
    · exact ⟨List.isPerm_iff.mp e.1, adj_s h _ e.2⟩
    · obtain ⟨c, _, e⟩ := List.any_eq_true.mp e
      exact absurd (reach_s h 3 c c e) (Nat.lt_irrefl _)
  | .ask i j k, fs, e, h => by
    simp only [kAdj, Bool.and_eq_true, decide_eq_true_eq, bne_iff_ne, ne_eq] at e
    obtain ⟨⟨⟨⟨hi, hj⟩, hne⟩, e1⟩, e2⟩ := e
    have hh := hlt i j hi hj hne
    show (kRun lt (k (lt i j))).toList.Perm (List.range n) ∧ Asc ρ (kRun lt (k (lt i j))).toList
    cases q : lt i j with
    | true =>
      refine kAdj_s hlt (k true) _ e1 fun x hx => ?_
      rcases List.mem_cons.mp hx with rfl | hx
      · exact ⟨fun _ => hh.1 q, (fun z => by cases z)⟩
      · exact h x hx
    | false =>
      refine kAdj_s hlt (k false) _ e2 fun x hx => ?_
      rcases List.mem_cons.mp hx with rfl | hx
      · exact ⟨(fun z => by cases z), fun _ => hh.2 q⟩
      · exact h x hx
theorem Asc.head : ∀ {l : List Nat} {a : Nat}, Asc ρ (a :: l) → ∀ b ∈ l, ρ a < ρ b
  | [], _, _, b, hb => nomatch hb
  | c :: r, a, h, b, hb => by
    rcases List.mem_cons.mp hb with rfl | hb
    · exact h.1
    · exact Nat.lt_trans h.1 (Asc.head h.2 b hb)
theorem Asc.tail : ∀ {l : List Nat} {a : Nat}, Asc ρ (a :: l) → Asc ρ l
  | [], _, _ => trivial
  | _ :: _, _, h => h.2
theorem Asc.pw : ∀ {l : List Nat}, Asc ρ l → l.Pairwise (fun a b => ρ a ≤ ρ b)
  | [], _ => .nil
  | _ :: _, h => .cons (fun b hb => Nat.le_of_lt (h.head b hb)) h.tail.pw
end
theorem map_getD_range {α : Type} (xs : List α) (d : α) : (List.range xs.length).map (fun i => xs.getD i d) = xs := by
  refine List.ext_getElem (by simp) fun i h1 h2 => ?_
  simp [List.getD_eq_getElem?_getD, List.getElem?_eq_getElem h2]
/-- the seven keys, rising -/
noncomputable def keys7 : List Key := [(sO "", sO "a"), (sO "", sO "b"), (xmlnsUri, sO ""), (xmlnsUri, sO "a"), (xmlnsUri, sO "p"), (sO "u:1", sO "a"), (sO "u:3", sO "b")]
noncomputable def rk (k : Key) : Nat := keys7.findIdx fun k' => decide (k' = k)
theorem rk_lt : ∀ k ∈ keys7, ∀ k' ∈ keys7, k ≠ k' → (kLt k k' = true → rk k < rk k') ∧ (kLt k k' = false → rk k' < rk k) := by decide +kernel
theorem rk_inj : ∀ k ∈ keys7, ∀ k' ∈ keys7, rk k = rk k' → k = k' := by decide +kernel
theorem kAdj_n {n : Nat} (h2 : 2 ≤ n) (h4 : n ≤ 4) : kAdj n [] (kas_sort n) = true := by
  have : n = 2 ∨ n = 3 ∨ n = 4 := by omega
  rcases this with rfl | rfl | rfl
  · exact kAdj_2
  · exact kAdj_3
  · exact kAdj_4
section
variable {α : Type} {xs : List α} {d : α} {κ : α → Key}
theorem sort_of (hk : ∀ x ∈ xs, κ x ∈ keys7) (hn : (xs.map κ).Nodup) (h4 : xs.length ≤ 4) :
    (∀ i ∈ sortIdx (xs.map κ), i < xs.length) ∧ ((sortIdx (xs.map κ)).map fun i => xs.getD i d).Perm xs ∧ ((sortIdx (xs.map κ)).map fun i => xs.getD i d).Pairwise (fun a b => rk (κ a) ≤ rk (κ b)) := by
  by_cases h2 : xs.length < 2
  · have e : sortIdx (xs.map κ) = List.range xs.length := by unfold sortIdx; rw [List.length_map, if_pos h2]
    rw [e, map_getD_range]
    refine ⟨fun i hi => List.mem_range.mp hi, .refl _, ?_⟩
    match xs, h2 with
    | [], _ => exact .nil
    | [a], _ => exact .cons (fun _ h => nomatch h) .nil
  · have e : sortIdx (xs.map κ) = (kRun (fun i j => kLt ((xs.map κ).getD i noKey) ((xs.map κ).getD j noKey)) (kas_sort xs.length)).toList := by unfold sortIdx; rw [List.length_map, if_neg h2]
    have hg : ∀ i, i < xs.length → (xs.map κ).getD i noKey = κ (xs.getD i d) ∧ κ (xs.getD i d) ∈ keys7 := fun i hi => by
      have e1 : xs.getD i d = xs[i] := by simp [List.getD_eq_getElem?_getD, List.getElem?_eq_getElem hi]
      have e2 : (xs.map κ).getD i noKey = κ xs[i] := by simp [List.getD_eq_getElem?_getD, List.getElem?_eq_getElem hi]
      rw [e1, e2]
      exact ⟨rfl, hk _ (List.getElem_mem hi)⟩
    obtain ⟨hp, ha⟩ := kAdj_s (ρ := fun i => rk (κ (xs.getD i d))) (n := xs.length) (lt := fun i j => kLt ((xs.map κ).getD i noKey) ((xs.map κ).getD j noKey)) (fun i j hi hj hne => by
      rw [(hg i hi).1, (hg j hj).1]
      refine rk_lt _ (hg i hi).2 _ (hg j hj).2 fun z => hne ?_
      have z2 : (xs.map κ)[i]'(by simpa using hi) = (xs.map κ)[j]'(by simpa using hj) := by
        have := (hg i hi).1.trans (z.trans (hg j hj).1.symm)
        simpa [List.getD_eq_getElem?_getD, List.getElem?_eq_getElem hi, List.getElem?_eq_getElem hj] using this
      exact (List.getElem_inj hn).mp z2) (kas_sort xs.length) [] (kAdj_n (by omega) h4) (fun _ h => nomatch h)
    rw [← e] at hp ha
    refine ⟨fun i hi => List.mem_range.mp (hp.mem_iff.mp hi), ?_, ?_⟩
    · have := hp.map fun i => xs.getD i d
      rw [map_getD_range] at this
      exact this
    · exact List.pairwise_map.mpr ha.pw
end
noncomputable def kT (t : Told) : Key := (toldK t).key
theorem menu_keys : ∀ t ∈ menu7, kT t ∈ keys7 := by
  have h : ∀ k ∈ menu7.map kT, k ∈ keys7 := by decide +kernel
  exact fun t ht => h _ (List.mem_map_of_mem ht)
theorem menu_nodup : (menu7.map kT).Nodup := by decide +kernel
theorem menu_ok : ∀ t ∈ menu7, t.ok := by
  intro t ht
  simp only [menu7, someM, moreM, List.cons_append, List.nil_append, List.mem_cons, List.not_mem_nil, or_false] at ht
  rcases ht with rfl | rfl | rfl | rfl | rfl | rfl | rfl
  all_goals first
    | (show (_ == _) = false; decide +kernel)
    | (show _ ≤ 1000; decide +kernel)
theorem menu_rows : ∀ r ∈ menu7.map toldK, (kD r).canLay0 = true ∧ (kD r).depth ≤ 3 ∧ r.k2.length ≤ 1000 ∧ PyData.strOk r.name = true := by decide +kernel
theorem menu_inj : ∀ r ∈ menu7.map toldK, ∀ r' ∈ menu7.map toldK, rk r.key = rk r'.key → r = r' := by
  intro r hr r' hr' e
  obtain ⟨t, ht, rfl⟩ := List.mem_map.mp hr
  obtain ⟨t', ht', rfl⟩ := List.mem_map.mp hr'
  have ek : kT t = kT t' := rk_inj _ (menu_keys t ht) _ (menu_keys t' ht') e
  obtain ⟨i, hi, e1⟩ := List.mem_iff_getElem.mp ht
  obtain ⟨j, hj, e2⟩ := List.mem_iff_getElem.mp ht'
  have e3 : (menu7.map kT)[i]'(by simpa using hi) = (menu7.map kT)[j]'(by simpa using hj) := by rw [List.getElem_map, List.getElem_map, e1, e2, ek]
  have e4 : i = j := (List.getElem_inj menu_nodup).mp e3
  subst e4
  rw [← e1, ← e2]
theorem lay_all : ∀ {xs : List PyData}, (∀ x ∈ xs, x.canLay0 = true) → PyData.canLayAll0 xs = true
  | [], _ => by simp [PyData.canLayAll0]
  | x :: xs, h => by
    rw [PyData.canLayAll0, h x (.head _), lay_all fun y hy => h y (.tail _ hy)]; rfl
theorem dep_all {k : Nat} : ∀ {xs : List PyData}, (∀ x ∈ xs, x.depth ≤ k) → PyData.depthAll xs ≤ k
  | [], _ => by simp [PyData.depthAll]
  | x :: xs, h => by
    rw [PyData.depthAll]
    exact Nat.max_le.mpr ⟨h x (.head _), dep_all fun y hy => h y (.tail _ hy)⟩
theorem leaf_lay {d : PyData} (h : Leaf d) : d.canLay0 = true ∧ d.depth ≤ 3 := by
  obtain ⟨k, v, hk, hv, rfl⟩ := h
  have he : PyData.strOk (sO "") = true := by decide +kernel
  constructor
  · simp [formD, PyData.canLay0, PyData.canLayAll0, hk, hv, he]
  · simp [formD, PyData.depth, PyData.depthAll]
theorem listed_perm (ts : List Told) : (listed ts).Perm (ts.map toldK) := by
  have e : listed ts = (ts.filter Told.isA ++ ts.filter (fun t => !t.isA)).map toldK := by
    unfold listed
    rw [List.map_append]
    rfl
  rw [e]
  exact (List.filter_append_perm Told.isA ts).map toldK
theorem shaped_list {rs : List PyData} (h : ∀ d ∈ rs, d.canLay0 = true ∧ d.depth ≤ 3) : SeqAt.shaped (.list rs) = true := by
  have h1 := lay_all fun x hx => (h x hx).1
  have h2 := dep_all fun x hx => (h x hx).2
  simp only [SeqAt.shaped, PyData.canLay0, PyData.depth, h1, Bool.true_and]
  exact decide_eq_true (by omega)
theorem shaped_formD {k : Str} {lab : PyData} {rs : List KRow} {inner : List PyData} (hk : PyData.strOk k = true) (hl : lab.canLay0 = true ∧ lab.depth ≤ 3) (hr : ∀ r ∈ rs, (kD r).canLay0 = true ∧ (kD r).depth ≤ 3) (hi : ∀ d ∈ inner, d.canLay0 = true ∧ d.depth ≤ 3) :
    SeqAt.shaped (formD k lab (Str.ofString "") rs inner) = true := by
  have he : PyData.strOk (Str.ofString "") = true := by decide +kernel
  have r1 : PyData.canLayAll0 (rs.map kD) = true := lay_all fun x hx => by obtain ⟨r, h1, rfl⟩ := List.mem_map.mp hx; exact (hr r h1).1
  have r2 : PyData.depthAll (rs.map kD) ≤ 3 := dep_all fun x hx => by obtain ⟨r, h1, rfl⟩ := List.mem_map.mp hx; exact (hr r h1).2
  have i1 := lay_all fun x hx => (hi x hx).1
  have i2 := dep_all fun x hx => (hi x hx).2
  simp only [SeqAt.shaped, formD, PyData.canLay0, PyData.canLayAll0, PyData.depth, PyData.depthAll, hk, hl.1, he, r1, i1, Bool.true_and, Bool.and_true]
  have := hl.2
  exact decide_eq_true (by omega)
theorem fit_all {ts : List Told} {inner : List PyData} (h : ∃ r, (ts ++ r).Perm menu7) (h4 : ts.length ≤ 4) (hi : ∀ d ∈ inner, Leaf d) (h10 : inner.length ≤ 10) : Fit ts inner := by
  obtain ⟨r, hp⟩ := h
  have hm : ∀ t ∈ ts, t ∈ menu7 := fun t ht => hp.mem_iff.mp (List.mem_append_left _ ht)
  have hnd : (ts.map kT).Nodup := by
    have := (hp.map kT).nodup_iff.mpr menu_nodup
    rw [List.map_append] at this
    exact (List.nodup_append.mp this).1
  have hok : ∀ t ∈ ts, t.ok := fun t ht => menu_ok t (hm t ht)
  have lp := listed_perm ts
  have hLl : (listed ts).length ≤ 4 := by rw [lp.length_eq, List.length_map]; exact h4
  have hLm : ∀ x ∈ listed ts, x ∈ menu7.map toldK := fun x hx => by
    obtain ⟨t, ht, rfl⟩ := List.mem_map.mp (lp.mem_iff.mp hx)
    exact List.mem_map_of_mem (hm t ht)
  have kk : ∀ x ∈ menu7.map toldK, x.key ∈ keys7 := fun x hx => by
    obtain ⟨t, ht, rfl⟩ := List.mem_map.mp hx
    exact menu_keys t ht
  have ndL : ((listed ts).map KRow.key).Nodup := by
    refine (lp.map KRow.key).nodup_iff.mpr ?_
    rw [List.map_map]; exact hnd
  obtain ⟨_, pL, sL⟩ := sort_of (d := noRow) (κ := KRow.key) (fun x hx => kk x (hLm x hx)) ndL hLl
  obtain ⟨_, pT, sT⟩ := sort_of (d := noTold) (κ := kT) (fun x hx => menu_keys x (hm x hx)) hnd h4
  have pL' : (sortK (listed ts)).Perm (listed ts) := pL
  have pT' : (byK ts).Perm ts := pT
  have same : sortK (listed ts) = (byK ts).map toldK := by
    refine List.Perm.eq_of_pairwise (le := fun a b : KRow => rk a.key ≤ rk b.key) (fun a b ha hb h1 h2 => ?_) sL (List.pairwise_map.mpr sT) (pL'.trans (lp.trans (pT'.map toldK).symm))
    refine menu_inj a (hLm a (pL'.mem_iff.mp ha)) b ?_ (Nat.le_antisymm h1 h2)
    obtain ⟨t, ht, rfl⟩ := List.mem_map.mp hb
    exact List.mem_map_of_mem (hm t (pT'.mem_iff.mp ht))
  have hSm : ∀ x ∈ sortK (listed ts), x ∈ menu7.map toldK := fun x hx => hLm x (pL'.mem_iff.mp hx)
  have hokB : ∀ t ∈ byK ts, t.ok := fun t ht => hok t (pT'.mem_iff.mp ht)
  have hLB : ∀ x ∈ listed (byK ts), x ∈ menu7.map toldK := fun x hx => by
    obtain ⟨t, ht, rfl⟩ := List.mem_map.mp ((listed_perm (byK ts)).mem_iff.mp hx)
    exact List.mem_map_of_mem (hm t (pT'.mem_iff.mp ht))
  have rows : ∀ {rs : List KRow}, (∀ x ∈ rs, x ∈ menu7.map toldK) → ∀ d ∈ rs.map kD, d.canLay0 = true ∧ d.depth ≤ 3 := fun hr d hd => by
    obtain ⟨x, hx, rfl⟩ := List.mem_map.mp hd
    exact ⟨(menu_rows x (hr x hx)).1, (menu_rows x (hr x hx)).2.1⟩
  have e2 : ((sortK (listed ts)).filter KRow.isA).map (fun r => PyData.str r.name) = ((byK ts).filter Told.isA).map fun t => PyData.str t.n3 := by
    rw [same, List.filter_map, List.map_map]
    have : (byK ts).filter (KRow.isA ∘ toldK) = (byK ts).filter Told.isA := List.filter_congr fun t ht => told_A (hokB t ht)
    rw [this]
    refine List.map_congr_left fun t ht => ?_
    have hA := (List.mem_filter.mp ht).2
    cases t with
    | a u l n v => rfl
    | d p u => cases hA
  exact {
    ok := hok, four := h4, nd := by rw [List.map_map]; exact hnd, ndL := ndL
    shF := shaped_formD (by decide +kernel) (by decide +kernel) (fun x hx => ⟨(menu_rows x (hSm x hx)).1, (menu_rows x (hSm x hx)).2.1⟩) fun d hd => leaf_lay (hi d hd)
    shR := shaped_formD (by decide +kernel) (by decide +kernel) (fun _ h => nomatch h) fun d hd => leaf_lay (hi d hd)
    ndS := (pL'.map KRow.key).nodup_iff.mpr ndL
    lenS := by rw [pL'.length_eq]; exact hLl
    shL := shaped_list (rows hLm)
    ten := h10
    short := fun x hx => (menu_rows x (hSm x hx)).2.2.1
    end1 := by rw [same]; exact el_listed hokB
    end2 := e2
    shE := shaped_list (rows hLB)
    shN := by
      rw [← e2]
      refine shaped_list fun d hd => ?_
      obtain ⟨x, hx, rfl⟩ := List.mem_map.mp hd
      have := (menu_rows x (hSm x (List.mem_filter.mp hx).1)).2.2.2
      exact ⟨by simpa [PyData.canLay0] using this, by simp [PyData.depth]⟩ }
end Mine
namespace Mine
theorem St.mono {n n' : Nat} {w : World} {A : Around} {h H : Heap} (S : St n w A h H) (hn : n ≤ n') : St n' w A h H := ⟨S.XH, S.TH, S.W, Nat.le_trans S.dp hn, Nat.le_trans S.un (Nat.mul_le_mul_left _ hn), S.hh⟩
/-- the written objects stand apart from one another and from the rest -/
structure Apart (fx tail : List (Addr × Obj)) : Prop where
  nd : (fx.map (·.1)).Nodup
  off : OwnOff fx (tail.map (·.1))
section
variable {fx fx' tail tail' pre post : List (Addr × Obj)} {D : Addr} {o o' : Obj}
theorem Apart.same (a : Apart fx tail) (h : fx'.map (·.1) = fx.map (·.1)) : Apart fx' tail := ⟨h ▸ a.nd, fun p hp b hb z => by
  have : p.1 ∈ fx.map (·.1) := h ▸ List.mem_map_of_mem hp
  obtain ⟨p', hp', e⟩ := List.mem_map.mp this
  exact a.off p' hp' b hb (e.trans z)⟩
theorem Apart.pre_ne (a : Apart (pre ++ (D, o) :: post) tail) : ∀ p ∈ pre, p.1 ≠ D := fun p hp z => by
  have h := a.nd
  rw [List.map_append, List.nodup_append] at h
  exact h.2.2 _ (List.mem_map_of_mem hp) _ (by simp) z
theorem Apart.post_ne (a : Apart (pre ++ (D, o) :: post) tail) : ∀ p ∈ post ++ tail, p.1 ≠ D := fun p hp z => by
  rcases List.mem_append.mp hp with hp | hp
  · have h := a.nd
    rw [List.map_append, List.nodup_append] at h
    have h2 := h.2.1
    rw [List.map_cons, List.nodup_cons] at h2
    exact h2.1 (List.mem_map.mpr ⟨p, hp, z⟩)
  · exact a.off (D, o) (by simp) p.1 (List.mem_map_of_mem hp) z.symm
theorem Apart.more (a : Apart fx tail) (h : OwnOff tail' ((fx ++ tail).map (·.1))) : Apart fx (tail ++ tail') := ⟨a.nd, fun p hp b hb z => by
  rw [List.map_append] at hb
  rcases List.mem_append.mp hb with hb | hb
  · exact a.off p hp b hb z
  · obtain ⟨r, hr, rfl⟩ := List.mem_map.mp hb
    exact h r hr p.1 (by rw [List.map_append]; exact List.mem_append_left _ (List.mem_map_of_mem (f := (·.1)) hp)) z.symm⟩
theorem Apart.perm (a : Apart fx tail) (h : (fx'.map (·.1)).Perm (fx.map (·.1))) : Apart fx' tail := ⟨h.nodup_iff.mpr a.nd, fun p hp b hb z => by
  have : p.1 ∈ fx.map (·.1) := h.mem_iff.mp (List.mem_map_of_mem hp)
  obtain ⟨p', hp', e⟩ := List.mem_map.mp this
  exact a.off p' hp' b hb (e.trans z)⟩
theorem off_of_lt {ys : List (Addr × Obj)} (h : ∀ r ∈ ys, r.1 < D) (k : OwnOff fx (ys.map (·.1))) : OwnOff ((D, o) :: fx) (ys.map (·.1)) := by
  intro p hp b hb z
  rcases List.mem_cons.mp hp with rfl | hp
  · obtain ⟨r, hr, rfl⟩ := List.mem_map.mp hb
    exact absurd (h r hr) (by rw [← z]; exact Nat.lt_irrefl _)
  · exact k p hp b hb z
theorem off_swap {own : List (Addr × Obj)} (h : OwnOff own (fx.map (·.1))) : OwnOff fx (own.map (·.1)) := fun p hp b hb z => by
  obtain ⟨r, hr, rfl⟩ := List.mem_map.mp hb
  exact h r hr p.1 (List.mem_map_of_mem (f := (·.1)) hp) z.symm
theorem off_append {xs ys : List (Addr × Obj)} (h : OwnOff fx (xs.map (·.1))) (k : OwnOff fx (ys.map (·.1))) : OwnOff fx ((xs ++ ys).map (·.1)) := fun p hp b hb z => by
  rw [List.map_append] at hb
  exact (List.mem_append.mp hb).elim (fun q => h p hp b q z) (fun q => k p hp b q z)
theorem off_subR {own xs ys : List (Addr × Obj)} (h : OwnOff own (xs.map (·.1))) (s : ∀ p ∈ ys, p ∈ xs) : OwnOff own (ys.map (·.1)) := fun p hp b hb z => by
  obtain ⟨r, hr, rfl⟩ := List.mem_map.mp hb
  exact h p hp r.1 (List.mem_map_of_mem (f := (·.1)) (s r hr)) z
theorem upd_mk (hp : ∀ p ∈ pre, p.1 ≠ D) (hq : ∀ p ∈ post, p.1 ≠ D) : Upd D o o' (pre ++ (D, o) :: post) (pre ++ (D, o') :: post) := by
  induction pre with
  | nil => exact Upd.head hq
  | cons a r ih => exact Upd.tail (hp a (.head _)) (ih fun p h => hp p (.tail _ h))
end
section
variable {prog : Program} {w : World} {A : Around} {s : Shared} {H : Heap} {Q : Value → Shared → Prop} {E : Value → Shared → Prop} {L : Addr} {m : Str → Option Value} {pre post tail : List (Addr × Obj)}
theorem news_ap {D : Addr} {o o' : Obj} {h h' : Heap} (N : News H L h ((pre ++ (D, o) :: post) ++ tail)) (ap : Apart (pre ++ (D, o) :: post) tail) (F : Fr H L h m) (k : Keep [D] h h') (e : h'.get? D = some o') : Fr H L h' m ∧ News H L h' ((pre ++ (D, o') :: post) ++ tail) := by
  have nD := N (D, o) (by simp)
  refine ⟨fr_back F k (by intro b hb; rw [List.mem_singleton.mp hb]; exact ⟨nD.2.2, nD.2.1⟩), fun p hp => ?_⟩
  have keep : ∀ p ∈ (pre ++ (D, o) :: post) ++ tail, p.1 ≠ D → h'.get? p.1 = some p.2 ∧ p.1 ≠ L ∧ H.get? p.1 = none := fun p hp hne => ⟨k _ _ (N p hp).1 (by simpa using hne), (N p hp).2⟩
  simp only [List.mem_append, List.mem_cons] at hp
  rcases hp with (hp | rfl | hp) | hp
  · exact keep p (by simp [hp]) (ap.pre_ne p hp)
  · exact ⟨e, nD.2⟩
  · exact keep p (by simp [hp]) (ap.post_ne p (by simp [hp]))
  · exact keep p (by simp [hp]) (ap.post_ne p (by simp [hp]))
theorem take_ap {src : Addr} {p q top : Int} {t u tt : Tok} {e : Nat} (S : St 570 w A s.heap H) (F : Fr H L s.heap m) (N : News H L s.heap ((pre ++ (src, listOf #[.int p t, .int q u] e) :: post) ++ tail)) (ap : Apart (pre ++ (src, listOf #[.int p t, .int q u] e) :: post) tail)
    (hp : 0 ≤ p) (hq0 : 0 ≤ q) (hq : q < 2147483647) (ht0 : 1 ≤ top) (ht : top ≤ 10)
    (qq : ∀ r tr p' q' t' u' e' h' tk', 0 ≤ r → r < top → 0 ≤ p' → 0 ≤ q' → q' < 2147483647 → Fr H L h' m → News H L h' ((pre ++ (src, listOf #[.int p' t', .int q' u'] e') :: post) ++ tail) → Q (.int r tr) { s with heap := h', toks := tk' }) :
    wpAny (model prog w) A (call (.ref 334) [.ref src, .int top tt]) Q E s := by
  have nD := N (src, listOf #[.int p t, .int q u] e) (by simp)
  refine law_take_c (S.mono (by decide)) nD.1 nD.2.2 hp hq0 hq ht0 ht ?_
  intro r tr p' q' t' u' e' h' tk' r0 r1 p0 q0 q1 k hl'
  obtain ⟨F', N'⟩ := news_ap N ap F k hl'
  exact qq r tr p' q' t' u' e' h' tk' r0 r1 p0 q0 q1 F' N'
theorem one_ap {src th : Addr} {p q : Int} {t u : Tok} {e n : Nat} {vs : List Value} (S : St 570 w A s.heap H) (F : Fr H L s.heap m) (N : News H L s.heap ((pre ++ (src, listOf #[.int p t, .int q u] e) :: post) ++ tail)) (ap : Apart (pre ++ (src, listOf #[.int p t, .int q u] e) :: post) tail)
    (hth : s.heap.get? th = some (listOf vs.toArray n)) (hne : th ≠ src) (hp : 0 ≤ p) (hq0 : 0 ≤ q) (hq : q < 2147483647) (ht0 : 1 ≤ vs.length) (ht : vs.length ≤ 10)
    (qq : ∀ v p' q' t' u' e' h' tk', v ∈ vs → 0 ≤ p' → 0 ≤ q' → q' < 2147483647 → Fr H L h' m → News H L h' ((pre ++ (src, listOf #[.int p' t', .int q' u'] e') :: post) ++ tail) → Keep [src] s.heap h' → Q v { s with heap := h', toks := tk' }) :
    wpAny (model prog w) A (call (.ref 341) [.ref src, .ref th]) Q E s := by
  have nD := N (src, listOf #[.int p t, .int q u] e) (by simp)
  refine law_one_c S nD.1 nD.2.2 hth hne hp hq0 hq ht0 ht ?_
  intro v p' q' t' u' e' h' tk' hv p0 q0 q1 k hl'
  obtain ⟨F', N'⟩ := news_ap N ap F k hl'
  exact qq v p' q' t' u' e' h' tk' hv p0 q0 q1 F' N' k
theorem cut_at : ∀ (p : List Value) (y : Value) (q : List Value), kl_cut (p ++ y :: q) p.length = some (p, y, q)
  | [], _, _ => rfl
  | x :: p, y, q => by
    show (match kl_cut (p ++ y :: q) p.length with | some (p, y, q) => some (x :: p, y, q) | none => none) = _
    rw [cut_at p y q]
theorem pop_ap {D : Addr} {vs : List Value} {n : Nat} {r : Int} {u : Tok} (F : Fr H L s.heap m) (N : News H L s.heap ((pre ++ (D, listOf vs.toArray n) :: post) ++ tail)) (ap : Apart (pre ++ (D, listOf vs.toArray n) :: post) tail) (r0 : 0 ≤ r) (r1 : r.toNat < vs.length) (hz : vs.length ≤ 100)
    (h : ∀ h', Fr H L h' m → News H L h' ((pre ++ (D, listOf (vs.eraseIdx r.toNat).toArray (n + 1)) :: post) ++ tail) → Q vs[r.toNat] { s with heap := h' }) : wpAny (model prog w) A (call (.builtin "list.pop") [.ref D, .int r u]) Q E s := by
  obtain ⟨k, rfl⟩ : ∃ k : Nat, r = (k : Int) := ⟨r.toNat, by omega⟩
  simp only [Int.toNat_natCast] at r1 h ⊢
  have e : vs = vs.take k ++ vs[k] :: vs.drop (k + 1) := by simp
  have hl : (vs.take k).length = k := by simp; omega
  have hc : kl_cut vs k = some (vs.take k, vs[k], vs.drop (k + 1)) := by
    have := cut_at (vs.take k) vs[k] (vs.drop (k + 1))
    rw [← e, hl] at this
    exact this
  have her : vs.eraseIdx k = vs.take k ++ vs.drop (k + 1) := List.eraseIdx_eq_take_drop_succ ..
  rw [her] at h
  rw [List.append_assoc, List.cons_append] at N
  refine kl_popAt (news' := pre ++ (D, listOf (vs.take k ++ vs.drop (k + 1)).toArray (n + 1)) :: (post ++ tail)) F N (by simp [Builtin.List.listFitsIndex]; omega) (k := k) (seqIndex_of (by omega) (by simpa using r1)) (by simpa using hc) (upd_mk ap.pre_ne ap.post_ne) (by rw [sizeLine_eq]; simp; omega) fun h' F' N' => h h' F' (by rw [List.append_assoc, List.cons_append]; exact N')
theorem ins_ap {D : Addr} {vs : List Value} {n : Nat} {r : Int} {u : Tok} {y : Value} (F : Fr H L s.heap m) (N : News H L s.heap ((pre ++ (D, listOf vs.toArray n) :: post) ++ tail)) (ap : Apart (pre ++ (D, listOf vs.toArray n) :: post) tail) (r0 : 0 ≤ r) (r1 : r.toNat ≤ vs.length) (hz : vs.length ≤ 100)
    (h : ∀ h', Fr H L h' m → News H L h' ((pre ++ (D, listOf (vs.take r.toNat ++ y :: vs.drop r.toNat).toArray (n + 1)) :: post) ++ tail) → Q .none { s with heap := h' }) : wpAny (model prog w) A (call (.builtin "list.insert") [.ref D, .int r u, y]) Q E s := by
  have he : kl_ins vs r y = vs.take r.toNat ++ y :: vs.drop r.toNat := by
    unfold kl_ins
    have : (if r < 0 then (r + (vs.length : Int)).toNat else min r.toNat vs.length) = r.toNat := by rw [if_neg (by omega)]; omega
    rw [this]
  rw [List.append_assoc, List.cons_append] at N
  refine kl_insert (news' := pre ++ (D, listOf (vs.take r.toNat ++ y :: vs.drop r.toNat).toArray (n + 1)) :: (post ++ tail)) F N (by simp [Builtin.List.listFitsIndex]; omega) (by simpa using he) (upd_mk ap.pre_ne ap.post_ne) (by rw [sizeLine_eq]; simp; omega) fun h' F' N' => h h' F' (by rw [List.append_assoc, List.cons_append]; exact N')
end
theorem mem7 {α : Type} {a b c d e f g p : α} {tail : List α} (h : p ∈ a :: b :: c :: d :: e :: f :: g :: tail) : p ∈ [a, b, c, d, e, f, g] ∨ p ∈ tail := List.mem_append.mp (show p ∈ [a, b, c, d, e, f, g] ++ tail from h)
theorem in7L {α : Type} {a b c d e f g p : α} {tail : List α} (h : p ∈ [a, b, c, d, e, f, g]) : p ∈ a :: b :: c :: d :: e :: f :: g :: tail := show p ∈ [a, b, c, d, e, f, g] ++ tail from List.mem_append_left _ h
theorem in7R {α : Type} {a b c d e f g p : α} {tail : List α} (h : p ∈ tail) : p ∈ a :: b :: c :: d :: e :: f :: g :: tail := show p ∈ [a, b, c, d, e, f, g] ++ tail from List.mem_append_right _ h
theorem swapA {α : Type} {a b c d p : α} {rest : List α} (h : p ∈ a :: b :: c :: d :: rest) : p ∈ a :: b :: d :: c :: rest := by
  simp only [List.mem_cons] at h ⊢
  rcases h with h | h | h | h | h
  · exact .inl h
  · exact .inr (.inl h)
  · exact .inr (.inr (.inr (.inl h)))
  · exact .inr (.inr (.inl h))
  · exact .inr (.inr (.inr (.inr h)))
/-- the seven written objects of a turn -/
noncomputable abbrev fx7 (ml sm mo lot cur oth L src : Addr) (oC tb : Obj) (d : MSt) : List (Addr × Obj) := [(ml, listOf #[.ref sm, .ref mo] 0), (lot, listOf d.vL.toArray d.eL), (cur, listOf d.vC.toArray d.eC), (oth, listOf d.vO.toArray d.eO), (L + 1, oC), (src, listOf #[.int d.p d.t, .int d.q d.u] d.e), (369, tb)]
structure MOk (G : Heap) (d : MSt) : Prop where
  p0 : 0 ≤ d.p
  q0 : 0 ≤ d.q
  q1 : d.q < 2147483647
  rL : RdA G d.vL (d.tL.map toldD)
  rC : RdA G d.vC (d.tC.map toldD)
  rO : RdA G d.vO (d.tO.map toldD)
  perm : (d.tL ++ (d.tC ++ d.tO)).Perm menu7
theorem MOk.swap {G : Heap} {d : MSt} (h : MOk G d) : MOk G { d with vC := d.vO, eC := d.eO, tC := d.tO, vO := d.vC, eO := d.eC, tO := d.tC } :=
  ⟨h.p0, h.q0, h.q1, h.rL, h.rO, h.rC, (List.Perm.append_left _ List.perm_append_comm).trans h.perm⟩
theorem MOk.lenL {G : Heap} {d : MSt} (h : MOk G d) : d.vL.length = d.tL.length := by simpa using h.rL.length
theorem MOk.lenC {G : Heap} {d : MSt} (h : MOk G d) : d.vC.length = d.tC.length := by simpa using h.rC.length
theorem MOk.sevenC {G : Heap} {d : MSt} (h : MOk G d) : d.tL.length + d.tC.length ≤ 7 := by
  have := h.perm.length_eq
  simp only [List.length_append] at this
  have e : menu7.length = 7 := rfl
  omega
theorem RdA.take {h : Heap} : ∀ {vs : List Value} {ds : List PyData} (k : Nat), RdA h vs ds → RdA h (vs.take k) (ds.take k)
  | _, _, 0, _ => by simp only [List.take_zero]; exact .nil
  | _, _, _ + 1, .nil => by simp only [List.take_nil]; exact .nil
  | _, _, k + 1, .cons a b => by simp only [List.take_succ_cons]; exact .cons a (b.take k)
theorem RdA.drop {h : Heap} : ∀ {vs : List Value} {ds : List PyData} (k : Nat), RdA h vs ds → RdA h (vs.drop k) (ds.drop k)
  | _, _, 0, r => by simpa using r
  | _, _, _ + 1, .nil => by simp only [List.drop_nil]; exact .nil
  | _, _, k + 1, .cons a b => by simp only [List.drop_succ_cons]; exact b.drop k
/-- one told taken out of the menu and put into the lot -/
theorem MOk.move {G : Heap} {d : MSt} (h : MOk G d) {r j : Nat} (hr : r < d.vC.length) (p q : Int) (t u : Tok) (e eL eC : Nat) (p0 : 0 ≤ p) (q0 : 0 ≤ q) (q1 : q < 2147483647) :
    ∃ tt, MOk G { d with p := p, q := q, t := t, u := u, e := e, vL := d.vL.take j ++ d.vC[r] :: d.vL.drop j, eL := eL, tL := d.tL.take j ++ tt :: d.tL.drop j, vC := d.vC.eraseIdx r, eC := eC, tC := d.tC.eraseIdx r } := by
  have hr' : r < d.tC.length := h.lenC ▸ hr
  refine ⟨d.tC[r], p0, q0, q1, ?_, ?_, h.rO, ?_⟩
  · show RdA G (d.vL.take j ++ d.vC[r] :: d.vL.drop j) ((d.tL.take j ++ d.tC[r] :: d.tL.drop j).map toldD)
    rw [List.map_append, List.map_cons, List.map_take, List.map_drop]
    refine (h.rL.take j).append (.cons (h.rC.get r _ _ (List.getElem?_eq_getElem hr) ?_) (h.rL.drop j))
    rw [List.getElem?_map, List.getElem?_eq_getElem hr']; rfl
  · show RdA G (d.vC.eraseIdx r) ((d.tC.eraseIdx r).map toldD)
    rw [List.eraseIdx_eq_take_drop_succ, List.eraseIdx_eq_take_drop_succ, List.map_append, List.map_take, List.map_drop]
    exact (h.rC.take r).append (h.rC.drop (r + 1))
  · show ((d.tL.take j ++ d.tC[r] :: d.tL.drop j) ++ (d.tC.eraseIdx r ++ d.tO)).Perm menu7
    refine List.Perm.trans ?_ h.perm
    have e1 : d.tC = d.tC.take r ++ d.tC[r] :: d.tC.drop (r + 1) := by simp
    have e2 : d.tL = d.tL.take j ++ d.tL.drop j := by simp
    rw [List.eraseIdx_eq_take_drop_succ]
    have a1 : (d.tL.take j ++ d.tC[r] :: d.tL.drop j).Perm (d.tC[r] :: d.tL) := by
      refine List.perm_middle.trans ?_
      rw [← e2]
    have a2 : d.tC.Perm (d.tC[r] :: (d.tC.take r ++ d.tC.drop (r + 1))) := by
      conv => lhs; rw [e1]
      exact List.perm_middle
    refine (a1.append_right _).trans ?_
    show (d.tC[r] :: d.tL ++ _).Perm _
    rw [List.cons_append]
    refine List.perm_middle.symm.trans ?_
    refine List.Perm.append_left _ ?_
    rw [← List.cons_append]
    exact (a2.append_right _).symm
theorem Apart.sublist {fx fx' tail : List (Addr × Obj)} (a : Apart fx tail) (h : fx'.Sublist fx) : Apart fx' tail := ⟨a.nd.sublist (h.map _), off_sub a.off fun p hp => h.subset hp⟩
section
variable {prog : Program} {w : World} {A : Around} {s : Shared} {H : Heap} {Q : Value → Shared → Prop} {E : Value → Shared → Prop} {T : TRef} {x0 : RRef} {L : Addr} {m : Str → Option Value} {ps : Array Value} {fx fx' ex news rest : List (Addr × Obj)} {G h : Heap} {k : Nat}
theorem one_ns {src th : Addr} {p q : Int} {t u : Tok} {e n : Nat} {vs : List Value} (S : St 570 w A s.heap H) (F : Fr H L s.heap m) (N : News H L s.heap news) (hs : (src, listOf #[.int p t, .int q u] e) ∈ news) (hr : ∀ x ∈ rest, x ∈ news ∧ x.1 ≠ src)
    (hth : s.heap.get? th = some (listOf vs.toArray n)) (hne : th ≠ src) (hp : 0 ≤ p) (hq0 : 0 ≤ q) (hq : q < 2147483647) (ht0 : 1 ≤ vs.length) (ht : vs.length ≤ 10)
    (qq : ∀ v p' q' t' u' e' h' tk', v ∈ vs → 0 ≤ p' → 0 ≤ q' → q' < 2147483647 → Fr H L h' m → News H L h' ((src, listOf #[.int p' t', .int q' u'] e') :: rest) → Q v { s with heap := h', toks := tk' }) :
    wpAny (model prog w) A (call (.ref 341) [.ref src, .ref th]) Q E s := by
  have nD := N _ hs
  refine law_one_c S nD.1 nD.2.2 hth hne hp hq0 hq ht0 ht ?_
  intro v p' q' t' u' e' h' tk' hv p0 q0 q1 k hl'
  refine qq v p' q' t' u' e' h' tk' hv p0 q0 q1 (fr_back F k (by intro b hb; rw [List.mem_singleton.mp hb]; exact ⟨nD.2.2, nD.2.1⟩)) fun x hx => ?_
  rcases List.mem_cons.mp hx with rfl | hx
  · exact ⟨hl', nD.2⟩
  · obtain ⟨h1, h2⟩ := hr x hx
    exact ⟨k _ _ (N x h1).1 (by simpa using h2), (N x h1).2⟩
theorem lw_gather3 (F : Fr H L h m) (N : News H L h news) (hfx : ∀ p ∈ fx', p ∈ news) (hex : ∀ p ∈ ex, p ∈ news) (W : Lw H L T x0 k ps fx ex G) (hoff : OwnOff fx' (ex.map (·.1))) :
    ∃ ex' G', News H L h (fx' ++ ex') ∧ Lw H L T x0 k ps fx' ex' G' ∧ G.StaysIn G' ∧ (∀ b o, h.get? b = some o → b ≠ L → (∀ r ∈ fx', r.1 ≠ b) → G'.get? b = some o) := by
  have N1 : News H L h (fx' ++ ex) := fun p hp => N p ((List.mem_append.mp hp).elim (hfx p) (hex p))
  obtain ⟨gat, _, ⟨xs, ds, d0, tG, gn, hxl, hx0, hd0, hkd, hch⟩, tab⟩ := W
  obtain ⟨G', ex', gq', N', hoff', st, hG'⟩ := gather_same (own := fx') F N1 hoff gat (Keep.refl _ _) F
  refine ⟨ex', G', N', ⟨gq', hoff', ⟨xs, ds, d0, tG.up st, gn, hxl, hx0, hd0, hkd, hch⟩, tab.imp_right fun ⟨c', e, r⟩ => ⟨c', e, codeRec_up r st⟩⟩, st, fun b o e n1 n2 => hG' b o e n1 fun z => ?_⟩
  obtain ⟨r, hr, hz⟩ := List.mem_map.mp z
  exact n2 r hr hz
end
theorem RdA.mem {h : Heap} {vs : List Value} {ds : List PyData} (r : RdA h vs ds) {v : Value} (hv : v ∈ vs) : ∃ d ∈ ds, Rd h v d := by
  obtain ⟨i, hi⟩ := List.getElem?_of_mem hv
  have hl := r.length
  have hlt : i < ds.length := hl ▸ (List.getElem?_eq_some_iff.mp hi).1
  exact ⟨ds[i], List.getElem_mem hlt, r.get i v _ hi (List.getElem?_eq_getElem hlt)⟩
noncomputable abbrev fx4 (lot L src : Addr) (oC tb : Obj) (vL : List Value) (eL : Nat) (c : LSt) : List (Addr × Obj) := [(lot, listOf vL.toArray eL), (L + 1, oC), (src, srcO c), (369, tb)]
theorem off_same {fx fx' : List (Addr × Obj)} {bs : List Addr} (k : OwnOff fx bs) (h : fx'.map (·.1) = fx.map (·.1)) : OwnOff fx' bs := fun p hp b hb z => by
  have : p.1 ∈ fx.map (·.1) := h ▸ List.mem_map_of_mem hp
  obtain ⟨p', hp', e⟩ := List.mem_map.mp this
  exact k p' hp' b hb (e.trans z)
theorem Lw.same {H : Heap} {L : Addr} {T : TRef} {x0 : RRef} {k : Nat} {ps : Array Value} {fx fx' ex : List (Addr × Obj)} {G : Heap} (W : Lw H L T x0 k ps fx ex G) (h : fx'.map (·.1) = fx.map (·.1)) : Lw H L T x0 k ps fx' ex G := W.re (off_same W.off h)
theorem mem_app3 {α : Type} {p : α} {a b c : List α} (h : p ∈ a ++ (b ++ c)) : p ∈ a ∨ p ∈ b ∨ p ∈ c := (List.mem_append.mp h).imp_right List.mem_append.mp
theorem ne_of_allLt {b : Addr} {l fx : List (Addr × Obj)} (h : AllLt b l) (s : ∀ p ∈ fx, p ∈ l) : ∀ r ∈ fx, r.1 ≠ b := fun r hr => Nat.ne_of_lt (allLt_mem h r (s r hr))
theorem leaf_c {v : Str} (h : PyData.strOk v = true) : Leaf (formD (sO "comment") (.str (sO "")) v [] []) := ⟨_, _, by decide +kernel, h, rfl⟩
end Mine
namespace Mine
local macro_rules | `(tactic| walk_at "eval ListComp") => `(tactic| (k_here; k_dflt (refine LCt.ListComp_T (F₀ := by k_asm) (by with_unfolding_all rfl) (by decide) (by rfl) (by decide) (by rfl) ?_)))
local macro_rules | `(tactic| walk_at "subscriptTail") => `(tactic| (k_here; (with_reducible show wpAny _ _ (subscriptTail _ _ (Value.ref _) (Value.int _ _)) _ _ _); (with_unfolding_all refine' item_tup ?F ?l ?a ?b ?c ?_ ?d; (case F => k_asm); (case l => assumption); (case a => decide); (case b => decide); (case c => exact rfl); (case d => with_unfolding_all rfl); k_whole)))
local macro_rules | `(tactic| walk_at "compareOp Eq ref ref") => `(tactic| (k_here; (refine eq_sameAt ?a ?b ?_); (case a => assumption); (case b => exact deep_room (by assumption) (by decide)); k_whole))
local macro_rules | `(tactic| walk_at "m sub") => `(tactic| (intro p hp; repeat (first | exact hp | apply List.mem_cons_of_mem)))
local macro_rules | `(tactic| walk_at "m tree") => `(tactic| (refine' TreeAt.up (Gat.up ?q ?F ?N ?s) ?t; (case q => assumption); (case F => k_asm); (case N => k_asm); (case s => walk_at "m sub"); (case t => assumption)))
local macro_rules | `(tactic| k_inst) => `(tactic| (refine' inst_gat ?q ?F ?N ?s ?a ?b; (case q => assumption); (case F => k_asm); (case N => k_asm); (case s => walk_at "m sub"); (case a => assumption); (case b => assumption)))
local macro_rules | `(tactic| k_all) => `(tactic| assumption)
local macro_rules | `(tactic| walk_at "m st") => `(tactic| (refine' St.deep ?S ?G ?F ?n; (case S => assumption); (case G => assumption); (case F => k_asm); (case n => omega)))
local macro_rules | `(tactic| walk_at "m end") => `(tactic| (intro h' tk' u' k'; (have F' := fr_stay (by k_asm) k'); (have N' := news_stay (by k_asm) k'); k_sweep))
local macro_rules | `(tactic| walk_at "call ref") => `(tactic| (k_here; (with_reducible show wpAny _ _ (call (Value.ref 236) _ _) _ _ _); (refine' kind_at ?S ?t ?a ?b ?k ?_; (case S => walk_at "m st"); (case t => walk_at "m tree"); (case a => omega); (case b => assumption); (case k => assumption)); walk_at "m end"))
local macro_rules | `(tactic| walk_at "call ref") => `(tactic| (k_here; (with_reducible show wpAny _ _ (call (Value.ref 243) _ _) _ _ _); (refine' name_at ?S ?t ?a ?b ?k ?_; (case S => walk_at "m st"); (case t => walk_at "m tree"); (case a => omega); (case b => assumption); (case k => assumption)); walk_at "m end"))
local macro_rules | `(tactic| walk_at "call ref") => `(tactic| (k_here; (with_reducible show wpAny _ _ (call (Value.ref 250) _ _) _ _ _); (refine' uri_at ?S ?t ?a ?b ?k ?_; (case S => walk_at "m st"); (case t => walk_at "m tree"); (case a => omega); (case b => assumption); (case k => assumption)); walk_at "m end"))
local macro_rules | `(tactic| walk_at "call ref") => `(tactic| (k_here; (with_reducible show wpAny _ _ (call (Value.ref 257) _ _) _ _ _); (refine' local_at ?S ?t ?a ?b ?k ?_; (case S => walk_at "m st"); (case t => walk_at "m tree"); (case a => omega); (case b => assumption); (case k => assumption)); walk_at "m end"))
local macro_rules | `(tactic| walk_at "call ref") => `(tactic| (k_here; (with_reducible show wpAny _ _ (call (Value.ref 264) _ _) _ _ _); (refine' value_at ?S ?t ?a ?b ?k ?_; (case S => walk_at "m st"); (case t => walk_at "m tree"); (case a => omega); (case b => assumption); (case k => assumption)); walk_at "m end"))
local macro_rules | `(tactic| walk_at "call type:tuple") => `(tactic| (k_here; (with_reducible show wpAny _ _ (call (Value.type _) [Value.ref _]) _ _ _); k_dflt (refine' kde_tupleOf ?k1 ?k2 ?k3 ?k4 ?k5 ?_; (case k1 => k_asm); (case k2 => k_asm); (case k3 => first | exact News.isList (by k_asm) (by k_mem) | (refine' ⟨_, Fr.keep ?F _ _ ?e, ?x, _, ?y⟩; (case F => k_asm); (case e => assumption); (case x => exact rfl); (case y => exact rfl))); (case k4 => first | assumption | (simp; omega)); (case k5 => exact rfl); k_whole); intro D' h' F' N' l1; (try k_lt l1); (try k_sweep)))
local macro_rules | `(tactic| walk_at "callWith ref") => `(tactic| (k_here; k_dflt (refine' callWith_K ?k1 ?k2 ?_; (case k1 => k_asm); (case k2 => k_is); k_whole)))
local macro_rules | `(tactic| walk_at "call ref") => `(tactic| (k_here; (with_reducible show wpAny _ _ (call (Value.ref 372) _ _) _ _ _); (refine Hold.out ?_)))
local macro_rules | `(tactic| walk_at "m sub") => `(tactic| (intro p hp; repeat (first | exact hp | exact List.mem_append_left _ hp | apply List.mem_cons_of_mem)))
local macro_rules | `(tactic| walk_at "assign Tuple") => `(tactic| (k_here; (with_reducible show wpAny _ _ (assign (PySem.Expr.Tuple _ _ _) _ (Value.ref _)) _ _ _); k_dflt (refine' unpackN_ ?k1 ?k2 ?k3 ?k4 ?k5 ?k6 ?_; (case k1 => k_asm); (case k2 => k_asm); (case k3 => (refine' ⟨_, Gat.up ?q ?F ?N ?s _ _ ?e, ?x, _, ?y⟩; (case q => assumption); (case F => k_asm); (case N => k_asm); (case s => walk_at "m sub"); (case e => assumption); (case x => exact rfl); (case y => exact rfl))); (case k4 => exact rfl); (case k5 => exact rfl); (case k6 => exact rfl); k_whole); intro h' F' N'; (try k_sweep)))

theorem law_start {g h : Heap} {L : Addr} {k : Str → Option NameKind} {x : Str} {v : Value} (F : Fr g L h (bindL k [(x, v)] (fun _ => none))) (e : bindL k [(x, v)] (fun _ => none) = fun y => if y = x then some v else none) : Fr g L h (fun y => if y = x then some v else none) := e ▸ F
theorem fr_conv {g h : Heap} {L : Addr} {m m' : Str → Option Value} (F : Fr g L h m) (e : m = m') : Fr g L h m' := e ▸ F
local macro_rules | `(tactic| walk_at "eval IfExp") => `(tactic| (k_here; (refine Hold.out ?_)))
local macro_rules | `(tactic| walk_at "pyIter ref") => `(tactic| (k_here; (refine Hold.out ?_)))
local macro_rules | `(tactic| walk_at "call type:range") => `(tactic| (k_here; (refine Hold.out ?_)))
theorem ifexp_range {M : Model} {A : Around} {E : Value → Shared → Prop} {s : Shared} {test body orelse : PySem.Expr} {pos : Pos} {env : Env} {Q : Value → Shared → Prop}
    (hw : wpAny M A (isTrue test env (eval test env)) (fun c s₂ => if c then wpAny M A (eval body env) (fun v s' => ∃ n t' tk', v = .int n t' ∧ (n = 3 ∨ n = 1) ∧ s' = { s with toks := tk' }) E s₂ else wpAny M A (eval orelse env) (fun v s' => ∃ n t' tk', v = .int n t' ∧ (n = 3 ∨ n = 1) ∧ s' = { s with toks := tk' }) E s₂) E s)
    (cont : ∀ n t' tk', (n = 3 ∨ n = 1) → Q (.int n t') { s with toks := tk' }) : wpAny M A (eval (.IfExp test body orelse pos) env) Q E s := by
  refine wpAny_mono (IfExp_ hw) (fun v s' h => ?_) fun _ _ e => e
  obtain ⟨n, t', tk', rfl, hn, rfl⟩ := h
  exact cont n t' tk' hn
local macro_rules | `(tactic| walk_at "call builtin:list.pop") => `(tactic| (k_here; (refine Hold.out ?_)))
local macro_rules | `(tactic| walk_at "call builtin:list.insert") => `(tactic| (k_here; (refine Hold.out ?_)))
local macro_rules | `(tactic| walk_at "call ref") => `(tactic| (k_here; (with_reducible show wpAny _ _ (call (Value.ref 334) _ _) _ _ _); (refine Hold.out ?_)))
local macro_rules | `(tactic| walk_at "call builtin:len") => `(tactic| (k_here; (with_reducible show wpAny _ _ (call (Value.builtin _) [Value.ref _]) _ _ _); (with_unfolding_all refine' len_list ?k1 ?k2 ?_; (case k1 => exact News.isList (by k_asm) (by k_mem)); (case k2 => exact Int.lt_of_le_of_lt (Int.ofNat_le.mpr (by assumption)) (by decide)))))
local macro_rules | `(tactic| walk_at "m sub") => `(tactic| (intro p hp; repeat (first | exact hp | exact List.mem_append_right _ hp | exact List.mem_append_left _ hp | apply List.mem_cons_of_mem)))
local macro_rules | `(tactic| walk_at "call ref") => `(tactic| (k_here; (with_reducible show wpAny _ _ (call (Value.ref 341) _ _) _ _ _); (refine Hold.out ?_)))
local macro_rules | `(tactic| walk_at "exec Assign cons ListComp") => `(tactic| (k_here; (refine Hold.out ?_)))
theorem fit0 : Fit [.d (sO "") (sO "u:2"), .a (sO "") (sO "b") (sO "b") (sO "1")] [formD (sO "text") (.str (sO "")) (sO "y") [] []] := fit_all ⟨[someM[1], someM[2], someM[3], moreM[1], moreM[2]], (List.perm_middle (l₁ := someM) (a := moreM[0]) (l₂ := [moreM[1], moreM[2]])).symm⟩ (by decide) (fun d hd => ⟨_, _, by decide +kernel, by decide +kernel, List.mem_singleton.mp hd⟩) (by decide)
set_option maxHeartbeats 8000000 in
theorem law_holds : PySem.Challenge.rw_xw0214_01.Holds := by
  w_on
  refine holds_law h_said fun said => ?_
  clear said
  refine holds_open (q := hd.view_39) (loose := []) (Xt := Xt) (XP := XL hd.view_39 []) (Yf := (kmHook hd.heap_39 kas kas_eq [369]).obs) (Ya := (kmHook hd.heap_39 kas kas_eq [369]).val) (YP := (kmHook hd.heap_39 kas kas_eq [369]).says) (N := 4846)
    h_left (kmHook hd.heap_39 kas kas_eq [369]).of (kmHook hd.heap_39 kas kas_eq [369]).keeps (fun s e => xl_of s (Bool.and_eq_true_iff.mp e).1) XL.keeps (by rfl) (by rfl) (by rfl) (fun s e => recFacts_of (Bool.and_eq_true_iff.mp e).2) (by rfl) h_row (by decide +kernel)
    ⟨rfl, rfl, rfl, rfl, rfl, by decide +kernel⟩ ?hw ?hc
  case hw => exact ⟨[.list []], by decide +kernel, by decide +kernel⟩
  case hc =>
   w_strict (
   k_go0
   rename News _ _ _ _ => N0
   rename Fr _ _ _ _ => F0
   rename (hd.heap_39 _).In _ => XH
   rename Top topProg _ _ _ _ _ => TH
   rename _ < _ => l0
   rename Obj => oC
   rename _ = Data.cell _ => hC
   rename IntsAre _ _ => hI
   rename ¬ ((63 : Int) < _) => hn
   rename Heap.IsList _ _ _ => hl
   have hoC : oC.data = .cell none := hC.trans rfl
   have F1 := law_start (x := Str.ofString "script") F0 (by unfold bindL; rw [if_pos (by exact rfl)]; unfold bindL; exact rfl)
   clear hC F0
   have hn63 : _ ≤ 63 := Int.ofNat_le.mp (Int.not_lt.mp hn)
   have S0 : St 500 _ callerA _ _ := ⟨XH, ⟨_, _, _, TH⟩, fun _ _ e => e, by decide, by decide, rfl⟩
   have hcode : CodeHd _ 371 369 := codeHd
   rename Below _ _ _ _ => hBelow
   clear hn codeHd hBelow
   generalize ghostOf _ _ = H at *
   generalize Array.size _ = L at *
   dsimp only
   k_steps
   rename Fr _ _ _ _ => F0
   rename News _ _ _ _ => N0
   show wpAny _ _ (call (.ref 316) []) _ _ _
   refine tree_c (S0.to (fun _ _ e => e) F0 (by show callerA.depth + 1 ≤ 580; decide) (by show callerA.units + 3 ≤ 5800; decide) rfl) ?_
   intro T h2 ntk2 k2 t2 fr2
   have F2 := fr_stay F0 k2
   have F0k := F0.keep
   have N2 := news_stay N0 k2
   have own2 : ∀ b ∈ [L + 1, 369], H.get? b = none := by intro b hb; simp only [List.mem_cons, List.not_mem_nil, or_false] at hb; rcases hb with rfl | rfl; exact (N0 _ (.head _)).2.2; exact (N0 _ (.tail _ (.head _))).2.2
   obtain ⟨G, ex, gq, Nx, no2, _, hG⟩ := gather F2 [L + 1, 369] own2
   have frO : ∀ b ∈ [T.t, T.d, T.l], b ≠ L ∧ b ∉ [L + 1, 369] := fun b hb => by
     have fb := fr2 b hb
     refine ⟨fun z => ?_, fun z => ?_⟩
     · obtain ⟨oL, _, _, hL, _⟩ := F0.ns
       rw [z, hL] at fb
       cases fb
     · simp only [List.mem_cons, List.not_mem_nil, or_false] at z
       rcases z with z | z
       · rw [z, (N0 _ (.head _)).1] at fb; cases fb
       · rw [z, (N0 _ (.tail _ (.head _))).1] at fb; cases fb
   have tG : TreeAt G T [] [] := t2.hide fun b o e hb => hG b o e (frO b (by simpa [objs] using hb)).1 (frO b (by simpa [objs] using hb)).2
   have N3 : News H L h2 ((L + 1, oC) :: (369, tabObj #[]) :: ex) := fun p hp => by
     simp only [List.mem_cons] at hp
     rcases hp with rfl | rfl | hp
     · exact N2 _ (.head _)
     · exact N2 _ (.tail _ (.head _))
     · exact Nx p hp
   have hoff : OwnOff [(L + 1, oC), (369, tabObj #[])] (ex.map (·.1)) := by
     intro p hp b hb z
     obtain ⟨r', hr', rfl⟩ := List.mem_map.mp hb
     refine no2 r' hr' ?_
     simp only [List.mem_cons, List.not_mem_nil, or_false] at hp
     rcases hp with rfl | rfl
     · simp [← z]
     · simp [← z]
   have g1 := tG.inst
   have g2 := tG.dict
   have gn : ∀ b ∈ objs T [], H.get? b = none := fun b hb => by
     cases q : H.get? b with
     | none => rfl
     | some o => have := fr2 b (by simpa [objs] using hb); rw [F0k b o q] at this; cases this
   clear F0 N0 N2 Nx no2 k2 t2 own2 frO fr2 hG F0k
   k_steps
   rename Fr _ _ _ _ => F5
   rename News _ _ _ _ => N5
   show wpAny _ _ (call (.ref 166) [.ref T.t]) _ _ _
   refine new_root_c (S0.to (fun _ _ e => e) F5 (by show callerA.depth + 1 ≤ 560; decide) (by show callerA.units + 3 ≤ 5600; decide) rfl) (tG.up (gq.up F5 N5 (by walk_at "m sub"))) (by first | with_reducible_and_instances k_mem | k_mem | simp) (gn _ (by simp [objs])) ?_
   intro x0 h6 ntk6 u6 k6 t6 fr6
   obtain ⟨G6, ex6, gq6, tG6, F6, N6, hoff6, kG6, gn6⟩ := gather_tree (own := [(L + 1, oC), (369, tabObj #[])]) F5 N5 hoff gq tG gn k6 (by intro b hb; rw [List.mem_singleton.mp hb]; simp [objs]) t6 fr6
   simp only [List.nil_append, List.cons_append] at N6 tG6
   clear F5 N5 k6 t6 fr6 gq tG g1 g2 gn hoff kG6
   have W6 : Lw H L T x0 0 #[] [(L + 1, oC), (369, tabObj #[])] ex6 G6 := ⟨gq6, hoff6, ⟨_, _, _, tG6, gn6, by simp, rfl, rfl, rfl, by simp⟩, .inl rfl⟩
   clear gn6 hoff6 tG6 gq6
   k_steps
   rename Fr _ _ _ _ => F7
   rename News _ _ _ _ => N7
   rename_i D1 _ lt1 D2 _ lt2 D3 _ lt3 ll _ lt4
   have r7 : RdA _ [.ref D1, .ref D2, .ref D3] (([(Str.ofString "text", Str.ofString ""), (Str.ofString "comment", Str.ofString ""), (Str.ofString "instruction", Str.ofString "go")] : List (Str × Str)).map pairD) := .cons (.tup (vs := [_, _]) (N7.get (.tail _ (.tail _ (.tail _ (.head _))))) (.cons .str (.cons .str .nil))) (.cons (.tup (vs := [_, _]) (N7.get (.tail _ (.tail _ (.head _)))) (.cons .str (.cons .str .nil))) (.cons (.tup (vs := [_, _]) (N7.get (.tail _ (.head _))) (.cons .str (.cons .str .nil))) .nil))
   obtain ⟨ex7, G7, N7', W7, _, _, rm7⟩ := lw_gather (fx' := [(ll, listOf #[.ref D1, .ref D2, .ref D3] 0), (L + 1, oC), (369, tabObj #[])]) F7 N7 (by intro p hp; simp only [List.mem_cons, List.not_mem_nil, or_false] at hp; rcases hp with rfl | rfl | rfl <;> simp) (by walk_at "m sub") W6 (off_cons (by have z := lt4; repeat (first | exact z | replace z := z.2)) W6.off) (noT_cons noT_list (noT_cons (noT_cell hoC) (noT_cons noT_tab noT_nil)))
   have rG7 := rm7 _ _ r7
   clear N7 W6 rm7 r7 lt1 lt2 lt3 lt4
   refine ⟨?_⟩
   refine loop_lt (vs := [.ref D1, .ref D2, .ref D3]) (nn := 0) (fun ex : List (Addr × Obj) => [(ll, listOf #[.ref D1, .ref D2, .ref D3] 0), (L + 1, oC), (369, tabObj #[])] ++ ex)
     (fun i ex => ∃ G, Lw H L T x0 i #[] [(ll, listOf #[.ref D1, .ref D2, .ref D3] 0), (L + 1, oC), (369, tabObj #[])] ex G ∧ RdA G [.ref D1, .ref D2, .ref D3] (([(Str.ofString "text", Str.ofString ""), (Str.ofString "comment", Str.ofString ""), (Str.ofString "instruction", Str.ofString "go")] : List (Str × Str)).map pairD))
     ex7 [Str.ofString "kind", Str.ofString "target"] rfl (fun _ => .head _) F7 N7' ⟨G7, W7, rG7⟩ ?turnP ?doneP
   case turnP =>
     intro i v ex m₁ h tk own hv hP ho hnt F8 N8
     obtain ⟨G8, W8, rG8⟩ := hP
     clear F7 N7' W7 rG7
     have hi : i < 3 := (List.getElem?_eq_some_iff.mp hv).1
     obtain ⟨kt, hkt⟩ : ∃ kt, ([(Str.ofString "text", Str.ofString ""), (Str.ofString "comment", Str.ofString ""), (Str.ofString "instruction", Str.ofString "go")] : List (Str × Str))[i]? = some kt := ⟨_, List.getElem?_eq_getElem hi⟩
     have ok : PlainOk kt.1 kt.2 := by
       have hm := List.mem_of_getElem? hkt
       simp only [List.mem_cons, List.not_mem_nil, or_false] at hm
       rcases hm with rfl | rfl | rfl
       · exact ⟨by decide +kernel, .inl ⟨rfl, rfl⟩⟩
       · exact ⟨by decide +kernel, .inr (.inl ⟨rfl, rfl⟩)⟩
       · exact ⟨by decide +kernel, .inr (.inr rfl)⟩
     obtain ⟨a, t1, t2, n, rfl, ea⟩ := (rG8.get i v (pairD kt) hv (by rw [List.getElem?_map, hkt]; rfl)).key_inv
     have gq := W8.gat
     simp only [List.cons_append, List.nil_append] at N8
     k_steps
     rename Fr _ _ _ _ => F9
     rename News _ _ _ _ => N9
     refine plain_ls (fx := [(ll, listOf #[.ref D1, .ref D2, .ref D3] 0), (L + 1, oC), (369, tabObj #[])] ++ own) (ex := ex) rfl (S0.to (fun _ _ e => e) F9 (by show callerA.depth + 1 ≤ 530; decide) (by show callerA.units + 3 ≤ 5300; decide) rfl) F9 (fun p hp => N9 p (mmP hp)) (W8.addOwn ho) (by omega) ok (by decide +kernel) ?_
     intro h10 tk10 ex10 G10 F10 N10 W10 mono
     clear F9 N9
     k_steps
     rename Fr _ _ _ _ => F11
     rename News _ _ _ _ => N11
     refine ⟨ex10, _, _, _, _, rfl, ⟨G10, W10.sub fun p hp => List.mem_append_left _ hp, mono.all _ _ rG8⟩, F11, N11, fun p hp => mmQ hp, fun p hp => mmR hp, lp_off ho W10.off rfl, ?_⟩
     intro z hz
     have hz' := hz
     simp only [List.contains_cons, List.contains_nil, Bool.or_false, Bool.or_eq_false_iff, beq_eq_false_iff_ne, ne_eq] at hz'
     simp [hz'.1, hz'.2]
   case doneP =>
     intro ex m₁ h tk hP F8 N8
     obtain ⟨G8, W8, _⟩ := hP
     clear F7 N7' W7 rG7
     have N8' : News H L h ((L + 1, oC) :: (369, tabObj #[]) :: ex) := fun p hp => N8 p (.tail _ hp)
     have W8' : Lw H L T x0 3 #[] [(L + 1, oC), (369, tabObj #[])] ex G8 := W8.sub fun p hp => .tail _ hp
     have F8' : Fr H L h _ := F8
     clear N8 W8 F8
     k_steps
     rename Fr _ _ _ _ => F9
     rename News _ _ _ _ => N9
     rename_i Dd _ _ Da _ _ la _ _ E1 _ _ E2 _ _ Df _ _ lb _ _
     refine ⟨?_⟩
     have N9' : News H L _ (((369, tabObj #[]) :: [(L + 1, oC)]) ++ ex) := fun p hp => N9 p (by
       simp only [List.cons_append, List.nil_append, List.mem_cons] at hp ⊢
       rcases hp with h | h | h <;> simp [h])
     refine el_ls (ts := [.d (sO "") (sO "u:2"), .a (sO "") (sO "b") (sO "b") (sO "1")]) (inner := [formD (sO "text") (.str (sO "")) (sO "y") [] []]) (vs := [.ref Dd, .ref Da]) (ivs := [.ref Df]) (fr := [(L + 1, oC)])
       (S0.to (fun _ _ e => e) F9 (by show callerA.depth + 1 ≤ 520; decide) (by show callerA.units + 3 ≤ 5200; decide) rfl) F9 N9' (W8'.sub fun p hp => by simp only [List.mem_cons, List.not_mem_nil, or_false] at hp ⊢; exact hp.symm)
       (fun p hp => by rw [List.mem_singleton.mp hp]; exact Nat.ne_of_gt (Nat.lt_succ_of_lt l0)) (N9.get (by k_mem))
       (.cons (.tup (vs := [_, _, _]) (N9.get (by k_mem)) (.cons .str (.cons .str (.cons .str .nil)))) (.cons (.tup (vs := [_, _, _, _, _]) (N9.get (by k_mem)) (.cons .str (.cons .str (.cons .str (.cons .str (.cons .str .nil)))))) .nil))
       fit0 (N9.get (.head _))
       (.cons (.tup (vs := [_, _, _, _, _]) (N9.get (by k_mem)) (.cons .str (.cons .str (.cons .str (.cons (.tup (vs := []) (N9.get (by k_mem)) .nil) (.cons (.tup (vs := []) (N9.get (by k_mem)) .nil) .nil)))))) .nil) hcode ?_
     intro c1 h10 tk10 ex10 G10 F10 N10 W10 _
     clear F9 N9 N9' W8'
     have N10' : News H L h10 ((369, tabObj (tab1 lamP c1)) :: (L + 1, oC) :: ex10) := N10
     clear N10
     k_steps
     rename Fr _ _ _ _ => F11
     rename News _ _ _ _ => N11
     show wpAny _ _ (call (.ref 327) _) _ _ _
     refine law_pool_c (S0.to (fun _ _ e => e) F11 (by show callerA.depth + 1 ≤ 580; decide) (by show callerA.units + 3 ≤ 5800; decide) rfl) (hl.at fun o e => F11.keep _ o e) hI hn63 ?_
     intro src p q t u e h12 tk12 p0 q0 q1 k12 nf hsrc
     have nS : src ≠ L + 1 := fun z => by rw [z, (N11 _ (.tail _ (.head _))).1] at nf; cases nf
     have nT : src ≠ 369 := fun z => by rw [z, (N11 _ (.head _)).1] at nf; cases nf
     have nX : ∀ r ∈ ex10, r.1 ≠ src := fun r hr z => by rw [← z, (N11 _ (.tail _ (.tail _ hr))).1] at nf; cases nf
     have nLT : (369 : Addr) ≠ L + 1 := Nat.ne_of_lt (Nat.lt_succ_of_lt l0)
     have F12 := fr_stay F11 k12
     have N12 := news_cons hsrc (off_of F11 nf).1 (off_of F11 nf).2 (news_stay N11 k12)
     have oX : ∀ r ∈ ex10, r.1 ≠ L + 1 := fun r hr z => W10.off _ (.tail _ (.head _)) _ (List.mem_map_of_mem (f := (·.1)) hr) z.symm
     have N12' : News H L h12 ([] ++ (L + 1, oC) :: (src, listOf #[.int p t, .int q u] e) :: (369, tabObj (tab1 lamP c1)) :: ex10) := fun r hr => N12 r (by
       simp only [List.nil_append, List.mem_cons] at hr ⊢
       rcases hr with h | h | h | h <;> simp [h])
     clear F11 N11 hsrc nf k12 N12
     dsimp only
     refine stCN (own := []) F12 N12' rfl hoC (fun p hp => nomatch hp) (by
       intro r hr
       simp only [List.mem_cons] at hr
       rcases hr with rfl | rfl | hr
       · exact nS
       · exact nLT
       · exact oX r hr) ?_
     intro h13 oC' F13 N13 hoC'
     rw [List.nil_append] at N13
     have W13 : Lw H L T x0 3 (tab1 lamP c1) [(L + 1, oC'), (src, listOf #[.int p t, .int q u] e), (369, tabObj (tab1 lamP c1))] ex10 G10 := W10.re (by
       intro r hr b hb z
       obtain ⟨r', hr', rfl⟩ := List.mem_map.mp hb
       simp only [List.mem_cons, List.not_mem_nil, or_false] at hr
       rcases hr with rfl | rfl | rfl
       · exact oX r' hr' z.symm
       · exact nX r' hr' z.symm
       · exact W10.off _ (.head _) _ (List.mem_map_of_mem (f := (·.1)) hr') z)
     clear F12 N12' W10 oX nX hoC
     k_steps
     rename Fr _ _ _ _ => F14
     rename News _ _ _ _ => N14
     refine ⟨ifexp_range ?ifw ?ifc⟩
     case ifw =>
       k_steps
       all_goals first | exact .inl rfl | exact .inr rfl
     case ifc =>
       intro n0 t14 tk14 hn0
       k_steps
       refine ⟨range1_rows F14 N14 ?_⟩
       intro h15 tk15 rt1 ru1 rv1 hR F15 N15 _
       clear F14 N14
       have hn0' : n0 = ((n0.toNat : Nat) : Int) := by omega
       refine loop_rg (fun c : LSt => [(L + 1, oC'), (src, srcO c), (369, tabObj (tab1 lamP c.c))] ++ c.ex)
         (fun i c => 0 ≤ c.p ∧ 0 ≤ c.q ∧ c.q < 2147483647 ∧ ∃ G, Lw H L T x0 (3 + i) (tab1 lamP c.c) [(L + 1, oC'), (src, srcO c), (369, tabObj (tab1 lamP c.c))] c.ex G)
         ⟨p, q, t, u, e, c1, ex10⟩ [Str.ofString "some", Str.ofString "more", Str.ofString "lot", Str.ofString "menu", Str.ofString "many", Str.ofString "told", Str.ofString "inner", Str.ofString "kind", Str.ofString "target", Str.ofString "turn"]
         rfl hR hn0' (by omega) F15 N15 ⟨p0, q0, q1, G10, W13⟩ ?turnL ?doneL
       case turnL =>
         intro i ti c m₂ h16 tk16 own hi hP ho hnt F16 N16
         obtain ⟨cp0, cq0, cq1, G16, W16⟩ := hP
         clear F15 N15 W13 hR
         have F16' : Fr H L h16 _ := F16
         have N16' : News H L h16 ((L + 1, oC') :: (src, srcO c) :: (369, tabObj (tab1 lamP c.c)) :: (c.ex ++ own)) := N16
         clear F16 N16
         k_steps
         rename Fr _ _ _ _ => F17
         rename News _ _ _ _ => N17
         rename_i A1 _ _ A2 _ _ A3 _ _ l3 _ _ _ _ A4 _ _ l1 _ _ sm _ ltS B1 _ _ B2 _ _ B3 _ _ mo _ ltM pr _ _ _ _ _ _ lot _ ltL _ ml _ ltm
         refine ⟨?_⟩
         have rA : RdA _ [.ref A1, .ref A2, .ref A3, .ref A4] (someM.map toldD) := .cons (.tup (vs := [_, _, _, _, _]) (N17.get (by k_mem)) (.cons .str (.cons .str (.cons .str (.cons .str (.cons .str .nil)))))) (.cons (.tup (vs := [_, _, _, _, _]) (N17.get (by k_mem)) (.cons .str (.cons .str (.cons .str (.cons .str (.cons .str .nil)))))) (.cons (.tup (vs := [_, _, _, _, _]) (N17.get (by k_mem)) (.cons .str (.cons .str (.cons .str (.cons .str (.cons .str .nil)))))) (.cons (.tup (vs := [_, _, _, _, _]) (N17.get (by k_mem)) (.cons .str (.cons .str (.cons .str (.cons .str (.cons .str .nil)))))) .nil)))
         have rB : RdA _ [.ref B1, .ref B2, .ref B3] (moreM.map toldD) := .cons (.tup (vs := [_, _, _]) (N17.get (by k_mem)) (.cons .str (.cons .str (.cons .str .nil)))) (.cons (.tup (vs := [_, _, _]) (N17.get (by k_mem)) (.cons .str (.cons .str (.cons .str .nil)))) (.cons (.tup (vs := [_, _, _]) (N17.get (by k_mem)) (.cons .str (.cons .str (.cons .str .nil)))) .nil))
         obtain ⟨ex18, G18, N18, W18, mono18, _, rm18⟩ := lw_gather (fx' := [(ml, listOf #[.ref sm, .ref mo] 0), (lot, listOf #[] 0), (sm, listOf #[.ref A1, .ref A2, .ref A3, .ref A4] 0), (mo, listOf #[.ref B1, .ref B2, .ref B3] 0), (L + 1, oC'), (src, srcO c), (369, tabObj (tab1 lamP c.c))] ++ own) F17 N17 (fun p hp => by
           rcases List.mem_append.mp hp with hp | hp
           · simp only [List.mem_cons, List.not_mem_nil, or_false] at hp
             rcases hp with rfl | rfl | rfl | rfl | rfl | rfl | rfl <;> simp only [List.mem_cons, true_or, or_true]
           · repeat (first | exact List.mem_append_right _ hp | apply List.mem_cons_of_mem))
           (fun p hp => by repeat (first | exact List.mem_append_left _ hp | apply List.mem_cons_of_mem)) W16
           (off_cons' (by have z := ltm; repeat (first | exact z | replace z := z.2)) (off_cons' (by have z := ltL; repeat (first | exact z | replace z := z.2)) (off_cons' (by have z := ltS; repeat (first | exact z | replace z := z.2)) (off_cons' (by have z := ltM; repeat (first | exact z | replace z := z.2)) (W16.addOwn ho).off))))
           (noT_app (noT_cons noT_list (noT_cons noT_list (noT_cons noT_list (noT_cons noT_list (noT_cons (noT_cell hoC') (noT_cons noT_list (noT_cons noT_tab noT_nil))))))) hnt)
         have rA18 := rm18 _ _ rA
         have rB18 := rm18 _ _ rB
         have nd18 : (([(ml, listOf #[.ref sm, .ref mo] 0), (lot, listOf #[] 0), (sm, listOf #[.ref A1, .ref A2, .ref A3, .ref A4] 0), (mo, listOf #[.ref B1, .ref B2, .ref B3] 0), (L + 1, oC'), (src, srcO c), (369, tabObj (tab1 lamP c.c))]).map (·.1)).Nodup := by
           simp only [List.map_cons, List.map_nil, List.nodup_cons, List.mem_cons, List.not_mem_nil, or_false, not_or, List.nodup_nil, and_true, not_false_eq_true]
           exact ⟨⟨(Nat.ne_of_gt ltm.1), (Nat.ne_of_gt ltm.2.2.2.2.2.2.1), (Nat.ne_of_gt ltm.2.2.1), (Nat.ne_of_gt ltm.2.2.2.2.2.2.2.2.2.2.2.2.2.1), (Nat.ne_of_gt ltm.2.2.2.2.2.2.2.2.2.2.2.2.2.2.1), (Nat.ne_of_gt ltm.2.2.2.2.2.2.2.2.2.2.2.2.2.2.2.1)⟩, ⟨(Nat.ne_of_gt ltL.2.2.2.2.2.1), (Nat.ne_of_gt ltL.2.1), (Nat.ne_of_gt ltL.2.2.2.2.2.2.2.2.2.2.2.2.1), (Nat.ne_of_gt ltL.2.2.2.2.2.2.2.2.2.2.2.2.2.1), (Nat.ne_of_gt ltL.2.2.2.2.2.2.2.2.2.2.2.2.2.2.1)⟩, ⟨(Nat.ne_of_gt ltM.2.2.2.1).symm, (Nat.ne_of_gt ltS.2.2.2.2.2.2.1), (Nat.ne_of_gt ltS.2.2.2.2.2.2.2.1), (Nat.ne_of_gt ltS.2.2.2.2.2.2.2.2.1)⟩, ⟨(Nat.ne_of_gt ltM.2.2.2.2.2.2.2.2.2.2.1), (Nat.ne_of_gt ltM.2.2.2.2.2.2.2.2.2.2.2.1), (Nat.ne_of_gt ltM.2.2.2.2.2.2.2.2.2.2.2.2.1)⟩, ⟨fun z => nS z.symm, fun z => nLT z.symm⟩, nT⟩
         have ow18 : OwnOff ([(ml, listOf #[.ref sm, .ref mo] 0), (lot, listOf #[] 0), (sm, listOf #[.ref A1, .ref A2, .ref A3, .ref A4] 0), (mo, listOf #[.ref B1, .ref B2, .ref B3] 0), (L + 1, oC'), (src, srcO c), (369, tabObj (tab1 lamP c.c))]) (own.map (·.1)) := off_of_lt (fun r hr => allLt_mem (by have z := ltm; repeat (first | exact z | replace z := z.2)) r (List.mem_append_right _ hr)) (off_of_lt (fun r hr => allLt_mem (by have z := ltL; repeat (first | exact z | replace z := z.2)) r (List.mem_append_right _ hr)) (off_of_lt (fun r hr => allLt_mem (by have z := ltS; repeat (first | exact z | replace z := z.2)) r (List.mem_append_right _ hr)) (off_of_lt (fun r hr => allLt_mem (by have z := ltM; repeat (first | exact z | replace z := z.2)) r (List.mem_append_right _ hr)) (off_swap (off_subR ho fun p hp => List.mem_append_left _ hp)))))
         have ap18 : Apart (fx7 ml sm mo lot sm mo L src oC' (tabObj (tab1 lamP c.c)) ⟨c.p, c.q, c.t, c.u, c.e, [], 0, [], [.ref A1, .ref A2, .ref A3, .ref A4], 0, someM, [.ref B1, .ref B2, .ref B3], 0, moreM⟩) (own ++ ex18) := ⟨nd18, off_append ow18 (off_sub W18.off fun p hp => List.mem_append_left _ hp)⟩
         have N18' : News H L _ (fx7 ml sm mo lot sm mo L src oC' (tabObj (tab1 lamP c.c)) ⟨c.p, c.q, c.t, c.u, c.e, [], 0, [], [.ref A1, .ref A2, .ref A3, .ref A4], 0, someM, [.ref B1, .ref B2, .ref B3], 0, moreM⟩ ++ (own ++ ex18)) := fun p hp => N18 p (by rw [List.append_assoc]; exact hp)
         clear rA rB N17 rm18 ltm ltL ltS ltM nd18 ow18 N18
         refine loop_ls (vs := [.ref sm, .ref mo]) (nn := 0) (fun y : (Addr × Addr) × MSt => fx7 ml sm mo lot y.1.1 y.1.2 L src oC' (tabObj (tab1 lamP c.c)) y.2 ++ (own ++ ex18))
           (fun i y => MOk G18 y.2 ∧ y.2.tL.length ≤ 2 * i ∧ Apart (fx7 ml sm mo lot y.1.1 y.1.2 L src oC' (tabObj (tab1 lamP c.c)) y.2) (own ++ ex18) ∧ ((i = 0 ∧ y.1 = (sm, mo) ∧ y.2.tC.length = 4 ∧ y.2.tO.length = 3) ∨ (i = 1 ∧ y.1 = (mo, sm) ∧ y.2.tC.length = 3) ∨ i = 2))
           ((sm, mo), ⟨c.p, c.q, c.t, c.u, c.e, [], 0, [], [.ref A1, .ref A2, .ref A3, .ref A4], 0, someM, [.ref B1, .ref B2, .ref B3], 0, moreM⟩)
           [Str.ofString "many", Str.ofString "told", Str.ofString "menu"] rfl (fun _ => .head _) F17 N18' ⟨⟨cp0, cq0, cq1, .nil, rA18, rB18, .refl _⟩, Nat.le_refl _, ap18, .inl ⟨rfl, rfl, rfl, rfl⟩⟩ ?turnM ?doneM
         case turnM =>
           intro i2 v y m₃ h20 tk20 own2 hv hP ho2 hnt2 F20 N20
           obtain ⟨⟨cur, oth⟩, d⟩ := y
           obtain ⟨ok, hlen, ap, hcase⟩ := hP
           obtain ⟨rfl, hC3, hi2⟩ : v = .ref cur ∧ 3 ≤ d.tC.length ∧ i2 < 2 := by
             rcases hcase with ⟨rfl, hc, l1, _⟩ | ⟨rfl, hc, l1⟩ | rfl
             · injection hc with hc _
               have : v = .ref sm := by simpa using hv.symm
               have l4 : d.tC.length = 4 := l1
               exact ⟨by rw [this, hc], by omega, by omega⟩
             · injection hc with hc _
               have : v = .ref mo := by simpa using hv.symm
               have l4 : d.tC.length = 3 := l1
               exact ⟨by rw [this, hc], by omega, by omega⟩
             · simp at hv
           have ap20 : Apart (fx7 ml sm mo lot cur oth L src oC' (tabObj (tab1 lamP c.c)) d) ((own ++ ex18) ++ own2) := ap.more ho2
           have F20' : Fr H L h20 _ := F20
           have N20' : News H L h20 (fx7 ml sm mo lot cur oth L src oC' (tabObj (tab1 lamP c.c)) d ++ ((own ++ ex18) ++ own2)) := fun p hp => N20 p (by rw [List.append_assoc]; exact hp)
           simp only [fx7, List.cons_append, List.nil_append] at N20'
           clear F20 N20 F17 N18' ap18 hv
           k_steps
           rename Fr _ _ _ _ => F21
           rename News _ _ _ _ => N21
           refine ⟨take_ap (pre := [_, _, _, _, _]) (post := [_]) (S0.to (fun _ _ e => e) F21 (by show callerA.depth + 1 ≤ 570; decide) (by show callerA.units + 3 ≤ 5700; decide) rfl) F21 N21 ap20 ok.p0 ok.q0 ok.q1 (by decide) (by decide) ?_⟩
           intro n0 nt p2 q2 t2 u2 e2 h22 tk22 n00 n01 bp bq bq1 F22 N22
           clear F21 N21
           k_steps
           refine ⟨range1_rows F22 N22 ?_⟩
           intro h23 tk23 rt2 ru2 rv2 hR2 F23 N23 _
           clear F22 N22
           refine loop_rg (n := n0.toNat) (fun x : MSt => fx7 ml sm mo lot cur oth L src oC' (tabObj (tab1 lamP c.c)) x ++ ((own ++ ex18) ++ own2))
             (fun j x => MOk G18 x ∧ x.tL.length ≤ d.tL.length + j ∧ 3 ≤ x.tC.length + j ∧ x.tO = d.tO)
             { d with p := p2, q := q2, t := t2, u := u2, e := e2 } [Str.ofString "told", Str.ofString "many"] rfl hR2 (by omega) (by omega) F23 N23 ⟨⟨bp, bq, bq1, ok.rL, ok.rC, ok.rO, ok.perm⟩, Nat.le_refl _, hC3, rfl⟩ ?turnN ?doneN
           case turnN =>
             intro j tj x m₄ h24 tk24 own3 hj hP3 ho3 hnt3 F24 N24
             obtain ⟨okx, hl1, hc1, hxt⟩ := hP3
             have apx : Apart (fx7 ml sm mo lot cur oth L src oC' (tabObj (tab1 lamP c.c)) x) (((own ++ ex18) ++ own2) ++ own3) := (ap20.same (by first | with_reducible_and_instances k_mem | k_mem | simp)).more ho3
             have F24' : Fr H L h24 _ := F24
             have N24' : News H L h24 (fx7 ml sm mo lot cur oth L src oC' (tabObj (tab1 lamP c.c)) x ++ (((own ++ ex18) ++ own2) ++ own3)) := fun p hp => N24 p (by rw [List.append_assoc]; exact hp)
             simp only [fx7, List.cons_append, List.nil_append] at N24'
             have s7 := okx.sevenC
             have sL := okx.lenL
             have sC := okx.lenC
             have hzC : x.vC.toArray.size ≤ 9 := by rw [List.size_toArray]; omega
             have hzL : x.vL.toArray.size ≤ 9 := by rw [List.size_toArray]; omega
             clear F24 N24 F23 N23 hR2
             k_steps
             rename Fr _ _ _ _ => F25
             rename News _ _ _ _ => N25
             refine ⟨take_ap (pre := [_, _, _, _, _]) (post := [_]) (S0.to (fun _ _ e => e) F25 (by show callerA.depth + 1 ≤ 570; decide) (by show callerA.units + 3 ≤ 5700; decide) rfl) F25 N25 apx okx.p0 okx.q0 okx.q1 (by simp; omega) (by simp; omega) ?_⟩
             intro r tr p3 q3 t3 u3 e3 h26 tk26 r0 r1 bp3 bq3 bq31 F26 N26
             clear F25 N25
             have r1' : r.toNat < x.vC.length := by rw [List.size_toArray] at r1; omega
             simp only [List.cons_append, List.nil_append] at N26
             k_steps
             rename Fr _ _ _ _ => F27
             rename News _ _ _ _ => N27
             refine ⟨pop_ap (pre := [_, _]) (post := [_, _, _, _]) F27 N27 (apx.same rfl) r0 r1' (by omega) ?_⟩
             intro h28 F28 N28
             clear F27 N27
             simp only [List.cons_append, List.nil_append] at N28
             k_steps
             rename Fr _ _ _ _ => F29
             rename News _ _ _ _ => N29
             refine ⟨take_ap (pre := [_, _, _, _, _]) (post := [_]) (S0.to (fun _ _ e => e) F29 (by show callerA.depth + 1 ≤ 570; decide) (by show callerA.units + 3 ≤ 5700; decide) rfl) F29 N29 (apx.same rfl) bp3 bq3 bq31 (by simp; omega) (by simp; omega) ?_⟩
             intro r2 tr2 p4 q4 t4 u4 e4 h30 tk30 r20 r21 bp4 bq4 bq41 F30 N30
             clear F29 N29
             simp only [List.cons_append, List.nil_append] at N30
             k_steps
             rename Fr _ _ _ _ => F31
             rename News _ _ _ _ => N31
             refine ⟨ins_ap (pre := [_]) (post := [_, _, _, _, _]) F31 N31 (apx.same rfl) r20 (by simp at r21; omega) (by omega) ?_⟩
             intro h32 F32 N32
             clear F31 N31
             k_steps
             rename Fr _ _ _ _ => F33
             rename News _ _ _ _ => N33
             obtain ⟨tt, mv⟩ := okx.move (r := r.toNat) (j := r2.toNat) r1' p4 q4 t4 u4 e4 (x.eL + 1) (x.eC + 1) bp4 bq4 bq41
             refine ⟨_, _, _, _, _, rfl, ⟨mv, ?_, ?_, hxt⟩, F33, N33, fun p hp => ?_, fun p hp => in7R (tail := ((own ++ ex18) ++ own2) ++ own3) (List.mem_append_right _ hp), ho3, ?_⟩
             · show (x.tL.take r2.toNat ++ tt :: x.tL.drop r2.toNat).length ≤ _
               simp only [List.length_append, List.length_cons, List.length_take, List.length_drop]
               omega
             · show 3 ≤ (x.tC.eraseIdx r.toNat).length + (j + 1)
               rw [List.length_eraseIdx_of_lt (by omega)]
               omega
             · rcases mem7 hp with h | h
               · exact in7L h
               · exact in7R (tail := ((own ++ ex18) ++ own2) ++ own3) (List.mem_append_left _ h)
             · intro z hz
               have hz' := hz
               simp only [List.contains_cons, List.contains_nil, Bool.or_false, Bool.or_eq_false_iff, beq_eq_false_iff_ne, ne_eq] at hz'
               simp [hz'.1, hz'.2]
           case doneN =>
             intro x m₄ h24 tk24 hP3 F24 N24
             obtain ⟨okx, hl1, hc1, hxt⟩ := hP3
             have F24' : Fr H L h24 _ := F24
             clear F24 F23 N23 hR2
             k_steps
             rename Fr _ _ _ _ => F25
             rename News _ _ _ _ => N25
             refine ⟨((oth, cur), { x with vC := x.vO, eC := x.eO, tC := x.tO, vO := x.vC, eO := x.eC, tO := x.tC }), _, _, _, _, rfl, ⟨okx.swap, ?_, (ap.same rfl).perm (.cons _ (.cons _ (.swap _ _ _))), ?_⟩, F25, N25, fun p hp => ?_, fun p hp => in7R (tail := (own ++ ex18) ++ own2) (List.mem_append_right _ hp), ?_, ?_⟩
             · show x.tL.length ≤ _
               have hlen' : d.tL.length ≤ 2 * i2 := hlen
               omega
             · rcases hcase with ⟨rfl, hc, _, l3'⟩ | ⟨rfl, hc, _⟩ | rfl
               · injection hc with hc1' hc2'
                 refine .inr (.inl ⟨rfl, Prod.ext hc2' hc1', ?_⟩)
                 show x.tO.length = 3
                 rw [hxt]; exact l3'
               · exact .inr (.inr rfl)
               · exact absurd hi2 (by decide)
             · rcases mem7 (swapA hp) with h | h
               · exact in7L h
               · exact in7R (tail := (own ++ ex18) ++ own2) (List.mem_append_left _ h)
             · exact fun p hp b hb => ho2 p hp b (swapA hb)
             · intro z hz
               have hz' := hz
               simp only [List.contains_cons, List.contains_nil, Bool.or_false, Bool.or_eq_false_iff, beq_eq_false_iff_ne, ne_eq] at hz'
               simp [hz'.1, hz'.2]
         case doneM =>
           intro y m₃ h20 tk20 hP F20 N20
           obtain ⟨⟨cur, oth⟩, d⟩ := y
           obtain ⟨ok, hlen, ap, _⟩ := hP
           have F20' : Fr H L h20 _ := F20
           have N20' : News H L h20 (fx7 ml sm mo lot cur oth L src oC' (tabObj (tab1 lamP c.c)) d ++ (own ++ ex18)) := N20
           clear F20 N20 F17 N18' ap18
           have hlen4 : d.tL.length ≤ 4 := hlen
           have apI : Apart (fx4 lot L src oC' (tabObj (tab1 lamP c.c)) d.vL d.eL ⟨d.p, d.q, d.t, d.u, d.e, c.c, ex18⟩) (own ++ ex18) := ap.sublist (.cons _ (.cons₂ _ (.cons _ (.cons _ (.cons₂ _ (.cons₂ _ (.cons₂ _ .slnil)))))))
           have NI : News H L h20 (fx4 lot L src oC' (tabObj (tab1 lamP c.c)) d.vL d.eL ⟨d.p, d.q, d.t, d.u, d.e, c.c, ex18⟩ ++ (own ++ ex18)) := fun p hp => N20' p (by
             rcases List.mem_append.mp hp with h | h
             · refine in7L (tail := own ++ ex18) ?_
               simp only [List.mem_cons, List.not_mem_nil, or_false] at h ⊢
               rcases h with h | h | h | h
               · exact .inr (.inl h)
               · exact .inr (.inr (.inr (.inr (.inl h))))
               · exact .inr (.inr (.inr (.inr (.inr (.inl h)))))
               · exact .inr (.inr (.inr (.inr (.inr (.inr h)))))
             · exact in7R (tail := own ++ ex18) h)
           have WI : Lw H L T x0 (3 + i) (tab1 lamP c.c) (fx4 lot L src oC' (tabObj (tab1 lamP c.c)) d.vL d.eL ⟨d.p, d.q, d.t, d.u, d.e, c.c, ex18⟩ ++ own) ex18 G18 := W18.re (by
             intro p hp b hb
             rcases List.mem_append.mp hp with h | h
             · exact apI.off p h b (by rw [List.map_append]; exact List.mem_append_right _ hb)
             · exact W18.off p (List.mem_append_right _ h) b hb)
           clear N20' ap W18
           simp only [fx4, List.cons_append, List.nil_append] at NI
           k_steps
           rename Fr _ _ _ _ => F35
           rename News _ _ _ _ => N35
           refine ⟨LCg.Assign_ListComp_U (F₀ := F35) rfl (by with_unfolding_all rfl) (by with_unfolding_all rfl) (by decide) (by rfl) (by decide) (by rfl) (by rfl) (by rfl) ?_⟩
           k_steps
           rename Fr _ _ _ _ => F36
           rename News _ _ _ _ => N36
           refine ⟨take_ap (pre := [_, _]) (post := [_]) (S0.to (fun _ _ e => e) F36 (by show callerA.depth + 1 ≤ 570; decide) (by show callerA.units + 3 ≤ 5700; decide) rfl) F36 N36 apI ok.p0 ok.q0 ok.q1 (by decide) (by decide) ?_⟩
           intro n0 nt p2 q2 t2 u2 e2 h37 tk37 n00 n01 bp bq bq1 F37 N37
           clear F36 N36
           k_steps
           refine ⟨range1_rows F37 N37 ?_⟩
           intro h38 tk38 rt3 ru3 rv3 hR3 F38 N38 _
           clear F37 N37
           refine LCg.CompSrc.range rfl F38 N38 hR3 (small_one (by decide) (by decide) (by omega) (by omega)) (n := n0.toNat) (by rw [rangeSize_nat]; simp) (by rw [sizeLine_eq]; omega) fun h0' => ?_
           refine comp_rest (n := n0.toNat) (fun i5 ys news => ∃ (z : LSt) (G : Heap) (inner : List PyData), news = fx4 lot L src oC' (tabObj (tab1 lamP c.c)) d.vL d.eL z ++ (own ++ z.ex) ∧ 0 ≤ z.p ∧ 0 ≤ z.q ∧ z.q < 2147483647 ∧ Lw H L T x0 (3 + i) (tab1 lamP c.c) (fx4 lot L src oC' (tabObj (tab1 lamP c.c)) d.vL d.eL z ++ own) z.ex G ∧ Apart (fx4 lot L src oC' (tabObj (tab1 lamP c.c)) d.vL d.eL z) (own ++ z.ex) ∧ RdA G d.vL (d.tL.map toldD) ∧ RdA G ys inner ∧ inner.length = i5 ∧ ∀ x ∈ inner, Leaf x)
             ?finC ?turnC _ 0 [] _ (by first | with_reducible_and_instances k_mem | k_mem | simp) True.intro ⟨⟨p2, q2, t2, u2, e2, c.c, ex18⟩, G18, [], rfl, bp, bq, bq1, WI.same rfl, apI.same rfl, ok.rL, .nil, rfl, fun _ h => nomatch h⟩
           case turnC =>
             intro i5 ys news v I oI C oCc D9 mC h41 tk41 E41 hi5 hJ hP hCc hxc F41 N41 hoff41 _ hne
             obtain ⟨z, G, inner, rfl, zp, zq, zq1, Wz, apz, rL, rY, hlI, leaf⟩ := hJ
             obtain ⟨tv, rfl⟩ := hP
             clear F38 N38 hR3 WI apI
             simp only [fx4, List.cons_append, List.nil_append] at N41 hoff41
             k_steps
             rename Fr _ _ _ _ => F42
             rename News _ _ _ _ => N42
             rename_i lc _ lcl
             have o1 := hoff41.mem (src, srcO z) (by first | with_reducible_and_instances k_mem | k_mem | simp)
             have a1 := Apart.pre_ne (pre := [(lot, listOf d.vL.toArray d.eL), (L + 1, oC')]) (post := [(369, tabObj (tab1 lamP c.c))]) apz
             have a2 := Apart.post_ne (pre := [(lot, listOf d.vL.toArray d.eL), (L + 1, oC')]) (post := [(369, tabObj (tab1 lamP c.c))]) apz
             refine ⟨one_ns (vs := [_, _]) (src := src) (rest := [(I, oI), (C, oCc), (D9, LCg.lst ys), (lot, listOf d.vL.toArray d.eL), (L + 1, oC'), (369, tabObj (tab1 lamP c.c))] ++ (own ++ z.ex)) (S0.to (fun _ _ e => e) F42 (by show callerA.depth + 1 ≤ 570; decide) (by show callerA.units + 3 ≤ 5700; decide) rfl) F42 N42 (show (src, srcO z) ∈ _ from .tail _ (.tail _ (.tail _ (.tail _ (.tail _ (.tail _ (.head _))))))) ?hr5 (N42.get (.head _)) (Nat.ne_of_gt lcl.2.2.2.2.2.1) zp zq zq1 (by first | with_reducible_and_instances k_mem | k_mem | simp) (by first | with_reducible_and_instances k_mem | k_mem | simp) ?one5⟩
             case hr5 =>
               intro x hx
               rcases List.mem_append.mp hx with hx | hx
               · simp only [List.mem_cons, List.not_mem_nil, or_false] at hx
                 rcases hx with rfl | rfl | rfl | rfl | rfl | rfl
                 · exact ⟨by simp, fun y => o1.1 y.symm⟩
                 · exact ⟨by simp, fun y => o1.2.1 y.symm⟩
                 · exact ⟨by simp, fun y => o1.2.2 y.symm⟩
                 · exact ⟨by simp, a1 _ (.head _)⟩
                 · exact ⟨by simp, a1 _ (.tail _ (.head _))⟩
                 · exact ⟨by simp, a2 _ (.head _)⟩
               · exact ⟨.tail _ (.tail _ (.tail _ (.tail _ (.tail _ (.tail _ (.tail _ (.tail _ hx))))))), a2 _ (.tail _ hx)⟩
             case one5 =>
               intro v p' q' t' u' e' h43 tk43 hv zp' zq' zq1' F43 N43
               obtain ⟨val, vt, rfl, hval⟩ : ∃ val vt, v = .str val vt ∧ PyData.strOk val = true := by
                 simp only [List.mem_cons, List.not_mem_nil, or_false] at hv
                 rcases hv with rfl | rfl
                 · exact ⟨_, _, rfl, by decide +kernel⟩
                 · exact ⟨_, _, rfl, by decide +kernel⟩
               clear F42 N42 hv lcl
               simp only [List.cons_append, List.nil_append] at N43
               k_steps
               rename Fr _ _ _ _ => F44
               rename News _ _ _ _ => N44
               rename_i E1 _ lE1 E2 _ lE2 T3 _ lT3
               have fsub : ∀ p ∈ [(src, listOf #[.int p' t', .int q' u'] e'), (I, oI), (C, oCc), (D9, LCg.lst ys), (lot, listOf d.vL.toArray d.eL), (L + 1, oC'), (369, tabObj (tab1 lamP c.c))] ++ own, p ∈ (src, listOf #[.int p' t', .int q' u'] e') :: (I, oI) :: (C, oCc) :: (D9, LCg.lst ys) :: (lot, listOf d.vL.toArray d.eL) :: (L + 1, oC') :: (369, tabObj (tab1 lamP c.c)) :: (own ++ z.ex) := fun p hp => by
                 rcases List.mem_append.mp hp with h | h
                 · exact in7L (tail := own ++ z.ex) h
                 · exact in7R (tail := own ++ z.ex) (List.mem_append_left _ h)
               have zE1 := ne_of_allLt (b := E1) (l := (src, listOf #[.int p' t', .int q' u'] e') :: (I, oI) :: (C, oCc) :: (D9, LCg.lst ys) :: (lot, listOf d.vL.toArray d.eL) :: (L + 1, oC') :: (369, tabObj (tab1 lamP c.c)) :: (own ++ z.ex)) lE1 fsub
               have zE2 := ne_of_allLt (b := E2) (l := (src, listOf #[.int p' t', .int q' u'] e') :: (I, oI) :: (C, oCc) :: (D9, LCg.lst ys) :: (lot, listOf d.vL.toArray d.eL) :: (L + 1, oC') :: (369, tabObj (tab1 lamP c.c)) :: (own ++ z.ex)) lE2.2 fsub
               have zT3 := ne_of_allLt (b := T3) (l := (src, listOf #[.int p' t', .int q' u'] e') :: (I, oI) :: (C, oCc) :: (D9, LCg.lst ys) :: (lot, listOf d.vL.toArray d.eL) :: (L + 1, oC') :: (369, tabObj (tab1 lamP c.c)) :: (own ++ z.ex)) lT3.2.2 fsub
               obtain ⟨ex5, G5, N45, W45, st45, hG45⟩ := lw_gather3 (fx' := [(src, listOf #[.int p' t', .int q' u'] e'), (I, oI), (C, oCc), (D9, LCg.lst ys), (lot, listOf d.vL.toArray d.eL), (L + 1, oC'), (369, tabObj (tab1 lamP c.c))] ++ own) F44 N44 (fun p hp => .tail _ (.tail _ (.tail _ (fsub p hp)))) (fun p hp => .tail _ (.tail _ (.tail _ (in7R (tail := own ++ z.ex) (List.mem_append_right _ hp))))) Wz (by
                 intro p hp b hb
                 obtain ⟨r', hr', rfl⟩ := List.mem_map.mp hb
                 have o2 := hoff41.mem r' (by simp [hr'])
                 rcases List.mem_append.mp hp with h | h
                 · simp only [List.mem_cons, List.not_mem_nil, or_false] at h
                   rcases h with rfl | rfl | rfl | rfl | rfl | rfl | rfl
                   · exact Wz.off (src, srcO z) (by first | with_reducible_and_instances k_mem | k_mem | simp) _ hb
                   · exact fun y => o2.1 y.symm
                   · exact fun y => o2.2.1 y.symm
                   · exact fun y => o2.2.2 y.symm
                   · exact Wz.off (lot, listOf d.vL.toArray d.eL) (by first | with_reducible_and_instances k_mem | k_mem | simp) _ hb
                   · exact Wz.off (L + 1, oC') (by first | with_reducible_and_instances k_mem | k_mem | simp) _ hb
                   · exact Wz.off (369, tabObj (tab1 lamP c.c)) (by first | with_reducible_and_instances k_mem | k_mem | simp) _ hb
                 · exact Wz.off p (List.mem_append_right _ h) _ hb)
               have rT : Rd G5 (.ref T3) (formD (sO "comment") (.str (sO "")) val [] []) := .tup (vs := [_, _, _, _, _]) (hG45 T3 _ (N44 _ (.head _)).1 (N44 _ (.head _)).2.1 zT3) (.cons .str (.cons .str (.cons .str (.cons (.tup (vs := []) (hG45 E1 _ (N44 _ (.tail _ (.tail _ (.head _)))).1 (N44 _ (.tail _ (.tail _ (.head _)))).2.1 zE1) .nil) (.cons (.tup (vs := []) (hG45 E2 _ (N44 _ (.tail _ (.head _))).1 (N44 _ (.tail _ (.head _))).2.1 zE2) .nil) .nil)))))
               refine LCg.CompEnd.intro (all := (I, oI) :: (C, oCc) :: (D9, LCg.lst ys) :: (fx4 lot L src oC' (tabObj (tab1 lamP c.c)) d.vL d.eL ⟨p', q', t', u', e', z.c, ex5⟩ ++ (own ++ ex5))) F44 (fun p hp => N45 p (by
                 simp only [fx4, List.mem_append, List.mem_cons, List.not_mem_nil, or_false] at hp ⊢
                 rcases hp with h | h | h | (h | h | h | h) | h | h
                 · exact .inl (.inl (.inr (.inl h)))
                 · exact .inl (.inl (.inr (.inr (.inl h))))
                 · exact .inl (.inl (.inr (.inr (.inr (.inl h)))))
                 · exact .inl (.inl (.inr (.inr (.inr (.inr (.inl h))))))
                 · exact .inl (.inl (.inr (.inr (.inr (.inr (.inr (.inl h)))))))
                 · exact .inl (.inl (.inl h))
                 · exact .inl (.inl (.inr (.inr (.inr (.inr (.inr (.inr h)))))))
                 · exact .inl (.inr h)
                 · exact .inr h)) _ (fun p hp => hp) (LCg.Off3.of fun p hp => ?off5) True.intro ⟨⟨p', q', t', u', e', z.c, ex5⟩, G5, inner ++ [formD (sO "comment") (.str (sO "")) val [] []], rfl, zp', zq', zq1', ?w5, ⟨(apz.same rfl).nd, off_append (fun p hp b hb => (apz.same (fx' := fx4 lot L src oC' (tabObj (tab1 lamP c.c)) d.vL d.eL ⟨p', q', t', u', e', z.c, ex5⟩) rfl).off p hp b (by rw [List.map_append]; exact List.mem_append_left _ hb)) (off_sub W45.off ?s5)⟩, rL.up st45, (rY.up st45).snoc rT, by rw [List.length_append, hlI]; rfl, ?leaf5⟩
               case leaf5 =>
                 intro x hx
                 rcases List.mem_append.mp hx with h | h
                 · exact leaf x h
                 · rw [List.mem_singleton.mp h]; exact leaf_c hval
               case s5 =>
                 intro p hp
                 refine List.mem_append_left _ ?_
                 simp only [fx4, List.mem_cons, List.not_mem_nil, or_false] at hp ⊢
                 rcases hp with h | h | h | h
                 · exact .inr (.inr (.inr (.inr (.inl h))))
                 · exact .inr (.inr (.inr (.inr (.inr (.inl h)))))
                 · exact .inl h
                 · exact .inr (.inr (.inr (.inr (.inr (.inr h)))))
               case w5 =>
                 refine W45.sub fun p hp => ?_
                 rcases List.mem_append.mp hp with h | h
                 · refine List.mem_append_left _ ?_
                   simp only [fx4, List.mem_cons, List.not_mem_nil, or_false] at h ⊢
                   rcases h with h | h | h | h
                   · exact .inr (.inr (.inr (.inr (.inl h))))
                   · exact .inr (.inr (.inr (.inr (.inr (.inl h)))))
                   · exact .inl h
                   · exact .inr (.inr (.inr (.inr (.inr (.inr h)))))
                 · exact List.mem_append_right _ h
               case off5 =>
                 rcases mem_app3 hp with h | h | h
                 · simp only [fx4, List.mem_cons, List.not_mem_nil, or_false] at h
                   rcases h with rfl | rfl | rfl | rfl
                   · exact hoff41.mem (lot, listOf d.vL.toArray d.eL) (by first | with_reducible_and_instances k_mem | k_mem | simp)
                   · exact hoff41.mem (L + 1, oC') (by first | with_reducible_and_instances k_mem | k_mem | simp)
                   · exact o1
                   · exact hoff41.mem (369, tabObj (tab1 lamP c.c)) (by first | with_reducible_and_instances k_mem | k_mem | simp)
                 · exact hoff41.mem p (by simp [h])
                 · exact ⟨fun y => W45.off (I, oI) (by first | with_reducible_and_instances k_mem | k_mem | simp) _ (List.mem_map_of_mem (f := (·.1)) h) y.symm, fun y => W45.off (C, oCc) (by first | with_reducible_and_instances k_mem | k_mem | simp) _ (List.mem_map_of_mem (f := (·.1)) h) y.symm, fun y => W45.off (D9, LCg.lst ys) (by first | with_reducible_and_instances k_mem | k_mem | simp) _ (List.mem_map_of_mem (f := (·.1)) h) y.symm⟩
           case finC =>
             intro ysN newsN hJ
             obtain ⟨z, G6, inner, rfl, zp, zq, zq1, Wz, apz, rL, rY, hlI, leaf⟩ := hJ
             intro DN h46 tk46 F46 N46 o46
             clear F38 N38 hR3 WI apI
             simp only [fx4, List.cons_append, List.nil_append] at N46
             k_steps
             rename Fr _ _ _ _ => F47
             rename News _ _ _ _ => N47
             have h369 : ∀ p ∈ own, p.1 ≠ 369 := fun p hp => ho p hp 369 (by first | with_reducible_and_instances k_mem | k_mem | simp)
             have hsrc' : ∀ p ∈ own, p.1 ≠ src := fun p hp => ho p hp src (by first | with_reducible_and_instances k_mem | k_mem | simp)
             have N47' : News H L _ (((369, tabObj (tab1 lamP c.c)) :: ([(L + 1, oC'), (src, srcO z)] ++ own)) ++ z.ex) := fun p hp => N47 p (by
               simp only [List.cons_append, List.nil_append, List.mem_append, List.mem_cons] at hp ⊢
               rcases hp with h | h | h | h | h
               · exact .inr (.inr (.inr (.inr (.inl h))))
               · exact .inr (.inr (.inl h))
               · exact .inr (.inr (.inr (.inl h)))
               · exact .inr (.inr (.inr (.inr (.inr (.inl h)))))
               · exact .inr (.inr (.inr (.inr (.inr (.inr h))))))
             have up6 := Wz.gat.up F47 N47' (fun p hp => List.mem_append_right _ hp)
             have W47 : Lw H L T x0 (3 + i) (tab1 lamP c.c) ((369, tabObj (tab1 lamP c.c)) :: ([(L + 1, oC'), (src, srcO z)] ++ own)) z.ex G6 := Wz.sub fun p hp => by
               simp only [fx4, List.cons_append, List.nil_append, List.mem_append, List.mem_cons] at hp ⊢
               rcases hp with h | h | h | h
               · exact .inr (.inr (.inr (.inl h)))
               · exact .inr (.inl h)
               · exact .inr (.inr (.inl h))
               · exact .inr (.inr (.inr (.inr h)))
             refine ⟨el_ls (ts := d.tL) (inner := inner) (fr := [(L + 1, oC'), (src, srcO z)] ++ own) (S0.to (fun _ _ e => e) F47 (by show callerA.depth + 1 ≤ 520; decide) (by show callerA.units + 3 ≤ 5200; decide) rfl) F47 N47' W47 (fun p hp => by
               rcases List.mem_append.mp hp with h | h
               · simp only [List.mem_cons, List.not_mem_nil, or_false] at h
                 rcases h with rfl | rfl
                 · exact fun y => nLT y.symm
                 · exact nT
               · exact h369 p h) (N47 _ (.tail _ (.head _))).1 (rL.up up6) (fit_all ⟨d.tC ++ d.tO, ok.perm⟩ hlen4 leaf (by omega)) (N47 _ (.head _)).1 (rY.up up6) hcode ?_⟩
             intro c9 h48 tk48 ex48 G48 F48 N48 W48 _
             clear F47 N47 N47' up6 W47 Wz apz rL rY o46 leaf
             simp only [List.cons_append, List.nil_append] at N48
             k_steps
             rename Fr _ _ _ _ => F49
             rename News _ _ _ _ => N49
             rename_i K1 _ lK1 K2 _ lK2 K3 _ lK3 lk _ llk
             have r49 : RdA _ [.ref K1, .ref K2, .ref K3] (([(Str.ofString "instruction", Str.ofString "t"), (Str.ofString "text", Str.ofString ""), (Str.ofString "comment", Str.ofString "")] : List (Str × Str)).map pairD) := .cons (.tup (vs := [_, _]) (N49 _ (.tail _ (.tail _ (.tail _ (.head _))))).1 (.cons .str (.cons .str .nil))) (.cons (.tup (vs := [_, _]) (N49 _ (.tail _ (.tail _ (.head _)))).1 (.cons .str (.cons .str .nil))) (.cons (.tup (vs := [_, _]) (N49 _ (.tail _ (.head _))).1 (.cons .str (.cons .str .nil))) .nil))
             obtain ⟨ex50, G50, N50, W50, _, _, rm50⟩ := lw_gather (fx' := (lk, listOf #[.ref K1, .ref K2, .ref K3] 0) :: (369, tabObj (tab1 lamP c9)) :: ([(L + 1, oC'), (src, srcO z)] ++ own)) F49 N49 (fun p hp => by
               simp only [List.cons_append, List.nil_append, List.mem_append, List.mem_cons] at hp ⊢
               rcases hp with h | h | h | h | h
               · exact .inl h
               · exact .inr (.inr (.inr (.inr (.inl h))))
               · exact .inr (.inr (.inr (.inr (.inr (.inl h)))))
               · exact .inr (.inr (.inr (.inr (.inr (.inr (.inl h))))))
               · exact .inr (.inr (.inr (.inr (.inr (.inr (.inr (.inl h))))))))
               (fun p hp => .tail _ (.tail _ (.tail _ (.tail _ (.tail _ (.tail _ (.tail _ (List.mem_append_right _ hp)))))))) W48
               (off_of_lt (fun r hr => allLt_mem llk.2.2.2.2.2.2 r (List.mem_append_right _ hr)) W48.off)
               (noT_cons noT_list (noT_cons noT_tab (noT_app (noT_cons (noT_cell hoC') (noT_cons noT_list noT_nil)) hnt)))
             have rG50 := rm50 _ _ r49
             have nlk : lk ≠ src := Nat.ne_of_gt llk.2.2.2.2.2.1
             simp only [List.cons_append, List.nil_append] at N50
             clear N49 W48 rm50 r49 lK1 lK2 lK3 llk
             have n50 : ∀ r ∈ ex50, r.1 ≠ src := fun r hr y => W50.off (src, srcO z) (by first | with_reducible_and_instances k_mem | k_mem | simp) _ (List.mem_map_of_mem (f := (·.1)) hr) y.symm
             refine ⟨one_ns (vs := [.ref K1, .ref K2, .ref K3]) (src := src) (rest := (369, tabObj (tab1 lamP c9)) :: (L + 1, oC') :: (own ++ ex50)) (S0.to (fun _ _ e => e) F49 (by show callerA.depth + 1 ≤ 570; decide) (by show callerA.units + 3 ≤ 5700; decide) rfl) F49 N50 (show (src, srcO z) ∈ _ from .tail _ (.tail _ (.tail _ (.head _)))) ?hr9 (N50 _ (.head _)).1 nlk zp zq zq1 (by first | with_reducible_and_instances k_mem | k_mem | simp) (by first | with_reducible_and_instances k_mem | k_mem | simp) ?one9⟩
             case hr9 =>
               intro x hx
               simp only [List.mem_cons, List.mem_append] at hx
               rcases hx with rfl | rfl | h | h
               · exact ⟨.tail _ (.head _), fun y => nT y.symm⟩
               · exact ⟨.tail _ (.tail _ (.head _)), fun y => nS y.symm⟩
               · exact ⟨.tail _ (.tail _ (.tail _ (.tail _ (List.mem_append_left _ h)))), hsrc' x h⟩
               · exact ⟨.tail _ (.tail _ (.tail _ (.tail _ (List.mem_append_right _ h)))), n50 x h⟩
             case one9 =>
               intro v p7 q7 t7 u7 e7 h51 tk51 hv zp7 zq7 zq71 F51 N51
               obtain ⟨dd, hdd, rv⟩ := rG50.mem hv
               obtain ⟨kt, hkt, rfl⟩ := List.mem_map.mp hdd
               have okt : PlainOk kt.1 kt.2 := by
                 simp only [List.mem_cons, List.not_mem_nil, or_false] at hkt
                 rcases hkt with rfl | rfl | rfl
                 · exact ⟨by decide +kernel, .inr (.inr rfl)⟩
                 · exact ⟨by decide +kernel, .inl ⟨rfl, rfl⟩⟩
                 · exact ⟨by decide +kernel, .inr (.inl ⟨rfl, rfl⟩)⟩
               obtain ⟨a, t1, t2', n, rfl, ea⟩ := Rd.key_inv rv
               have gq := W50.gat
               clear F49 N50 hv rv hdd rG50
               k_steps
               rename Fr _ _ _ _ => F52
               rename News _ _ _ _ => N52
               rename_i ls _ lls
               refine ⟨one_ns (vs := [_, _, _]) (src := src) (rest := (369, tabObj (tab1 lamP c9)) :: (L + 1, oC') :: (own ++ ex50)) (S0.to (fun _ _ e => e) F52 (by show callerA.depth + 1 ≤ 570; decide) (by show callerA.units + 3 ≤ 5700; decide) rfl) F52 N52 (show (src, listOf #[.int p7 t7, .int q7 u7] e7) ∈ _ from .tail _ (.head _)) ?hr10 (N52 _ (.head _)).1 (Nat.ne_of_gt lls.1) zp7 zq7 zq71 (by first | with_reducible_and_instances k_mem | k_mem | simp) (by first | with_reducible_and_instances k_mem | k_mem | simp) ?one10⟩
               case hr10 =>
                 intro x hx
                 simp only [List.mem_cons, List.mem_append] at hx
                 rcases hx with rfl | rfl | h | h
                 · exact ⟨.tail _ (.tail _ (.head _)), fun y => nT y.symm⟩
                 · exact ⟨.tail _ (.tail _ (.tail _ (.head _))), fun y => nS y.symm⟩
                 · exact ⟨.tail _ (.tail _ (.tail _ (.tail _ (List.mem_append_left _ h)))), hsrc' x h⟩
                 · exact ⟨.tail _ (.tail _ (.tail _ (.tail _ (List.mem_append_right _ h)))), n50 x h⟩
               case one10 =>
                 intro v p8 q8 t8 u8 e8 h53 tk53 hv zp8 zq8 zq81 F53 N53
                 obtain ⟨val, vt, rfl, hval⟩ : ∃ val vt, v = .str val vt ∧ PyData.strOk val = true := by
                   simp only [List.mem_cons, List.not_mem_nil, or_false] at hv
                   rcases hv with rfl | rfl | rfl
                   · exact ⟨_, _, rfl, by decide +kernel⟩
                   · exact ⟨_, _, rfl, by decide +kernel⟩
                   · exact ⟨_, _, rfl, by decide +kernel⟩
                 clear F52 N52 hv lls
                 k_steps
                 rename Fr _ _ _ _ => F54
                 rename News _ _ _ _ => N54
                 refine plain_ls (fx := [(src, listOf #[.int p8 t8, .int q8 u8] e8), (369, tabObj (tab1 lamP c9)), (L + 1, oC')] ++ own) (ex := ex50) rfl (S0.to (fun _ _ e => e) F54 (by show callerA.depth + 1 ≤ 530; decide) (by show callerA.units + 3 ≤ 5300; decide) rfl) F54 (fun p hp => N54 p (by rw [List.append_assoc] at hp; exact hp)) (W50.re fun p hp b hb => by
                   rcases List.mem_append.mp hp with h | h
                   · simp only [List.mem_cons, List.not_mem_nil, or_false] at h
                     rcases h with rfl | rfl | rfl
                     · exact W50.off (src, srcO z) (by first | with_reducible_and_instances k_mem | k_mem | simp) b hb
                     · exact W50.off (369, tabObj (tab1 lamP c9)) (by first | with_reducible_and_instances k_mem | k_mem | simp) b hb
                     · exact W50.off (L + 1, oC') (by first | with_reducible_and_instances k_mem | k_mem | simp) b hb
                   · exact W50.off p (by simp [h]) b hb) (by omega) okt hval ?_
                 intro h55 tk55 ex55 G55 F55 N55 W55 _
                 clear F54 N54
                 k_steps
                 rename Fr _ _ _ _ => F56
                 rename News _ _ _ _ => N56
                 refine ⟨⟨p8, q8, t8, u8, e8, c9, ex55⟩, _, _, _, _, rfl, ⟨zp8, zq8, zq81, G55, W55.sub ?w9⟩, F56, N56, ?m1, ?m2, ?o9, ?nm⟩
                 case w9 =>
                   intro p hp
                   refine List.mem_append_left _ ?_
                   simp only [List.mem_cons, List.not_mem_nil, or_false] at hp ⊢
                   rcases hp with h | h | h
                   · exact .inr (.inr h)
                   · exact .inl h
                   · exact .inr (.inl h)
                 case m1 =>
                   intro p hp
                   have hp' : p ∈ (L + 1, oC') :: (src, listOf #[.int p8 t8, .int q8 u8] e8) :: (369, tabObj (tab1 lamP c9)) :: ex55 := hp
                   show p ∈ ([(src, listOf #[.int p8 t8, .int q8 u8] e8), (369, tabObj (tab1 lamP c9)), (L + 1, oC')] ++ own) ++ ex55
                   simp only [List.mem_cons, List.mem_append, List.not_mem_nil, or_false] at hp' ⊢
                   rcases hp' with h | h | h | h
                   · exact .inl (.inl (.inr (.inr h)))
                   · exact .inl (.inl (.inl h))
                   · exact .inl (.inl (.inr (.inl h)))
                   · exact .inr h
                 case m2 => exact fun p hp => List.mem_append_left _ (List.mem_append_right _ hp)
                 case o9 =>
                   intro p hp b hb
                   have hb' : b ∈ (L + 1) :: src :: 369 :: ex55.map (·.1) := hb
                   have ho' : ∀ b ∈ (L + 1) :: src :: 369 :: c.ex.map (·.1), p.1 ≠ b := ho p hp
                   rcases List.mem_cons.mp hb' with h | h
                   · exact ho' b (by rw [h]; exact .head _)
                   rcases List.mem_cons.mp h with h | h
                   · exact ho' b (by rw [h]; exact .tail _ (.head _))
                   rcases List.mem_cons.mp h with h | h
                   · exact ho' b (by rw [h]; exact .tail _ (.tail _ (.head _)))
                   · exact W55.off p (List.mem_append_right _ hp) b h
                 case nm =>
                   intro y hy
                   have hy' := hy
                   simp only [List.contains_cons, List.contains_nil, Bool.or_false, Bool.or_eq_false_iff, beq_eq_false_iff_ne, ne_eq] at hy'
                   simp [hy'.1, hy'.2]
       case doneL =>
         intro c m₂ h16 tk16 hP F16 N16
         have F16' : Fr H L h16 _ := F16
         have N16' : News H L h16 ((L + 1, oC') :: (src, srcO c) :: (369, tabObj (tab1 lamP c.c)) :: c.ex) := N16
         clear F15 N15 W13 hR F16 N16
         k_steps)
end Mine

set_option maxHeartbeats 8000000 in
theorem PySem.Challenge.cw_xw0214_01_holds : PySem.Challenge.rw_xw0214_01.Holds := by
  exact Mine.law_holds
