import PyProof.Rows.All
import Wide.All
import OpenK.AllK
import Wide.FinOn
import PySem.Challenge.RW_on0160_01
open PySem PySem.W PyProof.Rows PySem.Calls PySem.Spec
set_option Elab.async false
namespace Mine
set_option maxRecDepth 100000
section
noncomputable def at_ (i : Nat) : Option Stmt := PySem.Challenge.pw_on0160_01.main.body[i]?
noncomputable def mem (s : Option Stmt) (j : Nat) : Option Stmt := match s with
  | some (.ClassDef _ _ _ b _ _ _ _ _ _ _) => b[j]?
  | _ => none
noncomputable def fsel (s : Option Stmt) : Option (Str × Arguments × List Stmt × Scope) := match s with
  | some (.FunctionDef n a b _ _ _ sc _ _ _) => some (n, a, b, sc)
  | _ => none
noncomputable def fo {n : Str} {p : Arguments} {b : List Stmt} {sc : Scope} {o : Option Stmt} (qual : Str) (gl : Addr) (cl : List (Str × Addr)) (df kdf doc md : Value) (an : Option Addr) (cd ct : Value) (bi : Addr) (_ : fsel o = some (n, p, b, sc)) : Obj :=
  ⟨.type "function", none, .func ⟨n, qual, p, .stmts b, sc, gl, cl, df, kdf, doc, md, an, cd, ct, bi⟩, #[]⟩
noncomputable def K0 : Params → Frag := fun P =>
  (nat_lit 2, ⟨.none, none, (.dict #[] (0 : Nat)), #[]⟩) ::
  (nat_lit 3, ⟨(.type "dict"), none, (.dict #[⟨(PyData.keyHash P (Str.ofString "__name__")), (.str (Str.ofString "__name__") (165 : Nat)), (.str (Str.ofString "law_on0160_01") (478 : Nat))⟩, ⟨(PyData.keyHash P (Str.ofString "__doc__")), (.str (Str.ofString "__doc__") (166 : Nat)), .none⟩, ⟨(PyData.keyHash P (Str.ofString "__package__")), (.str (Str.ofString "__package__") (167 : Nat)), .none⟩, ⟨(PyData.keyHash P (Str.ofString "__loader__")), (.str (Str.ofString "__loader__") (168 : Nat)), (.builtin "__main__.__loader__#opaque")⟩, ⟨(PyData.keyHash P (Str.ofString "__spec__")), (.str (Str.ofString "__spec__") (169 : Nat)), .none⟩, ⟨(PyData.keyHash P (Str.ofString "__annotations__")), (.str (Str.ofString "__annotations__") (170 : Nat)), (.ref (6 : Nat))⟩, ⟨(PyData.keyHash P (Str.ofString "__builtins__")), (.str (Str.ofString "__builtins__") (171 : Nat)), (.ref (4 : Nat))⟩, ⟨(PyData.keyHash P (Str.ofString "__file__")), (.str (Str.ofString "__file__") (173 : Nat)), (.str (Str.ofString "/claim/cut.py") (172 : Nat))⟩, ⟨(PyData.keyHash P (Str.ofString "__cached__")), (.str (Str.ofString "__cached__") (174 : Nat)), .none⟩, ⟨(PyData.keyHash P (Str.ofString "_wall")), (.str (Str.ofString "_wall") (193 : Nat)), (.ref (21 : Nat))⟩, ⟨(PyData.keyHash P (Str.ofString "Position")), (.str (Str.ofString "Position") (235 : Nat)), (.ref (45 : Nat))⟩, ⟨(PyData.keyHash P (Str.ofString "Token")), (.str (Str.ofString "Token") (284 : Nat)), (.ref (81 : Nat))⟩, ⟨(PyData.keyHash P (Str.ofString "Tree")), (.str (Str.ofString "Tree") (369 : Nat)), (.ref (147 : Nat))⟩, ⟨(PyData.keyHash P (Str.ofString "Leaf")), (.str (Str.ofString "Leaf") (411 : Nat)), (.ref (182 : Nat))⟩, ⟨(PyData.keyHash P (Str.ofString "postorder")), (.str (Str.ofString "postorder") (422 : Nat)), (.ref (191 : Nat))⟩, ⟨(PyData.keyHash P (Str.ofString "TreeHandler")), (.str (Str.ofString "TreeHandler") (477 : Nat)), (.ref (229 : Nat))⟩, ⟨(PyData.keyHash P (Str.ofString "_law_pen")), (.str (Str.ofString "_law_pen") (485 : Nat)), (.ref (238 : Nat))⟩, ⟨(PyData.keyHash P (Str.ofString "_law_draw")), (.str (Str.ofString "_law_draw") (495 : Nat)), (.ref (245 : Nat))⟩, ⟨(PyData.keyHash P (Str.ofString "_law_names")), (.str (Str.ofString "_law_names") (501 : Nat)), (.ref (246 : Nat))⟩, ⟨(PyData.keyHash P (Str.ofString "_law_told")), (.str (Str.ofString "_law_told") (507 : Nat)), (.ref (251 : Nat))⟩, ⟨(PyData.keyHash P (Str.ofString "law")), (.str (Str.ofString "law") (513 : Nat)), (.ref (256 : Nat))⟩] (21 : Nat)), #[]⟩) ::
  (nat_lit 15, ⟨(.type "tuple"), none, (.seq #[] (0 : Nat)), #[]⟩) ::
  (nat_lit 17, ⟨(.type "tuple"), none, (.seq #[(.str (Str.ofString "k") (190 : Nat))] (0 : Nat)), #[]⟩) ::
  (nat_lit 18, ⟨(.type "tuple"), none, (.seq #[] (0 : Nat)), #[]⟩) ::
  (nat_lit 20, ⟨(.type "code"), none, (.fields #[(.str (Str.ofString "_wall") (187 : Nat)), (.str (Str.ofString "_wall") (188 : Nat)), (.str (Str.ofString "/claim/cut.py") (189 : Nat)), (.int (1 : Int) (0 : Nat)), (.int (1 : Int) (0 : Nat)), (.int (0 : Int) (0 : Nat)), (.int (0 : Int) (0 : Nat)), (.int (3 : Int) (0 : Nat)), (.ref (15 : Nat)), (.bool true), (.int (181 : Int) (0 : Nat)), (.ref (16 : Nat)), .none, (.ref (17 : Nat)), (.ref (18 : Nat)), (.ref (19 : Nat)), (.int (191 : Int) (0 : Nat)), (.int (1 : Int) (0 : Nat)), (.str (Str.ofString "/claim/cut.py") (192 : Nat))]), #[]⟩) ::
  (nat_lit 21, fo (Str.ofString "_wall") (3 : Nat) [] .none .none .none (.str (Str.ofString "__main__") (164 : Nat)) none (.ref (20 : Nat)) .none (0 : Nat) (rfl : fsel (at_ 0) = some (_, _, _, _))) ::
  (nat_lit 29, ⟨(.type "tuple"), none, (.seq #[] (0 : Nat)), #[]⟩) ::
  (nat_lit 31, ⟨(.type "tuple"), none, (.seq #[(.str (Str.ofString "self") (211 : Nat)), (.str (Str.ofString "offset") (212 : Nat)), (.str (Str.ofString "line") (213 : Nat)), (.str (Str.ofString "column") (214 : Nat))] (0 : Nat)), #[]⟩) ::
  (nat_lit 32, ⟨(.type "tuple"), none, (.seq #[] (0 : Nat)), #[]⟩) ::
  (nat_lit 34, ⟨(.type "code"), none, (.fields #[(.str (Str.ofString "__init__") (208 : Nat)), (.str (Str.ofString "Position.__init__") (209 : Nat)), (.str (Str.ofString "/claim/cut.py") (210 : Nat)), (.int (7 : Int) (0 : Nat)), (.int (4 : Int) (0 : Nat)), (.int (0 : Int) (0 : Nat)), (.int (0 : Int) (0 : Nat)), (.int (3 : Int) (0 : Nat)), (.ref (29 : Nat)), (.bool true), (.int (181 : Int) (0 : Nat)), (.ref (30 : Nat)), .none, (.ref (31 : Nat)), (.ref (32 : Nat)), (.ref (33 : Nat)), (.int (215 : Int) (0 : Nat)), (.int (7 : Int) (0 : Nat)), (.str (Str.ofString "/claim/cut.py") (216 : Nat))]), #[]⟩) ::
  (nat_lit 35, fo (Str.ofString "Position.__init__") (3 : Nat) [] .none .none .none (.str (Str.ofString "grammarmill.source") (194 : Nat)) none (.ref (34 : Nat)) .none (0 : Nat) (rfl : fsel (mem (at_ 2) 0) = some (_, _, _, _))) ::
  (nat_lit 36, ⟨(.type "tuple"), none, (.seq #[] (0 : Nat)), #[]⟩) ::
  (nat_lit 38, ⟨(.type "tuple"), none, (.seq #[(.str (Str.ofString "self") (221 : Nat))] (0 : Nat)), #[]⟩) ::
  (nat_lit 39, ⟨(.type "tuple"), none, (.seq #[] (0 : Nat)), #[]⟩) ::
  (nat_lit 41, ⟨(.type "code"), none, (.fields #[(.str (Str.ofString "told") (218 : Nat)), (.str (Str.ofString "Position.told") (219 : Nat)), (.str (Str.ofString "/claim/cut.py") (220 : Nat)), (.int (12 : Int) (0 : Nat)), (.int (1 : Int) (0 : Nat)), (.int (0 : Int) (0 : Nat)), (.int (0 : Int) (0 : Nat)), (.int (3 : Int) (0 : Nat)), (.ref (36 : Nat)), (.bool true), (.int (181 : Int) (0 : Nat)), (.ref (37 : Nat)), .none, (.ref (38 : Nat)), (.ref (39 : Nat)), (.ref (40 : Nat)), (.int (222 : Int) (0 : Nat)), (.int (12 : Int) (0 : Nat)), (.str (Str.ofString "/claim/cut.py") (223 : Nat))]), #[]⟩) ::
  (nat_lit 42, fo (Str.ofString "Position.told") (3 : Nat) [] .none .none .none (.str (Str.ofString "grammarmill.source") (194 : Nat)) none (.ref (41 : Nat)) .none (0 : Nat) (rfl : fsel (mem (at_ 2) 1) = some (_, _, _, _))) ::
  (nat_lit 43, ⟨(.type "tuple"), none, (.seq #[(.str (Str.ofString "column") (225 : Nat)), (.str (Str.ofString "line") (226 : Nat)), (.str (Str.ofString "offset") (227 : Nat))] (0 : Nat)), #[]⟩) ::
  (nat_lit 44, ⟨(.type "dict"), none, (.dict #[⟨(PyData.keyHash P (Str.ofString "__module__")), (.str (Str.ofString "__module__") (203 : Nat)), (.str (Str.ofString "grammarmill.source") (194 : Nat))⟩, ⟨(PyData.keyHash P (Str.ofString "__firstlineno__")), (.str (Str.ofString "__firstlineno__") (207 : Nat)), (.int (5 : Int) (206 : Nat))⟩, ⟨(PyData.keyHash P (Str.ofString "__init__")), (.str (Str.ofString "__init__") (217 : Nat)), (.ref (35 : Nat))⟩, ⟨(PyData.keyHash P (Str.ofString "told")), (.str (Str.ofString "told") (224 : Nat)), (.ref (42 : Nat))⟩, ⟨(PyData.keyHash P (Str.ofString "__static_attributes__")), (.str (Str.ofString "__static_attributes__") (228 : Nat)), (.ref (43 : Nat))⟩, ⟨(PyData.keyHash P (Str.ofString "__dict__")), (.str (Str.ofString "__dict__") (230 : Nat)), (.ref (46 : Nat))⟩, ⟨(PyData.keyHash P (Str.ofString "__weakref__")), (.str (Str.ofString "__weakref__") (232 : Nat)), (.ref (47 : Nat))⟩, ⟨(PyData.keyHash P (Str.ofString "__doc__")), (.str (Str.ofString "__doc__") (233 : Nat)), .none⟩] (4 : Nat)), #[]⟩) ::
  (nat_lit 45, ⟨(.type "type"), none, (.cls ⟨(Str.ofString "Position"), [(.type "object")], [(.ref (45 : Nat)), (.type "object")], (44 : Nat), (Str.ofString "Position"), true, [], [], false, none, false⟩), #[none, none, (some (.str (Str.ofString "Position") (196 : Nat))), (some (.str (Str.ofString "Position") (204 : Nat))), (some (.builtin "object.__new__")), (some (.bool true))]⟩) ::
  (nat_lit 46, ⟨(.type "getset_descriptor"), none, (.fields #[(.str (Str.ofString "__dict__") (229 : Nat)), (.ref (45 : Nat)), (.builtin "function.__dict__"), (.builtin "function.__dict__#set")]), #[]⟩) ::
  (nat_lit 47, ⟨(.type "getset_descriptor"), none, (.fields #[(.str (Str.ofString "__weakref__") (231 : Nat)), (.ref (45 : Nat)), (.builtin "ExceptionGroup.__weakref__"), .none]), #[]⟩) ::
  (nat_lit 57, ⟨(.type "tuple"), none, (.seq #[.none] (0 : Nat)), #[]⟩) ::
  (nat_lit 58, ⟨(.type "tuple"), none, (.seq #[] (0 : Nat)), #[]⟩) ::
  (nat_lit 60, ⟨(.type "tuple"), none, (.seq #[(.str (Str.ofString "self") (251 : Nat)), (.str (Str.ofString "kind") (252 : Nat)), (.str (Str.ofString "text") (253 : Nat)), (.str (Str.ofString "at") (254 : Nat)), (.str (Str.ofString "worth") (255 : Nat))] (0 : Nat)), #[]⟩) ::
  (nat_lit 61, ⟨(.type "tuple"), none, (.seq #[] (0 : Nat)), #[]⟩) ::
  (nat_lit 63, ⟨(.type "code"), none, (.fields #[(.str (Str.ofString "__init__") (248 : Nat)), (.str (Str.ofString "Token.__init__") (249 : Nat)), (.str (Str.ofString "/claim/cut.py") (250 : Nat)), (.int (16 : Int) (0 : Nat)), (.int (5 : Int) (0 : Nat)), (.int (0 : Int) (0 : Nat)), (.int (0 : Int) (0 : Nat)), (.int (3 : Int) (0 : Nat)), (.ref (58 : Nat)), (.bool true), (.int (181 : Int) (0 : Nat)), (.ref (59 : Nat)), .none, (.ref (60 : Nat)), (.ref (61 : Nat)), (.ref (62 : Nat)), (.int (256 : Int) (0 : Nat)), (.int (16 : Int) (0 : Nat)), (.str (Str.ofString "/claim/cut.py") (257 : Nat))]), #[]⟩) ::
  (nat_lit 64, fo (Str.ofString "Token.__init__") (3 : Nat) [] (.ref (57 : Nat)) .none .none (.str (Str.ofString "grammarmill.source") (194 : Nat)) none (.ref (63 : Nat)) .none (0 : Nat) (rfl : fsel (mem (at_ 3) 0) = some (_, _, _, _))) ::
  (nat_lit 65, ⟨(.type "tuple"), none, (.seq #[] (0 : Nat)), #[]⟩) ::
  (nat_lit 67, ⟨(.type "tuple"), none, (.seq #[(.str (Str.ofString "self") (262 : Nat))] (0 : Nat)), #[]⟩) ::
  (nat_lit 68, ⟨(.type "tuple"), none, (.seq #[] (0 : Nat)), #[]⟩) ::
  (nat_lit 70, ⟨(.type "code"), none, (.fields #[(.str (Str.ofString "told") (259 : Nat)), (.str (Str.ofString "Token.told") (260 : Nat)), (.str (Str.ofString "/claim/cut.py") (261 : Nat)), (.int (22 : Int) (0 : Nat)), (.int (1 : Int) (0 : Nat)), (.int (0 : Int) (0 : Nat)), (.int (0 : Int) (0 : Nat)), (.int (3 : Int) (0 : Nat)), (.ref (65 : Nat)), (.bool true), (.int (181 : Int) (0 : Nat)), (.ref (66 : Nat)), .none, (.ref (67 : Nat)), (.ref (68 : Nat)), (.ref (69 : Nat)), (.int (263 : Int) (0 : Nat)), (.int (22 : Int) (0 : Nat)), (.str (Str.ofString "/claim/cut.py") (264 : Nat))]), #[]⟩) ::
  (nat_lit 71, fo (Str.ofString "Token.told") (3 : Nat) [] .none .none .none (.str (Str.ofString "grammarmill.source") (194 : Nat)) none (.ref (70 : Nat)) .none (0 : Nat) (rfl : fsel (mem (at_ 3) 1) = some (_, _, _, _))) ::
  (nat_lit 72, ⟨(.type "tuple"), none, (.seq #[] (0 : Nat)), #[]⟩) ::
  (nat_lit 74, ⟨(.type "tuple"), none, (.seq #[(.str (Str.ofString "self") (269 : Nat))] (0 : Nat)), #[]⟩) ::
  (nat_lit 75, ⟨(.type "tuple"), none, (.seq #[] (0 : Nat)), #[]⟩) ::
  (nat_lit 77, ⟨(.type "code"), none, (.fields #[(.str (Str.ofString "is_end") (266 : Nat)), (.str (Str.ofString "Token.is_end") (267 : Nat)), (.str (Str.ofString "/claim/cut.py") (268 : Nat)), (.int (25 : Int) (0 : Nat)), (.int (1 : Int) (0 : Nat)), (.int (0 : Int) (0 : Nat)), (.int (0 : Int) (0 : Nat)), (.int (3 : Int) (0 : Nat)), (.ref (72 : Nat)), (.bool true), (.int (181 : Int) (0 : Nat)), (.ref (73 : Nat)), .none, (.ref (74 : Nat)), (.ref (75 : Nat)), (.ref (76 : Nat)), (.int (270 : Int) (0 : Nat)), (.int (25 : Int) (0 : Nat)), (.str (Str.ofString "/claim/cut.py") (271 : Nat))]), #[]⟩) ::
  (nat_lit 78, fo (Str.ofString "Token.is_end") (3 : Nat) [] .none .none .none (.str (Str.ofString "grammarmill.source") (194 : Nat)) none (.ref (77 : Nat)) .none (0 : Nat) (rfl : fsel (mem (at_ 3) 2) = some (_, _, _, _))) ::
  (nat_lit 79, ⟨(.type "tuple"), none, (.seq #[(.str (Str.ofString "at") (273 : Nat)), (.str (Str.ofString "kind") (274 : Nat)), (.str (Str.ofString "text") (275 : Nat)), (.str (Str.ofString "worth") (276 : Nat))] (0 : Nat)), #[]⟩) ::
  (nat_lit 80, ⟨(.type "dict"), none, (.dict #[⟨(PyData.keyHash P (Str.ofString "__module__")), (.str (Str.ofString "__module__") (243 : Nat)), (.str (Str.ofString "grammarmill.source") (194 : Nat))⟩, ⟨(PyData.keyHash P (Str.ofString "__firstlineno__")), (.str (Str.ofString "__firstlineno__") (247 : Nat)), (.int (14 : Int) (246 : Nat))⟩, ⟨(PyData.keyHash P (Str.ofString "__init__")), (.str (Str.ofString "__init__") (258 : Nat)), (.ref (64 : Nat))⟩, ⟨(PyData.keyHash P (Str.ofString "told")), (.str (Str.ofString "told") (265 : Nat)), (.ref (71 : Nat))⟩, ⟨(PyData.keyHash P (Str.ofString "is_end")), (.str (Str.ofString "is_end") (272 : Nat)), (.ref (78 : Nat))⟩, ⟨(PyData.keyHash P (Str.ofString "__static_attributes__")), (.str (Str.ofString "__static_attributes__") (277 : Nat)), (.ref (79 : Nat))⟩, ⟨(PyData.keyHash P (Str.ofString "__dict__")), (.str (Str.ofString "__dict__") (279 : Nat)), (.ref (82 : Nat))⟩, ⟨(PyData.keyHash P (Str.ofString "__weakref__")), (.str (Str.ofString "__weakref__") (281 : Nat)), (.ref (83 : Nat))⟩, ⟨(PyData.keyHash P (Str.ofString "__doc__")), (.str (Str.ofString "__doc__") (282 : Nat)), .none⟩] (4 : Nat)), #[]⟩) ::
  (nat_lit 81, ⟨(.type "type"), none, (.cls ⟨(Str.ofString "Token"), [(.type "object")], [(.ref (81 : Nat)), (.type "object")], (80 : Nat), (Str.ofString "Token"), true, [], [], false, none, false⟩), #[none, none, (some (.str (Str.ofString "Token") (236 : Nat))), (some (.str (Str.ofString "Token") (244 : Nat))), (some (.builtin "object.__new__")), (some (.bool true))]⟩) ::
  (nat_lit 82, ⟨(.type "getset_descriptor"), none, (.fields #[(.str (Str.ofString "__dict__") (278 : Nat)), (.ref (81 : Nat)), (.builtin "function.__dict__"), (.builtin "function.__dict__#set")]), #[]⟩) ::
  (nat_lit 83, ⟨(.type "getset_descriptor"), none, (.fields #[(.str (Str.ofString "__weakref__") (280 : Nat)), (.ref (81 : Nat)), (.builtin "ExceptionGroup.__weakref__"), .none]), #[]⟩) ::
  (nat_lit 93, ⟨(.type "tuple"), none, (.seq #[] (0 : Nat)), #[]⟩) ::
  (nat_lit 95, ⟨(.type "tuple"), none, (.seq #[(.str (Str.ofString "self") (302 : Nat)), (.str (Str.ofString "name") (303 : Nat)), (.str (Str.ofString "rule") (304 : Nat)), (.str (Str.ofString "children") (305 : Nat))] (0 : Nat)), #[]⟩) ::
  (nat_lit 96, ⟨(.type "tuple"), none, (.seq #[] (0 : Nat)), #[]⟩) ::
  (nat_lit 98, ⟨(.type "code"), none, (.fields #[(.str (Str.ofString "__init__") (299 : Nat)), (.str (Str.ofString "Tree.__init__") (300 : Nat)), (.str (Str.ofString "/claim/cut.py") (301 : Nat)), (.int (30 : Int) (0 : Nat)), (.int (4 : Int) (0 : Nat)), (.int (0 : Int) (0 : Nat)), (.int (0 : Int) (0 : Nat)), (.int (3 : Int) (0 : Nat)), (.ref (93 : Nat)), (.bool true), (.int (181 : Int) (0 : Nat)), (.ref (94 : Nat)), .none, (.ref (95 : Nat)), (.ref (96 : Nat)), (.ref (97 : Nat)), (.int (306 : Int) (0 : Nat)), (.int (30 : Int) (0 : Nat)), (.str (Str.ofString "/claim/cut.py") (307 : Nat))]), #[]⟩) ::
  (nat_lit 99, fo (Str.ofString "Tree.__init__") (3 : Nat) [] .none .none .none (.str (Str.ofString "grammarmill.nodes") (285 : Nat)) none (.ref (98 : Nat)) .none (0 : Nat) (rfl : fsel (mem (at_ 5) 0) = some (_, _, _, _))) ::
  (nat_lit 100, ⟨(.type "tuple"), none, (.seq #[] (0 : Nat)), #[]⟩) ::
  (nat_lit 102, ⟨(.type "tuple"), none, (.seq #[(.str (Str.ofString "self") (312 : Nat))] (0 : Nat)), #[]⟩) ::
  (nat_lit 103, ⟨(.type "tuple"), none, (.seq #[] (0 : Nat)), #[]⟩) ::
  (nat_lit 105, ⟨(.type "code"), none, (.fields #[(.str (Str.ofString "is_leaf") (309 : Nat)), (.str (Str.ofString "Tree.is_leaf") (310 : Nat)), (.str (Str.ofString "/claim/cut.py") (311 : Nat)), (.int (35 : Int) (0 : Nat)), (.int (1 : Int) (0 : Nat)), (.int (0 : Int) (0 : Nat)), (.int (0 : Int) (0 : Nat)), (.int (3 : Int) (0 : Nat)), (.ref (100 : Nat)), (.bool true), (.int (181 : Int) (0 : Nat)), (.ref (101 : Nat)), .none, (.ref (102 : Nat)), (.ref (103 : Nat)), (.ref (104 : Nat)), (.int (313 : Int) (0 : Nat)), (.int (35 : Int) (0 : Nat)), (.str (Str.ofString "/claim/cut.py") (314 : Nat))]), #[]⟩) ::
  (nat_lit 106, fo (Str.ofString "Tree.is_leaf") (3 : Nat) [] .none .none .none (.str (Str.ofString "grammarmill.nodes") (285 : Nat)) none (.ref (105 : Nat)) .none (0 : Nat) (rfl : fsel (mem (at_ 5) 1) = some (_, _, _, _))) ::
  (nat_lit 107, ⟨(.type "tuple"), none, (.seq #[] (0 : Nat)), #[]⟩) ::
  (nat_lit 109, ⟨(.type "tuple"), none, (.seq #[(.str (Str.ofString "self") (319 : Nat))] (0 : Nat)), #[]⟩) ::
  (nat_lit 110, ⟨(.type "tuple"), none, (.seq #[] (0 : Nat)), #[]⟩) ::
  (nat_lit 112, ⟨(.type "code"), none, (.fields #[(.str (Str.ofString "head") (316 : Nat)), (.str (Str.ofString "Tree.head") (317 : Nat)), (.str (Str.ofString "/claim/cut.py") (318 : Nat)), (.int (38 : Int) (0 : Nat)), (.int (1 : Int) (0 : Nat)), (.int (0 : Int) (0 : Nat)), (.int (0 : Int) (0 : Nat)), (.int (3 : Int) (0 : Nat)), (.ref (107 : Nat)), (.bool true), (.int (181 : Int) (0 : Nat)), (.ref (108 : Nat)), .none, (.ref (109 : Nat)), (.ref (110 : Nat)), (.ref (111 : Nat)), (.int (320 : Int) (0 : Nat)), (.int (38 : Int) (0 : Nat)), (.str (Str.ofString "/claim/cut.py") (321 : Nat))]), #[]⟩) ::
  (nat_lit 113, fo (Str.ofString "Tree.head") (3 : Nat) [] .none .none .none (.str (Str.ofString "grammarmill.nodes") (285 : Nat)) none (.ref (112 : Nat)) .none (0 : Nat) (rfl : fsel (mem (at_ 5) 2) = some (_, _, _, _))) ::
  (nat_lit 114, ⟨(.type "tuple"), none, (.seq #[] (0 : Nat)), #[]⟩) ::
  (nat_lit 116, ⟨(.type "tuple"), none, (.seq #[(.str (Str.ofString "self") (326 : Nat)), (.str (Str.ofString "done") (327 : Nat)), (.str (Str.ofString "node") (328 : Nat)), (.str (Str.ofString "start") (329 : Nat))] (0 : Nat)), #[]⟩) ::
  (nat_lit 117, ⟨(.type "tuple"), none, (.seq #[] (0 : Nat)), #[]⟩) ::
  (nat_lit 119, ⟨(.type "code"), none, (.fields #[(.str (Str.ofString "told") (323 : Nat)), (.str (Str.ofString "Tree.told") (324 : Nat)), (.str (Str.ofString "/claim/cut.py") (325 : Nat)), (.int (41 : Int) (0 : Nat)), (.int (1 : Int) (0 : Nat)), (.int (0 : Int) (0 : Nat)), (.int (0 : Int) (0 : Nat)), (.int (3 : Int) (0 : Nat)), (.ref (114 : Nat)), (.bool true), (.int (181 : Int) (0 : Nat)), (.ref (115 : Nat)), .none, (.ref (116 : Nat)), (.ref (117 : Nat)), (.ref (118 : Nat)), (.int (330 : Int) (0 : Nat)), (.int (41 : Int) (0 : Nat)), (.str (Str.ofString "/claim/cut.py") (331 : Nat))]), #[]⟩) ::
  (nat_lit 120, fo (Str.ofString "Tree.told") (3 : Nat) [] .none .none .none (.str (Str.ofString "grammarmill.nodes") (285 : Nat)) none (.ref (119 : Nat)) .none (0 : Nat) (rfl : fsel (mem (at_ 5) 3) = some (_, _, _, _))) ::
  (nat_lit 121, ⟨(.type "tuple"), none, (.seq #[] (0 : Nat)), #[]⟩) ::
  (nat_lit 124, ⟨(.type "code"), none, (.fields #[(.str (Str.ofString "leaves") (333 : Nat)), (.str (Str.ofString "Tree.leaves") (334 : Nat)), (.str (Str.ofString "/claim/cut.py") (335 : Nat)), (.int (51 : Int) (0 : Nat)), (.int (1 : Int) (0 : Nat)), (.int (0 : Int) (0 : Nat)), (.int (0 : Int) (0 : Nat)), (.int (3 : Int) (0 : Nat)), (.ref (121 : Nat)), (.bool true), (.int (181 : Int) (0 : Nat)), (.ref (122 : Nat)), .none, .none, .none, (.ref (123 : Nat)), (.int (336 : Int) (0 : Nat)), (.int (51 : Int) (0 : Nat)), (.str (Str.ofString "/claim/cut.py") (337 : Nat))]), #[]⟩) ::
  (nat_lit 125, fo (Str.ofString "Tree.leaves") (3 : Nat) [] .none .none .none (.str (Str.ofString "grammarmill.nodes") (285 : Nat)) none (.ref (124 : Nat)) .none (0 : Nat) (rfl : fsel (mem (at_ 5) 4) = some (_, _, _, _))) ::
  (nat_lit 126, ⟨(.type "tuple"), none, (.seq #[] (0 : Nat)), #[]⟩) ::
  (nat_lit 129, ⟨(.type "code"), none, (.fields #[(.str (Str.ofString "reductions") (339 : Nat)), (.str (Str.ofString "Tree.reductions") (340 : Nat)), (.str (Str.ofString "/claim/cut.py") (341 : Nat)), (.int (54 : Int) (0 : Nat)), (.int (1 : Int) (0 : Nat)), (.int (0 : Int) (0 : Nat)), (.int (0 : Int) (0 : Nat)), (.int (3 : Int) (0 : Nat)), (.ref (126 : Nat)), (.bool true), (.int (181 : Int) (0 : Nat)), (.ref (127 : Nat)), .none, .none, .none, (.ref (128 : Nat)), (.int (342 : Int) (0 : Nat)), (.int (54 : Int) (0 : Nat)), (.str (Str.ofString "/claim/cut.py") (343 : Nat))]), #[]⟩) ::
  (nat_lit 130, fo (Str.ofString "Tree.reductions") (3 : Nat) [] .none .none .none (.str (Str.ofString "grammarmill.nodes") (285 : Nat)) none (.ref (129 : Nat)) .none (0 : Nat) (rfl : fsel (mem (at_ 5) 5) = some (_, _, _, _))) ::
  (nat_lit 131, ⟨(.type "tuple"), none, (.seq #[] (0 : Nat)), #[]⟩) ::
  (nat_lit 133, ⟨(.type "tuple"), none, (.seq #[(.str (Str.ofString "self") (348 : Nat))] (0 : Nat)), #[]⟩) ::
  (nat_lit 134, ⟨(.type "tuple"), none, (.seq #[] (0 : Nat)), #[]⟩) ::
  (nat_lit 136, ⟨(.type "code"), none, (.fields #[(.str (Str.ofString "height") (345 : Nat)), (.str (Str.ofString "Tree.height") (346 : Nat)), (.str (Str.ofString "/claim/cut.py") (347 : Nat)), (.int (57 : Int) (0 : Nat)), (.int (1 : Int) (0 : Nat)), (.int (0 : Int) (0 : Nat)), (.int (0 : Int) (0 : Nat)), (.int (3 : Int) (0 : Nat)), (.ref (131 : Nat)), (.bool true), (.int (181 : Int) (0 : Nat)), (.ref (132 : Nat)), .none, (.ref (133 : Nat)), (.ref (134 : Nat)), (.ref (135 : Nat)), (.int (349 : Int) (0 : Nat)), (.int (57 : Int) (0 : Nat)), (.str (Str.ofString "/claim/cut.py") (350 : Nat))]), #[]⟩) ::
  (nat_lit 137, fo (Str.ofString "Tree.height") (3 : Nat) [] .none .none .none (.str (Str.ofString "grammarmill.nodes") (285 : Nat)) none (.ref (136 : Nat)) .none (0 : Nat) (rfl : fsel (mem (at_ 5) 6) = some (_, _, _, _))) ::
  (nat_lit 138, ⟨(.type "tuple"), none, (.seq #[] (0 : Nat)), #[]⟩) ::
  (nat_lit 140, ⟨(.type "tuple"), none, (.seq #[(.str (Str.ofString "self") (355 : Nat))] (0 : Nat)), #[]⟩) ::
  (nat_lit 141, ⟨(.type "tuple"), none, (.seq #[] (0 : Nat)), #[]⟩) ::
  (nat_lit 143, ⟨(.type "code"), none, (.fields #[(.str (Str.ofString "show") (352 : Nat)), (.str (Str.ofString "Tree.show") (353 : Nat)), (.str (Str.ofString "/claim/cut.py") (354 : Nat)), (.int (60 : Int) (0 : Nat)), (.int (1 : Int) (0 : Nat)), (.int (0 : Int) (0 : Nat)), (.int (0 : Int) (0 : Nat)), (.int (3 : Int) (0 : Nat)), (.ref (138 : Nat)), (.bool true), (.int (181 : Int) (0 : Nat)), (.ref (139 : Nat)), .none, (.ref (140 : Nat)), (.ref (141 : Nat)), (.ref (142 : Nat)), (.int (356 : Int) (0 : Nat)), (.int (60 : Int) (0 : Nat)), (.str (Str.ofString "/claim/cut.py") (357 : Nat))]), #[]⟩) ::
  (nat_lit 144, fo (Str.ofString "Tree.show") (3 : Nat) [] .none .none .none (.str (Str.ofString "grammarmill.nodes") (285 : Nat)) none (.ref (143 : Nat)) .none (0 : Nat) (rfl : fsel (mem (at_ 5) 7) = some (_, _, _, _))) ::
  (nat_lit 145, ⟨(.type "tuple"), none, (.seq #[(.str (Str.ofString "children") (359 : Nat)), (.str (Str.ofString "name") (360 : Nat)), (.str (Str.ofString "rule") (361 : Nat))] (0 : Nat)), #[]⟩) ::
  (nat_lit 146, ⟨(.type "dict"), none, (.dict #[⟨(PyData.keyHash P (Str.ofString "__module__")), (.str (Str.ofString "__module__") (294 : Nat)), (.str (Str.ofString "grammarmill.nodes") (285 : Nat))⟩, ⟨(PyData.keyHash P (Str.ofString "__firstlineno__")), (.str (Str.ofString "__firstlineno__") (298 : Nat)), (.int (28 : Int) (297 : Nat))⟩, ⟨(PyData.keyHash P (Str.ofString "__init__")), (.str (Str.ofString "__init__") (308 : Nat)), (.ref (99 : Nat))⟩, ⟨(PyData.keyHash P (Str.ofString "is_leaf")), (.str (Str.ofString "is_leaf") (315 : Nat)), (.ref (106 : Nat))⟩, ⟨(PyData.keyHash P (Str.ofString "head")), (.str (Str.ofString "head") (322 : Nat)), (.ref (113 : Nat))⟩, ⟨(PyData.keyHash P (Str.ofString "told")), (.str (Str.ofString "told") (332 : Nat)), (.ref (120 : Nat))⟩, ⟨(PyData.keyHash P (Str.ofString "leaves")), (.str (Str.ofString "leaves") (338 : Nat)), (.ref (125 : Nat))⟩, ⟨(PyData.keyHash P (Str.ofString "reductions")), (.str (Str.ofString "reductions") (344 : Nat)), (.ref (130 : Nat))⟩, ⟨(PyData.keyHash P (Str.ofString "height")), (.str (Str.ofString "height") (351 : Nat)), (.ref (137 : Nat))⟩, ⟨(PyData.keyHash P (Str.ofString "show")), (.str (Str.ofString "show") (358 : Nat)), (.ref (144 : Nat))⟩, ⟨(PyData.keyHash P (Str.ofString "__static_attributes__")), (.str (Str.ofString "__static_attributes__") (362 : Nat)), (.ref (145 : Nat))⟩, ⟨(PyData.keyHash P (Str.ofString "__dict__")), (.str (Str.ofString "__dict__") (364 : Nat)), (.ref (148 : Nat))⟩, ⟨(PyData.keyHash P (Str.ofString "__weakref__")), (.str (Str.ofString "__weakref__") (366 : Nat)), (.ref (149 : Nat))⟩, ⟨(PyData.keyHash P (Str.ofString "__doc__")), (.str (Str.ofString "__doc__") (367 : Nat)), .none⟩] (4 : Nat)), #[]⟩) ::
  (nat_lit 147, ⟨(.type "type"), none, (.cls ⟨(Str.ofString "Tree"), [(.type "object")], [(.ref (147 : Nat)), (.type "object")], (146 : Nat), (Str.ofString "Tree"), true, [], [(.ref (182 : Nat))], false, none, false⟩), #[none, none, (some (.str (Str.ofString "Tree") (287 : Nat))), (some (.str (Str.ofString "Tree") (295 : Nat))), (some (.builtin "object.__new__")), (some (.bool true))]⟩) ::
  (nat_lit 148, ⟨(.type "getset_descriptor"), none, (.fields #[(.str (Str.ofString "__dict__") (363 : Nat)), (.ref (147 : Nat)), (.builtin "function.__dict__"), (.builtin "function.__dict__#set")]), #[]⟩) ::
  (nat_lit 149, ⟨(.type "getset_descriptor"), none, (.fields #[(.str (Str.ofString "__weakref__") (365 : Nat)), (.ref (147 : Nat)), (.builtin "ExceptionGroup.__weakref__"), .none]), #[]⟩) ::
  (nat_lit 152, ⟨(.type "tuple"), none, (.seq #[(.ref (147 : Nat))] (0 : Nat)), #[]⟩) ::
  (nat_lit 159, ⟨(.type "tuple"), none, (.seq #[] (0 : Nat)), #[]⟩) ::
  (nat_lit 161, ⟨(.type "tuple"), none, (.seq #[(.str (Str.ofString "self") (385 : Nat)), (.str (Str.ofString "token") (386 : Nat))] (0 : Nat)), #[]⟩) ::
  (nat_lit 162, ⟨(.type "tuple"), none, (.seq #[] (0 : Nat)), #[]⟩) ::
  (nat_lit 164, ⟨(.type "code"), none, (.fields #[(.str (Str.ofString "__init__") (382 : Nat)), (.str (Str.ofString "Leaf.__init__") (383 : Nat)), (.str (Str.ofString "/claim/cut.py") (384 : Nat)), (.int (64 : Int) (0 : Nat)), (.int (2 : Int) (0 : Nat)), (.int (0 : Int) (0 : Nat)), (.int (0 : Int) (0 : Nat)), (.int (3 : Int) (0 : Nat)), (.ref (159 : Nat)), (.bool true), (.int (181 : Int) (0 : Nat)), (.ref (160 : Nat)), .none, (.ref (161 : Nat)), (.ref (162 : Nat)), (.ref (163 : Nat)), (.int (387 : Int) (0 : Nat)), (.int (64 : Int) (0 : Nat)), (.str (Str.ofString "/claim/cut.py") (388 : Nat))]), #[]⟩) ::
  (nat_lit 165, fo (Str.ofString "Leaf.__init__") (3 : Nat) [] .none .none .none (.str (Str.ofString "grammarmill.nodes") (285 : Nat)) none (.ref (164 : Nat)) .none (0 : Nat) (rfl : fsel (mem (at_ 6) 0) = some (_, _, _, _))) ::
  (nat_lit 166, ⟨(.type "tuple"), none, (.seq #[] (0 : Nat)), #[]⟩) ::
  (nat_lit 168, ⟨(.type "tuple"), none, (.seq #[(.str (Str.ofString "self") (393 : Nat))] (0 : Nat)), #[]⟩) ::
  (nat_lit 169, ⟨(.type "tuple"), none, (.seq #[] (0 : Nat)), #[]⟩) ::
  (nat_lit 171, ⟨(.type "code"), none, (.fields #[(.str (Str.ofString "is_leaf") (390 : Nat)), (.str (Str.ofString "Leaf.is_leaf") (391 : Nat)), (.str (Str.ofString "/claim/cut.py") (392 : Nat)), (.int (70 : Int) (0 : Nat)), (.int (1 : Int) (0 : Nat)), (.int (0 : Int) (0 : Nat)), (.int (0 : Int) (0 : Nat)), (.int (3 : Int) (0 : Nat)), (.ref (166 : Nat)), (.bool true), (.int (181 : Int) (0 : Nat)), (.ref (167 : Nat)), .none, (.ref (168 : Nat)), (.ref (169 : Nat)), (.ref (170 : Nat)), (.int (394 : Int) (0 : Nat)), (.int (70 : Int) (0 : Nat)), (.str (Str.ofString "/claim/cut.py") (395 : Nat))]), #[]⟩) ::
  (nat_lit 172, fo (Str.ofString "Leaf.is_leaf") (3 : Nat) [] .none .none .none (.str (Str.ofString "grammarmill.nodes") (285 : Nat)) none (.ref (171 : Nat)) .none (0 : Nat) (rfl : fsel (mem (at_ 6) 1) = some (_, _, _, _))) ::
  (nat_lit 173, ⟨(.type "tuple"), none, (.seq #[] (0 : Nat)), #[]⟩) ::
  (nat_lit 175, ⟨(.type "tuple"), none, (.seq #[(.str (Str.ofString "self") (400 : Nat))] (0 : Nat)), #[]⟩) ::
  (nat_lit 176, ⟨(.type "tuple"), none, (.seq #[] (0 : Nat)), #[]⟩) ::
  (nat_lit 178, ⟨(.type "code"), none, (.fields #[(.str (Str.ofString "head") (397 : Nat)), (.str (Str.ofString "Leaf.head") (398 : Nat)), (.str (Str.ofString "/claim/cut.py") (399 : Nat)), (.int (73 : Int) (0 : Nat)), (.int (1 : Int) (0 : Nat)), (.int (0 : Int) (0 : Nat)), (.int (0 : Int) (0 : Nat)), (.int (3 : Int) (0 : Nat)), (.ref (173 : Nat)), (.bool true), (.int (181 : Int) (0 : Nat)), (.ref (174 : Nat)), .none, (.ref (175 : Nat)), (.ref (176 : Nat)), (.ref (177 : Nat)), (.int (401 : Int) (0 : Nat)), (.int (73 : Int) (0 : Nat)), (.str (Str.ofString "/claim/cut.py") (402 : Nat))]), #[]⟩) ::
  (nat_lit 179, fo (Str.ofString "Leaf.head") (3 : Nat) [] .none .none .none (.str (Str.ofString "grammarmill.nodes") (285 : Nat)) none (.ref (178 : Nat)) .none (0 : Nat) (rfl : fsel (mem (at_ 6) 2) = some (_, _, _, _))) ::
  (nat_lit 180, ⟨(.type "tuple"), none, (.seq #[(.str (Str.ofString "children") (404 : Nat)), (.str (Str.ofString "name") (405 : Nat)), (.str (Str.ofString "rule") (406 : Nat)), (.str (Str.ofString "token") (407 : Nat))] (0 : Nat)), #[]⟩) ::
  (nat_lit 181, ⟨(.type "dict"), none, (.dict #[⟨(PyData.keyHash P (Str.ofString "__module__")), (.str (Str.ofString "__module__") (377 : Nat)), (.str (Str.ofString "grammarmill.nodes") (285 : Nat))⟩, ⟨(PyData.keyHash P (Str.ofString "__firstlineno__")), (.str (Str.ofString "__firstlineno__") (381 : Nat)), (.int (62 : Int) (380 : Nat))⟩, ⟨(PyData.keyHash P (Str.ofString "__init__")), (.str (Str.ofString "__init__") (389 : Nat)), (.ref (165 : Nat))⟩, ⟨(PyData.keyHash P (Str.ofString "is_leaf")), (.str (Str.ofString "is_leaf") (396 : Nat)), (.ref (172 : Nat))⟩, ⟨(PyData.keyHash P (Str.ofString "head")), (.str (Str.ofString "head") (403 : Nat)), (.ref (179 : Nat))⟩, ⟨(PyData.keyHash P (Str.ofString "__static_attributes__")), (.str (Str.ofString "__static_attributes__") (408 : Nat)), (.ref (180 : Nat))⟩, ⟨(PyData.keyHash P (Str.ofString "__doc__")), (.str (Str.ofString "__doc__") (409 : Nat)), .none⟩] (2 : Nat)), #[]⟩) ::
  (nat_lit 182, ⟨(.type "type"), none, (.cls ⟨(Str.ofString "Leaf"), [(.ref (147 : Nat))], [(.ref (182 : Nat)), (.ref (147 : Nat)), (.type "object")], (181 : Nat), (Str.ofString "Leaf"), true, [], [], false, none, false⟩), #[(some (.ref (152 : Nat))), none, (some (.str (Str.ofString "Leaf") (370 : Nat))), (some (.str (Str.ofString "Leaf") (378 : Nat))), (some (.builtin "object.__new__")), (some (.bool true))]⟩) ::
  (nat_lit 185, ⟨(.type "tuple"), none, (.seq #[] (0 : Nat)), #[]⟩) ::
  (nat_lit 187, ⟨(.type "tuple"), none, (.seq #[(.str (Str.ofString "tree") (415 : Nat)), (.str (Str.ofString "found") (416 : Nat)), (.str (Str.ofString "line") (417 : Nat)), (.str (Str.ofString "node") (418 : Nat)), (.str (Str.ofString "child") (419 : Nat))] (0 : Nat)), #[]⟩) ::
  (nat_lit 188, ⟨(.type "tuple"), none, (.seq #[] (0 : Nat)), #[]⟩) ::
  (nat_lit 190, ⟨(.type "code"), none, (.fields #[(.str (Str.ofString "postorder") (412 : Nat)), (.str (Str.ofString "postorder") (413 : Nat)), (.str (Str.ofString "/claim/cut.py") (414 : Nat)), (.int (75 : Int) (0 : Nat)), (.int (1 : Int) (0 : Nat)), (.int (0 : Int) (0 : Nat)), (.int (0 : Int) (0 : Nat)), (.int (3 : Int) (0 : Nat)), (.ref (185 : Nat)), (.bool true), (.int (181 : Int) (0 : Nat)), (.ref (186 : Nat)), .none, (.ref (187 : Nat)), (.ref (188 : Nat)), (.ref (189 : Nat)), (.int (420 : Int) (0 : Nat)), (.int (75 : Int) (0 : Nat)), (.str (Str.ofString "/claim/cut.py") (421 : Nat))]), #[]⟩) ::
  (nat_lit 191, fo (Str.ofString "postorder") (3 : Nat) [] .none .none .none (.str (Str.ofString "grammarmill.nodes") (285 : Nat)) none (.ref (190 : Nat)) .none (0 : Nat) (rfl : fsel (at_ 7) = some (_, _, _, _))) ::
  (nat_lit 199, ⟨(.type "tuple"), none, (.seq #[] (0 : Nat)), #[]⟩) ::
  (nat_lit 201, ⟨(.type "tuple"), none, (.seq #[(.str (Str.ofString "self") (438 : Nat)), (.str (Str.ofString "names") (439 : Nat))] (0 : Nat)), #[]⟩) ::
  (nat_lit 202, ⟨(.type "tuple"), none, (.seq #[] (0 : Nat)), #[]⟩) ::
  (nat_lit 204, ⟨(.type "code"), none, (.fields #[(.str (Str.ofString "__init__") (435 : Nat)), (.str (Str.ofString "TreeHandler.__init__") (436 : Nat)), (.str (Str.ofString "/claim/cut.py") (437 : Nat)), (.int (86 : Int) (0 : Nat)), (.int (2 : Int) (0 : Nat)), (.int (0 : Int) (0 : Nat)), (.int (0 : Int) (0 : Nat)), (.int (3 : Int) (0 : Nat)), (.ref (199 : Nat)), (.bool true), (.int (181 : Int) (0 : Nat)), (.ref (200 : Nat)), .none, (.ref (201 : Nat)), (.ref (202 : Nat)), (.ref (203 : Nat)), (.int (440 : Int) (0 : Nat)), (.int (86 : Int) (0 : Nat)), (.str (Str.ofString "/claim/cut.py") (441 : Nat))]), #[]⟩) ::
  (nat_lit 205, fo (Str.ofString "TreeHandler.__init__") (3 : Nat) [] .none .none .none (.str (Str.ofString "grammarmill.nodes") (285 : Nat)) none (.ref (204 : Nat)) .none (0 : Nat) (rfl : fsel (mem (at_ 8) 0) = some (_, _, _, _))) ::
  (nat_lit 206, ⟨(.type "tuple"), none, (.seq #[] (0 : Nat)), #[]⟩) ::
  (nat_lit 208, ⟨(.type "tuple"), none, (.seq #[(.str (Str.ofString "self") (446 : Nat)), (.str (Str.ofString "token") (447 : Nat))] (0 : Nat)), #[]⟩) ::
  (nat_lit 209, ⟨(.type "tuple"), none, (.seq #[] (0 : Nat)), #[]⟩) ::
  (nat_lit 211, ⟨(.type "code"), none, (.fields #[(.str (Str.ofString "shift") (443 : Nat)), (.str (Str.ofString "TreeHandler.shift") (444 : Nat)), (.str (Str.ofString "/claim/cut.py") (445 : Nat)), (.int (89 : Int) (0 : Nat)), (.int (2 : Int) (0 : Nat)), (.int (0 : Int) (0 : Nat)), (.int (0 : Int) (0 : Nat)), (.int (3 : Int) (0 : Nat)), (.ref (206 : Nat)), (.bool true), (.int (181 : Int) (0 : Nat)), (.ref (207 : Nat)), .none, (.ref (208 : Nat)), (.ref (209 : Nat)), (.ref (210 : Nat)), (.int (448 : Int) (0 : Nat)), (.int (89 : Int) (0 : Nat)), (.str (Str.ofString "/claim/cut.py") (449 : Nat))]), #[]⟩) ::
  (nat_lit 212, fo (Str.ofString "TreeHandler.shift") (3 : Nat) [] .none .none .none (.str (Str.ofString "grammarmill.nodes") (285 : Nat)) none (.ref (211 : Nat)) .none (0 : Nat) (rfl : fsel (mem (at_ 8) 1) = some (_, _, _, _))) ::
  (nat_lit 213, ⟨(.type "tuple"), none, (.seq #[] (0 : Nat)), #[]⟩) ::
  (nat_lit 215, ⟨(.type "tuple"), none, (.seq #[(.str (Str.ofString "self") (454 : Nat)), (.str (Str.ofString "rule") (455 : Nat)), (.str (Str.ofString "values") (456 : Nat)), (.str (Str.ofString "control") (457 : Nat)), (.str (Str.ofString "name") (458 : Nat))] (0 : Nat)), #[]⟩) ::
  (nat_lit 216, ⟨(.type "tuple"), none, (.seq #[] (0 : Nat)), #[]⟩) ::
  (nat_lit 218, ⟨(.type "code"), none, (.fields #[(.str (Str.ofString "reduce") (451 : Nat)), (.str (Str.ofString "TreeHandler.reduce") (452 : Nat)), (.str (Str.ofString "/claim/cut.py") (453 : Nat)), (.int (92 : Int) (0 : Nat)), (.int (4 : Int) (0 : Nat)), (.int (0 : Int) (0 : Nat)), (.int (0 : Int) (0 : Nat)), (.int (3 : Int) (0 : Nat)), (.ref (213 : Nat)), (.bool true), (.int (181 : Int) (0 : Nat)), (.ref (214 : Nat)), .none, (.ref (215 : Nat)), (.ref (216 : Nat)), (.ref (217 : Nat)), (.int (459 : Int) (0 : Nat)), (.int (92 : Int) (0 : Nat)), (.str (Str.ofString "/claim/cut.py") (460 : Nat))]), #[]⟩) ::
  (nat_lit 219, fo (Str.ofString "TreeHandler.reduce") (3 : Nat) [] .none .none .none (.str (Str.ofString "grammarmill.nodes") (285 : Nat)) none (.ref (218 : Nat)) .none (0 : Nat) (rfl : fsel (mem (at_ 8) 2) = some (_, _, _, _))) ::
  (nat_lit 220, ⟨(.type "tuple"), none, (.seq #[] (0 : Nat)), #[]⟩) ::
  (nat_lit 222, ⟨(.type "tuple"), none, (.seq #[(.str (Str.ofString "self") (465 : Nat))] (0 : Nat)), #[]⟩) ::
  (nat_lit 223, ⟨(.type "tuple"), none, (.seq #[] (0 : Nat)), #[]⟩) ::
  (nat_lit 225, ⟨(.type "code"), none, (.fields #[(.str (Str.ofString "recover") (462 : Nat)), (.str (Str.ofString "TreeHandler.recover") (463 : Nat)), (.str (Str.ofString "/claim/cut.py") (464 : Nat)), (.int (98 : Int) (0 : Nat)), (.int (1 : Int) (0 : Nat)), (.int (0 : Int) (0 : Nat)), (.int (0 : Int) (0 : Nat)), (.int (3 : Int) (0 : Nat)), (.ref (220 : Nat)), (.bool true), (.int (181 : Int) (0 : Nat)), (.ref (221 : Nat)), .none, (.ref (222 : Nat)), (.ref (223 : Nat)), (.ref (224 : Nat)), (.int (466 : Int) (0 : Nat)), (.int (98 : Int) (0 : Nat)), (.str (Str.ofString "/claim/cut.py") (467 : Nat))]), #[]⟩) ::
  (nat_lit 226, fo (Str.ofString "TreeHandler.recover") (3 : Nat) [] .none .none .none (.str (Str.ofString "grammarmill.nodes") (285 : Nat)) none (.ref (225 : Nat)) .none (0 : Nat) (rfl : fsel (mem (at_ 8) 3) = some (_, _, _, _))) ::
  (nat_lit 227, ⟨(.type "tuple"), none, (.seq #[(.str (Str.ofString "names") (469 : Nat))] (0 : Nat)), #[]⟩) ::
  (nat_lit 228, ⟨(.type "dict"), none, (.dict #[⟨(PyData.keyHash P (Str.ofString "__module__")), (.str (Str.ofString "__module__") (430 : Nat)), (.str (Str.ofString "grammarmill.nodes") (285 : Nat))⟩, ⟨(PyData.keyHash P (Str.ofString "__firstlineno__")), (.str (Str.ofString "__firstlineno__") (434 : Nat)), (.int (84 : Int) (433 : Nat))⟩, ⟨(PyData.keyHash P (Str.ofString "__init__")), (.str (Str.ofString "__init__") (442 : Nat)), (.ref (205 : Nat))⟩, ⟨(PyData.keyHash P (Str.ofString "shift")), (.str (Str.ofString "shift") (450 : Nat)), (.ref (212 : Nat))⟩, ⟨(PyData.keyHash P (Str.ofString "reduce")), (.str (Str.ofString "reduce") (461 : Nat)), (.ref (219 : Nat))⟩, ⟨(PyData.keyHash P (Str.ofString "recover")), (.str (Str.ofString "recover") (468 : Nat)), (.ref (226 : Nat))⟩, ⟨(PyData.keyHash P (Str.ofString "__static_attributes__")), (.str (Str.ofString "__static_attributes__") (470 : Nat)), (.ref (227 : Nat))⟩, ⟨(PyData.keyHash P (Str.ofString "__dict__")), (.str (Str.ofString "__dict__") (472 : Nat)), (.ref (230 : Nat))⟩, ⟨(PyData.keyHash P (Str.ofString "__weakref__")), (.str (Str.ofString "__weakref__") (474 : Nat)), (.ref (231 : Nat))⟩, ⟨(PyData.keyHash P (Str.ofString "__doc__")), (.str (Str.ofString "__doc__") (475 : Nat)), .none⟩] (4 : Nat)), #[]⟩) ::
  (nat_lit 229, ⟨(.type "type"), none, (.cls ⟨(Str.ofString "TreeHandler"), [(.type "object")], [(.ref (229 : Nat)), (.type "object")], (228 : Nat), (Str.ofString "TreeHandler"), true, [], [], false, none, false⟩), #[none, none, (some (.str (Str.ofString "TreeHandler") (423 : Nat))), (some (.str (Str.ofString "TreeHandler") (431 : Nat))), (some (.builtin "object.__new__")), (some (.bool true))]⟩) ::
  (nat_lit 230, ⟨(.type "getset_descriptor"), none, (.fields #[(.str (Str.ofString "__dict__") (471 : Nat)), (.ref (229 : Nat)), (.builtin "function.__dict__"), (.builtin "function.__dict__#set")]), #[]⟩) ::
  (nat_lit 231, ⟨(.type "getset_descriptor"), none, (.fields #[(.str (Str.ofString "__weakref__") (473 : Nat)), (.ref (229 : Nat)), (.builtin "ExceptionGroup.__weakref__"), .none]), #[]⟩) ::
  (nat_lit 234, ⟨(.type "tuple"), none, (.seq #[] (0 : Nat)), #[]⟩) ::
  (nat_lit 237, ⟨(.type "code"), none, (.fields #[(.str (Str.ofString "_law_pen") (480 : Nat)), (.str (Str.ofString "_law_pen") (481 : Nat)), (.str (Str.ofString "/claim/cut.py") (482 : Nat)), (.int (101 : Int) (0 : Nat)), (.int (1 : Int) (0 : Nat)), (.int (0 : Int) (0 : Nat)), (.int (0 : Int) (0 : Nat)), (.int (3 : Int) (0 : Nat)), (.ref (234 : Nat)), (.bool true), (.int (181 : Int) (0 : Nat)), (.ref (235 : Nat)), .none, .none, .none, (.ref (236 : Nat)), (.int (483 : Int) (0 : Nat)), (.int (101 : Int) (0 : Nat)), (.str (Str.ofString "/claim/cut.py") (484 : Nat))]), #[]⟩) ::
  (nat_lit 238, fo (Str.ofString "_law_pen") (3 : Nat) [] .none .none .none (.str (Str.ofString "law_on0160_01") (478 : Nat)) none (.ref (237 : Nat)) .none (0 : Nat) (rfl : fsel (at_ 10) = some (_, _, _, _))) ::
  (nat_lit 239, ⟨(.type "tuple"), none, (.seq #[] (0 : Nat)), #[]⟩) ::
  (nat_lit 241, ⟨(.type "tuple"), none, (.seq #[(.str (Str.ofString "pen") (489 : Nat)), (.str (Str.ofString "limit") (490 : Nat)), (.str (Str.ofString "place") (491 : Nat)), (.str (Str.ofString "digit") (492 : Nat))] (0 : Nat)), #[]⟩) ::
  (nat_lit 242, ⟨(.type "tuple"), none, (.seq #[] (0 : Nat)), #[]⟩) ::
  (nat_lit 244, ⟨(.type "code"), none, (.fields #[(.str (Str.ofString "_law_draw") (486 : Nat)), (.str (Str.ofString "_law_draw") (487 : Nat)), (.str (Str.ofString "/claim/cut.py") (488 : Nat)), (.int (110 : Int) (0 : Nat)), (.int (2 : Int) (0 : Nat)), (.int (0 : Int) (0 : Nat)), (.int (0 : Int) (0 : Nat)), (.int (3 : Int) (0 : Nat)), (.ref (239 : Nat)), (.bool true), (.int (181 : Int) (0 : Nat)), (.ref (240 : Nat)), .none, (.ref (241 : Nat)), (.ref (242 : Nat)), (.ref (243 : Nat)), (.int (493 : Int) (0 : Nat)), (.int (110 : Int) (0 : Nat)), (.str (Str.ofString "/claim/cut.py") (494 : Nat))]), #[]⟩) ::
  (nat_lit 245, fo (Str.ofString "_law_draw") (3 : Nat) [] .none .none .none (.str (Str.ofString "law_on0160_01") (478 : Nat)) none (.ref (244 : Nat)) .none (0 : Nat) (rfl : fsel (at_ 11) = some (_, _, _, _))) ::
  (nat_lit 246, ⟨(.type "list"), none, (.seq #[(.str (Str.ofString "$accept") (496 : Nat)), (.str (Str.ofString "s") (497 : Nat)), (.str (Str.ofString "t") (498 : Nat)), (.str (Str.ofString "$@1") (499 : Nat)), (.str (Str.ofString "s") (500 : Nat))] (0 : Nat)), #[]⟩) ::
  (nat_lit 247, ⟨(.type "tuple"), none, (.seq #[] (0 : Nat)), #[]⟩) ::
  (nat_lit 250, ⟨(.type "code"), none, (.fields #[(.str (Str.ofString "_law_told") (502 : Nat)), (.str (Str.ofString "_law_told") (503 : Nat)), (.str (Str.ofString "/claim/cut.py") (504 : Nat)), (.int (122 : Int) (0 : Nat)), (.int (1 : Int) (0 : Nat)), (.int (0 : Int) (0 : Nat)), (.int (0 : Int) (0 : Nat)), (.int (3 : Int) (0 : Nat)), (.ref (247 : Nat)), (.bool true), (.int (181 : Int) (0 : Nat)), (.ref (248 : Nat)), .none, .none, .none, (.ref (249 : Nat)), (.int (505 : Int) (0 : Nat)), (.int (122 : Int) (0 : Nat)), (.str (Str.ofString "/claim/cut.py") (506 : Nat))]), #[]⟩) ::
  (nat_lit 251, fo (Str.ofString "_law_told") (3 : Nat) [] .none .none .none (.str (Str.ofString "law_on0160_01") (478 : Nat)) none (.ref (250 : Nat)) .none (0 : Nat) (rfl : fsel (at_ 13) = some (_, _, _, _))) ::
  (nat_lit 252, ⟨(.type "tuple"), none, (.seq #[] (0 : Nat)), #[]⟩) ::
  (nat_lit 255, ⟨(.type "code"), none, (.fields #[(.str (Str.ofString "law") (508 : Nat)), (.str (Str.ofString "law") (509 : Nat)), (.str (Str.ofString "/claim/cut.py") (510 : Nat)), (.int (124 : Int) (0 : Nat)), (.int (1 : Int) (0 : Nat)), (.int (0 : Int) (0 : Nat)), (.int (0 : Int) (0 : Nat)), (.int (3 : Int) (0 : Nat)), (.ref (252 : Nat)), (.bool true), (.int (181 : Int) (0 : Nat)), (.ref (253 : Nat)), .none, .none, .none, (.ref (254 : Nat)), (.int (511 : Int) (0 : Nat)), (.int (124 : Int) (0 : Nat)), (.str (Str.ofString "/claim/cut.py") (512 : Nat))]), #[]⟩) ::
  (nat_lit 256, fo (Str.ofString "law") (3 : Nat) [] .none .none .none (.str (Str.ofString "law_on0160_01") (478 : Nat)) none (.ref (255 : Nat)) .none (0 : Nat) (rfl : fsel (at_ 14) = some (_, _, _, _))) :: []
set_option maxHeartbeats 16000000 in
noncomputable def hd.heap_39 : Params → Frag := by
  refine' (?f : (k : Params → Frag) → k = K0 → Params → Frag) _ ?h
  case f => exact fun k _ => k
  case h =>
    delta K0 fo
    exact rfl
noncomputable def vw (p : Program) : Program := { p with main := { p.main with body := [0, 2, 3, 5, 6, 7, 8, 10, 11, 12, 13, 14].filterMap fun i => p.main.body[i]? } }
noncomputable def hd.view_39 : Program := vw PySem.Challenge.rw_on0160_01.row.prog
abbrev adr : List Addr := [nat_lit 2, nat_lit 3, nat_lit 15, nat_lit 17, nat_lit 18, nat_lit 20, nat_lit 21, nat_lit 29, nat_lit 31, nat_lit 32, nat_lit 34, nat_lit 35, nat_lit 36, nat_lit 38, nat_lit 39, nat_lit 41, nat_lit 42, nat_lit 43, nat_lit 44, nat_lit 45, nat_lit 46, nat_lit 47, nat_lit 57, nat_lit 58, nat_lit 60, nat_lit 61, nat_lit 63, nat_lit 64, nat_lit 65, nat_lit 67, nat_lit 68, nat_lit 70, nat_lit 71, nat_lit 72, nat_lit 74, nat_lit 75, nat_lit 77, nat_lit 78, nat_lit 79, nat_lit 80, nat_lit 81, nat_lit 82, nat_lit 83, nat_lit 93, nat_lit 95, nat_lit 96, nat_lit 98, nat_lit 99, nat_lit 100, nat_lit 102, nat_lit 103, nat_lit 105, nat_lit 106, nat_lit 107, nat_lit 109, nat_lit 110, nat_lit 112, nat_lit 113, nat_lit 114, nat_lit 116, nat_lit 117, nat_lit 119, nat_lit 120, nat_lit 121, nat_lit 124, nat_lit 125, nat_lit 126, nat_lit 129, nat_lit 130, nat_lit 131, nat_lit 133, nat_lit 134, nat_lit 136, nat_lit 137, nat_lit 138, nat_lit 140, nat_lit 141, nat_lit 143, nat_lit 144, nat_lit 145, nat_lit 146, nat_lit 147, nat_lit 148, nat_lit 149, nat_lit 152, nat_lit 159, nat_lit 161, nat_lit 162, nat_lit 164, nat_lit 165, nat_lit 166, nat_lit 168, nat_lit 169, nat_lit 171, nat_lit 172, nat_lit 173, nat_lit 175, nat_lit 176, nat_lit 178, nat_lit 179, nat_lit 180, nat_lit 181, nat_lit 182, nat_lit 185, nat_lit 187, nat_lit 188, nat_lit 190, nat_lit 191, nat_lit 199, nat_lit 201, nat_lit 202, nat_lit 204, nat_lit 205, nat_lit 206, nat_lit 208, nat_lit 209, nat_lit 211, nat_lit 212, nat_lit 213, nat_lit 215, nat_lit 216, nat_lit 218, nat_lit 219, nat_lit 220, nat_lit 222, nat_lit 223, nat_lit 225, nat_lit 226, nat_lit 227, nat_lit 228, nat_lit 229, nat_lit 230, nat_lit 231, nat_lit 234, nat_lit 237, nat_lit 238, nat_lit 239, nat_lit 241, nat_lit 242, nat_lit 244, nat_lit 245, nat_lit 246, nat_lit 247, nat_lit 250, nat_lit 251, nat_lit 252, nat_lit 255, nat_lit 256]
set_option maxHeartbeats 16000000 in
theorem h0 (k : PySem.Challenge.rw_on0160_01.row.wellSaid = true → PySem.Challenge.rw_on0160_01.row.Holds) : PySem.Challenge.rw_on0160_01.Holds := by
  o_law
  exact k (by assumption)
noncomputable def insAll : Nat → List Obj → BT → BT
  | _, [], t => t
  | n, o :: r, t => insAll (n + 1) r (t.ins n o)
noncomputable def T0 (w : World) (os : OsState) : SharedT := ⟨insAll 0 (boot_heap w.params).objs.toList .nil, (boot_heap w.params).objs.size, (boot_heap w.params).life, #[], boot_drawn, boot_toks, os⟩
theorem seg0 {tb : String → Option Builtin} {p : Program} {w : World} {n₀ : Nat} {ann : Option Value} : ∀ {n : Nat} {s s' : Shared} {t : Thread} {f : Flow} {c : Code} {q : Pos}, segRun tb p w n₀ ann 0 n s t = some (f, s', c, q) → topRun tb p w n₀ ann n s t = some s'
  | 0, _, _, _, _, _, _, h => by cases h
  | n + 1, s, s', t, f, c, q, h => by
    unfold segRun at h
    unfold topRun
    have ht : through t = (endAt 0 t).isSome := by
      obtain ⟨cur, code, pos, st⟩ := t
      cases st with
      | nil => cases cur <;> first | rfl | (rename_i a; cases a <;> rfl)
      | cons => rfl
    cases he : endAt 0 t with
    | some x => rw [he] at h ht; rw [ht]; cases h; rfl
    | none =>
      rw [he] at h ht
      rw [ht]
      cases hk : stepOk n₀ ann t with
      | false => rw [hk] at h; cases h
      | true =>
        rw [hk] at h
        cases hs : step (denote tb) p w s t with
        | halt o s₂ => rw [hs] at h; cases h
        | go s₂ t₂ => rw [hs] at h; exact seg0 h
abbrev SegT := (String → Option Builtin) → Program → World → Nat → Option Value → Nat → Nat → SharedT → Thread → Option (Flow × SharedT × Code × Pos)
abbrev SeenT (τ : Type) := Program → List Str → List Str → (Shared → Bool) → Bool → Shared → τ
/-- the whole top at one go: its run from the boot, and a look at its end -/
noncomputable abbrev chk {σ : Type} (seg : SegT) (tb : String → Option Builtin) (row : OpenLaw → OpenRow) (l : OpenLaw) (look : World → Shared → σ) (want : World → σ) (w : World) : Prop :=
  (fun os => (seg tb (row l).prog w 11 (some (.ref 6)) 0 1990 (T0 w os) (topStub (row l).prog)).map fun x => look w x.2.1.abs) = fun (_ : OsState) => some (want w)
noncomputable abbrev lookA (imp : List Stmt → List Str) (row : OpenLaw → OpenRow) (l : OpenLaw) (w : World) (s : Shared) : Bool :=
  staticsOk (imp (row l).prog.main.body) (boot_heap w.params) s.heap && namesBound (row l).prog s.heap && gensDone s && laidKept (boot_heap w.params) s.heap
noncomputable abbrev lookB {τ : Type} (seen : SeenT τ) (imp : List Stmt → List Str) (row : OpenLaw → OpenRow) (l : OpenLaw) (loose : Str) (_ : World) (s : Shared) : τ :=
  seen (vw (row l).prog) [loose] (imp (row l).prog.main.body) (fun s => xlAt (vw (row l).prog) [] s && recOk (row l).records s) true s
noncomputable abbrev lookC (mp : (Addr → Option Obj) → List Addr → List (Option Obj)) (_ : World) (s : Shared) : List (Option Obj) := mp s.heap.get? adr
set_option maxHeartbeats 16000000 in
theorem chk_a : ∀ w, chk PySem.W.Fast.tw10110043849684766642 PySem.W.Fast.tw14364793385576792824 PySem.W.Fast.tw2368527892694137696 PySem.W.Fast.tw10725647303599857241
    (lookA PySem.W.Fast.tw5923862056798008813 PySem.W.Fast.tw2368527892694137696 PySem.W.Fast.tw10725647303599857241) (fun _ => true) w := by
  intro w
  kernel_rfl
set_option maxHeartbeats 16000000 in
theorem chk_b : ∀ w, chk PySem.W.Fast.tw10110043849684766642 PySem.W.Fast.tw14364793385576792824 PySem.W.Fast.tw2368527892694137696 PySem.W.Fast.tw10725647303599857241
    (lookB PySem.W.Fast.tw4187177175401517315 PySem.W.Fast.tw5923862056798008813 PySem.W.Fast.tw2368527892694137696 PySem.W.Fast.tw10725647303599857241 ⟨⟨[95, 108, 97, 119, 95, 110, 97, 109, 101, 115]⟩⟩)
    (fun _ => openGood (vw (PySem.W.Fast.tw2368527892694137696 PySem.W.Fast.tw10725647303599857241).prog) [⟨⟨[95, 108, 97, 119, 95, 110, 97, 109, 101, 115]⟩⟩]) w := by
  intro w
  kernel_rfl
set_option maxHeartbeats 16000000 in
theorem chk_c : ∀ w, chk PySem.W.Fast.tw10110043849684766642 PySem.W.Fast.tw14364793385576792824 PySem.W.Fast.tw2368527892694137696 PySem.W.Fast.tw10725647303599857241
    (lookC R.mapR) (fun w => R.mapR (fun p => some p.2) (hd.heap_39 w.params)) w := by
  intro w
  kernel_rfl
theorem chk_oka (w : World) : chk segRunT treeTable OpenLaw.row PySem.Challenge.rw_on0160_01 (lookA importedModules OpenLaw.row PySem.Challenge.rw_on0160_01) (fun _ => true) w := by
  have h := chk_a w
  rw [← PySem.W.Fast.te5923862056798008813, ← PySem.W.Fast.te10110043849684766642, ← PySem.W.Fast.te14364793385576792824, ← PySem.W.Fast.te2368527892694137696, ← PySem.W.Fast.te10725647303599857241] at h
  exact h
theorem chk_okb (w : World) : chk segRunT treeTable OpenLaw.row PySem.Challenge.rw_on0160_01 (lookB openSeen importedModules OpenLaw.row PySem.Challenge.rw_on0160_01 (Str.ofString "_law_names")) (fun _ => openGood (vw PySem.Challenge.rw_on0160_01.row.prog) [Str.ofString "_law_names"]) w := by
  have e : Str.ofString "_law_names" = ⟨⟨[95, 108, 97, 119, 95, 110, 97, 109, 101, 115]⟩⟩ := by decide +kernel
  have h := chk_b w
  rw [← PySem.W.Fast.te4187177175401517315, ← PySem.W.Fast.te5923862056798008813, ← PySem.W.Fast.te10110043849684766642, ← PySem.W.Fast.te14364793385576792824, ← PySem.W.Fast.te2368527892694137696, ← PySem.W.Fast.te10725647303599857241, ← e] at h
  exact h
theorem chk_okc (w : World) : chk segRunT treeTable OpenLaw.row PySem.Challenge.rw_on0160_01 (lookC List.map) (fun w => (hd.heap_39 w.params).map fun p => some p.2) w := by
  have h := chk_c w
  rw [← PySem.W.Fast.te10110043849684766642, ← PySem.W.Fast.te14364793385576792824, ← PySem.W.Fast.te2368527892694137696, ← PySem.W.Fast.te10725647303599857241] at h
  rw [R.mapR_eq]
  exact h
theorem t0_abs (w : World) (os : OsState) : (T0 w os).abs = ⟨boot_heap w.params, Array.mk [], boot_drawn, boot_toks, os⟩ := by kernel_rfl
theorem opens_at : opening PySem.Challenge.rw_on0160_01.row.prog = plainProg PySem.Challenge.rw_on0160_01.row.prog.main.scope.names := by kernel_rfl
theorem fence_at (s : Shared) : fenceModules? PySem.Challenge.rw_on0160_01.row.prog s = some s := by kernel_rfl
theorem size_at (w : World) : ((boot_heap w.params).isNs mainGlobals && (Array.mk [] : Array GenState).size == 0, (boot_heap w.params).objs.size, (boot_heap w.params).nsMap mainGlobals "__annotations__") = (true, 11, some (.ref 6)) := by kernel_rfl
noncomputable abbrev hk : Hook := kHook hd.heap_39 adr (fun _ => by kernel_rfl)
noncomputable abbrev xt : Shared → Bool := fun s => xlAt hd.view_39 [] s && recOk (RowW.records PySem.Challenge.rw_on0160_01.row.toRowW) s
/-- the head's one equation, out of one run of the top from the boot -/
theorem left_fin {τ σ : Type} {f : Shared → τ} {g : Shared → σ} {w : World} {p : Program} {N M : Nat} {gd : τ} {va : σ}
    (op : ∀ w : World, (fencedOpening treeTable p w N).map (fun s => (s.heap, s.gens, s.drawn, s.toks)) = some (boot_heap w.params, Array.mk [], boot_drawn, boot_toks))
    (size : ((boot_heap w.params).isNs mainGlobals && (Array.mk [] : Array GenState).size == 0, (boot_heap w.params).objs.size, (boot_heap w.params).nsMap mainGlobals "__annotations__") = (true, 11, some (.ref 6)))
    (le : M ≤ N)
    (run : ∀ os, ∃ s : Shared, topRun treeTable p w 11 (some (.ref 6)) M ⟨boot_heap w.params, Array.mk [], boot_drawn, boot_toks, os⟩ (topStub p) = some s ∧
      (staticsOk (importedModules p.main.body) (boot_heap w.params) s.heap && namesBound p s.heap && gensDone s && laidKept (boot_heap w.params) s.heap) = true ∧ f s = gd ∧ g s = va) :
    (openEnds treeTable p w N).map (fun s => (f s, g s)) = some (gd, va) := by
  have hop := op w
  cases hO : fencedOpening treeTable p w N with
  | none => rw [hO] at hop; exact absurd hop (fun h => nomatch h)
  | some s0 =>
    rw [hO] at hop
    have h0 : (s0.heap, s0.gens, s0.drawn, s0.toks) = (boot_heap w.params, Array.mk [], boot_drawn, boot_toks) := Option.some.inj hop
    have a1 : s0.heap = boot_heap w.params := congrArg Prod.fst h0
    have a2 : s0.gens = Array.mk [] := congrArg (fun x => x.2.1) h0
    have a3 : s0.drawn = boot_drawn := congrArg (fun x => x.2.2.1) h0
    have a4 : s0.toks = boot_toks := congrArg (fun x => x.2.2.2) h0
    obtain ⟨s, r, l1, l2, l3⟩ := run s0.os
    have hs0 : s0 = ⟨boot_heap w.params, Array.mk [], boot_drawn, boot_toks, s0.os⟩ := by rw [← a1, ← a2, ← a3, ← a4]
    rw [← hs0] at r
    have rN : topRun treeTable p w 11 (some (.ref 6)) N s0 (topStub p) = some s := by
      have q := topRun_mono (N - M) _ _ _ _ r
      rwa [Nat.add_sub_cancel' le] at q
    have b1 : (s0.heap.isNs mainGlobals && s0.gens.size == 0) = true := by rw [a1, a2]; exact congrArg Prod.fst size
    have b2 : s0.heap.objs.size = 11 := by rw [a1]; exact congrArg (fun x => x.2.1) size
    have b3 : s0.heap.nsMap mainGlobals "__annotations__" = some (.ref 6) := by rw [a1]; exact congrArg (fun x => x.2.2) size
    have ends : openEnds treeTable p w N = some s := by
      rw [← a1] at l1
      rw [openEnds, hO, Option.bind_some, topFrom, b1, b2, b3, rN, Option.bind_some, l1]
    rw [ends, Option.map_some, l2, l3]
theorem left : LeftO PySem.Challenge.rw_on0160_01.row.prog hd.view_39 [Str.ofString "_law_names"] xt hk.obs hk.val 3790 true := fun w => by
  refine left_fin (boot_open opens_at (by decide) fence_at) (size_at w) (M := 1990) (by decide) fun os => ?_
  obtain ⟨⟨f, s, c, q⟩, r, l1⟩ := Option.map_eq_some_iff.mp (congrFun (chk_oka w) os)
  have hb := congrFun (chk_okb w) os
  have hc := congrFun (chk_okc w) os
  dsimp only at hb hc
  rw [r] at hb hc
  have r1 := seg0 (segRun_of r)
  rw [t0_abs] at r1
  exact ⟨s.abs, r1, l1, Option.some.inj hb, Option.some.inj hc⟩
theorem hd {d : DefRec} {kwd : List (Str × Expr)} (hdef : defOf hd.view_39 PySem.Challenge.rw_on0160_01.row.name = some (d, kwd)) (hp : PySem.Challenge.rw_on0160_01.row.prog.theDef PySem.Challenge.rw_on0160_01.row.name = some (d.params, d.body, d.scope))
    (hkw : kwWritten? d.params.kwonlyargs d.params.kw_defaults = some kwd)
    (walk : WalkO hd.view_39 [Str.ofString "_law_names"] (XL hd.view_39 []) hk.says PySem.Challenge.rw_on0160_01.row.toRowW d kwd fun f vs => PySem.call f vs) : PySem.Challenge.rw_on0160_01.Holds := by
  refine h0 fun sd => holds_open (q := hd.view_39) (loose := [Str.ofString "_law_names"]) (Xt := xt) (XP := XL hd.view_39 []) (Yf := hk.obs) (Ya := hk.val) (YP := hk.says) (N := 3790) left hk.of hk.keeps (fun s e => xl_of s (Bool.and_eq_true_iff.mp e).1) XL.keeps hdef hp hkw
    (fun s e => recFacts_of (Bool.and_eq_true_iff.mp e).2) (by rfl) sd (by decide +kernel) ⟨rfl, rfl, rfl, rfl, rfl, by decide +kernel⟩ ?hw walk
  w_witness2
end
local macro_rules | `(tactic| k_mem) => `(tactic| assumption)
local macro_rules | `(tactic| is_list) => `(tactic| exact News.isList (by assumption) (by k_mem))
section
section
theorem modeD1 : PySem.Challenge.rw_on0160_01 = PySem.Challenge.rw_on0160_01 ∧ hd.heap_39 = hd.heap_39 := by
  k_fill
  w_top off
  exact ⟨rfl, rfl⟩
noncomputable abbrev prg : Program := PySem.Challenge.rw_on0160_01.row.prog
noncomputable abbrev lse : List Str := looseW hd.view_39 [Str.ofString "_law_names"]
abbrev Led := List (Addr × Obj)
abbrev penObj (c : Addr) (g : Int) (tg : Tok) (x : Int) (tx : Tok) (p : Int) (tp : Tok) (n : Nat) : Obj := listOf #[.ref c, .int g tg, .int x tx, .int p tp] n
theorem fm0 (a : Int) {b : Int} (h : 1 ≤ b) : 0 ≤ a.fmod b := Int.fmod_nonneg_of_pos a (by omega)
theorem fm1 (a : Int) {b : Int} (h : 1 ≤ b) : a.fmod b < b := Int.fmod_lt_of_pos a (by omega)
theorem fd0 {a b : Int} (ha : 0 ≤ a) (h : 1 ≤ b) : 0 ≤ a.fdiv b := Int.fdiv_nonneg ha (by omega)
theorem fd1 {a b c : Int} (ha : 0 ≤ a) (hc : a < c) (h : 1 ≤ b) : a.fdiv b < c := by
  rw [Int.fdiv_eq_ediv_of_nonneg _ (by omega)]
  exact Int.lt_of_le_of_lt (Int.ediv_le_self b ha) hc
theorem ledBack {h₀ h : Heap} {L pen : Addr} {o : Obj} {pre post rest : Led} {gf : Obj → Led} (N : News h₀ L h ((pen, o) :: rest)) (hr : pre ++ post = rest) (e2 : ∀ o', gf o' = pre ++ (pen, o') :: post) : News h₀ L h (gf o) := fun q hq => N q (by
  rw [e2] at hq; subst hr; simp only [List.mem_cons, List.mem_append] at hq ⊢
  rcases hq with h | h | h
  · exact .inr (.inl h)
  · exact .inl h
  · exact .inr (.inr h))
set_option maxHeartbeats 4000000 in
theorem draw_ok {w : World} {dp un : Nat} {gd : Option (List Code)} {cn : Str} {cs : Scope} {a : Addr} {ccd : Value} {cl : List (Str × Addr)} {outer : List Env} {A₀ : Around} {base h₀ : Heap} {L : Addr} {m : Str → Option Value}
    {mean : ExcName → Option Value} {mg mb : Str → Option Value} {s : Shared} {Q E : Value → Shared → Prop}
    {pen c : Addr} {cells : List Int} {cvs : List Value} {cn' : Nat} {g x p : Int} {tg tx tp : Tok} {n : Nat} {lim : Int} {tl : Tok} {news : Led} {gf : Obj → Led}
    (B : Below A₀ base outer h₀) (F : Fr h₀ L s.heap m) (X : (hd.heap_39 w.params).In h₀) (N : News h₀ L s.heap news) (T : Top hd.view_39 lse mean mg mb h₀) (hk : cs.kind = .function)
    (U : UpdF pen (penObj c g tg x tx p tp n) news gf)
    (hc : (c, listOf cvs.toArray cn') ∈ news) (hi : IntsAre cvs cells) (hlen : cells.length ≤ 48)
    (hg : 0 ≤ g) (hg' : g < 10 ^ 240) (hx : 0 ≤ x) (hx' : x < 2147483647) (hp : 0 ≤ p) (hp' : p < 1000) (hl : 1 ≤ lim) (hl' : lim ≤ 1000)
    (hdp : dp + 2 < recursionLimit) (hun : un + 8 < cLine)
    (ret : ∀ r tr g' tg' x' tx' tp' n' h' tk', Fr h₀ L h' m → News h₀ L h' (gf (penObj c g' tg' x' tx' (p + 1) tp' n')) → 0 ≤ g' → g' < 10 ^ 240 → 0 ≤ x' → x' < 2147483647 → 0 ≤ r → r < lim → Q (.int r tr) { s with heap := h', toks := tk' }) :
    wpAny (model prg w) (ktrTop dp un gd cn cs L a ccd cl outer) (call (.ref 245) [.ref pen, .int lim tl]) Q E s := by
  obtain ⟨pre, post, e1, e2, e3, e4⟩ := U.split
  have N1 : News h₀ L s.heap ((pen, penObj c g tg x tx p tp n) :: (pre ++ post)) := fun q hq => N q (by
    rw [e1]; simp only [List.mem_cons, List.mem_append] at hq ⊢; rcases hq with h | h | h
    · exact .inr (.inl h)
    · exact .inl h
    · exact .inr (.inr h))
  have off : OwnOff (pre ++ post) [pen] := fun q hq b hb => by
    rw [List.mem_singleton.mp hb]
    exact (List.mem_append.mp hq).elim (e3 q) (e4 q)
  have hcp : c ≠ pen := fun e => by
    have h1 := (N _ hc).1
    have h2 := (N1 _ (.head _)).1
    dsimp only at h1 h2
    rw [e, h2] at h1
    have h3 := congrArg (fun o => match o with | some (Obj.mk _ _ (.seq its _) _) => its[0]? | _ => none) h1
    dsimp only at h3
    rw [List.getElem?_toArray] at h3
    cases hi with
    | nil => cases h3
    | cons i t r => cases h3
  have hc' : (c, listOf cvs.toArray cn') ∈ pre ++ post := by
    rw [e1] at hc
    rcases List.mem_append.mp hc with h | h
    · exact List.mem_append.mpr (.inl h)
    · rcases List.mem_cons.mp h with h | h
      · exact absurd (Prod.mk.inj h).1 hcp
      · exact List.mem_append.mpr (.inr h)
  clear N hc e3 e4 U
  generalize hr : pre ++ post = rest at N1 off hc'
  refine wpAny_call ?_
  k_dflt ktr_enter
  k_steps
  all_goals (refine ret _ _ _ _ _ _ _ _ _ _ (by assumption) (ledBack (by assumption) hr e2) ?_ ?_ ?_ ?_ ?_ ?_)
  all_goals first | assumption | exact fd0 hg hl | exact fd1 hg hg' hl | exact fm0 _ hl | exact fm1 _ hl | exact fm0 _ (by decide) | exact fm1 _ (by decide) | skip
end
section
theorem modeP1 : PySem.Challenge.rw_on0160_01 = PySem.Challenge.rw_on0160_01 ∧ hd.heap_39 = hd.heap_39 := by
  k_fill
  w_top off
  exact ⟨rfl, rfl⟩
theorem news_two {h₀ h : Heap} {L : Addr} {a b c : Addr × Obj} (N : News h₀ L h [a, b, c]) : News h₀ L h [a, b] := fun p hp => N p (by
  simp only [List.mem_cons, List.not_mem_nil, or_false] at hp ⊢
  rcases hp with h | h
  · exact .inl h
  · exact .inr (.inl h))
theorem mix0 (ns : List Int) : ∀ a : Int, 0 ≤ a ∧ a < 2147483647 → 0 ≤ ns.foldl (fun a' n' => (a' * 48271 + n'.fmod 2147483647 + 12345).fmod 2147483647) a ∧ ns.foldl (fun a' n' => (a' * 48271 + n'.fmod 2147483647 + 12345).fmod 2147483647) a < 2147483647 := by
  induction ns with
  | nil => intro a h; exact h
  | cons n r ih => intro a _; exact ih _ ⟨fm0 _ (by decide), fm1 _ (by decide)⟩
set_option maxHeartbeats 8000000 in
theorem pen_ok {w : World} {dp un : Nat} {gd : Option (List Code)} {cn : Str} {cs : Scope} {a : Addr} {ccd : Value} {cl : List (Str × Addr)} {outer : List Env} {A₀ : Around} {base h₀ : Heap} {L : Addr} {m : Str → Option Value}
    {mean : ExcName → Option Value} {mg mb : Str → Option Value} {s : Shared} {Q E : Value → Shared → Prop}
    {l : Addr} {vs : List Value} {ns : List Int}
    (B : Below A₀ base outer h₀) (F : Fr h₀ L s.heap m) (X : (hd.heap_39 w.params).In h₀) (N : News h₀ L s.heap []) (T : Top hd.view_39 lse mean mg mb h₀) (hk : cs.kind = .function)
    (hl : base.IsList l vs.toArray) (hi : IntsAre vs ns) (hL : (PyData.list (List.map PyData.int ns)).layable0 = true) (hlen : ns.length ≤ 63)
    (hdp : dp + 2 < recursionLimit) (hun : un + 8 < cLine)
    (ret : ∀ pen c cells cvs cn' g tg x tx tp n h' tk', Fr h₀ L h' m → News h₀ L h' [(pen, penObj c g tg x tx 0 tp n), (c, listOf (List.toArray cvs) cn')] → @Ne Nat pen c → IntsAre cvs cells → cells.length ≤ 48 → 0 ≤ g → g < 10 ^ 240 → 0 ≤ x → x < 2147483647 → Q (.ref pen) { s with heap := h', toks := tk' }) :
    wpAny (model prg w) (ktrTop dp un gd cn cs L a ccd cl outer) (call (.ref 238) [.ref l]) Q E s := by
  refine wpAny_call ?_
  k_dflt ktr_enter
  rename Below _ _ _ _ => B'
  have hl' := stays_list B'.stays hl
  k_steps
  all_goals (refine ret _ _ _ _ _ _ _ _ _ _ _ _ _ (by assumption) (news_two (by assumption)) ?_ (by assumption) ?_ ?_ ?_ ?_ ?_)
  all_goals first | (simp only [List.length_map, List.length_take]; omega) | exact fm0 _ (by decide +kernel) | exact fm1 _ (by decide +kernel) | exact (mix0 _ 1 (by decide)).1 | exact (mix0 _ 1 (by decide)).2 | exact Int.le_refl 0 | exact (by decide +kernel : (0 : Int) < 10 ^ 240) | (refine Ne.symm (Nat.ne_of_lt ?_); omega) | skip
end
section
/-- a tree, told apart from the heap -/
inductive T where
  | leaf (k x : Str)
  | node (nm : Str) (r : Int) (cs : List T)
-- the root ahead, the children from the right
mutual
def rp : T → List T
  | .leaf k x => [.leaf k x]
  | .node nm r cs => .node nm r cs :: rpL cs
def rpL : List T → List T
  | [] => []
  | c :: cs => rpL cs ++ rp c
end
def kids : T → List T
  | .leaf _ _ => []
  | .node _ _ cs => cs
def post (t : T) : List T := (rp t).reverse
theorem rp_eq (t : T) : rp t = t :: rpL (kids t) := by cases t <;> simp [rp, kids, rpL]
theorem rpL_append (a b : List T) : rpL (a ++ b) = rpL b ++ rpL a := by
  induction a with
  | nil => simp [rpL]
  | cons c cs ih => simp [rpL, ih]
theorem rp_pos (t : T) : 1 ≤ (rp t).length := by rw [rp_eq]; simp
theorem rpL_len (ts : List T) : ts.length ≤ (rpL ts).length := by
  induction ts with
  | nil => simp [rpL]
  | cons c cs ih => have := rp_pos c; simp [rpL]; omega
abbrev leafDict (h1 h2 h3 h4 : Int) (t1 t2 t3 t4 : Tok) (k : Str) (tk : Tok) (tr : Tok) (ch tok : Addr) (n : Nat) : Obj :=
  dictOf [⟨h1, .str (Str.ofString "name") t1, .str k tk⟩, ⟨h2, .str (Str.ofString "rule") t2, .int 0 tr⟩, ⟨h3, .str (Str.ofString "children") t3, .ref ch⟩, ⟨h4, .str (Str.ofString "token") t4, .ref tok⟩] n
abbrev tokDict (h1 h2 h3 h4 : Int) (t1 t2 t3 t4 : Tok) (k : Str) (tk : Tok) (x : Str) (tx : Tok) (at_ worth : Value) (n : Nat) : Obj :=
  dictOf [⟨h1, .str (Str.ofString "kind") t1, .str k tk⟩, ⟨h2, .str (Str.ofString "text") t2, .str x tx⟩, ⟨h3, .str (Str.ofString "at") t3, at_⟩, ⟨h4, .str (Str.ofString "worth") t4, worth⟩] n
abbrev nodeDict (h1 h2 h3 : Int) (t1 t2 t3 : Tok) (nm : Str) (tn : Tok) (r : Int) (tr : Tok) (ch : Addr) (n : Nat) : Obj :=
  dictOf [⟨h1, .str (Str.ofString "name") t1, .str nm tn⟩, ⟨h2, .str (Str.ofString "rule") t2, .int r tr⟩, ⟨h3, .str (Str.ofString "children") t3, .ref ch⟩] n
inductive TokIn (news : Led) : Value → Str → Str → Prop
  | mk {a d : Addr} {h1 h2 h3 h4 : Int} {t1 t2 t3 t4 : Tok} {k : Str} {tk : Tok} {x : Str} {tx : Tok} {at_ worth : Value} {n : Nat} :
    (a, instObj 81 d) ∈ news → (d, tokDict h1 h2 h3 h4 t1 t2 t3 t4 k tk x tx at_ worth n) ∈ news → TokIn news (.ref a) k x
mutual
inductive TreeIn (news : Led) : Value → T → Prop
  | leaf {a d c tok : Addr} {h1 h2 h3 h4 : Int} {t1 t2 t3 t4 : Tok} {k : Str} {tk : Tok} {tr : Tok} {n nc : Nat} {x : Str} :
    (a, instObj 182 d) ∈ news → (d, leafDict h1 h2 h3 h4 t1 t2 t3 t4 k tk tr c tok n) ∈ news → (c, listOf ([] : List Value).toArray nc) ∈ news → TokIn news (.ref tok) k x → TreeIn news (.ref a) (.leaf k x)
  | node {a d c : Addr} {h1 h2 h3 : Int} {t1 t2 t3 : Tok} {nm : Str} {tn : Tok} {r : Int} {tr : Tok} {n nc : Nat} {vs : List Value} {cs : List T} :
    (a, instObj 147 d) ∈ news → (d, nodeDict h1 h2 h3 t1 t2 t3 nm tn r tr c n) ∈ news → (c, listOf vs.toArray nc) ∈ news → TreesIn news vs cs → TreeIn news (.ref a) (.node nm r cs)
inductive TreesIn (news : Led) : List Value → List T → Prop
  | nil : TreesIn news [] []
  | cons {v : Value} {vs : List Value} {t : T} {ts : List T} : TreeIn news v t → TreesIn news vs ts → TreesIn news (v :: vs) (t :: ts)
end
theorem TokIn.mono {news news' : Led} (hs : ∀ p ∈ news, p ∈ news') {v : Value} {k x : Str} : TokIn news v k x → TokIn news' v k x
  | .mk a b => .mk (hs _ a) (hs _ b)
mutual
theorem TreeIn.mono {news news' : Led} (hs : ∀ p ∈ news, p ∈ news') : ∀ {v : Value} {t : T}, TreeIn news v t → TreeIn news' v t
  | _, _, .leaf a b c d => .leaf (hs _ a) (hs _ b) (hs _ c) (d.mono hs)
  | _, _, .node a b c d => .node (hs _ a) (hs _ b) (hs _ c) (TreesIn.mono hs d)
theorem TreesIn.mono {news news' : Led} (hs : ∀ p ∈ news, p ∈ news') : ∀ {vs : List Value} {ts : List T}, TreesIn news vs ts → TreesIn news' vs ts
  | _, _, .nil => .nil
  | _, _, .cons a b => .cons (TreeIn.mono hs a) (TreesIn.mono hs b)
end
section
variable {news : Led}
theorem TreesIn.length {vs : List Value} : ∀ {ts : List T}, TreesIn news vs ts → vs.length = ts.length := by
  induction vs with
  | nil => intro ts h; cases h; rfl
  | cons v vs ih => intro ts h; cases h with | cons _ r => simp [ih r]
theorem TreesIn.append {vs ws : List Value} {us : List T} (k : TreesIn news ws us) : ∀ {ts : List T}, TreesIn news vs ts → TreesIn news (vs ++ ws) (ts ++ us) := by
  induction vs with
  | nil => intro ts h; cases h; exact k
  | cons v vs ih => intro ts h; cases h with | cons h r => exact .cons h (ih r)
theorem TreesIn.split {vs ws : List Value} : ∀ {ts : List T}, TreesIn news (vs ++ ws) ts → ∃ a b, ts = a ++ b ∧ TreesIn news vs a ∧ TreesIn news ws b := by
  induction vs with
  | nil => intro ts h; exact ⟨[], ts, rfl, .nil, h⟩
  | cons v vs ih =>
    intro ts h
    cases h with
    | cons h r =>
      obtain ⟨a, b, rfl, ha, hb⟩ := ih r
      exact ⟨_ :: a, b, rfl, .cons h ha, hb⟩
theorem TreesIn.reverse {vs : List Value} : ∀ {ts : List T}, TreesIn news vs ts → TreesIn news vs.reverse ts.reverse := by
  induction vs with
  | nil => intro ts h; cases h; exact .nil
  | cons v vs ih =>
    intro ts h
    cases h with
    | cons h r =>
      rw [List.reverse_cons, List.reverse_cons]
      exact TreesIn.append (.cons h .nil) (ih r)
theorem TreesIn.get {vs : List Value} : ∀ {ts : List T} {i : Nat} {v : Value}, TreesIn news vs ts → vs[i]? = some v → ∃ t, ts[i]? = some t ∧ TreeIn news v t := by
  induction vs with
  | nil => intro ts i v _ e; cases e
  | cons u vs ih =>
    intro ts i v h e
    cases h with
    | cons h r =>
      cases i with
      | zero => cases e; exact ⟨_, rfl, h⟩
      | succ i => have q := ih r (i := i) (v := v) (by simpa using e); simpa using q
end
/-- what every tree shows: an object with children; a leaf or a node -/
theorem TreeIn.opened {news : Led} {v : Value} {t : T} (h : TreeIn news v t) : ∃ a d ch vs nc, v = .ref a ∧ (ch, listOf (List.toArray vs) nc) ∈ news ∧ TreesIn news vs (kids t) ∧
    ((∃ h1 h2 h3 h4 t1 t2 t3 t4 k tk tr tok n x, t = .leaf k x ∧ (a, instObj 182 d) ∈ news ∧ (d, leafDict h1 h2 h3 h4 t1 t2 t3 t4 k tk tr ch tok n) ∈ news ∧ TokIn news (.ref tok) k x) ∨
      (∃ h1 h2 h3 t1 t2 t3 nm tn r tr n cs, t = .node nm r cs ∧ (a, instObj 147 d) ∈ news ∧ (d, nodeDict h1 h2 h3 t1 t2 t3 nm tn r tr ch n) ∈ news)) := by
  cases h with
  | leaf a b c d => exact ⟨_, _, _, _, _, rfl, c, .nil, .inl ⟨_, _, _, _, _, _, _, _, _, _, _, _, _, _, rfl, a, b, d⟩⟩
  | node a b c d => exact ⟨_, _, _, _, _, rfl, c, d, .inr ⟨_, _, _, _, _, _, _, _, _, _, _, _, rfl, a, b⟩⟩
theorem TokIn.opened {news : Led} {v : Value} {k x : Str} (h : TokIn news v k x) : ∃ a d h1 h2 h3 h4 t1 t2 t3 t4 tk tx at_ worth n, v = .ref a ∧ (a, instObj 81 d) ∈ news ∧ (d, tokDict h1 h2 h3 h4 t1 t2 t3 t4 k tk x tx at_ worth n) ∈ news := by
  cases h with
  | mk a b => exact ⟨_, _, _, _, _, _, _, _, _, _, _, _, _, _, _, rfl, a, b⟩
theorem ne_snoc_ok {prog : Program} {w : World} {A : Around} {E : Value → Shared → Prop} {s : Shared} {l e : Addr} {vs : List Value} {v : Value} {Q : Value → Shared → Prop} (hl : s.heap.IsList l (vs ++ [v]).toArray) (he : s.heap.IsList e ([] : List Value).toArray) (hu : A.units < cLine)
    (h : Q (.bool true) s) : wpAny (model prog w) A (compareOp .NotEq (.ref l) (.ref e)) Q E s :=
  cmp_ofNotEq (SeqAt.RcNeAt.lists_lengths hl he (by simp) hu _ w E Q h)
theorem ne_nil_nil {prog : Program} {w : World} {A : Around} {E : Value → Shared → Prop} {s : Shared} {l e : Addr} {Q : Value → Shared → Prop} (hl : s.heap.IsList l ([] : List Value).toArray) (he : s.heap.IsList e ([] : List Value).toArray) (hu : A.units < cLine)
    (h : Q (.bool false) s) : wpAny (model prog w) A (compareOp .NotEq (.ref l) (.ref e)) Q E s :=
  cmp_ofNotEq (SeqAt.RcNeAt.lists (e := fun _ => true) hl he rfl hu (fun j h1 _ => absurd h1 (Nat.not_lt_zero _)) _ w E Q h)
section
variable {prog : Program} {w : World} {A : Around} {E : Value → Shared → Prop} {s : Shared} {h₀ : Heap} {L D : Addr} {m : Str → Option Value} {news news' : Led} {n : Nat}
theorem pop_snoc {us : List Value} {y : Value} {Q : Value → Shared → Prop} (F : Fr h₀ L s.heap m) (N : News h₀ L s.heap news) (U : Upd D (listOf (us ++ [y]).toArray n) (listOf us.toArray (n + 1)) news news')
    (hz : (us ++ [y]).length ≤ sizeLine) (h : ∀ h', Fr h₀ L h' m → News h₀ L h' news' → Q y { s with heap := h' }) : wpAny (model prog w) A (call (.builtin "list.pop") [.ref D]) Q E s :=
  kl_pop F N (p := us) (y := y) (by simpa using kpa_last y us) U (by simpa using hz) h
theorem rev_ok {l : Addr} {value slice : PySem.Expr} {vs : List Value} {vk : Value} {ops : List Value} {Q : Value → Shared → Prop} (F : Fr h₀ L s.heap m) (N : News h₀ L s.heap news) (hl : s.heap.IsList l vs.toArray) (pk : IsPart vk (some (-1)))
    (h : ∀ D h', Fr h₀ L h' m → News h₀ L h' ((D, listOf vs.reverse.toArray 0) :: news) → (∀ p ∈ news, p.1 < D) → Q (.ref D) { s with heap := h' })
    (hs : subscripted slice false (.ref l) (.ref s.heap.objs.size) = operate ops (getItem (.ref l) (.ref s.heap.objs.size))) (ht : ∀ r, letTemporaryGo value (.ref l) r = pure ()) (hz : vs.length ≤ sizeLine) :
    wpAny (model prog w) A (subscriptTail value slice (.ref l) (.ref s.heap.objs.size)) Q E { s with heap := s.heap.push { cls := .type "slice", data := .fields #[.none, .none, vk] } } :=
  krv_lit (its := vs.toArray) (zs := vs.reverse) F N hl pk rfl h hs ht (by simpa using hz)
end
theorem snoc_cases {α : Type} (l : List α) : l = [] ∨ ∃ a b, l = a ++ [b] := by
  rcases List.eq_nil_or_concat l with h | ⟨a, b, h⟩
  · exact .inl h
  · exact .inr ⟨a, b, by simpa using h⟩
theorem frOn {h₀ h : Heap} {L : Addr} {m : Str → Option Value} {x : Str} {v : Value} (F : Fr h₀ L h m) (e : m x = some v) : Fr h₀ L h (fun y => if y = x then some v else m y) := by
  have q : (fun y => if y = x then some v else m y) = m := by
    funext y
    by_cases h1 : y = x
    · rw [if_pos h1, h1, e]
    · rw [if_neg h1]
  rw [q]; exact F
theorem frOn2 {h₀ h : Heap} {L : Addr} {m : Str → Option Value} {x x' : Str} {v v' : Value} (F : Fr h₀ L h m) (e : m x = some v) (e' : m x' = some v') : Fr h₀ L h (fun y => if y = x then some v else if y = x' then some v' else m y) := by
  have q : (fun y => if y = x then some v else if y = x' then some v' else m y) = m := by
    funext y
    by_cases h1 : y = x
    · rw [if_pos h1, h1, e]
    · rw [if_neg h1]
      by_cases h2 : y = x'
      · rw [if_pos h2, h2, e']
      · rw [if_neg h2]
  rw [q]; exact F
end
section
theorem len_ok {prog : Program} {w : World} {A : Around} {E : Value → Shared → Prop} {s : Shared} {l : Addr} {vs : List Value} {Q : Value → Shared → Prop} (hl : s.heap.IsList l vs.toArray) (hz : vs.length ≤ 100000)
    (h : Q (.int (vs.length : Nat) (s.toks + 1)) { s with toks := s.toks + 1 + 1 }) : wpAny (model prog w) A (call (.builtin "len") [.ref l]) Q E s := by
  have e : vs.toArray.size = vs.length := by simp
  exact len_list hl (by rw [e]; omega) (by rw [e]; exact h)
section
variable {prog : Program} {w : World} {A : Around} {E : Value → Shared → Prop} {s : Shared} {h₀ : Heap} {L l : Addr} {m : Str → Option Value} {news : Led} {value slice : PySem.Expr} {vs : List Value} {vl vu : Value} {x y : Int} {Q : Value → Shared → Prop}
theorem cut_to (F : Fr h₀ L s.heap m) (N : News h₀ L s.heap news) (hl : s.heap.IsList l vs.toArray) (pl : IsPart vl none) (pu : IsPart vu (some x)) (hx : 0 ≤ x)
    (h : ∀ D h', Fr h₀ L h' m → News h₀ L h' ((D, listOf (vs.take x.toNat).toArray 0) :: news) → (∀ p ∈ news, p.1 < D) → Q (.ref D) { s with heap := h' })
    (hs : subscripted slice false (.ref l) (.ref s.heap.objs.size) = operate [.ref s.heap.objs.size, .ref l] (getItem (.ref l) (.ref s.heap.objs.size))) (ht : ∀ r, letTemporaryGo value (.ref l) r = pure ()) (hz : vs.length ≤ sizeLine) :
    wpAny (model prog w) A (subscriptTail value slice (.ref l) (.ref s.heap.objs.size)) Q E { s with heap := s.heap.push { cls := .type "slice", data := .fields #[vl, vu, .none] } } := by
  refine kms_slice_lit F N hl pl pu ?_ h hs ht (by simpa using hz)
  show kms_pick vs none (some x) = vs.take x.toNat
  simp only [kms_pick, kms_lo, kms_hi, if_neg (Int.not_lt.mpr hx), List.drop_zero, Nat.sub_zero, kmk_take_min]
theorem cut_from (F : Fr h₀ L s.heap m) (N : News h₀ L s.heap news) (hl : s.heap.IsList l vs.toArray) (pl : IsPart vl (some x)) (pu : IsPart vu none) (hx : 0 ≤ x)
    (h : ∀ D h', Fr h₀ L h' m → News h₀ L h' ((D, listOf (vs.drop x.toNat).toArray 0) :: news) → (∀ p ∈ news, p.1 < D) → Q (.ref D) { s with heap := h' })
    (hs : subscripted slice false (.ref l) (.ref s.heap.objs.size) = operate [.ref s.heap.objs.size, .ref l] (getItem (.ref l) (.ref s.heap.objs.size))) (ht : ∀ r, letTemporaryGo value (.ref l) r = pure ()) (hz : vs.length ≤ sizeLine) :
    wpAny (model prog w) A (subscriptTail value slice (.ref l) (.ref s.heap.objs.size)) Q E { s with heap := s.heap.push { cls := .type "slice", data := .fields #[vl, vu, .none] } } := by
  refine kms_slice_lit F N hl pl pu ?_ h hs ht (by simpa using hz)
  show kms_pick vs (some x) none = vs.drop x.toNat
  simp only [kms_pick, kms_lo, kms_hi, if_neg (Int.not_lt.mpr hx), kmk_drop_min]
  rw [List.take_of_length_le]
  simp only [List.length_drop]; omega
theorem tup_of (F : Fr h₀ L s.heap m) (N : News h₀ L s.heap news) (hl : s.heap.IsList l vs.toArray) (hz : vs.length ≤ 16384)
    (h : ∀ D h', Fr h₀ L h' m → News h₀ L h' ((D, ({ cls := .type "tuple", data := .seq vs.toArray } : Obj)) :: news) → (∀ p ∈ news, p.1 < D) → Q (.ref D) { s with heap := h' }) : wpAny (model prog w) A (call (.type "tuple") [.ref l]) Q E s :=
  kde_tupleOf F N hl (by simpa using hz) rfl h
theorem add_tup0 {t b : Addr} {us ws : List Value} (F : Fr h₀ L s.heap m) (N : News h₀ L s.heap news) (ht : IsTup s.heap t us.toArray) (hb : IsTup s.heap b ws.toArray) (hv : us ≠ []) (hw : ws = []) (hz : us.length + ws.length ≤ 16384) (h : Q (.ref t) s) :
    wpAny (model prog w) A (binaryOp .Add (.ref t) (.ref b)) Q E s := kde_addT1 F N ht hb hv hw (by simpa using hz) h
theorem add_tup1 {t b : Addr} {us ws : List Value} (F : Fr h₀ L s.heap m) (N : News h₀ L s.heap news) (ht : IsTup s.heap t us.toArray) (hb : IsTup s.heap b ws.toArray) (hv : us ≠ []) (hw : ws ≠ []) (hz : us.length + ws.length ≤ 16384)
    (h : ∀ D h', Fr h₀ L h' m → News h₀ L h' ((D, ({ cls := .type "tuple", data := .seq (us ++ ws).toArray } : Obj)) :: news) → (∀ p ∈ news, p.1 < D) → Q (.ref D) { s with heap := h' }) :
    wpAny (model prog w) A (binaryOp .Add (.ref t) (.ref b)) Q E s := kde_addT F N ht hb hv hw (by simpa using hz) rfl h
theorem add_list {a b : Addr} {us ws : List Value} (F : Fr h₀ L s.heap m) (N : News h₀ L s.heap news) (ha : s.heap.IsList a us.toArray) (hb : s.heap.IsList b ws.toArray) (hz : us.length + ws.length ≤ 16384)
    (h : ∀ D h', Fr h₀ L h' m → News h₀ L h' ((D, listOf (us ++ ws).toArray 0) :: news) → (∀ p ∈ news, p.1 < D) → Q (.ref D) { s with heap := h' }) :
    wpAny (model prog w) A (binaryOp .Add (.ref a) (.ref b)) Q E s := kmk_add_lit F N ha hb rfl h (by rw [sizeLine_eq]; simp; omega)
/-- a tuple and a tuple, none of the two seen into: what comes is a tuple above what stood below the first -/
theorem add_tup_any {t b : Addr} {us ws : List Value} {k : Nat} {n1 : Led} (F : Fr h₀ L s.heap m) (N : News h₀ L s.heap news) (ht : (t, ({ cls := .type "tuple", data := .seq us.toArray } : Obj)) ∈ news) (hb : (b, ({ cls := .type "tuple", data := .seq ws.toArray k } : Obj)) ∈ news) (hv : us ≠ []) (hz : us.length + ws.length ≤ 16384) (hf : AllLt t n1) (hn : ∀ p ∈ n1, p ∈ news)
    (h : ∀ D h', Fr h₀ L h' m → News h₀ L h' ((D, ({ cls := .type "tuple", data := .seq (us ++ ws).toArray } : Obj)) :: news) → AllLt D n1 → Q (.ref D) { s with heap := h' }) :
    wpAny (model prog w) A (binaryOp .Add (.ref t) (.ref b)) Q E s := by
  by_cases hw : ws = []
  · refine add_tup0 F N (N.isTup ht) (N.isTup hb) hv hw hz (h t s.heap F (fun p hp => ?_) hf)
    rcases List.mem_cons.mp hp with rfl | hp
    · subst hw; rw [List.append_nil]; exact N _ ht
    · exact N p hp
  · exact add_tup1 F N (N.isTup ht) (N.isTup hb) hv hw hz fun D h' F' N' l1 => h D h' F' N' (allLt_of fun p hp => l1 p (hn p hp))
end
end
section
theorem off1_mem {D : Addr} : ∀ {l : Led}, LCg.Off1 D l → ∀ p ∈ l, p.1 ≠ D
  | [], _, _, h => nomatch h
  | _ :: _, x, p, h => by
    rcases List.mem_cons.mp h with e | h
    · exact e ▸ x.1
    · exact off1_mem x.2 p h
section
variable {prog : Program} {w : World} {A : Around} {s : Shared} {h₀ : Heap} {L : Addr} {m : Str → Option Value} {env : Env} {ct elt : Expr} {x : Str} {scope : Scope} {cl : List (Str × Addr)} {S : Led → Prop} {P : Nat → Value → Prop} {Fin : List Value → Led → Prop}
/-- the turns of a comprehension without a test, by what holds of what is made -/
theorem restU_run {n : Nat} (G : Nat → List Value → Led → Prop)
    (turn : ∀ i ys news v I oI C oC D m₂ h tk (E' : Value → Shared → Prop), i < n → G i ys news → P i v → LCg.NsObj oC m₂ → m₂ x = some v → Fr h₀ L h m → News h₀ L h ((I, oI) :: (C, oC) :: (D, LCg.lst ys) :: news) → LCg.Off3 I C D news → ((@Ne Nat I C) ∧ (@Ne Nat I D) ∧ (@Ne Nat C D)) →
      wpAny (model prog w) A (eval elt (compEnvC scope cl C env)) (LCg.CompEnd h₀ L m { s with heap := h, toks := tk } I oI C oC D (LCg.lst ys) S (fun y news' => G (i + 1) (ys ++ [y]) news')) E' { s with heap := h, toks := tk })
    (fin : ∀ ys news, G n ys news → Fin ys news) : ∀ k i ys news, i + k = n → G i ys news → LCg.CompRest prog w A h₀ L m env elt x scope cl s S P Fin k i ys news := by
  intro k
  induction k with
  | zero =>
    intro i ys news hi hg
    have e : i = n := by omega
    subst e
    exact LCg.CompRest.zero (fin ys news hg)
  | succ k ih =>
    intro i ys news hi hg
    refine LCg.CompRest.succ ?_
    intro v I oI C oC D m₂ h tk E' hv hC hx F N off ne
    refine wpAny_mono (turn i ys news v I oI C oC D m₂ h tk E' (by omega) hg hv hC hx F N off ne) (fun y s₂ hq => ?_) fun _ _ e => e
    obtain ⟨h', tk', nw, e, F', N', off', hS, hg'⟩ := hq
    exact ⟨h', tk', nw, e, F', N', off', hS, ih (i + 1) _ _ (by omega) hg'⟩
/-- the turns of a comprehension with a test -/
theorem restT_run {n : Nat} (G : Nat → List Value → Led → Prop)
    (turn : ∀ i ys news v I oI C oC D m₂ h tk (E' : Value → Shared → Prop), i < n → G i ys news → P i v → LCg.NsObj oC m₂ → m₂ x = some v → Fr h₀ L h m → News h₀ L h ((I, oI) :: (C, oC) :: (D, LCg.lst ys) :: news) → LCg.Off3 I C D news → ((@Ne Nat I C) ∧ (@Ne Nat I D) ∧ (@Ne Nat C D)) →
      wpAny (model prog w) A (isTrue ct (compEnvC scope cl C env) (eval ct (compEnvC scope cl C env))) (fun ok s' => if ok = true then
        wpAny (model prog w) A (eval elt (compEnvC scope cl C env)) (LCg.CompEnd h₀ L m { s with heap := h, toks := tk } I oI C oC D (LCg.lst ys) S (fun y news' => G (i + 1) (ys ++ [y]) news')) E' s'
        else LCg.CompEnd h₀ L m { s with heap := h, toks := tk } I oI C oC D (LCg.lst ys) S (fun _ news' => G (i + 1) ys news') Value.none s') E' { s with heap := h, toks := tk })
    (fin : ∀ ys news, G n ys news → Fin ys news) : ∀ k i ys news, i + k = n → G i ys news → LCt.CompRestT prog w A h₀ L m env ct elt x scope cl s S P Fin k i ys news := by
  intro k
  induction k with
  | zero =>
    intro i ys news hi hg
    have e : i = n := by omega
    subst e
    exact LCt.CompRestT.zero (fin ys news hg)
  | succ k ih =>
    intro i ys news hi hg
    refine LCt.CompRestT.succ ?_
    intro v I oI C oC D m₂ h tk E' hv hC hx F N off ne
    refine wpAny_mono (turn i ys news v I oI C oC D m₂ h tk E' (by omega) hg hv hC hx F N off ne) (fun b s₂ hq => ?_) fun _ _ e => e
    cases b with
    | true =>
      simp only [if_true] at hq ⊢
      refine wpAny_mono hq (fun y s₃ hr => ?_) fun _ _ e => e
      obtain ⟨h', tk', nw, e, F', N', off', hS, hg'⟩ := hr
      exact ⟨h', tk', nw, e, F', N', off', hS, ih (i + 1) _ _ (by omega) hg'⟩
    | false =>
      simp only [Bool.false_eq_true, if_false] at hq ⊢
      obtain ⟨h', tk', nw, e, F', N', off', hS, hg'⟩ := hq
      exact ⟨h', tk', nw, e, F', N', off', hS, ih (i + 1) _ _ (by omega) hg'⟩
end
/-- tokens, in their order -/
inductive ToksIn (news : Led) : List Value → List (Str × Str) → Prop
  | nil : ToksIn news [] []
  | cons {v : Value} {vs : List Value} {k x : Str} {ts : List (Str × Str)} : TokIn news v k x → ToksIn news vs ts → ToksIn news (v :: vs) ((k, x) :: ts)
section
variable {news : Led}
theorem ToksIn.length {vs : List Value} : ∀ {ts : List (Str × Str)}, ToksIn news vs ts → vs.length = ts.length := by
  induction vs with
  | nil => intro ts h; cases h; rfl
  | cons v vs ih => intro ts h; cases h with | cons _ r => simp [ih r]
theorem ToksIn.append {vs ws : List Value} {us : List (Str × Str)} (k : ToksIn news ws us) : ∀ {ts : List (Str × Str)}, ToksIn news vs ts → ToksIn news (vs ++ ws) (ts ++ us) := by
  induction vs with
  | nil => intro ts h; cases h; exact k
  | cons v vs ih => intro ts h; cases h with | cons h r => exact .cons h (ih r)
theorem ToksIn.get {vs : List Value} : ∀ {ts : List (Str × Str)} {i : Nat} {v : Value}, ToksIn news vs ts → vs[i]? = some v → ∃ k x, ts[i]? = some (k, x) ∧ TokIn news v k x := by
  induction vs with
  | nil => intro ts i v _ e; cases e
  | cons u vs ih =>
    intro ts i v h e
    cases h with
    | cons h r =>
      cases i with
      | zero => cases e; exact ⟨_, _, rfl, h⟩
      | succ i => have q := ih r (i := i) (v := v) (by simpa using e); simpa using q
theorem ToksIn.mono {news' : Led} (hs : ∀ p ∈ news, p ∈ news') {vs : List Value} : ∀ {ts : List (Str × Str)}, ToksIn news vs ts → ToksIn news' vs ts := by
  induction vs with
  | nil => intro ts h; cases h; exact .nil
  | cons v vs ih => intro ts h; cases h with | cons h r => exact .cons (h.mono hs) (ih r)
end
end
section
def nmOf (r : Int) : Str := if r = 3 then Str.ofString "$@1" else if r = 2 then Str.ofString "t" else Str.ofString "s"
section
variable {w : World} {A : Around} {E : Value → Shared → Prop} {s : Shared} {h₀ : Heap} {L l : Addr} {m : Str → Option Value} {news : Led} {value slice : PySem.Expr} {vs : List Value} {Q : Value → Shared → Prop}
theorem names_item {r : Int} {u : Tok} (F : Fr h₀ L s.heap m) (X : (hd.heap_39 w.params).In h₀) (h1 : 1 ≤ r) (h4 : r ≤ 4) (h : ∀ t, Q (.str (nmOf r) t) s)
    (hs : subscripted slice false (.ref 246) (.int r u) = operate [.ref 246, .int r u] (getItem (.ref 246) (.int r u))) :
    wpAny (model prg w) A (subscriptTail value slice (.ref 246) (.int r u)) Q E s := by
  have hr : r = 1 ∨ r = 2 ∨ r = 3 ∨ r = 4 := by omega
  have e1 : nmOf 1 = Str.ofString "s" := by decide +kernel
  have e2 : nmOf 2 = Str.ofString "t" := by decide +kernel
  have e3 : nmOf 3 = Str.ofString "$@1" := by decide +kernel
  have e4 : nmOf 4 = Str.ofString "s" := by decide +kernel
  rcases hr with rfl | rfl | rfl | rfl
  · rw [e1] at h
    exact topList_K F X (by k_is) (by decide) (by decide) rfl (h _) hs
  · rw [e2] at h
    exact topList_K F X (by k_is) (by decide) (by decide) rfl (h _) hs
  · rw [e3] at h
    exact topList_K F X (by k_is) (by decide) (by decide) rfl (h _) hs
  · rw [e4] at h
    exact topList_K F X (by k_is) (by decide) (by decide) rfl (h _) hs
theorem min_ok {a b : Int} {t u : Tok} (hh : A.handled = none) (F : Fr h₀ L s.heap m) (N : News h₀ L s.heap news)
    (h : ∀ z t h' tk, Fr h₀ L h' m → News h₀ L h' news → z ≤ a → z ≤ b → (z = a ∨ z = b) → Q (.int z t) { s with heap := h', toks := tk }) :
    wpAny (model prg w) A (call (.builtin "min") [.int a t, .int b u]) Q E s := by
  refine min_two_N hh F N fun h' tk F' N' => h _ _ h' tk F' N' ?_ ?_ ?_
  · split <;> omega
  · split <;> omega
  · split <;> simp
theorem lens_item {l1 l2 l4 r : Int} {t0 t1 t2 t3 t4 u : Tok} (hl : s.heap.IsList l #[.int 0 t0, .int l1 t1, .int l2 t2, .int 0 t3, .int l4 t4]) (h1 : 1 ≤ r) (h4 : r ≤ 4) (p1 : 0 ≤ l1) (p2 : 0 ≤ l2) (p4 : 1 ≤ l4)
    (h : ∀ y t, 0 ≤ y → (r = 3 → y = 0) → Q (.int y t) s)
    (hs : subscripted slice false (.ref l) (.int r u) = operate [.ref l, .int r u] (getItem (.ref l) (.int r u))) :
    wpAny (model prg w) A (subscriptTail value slice (.ref l) (.int r u)) Q E s := by
  have hr : r = 1 ∨ r = 2 ∨ r = 3 ∨ r = 4 := by omega
  rcases hr with rfl | rfl | rfl | rfl
  · exact tail_any hl.typeIs slot_list_getitem.lookup (wpAny_getItem_list hl (by decide) (by decide) rfl (h _ _ p1 (by omega))) hs
  · exact tail_any hl.typeIs slot_list_getitem.lookup (wpAny_getItem_list hl (by decide) (by decide) rfl (h _ _ p2 (by omega))) hs
  · exact tail_any hl.typeIs slot_list_getitem.lookup (wpAny_getItem_list hl (by decide) (by decide) rfl (h _ _ (by omega) (by omega))) hs
  · exact tail_any hl.typeIs slot_list_getitem.lookup (wpAny_getItem_list hl (by decide) (by decide) rfl (h _ _ (by omega) (by omega))) hs
theorem copy_ok {n : Nat} (F : Fr h₀ L s.heap m) (N : News h₀ L s.heap news) (hb : (l, listOf vs.toArray n) ∈ news) (hz : vs.length ≤ 16384)
    (h : ∀ D c h', Fr h₀ L h' m → News h₀ L h' ((D, listOf vs.toArray c) :: news) → (∀ q ∈ news, q.1 < D) → Q (.ref D) { s with heap := h' }) : wpAny (model prg w) A (call (.type "list") [.ref l]) Q E s :=
  kup_listOf F N hb rfl h (by rw [sizeLine_eq]; simp; omega)
theorem ne_same {a b : Addr} (ha : s.heap.IsList a vs.toArray) (hb : s.heap.IsList b vs.toArray) (hu : A.units < cLine) (h : Q (.bool false) s) : wpAny (model prg w) A (compareOp .NotEq (.ref a) (.ref b)) Q E s := by
  refine cmp_ofNotEq (SeqAt.RcNeAt.lists (e := fun _ => true) ha hb rfl hu (fun j _ _ => SeqAt.EqAt.same _) _ w E Q ?_)
  have e : (!(List.range vs.toArray.size).all fun _ => true) = false := by simp
  rw [e]; exact h
end
end
section
-- what a tree tells
mutual
def shape : T → Dat
  | .leaf k x => .tuple [.str k, .str x]
  | .node nm _ cs => .tuple (.str nm :: shapeL cs)
def shapeL : List T → List Dat
  | [] => []
  | c :: cs => shape c :: shapeL cs
end
mutual
def lv : T → List (Str × Str)
  | .leaf k x => [(k, x)]
  | .node _ _ cs => lvL cs
def lvL : List T → List (Str × Str)
  | [] => []
  | c :: cs => lv c ++ lvL cs
end
mutual
def rd : T → List Int
  | .leaf _ _ => []
  | .node _ r cs => rdL cs ++ [r]
def rdL : List T → List Int
  | [] => []
  | c :: cs => rd c ++ rdL cs
end
def postL (cs : List T) : List T := (rpL cs).reverse
theorem post_leaf (k x : Str) : post (.leaf k x) = [.leaf k x] := by simp [post, rp]
theorem post_node (nm : Str) (r : Int) (cs : List T) : post (.node nm r cs) = postL cs ++ [.node nm r cs] := by simp [post, rp, postL]
theorem postL_cons (c : T) (cs : List T) : postL (c :: cs) = post c ++ postL cs := by simp [postL, post, rpL]
theorem postL_nil : postL [] = [] := by simp [postL, rpL]
theorem shapeL_length (cs : List T) : (shapeL cs).length = cs.length := by
  induction cs with
  | nil => simp [shapeL]
  | cons c cs ih => simp [shapeL, ih]
theorem shapeL_append (a b : List T) : shapeL (a ++ b) = shapeL a ++ shapeL b := by
  induction a with
  | nil => simp [shapeL]
  | cons c cs ih => simp [shapeL, ih]
def step (ds : List Dat) : T → List Dat
  | .leaf k x => ds ++ [.tuple [.str k, .str x]]
  | .node nm _ cs => ds.take (ds.length - cs.length) ++ [.tuple (.str nm :: ds.drop (ds.length - cs.length))]
def Fits : List Dat → List T → Prop
  | _, [] => True
  | S, t :: r => (kids t).length ≤ S.length ∧ Fits (step S t) r
theorem fits_append : ∀ (a b : List T) (S : List Dat), Fits S (a ++ b) ↔ Fits S a ∧ Fits (a.foldl step S) b
  | [], b, S => by simp [Fits]
  | t :: a, b, S => by simp [Fits, fits_append a b, and_assoc]
theorem step_len (S : List Dat) (t : T) : (step S t).length ≤ S.length + 1 := by
  cases t with
  | leaf k x => simp [step]
  | node nm r cs => simp [step]
theorem fold_len : ∀ (l : List T) (S : List Dat), (l.foldl step S).length ≤ S.length + l.length
  | [], S => by simp
  | t :: l, S => by
    have h1 := fold_len l (step S t)
    have h2 := step_len S t
    simp only [List.foldl_cons, List.length_cons]; omega
mutual
theorem run_post : ∀ (t : T) (S : List Dat), Fits S (post t) ∧ (post t).foldl step S = S ++ [shape t]
  | .leaf k x, S => by simp [post_leaf, Fits, kids, step, shape]
  | .node nm r cs, S => by
    have h := run_postL cs S
    rw [post_node, fits_append, List.foldl_append, h.2]
    refine ⟨⟨h.1, ?_, trivial⟩, ?_⟩
    · simp [kids, shapeL_length]
    · have e : (S ++ shapeL cs).length - cs.length = S.length := by rw [List.length_append, shapeL_length]; omega
      simp only [List.foldl_cons, List.foldl_nil, step, shape, e, List.take_left, List.drop_left]
theorem run_postL : ∀ (cs : List T) (S : List Dat), Fits S (postL cs) ∧ (postL cs).foldl step S = S ++ shapeL cs
  | [], S => by simp [postL_nil, Fits, shapeL]
  | c :: cs, S => by
    have h1 := run_post c S
    have h2 := run_postL cs (S ++ [shape c])
    rw [postL_cons, fits_append, List.foldl_append, h1.2]
    exact ⟨⟨h1.1, h2.1⟩, by rw [h2.2]; simp [shapeL]⟩
end
/-- at each turn there are children enough -/
theorem fits_at {t : T} {i : Nat} {u : T} (h : (post t)[i]? = some u) : (kids u).length ≤ (((post t).take i).foldl step []).length := by
  have hf := (run_post t []).1
  have e : post t = (post t).take i ++ u :: (post t).drop (i + 1) := by
    have h1 := (List.getElem?_eq_some_iff.mp h)
    obtain ⟨hi, rfl⟩ := h1
    rw [← List.drop_eq_getElem_cons hi, List.take_append_drop]
  rw [e, fits_append] at hf
  exact hf.2.1
theorem fold_at {t : T} {i : Nat} {u : T} (h : (post t)[i]? = some u) : ((post t).take (i + 1)).foldl step [] = step (((post t).take i).foldl step []) u := by
  rw [List.take_add_one, h]; simp
theorem post_len (t : T) : (post t).length = (rp t).length := by simp [post]
def leafOf : T → List (Str × Str)
  | .leaf k x => [(k, x)]
  | .node _ _ _ => []
def ruleOf : T → List Int
  | .leaf _ _ => []
  | .node _ r _ => [r]
mutual
theorem lv_post : ∀ t : T, (post t).flatMap leafOf = lv t
  | .leaf k x => by simp [post_leaf, leafOf, lv]
  | .node nm r cs => by rw [post_node, List.flatMap_append, lv_postL cs]; simp [leafOf, lv]
theorem lv_postL : ∀ cs : List T, (postL cs).flatMap leafOf = lvL cs
  | [] => by simp [postL_nil, lvL]
  | c :: cs => by rw [postL_cons, List.flatMap_append, lv_post c, lv_postL cs, lvL]
end
mutual
theorem rd_post : ∀ t : T, (post t).flatMap ruleOf = rd t
  | .leaf k x => by simp [post_leaf, ruleOf, rd]
  | .node nm r cs => by rw [post_node, List.flatMap_append, rd_postL cs]; simp [ruleOf, rd]
theorem rd_postL : ∀ cs : List T, (postL cs).flatMap ruleOf = rdL cs
  | [] => by simp [postL_nil, rdL]
  | c :: cs => by rw [postL_cons, List.flatMap_append, rd_post c, rd_postL cs, rdL]
end
end
end
section
local macro_rules | `(tactic| ke_room) => `(tactic| ((try simp only [units_in1, units_deeper, Around.mark_units, units_caller]); (try dsimp only [ktrTop]); omega))
local macro_rules | `(tactic| k_units) => `(tactic| ke_room)
local macro_rules | `(tactic| k_room) => `(tactic| ((try simp only [depth_under_make, depth_under_kw, depth_in1, depth_deeper, depth_caller]); (try dsimp only [ktrTop]); omega))
section
theorem modeO1 : PySem.Challenge.rw_on0160_01 = PySem.Challenge.rw_on0160_01 ∧ hd.heap_39 = hd.heap_39 := by
  k_fill
  w_top off
  exact ⟨rfl, rfl⟩
local macro_rules | `(tactic| walk_at "compareOp NotEq ref ref") => `(tactic| (k_here; (with_reducible show wpAny _ _ (compareOp CmpOp.NotEq (Value.ref _) (Value.ref _)) _ _ _); k_dflt (first
  | (refine' ne_snoc_ok ?k1 ?k2 ?k3 ?_; (case k1 => is_list); (case k2 => is_list); (case k3 => ke_room); k_whole)
  | (refine' ne_nil_nil ?k1 ?k2 ?k3 ?_; (case k1 => is_list); (case k2 => is_list); (case k3 => ke_room); k_whole))))
local macro_rules | `(tactic| walk_at "call builtin:list.pop") => `(tactic| (k_here; (with_reducible show wpAny _ _ (call (Value.builtin _) [Value.ref _]) _ _ _); k_dflt (refine' pop_snoc ?F ?N ?U ?z ?_; (case F => k_asm); (case N => k_asm); (case U => k_upd); (case z => size_fits); k_whole); intro h' F' N'; (try k_sweep)))
local macro_rules | `(tactic| walk_at "subscriptTail Name Slice ref ref") => `(tactic| (k_here; (with_reducible show wpAny _ _ (subscriptTail _ (PySem.Expr.Slice none none (some _) _) (Value.ref _) (Value.ref _)) _ _ _); k_dflt (refine' rev_ok ?F ?N ?l ?k ?_ ?s ?t ?z; (case F => k_asm); (case N => k_asm); (case l => is_list); (case k => exact IsPart.int _ _); (case s => with_unfolding_all rfl); (case t => kmk_pure); (case z => size_fits)); intro D' h' F' N' l1; (try k_lt l1); (try k_sweep)))
set_option maxHeartbeats 8000000 in
theorem post_ok {w : World} {dp un : Nat} {gd : Option (List Code)} {cn : Str} {cs : Scope} {a : Addr} {ccd : Value} {cl : List (Str × Addr)} {outer : List Env} {A₀ : Around} {base h₀ : Heap} {L : Addr} {m : Str → Option Value}
    {mean : ExcName → Option Value} {mg mb : Str → Option Value} {s : Shared} {Q E : Value → Shared → Prop}
    {v : Value} {t : T} {news n0 : Led}
    (B : Below A₀ base outer h₀) (F : Fr h₀ L s.heap m) (X : (hd.heap_39 w.params).In h₀) (N : News h₀ L s.heap news) (T : Top hd.view_39 lse mean mg mb h₀) (hk : cs.kind = .function)
    (R : TreeIn n0 v t) (hs : ∀ p ∈ n0, p ∈ news) (hsz : (rp t).length ≤ 1000)
    (hdp : dp + 2 < recursionLimit) (hun : un + 16 < cLine)
    (ret : ∀ r rvs rn h' tk', Fr h₀ L h' m → News h₀ L h' ((r, listOf (List.toArray rvs) rn) :: news) → AllLt r news → TreesIn n0 rvs (post t) → Q (.ref r) { s with heap := h', toks := tk' }) :
    wpAny (model prg w) (ktrTop dp un gd cn cs L a ccd cl outer) (call (.ref 191) [v]) Q E s := by
  refine wpAny_call ?_
  k_dflt ktr_enter
  repeat' ((fail_if_success (with_reducible show wpAny _ _ (exec (Stmt.While _ _ _ _) _) _ _ _)); (first | (k_unfold; (try dsimp only)) | (k_end; wrow_close) | walk1 | (dsimp only; walk1) | (leave1; walk_say "STEP leave1"; try dsimp only) | fail "no step"))
  rename_i found h3 l1a h2 tkx line h1 l1b hh F' N'
  refine While_inv2 (n₀ := (rpL [t]).length) (fun n m₁ nx => ∃ lv ln lt fv fn ft, nx = (line, listOf (List.toArray lv) ln) :: (found, listOf (List.toArray fv) fn) :: news ∧ TreesIn n0 lv lt ∧ TreesIn n0 fv ft ∧ ft ++ rpL lt = rp t ∧ n = (rpL lt).length ∧
    m₁ (Str.ofString "line") = some (.ref line) ∧ m₁ (Str.ofString "found") = some (.ref found)) F' N'
    ⟨[v], 0, [t], [], 0, [], rfl, .cons R .nil, .nil, by simp [rpL], rfl, by with_unfolding_all rfl, by with_unfolding_all rfl⟩ ?_
  rintro n m₁ nx h₁ tk₁ F₁ N₁ ⟨lv, ln, lt, fv, fn, ft, rfl, hl, hf, he, hn, e1, e2⟩
  have F₂ := frOn2 F₁ e1 e2
  clear F₁ F' N'
  have hfl := hf.length
  have hln := hl.length
  have hel := congrArg List.length he
  rw [List.length_append] at hel
  rcases snoc_cases lv with rfl | ⟨lv, u, rfl⟩
  · have hlt : lt = [] := by cases hl; rfl
    subst hlt
    k_steps
    refine ret _ fv.reverse 0 _ _ (by assumption) (fun p hp => ?_) ?_ ?_
    · rename News h₀ L _ _ => kN
      refine kN p ?_
      rcases List.mem_cons.mp hp with h | h
      · exact h ▸ List.Mem.head _
      · exact .tail _ (.tail _ (.tail _ (.tail _ h)))
    · tbn_find
    · rw [rpL, List.append_nil] at he
      rw [post, ← he]
      exact hf.reverse
  · obtain ⟨la, lb, rfl, hla, hlb⟩ := hl.split
    cases hlb with
    | cons hu hnil =>
      cases hnil
      clear hl
      rename_i c
      have hk1 := rpL_len la
      have hk2 := rpL_len (kids c)
      have hk3 : rpL (la ++ [c]) = c :: rpL (la ++ kids c) := by simp [rpL_append, rpL, rp_eq c]
      have hk4 : (rpL (la ++ kids c)).length = (rpL (kids c)).length + (rpL la).length := by simp [rpL_append]
      rw [hk3] at he hel hn
      rw [List.length_cons] at hel hn
      have hb0 : lv.length = la.length := by simpa using hln
      have hb1 : lv.length + (kids c).length + 1 ≤ 1000 := by omega
      have hb2 : fv.length + 1 ≤ 1000 := by omega
      obtain ⟨ra, rd, ch, cvs, nc, rfl, hch, hkids, hcase⟩ := hu.opened
      replace hch := hs _ hch
      have hkl := hkids.length
      rcases hcase with ⟨_, _, _, _, _, _, _, _, _, _, _, _, _, _, _, hm1, hm2, _⟩ | ⟨_, _, _, _, _, _, _, _, _, _, _, _, _, hm1, hm2⟩
      all_goals (replace hm1 := hs _ hm1; replace hm2 := hs _ hm2)
      all_goals (repeat' ((fail_if_success (with_reducible show wpAny _ _ (exec (Stmt.For _ _ _ _ _) _) _ _ _)); (first | (k_unfold; (try dsimp only)) | (k_end; wrow_close) | walk1 | (dsimp only; walk1) | (leave1; walk_say "STEP leave1"; try dsimp only) | fail "no step")))
      all_goals (
        rename Fr _ _ _ _ => F3
        rename News _ _ _ _ => N3
        (with_unfolding_all refine' For_invVF F3 ?k1 ?k2 ?_)
        (case k1 => exact rfl)
        (case k2 => exact rfl)
        repeat' ((fail_if_success (with_reducible show wpAny _ _ (pyIter _) _ _ _)); (first | (k_unfold; (try dsimp only)) | (k_end; wrow_close) | walk1 | (dsimp only; walk1) | (leave1; walk_say "STEP leave1"; try dsimp only) | fail "no step"))
        rename Fr _ _ _ _ => F3
        rename News _ _ _ _ => N3
        simp only [List.push_toArray] at N3
        refine kdl_iter (vs := cvs) (nn := nc) (news := (line, listOf lv.toArray (ln + 1)) :: (found, listOf (fv ++ [Value.ref ra]).toArray (fn + 1)) :: news)
          (fun i m nx => ∃ k, nx = (line, listOf (lv ++ cvs.take i).toArray k) :: (found, listOf (fv ++ [Value.ref ra]).toArray (fn + 1)) :: news ∧ m (Str.ofString "line") = some (.ref line) ∧ m (Str.ofString "found") = some (.ref found))
          rfl (.tail _ (.tail _ hch)) F3 (fun p hp => N3 p (.tail _ hp)) ⟨ln + 1, by simp, by with_unfolding_all rfl, by with_unfolding_all rfl⟩ ?turn ?done
        case turn =>
          rintro i u m₂ nx₂ h₂ tk₂ own hv hoff hmem ⟨k, rfl, e3, e4⟩ F₄ N₄
          have F₅ := frOn2 F₄ ((if_neg (by decide +kernel)).trans e3) ((if_neg (by decide +kernel)).trans e4)
          have hi : i < cvs.length := (List.getElem?_eq_some_iff.mp hv).1
          have hoff' : OwnOff (news ++ own) [line] := by
            intro p hp b hb
            rw [List.mem_singleton.mp hb]
            rcases List.mem_append.mp hp with h | h
            · exact tbn_neAll l1b.2 p h
            · exact hoff p h _ (List.mem_map.mpr ⟨_, List.Mem.head _, rfl⟩)
          have hsz2 : (lv ++ cvs.take i).length ≤ 1000 := by
            rw [List.length_append, List.length_take]; omega
          simp only [List.cons_append] at N₄
          clear F₄ F3 N3
          k_steps
          rename Fr _ _ _ _ => F6
          rename News _ _ _ _ => N6
          simp only [List.push_toArray] at N6
          have hs9 : lv ++ cvs.take (i + 1) = lv ++ cvs.take i ++ [u] := by rw [List.take_add_one, hv]; simp
          refine ⟨_, _, _, _, (line, listOf (lv ++ cvs.take (i + 1)).toArray (k + 1)) :: (found, listOf (fv ++ [Value.ref ra]).toArray (fn + 1)) :: news, rfl, F6, N6, ?_, ?_, hoff, .tail _ (.tail _ hch), k + 1, rfl, by with_unfolding_all rfl, by with_unfolding_all rfl⟩
          · intro p hp
            rw [hs9] at hp
            rcases List.mem_cons.mp hp with h | hp
            · exact h ▸ .head _
            · rcases List.mem_cons.mp hp with h | hp
              · exact h ▸ .tail _ (.head _)
              · exact .tail _ (.tail _ (List.mem_append.mpr (.inl hp)))
          · intro p hp
            exact .tail _ (.tail _ (List.mem_append.mpr (.inr hp)))
        case done =>
          rintro m₂ nx₂ h₂ tk₂ ⟨k, rfl, e3, e4⟩ F₄ N₄
          k_steps
          refine ⟨_, _, m₂, _, (rpL (la ++ kids c)).length, rfl, F₄, N₄, by omega, lv ++ cvs.take cvs.length, k, la ++ kids c, fv ++ [Value.ref ra], fn + 1, ft ++ [c], rfl, ?_, TreesIn.append (.cons hu .nil) hf, ?_, rfl, e3, e4⟩
          · rw [List.take_length]; exact TreesIn.append hkids hla
          · rw [List.append_assoc]; exact he)
end
section
theorem modeO2 : PySem.Challenge.rw_on0160_01 = PySem.Challenge.rw_on0160_01 ∧ hd.heap_39 = hd.heap_39 := by
  k_fill
  w_top off
  exact ⟨rfl, rfl⟩
theorem DatAll_take {news : Led} {vs : List Value} : ∀ {ds : List Dat} (n : Nat), DatAll news vs ds → DatAll news (vs.take n) (ds.take n) := by
  induction vs with
  | nil => intro ds n h; cases h; simp; exact .nil
  | cons v vs ih =>
    intro ds n h
    cases h with
    | cons h r =>
      cases n with
      | zero => simp; exact .nil
      | succ n => rw [List.take_succ_cons, List.take_succ_cons]; exact .cons h (ih n r)
theorem DatAll_drop {news : Led} {vs : List Value} : ∀ {ds : List Dat} (n : Nat), DatAll news vs ds → DatAll news (vs.drop n) (ds.drop n) := by
  induction vs with
  | nil => intro ds n h; cases h; simp; exact .nil
  | cons v vs ih =>
    intro ds n h
    cases h with
    | cons h r =>
      cases n with
      | zero => exact .cons h r
      | succ n => rw [List.drop_succ_cons, List.drop_succ_cons]; exact ih n r
def ToldJ (t : T) (b1 : Led) (i : Nat) (m : Str → Option Value) (nx : Led) : Prop :=
  ∃ dl dvs dn tl, nx = (dl, listOf (List.toArray dvs) dn) :: (tl ++ b1) ∧ OwnOff (tl ++ b1) [dl] ∧ (∀ q ∈ b1, ∀ p ∈ tl, q.1 < p.1) ∧ DatAll tl dvs (((post t).take i).foldl step []) ∧ m (Str.ofString "done") = some (.ref dl)
theorem told_fin {g h' : Heap} {L : Addr} {m' : Str → Option Value} {led own tl b1 rest : Led} {t ti : T} {i r rn : Nat} {rvs : List Value} {s₁ : Shared} {tk : Nat} {Tp dl' dl0 : Addr} {tup o0 : Obj} {dvs' : List Value} {k : Nat}
    (F : Fr g L h' m') (N : News g L h' led) (hrest : rest = tl ++ b1 ++ own) (hr : (r, listOf rvs.toArray rn) ∈ b1) (hti : (post t)[i]? = some ti) (hoff : OwnOff own (((dl0, o0) :: (tl ++ b1)).map (·.1)))
    (hT1 : (Tp, tup) ∈ led) (hD : (dl', listOf dvs'.toArray k) ∈ led) (hsub : ∀ p ∈ rest, p ∈ led) (hT : AllLt Tp rest) (hne : ∀ p ∈ rest, p.1 ≠ dl') (hTd : @Ne Nat Tp dl')
    (hord : ∀ q ∈ b1, ∀ p ∈ tl, q.1 < p.1) (hda : DatAll ((Tp, tup) :: tl) dvs' (step (((post t).take i).foldl step []) ti)) (hm : m' (Str.ofString "done") = some (.ref dl')) :
    InvEndG g L (fun m' nx => (r, listOf rvs.toArray rn) ∈ nx ∧ ToldJ t b1 (i + 1) m' nx) own s₁ { s₁ with heap := h', toks := tk } := by
  subst hrest
  have hT' := tb_ltOf hT
  refine ⟨h', tk, m', led, (dl', listOf dvs'.toArray k) :: (((Tp, tup) :: tl) ++ b1), rfl, F, N, ?_, ?_, ?_, ?_, dl', dvs', k, (Tp, tup) :: tl, rfl, ?_, ?_, ?_, hm⟩
  · intro p hp
    rcases List.mem_cons.mp hp with h | hp
    · exact h ▸ hD
    · rcases List.mem_cons.mp hp with h | hp
      · exact h ▸ hT1
      · exact hsub p (List.mem_append.mpr (.inl hp))
  · exact fun p hp => hsub p (List.mem_append.mpr (.inr hp))
  · intro p hp b hb
    rcases List.mem_cons.mp hb with h | hb
    · exact h ▸ hne p (List.mem_append.mpr (.inr hp))
    · rcases List.mem_cons.mp hb with h | hb
      · exact h ▸ Nat.ne_of_lt (hT' p (List.mem_append.mpr (.inr hp)))
      · exact hoff p hp b (.tail _ hb)
  · exact .tail _ (List.mem_append.mpr (.inr hr))
  · intro p hp b hb
    rw [List.mem_singleton.mp hb]
    rcases List.mem_cons.mp hp with h | hp
    · exact h ▸ hTd
    · exact hne p (List.mem_append.mpr (.inl hp))
  · intro q hq p hp
    rcases List.mem_cons.mp hp with h | hp
    · exact h ▸ hT' q (List.mem_append.mpr (.inl (List.mem_append.mpr (.inr hq))))
    · exact hord q hq p hp
  · rw [fold_at hti]; exact hda
local macro_rules | `(tactic| walk_at "call builtin:len") => `(tactic| (k_here; (with_reducible show wpAny _ _ (call (Value.builtin "len") [Value.ref _]) _ _ _); k_dflt (refine' len_ok ?k1 ?k3 ?_; (case k1 => is_list); (case k3 => first | omega | (simp only [List.length_append, List.length_cons, List.length_nil, List.length_take, List.length_drop]; omega)); k_whole)))
local macro_rules | `(tactic| walk_at "subscriptTail Name Slice ref ref") => `(tactic| (k_here; (with_reducible show wpAny _ _ (subscriptTail _ (PySem.Expr.Slice none (some _) none _) (Value.ref _) (Value.ref _)) _ _ _); k_dflt (refine' cut_to ?F ?N ?l ?p ?q ?x ?_ ?s ?t ?z; (case F => k_asm); (case N => k_asm); (case l => is_list); (case p => kmk_part); (case q => kmk_part); (case x => omega); (case s => with_unfolding_all rfl); (case t => kmk_pure); (case z => size_fits)); intro D' h' F' N' l1; (try k_lt l1); (try k_sweep)))
local macro_rules | `(tactic| walk_at "subscriptTail Name Slice ref ref") => `(tactic| (k_here; (with_reducible show wpAny _ _ (subscriptTail _ (PySem.Expr.Slice (some _) none none _) (Value.ref _) (Value.ref _)) _ _ _); k_dflt (refine' cut_from ?F ?N ?l ?p ?q ?x ?_ ?s ?t ?z; (case F => k_asm); (case N => k_asm); (case l => is_list); (case p => kmk_part); (case q => kmk_part); (case x => omega); (case s => with_unfolding_all rfl); (case t => kmk_pure); (case z => size_fits)); intro D' h' F' N' l1; (try k_lt l1); (try k_sweep)))
local macro_rules | `(tactic| walk_at "call type:tuple") => `(tactic| (k_here; (with_reducible show wpAny _ _ (call (Value.type _) [Value.ref _]) _ _ _); k_dflt (refine' tup_of ?F ?N ?l ?z ?_; (case F => k_asm); (case N => k_asm); (case l => is_list); (case z => first | omega | (simp only [List.length_append, List.length_cons, List.length_nil, List.length_take, List.length_drop]; omega)); k_whole); intro D' h' F' N' l1; (try k_lt l1); (try k_sweep)))
local macro_rules | `(tactic| walk_at "binaryOp Add ref ref") => `(tactic| (k_here; (with_reducible show wpAny _ _ (binaryOp _ (Value.ref _) (Value.ref _)) _ _ _); k_dflt (first
  | (refine' add_tup0 ?F ?N ?a ?b ?c ?d ?z ?_; (case F => k_asm); (case N => k_asm); (case a => exact News.isTup (by assumption) (by k_mem)); (case b => exact News.isTup (by assumption) (by k_mem)); (case c => exact List.cons_ne_nil _ _); (case d => assumption); (case z => first | omega | (simp only [List.length_append, List.length_cons, List.length_nil, List.length_take, List.length_drop]; omega)); k_whole)
  | (refine' add_tup1 ?F ?N ?a ?b ?c ?d ?z ?_; (case F => k_asm); (case N => k_asm); (case a => exact News.isTup (by assumption) (by k_mem)); (case b => exact News.isTup (by assumption) (by k_mem)); (case c => exact List.cons_ne_nil _ _); (case d => assumption); (case z => first | omega | (simp only [List.length_append, List.length_cons, List.length_nil, List.length_take, List.length_drop]; omega)); k_whole; intro D' h' F' N' l1; (try k_lt l1); (try k_sweep))
  | (refine' add_list ?F ?N ?a ?b ?z ?_; (case F => k_asm); (case N => k_asm); (case a => is_list); (case b => is_list); (case z => first | omega | (simp only [List.length_append, List.length_cons, List.length_nil, List.length_take, List.length_drop]; omega)); k_whole; intro D' h' F' N' l1; (try k_lt l1); (try k_sweep)))))
set_option maxHeartbeats 8000000 in
theorem told_ok {w : World} {dp un : Nat} {gd : Option (List Code)} {cn : Str} {cs : Scope} {a : Addr} {ccd : Value} {cl : List (Str × Addr)} {outer : List Env} {A₀ : Around} {base h₀ : Heap} {L : Addr} {m : Str → Option Value}
    {mean : ExcName → Option Value} {mg mb : Str → Option Value} {s : Shared} {Q E : Value → Shared → Prop}
    {v : Value} {t : T} {news : Led}
    (B : Below A₀ base outer h₀) (F : Fr h₀ L s.heap m) (X : (hd.heap_39 w.params).In h₀) (N : News h₀ L s.heap news) (T : Top hd.view_39 lse mean mg mb h₀) (hk : cs.kind = .function)
    (R : TreeIn news v t) (hsz : (rp t).length ≤ 1000)
    (hdp : dp + 8 < recursionLimit) (hun : un + 64 < cLine)
    (ret : ∀ r tl h' tk', Fr h₀ L h' m → News h₀ L h' (tl ++ news) → (∀ q ∈ news, ∀ p ∈ tl, q.1 < p.1) → DatIn tl r (shape t) → Q r { s with heap := h', toks := tk' }) :
    wpAny (model prg w) (ktrTop dp un gd cn cs L a ccd cl outer) (call (.ref 120) [v]) Q E s := by
  refine wpAny_call ?_
  k_dflt ktr_enter
  repeat' ((fail_if_success (with_reducible show wpAny _ _ (call (Value.ref 191) _) _ _ _)); (first | (k_unfold; (try dsimp only)) | (k_end; wrow_close) | walk1 | (dsimp only; walk1) | (leave1; walk_say "STEP leave1"; try dsimp only) | fail "no step"))
  rename News _ _ _ _ => N1
  rename Fr _ _ _ _ => F1
  rename (∀ p ∈ news, p.1 < _) => l1a
  rename_i l1 _ _
  (refine' post_ok (n0 := news) ?B F1 ?X N1 ?T ?hk R (fun p hp => .tail _ hp) hsz ?hdp ?hun ?_)
  case B => k_asm
  case X => k_asm
  case T => k_asm
  case hk => rfl
  case hdp => k_room
  case hun => ke_room
  intro r rvs rn h2 tk2 F2 N2 hr hrvs
  repeat' ((fail_if_success (with_reducible show wpAny _ _ (pyIter _) _ _ _)); (first | (k_unfold; (try dsimp only)) | (k_end; wrow_close) | walk1 | (dsimp only; walk1) | (leave1; walk_say "STEP leave1"; try dsimp only) | fail "no step"))
  refine kdl_iter (vs := rvs) (nn := rn) (news := (l1, listOf ([] : List Value).toArray 0) :: ([] ++ ((r, listOf rvs.toArray rn) :: news)))
    (ToldJ t ((r, listOf rvs.toArray rn) :: news))
    rfl (.tail _ (.head _)) F2 (fun p hp => N2 p ?_) ⟨l1, [], 0, [], rfl, ?_, fun _ _ _ h => (nomatch h), .nil, by with_unfolding_all rfl⟩ ?turn ?done
  · rcases List.mem_cons.mp hp with h | hp
    · exact h ▸ .tail _ (.head _)
    · rcases List.mem_cons.mp hp with h | hp
      · exact h ▸ .head _
      · exact .tail _ (.tail _ hp)
  · intro p hp b hb
    rw [List.mem_singleton.mp hb]
    rcases List.mem_cons.mp hp with h | hp
    · exact h ▸ Ne.symm (Nat.ne_of_lt hr.1)
    · exact Nat.ne_of_lt (l1a p hp)
  case turn =>
    rintro i u m₂ nx₂ h₃ tk₃ own hv hoff hmem ⟨dl, dvs, dn, tl, rfl, ho, hord, hd, e3⟩ F₄ N₄
    obtain ⟨ti, hti, hui⟩ := hrvs.get hv
    have hk1 := fits_at hti
    have hk2 := fold_len ((post t).take i) []
    have hk3 := hd.length
    have hk4 : ((post t).take i).length ≤ 1000 := by rw [List.length_take, post_len]; omega
    simp only [List.length_nil, Nat.zero_add] at hk2
    have hk5 : dvs.length ≤ 1000 := by omega
    have F₅ := frOn F₄ ((if_neg (by decide +kernel)).trans e3)
    obtain ⟨ra, rd, ch, cvs, nc, rfl, hch, hkids, hcase⟩ := hui.opened
    have hkl := hkids.length
    have hk6 : cvs.length ≤ dvs.length := by omega
    simp only [List.cons_append] at N₄
    have hoff' : OwnOff (tl ++ ((r, listOf rvs.toArray rn) :: news) ++ own) [dl] := by
      intro p hp b hb
      rcases List.mem_append.mp hp with h | h
      · exact ho p h b hb
      · rw [List.mem_singleton.mp hb]
        exact hoff p h _ (List.mem_map.mpr ⟨_, List.Mem.head _, rfl⟩)
    have hsub : ∀ p ∈ news, p ∈ tl ++ ((r, listOf rvs.toArray rn) :: news) ++ own := fun p hp => List.mem_append.mpr (.inl (List.mem_append.mpr (.inr (.tail _ hp))))
    obtain ⟨rest, hrest⟩ : ∃ x, x = tl ++ ((r, listOf rvs.toArray rn) :: news) ++ own := ⟨_, rfl⟩
    rw [← hrest] at N₄ hoff' hsub
    replace hch := hsub _ hch
    clear F₄ F2 N2 N1 F1
    rcases hcase with ⟨_, _, _, _, _, _, _, _, k, _, _, tok, _, x, rfl, hm1, hm2, htok⟩ | ⟨_, _, _, _, _, _, nm, _, rr, _, _, cs', rfl, hm1, hm2⟩
    · obtain ⟨ta, td, _, _, _, _, _, _, _, _, _, _, _, _, _, e, hm3, hm4⟩ := htok.opened
      cases e
      replace hm1 := hsub _ hm1
      replace hm2 := hsub _ hm2
      replace hm3 := hsub _ hm3
      replace hm4 := hsub _ hm4
      k_steps
      rename Fr _ _ _ _ => F9
      rename News _ _ _ _ => N9
      simp only [List.push_toArray] at N9
      exact told_fin F9 N9 hrest (.head _) hti hoff (.head _) (.tail _ (.head _)) (fun p hp => .tail _ (.tail _ hp)) (by tbn_find) (fun p hp => hoff' p hp _ (.head _)) (by refine neN ?_; omega) hord
        (DatAll.append (hd.mono fun p hp => .tail _ hp) (DatAll.one (DatIn.tuple (.head _) (.cons (.str _ _) (.cons (.str _ _) .nil))))) (by with_unfolding_all rfl)
    · replace hm1 := hsub _ hm1
      replace hm2 := hsub _ hm2
      have hk7 : ((dvs.length : Int) - (cvs.length : Int)).toNat = (((post t).take i).foldl step []).length - cs'.length := by
        simp only [kids] at hkl
        omega
      have hd1 := DatAll_take ((((post t).take i).foldl step []).length - cs'.length) hd
      have hd2 := DatAll_drop ((((post t).take i).foldl step []).length - cs'.length) hd
      by_cases hw : List.drop ((dvs.length : Int) - (cvs.length : Int)).toNat dvs = []
      · k_steps
        rename Fr _ _ _ _ => F9
        rename News _ _ _ _ => N9
        rw [hk7] at N9
        rw [hk7] at hw
        have hw2 : List.drop ((((post t).take i).foldl step []).length - cs'.length) (((post t).take i).foldl step []) = [] := by
          have h9 := hd2.length
          rw [hw] at h9
          exact List.length_eq_zero_iff.mp h9.symm
        refine told_fin F9 N9 hrest (.head _) hti hoff (.tail _ (.tail _ (.tail _ (.tail _ (.head _))))) (.head _) (fun p hp => .tail _ (.tail _ (.tail _ (.tail _ (.tail _ (.tail _ (.tail _ hp))))))) (by tbn_find) (tbn_neAll (by tbn_find)) (by refine neN ?_; omega) hord
          ?_ (by with_unfolding_all rfl)
        rw [step, hw2]
        exact DatAll.append (hd1.mono fun p hp => .tail _ hp) (DatAll.one (DatIn.tuple (vs := [_]) (.head _) (.cons (.str _ _) .nil)))
      · k_steps
        rename Fr _ _ _ _ => F9
        rename News _ _ _ _ => N9
        rw [hk7] at N9
        refine told_fin F9 N9 hrest (.head _) hti hoff (.tail _ (.tail _ (.head _))) (.head _) (fun p hp => .tail _ (.tail _ (.tail _ (.tail _ (.tail _ (.tail _ (.tail _ (.tail _ hp)))))))) (by tbn_find) (tbn_neAll (by tbn_find)) (by refine neN ?_; omega) hord
          ?_ (by with_unfolding_all rfl)
        rw [step]
        exact DatAll.append (hd1.mono fun p hp => .tail _ hp) (DatAll.one (DatIn.tuple (.head _) (.cons (.str _ _) (hd2.mono fun p hp => .tail _ hp))))
  case done =>
    rintro m₂ nx₂ h₃ tk₃ ⟨dl, dvs, dn, tl, rfl, ho, hord, hd, e3⟩ F₄ N₄
    have F₅ := frOn F₄ e3
    have hpl : rvs.length = (post t).length := hrvs.length
    rw [hpl, List.take_length, (run_post t []).2] at hd
    cases hd with
    | cons hd hn =>
      cases hn
      clear F₄ F2 N2 N1 F1
      k_steps
      rename News h₀ L _ _ => kN
      have ea : (tl ++ [(r, listOf rvs.toArray rn)]) ++ news = tl ++ (r, listOf rvs.toArray rn) :: news := by simp
      refine ret _ (tl ++ [(r, listOf rvs.toArray rn)]) _ _ (by assumption) (fun p hp => kN p (.tail _ (ea ▸ hp))) ?_ (hd.mono fun p hp => List.mem_append.mpr (.inl hp))
      intro q hq p hp
      rcases List.mem_append.mp hp with h | h
      · exact hord q (.tail _ hq) p h
      · rw [List.mem_singleton.mp h]
        exact tb_ltOf hr.2 q hq
end
section
theorem modeO3 : PySem.Challenge.rw_on0160_01 = PySem.Challenge.rw_on0160_01 ∧ hd.heap_39 = hd.heap_39 := by
  k_fill
  w_top off
  exact ⟨rfl, rfl⟩
local macro_rules | `(tactic| walk_at "call ref") => `(tactic| (k_here; (with_reducible show wpAny _ _ (call (Value.ref 191) [_]) _ _ _); k_dflt (refine' post_ok ?B ?F ?X ?N ?T ?hk ?R ?hs ?hsz ?hdp ?hun ?_; (case B => k_asm); (case F => k_asm); (case X => k_asm); (case N => k_asm); (case T => k_asm); (case hk => rfl); (case R => assumption); (case hs => exact fun _ h => h); (case hsz => assumption); (case hdp => k_room); (case hun => ke_room)); intro r' rvs' rn' h' tk' F' N' l1 hR'))
local macro_rules | `(tactic| walk_at "eval ListComp") => `(tactic| (k_here; k_dflt (first
  | refine LCt.ListComp_T (F₀ := by k_asm) (by with_unfolding_all rfl) (by decide) (by rfl) (by decide) (by rfl) ?_
  | refine LCg.ListComp_U (F₀ := by k_asm) (by with_unfolding_all rfl) (by decide) (by rfl) (by decide) (by rfl) ?_)))
set_option maxHeartbeats 8000000 in
theorem leaves_ok {w : World} {dp un : Nat} {gd : Option (List Code)} {cn : Str} {cs : Scope} {a : Addr} {ccd : Value} {cl : List (Str × Addr)} {outer : List Env} {A₀ : Around} {base h₀ : Heap} {L : Addr} {m : Str → Option Value}
    {mean : ExcName → Option Value} {mg mb : Str → Option Value} {s : Shared} {Q E : Value → Shared → Prop}
    {v : Value} {t : T} {news : Led}
    (B : Below A₀ base outer h₀) (F : Fr h₀ L s.heap m) (X : (hd.heap_39 w.params).In h₀) (N : News h₀ L s.heap news) (T : Top hd.view_39 lse mean mg mb h₀) (hk : cs.kind = .function)
    (R : TreeIn news v t) (hsz : (rp t).length ≤ 1000)
    (hdp : dp + 8 < recursionLimit) (hun : un + 64 < cLine)
    (ret : ∀ r tvs rn h' tk', Fr h₀ L h' m → News h₀ L h' ((r, listOf (List.toArray tvs) rn) :: news) → (∀ p ∈ news, p.1 ≠ r) → ToksIn news tvs (lv t) → Q (.ref r) { s with heap := h', toks := tk' }) :
    wpAny (model prg w) (ktrTop dp un gd cn cs L a ccd cl outer) (call (.ref 125) [v]) Q E s := by
  refine wpAny_call ?_
  k_dflt ktr_enter
  k_steps
  rename News _ _ _ _ => N1
  rename Fr _ _ _ _ => F1
  rename AllLt _ _ => l1
  rename TreesIn _ _ _ => hR
  rename_i r rvs rn h2 tk2
  have hpl : rvs.length = (post t).length := hR.length
  refine LCt.CompSrcT.ledger rfl F1 N1 (.head _) (by rw [List.size_toArray, hpl, post_len, sizeLine_eq]; omega) ?_
  intro g
  refine restT_run (n := rvs.toArray.size) (fun i ys nw => nw = (r, listOf rvs.toArray rn) :: news ∧ ToksIn news ys (((post t).take i).flatMap leafOf)) ?turn ?fin _ 0 [] _ (Nat.zero_add _) ⟨rfl, .nil⟩
  case turn =>
    rintro i ys nw u I oI C oC D m₂ h3 tk3 E' hi ⟨rfl, hy⟩ hv hC hx F3 N3 off ne
    clear F1 N1
    obtain ⟨ti, hti, hu⟩ := hR.get (i := i) (v := u) (by simpa using hv)
    have hs9 : (post t).take (i + 1) = (post t).take i ++ [ti] := by rw [List.take_add_one, hti]; simp
    obtain ⟨ra, rd, ch, cvs, nc, rfl, hch, hkids, hcase⟩ := hu.opened
    rcases hcase with ⟨_, _, _, _, _, _, _, _, k, _, _, tok, _, x, rfl, hm1, hm2, htok⟩ | ⟨_, _, _, _, _, _, nm, _, rr, _, _, cs', rfl, hm1, hm2⟩
    all_goals k_steps
    · rename Fr _ _ _ _ => F9
      rename News _ _ _ _ => N9
      have e9 : ((post t).take (i + 1)).flatMap leafOf = ((post t).take i).flatMap leafOf ++ [(k, x)] := by rw [hs9, List.flatMap_append]; simp [leafOf]
      exact LCg.CompEnd.intro F9 N9 ((r, listOf rvs.toArray rn) :: news) (fun _ h => h) off (.inr ⟨_, .head _, rfl, _, rfl⟩) ⟨rfl, e9 ▸ ToksIn.append (.cons htok .nil) hy⟩
    · rename Fr _ _ _ _ => F9
      rename News _ _ _ _ => N9
      have e9 : ((post t).take (i + 1)).flatMap leafOf = ((post t).take i).flatMap leafOf := by rw [hs9, List.flatMap_append]; simp [leafOf]
      exact LCg.CompEnd.intro F9 N9 ((r, listOf rvs.toArray rn) :: news) (fun _ h => h) off (.inr ⟨_, .head _, rfl, _, rfl⟩) ⟨rfl, e9 ▸ hy⟩
  case fin =>
    rintro ys nw ⟨rfl, hy⟩
    rw [List.size_toArray, hpl, List.take_length, lv_post] at hy
    k_steps
    rename News h₀ L _ _ => kN
    rename (_ ∧ LCg.Off1 _ news) => o9
    refine ret _ ys ys.length _ _ (by assumption) (fun p hp => kN p ?_) (off1_mem o9.2) hy
    rcases List.mem_cons.mp hp with h | hp
    · exact h ▸ .head _
    · exact .tail _ (.tail _ hp)
set_option maxHeartbeats 8000000 in
theorem reds_ok {w : World} {dp un : Nat} {gd : Option (List Code)} {cn : Str} {cs : Scope} {a : Addr} {ccd : Value} {cl : List (Str × Addr)} {outer : List Env} {A₀ : Around} {base h₀ : Heap} {L : Addr} {m : Str → Option Value}
    {mean : ExcName → Option Value} {mg mb : Str → Option Value} {s : Shared} {Q E : Value → Shared → Prop}
    {v : Value} {t : T} {news : Led}
    (B : Below A₀ base outer h₀) (F : Fr h₀ L s.heap m) (X : (hd.heap_39 w.params).In h₀) (N : News h₀ L s.heap news) (T : Top hd.view_39 lse mean mg mb h₀) (hk : cs.kind = .function)
    (R : TreeIn news v t) (hsz : (rp t).length ≤ 1000)
    (hdp : dp + 8 < recursionLimit) (hun : un + 64 < cLine)
    (ret : ∀ r tvs rn h' tk', Fr h₀ L h' m → News h₀ L h' ((r, listOf (List.toArray tvs) rn) :: news) → (∀ p ∈ news, p.1 ≠ r) → IntsAre tvs (rd t) → Q (.ref r) { s with heap := h', toks := tk' }) :
    wpAny (model prg w) (ktrTop dp un gd cn cs L a ccd cl outer) (call (.ref 130) [v]) Q E s := by
  refine wpAny_call ?_
  k_dflt ktr_enter
  k_steps
  rename News _ _ _ _ => N1
  rename Fr _ _ _ _ => F1
  rename AllLt _ _ => l1
  rename TreesIn _ _ _ => hR
  rename_i r rvs rn h2 tk2
  have hpl : rvs.length = (post t).length := hR.length
  refine LCt.CompSrcT.ledger rfl F1 N1 (.head _) (by rw [List.size_toArray, hpl, post_len, sizeLine_eq]; omega) ?_
  intro g
  refine restT_run (n := rvs.toArray.size) (fun i ys nw => nw = (r, listOf rvs.toArray rn) :: news ∧ IntsAre ys (((post t).take i).flatMap ruleOf)) ?turn ?fin _ 0 [] _ (Nat.zero_add _) ⟨rfl, .nil⟩
  case turn =>
    rintro i ys nw u I oI C oC D m₂ h3 tk3 E' hi ⟨rfl, hy⟩ hv hC hx F3 N3 off ne
    clear F1 N1
    obtain ⟨ti, hti, hu⟩ := hR.get (i := i) (v := u) (by simpa using hv)
    have hs9 : (post t).take (i + 1) = (post t).take i ++ [ti] := by rw [List.take_add_one, hti]; simp
    obtain ⟨ra, rd, ch, cvs, nc, rfl, hch, hkids, hcase⟩ := hu.opened
    rcases hcase with ⟨_, _, _, _, _, _, _, _, k, _, _, tok, _, x, rfl, hm1, hm2, htok⟩ | ⟨_, _, _, _, _, _, nm, _, rr, _, _, cs', rfl, hm1, hm2⟩
    all_goals k_steps
    · rename Fr _ _ _ _ => F9
      rename News _ _ _ _ => N9
      have e9 : ((post t).take (i + 1)).flatMap ruleOf = ((post t).take i).flatMap ruleOf  := by rw [hs9, List.flatMap_append]; simp [ruleOf]
      exact LCg.CompEnd.intro F9 N9 ((r, listOf rvs.toArray rn) :: news) (fun _ h => h) off (.inr ⟨_, .head _, rfl, _, rfl⟩) ⟨rfl, e9 ▸ hy⟩
    · rename Fr _ _ _ _ => F9
      rename News _ _ _ _ => N9
      have e9 : ((post t).take (i + 1)).flatMap ruleOf = ((post t).take i).flatMap ruleOf ++ [rr] := by rw [hs9, List.flatMap_append]; simp [ruleOf]
      exact LCg.CompEnd.intro F9 N9 ((r, listOf rvs.toArray rn) :: news) (fun _ h => h) off (.inr ⟨_, .head _, rfl, _, rfl⟩) ⟨rfl, e9 ▸ IntsAre.append hy (.cons rr _ .nil)⟩
  case fin =>
    rintro ys nw ⟨rfl, hy⟩
    rw [List.size_toArray, hpl, List.take_length, rd_post] at hy
    k_steps
    rename News h₀ L _ _ => kN
    rename (_ ∧ LCg.Off1 _ news) => o9
    refine ret _ ys ys.length _ _ (by assumption) (fun p hp => kN p ?_) (off1_mem o9.2) hy
    rcases List.mem_cons.mp hp with h | hp
    · exact h ▸ .head _
    · exact .tail _ (.tail _ hp)
end
section
theorem modeR1 : PySem.Challenge.rw_on0160_01 = PySem.Challenge.rw_on0160_01 ∧ hd.heap_39 = hd.heap_39 := by
  k_fill
  w_top off
  exact ⟨rfl, rfl⟩
theorem nodeNews {h₀ h : Heap} {L x d c : Addr} {h1 h2 h3 r : Int} {t1 t2 t3 tn tr : Tok} {n nc : Nat} {nm : Str} {cs hvs : List Value} {news extra : Led} (N : News h₀ L h ((c, listOf cs.toArray nc) :: (x, instObj 147 d) :: (d, nodeDict h1 h2 h3 t1 t2 t3 nm tn r tr c n) :: (extra ++ news)))
    (hn : nm = nmOf r) (hc : cs = if r = 3 then [] else hvs) : News h₀ L h ((c, listOf (if r = 3 then [] else hvs).toArray nc) :: (x, instObj 147 d) :: (d, nodeDict h1 h2 h3 t1 t2 t3 (nmOf r) tn r tr c n) :: news) := by
  subst hn
  rw [← hc]
  intro p hp
  refine N p ?_
  simp only [List.mem_cons, List.mem_append] at hp ⊢
  rcases hp with h | h | h | h
  · exact .inl h
  · exact .inr (.inl h)
  · exact .inr (.inr (.inl h))
  · exact .inr (.inr (.inr (.inr h)))
local macro_rules | `(tactic| walk_at "call type:list") => `(tactic| (k_here; (with_reducible show wpAny _ _ (call (Value.type _) [Value.ref _]) _ _ _); k_dflt (refine' copy_ok ?F ?N ?b ?z ?_; (case F => k_asm); (case N => k_asm); (case b => k_mem); (case z => first | omega | (simp only [List.length_nil]; omega)); k_whole); intro D' c' h' F' N' l1; (try k_lt l1); (try k_sweep)))
local macro_rules | `(tactic| walk_at "subscriptTail") => `(tactic| (k_here; (with_reducible show wpAny _ _ (subscriptTail _ _ (Value.ref 246) (Value.int _ _)) _ _ _); k_dflt (refine' topList_K ?F ?X ?l ?a ?b ?d ?_ ?s; (case F => k_asm); (case X => k_asm); (case l => k_is); (case a => decide); (case b => decide); (case d => rfl); (case s => with_unfolding_all rfl); k_whole)))
set_option maxHeartbeats 8000000 in
theorem reduce_ok {w : World} {dp un : Nat} {gd : Option (List Code)} {cn : Str} {cs : Scope} {a : Addr} {ccd : Value} {cl : List (Str × Addr)} {outer : List Env} {A₀ : Around} {base h₀ : Heap} {L : Addr} {m : Str → Option Value}
    {mean : ExcName → Option Value} {mg mb : Str → Option Value} {s : Shared} {Q E : Value → Shared → Prop}
    {news : Led} {hdl hdd hv : Addr} {hh : Int} {ht : Tok} {hn hvn : Nat} {hvs : List Value} {r : Int} {tr : Tok}
    (B : Below A₀ base outer h₀) (F : Fr h₀ L s.heap m) (X : (hd.heap_39 w.params).In h₀) (N : News h₀ L s.heap news) (T : Top hd.view_39 lse mean mg mb h₀) (hk : cs.kind = .function)
    (hh1 : (hdl, instObj 229 hdd) ∈ news) (hh2 : (hdd, dictOf [⟨hh, .str (Str.ofString "names") ht, .ref 246⟩] hn) ∈ news) (hhv : (hv, listOf hvs.toArray hvn) ∈ news) (hr1 : 1 ≤ r) (hr4 : r ≤ 4) (hlen : hvs.length ≤ 1000)
    (hdp : dp + 8 < recursionLimit) (hun : un + 64 < cLine)
    (ret : ∀ x d c h1 h2 h3 t1 t2 t3 tn tr n nc h' tk', Fr h₀ L h' m → News h₀ L h' ((c, listOf (if r = 3 then [] else hvs).toArray nc) :: (x, instObj 147 d) :: (d, nodeDict h1 h2 h3 t1 t2 t3 (nmOf r) tn r tr c n) :: news) →
      AllLt d news → @LT.lt Nat _ d x → @LT.lt Nat _ x c → Q (.ref x) { s with heap := h', toks := tk' }) :
    wpAny (model prg w) (ktrTop dp un gd cn cs L a ccd cl outer) (call (.ref 219) [.ref hdl, .int r tr, .ref hv, .none]) Q E s := by
  refine wpAny_call ?_
  k_dflt ktr_enter
  have hr : r = 1 ∨ r = 2 ∨ r = 3 ∨ r = 4 := by omega
  rcases hr with rfl | rfl | rfl | rfl
  all_goals k_steps
  all_goals (rename News h₀ L _ _ => kN)
  · exact ret _ _ _ _ _ _ _ _ _ _ _ _ _ _ _ (by assumption) (nodeNews (extra := []) kN (by decide +kernel) (if_neg (by decide)).symm) (by first | tbn_find | exact allLt_of (by assumption)) (by refine ltN ?_; omega) (by refine ltN ?_; omega)
  · exact ret _ _ _ _ _ _ _ _ _ _ _ _ _ _ _ (by assumption) (nodeNews (extra := []) kN (by decide +kernel) (if_neg (by decide)).symm) (by first | tbn_find | exact allLt_of (by assumption)) (by refine ltN ?_; omega) (by refine ltN ?_; omega)
  · exact ret _ _ _ _ _ _ _ _ _ _ _ _ _ _ _ (by assumption) (nodeNews (extra := [_]) kN (by decide +kernel) (if_pos rfl).symm) (by first | tbn_find | exact allLt_of (by assumption)) (by refine ltN ?_; omega) (by refine ltN ?_; omega)
  · exact ret _ _ _ _ _ _ _ _ _ _ _ _ _ _ _ (by assumption) (nodeNews (extra := []) kN (by decide +kernel) (if_neg (by decide)).symm) (by first | tbn_find | exact allLt_of (by assumption)) (by refine ltN ?_; omega) (by refine ltN ?_; omega)
end
section
theorem modeR2 : PySem.Challenge.rw_on0160_01 = PySem.Challenge.rw_on0160_01 ∧ hd.heap_39 = hd.heap_39 := by
  k_fill
  w_top off
  exact ⟨rfl, rfl⟩
set_option maxHeartbeats 8000000 in
theorem recover_ok {w : World} {dp un : Nat} {gd : Option (List Code)} {cn : Str} {cs : Scope} {a : Addr} {ccd : Value} {cl : List (Str × Addr)} {outer : List Env} {A₀ : Around} {base h₀ : Heap} {L : Addr} {m : Str → Option Value}
    {mean : ExcName → Option Value} {mg mb : Str → Option Value} {s : Shared} {Q E : Value → Shared → Prop}
    {news : Led} {hdl : Addr}
    (B : Below A₀ base outer h₀) (F : Fr h₀ L s.heap m) (X : (hd.heap_39 w.params).In h₀) (N : News h₀ L s.heap news) (T : Top hd.view_39 lse mean mg mb h₀) (hk : cs.kind = .function)
    (hdp : dp + 8 < recursionLimit) (hun : un + 64 < cLine)
    (ret : ∀ ch x d x1 d1 nc g1 g2 g3 g4 b1 b2 b3 b4 c1 c2 n7 f1 f2 f3 f4 e1 e2 e3 e4 e5 e6 worth n8 h' tk', Fr h₀ L h' m →
      News h₀ L h' ((ch, listOf #[] nc) :: (x, instObj 182 d) :: (d, leafDict g1 g2 g3 g4 b1 b2 b3 b4 (Str.ofString "error") c1 c2 ch x1 n7) :: (x1, instObj 81 d1) :: (d1, tokDict f1 f2 f3 f4 e1 e2 e3 e4 (Str.ofString "error") e5 (Str.ofString "") e6 .none worth n8) :: news) →
      AllLt d1 news → @LT.lt Nat _ d1 x1 → @LT.lt Nat _ x1 d → @LT.lt Nat _ d x → @LT.lt Nat _ x ch → Q (.ref x) { s with heap := h', toks := tk' }) :
    wpAny (model prg w) (ktrTop dp un gd cn cs L a ccd cl outer) (call (.ref 226) [.ref hdl]) Q E s := by
  refine wpAny_call ?_
  k_dflt ktr_enter
  k_steps
  rename Fr h₀ L _ _ => kF
  rename News h₀ L _ _ => kN
  exact ret _ _ _ _ _ _ _ _ _ _ _ _ _ _ _ _ _ _ _ _ _ _ _ _ _ _ _ _ _ _ _ kF kN (by first | tbn_find | exact allLt_of (by assumption)) (by refine ltN ?_; omega) (by refine ltN ?_; omega) (by refine ltN ?_; omega) (by refine ltN ?_; omega)
end
section
abbrev Led2 := List (Addr × Obj)
-- a comprehension of two clauses: [y for x in iter for y in x[k]]
abbrev two (elt iter i1 : Expr) (x y : Str) (p0 p1 : Pos) (scope : Scope) (pos : Pos) : Expr := .ListComp elt [⟨.Name x p0, iter, [], 0⟩, ⟨.Name y p1, i1, [], 0⟩] scope pos
theorem turn_in (elt iter i1 : Expr) (x y : Str) (p0 p1 : Pos) (scope : Scope) (pos : Pos) (it acc : Value) (env : Env) :
    compTurn (two elt iter i1 x y p0 p1 scope pos) 1 it acc env = (standAt i1.pos >>= fun _ => pyNext it >>= fun r => match r with
      | none => pure (.done .next)
      | some v => letOwnedTupleGo (.Name y p1) it v >>= fun _ => assign (.Name y p1) env v >>= fun _ =>
        (eval elt env >>= fun z => call (.builtin "list.append") [acc, z] >>= fun _ => pure ()) >>= fun _ =>
          again (.compLoop (two elt iter i1 x y p0 p1 scope pos) 1 it acc env)) := by rfl
theorem turn_out (elt iter i1 : Expr) (x y : Str) (p0 p1 : Pos) (scope : Scope) (pos : Pos) (it acc : Value) (env : Env) :
    compTurn (two elt iter i1 x y p0 p1 scope pos) 0 it acc env = (standAt iter.pos >>= fun _ => pyNext it >>= fun r => match r with
      | none => pure (.done .next)
      | some v => letOwnedTupleGo (.Name x p0) it v >>= fun _ => assign (.Name x p0) env v >>= fun _ =>
        eval i1 env >>= fun z => standAt i1.pos >>= fun _ => foldedSetIterable i1 env z >>= fun z => holding [z] (pyIter z) >>= fun j =>
          runOwn (.compStart (two elt iter i1 x y p0 p1 scope pos) 1 j acc env) env >>= fun _ =>
          again (.compLoop (two elt iter i1 x y p0 p1 scope pos) 0 it acc env)) := by rfl
section
variable {prog : Program} {w : World} {A : Around} {E : Value → Shared → Prop} {R : Result → Shared → Prop} {s : Shared}
/-- what the inner loop leaves: the list grown by the items, the rest as it was -/
theorem in_loop {iter i1 : Expr} {x y : Str} {p0 p1 py : Pos} {scope : Scope} {pos : Pos} {cenv : Env} {J l D : Addr} {us ys : List Value} {m : Str → Option Value}
    (hh : A.handled = none) (hy : cenv.kindOf y = some .local) (hk : cenv.scope.kind = .function) (hd : (y == ("__debug__" : Str)) = false)
    (hit : s.heap.IsListIter J l 0) (hl : s.heap.IsList l us.toArray) (hn : s.heap.Ns cenv.locals m) (hD : s.heap.get? D = some (LCg.lst ys))
    (hJC : J ≠ cenv.locals) (hJD : J ≠ D) (hCD : cenv.locals ≠ D) (hlJ : l ≠ J) (hlC : l ≠ cenv.locals) (hlD : l ≠ D) (hsz : ys.length + us.length ≤ sizeLine)
    (hR : ∀ h' tk m', h'.Ns cenv.locals m' → h'.get? D = some (LCg.lst (ys ++ us)) → (∀ b o, b ≠ J → b ≠ cenv.locals → b ≠ D → s.heap.get? b = some o → h'.get? b = some o) → R (.ok .next) { s with heap := h', toks := tk }) :
    codeAny (model prog w) A (.compLoop (two (.Name y py) iter i1 x y p0 p1 scope pos) 1 (.ref J) (.ref D) cenv) R s := by
  have W := Walks.list (prog := prog) (w := w) hh J l hlJ us.toArray
  have hp : (cenv.scope.kind == .class || (cenv.scope.kind == .module && cenv.locals != cenv.globals)) = false := by rw [hk]; rfl
  refine codeAny_loop rfl (fun k s' => ∃ h' tk i m', s' = { s with heap := h', toks := tk } ∧ i ≤ us.length ∧ k = us.length + 1 - i ∧ h'.IsListIter J l i ∧ h'.Ns cenv.locals m' ∧ h'.get? D = some (LCg.lst (ys ++ us.take i)) ∧
    (∀ b o, b ≠ J → b ≠ cenv.locals → b ≠ D → s.heap.get? b = some o → h'.get? b = some o)) ?_ (us.length + 1)
    ⟨s.heap, s.toks, 0, m, rfl, Nat.zero_le _, rfl, hit, hn, by simpa using hD, fun _ _ _ _ _ e => e⟩
  rintro k s' ⟨h', tk, i, m', rfl, hi, rfl, hit', hn', hD', hk'⟩
  show wpAny _ _ ((compTurn (two (.Name y py) iter i1 x y p0 p1 scope pos) 1 (.ref J) (.ref D) cenv).onRaise (fun x => do noteFrame x cenv; theTreesLotGoes x)) _ _ _
  refine wpAny_noted ?_
  rw [turn_in]
  refine wpAny_bind (wpAny_standAt (wpAny_bind ?_))
  obtain ⟨ol, hol, hl2⟩ := id hl
  have hl' : h'.IsList l us.toArray := ⟨ol, hk' l ol hlJ hlC hlD hol, hl2⟩
  have hus : us.toArray.size = us.length := by simp
  by_cases hlt : i < us.length
  · refine W.item i _ _ _ (by rw [hus]; exact hlt) ⟨hit', hl'⟩ fun v h₂ tk₂ hv st₂ hk₂ => ?_
    dsimp only
    refine wpAny_bind (wpAny_of_eq (rfl : letOwnedTupleGo (.Name y p1) (.ref J) v = pure ()) ?_)
    have hn₂ : h₂.Ns cenv.locals m' := hn'.at' fun o e => hk₂ _ o (by simpa using Ne.symm hJC) e
    refine wpAny_bind (wpAny_assign_Name (wpAny_storeName_local hy hn₂ (fun h₃ hn₃ hs₃ => ?_) hp))
    refine wpAny_bind (wpAny_bind (wpAny_Name (wpAny_loadName_local hk hy hn₃ (v := v) (by simp) ?_) hd))
    have hD₂ : h₂.get? D = some (LCg.lst (ys ++ us.take i)) := hk₂ _ _ (by simpa using Ne.symm hJD) hD'
    have hD₃ : h₃.get? D = some (LCg.lst (ys ++ us.take i)) := hs₃.extBut _ _ (Ne.symm hCD) hD₂
    have hvl : us[i]? = some v := by simpa using hv
    have hs9 : ys ++ us.take (i + 1) = ys ++ us.take i ++ [v] := by rw [List.take_add_one, hvl]; simp
    refine wpAny_bind (append_at (hsz := by rw [List.size_toArray, List.length_append, List.length_take]; omega) hD₃ fun h₄ hs₄ hD₄ => ?_)
    refine wpAny_pure (wpAny_pure ⟨rfl, us.length + 1 - (i + 1), by omega, h₄, _, i + 1, _, rfl, hlt, rfl, ?_, hn₃.sameBut hs₄ hCD, ?_, ?_⟩)
    · obtain ⟨o, e, r⟩ := st₂.1
      exact ⟨o, hs₄.extBut _ _ hJD (hs₃.extBut _ _ hJC e), r⟩
    · rw [hs9, ← LCg.lst_snoc]
      exact hD₄
    · intro b o h1 h2 h3 e
      exact hs₄.extBut _ _ h3 (hs₃.extBut _ _ h2 (hk₂ _ _ (by simpa using h1) (hk' b o h1 h2 h3 e)))
  · have e : i = us.length := by omega
    subst e
    refine W.done _ _ _ (by rw [hus]; exact ⟨hit', hl'⟩) fun h₂ tk₂ hk₂ => ?_
    refine wpAny_pure (hR h₂ tk₂ m' (hn'.at' fun o e => hk₂ _ o (by simpa using Ne.symm hJC) e) ?_ fun b o h1 h2 h3 e => hk₂ _ _ (by simpa using h1) (hk' b o h1 h2 h3 e))
    rw [List.take_length] at hD'
    exact hk₂ _ _ (by simpa using Ne.symm hJD) hD'
theorem in_start {iter i1 : Expr} {x y : Str} {p0 p1 py : Pos} {scope : Scope} {pos : Pos} {cenv : Env} {it acc : Value}
    (h0 : codeAny (model prog w) A (.compLoop (two (.Name y py) iter i1 x y p0 p1 scope pos) 1 it acc cenv) R s)
    (h : wpAny (model prog w) A (pyIter it) (fun it' s' => codeAny (model prog w) A (.compLoop (two (.Name y py) iter i1 x y p0 p1 scope pos) 1 it' acc cenv) R s') (notedBy (model prog w) A cenv fun x s' => R (.error x) s') s) :
    codeAny (model prog w) A (.compStart (two (.Name y py) iter i1 x y p0 p1 scope pos) 1 it acc cenv) R s := by
  refine codeAny_of_tree ?_
  show wpAny _ _ ((compStart (two (.Name y py) iter i1 x y p0 p1 scope pos) 1 it acc cenv).onRaise (fun x => do noteFrame x cenv; standAt theWindowsPlace)) _ _ s
  refine wpAny_notedAt ?_
  unfold compStart
  show wpAny _ _ (ask >>= _) _ _ s
  refine wpAny_bind (wpAny_askSetting (wpAny_ite ?_))
  split
  · first
      | exact wpAny_bind (wpAny_pure (wpAny_pure (And.intro rfl h0)))
      | exact wpAny_pure (And.intro rfl h0)
  · refine wpAny_bind (wpAny_rule ?_)
    show wpAny _ _ (standAt i1.pos >>= _) _ _ s
    exact wpAny_bind (wpAny_standAt (wpAny_bind (wpAny_mono h (fun it' s' h' => wpAny_pure (And.intro rfl h')) fun _ _ x => x)))
/-- what both loops leave -/
theorem out_loop {iter i1 : Expr} {x y : Str} {p0 p1 py : Pos} {scope : Scope} {pos : Pos} {cenv : Env} {I ax D : Addr} {vs : List Value} {uss : List (List Value)} {m : Str → Option Value}
    (hh : A.handled = none) (hx : cenv.kindOf x = some .local) (hy : cenv.kindOf y = some .local) (hk : cenv.scope.kind = .function) (hd : (y == ("__debug__" : Str)) = false)
    (hfold : ∀ z, foldedSetIterable i1 cenv z = pure z)
    (hit : s.heap.IsListIter I ax 0) (hl : s.heap.IsList ax vs.toArray) (hn : s.heap.Ns cenv.locals m) (hD : s.heap.get? D = some (LCg.lst []))
    (hIC : I ≠ cenv.locals) (hID : I ≠ D) (hCD : cenv.locals ≠ D) (haI : ax ≠ I) (haC : ax ≠ cenv.locals) (haD : ax ≠ D) (hlen : vs.length = uss.length) (hsz : uss.flatten.length ≤ sizeLine)
    (hitem : ∀ (i : Nat) (v : Value) (us : List Value), vs[i]? = some v → uss[i]? = some us → ∃ l, s.heap.IsList l us.toArray ∧ l ≠ I ∧ l ≠ cenv.locals ∧ l ≠ D ∧ ∀ (s₁ : Shared) m₁ (E' : Value → Shared → Prop) (Q' : Value → Shared → Prop), s₁.heap.Ns cenv.locals m₁ → m₁ x = some v →
      (∀ b o, b ≠ I → b ≠ cenv.locals → b ≠ D → s.heap.get? b = some o → s₁.heap.get? b = some o) → (∀ tk, Q' (.ref l) { s₁ with toks := tk }) → wpAny (model prog w) A (eval i1 cenv) Q' E' s₁)
    (hR : ∀ h' tk m', h'.Ns cenv.locals m' → h'.get? D = some (LCg.lst uss.flatten) → (∀ b o, b ≠ I → b ≠ cenv.locals → b ≠ D → s.heap.get? b = some o → h'.get? b = some o) → R (.ok .next) { s with heap := h', toks := tk }) :
    codeAny (model prog w) A (.compLoop (two (.Name y py) iter i1 x y p0 p1 scope pos) 0 (.ref I) (.ref D) cenv) R s := by
  have W := Walks.list (prog := prog) (w := w) hh I ax haI vs.toArray
  have hp : (cenv.scope.kind == .class || (cenv.scope.kind == .module && cenv.locals != cenv.globals)) = false := by rw [hk]; rfl
  refine codeAny_loop rfl (fun k s' => ∃ h' tk i m', s' = { s with heap := h', toks := tk } ∧ i ≤ vs.length ∧ k = vs.length + 1 - i ∧ h'.IsListIter I ax i ∧ h'.Ns cenv.locals m' ∧ h'.get? D = some (LCg.lst (uss.take i).flatten) ∧
    (∀ b o, b ≠ I → b ≠ cenv.locals → b ≠ D → s.heap.get? b = some o → h'.get? b = some o)) ?_ (vs.length + 1)
    ⟨s.heap, s.toks, 0, m, rfl, Nat.zero_le _, rfl, hit, hn, by simpa using hD, fun _ _ _ _ _ e => e⟩
  rintro k s' ⟨h', tk, i, m', rfl, hi, rfl, hit', hn', hD', hk'⟩
  show wpAny _ _ ((compTurn (two (.Name y py) iter i1 x y p0 p1 scope pos) 0 (.ref I) (.ref D) cenv).onRaise (fun x => do noteFrame x cenv; theTreesLotGoes x)) _ _ _
  refine wpAny_noted ?_
  rw [turn_out]
  refine wpAny_bind (wpAny_standAt (wpAny_bind ?_))
  obtain ⟨ol, hol, hl2⟩ := id hl
  have hl' : h'.IsList ax vs.toArray := ⟨ol, hk' ax ol haI haC haD hol, hl2⟩
  have hvs : vs.toArray.size = vs.length := by simp
  by_cases hlt : i < vs.length
  · refine W.item i _ _ _ (by rw [hvs]; exact hlt) ⟨hit', hl'⟩ fun v h₂ tk₂ hv st₂ hk₂ => ?_
    dsimp only
    refine wpAny_bind (wpAny_of_eq (rfl : letOwnedTupleGo (.Name x p0) (.ref I) v = pure ()) ?_)
    have hn₂ : h₂.Ns cenv.locals m' := hn'.at' fun o e => hk₂ _ o (by simpa using Ne.symm hIC) e
    refine wpAny_bind (wpAny_assign_Name (wpAny_storeName_local hx hn₂ (fun h₃ hn₃ hs₃ => ?_) hp))
    have hvl : vs[i]? = some v := by simpa using hv
    have hiu : i < uss.length := hlen ▸ hlt
    have hus : uss[i]? = some uss[i] := List.getElem?_eq_getElem hiu
    obtain ⟨us, hus'⟩ : ∃ us, uss[i]? = some us := ⟨_, hus⟩
    obtain ⟨l, hll, hlI, hlC, hlD, hev⟩ := hitem i v us hvl hus'
    have hD₃ : h₃.get? D = some (LCg.lst (uss.take i).flatten) := hs₃.extBut _ _ (Ne.symm hCD) (hk₂ _ _ (by simpa using Ne.symm hID) hD')
    have hk₃ : ∀ b o, b ≠ I → b ≠ cenv.locals → b ≠ D → s.heap.get? b = some o → h₃.get? b = some o := fun b o h1 h2 h3 e => hs₃.extBut _ _ h2 (hk₂ _ _ (by simpa using h1) (hk' b o h1 h2 h3 e))
    have hit₃ : h₃.IsListIter I ax (i + 1) := by
      obtain ⟨o, e, r⟩ := st₂.1
      exact ⟨o, hs₃.extBut _ _ hIC e, r⟩
    have hs9 : (uss.take (i + 1)).flatten = (uss.take i).flatten ++ us := by rw [List.take_add_one, hus', List.flatten_append]; simp
    have hfit : (uss.take i).flatten.length + us.length ≤ sizeLine := by
      have e2 : uss = uss.take (i + 1) ++ uss.drop (i + 1) := (List.take_append_drop _ _).symm
      have e3 : uss.flatten.length = (uss.take i).flatten.length + us.length + (uss.drop (i + 1)).flatten.length := by
        rw [← List.length_append, ← hs9, ← List.length_append, ← List.flatten_append, ← e2]
      omega
    refine wpAny_bind (hev _ _ _ _ hn₃ (by simp) hk₃ fun tk₄ => ?_)
    refine wpAny_bind (wpAny_standAt (wpAny_bind (wpAny_of_eq (hfold _) (wpAny_bind (wpAny_holding ?_)))))
    obtain ⟨o2, ho2, hl3⟩ := id hll
    have hl₃ : h₃.IsList l us.toArray := ⟨o2, hk₃ l o2 hlI hlC hlD ho2, hl3⟩
    refine wpAny_pyIter_list hl₃ ?_
    have lt : ∀ {b : Addr} {o : Obj}, h₃.get? b = some o → b ≠ h₃.objs.size := fun e => Nat.ne_of_lt (Heap.lt_size e)
    have up : ∀ b o, h₃.get? b = some o → (h₃.push { cls := .type "list_iterator", data := .fields #[.ref l, .int 0 0] }).get? b = some o := fun b o e => Heap.get?_push_of_some _ e
    obtain ⟨oC, esC, epC, heC, rC⟩ := id hn₃
    obtain ⟨oI, heI, rI⟩ := id hit₃
    refine wpAny_bind (wpAny_runOwn ?_)
    have itJ : (h₃.push { cls := .type "list_iterator", data := .fields #[.ref l, .int 0 0] }).IsListIter h₃.objs.size l 0 := ⟨_, Heap.get?_push_size _ rfl, rfl, rfl⟩
    refine in_start ?h0 (wpAny_pyIter_listiter itJ ?h1)
    all_goals (
      refine in_loop (by show (none : Option Value).or A.handled = none; rw [hh]; rfl) hy hk hd itJ (hl₃.push _) (hn₃.at' fun o e => up _ _ e) (up _ _ hD₃) (Ne.symm (lt heC)) (Ne.symm (lt hD₃)) hCD (lt (hk₃ l o2 hlI hlC hlD ho2)) hlC hlD hfit ?_
      intro h₆ tk₆ m₆ hn₆ hD₆ hk₆
      refine wpAny_pure ⟨rfl, vs.length + 1 - (i + 1), by omega, h₆, tk₆, i + 1, m₆, rfl, hlt, rfl, ?_, hn₆, by rw [hs9]; exact hD₆, ?_⟩
      · exact ⟨oI, hk₆ _ _ (lt heI) hIC hID (up _ _ heI), rI⟩
      · intro b o h1 h2 h3 e
        have e3 := hk₃ b o h1 h2 h3 e
        exact hk₆ _ _ (lt e3) h2 h3 (up _ _ e3))
  · have e : i = vs.length := by omega
    subst e
    refine W.done _ _ _ (by rw [hvs]; exact ⟨hit', hl'⟩) fun h₂ tk₂ hk₂ => ?_
    refine wpAny_pure (hR h₂ tk₂ m' (hn'.at' fun o e => hk₂ _ o (by simpa using Ne.symm hIC) e) ?_ fun b o h1 h2 h3 e => hk₂ _ _ (by simpa using h1) (hk' b o h1 h2 h3 e))
    rw [hlen, List.take_length] at hD'
    exact hk₂ _ _ (by simpa using Ne.symm hID) hD'
/-- the source: a list of tuples, in each at the place k a list -/
def Src2 (A : Around) (h₀ : Heap) (L : Addr) (m : Str → Option Value) (k : Int) (Fin : Shared → List Value → Led2 → Prop) (xv : Value) (s₁ : Shared) : Prop :=
  ∃ ax an vs uss news, xv = .ref ax ∧ A.handled = none ∧ Fr h₀ L s₁.heap m ∧ News h₀ L s₁.heap news ∧ (ax, listOf (List.toArray vs) an) ∈ news ∧ List.length vs = List.length uss ∧ (List.flatten uss).length ≤ 100000 ∧
    (∀ (i : Nat) (v : Value) (us : List Value), vs[i]? = some v → uss[i]? = some us → ∃ a tvs tn l ln, v = .ref a ∧ (a, ({ cls := .type "tuple", data := .seq (List.toArray tvs) tn } : Obj)) ∈ news ∧ tvs.length ≤ 1000 ∧ tvs[k.toNat]? = some (.ref l) ∧ (l, listOf us.toArray ln) ∈ news) ∧
    Fin s₁ (List.flatten uss) news
theorem block2 {iter : Expr} {x y : Str} {p0 p1 p2 p3 p4 py : Pos} {k : Int} {kd : Nat} {scope : Scope} {cl : List (Str × Addr)} {pos : Pos} {env : Env} {s₁ : Shared} {ax an : Addr} {vs : List Value} {uss : List (List Value)} {news : Led2} {h₀ : Heap} {L : Addr} {m : Str → Option Value} {RR : Value → Addr → Result → Shared → Prop}
    (hh : A.handled = none) (F : Fr h₀ L s₁.heap m) (N : News h₀ L s₁.heap news) (hax : (ax, listOf (List.toArray vs) an) ∈ news) (hlen : vs.length = uss.length) (hsz : uss.flatten.length ≤ 100000) (hk0 : 0 ≤ k)
    (hitems : ∀ (i : Nat) (v : Value) (us : List Value), vs[i]? = some v → uss[i]? = some us → ∃ a tvs tn l ln, v = .ref a ∧ (a, ({ cls := .type "tuple", data := .seq (List.toArray tvs) tn } : Obj)) ∈ news ∧ tvs.length ≤ 1000 ∧ tvs[k.toNat]? = some (.ref l) ∧ (l, listOf us.toArray ln) ∈ news)
    (hcell : ∀ z ∈ scope.names, z.2 ≠ .cell) (hkind : scope.kind = .function) (hx : scope.names.lookup x = some .local) (hy : scope.names.lookup y = some .local) (hd : (y == ("__debug__" : Str)) = false) (hd' : (x == ("__debug__" : Str)) = false)
    (hRR : ∀ (D C : Nat) h tk m', (∀ b o, s₁.heap.get? b = some o → h.get? b = some o) → s₁.heap.objs.size < D → s₁.heap.objs.size < C → C ≠ D → h.Ns C m' → h.get? D = some (LCg.lst uss.flatten) → RR (.ref D) C (.ok .next) { s₁ with heap := h, toks := tk }) :
    wpAny (model prog w) A (pyIter (.ref ax)) (fun it s₂ => wpAny (model prog w) A (newList []) (fun acc s₃ => wpAny (model prog w) A (newFunctionEnv scope env.globals cl [] env.qual none .none (some env)) (fun cenv s₄ =>
      codeAny (model prog w) A (.compStart (two (.Name y py) iter (.Subscript (.Name x p2) (.Constant (.int k) kd p3) p4) x y p0 p1 scope pos) 0 it acc { cenv with scope := relabel scope env }) (RR acc cenv.locals) s₄) E s₃) E s₂) E s₁ := by
  have hol := (N _ hax).1
  refine wpAny_pyIter_list ⟨_, hol, rfl, _, rfl⟩ ?_
  refine wpAny_newObj_type (wpAny_newFunctionEnv hcell (by intro z hz; simp at hz) (fun h₁ hns₁ hsb₁ => ?_) hkind)
  dsimp only at hns₁ hsb₁ ⊢
  generalize hH1 : s₁.heap.push { cls := .type "list_iterator", data := .fields #[.ref ax, .int 0 0] } = H1 at hns₁ hsb₁ ⊢
  have e1 : H1.objs.size = s₁.heap.objs.size + 1 := by rw [← hH1, Heap.size_push]
  generalize hH2 : H1.push { cls := .type "list", dict := none, data := .seq ([] : List Value).toArray } = H2 at hns₁ hsb₁ ⊢
  have e2 : H2.objs.size = s₁.heap.objs.size + 2 := by rw [← hH2, Heap.size_push, e1]
  have up1 : ∀ b o, s₁.heap.get? b = some o → H1.get? b = some o := fun b o e => hH1 ▸ Heap.get?_push_of_some _ e
  have up2 : ∀ b o, H1.get? b = some o → H2.get? b = some o := fun b o e => hH2 ▸ Heap.get?_push_of_some _ e
  have lt0 : ∀ (b : Nat) o, s₁.heap.get? b = some o → b < s₁.heap.objs.size := fun b o e => Heap.lt_size e
  have up3 : ∀ (b : Nat) o, b < s₁.heap.objs.size + 2 → H2.get? b = some o → h₁.get? b = some o := fun b o hb e => hsb₁.extBut b o (by rw [e2]; exact Nat.ne_of_lt hb) (Heap.get?_push_of_some _ e)
  have keep : ∀ b o, s₁.heap.get? b = some o → h₁.get? b = some o := fun b o e => up3 b o (ltN (by have := lt0 b o e; omega)) (up2 b o (up1 b o e))
  have hI : h₁.get? s₁.heap.objs.size = some { cls := .type "list_iterator", data := .fields #[.ref ax, .int 0 0] } := up3 _ _ (by omega) (up2 _ _ (hH1 ▸ Heap.get?_push_size _ rfl))
  have hD : h₁.get? H1.objs.size = some (LCg.lst []) := up3 _ _ (by rw [e1]; omega) (hH2 ▸ Heap.get?_push_size _ rfl)
  have hlx : h₁.IsList ax vs.toArray := ⟨_, keep _ _ hol, rfl, _, rfl⟩
  have hax' := lt0 _ _ hol
  have main : ∀ s₃ : Shared, s₃ = { s₁ with heap := h₁, toks := s₁.toks + ([] : List (Str × Value)).length } →
      codeAny (model prog w) A (.compLoop (two (.Name y py) iter (.Subscript (.Name x p2) (.Constant (.int k) kd p3) p4) x y p0 p1 scope pos) 0 (.ref s₁.heap.objs.size) (.ref H1.objs.size) (compEnvC scope cl H2.objs.size env)) (RR (.ref H1.objs.size) H2.objs.size) s₃ := by
    rintro s₃ rfl
    refine out_loop (uss := uss) hh (lookup_relabel_local hx) (lookup_relabel_local hy) hkind hd (by intro _; rfl) ⟨_, hI, rfl, rfl⟩ hlx hns₁ hD (by show @Ne Nat _ H2.objs.size; omega) (neN (by omega)) (by show @Ne Nat H2.objs.size _; omega) (neN (by omega)) (by show @Ne Nat _ H2.objs.size; omega) (neN (by omega)) hlen (by rw [sizeLine_eq]; omega) ?_ ?_
    · intro i v us hv hus
      obtain ⟨a, tvs, tn, l, ln, rfl, hat, htl, hkl, hll⟩ := hitems i v us hv hus
      have za := (N _ hat).1
      have zl := (N _ hll).1
      have la := lt0 _ _ za
      have ll := lt0 _ _ zl
      refine ⟨l, ⟨_, keep _ _ zl, rfl, _, rfl⟩, Nat.ne_of_lt ll, by show @Ne Nat l H2.objs.size; dsimp only at ll; omega, neN (by dsimp only at ll; omega), ?_⟩
      intro s₄ m₄ E' Q' hn₄ hm₄ hk₄ hQ
      have za4 := hk₄ _ _ (Nat.ne_of_lt la) (by show @Ne Nat a H2.objs.size; dsimp only at la; omega) (neN (by dsimp only at la; omega)) (keep _ _ za)
      have hki : k.toNat < tvs.length := (List.getElem?_eq_some_iff.mp hkl).1
      refine Subscript_ (wpAny_Name (wpAny_loadName_local hkind (lookup_relabel_local hx) hn₄ hm₄ ?_) hd')
      refine wpAny_Constant_int (item_tupleT (l := tvs) ⟨_, za4, rfl, _, rfl⟩ (by omega) (by omega) ?_ hkl (hQ _))
      have hki' : k < (tvs.length : Int) := by omega
      simp [seqIndex?, if_neg (Int.not_lt.mpr hk0), hk0, hki']
    · intro h' tk m' hn' hD' hk'
      exact hRR _ _ h' tk m' (fun b o e => by
        have hb := lt0 b o e
        exact hk' b o (neN (by omega)) (by show @Ne Nat b H2.objs.size; omega) (neN (by omega)) (keep b o e)) (by omega) (by omega) (by omega) hn' hD'
  have itI : ({ s₁ with heap := h₁, toks := s₁.toks + ([] : List (Str × Value)).length } : Shared).heap.IsListIter s₁.heap.objs.size ax 0 := ⟨_, hI, rfl, rfl⟩
  exact codeAny_compStart_list (main _ rfl) (wpAny_pyIter_listiter itI (main _ rfl))
theorem late {h₀ h : Heap} {L C : Nat} {m : Str → Option Value} (F : Fr h₀ L h m) (hC : h.objs.size < C) : C ≠ L ∧ h₀.get? C = none := by
  have h1 : L < h.objs.size := F.ns.lt
  refine ⟨by omega, ?_⟩
  cases e : h₀.get? C with
  | none => rfl
  | some o => have h2 : C < h.objs.size := Heap.lt_size (F.keep C o e); omega
theorem comp2_eval {iter : Expr} {x y : Str} {p0 p1 p2 p3 p4 py : Pos} {k : Int} {kd : Nat} {scope : Scope} {cl : List (Str × Addr)} {pos : Pos} {env : Env} {h₀ : Heap} {L : Addr} {m : Str → Option Value} {Q : Value → Shared → Prop}
    (hclos : closureFor scope env = pure cl) (hcell : ∀ z ∈ scope.names, z.2 ≠ .cell) (hkind : scope.kind = .function) (hnames : ∀ z ∈ scope.names, z.2 = .local → scope.names.lookup z.1 = some .local)
    (hx : scope.names.lookup x = some .local) (hy : scope.names.lookup y = some .local) (hd : (y == ("__debug__" : Str)) = false) (hd' : (x == ("__debug__" : Str)) = false) (hk0 : 0 ≤ k)
    (h : wpAny (model prog w) A (eval iter env) (Src2 A h₀ L m k (fun s₂ ys news => ∀ D h tk, Fr h₀ L h m → News h₀ L h ((D, LCg.lst ys) :: news) → (∀ p ∈ news, p.1 < D) → Q (.ref D) { s₂ with heap := h, toks := tk })) E s)
    (hs : ∀ x, foldedSetIterable iter env x = pure x := by intro _; rfl) :
    wpAny (model prog w) A (eval (two (.Name y py) iter (.Subscript (.Name x p2) (.Constant (.int k) kd p3) p4) x y p0 p1 scope pos) env) Q E s := by
  rw [eval_ListComp]
  refine wpAny_comprehension_free (use := none) rfl hs hclos hkind hnames (wpAny_mono h (fun xv s₁ h₁ => ?_) fun _ _ e => e)
  obtain ⟨ax, an, vs, uss, news, rfl, hh, F, N, hax, hlen, hsz, hitems, fin⟩ := h₁
  refine block2 hh F N hax hlen hsz hk0 hitems hcell hkind hx hy hd hd' ?_
  intro D C h tk m' keep hD hC hCD hn hDl
  obtain ⟨hCL, hC0⟩ := late F hC
  obtain ⟨hDL, hD0⟩ := late F hD
  refine ⟨m', hn, fun h'' hs'' => fin D h'' tk ((F.keeps keep).change hs'' hCL hC0) (fun p hp => ?_) fun p hp => ?_⟩
  · rcases List.mem_cons.mp hp with rfl | hp
    · exact ⟨hs''.extBut _ _ (Ne.symm hCD) hDl, hDL, hD0⟩
    · have e : p.1 < s₁.heap.objs.size := Heap.lt_size (N p hp).1
      exact ⟨hs''.extBut _ _ (Nat.ne_of_lt (Nat.lt_trans e hC)) (keep _ _ (N p hp).1), (N p hp).2⟩
  · exact Nat.lt_trans (Heap.lt_size (N p hp).1) hD
theorem comp2_assign {iter : Expr} {x y z : Str} {p0 p1 p2 p3 p4 py pz : Pos} {k : Int} {kd : Nat} {scope : Scope} {cl : List (Str × Addr)} {pos spos : Pos} {env : Env} {h₀ : Heap} {m : Str → Option Value} {Q : Flow → Shared → Prop}
    (hsw : swapsWith (two (.Name y py) iter (.Subscript (.Name x p2) (.Constant (.int k) kd p3) p4) x y p0 p1 scope pos) (some (.Name z pz)) spos.line env = pure true)
    (hclos : closureFor scope env = pure cl) (hcell : ∀ z ∈ scope.names, z.2 ≠ .cell) (hkind : scope.kind = .function) (hnames : ∀ z ∈ scope.names, z.2 = .local → scope.names.lookup z.1 = some .local)
    (hx : scope.names.lookup x = some .local) (hy : scope.names.lookup y = some .local) (hd : (y == ("__debug__" : Str)) = false) (hd' : (x == ("__debug__" : Str)) = false) (hk0 : 0 ≤ k)
    (hz : env.kindOf z = some .local) (hp : (env.scope.kind == .class || (env.scope.kind == .module && env.locals != env.globals)) = false)
    (h : wpAny (model prog w) A (eval iter env) (Src2 A h₀ env.locals m k (fun s₂ ys news => ∀ D h tk, Fr h₀ env.locals h (fun u => if u = z then some (.ref D) else m u) → News h₀ env.locals h ((D, LCg.lst ys) :: news) → (∀ p ∈ news, p.1 < D) → Q .next { s₂ with heap := h, toks := tk })) E s)
    (hs : ∀ x, foldedSetIterable iter env x = pure x := by intro _; rfl) :
    wpAny (model prog w) A (exec (.Assign [.Name z pz] (two (.Name y py) iter (.Subscript (.Name x p2) (.Constant (.int k) kd p3) p4) x y p0 p1 scope pos) spos) env) Q E s := by
  rw [exec_Assign_Name_used _ _ _ _ hsw]
  refine wpAny_bind (wpAny_standAt (wpAny_bind ?_))
  show wpAny _ A (do let _ ← comprehension (two (.Name y py) iter (.Subscript (.Name x p2) (.Constant (.int k) kd p3) p4) x y p0 p1 scope pos) scope env _ (newList []) false (eval iter env) (some (assign (.Name z pz) env))) _ _ s
  refine wpAny_bind (wpAny_mono (wpAny_comprehension_free (use := some (assign (.Name z pz) env)) (Q := fun _ s' => Q .next s') rfl hs hclos hkind hnames
    (wpAny_mono h (fun xv s₁ h₁ => ?_) fun _ _ e => e)) (fun _ s' hq => wpAny_pure (wpAny_pure hq)) fun _ _ e => e)
  obtain ⟨ax, an, vs, uss, news, rfl, hh, F, N, hax, hlen, hsz, hitems, fin⟩ := h₁
  refine block2 hh F N hax hlen hsz hk0 hitems hcell hkind hx hy hd hd' ?_
  intro D C h tk m' keep hD hC hCD hn hDl
  obtain ⟨hCL, hC0⟩ := late F hC
  obtain ⟨hDL, hD0⟩ := late F hD
  show wpAny _ A (assign (.Name z pz) env (.ref D)) _ _ _
  refine wpAny_assign_Name (wpAny_storeName_local hz (F.keeps keep).ns (fun h₂ hn₂ hs₂ => ?_) hp)
  have F₂ : Fr h₀ env.locals h₂ (fun u => if u = z then some (.ref D) else m u) := (F.keeps keep).set hn₂ hs₂
  refine ⟨m', hn.sameBut hs₂ hCL, fun h'' hs'' => fin D h'' _ (F₂.change hs'' hCL hC0) (fun p hp => ?_) fun p hp => ?_⟩
  · rcases List.mem_cons.mp hp with rfl | hp
    · exact ⟨hs''.extBut _ _ (Ne.symm hCD) (hs₂.extBut _ _ hDL hDl), hDL, hD0⟩
    · have e : p.1 < s₁.heap.objs.size := Heap.lt_size (N p hp).1
      exact ⟨hs''.extBut _ _ (Nat.ne_of_lt (Nat.lt_trans e hC)) (hs₂.extBut _ _ (N p hp).2.1 (keep _ _ (N p hp).1)), (N p hp).2⟩
  · exact Nat.lt_trans (Heap.lt_size (N p hp).1) hD
theorem comp2_evalF {iter : Expr} {x y : Str} {p0 p1 p2 p3 p4 py : Pos} {k : Int} {kd : Nat} {scope : Scope} {cl : List (Str × Addr)} {pos : Pos} {env : Env} {h₀ : Heap} {L : Addr} {m : Str → Option Value} {Q : Value → Shared → Prop}
    (F8 : Fr h₀ L s.heap m) (hclos : closureFor scope env = pure cl) (hcell : ∀ z ∈ scope.names, z.2 ≠ .cell) (hkind : scope.kind = .function) (hnames : ∀ z ∈ scope.names, z.2 = .local → scope.names.lookup z.1 = some .local)
    (hx : scope.names.lookup x = some .local) (hy : scope.names.lookup y = some .local) (hd : (y == ("__debug__" : Str)) = false) (hd' : (x == ("__debug__" : Str)) = false) (hk0 : 0 ≤ k)
    (h : wpAny (model prog w) A (eval iter env) (Src2 A h₀ L m k (fun s₂ ys news => ∀ D h tk, Fr h₀ L h m → News h₀ L h ((D, LCg.lst ys) :: news) → (∀ p ∈ news, p.1 < D) → Q (.ref D) { s₂ with heap := h, toks := tk })) E s)
    (hs : ∀ x, foldedSetIterable iter env x = pure x := by intro _; rfl) :
    wpAny (model prog w) A (eval (two (.Name y py) iter (.Subscript (.Name x p2) (.Constant (.int k) kd p3) p4) x y p0 p1 scope pos) env) Q E s := comp2_eval hclos hcell hkind hnames hx hy hd hd' hk0 h hs
theorem comp2_assignF {iter : Expr} {x y z : Str} {p0 p1 p2 p3 p4 py pz : Pos} {k : Int} {kd : Nat} {scope : Scope} {cl : List (Str × Addr)} {pos spos : Pos} {env : Env} {h₀ : Heap} {m : Str → Option Value} {Q : Flow → Shared → Prop}
    (F8 : Fr h₀ env.locals s.heap m) (hsw : swapsWith (two (.Name y py) iter (.Subscript (.Name x p2) (.Constant (.int k) kd p3) p4) x y p0 p1 scope pos) (some (.Name z pz)) spos.line env = pure true)
    (hclos : closureFor scope env = pure cl) (hcell : ∀ z ∈ scope.names, z.2 ≠ .cell) (hkind : scope.kind = .function) (hnames : ∀ z ∈ scope.names, z.2 = .local → scope.names.lookup z.1 = some .local)
    (hx : scope.names.lookup x = some .local) (hy : scope.names.lookup y = some .local) (hd : (y == ("__debug__" : Str)) = false) (hd' : (x == ("__debug__" : Str)) = false) (hk0 : 0 ≤ k)
    (hz : env.kindOf z = some .local) (hp : (env.scope.kind == .class || (env.scope.kind == .module && env.locals != env.globals)) = false)
    (h : wpAny (model prog w) A (eval iter env) (Src2 A h₀ env.locals m k (fun s₂ ys news => ∀ D h tk, Fr h₀ env.locals h (fun u => if u = z then some (.ref D) else m u) → News h₀ env.locals h ((D, LCg.lst ys) :: news) → (∀ p ∈ news, p.1 < D) → Q .next { s₂ with heap := h, toks := tk })) E s)
    (hs : ∀ x, foldedSetIterable iter env x = pure x := by intro _; rfl) :
    wpAny (model prog w) A (exec (.Assign [.Name z pz] (two (.Name y py) iter (.Subscript (.Name x p2) (.Constant (.int k) kd p3) p4) x y p0 p1 scope pos) spos) env) Q E s := comp2_assign hsw hclos hcell hkind hnames hx hy hd hd' hk0 hz hp h hs
end
end
section
-- the law's text, part by part
def bodyOf : Stmt → List Stmt
  | .FunctionDef _ _ b _ _ _ _ _ _ _ => b
  | .For _ _ b _ _ => b
  | .If _ b _ _ => b
  | _ => []
def elseOf : Stmt → List Stmt
  | .If _ _ e _ => e
  | _ => []
def scopeOf : Stmt → Scope
  | .FunctionDef _ _ _ _ _ _ s _ _ _ => s
  | _ => default
def nth : List Stmt → Nat → Stmt
  | [], _ => .Pass default
  | s :: _, 0 => s
  | _ :: r, k + 1 => nth r k
noncomputable def lawS : Stmt := nth PySem.Challenge.pw_on0160_01.main.body 14
noncomputable def lawB : List Stmt := bodyOf lawS
noncomputable def turnB : List Stmt := bodyOf (nth lawB 5)
noncomputable def shiftB : List Stmt := bodyOf (nth turnB 1)
noncomputable def recB : List Stmt := bodyOf (nth (elseOf (nth turnB 1)) 0)
noncomputable def redB : List Stmt := elseOf (nth (elseOf (nth turnB 1)) 0)
noncomputable def lawScope : Scope := scopeOf lawS
noncomputable abbrev lawEnv (L fa : Addr) (cd : Value) : Env := envOf (Str.ofString "law") lawScope L fa cd
-- the plain pile's entry for a tree
def lvD (l : List (Str × Str)) : List Dat := l.map fun q => .tuple [.str q.1, .str q.2]
def rdD (l : List Int) : List Dat := l.map .int
def pd (t : T) : Dat := .tuple [shape t, .list (lvD (lv t)), .list (rdD (rd t))]
def PenAt (o : Obj) (c : Addr) (b : Int) : Prop := ∃ g tg x tx p tp n, o = penObj c g tg x tx p tp n ∧ 0 ≤ g ∧ g < 10 ^ 240 ∧ 0 ≤ x ∧ x < 2147483647 ∧ 0 ≤ p ∧ p ≤ b
def Fixed (rest : Led) (c hdl ll : Addr) : Prop :=
  (∃ cells cvs cn, (c, listOf (List.toArray cvs) cn) ∈ rest ∧ IntsAre cvs cells ∧ cells.length ≤ 48) ∧
  (∃ hdd hh ht hn, (hdl, instObj 229 hdd) ∈ rest ∧ (hdd, dictOf [⟨hh, .str (Str.ofString "names") ht, .ref 246⟩] hn) ∈ rest) ∧
  (∃ l1 l2 l4 t0 t1 t2 t3 t4 ln, (ll, listOf #[.int 0 t0, .int l1 t1, .int l2 t2, .int 0 t3, .int l4 t4] ln) ∈ rest ∧ 0 ≤ l1 ∧ l1 ≤ 3 ∧ 0 ≤ l2 ∧ l2 ≤ 2 ∧ 1 ≤ l4 ∧ l4 ≤ 2)
theorem Fixed.mono {rest rest' : Led} {c hdl ll : Addr} (hs : ∀ p ∈ rest, p ∈ rest') : Fixed rest c hdl ll → Fixed rest' c hdl ll := by
  rintro ⟨⟨a, b, d, h1, r1⟩, ⟨e, f, g, h, h2, h3⟩, ⟨i, j, k, l, m, n, o, p, q, h4, r4⟩⟩
  exact ⟨⟨a, b, d, hs _ h1, r1⟩, ⟨e, f, g, h, hs _ h2, hs _ h3⟩, ⟨i, j, k, l, m, n, o, p, q, hs _ h4, r4⟩⟩
def LawJ (b : Int) (k : Nat) (m : Str → Option Value) (nx : Led) : Prop :=
  ∃ pen c hdl ll vl pl po vvs vn pvs pn ts rest, nx = (pen, po) :: (vl, listOf (List.toArray vvs) vn) :: (pl, listOf (List.toArray pvs) pn) :: rest ∧ PenAt po c b ∧ Fixed rest c hdl ll ∧ OwnOff rest [pen, vl, pl] ∧
    @Ne Nat pen vl ∧ @Ne Nat pen pl ∧ @Ne Nat vl pl ∧ TreesIn rest vvs ts ∧ DatAll rest pvs (ts.map pd) ∧ (rpL ts).length ≤ k ∧
    m (Str.ofString "pen") = some (.ref pen) ∧ m (Str.ofString "handler") = some (.ref hdl) ∧ m (Str.ofString "lengths") = some (.ref ll) ∧ m (Str.ofString "values") = some (.ref vl) ∧ m (Str.ofString "plain") = some (.ref pl)
theorem frOnL {h₀ h : Heap} {L : Addr} {m : Str → Option Value} {ps : List (Str × Value)} (F : Fr h₀ L h m) (e : ∀ p ∈ ps, m p.1 = some p.2) : Fr h₀ L h (kstB m ps) := by
  have q : kstB m ps = m := funext fun z => kstB_eq e fun _ => rfl
  rw [q]; exact F
theorem pd_open {n0 : Led} {u : Value} {t : T} (h : DatIn n0 u (pd t)) : ∃ a n sv l1 k1 vs1 l2 k2 vs2, u = .ref a ∧ (a, ({ cls := .type "tuple", data := .seq (List.toArray [sv, Value.ref l1, Value.ref l2]) n } : Obj)) ∈ n0 ∧ DatIn n0 sv (shape t) ∧
    (l1, listOf (List.toArray vs1) k1) ∈ n0 ∧ DatAll n0 vs1 (lvD (lv t)) ∧ (l2, listOf (List.toArray vs2) k2) ∈ n0 ∧ DatAll n0 vs2 (rdD (rd t)) := by
  unfold pd at h
  cases h with
  | tuple hm hall =>
    cases hall with
    | cons d1 r =>
      cases r with
      | cons d2 r =>
        cases r with
        | cons d3 r =>
          cases r
          cases d2 with
          | list m2 a2 =>
            cases d3 with
            | list m3 a3 => exact ⟨_, _, _, _, _, _, _, _, _, rfl, hm, d1, m2, a2, m3, a3⟩
theorem DatAll_get {n0 : Led} {vs : List Value} : ∀ {ds : List Dat} {i : Nat} {v : Value}, DatAll n0 vs ds → vs[i]? = some v → ∃ d, ds[i]? = some d ∧ DatIn n0 v d := by
  induction vs with
  | nil => intro ts i v _ e; cases e
  | cons u vs ih =>
    intro ts i v h e
    cases h with
    | cons h r =>
      cases i with
      | zero => cases e; exact ⟨_, rfl, h⟩
      | succ i => have q := ih r (i := i) (v := v) (by simpa using e); simpa using q
theorem lvD_append (a b : List (Str × Str)) : lvD (a ++ b) = lvD a ++ lvD b := by simp [lvD]
theorem rdD_append (a b : List Int) : rdD (a ++ b) = rdD a ++ rdD b := by simp [rdD]
theorem ints_of_dats {n0 : Led} {vs : List Value} : ∀ {l : List Int}, DatAll n0 vs (rdD l) → IntsAre vs l := by
  induction vs with
  | nil =>
    intro l h
    cases l with
    | nil => exact .nil
    | cons _ _ => cases h
  | cons v vs ih =>
    intro l h
    cases l with
    | nil => cases h
    | cons i l =>
      cases h with
      | cons h r =>
        cases h
        exact .cons i _ (ih r)
theorem dats_of_ints {n0 : Led} {vs : List Value} {l : List Int} (h : IntsAre vs l) : DatAll n0 vs (rdD l) := by
  induction h with
  | nil => exact .nil
  | cons i t r ih => exact .cons (.int i t) ih
/-- the parts' lists of leaves, one behind the other -/
theorem parts_lv {n0 : Led} {vs : List Value} : ∀ {cs : List T}, DatAll n0 vs (cs.map pd) → ∃ uss : List (List Value), vs.length = uss.length ∧ DatAll n0 uss.flatten (lvD (lvL cs)) ∧
    ∀ (i : Nat) (v : Value) (us : List Value), vs[i]? = some v → uss[i]? = some us → ∃ a tvs tn l ln, v = .ref a ∧ (a, ({ cls := .type "tuple", data := .seq (List.toArray tvs) tn } : Obj)) ∈ n0 ∧ tvs.length ≤ 1000 ∧ tvs[(1 : Int).toNat]? = some (.ref l) ∧ (l, listOf us.toArray ln) ∈ n0 := by
  induction vs with
  | nil =>
    intro cs h
    cases cs with
    | nil => exact ⟨[], rfl, by simpa [lvL, lvD] using DatAll.nil, fun i v us e => by cases e⟩
    | cons _ _ => cases h
  | cons v vs ih =>
    intro cs h
    cases cs with
    | nil => cases h
    | cons c cs =>
      cases h with
      | cons h r =>
        obtain ⟨uss, e1, e2, e3⟩ := ih r
        obtain ⟨a, n, sv, l1, k1, vs1, l2, k2, vs2, rfl, hm, hs, hl1, ha1, hl2, ha2⟩ := pd_open h
        refine ⟨vs1 :: uss, by simp [e1], ?_, ?_⟩
        · rw [lvL, lvD_append]
          exact DatAll.append ha1 e2
        · intro i v us hv hus
          cases i with
          | zero => cases hv; cases hus; exact ⟨_, _, _, _, _, rfl, hm, by simp, rfl, hl1⟩
          | succ i => exact e3 i v us (by simpa using hv) (by simpa using hus)
theorem parts_rd {n0 : Led} {vs : List Value} : ∀ {cs : List T}, DatAll n0 vs (cs.map pd) → ∃ uss : List (List Value), vs.length = uss.length ∧ IntsAre uss.flatten (rdL cs) ∧
    ∀ (i : Nat) (v : Value) (us : List Value), vs[i]? = some v → uss[i]? = some us → ∃ a tvs tn l ln, v = .ref a ∧ (a, ({ cls := .type "tuple", data := .seq (List.toArray tvs) tn } : Obj)) ∈ n0 ∧ tvs.length ≤ 1000 ∧ tvs[(2 : Int).toNat]? = some (.ref l) ∧ (l, listOf us.toArray ln) ∈ n0 := by
  induction vs with
  | nil =>
    intro cs h
    cases cs with
    | nil => exact ⟨[], rfl, by simpa [rdL] using IntsAre.nil, fun i v us e => by cases e⟩
    | cons _ _ => cases h
  | cons v vs ih =>
    intro cs h
    cases cs with
    | nil => cases h
    | cons c cs =>
      cases h with
      | cons h r =>
        obtain ⟨uss, e1, e2, e3⟩ := ih r
        obtain ⟨a, n, sv, l1, k1, vs1, l2, k2, vs2, rfl, hm, hs, hl1, ha1, hl2, ha2⟩ := pd_open h
        refine ⟨vs2 :: uss, by simp [e1], ?_, ?_⟩
        · rw [rdL]
          exact IntsAre.append (ints_of_dats ha2) e2
        · intro i v us hv hus
          cases i with
          | zero => cases hv; cases hus; exact ⟨_, _, _, _, _, rfl, hm, by simp, rfl, hl2⟩
          | succ i => exact e3 i v us (by simpa using hv) (by simpa using hus)
theorem lv_len : ∀ t : T, (lv t).length + (rd t).length = (rp t).length
  | .leaf k x => by simp [lv, rd, rp]
  | .node nm r cs => by
    have h := lvL_len cs
    simp only [lv, rd, rp, List.length_append, List.length_cons, List.length_nil]
    omega
where lvL_len : ∀ cs : List T, (lvL cs).length + (rdL cs).length = (rpL cs).length
  | [] => by simp [lvL, rdL, rpL]
  | c :: cs => by
    have h1 := lv_len c
    have h2 := lvL_len cs
    simp only [lvL, rdL, rpL, List.length_append]
    omega
end
section
theorem law_fin {h₀ h' : Heap} {L : Addr} {m' : Str → Option Value} {led nw rest own : Led} {pen c hdl ll vl pl : Addr} {po : Obj} {vvs pvs : List Value} {vn pn : Nat} {ts : List T} {b : Int} {k : Nat}
    (N : News h₀ L h' led) (h1 : (pen, po) ∈ led) (h2 : (vl, listOf vvs.toArray vn) ∈ led) (h3 : (pl, listOf pvs.toArray pn) ∈ led) (h4 : ∀ p ∈ nw, p ∈ led) (h5 : ∀ p ∈ rest ++ own, p ∈ led)
    (hp : PenAt po c b) (hf : Fixed rest c hdl ll) (o1 : OwnOff (rest ++ own) [pen, vl, pl]) (o2 : ∀ q ∈ nw, (@Ne Nat q.1 pen) ∧ (@Ne Nat q.1 vl) ∧ (@Ne Nat q.1 pl)) (o3 : ∀ q ∈ nw, ∀ p ∈ own, p.1 ≠ q.1) (o4 : OwnOff own (rest.map (·.1)))
    (n1 : @Ne Nat pen vl) (n2 : @Ne Nat pen pl) (n3 : @Ne Nat vl pl) (hv : TreesIn (nw ++ rest) vvs ts) (hd : DatAll (nw ++ rest) pvs (ts.map pd)) (hk : (rpL ts).length ≤ k)
    (e1 : m' (Str.ofString "pen") = some (.ref pen)) (e2 : m' (Str.ofString "handler") = some (.ref hdl)) (e3 : m' (Str.ofString "lengths") = some (.ref ll)) (e4 : m' (Str.ofString "values") = some (.ref vl)) (e5 : m' (Str.ofString "plain") = some (.ref pl)) :
    ∃ nx', News h₀ L h' (nx' ++ own) ∧ OwnOff own (nx'.map (·.1)) ∧ LawJ b k m' nx' := by
  refine ⟨(pen, po) :: (vl, listOf (List.toArray vvs) vn) :: (pl, listOf (List.toArray pvs) pn) :: (nw ++ rest), ?_, ?_, pen, c, hdl, ll, vl, pl, po, vvs, vn, pvs, pn, ts, nw ++ rest, rfl, hp, hf.mono (fun p hp => List.mem_append.mpr (.inr hp)), ?_, n1, n2, n3, hv, hd, hk, e1, e2, e3, e4, e5⟩
  · intro p hp
    simp only [List.cons_append] at hp
    rcases List.mem_cons.mp hp with h | hp
    · exact N _ (h ▸ h1)
    · rcases List.mem_cons.mp hp with h | hp
      · exact N _ (h ▸ h2)
      · rcases List.mem_cons.mp hp with h | hp
        · exact N _ (h ▸ h3)
        · rcases List.mem_append.mp hp with h | hp
          · rcases List.mem_append.mp h with h | h
            · exact N _ (h4 _ h)
            · exact N _ (h5 _ (List.mem_append.mpr (.inl h)))
          · exact N _ (h5 _ (List.mem_append.mpr (.inr hp)))
  · intro p hp z hz
    have q := o1 p (List.mem_append.mpr (.inr hp))
    simp only [List.map_cons, List.map_append] at hz
    rcases List.mem_cons.mp hz with h | hz
    · exact q z (h ▸ .head _)
    · rcases List.mem_cons.mp hz with h | hz
      · exact q z (h ▸ .tail _ (.head _))
      · rcases List.mem_cons.mp hz with h | hz
        · exact q z (h ▸ .tail _ (.tail _ (.head _)))
        · rcases List.mem_append.mp hz with h | h
          · obtain ⟨y, hy, rfl⟩ := List.mem_map.mp h
            exact o3 y hy p hp
          · exact o4 p hp z h
  · intro p hp z hz
    rcases List.mem_append.mp hp with h | h
    · obtain ⟨a1, a2, a3⟩ := o2 p h
      simp only [List.mem_cons, List.not_mem_nil, or_false] at hz
      rcases hz with rfl | rfl | rfl
      · exact a1
      · exact a2
      · exact a3
    · exact o1 p (List.mem_append.mpr (.inl h)) z hz
end
section
theorem leaf_fin {h₀ h' : Heap} {L : Addr} {m' : Str → Option Value} {led rest own : Led} {pen c hdl ll vl pl P Nm Lv T2 S ch x d x1 d1 : Addr} {po : Obj} {vvs pvs : List Value} {vn pn n1 n2 n3 n4 n5 n6 n7 n8 : Nat} {ts : List T} {b : Int} {k : Nat}
    {kd tx : Str} {a1 a2 a3 a4 b1 b2 b3 b4 c1 c2 e1 e2 e3 e4 e5 e6 : Tok} {g1 g2 g3 g4 f1 f2 f3 f4 : Int} {at_ worth : Value}
    (F8 : Fr h₀ L h' m') (N : News h₀ L h' led) (hpl : (pl, listOf (pvs ++ [Value.ref P]).toArray pn) ∈ led) (hvl : (vl, listOf (vvs ++ [Value.ref x]).toArray vn) ∈ led)
    (m1 : (P, ({ cls := .type "tuple", data := .seq #[.ref S, .ref Lv, .ref Nm] n1 } : Obj)) ∈ led) (m2 : (Nm, listOf (List.toArray ([] : List Value)) n2) ∈ led) (m3 : (Lv, listOf #[Value.ref T2] n3) ∈ led)
    (m4 : (T2, ({ cls := .type "tuple", data := .seq #[.str kd a1, .str tx a2] n4 } : Obj)) ∈ led) (m5 : (S, ({ cls := .type "tuple", data := .seq #[.str kd a3, .str tx a4] n5 } : Obj)) ∈ led)
    (m6 : (ch, listOf (List.toArray ([] : List Value)) n6) ∈ led) (m7 : (x, instObj 182 d) ∈ led) (m8 : (d, leafDict g1 g2 g3 g4 b1 b2 b3 b4 kd c1 c2 ch x1 n7) ∈ led) (m9 : (x1, instObj 81 d1) ∈ led) (m10 : (d1, tokDict f1 f2 f3 f4 e1 e2 e3 e4 kd e5 tx e6 at_ worth n8) ∈ led)
    (hpen : (pen, po) ∈ led) (hR : ∀ p ∈ rest ++ own, p ∈ led)
    (hl : ∀ a ∈ [P, Nm, Lv, T2, S, ch, x, d, x1, d1], AllLt a (rest ++ own)) (hn : ∀ a ∈ [P, Nm, Lv, T2, S, ch, x, d, x1, d1], (@Ne Nat a pen) ∧ (@Ne Nat a vl) ∧ (@Ne Nat a pl))
    (hp : PenAt po c b) (hf : Fixed rest c hdl ll) (o1 : OwnOff (rest ++ own) [pen, vl, pl]) (o4 : OwnOff own (rest.map (·.1)))
    (q1 : @Ne Nat pen vl) (q2 : @Ne Nat pen pl) (q3 : @Ne Nat vl pl) (hv : TreesIn rest vvs ts) (hd : DatAll rest pvs (ts.map pd)) (hk : (rpL ts).length ≤ k)
    (w1 : m' (Str.ofString "pen") = some (.ref pen)) (w2 : m' (Str.ofString "handler") = some (.ref hdl)) (w3 : m' (Str.ofString "lengths") = some (.ref ll)) (w4 : m' (Str.ofString "values") = some (.ref vl)) (w5 : m' (Str.ofString "plain") = some (.ref pl)) :
    ∃ nx', News h₀ L h' (nx' ++ own) ∧ OwnOff own (nx'.map (·.1)) ∧ LawJ b (k + 1) m' nx' := by
  have hsub : ∀ p ∈ rest, p ∈ [(P, ({ cls := .type "tuple", data := .seq #[.ref S, .ref Lv, .ref Nm] n1 } : Obj)), (Nm, listOf (List.toArray ([] : List Value)) n2), (Lv, listOf #[Value.ref T2] n3), (T2, ({ cls := .type "tuple", data := .seq #[.str kd a1, .str tx a2] n4 } : Obj)), (S, ({ cls := .type "tuple", data := .seq #[.str kd a3, .str tx a4] n5 } : Obj)), (ch, listOf (List.toArray ([] : List Value)) n6), (x, instObj 182 d), (d, leafDict g1 g2 g3 g4 b1 b2 b3 b4 kd c1 c2 ch x1 n7), (x1, instObj 81 d1), (d1, tokDict f1 f2 f3 f4 e1 e2 e3 e4 kd e5 tx e6 at_ worth n8)] ++ rest :=
    fun p hp => List.mem_append.mpr (.inr hp)
  refine law_fin (ts := ts ++ [.leaf kd tx]) (nw := [(P, ({ cls := .type "tuple", data := .seq #[.ref S, .ref Lv, .ref Nm] n1 } : Obj)), (Nm, listOf (List.toArray ([] : List Value)) n2), (Lv, listOf #[Value.ref T2] n3), (T2, ({ cls := .type "tuple", data := .seq #[.str kd a1, .str tx a2] n4 } : Obj)), (S, ({ cls := .type "tuple", data := .seq #[.str kd a3, .str tx a4] n5 } : Obj)), (ch, listOf (List.toArray ([] : List Value)) n6), (x, instObj 182 d), (d, leafDict g1 g2 g3 g4 b1 b2 b3 b4 kd c1 c2 ch x1 n7), (x1, instObj 81 d1), (d1, tokDict f1 f2 f3 f4 e1 e2 e3 e4 kd e5 tx e6 at_ worth n8)])
    N hpen hvl hpl ?z1 hR hp hf o1 ?z3 ?z4 o4 q1 q2 q3 ?z5 ?z6 ?z7 w1 w2 w3 w4 w5
  case z1 =>
    intro p hp
    simp only [List.mem_cons, List.not_mem_nil, or_false] at hp
    rcases hp with rfl | rfl | rfl | rfl | rfl | rfl | rfl | rfl | rfl | rfl <;> assumption
  case z3 =>
    intro p hp
    refine hn p.1 ?_
    exact List.mem_map.mpr ⟨p, hp, rfl⟩
  case z4 =>
    intro q hq p hp
    have h := hl q.1 (List.mem_map.mpr ⟨q, hq, rfl⟩)
    exact Nat.ne_of_lt (tb_ltOf h p (List.mem_append.mpr (.inr hp)))
  case z5 => exact TreesIn.append (.cons (.leaf (.tail _ (.tail _ (.tail _ (.tail _ (.tail _ (.tail _ (.head _))))))) (.tail _ (.tail _ (.tail _ (.tail _ (.tail _ (.tail _ (.tail _ (.head _)))))))) (.tail _ (.tail _ (.tail _ (.tail _ (.tail _ (.head _)))))) (.mk (.tail _ (.tail _ (.tail _ (.tail _ (.tail _ (.tail _ (.tail _ (.tail _ (.head _))))))))) (.tail _ (.tail _ (.tail _ (.tail _ (.tail _ (.tail _ (.tail _ (.tail _ (.tail _ (.head _)))))))))))) .nil) (hv.mono hsub)
  case z6 =>
    rw [List.map_append]
    refine DatAll.append (hd.mono hsub) (DatAll.one ?_)
    rw [pd, shape, lv, rd]
    exact DatIn.tuple (vs := [_, _, _]) (.head _) (.cons (.tuple (vs := [_, _]) (.tail _ (.tail _ (.tail _ (.tail _ (.head _))))) (.cons (.str _ _) (.cons (.str _ _) .nil))) (.cons (.list (vs := [_]) (.tail _ (.tail _ (.head _))) (DatAll.one (.tuple (vs := [_, _]) (.tail _ (.tail _ (.tail _ (.head _)))) (.cons (.str _ _) (.cons (.str _ _) .nil))))) (.cons (.list (.tail _ (.head _)) .nil) .nil)))
  case z7 =>
    rw [rpL_append, List.length_append]
    simp only [rpL, rp, List.nil_append, List.length_cons, List.length_nil]
    omega
theorem allLt_up {d a : Addr} {l : Led} (h : d < a) (H : AllLt d l) : AllLt a l := allLt_of fun p hp => Nat.lt_trans (tb_ltOf H p hp) h
theorem LawJ.mono {b b' : Int} {k k' : Nat} {m : Str → Option Value} {nx : Led} (h : b ≤ b') (h' : k ≤ k') (J : LawJ b k m nx) : LawJ b' k' m nx := by
  obtain ⟨pen, c, hdl, ll, vl, pl, po, vvs, vn, pvs, pn, ts, rest, rfl, ⟨g, tg, x, tx, p, tp, n, rfl, hg0, hg1, hx0, hx1, hp0, hp1⟩, r1, r2, r3, r4, r5, r6, r7, r8, r⟩ := J
  exact ⟨pen, c, hdl, ll, vl, pl, _, vvs, vn, pvs, pn, ts, rest, rfl, ⟨g, tg, x, tx, p, tp, n, rfl, hg0, hg1, hx0, hx1, hp0, Int.le_trans hp1 h⟩, r1, r2, r3, r4, r5, r6, r7, Nat.le_trans r8 h', r⟩
end
section
mutual
def dep : Dat → Nat
  | .tuple ds => depL ds + 1
  | .list ds => depL ds + 1
  | .bytes _ => 100000
  | _ => 0
def depL : List Dat → Nat
  | [] => 0
  | d :: ds => dep d + depL ds
end
section
variable {h₀ : Heap} {L : Addr} {s : Shared} {news : Led}
mutual
theorem eqAt_dat (N : News h₀ L s.heap news) : ∀ (d : Dat) (A : Around) (v u : Value), DatIn news v d → DatIn news u d → A.units + dep d < cLine → SeqAt.EqAt A s v u true
  | .none, A, _, _, .none, .none, _ => SeqAt.EqAt.same _
  | .bool b, A, _, _, .bool _, .bool _, _ => SeqAt.EqAt.same _
  | .int i, A, _, _, .int _ t, .int _ u, _ => by have h := SeqAt.EqAt.int_int (A := A) (s := s) i t i u; rw [beq_self_eq_true] at h; exact h
  | .str x, A, _, _, .str _ t, .str _ u, _ => by have h := SeqAt.EqAt.str_str (A := A) (s := s) x t x u; rw [beq_self_eq_true] at h; exact h
  | .bytes b, A, _, _, _, _, hu => by
    have e : cLine = 9900 := rfl
    rw [dep] at hu
    omega
  | .tuple ds, A, _, _, .tuple (a := a) (vs := vs) m1 r1, .tuple (a := b) (vs := us) m2 r2, hu => by
    rw [dep] at hu
    by_cases hab : a = b
    · subst hab; exact SeqAt.EqAt.same _
    · have hl : vs.length = us.length := by rw [r1.length, r2.length]
      have q := SeqAt.RcAt.tuples (A := A) (s := s) (l := a) (b := b) (items := vs.toArray) (items2 := us.toArray) (e := fun _ => true) ⟨_, (N _ m1).1, rfl, _, rfl⟩ ⟨_, (N _ m2).1, rfl, _, rfl⟩ (by omega) fun j j1 j2 => by
        have := eqAt_dats N ds A.in1 vs us r1 r2 (by rw [units_in1]; omega) j (by simpa using j1) (by simpa using j2)
        simpa using this
      have e : ((List.range (min vs.toArray.size us.toArray.size)).all (fun _ => true) && vs.toArray.size == us.toArray.size) = true := by simp [hl]
      rw [e] at q
      exact SeqAt.EqAt.of_refs hab q
  | .list ds, A, _, _, .list (a := a) (vs := vs) m1 r1, .list (a := b) (vs := us) m2 r2, hu => by
    rw [dep] at hu
    by_cases hab : a = b
    · subst hab; exact SeqAt.EqAt.same _
    · have hl : vs.length = us.length := by rw [r1.length, r2.length]
      have q := SeqAt.RcAt.lists (A := A) (s := s) (l := a) (b := b) (items := vs.toArray) (items2 := us.toArray) (e := fun _ => true) ⟨_, (N _ m1).1, rfl, _, rfl⟩ ⟨_, (N _ m2).1, rfl, _, rfl⟩ (by simpa using hl) (by omega) fun j j1 j2 => by
        have := eqAt_dats N ds A.in1 vs us r1 r2 (by rw [units_in1]; omega) j (by simpa using j1) (by simpa using j2)
        simpa using this
      have e : ((List.range vs.toArray.size).all (fun _ => true)) = true := by simp
      rw [e] at q
      exact SeqAt.EqAt.of_refs hab q
theorem eqAt_dats (N : News h₀ L s.heap news) : ∀ (ds : List Dat) (A : Around) (vs us : List Value), DatAll news vs ds → DatAll news us ds → A.units + depL ds < cLine → ∀ j (h1 : j < vs.length) (h2 : j < us.length), SeqAt.EqAt A s vs[j] us[j] true
  | [], A, _, _, .nil, .nil, _, j, h1, _ => absurd h1 (Nat.not_lt_zero _)
  | d :: ds, A, _, _, .cons x1 r1, .cons x2 r2, hu, j, h1, h2 => by
    rw [depL] at hu
    cases j with
    | zero => exact eqAt_dat N d A _ _ x1 x2 (by omega)
    | succ j => exact eqAt_dats N ds A _ _ r1 r2 (by omega) j (Nat.lt_of_succ_lt_succ h1) (Nat.lt_of_succ_lt_succ h2)
end
variable {w : World} {A : Around} {E : Value → Shared → Prop} {Q : Value → Shared → Prop}
theorem ne_dats {a b : Addr} {vs us : List Value} {ds : List Dat} {k1 k2 : Nat} (N : News h₀ L s.heap news) (ma : (a, listOf vs.toArray k1) ∈ news) (mb : (b, listOf us.toArray k2) ∈ news) (ha : DatAll news vs ds) (hb : DatAll news us ds) (hu : A.units + depL ds + 1 < cLine) (h : Q (.bool false) s) :
    wpAny (model prg w) A (compareOp .NotEq (.ref a) (.ref b)) Q E s := by
  have hl : vs.length = us.length := by rw [ha.length, hb.length]
  refine cmp_ofNotEq (SeqAt.RcNeAt.lists (e := fun _ => true) (N.isList ma) (N.isList mb) (by simpa using hl) (by omega) (fun j j1 j2 => ?_) _ w E Q ?_)
  · have := eqAt_dats N ds A.in1 vs us ha hb (by rw [units_in1]; omega) j (by simpa using j1) (by simpa using j2)
    simpa using this
  · have e : (!(List.range vs.toArray.size).all fun _ => true) = false := by simp
    rw [e]; exact h
theorem eq_dats {a b : Addr} {vs us : List Value} {ds : List Dat} {k1 k2 : Nat} (N : News h₀ L s.heap news) (ma : (a, listOf vs.toArray k1) ∈ news) (mb : (b, listOf us.toArray k2) ∈ news) (ha : DatAll news vs ds) (hb : DatAll news us ds) (hu : A.units + depL ds + 1 < cLine) (h : Q (.bool true) s) :
    wpAny (model prg w) A (compareOp .Eq (.ref a) (.ref b)) Q E s := by
  have hl : vs.length = us.length := by rw [ha.length, hb.length]
  refine cmp_ofEq (SeqAt.RcAt.lists (e := fun _ => true) (N.isList ma) (N.isList mb) (by simpa using hl) (by omega) (fun j j1 j2 => ?_) _ w E Q ?_)
  · have := eqAt_dats N ds A.in1 vs us ha hb (by rw [units_in1]; omega) j (by simpa using j1) (by simpa using j2)
    simpa using this
  · have e : ((List.range vs.toArray.size).all fun _ => true) = true := by simp
    rw [e]; exact h
end
-- how deep the law's lists are
theorem depL_append (a b : List Dat) : depL (a ++ b) = depL a + depL b := by
  induction a with
  | nil => simp [depL]
  | cons c cs ih => simp [depL, ih]; omega
mutual
theorem dep_shape : ∀ t : T, dep (shape t) ≤ (rp t).length
  | .leaf k x => by simp [shape, dep, depL, rp]
  | .node nm r cs => by
    have h := depL_shapeL cs
    simp only [shape, dep, depL, rp, List.length_cons]
    omega
theorem depL_shapeL : ∀ cs : List T, depL (shapeL cs) ≤ (rpL cs).length
  | [] => by simp [shapeL, depL, rpL]
  | c :: cs => by
    have h1 := dep_shape c
    have h2 := depL_shapeL cs
    simp only [shapeL, depL, rpL, List.length_append]
    omega
end
theorem depL_lvD (l : List (Str × Str)) : depL (lvD l) = l.length := by
  induction l with
  | nil => rfl
  | cons a l ih => simp [lvD, depL, dep] at *; omega
theorem depL_rdD (l : List Int) : depL (rdD l) = 0 := by
  induction l with
  | nil => rfl
  | cons a l ih => simp [rdD, depL, dep] at *; omega
def lvT (t : T) : Dat := .list (lvD (lv t))
def rdT (t : T) : Dat := .list (rdD (rd t))
theorem depL_lvT (ts : List T) : depL (ts.map lvT) ≤ 2 * (rpL ts).length := by
  induction ts with
  | nil => simp [depL]
  | cons c cs ih =>
    have h1 := lv_len c
    have h2 := rp_pos c
    simp only [List.map_cons, depL, lvT, dep, depL_lvD, rpL, List.length_append]
    omega
theorem depL_rdT (ts : List T) : depL (ts.map rdT) ≤ (rpL ts).length := by
  induction ts with
  | nil => simp [depL]
  | cons c cs ih =>
    have h2 := rp_pos c
    simp only [List.map_cons, depL, rdT, dep, depL_rdD, rpL, List.length_append]
    omega
theorem off3_append {I C D : Addr} {tl nw : Led} (h : ∀ p ∈ tl, (@Ne Nat p.1 I) ∧ (@Ne Nat p.1 C) ∧ (@Ne Nat p.1 D)) (k : LCg.Off3 I C D nw) : LCg.Off3 I C D (tl ++ nw) := by
  induction tl with
  | nil => exact k
  | cons p r ih => exact ⟨h p (.head _), ih fun q hq => h q (.tail _ hq)⟩
end
section
theorem modeE2 : PySem.Challenge.rw_on0160_01 = PySem.Challenge.rw_on0160_01 ∧ hd.heap_39 = hd.heap_39 := by
  k_fill
  w_top off
  exact ⟨rfl, rfl⟩
local macro_rules | `(tactic| walk_at "eval ListComp") => `(tactic| (k_here; k_dflt (refine LCg.ListComp_U (F₀ := by k_asm) (by with_unfolding_all rfl) (by decide) (by rfl) (by decide) (by rfl) ?_)))
theorem shapeL_taken {cs : List T} {i : Nat} {c : T} (h : cs[i]? = some c) : shapeL (cs.take (i + 1)) = shapeL (cs.take i) ++ [shape c] := by
  rw [List.take_add_one, h, shapeL_append]
  simp [shapeL]
theorem rp_le {ts : List T} {t : T} {i : Nat} (h : ts[i]? = some t) : (rp t).length ≤ (rpL ts).length := by
  induction ts generalizing i with
  | nil => cases h
  | cons c cs ih =>
    simp only [rpL, List.length_append]
    cases i with
    | zero => cases h; omega
    | succ i => have := ih (i := i) (by simpa using h); omega
/-- the turns' own ledger: what stood, and above it what the turns made -/
def Grown (n0 : Led) (P : Led → Prop) (nw : Led) : Prop := ∃ tl, nw = tl ++ n0 ∧ (∀ q ∈ n0, ∀ p ∈ tl, q.1 < p.1) ∧ P nw
set_option maxHeartbeats 8000000 in
theorem lawtold_ok {w : World} {dp un : Nat} {gd : Option (List Code)} {cn : Str} {cs : Scope} {a : Addr} {ccd : Value} {cl : List (Str × Addr)} {outer : List Env} {A₀ : Around} {base h₀ : Heap} {L : Addr} {m : Str → Option Value}
    {mean : ExcName → Option Value} {mg mb : Str → Option Value} {s : Shared} {Q E : Value → Shared → Prop}
    {vl : Addr} {vvs : List Value} {vn : Nat} {ts : List T} {news : Led}
    (B : Below A₀ base outer h₀) (F : Fr h₀ L s.heap m) (X : (hd.heap_39 w.params).In h₀) (N : News h₀ L s.heap news) (T : Top hd.view_39 lse mean mg mb h₀) (hk : cs.kind = .function)
    (hvl : (vl, listOf vvs.toArray vn) ∈ news) (R : TreesIn news vvs ts) (hsz : (rpL ts).length ≤ 100)
    (hdp : dp + 16 < recursionLimit) (hun : un + 128 < cLine)
    (ret : ∀ r rvs rn tl h' tk', Fr h₀ L h' m → News h₀ L h' ((r, listOf (List.toArray rvs) rn) :: (tl ++ news)) → DatAll tl rvs (shapeL ts) → Q (.ref r) { s with heap := h', toks := tk' }) :
    wpAny (model prg w) (ktrTop dp un gd cn cs L a ccd cl outer) (call (.ref 251) [.ref vl]) Q E s := by
  have hvl9 := R.length
  have hrl := rpL_len ts
  refine wpAny_call ?_
  k_dflt ktr_enter
  k_steps
  rename News _ _ _ _ => N1
  rename Fr _ _ _ _ => F1
  refine LCg.CompSrc.ledger rfl F1 N1 hvl (by rw [sizeLine_eq]; simp; omega) ?_
  intro g
  refine restU_run (n := vvs.toArray.size) (fun i ys nw => ∃ tl, nw = tl ++ news ∧ DatAll tl ys (shapeL (ts.take i))) ?turn ?fin _ 0 [] _ (Nat.zero_add _) ⟨[], rfl, by rw [List.take_zero]; exact .nil⟩
  case turn =>
    rintro i ys nw v I oI C oC D m₂ h3 tk3 E' hi ⟨tl, hnw, hys⟩ hv hC hx F3 N3 off ⟨q1, q2, q3⟩
    clear F1 N1
    obtain ⟨ti, hti, hu⟩ := R.get (i := i) (v := v) (by simpa using hv)
    have hsub : ∀ p ∈ news, p ∈ nw := fun p hp => hnw ▸ List.mem_append.mpr (.inr hp)
    replace hu := hu.mono hsub
    have hrp := rp_le hti
    obtain ⟨ra, rd, ch, cvs, nc, rfl, hch, hkids, hcase⟩ := hu.opened
    rcases hcase with ⟨_, _, _, _, _, _, _, _, k, _, _, tok, _, x, rfl, hm1, hm2, htok⟩ | ⟨_, _, _, _, _, _, nm, _, rr, _, _, cs', rfl, hm1, hm2⟩
    all_goals (
      repeat' ((fail_if_success (with_reducible show wpAny _ _ (call (Value.ref 120) _) _ _ _)); (first | (k_unfold; (try dsimp only)) | (k_end; wrow_close) | walk1 | (dsimp only; walk1) | (leave1; walk_say "STEP leave1"; try dsimp only) | fail "no step"))
      refine' told_ok (news := (I, oI) :: (C, oC) :: (D, LCg.lst ys) :: nw) ?B F3 ?X ?N ?T ?hk (hu.mono fun p hp => .tail _ (.tail _ (.tail _ hp))) ?hsz ?hdp ?hun ?_
      case B => k_asm
      case X => k_asm
      case N => exact N3
      case T => k_asm
      case hk => rfl
      case hsz => omega
      case hdp => k_room
      case hun => ke_room
      intro r tl2 h9 tk9 F9 N9 hlt hdat
      refine LCg.CompEnd.intro F9 N9 (tl2 ++ nw) ?s1 (off3_append ?s2 off) ?s3 ⟨tl2 ++ tl, by rw [hnw, List.append_assoc], ?s4⟩
      case s1 =>
        intro p hp
        simp only [List.mem_cons, List.mem_append] at hp ⊢
        rcases hp with h | h | h | h | h
        · exact .inr (.inl h)
        · exact .inr (.inr (.inl h))
        · exact .inr (.inr (.inr (.inl h)))
        · exact .inl h
        · exact .inr (.inr (.inr (.inr h)))
      case s2 =>
        intro p hp
        have y1 : @LT.lt Nat _ I p.1 := hlt _ (.head _) p hp
        have y2 : @LT.lt Nat _ C p.1 := hlt _ (.tail _ (.head _)) p hp
        have y3 : @LT.lt Nat _ D p.1 := hlt _ (.tail _ (.tail _ (.head _))) p hp
        refine ⟨?_, ?_, ?_⟩ <;> omega
      case s3 => exact .inr ⟨_, List.mem_append.mpr (.inr (hsub _ hvl)), rfl, _, rfl⟩
      case s4 =>
        rw [shapeL_taken hti]
        exact DatAll.append (hys.mono fun p hp => List.mem_append.mpr (.inr hp)) (DatAll.one (hdat.mono fun p hp => List.mem_append.mpr (.inl hp))))
  case fin =>
    rintro ys nw ⟨tl, rfl, hys⟩
    rw [List.size_toArray, hvl9, List.take_length] at hys
    k_steps
    rename News h₀ L _ _ => kN
    exact ret _ ys _ tl _ _ (by assumption) kN hys
end
end
section
local macro_rules | `(tactic| size_fits) => `(tactic| (simp only [List.length_append, List.length_cons, List.length_nil, List.length_take, List.length_drop, PySem.sizeLine_eq]; omega))
local macro_rules | `(tactic| walk_at "call builtin:len") => `(tactic| (k_here; (with_reducible show wpAny _ _ (call (Value.builtin "len") [Value.ref _]) _ _ _); k_dflt (refine' len_ok ?k1 ?k3 ?_; (case k1 => is_list); (case k3 => omega); k_whole)))
local macro_rules | `(tactic| walk_at "subscriptTail Name Slice ref ref") => `(tactic| (k_here; (with_reducible show wpAny _ _ (subscriptTail _ (PySem.Expr.Slice none (some _) none _) (Value.ref _) (Value.ref _)) _ _ _); k_dflt (refine' cut_to ?F ?N ?l ?p ?q ?x ?_ ?s ?t ?z; (case F => k_asm); (case N => k_asm); (case l => is_list); (case p => kmk_part); (case q => kmk_part); (case x => omega); (case s => with_unfolding_all rfl); (case t => kmk_pure); (case z => size_fits)); intro D' h' F' N' l1; (try k_lt l1); (try k_sweep)))
local macro_rules | `(tactic| walk_at "subscriptTail") => `(tactic| (k_here; (with_reducible show wpAny _ _ (subscriptTail _ _ (Value.ref 246) (Value.int _ _)) _ _ _); k_dflt (refine' names_item ?F ?X ?a ?b ?_ ?s; (case F => k_asm); (case X => k_asm); (case a => omega); (case b => omega); (case s => with_unfolding_all rfl)); intro t'))
local macro_rules | `(tactic| walk_at "call type:tuple") => `(tactic| (k_here; (with_reducible show wpAny _ _ (call (Value.type _) [Value.ref _]) _ _ _); k_dflt (refine' tup_of ?F ?N ?l ?z ?_; (case F => k_asm); (case N => k_asm); (case l => is_list); (case z => omega); k_whole); intro D' h' F' N' l1; (try k_lt l1); (try k_sweep)))
local macro_rules | `(tactic| walk_at "eval ListComp") => `(tactic| (k_here; k_dflt (refine LCg.ListComp_U (F₀ := by k_asm) (by with_unfolding_all rfl) (by decide) (by rfl) (by decide) (by rfl) ?_)))
local macro_rules | `(tactic| walk_at "binaryOp Add ref ref") => `(tactic| (k_here; (with_reducible show wpAny _ _ (binaryOp _ (Value.ref _) (Value.ref _)) _ _ _); k_dflt (first
  | (refine' add_list ?F ?N ?a ?b ?z ?_; (case F => k_asm); (case N => k_asm); (case a => is_list); (case b => is_list); (case z => first | omega | (simp only [List.length_append, List.length_cons, List.length_nil, List.length_take, List.length_drop]; omega)); k_whole; intro D' h' F' N' l1; (try k_lt l1); (try k_sweep)))))
local macro_rules | `(tactic| walk_at "call type:list") => `(tactic| (k_here; (with_reducible show wpAny _ _ (call (Value.type _) [Value.ref _]) _ _ _); k_dflt (refine' copy_ok ?F ?N ?b ?z ?_; (case F => k_asm); (case N => k_asm); (case b => k_mem); (case z => first | omega | (simp only [List.length_nil]; omega)); k_whole); intro D' c' h' F' N' l1; (try k_lt l1); (try k_sweep)))
local macro_rules | `(tactic| walk_at "subscriptTail Name Slice ref ref") => `(tactic| (k_here; (with_reducible show wpAny _ _ (subscriptTail _ (PySem.Expr.Slice (some _) none none _) (Value.ref _) (Value.ref _)) _ _ _); k_dflt (refine' cut_from ?F ?N ?l ?p ?q ?x ?_ ?s ?t ?z; (case F => k_asm); (case N => k_asm); (case l => is_list); (case p => kmk_part); (case q => kmk_part); (case x => omega); (case s => with_unfolding_all rfl); (case t => kmk_pure); (case z => size_fits)); intro D' h' F' N' l1; (try k_lt l1); (try k_sweep)))
local macro_rules | `(tactic| walk_at "compareOp NotEq ref ref") => `(tactic| (k_here; (with_reducible show wpAny _ _ (compareOp _ (Value.ref _) (Value.ref _)) _ _ _); k_dflt (refine' ne_same ?a ?b ?c ?_; (case a => is_list); (case b => is_list); (case c => first | exact Nat.le_of_ble_eq_true rfl | decide); k_whole)))
local macro_rules | `(tactic| walk_at "subscriptTail") => `(tactic| (k_here; (with_reducible show wpAny _ _ (subscriptTail _ _ (Value.ref _) (Value.int _ _)) _ _ _); k_dflt (refine' lens_item ?l ?a ?b ?c ?d ?e ?_ ?s; (case l => exact News.isList (by assumption) (by first | assumption | exact .tail _ (.tail _ (.tail _ (by assumption))))); (case a => omega); (case b => omega); (case c => assumption); (case d => assumption); (case e => assumption); (case s => with_unfolding_all rfl)); intro y' t' hy0' hy3'))
local macro_rules | `(tactic| walk_at "call builtin:min") => `(tactic| (k_here; (with_reducible show wpAny _ _ (call (Value.builtin "min") [Value.int _ _, Value.int _ _]) _ _ _); k_dflt (refine' min_ok ?h ?F ?N ?_; (case h => rfl); (case F => k_asm); (case N => k_asm)); intro z' t' h' tk' F' N' hz1' hz2' hz3'))
local macro_rules | `(tactic| walk_at "subscriptTail Name UnaryOp ref int") => `(tactic| (k_here; (with_reducible show wpAny _ _ (subscriptTail _ _ (Value.ref _) (Value.int _ _)) _ _ _); k_dflt (refine' item_last ?a ?_ ?b ?c; (case a => is_list); (case b => with_unfolding_all rfl); (case c => intro _; with_unfolding_all rfl); k_whole)))
section
theorem modeB2 : PySem.Challenge.rw_on0160_01 = PySem.Challenge.rw_on0160_01 ∧ hd.heap_39 = hd.heap_39 := by
  k_fill
  w_top off
  exact ⟨rfl, rfl⟩
noncomputable def redB7 : List Stmt := redB.drop 7
local macro_rules | `(tactic| walk_at "eval ListComp") => `(tactic| (k_here; (with_reducible show wpAny _ _ (eval (PySem.Expr.ListComp _ [_, _] _ _) _) _ _ _); k_dflt (refine comp2_evalF (by k_asm) (by with_unfolding_all rfl) (by decide) (by rfl) (by decide) (by rfl) (by rfl) (by rfl) (by rfl) (by decide) ?_)))
local macro_rules | `(tactic| walk_at "exec Assign cons ListComp") => `(tactic| (k_here; (with_reducible show wpAny _ _ (exec (Stmt.Assign _ (PySem.Expr.ListComp _ [_, _] _ _) _) _) _ _ _); k_dflt (refine comp2_assignF (by k_asm) (by with_unfolding_all rfl) (by with_unfolding_all rfl) (by decide) (by rfl) (by decide) (by rfl) (by rfl) (by rfl) (by rfl) (by decide) (by with_unfolding_all rfl) (by with_unfolding_all rfl) ?_)))
theorem newsC {h₀ h : Heap} {L : Addr} {p : Addr × Obj} {r : Led} (a : h.get? p.1 = some p.2 ∧ p.1 ≠ L ∧ h₀.get? p.1 = none) (N : News h₀ L h r) : News h₀ L h (p :: r) := by
  intro q hq
  rcases List.mem_cons.mp hq with e | hq
  · exact e ▸ a
  · exact N q hq
theorem shapeL_take {cs : List T} {i : Nat} {c : T} (h : cs[i]? = some c) : shapeL (cs.take (i + 1)) = shapeL (cs.take i) ++ [shape c] := by
  rw [List.take_add_one, h, shapeL_append]
  simp [shapeL]
set_option maxHeartbeats 16000000 in
theorem red_tail2 {w : World} {base h₀ : Heap} {L fa : Addr} {cd : Value} {m : Str → Option Value} {mean : ExcName → Option Value} {mg mb : Str → Option Value} {s : Shared} {Q : Flow → Shared → Prop} {E : Value → Shared → Prop} {led n0 : Led}
    {vl pl pa x : Addr} {z rl : Int} {zt rt : Tok} {vvs pvs : List Value} {vn pn pan : Nat} {ts : List T}
    (B : Below callerA base [] h₀) (F : Fr h₀ L s.heap m) (X : (hd.heap_39 w.params).In h₀) (N : News h₀ L s.heap led) (T : Top hd.view_39 lse mean mg mb h₀)
    (e1 : m (Str.ofString "values") = some (.ref vl)) (e2 : m (Str.ofString "plain") = some (.ref pl)) (e3 : m (Str.ofString "parts") = some (.ref pa)) (e4 : m (Str.ofString "size") = some (.int z zt)) (e5 : m (Str.ofString "rule") = some (.int rl rt)) (e6 : m (Str.ofString "node") = some (.ref x))
    (hn0 : ∀ p ∈ n0, p ∈ led) (hvl : (vl, listOf vvs.toArray vn) ∈ led) (hpl : (pl, listOf pvs.toArray pn) ∈ led) (hpa : (pa, listOf (pvs.drop (pvs.length - z.toNat)).toArray pan) ∈ led)
    (hz0 : 0 ≤ z) (hz1 : z ≤ vvs.length) (hr1 : 1 ≤ rl) (hr4 : rl ≤ 4) (hvl' : vvs.length ≤ 100) (hlen : vvs.length = pvs.length) (hsz : (rpL ts).length ≤ 100)
    (hd' : DatAll n0 pvs (ts.map pd))
    (ret : ∀ m' pl' vl' P Nm Lv S pn' vn' p1 p2 nm ys ls ns extra h' tk', Fr h₀ L h' m' → News h₀ L h' ((pl', listOf (pvs.take (pvs.length - z.toNat) ++ [Value.ref P]).toArray pn') :: (vl', listOf (vvs.take (vvs.length - z.toNat) ++ [Value.ref x]).toArray vn') ::
        (P, ({ cls := .type "tuple", data := .seq #[.ref S, .ref Lv, .ref Nm] } : Obj)) :: (Nm, listOf (List.toArray ns) p1) :: (Lv, listOf (List.toArray ls) p2) :: (S, ({ cls := .type "tuple", data := .seq (.str (nmOf rl) nm :: ys).toArray } : Obj)) :: (extra ++ led)) →
      DatAll n0 ys (shapeL (ts.drop (ts.length - z.toNat))) → DatAll n0 ls (lvD (lvL (ts.drop (ts.length - z.toNat)))) → IntsAre ns (rdL (ts.drop (ts.length - z.toNat)) ++ [rl]) →
      AllLt S led → AllLt Lv led → AllLt Nm led → AllLt P led → AllLt vl' led → AllLt pl' led → @Ne Nat vl' pl' → @Ne Nat S vl' → @Ne Nat S pl' → @Ne Nat Lv vl' → @Ne Nat Lv pl' → @Ne Nat Nm vl' → @Ne Nat Nm pl' → @Ne Nat P vl' → @Ne Nat P pl' →
      (∀ y, y = Str.ofString "pen" ∨ y = Str.ofString "handler" ∨ y = Str.ofString "lengths" → m' y = m y) → m' (Str.ofString "values") = some (.ref vl') → m' (Str.ofString "plain") = some (.ref pl') → Q .next { s with heap := h', toks := tk' }) :
    wpAny (model prg w) (callerA.deeper (lawEnv L fa cd)) (execs redB7 (lawEnv L fa cd)) Q E s := by
  have F1 := frOnL (ps := [(Str.ofString "values", .ref vl), (Str.ofString "plain", .ref pl), (Str.ofString "parts", .ref pa), (Str.ofString "size", .int z zt), (Str.ofString "rule", .int rl rt), (Str.ofString "node", .ref x)]) F (by
    intro q hq
    simp only [List.mem_cons, List.not_mem_nil, or_false] at hq
    rcases hq with rfl | rfl | rfl | rfl | rfl | rfl <;> assumption)
  clear F
  have hdl := hd'.length
  rw [List.length_map] at hdl
  conv in redB7 => whnf
  k_steps
  rename Fr _ _ _ _ => F2
  rename News _ _ _ _ => N2
  rename (∀ p ∈ led, p.1 < _) => l1a
  rename_i nmT T0 _
  have hpd : DatAll n0 (pvs.drop (pvs.length - z.toNat)) ((ts.drop (ts.length - z.toNat)).map pd) := by
    have h9 := DatAll_drop (pvs.length - z.toNat) hd'
    rw [← List.map_drop, hdl] at h9
    rw [hdl]; exact h9
  generalize hcs : ts.drop (ts.length - z.toNat) = cs at hpd ret
  generalize hpv : pvs.drop (pvs.length - z.toNat) = pv at hpd hpa
  have hpl9 : pv.length ≤ 100 := by rw [← hpv, List.length_drop]; omega
  refine LCg.CompSrc.ledger rfl F2 N2 (.tail _ hpa) (by rw [sizeLine_eq]; simp; omega) ?_
  intro g
  refine restU_run (n := pv.toArray.size) (fun i ys nw => nw = (T0, _) :: led ∧ DatAll n0 ys (shapeL (cs.take i))) ?turn ?fin _ 0 [] _ (Nat.zero_add _) ⟨rfl, by rw [List.take_zero]; exact .nil⟩
  case turn =>
    rintro i ys nw v I oI C oC D m₂ h tk E' hi ⟨rfl, hys⟩ hv hC hx F N off ⟨q1, q2, q3⟩
    have hi' : i < pv.length := by simpa using hi
    have hv' : pv[i]? = some v := by simpa using hv
    obtain ⟨d0, hd0, hdv⟩ := DatAll_get hpd hv'
    rw [List.getElem?_map] at hd0
    obtain ⟨ci, hci, hcd⟩ := Option.map_eq_some_iff.mp hd0
    subst hcd
    obtain ⟨a, n, sv, a1, k1, vs1, a2, k2, vs2, rfl, hm, hs, ha1, hb1, ha2, hb2⟩ := pd_open hdv
    replace hm := hn0 _ hm
    k_steps
    refine LCg.CompEnd.intro F N ((T0, _) :: led) (fun _ h => h) off (.inr ⟨_, .tail _ hpa, rfl, _, rfl⟩) ⟨rfl, ?_⟩
    rw [shapeL_take hci]
    exact DatAll.append hys (DatAll.one hs)
  case fin =>
    rintro ys nw ⟨rfl, hys⟩
    have hpl := hpd.length
    rw [List.length_map] at hpl
    rw [List.size_toArray, hpl, List.take_length] at hys
    have hyl := hys.length
    rw [shapeL_length] at hyl
    clear F2
    k_steps
    rename Fr _ _ _ _ => F3
    rename News _ _ _ _ => N3
    rename_i D1 _ _ _ S1 _ l3
    refine add_tup_any (n1 := led) F3 N3 (.tail _ (.tail _ (.head _))) (.head _) (List.cons_ne_nil _ _) (by simp only [List.length_cons, List.length_nil]; omega) (allLt_of l1a) (fun p hp => .tail _ (.tail _ (.tail _ hp))) ?_
    intro S2 h4 F4 N4 l4
    clear F3 N3
    rw [List.singleton_append] at N4
    k_steps
    rename Fr _ _ _ _ => F5
    rename News _ _ _ _ => N5
    obtain ⟨uss, eu1, eu2, eu3⟩ := parts_lv hpd
    have el1 := eu2.length
    rw [lvD, List.length_map] at el1
    have el2 := lv_len.lvL_len cs
    have el3 : (rpL cs).length ≤ 100 := by
      have e9 := rpL_append (ts.take (ts.length - z.toNat)) (ts.drop (ts.length - z.toNat))
      rw [List.take_append_drop, hcs] at e9
      have e8 := congrArg List.length e9
      rw [List.length_append] at e8
      omega
    have eul : uss.flatten.length ≤ 100000 := by omega
    refine ⟨_, _, _, uss, _, rfl, rfl, F5, N5, .tail _ (.tail _ (.tail _ (.tail _ hpa))), eu1, eul, ?_, ?_⟩
    · intro i v us h8 h9
      obtain ⟨a, tvs, tn, l, ln, e, g1, g2, g3, g4⟩ := eu3 i v us h8 h9
      exact ⟨a, tvs, tn, l, ln, e, .tail _ (.tail _ (.tail _ (.tail _ (hn0 _ g1)))), g2, g3, .tail _ (.tail _ (.tail _ (.tail _ (hn0 _ g4))))⟩
    intro Lv h6 tk6 F6 N6 l6
    clear F5 N5
    k_steps
    obtain ⟨uss2, ev1, ev2, ev3⟩ := parts_rd hpd
    have el4 := ev2.length
    have el5 : uss2.flatten.length ≤ 100 := by omega
    refine ⟨_, _, _, uss2, _, rfl, rfl, F6, N6, .tail _ (.tail _ (.tail _ (.tail _ (.tail _ hpa)))), ev1, by omega, ?_, ?_⟩
    · intro i v us h8 h9
      obtain ⟨a, tvs, tn, l, ln, e, g1, g2, g3, g4⟩ := ev3 i v us h8 h9
      exact ⟨a, tvs, tn, l, ln, e, .tail _ (.tail _ (.tail _ (.tail _ (.tail _ (hn0 _ g1))))), g2, g3, .tail _ (.tail _ (.tail _ (.tail _ (.tail _ (hn0 _ g4)))))⟩
    intro Nm0 h7 tk7 F7 N7 l7
    clear F6 N6
    k_steps
    rename Fr _ _ _ _ => F9
    rename News _ _ _ _ => N9
    have ez1 : ((pvs.length : Int) - z).toNat = pvs.length - z.toNat := by omega
    have ez2 : ((vvs.length : Int) - z).toNat = vvs.length - z.toNat := by omega
    rw [ez1, ez2] at N9
    rename_i NM _ _ _ _ _ _ _ _ _ _ _ _ VV _ _ _ _ _ _ _ PP _ _ _ _ _ PL _ _ _
    refine ret _ PL VV PP NM Lv S2 0 0 0 uss.flatten.length nmT ys uss.flatten (uss2.flatten ++ [.int rl rt]) [] _ _ F9 ?N hys eu2 (IntsAre.append ev2 (.cons rl rt .nil)) ?b1 ?b2 ?b3 ?b4 ?b5 ?b6 ?c1 ?c2 ?c3 ?c4 ?c5 ?c6 ?c7 ?c8 ?c9 ?d1 ?d2 ?d3
    case N =>
      refine newsC (N9 _ (.head _)) (newsC (N9 _ (.tail _ (.tail _ (.tail _ (.tail _ (.head _)))))) (newsC (N9 _ (.tail _ (.tail _ (.head _)))) (newsC (N9 _ (.tail _ (.tail _ (.tail _ (.tail _ (.tail _ (.tail _ (.tail _ (.head _))))))))) (newsC (N9 _ (.tail _ (.tail _ (.tail _ (.tail _ (.tail _ (.tail _ (.tail _ (.tail _ (.tail _ (.tail _ (.head _)))))))))))) (newsC (N9 _ (.tail _ (.tail _ (.tail _ (.tail _ (.tail _ (.tail _ (.tail _ (.tail _ (.tail _ (.tail _ (.tail _ (.head _))))))))))))) ?_)))))
      exact fun p hp => N9 p (.tail _ (.tail _ (.tail _ (.tail _ (.tail _ (.tail _ (.tail _ (.tail _ (.tail _ (.tail _ (.tail _ (.tail _ (.tail _ (.tail _ (.tail _ hp)))))))))))))))
    case b1 => exact l4
    case b2 => exact allLt_of fun p hp => l6 p (.tail _ (.tail _ (.tail _ (.tail _ hp))))
    case b3 => tbn_find
    case b4 => tbn_find
    case b5 => tbn_find
    case b6 => tbn_find
    case d1 =>
      rintro y (rfl | rfl | rfl) <;> with_unfolding_all rfl
    case d2 => with_unfolding_all rfl
    case d3 => with_unfolding_all rfl
    all_goals (first | omega | (refine neN ?_; omega))
end
section
theorem modeB8 : PySem.Challenge.rw_on0160_01 = PySem.Challenge.rw_on0160_01 ∧ hd.heap_39 = hd.heap_39 := by
  k_fill
  w_top off
  exact ⟨rfl, rfl⟩
theorem kstOn {m : Str → Option Value} {ps : List (Str × Value)} (e : ∀ p ∈ ps, m p.1 = some p.2) : kstB m ps = m := funext fun z => kstB_eq e fun _ => rfl
set_option maxHeartbeats 16000000 in
theorem check_block {w : World} {base h₀ : Heap} {L fa : Addr} {cd : Value} {m : Str → Option Value} {mean : ExcName → Option Value} {mg mb : Str → Option Value} {s : Shared} {Q : Flow → Shared → Prop} {E : Value → Shared → Prop} {nx own : Led} {b : Int} {k : Nat}
    (B : Below callerA base [] h₀) (F : Fr h₀ L s.heap m) (X : (hd.heap_39 w.params).In h₀) (N : News h₀ L s.heap (nx ++ own)) (T : Top hd.view_39 lse mean mg mb h₀)
    (hoff : OwnOff own (nx.map (·.1))) (J : LawJ b k m nx) (hb : b ≤ 900) (hk : k ≤ 90)
    (ret : ∀ h' tk', Fr h₀ L h' m → News h₀ L h' (nx ++ own) → Q .next { s with heap := h', toks := tk' }) :
    wpAny (model prg w) (callerA.deeper (lawEnv L fa cd)) (execs [nth turnB 2] (lawEnv L fa cd)) Q E s := by
  obtain ⟨pen, c, hdl, ll, vl, pl, po, vvs, vn, pvs, pn, ts, rest, rfl, ⟨g, tg, x, tx, p, tp, n, rfl, hg0, hg1, hx0, hx1, hp0, hp1⟩, hf9, hro, hne1, hne2, hne3, hvs, hps, hsz, e1, e2, e3, e4, e5⟩ := id J
  obtain ⟨⟨cells, cvs, cn, hc, hci, hcl⟩, ⟨hdd, hh, ht, hn, hh1, hh2⟩, ⟨l1, l2, l4, t0, t1, t2, t3, t4, ln, hl, hl1, hl1', hl2, hl2', hl4, hl4'⟩⟩ := id hf9
  have hqm := kstOn (ps := [(Str.ofString "pen", .ref pen), (Str.ofString "handler", .ref hdl), (Str.ofString "lengths", .ref ll), (Str.ofString "values", .ref vl), (Str.ofString "plain", .ref pl)]) (m := m) (by
    intro q hq
    simp only [List.mem_cons, List.not_mem_nil, or_false] at hq
    rcases hq with rfl | rfl | rfl | rfl | rfl <;> assumption)
  have F1 := frOnL (ps := [(Str.ofString "pen", .ref pen), (Str.ofString "handler", .ref hdl), (Str.ofString "lengths", .ref ll), (Str.ofString "values", .ref vl), (Str.ofString "plain", .ref pl)]) F (by
    intro q hq
    simp only [List.mem_cons, List.not_mem_nil, or_false] at hq
    rcases hq with rfl | rfl | rfl | rfl | rfl <;> assumption)
  simp only [List.cons_append] at N
  have hoffR : OwnOff (rest ++ own) [pen, vl, pl] := by
    intro q hq z hz
    rcases List.mem_append.mp hq with h | h
    · exact hro q h z hz
    · refine hoff q h z ?_
      simp only [List.mem_cons, List.not_mem_nil, or_false] at hz
      simp only [List.map_cons, List.mem_cons]
      rcases hz with h | h | h
      · exact .inl h
      · exact .inr (.inl h)
      · exact .inr (.inr (.inl h))
  have ho4 : OwnOff own (rest.map (·.1)) := fun q hq z hz => hoff q hq z (.tail _ (.tail _ (.tail _ hz)))
  have hsub : ∀ q ∈ rest, q ∈ rest ++ own := fun q hq => List.mem_append.mpr (.inl hq)
  obtain ⟨R, hR⟩ : ∃ R, R = rest ++ own := ⟨_, rfl⟩
  rw [← hR] at N hoffR hsub
  replace hc := hsub _ hc
  replace hh1 := hsub _ hh1
  replace hh2 := hsub _ hh2
  replace hl := hsub _ hl
  clear F
  have hbd := hvs.length
  have hbe := hps.length
  have hbf := rpL_len ts
  rw [List.length_map] at hbe
  conv in nth turnB 2 => whnf
  repeat' ((fail_if_success (with_reducible show wpAny _ _ (call (Value.ref 251) _) _ _ _)); (first | (k_unfold; (try dsimp only)) | (k_end; wrow_close) | walk1 | (dsimp only; walk1) | (leave1; walk_say "STEP leave1"; try dsimp only) | fail "no step"))
  refine' lawtold_ok (vn := vn) (vvs := vvs) (ts := ts) ?B F1 ?X N ?T ?hk (.tail _ (.head _)) (hvs.mono fun p hp => .tail _ (.tail _ (.tail _ (hsub p hp)))) ?hsz ?hdp ?hun ?_
  case B => k_asm
  case X => k_asm
  case T => k_asm
  case hk => rfl
  case hsz => omega
  case hdp => decide
  case hun => exact Nat.le_of_ble_eq_true rfl
  intro r rvs rn tl h2 tk2 F2 N2 hdat
  k_steps
  obtain ⟨led, hled⟩ : ∃ y : Led, y = (r, listOf rvs.toArray rn) :: (tl ++ (pen, penObj c g tg x tx p tp n) :: (vl, listOf vvs.toArray vn) :: (pl, listOf pvs.toArray pn) :: R) := ⟨_, rfl⟩
  rw [← hled] at N2
  have hr : (r, listOf rvs.toArray rn) ∈ led := hled ▸ .head _
  have htl : ∀ p ∈ tl, p ∈ led := fun p hp => hled ▸ .tail _ (List.mem_append.mpr (.inl hp))
  have hpl : (pl, listOf pvs.toArray pn) ∈ led := hled ▸ .tail _ (List.mem_append.mpr (.inr (.tail _ (.tail _ (.head _)))))
  have hRl : ∀ q ∈ (pen, penObj c g tg x tx p tp n) :: (vl, listOf vvs.toArray vn) :: (pl, listOf pvs.toArray pn) :: R, q ∈ led := fun q hp => hled ▸ .tail _ (List.mem_append.mpr (.inr hp))
  clear hled
  refine LCg.CompSrc.ledger rfl F2 N2 hpl (by rw [sizeLine_eq]; simp; omega) ?_
  intro g9
  refine restU_run (n := pvs.toArray.size) (fun i ys nw => nw = led ∧ DatAll rest ys (shapeL (ts.take i))) ?turn ?fin _ 0 [] _ (Nat.zero_add _) ⟨rfl, by rw [List.take_zero]; exact .nil⟩
  case turn =>
    rintro i ys nw v I oI C oC D m₂ h tk E' hi ⟨rfl, hys⟩ hv hC hx F N off ⟨q1, q2, q3⟩
    have hi' : i < pvs.length := by simpa using hi
    have hv' : pvs[i]? = some v := by simpa using hv
    obtain ⟨d0, hd0, hdv⟩ := DatAll_get hps hv'
    rw [List.getElem?_map] at hd0
    obtain ⟨ci, hci, hcd⟩ := Option.map_eq_some_iff.mp hd0
    subst hcd
    obtain ⟨a, n, sv, a1, k1, vs1, a2, k2, vs2, rfl, hm, hs, ha1, hb1, ha2, hb2⟩ := pd_open hdv
    replace hm := hRl _ (.tail _ (.tail _ (.tail _ (hsub _ hm))))
    clear F2 N2
    k_steps
    refine LCg.CompEnd.intro F N nw (fun _ h => h) off (.inr ⟨_, hpl, rfl, _, rfl⟩) ⟨rfl, ?_⟩
    rw [shapeL_taken hci]
    exact DatAll.append hys (DatAll.one hs)
  case fin =>
    rintro ys nw ⟨rfl, hys⟩
    rw [List.size_toArray, hbe, List.take_length] at hys
    clear F2 N2
    repeat' ((fail_if_success (with_reducible show wpAny _ _ (compareOp _ _ _) _ _ _)); (first | (k_unfold; (try dsimp only)) | (k_end; wrow_close) | walk1 | (dsimp only; walk1) | (leave1; walk_say "STEP leave1"; try dsimp only) | fail "no step"))
    rename Fr _ _ _ _ => F3
    rename News _ _ _ _ => N3
    refine ne_dats N3 (.tail _ hr) (.head _) (hdat.mono fun p hp => .tail _ (htl p hp)) (hys.mono fun p hp => .tail _ (hRl _ (.tail _ (.tail _ (.tail _ (hsub _ hp)))))) ?hu ?_
    case hu =>
      have e := depL_shapeL ts
      have e2 : (callerA.deeper (lawEnv L fa cd)).units ≤ 100 := Nat.le_of_ble_eq_true rfl
      have e3 : cLine = 9900 := rfl
      omega
    k_steps
    rename Fr _ _ _ _ => F4
    rename News _ _ _ _ => N4
    rw [hqm] at F4
    refine ret _ _ F4 fun q hq => N4 q (.tail _ (hRl q ?_))
    rw [hR]
    simpa using hq
end
section
theorem modeB9 : PySem.Challenge.rw_on0160_01 = PySem.Challenge.rw_on0160_01 ∧ hd.heap_39 = hd.heap_39 := by
  k_fill
  w_top off
  exact ⟨rfl, rfl⟩
set_option maxHeartbeats 16000000 in
theorem final_block {w : World} {base h₀ : Heap} {L fa : Addr} {cd : Value} {m : Str → Option Value} {mean : ExcName → Option Value} {mg mb : Str → Option Value} {s : Shared} {Q : Flow → Shared → Prop} {E : Value → Shared → Prop} {nx own : Led} {b : Int} {k : Nat}
    (B : Below callerA base [] h₀) (F : Fr h₀ L s.heap m) (X : (hd.heap_39 w.params).In h₀) (N : News h₀ L s.heap (nx ++ own)) (T : Top hd.view_39 lse mean mg mb h₀)
    (hoff : OwnOff own (nx.map (·.1))) (J : LawJ b k m nx) (hb : b ≤ 900) (hk : k ≤ 90)
    (ret : ∀ h' tk', Fr h₀ L h' m → Q (.ret (.bool true)) { s with heap := h', toks := tk' }) :
    wpAny (model prg w) (callerA.deeper (lawEnv L fa cd)) (execs [nth lawB 6, nth lawB 7] (lawEnv L fa cd)) Q E s := by
  obtain ⟨pen, c, hdl, ll, vl, pl, po, vvs, vn, pvs, pn, ts, rest, rfl, ⟨g, tg, x, tx, p, tp, n, rfl, hg0, hg1, hx0, hx1, hp0, hp1⟩, hf9, hro, hne1, hne2, hne3, hvs, hps, hsz, e1, e2, e3, e4, e5⟩ := id J
  obtain ⟨⟨cells, cvs, cn, hc, hci, hcl⟩, ⟨hdd, hh, ht, hn, hh1, hh2⟩, ⟨l1, l2, l4, t0, t1, t2, t3, t4, ln, hl, hl1, hl1', hl2, hl2', hl4, hl4'⟩⟩ := id hf9
  have hqm := kstOn (ps := [(Str.ofString "pen", .ref pen), (Str.ofString "handler", .ref hdl), (Str.ofString "lengths", .ref ll), (Str.ofString "values", .ref vl), (Str.ofString "plain", .ref pl)]) (m := m) (by
    intro q hq
    simp only [List.mem_cons, List.not_mem_nil, or_false] at hq
    rcases hq with rfl | rfl | rfl | rfl | rfl <;> assumption)
  have F1 := frOnL (ps := [(Str.ofString "pen", .ref pen), (Str.ofString "handler", .ref hdl), (Str.ofString "lengths", .ref ll), (Str.ofString "values", .ref vl), (Str.ofString "plain", .ref pl)]) F (by
    intro q hq
    simp only [List.mem_cons, List.not_mem_nil, or_false] at hq
    rcases hq with rfl | rfl | rfl | rfl | rfl <;> assumption)
  simp only [List.cons_append] at N
  have hoffR : OwnOff (rest ++ own) [pen, vl, pl] := by
    intro q hq z hz
    rcases List.mem_append.mp hq with h | h
    · exact hro q h z hz
    · refine hoff q h z ?_
      simp only [List.mem_cons, List.not_mem_nil, or_false] at hz
      simp only [List.map_cons, List.mem_cons]
      rcases hz with h | h | h
      · exact .inl h
      · exact .inr (.inl h)
      · exact .inr (.inr (.inl h))
  have ho4 : OwnOff own (rest.map (·.1)) := fun q hq z hz => hoff q hq z (.tail _ (.tail _ (.tail _ hz)))
  have hsub : ∀ q ∈ rest, q ∈ rest ++ own := fun q hq => List.mem_append.mpr (.inl hq)
  obtain ⟨R, hR⟩ : ∃ R, R = rest ++ own := ⟨_, rfl⟩
  rw [← hR] at N hoffR hsub
  replace hc := hsub _ hc
  replace hh1 := hsub _ hh1
  replace hh2 := hsub _ hh2
  replace hl := hsub _ hl
  clear F
  have hbd := hvs.length
  have hbe := hps.length
  have hbf := rpL_len ts
  rw [List.length_map] at hbe
  have hB := hvs.mono fun q hq => List.mem_cons_of_mem (pen, penObj c g tg x tx p tp n) (List.mem_cons_of_mem (vl, listOf vvs.toArray vn) (List.mem_cons_of_mem (pl, listOf pvs.toArray pn) (hsub q hq)))
  have hP := hps.mono fun q hq => List.mem_cons_of_mem (pen, penObj c g tg x tx p tp n) (List.mem_cons_of_mem (vl, listOf vvs.toArray vn) (List.mem_cons_of_mem (pl, listOf pvs.toArray pn) (hsub q hq)))
  obtain ⟨b0, hb0⟩ : ∃ y : Led, y = (pen, penObj c g tg x tx p tp n) :: (vl, listOf vvs.toArray vn) :: (pl, listOf pvs.toArray pn) :: R := ⟨_, rfl⟩
  have hvl : (vl, listOf vvs.toArray vn) ∈ b0 := hb0 ▸ .tail _ (.head _)
  have hpl : (pl, listOf pvs.toArray pn) ∈ b0 := hb0 ▸ .tail _ (.tail _ (.head _))
  rw [← hb0] at N hB hP
  conv in nth lawB 6 => whnf
  conv in nth lawB 7 => whnf
  k_steps
  refine LCg.CompSrc.ledger rfl F1 N hvl (by rw [sizeLine_eq]; simp; omega) ?_
  intro g9
  refine restU_run (n := vvs.toArray.size) (fun i ys nw => ∃ tl, nw = tl ++ b0 ∧ DatAll tl ys ((ts.take i).map lvT)) ?turn ?fin _ 0 [] _ (Nat.zero_add _) ⟨[], rfl, by rw [List.take_zero]; exact .nil⟩
  case turn =>
    rintro i ys nw v I oI C oC D m₂ h3 tk3 E' hi ⟨tl, hnw, hys⟩ hv hC hx F3 N3 off ⟨q1, q2, q3⟩
    clear F1 N
    obtain ⟨ti, hti, hu⟩ := hB.get (i := i) (v := v) (by simpa using hv)
    have hsub2 : ∀ p ∈ b0, p ∈ nw := fun p hp => hnw ▸ List.mem_append.mpr (.inr hp)
    replace hu := hu.mono hsub2
    have hrp := rp_le hti
    obtain ⟨ra, rd, ch, cvs, nc, rfl, hch, hkids, hcase⟩ := hu.opened
    rcases hcase with ⟨_, _, _, _, _, _, _, _, kk, _, _, tok, _, xx, et, hm1, hm2, htok⟩ | ⟨_, _, _, _, _, _, nm, _, rr, _, _, cs', et, hm1, hm2⟩
    all_goals (
      repeat' ((fail_if_success (with_reducible show wpAny _ _ (call (Value.ref 125) _) _ _ _)); (first | (k_unfold; (try dsimp only)) | (k_end; wrow_close) | walk1 | (dsimp only; walk1) | (leave1; walk_say "STEP leave1"; try dsimp only) | fail "no step"))
      refine' leaves_ok (news := (I, oI) :: (C, oC) :: (D, LCg.lst ys) :: nw) ?B F3 ?X ?N ?T ?hk (hu.mono fun p hp => .tail _ (.tail _ (.tail _ hp))) ?hsz ?hdp ?hun ?_
      case B => k_asm
      case X => k_asm
      case N => exact N3
      case T => k_asm
      case hk => rfl
      case hsz => omega
      case hdp => decide
      case hun => exact Nat.le_of_ble_eq_true rfl
      intro r tvs rn h9 tk9 F9 N9 hne htoks
      have htl9 := htoks.length
      have hlv := lv_len ti ▸ hrp
      clear F3 N3
      refine LCg.CompSrc.ledger rfl F9 N9 (.head _) (by rw [sizeLine_eq]; simp; omega) ?_
      intro g10
      refine restU_run (n := tvs.toArray.size) (fun j zs nw2 => ∃ tl2, nw2 = tl2 ++ (r, listOf tvs.toArray rn) :: (I, oI) :: (C, oC) :: (D, LCg.lst ys) :: nw ∧ (∀ q ∈ (r, listOf tvs.toArray rn) :: (I, oI) :: (C, oC) :: (D, LCg.lst ys) :: nw, ∀ p ∈ tl2, q.1 < p.1) ∧ DatAll tl2 zs (lvD (List.take j (lv ti)))) ?turn2 ?fin2 _ 0 [] _ (Nat.zero_add _) ⟨[], rfl, fun _ _ _ h => (nomatch h), by rw [List.take_zero]; exact .nil⟩
      case turn2 =>
        rintro j zs nw2 u I2 oI2 C2 oC2 D2 mm h11 tk11 E2' hj ⟨tl2, hnw2, hord, hzs⟩ hu2 hC2 hx2 F11 N11 off2 ⟨y1, y2, y3⟩
        clear F9 N9
        obtain ⟨ka, xa, hka, htok2⟩ := htoks.get (i := j) (v := u) (by simpa using hu2)
        obtain ⟨ta, td, _, _, _, _, _, _, _, _, tkA, txA, _, _, _, rfl, hm3, hm4⟩ := htok2.opened
        have hup : ∀ p ∈ (I, oI) :: (C, oC) :: (D, LCg.lst ys) :: nw, p ∈ nw2 := fun p hp => hnw2 ▸ List.mem_append.mpr (.inr (.tail _ hp))
        replace hm3 := hup _ hm3
        replace hm4 := hup _ hm4
        k_steps
        rename Fr _ _ _ _ => F12
        rename News _ _ _ _ => N12
        rename_i T0 _ _ _ l12 _ _ _
        obtain ⟨z1, z2, z3, z4⟩ := l12
        have z5 := tb_ltOf z4
        have e : lvD (List.take (j + 1) (lv ti)) = lvD (List.take j (lv ti)) ++ [.tuple [.str ka, .str xa]] := by rw [List.take_add_one, hka, lvD_append]; rfl
        refine LCg.CompEnd.intro F12 N12 ((T0, ({ cls := .type "tuple", data := .seq #[Value.str ka tkA, Value.str xa txA] } : Obj)) :: nw2) ?p1 ⟨⟨?p21, ?p22, ?p23⟩, off2⟩ (.inr ⟨_, .tail _ (hnw2 ▸ List.mem_append.mpr (.inr (.head _))), rfl, _, rfl⟩) ⟨(T0, _) :: tl2, by rw [hnw2]; rfl, ?p5, ?p6⟩
        case p1 =>
          intro p hp
          rcases List.mem_cons.mp hp with h | hp
          · exact h ▸ .tail _ (.head _)
          · rcases List.mem_cons.mp hp with h | hp
            · exact h ▸ .tail _ (.tail _ (.head _))
            · rcases List.mem_cons.mp hp with h | hp
              · exact h ▸ .tail _ (.tail _ (.tail _ (.head _)))
              · rcases List.mem_cons.mp hp with h | hp
                · exact h ▸ .head _
                · exact .tail _ (.tail _ (.tail _ (.tail _ hp)))
        case p21 => dsimp only; omega
        case p22 => dsimp only; omega
        case p23 => dsimp only; omega
        case p5 =>
          intro q hq p hp
          rcases List.mem_cons.mp hp with h | hp
          · exact h ▸ z5 q (hnw2 ▸ List.mem_append.mpr (.inr hq))
          · exact hord q hq p hp
        case p6 =>
          rw [e]
          exact DatAll.append (hzs.mono fun p hp => .tail _ hp) (DatAll.one (.tuple (vs := [_, _]) (.head _) (.cons (.str _ _) (.cons (.str _ _) .nil))))
      case fin2 =>
        rintro zs nw2 ⟨tl2, hnw2, hord, hzs⟩
        rw [List.size_toArray, htl9, List.take_length] at hzs
        k_steps
        rename Fr _ _ _ _ => F12
        rename News _ _ _ _ => N12
        rename_i DD _ _ oD
        have hoD := off1_mem oD
        have v1 : @Ne Nat I DD := hoD (I, oI) (hnw2 ▸ List.mem_append.mpr (.inr (.tail _ (.head _))))
        have v2 : @Ne Nat C DD := hoD (C, oC) (hnw2 ▸ List.mem_append.mpr (.inr (.tail _ (.tail _ (.head _)))))
        have v3 : @Ne Nat D DD := hoD (D, LCg.lst ys) (hnw2 ▸ List.mem_append.mpr (.inr (.tail _ (.tail _ (.tail _ (.head _))))))
        have e : (ts.take (i + 1)).map lvT = (ts.take i).map lvT ++ [lvT ti] := by rw [List.take_add_one, hti, List.map_append]; rfl
        refine LCg.CompEnd.intro F12 N12 ((DD, LCg.lst zs) :: (tl2 ++ nw)) ?r1 ⟨⟨Ne.symm v1, Ne.symm v2, Ne.symm v3⟩, off3_append ?r2 off⟩ (.inr ⟨_, .tail _ (List.mem_append.mpr (.inr (hsub2 _ hvl))), rfl, _, rfl⟩) ⟨(DD, LCg.lst zs) :: (tl2 ++ tl), by rw [hnw]; simp, ?r5⟩
        case r1 =>
          intro p hp
          rcases List.mem_cons.mp hp with h | hp
          · exact h ▸ .tail _ (hnw2 ▸ List.mem_append.mpr (.inr (.tail _ (.head _))))
          · rcases List.mem_cons.mp hp with h | hp
            · exact h ▸ .tail _ (hnw2 ▸ List.mem_append.mpr (.inr (.tail _ (.tail _ (.head _)))))
            · rcases List.mem_cons.mp hp with h | hp
              · exact h ▸ .tail _ (hnw2 ▸ List.mem_append.mpr (.inr (.tail _ (.tail _ (.tail _ (.head _))))))
              · rcases List.mem_cons.mp hp with h | hp
                · exact h ▸ .head _
                · rcases List.mem_append.mp hp with h | hp
                  · exact .tail _ (hnw2 ▸ List.mem_append.mpr (.inl h))
                  · exact .tail _ (hnw2 ▸ List.mem_append.mpr (.inr (.tail _ (.tail _ (.tail _ (.tail _ hp))))))
        case r2 =>
          intro p hp
          have u1 : @LT.lt Nat _ I p.1 := hord _ (.tail _ (.head _)) p hp
          have u2 : @LT.lt Nat _ C p.1 := hord _ (.tail _ (.tail _ (.head _))) p hp
          have u3 : @LT.lt Nat _ D p.1 := hord _ (.tail _ (.tail _ (.tail _ (.head _)))) p hp
          refine ⟨?_, ?_, ?_⟩ <;> omega
        case r5 =>
          rw [e]
          exact DatAll.append (hys.mono fun p hp => .tail _ (List.mem_append.mpr (.inr hp))) (DatAll.one (.list (n := zs.length) (.head _) (hzs.mono fun p hp => .tail _ (List.mem_append.mpr (.inl hp))))))
  case fin =>
    rintro ys nw ⟨tl, rfl, hys⟩
    rw [List.size_toArray, hbd, List.take_length] at hys
    clear F1 N
    k_steps
    rename Fr _ _ _ _ => FX
    rename News _ _ _ _ => NX
    obtain ⟨ledA, hledA⟩ : ∃ y : Led, y = tl ++ b0 := ⟨_, rfl⟩
    rw [← hledA] at NX
    rename_i DA _ _ _
    have upA : ∀ q ∈ b0, q ∈ (DA, LCg.lst ys) :: ledA := fun q hq => .tail _ (hledA ▸ List.mem_append.mpr (.inr hq))
    have tlA : ∀ q ∈ tl, q ∈ (DA, LCg.lst ys) :: ledA := fun q hq => .tail _ (hledA ▸ List.mem_append.mpr (.inl hq))
    clear hledA
    refine LCg.CompSrc.ledger rfl FX NX (upA _ hpl) (by rw [sizeLine_eq]; simp; omega) ?_
    intro gA
    refine restU_run (n := pvs.toArray.size) (fun i yy nw => nw = (DA, LCg.lst ys) :: ledA ∧ DatAll b0 yy ((ts.take i).map lvT)) ?turnA ?finA _ 0 [] _ (Nat.zero_add _) ⟨rfl, by rw [List.take_zero]; exact .nil⟩
    case turnA =>
      rintro i ys9 nw v I oI C oC D m₂ h tk E' hi ⟨hnw, hys9⟩ hv hC hx F N off ⟨q1, q2, q3⟩
      have hv' : pvs[i]? = some v := by simpa using hv
      obtain ⟨d0, hd0, hdv⟩ := DatAll_get hP hv'
      rw [List.getElem?_map] at hd0
      obtain ⟨ci, hci, hcd⟩ := Option.map_eq_some_iff.mp hd0
      subst hcd
      obtain ⟨a, n, sv, a1, k1, vs1, a2, k2, vs2, rfl, hm, hs, ha1, hb1, ha2, hb2⟩ := pd_open hdv
      replace hm : _ ∈ nw := hnw ▸ upA _ hm
      clear FX NX
      k_steps
      refine LCg.CompEnd.intro F N nw (fun _ h => h) off (.inr ⟨_, hnw ▸ upA _ hpl, rfl, _, rfl⟩) ⟨hnw, ?_⟩
      have e : (ts.take (i + 1)).map lvT = (ts.take i).map lvT ++ [lvT ci] := by rw [List.take_add_one, hci, List.map_append]; rfl
      rw [e]
      exact DatAll.append hys9 (DatAll.one (.list ha1 hb1))
    case finA =>
      rintro ys9 nw ⟨rfl, hys9⟩
      rw [List.size_toArray, hbe, List.take_length] at hys9
      clear FX NX
      repeat' ((fail_if_success (with_reducible show wpAny _ _ (compareOp _ _ _) _ _ _)); (first | (k_unfold; (try dsimp only)) | (k_end; wrow_close) | walk1 | (dsimp only; walk1) | (leave1; walk_say "STEP leave1"; try dsimp only) | fail "no step"))
      rename Fr _ _ _ _ => FY
      rename News _ _ _ _ => NY
      refine ne_dats NY (.tail _ (.head _)) (.head _) (hys.mono fun q hq => .tail _ (tlA q hq)) (hys9.mono fun q hq => .tail _ (upA q hq)) ?hu ?_
      case hu =>
        have e := depL_lvT ts
        have e2 : (callerA.deeper (lawEnv L fa cd)).units ≤ 100 := Nat.le_of_ble_eq_true rfl
        have e3 : cLine = 9900 := rfl
        omega
      rename_i DB _ _ _
      obtain ⟨ledB, hledB⟩ : ∃ y : Led, y = (DB, LCg.lst ys9) :: (DA, LCg.lst ys) :: ledA := ⟨_, rfl⟩
      have upB : ∀ q ∈ b0, q ∈ ledB := fun q hq => hledB ▸ .tail _ (upA q hq)
      rw [← hledB] at NY
      clear hledB
      k_steps
      rename Fr _ _ _ _ => FZ
      rename News _ _ _ _ => NZ
      refine LCg.CompSrc.ledger rfl FZ NZ (upB _ hvl) (by rw [sizeLine_eq]; simp; omega) ?_
      intro gC
      refine restU_run (n := vvs.toArray.size) (fun i yy nw => ∃ tl, nw = tl ++ ledB ∧ DatAll tl yy ((ts.take i).map rdT)) ?turnC ?finC _ 0 [] _ (Nat.zero_add _) ⟨[], rfl, by rw [List.take_zero]; exact .nil⟩
      case turnC =>
        rintro i ys8 nw v I oI C oC D m₂ h3 tk3 E' hi ⟨tl8, hnw, hys8⟩ hv hC hx F3 N3 off ⟨q1, q2, q3⟩
        clear FZ NZ
        obtain ⟨ti, hti, hu⟩ := hB.get (i := i) (v := v) (by simpa using hv)
        have hsub2 : ∀ p ∈ b0, p ∈ nw := fun p hp => hnw ▸ List.mem_append.mpr (.inr (upB p hp))
        replace hu := hu.mono hsub2
        have hrp := rp_le hti
        have e : (ts.take (i + 1)).map rdT = (ts.take i).map rdT ++ [rdT ti] := by rw [List.take_add_one, hti, List.map_append]; rfl
        obtain ⟨ra, rd, ch, cvs, nc, rfl, hch, hkids, hcase⟩ := hu.opened
        rcases hcase with ⟨_, _, _, _, _, _, _, _, kk, _, _, tok, _, xx, et, hm1, hm2, htok⟩ | ⟨_, _, _, _, _, _, nm, _, rr, _, _, cs', et, hm1, hm2⟩
        all_goals (
          repeat' ((fail_if_success (with_reducible show wpAny _ _ (call (Value.ref 130) _) _ _ _)); (first | (k_unfold; (try dsimp only)) | (k_end; wrow_close) | walk1 | (dsimp only; walk1) | (leave1; walk_say "STEP leave1"; try dsimp only) | fail "no step"))
          refine' reds_ok (news := (I, oI) :: (C, oC) :: (D, LCg.lst ys8) :: nw) ?B F3 ?X ?N ?T ?hk (hu.mono fun p hp => .tail _ (.tail _ (.tail _ hp))) ?hsz ?hdp ?hun ?_
          case B => k_asm
          case X => k_asm
          case N => exact N3
          case T => k_asm
          case hk => rfl
          case hsz => omega
          case hdp => decide
          case hun => exact Nat.le_of_ble_eq_true rfl
          intro r tvs rn h9 tk9 F9 N9 hne hints
          have v1 : @Ne Nat I r := hne (I, oI) (.head _)
          have v2 : @Ne Nat C r := hne (C, oC) (.tail _ (.head _))
          have v3 : @Ne Nat D r := hne (D, LCg.lst ys8) (.tail _ (.tail _ (.head _)))
          refine LCg.CompEnd.intro F9 N9 ((r, listOf tvs.toArray rn) :: nw) ?s1 ⟨⟨Ne.symm v1, Ne.symm v2, Ne.symm v3⟩, off⟩ (.inr ⟨_, .tail _ (hsub2 _ hvl), rfl, _, rfl⟩) ⟨(r, listOf tvs.toArray rn) :: tl8, by rw [hnw]; rfl, ?s4⟩
          case s1 =>
            intro p hp
            simp only [List.mem_cons] at hp ⊢
            rcases hp with h | h | h | h | h
            · exact .inr (.inl h)
            · exact .inr (.inr (.inl h))
            · exact .inr (.inr (.inr (.inl h)))
            · exact .inl h
            · exact .inr (.inr (.inr (.inr h)))
          case s4 =>
            rw [e]
            exact DatAll.append (hys8.mono fun p hp => .tail _ hp) (DatAll.one (.list (.head _) (dats_of_ints hints))))
      case finC =>
        rintro ys8 nw ⟨tl8, rfl, hys8⟩
        rw [List.size_toArray, hbd, List.take_length] at hys8
        clear FZ NZ
        k_steps
        rename Fr _ _ _ _ => FX
        rename News _ _ _ _ => NX
        obtain ⟨ledC, hledC⟩ : ∃ y : Led, y = tl8 ++ ledB := ⟨_, rfl⟩
        rw [← hledC] at NX
        rename_i DC _ _ _
        have upC : ∀ q ∈ b0, q ∈ (DC, LCg.lst ys8) :: ledC := fun q hq => .tail _ (hledC ▸ List.mem_append.mpr (.inr (upB q hq)))
        have tlC : ∀ q ∈ tl8, q ∈ (DC, LCg.lst ys8) :: ledC := fun q hq => .tail _ (hledC ▸ List.mem_append.mpr (.inl hq))
        clear hledC
        refine LCg.CompSrc.ledger rfl FX NX (upC _ hpl) (by rw [sizeLine_eq]; simp; omega) ?_
        intro gD
        refine restU_run (n := pvs.toArray.size) (fun i yy nw => nw = (DC, LCg.lst ys8) :: ledC ∧ DatAll b0 yy ((ts.take i).map rdT)) ?turnD ?finD _ 0 [] _ (Nat.zero_add _) ⟨rfl, by rw [List.take_zero]; exact .nil⟩
        case turnD =>
          rintro i ys7 nw v I oI C oC D m₂ h tk E' hi ⟨hnw, hys7⟩ hv hC hx F N off ⟨q1, q2, q3⟩
          have hv' : pvs[i]? = some v := by simpa using hv
          obtain ⟨d0, hd0, hdv⟩ := DatAll_get hP hv'
          rw [List.getElem?_map] at hd0
          obtain ⟨ci, hci, hcd⟩ := Option.map_eq_some_iff.mp hd0
          subst hcd
          obtain ⟨a, n, sv, a1, k1, vs1, a2, k2, vs2, rfl, hm, hs, ha1, hb1, ha2, hb2⟩ := pd_open hdv
          replace hm : _ ∈ nw := hnw ▸ upC _ hm
          clear FX NX
          k_steps
          refine LCg.CompEnd.intro F N nw (fun _ h => h) off (.inr ⟨_, hnw ▸ upC _ hpl, rfl, _, rfl⟩) ⟨hnw, ?_⟩
          have e : (ts.take (i + 1)).map rdT = (ts.take i).map rdT ++ [rdT ci] := by rw [List.take_add_one, hci, List.map_append]; rfl
          rw [e]
          exact DatAll.append hys7 (DatAll.one (.list ha2 hb2))
        case finD =>
          rintro ys7 nw ⟨rfl, hys7⟩
          rw [List.size_toArray, hbe, List.take_length] at hys7
          clear FX NX
          repeat' ((fail_if_success (with_reducible show wpAny _ _ (compareOp _ _ _) _ _ _)); (first | (k_unfold; (try dsimp only)) | (k_end; wrow_close) | walk1 | (dsimp only; walk1) | (leave1; walk_say "STEP leave1"; try dsimp only) | fail "no step"))
          rename Fr _ _ _ _ => FY
          rename News _ _ _ _ => NY
          refine eq_dats NY (.tail _ (.head _)) (.head _) (hys8.mono fun q hq => .tail _ (tlC q hq)) (hys7.mono fun q hq => .tail _ (upC q hq)) ?hu ?_
          case hu =>
            have e := depL_rdT ts
            have e2 : (callerA.deeper (lawEnv L fa cd)).units ≤ 100 := Nat.le_of_ble_eq_true rfl
            have e3 : cLine = 9900 := rfl
            omega
          k_steps
          rename Fr _ _ _ _ => FV
          rw [hqm] at FV
          exact ret _ _ FV
end
section
theorem modeB3 : PySem.Challenge.rw_on0160_01 = PySem.Challenge.rw_on0160_01 ∧ hd.heap_39 = hd.heap_39 := by
  k_fill
  w_top off
  exact ⟨rfl, rfl⟩
noncomputable def redB6 : List Stmt := redB.drop 6
theorem TreesIn_take {news : Led} {vs : List Value} : ∀ {ts : List T} (n : Nat), TreesIn news vs ts → TreesIn news (vs.take n) (ts.take n) := by
  induction vs with
  | nil => intro ts n h; cases h; simp; exact .nil
  | cons v vs ih =>
    intro ts n h
    cases h with
    | cons h r =>
      cases n with
      | zero => simp; exact .nil
      | succ n => rw [List.take_succ_cons, List.take_succ_cons]; exact .cons h (ih n r)
theorem TreesIn_drop {news : Led} {vs : List Value} : ∀ {ts : List T} (n : Nat), TreesIn news vs ts → TreesIn news (vs.drop n) (ts.drop n) := by
  induction vs with
  | nil => intro ts n h; cases h; simp; exact .nil
  | cons v vs ih =>
    intro ts n h
    cases h with
    | cons h r =>
      cases n with
      | zero => exact .cons h r
      | succ n => rw [List.drop_succ_cons, List.drop_succ_cons]; exact ih n r
set_option maxHeartbeats 16000000 in
theorem red_mid {w : World} {base h₀ : Heap} {L fa : Addr} {cd : Value} {m : Str → Option Value} {mean : ExcName → Option Value} {mg mb : Str → Option Value} {s : Shared} {Q : Flow → Shared → Prop} {E : Value → Shared → Prop} {led0 led rest own : Led}
    {pen c hdl ll vl pl x d ch : Addr} {po : Obj} {b : Int} {k : Nat} {z rl : Int} {zt rt un ur u1 u2 u3 : Tok} {g1 g2 g3 : Int} {vvs pvs : List Value} {vn pn n nc : Nat} {ts : List T}
    (B : Below callerA base [] h₀) (F : Fr h₀ L s.heap m) (X : (hd.heap_39 w.params).In h₀) (N : News h₀ L s.heap led) (T : Top hd.view_39 lse mean mg mb h₀)
    (e0 : m (Str.ofString "pen") = some (.ref pen)) (e1 : m (Str.ofString "values") = some (.ref vl)) (e2 : m (Str.ofString "plain") = some (.ref pl)) (e3 : m (Str.ofString "node") = some (.ref x)) (e4 : m (Str.ofString "size") = some (.int z zt)) (e5 : m (Str.ofString "rule") = some (.int rl rt)) (e6 : m (Str.ofString "handler") = some (.ref hdl)) (e7 : m (Str.ofString "lengths") = some (.ref ll))
    (hpen : (pen, po) ∈ led0) (hvl : (vl, listOf vvs.toArray vn) ∈ led0) (hpl : (pl, listOf pvs.toArray pn) ∈ led0) (hR : ∀ p ∈ rest ++ own, p ∈ led0) (hs0 : ∀ p ∈ led0, p ∈ led)
    (hx : (x, instObj 147 d) ∈ led) (hdn : (d, nodeDict g1 g2 g3 u1 u2 u3 (nmOf rl) un rl ur ch n) ∈ led) (hch : (ch, listOf (vvs.drop (vvs.length - z.toNat)).toArray nc) ∈ led) (hlt : ∀ p ∈ led0, p.1 < d) (hlt1 : @LT.lt Nat _ d x) (hlt2 : @LT.lt Nat _ x ch)
    (hpo : PenAt po c b) (hf : Fixed rest c hdl ll) (o1 : OwnOff (rest ++ own) [pen, vl, pl]) (o4 : OwnOff own (rest.map (·.1))) (n1 : @Ne Nat pen vl) (n2 : @Ne Nat pen pl) (n3 : @Ne Nat vl pl)
    (hz0 : 0 ≤ z) (hz1 : z ≤ vvs.length) (hr1 : 1 ≤ rl) (hr4 : rl ≤ 4)
    (hv' : TreesIn rest vvs ts) (hd' : DatAll rest pvs (ts.map pd)) (hk : (rpL ts).length ≤ k) (hk' : k ≤ 99)
    (ret : ∀ m' nx' h' tk', Fr h₀ L h' m' → News h₀ L h' (nx' ++ own) → OwnOff own (nx'.map (·.1)) → LawJ b (k + 1) m' nx' → Q .next { s with heap := h', toks := tk' }) :
    wpAny (model prg w) (callerA.deeper (lawEnv L fa cd)) (execs redB6 (lawEnv L fa cd)) Q E s := by
  have F1 := frOnL (ps := [(Str.ofString "pen", .ref pen), (Str.ofString "values", .ref vl), (Str.ofString "plain", .ref pl), (Str.ofString "node", .ref x), (Str.ofString "size", .int z zt), (Str.ofString "rule", .int rl rt), (Str.ofString "handler", .ref hdl), (Str.ofString "lengths", .ref ll)]) F (by
    intro q hq
    simp only [List.mem_cons, List.not_mem_nil, or_false] at hq
    rcases hq with rfl | rfl | rfl | rfl | rfl | rfl | rfl | rfl <;> assumption)
  clear F
  have hvl9 := hv'.length
  have hpl9 := hd'.length
  have hrl9 := rpL_len ts
  rw [List.length_map] at hpl9
  have key : ∀ (m2 : Str → Option Value) (pa : Addr) (pan : Nat) (nw : Led) (h2 : Heap) (tk2 : Nat), Fr h₀ L h2 (fun y => if y = Str.ofString "parts" then some (Value.ref pa) else kstB m [(Str.ofString "pen", .ref pen), (Str.ofString "values", .ref vl), (Str.ofString "plain", .ref pl), (Str.ofString "node", .ref x), (Str.ofString "size", .int z zt), (Str.ofString "rule", .int rl rt), (Str.ofString "handler", .ref hdl), (Str.ofString "lengths", .ref ll)] y) →
      News h₀ L h2 ((pa, listOf (pvs.drop (pvs.length - z.toNat)).toArray pan) :: (nw ++ led)) → wpAny (model prg w) (callerA.deeper (lawEnv L fa cd)) (execs redB7 (lawEnv L fa cd)) Q E { s with heap := h2, toks := tk2 } := by
    intro m2 pa pan nw h2 tk2 F2 N2
    have hup : ∀ p ∈ led, p ∈ (pa, listOf (pvs.drop (pvs.length - z.toNat)).toArray pan) :: (nw ++ led) := fun p hp => .tail _ (List.mem_append.mpr (.inr hp))
    refine red_tail2 (n0 := rest) B F2 X N2 T (by with_unfolding_all rfl) (by with_unfolding_all rfl) (by with_unfolding_all rfl) (by with_unfolding_all rfl) (by with_unfolding_all rfl) (by with_unfolding_all rfl) (fun p hp => hup _ (hs0 _ (hR _ (List.mem_append.mpr (.inl hp))))) (hup _ (hs0 _ hvl)) (hup _ (hs0 _ hpl)) (.head _) hz0 hz1 hr1 hr4 (by omega) (by omega) (by omega) hd' ?_
    intro m' pl' vl' P Nm Lv S pn' vn' p1 p2 nm ys ls ns extra h' tk' F' N' hys hls hns a1 a2 a3 a4 a5 a6 b1 b2 b3 b4 b5 b6 b7 b8 b9 hm' hm1 hm2
    replace a1 := tb_ltOf a1
    replace a2 := tb_ltOf a2
    replace a3 := tb_ltOf a3
    replace a4 := tb_ltOf a4
    replace a5 := tb_ltOf a5
    replace a6 := tb_ltOf a6
    have up0 : ∀ p ∈ led0, p ∈ (pa, listOf (pvs.drop (pvs.length - z.toNat)).toArray pan) :: (nw ++ led) := fun p hp => hup _ (hs0 _ hp)
    have up2 : ∀ p ∈ led, p ∈ (pl', listOf (pvs.take (pvs.length - z.toNat) ++ [Value.ref P]).toArray pn') :: (vl', listOf (vvs.take (vvs.length - z.toNat) ++ [Value.ref x]).toArray vn') ::
        (P, ({ cls := .type "tuple", data := .seq #[.ref S, .ref Lv, .ref Nm] } : Obj)) :: (Nm, listOf (List.toArray ns) p1) :: (Lv, listOf (List.toArray ls) p2) :: (S, ({ cls := .type "tuple", data := .seq (.str (nmOf rl) nm :: ys).toArray } : Obj)) :: (extra ++ (pa, listOf (pvs.drop (pvs.length - z.toNat)).toArray pan) :: (nw ++ led)) :=
      fun p hp => .tail _ (.tail _ (.tail _ (.tail _ (.tail _ (.tail _ (List.mem_append.mpr (.inr (hup _ hp))))))))
    have q1 : @LT.lt Nat _ pen d := hlt _ hpen
    have r1 : @LT.lt Nat _ pen S := a1 _ (up0 _ hpen)
    have r2 : @LT.lt Nat _ pen Lv := a2 _ (up0 _ hpen)
    have r3 : @LT.lt Nat _ pen Nm := a3 _ (up0 _ hpen)
    have r4 : @LT.lt Nat _ pen P := a4 _ (up0 _ hpen)
    have r5 : @LT.lt Nat _ pen vl' := a5 _ (up0 _ hpen)
    have r6 : @LT.lt Nat _ pen pl' := a6 _ (up0 _ hpen)
    have s1 : @LT.lt Nat _ x vl' := a5 _ (hup _ hx)
    have s2 : @LT.lt Nat _ d vl' := a5 _ (hup _ hdn)
    have s3 : @LT.lt Nat _ ch vl' := a5 _ (hup _ hch)
    have s4 : @LT.lt Nat _ x pl' := a6 _ (hup _ hx)
    have s5 : @LT.lt Nat _ d pl' := a6 _ (hup _ hdn)
    have s6 : @LT.lt Nat _ ch pl' := a6 _ (hup _ hch)
    have hcl : (rpL (ts.drop (ts.length - z.toNat))).length + (rpL (ts.take (ts.length - z.toNat))).length = (rpL ts).length := by
      rw [← List.length_append, ← rpL_append, List.take_append_drop]
    have ev : ts.length - z.toNat = vvs.length - z.toNat := by omega
    have ep : ts.length - z.toNat = pvs.length - z.toNat := by omega
    have htk : TreesIn rest (vvs.take (vvs.length - z.toNat)) (ts.take (ts.length - z.toNat)) := by rw [ev]; exact TreesIn_take _ hv'
    have hdr : TreesIn rest (vvs.drop (vvs.length - z.toNat)) (ts.drop (ts.length - z.toNat)) := by rw [ev]; exact TreesIn_drop _ hv'
    have hpt : DatAll rest (pvs.take (pvs.length - z.toNat)) ((ts.take (ts.length - z.toNat)).map pd) := by rw [List.map_take, ep]; exact DatAll_take _ hd'
    generalize hcs : ts.drop (ts.length - z.toNat) = cs at *
    generalize hct : ts.take (ts.length - z.toNat) = ct at *
    have hsub : ∀ p ∈ rest, p ∈ [(P, ({ cls := .type "tuple", data := .seq #[.ref S, .ref Lv, .ref Nm] } : Obj)), (Nm, listOf (List.toArray ns) p1), (Lv, listOf (List.toArray ls) p2), (S, ({ cls := .type "tuple", data := .seq (.str (nmOf rl) nm :: ys).toArray } : Obj)), (x, instObj 147 d), (d, nodeDict g1 g2 g3 u1 u2 u3 (nmOf rl) un rl ur ch n), (ch, listOf (vvs.drop (vvs.length - z.toNat)).toArray nc)] ++ rest :=
      fun p hp => List.mem_append.mpr (.inr hp)
    refine Exists.elim (law_fin (b := b) (k := k + 1) (nw := [(P, ({ cls := .type "tuple", data := .seq #[.ref S, .ref Lv, .ref Nm] } : Obj)), (Nm, listOf (List.toArray ns) p1), (Lv, listOf (List.toArray ls) p2), (S, ({ cls := .type "tuple", data := .seq (.str (nmOf rl) nm :: ys).toArray } : Obj)), (x, instObj 147 d), (d, nodeDict g1 g2 g3 u1 u2 u3 (nmOf rl) un rl ur ch n), (ch, listOf (vvs.drop (vvs.length - z.toNat)).toArray nc)])
      (rest := rest) (own := own) (ts := ct ++ [.node (nmOf rl) rl cs]) (m' := m') N' (up2 _ (hs0 _ hpen)) (.tail _ (.head _)) (.head _) ?z1 (fun p hp => up2 _ (hs0 _ (hR p hp))) hpo hf ?z2 ?z3 ?z4 o4 (by omega) (by omega) b1 ?z5 ?z6 ?z7 ((hm' _ (.inl rfl)).trans (by with_unfolding_all rfl)) ((hm' _ (.inr (.inl rfl))).trans (by with_unfolding_all rfl)) ((hm' _ (.inr (.inr rfl))).trans (by with_unfolding_all rfl)) hm1 hm2) ?z8
    case z8 =>
      rintro nx' ⟨c1, c2, c3⟩
      exact ret m' nx' h' tk' F' c1 c2 c3
    case z1 =>
      intro p hp
      simp only [List.mem_cons, List.not_mem_nil, or_false] at hp
      rcases hp with rfl | rfl | rfl | rfl | rfl | rfl | rfl
      · exact .tail _ (.tail _ (.head _))
      · exact .tail _ (.tail _ (.tail _ (.head _)))
      · exact .tail _ (.tail _ (.tail _ (.tail _ (.head _))))
      · exact .tail _ (.tail _ (.tail _ (.tail _ (.tail _ (.head _)))))
      · exact up2 _ hx
      · exact up2 _ hdn
      · exact up2 _ hch
    case z2 =>
      intro p hp y hy
      have q9 := hR p hp
      simp only [List.mem_cons, List.not_mem_nil, or_false] at hy
      rcases hy with rfl | rfl | rfl
      · exact o1 p hp _ (.head _)
      · exact Nat.ne_of_lt (a5 p (up0 _ q9))
      · exact Nat.ne_of_lt (a6 p (up0 _ q9))
    case z3 =>
      intro p hp
      simp only [List.mem_cons, List.not_mem_nil, or_false] at hp
      rcases hp with rfl | rfl | rfl | rfl | rfl | rfl | rfl <;> (dsimp only; refine ⟨?_, ?_, ?_⟩ <;> first | assumption | omega)
    case z4 =>
      intro q hq p hp
      have q9 := hR p (List.mem_append.mpr (.inr hp))
      have w1 : @LT.lt Nat _ p.1 S := a1 p (up0 _ q9)
      have w2 : @LT.lt Nat _ p.1 Lv := a2 p (up0 _ q9)
      have w3 : @LT.lt Nat _ p.1 Nm := a3 p (up0 _ q9)
      have w4 : @LT.lt Nat _ p.1 P := a4 p (up0 _ q9)
      have w5 : @LT.lt Nat _ p.1 d := hlt p q9
      simp only [List.mem_cons, List.not_mem_nil, or_false] at hq
      rcases hq with rfl | rfl | rfl | rfl | rfl | rfl | rfl <;> (dsimp only; refine neN ?_; omega)
    case z5 => exact TreesIn.append (.cons (.node (.tail _ (.tail _ (.tail _ (.tail _ (.head _))))) (.tail _ (.tail _ (.tail _ (.tail _ (.tail _ (.head _)))))) (.tail _ (.tail _ (.tail _ (.tail _ (.tail _ (.tail _ (.head _))))))) (hdr.mono hsub)) .nil) (htk.mono hsub)
    case z6 =>
      rw [List.map_append]
      refine DatAll.append (hpt.mono hsub) (DatAll.one ?_)
      rw [pd, shape, lv, rd]
      exact DatIn.tuple (vs := [_, _, _]) (.head _) (.cons (.tuple (.tail _ (.tail _ (.tail _ (.head _)))) (.cons (.str _ _) (hys.mono hsub))) (.cons (.list (.tail _ (.tail _ (.head _))) (hls.mono hsub)) (.cons (.list (.tail _ (.head _)) (dats_of_ints hns)) .nil)))
    case z7 =>
      rw [rpL_append, List.length_append]
      simp only [rpL, rp, List.nil_append, List.length_cons]
      omega
  have hpl2 := hs0 _ hpl
  have hvl2 := hs0 _ hvl
  conv in redB6 => whnf
  by_cases hz : z = 0
  · have hdz : pvs.drop (pvs.length - z.toNat) = [] := by rw [hz]; simp
    rw [hdz] at key
    repeat' ((fail_if_success (with_reducible show wpAny _ _ (execs (Stmt.Assign [_] (PySem.Expr.BinOp _ _ _ _) _ :: _) _) _ _ _)); (first | (k_unfold; (try dsimp only)) | (k_end; wrow_close) | walk1 | (dsimp only; walk1) | (leave1; walk_say "STEP leave1"; try dsimp only) | fail "no step"))
    rename Fr _ _ _ _ => F9
    rename News _ _ _ _ => N9
    exact key m _ _ [] _ _ F9 N9
  · repeat' ((fail_if_success (with_reducible show wpAny _ _ (execs (Stmt.Assign [_] (PySem.Expr.BinOp _ _ _ _) _ :: _) _) _ _ _)); (first | (k_unfold; (try dsimp only)) | (k_end; wrow_close) | walk1 | (dsimp only; walk1) | (leave1; walk_say "STEP leave1"; try dsimp only) | fail "no step"))
    rename Fr _ _ _ _ => F9
    rename News _ _ _ _ => N9
    have ez1 : ((pvs.length : Int) - z).toNat = pvs.length - z.toNat := by omega
    rw [ez1] at N9
    exact key m _ _ [] _ _ F9 N9
end
section
theorem modeB4 : PySem.Challenge.rw_on0160_01 = PySem.Challenge.rw_on0160_01 ∧ hd.heap_39 = hd.heap_39 := by
  k_fill
  w_top off
  exact ⟨rfl, rfl⟩
noncomputable def redB3 : List Stmt := redB.drop 3
theorem ne_int_same {w : World} {A : Around} {E : Value → Shared → Prop} {s : Shared} {i : Int} {t u : Tok} {Q : Value → Shared → Prop} (h : Q (.bool false) s) : wpAny (model prg w) A (compareOp .NotEq (.int i t) (.int i u)) Q E s := ne_int (by rw [bne_self_eq_false]; exact h)
theorem eq_int_no {w : World} {A : Around} {E : Value → Shared → Prop} {s : Shared} {i j : Int} {t u : Tok} {Q : Value → Shared → Prop} (hn : ¬ i = j) (h : Q (.bool false) s) : wpAny (model prg w) A (compareOp .Eq (.int i t) (.int j u)) Q E s := eq_int (by rw [beq_eq_false_iff_ne.mpr hn]; exact h)
local macro_rules | `(tactic| walk_at "compareOp NotEq int int") => `(tactic| with_reducible refine ne_int_same ?_)
local macro_rules | `(tactic| walk_at "compareOp Eq int int") => `(tactic| with_reducible refine eq_int_no (by assumption) ?_)
set_option maxHeartbeats 16000000 in
theorem red_tail1 {w : World} {base h₀ : Heap} {L fa : Addr} {cd : Value} {m : Str → Option Value} {mean : ExcName → Option Value} {mg mb : Str → Option Value} {s : Shared} {Q : Flow → Shared → Prop} {E : Value → Shared → Prop} {led rest own : Led}
    {pen c hdl ll vl pl ha : Addr} {po : Obj} {b : Int} {k : Nat} {z rl : Int} {zt rt : Tok} {vvs pvs hvs : List Value} {vn pn han : Nat} {ts : List T}
    (B : Below callerA base [] h₀) (F : Fr h₀ L s.heap m) (X : (hd.heap_39 w.params).In h₀) (N : News h₀ L s.heap led) (T : Top hd.view_39 lse mean mg mb h₀)
    (e0 : m (Str.ofString "pen") = some (.ref pen)) (e1 : m (Str.ofString "values") = some (.ref vl)) (e2 : m (Str.ofString "plain") = some (.ref pl)) (e3 : m (Str.ofString "handed") = some (.ref ha)) (e4 : m (Str.ofString "size") = some (.int z zt)) (e5 : m (Str.ofString "rule") = some (.int rl rt)) (e6 : m (Str.ofString "handler") = some (.ref hdl)) (e7 : m (Str.ofString "lengths") = some (.ref ll))
    (hpen : (pen, po) ∈ led) (hvl : (vl, listOf vvs.toArray vn) ∈ led) (hpl : (pl, listOf pvs.toArray pn) ∈ led) (hha : (ha, listOf hvs.toArray han) ∈ led) (hR : ∀ p ∈ rest ++ own, p ∈ led)
    (hpo : PenAt po c b) (hf : Fixed rest c hdl ll) (o1 : OwnOff (rest ++ own) [pen, vl, pl]) (o4 : OwnOff own (rest.map (·.1))) (n1 : @Ne Nat pen vl) (n2 : @Ne Nat pen pl) (n3 : @Ne Nat vl pl)
    (hz0 : 0 ≤ z) (hz1 : z ≤ vvs.length) (hr1 : 1 ≤ rl) (hr4 : rl ≤ 4) (hz3 : rl = 3 → z = 0) (hh3 : rl ≠ 3 → hvs = vvs.drop (vvs.length - z.toNat)) (hhl : hvs.length ≤ 100)
    (hv' : TreesIn rest vvs ts) (hd' : DatAll rest pvs (ts.map pd)) (hk : (rpL ts).length ≤ k) (hk' : k ≤ 99)
    (ret : ∀ m' nx' h' tk', Fr h₀ L h' m' → News h₀ L h' (nx' ++ own) → OwnOff own (nx'.map (·.1)) → LawJ b (k + 1) m' nx' → Q .next { s with heap := h', toks := tk' }) :
    wpAny (model prg w) (callerA.deeper (lawEnv L fa cd)) (execs redB3 (lawEnv L fa cd)) Q E s := by
  have F1 := frOnL (ps := [(Str.ofString "pen", .ref pen), (Str.ofString "values", .ref vl), (Str.ofString "plain", .ref pl), (Str.ofString "handed", .ref ha), (Str.ofString "size", .int z zt), (Str.ofString "rule", .int rl rt), (Str.ofString "handler", .ref hdl), (Str.ofString "lengths", .ref ll)]) F (by
    intro q hq
    simp only [List.mem_cons, List.not_mem_nil, or_false] at hq
    rcases hq with rfl | rfl | rfl | rfl | rfl | rfl | rfl | rfl <;> assumption)
  clear F
  have hvl9 := hv'.length
  have hpl9 := hd'.length
  have hrl9 := rpL_len ts
  rw [List.length_map] at hpl9
  obtain ⟨_, ⟨hdd, hh, ht, hn, hh1, hh2⟩, _⟩ := id hf
  replace hh1 := hR _ (List.mem_append.mpr (.inl hh1))
  replace hh2 := hR _ (List.mem_append.mpr (.inl hh2))
  rw [show redB3 = nth redB 3 :: nth redB 4 :: nth redB 5 :: redB6 from by with_unfolding_all rfl]
  conv in nth redB 3 => whnf
  conv in nth redB 4 => whnf
  conv in nth redB 5 => whnf
  repeat' ((fail_if_success (with_reducible show wpAny _ _ (call (Value.ref 219) _) _ _ _)); (first | (k_unfold; (try dsimp only)) | (k_end; wrow_close) | walk1 | (dsimp only; walk1) | (leave1; walk_say "STEP leave1"; try dsimp only) | fail "no step"))
  rename Fr _ _ _ _ => F2
  rename News _ _ _ _ => N2
  rename (∀ q ∈ led, q.1 < _) => l1a
  rename_i kp kc _ _ _
  refine' reduce_ok (dp := _) ?B F2 ?X N2 ?T ?hk (.tail _ hh1) (.tail _ hh2) (.tail _ hha) hr1 hr4 (by omega) ?hdp ?hun ?_
  case B => k_asm
  case X => k_asm
  case T => k_asm
  case hk => rfl
  case hdp => decide
  case hun => exact Nat.le_of_ble_eq_true rfl
  intro x d ch g1 g2 g3 u1 u2 u3 un ur n nc h3 tk3 F3 N3 ld lx lc
  clear F2 N2
  have ld' := tb_ltOf ld
  by_cases h3 : rl = 3
  · have hz9 := hz3 h3
    subst h3
    rw [if_pos rfl] at N3
    repeat' ((fail_if_success (with_reducible show wpAny _ _ (execs redB6 _) _ _ _)); (first | (k_unfold; (try dsimp only)) | (k_end; wrow_close) | walk1 | (dsimp only; walk1) | (leave1; walk_say "STEP leave1"; try dsimp only) | fail "no step"))
    dsimp only
    rename Fr _ _ _ _ => F9
    rename News _ _ _ _ => N9
    have hdz : vvs.drop (vvs.length - z.toNat) = [] := by rw [hz9]; simp
    refine red_mid (led0 := led) B F9 X N9 T (by with_unfolding_all rfl) (by with_unfolding_all rfl) (by with_unfolding_all rfl) (by with_unfolding_all rfl) (by with_unfolding_all rfl) (by with_unfolding_all rfl) (by with_unfolding_all rfl) (by with_unfolding_all rfl) hpen hvl hpl hR (fun p hp => .tail _ (.tail _ (.tail _ (.tail _ (.tail _ hp))))) (.tail _ (.tail _ (.head _))) (.tail _ (.tail _ (.tail _ (.head _)))) (by rw [hdz]; exact .tail _ (.head _)) (fun p hp => ld' p (.tail _ hp)) lx lc hpo hf o1 o4 n1 n2 n3 hz0 hz1 hr1 hr4 hv' hd' hk hk' ?_
    intro m' nx' h' tk' c0 c1 c2 c3
    exact ret m' nx' h' tk' c0 c1 c2 c3
  · obtain rfl := hh3 h3
    rw [if_neg h3] at N3
    repeat' ((fail_if_success (with_reducible show wpAny _ _ (execs redB6 _) _ _ _)); (first | (k_unfold; (try dsimp only)) | (k_end; wrow_close) | walk1 | (dsimp only; walk1) | (leave1; walk_say "STEP leave1"; try dsimp only) | fail "no step"))
    dsimp only
    rename Fr _ _ _ _ => F9
    rename News _ _ _ _ => N9
    refine red_mid (led0 := led) B F9 X N9 T (by with_unfolding_all rfl) (by with_unfolding_all rfl) (by with_unfolding_all rfl) (by with_unfolding_all rfl) (by with_unfolding_all rfl) (by with_unfolding_all rfl) (by with_unfolding_all rfl) (by with_unfolding_all rfl) hpen hvl hpl hR (fun p hp => .tail _ (.tail _ (.tail _ (.tail _ hp)))) (.tail _ (.head _)) (.tail _ (.tail _ (.head _))) (.head _) (fun p hp => ld' p (.tail _ hp)) lx lc hpo hf o1 o4 n1 n2 n3 hz0 hz1 hr1 hr4 hv' hd' hk hk' ?_
    intro m' nx' h' tk' c0 c1 c2 c3
    exact ret m' nx' h' tk' c0 c1 c2 c3
end
section
theorem modeB5 : PySem.Challenge.rw_on0160_01 = PySem.Challenge.rw_on0160_01 ∧ hd.heap_39 = hd.heap_39 := by
  k_fill
  w_top off
  exact ⟨rfl, rfl⟩
theorem ne_int_no {w : World} {A : Around} {E : Value → Shared → Prop} {s : Shared} {i j : Int} {t u : Tok} {Q : Value → Shared → Prop} (hn : ¬ i = j) (h : Q (.bool true) s) : wpAny (model prg w) A (compareOp .NotEq (.int i t) (.int j u)) Q E s := ne_int (by rw [bne_iff_ne.mpr hn]; exact h)
theorem ne_int_yes {w : World} {A : Around} {E : Value → Shared → Prop} {s : Shared} {i j : Int} {t u : Tok} {Q : Value → Shared → Prop} (hn : i = j) (h : Q (.bool false) s) : wpAny (model prg w) A (compareOp .NotEq (.int i t) (.int j u)) Q E s := by subst hn; exact ne_int_same h
local macro_rules | `(tactic| walk_at "compareOp NotEq int int") => `(tactic| first | (with_reducible refine ne_int_no (by assumption) ?_) | (with_reducible refine ne_int_yes (by assumption) ?_))
set_option maxHeartbeats 16000000 in
theorem reduce_block {w : World} {base h₀ : Heap} {L fa : Addr} {cd : Value} {m : Str → Option Value} {mean : ExcName → Option Value} {mg mb : Str → Option Value} {s : Shared} {Q : Flow → Shared → Prop} {E : Value → Shared → Prop} {nx own : Led} {b : Int} {k : Nat}
    (B : Below callerA base [] h₀) (F : Fr h₀ L s.heap m) (X : (hd.heap_39 w.params).In h₀) (N : News h₀ L s.heap (nx ++ own)) (T : Top hd.view_39 lse mean mg mb h₀)
    (hoff : OwnOff own (nx.map (·.1))) (J : LawJ b k m nx) (hb : b ≤ 900) (hk : k ≤ 90)
    (ret : ∀ m' nx' h' tk', Fr h₀ L h' m' → News h₀ L h' (nx' ++ own) → OwnOff own (nx'.map (·.1)) → LawJ (b + 1) (k + 1) m' nx' → Q .next { s with heap := h', toks := tk' }) :
    wpAny (model prg w) (callerA.deeper (lawEnv L fa cd)) (execs redB (lawEnv L fa cd)) Q E s := by
  obtain ⟨pen, c, hdl, ll, vl, pl, po, vvs, vn, pvs, pn, ts, rest, rfl, ⟨g, tg, x, tx, p, tp, n, rfl, hg0, hg1, hx0, hx1, hp0, hp1⟩, hf9, hro, hne1, hne2, hne3, hvs, hps, hsz, e1, e2, e3, e4, e5⟩ := J
  obtain ⟨⟨cells, cvs, cn, hc, hci, hcl⟩, ⟨hdd, hh, ht, hn, hh1, hh2⟩, ⟨l1, l2, l4, t0, t1, t2, t3, t4, ln, hl, hl1, hl1', hl2, hl2', hl4, hl4'⟩⟩ := id hf9
  have F1 := frOnL (ps := [(Str.ofString "pen", .ref pen), (Str.ofString "handler", .ref hdl), (Str.ofString "lengths", .ref ll), (Str.ofString "values", .ref vl), (Str.ofString "plain", .ref pl)]) F (by
    intro q hq
    simp only [List.mem_cons, List.not_mem_nil, or_false] at hq
    rcases hq with rfl | rfl | rfl | rfl | rfl <;> assumption)
  simp only [List.cons_append] at N
  have hoffR : OwnOff (rest ++ own) [pen, vl, pl] := by
    intro q hq z hz
    rcases List.mem_append.mp hq with h | h
    · exact hro q h z hz
    · refine hoff q h z ?_
      simp only [List.mem_cons, List.not_mem_nil, or_false] at hz
      simp only [List.map_cons, List.mem_cons]
      rcases hz with h | h | h
      · exact .inl h
      · exact .inr (.inl h)
      · exact .inr (.inr (.inl h))
  have ho4 : OwnOff own (rest.map (·.1)) := fun q hq z hz => hoff q hq z (.tail _ (.tail _ (.tail _ hz)))
  have hsub : ∀ q ∈ rest, q ∈ rest ++ own := fun q hq => List.mem_append.mpr (.inl hq)
  obtain ⟨R, hR⟩ : ∃ R, R = rest ++ own := ⟨_, rfl⟩
  rw [← hR] at N hoffR hsub
  replace hc := hsub _ hc
  replace hh1 := hsub _ hh1
  replace hh2 := hsub _ hh2
  replace hl := hsub _ hl
  clear F
  rw [show redB = nth redB 0 :: nth redB 1 :: nth redB 2 :: redB3 from by with_unfolding_all rfl]
  conv in nth redB 0 => whnf
  conv in nth redB 1 => whnf
  conv in nth redB 2 => whnf
  repeat' ((fail_if_success (with_reducible show wpAny _ _ (call (Value.ref 245) _) _ _ _)); (first | (k_unfold; (try dsimp only)) | (k_end; wrow_close) | walk1 | (dsimp only; walk1) | (leave1; walk_say "STEP leave1"; try dsimp only) | fail "no step"))
  have hbd := hvs.length
  have hbe := hps.length
  have hbf := rpL_len ts
  rw [List.length_map] at hbe
  have hbg : vvs.length ≤ 100 := by omega
  have hbh : pvs.length ≤ 100 := by omega
  (refine' draw_ok ?B F1 ?X N ?T ?hk ?U (.tail _ (.tail _ (.tail _ hc))) hci hcl hg0 hg1 hx0 hx1 hp0 ?hp1 ?hl1 ?hl2 ?hdp ?hun ?_)
  case B => k_asm
  case X => k_asm
  case T => k_asm
  case hk => rfl
  case U => k_updF
  case hp1 => omega
  case hl1 => decide
  case hl2 => decide
  case hdp => decide
  case hun => exact Nat.le_of_ble_eq_true rfl
  intro r tr g' tg' x' tx' tp' n' h2 tk2 F2 N2 hg0' hg1' hx0' hx1' hr0 hr1
  (try dsimp only at N2)
  clear N F1
  repeat' ((fail_if_success (with_reducible show wpAny _ _ (exec (Stmt.Assign [_] (PySem.Expr.IfExp _ _ _ _) _) _) _ _ _)); (first | (k_unfold; (try dsimp only)) | (k_end; wrow_close) | walk1 | (dsimp only; walk1) | (leave1; walk_say "STEP leave1"; try dsimp only) | fail "no step"))
  rename Fr _ _ _ _ => F3
  rename News _ _ _ _ => N3
  rename_i z zt _ _ z1 z2 z3 _
  have hy : 0 ≤ [0, l1, l2, 0, l4].getD (1 + r).toNat 0 ∧ (1 + r = 3 → [0, l1, l2, 0, l4].getD (1 + r).toNat 0 = 0) := by
    have hr : r = 0 ∨ r = 1 ∨ r = 2 ∨ r = 3 := by omega
    rcases hr with rfl | rfl | rfl | rfl
    · exact ⟨hl1, fun h => absurd h (by decide)⟩
    · exact ⟨hl2, fun h => absurd h (by decide)⟩
    · exact ⟨Int.le_refl 0, fun _ => rfl⟩
    · exact ⟨by show 0 ≤ l4; omega, fun h => absurd h (by decide)⟩
  generalize [0, l1, l2, 0, l4].getD (1 + r).toNat 0 = y at *
  obtain ⟨hy0, hy3⟩ := hy
  have hzz : 0 ≤ z := by omega
  have hzl : 1 + r = 3 → z = 0 := fun h => by have := hy3 h; omega
  by_cases h3 : 1 + r = 3
  · repeat' ((fail_if_success (with_reducible show wpAny _ _ (execs redB3 _) _ _ _)); (first | (k_unfold; (try dsimp only)) | (k_end; wrow_close) | walk1 | (dsimp only; walk1) | (leave1; walk_say "STEP leave1"; try dsimp only) | fail "no step"))
    rename Fr _ _ _ _ => F9
    rename News _ _ _ _ => N9
    subst hR
    refine red_tail1 (b := b + 1) (rest := rest) (own := own) B F9 X N9 T (by with_unfolding_all rfl) (by with_unfolding_all rfl) (by with_unfolding_all rfl) (by with_unfolding_all rfl) (by with_unfolding_all rfl) (by with_unfolding_all rfl) (by with_unfolding_all rfl) (by with_unfolding_all rfl) (.tail _ (.head _)) (.tail _ (.tail _ (.head _))) (.tail _ (.tail _ (.tail _ (.head _)))) (.head _) (fun p hp => .tail _ (.tail _ (.tail _ (.tail _ hp)))) ⟨_, _, _, _, _, _, _, rfl, hg0', hg1', hx0', hx1', by omega, by omega⟩ hf9 hoffR ho4 hne1 hne2 hne3 hzz z2 (by omega) (by omega) hzl (fun h => absurd h3 h) (by rw [List.length_drop]; omega) hvs hps hsz (by omega) ?_
    intro m' nx' h' tk' c0 c1 c2 c3
    exact ret m' nx' h' tk' c0 c1 c2 c3
  · repeat' ((fail_if_success (with_reducible show wpAny _ _ (execs redB3 _) _ _ _)); (first | (k_unfold; (try dsimp only)) | (k_end; wrow_close) | walk1 | (dsimp only; walk1) | (leave1; walk_say "STEP leave1"; try dsimp only) | fail "no step"))
    rename Fr _ _ _ _ => F9
    rename News _ _ _ _ => N9
    have ez1 : ((vvs.length : Int) - z).toNat = vvs.length - z.toNat := by omega
    rw [ez1] at N9
    subst hR
    refine red_tail1 (b := b + 1) (rest := rest) (own := own) B F9 X N9 T (by with_unfolding_all rfl) (by with_unfolding_all rfl) (by with_unfolding_all rfl) (by with_unfolding_all rfl) (by with_unfolding_all rfl) (by with_unfolding_all rfl) (by with_unfolding_all rfl) (by with_unfolding_all rfl) (.tail _ (.head _)) (.tail _ (.tail _ (.head _))) (.tail _ (.tail _ (.tail _ (.head _)))) (.head _) (fun p hp => .tail _ (.tail _ (.tail _ (.tail _ hp)))) ⟨_, _, _, _, _, _, _, rfl, hg0', hg1', hx0', hx1', by omega, by omega⟩ hf9 hoffR ho4 hne1 hne2 hne3 hzz z2 (by omega) (by omega) hzl (fun _ => rfl) (by rw [List.length_drop]; omega) hvs hps hsz (by omega) ?_
    intro m' nx' h' tk' c0 c1 c2 c3
    exact ret m' nx' h' tk' c0 c1 c2 c3
end
section
theorem modeB6 : PySem.Challenge.rw_on0160_01 = PySem.Challenge.rw_on0160_01 ∧ hd.heap_39 = hd.heap_39 := by
  k_fill
  w_top off
  exact ⟨rfl, rfl⟩
set_option maxHeartbeats 16000000 in
theorem recover_block {w : World} {base h₀ : Heap} {L fa : Addr} {cd : Value} {m : Str → Option Value} {mean : ExcName → Option Value} {mg mb : Str → Option Value} {s : Shared} {Q : Flow → Shared → Prop} {E : Value → Shared → Prop} {nx own : Led} {b : Int} {k : Nat}
    (B : Below callerA base [] h₀) (F : Fr h₀ L s.heap m) (X : (hd.heap_39 w.params).In h₀) (N : News h₀ L s.heap (nx ++ own)) (T : Top hd.view_39 lse mean mg mb h₀)
    (hoff : OwnOff own (nx.map (·.1))) (J : LawJ b k m nx) (hb : b ≤ 900) (hk : k ≤ 90)
    (ret : ∀ m' nx' h' tk', Fr h₀ L h' m' → News h₀ L h' (nx' ++ own) → OwnOff own (nx'.map (·.1)) → LawJ (b + 1) (k + 1) m' nx' → Q .next { s with heap := h', toks := tk' }) :
    wpAny (model prg w) (callerA.deeper (lawEnv L fa cd)) (execs recB (lawEnv L fa cd)) Q E s := by
  obtain ⟨pen, c, hdl, ll, vl, pl, po, vvs, vn, pvs, pn, ts, rest, rfl, ⟨g, tg, x, tx, p, tp, n, rfl, hg0, hg1, hx0, hx1, hp0, hp1⟩, hf9, hro, hne1, hne2, hne3, hvs, hps, hsz, e1, e2, e3, e4, e5⟩ := J
  obtain ⟨⟨cells, cvs, cn, hc, hci, hcl⟩, ⟨hdd, hh, ht, hn, hh1, hh2⟩, ⟨l1, l2, l4, t0, t1, t2, t3, t4, ln, hl, hl1, hl1', hl2, hl2', hl4, hl4'⟩⟩ := id hf9
  have F1 := frOnL (ps := [(Str.ofString "pen", .ref pen), (Str.ofString "handler", .ref hdl), (Str.ofString "lengths", .ref ll), (Str.ofString "values", .ref vl), (Str.ofString "plain", .ref pl)]) F (by
    intro q hq
    simp only [List.mem_cons, List.not_mem_nil, or_false] at hq
    rcases hq with rfl | rfl | rfl | rfl | rfl <;> assumption)
  simp only [List.cons_append] at N
  have hoffR : OwnOff (rest ++ own) [pen, vl, pl] := by
    intro q hq z hz
    rcases List.mem_append.mp hq with h | h
    · exact hro q h z hz
    · refine hoff q h z ?_
      simp only [List.mem_cons, List.not_mem_nil, or_false] at hz
      simp only [List.map_cons, List.mem_cons]
      rcases hz with h | h | h
      · exact .inl h
      · exact .inr (.inl h)
      · exact .inr (.inr (.inl h))
  have ho4 : OwnOff own (rest.map (·.1)) := fun q hq z hz => hoff q hq z (.tail _ (.tail _ (.tail _ hz)))
  have hsub : ∀ q ∈ rest, q ∈ rest ++ own := fun q hq => List.mem_append.mpr (.inl hq)
  obtain ⟨R, hR⟩ : ∃ R, R = rest ++ own := ⟨_, rfl⟩
  rw [← hR] at N hoffR hsub
  replace hc := hsub _ hc
  replace hh1 := hsub _ hh1
  replace hh2 := hsub _ hh2
  replace hl := hsub _ hl
  clear F
  have hbd := hvs.length
  have hbe := hps.length
  have hbf := rpL_len ts
  rw [List.length_map] at hbe
  have hbg : vvs.length ≤ 100 := by omega
  have hbh : pvs.length ≤ 100 := by omega
  conv in recB => whnf
  repeat' ((fail_if_success (with_reducible show wpAny _ _ (call (Value.ref 245) _) _ _ _)); (first | (k_unfold; (try dsimp only)) | (k_end; wrow_close) | walk1 | (dsimp only; walk1) | (leave1; walk_say "STEP leave1"; try dsimp only) | fail "no step"))
  (refine' draw_ok ?B F1 ?X N ?T ?hk ?U (.tail _ (.tail _ (.tail _ hc))) hci hcl hg0 hg1 hx0 hx1 hp0 ?hp1 ?hl1 ?hl2 ?hdp ?hun ?_)
  case B => k_asm
  case X => k_asm
  case T => k_asm
  case hk => rfl
  case U => k_updF
  case hp1 => omega
  case hl1 => omega
  case hl2 => omega
  case hdp => decide
  case hun => exact Nat.le_of_ble_eq_true rfl
  intro r tr g' tg' x' tx' tp' n' h2 tk2 F2 N2 hg0' hg1' hx0' hx1' hr0 hr1
  (try dsimp only at N2)
  clear N F1
  repeat' ((fail_if_success (with_reducible show wpAny _ _ (call (Value.ref 226) _) _ _ _)); (first | (k_unfold; (try dsimp only)) | (k_end; wrow_close) | walk1 | (dsimp only; walk1) | (leave1; walk_say "STEP leave1"; try dsimp only) | fail "no step"))
  rename Fr _ _ _ _ => F3
  rename News _ _ _ _ => N3
  (refine' recover_ok ?B F3 ?X N3 ?T ?hk ?hdp ?hun ?_)
  case B => k_asm
  case X => k_asm
  case T => k_asm
  case hk => rfl
  case hdp => decide
  case hun => exact Nat.le_of_ble_eq_true rfl
  intro ch1 x1' d1' x2' d2' nc' g1' g2' g3' g4' b1' b2' b3' b4' c1' c2' n7' f1' f2' f3' f4' u1' u2' u3' u4' u5' u6' wt' n8' h4 tk4 F4 N4 q1 q2 q3 q4 q5
  (try dsimp only)
  clear N3 F3
  simp only [AllLt] at q1
  obtain ⟨q6, q7, q8, q9, q10⟩ := q1
  have q12 := allLt_up q2 q10
  have q13 := allLt_up q3 q12
  have q14 := allLt_up q4 q13
  have q15 := allLt_up q5 q14
  k_steps
  rename Fr _ _ _ _ => F9
  rename News _ _ _ _ => N9
  subst hR
  have ee : pvs.length = vvs.length := by omega
  rw [ee] at N9
  generalize hn9 : ((vvs.length : Int) - r).toNat = n9 at N9
  have hpt : DatAll rest (pvs.take n9) ((ts.take n9).map pd) := by rw [List.map_take]; exact DatAll_take _ hps
  have hkk : (rpL (ts.take n9)).length ≤ k := by
    have e9 := congrArg List.length (rpL_append (ts.take n9) (ts.drop n9))
    rw [List.take_append_drop, List.length_append] at e9
    omega
  refine Exists.elim (leaf_fin (c := c) (hdl := hdl) (ll := ll) (rest := rest) (own := own) (b := b + 1) F9 N9 (.head _) (.tail _ (.tail _ (.tail _ (.tail _ (.tail _ (.tail _ (.tail _ (.tail _ (.head _))))))))) (.tail _ (.tail _ (.head _))) (.tail _ (.tail _ (.tail _ (.head _)))) (.tail _ (.tail _ (.tail _ (.tail _ (.head _))))) (.tail _ (.tail _ (.tail _ (.tail _ (.tail _ (.head _)))))) (.tail _ (.tail _ (.tail _ (.tail _ (.tail _ (.tail _ (.head _))))))) (.tail _ (.tail _ (.tail _ (.tail _ (.tail _ (.tail _ (.tail _ (.tail _ (.tail _ (.tail _ (.head _))))))))))) (.tail _ (.tail _ (.tail _ (.tail _ (.tail _ (.tail _ (.tail _ (.tail _ (.tail _ (.tail _ (.tail _ (.head _)))))))))))) (.tail _ (.tail _ (.tail _ (.tail _ (.tail _ (.tail _ (.tail _ (.tail _ (.tail _ (.tail _ (.tail _ (.tail _ (.head _))))))))))))) (.tail _ (.tail _ (.tail _ (.tail _ (.tail _ (.tail _ (.tail _ (.tail _ (.tail _ (.tail _ (.tail _ (.tail _ (.tail _ (.head _)))))))))))))) (.tail _ (.tail _ (.tail _ (.tail _ (.tail _ (.tail _ (.tail _ (.tail _ (.tail _ (.tail _ (.tail _ (.tail _ (.tail _ (.tail _ (.head _))))))))))))))) (.tail _ (.tail _ (.tail _ (.tail _ (.tail _ (.tail _ (.tail _ (.tail _ (.tail _ (.tail _ (.tail _ (.tail _ (.tail _ (.tail _ (.tail _ (.tail _ (.head _))))))))))))))))) (fun p hp => (.tail _ (.tail _ (.tail _ (.tail _ (.tail _ (.tail _ (.tail _ (.tail _ (.tail _ (.tail _ (.tail _ (.tail _ (.tail _ (.tail _ (.tail _ (.tail _ (.tail _ (.tail _ (.tail _ (hp))))))))))))))))))))) ?hl ?hn ⟨_, _, _, _, _, _, _, rfl, hg0', hg1', hx0', hx1', by omega, by omega⟩ hf9 ?o1 ho4 (by refine neN ?_; omega) (by refine neN ?_; omega) (by refine neN ?_; omega) (TreesIn_take n9 hvs) hpt hkk ?w1 ?w2 ?w3 ?w4 ?w5) ?z8
  case z8 =>
    rintro nx' ⟨c1, c2, c3⟩
    exact ret _ nx' _ _ F9 c1 c2 c3
  case w1 => with_unfolding_all rfl
  case w2 => with_unfolding_all rfl
  case w3 => with_unfolding_all rfl
  case w4 => with_unfolding_all rfl
  case w5 => with_unfolding_all rfl
  case hl =>
    intro a ha
    simp only [List.mem_cons, List.not_mem_nil, or_false] at ha
    rcases ha with rfl | rfl | rfl | rfl | rfl | rfl | rfl | rfl | rfl | rfl <;> first | tbn_find | exact allLt_up (by assumption) (by tbn_find)
  case hn =>
    intro a ha
    simp only [List.mem_cons, List.not_mem_nil, or_false] at ha
    rcases ha with rfl | rfl | rfl | rfl | rfl | rfl | rfl | rfl | rfl | rfl <;> (refine ⟨?_, ?_, ?_⟩ <;> (refine neN ?_; omega))
  case o1 =>
    intro p hp y hy
    simp only [List.mem_cons, List.not_mem_nil, or_false] at hy
    rcases hy with rfl | rfl | rfl
    · exact hoffR p hp _ (.head _)
    · exact Nat.ne_of_lt (tb_ltOf (by tbn_find) p hp)
    · exact Nat.ne_of_lt (tb_ltOf (by tbn_find) p hp)
end
section
theorem modeR3 : PySem.Challenge.rw_on0160_01 = PySem.Challenge.rw_on0160_01 ∧ hd.heap_39 = hd.heap_39 := by
  k_fill
  w_top off
  exact ⟨rfl, rfl⟩
noncomputable def shiftB3 : List Stmt := shiftB.drop 3
set_option maxHeartbeats 16000000 in
theorem shift_mid {w : World} {base h₀ : Heap} {L fa : Addr} {cd : Value} {m : Str → Option Value} {mean : ExcName → Option Value} {mg mb : Str → Option Value} {s : Shared} {Q : Flow → Shared → Prop} {E : Value → Shared → Prop} {led : Led}
    {turn : Int} {tt tk tx : Tok} {kd xs : Str} {hdl hdd : Addr}
    (B : Below callerA base [] h₀) (F : Fr h₀ L s.heap m) (X : (hd.heap_39 w.params).In h₀) (N : News h₀ L s.heap led) (T : Top hd.view_39 lse mean mg mb h₀)
    (e1 : m (Str.ofString "turn") = some (.int turn tt)) (e2 : m (Str.ofString "kind") = some (.str kd tk)) (e3 : m (Str.ofString "text") = some (.str xs tx)) (e4 : m (Str.ofString "handler") = some (.ref hdl)) (hh1 : (hdl, instObj 229 hdd) ∈ led) {hh : Int} {ht : Tok} {hn : Nat} (hh2 : (hdd, dictOf [⟨hh, .str (Str.ofString "names") ht, .ref 246⟩] hn) ∈ led)
    (ret : ∀ ch x d x1 d1 nc g1 g2 g3 g4 b1 b2 b3 b4 c1 c2 n7 f1 f2 f3 f4 u1 u2 u3 u4 u5 u6 at_ wt n8 h' tk', Fr h₀ L h' (fun y => if y = Str.ofString "leaf" then some (Value.ref x) else m y) →
      News h₀ L h' ((ch, listOf #[] nc) :: (x, instObj 182 d) :: (d, leafDict g1 g2 g3 g4 b1 b2 b3 b4 kd c1 c2 ch x1 n7) :: (x1, instObj 81 d1) :: (d1, tokDict f1 f2 f3 f4 u1 u2 u3 u4 kd u5 xs u6 at_ (.int 7 wt) n8) :: led) →
      AllLt d1 led → @LT.lt Nat _ d1 x1 → @LT.lt Nat _ x1 d → @LT.lt Nat _ d x → @LT.lt Nat _ x ch → wpAny (model prg w) (callerA.deeper (lawEnv L fa cd)) (execs shiftB3 (lawEnv L fa cd)) Q E { s with heap := h', toks := tk' }) :
    wpAny (model prg w) (callerA.deeper (lawEnv L fa cd)) (execs (nth shiftB 2 :: shiftB3) (lawEnv L fa cd)) Q E s := by
  have hqm := kstOn (ps := [(Str.ofString "turn", .int turn tt), (Str.ofString "kind", .str kd tk), (Str.ofString "text", .str xs tx), (Str.ofString "handler", .ref hdl)]) (m := m) (by
    intro q hq
    simp only [List.mem_cons, List.not_mem_nil, or_false] at hq
    rcases hq with rfl | rfl | rfl | rfl <;> assumption)
  have F1 : Fr h₀ L s.heap (kstB m [(Str.ofString "turn", .int turn tt), (Str.ofString "kind", .str kd tk), (Str.ofString "text", .str xs tx), (Str.ofString "handler", .ref hdl)]) := by rw [hqm]; exact F
  clear F
  conv in nth shiftB 2 => whnf
  repeat' ((fail_if_success (with_reducible show wpAny _ _ (execs shiftB3 _) _ _ _)); (first | (k_unfold; (try dsimp only)) | (k_end; wrow_close) | walk1 | (dsimp only; walk1) | (leave1; walk_say "STEP leave1"; try dsimp only) | fail "no step"))
  rename Fr _ _ _ _ => F9
  rename News _ _ _ _ => N9
  rw [hqm] at F9
  exact ret _ _ _ _ _ _ _ _ _ _ _ _ _ _ _ _ _ _ _ _ _ _ _ _ _ _ _ _ _ _ _ _ F9 (newsC (N9 _ (.head _)) (newsC (N9 _ (.tail _ (.head _))) (newsC (N9 _ (.tail _ (.tail _ (.head _)))) (newsC (N9 _ (.tail _ (.tail _ (.tail _ (.head _))))) (newsC (N9 _ (.tail _ (.tail _ (.tail _ (.tail _ (.head _)))))) (fun p hp => N9 p (.tail _ (.tail _ (.tail _ (.tail _ (.tail _ (.tail _ (.tail _ hp))))))))))))) (by first | tbn_find | exact allLt_of (by assumption)) (by refine ltN ?_; omega) (by refine ltN ?_; omega) (by refine ltN ?_; omega) (by refine ltN ?_; omega)
end
section
theorem modeB7 : PySem.Challenge.rw_on0160_01 = PySem.Challenge.rw_on0160_01 ∧ hd.heap_39 = hd.heap_39 := by
  k_fill
  w_top off
  exact ⟨rfl, rfl⟩
theorem kind_item {w : World} {A : Around} {E : Value → Shared → Prop} {s : Shared} {l : Addr} {value slice : PySem.Expr} {Q : Value → Shared → Prop} {r : Int} {u t0 t1 t2 : Tok}
    (hl : s.heap.IsList l #[.str (Str.ofString "a") t0, .str (Str.ofString "b") t1, .str (Str.ofString "'+'") t2]) (h1 : 0 ≤ r) (h4 : r < 3) (h : ∀ k t, k.length ≤ 3 → Q (.str k t) s)
    (hs : subscripted slice false (.ref l) (.int r u) = operate [.ref l, .int r u] (getItem (.ref l) (.int r u))) :
    wpAny (model prg w) A (subscriptTail value slice (.ref l) (.int r u)) Q E s := by
  have hr : r = 0 ∨ r = 1 ∨ r = 2 := by omega
  rcases hr with rfl | rfl | rfl
  · exact tail_any hl.typeIs slot_list_getitem.lookup (wpAny_getItem_list hl (by decide) (by decide) rfl (h _ _ (by decide))) hs
  · exact tail_any hl.typeIs slot_list_getitem.lookup (wpAny_getItem_list hl (by decide) (by decide) rfl (h _ _ (by decide))) hs
  · exact tail_any hl.typeIs slot_list_getitem.lookup (wpAny_getItem_list hl (by decide) (by decide) rfl (h _ _ (by decide))) hs
local macro_rules | `(tactic| walk_at "subscriptTail") => `(tactic| (k_here; (with_reducible show wpAny _ _ (subscriptTail _ _ (Value.ref _) (Value.int _ _)) _ _ _); k_dflt (refine' kind_item ?a ?b ?c ?_ ?s; (case a => is_list); (case b => assumption); (case c => assumption); (case s => with_unfolding_all rfl)); intro kd' tk' hk'))
theorem mulx {w : World} {A : Around} {E : Value → Shared → Prop} {s : Shared} {Q : Value → Shared → Prop} {i : Int} {t u : Tok} (h0 : 0 ≤ i) (h1 : i < 3) (h : ∀ x t k, x.length ≤ 2 → Q (.str x t) { s with toks := k }) :
    wpAny (model prg w) A (binaryOp .Mult (.str (Str.ofString "x") t) (.int i u)) Q E s := by
  have e : (Str.ofString "x").length = 1 := by decide +kernel
  refine KXi.mul (n := 1) e (by omega) (by omega) (by omega) fun t' k _ hp => h _ t' k ?_
  have := hp h0
  omega
theorem addx {w : World} {A : Around} {E : Value → Shared → Prop} {s : Shared} {Q : Value → Shared → Prop} {x y : Str} {t u : Tok} (h0 : x.length ≤ 3) (h1 : y.length ≤ 2) (h : ∀ z t k, Q (.str z t) { s with toks := k }) :
    wpAny (model prg w) A (binaryOp .Add (.str x t) (.str y u)) Q E s :=
  KXadd.add h0 h1 (by decide) fun t' k _ => h _ t' k
local macro_rules | `(tactic| walk_at "binaryOp Mult str int") => `(tactic| (k_here; (with_reducible refine mulx (by assumption) (by assumption) ?_); intro x' t' k' hx'))
local macro_rules | `(tactic| walk_at "binaryOp Add str str") => `(tactic| (k_here; (with_reducible refine addx (by assumption) (by assumption) ?_); intro x' t' k'))
set_option maxHeartbeats 16000000 in
theorem shift_block {w : World} {base h₀ : Heap} {L fa : Addr} {cd : Value} {m : Str → Option Value} {mean : ExcName → Option Value} {mg mb : Str → Option Value} {s : Shared} {Q : Flow → Shared → Prop} {E : Value → Shared → Prop} {nx own : Led} {b : Int} {k : Nat}
    (B : Below callerA base [] h₀) (F : Fr h₀ L s.heap m) (X : (hd.heap_39 w.params).In h₀) (N : News h₀ L s.heap (nx ++ own)) (T : Top hd.view_39 lse mean mg mb h₀)
    (hoff : OwnOff own (nx.map (·.1))) (J : LawJ b k m nx) {turn : Int} {tt : Tok} (hturn : m (Str.ofString "turn") = some (.int turn tt)) (ht0 : 0 ≤ turn) (ht1 : turn < 100) (hb : b ≤ 900) (hk : k ≤ 90)
    (ret : ∀ m' nx' h' tk', Fr h₀ L h' m' → News h₀ L h' (nx' ++ own) → OwnOff own (nx'.map (·.1)) → LawJ (b + 2) (k + 1) m' nx' → Q .next { s with heap := h', toks := tk' }) :
    wpAny (model prg w) (callerA.deeper (lawEnv L fa cd)) (execs shiftB (lawEnv L fa cd)) Q E s := by
  obtain ⟨pen, c, hdl, ll, vl, pl, po, vvs, vn, pvs, pn, ts, rest, rfl, ⟨g, tg, x, tx, p, tp, n, rfl, hg0, hg1, hx0, hx1, hp0, hp1⟩, hf9, hro, hne1, hne2, hne3, hvs, hps, hsz, e1, e2, e3, e4, e5⟩ := J
  obtain ⟨⟨cells, cvs, cn, hc, hci, hcl⟩, ⟨hdd, hh, ht, hn, hh1, hh2⟩, ⟨l1, l2, l4, t0, t1, t2, t3, t4, ln, hl, hl1, hl1', hl2, hl2', hl4, hl4'⟩⟩ := id hf9
  have F1 := frOnL (ps := [(Str.ofString "turn", .int turn tt), (Str.ofString "pen", .ref pen), (Str.ofString "handler", .ref hdl), (Str.ofString "lengths", .ref ll), (Str.ofString "values", .ref vl), (Str.ofString "plain", .ref pl)]) F (by
    intro q hq
    simp only [List.mem_cons, List.not_mem_nil, or_false] at hq
    rcases hq with rfl | rfl | rfl | rfl | rfl | rfl <;> assumption)
  simp only [List.cons_append] at N
  have hoffR : OwnOff (rest ++ own) [pen, vl, pl] := by
    intro q hq z hz
    rcases List.mem_append.mp hq with h | h
    · exact hro q h z hz
    · refine hoff q h z ?_
      simp only [List.mem_cons, List.not_mem_nil, or_false] at hz
      simp only [List.map_cons, List.mem_cons]
      rcases hz with h | h | h
      · exact .inl h
      · exact .inr (.inl h)
      · exact .inr (.inr (.inl h))
  have ho4 : OwnOff own (rest.map (·.1)) := fun q hq z hz => hoff q hq z (.tail _ (.tail _ (.tail _ hz)))
  have hsub : ∀ q ∈ rest, q ∈ rest ++ own := fun q hq => List.mem_append.mpr (.inl hq)
  obtain ⟨R, hR⟩ : ∃ R, R = rest ++ own := ⟨_, rfl⟩
  rw [← hR] at N hoffR hsub
  replace hc := hsub _ hc
  replace hh1 := hsub _ hh1
  replace hh2 := hsub _ hh2
  replace hl := hsub _ hl
  clear F
  have hbd := hvs.length
  have hbe := hps.length
  have hbf := rpL_len ts
  rw [List.length_map] at hbe
  have hbg : vvs.length ≤ 100 := by omega
  have hbh : pvs.length ≤ 100 := by omega
  conv in shiftB => whnf
  repeat' ((fail_if_success (with_reducible show wpAny _ _ (call (Value.ref 245) _) _ _ _)); (first | (k_unfold; (try dsimp only)) | (k_end; wrow_close) | walk1 | (dsimp only; walk1) | (leave1; walk_say "STEP leave1"; try dsimp only) | fail "no step"))
  rename Fr _ _ _ _ => F1
  rename News _ _ _ _ => N1
  (refine' draw_ok ?B F1 ?X N1 ?T ?hk ?U (.tail _ (.tail _ (.tail _ (.tail _ hc)))) hci hcl hg0 hg1 hx0 hx1 hp0 ?hp1 ?hl1 ?hl2 ?hdp ?hun ?_)
  case B => k_asm
  case X => k_asm
  case T => k_asm
  case hk => rfl
  case U => k_updF
  case hp1 => omega
  case hl1 => decide
  case hl2 => decide
  case hdp => decide
  case hun => exact Nat.le_of_ble_eq_true rfl
  intro r tr g' tg' x' tx' tp' n' h2 tk2 F2 N2 hg0' hg1' hx0' hx1' hr0 hr1
  (try dsimp only at N2)
  clear N1 F1
  repeat' ((fail_if_success (with_reducible show wpAny _ _ (call (Value.ref 245) _) _ _ _)); (first | (k_unfold; (try dsimp only)) | (k_end; wrow_close) | walk1 | (dsimp only; walk1) | (leave1; walk_say "STEP leave1"; try dsimp only) | fail "no step"))
  rename Fr _ _ _ _ => F1
  rename News _ _ _ _ => N1
  (refine' draw_ok ?B F1 ?X N1 ?T ?hk ?U (.tail _ (.tail _ (.tail _ (.tail _ hc)))) hci hcl hg0' hg1' hx0' hx1' (show (0 : Int) ≤ p + 1 by omega) ?hp1 ?hl1 ?hl2 ?hdp ?hun ?_)
  case B => k_asm
  case X => k_asm
  case T => k_asm
  case hk => rfl
  case U => k_updF
  case hp1 => omega
  case hl1 => decide
  case hl2 => decide
  case hdp => decide
  case hun => exact Nat.le_of_ble_eq_true rfl
  intro r2 tr2 g'' tg'' x'' tx'' tp'' n'' h3 tk3 F3 N3 hg0'' hg1'' hx0'' hx1'' hr20 hr21
  (try dsimp only at N3)
  clear N1 F1
  repeat' ((fail_if_success (with_reducible show wpAny _ _ (execs (Stmt.Assign [PySem.Expr.Name (Str.ofString "leaf") _] _ _ :: _) _) _ _ _)); (first | (k_unfold; (try dsimp only)) | (k_end; wrow_close) | walk1 | (dsimp only; walk1) | (leave1; walk_say "STEP leave1"; try dsimp only) | fail "no step"))
  rename Fr _ _ _ _ => F5
  rename News _ _ _ _ => N5
  (with_unfolding_all refine' shift_mid (turn := turn) (tt := tt) ?B F5 ?X N5 ?T ?e1 ?e2 ?e3 ?e4 (.tail _ (.tail _ (.tail _ (.tail _ hh1)))) (.tail _ (.tail _ (.tail _ (.tail _ hh2)))) ?_)
  case B => k_asm
  case X => k_asm
  case T => k_asm
  case e1 => with_unfolding_all rfl
  case e2 => with_unfolding_all rfl
  case e3 => with_unfolding_all rfl
  case e4 => with_unfolding_all rfl
  intro ch1 x1' d1' x2' d2' nc' g1' g2' g3' g4' b1' b2' b3' b4' c1' c2' n7' f1' f2' f3' f4' u1' u2' u3' u4' u5' u6' at' wt' n8' h4 tk4 F4 N4 q1 q2 q3 q4 q5
  clear N5 F5
  (try dsimp only)
  simp only [AllLt] at q1
  obtain ⟨q6, q7, q8, q9, q10⟩ := q1
  have q12 := allLt_up q2 q10
  have q13 := allLt_up q3 q12
  have q14 := allLt_up q4 q13
  have q15 := allLt_up q5 q14
  conv in shiftB3 => whnf
  k_steps
  rename Fr _ _ _ _ => F9
  rename News _ _ _ _ => N9
  subst hR
  simp only [List.push_toArray] at N9
  refine Exists.elim (leaf_fin (c := c) (hdl := hdl) (ll := ll) (rest := rest) (own := own) (b := b + 2) F9 N9 (.tail _ (.tail _ (.tail _ (.tail _ (.tail _ (.tail _ (.tail _ (.tail _ (.tail _ (.tail _ (.tail _ (.tail _ (.tail _ (.tail _ (.head _))))))))))))))) (.tail _ (.tail _ (.tail _ (.tail _ (.tail _ (.tail _ (.tail _ (.tail _ (.tail _ (.tail _ (.tail _ (.tail _ (.tail _ (.head _)))))))))))))) (.head _) (.tail _ (.head _)) (.tail _ (.tail _ (.head _))) (.tail _ (.tail _ (.tail _ (.head _)))) (.tail _ (.tail _ (.tail _ (.tail _ (.head _))))) (.tail _ (.tail _ (.tail _ (.tail _ (.tail _ (.tail _ (.head _))))))) (.tail _ (.tail _ (.tail _ (.tail _ (.tail _ (.tail _ (.tail _ (.head _)))))))) (.tail _ (.tail _ (.tail _ (.tail _ (.tail _ (.tail _ (.tail _ (.tail _ (.head _))))))))) (.tail _ (.tail _ (.tail _ (.tail _ (.tail _ (.tail _ (.tail _ (.tail _ (.tail _ (.head _)))))))))) (.tail _ (.tail _ (.tail _ (.tail _ (.tail _ (.tail _ (.tail _ (.tail _ (.tail _ (.tail _ (.head _))))))))))) (.tail _ (.tail _ (.tail _ (.tail _ (.tail _ (.tail _ (.tail _ (.tail _ (.tail _ (.tail _ (.tail _ (.tail _ (.head _))))))))))))) (fun p hp => (.tail _ (.tail _ (.tail _ (.tail _ (.tail _ (.tail _ (.tail _ (.tail _ (.tail _ (.tail _ (.tail _ (.tail _ (.tail _ (.tail _ (.tail _ hp)))))))))))))))) ?hl ?hn ⟨_, _, _, _, _, _, _, rfl, hg0'', hg1'', hx0'', hx1'', by omega, by omega⟩ hf9 hoffR ho4 hne1 hne2 hne3 hvs hps hsz ?w1 ?w2 ?w3 ?w4 ?w5) ?z8
  case z8 =>
    rintro nx' ⟨c1, c2, c3⟩
    exact ret _ nx' _ _ F9 c1 c2 c3
  case w1 => with_unfolding_all rfl
  case w2 => with_unfolding_all rfl
  case w3 => with_unfolding_all rfl
  case w4 => with_unfolding_all rfl
  case w5 => with_unfolding_all rfl
  case hl =>
    intro a ha
    simp only [List.mem_cons, List.not_mem_nil, or_false] at ha
    rcases ha with rfl | rfl | rfl | rfl | rfl | rfl | rfl | rfl | rfl | rfl <;> first | tbn_find | exact allLt_up (by assumption) (by tbn_find)
  case hn =>
    intro a ha
    simp only [List.mem_cons, List.not_mem_nil, or_false] at ha
    rcases ha with rfl | rfl | rfl | rfl | rfl | rfl | rfl | rfl | rfl | rfl <;> (refine ⟨?_, ?_, ?_⟩ <;> (refine neN ?_; omega))
end
end
section
section
theorem modeG1 : PySem.Challenge.rw_on0160_01 = PySem.Challenge.rw_on0160_01 ∧ hd.heap_39 = hd.heap_39 := by
  k_fill
  w_top off
  exact ⟨rfl, rfl⟩
def testOf : Stmt → PySem.Expr
  | .If t _ _ _ => t
  | _ => default
def posOf : Stmt → Pos
  | .If _ _ _ p => p
  | _ => default
theorem eq_int_yes {w : World} {A : Around} {E : Value → Shared → Prop} {s : Shared} {i j : Int} {t u : Tok} {Q : Value → Shared → Prop} (hn : i = j) (h : Q (.bool true) s) : wpAny (model prg w) A (compareOp .Eq (.int i t) (.int j u)) Q E s := eq_int (by rw [beq_iff_eq.mpr hn]; exact h)
local macro_rules | `(tactic| walk_at "compareOp Eq int int") => `(tactic| first | (with_reducible refine eq_int_no (by assumption) ?_) | (with_reducible refine eq_int_yes (by assumption) ?_))
set_option maxHeartbeats 16000000 in
theorem turn_ok {w : World} {base h₀ : Heap} {L fa : Addr} {cd : Value} {m : Str → Option Value} {mean : ExcName → Option Value} {mg mb : Str → Option Value} {s : Shared} {Q : Flow → Shared → Prop} {E : Value → Shared → Prop} {nx own : Led} {b : Int} {k : Nat}
    (B : Below callerA base [] h₀) (F : Fr h₀ L s.heap m) (X : (hd.heap_39 w.params).In h₀) (N : News h₀ L s.heap (nx ++ own)) (T : Top hd.view_39 lse mean mg mb h₀)
    (hoff : OwnOff own (nx.map (·.1))) (J : LawJ b k m nx) {turn : Int} {tt : Tok} (hturn : m (Str.ofString "turn") = some (.int turn tt)) (ht0 : 0 ≤ turn) (ht1 : turn < 100) (hb : b ≤ 800) (hk : k ≤ 80)
    (ret : ∀ m' nx' h' tk', Fr h₀ L h' m' → News h₀ L h' (nx' ++ own) → OwnOff own (nx'.map (·.1)) → LawJ (b + 4) (k + 1) m' nx' → Q .next { s with heap := h', toks := tk' }) :
    wpAny (model prg w) (callerA.deeper (lawEnv L fa cd)) (execs turnB (lawEnv L fa cd)) Q E s := by
  obtain ⟨pen, c, hdl, ll, vl, pl, po, vvs, vn, pvs, pn, ts, rest, rfl, ⟨g, tg, x, tx, p, tp, n, rfl, hg0, hg1, hx0, hx1, hp0, hp1⟩, hf9, hro, hne1, hne2, hne3, hvs, hps, hsz, e1, e2, e3, e4, e5⟩ := J
  obtain ⟨⟨cells, cvs, cn, hc, hci, hcl⟩, ⟨hdd, hh, ht, hn, hh1, hh2⟩, ⟨l1, l2, l4, t0, t1, t2, t3, t4, ln, hl, hl1, hl1', hl2, hl2', hl4, hl4'⟩⟩ := id hf9
  have F1 := frOnL (ps := [(Str.ofString "turn", .int turn tt), (Str.ofString "pen", .ref pen), (Str.ofString "handler", .ref hdl), (Str.ofString "lengths", .ref ll), (Str.ofString "values", .ref vl), (Str.ofString "plain", .ref pl)]) F (by
    intro q hq
    simp only [List.mem_cons, List.not_mem_nil, or_false] at hq
    rcases hq with rfl | rfl | rfl | rfl | rfl | rfl <;> assumption)
  simp only [List.cons_append] at N
  have hoffR : OwnOff (rest ++ own) [pen, vl, pl] := by
    intro q hq z hz
    rcases List.mem_append.mp hq with h | h
    · exact hro q h z hz
    · refine hoff q h z ?_
      simp only [List.mem_cons, List.not_mem_nil, or_false] at hz
      simp only [List.map_cons, List.mem_cons]
      rcases hz with h | h | h
      · exact .inl h
      · exact .inr (.inl h)
      · exact .inr (.inr (.inl h))
  have ho4 : OwnOff own (rest.map (·.1)) := fun q hq z hz => hoff q hq z (.tail _ (.tail _ (.tail _ hz)))
  have hsub : ∀ q ∈ rest, q ∈ rest ++ own := fun q hq => List.mem_append.mpr (.inl hq)
  obtain ⟨R, hR⟩ : ∃ R, R = rest ++ own := ⟨_, rfl⟩
  rw [← hR] at N hoffR hsub
  replace hc := hsub _ hc
  replace hh1 := hsub _ hh1
  replace hh2 := hsub _ hh2
  replace hl := hsub _ hl
  clear F
  have hchk : ∀ (m2 : Str → Option Value) (nx2 : Led) (h2 : Heap) (tk2 : Nat), Fr h₀ L h2 m2 → News h₀ L h2 (nx2 ++ own) → OwnOff own (nx2.map (·.1)) → LawJ (b + 4) (k + 1) m2 nx2 →
      wpAny (model prg w) (callerA.deeper (lawEnv L fa cd)) (execs [nth turnB 2] (lawEnv L fa cd)) Q E { s with heap := h2, toks := tk2 } := fun m2 nx2 h2 tk2 F2 N2 o2 J2 =>
    check_block B F2 X N2 T o2 J2 (by omega) (by omega) fun h3 tk3 F3 N3 => ret m2 nx2 h3 tk3 F3 N3 o2 J2
  rw [show turnB = [nth turnB 0, Stmt.If (testOf (nth turnB 1)) shiftB [Stmt.If (testOf (nth (elseOf (nth turnB 1)) 0)) recB redB (posOf (nth (elseOf (nth turnB 1)) 0))] (posOf (nth turnB 1)), nth turnB 2] from by with_unfolding_all rfl]
  conv in nth turnB 0 => whnf
  conv in testOf (nth turnB 1) => whnf
  conv in testOf (nth (elseOf (nth turnB 1)) 0) => whnf
  repeat' ((fail_if_success (with_reducible show wpAny _ _ (call (Value.ref 245) _) _ _ _)); (first | (k_unfold; (try dsimp only)) | (k_end; wrow_close) | walk1 | (dsimp only; walk1) | (leave1; walk_say "STEP leave1"; try dsimp only) | fail "no step"))
  (refine' draw_ok ?B F1 ?X N ?T ?hk ?U (.tail _ (.tail _ (.tail _ hc))) hci hcl hg0 hg1 hx0 hx1 hp0 ?hp1 ?hl1 ?hl2 ?hdp ?hun ?_)
  case B => k_asm
  case X => k_asm
  case T => k_asm
  case hk => rfl
  case U => k_updF
  case hp1 => omega
  case hl1 => decide
  case hl2 => decide
  case hdp => decide
  case hun => exact Nat.le_of_ble_eq_true rfl
  intro r tr g' tg' x' tx' tp' n' h2 tk2 F2 N2 hg0' hg1' hx0' hx1' hr0 hr1
  (try dsimp only at N2)
  clear N F1
  have hoffN : ∀ po, OwnOff own (((pen, po) :: (vl, listOf vvs.toArray vn) :: (pl, listOf pvs.toArray pn) :: rest).map (·.1)) := fun po => by
    intro q hq z hz
    refine hoff q hq z ?_
    simpa using hz
  subst hR
  by_cases hw0 : r = 0
  · repeat' ((fail_if_success (with_reducible show wpAny _ _ (execs shiftB _) _ _ _)); (first | (k_unfold; (try dsimp only)) | (k_end; wrow_close) | walk1 | (dsimp only; walk1) | (leave1; walk_say "STEP leave1"; try dsimp only) | fail "no step"))
    rename Fr _ _ _ _ => F9
    rename News _ _ _ _ => N9
    refine shift_block (b := b + 1) (nx := (pen, penObj c g' tg' x' tx' (p + 1) tp' n') :: (vl, listOf vvs.toArray vn) :: (pl, listOf pvs.toArray pn) :: rest) (own := own) B F9 X N9 T (hoffN _) ⟨pen, c, hdl, ll, vl, pl, _, vvs, vn, pvs, pn, ts, rest, rfl, ⟨_, _, _, _, _, _, _, rfl, hg0', hg1', hx0', hx1', by omega, by omega⟩, hf9, hro, hne1, hne2, hne3, hvs, hps, hsz, by with_unfolding_all rfl, by with_unfolding_all rfl, by with_unfolding_all rfl, by with_unfolding_all rfl, by with_unfolding_all rfl⟩ (by with_unfolding_all rfl) ht0 ht1 (by omega) (by omega) ?_
    intro m' nx' h' tk' c0 c1 c2 c3
    exact hchk m' nx' _ _ c0 c1 c2 (c3.mono (by omega) (by omega))
  · by_cases hw3 : r = 3
    · repeat' ((fail_if_success (with_reducible show wpAny _ _ (call (Value.ref 245) _) _ _ _)); (first | (k_unfold; (try dsimp only)) | (k_end; wrow_close) | walk1 | (dsimp only; walk1) | (leave1; walk_say "STEP leave1"; try dsimp only) | fail "no step"))
      rename Fr _ _ _ _ => F3
      rename News _ _ _ _ => N3
      (refine' draw_ok ?B F3 ?X N3 ?T ?hk ?U (.tail _ (.tail _ (.tail _ hc))) hci hcl hg0' hg1' hx0' hx1' (show (0 : Int) ≤ p + 1 by omega) ?hp1 ?hl1 ?hl2 ?hdp ?hun ?_)
      case B => k_asm
      case X => k_asm
      case T => k_asm
      case hk => rfl
      case U => k_updF
      case hp1 => omega
      case hl1 => decide
      case hl2 => decide
      case hdp => decide
      case hun => exact Nat.le_of_ble_eq_true rfl
      intro r2 tr2 g'' tg'' x'' tx'' tp'' n'' h3 tk3 F4 N4 hg0'' hg1'' hx0'' hx1'' hr20 hr21
      (try dsimp only at N4)
      clear N3 F3
      by_cases hw1 : r2 = 1
      · repeat' ((fail_if_success (with_reducible show wpAny _ _ (execs recB _) _ _ _)); (first | (k_unfold; (try dsimp only)) | (k_end; wrow_close) | walk1 | (dsimp only; walk1) | (leave1; walk_say "STEP leave1"; try dsimp only) | fail "no step"))
        rename Fr _ _ _ _ => F9
        rename News _ _ _ _ => N9
        refine recover_block (b := b + 2) (nx := (pen, penObj c g'' tg'' x'' tx'' (p + 1 + 1) tp'' n'') :: (vl, listOf vvs.toArray vn) :: (pl, listOf pvs.toArray pn) :: rest) (own := own) B F9 X N9 T (hoffN _) ⟨pen, c, hdl, ll, vl, pl, _, vvs, vn, pvs, pn, ts, rest, rfl, ⟨_, _, _, _, _, _, _, rfl, hg0'', hg1'', hx0'', hx1'', by omega, by omega⟩, hf9, hro, hne1, hne2, hne3, hvs, hps, hsz, by with_unfolding_all rfl, by with_unfolding_all rfl, by with_unfolding_all rfl, by with_unfolding_all rfl, by with_unfolding_all rfl⟩ (by omega) (by omega) ?_
        intro m' nx' h' tk' c0 c1 c2 c3
        refine wpAny_execs_nil ?_
        exact hchk m' nx' _ _ c0 c1 c2 (c3.mono (by omega) (by omega))
      · repeat' ((fail_if_success (with_reducible show wpAny _ _ (execs redB _) _ _ _)); (first | (k_unfold; (try dsimp only)) | (k_end; wrow_close) | walk1 | (dsimp only; walk1) | (leave1; walk_say "STEP leave1"; try dsimp only) | fail "no step"))
        rename Fr _ _ _ _ => F9
        rename News _ _ _ _ => N9
        refine reduce_block (b := b + 2) (nx := (pen, penObj c g'' tg'' x'' tx'' (p + 1 + 1) tp'' n'') :: (vl, listOf vvs.toArray vn) :: (pl, listOf pvs.toArray pn) :: rest) (own := own) B F9 X N9 T (hoffN _) ⟨pen, c, hdl, ll, vl, pl, _, vvs, vn, pvs, pn, ts, rest, rfl, ⟨_, _, _, _, _, _, _, rfl, hg0'', hg1'', hx0'', hx1'', by omega, by omega⟩, hf9, hro, hne1, hne2, hne3, hvs, hps, hsz, by with_unfolding_all rfl, by with_unfolding_all rfl, by with_unfolding_all rfl, by with_unfolding_all rfl, by with_unfolding_all rfl⟩ (by omega) (by omega) ?_
        intro m' nx' h' tk' c0 c1 c2 c3
        refine wpAny_execs_nil ?_
        exact hchk m' nx' _ _ c0 c1 c2 (c3.mono (by omega) (by omega))
    · repeat' ((fail_if_success (with_reducible show wpAny _ _ (execs redB _) _ _ _)); (first | (k_unfold; (try dsimp only)) | (k_end; wrow_close) | walk1 | (dsimp only; walk1) | (leave1; walk_say "STEP leave1"; try dsimp only) | fail "no step"))
      rename Fr _ _ _ _ => F9
      rename News _ _ _ _ => N9
      refine reduce_block (b := b + 1) (nx := (pen, penObj c g' tg' x' tx' (p + 1) tp' n') :: (vl, listOf vvs.toArray vn) :: (pl, listOf pvs.toArray pn) :: rest) (own := own) B F9 X N9 T (hoffN _) ⟨pen, c, hdl, ll, vl, pl, _, vvs, vn, pvs, pn, ts, rest, rfl, ⟨_, _, _, _, _, _, _, rfl, hg0', hg1', hx0', hx1', by omega, by omega⟩, hf9, hro, hne1, hne2, hne3, hvs, hps, hsz, by with_unfolding_all rfl, by with_unfolding_all rfl, by with_unfolding_all rfl, by with_unfolding_all rfl, by with_unfolding_all rfl⟩ (by omega) (by omega) ?_
      intro m' nx' h' tk' c0 c1 c2 c3
      refine wpAny_execs_nil ?_
      exact hchk m' nx' _ _ c0 c1 c2 (c3.mono (by omega) (by omega))
end
section
theorem law_range {prog : Program} {w : World} {A : Around} {E : Value → Shared → Prop} {s : Shared} {env : Env} {h₀ : Heap} {x : Str} {body : List Stmt} {Q : Flow → Shared → Prop}
    {r : Addr} {b₀ : Int} {t₀ u₀ v₀ : Tok} {n : Nat} {m₀ : Str → Option Value} {news nx₀ : Led} (J : Nat → (Str → Option Value) → Led → Prop)
    (hh : A.handled = none) (hr : IsRange s.heap r 0 b₀ 1 t₀ u₀ v₀) (hsmall : Builtin.Range.small 0 b₀ 1 = true) (hsz : Builtin.Range.rangeSize 0 b₀ 1 = (n : Int)) (F : Fr h₀ env.locals s.heap m₀) (N : News h₀ env.locals s.heap news) (hn : ∀ p ∈ nx₀, p ∈ news) (hj : J 0 m₀ nx₀)
    (turn : ∀ (i : Nat) t m₁ nx h tk own, i < n → OwnOff own (nx.map (·.1)) → J i m₁ nx → Fr h₀ env.locals h (fun y => if y = x then some (.int (i : Int) t) else m₁ y) → News h₀ env.locals h (nx ++ own) →
      wpAny (model prog w) A (execs body env) (InvPostG h₀ env.locals (J (i + 1)) own { s with heap := h, toks := tk } Q) E { s with heap := h, toks := tk })
    (done : ∀ m₁ nx h tk, J n m₁ nx → Fr h₀ env.locals h m₁ → News h₀ env.locals h nx → Q .next { s with heap := h, toks := tk }) :
    wpAny (model prog w) A (pyIter (.ref r)) (fun it s₂ => LoopAtV prog w A h₀ env x body Q E it s₂) E s := by
  refine wpAny_pyIter_range hr hsmall ?_
  have W : Walks prog w A s.heap.objs.size [s.heap.objs.size] [s.heap.objs.size] n (fun i v => i < n ∧ ∃ t, v = .int (0 + i * 1) t)
      (fun i h => IsRangeIter h s.heap.objs.size (0 + (i : Nat) * 1) ((n : Int) - (i : Nat)) 1) := (Walks.range hh _ 0 1 n).bound
  refine kdr_loop J W (fun _ h => h) (fun _ h => h) ?_ ?_ ?_ ?_ (by show IsRangeIter _ _ _ _ _; rw [hsz]; simpa using Heap.get?_push_size _ rfl) (F.push _) (fun p hp => ⟨Heap.get?_push_of_some _ (N p (hn p hp)).1, (N p (hn p hp)).2⟩) hj ?_ ?_
  · intro i h hi b hb
    rw [List.mem_singleton.mp hb]
    exact ⟨_, hi⟩
  · intro hm
    exact absurd F.ns.lt ((List.mem_singleton.mp hm) ▸ Nat.lt_irrefl _)
  · intro b hb
    rw [List.mem_singleton.mp hb]
    exact next_is_new F
  · intro p hp hI
    exact absurd (Heap.lt_size (N p (hn p hp)).1) ((List.mem_singleton.mp hI) ▸ Nat.lt_irrefl _)
  · rintro i v m₁ nx h tk own hi ⟨_, t, rfl⟩ hoff hJ F₁ N₁
    have e1 : 0 + (i : Int) * 1 = (i : Int) := by omega
    rw [e1] at F₁
    exact turn i t m₁ nx h tk own hi hoff hJ F₁ N₁
  · exact fun m₁ nx h tk hJ F₁ N₁ => done m₁ nx h tk hJ F₁ N₁
theorem law_start {h₀ h : Heap} {L : Addr} {m : Str → Option Value} {pl vl ll hdl hdd pen c : Addr} {a1 a2 a3 a4 cn n : Nat} {t0 t1 t2 t3 t4 tg tx tp ht : Tok} {r1 r2 r3 g x p hh : Int} {cvs : List Value} {cells : List Int} {b : Int}
    (F8 : Fr h₀ L h m) (N : News h₀ L h [(pl, listOf #[] a1), (vl, listOf #[] a2), (ll, listOf #[.int 0 t0, .int r1 t1, .int r2 t2, .int 0 t3, .int (1 + r3) t4] a3), (hdl, instObj 229 hdd), (hdd, dictOf [⟨hh, .str (Str.ofString "names") ht, .ref 246⟩] a4), (pen, penObj c g tg x tx p tp n), (c, listOf (List.toArray cvs) cn)])
    (hi : IntsAre cvs cells) (hl : cells.length ≤ 48) (hg0 : 0 ≤ g) (hg1 : g < 10 ^ 240) (hx0 : 0 ≤ x) (hx1 : x < 2147483647) (hp0 : 0 ≤ p) (hpb : p ≤ b) (x1 : 0 ≤ r1) (x2 : r1 < 4) (x3 : 0 ≤ r2) (x4 : r2 < 3) (x5 : 0 ≤ r3) (x6 : r3 < 2)
    (o : ∀ q ∈ [ll, hdl, hdd, c], (@Ne Nat q pen) ∧ (@Ne Nat q vl) ∧ (@Ne Nat q pl)) (n1 : @Ne Nat pen vl) (n2 : @Ne Nat pen pl) (n3 : @Ne Nat vl pl)
    (e1 : m (Str.ofString "pen") = some (.ref pen)) (e2 : m (Str.ofString "handler") = some (.ref hdl)) (e3 : m (Str.ofString "lengths") = some (.ref ll)) (e4 : m (Str.ofString "values") = some (.ref vl)) (e5 : m (Str.ofString "plain") = some (.ref pl)) :
    ∃ nx, (News h₀ L h nx) ∧ LawJ b 0 m nx := by
  refine ⟨(pen, penObj c g tg x tx p tp n) :: (vl, listOf (List.toArray ([] : List Value)) a2) :: (pl, listOf (List.toArray ([] : List Value)) a1) :: [(ll, listOf #[.int 0 t0, .int r1 t1, .int r2 t2, .int 0 t3, .int (1 + r3) t4] a3), (hdl, instObj 229 hdd), (hdd, dictOf [⟨hh, .str (Str.ofString "names") ht, .ref 246⟩] a4), (c, listOf (List.toArray cvs) cn)], ?_,
    pen, c, hdl, ll, vl, pl, _, [], a2, [], a1, [], _, rfl, ⟨_, _, _, _, _, _, _, rfl, hg0, hg1, hx0, hx1, hp0, hpb⟩, ⟨⟨cells, cvs, cn, .tail _ (.tail _ (.tail _ (.head _))), hi, hl⟩, ⟨hdd, hh, ht, a4, .tail _ (.head _), .tail _ (.tail _ (.head _))⟩, ⟨r1, r2, 1 + r3, t0, t1, t2, t3, t4, a3, .head _, x1, by omega, x3, by omega, by omega, by omega⟩⟩, ?_, n1, n2, n3, .nil, .nil, by simp [rpL], e1, e2, e3, e4, e5⟩
  · intro q hq
    simp only [List.mem_cons, List.not_mem_nil, or_false] at hq
    rcases hq with rfl | rfl | rfl | rfl | rfl | rfl | rfl
    · exact N _ (.tail _ (.tail _ (.tail _ (.tail _ (.tail _ (.head _))))))
    · exact N _ (.tail _ (.head _))
    · exact N _ (.head _)
    · exact N _ (.tail _ (.tail _ (.head _)))
    · exact N _ (.tail _ (.tail _ (.tail _ (.head _))))
    · exact N _ (.tail _ (.tail _ (.tail _ (.tail _ (.head _)))))
    · exact N _ (.tail _ (.tail _ (.tail _ (.tail _ (.tail _ (.tail _ (.head _)))))))
  · intro q hq z hz
    obtain ⟨y1, y2, y3⟩ := o q.1 (by simpa using List.mem_map.mpr ⟨q, hq, rfl⟩)
    simp only [List.mem_cons, List.not_mem_nil, or_false] at hz
    rcases hz with rfl | rfl | rfl
    · exact y1
    · exact y2
    · exact y3
end
section
theorem modeG3 : PySem.Challenge.rw_on0160_01 = PySem.Challenge.rw_on0160_01 ∧ hd.heap_39 = hd.heap_39 := by
  k_fill
  w_top off
  exact ⟨rfl, rfl⟩
def tgtOf : Stmt → PySem.Expr
  | .For t _ _ _ _ => t
  | _ => default
def iterOf : Stmt → PySem.Expr
  | .For _ i _ _ _ => i
  | _ => default
def fposOf : Stmt → Pos
  | .For _ _ _ _ p => p
  | _ => default
set_option maxHeartbeats 16000000 in
theorem law_body {w : World} {base h₀ : Heap} {L fa cd : Addr} {m : Str → Option Value} {mean : ExcName → Option Value} {mg mb : Str → Option Value} {s : Shared} {Q : Flow → Shared → Prop} {E : Value → Shared → Prop} {l : Addr} {vs : List Value} {ns : List Int}
    (B : Below callerA base [] h₀) (F : Fr h₀ L s.heap m) (X : (hd.heap_39 w.params).In h₀) (N : News h₀ L s.heap []) (T : Top hd.view_39 lse mean mg mb h₀)
    (em : m (Str.ofString "script") = some (.ref l)) (hl : base.IsList l vs.toArray) (hI : IntsAre vs ns) (hL : (PyData.list (List.map PyData.int ns)).layable0 = true) (hn : ns.length ≤ 63) (hE : PassesOwn (model prg w) (callerA.deeper (lawEnv L fa (.ref cd))) (lawEnv L fa (.ref cd)) E)
    (ret : ∀ m' h' tk', Fr h₀ L h' m' → Q (.ret (.bool true)) { s with heap := h', toks := tk' }) :
    wpAny (model prg w) (callerA.deeper (lawEnv L fa (.ref cd))) (execs lawB (lawEnv L fa (.ref cd))) Q E s := by
  have F1 := frOnL (ps := [(Str.ofString "script", .ref l)]) F (by
    intro q hq
    rw [List.mem_singleton.mp hq]; exact em)
  clear F
  rw [show lawB = [nth lawB 0, nth lawB 1, nth lawB 2, nth lawB 3, nth lawB 4, Stmt.For (tgtOf (nth lawB 5)) (iterOf (nth lawB 5)) turnB [] (fposOf (nth lawB 5)), nth lawB 6, nth lawB 7] from by with_unfolding_all rfl]
  conv in nth lawB 0 => whnf
  conv in nth lawB 1 => whnf
  conv in nth lawB 2 => whnf
  conv in nth lawB 3 => whnf
  conv in nth lawB 4 => whnf
  conv in tgtOf _ => whnf
  conv in iterOf _ => whnf
  repeat' ((fail_if_success (with_reducible show wpAny _ _ (call (Value.ref 238) _) _ _ _)); (first | (k_unfold; (try dsimp only)) | (k_end; wrow_close) | walk1 | (dsimp only; walk1) | (leave1; walk_say "STEP leave1"; try dsimp only) | fail "no step"))
  refine' pen_ok ?B F1 ?X N ?T ?hk ?hl hI hL hn ?hdp ?hun ?_
  case B => k_asm
  case X => k_asm
  case T => k_asm
  case hk => rfl
  case hl => exact hl
  case hdp => decide
  case hun => exact Nat.le_of_ble_eq_true rfl
  intro pen c cells cvs cn' g tg x tx tp n h1 tk1 F2 N2 hpc hci hcl hg0 hg1 hx0 hx1
  clear N F1
  repeat' ((fail_if_success (with_reducible show wpAny _ _ (call (Value.ref 245) _) _ _ _)); (first | (k_unfold; (try dsimp only)) | (k_end; wrow_close) | walk1 | (dsimp only; walk1) | (leave1; walk_say "STEP leave1"; try dsimp only) | fail "no step"))
  rename Fr _ _ _ _ => FA1
  rename News _ _ _ _ => NA1
  (refine' draw_ok (cvs := cvs) (cells := cells) ?B FA1 ?X NA1 ?T ?hk ?U ?hc hci hcl hg0 hg1 hx0 hx1 (show (0 : Int) ≤ 0 by decide) ?hp1 ?hl1 ?hl2 ?hdp ?hun ?_)
  case B => k_asm
  case X => k_asm
  case T => k_asm
  case hk => rfl
  case U => k_updF
  case hc => first | exact .head _ | exact .tail _ (.head _) | exact .tail _ (.tail _ (.head _)) | exact .tail _ (.tail _ (.tail _ (.head _))) | exact .tail _ (.tail _ (.tail _ (.tail _ (.head _)))) | exact .tail _ (.tail _ (.tail _ (.tail _ (.tail _ (.head _))))) | exact .tail _ (.tail _ (.tail _ (.tail _ (.tail _ (.tail _ (.head _)))))) | exact .tail _ (.tail _ (.tail _ (.tail _ (.tail _ (.tail _ (.tail _ (.head _)))))))
  case hp1 => decide
  case hl1 => decide
  case hl2 => decide
  case hdp => decide
  case hun => exact Nat.le_of_ble_eq_true rfl
  intro r1 tr1 g' tg' x' tx' tp' n' hh1 tkk1 FB1 NB1 hg0' hg1' hx0' hx1' hr1a hr1b
  (try dsimp only at NB1)
  clear NA1 FA1
  repeat' ((fail_if_success (with_reducible show wpAny _ _ (call (Value.ref 245) _) _ _ _)); (first | (k_unfold; (try dsimp only)) | (k_end; wrow_close) | walk1 | (dsimp only; walk1) | (leave1; walk_say "STEP leave1"; try dsimp only) | fail "no step"))
  rename Fr _ _ _ _ => FA2
  rename News _ _ _ _ => NA2
  (refine' draw_ok (cvs := cvs) (cells := cells) ?B FA2 ?X NA2 ?T ?hk ?U ?hc hci hcl hg0' hg1' hx0' hx1' (show (0 : Int) ≤ 0 + 1 by decide) ?hp1 ?hl1 ?hl2 ?hdp ?hun ?_)
  case B => k_asm
  case X => k_asm
  case T => k_asm
  case hk => rfl
  case U => k_updF
  case hc => first | exact .head _ | exact .tail _ (.head _) | exact .tail _ (.tail _ (.head _)) | exact .tail _ (.tail _ (.tail _ (.head _))) | exact .tail _ (.tail _ (.tail _ (.tail _ (.head _)))) | exact .tail _ (.tail _ (.tail _ (.tail _ (.tail _ (.head _))))) | exact .tail _ (.tail _ (.tail _ (.tail _ (.tail _ (.tail _ (.head _)))))) | exact .tail _ (.tail _ (.tail _ (.tail _ (.tail _ (.tail _ (.tail _ (.head _)))))))
  case hp1 => decide
  case hl1 => decide
  case hl2 => decide
  case hdp => decide
  case hun => exact Nat.le_of_ble_eq_true rfl
  intro r2 tr2 g'' tg'' x'' tx'' tp'' n'' hh2 tkk2 FB2 NB2 hg0'' hg1'' hx0'' hx1'' hr2a hr2b
  (try dsimp only at NB2)
  clear NA2 FA2
  repeat' ((fail_if_success (with_reducible show wpAny _ _ (call (Value.ref 245) _) _ _ _)); (first | (k_unfold; (try dsimp only)) | (k_end; wrow_close) | walk1 | (dsimp only; walk1) | (leave1; walk_say "STEP leave1"; try dsimp only) | fail "no step"))
  rename Fr _ _ _ _ => FA3
  rename News _ _ _ _ => NA3
  (refine' draw_ok (cvs := cvs) (cells := cells) ?B FA3 ?X NA3 ?T ?hk ?U ?hc hci hcl hg0'' hg1'' hx0'' hx1'' (show (0 : Int) ≤ 0 + 1 + 1 by decide) ?hp1 ?hl1 ?hl2 ?hdp ?hun ?_)
  case B => k_asm
  case X => k_asm
  case T => k_asm
  case hk => rfl
  case U => k_updF
  case hc => first | exact .head _ | exact .tail _ (.head _) | exact .tail _ (.tail _ (.head _)) | exact .tail _ (.tail _ (.tail _ (.head _))) | exact .tail _ (.tail _ (.tail _ (.tail _ (.head _)))) | exact .tail _ (.tail _ (.tail _ (.tail _ (.tail _ (.head _))))) | exact .tail _ (.tail _ (.tail _ (.tail _ (.tail _ (.tail _ (.head _)))))) | exact .tail _ (.tail _ (.tail _ (.tail _ (.tail _ (.tail _ (.tail _ (.head _)))))))
  case hp1 => decide
  case hl1 => decide
  case hl2 => decide
  case hdp => decide
  case hun => exact Nat.le_of_ble_eq_true rfl
  intro r3 tr3 g''' tg''' x''' tx''' tp''' n''' hh3 tkk3 FB3 NB3 hg0''' hg1''' hx0''' hx1''' hr3a hr3b
  (try dsimp only at NB3)
  clear NA3 FA3
  repeat' ((fail_if_success (with_reducible show wpAny _ _ (exec (Stmt.For _ _ _ _ _) _) _ _ _)); (first | (k_unfold; (try dsimp only)) | (k_end; wrow_close) | walk1 | (dsimp only; walk1) | (leave1; walk_say "STEP leave1"; try dsimp only) | fail "no step"))
  refine For_invV h₀ (by with_unfolding_all rfl) (by with_unfolding_all rfl) ?_ (by intro _; with_unfolding_all rfl) hE
  repeat' ((fail_if_success (with_reducible show wpAny _ _ (call (Value.ref 245) _) _ _ _)); (first | (k_unfold; (try dsimp only)) | (k_end; wrow_close) | walk1 | (dsimp only; walk1) | (leave1; walk_say "STEP leave1"; try dsimp only) | fail "no step"))
  rename Fr _ _ _ _ => FA4
  rename News _ _ _ _ => NA4
  (refine' draw_ok (cvs := cvs) (cells := cells) ?B FA4 ?X NA4 ?T ?hk ?U ?hc hci hcl hg0''' hg1''' hx0''' hx1''' (show (0 : Int) ≤ 0 + 1 + 1 + 1 by decide) ?hp1 ?hl1 ?hl2 ?hdp ?hun ?_)
  case B => k_asm
  case X => k_asm
  case T => k_asm
  case hk => rfl
  case U => k_updF
  case hc => first | exact .head _ | exact .tail _ (.head _) | exact .tail _ (.tail _ (.head _)) | exact .tail _ (.tail _ (.tail _ (.head _))) | exact .tail _ (.tail _ (.tail _ (.tail _ (.head _)))) | exact .tail _ (.tail _ (.tail _ (.tail _ (.tail _ (.head _))))) | exact .tail _ (.tail _ (.tail _ (.tail _ (.tail _ (.tail _ (.head _)))))) | exact .tail _ (.tail _ (.tail _ (.tail _ (.tail _ (.tail _ (.tail _ (.head _)))))))
  case hp1 => decide
  case hl1 => decide
  case hl2 => decide
  case hdp => decide
  case hun => exact Nat.le_of_ble_eq_true rfl
  intro r4 tr4 g'''' tg'''' x'''' tx'''' tp'''' n'''' hh4 tkk4 FB4 NB4 hg0'''' hg1'''' hx0'''' hx1'''' hr4a hr4b
  (try dsimp only at NB4)
  clear NA4 FA4
  repeat' ((fail_if_success (with_reducible show wpAny _ _ (pyIter _) _ _ _)); (first | (k_unfold; (try dsimp only)) | (k_end; wrow_close) | walk1 | (dsimp only; walk1) | (leave1; walk_say "STEP leave1"; try dsimp only) | fail "no step"))
  rename Fr _ _ _ _ => FX
  rename News _ _ _ _ => NX
  refine Exists.elim (law_start (b := 4) (cells := cells) FX NX hci hcl hg0'''' hg1'''' hx0'''' hx1'''' (by decide) (by decide) hr1a hr1b hr2a hr2b hr3a hr3b ?o ?n1 ?n2 ?n3 (by with_unfolding_all rfl) (by with_unfolding_all rfl) (by with_unfolding_all rfl) (by with_unfolding_all rfl) (by with_unfolding_all rfl)) ?main
  case o =>
    intro q hq
    simp only [List.mem_cons, List.not_mem_nil, or_false] at hq
    rcases hq with rfl | rfl | rfl | rfl <;> (refine ⟨?_, ?_, ?_⟩ <;> first | omega | exact Ne.symm hpc)
  case n1 => omega
  case n2 => omega
  case n3 => omega
  case main =>
    rintro nx0 ⟨NJ, J0⟩
    refine law_range (n := r4.toNat) (nx₀ := nx0) (news := nx0) (fun i m nx => LawJ (4 + 4 * (i : Int)) i m nx) rfl (by assumption) ?sm ?sz FX NJ (fun _ h => h) (J0.mono (by omega) (Nat.le_refl _)) ?turn ?done
    case sm => 
      have hr4' : r4 = 0 ∨ r4 = 1 ∨ r4 = 2 ∨ r4 = 3 ∨ r4 = 4 ∨ r4 = 5 ∨ r4 = 6 ∨ r4 = 7 ∨ r4 = 8 ∨ r4 = 9 ∨ r4 = 10 ∨ r4 = 11 ∨ r4 = 12 ∨ r4 = 13 ∨ r4 = 14 ∨ r4 = 15 ∨ r4 = 16 ∨ r4 = 17 ∨ r4 = 18 := by omega
      rcases hr4' with h | h | h | h | h | h | h | h | h | h | h | h | h | h | h | h | h | h | h <;> (rw [h]; rfl)
    case sz =>
      have hr4' : r4 = 0 ∨ r4 = 1 ∨ r4 = 2 ∨ r4 = 3 ∨ r4 = 4 ∨ r4 = 5 ∨ r4 = 6 ∨ r4 = 7 ∨ r4 = 8 ∨ r4 = 9 ∨ r4 = 10 ∨ r4 = 11 ∨ r4 = 12 ∨ r4 = 13 ∨ r4 = 14 ∨ r4 = 15 ∨ r4 = 16 ∨ r4 = 17 ∨ r4 = 18 := by omega
      rcases hr4' with h | h | h | h | h | h | h | h | h | h | h | h | h | h | h | h | h | h | h <;> (rw [h]; rfl)
    case turn =>
      intro i t m₁ nx h tk own hi hoff hJ FT NT
      have hi' : (i : Int) < 19 := by omega
      obtain ⟨pen', c', hdl', ll', vl', pl', po', vvs', vn', pvs', pn', ts', rest', rfl, j1, j2, j3, j4, j5, j6, j7, j8, j9, f1, f2, f3, f4, f5⟩ := hJ
      refine turn_ok (b := 4 + 4 * (i : Int)) (k := i) (tt := t) (turn := (i : Int)) (own := own) B FT X NT T hoff ⟨pen', c', hdl', ll', vl', pl', po', vvs', vn', pvs', pn', ts', rest', rfl, j1, j2, j3, j4, j5, j6, j7, j8, j9, ?g1, ?g2, ?g3, ?g4, ?g5⟩ (if_pos rfl) (by omega) (by omega) (by omega) (by omega) ?_
      case g1 => exact (if_neg (by decide +kernel)).trans f1
      case g2 => exact (if_neg (by decide +kernel)).trans f2
      case g3 => exact (if_neg (by decide +kernel)).trans f3
      case g4 => exact (if_neg (by decide +kernel)).trans f4
      case g5 => exact (if_neg (by decide +kernel)).trans f5
      intro m' nx' h' tk' c0 c1 c2 c3
      have e9 : 4 + 4 * (i : Int) + 4 = 4 + 4 * ((i + 1 : Nat) : Int) := by omega
      rw [e9] at c3
      exact InvEndG.intro c0 c1 c3 c2 (fun p hp => List.mem_append.mpr (.inl hp)) (fun p hp => List.mem_append.mpr (.inr hp))
    case done =>
      intro m₁ nx h tk hJ FD ND
      refine final_block (own := []) B FD X (by rw [List.append_nil]; exact ND) T (fun _ hp => (nomatch hp)) hJ (by omega) (by omega) ?_
      intro h' tk' FE
      exact ret _ _ _ FE
end
section
theorem modeG4 : PySem.Challenge.rw_on0160_01 = PySem.Challenge.rw_on0160_01 ∧ hd.heap_39 = hd.heap_39 := by
  k_fill
  w_top off
  exact ⟨rfl, rfl⟩
set_option maxHeartbeats 16000000 in
theorem top1 : PySem.Challenge.rw_on0160_01.Holds := hd rfl rfl rfl (by
  k_go0
  rename Below _ _ _ _ => K0
  rename Fr _ _ _ _ => F
  rename News _ _ _ _ => N0
  rename IntsAre _ _ => hI
  rename Top _ _ _ _ _ _ => TT
  rename Heap.IsList _ _ _ => hLs
  try dsimp only
  refine' law_body K0 F ?X N0 TT ?em hLs hI ?hl0 ?hn ?hE ?ret
  case X => k_asm
  case em => with_unfolding_all rfl
  case hl0 => assumption
  case hn => omega
  case hE => passes_own
  case ret =>
    intro m' h' tk' FE
    first
    | (k_end; wrow_close)
    | k_steps)
end
end
end Mine
theorem PySem.Challenge.cw_on0160_01_holds : PySem.Challenge.rw_on0160_01.Holds := by
  exact Mine.top1
