import PyProof.Rows.All
import Wide.All
import OpenK.AllK
import Wide.FinOn
import Lean
import PySem.Challenge.RW_pq1402_01
open PySem PySem.W PyProof.Rows PySem.Calls
set_option Elab.async false
set_option compiler.extract_closed false
set_option linter.unusedVariables false
namespace Mine
section
open PySem PySem.W PyProof.Rows
/-- a def's arguments, body and scope -/
noncomputable def parts : Stmt → Arguments × List Stmt × Scope
  | .FunctionDef (args := a) (body := b) (scope := s) .. => (a, b, s)
  | _ => (⟨[], [], none, [], [], none, []⟩, [], default)
noncomputable def nth : List Stmt → Nat → Stmt
  | [], _ => .Pass ⟨0, 0, 0, 0⟩
  | x :: _, 0 => x
  | _ :: r, n + 1 => nth r n
noncomputable def inside : Stmt → List Stmt
  | .ClassDef (body := b) .. => b
  | _ => []
noncomputable def top (k : Nat) : Stmt := nth PySem.Challenge.pw_pq1402_01.main.body k
noncomputable def within (k j : Nat) : Stmt := nth (inside (top k)) j
set_option maxRecDepth 100000 in
set_option maxHeartbeats 8000000 in
/-- what of the heap the walk reads: the text's own defs, classes and their tables; a def's arguments, body and scope are the given program's, by its place -/
noncomputable def heapK (P : Params) : Frag :=
  (fun (a21 : Arguments) (b21 : List Stmt) (s21 : Scope) (_ : parts (top 0) = (a21, b21, s21))
    (a48 : Arguments) (b48 : List Stmt) (s48 : Scope) (_ : parts (within 3 0) = (a48, b48, s48))
    (a67 : Arguments) (b67 : List Stmt) (s67 : Scope) (_ : parts (within 5 0) = (a67, b67, s67))
    (a89 : Arguments) (b89 : List Stmt) (s89 : Scope) (_ : parts (within 6 0) = (a89, b89, s89))
    (a96 : Arguments) (b96 : List Stmt) (s96 : Scope) (_ : parts (within 6 1) = (a96, b96, s96))
    (a117 : Arguments) (b117 : List Stmt) (s117 : Scope) (_ : parts (within 8 0) = (a117, b117, s117))
    (a124 : Arguments) (b124 : List Stmt) (s124 : Scope) (_ : parts (within 8 1) = (a124, b124, s124))
    (a131 : Arguments) (b131 : List Stmt) (s131 : Scope) (_ : parts (within 8 2) = (a131, b131, s131))
    (a138 : Arguments) (b138 : List Stmt) (s138 : Scope) (_ : parts (within 8 3) = (a138, b138, s138))
    (a145 : Arguments) (b145 : List Stmt) (s145 : Scope) (_ : parts (within 8 4) = (a145, b145, s145))
    (a152 : Arguments) (b152 : List Stmt) (s152 : Scope) (_ : parts (within 8 5) = (a152, b152, s152))
    (a157 : Arguments) (b157 : List Stmt) (s157 : Scope) (_ : parts (within 8 6) = (a157, b157, s157))
    (a171 : Arguments) (b171 : List Stmt) (s171 : Scope) (_ : parts (top 9) = (a171, b171, s171))
    (a178 : Arguments) (b178 : List Stmt) (s178 : Scope) (_ : parts (top 10) = (a178, b178, s178))
    (a185 : Arguments) (b185 : List Stmt) (s185 : Scope) (_ : parts (top 11) = (a185, b185, s185))
    (a190 : Arguments) (b190 : List Stmt) (s190 : Scope) (_ : parts (top 12) = (a190, b190, s190))
    (a196 : Arguments) (b196 : List Stmt) (s196 : Scope) (_ : parts (top 13) = (a196, b196, s196))
    (a202 : Arguments) (b202 : List Stmt) (s202 : Scope) (_ : parts (top 14) = (a202, b202, s202))
    (a209 : Arguments) (b209 : List Stmt) (s209 : Scope) (_ : parts (top 16) = (a209, b209, s209))
    (a216 : Arguments) (b216 : List Stmt) (s216 : Scope) (_ : parts (top 17) = (a216, b216, s216))
    (a221 : Arguments) (b221 : List Stmt) (s221 : Scope) (_ : parts (top 18) = (a221, b221, s221)) =>
  Prod.mk (α := Nat) (nat_lit 2) (Obj.mk Value.none (none (α := Nat)) (Data.dict (List.toArray [(DictEntry.mk (PyData.keyHash P (Str.ofString "type.__subclasses__.Exception.0")) (Value.str (Str.ofString "type.__subclasses__.Exception.0") (212 : Nat)) (Value.int (31 : Int) (0 : Nat))), (DictEntry.mk (PyData.keyHash P (Str.ofString "type.__subclasses__.Exception.n")) (Value.str (Str.ofString "type.__subclasses__.Exception.n") (213 : Nat)) (Value.int (1 : Int) (0 : Nat)))]) (2 : Nat)) (List.toArray [])) ::
  Prod.mk (α := Nat) (nat_lit 3) (Obj.mk (Value.type "dict") (none (α := Nat)) (Data.dict (List.toArray [(DictEntry.mk (PyData.keyHash P (Str.ofString "__name__")) (Value.str (Str.ofString "__name__") (165 : Nat)) (Value.str (Str.ofString "law_pq1402_01") (444 : Nat))), (DictEntry.mk (PyData.keyHash P (Str.ofString "__doc__")) (Value.str (Str.ofString "__doc__") (166 : Nat)) Value.none), (DictEntry.mk (PyData.keyHash P (Str.ofString "__package__")) (Value.str (Str.ofString "__package__") (167 : Nat)) Value.none), (DictEntry.mk (PyData.keyHash P (Str.ofString "__loader__")) (Value.str (Str.ofString "__loader__") (168 : Nat)) (Value.builtin "__main__.__loader__#opaque")), (DictEntry.mk (PyData.keyHash P (Str.ofString "__spec__")) (Value.str (Str.ofString "__spec__") (169 : Nat)) Value.none), (DictEntry.mk (PyData.keyHash P (Str.ofString "__annotations__")) (Value.str (Str.ofString "__annotations__") (170 : Nat)) (Value.ref (6 : Nat))), (DictEntry.mk (PyData.keyHash P (Str.ofString "__builtins__")) (Value.str (Str.ofString "__builtins__") (171 : Nat)) (Value.ref (4 : Nat))), (DictEntry.mk (PyData.keyHash P (Str.ofString "__file__")) (Value.str (Str.ofString "__file__") (173 : Nat)) (Value.str (Str.ofString "/claim/cut.py") (172 : Nat))), (DictEntry.mk (PyData.keyHash P (Str.ofString "__cached__")) (Value.str (Str.ofString "__cached__") (174 : Nat)) Value.none), (DictEntry.mk (PyData.keyHash P (Str.ofString "_wall")) (Value.str (Str.ofString "_wall") (193 : Nat)) (Value.ref (21 : Nat))), (DictEntry.mk (PyData.keyHash P (Str.ofString "CoveError")) (Value.str (Str.ofString "CoveError") (215 : Nat)) (Value.ref (31 : Nat))), (DictEntry.mk (PyData.keyHash P (Str.ofString "Refusal")) (Value.str (Str.ofString "Refusal") (240 : Nat)) (Value.ref (51 : Nat))), (DictEntry.mk (PyData.keyHash P (Str.ofString "Null")) (Value.str (Str.ofString "Null") (271 : Nat)) (Value.ref (70 : Nat))), (DictEntry.mk (PyData.keyHash P (Str.ofString "Vector")) (Value.str (Str.ofString "Vector") (313 : Nat)) (Value.ref (99 : Nat))), (DictEntry.mk (PyData.keyHash P (Str.ofString "Matching")) (Value.str (Str.ofString "Matching") (398 : Nat)) (Value.ref (160 : Nat))), (DictEntry.mk (PyData.keyHash P (Str.ofString "doubled_text")) (Value.str (Str.ofString "doubled_text") (405 : Nat)) (Value.ref (171 : Nat))), (DictEntry.mk (PyData.keyHash P (Str.ofString "argument_text")) (Value.str (Str.ofString "argument_text") (417 : Nat)) (Value.ref (178 : Nat))), (DictEntry.mk (PyData.keyHash P (Str.ofString "plain_text")) (Value.str (Str.ofString "plain_text") (425 : Nat)) (Value.ref (185 : Nat))), (DictEntry.mk (PyData.keyHash P (Str.ofString "unused_text")) (Value.str (Str.ofString "unused_text") (431 : Nat)) (Value.ref (190 : Nat))), (DictEntry.mk (PyData.keyHash P (Str.ofString "match_names")) (Value.str (Str.ofString "match_names") (437 : Nat)) (Value.ref (196 : Nat))), (DictEntry.mk (PyData.keyHash P (Str.ofString "take")) (Value.str (Str.ofString "take") (443 : Nat)) (Value.ref (202 : Nat))), (DictEntry.mk (PyData.keyHash P (Str.ofString "_law_next")) (Value.str (Str.ofString "_law_next") (452 : Nat)) (Value.ref (209 : Nat))), (DictEntry.mk (PyData.keyHash P (Str.ofString "_law_value")) (Value.str (Str.ofString "_law_value") (462 : Nat)) (Value.ref (216 : Nat))), (DictEntry.mk (PyData.keyHash P (Str.ofString "law")) (Value.str (Str.ofString "law") (468 : Nat)) (Value.ref (221 : Nat)))]) (24 : Nat)) (List.toArray [])) ::
  Prod.mk (α := Nat) (nat_lit 15) (Obj.mk (Value.type "tuple") (none (α := Nat)) (Data.seq (List.toArray []) (0 : Nat)) (List.toArray [])) ::
  Prod.mk (α := Nat) (nat_lit 17) (Obj.mk (Value.type "tuple") (none (α := Nat)) (Data.seq (List.toArray [(Value.str (Str.ofString "k") (190 : Nat))]) (0 : Nat)) (List.toArray [])) ::
  Prod.mk (α := Nat) (nat_lit 18) (Obj.mk (Value.type "tuple") (none (α := Nat)) (Data.seq (List.toArray []) (0 : Nat)) (List.toArray [])) ::
  Prod.mk (α := Nat) (nat_lit 20) (Obj.mk (Value.type "code") (none (α := Nat)) (Data.fields (List.toArray [(Value.str (Str.ofString "_wall") (187 : Nat)), (Value.str (Str.ofString "_wall") (188 : Nat)), (Value.str (Str.ofString "/claim/cut.py") (189 : Nat)), (Value.int (1 : Int) (0 : Nat)), (Value.int (1 : Int) (0 : Nat)), (Value.int (0 : Int) (0 : Nat)), (Value.int (0 : Int) (0 : Nat)), (Value.int (3 : Int) (0 : Nat)), (Value.ref (15 : Nat)), (Value.bool Bool.true), (Value.int (181 : Int) (0 : Nat)), (Value.ref (16 : Nat)), Value.none, (Value.ref (17 : Nat)), (Value.ref (18 : Nat)), (Value.ref (19 : Nat)), (Value.int (191 : Int) (0 : Nat)), (Value.int (1 : Int) (0 : Nat)), (Value.str (Str.ofString "/claim/cut.py") (192 : Nat))])) (List.toArray [])) ::
  Prod.mk (α := Nat) (nat_lit 21) (Obj.mk (Value.type "function") (none (α := Nat)) (Data.func (FuncData.mk (Str.ofString "_wall") (Str.ofString "_wall") a21 (FuncBody.stmts b21) s21 (3 : Nat) ([] : List (Str × Nat)) Value.none Value.none Value.none (Value.str (Str.ofString "__main__") (164 : Nat)) (none (α := Nat)) (Value.ref (20 : Nat)) Value.none (0 : Nat))) (List.toArray [])) ::
  Prod.mk (α := Nat) (nat_lit 22) (Obj.mk (Value.type "tuple") (none (α := Nat)) (Data.seq (List.toArray [(Value.type "Exception")]) (0 : Nat)) (List.toArray [])) ::
  Prod.mk (α := Nat) (nat_lit 29) (Obj.mk (Value.type "tuple") (none (α := Nat)) (Data.seq (List.toArray []) (0 : Nat)) (List.toArray [])) ::
  Prod.mk (α := Nat) (nat_lit 30) (Obj.mk (Value.type "dict") (none (α := Nat)) (Data.dict (List.toArray [(DictEntry.mk (PyData.keyHash P (Str.ofString "__module__")) (Value.str (Str.ofString "__module__") (203 : Nat)) (Value.str (Str.ofString "vectorcove.errors") (194 : Nat))), (DictEntry.mk (PyData.keyHash P (Str.ofString "__firstlineno__")) (Value.str (Str.ofString "__firstlineno__") (207 : Nat)) (Value.int (5 : Int) (206 : Nat))), (DictEntry.mk (PyData.keyHash P (Str.ofString "__static_attributes__")) (Value.str (Str.ofString "__static_attributes__") (208 : Nat)) (Value.ref (29 : Nat))), (DictEntry.mk (PyData.keyHash P (Str.ofString "__weakref__")) (Value.str (Str.ofString "__weakref__") (210 : Nat)) (Value.ref (32 : Nat))), (DictEntry.mk (PyData.keyHash P (Str.ofString "__doc__")) (Value.str (Str.ofString "__doc__") (211 : Nat)) Value.none)]) (3 : Nat)) (List.toArray [])) ::
  Prod.mk (α := Nat) (nat_lit 31) (Obj.mk (Value.type "type") (none (α := Nat)) (Data.cls (ClassData.mk (Str.ofString "CoveError") [(Value.type "Exception")] [(Value.ref (31 : Nat)), (Value.type "Exception"), (Value.type "BaseException"), (Value.type "object")] (30 : Nat) (Str.ofString "CoveError") Bool.true [] [(Value.ref (51 : Nat))] Bool.false none Bool.false)) (List.toArray [(some (Value.ref (22 : Nat))), none, (some (Value.str (Str.ofString "CoveError") (196 : Nat))), (some (Value.str (Str.ofString "CoveError") (204 : Nat))), (some (Value.builtin "Exception.__new__")), (some (Value.bool Bool.true))])) ::
  Prod.mk (α := Nat) (nat_lit 32) (Obj.mk (Value.type "getset_descriptor") (none (α := Nat)) (Data.fields (List.toArray [(Value.str (Str.ofString "__weakref__") (209 : Nat)), (Value.ref (31 : Nat)), (Value.builtin "ExceptionGroup.__weakref__"), Value.none])) (List.toArray [])) ::
  Prod.mk (α := Nat) (nat_lit 35) (Obj.mk (Value.type "tuple") (none (α := Nat)) (Data.seq (List.toArray [(Value.ref (31 : Nat))]) (0 : Nat)) (List.toArray [])) ::
  Prod.mk (α := Nat) (nat_lit 42) (Obj.mk (Value.type "tuple") (none (α := Nat)) (Data.seq (List.toArray []) (0 : Nat)) (List.toArray [])) ::
  Prod.mk (α := Nat) (nat_lit 44) (Obj.mk (Value.type "tuple") (none (α := Nat)) (Data.seq (List.toArray [(Value.str (Str.ofString "self") (231 : Nat)), (Value.str (Str.ofString "message") (232 : Nat))]) (0 : Nat)) (List.toArray [])) ::
  Prod.mk (α := Nat) (nat_lit 45) (Obj.mk (Value.type "tuple") (none (α := Nat)) (Data.seq (List.toArray []) (0 : Nat)) (List.toArray [])) ::
  Prod.mk (α := Nat) (nat_lit 47) (Obj.mk (Value.type "code") (none (α := Nat)) (Data.fields (List.toArray [(Value.str (Str.ofString "__init__") (228 : Nat)), (Value.str (Str.ofString "Refusal.__init__") (229 : Nat)), (Value.str (Str.ofString "/claim/cut.py") (230 : Nat)), (Value.int (9 : Int) (0 : Nat)), (Value.int (2 : Int) (0 : Nat)), (Value.int (0 : Int) (0 : Nat)), (Value.int (0 : Int) (0 : Nat)), (Value.int (3 : Int) (0 : Nat)), (Value.ref (42 : Nat)), (Value.bool Bool.true), (Value.int (181 : Int) (0 : Nat)), (Value.ref (43 : Nat)), Value.none, (Value.ref (44 : Nat)), (Value.ref (45 : Nat)), (Value.ref (46 : Nat)), (Value.int (233 : Int) (0 : Nat)), (Value.int (9 : Int) (0 : Nat)), (Value.str (Str.ofString "/claim/cut.py") (234 : Nat))])) (List.toArray [])) ::
  Prod.mk (α := Nat) (nat_lit 48) (Obj.mk (Value.type "function") (none (α := Nat)) (Data.func (FuncData.mk (Str.ofString "__init__") (Str.ofString "Refusal.__init__") a48 (FuncBody.stmts b48) s48 (3 : Nat) ([] : List (Str × Nat)) Value.none Value.none Value.none (Value.str (Str.ofString "vectorcove.errors") (194 : Nat)) (none (α := Nat)) (Value.ref (47 : Nat)) Value.none (0 : Nat))) (List.toArray [])) ::
  Prod.mk (α := Nat) (nat_lit 49) (Obj.mk (Value.type "tuple") (none (α := Nat)) (Data.seq (List.toArray [(Value.str (Str.ofString "message") (236 : Nat))]) (0 : Nat)) (List.toArray [])) ::
  Prod.mk (α := Nat) (nat_lit 50) (Obj.mk (Value.type "dict") (none (α := Nat)) (Data.dict (List.toArray [(DictEntry.mk (PyData.keyHash P (Str.ofString "__module__")) (Value.str (Str.ofString "__module__") (223 : Nat)) (Value.str (Str.ofString "vectorcove.errors") (194 : Nat))), (DictEntry.mk (PyData.keyHash P (Str.ofString "__firstlineno__")) (Value.str (Str.ofString "__firstlineno__") (227 : Nat)) (Value.int (7 : Int) (226 : Nat))), (DictEntry.mk (PyData.keyHash P (Str.ofString "__init__")) (Value.str (Str.ofString "__init__") (235 : Nat)) (Value.ref (48 : Nat))), (DictEntry.mk (PyData.keyHash P (Str.ofString "__static_attributes__")) (Value.str (Str.ofString "__static_attributes__") (237 : Nat)) (Value.ref (49 : Nat))), (DictEntry.mk (PyData.keyHash P (Str.ofString "__doc__")) (Value.str (Str.ofString "__doc__") (238 : Nat)) Value.none)]) (2 : Nat)) (List.toArray [])) ::
  Prod.mk (α := Nat) (nat_lit 51) (Obj.mk (Value.type "type") (none (α := Nat)) (Data.cls (ClassData.mk (Str.ofString "Refusal") [(Value.ref (31 : Nat))] [(Value.ref (51 : Nat)), (Value.ref (31 : Nat)), (Value.type "Exception"), (Value.type "BaseException"), (Value.type "object")] (50 : Nat) (Str.ofString "Refusal") Bool.true [] [] Bool.false none Bool.false)) (List.toArray [(some (Value.ref (35 : Nat))), none, (some (Value.str (Str.ofString "Refusal") (216 : Nat))), (some (Value.str (Str.ofString "Refusal") (224 : Nat))), (some (Value.builtin "Exception.__new__")), (some (Value.bool Bool.true))])) ::
  Prod.mk (α := Nat) (nat_lit 61) (Obj.mk (Value.type "tuple") (none (α := Nat)) (Data.seq (List.toArray []) (0 : Nat)) (List.toArray [])) ::
  Prod.mk (α := Nat) (nat_lit 63) (Obj.mk (Value.type "tuple") (none (α := Nat)) (Data.seq (List.toArray [(Value.str (Str.ofString "self") (258 : Nat))]) (0 : Nat)) (List.toArray [])) ::
  Prod.mk (α := Nat) (nat_lit 64) (Obj.mk (Value.type "tuple") (none (α := Nat)) (Data.seq (List.toArray []) (0 : Nat)) (List.toArray [])) ::
  Prod.mk (α := Nat) (nat_lit 66) (Obj.mk (Value.type "code") (none (α := Nat)) (Data.fields (List.toArray [(Value.str (Str.ofString "__init__") (255 : Nat)), (Value.str (Str.ofString "Null.__init__") (256 : Nat)), (Value.str (Str.ofString "/claim/cut.py") (257 : Nat)), (Value.int (14 : Int) (0 : Nat)), (Value.int (1 : Int) (0 : Nat)), (Value.int (0 : Int) (0 : Nat)), (Value.int (0 : Int) (0 : Nat)), (Value.int (3 : Int) (0 : Nat)), (Value.ref (61 : Nat)), (Value.bool Bool.true), (Value.int (181 : Int) (0 : Nat)), (Value.ref (62 : Nat)), Value.none, (Value.ref (63 : Nat)), (Value.ref (64 : Nat)), (Value.ref (65 : Nat)), (Value.int (259 : Int) (0 : Nat)), (Value.int (14 : Int) (0 : Nat)), (Value.str (Str.ofString "/claim/cut.py") (260 : Nat))])) (List.toArray [])) ::
  Prod.mk (α := Nat) (nat_lit 67) (Obj.mk (Value.type "function") (none (α := Nat)) (Data.func (FuncData.mk (Str.ofString "__init__") (Str.ofString "Null.__init__") a67 (FuncBody.stmts b67) s67 (3 : Nat) ([] : List (Str × Nat)) Value.none Value.none Value.none (Value.str (Str.ofString "vectorcove.values") (241 : Nat)) (none (α := Nat)) (Value.ref (66 : Nat)) Value.none (0 : Nat))) (List.toArray [])) ::
  Prod.mk (α := Nat) (nat_lit 68) (Obj.mk (Value.type "tuple") (none (α := Nat)) (Data.seq (List.toArray [(Value.str (Str.ofString "attrs") (262 : Nat)), (Value.str (Str.ofString "kind") (263 : Nat))]) (0 : Nat)) (List.toArray [])) ::
  Prod.mk (α := Nat) (nat_lit 69) (Obj.mk (Value.type "dict") (none (α := Nat)) (Data.dict (List.toArray [(DictEntry.mk (PyData.keyHash P (Str.ofString "__module__")) (Value.str (Str.ofString "__module__") (250 : Nat)) (Value.str (Str.ofString "vectorcove.values") (241 : Nat))), (DictEntry.mk (PyData.keyHash P (Str.ofString "__firstlineno__")) (Value.str (Str.ofString "__firstlineno__") (254 : Nat)) (Value.int (12 : Int) (253 : Nat))), (DictEntry.mk (PyData.keyHash P (Str.ofString "__init__")) (Value.str (Str.ofString "__init__") (261 : Nat)) (Value.ref (67 : Nat))), (DictEntry.mk (PyData.keyHash P (Str.ofString "__static_attributes__")) (Value.str (Str.ofString "__static_attributes__") (264 : Nat)) (Value.ref (68 : Nat))), (DictEntry.mk (PyData.keyHash P (Str.ofString "__dict__")) (Value.str (Str.ofString "__dict__") (266 : Nat)) (Value.ref (71 : Nat))), (DictEntry.mk (PyData.keyHash P (Str.ofString "__weakref__")) (Value.str (Str.ofString "__weakref__") (268 : Nat)) (Value.ref (72 : Nat))), (DictEntry.mk (PyData.keyHash P (Str.ofString "__doc__")) (Value.str (Str.ofString "__doc__") (269 : Nat)) Value.none)]) (4 : Nat)) (List.toArray [])) ::
  Prod.mk (α := Nat) (nat_lit 70) (Obj.mk (Value.type "type") (none (α := Nat)) (Data.cls (ClassData.mk (Str.ofString "Null") [(Value.type "object")] [(Value.ref (70 : Nat)), (Value.type "object")] (69 : Nat) (Str.ofString "Null") Bool.true [] [] Bool.false none Bool.false)) (List.toArray [none, none, (some (Value.str (Str.ofString "Null") (243 : Nat))), (some (Value.str (Str.ofString "Null") (251 : Nat))), (some (Value.builtin "object.__new__")), (some (Value.bool Bool.true))])) ::
  Prod.mk (α := Nat) (nat_lit 71) (Obj.mk (Value.type "getset_descriptor") (none (α := Nat)) (Data.fields (List.toArray [(Value.str (Str.ofString "__dict__") (265 : Nat)), (Value.ref (70 : Nat)), (Value.builtin "function.__dict__"), (Value.builtin "function.__dict__#set")])) (List.toArray [])) ::
  Prod.mk (α := Nat) (nat_lit 72) (Obj.mk (Value.type "getset_descriptor") (none (α := Nat)) (Data.fields (List.toArray [(Value.str (Str.ofString "__weakref__") (267 : Nat)), (Value.ref (70 : Nat)), (Value.builtin "ExceptionGroup.__weakref__"), Value.none])) (List.toArray [])) ::
  Prod.mk (α := Nat) (nat_lit 82) (Obj.mk (Value.type "tuple") (none (α := Nat)) (Data.seq (List.toArray [Value.none]) (0 : Nat)) (List.toArray [])) ::
  Prod.mk (α := Nat) (nat_lit 83) (Obj.mk (Value.type "tuple") (none (α := Nat)) (Data.seq (List.toArray []) (0 : Nat)) (List.toArray [])) ::
  Prod.mk (α := Nat) (nat_lit 85) (Obj.mk (Value.type "tuple") (none (α := Nat)) (Data.seq (List.toArray [(Value.str (Str.ofString "self") (287 : Nat)), (Value.str (Str.ofString "kind") (288 : Nat)), (Value.str (Str.ofString "items") (289 : Nat)), (Value.str (Str.ofString "attrs") (290 : Nat))]) (0 : Nat)) (List.toArray [])) ::
  Prod.mk (α := Nat) (nat_lit 86) (Obj.mk (Value.type "tuple") (none (α := Nat)) (Data.seq (List.toArray []) (0 : Nat)) (List.toArray [])) ::
  Prod.mk (α := Nat) (nat_lit 88) (Obj.mk (Value.type "code") (none (α := Nat)) (Data.fields (List.toArray [(Value.str (Str.ofString "__init__") (284 : Nat)), (Value.str (Str.ofString "Vector.__init__") (285 : Nat)), (Value.str (Str.ofString "/claim/cut.py") (286 : Nat)), (Value.int (19 : Int) (0 : Nat)), (Value.int (4 : Int) (0 : Nat)), (Value.int (0 : Int) (0 : Nat)), (Value.int (0 : Int) (0 : Nat)), (Value.int (3 : Int) (0 : Nat)), (Value.ref (83 : Nat)), (Value.bool Bool.true), (Value.int (181 : Int) (0 : Nat)), (Value.ref (84 : Nat)), Value.none, (Value.ref (85 : Nat)), (Value.ref (86 : Nat)), (Value.ref (87 : Nat)), (Value.int (291 : Int) (0 : Nat)), (Value.int (19 : Int) (0 : Nat)), (Value.str (Str.ofString "/claim/cut.py") (292 : Nat))])) (List.toArray [])) ::
  Prod.mk (α := Nat) (nat_lit 89) (Obj.mk (Value.type "function") (none (α := Nat)) (Data.func (FuncData.mk (Str.ofString "__init__") (Str.ofString "Vector.__init__") a89 (FuncBody.stmts b89) s89 (3 : Nat) ([] : List (Str × Nat)) (Value.ref (82 : Nat)) Value.none Value.none (Value.str (Str.ofString "vectorcove.values") (241 : Nat)) (none (α := Nat)) (Value.ref (88 : Nat)) Value.none (0 : Nat))) (List.toArray [])) ::
  Prod.mk (α := Nat) (nat_lit 90) (Obj.mk (Value.type "tuple") (none (α := Nat)) (Data.seq (List.toArray []) (0 : Nat)) (List.toArray [])) ::
  Prod.mk (α := Nat) (nat_lit 92) (Obj.mk (Value.type "tuple") (none (α := Nat)) (Data.seq (List.toArray [(Value.str (Str.ofString "self") (297 : Nat))]) (0 : Nat)) (List.toArray [])) ::
  Prod.mk (α := Nat) (nat_lit 93) (Obj.mk (Value.type "tuple") (none (α := Nat)) (Data.seq (List.toArray []) (0 : Nat)) (List.toArray [])) ::
  Prod.mk (α := Nat) (nat_lit 95) (Obj.mk (Value.type "code") (none (α := Nat)) (Data.fields (List.toArray [(Value.str (Str.ofString "copy") (294 : Nat)), (Value.str (Str.ofString "Vector.copy") (295 : Nat)), (Value.str (Str.ofString "/claim/cut.py") (296 : Nat)), (Value.int (26 : Int) (0 : Nat)), (Value.int (1 : Int) (0 : Nat)), (Value.int (0 : Int) (0 : Nat)), (Value.int (0 : Int) (0 : Nat)), (Value.int (3 : Int) (0 : Nat)), (Value.ref (90 : Nat)), (Value.bool Bool.true), (Value.int (181 : Int) (0 : Nat)), (Value.ref (91 : Nat)), Value.none, (Value.ref (92 : Nat)), (Value.ref (93 : Nat)), (Value.ref (94 : Nat)), (Value.int (298 : Int) (0 : Nat)), (Value.int (26 : Int) (0 : Nat)), (Value.str (Str.ofString "/claim/cut.py") (299 : Nat))])) (List.toArray [])) ::
  Prod.mk (α := Nat) (nat_lit 96) (Obj.mk (Value.type "function") (none (α := Nat)) (Data.func (FuncData.mk (Str.ofString "copy") (Str.ofString "Vector.copy") a96 (FuncBody.stmts b96) s96 (3 : Nat) ([] : List (Str × Nat)) Value.none Value.none Value.none (Value.str (Str.ofString "vectorcove.values") (241 : Nat)) (none (α := Nat)) (Value.ref (95 : Nat)) Value.none (0 : Nat))) (List.toArray [])) ::
  Prod.mk (α := Nat) (nat_lit 97) (Obj.mk (Value.type "tuple") (none (α := Nat)) (Data.seq (List.toArray [(Value.str (Str.ofString "attrs") (301 : Nat)), (Value.str (Str.ofString "items") (302 : Nat)), (Value.str (Str.ofString "kind") (303 : Nat)), (Value.str (Str.ofString "loose") (304 : Nat)), (Value.str (Str.ofString "shared") (305 : Nat))]) (0 : Nat)) (List.toArray [])) ::
  Prod.mk (α := Nat) (nat_lit 98) (Obj.mk (Value.type "dict") (none (α := Nat)) (Data.dict (List.toArray [(DictEntry.mk (PyData.keyHash P (Str.ofString "__module__")) (Value.str (Str.ofString "__module__") (279 : Nat)) (Value.str (Str.ofString "vectorcove.values") (241 : Nat))), (DictEntry.mk (PyData.keyHash P (Str.ofString "__firstlineno__")) (Value.str (Str.ofString "__firstlineno__") (283 : Nat)) (Value.int (17 : Int) (282 : Nat))), (DictEntry.mk (PyData.keyHash P (Str.ofString "__init__")) (Value.str (Str.ofString "__init__") (293 : Nat)) (Value.ref (89 : Nat))), (DictEntry.mk (PyData.keyHash P (Str.ofString "copy")) (Value.str (Str.ofString "copy") (300 : Nat)) (Value.ref (96 : Nat))), (DictEntry.mk (PyData.keyHash P (Str.ofString "__static_attributes__")) (Value.str (Str.ofString "__static_attributes__") (306 : Nat)) (Value.ref (97 : Nat))), (DictEntry.mk (PyData.keyHash P (Str.ofString "__dict__")) (Value.str (Str.ofString "__dict__") (308 : Nat)) (Value.ref (100 : Nat))), (DictEntry.mk (PyData.keyHash P (Str.ofString "__weakref__")) (Value.str (Str.ofString "__weakref__") (310 : Nat)) (Value.ref (101 : Nat))), (DictEntry.mk (PyData.keyHash P (Str.ofString "__doc__")) (Value.str (Str.ofString "__doc__") (311 : Nat)) Value.none)]) (4 : Nat)) (List.toArray [])) ::
  Prod.mk (α := Nat) (nat_lit 99) (Obj.mk (Value.type "type") (none (α := Nat)) (Data.cls (ClassData.mk (Str.ofString "Vector") [(Value.type "object")] [(Value.ref (99 : Nat)), (Value.type "object")] (98 : Nat) (Str.ofString "Vector") Bool.true [] [] Bool.false none Bool.false)) (List.toArray [none, none, (some (Value.str (Str.ofString "Vector") (272 : Nat))), (some (Value.str (Str.ofString "Vector") (280 : Nat))), (some (Value.builtin "object.__new__")), (some (Value.bool Bool.true))])) ::
  Prod.mk (α := Nat) (nat_lit 100) (Obj.mk (Value.type "getset_descriptor") (none (α := Nat)) (Data.fields (List.toArray [(Value.str (Str.ofString "__dict__") (307 : Nat)), (Value.ref (99 : Nat)), (Value.builtin "function.__dict__"), (Value.builtin "function.__dict__#set")])) (List.toArray [])) ::
  Prod.mk (α := Nat) (nat_lit 101) (Obj.mk (Value.type "getset_descriptor") (none (α := Nat)) (Data.fields (List.toArray [(Value.str (Str.ofString "__weakref__") (309 : Nat)), (Value.ref (99 : Nat)), (Value.builtin "ExceptionGroup.__weakref__"), Value.none])) (List.toArray [])) ::
  Prod.mk (α := Nat) (nat_lit 111) (Obj.mk (Value.type "tuple") (none (α := Nat)) (Data.seq (List.toArray []) (0 : Nat)) (List.toArray [])) ::
  Prod.mk (α := Nat) (nat_lit 113) (Obj.mk (Value.type "tuple") (none (α := Nat)) (Data.seq (List.toArray [(Value.str (Str.ofString "self") (331 : Nat)), (Value.str (Str.ofString "formals") (332 : Nat)), (Value.str (Str.ofString "tags") (333 : Nat))]) (0 : Nat)) (List.toArray [])) ::
  Prod.mk (α := Nat) (nat_lit 114) (Obj.mk (Value.type "tuple") (none (α := Nat)) (Data.seq (List.toArray []) (0 : Nat)) (List.toArray [])) ::
  Prod.mk (α := Nat) (nat_lit 116) (Obj.mk (Value.type "code") (none (α := Nat)) (Data.fields (List.toArray [(Value.str (Str.ofString "__init__") (328 : Nat)), (Value.str (Str.ofString "Matching.__init__") (329 : Nat)), (Value.str (Str.ofString "/claim/cut.py") (330 : Nat)), (Value.int (31 : Int) (0 : Nat)), (Value.int (3 : Int) (0 : Nat)), (Value.int (0 : Int) (0 : Nat)), (Value.int (0 : Int) (0 : Nat)), (Value.int (3 : Int) (0 : Nat)), (Value.ref (111 : Nat)), (Value.bool Bool.true), (Value.int (181 : Int) (0 : Nat)), (Value.ref (112 : Nat)), Value.none, (Value.ref (113 : Nat)), (Value.ref (114 : Nat)), (Value.ref (115 : Nat)), (Value.int (334 : Int) (0 : Nat)), (Value.int (31 : Int) (0 : Nat)), (Value.str (Str.ofString "/claim/cut.py") (335 : Nat))])) (List.toArray [])) ::
  Prod.mk (α := Nat) (nat_lit 117) (Obj.mk (Value.type "function") (none (α := Nat)) (Data.func (FuncData.mk (Str.ofString "__init__") (Str.ofString "Matching.__init__") a117 (FuncBody.stmts b117) s117 (3 : Nat) ([] : List (Str × Nat)) Value.none Value.none Value.none (Value.str (Str.ofString "vectorcove.callargs") (314 : Nat)) (none (α := Nat)) (Value.ref (116 : Nat)) Value.none (0 : Nat))) (List.toArray [])) ::
  Prod.mk (α := Nat) (nat_lit 118) (Obj.mk (Value.type "tuple") (none (α := Nat)) (Data.seq (List.toArray []) (0 : Nat)) (List.toArray [])) ::
  Prod.mk (α := Nat) (nat_lit 120) (Obj.mk (Value.type "tuple") (none (α := Nat)) (Data.seq (List.toArray [(Value.str (Str.ofString "self") (340 : Nat)), (Value.str (Str.ofString "name") (341 : Nat)), (Value.str (Str.ofString "place") (342 : Nat))]) (0 : Nat)) (List.toArray [])) ::
  Prod.mk (α := Nat) (nat_lit 121) (Obj.mk (Value.type "tuple") (none (α := Nat)) (Data.seq (List.toArray []) (0 : Nat)) (List.toArray [])) ::
  Prod.mk (α := Nat) (nat_lit 123) (Obj.mk (Value.type "code") (none (α := Nat)) (Data.fields (List.toArray [(Value.str (Str.ofString "exact") (337 : Nat)), (Value.str (Str.ofString "Matching.exact") (338 : Nat)), (Value.str (Str.ofString "/claim/cut.py") (339 : Nat)), (Value.int (37 : Int) (0 : Nat)), (Value.int (1 : Int) (0 : Nat)), (Value.int (0 : Int) (0 : Nat)), (Value.int (0 : Int) (0 : Nat)), (Value.int (3 : Int) (0 : Nat)), (Value.ref (118 : Nat)), (Value.bool Bool.true), (Value.int (181 : Int) (0 : Nat)), (Value.ref (119 : Nat)), Value.none, (Value.ref (120 : Nat)), (Value.ref (121 : Nat)), (Value.ref (122 : Nat)), (Value.int (343 : Int) (0 : Nat)), (Value.int (37 : Int) (0 : Nat)), (Value.str (Str.ofString "/claim/cut.py") (344 : Nat))])) (List.toArray [])) ::
  Prod.mk (α := Nat) (nat_lit 124) (Obj.mk (Value.type "function") (none (α := Nat)) (Data.func (FuncData.mk (Str.ofString "exact") (Str.ofString "Matching.exact") a124 (FuncBody.stmts b124) s124 (3 : Nat) ([] : List (Str × Nat)) Value.none Value.none Value.none (Value.str (Str.ofString "vectorcove.callargs") (314 : Nat)) (none (α := Nat)) (Value.ref (123 : Nat)) Value.none (0 : Nat))) (List.toArray [])) ::
  Prod.mk (α := Nat) (nat_lit 125) (Obj.mk (Value.type "tuple") (none (α := Nat)) (Data.seq (List.toArray []) (0 : Nat)) (List.toArray [])) ::
  Prod.mk (α := Nat) (nat_lit 127) (Obj.mk (Value.type "tuple") (none (α := Nat)) (Data.seq (List.toArray [(Value.str (Str.ofString "self") (349 : Nat)), (Value.str (Str.ofString "name") (350 : Nat))]) (0 : Nat)) (List.toArray [])) ::
  Prod.mk (α := Nat) (nat_lit 128) (Obj.mk (Value.type "tuple") (none (α := Nat)) (Data.seq (List.toArray []) (0 : Nat)) (List.toArray [])) ::
  Prod.mk (α := Nat) (nat_lit 130) (Obj.mk (Value.type "code") (none (α := Nat)) (Data.fields (List.toArray [(Value.str (Str.ofString "partial") (346 : Nat)), (Value.str (Str.ofString "Matching.partial") (347 : Nat)), (Value.str (Str.ofString "/claim/cut.py") (348 : Nat)), (Value.int (47 : Int) (0 : Nat)), (Value.int (1 : Int) (0 : Nat)), (Value.int (0 : Int) (0 : Nat)), (Value.int (0 : Int) (0 : Nat)), (Value.int (3 : Int) (0 : Nat)), (Value.ref (125 : Nat)), (Value.bool Bool.true), (Value.int (181 : Int) (0 : Nat)), (Value.ref (126 : Nat)), Value.none, (Value.ref (127 : Nat)), (Value.ref (128 : Nat)), (Value.ref (129 : Nat)), (Value.int (351 : Int) (0 : Nat)), (Value.int (47 : Int) (0 : Nat)), (Value.str (Str.ofString "/claim/cut.py") (352 : Nat))])) (List.toArray [])) ::
  Prod.mk (α := Nat) (nat_lit 131) (Obj.mk (Value.type "function") (none (α := Nat)) (Data.func (FuncData.mk (Str.ofString "partial") (Str.ofString "Matching.partial") a131 (FuncBody.stmts b131) s131 (3 : Nat) ([] : List (Str × Nat)) Value.none Value.none Value.none (Value.str (Str.ofString "vectorcove.callargs") (314 : Nat)) (none (α := Nat)) (Value.ref (130 : Nat)) Value.none (0 : Nat))) (List.toArray [])) ::
  Prod.mk (α := Nat) (nat_lit 132) (Obj.mk (Value.type "tuple") (none (α := Nat)) (Data.seq (List.toArray []) (0 : Nat)) (List.toArray [])) ::
  Prod.mk (α := Nat) (nat_lit 134) (Obj.mk (Value.type "tuple") (none (α := Nat)) (Data.seq (List.toArray [(Value.str (Str.ofString "self") (357 : Nat)), (Value.str (Str.ofString "name") (358 : Nat)), (Value.str (Str.ofString "place") (359 : Nat)), (Value.str (Str.ofString "tag") (360 : Nat))]) (0 : Nat)) (List.toArray [])) ::
  Prod.mk (α := Nat) (nat_lit 135) (Obj.mk (Value.type "tuple") (none (α := Nat)) (Data.seq (List.toArray []) (0 : Nat)) (List.toArray [])) ::
  Prod.mk (α := Nat) (nat_lit 137) (Obj.mk (Value.type "code") (none (α := Nat)) (Data.fields (List.toArray [(Value.str (Str.ofString "partial_of") (354 : Nat)), (Value.str (Str.ofString "Matching.partial_of") (355 : Nat)), (Value.str (Str.ofString "/claim/cut.py") (356 : Nat)), (Value.int (54 : Int) (0 : Nat)), (Value.int (2 : Int) (0 : Nat)), (Value.int (0 : Int) (0 : Nat)), (Value.int (0 : Int) (0 : Nat)), (Value.int (3 : Int) (0 : Nat)), (Value.ref (132 : Nat)), (Value.bool Bool.true), (Value.int (181 : Int) (0 : Nat)), (Value.ref (133 : Nat)), Value.none, (Value.ref (134 : Nat)), (Value.ref (135 : Nat)), (Value.ref (136 : Nat)), (Value.int (361 : Int) (0 : Nat)), (Value.int (54 : Int) (0 : Nat)), (Value.str (Str.ofString "/claim/cut.py") (362 : Nat))])) (List.toArray [])) ::
  Prod.mk (α := Nat) (nat_lit 138) (Obj.mk (Value.type "function") (none (α := Nat)) (Data.func (FuncData.mk (Str.ofString "partial_of") (Str.ofString "Matching.partial_of") a138 (FuncBody.stmts b138) s138 (3 : Nat) ([] : List (Str × Nat)) Value.none Value.none Value.none (Value.str (Str.ofString "vectorcove.callargs") (314 : Nat)) (none (α := Nat)) (Value.ref (137 : Nat)) Value.none (0 : Nat))) (List.toArray [])) ::
  Prod.mk (α := Nat) (nat_lit 139) (Obj.mk (Value.type "tuple") (none (α := Nat)) (Data.seq (List.toArray []) (0 : Nat)) (List.toArray [])) ::
  Prod.mk (α := Nat) (nat_lit 141) (Obj.mk (Value.type "tuple") (none (α := Nat)) (Data.seq (List.toArray [(Value.str (Str.ofString "self") (367 : Nat)), (Value.str (Str.ofString "place") (368 : Nat)), (Value.str (Str.ofString "name") (369 : Nat))]) (0 : Nat)) (List.toArray [])) ::
  Prod.mk (α := Nat) (nat_lit 142) (Obj.mk (Value.type "tuple") (none (α := Nat)) (Data.seq (List.toArray []) (0 : Nat)) (List.toArray [])) ::
  Prod.mk (α := Nat) (nat_lit 144) (Obj.mk (Value.type "code") (none (α := Nat)) (Data.fields (List.toArray [(Value.str (Str.ofString "positional") (364 : Nat)), (Value.str (Str.ofString "Matching.positional") (365 : Nat)), (Value.str (Str.ofString "/claim/cut.py") (366 : Nat)), (Value.int (65 : Int) (0 : Nat)), (Value.int (1 : Int) (0 : Nat)), (Value.int (0 : Int) (0 : Nat)), (Value.int (0 : Int) (0 : Nat)), (Value.int (3 : Int) (0 : Nat)), (Value.ref (139 : Nat)), (Value.bool Bool.true), (Value.int (181 : Int) (0 : Nat)), (Value.ref (140 : Nat)), Value.none, (Value.ref (141 : Nat)), (Value.ref (142 : Nat)), (Value.ref (143 : Nat)), (Value.int (370 : Int) (0 : Nat)), (Value.int (65 : Int) (0 : Nat)), (Value.str (Str.ofString "/claim/cut.py") (371 : Nat))])) (List.toArray [])) ::
  Prod.mk (α := Nat) (nat_lit 145) (Obj.mk (Value.type "function") (none (α := Nat)) (Data.func (FuncData.mk (Str.ofString "positional") (Str.ofString "Matching.positional") a145 (FuncBody.stmts b145) s145 (3 : Nat) ([] : List (Str × Nat)) Value.none Value.none Value.none (Value.str (Str.ofString "vectorcove.callargs") (314 : Nat)) (none (α := Nat)) (Value.ref (144 : Nat)) Value.none (0 : Nat))) (List.toArray [])) ::
  Prod.mk (α := Nat) (nat_lit 146) (Obj.mk (Value.type "tuple") (none (α := Nat)) (Data.seq (List.toArray []) (0 : Nat)) (List.toArray [])) ::
  Prod.mk (α := Nat) (nat_lit 148) (Obj.mk (Value.type "tuple") (none (α := Nat)) (Data.seq (List.toArray [(Value.str (Str.ofString "self") (376 : Nat)), (Value.str (Str.ofString "place") (377 : Nat))]) (0 : Nat)) (List.toArray [])) ::
  Prod.mk (α := Nat) (nat_lit 149) (Obj.mk (Value.type "tuple") (none (α := Nat)) (Data.seq (List.toArray []) (0 : Nat)) (List.toArray [])) ::
  Prod.mk (α := Nat) (nat_lit 151) (Obj.mk (Value.type "code") (none (α := Nat)) (Data.fields (List.toArray [(Value.str (Str.ofString "is_free") (373 : Nat)), (Value.str (Str.ofString "Matching.is_free") (374 : Nat)), (Value.str (Str.ofString "/claim/cut.py") (375 : Nat)), (Value.int (77 : Int) (0 : Nat)), (Value.int (2 : Int) (0 : Nat)), (Value.int (0 : Int) (0 : Nat)), (Value.int (0 : Int) (0 : Nat)), (Value.int (3 : Int) (0 : Nat)), (Value.ref (146 : Nat)), (Value.bool Bool.true), (Value.int (181 : Int) (0 : Nat)), (Value.ref (147 : Nat)), Value.none, (Value.ref (148 : Nat)), (Value.ref (149 : Nat)), (Value.ref (150 : Nat)), (Value.int (378 : Int) (0 : Nat)), (Value.int (77 : Int) (0 : Nat)), (Value.str (Str.ofString "/claim/cut.py") (379 : Nat))])) (List.toArray [])) ::
  Prod.mk (α := Nat) (nat_lit 152) (Obj.mk (Value.type "function") (none (α := Nat)) (Data.func (FuncData.mk (Str.ofString "is_free") (Str.ofString "Matching.is_free") a152 (FuncBody.stmts b152) s152 (3 : Nat) ([] : List (Str × Nat)) Value.none Value.none Value.none (Value.str (Str.ofString "vectorcove.callargs") (314 : Nat)) (none (α := Nat)) (Value.ref (151 : Nat)) Value.none (0 : Nat))) (List.toArray [])) ::
  Prod.mk (α := Nat) (nat_lit 153) (Obj.mk (Value.type "tuple") (none (α := Nat)) (Data.seq (List.toArray []) (0 : Nat)) (List.toArray [])) ::
  Prod.mk (α := Nat) (nat_lit 156) (Obj.mk (Value.type "code") (none (α := Nat)) (Data.fields (List.toArray [(Value.str (Str.ofString "rest") (381 : Nat)), (Value.str (Str.ofString "Matching.rest") (382 : Nat)), (Value.str (Str.ofString "/claim/cut.py") (383 : Nat)), (Value.int (80 : Int) (0 : Nat)), (Value.int (1 : Int) (0 : Nat)), (Value.int (0 : Int) (0 : Nat)), (Value.int (0 : Int) (0 : Nat)), (Value.int (3 : Int) (0 : Nat)), (Value.ref (153 : Nat)), (Value.bool Bool.true), (Value.int (181 : Int) (0 : Nat)), (Value.ref (154 : Nat)), Value.none, Value.none, Value.none, (Value.ref (155 : Nat)), (Value.int (384 : Int) (0 : Nat)), (Value.int (80 : Int) (0 : Nat)), (Value.str (Str.ofString "/claim/cut.py") (385 : Nat))])) (List.toArray [])) ::
  Prod.mk (α := Nat) (nat_lit 157) (Obj.mk (Value.type "function") (none (α := Nat)) (Data.func (FuncData.mk (Str.ofString "rest") (Str.ofString "Matching.rest") a157 (FuncBody.stmts b157) s157 (3 : Nat) ([] : List (Str × Nat)) Value.none Value.none Value.none (Value.str (Str.ofString "vectorcove.callargs") (314 : Nat)) (none (α := Nat)) (Value.ref (156 : Nat)) Value.none (0 : Nat))) (List.toArray [])) ::
  Prod.mk (α := Nat) (nat_lit 158) (Obj.mk (Value.type "tuple") (none (α := Nat)) (Data.seq (List.toArray [(Value.str (Str.ofString "formals") (387 : Nat)), (Value.str (Str.ofString "places") (388 : Nat)), (Value.str (Str.ofString "tags") (389 : Nat)), (Value.str (Str.ofString "used") (390 : Nat))]) (0 : Nat)) (List.toArray [])) ::
  Prod.mk (α := Nat) (nat_lit 159) (Obj.mk (Value.type "dict") (none (α := Nat)) (Data.dict (List.toArray [(DictEntry.mk (PyData.keyHash P (Str.ofString "__module__")) (Value.str (Str.ofString "__module__") (323 : Nat)) (Value.str (Str.ofString "vectorcove.callargs") (314 : Nat))), (DictEntry.mk (PyData.keyHash P (Str.ofString "__firstlineno__")) (Value.str (Str.ofString "__firstlineno__") (327 : Nat)) (Value.int (29 : Int) (326 : Nat))), (DictEntry.mk (PyData.keyHash P (Str.ofString "__init__")) (Value.str (Str.ofString "__init__") (336 : Nat)) (Value.ref (117 : Nat))), (DictEntry.mk (PyData.keyHash P (Str.ofString "exact")) (Value.str (Str.ofString "exact") (345 : Nat)) (Value.ref (124 : Nat))), (DictEntry.mk (PyData.keyHash P (Str.ofString "partial")) (Value.str (Str.ofString "partial") (353 : Nat)) (Value.ref (131 : Nat))), (DictEntry.mk (PyData.keyHash P (Str.ofString "partial_of")) (Value.str (Str.ofString "partial_of") (363 : Nat)) (Value.ref (138 : Nat))), (DictEntry.mk (PyData.keyHash P (Str.ofString "positional")) (Value.str (Str.ofString "positional") (372 : Nat)) (Value.ref (145 : Nat))), (DictEntry.mk (PyData.keyHash P (Str.ofString "is_free")) (Value.str (Str.ofString "is_free") (380 : Nat)) (Value.ref (152 : Nat))), (DictEntry.mk (PyData.keyHash P (Str.ofString "rest")) (Value.str (Str.ofString "rest") (386 : Nat)) (Value.ref (157 : Nat))), (DictEntry.mk (PyData.keyHash P (Str.ofString "__static_attributes__")) (Value.str (Str.ofString "__static_attributes__") (391 : Nat)) (Value.ref (158 : Nat))), (DictEntry.mk (PyData.keyHash P (Str.ofString "__dict__")) (Value.str (Str.ofString "__dict__") (393 : Nat)) (Value.ref (161 : Nat))), (DictEntry.mk (PyData.keyHash P (Str.ofString "__weakref__")) (Value.str (Str.ofString "__weakref__") (395 : Nat)) (Value.ref (162 : Nat))), (DictEntry.mk (PyData.keyHash P (Str.ofString "__doc__")) (Value.str (Str.ofString "__doc__") (396 : Nat)) Value.none)]) (4 : Nat)) (List.toArray [])) ::
  Prod.mk (α := Nat) (nat_lit 160) (Obj.mk (Value.type "type") (none (α := Nat)) (Data.cls (ClassData.mk (Str.ofString "Matching") [(Value.type "object")] [(Value.ref (160 : Nat)), (Value.type "object")] (159 : Nat) (Str.ofString "Matching") Bool.true [] [] Bool.false none Bool.false)) (List.toArray [none, none, (some (Value.str (Str.ofString "Matching") (316 : Nat))), (some (Value.str (Str.ofString "Matching") (324 : Nat))), (some (Value.builtin "object.__new__")), (some (Value.bool Bool.true))])) ::
  Prod.mk (α := Nat) (nat_lit 161) (Obj.mk (Value.type "getset_descriptor") (none (α := Nat)) (Data.fields (List.toArray [(Value.str (Str.ofString "__dict__") (392 : Nat)), (Value.ref (160 : Nat)), (Value.builtin "function.__dict__"), (Value.builtin "function.__dict__#set")])) (List.toArray [])) ::
  Prod.mk (α := Nat) (nat_lit 162) (Obj.mk (Value.type "getset_descriptor") (none (α := Nat)) (Data.fields (List.toArray [(Value.str (Str.ofString "__weakref__") (394 : Nat)), (Value.ref (160 : Nat)), (Value.builtin "ExceptionGroup.__weakref__"), Value.none])) (List.toArray [])) ::
  Prod.mk (α := Nat) (nat_lit 165) (Obj.mk (Value.type "tuple") (none (α := Nat)) (Data.seq (List.toArray []) (0 : Nat)) (List.toArray [])) ::
  Prod.mk (α := Nat) (nat_lit 167) (Obj.mk (Value.type "tuple") (none (α := Nat)) (Data.seq (List.toArray [(Value.str (Str.ofString "name") (402 : Nat))]) (0 : Nat)) (List.toArray [])) ::
  Prod.mk (α := Nat) (nat_lit 168) (Obj.mk (Value.type "tuple") (none (α := Nat)) (Data.seq (List.toArray []) (0 : Nat)) (List.toArray [])) ::
  Prod.mk (α := Nat) (nat_lit 170) (Obj.mk (Value.type "code") (none (α := Nat)) (Data.fields (List.toArray [(Value.str (Str.ofString "doubled_text") (399 : Nat)), (Value.str (Str.ofString "doubled_text") (400 : Nat)), (Value.str (Str.ofString "/claim/cut.py") (401 : Nat)), (Value.int (82 : Int) (0 : Nat)), (Value.int (1 : Int) (0 : Nat)), (Value.int (0 : Int) (0 : Nat)), (Value.int (0 : Int) (0 : Nat)), (Value.int (3 : Int) (0 : Nat)), (Value.ref (165 : Nat)), (Value.bool Bool.true), (Value.int (181 : Int) (0 : Nat)), (Value.ref (166 : Nat)), Value.none, (Value.ref (167 : Nat)), (Value.ref (168 : Nat)), (Value.ref (169 : Nat)), (Value.int (403 : Int) (0 : Nat)), (Value.int (82 : Int) (0 : Nat)), (Value.str (Str.ofString "/claim/cut.py") (404 : Nat))])) (List.toArray [])) ::
  Prod.mk (α := Nat) (nat_lit 171) (Obj.mk (Value.type "function") (none (α := Nat)) (Data.func (FuncData.mk (Str.ofString "doubled_text") (Str.ofString "doubled_text") a171 (FuncBody.stmts b171) s171 (3 : Nat) ([] : List (Str × Nat)) Value.none Value.none Value.none (Value.str (Str.ofString "vectorcove.callargs") (314 : Nat)) (none (α := Nat)) (Value.ref (170 : Nat)) Value.none (0 : Nat))) (List.toArray [])) ::
  Prod.mk (α := Nat) (nat_lit 172) (Obj.mk (Value.type "tuple") (none (α := Nat)) (Data.seq (List.toArray []) (0 : Nat)) (List.toArray [])) ::
  Prod.mk (α := Nat) (nat_lit 174) (Obj.mk (Value.type "tuple") (none (α := Nat)) (Data.seq (List.toArray [(Value.str (Str.ofString "args") (409 : Nat)), (Value.str (Str.ofString "place") (410 : Nat)), (Value.str (Str.ofString "show") (411 : Nat)), (Value.str (Str.ofString "tag") (412 : Nat)), (Value.str (Str.ofString "value") (413 : Nat)), (Value.str (Str.ofString "told") (414 : Nat))]) (0 : Nat)) (List.toArray [])) ::
  Prod.mk (α := Nat) (nat_lit 175) (Obj.mk (Value.type "tuple") (none (α := Nat)) (Data.seq (List.toArray []) (0 : Nat)) (List.toArray [])) ::
  Prod.mk (α := Nat) (nat_lit 177) (Obj.mk (Value.type "code") (none (α := Nat)) (Data.fields (List.toArray [(Value.str (Str.ofString "argument_text") (406 : Nat)), (Value.str (Str.ofString "argument_text") (407 : Nat)), (Value.str (Str.ofString "/claim/cut.py") (408 : Nat)), (Value.int (84 : Int) (0 : Nat)), (Value.int (3 : Int) (0 : Nat)), (Value.int (0 : Int) (0 : Nat)), (Value.int (0 : Int) (0 : Nat)), (Value.int (3 : Int) (0 : Nat)), (Value.ref (172 : Nat)), (Value.bool Bool.true), (Value.int (181 : Int) (0 : Nat)), (Value.ref (173 : Nat)), Value.none, (Value.ref (174 : Nat)), (Value.ref (175 : Nat)), (Value.ref (176 : Nat)), (Value.int (415 : Int) (0 : Nat)), (Value.int (84 : Int) (0 : Nat)), (Value.str (Str.ofString "/claim/cut.py") (416 : Nat))])) (List.toArray [])) ::
  Prod.mk (α := Nat) (nat_lit 178) (Obj.mk (Value.type "function") (none (α := Nat)) (Data.func (FuncData.mk (Str.ofString "argument_text") (Str.ofString "argument_text") a178 (FuncBody.stmts b178) s178 (3 : Nat) ([] : List (Str × Nat)) Value.none Value.none Value.none (Value.str (Str.ofString "vectorcove.callargs") (314 : Nat)) (none (α := Nat)) (Value.ref (177 : Nat)) Value.none (0 : Nat))) (List.toArray [])) ::
  Prod.mk (α := Nat) (nat_lit 179) (Obj.mk (Value.type "tuple") (none (α := Nat)) (Data.seq (List.toArray []) (0 : Nat)) (List.toArray [])) ::
  Prod.mk (α := Nat) (nat_lit 181) (Obj.mk (Value.type "tuple") (none (α := Nat)) (Data.seq (List.toArray [(Value.str (Str.ofString "value") (421 : Nat)), (Value.str (Str.ofString "item") (422 : Nat))]) (0 : Nat)) (List.toArray [])) ::
  Prod.mk (α := Nat) (nat_lit 182) (Obj.mk (Value.type "tuple") (none (α := Nat)) (Data.seq (List.toArray []) (0 : Nat)) (List.toArray [])) ::
  Prod.mk (α := Nat) (nat_lit 184) (Obj.mk (Value.type "code") (none (α := Nat)) (Data.fields (List.toArray [(Value.str (Str.ofString "plain_text") (418 : Nat)), (Value.str (Str.ofString "plain_text") (419 : Nat)), (Value.str (Str.ofString "/claim/cut.py") (420 : Nat)), (Value.int (90 : Int) (0 : Nat)), (Value.int (1 : Int) (0 : Nat)), (Value.int (0 : Int) (0 : Nat)), (Value.int (0 : Int) (0 : Nat)), (Value.int (3 : Int) (0 : Nat)), (Value.ref (179 : Nat)), (Value.bool Bool.true), (Value.int (181 : Int) (0 : Nat)), (Value.ref (180 : Nat)), Value.none, (Value.ref (181 : Nat)), (Value.ref (182 : Nat)), (Value.ref (183 : Nat)), (Value.int (423 : Int) (0 : Nat)), (Value.int (90 : Int) (0 : Nat)), (Value.str (Str.ofString "/claim/cut.py") (424 : Nat))])) (List.toArray [])) ::
  Prod.mk (α := Nat) (nat_lit 185) (Obj.mk (Value.type "function") (none (α := Nat)) (Data.func (FuncData.mk (Str.ofString "plain_text") (Str.ofString "plain_text") a185 (FuncBody.stmts b185) s185 (3 : Nat) ([] : List (Str × Nat)) Value.none Value.none Value.none (Value.str (Str.ofString "vectorcove.callargs") (314 : Nat)) (none (α := Nat)) (Value.ref (184 : Nat)) Value.none (0 : Nat))) (List.toArray [])) ::
  Prod.mk (α := Nat) (nat_lit 186) (Obj.mk (Value.type "tuple") (none (α := Nat)) (Data.seq (List.toArray []) (0 : Nat)) (List.toArray [])) ::
  Prod.mk (α := Nat) (nat_lit 189) (Obj.mk (Value.type "code") (none (α := Nat)) (Data.fields (List.toArray [(Value.str (Str.ofString "unused_text") (426 : Nat)), (Value.str (Str.ofString "unused_text") (427 : Nat)), (Value.str (Str.ofString "/claim/cut.py") (428 : Nat)), (Value.int (105 : Int) (0 : Nat)), (Value.int (3 : Int) (0 : Nat)), (Value.int (0 : Int) (0 : Nat)), (Value.int (0 : Int) (0 : Nat)), (Value.int (3 : Int) (0 : Nat)), (Value.ref (186 : Nat)), (Value.bool Bool.true), (Value.int (181 : Int) (0 : Nat)), (Value.ref (187 : Nat)), Value.none, Value.none, Value.none, (Value.ref (188 : Nat)), (Value.int (429 : Int) (0 : Nat)), (Value.int (105 : Int) (0 : Nat)), (Value.str (Str.ofString "/claim/cut.py") (430 : Nat))])) (List.toArray [])) ::
  Prod.mk (α := Nat) (nat_lit 190) (Obj.mk (Value.type "function") (none (α := Nat)) (Data.func (FuncData.mk (Str.ofString "unused_text") (Str.ofString "unused_text") a190 (FuncBody.stmts b190) s190 (3 : Nat) ([] : List (Str × Nat)) Value.none Value.none Value.none (Value.str (Str.ofString "vectorcove.callargs") (314 : Nat)) (none (α := Nat)) (Value.ref (189 : Nat)) Value.none (0 : Nat))) (List.toArray [])) ::
  Prod.mk (α := Nat) (nat_lit 191) (Obj.mk (Value.type "tuple") (none (α := Nat)) (Data.seq (List.toArray [Value.none]) (0 : Nat)) (List.toArray [])) ::
  Prod.mk (α := Nat) (nat_lit 192) (Obj.mk (Value.type "tuple") (none (α := Nat)) (Data.seq (List.toArray []) (0 : Nat)) (List.toArray [])) ::
  Prod.mk (α := Nat) (nat_lit 195) (Obj.mk (Value.type "code") (none (α := Nat)) (Data.fields (List.toArray [(Value.str (Str.ofString "match_names") (432 : Nat)), (Value.str (Str.ofString "match_names") (433 : Nat)), (Value.str (Str.ofString "/claim/cut.py") (434 : Nat)), (Value.int (111 : Int) (0 : Nat)), (Value.int (3 : Int) (0 : Nat)), (Value.int (0 : Int) (0 : Nat)), (Value.int (0 : Int) (0 : Nat)), (Value.int (3 : Int) (0 : Nat)), (Value.ref (192 : Nat)), (Value.bool Bool.true), (Value.int (181 : Int) (0 : Nat)), (Value.ref (193 : Nat)), Value.none, Value.none, Value.none, (Value.ref (194 : Nat)), (Value.int (435 : Int) (0 : Nat)), (Value.int (111 : Int) (0 : Nat)), (Value.str (Str.ofString "/claim/cut.py") (436 : Nat))])) (List.toArray [])) ::
  Prod.mk (α := Nat) (nat_lit 196) (Obj.mk (Value.type "function") (none (α := Nat)) (Data.func (FuncData.mk (Str.ofString "match_names") (Str.ofString "match_names") a196 (FuncBody.stmts b196) s196 (3 : Nat) ([] : List (Str × Nat)) (Value.ref (191 : Nat)) Value.none Value.none (Value.str (Str.ofString "vectorcove.callargs") (314 : Nat)) (none (α := Nat)) (Value.ref (195 : Nat)) Value.none (0 : Nat))) (List.toArray [])) ::
  Prod.mk (α := Nat) (nat_lit 197) (Obj.mk (Value.type "tuple") (none (α := Nat)) (Data.seq (List.toArray [Value.none]) (0 : Nat)) (List.toArray [])) ::
  Prod.mk (α := Nat) (nat_lit 198) (Obj.mk (Value.type "tuple") (none (α := Nat)) (Data.seq (List.toArray []) (0 : Nat)) (List.toArray [])) ::
  Prod.mk (α := Nat) (nat_lit 201) (Obj.mk (Value.type "code") (none (α := Nat)) (Data.fields (List.toArray [(Value.str (Str.ofString "take") (438 : Nat)), (Value.str (Str.ofString "take") (439 : Nat)), (Value.str (Str.ofString "/claim/cut.py") (440 : Nat)), (Value.int (120 : Int) (0 : Nat)), (Value.int (3 : Int) (0 : Nat)), (Value.int (0 : Int) (0 : Nat)), (Value.int (0 : Int) (0 : Nat)), (Value.int (3 : Int) (0 : Nat)), (Value.ref (198 : Nat)), (Value.bool Bool.true), (Value.int (181 : Int) (0 : Nat)), (Value.ref (199 : Nat)), Value.none, Value.none, Value.none, (Value.ref (200 : Nat)), (Value.int (441 : Int) (0 : Nat)), (Value.int (120 : Int) (0 : Nat)), (Value.str (Str.ofString "/claim/cut.py") (442 : Nat))])) (List.toArray [])) ::
  Prod.mk (α := Nat) (nat_lit 202) (Obj.mk (Value.type "function") (none (α := Nat)) (Data.func (FuncData.mk (Str.ofString "take") (Str.ofString "take") a202 (FuncBody.stmts b202) s202 (3 : Nat) ([] : List (Str × Nat)) (Value.ref (197 : Nat)) Value.none Value.none (Value.str (Str.ofString "vectorcove.callargs") (314 : Nat)) (none (α := Nat)) (Value.ref (201 : Nat)) Value.none (0 : Nat))) (List.toArray [])) ::
  Prod.mk (α := Nat) (nat_lit 203) (Obj.mk (Value.type "tuple") (none (α := Nat)) (Data.seq (List.toArray []) (0 : Nat)) (List.toArray [])) ::
  Prod.mk (α := Nat) (nat_lit 205) (Obj.mk (Value.type "tuple") (none (α := Nat)) (Data.seq (List.toArray [(Value.str (Str.ofString "row") (449 : Nat))]) (0 : Nat)) (List.toArray [])) ::
  Prod.mk (α := Nat) (nat_lit 206) (Obj.mk (Value.type "tuple") (none (α := Nat)) (Data.seq (List.toArray []) (0 : Nat)) (List.toArray [])) ::
  Prod.mk (α := Nat) (nat_lit 208) (Obj.mk (Value.type "code") (none (α := Nat)) (Data.fields (List.toArray [(Value.str (Str.ofString "_law_next") (446 : Nat)), (Value.str (Str.ofString "_law_next") (447 : Nat)), (Value.str (Str.ofString "/claim/cut.py") (448 : Nat)), (Value.int (132 : Int) (0 : Nat)), (Value.int (1 : Int) (0 : Nat)), (Value.int (0 : Int) (0 : Nat)), (Value.int (0 : Int) (0 : Nat)), (Value.int (3 : Int) (0 : Nat)), (Value.ref (203 : Nat)), (Value.bool Bool.true), (Value.int (181 : Int) (0 : Nat)), (Value.ref (204 : Nat)), Value.none, (Value.ref (205 : Nat)), (Value.ref (206 : Nat)), (Value.ref (207 : Nat)), (Value.int (450 : Int) (0 : Nat)), (Value.int (132 : Int) (0 : Nat)), (Value.str (Str.ofString "/claim/cut.py") (451 : Nat))])) (List.toArray [])) ::
  Prod.mk (α := Nat) (nat_lit 209) (Obj.mk (Value.type "function") (none (α := Nat)) (Data.func (FuncData.mk (Str.ofString "_law_next") (Str.ofString "_law_next") a209 (FuncBody.stmts b209) s209 (3 : Nat) ([] : List (Str × Nat)) Value.none Value.none Value.none (Value.str (Str.ofString "law_pq1402_01") (444 : Nat)) (none (α := Nat)) (Value.ref (208 : Nat)) Value.none (0 : Nat))) (List.toArray [])) ::
  Prod.mk (α := Nat) (nat_lit 210) (Obj.mk (Value.type "tuple") (none (α := Nat)) (Data.seq (List.toArray []) (0 : Nat)) (List.toArray [])) ::
  Prod.mk (α := Nat) (nat_lit 212) (Obj.mk (Value.type "tuple") (none (α := Nat)) (Data.seq (List.toArray [(Value.str (Str.ofString "row") (456 : Nat)), (Value.str (Str.ofString "way") (457 : Nat)), (Value.str (Str.ofString "step") (458 : Nat)), (Value.str (Str.ofString "made") (459 : Nat))]) (0 : Nat)) (List.toArray [])) ::
  Prod.mk (α := Nat) (nat_lit 213) (Obj.mk (Value.type "tuple") (none (α := Nat)) (Data.seq (List.toArray []) (0 : Nat)) (List.toArray [])) ::
  Prod.mk (α := Nat) (nat_lit 215) (Obj.mk (Value.type "code") (none (α := Nat)) (Data.fields (List.toArray [(Value.str (Str.ofString "_law_value") (453 : Nat)), (Value.str (Str.ofString "_law_value") (454 : Nat)), (Value.str (Str.ofString "/claim/cut.py") (455 : Nat)), (Value.int (134 : Int) (0 : Nat)), (Value.int (1 : Int) (0 : Nat)), (Value.int (0 : Int) (0 : Nat)), (Value.int (0 : Int) (0 : Nat)), (Value.int (3 : Int) (0 : Nat)), (Value.ref (210 : Nat)), (Value.bool Bool.true), (Value.int (181 : Int) (0 : Nat)), (Value.ref (211 : Nat)), Value.none, (Value.ref (212 : Nat)), (Value.ref (213 : Nat)), (Value.ref (214 : Nat)), (Value.int (460 : Int) (0 : Nat)), (Value.int (134 : Int) (0 : Nat)), (Value.str (Str.ofString "/claim/cut.py") (461 : Nat))])) (List.toArray [])) ::
  Prod.mk (α := Nat) (nat_lit 216) (Obj.mk (Value.type "function") (none (α := Nat)) (Data.func (FuncData.mk (Str.ofString "_law_value") (Str.ofString "_law_value") a216 (FuncBody.stmts b216) s216 (3 : Nat) ([] : List (Str × Nat)) Value.none Value.none Value.none (Value.str (Str.ofString "law_pq1402_01") (444 : Nat)) (none (α := Nat)) (Value.ref (215 : Nat)) Value.none (0 : Nat))) (List.toArray [])) ::
  Prod.mk (α := Nat) (nat_lit 217) (Obj.mk (Value.type "tuple") (none (α := Nat)) (Data.seq (List.toArray []) (0 : Nat)) (List.toArray [])) ::
  Prod.mk (α := Nat) (nat_lit 220) (Obj.mk (Value.type "code") (none (α := Nat)) (Data.fields (List.toArray [(Value.str (Str.ofString "law") (463 : Nat)), (Value.str (Str.ofString "law") (464 : Nat)), (Value.str (Str.ofString "/claim/cut.py") (465 : Nat)), (Value.int (156 : Int) (0 : Nat)), (Value.int (1 : Int) (0 : Nat)), (Value.int (0 : Int) (0 : Nat)), (Value.int (0 : Int) (0 : Nat)), (Value.int (3 : Int) (0 : Nat)), (Value.ref (217 : Nat)), (Value.bool Bool.true), (Value.int (181 : Int) (0 : Nat)), (Value.ref (218 : Nat)), Value.none, Value.none, Value.none, (Value.ref (219 : Nat)), (Value.int (466 : Int) (0 : Nat)), (Value.int (156 : Int) (0 : Nat)), (Value.str (Str.ofString "/claim/cut.py") (467 : Nat))])) (List.toArray [])) ::
  Prod.mk (α := Nat) (nat_lit 221) (Obj.mk (Value.type "function") (none (α := Nat)) (Data.func (FuncData.mk (Str.ofString "law") (Str.ofString "law") a221 (FuncBody.stmts b221) s221 (3 : Nat) ([] : List (Str × Nat)) Value.none Value.none Value.none (Value.str (Str.ofString "law_pq1402_01") (444 : Nat)) (none (α := Nat)) (Value.ref (220 : Nat)) Value.none (0 : Nat))) (List.toArray [])) :: [])
  _ _ _ rfl _ _ _ rfl _ _ _ rfl _ _ _ rfl _ _ _ rfl _ _ _ rfl _ _ _ rfl _ _ _ rfl _ _ _ rfl _ _ _ rfl _ _ _ rfl _ _ _ rfl _ _ _ rfl _ _ _ rfl _ _ _ rfl _ _ _ rfl _ _ _ rfl _ _ _ rfl _ _ _ rfl _ _ _ rfl _ _ _ rfl
noncomputable def viewQ : Program := view PySem.Challenge.rw_pq1402_01.row.toRowW.prog [0, 2, 3, 5, 6, 8, 9, 10, 11, 12, 16, 17, 18]
abbrev asK : List Addr := [2, 3, 15, 17, 18, 20, 21, 22, 29, 30, 31, 32, 35, 42, 44, 45, 47, 48, 49, 50, 51, 61, 63, 64, 66, 67, 68, 69, 70, 71, 72, 82, 83, 85, 86, 88, 89, 90, 92, 93, 95, 96, 97, 98, 99, 100, 101, 111, 113, 114, 116, 117, 118, 120, 121, 123, 124, 125, 127, 128, 130, 131, 132, 134, 135, 137, 138, 139, 141, 142, 144, 145, 146, 148, 149, 151, 152, 153, 156, 157, 158, 159, 160, 161, 162, 165, 167, 168, 170, 171, 172, 174, 175, 177, 178, 179, 181, 182, 184, 185, 186, 189, 190, 191, 192, 195, 196, 197, 198, 201, 202, 203, 205, 206, 208, 209, 210, 212, 213, 215, 216, 217, 220, 221]
end
open PySem PySem.W PyProof.Rows PySem.Calls
local macro_rules | `(tactic| units_room) => `(tactic| ((have hcL' := cLine_is); simp only [units_in1, units_deeper, Around.mark_units, units_caller]; (try dsimp only [ktrTop]); omega))
local macro_rules | `(tactic| k_room) => `(tactic| ktr_room)
local macro_rules | `(tactic| k_units) => `(tactic| ktr_units)
section
open PySem PySem.W PyProof.Rows PySem.Calls
noncomputable abbrev LL := looseW viewQ [Str.ofString "match_names", Str.ofString "take"]

/-- what a call needs of its caller -/
structure Cx (w : World) (mean : ExcName → Option Value) (mg mb : Str → Option Value) (A₀ : Around) (base : Heap) (outer : List Env) (h₀ : Heap) (L : Addr) (h : Heap) (m : Str → Option Value) : Prop where
  B : Below A₀ base outer h₀
  F : Fr h₀ L h m
  X : (heapK w.params).In h₀
  T : Top viewQ LL mean mg mb h₀

theorem gsub_back {h g h' : Heap} {L' : Addr} {m' : Str → Option Value} {adr : List Addr} (G : GSub h g adr) (F' : Fr g L' h' m') : GSub h h' adr := fun b o e n => F'.keep b o (G b o e n)

theorem fr_gsub {h₀ h h' : Heap} {L : Addr} {m : Str → Option Value} {news : List (Addr × Obj)} (F : Fr h₀ L h m) (N : News h₀ L h news) (G : GSub h h' (news.map (·.1))) : Fr h₀ L h' m := by
  obtain ⟨⟨oL, es, ep, hL, r⟩, k, a⟩ := F
  refine ⟨⟨oL, es, ep, G _ _ hL fun hm => ?_, r⟩, fun b o e => G b o (k b o e) fun hm => ?_, a⟩
  · obtain ⟨p, hp, e⟩ := List.mem_map.mp hm
    exact (N p hp).2.1 e
  · obtain ⟨p, hp, rfl⟩ := List.mem_map.mp hm
    have := (N p hp).2.2
    rw [e] at this; cases this

section
variable {w : World} {mean : ExcName → Option Value} {mg mb : Str → Option Value} {dp un : Nat} {gd : Option (List Code)} {cn : Str} {cs : Scope} {a : Addr} {ccd : Value} {cl : List (Str × Addr)} {outer : List Env} {A₀ : Around} {base h₀ : Heap} {L : Addr} {m : Str → Option Value} {s : Shared} {Q E : Value → Shared → Prop}


set_option maxRecDepth 100000 in
set_option maxHeartbeats 8000000 in
theorem next_call (C : Cx w mean mg mb A₀ base outer h₀ L s.heap m) (hk : cs.kind = .function) (hdp : dp + 5 < recursionLimit) (hun : un + 100 < cLine)
    {r : Addr} {rows : List Value} {ns : List Int} {n : Nat} (N : News h₀ L s.heap [(r, listOf rows.toArray n)]) (hI : IntsAre rows ns) (hlen : ns.length ≤ 1000)
    (ret : ∀ t h' tk' rows' n', GSub s.heap h' [r] → h'.get? r = some (listOf rows'.toArray n') → IntsAre rows' ns.dropLast → Q (.int (ns.getLastD 0) t) { s with heap := h', toks := tk' }) :
   wpAny (model PySem.Challenge.rw_pq1402_01.row.prog w) (ktrTop dp un gd cn cs L a ccd cl outer) (call (.ref 209) [.ref r]) Q E s := by
  w_top off
  k_with_none
  (k_with "LeaveK" => (refine' leaveK_ (by k_asm) (by k_asm) ?_; intro _ _; dsimp only))
  (k_with "LeaveK int" => (refine' leaveK_ (by k_asm) (by k_asm) ?_; intro _ _; dsimp only))
  obtain ⟨B, F, X, T⟩ := C
  revert X; k_fill; intro X
  refine wpAny_call ?_
  k_dflt (refine' code_defG ?k1 ?k2 ?k3 ?k4 ?k5 ?kA ?kF ?kK ?k6 ?k7 ?k8 ?k9 ?kB ?_ ?c2 ?c3 ?c4 ?c5; (case kA => exact rfl); (case kF => exact rfl); (case kK => assumption); (case k1 => k_asm); (case k2 => k_asm); (case k3 => k_asm); (case k4 => k_asm); (case k5 => k_asm); (case k6 => k_is); (case k7 => k_is); (case k8 => ktr_room); (case k9 => exact BindsTo.of_eq rfl); (case c5 => decide); (case kB => exact locs rfl); (case c2 => exact rfl); (case c3 => exact rfl); (case c4 => exact rfl); k_whole; intro g' L' h' FG' F' N' B' X' T' kG'; (try dsimp only); (try k_fold))
  k_steps
  · rename_i l1 h1 F1 N1 l2 c kF kN
    obtain rfl : ns = [] := by simpa using c
    cases hI
    exact ret _ _ _ [] n (gsub_back kG' F1) (N1 _ (.tail _ (.head _))).1 .nil
  · rename_i l1 h1 F1 N1 l2 c
    have hne : ns ≠ [] := by simpa using c
    have hl := IntsAre.length hI
    have h0 : 0 < ns.length := List.length_pos_iff.mpr hne
    refine kpa_pop F1 N1 (by k_upd) hI (by omega) (by rw [PySem.sizeLine_eq]; omega) fun h2 t F2 N2 hI2 => ?_
    k_steps
    exact ret _ _ _ _ _ (gsub_back kG' F2) (N2 _ (.tail _ (.head _))).1 hI2
end
end
section
open PySem PySem.W PyProof.Rows PySem.Calls

theorem news_gsub {h₀ h h' : Heap} {L d : Addr} {o o' : Obj} {pre post : List (Addr × Obj)} (N : News h₀ L h (pre ++ (d, o) :: post)) (G : GSub h h' [d]) (e : h'.get? d = some o') (a : ∀ p ∈ pre, p.1 ≠ d) (b : ∀ p ∈ post, p.1 ≠ d) :
    News h₀ L h' (pre ++ (d, o') :: post) := by
  intro p hp
  have D := N (d, o) (by simp)
  rcases List.mem_append.mp hp with q | q
  · have P := N p (List.mem_append_left _ q)
    exact ⟨G _ _ P.1 (by simpa using a p q), P.2⟩
  · rcases List.mem_cons.mp q with rfl | q
    · exact ⟨e, D.2⟩
    · have P := N p (List.mem_append_right _ (.tail _ q))
      exact ⟨G _ _ P.1 (by simpa using b p q), P.2⟩
theorem news_gsub0 {h₀ h h' : Heap} {L : Addr} {news : List (Addr × Obj)} (N : News h₀ L h news) (G : GSub h h' []) : News h₀ L h' news := fun p hp => ⟨G _ _ (N p hp).1 (by simp), (N p hp).2⟩
theorem fr_gsub0 {h₀ h h' : Heap} {L : Addr} {m : Str → Option Value} (F : Fr h₀ L h m) (G : GSub h h' []) : Fr h₀ L h' m := fr_gsub F News.nil G

theorem allLt_all {d : Addr} : ∀ {l : List (Addr × Obj)}, AllLt d l → ∀ p ∈ l, p.1 < d
  | [], _, _, hp => nomatch hp
  | q :: r, h, p, hp => by
    rcases List.mem_cons.mp hp with rfl | hp
    · exact h.1
    · exact allLt_all h.2 p hp
theorem allLt_ne {d : Addr} {l : List (Addr × Obj)} (h : AllLt d l) : ∀ p ∈ l, p.1 ≠ d := fun p hp => Nat.ne_of_lt (allLt_all h p hp)

/-- the fields of a Vector as the call of its class leaves them -/
abbrev vecD (P : Params) (kd it at_ : Value) (t1 t2 t3 t4 t5 : Tok) : Obj :=
  dictOf [⟨PyData.keyHash P (Str.ofString "kind"), .str (Str.ofString "kind") t1, kd⟩, ⟨PyData.keyHash P (Str.ofString "items"), .str (Str.ofString "items") t2, it⟩, ⟨PyData.keyHash P (Str.ofString "attrs"), .str (Str.ofString "attrs") t3, at_⟩,
    ⟨PyData.keyHash P (Str.ofString "shared"), .str (Str.ofString "shared") t4, .bool false⟩, ⟨PyData.keyHash P (Str.ofString "loose"), .str (Str.ofString "loose") t5, .bool false⟩] 5
abbrev nulD (P : Params) (t0 t1 t2 : Tok) : Obj :=
  dictOf [⟨PyData.keyHash P (Str.ofString "kind"), .str (Str.ofString "kind") t1, .str (Str.ofString "NULL") t0⟩, ⟨PyData.keyHash P (Str.ofString "attrs"), .str (Str.ofString "attrs") t2, .none⟩] 2

section
variable {w : World} {mean : ExcName → Option Value} {mg mb : Str → Option Value} {dp un : Nat} {gd : Option (List Code)} {cn : Str} {cs : Scope} {a : Addr} {ccd : Value} {cl : List (Str × Addr)} {outer : List Env} {A₀ : Around} {base h₀ : Heap} {L : Addr} {m : Str → Option Value} {s : Shared} {Q E : Value → Shared → Prop}

theorem next_walk {r : Addr} {rows : List Value} {ns : List Int} {n : Nat} {news : List (Addr × Obj)} {g : Obj → List (Addr × Obj)} (B : Below A₀ base outer h₀) (F : Fr h₀ L s.heap m) (X : (heapK w.params).In h₀) (T : Top viewQ LL mean mg mb h₀) (N : News h₀ L s.heap news)
    (U : UpdF r (listOf rows.toArray n) news g) (hI : IntsAre rows ns) (hlen : ns.length ≤ 1000) (hk : cs.kind = .function) (hdp : dp + 5 < recursionLimit) (hun : un + 100 < cLine)
    (ret : ∀ t h' tk' rows' n', Fr h₀ L h' m → News h₀ L h' (g (listOf rows'.toArray n')) → IntsAre rows' ns.dropLast → Q (.int (ns.getLastD 0) t) { s with heap := h', toks := tk' }) :
   wpAny (model PySem.Challenge.rw_pq1402_01.row.prog w) (ktrTop dp un gd cn cs L a ccd cl outer) (call (.ref 209) [.ref r]) Q E s := by
  obtain ⟨pre, post, rfl, hg, p1, p2⟩ := U.split
  have N1 : News h₀ L s.heap [(r, listOf rows.toArray n)] := fun p hp => N p (by rw [List.mem_singleton.mp hp]; simp)
  refine next_call ⟨B, F, X, T⟩ hk hdp hun N1 hI hlen fun t h' tk' rows' n' G e hi => ret t h' tk' rows' n' (fr_gsub F N1 G) ?_ hi
  rw [hg]
  exact news_gsub N G e p1 p2


set_option maxRecDepth 100000 in
set_option maxHeartbeats 8000000 in
theorem vec_walk {kd it : Value} {news : List (Addr × Obj)} (B : Below A₀ base outer h₀) (F : Fr h₀ L s.heap m) (X : (heapK w.params).In h₀) (T : Top viewQ LL mean mg mb h₀) (N : News h₀ L s.heap news)
    (hk : cs.kind = .function) (hdp : dp + 10 < recursionLimit) (hun : un + 100 < cLine)
    (ret : ∀ x dx t1 t2 t3 t4 t5 h' tk', Fr h₀ L h' m → News h₀ L h' ((x, instObj 99 dx) :: (dx, vecD w.params kd it .none t1 t2 t3 t4 t5) :: news) → (∀ p ∈ news, p.1 < dx) → dx < x → Q (.ref x) { s with heap := h', toks := tk' }) :
   wpAny (model PySem.Challenge.rw_pq1402_01.row.prog w) (ktrTop dp un gd cn cs L a ccd cl outer) (call (.ref 99) [kd, it]) Q E s := by
  w_top off
  k_with_none
  (k_with "LeaveK" => (refine' leaveK_ (by k_asm) (by k_asm) ?_; intro _ _; dsimp only))
  (k_with "LeaveK none" => (refine' leaveK_ (by k_asm) (by k_asm) ?_; intro _ _; dsimp only))
  revert X; k_fill; intro X
  k_dflt (refine' call_cls ?k1 ?k2 ?k3 ?k4 ?k5 ?k6 ?_; (case k1 => k_asm); (case k2 => k_asm); (case k3 => k_asm); (case k4 => k_is); (case k5 => k_is); (case k6 => k_is); k_whole; intro x' d' h' F' N' l1 l2; (try k_lt l1); (try k_lt2 l2); (try k_sweep); (refine' code_def ?k1 ?k2 ?k3 ?k4 ?k5 ?kA ?kF ?kK ?k6 ?k7 ?k8 ?k9 ?kB ?_ ?c2 ?c3 ?c4 ?c5; (case kA => exact rfl); (case kF => exact rfl); (case kK => first | exact rfl | assumption); (case k1 => k_asm); (case k2 => k_asm); (case k3 => k_asm); (case k4 => k_asm); (case k5 => k_asm); (case k6 => k_is); (case k7 => k_is); (case k8 => k_room); (case k9 => first | exact BindsTo.of_eq rfl | exact binds_K (by k_in) rfl (by k_is) rfl rfl rfl | fail "k_enter: no rule for these arguments"); (case c5 => decide); (case kB => exact locs rfl); (case c2 => exact rfl); (case c3 => exact rfl); (case c4 => exact rfl); k_whole; intro g' L' h' FG' F' N' B' X' T'; (try dsimp only); (try k_fold)))
  k_steps
  rename_i kF kN _ _
  exact ret _ _ _ _ _ _ _ _ _ kF kN l1 l2

set_option maxRecDepth 100000 in
set_option maxHeartbeats 8000000 in
theorem nul_walk {news : List (Addr × Obj)} (B : Below A₀ base outer h₀) (F : Fr h₀ L s.heap m) (X : (heapK w.params).In h₀) (T : Top viewQ LL mean mg mb h₀) (N : News h₀ L s.heap news)
    (hk : cs.kind = .function) (hdp : dp + 10 < recursionLimit) (hun : un + 100 < cLine)
    (ret : ∀ x dx t0 t1 t2 h' tk', Fr h₀ L h' m → News h₀ L h' ((x, instObj 70 dx) :: (dx, nulD w.params t0 t1 t2) :: news) → (∀ p ∈ news, p.1 < dx) → dx < x → Q (.ref x) { s with heap := h', toks := tk' }) :
   wpAny (model PySem.Challenge.rw_pq1402_01.row.prog w) (ktrTop dp un gd cn cs L a ccd cl outer) (call (.ref 70) []) Q E s := by
  w_top off
  k_with_none
  (k_with "LeaveK" => (refine' leaveK_ (by k_asm) (by k_asm) ?_; intro _ _; dsimp only))
  (k_with "LeaveK none" => (refine' leaveK_ (by k_asm) (by k_asm) ?_; intro _ _; dsimp only))
  revert X; k_fill; intro X
  k_dflt (refine' call_cls ?k1 ?k2 ?k3 ?k4 ?k5 ?k6 ?_; (case k1 => k_asm); (case k2 => k_asm); (case k3 => k_asm); (case k4 => k_is); (case k5 => k_is); (case k6 => k_is); k_whole; intro x' d' h' F' N' l1 l2; (try k_lt l1); (try k_lt2 l2); (try k_sweep); (refine' code_def ?k1 ?k2 ?k3 ?k4 ?k5 ?kA ?kF ?kK ?k6 ?k7 ?k8 ?k9 ?kB ?_ ?c2 ?c3 ?c4 ?c5; (case kA => exact rfl); (case kF => exact rfl); (case kK => first | exact rfl | assumption); (case k1 => k_asm); (case k2 => k_asm); (case k3 => k_asm); (case k4 => k_asm); (case k5 => k_asm); (case k6 => k_is); (case k7 => k_is); (case k8 => k_room); (case k9 => first | exact BindsTo.of_eq rfl | exact binds_K (by k_in) rfl (by k_is) rfl rfl rfl | fail "k_enter: no rule for these arguments"); (case c5 => decide); (case kB => exact locs rfl); (case c2 => exact rfl); (case c3 => exact rfl); (case c4 => exact rfl); k_whole; intro g' L' h' FG' F' N' B' X' T'; (try dsimp only); (try k_fold)))
  k_steps
  rename_i kF kN _ _
  exact ret _ _ _ _ _ _ _ kF kN l1 l2
end

/-! the kinds of values that the law builds -/
inductive Val where
  | lg (k : Nat)
  | it (i : Int)
  | db (i : Int)
  | fr
  | ch (x : Str)
  | qu
  | tw
  | at
  | nu

def chTexts : List Str := [Str.ofString "", Str.ofString "a", Str.ofString "ab", Str.ofString "ab ", Str.ofString "ab c"]
def Val.Ok : Val → Prop
  | .lg k => k < 3
  | .it i => i.natAbs ≤ 1000
  | .db i => 0 ≤ i ∧ i < 5000
  | .ch x => x ∈ chTexts
  | _ => True
def Val.text : Val → Option Str
  | .lg 0 => some (Str.ofString "FALSE")
  | .lg 1 => some (Str.ofString "TRUE")
  | .lg _ => some (Str.ofString "NA")
  | .it i => some (Str.ofString (toString i) ++ Str.ofString "L")
  | .db i => some (Str.ofString (toString i))
  | .ch x => some (Str.ofString "\"" ++ x ++ Str.ofString "\"")
  | _ => none

def OptTxt : Option Str → Value → Prop
  | none, v => v = .none
  | some x, v => ∃ t, v = .str x t

/-- an object that stands in h at an address that is ok -/
def At (h : Heap) (ok : Addr → Prop) (b : Addr) (o : Obj) : Prop := h.get? b = some o ∧ ok b
def VecAt (P : Params) (h : Heap) (ok : Addr → Prop) (x : Addr) (kd : Str) (l : Addr) (atv : Value) : Prop :=
  ∃ dx t0 t1 t2 t3 t4 t5, At h ok x (instObj 99 dx) ∧ At h ok dx (vecD P (.str kd t0) (.ref l) atv t1 t2 t3 t4 t5)
def LstAt (h : Heap) (ok : Addr → Prop) (l : Addr) (vs : List Value) : Prop := ∃ n, At h ok l (listOf vs.toArray n)
def TupAt (h : Heap) (ok : Addr → Prop) (l : Addr) (vs : List Value) : Prop := ∃ n, At h ok l { cls := .type "tuple", data := .seq vs.toArray n }
def LgItem : Nat → Value → Prop
  | 0, v => ∃ t, v = .int 0 t
  | 1, v => ∃ t, v = .int 1 t
  | _, v => v = .none
def ValIn (P : Params) (h : Heap) (ok : Addr → Prop) (v : Value) : Val → Prop
  | .lg k => ∃ x l iv, v = .ref x ∧ VecAt P h ok x (Str.ofString "logical") l .none ∧ LstAt h ok l [iv] ∧ LgItem k iv
  | .it i => ∃ x l t, v = .ref x ∧ VecAt P h ok x (Str.ofString "integer") l .none ∧ LstAt h ok l [.int i t]
  | .db i => ∃ x l p t t', v = .ref x ∧ VecAt P h ok x (Str.ofString "double") l .none ∧ LstAt h ok l [.ref p] ∧ TupAt h ok p [.int i t, .int 1 t']
  | .fr => ∃ x l p t t', v = .ref x ∧ VecAt P h ok x (Str.ofString "double") l .none ∧ LstAt h ok l [.ref p] ∧ TupAt h ok p [.int 1 t, .int 3 t']
  | .ch y => ∃ x l t, v = .ref x ∧ VecAt P h ok x (Str.ofString "character") l .none ∧ LstAt h ok l [.str y t]
  | .qu => ∃ x l t, v = .ref x ∧ VecAt P h ok x (Str.ofString "character") l .none ∧ LstAt h ok l [.str (Str.ofString "a\"b") t]
  | .tw => ∃ x l t t', v = .ref x ∧ VecAt P h ok x (Str.ofString "integer") l .none ∧ LstAt h ok l [.int 1 t, .int 2 t']
  | .at => ∃ x l t d, v = .ref x ∧ VecAt P h ok x (Str.ofString "integer") l (.ref d) ∧ LstAt h ok l [.int 1 t]
  | .nu => ∃ x dx t0 t1 t2, v = .ref x ∧ At h ok x (instObj 70 dx) ∧ At h ok dx (nulD P t0 t1 t2)

theorem At.mono {h h' : Heap} {ok ok' : Addr → Prop} {b : Addr} {o : Obj} (x : At h ok b o) (k : ∀ b o, At h ok b o → At h' ok' b o) : At h' ok' b o := k b o x
theorem VecAt.mono {P : Params} {h h' : Heap} {ok ok' : Addr → Prop} {x l : Addr} {kd : Str} {atv : Value} (k : ∀ b o, At h ok b o → At h' ok' b o) (v : VecAt P h ok x kd l atv) : VecAt P h' ok' x kd l atv :=
  let ⟨dx, t0, t1, t2, t3, t4, t5, a, b⟩ := v; ⟨dx, t0, t1, t2, t3, t4, t5, k _ _ a, k _ _ b⟩
theorem LstAt.mono {h h' : Heap} {ok ok' : Addr → Prop} {l : Addr} {vs : List Value} (k : ∀ b o, At h ok b o → At h' ok' b o) (v : LstAt h ok l vs) : LstAt h' ok' l vs := let ⟨n, a⟩ := v; ⟨n, k _ _ a⟩
theorem TupAt.mono {h h' : Heap} {ok ok' : Addr → Prop} {l : Addr} {vs : List Value} (k : ∀ b o, At h ok b o → At h' ok' b o) (v : TupAt h ok l vs) : TupAt h' ok' l vs := let ⟨n, a⟩ := v; ⟨n, k _ _ a⟩
theorem ValIn.mono {P : Params} {h h' : Heap} {ok ok' : Addr → Prop} (k : ∀ b o, At h ok b o → At h' ok' b o) {v : Value} : ∀ {d : Val}, ValIn P h ok v d → ValIn P h' ok' v d
  | .lg _, ⟨x, l, iv, e, a, b, c⟩ => ⟨x, l, iv, e, a.mono k, b.mono k, c⟩
  | .it _, ⟨x, l, t, e, a, b⟩ => ⟨x, l, t, e, a.mono k, b.mono k⟩
  | .db _, ⟨x, l, p, t, t', e, a, b, c⟩ => ⟨x, l, p, t, t', e, a.mono k, b.mono k, c.mono k⟩
  | .fr, ⟨x, l, p, t, t', e, a, b, c⟩ => ⟨x, l, p, t, t', e, a.mono k, b.mono k, c.mono k⟩
  | .ch _, ⟨x, l, t, e, a, b⟩ => ⟨x, l, t, e, a.mono k, b.mono k⟩
  | .qu, ⟨x, l, t, e, a, b⟩ => ⟨x, l, t, e, a.mono k, b.mono k⟩
  | .tw, ⟨x, l, t, t', e, a, b⟩ => ⟨x, l, t, t', e, a.mono k, b.mono k⟩
  | .at, ⟨x, l, t, d, e, a, b⟩ => ⟨x, l, t, d, e, a.mono k, b.mono k⟩
  | .nu, ⟨x, dx, t0, t1, t2, e, a, b⟩ => ⟨x, dx, t0, t1, t2, e, k _ _ a, k _ _ b⟩

theorem fresh_of {h g h' : Heap} {L : Addr} {news : List (Addr × Obj)} {r b : Addr} {o : Obj} (G : GSub h g [r]) (N : News g L h' news) (hm : (b, o) ∈ news) (hne : b ≠ r) : At h' (fun b => h.get? b = none) b o := by
  refine ⟨(N _ hm).1, ?_⟩
  show h.get? b = none
  cases q : h.get? b with
  | none => rfl
  | some o' =>
    have h1 := G b o' q (by simpa using hne)
    have h2 := (N _ hm).2.2
    rw [h1] at h2; cases h2
end
local macro_rules | `(tactic| k_all) => `(tactic| first | assumption | exact allLt_ne (by assumption))
section
open PySem PySem.W PyProof.Rows PySem.Calls
theorem slice_ch {k : Int} (h0 : 0 ≤ k) (h5 : k < 5) : Txt.slice (Str.ofString "ab c") none (some k) ∈ chTexts := by
  have : k = 0 ∨ k = 1 ∨ k = 2 ∨ k = 3 ∨ k = 4 := by omega
  rcases this with rfl | rfl | rfl | rfl | rfl <;> decide +kernel
theorem ch_len {x : Str} (h : x ∈ chTexts) : x.length ≤ 4 := by
  simp only [chTexts, List.mem_cons, List.not_mem_nil, or_false] at h
  rcases h with rfl | rfl | rfl | rfl | rfl <;> decide +kernel
theorem int_len {i : Int} (h : i.natAbs < 10 ^ 4) : (Str.ofString (toString i)).length ≤ 5 := by
  rw [PySem.ofString_length]
  exact int_text_length_le10 (by decide) h

theorem len_q : (Str.ofString "\"").length = 1 := by decide +kernel
theorem len_L : (Str.ofString "L").length = 1 := by decide +kernel
theorem itL_size (e : Int) : (Str.ofString (toString (Int.fmod e 2000 - 1000))).length + (Str.ofString "L").length ≤ sizeLine := by
  have h1 := fmod_lo e (n := 2000) (by decide)
  have h2 := fmod_hi e (n := 2000) (by decide)
  have h3 := int_len (i := Int.fmod e 2000 - 1000) (by omega)
  rw [PySem.sizeLine_eq, len_L]; omega
theorem ch1_size (e : Int) : (Str.ofString "\"").length + (Txt.slice (Str.ofString "ab c") none (some (Int.fmod e 5))).length ≤ sizeLine := by
  have h3 := ch_len (slice_ch (fmod_lo e (n := 5) (by decide)) (fmod_hi e (n := 5) (by decide)))
  rw [PySem.sizeLine_eq, len_q]; omega
theorem ch2_size (e : Int) : (Str.ofString "\"" ++ Txt.slice (Str.ofString "ab c") none (some (Int.fmod e 5))).length + (Str.ofString "\"").length ≤ sizeLine := by
  have h3 := ch_len (slice_ch (fmod_lo e (n := 5) (by decide)) (fmod_hi e (n := 5) (by decide)))
  rw [PySem.sizeLine_eq, Str.length_append, len_q]; omega

section
variable {w : World} {mean : ExcName → Option Value} {mg mb : Str → Option Value} {dp un : Nat} {gd : Option (List Code)} {cn : Str} {cs : Scope} {a : Addr} {ccd : Value} {cl : List (Str × Addr)} {outer : List Env} {A₀ : Around} {base h₀ : Heap} {L : Addr} {m : Str → Option Value} {s : Shared} {Q E : Value → Shared → Prop}


local macro_rules | `(tactic| ktr_rel) => `(tactic| exact fresh_of (by assumption) (by k_asm) (by k_mem) (by k_ne))

set_option maxRecDepth 100000 in
set_option maxHeartbeats 8000000 in
theorem value_call (C : Cx w mean mg mb A₀ base outer h₀ L s.heap m) (hk : cs.kind = .function) (hdp : dp + 15 < recursionLimit) (hun : un + 200 < cLine)
    {r : Addr} {rows : List Value} {ns : List Int} {n : Nat} (N : News h₀ L s.heap [(r, listOf rows.toArray n)]) (hI : IntsAre rows ns) (hlen : ns.length ≤ 1000)
    (ret : ∀ p v tv d h' tk' rows' n', GSub s.heap h' [r] → h'.get? r = some (listOf rows'.toArray n') → IntsAre rows' ns.dropLast.dropLast → TupAt h' (fun b => s.heap.get? b = none) p [v, tv] → ValIn w.params h' (fun b => s.heap.get? b = none) v d → d.Ok → OptTxt d.text tv → Q (.ref p) { s with heap := h', toks := tk' }) :
   wpAny (model PySem.Challenge.rw_pq1402_01.row.prog w) (ktrTop dp un gd cn cs L a ccd cl outer) (call (.ref 216) [.ref r]) Q E s := by
  w_top off
  k_with_none
  (k_with "LeaveK" => (refine' leaveK_ (by k_asm) (by k_asm) ?_; intro _ _; dsimp only))
  (k_with "LeaveK ref" => (refine' leaveK_ (by k_asm) (by k_asm) ?_; intro _ _; dsimp only))
  (k_with "call ref" => (k_here; (with_reducible show wpAny _ _ (call (Value.ref 209) _) _ _ _); k_dflt (refine' next_walk (by k_asm) (by k_asm) (by k_asm) (by k_asm) (by k_asm) (by k_updF) (by assumption) (by ((try simp only [List.length_dropLast]); omega)) (by exact rfl) (by ktr_room) (by ktr_units) ?_); intro _ _ _ _ _ _ _ _; (try k_fold)))
  (k_with "call ref cons nil" => (k_here; (with_reducible show wpAny _ _ (call (Value.ref 209) _) _ _ _); k_dflt (refine' next_walk (by k_asm) (by k_asm) (by k_asm) (by k_asm) (by k_asm) (by k_updF) (by assumption) (by ((try simp only [List.length_dropLast]); omega)) (by exact rfl) (by ktr_room) (by ktr_units) ?_); intro _ _ _ _ _ _ _ _; (try k_fold)))
  (k_with "call ref nil" => (k_here; (with_reducible show wpAny _ _ (call (Value.ref 209) _) _ _ _); k_dflt (refine' next_walk (by k_asm) (by k_asm) (by k_asm) (by k_asm) (by k_asm) (by k_updF) (by assumption) (by ((try simp only [List.length_dropLast]); omega)) (by exact rfl) (by ktr_room) (by ktr_units) ?_); intro _ _ _ _ _ _ _ _; (try k_fold)))
  (k_with "call ref" => (k_here; (with_reducible show wpAny _ _ (call (Value.ref 99) _) _ _ _); k_dflt (refine' vec_walk (by k_asm) (by k_asm) (by k_asm) (by k_asm) (by k_asm) (by exact rfl) (by ktr_room) (by ktr_units) ?_); intro _ _ _ _ _ _ _ _ _ _ _ l1 l2; (try k_lt l1); (try k_lt2 l2); (try k_fold)))
  (k_with "call ref cons nil" => (k_here; (with_reducible show wpAny _ _ (call (Value.ref 99) _) _ _ _); k_dflt (refine' vec_walk (by k_asm) (by k_asm) (by k_asm) (by k_asm) (by k_asm) (by exact rfl) (by ktr_room) (by ktr_units) ?_); intro _ _ _ _ _ _ _ _ _ _ _ l1 l2; (try k_lt l1); (try k_lt2 l2); (try k_fold)))
  (k_with "call ref nil" => (k_here; (with_reducible show wpAny _ _ (call (Value.ref 99) _) _ _ _); k_dflt (refine' vec_walk (by k_asm) (by k_asm) (by k_asm) (by k_asm) (by k_asm) (by exact rfl) (by ktr_room) (by ktr_units) ?_); intro _ _ _ _ _ _ _ _ _ _ _ l1 l2; (try k_lt l1); (try k_lt2 l2); (try k_fold)))
  (k_with "call ref" => (k_here; (with_reducible show wpAny _ _ (call (Value.ref 70) _) _ _ _); k_dflt (refine' nul_walk (by k_asm) (by k_asm) (by k_asm) (by k_asm) (by k_asm) (by exact rfl) (by ktr_room) (by ktr_units) ?_); intro _ _ _ _ _ _ _ _ _ l1 l2; (try k_lt l1); (try k_lt2 l2); (try k_fold)))
  (k_with "call ref cons nil" => (k_here; (with_reducible show wpAny _ _ (call (Value.ref 70) _) _ _ _); k_dflt (refine' nul_walk (by k_asm) (by k_asm) (by k_asm) (by k_asm) (by k_asm) (by exact rfl) (by ktr_room) (by ktr_units) ?_); intro _ _ _ _ _ _ _ _ _ l1 l2; (try k_lt l1); (try k_lt2 l2); (try k_fold)))
  (k_with "call ref nil" => (k_here; (with_reducible show wpAny _ _ (call (Value.ref 70) _) _ _ _); k_dflt (refine' nul_walk (by k_asm) (by k_asm) (by k_asm) (by k_asm) (by k_asm) (by exact rfl) (by ktr_room) (by ktr_units) ?_); intro _ _ _ _ _ _ _ _ _ l1 l2; (try k_lt l1); (try k_lt2 l2); (try k_fold)))
  (k_with "binaryOp Add str str" => (k_here; refine PyProof.Rows.add_str ?_ (by first | exact itL_size _ | exact ch1_size _ | exact ch2_size _); intro _ _))
  obtain ⟨B, F, X, T⟩ := C
  revert X; k_fill; intro X
  refine wpAny_call ?_
  k_dflt (refine' code_defG ?k1 ?k2 ?k3 ?k4 ?k5 ?kA ?kF ?kK ?k6 ?k7 ?k8 ?k9 ?kB ?_ ?c2 ?c3 ?c4 ?c5; (case kA => exact rfl); (case kF => exact rfl); (case kK => assumption); (case k1 => k_asm); (case k2 => k_asm); (case k3 => k_asm); (case k4 => k_asm); (case k5 => k_asm); (case k6 => k_is); (case k7 => k_is); (case k8 => ktr_room); (case k9 => exact BindsTo.of_eq rfl); (case c5 => decide); (case kB => exact locs rfl); (case c2 => exact rfl); (case c3 => exact rfl); (case c4 => exact rfl); k_whole; intro g' L' h' FG' F' N' B' X' T' kG'; (try dsimp only); (try k_fold))
  have kG2 : GSub s.heap g' [r] := kG'
  k_steps
  all_goals have hfm1 := fmod_lo (ns.dropLast.getLastD 0) (n := 2000) (by decide)
  all_goals have hfm2 := fmod_hi (ns.dropLast.getLastD 0) (n := 2000) (by decide)
  all_goals have hfm3 := fmod_lo (ns.dropLast.getLastD 0) (n := 5000) (by decide)
  all_goals have hfm4 := fmod_hi (ns.dropLast.getLastD 0) (n := 5000) (by decide)
  · refine' ret _ _ _ (.lg 0) _ _ _ _ (gsub_back kG' (by k_asm)) (News.get (by k_asm) (by k_mem)) (by assumption) ⟨_, by ktr_rel⟩ ⟨_, _, _, rfl, ⟨_, _, _, _, _, _, _, by ktr_rel, by ktr_rel⟩, ⟨_, by ktr_rel⟩, _, rfl⟩ (by show _ < 3; decide) ⟨_, rfl⟩
  · refine' ret _ _ _ (.lg 1) _ _ _ _ (gsub_back kG' (by k_asm)) (News.get (by k_asm) (by k_mem)) (by assumption) ⟨_, by ktr_rel⟩ ⟨_, _, _, rfl, ⟨_, _, _, _, _, _, _, by ktr_rel, by ktr_rel⟩, ⟨_, by ktr_rel⟩, _, rfl⟩ (by show _ < 3; decide) ⟨_, rfl⟩
  · refine' ret _ _ _ (.lg 2) _ _ _ _ (gsub_back kG' (by k_asm)) (News.get (by k_asm) (by k_mem)) (by assumption) ⟨_, by ktr_rel⟩ ⟨_, _, _, rfl, ⟨_, _, _, _, _, _, _, by ktr_rel, by ktr_rel⟩, ⟨_, by ktr_rel⟩, rfl⟩ (by show _ < 3; decide) ⟨_, rfl⟩
  · refine' ret _ _ _ (.it (Int.fmod (ns.dropLast.getLastD 0) 2000 - 1000)) _ _ _ _ (gsub_back kG' (by k_asm)) (News.get (by k_asm) (by k_mem)) (by assumption) ⟨_, by ktr_rel⟩ ⟨_, _, _, rfl, ⟨_, _, _, _, _, _, _, by ktr_rel, by ktr_rel⟩, ⟨_, by ktr_rel⟩⟩ (by show Int.natAbs _ ≤ 1000; omega) ⟨_, rfl⟩
  · refine' ret _ _ _ (.db (Int.fmod (ns.dropLast.getLastD 0) 5000)) _ _ _ _ (gsub_back kG' (by k_asm)) (News.get (by k_asm) (by k_mem)) (by assumption) ⟨_, by ktr_rel⟩ ⟨_, _, _, _, _, rfl, ⟨_, _, _, _, _, _, _, by ktr_rel, by ktr_rel⟩, ⟨_, by ktr_rel⟩, ⟨_, by ktr_rel⟩⟩ ⟨hfm3, hfm4⟩ ⟨_, rfl⟩
  · refine' ret _ _ _ (.fr) _ _ _ _ (gsub_back kG' (by k_asm)) (News.get (by k_asm) (by k_mem)) (by assumption) ⟨_, by ktr_rel⟩ ⟨_, _, _, _, _, rfl, ⟨_, _, _, _, _, _, _, by ktr_rel, by ktr_rel⟩, ⟨_, by ktr_rel⟩, ⟨_, by ktr_rel⟩⟩ trivial rfl
  · refine' ret _ _ _ (.ch (Txt.slice (Str.ofString "ab c") none (some (Int.fmod (ns.dropLast.getLastD 0) 5)))) _ _ _ _ (gsub_back kG' (by k_asm)) (News.get (by k_asm) (by k_mem)) (by assumption) ⟨_, by ktr_rel⟩ ⟨_, _, _, rfl, ⟨_, _, _, _, _, _, _, by ktr_rel, by ktr_rel⟩, ⟨_, by ktr_rel⟩⟩ (slice_ch (fmod_lo _ (by decide)) (fmod_hi _ (by decide))) ⟨_, rfl⟩
  · refine' ret _ _ _ (.qu) _ _ _ _ (gsub_back kG' (by k_asm)) (News.get (by k_asm) (by k_mem)) (by assumption) ⟨_, by ktr_rel⟩ ⟨_, _, _, rfl, ⟨_, _, _, _, _, _, _, by ktr_rel, by ktr_rel⟩, ⟨_, by ktr_rel⟩⟩ trivial rfl
  · refine' ret _ _ _ (.tw) _ _ _ _ (gsub_back kG' (by k_asm)) (News.get (by k_asm) (by k_mem)) (by assumption) ⟨_, by ktr_rel⟩ ⟨_, _, _, _, rfl, ⟨_, _, _, _, _, _, _, by ktr_rel, by ktr_rel⟩, ⟨_, by ktr_rel⟩⟩ trivial rfl
  · refine' ret _ _ _ (.at) _ _ _ _ (gsub_back kG' (by k_asm)) (News.get (by k_asm) (by k_mem)) (by assumption) ⟨_, by ktr_rel⟩ ⟨_, _, _, _, rfl, ⟨_, _, _, _, _, _, _, by ktr_rel, by ktr_rel⟩, ⟨_, by ktr_rel⟩⟩ trivial rfl
  · refine' ret _ _ _ (.nu) _ _ _ _ (gsub_back kG' (by k_asm)) (News.get (by k_asm) (by k_mem)) (by assumption) ⟨_, by ktr_rel⟩ ⟨_, _, _, _, _, rfl, by ktr_rel, by ktr_rel⟩ trivial rfl
end
end
section
open PySem PySem.W PyProof.Rows PySem.Calls
theorem inst_base {h₀ h : Heap} {L x C dx : Addr} {m : Str → Option Value} {od : Obj} {sl : Array (Option Value)} (F : Fr h₀ L h m) (h1 : h₀.get? x = some (⟨.ref C, some dx, .plain, sl⟩ : Obj)) (h2 : h₀.get? dx = some od) :
    InstAt h x ⟨.ref C, some dx, .plain, sl⟩ C (some od) := ⟨F.keep _ _ h1, rfl, rfl, F.keep _ _ h2⟩
theorem lst_base {h : Heap} {l : Addr} {vs : List Value} {n : Nat} (e : h.get? l = some (listOf vs.toArray n)) : h.IsList l vs.toArray := ⟨_, e, rfl, n, rfl⟩
theorem tup_base {h : Heap} {l : Addr} {vs : List Value} {n : Nat} (e : h.get? l = some ({ cls := .type "tuple", data := .seq vs.toArray n } : Obj)) : IsTup h l vs.toArray := ⟨_, e, rfl, n, rfl⟩

theorem itL_size' {i : Int} (h : i.natAbs ≤ 1000) : (Str.ofString (toString i)).length + (Str.ofString "L").length ≤ sizeLine := by
  have h3 := int_len (i := i) (by omega)
  rw [PySem.sizeLine_eq, len_L]; omega

section
variable {w : World} {mean : ExcName → Option Value} {mg mb : Str → Option Value} {dp un : Nat} {gd : Option (List Code)} {cn : Str} {cs : Scope} {a : Addr} {ccd : Value} {cl : List (Str × Addr)} {outer : List Env} {A₀ : Around} {base h₀ : Heap} {L : Addr} {m : Str → Option Value} {s : Shared} {Q E : Value → Shared → Prop}

local macro_rules | `(tactic| k_inst) => `(tactic| (refine' inst_base ?F ?h1 ?h2; (case F => k_asm); (case h1 => assumption); (case h2 => assumption)))

theorem len2 {A : Around} {l : Addr} {vs : List Value} {k : Int} (hl : s.heap.IsList l vs.toArray) (e : (vs.toArray.size : Int) = k) (hk : k < 2 ^ 63) (h : Q (.int k (s.toks + 1)) { s with toks := s.toks + 1 + 1 }) : wpAny (model PySem.Challenge.rw_pq1402_01.row.prog w) A (call (.builtin "len") [.ref l]) Q E s := by
  subst e
  exact len_list hl hk h
theorem notIn_lit {A : Around} {x y : Str} {t u : Tok} (b : Bool) (e : (!(!(Builtin.Str.occurrences x y 0 x.length 1).isEmpty)) = b) (h : Q (.bool b) s) : wpAny (model PySem.Challenge.rw_pq1402_01.row.prog w) A (compareOp .NotIn (.str y u) (.str x t)) Q E s :=
  PyProof.Rows.notIn_str (by rw [e]; exact h)

structure Stop (P : Prop) : Prop where
  out : P
inductive One (h : Heap) : Str → Value → Val → Prop
  | lg0 (t : Tok) : One h (Str.ofString "logical") (.int 0 t) (.lg 0)
  | lg1 (t : Tok) : One h (Str.ofString "logical") (.int 1 t) (.lg 1)
  | lg2 : One h (Str.ofString "logical") .none (.lg 2)
  | it (i : Int) (t : Tok) (hi : i.natAbs ≤ 1000) : One h (Str.ofString "integer") (.int i t) (.it i)
  | db (i : Int) (t t' : Tok) (p : Addr) (hd : 0 ≤ i ∧ i < 5000) (hp : IsTup h p #[.int i t, .int 1 t']) : One h (Str.ofString "double") (.ref p) (.db i)
  | fr (t t' : Tok) (p : Addr) (hp : IsTup h p #[.int 1 t, .int 3 t']) : One h (Str.ofString "double") (.ref p) .fr
  | ch (y : Str) (t : Tok) (hy : y ∈ chTexts) : One h (Str.ofString "character") (.str y t) (.ch y)
  | qu (t : Tok) : One h (Str.ofString "character") (.str (Str.ofString "a\"b") t) .qu
inductive Shape (P : Params) (h : Heap) : Value → Val → Prop
  | one (x l dx : Addr) (kd : Str) (iv : Value) (d : Val) (t0 t1 t2 t3 t4 t5 : Tok) (hx : h.get? x = some (instObj 99 dx)) (hdx : h.get? dx = some (vecD P (.str kd t0) (.ref l) .none t1 t2 t3 t4 t5)) (hl : h.IsList l [iv].toArray) (ho : One h kd iv d) : Shape P h (.ref x) d
  | tw (x l dx : Addr) (t t' t0 t1 t2 t3 t4 t5 : Tok) (hx : h.get? x = some (instObj 99 dx)) (hdx : h.get? dx = some (vecD P (.str (Str.ofString "integer") t0) (.ref l) .none t1 t2 t3 t4 t5)) (hl : h.IsList l [.int 1 t, .int 2 t'].toArray) : Shape P h (.ref x) .tw
  | at (x l dx da : Addr) (t t0 t1 t2 t3 t4 t5 : Tok) (hx : h.get? x = some (instObj 99 dx)) (hdx : h.get? dx = some (vecD P (.str (Str.ofString "integer") t0) (.ref l) (.ref da) t1 t2 t3 t4 t5)) (hl : h.IsList l [.int 1 t].toArray) : Shape P h (.ref x) .at
  | nu (x dx : Addr) (t0 t1 t2 : Tok) (hx : h.get? x = some (instObj 70 dx)) (hdx : h.get? dx = some (nulD P t0 t1 t2)) : Shape P h (.ref x) .nu
theorem shape_of {P : Params} {h g : Heap} {ok : Addr → Prop} {v : Value} {d : Val} (k : ∀ b o, h.get? b = some o → g.get? b = some o) (hv : ValIn P h ok v d) (hd : d.Ok) : Shape P g v d := by
  cases d with
  | lg n =>
    obtain ⟨x, l, iv, rfl, ⟨dx, t0, t1, t2, t3, t4, t5, ⟨hx, _⟩, ⟨hdx, _⟩⟩, ⟨n', ⟨hl, _⟩⟩, hiv⟩ := hv
    have hk3 : n = 0 ∨ n = 1 ∨ n = 2 := by have : n < 3 := hd; omega
    rcases hk3 with rfl | rfl | rfl
    · obtain ⟨t, rfl⟩ := hiv
      exact .one _ _ _ _ _ _ _ _ _ _ _ _ (k _ _ hx) (k _ _ hdx) (lst_base (k _ _ hl)) (.lg0 _)
    · obtain ⟨t, rfl⟩ := hiv
      exact .one _ _ _ _ _ _ _ _ _ _ _ _ (k _ _ hx) (k _ _ hdx) (lst_base (k _ _ hl)) (.lg1 _)
    · obtain rfl : iv = .none := hiv
      exact .one _ _ _ _ _ _ _ _ _ _ _ _ (k _ _ hx) (k _ _ hdx) (lst_base (k _ _ hl)) .lg2
  | it i =>
    obtain ⟨x, l, t, rfl, ⟨dx, t0, t1, t2, t3, t4, t5, ⟨hx, _⟩, ⟨hdx, _⟩⟩, ⟨n, ⟨hl, _⟩⟩⟩ := hv
    exact .one _ _ _ _ _ _ _ _ _ _ _ _ (k _ _ hx) (k _ _ hdx) (lst_base (k _ _ hl)) (.it _ _ hd)
  | db i =>
    obtain ⟨x, l, p, t, t', rfl, ⟨dx, t0, t1, t2, t3, t4, t5, ⟨hx, _⟩, ⟨hdx, _⟩⟩, ⟨n, ⟨hl, _⟩⟩, ⟨n', ⟨hp, _⟩⟩⟩ := hv
    exact .one _ _ _ _ _ _ _ _ _ _ _ _ (k _ _ hx) (k _ _ hdx) (lst_base (k _ _ hl)) (.db _ _ _ _ hd (tup_base (k _ _ hp)))
  | fr =>
    obtain ⟨x, l, p, t, t', rfl, ⟨dx, t0, t1, t2, t3, t4, t5, ⟨hx, _⟩, ⟨hdx, _⟩⟩, ⟨n, ⟨hl, _⟩⟩, ⟨n', ⟨hp, _⟩⟩⟩ := hv
    exact .one _ _ _ _ _ _ _ _ _ _ _ _ (k _ _ hx) (k _ _ hdx) (lst_base (k _ _ hl)) (.fr _ _ _ (tup_base (k _ _ hp)))
  | ch y =>
    obtain ⟨x, l, t, rfl, ⟨dx, t0, t1, t2, t3, t4, t5, ⟨hx, _⟩, ⟨hdx, _⟩⟩, ⟨n, ⟨hl, _⟩⟩⟩ := hv
    exact .one _ _ _ _ _ _ _ _ _ _ _ _ (k _ _ hx) (k _ _ hdx) (lst_base (k _ _ hl)) (.ch _ _ hd)
  | qu =>
    obtain ⟨x, l, t, rfl, ⟨dx, t0, t1, t2, t3, t4, t5, ⟨hx, _⟩, ⟨hdx, _⟩⟩, ⟨n, ⟨hl, _⟩⟩⟩ := hv
    exact .one _ _ _ _ _ _ _ _ _ _ _ _ (k _ _ hx) (k _ _ hdx) (lst_base (k _ _ hl)) (.qu _)
  | tw =>
    obtain ⟨x, l, t, t', rfl, ⟨dx, t0, t1, t2, t3, t4, t5, ⟨hx, _⟩, ⟨hdx, _⟩⟩, ⟨n, ⟨hl, _⟩⟩⟩ := hv
    exact .tw _ _ _ _ _ _ _ _ _ _ _ (k _ _ hx) (k _ _ hdx) (lst_base (k _ _ hl))
  | «at» =>
    obtain ⟨x, l, t, d, rfl, ⟨dx, t0, t1, t2, t3, t4, t5, ⟨hx, _⟩, ⟨hdx, _⟩⟩, ⟨n, ⟨hl, _⟩⟩⟩ := hv
    exact .at _ _ _ _ _ _ _ _ _ _ _ (k _ _ hx) (k _ _ hdx) (lst_base (k _ _ hl))
  | nu =>
    obtain ⟨x, dx, t0, t1, t2, rfl, ⟨hx, _⟩, ⟨hdx, _⟩⟩ := hv
    exact .nu _ _ _ _ _ (k _ _ hx) (k _ _ hdx)
set_option maxRecDepth 100000 in
set_option maxHeartbeats 8000000 in
theorem plain_call (C : Cx w mean mg mb A₀ base outer h₀ L s.heap m) (hk : cs.kind = .function) (hdp : dp + 15 < recursionLimit) (hun : un + 200 < cLine)
    {ok : Addr → Prop} {v : Value} {d : Val} (hv : ValIn w.params s.heap ok v d) (hd : d.Ok)
    (ret : ∀ r h' tk', GSub s.heap h' [] → OptTxt d.text r → Q r { s with heap := h', toks := tk' }) :
   wpAny (model PySem.Challenge.rw_pq1402_01.row.prog w) (ktrTop dp un gd cn cs L a ccd cl outer) (call (.ref 185) [v]) Q E s := by
  w_top off
  k_with_none
  (k_with "LeaveK" => (refine' leaveK_ (by k_asm) (by k_asm) ?_; intro _ _; dsimp only))
  (k_with "LeaveK str" => (refine' leaveK_ (by k_asm) (by k_asm) ?_; intro _ _; dsimp only))
  (k_with "call builtin:len" => (k_here; k_dflt (first | (refine' len2 (k := 1) (by is_list) (by rfl) (by decide) ?_) | (refine' len2 (k := 2) (by is_list) (by rfl) (by decide) ?_))))
  (k_with "call builtin:len cons nil" => (k_here; k_dflt (first | (refine' len2 (k := 1) (by is_list) (by rfl) (by decide) ?_) | (refine' len2 (k := 2) (by is_list) (by rfl) (by decide) ?_))))
  (k_with "compareOp NotIn str str" => (k_here; first | refine notIn_lit true (by decide +kernel) ?_ | refine notIn_lit false (by decide +kernel) ?_))
  (k_with "binaryOp Add str str" => (k_here; refine PyProof.Rows.add_str ?_ (by exact itL_size' (by assumption)); intro _ _))
  (k_with "exec If Compare cons nil" => (k_here; refine Stop.out ?_))
  obtain ⟨B, F, X, T⟩ := C
  have N : News h₀ L s.heap [] := News.nil
  revert X; k_fill; intro X
  refine wpAny_call ?_
  k_dflt (refine' code_defG ?k1 ?k2 ?k3 ?k4 ?k5 ?kA ?kF ?kK ?k6 ?k7 ?k8 ?k9 ?kB ?_ ?c2 ?c3 ?c4 ?c5; (case kA => exact rfl); (case kF => exact rfl); (case kK => assumption); (case k1 => k_asm); (case k2 => k_asm); (case k3 => k_asm); (case k4 => k_asm); (case k5 => k_asm); (case k6 => k_is); (case k7 => k_is); (case k8 => ktr_room); (case k9 => exact BindsTo.of_eq rfl); (case c5 => decide); (case kB => exact locs rfl); (case c2 => exact rfl); (case c3 => exact rfl); (case c4 => exact rfl); k_whole; intro g' L' h' FG' F' N' B' X' T' kG'; (try dsimp only); (try k_fold))
  have kG2 : GSub s.heap g' [] := kG'
  have hsh := shape_of (fun b o e => kG2 b o e (by simp)) hv hd
  clear hv hd
  cases hsh with
  | one x l dx kd iv d t0 t1 t2 t3 t4 t5 hx hdx hl ho =>
    k_steps
    refine ⟨?_⟩
    k_with_none
    (k_with "LeaveK" => (refine' leaveK_ (by k_asm) (by k_asm) ?_; intro _ _; dsimp only))
    (k_with "LeaveK str" => (refine' leaveK_ (by k_asm) (by k_asm) ?_; intro _ _; dsimp only))
    (k_with "call builtin:len" => (k_here; k_dflt (first | (refine' len2 (k := 1) (by is_list) (by rfl) (by decide) ?_) | (refine' len2 (k := 2) (by is_list) (by rfl) (by decide) ?_))))
    (k_with "call builtin:len cons nil" => (k_here; k_dflt (first | (refine' len2 (k := 1) (by is_list) (by rfl) (by decide) ?_) | (refine' len2 (k := 2) (by is_list) (by rfl) (by decide) ?_))))
    (k_with "compareOp NotIn str str" => (k_here; first | refine notIn_lit true (by decide +kernel) ?_ | refine notIn_lit false (by decide +kernel) ?_))
    (k_with "binaryOp Add str str" => (k_here; refine PyProof.Rows.add_str ?_ (by exact itL_size' (by assumption)); intro _ _))
    cases ho with
    | lg0 t =>
      k_steps
      all_goals exact ret _ _ _ (gsub_back kG2 (by k_asm)) ⟨_, rfl⟩
    | lg1 t =>
      k_steps
      all_goals exact ret _ _ _ (gsub_back kG2 (by k_asm)) ⟨_, rfl⟩
    | lg2 =>
      k_steps
      all_goals exact ret _ _ _ (gsub_back kG2 (by k_asm)) ⟨_, rfl⟩
    | it i t hd =>
      k_steps
      all_goals exact ret _ _ _ (gsub_back kG2 (by k_asm)) ⟨_, rfl⟩
    | db i t t' p hd hp =>
      obtain ⟨hd1, hd2⟩ := hd
      k_steps
      all_goals exact ret _ _ _ (gsub_back kG2 (by k_asm)) ⟨_, rfl⟩
    | fr t t' p hp =>
      k_steps
      all_goals exact ret _ _ _ (gsub_back kG2 (by k_asm)) rfl
    | ch y t hd =>
      simp only [chTexts, List.mem_cons, List.not_mem_nil, or_false] at hd
      rcases hd with rfl | rfl | rfl | rfl | rfl
      all_goals k_steps
      all_goals exact ret _ _ _ (gsub_back kG2 (by k_asm)) ⟨_, rfl⟩
    | qu t =>
      k_steps
      all_goals exact ret _ _ _ (gsub_back kG2 (by k_asm)) rfl
  | tw =>
    k_steps
    all_goals exact ret _ _ _ (gsub_back kG2 (by k_asm)) rfl
  | «at» =>
    k_steps
    all_goals exact ret _ _ _ (gsub_back kG2 (by k_asm)) rfl
  | nu =>
    k_steps
    all_goals exact ret _ _ _ (gsub_back kG2 (by k_asm)) rfl
end
end
local macro_rules | `(tactic| k_inst) => `(tactic| (refine' inst_base ?F ?h1 ?h2; (case F => k_asm); (case h1 => assumption); (case h2 => assumption)))
section
open PySem PySem.W PyProof.Rows PySem.Calls

inductive Tg where
  | no
  | x
  | other
  | nm
  | zz
  deriving DecidableEq
def Tg.txt : Tg → Option Str
  | .no => none
  | .x => some (Str.ofString "x")
  | .other => some (Str.ofString "other")
  | .nm => some (Str.ofString "name")
  | .zz => some (Str.ofString "zz")
theorem tg_len {g : Tg} {x : Str} (e : g.txt = some x) : x.length ≤ 5 := by cases g <;> cases e <;> decide +kernel
theorem tg_ne {g : Tg} {x : Str} (e : g.txt = some x) : (x == Str.ofString "") = false := by cases g <;> cases e <;> decide +kernel

theorem text_len {d : Val} (hd : d.Ok) {x : Str} (e : d.text = some x) : x.length ≤ 10 := by
  cases d with
  | lg k =>
    have hk3 : k = 0 ∨ k = 1 ∨ k = 2 := by have : k < 3 := hd; omega
    rcases hk3 with rfl | rfl | rfl <;> (cases e; decide +kernel)
  | it i =>
    cases e
    have h3 := int_len (i := i) (by have : i.natAbs ≤ 1000 := hd; omega)
    rw [Str.length_append, len_L]; omega
  | db i =>
    cases e
    have h3 := int_len (i := i) (by have : 0 ≤ i ∧ i < 5000 := hd; omega)
    omega
  | ch y =>
    cases e
    have h3 := ch_len (x := y) hd
    rw [Str.length_append, Str.length_append, len_q]; omega
  | _ => cases e

def ArgIn (P : Params) (h : Heap) (ok : Addr → Prop) (v : Value) (g : Tg) (d : Val) : Prop := ∃ t tv x, v = .ref t ∧ TupAt h ok t [tv, x] ∧ OptTxt g.txt tv ∧ ValIn P h ok x d
inductive ArgsIn (P : Params) (h : Heap) (ok : Addr → Prop) : List Value → List (Tg × Val) → Prop
  | nil : ArgsIn P h ok [] []
  | cons {v : Value} {g : Tg} {d : Val} {vs : List Value} {ps : List (Tg × Val)} : ArgIn P h ok v g d → ArgsIn P h ok vs ps → ArgsIn P h ok (v :: vs) ((g, d) :: ps)
theorem ArgIn.mono {P : Params} {h h' : Heap} {ok ok' : Addr → Prop} (k : ∀ b o, At h ok b o → At h' ok' b o) {v : Value} {g : Tg} {d : Val} : ArgIn P h ok v g d → ArgIn P h' ok' v g d
  | ⟨t, tv, x, e, a, b, c⟩ => ⟨t, tv, x, e, a.mono k, b, c.mono k⟩
theorem ArgsIn.mono {P : Params} {h h' : Heap} {ok ok' : Addr → Prop} (k : ∀ b o, At h ok b o → At h' ok' b o) {vs : List Value} {ps : List (Tg × Val)} (x : ArgsIn P h ok vs ps) : ArgsIn P h' ok' vs ps := by
  induction x with
  | nil => exact .nil
  | cons a _ ih => exact .cons (a.mono k) ih
theorem ArgsIn.len {P : Params} {h : Heap} {ok : Addr → Prop} {vs : List Value} {ps : List (Tg × Val)} (x : ArgsIn P h ok vs ps) : vs.length = ps.length := by
  induction x with
  | nil => rfl
  | cons _ _ ih => rw [List.length_cons, List.length_cons, ih]
theorem ArgsIn.get {P : Params} {h : Heap} {ok : Addr → Prop} {vs : List Value} {ps : List (Tg × Val)} (x : ArgsIn P h ok vs ps) : ∀ {i : Nat} {g : Tg} {d : Val}, ps[i]? = some (g, d) → ∃ v, vs[i]? = some v ∧ ArgIn P h ok v g d := by
  induction x with
  | nil => intro i g d e; rw [List.getElem?_nil] at e; cases e
  | @cons v _ _ _ _ a _ ih =>
    intro i g d e
    cases i with
    | zero => rw [List.getElem?_cons_zero] at e; cases e; exact ⟨v, List.getElem?_cons_zero, a⟩
    | succ i => rw [List.getElem?_cons_succ] at e; obtain ⟨u, e1, e2⟩ := ih e; exact ⟨u, by rw [List.getElem?_cons_succ]; exact e1, e2⟩
theorem ArgsIn.snoc {P : Params} {h : Heap} {ok : Addr → Prop} {vs : List Value} {ps : List (Tg × Val)} {v : Value} {g : Tg} {d : Val} (x : ArgsIn P h ok vs ps) (c : ArgIn P h ok v g d) : ArgsIn P h ok (vs ++ [v]) (ps ++ [(g, d)]) := by
  induction x with
  | nil => exact .cons c .nil
  | cons a _ ih => exact .cons a ih

def argText (i : Nat) (g : Tg) (d : Val) : Str := match g.txt, d.text with
  | none, none => Str.ofString (toString ((i : Int) + 1))
  | none, some s => s
  | some t, none => t
  | some t, some s => t ++ Str.ofString " = " ++ s

theorem len_eq3 : (Str.ofString " = ").length = 3 := by decide +kernel
theorem catA {g : Tg} {y : Str} (hg : g.txt = some y) : y.length + (Str.ofString " = ").length ≤ sizeLine := by
  have := tg_len hg
  rw [PySem.sizeLine_eq, len_eq3]; omega
theorem catB {g : Tg} {y : Str} {d : Val} {z : Str} (hg : g.txt = some y) (hd : d.Ok) (ht : d.text = some z) : (y ++ Str.ofString " = ").length + z.length ≤ sizeLine := by
  have h1 := tg_len hg
  have h2 := text_len hd ht
  rw [PySem.sizeLine_eq, Str.length_append, len_eq3]; omega

theorem tuple_base {h : Heap} {ok : Addr → Prop} {l : Addr} {vs : List Value} (x : TupAt h ok l vs) : IsTup h l vs.toArray := let ⟨_, e, _⟩ := x; tup_base e

section
variable {w : World} {mean : ExcName → Option Value} {mg mb : Str → Option Value} {dp un : Nat} {gd : Option (List Code)} {cn : Str} {cs : Scope} {a : Addr} {ccd : Value} {cl : List (Str × Addr)} {outer : List Env} {A₀ : Around} {base h₀ : Heap} {L : Addr} {m : Str → Option Value} {s : Shared} {Q E : Value → Shared → Prop}

theorem item_at {A : Around} {value slice : PySem.Expr} {l : Addr} {vs : List Value} {i : Nat} {u : Tok} {v : Value} (hl : s.heap.IsList l vs.toArray) (hx : vs[i]? = some v) (hi : i < 1000) (h : Q v s)
    (hs : subscripted slice false (.ref l) (.int (i : Int) u) = operate [.ref l, .int (i : Int) u] (getItem (.ref l) (.int (i : Int) u)) := by with_unfolding_all rfl) :
    wpAny (model PySem.Challenge.rw_pq1402_01.row.prog w) A (subscriptTail value slice (.ref l) (.int (i : Int) u)) Q E s :=
  tail_any hl.typeIs slot_list_getitem.lookup (wpAny_getItem_list hl (by omega) (by omega) (by simpa using hx) h) hs

theorem plain_walk {ok : Addr → Prop} {v : Value} {d : Val} {o : Option Str} {news : List (Addr × Obj)} (B : Below A₀ base outer h₀) (F : Fr h₀ L s.heap m) (X : (heapK w.params).In h₀) (T : Top viewQ LL mean mg mb h₀) (N : News h₀ L s.heap news)
    (hv : ValIn w.params h₀ ok v d) (hd : d.Ok) (e : d.text = o) (hk : cs.kind = .function) (hdp : dp + 15 < recursionLimit) (hun : un + 200 < cLine)
    (ret : ∀ r h' tk', Fr h₀ L h' m → News h₀ L h' news → OptTxt o r → Q r { s with heap := h', toks := tk' }) :
   wpAny (model PySem.Challenge.rw_pq1402_01.row.prog w) (ktrTop dp un gd cn cs L a ccd cl outer) (call (.ref 185) [v]) Q E s :=
  plain_call ⟨B, F, X, T⟩ hk hdp hun (hv.mono (fun b o x => ⟨F.keep _ _ x.1, x.2⟩)) hd fun r h' tk' G hr => ret r h' tk' (fr_gsub0 F G) (news_gsub0 N G) (e ▸ hr)



set_option maxRecDepth 100000 in
set_option maxHeartbeats 8000000 in
theorem argt_call (C : Cx w mean mg mb A₀ base outer h₀ L s.heap m) (hk : cs.kind = .function) (hdp : dp + 25 < recursionLimit) (hun : un + 300 < cLine)
    {ok : Addr → Prop} {lo : Addr} {vs : List Value} {args : List (Tg × Val)} {i : Nat} {g : Tg} {d : Val} {ti : Tok} (hl : LstAt s.heap ok lo vs) (ha : ArgsIn w.params s.heap ok vs args) (hi : args[i]? = some (g, d)) (hi1 : i < 1000) (hd : d.Ok)
    (ret : ∀ t h' tk', GSub s.heap h' [] → Q (.str (argText i g d) t) { s with heap := h', toks := tk' }) :
   wpAny (model PySem.Challenge.rw_pq1402_01.row.prog w) (ktrTop dp un gd cn cs L a ccd cl outer) (call (.ref 178) [.ref lo, .int (i : Int) ti, .ref 185]) Q E s := by
  w_top off
  k_with_none
  (k_with "LeaveK" => (refine' leaveK_ (by k_asm) (by k_asm) ?_; intro _ _; dsimp only))
  (k_with "LeaveK str" => (refine' leaveK_ (by k_asm) (by k_asm) ?_; intro _ _; dsimp only))
  (k_with "call ref" => (k_here; (with_reducible show wpAny _ _ (call (Value.ref 185) _) _ _ _); k_dflt (refine' plain_walk (by k_asm) (by k_asm) (by k_asm) (by k_asm) (by k_asm) (by assumption) (by assumption) (by assumption) (by exact rfl) (by ktr_room) (by ktr_units) ?_); intro r' _ _ _ _ hr'; k_dflt (first | ((have hr2 : r' = Value.none := hr'); subst hr2) | (obtain ⟨t', hr2⟩ := hr'; subst hr2)); (try k_fold)))
  (k_with "call ref cons nil" => (k_here; (with_reducible show wpAny _ _ (call (Value.ref 185) _) _ _ _); k_dflt (refine' plain_walk (by k_asm) (by k_asm) (by k_asm) (by k_asm) (by k_asm) (by assumption) (by assumption) (by assumption) (by exact rfl) (by ktr_room) (by ktr_units) ?_); intro r' _ _ _ _ hr'; k_dflt (first | ((have hr2 : r' = Value.none := hr'); subst hr2) | (obtain ⟨t', hr2⟩ := hr'; subst hr2)); (try k_fold)))
  (k_with "binaryOp Add str str" => (k_here; refine PyProof.Rows.add_str ?_ (by first | exact catA (by assumption) | exact catB (by assumption) (by assumption) (by assumption)); intro _ _))
  (k_with "subscriptTail" => (k_here; (with_reducible show wpAny _ _ (subscriptTail _ _ (Value.ref _) (Value.int _ _)) _ _ _); k_dflt (refine' item_at (by is_list) (by assumption) (by omega) ?_)))
  (k_with "subscriptTail Name Name ref int" => (k_here; (with_reducible show wpAny _ _ (subscriptTail _ _ (Value.ref _) (Value.int _ _)) _ _ _); k_dflt (refine' item_at (by is_list) (by assumption) (by omega) ?_)))
  obtain ⟨B, F, X, T⟩ := C
  have N : News h₀ L s.heap [] := News.nil
  revert X; k_fill; intro X
  refine wpAny_call ?_
  k_dflt (refine' code_defG ?k1 ?k2 ?k3 ?k4 ?k5 ?kA ?kF ?kK ?k6 ?k7 ?k8 ?k9 ?kB ?_ ?c2 ?c3 ?c4 ?c5; (case kA => exact rfl); (case kF => exact rfl); (case kK => assumption); (case k1 => k_asm); (case k2 => k_asm); (case k3 => k_asm); (case k4 => k_asm); (case k5 => k_asm); (case k6 => k_is); (case k7 => k_is); (case k8 => ktr_room); (case k9 => exact BindsTo.of_eq rfl); (case c5 => decide); (case kB => exact locs rfl); (case c2 => exact rfl); (case c3 => exact rfl); (case c4 => exact rfl); k_whole; intro g' L' h' FG' F' N' B' X' T' kG'; (try dsimp only); (try k_fold))
  have kG2 : GSub s.heap g' [] := kG'
  obtain ⟨v, hvi, tp, tv, x, rfl, hp, htv, hv⟩ := ha.get hi
  have up : ∀ b o, At s.heap ok b o → At g' ok b o := fun b o z => ⟨kG2 _ _ z.1 (by simp), z.2⟩
  obtain ⟨nl, hl, _⟩ := hl.mono up
  replace hl := lst_base hl
  replace hp := tuple_base (hp.mono up)
  replace hv := hv.mono up
  cases ht : d.text with
  | none =>
    cases hg : g.txt with
    | none =>
      rw [hg] at htv
      obtain rfl := htv
      have e : argText i g d = Str.ofString (toString ((i : Int) + 1)) := by simp only [argText, ht, hg]
      rw [e] at ret
      k_steps
      all_goals first | exact ret _ _ _ (gsub_back kG2 (by k_asm)) | exact absurd (hne.symm.trans (by assumption)) (by decide)
    | some y =>
      rw [hg] at htv
      obtain ⟨ty, rfl⟩ := htv
      have hne := tg_ne hg
      have e : argText i g d = y := by simp only [argText, ht, hg]
      rw [e] at ret
      k_steps
      all_goals first | exact ret _ _ _ (gsub_back kG2 (by k_asm)) | exact absurd (hne.symm.trans (by assumption)) (by decide)
  | some z =>
    cases hg : g.txt with
    | none =>
      rw [hg] at htv
      obtain rfl := htv
      have e : argText i g d = z := by simp only [argText, ht, hg]
      rw [e] at ret
      k_steps
      all_goals first | exact ret _ _ _ (gsub_back kG2 (by k_asm)) | exact absurd (hne.symm.trans (by assumption)) (by decide)
    | some y =>
      rw [hg] at htv
      obtain ⟨ty, rfl⟩ := htv
      have hne := tg_ne hg
      have e : argText i g d = y ++ Str.ofString " = " ++ z := by simp only [argText, ht, hg]
      rw [e] at ret
      k_steps
      all_goals first | exact ret _ _ _ (gsub_back kG2 (by k_asm)) | exact absurd (hne.symm.trans (by assumption)) (by decide)
end
end
section
open PySem PySem.W PyProof.Rows PySem.Calls

theorem gsub_weak {h h' : Heap} {a b : List Addr} (G : GSub h h' a) (s : ∀ x ∈ a, x ∈ b) : GSub h h' b := fun c o e n => G c o e fun q => n (s c q)
theorem gsub_refl (h : Heap) (a : List Addr) : GSub h h a := fun _ _ e _ => e
theorem gsub_trans {h h' h'' : Heap} {a : List Addr} (G : GSub h h' a) (G' : GSub h' h'' a) : GSub h h'' a := fun c o e n => G' c o (G c o e n) n
theorem news_gsubL {h₀ h h' : Heap} {L : Addr} {news : List (Addr × Obj)} (N : News h₀ L h news) (G : GSub h h' [L]) : News h₀ L h' news := fun p hp => ⟨G _ _ (N p hp).1 (by simpa using (N p hp).2.1), (N p hp).2⟩

/-- the call of a def with cells: what the callee finds, and that all but the ledger stands fast in its ground -/
theorem code_cG {w : World} {mean : ExcName → Option Value} {mg mb : Str → Option Value} {A₀ A : Around} {base h₀ : Heap} {outer : List Env} {L : Addr} {m : Str → Option Value} {s : Shared} {news : List (Addr × Obj)} {env : Env} {R : Result → Shared → Prop}
    {name qual : Str} {params : Arguments} {body : List Stmt} {scope : Scope} {dV kV doc pm cdv ct oc : Value} {an od : Option Addr} {osl : Array (Option Value)} {f : Addr} {args : Args} {binds : List (Str × Value)}
    (B : Below A₀ base outer h₀) (F : Fr h₀ L s.heap m) (X : (heapK w.params).In h₀) (N : News h₀ L s.heap news) (T : Top viewQ LL mean mg mb h₀) (hA : A.frames = some (env :: outer)) (hf : env.frame = some L) (hke : env.scope.kind = .function)
    (ho : (heapK w.params).lookup f = some ⟨oc, od, .func (fnOf name qual params body scope dV kV doc pm an cdv ct), osl⟩) (hcd : codeIn (heapK w.params) cdv qual = true) (hroom : A.depth < recursionLimit)
    (hbind : BindsTo s (fnOf name qual params body scope dV kV doc pm an cdv ct) args binds) (hkind : (binds.all fun y => scope.names.lookup y.1 == some .local || scope.names.lookup y.1 == some .cell) = true)
    (hnd : ((cellsFrom 0 scope.names []).map (·.1)).Nodup)
    (h : ∀ g L' h₁ tk cells, Fr h₀ L g m → Fr g L' h₁ (bindL (envOfC qual scope L' f cdv).kindOf binds fun _ => none) → News g L' h₁ (cells ++ news) →
      CellsAre (bindC (envOfC qual scope L' f cdv).kindOf binds fun _ => none) (cellsFrom (L' + 1) scope.names []) cells → Below A base (env :: outer) g → (heapK w.params).In g → Top viewQ LL mean mg mb g → (∀ p ∈ news, p.1 < L') → GSub s.heap g (news.map (·.1)) →
      wpAny (model PySem.Challenge.rw_pq1402_01.row.prog w) (A.deeper (envOfC qual scope L' f cdv)) (execs body (envOfC qual scope L' f cdv))
        (fun fl s' => LeaveK h₀ L m g R (match fl with | .ret v => v | _ => .none) s')
        (fun e s' => wpAny (model PySem.Challenge.rw_pq1402_01.row.prog w) (A.deeper (envOfC qual scope L' f cdv)) (leaving (envOfC qual scope L' f cdv) e) (fun _ s'' => R (.error e) s'') (fun e' s'' => R (.error e') s'') s')
        { s with heap := h₁, toks := tk })
    (hco : scope.isCoroutine = false) (hgen : scope.isGenerator = false) (hk : scope.kind = .function) : codeAny (model PySem.Challenge.rw_pq1402_01.row.prog w) A (.call (.ref f) args) R s := by
  have gr := groundX (R := R) B F N hA hf hke
  have Xs := X.keeps F.keep
  refine codeAny_call_function hroom (Xs _ _ ho) rfl hco hgen rfl (codeRec_of Xs hcd) (hbind _ _ _ _ (wpAny_newFunctionEnv_cells hk (kindsX hkind _) fun env' he s' x => ?_))
  obtain rfl := he
  refine ⟨(T.nolimit.keeps F.keep).keeps x.toInCall.keep, codeAny_func ?_⟩
  obtain ⟨h₁, tk, rfl, _⟩ := x.done
  have up := x.toInCall.keep
  obtain ⟨cells, NC, Y⟩ := Cl.news (h₀ := s.heap) (Nat.le_refl _) fun n c hm => ⟨x.cell n c (lookup_of_mem_nodup (cellsFrom_names scope.names 0 (s.heap.objs.size + 1) [] [] rfl ▸ hnd) hm), x.above n c hm⟩
  have NN : News (hideAll s.heap (news.map (·.1))) s.heap.objs.size h₁ (cells ++ news) := by
    intro p hp
    rcases List.mem_append.mp hp with hp | hp
    · have z := NC p hp
      refine ⟨z.1, z.2.1, ?_⟩
      cases q : (hideAll s.heap (news.map (·.1))).get? p.1 with
      | none => rfl
      | some o => rw [of_hideAll _ q] at z; exact absurd z.2.2 (by simp)
    · exact ⟨up _ _ (N p hp).1, Nat.ne_of_lt (Heap.lt_size (N p hp).1), hideAll_none _ (List.mem_map_of_mem hp)⟩
  exact wpAny_mono (h _ s.heap.objs.size h₁ tk cells gr.1 ⟨x.toInCall.ns, fun b o e => up b o (of_hideAll _ e), Nat.le_of_eq (hideAll_size _ _)⟩ NN Y gr.2.1 (X.keeps gr.2.2.1) (T.keeps gr.2.2.1)
    (fun p hp => Heap.lt_size (N p hp).1) (fun b o e n => hideAll_get _ e n)) (fun fl s' hl => gr.2.2.2 _ _ hl) fun _ _ y => y

/-- values that answer numbers -/
inductive Are (Y : Nat → Value → Prop) : List Value → List Nat → Prop
  | nil : Are Y [] []
  | cons {y : Value} {ys : List Value} {k : Nat} {ks : List Nat} : Y k y → Are Y ys ks → Are Y (y :: ys) (k :: ks)
theorem Are.snoc {Y : Nat → Value → Prop} {ys : List Value} {ks : List Nat} {y : Value} {k : Nat} (h : Are Y ys ks) (c : Y k y) : Are Y (ys ++ [y]) (ks ++ [k]) := by
  induction h with
  | nil => exact .cons c .nil
  | cons a _ ih => exact .cons a ih
theorem Are.len {Y : Nat → Value → Prop} {ys : List Value} {ks : List Nat} (h : Are Y ys ks) : ys.length = ks.length := by
  induction h with
  | nil => rfl
  | cons _ _ ih => rw [List.length_cons, List.length_cons, ih]
theorem Are.get {Y : Nat → Value → Prop} {ys : List Value} {ks : List Nat} (h : Are Y ys ks) : ∀ {i k : Nat}, ks[i]? = some k → ∃ y, ys[i]? = some y ∧ Y k y := by
  induction h with
  | nil => intro i k e; rw [List.getElem?_nil] at e; cases e
  | @cons y _ _ _ a _ ih =>
    intro i k e
    cases i with
    | zero => rw [List.getElem?_cons_zero] at e; cases e; exact ⟨y, List.getElem?_cons_zero, a⟩
    | succ i => rw [List.getElem?_cons_succ] at e; obtain ⟨u, e1, e2⟩ := ih e; exact ⟨u, by rw [List.getElem?_cons_succ]; exact e1, e2⟩

section
variable {prog : Program} {w : World} {A : Around} {s : Shared} {h₀ : Heap} {L : Addr} {m : Str → Option Value} {env : Env} {elt ct : PySem.Expr} {x : Str} {scope : Scope} {cl : List (Str × Addr)} {S : List (Addr × Obj) → Prop} {P : Nat → Value → Prop} {Fin : List Value → List (Addr × Obj) → Prop} {news : List (Addr × Obj)}

def TurnKept (h₀ : Heap) (L : Addr) (m : Str → Option Value) (s : Shared) (h : Heap) (Y : Value → Prop) (y : Value) (s' : Shared) : Prop := ∃ h' tk', s' = { s with heap := h', toks := tk' } ∧ Fr h₀ L h' m ∧ GSub h h' [L] ∧ Y y

theorem comp_rest {n : Nat} (Y : Nat → Value → Prop) (hS : S news)
    (turn : ∀ i v I oI C oC D m₂ ys h tk (E' : Value → Shared → Prop), i < n → P i v → LCg.NsObj oC m₂ → m₂ x = some v → Fr h₀ L h m → News h₀ L h ((I, oI) :: (C, oC) :: (D, LCg.lst ys) :: news) → LCg.Off3 I C D news → ((@Ne Nat I C) ∧ (@Ne Nat I D) ∧ (@Ne Nat C D)) →
      wpAny (model prog w) A (eval elt (compEnvC scope cl C env)) (TurnKept h₀ L m s h (Y i)) E' { s with heap := h, toks := tk })
    (fin : ∀ ys, Are Y ys (List.range n) → Fin ys news) : LCg.CompRest prog w A h₀ L m env elt x scope cl s S P Fin n 0 [] news := by
  have key : ∀ (j i : Nat) (ys : List Value), i + j = n → Are Y ys (List.range i) → LCg.CompRest prog w A h₀ L m env elt x scope cl s S P Fin j i ys news := by
    intro j
    induction j with
    | zero =>
      intro i ys hi hy
      obtain rfl : i = n := by omega
      exact LCg.CompRest.zero (fin ys hy)
    | succ j ih =>
      intro i ys hi hy
      refine LCg.CompRest.succ fun v I oI C oC D m₂ h tk E' hv hC hx F N off ne => ?_
      refine wpAny_mono (turn i v I oI C oC D m₂ ys h tk E' (by omega) hv hC hx F N off ne) (fun y s₂ hq => ?_) fun _ _ e => e
      obtain ⟨h', tk', rfl, F', G, hY⟩ := hq
      refine ⟨h', tk', news, rfl, F', news_gsubL N G, off, hS, ih (i + 1) _ (by omega) ?_⟩
      rw [List.range_succ]
      exact hy.snoc hY
  exact key n 0 [] (by omega) .nil

theorem comp_restT {n : Nat} (b : Nat → Bool) (Y : Nat → Value → Prop) (hS : S news)
    (turn : ∀ i v I oI C oC D m₂ ys h tk (E' : Value → Shared → Prop), i < n → P i v → LCg.NsObj oC m₂ → m₂ x = some v → Fr h₀ L h m → News h₀ L h ((I, oI) :: (C, oC) :: (D, LCg.lst ys) :: news) → LCg.Off3 I C D news → ((@Ne Nat I C) ∧ (@Ne Nat I D) ∧ (@Ne Nat C D)) →
      wpAny (model prog w) A (isTrue ct (compEnvC scope cl C env) (eval ct (compEnvC scope cl C env))) (fun ok s' => TurnKept h₀ L m s h (fun _ => ok = b i) .none s') E' { s with heap := h, toks := tk })
    (item : ∀ i v I oI C oC D m₂ ys h tk (E' : Value → Shared → Prop), i < n → P i v → b i = true → LCg.NsObj oC m₂ → m₂ x = some v → Fr h₀ L h m → News h₀ L h ((I, oI) :: (C, oC) :: (D, LCg.lst ys) :: news) → LCg.Off3 I C D news → ((@Ne Nat I C) ∧ (@Ne Nat I D) ∧ (@Ne Nat C D)) →
      wpAny (model prog w) A (eval elt (compEnvC scope cl C env)) (TurnKept h₀ L m s h (Y i)) E' { s with heap := h, toks := tk })
    (fin : ∀ ys, Are Y ys ((List.range n).filter b) → Fin ys news) : LCt.CompRestT prog w A h₀ L m env ct elt x scope cl s S P Fin n 0 [] news := by
  have key : ∀ (j i : Nat) (ys : List Value), i + j = n → Are Y ys ((List.range i).filter b) → LCt.CompRestT prog w A h₀ L m env ct elt x scope cl s S P Fin j i ys news := by
    intro j
    induction j with
    | zero =>
      intro i ys hi hy
      obtain rfl : i = n := by omega
      exact LCt.CompRestT.zero (fin ys hy)
    | succ j ih =>
      intro i ys hi hy
      refine LCt.CompRestT.succ fun v I oI C oC D m₂ h tk E' hv hC hx F N off ne => ?_
      refine wpAny_mono (turn i v I oI C oC D m₂ ys h tk E' (by omega) hv hC hx F N off ne) (fun ok s₂ hq => ?_) fun _ _ e => e
      obtain ⟨h', tk', rfl, F', G, rfl⟩ := hq
      have N' := news_gsubL N G
      cases hb : b i with
      | true =>
        simp only [if_true]
        refine wpAny_mono (item i v I oI C oC D m₂ ys h' tk' E' (by omega) hv hb hC hx F' N' off ne) (fun y s₃ hq => ?_) fun _ _ e => e
        obtain ⟨h'', tk'', rfl, F'', G', hY⟩ := hq
        refine ⟨h'', tk'', news, rfl, F'', news_gsubL N' G', off, hS, ih (i + 1) _ (by omega) ?_⟩
        rw [List.range_succ, List.filter_append]
        simpa [hb] using hy.snoc hY
      | false =>
        simp only [Bool.false_eq_true, if_false]
        refine ⟨h', tk', news, rfl, F', N', off, hS, ih (i + 1) _ (by omega) ?_⟩
        rw [List.range_succ, List.filter_append]
        simpa [hb] using hy
  exact key n 0 [] (by omega) .nil
end
end
section
open PySem PySem.W PyProof.Rows PySem.Calls
def NatAt (k : Nat) (v : Value) : Prop := ∃ t, v = .int (k : Int) t

def argAt (args : List (Tg × Val)) (k : Nat) : Str := match args[k]? with
  | some (g, d) => argText k g d
  | none => Str.ofString ""
def restTexts (args : List (Tg × Val)) (ks : List Nat) : List Str := ks.map (argAt args)
def wordOf (n : Nat) : Str := if 1 < n then Str.ofString "unused arguments" else Str.ofString "unused argument"
def unusedText (ys : List Str) : Str := wordOf ys.length ++ Str.ofString " (" ++ Txt.join (Str.ofString ", ") ys ++ Str.ofString ")"

theorem strs_of_are {ys : List Value} {ks : List Nat} {f : Nat → Str} (h : Are (fun k y => ∃ t, y = .str (f k) t) ys ks) : StrsAre ys (ks.map f) := by
  induction h with
  | nil => exact .nil
  | cons a _ ih => obtain ⟨t, rfl⟩ := a; exact .cons _ t ih
theorem are_mono {Y Z : Nat → Value → Prop} {ys : List Value} {ks : List Nat} (h : Are Y ys ks) (k : ∀ i y, Y i y → Z i y) : Are Z ys ks := by
  induction h with
  | nil => exact .nil
  | cons a _ ih => exact .cons (k _ _ a) ih
/-- from the turns' numbers to the items -/
theorem are_items {α : Type} {ys : List Value} {l : List α} {f : α → Str} : ∀ {k : Nat}, Are (fun i y => ∃ x t, l[i]? = some x ∧ y = .str (f x) t) ys ((List.range l.length).drop k) → StrsAre ys ((l.drop k).map f) := by
  intro k
  induction hn : l.length - k generalizing k ys with
  | zero =>
    intro h
    have e : l.drop k = [] := List.drop_eq_nil_of_le (by omega)
    have e2 : (List.range l.length).drop k = [] := List.drop_eq_nil_of_le (by simp; omega)
    rw [e2] at h
    cases h
    rw [e]
    exact .nil
  | succ n ih =>
    intro h
    have hk : k < l.length := by omega
    have e2 : (List.range l.length).drop k = k :: (List.range l.length).drop (k + 1) := by
      rw [List.drop_eq_getElem_cons (by simpa using hk)]
      simp
    rw [e2] at h
    cases h with
    | cons a b =>
      obtain ⟨x, t, e, rfl⟩ := a
      rw [List.drop_eq_getElem_cons hk]
      rw [List.getElem?_eq_getElem hk] at e
      cases e
      exact .cons _ t (ih (by omega) b)

theorem arg_len {args : List (Tg × Val)} (hok : ∀ p ∈ args, p.2.Ok) (hn : args.length < 10) (k : Nat) : (argAt args k).length ≤ 30 := by
  unfold argAt
  cases e : args[k]? with
  | none => show (Str.ofString "").length ≤ 30; decide +kernel
  | some p =>
    obtain ⟨g, d⟩ := p
    have hk : k < 10 := by
      have := (List.getElem?_eq_some_iff.mp e).1
      omega
    have hd := hok _ (List.mem_of_getElem? e)
    show (argText k g d).length ≤ 30
    unfold argText
    cases hg : g.txt with
    | none =>
      cases ht : d.text with
      | none =>
        have h3 := int_len (i := (k : Int) + 1) (by omega)
        show (Str.ofString (toString ((k : Int) + 1))).length ≤ 30
        omega
      | some z =>
        have := text_len hd ht
        show z.length ≤ 30
        omega
    | some y =>
      have h1 := tg_len hg
      cases ht : d.text with
      | none => show y.length ≤ 30; omega
      | some z =>
        have := text_len hd ht
        show (y ++ Str.ofString " = " ++ z).length ≤ 30
        rw [Str.length_append, Str.length_append, len_eq3]; omega
theorem sum_le30 : ∀ {ys : List Str}, (∀ y ∈ ys, y.length ≤ 30) → (ys.map (·.length)).sum ≤ 30 * ys.length
  | [], _ => Nat.le_refl _
  | a :: r, h => by
    have h1 := h a (List.mem_cons_self ..)
    have h2 := sum_le30 (ys := r) fun y hy => h y (List.mem_cons_of_mem _ hy)
    rw [List.map_cons, List.sum_cons, List.length_cons]; omega
def Small (ys : List Str) : Prop := (∀ y ∈ ys, y.length ≤ 30) ∧ ys.length ≤ 10
theorem Small.weight {ys : List Str} (h : Small ys) : (ys.map (·.length)).sum + ys.length ≤ 1048576 := by
  have h1 := sum_le30 h.1
  have h2 := h.2
  omega
theorem Small.join {ys : List Str} (h : Small ys) : (Txt.join (Str.ofString ", ") ys).length ≤ 2000 := by
  have h1 := sum_le30 h.1
  have h2 := h.2
  have h3 := len_join_le (sep := Str.ofString ", ") (ys := ys) (n := 310) (by show _ + _ ≤ _; omega) (by decide +kernel)
  omega
theorem add1 {x : Str} (h : x.length ≤ 20) : x.length + (Str.ofString " (").length ≤ sizeLine := by
  have : (Str.ofString " (").length = 2 := by decide +kernel
  rw [PySem.sizeLine_eq]; omega
theorem add2 {x j : Str} (h : x.length ≤ 20) (h2 : j.length ≤ 2000) : (x ++ Str.ofString " (").length + j.length ≤ sizeLine := by
  have : (Str.ofString " (").length = 2 := by decide +kernel
  rw [PySem.sizeLine_eq, Str.length_append]; omega
theorem add3 {x j : Str} (h : x.length ≤ 20) (h2 : j.length ≤ 2000) : (x ++ Str.ofString " (" ++ j).length + (Str.ofString ")").length ≤ sizeLine := by
  have h3 : (Str.ofString " (").length = 2 := by decide +kernel
  have h4 : (Str.ofString ")").length = 1 := by decide +kernel
  rw [PySem.sizeLine_eq, Str.length_append, Str.length_append]; omega

section
variable {w : World} {mean : ExcName → Option Value} {mg mb : Str → Option Value} {dp un : Nat} {gd : Option (List Code)} {cn : Str} {cs : Scope} {a : Addr} {ccd : Value} {cl : List (Str × Addr)} {outer : List Env} {A₀ : Around} {base h₀ : Heap} {L : Addr} {m : Str → Option Value} {s : Shared} {Q E : Value → Shared → Prop}


theorem len_sym {A : Around} {l : Addr} {vs : List Value} {n : Nat} (hl : s.heap.IsList l vs.toArray) (e : vs.length = n) (hn : n < 1000) (h : Q (.int (n : Int) (s.toks + 1)) { s with toks := s.toks + 1 + 1 }) : wpAny (model PySem.Challenge.rw_pq1402_01.row.prog w) A (call (.builtin "len") [.ref l]) Q E s := by
  subst e
  refine len_list hl ?_ ?_
  · rw [List.size_toArray]; omega
  · rw [List.size_toArray]; exact h
theorem join_sym {A : Around} {l : Addr} {vs : List Value} {zs : List Str} {t : Tok} (hl : s.heap.IsList l vs.toArray) (hz : StrsAre vs zs) (hs : Small zs) (h : ∀ t' k, Q (.str (Txt.join (Str.ofString ", ") zs) t') { s with toks := k }) :
    wpAny (model PySem.Challenge.rw_pq1402_01.row.prog w) A (call (.builtin "str.join") [.str (Str.ofString ", ") t, .ref l]) Q E s :=
  join_listW hl (by simpa using hz) (by decide +kernel) hs.weight h
theorem argt_walk {ok : Addr → Prop} {lo : Addr} {vs : List Value} {args : List (Tg × Val)} {i : Nat} {ti : Tok} {n : Nat} (B : Below A₀ base outer h₀) (F : Fr h₀ L s.heap m) (X : (heapK w.params).In h₀) (T : Top viewQ LL mean mg mb h₀)
    (hl : At h₀ ok lo (listOf vs.toArray n)) (ha : ArgsIn w.params h₀ ok vs args) (hi : i < args.length) (hn : args.length < 10) (hok : ∀ p ∈ args, p.2.Ok) (hk : cs.kind = .function) (hdp : dp + 25 < recursionLimit) (hun : un + 300 < cLine)
    (ret : ∀ t h' tk', GSub s.heap h' [] → Q (.str (argAt args i) t) { s with heap := h', toks := tk' }) :
   wpAny (model PySem.Challenge.rw_pq1402_01.row.prog w) (ktrTop dp un gd cn cs L a ccd cl outer) (call (.ref 178) [.ref lo, .int (i : Int) ti, .ref 185]) Q E s := by
  have up : ∀ b o, At h₀ ok b o → At s.heap ok b o := fun b o x => ⟨F.keep _ _ x.1, x.2⟩
  obtain ⟨g, d, e⟩ : ∃ g d, args[i]? = some (g, d) := ⟨_, _, List.getElem?_eq_getElem hi⟩
  have ea : argAt args i = argText i g d := by unfold argAt; rw [e]
  rw [ea] at ret
  exact argt_call ⟨B, F, X, T⟩ hk hdp hun (LstAt.mono up ⟨n, hl⟩) (ha.mono up) e (by omega) (hok _ (List.mem_of_getElem? e)) ret


set_option maxRecDepth 100000 in
set_option maxHeartbeats 8000000 in
theorem unused_call (C : Cx w mean mg mb A₀ base outer h₀ L s.heap m) (hk : cs.kind = .function) (hdp : dp + 35 < recursionLimit) (hun : un + 400 < cLine)
    {ok ok' : Addr → Prop} {lo re : Addr} {vs rvs : List Value} {args : List (Tg × Val)} {ks : List Nat} (hl : LstAt s.heap ok lo vs) (ha : ArgsIn w.params s.heap ok vs args) (hr : LstAt s.heap ok' re rvs) (hks : Are NatAt rvs ks) (hlt : ∀ k ∈ ks, k < args.length) (hn : args.length < 10) (hok : ∀ p ∈ args, p.2.Ok) (hkn : ks.length ≤ 10)
    (ret : ∀ t h' tk', GSub s.heap h' [] → Q (.str (unusedText (restTexts args ks)) t) { s with heap := h', toks := tk' }) :
   wpAny (model PySem.Challenge.rw_pq1402_01.row.prog w) (ktrTop dp un gd cn cs L a ccd cl outer) (call (.ref 190) [.ref lo, .ref re, .ref 185]) Q E s := by
  w_top off
  k_with_none
  (k_with "LeaveK" => (refine' leaveK_ (by k_asm) (by k_asm) ?_; intro _ _; dsimp only))
  (k_with "LeaveK str" => (refine' leaveK_ (by k_asm) (by k_asm) ?_; intro _ _; dsimp only))
  (k_with "call ref" => (k_here; (with_reducible show wpAny _ _ (call (Value.ref 178) _) _ _ _); k_dflt (refine' argt_walk (by k_asm) (by k_asm) (by k_asm) (by k_asm) (by assumption) (by assumption) (by assumption) (by assumption) (by assumption) (by exact rfl) (by ktr_room) (by ktr_units) ?_); intro _ _ _ _))
  (k_with "call ref cons nil" => (k_here; (with_reducible show wpAny _ _ (call (Value.ref 178) _) _ _ _); k_dflt (refine' argt_walk (by k_asm) (by k_asm) (by k_asm) (by k_asm) (by assumption) (by assumption) (by assumption) (by assumption) (by assumption) (by exact rfl) (by ktr_room) (by ktr_units) ?_); intro _ _ _ _))
  (k_with "call builtin:len" => (k_here; k_dflt (refine' len_sym (by is_list) (by assumption) (by omega) ?_)))
  (k_with "call builtin:len cons nil" => (k_here; k_dflt (refine' len_sym (by is_list) (by assumption) (by omega) ?_)))
  (k_with "call builtin:str.join" => (k_here; k_dflt (refine' join_sym (by is_list) (by assumption) (by assumption) ?_); intro _ _))
  (k_with "call builtin:str.join cons nil" => (k_here; k_dflt (refine' join_sym (by is_list) (by assumption) (by assumption) ?_); intro _ _))
  (k_with "binaryOp Add str str" => (k_here; refine PyProof.Rows.add_str ?_ (by first | exact add1 (by decide +kernel) | exact add2 (by decide +kernel) (by assumption) | exact add3 (by decide +kernel) (by assumption)); intro _ _))
  obtain ⟨B, F, X, T⟩ := C
  have N : News h₀ L s.heap [] := News.nil
  revert X; k_fill; intro X
  refine wpAny_call ?_
  k_dflt (refine' code_cG ?k1 ?k2 ?k3 ?k4 ?k5 ?kA ?kF ?kK ?k6 ?k7 ?k8 ?k9 ?kB ?kD ?_ ?c2 ?c3 ?c4; (case kA => exact rfl); (case kF => exact rfl); (case kK => assumption); (case k1 => k_asm); (case k2 => k_asm); (case k3 => k_asm); (case k4 => k_asm); (case k5 => k_asm); (case k6 => k_is); (case k7 => k_is); (case k8 => ktr_room); (case k9 => exact BindsTo.of_eq rfl); (case kB => exact rfl); (case kD => decide +kernel); (case c2 => exact rfl); (case c3 => exact rfl); (case c4 => exact rfl); k_whole; intro g' L' h' tk' cells' FG' F' N' Y' B' X' T' l1 kG'; (try k_lt l1); k_cells Y'; (try simp only [List.cons_append, List.nil_append] at N'); (try dsimp only); (try k_fold))
  have kG2 : GSub s.heap g' [] := kG'
  obtain ⟨nr, hr, _⟩ := hr
  replace hr := lst_base (kG2 _ _ hr (by simp))
  have up : ∀ b o, At s.heap ok b o → At g' ok b o := fun b o z => ⟨kG2 _ _ z.1 (by simp), z.2⟩
  obtain ⟨nl, hl⟩ := hl.mono up
  replace ha := ha.mono up
  have hlen := hks.len
  have hsm : Small (restTexts args ks) := ⟨fun y hy => by
    obtain ⟨k, _, rfl⟩ := List.mem_map.mp hy
    exact arg_len hok hn k, by rw [restTexts, List.length_map]; exact hkn⟩
  have hjl := hsm.join
  have hzl : (restTexts args ks).length = ks.length := by rw [restTexts, List.length_map]
  k_steps
  refine LCg.CompSrc.base rfl F' N' hr (by rw [PySem.sizeLine_eq, List.size_toArray]; omega) ?_
  intro g2
  refine comp_rest (fun i y => ∃ k t, ks[i]? = some k ∧ y = .str (argAt args k) t) (Or.inl hr) ?turn ?fin
  case turn =>
    intro i v I oI C oC D m₂ ys h tk E' hi hv hC hx F1 N1 off ne
    rw [List.size_toArray] at hi
    obtain ⟨k, hk'⟩ : ∃ k, ks[i]? = some k := ⟨_, List.getElem?_eq_getElem (by omega)⟩
    obtain ⟨v', e1, ti, rfl⟩ := hks.get hk'
    have e2 : v = .int (k : Int) ti := by
      have : rvs[i]? = some v := by simpa using hv
      rw [e1] at this; exact (Option.some.inj this).symm
    subst e2
    have hka : k < args.length := hlt k (List.mem_of_getElem? hk')
    k_steps
    rename_i t' h2 tk2 G2
    exact ⟨_, _, rfl, fr_gsub0 F1 G2, gsub_weak G2 (fun _ h => nomatch h), k, t', hk', rfl⟩
  case fin =>
    intro ys hys
    rw [List.size_toArray] at hys
    have hz : StrsAre ys (restTexts args ks) := by
      have h1 : Are (fun i y => ∃ x t, ks[i]? = some x ∧ y = .str (argAt args x) t) ys ((List.range ks.length).drop 0) := by
        rw [List.drop_zero, ← hlen]; exact hys
      have := are_items h1
      rwa [List.drop_zero] at this
    have hyl : ys.length = ks.length := by rw [hys.len, List.length_range, hlen]
    k_steps
    · have hw : wordOf (restTexts args ks).length = Str.ofString "unused arguments" := by unfold wordOf; rw [hzl, if_pos (by omega)]
      unfold unusedText at ret
      rw [hw] at ret
      exact ret _ _ _ (gsub_back kG2 (by k_asm))
    · have hw : wordOf (restTexts args ks).length = Str.ofString "unused argument" := by unfold wordOf; rw [hzl, if_neg (by omega)]
      unfold unusedText at ret
      rw [hw] at ret
      exact ret _ _ _ (gsub_back kG2 (by k_asm))
end
end
section
open PySem PySem.W PyProof.Rows PySem.Calls
abbrev matD (P : Params) (fo tg us pl : Value) (t1 t2 t3 t4 : Tok) : Obj :=
  dictOf [⟨PyData.keyHash P (Str.ofString "formals"), .str (Str.ofString "formals") t1, fo⟩, ⟨PyData.keyHash P (Str.ofString "tags"), .str (Str.ofString "tags") t2, tg⟩,
    ⟨PyData.keyHash P (Str.ofString "used"), .str (Str.ofString "used") t3, us⟩, ⟨PyData.keyHash P (Str.ofString "places"), .str (Str.ofString "places") t4, pl⟩] 4

inductive Cl where
  | no
  | x
  | nm
  | ot
  deriving DecidableEq
def keyOf : Cl → Str
  | .x => Str.ofString "x"
  | .nm => Str.ofString "name"
  | _ => Str.ofString ""
def tabOf (D : List (Cl × Nat)) : List (PyData × PyData) := D.map fun p => (.str (keyOf p.1), .int (p.2 : Int))
def DctIs (w : World) (pl : Addr) (o : Obj) (D : List (Cl × Nat)) : Prop :=
  (pl == sysModules) = false ∧ ∃ kvs, o.IsDictOf (strKind PySem.Challenge.rw_pq1402_01.row.prog w) kvs ∧ PyProof.V.FlatPairs PyData.str kvs (tabOf D)

theorem ints_zeros {t : Tok} : ∀ n : Nat, IntsAre (List.replicate n [Value.int 0 t]).flatten (List.replicate n (0 : Int))
  | 0 => .nil
  | n + 1 => by
    rw [List.replicate_succ, List.replicate_succ, List.flatten_cons]
    exact .cons 0 t (ints_zeros n)

section
variable {w : World} {mean : ExcName → Option Value} {mg mb : Str → Option Value} {dp un : Nat} {gd : Option (List Code)} {cn : Str} {cs : Scope} {a : Addr} {ccd : Value} {cl : List (Str × Addr)} {outer : List Env} {A₀ : Around} {base h₀ : Heap} {L : Addr} {m : Str → Option Value} {s : Shared} {Q E : Value → Shared → Prop}


set_option maxRecDepth 100000 in
set_option maxHeartbeats 8000000 in
theorem mat_walk {fo : Value} {tg : Addr} {tvs : List Value} {n nt : Nat} {news : List (Addr × Obj)} (B : Below A₀ base outer h₀) (F : Fr h₀ L s.heap m) (X : (heapK w.params).In h₀) (T : Top viewQ LL mean mg mb h₀) (N : News h₀ L s.heap news)
    (htg : (tg, listOf tvs.toArray nt) ∈ news) (hn : tvs.length = n) (hn1 : n < 10)
    (hk : cs.kind = .function) (hdp : dp + 10 < recursionLimit) (hun : un + 100 < cLine)
    (ret : ∀ x dx us pl uvs n1 o t1 t2 t3 t4 h' tk', Fr h₀ L h' m → News h₀ L h' ((pl, o) :: (us, listOf uvs.toArray n1) :: (x, instObj 160 dx) :: (dx, matD w.params fo (.ref tg) (.ref us) (.ref pl) t1 t2 t3 t4) :: news) →
      IntsAre uvs (List.replicate n 0) → DctIs w pl o [] → us < pl → x < us → dx < x → (∀ p ∈ news, p.1 < dx) → Q (.ref x) { s with heap := h', toks := tk' }) :
   wpAny (model PySem.Challenge.rw_pq1402_01.row.prog w) (ktrTop dp un gd cn cs L a ccd cl outer) (call (.ref 160) [fo, .ref tg]) Q E s := by
  w_top off
  k_with_none
  (k_with "LeaveK" => (refine' leaveK_ (by k_asm) (by k_asm) ?_; intro _ _; dsimp only))
  (k_with "LeaveK none" => (refine' leaveK_ (by k_asm) (by k_asm) ?_; intro _ _; dsimp only))
  (k_with "call builtin:len" => (k_here; k_dflt (refine' len_sym (by first | is_list | exact News.isList (by k_asm) (by repeat (first | assumption | apply List.mem_cons_of_mem))) (by assumption) (by omega) ?_)))
  (k_with "call builtin:len cons nil" => (k_here; k_dflt (refine' len_sym (by first | is_list | exact News.isList (by k_asm) (by repeat (first | assumption | apply List.mem_cons_of_mem))) (by assumption) (by omega) ?_)))
  revert X; k_fill; intro X
  k_dflt (refine' call_cls ?k1 ?k2 ?k3 ?k4 ?k5 ?k6 ?_; (case k1 => k_asm); (case k2 => k_asm); (case k3 => k_asm); (case k4 => k_is); (case k5 => k_is); (case k6 => k_is); k_whole; intro x' d' h' F' N' l1 l2; (try k_lt l1); (try k_lt2 l2); (try k_sweep); (refine' code_def ?k1 ?k2 ?k3 ?k4 ?k5 ?kA ?kF ?kK ?k6 ?k7 ?k8 ?k9 ?kB ?_ ?c2 ?c3 ?c4 ?c5; (case kA => exact rfl); (case kF => exact rfl); (case kK => first | exact rfl | assumption); (case k1 => k_asm); (case k2 => k_asm); (case k3 => k_asm); (case k4 => k_asm); (case k5 => k_asm); (case k6 => k_is); (case k7 => k_is); (case k8 => k_room); (case k9 => first | exact BindsTo.of_eq rfl | exact binds_K (by k_in) rfl (by k_is) rfl rfl rfl | fail "k_enter: no rule for these arguments"); (case c5 => decide); (case kB => exact locs rfl); (case c2 => exact rfl); (case c3 => exact rfl); (case c4 => exact rfl); k_whole; intro g' L' h' FG' F' N' B' X' T'; (try dsimp only); (try k_fold)))
  k_steps
  rename_i l3 D3 h3 i1 n1 s1 e1 e2 e3 la h2 d3 h4 o lo hs fs hi fi lb h5 F3 N0 kF kN _ _
  have N3 : News h₀ L h5 ((d3, o) :: (D3, listOf (List.replicate ((n : Int)).toNat [Value.int 0 _]).flatten.toArray 0) :: (x', instObj 160 d') :: (d', matD w.params fo (.ref tg) (.ref D3) (.ref d3) _ _ _ _) :: news) := fun p hp => kN p (by
    simp only [List.mem_cons] at hp ⊢
    rcases hp with h | h | h | h | h
    · exact .inl h
    · exact .inr (.inl h)
    · exact .inr (.inr (.inr (.inl h)))
    · exact .inr (.inr (.inr (.inr (.inl h))))
    · exact .inr (.inr (.inr (.inr (.inr h)))))
  exact ret _ _ _ _ _ _ _ _ _ _ _ _ _ kF N3 (ints_zeros _) ⟨lo, _, hs, fs⟩ lb.1 la.2.1 l2 l1
end
end
section
open PySem PySem.W PyProof.Rows PySem.Calls
abbrev St := List Int × List (Cl × Nat)
def exStep (cs : List Cl) (c : Cl) (st : St) (j : Nat) : St := if cs.getD j .ot = c ∧ st.1.getD j 0 = 0 then (st.1.set j 2, st.2 ++ [(c, j)]) else st
def exRun (cs : List Cl) (c : Cl) (st : St) (k : Nat) : St := (List.range k).foldl (exStep cs c) st
def cnames : List Cl := [.x, .nm]
def exN (cs : List Cl) (i : Nat) : St := (cnames.take i).foldl (fun st c => exRun cs c st cs.length) (List.replicate cs.length 0, [])
def isFree (cs : List Cl) (us : List Int) (p : Nat) : Bool := us.getD p 0 == 0 && cs.getD p .ot == .no
def adv (cs : List Cl) (us : List Int) : Nat → Nat → Nat
  | 0, p => p
  | f + 1, p => if p < cs.length && !isFree cs us p then adv cs us f (p + 1) else p
def keyed (D : List (Cl × Nat)) (c : Cl) : Bool := D.any fun p => p.1 == c
def posStep (cs : List Cl) (q : Nat × St) (c : Cl) : Nat × St :=
  if keyed q.2.2 c then q else
    let p := adv cs q.2.1 (cs.length - q.1) q.1
    if p < cs.length then (p, (q.2.1.set p 2, q.2.2 ++ [(c, p)])) else (p, q.2)
def posN (cs : List Cl) (i : Nat) : Nat × St := (cnames.take i).foldl (posStep cs) (0, exN cs 2)
def restOf (cs : List Cl) : List Nat := (List.range cs.length).filter fun i => (posN cs 2).2.1.getD i 0 == 0
def isNm (c : Cl) : Bool := c == .x || c == .nm
def lft (cs : List Cl) : List Nat := (List.range cs.length).filter fun i => !isNm (cs.getD i .ot)
def fre (cs : List Cl) : List Nat := (lft cs).filter fun i => cs.getD i .ot == .no
def lawStep (cs : List Cl) (q : List Nat × List Nat) (c : Cl) : List Nat × List Nat := if !cs.contains c && q.2 != [] then (q.1.erase (q.2.headD 0), q.2.tail) else q
def lawN (cs : List Cl) (i : Nat) : List Nat × List Nat := (cnames.take i).foldl (lawStep cs) (lft cs, fre cs)
def valid (cs : List Cl) : Bool := decide (cs.count .x ≤ 1) && decide (cs.count .nm ≤ 1)
def check (cs : List Cl) : Bool := !valid cs || (
  (lawN cs 2).1 == restOf cs &&
  (List.range cs.length).all (fun j => !isNm (cs.getD j .ot) || (exN cs 2).1.getD j 0 == 2) &&
  [0, 1].all (fun i => (List.range cs.length).all fun j => !(cs.getD j .ot == cnames.getD i .ot && (exRun cs (cnames.getD i .ot) (exN cs i) j).1.getD j 0 == 0) || !keyed (exRun cs (cnames.getD i .ot) (exN cs i) j).2 (cnames.getD i .ot)) &&
  (posN cs 2).2.2.all (fun p => p.2 < cs.length) &&
  [0, 1].all (fun i => cs.contains (cnames.getD i .ot) || (lawN cs i).2 == [] || (lawN cs i).1.contains ((lawN cs i).2.headD 0)))
def allCs : Nat → List (List Cl)
  | 0 => [[]]
  | k + 1 => (allCs k).flatMap fun l => [.no :: l, .x :: l, .nm :: l, .ot :: l]
theorem mem_allCs : ∀ cs : List Cl, cs ∈ allCs cs.length
  | [] => List.mem_singleton.mpr rfl
  | c :: r => List.mem_flatMap.mpr ⟨r, mem_allCs r, by cases c <;> simp⟩
theorem check0 : (allCs 0).all check = true := by decide +kernel
theorem check1 : (allCs 1).all check = true := by decide +kernel
theorem check2 : (allCs 2).all check = true := by decide +kernel
theorem check3 : (allCs 3).all check = true := by decide +kernel
theorem check4 : (allCs 4).all check = true := by decide +kernel
theorem check5 : (allCs 5).all check = true := by decide +kernel
theorem check_all {cs : List Cl} (h : cs.length ≤ 5) : check cs = true := by
  have hm := mem_allCs cs
  have : cs.length = 0 ∨ cs.length = 1 ∨ cs.length = 2 ∨ cs.length = 3 ∨ cs.length = 4 ∨ cs.length = 5 := by omega
  rcases this with e | e | e | e | e | e <;> rw [e] at hm
  · exact List.all_eq_true.mp check0 _ hm
  · exact List.all_eq_true.mp check1 _ hm
  · exact List.all_eq_true.mp check2 _ hm
  · exact List.all_eq_true.mp check3 _ hm
  · exact List.all_eq_true.mp check4 _ hm
  · exact List.all_eq_true.mp check5 _ hm
end
section
open PySem PySem.W PyProof.Rows PySem.Calls
section
variable {prog : Program} {w : World} {A : Around} {E : Value → Shared → Prop} {s : Shared} {env : Env} {h₀ : Heap} {x : Str} {body : List Stmt} {Q : Flow → Shared → Prop}

/-- what a turn's end says: the ledger's word, and the names that are not stored -/
def TurnJ (x : Str) (stored : List Str) (m₀ : Str → Option Value) (J : List (Addr × Obj) → Prop) (m : Str → Option Value) (nx : List (Addr × Obj)) : Prop := J nx ∧ ∀ y, y ≠ x → stored.contains y = false → m y = m₀ y

theorem map_stored {x : Str} {stored : List Str} {m₀ m₁ : Str → Option Value} {v : Value} (h : ∀ y, y ≠ x → stored.contains y = false → m₁ y = m₀ y) :
    (fun y => if y = x then some v else m₁ y) = fun y => if y = x then some v else if stored.contains y then m₁ y else m₀ y := by
  funext y
  by_cases h1 : y = x
  · simp [h1]
  · simp only [if_neg h1]
    cases h2 : stored.contains y with
    | true => simp
    | false => simp only [Bool.false_eq_true, if_false]; exact h y h1 h2
theorem map_stored_end {x : Str} {stored : List Str} {m₀ m₁ : Str → Option Value} (h : ∀ y, y ≠ x → stored.contains y = false → m₁ y = m₀ y) :
    m₁ = fun y => if y = x then m₁ y else if stored.contains y then m₁ y else m₀ y := by
  funext y
  by_cases h1 : y = x
  · simp [h1]
  · simp only [if_neg h1]
    cases h2 : stored.contains y with
    | true => simp
    | false => simp only [Bool.false_eq_true, if_false]; exact h y h1 h2

theorem for_walk {I : Addr} {fp wr : List Addr} {n : Nat} {P : Nat → Value → Prop} {St : Nat → Heap → Prop} {m₀ : Str → Option Value} {news : List (Addr × Obj)} (stored : List Str) (J : Nat → List (Addr × Obj) → Prop)
    (W : Walks prog w A I fp wr n P St) (hLf : env.locals ∉ fp) (hwr : ∀ b ∈ wr, h₀.get? b = none) (hnw : ∀ p ∈ news, p.1 ∉ wr) (hfp : ∀ q ∈ news, q.1 ∉ fp) (hst : St 0 s.heap) (F : Fr h₀ env.locals s.heap m₀) (N : News h₀ env.locals s.heap news) (hj : J 0 news)
    (turn : ∀ i v (u : Str → Option Value) nx h tk own, i < n → P i v → OwnOff own (news.map (·.1)) → nx.map (·.1) = news.map (·.1) → J i nx → Fr h₀ env.locals h (fun y => if y = x then some v else if stored.contains y then u y else m₀ y) → News h₀ env.locals h (nx ++ own) →
      wpAny (model prog w) A (execs body env) (InvPostN h₀ env.locals (TurnJ x stored m₀ (J (i + 1))) own (news.map (·.1)) { s with heap := h, toks := tk } Q) E { s with heap := h, toks := tk })
    (done : ∀ (u : Str → Option Value) nx h tk, J n nx → Fr h₀ env.locals h (fun y => if y = x then u y else if stored.contains y then u y else m₀ y) → News h₀ env.locals h nx → Q .next { s with heap := h, toks := tk }) :
    LoopAtV prog w A h₀ env x body Q E (.ref I) s := by
  refine loop_invN (fun i m nx => TurnJ x stored m₀ (J i) m nx) W hLf hwr hnw hfp hst F N ⟨hj, fun _ _ _ => rfl⟩ ?_ ?_
  · rintro i v m₁ nx h tk own hi hP ha ho ⟨hJ, hm⟩ F₁ N₁
    rw [map_stored hm] at F₁
    exact turn i v m₁ nx h tk own hi hP ho ha hJ F₁ N₁
  · rintro m₁ nx h tk ⟨hJ, hm⟩ F₁ N₁
    rw [map_stored_end hm] at F₁
    exact done m₁ nx h tk hJ F₁ N₁

theorem for_range {r : Addr} {t₀ u₀ v₀ : Tok} {n : Nat} {m₀ : Str → Option Value} {news : List (Addr × Obj)} (stored : List Str) (J : Nat → List (Addr × Obj) → Prop)
    (hh : A.handled = none) (hr : IsRange s.heap r 0 (n : Int) 1 t₀ u₀ v₀) (hn : n < 1000) (F : Fr h₀ env.locals s.heap m₀) (N : News h₀ env.locals s.heap news) (hj : J 0 news)
    (turn : ∀ i t (u : Str → Option Value) nx h tk own, i < n → OwnOff own (news.map (·.1)) → nx.map (·.1) = news.map (·.1) → J i nx → Fr h₀ env.locals h (fun y => if y = x then some (.int (i : Int) t) else if stored.contains y then u y else m₀ y) → News h₀ env.locals h (nx ++ own) →
      wpAny (model prog w) A (execs body env) (InvPostN h₀ env.locals (TurnJ x stored m₀ (J (i + 1))) own (news.map (·.1)) { s with heap := h, toks := tk } Q) E { s with heap := h, toks := tk })
    (done : ∀ (u : Str → Option Value) nx h tk, J n nx → Fr h₀ env.locals h (fun y => if y = x then u y else if stored.contains y then u y else m₀ y) → News h₀ env.locals h nx → Q .next { s with heap := h, toks := tk }) :
    wpAny (model prog w) A (pyIter (.ref r)) (fun it s₂ => LoopAtV prog w A h₀ env x body Q E it s₂) E s := by
  refine wpAny_pyIter_range hr (small_one (by omega) (by omega) (by omega) (by omega)) ?_
  have hsz : Builtin.Range.rangeSize 0 (n : Int) 1 = (n : Int) := by
    have := rangeSize_nat 0 (n : Int)
    rw [this]; omega
  refine for_walk stored J (LCg.range_walks hh 0 n) ?_ ?_ ?_ ?_ (by show IsRangeIter _ _ _ _ _; rw [hsz]; simpa using Heap.get?_push_size _ rfl) (F.push _) (fun p hp => ⟨Heap.get?_push_of_some _ (N p hp).1, (N p hp).2⟩) hj ?_ done
  · intro hm
    exact absurd F.ns.lt ((List.mem_singleton.mp hm) ▸ Nat.lt_irrefl _)
  · intro b hb
    rw [List.mem_singleton.mp hb]
    exact next_is_new F
  · intro p hp hI
    exact absurd (Heap.lt_size (N p hp).1) ((List.mem_singleton.mp hI) ▸ Nat.lt_irrefl _)
  · intro p hp hI
    exact absurd (Heap.lt_size (N p hp).1) ((List.mem_singleton.mp hI) ▸ Nat.lt_irrefl _)
  · rintro i v u nx h tk own hi ⟨t, rfl⟩ ho ha hJ F₁ N₁
    rw [Int.zero_add] at F₁
    exact turn i t u nx h tk own hi ho ha hJ F₁ N₁

theorem for_list {l : Addr} {vs : List Value} {m₀ : Str → Option Value} {news : List (Addr × Obj)} (stored : List Str) (J : Nat → List (Addr × Obj) → Prop)
    (hh : A.handled = none) (hl : h₀.IsList l vs.toArray) (F : Fr h₀ env.locals s.heap m₀) (N : News h₀ env.locals s.heap news) (hj : J 0 news)
    (turn : ∀ i v (u : Str → Option Value) nx h tk own, vs[i]? = some v → OwnOff own (news.map (·.1)) → nx.map (·.1) = news.map (·.1) → J i nx → Fr h₀ env.locals h (fun y => if y = x then some v else if stored.contains y then u y else m₀ y) → News h₀ env.locals h (nx ++ own) →
      wpAny (model prog w) A (execs body env) (InvPostN h₀ env.locals (TurnJ x stored m₀ (J (i + 1))) own (news.map (·.1)) { s with heap := h, toks := tk } Q) E { s with heap := h, toks := tk })
    (done : ∀ (u : Str → Option Value) nx h tk, J vs.length nx → Fr h₀ env.locals h (fun y => if y = x then u y else if stored.contains y then u y else m₀ y) → News h₀ env.locals h nx → Q .next { s with heap := h, toks := tk }) :
    wpAny (model prog w) A (pyIter (.ref l)) (fun it s₂ => LoopAtV prog w A h₀ env x body Q E it s₂) E s := by
  have hls : s.heap.IsList l vs.toArray := hl.at fun o e => F.keep l o e
  obtain ⟨ol, hol, _⟩ := id hl
  have hlt : l < h₀.objs.size := Heap.lt_size hol
  have hne : l ≠ s.heap.objs.size := Nat.ne_of_lt (Nat.lt_trans (Nat.lt_of_lt_of_le hlt F.above) F.ns.lt)
  refine wpAny_pyIter_list hls ?_
  refine for_walk stored J (Walks.list (prog := prog) (w := w) hh s.heap.objs.size l hne vs.toArray) ?_ ?_ ?_ ?_ ⟨⟨_, Heap.get?_push_size _ rfl, rfl, rfl⟩, hls.at fun o e => Heap.get?_push_of_some _ e⟩ (F.push _) (fun p hp => ⟨Heap.get?_push_of_some _ (N p hp).1, (N p hp).2⟩) hj ?_ ?_
  · intro hm
    rcases List.mem_cons.mp hm with e | hm
    · exact absurd F.ns.lt (e ▸ Nat.lt_irrefl _)
    · exact absurd (Nat.lt_of_lt_of_le hlt F.above) ((List.mem_singleton.mp hm) ▸ Nat.lt_irrefl _)
  · intro b hb
    rw [List.mem_singleton.mp hb]
    exact next_is_new F
  · intro p hp hI
    exact absurd (Heap.lt_size (N p hp).1) ((List.mem_singleton.mp hI) ▸ Nat.lt_irrefl _)
  · intro p hp hI
    rcases List.mem_cons.mp hI with e | hI
    · exact absurd (Heap.lt_size (N p hp).1) (by rw [e]; exact Nat.lt_irrefl _)
    · have h3 := (N p hp).2.2
      rw [List.mem_singleton.mp hI, hol] at h3
      cases h3
  · rintro i v u nx h tk own hi hP ho ha hJ F₁ N₁
    exact turn i v u nx h tk own (by simpa using hP) ho ha hJ F₁ N₁
  · intro u nx h tk hJ F₁ N₁
    rw [List.size_toArray] at hJ
    exact done u nx h tk hJ F₁ N₁

/-- the word that a loop is walked by; what is left for later -/
structure JMk (stored : List Str) (J : Nat → List (Addr × Obj) → Prop) : Prop where
def Later (P : Prop) : Prop := P

inductive TodoR (prog : Program) (w : World) (A : Around) (E : Value → Shared → Prop) (s : Shared) (env : Env) (h₀ : Heap) (x : Str) (body : List Stmt) (Q : Flow → Shared → Prop) (n : Nat) (m₀ : Str → Option Value) (news : List (Addr × Obj)) (stored : List Str) (J : Nat → List (Addr × Obj) → Prop) : Prop
  | mk (news₀ : List (Addr × Obj)) (sub : ∀ p ∈ news₀, p ∈ news) (j0 : J 0 news₀)
    (turn : ∀ i t (u : Str → Option Value) nx h tk own, i < n → OwnOff own (news₀.map (·.1)) → nx.map (·.1) = news₀.map (·.1) → J i nx → Fr h₀ env.locals h (fun y => if y = x then some (.int (i : Int) t) else if stored.contains y then u y else m₀ y) → News h₀ env.locals h (nx ++ own) →
      wpAny (model prog w) A (execs body env) (InvPostN h₀ env.locals (TurnJ x stored m₀ (J (i + 1))) own (news₀.map (·.1)) { s with heap := h, toks := tk } Q) E { s with heap := h, toks := tk })
    (done : ∀ (u : Str → Option Value) nx h tk, J n nx → Fr h₀ env.locals h (fun y => if y = x then u y else if stored.contains y then u y else m₀ y) → News h₀ env.locals h nx → Q .next { s with heap := h, toks := tk }) : TodoR prog w A E s env h₀ x body Q n m₀ news stored J
inductive TodoL (prog : Program) (w : World) (A : Around) (E : Value → Shared → Prop) (s : Shared) (env : Env) (h₀ : Heap) (x : Str) (body : List Stmt) (Q : Flow → Shared → Prop) (vs : List Value) (m₀ : Str → Option Value) (news : List (Addr × Obj)) (stored : List Str) (J : Nat → List (Addr × Obj) → Prop) : Prop
  | mk (news₀ : List (Addr × Obj)) (sub : ∀ p ∈ news₀, p ∈ news) (j0 : J 0 news₀)
    (turn : ∀ i v (u : Str → Option Value) nx h tk own, vs[i]? = some v → OwnOff own (news₀.map (·.1)) → nx.map (·.1) = news₀.map (·.1) → J i nx → Fr h₀ env.locals h (fun y => if y = x then some v else if stored.contains y then u y else m₀ y) → News h₀ env.locals h (nx ++ own) →
      wpAny (model prog w) A (execs body env) (InvPostN h₀ env.locals (TurnJ x stored m₀ (J (i + 1))) own (news₀.map (·.1)) { s with heap := h, toks := tk } Q) E { s with heap := h, toks := tk })
    (done : ∀ (u : Str → Option Value) nx h tk, J vs.length nx → Fr h₀ env.locals h (fun y => if y = x then u y else if stored.contains y then u y else m₀ y) → News h₀ env.locals h nx → Q .next { s with heap := h, toks := tk }) : TodoL prog w A E s env h₀ x body Q vs m₀ news stored J
theorem for_range_jm {r : Addr} {t₀ u₀ v₀ : Tok} {n : Nat} {m₀ : Str → Option Value} {news : List (Addr × Obj)} {stored : List Str} {J : Nat → List (Addr × Obj) → Prop} (_ : JMk stored J)
    (hh : A.handled = none) (hr : IsRange s.heap r 0 (n : Int) 1 t₀ u₀ v₀) (hn : n < 1000) (F : Fr h₀ env.locals s.heap m₀) (N : News h₀ env.locals s.heap news)
    (all : TodoR prog w A E s env h₀ x body Q n m₀ news stored J) :
    wpAny (model prog w) A (pyIter (.ref r)) (fun it s₂ => LoopAtV prog w A h₀ env x body Q E it s₂) E s :=
  let ⟨_, hs, hj, turn, done⟩ := all
  for_range stored J hh hr hn F (fun p hp => N p (hs p hp)) hj turn done
theorem for_list_jm {l : Addr} {vs : List Value} {m₀ : Str → Option Value} {news : List (Addr × Obj)} {stored : List Str} {J : Nat → List (Addr × Obj) → Prop} (_ : JMk stored J)
    (hh : A.handled = none) (hl : h₀.IsList l vs.toArray) (F : Fr h₀ env.locals s.heap m₀) (N : News h₀ env.locals s.heap news)
    (all : TodoL prog w A E s env h₀ x body Q vs m₀ news stored J) :
    wpAny (model prog w) A (pyIter (.ref l)) (fun it s₂ => LoopAtV prog w A h₀ env x body Q E it s₂) E s :=
  let ⟨_, hs, hj, turn, done⟩ := all
  for_list stored J hh hl F (fun p hp => N p (hs p hp)) hj turn done

theorem turn_end {L : Addr} {m' : Str → Option Value} {stored : List Str} {m₀ : Str → Option Value} {J : List (Addr × Obj) → Prop} {own news' nx : List (Addr × Obj)} {adr : List Addr} {s₁ : Shared} {h' : Heap} {tk : Nat} (F : Fr h₀ L h' m') (N : News h₀ L h' news')
    (hj : J nx) (ha : nx.map (·.1) = adr) (hn : ∀ p ∈ nx ++ own, p ∈ news') (hm : ∀ y, y ≠ x → stored.contains y = false → m' y = m₀ y) : InvPostN h₀ L (TurnJ x stored m₀ J) own adr s₁ Q .next { s₁ with heap := h', toks := tk } :=
  ⟨h', tk, m', news', nx, rfl, F, N, fun p hp => hn p (List.mem_append_left _ hp), fun p hp => hn p (List.mem_append_right _ hp), ha, hj, hm⟩
end
end
section
open PySem PySem.W PyProof.Rows PySem.Calls
def Tg.cl : Tg → Cl
  | .no => .no
  | .x => .x
  | .nm => .nm
  | _ => .ot
inductive TagsAre : List Value → List Tg → Prop
  | nil : TagsAre [] []
  | cons {v : Value} {g : Tg} {vs : List Value} {gs : List Tg} : OptTxt g.txt v → TagsAre vs gs → TagsAre (v :: vs) (g :: gs)
theorem TagsAre.len {vs : List Value} {gs : List Tg} (h : TagsAre vs gs) : vs.length = gs.length := by
  induction h with
  | nil => rfl
  | cons _ _ ih => rw [List.length_cons, List.length_cons, ih]
theorem TagsAre.get {vs : List Value} {gs : List Tg} (h : TagsAre vs gs) : ∀ {i : Nat} {g : Tg}, gs[i]? = some g → ∃ v, vs[i]? = some v ∧ OptTxt g.txt v := by
  induction h with
  | nil => intro i g e; rw [List.getElem?_nil] at e; cases e
  | @cons v _ _ _ a _ ih =>
    intro i g e
    cases i with
    | zero => rw [List.getElem?_cons_zero] at e; cases e; exact ⟨v, List.getElem?_cons_zero, a⟩
    | succ i => rw [List.getElem?_cons_succ] at e; obtain ⟨u, e1, e2⟩ := ih e; exact ⟨u, by rw [List.getElem?_cons_succ]; exact e1, e2⟩

def MatIn (P : Params) (h : Heap) (ok : Addr → Prop) (x fo tg us pl : Addr) : Prop :=
  ∃ dx t1 t2 t3 t4, At h ok x (instObj 160 dx) ∧ At h ok dx (matD P (.ref fo) (.ref tg) (.ref us) (.ref pl) t1 t2 t3 t4)
def FormIn (h : Heap) (ok : Addr → Prop) (fo : Addr) : Prop := ∃ t1 t2, LstAt h ok fo [.str (Str.ofString "x") t1, .str (Str.ofString "name") t2]
def TagsIn (h : Heap) (ok : Addr → Prop) (tg : Addr) (gs : List Tg) : Prop := ∃ tvs, LstAt h ok tg tvs ∧ TagsAre tvs gs

def MutJ (w : World) (us pl : Addr) (st : St) (nx : List (Addr × Obj)) : Prop :=
  ∃ uvs o n1, nx = [(pl, o), (us, listOf uvs.toArray n1)] ∧ IntsAre uvs st.1 ∧ DctIs w pl o st.2

/-! the table of places -/
theorem lookup_tab {c : Cl} (hc : isNm c = true) : ∀ {D : List (Cl × Nat)}, (D.all fun p => isNm p.1) = true → PySem.Spec.lookup (.str (keyOf c)) (tabOf D) = (D.find? fun p => p.1 == c).map fun p => .int (p.2 : Int)
  | [], _ => rfl
  | (k, v) :: r, h => by
    have h1 : isNm k = true := (Bool.and_eq_true_iff.mp h).1
    have ih := lookup_tab hc (D := r) (Bool.and_eq_true_iff.mp h).2
    show (if PySem.Spec.same (.str (keyOf k)) (.str (keyOf c)) then some (PyData.int (v : Int)) else PySem.Spec.lookup (.str (keyOf c)) (tabOf r)) = _
    have e : PySem.Spec.same (.str (keyOf k)) (.str (keyOf c)) = (k == c) := by
      cases k <;> cases c <;> first | (exact absurd h1 (by decide)) | (exact absurd hc (by decide)) | decide +kernel
    rw [e, ih, List.find?_cons]
    show (if (k == c) = true then _ else _) = _
    cases hkc : (k == c) <;> simp
theorem keyed_tab {c : Cl} (hc : isNm c = true) {D : List (Cl × Nat)} (hD : (D.all fun p => isNm p.1) = true) : (PySem.Spec.lookup (.str (keyOf c)) (tabOf D)).isSome = keyed D c := by
  rw [lookup_tab hc hD, Option.isSome_map, List.isSome_find?]
  rfl
theorem exStep_nm {cs : List Cl} {c : Cl} (hc : isNm c = true) {st : St} (h : (st.2.all fun p => isNm p.1) = true) (j : Nat) : ((exStep cs c st j).2.all fun p => isNm p.1) = true := by
  unfold exStep
  split
  · rw [List.all_append, h]; simp [hc]
  · exact h
theorem exRun_succ (cs : List Cl) (c : Cl) (st : St) (k : Nat) : exRun cs c st (k + 1) = exStep cs c (exRun cs c st k) k := by
  unfold exRun
  rw [List.range_succ, List.foldl_append]
  rfl
theorem exRun_nm {cs : List Cl} {c : Cl} (hc : isNm c = true) {st : St} (h : (st.2.all fun p => isNm p.1) = true) : ∀ k, ((exRun cs c st k).2.all fun p => isNm p.1) = true
  | 0 => h
  | k + 1 => by rw [exRun_succ]; exact exStep_nm hc (exRun_nm hc h k) k
theorem exStep_len {cs : List Cl} {c : Cl} {st : St} (j : Nat) : (exStep cs c st j).1.length = st.1.length := by
  unfold exStep
  split
  · exact List.length_set ..
  · rfl
theorem exRun_len {cs : List Cl} {c : Cl} {st : St} : ∀ k, (exRun cs c st k).1.length = st.1.length
  | 0 => rfl
  | k + 1 => by rw [exRun_succ, exStep_len, exRun_len k]
theorem exStep_size {cs : List Cl} {c : Cl} {st : St} (j : Nat) : (exStep cs c st j).2.length ≤ st.2.length + 1 := by
  unfold exStep
  split
  · rw [List.length_append]; simp
  · omega
theorem exRun_size {cs : List Cl} {c : Cl} {st : St} : ∀ k, (exRun cs c st k).2.length ≤ st.2.length + k
  | 0 => Nat.le_refl _
  | k + 1 => by
    rw [exRun_succ]
    have h1 := exStep_size (cs := cs) (c := c) (st := exRun cs c st k) k
    have h2 := exRun_size (cs := cs) (c := c) (st := st) k
    omega
theorem exN_succ {cs : List Cl} {i : Nat} {c : Cl} (h : cnames[i]? = some c) : exN cs (i + 1) = exRun cs c (exN cs i) cs.length := by
  unfold exN
  rw [List.take_add_one, h, List.foldl_append]
  rfl
theorem cnames_nm {i : Nat} {c : Cl} (h : cnames[i]? = some c) : isNm c = true ∧ i < 2 := by
  have h2 : i < 2 := (List.getElem?_eq_some_iff.mp h).1
  have : i = 0 ∨ i = 1 := by omega
  rcases this with rfl | rfl <;> (cases h; exact ⟨rfl, h2⟩)
theorem exN_all {cs : List Cl} {i : Nat} (hi : i ≤ 2) : ((exN cs i).2.all fun p => isNm p.1) = true ∧ (exN cs i).1.length = cs.length ∧ (exN cs i).2.length ≤ i * cs.length := by
  have h0 : ((exN cs 0).2.all fun p => isNm p.1) = true ∧ (exN cs 0).1.length = cs.length ∧ (exN cs 0).2.length ≤ 0 * cs.length := ⟨rfl, List.length_replicate .., Nat.zero_le _⟩
  have up : ∀ {i : Nat} {c : Cl}, cnames[i]? = some c → ((exN cs i).2.all fun p => isNm p.1) = true ∧ (exN cs i).1.length = cs.length ∧ (exN cs i).2.length ≤ i * cs.length → ((exN cs (i + 1)).2.all fun p => isNm p.1) = true ∧ (exN cs (i + 1)).1.length = cs.length ∧ (exN cs (i + 1)).2.length ≤ (i + 1) * cs.length := fun {i c} h ⟨a, b, d⟩ => by
    rw [exN_succ h]
    refine ⟨exRun_nm (cnames_nm h).1 a _, (exRun_len _).trans b, ?_⟩
    have := exRun_size (cs := cs) (c := c) (st := exN cs i) cs.length
    rw [Nat.add_mul]; omega
  have : i = 0 ∨ i = 1 ∨ i = 2 := by omega
  rcases this with rfl | rfl | rfl
  · exact h0
  · exact up (i := 0) rfl h0
  · exact up (i := 1) rfl (up (i := 0) rfl h0)

theorem check_key {cs : List Cl} (h5 : cs.length ≤ 5) (hv : valid cs = true) {i j : Nat} {c : Cl} (hc : cnames[i]? = some c) (hj : j < cs.length) (h1 : cs.getD j .ot = c) (h2 : (exRun cs c (exN cs i) j).1.getD j 0 = 0) : keyed (exRun cs c (exN cs i) j).2 c = false := by
  have h := check_all h5
  have hi := (cnames_nm hc).2
  have hc' : cnames.getD i .ot = c := by rw [List.getD_eq_getElem?_getD, hc]; rfl
  unfold check at h
  rw [hv] at h
  simp only [Bool.not_true, Bool.false_or, Bool.and_eq_true, List.all_eq_true] at h
  have h3 := h.1.1.2 i (by rcases (show i = 0 ∨ i = 1 by omega) with rfl | rfl <;> simp) j (List.mem_range.mpr hj)
  rw [hc', h1, h2] at h3
  cases hk : keyed (exRun cs c (exN cs i) j).2 c with
  | false => rfl
  | true => rw [hk] at h3; simp at h3

theorem turn_endN {h₀ : Heap} {x : Str} {L : Addr} {m' : Str → Option Value} {stored : List Str} {m₀ : Str → Option Value} {J : List (Addr × Obj) → Prop} {own news' nx : List (Addr × Obj)} {adr : List Addr} {s₁ : Shared} {h' : Heap} {tk : Nat} (F : Fr h₀ L h' m') (N : News h₀ L h' news')
    (hj : J nx) (ha : nx.map (·.1) = adr) (hn : ∀ p ∈ nx ++ own, p ∈ news') (hm : ∀ y, y ≠ x → stored.contains y = false → m' y = m₀ y) : InvEndN h₀ L (TurnJ x stored m₀ J) own adr s₁ { s₁ with heap := h', toks := tk } :=
  ⟨h', tk, m', news', nx, rfl, F, N, fun p hp => hn p (List.mem_append_left _ hp), fun p hp => hn p (List.mem_append_right _ hp), ha, hj, hm⟩
theorem getD_cl {gs : List Tg} {j : Nat} {g : Tg} (hg : gs[j]? = some g) : (gs.map Tg.cl).getD j .ot = g.cl := by
  rw [List.getD_eq_getElem?_getD, List.getElem?_map, hg]; rfl
theorem ex_hit {gs : List Tg} {st : St} {c : Cl} {j : Nat} {g : Tg} (hg : gs[j]? = some g) (h1 : g.cl = c) (h2 : (exRun (gs.map Tg.cl) c st j).1.getD ((j : Int)).toNat 0 = 0) :
    exRun (gs.map Tg.cl) c st (j + 1) = ((exRun (gs.map Tg.cl) c st j).1.set j 2, (exRun (gs.map Tg.cl) c st j).2 ++ [(c, j)]) := by
  rw [exRun_succ]
  unfold exStep
  exact if_pos ⟨(getD_cl hg).trans h1, h2⟩
theorem ex_miss1 {gs : List Tg} {st : St} {c : Cl} {j : Nat} {g : Tg} (hg : gs[j]? = some g) (h1 : ¬ g.cl = c) :
    exRun (gs.map Tg.cl) c st (j + 1) = exRun (gs.map Tg.cl) c st j := by
  rw [exRun_succ]
  unfold exStep
  exact if_neg fun h => h1 ((getD_cl hg).symm.trans h.1)
theorem ex_miss2 {gs : List Tg} {st : St} {c : Cl} {j : Nat} (h2 : (exRun (gs.map Tg.cl) c st j).1.getD ((j : Int)).toNat 0 ≠ 0) :
    exRun (gs.map Tg.cl) c st (j + 1) = exRun (gs.map Tg.cl) c st j := by
  rw [exRun_succ]
  unfold exStep
  exact if_neg fun h => h2 h.2
section
variable {w : World} {mean : ExcName → Option Value} {mg mb : Str → Option Value} {dp un : Nat} {gd : Option (List Code)} {cn : Str} {cs : Scope} {a : Addr} {ccd : Value} {cl : List (Str × Addr)} {outer : List Env} {A₀ : Around} {base h₀ : Heap} {L : Addr} {m : Str → Option Value} {s : Shared} {Q E : Value → Shared → Prop}

theorem tag_eq {A : Around} {g : Tg} {tv : Value} {c : Cl} {t : Tok} (hg : OptTxt g.txt tv) (hc : isNm c = true) (h : Q (.bool (decide (g.cl = c))) s) :
    wpAny (model PySem.Challenge.rw_pq1402_01.row.prog w) A (compareOp .Eq tv (.str (keyOf c) t)) Q E s := by
  cases g with
  | no =>
    obtain rfl : tv = .none := hg
    refine EqNone.eq_none_str ?_
    rw [show (decide (Tg.cl .no = c)) = false from by cases c <;> first | rfl | (exact absurd hc (by decide))] at h
    exact h
  | _ =>
    obtain ⟨u, rfl⟩ := hg
    refine PyProof.Rows.eq_str ?_
    cases c <;> first | (exact absurd hc (by decide)) | skip
    all_goals (
      refine Eq.mp (congrArg (fun b => Q (.bool b) s) ?_) h
      decide +kernel)
theorem ne_fact {A : Around} {x y : Str} {t u : Tok} {b : Bool} (e : (x != y) = b) (h : Q (.bool b) s) : wpAny (model PySem.Challenge.rw_pq1402_01.row.prog w) A (compareOp .NotEq (.str x t) (.str y u)) Q E s :=
  PyProof.Rows.ne_str (by rw [e]; exact h)
theorem in_fact {A : Around} {x : Str} {t : Tok} {d : Addr} {D : List (PyData × PyData)} {b : Bool} (T : StrTab PySem.Challenge.rw_pq1402_01.row.prog w s.heap d D) (e : (PySem.Spec.lookup (.str x) D).isSome = b) (h : Q (.bool b) { s with toks := s.toks + 1 }) :
    wpAny (model PySem.Challenge.rw_pq1402_01.row.prog w) A (compareOp .In (.str x t) (.ref d)) Q E s := in_strTab T (by rw [e]; exact h)
theorem set_place {A : Around} {Q : Unit → Shared → Prop} {news : List (Addr × Obj)} {g : Obj → List (Addr × Obj)} {pl : Addr} {o : Obj} {kvs : List (Str × Value)} {D : List (Cl × Nat)} {c : Cl} {j : Nat} {t tj : Tok} (F : Fr h₀ L s.heap m) (N : News h₀ L s.heap news) (U : UpdF pl o news g)
    (hd : o.IsDictOf (strKind PySem.Challenge.rw_pq1402_01.row.prog w) kvs) (hf : PyProof.V.FlatPairs PyData.str kvs (tabOf D)) (hk : (PySem.Spec.lookup (.str (keyOf c)) (tabOf D)).isSome = false) (hl : D.length < 1000)
    (h : ∀ h' o' kvs', Fr h₀ L h' m → News h₀ L h' (g o') → o'.IsDictOf (strKind PySem.Challenge.rw_pq1402_01.row.prog w) kvs' → PyProof.V.FlatPairs PyData.str kvs' (tabOf (D ++ [(c, j)])) → Q () { s with heap := h', toks := s.toks + 1 }) :
    wpAny (model PySem.Challenge.rw_pq1402_01.row.prog w) A (setItem (.ref pl) (.str (keyOf c) t) (.int (j : Int) tj)) Q E s := by
  refine setItem_K PyProof.V.same_str (strKind_is _ _ _ _) (PyProof.V.Flat.int _ _) F N U hd hf (fun h' o' F' N' hd' hf' => h h' o' _ F' N' hd' ?_) ?_
  · rw [PyProof.Rows.putD_absent (by cases e : PySem.Spec.lookup (.str (keyOf c)) (tabOf D) with | none => rfl | some _ => rw [e] at hk; cases hk)] at hf'
    rw [show tabOf (D ++ [(c, j)]) = tabOf D ++ [(PyData.str (keyOf c), PyData.int (j : Int))] from by simp [tabOf]]
    exact hf'
  · rw [sizeLine_eq]; simp [tabOf]; omega
theorem set_used {A : Around} {Q : Unit → Shared → Prop} {news : List (Addr × Obj)} {g : Obj → List (Addr × Obj)} {us : Addr} {n1 : Nat} {vs : List Value} {ns : List Int} {j : Nat} {x : Int} {tj tx : Tok} (F : Fr h₀ L s.heap m) (N : News h₀ L s.heap news) (U : UpdF us (listOf vs.toArray n1) news g)
    (hi : IntsAre vs ns) (hj : j < ns.length) (hl : ns.length < 1000) (h : ∀ h' vs', Fr h₀ L h' m → News h₀ L h' (g (listOf vs'.toArray n1)) → IntsAre vs' (ns.set j x) → Q () { s with heap := h' }) :
    wpAny (model PySem.Challenge.rw_pq1402_01.row.prog w) A (setItem (.ref us) (.int (j : Int) tj) (.int x tx)) Q E s := by
  obtain ⟨pre, post, rfl, hg, a, b⟩ := U.split
  have z := N (us, listOf vs.toArray n1) (List.mem_append.mpr (.inr (.head _)))
  have hv : vs.length = ns.length := hi.length
  have hs : vs.toArray.size = ns.length := by rw [List.size_toArray]; exact hv
  refine ki_setAt z.1 (by omega) (by omega) (by omega) (h _ (vs.set j (.int x tx)) (F.change (Heap.SameBut.update ..) z.2.1 z.2.2) (hg _ ▸ ki_turn _ N a b ?_ ?_) (ints_set hi _))
  · show vs.toArray.setIfInBounds (j : Int).toNat (.int x tx) = (vs.set j (.int x tx)).toArray
    apply Array.toList_inj.mp
    simp
  · simp
theorem ex_nokey {gs : List Tg} {c : Cl} {i j : Nat} {g : Tg} (hn : gs.length ≤ 5) (hv : valid (gs.map Tg.cl) = true) (hc : cnames[i]? = some c) (hg : gs[j]? = some g) (h1 : g.cl = c)
    (h2 : (exRun (gs.map Tg.cl) c (exN (gs.map Tg.cl) i) j).1.getD ((j : Int)).toNat 0 = 0) : (PySem.Spec.lookup (.str (keyOf c)) (tabOf (exRun (gs.map Tg.cl) c (exN (gs.map Tg.cl) i) j).2)).isSome = false := by
  have hj : j < gs.length := (List.getElem?_eq_some_iff.mp hg).1
  have hcn := cnames_nm hc
  rw [keyed_tab hcn.1 (exRun_nm hcn.1 (exN_all (by omega)).1 _)]
  refine check_key (by simpa using hn) hv hc (by simpa using hj) ?_ h2
  rw [List.getD_eq_getElem?_getD, List.getElem?_map, hg]
  exact h1




set_option maxRecDepth 100000 in
set_option maxHeartbeats 8000000 in
theorem exact_call (C : Cx w mean mg mb A₀ base outer h₀ L s.heap m) (hk : cs.kind = .function) (hdp : dp + 15 < recursionLimit) (hun : un + 200 < cLine)
    {ok : Addr → Prop} {x fo tg us pl : Addr} {gs : List Tg} {uvs : List Value} {o : Obj} {n1 : Nat} (hM : MatIn w.params s.heap ok x fo tg us pl) (hF : FormIn s.heap ok fo) (hT : TagsIn s.heap ok tg gs) (hok : ∀ b, ok b → b ≠ pl ∧ b ≠ us) (hne : us ≠ pl)
    (N : News h₀ L s.heap [(pl, o), (us, listOf uvs.toArray n1)]) (hU : IntsAre uvs (List.replicate gs.length 0)) (hD : DctIs w pl o []) (hn : gs.length ≤ 5) (hv : valid (gs.map Tg.cl) = true)
    (ret : ∀ h' tk' uvs' o' n1', GSub s.heap h' [pl, us] → h'.get? pl = some o' → h'.get? us = some (listOf uvs'.toArray n1') → IntsAre uvs' (exN (gs.map Tg.cl) 2).1 → DctIs w pl o' (exN (gs.map Tg.cl) 2).2 → Q .none { s with heap := h', toks := tk' }) :
   wpAny (model PySem.Challenge.rw_pq1402_01.row.prog w) (ktrTop dp un gd cn cs L a ccd cl outer) (call (.ref 124) [.ref x]) Q E s := by
  w_top off
  k_with_none
  (k_with "LeaveK" => (refine' leaveK_ (by k_asm) (by k_asm) ?_; intro _ _; dsimp only))
  (k_with "LeaveK none" => (refine' leaveK_ (by k_asm) (by k_asm) ?_; intro _ _; dsimp only))
  (k_with "call builtin:len" => (k_here; k_dflt (refine' len_sym (by first | is_list) (by assumption) (by omega) ?_)))
  (k_with "call builtin:len cons nil" => (k_here; k_dflt (refine' len_sym (by first | is_list) (by assumption) (by omega) ?_)))
  (k_with "subscriptTail" => (k_here; (with_reducible show wpAny _ _ (subscriptTail _ _ (Value.ref _) (Value.int _ _)) _ _ _); k_dflt (refine' item_at (by is_list) (by assumption) (by omega) ?_)))
  (k_with "subscriptTail Attribute Name Name ref int" => (k_here; (with_reducible show wpAny _ _ (subscriptTail _ _ (Value.ref _) (Value.int _ _)) _ _ _); k_dflt (refine' item_at (by is_list) (by assumption) (by omega) ?_)))
  (k_with "compareOp NotEq str str" => (k_here; k_dflt (refine' ne_fact (by assumption) ?_)))
  (k_with "compareOp Eq" => (k_here; k_dflt (refine' tag_eq (by assumption) (by assumption) ?_)))
  (k_with "compareOp Eq str" => (k_here; k_dflt (refine' tag_eq (by assumption) (by assumption) ?_)))
  (k_with "compareOp In str ref" => (k_here; k_dflt (refine' in_fact (by k_tabat) (by exact ex_nokey (by assumption) (by assumption) (by assumption) (by assumption) (by assumption) (by assumption)) ?_)))
  (k_with "setItem ref str" => (k_here; k_dflt (refine' set_place (by k_asm) (by k_asm) (by k_updF) (by assumption) (by assumption) (by exact ex_nokey (by assumption) (by assumption) (by assumption) (by assumption) (by assumption) (by assumption)) (by omega) ?_); intro _ _ _ _ _ _ _))
  (k_with "setItem ref str int" => (k_here; k_dflt (refine' set_place (by k_asm) (by k_asm) (by k_updF) (by assumption) (by assumption) (by exact ex_nokey (by assumption) (by assumption) (by assumption) (by assumption) (by assumption) (by assumption)) (by omega) ?_); intro _ _ _ _ _ _ _))
  (k_with "setItem ref int" => (k_here; k_dflt (refine' set_used (by k_asm) (by k_asm) (by k_updF) (by assumption) (by omega) (by omega) ?_); intro _ _ _ _ _))
  (k_with "setItem ref int int" => (k_here; k_dflt (refine' set_used (by k_asm) (by k_asm) (by k_updF) (by assumption) (by omega) (by omega) ?_); intro _ _ _ _ _))
  (k_with "pyIter ref" => (k_here; (rename JMk _ _ => jm'); (with_reducible show wpAny _ _ (pyIter (Value.ref _)) (fun it s₂ => LoopAtV _ _ _ _ _ _ _ _ _ it s₂) _ _); k_dflt (first | (refine' for_list_jm jm' (by exact rfl) (by assumption) (by k_asm) (by k_asm) ?_) | (refine' for_range_jm jm' (by exact rfl) (by assumption) (by omega) (by k_asm) (by k_asm) ?_))))
  obtain ⟨B, F, X, T⟩ := C
  revert X; k_fill; intro X
  refine wpAny_call ?_
  k_dflt (refine' code_defG ?k1 ?k2 ?k3 ?k4 ?k5 ?kA ?kF ?kK ?k6 ?k7 ?k8 ?k9 ?kB ?_ ?c2 ?c3 ?c4 ?c5; (case kA => exact rfl); (case kF => exact rfl); (case kK => assumption); (case k1 => k_asm); (case k2 => k_asm); (case k3 => k_asm); (case k4 => k_asm); (case k5 => k_asm); (case k6 => k_is); (case k7 => k_is); (case k8 => ktr_room); (case k9 => exact BindsTo.of_eq rfl); (case c5 => decide); (case kB => exact locs rfl); (case c2 => exact rfl); (case c3 => exact rfl); (case c4 => exact rfl); k_whole; intro g' L' h' FG' F' N' B' X' T' kG'; (try dsimp only); (try k_fold))
  have kG2 : GSub s.heap g' [pl, us] := kG'
  have up : ∀ b o, At s.heap ok b o → At g' ok b o := fun b o z => ⟨kG2 _ _ z.1 (by simpa using hok b z.2), z.2⟩
  show (let G := (_ : Prop); G); intro G
  obtain ⟨dx, t1, t2, t3, t4, hx, hdx⟩ := hM
  replace hx := (up _ _ hx).1
  replace hdx := (up _ _ hdx).1
  obtain ⟨f1, f2, hF⟩ := hF
  obtain ⟨nf, hF, _⟩ := hF.mono up
  replace hF := lst_base hF
  obtain ⟨tvs, hT, hta⟩ := hT
  obtain ⟨nt, hT, _⟩ := hT.mono up
  replace hT := lst_base hT
  unfold G; clear G
  have htl := hta.len
  have jm : JMk [Str.ofString "place"] (fun i => MutJ w us pl (exN (gs.map Tg.cl) i)) := ⟨⟩
  k_steps
  refine ⟨_, fun p hp => hp, ⟨uvs, o, n1, rfl, by simpa [exN] using hU, hD⟩, ?turn, ?done⟩
  case turn =>
    intro i v u nx h tk own hi ho ha hJ F1 N1
    show (let G := (_ : Prop); G); intro G
    obtain ⟨uvs, o, n1, rfl, hU, lo, kvs, hD, hf⟩ := hJ
    obtain ⟨c, t, hc, rfl⟩ : ∃ c t, cnames[i]? = some c ∧ v = .str (keyOf c) t := by
      have h2 : i < 2 := (List.getElem?_eq_some_iff.mp hi).1
      rcases (show i = 0 ∨ i = 1 by omega) with rfl | rfl
      · exact ⟨.x, f1, rfl, (Option.some.inj hi).symm⟩
      · exact ⟨.nm, f2, rfl, (Option.some.inj hi).symm⟩
    unfold G; clear G
    have hcn := cnames_nm hc
    have hcm := hcn.1
    have hdots : (keyOf c != Str.ofString "...") = true := by
      have := hcn.1
      cases c <;> first | (exact absurd this (by decide)) | decide +kernel
    rename JMk _ _ => jm0; clear jm0
    have jm : JMk [] (fun j nx => ∃ n0, nx = n0 ++ own ∧ MutJ w us pl (exRun (gs.map Tg.cl) c (exN (gs.map Tg.cl) i) j) n0) := ⟨⟩
    k_steps
    refine ⟨[(pl, o), (us, listOf uvs.toArray n1)] ++ own, ?sub, ⟨_, rfl, uvs, o, n1, rfl, hU, lo, kvs, hD, hf⟩, ?turn2, ?done2⟩
    case sub =>
      intro p hp
      simpa using hp
    case turn2 =>
      intro j tj u2 nx h2 tk2 own2 hj ho2 ha2 hJ F2 N2
      show (let G := (_ : Prop); G); intro G
      obtain ⟨n0, rfl, uvs, o, n1, rfl, hU, lo, kvs, hD, hf⟩ := hJ
      rw [List.append_assoc] at N2
      have hown : OwnOff (own ++ own2) [pl, us] := fun p hp b hb => by
        rcases List.mem_append.mp hp with h | h
        · exact ho p h b hb
        · exact ho2 p h b (by rw [List.map_append]; exact List.mem_append_left _ hb)
      generalize hown3 : own ++ own2 = own3 at N2 hown
      obtain ⟨g, hg⟩ : ∃ g, gs[j]? = some g := ⟨_, List.getElem?_eq_getElem hj⟩
      obtain ⟨tv, htv, hgt⟩ := hta.get hg
      unfold G; clear G
      have hdl : (exRun (gs.map Tg.cl) c (exN (gs.map Tg.cl) i) j).2.length < 1000 := by
        have h1 := exRun_size (cs := gs.map Tg.cl) (c := c) (st := exN (gs.map Tg.cl) i) j
        have h2 := (exN_all (cs := gs.map Tg.cl) (i := i) (by omega)).2.2
        rw [List.length_map] at h2
        have := Nat.mul_le_mul (show i ≤ 2 by omega) hn
        omega
      have hsl : (exRun (gs.map Tg.cl) c (exN (gs.map Tg.cl) i) j).1.length = gs.length := by rw [exRun_len, (exN_all (by omega)).2.1, List.length_map]
      dsimp only [List.cons_append, List.nil_append] at N2
      have hoU : ∀ p ∈ own3, p.1 ≠ us := fun p hp => hown p hp us (by simp)
      have hoP : ∀ p ∈ own3, p.1 ≠ pl := fun p hp => hown p hp pl (by simp)
      have hne' : pl ≠ us := hne.symm
      k_steps
      · rename_i t5 a5 tk5 tk6 h5 o5 kvs5 F5 N5 hd5 hf5 h6 uvs6 F6 N6 hU6
        refine turn_endN (nx := [(pl, o5), (us, listOf uvs6.toArray n1)] ++ own) F6 N6 ⟨_, rfl, _, _, _, rfl, ?_, lo, _, hd5, ?_⟩ ha2 ?_ ?_
        · rw [ex_hit hg (by assumption) (by assumption)]; exact hU6
        · rw [ex_hit hg (by assumption) (by assumption)]; exact hf5
        · intro p hp; rw [← hown3]; simpa using hp
        · intro y h1 _; exact if_neg h1
      · refine turn_endN (nx := [(pl, o), (us, listOf uvs.toArray n1)] ++ own) F2 N2 ⟨_, rfl, uvs, o, n1, rfl, ?_, lo, kvs, hD, ?_⟩ ha2 ?_ ?_
        · rw [ex_miss2 (by assumption)]; exact hU
        · rw [ex_miss2 (by assumption)]; exact hf
        · intro p hp; rw [← hown3]; simpa using hp
        · intro y h1 _; exact if_neg h1
      · refine turn_endN (nx := [(pl, o), (us, listOf uvs.toArray n1)] ++ own) F2 N2 ⟨_, rfl, uvs, o, n1, rfl, ?_, lo, kvs, hD, ?_⟩ ha2 ?_ ?_
        · rw [ex_miss1 hg (by assumption)]; exact hU
        · rw [ex_miss1 hg (by assumption)]; exact hf
        · intro p hp; rw [← hown3]; simpa using hp
        · intro y h1 _; exact if_neg h1
    case done2 =>
      intro u3 nx h3 tk3 hJ F3 N3
      show (let G := (_ : Prop); G); intro G
      obtain ⟨n0, rfl, uvs, o, n1, rfl, hU, lo, kvs, hD, hf⟩ := hJ
      unfold G; clear G
      k_steps
      have hes : exN (gs.map Tg.cl) (i + 1) = exRun (gs.map Tg.cl) c (exN (gs.map Tg.cl) i) gs.length := by rw [exN_succ hc, List.length_map]
      refine turn_endN (nx := [(pl, o), (us, listOf uvs.toArray n1)]) F3 N3 ⟨uvs, o, n1, rfl, ?_, lo, kvs, hD, ?_⟩ ha ?_ ?_
      · rw [hes]; exact hU
      · rw [hes]; exact hf
      · exact fun p hp => hp
      · intro y h1 h2
        have h3 : y ≠ Str.ofString "place" := by
          intro h3; subst h3; exact absurd h2 (by decide +kernel)
        exact (if_neg h3).trans ((if_neg h1).trans (if_neg (by rw [h2]; decide)))
  case done =>
    intro u3 nx h3 tk3 hJ F3 N3
    show (let G := (_ : Prop); G); intro G
    obtain ⟨uvs, o, n1, rfl, hU, lo, kvs, hD, hf⟩ := hJ
    unfold G; clear G
    k_steps
    rename_i kF kN
    refine ret _ _ uvs o n1 (gsub_back kG2 F3) (kN _ (.head _)).1 (kN _ (.tail _ (.head _))).1 hU ⟨lo, kvs, hD, hf⟩
end
end
section
open PySem PySem.W PyProof.Rows PySem.Calls
theorem ne_two {us : List Int} {j : Nat} (h : us.getD j 0 = 2) : us.getD ((j : Int)).toNat 0 = 2 := h
section
variable {w : World} {mean : ExcName → Option Value} {mg mb : Str → Option Value} {dp un : Nat} {gd : Option (List Code)} {cn : Str} {cs : Scope} {a : Addr} {ccd : Value} {cl : List (Str × Addr)} {outer : List Env} {A₀ : Around} {base h₀ : Heap} {L : Addr} {m : Str → Option Value} {s : Shared} {Q E : Value → Shared → Prop}

theorem starts_fact {A : Around} {x y : Str} {t u : Tok} {b : Bool} (e : Txt.startswith x y = b) (h : Q (.bool b) s) : wpAny (model PySem.Challenge.rw_pq1402_01.row.prog w) A (call (.builtin "str.startswith") [.str x t, .str y u]) Q E s := SC.startswith (by rw [e]; exact h)
theorem nei_fact {A : Around} {x y : Int} {t u : Tok} {b : Bool} (e : (x != y) = b) (h : Q (.bool b) s) : wpAny (model PySem.Challenge.rw_pq1402_01.row.prog w) A (compareOp .NotEq (.int x t) (.int y u)) Q E s := PyProof.Rows.ne_int (by rw [e]; exact h)
theorem eqi_fact {A : Around} {x y : Int} {t u : Tok} {b : Bool} (e : (x == y) = b) (h : Q (.bool b) s) : wpAny (model PySem.Challenge.rw_pq1402_01.row.prog w) A (compareOp .Eq (.int x t) (.int y u)) Q E s := PyProof.Rows.eq_int (by rw [e]; exact h)




set_option maxRecDepth 100000 in
set_option maxHeartbeats 2000000 in
theorem partial_of_call (C : Cx w mean mg mb A₀ base outer h₀ L s.heap m) (hk : cs.kind = .function) (hdp : dp + 15 < recursionLimit) (hun : un + 200 < cLine)
    {ok : Addr → Prop} {x fo tg us pl : Addr} {gs : List Tg} {c : Cl} {t : Tok} {uvs : List Value} {uns : List Int} (hM : MatIn w.params s.heap ok x fo tg us pl) (hT : TagsIn s.heap ok tg gs) (hus : LstAt s.heap ok us uvs) (hU : IntsAre uvs uns) (hul : uns.length = gs.length)
    (hn : gs.length ≤ 5) (hc : isNm c = true) (hu2 : ∀ j g, gs[j]? = some g → isNm g.cl = true → uns.getD j 0 = 2)
    (ret : ∀ h' tk', GSub s.heap h' [] → Q .none { s with heap := h', toks := tk' }) :
   wpAny (model PySem.Challenge.rw_pq1402_01.row.prog w) (ktrTop dp un gd cn cs L a ccd cl outer) (call (.ref 138) [.ref x, .str (keyOf c) t]) Q E s := by
  w_top off
  k_with_none
  (k_with "call builtin:str.startswith" => (k_here; k_dflt (refine' starts_fact (by assumption) ?_)))
  (k_with "call builtin:str.startswith cons nil" => (k_here; k_dflt (refine' starts_fact (by assumption) ?_)))
  (k_with "compareOp NotEq int int" => (k_here; k_dflt (refine' nei_fact (by assumption) ?_)))
  (k_with "compareOp Eq int int" => (k_here; k_dflt (refine' eqi_fact (by assumption) ?_)))
  (k_with "LeaveK" => (refine' leaveK_ (by k_asm) (by k_asm) ?_; intro _ _; dsimp only))
  (k_with "LeaveK none" => (refine' leaveK_ (by k_asm) (by k_asm) ?_; intro _ _; dsimp only))
  (k_with "call builtin:len" => (k_here; k_dflt (refine' len_sym (by first | is_list) (by assumption) (by omega) ?_)))
  (k_with "call builtin:len cons nil" => (k_here; k_dflt (refine' len_sym (by first | is_list) (by assumption) (by omega) ?_)))
  (k_with "subscriptTail" => (k_here; (with_reducible show wpAny _ _ (subscriptTail _ _ (Value.ref _) (Value.int _ _)) _ _ _); k_dflt (refine' item_at (by is_list) (by assumption) (by omega) ?_)))
  (k_with "subscriptTail Attribute Name Name ref int" => (k_here; (with_reducible show wpAny _ _ (subscriptTail _ _ (Value.ref _) (Value.int _ _)) _ _ _); k_dflt (refine' item_at (by is_list) (by assumption) (by omega) ?_)))
  (k_with "compareOp NotEq str str" => (k_here; k_dflt (refine' ne_fact (by assumption) ?_)))
  (k_with "pyIter ref" => (k_here; (rename JMk _ _ => jm'); (with_reducible show wpAny _ _ (pyIter (Value.ref _)) (fun it s₂ => LoopAtV _ _ _ _ _ _ _ _ _ it s₂) _ _); k_dflt (first | (refine' for_list_jm jm' (by exact rfl) (by assumption) (by k_asm) (by k_asm) ?_) | (refine' for_range_jm jm' (by exact rfl) (by assumption) (by omega) (by k_asm) (by k_asm) ?_))))
  (k_with "compareOp NotIn str ref" => (k_here; k_dflt (refine' notin_place (by k_asm) (by assumption) (by assumption) (by assumption) (by assumption) ?_); (try dsimp only [Bool.not_true, Bool.not_false])))
  (k_with "compareOp Eq str str" => (k_here; k_dflt (refine' PyProof.Rows.eq_str ?_; rw [show (keyOf _ == Str.ofString "...") = false from by assumption])))
  (k_with "call ref" => (k_here; (with_reducible show wpAny _ _ (call (Value.ref 138) _) _ _ _); k_dflt (refine' partial_of_walk (by k_asm) (by k_asm) (by k_asm) (by k_asm) (by k_asm) (by assumption) (by assumption) (by assumption) (by assumption) (by assumption) (by assumption) (by assumption) (by assumption) (by exact rfl) (by ktr_room) (by ktr_units) ?_); intro _ _ _ _))
  (k_with "call ref cons nil" => (k_here; (with_reducible show wpAny _ _ (call (Value.ref 138) _) _ _ _); k_dflt (refine' partial_of_walk (by k_asm) (by k_asm) (by k_asm) (by k_asm) (by k_asm) (by assumption) (by assumption) (by assumption) (by assumption) (by assumption) (by assumption) (by assumption) (by assumption) (by exact rfl) (by ktr_room) (by ktr_units) ?_); intro _ _ _ _))
  show (let G := (_ : Prop); G); intro G
  obtain ⟨B, F, X, T⟩ := C
  unfold G; clear G
  revert X; k_fill; intro X
  have N : News h₀ L s.heap [] := fun p hp => nomatch hp
  refine wpAny_call ?_
  k_dflt (refine' code_defG ?k1 ?k2 ?k3 ?k4 ?k5 ?kA ?kF ?kK ?k6 ?k7 ?k8 ?k9 ?kB ?_ ?c2 ?c3 ?c4 ?c5; (case kA => exact rfl); (case kF => exact rfl); (case kK => assumption); (case k1 => k_asm); (case k2 => k_asm); (case k3 => k_asm); (case k4 => k_asm); (case k5 => k_asm); (case k6 => k_is); (case k7 => k_is); (case k8 => ktr_room); (case k9 => exact BindsTo.of_eq rfl); (case c5 => decide); (case kB => exact locs rfl); (case c2 => exact rfl); (case c3 => exact rfl); (case c4 => exact rfl); k_whole; intro g' L' h' FG' F' N' B' X' T' kG'; (try dsimp only); (try k_fold))
  have kG2 : GSub s.heap g' [] := kG'
  have up : ∀ b o, At s.heap ok b o → At g' ok b o := fun b o z => ⟨kG2 _ _ z.1 (by simp), z.2⟩
  show (let G := (_ : Prop); G); intro G
  obtain ⟨dx, t1, t2, t3, t4, hx, hdx⟩ := hM
  replace hx := (up _ _ hx).1
  replace hdx := (up _ _ hdx).1
  obtain ⟨tvs, hT, hta⟩ := hT
  obtain ⟨nt, hT, _⟩ := hT.mono up
  replace hT := lst_base hT
  obtain ⟨nu, hus, _⟩ := hus.mono up
  replace hus := lst_base hus
  have htl := hta.len
  have jm : JMk [Str.ofString "tag"] (fun _ nx => nx = []) := ⟨⟩
  unfold G; clear G
  k_steps
  refine ⟨[], fun p hp => (nomatch hp), rfl, ?turn, ?done⟩
  case turn =>
    rintro j tj u nx h tk own hj ho ha rfl F1 N1
    dsimp only [List.nil_append] at N1
    show (let G := (_ : Prop); G); intro G
    obtain ⟨g, hg⟩ : ∃ g, gs[j]? = some g := ⟨_, List.getElem?_eq_getElem hj⟩
    obtain ⟨tv, htv, hgt⟩ := hta.get hg
    have hj2 : j < uns.length := by omega
    have hu3 := hu2 j g hg
    unfold G; clear G
    cases g with
    | no =>
      obtain rfl : tv = .none := hgt
      k_steps
    | _ =>
      obtain ⟨tt, rfl⟩ := hgt
      first
      | (have hu4 : (uns.getD ((j : Int)).toNat 0 != 2) = false := by have h9 := ne_two (hu3 rfl); rw [h9]; rfl
         k_steps)
      | (have hst : Txt.startswith (keyOf c) (Str.ofString "other") = false := by
           cases c <;> first | (exact absurd hc (by decide)) | decide +kernel
         have hst2 : Txt.startswith (keyOf c) (Str.ofString "zz") = false := by
           cases c <;> first | (exact absurd hc (by decide)) | decide +kernel
         k_steps)
  case done =>
    rintro u3 nx h3 tk3 rfl F3 N3
    k_steps
    exact ret _ _ (gsub_back kG2 F3)

theorem partial_of_walk {x fo tg us pl : Addr} {gs : List Tg} {c : Cl} {t : Tok} {uvs : List Value} {uns : List Int} {news : List (Addr × Obj)} (B : Below A₀ base outer h₀) (F : Fr h₀ L s.heap m) (X : (heapK w.params).In h₀) (T : Top viewQ LL mean mg mb h₀) (N : News h₀ L s.heap news)
    (hM : MatIn w.params h₀ (fun _ => True) x fo tg us pl) (hT : TagsIn h₀ (fun _ => True) tg gs) (hus : LstAt h₀ (fun _ => True) us uvs) (hU : IntsAre uvs uns) (hul : uns.length = gs.length)
    (hn : gs.length ≤ 5) (hc : isNm c = true) (hu2 : ∀ j g, gs[j]? = some g → isNm g.cl = true → uns.getD j 0 = 2) (hk : cs.kind = .function) (hdp : dp + 15 < recursionLimit) (hun : un + 200 < cLine)
    (ret : ∀ h' tk', Fr h₀ L h' m → News h₀ L h' news → Q .none { s with heap := h', toks := tk' }) :
   wpAny (model PySem.Challenge.rw_pq1402_01.row.prog w) (ktrTop dp un gd cn cs L a ccd cl outer) (call (.ref 138) [.ref x, .str (keyOf c) t]) Q E s := by
  have up : ∀ b o, At h₀ (fun _ => True) b o → At s.heap (fun _ => True) b o := fun b o z => ⟨F.keep _ _ z.1, z.2⟩
  obtain ⟨dx, t1, t2, t3, t4, m1, m2⟩ := hM
  obtain ⟨tvs, hT, hta⟩ := hT
  exact partial_of_call ⟨B, F, X, T⟩ hk hdp hun ⟨dx, t1, t2, t3, t4, up _ _ m1, up _ _ m2⟩ ⟨tvs, hT.mono up, hta⟩ (hus.mono up) hU hul hn hc hu2 fun h' tk' G => ret h' tk' (fr_gsub0 F G) (news_gsub0 N G)
theorem notin_place {A : Around} {pl : Addr} {D : List (Cl × Nat)} {c : Cl} {t : Tok} {b : Bool} (F : Fr h₀ L s.heap m) (T : StrTab PySem.Challenge.rw_pq1402_01.row.prog w h₀ pl (tabOf D)) (hc : isNm c = true) (hD : (D.all fun p => isNm p.1) = true) (e : keyed D c = b) (h : Q (.bool (!b)) { s with toks := s.toks + 1 }) :
    wpAny (model PySem.Challenge.rw_pq1402_01.row.prog w) A (compareOp .NotIn (.str (keyOf c) t) (.ref pl)) Q E s := notin_strTab (T.ofFr F) (by rw [keyed_tab hc hD, e]; exact h)

set_option maxRecDepth 100000 in
set_option maxHeartbeats 2000000 in
theorem partial_call (C : Cx w mean mg mb A₀ base outer h₀ L s.heap m) (hk : cs.kind = .function) (hdp : dp + 25 < recursionLimit) (hun : un + 300 < cLine)
    {ok : Addr → Prop} {x fo tg us pl : Addr} {gs : List Tg} {uvs : List Value} {uns : List Int} {o : Obj} {D : List (Cl × Nat)} (hM : MatIn w.params s.heap ok x fo tg us pl) (hF : FormIn s.heap ok fo) (hT : TagsIn s.heap ok tg gs) (hus : LstAt s.heap ok us uvs) (hU : IntsAre uvs uns) (hul : uns.length = gs.length)
    (hpl : At s.heap ok pl o) (hPD : DctIs w pl o D) (hDn : (D.all fun p => isNm p.1) = true)
    (hn : gs.length ≤ 5) (hu2 : ∀ j g, gs[j]? = some g → isNm g.cl = true → uns.getD j 0 = 2)
    (ret : ∀ h' tk', GSub s.heap h' [] → Q .none { s with heap := h', toks := tk' }) :
   wpAny (model PySem.Challenge.rw_pq1402_01.row.prog w) (ktrTop dp un gd cn cs L a ccd cl outer) (call (.ref 131) [.ref x]) Q E s := by
  w_top off
  k_with_none
  (k_with "call builtin:str.startswith" => (k_here; k_dflt (refine' starts_fact (by assumption) ?_)))
  (k_with "call builtin:str.startswith cons nil" => (k_here; k_dflt (refine' starts_fact (by assumption) ?_)))
  (k_with "compareOp NotEq int int" => (k_here; k_dflt (refine' nei_fact (by assumption) ?_)))
  (k_with "compareOp Eq int int" => (k_here; k_dflt (refine' eqi_fact (by assumption) ?_)))
  (k_with "LeaveK" => (refine' leaveK_ (by k_asm) (by k_asm) ?_; intro _ _; dsimp only))
  (k_with "LeaveK none" => (refine' leaveK_ (by k_asm) (by k_asm) ?_; intro _ _; dsimp only))
  (k_with "call builtin:len" => (k_here; k_dflt (refine' len_sym (by first | is_list) (by assumption) (by omega) ?_)))
  (k_with "call builtin:len cons nil" => (k_here; k_dflt (refine' len_sym (by first | is_list) (by assumption) (by omega) ?_)))
  (k_with "subscriptTail" => (k_here; (with_reducible show wpAny _ _ (subscriptTail _ _ (Value.ref _) (Value.int _ _)) _ _ _); k_dflt (refine' item_at (by is_list) (by assumption) (by omega) ?_)))
  (k_with "subscriptTail Attribute Name Name ref int" => (k_here; (with_reducible show wpAny _ _ (subscriptTail _ _ (Value.ref _) (Value.int _ _)) _ _ _); k_dflt (refine' item_at (by is_list) (by assumption) (by omega) ?_)))
  (k_with "compareOp NotEq str str" => (k_here; k_dflt (refine' ne_fact (by assumption) ?_)))
  (k_with "pyIter ref" => (k_here; (rename JMk _ _ => jm'); (with_reducible show wpAny _ _ (pyIter (Value.ref _)) (fun it s₂ => LoopAtV _ _ _ _ _ _ _ _ _ it s₂) _ _); k_dflt (first | (refine' for_list_jm jm' (by exact rfl) (by assumption) (by k_asm) (by k_asm) ?_) | (refine' for_range_jm jm' (by exact rfl) (by assumption) (by omega) (by k_asm) (by k_asm) ?_))))
  (k_with "compareOp NotIn str ref" => (k_here; k_dflt (refine' notin_place (by k_asm) (by assumption) (by assumption) (by assumption) (by assumption) ?_); (try dsimp only [Bool.not_true, Bool.not_false])))
  (k_with "compareOp Eq str str" => (k_here; k_dflt (refine' PyProof.Rows.eq_str ?_; rw [show (keyOf _ == Str.ofString "...") = false from by assumption])))
  (k_with "call ref" => (k_here; (with_reducible show wpAny _ _ (call (Value.ref 138) _) _ _ _); k_dflt (refine' partial_of_walk (by k_asm) (by k_asm) (by k_asm) (by k_asm) (by k_asm) (by assumption) (by assumption) (by assumption) (by assumption) (by assumption) (by assumption) (by assumption) (by assumption) (by exact rfl) (by ktr_room) (by ktr_units) ?_); intro _ _ _ _))
  (k_with "call ref cons nil" => (k_here; (with_reducible show wpAny _ _ (call (Value.ref 138) _) _ _ _); k_dflt (refine' partial_of_walk (by k_asm) (by k_asm) (by k_asm) (by k_asm) (by k_asm) (by assumption) (by assumption) (by assumption) (by assumption) (by assumption) (by assumption) (by assumption) (by assumption) (by exact rfl) (by ktr_room) (by ktr_units) ?_); intro _ _ _ _))
  show (let G := (_ : Prop); G); intro G
  obtain ⟨B, F, X, T⟩ := C
  unfold G; clear G
  revert X; k_fill; intro X
  have N : News h₀ L s.heap [] := fun p hp => nomatch hp
  refine wpAny_call ?_
  k_dflt (refine' code_defG ?k1 ?k2 ?k3 ?k4 ?k5 ?kA ?kF ?kK ?k6 ?k7 ?k8 ?k9 ?kB ?_ ?c2 ?c3 ?c4 ?c5; (case kA => exact rfl); (case kF => exact rfl); (case kK => assumption); (case k1 => k_asm); (case k2 => k_asm); (case k3 => k_asm); (case k4 => k_asm); (case k5 => k_asm); (case k6 => k_is); (case k7 => k_is); (case k8 => ktr_room); (case k9 => exact BindsTo.of_eq rfl); (case c5 => decide); (case kB => exact locs rfl); (case c2 => exact rfl); (case c3 => exact rfl); (case c4 => exact rfl); k_whole; intro g' L' h' FG' F' N' B' X' T' kG'; (try dsimp only); (try k_fold))
  have kG2 : GSub s.heap g' [] := kG'
  have up : ∀ b o, At s.heap ok b o → At g' (fun _ => True) b o := fun b o z => ⟨kG2 _ _ z.1 (by simp), trivial⟩
  show (let G := (_ : Prop); G); intro G
  obtain ⟨dx, t1, t2, t3, t4, hx, hdx⟩ := hM
  have hM' : MatIn w.params g' (fun _ => True) x fo tg us pl := ⟨dx, t1, t2, t3, t4, up _ _ hx, up _ _ hdx⟩
  replace hx := (up _ _ hx).1
  replace hdx := (up _ _ hdx).1
  obtain ⟨f1, f2, hF⟩ := hF
  obtain ⟨nf, hF, _⟩ := hF.mono up
  replace hF := lst_base hF
  have hT' : TagsIn g' (fun _ => True) tg gs := let ⟨tvs, a, b⟩ := hT; ⟨tvs, a.mono up, b⟩
  have hus' : LstAt g' (fun _ => True) us uvs := hus.mono up
  have hst : StrTab PySem.Challenge.rw_pq1402_01.row.prog w g' pl (tabOf D) := let ⟨lo, kvs, a, b⟩ := hPD; TabAt.ofObj lo (up _ _ hpl).1 a b
  have jm : JMk [] (fun _ nx => nx = []) := ⟨⟩
  unfold G; clear G
  k_steps
  refine ⟨[], fun p hp => (nomatch hp), rfl, ?turn, ?done⟩
  case turn =>
    rintro i v u nx h tk own hi ho ha rfl F1 N1
    dsimp only [List.nil_append] at N1
    show (let G := (_ : Prop); G); intro G
    obtain ⟨c, t, hc, rfl⟩ : ∃ c t, cnames[i]? = some c ∧ v = .str (keyOf c) t := by
      have h2 : i < 2 := (List.getElem?_eq_some_iff.mp hi).1
      rcases (show i = 0 ∨ i = 1 by omega) with rfl | rfl
      · exact ⟨.x, f1, rfl, (Option.some.inj hi).symm⟩
      · exact ⟨.nm, f2, rfl, (Option.some.inj hi).symm⟩
    have hcm := (cnames_nm hc).1
    have hdots : (keyOf c == Str.ofString "...") = false := by
      cases c <;> first | (exact absurd hcm (by decide)) | decide +kernel
    unfold G; clear G
    cases hkd : keyed D c with
    | true =>
      k_steps
    | false =>
      k_steps
  case done =>
    rintro u3 nx h3 tk3 rfl F3 N3
    k_steps
    exact ret _ _ (gsub_back kG2 F3)
end
end
section
open PySem PySem.W PyProof.Rows PySem.Calls
section
variable {prog : Program} {w : World} {A : Around} {E : Value → Shared → Prop} {s : Shared} {env : Env} {h₀ : Heap} {x : Str} {test : PySem.Expr} {body orelse : List Stmt} {Q : Flow → Shared → Prop}
def WPost (I : Nat → Shared → Prop) (k : Nat) (Q : Flow → Shared → Prop) (f : Flow) (s : Shared) : Prop := match f with
  | .next => ∃ j, j < k ∧ I j s
  | .cont => ∃ j, j < k ∧ I j s
  | .brk => Q .next s
  | .ret v => Q (.ret v) s
theorem while_later {pos : Pos} (hE : PassesOwn (model prog w) A env E)
    (all : Later (∃ (I : Nat → Shared → Prop) (k : Nat), I k s ∧ ∀ k s, I k s → wpAny (model prog w) A (isTrue test env (eval test env)) (fun b s₂ => if b = true then wpAny (model prog w) A (execs body env) (WPost I k Q) E s₂ else wpAny (model prog w) A (execs orelse env) Q E s₂) E s)) :
    wpAny (model prog w) A (exec (.While test body orelse pos) env) Q E s := by
  obtain ⟨I, k, h, turn⟩ := all
  have key : ∀ k s, I k s → WhlRest prog w A E env test body orelse Q 0 s := by
    intro k
    induction k using Nat.strongRecOn with
    | ind k ih =>
      intro s hs
      refine whl_turn (k := 0) hE ?_
      refine wpAny_mono (turn k s hs) (fun b s₂ h₂ => ?_) fun _ _ e => e
      cases b with
      | true =>
        refine WhlIf.yes rfl (wpAny_mono h₂ (fun f s₃ h₃ => ?_) fun _ _ e => e)
        cases f with
        | next => obtain ⟨j, hj, hI⟩ := h₃; exact ih j hj s₃ hI
        | cont => obtain ⟨j, hj, hI⟩ := h₃; exact ih j hj s₃ hI
        | brk => exact h₃
        | ret v => exact h₃
      | false => exact WhlIf.no rfl h₂
  exact whl_start 0 (key k s h)

/-- a list's loop with one name whose value is told -/
def TurnZ (x z : Str) (m₀ : Str → Option Value) (J : Value → List (Addr × Obj) → Prop) (m : Str → Option Value) (nx : List (Addr × Obj)) : Prop := ∃ zv, m z = some zv ∧ J zv nx ∧ ∀ y, y ≠ x → y ≠ z → m y = m₀ y
structure JMz (z : Str) (J : Nat → Value → List (Addr × Obj) → Prop) : Prop where
theorem for_list_z {l : Addr} {vs : List Value} {m₀ : Str → Option Value} {news : List (Addr × Obj)} {z : Str} {J : Nat → Value → List (Addr × Obj) → Prop} (_ : JMz z J)
    (hh : A.handled = none) (hl : h₀.IsList l vs.toArray) (F : Fr h₀ env.locals s.heap m₀) (N : News h₀ env.locals s.heap news)
    (all : Later (z ≠ x ∧ ∃ news₀ zv₀, (∀ p ∈ news₀, p ∈ news) ∧ m₀ z = some zv₀ ∧ J 0 zv₀ news₀ ∧
    (∀ i v zv nx h tk own, vs[i]? = some v → OwnOff own (news₀.map (·.1)) → nx.map (·.1) = news₀.map (·.1) → J i zv nx → Fr h₀ env.locals h (fun y => if y = x then some v else if y = z then some zv else m₀ y) → News h₀ env.locals h (nx ++ own) →
      wpAny (model prog w) A (execs body env) (InvPostN h₀ env.locals (TurnZ x z m₀ (J (i + 1))) own (news₀.map (·.1)) { s with heap := h, toks := tk } Q) E { s with heap := h, toks := tk }) ∧
    (∀ (u : Str → Option Value) zv nx h tk, J vs.length zv nx → Fr h₀ env.locals h (fun y => if y = x then u y else if y = z then some zv else m₀ y) → News h₀ env.locals h nx → Q .next { s with heap := h, toks := tk }))) :
    wpAny (model prog w) A (pyIter (.ref l)) (fun it s₂ => LoopAtV prog w A h₀ env x body Q E it s₂) E s := by
  obtain ⟨hzx, news₀, zv₀, hs, hz0, hj, turn, done⟩ := all
  have N' : News h₀ env.locals s.heap news₀ := fun p hp => N p (hs p hp)
  have hls : s.heap.IsList l vs.toArray := hl.at fun o e => F.keep l o e
  obtain ⟨ol, hol, _⟩ := id hl
  have hlt : l < h₀.objs.size := Heap.lt_size hol
  have hne : l ≠ s.heap.objs.size := Nat.ne_of_lt (Nat.lt_trans (Nat.lt_of_lt_of_le hlt F.above) F.ns.lt)
  refine wpAny_pyIter_list hls ?_
  refine loop_invN (fun i m nx => TurnZ x z m₀ (J i) m nx) (Walks.list (prog := prog) (w := w) hh s.heap.objs.size l hne vs.toArray) ?_ ?_ ?_ ?_ ⟨⟨_, Heap.get?_push_size _ rfl, rfl, rfl⟩, hls.at fun o e => Heap.get?_push_of_some _ e⟩ (F.push _) (fun p hp => ⟨Heap.get?_push_of_some _ (N' p hp).1, (N' p hp).2⟩) ⟨zv₀, hz0, hj, fun _ _ _ => rfl⟩ ?_ ?_
  · intro hm
    rcases List.mem_cons.mp hm with e | hm
    · exact absurd F.ns.lt (e ▸ Nat.lt_irrefl _)
    · exact absurd (Nat.lt_of_lt_of_le hlt F.above) ((List.mem_singleton.mp hm) ▸ Nat.lt_irrefl _)
  · intro b hb
    rw [List.mem_singleton.mp hb]
    exact next_is_new F
  · intro p hp hI
    exact absurd (Heap.lt_size (N' p hp).1) ((List.mem_singleton.mp hI) ▸ Nat.lt_irrefl _)
  · intro p hp hI
    rcases List.mem_cons.mp hI with e | hI
    · exact absurd (Heap.lt_size (N' p hp).1) (by rw [e]; exact Nat.lt_irrefl _)
    · have h3 := (N' p hp).2.2
      rw [List.mem_singleton.mp hI, hol] at h3
      cases h3
  · rintro i v m₁ nx h tk own hi hP ha ho ⟨zv, hz, hJ, hm⟩ F₁ N₁
    have e : (fun y => if y = x then some v else m₁ y) = fun y => if y = x then some v else if y = z then some zv else m₀ y := by
      funext y
      by_cases h1 : y = x
      · simp [h1]
      · simp only [if_neg h1]
        by_cases h2 : y = z
        · subst h2; simp [hz]
        · simp only [if_neg h2]; exact hm y h1 h2
    rw [e] at F₁
    exact turn i v zv nx h tk own (by simpa using hP) ho ha hJ F₁ N₁
  · rintro m₁ nx h tk ⟨zv, hz, hJ, hm⟩ F₁ N₁
    rw [List.size_toArray] at hJ
    have e : m₁ = fun y => if y = x then m₁ y else if y = z then some zv else m₀ y := by
      funext y
      by_cases h1 : y = x
      · simp [h1]
      · simp only [if_neg h1]
        by_cases h2 : y = z
        · subst h2; simp [hz]
        · simp only [if_neg h2]; exact hm y h1 h2
    rw [e] at F₁
    exact done m₁ zv nx h tk hJ F₁ N₁
theorem turn_endZ {z : Str} {L : Addr} {m' : Str → Option Value} {m₀ : Str → Option Value} {J : Value → List (Addr × Obj) → Prop} {own news' nx : List (Addr × Obj)} {adr : List Addr} {s₁ : Shared} {h' : Heap} {tk : Nat} {zv : Value} (F : Fr h₀ L h' m') (N : News h₀ L h' news')
    (hz : m' z = some zv) (hj : J zv nx) (ha : nx.map (·.1) = adr) (hn : ∀ p ∈ nx ++ own, p ∈ news') (hm : ∀ y, y ≠ x → y ≠ z → m' y = m₀ y) : InvEndN h₀ L (TurnZ x z m₀ J) own adr s₁ { s₁ with heap := h', toks := tk } :=
  ⟨h', tk, m', news', nx, rfl, F, N, fun p hp => hn p (List.mem_append_left _ hp), fun p hp => hn p (List.mem_append_right _ hp), ha, zv, hz, hj, hm⟩
end

/-! the pure part of positional -/
theorem adv_stop {cs : List Cl} {us : List Int} {p : Nat} (h : (decide (p < cs.length) && !isFree cs us p) = false) : adv cs us (cs.length - p) p = p := by
  cases e : cs.length - p with
  | zero => rfl
  | succ f =>
    show (if (decide (p < cs.length) && !isFree cs us p) = true then _ else _) = _
    rw [h]; rfl
theorem adv_go {cs : List Cl} {us : List Int} {p : Nat} (h1 : p < cs.length) (h2 : isFree cs us p = false) : adv cs us (cs.length - p) p = adv cs us (cs.length - (p + 1)) (p + 1) := by
  obtain ⟨f, e⟩ : ∃ f, cs.length - p = f + 1 := ⟨cs.length - p - 1, by omega⟩
  rw [e, show cs.length - (p + 1) = f by omega]
  show (if (decide (p < cs.length) && !isFree cs us p) = true then _ else _) = _
  rw [h2, decide_eq_true h1]; rfl
theorem adv_le {cs : List Cl} {us : List Int} : ∀ f p, p ≤ cs.length → adv cs us f p ≤ cs.length
  | 0, _, h => h
  | f + 1, p, h => by
    show (if (decide (p < cs.length) && !isFree cs us p) = true then _ else _) ≤ _
    split
    · rename_i h2
      have h3 := of_decide_eq_true (Bool.and_eq_true_iff.mp h2).1
      exact adv_le f (p + 1) h3
    · exact h
def PosOk (cs : List Cl) (k : Nat) (q : Nat × St) : Prop := q.1 ≤ cs.length ∧ q.2.1.length = cs.length ∧ (q.2.2.all fun p => isNm p.1) = true ∧ q.2.2.length ≤ 2 * cs.length + k
theorem posStep_keyed {cs : List Cl} {q : Nat × St} {c : Cl} (h : keyed q.2.2 c = true) : posStep cs q c = q := by
  unfold posStep; rw [if_pos h]
theorem posStep_lt {cs : List Cl} {q : Nat × St} {c : Cl} (h : keyed q.2.2 c = false) (h2 : adv cs q.2.1 (cs.length - q.1) q.1 < cs.length) : posStep cs q c = (adv cs q.2.1 (cs.length - q.1) q.1, (q.2.1.set (adv cs q.2.1 (cs.length - q.1) q.1) 2, q.2.2 ++ [(c, adv cs q.2.1 (cs.length - q.1) q.1)])) := by
  unfold posStep; rw [if_neg (by rw [h]; decide)]; exact if_pos h2
theorem posStep_ge {cs : List Cl} {q : Nat × St} {c : Cl} (h : keyed q.2.2 c = false) (h2 : ¬ adv cs q.2.1 (cs.length - q.1) q.1 < cs.length) : posStep cs q c = (adv cs q.2.1 (cs.length - q.1) q.1, q.2) := by
  unfold posStep; rw [if_neg (by rw [h]; decide)]; exact if_neg h2
theorem posStep_ok {cs : List Cl} {c : Cl} (hc : isNm c = true) {k : Nat} {q : Nat × St} (h : PosOk cs k q) : PosOk cs (k + 1) (posStep cs q c) := by
  obtain ⟨a, b, d, e⟩ := h
  cases hk : keyed q.2.2 c with
  | true => rw [posStep_keyed hk]; exact ⟨a, b, d, by omega⟩
  | false =>
    by_cases h2 : adv cs q.2.1 (cs.length - q.1) q.1 < cs.length
    · rw [posStep_lt hk h2]
      refine ⟨by show adv _ _ _ _ ≤ _; omega, (List.length_set ..).trans b, ?_, ?_⟩
      · show ((q.2.2 ++ [_]).all _) = true
        rw [List.all_append, d]; simp [hc]
      · show (q.2.2 ++ [_]).length ≤ _
        rw [List.length_append, List.length_singleton]; omega
    · rw [posStep_ge hk h2]
      exact ⟨adv_le _ _ a, b, d, by show q.2.2.length ≤ _; omega⟩
theorem posN_succ {cs : List Cl} {i : Nat} {c : Cl} (h : cnames[i]? = some c) : posN cs (i + 1) = posStep cs (posN cs i) c := by
  unfold posN
  rw [List.take_add_one, h, List.foldl_append]
  rfl
theorem posN_ok {cs : List Cl} {i : Nat} (hi : i ≤ 2) : PosOk cs i (posN cs i) := by
  have h0 : PosOk cs 0 (posN cs 0) := by
    have h := exN_all (cs := cs) (i := 2) (by omega)
    exact ⟨Nat.zero_le _, h.2.1, h.1, h.2.2⟩
  have up : ∀ {i : Nat} {c : Cl}, cnames[i]? = some c → PosOk cs i (posN cs i) → PosOk cs (i + 1) (posN cs (i + 1)) := fun {i c} h x => by
    rw [posN_succ h]; exact posStep_ok (cnames_nm h).1 x
  have : i = 0 ∨ i = 1 ∨ i = 2 := by omega
  rcases this with rfl | rfl | rfl
  · exact h0
  · exact up (i := 0) rfl h0
  · exact up (i := 1) rfl (up (i := 0) rfl h0)

section
variable {w : World} {mean : ExcName → Option Value} {mg mb : Str → Option Value} {dp un : Nat} {gd : Option (List Code)} {cn : Str} {cs : Scope} {a : Addr} {ccd : Value} {cl : List (Str × Addr)} {outer : List Env} {A₀ : Around} {base h₀ : Heap} {L : Addr} {m : Str → Option Value} {s : Shared} {Q E : Value → Shared → Prop}
theorem lti_fact {A : Around} {x y : Int} {t u : Tok} {b : Bool} (e : decide (x < y) = b) (h : Q (.bool b) s) : wpAny (model PySem.Challenge.rw_pq1402_01.row.prog w) A (compareOp .Lt (.int x t) (.int y u)) Q E s := PyProof.Rows.lt_int (by rw [e]; exact h)






set_option maxRecDepth 100000 in
set_option maxHeartbeats 2000000 in
theorem free_call (C : Cx w mean mg mb A₀ base outer h₀ L s.heap m) (hk : cs.kind = .function) (hdp : dp + 10 < recursionLimit) (hun : un + 100 < cLine)
    {ok : Addr → Prop} {x fo tg us pl : Addr} {gs : List Tg} {uvs : List Value} {uns : List Int} {p : Nat} {tp : Tok} {b : Bool} (hM : MatIn w.params s.heap ok x fo tg us pl) (hT : TagsIn s.heap ok tg gs) (hus : LstAt s.heap ok us uvs) (hU : IntsAre uvs uns) (hul : uns.length = gs.length)
    (hn : gs.length ≤ 5) (hp : p < gs.length) (hb : isFree (gs.map Tg.cl) uns p = b)
    (ret : ∀ h' tk', GSub s.heap h' [] → Q (.bool b) { s with heap := h', toks := tk' }) :
   wpAny (model PySem.Challenge.rw_pq1402_01.row.prog w) (ktrTop dp un gd cn cs L a ccd cl outer) (call (.ref 152) [.ref x, .int (p : Int) tp]) Q E s := by
  w_top off
  k_with_none
  (k_with "compareOp Lt int int" => (k_here; k_dflt (refine' lti_fact (by assumption) ?_)))
  (k_with "call builtin:str.startswith" => (k_here; k_dflt (refine' starts_fact (by assumption) ?_)))
  (k_with "compareOp NotEq int int" => (k_here; k_dflt (refine' nei_fact (by assumption) ?_)))
  (k_with "compareOp Eq int int" => (k_here; k_dflt (refine' eqi_fact (by assumption) ?_)))
  (k_with "LeaveK" => (refine' leaveK_ (by k_asm) (by k_asm) ?_; intro _ _; dsimp only))
  (k_with "LeaveK bool" => (refine' leaveK_ (by k_asm) (by k_asm) ?_; intro _ _; dsimp only))
  (k_with "call builtin:len" => (k_here; k_dflt (refine' len_sym (by first | is_list) (by assumption) (by omega) ?_)))
  (k_with "subscriptTail" => (k_here; (with_reducible show wpAny _ _ (subscriptTail _ _ (Value.ref _) (Value.int _ _)) _ _ _); k_dflt (refine' item_at (by is_list) (by assumption) (by omega) ?_)))
  (k_with "subscriptTail Attribute Name Name ref int" => (k_here; (with_reducible show wpAny _ _ (subscriptTail _ _ (Value.ref _) (Value.int _ _)) _ _ _); k_dflt (refine' item_at (by is_list) (by assumption) (by omega) ?_)))
  (k_with "compareOp NotEq str str" => (k_here; k_dflt (refine' ne_fact (by assumption) ?_)))
  (k_with "pyIter ref" => (k_here; (rename JMk _ _ => jm'); (with_reducible show wpAny _ _ (pyIter (Value.ref _)) (fun it s₂ => LoopAtV _ _ _ _ _ _ _ _ _ it s₂) _ _); k_dflt (first | (refine' for_list_jm jm' (by exact rfl) (by assumption) (by k_asm) (by k_asm) ?_) | (refine' for_range_jm jm' (by exact rfl) (by assumption) (by omega) (by k_asm) (by k_asm) ?_))))
  obtain ⟨B, F, X, T⟩ := C
  revert X; k_fill; intro X
  have N : News h₀ L s.heap [] := fun p hp => nomatch hp
  refine wpAny_call ?_
  k_dflt (refine' code_defG ?k1 ?k2 ?k3 ?k4 ?k5 ?kA ?kF ?kK ?k6 ?k7 ?k8 ?k9 ?kB ?_ ?c2 ?c3 ?c4 ?c5; (case kA => exact rfl); (case kF => exact rfl); (case kK => assumption); (case k1 => k_asm); (case k2 => k_asm); (case k3 => k_asm); (case k4 => k_asm); (case k5 => k_asm); (case k6 => k_is); (case k7 => k_is); (case k8 => ktr_room); (case k9 => exact BindsTo.of_eq rfl); (case c5 => decide); (case kB => exact locs rfl); (case c2 => exact rfl); (case c3 => exact rfl); (case c4 => exact rfl); k_whole; intro g' L' h' FG' F' N' B' X' T' kG'; (try dsimp only); (try k_fold))
  have kG2 : GSub s.heap g' [] := kG'
  have up : ∀ b o, At s.heap ok b o → At g' (fun _ => True) b o := fun b o z => ⟨kG2 _ _ z.1 (by simp), trivial⟩
  obtain ⟨dx, t1, t2, t3, t4, hx, hdx⟩ := hM
  replace hx := (up _ _ hx).1
  replace hdx := (up _ _ hdx).1
  obtain ⟨tvs, hT, hta⟩ := hT
  obtain ⟨nt, hT, _⟩ := hT.mono up
  replace hT := lst_base hT
  obtain ⟨nu, hus, _⟩ := hus.mono up
  replace hus := lst_base hus
  have hj2 : p < uns.length := by omega
  obtain ⟨g, hg⟩ : ∃ g, gs[p]? = some g := ⟨_, List.getElem?_eq_getElem hp⟩
  obtain ⟨tv, htv, hgt⟩ := hta.get hg
  have hb2 : b = (uns.getD p 0 == 0 && g.cl == .no) := by
    rw [← hb]; unfold isFree; rw [getD_cl hg]
  clear hb
  cases hu0 : (uns.getD ((p : Int)).toNat 0 == 0) with
  | false =>
    have hb3 : b = false := by
      rw [hb2]; exact congrArg (fun z => z && g.cl == .no) hu0
    subst hb3
    k_steps
    exact ret _ _ (gsub_back kG2 (by k_asm))
  | true =>
    have hb3 : b = (g.cl == .no) := by
      rw [hb2]; exact congrArg (fun z => z && g.cl == .no) hu0
    clear hb2
    cases g with
    | no =>
      obtain rfl : tv = .none := hgt
      subst hb3
      k_steps
      all_goals exact ret _ _ (gsub_back kG2 (by k_asm))
    | _ =>
      obtain ⟨tt, rfl⟩ := hgt
      subst hb3
      k_steps
      all_goals exact ret _ _ (gsub_back kG2 (by k_asm))
end
end
section
open PySem PySem.W PyProof.Rows PySem.Calls
section
variable {prog : Program} {w : World} {A : Around} {E : Value → Shared → Prop} {s : Shared} {env : Env} {h₀ : Heap} {test : PySem.Expr} {body orelse : List Stmt} {Q : Flow → Shared → Prop}
structure JMw (z : Str) (J : Nat → Value → Prop) : Prop where
def WI (h₀ : Heap) (L : Addr) (z : Str) (m₀ : Str → Option Value) (news : List (Addr × Obj)) (J : Nat → Value → Prop) (s : Shared) (k : Nat) (s' : Shared) : Prop :=
  ∃ zv h tk m', s' = { s with heap := h, toks := tk } ∧ Fr h₀ L h m' ∧ m' z = some zv ∧ (∀ y, y ≠ z → m' y = m₀ y) ∧ News h₀ L h news ∧ J k zv
theorem while_z {pos : Pos} {z : Str} {m₀ : Str → Option Value} {news : List (Addr × Obj)} {J : Nat → Value → Prop} (_ : JMw z J) (hE : PassesOwn (model prog w) A env E) (F : Fr h₀ env.locals s.heap m₀) (N : News h₀ env.locals s.heap news)
    (all : Later (∃ k zv₀, m₀ z = some zv₀ ∧ J k zv₀ ∧ ∀ k zv h tk, J k zv → Fr h₀ env.locals h (fun y => if y = z then some zv else m₀ y) → News h₀ env.locals h news →
      wpAny (model prog w) A (isTrue test env (eval test env)) (fun b s₂ => if b = true then wpAny (model prog w) A (execs body env) (WPost (WI h₀ env.locals z m₀ news J s) k Q) E s₂ else wpAny (model prog w) A (execs orelse env) Q E s₂) E { s with heap := h, toks := tk })) :
    wpAny (model prog w) A (exec (.While test body orelse pos) env) Q E s := by
  obtain ⟨k, zv₀, hz, hj, turn⟩ := all
  refine while_later hE ⟨WI h₀ env.locals z m₀ news J s, k, ⟨zv₀, s.heap, s.toks, m₀, rfl, F, hz, fun _ _ => rfl, N, hj⟩, ?_⟩
  rintro k s' ⟨zv, h, tk, m', rfl, F1, h1, h2, N1, hj⟩
  have e : m' = fun y => if y = z then some zv else m₀ y := by
    funext y
    by_cases hy : y = z
    · subst hy; simp [h1]
    · simp only [if_neg hy]; exact h2 y hy
  rw [e] at F1
  exact turn k zv h tk hj F1 N1
end
section
variable {w : World} {mean : ExcName → Option Value} {mg mb : Str → Option Value} {dp un : Nat} {gd : Option (List Code)} {cn : Str} {cs : Scope} {a : Addr} {ccd : Value} {cl : List (Str × Addr)} {outer : List Env} {A₀ : Around} {base h₀ : Heap} {L : Addr} {m : Str → Option Value} {s : Shared} {Q E : Value → Shared → Prop}
theorem notin_fact {A : Around} {x : Str} {t : Tok} {d : Addr} {D : List (PyData × PyData)} {b : Bool} (T : StrTab PySem.Challenge.rw_pq1402_01.row.prog w s.heap d D) (e : (PySem.Spec.lookup (.str x) D).isSome = b) (h : Q (.bool (!b)) { s with toks := s.toks + 1 }) :
    wpAny (model PySem.Challenge.rw_pq1402_01.row.prog w) A (compareOp .NotIn (.str x t) (.ref d)) Q E s := notin_strTab T (by rw [e]; exact h)
theorem free_walk {x fo tg us pl : Addr} {gs : List Tg} {uvs : List Value} {uns : List Int} {p : Nat} {tp : Tok} {b : Bool} {news : List (Addr × Obj)} {n1 : Nat} (B : Below A₀ base outer h₀) (F : Fr h₀ L s.heap m) (X : (heapK w.params).In h₀) (T : Top viewQ LL mean mg mb h₀) (N : News h₀ L s.heap news)
    (hM : MatIn w.params h₀ (fun _ => True) x fo tg us pl) (hT : TagsIn h₀ (fun _ => True) tg gs) (hus : (us, listOf uvs.toArray n1) ∈ news) (hU : IntsAre uvs uns) (hul : uns.length = gs.length)
    (hn : gs.length ≤ 5) (hp : p < gs.length) (hb : isFree (gs.map Tg.cl) uns p = b) (hk : cs.kind = .function) (hdp : dp + 10 < recursionLimit) (hun : un + 100 < cLine)
    (ret : ∀ h' tk', Fr h₀ L h' m → News h₀ L h' news → Q (.bool b) { s with heap := h', toks := tk' }) :
   wpAny (model PySem.Challenge.rw_pq1402_01.row.prog w) (ktrTop dp un gd cn cs L a ccd cl outer) (call (.ref 152) [.ref x, .int (p : Int) tp]) Q E s := by
  have up : ∀ b o, At h₀ (fun _ => True) b o → At s.heap (fun _ => True) b o := fun b o z => ⟨F.keep _ _ z.1, z.2⟩
  obtain ⟨dx, t1, t2, t3, t4, m1, m2⟩ := hM
  obtain ⟨tvs, hT, hta⟩ := hT
  exact free_call ⟨B, F, X, T⟩ hk hdp hun ⟨dx, t1, t2, t3, t4, up _ _ m1, up _ _ m2⟩ ⟨tvs, hT.mono up, hta⟩ ⟨n1, (N _ hus).1, trivial⟩ hU hul hn hp hb fun h' tk' G => ret h' tk' (fr_gsub0 F G) (news_gsub0 N G)









set_option maxRecDepth 100000 in
set_option maxHeartbeats 2000000 in
theorem positional_call (C : Cx w mean mg mb A₀ base outer h₀ L s.heap m) (hk : cs.kind = .function) (hdp : dp + 25 < recursionLimit) (hun : un + 300 < cLine)
    {ok : Addr → Prop} {x fo tg us pl : Addr} {gs : List Tg} {uvs : List Value} {o : Obj} {n1 : Nat} (hM : MatIn w.params s.heap ok x fo tg us pl) (hF : FormIn s.heap ok fo) (hT : TagsIn s.heap ok tg gs) (hok : ∀ b, ok b → b ≠ pl ∧ b ≠ us) (hne : us ≠ pl)
    (N : News h₀ L s.heap [(pl, o), (us, listOf uvs.toArray n1)]) (hU : IntsAre uvs (exN (gs.map Tg.cl) 2).1) (hD : DctIs w pl o (exN (gs.map Tg.cl) 2).2) (hn : gs.length ≤ 5)
    (ret : ∀ h' tk' uvs' o' n1', GSub s.heap h' [pl, us] → h'.get? pl = some o' → h'.get? us = some (listOf uvs'.toArray n1') → IntsAre uvs' (posN (gs.map Tg.cl) 2).2.1 → DctIs w pl o' (posN (gs.map Tg.cl) 2).2.2 → Q .none { s with heap := h', toks := tk' }) :
   wpAny (model PySem.Challenge.rw_pq1402_01.row.prog w) (ktrTop dp un gd cn cs L a ccd cl outer) (call (.ref 145) [.ref x]) Q E s := by
  w_top off
  k_with_none
  (k_with "compareOp Lt int int" => (k_here; k_dflt (refine' lti_fact (by assumption) ?_)))
  (k_with "call builtin:str.startswith" => (k_here; k_dflt (refine' starts_fact (by assumption) ?_)))
  (k_with "compareOp NotEq int int" => (k_here; k_dflt (refine' nei_fact (by assumption) ?_)))
  (k_with "compareOp Eq int int" => (k_here; k_dflt (refine' eqi_fact (by assumption) ?_)))
  (k_with "LeaveK" => (refine' leaveK_ (by k_asm) (by k_asm) ?_; intro _ _; dsimp only))
  (k_with "LeaveK none" => (refine' leaveK_ (by k_asm) (by k_asm) ?_; intro _ _; dsimp only))
  (k_with "call builtin:len" => (k_here; k_dflt (refine' len_sym (by first | is_list) (by assumption) (by omega) ?_)))
  (k_with "call builtin:len cons nil" => (k_here; k_dflt (refine' len_sym (by first | is_list) (by assumption) (by omega) ?_)))
  (k_with "subscriptTail" => (k_here; (with_reducible show wpAny _ _ (subscriptTail _ _ (Value.ref _) (Value.int _ _)) _ _ _); k_dflt (refine' item_at (by is_list) (by assumption) (by omega) ?_)))
  (k_with "compareOp NotEq str str" => (k_here; k_dflt (refine' ne_fact (by assumption) ?_)))
  (k_with "pyIter ref" => (k_here; (rename JMk _ _ => jm'); (with_reducible show wpAny _ _ (pyIter (Value.ref _)) (fun it s₂ => LoopAtV _ _ _ _ _ _ _ _ _ it s₂) _ _); k_dflt (first | (refine' for_list_jm jm' (by exact rfl) (by assumption) (by k_asm) (by k_asm) ?_) | (refine' for_range_jm jm' (by exact rfl) (by assumption) (by omega) (by k_asm) (by k_asm) ?_))))
  (k_with "setItem ref str" => (k_here; k_dflt (refine' set_place (by k_asm) (by k_asm) (by k_updF) (by assumption) (by assumption) (by assumption) (by omega) ?_); intro _ _ _ _ _ _ _))
  (k_with "setItem ref str int" => (k_here; k_dflt (refine' set_place (by k_asm) (by k_asm) (by k_updF) (by assumption) (by assumption) (by assumption) (by omega) ?_); intro _ _ _ _ _ _ _))
  (k_with "setItem ref int" => (k_here; k_dflt (refine' set_used (by k_asm) (by k_asm) (by k_updF) (by assumption) (by omega) (by omega) ?_); intro _ _ _ _ _))
  (k_with "setItem ref int int" => (k_here; k_dflt (refine' set_used (by k_asm) (by k_asm) (by k_updF) (by assumption) (by omega) (by omega) ?_); intro _ _ _ _ _))
  (k_with "compareOp NotIn str ref" => (k_here; k_dflt (refine' notin_fact (by k_tabat) (by assumption) ?_); (try dsimp only [Bool.not_true, Bool.not_false])))
  (k_with "compareOp Eq str str" => (k_here; k_dflt (refine' PyProof.Rows.eq_str ?_; rw [show (keyOf _ == Str.ofString "...") = false from by assumption])))
  (k_with "pyIter ref" => (k_here; (rename JMz _ _ => jm'); (with_reducible show wpAny _ _ (pyIter (Value.ref _)) (fun it s₂ => LoopAtV _ _ _ _ _ _ _ _ _ it s₂) _ _); k_dflt (refine' for_list_z jm' (by exact rfl) (by assumption) (by k_asm) (by k_asm) ?_)))
  (k_with "exec While BoolOp" => (k_here; (rename JMw _ _ => jw'); k_dflt (refine' while_z jw' (by first | passes_own | with_unfolding_all passes_own) (by k_asm) (by k_asm) ?_)))
  (k_with "exec While BoolOp cons nil" => (k_here; (rename JMw _ _ => jw'); k_dflt (refine' while_z jw' (by first | passes_own | with_unfolding_all passes_own) (by k_asm) (by k_asm) ?_)))
  (k_with "call ref" => (k_here; (with_reducible show wpAny _ _ (call (Value.ref 152) _) _ _ _); k_dflt (refine' free_walk (by k_asm) (by k_asm) (by k_asm) (by k_asm) (by k_asm) (by assumption) (by assumption) (by k_mem) (by assumption) (by assumption) (by assumption) (by assumption) (by assumption) (by exact rfl) (by ktr_room) (by ktr_units) ?_); intro _ _ _ _))
  (k_with "call ref cons nil" => (k_here; (with_reducible show wpAny _ _ (call (Value.ref 152) _) _ _ _); k_dflt (refine' free_walk (by k_asm) (by k_asm) (by k_asm) (by k_asm) (by k_asm) (by assumption) (by assumption) (by k_mem) (by assumption) (by assumption) (by assumption) (by assumption) (by assumption) (by exact rfl) (by ktr_room) (by ktr_units) ?_); intro _ _ _ _))
  show (let G := (_ : Prop); G); intro G
  obtain ⟨B, F, X, T⟩ := C
  unfold G; clear G
  revert X; k_fill; intro X
  refine wpAny_call ?_
  k_dflt (refine' code_defG ?k1 ?k2 ?k3 ?k4 ?k5 ?kA ?kF ?kK ?k6 ?k7 ?k8 ?k9 ?kB ?_ ?c2 ?c3 ?c4 ?c5; (case kA => exact rfl); (case kF => exact rfl); (case kK => assumption); (case k1 => k_asm); (case k2 => k_asm); (case k3 => k_asm); (case k4 => k_asm); (case k5 => k_asm); (case k6 => k_is); (case k7 => k_is); (case k8 => ktr_room); (case k9 => exact BindsTo.of_eq rfl); (case c5 => decide); (case kB => exact locs rfl); (case c2 => exact rfl); (case c3 => exact rfl); (case c4 => exact rfl); k_whole; intro g' L' h' FG' F' N' B' X' T' kG'; (try dsimp only); (try k_fold))
  have kG2 : GSub s.heap g' [pl, us] := kG'
  have up : ∀ b o, At s.heap ok b o → At g' (fun _ => True) b o := fun b o z => ⟨kG2 _ _ z.1 (by simpa using hok b z.2), trivial⟩
  show (let G := (_ : Prop); G); intro G
  obtain ⟨dx, t1, t2, t3, t4, hx, hdx⟩ := hM
  have hM' : MatIn w.params g' (fun _ => True) x fo tg us pl := ⟨dx, t1, t2, t3, t4, up _ _ hx, up _ _ hdx⟩
  replace hx := (up _ _ hx).1
  replace hdx := (up _ _ hdx).1
  obtain ⟨f1, f2, hF⟩ := hF
  obtain ⟨nf, hF, _⟩ := hF.mono up
  replace hF := lst_base hF
  have hT' : TagsIn g' (fun _ => True) tg gs := let ⟨tvs, a, b⟩ := hT; ⟨tvs, a.mono up, b⟩
  obtain ⟨tvs, hT, hta⟩ := hT
  obtain ⟨nt, hT, _⟩ := hT.mono up
  replace hT := lst_base hT
  have htl := hta.len
  have jm : JMz (Str.ofString "place") (fun i zv nx => (∃ tp, zv = .int ((posN (gs.map Tg.cl) i).1 : Int) tp) ∧ MutJ w us pl (posN (gs.map Tg.cl) i).2 nx) := ⟨⟩
  unfold G; clear G
  k_steps
  refine ⟨by decide +kernel, _, _, fun p hp => hp, rfl, ⟨⟨_, rfl⟩, uvs, o, n1, rfl, hU, hD⟩, ?turn, ?done⟩
  case turn =>
    intro i v zv nx h tk own hi ho ha hQ1 F1 N1
    show (let G := (_ : Prop); G); intro G
    obtain ⟨⟨tp, rfl⟩, uvs, o, n1, rfl, hU, lo, kvs, hD, hf⟩ := hQ1
    obtain ⟨c, t, hc, rfl⟩ : ∃ c t, cnames[i]? = some c ∧ v = .str (keyOf c) t := by
      have h2 : i < 2 := (List.getElem?_eq_some_iff.mp hi).1
      rcases (show i = 0 ∨ i = 1 by omega) with rfl | rfl
      · exact ⟨.x, f1, rfl, (Option.some.inj hi).symm⟩
      · exact ⟨.nm, f2, rfl, (Option.some.inj hi).symm⟩
    have hcm := (cnames_nm hc).1
    have hi2 := (cnames_nm hc).2
    have hdots : (keyOf c == Str.ofString "...") = false := by
      cases c <;> first | (exact absurd hcm (by decide)) | decide +kernel
    obtain ⟨hp1, hp2, hp3, hp4⟩ := posN_ok (cs := gs.map Tg.cl) (i := i) (by omega)
    rw [List.length_map] at hp1 hp2 hp4
    have hoU : ∀ p ∈ own, p.1 ≠ us := fun p hp => ho p hp us (by simp)
    have hoP : ∀ p ∈ own, p.1 ≠ pl := fun p hp => ho p hp pl (by simp)
    have hne' : pl ≠ us := hne.symm
    have hsucc := posN_succ (cs := gs.map Tg.cl) hc
    dsimp only [List.cons_append, List.nil_append] at N1
    generalize hq : posN (gs.map Tg.cl) i = q at *
    obtain ⟨p0, uns, D⟩ := q
    dsimp only at hp1 hp2 hp3 hp4 hU hf
    unfold G; clear G
    cases hkd : keyed D c with
    | true =>
      have hlk : (PySem.Spec.lookup (.str (keyOf c)) (tabOf D)).isSome = true := by rw [keyed_tab hcm hp3]; exact hkd
      rw [posStep_keyed hkd] at hsucc
      k_steps
      refine turn_endZ (nx := [(pl, o), (us, listOf uvs.toArray n1)]) (by k_asm) (by k_asm) rfl ?_ ha (fun p hp => hp) (fun y h1 h2 => (if_neg h1).trans (if_neg h2))
      rw [hsucc]
      exact ⟨⟨_, rfl⟩, uvs, o, n1, rfl, hU, lo, kvs, hD, hf⟩
    | false =>
      have hlk : (PySem.Spec.lookup (.str (keyOf c)) (tabOf D)).isSome = false := by rw [keyed_tab hcm hp3]; exact hkd
      have jw : JMw (Str.ofString "place") (fun k zv => ∃ p tp, zv = .int ((p : Nat) : Int) tp ∧ k = gs.length - p ∧ p ≤ gs.length ∧ adv (gs.map Tg.cl) uns (gs.length - p) p = adv (gs.map Tg.cl) uns (gs.length - p0) p0) := ⟨⟩
      k_steps
      refine ⟨_, _, rfl, ⟨p0, tp, rfl, rfl, hp1, rfl⟩, ?wturn⟩
      case wturn =>
        intro k zv h3 tk3 hQ2 F3 N3
        show (let G := (_ : Prop); G); intro G
        obtain ⟨p, tp3, rfl, rfl, hpn, hadv⟩ := hQ2
        have hstop := fun q => adv_stop (cs := gs.map Tg.cl) (us := uns) (p := p) q
        rw [List.length_map] at hstop
        unfold G; clear G
        by_cases hp : p < gs.length
        · have hlt : decide ((p : Int) < ((gs.length : Nat) : Int)) = true := decide_eq_true (by omega)
          cases hb : isFree (gs.map Tg.cl) uns p with
          | false =>
            k_steps
            rename_i h5 tk5 h6 F6 N6
            refine ⟨gs.length - (p + 1), by omega, _, h6, _, _, rfl, F6, rfl, fun y hy => (if_neg hy).trans (if_neg hy), N6, p + 1, _, rfl, rfl, by omega, ?_⟩
            have := adv_go (cs := gs.map Tg.cl) (us := uns) (p := p) (by simpa using hp) hb
            rw [List.length_map] at this
            exact this.symm.trans hadv
          | true =>
            have hv := hstop (by rw [hb]; simp)
            rw [posStep_lt hkd (by show adv _ _ _ _ < _; rw [List.length_map, ← hadv, hv]; exact hp)] at hsucc
            rw [List.length_map, ← hadv, hv] at hsucc
            k_steps
            rename_i h5 tk5 F5 N5 tk6 h7 o7 kvs7 F7 N7 hd7 hf7 h8 vs8 F8 N8 hU8
            refine turn_endZ (nx := [(pl, o7), (us, listOf vs8.toArray n1)]) F8 N8 rfl ?_ ha (fun p hp => hp) (fun y h1 h2 => (if_neg h2).trans ((if_neg h1).trans (if_neg h2)))
            rw [hsucc]
            exact ⟨⟨_, rfl⟩, vs8, o7, n1, rfl, hU8, lo, kvs7, hd7, hf7⟩
        · have hlt : decide ((p : Int) < ((gs.length : Nat) : Int)) = false := decide_eq_false (by omega)
          have hv := hstop (by simp [hp])
          rw [posStep_ge hkd (by show ¬ adv _ _ _ _ < _; rw [List.length_map, ← hadv, hv]; exact hp)] at hsucc
          rw [List.length_map, ← hadv, hv] at hsucc
          k_steps
          refine turn_endZ (nx := [(pl, o), (us, listOf uvs.toArray n1)]) F3 N3 rfl ?_ ha (fun p hp => hp) (fun y h1 h2 => (if_neg h2).trans ((if_neg h1).trans (if_neg h2)))
          rw [hsucc]
          exact ⟨⟨_, rfl⟩, uvs, o, n1, rfl, hU, lo, kvs, hD, hf⟩
  case done =>
    intro u3 zv nx h3 tk3 hQ3 F3 N3
    show (let G := (_ : Prop); G); intro G
    obtain ⟨⟨tp, rfl⟩, uvs, o, n1, rfl, hU, lo, kvs, hD, hf⟩ := hQ3
    unfold G; clear G
    k_steps
    rename_i kF kN
    refine ret _ _ uvs o n1 (gsub_back kG2 F3) (kN _ (.head _)).1 (kN _ (.tail _ (.head _))).1 hU ⟨lo, kvs, hD, hf⟩
end
end
section
open PySem PySem.W PyProof.Rows PySem.Calls
theorem range_small {n : Nat} (h : n < 1000) : Builtin.Range.small 0 (n : Int) 1 = true := small_one (by omega) (by omega) (by omega) (by omega)
theorem range_size (n : Nat) : Builtin.Range.rangeSize 0 (n : Int) 1 = (n : Int) := by
  have := rangeSize_nat 0 (n : Int)
  rw [this]; omega
section
variable {w : World} {mean : ExcName → Option Value} {mg mb : Str → Option Value} {dp un : Nat} {gd : Option (List Code)} {cn : Str} {cs : Scope} {a : Addr} {ccd : Value} {cl : List (Str × Addr)} {outer : List Env} {A₀ : Around} {base h₀ : Heap} {L : Addr} {m : Str → Option Value} {s : Shared} {Q E : Value → Shared → Prop}







set_option maxRecDepth 100000 in
set_option maxHeartbeats 2000000 in
theorem rest_call (C : Cx w mean mg mb A₀ base outer h₀ L s.heap m) (hk : cs.kind = .function) (hdp : dp + 25 < recursionLimit) (hun : un + 300 < cLine)
    {ok : Addr → Prop} {x fo tg us pl : Addr} {gs : List Tg} {uvs : List Value} {uns : List Int} (hM : MatIn w.params s.heap ok x fo tg us pl) (hT : TagsIn s.heap ok tg gs) (hus : LstAt s.heap ok us uvs) (hU : IntsAre uvs uns) (hul : uns.length = gs.length) (hn : gs.length ≤ 5)
    (ret : ∀ p rvs h' tk', GSub s.heap h' [] → LstAt h' (fun b => s.heap.get? b = none) p rvs → Are NatAt rvs ((List.range gs.length).filter fun i => uns.getD i 0 == 0) → Q (.ref p) { s with heap := h', toks := tk' }) :
   wpAny (model PySem.Challenge.rw_pq1402_01.row.prog w) (ktrTop dp un gd cn cs L a ccd cl outer) (call (.ref 157) [.ref x]) Q E s := by
  w_top off
  k_with_none
  (k_with "compareOp Lt int int" => (k_here; k_dflt (refine' lti_fact (by assumption) ?_)))
  (k_with "call builtin:str.startswith" => (k_here; k_dflt (refine' starts_fact (by assumption) ?_)))
  (k_with "compareOp NotEq int int" => (k_here; k_dflt (refine' nei_fact (by assumption) ?_)))
  (k_with "compareOp Eq int int" => (k_here; k_dflt (refine' eqi_fact (by assumption) ?_)))
  (k_with "LeaveK" => (refine' leaveK_ (by k_asm) (by k_asm) ?_; intro _ _; dsimp only))
  (k_with "LeaveK ref" => (refine' leaveK_ (by k_asm) (by k_asm) ?_; intro _ _; dsimp only))
  (k_with "call builtin:len" => (k_here; k_dflt (refine' len_sym (by first | is_list) (by assumption) (by omega) ?_)))
  (k_with "call builtin:len cons nil" => (k_here; k_dflt (refine' len_sym (by first | is_list) (by assumption) (by omega) ?_)))
  (k_with "subscriptTail" => (k_here; (with_reducible show wpAny _ _ (subscriptTail _ _ (Value.ref _) (Value.int _ _)) _ _ _); k_dflt (refine' item_at (by is_list) (by assumption) (by omega) ?_)))
  (k_with "subscriptTail Attribute Name Name ref int" => (k_here; (with_reducible show wpAny _ _ (subscriptTail _ _ (Value.ref _) (Value.int _ _)) _ _ _); k_dflt (refine' item_at (by is_list) (by assumption) (by omega) ?_)))
  (k_with "compareOp NotEq str str" => (k_here; k_dflt (refine' ne_fact (by assumption) ?_)))
  (k_with "eval ListComp" => (k_here; k_dflt (refine LCt.ListComp_T (F₀ := by k_asm) (by with_unfolding_all rfl) (by decide) (by rfl) (by decide) (by rfl) ?_)))
  (k_with "eval ListComp Name cons" => (k_here; k_dflt (refine LCt.ListComp_T (F₀ := by k_asm) (by with_unfolding_all rfl) (by decide) (by rfl) (by decide) (by rfl) ?_)))
  (k_with "CompSrcT" => k_dflt (change Later _))
  (k_with "CompSrcT Compare Name cons ref" => k_dflt (change Later _))
  (k_with "call type:range" => (k_here; k_dflt (refine' range1_rows (by k_asm) (by k_asm) ?_); intro _ _ _ _ _ _ _ _ _))
  (k_with "call type:range cons nil" => (k_here; k_dflt (refine' range1_rows (by k_asm) (by k_asm) ?_); intro _ _ _ _ _ _ _ _ _))
  show (let G := (_ : Prop); G); intro G
  obtain ⟨B, F, X, T⟩ := C
  have N : News h₀ L s.heap [] := News.nil
  unfold G; clear G
  revert X; k_fill; intro X
  refine wpAny_call ?_
  k_dflt (refine' code_cG ?k1 ?k2 ?k3 ?k4 ?k5 ?kA ?kF ?kK ?k6 ?k7 ?k8 ?k9 ?kB ?kD ?_ ?c2 ?c3 ?c4; (case kA => exact rfl); (case kF => exact rfl); (case kK => assumption); (case k1 => k_asm); (case k2 => k_asm); (case k3 => k_asm); (case k4 => k_asm); (case k5 => k_asm); (case k6 => k_is); (case k7 => k_is); (case k8 => ktr_room); (case k9 => exact BindsTo.of_eq rfl); (case kB => exact rfl); (case kD => decide +kernel); (case c2 => exact rfl); (case c3 => exact rfl); (case c4 => exact rfl); k_whole; intro g' L' h' tk' cells' FG' F' N' Y' B' X' T' l1 kG'; (try k_lt l1); k_cells Y'; (try simp only [List.cons_append, List.nil_append] at N'); (try dsimp only); (try k_fold))
  have kG2 : GSub s.heap g' [] := kG'
  have up : ∀ b o, At s.heap ok b o → At g' (fun _ => True) b o := fun b o z => ⟨kG2 _ _ z.1 (by simp), trivial⟩
  show (let G := (_ : Prop); G); intro G
  obtain ⟨dx, t1, t2, t3, t4, hx, hdx⟩ := hM
  replace hx := (up _ _ hx).1
  replace hdx := (up _ _ hdx).1
  obtain ⟨tvs, hT, hta⟩ := hT
  obtain ⟨nt, hT, _⟩ := hT.mono up
  replace hT := lst_base hT
  obtain ⟨nu, hus, _⟩ := hus.mono up
  replace hus := lst_base hus
  have htl := hta.len
  have Fg := FG'
  unfold G; clear G
  k_steps
  rename_i h2 tk2 ta tb tc R2 F2 N2 K2
  refine LCt.CompSrcT.range rfl F2 N2 R2 (range_small (by omega)) (range_size _) (by rw [PySem.sizeLine_eq]; omega) ?_
  intro g2
  refine comp_restT (fun i => uns.getD i 0 == 0) NatAt trivial ?turn ?item ?fin
  case turn =>
    rintro i v I oI C oC D m₂ ys h tk E' hi ⟨t, rfl⟩ hC hx F1 N1 off ne
    rw [Int.zero_add] at *
    have hj2 : i < uns.length := by omega
    cases hu0 : (uns.getD ((i : Int)).toNat 0 == 0) with
    | true =>
      k_steps
      exact ⟨_, _, rfl, F1, gsub_refl _ _, hu0.symm⟩
    | false =>
      k_steps
      exact ⟨_, _, rfl, F1, gsub_refl _ _, hu0.symm⟩
  case item =>
    rintro i v I oI C oC D m₂ ys h tk E' hi ⟨t, rfl⟩ hbi hC hx F1 N1 off ne
    rw [Int.zero_add] at *
    k_steps
    exact ⟨_, _, rfl, F1, gsub_refl _ _, t, rfl⟩
  case fin =>
    intro ys hys
    k_steps
    rename_i D h5 tk5 F5 N5 o5 kF kN
    refine ret D ys _ _ (gsub_back kG2 F5) ⟨_, (N5 _ (.head _)).1, ?_⟩ hys
    have hz : g'.get? D = none := (N5 _ (.head _)).2.2
    show s.heap.get? D = none
    cases q : s.heap.get? D with
    | none => rfl
    | some o' => rw [kG2 _ _ q (by simp)] at hz; cases hz
end
end
section
open PySem PySem.W PyProof.Rows PySem.Calls
theorem dict_fields (f : Array Value → Array Value) (o : Obj) : (Obj.mapFields f o).dict = o.dict := by
  unfold Obj.mapFields
  split <;> rfl

/-- an exception under way, with the dict of its own fields -/
structure Fly (base : Heap) (l : List Env) (e dx : Addr) (cls fl : Value) (h : Heap) : Prop where
  stays : base.StaysIn h
  new : base.get? e = none
  frames : h.FunFrames base l
  here : ∃ oe vs T oT ts, h.get? e = some oe ∧ oe.cls = cls ∧ oe.dict = some dx ∧ oe.data = .fields vs ∧ vs[1]? = some (.ref T) ∧ base.get? T = none ∧ T ≠ e ∧ h.get? T = some oT ∧ oT.data = .fields ts ∧ ts[3]? = some fl ∧ vs[2]? = some .none

section
variable {M : Model} {A : Around} {E : Value → Shared → Prop} {s : Shared} {base : Heap} {env : Env} {outer l : List Env} {L e dx : Addr} {cls fl : Value} {Q : Unit → Shared → Prop}
theorem fly_entry {oe : Obj} {vs : Array Value} {head : Value} {hadNext : Bool} (hfr : A.frames = some (env :: outer)) (hl : s.heap.FunFrames base (env :: outer)) (hf : env.frame = some L)
    (he : s.heap.get? e = some oe) (hk : base.StaysIn s.heap) (hn : base.get? e = none) (hd : oe.data = .fields vs) (hx : oe.dict = some dx) (hsz : 1 < vs.size) (hc2 : vs[2]? = some .none)
    (h : ∀ h', Fly base (env :: outer) e dx oe.cls (rawInt L) h' → s.heap.UpToSlots h' → Q () { s with heap := h' }) :
    wpAny M A (do let a ← frameOf env; let pl ← entryPlaceOf L hadNext; let b ← EntryCells.newEntry head a .none (rawInt L) .none pl; setField (.ref e) 1 b) Q E s := by
  have off : e ∉ (env :: outer).filterMap (·.frame) := fun hm => by
    obtain ⟨_, o, ho, hnf⟩ := hl.mem hm
    rw [he] at ho
    cases ho
    exact hnf vs hd
  refine wpAny_bind (wpAny_frameOf_fun hfr hl hf fun h₁ ⟨_, keep₁, slots₁⟩ => ?_)
  refine wpAny_bind (wpAny_entryPlaceOf fun pl hpl => ?_)
  unfold EntryCells.newEntry newFields
  refine wpAny_bind (wpAny_newObj_type ?_ (hpl.sizeOk5 _ _ _ _ _))
  dsimp only
  generalize hob : (⟨.type "traceback", none, .fields ([head, Value.ref L, Value.none, rawInt L, Value.none] ++ (if pl.isEmpty then List.replicate 6 Value.none else pl)).toArray, #[]⟩ : Obj) = tb
  have htd : ∃ ts, tb.data = .fields ts ∧ ts[3]? = some (rawInt L) := by
    subst hob
    refine ⟨_, rfl, ?_⟩
    simp
  have e₁ : h₁.get? e = some oe := (keep₁ e off).trans he
  have k₁ : base.StaysIn h₁ := fun b o z => (keep₁ b fun hm => by rw [(hl.mem hm).1] at z; cases z).trans (hk b o z)
  have e₂ := Heap.get?_push_of_some tb e₁
  obtain ⟨ts, hts, ht3⟩ := htd
  have hT : (h₁.push tb).get? h₁.objs.size = some tb := Heap.get?_push_size h₁ (Obj.isFreed_of_fields hts)
  have hTe : h₁.objs.size ≠ e := Nat.ne_of_gt (Heap.lt_size e₁)
  have hd₃ := Obj.data_mapFields hd (·.setIfInBounds 1 (Value.ref h₁.objs.size))
  have keep : ∀ b o, b ≠ e → h₁.get? b = some o → ((h₁.push tb).update e (Obj.mapFields (·.setIfInBounds 1 (Value.ref h₁.objs.size)))).get? b = some o := fun b o hbe hb =>
    (Heap.get?_update_other _ _ (Ne.symm hbe)).trans (Heap.get?_push_of_some _ hb)
  have apart : ∀ b o, s.heap.get? b = some o → (∀ vs, o.data ≠ .fields vs) → b ≠ e := fun b o hb hnf q => by
    subst q
    rw [he] at hb
    cases hb
    exact hnf vs hd
  refine wpAny_setField e₂ hd hsz (h _ ⟨fun b o z => keep b o (fun q => by rw [q, hn] at z; cases z) (k₁ b o z), hn, hl.of_keeps fun b o hb hnf => ?_, ?_⟩ fun b o hb hnf => ?_)
  · obtain ⟨sl, z⟩ := slots₁ b o hb
    exact ⟨_, keep b _ (apart b o hb hnf) z, rfl⟩
  · exact ⟨_, _, h₁.objs.size, tb, ts, Heap.get?_update_self _ e₂ (Obj.isFreed_of_fields hd₃), Obj.cls_mapFields _ _, (dict_fields _ _).trans hx, hd₃, by simp [hsz], k₁.fresh, hTe, (Heap.get?_update_other _ _ (Ne.symm hTe)).trans hT, hts, ht3, by simpa using hc2⟩
  · obtain ⟨sl, z⟩ := slots₁ b o hb
    exact ⟨sl, keep b _ (apart b o hb hnf) z⟩

theorem fly_first {oe : Obj} {vs : Array Value} (hfr : A.frames = some (env :: outer)) (hl : s.heap.FunFrames base (env :: outer)) (hf : env.frame = some L)
    (he : s.heap.get? e = some oe) (hk : base.StaysIn s.heap) (hn : base.get? e = none) (hd : oe.data = .fields vs) (hx : oe.dict = some dx) (h1 : vs[1]? = some .none) (hc2 : vs[2]? = some .none)
    (h : ∀ h', Fly base (env :: outer) e dx oe.cls (rawInt L) h' → s.heap.UpToSlots h' → Q () { s with heap := h' }) : wpAny M A (noteFrame (.ref e) env) Q E s := by
  unfold noteFrame
  simp only [hf]
  refine wpAny_bind (wpAny_field he hd h1 ?_)
  rw [if_neg (by decide)]
  exact fly_entry hfr hl hf he hk hn hd hx (Array.getElem?_eq_some_iff.mp h1).1 hc2 h

theorem fly_next (hfr : A.frames = some (env :: outer)) (hf : env.frame = some L) (x : Fly base (env :: outer) e dx cls .none s.heap)
    (h : ∀ h', Fly base (env :: outer) e dx cls (rawInt L) h' → s.heap.UpToSlots h' → Q () { s with heap := h' }) : wpAny M A (noteFrame (.ref e) env) Q E s := by
  obtain ⟨hk, hn, hl, oe, vs, T, oT, ts, he, hcls, hx, hd, h1, hnT, hTe, hT, hdT, h3, hc2⟩ := x
  subst hcls
  unfold noteFrame
  simp only [hf]
  refine wpAny_bind (wpAny_field he hd h1 ?_)
  rw [if_pos (show (Value.ref T != Value.none) = true from by simp)]
  refine wpAny_bind (wpAny_field hT hdT h3 ?_)
  rw [if_neg (show ¬ ((Value.none == rawInt L) = true) from by simp [rawInt])]
  refine wpAny_bind (wpAny_setField hT hdT (Array.getElem?_eq_some_iff.mp h3).1 ?_)
  have other : ∀ b, b ≠ T → (s.heap.update T (Obj.mapFields (·.setIfInBounds 3 Value.none))).get? b = s.heap.get? b := fun b hb => Heap.get?_update_other _ _ (Ne.symm hb)
  have apart : ∀ b o, s.heap.get? b = some o → (∀ vs, o.data ≠ .fields vs) → b ≠ T := fun b o hb hnf q => by
    subst q
    rw [hT] at hb
    cases hb
    exact hnf ts hdT
  refine fly_entry hfr (hl.of_keeps fun b o hb hnf => ⟨o, (other b (apart b o hb hnf)).trans hb, rfl⟩) hf ((other e (Ne.symm hTe)).trans he) (fun b o z => (other b fun q => by rw [q, hnT] at z; cases z).trans (hk b o z)) hn hd hx
    (Array.getElem?_eq_some_iff.mp h1).1 hc2 fun h' F U => h h' F fun b o hb hnf => U b o ((other b (apart b o hb hnf)).trans hb) hnf

theorem fly_again (hf : env.frame = some L) (x : Fly base l e dx cls (rawInt L) s.heap) (h : Q () s) : wpAny M A (noteFrame (.ref e) env) Q E s := by
  obtain ⟨hk, hn, hl, oe, vs, T, oT, ts, he, hcls, hx, hd, h1, hnT, hTe, hT, hdT, h3, hc2⟩ := x
  unfold noteFrame
  simp only [hf]
  refine wpAny_bind (wpAny_field he hd h1 ?_)
  rw [if_pos (show (Value.ref T != Value.none) = true from by simp)]
  refine wpAny_bind (wpAny_field hT hdT h3 ?_)
  rw [if_pos (show (rawInt L == rawInt L) = true from by simp)]
  exact wpAny_pure h

theorem fly_land (x : Fly base l e dx cls fl s.heap) (h : ∀ h', Fly base l e dx cls .none h' → s.heap.UpToSlots h' → Q () { s with heap := h' }) : wpAny M A (setFlight (.ref e) none) Q E s := by
  obtain ⟨hk, hn, hl, oe, vs, T, oT, ts, he, hcls, hx, hd, h1, hnT, hTe, hT, hdT, h3, hc2⟩ := x
  have h3s : 3 < ts.size := (Array.getElem?_eq_some_iff.mp h3).1
  unfold setFlight
  refine wpAny_bind (wpAny_field he hd h1 ?_)
  rw [if_pos (show (Value.ref T != Value.none) = true from by simp)]
  have other : ∀ b, b ≠ T → (s.heap.update T (Obj.mapFields (·.setIfInBounds 3 ((none : Option Addr).elim Value.none fun f => rawInt f)))).get? b = s.heap.get? b := fun b hb => Heap.get?_update_other _ _ (Ne.symm hb)
  have apart : ∀ b o, s.heap.get? b = some o → (∀ vs, o.data ≠ .fields vs) → b ≠ T := fun b o hb hnf q => by
    subst q
    rw [hT] at hb
    cases hb
    exact hnf ts hdT
  have hd₂ := Obj.data_mapFields hdT (·.setIfInBounds 3 ((none : Option Addr).elim Value.none fun f => rawInt f))
  refine wpAny_setField hT hdT h3s (h _ ⟨fun b o z => (other b fun q => by rw [q, hnT] at z; cases z).trans (hk b o z), hn, hl.of_keeps fun b o hb hnf => ⟨o, (other b (apart b o hb hnf)).trans hb, rfl⟩, ?_⟩ fun b o hb hnf => ⟨o.slots, (other b (apart b o hb hnf)).trans hb⟩)
  exact ⟨oe, vs, T, _, _, (other e (Ne.symm hTe)).trans he, hcls, hx, hd, h1, hnT, hTe, Heap.get?_update_self _ hT (Obj.isFreed_of_fields hd₂), hd₂, by simp [h3s], hc2⟩

theorem fly_leave0 {oe : Obj} {vs : Array Value} (hfr : A.frames = some (env :: outer)) (hl : s.heap.FunFrames base (env :: outer)) (hf : env.frame = some L)
    (he : s.heap.get? e = some oe) (hk : base.StaysIn s.heap) (hn : base.get? e = none) (hd : oe.data = .fields vs) (hx : oe.dict = some dx) (h1 : vs[1]? = some .none) (hc2 : vs[2]? = some .none)
    (h : ∀ h', Fly base outer e dx oe.cls .none h' → s.heap.UpToSlots h' → Q () { s with heap := h' }) : wpAny M A (leaving env (.ref e)) Q E s := by
  unfold leaving
  refine wpAny_bind (fly_first hfr hl hf he hk hn hd hx h1 hc2 fun h₁ F₁ U₁ => fly_land F₁ fun h₂ F₂ U₂ => h h₂ ⟨F₂.stays, F₂.new, F₂.frames.2.2, F₂.here⟩ (U₁.trans U₂))
theorem fly_leave (hfr : A.frames = some (env :: outer)) (hf : env.frame = some L) (x : Fly base (env :: outer) e dx cls .none s.heap)
    (h : ∀ h', Fly base outer e dx cls .none h' → s.heap.UpToSlots h' → Q () { s with heap := h' }) : wpAny M A (leaving env (.ref e)) Q E s := by
  unfold leaving
  refine wpAny_bind (fly_next hfr hf x fun h₁ F₁ U₁ => fly_land F₁ fun h₂ F₂ U₂ => h h₂ ⟨F₂.stays, F₂.new, F₂.frames.2.2, F₂.here⟩ (U₁.trans U₂))
end
end
section
open PySem PySem.W PyProof.Rows PySem.Calls Builtin Builtin.ObjectAttr
set_option maxRecDepth 100000
abbrev bm3 : List Value := [.type "Exception", .type "BaseException", .type "object"]
abbrev bm51 : List Value := .ref 31 :: bm3
abbrev cls51 : Obj := excClassObj (Str.ofString "Refusal") (Str.ofString "Refusal") 51 50 [.ref 31] bm51 true [] [] false none none (some (.ref 35)) none (some (.str (Str.ofString "Refusal") 216)) (some (.str (Str.ofString "Refusal") 224)) (some (.bool true)) "Exception.__new__"
theorem at51 {w : World} {h : Heap} (X : (heapK w.params).In h) : h.get? 51 = some cls51 := X 51 _ rfl
theorem tail51 {w : World} {h : Heap} (X : (heapK w.params).In h) : OwnTail h bm3 bm51 := by
  refine .own (mA := fun n => _) (X 31 _ rfl) ⟨_, _, _, X 30 _ rfl, rfl, ?_, fun n => rfl⟩ ?_ .base
  · intro e he
    simp only [List.mem_toArray, List.mem_cons, List.not_mem_nil, or_false] at he
    rcases he with rfl | rfl | rfl | rfl | rfl <;> exact ⟨_, _, rfl⟩
  · rfl

section
variable {prog : Program} {w : World} {A : Around} {R : Result → Shared → Prop} {h : Heap} {g : Array GenState} {d : Drawn} {t : Nat} {os : OsState}
theorem make51 {rest : List Value} (X : (heapK w.params).In h)
    (hq : ∀ h' e, Heap.MadeExcOf h h' e (.ref 51) rest → codeAny (model prog w) (A.under (.builtin "type.__call__" ⟨.ref 51 :: rest, []⟩)) (.call (.ref 48) ⟨.ref e :: rest, []⟩) (InitBack e R) ⟨h', g, d, t, os⟩) (hrest : rest.length ≤ sizeLine) :
    codeAny (model prog w) A (.call (.ref 51) ⟨rest, []⟩) R ⟨h, g, d, t, os⟩ := by
  have hC := at51 X
  have T := tail51 X
  have F := PySem.F.excBase_Exception
  have call : Looks (model prog w) h (specialOf (.ref 51) "__call__") (some (.builtin "type.__call__")) := looks_specialIn X (by with_unfolding_all exact rfl)
  have typ : Looks (model prog w) h (isInstance (.ref 51) (.type "type")) true := looks_instIn X (by with_unfolding_all exact rfl)
  have hi : Looks (model prog w) h (typeLookup (.ref 51) "__init__") (some (.ref 48)) := looks_findIn X (by with_unfolding_all exact rfl)
  have hb : ∀ self, Looks (model prog w) h (bindSpecial (.ref 48) self) (.ref 48, [self]) := fun self => bind_fn X self (by with_unfolding_all exact rfl)
  have self : Looks (model prog w) h (isSubtype (.ref 51) (.ref 51)) true := looks_mroIn X (by with_unfolding_all exact rfl)
  have made : Looks (model prog w) h (Bind.madeBy (.ref 51)) (some "Exception.__new__") := by
    intro A Q E s k q
    obtain ⟨hh, g, d, t, os⟩ := s
    exact wpAny_madeBy_exc (k _ _ hC) q
  refine codeAny_of_tree ?_
  show wpAny _ _ (callAny (.ref 51) _) _ _ _
  refine nd_load hC ?_
  show wpAny _ _ (callAny.viaDunder (.ref 51) _) _ _ _
  unfold callAny.viaDunder
  refine wpAny_bind (call.at ?_)
  dsimp only
  rw [tc_bind]
  refine wpAny_bind (wpAny_pure (wpAny_bind (wpAny_pure ?_)))
  refine wpAny_pure (a := Fin.again (.call (.builtin "type.__call__") ⟨.ref 51 :: rest, []⟩)) (And.intro rfl ?_)
  refine codeAny_call_builtin_at (Code.quiet_builtin _ (by decide +kernel)) entry_typeCall (check_slot tc_kind tc_split typ (tc_args _ _ _) ?_)
  unfold Builtin.«type.__call__»
  have hm : Looks (model prog w) h (mroOf (.ref 51)) (.ref 51 :: bm51) := looks_clsIn X (cd := ⟨Str.ofString "Refusal", [.ref 31], .ref 51 :: bm51, 50, Str.ofString "Refusal", true, [], [], false, none, false⟩) (by with_unfolding_all exact rfl) |>.andThen .now
  repeat (first | with_reducible refine wpAny_call ?_ | lk)
  refine codeAny_call_builtin_code (Code.quiet_builtin _ F.quiet) (wpAny_check_new_subT F T hC ?_)
  refine codeAny_exc_new_subT F T hC ?_ hrest
  generalize hoe : ({ cls := .ref 51, data := .fields #[.ref h.objs.size, .none, .none, .none, .bool false, .none] } : Obj) = oe
  have k : ∀ b o, h.get? b = some o → ((h.push { cls := .type "tuple", data := .seq rest.toArray }).push oe).get? b = some o := fun b o e => Heap.get?_push_of_some _ (Heap.get?_push_of_some _ e)
  have hx : ((h.push { cls := .type "tuple", data := .seq rest.toArray }).push oe).get? (h.objs.size + 1) = some oe := by
    subst hoe; heap_get
  have ht : ((h.push { cls := .type "tuple", data := .seq rest.toArray }).push oe).get? h.objs.size = some { cls := .type "tuple", data := .seq rest.toArray } := Heap.get?_push_of_some _ (Heap.get?_push_at rfl rfl)
  have hoc : oe.cls = .ref 51 := by subst hoe; rfl
  have t1 : Looks (model prog w) ((h.push { cls := .type "tuple", data := .seq rest.toArray }).push oe) (typeOf (.ref (h.objs.size + 1))) (.ref 51) := hoc ▸ ((Looks.ld hx).andThen .now)
  have s1 := self.keeps k
  have i1 := hi.keeps k
  have b1 := (hb (.ref (h.objs.size + 1))).keeps k
  have hq1 := hq _ (h.objs.size + 1) ⟨k, Heap.get?_none_of_le (Nat.le_succ _), h.objs.size, hoe ▸ hx, Heap.get?_none_of_le (Nat.le_refl _), ht⟩
  clear hoe
  unfold isInstance callSpecial? specialOf
  show wpAny _ _ _ _ _ _
  repeat (first | with_reducible refine wpAny_call ?_ | lk)
  refine codeAny_mono hq1 fun r s' z => ?_
  rcases r with e | (v | _ | _ | _) <;> first | exact z | exact z.elim | skip
  obtain ⟨rfl, z⟩ := z
  exact wpAny_pure (wpAny_pure z)
end
end
section
open PySem PySem.W PyProof.Rows PySem.Calls
theorem news_two {h₀ h h' : Heap} {L pl us : Addr} {o o' b b' : Obj} {rest : List (Addr × Obj)} (N : News h₀ L h ((pl, o) :: (us, b) :: rest)) (G : GSub h h' [pl, us]) (e1 : h'.get? pl = some o') (e2 : h'.get? us = some b') (hr : ∀ p ∈ rest, p.1 ≠ pl ∧ p.1 ≠ us) :
    News h₀ L h' ((pl, o') :: (us, b') :: rest) := by
  intro p hp
  rcases List.mem_cons.mp hp with rfl | hp
  · exact ⟨e1, (N _ (.head _)).2⟩
  · rcases List.mem_cons.mp hp with rfl | hp
    · exact ⟨e2, (N _ (.tail _ (.head _))).2⟩
    · have z := N p (.tail _ (.tail _ hp))
      exact ⟨G _ _ z.1 (by simpa using hr p hp), z.2⟩
theorem news_ne {h₀ h : Heap} {L a : Addr} {news : List (Addr × Obj)} {b : Addr} {o : Obj} (N : News h₀ L h news) (ha : a ∈ news.map (·.1)) (hb : h₀.get? b = some o) : b ≠ a := by
  rintro rfl
  obtain ⟨p, hp, rfl⟩ := List.mem_map.mp ha
  rw [(N p hp).2.2] at hb
  cases hb
theorem ord_ne {tg dx x us pl : Addr} (h1 : us < pl) (h2 : x < us) (h3 : dx < x) (h4 : tg < dx) : (x ≠ pl ∧ x ≠ us) ∧ (dx ≠ pl ∧ dx ≠ us) ∧ (tg ≠ pl ∧ tg ≠ us) :=
  have a := Nat.lt_trans h3 h2
  have b := Nat.lt_trans h4 a
  ⟨⟨Nat.ne_of_lt (Nat.lt_trans h2 h1), Nat.ne_of_lt h2⟩, ⟨Nat.ne_of_lt (Nat.lt_trans a h1), Nat.ne_of_lt a⟩, ⟨Nat.ne_of_lt (Nat.lt_trans b h1), Nat.ne_of_lt b⟩⟩
abbrev five (P : Params) (pl us x dx fo tg : Addr) (o : Obj) (uvs tvs : List Value) (n1 nt : Nat) (t1 t2 t3 t4 : Tok) : List (Addr × Obj) :=
  [(pl, o), (us, listOf uvs.toArray n1), (x, instObj 160 dx), (dx, matD P (.ref fo) (.ref tg) (.ref us) (.ref pl) t1 t2 t3 t4), (tg, listOf tvs.toArray nt)]
section
variable {w : World} {mean : ExcName → Option Value} {mg mb : Str → Option Value} {dp un : Nat} {gd : Option (List Code)} {cn : Str} {cs : Scope} {a : Addr} {ccd : Value} {cl : List (Str × Addr)} {outer : List Env} {A₀ : Around} {base h₀ : Heap} {L : Addr} {m : Str → Option Value} {s : Shared} {Q E : Value → Shared → Prop}
  {pl us x dx fo tg : Addr} {o : Obj} {uvs tvs : List Value} {n1 nt : Nat} {t1 t2 t3 t4 : Tok} {gs : List Tg}
theorem exact_walk (B : Below A₀ base outer h₀) (F : Fr h₀ L s.heap m) (X : (heapK w.params).In h₀) (T : Top viewQ LL mean mg mb h₀) (N : News h₀ L s.heap (five w.params pl us x dx fo tg o uvs tvs n1 nt t1 t2 t3 t4))
    (h1 : us < pl) (h2 : x < us) (h3 : dx < x) (h4 : tg < dx) (hF : FormIn h₀ (fun _ => True) fo) (hta : TagsAre tvs gs) (hU : IntsAre uvs (List.replicate gs.length 0)) (hD : DctIs w pl o []) (hn : gs.length ≤ 5) (hv : valid (gs.map Tg.cl) = true)
    (hk : cs.kind = .function) (hdp : dp + 15 < recursionLimit) (hun : un + 200 < cLine)
    (ret : ∀ h' tk' uvs' o' n1', Fr h₀ L h' m → News h₀ L h' (five w.params pl us x dx fo tg o' uvs' tvs n1' nt t1 t2 t3 t4) → IntsAre uvs' (exN (gs.map Tg.cl) 2).1 → DctIs w pl o' (exN (gs.map Tg.cl) 2).2 → Q .none { s with heap := h', toks := tk' }) :
   wpAny (model PySem.Challenge.rw_pq1402_01.row.prog w) (ktrTop dp un gd cn cs L a ccd cl outer) (call (.ref 124) [.ref x]) Q E s := by
  have e1 : ∀ {p : Addr × Obj}, p ∈ five w.params pl us x dx fo tg o uvs tvs n1 nt t1 t2 t3 t4 → s.heap.get? p.1 = some p.2 := fun hp => (N _ hp).1
  have hf1 : ∀ b, b ∈ [pl, us] → fo ≠ b := by
    obtain ⟨_, _, _, hfo, _⟩ := id hF
    exact fun b hb => news_ne N (by rcases List.mem_cons.mp hb with rfl | hb; simp; rw [List.mem_singleton.mp hb]; simp) hfo
  refine exact_call (ok := fun b => b ≠ pl ∧ b ≠ us) ⟨B, F, X, T⟩ hk hdp hun (fo := fo) (tg := tg) (us := us) (pl := pl) (gs := gs) (uvs := uvs) (o := o) (n1 := n1)
    ⟨dx, t1, t2, t3, t4, ⟨e1 (p := (x, _)) (by simp), (ord_ne h1 h2 h3 h4).1⟩, ⟨e1 (p := (dx, _)) (by simp), (ord_ne h1 h2 h3 h4).2.1⟩⟩ ?_ ⟨tvs, ⟨nt, e1 (p := (tg, _)) (by simp), (ord_ne h1 h2 h3 h4).2.2⟩, hta⟩ (fun _ z => z) (Nat.ne_of_lt h1) (fun p hp => N p (by rcases List.mem_cons.mp hp with rfl | hp; exact .head _; rw [List.mem_singleton.mp hp]; exact .tail _ (.head _))) hU hD hn hv ?_
  · obtain ⟨f1, f2, nf, hfo, _⟩ := hF
    exact ⟨f1, f2, nf, F.keep _ _ hfo, hf1 pl (by simp), hf1 us (by simp)⟩
  · intro h' tk' uvs' o' n1' G g1 g2 hU' hD'
    exact ret h' tk' uvs' o' n1' (fr_gsub F N (gsub_weak G (by simp))) (news_two N G g1 g2 (by
      have z := ord_ne h1 h2 h3 h4
      intro p hp
      simp only [List.mem_cons, List.not_mem_nil, or_false] at hp
      rcases hp with rfl | rfl | rfl
      · exact z.1
      · exact z.2.1
      · exact z.2.2)) hU' hD'
theorem partial_walk {uns : List Int} {D : List (Cl × Nat)} (B : Below A₀ base outer h₀) (F : Fr h₀ L s.heap m) (X : (heapK w.params).In h₀) (T : Top viewQ LL mean mg mb h₀) (N : News h₀ L s.heap (five w.params pl us x dx fo tg o uvs tvs n1 nt t1 t2 t3 t4))
    (hF : FormIn h₀ (fun _ => True) fo) (hta : TagsAre tvs gs) (hU : IntsAre uvs uns) (hul : uns.length = gs.length) (hD : DctIs w pl o D) (hDn : (D.all fun p => isNm p.1) = true) (hn : gs.length ≤ 5) (hu2 : ∀ j g, gs[j]? = some g → isNm g.cl = true → uns.getD j 0 = 2)
    (hk : cs.kind = .function) (hdp : dp + 25 < recursionLimit) (hun : un + 300 < cLine)
    (ret : ∀ h' tk', Fr h₀ L h' m → News h₀ L h' (five w.params pl us x dx fo tg o uvs tvs n1 nt t1 t2 t3 t4) → Q .none { s with heap := h', toks := tk' }) :
   wpAny (model PySem.Challenge.rw_pq1402_01.row.prog w) (ktrTop dp un gd cn cs L a ccd cl outer) (call (.ref 131) [.ref x]) Q E s := by
  have e1 : ∀ {p : Addr × Obj}, p ∈ five w.params pl us x dx fo tg o uvs tvs n1 nt t1 t2 t3 t4 → s.heap.get? p.1 = some p.2 := fun hp => (N _ hp).1
  refine partial_call (ok := fun _ => True) ⟨B, F, X, T⟩ hk hdp hun (fo := fo) (tg := tg) (us := us) (pl := pl) (gs := gs) (uvs := uvs) (o := o)
    ⟨dx, t1, t2, t3, t4, ⟨e1 (p := (x, _)) (by simp), trivial⟩, ⟨e1 (p := (dx, _)) (by simp), trivial⟩⟩ ?_ ⟨tvs, ⟨nt, e1 (p := (tg, _)) (by simp), trivial⟩, hta⟩ ⟨n1, e1 (p := (us, _)) (by simp), trivial⟩ hU hul ⟨e1 (p := (pl, _)) (by simp), trivial⟩ hD hDn hn hu2 ?_
  · obtain ⟨f1, f2, nf, hfo, _⟩ := hF
    exact ⟨f1, f2, nf, F.keep _ _ hfo, trivial⟩
  · intro h' tk' G
    exact ret h' tk' (fr_gsub0 F G) (news_gsub0 N G)
theorem positional_walk (B : Below A₀ base outer h₀) (F : Fr h₀ L s.heap m) (X : (heapK w.params).In h₀) (T : Top viewQ LL mean mg mb h₀) (N : News h₀ L s.heap (five w.params pl us x dx fo tg o uvs tvs n1 nt t1 t2 t3 t4))
    (h1 : us < pl) (h2 : x < us) (h3 : dx < x) (h4 : tg < dx) (hF : FormIn h₀ (fun _ => True) fo) (hta : TagsAre tvs gs) (hU : IntsAre uvs (exN (gs.map Tg.cl) 2).1) (hD : DctIs w pl o (exN (gs.map Tg.cl) 2).2) (hn : gs.length ≤ 5)
    (hk : cs.kind = .function) (hdp : dp + 25 < recursionLimit) (hun : un + 300 < cLine)
    (ret : ∀ h' tk' uvs' o' n1', Fr h₀ L h' m → News h₀ L h' (five w.params pl us x dx fo tg o' uvs' tvs n1' nt t1 t2 t3 t4) → IntsAre uvs' (posN (gs.map Tg.cl) 2).2.1 → DctIs w pl o' (posN (gs.map Tg.cl) 2).2.2 → Q .none { s with heap := h', toks := tk' }) :
   wpAny (model PySem.Challenge.rw_pq1402_01.row.prog w) (ktrTop dp un gd cn cs L a ccd cl outer) (call (.ref 145) [.ref x]) Q E s := by
  have e1 : ∀ {p : Addr × Obj}, p ∈ five w.params pl us x dx fo tg o uvs tvs n1 nt t1 t2 t3 t4 → s.heap.get? p.1 = some p.2 := fun hp => (N _ hp).1
  have hf1 : ∀ b, b ∈ [pl, us] → fo ≠ b := by
    obtain ⟨_, _, _, hfo, _⟩ := id hF
    exact fun b hb => news_ne N (by rcases List.mem_cons.mp hb with rfl | hb; simp; rw [List.mem_singleton.mp hb]; simp) hfo
  refine positional_call (ok := fun b => b ≠ pl ∧ b ≠ us) ⟨B, F, X, T⟩ hk hdp hun (fo := fo) (tg := tg) (us := us) (pl := pl) (gs := gs) (uvs := uvs) (o := o) (n1 := n1)
    ⟨dx, t1, t2, t3, t4, ⟨e1 (p := (x, _)) (by simp), (ord_ne h1 h2 h3 h4).1⟩, ⟨e1 (p := (dx, _)) (by simp), (ord_ne h1 h2 h3 h4).2.1⟩⟩ ?_ ⟨tvs, ⟨nt, e1 (p := (tg, _)) (by simp), (ord_ne h1 h2 h3 h4).2.2⟩, hta⟩ (fun _ z => z) (Nat.ne_of_lt h1) (fun p hp => N p (by rcases List.mem_cons.mp hp with rfl | hp; exact .head _; rw [List.mem_singleton.mp hp]; exact .tail _ (.head _))) hU hD hn ?_
  · obtain ⟨f1, f2, nf, hfo, _⟩ := hF
    exact ⟨f1, f2, nf, F.keep _ _ hfo, hf1 pl (by simp), hf1 us (by simp)⟩
  · intro h' tk' uvs' o' n1' G g1 g2 hU' hD'
    exact ret h' tk' uvs' o' n1' (fr_gsub F N (gsub_weak G (by simp))) (news_two N G g1 g2 (by
      have z := ord_ne h1 h2 h3 h4
      intro p hp
      simp only [List.mem_cons, List.not_mem_nil, or_false] at hp
      rcases hp with rfl | rfl | rfl
      · exact z.1
      · exact z.2.1
      · exact z.2.2)) hU' hD'
theorem rest_walk {uns : List Int} (B : Below A₀ base outer h₀) (F : Fr h₀ L s.heap m) (X : (heapK w.params).In h₀) (T : Top viewQ LL mean mg mb h₀) (N : News h₀ L s.heap (five w.params pl us x dx fo tg o uvs tvs n1 nt t1 t2 t3 t4))
    (hta : TagsAre tvs gs) (hU : IntsAre uvs uns) (hul : uns.length = gs.length) (hn : gs.length ≤ 5)
    (hk : cs.kind = .function) (hdp : dp + 25 < recursionLimit) (hun : un + 300 < cLine)
    (ret : ∀ p rvs nr h' tk', Fr h₀ L h' m → News h₀ L h' ((p, listOf rvs.toArray nr) :: five w.params pl us x dx fo tg o uvs tvs n1 nt t1 t2 t3 t4) → (∀ q ∈ five w.params pl us x dx fo tg o uvs tvs n1 nt t1 t2 t3 t4, q.1 ≠ p) → Are NatAt rvs ((List.range gs.length).filter fun i => uns.getD i 0 == 0) → Q (.ref p) { s with heap := h', toks := tk' }) :
   wpAny (model PySem.Challenge.rw_pq1402_01.row.prog w) (ktrTop dp un gd cn cs L a ccd cl outer) (call (.ref 157) [.ref x]) Q E s := by
  have e1 : ∀ {p : Addr × Obj}, p ∈ five w.params pl us x dx fo tg o uvs tvs n1 nt t1 t2 t3 t4 → s.heap.get? p.1 = some p.2 := fun hp => (N _ hp).1
  refine rest_call (ok := fun _ => True) ⟨B, F, X, T⟩ hk hdp hun (fo := fo) (tg := tg) (us := us) (pl := pl) (gs := gs) (uvs := uvs)
    ⟨dx, t1, t2, t3, t4, ⟨e1 (p := (x, _)) (by simp), trivial⟩, ⟨e1 (p := (dx, _)) (by simp), trivial⟩⟩ ⟨tvs, ⟨nt, e1 (p := (tg, _)) (by simp), trivial⟩, hta⟩ ⟨n1, e1 (p := (us, _)) (by simp), trivial⟩ hU hul hn ?_
  rintro p rvs h' tk' G ⟨nr, hp, hfr⟩ hr
  have hfr' : s.heap.get? p = none := hfr
  refine ret p rvs nr h' tk' (fr_gsub0 F G) (fun q hq => ?_) (fun q hq e => by have := e1 hq; rw [e, hfr'] at this; cases this) hr
  rcases List.mem_cons.mp hq with rfl | hq
  · refine ⟨hp, ?_, ?_⟩
    · rintro rfl
      obtain ⟨oL, _, _, hL, _⟩ := F.ns
      rw [hfr'] at hL; cases hL
    · show h₀.get? p = none
      cases z : h₀.get? p with
      | none => rfl
      | some o' => rw [F.keep _ _ z] at hfr'; cases hfr'
  · exact news_gsub0 N G q hq
end
end
section
open PySem PySem.W PyProof.Rows PySem.Calls Builtin Builtin.ObjectAttr
set_option maxRecDepth 100000
def Raised51 (E : Value → Shared → Prop) (v : Value) (s : Shared) : Prop :=
  ∃ e oe vs, v = .ref e ∧ s.heap.get? 51 = some cls51 ∧ s.heap.get? e = some oe ∧ oe.cls = .ref 51 ∧ oe.data = .fields vs ∧ vs[1]? = some .none ∧ E (.ref e) s
section
variable {prog : Program} {w : World} {A : Around} {E : Value → Shared → Prop} {s : Shared} {env : Env}
theorem raise51 {x : PySem.Expr} {pos : Pos} {Q : Flow → Shared → Prop} (hh : A.handled = none) (h : wpAny (model prog w) A (eval x env) (Raised51 E) E s) : wpAny (model prog w) A (exec (.Raise (some x) none pos) env) Q E s := by
  show wpAny _ A (do standAt pos; raiseStmt env (some (do let v ← eval x env; standAt pos; pure v)) none) Q E s
  refine wpAny_bind (wpAny_standAt ?_)
  unfold raiseStmt
  dsimp only
  refine wpAny_bind (wpAny_bind (wpAny_mono h (fun v s₁ h₁ => wpAny_bind (wpAny_standAt (wpAny_pure ?_))) fun _ _ x => x))
  obtain ⟨e, oe, vs, rfl, hC, he, hc, hd, h1, hE⟩ := h₁
  obtain ⟨hp, g, d, tk, os⟩ := s₁
  have hcB : (Value.ref 51 :: bm51).contains (.type "BaseException") = true := by decide
  have nt : ∀ {Q' : Bool → Shared → Prop}, Q' false ⟨hp, g, d, tk, os⟩ → wpAny (model prog w) A (isType (.ref e)) Q' E ⟨hp, g, d, tk, os⟩ := by
    intro Q' hq
    simp only [isType, loadHead]
    refine wpAny_bind (wpAny_loadPart he ?_)
    rw [hd]; exact wpAny_pure hq
  have ty : ∀ {Q' : Value → Shared → Prop}, Q' (.ref 51) ⟨hp, g, d, tk, os⟩ → wpAny (model prog w) A (typeOf (.ref e)) Q' E ⟨hp, g, d, tk, os⟩ := by
    intro Q' hq
    simp only [typeOf]
    refine wpAny_bind (wpAny_loadPart he ?_)
    rw [hc]; exact wpAny_pure hq
  have tt : ∀ {Q' : Value → Shared → Prop}, Q' (.type "type") ⟨hp, g, d, tk, os⟩ → wpAny (model prog w) A (typeOf (.ref 51)) Q' E ⟨hp, g, d, tk, os⟩ := by
    intro Q' hq
    simp only [typeOf]
    refine wpAny_bind (wpAny_loadPart hC ?_)
    exact wpAny_pure hq
  refine wpAny_bind (wpAny_pure ?_)
  dsimp only
  refine wpAny_bind (wpAny_holding ?_)
  unfold excFromValue isExcClass
  refine wpAny_bind (wpAny_bind (nt ?_))
  simp only [Bool.false_eq_true, if_false]
  refine wpAny_pure ?_
  simp only [Bool.false_eq_true, if_false]
  unfold isInstance
  refine wpAny_bind (wpAny_bind (ty (wpAny_isSubtype_exc hC ?_)))
  rw [hcB]
  simp only [if_true]
  refine wpAny_pure ?_
  refine wpAny_bind (nt ?_)
  simp only [Bool.false_eq_true, if_false]
  unfold raisedInstance
  refine wpAny_bind (wpAny_bind (ty (wpAny_bind (tt ?_))))
  rw [if_pos (by decide)]
  refine wpAny_pure ?_
  unfold setFlight
  refine wpAny_bind (wpAny_bind (wpAny_field he hd h1 ?_))
  rw [if_neg (by decide)]
  exact wpAny_pure (wpAny_raiseNew_none hh hE)

theorem set51 {oe : Obj} {e : Addr} {v : Value} {vs : Array Value} {Q : Unit → Shared → Prop} (X : (heapK w.params).In s.heap) (he : s.heap.get? e = some oe) (hc : oe.cls = .ref 51) (hdt : oe.data = .fields vs) (hdi : oe.dict = none)
    (h : ∀ h' tk' dx od, (∀ b o, b ≠ e → s.heap.get? b = some o → h'.get? b = some o) → h'.get? e = some { oe with dict := some dx } → s.heap.get? dx = none → dx ≠ e → h'.get? dx = some od → lookIn (Str.ofString "message") od = some (some v) → (∀ vs, od.data ≠ .fields vs) → Q () { s with heap := h', toks := tk' }) :
    wpAny (model prog w) A (setAttr (.ref e) (Str.ofString "message") v) Q E s := by
  have hn : notCls oe = true := by
    obtain ⟨_, _, dt, _⟩ := oe
    cases hdt; rfl
  have I : InstAt s.heap e oe 51 none := ⟨he, hc, hn, by rw [hdi]; trivial⟩
  have SF := PySem.F.store_object
  refine set_plain X I (by with_unfolding_all exact rfl) ?_
  have sub : Looks (model prog w) s.heap (isInstance (.ref e) (.type "object")) true := I.type.andThen (looks_mroIn X (by with_unfolding_all exact rfl))
  refine codeAny_call_builtin SF.slot.plain SF.entry (@check_slot (model prog w) _ _ { s with toks := s.toks + 1 } "object.__setattr__" "object" "__setattr__" (.ref e) [.str (Str.ofString "message") s.toks, v] [] _ SF.kind SF.split sub (SF.args (.ref e) (.str (Str.ofString "message") s.toks) v) ?_)
  have hm : Looks (model prog w) s.heap (mroOf (.ref 51)) (.ref 51 :: bm51) := looks_clsIn X (cd := ⟨Str.ofString "Refusal", [.ref 31], .ref 51 :: bm51, 50, Str.ofString "Refusal", true, [], [], false, none, false⟩) (by with_unfolding_all exact rfl) |>.andThen .now
  have ha : findIn (heapK w.params) (.ref 51) (Str.ofString "message") = some none := by with_unfolding_all exact rfl
  have L3 : Looks (model prog w) s.heap (storeTaker? none) none := .now
  rw [osa_eq, refuse_eq]
  refine wpAny_bind (wpAny_bind (I.type.here (s := { s with toks := s.toks + 1 }) (wpAny_bind (hm.here (s := { s with toks := s.toks + 1 }) ?_))))
  rw [refuseLoop_ref, refuseLoop_ref, PySem.F.store_Exception.passes]
  refine wpAny_pure (wpAny_bind (I.type.here (s := { s with toks := s.toks + 1 }) (wpAny_bind ((looks_findIn X ha).here (s := { s with toks := s.toks + 1 }) (wpAny_bind (L3.here (s := { s with toks := s.toks + 1 }) ?_))))))
  dsimp only
  obtain ⟨hp, g, d, t, os⟩ := s
  obtain ⟨oc, odi, odt, osl⟩ := oe
  dsimp only at hc hdt hdi he h ⊢
  subst hc hdt hdi
  unfold storeInOwnDict ownDictForStores ownStreamTells
  have hC := at51 X
  refine wpAny_bind (wpAny_pure ?_)
  dsimp only
  rw [if_neg (by decide)]
  refine wpAny_bind ?_
  unfold instanceDict
  refine wpAny_bind (wpAny_loadPart he ?_)
  dsimp only
  refine wpAny_bind ?_
  unfold classData
  refine wpAny_bind (wpAny_load hC (wpAny_pure ?_))
  dsimp only
  rw [if_neg (by decide)]
  rw [if_neg (by simp [typeHasDict])]
  refine wpAny_bind (wpAny_alloc' ?_)
  have hx₁ : (hp.push { cls := .type "dict", data := .dict #[] }).get? e = some { cls := Value.ref 51, data := Data.fields vs, slots := osl } := Heap.get?_push_of_some _ he
  have hxs : e ≠ hp.objs.size := Nat.ne_of_lt (Heap.lt_size he)
  refine wpAny_bind (wpAny_update' hx₁ ?_)
  refine wpAny_pure ?_
  have hgd : ((hp.push { cls := .type "dict", data := .dict #[] }).update e fun o => { cls := o.cls, dict := some hp.objs.size, data := o.data, slots := o.slots }).get? hp.objs.size = some { cls := .type "dict", data := .dict #[] } :=
    (Heap.get?_update_ne _ _ _ _ hxs.symm).trans (Heap.get?_push_at rfl rfl)
  have hnd : ((hp.push { cls := .type "dict", data := .dict #[] }).update e fun o => { cls := o.cls, dict := some hp.objs.size, data := o.data, slots := o.slots }).Ns hp.objs.size (fun _ => none) :=
    ⟨_, #[], _, hgd, rfl, fun e he => absurd he (by simp), fun _ => rfl⟩
  have hge : ((hp.push { cls := .type "dict", data := .dict #[] }).update e fun o => { cls := o.cls, dict := some hp.objs.size, data := o.data, slots := o.slots }).get? e = some { cls := Value.ref 51, dict := some hp.objs.size, data := Data.fields vs, slots := osl } :=
    Heap.get?_update_self _ hx₁ rfl
  show wpAny _ _ (storeInDict hp.objs.size (.str (Str.ofString "message") t) (Str.ofString "message") v) _ _ _
  unfold storeInDict newKeyGuard
  refine wpAny_bind (wpAny_pure (wpAny_bind (wpAny_nsSet1 (Heap.Ns1.of_empty hnd) fun h' hn' hs => ?_)))
  obtain ⟨oD, esD, epD, hoD, hdD, hcD⟩ := hn'.count (Within.cons (Str.ofString "message") v Within.nil)
  refine wpAny_bind (wpAny_lookBehind hoD (by rw [hdD]; exact pastItsLine_dict (Nat.le_trans hcD (by rw [List.length_cons, List.length_nil, sizeLine_eq]; omega))) ?_)
  obtain ⟨oD, esD, epD, hoD, hdD, hkD, huD, hfD⟩ := hn'
  have hlk : lookIn (Str.ofString "message") oD = some (some v) := by
    have z : nsFind esD (Str.ofString "message") = some v := (hfD _).trans (if_pos rfl)
    obtain ⟨en, e1, e2⟩ := Option.map_eq_some_iff.mp z
    have e3 : esD.toList.find? (·.key.isStr (Str.ofString "message")) = some en := by rw [Array.find?_toList]; exact e1
    unfold lookIn
    rw [hdD]
    dsimp only
    rw [e3]
    exact congrArg (fun x => some (some x)) e2
  have hq := h h' (t + 1 + 1) hp.objs.size oD (fun b o hb z => (hs.2 b (Nat.ne_of_lt (Heap.lt_size z))).trans ((Heap.get?_update_ne _ _ _ _ hb).trans (Heap.get?_push_of_some _ z))) ((hs.2 e hxs).trans hge) (Heap.get?_none_of_le (Nat.le_refl _)) hxs.symm hoD hlk (fun vs z => by rw [hdD] at z; cases z)
  wp_walk
  exact hq
end

/-- a Refusal just made -/
structure Born (h h' : Heap) (e dx : Addr) (v : Value) : Prop where
  keeps : ∀ b o, h.get? b = some o → h'.get? b = some o
  new : h.get? e = none
  newd : h.get? dx = none
  here : ∃ t0, h'.get? e = some { cls := .ref 51, dict := some dx, data := .fields #[.ref t0, .none, .none, .none, .bool false, .none] }
  dict : ∃ od, h'.get? dx = some od ∧ lookIn (Str.ofString "message") od = some (some v) ∧ ∀ vs, od.data ≠ .fields vs
section
variable {w : World} {mean : ExcName → Option Value} {mg mb : Str → Option Value} {dp un : Nat} {gd : Option (List Code)} {cn : Str} {cs : Scope} {a : Addr} {ccd : Value} {cl : List (Str × Addr)} {outer : List Env} {A₀ : Around} {base h₀ : Heap} {L : Addr} {m : Str → Option Value} {s : Shared} {Q E : Value → Shared → Prop}
set_option maxRecDepth 100000 in
set_option maxHeartbeats 2000000 in
theorem call51 (C : Cx w mean mg mb A₀ base outer h₀ L s.heap m) (hk : cs.kind = .function) (hdp : dp + 15 < recursionLimit) (hun : un + 100 < cLine) {v : Value}
    (ret : ∀ h' tk' e dx, Born s.heap h' e dx v → Q (.ref e) { s with heap := h', toks := tk' }) :
   wpAny (model PySem.Challenge.rw_pq1402_01.row.prog w) (ktrTop dp un gd cn cs L a ccd cl outer) (call (.ref 51) [v]) Q E s := by
  w_top off
  k_with_none
  (k_with "LeaveK" => (refine' leaveK_ (by k_asm) (by k_asm) ?_; intro _ _; dsimp only))
  (k_with "LeaveK none" => (refine' leaveK_ (by k_asm) (by k_asm) ?_; intro _ _; dsimp only))
  obtain ⟨B, F, X, T⟩ := C
  obtain ⟨hp, g, d, t, os⟩ := s
  refine wpAny_call ?_
  refine make51 (X.keeps F.keep) (fun h₁ e hm => ?_) (by rw [PySem.sizeLine_eq]; show 1 ≤ _; decide)
  obtain ⟨t0, he, -, -⟩ := hm.there
  have F1 : Fr h₀ L h₁ m := F.keeps hm.keeps
  have hn0 : h₀.get? e = none := by
    cases z : h₀.get? e with
    | none => rfl
    | some o => have := F.keep _ _ z; rw [hm.new] at this; cases this
  have hLe : e ≠ L := by
    rintro rfl
    obtain ⟨oL, _, _, hL, _⟩ := F.ns
    have z := hm.new
    rw [hL] at z; cases z
  have N1 : News h₀ L h₁ [(e, { cls := .ref 51, data := .fields #[.ref t0, .none, .none, .none, .bool false, .none] })] := fun p hp => by
    rw [List.mem_singleton.mp hp]; exact ⟨he, hLe, hn0⟩
  revert X; k_fill; intro X
  k_dflt (refine' code_defG ?k1 ?k2 ?k3 ?k4 ?k5 ?kA ?kF ?kK ?k6 ?k7 ?k8 ?k9 ?kB ?_ ?c2 ?c3 ?c4 ?c5; (case kA => exact rfl); (case kF => exact rfl); (case kK => assumption); (case k1 => k_asm); (case k2 => k_asm); (case k3 => k_asm); (case k4 => k_asm); (case k5 => k_asm); (case k6 => k_is); (case k7 => k_is); (case k8 => ktr_room); (case k9 => exact BindsTo.of_eq rfl); (case c5 => decide); (case kB => exact locs rfl); (case c2 => exact rfl); (case c3 => exact rfl); (case c4 => exact rfl); k_whole; intro g' L' h' FG' F' N' B' X' T' kG'; (try dsimp only); (try k_fold))
  have kG2 : GSub h₁ g' [e] := kG'
  k_steps
  have F4 := F'
  have N4 : News g' L' h' [(e, { cls := .ref 51, data := .fields #[.ref t0, .none, .none, .none, .bool false, .none] })] := N'
  have he4 := (N4 _ (.head _)).1
  have hLe4 : L' ≠ e := (N4 _ (.head _)).2.1.symm
  have hge4 : g'.get? e = none := (N4 _ (.head _)).2.2
  refine set51 (X'.keeps F4.keep) he4 rfl rfl rfl ?_
  intro h5 tk5 dx od k1 k2 k3 k4 k5 k6 k7
  have F5 : Fr g' L' h5 _ := ⟨by obtain ⟨oL, es, ep, hL, r⟩ := F4.ns; exact ⟨oL, es, ep, k1 _ _ hLe4 hL, r⟩, fun b o z => k1 b o (fun q => by rw [q, hge4] at z; cases z) (F4.keep b o z), F4.above⟩
  have N5 : News g' L' h5 [] := News.nil
  have up : ∀ b o, hp.get? b = some o → h5.get? b = some o := fun b o z => by
    have hbe : b ≠ e := fun q => by have := hm.new; rw [← q, z] at this; cases this
    exact F5.keep b o (kG2 b o (hm.keeps b o z) (by simpa using hbe))
  have hdn : hp.get? dx = none := by
    cases z : hp.get? dx with
    | none => rfl
    | some o =>
      have hbe : dx ≠ e := k4
      have := F4.keep dx o (kG2 dx o (hm.keeps dx o z) (by simpa using hbe))
      rw [this] at k3; cases k3
  clear F4 N4 F' N'
  k_steps
  exact ret _ _ e dx ⟨up, hm.new, hdn, ⟨t0, k2⟩, od, k5, k6, k7⟩
end
end
section
open PySem PySem.W PyProof.Rows PySem.Calls
set_option maxRecDepth 100000
/-- a Refusal that has left its frames -/
structure Gone (h : Heap) (l : List Env) (e dx : Addr) (v : Value) (h' : Heap) : Prop where
  ex : ∃ B, (∀ b o, h.get? b = some o → b ∉ l.filterMap (·.frame) → B.get? b = some o) ∧ Fly B l e dx (.ref 51) .none h'
  slots : h.UpToSlots h'
  newe : h.get? e = none
  newd : h.get? dx = none
  msg : ∃ od, h'.get? dx = some od ∧ lookIn (Str.ofString "message") od = some (some v) ∧ ∀ vs, od.data ≠ .fields vs
theorem lookIn_slots {n : Str} {od : Obj} {sl : Array (Option Value)} : lookIn n { od with slots := sl } = lookIn n od := rfl
theorem none_sub {h g : Heap} {b : Addr} (k : ∀ o, h.get? b = some o → g.get? b = some o) (z : g.get? b = none) : h.get? b = none := by
  cases q : h.get? b with
  | none => rfl
  | some o => rw [k o q] at z; cases z
theorem Gone.sub {g h h' : Heap} {l : List Env} {e dx : Addr} {v : Value} (G : Gone g l e dx v h') (k : GSub h g []) : Gone h l e dx v h' := by
  obtain ⟨⟨B, hB, x⟩, y, ne, nd, z⟩ := G
  exact ⟨⟨B, fun b o e hn => hB b o (k b o e (by simp)) hn, x⟩, (Heap.UpToSlots.of_keeps fun b o e => k b o e (by simp)).trans y, none_sub (fun o e => k _ o e (by simp)) ne, none_sub (fun o e => k _ o e (by simp)) nd, z⟩
section
variable {M : Model} {A : Around} {E : Value → Shared → Prop} {s : Shared} {base g h : Heap} {outer : List Env} {L a e dx : Addr} {m : Str → Option Value} {name : Str} {scope : Scope} {cd : Value} {Q : Unit → Shared → Prop} {v : Value}
theorem msg_slots {h h' : Heap} (U : h.UpToSlots h') (m : ∃ od, h.get? dx = some od ∧ lookIn (Str.ofString "message") od = some (some v) ∧ ∀ vs, od.data ≠ .fields vs) :
    ∃ od, h'.get? dx = some od ∧ lookIn (Str.ofString "message") od = some (some v) ∧ ∀ vs, od.data ≠ .fields vs := by
  obtain ⟨od, a, b, c⟩ := m
  obtain ⟨sl, z⟩ := U _ _ a c
  exact ⟨_, z, lookIn_slots.trans b, c⟩
theorem above_ne {L b : Addr} {o : Obj} (F : Fr g L h m) (hb : g.get? b = some o) : b ≠ L := fun q => by
  have h1 := Heap.lt_size hb
  have h2 := F.above
  rw [q] at h1
  exact absurd (Nat.lt_of_lt_of_le h1 h2) (Nat.lt_irrefl _)
theorem leave51 (K : Below A base outer g) (Bn : Born h s.heap e dx v) (F : Fr g L h m) (hQ : ∀ h', Gone g outer e dx v h' → Q () { s with heap := h' }) (hk : scope.kind = .function := by rfl) :
    wpAny M (A.deeper (envOf name scope L a cd)) (leaving (envOf name scope L a cd) (.ref e)) Q E s := by
  have K' := K.push (name := name) (a := a) (cd := cd) F hk
  have hin : ∀ env ∈ (envOf name scope L a cd :: outer), ∀ b, env.frame = some b → b ∈ (envOf name scope L a cd :: outer).filterMap (·.frame) := fun env he b hb => List.mem_filterMap.mpr ⟨env, he, hb⟩
  have hB : ∀ b o, (hideAll h ((envOf name scope L a cd :: outer).filterMap (·.frame))).get? b = some o → h.get? b = some o := fun b o q => of_hideAll _ q
  have hf : h.FunFrames (hideAll h ((envOf name scope L a cd :: outer).filterMap (·.frame))) (envOf name scope L a cd :: outer) := funFrames_hide K'.frames hin
  obtain ⟨t0, he⟩ := Bn.here
  refine fly_leave0 (dx := dx) (base := hideAll h ((envOf name scope L a cd :: outer).filterMap (·.frame))) K'.stack (hf.of_keeps fun b o hb _ => ⟨o, Bn.keeps b o hb, rfl⟩) rfl he (fun b o q => Bn.keeps b o (hB b o q)) ?_ rfl rfl rfl rfl fun h' Fl U => hQ h' ⟨⟨_, fun b o hb hn => ?_, Fl⟩, ?_, none_sub (F.keep _) Bn.new, none_sub (F.keep _) Bn.newd, msg_slots U Bn.dict⟩
  · cases q : (hideAll h ((envOf name scope L a cd :: outer).filterMap (·.frame))).get? e with
    | none => rfl
    | some o => have z := hB e o q; rw [Bn.new] at z; cases z
  · refine hideAll_get _ (F.keep b o hb) fun hm => ?_
    rcases List.mem_cons.mp (show b ∈ L :: outer.filterMap (·.frame) from hm) with q | q
    · exact above_ne F hb q
    · exact hn q
  · exact ((Heap.UpToSlots.of_keeps F.keep).trans (Heap.UpToSlots.of_keeps Bn.keeps)).trans U
theorem leave51b {env : Env} (K : Below A base outer g) (hf : env.frame = some L) (F : Fr g L h m) (G : Gone h (env :: outer) e dx v s.heap) (hQ : ∀ h', Gone g outer e dx v h' → Q () { s with heap := h' }) :
    wpAny M (A.deeper env) (leaving env (.ref e)) Q E s := by
  obtain ⟨⟨B, hB, Fl⟩, U, ne, nd, ms⟩ := G
  refine fly_leave (Around.frames_deeper K.stack) hf Fl fun h' Fl' U' => hQ h' ⟨⟨B, fun b o hb hn => hB b o (F.keep b o hb) fun hm => ?_, Fl'⟩, ((Heap.UpToSlots.of_keeps F.keep).trans U).trans U', none_sub (F.keep _) ne, none_sub (F.keep _) nd, msg_slots U' ms⟩
  rw [List.filterMap_cons, hf] at hm
  rcases List.mem_cons.mp hm with q | q
  · exact above_ne F hb q
  · exact hn q
end
end
section
open PySem PySem.W PyProof.Rows PySem.Calls
def tagsOf (args : List (Tg × Val)) : List Tg := args.map (·.1)
abbrev clsOf (args : List (Tg × Val)) : List Cl := (tagsOf args).map Tg.cl
theorem tagsAre_of {args : List (Tg × Val)} : ∀ {ys : List Value}, Are (fun i y => ∃ g, (tagsOf args)[i]? = some g ∧ OptTxt g.txt y) ys (List.range (tagsOf args).length) → TagsAre ys (tagsOf args) := by
  have key : ∀ (l : List Tg) (k : Nat) (ys : List Value), Are (fun i y => ∃ g, l[i]? = some g ∧ OptTxt g.txt y) ys ((List.range l.length).drop k) → TagsAre ys (l.drop k) := by
    intro l k
    induction hn : l.length - k generalizing k with
    | zero =>
      intro ys h
      have e : l.drop k = [] := List.drop_eq_nil_of_le (by omega)
      have e2 : (List.range l.length).drop k = [] := List.drop_eq_nil_of_le (by simp; omega)
      rw [e2] at h
      cases h
      rw [e]
      exact .nil
    | succ n ih =>
      intro ys h
      have hk : k < l.length := by omega
      have e2 : (List.range l.length).drop k = k :: (List.range l.length).drop (k + 1) := by
        rw [List.drop_eq_getElem_cons (by simpa using hk)]
        simp
      rw [e2] at h
      cases h with
      | cons a b =>
        obtain ⟨g, e, z⟩ := a
        rw [List.drop_eq_getElem_cons hk]
        rw [List.getElem?_eq_getElem hk] at e
        cases e
        exact .cons z (ih (k + 1) (by omega) _ b)
  intro ys h
  have := key (tagsOf args) 0 ys (by rw [List.drop_zero]; exact h)
  rwa [List.drop_zero] at this

section
variable {w : World} {mean : ExcName → Option Value} {mg mb : Str → Option Value} {dp un : Nat} {gd : Option (List Code)} {cn : Str} {cs : Scope} {a : Addr} {ccd : Value} {cl : List (Str × Addr)} {outer : List Env} {A₀ : Around} {base h₀ : Heap} {L : Addr} {m : Str → Option Value} {s : Shared} {Q E : Value → Shared → Prop}
  {pl us x dx fo tg : Addr} {o : Obj} {uvs tvs : List Value} {n1 nt : Nat} {t1 t2 t3 t4 : Tok} {gs : List Tg}
theorem none_back {h g : Heap} {b : Addr} (G : GSub h g []) (z : g.get? b = none) : h.get? b = none := by
  cases q : h.get? b with
  | none => rfl
  | some o => rw [G _ _ q (by simp)] at z; cases z
theorem gti_fact {A : Around} {x y : Int} {t u : Tok} {b : Bool} (e : decide (x > y) = b) (h : Q (.bool b) s) : wpAny (model PySem.Challenge.rw_pq1402_01.row.prog w) A (compareOp .Gt (.int x t) (.int y u)) Q E s := PyProof.Rows.gt_int (by rw [e]; exact h)

theorem unused_walk {lo re : Addr} {vs rvs : List Value} {nr : Nat} {args : List (Tg × Val)} {ks : List Nat} {news : List (Addr × Obj)} (B : Below A₀ base outer h₀) (F : Fr h₀ L s.heap m) (X : (heapK w.params).In h₀) (T : Top viewQ LL mean mg mb h₀) (N : News h₀ L s.heap news)
    (hl : LstAt h₀ (fun _ => True) lo vs) (ha : ArgsIn w.params h₀ (fun _ => True) vs args) (hr : (re, listOf rvs.toArray nr) ∈ news) (hks : Are NatAt rvs ks) (hlt : ∀ k ∈ ks, k < args.length) (hn : args.length < 10) (hok : ∀ p ∈ args, p.2.Ok) (hkn : ks.length ≤ 5)
    (hk : cs.kind = .function) (hdp : dp + 35 < recursionLimit) (hun : un + 400 < cLine)
    (ret : ∀ t h' tk', Fr h₀ L h' m → News h₀ L h' news → Q (.str (unusedText (restTexts args ks)) t) { s with heap := h', toks := tk' }) :
   wpAny (model PySem.Challenge.rw_pq1402_01.row.prog w) (ktrTop dp un gd cn cs L a ccd cl outer) (call (.ref 190) [.ref lo, .ref re, .ref 185]) Q E s := by
  have up : ∀ b o, At h₀ (fun _ => True) b o → At s.heap (fun _ => True) b o := fun b o z => ⟨F.keep _ _ z.1, z.2⟩
  exact unused_call (ok' := fun _ => True) ⟨B, F, X, T⟩ hk hdp hun (hl.mono up) (ha.mono up) ⟨nr, (N _ hr).1, trivial⟩ hks hlt hn hok (by omega) fun t h' tk' G => ret t h' tk' (fr_gsub0 F G) (news_gsub0 N G)






theorem call51_walk {news : List (Addr × Obj)} {v : Value} (B : Below A₀ base outer h₀) (F : Fr h₀ L s.heap m) (X : (heapK w.params).In h₀) (T : Top viewQ LL mean mg mb h₀)
    (hk : cs.kind = .function) (hdp : dp + 15 < recursionLimit) (hun : un + 100 < cLine)
    (ret : ∀ h' tk' e dx, Born s.heap h' e dx v → h'.get? 51 = some cls51 → E (.ref e) { s with heap := h', toks := tk' }) :
   wpAny (model PySem.Challenge.rw_pq1402_01.row.prog w) (ktrTop dp un gd cn cs L a ccd cl outer) (call (.ref 51) [v]) (Raised51 E) E s :=
  call51 ⟨B, F, X, T⟩ hk hdp hun fun h' tk' e dx bn => by
    obtain ⟨t0, he⟩ := bn.here
    have hC := bn.keeps _ _ (F.keep _ _ (at51 X))
    exact ⟨e, _, _, rfl, hC, he, rfl, rfl, rfl, ret h' tk' e dx bn hC⟩
set_option maxRecDepth 100000 in
set_option maxHeartbeats 2000000 in
theorem match_call (C : Cx w mean mg mb A₀ base outer h₀ L s.heap m) (hk : cs.kind = .function) (hdp : dp + 45 < recursionLimit) (hun : un + 600 < cLine)
    {ok : Addr → Prop} {fo lo : Addr} {vs : List Value} {args : List (Tg × Val)} (hF : FormIn s.heap ok fo) (hl : LstAt s.heap ok lo vs) (ha : ArgsIn w.params s.heap ok vs args) (hn : args.length ≤ 5) (hok : ∀ p ∈ args, p.2.Ok) (hv : valid (clsOf args) = true)
    (retn : ∀ t pl re o rvs h' tk', restOf (clsOf args) = [] → GSub s.heap h' [] → TupAt h' (fun b => s.heap.get? b = none) t [.ref pl, .ref re] → At h' (fun b => s.heap.get? b = none) pl o → DctIs w pl o (posN (clsOf args) 2).2.2 → LstAt h' (fun b => s.heap.get? b = none) re rvs → Are NatAt rvs (restOf (clsOf args)) → Q (.ref t) { s with heap := h', toks := tk' })
    (retr : ∀ e dx t h' tk', restOf (clsOf args) ≠ [] → Gone s.heap (envX cn cs L a ccd cl :: outer) e dx (.str (unusedText (restTexts args (restOf (clsOf args)))) t) h' → E (.ref e) { s with heap := h', toks := tk' }) :
   wpAny (model PySem.Challenge.rw_pq1402_01.row.prog w) (ktrTop dp un gd cn cs L a ccd cl outer) (call (.ref 196) [.ref fo, .ref lo, .ref 185]) Q E s := by
  w_top off
  k_with_none
  (k_with "compareOp Gt int int" => (k_here; k_dflt (refine' gti_fact (by assumption) ?_)))
  (k_with "compareOp Lt int int" => (k_here; k_dflt (refine' lti_fact (by assumption) ?_)))
  (k_with "call builtin:str.startswith" => (k_here; k_dflt (refine' starts_fact (by assumption) ?_)))
  (k_with "compareOp Eq int int" => (k_here; k_dflt (refine' eqi_fact (by assumption) ?_)))
  (k_with "LeaveK" => (refine' leaveK_ (by k_asm) (by k_asm) ?_; intro _ _; dsimp only))
  (k_with "LeaveK ref" => (refine' leaveK_ (by k_asm) (by k_asm) ?_; intro _ _; dsimp only))
  (k_with "call ref" => (k_here; (with_reducible show wpAny _ _ (call (Value.ref 190) _) _ _ _); k_dflt (refine' unused_walk (by k_asm) (by k_asm) (by k_asm) (by k_asm) (by k_asm) (by assumption) (by assumption) (by exact List.Mem.head _) (by assumption) (by assumption) (by omega) (by assumption) (by assumption) (by exact rfl) (by ktr_room) (by ktr_units) ?_); intro _ _ _ _ _))
  (k_with "call ref cons nil" => (k_here; (with_reducible show wpAny _ _ (call (Value.ref 190) _) _ _ _); k_dflt (refine' unused_walk (by k_asm) (by k_asm) (by k_asm) (by k_asm) (by k_asm) (by assumption) (by assumption) (by exact List.Mem.head _) (by assumption) (by assumption) (by omega) (by assumption) (by assumption) (by exact rfl) (by ktr_room) (by ktr_units) ?_); intro _ _ _ _ _))
  (k_with "call ref nil" => (k_here; (with_reducible show wpAny _ _ (call (Value.ref 190) _) _ _ _); k_dflt (refine' unused_walk (by k_asm) (by k_asm) (by k_asm) (by k_asm) (by k_asm) (by assumption) (by assumption) (by exact List.Mem.head _) (by assumption) (by assumption) (by omega) (by assumption) (by assumption) (by exact rfl) (by ktr_room) (by ktr_units) ?_); intro _ _ _ _ _))
  (k_with "call builtin:len" => (k_here; k_dflt (refine' len_sym (by first | is_list) (by assumption) (by omega) ?_)))
  (k_with "call builtin:len cons nil" => (k_here; k_dflt (refine' len_sym (by first | is_list) (by assumption) (by omega) ?_)))
  (k_with "subscriptTail" => (k_here; (with_reducible show wpAny _ _ (subscriptTail _ _ (Value.ref _) (Value.int _ _)) _ _ _); k_dflt (refine' item_at (by is_list) (by assumption) (by omega) ?_)))
  (k_with "subscriptTail Name Constant ref int" => (k_here; (with_reducible show wpAny _ _ (subscriptTail _ _ (Value.ref _) (Value.int _ _)) _ _ _); k_dflt (refine' item_at (by is_list) (by assumption) (by omega) ?_)))
  (k_with "call ref" => (k_here; (with_reducible show wpAny _ _ (call (Value.ref 160) _) _ _ _); k_dflt (refine' mat_walk (by k_asm) (by k_asm) (by k_asm) (by k_asm) (by k_asm) (by exact List.Mem.head _) (by assumption) (by omega) (by exact rfl) (by ktr_room) (by ktr_units) ?_); intro _ _ _ _ _ _ _ _ _ _ _ _ _ _ _ _ _ _ _ _ l4'; (have l5' := l4' _ (List.Mem.head _))))
  (k_with "call ref cons nil" => (k_here; (with_reducible show wpAny _ _ (call (Value.ref 160) _) _ _ _); k_dflt (refine' mat_walk (by k_asm) (by k_asm) (by k_asm) (by k_asm) (by k_asm) (by exact List.Mem.head _) (by assumption) (by omega) (by exact rfl) (by ktr_room) (by ktr_units) ?_); intro _ _ _ _ _ _ _ _ _ _ _ _ _ _ _ _ _ _ _ _ l4'; (have l5' := l4' _ (List.Mem.head _))))
  (k_with "call ref nil" => (k_here; (with_reducible show wpAny _ _ (call (Value.ref 160) _) _ _ _); k_dflt (refine' mat_walk (by k_asm) (by k_asm) (by k_asm) (by k_asm) (by k_asm) (by exact List.Mem.head _) (by assumption) (by omega) (by exact rfl) (by ktr_room) (by ktr_units) ?_); intro _ _ _ _ _ _ _ _ _ _ _ _ _ _ _ _ _ _ _ _ l4'; (have l5' := l4' _ (List.Mem.head _))))
  (k_with "call ref" => (k_here; (with_reducible show wpAny _ _ (call (Value.ref 124) _) _ _ _); k_dflt (refine' exact_walk (by k_asm) (by k_asm) (by k_asm) (by k_asm) (by k_asm) (by assumption) (by assumption) (by assumption) (by assumption) (by assumption) (by assumption) (by assumption) (by assumption) (by assumption) (by assumption) (by exact rfl) (by ktr_room) (by ktr_units) ?_); intro _ _ _ _ _ _ _ _ _))
  (k_with "call ref cons nil" => (k_here; (with_reducible show wpAny _ _ (call (Value.ref 124) _) _ _ _); k_dflt (refine' exact_walk (by k_asm) (by k_asm) (by k_asm) (by k_asm) (by k_asm) (by assumption) (by assumption) (by assumption) (by assumption) (by assumption) (by assumption) (by assumption) (by assumption) (by assumption) (by assumption) (by exact rfl) (by ktr_room) (by ktr_units) ?_); intro _ _ _ _ _ _ _ _ _))
  (k_with "call ref nil" => (k_here; (with_reducible show wpAny _ _ (call (Value.ref 124) _) _ _ _); k_dflt (refine' exact_walk (by k_asm) (by k_asm) (by k_asm) (by k_asm) (by k_asm) (by assumption) (by assumption) (by assumption) (by assumption) (by assumption) (by assumption) (by assumption) (by assumption) (by assumption) (by assumption) (by exact rfl) (by ktr_room) (by ktr_units) ?_); intro _ _ _ _ _ _ _ _ _))
  (k_with "call ref" => (k_here; (with_reducible show wpAny _ _ (call (Value.ref 131) _) _ _ _); k_dflt (refine' partial_walk (by k_asm) (by k_asm) (by k_asm) (by k_asm) (by k_asm) (by assumption) (by assumption) (by assumption) (by assumption) (by assumption) (by assumption) (by assumption) (by assumption) (by exact rfl) (by ktr_room) (by ktr_units) ?_); intro _ _ _ _))
  (k_with "call ref cons nil" => (k_here; (with_reducible show wpAny _ _ (call (Value.ref 131) _) _ _ _); k_dflt (refine' partial_walk (by k_asm) (by k_asm) (by k_asm) (by k_asm) (by k_asm) (by assumption) (by assumption) (by assumption) (by assumption) (by assumption) (by assumption) (by assumption) (by assumption) (by exact rfl) (by ktr_room) (by ktr_units) ?_); intro _ _ _ _))
  (k_with "call ref nil" => (k_here; (with_reducible show wpAny _ _ (call (Value.ref 131) _) _ _ _); k_dflt (refine' partial_walk (by k_asm) (by k_asm) (by k_asm) (by k_asm) (by k_asm) (by assumption) (by assumption) (by assumption) (by assumption) (by assumption) (by assumption) (by assumption) (by assumption) (by exact rfl) (by ktr_room) (by ktr_units) ?_); intro _ _ _ _))
  (k_with "call ref" => (k_here; (with_reducible show wpAny _ _ (call (Value.ref 145) _) _ _ _); k_dflt (refine' positional_walk (by k_asm) (by k_asm) (by k_asm) (by k_asm) (by k_asm) (by assumption) (by assumption) (by assumption) (by assumption) (by assumption) (by assumption) (by assumption) (by assumption) (by assumption) (by exact rfl) (by ktr_room) (by ktr_units) ?_); intro _ _ _ _ _ _ _ _ _))
  (k_with "call ref cons nil" => (k_here; (with_reducible show wpAny _ _ (call (Value.ref 145) _) _ _ _); k_dflt (refine' positional_walk (by k_asm) (by k_asm) (by k_asm) (by k_asm) (by k_asm) (by assumption) (by assumption) (by assumption) (by assumption) (by assumption) (by assumption) (by assumption) (by assumption) (by assumption) (by exact rfl) (by ktr_room) (by ktr_units) ?_); intro _ _ _ _ _ _ _ _ _))
  (k_with "call ref nil" => (k_here; (with_reducible show wpAny _ _ (call (Value.ref 145) _) _ _ _); k_dflt (refine' positional_walk (by k_asm) (by k_asm) (by k_asm) (by k_asm) (by k_asm) (by assumption) (by assumption) (by assumption) (by assumption) (by assumption) (by assumption) (by assumption) (by assumption) (by assumption) (by exact rfl) (by ktr_room) (by ktr_units) ?_); intro _ _ _ _ _ _ _ _ _))
  (k_with "call ref" => (k_here; (with_reducible show wpAny _ _ (call (Value.ref 157) _) _ _ _); k_dflt (refine' rest_walk (by k_asm) (by k_asm) (by k_asm) (by k_asm) (by k_asm) (by assumption) (by assumption) (by assumption) (by assumption) (by exact rfl) (by ktr_room) (by ktr_units) ?_); intro _ _ _ _ _ _ _ _ hr'; (have hrl' := Are.len hr')))
  (k_with "call ref cons nil" => (k_here; (with_reducible show wpAny _ _ (call (Value.ref 157) _) _ _ _); k_dflt (refine' rest_walk (by k_asm) (by k_asm) (by k_asm) (by k_asm) (by k_asm) (by assumption) (by assumption) (by assumption) (by assumption) (by exact rfl) (by ktr_room) (by ktr_units) ?_); intro _ _ _ _ _ _ _ _ hr'; (have hrl' := Are.len hr')))
  (k_with "call ref nil" => (k_here; (with_reducible show wpAny _ _ (call (Value.ref 157) _) _ _ _); k_dflt (refine' rest_walk (by k_asm) (by k_asm) (by k_asm) (by k_asm) (by k_asm) (by assumption) (by assumption) (by assumption) (by assumption) (by exact rfl) (by ktr_room) (by ktr_units) ?_); intro _ _ _ _ _ _ _ _ hr'; (have hrl' := Are.len hr')))
  (k_with "call builtin:len" => (k_here; k_dflt (refine' len_sym (by first | is_list | exact News.isList (by k_asm) (List.Mem.head _)) (by assumption) (by omega) ?_)))
  (k_with "call builtin:len cons nil" => (k_here; k_dflt (refine' len_sym (by first | is_list | exact News.isList (by k_asm) (List.Mem.head _)) (by assumption) (by omega) ?_)))
  (k_with "exec Raise some none" => (k_here; k_dflt (refine' raise51 (by exact rfl) ?_)))
  (k_with "call ref" => (k_here; (with_reducible show wpAny _ _ (call (Value.ref 51) _) _ _ _); k_dflt (refine' call51_walk (news := []) (by k_asm) (by k_asm) (by k_asm) (by k_asm) (by exact rfl) (by ktr_room) (by ktr_units) ?_); intro _ _ _ _ _ _))
  (k_with "call ref cons nil" => (k_here; (with_reducible show wpAny _ _ (call (Value.ref 51) _) _ _ _); k_dflt (refine' call51_walk (news := []) (by k_asm) (by k_asm) (by k_asm) (by k_asm) (by exact rfl) (by ktr_room) (by ktr_units) ?_); intro _ _ _ _ _ _))
  (k_with "call ref nil" => (k_here; (with_reducible show wpAny _ _ (call (Value.ref 51) _) _ _ _); k_dflt (refine' call51_walk (news := []) (by k_asm) (by k_asm) (by k_asm) (by k_asm) (by exact rfl) (by ktr_room) (by ktr_units) ?_); intro _ _ _ _ _ _))
  (k_with "CompSrc" => k_dflt (change Later _))
  (k_with "CompSrc Subscript nil ref" => k_dflt (change Later _))
  (k_with "eval ListComp" => (k_here; k_dflt (refine LCg.ListComp_U (F₀ := by k_asm) (by with_unfolding_all rfl) (by decide) (by rfl) (by decide) (by rfl) ?_)))
  (k_with "eval ListComp Subscript cons" => (k_here; k_dflt (refine LCg.ListComp_U (F₀ := by k_asm) (by with_unfolding_all rfl) (by decide) (by rfl) (by decide) (by rfl) ?_)))
  show (let G := (_ : Prop); G); intro G
  obtain ⟨B, F, X, T⟩ := C
  unfold G; clear G
  revert X; k_fill; intro X
  have N : News h₀ L s.heap [] := fun p hp => nomatch hp
  refine wpAny_call ?_
  k_dflt (refine' code_defG ?k1 ?k2 ?k3 ?k4 ?k5 ?kA ?kF ?kK ?k6 ?k7 ?k8 ?k9 ?kB ?_ ?c2 ?c3 ?c4 ?c5; (case kA => exact rfl); (case kF => exact rfl); (case kK => assumption); (case k1 => k_asm); (case k2 => k_asm); (case k3 => k_asm); (case k4 => k_asm); (case k5 => k_asm); (case k6 => k_is); (case k7 => k_is); (case k8 => ktr_room); (case k9 => first | exact BindsTo.of_eq rfl | exact binds_K (by k_in) rfl (by k_is) rfl rfl rfl); (case c5 => decide); (case kB => exact locs rfl); (case c2 => exact rfl); (case c3 => exact rfl); (case c4 => exact rfl); k_whole; intro g' L' h' FG' F' N' B' X' T' kG'; (try dsimp only); (try k_fold))
  have kG2 : GSub s.heap g' [] := kG'
  have up : ∀ b o, At s.heap ok b o → At g' (fun _ => True) b o := fun b o z => ⟨kG2 _ _ z.1 (by simp), trivial⟩
  have hF' : FormIn g' (fun _ => True) fo := let ⟨f1, f2, z⟩ := hF; ⟨f1, f2, z.mono up⟩
  show (let G := (_ : Prop); G); intro G
  obtain ⟨f1, f2, hFl⟩ := id hF'
  obtain ⟨nf, hFl, _⟩ := hFl
  replace hFl := lst_base hFl
  have hl' : LstAt g' (fun _ => True) lo vs := hl.mono up
  obtain ⟨nl, hll, _⟩ := id hl'
  replace hll := lst_base hll
  have ha' : ArgsIn w.params g' (fun _ => True) vs args := ha.mono up
  have hlen := ha'.len
  unfold G; clear G
  k_steps
  refine LCg.CompSrc.base rfl (by k_asm) (by k_asm) hll (by rw [PySem.sizeLine_eq, List.size_toArray]; omega) ?_
  intro g2
  refine comp_rest (fun i y => ∃ g, (tagsOf args)[i]? = some g ∧ OptTxt g.txt y) (Or.inl hll) ?cturn ?cfin
  case cturn =>
    intro i v I oI C oC D m₂ ys h tk E' hi hv' hC hx F1 N1 off ne
    rw [List.size_toArray] at hi
    show (let G := (_ : Prop); G); intro G
    obtain ⟨g, d, hgd⟩ : ∃ g d, args[i]? = some (g, d) := ⟨_, _, List.getElem?_eq_getElem (by omega)⟩
    obtain ⟨v', e1, t, tv, xx, rfl, htup, hgt, _⟩ := ha'.get hgd
    have e2 : v = .ref t := by
      have : vs[i]? = some v := by simpa using hv'
      rw [e1] at this; exact (Option.some.inj this).symm
    subst e2
    obtain ⟨nt, htup, _⟩ := htup
    replace htup := tup_base htup
    unfold G; clear G
    k_steps
    exact ⟨_, _, rfl, F1, gsub_refl _ _, g, by unfold tagsOf; rw [List.getElem?_map, hgd]; rfl, hgt⟩
  case cfin =>
    intro tvs hys
    rw [List.size_toArray, hlen] at hys
    have hta : TagsAre tvs (tagsOf args) := tagsAre_of (by rw [tagsOf, List.length_map]; exact hys)
    have htl := hta.len
    have hgl : (tagsOf args).length = args.length := by rw [tagsOf, List.length_map]
    have hgn : (tagsOf args).length ≤ 5 := by omega
    show (let G := (_ : Prop); G); intro G
    obtain ⟨hxa, hxl, hxs⟩ := exN_all (cs := (tagsOf args).map Tg.cl) (i := 2) (by omega)
    rw [List.length_map] at hxl
    obtain ⟨_, hpl, _, _⟩ := posN_ok (cs := (tagsOf args).map Tg.cl) (i := 2) (by omega)
    rw [List.length_map] at hpl
    have hu2 : ∀ j g, (tagsOf args)[j]? = some g → isNm g.cl = true → (exN ((tagsOf args).map Tg.cl) 2).1.getD j 0 = 2 := by
      intro j g hj hg
      have hc := check_all (cs := (tagsOf args).map Tg.cl) (by rw [List.length_map]; exact hgn)
      have hv2 : valid ((tagsOf args).map Tg.cl) = true := hv
      unfold check at hc
      rw [hv2] at hc
      simp only [Bool.not_true, Bool.false_or, Bool.and_eq_true, List.all_eq_true] at hc
      have h3 := hc.1.1.1.2 j (List.mem_range.mpr (by rw [List.length_map]; exact (List.getElem?_eq_some_iff.mp hj).1))
      rw [getD_cl hj, hg] at h3
      simpa using h3
    have hrb : ((List.range (tagsOf args).length).filter fun i => (posN ((tagsOf args).map Tg.cl) 2).2.1.getD i 0 == 0).length ≤ 5 := Nat.le_trans (List.length_filter_le ..) (by rw [List.length_range]; exact hgn)
    have hlt : ∀ k ∈ (List.range (tagsOf args).length).filter fun i => (posN ((tagsOf args).map Tg.cl) 2).2.1.getD i 0 == 0, k < args.length := fun k hk' => by
      have := List.mem_range.mp (List.mem_filter.mp hk').1
      omega
    have hrest : restOf (clsOf args) = (List.range (tagsOf args).length).filter fun i => (posN ((tagsOf args).map Tg.cl) 2).2.1.getD i 0 == 0 := by unfold restOf; rw [List.length_map]
    unfold G; clear G
    by_cases hre : ((List.range (tagsOf args).length).filter fun i => (posN ((tagsOf args).map Tg.cl) 2).2.1.getD i 0 == 0).length = 0
    · have hgt0 : decide (((((List.range (tagsOf args).length).filter fun i => (posN ((tagsOf args).map Tg.cl) 2).2.1.getD i 0 == 0).length : Nat) : Int) > 0) = false := decide_eq_false (by omega)
      k_steps
      rename_i h9 D9 h10 F10 N10 l10 kF10 kN10
      have mem : ∀ {q : Addr × Obj}, q ∈ _ → At h10 (fun b => s.heap.get? b = none) q.1 q.2 := fun hq => ⟨(N10 _ hq).1, none_back kG2 (N10 _ hq).2.2⟩
      refine retn _ _ _ _ _ _ _ (hrest.trans (List.eq_nil_of_length_eq_zero hre)) (gsub_back kG2 F10) ⟨_, mem (.head _)⟩ (mem (.tail _ (.tail _ (.head _)))) (by assumption) ⟨_, mem (.tail _ (.head _))⟩ (by rw [hrest]; assumption)
    · have hgt0 : decide (((((List.range (tagsOf args).length).filter fun i => (posN ((tagsOf args).map Tg.cl) 2).2.1.getD i 0 == 0).length : Nat) : Int) > 0) = true := decide_eq_true (by omega)
      k_steps
      refine leave51 B' (by assumption) (by k_asm) fun h9 G9 => ?_
      rw [← hrest] at G9
      exact retr _ _ _ _ _ (fun q => hre (by rw [← hrest, q]; rfl)) (Gone.sub G9 kG2)
end
end
section
open PySem PySem.W PyProof.Rows PySem.Calls
section
variable {w : World} {mean : ExcName → Option Value} {mg mb : Str → Option Value} {dp un : Nat} {gd : Option (List Code)} {cn : Str} {cs : Scope} {a : Addr} {ccd : Value} {cl : List (Str × Addr)} {outer : List Env} {A₀ : Around} {base h₀ : Heap} {L : Addr} {m : Str → Option Value} {s : Shared} {Q E : Value → Shared → Prop}
theorem match_walk {fo lo : Addr} {f1 f2 : Tok} {nf : Nat} {vs : List Value} {args : List (Tg × Val)} {news : List (Addr × Obj)} (B : Below A₀ base outer h₀) (F : Fr h₀ L s.heap m) (X : (heapK w.params).In h₀) (T : Top viewQ LL mean mg mb h₀) (N : News h₀ L s.heap news)
    (hF : (fo, listOf #[.str (Str.ofString "x") f1, .str (Str.ofString "name") f2] nf) ∈ news) (hl : LstAt h₀ (fun _ => True) lo vs) (ha : ArgsIn w.params h₀ (fun _ => True) vs args) (hn : args.length ≤ 5) (hok : ∀ p ∈ args, p.2.Ok) (hv : valid (clsOf args) = true)
    (hk : cs.kind = .function) (hdp : dp + 45 < recursionLimit) (hun : un + 600 < cLine)
    (retn : ∀ t pl re o (rvs : List Value) h' tk' nt nr, restOf (clsOf args) = [] → Fr h₀ L h' m → News h₀ L h' ((t, { cls := .type "tuple", data := .seq #[.ref pl, .ref re] nt }) :: (pl, o) :: (re, listOf rvs.toArray nr) :: news) → DctIs w pl o (posN (clsOf args) 2).2.2 → Q (.ref t) { s with heap := h', toks := tk' })
    (retr : ∀ e dx t h' tk', restOf (clsOf args) ≠ [] → Gone s.heap (envX cn cs L a ccd cl :: outer) e dx (.str (unusedText (restTexts args (restOf (clsOf args)))) t) h' → E (.ref e) { s with heap := h', toks := tk' }) :
   wpAny (model PySem.Challenge.rw_pq1402_01.row.prog w) (ktrTop dp un gd cn cs L a ccd cl outer) (call (.ref 196) [.ref fo, .ref lo, .ref 185]) Q E s := by
  have up : ∀ b o, At h₀ (fun _ => True) b o → At s.heap (fun _ => True) b o := fun b o z => ⟨F.keep _ _ z.1, z.2⟩
  refine match_call (ok := fun _ => True) ⟨B, F, X, T⟩ hk hdp hun ⟨f1, f2, nf, (N _ hF).1, trivial⟩ (hl.mono up) (ha.mono up) hn hok hv ?_ retr
  rintro t pl re o rvs h' tk' hr G ⟨nt, ht⟩ hp hD ⟨nr, hre⟩ -
  have mk : ∀ {b ob}, At h' (fun b => s.heap.get? b = none) b ob → h'.get? b = some ob ∧ b ≠ L ∧ h₀.get? b = none := fun {b ob} z => by
    have z2 : s.heap.get? b = none := z.2
    refine ⟨z.1, ?_, ?_⟩
    · rintro rfl
      obtain ⟨oL, _, _, hL, _⟩ := F.ns
      rw [z2] at hL; cases hL
    · cases q : h₀.get? b with
      | none => rfl
      | some o' => rw [F.keep _ _ q] at z2; cases z2
  refine retn t pl re o rvs h' tk' nt nr hr (fr_gsub0 F G) (fun q hq => ?_) hD
  rcases List.mem_cons.mp hq with rfl | hq
  · exact mk ht
  · rcases List.mem_cons.mp hq with rfl | hq
    · exact mk hp
    · rcases List.mem_cons.mp hq with rfl | hq
      · exact mk hre
      · exact news_gsub0 N G q hq







theorem app_sym {A : Around} {l : Addr} {vs : List Value} {n : Nat} {x : Value} {news : List (Addr × Obj)} {g : Obj → List (Addr × Obj)} (F : Fr h₀ L s.heap m) (N : News h₀ L s.heap news) (U : UpdF l (listOf vs.toArray n) news g) (hz : vs.length < 1000)
    (h : ∀ h' vs', vs' = vs ++ [x] → Fr h₀ L h' m → News h₀ L h' (g (listOf vs'.toArray (n + 1))) → Q .none { s with heap := h' }) : wpAny (model PySem.Challenge.rw_pq1402_01.row.prog w) A (call (.builtin "list.append") [.ref l, x]) Q E s := by
  obtain ⟨pre, post, rfl, hg, a, b⟩ := U.split
  have z := N (l, listOf vs.toArray n) (List.mem_append.mpr (.inr (.head _)))
  refine append_at z.1 (fun h' hs e => h h' _ rfl (F.change hs z.2.1 z.2.2) (hg _ ▸ ?_)) (by rw [List.size_toArray, PySem.sizeLine_eq]; omega)
  refine News.setAt N a b hs ?_
  rw [e]
  simp
theorem in_fact2 {A : Around} {x : Str} {t : Tok} {d : Addr} {D : List (PyData × PyData)} {r : Option PyData} (T : StrTab PySem.Challenge.rw_pq1402_01.row.prog w s.heap d D) (e : PySem.Spec.lookup (.str x) D = r) (h : Q (.bool r.isSome) { s with toks := s.toks + 1 }) :
    wpAny (model PySem.Challenge.rw_pq1402_01.row.prog w) A (compareOp .In (.str x t) (.ref d)) Q E s := in_strTab T (by rw [e]; exact h)

set_option maxRecDepth 100000 in
set_option maxHeartbeats 2000000 in
theorem take_call (C : Cx w mean mg mb A₀ base outer h₀ L s.heap m) (hk : cs.kind = .function) (hdp : dp + 55 < recursionLimit) (hun : un + 800 < cLine)
    {ok : Addr → Prop} {fo lo : Addr} {vs : List Value} {args : List (Tg × Val)} (hF : FormIn s.heap ok fo) (hl : LstAt s.heap ok lo vs) (ha : ArgsIn w.params s.heap ok vs args) (hn : args.length ≤ 5) (hok : ∀ p ∈ args, p.2.Ok) (hv : valid (clsOf args) = true)
    (retn : ∀ l vvs h' tk', restOf (clsOf args) = [] → GSub s.heap h' [] → LstAt h' (fun b => s.heap.get? b = none) l vvs → vvs.length = 2 → Q (.ref l) { s with heap := h', toks := tk' })
    (retr : ∀ e dx t h' tk', restOf (clsOf args) ≠ [] → Gone s.heap (envX cn cs L a ccd cl :: outer) e dx (.str (unusedText (restTexts args (restOf (clsOf args)))) t) h' → E (.ref e) { s with heap := h', toks := tk' }) :
   wpAny (model PySem.Challenge.rw_pq1402_01.row.prog w) (ktrTop dp un gd cn cs L a ccd cl outer) (call (.ref 202) [.ref lo, .ref fo]) Q E s := by
  w_top off
  k_with_none
  (k_with "compareOp Lt int int" => (k_here; k_dflt (refine' lti_fact (by assumption) ?_)))
  (k_with "call builtin:str.startswith" => (k_here; k_dflt (refine' starts_fact (by assumption) ?_)))
  (k_with "compareOp Eq int int" => (k_here; k_dflt (refine' eqi_fact (by assumption) ?_)))
  (k_with "LeaveK" => (refine' leaveK_ (by k_asm) (by k_asm) ?_; intro _ _; dsimp only))
  (k_with "LeaveK ref" => (refine' leaveK_ (by k_asm) (by k_asm) ?_; intro _ _; dsimp only))
  (k_with "call builtin:len" => (k_here; k_dflt (refine' len_sym (by first | is_list) (by assumption) (by omega) ?_)))
  (k_with "subscriptTail" => (k_here; (with_reducible show wpAny _ _ (subscriptTail _ _ (Value.ref _) (Value.int _ _)) _ _ _); k_dflt (refine' item_at (by is_list) (by assumption) (by omega) ?_)))
  (k_with "subscriptTail Name Name ref str" => (k_here; (with_reducible show wpAny _ _ (subscriptTail _ _ (Value.ref _) (Value.int _ _)) _ _ _); k_dflt (refine' item_at (by is_list) (by assumption) (by omega) ?_)))
  (k_with "subscriptTail Name Subscript ref int" => (k_here; (with_reducible show wpAny _ _ (subscriptTail _ _ (Value.ref _) (Value.int _ _)) _ _ _); k_dflt (refine' item_at (by is_list) (by assumption) (by omega) ?_)))
  (k_with "subscriptTail Subscript Name Subscript Constant ref int" => (k_here; (with_reducible show wpAny _ _ (subscriptTail _ _ (Value.ref _) (Value.int _ _)) _ _ _); k_dflt (refine' item_at (by is_list) (by assumption) (by omega) ?_)))
  (k_with "subscriptTail Name Constant ref int" => (k_here; (with_reducible show wpAny _ _ (subscriptTail _ _ (Value.ref _) (Value.int _ _)) _ _ _); k_dflt (refine' item_at (by is_list) (by assumption) (by omega) ?_)))
  (k_with "pyIter ref" => (k_here; (rename JMk _ _ => jm'); (with_reducible show wpAny _ _ (pyIter (Value.ref _)) (fun it s₂ => LoopAtV _ _ _ _ _ _ _ _ _ it s₂) _ _); k_dflt (first | (refine' for_list_jm jm' (by exact rfl) (by assumption) (by k_asm) (by k_asm) ?_) | (refine' for_range_jm jm' (by exact rfl) (by assumption) (by omega) (by k_asm) (by k_asm) ?_))))
  (k_with "exec For Name Name cons nil" => (k_here; (rename JMk _ _ => jq'); (rename Fr _ _ _ _ => lF'); (with_unfolding_all refine' For_invVF lF' (by exact rfl) (by exact rfl) ?_; k_whole)))
  (k_with "call builtin:list.append" => (k_here; k_dflt (refine' app_sym (by k_asm) (by k_asm) (by k_updF) (by omega) ?_); intro _ _ _ _ _))
  (k_with "call builtin:list.append cons nil" => (k_here; k_dflt (refine' app_sym (by k_asm) (by k_asm) (by k_updF) (by omega) ?_); intro _ _ _ _ _))
  (k_with "compareOp In str ref" => (k_here; k_dflt (refine' in_fact2 (by k_tabat) (by assumption) ?_); (try dsimp only [Option.isSome])))
  (k_with "compareOp Eq str str" => (k_here; k_dflt (refine' PyProof.Rows.eq_str ?_; rw [show (keyOf _ == Str.ofString "...") = false from by assumption])))
  (k_with "subscriptTail" => (k_here; (with_reducible show wpAny _ _ (subscriptTail _ _ (Value.ref _) (Value.str _ _)) _ _ _); k_dflt (refine' item_strTab (by k_tabat) (by assumption) ?_); intro _ hv'; cases hv'))
  (k_with "subscriptTail Name Name ref str" => (k_here; (with_reducible show wpAny _ _ (subscriptTail _ _ (Value.ref _) (Value.str _ _)) _ _ _); k_dflt (refine' item_strTab (by k_tabat) (by assumption) ?_); intro _ hv'; cases hv'))
  (k_with "subscriptTail Name Subscript ref int" => (k_here; (with_reducible show wpAny _ _ (subscriptTail _ _ (Value.ref _) (Value.str _ _)) _ _ _); k_dflt (refine' item_strTab (by k_tabat) (by assumption) ?_); intro _ hv'; cases hv'))
  (k_with "subscriptTail Subscript Name Subscript Constant ref int" => (k_here; (with_reducible show wpAny _ _ (subscriptTail _ _ (Value.ref _) (Value.str _ _)) _ _ _); k_dflt (refine' item_strTab (by k_tabat) (by assumption) ?_); intro _ hv'; cases hv'))
  (k_with "subscriptTail Name Constant ref int" => (k_here; (with_reducible show wpAny _ _ (subscriptTail _ _ (Value.ref _) (Value.str _ _)) _ _ _); k_dflt (refine' item_strTab (by k_tabat) (by assumption) ?_); intro _ hv'; cases hv'))
  (k_with "CompSrc" => k_dflt (change Later _))
  (k_with "call ref" => (k_here; (with_reducible show wpAny _ _ (call (Value.ref 196) _) _ _ _); k_dflt (refine' match_walk (by k_asm) (by k_asm) (by k_asm) (by k_asm) (by k_asm) (by exact List.Mem.head _) (by assumption) (by assumption) (by assumption) (by assumption) (by assumption) (by exact rfl) (by ktr_room) (by ktr_units) ?_ ?_); (first | (intro _ _ _ _ _ _ _ _ _ _ _ _ _) | (intro _ _ _ _ _ _ _))))
  (k_with "call ref cons nil" => (k_here; (with_reducible show wpAny _ _ (call (Value.ref 196) _) _ _ _); k_dflt (refine' match_walk (by k_asm) (by k_asm) (by k_asm) (by k_asm) (by k_asm) (by exact List.Mem.head _) (by assumption) (by assumption) (by assumption) (by assumption) (by assumption) (by exact rfl) (by ktr_room) (by ktr_units) ?_ ?_); (first | (intro _ _ _ _ _ _ _ _ _ _ _ _ _) | (intro _ _ _ _ _ _ _))))
  show (let G := (_ : Prop); G); intro G
  obtain ⟨B, F, X, T⟩ := C
  have N : News h₀ L s.heap [] := News.nil
  unfold G; clear G
  revert X; k_fill; intro X
  refine wpAny_call ?_
  k_dflt (refine' code_cG ?k1 ?k2 ?k3 ?k4 ?k5 ?kA ?kF ?kK ?k6 ?k7 ?k8 ?k9 ?kB ?kD ?_ ?c2 ?c3 ?c4; (case kA => exact rfl); (case kF => exact rfl); (case kK => assumption); (case k1 => k_asm); (case k2 => k_asm); (case k3 => k_asm); (case k4 => k_asm); (case k5 => k_asm); (case k6 => k_is); (case k7 => k_is); (case k8 => ktr_room); (case k9 => first | exact BindsTo.of_eq rfl | exact binds_K (by k_in) rfl (by k_is) rfl rfl rfl); (case kB => exact rfl); (case kD => decide +kernel); (case c2 => exact rfl); (case c3 => exact rfl); (case c4 => exact rfl); k_whole; intro g' L' h' tk' cells' FG' F' N' Y' B' X' T' l1 kG'; (try k_lt l1); k_cells Y'; (try simp only [List.cons_append, List.nil_append] at N'); (try dsimp only); (try k_fold))
  have kG2 : GSub s.heap g' [] := kG'
  have up : ∀ b o, At s.heap ok b o → At g' (fun _ => True) b o := fun b o z => ⟨kG2 _ _ z.1 (by simp), trivial⟩
  show (let G := (_ : Prop); G); intro G
  obtain ⟨f1, f2, hFl⟩ := hF
  obtain ⟨nf, hFl, _⟩ := hFl.mono up
  replace hFl := lst_base hFl
  have hl' : LstAt g' (fun _ => True) lo vs := hl.mono up
  obtain ⟨nl, hll, _⟩ := id hl'
  replace hll := lst_base hll
  have ha' : ArgsIn w.params g' (fun _ => True) vs args := ha.mono up
  have hlen := ha'.len
  unfold G; clear G
  k_steps
  · rename_i D2 c2 h2 l2 t2 pl re o rvs h3 tk3 nt3 nr3 hr3 hD3 h4 h5 h6 vl h7 l7 h8 F8 N8
    show (let G := (_ : Prop); G); intro G
    obtain ⟨lo3, kvs, hD, hf⟩ := hD3
    unfold G; clear G
    rename_i oc dc hF0 _ _
    have jm : JMk [] (fun i nx => ∃ (vvs : List Value) (n : Nat), nx = [(vl, listOf vvs.toArray n), (pl, o), (L' + 1, oc)] ∧ vvs.length = i) := ⟨⟩
    have hchk := check_all (cs := clsOf args) (by rw [List.length_map, tagsOf, List.length_map]; exact hn)
    unfold check at hchk
    rw [hv] at hchk
    simp only [Bool.not_true, Bool.false_or, Bool.and_eq_true] at hchk
    have hlt4 := hchk.1.2
    have hD3 := (posN_ok (cs := clsOf args) (i := 2) (by omega)).2.2.1
    generalize hDD : (posN (clsOf args) 2).2.2 = D at hlt4 hD3 hf
    have hcl : (clsOf args).length = args.length := by rw [List.length_map, tagsOf, List.length_map]
    have hne1 : vl ≠ pl := Nat.ne_of_gt l7.2.1
    have hne2 : vl ≠ L' + 1 := Nat.ne_of_gt l7.2.2.2.2
    have hne3 := hne1.symm
    have hne4 := hne2.symm
    k_steps
    refine ⟨[(vl, listOf ([] : List Value).toArray 0), (pl, o), (L' + 1, oc)], ?sub, ⟨[], 0, rfl, rfl⟩, ?turn, ?done⟩
    case sub =>
      intro p hp
      simp only [List.mem_cons, List.not_mem_nil, or_false] at hp ⊢
      rcases hp with rfl | rfl | rfl <;> simp
    case turn =>
      intro i v u nx h tk own hi ho ha hQ1 F1 N1
      show (let G := (_ : Prop); G); intro G
      obtain ⟨vvs, n, rfl, hvl⟩ := hQ1
      obtain ⟨c, t, hc, rfl⟩ : ∃ c t, cnames[i]? = some c ∧ v = .str (keyOf c) t := by
        have h2 : i < 2 := (List.getElem?_eq_some_iff.mp hi).1
        rcases (show i = 0 ∨ i = 1 by omega) with rfl | rfl
        · exact ⟨.x, f1, rfl, (Option.some.inj hi).symm⟩
        · exact ⟨.nm, f2, rfl, (Option.some.inj hi).symm⟩
      have hcm := (cnames_nm hc).1
      have hi2 := (cnames_nm hc).2
      have hdots : (keyOf c == Str.ofString "...") = false := by
        cases c <;> first | (exact absurd hcm (by decide)) | decide +kernel
      have hvz : vvs.length < 1000 := by omega
      have hoV : ∀ p ∈ own, p.1 ≠ vl := fun p hp => ho p hp vl (by simp)
      dsimp only [List.cons_append, List.nil_append] at N1
      have hlk := lookup_tab hcm hD3
      unfold G; clear G
      cases hkd : D.find? (fun p => p.1 == c) with
      | none =>
        rw [hkd, Option.map_none] at hlk
        k_steps
        rename_i h9 vs9 hv9 F9 N9
        exact turn_endN (nx := [(vl, listOf vs9.toArray (n + 1)), (pl, o), (L' + 1, oc)]) F9 N9 ⟨vs9, n + 1, rfl, by rw [hv9, List.length_append, hvl]; rfl⟩ ha (fun p hp => hp) (fun y h1 _ => if_neg h1)
      | some q =>
        show (let G := (_ : Prop); G); intro G
        obtain ⟨c', p⟩ := q
        rw [hkd, Option.map_some] at hlk
        have hp : p < args.length := by
          have := List.all_eq_true.mp hlt4 _ (List.mem_of_find?_eq_some hkd)
          have := of_decide_eq_true this
          rw [hcl] at this
          exact this
        obtain ⟨g, d, hgd⟩ : ∃ g d, args[p]? = some (g, d) := ⟨_, _, List.getElem?_eq_getElem hp⟩
        obtain ⟨v', e1, tt, tv, xx, rfl, htup, _, _⟩ := ha'.get hgd
        obtain ⟨nt, htup, _⟩ := htup
        replace htup := tup_base htup
        unfold G; clear G
        k_steps
        rename_i h9 vs9 hv9 F9 N9
        exact turn_endN (nx := [(vl, listOf vs9.toArray (n + 1)), (pl, o), (L' + 1, oc)]) F9 N9 ⟨vs9, n + 1, rfl, by rw [hv9, List.length_append, hvl]; rfl⟩ ha (fun p hp => hp) (fun y h1 _ => if_neg h1)
    case done =>
      intro u3 nx h3 tk3 hQ2 F3 N3
      show (let G := (_ : Prop); G); intro G
      obtain ⟨vvs, n, rfl, hvl⟩ := hQ2
      unfold G; clear G
      k_steps
      exact retn vl vvs _ _ hr3 (gsub_back kG2 F3) ⟨n, (N3 _ (.head _)).1, none_back kG2 (N3 _ (.head _)).2.2⟩ hvl
  · refine leave51b (L := L') B' rfl (by k_asm) (by assumption) fun h9 G9 => ?_
    exact retr _ _ _ _ _ (by assumption) (G9.sub kG2)
end
end
section
open PySem PySem.W PyProof.Rows PySem.Calls
structure JMg (stored : List Str) (J : Nat → List (Addr × Obj) → Prop) : Prop where
def GrowEnd (h₀ : Heap) (L : Addr) (x : Str) (stored : List Str) (m₀ : Str → Option Value) (J : List (Addr × Obj) → Prop) (I : Addr) (oI : Obj) (s₁ s₂ : Shared) : Prop :=
  ∃ h' tk m' nx', s₂ = { s₁ with heap := h', toks := tk } ∧ Fr h₀ L h' m' ∧ News h₀ L h' ((I, oI) :: nx') ∧ (∀ p ∈ nx', p.1 ≠ I) ∧ J nx' ∧ ∀ y, y ≠ x → stored.contains y = false → m' y = m₀ y
def GrowPost (h₀ : Heap) (L : Addr) (x : Str) (stored : List Str) (m₀ : Str → Option Value) (J : List (Addr × Obj) → Prop) (I : Addr) (oI : Obj) (s₁ : Shared) (Q : Flow → Shared → Prop) (f : Flow) (s₂ : Shared) : Prop :=
  match f with
  | .ret v => Q (.ret v) s₂
  | .brk => Q .next s₂
  | _ => GrowEnd h₀ L x stored m₀ J I oI s₁ s₂
section
variable {prog : Program} {w : World} {A : Around} {E : Value → Shared → Prop} {s : Shared} {env : Env} {h₀ : Heap} {x : Str} {body : List Stmt} {Q : Flow → Shared → Prop}
theorem for_range_grow {r : Addr} {t₀ u₀ v₀ : Tok} {n : Nat} {m₀ : Str → Option Value} {news : List (Addr × Obj)} {stored : List Str} {J : Nat → List (Addr × Obj) → Prop} (_ : JMg stored J)
    (hh : A.handled = none) (hr : IsRange s.heap r 0 (n : Int) 1 t₀ u₀ v₀) (hn : n < 1000) (F : Fr h₀ env.locals s.heap m₀) (N : News h₀ env.locals s.heap news)
    (all : Later (∃ news₀, (∀ p ∈ news₀, p ∈ news) ∧ J 0 news₀ ∧
    (∀ i t (u : Str → Option Value) nx h tk I oI, i < n → (∀ p ∈ nx, p.1 ≠ I) → J i nx → Fr h₀ env.locals h (fun y => if y = x then some (.int (i : Int) t) else if stored.contains y then u y else m₀ y) → News h₀ env.locals h ((I, oI) :: nx) →
      wpAny (model prog w) A (execs body env) (GrowPost h₀ env.locals x stored m₀ (J (i + 1)) I oI { s with heap := h, toks := tk } Q) E { s with heap := h, toks := tk }) ∧
    (∀ (u : Str → Option Value) nx h tk, J n nx → Fr h₀ env.locals h (fun y => if y = x then u y else if stored.contains y then u y else m₀ y) → News h₀ env.locals h nx → Q .next { s with heap := h, toks := tk }))) :
    wpAny (model prog w) A (pyIter (.ref r)) (fun it s₂ => LoopAtV prog w A h₀ env x body Q E it s₂) E s := by
  obtain ⟨news₀, hs, hj, turn, done⟩ := all
  have N' : News h₀ env.locals s.heap news₀ := fun p hp => N p (hs p hp)
  refine wpAny_pyIter_range hr (small_one (by omega) (by omega) (by omega) (by omega)) ?_
  have hsz : Builtin.Range.rangeSize 0 (n : Int) 1 = (n : Int) := by
    have := rangeSize_nat 0 (n : Int)
    rw [this]; omega
  refine ⟨s.heap.objs.size, _, _, n, _, _, m₀, news₀, (fun i m nx => J i nx ∧ ∀ y, y ≠ x → stored.contains y = false → m y = m₀ y), rfl, LCg.range_walks hh 0 n, ?_, ?_, ?_, (by show IsRangeIter _ _ _ _ _; rw [hsz]; simpa using Heap.get?_push_size _ rfl), F.push _, (fun p hp => ⟨Heap.get?_push_of_some _ (N' p hp).1, (N' p hp).2⟩), ⟨hj, fun _ _ _ => rfl⟩, ?_, ?_⟩
  · intro hm
    exact absurd F.ns.lt ((List.mem_singleton.mp hm) ▸ Nat.lt_irrefl _)
  · intro b hb
    rw [List.mem_singleton.mp hb]
    exact next_is_new F
  · intro p hp hI
    exact absurd (Heap.lt_size (N' p hp).1) ((List.mem_singleton.mp hI) ▸ Nat.lt_irrefl _)
  · rintro i v m₁ nx s₁ own ⟨h, tk, rfl⟩ hi ⟨t, rfl⟩ ⟨hJ, hm⟩ hoff hown hat hin hst F₁ N₁
    rw [Int.zero_add] at F₁
    rw [map_stored hm] at F₁
    have hIt : ∃ oI, h.get? s.heap.objs.size = some oI := ⟨_, hst⟩
    obtain ⟨oI, hoI⟩ := hIt
    have hmem : (s.heap.objs.size, oI) ∈ own := hin _ (List.mem_singleton.mpr rfl) (next_is_new F) oI hoI
    have hsub : ∀ p ∈ own, p = (s.heap.objs.size, oI) := fun p hp => by
      have e1 := List.mem_singleton.mp (hown p hp)
      have e2 := hat p hp
      obtain ⟨b, o⟩ := p
      dsimp only at e1 e2
      subst e1
      have e3 : h.get? s.heap.objs.size = some o := e2
      rw [hoI] at e3
      cases e3
      rfl
    have N₂ : News h₀ env.locals h ((s.heap.objs.size, oI) :: nx) := fun p hp => by
      rcases List.mem_cons.mp hp with rfl | hp
      · exact N₁ _ (List.mem_append_left _ hmem)
      · exact N₁ _ (List.mem_append_right _ hp)
    refine wpAny_mono (turn i t m₁ nx h tk s.heap.objs.size oI hi (fun p hp q => hoff p hp (List.mem_singleton.mpr q)) hJ F₁ N₂) (fun f s₂ p => ?_) fun _ _ e => e
    have fin : GrowEnd h₀ env.locals x stored m₀ (J (i + 1)) s.heap.objs.size oI { s with heap := h, toks := tk } s₂ → LoopStepU h₀ env.locals [s.heap.objs.size] own (fun m nx => J (i + 1) nx ∧ ∀ y, y ≠ x → stored.contains y = false → m y = m₀ y) { s with heap := h, toks := tk } .next s₂ := by
      rintro ⟨h', tk', m', nx', e, F', N', hne, hJ', hm'⟩
      refine ⟨rfl, h', tk', m', nx', e, F', fun q hq => ?_, fun q hq z => hne q hq (List.mem_singleton.mp z), hJ', hm'⟩
      rcases List.mem_append.mp hq with hq | hq
      · rw [hsub q hq]; exact N' _ (.head _)
      · exact N' _ (.tail _ hq)
    cases f with
    | ret v => exact .ret p
    | brk => exact .brk p
    | next => exact .next (fin p)
    | cont => exact .cont (fin p)
  · rintro h' tk m' nx F₁ N₁ _ ⟨hJ, hm⟩
    rw [map_stored_end hm] at F₁
    exact done m' nx h' tk hJ F₁ N₁
end

/-- from what is at hand in a heap to a finite list of entries -/
def Sure (new : List (Addr × Obj)) (R : Heap → Prop) : Prop := ∀ h, (∀ p ∈ new, h.get? p.1 = some p.2) → R h
theorem lst_list {h : Heap} {ok : Addr → Prop} {l : Addr} {vs : List Value} (x : LstAt h ok l vs) : ∃ new, (∀ p ∈ new, At h ok p.1 p.2) ∧ Sure new fun h => LstAt h (fun _ => True) l vs := by
  obtain ⟨n, a⟩ := x
  exact ⟨[(l, _)], fun p hp => by rw [List.mem_singleton.mp hp]; exact a, fun h z => ⟨n, z _ (.head _), trivial⟩⟩
theorem tup_list {h : Heap} {ok : Addr → Prop} {l : Addr} {vs : List Value} (x : TupAt h ok l vs) : ∃ new, (∀ p ∈ new, At h ok p.1 p.2) ∧ Sure new fun h => TupAt h (fun _ => True) l vs := by
  obtain ⟨n, a⟩ := x
  exact ⟨[(l, _)], fun p hp => by rw [List.mem_singleton.mp hp]; exact a, fun h z => ⟨n, z _ (.head _), trivial⟩⟩
theorem vec_list {P : Params} {h : Heap} {ok : Addr → Prop} {x l : Addr} {kd : Str} {atv : Value} (v : VecAt P h ok x kd l atv) : ∃ new, (∀ p ∈ new, At h ok p.1 p.2) ∧ Sure new fun h => VecAt P h (fun _ => True) x kd l atv := by
  obtain ⟨dx, t0, t1, t2, t3, t4, t5, a, b⟩ := v
  refine ⟨[(x, _), (dx, _)], fun p hp => ?_, fun h z => ⟨dx, t0, t1, t2, t3, t4, t5, ⟨z (x, _) (.head _), trivial⟩, ⟨z (dx, _) (.tail _ (.head _)), trivial⟩⟩⟩
  rcases List.mem_cons.mp hp with rfl | hp
  · exact a
  · rw [List.mem_singleton.mp hp]; exact b
theorem both {h : Heap} {ok : Addr → Prop} {R S : Heap → Prop} (a : ∃ new, (∀ p ∈ new, At h ok p.1 p.2) ∧ Sure new R) (b : ∃ new, (∀ p ∈ new, At h ok p.1 p.2) ∧ Sure new S) : ∃ new, (∀ p ∈ new, At h ok p.1 p.2) ∧ Sure new fun h => R h ∧ S h := by
  obtain ⟨n1, a1, a2⟩ := a
  obtain ⟨n2, b1, b2⟩ := b
  refine ⟨n1 ++ n2, fun p hp => (List.mem_append.mp hp).elim (a1 p) (b1 p), fun h z => ⟨a2 h fun p hp => z p (List.mem_append_left _ hp), b2 h fun p hp => z p (List.mem_append_right _ hp)⟩⟩
end
section
open PySem PySem.W PyProof.Rows PySem.Calls
theorem val_list {P : Params} {h : Heap} {ok : Addr → Prop} {v : Value} : ∀ {d : Val}, ValIn P h ok v d → ∃ new, (∀ p ∈ new, At h ok p.1 p.2) ∧ Sure new fun h => ValIn P h (fun _ => True) v d
  | .lg _, ⟨x, l, iv, e, a, b, c⟩ => let ⟨n, n1, n2⟩ := both (vec_list a) (lst_list b); ⟨n, n1, fun h z => ⟨x, l, iv, e, (n2 h z).1, (n2 h z).2, c⟩⟩
  | .it _, ⟨x, l, t, e, a, b⟩ => let ⟨n, n1, n2⟩ := both (vec_list a) (lst_list b); ⟨n, n1, fun h z => ⟨x, l, t, e, (n2 h z).1, (n2 h z).2⟩⟩
  | .db _, ⟨x, l, p, t, t', e, a, b, c⟩ => let ⟨n, n1, n2⟩ := both (vec_list a) (both (lst_list b) (tup_list c)); ⟨n, n1, fun h z => ⟨x, l, p, t, t', e, (n2 h z).1, (n2 h z).2.1, (n2 h z).2.2⟩⟩
  | .fr, ⟨x, l, p, t, t', e, a, b, c⟩ => let ⟨n, n1, n2⟩ := both (vec_list a) (both (lst_list b) (tup_list c)); ⟨n, n1, fun h z => ⟨x, l, p, t, t', e, (n2 h z).1, (n2 h z).2.1, (n2 h z).2.2⟩⟩
  | .ch _, ⟨x, l, t, e, a, b⟩ => let ⟨n, n1, n2⟩ := both (vec_list a) (lst_list b); ⟨n, n1, fun h z => ⟨x, l, t, e, (n2 h z).1, (n2 h z).2⟩⟩
  | .qu, ⟨x, l, t, e, a, b⟩ => let ⟨n, n1, n2⟩ := both (vec_list a) (lst_list b); ⟨n, n1, fun h z => ⟨x, l, t, e, (n2 h z).1, (n2 h z).2⟩⟩
  | .tw, ⟨x, l, t, t', e, a, b⟩ => let ⟨n, n1, n2⟩ := both (vec_list a) (lst_list b); ⟨n, n1, fun h z => ⟨x, l, t, t', e, (n2 h z).1, (n2 h z).2⟩⟩
  | .at, ⟨x, l, t, d, e, a, b⟩ => let ⟨n, n1, n2⟩ := both (vec_list a) (lst_list b); ⟨n, n1, fun h z => ⟨x, l, t, d, e, (n2 h z).1, (n2 h z).2⟩⟩
  | .nu, ⟨x, dx, t0, t1, t2, e, a, b⟩ => ⟨[(x, _), (dx, _)], fun p hp => by
      rcases List.mem_cons.mp hp with rfl | hp
      · exact a
      · rw [List.mem_singleton.mp hp]; exact b, fun h z => ⟨x, dx, t0, t1, t2, e, ⟨z (x, _) (.head _), trivial⟩, ⟨z (dx, _) (.tail _ (.head _)), trivial⟩⟩⟩
theorem eqGives_none_str (a : Str) (t : Tok) : MeetsSeq.EqGives .none (.str a t) false := fun prog w A E s Q h => by
  unfold eqBool
  refine wpAny_holding ?_
  rw [if_neg (by intro q; have := eq_of_beq q; cases this)]
  exact wpAny_bind (EqNone.eq_none_str (wpAny_truthy_bool h))
theorem eqGives_str_none (a : Str) (t : Tok) : MeetsSeq.EqGives (.str a t) .none false := fun prog w A E s Q h => by
  unfold eqBool
  refine wpAny_holding ?_
  rw [if_neg (by intro q; have := eq_of_beq q; cases this)]
  exact wpAny_bind (EqNone.eq_str_none (wpAny_truthy_bool h))
def hitOf (k : Str) : Value → Bool
  | .str x _ => x == k
  | _ => false
theorem hit_tag {g : Tg} {v : Value} {c : Cl} (h : OptTxt g.txt v) (hc : isNm c = true) : hitOf (keyOf c) v = (g.cl == c) := by
  cases g with
  | no =>
    obtain rfl : v = .none := h
    cases c <;> first | rfl | (exact absurd hc (by decide))
  | _ =>
    obtain ⟨u, rfl⟩ := h
    cases c <;> first | (exact absurd hc (by decide)) | (show (_ == _) = _; decide +kernel)
theorem any_tags {c : Cl} (hc : isNm c = true) {vs : List Value} {gs : List Tg} (h : TagsAre vs gs) : vs.any (hitOf (keyOf c)) = (gs.map Tg.cl).contains c := by
  induction h with
  | nil => rfl
  | cons a _ ih =>
    rw [List.any_cons, ih, hit_tag a hc, List.map_cons, List.contains_cons]
    congr 1
    rename_i g _ _ _
    cases g <;> cases c <;> rfl
theorem gives_tag {k : Str} {t : Tok} {vs : List Value} {gs : List Tg} (h : TagsAre vs gs) : ∀ y, y ∈ vs → MeetsSeq.EqGives y (.str k t) (hitOf k y) := by
  induction h with
  | nil => intro y hy; exact nomatch hy
  | @cons v g _ _ a _ ih =>
    intro y hy
    rcases List.mem_cons.mp hy with rfl | hy
    · cases hg : g.txt with
      | none =>
        rw [hg] at a
        obtain rfl : y = .none := a
        exact eqGives_none_str k t
      | some x =>
        rw [hg] at a
        obtain ⟨u, rfl⟩ := a
        exact eqGives_str x k u t
    · exact ih y hy
section
variable {w : World} {s : Shared} {Q E : Value → Shared → Prop} {A : Around}
theorem in_tags {l : Addr} {vs : List Value} {gs : List Tg} {c : Cl} {t : Tok} {b : Bool} (hl : s.heap.IsList l vs.toArray) (h : TagsAre vs gs) (hc : isNm c = true) (e : (gs.map Tg.cl).contains c = b) (hq : Q (.bool b) s) :
    wpAny (model PySem.Challenge.rw_pq1402_01.row.prog w) A (compareOp .In (.str (keyOf c) t) (.ref l)) Q E s :=
  SeqInW.in_listW (hitOf (keyOf c)) (fun y hy => gives_tag h y (by simpa using hy)) hl (by rw [← Array.any_toList, show vs.toArray.toList = vs from rfl, any_tags hc h, e]; exact hq)
theorem notin_tags {l : Addr} {vs : List Value} {gs : List Tg} {c : Cl} {t : Tok} {b : Bool} (hl : s.heap.IsList l vs.toArray) (h : TagsAre vs gs) (hc : isNm c = true) (e : (gs.map Tg.cl).contains c = b) (hq : Q (.bool (!b)) s) :
    wpAny (model PySem.Challenge.rw_pq1402_01.row.prog w) A (compareOp .NotIn (.str (keyOf c) t) (.ref l)) Q E s :=
  SeqInW.notIn_listW (hitOf (keyOf c)) (fun y hy => gives_tag h y (by simpa using hy)) hl (by rw [← Array.any_toList, show vs.toArray.toList = vs from rfl, any_tags hc h, e]; exact hq)
end

/-! the laps of the law -/
def TextsAre (xvs : List Value) (args : List (Tg × Val)) : Prop := xvs.length = args.length ∧ ∀ (i : Nat) (g : Tg) (d : Val), args[i]? = some (g, d) → ∃ v, xvs[i]? = some v ∧ OptTxt d.text v
theorem TextsAre.snoc {xvs : List Value} {args : List (Tg × Val)} (h : TextsAre xvs args) {v : Value} {g : Tg} {d : Val} (x : OptTxt d.text v) : TextsAre (xvs ++ [v]) (args ++ [(g, d)]) := by
  refine ⟨by rw [List.length_append, List.length_append, h.1, List.length_singleton, List.length_singleton], fun i g' d' e => ?_⟩
  by_cases hi : i < args.length
  · rw [List.getElem?_append_left hi] at e
    obtain ⟨u, a, b⟩ := h.2 i g' d' e
    exact ⟨u, by rw [List.getElem?_append_left (by rw [h.1]; exact hi)]; exact a, b⟩
  · have hlen := (List.getElem?_eq_some_iff.mp e).1
    rw [List.length_append, List.length_singleton] at hlen
    obtain rfl : i = args.length := by omega
    rw [List.getElem?_append_right (Nat.le_refl _), Nat.sub_self] at e
    cases e
    exact ⟨v, by rw [List.getElem?_append_right (by rw [h.1]; exact Nat.le_refl _), h.1, Nat.sub_self]; rfl, x⟩
def LapJ (P : Params) (rl al tl ca : Addr) (oc : Obj) (i : Nat) (nx : List (Addr × Obj)) : Prop :=
  ∃ (rvs : List Value) (rns : List Int) (n1 : Nat) (avs : List Value) (n2 : Nat) (xvs : List Value) (n3 : Nat) (fz : List (Addr × Obj)) (args : List (Tg × Val)),
    nx = (rl, listOf rvs.toArray n1) :: (al, listOf avs.toArray n2) :: (tl, listOf xvs.toArray n3) :: (ca, oc) :: fz ∧ IntsAre rvs rns ∧ rns.length ≤ 40 ∧ (∀ q ∈ fz, q.1 ≠ rl ∧ q.1 ≠ al ∧ q.1 ≠ tl ∧ q.1 ≠ ca) ∧
    Sure fz (fun h => ArgsIn P h (fun _ => True) avs args) ∧ TextsAre xvs args ∧ args.length = i ∧ (∀ p ∈ args, p.2.Ok) ∧ valid (clsOf args) = true
end
section
open PySem PySem.W PyProof.Rows PySem.Calls
theorem ne_none {h : Heap} {b c : Addr} {o : Obj} (h1 : h.get? b = none) (h2 : h.get? c = some o) : b ≠ c := fun q => by rw [q, h2] at h1; cases h1
theorem ints_some {ys : List Value} {ks : List Nat} (h : Are (fun _ y => ∃ n t, y = Value.int n t) ys ks) : ∃ ns, IntsAre ys ns ∧ ns.length = ks.length := by
  induction h with
  | nil => exact ⟨[], .nil, rfl⟩
  | cons a _ ih =>
    obtain ⟨n, t, rfl⟩ := a
    obtain ⟨ns, h1, h2⟩ := ih
    exact ⟨n :: ns, .cons n t h1, by rw [List.length_cons, List.length_cons, h2]⟩
section
variable {w : World} {mean : ExcName → Option Value} {mg mb : Str → Option Value} {dp un : Nat} {gd : Option (List Code)} {cn : Str} {cs : Scope} {a : Addr} {ccd : Value} {cl : List (Str × Addr)} {outer : List Env} {A₀ : Around} {base h₀ : Heap} {L : Addr} {m : Str → Option Value} {s : Shared} {Q E : Value → Shared → Prop}
theorem value_walk {rl al tl ca I : Addr} {oa ot oc oI : Obj} {fz : List (Addr × Obj)} {rows : List Value} {ns : List Int} {n : Nat} (B : Below A₀ base outer h₀) (F : Fr h₀ L s.heap m) (X : (heapK w.params).In h₀) (T : Top viewQ LL mean mg mb h₀)
    (N : News h₀ L s.heap ((rl, listOf rows.toArray n) :: (al, oa) :: (tl, ot) :: (ca, oc) :: (I, oI) :: fz)) (hI : IntsAre rows ns) (hlen : ns.length ≤ 1000) (hfz : ∀ q ∈ fz, q.1 ≠ rl ∧ q.1 ≠ al ∧ q.1 ≠ tl ∧ q.1 ≠ ca) (hfI : ∀ q ∈ fz, q.1 ≠ I) (hd4 : al ≠ rl ∧ tl ≠ rl ∧ ca ≠ rl ∧ I ≠ rl)
    (hk : cs.kind = .function) (hdp : dp + 15 < recursionLimit) (hun : un + 200 < cLine)
    (ret : ∀ p np v tv d h' tk' (rows' : List Value) n' fz', Fr h₀ L h' m → News h₀ L h' ((p, { cls := .type "tuple", data := .seq #[v, tv] np }) :: (rl, listOf rows'.toArray n') :: (al, oa) :: (tl, ot) :: (ca, oc) :: (I, oI) :: fz') → IntsAre rows' ns.dropLast.dropLast →
      (∀ q ∈ fz, q ∈ fz') → Sure fz' (fun h => ValIn w.params h (fun _ => True) v d) → d.Ok → OptTxt d.text tv → (∀ q ∈ fz', q.1 ≠ rl ∧ q.1 ≠ al ∧ q.1 ≠ tl ∧ q.1 ≠ ca) → (∀ q ∈ fz', q.1 ≠ I) → (p ≠ rl ∧ p ≠ al ∧ p ≠ tl ∧ p ≠ ca) ∧ p ≠ I → Q (.ref p) { s with heap := h', toks := tk' }) :
   wpAny (model PySem.Challenge.rw_pq1402_01.row.prog w) (ktrTop dp un gd cn cs L a ccd cl outer) (call (.ref 216) [.ref rl]) Q E s := by
  refine value_call ⟨B, F, X, T⟩ hk hdp hun (fun p hp => N p (by rw [List.mem_singleton.mp hp]; exact .head _)) hI hlen ?_
  rintro p v tv d h' tk' rows' n' G hr hI' ⟨np, hp⟩ hv hok htx
  obtain ⟨new, n1, n2⟩ := val_list hv
  have mk : ∀ {b ob}, At h' (fun b => s.heap.get? b = none) b ob → h'.get? b = some ob ∧ b ≠ L ∧ h₀.get? b = none := fun {b ob} z => by
    have z2 : s.heap.get? b = none := z.2
    refine ⟨z.1, ?_, ?_⟩
    · obtain ⟨oL, _, _, hL, _⟩ := F.ns
      exact ne_none z2 hL
    · cases q : h₀.get? b with
      | none => rfl
      | some o' => rw [F.keep _ _ q] at z2; cases z2
  have e1 := fun {q} (hq : q ∈ _) => (N q hq).1
  have far : ∀ {b : Addr} {ob : Obj}, At h' (fun b => s.heap.get? b = none) b ob → (b ≠ rl ∧ b ≠ al ∧ b ≠ tl ∧ b ≠ ca) ∧ b ≠ I := fun {b ob} z =>
    ⟨⟨ne_none z.2 (e1 (.head _)), ne_none z.2 (e1 (.tail _ (.head _))), ne_none z.2 (e1 (.tail _ (.tail _ (.head _)))), ne_none z.2 (e1 (.tail _ (.tail _ (.tail _ (.head _)))))⟩, ne_none z.2 (e1 (.tail _ (.tail _ (.tail _ (.tail _ (.head _))))))⟩
  have old : ∀ q ∈ (al, oa) :: (tl, ot) :: (ca, oc) :: (I, oI) :: fz, q.1 ≠ rl → h'.get? q.1 = some q.2 ∧ q.1 ≠ L ∧ h₀.get? q.1 = none := fun q hq hn => ⟨G _ _ (e1 (.tail _ hq)) (by simpa using hn), (N q (.tail _ hq)).2⟩
  have GF : Fr h₀ L h' m := fr_gsub F (fun p hp => N p (by rw [List.mem_singleton.mp hp]; exact .head _) : News h₀ L s.heap [(rl, listOf rows.toArray n)]) G
  refine ret p np v tv d h' tk' rows' n' (new ++ fz) GF (fun q hq => ?_) hI' (fun q hq => List.mem_append_right _ hq) (fun h z => n2 h fun q hq => z q (List.mem_append_left _ hq)) hok htx (fun q hq => ?_) (fun q hq => ?_) (far hp)
  · rcases List.mem_cons.mp hq with rfl | hq
    · exact mk hp
    rcases List.mem_cons.mp hq with rfl | hq
    · exact ⟨hr, (N _ (.head _)).2⟩
    rcases List.mem_cons.mp hq with rfl | hq
    · exact old _ (.head _) hd4.1
    rcases List.mem_cons.mp hq with rfl | hq
    · exact old _ (.tail _ (.head _)) hd4.2.1
    rcases List.mem_cons.mp hq with rfl | hq
    · exact old _ (.tail _ (.tail _ (.head _))) hd4.2.2.1
    rcases List.mem_cons.mp hq with rfl | hq
    · exact old _ (.tail _ (.tail _ (.tail _ (.head _)))) hd4.2.2.2
    rcases List.mem_append.mp hq with hq | hq
    · exact mk (n1 q hq)
    · exact old _ (.tail _ (.tail _ (.tail _ (.tail _ hq)))) (hfz q hq).1
  · rcases List.mem_append.mp hq with hq | hq
    · exact (far (n1 q hq)).1
    · exact hfz q hq
  · rcases List.mem_append.mp hq with hq | hq
    · exact (far (n1 q hq)).2
    · exact hfI q hq
theorem upd_mk {D : Addr} {o o' : Obj} {post : List (Addr × Obj)} (b : ∀ p ∈ post, p.1 ≠ D) : ∀ {pre : List (Addr × Obj)}, (∀ p ∈ pre, p.1 ≠ D) → Upd D o o' (pre ++ (D, o) :: post) (pre ++ (D, o') :: post)
  | [], _ => .head b
  | _ :: _, a => .tail (a _ (.head _)) (upd_mk b fun p hp => a p (.tail _ hp))
theorem rev_sym {A : Around} {l : Addr} {vs : List Value} {n : Nat} {news : List (Addr × Obj)} {g : Obj → List (Addr × Obj)} (F : Fr h₀ L s.heap m) (N : News h₀ L s.heap news) (U : UpdF l (listOf vs.toArray n) news g) (hz : vs.length < 1000)
    (h : ∀ h', Fr h₀ L h' m → News h₀ L h' (g (listOf vs.reverse.toArray n)) → Q .none { s with heap := h' }) : wpAny (model PySem.Challenge.rw_pq1402_01.row.prog w) A (call (.builtin "list.reverse") [.ref l]) Q E s := by
  obtain ⟨pre, post, rfl, hg, a, b⟩ := U.split
  exact kl_reverse (l := vs.reverse) F N rfl (upd_mk b a) (by show vs.length ≤ _; rw [PySem.sizeLine_eq]; omega) fun h' F' N' => h h' F' (hg _ ▸ N')
end
end
section
open PySem PySem.W PyProof.Rows PySem.Calls
def nmTg : Cl → Tg
  | .x => .x
  | _ => .nm
theorem nmTg_ok {c : Cl} (hc : isNm c = true) : (nmTg c).cl = c ∧ (nmTg c).txt = some (keyOf c) := by
  cases c <;> first | exact ⟨rfl, rfl⟩ | (exact absurd hc (by decide))
theorem gives_plain {k : Str} {t : Tok} {g : Tg} {v : Value} (h : OptTxt g.txt v) : MeetsSeq.EqGives (.str k t) v (hitOf k v || false) := by
  cases hg : g.txt with
  | none =>
    rw [hg] at h
    obtain rfl : v = .none := h
    exact eqGives_str_none k t
  | some x =>
    rw [hg] at h
    obtain ⟨u, rfl⟩ := h
    have e : (hitOf k (.str x u) || false) = (k == x) := by
      show ((x == k) || false) = (k == x)
      rw [Bool.or_false]
      exact BEq.comm
    rw [e]
    exact eqGives_str k x t u
section
variable {w : World} {s : Shared} {Q E : Value → Shared → Prop} {A : Around} {h₀ : Heap} {L : Addr} {m : Str → Option Value} {news : List (Addr × Obj)}
theorem tag_sub {l : Addr} {n0 : Nat} {a b c d t : Tok} {value slice : PySem.Expr} {x : Int} (N : News h₀ L s.heap news) (hm : (l, listOf [Value.none, .str (Str.ofString "x") a, .str (Str.ofString "other") b, .str (Str.ofString "name") c, .none, .str (Str.ofString "zz") d].toArray n0) ∈ news)
    (hno : ∀ (g : Tg) (v : Value), isNm g.cl = false → OptTxt g.txt v → Q v s) (hnm : ∀ (c : Cl) (u : Tok), isNm c = true → Q (.str (keyOf c) u) s)
    (hs : ∀ i : Int, subscripted slice false (.ref l) (.int i t) = operate [.ref l, .int i t] (getItem (.ref l) (.int i t)) := by intro i; with_unfolding_all rfl) :
    wpAny (model PySem.Challenge.rw_pq1402_01.row.prog w) A (subscriptTail value slice (.ref l) (.int (Int.fmod x 6) t)) Q E s := by
  have e1 := fmod_lo x (n := 6) (by decide)
  have e2 := fmod_hi x (n := 6) (by decide)
  obtain ⟨k, hk, hk6⟩ : ∃ k : Nat, x.fmod 6 = (k : Int) ∧ k < 6 := ⟨(x.fmod 6).toNat, by omega, by omega⟩
  rw [hk]
  have hl := lst_base (N _ hm).1
  have : k = 0 ∨ k = 1 ∨ k = 2 ∨ k = 3 ∨ k = 4 ∨ k = 5 := by omega
  rcases this with rfl | rfl | rfl | rfl | rfl | rfl
  · exact item_at hl rfl (by omega) (hno .no _ rfl rfl) (hs := hs _)
  · exact item_at hl rfl (by omega) (hnm .x _ rfl) (hs := hs _)
  · exact item_at hl rfl (by omega) (hno .other _ rfl ⟨_, rfl⟩) (hs := hs _)
  · exact item_at hl rfl (by omega) (hnm .nm _ rfl) (hs := hs _)
  · exact item_at hl rfl (by omega) (hno .no _ rfl rfl) (hs := hs _)
  · exact item_at hl rfl (by omega) (hno .zz _ rfl ⟨_, rfl⟩) (hs := hs _)
theorem in_pair {l : Addr} {n0 : Nat} {a b : Tok} {g : Tg} {v : Value} (N : News h₀ L s.heap news) (hm : (l, { cls := .type "tuple", data := .seq #[.str (Str.ofString "x") a, .str (Str.ofString "name") b] n0 }) ∈ news) (h : OptTxt g.txt v) {r : Bool} (e : isNm g.cl = r) (hq : Q (.bool r) s) :
    wpAny (model PySem.Challenge.rw_pq1402_01.row.prog w) A (compareOp .In v (.ref l)) Q E s := by
  refine SeqRoads2.in_tuple (fun y => match y with | .str k _ => hitOf k v || false | _ => false) (fun y hy => ?_) (N _ hm).1 ?_
  · simp only [List.mem_toArray, List.mem_cons, List.not_mem_nil, or_false] at hy
    rcases hy with rfl | rfl <;> exact gives_plain h
  · rw [← Array.any_toList]
    show Q (.bool ((hitOf (Str.ofString "x") v || false) || ((hitOf (Str.ofString "name") v || false) || false))) s
    have e2 : ((hitOf (Str.ofString "x") v || false) || ((hitOf (Str.ofString "name") v || false) || false)) = r := by
      subst e
      cases g with
      | no => obtain rfl : v = .none := h; rfl
      | x => obtain ⟨u, rfl⟩ := h; show (((Str.ofString "x" == Str.ofString "x") || false) || (((Str.ofString "x" == Str.ofString "name") || false) || false)) = _; decide +kernel
      | other => obtain ⟨u, rfl⟩ := h; show (((Str.ofString "other" == Str.ofString "x") || false) || (((Str.ofString "other" == Str.ofString "name") || false) || false)) = _; decide +kernel
      | nm => obtain ⟨u, rfl⟩ := h; show (((Str.ofString "name" == Str.ofString "x") || false) || (((Str.ofString "name" == Str.ofString "name") || false) || false)) = _; decide +kernel
      | zz => obtain ⟨u, rfl⟩ := h; show (((Str.ofString "zz" == Str.ofString "x") || false) || (((Str.ofString "zz" == Str.ofString "name") || false) || false)) = _; decide +kernel
    rw [e2]; exact hq
end
end
section
open PySem PySem.W PyProof.Rows PySem.Calls
theorem in_pair_nm {w : World} {s : Shared} {Q E : Value → Shared → Prop} {A : Around} {h₀ : Heap} {L : Addr} {news : List (Addr × Obj)} {l : Addr} {n0 : Nat} {a b u : Tok} {c : Cl} (N : News h₀ L s.heap news) (hm : (l, { cls := .type "tuple", data := .seq #[.str (Str.ofString "x") a, .str (Str.ofString "name") b] n0 }) ∈ news) (hc : isNm c = true) (hq : Q (.bool true) s) :
    wpAny (model PySem.Challenge.rw_pq1402_01.row.prog w) A (compareOp .In (.str (keyOf c) u) (.ref l)) Q E s :=
  in_pair (g := nmTg c) N hm (by rw [(nmTg_ok hc).2]; exact ⟨u, rfl⟩) (by rw [(nmTg_ok hc).1]; exact hc) hq
theorem notin_pair {w : World} {s : Shared} {Q E : Value → Shared → Prop} {A : Around} {h₀ : Heap} {L : Addr} {news : List (Addr × Obj)} {l : Addr} {n0 : Nat} {a b : Tok} {g : Tg} {v : Value} (N : News h₀ L s.heap news) (hm : (l, { cls := .type "tuple", data := .seq #[.str (Str.ofString "x") a, .str (Str.ofString "name") b] n0 }) ∈ news) (h : OptTxt g.txt v) {r : Bool} (e : isNm g.cl = r) (hq : Q (.bool (!r)) s) :
    wpAny (model PySem.Challenge.rw_pq1402_01.row.prog w) A (compareOp .NotIn v (.ref l)) Q E s := by
  refine SeqRoads2.notIn_tuple (fun y => match y with | .str k _ => hitOf k v || false | _ => false) (fun y hy => ?_) (N _ hm).1 ?_
  · simp only [List.mem_toArray, List.mem_cons, List.not_mem_nil, or_false] at hy
    rcases hy with rfl | rfl <;> exact gives_plain h
  · rw [← Array.any_toList]
    show Q (.bool (!((hitOf (Str.ofString "x") v || false) || ((hitOf (Str.ofString "name") v || false) || false)))) s
    have e2 : ((hitOf (Str.ofString "x") v || false) || ((hitOf (Str.ofString "name") v || false) || false)) = r := by
      subst e
      cases g with
      | no => obtain rfl : v = .none := h; rfl
      | x => obtain ⟨u, rfl⟩ := h; show (((Str.ofString "x" == Str.ofString "x") || false) || (((Str.ofString "x" == Str.ofString "name") || false) || false)) = _; decide +kernel
      | other => obtain ⟨u, rfl⟩ := h; show (((Str.ofString "other" == Str.ofString "x") || false) || (((Str.ofString "other" == Str.ofString "name") || false) || false)) = _; decide +kernel
      | nm => obtain ⟨u, rfl⟩ := h; show (((Str.ofString "name" == Str.ofString "x") || false) || (((Str.ofString "name" == Str.ofString "name") || false) || false)) = _; decide +kernel
      | zz => obtain ⟨u, rfl⟩ := h; show (((Str.ofString "zz" == Str.ofString "x") || false) || (((Str.ofString "zz" == Str.ofString "name") || false) || false)) = _; decide +kernel
    rw [e2]; exact hq
theorem valid_no {cs : List Cl} {c : Cl} (h : valid cs = true) (hc : isNm c = false) : valid (cs ++ [c]) = true := by
  unfold valid at *
  rw [Bool.and_eq_true, decide_eq_true_eq, decide_eq_true_eq] at *
  rw [List.count_append, List.count_append]
  cases c with
  | no => simpa using h
  | ot => simpa using h
  | x => exact absurd hc (by decide)
  | nm => exact absurd hc (by decide)
theorem valid_nm {cs : List Cl} {c : Cl} (h : valid cs = true) (hc : cs.contains c = false) : valid (cs ++ [c]) = true := by
  have h0 : cs.count c = 0 := List.count_eq_zero.mpr (by
    intro hm
    rw [List.contains_iff_mem.mpr hm] at hc
    cases hc)
  unfold valid at *
  rw [Bool.and_eq_true, decide_eq_true_eq, decide_eq_true_eq] at *
  rw [List.count_append, List.count_append]
  cases c with
  | no => simpa using h
  | ot => simpa using h
  | x => rw [h0]; exact ⟨by decide, by simpa using h.2⟩
  | nm => rw [h0]; exact ⟨by simpa using h.1, by decide⟩
theorem cls_snoc (args : List (Tg × Val)) (g : Tg) (d : Val) : clsOf (args ++ [(g, d)]) = clsOf args ++ [g.cl] := by
  show ((args ++ [(g, d)]).map (·.1)).map Tg.cl = _
  rw [List.map_append, List.map_append]
  rfl
section
variable {P : Params} {h₀ : Heap} {L rl al tl ca I D : Addr} {oc oI : Obj} {x : Str} {stored : List Str} {m₀ m' : Str → Option Value} {i : Nat} {s₁ : Shared}
theorem lap_fin {g : Tg} {tgv v2 tv : Value} {d : Val} {nD n5 na nt : Nat} {rows5 avs xvs vs1 vs2 : List Value} {rns5 : List Int} {fz fz5 : List (Addr × Obj)} {args : List (Tg × Val)} {h' : Heap} {tk' : Nat}
    (hS : Sure fz (fun h => ArgsIn P h (fun _ => True) avs args)) (hTx : TextsAre xvs args) (hlen : args.length = i) (hok : ∀ p ∈ args, p.2.Ok)
    (hg : OptTxt g.txt tgv) (hv : valid (clsOf args ++ [g.cl]) = true) (hI : IntsAre rows5 rns5) (hl5 : rns5.length ≤ 40) (hsub : ∀ q ∈ fz, q ∈ fz5) (hS5 : Sure fz5 (fun h => ValIn P h (fun _ => True) v2 d)) (hd : d.Ok) (ht : OptTxt d.text tv)
    (hz : ∀ q ∈ fz5, q.1 ≠ rl ∧ q.1 ≠ al ∧ q.1 ≠ tl ∧ q.1 ≠ ca) (hzI : ∀ q ∈ fz5, q.1 ≠ I) (hD : (D ≠ rl ∧ D ≠ al ∧ D ≠ tl ∧ D ≠ ca) ∧ D ≠ I) (hI4 : I ≠ rl ∧ I ≠ al ∧ I ≠ tl ∧ I ≠ ca) (e1 : vs1 = avs ++ [.ref D]) (e2 : vs2 = xvs ++ [tv])
    (F : Fr h₀ L h' m') (N : News h₀ L h' ((I, oI) :: (rl, listOf rows5.toArray n5) :: (al, listOf vs1.toArray na) :: (tl, listOf vs2.toArray nt) :: (ca, oc) :: (D, { cls := .type "tuple", data := .seq #[tgv, v2] nD }) :: fz5))
    (hm : ∀ y, y ≠ x → stored.contains y = false → m' y = m₀ y) : GrowEnd h₀ L x stored m₀ (LapJ P rl al tl ca oc (i + 1)) I oI s₁ { s₁ with heap := h', toks := tk' } := by
  subst e1 e2
  refine ⟨h', tk', m', _, rfl, F, N, fun p hp => ?_, ⟨rows5, rns5, n5, avs ++ [.ref D], na, xvs ++ [tv], nt, (D, { cls := .type "tuple", data := .seq #[tgv, v2] nD }) :: fz5, args ++ [(g, d)], rfl, hI, hl5, fun q hq => ?_, fun h z => ?_, hTx.snoc ht, by rw [List.length_append, hlen]; rfl, fun p hp => ?_, by rw [cls_snoc]; exact hv⟩, hm⟩
  · simp only [List.mem_cons] at hp
    rcases hp with rfl | rfl | rfl | rfl | rfl | hp
    · exact hI4.1.symm
    · exact hI4.2.1.symm
    · exact hI4.2.2.1.symm
    · exact hI4.2.2.2.symm
    · exact hD.2
    · exact hzI p hp
  · rcases List.mem_cons.mp hq with rfl | hq
    · exact hD.1
    · exact hz q hq
  · exact (hS h fun q hq => z q (.tail _ (hsub q hq))).snoc ⟨D, tgv, v2, rfl, ⟨nD, z (D, _) (.head _), trivial⟩, hg, hS5 h fun q hq => z q (.tail _ hq)⟩
  · rcases List.mem_append.mp hp with hp | hp
    · exact hok p hp
    · rw [List.mem_singleton.mp hp]; exact hd
end
end
section
open PySem PySem.W PyProof.Rows PySem.Calls
section
variable {prog : Program} {w : World} {A : Around} {s : Shared} {h₀ : Heap} {L : Addr} {m : Str → Option Value} {env : Env} {elt ct : PySem.Expr} {x : Str} {scope : Scope} {cl : List (Str × Addr)} {S : List (Addr × Obj) → Prop} {P : Nat → Value → Prop} {Fin : List Value → List (Addr × Obj) → Prop} {news : List (Addr × Obj)}
/-- a turn that may make objects of its own: the ledger stands -/
def TurnLed (h₀ : Heap) (L : Addr) (m : Str → Option Value) (s : Shared) (led : List (Addr × Obj)) (Y : Value → Prop) (y : Value) (s' : Shared) : Prop := ∃ h' tk', s' = { s with heap := h', toks := tk' } ∧ Fr h₀ L h' m ∧ News h₀ L h' led ∧ Y y
theorem comp_restTN {n : Nat} (b : Nat → Bool) (Y : Nat → Value → Prop) (hS : S news)
    (turn : ∀ i v I oI C oC D m₂ ys h tk (E' : Value → Shared → Prop), i < n → P i v → LCg.NsObj oC m₂ → m₂ x = some v → Fr h₀ L h m → News h₀ L h ((I, oI) :: (C, oC) :: (D, LCg.lst ys) :: news) → LCg.Off3 I C D news → ((@Ne Nat I C) ∧ (@Ne Nat I D) ∧ (@Ne Nat C D)) →
      wpAny (model prog w) A (isTrue ct (compEnvC scope cl C env) (eval ct (compEnvC scope cl C env))) (fun ok s' => TurnLed h₀ L m s ((I, oI) :: (C, oC) :: (D, LCg.lst ys) :: news) (fun _ => ok = b i) .none s') E' { s with heap := h, toks := tk })
    (item : ∀ i v I oI C oC D m₂ ys h tk (E' : Value → Shared → Prop), i < n → P i v → b i = true → LCg.NsObj oC m₂ → m₂ x = some v → Fr h₀ L h m → News h₀ L h ((I, oI) :: (C, oC) :: (D, LCg.lst ys) :: news) → LCg.Off3 I C D news → ((@Ne Nat I C) ∧ (@Ne Nat I D) ∧ (@Ne Nat C D)) →
      wpAny (model prog w) A (eval elt (compEnvC scope cl C env)) (TurnLed h₀ L m s ((I, oI) :: (C, oC) :: (D, LCg.lst ys) :: news) (Y i)) E' { s with heap := h, toks := tk })
    (fin : ∀ ys, Are Y ys ((List.range n).filter b) → Fin ys news) : LCt.CompRestT prog w A h₀ L m env ct elt x scope cl s S P Fin n 0 [] news := by
  have key : ∀ (j i : Nat) (ys : List Value), i + j = n → Are Y ys ((List.range i).filter b) → LCt.CompRestT prog w A h₀ L m env ct elt x scope cl s S P Fin j i ys news := by
    intro j
    induction j with
    | zero =>
      intro i ys hi hy
      obtain rfl : i = n := by omega
      exact LCt.CompRestT.zero (fin ys hy)
    | succ j ih =>
      intro i ys hi hy
      refine LCt.CompRestT.succ fun v I oI C oC D m₂ h tk E' hv hC hx F N off ne => ?_
      refine wpAny_mono (turn i v I oI C oC D m₂ ys h tk E' (by omega) hv hC hx F N off ne) (fun ok s₂ hq => ?_) fun _ _ e => e
      obtain ⟨h', tk', rfl, F', N', rfl⟩ := hq
      cases hb : b i with
      | true =>
        simp only [if_true]
        refine wpAny_mono (item i v I oI C oC D m₂ ys h' tk' E' (by omega) hv hb hC hx F' N' off ne) (fun y s₃ hq => ?_) fun _ _ e => e
        obtain ⟨h'', tk'', rfl, F'', N'', hY⟩ := hq
        refine ⟨h'', tk'', news, rfl, F'', N'', off, hS, ih (i + 1) _ (by omega) ?_⟩
        rw [List.range_succ, List.filter_append]
        simpa [hb] using hy.snoc hY
      | false =>
        simp only [Bool.false_eq_true, if_false]
        refine ⟨h', tk', news, rfl, F', N', off, hS, ih (i + 1) _ (by omega) ?_⟩
        rw [List.range_succ, List.filter_append]
        simpa [hb] using hy
  exact key n 0 [] (by omega) .nil
theorem tup_first {A : Around} {s : Shared} {E : Value → Shared → Prop} {value slice : PySem.Expr} {t : Addr} {a b : Value} {u : Tok} {Q : Value → Shared → Prop} (ht : IsTup s.heap t #[a, b]) (h : Q a s)
    (hs : subscripted slice false (.ref t) (.int 0 u) = operate [.ref t, .int 0 u] (getItem (.ref t) (.int 0 u)) := by with_unfolding_all rfl) (hg : ∀ r, letTemporaryGo value (.ref t) r = pure () := by intro _; with_unfolding_all rfl) :
    wpAny (model prog w) A (subscriptTail value slice (.ref t) (.int 0 u)) Q E s :=
  item_tuple (j := 0) (x := a) ht (by decide) (by decide) rfl rfl h hs hg
end
end
section
open PySem PySem.W PyProof.Rows PySem.Calls
section
variable {prog : Program} {w : World} {A : Around} {E : Value → Shared → Prop} {s : Shared} {env : Env} {h₀ : Heap} {x : Str} {body : List Stmt} {Q : Flow → Shared → Prop}
/-- a loop over a list that lies in the ledger and that the body leaves alone -/
theorem for_list_led {l : Addr} {vs : List Value} {n : Nat} {m₀ : Str → Option Value} {news : List (Addr × Obj)} {stored : List Str} {J : Nat → List (Addr × Obj) → Prop} (_ : JMk stored J)
    (hh : A.handled = none) (F : Fr h₀ env.locals s.heap m₀) (N : News h₀ env.locals s.heap news) (hl : (l, listOf vs.toArray n) ∈ news)
    (all : Later (∃ news₀, (∀ p ∈ news₀, p ∈ news) ∧ (∀ p ∈ news₀, p.1 ≠ l) ∧ J 0 news₀ ∧
    (∀ i v (u : Str → Option Value) nx h tk own, vs[i]? = some v → OwnOff own (news₀.map (·.1)) → nx.map (·.1) = news₀.map (·.1) → J i nx → Fr h₀ env.locals h (fun y => if y = x then some v else if stored.contains y then u y else m₀ y) → News h₀ env.locals h (nx ++ own) →
      wpAny (model prog w) A (execs body env) (InvPostN h₀ env.locals (TurnJ x stored m₀ (J (i + 1))) own (news₀.map (·.1)) { s with heap := h, toks := tk } Q) E { s with heap := h, toks := tk }) ∧
    (∀ (u : Str → Option Value) nx h tk, J vs.length nx → Fr h₀ env.locals h (fun y => if y = x then u y else if stored.contains y then u y else m₀ y) → News h₀ env.locals h nx → Q .next { s with heap := h, toks := tk }))) :
    wpAny (model prog w) A (pyIter (.ref l)) (fun it s₂ => LoopAtV prog w A h₀ env x body Q E it s₂) E s := by
  obtain ⟨news₀, hs, hno, hj, turn, done⟩ := all
  have N' : News h₀ env.locals s.heap news₀ := fun p hp => N p (hs p hp)
  have hls : s.heap.IsList l vs.toArray := lst_base (N _ hl).1
  have hne : l ≠ s.heap.objs.size := Nat.ne_of_lt (Heap.lt_size (N _ hl).1)
  refine wpAny_pyIter_list hls ?_
  refine for_walk stored J (Walks.list (prog := prog) (w := w) hh s.heap.objs.size l hne vs.toArray) ?_ ?_ ?_ ?_ ⟨⟨_, Heap.get?_push_size _ rfl, rfl, rfl⟩, hls.at fun o e => Heap.get?_push_of_some _ e⟩ (F.push _) (fun p hp => ⟨Heap.get?_push_of_some _ (N' p hp).1, (N' p hp).2⟩) hj ?_ ?_
  · intro hm
    rcases List.mem_cons.mp hm with e | hm
    · exact absurd F.ns.lt (e ▸ Nat.lt_irrefl _)
    · exact (N _ hl).2.1 (List.mem_singleton.mp hm).symm
  · intro b hb
    rw [List.mem_singleton.mp hb]
    exact next_is_new F
  · intro p hp hI
    exact absurd (Heap.lt_size (N' p hp).1) ((List.mem_singleton.mp hI) ▸ Nat.lt_irrefl _)
  · intro p hp hI
    rcases List.mem_cons.mp hI with e | hI
    · exact absurd (Heap.lt_size (N' p hp).1) (by rw [e]; exact Nat.lt_irrefl _)
    · exact hno p hp (List.mem_singleton.mp hI)
  · rintro i v u nx h tk own hi hP ho ha hJ F₁ N₁
    exact turn i v u nx h tk own (by simpa using hP) ho ha hJ F₁ N₁
  · intro u nx h tk hJ F₁ N₁
    rw [List.size_toArray] at hJ
    exact done u nx h tk hJ F₁ N₁
end
end
section
open PySem PySem.W PyProof.Rows PySem.Calls
theorem nats_ints {vs : List Value} {ks : List Nat} (h : Are NatAt vs ks) : kf_ints vs = true := by
  induction h with
  | nil => rfl
  | cons a _ ih => obtain ⟨t, rfl⟩ := a; exact ih
theorem nats_del {k : Nat} {vs : List Value} {ks : List Nat} (h : Are NatAt vs ks) (hm : k ∈ ks) : ∃ j q, kf_at (k : Int) vs = some j ∧ ki_delL vs j = some q ∧ Are NatAt q (ks.erase k) := by
  induction h with
  | nil => cases hm
  | @cons y ys k' ks' a b ih =>
    obtain ⟨t, rfl⟩ := a
    by_cases hk : k' = k
    · subst hk
      refine ⟨0, ys, ?_, rfl, ?_⟩
      · show cond (isInt (k' : Int) (.int (k' : Int) t)) _ _ = _
        rw [show isInt (k' : Int) (.int (k' : Int) t) = true from by simp [isInt]]
        rfl
      · rw [List.erase_cons_head]; exact b
    · have hm' : k ∈ ks' := by
        rcases List.mem_cons.mp hm with e | e
        · exact absurd e.symm hk
        · exact e
      obtain ⟨j, q, e1, e2, e3⟩ := ih hm'
      refine ⟨j + 1, .int (k' : Int) t :: q, ?_, ?_, ?_⟩
      · show cond (isInt (k : Int) (.int (k' : Int) t)) _ _ = _
        rw [show isInt (k : Int) (.int (k' : Int) t) = false from by
          simp only [isInt, beq_eq_false_iff_ne, ne_eq]; omega, e1]
        rfl
      · show (match ki_delL ys j with | some q => some (Value.int (k' : Int) t :: q) | none => none) = _
        rw [e2]
      · rw [List.erase_cons_tail (by simpa using hk)]
        exact .cons ⟨t, rfl⟩ e3
section
variable {w : World} {A : Around} {h₀ : Heap} {L l : Addr} {m : Str → Option Value} {s : Shared} {E : Value → Shared → Prop} {Q : Value → Shared → Prop} {news : List (Addr × Obj)} {g : Obj → List (Addr × Obj)} {n : Nat}
theorem remove_sym {k : Nat} {t : Tok} {vs : List Value} {ks : List Nat} (F : Fr h₀ L s.heap m) (N : News h₀ L s.heap news) (U : UpdF l (listOf vs.toArray n) news g) (h : Are NatAt vs ks) (hm : k ∈ ks) (hz : vs.length < 1000)
    (hq : ∀ h' vs', Are NatAt vs' (ks.erase k) → Fr h₀ L h' m → News h₀ L h' (g (listOf vs'.toArray (n + 1))) → Q .none { s with heap := h' }) :
    wpAny (model PySem.Challenge.rw_pq1402_01.row.prog w) A (call (.builtin "list.remove") [.ref l, .int (k : Int) t]) Q E s := by
  obtain ⟨pre, post, rfl, hg, a, b⟩ := U.split
  obtain ⟨j, q, e1, e2, e3⟩ := nats_del h hm
  exact kf_remove F N (nats_ints h) e1 e2 (upd_mk b a) (by show vs.length ≤ _; rw [PySem.sizeLine_eq]; omega) fun h' F' N' => hq h' q e3 F' (hg _ ▸ N')
theorem pop_sym {t : Tok} {v : Value} {vs : List Value} (F : Fr h₀ L s.heap m) (N : News h₀ L s.heap news) (U : UpdF l (listOf (v :: vs).toArray n) news g) (hz : vs.length < 1000)
    (hq : ∀ h', Fr h₀ L h' m → News h₀ L h' (g (listOf vs.toArray (n + 1))) → Q v { s with heap := h' }) :
    wpAny (model PySem.Challenge.rw_pq1402_01.row.prog w) A (call (.builtin "list.pop") [.ref l, .int 0 t]) Q E s := by
  obtain ⟨pre, post, rfl, hg, a, b⟩ := U.split
  exact kl_popAt (k := 0) (p := []) (q := vs) (y := v) F N (by decide) (by show seqIndex? 0 (v :: vs).toArray.size = some 0; simp [seqIndex?]) rfl (upd_mk b a) (by show (v :: vs).length ≤ _; rw [PySem.sizeLine_eq, List.length_cons]; omega) fun h' F' N' => hq h' F' (hg _ ▸ N')
end
end
section
open PySem PySem.W PyProof.Rows PySem.Calls
theorem Are.split {Y : Nat → Value → Prop} : ∀ {a b : List Nat} {ys : List Value}, Are Y ys (a ++ b) → ∃ y1 y2, ys = y1 ++ y2 ∧ Are Y y1 a ∧ Are Y y2 b
  | [], _, ys, h => ⟨[], ys, rfl, .nil, h⟩
  | k :: a, b, _, .cons (y := y) c h => by
    obtain ⟨y1, y2, e, h1, h2⟩ := Are.split h
    exact ⟨y :: y1, y2, by rw [e]; rfl, .cons c h1, h2⟩
theorem Are.join {Y : Nat → Value → Prop} {a b : List Nat} {y1 y2 : List Value} (h1 : Are Y y1 a) (h2 : Are Y y2 b) : Are Y (y1 ++ y2) (a ++ b) := by
  induction h1 with
  | nil => exact h2
  | cons c _ ih => exact .cons c ih
theorem are_pick {p : Nat → Bool} {ks : List Nat} : ∀ {m : Nat} {fvs : List Value}, m ≤ ks.length → Are (fun i y => NatAt (ks.getD i 0) y) fvs ((List.range m).filter fun i => p (ks.getD i 0)) → Are NatAt fvs ((ks.take m).filter p)
  | 0, _, _, h => by cases h; exact .nil
  | m + 1, _, hm, h => by
    rw [List.range_succ, List.filter_append] at h
    obtain ⟨y1, y2, rfl, h1, h2⟩ := h.split
    have hk : ks[m]? = some (ks.getD m 0) := by
      rw [List.getD_eq_getElem?_getD, List.getElem?_eq_getElem (by omega)]; rfl
    rw [List.take_add_one, hk, List.filter_append]
    refine (are_pick (by omega) h1).join ?_
    cases hp : p (ks.getD m 0) with
    | true =>
      rw [List.filter_cons_of_pos (by exact hp), List.filter_nil] at h2
      rw [Option.toList_some, List.filter_cons_of_pos hp, List.filter_nil]
      cases h2 with
      | cons c d => cases d; exact .cons c .nil
    | false =>
      rw [List.filter_cons_of_neg (by simp only [hp]; decide), List.filter_nil] at h2
      rw [Option.toList_some, List.filter_cons_of_neg (by rw [hp]; decide), List.filter_nil]
      cases h2; exact .nil
theorem fre_of {cs : List Cl} {fvs : List Value} (h : Are (fun i y => NatAt ((lft cs).getD i 0) y) fvs ((List.range (lft cs).length).filter fun i => cs.getD ((lft cs).getD i 0) .ot == .no)) : Are NatAt fvs (fre cs) := by
  have := are_pick (p := fun k => cs.getD k .ot == .no) (Nat.le_refl _) h
  rwa [List.take_length] at this
theorem ints_of_nats {vs : List Value} {ks : List Nat} (h : Are NatAt vs ks) : IntsAre vs (ks.map fun k : Nat => (k : Int)) := by
  induction h with
  | nil => exact .nil
  | cons a _ ih => obtain ⟨t, rfl⟩ := a; exact .cons _ t ih
theorem lawN_succ {cs : List Cl} {i : Nat} {c : Cl} (h : cnames[i]? = some c) : lawN cs (i + 1) = lawStep cs (lawN cs i) c := by
  unfold lawN
  rw [List.take_add_one, h, List.foldl_append]
  rfl
theorem lawStep_a {cs : List Cl} {c : Cl} {q : List Nat × List Nat} (h : cs.contains c = true) : lawStep cs q c = q := by
  unfold lawStep; rw [h]; rfl
theorem lawStep_b {cs : List Cl} {c : Cl} {l : List Nat} : lawStep cs (l, []) c = (l, []) := by
  unfold lawStep; cases cs.contains c <;> rfl
theorem lawStep_c {cs : List Cl} {c : Cl} {l ks : List Nat} {k : Nat} (h : cs.contains c = false) : lawStep cs (l, k :: ks) c = (l.erase k, ks) := by
  unfold lawStep; rw [h]; rfl
theorem lawStep_len {cs : List Cl} {c : Cl} {q : List Nat × List Nat} {n : Nat} (h1 : q.1.length ≤ n) (h2 : q.2.length ≤ n) : (lawStep cs q c).1.length ≤ n ∧ (lawStep cs q c).2.length ≤ n := by
  unfold lawStep
  split
  · refine ⟨Nat.le_trans (List.length_erase_le ..) h1, ?_⟩
    show q.2.tail.length ≤ n
    rw [List.length_tail]; omega
  · exact ⟨h1, h2⟩
theorem lawN_len {cs : List Cl} {i : Nat} (hi : i ≤ 2) : (lawN cs i).1.length ≤ cs.length ∧ (lawN cs i).2.length ≤ cs.length := by
  have h0 : (lawN cs 0).1.length ≤ cs.length ∧ (lawN cs 0).2.length ≤ cs.length := by
    have a : (lft cs).length ≤ cs.length := by
      unfold lft
      exact Nat.le_trans (List.length_filter_le ..) (by rw [List.length_range]; exact Nat.le_refl _)
    exact ⟨a, Nat.le_trans (List.length_filter_le ..) a⟩
  have up : ∀ {i : Nat} {c : Cl}, cnames[i]? = some c → (lawN cs i).1.length ≤ cs.length ∧ (lawN cs i).2.length ≤ cs.length → (lawN cs (i + 1)).1.length ≤ cs.length ∧ (lawN cs (i + 1)).2.length ≤ cs.length := fun {i c} h x => by
    rw [lawN_succ h]; exact lawStep_len x.1 x.2
  have : i = 0 ∨ i = 1 ∨ i = 2 := by omega
  rcases this with rfl | rfl | rfl
  · exact h0
  · exact up (i := 0) rfl h0
  · exact up (i := 1) rfl (up (i := 0) rfl h0)
theorem law_mem {cs : List Cl} (h5 : cs.length ≤ 5) (hv : valid cs = true) {i : Nat} {c : Cl} (hc : cnames[i]? = some c) (hcc : cs.contains c = false) {k : Nat} {ks : List Nat} (hq : (lawN cs i).2 = k :: ks) : k ∈ (lawN cs i).1 := by
  have h := check_all h5
  have hi := (cnames_nm hc).2
  have hc' : cnames.getD i .ot = c := by rw [List.getD_eq_getElem?_getD, hc]; rfl
  unfold check at h
  rw [hv] at h
  simp only [Bool.not_true, Bool.false_or, Bool.and_eq_true, List.all_eq_true] at h
  have h3 := h.2 i (by rcases (show i = 0 ∨ i = 1 by omega) with rfl | rfl <;> simp)
  rw [hc', hcc, hq] at h3
  simpa using h3
end
section
open PySem PySem.W PyProof.Rows PySem.Calls
theorem plain_unchain : plainId "proto.unchain" = true := by decide +kernel
theorem entry_unchain : entryFor table "proto.unchain" = some Builtin.«proto.unchain» := entryFor_of_fast (by kernel_rfl)
section
variable {prog : Program} {w : World} {A : Around} {E : Value → Shared → Prop} {s : Shared}
theorem unchain_none {x y : Addr} {oy : Obj} {ys : Array Value} {Q : Value → Shared → Prop} (hy : s.heap.get? y = some oy) (hd : oy.data = .fields ys) (h2 : ys[2]? = some .none) (h : Q .none s) :
    wpAny (model prog w) A (runValue (.builtin "proto.unchain" ⟨[.ref x, .ref y, .ref y, .bool false], []⟩)) Q E s := by
  refine wpAny_runValue (codeAny_builtin entry_unchain ?_)
  rw [Around.under_plainId plain_unchain _]
  unfold Builtin.«proto.unchain»
  show wpAny _ _ (field (.ref y) 2 >>= _) _ _ s
  refine wpAny_bind (wpAny_field hy hd h2 ?_)
  rw [if_pos (by decide)]
  exact wpAny_pure h
theorem raiseNew_some {α : Type} {e y : Addr} {oe oy : Obj} {es ys : Array Value} {Q : α → Shared → Prop} (hh : A.handled = some (.ref y)) (hne : y ≠ e) (he : s.heap.get? e = some oe) (hed : oe.data = .fields es) (hsz : 2 < es.size)
    (hy : s.heap.get? y = some oy) (hd : oy.data = .fields ys) (h2 : ys[2]? = some .none) (h : E (.ref e) { s with heap := s.heap.update e (Obj.mapFields (·.setIfInBounds 2 (.ref y))) }) :
    wpAny (model prog w) A (raiseNew (.ref e) : Sem α) Q E s := by
  unfold raiseNew
  refine wpAny_bind (wpAny_handled ?_)
  rw [hh]
  dsimp only
  rw [if_pos (show (Value.ref y != Value.ref e) = true from by simpa using hne)]
  refine wpAny_bind (wpAny_holding (unchain_none hy hd h2 ?_))
  refine wpAny_bind ?_
  unfold updateField
  refine wpAny_bind (wpAny_load he ?_)
  rw [hed]
  dsimp only
  rw [if_pos hsz]
  exact wpAny_update' he (wpAny_throw h)
end
section
variable {prog : Program} {w : World} {A : Around} {E : Value → Shared → Prop} {s : Shared}
theorem list_end_h {it l y : Addr} {i : Nat} {items : Array Value} {oy : Obj} {ys : Array Value} {Q : Option Value → Shared → Prop} (hh : A.handled = some (.ref y))
    (hit : s.heap.IsListIter it l i) (hl : s.heap.IsList l items) (hx : items[i]? = none) (hy : s.heap.get? y = some oy) (hyd : oy.data = .fields ys) (h2 : ys[2]? = some .none) (hyi : y ≠ it)
    (hQ : ∀ h', Heap.ExtBut it s.heap h' → Q none { s with heap := h' }) : wpAny (model prog w) A (pyNext (.ref it)) Q E s := by
  obtain ⟨o, ho, hc, hd⟩ := id hit
  obtain ⟨ol, hol, _, nl, hdl⟩ := hl
  unfold pyNext
  refine wpAny_bind (wpAny_attempt (wpAny_callSpecial?_slot (name := Str.ofString "__next__") hit.typeIs slot_listiter_next
    (wpAny_call_entry slot_listiter_next hit.typeIs entry_listiter_next ?_ (args_listiter_next _))))
  show wpAny _ _ (field (.ref it) 0 >>= _) _ _ s
  refine wpAny_bind (wpAny_field ho hd (x := .ref l) rfl ?_)
  show wpAny _ _ (if (Value.ref l == Value.none) = true then _ else _) _ _ s
  rw [if_neg (show ¬ ((Value.ref l == Value.none) = true) from Bool.false_ne_true)]
  show wpAny _ _ (field (.ref it) 1 >>= _) _ _ s
  refine wpAny_bind (wpAny_field ho hd (x := .int i 0) rfl ?_)
  show wpAny _ _ (seqItems? (.ref l) >>= _) _ _ s
  refine wpAny_bind (wpAny_seqItems hol hdl ?_)
  simp only [Int.toNat_natCast, hx]
  refine wpAny_bind (wpAny_rule (wpAny_bind (wpAny_setField ho hd (by simp) ?_)))
  show wpAny _ _ (newExc (.type "StopIteration") [] >>= _) _ _ _
  refine wpAny_bind ?_
  simp only [newExc, newTuple]
  refine wpAny_bind (wpAny_newObj_type ?_ (by size_fits))
  refine wpAny_bind (m := firstArgMember _ _) (wpAny_of_eq (a := Value.none) (by first | rfl | (simp only [firstArgMember]; rfl)) ?_)
  refine wpAny_newObj_type ?_ (by size_fits)
  have hyu := (Heap.get?_update_other (a := it) (b := y) s.heap (Obj.mapFields (·.setIfInBounds 0 Value.none)) (Ne.symm hyi)).trans hy
  have hy2 := fun o1 o2 => Heap.get?_push_of_some o2 (Heap.get?_push_of_some o1 hyu)
  refine raiseNew_some (y := y) hh (Nat.ne_of_lt (Heap.lt_size (Heap.get?_push_of_some _ hyu))) (Heap.get?_push_size _ rfl) rfl (by simp; omega) (hy2 _ _) hyd h2 ?_
  refine wpAny_bind (wpAny_isInstance (T := "StopIteration") (b := true) ⟨_, Heap.get?_update_self _ (Heap.get?_push_size _ rfl) rfl, rfl⟩ isSubtype_stop ?_)
  have ext := (((Heap.SameBut.update (a := it) s.heap (Obj.mapFields (·.setIfInBounds 0 Value.none))).extBut.push { cls := .type "tuple", data := .seq #[] }))
  refine wpAny_pure (hQ _ fun b o hb e => ?_)
  exact (Heap.get?_update_other _ _ (Nat.ne_of_gt (Heap.lt_size (ext b o hb e)))).trans (Heap.get?_push_of_some _ (ext b o hb e))
end
end
section
open PySem PySem.W PyProof.Rows PySem.Calls
theorem walks_h {prog : Program} {w : World} {A : Around} {e : Addr} {ex : Obj} {xv : Array Value} (hh : A.handled = some (.ref e)) (hed : ex.data = .fields xv) (he2 : xv[2]? = some .none) (I ax : Addr) (hne : ax ≠ I) (hei : e ≠ I) (items : Array Value) :
    Walks prog w A I [I, ax, e] [I] items.size (fun i v => items[i]? = some v) (fun i h => h.IsListIter I ax i ∧ h.IsList ax items ∧ h.get? e = some ex) where
  sub := fun b hb => by simp at hb; simp [hb]
  frame := fun _ _ _ st hk => ⟨st.1.at fun o q => hk I (by simp) o q, st.2.1.at fun o q => hk ax (by simp) o q, hk e (by simp) _ st.2.2⟩
  item := fun i s Q E hi st hQ => by
    refine wpAny_pyNext_list_item st.1 st.2.1 (x := items[i]) (by simp [hi]) fun h' hit' hs' => ?_
    exact hQ _ h' s.toks (by simp [hi]) ⟨hit', st.2.1.extBut hs'.extBut hne, hs'.extBut e _ hei st.2.2⟩ fun b o hb e => hs'.extBut b o (fun h => hb (by simp [h])) e
  done := fun s Q E st hQ => list_end_h hh st.1 st.2.1 (by simp) st.2.2 hed he2 hei fun h' he' => hQ h' s.toks fun b o hb e => he' b o (fun h => hb (by simp [h])) e
  self := fun _ _ _ _ st hQ => wpAny_pyIter_listiter st.1 hQ
structure JMh (r : Addr) (stored : List Str) (J : Nat → Obj → Prop) : Prop where
def HEnd (h₀ : Heap) (L : Addr) (x : Str) (stored : List Str) (m₀ : Str → Option Value) (J : Obj → Prop) (r I : Addr) (oI : Obj) (fx : List (Addr × Obj)) (s₁ s₂ : Shared) : Prop :=
  ∃ h' tk m' o', s₂ = { s₁ with heap := h', toks := tk } ∧ Fr h₀ L h' m' ∧ News h₀ L h' ((r, o') :: (I, oI) :: fx) ∧ J o' ∧ ∀ y, y ≠ x → stored.contains y = false → m' y = m₀ y
def HPost (h₀ : Heap) (L : Addr) (x : Str) (stored : List Str) (m₀ : Str → Option Value) (J : Obj → Prop) (r I : Addr) (oI : Obj) (fx : List (Addr × Obj)) (s₁ : Shared) (Q : Flow → Shared → Prop) (f : Flow) (s₂ : Shared) : Prop :=
  match f with
  | .ret v => Q (.ret v) s₂
  | .brk => Q .next s₂
  | _ => HEnd h₀ L x stored m₀ J r I oI fx s₁ s₂
section
variable {prog : Program} {w : World} {A : Around} {E : Value → Shared → Prop} {s : Shared} {env : Env} {h₀ : Heap} {x : Str} {body : List Stmt} {Q : Flow → Shared → Prop}
theorem for_list_h {l e r : Addr} {vs : List Value} {n : Nat} {ex o₀ : Obj} {xv : Array Value} {m₀ : Str → Option Value} {fx : List (Addr × Obj)} {stored : List Str} {J : Nat → Obj → Prop} (_ : JMh r stored J)
    (hh : A.handled = some (.ref e)) (F : Fr h₀ env.locals s.heap m₀) (N : News h₀ env.locals s.heap ((r, o₀) :: fx)) (hl : (l, listOf vs.toArray n) ∈ fx) (he : (e, ex) ∈ fx) (hed : ex.data = .fields xv) (he2 : xv[2]? = some .none) (hr : ∀ p ∈ fx, p.1 ≠ r)
    (all : Later (J 0 o₀ ∧
    (∀ i v (u : Str → Option Value) o h tk I oI, vs[i]? = some v → J i o → I ≠ r → (∀ p ∈ fx, p.1 ≠ I) → Fr h₀ env.locals h (fun y => if y = x then some v else if stored.contains y then u y else m₀ y) → News h₀ env.locals h ((r, o) :: (I, oI) :: fx) →
      wpAny (model prog w) A (execs body env) (HPost h₀ env.locals x stored m₀ (J (i + 1)) r I oI fx { s with heap := h, toks := tk } Q) E { s with heap := h, toks := tk }) ∧
    (∀ (u : Str → Option Value) o h tk, J vs.length o → Fr h₀ env.locals h (fun y => if y = x then u y else if stored.contains y then u y else m₀ y) → News h₀ env.locals h ((r, o) :: fx) → Q .next { s with heap := h, toks := tk }))) :
    wpAny (model prog w) A (pyIter (.ref l)) (fun it s₂ => LoopAtV prog w A h₀ env x body Q E it s₂) E s := by
  obtain ⟨hj, turn, done⟩ := all
  have hlo := (N _ (.tail _ hl)).1
  have heo := (N _ (.tail _ he)).1
  have hls : s.heap.IsList l vs.toArray := lst_base hlo
  have hne : l ≠ s.heap.objs.size := Nat.ne_of_lt (Heap.lt_size hlo)
  have hei : e ≠ s.heap.objs.size := Nat.ne_of_lt (Heap.lt_size heo)
  have hIr : ∀ p ∈ (r, o₀) :: fx, p.1 ≠ s.heap.objs.size := fun p hp => Nat.ne_of_lt (Heap.lt_size (N p hp).1)
  refine wpAny_pyIter_list hls ?_
  refine ⟨s.heap.objs.size, _, _, vs.toArray.size, _, _, m₀, (r, o₀) :: fx, (fun i m nx => (∃ o, nx = (r, o) :: fx ∧ J i o) ∧ ∀ y, y ≠ x → stored.contains y = false → m y = m₀ y), rfl,
    walks_h hh hed he2 s.heap.objs.size l hne hei vs.toArray, ?_, ?_, ?_, ⟨⟨_, Heap.get?_push_size _ rfl, rfl, rfl⟩, hls.at fun o e => Heap.get?_push_of_some _ e, Heap.get?_push_of_some _ heo⟩, F.push _, (fun p hp => ⟨Heap.get?_push_of_some _ (N p hp).1, (N p hp).2⟩), ⟨⟨o₀, rfl, hj⟩, fun _ _ _ => rfl⟩, ?_, ?_⟩
  · intro hm
    simp only [List.mem_cons, List.not_mem_nil, or_false] at hm
    rcases hm with q | q | q
    · exact absurd F.ns.lt (q ▸ Nat.lt_irrefl _)
    · exact (N _ (.tail _ hl)).2.1 q.symm
    · exact (N _ (.tail _ he)).2.1 q.symm
  · intro b hb
    rw [List.mem_singleton.mp hb]
    exact next_is_new F
  · intro p hp hI
    exact hIr p hp (List.mem_singleton.mp hI)
  · rintro i v m₁ nx s₁ own ⟨h, tk, rfl⟩ hi hP ⟨⟨o, rfl, hJ⟩, hm⟩ hoff hown hat hin hst F₁ N₁
    rw [map_stored hm] at F₁
    obtain ⟨oI, hoI, hoI2⟩ := hst.1
    have hmem : (s.heap.objs.size, oI) ∈ own := hin _ (.head _) (next_is_new F) oI hoI
    have N₂ : News h₀ env.locals h ((r, o) :: (s.heap.objs.size, oI) :: fx) := fun p hp => by
      rcases List.mem_cons.mp hp with rfl | hp
      · exact N₁ _ (List.mem_append_right _ (.head _))
      · rcases List.mem_cons.mp hp with rfl | hp
        · exact N₁ _ (List.mem_append_left _ hmem)
        · exact N₁ _ (List.mem_append_right _ (.tail _ hp))
    have hsub : ∀ p ∈ own, p ∈ (s.heap.objs.size, oI) :: fx := fun p hp => by
      have e1 := hown p hp
      have e2 : h.get? p.1 = some p.2 := hat p hp
      obtain ⟨b, ob⟩ := p
      dsimp only at e1 e2
      simp only [List.mem_cons, List.not_mem_nil, or_false] at e1
      rcases e1 with rfl | rfl | rfl
      · have e3 : h.get? s.heap.objs.size = some oI := hoI
        rw [e3] at e2; cases e2; exact .head _
      · rw [(N₂ _ (.tail _ (.tail _ hl))).1] at e2; cases e2; exact .tail _ hl
      · rw [(N₂ _ (.tail _ (.tail _ he))).1] at e2; cases e2; exact .tail _ he
    refine wpAny_mono (turn i v m₁ o h tk s.heap.objs.size oI (by simpa using hP) hJ (fun q => hIr _ (.head _) q.symm) (fun p hp => hIr p (.tail _ hp)) F₁ N₂) (fun f s₂ p => ?_) fun _ _ e => e
    have fin : HEnd h₀ env.locals x stored m₀ (J (i + 1)) r s.heap.objs.size oI fx { s with heap := h, toks := tk } s₂ → LoopStepU h₀ env.locals [s.heap.objs.size] own (fun m nx => (∃ o, nx = (r, o) :: fx ∧ J (i + 1) o) ∧ ∀ y, y ≠ x → stored.contains y = false → m y = m₀ y) { s with heap := h, toks := tk } .next s₂ := by
      rintro ⟨h', tk', m', o', e, F', N', hJ', hm'⟩
      refine ⟨rfl, h', tk', m', (r, o') :: fx, e, F', fun q hq => ?_, fun q hq z => ?_, ⟨o', rfl, hJ'⟩, hm'⟩
      · rcases List.mem_append.mp hq with hq | hq
        · exact N' _ (.tail _ (hsub q hq))
        · rcases List.mem_cons.mp hq with rfl | hq
          · exact N' _ (.head _)
          · exact N' _ (.tail _ (.tail _ hq))
      · rcases List.mem_cons.mp hq with rfl | hq
        · exact hIr (r, o₀) (.head _) (List.mem_singleton.mp z)
        · exact hIr q (.tail _ hq) (List.mem_singleton.mp z)
    cases f with
    | ret v => exact .ret p
    | brk => exact .brk p
    | next => exact .next (fin p)
    | cont => exact .cont (fin p)
  · rintro h' tk m' nx F₁ N₁ _ ⟨⟨o, rfl, hJ⟩, hm⟩
    rw [map_stored_end hm] at F₁
    rw [List.size_toArray] at hJ
    exact done m' o h' tk hJ F₁ N₁
end
end
section
open PySem PySem.W PyProof.Rows PySem.Calls Builtin Builtin.ObjectAttr
set_option maxRecDepth 100000
theorem ga51 {P : Params} : findIn (heapK P) (.ref 51) (Str.ofString "__getattribute__") = some (some (.builtin "BaseException.__getattribute__")) := by with_unfolding_all exact rfl
theorem hk51 {P : Params} : findIn (heapK P) (.ref 51) (Str.ofString "__getattr__") = some none := by with_unfolding_all exact rfl
theorem mro51 {P : Params} : mroIn (heapK P) 51 (.type "BaseException") = some true := by with_unfolding_all exact rfl
theorem heap51 : (onTheHeap (Value.ref 51) && (Value.builtin "BaseException.__getattribute__" == Value.builtin "object.__getattribute__")) = false := by decide +kernel
theorem kind51 : builtinKind "BaseException.__getattribute__" = some .slot := by decide +kernel
theorem split51 : splitId "BaseException.__getattribute__" = some ("BaseException", "__getattribute__") := by decide +kernel
section
variable {prog : Program} {w : World} {A : Around} {E : Value → Shared → Prop} {h : Heap} {g : Array GenState} {d : Drawn} {t : Nat} {os : OsState}
theorem find51 {P : Params} {od : Obj} {v : Value} (hl : lookIn (Str.ofString "message") od = some (some v)) : findObj (heapK P) 51 (some od) (Str.ofString "message") = some (.value v) := by
  have hcd : clsIn (heapK P) 51 = some ⟨Str.ofString "Refusal", [.ref 31], .ref 51 :: bm51, 50, Str.ofString "Refusal", true, [], [], false, none, false⟩ := by with_unfolding_all exact rfl
  have ha : findIn (heapK P) (.ref 51) (Str.ofString "message") = some none := by with_unfolding_all exact rfl
  unfold findObj
  rw [hcd, ha]
  simp only [Option.bind_some, PySem.W.ownOf, if_true, hl]
set_option maxHeartbeats 400000 in
theorem get51 {e dx : Addr} {ex od : Obj} {v : Value} {xv : Array Value} {expr : Bool} {Q : Value → Shared → Prop} (X : (heapK w.params).In h) (he : h.get? e = some ex) (hc : ex.cls = .ref 51) (hdt : ex.data = .fields xv) (hdi : ex.dict = some dx) (hdx : h.get? dx = some od)
    (hl : lookIn (Str.ofString "message") od = some (some v)) (hh : handedIn v = true) (hq : Q v ⟨h, g, d, t + 1, os⟩) : wpAny (model prog w) A (getAttr (.ref e) (Str.ofString "message") expr) Q E ⟨h, g, d, t, os⟩ := by
  have hn : notCls ex = true := by
    obtain ⟨_, _, dt, _⟩ := ex
    cases hdt; rfl
  have I : InstAt h e ex 51 (some od) := ⟨he, hc, hn, by rw [hdi]; exact hdx⟩
  have L0 := I.type (M := model prog w)
  have L1 : Looks (model prog w) h (typeLookup (.ref 51) (Str.ofString "__getattribute__")) (some (.builtin "BaseException.__getattribute__")) := looks_findIn X ga51
  have L2 : Looks (model prog w) h (typeLookup (.ref 51) (Str.ofString "__getattr__")) none := looks_findIn X hk51
  have L3 := looks_find (M := model prog w) X I (find51 hl)
  have sub : Looks (model prog w) h (isInstance (.ref e) (.type "BaseException")) true := L0.andThen (looks_mroIn X mro51)
  have FB := PySem.F.attrBase_Exception
  have f3 := FB.ga.bind (.ref e)
  unfold getAttr getAttrBy
  refine wpAny_bind (wpAny_mkText (wpAny_holding (wpAny_bind (L0.at (wpAny_bind (L1.at ?_))))))
  show wpAny _ _ (if (onTheHeap (Value.ref 51) && (Value.builtin "BaseException.__getattribute__" == Value.builtin "object.__getattribute__")) = true then _ else _) _ _ _
  rw [heap51]
  simp only [Bool.false_eq_true, if_false]
  unfold getAttrByItsOwn
  refine wpAny_bind (L2.at ?_)
  refine wpAny_bind (wpAny_attempt (wpAny_holding ?_))
  have hx0 : (expr && onTheHeap (Value.builtin "BaseException.__getattribute__")) = false := by cases expr <;> rfl
  unfold callGetattribute
  rw [hx0]
  simp only [Bool.false_eq_true, if_false]
  unfold boundAndCalled
  refine wpAny_bind (wpAny_of_eq f3 ?_)
  show wpAny _ _ (call (.builtin "BaseException.__getattribute__") [.ref e, .str (Str.ofString "message") t]) _ _ _
  refine wpAny_call ?_
  refine codeAny_call_builtin FB.ga.plain F.entry_bexc_ga ?_
  refine @check_slot (model prog w) _ _ ⟨h, g, d, t + 1, os⟩ "BaseException.__getattribute__" "BaseException" "__getattribute__" (.ref e) [.str (Str.ofString "message") t] [] _ kind51 split51 sub (F.args_bexc_ga (.ref e) (.str (Str.ofString "message") t)) ?_
  refine wpAny_bind (wpAny_pure (wpAny_bind ?_))
  refine wpAny_pure ?_
  refine wpAny_bind (L0.at (wpAny_bind (L3.at ?_)))
  refine wpAny_pure ?_
  show wpAny _ _ (handedOut v) _ _ _
  rw [handedOut_of hh]
  exact wpAny_pure hq
end
end
section
open PySem PySem.W PyProof.Rows PySem.Calls
set_option maxRecDepth 100000
theorem name51 {P : Params} : nsIn (heapK P) mainGlobals (Str.ofString "Refusal") = some (some (.ref 51)) := by with_unfolding_all exact rfl
section
variable {w : World} {mean : ExcName → Option Value} {mg mb : Str → Option Value} {A₀ : Around} {E : Value → Shared → Prop} {s' : Shared} {h₀ h : Heap} {L a e dx : Addr} {m : Str → Option Value} {cn : Str} {cs : Scope} {ccd : Value} {cl : List (Str × Addr)}
  {msg : Value} {n : Str} {b₀ : Stmt} {suite : List Stmt} {pos np : Pos} {rest : List ExceptHandler} {Q : Flow → Shared → Prop} {news : List (Addr × Obj)}
theorem caught51 (K : Below A₀ h₀ [] h₀) (F : Fr h₀ L h m) (N : News h₀ L h news) (G : Gone h [envX cn cs L a ccd cl] e dx msg s'.heap) (X : (heapK w.params).In h₀) (T : Top viewQ LL mean mg mb h₀)
    (k : ∀ h' tk ex od xv, Fr h₀ L h' (fun y => if y = n then some (.ref e) else m y) → News h₀ L h' ((e, ex) :: (dx, od) :: news) → ex.cls = .ref 51 → ex.dict = some dx → ex.data = .fields xv → xv[2]? = some .none → lookIn (Str.ofString "message") od = some (some msg) → (∀ p ∈ news, p.1 ≠ e ∧ p.1 ≠ dx) →
      wpAny (model PySem.Challenge.rw_pq1402_01.row.prog w) ((A₀.deeper (envX cn cs L a ccd cl)).mark (some (.ref e))) (execs (b₀ :: suite) (envX cn cs L a ccd cl))
        (fun f s₄ => wpAny (model PySem.Challenge.rw_pq1402_01.row.prog w) (A₀.deeper (envX cn cs L a ccd cl)) (do bindName (envX cn cs L a ccd cl) n .none; unbindBehindTheSuite (envX cn cs L a ccd cl) n pos) (fun _ s₅ => Q f s₅) E s₄)
        (AsSuiteRaised (model PySem.Challenge.rw_pq1402_01.row.prog w) ((A₀.deeper (envX cn cs L a ccd cl)).mark (some (.ref e))) (envX cn cs L a ccd cl) n pos (notedBy (model PySem.Challenge.rw_pq1402_01.row.prog w) ((A₀.deeper (envX cn cs L a ccd cl)).mark (some (.ref e))) (envX cn cs L a ccd cl) (cameBackBy (model PySem.Challenge.rw_pq1402_01.row.prog w) (A₀.deeper (envX cn cs L a ccd cl)) (envX cn cs L a ccd cl) E)))
        { s' with heap := h', toks := tk })
    (hk : cs.kind = .function) (hlo : (envX cn cs L a ccd cl).kindOf n = some .local) (hx : (envX cn cs L a ccd cl).kindOf (Str.ofString "Refusal") = some .globalImplicit) :
    wpAny (model PySem.Challenge.rw_pq1402_01.row.prog w) (A₀.deeper (envX cn cs L a ccd cl)) (noteFrame (.ref e) (envX cn cs L a ccd cl))
      (fun _ s₂ => wpAny (model PySem.Challenge.rw_pq1402_01.row.prog w) (A₀.deeper (envX cn cs L a ccd cl)) (setFlight (.ref e) none) (fun _ s₃ =>
        wpAny (model PySem.Challenge.rw_pq1402_01.row.prog w) (A₀.deeper (envX cn cs L a ccd cl)) (handleBy (.ref e) (envX cn cs L a ccd cl) (.ExceptHandler (some (.Name (Str.ofString "Refusal") np)) (some n) (b₀ :: suite) pos :: rest)) Q E s₃) E s₂) E s' := by
  obtain ⟨⟨B, hB, Fl⟩, U, ne, nd, ms⟩ := G
  obtain ⟨hs, g, d, tk, os⟩ := s'
  dsimp only at Fl U ms k ⊢
  have hnL : ∀ b, b ≠ L → b ∉ [envX cn cs L a ccd cl].filterMap (·.frame) := fun b hb hm => hb (List.mem_singleton.mp hm)
  have hst : ∀ b o, h₀.get? b = some o → B.get? b = some o := fun b o q => hB b o (F.keep b o q) (hnL b (above_ne F q))
  have heL : e ≠ L := by
    obtain ⟨oL, _, _, hL, _⟩ := F.ns
    rintro rfl; rw [ne] at hL; cases hL
  have hdL : dx ≠ L := by
    obtain ⟨oL, _, _, hL, _⟩ := F.ns
    rintro rfl; rw [nd] at hL; cases hL
  have ne0 : h₀.get? e = none := none_sub (F.keep _) ne
  have nd0 : h₀.get? dx = none := none_sub (F.keep _) nd
  refine fly_next (Around.frames_deeper K.stack) rfl Fl fun h4 Fl4 U4 => ?_
  refine fly_land Fl4 fun h5 Fl5 U5 => ?_
  have U5' := (U.trans U4).trans U5
  have F5 : Fr h₀ L h5 m := F.of_stays (fun b o q => Fl5.stays b o (hst b o q)) U5'
  obtain ⟨oe, _, _, _, _, hob, hobc, _⟩ := Fl5.here
  refine wpAny_handleBy_cons (codeAny_handlers_test (nameX_K F5 X (topRead_of T) name51 ?_ hk hx (by decide +kernel))) (by intro q; cases q)
  refine wpAny_excMatches_sub_self (at51 (X.keeps F5.keep)) hob hobc (by decide) (codeAny_handlers_suite_as ?_)
  refine fly_land Fl5 fun h6 Fl6 U6 => ?_
  have F6 : Fr h₀ L h6 m := F.of_stays (fun b o q => Fl6.stays b o (hst b o q)) (U5'.trans U6)
  obtain ⟨ex, xv, TT, oT, ts, he, hcls, hxd, hdd, h1, hnT, hTe, hT, hdT, h3, hc2⟩ := Fl6.here
  obtain ⟨od, hod, hlk, hof⟩ := msg_slots ((U4.trans U5).trans U6) ms
  have Nl : News h₀ L h6 news := fun q hq => ⟨Fl6.stays _ _ (hB _ _ (N q hq).1 (hnL _ (N q hq).2.1)), (N q hq).2⟩
  have N6 : News h₀ L h6 ((e, ex) :: (dx, od) :: news) := fun q hq => by
    rcases List.mem_cons.mp hq with rfl | hq
    · exact ⟨he, heL, ne0⟩
    rcases List.mem_cons.mp hq with rfl | hq
    · exact ⟨hod, hdL, nd0⟩
    · exact Nl q hq
  refine storeX_L F6 N6 (fun h7 F7 N7 => ?_) hk hlo
  refine k h7 _ ex od xv F7 N7 hcls hxd hdd hc2 hlk fun p hp => ⟨fun q => ?_, fun q => ?_⟩
  · have z := (N p hp).1; rw [q, ne] at z; cases z
  · have z := (N p hp).1; rw [q, nd] at z; cases z
end
end
section
open PySem PySem.W PyProof.Rows PySem.Calls
set_option maxRecDepth 100000
section
variable {w : World} {mean : ExcName → Option Value} {mg mb : Str → Option Value} {dp un : Nat} {gd : Option (List Code)} {cn : Str} {cs : Scope} {a : Addr} {ccd : Value} {cl : List (Str × Addr)} {outer : List Env} {A₀ : Around} {base h₀ : Heap} {L : Addr} {m : Str → Option Value} {s : Shared} {Q E : Value → Shared → Prop}
theorem take_walk {fo lo : Addr} {f1 f2 : Tok} {nf na : Nat} {avs : List Value} {args : List (Tg × Val)} {news fz : List (Addr × Obj)} (B : Below A₀ base outer h₀) (F : Fr h₀ L s.heap m) (X : (heapK w.params).In h₀) (T : Top viewQ LL mean mg mb h₀) (N : News h₀ L s.heap news)
    (hF : (fo, listOf [Value.str (Str.ofString "x") f1, .str (Str.ofString "name") f2].toArray nf) ∈ news) (hl : (lo, listOf avs.toArray na) ∈ news) (hS : Sure fz (fun h => ArgsIn w.params h (fun _ => True) avs args)) (hfz : ∀ q ∈ fz, q ∈ news) (hn : args.length ≤ 5) (hok : ∀ p ∈ args, p.2.Ok) (hv : valid (clsOf args) = true)
    (hk : cs.kind = .function) (hdp : dp + 55 < recursionLimit) (hun : un + 800 < cLine)
    (retn : ∀ l (vvs : List Value) n h' tk', restOf (clsOf args) = [] → Fr h₀ L h' m → News h₀ L h' ((l, listOf vvs.toArray n) :: news) → vvs.length = 2 → (∀ p ∈ news, p.1 ≠ l) → Q (.ref l) { s with heap := h', toks := tk' })
    (retr : ∀ e dx t h' tk', restOf (clsOf args) ≠ [] → Gone s.heap (envX cn cs L a ccd cl :: outer) e dx (.str (unusedText (restTexts args (restOf (clsOf args)))) t) h' → E (.ref e) { s with heap := h', toks := tk' }) :
   wpAny (model PySem.Challenge.rw_pq1402_01.row.prog w) (ktrTop dp un gd cn cs L a ccd cl outer) (call (.ref 202) [.ref lo, .ref fo]) Q E s := by
  refine take_call (ok := fun _ => True) ⟨B, F, X, T⟩ hk hdp hun ⟨f1, f2, nf, (N _ hF).1, trivial⟩ ⟨na, (N _ hl).1, trivial⟩ (hS _ fun q hq => (N q (hfz q hq)).1) hn hok hv ?_ retr
  rintro l vvs h' tk' hr G ⟨n, hl2⟩ hvv
  have z2 : s.heap.get? l = none := hl2.2
  refine retn l vvs n h' tk' hr (fr_gsub0 F G) (fun q hq => ?_) hvv fun p hp q => by have z := (N p hp).1; rw [q, z2] at z; cases z
  rcases List.mem_cons.mp hq with rfl | hq
  · refine ⟨hl2.1, ?_, none_sub (F.keep _) z2⟩
    rintro rfl
    obtain ⟨oL, _, _, hL, _⟩ := F.ns
    rw [z2] at hL; cases hL
  · exact news_gsub0 N G q hq
end
end
section
open PySem PySem.W PyProof.Rows PySem.Calls PyProof.V PySem.Spec PySem.SeqAt
theorem readsAll_strs {h : Heap} : ∀ {vs : List Value} {zs : List Str}, StrsAre vs zs → ReadsAll h vs (zs.map PyData.str) []
  | _, _, .nil => .nil
  | _, _, .cons x t r => by
    have := ReadsAll.cons (Reads.str (h := h) x t) (readsAll_strs (h := h) r)
    simpa using this
theorem ok_of (s : String) : PyData.strOk (Str.ofString s) = true := by
  rw [Str.ofString_eq_toList]
  unfold PyData.strOk
  simp only [List.all_toArray, List.all_map, List.all_eq_true, Function.comp, decide_eq_true_eq]
  intro c _
  have h := c.valid
  simp only [UInt32.isValidChar, Nat.isValidChar] at h
  have : c.toNat = c.val.toNat := rfl
  omega
theorem ok_app {a b : Str} (ha : PyData.strOk a = true) (hb : PyData.strOk b = true) : PyData.strOk (a ++ b) = true := by
  unfold PyData.strOk at *
  show (a.cps ++ b.cps).all _ = true
  rw [Array.all_append, ha, hb]; rfl
theorem ok_tag {g : Tg} {x : Str} (e : g.txt = some x) : PyData.strOk x = true := by cases g <;> cases e <;> exact ok_of _
theorem ok_text {d : Val} (hd : d.Ok) {x : Str} (e : d.text = some x) : PyData.strOk x = true := by
  cases d with
  | lg k =>
    have hk3 : k = 0 ∨ k = 1 ∨ k = 2 := by have : k < 3 := hd; omega
    rcases hk3 with rfl | rfl | rfl <;> (cases e; exact ok_of _)
  | it i => cases e; exact ok_app (ok_of _) (ok_of _)
  | db i => cases e; exact ok_of _
  | ch y =>
    cases e
    refine ok_app (ok_app (ok_of _) ?_) (ok_of _)
    have hy : y ∈ chTexts := hd
    simp only [chTexts, List.mem_cons, List.not_mem_nil, or_false] at hy
    rcases hy with rfl | rfl | rfl | rfl | rfl <;> exact ok_of _
  | _ => cases e
theorem ok_arg {args : List (Tg × Val)} (hok : ∀ p ∈ args, p.2.Ok) (k : Nat) : PyData.strOk (argAt args k) = true := by
  unfold argAt
  cases e : args[k]? with
  | none => exact ok_of _
  | some p =>
    obtain ⟨g, d⟩ := p
    have hd := hok _ (List.mem_of_getElem? e)
    show PyData.strOk (argText k g d) = true
    unfold argText
    cases hg : g.txt with
    | none =>
      cases ht : d.text with
      | none => exact ok_of _
      | some z => exact ok_text hd ht
    | some y =>
      cases ht : d.text with
      | none => exact ok_tag hg
      | some z => exact ok_app (ok_app (ok_tag hg) (ok_of _)) (ok_text hd ht)
theorem ok_rest {args : List (Tg × Val)} (hok : ∀ p ∈ args, p.2.Ok) (ks : List Nat) : ∀ z ∈ restTexts args ks, PyData.strOk z = true := fun z hz => by
  obtain ⟨k, _, rfl⟩ := List.mem_map.mp hz
  exact ok_arg hok k
theorem lay_strs : ∀ zs : List Str, (∀ z ∈ zs, PyData.strOk z = true) → PyData.canLayAll0 (zs.map PyData.str) = true
  | [], _ => by simp [PyData.canLayAll0]
  | n :: r, h => by simp [PyData.canLayAll0, PyData.canLay0, h n (.head _), lay_strs r fun z hz => h z (.tail _ hz)]
theorem depth_strs : ∀ zs : List Str, PyData.depthAll (zs.map PyData.str) ≤ 1
  | [] => by simp [PyData.depthAll]
  | n :: r => by
    have := depth_strs r
    simp only [List.map_cons, PyData.depthAll, PyData.depth]
    omega
theorem shaped_strs (zs : List Str) (h : ∀ z ∈ zs, PyData.strOk z = true) : shaped (.list (zs.map PyData.str)) = true := by
  have h1 := depth_strs zs
  have h2 : PyData.depth (.list (zs.map PyData.str)) ≤ 64 := by simp only [PyData.depth]; omega
  show (PyData.canLay0 (.list (zs.map PyData.str)) && decide (PyData.depth (.list (zs.map PyData.str)) ≤ 64)) = true
  rw [Bool.and_eq_true]
  exact ⟨by simp only [PyData.canLay0]; exact lay_strs zs h, decide_eq_true h2⟩
section
variable {prog : Program} {w : World} {A : Around} {E : Value → Shared → Prop} {s : Shared}
theorem eq_nil_nil {a b : Addr} {vs : List Value} {Q : Value → Shared → Prop} (hl : s.heap.IsList a vs.toArray) (hv : vs = []) (hl' : s.heap.IsList b ([] : List Value).toArray) (hu : A.units + 64 < cLine)
    (h : Q (.bool true) s) : wpAny (model prog w) A (compareOp .Eq (.ref a) (.ref b)) Q E s := by
  subst hv
  exact eq_intsK hl .nil hl' .nil hu h
theorem ne_texts {a b : Addr} {vs : List Value} {zs : List Str} {Q : Value → Shared → Prop} (hl : s.heap.IsList a vs.toArray) (hz : StrsAre vs zs) (hok : ∀ z ∈ zs, PyData.strOk z = true) (hne : zs ≠ []) (hl' : s.heap.IsList b ([] : List Value).toArray) (hu : A.units + 64 < cLine)
    (h : Q (.bool true) s) : wpAny (model prog w) A (compareOp .NotEq (.ref a) (.ref b)) Q E s := by
  obtain ⟨o, ho, hc, n, hd⟩ := hl
  refine ne_dataH_same (Reads.list ho hc hd (by simpa using readsAll_strs hz)) (reads_of_ints hl' .nil) (shaped_strs zs hok) (shaped_ints []) hu ?_ ?_
  · cases zs with
    | nil => exact absurd rfl hne
    | cons z r => simp [noMix, noMixAll]
  · cases zs with
    | nil => exact absurd rfl hne
    | cons z r =>
      simpa [PySem.Spec.same, PySem.Spec.sameAll] using h
end
section
variable {w : World} {A : Around} {E : Value → Shared → Prop} {s : Shared} {h₀ : Heap} {L : Addr} {m : Str → Option Value} {news : List (Addr × Obj)}
theorem msg_walk {e dx : Addr} {ex od : Obj} {v : Str} {tv : Tok} {xv : Array Value} {expr : Bool} {Q : Value → Shared → Prop} (F : Fr h₀ L s.heap m) (X : (heapK w.params).In h₀) (N : News h₀ L s.heap news) (me : (e, ex) ∈ news) (md : (dx, od) ∈ news)
    (hc : ex.cls = .ref 51) (hdi : ex.dict = some dx) (hdt : ex.data = .fields xv) (hl : lookIn (Str.ofString "message") od = some (some (.str v tv))) (hq : Q (.str v tv) { s with toks := s.toks + 1 }) :
    wpAny (model PySem.Challenge.rw_pq1402_01.row.prog w) A (getAttr (.ref e) (Str.ofString "message") expr) Q E s := by
  obtain ⟨h, g, d, t, os⟩ := s
  exact get51 (X.keeps F.keep) (N _ me).1 hc hdt hdi (N _ md).1 hl rfl hq
theorem eqs_fact {x y : Str} {t u : Tok} {b : Bool} {Q : Value → Shared → Prop} (e : (x == y) = b) (h : Q (.bool b) s) : wpAny (model PySem.Challenge.rw_pq1402_01.row.prog w) A (compareOp .Eq (.str x t) (.str y u)) Q E s := PyProof.Rows.eq_str (by rw [e]; exact h)
end
theorem word_many {ys : List Str} (h : 1 < ys.length) : (unusedText ys == Str.ofString "unused argument" ++ Str.ofString "s" ++ Str.ofString " (" ++ Txt.join (Str.ofString ", ") ys ++ Str.ofString ")") = true := by
  unfold unusedText wordOf
  rw [if_pos h, show Str.ofString "unused argument" ++ Str.ofString "s" = Str.ofString "unused arguments" from by decide +kernel]
  exact beq_self_eq_true _
theorem word_one {ys : List Str} (h : ¬ 1 < ys.length) : (unusedText ys == Str.ofString "unused argument" ++ Str.ofString "" ++ Str.ofString " (" ++ Txt.join (Str.ofString ", ") ys ++ Str.ofString ")") = true := by
  unfold unusedText wordOf
  rw [if_neg h, show Str.ofString "unused argument" ++ Str.ofString "" = Str.ofString "unused argument" from by decide +kernel]
  exact beq_self_eq_true _
theorem small_rest {args : List (Tg × Val)} (hok : ∀ p ∈ args, p.2.Ok) (hk5 : args.length ≤ 5) {ks : List Nat} (hl : ks.length ≤ 5) : Small (restTexts args ks) := ⟨fun y hy => by
    obtain ⟨k, _, rfl⟩ := List.mem_map.mp hy
    exact arg_len hok (by omega) k, by rw [restTexts, List.length_map]; omega⟩
section
variable {M : Model} {A : Around} {E : Value → Shared → Prop} {s : Shared} {h₀ : Heap} {L a : Addr} {m : Str → Option Value} {news : List (Addr × Obj)} {cn : Str} {cs : Scope} {ccd : Value} {cl : List (Str × Addr)}
theorem name_goesX {n : Str} {pos : Pos} {Q : Unit → Shared → Prop} (F : Fr h₀ L s.heap m) (N : News h₀ L s.heap news)
    (h : ∀ h' v, Fr h₀ L h' (fun x => if x = n then v else m x) → News h₀ L h' news → Q () { s with heap := h', toks := s.toks + 1 })
    (hk : cs.kind = .function) (hl : (envX cn cs L a ccd cl).kindOf n = some .local) :
    wpAny M A (do bindName (envX cn cs L a ccd cl) n .none; unbindBehindTheSuite (envX cn cs L a ccd cl) n pos) Q E s :=
  wpAny_nameGoes_keeps hl F.ns (by show (cs.kind == .class || (cs.kind == .module && L != mainGlobals)) = false; rw [hk]; rfl) fun h' v hn hs => h h' v (F.set hn hs) (N.set hs)
end
theorem strs_snoc {vs : List Value} {zs : List Str} {x : Str} {t : Tok} (h : StrsAre vs zs) : StrsAre (vs ++ [.str x t]) (zs ++ [x]) := by
  induction h with
  | nil => exact .cons x t .nil
  | cons y u _ ih => exact .cons y u ih
theorem rest_take {args : List (Tg × Val)} {ks : List Nat} {i k : Nat} (h : ks[i]? = some k) : restTexts args (ks.take (i + 1)) = restTexts args (ks.take i) ++ [argAt args k] := by
  unfold restTexts
  rw [List.take_add_one, h, List.map_append]; rfl
theorem turn_endH {h₀ : Heap} {L r I : Addr} {x : Str} {stored : List Str} {m₀ m' : Str → Option Value} {oI : Obj} {fx news : List (Addr × Obj)} {s₁ : Shared} {args : List (Tg × Val)} {ks : List Nat} {i k n : Nat} {rvs rvs' : List Value} {z : Str} {t : Tok} {h' : Heap} {tk : Nat}
    (F : Fr h₀ L h' m') (N : News h₀ L h' news) (hs : ∀ p ∈ (r, listOf rvs'.toArray n) :: (I, oI) :: fx, p ∈ news) (hv : rvs' = rvs ++ [.str z t]) (hz : z = argAt args k) (hr : StrsAre rvs (restTexts args (ks.take i))) (hk : ks[i]? = some k)
    (hm : ∀ y, y ≠ x → stored.contains y = false → m' y = m₀ y) :
    HEnd h₀ L x stored m₀ (fun o => ∃ (rvs2 : List Value) (n : Nat), o = listOf rvs2.toArray n ∧ StrsAre rvs2 (restTexts args (ks.take (i + 1)))) r I oI fx s₁ { s₁ with heap := h', toks := tk } := by
  subst hv hz
  exact ⟨h', tk, m', _, rfl, F, fun p hp => N p (hs p hp), ⟨_, n, rfl, by rw [rest_take hk]; exact strs_snoc hr⟩, hm⟩
theorem rest_lt {args : List (Tg × Val)} {i k : Nat} (h : (restOf (clsOf args))[i]? = some k) : k < args.length := by
  have hm := List.mem_of_getElem? h
  unfold restOf at hm
  have := List.mem_range.mp (List.mem_filter.mp hm).1
  rwa [List.length_map, tagsOf, List.length_map] at this
theorem argAt_is {args : List (Tg × Val)} {k : Nat} {g : Tg} {d : Val} (h : args[k]? = some (g, d)) : argAt args k = argText k g d := by
  unfold argAt; rw [h]
end
section
open PySem PySem.W PyProof.Rows PySem.Calls


local macro_rules | `(tactic| walk_at "compareOp In str ref") => `(tactic| (k_here; k_dflt (refine' in_pair_nm ?N ?m ?h ?_; (case N => k_asm); (case m => exact List.Mem.head _); (case h => assumption))))
local macro_rules | `(tactic| walk_at "compareOp In str ref") => `(tactic| (k_here; k_dflt (refine' in_tags ?l ?h ?c ?e ?_; (case l => exact News.isList (by k_asm) (List.Mem.head _)); (case h => assumption); (case c => assumption); (case e => assumption))))







local macro_rules | `(tactic| walk_at "exec Assign cons ListComp") => `(tactic| (k_here; lcg_look; k_dflt (refine LCg.Assign_ListComp_U (F₀ := by k_asm) (by rfl) (by with_unfolding_all rfl) (by with_unfolding_all rfl) (by decide) (by rfl) (by decide) (by rfl) (by rfl) (by rfl) ?_)))
local macro_rules | `(tactic| walk_at "exec Assign cons ListComp") => `(tactic| (k_here; lct_look; k_dflt (refine LCt.Assign_ListComp_T (F₀ := by k_asm) (by rfl) (by with_unfolding_all rfl) (by with_unfolding_all rfl) (by decide) (by rfl) (by decide) (by rfl) (by rfl) (by rfl) ?_)))
local macro_rules | `(tactic| walk_at "compareOp NotIn str ref") => `(tactic| (k_here; k_dflt (refine' notin_tags ?l ?h ?c ?e ?_; (case l => exact News.isList (by k_asm) (List.Mem.head _)); (case h => assumption); (case c => assumption); (case e => assumption))))
local macro_rules | `(tactic| walk_at "compareOp Eq ref ref") => `(tactic| (k_here; refine Stop.out ?_))
local macro_rules | `(tactic| walk_at "noteFrame ref") => `(tactic| (k_here; refine Stop.out ?_))
theorem off1_all {D : Addr} : ∀ {l : List (Addr × Obj)}, LCg.Off1 D l → ∀ p ∈ l, p.1 ≠ D
  | [], _, _, hp => nomatch hp
  | q :: r, h, p, hp => by
    rcases List.mem_cons.mp hp with rfl | hp
    · exact h.1
    · exact off1_all h.2 p hp
theorem mem_n9 {α : Type} {x i r a t c q : α} {l : List α} (h : q ∈ r :: a :: t :: c :: i :: l) : q ∈ x :: i :: r :: a :: t :: c :: l := by
  simp only [List.mem_cons] at h ⊢
  rcases h with h | h | h | h | h | h <;> simp [h]
theorem mem_g1 {α : Type} {D E p r a t c i q : α} {l : List α} (h : q ∈ i :: r :: a :: t :: c :: D :: l) : q ∈ D :: E :: p :: r :: a :: t :: c :: i :: l := by
  simp only [List.mem_cons] at h ⊢
  rcases h with h | h | h | h | h | h | h <;> simp [h]
theorem mem_g2 {α : Type} {D E F p r a t c i q : α} {l : List α} (h : q ∈ i :: r :: a :: t :: c :: D :: l) : q ∈ D :: E :: F :: p :: r :: a :: t :: c :: i :: l := by
  simp only [List.mem_cons] at h ⊢
  rcases h with h | h | h | h | h | h | h <;> simp [h]
theorem rest_len {args : List (Tg × Val)} (hk5 : args.length ≤ 5) : (restOf (clsOf args)).length ≤ 5 := by
  unfold restOf
  refine Nat.le_trans (List.length_filter_le ..) ?_
  rw [List.length_range, List.length_map, tagsOf, List.length_map]; exact hk5
local macro_rules | `(tactic| walk_at "compareOp Gt int int") => `(tactic| (k_here; k_dflt (refine' gti_fact ?e ?_; (case e => assumption))))
local macro_rules | `(tactic| walk_at "binaryOp Add str str") => `(tactic| (k_here; refine PyProof.Rows.add_str ?_ ?z; (case z => first | exact catA (by assumption) | exact catB (by assumption) (by assumption) (by assumption) | exact add1 (by decide +kernel) | exact add2 (by decide +kernel) (by assumption) | exact add3 (by decide +kernel) (by assumption) | (rw [PySem.sizeLine_eq]; decide +kernel)); intro _ _))
local macro_rules | `(tactic| walk_at "compareOp NotEq ref ref") => `(tactic| (k_here; k_dflt (refine' ne_texts ?a ?z ?o ?n ?b ?u ?_; (case a => is_list); (case z => assumption); (case o => assumption); (case n => assumption); (case b => is_list); (case u => units_room))))
local macro_rules | `(tactic| walk_at "compareOp Eq str str") => `(tactic| (k_here; k_dflt (refine' eqs_fact ?e ?_; (case e => assumption))))
local macro_rules | `(tactic| walk_at "bind") => `(tactic| (k_here; k_dflt (refine' name_goesX ?F ?N ?_ rfl rfl; (case F => k_asm); (case N => k_asm)); intro h' v' F' N'))
theorem hlaw {args : List (Tg × Val)} (hk5 : args.length ≤ 5) (hv : valid (clsOf args) = true) : (lawN (clsOf args) 2).1 = restOf (clsOf args) := by
  have h := check_all (cs := clsOf args) (by rw [List.length_map, tagsOf, List.length_map]; exact hk5)
  unfold check at h
  rw [hv] at h
  simp only [Bool.not_true, Bool.false_or, Bool.and_eq_true] at h
  exact of_decide_eq_true (by simpa using h.1.1.1.1)
set_option maxRecDepth 100000 in
set_option maxHeartbeats 8000000 in
theorem walk {d : DefRec} {kwd : List (Str × PySem.Expr)} (hd : defOf viewQ (Str.ofString "law") = some (d, kwd)) :
    WalkO viewQ [Str.ofString "match_names", Str.ofString "take"] (XL viewQ []) (kHook heapK asK (fun _ => by kernel_rfl)).says PySem.Challenge.rw_pq1402_01.row.toRowW d kwd (fun f vs => PySem.call f vs) := by
  w_top off
  k_with_none
  (k_with "LeaveK" => (refine' leaveK_ (by k_asm) (by k_asm) ?_; intro _ _; dsimp only))
  (k_with "call builtin:len" => (k_here; k_dflt (refine' len_sym (by first | is_list) (by assumption) (by omega) ?_)))
  (k_with "call builtin:len cons nil" => (k_here; k_dflt (refine' len_sym (by first | is_list) (by assumption) (by omega) ?_)))
  (k_with "compareOp In" => (k_here; k_dflt (refine' in_pair (by k_asm) (by exact List.Mem.head _) (by assumption) (by assumption) ?_)))
  (k_with "compareOp In ref" => (k_here; k_dflt (refine' in_pair (by k_asm) (by exact List.Mem.head _) (by assumption) (by assumption) ?_)))
  (k_with "call builtin:list.append" => (k_here; k_dflt (refine' app_sym (by k_asm) (by k_asm) (by k_updF) (by omega) ?_); intro _ _ _ _ _))
  (k_with "call builtin:list.append cons nil" => (k_here; k_dflt (refine' app_sym (by k_asm) (by k_asm) (by k_updF) (by omega) ?_); intro _ _ _ _ _))
  (k_with "call ref" => (k_here; (with_reducible show wpAny _ _ (call (Value.ref 216) _) _ _ _); k_dflt (change Later _)))
  (k_with "call ref cons nil" => (k_here; (with_reducible show wpAny _ _ (call (Value.ref 216) _) _ _ _); k_dflt (change Later _)))
  (k_with "call ref" => (k_here; (with_reducible show wpAny _ _ (call (Value.ref 209) _) _ _ _); k_dflt (refine' next_walk (by k_asm) (by k_asm) (by k_asm) (by k_asm) (by k_asm) (by k_updF) (by assumption) (by ((try simp only [List.length_dropLast]); omega)) (by exact rfl) (by ktr_room) (by ktr_units) ?_); intro _ _ _ _ _ _ _ _; (try k_fold)))
  (k_with "call ref cons nil" => (k_here; (with_reducible show wpAny _ _ (call (Value.ref 209) _) _ _ _); k_dflt (refine' next_walk (by k_asm) (by k_asm) (by k_asm) (by k_asm) (by k_asm) (by k_updF) (by assumption) (by ((try simp only [List.length_dropLast]); omega)) (by exact rfl) (by ktr_room) (by ktr_units) ?_); intro _ _ _ _ _ _ _ _; (try k_fold)))
  (k_with "call builtin:list.reverse" => (dsimp only; k_here; k_dflt (refine' rev_sym (by k_asm) (by k_asm) (by k_updF) (by omega) ?_); intro _ _ _))
  (k_with "call builtin:list.reverse cons nil" => (dsimp only; k_here; k_dflt (refine' rev_sym (by k_asm) (by k_asm) (by k_updF) (by omega) ?_); intro _ _ _))
  (k_with "subscriptTail" => (k_here; (with_reducible show wpAny _ _ (subscriptTail _ _ (Value.ref _) (Value.int 0 _)) _ _ _); (try ((fail_if_success (with_reducible show wpAny _ _ (subscriptTail (PySem.Expr.Name _ _) _ _ _) _ _ _)); k_dflt (refine kba_turn (value' := PySem.Expr.Name (PySem.Str.ofString "_") ⟨0, 0, 0, 0⟩) (fun _ => rfl) ?_))); k_dflt (refine' tup_first (by assumption) ?_)))
  (k_with "subscriptTail List cons BinOp ref int" => (k_here; (with_reducible show wpAny _ _ (subscriptTail _ _ (Value.ref _) (Value.int 0 _)) _ _ _); (try ((fail_if_success (with_reducible show wpAny _ _ (subscriptTail (PySem.Expr.Name _ _) _ _ _) _ _ _)); k_dflt (refine kba_turn (value' := PySem.Expr.Name (PySem.Str.ofString "_") ⟨0, 0, 0, 0⟩) (fun _ => rfl) ?_))); k_dflt (refine' tup_first (by assumption) ?_)))
  (k_with "CompSrcT" => k_dflt (change Later _))
  (k_with "CompSrcT Compare Name cons ref" => k_dflt (change Later _))
  (k_with "call builtin:len" => (k_here; k_dflt (refine' len_sym (by first | is_list | exact News.isList (by k_asm) (List.Mem.tail _ (List.Mem.head _))) (by assumption) (by omega) ?_)))
  (k_with "call builtin:len cons nil" => (k_here; k_dflt (refine' len_sym (by first | is_list | exact News.isList (by k_asm) (List.Mem.tail _ (List.Mem.head _))) (by assumption) (by omega) ?_)))
  (k_with "subscriptTail" => (k_here; (fail_if_success (with_reducible show wpAny _ _ (subscriptTail _ _ (Value.ref _) (Value.int 0 _)) _ _ _)); k_dflt (refine' item_at (by first | assumption | exact News.isList (by k_asm) (List.Mem.tail _ (List.Mem.tail _ (List.Mem.tail _ (List.Mem.tail _ (List.Mem.tail _ (List.Mem.tail _ (List.Mem.tail _ (List.Mem.tail _ (List.Mem.tail _ (List.Mem.head _))))))))))) (by assumption) (by omega) ?_)))
  (k_with "subscriptTail List cons BinOp ref int" => (k_here; (fail_if_success (with_reducible show wpAny _ _ (subscriptTail _ _ (Value.ref _) (Value.int 0 _)) _ _ _)); k_dflt (refine' item_at (by first | assumption | exact News.isList (by k_asm) (List.Mem.tail _ (List.Mem.tail _ (List.Mem.tail _ (List.Mem.tail _ (List.Mem.tail _ (List.Mem.tail _ (List.Mem.tail _ (List.Mem.tail _ (List.Mem.tail _ (List.Mem.head _))))))))))) (by assumption) (by omega) ?_)))
  (k_with "compareOp NotIn" => (k_here; k_dflt (refine' notin_pair (by k_asm) (by exact List.Mem.head _) (by assumption) (by assumption) ?_)))
  (k_with "compareOp NotIn ref" => (k_here; k_dflt (refine' notin_pair (by k_asm) (by exact List.Mem.head _) (by assumption) (by assumption) ?_)))
  (k_with "call builtin:list.pop" => (k_here; k_dflt (refine' pop_sym (by k_asm) (by k_asm) (by k_updF) (by omega) ?_); intro _ _ _))
  (k_with "call builtin:list.pop cons nil" => (k_here; k_dflt (refine' pop_sym (by k_asm) (by k_asm) (by k_updF) (by omega) ?_); intro _ _ _))
  (k_with "call builtin:list.remove" => (k_here; k_dflt (refine' remove_sym (by k_asm) (by k_asm) (by k_updF) (by assumption) (by assumption) (by omega) ?_); intro _ _ _ _ _))
  (k_with "call builtin:list.remove cons nil" => (k_here; k_dflt (refine' remove_sym (by k_asm) (by k_asm) (by k_updF) (by assumption) (by assumption) (by omega) ?_); intro _ _ _ _ _))
  (k_with "eval ListComp" => (k_here; k_dflt (refine LCg.ListComp_U (F₀ := by k_asm) (by with_unfolding_all rfl) (by decide) (by rfl) (by decide) (by rfl) ?_)))
  (k_with "eval ListComp Subscript cons" => (k_here; k_dflt (refine LCg.ListComp_U (F₀ := by k_asm) (by with_unfolding_all rfl) (by decide) (by rfl) (by decide) (by rfl) ?_)))
  (k_with "CompSrc" => k_dflt (change Later _))
  (k_with "CompSrc IfExp nil ref" => k_dflt (change Later _))
  (k_with "exec For Name Call cons nil" => (k_here; (with_unfolding_all refine' For_invVF (by k_asm) (by exact rfl) (by exact rfl) ?_; k_whole)))
  (k_with "call type:range" => (k_here; k_dflt (refine' range1_rows (by k_asm) (by k_asm) ?_); intro _ _ _ _ _ _ _ _ _))
  (k_with "call type:range cons nil" => (k_here; k_dflt (refine' range1_rows (by k_asm) (by k_asm) ?_); intro _ _ _ _ _ _ _ _ _))
  (k_with "pyIter ref" => k_dflt (change Later _))
  (k_with "exec Try" => (k_here; k_dflt (refine wpAny_Try_except ?_)))
  (k_with "exec Try cons cons nil nil" => (k_here; k_dflt (refine wpAny_Try_except ?_)))
  (k_with "call ref" => (k_here; (with_reducible show wpAny _ _ (call (Value.ref 202) _) _ _ _); k_dflt (refine' take_walk (by k_asm) (by k_asm) (by k_asm) (by k_asm) (by k_asm) (by exact List.Mem.head _) (by exact List.Mem.tail _ (List.Mem.tail _ (List.Mem.tail _ (List.Mem.tail _ (List.Mem.head _))))) (by assumption) (by exact fun _ hq => List.Mem.tail _ (List.Mem.tail _ (List.Mem.tail _ (List.Mem.tail _ (List.Mem.tail _ (List.Mem.tail _ (List.Mem.tail _ hq))))))) (by assumption) (by assumption) (by assumption) (by exact rfl) (by ktr_room) (by ktr_units) ?_ ?_); (first | (intro _ _ _ _ _ _ _ _ _ _) | (intro _ _ _ _ _ _ _))))
  (k_with "call ref cons nil" => (k_here; (with_reducible show wpAny _ _ (call (Value.ref 202) _) _ _ _); k_dflt (refine' take_walk (by k_asm) (by k_asm) (by k_asm) (by k_asm) (by k_asm) (by exact List.Mem.head _) (by exact List.Mem.tail _ (List.Mem.tail _ (List.Mem.tail _ (List.Mem.tail _ (List.Mem.head _))))) (by assumption) (by exact fun _ hq => List.Mem.tail _ (List.Mem.tail _ (List.Mem.tail _ (List.Mem.tail _ (List.Mem.tail _ (List.Mem.tail _ (List.Mem.tail _ hq))))))) (by assumption) (by assumption) (by assumption) (by exact rfl) (by ktr_room) (by ktr_units) ?_ ?_); (first | (intro _ _ _ _ _ _ _ _ _ _) | (intro _ _ _ _ _ _ _))))
  (k_with "call builtin:str.join" => (k_here; k_dflt (refine' join_sym (by is_list) (by assumption) (by assumption) ?_); intro _ _))
  (k_with "call builtin:str.join cons nil" => (k_here; k_dflt (refine' join_sym (by is_list) (by assumption) (by assumption) ?_); intro _ _))
  (k_with "getAttr ref" => (k_here; (with_reducible show wpAny _ _ (getAttr (Value.ref _) (Str.ofString "message") _) _ _ _); k_dflt (refine' msg_walk (by k_asm) (by k_asm) (by k_asm) (by exact List.Mem.tail _ (List.Mem.tail _ (List.Mem.head _))) (by exact List.Mem.tail _ (List.Mem.tail _ (List.Mem.tail _ (List.Mem.head _)))) (by assumption) (by assumption) (by assumption) (by assumption) ?_)))
  (k_with "getAttr ref true" => (k_here; (with_reducible show wpAny _ _ (getAttr (Value.ref _) (Str.ofString "message") _) _ _ _); k_dflt (refine' msg_walk (by k_asm) (by k_asm) (by k_asm) (by exact List.Mem.tail _ (List.Mem.tail _ (List.Mem.head _))) (by exact List.Mem.tail _ (List.Mem.tail _ (List.Mem.tail _ (List.Mem.head _)))) (by assumption) (by assumption) (by assumption) (by assumption) ?_)))
  (k_with "subscriptTail" => (k_here; (with_reducible show wpAny _ _ (subscriptTail _ _ (Value.ref _) (Value.int (Int.fmod _ 6) _)) _ _ _); k_dflt (refine' tag_sub (by k_asm) (by exact List.Mem.head _) ?_ ?_); (first | (intro _ _ _ _) | (intro _ _ _))))
  (k_with "subscriptTail List cons BinOp ref int" => (k_here; (with_reducible show wpAny _ _ (subscriptTail _ _ (Value.ref _) (Value.int (Int.fmod _ 6) _)) _ _ _); k_dflt (refine' tag_sub (by k_asm) (by exact List.Mem.head _) ?_ ?_); (first | (intro _ _ _ _) | (intro _ _ _))))
  have e : defOf viewQ (Str.ofString "law") = some (_, _) := rfl
  obtain ⟨rfl, rfl⟩ := Prod.mk.inj (Option.some.inj (e.symm.trans hd))
  clear e hd
  k_go0
  all_goals try k_fold
  rename_i w s0 s1 mg mb G Y fa o pm doc ho hgens KX X V GL T B TE TW wa wo M wcd wb hcd ns hs hlay0 hL1 hr1 hl2 wc wd l vs we hL ra w1 r0 hI hr hcond hT K0 hDf h1 tk F oc hoc N0 hcells
  obtain ⟨hp1, g1, d1, t1, os1⟩ := s1
  clear G Y ho X V GL B TE TW M hcd hs hlay0 hL1 hr1 hl2 ra w1 r0 hr hDf hcells
  dsimp only at hgens KX T hL K0 F N0 hoc ⊢
  have hvl := hI.length
  have hns : ns.length ≤ 63 := by omega
  k_steps
  rename_i D1 ws h2 F2 N2 hI2 hC2 hL2 l2
  have hwl := hI2.length
  refine LCg.CompSrc.ledger rfl F2 N2 (.head _) (by rw [PySem.sizeLine_eq, List.size_toArray]; omega) ?_
  intro g2
  refine comp_rest (fun _ y => ∃ n t, y = Value.int n t) (Or.inr ⟨_, .head _, rfl, _, rfl⟩) ?cturn ?cfin
  case cturn =>
    intro i v I oI C oC D m₂ ys h tk E' hi hv hC hx F1 N1 off ne
    have hv' : ws[i]? = some v := by simpa using hv
    show (let G := (_ : Prop); G); intro G
    obtain ⟨n, t, rfl, _⟩ := hI2.at i v hv'
    unfold G; clear G
    k_steps
    all_goals exact ⟨_, _, rfl, F1, gsub_refl _ _, _, _, rfl⟩
  case cfin =>
    intro ys hys
    show (let G := (_ : Prop); G); intro G
    obtain ⟨rns, hrn, hrl⟩ := ints_some hys
    rw [List.length_range, List.size_toArray, hwl, hC2] at hrl
    have hrv := IntsAre.reverse hrn
    have hyl : ys.length ≤ 40 := by rw [hrn.length]; omega
    have hrl2 : rns.reverse.length ≤ 40 := by rw [List.length_reverse]; omega
    unfold G; clear G
    k_steps
    rename_i rl h3 tk3 ne2 h4 tk4 al h5 l5 h6 oc2 doc2 tl h7 l7 h8 F8 N8 t9 h9 tk9 rows n9 F9 N9 hI9 h10 tk10 ta tb tc R10 F10 N10 K10
    show (let G := (_ : Prop); G); intro G
    obtain ⟨k, hk, hk6⟩ : ∃ k : Nat, (rns.reverse.getLastD 0).fmod 6 = (k : Int) ∧ k < 6 := by
      have e1 := fmod_lo (rns.reverse.getLastD 0) (n := 6) (by decide)
      have e2 := fmod_hi (rns.reverse.getLastD 0) (n := 6) (by decide)
      exact ⟨((rns.reverse.getLastD 0).fmod 6).toNat, by omega, by omega⟩
    rw [hk] at R10
    have jm : JMg [Str.ofString "tag", Str.ofString "value", Str.ofString "shown"] (LapJ w.params rl al tl (hp1.objs.size + 1) oc2) := ⟨⟩
    unfold G; clear G
    refine for_range_grow jm rfl R10 (by omega) F10 N10 ?_
    have hal : rl < al := l5.1
    have hr9 : rns.reverse.dropLast.length ≤ 40 := by rw [List.length_dropLast]; omega
    refine ⟨[(rl, listOf rows.toArray n9), (al, listOf ([] : List Value).toArray 0), (tl, listOf ([] : List Value).toArray 0), (hp1.objs.size + 1, oc2)], ?sub, ⟨rows, _, n9, [], 0, [], 0, [], [], rfl, hI9, hr9, (fun _ h => nomatch h), fun h _ => .nil, ⟨rfl, fun i g d e => by cases e⟩, rfl, (fun _ h => nomatch h), by decide⟩, ?turn, ?done⟩
    case sub =>
      intro p hp
      simp only [List.mem_cons, List.not_mem_nil, or_false] at hp ⊢
      rcases hp with rfl | rfl | rfl | rfl <;> simp
    case turn =>
      intro i t u nx h tk I oI hi hnI hQ1 F1 N1
      show (let G := (_ : Prop); G); intro G
      obtain ⟨rvs, rns2, n1, avs, n2, xvs, n3, fz, args, rfl, hIr, hrl3, hfz, hS, hTx, hlen, hok, hv⟩ := hQ1
      have hne1 : al ≠ rl := Nat.ne_of_gt l5.1
      have hne2 : tl ≠ rl := Nat.ne_of_gt l7.2.1
      have hne3 : hp1.objs.size + 1 ≠ rl := ne2.2
      have hne4 : tl ≠ al := Nat.ne_of_gt l7.1
      have hne5 : hp1.objs.size + 1 ≠ al := Nat.ne_of_lt l5.2.2
      have hne6 : hp1.objs.size + 1 ≠ tl := Nat.ne_of_lt l7.2.2.2
      have hI1 : I ≠ rl := fun q => hnI _ (.head _) q.symm
      have hI2 : I ≠ al := fun q => hnI _ (.tail _ (.head _)) q.symm
      have hI3 : I ≠ tl := fun q => hnI _ (.tail _ (.tail _ (.head _))) q.symm
      have hI4 : I ≠ hp1.objs.size + 1 := fun q => hnI _ (.tail _ (.tail _ (.tail _ (.head _)))) q.symm
      have hfI : ∀ q ∈ fz, q.1 ≠ I := fun q hq => hnI q (.tail _ (.tail _ (.tail _ (.tail _ hq))))
      have hz1 : ∀ q ∈ fz, q.1 ≠ rl := fun q hq => (hfz q hq).1
      have hz2 : ∀ q ∈ fz, q.1 ≠ al := fun q hq => (hfz q hq).2.1
      have hz3 : ∀ q ∈ fz, q.1 ≠ tl := fun q hq => (hfz q hq).2.2.1
      have hz4 : ∀ q ∈ fz, q.1 ≠ hp1.objs.size + 1 := fun q hq => (hfz q hq).2.2.2
      have hi1 := hne1.symm
      have hi2 := hne2.symm
      have hi3 := hne3.symm
      have hi4 := hne4.symm
      have hi5 := hne5.symm
      have hi6 := hne6.symm
      have hav : avs.length < 1000 := by
        have := (hS h fun q hq => (N1 q (.tail _ (.tail _ (.tail _ (.tail _ (.tail _ hq)))))).1).len
        omega
      have hlA : avs.length = args.length := (hS h fun q hq => (N1 q (.tail _ (.tail _ (.tail _ (.tail _ (.tail _ hq)))))).1).len
      have hxv : xvs.length < 1000 := by
        have := hTx.1
        omega
      have hr3 : rns2.dropLast.dropLast.dropLast.length ≤ 40 := by rw [List.length_dropLast, List.length_dropLast, List.length_dropLast]; omega
      clear N9 N8 F8 F9 N10 F10 jm
      unfold G; clear G
      k_steps
      · rename_i t3 hA tkA rows3 n3' hR3 g v hgn hgt hB FB NB
        have N9 : News hp1 hp1.objs.size hB ((rl, listOf rows3.toArray n3') :: (al, listOf avs.toArray n2) :: (tl, listOf xvs.toArray n3) :: (hp1.objs.size + 1, oc2) :: (I, oI) :: fz) := fun p hp => NB p (mem_n9 hp)
        clear NB
        refine value_walk K0 FB KX T N9 hR3 (by rw [List.length_dropLast]; omega) hfz hfI ⟨hne1, hne2, hne3, hI1⟩ rfl (by ktr_room) (by ktr_units) ?_
        intro p np v2 tv d h5 tk5 rows5 n5 fz5 F5 N5 hI5 hsub hS5 hok5 htx5 hfz5 hfI5 hpn
        clear N9 hfz hfI hz1 hz2 hz3 hz4
        show (let G := (_ : Prop); G); intro G
        obtain ⟨⟨hp1', hp2', hp3', hp4'⟩, hp5'⟩ := hpn
        have hz1 : ∀ q ∈ fz5, q.1 ≠ rl := fun q hq => (hfz5 q hq).1
        have hz2 : ∀ q ∈ fz5, q.1 ≠ al := fun q hq => (hfz5 q hq).2.1
        have hz3 : ∀ q ∈ fz5, q.1 ≠ tl := fun q hq => (hfz5 q hq).2.2.1
        have hz4 : ∀ q ∈ fz5, q.1 ≠ hp1.objs.size + 1 := fun q hq => (hfz5 q hq).2.2.2
        unfold G; clear G
        k_steps
        rename_i D hD1 FD ND lD hE vs1 hvs1 FE NE tkE hG vs2 hvs2 FG NG
        refine lap_fin (D := D) (n5 := n5) (na := n2 + 1) (nt := n3 + 1) (nD := 0) hS hTx hlen hok hgt (valid_no hv hgn) hI5 hr3 hsub hS5 hok5 htx5 hfz5 hfI5 ⟨⟨Nat.ne_of_gt lD.2.2.1, Nat.ne_of_gt lD.2.2.2.1, Nat.ne_of_gt lD.2.2.2.2.1, Nat.ne_of_gt lD.2.2.2.2.2.1⟩, Nat.ne_of_gt lD.2.2.2.2.2.2.1⟩ ⟨hI1, hI2, hI3, hI4⟩ hvs1 hvs2 FG (fun q hq => NG q (mem_g1 hq)) ?_
        · intro y h1 h2
          have a1 : y ≠ Str.ofString "tag" := by rintro rfl; exact absurd h2 (by decide +kernel)
          have a2 : y ≠ Str.ofString "value" := by rintro rfl; exact absurd h2 (by decide +kernel)
          have a3 : y ≠ Str.ofString "shown" := by rintro rfl; exact absurd h2 (by decide +kernel)
          simp only [if_neg a1, if_neg a2, if_neg a3, if_neg h1, h2, Bool.false_eq_true, if_false]
      · rename_i t3 hA tkA rows3 n3' hR3 c u2 hcm hB FB NB
        have N9 : News hp1 hp1.objs.size hB ((rl, listOf rows3.toArray n3') :: (al, listOf avs.toArray n2) :: (tl, listOf xvs.toArray n3) :: (hp1.objs.size + 1, oc2) :: (I, oI) :: fz) := fun p hp => NB p (mem_n9 hp)
        clear NB
        refine value_walk K0 FB KX T N9 hR3 (by rw [List.length_dropLast]; omega) hfz hfI ⟨hne1, hne2, hne3, hI1⟩ rfl (by ktr_room) (by ktr_units) ?_
        intro p np v2 tv d h5 tk5 rows5 n5 fz5 F5 N5 hI5 hsub hS5 hok5 htx5 hfz5 hfI5 hpn
        clear N9 hfz hfI hz1 hz2 hz3 hz4
        show (let G := (_ : Prop); G); intro G
        obtain ⟨⟨hp1', hp2', hp3', hp4'⟩, hp5'⟩ := hpn
        have hz1 : ∀ q ∈ fz5, q.1 ≠ rl := fun q hq => (hfz5 q hq).1
        have hz2 : ∀ q ∈ fz5, q.1 ≠ al := fun q hq => (hfz5 q hq).2.1
        have hz3 : ∀ q ∈ fz5, q.1 ≠ tl := fun q hq => (hfz5 q hq).2.2.1
        have hz4 : ∀ q ∈ fz5, q.1 ≠ hp1.objs.size + 1 := fun q hq => (hfz5 q hq).2.2.2
        unfold G; clear G
        k_steps
        rename_i tn D3 h6 F6 N6 l6
        refine LCg.CompSrc.ledger rfl F6 N6 (.tail _ (.tail _ (.tail _ (.head _)))) (by rw [PySem.sizeLine_eq, List.size_toArray]; omega) ?_
        intro g7
        refine comp_rest (fun i y => ∃ g, (tagsOf args)[i]? = some g ∧ OptTxt g.txt y) (Or.inr ⟨_, .tail _ (.tail _ (.tail _ (.head _))), rfl, _, rfl⟩) ?_ ?_
        · intro i' v I' oI' C oC D' m₂ ys h7 tk7 E' hi' hv7 hC hx F7 N7 off ne
          rw [List.size_toArray] at hi'
          show (let G := (_ : Prop); G); intro G
          obtain ⟨g, d', hgd⟩ : ∃ g d', args[i']? = some (g, d') := ⟨_, _, List.getElem?_eq_getElem (by omega)⟩
          have ha7 := hS h7 fun q hq => (N7 q (.tail _ (.tail _ (.tail _ (.tail _ (.tail _ (.tail _ (.tail _ (.tail _ (.tail _ (.tail _ (hsub q hq)))))))))))).1
          obtain ⟨v', e1, t, tv', xx, rfl, htup, hgt, _⟩ := ha7.get hgd
          have e2 : v = .ref t := by
            have : avs[i']? = some v := by simpa using hv7
            rw [e1] at this; exact (Option.some.inj this).symm
          subst e2
          obtain ⟨nt, htup, _⟩ := htup
          replace htup := tup_base htup
          unfold G; clear G
          k_steps
          exact ⟨_, _, rfl, F7, gsub_refl _ _, g, by unfold tagsOf; rw [List.getElem?_map, hgd]; rfl, hgt⟩
        · intro tvs hys
          rw [List.size_toArray, hlA] at hys
          have hta : TagsAre tvs (tagsOf args) := tagsAre_of (by rw [tagsOf, List.length_map]; exact hys)
          cases hcc : (clsOf args).contains c with
          | false =>
            have hcc2 : ((tagsOf args).map Tg.cl).contains c = false := hcc
            k_steps
            rename_i D hD1 FD ND lD hE vs1 hvs1 FE NE tkE hG vs2 hvs2 FG NG
            refine lap_fin (D := D) (n5 := n5) (na := n2 + 1) (nt := n3 + 1) (nD := 0) hS hTx hlen hok (show OptTxt (nmTg c).txt (.str (keyOf c) u2) from by rw [(nmTg_ok hcm).2]; exact ⟨u2, rfl⟩) (by rw [(nmTg_ok hcm).1]; exact valid_nm hv hcc) hI5 hr3 hsub hS5 hok5 htx5 hfz5 hfI5 ⟨⟨Nat.ne_of_gt lD.2.2.2.1, Nat.ne_of_gt lD.2.2.2.2.1, Nat.ne_of_gt lD.2.2.2.2.2.1, Nat.ne_of_gt lD.2.2.2.2.2.2.1⟩, Nat.ne_of_gt lD.2.2.2.2.2.2.2.1⟩ ⟨hI1, hI2, hI3, hI4⟩ hvs1 hvs2 FG (fun q hq => NG q (mem_g2 hq)) ?_
            · intro y h1 h2
              have a1 : y ≠ Str.ofString "tag" := by rintro rfl; exact absurd h2 (by decide +kernel)
              have a2 : y ≠ Str.ofString "value" := by rintro rfl; exact absurd h2 (by decide +kernel)
              have a3 : y ≠ Str.ofString "shown" := by rintro rfl; exact absurd h2 (by decide +kernel)
              simp only [if_neg a1, if_neg a2, if_neg a3, if_neg h1, h2, Bool.false_eq_true, if_false]
          | true =>
            have hcc2 : ((tagsOf args).map Tg.cl).contains c = true := hcc
            k_steps
            rename_i D hD1 FD ND lD hE vs1 hvs1 FE NE tkE hG vs2 hvs2 FG NG
            refine lap_fin (D := D) (n5 := n5) (na := n2 + 1) (nt := n3 + 1) (nD := 0) hS hTx hlen hok (show OptTxt Tg.no.txt .none from rfl) (valid_no hv rfl) hI5 hr3 hsub hS5 hok5 htx5 hfz5 hfI5 ⟨⟨Nat.ne_of_gt lD.2.2.2.1, Nat.ne_of_gt lD.2.2.2.2.1, Nat.ne_of_gt lD.2.2.2.2.2.1, Nat.ne_of_gt lD.2.2.2.2.2.2.1⟩, Nat.ne_of_gt lD.2.2.2.2.2.2.2.1⟩ ⟨hI1, hI2, hI3, hI4⟩ hvs1 hvs2 FG (fun q hq => NG q (mem_g2 hq)) ?_
            · intro y h1 h2
              have a1 : y ≠ Str.ofString "tag" := by rintro rfl; exact absurd h2 (by decide +kernel)
              have a2 : y ≠ Str.ofString "value" := by rintro rfl; exact absurd h2 (by decide +kernel)
              have a3 : y ≠ Str.ofString "shown" := by rintro rfl; exact absurd h2 (by decide +kernel)
              simp only [if_neg a1, if_neg a2, if_neg a3, if_neg h1, h2, Bool.false_eq_true, if_false]
    case done =>
      intro u nx h tk hQ2 F1 N1
      show (let G := (_ : Prop); G); intro G
      obtain ⟨rvs, rns2, n1, avs, n2, xvs, n3, fz, args, rfl, hIr, hrl3, hfz, hS, hTx, hlen, hok, hv⟩ := hQ2
      have hk5 : args.length ≤ 5 := by omega
      have hlA : avs.length = args.length := (hS h fun q hq => (N1 q (.tail _ (.tail _ (.tail _ (.tail _ hq))))).1).len
      unfold G; clear G
      dsimp only
      k_steps
      rename_i h3 tk3 ta tb tc R3 F3 N3 K3
      refine LCt.CompSrcT.range rfl F3 N3 R3 (range_small (by omega)) (range_size _) (by rw [PySem.sizeLine_eq]; omega) ?_
      intro g3
      refine comp_restTN (fun i => !isNm ((clsOf args).getD i .ot)) NatAt trivial ?lturn ?litem ?lfin
      case lturn =>
        intro i v I oI C oC D m₂ ys h7 tk7 E' hi hQ3 hC hx F7 N7 off ne
        show (let G := (_ : Prop); G); intro G
        obtain ⟨t, rfl⟩ := hQ3
        rw [Int.zero_add] at *
        obtain ⟨g, d, hgd⟩ : ∃ g d, args[i]? = some (g, d) := ⟨_, _, List.getElem?_eq_getElem hi⟩
        have ha7 := hS h7 fun q hq => (N7 q (.tail _ (.tail _ (.tail _ (.tail _ (.tail _ (.tail _ (.tail _ hq)))))))).1
        obtain ⟨v', e1, t2, tv, xx, rfl, htup, hgt, _⟩ := ha7.get hgd
        obtain ⟨nt, htup, _⟩ := htup
        replace htup := tup_base htup
        have hlst := lst_base (N7 _ (.tail _ (.tail _ (.tail _ (.tail _ (.head _)))))).1
        have hcg : (clsOf args).getD i .ot = g.cl := getD_cl (by rw [tagsOf, List.getElem?_map, hgd]; rfl)
        unfold G; clear G
        cases hnm : isNm g.cl with
        | true =>
          k_steps
          rename_i D9 h9 F9 N9 l9
          exact ⟨_, _, rfl, F9, fun q hq => N9 q (.tail _ hq), by rw [hcg, hnm]⟩
        | false =>
          k_steps
          rename_i D9 h9 F9 N9 l9
          exact ⟨_, _, rfl, F9, fun q hq => N9 q (.tail _ hq), by rw [hcg, hnm]⟩
      case litem =>
        rintro i v I oI C oC D m₂ ys h7 tk7 E' hi ⟨t, rfl⟩ hbi hC hx F7 N7 off ne
        rw [Int.zero_add] at *
        k_steps
        exact ⟨_, _, rfl, F7, N7, t, rfl⟩
      case lfin =>
        intro lvs hlv
        k_steps
        rename_i ll h4 tk4 F4 N4 o4
        rw [show (List.range args.length).filter (fun i => !isNm ((clsOf args).getD i .ot)) = lft (clsOf args) from by unfold lft; rw [show (clsOf args).length = args.length from by rw [List.length_map, tagsOf, List.length_map]]] at hlv
        have hll := hlv.len
        have hlb : (lft (clsOf args)).length ≤ 5 := by
          unfold lft
          refine Nat.le_trans (List.length_filter_le ..) ?_
          rw [List.length_range, List.length_map, tagsOf, List.length_map]; exact hk5
        refine LCt.CompSrcT.ledger rfl F4 N4 (.head _) (by rw [PySem.sizeLine_eq, List.size_toArray]; omega) ?_
        intro g5
        refine comp_restTN (fun i => (clsOf args).getD ((lft (clsOf args)).getD i 0) .ot == .no) (fun i y => NatAt ((lft (clsOf args)).getD i 0) y) (Or.inr ⟨_, .head _, rfl, _, rfl⟩) ?fturn ?fitem ?ffin
        case fturn =>
          intro i v I oI C oC D m₂ ys h7 tk7 E' hi hv7 hC hx F7 N7 off ne
          rw [List.size_toArray] at hi
          show (let G := (_ : Prop); G); intro G
          obtain ⟨kk, hkk⟩ : ∃ kk, (lft (clsOf args))[i]? = some kk := ⟨_, List.getElem?_eq_getElem (by omega)⟩
          have hkd : (lft (clsOf args)).getD i 0 = kk := by rw [List.getD_eq_getElem?_getD, hkk]; rfl
          have hkl : kk < args.length := by
            have := List.mem_range.mp (List.mem_filter.mp (List.mem_of_getElem? hkk)).1
            rwa [List.length_map, tagsOf, List.length_map] at this
          obtain ⟨y, ey, t, rfl⟩ := hlv.get hkk
          have e0 : v = .int (kk : Int) t := by
            have : lvs[i]? = some v := by simpa using hv7
            rw [ey] at this; exact (Option.some.inj this).symm
          subst e0
          obtain ⟨g, d, hgd⟩ : ∃ g d, args[kk]? = some (g, d) := ⟨_, _, List.getElem?_eq_getElem hkl⟩
          have ha7 := hS h7 fun q hq => (N7 q (.tail _ (.tail _ (.tail _ (.tail _ (.tail _ (.tail _ (.tail _ (.tail _ hq))))))))).1
          obtain ⟨v', e1, t2, tv, xx, rfl, htup, hgt, _⟩ := ha7.get hgd
          obtain ⟨nt, htup, _⟩ := htup
          replace htup := tup_base htup
          have hlst := lst_base (N7 _ (.tail _ (.tail _ (.tail _ (.tail _ (.tail _ (.head _))))))).1
          have hcg : (clsOf args).getD kk .ot = g.cl := getD_cl (by rw [tagsOf, List.getElem?_map, hgd]; rfl)
          unfold G; clear G
          cases g with
          | no =>
            obtain rfl : tv = .none := hgt
            k_steps
            exact ⟨_, _, rfl, F7, N7, by rw [hkd, hcg]; rfl⟩
          | _ =>
            obtain ⟨tt, rfl⟩ := hgt
            k_steps
            exact ⟨_, _, rfl, F7, N7, by rw [hkd, hcg]; rfl⟩
        case fitem =>
          intro i v I oI C oC D m₂ ys h7 tk7 E' hi hv7 hbi hC hx F7 N7 off ne
          rw [List.size_toArray] at hi
          show (let G := (_ : Prop); G); intro G
          obtain ⟨kk, hkk⟩ : ∃ kk, (lft (clsOf args))[i]? = some kk := ⟨_, List.getElem?_eq_getElem (by omega)⟩
          have hkd : (lft (clsOf args)).getD i 0 = kk := by rw [List.getD_eq_getElem?_getD, hkk]; rfl
          obtain ⟨y, ey, t, rfl⟩ := hlv.get hkk
          have e0 : v = .int (kk : Int) t := by
            have : lvs[i]? = some v := by simpa using hv7
            rw [ey] at this; exact (Option.some.inj this).symm
          subst e0
          unfold G; clear G
          k_steps
          exact ⟨_, _, rfl, F7, N7, by rw [hkd]; exact ⟨t, rfl⟩⟩
        case ffin =>
          intro fvs hfv
          rw [List.size_toArray, hll] at hfv
          have hfr := fre_of hfv
          have hfl := hfr.len
          have hfb : (fre (clsOf args)).length ≤ 5 := Nat.le_trans (List.length_filter_le ..) hlb
          k_steps
          rename_i fl h6 tk6 o6 nl h8 F8 N8 l8
          have jm : JMk [] (fun i nx => ∃ (lv fv : List Value) (na nb : Nat), nx = (ll, listOf lv.toArray na) :: (fl, listOf fv.toArray nb) :: (rl, listOf rvs.toArray n1) :: (al, listOf avs.toArray n2) :: (tl, listOf xvs.toArray n3) :: (hp1.objs.size + 1, oc2) :: fz ∧ Are NatAt lv (lawN (clsOf args) i).1 ∧ Are NatAt fv (lawN (clsOf args) i).2) := ⟨⟩
          refine for_list_led jm rfl F8 N8 (.head _) ?_
          refine ⟨(ll, LCg.lst lvs) :: (fl, LCg.lst fvs) :: (rl, listOf rvs.toArray n1) :: (al, listOf avs.toArray n2) :: (tl, listOf xvs.toArray n3) :: (hp1.objs.size + 1, oc2) :: fz, ?nsub, ?nne, ⟨lvs, fvs, _, _, rfl, hlv, hfr⟩, ?nturn, ?ndone⟩
          case nsub =>
            intro p hp
            rcases List.mem_cons.mp hp with rfl | hp
            · exact .tail _ (.tail _ (.head _))
            rcases List.mem_cons.mp hp with rfl | hp
            · exact .tail _ (.head _)
            · exact .tail _ (.tail _ (.tail _ hp))
          case nne =>
            have q : ∀ p ∈ (fl, LCg.lst fvs) :: (ll, LCg.lst lvs) :: (rl, listOf rvs.toArray n1) :: (al, listOf avs.toArray n2) :: (tl, listOf xvs.toArray n3) :: (hp1.objs.size + 1, oc2) :: fz, p.1 ≠ nl := fun p hp => (fun z => allLt_ne z p hp : AllLt nl _ → p.1 ≠ nl) l8
            intro p hp
            rcases List.mem_cons.mp hp with rfl | hp
            · exact q _ (.tail _ (.head _))
            rcases List.mem_cons.mp hp with rfl | hp
            · exact q _ (.head _)
            · exact q _ (.tail _ (.tail _ hp))
          case nturn =>
            intro i v u2 nx h9 tk9 own hi ho ha hQ4 F9 N9
            show (let G := (_ : Prop); G); intro G
            obtain ⟨lv, fv, na, nb, rfl, hlv2, hfv2⟩ := hQ4
            obtain ⟨c, t, hc, rfl⟩ : ∃ c t, cnames[i]? = some c ∧ v = .str (keyOf c) t := by
              have h2 : i < 2 := (List.getElem?_eq_some_iff.mp hi).1
              rcases (show i = 0 ∨ i = 1 by omega) with rfl | rfl
              · exact ⟨.x, _, rfl, (Option.some.inj hi).symm⟩
              · exact ⟨.nm, _, rfl, (Option.some.inj hi).symm⟩
            have hcm := (cnames_nm hc).1
            have hoL : ∀ p ∈ fz ++ own, p.1 ≠ ll := fun p hp => (List.mem_append.mp hp).elim (fun z => off1_all o4.2.2.2.2 p z) (fun z => ho p z ll (.head _))
            have hoF : ∀ p ∈ fz ++ own, p.1 ≠ fl := fun p hp => (List.mem_append.mp hp).elim (fun z => off1_all o6.2.2.2.2.2 p z) (fun z => ho p z fl (.tail _ (.head _)))
            have e01 : ll ≠ fl := o6.1
            have e02 : fl ≠ ll := o6.1.symm
            have e03 : rl ≠ fl := o6.2.1
            have e04 : al ≠ fl := o6.2.2.1
            have e05 : tl ≠ fl := o6.2.2.2.1
            have e06 : hp1.objs.size + 1 ≠ fl := o6.2.2.2.2.1
            have e07 : rl ≠ ll := o4.1
            have e08 : al ≠ ll := o4.2.1
            have e09 : tl ≠ ll := o4.2.2.1
            have e10 : hp1.objs.size + 1 ≠ ll := o4.2.2.2.1
            have hlvz : lv.length < 1000 := by
              have := (lawN_len (cs := clsOf args) (i := i) (by have := (cnames_nm hc).2; omega)).1
              rw [List.length_map, tagsOf, List.length_map] at this
              rw [hlv2.len]; omega
            have hfvz : fv.length < 1000 := by
              have := (lawN_len (cs := clsOf args) (i := i) (by have := (cnames_nm hc).2; omega)).2
              rw [List.length_map, tagsOf, List.length_map] at this
              rw [hfv2.len]; omega
            have hls := lawN_succ (cs := clsOf args) hc
            dsimp only [List.cons_append, List.nil_append] at N9
            unfold G; clear G
            k_steps
            refine LCg.CompSrc.ledger rfl F9 N9 (.tail _ (.tail _ (.tail _ (.head _)))) (by rw [PySem.sizeLine_eq, List.size_toArray]; omega) ?_
            intro g7
            refine comp_rest (fun i y => ∃ g, (tagsOf args)[i]? = some g ∧ OptTxt g.txt y) (Or.inr ⟨_, .tail _ (.tail _ (.tail _ (.head _))), rfl, _, rfl⟩) ?_ ?_
            · intro i' v I' oI' C oC D' m₂ ys h7 tk7 E' hi' hv7 hC hx F7 N7 off ne
              rw [List.size_toArray] at hi'
              show (let G := (_ : Prop); G); intro G
              obtain ⟨g, d', hgd⟩ : ∃ g d', args[i']? = some (g, d') := ⟨_, _, List.getElem?_eq_getElem (by omega)⟩
              have ha7 := hS h7 fun q hq => (N7 q (.tail _ (.tail _ (.tail _ (.tail _ (.tail _ (.tail _ (.tail _ (.tail _ (.tail _ (List.mem_append_left _ hq)))))))))) ).1
              obtain ⟨v', e1, t3, tv', xx, rfl, htup, hgt, _⟩ := ha7.get hgd
              have e2 : v = .ref t3 := by
                have : avs[i']? = some v := by simpa using hv7
                rw [e1] at this; exact (Option.some.inj this).symm
              subst e2
              obtain ⟨nt, htup, _⟩ := htup
              replace htup := tup_base htup
              unfold G; clear G
              k_steps
              exact ⟨_, _, rfl, F7, gsub_refl _ _, g, by unfold tagsOf; rw [List.getElem?_map, hgd]; rfl, hgt⟩
            · intro tvs hys
              rw [List.size_toArray, hlA] at hys
              have hta : TagsAre tvs (tagsOf args) := tagsAre_of (by rw [tagsOf, List.length_map]; exact hys)
              cases hcc : (clsOf args).contains c with
              | true =>
                have hcc2 : ((tagsOf args).map Tg.cl).contains c = true := hcc
                k_steps
                rename_i D5 h10 tk10 F10 N10 o10
                exact turn_endN (nx := (ll, listOf lv.toArray na) :: (fl, listOf fv.toArray nb) :: (rl, listOf rvs.toArray n1) :: (al, listOf avs.toArray n2) :: (tl, listOf xvs.toArray n3) :: (hp1.objs.size + 1, oc2) :: fz) F10 N10 ⟨lv, fv, na, nb, rfl, by rw [hls, lawStep_a hcc]; exact hlv2, by rw [hls, lawStep_a hcc]; exact hfv2⟩ ha (fun p hp => .tail _ hp) (fun y h1 _ => if_neg h1)
              | false =>
                have hcc2 : ((tagsOf args).map Tg.cl).contains c = false := hcc
                cases hq2 : (lawN (clsOf args) i).2 with
                | nil =>
                  rw [hq2] at hfv2
                  have hfi : IntsAre fv [] := by cases hfv2; exact .nil
                  have hq3 : lawN (clsOf args) i = ((lawN (clsOf args) i).1, []) := by rw [← hq2]
                  k_steps
                  rename_i D5 h10 tk10 o10 n11 h11 F11 N11 l11
                  exact turn_endN (nx := (ll, listOf lv.toArray na) :: (fl, listOf fv.toArray nb) :: (rl, listOf rvs.toArray n1) :: (al, listOf avs.toArray n2) :: (tl, listOf xvs.toArray n3) :: (hp1.objs.size + 1, oc2) :: fz) F11 N11 ⟨lv, fv, na, nb, rfl, by rw [hls, hq3, lawStep_b]; exact hlv2, by rw [hls, hq3, lawStep_b]; exact hfv2⟩ ha (fun p hp => .tail _ (.tail _ hp)) (fun y h1 _ => if_neg h1)
                | cons k0 ks0 =>
                  rw [hq2] at hfv2
                  show (let G := (_ : Prop); G); intro G
                  obtain ⟨v0, fv', rfl, ⟨t0, rfl⟩, hfv3⟩ : ∃ v0 fv', fv = v0 :: fv' ∧ NatAt k0 v0 ∧ Are NatAt fv' ks0 := by
                    cases hfv2 with
                    | cons x y => exact ⟨_, _, rfl, x, y⟩
                  have hfvz' : fv'.length < 1000 := by rw [List.length_cons] at hfvz; omega
                  have hfi := ints_of_nats hfv2
                  have hmm := law_mem (by rw [List.length_map, tagsOf, List.length_map]; exact hk5) hv hc hcc hq2
                  have hq3 : lawN (clsOf args) i = ((lawN (clsOf args) i).1, k0 :: ks0) := by rw [← hq2]
                  unfold G; clear G
                  k_steps
                  rename_i D5 hq1 tkq oq nq1 hq4 Fq1 Nq1 lq aq hq5 Fq2 Nq2 hq6 vs5 hvs5 F11 N11
                  exact turn_endN (nx := (ll, listOf vs5.toArray (na + 1)) :: (fl, listOf fv'.toArray (nb + 1)) :: (rl, listOf rvs.toArray n1) :: (al, listOf avs.toArray n2) :: (tl, listOf xvs.toArray n3) :: (hp1.objs.size + 1, oc2) :: fz) F11 N11 ⟨vs5, fv', na + 1, nb + 1, rfl, by rw [hls, hq3, lawStep_c hcc]; exact hvs5, by rw [hls, hq3, lawStep_c hcc]; exact hfv3⟩ ha (fun p hp => .tail _ (.tail _ hp)) (fun y h1 _ => if_neg h1)
          case ndone =>
            intro u2 nx h9 tk9 hQ5 F9 N9
            show (let G := (_ : Prop); G); intro G
            obtain ⟨lv, fv, na, nb, rfl, hlv2, hfv2⟩ := hQ5
            have hnil : restOf (clsOf args) = [] → lv = [] := fun q => by
              have h1 := hlv2.len
              have h2 := hlaw hk5 hv
              rw [show ([Value.str (Str.ofString "x") tk6, Value.str (Str.ofString "name") (tk6 + 1)] : List Value).length = 2 from rfl, h2, q] at h1
              exact List.eq_nil_of_length_eq_zero h1
            unfold G; clear G
            k_steps
            · refine ⟨eq_nil_nil (by is_list) (hnil (by assumption)) (by is_list) (by units_room) ?_⟩
              k_steps
            · rename_i nl2 hA FA NA lA e dx tt hB tkB hrB GB
              refine ⟨caught51 K0 FA NA GB KX T ?_ rfl rfl rfl⟩
              intro hC tkC ex od xv FC NC hx1 hx2 hx3 hx4 hx5 hne
              clear GB FA NA
              k_steps
              rename_i rw hD lD hE FE NE
              have hks := hlaw hk5 hv
              have hll2 : ([Value.str (Str.ofString "x") tk6, Value.str (Str.ofString "name") (tk6 + 1)] : List Value).length = 2 := rfl
              rw [hll2, hks] at hlv2
              have jm2 : JMh rw [Str.ofString "tag", Str.ofString "shown"] (fun i o => ∃ (rvs2 : List Value) (n : Nat), o = listOf rvs2.toArray n ∧ StrsAre rvs2 (restTexts args ((restOf (clsOf args)).take i))) := ⟨⟩
              refine for_list_h jm2 (l := ll) (e := e) rfl FE NE (.tail _ (.tail _ (.tail _ (.head _)))) (.head _) hx3 hx4 (fun p hp => (fun z => allLt_ne z p hp : AllLt rw _ → p.1 ≠ rw) lD) ?_
              refine ⟨⟨[], 0, rfl, .nil⟩, ?hturn, ?hdone⟩
              case hturn =>
                intro i v u3 o hG tkG I oI hvi hQ6 hIr2 hIf FG NG
                show (let G := (_ : Prop); G); intro G
                obtain ⟨rvs2, n, rfl, hrv⟩ := hQ6
                have hi : i < lv.length := (List.getElem?_eq_some_iff.mp hvi).1
                have hlen3 := hlv2.len
                have hrl5 : (restOf (clsOf args)).length ≤ 5 := rest_len hk5
                obtain ⟨k0, hk0⟩ : ∃ k0, (restOf (clsOf args))[i]? = some k0 := ⟨_, List.getElem?_eq_getElem (by omega)⟩
                obtain ⟨y, ey, tk0, rfl⟩ := hlv2.get hk0
                obtain rfl : v = .int (k0 : Int) tk0 := by rw [ey] at hvi; exact (Option.some.inj hvi).symm
                have hka := rest_lt hk0
                obtain ⟨g, d, hgd⟩ : ∃ g d, args[k0]? = some (g, d) := ⟨_, _, List.getElem?_eq_getElem hka⟩
                have ha7 := hS hG fun q hq => (NG q (.tail _ (.tail _ (.tail _ (.tail _ (.tail _ (.tail _ (.tail _ (.tail _ (.tail _ (.tail _ (.tail _ hq)))))))))))).1
                obtain ⟨v', e1, t2, tv, xx, rfl, htup, hgt2, _⟩ := ha7.get hgd
                obtain ⟨nt, htup, _⟩ := htup
                replace htup := tup_base htup
                have hlst := lst_base (NG _ (.tail _ (.tail _ (.tail _ (.tail _ (.tail _ (.tail _ (.tail _ (.tail _ (.head _)))))))))).1
                have hlsx := lst_base (NG _ (.tail _ (.tail _ (.tail _ (.tail _ (.tail _ (.tail _ (.tail _ (.tail _ (.tail _ (.head _))))))))))).1
                obtain ⟨xt, ext, hxt⟩ := hTx.2 k0 g d hgd
                have harg := argAt_is hgd
                have hd : d.Ok := hok _ (List.mem_of_getElem? hgd)
                have hrvz : rvs2.length < 1000 := by
                  have := hrv.length
                  rw [restTexts, List.length_map, List.length_take] at this
                  omega
                have hrw : ∀ p ∈ (e, ex) :: (dx, od) :: (nl2, ex) :: (ll, ex) :: (fl, ex) :: (rl, ex) :: (al, ex) :: (tl, ex) :: (hp1.objs.size + 1, ex) :: fz, p.1 ≠ rw := fun p hp => (fun z => allLt_ne z p hp : AllLt rw _ → p.1 ≠ rw) lD
                have w1 : e ≠ rw := hrw _ (.head _)
                have w2 : dx ≠ rw := hrw _ (.tail _ (.head _))
                have w3 : nl2 ≠ rw := hrw _ (.tail _ (.tail _ (.head _)))
                have w4 : ll ≠ rw := hrw _ (.tail _ (.tail _ (.tail _ (.head _))))
                have w5 : fl ≠ rw := hrw _ (.tail _ (.tail _ (.tail _ (.tail _ (.head _)))))
                have w6 : rl ≠ rw := hrw _ (.tail _ (.tail _ (.tail _ (.tail _ (.tail _ (.head _))))))
                have w7 : al ≠ rw := hrw _ (.tail _ (.tail _ (.tail _ (.tail _ (.tail _ (.tail _ (.head _)))))))
                have w8 : tl ≠ rw := hrw _ (.tail _ (.tail _ (.tail _ (.tail _ (.tail _ (.tail _ (.tail _ (.head _))))))))
                have w9 : hp1.objs.size + 1 ≠ rw := hrw _ (.tail _ (.tail _ (.tail _ (.tail _ (.tail _ (.tail _ (.tail _ (.tail _ (.head _)))))))))
                have w10 : ∀ p ∈ fz, p.1 ≠ rw := fun p hp => hrw p (.tail _ (.tail _ (.tail _ (.tail _ (.tail _ (.tail _ (.tail _ (.tail _ (.tail _ hp)))))))))
                clear hrw
                unfold G; clear G
                cases hg : g.txt with
                | none =>
                  rw [hg] at hgt2
                  obtain rfl : tv = .none := hgt2
                  cases ht : d.text with
                  | none =>
                    rw [ht] at hxt
                    obtain rfl : xt = .none := hxt
                    k_steps
                    rename_i vsQ hvQ FQ NQ
                    refine turn_endH FQ NQ (fun p hp => hp) hvQ (by rw [harg]; unfold argText; rw [hg, ht]) hrv hk0 fun y h1 h2 => ?_
                    have a1 : y ≠ Str.ofString "tag" := by rintro rfl; exact absurd h2 (by decide +kernel)
                    have a2 : y ≠ Str.ofString "shown" := by rintro rfl; exact absurd h2 (by decide +kernel)
                    simp only [if_neg a1, if_neg a2, if_neg h1, h2, Bool.false_eq_true, if_false]
                  | some z =>
                    rw [ht] at hxt
                    obtain ⟨tz, rfl⟩ := hxt
                    k_steps
                    rename_i vsQ hvQ FQ NQ
                    refine turn_endH FQ NQ (fun p hp => hp) hvQ (by rw [harg]; unfold argText; rw [hg, ht]) hrv hk0 fun y h1 h2 => ?_
                    have a1 : y ≠ Str.ofString "tag" := by rintro rfl; exact absurd h2 (by decide +kernel)
                    have a2 : y ≠ Str.ofString "shown" := by rintro rfl; exact absurd h2 (by decide +kernel)
                    simp only [if_neg a1, if_neg a2, if_neg h1, h2, Bool.false_eq_true, if_false]
                | some y0 =>
                  rw [hg] at hgt2
                  obtain ⟨ty, rfl⟩ := hgt2
                  cases ht : d.text with
                  | none =>
                    rw [ht] at hxt
                    obtain rfl : xt = .none := hxt
                    k_steps
                    rename_i vsQ hvQ FQ NQ
                    refine turn_endH FQ NQ (fun p hp => hp) hvQ (by rw [harg]; unfold argText; rw [hg, ht]) hrv hk0 fun y h1 h2 => ?_
                    have a1 : y ≠ Str.ofString "tag" := by rintro rfl; exact absurd h2 (by decide +kernel)
                    have a2 : y ≠ Str.ofString "shown" := by rintro rfl; exact absurd h2 (by decide +kernel)
                    simp only [if_neg a1, if_neg a2, if_neg h1, h2, Bool.false_eq_true, if_false]
                  | some z =>
                    rw [ht] at hxt
                    obtain ⟨tz, rfl⟩ := hxt
                    k_steps
                    rename_i vsQ hvQ FQ NQ
                    refine turn_endH FQ NQ (fun p hp => hp) hvQ (by rw [harg]; unfold argText; rw [hg, ht]) hrv hk0 fun y h1 h2 => ?_
                    have a1 : y ≠ Str.ofString "tag" := by rintro rfl; exact absurd h2 (by decide +kernel)
                    have a2 : y ≠ Str.ofString "shown" := by rintro rfl; exact absurd h2 (by decide +kernel)
                    simp only [if_neg a1, if_neg a2, if_neg h1, h2, Bool.false_eq_true, if_false]
              case hdone =>
                intro u3 o hH tkH hQ7 FH NH
                show (let G := (_ : Prop); G); intro G
                obtain ⟨rvs2, n, rfl, hrv⟩ := hQ7
                have hrv2 : StrsAre rvs2 (restTexts args (restOf (clsOf args))) := by
                  have h1 := hlv2.len
                  rwa [h1, List.take_length] at hrv
                have hrl5 : (restOf (clsOf args)).length ≤ 5 := rest_len hk5
                have hrl2 : rvs2.length = (restOf (clsOf args)).length := by rw [hrv2.length, restTexts, List.length_map]
                have hne0 : restTexts args (restOf (clsOf args)) ≠ [] := fun q => hrB (List.map_eq_nil_iff.mp q)
                have hokr := ok_rest hok (restOf (clsOf args))
                unfold G; clear G
                dsimp only
                have hsm := small_rest hok hk5 hrl5
                have hjl := hsm.join
                have hzl : (restTexts args (restOf (clsOf args))).length = (restOf (clsOf args)).length := by rw [restTexts, List.length_map]
                cases hgt : decide ((((restOf (clsOf args)).length : Nat) : Int) > 1) with
                | true =>
                  have hmsg := word_many (ys := restTexts args (restOf (clsOf args))) (by have := of_decide_eq_true hgt; omega)
                  k_steps
                | false =>
                  have hmsg := word_one (ys := restTexts args (restOf (clsOf args))) (by have := of_decide_eq_false hgt; omega)
                  k_steps
end
section
open PySem PySem.W PyProof.Rows PySem.Calls
/- The head («o_head») lays beside each large constant a twin with the texts as codes, and the equation of the two; the equation's proof grows with the square of the constant.
These seven twins (the program, its view, the heap behind the top, three of its trees, one group of statements) are not wanted, for the kernel is as quick without. Their names are taken here, so «o_head» goes on without them. -/
def test1.tw14396515965231629056 : Unit := ()
def test1.tw16926874154452146318 : Unit := ()
def test1.tw9683052943242224556 : Unit := ()
def test1.tw5002188648603538084 : Unit := ()
def test1.tw6747139861601180473 : Unit := ()
def test1.tw10260191984089600310 : Unit := ()
def test1.tw11257955741848434698 : Unit := ()
set_option Elab.async true in
set_option maxRecDepth 100000 in
set_option maxHeartbeats 8000000 in
theorem test1 : PySem.Challenge.rw_pq1402_01.Holds := by
  w_on
  o_law
  o_head (kHook heapK asK (fun _ => by kernel_rfl))
  case hw => w_witness2
  case hc => exact walk rfl
end
end Mine
theorem PySem.Challenge.cw_pq1402_01_holds : PySem.Challenge.rw_pq1402_01.Holds :=
  Mine.test1
