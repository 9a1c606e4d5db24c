import PyProof.Rows.All
import Wide.All
import OpenK.AllK
import Wide.FinOn
import PySem.Challenge.RW_pq0750_01
open PySem PySem.W PyProof.Rows
set_option Elab.async false
namespace Mine
local macro_rules | `(tactic| walk_at $s:str) => `(tactic| k_extra $s)
/-! the law's program by its places; what stands at its top's end (printed by a program out of the run: wip/PrintK.lean) -/
noncomputable def nth : List Stmt → Nat → Stmt
  | [], _ => .Pass ⟨0, 0, 0, 0⟩
  | a :: _, 0 => a
  | _ :: l, n + 1 => nth l n
def clsBody : Stmt → List Stmt
  | .ClassDef _ _ _ b _ _ _ _ _ _ _ => b
  | _ => []
def fArgs : Stmt → Arguments
  | .FunctionDef _ a _ _ _ _ _ _ _ _ => a
  | _ => ⟨[], [], none, [], [], none, []⟩
def fBody : Stmt → List Stmt
  | .FunctionDef _ _ b _ _ _ _ _ _ _ => b
  | _ => []
def fScope : Stmt → Scope
  | .FunctionDef _ _ _ _ _ _ sc _ _ _ => sc
  | _ => default
noncomputable def topBody : List Stmt := PySem.Challenge.pw_pq0750_01.main.body
set_option maxRecDepth 100000
noncomputable def o2 : Obj := (@PySem.Obj.mk PySem.Value.none none (@PySem.Data.dict #[] (0 : Nat)) #[])
noncomputable def o3 (PP : Params) : Obj := (@PySem.Obj.mk (@PySem.Value.type "dict") none (@PySem.Data.dict #[(@PySem.DictEntry.mk (@PySem.PyData.keyHash PP (@PySem.Str.ofString "__name__")) (@PySem.Value.str (@PySem.Str.ofString "__name__") (165 : Nat)) (@PySem.Value.str (@PySem.Str.ofString "law_pq0750_01") (534 : Nat))), (@PySem.DictEntry.mk (@PySem.PyData.keyHash PP (@PySem.Str.ofString "__doc__")) (@PySem.Value.str (@PySem.Str.ofString "__doc__") (166 : Nat)) PySem.Value.none), (@PySem.DictEntry.mk (@PySem.PyData.keyHash PP (@PySem.Str.ofString "__package__")) (@PySem.Value.str (@PySem.Str.ofString "__package__") (167 : Nat)) PySem.Value.none), (@PySem.DictEntry.mk (@PySem.PyData.keyHash PP (@PySem.Str.ofString "__loader__")) (@PySem.Value.str (@PySem.Str.ofString "__loader__") (168 : Nat)) (@PySem.Value.builtin "__main__.__loader__#op\u0061que")), (@PySem.DictEntry.mk (@PySem.PyData.keyHash PP (@PySem.Str.ofString "__spec__")) (@PySem.Value.str (@PySem.Str.ofString "__spec__") (169 : Nat)) PySem.Value.none), (@PySem.DictEntry.mk (@PySem.PyData.keyHash PP (@PySem.Str.ofString "__annotations__")) (@PySem.Value.str (@PySem.Str.ofString "__annotations__") (170 : Nat)) (@PySem.Value.ref (6 : Nat))), (@PySem.DictEntry.mk (@PySem.PyData.keyHash PP (@PySem.Str.ofString "__builtins__")) (@PySem.Value.str (@PySem.Str.ofString "__builtins__") (171 : Nat)) (@PySem.Value.ref (4 : Nat))), (@PySem.DictEntry.mk (@PySem.PyData.keyHash PP (@PySem.Str.ofString "__file__")) (@PySem.Value.str (@PySem.Str.ofString "__file__") (173 : Nat)) (@PySem.Value.str (@PySem.Str.ofString "/claim/cut.py") (172 : Nat))), (@PySem.DictEntry.mk (@PySem.PyData.keyHash PP (@PySem.Str.ofString "__cached__")) (@PySem.Value.str (@PySem.Str.ofString "__cached__") (174 : Nat)) PySem.Value.none), (@PySem.DictEntry.mk (@PySem.PyData.keyHash PP (@PySem.Str.ofString "Node")) (@PySem.Value.str (@PySem.Str.ofString "Node") (226 : Nat)) (@PySem.Value.ref (32 : Nat))), (@PySem.DictEntry.mk (@PySem.PyData.keyHash PP (@PySem.Str.ofString "is_designator")) (@PySem.Value.str (@PySem.Str.ofString "is_designator") (233 : Nat)) (@PySem.Value.ref (43 : Nat))), (@PySem.DictEntry.mk (@PySem.PyData.keyHash PP (@PySem.Str.ofString "root_var")) (@PySem.Value.str (@PySem.Str.ofString "root_var") (240 : Nat)) (@PySem.Value.ref (50 : Nat))), (@PySem.DictEntry.mk (@PySem.PyData.keyHash PP (@PySem.Str.ofString "is_readonly")) (@PySem.Value.str (@PySem.Str.ofString "is_readonly") (248 : Nat)) (@PySem.Value.ref (57 : Nat))), (@PySem.DictEntry.mk (@PySem.PyData.keyHash PP (@PySem.Str.ofString "same_type")) (@PySem.Value.str (@PySem.Str.ofString "same_type") (258 : Nat)) (@PySem.Value.ref (64 : Nat))), (@PySem.DictEntry.mk (@PySem.PyData.keyHash PP (@PySem.Str.ofString "is_integer")) (@PySem.Value.str (@PySem.Str.ofString "is_integer") (265 : Nat)) (@PySem.Value.ref (71 : Nat))), (@PySem.DictEntry.mk (@PySem.PyData.keyHash PP (@PySem.Str.ofString "is_text")) (@PySem.Value.str (@PySem.Str.ofString "is_text") (272 : Nat)) (@PySem.Value.ref (78 : Nat))), (@PySem.DictEntry.mk (@PySem.PyData.keyHash PP (@PySem.Str.ofString "is_open")) (@PySem.Value.str (@PySem.Str.ofString "is_open") (279 : Nat)) (@PySem.Value.ref (85 : Nat))), (@PySem.DictEntry.mk (@PySem.PyData.keyHash PP (@PySem.Str.ofString "record_of")) (@PySem.Value.str (@PySem.Str.ofString "record_of") (286 : Nat)) (@PySem.Value.ref (92 : Nat))), (@PySem.DictEntry.mk (@PySem.PyData.keyHash PP (@PySem.Str.ofString "extends")) (@PySem.Value.str (@PySem.Str.ofString "extends") (296 : Nat)) (@PySem.Value.ref (99 : Nat))), (@PySem.DictEntry.mk (@PySem.PyData.keyHash PP (@PySem.Str.ofString "equal_types")) (@PySem.Value.str (@PySem.Str.ofString "equal_types") (305 : Nat)) (@PySem.Value.ref (107 : Nat))), (@PySem.DictEntry.mk (@PySem.PyData.keyHash PP (@PySem.Str.ofString "equal_procs")) (@PySem.Value.str (@PySem.Str.ofString "equal_procs") (317 : Nat)) (@PySem.Value.ref (115 : Nat))), (@PySem.DictEntry.mk (@PySem.PyData.keyHash PP (@PySem.Str.ofString "equal_arrays")) (@PySem.Value.str (@PySem.Str.ofString "equal_arrays") (325 : Nat)) (@PySem.Value.ref (122 : Nat))), (@PySem.DictEntry.mk (@PySem.PyData.keyHash PP (@PySem.Str.ofString "assignable_string")) (@PySem.Value.str (@PySem.Str.ofString "assignable_string") (333 : Nat)) (@PySem.Value.ref (129 : Nat))), (@PySem.DictEntry.mk (@PySem.PyData.keyHash PP (@PySem.Str.ofString "assignable_proc")) (@PySem.Value.str (@PySem.Str.ofString "assignable_proc") (341 : Nat)) (@PySem.Value.ref (136 : Nat))), (@PySem.DictEntry.mk (@PySem.PyData.keyHash PP (@PySem.Str.ofString "assignable")) (@PySem.Value.str (@PySem.Str.ofString "assignable") (350 : Nat)) (@PySem.Value.ref (143 : Nat))), (@PySem.DictEntry.mk (@PySem.PyData.keyHash PP (@PySem.Str.ofString "unguarded")) (@PySem.Value.str (@PySem.Str.ofString "unguarded") (357 : Nat)) (@PySem.Value.ref (150 : Nat))), (@PySem.DictEntry.mk (@PySem.PyData.keyHash PP (@PySem.Str.ofString "passable_variable")) (@PySem.Value.str (@PySem.Str.ofString "passable_variable") (367 : Nat)) (@PySem.Value.ref (157 : Nat))), (@PySem.DictEntry.mk (@PySem.PyData.keyHash PP (@PySem.Str.ofString "passable_structure")) (@PySem.Value.str (@PySem.Str.ofString "passable_structure") (377 : Nat)) (@PySem.Value.ref (164 : Nat))), (@PySem.DictEntry.mk (@PySem.PyData.keyHash PP (@PySem.Str.ofString "passable")) (@PySem.Value.str (@PySem.Str.ofString "passable") (385 : Nat)) (@PySem.Value.ref (171 : Nat))), (@PySem.DictEntry.mk (@PySem.PyData.keyHash PP (@PySem.Str.ofString "Type")) (@PySem.Value.str (@PySem.Str.ofString "Type") (429 : Nat)) (@PySem.Value.ref (188 : Nat))), (@PySem.DictEntry.mk (@PySem.PyData.keyHash PP (@PySem.Str.ofString "Obj")) (@PySem.Value.str (@PySem.Str.ofString "Obj") (474 : Nat)) (@PySem.Value.ref (209 : Nat))), (@PySem.DictEntry.mk (@PySem.PyData.keyHash PP (@PySem.Str.ofString "Types")) (@PySem.Value.str (@PySem.Str.ofString "Types") (533 : Nat)) (@PySem.Value.ref (245 : Nat))), (@PySem.DictEntry.mk (@PySem.PyData.keyHash PP (@PySem.Str.ofString "_law_take")) (@PySem.Value.str (@PySem.Str.ofString "_law_take") (545 : Nat)) (@PySem.Value.ref (256 : Nat))), (@PySem.DictEntry.mk (@PySem.PyData.keyHash PP (@PySem.Str.ofString "_law_due")) (@PySem.Value.str (@PySem.Str.ofString "_law_due") (559 : Nat)) (@PySem.Value.ref (263 : Nat))), (@PySem.DictEntry.mk (@PySem.PyData.keyHash PP (@PySem.Str.ofString "law")) (@PySem.Value.str (@PySem.Str.ofString "law") (586 : Nat)) (@PySem.Value.ref (270 : Nat)))] (35 : Nat)) #[])
noncomputable def o22 : Obj := (@PySem.Obj.mk (@PySem.Value.type "tuple") none (@PySem.Data.seq #[PySem.Value.none] (0 : Nat)) #[])
noncomputable def o23 : Obj := (@PySem.Obj.mk (@PySem.Value.type "tuple") none (@PySem.Data.seq #[] (0 : Nat)) #[])
noncomputable def o25 : Obj := (@PySem.Obj.mk (@PySem.Value.type "tuple") none (@PySem.Data.seq #[(@PySem.Value.str (@PySem.Str.ofString "self") (204 : Nat)), (@PySem.Value.str (@PySem.Str.ofString "op") (205 : Nat)), (@PySem.Value.str (@PySem.Str.ofString "place") (206 : Nat)), (@PySem.Value.str (@PySem.Str.ofString "type_of") (207 : Nat)), (@PySem.Value.str (@PySem.Str.ofString "kids") (208 : Nat)), (@PySem.Value.str (@PySem.Str.ofString "value") (209 : Nat))] (0 : Nat)) #[])
noncomputable def o26 : Obj := (@PySem.Obj.mk (@PySem.Value.type "tuple") none (@PySem.Data.seq #[] (0 : Nat)) #[])
noncomputable def o28 : Obj := (@PySem.Obj.mk (@PySem.Value.type "code") none (@PySem.Data.fields #[(@PySem.Value.str (@PySem.Str.ofString "__init__") (201 : Nat)), (@PySem.Value.str (@PySem.Str.ofString "Node.__init__") (202 : Nat)), (@PySem.Value.str (@PySem.Str.ofString "/claim/cut.py") (203 : Nat)), (@PySem.Value.int (4 : Int) (0 : Nat)), (@PySem.Value.int (6 : Int) (0 : Nat)), (@PySem.Value.int (0 : Int) (0 : Nat)), (@PySem.Value.int (0 : Int) (0 : Nat)), (@PySem.Value.int (3 : Int) (0 : Nat)), (@PySem.Value.ref (23 : Nat)), (@PySem.Value.bool Bool.true), (@PySem.Value.int (181 : Int) (0 : Nat)), (@PySem.Value.ref (24 : Nat)), PySem.Value.none, (@PySem.Value.ref (25 : Nat)), (@PySem.Value.ref (26 : Nat)), (@PySem.Value.ref (27 : Nat)), (@PySem.Value.int (210 : Int) (0 : Nat)), (@PySem.Value.int (4 : Int) (0 : Nat)), (@PySem.Value.str (@PySem.Str.ofString "/claim/cut.py") (211 : Nat))]) #[])
noncomputable def o29s : { o : Obj // o = (@PySem.Obj.mk (@PySem.Value.type "function") none (@PySem.Data.func (@PySem.FuncData.mk (@PySem.Str.ofString "__init__") (@PySem.Str.ofString "Node.__init__") (fArgs (nth (clsBody (nth topBody 1)) 0)) (@PySem.FuncBody.stmts (fBody (nth (clsBody (nth topBody 1)) 0))) (fScope (nth (clsBody (nth topBody 1)) 0)) (3 : Nat) [] (@PySem.Value.ref (22 : Nat)) PySem.Value.none PySem.Value.none (@PySem.Value.str (@PySem.Str.ofString "moduleyard.trees") (187 : Nat)) none (@PySem.Value.ref (28 : Nat)) PySem.Value.none (0 : Nat))) #[]) } := by
  delta topBody; delta PySem.Challenge.pw_pq0750_01; dsimp only [nth, clsBody, fArgs, fBody, fScope]
  exact ⟨_, rfl⟩
noncomputable def o29 : Obj := o29s.1
noncomputable def o30 : Obj := (@PySem.Obj.mk (@PySem.Value.type "tuple") none (@PySem.Data.seq #[(@PySem.Value.str (@PySem.Str.ofString "kids") (213 : Nat)), (@PySem.Value.str (@PySem.Str.ofString "op") (214 : Nat)), (@PySem.Value.str (@PySem.Str.ofString "place") (215 : Nat)), (@PySem.Value.str (@PySem.Str.ofString "sure") (216 : Nat)), (@PySem.Value.str (@PySem.Str.ofString "type") (217 : Nat)), (@PySem.Value.str (@PySem.Str.ofString "value") (218 : Nat))] (0 : Nat)) #[])
noncomputable def o31 (PP : Params) : Obj := (@PySem.Obj.mk (@PySem.Value.type "dict") none (@PySem.Data.dict #[(@PySem.DictEntry.mk (@PySem.PyData.keyHash PP (@PySem.Str.ofString "__module__")) (@PySem.Value.str (@PySem.Str.ofString "__module__") (196 : Nat)) (@PySem.Value.str (@PySem.Str.ofString "moduleyard.trees") (187 : Nat))), (@PySem.DictEntry.mk (@PySem.PyData.keyHash PP (@PySem.Str.ofString "__firstlineno__")) (@PySem.Value.str (@PySem.Str.ofString "__firstlineno__") (200 : Nat)) (@PySem.Value.int (2 : Int) (199 : Nat))), (@PySem.DictEntry.mk (@PySem.PyData.keyHash PP (@PySem.Str.ofString "__init__")) (@PySem.Value.str (@PySem.Str.ofString "__init__") (212 : Nat)) (@PySem.Value.ref (29 : Nat))), (@PySem.DictEntry.mk (@PySem.PyData.keyHash PP (@PySem.Str.ofString "__static_attributes__")) (@PySem.Value.str (@PySem.Str.ofString "__static_attributes__") (219 : Nat)) (@PySem.Value.ref (30 : Nat))), (@PySem.DictEntry.mk (@PySem.PyData.keyHash PP (@PySem.Str.ofString "__dict__")) (@PySem.Value.str (@PySem.Str.ofString "__dict__") (221 : Nat)) (@PySem.Value.ref (33 : Nat))), (@PySem.DictEntry.mk (@PySem.PyData.keyHash PP (@PySem.Str.ofString "__weakref__")) (@PySem.Value.str (@PySem.Str.ofString "__weakref__") (223 : Nat)) (@PySem.Value.ref (34 : Nat))), (@PySem.DictEntry.mk (@PySem.PyData.keyHash PP (@PySem.Str.ofString "__doc__")) (@PySem.Value.str (@PySem.Str.ofString "__doc__") (224 : Nat)) PySem.Value.none)] (4 : Nat)) #[])
noncomputable def o32 : Obj := (@PySem.Obj.mk (@PySem.Value.type "type") none (@PySem.Data.cls (@PySem.ClassData.mk (@PySem.Str.ofString "Node") [(@PySem.Value.type "object")] [(@PySem.Value.ref (32 : Nat)), (@PySem.Value.type "object")] (31 : Nat) (@PySem.Str.ofString "Node") Bool.true [] [] Bool.false none Bool.false)) #[none, none, (some (@PySem.Value.str (@PySem.Str.ofString "Node") (189 : Nat))), (some (@PySem.Value.str (@PySem.Str.ofString "Node") (197 : Nat))), (some (@PySem.Value.builtin "object.__new__")), (some (@PySem.Value.bool Bool.true))])
noncomputable def o33 : Obj := (@PySem.Obj.mk (@PySem.Value.type "getset_descriptor") none (@PySem.Data.fields #[(@PySem.Value.str (@PySem.Str.ofString "__dict__") (220 : Nat)), (@PySem.Value.ref (32 : Nat)), (@PySem.Value.builtin "function.__dict__"), (@PySem.Value.builtin "function.__dict__#set")]) #[])
noncomputable def o34 : Obj := (@PySem.Obj.mk (@PySem.Value.type "getset_descriptor") none (@PySem.Data.fields #[(@PySem.Value.str (@PySem.Str.ofString "__weakref__") (222 : Nat)), (@PySem.Value.ref (32 : Nat)), (@PySem.Value.builtin "ExceptionGroup.__weakref__"), PySem.Value.none]) #[])
noncomputable def o37 : Obj := (@PySem.Obj.mk (@PySem.Value.type "tuple") none (@PySem.Data.seq #[] (0 : Nat)) #[])
noncomputable def o39 : Obj := (@PySem.Obj.mk (@PySem.Value.type "tuple") none (@PySem.Data.seq #[(@PySem.Value.str (@PySem.Str.ofString "node") (230 : Nat))] (0 : Nat)) #[])
noncomputable def o40 : Obj := (@PySem.Obj.mk (@PySem.Value.type "tuple") none (@PySem.Data.seq #[] (0 : Nat)) #[])
noncomputable def o42 : Obj := (@PySem.Obj.mk (@PySem.Value.type "code") none (@PySem.Data.fields #[(@PySem.Value.str (@PySem.Str.ofString "is_designator") (227 : Nat)), (@PySem.Value.str (@PySem.Str.ofString "is_designator") (228 : Nat)), (@PySem.Value.str (@PySem.Str.ofString "/claim/cut.py") (229 : Nat)), (@PySem.Value.int (11 : Int) (0 : Nat)), (@PySem.Value.int (1 : Int) (0 : Nat)), (@PySem.Value.int (0 : Int) (0 : Nat)), (@PySem.Value.int (0 : Int) (0 : Nat)), (@PySem.Value.int (3 : Int) (0 : Nat)), (@PySem.Value.ref (37 : Nat)), (@PySem.Value.bool Bool.true), (@PySem.Value.int (181 : Int) (0 : Nat)), (@PySem.Value.ref (38 : Nat)), PySem.Value.none, (@PySem.Value.ref (39 : Nat)), (@PySem.Value.ref (40 : Nat)), (@PySem.Value.ref (41 : Nat)), (@PySem.Value.int (231 : Int) (0 : Nat)), (@PySem.Value.int (11 : Int) (0 : Nat)), (@PySem.Value.str (@PySem.Str.ofString "/claim/cut.py") (232 : Nat))]) #[])
noncomputable def o43s : { o : Obj // o = (@PySem.Obj.mk (@PySem.Value.type "function") none (@PySem.Data.func (@PySem.FuncData.mk (@PySem.Str.ofString "is_designator") (@PySem.Str.ofString "is_designator") (fArgs (nth topBody 2)) (@PySem.FuncBody.stmts (fBody (nth topBody 2))) (fScope (nth topBody 2)) (3 : Nat) [] PySem.Value.none PySem.Value.none PySem.Value.none (@PySem.Value.str (@PySem.Str.ofString "moduleyard.trees") (187 : Nat)) none (@PySem.Value.ref (42 : Nat)) PySem.Value.none (0 : Nat))) #[]) } := by
  delta topBody; delta PySem.Challenge.pw_pq0750_01; dsimp only [nth, clsBody, fArgs, fBody, fScope]
  exact ⟨_, rfl⟩
noncomputable def o43 : Obj := o43s.1
noncomputable def o44 : Obj := (@PySem.Obj.mk (@PySem.Value.type "tuple") none (@PySem.Data.seq #[] (0 : Nat)) #[])
noncomputable def o46 : Obj := (@PySem.Obj.mk (@PySem.Value.type "tuple") none (@PySem.Data.seq #[(@PySem.Value.str (@PySem.Str.ofString "node") (237 : Nat))] (0 : Nat)) #[])
noncomputable def o47 : Obj := (@PySem.Obj.mk (@PySem.Value.type "tuple") none (@PySem.Data.seq #[] (0 : Nat)) #[])
noncomputable def o49 : Obj := (@PySem.Obj.mk (@PySem.Value.type "code") none (@PySem.Data.fields #[(@PySem.Value.str (@PySem.Str.ofString "root_var") (234 : Nat)), (@PySem.Value.str (@PySem.Str.ofString "root_var") (235 : Nat)), (@PySem.Value.str (@PySem.Str.ofString "/claim/cut.py") (236 : Nat)), (@PySem.Value.int (15 : Int) (0 : Nat)), (@PySem.Value.int (1 : Int) (0 : Nat)), (@PySem.Value.int (0 : Int) (0 : Nat)), (@PySem.Value.int (0 : Int) (0 : Nat)), (@PySem.Value.int (3 : Int) (0 : Nat)), (@PySem.Value.ref (44 : Nat)), (@PySem.Value.bool Bool.true), (@PySem.Value.int (181 : Int) (0 : Nat)), (@PySem.Value.ref (45 : Nat)), PySem.Value.none, (@PySem.Value.ref (46 : Nat)), (@PySem.Value.ref (47 : Nat)), (@PySem.Value.ref (48 : Nat)), (@PySem.Value.int (238 : Int) (0 : Nat)), (@PySem.Value.int (15 : Int) (0 : Nat)), (@PySem.Value.str (@PySem.Str.ofString "/claim/cut.py") (239 : Nat))]) #[])
noncomputable def o50s : { o : Obj // o = (@PySem.Obj.mk (@PySem.Value.type "function") none (@PySem.Data.func (@PySem.FuncData.mk (@PySem.Str.ofString "root_var") (@PySem.Str.ofString "root_var") (fArgs (nth topBody 3)) (@PySem.FuncBody.stmts (fBody (nth topBody 3))) (fScope (nth topBody 2)) (3 : Nat) [] PySem.Value.none PySem.Value.none PySem.Value.none (@PySem.Value.str (@PySem.Str.ofString "moduleyard.trees") (187 : Nat)) none (@PySem.Value.ref (49 : Nat)) PySem.Value.none (0 : Nat))) #[]) } := by
  delta topBody; delta PySem.Challenge.pw_pq0750_01; dsimp only [nth, clsBody, fArgs, fBody, fScope]
  exact ⟨_, rfl⟩
noncomputable def o50 : Obj := o50s.1
noncomputable def o51 : Obj := (@PySem.Obj.mk (@PySem.Value.type "tuple") none (@PySem.Data.seq #[] (0 : Nat)) #[])
noncomputable def o53 : Obj := (@PySem.Obj.mk (@PySem.Value.type "tuple") none (@PySem.Data.seq #[(@PySem.Value.str (@PySem.Str.ofString "node") (244 : Nat)), (@PySem.Value.str (@PySem.Str.ofString "root") (245 : Nat))] (0 : Nat)) #[])
noncomputable def o54 : Obj := (@PySem.Obj.mk (@PySem.Value.type "tuple") none (@PySem.Data.seq #[] (0 : Nat)) #[])
noncomputable def o56 : Obj := (@PySem.Obj.mk (@PySem.Value.type "code") none (@PySem.Data.fields #[(@PySem.Value.str (@PySem.Str.ofString "is_readonly") (241 : Nat)), (@PySem.Value.str (@PySem.Str.ofString "is_readonly") (242 : Nat)), (@PySem.Value.str (@PySem.Str.ofString "/claim/cut.py") (243 : Nat)), (@PySem.Value.int (21 : Int) (0 : Nat)), (@PySem.Value.int (1 : Int) (0 : Nat)), (@PySem.Value.int (0 : Int) (0 : Nat)), (@PySem.Value.int (0 : Int) (0 : Nat)), (@PySem.Value.int (3 : Int) (0 : Nat)), (@PySem.Value.ref (51 : Nat)), (@PySem.Value.bool Bool.true), (@PySem.Value.int (181 : Int) (0 : Nat)), (@PySem.Value.ref (52 : Nat)), PySem.Value.none, (@PySem.Value.ref (53 : Nat)), (@PySem.Value.ref (54 : Nat)), (@PySem.Value.ref (55 : Nat)), (@PySem.Value.int (246 : Int) (0 : Nat)), (@PySem.Value.int (21 : Int) (0 : Nat)), (@PySem.Value.str (@PySem.Str.ofString "/claim/cut.py") (247 : Nat))]) #[])
noncomputable def o57s : { o : Obj // o = (@PySem.Obj.mk (@PySem.Value.type "function") none (@PySem.Data.func (@PySem.FuncData.mk (@PySem.Str.ofString "is_readonly") (@PySem.Str.ofString "is_readonly") (fArgs (nth topBody 4)) (@PySem.FuncBody.stmts (fBody (nth topBody 4))) (fScope (nth topBody 4)) (3 : Nat) [] PySem.Value.none PySem.Value.none PySem.Value.none (@PySem.Value.str (@PySem.Str.ofString "moduleyard.trees") (187 : Nat)) none (@PySem.Value.ref (56 : Nat)) PySem.Value.none (0 : Nat))) #[]) } := by
  delta topBody; delta PySem.Challenge.pw_pq0750_01; dsimp only [nth, clsBody, fArgs, fBody, fScope]
  exact ⟨_, rfl⟩
noncomputable def o57 : Obj := o57s.1
noncomputable def o58 : Obj := (@PySem.Obj.mk (@PySem.Value.type "tuple") none (@PySem.Data.seq #[] (0 : Nat)) #[])
noncomputable def o60 : Obj := (@PySem.Obj.mk (@PySem.Value.type "tuple") none (@PySem.Data.seq #[(@PySem.Value.str (@PySem.Str.ofString "a") (254 : Nat)), (@PySem.Value.str (@PySem.Str.ofString "b") (255 : Nat))] (0 : Nat)) #[])
noncomputable def o61 : Obj := (@PySem.Obj.mk (@PySem.Value.type "tuple") none (@PySem.Data.seq #[] (0 : Nat)) #[])
noncomputable def o63 : Obj := (@PySem.Obj.mk (@PySem.Value.type "code") none (@PySem.Data.fields #[(@PySem.Value.str (@PySem.Str.ofString "same_type") (251 : Nat)), (@PySem.Value.str (@PySem.Str.ofString "same_type") (252 : Nat)), (@PySem.Value.str (@PySem.Str.ofString "/claim/cut.py") (253 : Nat)), (@PySem.Value.int (25 : Int) (0 : Nat)), (@PySem.Value.int (2 : Int) (0 : Nat)), (@PySem.Value.int (0 : Int) (0 : Nat)), (@PySem.Value.int (0 : Int) (0 : Nat)), (@PySem.Value.int (3 : Int) (0 : Nat)), (@PySem.Value.ref (58 : Nat)), (@PySem.Value.bool Bool.true), (@PySem.Value.int (181 : Int) (0 : Nat)), (@PySem.Value.ref (59 : Nat)), PySem.Value.none, (@PySem.Value.ref (60 : Nat)), (@PySem.Value.ref (61 : Nat)), (@PySem.Value.ref (62 : Nat)), (@PySem.Value.int (256 : Int) (0 : Nat)), (@PySem.Value.int (25 : Int) (0 : Nat)), (@PySem.Value.str (@PySem.Str.ofString "/claim/cut.py") (257 : Nat))]) #[])
noncomputable def o64s : { o : Obj // o = (@PySem.Obj.mk (@PySem.Value.type "function") none (@PySem.Data.func (@PySem.FuncData.mk (@PySem.Str.ofString "same_type") (@PySem.Str.ofString "same_type") (fArgs (nth topBody 6)) (@PySem.FuncBody.stmts (fBody (nth topBody 6))) (fScope (nth topBody 6)) (3 : Nat) [] PySem.Value.none PySem.Value.none PySem.Value.none (@PySem.Value.str (@PySem.Str.ofString "moduleyard.typerel") (249 : Nat)) none (@PySem.Value.ref (63 : Nat)) PySem.Value.none (0 : Nat))) #[]) } := by
  delta topBody; delta PySem.Challenge.pw_pq0750_01; dsimp only [nth, clsBody, fArgs, fBody, fScope]
  exact ⟨_, rfl⟩
noncomputable def o64 : Obj := o64s.1
noncomputable def o65 : Obj := (@PySem.Obj.mk (@PySem.Value.type "tuple") none (@PySem.Data.seq #[] (0 : Nat)) #[])
noncomputable def o67 : Obj := (@PySem.Obj.mk (@PySem.Value.type "tuple") none (@PySem.Data.seq #[(@PySem.Value.str (@PySem.Str.ofString "t") (262 : Nat))] (0 : Nat)) #[])
noncomputable def o68 : Obj := (@PySem.Obj.mk (@PySem.Value.type "tuple") none (@PySem.Data.seq #[] (0 : Nat)) #[])
noncomputable def o70 : Obj := (@PySem.Obj.mk (@PySem.Value.type "code") none (@PySem.Data.fields #[(@PySem.Value.str (@PySem.Str.ofString "is_integer") (259 : Nat)), (@PySem.Value.str (@PySem.Str.ofString "is_integer") (260 : Nat)), (@PySem.Value.str (@PySem.Str.ofString "/claim/cut.py") (261 : Nat)), (@PySem.Value.int (27 : Int) (0 : Nat)), (@PySem.Value.int (1 : Int) (0 : Nat)), (@PySem.Value.int (0 : Int) (0 : Nat)), (@PySem.Value.int (0 : Int) (0 : Nat)), (@PySem.Value.int (3 : Int) (0 : Nat)), (@PySem.Value.ref (65 : Nat)), (@PySem.Value.bool Bool.true), (@PySem.Value.int (181 : Int) (0 : Nat)), (@PySem.Value.ref (66 : Nat)), PySem.Value.none, (@PySem.Value.ref (67 : Nat)), (@PySem.Value.ref (68 : Nat)), (@PySem.Value.ref (69 : Nat)), (@PySem.Value.int (263 : Int) (0 : Nat)), (@PySem.Value.int (27 : Int) (0 : Nat)), (@PySem.Value.str (@PySem.Str.ofString "/claim/cut.py") (264 : Nat))]) #[])
noncomputable def o71s : { o : Obj // o = (@PySem.Obj.mk (@PySem.Value.type "function") none (@PySem.Data.func (@PySem.FuncData.mk (@PySem.Str.ofString "is_integer") (@PySem.Str.ofString "is_integer") (fArgs (nth topBody 7)) (@PySem.FuncBody.stmts (fBody (nth topBody 7))) (fScope (nth topBody 7)) (3 : Nat) [] PySem.Value.none PySem.Value.none PySem.Value.none (@PySem.Value.str (@PySem.Str.ofString "moduleyard.typerel") (249 : Nat)) none (@PySem.Value.ref (70 : Nat)) PySem.Value.none (0 : Nat))) #[]) } := by
  delta topBody; delta PySem.Challenge.pw_pq0750_01; dsimp only [nth, clsBody, fArgs, fBody, fScope]
  exact ⟨_, rfl⟩
noncomputable def o71 : Obj := o71s.1
noncomputable def o72 : Obj := (@PySem.Obj.mk (@PySem.Value.type "tuple") none (@PySem.Data.seq #[] (0 : Nat)) #[])
noncomputable def o74 : Obj := (@PySem.Obj.mk (@PySem.Value.type "tuple") none (@PySem.Data.seq #[(@PySem.Value.str (@PySem.Str.ofString "t") (269 : Nat))] (0 : Nat)) #[])
noncomputable def o75 : Obj := (@PySem.Obj.mk (@PySem.Value.type "tuple") none (@PySem.Data.seq #[] (0 : Nat)) #[])
noncomputable def o77 : Obj := (@PySem.Obj.mk (@PySem.Value.type "code") none (@PySem.Data.fields #[(@PySem.Value.str (@PySem.Str.ofString "is_text") (266 : Nat)), (@PySem.Value.str (@PySem.Str.ofString "is_text") (267 : Nat)), (@PySem.Value.str (@PySem.Str.ofString "/claim/cut.py") (268 : Nat)), (@PySem.Value.int (29 : Int) (0 : Nat)), (@PySem.Value.int (1 : Int) (0 : Nat)), (@PySem.Value.int (0 : Int) (0 : Nat)), (@PySem.Value.int (0 : Int) (0 : Nat)), (@PySem.Value.int (3 : Int) (0 : Nat)), (@PySem.Value.ref (72 : Nat)), (@PySem.Value.bool Bool.true), (@PySem.Value.int (181 : Int) (0 : Nat)), (@PySem.Value.ref (73 : Nat)), PySem.Value.none, (@PySem.Value.ref (74 : Nat)), (@PySem.Value.ref (75 : Nat)), (@PySem.Value.ref (76 : Nat)), (@PySem.Value.int (270 : Int) (0 : Nat)), (@PySem.Value.int (29 : Int) (0 : Nat)), (@PySem.Value.str (@PySem.Str.ofString "/claim/cut.py") (271 : Nat))]) #[])
noncomputable def o78s : { o : Obj // o = (@PySem.Obj.mk (@PySem.Value.type "function") none (@PySem.Data.func (@PySem.FuncData.mk (@PySem.Str.ofString "is_text") (@PySem.Str.ofString "is_text") (fArgs (nth topBody 8)) (@PySem.FuncBody.stmts (fBody (nth topBody 8))) (fScope (nth topBody 7)) (3 : Nat) [] PySem.Value.none PySem.Value.none PySem.Value.none (@PySem.Value.str (@PySem.Str.ofString "moduleyard.typerel") (249 : Nat)) none (@PySem.Value.ref (77 : Nat)) PySem.Value.none (0 : Nat))) #[]) } := by
  delta topBody; delta PySem.Challenge.pw_pq0750_01; dsimp only [nth, clsBody, fArgs, fBody, fScope]
  exact ⟨_, rfl⟩
noncomputable def o78 : Obj := o78s.1
noncomputable def o79 : Obj := (@PySem.Obj.mk (@PySem.Value.type "tuple") none (@PySem.Data.seq #[] (0 : Nat)) #[])
noncomputable def o81 : Obj := (@PySem.Obj.mk (@PySem.Value.type "tuple") none (@PySem.Data.seq #[(@PySem.Value.str (@PySem.Str.ofString "t") (276 : Nat))] (0 : Nat)) #[])
noncomputable def o82 : Obj := (@PySem.Obj.mk (@PySem.Value.type "tuple") none (@PySem.Data.seq #[] (0 : Nat)) #[])
noncomputable def o84 : Obj := (@PySem.Obj.mk (@PySem.Value.type "code") none (@PySem.Data.fields #[(@PySem.Value.str (@PySem.Str.ofString "is_open") (273 : Nat)), (@PySem.Value.str (@PySem.Str.ofString "is_open") (274 : Nat)), (@PySem.Value.str (@PySem.Str.ofString "/claim/cut.py") (275 : Nat)), (@PySem.Value.int (31 : Int) (0 : Nat)), (@PySem.Value.int (1 : Int) (0 : Nat)), (@PySem.Value.int (0 : Int) (0 : Nat)), (@PySem.Value.int (0 : Int) (0 : Nat)), (@PySem.Value.int (3 : Int) (0 : Nat)), (@PySem.Value.ref (79 : Nat)), (@PySem.Value.bool Bool.true), (@PySem.Value.int (181 : Int) (0 : Nat)), (@PySem.Value.ref (80 : Nat)), PySem.Value.none, (@PySem.Value.ref (81 : Nat)), (@PySem.Value.ref (82 : Nat)), (@PySem.Value.ref (83 : Nat)), (@PySem.Value.int (277 : Int) (0 : Nat)), (@PySem.Value.int (31 : Int) (0 : Nat)), (@PySem.Value.str (@PySem.Str.ofString "/claim/cut.py") (278 : Nat))]) #[])
noncomputable def o85s : { o : Obj // o = (@PySem.Obj.mk (@PySem.Value.type "function") none (@PySem.Data.func (@PySem.FuncData.mk (@PySem.Str.ofString "is_open") (@PySem.Str.ofString "is_open") (fArgs (nth topBody 9)) (@PySem.FuncBody.stmts (fBody (nth topBody 9))) (fScope (nth topBody 7)) (3 : Nat) [] PySem.Value.none PySem.Value.none PySem.Value.none (@PySem.Value.str (@PySem.Str.ofString "moduleyard.typerel") (249 : Nat)) none (@PySem.Value.ref (84 : Nat)) PySem.Value.none (0 : Nat))) #[]) } := by
  delta topBody; delta PySem.Challenge.pw_pq0750_01; dsimp only [nth, clsBody, fArgs, fBody, fScope]
  exact ⟨_, rfl⟩
noncomputable def o85 : Obj := o85s.1
noncomputable def o86 : Obj := (@PySem.Obj.mk (@PySem.Value.type "tuple") none (@PySem.Data.seq #[] (0 : Nat)) #[])
noncomputable def o88 : Obj := (@PySem.Obj.mk (@PySem.Value.type "tuple") none (@PySem.Data.seq #[(@PySem.Value.str (@PySem.Str.ofString "t") (283 : Nat))] (0 : Nat)) #[])
noncomputable def o89 : Obj := (@PySem.Obj.mk (@PySem.Value.type "tuple") none (@PySem.Data.seq #[] (0 : Nat)) #[])
noncomputable def o91 : Obj := (@PySem.Obj.mk (@PySem.Value.type "code") none (@PySem.Data.fields #[(@PySem.Value.str (@PySem.Str.ofString "record_of") (280 : Nat)), (@PySem.Value.str (@PySem.Str.ofString "record_of") (281 : Nat)), (@PySem.Value.str (@PySem.Str.ofString "/claim/cut.py") (282 : Nat)), (@PySem.Value.int (33 : Int) (0 : Nat)), (@PySem.Value.int (1 : Int) (0 : Nat)), (@PySem.Value.int (0 : Int) (0 : Nat)), (@PySem.Value.int (0 : Int) (0 : Nat)), (@PySem.Value.int (3 : Int) (0 : Nat)), (@PySem.Value.ref (86 : Nat)), (@PySem.Value.bool Bool.true), (@PySem.Value.int (181 : Int) (0 : Nat)), (@PySem.Value.ref (87 : Nat)), PySem.Value.none, (@PySem.Value.ref (88 : Nat)), (@PySem.Value.ref (89 : Nat)), (@PySem.Value.ref (90 : Nat)), (@PySem.Value.int (284 : Int) (0 : Nat)), (@PySem.Value.int (33 : Int) (0 : Nat)), (@PySem.Value.str (@PySem.Str.ofString "/claim/cut.py") (285 : Nat))]) #[])
noncomputable def o92s : { o : Obj // o = (@PySem.Obj.mk (@PySem.Value.type "function") none (@PySem.Data.func (@PySem.FuncData.mk (@PySem.Str.ofString "record_of") (@PySem.Str.ofString "record_of") (fArgs (nth topBody 10)) (@PySem.FuncBody.stmts (fBody (nth topBody 10))) (fScope (nth topBody 7)) (3 : Nat) [] PySem.Value.none PySem.Value.none PySem.Value.none (@PySem.Value.str (@PySem.Str.ofString "moduleyard.typerel") (249 : Nat)) none (@PySem.Value.ref (91 : Nat)) PySem.Value.none (0 : Nat))) #[]) } := by
  delta topBody; delta PySem.Challenge.pw_pq0750_01; dsimp only [nth, clsBody, fArgs, fBody, fScope]
  exact ⟨_, rfl⟩
noncomputable def o92 : Obj := o92s.1
noncomputable def o93 : Obj := (@PySem.Obj.mk (@PySem.Value.type "tuple") none (@PySem.Data.seq #[] (0 : Nat)) #[])
noncomputable def o95 : Obj := (@PySem.Obj.mk (@PySem.Value.type "tuple") none (@PySem.Data.seq #[(@PySem.Value.str (@PySem.Str.ofString "a") (290 : Nat)), (@PySem.Value.str (@PySem.Str.ofString "b") (291 : Nat)), (@PySem.Value.str (@PySem.Str.ofString "one") (292 : Nat)), (@PySem.Value.str (@PySem.Str.ofString "wanted") (293 : Nat))] (0 : Nat)) #[])
noncomputable def o96 : Obj := (@PySem.Obj.mk (@PySem.Value.type "tuple") none (@PySem.Data.seq #[] (0 : Nat)) #[])
noncomputable def o98 : Obj := (@PySem.Obj.mk (@PySem.Value.type "code") none (@PySem.Data.fields #[(@PySem.Value.str (@PySem.Str.ofString "extends") (287 : Nat)), (@PySem.Value.str (@PySem.Str.ofString "extends") (288 : Nat)), (@PySem.Value.str (@PySem.Str.ofString "/claim/cut.py") (289 : Nat)), (@PySem.Value.int (39 : Int) (0 : Nat)), (@PySem.Value.int (2 : Int) (0 : Nat)), (@PySem.Value.int (0 : Int) (0 : Nat)), (@PySem.Value.int (0 : Int) (0 : Nat)), (@PySem.Value.int (3 : Int) (0 : Nat)), (@PySem.Value.ref (93 : Nat)), (@PySem.Value.bool Bool.true), (@PySem.Value.int (181 : Int) (0 : Nat)), (@PySem.Value.ref (94 : Nat)), PySem.Value.none, (@PySem.Value.ref (95 : Nat)), (@PySem.Value.ref (96 : Nat)), (@PySem.Value.ref (97 : Nat)), (@PySem.Value.int (294 : Int) (0 : Nat)), (@PySem.Value.int (39 : Int) (0 : Nat)), (@PySem.Value.str (@PySem.Str.ofString "/claim/cut.py") (295 : Nat))]) #[])
noncomputable def o99s : { o : Obj // o = (@PySem.Obj.mk (@PySem.Value.type "function") none (@PySem.Data.func (@PySem.FuncData.mk (@PySem.Str.ofString "extends") (@PySem.Str.ofString "extends") (fArgs (nth topBody 11)) (@PySem.FuncBody.stmts (fBody (nth topBody 11))) (fScope (nth topBody 11)) (3 : Nat) [] PySem.Value.none PySem.Value.none PySem.Value.none (@PySem.Value.str (@PySem.Str.ofString "moduleyard.typerel") (249 : Nat)) none (@PySem.Value.ref (98 : Nat)) PySem.Value.none (0 : Nat))) #[]) } := by
  delta topBody; delta PySem.Challenge.pw_pq0750_01; dsimp only [nth, clsBody, fArgs, fBody, fScope]
  exact ⟨_, rfl⟩
noncomputable def o99 : Obj := o99s.1
noncomputable def o100 : Obj := (@PySem.Obj.mk (@PySem.Value.type "tuple") none (@PySem.Data.seq #[PySem.Value.none] (0 : Nat)) #[])
noncomputable def o101 : Obj := (@PySem.Obj.mk (@PySem.Value.type "tuple") none (@PySem.Data.seq #[] (0 : Nat)) #[])
noncomputable def o103 : Obj := (@PySem.Obj.mk (@PySem.Value.type "tuple") none (@PySem.Data.seq #[(@PySem.Value.str (@PySem.Str.ofString "a") (300 : Nat)), (@PySem.Value.str (@PySem.Str.ofString "b") (301 : Nat)), (@PySem.Value.str (@PySem.Str.ofString "known") (302 : Nat))] (0 : Nat)) #[])
noncomputable def o104 : Obj := (@PySem.Obj.mk (@PySem.Value.type "tuple") none (@PySem.Data.seq #[] (0 : Nat)) #[])
noncomputable def o106 : Obj := (@PySem.Obj.mk (@PySem.Value.type "code") none (@PySem.Data.fields #[(@PySem.Value.str (@PySem.Str.ofString "equal_types") (297 : Nat)), (@PySem.Value.str (@PySem.Str.ofString "equal_types") (298 : Nat)), (@PySem.Value.str (@PySem.Str.ofString "/claim/cut.py") (299 : Nat)), (@PySem.Value.int (51 : Int) (0 : Nat)), (@PySem.Value.int (3 : Int) (0 : Nat)), (@PySem.Value.int (0 : Int) (0 : Nat)), (@PySem.Value.int (0 : Int) (0 : Nat)), (@PySem.Value.int (3 : Int) (0 : Nat)), (@PySem.Value.ref (101 : Nat)), (@PySem.Value.bool Bool.true), (@PySem.Value.int (181 : Int) (0 : Nat)), (@PySem.Value.ref (102 : Nat)), PySem.Value.none, (@PySem.Value.ref (103 : Nat)), (@PySem.Value.ref (104 : Nat)), (@PySem.Value.ref (105 : Nat)), (@PySem.Value.int (303 : Int) (0 : Nat)), (@PySem.Value.int (51 : Int) (0 : Nat)), (@PySem.Value.str (@PySem.Str.ofString "/claim/cut.py") (304 : Nat))]) #[])
noncomputable def o107s : { o : Obj // o = (@PySem.Obj.mk (@PySem.Value.type "function") none (@PySem.Data.func (@PySem.FuncData.mk (@PySem.Str.ofString "equal_types") (@PySem.Str.ofString "equal_types") (fArgs (nth topBody 12)) (@PySem.FuncBody.stmts (fBody (nth topBody 12))) (fScope (nth topBody 12)) (3 : Nat) [] (@PySem.Value.ref (100 : Nat)) PySem.Value.none PySem.Value.none (@PySem.Value.str (@PySem.Str.ofString "moduleyard.typerel") (249 : Nat)) none (@PySem.Value.ref (106 : Nat)) PySem.Value.none (0 : Nat))) #[]) } := by
  delta topBody; delta PySem.Challenge.pw_pq0750_01; dsimp only [nth, clsBody, fArgs, fBody, fScope]
  exact ⟨_, rfl⟩
noncomputable def o107 : Obj := o107s.1
noncomputable def o108 : Obj := (@PySem.Obj.mk (@PySem.Value.type "tuple") none (@PySem.Data.seq #[PySem.Value.none] (0 : Nat)) #[])
noncomputable def o109 : Obj := (@PySem.Obj.mk (@PySem.Value.type "tuple") none (@PySem.Data.seq #[] (0 : Nat)) #[])
noncomputable def o111 : Obj := (@PySem.Obj.mk (@PySem.Value.type "tuple") none (@PySem.Data.seq #[(@PySem.Value.str (@PySem.Str.ofString "a") (309 : Nat)), (@PySem.Value.str (@PySem.Str.ofString "b") (310 : Nat)), (@PySem.Value.str (@PySem.Str.ofString "known") (311 : Nat)), (@PySem.Value.str (@PySem.Str.ofString "place") (312 : Nat)), (@PySem.Value.str (@PySem.Str.ofString "one") (313 : Nat)), (@PySem.Value.str (@PySem.Str.ofString "other") (314 : Nat))] (0 : Nat)) #[])
noncomputable def o112 : Obj := (@PySem.Obj.mk (@PySem.Value.type "tuple") none (@PySem.Data.seq #[] (0 : Nat)) #[])
noncomputable def o114 : Obj := (@PySem.Obj.mk (@PySem.Value.type "code") none (@PySem.Data.fields #[(@PySem.Value.str (@PySem.Str.ofString "equal_procs") (306 : Nat)), (@PySem.Value.str (@PySem.Str.ofString "equal_procs") (307 : Nat)), (@PySem.Value.str (@PySem.Str.ofString "/claim/cut.py") (308 : Nat)), (@PySem.Value.int (59 : Int) (0 : Nat)), (@PySem.Value.int (3 : Int) (0 : Nat)), (@PySem.Value.int (0 : Int) (0 : Nat)), (@PySem.Value.int (0 : Int) (0 : Nat)), (@PySem.Value.int (3 : Int) (0 : Nat)), (@PySem.Value.ref (109 : Nat)), (@PySem.Value.bool Bool.true), (@PySem.Value.int (181 : Int) (0 : Nat)), (@PySem.Value.ref (110 : Nat)), PySem.Value.none, (@PySem.Value.ref (111 : Nat)), (@PySem.Value.ref (112 : Nat)), (@PySem.Value.ref (113 : Nat)), (@PySem.Value.int (315 : Int) (0 : Nat)), (@PySem.Value.int (59 : Int) (0 : Nat)), (@PySem.Value.str (@PySem.Str.ofString "/claim/cut.py") (316 : Nat))]) #[])
noncomputable def o115s : { o : Obj // o = (@PySem.Obj.mk (@PySem.Value.type "function") none (@PySem.Data.func (@PySem.FuncData.mk (@PySem.Str.ofString "equal_procs") (@PySem.Str.ofString "equal_procs") (fArgs (nth topBody 13)) (@PySem.FuncBody.stmts (fBody (nth topBody 13))) (fScope (nth topBody 13)) (3 : Nat) [] (@PySem.Value.ref (108 : Nat)) PySem.Value.none PySem.Value.none (@PySem.Value.str (@PySem.Str.ofString "moduleyard.typerel") (249 : Nat)) none (@PySem.Value.ref (114 : Nat)) PySem.Value.none (0 : Nat))) #[]) } := by
  delta topBody; delta PySem.Challenge.pw_pq0750_01; dsimp only [nth, clsBody, fArgs, fBody, fScope]
  exact ⟨_, rfl⟩
noncomputable def o115 : Obj := o115s.1
noncomputable def o116 : Obj := (@PySem.Obj.mk (@PySem.Value.type "tuple") none (@PySem.Data.seq #[] (0 : Nat)) #[])
noncomputable def o118 : Obj := (@PySem.Obj.mk (@PySem.Value.type "tuple") none (@PySem.Data.seq #[(@PySem.Value.str (@PySem.Str.ofString "a") (321 : Nat)), (@PySem.Value.str (@PySem.Str.ofString "b") (322 : Nat))] (0 : Nat)) #[])
noncomputable def o119 : Obj := (@PySem.Obj.mk (@PySem.Value.type "tuple") none (@PySem.Data.seq #[] (0 : Nat)) #[])
noncomputable def o121 : Obj := (@PySem.Obj.mk (@PySem.Value.type "code") none (@PySem.Data.fields #[(@PySem.Value.str (@PySem.Str.ofString "equal_arrays") (318 : Nat)), (@PySem.Value.str (@PySem.Str.ofString "equal_arrays") (319 : Nat)), (@PySem.Value.str (@PySem.Str.ofString "/claim/cut.py") (320 : Nat)), (@PySem.Value.int (75 : Int) (0 : Nat)), (@PySem.Value.int (2 : Int) (0 : Nat)), (@PySem.Value.int (0 : Int) (0 : Nat)), (@PySem.Value.int (0 : Int) (0 : Nat)), (@PySem.Value.int (3 : Int) (0 : Nat)), (@PySem.Value.ref (116 : Nat)), (@PySem.Value.bool Bool.true), (@PySem.Value.int (181 : Int) (0 : Nat)), (@PySem.Value.ref (117 : Nat)), PySem.Value.none, (@PySem.Value.ref (118 : Nat)), (@PySem.Value.ref (119 : Nat)), (@PySem.Value.ref (120 : Nat)), (@PySem.Value.int (323 : Int) (0 : Nat)), (@PySem.Value.int (75 : Int) (0 : Nat)), (@PySem.Value.str (@PySem.Str.ofString "/claim/cut.py") (324 : Nat))]) #[])
noncomputable def o122s : { o : Obj // o = (@PySem.Obj.mk (@PySem.Value.type "function") none (@PySem.Data.func (@PySem.FuncData.mk (@PySem.Str.ofString "equal_arrays") (@PySem.Str.ofString "equal_arrays") (fArgs (nth topBody 14)) (@PySem.FuncBody.stmts (fBody (nth topBody 14))) (fScope (nth topBody 14)) (3 : Nat) [] PySem.Value.none PySem.Value.none PySem.Value.none (@PySem.Value.str (@PySem.Str.ofString "moduleyard.typerel") (249 : Nat)) none (@PySem.Value.ref (121 : Nat)) PySem.Value.none (0 : Nat))) #[]) } := by
  delta topBody; delta PySem.Challenge.pw_pq0750_01; dsimp only [nth, clsBody, fArgs, fBody, fScope]
  exact ⟨_, rfl⟩
noncomputable def o122 : Obj := o122s.1
noncomputable def o123 : Obj := (@PySem.Obj.mk (@PySem.Value.type "tuple") none (@PySem.Data.seq #[] (0 : Nat)) #[])
noncomputable def o125 : Obj := (@PySem.Obj.mk (@PySem.Value.type "tuple") none (@PySem.Data.seq #[(@PySem.Value.str (@PySem.Str.ofString "t") (329 : Nat)), (@PySem.Value.str (@PySem.Str.ofString "length") (330 : Nat))] (0 : Nat)) #[])
noncomputable def o126 : Obj := (@PySem.Obj.mk (@PySem.Value.type "tuple") none (@PySem.Data.seq #[] (0 : Nat)) #[])
noncomputable def o128 : Obj := (@PySem.Obj.mk (@PySem.Value.type "code") none (@PySem.Data.fields #[(@PySem.Value.str (@PySem.Str.ofString "assignable_string") (326 : Nat)), (@PySem.Value.str (@PySem.Str.ofString "assignable_string") (327 : Nat)), (@PySem.Value.str (@PySem.Str.ofString "/claim/cut.py") (328 : Nat)), (@PySem.Value.int (81 : Int) (0 : Nat)), (@PySem.Value.int (2 : Int) (0 : Nat)), (@PySem.Value.int (0 : Int) (0 : Nat)), (@PySem.Value.int (0 : Int) (0 : Nat)), (@PySem.Value.int (3 : Int) (0 : Nat)), (@PySem.Value.ref (123 : Nat)), (@PySem.Value.bool Bool.true), (@PySem.Value.int (181 : Int) (0 : Nat)), (@PySem.Value.ref (124 : Nat)), PySem.Value.none, (@PySem.Value.ref (125 : Nat)), (@PySem.Value.ref (126 : Nat)), (@PySem.Value.ref (127 : Nat)), (@PySem.Value.int (331 : Int) (0 : Nat)), (@PySem.Value.int (81 : Int) (0 : Nat)), (@PySem.Value.str (@PySem.Str.ofString "/claim/cut.py") (332 : Nat))]) #[])
noncomputable def o129s : { o : Obj // o = (@PySem.Obj.mk (@PySem.Value.type "function") none (@PySem.Data.func (@PySem.FuncData.mk (@PySem.Str.ofString "assignable_string") (@PySem.Str.ofString "assignable_string") (fArgs (nth topBody 15)) (@PySem.FuncBody.stmts (fBody (nth topBody 15))) (fScope (nth topBody 15)) (3 : Nat) [] PySem.Value.none PySem.Value.none PySem.Value.none (@PySem.Value.str (@PySem.Str.ofString "moduleyard.typerel") (249 : Nat)) none (@PySem.Value.ref (128 : Nat)) PySem.Value.none (0 : Nat))) #[]) } := by
  delta topBody; delta PySem.Challenge.pw_pq0750_01; dsimp only [nth, clsBody, fArgs, fBody, fScope]
  exact ⟨_, rfl⟩
noncomputable def o129 : Obj := o129s.1
noncomputable def o130 : Obj := (@PySem.Obj.mk (@PySem.Value.type "tuple") none (@PySem.Data.seq #[] (0 : Nat)) #[])
noncomputable def o132 : Obj := (@PySem.Obj.mk (@PySem.Value.type "tuple") none (@PySem.Data.seq #[(@PySem.Value.str (@PySem.Str.ofString "t") (337 : Nat)), (@PySem.Value.str (@PySem.Str.ofString "node") (338 : Nat))] (0 : Nat)) #[])
noncomputable def o133 : Obj := (@PySem.Obj.mk (@PySem.Value.type "tuple") none (@PySem.Data.seq #[] (0 : Nat)) #[])
noncomputable def o135 : Obj := (@PySem.Obj.mk (@PySem.Value.type "code") none (@PySem.Data.fields #[(@PySem.Value.str (@PySem.Str.ofString "assignable_proc") (334 : Nat)), (@PySem.Value.str (@PySem.Str.ofString "assignable_proc") (335 : Nat)), (@PySem.Value.str (@PySem.Str.ofString "/claim/cut.py") (336 : Nat)), (@PySem.Value.int (89 : Int) (0 : Nat)), (@PySem.Value.int (2 : Int) (0 : Nat)), (@PySem.Value.int (0 : Int) (0 : Nat)), (@PySem.Value.int (0 : Int) (0 : Nat)), (@PySem.Value.int (3 : Int) (0 : Nat)), (@PySem.Value.ref (130 : Nat)), (@PySem.Value.bool Bool.true), (@PySem.Value.int (181 : Int) (0 : Nat)), (@PySem.Value.ref (131 : Nat)), PySem.Value.none, (@PySem.Value.ref (132 : Nat)), (@PySem.Value.ref (133 : Nat)), (@PySem.Value.ref (134 : Nat)), (@PySem.Value.int (339 : Int) (0 : Nat)), (@PySem.Value.int (89 : Int) (0 : Nat)), (@PySem.Value.str (@PySem.Str.ofString "/claim/cut.py") (340 : Nat))]) #[])
noncomputable def o136s : { o : Obj // o = (@PySem.Obj.mk (@PySem.Value.type "function") none (@PySem.Data.func (@PySem.FuncData.mk (@PySem.Str.ofString "assignable_proc") (@PySem.Str.ofString "assignable_proc") (fArgs (nth topBody 16)) (@PySem.FuncBody.stmts (fBody (nth topBody 16))) (fScope (nth topBody 16)) (3 : Nat) [] PySem.Value.none PySem.Value.none PySem.Value.none (@PySem.Value.str (@PySem.Str.ofString "moduleyard.typerel") (249 : Nat)) none (@PySem.Value.ref (135 : Nat)) PySem.Value.none (0 : Nat))) #[]) } := by
  delta topBody; delta PySem.Challenge.pw_pq0750_01; dsimp only [nth, clsBody, fArgs, fBody, fScope]
  exact ⟨_, rfl⟩
noncomputable def o136 : Obj := o136s.1
noncomputable def o137 : Obj := (@PySem.Obj.mk (@PySem.Value.type "tuple") none (@PySem.Data.seq #[] (0 : Nat)) #[])
noncomputable def o139 : Obj := (@PySem.Obj.mk (@PySem.Value.type "tuple") none (@PySem.Data.seq #[(@PySem.Value.str (@PySem.Str.ofString "t") (345 : Nat)), (@PySem.Value.str (@PySem.Str.ofString "node") (346 : Nat)), (@PySem.Value.str (@PySem.Str.ofString "v") (347 : Nat))] (0 : Nat)) #[])
noncomputable def o140 : Obj := (@PySem.Obj.mk (@PySem.Value.type "tuple") none (@PySem.Data.seq #[] (0 : Nat)) #[])
noncomputable def o142 : Obj := (@PySem.Obj.mk (@PySem.Value.type "code") none (@PySem.Data.fields #[(@PySem.Value.str (@PySem.Str.ofString "assignable") (342 : Nat)), (@PySem.Value.str (@PySem.Str.ofString "assignable") (343 : Nat)), (@PySem.Value.str (@PySem.Str.ofString "/claim/cut.py") (344 : Nat)), (@PySem.Value.int (93 : Int) (0 : Nat)), (@PySem.Value.int (2 : Int) (0 : Nat)), (@PySem.Value.int (0 : Int) (0 : Nat)), (@PySem.Value.int (0 : Int) (0 : Nat)), (@PySem.Value.int (3 : Int) (0 : Nat)), (@PySem.Value.ref (137 : Nat)), (@PySem.Value.bool Bool.true), (@PySem.Value.int (181 : Int) (0 : Nat)), (@PySem.Value.ref (138 : Nat)), PySem.Value.none, (@PySem.Value.ref (139 : Nat)), (@PySem.Value.ref (140 : Nat)), (@PySem.Value.ref (141 : Nat)), (@PySem.Value.int (348 : Int) (0 : Nat)), (@PySem.Value.int (93 : Int) (0 : Nat)), (@PySem.Value.str (@PySem.Str.ofString "/claim/cut.py") (349 : Nat))]) #[])
noncomputable def o143s : { o : Obj // o = (@PySem.Obj.mk (@PySem.Value.type "function") none (@PySem.Data.func (@PySem.FuncData.mk (@PySem.Str.ofString "assignable") (@PySem.Str.ofString "assignable") (fArgs (nth topBody 17)) (@PySem.FuncBody.stmts (fBody (nth topBody 17))) (fScope (nth topBody 17)) (3 : Nat) [] PySem.Value.none PySem.Value.none PySem.Value.none (@PySem.Value.str (@PySem.Str.ofString "moduleyard.typerel") (249 : Nat)) none (@PySem.Value.ref (142 : Nat)) PySem.Value.none (0 : Nat))) #[]) } := by
  delta topBody; delta PySem.Challenge.pw_pq0750_01; dsimp only [nth, clsBody, fArgs, fBody, fScope]
  exact ⟨_, rfl⟩
noncomputable def o143 : Obj := o143s.1
noncomputable def o144 : Obj := (@PySem.Obj.mk (@PySem.Value.type "tuple") none (@PySem.Data.seq #[] (0 : Nat)) #[])
noncomputable def o146 : Obj := (@PySem.Obj.mk (@PySem.Value.type "tuple") none (@PySem.Data.seq #[(@PySem.Value.str (@PySem.Str.ofString "node") (354 : Nat))] (0 : Nat)) #[])
noncomputable def o147 : Obj := (@PySem.Obj.mk (@PySem.Value.type "tuple") none (@PySem.Data.seq #[] (0 : Nat)) #[])
noncomputable def o149 : Obj := (@PySem.Obj.mk (@PySem.Value.type "code") none (@PySem.Data.fields #[(@PySem.Value.str (@PySem.Str.ofString "unguarded") (351 : Nat)), (@PySem.Value.str (@PySem.Str.ofString "unguarded") (352 : Nat)), (@PySem.Value.str (@PySem.Str.ofString "/claim/cut.py") (353 : Nat)), (@PySem.Value.int (108 : Int) (0 : Nat)), (@PySem.Value.int (1 : Int) (0 : Nat)), (@PySem.Value.int (0 : Int) (0 : Nat)), (@PySem.Value.int (0 : Int) (0 : Nat)), (@PySem.Value.int (3 : Int) (0 : Nat)), (@PySem.Value.ref (144 : Nat)), (@PySem.Value.bool Bool.true), (@PySem.Value.int (181 : Int) (0 : Nat)), (@PySem.Value.ref (145 : Nat)), PySem.Value.none, (@PySem.Value.ref (146 : Nat)), (@PySem.Value.ref (147 : Nat)), (@PySem.Value.ref (148 : Nat)), (@PySem.Value.int (355 : Int) (0 : Nat)), (@PySem.Value.int (108 : Int) (0 : Nat)), (@PySem.Value.str (@PySem.Str.ofString "/claim/cut.py") (356 : Nat))]) #[])
noncomputable def o150s : { o : Obj // o = (@PySem.Obj.mk (@PySem.Value.type "function") none (@PySem.Data.func (@PySem.FuncData.mk (@PySem.Str.ofString "unguarded") (@PySem.Str.ofString "unguarded") (fArgs (nth topBody 18)) (@PySem.FuncBody.stmts (fBody (nth topBody 18))) (fScope (nth topBody 2)) (3 : Nat) [] PySem.Value.none PySem.Value.none PySem.Value.none (@PySem.Value.str (@PySem.Str.ofString "moduleyard.typerel") (249 : Nat)) none (@PySem.Value.ref (149 : Nat)) PySem.Value.none (0 : Nat))) #[]) } := by
  delta topBody; delta PySem.Challenge.pw_pq0750_01; dsimp only [nth, clsBody, fArgs, fBody, fScope]
  exact ⟨_, rfl⟩
noncomputable def o150 : Obj := o150s.1
noncomputable def o151 : Obj := (@PySem.Obj.mk (@PySem.Value.type "tuple") none (@PySem.Data.seq #[] (0 : Nat)) #[])
noncomputable def o153 : Obj := (@PySem.Obj.mk (@PySem.Value.type "tuple") none (@PySem.Data.seq #[(@PySem.Value.str (@PySem.Str.ofString "t") (361 : Nat)), (@PySem.Value.str (@PySem.Str.ofString "node") (362 : Nat)), (@PySem.Value.str (@PySem.Str.ofString "v") (363 : Nat)), (@PySem.Value.str (@PySem.Str.ofString "fits") (364 : Nat))] (0 : Nat)) #[])
noncomputable def o154 : Obj := (@PySem.Obj.mk (@PySem.Value.type "tuple") none (@PySem.Data.seq #[] (0 : Nat)) #[])
noncomputable def o156 : Obj := (@PySem.Obj.mk (@PySem.Value.type "code") none (@PySem.Data.fields #[(@PySem.Value.str (@PySem.Str.ofString "passable_variable") (358 : Nat)), (@PySem.Value.str (@PySem.Str.ofString "passable_variable") (359 : Nat)), (@PySem.Value.str (@PySem.Str.ofString "/claim/cut.py") (360 : Nat)), (@PySem.Value.int (112 : Int) (0 : Nat)), (@PySem.Value.int (2 : Int) (0 : Nat)), (@PySem.Value.int (0 : Int) (0 : Nat)), (@PySem.Value.int (0 : Int) (0 : Nat)), (@PySem.Value.int (3 : Int) (0 : Nat)), (@PySem.Value.ref (151 : Nat)), (@PySem.Value.bool Bool.true), (@PySem.Value.int (181 : Int) (0 : Nat)), (@PySem.Value.ref (152 : Nat)), PySem.Value.none, (@PySem.Value.ref (153 : Nat)), (@PySem.Value.ref (154 : Nat)), (@PySem.Value.ref (155 : Nat)), (@PySem.Value.int (365 : Int) (0 : Nat)), (@PySem.Value.int (112 : Int) (0 : Nat)), (@PySem.Value.str (@PySem.Str.ofString "/claim/cut.py") (366 : Nat))]) #[])
noncomputable def o157s : { o : Obj // o = (@PySem.Obj.mk (@PySem.Value.type "function") none (@PySem.Data.func (@PySem.FuncData.mk (@PySem.Str.ofString "passable_variable") (@PySem.Str.ofString "passable_variable") (fArgs (nth topBody 19)) (@PySem.FuncBody.stmts (fBody (nth topBody 19))) (fScope (nth topBody 19)) (3 : Nat) [] PySem.Value.none PySem.Value.none PySem.Value.none (@PySem.Value.str (@PySem.Str.ofString "moduleyard.typerel") (249 : Nat)) none (@PySem.Value.ref (156 : Nat)) PySem.Value.none (0 : Nat))) #[]) } := by
  delta topBody; delta PySem.Challenge.pw_pq0750_01; dsimp only [nth, clsBody, fArgs, fBody, fScope]
  exact ⟨_, rfl⟩
noncomputable def o157 : Obj := o157s.1
noncomputable def o158 : Obj := (@PySem.Obj.mk (@PySem.Value.type "tuple") none (@PySem.Data.seq #[] (0 : Nat)) #[])
noncomputable def o160 : Obj := (@PySem.Obj.mk (@PySem.Value.type "tuple") none (@PySem.Data.seq #[(@PySem.Value.str (@PySem.Str.ofString "t") (371 : Nat)), (@PySem.Value.str (@PySem.Str.ofString "node") (372 : Nat)), (@PySem.Value.str (@PySem.Str.ofString "v") (373 : Nat)), (@PySem.Value.str (@PySem.Str.ofString "fits") (374 : Nat))] (0 : Nat)) #[])
noncomputable def o161 : Obj := (@PySem.Obj.mk (@PySem.Value.type "tuple") none (@PySem.Data.seq #[] (0 : Nat)) #[])
noncomputable def o163 : Obj := (@PySem.Obj.mk (@PySem.Value.type "code") none (@PySem.Data.fields #[(@PySem.Value.str (@PySem.Str.ofString "passable_structure") (368 : Nat)), (@PySem.Value.str (@PySem.Str.ofString "passable_structure") (369 : Nat)), (@PySem.Value.str (@PySem.Str.ofString "/claim/cut.py") (370 : Nat)), (@PySem.Value.int (125 : Int) (0 : Nat)), (@PySem.Value.int (2 : Int) (0 : Nat)), (@PySem.Value.int (0 : Int) (0 : Nat)), (@PySem.Value.int (0 : Int) (0 : Nat)), (@PySem.Value.int (3 : Int) (0 : Nat)), (@PySem.Value.ref (158 : Nat)), (@PySem.Value.bool Bool.true), (@PySem.Value.int (181 : Int) (0 : Nat)), (@PySem.Value.ref (159 : Nat)), PySem.Value.none, (@PySem.Value.ref (160 : Nat)), (@PySem.Value.ref (161 : Nat)), (@PySem.Value.ref (162 : Nat)), (@PySem.Value.int (375 : Int) (0 : Nat)), (@PySem.Value.int (125 : Int) (0 : Nat)), (@PySem.Value.str (@PySem.Str.ofString "/claim/cut.py") (376 : Nat))]) #[])
noncomputable def o164s : { o : Obj // o = (@PySem.Obj.mk (@PySem.Value.type "function") none (@PySem.Data.func (@PySem.FuncData.mk (@PySem.Str.ofString "passable_structure") (@PySem.Str.ofString "passable_structure") (fArgs (nth topBody 20)) (@PySem.FuncBody.stmts (fBody (nth topBody 20))) (fScope (nth topBody 20)) (3 : Nat) [] PySem.Value.none PySem.Value.none PySem.Value.none (@PySem.Value.str (@PySem.Str.ofString "moduleyard.typerel") (249 : Nat)) none (@PySem.Value.ref (163 : Nat)) PySem.Value.none (0 : Nat))) #[]) } := by
  delta topBody; delta PySem.Challenge.pw_pq0750_01; dsimp only [nth, clsBody, fArgs, fBody, fScope]
  exact ⟨_, rfl⟩
noncomputable def o164 : Obj := o164s.1
noncomputable def o165 : Obj := (@PySem.Obj.mk (@PySem.Value.type "tuple") none (@PySem.Data.seq #[] (0 : Nat)) #[])
noncomputable def o167 : Obj := (@PySem.Obj.mk (@PySem.Value.type "tuple") none (@PySem.Data.seq #[(@PySem.Value.str (@PySem.Str.ofString "par") (381 : Nat)), (@PySem.Value.str (@PySem.Str.ofString "node") (382 : Nat))] (0 : Nat)) #[])
noncomputable def o168 : Obj := (@PySem.Obj.mk (@PySem.Value.type "tuple") none (@PySem.Data.seq #[] (0 : Nat)) #[])
noncomputable def o170 : Obj := (@PySem.Obj.mk (@PySem.Value.type "code") none (@PySem.Data.fields #[(@PySem.Value.str (@PySem.Str.ofString "passable") (378 : Nat)), (@PySem.Value.str (@PySem.Str.ofString "passable") (379 : Nat)), (@PySem.Value.str (@PySem.Str.ofString "/claim/cut.py") (380 : Nat)), (@PySem.Value.int (136 : Int) (0 : Nat)), (@PySem.Value.int (2 : Int) (0 : Nat)), (@PySem.Value.int (0 : Int) (0 : Nat)), (@PySem.Value.int (0 : Int) (0 : Nat)), (@PySem.Value.int (3 : Int) (0 : Nat)), (@PySem.Value.ref (165 : Nat)), (@PySem.Value.bool Bool.true), (@PySem.Value.int (181 : Int) (0 : Nat)), (@PySem.Value.ref (166 : Nat)), PySem.Value.none, (@PySem.Value.ref (167 : Nat)), (@PySem.Value.ref (168 : Nat)), (@PySem.Value.ref (169 : Nat)), (@PySem.Value.int (383 : Int) (0 : Nat)), (@PySem.Value.int (136 : Int) (0 : Nat)), (@PySem.Value.str (@PySem.Str.ofString "/claim/cut.py") (384 : Nat))]) #[])
noncomputable def o171s : { o : Obj // o = (@PySem.Obj.mk (@PySem.Value.type "function") none (@PySem.Data.func (@PySem.FuncData.mk (@PySem.Str.ofString "passable") (@PySem.Str.ofString "passable") (fArgs (nth topBody 21)) (@PySem.FuncBody.stmts (fBody (nth topBody 21))) (fScope (nth topBody 21)) (3 : Nat) [] PySem.Value.none PySem.Value.none PySem.Value.none (@PySem.Value.str (@PySem.Str.ofString "moduleyard.typerel") (249 : Nat)) none (@PySem.Value.ref (170 : Nat)) PySem.Value.none (0 : Nat))) #[]) } := by
  delta topBody; delta PySem.Challenge.pw_pq0750_01; dsimp only [nth, clsBody, fArgs, fBody, fScope]
  exact ⟨_, rfl⟩
noncomputable def o171 : Obj := o171s.1
noncomputable def o179 : Obj := (@PySem.Obj.mk (@PySem.Value.type "tuple") none (@PySem.Data.seq #[] (0 : Nat)) #[])
noncomputable def o181 : Obj := (@PySem.Obj.mk (@PySem.Value.type "tuple") none (@PySem.Data.seq #[(@PySem.Value.str (@PySem.Str.ofString "self") (403 : Nat)), (@PySem.Value.str (@PySem.Str.ofString "number") (404 : Nat)), (@PySem.Value.str (@PySem.Str.ofString "form") (405 : Nat)), (@PySem.Value.str (@PySem.Str.ofString "size") (406 : Nat))] (0 : Nat)) #[])
noncomputable def o182 : Obj := (@PySem.Obj.mk (@PySem.Value.type "tuple") none (@PySem.Data.seq #[] (0 : Nat)) #[])
noncomputable def o184 : Obj := (@PySem.Obj.mk (@PySem.Value.type "code") none (@PySem.Data.fields #[(@PySem.Value.str (@PySem.Str.ofString "__init__") (400 : Nat)), (@PySem.Value.str (@PySem.Str.ofString "Type.__init__") (401 : Nat)), (@PySem.Value.str (@PySem.Str.ofString "/claim/cut.py") (402 : Nat)), (@PySem.Value.int (145 : Int) (0 : Nat)), (@PySem.Value.int (4 : Int) (0 : Nat)), (@PySem.Value.int (0 : Int) (0 : Nat)), (@PySem.Value.int (0 : Int) (0 : Nat)), (@PySem.Value.int (3 : Int) (0 : Nat)), (@PySem.Value.ref (179 : Nat)), (@PySem.Value.bool Bool.true), (@PySem.Value.int (181 : Int) (0 : Nat)), (@PySem.Value.ref (180 : Nat)), PySem.Value.none, (@PySem.Value.ref (181 : Nat)), (@PySem.Value.ref (182 : Nat)), (@PySem.Value.ref (183 : Nat)), (@PySem.Value.int (407 : Int) (0 : Nat)), (@PySem.Value.int (145 : Int) (0 : Nat)), (@PySem.Value.str (@PySem.Str.ofString "/claim/cut.py") (408 : Nat))]) #[])
noncomputable def o185s : { o : Obj // o = (@PySem.Obj.mk (@PySem.Value.type "function") none (@PySem.Data.func (@PySem.FuncData.mk (@PySem.Str.ofString "__init__") (@PySem.Str.ofString "Type.__init__") (fArgs (nth (clsBody (nth topBody 23)) 0)) (@PySem.FuncBody.stmts (fBody (nth (clsBody (nth topBody 23)) 0))) (fScope (nth (clsBody (nth topBody 23)) 0)) (3 : Nat) [] PySem.Value.none PySem.Value.none PySem.Value.none (@PySem.Value.str (@PySem.Str.ofString "moduleyard.types") (386 : Nat)) none (@PySem.Value.ref (184 : Nat)) PySem.Value.none (0 : Nat))) #[]) } := by
  delta topBody; delta PySem.Challenge.pw_pq0750_01; dsimp only [nth, clsBody, fArgs, fBody, fScope]
  exact ⟨_, rfl⟩
noncomputable def o185 : Obj := o185s.1
noncomputable def o186 : Obj := (@PySem.Obj.mk (@PySem.Value.type "tuple") none (@PySem.Data.seq #[(@PySem.Value.str (@PySem.Str.ofString "base") (410 : Nat)), (@PySem.Value.str (@PySem.Str.ofString "exno") (411 : Nat)), (@PySem.Value.str (@PySem.Str.ofString "fields") (412 : Nat)), (@PySem.Value.str (@PySem.Str.ofString "form") (413 : Nat)), (@PySem.Value.str (@PySem.Str.ofString "hidden") (414 : Nat)), (@PySem.Value.str (@PySem.Str.ofString "label") (415 : Nat)), (@PySem.Value.str (@PySem.Str.ofString "length") (416 : Nat)), (@PySem.Value.str (@PySem.Str.ofString "level") (417 : Nat)), (@PySem.Value.str (@PySem.Str.ofString "module") (418 : Nat)), (@PySem.Value.str (@PySem.Str.ofString "number") (419 : Nat)), (@PySem.Value.str (@PySem.Str.ofString "params") (420 : Nat)), (@PySem.Value.str (@PySem.Str.ofString "size") (421 : Nat))] (0 : Nat)) #[])
noncomputable def o187 (PP : Params) : Obj := (@PySem.Obj.mk (@PySem.Value.type "dict") none (@PySem.Data.dict #[(@PySem.DictEntry.mk (@PySem.PyData.keyHash PP (@PySem.Str.ofString "__module__")) (@PySem.Value.str (@PySem.Str.ofString "__module__") (395 : Nat)) (@PySem.Value.str (@PySem.Str.ofString "moduleyard.types") (386 : Nat))), (@PySem.DictEntry.mk (@PySem.PyData.keyHash PP (@PySem.Str.ofString "__firstlineno__")) (@PySem.Value.str (@PySem.Str.ofString "__firstlineno__") (399 : Nat)) (@PySem.Value.int (143 : Int) (398 : Nat))), (@PySem.DictEntry.mk (@PySem.PyData.keyHash PP (@PySem.Str.ofString "__init__")) (@PySem.Value.str (@PySem.Str.ofString "__init__") (409 : Nat)) (@PySem.Value.ref (185 : Nat))), (@PySem.DictEntry.mk (@PySem.PyData.keyHash PP (@PySem.Str.ofString "__static_attributes__")) (@PySem.Value.str (@PySem.Str.ofString "__static_attributes__") (422 : Nat)) (@PySem.Value.ref (186 : Nat))), (@PySem.DictEntry.mk (@PySem.PyData.keyHash PP (@PySem.Str.ofString "__dict__")) (@PySem.Value.str (@PySem.Str.ofString "__dict__") (424 : Nat)) (@PySem.Value.ref (189 : Nat))), (@PySem.DictEntry.mk (@PySem.PyData.keyHash PP (@PySem.Str.ofString "__weakref__")) (@PySem.Value.str (@PySem.Str.ofString "__weakref__") (426 : Nat)) (@PySem.Value.ref (190 : Nat))), (@PySem.DictEntry.mk (@PySem.PyData.keyHash PP (@PySem.Str.ofString "__doc__")) (@PySem.Value.str (@PySem.Str.ofString "__doc__") (427 : Nat)) PySem.Value.none)] (4 : Nat)) #[])
noncomputable def o188 : Obj := (@PySem.Obj.mk (@PySem.Value.type "type") none (@PySem.Data.cls (@PySem.ClassData.mk (@PySem.Str.ofString "Type") [(@PySem.Value.type "object")] [(@PySem.Value.ref (188 : Nat)), (@PySem.Value.type "object")] (187 : Nat) (@PySem.Str.ofString "Type") Bool.true [] [] Bool.false none Bool.false)) #[none, none, (some (@PySem.Value.str (@PySem.Str.ofString "Type") (388 : Nat))), (some (@PySem.Value.str (@PySem.Str.ofString "Type") (396 : Nat))), (some (@PySem.Value.builtin "object.__new__")), (some (@PySem.Value.bool Bool.true))])
noncomputable def o189 : Obj := (@PySem.Obj.mk (@PySem.Value.type "getset_descriptor") none (@PySem.Data.fields #[(@PySem.Value.str (@PySem.Str.ofString "__dict__") (423 : Nat)), (@PySem.Value.ref (188 : Nat)), (@PySem.Value.builtin "function.__dict__"), (@PySem.Value.builtin "function.__dict__#set")]) #[])
noncomputable def o190 : Obj := (@PySem.Obj.mk (@PySem.Value.type "getset_descriptor") none (@PySem.Data.fields #[(@PySem.Value.str (@PySem.Str.ofString "__weakref__") (425 : Nat)), (@PySem.Value.ref (188 : Nat)), (@PySem.Value.builtin "ExceptionGroup.__weakref__"), PySem.Value.none]) #[])
noncomputable def o200 : Obj := (@PySem.Obj.mk (@PySem.Value.type "tuple") none (@PySem.Data.seq #[] (0 : Nat)) #[])
noncomputable def o202 : Obj := (@PySem.Obj.mk (@PySem.Value.type "tuple") none (@PySem.Data.seq #[(@PySem.Value.str (@PySem.Str.ofString "self") (445 : Nat)), (@PySem.Value.str (@PySem.Str.ofString "name") (446 : Nat)), (@PySem.Value.str (@PySem.Str.ofString "kind") (447 : Nat)), (@PySem.Value.str (@PySem.Str.ofString "type_of") (448 : Nat)), (@PySem.Value.str (@PySem.Str.ofString "place") (449 : Nat))] (0 : Nat)) #[])
noncomputable def o203 : Obj := (@PySem.Obj.mk (@PySem.Value.type "tuple") none (@PySem.Data.seq #[] (0 : Nat)) #[])
noncomputable def o205 : Obj := (@PySem.Obj.mk (@PySem.Value.type "code") none (@PySem.Data.fields #[(@PySem.Value.str (@PySem.Str.ofString "__init__") (442 : Nat)), (@PySem.Value.str (@PySem.Str.ofString "Obj.__init__") (443 : Nat)), (@PySem.Value.str (@PySem.Str.ofString "/claim/cut.py") (444 : Nat)), (@PySem.Value.int (160 : Int) (0 : Nat)), (@PySem.Value.int (5 : Int) (0 : Nat)), (@PySem.Value.int (0 : Int) (0 : Nat)), (@PySem.Value.int (0 : Int) (0 : Nat)), (@PySem.Value.int (3 : Int) (0 : Nat)), (@PySem.Value.ref (200 : Nat)), (@PySem.Value.bool Bool.true), (@PySem.Value.int (181 : Int) (0 : Nat)), (@PySem.Value.ref (201 : Nat)), PySem.Value.none, (@PySem.Value.ref (202 : Nat)), (@PySem.Value.ref (203 : Nat)), (@PySem.Value.ref (204 : Nat)), (@PySem.Value.int (450 : Int) (0 : Nat)), (@PySem.Value.int (160 : Int) (0 : Nat)), (@PySem.Value.str (@PySem.Str.ofString "/claim/cut.py") (451 : Nat))]) #[])
noncomputable def o206s : { o : Obj // o = (@PySem.Obj.mk (@PySem.Value.type "function") none (@PySem.Data.func (@PySem.FuncData.mk (@PySem.Str.ofString "__init__") (@PySem.Str.ofString "Obj.__init__") (fArgs (nth (clsBody (nth topBody 24)) 0)) (@PySem.FuncBody.stmts (fBody (nth (clsBody (nth topBody 24)) 0))) (fScope (nth (clsBody (nth topBody 24)) 0)) (3 : Nat) [] PySem.Value.none PySem.Value.none PySem.Value.none (@PySem.Value.str (@PySem.Str.ofString "moduleyard.types") (386 : Nat)) none (@PySem.Value.ref (205 : Nat)) PySem.Value.none (0 : Nat))) #[]) } := by
  delta topBody; delta PySem.Challenge.pw_pq0750_01; dsimp only [nth, clsBody, fArgs, fBody, fScope]
  exact ⟨_, rfl⟩
noncomputable def o206 : Obj := o206s.1
noncomputable def o207 : Obj := (@PySem.Obj.mk (@PySem.Value.type "tuple") none (@PySem.Data.seq #[(@PySem.Value.str (@PySem.Str.ofString "exported") (453 : Nat)), (@PySem.Value.str (@PySem.Str.ofString "isparam") (454 : Nat)), (@PySem.Value.str (@PySem.Str.ofString "kind") (455 : Nat)), (@PySem.Value.str (@PySem.Str.ofString "level") (456 : Nat)), (@PySem.Value.str (@PySem.Str.ofString "module") (457 : Nat)), (@PySem.Value.str (@PySem.Str.ofString "name") (458 : Nat)), (@PySem.Value.str (@PySem.Str.ofString "narrowed") (459 : Nat)), (@PySem.Value.str (@PySem.Str.ofString "number") (460 : Nat)), (@PySem.Value.str (@PySem.Str.ofString "offset") (461 : Nat)), (@PySem.Value.str (@PySem.Str.ofString "place") (462 : Nat)), (@PySem.Value.str (@PySem.Str.ofString "readonly") (463 : Nat)), (@PySem.Value.str (@PySem.Str.ofString "slot") (464 : Nat)), (@PySem.Value.str (@PySem.Str.ofString "type") (465 : Nat)), (@PySem.Value.str (@PySem.Str.ofString "value") (466 : Nat))] (0 : Nat)) #[])
noncomputable def o208 (PP : Params) : Obj := (@PySem.Obj.mk (@PySem.Value.type "dict") none (@PySem.Data.dict #[(@PySem.DictEntry.mk (@PySem.PyData.keyHash PP (@PySem.Str.ofString "__module__")) (@PySem.Value.str (@PySem.Str.ofString "__module__") (437 : Nat)) (@PySem.Value.str (@PySem.Str.ofString "moduleyard.types") (386 : Nat))), (@PySem.DictEntry.mk (@PySem.PyData.keyHash PP (@PySem.Str.ofString "__firstlineno__")) (@PySem.Value.str (@PySem.Str.ofString "__firstlineno__") (441 : Nat)) (@PySem.Value.int (158 : Int) (440 : Nat))), (@PySem.DictEntry.mk (@PySem.PyData.keyHash PP (@PySem.Str.ofString "__init__")) (@PySem.Value.str (@PySem.Str.ofString "__init__") (452 : Nat)) (@PySem.Value.ref (206 : Nat))), (@PySem.DictEntry.mk (@PySem.PyData.keyHash PP (@PySem.Str.ofString "__static_attributes__")) (@PySem.Value.str (@PySem.Str.ofString "__static_attributes__") (467 : Nat)) (@PySem.Value.ref (207 : Nat))), (@PySem.DictEntry.mk (@PySem.PyData.keyHash PP (@PySem.Str.ofString "__dict__")) (@PySem.Value.str (@PySem.Str.ofString "__dict__") (469 : Nat)) (@PySem.Value.ref (210 : Nat))), (@PySem.DictEntry.mk (@PySem.PyData.keyHash PP (@PySem.Str.ofString "__weakref__")) (@PySem.Value.str (@PySem.Str.ofString "__weakref__") (471 : Nat)) (@PySem.Value.ref (211 : Nat))), (@PySem.DictEntry.mk (@PySem.PyData.keyHash PP (@PySem.Str.ofString "__doc__")) (@PySem.Value.str (@PySem.Str.ofString "__doc__") (472 : Nat)) PySem.Value.none)] (4 : Nat)) #[])
noncomputable def o209 : Obj := (@PySem.Obj.mk (@PySem.Value.type "type") none (@PySem.Data.cls (@PySem.ClassData.mk (@PySem.Str.ofString "Obj") [(@PySem.Value.type "object")] [(@PySem.Value.ref (209 : Nat)), (@PySem.Value.type "object")] (208 : Nat) (@PySem.Str.ofString "Obj") Bool.true [] [] Bool.false none Bool.false)) #[none, none, (some (@PySem.Value.str (@PySem.Str.ofString "Obj") (430 : Nat))), (some (@PySem.Value.str (@PySem.Str.ofString "Obj") (438 : Nat))), (some (@PySem.Value.builtin "object.__new__")), (some (@PySem.Value.bool Bool.true))])
noncomputable def o210 : Obj := (@PySem.Obj.mk (@PySem.Value.type "getset_descriptor") none (@PySem.Data.fields #[(@PySem.Value.str (@PySem.Str.ofString "__dict__") (468 : Nat)), (@PySem.Value.ref (209 : Nat)), (@PySem.Value.builtin "function.__dict__"), (@PySem.Value.builtin "function.__dict__#set")]) #[])
noncomputable def o211 : Obj := (@PySem.Obj.mk (@PySem.Value.type "getset_descriptor") none (@PySem.Data.fields #[(@PySem.Value.str (@PySem.Str.ofString "__weakref__") (470 : Nat)), (@PySem.Value.ref (209 : Nat)), (@PySem.Value.builtin "ExceptionGroup.__weakref__"), PySem.Value.none]) #[])
noncomputable def o221 : Obj := (@PySem.Obj.mk (@PySem.Value.type "tuple") none (@PySem.Data.seq #[] (0 : Nat)) #[])
noncomputable def o223 : Obj := (@PySem.Obj.mk (@PySem.Value.type "tuple") none (@PySem.Data.seq #[(@PySem.Value.str (@PySem.Str.ofString "self") (490 : Nat))] (0 : Nat)) #[])
noncomputable def o224 : Obj := (@PySem.Obj.mk (@PySem.Value.type "tuple") none (@PySem.Data.seq #[] (0 : Nat)) #[])
noncomputable def o226 : Obj := (@PySem.Obj.mk (@PySem.Value.type "code") none (@PySem.Data.fields #[(@PySem.Value.str (@PySem.Str.ofString "__init__") (487 : Nat)), (@PySem.Value.str (@PySem.Str.ofString "Types.__init__") (488 : Nat)), (@PySem.Value.str (@PySem.Str.ofString "/claim/cut.py") (489 : Nat)), (@PySem.Value.int (177 : Int) (0 : Nat)), (@PySem.Value.int (1 : Int) (0 : Nat)), (@PySem.Value.int (0 : Int) (0 : Nat)), (@PySem.Value.int (0 : Int) (0 : Nat)), (@PySem.Value.int (3 : Int) (0 : Nat)), (@PySem.Value.ref (221 : Nat)), (@PySem.Value.bool Bool.true), (@PySem.Value.int (181 : Int) (0 : Nat)), (@PySem.Value.ref (222 : Nat)), PySem.Value.none, (@PySem.Value.ref (223 : Nat)), (@PySem.Value.ref (224 : Nat)), (@PySem.Value.ref (225 : Nat)), (@PySem.Value.int (491 : Int) (0 : Nat)), (@PySem.Value.int (177 : Int) (0 : Nat)), (@PySem.Value.str (@PySem.Str.ofString "/claim/cut.py") (492 : Nat))]) #[])
noncomputable def o227s : { o : Obj // o = (@PySem.Obj.mk (@PySem.Value.type "function") none (@PySem.Data.func (@PySem.FuncData.mk (@PySem.Str.ofString "__init__") (@PySem.Str.ofString "Types.__init__") (fArgs (nth (clsBody (nth topBody 25)) 0)) (@PySem.FuncBody.stmts (fBody (nth (clsBody (nth topBody 25)) 0))) (fScope (nth (clsBody (nth topBody 25)) 0)) (3 : Nat) [] PySem.Value.none PySem.Value.none PySem.Value.none (@PySem.Value.str (@PySem.Str.ofString "moduleyard.types") (386 : Nat)) none (@PySem.Value.ref (226 : Nat)) PySem.Value.none (0 : Nat))) #[]) } := by
  delta topBody; delta PySem.Challenge.pw_pq0750_01; dsimp only [nth, clsBody, fArgs, fBody, fScope]
  exact ⟨_, rfl⟩
noncomputable def o227 : Obj := o227s.1
noncomputable def o228 : Obj := (@PySem.Obj.mk (@PySem.Value.type "tuple") none (@PySem.Data.seq #[(@PySem.Value.str (@PySem.Str.ofString "") (494 : Nat)), (@PySem.Value.str (@PySem.Str.ofString "") (495 : Nat))] (0 : Nat)) #[])
noncomputable def o229 : Obj := (@PySem.Obj.mk (@PySem.Value.type "tuple") none (@PySem.Data.seq #[] (0 : Nat)) #[])
noncomputable def o231 : Obj := (@PySem.Obj.mk (@PySem.Value.type "tuple") none (@PySem.Data.seq #[(@PySem.Value.str (@PySem.Str.ofString "self") (499 : Nat)), (@PySem.Value.str (@PySem.Str.ofString "form") (500 : Nat)), (@PySem.Value.str (@PySem.Str.ofString "size") (501 : Nat)), (@PySem.Value.str (@PySem.Str.ofString "module") (502 : Nat)), (@PySem.Value.str (@PySem.Str.ofString "label") (503 : Nat)), (@PySem.Value.str (@PySem.Str.ofString "made") (504 : Nat))] (0 : Nat)) #[])
noncomputable def o232 : Obj := (@PySem.Obj.mk (@PySem.Value.type "tuple") none (@PySem.Data.seq #[] (0 : Nat)) #[])
noncomputable def o234 : Obj := (@PySem.Obj.mk (@PySem.Value.type "code") none (@PySem.Data.fields #[(@PySem.Value.str (@PySem.Str.ofString "new") (496 : Nat)), (@PySem.Value.str (@PySem.Str.ofString "Types.new") (497 : Nat)), (@PySem.Value.str (@PySem.Str.ofString "/claim/cut.py") (498 : Nat)), (@PySem.Value.int (188 : Int) (0 : Nat)), (@PySem.Value.int (5 : Int) (0 : Nat)), (@PySem.Value.int (0 : Int) (0 : Nat)), (@PySem.Value.int (0 : Int) (0 : Nat)), (@PySem.Value.int (3 : Int) (0 : Nat)), (@PySem.Value.ref (229 : Nat)), (@PySem.Value.bool Bool.true), (@PySem.Value.int (181 : Int) (0 : Nat)), (@PySem.Value.ref (230 : Nat)), PySem.Value.none, (@PySem.Value.ref (231 : Nat)), (@PySem.Value.ref (232 : Nat)), (@PySem.Value.ref (233 : Nat)), (@PySem.Value.int (505 : Int) (0 : Nat)), (@PySem.Value.int (188 : Int) (0 : Nat)), (@PySem.Value.str (@PySem.Str.ofString "/claim/cut.py") (506 : Nat))]) #[])
noncomputable def o235s : { o : Obj // o = (@PySem.Obj.mk (@PySem.Value.type "function") none (@PySem.Data.func (@PySem.FuncData.mk (@PySem.Str.ofString "new") (@PySem.Str.ofString "Types.new") (fArgs (nth (clsBody (nth topBody 25)) 1)) (@PySem.FuncBody.stmts (fBody (nth (clsBody (nth topBody 25)) 1))) (fScope (nth (clsBody (nth topBody 25)) 1)) (3 : Nat) [] (@PySem.Value.ref (228 : Nat)) PySem.Value.none PySem.Value.none (@PySem.Value.str (@PySem.Str.ofString "moduleyard.types") (386 : Nat)) none (@PySem.Value.ref (234 : Nat)) PySem.Value.none (0 : Nat))) #[]) } := by
  delta topBody; delta PySem.Challenge.pw_pq0750_01; dsimp only [nth, clsBody, fArgs, fBody, fScope]
  exact ⟨_, rfl⟩
noncomputable def o235 : Obj := o235s.1
noncomputable def o236 : Obj := (@PySem.Obj.mk (@PySem.Value.type "tuple") none (@PySem.Data.seq #[] (0 : Nat)) #[])
noncomputable def o238 : Obj := (@PySem.Obj.mk (@PySem.Value.type "tuple") none (@PySem.Data.seq #[(@PySem.Value.str (@PySem.Str.ofString "self") (511 : Nat)), (@PySem.Value.str (@PySem.Str.ofString "length") (512 : Nat)), (@PySem.Value.str (@PySem.Str.ofString "made") (513 : Nat))] (0 : Nat)) #[])
noncomputable def o239 : Obj := (@PySem.Obj.mk (@PySem.Value.type "tuple") none (@PySem.Data.seq #[] (0 : Nat)) #[])
noncomputable def o241 : Obj := (@PySem.Obj.mk (@PySem.Value.type "code") none (@PySem.Data.fields #[(@PySem.Value.str (@PySem.Str.ofString "string") (508 : Nat)), (@PySem.Value.str (@PySem.Str.ofString "Types.string") (509 : Nat)), (@PySem.Value.str (@PySem.Str.ofString "/claim/cut.py") (510 : Nat)), (@PySem.Value.int (197 : Int) (0 : Nat)), (@PySem.Value.int (2 : Int) (0 : Nat)), (@PySem.Value.int (0 : Int) (0 : Nat)), (@PySem.Value.int (0 : Int) (0 : Nat)), (@PySem.Value.int (3 : Int) (0 : Nat)), (@PySem.Value.ref (236 : Nat)), (@PySem.Value.bool Bool.true), (@PySem.Value.int (181 : Int) (0 : Nat)), (@PySem.Value.ref (237 : Nat)), PySem.Value.none, (@PySem.Value.ref (238 : Nat)), (@PySem.Value.ref (239 : Nat)), (@PySem.Value.ref (240 : Nat)), (@PySem.Value.int (514 : Int) (0 : Nat)), (@PySem.Value.int (197 : Int) (0 : Nat)), (@PySem.Value.str (@PySem.Str.ofString "/claim/cut.py") (515 : Nat))]) #[])
noncomputable def o242s : { o : Obj // o = (@PySem.Obj.mk (@PySem.Value.type "function") none (@PySem.Data.func (@PySem.FuncData.mk (@PySem.Str.ofString "string") (@PySem.Str.ofString "Types.string") (fArgs (nth (clsBody (nth topBody 25)) 2)) (@PySem.FuncBody.stmts (fBody (nth (clsBody (nth topBody 25)) 2))) (fScope (nth (clsBody (nth topBody 25)) 2)) (3 : Nat) [] PySem.Value.none PySem.Value.none PySem.Value.none (@PySem.Value.str (@PySem.Str.ofString "moduleyard.types") (386 : Nat)) none (@PySem.Value.ref (241 : Nat)) PySem.Value.none (0 : Nat))) #[]) } := by
  delta topBody; delta PySem.Challenge.pw_pq0750_01; dsimp only [nth, clsBody, fArgs, fBody, fScope]
  exact ⟨_, rfl⟩
noncomputable def o242 : Obj := o242s.1
noncomputable def o243 : Obj := (@PySem.Obj.mk (@PySem.Value.type "tuple") none (@PySem.Data.seq #[(@PySem.Value.str (@PySem.Str.ofString "boolean") (517 : Nat)), (@PySem.Value.str (@PySem.Str.ofString "byte") (518 : Nat)), (@PySem.Value.str (@PySem.Str.ofString "char") (519 : Nat)), (@PySem.Value.str (@PySem.Str.ofString "counter") (520 : Nat)), (@PySem.Value.str (@PySem.Str.ofString "integer") (521 : Nat)), (@PySem.Value.str (@PySem.Str.ofString "known") (522 : Nat)), (@PySem.Value.str (@PySem.Str.ofString "mask") (523 : Nat)), (@PySem.Value.str (@PySem.Str.ofString "nil") (524 : Nat)), (@PySem.Value.str (@PySem.Str.ofString "none") (525 : Nat))] (0 : Nat)) #[])
noncomputable def o244 (PP : Params) : Obj := (@PySem.Obj.mk (@PySem.Value.type "dict") none (@PySem.Data.dict #[(@PySem.DictEntry.mk (@PySem.PyData.keyHash PP (@PySem.Str.ofString "__module__")) (@PySem.Value.str (@PySem.Str.ofString "__module__") (482 : Nat)) (@PySem.Value.str (@PySem.Str.ofString "moduleyard.types") (386 : Nat))), (@PySem.DictEntry.mk (@PySem.PyData.keyHash PP (@PySem.Str.ofString "__firstlineno__")) (@PySem.Value.str (@PySem.Str.ofString "__firstlineno__") (486 : Nat)) (@PySem.Value.int (175 : Int) (485 : Nat))), (@PySem.DictEntry.mk (@PySem.PyData.keyHash PP (@PySem.Str.ofString "__init__")) (@PySem.Value.str (@PySem.Str.ofString "__init__") (493 : Nat)) (@PySem.Value.ref (227 : Nat))), (@PySem.DictEntry.mk (@PySem.PyData.keyHash PP (@PySem.Str.ofString "new")) (@PySem.Value.str (@PySem.Str.ofString "new") (507 : Nat)) (@PySem.Value.ref (235 : Nat))), (@PySem.DictEntry.mk (@PySem.PyData.keyHash PP (@PySem.Str.ofString "string")) (@PySem.Value.str (@PySem.Str.ofString "string") (516 : Nat)) (@PySem.Value.ref (242 : Nat))), (@PySem.DictEntry.mk (@PySem.PyData.keyHash PP (@PySem.Str.ofString "__static_attributes__")) (@PySem.Value.str (@PySem.Str.ofString "__static_attributes__") (526 : Nat)) (@PySem.Value.ref (243 : Nat))), (@PySem.DictEntry.mk (@PySem.PyData.keyHash PP (@PySem.Str.ofString "__dict__")) (@PySem.Value.str (@PySem.Str.ofString "__dict__") (528 : Nat)) (@PySem.Value.ref (246 : Nat))), (@PySem.DictEntry.mk (@PySem.PyData.keyHash PP (@PySem.Str.ofString "__weakref__")) (@PySem.Value.str (@PySem.Str.ofString "__weakref__") (530 : Nat)) (@PySem.Value.ref (247 : Nat))), (@PySem.DictEntry.mk (@PySem.PyData.keyHash PP (@PySem.Str.ofString "__doc__")) (@PySem.Value.str (@PySem.Str.ofString "__doc__") (531 : Nat)) PySem.Value.none)] (4 : Nat)) #[])
noncomputable def o245 : Obj := (@PySem.Obj.mk (@PySem.Value.type "type") none (@PySem.Data.cls (@PySem.ClassData.mk (@PySem.Str.ofString "Types") [(@PySem.Value.type "object")] [(@PySem.Value.ref (245 : Nat)), (@PySem.Value.type "object")] (244 : Nat) (@PySem.Str.ofString "Types") Bool.true [] [] Bool.false none Bool.false)) #[none, none, (some (@PySem.Value.str (@PySem.Str.ofString "Types") (475 : Nat))), (some (@PySem.Value.str (@PySem.Str.ofString "Types") (483 : Nat))), (some (@PySem.Value.builtin "object.__new__")), (some (@PySem.Value.bool Bool.true))])
noncomputable def o246 : Obj := (@PySem.Obj.mk (@PySem.Value.type "getset_descriptor") none (@PySem.Data.fields #[(@PySem.Value.str (@PySem.Str.ofString "__dict__") (527 : Nat)), (@PySem.Value.ref (245 : Nat)), (@PySem.Value.builtin "function.__dict__"), (@PySem.Value.builtin "function.__dict__#set")]) #[])
noncomputable def o247 : Obj := (@PySem.Obj.mk (@PySem.Value.type "getset_descriptor") none (@PySem.Data.fields #[(@PySem.Value.str (@PySem.Str.ofString "__weakref__") (529 : Nat)), (@PySem.Value.ref (245 : Nat)), (@PySem.Value.builtin "ExceptionGroup.__weakref__"), PySem.Value.none]) #[])
noncomputable def o250 : Obj := (@PySem.Obj.mk (@PySem.Value.type "tuple") none (@PySem.Data.seq #[] (0 : Nat)) #[])
noncomputable def o252 : Obj := (@PySem.Obj.mk (@PySem.Value.type "tuple") none (@PySem.Data.seq #[(@PySem.Value.str (@PySem.Str.ofString "state") (539 : Nat)), (@PySem.Value.str (@PySem.Str.ofString "most") (540 : Nat)), (@PySem.Value.str (@PySem.Str.ofString "row") (541 : Nat)), (@PySem.Value.str (@PySem.Str.ofString "at") (542 : Nat))] (0 : Nat)) #[])
noncomputable def o253 : Obj := (@PySem.Obj.mk (@PySem.Value.type "tuple") none (@PySem.Data.seq #[] (0 : Nat)) #[])
noncomputable def o255 : Obj := (@PySem.Obj.mk (@PySem.Value.type "code") none (@PySem.Data.fields #[(@PySem.Value.str (@PySem.Str.ofString "_law_take") (536 : Nat)), (@PySem.Value.str (@PySem.Str.ofString "_law_take") (537 : Nat)), (@PySem.Value.str (@PySem.Str.ofString "/claim/cut.py") (538 : Nat)), (@PySem.Value.int (203 : Int) (0 : Nat)), (@PySem.Value.int (2 : Int) (0 : Nat)), (@PySem.Value.int (0 : Int) (0 : Nat)), (@PySem.Value.int (0 : Int) (0 : Nat)), (@PySem.Value.int (3 : Int) (0 : Nat)), (@PySem.Value.ref (250 : Nat)), (@PySem.Value.bool Bool.true), (@PySem.Value.int (181 : Int) (0 : Nat)), (@PySem.Value.ref (251 : Nat)), PySem.Value.none, (@PySem.Value.ref (252 : Nat)), (@PySem.Value.ref (253 : Nat)), (@PySem.Value.ref (254 : Nat)), (@PySem.Value.int (543 : Int) (0 : Nat)), (@PySem.Value.int (203 : Int) (0 : Nat)), (@PySem.Value.str (@PySem.Str.ofString "/claim/cut.py") (544 : Nat))]) #[])
noncomputable def o256s : { o : Obj // o = (@PySem.Obj.mk (@PySem.Value.type "function") none (@PySem.Data.func (@PySem.FuncData.mk (@PySem.Str.ofString "_law_take") (@PySem.Str.ofString "_law_take") (fArgs (nth topBody 27)) (@PySem.FuncBody.stmts (fBody (nth topBody 27))) (fScope (nth topBody 27)) (3 : Nat) [] PySem.Value.none PySem.Value.none PySem.Value.none (@PySem.Value.str (@PySem.Str.ofString "law_pq0750_01") (534 : Nat)) none (@PySem.Value.ref (255 : Nat)) PySem.Value.none (0 : Nat))) #[]) } := by
  delta topBody; delta PySem.Challenge.pw_pq0750_01; dsimp only [nth, clsBody, fArgs, fBody, fScope]
  exact ⟨_, rfl⟩
noncomputable def o256 : Obj := o256s.1
noncomputable def o257 : Obj := (@PySem.Obj.mk (@PySem.Value.type "tuple") none (@PySem.Data.seq #[] (0 : Nat)) #[])
noncomputable def o259 : Obj := (@PySem.Obj.mk (@PySem.Value.type "tuple") none (@PySem.Data.seq #[(@PySem.Value.str (@PySem.Str.ofString "node") (549 : Nat)), (@PySem.Value.str (@PySem.Str.ofString "place_level") (550 : Nat)), (@PySem.Value.str (@PySem.Str.ofString "form") (551 : Nat)), (@PySem.Value.str (@PySem.Str.ofString "level") (552 : Nat)), (@PySem.Value.str (@PySem.Str.ofString "readonly") (553 : Nat)), (@PySem.Value.str (@PySem.Str.ofString "kind") (554 : Nat)), (@PySem.Value.str (@PySem.Str.ofString "wanted_form") (555 : Nat)), (@PySem.Value.str (@PySem.Str.ofString "wanted") (556 : Nat))] (0 : Nat)) #[])
noncomputable def o260 : Obj := (@PySem.Obj.mk (@PySem.Value.type "tuple") none (@PySem.Data.seq #[] (0 : Nat)) #[])
noncomputable def o262 : Obj := (@PySem.Obj.mk (@PySem.Value.type "code") none (@PySem.Data.fields #[(@PySem.Value.str (@PySem.Str.ofString "_law_due") (546 : Nat)), (@PySem.Value.str (@PySem.Str.ofString "_law_due") (547 : Nat)), (@PySem.Value.str (@PySem.Str.ofString "/claim/cut.py") (548 : Nat)), (@PySem.Value.int (209 : Int) (0 : Nat)), (@PySem.Value.int (8 : Int) (0 : Nat)), (@PySem.Value.int (0 : Int) (0 : Nat)), (@PySem.Value.int (0 : Int) (0 : Nat)), (@PySem.Value.int (3 : Int) (0 : Nat)), (@PySem.Value.ref (257 : Nat)), (@PySem.Value.bool Bool.true), (@PySem.Value.int (181 : Int) (0 : Nat)), (@PySem.Value.ref (258 : Nat)), PySem.Value.none, (@PySem.Value.ref (259 : Nat)), (@PySem.Value.ref (260 : Nat)), (@PySem.Value.ref (261 : Nat)), (@PySem.Value.int (557 : Int) (0 : Nat)), (@PySem.Value.int (209 : Int) (0 : Nat)), (@PySem.Value.str (@PySem.Str.ofString "/claim/cut.py") (558 : Nat))]) #[])
noncomputable def o263s : { o : Obj // o = (@PySem.Obj.mk (@PySem.Value.type "function") none (@PySem.Data.func (@PySem.FuncData.mk (@PySem.Str.ofString "_law_due") (@PySem.Str.ofString "_law_due") (fArgs (nth topBody 28)) (@PySem.FuncBody.stmts (fBody (nth topBody 28))) (fScope (nth topBody 28)) (3 : Nat) [] PySem.Value.none PySem.Value.none PySem.Value.none (@PySem.Value.str (@PySem.Str.ofString "law_pq0750_01") (534 : Nat)) none (@PySem.Value.ref (262 : Nat)) PySem.Value.none (0 : Nat))) #[]) } := by
  delta topBody; delta PySem.Challenge.pw_pq0750_01; dsimp only [nth, clsBody, fArgs, fBody, fScope]
  exact ⟨_, rfl⟩
noncomputable def o263 : Obj := o263s.1
noncomputable def o264 : Obj := (@PySem.Obj.mk (@PySem.Value.type "tuple") none (@PySem.Data.seq #[] (0 : Nat)) #[])
noncomputable def o266 : Obj := (@PySem.Obj.mk (@PySem.Value.type "tuple") none (@PySem.Data.seq #[(@PySem.Value.str (@PySem.Str.ofString "script") (563 : Nat)), (@PySem.Value.str (@PySem.Str.ofString "state") (564 : Nat)), (@PySem.Value.str (@PySem.Str.ofString "types") (565 : Nat)), (@PySem.Value.str (@PySem.Str.ofString "records") (566 : Nat)), (@PySem.Value.str (@PySem.Str.ofString "pointers") (567 : Nat)), (@PySem.Value.str (@PySem.Str.ofString "level") (568 : Nat)), (@PySem.Value.str (@PySem.Str.ofString "record") (569 : Nat)), (@PySem.Value.str (@PySem.Str.ofString "pointer") (570 : Nat)), (@PySem.Value.str (@PySem.Str.ofString "sort") (571 : Nat)), (@PySem.Value.str (@PySem.Str.ofString "readonly") (572 : Nat)), (@PySem.Value.str (@PySem.Str.ofString "place_level") (573 : Nat)), (@PySem.Value.str (@PySem.Str.ofString "form") (574 : Nat)), (@PySem.Value.str (@PySem.Str.ofString "one") (575 : Nat)), (@PySem.Value.str (@PySem.Str.ofString "node") (576 : Nat)), (@PySem.Value.str (@PySem.Str.ofString "go_of") (577 : Nat)), (@PySem.Value.str (@PySem.Str.ofString "t") (578 : Nat)), (@PySem.Value.str (@PySem.Str.ofString "kind") (579 : Nat)), (@PySem.Value.str (@PySem.Str.ofString "wanted_form") (580 : Nat)), (@PySem.Value.str (@PySem.Str.ofString "wanted") (581 : Nat)), (@PySem.Value.str (@PySem.Str.ofString "par") (582 : Nat)), (@PySem.Value.str (@PySem.Str.ofString "due") (583 : Nat))] (0 : Nat)) #[])
noncomputable def o267 : Obj := (@PySem.Obj.mk (@PySem.Value.type "tuple") none (@PySem.Data.seq #[] (0 : Nat)) #[])
noncomputable def o269 : Obj := (@PySem.Obj.mk (@PySem.Value.type "code") none (@PySem.Data.fields #[(@PySem.Value.str (@PySem.Str.ofString "law") (560 : Nat)), (@PySem.Value.str (@PySem.Str.ofString "law") (561 : Nat)), (@PySem.Value.str (@PySem.Str.ofString "/claim/cut.py") (562 : Nat)), (@PySem.Value.int (221 : Int) (0 : Nat)), (@PySem.Value.int (1 : Int) (0 : Nat)), (@PySem.Value.int (0 : Int) (0 : Nat)), (@PySem.Value.int (0 : Int) (0 : Nat)), (@PySem.Value.int (3 : Int) (0 : Nat)), (@PySem.Value.ref (264 : Nat)), (@PySem.Value.bool Bool.true), (@PySem.Value.int (181 : Int) (0 : Nat)), (@PySem.Value.ref (265 : Nat)), PySem.Value.none, (@PySem.Value.ref (266 : Nat)), (@PySem.Value.ref (267 : Nat)), (@PySem.Value.ref (268 : Nat)), (@PySem.Value.int (584 : Int) (0 : Nat)), (@PySem.Value.int (221 : Int) (0 : Nat)), (@PySem.Value.str (@PySem.Str.ofString "/claim/cut.py") (585 : Nat))]) #[])
noncomputable def o270s : { o : Obj // o = (@PySem.Obj.mk (@PySem.Value.type "function") none (@PySem.Data.func (@PySem.FuncData.mk (@PySem.Str.ofString "law") (@PySem.Str.ofString "law") (fArgs (nth topBody 29)) (@PySem.FuncBody.stmts (fBody (nth topBody 29))) (fScope (nth topBody 29)) (3 : Nat) [] PySem.Value.none PySem.Value.none PySem.Value.none (@PySem.Value.str (@PySem.Str.ofString "law_pq0750_01") (534 : Nat)) none (@PySem.Value.ref (269 : Nat)) PySem.Value.none (0 : Nat))) #[]) } := by
  delta topBody; delta PySem.Challenge.pw_pq0750_01; dsimp only [nth, clsBody, fArgs, fBody, fScope]
  exact ⟨_, rfl⟩
noncomputable def o270 : Obj := o270s.1
noncomputable def KK : Params → Frag := fun P => (nat_lit 2, o2) :: (nat_lit 3, o3 P) :: (nat_lit 22, o22) :: (nat_lit 23, o23) :: (nat_lit 25, o25) :: (nat_lit 26, o26) :: (nat_lit 28, o28) :: (nat_lit 29, o29) :: (nat_lit 30, o30) :: (nat_lit 31, o31 P) :: (nat_lit 32, o32) :: (nat_lit 33, o33) :: (nat_lit 34, o34) :: (nat_lit 37, o37) :: (nat_lit 39, o39) :: (nat_lit 40, o40) :: (nat_lit 42, o42) :: (nat_lit 43, o43) :: (nat_lit 44, o44) :: (nat_lit 46, o46) :: (nat_lit 47, o47) :: (nat_lit 49, o49) :: (nat_lit 50, o50) :: (nat_lit 51, o51) :: (nat_lit 53, o53) :: (nat_lit 54, o54) :: (nat_lit 56, o56) :: (nat_lit 57, o57) :: (nat_lit 58, o58) :: (nat_lit 60, o60) :: (nat_lit 61, o61) :: (nat_lit 63, o63) :: (nat_lit 64, o64) :: (nat_lit 65, o65) :: (nat_lit 67, o67) :: (nat_lit 68, o68) :: (nat_lit 70, o70) :: (nat_lit 71, o71) :: (nat_lit 72, o72) :: (nat_lit 74, o74) :: (nat_lit 75, o75) :: (nat_lit 77, o77) :: (nat_lit 78, o78) :: (nat_lit 79, o79) :: (nat_lit 81, o81) :: (nat_lit 82, o82) :: (nat_lit 84, o84) :: (nat_lit 85, o85) :: (nat_lit 86, o86) :: (nat_lit 88, o88) :: (nat_lit 89, o89) :: (nat_lit 91, o91) :: (nat_lit 92, o92) :: (nat_lit 93, o93) :: (nat_lit 95, o95) :: (nat_lit 96, o96) :: (nat_lit 98, o98) :: (nat_lit 99, o99) :: (nat_lit 100, o100) :: (nat_lit 101, o101) :: (nat_lit 103, o103) :: (nat_lit 104, o104) :: (nat_lit 106, o106) :: (nat_lit 107, o107) :: (nat_lit 108, o108) :: (nat_lit 109, o109) :: (nat_lit 111, o111) :: (nat_lit 112, o112) :: (nat_lit 114, o114) :: (nat_lit 115, o115) :: (nat_lit 116, o116) :: (nat_lit 118, o118) :: (nat_lit 119, o119) :: (nat_lit 121, o121) :: (nat_lit 122, o122) :: (nat_lit 123, o123) :: (nat_lit 125, o125) :: (nat_lit 126, o126) :: (nat_lit 128, o128) :: (nat_lit 129, o129) :: (nat_lit 130, o130) :: (nat_lit 132, o132) :: (nat_lit 133, o133) :: (nat_lit 135, o135) :: (nat_lit 136, o136) :: (nat_lit 137, o137) :: (nat_lit 139, o139) :: (nat_lit 140, o140) :: (nat_lit 142, o142) :: (nat_lit 143, o143) :: (nat_lit 144, o144) :: (nat_lit 146, o146) :: (nat_lit 147, o147) :: (nat_lit 149, o149) :: (nat_lit 150, o150) :: (nat_lit 151, o151) :: (nat_lit 153, o153) :: (nat_lit 154, o154) :: (nat_lit 156, o156) :: (nat_lit 157, o157) :: (nat_lit 158, o158) :: (nat_lit 160, o160) :: (nat_lit 161, o161) :: (nat_lit 163, o163) :: (nat_lit 164, o164) :: (nat_lit 165, o165) :: (nat_lit 167, o167) :: (nat_lit 168, o168) :: (nat_lit 170, o170) :: (nat_lit 171, o171) :: (nat_lit 179, o179) :: (nat_lit 181, o181) :: (nat_lit 182, o182) :: (nat_lit 184, o184) :: (nat_lit 185, o185) :: (nat_lit 186, o186) :: (nat_lit 187, o187 P) :: (nat_lit 188, o188) :: (nat_lit 189, o189) :: (nat_lit 190, o190) :: (nat_lit 200, o200) :: (nat_lit 202, o202) :: (nat_lit 203, o203) :: (nat_lit 205, o205) :: (nat_lit 206, o206) :: (nat_lit 207, o207) :: (nat_lit 208, o208 P) :: (nat_lit 209, o209) :: (nat_lit 210, o210) :: (nat_lit 211, o211) :: (nat_lit 221, o221) :: (nat_lit 223, o223) :: (nat_lit 224, o224) :: (nat_lit 226, o226) :: (nat_lit 227, o227) :: (nat_lit 228, o228) :: (nat_lit 229, o229) :: (nat_lit 231, o231) :: (nat_lit 232, o232) :: (nat_lit 234, o234) :: (nat_lit 235, o235) :: (nat_lit 236, o236) :: (nat_lit 238, o238) :: (nat_lit 239, o239) :: (nat_lit 241, o241) :: (nat_lit 242, o242) :: (nat_lit 243, o243) :: (nat_lit 244, o244 P) :: (nat_lit 245, o245) :: (nat_lit 246, o246) :: (nat_lit 247, o247) :: (nat_lit 250, o250) :: (nat_lit 252, o252) :: (nat_lit 253, o253) :: (nat_lit 255, o255) :: (nat_lit 256, o256) :: (nat_lit 257, o257) :: (nat_lit 259, o259) :: (nat_lit 260, o260) :: (nat_lit 262, o262) :: (nat_lit 263, o263) :: (nat_lit 264, o264) :: (nat_lit 266, o266) :: (nat_lit 267, o267) :: (nat_lit 269, o269) :: (nat_lit 270, o270) :: []
def AS : List Addr := [2, 3, 22, 23, 25, 26, 28, 29, 30, 31, 32, 33, 34, 37, 39, 40, 42, 43, 44, 46, 47, 49, 50, 51, 53, 54, 56, 57, 58, 60, 61, 63, 64, 65, 67, 68, 70, 71, 72, 74, 75, 77, 78, 79, 81, 82, 84, 85, 86, 88, 89, 91, 92, 93, 95, 96, 98, 99, 100, 101, 103, 104, 106, 107, 108, 109, 111, 112, 114, 115, 116, 118, 119, 121, 122, 123, 125, 126, 128, 129, 130, 132, 133, 135, 136, 137, 139, 140, 142, 143, 144, 146, 147, 149, 150, 151, 153, 154, 156, 157, 158, 160, 161, 163, 164, 165, 167, 168, 170, 171, 179, 181, 182, 184, 185, 186, 187, 188, 189, 190, 200, 202, 203, 205, 206, 207, 208, 209, 210, 211, 221, 223, 224, 226, 227, 228, 229, 231, 232, 234, 235, 236, 238, 239, 241, 242, 243, 244, 245, 246, 247, 250, 252, 253, 255, 256, 257, 259, 260, 262, 263, 264, 266, 267, 269, 270]
noncomputable def VWs : { p : Program // p = { PySem.Challenge.pw_pq0750_01 with main := { PySem.Challenge.pw_pq0750_01.main with body := [nth topBody 1, nth topBody 2, nth topBody 3, nth topBody 4, nth topBody 6, nth topBody 7, nth topBody 8, nth topBody 9, nth topBody 10, nth topBody 11, nth topBody 14, nth topBody 15, nth topBody 16, nth topBody 17, nth topBody 18, nth topBody 19, nth topBody 20, nth topBody 21, nth topBody 23, nth topBody 24, nth topBody 25, nth topBody 27, nth topBody 28, nth topBody 29] } } } := by
  delta topBody; delta PySem.Challenge.pw_pq0750_01; dsimp only [nth, clsBody, fArgs, fBody, fScope]
  exact ⟨_, rfl⟩
noncomputable def VW : Program := VWs.1
theorem kfill : PySem.Challenge.rw_pq0750_01 = PySem.Challenge.rw_pq0750_01 ∧ KK = KK := by
  k_fill
  exact ⟨rfl, rfl⟩
theorem as_ok (P : Params) : AS = (KK P).map (·.1) := by kernel_rfl!
noncomputable abbrev HK : Hook := kHook KK AS as_ok


/-! the top's run, cut in pieces: what stands between them (printed by a program out of the run: wip/PrintH.lean), each piece a small check of the kernel -/
set_option maxRecDepth 100000
noncomputable abbrev PR : Program := PySem.Challenge.rw_pq0750_01.row.prog
noncomputable def q_44 (P : Params) : Obj := (@Obj.mk PySem.Value.none none (@Data.fields #[]) #[])
noncomputable def q_45 (P : Params) : Obj := (@Obj.mk (@Value.type "code") none (@Data.fields #[(@Value.str (@Str.ofString "<module>") (nat_lit 182)), (@Value.str (@Str.ofString "<module>") (nat_lit 183)), (@Value.str (@Str.ofString "/claim/cut.py") (nat_lit 184)), (@Value.int (1 : Int) (nat_lit 0)), (@Value.int (0 : Int) (nat_lit 0)), (@Value.int (0 : Int) (nat_lit 0)), (@Value.int (0 : Int) (nat_lit 0)), (@Value.int (0 : Int) (nat_lit 0)), (@Value.ref (nat_lit 11)), (@Value.bool Bool.false), (@Value.int (181 : Int) (nat_lit 0)), (@Value.ref (nat_lit 12)), PySem.Value.none, PySem.Value.none, PySem.Value.none, PySem.Value.none, (@Value.int (185 : Int) (nat_lit 0)), (@Value.int (1 : Int) (nat_lit 0)), (@Value.str (@Str.ofString "/claim/cut.py") (nat_lit 186))]) #[])
noncomputable def q_46 (P : Params) : Obj := (@Obj.mk (@Value.type "frame") none PySem.Data.plain #[(some (@Value.ref (nat_lit 13))), (some (@Value.ref (nat_lit 3))), (some (@Value.ref (nat_lit 3))), none, (some (@Value.str (@Str.ofString "__main__") (nat_lit 164))), none, (some (@Value.ref (nat_lit 0)))])
noncomputable def q_49 (P : Params) : Obj := (@Obj.mk (@Value.type "dict") none (@Data.dict #[(@DictEntry.mk (@PyData.keyHash P (@Str.ofString "__name__")) (@Value.str (@Str.ofString "__name__") (nat_lit 165)) (@Value.str (@Str.ofString "moduleyard.typerel") (nat_lit 249))), (@DictEntry.mk (@PyData.keyHash P (@Str.ofString "__doc__")) (@Value.str (@Str.ofString "__doc__") (nat_lit 166)) PySem.Value.none), (@DictEntry.mk (@PyData.keyHash P (@Str.ofString "__package__")) (@Value.str (@Str.ofString "__package__") (nat_lit 167)) PySem.Value.none), (@DictEntry.mk (@PyData.keyHash P (@Str.ofString "__loader__")) (@Value.str (@Str.ofString "__loader__") (nat_lit 168)) (@Value.builtin "__main__.__loader__#op\u0061que")), (@DictEntry.mk (@PyData.keyHash P (@Str.ofString "__spec__")) (@Value.str (@Str.ofString "__spec__") (nat_lit 169)) PySem.Value.none), (@DictEntry.mk (@PyData.keyHash P (@Str.ofString "__annotations__")) (@Value.str (@Str.ofString "__annotations__") (nat_lit 170)) (@Value.ref (nat_lit 6))), (@DictEntry.mk (@PyData.keyHash P (@Str.ofString "__builtins__")) (@Value.str (@Str.ofString "__builtins__") (nat_lit 171)) (@Value.ref (nat_lit 4))), (@DictEntry.mk (@PyData.keyHash P (@Str.ofString "__file__")) (@Value.str (@Str.ofString "__file__") (nat_lit 173)) (@Value.str (@Str.ofString "/claim/cut.py") (nat_lit 172))), (@DictEntry.mk (@PyData.keyHash P (@Str.ofString "__cached__")) (@Value.str (@Str.ofString "__cached__") (nat_lit 174)) PySem.Value.none), (@DictEntry.mk (@PyData.keyHash P (@Str.ofString "Node")) (@Value.str (@Str.ofString "Node") (nat_lit 226)) (@Value.ref (nat_lit 32))), (@DictEntry.mk (@PyData.keyHash P (@Str.ofString "is_designator")) (@Value.str (@Str.ofString "is_designator") (nat_lit 233)) (@Value.ref (nat_lit 43))), (@DictEntry.mk (@PyData.keyHash P (@Str.ofString "root_var")) (@Value.str (@Str.ofString "root_var") (nat_lit 240)) (@Value.ref (nat_lit 50))), (@DictEntry.mk (@PyData.keyHash P (@Str.ofString "is_readonly")) (@Value.str (@Str.ofString "is_readonly") (nat_lit 248)) (@Value.ref (nat_lit 57))), (@DictEntry.mk (@PyData.keyHash P (@Str.ofString "same_type")) (@Value.str (@Str.ofString "same_type") (nat_lit 258)) (@Value.ref (nat_lit 64))), (@DictEntry.mk (@PyData.keyHash P (@Str.ofString "is_integer")) (@Value.str (@Str.ofString "is_integer") (nat_lit 265)) (@Value.ref (nat_lit 71)))] (nat_lit 15)) #[])
noncomputable def q_50 (P : Params) : Obj := (@Obj.mk PySem.Value.none none (@Data.fields #[(@Value.int (2 : Int) (nat_lit 0)), (@Value.int (0 : Int) (nat_lit 0)), (@Value.ref (nat_lit 20)), (@Value.int (11 : Int) (nat_lit 0)), (@Value.int (0 : Int) (nat_lit 0)), (@Value.ref (nat_lit 42)), (@Value.int (15 : Int) (nat_lit 0)), (@Value.int (0 : Int) (nat_lit 0)), (@Value.ref (nat_lit 49)), (@Value.int (21 : Int) (nat_lit 0)), (@Value.int (0 : Int) (nat_lit 0)), (@Value.ref (nat_lit 56)), (@Value.int (25 : Int) (nat_lit 0)), (@Value.int (0 : Int) (nat_lit 0)), (@Value.ref (nat_lit 63)), (@Value.int (27 : Int) (nat_lit 0)), (@Value.int (0 : Int) (nat_lit 0)), (@Value.ref (nat_lit 70))]) #[])
noncomputable def q_52 (P : Params) : Obj := (@Obj.mk (@Value.type "builtin_function_or_method") none (@Data.fields #[(@Value.builtin "type.__prepare__"), (@Value.type "type")]) #[])
noncomputable def q_53 (P : Params) : Obj := (@Obj.mk (@Value.type "dict") none (@Data.dict #[(@DictEntry.mk (@PyData.keyHash P (@Str.ofString "__module__")) (@Value.str (@Str.ofString "__module__") (nat_lit 196)) (@Value.str (@Str.ofString "moduleyard.trees") (nat_lit 187))), (@DictEntry.mk (@PyData.keyHash P (@Str.ofString "__qualname__")) (@Value.str (@Str.ofString "__qualname__") (nat_lit 198)) (@Value.str (@Str.ofString "Node") (nat_lit 197))), (@DictEntry.mk (@PyData.keyHash P (@Str.ofString "__firstlineno__")) (@Value.str (@Str.ofString "__firstlineno__") (nat_lit 200)) (@Value.int (2 : Int) (nat_lit 199))), (@DictEntry.mk (@PyData.keyHash P (@Str.ofString "__init__")) (@Value.str (@Str.ofString "__init__") (nat_lit 212)) (@Value.ref (nat_lit 29))), (@DictEntry.mk (@PyData.keyHash P (@Str.ofString "__static_attributes__")) (@Value.str (@Str.ofString "__static_attributes__") (nat_lit 219)) (@Value.ref (nat_lit 30)))] (nat_lit 5)) #[])
noncomputable def q_55 (P : Params) : Obj := (@Obj.mk PySem.Value.none none (@Data.fields #[(@Value.int (4 : Int) (nat_lit 0)), (@Value.int (4 : Int) (nat_lit 0)), (@Value.ref (nat_lit 28))]) #[])
noncomputable def q_56 (P : Params) : Obj := (@Obj.mk (@Value.type "code") none (@Data.fields #[(@Value.str (@Str.ofString "Node") (nat_lit 191)), (@Value.str (@Str.ofString "Node") (nat_lit 192)), (@Value.str (@Str.ofString "/claim/cut.py") (nat_lit 193)), (@Value.int (2 : Int) (nat_lit 0)), (@Value.int (0 : Int) (nat_lit 0)), (@Value.int (0 : Int) (nat_lit 0)), (@Value.int (0 : Int) (nat_lit 0)), (@Value.int (0 : Int) (nat_lit 0)), (@Value.ref (nat_lit 18)), (@Value.bool Bool.false), (@Value.int (181 : Int) (nat_lit 0)), (@Value.ref (nat_lit 19)), PySem.Value.none, PySem.Value.none, PySem.Value.none, PySem.Value.none, (@Value.int (194 : Int) (nat_lit 0)), (@Value.int (2 : Int) (nat_lit 0)), (@Value.str (@Str.ofString "/claim/cut.py") (nat_lit 195))]) #[])
noncomputable def q_57 (P : Params) : Obj := (@Obj.mk (@Value.type "frame") none PySem.Data.plain #[(some (@Value.ref (nat_lit 20))), (some (@Value.ref (nat_lit 3))), (some (@Value.ref (nat_lit 17))), none, (some (@Value.str (@Str.ofString "moduleyard.trees") (nat_lit 187))), none, (some (@Value.ref (nat_lit 0)))])
noncomputable def q_60 (P : Params) : Obj := (@Obj.mk PySem.Value.none none (@Data.fields #[]) #[])
noncomputable def q_63 (P : Params) : Obj := (@Obj.mk PySem.Value.none none (@Data.func (@FuncData.mk (@Str.ofString "__init__") (@Str.ofString "Node.__init__") (fArgs (nth (clsBody (nth topBody 1)) 0)) (@FuncBody.stmts (fBody (nth (clsBody (nth topBody 1)) 0))) (fScope (nth (clsBody (nth topBody 1)) 0)) (nat_lit 0) [] PySem.Value.none PySem.Value.none PySem.Value.none PySem.Value.none none PySem.Value.none PySem.Value.none (nat_lit 0))) #[])
noncomputable def q_71 (P : Params) : Obj := (@Obj.mk (@Value.type "super") none (@Data.fields #[(@Value.ref (nat_lit 32)), (@Value.ref (nat_lit 32)), (@Value.ref (nat_lit 32))]) #[])
noncomputable def q_72 (P : Params) : Obj := (@Obj.mk (@Value.type "builtin_function_or_method") none (@Data.fields #[(@Value.builtin "object.__init_subclass__"), (@Value.ref (nat_lit 32))]) #[])
noncomputable def q_74 (P : Params) : Obj := (@Obj.mk PySem.Value.none none (@Data.fields #[]) #[])
noncomputable def q_77 (P : Params) : Obj := (@Obj.mk PySem.Value.none none (@Data.func (@FuncData.mk (@Str.ofString "is_designator") (@Str.ofString "is_designator") (fArgs (nth topBody 2)) (@FuncBody.stmts (fBody (nth topBody 2))) (fScope (nth topBody 2)) (nat_lit 0) [] PySem.Value.none PySem.Value.none PySem.Value.none PySem.Value.none none PySem.Value.none PySem.Value.none (nat_lit 0))) #[])
noncomputable def q_81 (P : Params) : Obj := (@Obj.mk PySem.Value.none none (@Data.fields #[]) #[])
noncomputable def q_84 (P : Params) : Obj := (@Obj.mk PySem.Value.none none (@Data.func (@FuncData.mk (@Str.ofString "root_var") (@Str.ofString "root_var") (fArgs (nth topBody 3)) (@FuncBody.stmts (fBody (nth topBody 3))) (fScope (nth topBody 2)) (nat_lit 0) [] PySem.Value.none PySem.Value.none PySem.Value.none PySem.Value.none none PySem.Value.none PySem.Value.none (nat_lit 0))) #[])
noncomputable def q_88 (P : Params) : Obj := (@Obj.mk PySem.Value.none none (@Data.fields #[]) #[])
noncomputable def q_91 (P : Params) : Obj := (@Obj.mk PySem.Value.none none (@Data.func (@FuncData.mk (@Str.ofString "is_readonly") (@Str.ofString "is_readonly") (fArgs (nth topBody 4)) (@FuncBody.stmts (fBody (nth topBody 4))) (fScope (nth topBody 4)) (nat_lit 0) [] PySem.Value.none PySem.Value.none PySem.Value.none PySem.Value.none none PySem.Value.none PySem.Value.none (nat_lit 0))) #[])
noncomputable def q_95 (P : Params) : Obj := (@Obj.mk PySem.Value.none none (@Data.fields #[]) #[])
noncomputable def q_98 (P : Params) : Obj := (@Obj.mk PySem.Value.none none (@Data.func (@FuncData.mk (@Str.ofString "same_type") (@Str.ofString "same_type") (fArgs (nth topBody 6)) (@FuncBody.stmts (fBody (nth topBody 6))) (fScope (nth topBody 6)) (nat_lit 0) [] PySem.Value.none PySem.Value.none PySem.Value.none PySem.Value.none none PySem.Value.none PySem.Value.none (nat_lit 0))) #[])
noncomputable def q_102 (P : Params) : Obj := (@Obj.mk PySem.Value.none none (@Data.fields #[]) #[])
noncomputable def q_105 (P : Params) : Obj := (@Obj.mk PySem.Value.none none (@Data.func (@FuncData.mk (@Str.ofString "is_integer") (@Str.ofString "is_integer") (fArgs (nth topBody 7)) (@FuncBody.stmts (fBody (nth topBody 7))) (fScope (nth topBody 7)) (nat_lit 0) [] PySem.Value.none PySem.Value.none PySem.Value.none PySem.Value.none none PySem.Value.none PySem.Value.none (nat_lit 0))) #[])
noncomputable def q_108 (P : Params) : Obj := (@Obj.mk (@Value.type "dict") none (@Data.dict #[(@DictEntry.mk (@PyData.keyHash P (@Str.ofString "__name__")) (@Value.str (@Str.ofString "__name__") (nat_lit 165)) (@Value.str (@Str.ofString "moduleyard.typerel") (nat_lit 249))), (@DictEntry.mk (@PyData.keyHash P (@Str.ofString "__doc__")) (@Value.str (@Str.ofString "__doc__") (nat_lit 166)) PySem.Value.none), (@DictEntry.mk (@PyData.keyHash P (@Str.ofString "__package__")) (@Value.str (@Str.ofString "__package__") (nat_lit 167)) PySem.Value.none), (@DictEntry.mk (@PyData.keyHash P (@Str.ofString "__loader__")) (@Value.str (@Str.ofString "__loader__") (nat_lit 168)) (@Value.builtin "__main__.__loader__#op\u0061que")), (@DictEntry.mk (@PyData.keyHash P (@Str.ofString "__spec__")) (@Value.str (@Str.ofString "__spec__") (nat_lit 169)) PySem.Value.none), (@DictEntry.mk (@PyData.keyHash P (@Str.ofString "__annotations__")) (@Value.str (@Str.ofString "__annotations__") (nat_lit 170)) (@Value.ref (nat_lit 6))), (@DictEntry.mk (@PyData.keyHash P (@Str.ofString "__builtins__")) (@Value.str (@Str.ofString "__builtins__") (nat_lit 171)) (@Value.ref (nat_lit 4))), (@DictEntry.mk (@PyData.keyHash P (@Str.ofString "__file__")) (@Value.str (@Str.ofString "__file__") (nat_lit 173)) (@Value.str (@Str.ofString "/claim/cut.py") (nat_lit 172))), (@DictEntry.mk (@PyData.keyHash P (@Str.ofString "__cached__")) (@Value.str (@Str.ofString "__cached__") (nat_lit 174)) PySem.Value.none), (@DictEntry.mk (@PyData.keyHash P (@Str.ofString "Node")) (@Value.str (@Str.ofString "Node") (nat_lit 226)) (@Value.ref (nat_lit 32))), (@DictEntry.mk (@PyData.keyHash P (@Str.ofString "is_designator")) (@Value.str (@Str.ofString "is_designator") (nat_lit 233)) (@Value.ref (nat_lit 43))), (@DictEntry.mk (@PyData.keyHash P (@Str.ofString "root_var")) (@Value.str (@Str.ofString "root_var") (nat_lit 240)) (@Value.ref (nat_lit 50))), (@DictEntry.mk (@PyData.keyHash P (@Str.ofString "is_readonly")) (@Value.str (@Str.ofString "is_readonly") (nat_lit 248)) (@Value.ref (nat_lit 57))), (@DictEntry.mk (@PyData.keyHash P (@Str.ofString "same_type")) (@Value.str (@Str.ofString "same_type") (nat_lit 258)) (@Value.ref (nat_lit 64))), (@DictEntry.mk (@PyData.keyHash P (@Str.ofString "is_integer")) (@Value.str (@Str.ofString "is_integer") (nat_lit 265)) (@Value.ref (nat_lit 71))), (@DictEntry.mk (@PyData.keyHash P (@Str.ofString "is_text")) (@Value.str (@Str.ofString "is_text") (nat_lit 272)) (@Value.ref (nat_lit 78))), (@DictEntry.mk (@PyData.keyHash P (@Str.ofString "is_open")) (@Value.str (@Str.ofString "is_open") (nat_lit 279)) (@Value.ref (nat_lit 85))), (@DictEntry.mk (@PyData.keyHash P (@Str.ofString "record_of")) (@Value.str (@Str.ofString "record_of") (nat_lit 286)) (@Value.ref (nat_lit 92))), (@DictEntry.mk (@PyData.keyHash P (@Str.ofString "extends")) (@Value.str (@Str.ofString "extends") (nat_lit 296)) (@Value.ref (nat_lit 99))), (@DictEntry.mk (@PyData.keyHash P (@Str.ofString "equal_types")) (@Value.str (@Str.ofString "equal_types") (nat_lit 305)) (@Value.ref (nat_lit 107))), (@DictEntry.mk (@PyData.keyHash P (@Str.ofString "equal_procs")) (@Value.str (@Str.ofString "equal_procs") (nat_lit 317)) (@Value.ref (nat_lit 115))), (@DictEntry.mk (@PyData.keyHash P (@Str.ofString "equal_arrays")) (@Value.str (@Str.ofString "equal_arrays") (nat_lit 325)) (@Value.ref (nat_lit 122))), (@DictEntry.mk (@PyData.keyHash P (@Str.ofString "assignable_string")) (@Value.str (@Str.ofString "assignable_string") (nat_lit 333)) (@Value.ref (nat_lit 129))), (@DictEntry.mk (@PyData.keyHash P (@Str.ofString "assignable_proc")) (@Value.str (@Str.ofString "assignable_proc") (nat_lit 341)) (@Value.ref (nat_lit 136))), (@DictEntry.mk (@PyData.keyHash P (@Str.ofString "assignable")) (@Value.str (@Str.ofString "assignable") (nat_lit 350)) (@Value.ref (nat_lit 143))), (@DictEntry.mk (@PyData.keyHash P (@Str.ofString "unguarded")) (@Value.str (@Str.ofString "unguarded") (nat_lit 357)) (@Value.ref (nat_lit 150))), (@DictEntry.mk (@PyData.keyHash P (@Str.ofString "passable_variable")) (@Value.str (@Str.ofString "passable_variable") (nat_lit 367)) (@Value.ref (nat_lit 157))), (@DictEntry.mk (@PyData.keyHash P (@Str.ofString "passable_structure")) (@Value.str (@Str.ofString "passable_structure") (nat_lit 377)) (@Value.ref (nat_lit 164)))] (nat_lit 28)) #[])
noncomputable def q_109 (P : Params) : Obj := (@Obj.mk PySem.Value.none none (@Data.fields #[(@Value.int (2 : Int) (nat_lit 0)), (@Value.int (0 : Int) (nat_lit 0)), (@Value.ref (nat_lit 20)), (@Value.int (11 : Int) (nat_lit 0)), (@Value.int (0 : Int) (nat_lit 0)), (@Value.ref (nat_lit 42)), (@Value.int (15 : Int) (nat_lit 0)), (@Value.int (0 : Int) (nat_lit 0)), (@Value.ref (nat_lit 49)), (@Value.int (21 : Int) (nat_lit 0)), (@Value.int (0 : Int) (nat_lit 0)), (@Value.ref (nat_lit 56)), (@Value.int (25 : Int) (nat_lit 0)), (@Value.int (0 : Int) (nat_lit 0)), (@Value.ref (nat_lit 63)), (@Value.int (27 : Int) (nat_lit 0)), (@Value.int (0 : Int) (nat_lit 0)), (@Value.ref (nat_lit 70)), (@Value.int (29 : Int) (nat_lit 0)), (@Value.int (0 : Int) (nat_lit 0)), (@Value.ref (nat_lit 77)), (@Value.int (31 : Int) (nat_lit 0)), (@Value.int (0 : Int) (nat_lit 0)), (@Value.ref (nat_lit 84)), (@Value.int (33 : Int) (nat_lit 0)), (@Value.int (0 : Int) (nat_lit 0)), (@Value.ref (nat_lit 91)), (@Value.int (39 : Int) (nat_lit 0)), (@Value.int (0 : Int) (nat_lit 0)), (@Value.ref (nat_lit 98)), (@Value.int (51 : Int) (nat_lit 0)), (@Value.int (0 : Int) (nat_lit 0)), (@Value.ref (nat_lit 106)), (@Value.int (59 : Int) (nat_lit 0)), (@Value.int (0 : Int) (nat_lit 0)), (@Value.ref (nat_lit 114)), (@Value.int (75 : Int) (nat_lit 0)), (@Value.int (0 : Int) (nat_lit 0)), (@Value.ref (nat_lit 121)), (@Value.int (81 : Int) (nat_lit 0)), (@Value.int (0 : Int) (nat_lit 0)), (@Value.ref (nat_lit 128)), (@Value.int (89 : Int) (nat_lit 0)), (@Value.int (0 : Int) (nat_lit 0)), (@Value.ref (nat_lit 135)), (@Value.int (93 : Int) (nat_lit 0)), (@Value.int (0 : Int) (nat_lit 0)), (@Value.ref (nat_lit 142)), (@Value.int (108 : Int) (nat_lit 0)), (@Value.int (0 : Int) (nat_lit 0)), (@Value.ref (nat_lit 149)), (@Value.int (112 : Int) (nat_lit 0)), (@Value.int (0 : Int) (nat_lit 0)), (@Value.ref (nat_lit 156)), (@Value.int (125 : Int) (nat_lit 0)), (@Value.int (0 : Int) (nat_lit 0)), (@Value.ref (nat_lit 163))]) #[])
noncomputable def q_111 (P : Params) : Obj := (@Obj.mk PySem.Value.none none (@Data.fields #[]) #[])
noncomputable def q_114 (P : Params) : Obj := (@Obj.mk PySem.Value.none none (@Data.func (@FuncData.mk (@Str.ofString "is_text") (@Str.ofString "is_text") (fArgs (nth topBody 8)) (@FuncBody.stmts (fBody (nth topBody 8))) (fScope (nth topBody 7)) (nat_lit 0) [] PySem.Value.none PySem.Value.none PySem.Value.none PySem.Value.none none PySem.Value.none PySem.Value.none (nat_lit 0))) #[])
noncomputable def q_118 (P : Params) : Obj := (@Obj.mk PySem.Value.none none (@Data.fields #[]) #[])
noncomputable def q_121 (P : Params) : Obj := (@Obj.mk PySem.Value.none none (@Data.func (@FuncData.mk (@Str.ofString "is_open") (@Str.ofString "is_open") (fArgs (nth topBody 9)) (@FuncBody.stmts (fBody (nth topBody 9))) (fScope (nth topBody 7)) (nat_lit 0) [] PySem.Value.none PySem.Value.none PySem.Value.none PySem.Value.none none PySem.Value.none PySem.Value.none (nat_lit 0))) #[])
noncomputable def q_125 (P : Params) : Obj := (@Obj.mk PySem.Value.none none (@Data.fields #[]) #[])
noncomputable def q_128 (P : Params) : Obj := (@Obj.mk PySem.Value.none none (@Data.func (@FuncData.mk (@Str.ofString "record_of") (@Str.ofString "record_of") (fArgs (nth topBody 10)) (@FuncBody.stmts (fBody (nth topBody 10))) (fScope (nth topBody 7)) (nat_lit 0) [] PySem.Value.none PySem.Value.none PySem.Value.none PySem.Value.none none PySem.Value.none PySem.Value.none (nat_lit 0))) #[])
noncomputable def q_132 (P : Params) : Obj := (@Obj.mk PySem.Value.none none (@Data.fields #[]) #[])
noncomputable def q_135 (P : Params) : Obj := (@Obj.mk PySem.Value.none none (@Data.func (@FuncData.mk (@Str.ofString "extends") (@Str.ofString "extends") (fArgs (nth topBody 11)) (@FuncBody.stmts (fBody (nth topBody 11))) (fScope (nth topBody 11)) (nat_lit 0) [] PySem.Value.none PySem.Value.none PySem.Value.none PySem.Value.none none PySem.Value.none PySem.Value.none (nat_lit 0))) #[])
noncomputable def q_140 (P : Params) : Obj := (@Obj.mk PySem.Value.none none (@Data.fields #[]) #[])
noncomputable def q_143 (P : Params) : Obj := (@Obj.mk PySem.Value.none none (@Data.func (@FuncData.mk (@Str.ofString "equal_types") (@Str.ofString "equal_types") (fArgs (nth topBody 12)) (@FuncBody.stmts (fBody (nth topBody 12))) (fScope (nth topBody 12)) (nat_lit 0) [] PySem.Value.none PySem.Value.none PySem.Value.none PySem.Value.none none PySem.Value.none PySem.Value.none (nat_lit 0))) #[])
noncomputable def q_148 (P : Params) : Obj := (@Obj.mk PySem.Value.none none (@Data.fields #[]) #[])
noncomputable def q_151 (P : Params) : Obj := (@Obj.mk PySem.Value.none none (@Data.func (@FuncData.mk (@Str.ofString "equal_procs") (@Str.ofString "equal_procs") (fArgs (nth topBody 13)) (@FuncBody.stmts (fBody (nth topBody 13))) (fScope (nth topBody 13)) (nat_lit 0) [] PySem.Value.none PySem.Value.none PySem.Value.none PySem.Value.none none PySem.Value.none PySem.Value.none (nat_lit 0))) #[])
noncomputable def q_155 (P : Params) : Obj := (@Obj.mk PySem.Value.none none (@Data.fields #[]) #[])
noncomputable def q_158 (P : Params) : Obj := (@Obj.mk PySem.Value.none none (@Data.func (@FuncData.mk (@Str.ofString "equal_arrays") (@Str.ofString "equal_arrays") (fArgs (nth topBody 14)) (@FuncBody.stmts (fBody (nth topBody 14))) (fScope (nth topBody 14)) (nat_lit 0) [] PySem.Value.none PySem.Value.none PySem.Value.none PySem.Value.none none PySem.Value.none PySem.Value.none (nat_lit 0))) #[])
noncomputable def q_162 (P : Params) : Obj := (@Obj.mk PySem.Value.none none (@Data.fields #[]) #[])
noncomputable def q_165 (P : Params) : Obj := (@Obj.mk PySem.Value.none none (@Data.func (@FuncData.mk (@Str.ofString "assignable_string") (@Str.ofString "assignable_string") (fArgs (nth topBody 15)) (@FuncBody.stmts (fBody (nth topBody 15))) (fScope (nth topBody 15)) (nat_lit 0) [] PySem.Value.none PySem.Value.none PySem.Value.none PySem.Value.none none PySem.Value.none PySem.Value.none (nat_lit 0))) #[])
noncomputable def q_169 (P : Params) : Obj := (@Obj.mk PySem.Value.none none (@Data.fields #[]) #[])
noncomputable def q_172 (P : Params) : Obj := (@Obj.mk PySem.Value.none none (@Data.func (@FuncData.mk (@Str.ofString "assignable_proc") (@Str.ofString "assignable_proc") (fArgs (nth topBody 16)) (@FuncBody.stmts (fBody (nth topBody 16))) (fScope (nth topBody 16)) (nat_lit 0) [] PySem.Value.none PySem.Value.none PySem.Value.none PySem.Value.none none PySem.Value.none PySem.Value.none (nat_lit 0))) #[])
noncomputable def q_176 (P : Params) : Obj := (@Obj.mk PySem.Value.none none (@Data.fields #[]) #[])
noncomputable def q_179 (P : Params) : Obj := (@Obj.mk PySem.Value.none none (@Data.func (@FuncData.mk (@Str.ofString "assignable") (@Str.ofString "assignable") (fArgs (nth topBody 17)) (@FuncBody.stmts (fBody (nth topBody 17))) (fScope (nth topBody 17)) (nat_lit 0) [] PySem.Value.none PySem.Value.none PySem.Value.none PySem.Value.none none PySem.Value.none PySem.Value.none (nat_lit 0))) #[])
noncomputable def q_183 (P : Params) : Obj := (@Obj.mk PySem.Value.none none (@Data.fields #[]) #[])
noncomputable def q_186 (P : Params) : Obj := (@Obj.mk PySem.Value.none none (@Data.func (@FuncData.mk (@Str.ofString "unguarded") (@Str.ofString "unguarded") (fArgs (nth topBody 18)) (@FuncBody.stmts (fBody (nth topBody 18))) (fScope (nth topBody 2)) (nat_lit 0) [] PySem.Value.none PySem.Value.none PySem.Value.none PySem.Value.none none PySem.Value.none PySem.Value.none (nat_lit 0))) #[])
noncomputable def q_190 (P : Params) : Obj := (@Obj.mk PySem.Value.none none (@Data.fields #[]) #[])
noncomputable def q_193 (P : Params) : Obj := (@Obj.mk PySem.Value.none none (@Data.func (@FuncData.mk (@Str.ofString "passable_variable") (@Str.ofString "passable_variable") (fArgs (nth topBody 19)) (@FuncBody.stmts (fBody (nth topBody 19))) (fScope (nth topBody 19)) (nat_lit 0) [] PySem.Value.none PySem.Value.none PySem.Value.none PySem.Value.none none PySem.Value.none PySem.Value.none (nat_lit 0))) #[])
noncomputable def q_197 (P : Params) : Obj := (@Obj.mk PySem.Value.none none (@Data.fields #[]) #[])
noncomputable def q_200 (P : Params) : Obj := (@Obj.mk PySem.Value.none none (@Data.func (@FuncData.mk (@Str.ofString "passable_structure") (@Str.ofString "passable_structure") (fArgs (nth topBody 20)) (@FuncBody.stmts (fBody (nth topBody 20))) (fScope (nth topBody 20)) (nat_lit 0) [] PySem.Value.none PySem.Value.none PySem.Value.none PySem.Value.none none PySem.Value.none PySem.Value.none (nat_lit 0))) #[])
noncomputable def q_203 (P : Params) : Obj := (@Obj.mk (@Value.type "dict") none (@Data.dict #[(@DictEntry.mk (@PyData.keyHash P (@Str.ofString "__name__")) (@Value.str (@Str.ofString "__name__") (nat_lit 165)) (@Value.str (@Str.ofString "moduleyard.types") (nat_lit 386))), (@DictEntry.mk (@PyData.keyHash P (@Str.ofString "__doc__")) (@Value.str (@Str.ofString "__doc__") (nat_lit 166)) PySem.Value.none), (@DictEntry.mk (@PyData.keyHash P (@Str.ofString "__package__")) (@Value.str (@Str.ofString "__package__") (nat_lit 167)) PySem.Value.none), (@DictEntry.mk (@PyData.keyHash P (@Str.ofString "__loader__")) (@Value.str (@Str.ofString "__loader__") (nat_lit 168)) (@Value.builtin "__main__.__loader__#op\u0061que")), (@DictEntry.mk (@PyData.keyHash P (@Str.ofString "__spec__")) (@Value.str (@Str.ofString "__spec__") (nat_lit 169)) PySem.Value.none), (@DictEntry.mk (@PyData.keyHash P (@Str.ofString "__annotations__")) (@Value.str (@Str.ofString "__annotations__") (nat_lit 170)) (@Value.ref (nat_lit 6))), (@DictEntry.mk (@PyData.keyHash P (@Str.ofString "__builtins__")) (@Value.str (@Str.ofString "__builtins__") (nat_lit 171)) (@Value.ref (nat_lit 4))), (@DictEntry.mk (@PyData.keyHash P (@Str.ofString "__file__")) (@Value.str (@Str.ofString "__file__") (nat_lit 173)) (@Value.str (@Str.ofString "/claim/cut.py") (nat_lit 172))), (@DictEntry.mk (@PyData.keyHash P (@Str.ofString "__cached__")) (@Value.str (@Str.ofString "__cached__") (nat_lit 174)) PySem.Value.none), (@DictEntry.mk (@PyData.keyHash P (@Str.ofString "Node")) (@Value.str (@Str.ofString "Node") (nat_lit 226)) (@Value.ref (nat_lit 32))), (@DictEntry.mk (@PyData.keyHash P (@Str.ofString "is_designator")) (@Value.str (@Str.ofString "is_designator") (nat_lit 233)) (@Value.ref (nat_lit 43))), (@DictEntry.mk (@PyData.keyHash P (@Str.ofString "root_var")) (@Value.str (@Str.ofString "root_var") (nat_lit 240)) (@Value.ref (nat_lit 50))), (@DictEntry.mk (@PyData.keyHash P (@Str.ofString "is_readonly")) (@Value.str (@Str.ofString "is_readonly") (nat_lit 248)) (@Value.ref (nat_lit 57))), (@DictEntry.mk (@PyData.keyHash P (@Str.ofString "same_type")) (@Value.str (@Str.ofString "same_type") (nat_lit 258)) (@Value.ref (nat_lit 64))), (@DictEntry.mk (@PyData.keyHash P (@Str.ofString "is_integer")) (@Value.str (@Str.ofString "is_integer") (nat_lit 265)) (@Value.ref (nat_lit 71))), (@DictEntry.mk (@PyData.keyHash P (@Str.ofString "is_text")) (@Value.str (@Str.ofString "is_text") (nat_lit 272)) (@Value.ref (nat_lit 78))), (@DictEntry.mk (@PyData.keyHash P (@Str.ofString "is_open")) (@Value.str (@Str.ofString "is_open") (nat_lit 279)) (@Value.ref (nat_lit 85))), (@DictEntry.mk (@PyData.keyHash P (@Str.ofString "record_of")) (@Value.str (@Str.ofString "record_of") (nat_lit 286)) (@Value.ref (nat_lit 92))), (@DictEntry.mk (@PyData.keyHash P (@Str.ofString "extends")) (@Value.str (@Str.ofString "extends") (nat_lit 296)) (@Value.ref (nat_lit 99))), (@DictEntry.mk (@PyData.keyHash P (@Str.ofString "equal_types")) (@Value.str (@Str.ofString "equal_types") (nat_lit 305)) (@Value.ref (nat_lit 107))), (@DictEntry.mk (@PyData.keyHash P (@Str.ofString "equal_procs")) (@Value.str (@Str.ofString "equal_procs") (nat_lit 317)) (@Value.ref (nat_lit 115))), (@DictEntry.mk (@PyData.keyHash P (@Str.ofString "equal_arrays")) (@Value.str (@Str.ofString "equal_arrays") (nat_lit 325)) (@Value.ref (nat_lit 122))), (@DictEntry.mk (@PyData.keyHash P (@Str.ofString "assignable_string")) (@Value.str (@Str.ofString "assignable_string") (nat_lit 333)) (@Value.ref (nat_lit 129))), (@DictEntry.mk (@PyData.keyHash P (@Str.ofString "assignable_proc")) (@Value.str (@Str.ofString "assignable_proc") (nat_lit 341)) (@Value.ref (nat_lit 136))), (@DictEntry.mk (@PyData.keyHash P (@Str.ofString "assignable")) (@Value.str (@Str.ofString "assignable") (nat_lit 350)) (@Value.ref (nat_lit 143))), (@DictEntry.mk (@PyData.keyHash P (@Str.ofString "unguarded")) (@Value.str (@Str.ofString "unguarded") (nat_lit 357)) (@Value.ref (nat_lit 150))), (@DictEntry.mk (@PyData.keyHash P (@Str.ofString "passable_variable")) (@Value.str (@Str.ofString "passable_variable") (nat_lit 367)) (@Value.ref (nat_lit 157))), (@DictEntry.mk (@PyData.keyHash P (@Str.ofString "passable_structure")) (@Value.str (@Str.ofString "passable_structure") (nat_lit 377)) (@Value.ref (nat_lit 164))), (@DictEntry.mk (@PyData.keyHash P (@Str.ofString "passable")) (@Value.str (@Str.ofString "passable") (nat_lit 385)) (@Value.ref (nat_lit 171))), (@DictEntry.mk (@PyData.keyHash P (@Str.ofString "Type")) (@Value.str (@Str.ofString "Type") (nat_lit 429)) (@Value.ref (nat_lit 188)))] (nat_lit 30)) #[])
noncomputable def q_204 (P : Params) : Obj := (@Obj.mk PySem.Value.none none (@Data.fields #[(@Value.int (2 : Int) (nat_lit 0)), (@Value.int (0 : Int) (nat_lit 0)), (@Value.ref (nat_lit 20)), (@Value.int (11 : Int) (nat_lit 0)), (@Value.int (0 : Int) (nat_lit 0)), (@Value.ref (nat_lit 42)), (@Value.int (15 : Int) (nat_lit 0)), (@Value.int (0 : Int) (nat_lit 0)), (@Value.ref (nat_lit 49)), (@Value.int (21 : Int) (nat_lit 0)), (@Value.int (0 : Int) (nat_lit 0)), (@Value.ref (nat_lit 56)), (@Value.int (25 : Int) (nat_lit 0)), (@Value.int (0 : Int) (nat_lit 0)), (@Value.ref (nat_lit 63)), (@Value.int (27 : Int) (nat_lit 0)), (@Value.int (0 : Int) (nat_lit 0)), (@Value.ref (nat_lit 70)), (@Value.int (29 : Int) (nat_lit 0)), (@Value.int (0 : Int) (nat_lit 0)), (@Value.ref (nat_lit 77)), (@Value.int (31 : Int) (nat_lit 0)), (@Value.int (0 : Int) (nat_lit 0)), (@Value.ref (nat_lit 84)), (@Value.int (33 : Int) (nat_lit 0)), (@Value.int (0 : Int) (nat_lit 0)), (@Value.ref (nat_lit 91)), (@Value.int (39 : Int) (nat_lit 0)), (@Value.int (0 : Int) (nat_lit 0)), (@Value.ref (nat_lit 98)), (@Value.int (51 : Int) (nat_lit 0)), (@Value.int (0 : Int) (nat_lit 0)), (@Value.ref (nat_lit 106)), (@Value.int (59 : Int) (nat_lit 0)), (@Value.int (0 : Int) (nat_lit 0)), (@Value.ref (nat_lit 114)), (@Value.int (75 : Int) (nat_lit 0)), (@Value.int (0 : Int) (nat_lit 0)), (@Value.ref (nat_lit 121)), (@Value.int (81 : Int) (nat_lit 0)), (@Value.int (0 : Int) (nat_lit 0)), (@Value.ref (nat_lit 128)), (@Value.int (89 : Int) (nat_lit 0)), (@Value.int (0 : Int) (nat_lit 0)), (@Value.ref (nat_lit 135)), (@Value.int (93 : Int) (nat_lit 0)), (@Value.int (0 : Int) (nat_lit 0)), (@Value.ref (nat_lit 142)), (@Value.int (108 : Int) (nat_lit 0)), (@Value.int (0 : Int) (nat_lit 0)), (@Value.ref (nat_lit 149)), (@Value.int (112 : Int) (nat_lit 0)), (@Value.int (0 : Int) (nat_lit 0)), (@Value.ref (nat_lit 156)), (@Value.int (125 : Int) (nat_lit 0)), (@Value.int (0 : Int) (nat_lit 0)), (@Value.ref (nat_lit 163)), (@Value.int (136 : Int) (nat_lit 0)), (@Value.int (0 : Int) (nat_lit 0)), (@Value.ref (nat_lit 170)), (@Value.int (143 : Int) (nat_lit 0)), (@Value.int (0 : Int) (nat_lit 0)), (@Value.ref (nat_lit 177))]) #[])
noncomputable def q_206 (P : Params) : Obj := (@Obj.mk PySem.Value.none none (@Data.fields #[]) #[])
noncomputable def q_209 (P : Params) : Obj := (@Obj.mk PySem.Value.none none (@Data.func (@FuncData.mk (@Str.ofString "passable") (@Str.ofString "passable") (fArgs (nth topBody 21)) (@FuncBody.stmts (fBody (nth topBody 21))) (fScope (nth topBody 21)) (nat_lit 0) [] PySem.Value.none PySem.Value.none PySem.Value.none PySem.Value.none none PySem.Value.none PySem.Value.none (nat_lit 0))) #[])
noncomputable def q_213 (P : Params) : Obj := (@Obj.mk (@Value.type "builtin_function_or_method") none (@Data.fields #[(@Value.builtin "type.__prepare__"), (@Value.type "type")]) #[])
noncomputable def q_214 (P : Params) : Obj := (@Obj.mk (@Value.type "dict") none (@Data.dict #[(@DictEntry.mk (@PyData.keyHash P (@Str.ofString "__module__")) (@Value.str (@Str.ofString "__module__") (nat_lit 395)) (@Value.str (@Str.ofString "moduleyard.types") (nat_lit 386))), (@DictEntry.mk (@PyData.keyHash P (@Str.ofString "__qualname__")) (@Value.str (@Str.ofString "__qualname__") (nat_lit 397)) (@Value.str (@Str.ofString "Type") (nat_lit 396))), (@DictEntry.mk (@PyData.keyHash P (@Str.ofString "__firstlineno__")) (@Value.str (@Str.ofString "__firstlineno__") (nat_lit 399)) (@Value.int (143 : Int) (nat_lit 398))), (@DictEntry.mk (@PyData.keyHash P (@Str.ofString "__init__")) (@Value.str (@Str.ofString "__init__") (nat_lit 409)) (@Value.ref (nat_lit 185))), (@DictEntry.mk (@PyData.keyHash P (@Str.ofString "__static_attributes__")) (@Value.str (@Str.ofString "__static_attributes__") (nat_lit 422)) (@Value.ref (nat_lit 186)))] (nat_lit 5)) #[])
noncomputable def q_216 (P : Params) : Obj := (@Obj.mk PySem.Value.none none (@Data.fields #[(@Value.int (145 : Int) (nat_lit 0)), (@Value.int (4 : Int) (nat_lit 0)), (@Value.ref (nat_lit 184))]) #[])
noncomputable def q_217 (P : Params) : Obj := (@Obj.mk (@Value.type "code") none (@Data.fields #[(@Value.str (@Str.ofString "Type") (nat_lit 390)), (@Value.str (@Str.ofString "Type") (nat_lit 391)), (@Value.str (@Str.ofString "/claim/cut.py") (nat_lit 392)), (@Value.int (143 : Int) (nat_lit 0)), (@Value.int (0 : Int) (nat_lit 0)), (@Value.int (0 : Int) (nat_lit 0)), (@Value.int (0 : Int) (nat_lit 0)), (@Value.int (0 : Int) (nat_lit 0)), (@Value.ref (nat_lit 175)), (@Value.bool Bool.false), (@Value.int (181 : Int) (nat_lit 0)), (@Value.ref (nat_lit 176)), PySem.Value.none, PySem.Value.none, PySem.Value.none, PySem.Value.none, (@Value.int (393 : Int) (nat_lit 0)), (@Value.int (143 : Int) (nat_lit 0)), (@Value.str (@Str.ofString "/claim/cut.py") (nat_lit 394))]) #[])
noncomputable def q_218 (P : Params) : Obj := (@Obj.mk (@Value.type "frame") none PySem.Data.plain #[(some (@Value.ref (nat_lit 177))), (some (@Value.ref (nat_lit 3))), (some (@Value.ref (nat_lit 174))), none, (some (@Value.str (@Str.ofString "moduleyard.types") (nat_lit 386))), none, (some (@Value.ref (nat_lit 0)))])
noncomputable def q_220 (P : Params) : Obj := (@Obj.mk PySem.Value.none none (@Data.fields #[]) #[])
noncomputable def q_223 (P : Params) : Obj := (@Obj.mk PySem.Value.none none (@Data.func (@FuncData.mk (@Str.ofString "__init__") (@Str.ofString "Type.__init__") (fArgs (nth (clsBody (nth topBody 23)) 0)) (@FuncBody.stmts (fBody (nth (clsBody (nth topBody 23)) 0))) (fScope (nth (clsBody (nth topBody 23)) 0)) (nat_lit 0) [] PySem.Value.none PySem.Value.none PySem.Value.none PySem.Value.none none PySem.Value.none PySem.Value.none (nat_lit 0))) #[])
noncomputable def q_231 (P : Params) : Obj := (@Obj.mk (@Value.type "super") none (@Data.fields #[(@Value.ref (nat_lit 188)), (@Value.ref (nat_lit 188)), (@Value.ref (nat_lit 188))]) #[])
noncomputable def q_232 (P : Params) : Obj := (@Obj.mk (@Value.type "builtin_function_or_method") none (@Data.fields #[(@Value.builtin "object.__init_subclass__"), (@Value.ref (nat_lit 188))]) #[])
noncomputable def q_233 (P : Params) : Obj := (@Obj.mk (@Value.type "dict") none (@Data.dict #[(@DictEntry.mk (@PyData.keyHash P (@Str.ofString "__name__")) (@Value.str (@Str.ofString "__name__") (nat_lit 165)) (@Value.str (@Str.ofString "moduleyard.types") (nat_lit 386))), (@DictEntry.mk (@PyData.keyHash P (@Str.ofString "__doc__")) (@Value.str (@Str.ofString "__doc__") (nat_lit 166)) PySem.Value.none), (@DictEntry.mk (@PyData.keyHash P (@Str.ofString "__package__")) (@Value.str (@Str.ofString "__package__") (nat_lit 167)) PySem.Value.none), (@DictEntry.mk (@PyData.keyHash P (@Str.ofString "__loader__")) (@Value.str (@Str.ofString "__loader__") (nat_lit 168)) (@Value.builtin "__main__.__loader__#op\u0061que")), (@DictEntry.mk (@PyData.keyHash P (@Str.ofString "__spec__")) (@Value.str (@Str.ofString "__spec__") (nat_lit 169)) PySem.Value.none), (@DictEntry.mk (@PyData.keyHash P (@Str.ofString "__annotations__")) (@Value.str (@Str.ofString "__annotations__") (nat_lit 170)) (@Value.ref (nat_lit 6))), (@DictEntry.mk (@PyData.keyHash P (@Str.ofString "__builtins__")) (@Value.str (@Str.ofString "__builtins__") (nat_lit 171)) (@Value.ref (nat_lit 4))), (@DictEntry.mk (@PyData.keyHash P (@Str.ofString "__file__")) (@Value.str (@Str.ofString "__file__") (nat_lit 173)) (@Value.str (@Str.ofString "/claim/cut.py") (nat_lit 172))), (@DictEntry.mk (@PyData.keyHash P (@Str.ofString "__cached__")) (@Value.str (@Str.ofString "__cached__") (nat_lit 174)) PySem.Value.none), (@DictEntry.mk (@PyData.keyHash P (@Str.ofString "Node")) (@Value.str (@Str.ofString "Node") (nat_lit 226)) (@Value.ref (nat_lit 32))), (@DictEntry.mk (@PyData.keyHash P (@Str.ofString "is_designator")) (@Value.str (@Str.ofString "is_designator") (nat_lit 233)) (@Value.ref (nat_lit 43))), (@DictEntry.mk (@PyData.keyHash P (@Str.ofString "root_var")) (@Value.str (@Str.ofString "root_var") (nat_lit 240)) (@Value.ref (nat_lit 50))), (@DictEntry.mk (@PyData.keyHash P (@Str.ofString "is_readonly")) (@Value.str (@Str.ofString "is_readonly") (nat_lit 248)) (@Value.ref (nat_lit 57))), (@DictEntry.mk (@PyData.keyHash P (@Str.ofString "same_type")) (@Value.str (@Str.ofString "same_type") (nat_lit 258)) (@Value.ref (nat_lit 64))), (@DictEntry.mk (@PyData.keyHash P (@Str.ofString "is_integer")) (@Value.str (@Str.ofString "is_integer") (nat_lit 265)) (@Value.ref (nat_lit 71))), (@DictEntry.mk (@PyData.keyHash P (@Str.ofString "is_text")) (@Value.str (@Str.ofString "is_text") (nat_lit 272)) (@Value.ref (nat_lit 78))), (@DictEntry.mk (@PyData.keyHash P (@Str.ofString "is_open")) (@Value.str (@Str.ofString "is_open") (nat_lit 279)) (@Value.ref (nat_lit 85))), (@DictEntry.mk (@PyData.keyHash P (@Str.ofString "record_of")) (@Value.str (@Str.ofString "record_of") (nat_lit 286)) (@Value.ref (nat_lit 92))), (@DictEntry.mk (@PyData.keyHash P (@Str.ofString "extends")) (@Value.str (@Str.ofString "extends") (nat_lit 296)) (@Value.ref (nat_lit 99))), (@DictEntry.mk (@PyData.keyHash P (@Str.ofString "equal_types")) (@Value.str (@Str.ofString "equal_types") (nat_lit 305)) (@Value.ref (nat_lit 107))), (@DictEntry.mk (@PyData.keyHash P (@Str.ofString "equal_procs")) (@Value.str (@Str.ofString "equal_procs") (nat_lit 317)) (@Value.ref (nat_lit 115))), (@DictEntry.mk (@PyData.keyHash P (@Str.ofString "equal_arrays")) (@Value.str (@Str.ofString "equal_arrays") (nat_lit 325)) (@Value.ref (nat_lit 122))), (@DictEntry.mk (@PyData.keyHash P (@Str.ofString "assignable_string")) (@Value.str (@Str.ofString "assignable_string") (nat_lit 333)) (@Value.ref (nat_lit 129))), (@DictEntry.mk (@PyData.keyHash P (@Str.ofString "assignable_proc")) (@Value.str (@Str.ofString "assignable_proc") (nat_lit 341)) (@Value.ref (nat_lit 136))), (@DictEntry.mk (@PyData.keyHash P (@Str.ofString "assignable")) (@Value.str (@Str.ofString "assignable") (nat_lit 350)) (@Value.ref (nat_lit 143))), (@DictEntry.mk (@PyData.keyHash P (@Str.ofString "unguarded")) (@Value.str (@Str.ofString "unguarded") (nat_lit 357)) (@Value.ref (nat_lit 150))), (@DictEntry.mk (@PyData.keyHash P (@Str.ofString "passable_variable")) (@Value.str (@Str.ofString "passable_variable") (nat_lit 367)) (@Value.ref (nat_lit 157))), (@DictEntry.mk (@PyData.keyHash P (@Str.ofString "passable_structure")) (@Value.str (@Str.ofString "passable_structure") (nat_lit 377)) (@Value.ref (nat_lit 164))), (@DictEntry.mk (@PyData.keyHash P (@Str.ofString "passable")) (@Value.str (@Str.ofString "passable") (nat_lit 385)) (@Value.ref (nat_lit 171))), (@DictEntry.mk (@PyData.keyHash P (@Str.ofString "Type")) (@Value.str (@Str.ofString "Type") (nat_lit 429)) (@Value.ref (nat_lit 188))), (@DictEntry.mk (@PyData.keyHash P (@Str.ofString "Obj")) (@Value.str (@Str.ofString "Obj") (nat_lit 474)) (@Value.ref (nat_lit 209)))] (nat_lit 31)) #[])
noncomputable def q_234 (P : Params) : Obj := (@Obj.mk PySem.Value.none none (@Data.fields #[(@Value.int (2 : Int) (nat_lit 0)), (@Value.int (0 : Int) (nat_lit 0)), (@Value.ref (nat_lit 20)), (@Value.int (11 : Int) (nat_lit 0)), (@Value.int (0 : Int) (nat_lit 0)), (@Value.ref (nat_lit 42)), (@Value.int (15 : Int) (nat_lit 0)), (@Value.int (0 : Int) (nat_lit 0)), (@Value.ref (nat_lit 49)), (@Value.int (21 : Int) (nat_lit 0)), (@Value.int (0 : Int) (nat_lit 0)), (@Value.ref (nat_lit 56)), (@Value.int (25 : Int) (nat_lit 0)), (@Value.int (0 : Int) (nat_lit 0)), (@Value.ref (nat_lit 63)), (@Value.int (27 : Int) (nat_lit 0)), (@Value.int (0 : Int) (nat_lit 0)), (@Value.ref (nat_lit 70)), (@Value.int (29 : Int) (nat_lit 0)), (@Value.int (0 : Int) (nat_lit 0)), (@Value.ref (nat_lit 77)), (@Value.int (31 : Int) (nat_lit 0)), (@Value.int (0 : Int) (nat_lit 0)), (@Value.ref (nat_lit 84)), (@Value.int (33 : Int) (nat_lit 0)), (@Value.int (0 : Int) (nat_lit 0)), (@Value.ref (nat_lit 91)), (@Value.int (39 : Int) (nat_lit 0)), (@Value.int (0 : Int) (nat_lit 0)), (@Value.ref (nat_lit 98)), (@Value.int (51 : Int) (nat_lit 0)), (@Value.int (0 : Int) (nat_lit 0)), (@Value.ref (nat_lit 106)), (@Value.int (59 : Int) (nat_lit 0)), (@Value.int (0 : Int) (nat_lit 0)), (@Value.ref (nat_lit 114)), (@Value.int (75 : Int) (nat_lit 0)), (@Value.int (0 : Int) (nat_lit 0)), (@Value.ref (nat_lit 121)), (@Value.int (81 : Int) (nat_lit 0)), (@Value.int (0 : Int) (nat_lit 0)), (@Value.ref (nat_lit 128)), (@Value.int (89 : Int) (nat_lit 0)), (@Value.int (0 : Int) (nat_lit 0)), (@Value.ref (nat_lit 135)), (@Value.int (93 : Int) (nat_lit 0)), (@Value.int (0 : Int) (nat_lit 0)), (@Value.ref (nat_lit 142)), (@Value.int (108 : Int) (nat_lit 0)), (@Value.int (0 : Int) (nat_lit 0)), (@Value.ref (nat_lit 149)), (@Value.int (112 : Int) (nat_lit 0)), (@Value.int (0 : Int) (nat_lit 0)), (@Value.ref (nat_lit 156)), (@Value.int (125 : Int) (nat_lit 0)), (@Value.int (0 : Int) (nat_lit 0)), (@Value.ref (nat_lit 163)), (@Value.int (136 : Int) (nat_lit 0)), (@Value.int (0 : Int) (nat_lit 0)), (@Value.ref (nat_lit 170)), (@Value.int (143 : Int) (nat_lit 0)), (@Value.int (0 : Int) (nat_lit 0)), (@Value.ref (nat_lit 177)), (@Value.int (158 : Int) (nat_lit 0)), (@Value.int (0 : Int) (nat_lit 0)), (@Value.ref (nat_lit 198))]) #[])
noncomputable def q_236 (P : Params) : Obj := (@Obj.mk (@Value.type "builtin_function_or_method") none (@Data.fields #[(@Value.builtin "type.__prepare__"), (@Value.type "type")]) #[])
noncomputable def q_237 (P : Params) : Obj := (@Obj.mk (@Value.type "dict") none (@Data.dict #[(@DictEntry.mk (@PyData.keyHash P (@Str.ofString "__module__")) (@Value.str (@Str.ofString "__module__") (nat_lit 437)) (@Value.str (@Str.ofString "moduleyard.types") (nat_lit 386))), (@DictEntry.mk (@PyData.keyHash P (@Str.ofString "__qualname__")) (@Value.str (@Str.ofString "__qualname__") (nat_lit 439)) (@Value.str (@Str.ofString "Obj") (nat_lit 438))), (@DictEntry.mk (@PyData.keyHash P (@Str.ofString "__firstlineno__")) (@Value.str (@Str.ofString "__firstlineno__") (nat_lit 441)) (@Value.int (158 : Int) (nat_lit 440))), (@DictEntry.mk (@PyData.keyHash P (@Str.ofString "__init__")) (@Value.str (@Str.ofString "__init__") (nat_lit 452)) (@Value.ref (nat_lit 206))), (@DictEntry.mk (@PyData.keyHash P (@Str.ofString "__static_attributes__")) (@Value.str (@Str.ofString "__static_attributes__") (nat_lit 467)) (@Value.ref (nat_lit 207)))] (nat_lit 5)) #[])
noncomputable def q_239 (P : Params) : Obj := (@Obj.mk PySem.Value.none none (@Data.fields #[(@Value.int (160 : Int) (nat_lit 0)), (@Value.int (4 : Int) (nat_lit 0)), (@Value.ref (nat_lit 205))]) #[])
noncomputable def q_240 (P : Params) : Obj := (@Obj.mk (@Value.type "code") none (@Data.fields #[(@Value.str (@Str.ofString "Obj") (nat_lit 432)), (@Value.str (@Str.ofString "Obj") (nat_lit 433)), (@Value.str (@Str.ofString "/claim/cut.py") (nat_lit 434)), (@Value.int (158 : Int) (nat_lit 0)), (@Value.int (0 : Int) (nat_lit 0)), (@Value.int (0 : Int) (nat_lit 0)), (@Value.int (0 : Int) (nat_lit 0)), (@Value.int (0 : Int) (nat_lit 0)), (@Value.ref (nat_lit 196)), (@Value.bool Bool.false), (@Value.int (181 : Int) (nat_lit 0)), (@Value.ref (nat_lit 197)), PySem.Value.none, PySem.Value.none, PySem.Value.none, PySem.Value.none, (@Value.int (435 : Int) (nat_lit 0)), (@Value.int (158 : Int) (nat_lit 0)), (@Value.str (@Str.ofString "/claim/cut.py") (nat_lit 436))]) #[])
noncomputable def q_241 (P : Params) : Obj := (@Obj.mk (@Value.type "frame") none PySem.Data.plain #[(some (@Value.ref (nat_lit 198))), (some (@Value.ref (nat_lit 3))), (some (@Value.ref (nat_lit 195))), none, (some (@Value.str (@Str.ofString "moduleyard.types") (nat_lit 386))), none, (some (@Value.ref (nat_lit 0)))])
noncomputable def q_243 (P : Params) : Obj := (@Obj.mk PySem.Value.none none (@Data.fields #[]) #[])
noncomputable def q_246 (P : Params) : Obj := (@Obj.mk PySem.Value.none none (@Data.func (@FuncData.mk (@Str.ofString "__init__") (@Str.ofString "Obj.__init__") (fArgs (nth (clsBody (nth topBody 24)) 0)) (@FuncBody.stmts (fBody (nth (clsBody (nth topBody 24)) 0))) (fScope (nth (clsBody (nth topBody 24)) 0)) (nat_lit 0) [] PySem.Value.none PySem.Value.none PySem.Value.none PySem.Value.none none PySem.Value.none PySem.Value.none (nat_lit 0))) #[])
noncomputable def q_254 (P : Params) : Obj := (@Obj.mk (@Value.type "super") none (@Data.fields #[(@Value.ref (nat_lit 209)), (@Value.ref (nat_lit 209)), (@Value.ref (nat_lit 209))]) #[])
noncomputable def q_255 (P : Params) : Obj := (@Obj.mk (@Value.type "builtin_function_or_method") none (@Data.fields #[(@Value.builtin "object.__init_subclass__"), (@Value.ref (nat_lit 209))]) #[])
noncomputable def q_256 (P : Params) : Obj := (@Obj.mk (@Value.type "dict") none (@Data.dict #[(@DictEntry.mk (@PyData.keyHash P (@Str.ofString "__name__")) (@Value.str (@Str.ofString "__name__") (nat_lit 165)) (@Value.str (@Str.ofString "law_pq0750_01") (nat_lit 534))), (@DictEntry.mk (@PyData.keyHash P (@Str.ofString "__doc__")) (@Value.str (@Str.ofString "__doc__") (nat_lit 166)) PySem.Value.none), (@DictEntry.mk (@PyData.keyHash P (@Str.ofString "__package__")) (@Value.str (@Str.ofString "__package__") (nat_lit 167)) PySem.Value.none), (@DictEntry.mk (@PyData.keyHash P (@Str.ofString "__loader__")) (@Value.str (@Str.ofString "__loader__") (nat_lit 168)) (@Value.builtin "__main__.__loader__#op\u0061que")), (@DictEntry.mk (@PyData.keyHash P (@Str.ofString "__spec__")) (@Value.str (@Str.ofString "__spec__") (nat_lit 169)) PySem.Value.none), (@DictEntry.mk (@PyData.keyHash P (@Str.ofString "__annotations__")) (@Value.str (@Str.ofString "__annotations__") (nat_lit 170)) (@Value.ref (nat_lit 6))), (@DictEntry.mk (@PyData.keyHash P (@Str.ofString "__builtins__")) (@Value.str (@Str.ofString "__builtins__") (nat_lit 171)) (@Value.ref (nat_lit 4))), (@DictEntry.mk (@PyData.keyHash P (@Str.ofString "__file__")) (@Value.str (@Str.ofString "__file__") (nat_lit 173)) (@Value.str (@Str.ofString "/claim/cut.py") (nat_lit 172))), (@DictEntry.mk (@PyData.keyHash P (@Str.ofString "__cached__")) (@Value.str (@Str.ofString "__cached__") (nat_lit 174)) PySem.Value.none), (@DictEntry.mk (@PyData.keyHash P (@Str.ofString "Node")) (@Value.str (@Str.ofString "Node") (nat_lit 226)) (@Value.ref (nat_lit 32))), (@DictEntry.mk (@PyData.keyHash P (@Str.ofString "is_designator")) (@Value.str (@Str.ofString "is_designator") (nat_lit 233)) (@Value.ref (nat_lit 43))), (@DictEntry.mk (@PyData.keyHash P (@Str.ofString "root_var")) (@Value.str (@Str.ofString "root_var") (nat_lit 240)) (@Value.ref (nat_lit 50))), (@DictEntry.mk (@PyData.keyHash P (@Str.ofString "is_readonly")) (@Value.str (@Str.ofString "is_readonly") (nat_lit 248)) (@Value.ref (nat_lit 57))), (@DictEntry.mk (@PyData.keyHash P (@Str.ofString "same_type")) (@Value.str (@Str.ofString "same_type") (nat_lit 258)) (@Value.ref (nat_lit 64))), (@DictEntry.mk (@PyData.keyHash P (@Str.ofString "is_integer")) (@Value.str (@Str.ofString "is_integer") (nat_lit 265)) (@Value.ref (nat_lit 71))), (@DictEntry.mk (@PyData.keyHash P (@Str.ofString "is_text")) (@Value.str (@Str.ofString "is_text") (nat_lit 272)) (@Value.ref (nat_lit 78))), (@DictEntry.mk (@PyData.keyHash P (@Str.ofString "is_open")) (@Value.str (@Str.ofString "is_open") (nat_lit 279)) (@Value.ref (nat_lit 85))), (@DictEntry.mk (@PyData.keyHash P (@Str.ofString "record_of")) (@Value.str (@Str.ofString "record_of") (nat_lit 286)) (@Value.ref (nat_lit 92))), (@DictEntry.mk (@PyData.keyHash P (@Str.ofString "extends")) (@Value.str (@Str.ofString "extends") (nat_lit 296)) (@Value.ref (nat_lit 99))), (@DictEntry.mk (@PyData.keyHash P (@Str.ofString "equal_types")) (@Value.str (@Str.ofString "equal_types") (nat_lit 305)) (@Value.ref (nat_lit 107))), (@DictEntry.mk (@PyData.keyHash P (@Str.ofString "equal_procs")) (@Value.str (@Str.ofString "equal_procs") (nat_lit 317)) (@Value.ref (nat_lit 115))), (@DictEntry.mk (@PyData.keyHash P (@Str.ofString "equal_arrays")) (@Value.str (@Str.ofString "equal_arrays") (nat_lit 325)) (@Value.ref (nat_lit 122))), (@DictEntry.mk (@PyData.keyHash P (@Str.ofString "assignable_string")) (@Value.str (@Str.ofString "assignable_string") (nat_lit 333)) (@Value.ref (nat_lit 129))), (@DictEntry.mk (@PyData.keyHash P (@Str.ofString "assignable_proc")) (@Value.str (@Str.ofString "assignable_proc") (nat_lit 341)) (@Value.ref (nat_lit 136))), (@DictEntry.mk (@PyData.keyHash P (@Str.ofString "assignable")) (@Value.str (@Str.ofString "assignable") (nat_lit 350)) (@Value.ref (nat_lit 143))), (@DictEntry.mk (@PyData.keyHash P (@Str.ofString "unguarded")) (@Value.str (@Str.ofString "unguarded") (nat_lit 357)) (@Value.ref (nat_lit 150))), (@DictEntry.mk (@PyData.keyHash P (@Str.ofString "passable_variable")) (@Value.str (@Str.ofString "passable_variable") (nat_lit 367)) (@Value.ref (nat_lit 157))), (@DictEntry.mk (@PyData.keyHash P (@Str.ofString "passable_structure")) (@Value.str (@Str.ofString "passable_structure") (nat_lit 377)) (@Value.ref (nat_lit 164))), (@DictEntry.mk (@PyData.keyHash P (@Str.ofString "passable")) (@Value.str (@Str.ofString "passable") (nat_lit 385)) (@Value.ref (nat_lit 171))), (@DictEntry.mk (@PyData.keyHash P (@Str.ofString "Type")) (@Value.str (@Str.ofString "Type") (nat_lit 429)) (@Value.ref (nat_lit 188))), (@DictEntry.mk (@PyData.keyHash P (@Str.ofString "Obj")) (@Value.str (@Str.ofString "Obj") (nat_lit 474)) (@Value.ref (nat_lit 209))), (@DictEntry.mk (@PyData.keyHash P (@Str.ofString "Types")) (@Value.str (@Str.ofString "Types") (nat_lit 533)) (@Value.ref (nat_lit 245))), (@DictEntry.mk (@PyData.keyHash P (@Str.ofString "_law_take")) (@Value.str (@Str.ofString "_law_take") (nat_lit 545)) (@Value.ref (nat_lit 256))), (@DictEntry.mk (@PyData.keyHash P (@Str.ofString "_law_due")) (@Value.str (@Str.ofString "_law_due") (nat_lit 559)) (@Value.ref (nat_lit 263)))] (nat_lit 34)) #[])
noncomputable def q_257 (P : Params) : Obj := (@Obj.mk PySem.Value.none none (@Data.fields #[(@Value.int (2 : Int) (nat_lit 0)), (@Value.int (0 : Int) (nat_lit 0)), (@Value.ref (nat_lit 20)), (@Value.int (11 : Int) (nat_lit 0)), (@Value.int (0 : Int) (nat_lit 0)), (@Value.ref (nat_lit 42)), (@Value.int (15 : Int) (nat_lit 0)), (@Value.int (0 : Int) (nat_lit 0)), (@Value.ref (nat_lit 49)), (@Value.int (21 : Int) (nat_lit 0)), (@Value.int (0 : Int) (nat_lit 0)), (@Value.ref (nat_lit 56)), (@Value.int (25 : Int) (nat_lit 0)), (@Value.int (0 : Int) (nat_lit 0)), (@Value.ref (nat_lit 63)), (@Value.int (27 : Int) (nat_lit 0)), (@Value.int (0 : Int) (nat_lit 0)), (@Value.ref (nat_lit 70)), (@Value.int (29 : Int) (nat_lit 0)), (@Value.int (0 : Int) (nat_lit 0)), (@Value.ref (nat_lit 77)), (@Value.int (31 : Int) (nat_lit 0)), (@Value.int (0 : Int) (nat_lit 0)), (@Value.ref (nat_lit 84)), (@Value.int (33 : Int) (nat_lit 0)), (@Value.int (0 : Int) (nat_lit 0)), (@Value.ref (nat_lit 91)), (@Value.int (39 : Int) (nat_lit 0)), (@Value.int (0 : Int) (nat_lit 0)), (@Value.ref (nat_lit 98)), (@Value.int (51 : Int) (nat_lit 0)), (@Value.int (0 : Int) (nat_lit 0)), (@Value.ref (nat_lit 106)), (@Value.int (59 : Int) (nat_lit 0)), (@Value.int (0 : Int) (nat_lit 0)), (@Value.ref (nat_lit 114)), (@Value.int (75 : Int) (nat_lit 0)), (@Value.int (0 : Int) (nat_lit 0)), (@Value.ref (nat_lit 121)), (@Value.int (81 : Int) (nat_lit 0)), (@Value.int (0 : Int) (nat_lit 0)), (@Value.ref (nat_lit 128)), (@Value.int (89 : Int) (nat_lit 0)), (@Value.int (0 : Int) (nat_lit 0)), (@Value.ref (nat_lit 135)), (@Value.int (93 : Int) (nat_lit 0)), (@Value.int (0 : Int) (nat_lit 0)), (@Value.ref (nat_lit 142)), (@Value.int (108 : Int) (nat_lit 0)), (@Value.int (0 : Int) (nat_lit 0)), (@Value.ref (nat_lit 149)), (@Value.int (112 : Int) (nat_lit 0)), (@Value.int (0 : Int) (nat_lit 0)), (@Value.ref (nat_lit 156)), (@Value.int (125 : Int) (nat_lit 0)), (@Value.int (0 : Int) (nat_lit 0)), (@Value.ref (nat_lit 163)), (@Value.int (136 : Int) (nat_lit 0)), (@Value.int (0 : Int) (nat_lit 0)), (@Value.ref (nat_lit 170)), (@Value.int (143 : Int) (nat_lit 0)), (@Value.int (0 : Int) (nat_lit 0)), (@Value.ref (nat_lit 177)), (@Value.int (158 : Int) (nat_lit 0)), (@Value.int (0 : Int) (nat_lit 0)), (@Value.ref (nat_lit 198)), (@Value.int (175 : Int) (nat_lit 0)), (@Value.int (0 : Int) (nat_lit 0)), (@Value.ref (nat_lit 219)), (@Value.int (203 : Int) (nat_lit 0)), (@Value.int (0 : Int) (nat_lit 0)), (@Value.ref (nat_lit 255)), (@Value.int (209 : Int) (nat_lit 0)), (@Value.int (0 : Int) (nat_lit 0)), (@Value.ref (nat_lit 262))]) #[])
noncomputable def q_259 (P : Params) : Obj := (@Obj.mk (@Value.type "builtin_function_or_method") none (@Data.fields #[(@Value.builtin "type.__prepare__"), (@Value.type "type")]) #[])
noncomputable def q_260 (P : Params) : Obj := (@Obj.mk (@Value.type "dict") none (@Data.dict #[(@DictEntry.mk (@PyData.keyHash P (@Str.ofString "__module__")) (@Value.str (@Str.ofString "__module__") (nat_lit 482)) (@Value.str (@Str.ofString "moduleyard.types") (nat_lit 386))), (@DictEntry.mk (@PyData.keyHash P (@Str.ofString "__qualname__")) (@Value.str (@Str.ofString "__qualname__") (nat_lit 484)) (@Value.str (@Str.ofString "Types") (nat_lit 483))), (@DictEntry.mk (@PyData.keyHash P (@Str.ofString "__firstlineno__")) (@Value.str (@Str.ofString "__firstlineno__") (nat_lit 486)) (@Value.int (175 : Int) (nat_lit 485))), (@DictEntry.mk (@PyData.keyHash P (@Str.ofString "__init__")) (@Value.str (@Str.ofString "__init__") (nat_lit 493)) (@Value.ref (nat_lit 227))), (@DictEntry.mk (@PyData.keyHash P (@Str.ofString "new")) (@Value.str (@Str.ofString "new") (nat_lit 507)) (@Value.ref (nat_lit 235))), (@DictEntry.mk (@PyData.keyHash P (@Str.ofString "string")) (@Value.str (@Str.ofString "string") (nat_lit 516)) (@Value.ref (nat_lit 242))), (@DictEntry.mk (@PyData.keyHash P (@Str.ofString "__static_attributes__")) (@Value.str (@Str.ofString "__static_attributes__") (nat_lit 526)) (@Value.ref (nat_lit 243)))] (nat_lit 7)) #[])
noncomputable def q_262 (P : Params) : Obj := (@Obj.mk PySem.Value.none none (@Data.fields #[(@Value.int (177 : Int) (nat_lit 0)), (@Value.int (4 : Int) (nat_lit 0)), (@Value.ref (nat_lit 226)), (@Value.int (188 : Int) (nat_lit 0)), (@Value.int (4 : Int) (nat_lit 0)), (@Value.ref (nat_lit 234)), (@Value.int (197 : Int) (nat_lit 0)), (@Value.int (4 : Int) (nat_lit 0)), (@Value.ref (nat_lit 241))]) #[])
noncomputable def q_263 (P : Params) : Obj := (@Obj.mk (@Value.type "code") none (@Data.fields #[(@Value.str (@Str.ofString "Types") (nat_lit 477)), (@Value.str (@Str.ofString "Types") (nat_lit 478)), (@Value.str (@Str.ofString "/claim/cut.py") (nat_lit 479)), (@Value.int (175 : Int) (nat_lit 0)), (@Value.int (0 : Int) (nat_lit 0)), (@Value.int (0 : Int) (nat_lit 0)), (@Value.int (0 : Int) (nat_lit 0)), (@Value.int (0 : Int) (nat_lit 0)), (@Value.ref (nat_lit 217)), (@Value.bool Bool.false), (@Value.int (181 : Int) (nat_lit 0)), (@Value.ref (nat_lit 218)), PySem.Value.none, PySem.Value.none, PySem.Value.none, PySem.Value.none, (@Value.int (480 : Int) (nat_lit 0)), (@Value.int (175 : Int) (nat_lit 0)), (@Value.str (@Str.ofString "/claim/cut.py") (nat_lit 481))]) #[])
noncomputable def q_264 (P : Params) : Obj := (@Obj.mk (@Value.type "frame") none PySem.Data.plain #[(some (@Value.ref (nat_lit 219))), (some (@Value.ref (nat_lit 3))), (some (@Value.ref (nat_lit 216))), none, (some (@Value.str (@Str.ofString "moduleyard.types") (nat_lit 386))), none, (some (@Value.ref (nat_lit 0)))])
noncomputable def q_266 (P : Params) : Obj := (@Obj.mk PySem.Value.none none (@Data.fields #[]) #[])
noncomputable def q_269 (P : Params) : Obj := (@Obj.mk PySem.Value.none none (@Data.func (@FuncData.mk (@Str.ofString "__init__") (@Str.ofString "Types.__init__") (fArgs (nth (clsBody (nth topBody 25)) 0)) (@FuncBody.stmts (fBody (nth (clsBody (nth topBody 25)) 0))) (fScope (nth (clsBody (nth topBody 25)) 0)) (nat_lit 0) [] PySem.Value.none PySem.Value.none PySem.Value.none PySem.Value.none none PySem.Value.none PySem.Value.none (nat_lit 0))) #[])
noncomputable def q_274 (P : Params) : Obj := (@Obj.mk PySem.Value.none none (@Data.fields #[]) #[])
noncomputable def q_277 (P : Params) : Obj := (@Obj.mk PySem.Value.none none (@Data.func (@FuncData.mk (@Str.ofString "new") (@Str.ofString "Types.new") (fArgs (nth (clsBody (nth topBody 25)) 1)) (@FuncBody.stmts (fBody (nth (clsBody (nth topBody 25)) 1))) (fScope (nth (clsBody (nth topBody 25)) 1)) (nat_lit 0) [] PySem.Value.none PySem.Value.none PySem.Value.none PySem.Value.none none PySem.Value.none PySem.Value.none (nat_lit 0))) #[])
noncomputable def q_281 (P : Params) : Obj := (@Obj.mk PySem.Value.none none (@Data.fields #[]) #[])
noncomputable def q_284 (P : Params) : Obj := (@Obj.mk PySem.Value.none none (@Data.func (@FuncData.mk (@Str.ofString "string") (@Str.ofString "Types.string") (fArgs (nth (clsBody (nth topBody 25)) 2)) (@FuncBody.stmts (fBody (nth (clsBody (nth topBody 25)) 2))) (fScope (nth (clsBody (nth topBody 25)) 2)) (nat_lit 0) [] PySem.Value.none PySem.Value.none PySem.Value.none PySem.Value.none none PySem.Value.none PySem.Value.none (nat_lit 0))) #[])
noncomputable def q_292 (P : Params) : Obj := (@Obj.mk (@Value.type "super") none (@Data.fields #[(@Value.ref (nat_lit 245)), (@Value.ref (nat_lit 245)), (@Value.ref (nat_lit 245))]) #[])
noncomputable def q_293 (P : Params) : Obj := (@Obj.mk (@Value.type "builtin_function_or_method") none (@Data.fields #[(@Value.builtin "object.__init_subclass__"), (@Value.ref (nat_lit 245))]) #[])
noncomputable def q_295 (P : Params) : Obj := (@Obj.mk PySem.Value.none none (@Data.fields #[]) #[])
noncomputable def q_298 (P : Params) : Obj := (@Obj.mk PySem.Value.none none (@Data.func (@FuncData.mk (@Str.ofString "_law_take") (@Str.ofString "_law_take") (fArgs (nth topBody 27)) (@FuncBody.stmts (fBody (nth topBody 27))) (fScope (nth topBody 27)) (nat_lit 0) [] PySem.Value.none PySem.Value.none PySem.Value.none PySem.Value.none none PySem.Value.none PySem.Value.none (nat_lit 0))) #[])
noncomputable def q_302 (P : Params) : Obj := (@Obj.mk PySem.Value.none none (@Data.fields #[]) #[])
noncomputable def q_305 (P : Params) : Obj := (@Obj.mk PySem.Value.none none (@Data.func (@FuncData.mk (@Str.ofString "_law_due") (@Str.ofString "_law_due") (fArgs (nth topBody 28)) (@FuncBody.stmts (fBody (nth topBody 28))) (fScope (nth topBody 28)) (nat_lit 0) [] PySem.Value.none PySem.Value.none PySem.Value.none PySem.Value.none none PySem.Value.none PySem.Value.none (nat_lit 0))) #[])
noncomputable def q_309 (P : Params) : Obj := (@Obj.mk PySem.Value.none none (@Data.fields #[(@Value.int (2 : Int) (nat_lit 0)), (@Value.int (0 : Int) (nat_lit 0)), (@Value.ref (nat_lit 20)), (@Value.int (11 : Int) (nat_lit 0)), (@Value.int (0 : Int) (nat_lit 0)), (@Value.ref (nat_lit 42)), (@Value.int (15 : Int) (nat_lit 0)), (@Value.int (0 : Int) (nat_lit 0)), (@Value.ref (nat_lit 49)), (@Value.int (21 : Int) (nat_lit 0)), (@Value.int (0 : Int) (nat_lit 0)), (@Value.ref (nat_lit 56)), (@Value.int (25 : Int) (nat_lit 0)), (@Value.int (0 : Int) (nat_lit 0)), (@Value.ref (nat_lit 63)), (@Value.int (27 : Int) (nat_lit 0)), (@Value.int (0 : Int) (nat_lit 0)), (@Value.ref (nat_lit 70)), (@Value.int (29 : Int) (nat_lit 0)), (@Value.int (0 : Int) (nat_lit 0)), (@Value.ref (nat_lit 77)), (@Value.int (31 : Int) (nat_lit 0)), (@Value.int (0 : Int) (nat_lit 0)), (@Value.ref (nat_lit 84)), (@Value.int (33 : Int) (nat_lit 0)), (@Value.int (0 : Int) (nat_lit 0)), (@Value.ref (nat_lit 91)), (@Value.int (39 : Int) (nat_lit 0)), (@Value.int (0 : Int) (nat_lit 0)), (@Value.ref (nat_lit 98)), (@Value.int (51 : Int) (nat_lit 0)), (@Value.int (0 : Int) (nat_lit 0)), (@Value.ref (nat_lit 106)), (@Value.int (59 : Int) (nat_lit 0)), (@Value.int (0 : Int) (nat_lit 0)), (@Value.ref (nat_lit 114)), (@Value.int (75 : Int) (nat_lit 0)), (@Value.int (0 : Int) (nat_lit 0)), (@Value.ref (nat_lit 121)), (@Value.int (81 : Int) (nat_lit 0)), (@Value.int (0 : Int) (nat_lit 0)), (@Value.ref (nat_lit 128)), (@Value.int (89 : Int) (nat_lit 0)), (@Value.int (0 : Int) (nat_lit 0)), (@Value.ref (nat_lit 135)), (@Value.int (93 : Int) (nat_lit 0)), (@Value.int (0 : Int) (nat_lit 0)), (@Value.ref (nat_lit 142)), (@Value.int (108 : Int) (nat_lit 0)), (@Value.int (0 : Int) (nat_lit 0)), (@Value.ref (nat_lit 149)), (@Value.int (112 : Int) (nat_lit 0)), (@Value.int (0 : Int) (nat_lit 0)), (@Value.ref (nat_lit 156)), (@Value.int (125 : Int) (nat_lit 0)), (@Value.int (0 : Int) (nat_lit 0)), (@Value.ref (nat_lit 163)), (@Value.int (136 : Int) (nat_lit 0)), (@Value.int (0 : Int) (nat_lit 0)), (@Value.ref (nat_lit 170)), (@Value.int (143 : Int) (nat_lit 0)), (@Value.int (0 : Int) (nat_lit 0)), (@Value.ref (nat_lit 177)), (@Value.int (158 : Int) (nat_lit 0)), (@Value.int (0 : Int) (nat_lit 0)), (@Value.ref (nat_lit 198)), (@Value.int (175 : Int) (nat_lit 0)), (@Value.int (0 : Int) (nat_lit 0)), (@Value.ref (nat_lit 219)), (@Value.int (203 : Int) (nat_lit 0)), (@Value.int (0 : Int) (nat_lit 0)), (@Value.ref (nat_lit 255)), (@Value.int (209 : Int) (nat_lit 0)), (@Value.int (0 : Int) (nat_lit 0)), (@Value.ref (nat_lit 262)), (@Value.int (221 : Int) (nat_lit 0)), (@Value.int (0 : Int) (nat_lit 0)), (@Value.ref (nat_lit 269))]) #[])
noncomputable def q_311 (P : Params) : Obj := (@Obj.mk PySem.Value.none none (@Data.fields #[]) #[])
noncomputable def q_314 (P : Params) : Obj := (@Obj.mk PySem.Value.none none (@Data.func (@FuncData.mk (@Str.ofString "law") (@Str.ofString "law") (fArgs (nth topBody 29)) (@FuncBody.stmts (fBody (nth topBody 29))) (fScope (nth topBody 29)) (nat_lit 0) [] PySem.Value.none PySem.Value.none PySem.Value.none PySem.Value.none none PySem.Value.none PySem.Value.none (nat_lit 0))) #[])
noncomputable def heap_46 : Params → Heap := fun P => (@Heap.mk (@Array.mk PySem.Obj [(@boot_o_0 P), (@boot_o_1 P), (@boot_o_2 P), (@boot_o_3 P), (@boot_o_4 P), (@boot_o_5 P), (@boot_o_6 P), (@boot_o_7 P), (@boot_o_8 P), (@boot_o_9 P), (@boot_o_10 P), o23, (q_44 P), (q_45 P), (q_46 P)]) (@Life.mk [] [] [] (nat_lit 0) [] [] Bool.false #[] [] (nat_lit 0) Bool.false Bool.false Bool.false (0 : Int) [(2000 : Int), (10 : Int), (10 : Int)] Bool.false (nat_lit 0) Bool.true [] [] (nat_lit 0) Bool.false))
noncomputable def heap_317 : Params → Heap := fun P => (@Heap.mk (@Array.mk PySem.Obj [(@boot_o_0 P), (@boot_o_1 P), (@boot_o_2 P), (o3 P), (@boot_o_4 P), (@boot_o_5 P), (@boot_o_6 P), (@boot_o_7 P), (@boot_o_8 P), (@boot_o_9 P), (@boot_o_10 P), o23, (q_309 P), (q_45 P), (q_46 P), o23, (q_52 P), (q_53 P), o23, (q_55 P), (q_56 P), (q_57 P), o22, o23, (q_60 P), o25, o23, (q_63 P), o28, o29, o30, (o31 P), o32, o33, o34, (q_71 P), (q_72 P), o23, (q_74 P), o39, o23, (q_77 P), o42, o43, o23, (q_81 P), o46, o23, (q_84 P), o49, o50, o23, (q_88 P), o53, o23, (q_91 P), o56, o57, o23, (q_95 P), o60, o23, (q_98 P), o63, o64, o23, (q_102 P), o67, o23, (q_105 P), o70, o71, o23, (q_111 P), o74, o23, (q_114 P), o77, o78, o23, (q_118 P), o81, o23, (q_121 P), o84, o85, o23, (q_125 P), o88, o23, (q_128 P), o91, o92, o23, (q_132 P), o95, o23, (q_135 P), o98, o99, o22, o23, (q_140 P), o103, o23, (q_143 P), o106, o107, o22, o23, (q_148 P), o111, o23, (q_151 P), o114, o115, o23, (q_155 P), o118, o23, (q_158 P), o121, o122, o23, (q_162 P), o125, o23, (q_165 P), o128, o129, o23, (q_169 P), o132, o23, (q_172 P), o135, o136, o23, (q_176 P), o139, o23, (q_179 P), o142, o143, o23, (q_183 P), o146, o23, (q_186 P), o149, o150, o23, (q_190 P), o153, o23, (q_193 P), o156, o157, o23, (q_197 P), o160, o23, (q_200 P), o163, o164, o23, (q_206 P), o167, o23, (q_209 P), o170, o171, o23, (q_213 P), (q_214 P), o23, (q_216 P), (q_217 P), (q_218 P), o23, (q_220 P), o181, o23, (q_223 P), o184, o185, o186, (o187 P), o188, o189, o190, (q_231 P), (q_232 P), o23, (q_236 P), (q_237 P), o23, (q_239 P), (q_240 P), (q_241 P), o23, (q_243 P), o202, o23, (q_246 P), o205, o206, o207, (o208 P), o209, o210, o211, (q_254 P), (q_255 P), o23, (q_259 P), (q_260 P), o23, (q_262 P), (q_263 P), (q_264 P), o23, (q_266 P), o223, o23, (q_269 P), o226, o227, o228, o23, (q_274 P), o231, o23, (q_277 P), o234, o235, o23, (q_281 P), o238, o23, (q_284 P), o241, o242, o243, (o244 P), o245, o246, o247, (q_292 P), (q_293 P), o23, (q_295 P), o252, o23, (q_298 P), o255, o256, o23, (q_302 P), o259, o23, (q_305 P), o262, o263, o23, (q_311 P), o266, o23, (q_314 P), o269, o270]) (@Life.mk [] [] [] (nat_lit 0) [] [] Bool.false #[] [] (nat_lit 0) Bool.false Bool.false Bool.false (0 : Int) [(2000 : Int), (10 : Int), (10 : Int)] Bool.false (nat_lit 0) Bool.true [] [] (nat_lit 0) Bool.false))
noncomputable def tree_47 : Params → BT := fun P => (@BT.node (@boot_o_0 P) (@BT.node (@boot_o_1 P) (@BT.node (@boot_o_3 P) (@BT.node (@boot_o_7 P) PySem.W.BT.nil PySem.W.BT.nil) (@BT.node o23 PySem.W.BT.nil PySem.W.BT.nil)) (@BT.node (@boot_o_5 P) (@BT.node (@boot_o_9 P) PySem.W.BT.nil PySem.W.BT.nil) (@BT.node (q_45 P) PySem.W.BT.nil PySem.W.BT.nil))) (@BT.node (@boot_o_2 P) (@BT.node (@boot_o_4 P) (@BT.node (@boot_o_8 P) PySem.W.BT.nil PySem.W.BT.nil) (@BT.node (q_44 P) PySem.W.BT.nil PySem.W.BT.nil)) (@BT.node (@boot_o_6 P) (@BT.node (@boot_o_10 P) PySem.W.BT.nil PySem.W.BT.nil) (@BT.node (q_46 P) PySem.W.BT.nil PySem.W.BT.nil))))
noncomputable def tree_107 : Params → BT := fun P => (@BT.node (@boot_o_0 P) (@BT.node (@boot_o_1 P) (@BT.node (q_49 P) (@BT.node (@boot_o_7 P) (@BT.node o23 (@BT.node (o31 P) (@BT.node o63 PySem.W.BT.nil PySem.W.BT.nil) PySem.W.BT.nil) (@BT.node o23 PySem.W.BT.nil PySem.W.BT.nil)) (@BT.node o23 (@BT.node o39 (@BT.node o71 PySem.W.BT.nil PySem.W.BT.nil) PySem.W.BT.nil) (@BT.node (q_91 P) PySem.W.BT.nil PySem.W.BT.nil))) (@BT.node o23 (@BT.node (q_55 P) (@BT.node (q_71 P) (@BT.node o67 PySem.W.BT.nil PySem.W.BT.nil) PySem.W.BT.nil) (@BT.node o23 PySem.W.BT.nil PySem.W.BT.nil)) (@BT.node (q_63 P) (@BT.node o43 PySem.W.BT.nil PySem.W.BT.nil) (@BT.node (q_95 P) PySem.W.BT.nil PySem.W.BT.nil)))) (@BT.node (@boot_o_5 P) (@BT.node (@boot_o_9 P) (@BT.node (q_53 P) (@BT.node o33 (@BT.node o23 PySem.W.BT.nil PySem.W.BT.nil) PySem.W.BT.nil) (@BT.node o49 PySem.W.BT.nil PySem.W.BT.nil)) (@BT.node o25 (@BT.node (q_77 P) PySem.W.BT.nil PySem.W.BT.nil) (@BT.node o57 PySem.W.BT.nil PySem.W.BT.nil))) (@BT.node (q_45 P) (@BT.node (q_57 P) (@BT.node o23 (@BT.node (q_105 P) PySem.W.BT.nil PySem.W.BT.nil) PySem.W.BT.nil) (@BT.node o53 PySem.W.BT.nil PySem.W.BT.nil)) (@BT.node o29 (@BT.node (q_81 P) PySem.W.BT.nil PySem.W.BT.nil) (@BT.node o23 PySem.W.BT.nil PySem.W.BT.nil))))) (@BT.node (@boot_o_2 P) (@BT.node (@boot_o_4 P) (@BT.node (@boot_o_8 P) (@BT.node (q_52 P) (@BT.node o32 (@BT.node o64 PySem.W.BT.nil PySem.W.BT.nil) PySem.W.BT.nil) (@BT.node (q_84 P) PySem.W.BT.nil PySem.W.BT.nil)) (@BT.node (q_60 P) (@BT.node o23 PySem.W.BT.nil PySem.W.BT.nil) (@BT.node o56 PySem.W.BT.nil PySem.W.BT.nil))) (@BT.node (q_50 P) (@BT.node (q_56 P) (@BT.node (q_72 P) (@BT.node o23 PySem.W.BT.nil PySem.W.BT.nil) PySem.W.BT.nil) (@BT.node (q_88 P) PySem.W.BT.nil PySem.W.BT.nil)) (@BT.node o28 (@BT.node o23 PySem.W.BT.nil PySem.W.BT.nil) (@BT.node o60 PySem.W.BT.nil PySem.W.BT.nil)))) (@BT.node (@boot_o_6 P) (@BT.node (@boot_o_10 P) (@BT.node o23 (@BT.node o34 (@BT.node (q_102 P) PySem.W.BT.nil PySem.W.BT.nil) PySem.W.BT.nil) (@BT.node o50 PySem.W.BT.nil PySem.W.BT.nil)) (@BT.node o23 (@BT.node o42 PySem.W.BT.nil PySem.W.BT.nil) (@BT.node o23 PySem.W.BT.nil PySem.W.BT.nil))) (@BT.node (q_46 P) (@BT.node o22 (@BT.node (q_74 P) (@BT.node o70 PySem.W.BT.nil PySem.W.BT.nil) PySem.W.BT.nil) (@BT.node o23 PySem.W.BT.nil PySem.W.BT.nil)) (@BT.node o30 (@BT.node o46 PySem.W.BT.nil PySem.W.BT.nil) (@BT.node (q_98 P) PySem.W.BT.nil PySem.W.BT.nil))))))
noncomputable def tree_202 : Params → BT := fun P => (@BT.node (@boot_o_0 P) (@BT.node (@boot_o_1 P) (@BT.node (q_108 P) (@BT.node (@boot_o_7 P) (@BT.node o23 (@BT.node (o31 P) (@BT.node o63 (@BT.node (q_165 P) PySem.W.BT.nil PySem.W.BT.nil) PySem.W.BT.nil) (@BT.node o95 (@BT.node (q_197 P) PySem.W.BT.nil PySem.W.BT.nil) PySem.W.BT.nil)) (@BT.node o23 (@BT.node o23 (@BT.node o143 PySem.W.BT.nil PySem.W.BT.nil) PySem.W.BT.nil) (@BT.node o111 PySem.W.BT.nil PySem.W.BT.nil))) (@BT.node o23 (@BT.node o39 (@BT.node o71 (@BT.node o135 PySem.W.BT.nil PySem.W.BT.nil) PySem.W.BT.nil) (@BT.node o103 PySem.W.BT.nil PySem.W.BT.nil)) (@BT.node (q_91 P) (@BT.node (q_125 P) (@BT.node o23 PySem.W.BT.nil PySem.W.BT.nil) PySem.W.BT.nil) (@BT.node o23 PySem.W.BT.nil PySem.W.BT.nil)))) (@BT.node o23 (@BT.node (q_55 P) (@BT.node (q_71 P) (@BT.node o67 (@BT.node (q_169 P) PySem.W.BT.nil PySem.W.BT.nil) PySem.W.BT.nil) (@BT.node o99 (@BT.node o163 PySem.W.BT.nil PySem.W.BT.nil) PySem.W.BT.nil)) (@BT.node o23 (@BT.node (q_121 P) (@BT.node o23 PySem.W.BT.nil PySem.W.BT.nil) PySem.W.BT.nil) (@BT.node o115 PySem.W.BT.nil PySem.W.BT.nil))) (@BT.node (q_63 P) (@BT.node o43 (@BT.node o23 (@BT.node o139 PySem.W.BT.nil PySem.W.BT.nil) PySem.W.BT.nil) (@BT.node o107 PySem.W.BT.nil PySem.W.BT.nil)) (@BT.node (q_95 P) (@BT.node o91 (@BT.node (q_193 P) PySem.W.BT.nil PySem.W.BT.nil) PySem.W.BT.nil) (@BT.node o23 PySem.W.BT.nil PySem.W.BT.nil))))) (@BT.node (@boot_o_5 P) (@BT.node (@boot_o_9 P) (@BT.node (q_53 P) (@BT.node o33 (@BT.node o23 (@BT.node o129 PySem.W.BT.nil PySem.W.BT.nil) PySem.W.BT.nil) (@BT.node (q_135 P) (@BT.node o23 PySem.W.BT.nil PySem.W.BT.nil) PySem.W.BT.nil)) (@BT.node o49 (@BT.node o81 (@BT.node (q_183 P) PySem.W.BT.nil PySem.W.BT.nil) PySem.W.BT.nil) (@BT.node (q_151 P) PySem.W.BT.nil PySem.W.BT.nil))) (@BT.node o25 (@BT.node (q_77 P) (@BT.node (q_111 P) (@BT.node o23 PySem.W.BT.nil PySem.W.BT.nil) PySem.W.BT.nil) (@BT.node (q_143 P) PySem.W.BT.nil PySem.W.BT.nil)) (@BT.node o57 (@BT.node o23 (@BT.node o153 PySem.W.BT.nil PySem.W.BT.nil) PySem.W.BT.nil) (@BT.node o121 PySem.W.BT.nil PySem.W.BT.nil)))) (@BT.node (q_45 P) (@BT.node (q_57 P) (@BT.node o23 (@BT.node (q_105 P) (@BT.node o23 PySem.W.BT.nil PySem.W.BT.nil) PySem.W.BT.nil) (@BT.node o23 PySem.W.BT.nil PySem.W.BT.nil)) (@BT.node o53 (@BT.node o85 (@BT.node o149 PySem.W.BT.nil PySem.W.BT.nil) PySem.W.BT.nil) (@BT.node (q_155 P) PySem.W.BT.nil PySem.W.BT.nil))) (@BT.node o29 (@BT.node (q_81 P) (@BT.node o77 (@BT.node (q_179 P) PySem.W.BT.nil PySem.W.BT.nil) PySem.W.BT.nil) (@BT.node o23 PySem.W.BT.nil PySem.W.BT.nil)) (@BT.node o23 (@BT.node o23 (@BT.node o157 PySem.W.BT.nil PySem.W.BT.nil) PySem.W.BT.nil) (@BT.node o125 PySem.W.BT.nil PySem.W.BT.nil)))))) (@BT.node (@boot_o_2 P) (@BT.node (@boot_o_4 P) (@BT.node (@boot_o_8 P) (@BT.node (q_52 P) (@BT.node o32 (@BT.node o64 (@BT.node o128 PySem.W.BT.nil PySem.W.BT.nil) PySem.W.BT.nil) (@BT.node o23 (@BT.node o160 PySem.W.BT.nil PySem.W.BT.nil) PySem.W.BT.nil)) (@BT.node (q_84 P) (@BT.node (q_118 P) (@BT.node o23 PySem.W.BT.nil PySem.W.BT.nil) PySem.W.BT.nil) (@BT.node o23 PySem.W.BT.nil PySem.W.BT.nil))) (@BT.node (q_60 P) (@BT.node o23 (@BT.node o23 (@BT.node o136 PySem.W.BT.nil PySem.W.BT.nil) PySem.W.BT.nil) (@BT.node o23 PySem.W.BT.nil PySem.W.BT.nil)) (@BT.node o56 (@BT.node o88 (@BT.node (q_190 P) PySem.W.BT.nil PySem.W.BT.nil) PySem.W.BT.nil) (@BT.node (q_158 P) PySem.W.BT.nil PySem.W.BT.nil)))) (@BT.node (q_109 P) (@BT.node (q_56 P) (@BT.node (q_72 P) (@BT.node o23 (@BT.node o132 PySem.W.BT.nil PySem.W.BT.nil) PySem.W.BT.nil) (@BT.node o22 (@BT.node o164 PySem.W.BT.nil PySem.W.BT.nil) PySem.W.BT.nil)) (@BT.node (q_88 P) (@BT.node o84 (@BT.node (q_186 P) PySem.W.BT.nil PySem.W.BT.nil) PySem.W.BT.nil) (@BT.node o23 PySem.W.BT.nil PySem.W.BT.nil))) (@BT.node o28 (@BT.node o23 (@BT.node (q_114 P) (@BT.node o23 PySem.W.BT.nil PySem.W.BT.nil) PySem.W.BT.nil) (@BT.node o22 PySem.W.BT.nil PySem.W.BT.nil)) (@BT.node o60 (@BT.node o92 (@BT.node o156 PySem.W.BT.nil PySem.W.BT.nil) PySem.W.BT.nil) (@BT.node (q_162 P) PySem.W.BT.nil PySem.W.BT.nil))))) (@BT.node (@boot_o_6 P) (@BT.node (@boot_o_10 P) (@BT.node o23 (@BT.node o34 (@BT.node (q_102 P) (@BT.node o23 PySem.W.BT.nil PySem.W.BT.nil) PySem.W.BT.nil) (@BT.node o98 (@BT.node (q_200 P) PySem.W.BT.nil PySem.W.BT.nil) PySem.W.BT.nil)) (@BT.node o50 (@BT.node o23 (@BT.node o146 PySem.W.BT.nil PySem.W.BT.nil) PySem.W.BT.nil) (@BT.node o114 PySem.W.BT.nil PySem.W.BT.nil))) (@BT.node o23 (@BT.node o42 (@BT.node o74 (@BT.node (q_176 P) PySem.W.BT.nil PySem.W.BT.nil) PySem.W.BT.nil) (@BT.node o106 PySem.W.BT.nil PySem.W.BT.nil)) (@BT.node o23 (@BT.node (q_128 P) (@BT.node o23 PySem.W.BT.nil PySem.W.BT.nil) PySem.W.BT.nil) (@BT.node o122 PySem.W.BT.nil PySem.W.BT.nil)))) (@BT.node (q_46 P) (@BT.node o22 (@BT.node (q_74 P) (@BT.node o70 (@BT.node (q_172 P) PySem.W.BT.nil PySem.W.BT.nil) PySem.W.BT.nil) (@BT.node (q_140 P) PySem.W.BT.nil PySem.W.BT.nil)) (@BT.node o23 (@BT.node o23 (@BT.node o150 PySem.W.BT.nil PySem.W.BT.nil) PySem.W.BT.nil) (@BT.node o118 PySem.W.BT.nil PySem.W.BT.nil))) (@BT.node o30 (@BT.node o46 (@BT.node o78 (@BT.node o142 PySem.W.BT.nil PySem.W.BT.nil) PySem.W.BT.nil) (@BT.node (q_148 P) PySem.W.BT.nil PySem.W.BT.nil)) (@BT.node (q_98 P) (@BT.node (q_132 P) (@BT.node o23 PySem.W.BT.nil PySem.W.BT.nil) PySem.W.BT.nil) (@BT.node o23 PySem.W.BT.nil PySem.W.BT.nil)))))))
noncomputable def tree_232 : Params → BT := fun P => (@BT.node (@boot_o_0 P) (@BT.node (@boot_o_1 P) (@BT.node (q_203 P) (@BT.node (@boot_o_7 P) (@BT.node o23 (@BT.node (o31 P) (@BT.node o63 (@BT.node (q_165 P) PySem.W.BT.nil PySem.W.BT.nil) (@BT.node (q_231 P) PySem.W.BT.nil PySem.W.BT.nil)) (@BT.node o95 (@BT.node (q_197 P) PySem.W.BT.nil PySem.W.BT.nil) PySem.W.BT.nil)) (@BT.node o23 (@BT.node o23 (@BT.node o143 PySem.W.BT.nil PySem.W.BT.nil) PySem.W.BT.nil) (@BT.node o111 (@BT.node o23 PySem.W.BT.nil PySem.W.BT.nil) PySem.W.BT.nil))) (@BT.node o23 (@BT.node o39 (@BT.node o71 (@BT.node o135 PySem.W.BT.nil PySem.W.BT.nil) PySem.W.BT.nil) (@BT.node o103 (@BT.node o167 PySem.W.BT.nil PySem.W.BT.nil) PySem.W.BT.nil)) (@BT.node (q_91 P) (@BT.node (q_125 P) (@BT.node o23 PySem.W.BT.nil PySem.W.BT.nil) PySem.W.BT.nil) (@BT.node o23 (@BT.node (q_223 P) PySem.W.BT.nil PySem.W.BT.nil) PySem.W.BT.nil)))) (@BT.node o23 (@BT.node (q_55 P) (@BT.node (q_71 P) (@BT.node o67 (@BT.node (q_169 P) PySem.W.BT.nil PySem.W.BT.nil) PySem.W.BT.nil) (@BT.node o99 (@BT.node o163 PySem.W.BT.nil PySem.W.BT.nil) PySem.W.BT.nil)) (@BT.node o23 (@BT.node (q_121 P) (@BT.node o23 PySem.W.BT.nil PySem.W.BT.nil) PySem.W.BT.nil) (@BT.node o115 (@BT.node o23 PySem.W.BT.nil PySem.W.BT.nil) PySem.W.BT.nil))) (@BT.node (q_63 P) (@BT.node o43 (@BT.node o23 (@BT.node o139 PySem.W.BT.nil PySem.W.BT.nil) PySem.W.BT.nil) (@BT.node o107 (@BT.node o171 PySem.W.BT.nil PySem.W.BT.nil) PySem.W.BT.nil)) (@BT.node (q_95 P) (@BT.node o91 (@BT.node (q_193 P) PySem.W.BT.nil PySem.W.BT.nil) PySem.W.BT.nil) (@BT.node o23 (@BT.node (o187 P) PySem.W.BT.nil PySem.W.BT.nil) PySem.W.BT.nil))))) (@BT.node (@boot_o_5 P) (@BT.node (@boot_o_9 P) (@BT.node (q_53 P) (@BT.node o33 (@BT.node o23 (@BT.node o129 PySem.W.BT.nil PySem.W.BT.nil) PySem.W.BT.nil) (@BT.node (q_135 P) (@BT.node o23 PySem.W.BT.nil PySem.W.BT.nil) PySem.W.BT.nil)) (@BT.node o49 (@BT.node o81 (@BT.node (q_183 P) PySem.W.BT.nil PySem.W.BT.nil) PySem.W.BT.nil) (@BT.node (q_151 P) (@BT.node (q_217 P) PySem.W.BT.nil PySem.W.BT.nil) PySem.W.BT.nil))) (@BT.node o25 (@BT.node (q_77 P) (@BT.node (q_111 P) (@BT.node o23 PySem.W.BT.nil PySem.W.BT.nil) PySem.W.BT.nil) (@BT.node (q_143 P) (@BT.node (q_209 P) PySem.W.BT.nil PySem.W.BT.nil) PySem.W.BT.nil)) (@BT.node o57 (@BT.node o23 (@BT.node o153 PySem.W.BT.nil PySem.W.BT.nil) PySem.W.BT.nil) (@BT.node o121 (@BT.node o185 PySem.W.BT.nil PySem.W.BT.nil) PySem.W.BT.nil)))) (@BT.node (q_45 P) (@BT.node (q_57 P) (@BT.node o23 (@BT.node (q_105 P) (@BT.node o23 PySem.W.BT.nil PySem.W.BT.nil) PySem.W.BT.nil) (@BT.node o23 (@BT.node o23 PySem.W.BT.nil PySem.W.BT.nil) PySem.W.BT.nil)) (@BT.node o53 (@BT.node o85 (@BT.node o149 PySem.W.BT.nil PySem.W.BT.nil) PySem.W.BT.nil) (@BT.node (q_155 P) (@BT.node o181 PySem.W.BT.nil PySem.W.BT.nil) PySem.W.BT.nil))) (@BT.node o29 (@BT.node (q_81 P) (@BT.node o77 (@BT.node (q_179 P) PySem.W.BT.nil PySem.W.BT.nil) PySem.W.BT.nil) (@BT.node o23 (@BT.node (q_213 P) PySem.W.BT.nil PySem.W.BT.nil) PySem.W.BT.nil)) (@BT.node o23 (@BT.node o23 (@BT.node o157 PySem.W.BT.nil PySem.W.BT.nil) PySem.W.BT.nil) (@BT.node o125 (@BT.node o189 PySem.W.BT.nil PySem.W.BT.nil) PySem.W.BT.nil)))))) (@BT.node (@boot_o_2 P) (@BT.node (@boot_o_4 P) (@BT.node (@boot_o_8 P) (@BT.node (q_52 P) (@BT.node o32 (@BT.node o64 (@BT.node o128 PySem.W.BT.nil PySem.W.BT.nil) (@BT.node (q_232 P) PySem.W.BT.nil PySem.W.BT.nil)) (@BT.node o23 (@BT.node o160 PySem.W.BT.nil PySem.W.BT.nil) PySem.W.BT.nil)) (@BT.node (q_84 P) (@BT.node (q_118 P) (@BT.node o23 PySem.W.BT.nil PySem.W.BT.nil) PySem.W.BT.nil) (@BT.node o23 (@BT.node (q_216 P) PySem.W.BT.nil PySem.W.BT.nil) PySem.W.BT.nil))) (@BT.node (q_60 P) (@BT.node o23 (@BT.node o23 (@BT.node o136 PySem.W.BT.nil PySem.W.BT.nil) PySem.W.BT.nil) (@BT.node o23 (@BT.node o23 PySem.W.BT.nil PySem.W.BT.nil) PySem.W.BT.nil)) (@BT.node o56 (@BT.node o88 (@BT.node (q_190 P) PySem.W.BT.nil PySem.W.BT.nil) PySem.W.BT.nil) (@BT.node (q_158 P) (@BT.node o184 PySem.W.BT.nil PySem.W.BT.nil) PySem.W.BT.nil)))) (@BT.node (q_204 P) (@BT.node (q_56 P) (@BT.node (q_72 P) (@BT.node o23 (@BT.node o132 PySem.W.BT.nil PySem.W.BT.nil) PySem.W.BT.nil) (@BT.node o22 (@BT.node o164 PySem.W.BT.nil PySem.W.BT.nil) PySem.W.BT.nil)) (@BT.node (q_88 P) (@BT.node o84 (@BT.node (q_186 P) PySem.W.BT.nil PySem.W.BT.nil) PySem.W.BT.nil) (@BT.node o23 (@BT.node (q_220 P) PySem.W.BT.nil PySem.W.BT.nil) PySem.W.BT.nil))) (@BT.node o28 (@BT.node o23 (@BT.node (q_114 P) (@BT.node o23 PySem.W.BT.nil PySem.W.BT.nil) PySem.W.BT.nil) (@BT.node o22 (@BT.node o23 PySem.W.BT.nil PySem.W.BT.nil) PySem.W.BT.nil)) (@BT.node o60 (@BT.node o92 (@BT.node o156 PySem.W.BT.nil PySem.W.BT.nil) PySem.W.BT.nil) (@BT.node (q_162 P) (@BT.node o188 PySem.W.BT.nil PySem.W.BT.nil) PySem.W.BT.nil))))) (@BT.node (@boot_o_6 P) (@BT.node (@boot_o_10 P) (@BT.node o23 (@BT.node o34 (@BT.node (q_102 P) (@BT.node o23 PySem.W.BT.nil PySem.W.BT.nil) PySem.W.BT.nil) (@BT.node o98 (@BT.node (q_200 P) PySem.W.BT.nil PySem.W.BT.nil) PySem.W.BT.nil)) (@BT.node o50 (@BT.node o23 (@BT.node o146 PySem.W.BT.nil PySem.W.BT.nil) PySem.W.BT.nil) (@BT.node o114 (@BT.node (q_218 P) PySem.W.BT.nil PySem.W.BT.nil) PySem.W.BT.nil))) (@BT.node o23 (@BT.node o42 (@BT.node o74 (@BT.node (q_176 P) PySem.W.BT.nil PySem.W.BT.nil) PySem.W.BT.nil) (@BT.node o106 (@BT.node o170 PySem.W.BT.nil PySem.W.BT.nil) PySem.W.BT.nil)) (@BT.node o23 (@BT.node (q_128 P) (@BT.node o23 PySem.W.BT.nil PySem.W.BT.nil) PySem.W.BT.nil) (@BT.node o122 (@BT.node o186 PySem.W.BT.nil PySem.W.BT.nil) PySem.W.BT.nil)))) (@BT.node (q_46 P) (@BT.node o22 (@BT.node (q_74 P) (@BT.node o70 (@BT.node (q_172 P) PySem.W.BT.nil PySem.W.BT.nil) PySem.W.BT.nil) (@BT.node (q_140 P) (@BT.node (q_206 P) PySem.W.BT.nil PySem.W.BT.nil) PySem.W.BT.nil)) (@BT.node o23 (@BT.node o23 (@BT.node o150 PySem.W.BT.nil PySem.W.BT.nil) PySem.W.BT.nil) (@BT.node o118 (@BT.node o23 PySem.W.BT.nil PySem.W.BT.nil) PySem.W.BT.nil))) (@BT.node o30 (@BT.node o46 (@BT.node o78 (@BT.node o142 PySem.W.BT.nil PySem.W.BT.nil) PySem.W.BT.nil) (@BT.node (q_148 P) (@BT.node (q_214 P) PySem.W.BT.nil PySem.W.BT.nil) PySem.W.BT.nil)) (@BT.node (q_98 P) (@BT.node (q_132 P) (@BT.node o23 PySem.W.BT.nil PySem.W.BT.nil) PySem.W.BT.nil) (@BT.node o23 (@BT.node o190 PySem.W.BT.nil PySem.W.BT.nil) PySem.W.BT.nil)))))))
noncomputable def tree_255 : Params → BT := fun P => (@BT.node (@boot_o_0 P) (@BT.node (@boot_o_1 P) (@BT.node (q_233 P) (@BT.node (@boot_o_7 P) (@BT.node o23 (@BT.node (o31 P) (@BT.node o63 (@BT.node (q_165 P) PySem.W.BT.nil PySem.W.BT.nil) (@BT.node (q_231 P) PySem.W.BT.nil PySem.W.BT.nil)) (@BT.node o95 (@BT.node (q_197 P) PySem.W.BT.nil PySem.W.BT.nil) PySem.W.BT.nil)) (@BT.node o23 (@BT.node o23 (@BT.node o143 PySem.W.BT.nil PySem.W.BT.nil) (@BT.node o207 PySem.W.BT.nil PySem.W.BT.nil)) (@BT.node o111 (@BT.node o23 PySem.W.BT.nil PySem.W.BT.nil) PySem.W.BT.nil))) (@BT.node o23 (@BT.node o39 (@BT.node o71 (@BT.node o135 PySem.W.BT.nil PySem.W.BT.nil) (@BT.node (q_241 P) PySem.W.BT.nil PySem.W.BT.nil)) (@BT.node o103 (@BT.node o167 PySem.W.BT.nil PySem.W.BT.nil) PySem.W.BT.nil)) (@BT.node (q_91 P) (@BT.node (q_125 P) (@BT.node o23 PySem.W.BT.nil PySem.W.BT.nil) PySem.W.BT.nil) (@BT.node o23 (@BT.node (q_223 P) PySem.W.BT.nil PySem.W.BT.nil) PySem.W.BT.nil)))) (@BT.node o23 (@BT.node (q_55 P) (@BT.node (q_71 P) (@BT.node o67 (@BT.node (q_169 P) PySem.W.BT.nil PySem.W.BT.nil) (@BT.node (q_237 P) PySem.W.BT.nil PySem.W.BT.nil)) (@BT.node o99 (@BT.node o163 PySem.W.BT.nil PySem.W.BT.nil) PySem.W.BT.nil)) (@BT.node o23 (@BT.node (q_121 P) (@BT.node o23 PySem.W.BT.nil PySem.W.BT.nil) (@BT.node o211 PySem.W.BT.nil PySem.W.BT.nil)) (@BT.node o115 (@BT.node o23 PySem.W.BT.nil PySem.W.BT.nil) PySem.W.BT.nil))) (@BT.node (q_63 P) (@BT.node o43 (@BT.node o23 (@BT.node o139 PySem.W.BT.nil PySem.W.BT.nil) (@BT.node o23 PySem.W.BT.nil PySem.W.BT.nil)) (@BT.node o107 (@BT.node o171 PySem.W.BT.nil PySem.W.BT.nil) PySem.W.BT.nil)) (@BT.node (q_95 P) (@BT.node o91 (@BT.node (q_193 P) PySem.W.BT.nil PySem.W.BT.nil) PySem.W.BT.nil) (@BT.node o23 (@BT.node (o187 P) PySem.W.BT.nil PySem.W.BT.nil) PySem.W.BT.nil))))) (@BT.node (@boot_o_5 P) (@BT.node (@boot_o_9 P) (@BT.node (q_53 P) (@BT.node o33 (@BT.node o23 (@BT.node o129 PySem.W.BT.nil PySem.W.BT.nil) (@BT.node o23 PySem.W.BT.nil PySem.W.BT.nil)) (@BT.node (q_135 P) (@BT.node o23 PySem.W.BT.nil PySem.W.BT.nil) PySem.W.BT.nil)) (@BT.node o49 (@BT.node o81 (@BT.node (q_183 P) PySem.W.BT.nil PySem.W.BT.nil) (@BT.node o209 PySem.W.BT.nil PySem.W.BT.nil)) (@BT.node (q_151 P) (@BT.node (q_217 P) PySem.W.BT.nil PySem.W.BT.nil) PySem.W.BT.nil))) (@BT.node o25 (@BT.node (q_77 P) (@BT.node (q_111 P) (@BT.node o23 PySem.W.BT.nil PySem.W.BT.nil) (@BT.node (q_243 P) PySem.W.BT.nil PySem.W.BT.nil)) (@BT.node (q_143 P) (@BT.node (q_209 P) PySem.W.BT.nil PySem.W.BT.nil) PySem.W.BT.nil)) (@BT.node o57 (@BT.node o23 (@BT.node o153 PySem.W.BT.nil PySem.W.BT.nil) PySem.W.BT.nil) (@BT.node o121 (@BT.node o185 PySem.W.BT.nil PySem.W.BT.nil) PySem.W.BT.nil)))) (@BT.node (q_45 P) (@BT.node (q_57 P) (@BT.node o23 (@BT.node (q_105 P) (@BT.node o23 PySem.W.BT.nil PySem.W.BT.nil) (@BT.node (q_239 P) PySem.W.BT.nil PySem.W.BT.nil)) (@BT.node o23 (@BT.node o23 PySem.W.BT.nil PySem.W.BT.nil) PySem.W.BT.nil)) (@BT.node o53 (@BT.node o85 (@BT.node o149 PySem.W.BT.nil PySem.W.BT.nil) (@BT.node (q_255 P) PySem.W.BT.nil PySem.W.BT.nil)) (@BT.node (q_155 P) (@BT.node o181 PySem.W.BT.nil PySem.W.BT.nil) PySem.W.BT.nil))) (@BT.node o29 (@BT.node (q_81 P) (@BT.node o77 (@BT.node (q_179 P) PySem.W.BT.nil PySem.W.BT.nil) (@BT.node o205 PySem.W.BT.nil PySem.W.BT.nil)) (@BT.node o23 (@BT.node (q_213 P) PySem.W.BT.nil PySem.W.BT.nil) PySem.W.BT.nil)) (@BT.node o23 (@BT.node o23 (@BT.node o157 PySem.W.BT.nil PySem.W.BT.nil) PySem.W.BT.nil) (@BT.node o125 (@BT.node o189 PySem.W.BT.nil PySem.W.BT.nil) PySem.W.BT.nil)))))) (@BT.node (@boot_o_2 P) (@BT.node (@boot_o_4 P) (@BT.node (@boot_o_8 P) (@BT.node (q_52 P) (@BT.node o32 (@BT.node o64 (@BT.node o128 PySem.W.BT.nil PySem.W.BT.nil) (@BT.node (q_232 P) PySem.W.BT.nil PySem.W.BT.nil)) (@BT.node o23 (@BT.node o160 PySem.W.BT.nil PySem.W.BT.nil) PySem.W.BT.nil)) (@BT.node (q_84 P) (@BT.node (q_118 P) (@BT.node o23 PySem.W.BT.nil PySem.W.BT.nil) (@BT.node (o208 P) PySem.W.BT.nil PySem.W.BT.nil)) (@BT.node o23 (@BT.node (q_216 P) PySem.W.BT.nil PySem.W.BT.nil) PySem.W.BT.nil))) (@BT.node (q_60 P) (@BT.node o23 (@BT.node o23 (@BT.node o136 PySem.W.BT.nil PySem.W.BT.nil) (@BT.node o23 PySem.W.BT.nil PySem.W.BT.nil)) (@BT.node o23 (@BT.node o23 PySem.W.BT.nil PySem.W.BT.nil) PySem.W.BT.nil)) (@BT.node o56 (@BT.node o88 (@BT.node (q_190 P) PySem.W.BT.nil PySem.W.BT.nil) PySem.W.BT.nil) (@BT.node (q_158 P) (@BT.node o184 PySem.W.BT.nil PySem.W.BT.nil) PySem.W.BT.nil)))) (@BT.node (q_234 P) (@BT.node (q_56 P) (@BT.node (q_72 P) (@BT.node o23 (@BT.node o132 PySem.W.BT.nil PySem.W.BT.nil) (@BT.node o23 PySem.W.BT.nil PySem.W.BT.nil)) (@BT.node o22 (@BT.node o164 PySem.W.BT.nil PySem.W.BT.nil) PySem.W.BT.nil)) (@BT.node (q_88 P) (@BT.node o84 (@BT.node (q_186 P) PySem.W.BT.nil PySem.W.BT.nil) (@BT.node (q_254 P) PySem.W.BT.nil PySem.W.BT.nil)) (@BT.node o23 (@BT.node (q_220 P) PySem.W.BT.nil PySem.W.BT.nil) PySem.W.BT.nil))) (@BT.node o28 (@BT.node o23 (@BT.node (q_114 P) (@BT.node o23 PySem.W.BT.nil PySem.W.BT.nil) (@BT.node (q_246 P) PySem.W.BT.nil PySem.W.BT.nil)) (@BT.node o22 (@BT.node o23 PySem.W.BT.nil PySem.W.BT.nil) PySem.W.BT.nil)) (@BT.node o60 (@BT.node o92 (@BT.node o156 PySem.W.BT.nil PySem.W.BT.nil) PySem.W.BT.nil) (@BT.node (q_162 P) (@BT.node o188 PySem.W.BT.nil PySem.W.BT.nil) PySem.W.BT.nil))))) (@BT.node (@boot_o_6 P) (@BT.node (@boot_o_10 P) (@BT.node o23 (@BT.node o34 (@BT.node (q_102 P) (@BT.node o23 PySem.W.BT.nil PySem.W.BT.nil) (@BT.node (q_236 P) PySem.W.BT.nil PySem.W.BT.nil)) (@BT.node o98 (@BT.node (q_200 P) PySem.W.BT.nil PySem.W.BT.nil) PySem.W.BT.nil)) (@BT.node o50 (@BT.node o23 (@BT.node o146 PySem.W.BT.nil PySem.W.BT.nil) (@BT.node o210 PySem.W.BT.nil PySem.W.BT.nil)) (@BT.node o114 (@BT.node (q_218 P) PySem.W.BT.nil PySem.W.BT.nil) PySem.W.BT.nil))) (@BT.node o23 (@BT.node o42 (@BT.node o74 (@BT.node (q_176 P) PySem.W.BT.nil PySem.W.BT.nil) (@BT.node o202 PySem.W.BT.nil PySem.W.BT.nil)) (@BT.node o106 (@BT.node o170 PySem.W.BT.nil PySem.W.BT.nil) PySem.W.BT.nil)) (@BT.node o23 (@BT.node (q_128 P) (@BT.node o23 PySem.W.BT.nil PySem.W.BT.nil) PySem.W.BT.nil) (@BT.node o122 (@BT.node o186 PySem.W.BT.nil PySem.W.BT.nil) PySem.W.BT.nil)))) (@BT.node (q_46 P) (@BT.node o22 (@BT.node (q_74 P) (@BT.node o70 (@BT.node (q_172 P) PySem.W.BT.nil PySem.W.BT.nil) (@BT.node (q_240 P) PySem.W.BT.nil PySem.W.BT.nil)) (@BT.node (q_140 P) (@BT.node (q_206 P) PySem.W.BT.nil PySem.W.BT.nil) PySem.W.BT.nil)) (@BT.node o23 (@BT.node o23 (@BT.node o150 PySem.W.BT.nil PySem.W.BT.nil) PySem.W.BT.nil) (@BT.node o118 (@BT.node o23 PySem.W.BT.nil PySem.W.BT.nil) PySem.W.BT.nil))) (@BT.node o30 (@BT.node o46 (@BT.node o78 (@BT.node o142 PySem.W.BT.nil PySem.W.BT.nil) (@BT.node o206 PySem.W.BT.nil PySem.W.BT.nil)) (@BT.node (q_148 P) (@BT.node (q_214 P) PySem.W.BT.nil PySem.W.BT.nil) PySem.W.BT.nil)) (@BT.node (q_98 P) (@BT.node (q_132 P) (@BT.node o23 PySem.W.BT.nil PySem.W.BT.nil) PySem.W.BT.nil) (@BT.node o23 (@BT.node o190 PySem.W.BT.nil PySem.W.BT.nil) PySem.W.BT.nil)))))))
noncomputable def tree_307 : Params → BT := fun P => (@BT.node (@boot_o_0 P) (@BT.node (@boot_o_1 P) (@BT.node (q_256 P) (@BT.node (@boot_o_7 P) (@BT.node o23 (@BT.node (o31 P) (@BT.node o63 (@BT.node (q_165 P) (@BT.node o255 PySem.W.BT.nil PySem.W.BT.nil) PySem.W.BT.nil) (@BT.node (q_231 P) PySem.W.BT.nil PySem.W.BT.nil)) (@BT.node o95 (@BT.node (q_197 P) PySem.W.BT.nil PySem.W.BT.nil) (@BT.node o223 PySem.W.BT.nil PySem.W.BT.nil))) (@BT.node o23 (@BT.node o23 (@BT.node o143 PySem.W.BT.nil PySem.W.BT.nil) (@BT.node o207 PySem.W.BT.nil PySem.W.BT.nil)) (@BT.node o111 (@BT.node o23 PySem.W.BT.nil PySem.W.BT.nil) (@BT.node o23 PySem.W.BT.nil PySem.W.BT.nil)))) (@BT.node o23 (@BT.node o39 (@BT.node o71 (@BT.node o135 (@BT.node o263 PySem.W.BT.nil PySem.W.BT.nil) PySem.W.BT.nil) (@BT.node (q_241 P) PySem.W.BT.nil PySem.W.BT.nil)) (@BT.node o103 (@BT.node o167 PySem.W.BT.nil PySem.W.BT.nil) (@BT.node o231 PySem.W.BT.nil PySem.W.BT.nil))) (@BT.node (q_91 P) (@BT.node (q_125 P) (@BT.node o23 PySem.W.BT.nil PySem.W.BT.nil) (@BT.node (q_259 P) PySem.W.BT.nil PySem.W.BT.nil)) (@BT.node o23 (@BT.node (q_223 P) PySem.W.BT.nil PySem.W.BT.nil) (@BT.node o247 PySem.W.BT.nil PySem.W.BT.nil))))) (@BT.node o23 (@BT.node (q_55 P) (@BT.node (q_71 P) (@BT.node o67 (@BT.node (q_169 P) (@BT.node o259 PySem.W.BT.nil PySem.W.BT.nil) PySem.W.BT.nil) (@BT.node (q_237 P) PySem.W.BT.nil PySem.W.BT.nil)) (@BT.node o99 (@BT.node o163 PySem.W.BT.nil PySem.W.BT.nil) (@BT.node o227 PySem.W.BT.nil PySem.W.BT.nil))) (@BT.node o23 (@BT.node (q_121 P) (@BT.node o23 PySem.W.BT.nil PySem.W.BT.nil) (@BT.node o211 PySem.W.BT.nil PySem.W.BT.nil)) (@BT.node o115 (@BT.node o23 PySem.W.BT.nil PySem.W.BT.nil) (@BT.node o243 PySem.W.BT.nil PySem.W.BT.nil)))) (@BT.node (q_63 P) (@BT.node o43 (@BT.node o23 (@BT.node o139 PySem.W.BT.nil PySem.W.BT.nil) (@BT.node o23 PySem.W.BT.nil PySem.W.BT.nil)) (@BT.node o107 (@BT.node o171 PySem.W.BT.nil PySem.W.BT.nil) (@BT.node o235 PySem.W.BT.nil PySem.W.BT.nil))) (@BT.node (q_95 P) (@BT.node o91 (@BT.node (q_193 P) PySem.W.BT.nil PySem.W.BT.nil) (@BT.node (q_263 P) PySem.W.BT.nil PySem.W.BT.nil)) (@BT.node o23 (@BT.node (o187 P) PySem.W.BT.nil PySem.W.BT.nil) (@BT.node (q_295 P) PySem.W.BT.nil PySem.W.BT.nil)))))) (@BT.node (@boot_o_5 P) (@BT.node (@boot_o_9 P) (@BT.node (q_53 P) (@BT.node o33 (@BT.node o23 (@BT.node o129 (@BT.node o23 PySem.W.BT.nil PySem.W.BT.nil) PySem.W.BT.nil) (@BT.node o23 PySem.W.BT.nil PySem.W.BT.nil)) (@BT.node (q_135 P) (@BT.node o23 PySem.W.BT.nil PySem.W.BT.nil) (@BT.node (q_269 P) PySem.W.BT.nil PySem.W.BT.nil))) (@BT.node o49 (@BT.node o81 (@BT.node (q_183 P) PySem.W.BT.nil PySem.W.BT.nil) (@BT.node o209 PySem.W.BT.nil PySem.W.BT.nil)) (@BT.node (q_151 P) (@BT.node (q_217 P) PySem.W.BT.nil PySem.W.BT.nil) (@BT.node o241 PySem.W.BT.nil PySem.W.BT.nil)))) (@BT.node o25 (@BT.node (q_77 P) (@BT.node (q_111 P) (@BT.node o23 PySem.W.BT.nil PySem.W.BT.nil) (@BT.node (q_243 P) PySem.W.BT.nil PySem.W.BT.nil)) (@BT.node (q_143 P) (@BT.node (q_209 P) PySem.W.BT.nil PySem.W.BT.nil) (@BT.node (q_277 P) PySem.W.BT.nil PySem.W.BT.nil))) (@BT.node o57 (@BT.node o23 (@BT.node o153 PySem.W.BT.nil PySem.W.BT.nil) (@BT.node o23 PySem.W.BT.nil PySem.W.BT.nil)) (@BT.node o121 (@BT.node o185 PySem.W.BT.nil PySem.W.BT.nil) (@BT.node (q_293 P) PySem.W.BT.nil PySem.W.BT.nil))))) (@BT.node (q_45 P) (@BT.node (q_57 P) (@BT.node o23 (@BT.node (q_105 P) (@BT.node o23 (@BT.node (q_305 P) PySem.W.BT.nil PySem.W.BT.nil) PySem.W.BT.nil) (@BT.node (q_239 P) PySem.W.BT.nil PySem.W.BT.nil)) (@BT.node o23 (@BT.node o23 PySem.W.BT.nil PySem.W.BT.nil) (@BT.node o23 PySem.W.BT.nil PySem.W.BT.nil))) (@BT.node o53 (@BT.node o85 (@BT.node o149 PySem.W.BT.nil PySem.W.BT.nil) (@BT.node (q_255 P) PySem.W.BT.nil PySem.W.BT.nil)) (@BT.node (q_155 P) (@BT.node o181 PySem.W.BT.nil PySem.W.BT.nil) (@BT.node o245 PySem.W.BT.nil PySem.W.BT.nil)))) (@BT.node o29 (@BT.node (q_81 P) (@BT.node o77 (@BT.node (q_179 P) PySem.W.BT.nil PySem.W.BT.nil) (@BT.node o205 PySem.W.BT.nil PySem.W.BT.nil)) (@BT.node o23 (@BT.node (q_213 P) PySem.W.BT.nil PySem.W.BT.nil) (@BT.node (q_281 P) PySem.W.BT.nil PySem.W.BT.nil))) (@BT.node o23 (@BT.node o23 (@BT.node o157 PySem.W.BT.nil PySem.W.BT.nil) (@BT.node o23 PySem.W.BT.nil PySem.W.BT.nil)) (@BT.node o125 (@BT.node o189 PySem.W.BT.nil PySem.W.BT.nil) (@BT.node o23 PySem.W.BT.nil PySem.W.BT.nil))))))) (@BT.node (@boot_o_2 P) (@BT.node (@boot_o_4 P) (@BT.node (@boot_o_8 P) (@BT.node (q_52 P) (@BT.node o32 (@BT.node o64 (@BT.node o128 (@BT.node o256 PySem.W.BT.nil PySem.W.BT.nil) PySem.W.BT.nil) (@BT.node (q_232 P) PySem.W.BT.nil PySem.W.BT.nil)) (@BT.node o23 (@BT.node o160 PySem.W.BT.nil PySem.W.BT.nil) (@BT.node o23 PySem.W.BT.nil PySem.W.BT.nil))) (@BT.node (q_84 P) (@BT.node (q_118 P) (@BT.node o23 PySem.W.BT.nil PySem.W.BT.nil) (@BT.node (o208 P) PySem.W.BT.nil PySem.W.BT.nil)) (@BT.node o23 (@BT.node (q_216 P) PySem.W.BT.nil PySem.W.BT.nil) (@BT.node (q_284 P) PySem.W.BT.nil PySem.W.BT.nil)))) (@BT.node (q_60 P) (@BT.node o23 (@BT.node o23 (@BT.node o136 PySem.W.BT.nil PySem.W.BT.nil) (@BT.node o23 PySem.W.BT.nil PySem.W.BT.nil)) (@BT.node o23 (@BT.node o23 PySem.W.BT.nil PySem.W.BT.nil) (@BT.node o23 PySem.W.BT.nil PySem.W.BT.nil))) (@BT.node o56 (@BT.node o88 (@BT.node (q_190 P) PySem.W.BT.nil PySem.W.BT.nil) (@BT.node (q_260 P) PySem.W.BT.nil PySem.W.BT.nil)) (@BT.node (q_158 P) (@BT.node o184 PySem.W.BT.nil PySem.W.BT.nil) (@BT.node (q_292 P) PySem.W.BT.nil PySem.W.BT.nil))))) (@BT.node (q_257 P) (@BT.node (q_56 P) (@BT.node (q_72 P) (@BT.node o23 (@BT.node o132 (@BT.node o23 PySem.W.BT.nil PySem.W.BT.nil) PySem.W.BT.nil) (@BT.node o23 PySem.W.BT.nil PySem.W.BT.nil)) (@BT.node o22 (@BT.node o164 PySem.W.BT.nil PySem.W.BT.nil) (@BT.node o228 PySem.W.BT.nil PySem.W.BT.nil))) (@BT.node (q_88 P) (@BT.node o84 (@BT.node (q_186 P) PySem.W.BT.nil PySem.W.BT.nil) (@BT.node (q_254 P) PySem.W.BT.nil PySem.W.BT.nil)) (@BT.node o23 (@BT.node (q_220 P) PySem.W.BT.nil PySem.W.BT.nil) (@BT.node (o244 P) PySem.W.BT.nil PySem.W.BT.nil)))) (@BT.node o28 (@BT.node o23 (@BT.node (q_114 P) (@BT.node o23 PySem.W.BT.nil PySem.W.BT.nil) (@BT.node (q_246 P) PySem.W.BT.nil PySem.W.BT.nil)) (@BT.node o22 (@BT.node o23 PySem.W.BT.nil PySem.W.BT.nil) (@BT.node o23 PySem.W.BT.nil PySem.W.BT.nil))) (@BT.node o60 (@BT.node o92 (@BT.node o156 PySem.W.BT.nil PySem.W.BT.nil) (@BT.node (q_264 P) PySem.W.BT.nil PySem.W.BT.nil)) (@BT.node (q_162 P) (@BT.node o188 PySem.W.BT.nil PySem.W.BT.nil) (@BT.node o252 PySem.W.BT.nil PySem.W.BT.nil)))))) (@BT.node (@boot_o_6 P) (@BT.node (@boot_o_10 P) (@BT.node o23 (@BT.node o34 (@BT.node (q_102 P) (@BT.node o23 (@BT.node (q_302 P) PySem.W.BT.nil PySem.W.BT.nil) PySem.W.BT.nil) (@BT.node (q_236 P) PySem.W.BT.nil PySem.W.BT.nil)) (@BT.node o98 (@BT.node (q_200 P) PySem.W.BT.nil PySem.W.BT.nil) (@BT.node o226 PySem.W.BT.nil PySem.W.BT.nil))) (@BT.node o50 (@BT.node o23 (@BT.node o146 PySem.W.BT.nil PySem.W.BT.nil) (@BT.node o210 PySem.W.BT.nil PySem.W.BT.nil)) (@BT.node o114 (@BT.node (q_218 P) PySem.W.BT.nil PySem.W.BT.nil) (@BT.node o242 PySem.W.BT.nil PySem.W.BT.nil)))) (@BT.node o23 (@BT.node o42 (@BT.node o74 (@BT.node (q_176 P) PySem.W.BT.nil PySem.W.BT.nil) (@BT.node o202 PySem.W.BT.nil PySem.W.BT.nil)) (@BT.node o106 (@BT.node o170 PySem.W.BT.nil PySem.W.BT.nil) (@BT.node o234 PySem.W.BT.nil PySem.W.BT.nil))) (@BT.node o23 (@BT.node (q_128 P) (@BT.node o23 PySem.W.BT.nil PySem.W.BT.nil) (@BT.node (q_262 P) PySem.W.BT.nil PySem.W.BT.nil)) (@BT.node o122 (@BT.node o186 PySem.W.BT.nil PySem.W.BT.nil) (@BT.node o23 PySem.W.BT.nil PySem.W.BT.nil))))) (@BT.node (q_46 P) (@BT.node o22 (@BT.node (q_74 P) (@BT.node o70 (@BT.node (q_172 P) (@BT.node o262 PySem.W.BT.nil PySem.W.BT.nil) PySem.W.BT.nil) (@BT.node (q_240 P) PySem.W.BT.nil PySem.W.BT.nil)) (@BT.node (q_140 P) (@BT.node (q_206 P) PySem.W.BT.nil PySem.W.BT.nil) (@BT.node (q_274 P) PySem.W.BT.nil PySem.W.BT.nil))) (@BT.node o23 (@BT.node o23 (@BT.node o150 PySem.W.BT.nil PySem.W.BT.nil) (@BT.node o23 PySem.W.BT.nil PySem.W.BT.nil)) (@BT.node o118 (@BT.node o23 PySem.W.BT.nil PySem.W.BT.nil) (@BT.node o246 PySem.W.BT.nil PySem.W.BT.nil)))) (@BT.node o30 (@BT.node o46 (@BT.node o78 (@BT.node o142 PySem.W.BT.nil PySem.W.BT.nil) (@BT.node o206 PySem.W.BT.nil PySem.W.BT.nil)) (@BT.node (q_148 P) (@BT.node (q_214 P) PySem.W.BT.nil PySem.W.BT.nil) (@BT.node o238 PySem.W.BT.nil PySem.W.BT.nil))) (@BT.node (q_98 P) (@BT.node (q_132 P) (@BT.node o23 PySem.W.BT.nil PySem.W.BT.nil) (@BT.node (q_266 P) PySem.W.BT.nil PySem.W.BT.nil)) (@BT.node o23 (@BT.node o190 PySem.W.BT.nil PySem.W.BT.nil) (@BT.node (q_298 P) PySem.W.BT.nil PySem.W.BT.nil))))))))
noncomputable def tree_316 : Params → BT := fun P => (@BT.node (@boot_o_0 P) (@BT.node (@boot_o_1 P) (@BT.node (o3 P) (@BT.node (@boot_o_7 P) (@BT.node o23 (@BT.node (o31 P) (@BT.node o63 (@BT.node (q_165 P) (@BT.node o255 PySem.W.BT.nil PySem.W.BT.nil) PySem.W.BT.nil) (@BT.node (q_231 P) PySem.W.BT.nil PySem.W.BT.nil)) (@BT.node o95 (@BT.node (q_197 P) PySem.W.BT.nil PySem.W.BT.nil) (@BT.node o223 PySem.W.BT.nil PySem.W.BT.nil))) (@BT.node o23 (@BT.node o23 (@BT.node o143 PySem.W.BT.nil PySem.W.BT.nil) (@BT.node o207 PySem.W.BT.nil PySem.W.BT.nil)) (@BT.node o111 (@BT.node o23 PySem.W.BT.nil PySem.W.BT.nil) (@BT.node o23 PySem.W.BT.nil PySem.W.BT.nil)))) (@BT.node o23 (@BT.node o39 (@BT.node o71 (@BT.node o135 (@BT.node o263 PySem.W.BT.nil PySem.W.BT.nil) PySem.W.BT.nil) (@BT.node (q_241 P) PySem.W.BT.nil PySem.W.BT.nil)) (@BT.node o103 (@BT.node o167 PySem.W.BT.nil PySem.W.BT.nil) (@BT.node o231 PySem.W.BT.nil PySem.W.BT.nil))) (@BT.node (q_91 P) (@BT.node (q_125 P) (@BT.node o23 PySem.W.BT.nil PySem.W.BT.nil) (@BT.node (q_259 P) PySem.W.BT.nil PySem.W.BT.nil)) (@BT.node o23 (@BT.node (q_223 P) PySem.W.BT.nil PySem.W.BT.nil) (@BT.node o247 PySem.W.BT.nil PySem.W.BT.nil))))) (@BT.node o23 (@BT.node (q_55 P) (@BT.node (q_71 P) (@BT.node o67 (@BT.node (q_169 P) (@BT.node o259 PySem.W.BT.nil PySem.W.BT.nil) PySem.W.BT.nil) (@BT.node (q_237 P) PySem.W.BT.nil PySem.W.BT.nil)) (@BT.node o99 (@BT.node o163 PySem.W.BT.nil PySem.W.BT.nil) (@BT.node o227 PySem.W.BT.nil PySem.W.BT.nil))) (@BT.node o23 (@BT.node (q_121 P) (@BT.node o23 PySem.W.BT.nil PySem.W.BT.nil) (@BT.node o211 PySem.W.BT.nil PySem.W.BT.nil)) (@BT.node o115 (@BT.node o23 PySem.W.BT.nil PySem.W.BT.nil) (@BT.node o243 PySem.W.BT.nil PySem.W.BT.nil)))) (@BT.node (q_63 P) (@BT.node o43 (@BT.node o23 (@BT.node o139 (@BT.node o23 PySem.W.BT.nil PySem.W.BT.nil) PySem.W.BT.nil) (@BT.node o23 PySem.W.BT.nil PySem.W.BT.nil)) (@BT.node o107 (@BT.node o171 PySem.W.BT.nil PySem.W.BT.nil) (@BT.node o235 PySem.W.BT.nil PySem.W.BT.nil))) (@BT.node (q_95 P) (@BT.node o91 (@BT.node (q_193 P) PySem.W.BT.nil PySem.W.BT.nil) (@BT.node (q_263 P) PySem.W.BT.nil PySem.W.BT.nil)) (@BT.node o23 (@BT.node (o187 P) PySem.W.BT.nil PySem.W.BT.nil) (@BT.node (q_295 P) PySem.W.BT.nil PySem.W.BT.nil)))))) (@BT.node (@boot_o_5 P) (@BT.node (@boot_o_9 P) (@BT.node (q_53 P) (@BT.node o33 (@BT.node o23 (@BT.node o129 (@BT.node o23 PySem.W.BT.nil PySem.W.BT.nil) PySem.W.BT.nil) (@BT.node o23 PySem.W.BT.nil PySem.W.BT.nil)) (@BT.node (q_135 P) (@BT.node o23 PySem.W.BT.nil PySem.W.BT.nil) (@BT.node (q_269 P) PySem.W.BT.nil PySem.W.BT.nil))) (@BT.node o49 (@BT.node o81 (@BT.node (q_183 P) PySem.W.BT.nil PySem.W.BT.nil) (@BT.node o209 PySem.W.BT.nil PySem.W.BT.nil)) (@BT.node (q_151 P) (@BT.node (q_217 P) PySem.W.BT.nil PySem.W.BT.nil) (@BT.node o241 PySem.W.BT.nil PySem.W.BT.nil)))) (@BT.node o25 (@BT.node (q_77 P) (@BT.node (q_111 P) (@BT.node o23 (@BT.node (q_311 P) PySem.W.BT.nil PySem.W.BT.nil) PySem.W.BT.nil) (@BT.node (q_243 P) PySem.W.BT.nil PySem.W.BT.nil)) (@BT.node (q_143 P) (@BT.node (q_209 P) PySem.W.BT.nil PySem.W.BT.nil) (@BT.node (q_277 P) PySem.W.BT.nil PySem.W.BT.nil))) (@BT.node o57 (@BT.node o23 (@BT.node o153 PySem.W.BT.nil PySem.W.BT.nil) (@BT.node o23 PySem.W.BT.nil PySem.W.BT.nil)) (@BT.node o121 (@BT.node o185 PySem.W.BT.nil PySem.W.BT.nil) (@BT.node (q_293 P) PySem.W.BT.nil PySem.W.BT.nil))))) (@BT.node (q_45 P) (@BT.node (q_57 P) (@BT.node o23 (@BT.node (q_105 P) (@BT.node o23 (@BT.node (q_305 P) PySem.W.BT.nil PySem.W.BT.nil) PySem.W.BT.nil) (@BT.node (q_239 P) PySem.W.BT.nil PySem.W.BT.nil)) (@BT.node o23 (@BT.node o23 PySem.W.BT.nil PySem.W.BT.nil) (@BT.node o23 PySem.W.BT.nil PySem.W.BT.nil))) (@BT.node o53 (@BT.node o85 (@BT.node o149 PySem.W.BT.nil PySem.W.BT.nil) (@BT.node (q_255 P) PySem.W.BT.nil PySem.W.BT.nil)) (@BT.node (q_155 P) (@BT.node o181 PySem.W.BT.nil PySem.W.BT.nil) (@BT.node o245 PySem.W.BT.nil PySem.W.BT.nil)))) (@BT.node o29 (@BT.node (q_81 P) (@BT.node o77 (@BT.node (q_179 P) (@BT.node o269 PySem.W.BT.nil PySem.W.BT.nil) PySem.W.BT.nil) (@BT.node o205 PySem.W.BT.nil PySem.W.BT.nil)) (@BT.node o23 (@BT.node (q_213 P) PySem.W.BT.nil PySem.W.BT.nil) (@BT.node (q_281 P) PySem.W.BT.nil PySem.W.BT.nil))) (@BT.node o23 (@BT.node o23 (@BT.node o157 PySem.W.BT.nil PySem.W.BT.nil) (@BT.node o23 PySem.W.BT.nil PySem.W.BT.nil)) (@BT.node o125 (@BT.node o189 PySem.W.BT.nil PySem.W.BT.nil) (@BT.node o23 PySem.W.BT.nil PySem.W.BT.nil))))))) (@BT.node (@boot_o_2 P) (@BT.node (@boot_o_4 P) (@BT.node (@boot_o_8 P) (@BT.node (q_52 P) (@BT.node o32 (@BT.node o64 (@BT.node o128 (@BT.node o256 PySem.W.BT.nil PySem.W.BT.nil) PySem.W.BT.nil) (@BT.node (q_232 P) PySem.W.BT.nil PySem.W.BT.nil)) (@BT.node o23 (@BT.node o160 PySem.W.BT.nil PySem.W.BT.nil) (@BT.node o23 PySem.W.BT.nil PySem.W.BT.nil))) (@BT.node (q_84 P) (@BT.node (q_118 P) (@BT.node o23 PySem.W.BT.nil PySem.W.BT.nil) (@BT.node (o208 P) PySem.W.BT.nil PySem.W.BT.nil)) (@BT.node o23 (@BT.node (q_216 P) PySem.W.BT.nil PySem.W.BT.nil) (@BT.node (q_284 P) PySem.W.BT.nil PySem.W.BT.nil)))) (@BT.node (q_60 P) (@BT.node o23 (@BT.node o23 (@BT.node o136 (@BT.node o23 PySem.W.BT.nil PySem.W.BT.nil) PySem.W.BT.nil) (@BT.node o23 PySem.W.BT.nil PySem.W.BT.nil)) (@BT.node o23 (@BT.node o23 PySem.W.BT.nil PySem.W.BT.nil) (@BT.node o23 PySem.W.BT.nil PySem.W.BT.nil))) (@BT.node o56 (@BT.node o88 (@BT.node (q_190 P) PySem.W.BT.nil PySem.W.BT.nil) (@BT.node (q_260 P) PySem.W.BT.nil PySem.W.BT.nil)) (@BT.node (q_158 P) (@BT.node o184 PySem.W.BT.nil PySem.W.BT.nil) (@BT.node (q_292 P) PySem.W.BT.nil PySem.W.BT.nil))))) (@BT.node (q_309 P) (@BT.node (q_56 P) (@BT.node (q_72 P) (@BT.node o23 (@BT.node o132 (@BT.node o23 PySem.W.BT.nil PySem.W.BT.nil) PySem.W.BT.nil) (@BT.node o23 PySem.W.BT.nil PySem.W.BT.nil)) (@BT.node o22 (@BT.node o164 PySem.W.BT.nil PySem.W.BT.nil) (@BT.node o228 PySem.W.BT.nil PySem.W.BT.nil))) (@BT.node (q_88 P) (@BT.node o84 (@BT.node (q_186 P) PySem.W.BT.nil PySem.W.BT.nil) (@BT.node (q_254 P) PySem.W.BT.nil PySem.W.BT.nil)) (@BT.node o23 (@BT.node (q_220 P) PySem.W.BT.nil PySem.W.BT.nil) (@BT.node (o244 P) PySem.W.BT.nil PySem.W.BT.nil)))) (@BT.node o28 (@BT.node o23 (@BT.node (q_114 P) (@BT.node o23 (@BT.node (q_314 P) PySem.W.BT.nil PySem.W.BT.nil) PySem.W.BT.nil) (@BT.node (q_246 P) PySem.W.BT.nil PySem.W.BT.nil)) (@BT.node o22 (@BT.node o23 PySem.W.BT.nil PySem.W.BT.nil) (@BT.node o23 PySem.W.BT.nil PySem.W.BT.nil))) (@BT.node o60 (@BT.node o92 (@BT.node o156 PySem.W.BT.nil PySem.W.BT.nil) (@BT.node (q_264 P) PySem.W.BT.nil PySem.W.BT.nil)) (@BT.node (q_162 P) (@BT.node o188 PySem.W.BT.nil PySem.W.BT.nil) (@BT.node o252 PySem.W.BT.nil PySem.W.BT.nil)))))) (@BT.node (@boot_o_6 P) (@BT.node (@boot_o_10 P) (@BT.node o23 (@BT.node o34 (@BT.node (q_102 P) (@BT.node o23 (@BT.node (q_302 P) PySem.W.BT.nil PySem.W.BT.nil) PySem.W.BT.nil) (@BT.node (q_236 P) PySem.W.BT.nil PySem.W.BT.nil)) (@BT.node o98 (@BT.node (q_200 P) PySem.W.BT.nil PySem.W.BT.nil) (@BT.node o226 PySem.W.BT.nil PySem.W.BT.nil))) (@BT.node o50 (@BT.node o23 (@BT.node o146 PySem.W.BT.nil PySem.W.BT.nil) (@BT.node o210 PySem.W.BT.nil PySem.W.BT.nil)) (@BT.node o114 (@BT.node (q_218 P) PySem.W.BT.nil PySem.W.BT.nil) (@BT.node o242 PySem.W.BT.nil PySem.W.BT.nil)))) (@BT.node o23 (@BT.node o42 (@BT.node o74 (@BT.node (q_176 P) (@BT.node o266 PySem.W.BT.nil PySem.W.BT.nil) PySem.W.BT.nil) (@BT.node o202 PySem.W.BT.nil PySem.W.BT.nil)) (@BT.node o106 (@BT.node o170 PySem.W.BT.nil PySem.W.BT.nil) (@BT.node o234 PySem.W.BT.nil PySem.W.BT.nil))) (@BT.node o23 (@BT.node (q_128 P) (@BT.node o23 PySem.W.BT.nil PySem.W.BT.nil) (@BT.node (q_262 P) PySem.W.BT.nil PySem.W.BT.nil)) (@BT.node o122 (@BT.node o186 PySem.W.BT.nil PySem.W.BT.nil) (@BT.node o23 PySem.W.BT.nil PySem.W.BT.nil))))) (@BT.node (q_46 P) (@BT.node o22 (@BT.node (q_74 P) (@BT.node o70 (@BT.node (q_172 P) (@BT.node o262 PySem.W.BT.nil PySem.W.BT.nil) PySem.W.BT.nil) (@BT.node (q_240 P) PySem.W.BT.nil PySem.W.BT.nil)) (@BT.node (q_140 P) (@BT.node (q_206 P) PySem.W.BT.nil PySem.W.BT.nil) (@BT.node (q_274 P) PySem.W.BT.nil PySem.W.BT.nil))) (@BT.node o23 (@BT.node o23 (@BT.node o150 PySem.W.BT.nil PySem.W.BT.nil) (@BT.node o23 PySem.W.BT.nil PySem.W.BT.nil)) (@BT.node o118 (@BT.node o23 PySem.W.BT.nil PySem.W.BT.nil) (@BT.node o246 PySem.W.BT.nil PySem.W.BT.nil)))) (@BT.node o30 (@BT.node o46 (@BT.node o78 (@BT.node o142 (@BT.node o270 PySem.W.BT.nil PySem.W.BT.nil) PySem.W.BT.nil) (@BT.node o206 PySem.W.BT.nil PySem.W.BT.nil)) (@BT.node (q_148 P) (@BT.node (q_214 P) PySem.W.BT.nil PySem.W.BT.nil) (@BT.node o238 PySem.W.BT.nil PySem.W.BT.nil))) (@BT.node (q_98 P) (@BT.node (q_132 P) (@BT.node o23 PySem.W.BT.nil PySem.W.BT.nil) (@BT.node (q_266 P) PySem.W.BT.nil PySem.W.BT.nil)) (@BT.node o23 (@BT.node o190 PySem.W.BT.nil PySem.W.BT.nil) (@BT.node (q_298 P) PySem.W.BT.nil PySem.W.BT.nil))))))))
noncomputable def st1 : List Stmt := [nth topBody 0, nth topBody 1, nth topBody 2, nth topBody 3, nth topBody 4, nth topBody 5, nth topBody 6, nth topBody 7]
noncomputable def st2 : List Stmt := [nth topBody 8, nth topBody 9, nth topBody 10, nth topBody 11, nth topBody 12, nth topBody 13, nth topBody 14, nth topBody 15, nth topBody 16, nth topBody 17, nth topBody 18, nth topBody 19, nth topBody 20]
noncomputable def st3 : List Stmt := [nth topBody 21, nth topBody 22, nth topBody 23]
noncomputable def st4 : List Stmt := [nth topBody 24]
noncomputable def st5 : List Stmt := [nth topBody 25, nth topBody 26, nth topBody 27, nth topBody 28]
noncomputable def st6 : List Stmt := [nth topBody 29]
noncomputable def ENV : Env := { scope := PR.main.scope, locals := mainNs, globals := mainNs, cells := [], code := .ref 13, frame := some 14 }
noncomputable abbrev CE : Code := Code.body (behindTheImports PR) ENV
abbrev FR : List Frame := [topFrame ⟨0, 0, 0, 0⟩]
set_option maxHeartbeats 0 in
theorem pre_ok (w : World) (os : OsState) : topGo treeTable PR w 11 (some (.ref 6)) 12 ⟨boot_heap w.params, Array.mk [], boot_drawn, boot_toks, os⟩ (topStub PR) = some (⟨heap_46 w.params, Array.mk [], {}, 187, os⟩, ⟨denote treeTable CE, CE, ⟨0, 0, 0, 0⟩, FR⟩) := by kernel_rfl
set_option maxHeartbeats 0 in
theorem block_ok (w : World) (os : OsState) : segRun treeTable PR w 11 (some (.ref 6)) 1 1 ⟨heap_46 w.params, Array.mk [], {}, 187, os⟩ (blockOf (behindTheImports PR) ENV CE ⟨0, 0, 0, 0⟩ FR) = some (.next, (⟨tree_47 w.params, 15, {}, Array.mk [], {}, 187, os⟩ : SharedT).abs, CE, ⟨0, 0, 0, 0⟩) := by kernel_rfl
set_option maxHeartbeats 0 in
theorem piece1 (w : World) (os : OsState) : segRunT treeTable PR w 11 (some (.ref 6)) 1 398 (⟨tree_47 w.params, 15, {}, Array.mk [], {}, 187, os⟩ : SharedT) (piecesOf st1 ENV CE ⟨0, 0, 0, 0⟩ FR) = some (.next, (⟨tree_107 w.params, 72, {}, Array.mk [], {}, 266, os⟩ : SharedT), CE, ⟨27, 0, 28, 50⟩) := by kernel_rfl
set_option maxHeartbeats 0 in
theorem piece2 (w : World) (os : OsState) : segRunT treeTable PR w 11 (some (.ref 6)) 1 401 (⟨tree_107 w.params, 72, {}, Array.mk [], {}, 266, os⟩ : SharedT) (piecesOf st2 ENV CE ⟨27, 0, 28, 50⟩ FR) = some (.next, (⟨tree_202 w.params, 165, {}, Array.mk [], {}, 378, os⟩ : SharedT), CE, ⟨125, 0, 135, 41⟩) := by kernel_rfl
set_option maxHeartbeats 0 in
theorem piece3 (w : World) (os : OsState) : segRunT treeTable PR w 11 (some (.ref 6)) 1 275 (⟨tree_202 w.params, 165, {}, Array.mk [], {}, 378, os⟩ : SharedT) (piecesOf st3 ENV CE ⟨125, 0, 135, 41⟩ FR) = some (.next, (⟨tree_232 w.params, 193, {}, Array.mk [], {}, 430, os⟩ : SharedT), CE, ⟨143, 0, 157, 21⟩) := by kernel_rfl
set_option maxHeartbeats 0 in
theorem piece4 (w : World) (os : OsState) : segRunT treeTable PR w 11 (some (.ref 6)) 1 239 (⟨tree_232 w.params, 193, {}, Array.mk [], {}, 430, os⟩ : SharedT) (piecesOf st4 ENV CE ⟨143, 0, 157, 21⟩ FR) = some (.next, (⟨tree_255 w.params, 214, {}, Array.mk [], {}, 475, os⟩ : SharedT), CE, ⟨158, 0, 174, 28⟩) := by kernel_rfl
set_option maxHeartbeats 0 in
theorem piece5 (w : World) (os : OsState) : segRunT treeTable PR w 11 (some (.ref 6)) 1 379 (⟨tree_255 w.params, 214, {}, Array.mk [], {}, 475, os⟩ : SharedT) (piecesOf st5 ENV CE ⟨158, 0, 174, 28⟩ FR) = some (.next, (⟨tree_307 w.params, 264, {}, Array.mk [], {}, 560, os⟩ : SharedT), CE, ⟨209, 0, 220, 52⟩) := by kernel_rfl
set_option maxHeartbeats 0 in
theorem piece6 (w : World) (os : OsState) : segRunT treeTable PR w 11 (some (.ref 6)) 1 50 (⟨tree_307 w.params, 264, {}, Array.mk [], {}, 560, os⟩ : SharedT) (piecesOf st6 ENV CE ⟨209, 0, 220, 52⟩ FR) = some (.next, (⟨tree_316 w.params, 271, {}, Array.mk [], {}, 587, os⟩ : SharedT), CE, ⟨221, 0, 264, 37⟩) := by kernel_rfl
set_option maxHeartbeats 0 in
theorem fin_ok (w : World) (os : OsState) : topRun treeTable PR w 11 (some (.ref 6)) 2 (⟨tree_316 w.params, 271, {}, Array.mk [], {}, 587, os⟩ : SharedT).abs ⟨doneF .next, CE, ⟨221, 0, 264, 37⟩, FR⟩ = some ⟨heap_317 w.params, Array.mk [], {}, 587, os⟩ := by kernel_rfl
theorem body_ok : behindTheImports PR = st1 ++ (st2 ++ (st3 ++ (st4 ++ (st5 ++ (st6 ++ []))))) := by kernel_rfl
theorem run_ok (w : World) (os : OsState) : topRun treeTable PR w 11 (some (.ref 6)) (12 + (1 + (398 + (401 + (275 + (239 + (379 + (50 + 2)))))))) ⟨boot_heap w.params, Array.mk [], boot_drawn, boot_toks, os⟩ (topStub PR) = some ⟨heap_317 w.params, Array.mk [], {}, 587, os⟩ := by
  have key : ∀ l, l = st1 ++ (st2 ++ (st3 ++ (st4 ++ (st5 ++ (st6 ++ []))))) → topRun treeTable PR w 11 (some (.ref 6)) (398 + (401 + (275 + (239 + (379 + (50 + 2)))))) (⟨tree_47 w.params, 15, {}, Array.mk [], {}, 187, os⟩ : SharedT).abs (restOf l ENV CE ⟨0, 0, 0, 0⟩ FR) = some ⟨heap_317 w.params, Array.mk [], {}, 587, os⟩ := by
    rintro l rfl
    exact piece_app (segRun_of (piece1 w os)) (piece_app (segRun_of (piece2 w os)) (piece_app (segRun_of (piece3 w os)) (piece_app (segRun_of (piece4 w os)) (piece_app (segRun_of (piece5 w os)) (piece_app (segRun_of (piece6 w os)) (piece_nil (fin_ok w os)))))))
  exact go_top (pre_ok w os) (piece_block (block_ok w os) (key _ body_ok))
theorem size_ok : ∀ w : World, ((boot_heap w.params).isNs mainGlobals && (Array.mk [] : Array GenState).size == 0, (boot_heap w.params).objs.size, (boot_heap w.params).nsMap mainGlobals "__annotations__") = (true, 11, some (.ref 6)) := fun w => by kernel_rfl
abbrev LS : List Str := [Str.ofString "equal_types", Str.ofString "equal_procs"]
noncomputable abbrev XT : Shared → Bool := fun s => xlAt VW [] s && recOk (RowW.records PySem.Challenge.rw_pq0750_01.row.toRowW) s
@[reducible] noncomputable def SF (w : World) (os : OsState) : Shared := ⟨heap_317 w.params, Array.mk [], {}, 587, os⟩
set_option maxHeartbeats 0 in
theorem look1 (w : World) (os : OsState) : (staticsOk (importedModules PR.main.body) (boot_heap w.params) (heap_317 w.params) && namesBound PR (heap_317 w.params) && gensDone (SF w os) && laidKept (boot_heap w.params) (heap_317 w.params)) = true := by kernel_rfl
set_option maxHeartbeats 0 in
theorem look2 (w : World) (os : OsState) : openSeen VW LS (importedModules PR.main.body) XT true (SF w os) = openGood VW LS := by kernel_rfl
set_option maxHeartbeats 0 in
theorem look3 (w : World) (os : OsState) : Hook.obs HK (SF w os) = Hook.val HK w := by kernel_rfl
theorem hl0 : LeftO PR VW LS XT (Hook.obs HK) (Hook.val HK) 3598 :=
  LeftO.of_pieces (H₀ := boot_heap) (H₁ := heap_317) (gs₀ := Array.mk []) (gs₁ := Array.mk []) (d₀ := boot_drawn) (d₁ := {}) (k₀ := boot_toks) (k₁ := 587) (m₀ := 11) (ann := some (.ref 6)) (M := 12 + (1 + (398 + (401 + (275 + (239 + (379 + (50 + 2))))))))
    (boot_open (by kernel_rfl) (by rfl) fun _ => rfl) size_ok run_ok (by rfl) fun w => funext fun os => looks_pair (look1 w os) (looks_pair (look2 w os) (look3 w os))


noncomputable abbrev PG : Program := PySem.Challenge.rw_pq0750_01.row.prog
noncomputable abbrev LO : List Str := looseW VW [Str.ofString "equal_types", Str.ofString "equal_procs"]

/-- a type's object, as the ledger bears it -/
def TyAt (news : List (Addr × Obj)) (a : Addr) (num : Int) (form : Str) (base : Value) : Prop :=
  ∃ d es n, (a, instObj 188 d) ∈ news ∧ (d, dictOf es n) ∈ news ∧ (∃ t, getL (Str.ofString "number") es = some (some (.int num t)))
    ∧ (∃ t, getL (Str.ofString "form") es = some (some (.str form t))) ∧ getL (Str.ofString "base") es = some (some base) ∧ (∃ t, getL (Str.ofString "length") es = some (some (.int 0 t)))
theorem TyAt.mono {news news' : List (Addr × Obj)} {a : Addr} {num : Int} {form : Str} {base : Value} (h : TyAt news a num form base) (hs : ∀ p ∈ news, p ∈ news') : TyAt news' a num form base := by
  obtain ⟨d, es, n, h1, h2, h3⟩ := h
  exact ⟨d, es, n, hs _ h1, hs _ h2, h3⟩

section
variable {w : World} {A : Around} {h₀ : Heap} {L : Addr} {m : Str → Option Value} {news big : List (Addr × Obj)} {s : Shared} {Q : Value → Shared → Prop} {E : Value → Shared → Prop}
  {x : Addr} {num : Int} {form : Str} {base : Value} {expr : Bool}

theorem getT_number (F : Fr h₀ L s.heap m) (X₀ : (KK w.params).In h₀) (N : News h₀ L s.heap big) (T : TyAt news x num form base) (hs : ∀ p ∈ news, p ∈ big)
    (hg : plainGet (KK w.params) 188 (Str.ofString "number") = true) (hh : hasDictIn (KK w.params) 188 = true)
    (ha : findIn (KK w.params) (.ref 188) (Str.ofString "number") = some none)
    (h : ∀ t, Q (.int num t) { s with toks := s.toks + 1 }) : wpAny (model PG w) A (getAttr (.ref x) (Str.ofString "number") expr) Q E s := by
  obtain ⟨d, es, n, h1, h2, ⟨t, h3⟩, -⟩ := T
  exact get_own F X₀ (InstAt.of_news N (hs _ h1) (hs _ h2)) hg hh ha rfl h3 rfl (h t)
theorem getT_form (F : Fr h₀ L s.heap m) (X₀ : (KK w.params).In h₀) (N : News h₀ L s.heap big) (T : TyAt news x num form base) (hs : ∀ p ∈ news, p ∈ big)
    (hg : plainGet (KK w.params) 188 (Str.ofString "form") = true) (hh : hasDictIn (KK w.params) 188 = true)
    (ha : findIn (KK w.params) (.ref 188) (Str.ofString "form") = some none)
    (h : ∀ t, Q (.str form t) { s with toks := s.toks + 1 }) : wpAny (model PG w) A (getAttr (.ref x) (Str.ofString "form") expr) Q E s := by
  obtain ⟨d, es, n, h1, h2, -, ⟨t, h3⟩, -⟩ := T
  exact get_own F X₀ (InstAt.of_news N (hs _ h1) (hs _ h2)) hg hh ha rfl h3 rfl (h t)
theorem getT_base (F : Fr h₀ L s.heap m) (X₀ : (KK w.params).In h₀) (N : News h₀ L s.heap big) (T : TyAt news x num form base) (hs : ∀ p ∈ news, p ∈ big)
    (hg : plainGet (KK w.params) 188 (Str.ofString "base") = true) (hh : hasDictIn (KK w.params) 188 = true)
    (ha : findIn (KK w.params) (.ref 188) (Str.ofString "base") = some none) (hv : handedIn base = true)
    (h : Q base { s with toks := s.toks + 1 }) : wpAny (model PG w) A (getAttr (.ref x) (Str.ofString "base") expr) Q E s := by
  obtain ⟨d, es, n, h1, h2, -, -, h3, -⟩ := T
  exact get_own F X₀ (InstAt.of_news N (hs _ h1) (hs _ h2)) hg hh ha rfl h3 hv h
theorem getT_length (F : Fr h₀ L s.heap m) (X₀ : (KK w.params).In h₀) (N : News h₀ L s.heap big) (T : TyAt news x num form base) (hs : ∀ p ∈ news, p ∈ big)
    (hg : plainGet (KK w.params) 188 (Str.ofString "length") = true) (hh : hasDictIn (KK w.params) 188 = true)
    (ha : findIn (KK w.params) (.ref 188) (Str.ofString "length") = some none)
    (h : ∀ t, Q (.int 0 t) { s with toks := s.toks + 1 }) : wpAny (model PG w) A (getAttr (.ref x) (Str.ofString "length") expr) Q E s := by
  obtain ⟨d, es, n, h1, h2, -, -, -, ⟨t, h3⟩⟩ := T
  exact get_own F X₀ (InstAt.of_news N (hs _ h1) (hs _ h2)) hg hh ha rfl h3 rfl (h t)
end

/-- the law's types: records R 0, R 1, R 2, each an extension of the one before, and pointers P 0, P 1, P 2 to them -/
structure Tys (news : List (Addr × Obj)) (R P : Nat → Addr) : Prop where
  r0 : TyAt news (R 0) 8 (Str.ofString "record") .none
  p0 : TyAt news (P 0) 9 (Str.ofString "pointer") (.ref (R 0))
  r1 : TyAt news (R 1) 10 (Str.ofString "record") (.ref (R 0))
  p1 : TyAt news (P 1) 11 (Str.ofString "pointer") (.ref (R 1))
  r2 : TyAt news (R 2) 12 (Str.ofString "record") (.ref (R 1))
  p2 : TyAt news (P 2) 13 (Str.ofString "pointer") (.ref (R 2))
theorem Tys.mono {news news' : List (Addr × Obj)} {R P : Nat → Addr} (h : Tys news R P) (hs : ∀ p ∈ news, p ∈ news') : Tys news' R P :=
  ⟨h.r0.mono hs, h.p0.mono hs, h.r1.mono hs, h.p1.mono hs, h.r2.mono hs, h.p2.mono hs⟩
/-- the address of the type: a record or a pointer, its level -/
@[irreducible] def tyA (R P : Nat → Addr) (rec : Bool) (i : Nat) : Addr := if rec then R i else P i
@[irreducible] def tyN (rec : Bool) (i : Nat) : Int := if rec then 8 + 2 * (i : Int) else 9 + 2 * (i : Int)
def tyF (rec : Bool) : Str := if rec then Str.ofString "record" else Str.ofString "pointer"
theorem tyA_r {R P : Nat → Addr} {i : Nat} : tyA R P true i = R i := by unfold tyA; rfl
theorem tyA_p {R P : Nat → Addr} {i : Nat} : tyA R P false i = P i := by unfold tyA; rfl
theorem tyN_r {i : Nat} : tyN true i = 8 + 2 * (i : Int) := by unfold tyN; rfl
theorem tyN_p {i : Nat} : tyN false i = 9 + 2 * (i : Int) := by unfold tyN; rfl
theorem Tys.at {news : List (Addr × Obj)} {R P : Nat → Addr} (h : Tys news R P) (rec : Bool) {i : Nat} (hi : i < 3) : ∃ b, handedIn b = true ∧ TyAt news (tyA R P rec i) (tyN rec i) (tyF rec) b := by
  have h3 : i = 0 ∨ i = 1 ∨ i = 2 := by omega
  cases rec
  · rw [tyA_p, tyN_p]
    rcases h3 with rfl | rfl | rfl <;> first | exact ⟨_, rfl, h.p0⟩ | exact ⟨_, rfl, h.p1⟩ | exact ⟨_, rfl, h.p2⟩
  · rw [tyA_r, tyN_r]
    rcases h3 with rfl | rfl | rfl <;> first | exact ⟨_, rfl, h.r0⟩ | exact ⟨_, rfl, h.r1⟩ | exact ⟨_, rfl, h.r2⟩
theorem newsSub {h₀ h : Heap} {L : Addr} {news news' : List (Addr × Obj)} (N : News h₀ L h news') (hs : ∀ p ∈ news, p ∈ news') : News h₀ L h news := fun p hp => N p (hs p hp)
theorem units_call (A : Around) (args : Args) : (A.under (.builtin "type.__call__" args)).units = A.units + 1 := by
  first | rfl | simp [Around.under, Code.cUnits, Code.frames, Code.isFrame]


local macro_rules | `(tactic| ktr_units) => `(tactic| (have hcL9 := cLine_is; (try simp only [units_call, units_in1, units_deeper, Around.mark_units, units_caller] at *); (try dsimp only [ktrTop] at *); omega))

local macro_rules | `(tactic| k_mem) => `(tactic| first | exact List.Mem.head _ | (refine' List.Mem.tail _ ?_; k_mem) | assumption)

local macro_rules | `(tactic| k_all) => `(tactic| assumption)

local macro_rules | `(tactic| k_room) => `(tactic| ktr_room)

theorem ln_p20_lines_0 : True := by
  k_with "call ref" => (k_here; k_dflt (refine wpAny_call ?_; k_enter))
  k_with "getAttr ref" => (k_here; (with_reducible show wpAny _ _ (getAttr (Value.ref _) (PySem.Str.ofString "number") _) _ _ _); k_dflt (refine' getT_number ?zzF ?zzX ?zzN ?zzT ?zzs ?zzg ?zzd ?zza ?_; (case zzT => assumption); (case zzF => k_asm); (case zzX => k_asm); (case zzN => k_asm); (case zzs => k_sub); (case zzg => k_is); (case zzd => k_is); (case zza => k_is); k_whole; intro t'; (try dsimp only)))
  k_with "getAttr ref" => (k_here; (with_reducible show wpAny _ _ (getAttr (Value.ref _) (PySem.Str.ofString "form") _) _ _ _); k_dflt (refine' getT_form ?zzF ?zzX ?zzN ?zzT ?zzs ?zzg ?zzd ?zza ?_; (case zzT => assumption); (case zzF => k_asm); (case zzX => k_asm); (case zzN => k_asm); (case zzs => k_sub); (case zzg => k_is); (case zzd => k_is); (case zza => k_is); k_whole; intro t'; (try dsimp only)))
  k_with "getAttr ref" => (k_here; (with_reducible show wpAny _ _ (getAttr (Value.ref _) (PySem.Str.ofString "base") _) _ _ _); k_dflt (refine' getT_base ?zzF ?zzX ?zzN ?zzT ?zzs ?zzg ?zzd ?zza ?zzv ?_; (case zzT => assumption); (case zzF => k_asm); (case zzX => k_asm); (case zzN => k_asm); (case zzs => k_sub); (case zzg => k_is); (case zzd => k_is); (case zza => k_is); (case zzv => first | assumption | k_handed); k_whole; (try dsimp only)))
  k_with "getAttr ref" => (k_here; (with_reducible show wpAny _ _ (getAttr (Value.ref _) (PySem.Str.ofString "length") _) _ _ _); k_dflt (refine' getT_length ?zzF ?zzX ?zzN ?zzT ?zzs ?zzg ?zzd ?zza ?_; (case zzT => assumption); (case zzF => k_asm); (case zzX => k_asm); (case zzN => k_asm); (case zzs => k_sub); (case zzg => k_is); (case zzd => k_is); (case zza => k_is); k_whole; intro t'; (try dsimp only)))
  trivial

set_option maxRecDepth 100000 in
set_option maxHeartbeats 8000000 in
theorem same_ok {w : World} {mean : ExcName → Option Value} {mg mb : Str → Option Value} {dp un : Nat} {gd : Option (List Code)} {cn : Str} {cs : Scope} {a : Addr} {ccd : Value} {cl : List (Str × Addr)} {outer : List Env} {A₀ : Around} {base h₀ : Heap} {L : Addr} {m : Str → Option Value} {news : List (Addr × Obj)} {s : Shared} {Q E : Value → Shared → Prop} {x y : Addr} {nx ny : Int} {fx fy : Str} {bx by' : Value}
    (B : Below A₀ base outer h₀) (F : Fr h₀ L s.heap m) (X : (KK w.params).In h₀) (T : Top VW LO mean mg mb h₀) (hk : cs.kind = .function) (N : News h₀ L s.heap news) (hx : TyAt news x nx fx bx) (hy : TyAt news y ny fy by') (hdp : dp + 1 < recursionLimit) (hu : un + 200 < cLine)
    (ret : ∀ h' tk', Fr h₀ L h' m → News h₀ L h' news → Q (.bool (nx == ny)) { s with heap := h', toks := tk' }) :
    wpAny (model PG w) (ktrTop dp un gd cn cs L a ccd cl outer) (call (.ref 64) [.ref x, .ref y]) Q E s := by
  w_on
  refine wpAny_call ?_
  k_dflt ktr_enter
  k_steps
  exact ret _ _ (by k_asm) (by k_asm)

theorem ln_p30_ext_0 : True := by
  k_with "call ref" => (k_here; k_dflt (refine' same_ok ?zzB ?zzF ?zzX ?zzT ?zzK ?zzN ?zzhx ?zzhy ?zzd ?zzu ?_; (case zzB => k_asm); (case zzF => k_asm); (case zzX => k_asm); (case zzT => k_asm); (case zzK => first | exact rfl | assumption); (case zzN => k_asm); (case zzhx => exact TyAt.mono (by assumption) (by k_sub)); (case zzhy => exact TyAt.mono (by assumption) (by k_sub)); (case zzd => ktr_room); (case zzu => ktr_units); k_whole; intro h' tk' F' N'; (try k_sweep); (try dsimp only)))
  trivial

set_option maxRecDepth 100000 in
set_option maxHeartbeats 8000000 in
theorem rec_ok {w : World} {mean : ExcName → Option Value} {mg mb : Str → Option Value} {dp un : Nat} {gd : Option (List Code)} {cn : Str} {cs : Scope} {a : Addr} {ccd : Value} {cl : List (Str × Addr)} {outer : List Env} {A₀ : Around} {base h₀ : Heap} {L : Addr} {m : Str → Option Value} {news : List (Addr × Obj)} {s : Shared} {Q E : Value → Shared → Prop} {R P : Nat → Addr} {i : Nat} {f : Bool}
    (B : Below A₀ base outer h₀) (F : Fr h₀ L s.heap m) (X : (KK w.params).In h₀) (T : Top VW LO mean mg mb h₀) (hk : cs.kind = .function) (N : News h₀ L s.heap news) (hT : Tys news R P) (hi : i < 3) (hdp : dp + 1 < recursionLimit) (hu : un + 200 < cLine)
    (ret : ∀ h' tk', Fr h₀ L h' m → News h₀ L h' news → Q (.ref (R i)) { s with heap := h', toks := tk' }) :
    wpAny (model PG w) (ktrTop dp un gd cn cs L a ccd cl outer) (call (.ref 92) [.ref (tyA R P f i)]) Q E s := by
  w_on
  have h3 : i = 0 ∨ i = 1 ∨ i = 2 := by omega
  obtain ⟨r0, p0, r1, p1, r2, p2⟩ := hT
  cases f
  all_goals rcases h3 with rfl | rfl | rfl
  all_goals simp only [tyA_r, tyA_p]
  all_goals refine wpAny_call ?_
  all_goals k_dflt ktr_enter
  all_goals k_steps
  all_goals exact ret _ _ (by k_asm) (by k_asm)

theorem ln_p30_ext_1 : True := by
  k_with "call ref" => (k_here; k_dflt (refine' rec_ok ?zzB ?zzF ?zzX ?zzT ?zzK ?zzN ?zzhT ?zzhi ?zzd ?zzu ?_; (case zzB => k_asm); (case zzF => k_asm); (case zzX => k_asm); (case zzT => k_asm); (case zzK => first | exact rfl | assumption); (case zzN => k_asm); (case zzhT => exact Tys.mono (by assumption) (by k_sub)); (case zzhi => assumption); (case zzd => ktr_room); (case zzu => ktr_units); k_whole; intro h' tk' F' N'; (try k_sweep); (try dsimp only)))
  trivial

def Lvs (i j : Nat) : Prop := i < 3 ∧ j < 3
theorem Lvs.split {G : Prop} {i j : Nat} (h : Lvs i j) (g : ∀ i' j', i' < 3 → j' < 3 → i = i' → j = j' → G) : G := g i j h.1 h.2 rfl rfl
theorem lt3 {i : Nat} {G : Nat → Prop} (h0 : G 0) (h1 : G 1) (h2 : G 2) (hi : i < 3) : G i := by
  have h3 : i = 0 ∨ i = 1 ∨ i = 2 := by omega
  rcases h3 with rfl | rfl | rfl <;> assumption
theorem lvs9 {G : Prop} {i j : Nat} (h : Lvs i j) (g00 : i = 0 → j = 0 → G) (g01 : i = 0 → j = 1 → G) (g02 : i = 0 → j = 2 → G) (g10 : i = 1 → j = 0 → G) (g11 : i = 1 → j = 1 → G) (g12 : i = 1 → j = 2 → G)
    (g20 : i = 2 → j = 0 → G) (g21 : i = 2 → j = 1 → G) (g22 : i = 2 → j = 2 → G) : G := by
  obtain ⟨hi, hj⟩ := h
  have h3 : i = 0 ∨ i = 1 ∨ i = 2 := by omega
  have j3 : j = 0 ∨ j = 1 ∨ j = 2 := by omega
  rcases h3 with e | e | e <;> rcases j3 with k | k | k
  · exact g00 e k
  · exact g01 e k
  · exact g02 e k
  · exact g10 e k
  · exact g11 e k
  · exact g12 e k
  · exact g20 e k
  · exact g21 e k
  · exact g22 e k

theorem ln_p30_ext_2 : True := by
  k_with "exec While Compare cons nil" => (k_here; (with_reducible show wpAny _ _ (exec (Stmt.While (Expr.Compare (Expr.Name (PySem.Str.ofString "one") _) _ _ _) _ _ _) _) _ _ _); k_dflt (refine lvs9 (by assumption) ?_ ?_ ?_ ?_ ?_ ?_ ?_ ?_ ?_ <;> (intro e1 e2; subst e1; subst e2; refine whl_start 100 ?_)))
  trivial

theorem q_bool {Q : Value → Shared → Prop} {s : Shared} {b c : Bool} (e : b = c) (h : Q (.bool c) s) : Q (.bool b) s := e ▸ h

set_option maxRecDepth 100000 in
set_option maxHeartbeats 8000000 in
theorem ext_ok {w : World} {mean : ExcName → Option Value} {mg mb : Str → Option Value} {dp un : Nat} {gd : Option (List Code)} {cn : Str} {cs : Scope} {a : Addr} {ccd : Value} {cl : List (Str × Addr)} {outer : List Env} {A₀ : Around} {base h₀ : Heap} {L : Addr} {m : Str → Option Value} {news : List (Addr × Obj)} {s : Shared} {Q E : Value → Shared → Prop} {R P : Nat → Addr} {i j : Nat} {fi fj : Bool}
    (B : Below A₀ base outer h₀) (F : Fr h₀ L s.heap m) (X : (KK w.params).In h₀) (T : Top VW LO mean mg mb h₀) (hk : cs.kind = .function) (N : News h₀ L s.heap news) (hT : Tys news R P) (hi : i < 3) (hj : j < 3) (hdp : dp + 2 < recursionLimit) (hu : un + 400 < cLine)
    (ret : ∀ h' tk', Fr h₀ L h' m → News h₀ L h' news → Q (.bool (fi == fj && decide (j ≤ i))) { s with heap := h', toks := tk' }) :
    wpAny (model PG w) (ktrTop dp un gd cn cs L a ccd cl outer) (call (.ref 99) [.ref (tyA R P fi i), .ref (tyA R P fj j)]) Q E s := by
  w_on
  obtain ⟨bi, -, hi'⟩ := hT.at fi hi
  obtain ⟨bj, -, hj'⟩ := hT.at fj hj
  by_cases hf : fi = fj
  · subst hf
    have hl : Lvs i j := ⟨hi, hj⟩
    obtain ⟨r0, -, r1, -, r2, -⟩ := id hT
    cases fi
    all_goals simp only [tyF, Bool.false_eq_true, if_false, if_true] at hi' hj'
    all_goals refine wpAny_call ?_
    all_goals k_dflt ktr_enter
    all_goals k_steps
    all_goals exact q_bool (by decide) (ret _ _ (by k_asm) (by k_asm))
  · have e : (fi == fj) = false := by simp [hf]
    rw [e, Bool.false_and] at ret
    cases fi <;> cases fj <;> first | exact absurd rfl hf | skip
    all_goals simp only [tyF, Bool.false_eq_true, if_false, if_true] at hi' hj'
    all_goals refine wpAny_call ?_
    all_goals k_dflt ktr_enter
    all_goals k_steps
    all_goals exact ret _ _ (by k_asm) (by k_asm)


theorem eq_row {w : World} {A : Around} {E : Value → Shared → Prop} {Q : Value → Shared → Prop} {s : Shared} {h₀ : Heap} {L row e : Addr} {big : List (Addr × Obj)} {ws : List Value} {ns : List Int} {n1 n2 : Nat}
    (N : News h₀ L s.heap big) (h1 : (row, W.listOf ws.toArray n1) ∈ big) (hI : IntsAre ws ns) (h2 : (e, W.listOf #[] n2) ∈ big) (hu : A.units + 64 < cLine) (h : Q (.bool (decide (ns = []))) s) :
    wpAny (model PG w) A (compareOp .Eq (.ref row) (.ref e)) Q E s :=
  eq_intsK (us := []) (ms := []) (N.isList h1) hI (N.isList h2) IntsAre.nil hu h

theorem ln_p40_take_0 : True := by
  k_with "compareOp Eq ref ref" => (k_here; (with_reducible show wpAny _ _ (compareOp CmpOp.Eq (Value.ref _) (Value.ref _)) _ _ _); k_dflt (refine' eq_row ?zzk1 ?zzk2 ?zzk3 ?zzk4 ?zzk5 ?_; (case zzk1 => k_asm); (case zzk2 => k_mem); (case zzk3 => assumption); (case zzk4 => k_mem); (case zzk5 => ktr_units); k_whole))
  trivial

theorem len_row {w : World} {A : Around} {E : Value → Shared → Prop} {Q : Value → Shared → Prop} {s : Shared} {h₀ : Heap} {L row : Addr} {big : List (Addr × Obj)} {ws : List Value} {ns : List Int} {n1 : Nat}
    (N : News h₀ L s.heap big) (h1 : (row, W.listOf ws.toArray n1) ∈ big) (hI : IntsAre ws ns) (hlen : ns.length ≤ 40) (h : Q (.int (ns.length : Nat) (s.toks + 1)) { s with toks := s.toks + 1 + 1 }) :
    wpAny (model PG w) A (call (.builtin "len") [.ref row]) Q E s := len_ints_fit (N.isList h1) hI (by omega) h
theorem item_row {w : World} {A : Around} {E : Value → Shared → Prop} {Q : Value → Shared → Prop} {s : Shared} {h₀ : Heap} {L row : Addr} {big : List (Addr × Obj)} {ws : List Value} {ns : List Int} {n1 : Nat} {value slice : PySem.Expr} {k : Int} {u : Tok}
    (N : News h₀ L s.heap big) (h1 : (row, W.listOf ws.toArray n1) ∈ big) (hI : IntsAre ws ns) (h0 : 0 ≤ k) (h2 : k < ns.length) (hk : k < 2 ^ 63) (h : ∀ v t, Q (.int v t) s)
    (hs : subscripted slice false (.ref row) (.int k u) = operate [.ref row, .int k u] (getItem (.ref row) (.int k u)) := by with_unfolding_all rfl) :
    wpAny (model PG w) A (subscriptTail value slice (.ref row) (.int k u)) Q E s := by
  have hlt : k.toNat < ns.length := by omega
  obtain ⟨t, e⟩ := hI.get k.toNat ns[k.toNat] (by simp [hlt])
  have hl := N.isList h1
  exact tail_any hl.typeIs slot_list_getitem.lookup (wpAny_getItem_list hl h0 hk (by simpa using e) (h _ t)) hs

theorem ln_p40_take_1 : True := by
  k_with "call builtin:len" => (k_here; (with_reducible show wpAny _ _ (call (Value.builtin _) [Value.ref _]) _ _ _); k_dflt (refine' len_row ?zzk1 ?zzk2 ?zzk3 ?zzk4 ?_; (case zzk1 => k_asm); (case zzk2 => k_mem); (case zzk3 => assumption); (case zzk4 => assumption); k_whole))
  k_with "subscriptTail Name BinOp ref int" => (k_here; (with_reducible show wpAny _ _ (subscriptTail _ _ (Value.ref _) (Value.int _ _)) _ _ _); k_dflt (refine' item_row ?zzk1 ?zzk2 ?zzk3 ?zzk4 ?zzk5 ?zzk6 ?_; (case zzk1 => k_asm); (case zzk2 => k_mem); (case zzk3 => assumption); (case zzk4 => l_idx); (case zzk5 => l_idx); (case zzk6 => l_idx); k_whole); intro v' t')
  trivial

theorem pow7_ne (n : Nat) : (7 : Int) ^ n ≠ 0 := by
  induction n with
  | zero => decide
  | succ n ih => rw [Int.pow_succ]; exact Int.mul_ne_zero ih (by decide)
theorem fdiv_bounds {i n : Int} (hi : 0 ≤ i) (hn : 0 < n) : 0 ≤ Int.fdiv i n ∧ Int.fdiv i n ≤ i := by
  rw [Int.fdiv_eq_ediv_of_nonneg _ (by omega)]
  exact ⟨Int.ediv_nonneg hi (by omega), Int.ediv_le_self _ hi⟩

theorem ln_p40_take_2 : True := by
  k_with "binaryOp Mod int int" => (k_here; k_dflt (refine' mod_int' ?zzb ?_; (case zzb => omega); (try dsimp only)))
  k_with "binaryOp FloorDiv int int" => (k_here; k_dflt (refine' floordiv_int ?zzb ?_ ?zzp; (case zzb => first | exact pow7_ne _ | omega); (case zzp => exact Or.inr (PySem.PylongRoom.of (PySem.Heap.NoLimit.keeps (PyProof.Rows.Top.nolimit (by assumption)) (PyProof.Rows.Fr.keep (by assumption))) (by ktr_room))); (try dsimp only)))
  k_with "binaryOp Pow int int" => (k_here; k_dflt (refine' pow_int_small ?zza ?zzb ?zzc ?_; (case zza => exact (fdiv_bounds (by omega) (by omega)).1); (case zzb => exact Int.le_trans (fdiv_bounds (by omega) (by omega)).2 (by omega)); (case zzc => decide); (try dsimp only)))
  trivial

set_option maxRecDepth 100000 in
set_option maxHeartbeats 8000000 in
theorem take_ok {w : World} {mean : ExcName → Option Value} {mg mb : Str → Option Value} {dp un : Nat} {gd : Option (List Code)} {cn : Str} {cs : Scope} {a : Addr} {ccd : Value} {cl : List (Str × Addr)} {outer : List Env} {A₀ : Around} {base h₀ : Heap} {L : Addr} {m : Str → Option Value} {news : List (Addr × Obj)} {s : Shared} {Q E : Value → Shared → Prop} {st row : Addr} {ws : List Value} {ns : List Int} {i k : Int} {t1 t2 : Tok}
    (B : Below A₀ base outer h₀) (F : Fr h₀ L s.heap m) (X : (KK w.params).In h₀) (T : Top VW LO mean mg mb h₀) (hk : cs.kind = .function) (N : News h₀ L s.heap ((st, W.listOf #[.ref row, .int i t1] 0) :: news)) (hoff : ∀ p ∈ news, p.1 ≠ st) (hrow : (row, W.listOf ws.toArray 0) ∈ news) (hI : IntsAre ws ns) (hlen : ns.length ≤ 40)
    (hi : 0 ≤ i) (hi2 : i ≤ 40) (hk1 : 0 < k) (hk2 : k ≤ 4) (hdp : dp + 110 < recursionLimit) (hu : un + 400 < cLine)
    (ret : ∀ r t h' tk' t3, 0 ≤ r → r < k → Fr h₀ L h' m → News h₀ L h' ((st, W.listOf #[.ref row, .int (i + 1) t3] 0) :: news) → Q (.int r t) { s with heap := h', toks := tk' }) :
    wpAny (model PG w) (ktrTop dp un gd cn cs L a ccd cl outer) (call (.ref 256) [.ref st, .int k t2]) Q E s := by
  w_on
  refine wpAny_call ?_
  have hpf : Builtin.pylongFrames = 100 := rfl
  by_cases hn : ns = []
  · subst hn
    k_dflt ktr_enter
    k_steps
    exact ret _ _ _ _ _ (by omega) (by omega) (by k_asm) (newsSub (by k_asm) (by k_sub))
  have hpos : (0 : Int) < (ns.length : Nat) := by
    have : ns.length ≠ 0 := fun e => hn (List.length_eq_zero_iff.mp e)
    omega
  k_dflt ktr_enter
  k_steps
  exact ret _ _ _ _ _ (fmod_lo _ hk1) (fmod_hi _ hk1) (by k_asm) (newsSub (by k_asm) (by k_sub))

theorem take_okU {w : World} {mean : ExcName → Option Value} {mg mb : Str → Option Value} {dp un : Nat} {gd : Option (List Code)} {cn : Str} {cs : Scope} {a : Addr} {ccd : Value} {cl : List (Str × Addr)} {outer : List Env} {A₀ : Around} {base h₀ : Heap} {L : Addr} {m : Str → Option Value} {s : Shared} {Q E : Value → Shared → Prop} {big : List (Addr × Obj)} {g : Obj → List (Addr × Obj)} {st row : Addr} {ws : List Value} {ns : List Int} {i k : Int} {t1 t2 : Tok}
    (B : Below A₀ base outer h₀) (F : Fr h₀ L s.heap m) (X : (KK w.params).In h₀) (T : Top VW LO mean mg mb h₀) (hk : cs.kind = .function) (N : News h₀ L s.heap big) (U : UpdF st (W.listOf #[.ref row, .int i t1] 0) big g) (hrow : (row, W.listOf ws.toArray 0) ∈ big) (hI : IntsAre ws ns) (hlen : ns.length ≤ 40) (hne : row ≠ st)
    (hi : 0 ≤ i) (hi2 : i ≤ 40) (hk1 : 0 < k) (hk2 : k ≤ 4) (hdp : dp + 110 < recursionLimit) (hu : un + 400 < cLine)
    (ret : ∀ r t h' tk' t3, 0 ≤ r → r < k → Fr h₀ L h' m → News h₀ L h' (g (W.listOf #[.ref row, .int (i + 1) t3] 0)) → Q (.int r t) { s with heap := h', toks := tk' }) :
    wpAny (model PG w) (ktrTop dp un gd cn cs L a ccd cl outer) (call (.ref 256) [.ref st, .int k t2]) Q E s := by
  obtain ⟨pre, post, rfl, hg, a1, a2⟩ := U.split
  have hoff : ∀ p ∈ pre ++ post, p.1 ≠ st := fun p hp => (List.mem_append.mp hp).elim (a1 p) (a2 p)
  have hr : (row, W.listOf ws.toArray 0) ∈ pre ++ post := by
    rcases List.mem_append.mp hrow with h | h
    · exact List.mem_append.mpr (.inl h)
    · rcases List.mem_cons.mp h with h | h
      · exact absurd (congrArg Prod.fst h) hne
      · exact List.mem_append.mpr (.inr h)
  refine take_ok (t1 := t1) B F X T hk (newsSub N ?_) hoff hr hI hlen hi hi2 hk1 hk2 hdp hu fun r t h' tk' t3 b1 b2 F' N' => ret r t h' tk' t3 b1 b2 F' ?_
  · intro p hp
    rcases List.mem_cons.mp hp with rfl | hp
    · simp
    · exact (List.mem_append.mp hp).elim (fun h => List.mem_append.mpr (.inl h)) fun h => List.mem_append.mpr (.inr (.tail _ h))
  · rw [hg]
    refine newsSub N' ?_
    intro p hp
    rcases List.mem_append.mp hp with hp | hp
    · exact .tail _ (List.mem_append.mpr (.inl hp))
    · rcases List.mem_cons.mp hp with rfl | hp
      · exact .head _
      · exact .tail _ (List.mem_append.mpr (.inr hp))

theorem ln_p40_take_3 : True := by
  k_with "call ref" => (k_here; k_dflt (refine' take_okU ?zzB ?zzF ?zzX ?zzT ?zzK ?zzN ?zzo ?zzr ?zzI ?zzl ?zzn ?zzi ?zzj ?zzk ?zzq ?zzd ?zzu ?_; (case zzB => k_asm); (case zzF => k_asm); (case zzX => k_asm); (case zzT => k_asm); (case zzK => first | exact rfl | assumption); (case zzN => k_asm); (case zzo => k_updF); (case zzr => k_mem); (case zzI => assumption); (case zzl => assumption); (case zzn => assumption); (case zzi => omega); (case zzj => omega); (case zzk => decide); (case zzq => decide); (case zzd => ktr_room); (case zzu => ktr_units); k_whole; intro r' t' h' tk' t3' b1' b2' F' N'; (try k_sweep); (try dsimp only)))
  trivial

theorem isStr_true {v : Value} {x : Str} (h : v.isStr x = true) : ∃ t, v = .str x t := by
  cases v with
  | str y t =>
    have e : y = x := by simpa [Value.isStr] using h
    exact ⟨t, by rw [e]⟩
  | _ => simp [Value.isStr] at h
theorem find_putL_ne {nm nm' : Str} {hs : Int} {k v : Value} (hne : nm ≠ nm') : ∀ (es : List DictEntry) (e0 : DictEntry), es.find? (·.key.isStr nm') = some e0 →
    ((putL nm' hs k v es).find? (·.key.isStr nm)).map (·.val) = (es.find? (·.key.isStr nm)).map (·.val)
  | [], _, h => by cases h
  | e :: r, e0, h => by
    unfold putL
    by_cases c : e.key.isStr nm' = true
    · rw [if_pos c]
      obtain ⟨t, ek⟩ := isStr_true c
      have c2 : e.key.isStr nm = false := by rw [ek]; simp [Value.isStr, Ne.symm hne]
      simp [List.find?_cons, c2]
    · rw [if_neg c]
      have c' : e.key.isStr nm' = false := by simpa using c
      rw [List.find?_cons, c'] at h
      have ih := find_putL_ne (hs := hs) (k := k) (v := v) hne r e0 h
      rw [List.find?_cons, List.find?_cons]
      cases e.key.isStr nm <;> simp [ih]
theorem find_putL_eq {nm : Str} {hs : Int} {k v : Value} : ∀ (es : List DictEntry) (e0 : DictEntry), es.find? (·.key.isStr nm) = some e0 →
    ((putL nm hs k v es).find? (·.key.isStr nm)).map (·.val) = some v
  | [], _, h => by cases h
  | e :: r, e0, h => by
    unfold putL
    by_cases c : e.key.isStr nm = true
    · rw [if_pos c]; simp [c]
    · rw [if_neg c]
      have c' : e.key.isStr nm = false := by simpa using c
      rw [List.find?_cons, c'] at h
      have ih := find_putL_eq (hs := hs) (k := k) (v := v) r e0 h
      rw [List.find?_cons, c']; exact ih
theorem length_putL {nm : Str} {hs : Int} {k v : Value} : ∀ (es : List DictEntry) (e0 : DictEntry), es.find? (·.key.isStr nm) = some e0 → (putL nm hs k v es).length = es.length
  | [], _, h => by cases h
  | e :: r, e0, h => by
    unfold putL
    by_cases c : e.key.isStr nm = true
    · rw [if_pos c]; rfl
    · rw [if_neg c]
      have c' : e.key.isStr nm = false := by simpa using c
      rw [List.find?_cons, c'] at h
      simp [length_putL (hs := hs) (k := k) (v := v) r e0 h]
theorem getL_some {nm : Str} {es : List DictEntry} {v : Value} : getL nm es = some (some v) ↔ (es.find? (·.key.isStr nm)).map (·.val) = some v := by
  unfold getL
  cases h : es.find? (·.key.isStr nm) with
  | some e => simp
  | none => by_cases c : es.any (·.refKey) = true <;> simp [c]
theorem getL_found {nm : Str} {es : List DictEntry} {v : Value} (h : getL nm es = some (some v)) : ∃ e0, es.find? (·.key.isStr nm) = some e0 := by
  have h2 := getL_some.mp h
  cases q : es.find? (·.key.isStr nm) with
  | some e => exact ⟨e, rfl⟩
  | none => rw [q] at h2; cases h2
theorem getL_put_ne {nm nm' : Str} {hs : Int} {k v v0 v1 : Value} {es : List DictEntry} (hf : getL nm' es = some (some v0)) (hne : nm ≠ nm') (h : getL nm es = some (some v1)) : getL nm (putL nm' hs k v es) = some (some v1) := by
  obtain ⟨e0, hf⟩ := getL_found hf
  exact getL_some.mpr ((find_putL_ne hne es e0 hf).trans (getL_some.mp h))
theorem getL_put_eq {nm : Str} {hs : Int} {k v v0 : Value} {es : List DictEntry} (hf : getL nm es = some (some v0)) : getL nm (putL nm hs k v es) = some (some v) := by
  obtain ⟨e0, hf⟩ := getL_found hf
  exact getL_some.mpr (find_putL_eq es e0 hf)
theorem length_put {nm : Str} {hs : Int} {k v v0 : Value} {es : List DictEntry} (hf : getL nm es = some (some v0)) : (putL nm hs k v es).length = es.length := by
  obtain ⟨e0, hf⟩ := getL_found hf
  exact length_putL es e0 hf
theorem updF_upd {d : Addr} {o : Obj} : ∀ {l : List (Addr × Obj)} {g : Obj → List (Addr × Obj)}, UpdF d o l g → ∀ o', Upd d o o' l (g o')
  | _, _, .head h, _ => .head h
  | _, _, .tail h r, o' => .tail h (updF_upd r o')
theorem updF_mem {d : Addr} {o : Obj} : ∀ {l : List (Addr × Obj)} {g : Obj → List (Addr × Obj)}, UpdF d o l g → (d, o) ∈ l
  | _, _, .head _ => .head _
  | _, _, .tail _ r => .tail _ (updF_mem r)

/-- the dict of a type's object while it may still be changed -/
structure TyD (es : List DictEntry) (num : Int) (form : Str) (base : Value) : Prop where
  num : ∃ t, getL (Str.ofString "number") es = some (some (.int num t))
  form : ∃ t, getL (Str.ofString "form") es = some (some (.str form t))
  base : getL (Str.ofString "base") es = some (some base)
  len : ∃ t, getL (Str.ofString "length") es = some (some (.int 0 t))
  lvl : ∃ v, getL (Str.ofString "level") es = some (some v)
  mod : ∃ v, getL (Str.ofString "module") es = some (some v)
  lab : ∃ v, getL (Str.ofString "label") es = some (some v)
  sz : es.length ≤ 12
theorem TyD.at {news : List (Addr × Obj)} {a d : Addr} {es : List DictEntry} {n : Nat} {num : Int} {form : Str} {base : Value} (D : TyD es num form base) (h1 : (a, instObj 188 d) ∈ news) (h2 : (d, dictOf es n) ∈ news) : TyAt news a num form base :=
  ⟨d, es, n, h1, h2, D.num, D.form, D.base, D.len⟩
theorem TyD.putBase {es : List DictEntry} {num : Int} {form : Str} {base v k : Value} {hs : Int} (D : TyD es num form base) : TyD (putL (Str.ofString "base") hs k v es) num form v := by
  obtain ⟨⟨t1, h1⟩, ⟨t2, h2⟩, h3, ⟨t4, h4⟩, ⟨v5, h5⟩, ⟨v6, h6⟩, ⟨v7, h7⟩, h8⟩ := D
  exact ⟨⟨t1, getL_put_ne h3 (by decide +kernel) h1⟩, ⟨t2, getL_put_ne h3 (by decide +kernel) h2⟩, getL_put_eq h3, ⟨t4, getL_put_ne h3 (by decide +kernel) h4⟩, ⟨v5, getL_put_ne h3 (by decide +kernel) h5⟩, ⟨v6, getL_put_ne h3 (by decide +kernel) h6⟩, ⟨v7, getL_put_ne h3 (by decide +kernel) h7⟩, by rw [length_put h3]; exact h8⟩
theorem TyD.putLevel {es : List DictEntry} {num : Int} {form : Str} {base v k : Value} {hs : Int} (D : TyD es num form base) : TyD (putL (Str.ofString "level") hs k v es) num form base := by
  obtain ⟨⟨t1, h1⟩, ⟨t2, h2⟩, h3, ⟨t4, h4⟩, ⟨v5, h5⟩, ⟨v6, h6⟩, ⟨v7, h7⟩, h8⟩ := D
  exact ⟨⟨t1, getL_put_ne h5 (by decide +kernel) h1⟩, ⟨t2, getL_put_ne h5 (by decide +kernel) h2⟩, getL_put_ne h5 (by decide +kernel) h3, ⟨t4, getL_put_ne h5 (by decide +kernel) h4⟩, ⟨_, getL_put_eq h5⟩, ⟨v6, getL_put_ne h5 (by decide +kernel) h6⟩, ⟨v7, getL_put_ne h5 (by decide +kernel) h7⟩, by rw [length_put h5]; exact h8⟩
theorem TyD.putModule {es : List DictEntry} {num : Int} {form : Str} {base v k : Value} {hs : Int} (D : TyD es num form base) : TyD (putL (Str.ofString "module") hs k v es) num form base := by
  obtain ⟨⟨t1, h1⟩, ⟨t2, h2⟩, h3, ⟨t4, h4⟩, ⟨v5, h5⟩, ⟨v6, h6⟩, ⟨v7, h7⟩, h8⟩ := D
  exact ⟨⟨t1, getL_put_ne h6 (by decide +kernel) h1⟩, ⟨t2, getL_put_ne h6 (by decide +kernel) h2⟩, getL_put_ne h6 (by decide +kernel) h3, ⟨t4, getL_put_ne h6 (by decide +kernel) h4⟩, ⟨v5, getL_put_ne h6 (by decide +kernel) h5⟩, ⟨_, getL_put_eq h6⟩, ⟨v7, getL_put_ne h6 (by decide +kernel) h7⟩, by rw [length_put h6]; exact h8⟩
theorem TyD.putLabel {es : List DictEntry} {num : Int} {form : Str} {base v k : Value} {hs : Int} (D : TyD es num form base) : TyD (putL (Str.ofString "label") hs k v es) num form base := by
  obtain ⟨⟨t1, h1⟩, ⟨t2, h2⟩, h3, ⟨t4, h4⟩, ⟨v5, h5⟩, ⟨v6, h6⟩, ⟨v7, h7⟩, h8⟩ := D
  exact ⟨⟨t1, getL_put_ne h7 (by decide +kernel) h1⟩, ⟨t2, getL_put_ne h7 (by decide +kernel) h2⟩, getL_put_ne h7 (by decide +kernel) h3, ⟨t4, getL_put_ne h7 (by decide +kernel) h4⟩, ⟨v5, getL_put_ne h7 (by decide +kernel) h5⟩, ⟨v6, getL_put_ne h7 (by decide +kernel) h6⟩, ⟨_, getL_put_eq h7⟩, by rw [length_put h7]; exact h8⟩

set_option maxRecDepth 100000 in
set_option maxHeartbeats 8000000 in
theorem mk_type {w : World} {mean : ExcName → Option Value} {mg mb : Str → Option Value} {dp un : Nat} {gd : Option (List Code)} {cn : Str} {cs : Scope} {a : Addr} {ccd : Value} {cl : List (Str × Addr)} {outer : List Env} {A₀ : Around} {base h₀ : Heap} {L : Addr} {m : Str → Option Value} {news : List (Addr × Obj)} {s : Shared} {Q E : Value → Shared → Prop} {num : Int} {form : Str} {size : Int} {t1 t2 t3 : Tok}
    (B : Below A₀ base outer h₀) (F : Fr h₀ L s.heap m) (X : (KK w.params).In h₀) (T : Top VW LO mean mg mb h₀) (hk : cs.kind = .function) (N : News h₀ L s.heap news) (hdp : dp + 5 < recursionLimit) (hu : un + 400 < cLine)
    (ret : ∀ x dx des n h' tk', Fr h₀ L h' m → News h₀ L h' ((x, instObj 188 dx) :: (dx, dictOf des n) :: news) → (∀ p ∈ news, p.1 < dx) → dx < x → TyD des num form .none → Q (.ref x) { s with heap := h', toks := tk' }) :
    wpAny (model PG w) (ktrTop dp un gd cn cs L a ccd cl outer) (call (.ref 188) [.int num t1, .str form t2, .int size t3]) Q E s := by
  w_on
  k_dflt (refine' call_cls ?k1 ?k2 ?k3 ?k4 ?k5 ?k6 ?_; (case k1 => k_asm); (case k2 => k_asm); (case k3 => k_asm); (case k4 => k_is); (case k5 => k_is); (case k6 => k_is); k_whole; intro x' d' h' F' N' l1 l2; have l0 := And.intro l1 l2; (try k_lt l1); (try k_lt2 l2); (try k_sweep); ktr_enter)
  k_steps
  exact ret _ _ _ _ _ _ (by k_asm) (newsSub (by k_asm) (by k_sub)) l0.1 l0.2 ⟨⟨_, rfl⟩, ⟨_, rfl⟩, rfl, ⟨_, rfl⟩, ⟨_, rfl⟩, ⟨_, rfl⟩, ⟨_, rfl⟩, Nat.le_of_ble_eq_true rfl⟩

theorem setT_base {w : World} {A : Around} {E : Value → Shared → Prop} {Q : Unit → Shared → Prop} {s : Shared} {h₀ : Heap} {L x dx : Addr} {m : Str → Option Value} {big : List (Addr × Obj)} {g : Obj → List (Addr × Obj)} {des : List DictEntry} {n : Nat} {num : Int} {form : Str} {b0 v : Value}
    (F : Fr h₀ L s.heap m) (X₀ : (KK w.params).In h₀) (N : News h₀ L s.heap big) (hx : (x, instObj 188 dx) ∈ big) (U : UpdF dx (dictOf des n) big g) (D : TyD des num form b0)
    (hs : findIn (KK w.params) (.ref 188) (Str.ofString "__setattr__") = some (some (.builtin "object.__setattr__"))) (hp : plainOver (KK w.params) 188 = true) (ht : takerIn (KK w.params) 188 (Str.ofString "base") = some none) (hh : hasDictIn (KK w.params) 188 = true)
    (h : ∀ h' des' n', Fr h₀ L h' m → News h₀ L h' (g (dictOf des' n')) → TyD des' num form v → Q () { s with heap := h', toks := s.toks + 2 }) :
    wpAny (model PG w) A (setAttr (.ref x) (Str.ofString "base") v) Q E s :=
  set_dict F X₀ N (InstAt.of_news N hx (updF_mem U)) rfl hs hp ht hh (by rw [D.base]; rfl) rfl (updF_upd U _) (by rw [length_put D.base]; exact Nat.le_trans D.sz (by decide)) fun h' F' N' => h h' _ _ F' N' D.putBase

theorem setT_level {w : World} {A : Around} {E : Value → Shared → Prop} {Q : Unit → Shared → Prop} {s : Shared} {h₀ : Heap} {L x dx : Addr} {m : Str → Option Value} {big : List (Addr × Obj)} {g : Obj → List (Addr × Obj)} {des : List DictEntry} {n : Nat} {num : Int} {form : Str} {b0 v : Value}
    (F : Fr h₀ L s.heap m) (X₀ : (KK w.params).In h₀) (N : News h₀ L s.heap big) (hx : (x, instObj 188 dx) ∈ big) (U : UpdF dx (dictOf des n) big g) (D : TyD des num form b0)
    (hs : findIn (KK w.params) (.ref 188) (Str.ofString "__setattr__") = some (some (.builtin "object.__setattr__"))) (hp : plainOver (KK w.params) 188 = true) (ht : takerIn (KK w.params) 188 (Str.ofString "level") = some none) (hh : hasDictIn (KK w.params) 188 = true)
    (h : ∀ h' des' n', Fr h₀ L h' m → News h₀ L h' (g (dictOf des' n')) → TyD des' num form b0 → Q () { s with heap := h', toks := s.toks + 2 }) :
    wpAny (model PG w) A (setAttr (.ref x) (Str.ofString "level") v) Q E s :=
  set_dict F X₀ N (InstAt.of_news N hx (updF_mem U)) rfl hs hp ht hh (by obtain ⟨v, e⟩ := D.lvl; rw [e]; rfl) rfl (updF_upd U _) (by rw [length_put D.lvl.choose_spec]; exact Nat.le_trans D.sz (by decide)) fun h' F' N' => h h' _ _ F' N' D.putLevel

theorem setT_module {w : World} {A : Around} {E : Value → Shared → Prop} {Q : Unit → Shared → Prop} {s : Shared} {h₀ : Heap} {L x dx : Addr} {m : Str → Option Value} {big : List (Addr × Obj)} {g : Obj → List (Addr × Obj)} {des : List DictEntry} {n : Nat} {num : Int} {form : Str} {b0 v : Value}
    (F : Fr h₀ L s.heap m) (X₀ : (KK w.params).In h₀) (N : News h₀ L s.heap big) (hx : (x, instObj 188 dx) ∈ big) (U : UpdF dx (dictOf des n) big g) (D : TyD des num form b0)
    (hs : findIn (KK w.params) (.ref 188) (Str.ofString "__setattr__") = some (some (.builtin "object.__setattr__"))) (hp : plainOver (KK w.params) 188 = true) (ht : takerIn (KK w.params) 188 (Str.ofString "module") = some none) (hh : hasDictIn (KK w.params) 188 = true)
    (h : ∀ h' des' n', Fr h₀ L h' m → News h₀ L h' (g (dictOf des' n')) → TyD des' num form b0 → Q () { s with heap := h', toks := s.toks + 2 }) :
    wpAny (model PG w) A (setAttr (.ref x) (Str.ofString "module") v) Q E s :=
  set_dict F X₀ N (InstAt.of_news N hx (updF_mem U)) rfl hs hp ht hh (by obtain ⟨v, e⟩ := D.mod; rw [e]; rfl) rfl (updF_upd U _) (by rw [length_put D.mod.choose_spec]; exact Nat.le_trans D.sz (by decide)) fun h' F' N' => h h' _ _ F' N' D.putModule

theorem setT_label {w : World} {A : Around} {E : Value → Shared → Prop} {Q : Unit → Shared → Prop} {s : Shared} {h₀ : Heap} {L x dx : Addr} {m : Str → Option Value} {big : List (Addr × Obj)} {g : Obj → List (Addr × Obj)} {des : List DictEntry} {n : Nat} {num : Int} {form : Str} {b0 v : Value}
    (F : Fr h₀ L s.heap m) (X₀ : (KK w.params).In h₀) (N : News h₀ L s.heap big) (hx : (x, instObj 188 dx) ∈ big) (U : UpdF dx (dictOf des n) big g) (D : TyD des num form b0)
    (hs : findIn (KK w.params) (.ref 188) (Str.ofString "__setattr__") = some (some (.builtin "object.__setattr__"))) (hp : plainOver (KK w.params) 188 = true) (ht : takerIn (KK w.params) 188 (Str.ofString "label") = some none) (hh : hasDictIn (KK w.params) 188 = true)
    (h : ∀ h' des' n', Fr h₀ L h' m → News h₀ L h' (g (dictOf des' n')) → TyD des' num form b0 → Q () { s with heap := h', toks := s.toks + 2 }) :
    wpAny (model PG w) A (setAttr (.ref x) (Str.ofString "label") v) Q E s :=
  set_dict F X₀ N (InstAt.of_news N hx (updF_mem U)) rfl hs hp ht hh (by obtain ⟨v, e⟩ := D.lab; rw [e]; rfl) rfl (updF_upd U _) (by rw [length_put D.lab.choose_spec]; exact Nat.le_trans D.sz (by decide)) fun h' F' N' => h h' _ _ F' N' D.putLabel

theorem ln_p50_new_0 : True := by
  k_with "setAttr ref" => (k_here; (with_reducible show wpAny _ _ (setAttr (Value.ref _) (PySem.Str.ofString "base") _) _ _ _); k_dflt (refine' setT_base ?zzF ?zzX ?zzN ?zzx ?zzU ?zzD ?zza ?zzb ?zzc ?zze ?_; (case zzF => k_asm); (case zzX => k_asm); (case zzN => k_asm); (case zzx => k_mem); (case zzU => k_updF); (case zzD => assumption); (case zza => k_is); (case zzb => k_is); (case zzc => k_is); (case zze => k_is); k_whole; intro h' des' n' F' N' D'; (try k_sweep); (try dsimp only)))
  k_with "setAttr ref" => (k_here; (with_reducible show wpAny _ _ (setAttr (Value.ref _) (PySem.Str.ofString "level") _) _ _ _); k_dflt (refine' setT_level ?zzF ?zzX ?zzN ?zzx ?zzU ?zzD ?zza ?zzb ?zzc ?zze ?_; (case zzF => k_asm); (case zzX => k_asm); (case zzN => k_asm); (case zzx => k_mem); (case zzU => k_updF); (case zzD => assumption); (case zza => k_is); (case zzb => k_is); (case zzc => k_is); (case zze => k_is); k_whole; intro h' des' n' F' N' D'; (try k_sweep); (try dsimp only)))
  k_with "setAttr ref" => (k_here; (with_reducible show wpAny _ _ (setAttr (Value.ref _) (PySem.Str.ofString "module") _) _ _ _); k_dflt (refine' setT_module ?zzF ?zzX ?zzN ?zzx ?zzU ?zzD ?zza ?zzb ?zzc ?zze ?_; (case zzF => k_asm); (case zzX => k_asm); (case zzN => k_asm); (case zzx => k_mem); (case zzU => k_updF); (case zzD => assumption); (case zza => k_is); (case zzb => k_is); (case zzc => k_is); (case zze => k_is); k_whole; intro h' des' n' F' N' D'; (try k_sweep); (try dsimp only)))
  k_with "setAttr ref" => (k_here; (with_reducible show wpAny _ _ (setAttr (Value.ref _) (PySem.Str.ofString "label") _) _ _ _); k_dflt (refine' setT_label ?zzF ?zzX ?zzN ?zzx ?zzU ?zzD ?zza ?zzb ?zzc ?zze ?_; (case zzF => k_asm); (case zzX => k_asm); (case zzN => k_asm); (case zzx => k_mem); (case zzU => k_updF); (case zzD => assumption); (case zza => k_is); (case zzb => k_is); (case zzc => k_is); (case zze => k_is); k_whole; intro h' des' n' F' N' D'; (try k_sweep); (try dsimp only)))
  trivial

def cEnt (hc : Int) (kc : Tok) (c : Int) (tc : Tok) : DictEntry := ⟨hc, .str (Str.ofString "counter") kc, .int c tc⟩
def kEnt (hk : Int) (kk : Tok) (kd : Addr) : DictEntry := ⟨hk, .str (Str.ofString "known") kk, .ref kd⟩

section
variable {w : World} {A : Around} {h₀ : Heap} {L : Addr} {m : Str → Option Value} {big : List (Addr × Obj)} {s : Shared} {E : Value → Shared → Prop} {ts td kd : Addr} {hc hk c : Int} {kc tc kk : Tok} {tl : List DictEntry} {n : Nat} {expr : Bool} {g : Obj → List (Addr × Obj)}
theorem getC {Q : Value → Shared → Prop} (F : Fr h₀ L s.heap m) (X₀ : (KK w.params).In h₀) (N : News h₀ L s.heap big) (h1 : (ts, instObj 245 td) ∈ big) (h2 : (td, dictOf (cEnt hc kc c tc :: tl) n) ∈ big)
    (hg : plainGet (KK w.params) 245 (Str.ofString "counter") = true) (hh : hasDictIn (KK w.params) 245 = true) (ha : findIn (KK w.params) (.ref 245) (Str.ofString "counter") = some none)
    (h : Q (.int c tc) { s with toks := s.toks + 1 }) : wpAny (model PG w) A (getAttr (.ref ts) (Str.ofString "counter") expr) Q E s :=
  get_own F X₀ (InstAt.of_news N h1 h2) hg hh ha rfl rfl rfl h
theorem getK {Q : Value → Shared → Prop} (F : Fr h₀ L s.heap m) (X₀ : (KK w.params).In h₀) (N : News h₀ L s.heap big) (h1 : (ts, instObj 245 td) ∈ big) (h2 : (td, dictOf (cEnt hc kc c tc :: kEnt hk kk kd :: tl) n) ∈ big)
    (hg : plainGet (KK w.params) 245 (Str.ofString "known") = true) (hh : hasDictIn (KK w.params) 245 = true) (ha : findIn (KK w.params) (.ref 245) (Str.ofString "known") = some none)
    (h : Q (.ref kd) { s with toks := s.toks + 1 }) : wpAny (model PG w) A (getAttr (.ref ts) (Str.ofString "known") expr) Q E s :=
  get_own F X₀ (InstAt.of_news N h1 h2) hg hh ha rfl rfl rfl h
theorem setC {Q : Unit → Shared → Prop} {c' : Int} {tc' : Tok} (F : Fr h₀ L s.heap m) (X₀ : (KK w.params).In h₀) (N : News h₀ L s.heap big) (h1 : (ts, instObj 245 td) ∈ big) (U : UpdF td (dictOf (cEnt hc kc c tc :: tl) n) big g) (hz : tl.length ≤ 900)
    (hs : findIn (KK w.params) (.ref 245) (Str.ofString "__setattr__") = some (some (.builtin "object.__setattr__"))) (hp : plainOver (KK w.params) 245 = true) (ht : takerIn (KK w.params) 245 (Str.ofString "counter") = some none) (hh : hasDictIn (KK w.params) 245 = true)
    (h : ∀ h', Fr h₀ L h' m → News h₀ L h' (g (dictOf (cEnt hc kc c' tc' :: tl) n)) → Q () { s with heap := h', toks := s.toks + 2 }) :
    wpAny (model PG w) A (setAttr (.ref ts) (Str.ofString "counter") (.int c' tc')) Q E s :=
  set_dict F X₀ N (InstAt.of_news N h1 (updF_mem U)) rfl hs hp ht hh rfl (es' := cEnt hc kc c' tc' :: tl) (n' := n) rfl (updF_upd U _) (by show tl.length + 1 ≤ 1000; omega) fun h' F' N' => h h' F' N'
end

theorem ln_p50_new_1 : True := by
  k_with "getAttr ref" => (k_here; (with_reducible show wpAny _ _ (getAttr (Value.ref _) (PySem.Str.ofString "counter") _) _ _ _); k_dflt (refine' getC ?zzF ?zzX ?zzN ?zzx ?zzy ?zza ?zzb ?zzc ?_; (case zzF => k_asm); (case zzX => k_asm); (case zzN => k_asm); (case zzx => k_mem); (case zzy => k_mem); (case zza => k_is); (case zzb => k_is); (case zzc => k_is); k_whole; (try dsimp only)))
  k_with "getAttr ref" => (k_here; (with_reducible show wpAny _ _ (getAttr (Value.ref _) (PySem.Str.ofString "known") _) _ _ _); k_dflt (refine' getK ?zzF ?zzX ?zzN ?zzx ?zzy ?zza ?zzb ?zzc ?_; (case zzF => k_asm); (case zzX => k_asm); (case zzN => k_asm); (case zzx => k_mem); (case zzy => k_mem); (case zza => k_is); (case zzb => k_is); (case zzc => k_is); k_whole; (try dsimp only)))
  k_with "setAttr ref" => (k_here; (with_reducible show wpAny _ _ (setAttr (Value.ref _) (PySem.Str.ofString "counter") _) _ _ _); k_dflt (refine' setC ?zzF ?zzX ?zzN ?zzx ?zzU ?zzz ?zza ?zzb ?zzc ?zze ?_; (case zzF => k_asm); (case zzX => k_asm); (case zzN => k_asm); (case zzx => k_mem); (case zzU => k_updF); (case zzz => first | assumption | exact Nat.le_of_ble_eq_true rfl); (case zza => k_is); (case zzb => k_is); (case zzc => k_is); (case zze => k_is); k_whole; intro h' F' N'; (try k_sweep); (try dsimp only)))
  k_with "call ref" => (k_here; k_dflt (refine' mk_type ?zzB ?zzF ?zzX ?zzT ?zzK ?zzN ?zzd ?zzu ?_; (case zzB => k_asm); (case zzF => k_asm); (case zzX => k_asm); (case zzT => k_asm); (case zzK => first | exact rfl | assumption); (case zzN => k_asm); (case zzd => ktr_room); (case zzu => ktr_units); k_whole; intro x' dx' des' n' h' tk' F' N' l1w l2w D'; (try k_lt l1w); (try k_lt2 l2w); (try k_sweep); (try dsimp only)))
  trivial

set_option maxRecDepth 100000 in
set_option maxHeartbeats 8000000 in
theorem new_a {w : World} {mean : ExcName → Option Value} {mg mb : Str → Option Value} {dp un : Nat} {gd : Option (List Code)} {cn : Str} {cs : Scope} {a : Addr} {ccd : Value} {cl : List (Str × Addr)} {outer : List Env} {A₀ : Around} {base h₀ : Heap} {L : Addr} {m : Str → Option Value} {news : List (Addr × Obj)} {s : Shared} {Q E : Value → Shared → Prop} {ts td kd : Addr} {hc hk' c : Int} {kc tc kk : Tok} {tl : List DictEntry} {n : Nat} {form : Str} {size : Int} {t2 t3 : Tok}
    (B : Below A₀ base outer h₀) (F : Fr h₀ L s.heap m) (X : (KK w.params).In h₀) (T : Top VW LO mean mg mb h₀) (hk : cs.kind = .function) (N : News h₀ L s.heap ((td, dictOf (cEnt hc kc c tc :: kEnt hk' kk kd :: tl) n) :: news)) (hts : (ts, instObj 245 td) ∈ news) (hoff : ∀ p ∈ news, p.1 ≠ td) (hz : tl.length ≤ 800) (hdp : dp + 10 < recursionLimit) (hu : un + 800 < cLine)
    (ret : ∀ x dx des n' tc' h' tk', Fr h₀ L h' m → News h₀ L h' ((x, instObj 188 dx) :: (dx, dictOf des n') :: (td, dictOf (cEnt hc kc (c + 1) tc' :: kEnt hk' kk kd :: tl) n) :: news) → (∀ p ∈ news, p.1 < dx) → td < dx → dx < x → TyD des (c + 1) form .none → Q (.ref x) { s with heap := h', toks := tk' }) :
    wpAny (model PG w) (ktrTop dp un gd cn cs L a ccd cl outer) (call (.ref 235) [.ref ts, .str form t2, .int size t3]) Q E s := by
  w_on
  have hz' : (kEnt hk' kk kd :: tl).length ≤ 900 := by simp only [List.length_cons]; omega
  refine wpAny_call ?_
  k_dflt (refine' code_def ?k1 ?k2 ?k3 ?k4 ?k5 ?kA ?kF ?kK ?k6 ?k7 ?k8 ?k9 ?kB ?_ ?c2 ?c3 ?c4 ?c5; (case kA => exact rfl); (case kF => exact rfl); (case kK => assumption); (case k1 => k_asm); (case k2 => k_asm); (case k3 => k_asm); (case k4 => k_asm); (case k5 => k_asm); (case k6 => k_is); (case k7 => k_is); (case k8 => ktr_room); (case k9 => exact binds_K (by k_in) rfl (by k_is) rfl rfl rfl); (case c5 => decide); (case kB => exact locs rfl); (case c2 => exact rfl); (case c3 => exact rfl); (case c4 => exact rfl); k_whole; intro g' L' h' FG' F' N' B' X' T'; (try dsimp only); (try k_fold))
  k_steps
  exact ret _ _ _ _ _ _ _ (by k_asm) (newsSub (by k_asm) (by k_sub)) (fun p hp => tb_ltOf (by tbn_find) p hp) (And.left (by assumption)) (by assumption) (by assumption)

/-- the dict of the known types: tuples of two texts as keys, whatever stands under them -/
def KOk (w : World) (news : List (Addr × Obj)) (ko : Obj) (k : Nat) : Prop :=
  ∃ es ep, ∃ xs : List (List Str × Addr × Value), ko.ExactDict ∧ ko.data = .dict es ep ∧ es.toList = xs.map (entryOfKey (tupleKind (strKind PG w))) ∧ (xs.map (·.1)).Nodup ∧ (∀ x ∈ xs, ∃ ok, (x.2.1, ok) ∈ news ∧ TupKeyObj (strKind PG w) x.1 ok) ∧ xs.length ≤ k
theorem KOk.mono {w : World} {news news' : List (Addr × Obj)} {ko : Obj} {k : Nat} (h : KOk w news ko k) (hs : ∀ p ∈ news, p ∈ news') : KOk w news' ko k := by
  obtain ⟨es, ep, xs, a, b, c, d, e, f⟩ := h
  exact ⟨es, ep, xs, a, b, c, d, fun x hx => let ⟨ok, q, t⟩ := e x hx; ⟨ok, hs _ q, t⟩, f⟩
def SubK (a b : List (Addr × Obj)) : Prop := ∀ p ∈ a, p ∈ b
theorem SubK.nil {b : List (Addr × Obj)} : SubK [] b := fun _ h => nomatch h
theorem SubK.tail {a b : List (Addr × Obj)} {x : Addr × Obj} (h : SubK a b) : SubK a (x :: b) := fun p hp => .tail _ (h p hp)
theorem SubK.cons {a b : List (Addr × Obj)} {x : Addr × Obj} (hx : x ∈ b) (h : SubK a b) : SubK (x :: a) b := fun p hp => by
  rcases List.mem_cons.mp hp with rfl | hp
  · exact hx
  · exact h p hp
theorem KOk.start {w : World} {news : List (Addr × Obj)} {o : Obj} (hd : o.IsDictOf (strKind PG w) []) : KOk w news o 0 := by
  obtain ⟨es, ep, hc, hdat, _, hp, _⟩ := hd
  have he : es.toList = [] := List.length_eq_zero_iff.mp hp.length
  exact ⟨es, ep, [], hc, hdat, he, List.nodup_nil, fun _ hx => by simp at hx, Nat.le_refl _⟩
theorem storedH_len {K : Type} [DecidableEq K] (xs : List (K × Addr × Value)) (k : K) (a : Addr) (v : Value) : (storedH xs k a v).length ≤ xs.length + 1 := by
  unfold storedH
  split
  · rw [List.length_map]; omega
  · simp
theorem setKnown {w : World} {A : Around} {E : Value → Shared → Prop} {Q : Unit → Shared → Prop} {s : Shared} {h₀ : Heap} {L kd ta : Addr} {m : Str → Option Value} {news big : List (Addr × Obj)} {g : Obj → List (Addr × Obj)} {ko : Obj} {k : Nat} {x y : Str} {t1 t2 : Tok} {v : Value}
    (F : Fr h₀ L s.heap m) (N : News h₀ L s.heap big) (U : UpdF kd ko big g) (K : KOk w news ko k) (hs : SubK news big) (hk : k ≤ 100) (hta : (ta, ({ cls := .type "tuple", data := .seq [Value.str x t1, Value.str y t2].toArray } : Obj)) ∈ big) (hu : A.units + 1 < cLine)
    (h : ∀ h' ko' tk', Fr h₀ L h' m → News h₀ L h' (g ko') → KOk w ((ta, ({ cls := .type "tuple", data := .seq [Value.str x t1, Value.str y t2].toArray } : Obj)) :: news) ko' (k + 1) → Q () { s with heap := h', toks := tk' }) :
    wpAny (model PG w) A (setItem (.ref kd) (.ref ta) v) Q E s := by
  obtain ⟨es, ep, xs, hc, hd, he, hn, hks, hlen⟩ := K
  have tk : TupKeyObj (strKind PG w) [x, y] ({ cls := .type "tuple", data := .seq [Value.str x t1, Value.str y t2].toArray } : Obj) := TupKeyObj.made (ItemsAre.cons (strKind_is _ _ _ _) (ItemsAre.cons (strKind_is _ _ _ _) ItemsAre.nil))
  have hm := updF_mem U
  have hD : s.heap.DictOfH (tupleKind (strKind PG w)) kd xs := ⟨ko, es, ep, N.get hm, hc, hd, he, fun x hx => let ⟨_, hmk, t⟩ := hks x hx; t.key (N.get (hs _ hmk)), hn⟩
  have hxs : xs.length ≤ sizeLine := by rw [sizeLine_eq]; omega
  obtain ⟨pre, post, rfl, hg, a1, a2⟩ := U.split
  refine wpAny_setItem_heap (hsz := hxs) (knd := tupleKind (strKind PG w)) (tupleKind_room_in1 hu) (tk.key (N.get hta)) hD fun h' hm' hsb => ?_
  obtain ⟨o', es', ep', ho', hc', hd', he', _, hn'⟩ := hm'
  refine h h' o' _ (F.change hsb (N _ hm).2.1 (N.fresh hm)) ?_ ⟨es', ep', _, hc', hd', he', hn', fun z hz => ?_, Nat.le_trans (storedH_len _ _ _ _) (by omega)⟩
  · rw [hg]
    refine newsSub (N.replace hsb ho') fun p hp => ?_
    rcases List.mem_append.mp hp with q | q
    · exact List.mem_map.mpr ⟨p, List.mem_append.mpr (.inl q), by simp [a1 p q]⟩
    · rcases List.mem_cons.mp q with rfl | q
      · exact List.mem_map.mpr ⟨_, hm, by simp⟩
      · exact List.mem_map.mpr ⟨p, List.mem_append.mpr (.inr (.tail _ q)), by simp [a2 p q]⟩
  · rcases mem_storedH hz with ⟨u, hu', e1, e2⟩ | ⟨e1, e2⟩
    · obtain ⟨oku, hmk, t⟩ := hks u hu'
      exact ⟨oku, .tail _ (by rw [e2]; exact hmk), by rw [e1]; exact t⟩
    · exact ⟨_, by rw [e2]; exact .head _, by rw [e1]; exact tk⟩

theorem ln_p50_new_2 : True := by
  k_with "setItem ref ref" => (k_here; k_dflt (refine' setKnown ?zzF ?zzN ?zzU ?zzK ?zzs ?zzk ?zza ?zzu ?_; (case zzF => k_asm); (case zzN => k_asm); (case zzU => k_updF); (case zzK => assumption); (case zzs => (repeat (first | exact SubK.nil | with_reducible assumption | (refine' SubK.cons ?zza ?_; (case zza => k_mem)) | refine' SubK.tail ?_))); (case zzk => first | assumption | omega); (case zza => k_mem); (case zzu => ktr_units); k_whole; intro h' ko' tk' F' N' K'; (try k_sweep); (try dsimp only)))
  trivial

set_option maxRecDepth 100000 in
set_option maxHeartbeats 8000000 in
theorem new_b {w : World} {mean : ExcName → Option Value} {mg mb : Str → Option Value} {dp un : Nat} {gd : Option (List Code)} {cn : Str} {cs : Scope} {a : Addr} {ccd : Value} {cl : List (Str × Addr)} {outer : List Env} {A₀ : Around} {base h₀ : Heap} {L : Addr} {m : Str → Option Value} {news : List (Addr × Obj)} {s : Shared} {Q E : Value → Shared → Prop} {keys : List (Addr × Obj)} {ts td kd : Addr} {hc hk' c : Int} {kc tc kk : Tok} {tl : List DictEntry} {n k : Nat} {form mo lb : Str} {size : Int} {t2 t3 t4 t5 : Tok} {ko : Obj}
    (B : Below A₀ base outer h₀) (F : Fr h₀ L s.heap m) (X : (KK w.params).In h₀) (T : Top VW LO mean mg mb h₀) (hk : cs.kind = .function) (N : News h₀ L s.heap ((td, dictOf (cEnt hc kc c tc :: kEnt hk' kk kd :: tl) n) :: (kd, ko) :: news)) (hts : (ts, instObj 245 td) ∈ news) (hoff : ∀ p ∈ news, p.1 ≠ td) (hoff' : ∀ p ∈ news, p.1 ≠ kd) (htk : @Ne Nat td kd) (hz : tl.length ≤ 800)
    (hlb : (lb != Str.ofString "") = true) (hK : KOk w keys ko k) (hks : SubK keys news) (hk9 : k ≤ 90) (hdp : dp + 10 < recursionLimit) (hu : un + 800 < cLine)
    (ret : ∀ x dx des n' tc' ko' ta h' tk', Fr h₀ L h' m → News h₀ L h' ((ta, ({ cls := .type "tuple", data := .seq [Value.str mo t4, Value.str lb t5].toArray } : Obj)) :: (x, instObj 188 dx) :: (dx, dictOf des n') :: (td, dictOf (cEnt hc kc (c + 1) tc' :: kEnt hk' kk kd :: tl) n) :: (kd, ko') :: news) →
      (∀ p ∈ news, p.1 < dx) → td < dx → kd < dx → dx < x → x < ta → KOk w ((ta, ({ cls := .type "tuple", data := .seq [Value.str mo t4, Value.str lb t5].toArray } : Obj)) :: keys) ko' (k + 1) → TyD des (c + 1) form .none → Q (.ref x) { s with heap := h', toks := tk' }) :
    wpAny (model PG w) (ktrTop dp un gd cn cs L a ccd cl outer) (call (.ref 235) [.ref ts, .str form t2, .int size t3, .str mo t4, .str lb t5]) Q E s := by
  w_on
  have hz' : (kEnt hk' kk kd :: tl).length ≤ 900 := by simp only [List.length_cons]; omega
  refine wpAny_call ?_
  k_dflt (refine' code_def ?k1 ?k2 ?k3 ?k4 ?k5 ?kA ?kF ?kK ?k6 ?k7 ?k8 ?k9 ?kB ?_ ?c2 ?c3 ?c4 ?c5; (case kA => exact rfl); (case kF => exact rfl); (case kK => assumption); (case k1 => k_asm); (case k2 => k_asm); (case k3 => k_asm); (case k4 => k_asm); (case k5 => k_asm); (case k6 => k_is); (case k7 => k_is); (case k8 => ktr_room); (case k9 => exact binds_K (by k_in) rfl (by k_is) rfl rfl rfl); (case c5 => decide); (case kB => exact locs rfl); (case c2 => exact rfl); (case c3 => exact rfl); (case c4 => exact rfl); k_whole; intro g' L' h' FG' F' N' B' X' T'; (try dsimp only); (try k_fold))
  k_steps
  refine' ret _ ?dx ?des ?n' ?tc ?ko ?ta _ _ ?F ?N ?l ?a ?b ?c ?d ?K ?D
  (case N => k_asm)
  (case F => k_asm)
  (case l => exact fun p hp => tb_ltOf (by tbn_find) p hp)
  (case a => exact And.left (by assumption))
  (case b => exact And.left (And.right (by assumption)))
  (case c => assumption)
  (case d => exact And.left (by assumption))
  (case K => assumption)
  (case D => assumption)


theorem updF_in {d : Addr} {o : Obj} : ∀ {l : List (Addr × Obj)} {g : Obj → List (Addr × Obj)}, UpdF d o l g → ∀ o' p, p ∈ g o' → p = (d, o') ∨ (p ∈ l ∧ p.1 ≠ d)
  | _, _, .head h, o', p, hp => by
    rcases List.mem_cons.mp hp with rfl | hp
    · exact .inl rfl
    · exact .inr ⟨.tail _ hp, h p hp⟩
  | _, _, .tail h r, o', p, hp => by
    rcases List.mem_cons.mp hp with rfl | hp
    · exact .inr ⟨.head _, h⟩
    · exact (updF_in r o' p hp).imp id fun q => ⟨.tail _ q.1, q.2⟩
theorem news_fun {h₀ h : Heap} {L a : Addr} {o o' : Obj} {big : List (Addr × Obj)} (N : News h₀ L h big) (h1 : (a, o) ∈ big) (h2 : (a, o') ∈ big) : o = o' := Option.some.inj ((N.get h1).symm.trans (N.get h2))
theorem news_ne {h₀ h : Heap} {L a b : Addr} {o o' : Obj} {big : List (Addr × Obj)} (N : News h₀ L h big) (h1 : (a, o) ∈ big) (h2 : (b, o') ∈ big) (hc : o.cls ≠ o'.cls) : a ≠ b := fun e => hc (by subst e; rw [news_fun N h1 h2])
def apart (td kd : Addr) (big : List (Addr × Obj)) : List (Addr × Obj) := big.filter fun p => decide (p.1 ≠ td) && decide (p.1 ≠ kd)
theorem mem_apart {td kd : Addr} {big : List (Addr × Obj)} {p : Addr × Obj} : p ∈ apart td kd big ↔ p ∈ big ∧ p.1 ≠ td ∧ p.1 ≠ kd := by simp [apart]

set_option maxRecDepth 100000 in
set_option maxHeartbeats 8000000 in
theorem new_aU {w : World} {mean : ExcName → Option Value} {mg mb : Str → Option Value} {dp un : Nat} {gd : Option (List Code)} {cn : Str} {cs : Scope} {a : Addr} {ccd : Value} {cl : List (Str × Addr)} {outer : List Env} {A₀ : Around} {base h₀ : Heap} {L : Addr} {m : Str → Option Value} {s : Shared} {Q E : Value → Shared → Prop} {big : List (Addr × Obj)} {g : Obj → List (Addr × Obj)} {ts td kd : Addr} {hc hk' c : Int} {kc tc kk : Tok} {tl : List DictEntry} {n : Nat} {form : Str} {size : Int} {t2 t3 : Tok}
    (B : Below A₀ base outer h₀) (F : Fr h₀ L s.heap m) (X : (KK w.params).In h₀) (T : Top VW LO mean mg mb h₀) (hk : cs.kind = .function) (N : News h₀ L s.heap big) (U : UpdF td (dictOf (cEnt hc kc c tc :: kEnt hk' kk kd :: tl) n) big g) (hts : (ts, instObj 245 td) ∈ big) (hz : tl.length ≤ 800) (hdp : dp + 10 < recursionLimit) (hu : un + 800 < cLine)
    (ret : ∀ x dx des n' tc' h' tk', Fr h₀ L h' m → News h₀ L h' ((x, instObj 188 dx) :: (dx, dictOf des n') :: g (dictOf (cEnt hc kc (c + 1) tc' :: kEnt hk' kk kd :: tl) n)) → (∀ p ∈ big, p.1 < dx) → dx < x → TyD des (c + 1) form .none → Q (.ref x) { s with heap := h', toks := tk' }) :
    wpAny (model PG w) (ktrTop dp un gd cn cs L a ccd cl outer) (call (.ref 235) [.ref ts, .str form t2, .int size t3]) Q E s := by
  have hm := updF_mem U
  refine new_a (news := apart td td big) (tc := tc) (n := n) (kk := kk) (kc := kc) (hk' := hk') (hc := hc) (kd := kd) B F X T hk (newsSub N ?_) (mem_apart.mpr ⟨hts, news_ne N hts hm (by simp), news_ne N hts hm (by simp)⟩) (fun p hp => (mem_apart.mp hp).2.1) hz hdp hu fun x dx des n' tc' h' tk' F' N' l1 l2 l3 D => ret x dx des n' tc' h' tk' F' (newsSub N' ?_) ?_ l3 D
  · intro p hp
    rcases List.mem_cons.mp hp with rfl | hp
    · exact hm
    · exact (mem_apart.mp hp).1
  · intro p hp
    rcases List.mem_cons.mp hp with rfl | hp
    · exact .head _
    · rcases List.mem_cons.mp hp with rfl | hp
      · exact .tail _ (.head _)
      · rcases updF_in U _ p hp with rfl | ⟨q1, q2⟩
        · exact .tail _ (.tail _ (.head _))
        · exact .tail _ (.tail _ (.tail _ (mem_apart.mpr ⟨q1, q2, q2⟩)))
  · intro p hp
    by_cases e : p.1 = td
    · rw [e]; exact l2
    · exact l1 p (mem_apart.mpr ⟨hp, e, e⟩)

set_option maxRecDepth 100000 in
set_option maxHeartbeats 8000000 in
theorem new_bU {w : World} {mean : ExcName → Option Value} {mg mb : Str → Option Value} {dp un : Nat} {gd : Option (List Code)} {cn : Str} {cs : Scope} {a : Addr} {ccd : Value} {cl : List (Str × Addr)} {outer : List Env} {A₀ : Around} {base h₀ : Heap} {L : Addr} {m : Str → Option Value} {s : Shared} {Q E : Value → Shared → Prop} {keys big : List (Addr × Obj)} {g : Obj → List (Addr × Obj)} {g2 : Obj → Obj → List (Addr × Obj)} {ts td kd : Addr} {hc hk' c : Int} {kc tc kk : Tok} {tl : List DictEntry} {n k : Nat} {form mo lb : Str} {size : Int} {t2 t3 t4 t5 : Tok} {ko : Obj}
    (B : Below A₀ base outer h₀) (F : Fr h₀ L s.heap m) (X : (KK w.params).In h₀) (T : Top VW LO mean mg mb h₀) (hk : cs.kind = .function) (N : News h₀ L s.heap big) (U : UpdF td (dictOf (cEnt hc kc c tc :: kEnt hk' kk kd :: tl) n) big g) (U2 : ∀ o', UpdF kd ko (g o') (g2 o')) (hts : (ts, instObj 245 td) ∈ big) (htk : @Ne Nat td kd) (hz : tl.length ≤ 800)
    (hlb : (lb != Str.ofString "") = true) (hK : KOk w keys ko k) (hks : SubK keys big) (hk9 : k ≤ 90) (hdp : dp + 10 < recursionLimit) (hu : un + 800 < cLine)
    (ret : ∀ x dx des n' tc' ko' ta h' tk', Fr h₀ L h' m → News h₀ L h' ((ta, ({ cls := .type "tuple", data := .seq [Value.str mo t4, Value.str lb t5].toArray } : Obj)) :: (x, instObj 188 dx) :: (dx, dictOf des n') :: g2 (dictOf (cEnt hc kc (c + 1) tc' :: kEnt hk' kk kd :: tl) n) ko') →
      (∀ p ∈ big, p.1 < dx) → dx < x → x < ta → KOk w ((ta, ({ cls := .type "tuple", data := .seq [Value.str mo t4, Value.str lb t5].toArray } : Obj)) :: keys) ko' (k + 1) → TyD des (c + 1) form .none → Q (.ref x) { s with heap := h', toks := tk' }) :
    wpAny (model PG w) (ktrTop dp un gd cn cs L a ccd cl outer) (call (.ref 235) [.ref ts, .str form t2, .int size t3, .str mo t4, .str lb t5]) Q E s := by
  have hm := updF_mem U
  have hm2 : (kd, ko) ∈ big := by
    rcases updF_in U (dictOf (cEnt hc kc c tc :: kEnt hk' kk kd :: tl) n) _ (updF_mem (U2 _)) with e | e
    · exact absurd (congrArg Prod.fst e).symm htk
    · exact e.1
  have hkc : ko.cls = .type "dict" := by obtain ⟨_, _, _, a, _⟩ := hK; exact a.1
  have inRest : ∀ {b : Addr} {o : Obj}, (b, o) ∈ big → o.cls ≠ .type "dict" → (b, o) ∈ apart td kd big := fun {b o} hb ho => mem_apart.mpr ⟨hb, news_ne N hb hm ho, news_ne N hb hm2 (by rw [hkc]; exact ho)⟩
  have hK' : KOk w (apart td kd keys) ko k := by
    obtain ⟨es, ep, xs, a, b, c', d, e, f⟩ := hK
    exact ⟨es, ep, xs, a, b, c', d, fun y hy => let ⟨ok, q, t⟩ := e y hy; ⟨ok, mem_apart.mpr ⟨q, (mem_apart.mp (inRest (hks _ q) (by rw [t.1]; simp))).2⟩, t⟩, f⟩
  have back : ∀ o1 o2 p, p ∈ g2 o1 o2 → p = (td, o1) ∨ p = (kd, o2) ∨ p ∈ apart td kd big := by
    intro o1 o2 p hp
    rcases updF_in (U2 o1) o2 p hp with e | ⟨q1, q2⟩
    · exact .inr (.inl e)
    · rcases updF_in U o1 p q1 with e | ⟨q3, q4⟩
      · exact .inl e
      · exact .inr (.inr (mem_apart.mpr ⟨q3, q4, q2⟩))
  refine new_b (news := apart td kd big) (tc := tc) (ko := ko) (k := k) (n := n) (kk := kk) (kc := kc) (hk' := hk') (hc := hc) (kd := kd) (tl := tl) (c := c) B F X T hk (newsSub N ?_) (inRest hts (by simp)) (fun p hp => (mem_apart.mp hp).2.1) (fun p hp => (mem_apart.mp hp).2.2) htk hz hlb hK' (fun p hp => mem_apart.mpr ⟨hks _ (mem_apart.mp hp).1, (mem_apart.mp hp).2⟩) hk9 hdp hu
    fun x dx des n' tc' ko' ta h' tk' F' N' l1 l2 l3 l4 l5 K D => ?_
  · intro p hp
    rcases List.mem_cons.mp hp with rfl | hp
    · exact hm
    · rcases List.mem_cons.mp hp with rfl | hp
      · exact hm2
      · exact (mem_apart.mp hp).1
  · have sub : ∀ p, p ∈ ((ta, ({ cls := .type "tuple", data := .seq [Value.str mo t4, Value.str lb t5].toArray } : Obj)) :: (x, instObj 188 dx) :: (dx, dictOf des n') :: g2 (dictOf (cEnt hc kc (c + 1) tc' :: kEnt hk' kk kd :: tl) n) ko') →
        p ∈ ((ta, ({ cls := .type "tuple", data := .seq [Value.str mo t4, Value.str lb t5].toArray } : Obj)) :: (x, instObj 188 dx) :: (dx, dictOf des n') :: (td, dictOf (cEnt hc kc (c + 1) tc' :: kEnt hk' kk kd :: tl) n) :: (kd, ko') :: apart td kd big) := by
      intro p hp
      rcases List.mem_cons.mp hp with rfl | hp
      · exact .head _
      · rcases List.mem_cons.mp hp with rfl | hp
        · exact .tail _ (.head _)
        · rcases List.mem_cons.mp hp with rfl | hp
          · exact .tail _ (.tail _ (.head _))
          · rcases back _ _ p hp with rfl | rfl | q
            · exact .tail _ (.tail _ (.tail _ (.head _)))
            · exact .tail _ (.tail _ (.tail _ (.tail _ (.head _))))
            · exact .tail _ (.tail _ (.tail _ (.tail _ (.tail _ q))))
    refine ret x dx des n' tc' ko' ta h' tk' F' (newsSub N' sub) ?_ l4 l5 (K.mono ?_) D
    · intro p hp
      by_cases e : p.1 = td
      · rw [e]; exact l2
      · by_cases e' : p.1 = kd
        · rw [e']; exact l3
        · exact l1 p (mem_apart.mpr ⟨hp, e, e'⟩)
    · intro p hp
      rcases List.mem_cons.mp hp with rfl | hp
      · exact .head _
      · exact .tail _ (mem_apart.mp hp).1

theorem ln_p55_newU_0 : True := by
  k_with "call ref" => (k_here; k_dflt (refine' new_aU ?zzB ?zzF ?zzX ?zzT ?zzK ?zzN ?zzU ?zzt ?zzz ?zzd ?zzu ?_; (case zzB => k_asm); (case zzF => k_asm); (case zzX => k_asm); (case zzT => k_asm); (case zzK => first | exact rfl | assumption); (case zzN => k_asm); (case zzt => k_mem); (case zzU => k_updF); (case zzz => first | exact Nat.le_of_ble_eq_true rfl | omega); (case zzd => ktr_room); (case zzu => ktr_units); k_whole; intro x' dx' des' n' tc' h' tk' F' N' l1w l2w D'; (try k_lt l1w); (try k_lt2 l2w); (try k_sweep); (try dsimp only at N'); (try dsimp only)))
  k_with "call ref" => (k_here; k_dflt (refine' new_bU ?zzB ?zzF ?zzX ?zzT ?zzK ?zzN ?zzU ?zzV ?zzt ?zzn ?zzz ?zzl ?zzk ?zzs ?zzj ?zzd ?zzu ?_; (case zzB => k_asm); (case zzF => k_asm); (case zzX => k_asm); (case zzT => k_asm); (case zzK => first | exact rfl | assumption); (case zzN => k_asm); (case zzt => k_mem); (case zzU => k_updF); (case zzV => intro o9; (try dsimp only); k_updF); (case zzn => (try dsimp only); omega); (case zzz => first | exact Nat.le_of_ble_eq_true rfl | omega); (case zzl => first | assumption | rfl | decide +kernel); (case zzk => assumption); (case zzs => (repeat (first | exact SubK.nil | with_reducible assumption | (refine' SubK.cons ?zza ?_; (case zza => k_mem)) | refine' SubK.tail ?_))); (case zzj => exact Nat.le_of_ble_eq_true rfl); (case zzd => ktr_room); (case zzu => ktr_units); k_whole; intro x' dx' des' n' tc' ko' ta' h' tk' F' N' l1w l2w l3w K' D'; (try k_lt l1w); (try k_lt2 l2w); (try k_lt2 l3w); (try k_sweep); (try dsimp only at N' K'); (try dsimp only)))
  trivial

/-- what the types' dict answers for nil and for new, whatever its counter -/
def NilAt (tl : List DictEntry) (nl : Addr) : Prop :=
  ∀ hc kc c tc hk' kk kd, getL (Str.ofString "nil") (cEnt hc kc c tc :: kEnt hk' kk kd :: tl) = some (some (.ref nl)) ∧ getL (Str.ofString "new") (cEnt hc kc c tc :: kEnt hk' kk kd :: tl) = some none

section
variable {w : World} {A : Around} {h₀ : Heap} {L : Addr} {m : Str → Option Value} {big : List (Addr × Obj)} {s : Shared} {E : Value → Shared → Prop} {ts td kd nl : Addr} {hc hk' c : Int} {kc tc kk : Tok} {tl : List DictEntry} {n : Nat} {expr : Bool}
theorem getNil {Q : Value → Shared → Prop} (F : Fr h₀ L s.heap m) (X₀ : (KK w.params).In h₀) (N : News h₀ L s.heap big) (h1 : (ts, instObj 245 td) ∈ big) (h2 : (td, dictOf (cEnt hc kc c tc :: kEnt hk' kk kd :: tl) n) ∈ big) (hn : NilAt tl nl)
    (hg : plainGet (KK w.params) 245 (Str.ofString "nil") = true) (hh : hasDictIn (KK w.params) 245 = true) (ha : findIn (KK w.params) (.ref 245) (Str.ofString "nil") = some none)
    (h : Q (.ref nl) { s with toks := s.toks + 1 }) : wpAny (model PG w) A (getAttr (.ref ts) (Str.ofString "nil") expr) Q E s :=
  get_own F X₀ (InstAt.of_news N h1 h2) hg hh ha rfl (hn _ _ _ _ _ _ _).1 rfl h
theorem getNew {pl : Sem Bool} {f : Addr} {Q : Value × List Value → Shared → Prop} (F : Fr h₀ L s.heap m) (X₀ : (KK w.params).In h₀) (N : News h₀ L s.heap big) (h1 : (ts, instObj 245 td) ∈ big) (h2 : (td, dictOf (cEnt hc kc c tc :: kEnt hk' kk kd :: tl) n) ∈ big) (hn : NilAt tl nl)
    (hg : plainGet (KK w.params) 245 (Str.ofString "new") = true) (hf : findIn (KK w.params) (.ref 245) (Str.ofString "new") = some (some (.ref f))) (ht : isFn (KK w.params) (.ref f) = true)
    (h : Q (.ref f, [.ref ts]) s) : wpAny (model PG w) A (getMethod (.ref ts) (Str.ofString "new") pl) Q E s :=
  method_inst F X₀ (InstAt.of_news N h1 h2) hg hf ht (hn _ _ _ _ _ _ _).2 h
end

theorem ln_p57_types_0 : True := by
  k_with "getAttr ref" => (k_here; (with_reducible show wpAny _ _ (getAttr (Value.ref _) (PySem.Str.ofString "nil") _) _ _ _); k_dflt (refine' getNil ?zzF ?zzX ?zzN ?zzx ?zzy ?zzz ?zza ?zzb ?zzc ?_; (case zzF => k_asm); (case zzX => k_asm); (case zzN => k_asm); (case zzx => k_mem); (case zzy => k_mem); (case zzz => assumption); (case zza => k_is); (case zzb => k_is); (case zzc => k_is); k_whole; (try dsimp only)))
  k_with "getMethod ref" => (k_here; (with_reducible show wpAny _ _ (getMethod (Value.ref _) (PySem.Str.ofString "new") _) _ _ _); k_dflt (refine' getNew ?zzF ?zzX ?zzN ?zzx ?zzy ?zzz ?zza ?zzb ?zzc ?_; (case zzF => k_asm); (case zzX => k_asm); (case zzN => k_asm); (case zzx => k_mem); (case zzy => k_mem); (case zzz => assumption); (case zza => k_is); (case zzb => k_is); (case zzc => k_is); k_whole; (try dsimp only)))
  trivial

theorem newsSub5 {h₀ h : Heap} {L : Addr} {news big : List (Addr × Obj)} {p1 p2 p3 p4 p5 : Addr × Obj} (N : News h₀ L h big) (h1 : p1 ∈ big) (h2 : p2 ∈ big) (h3 : p3 ∈ big) (h4 : p4 ∈ big) (h5 : p5 ∈ big) (hs : ∀ p ∈ news, p ∈ big) : News h₀ L h (p1 :: p2 :: p3 :: p4 :: p5 :: news) := by
  intro p hp
  simp only [List.mem_cons] at hp
  rcases hp with rfl | rfl | rfl | rfl | rfl | hp
  · exact N _ h1
  · exact N _ h2
  · exact N _ h3
  · exact N _ h4
  · exact N _ h5
  · exact N _ (hs _ hp)

set_option maxRecDepth 100000 in
set_option maxHeartbeats 8000000 in
theorem mk_types {w : World} {mean : ExcName → Option Value} {mg mb : Str → Option Value} {dp un : Nat} {gd : Option (List Code)} {cn : Str} {cs : Scope} {a : Addr} {ccd : Value} {cl : List (Str × Addr)} {outer : List Env} {A₀ : Around} {base h₀ : Heap} {L : Addr} {m : Str → Option Value} {news : List (Addr × Obj)} {s : Shared} {Q E : Value → Shared → Prop}
    (B : Below A₀ base outer h₀) (F : Fr h₀ L s.heap m) (X : (KK w.params).In h₀) (T : Top VW LO mean mg mb h₀) (hk : cs.kind = .function) (N : News h₀ L s.heap news) (hdp : dp + 20 < recursionLimit) (hu : un + 1600 < cLine)
    (ret : ∀ ts td kd nl dnl hc hk' kc tc kk tl n ko des n' h' tk', Fr h₀ L h' m → News h₀ L h' ((td, dictOf (cEnt hc kc (0 + 1 + 1 + 1 + 1 + 1 + 1 + 1) tc :: kEnt hk' kk kd :: tl) n) :: (kd, ko) :: (ts, instObj 245 td) :: (nl, instObj 188 dnl) :: (dnl, dictOf des n') :: news) →
      AllLt td news → @LT.lt Nat _ td ts → @LT.lt Nat _ ts kd → @LT.lt Nat _ kd dnl → @LT.lt Nat _ dnl nl → tl.length ≤ 10 → NilAt tl nl → KOk w [] ko 0 → TyD des (0 + 1 + 1 + 1 + 1 + 1 + 1) (Str.ofString "nil") .none → Q (.ref ts) { s with heap := h', toks := tk' }) :
    wpAny (model PG w) (ktrTop dp un gd cn cs L a ccd cl outer) (call (.ref 245) []) Q E s := by
  w_on
  k_dflt (refine' call_cls ?k1 ?k2 ?k3 ?k4 ?k5 ?k6 ?_; (case k1 => k_asm); (case k2 => k_asm); (case k3 => k_asm); (case k4 => k_is); (case k5 => k_is); (case k6 => k_is); k_whole; intro x' d' h' F' N' l1 l2; (try k_lt l1); (try k_lt2 l2); (try k_sweep); ktr_enter)
  k_steps
  k_dflt (refine' ret _ _ _ _ _ _ _ _ _ _ _ _ _ _ _ _ _ ?F (newsSub5 ?N ?h1 ?h2 ?h3 ?h4 ?h5 ?hs) ?o1 ?o2 ?o3 ?o4 ?o5 ?z ?nil ?K ?D)
  (case N => k_asm)
  (case F => k_asm)
  (case h3 => k_mem)
  (case h1 => k_mem)
  (case z => exact Nat.le_of_ble_eq_true rfl)
  (case D => with_reducible assumption)
  (case h5 => k_mem)
  (case h4 => k_mem)
  (case nil => exact fun _ _ _ _ _ _ _ => ⟨rfl, rfl⟩)
  (case h2 => k_mem)
  (case hs => k_sub)
  (case K => exact KOk.start (by assumption))
  (case o1 => exact allLt_of l1)
  (case o2 => assumption)
  (case o3 => omega)
  (case o4 => omega)
  (case o5 => assumption)

theorem ln_p57_types_1 : True := by
  k_with "call ref" => (k_here; k_dflt (refine' mk_types ?zzB ?zzF ?zzX ?zzT ?zzK ?zzN ?zzd ?zzu ?_; (case zzB => k_asm); (case zzF => k_asm); (case zzX => k_asm); (case zzT => k_asm); (case zzK => first | exact rfl | assumption); (case zzN => k_asm); (case zzd => ktr_room); (case zzu => ktr_units); k_whole; intro ts' td' kd' nl' dnl' hc' hk' kc' tc' kk' tl' n' ko' des' m' h' tk' F' N' l1w l2w l3w l4w l5w hz' hnil' K' D'; (try simp only [AllLt, and_true] at l1w); (try k_lt2 l2w); (try k_lt2 l3w); (try k_lt2 l4w); (try k_lt2 l5w); (try k_sweep); (try dsimp only)))
  trivial

theorem item_lit {w : World} {A : Around} {E : Value → Shared → Prop} {Q : Value → Shared → Prop} {s : Shared} {h₀ : Heap} {L row : Addr} {big : List (Addr × Obj)} {ws : List Value} {n1 : Nat} {value slice : PySem.Expr} {k : Int} {u : Tok} {v : Value}
    (N : News h₀ L s.heap big) (h1 : (row, W.listOf ws.toArray n1) ∈ big) (h0 : 0 ≤ k) (hk : k < 2 ^ 63) (e : ws[k.toNat]? = some v) (h : Q v s)
    (hs : subscripted slice false (.ref row) (.int k u) = operate [.ref row, .int k u] (getItem (.ref row) (.int k u)) := by with_unfolding_all rfl) :
    wpAny (model PG w) A (subscriptTail value slice (.ref row) (.int k u)) Q E s := by
  have hl := N.isList h1
  exact tail_any hl.typeIs slot_list_getitem.lookup (wpAny_getItem_list hl h0 hk (by simpa using e) h) hs

theorem ln_p58_tail_0 : True := by
  k_with "subscriptTail Name BinOp ref int" => (k_here; (with_reducible show wpAny _ _ (subscriptTail _ _ (Value.ref _) (Value.int _ _)) _ _ _); k_dflt (refine' item_lit ?zzk1 ?zzk2 ?zzk4 ?zzk5 ?zzk6 ?_; (case zzk1 => k_asm); (case zzk2 => k_mem); (case zzk4 => decide); (case zzk5 => decide); (case zzk6 => exact rfl); k_whole))
  trivial

/-- a node's object, as the ledger bears it -/
def NodeAt (news : List (Addr × Obj)) (a : Addr) (op : Str) (ty kl : Addr) (val : Value) : Prop :=
  ∃ d es n, (a, instObj 32 d) ∈ news ∧ (d, dictOf es n) ∈ news ∧ (∃ t, getL (Str.ofString "op") es = some (some (.str op t)))
    ∧ getL (Str.ofString "type") es = some (some (.ref ty)) ∧ getL (Str.ofString "kids") es = some (some (.ref kl)) ∧ getL (Str.ofString "value") es = some (some val)
theorem NodeAt.mono {news news' : List (Addr × Obj)} {a ty kl : Addr} {op : Str} {val : Value} (h : NodeAt news a op ty kl val) (hs : ∀ p ∈ news, p ∈ news') : NodeAt news' a op ty kl val := by
  obtain ⟨d, es, n, h1, h2, h3⟩ := h
  exact ⟨d, es, n, hs _ h1, hs _ h2, h3⟩
/-- a name's object (Obj): its kind, type, readonly -/
def ObjAt (news : List (Addr × Obj)) (a : Addr) (knd : Str) (ty : Addr) (ro : Bool) : Prop :=
  ∃ d es n, (a, instObj 209 d) ∈ news ∧ (d, dictOf es n) ∈ news ∧ (∃ t, getL (Str.ofString "kind") es = some (some (.str knd t)))
    ∧ getL (Str.ofString "type") es = some (some (.ref ty)) ∧ getL (Str.ofString "readonly") es = some (some (.bool ro))
theorem ObjAt.mono {news news' : List (Addr × Obj)} {a ty : Addr} {knd : Str} {ro : Bool} (h : ObjAt news a knd ty ro) (hs : ∀ p ∈ news, p ∈ news') : ObjAt news' a knd ty ro := by
  obtain ⟨d, es, n, h1, h2, h3⟩ := h
  exact ⟨d, es, n, hs _ h1, hs _ h2, h3⟩

section
variable {w : World} {A : Around} {h₀ : Heap} {L : Addr} {m : Str → Option Value} {news big : List (Addr × Obj)} {s : Shared} {Q : Value → Shared → Prop} {E : Value → Shared → Prop}
  {x ty kl : Addr} {op knd : Str} {val : Value} {ro expr : Bool}
theorem getN_op (F : Fr h₀ L s.heap m) (X₀ : (KK w.params).In h₀) (N : News h₀ L s.heap big) (T : NodeAt news x op ty kl val) (hs : ∀ p ∈ news, p ∈ big)
    (hg : plainGet (KK w.params) 32 (Str.ofString "op") = true) (hh : hasDictIn (KK w.params) 32 = true)
    (ha : findIn (KK w.params) (.ref 32) (Str.ofString "op") = some none)
    (h : ∀ t, Q (.str op t) { s with toks := s.toks + 1 }) : wpAny (model PG w) A (getAttr (.ref x) (Str.ofString "op") expr) Q E s := by
  obtain ⟨d, es, n, h1, h2, ⟨t, h3⟩, -⟩ := T
  exact get_own F X₀ (InstAt.of_news N (hs _ h1) (hs _ h2)) hg hh ha rfl h3 rfl (h t)
theorem getN_type (F : Fr h₀ L s.heap m) (X₀ : (KK w.params).In h₀) (N : News h₀ L s.heap big) (T : NodeAt news x op ty kl val) (hs : ∀ p ∈ news, p ∈ big)
    (hg : plainGet (KK w.params) 32 (Str.ofString "type") = true) (hh : hasDictIn (KK w.params) 32 = true)
    (ha : findIn (KK w.params) (.ref 32) (Str.ofString "type") = some none)
    (h : Q (.ref ty) { s with toks := s.toks + 1 }) : wpAny (model PG w) A (getAttr (.ref x) (Str.ofString "type") expr) Q E s := by
  obtain ⟨d, es, n, h1, h2, -, h3, -⟩ := T
  exact get_own F X₀ (InstAt.of_news N (hs _ h1) (hs _ h2)) hg hh ha rfl h3 rfl h
theorem getN_kids (F : Fr h₀ L s.heap m) (X₀ : (KK w.params).In h₀) (N : News h₀ L s.heap big) (T : NodeAt news x op ty kl val) (hs : ∀ p ∈ news, p ∈ big)
    (hg : plainGet (KK w.params) 32 (Str.ofString "kids") = true) (hh : hasDictIn (KK w.params) 32 = true)
    (ha : findIn (KK w.params) (.ref 32) (Str.ofString "kids") = some none)
    (h : Q (.ref kl) { s with toks := s.toks + 1 }) : wpAny (model PG w) A (getAttr (.ref x) (Str.ofString "kids") expr) Q E s := by
  obtain ⟨d, es, n, h1, h2, -, -, h3, -⟩ := T
  exact get_own F X₀ (InstAt.of_news N (hs _ h1) (hs _ h2)) hg hh ha rfl h3 rfl h
theorem getN_value (F : Fr h₀ L s.heap m) (X₀ : (KK w.params).In h₀) (N : News h₀ L s.heap big) (T : NodeAt news x op ty kl val) (hs : ∀ p ∈ news, p ∈ big)
    (hg : plainGet (KK w.params) 32 (Str.ofString "value") = true) (hh : hasDictIn (KK w.params) 32 = true)
    (ha : findIn (KK w.params) (.ref 32) (Str.ofString "value") = some none) (hv : handedIn val = true)
    (h : Q val { s with toks := s.toks + 1 }) : wpAny (model PG w) A (getAttr (.ref x) (Str.ofString "value") expr) Q E s := by
  obtain ⟨d, es, n, h1, h2, -, -, -, h3⟩ := T
  exact get_own F X₀ (InstAt.of_news N (hs _ h1) (hs _ h2)) hg hh ha rfl h3 hv h
theorem getO_kind (F : Fr h₀ L s.heap m) (X₀ : (KK w.params).In h₀) (N : News h₀ L s.heap big) (T : ObjAt news x knd ty ro) (hs : ∀ p ∈ news, p ∈ big)
    (hg : plainGet (KK w.params) 209 (Str.ofString "kind") = true) (hh : hasDictIn (KK w.params) 209 = true)
    (ha : findIn (KK w.params) (.ref 209) (Str.ofString "kind") = some none)
    (h : ∀ t, Q (.str knd t) { s with toks := s.toks + 1 }) : wpAny (model PG w) A (getAttr (.ref x) (Str.ofString "kind") expr) Q E s := by
  obtain ⟨d, es, n, h1, h2, ⟨t, h3⟩, -⟩ := T
  exact get_own F X₀ (InstAt.of_news N (hs _ h1) (hs _ h2)) hg hh ha rfl h3 rfl (h t)
theorem getO_type (F : Fr h₀ L s.heap m) (X₀ : (KK w.params).In h₀) (N : News h₀ L s.heap big) (T : ObjAt news x knd ty ro) (hs : ∀ p ∈ news, p ∈ big)
    (hg : plainGet (KK w.params) 209 (Str.ofString "type") = true) (hh : hasDictIn (KK w.params) 209 = true)
    (ha : findIn (KK w.params) (.ref 209) (Str.ofString "type") = some none)
    (h : Q (.ref ty) { s with toks := s.toks + 1 }) : wpAny (model PG w) A (getAttr (.ref x) (Str.ofString "type") expr) Q E s := by
  obtain ⟨d, es, n, h1, h2, -, h3, -⟩ := T
  exact get_own F X₀ (InstAt.of_news N (hs _ h1) (hs _ h2)) hg hh ha rfl h3 rfl h
theorem getO_readonly (F : Fr h₀ L s.heap m) (X₀ : (KK w.params).In h₀) (N : News h₀ L s.heap big) (T : ObjAt news x knd ty ro) (hs : ∀ p ∈ news, p ∈ big)
    (hg : plainGet (KK w.params) 209 (Str.ofString "readonly") = true) (hh : hasDictIn (KK w.params) 209 = true)
    (ha : findIn (KK w.params) (.ref 209) (Str.ofString "readonly") = some none)
    (h : Q (.bool ro) { s with toks := s.toks + 1 }) : wpAny (model PG w) A (getAttr (.ref x) (Str.ofString "readonly") expr) Q E s := by
  obtain ⟨d, es, n, h1, h2, -, -, h3⟩ := T
  exact get_own F X₀ (InstAt.of_news N (hs _ h1) (hs _ h2)) hg hh ha rfl h3 rfl h
end

theorem ln_p60_chain_0 : True := by
  k_with "getAttr ref" => (k_here; (with_reducible show wpAny _ _ (getAttr (Value.ref _) (PySem.Str.ofString "op") _) _ _ _); k_dflt (refine' getN_op ?zzF ?zzX ?zzN ?zzT ?zzs ?zzg ?zzd ?zza ?_; (case zzT => assumption); (case zzF => k_asm); (case zzX => k_asm); (case zzN => k_asm); (case zzs => k_sub); (case zzg => k_is); (case zzd => k_is); (case zza => k_is); k_whole; intro t'; (try dsimp only)))
  k_with "getAttr ref" => (k_here; (with_reducible show wpAny _ _ (getAttr (Value.ref _) (PySem.Str.ofString "type") _) _ _ _); k_dflt (refine' getN_type ?zzF ?zzX ?zzN ?zzT ?zzs ?zzg ?zzd ?zza ?_; (case zzT => assumption); (case zzF => k_asm); (case zzX => k_asm); (case zzN => k_asm); (case zzs => k_sub); (case zzg => k_is); (case zzd => k_is); (case zza => k_is); k_whole; (try dsimp only)))
  k_with "getAttr ref" => (k_here; (with_reducible show wpAny _ _ (getAttr (Value.ref _) (PySem.Str.ofString "kids") _) _ _ _); k_dflt (refine' getN_kids ?zzF ?zzX ?zzN ?zzT ?zzs ?zzg ?zzd ?zza ?_; (case zzT => assumption); (case zzF => k_asm); (case zzX => k_asm); (case zzN => k_asm); (case zzs => k_sub); (case zzg => k_is); (case zzd => k_is); (case zza => k_is); k_whole; (try dsimp only)))
  k_with "getAttr ref" => (k_here; (with_reducible show wpAny _ _ (getAttr (Value.ref _) (PySem.Str.ofString "value") _) _ _ _); k_dflt (refine' getN_value ?zzF ?zzX ?zzN ?zzT ?zzs ?zzg ?zzd ?zza ?zzv ?_; (case zzT => assumption); (case zzF => k_asm); (case zzX => k_asm); (case zzN => k_asm); (case zzs => k_sub); (case zzg => k_is); (case zzd => k_is); (case zza => k_is); (case zzv => first | assumption | exact rfl); k_whole; (try dsimp only)))
  k_with "getAttr ref" => (k_here; (with_reducible show wpAny _ _ (getAttr (Value.ref _) (PySem.Str.ofString "kind") _) _ _ _); k_dflt (refine' getO_kind ?zzF ?zzX ?zzN ?zzT ?zzs ?zzg ?zzd ?zza ?_; (case zzT => assumption); (case zzF => k_asm); (case zzX => k_asm); (case zzN => k_asm); (case zzs => k_sub); (case zzg => k_is); (case zzd => k_is); (case zza => k_is); k_whole; intro t'; (try dsimp only)))
  k_with "getAttr ref" => (k_here; (with_reducible show wpAny _ _ (getAttr (Value.ref _) (PySem.Str.ofString "type") _) _ _ _); k_dflt (refine' getO_type ?zzF ?zzX ?zzN ?zzT ?zzs ?zzg ?zzd ?zza ?_; (case zzT => assumption); (case zzF => k_asm); (case zzX => k_asm); (case zzN => k_asm); (case zzs => k_sub); (case zzg => k_is); (case zzd => k_is); (case zza => k_is); k_whole; (try dsimp only)))
  k_with "getAttr ref" => (k_here; (with_reducible show wpAny _ _ (getAttr (Value.ref _) (PySem.Str.ofString "readonly") _) _ _ _); k_dflt (refine' getO_readonly ?zzF ?zzX ?zzN ?zzT ?zzs ?zzg ?zzd ?zza ?_; (case zzT => assumption); (case zzF => k_asm); (case zzX => k_asm); (case zzN => k_asm); (case zzs => k_sub); (case zzg => k_is); (case zzd => k_is); (case zza => k_is); k_whole; (try dsimp only)))
  trivial

/-- a node of the law: whether its type is a record, its level, the level of the place, whether the place is read-only; the guards on it -/
inductive Nd (news : List (Addr × Obj)) (R P : Nat → Addr) : Addr → Bool → Nat → Nat → Bool → Nat → Prop
  | var {x kl one ty : Addr} {knd : Str} {rec ro : Bool} {l : Nat} : l < 3 → NodeAt news x (Str.ofString "var") (tyA R P rec l) kl (.ref one) → ObjAt news one knd ty ro → Nd news R P x rec l l ro 0
  | deref {x kl : Addr} {l p : Nat} : l < 3 → NodeAt news x (Str.ofString "deref") (tyA R P true l) kl .none → Nd news R P x true l p false 0
  | guard {x y kl : Addr} {val : Value} {rec ro : Bool} {l l' p n kn : Nat} : l < 3 → NodeAt news x (Str.ofString "guard") (tyA R P rec l) kl val → (kl, W.listOf [Value.ref y].toArray kn) ∈ news → Nd news R P y rec l' p ro n → Nd news R P x rec l p ro (n + 1)
theorem Nd.mono {news news' : List (Addr × Obj)} {R P : Nat → Addr} {x : Addr} {rec ro : Bool} {l p n : Nat} (h : Nd news R P x rec l p ro n) (hs : ∀ p ∈ news, p ∈ news') : Nd news' R P x rec l p ro n := by
  induction h with
  | var a b c => exact .var a (b.mono hs) (c.mono hs)
  | deref a b => exact .deref a (b.mono hs)
  | guard a b c _ ih => exact .guard a (b.mono hs) (hs _ c) ih

theorem item_memb {w : World} {A : Around} {E : Value → Shared → Prop} {Q : Value → Shared → Prop} {s : Shared} {h₀ : Heap} {L row : Addr} {news big : List (Addr × Obj)} {ws : List Value} {n1 : Nat} {value slice : PySem.Expr} {k : Int} {u : Tok} {v : Value}
    (h1 : (row, W.listOf ws.toArray n1) ∈ news) (N : News h₀ L s.heap big) (hb : ∀ p ∈ news, p ∈ big) (h0 : 0 ≤ k) (hk : k < 2 ^ 63) (e : ws[k.toNat]? = some v) (h : Q v s)
    (hs : subscripted slice false (.ref row) (.int k u) = operate [.ref row, .int k u] (getItem (.ref row) (.int k u)) := by with_unfolding_all rfl) :
    wpAny (model PG w) A (subscriptTail value slice (.ref row) (.int k u)) Q E s := by
  have hl := N.isList (hb _ h1)
  exact tail_any hl.typeIs slot_list_getitem.lookup (wpAny_getItem_list hl h0 hk (by simpa using e) h) hs

theorem ln_p60_chain_1 : True := by
  k_with "subscriptTail Attribute Name" => (k_here; (with_reducible show wpAny _ _ (subscriptTail _ _ (Value.ref _) (Value.int _ _)) _ _ _); k_dflt (refine' item_memb ?zzk2 ?zzk1 ?zzs ?zzk4 ?zzk5 ?zzk6 ?_; (case zzk2 => assumption); (case zzk1 => k_asm); (case zzs => k_sub); (case zzk4 => decide); (case zzk5 => decide); (case zzk6 => exact rfl); k_whole))
  k_with "exec While Compare cons nil" => (k_here; (with_reducible show wpAny _ _ (exec (Stmt.While (Expr.Compare (Expr.Attribute _ _ _) _ _ _) _ _ _) _) _ _ _); k_dflt (refine whl_start 100 ?_))
  k_with "exec While BoolOp cons nil" => (k_here; (with_reducible show wpAny _ _ (exec (Stmt.While (Expr.BoolOp _ _ _) _ _ _) _) _ _ _); k_dflt (refine whl_start 100 ?_))
  trivial

/-- the map of a frame with the names written over it -/
noncomputable def ov : List (Str × Value) → (Str → Option Value) → Str → Option Value
  | [], m => m
  | p :: r, m => fun y => if y = p.1 then some p.2 else ov r m y
theorem ov_self {m : Str → Option Value} : ∀ {l : List (Str × Value)}, (∀ p ∈ l, m p.1 = some p.2) → ov l m = m
  | [], _ => rfl
  | p :: r, h => by
    have ih := ov_self (m := m) (l := r) fun q hq => h q (.tail _ hq)
    funext y
    unfold ov
    by_cases e : y = p.1
    · rw [if_pos e, e, h p (.head _)]
    · rw [if_neg e, ih]
theorem frOv {h₀ h : Heap} {L : Addr} {m : Str → Option Value} {l : List (Str × Value)} (F : Fr h₀ L h m) (e : ∀ p ∈ l, m p.1 = some p.2) : Fr h₀ L h (Mine.ov l m) := by rw [ov_self e]; exact F

/-- the turns that are left are fewer -/
def Less (J : Nat → Shared → Prop) (n : Nat) (s : Shared) : Prop := ∃ n', n' < n ∧ J n' s
theorem whl_ind {prog : Program} {w : World} {A : Around} {E : Value → Shared → Prop} {env : Env} {test : PySem.Expr} {body orelse : List Stmt} {Q : Flow → Shared → Prop} {k : Nat} (J : Nat → Shared → Prop)
    (turn : ∀ n s, (∀ s', Less J n s' → WhlRest prog w A E env test body orelse Q k s') → J n s → WhlRest prog w A E env test body orelse Q (k + 1) s) (n : Nat) : ∀ s, J n s → WhlRest prog w A E env test body orelse Q k s := by
  induction n using Nat.strongRecOn with
  | ind n ih => exact fun s j => turn n s (fun s' h => let ⟨n', hl, j'⟩ := h; ih n' hl s' j') j

theorem ln_p60_chain_2 : True := by
  k_with "WhlRest" => ((rename (∀ s', Less _ _ s' → WhlRest _ _ _ _ _ _ _ _ _ _ s') => IH9); refine IH9 _ ?_)
  trivial

theorem Tys.formR {news : List (Addr × Obj)} {R P : Nat → Addr} (h : Tys news R P) {i : Nat} (hi : i < 3) : ∃ b, handedIn b = true ∧ TyAt news (tyA R P true i) (tyN true i) (Str.ofString "record") b := h.at true hi
theorem Tys.formP {news : List (Addr × Obj)} {R P : Nat → Addr} (h : Tys news R P) {i : Nat} (hi : i < 3) : ∃ b, handedIn b = true ∧ TyAt news (tyA R P false i) (tyN false i) (Str.ofString "pointer") b := h.at false hi

set_option maxRecDepth 100000 in
set_option maxHeartbeats 8000000 in
theorem desig_ok {w : World} {mean : ExcName → Option Value} {mg mb : Str → Option Value} {dp un : Nat} {gd : Option (List Code)} {cn : Str} {cs : Scope} {a : Addr} {ccd : Value} {cl : List (Str × Addr)} {outer : List Env} {A₀ : Around} {base h₀ : Heap} {L : Addr} {m : Str → Option Value} {news : List (Addr × Obj)} {s : Shared} {Q E : Value → Shared → Prop} {R P : Nat → Addr} {x : Addr} {rec ro : Bool} {l p n : Nat}
    (B : Below A₀ base outer h₀) (F : Fr h₀ L s.heap m) (X : (KK w.params).In h₀) (T : Top VW LO mean mg mb h₀) (hk : cs.kind = .function) (N : News h₀ L s.heap news) (hN : Nd news R P x rec l p ro n) (hn : n ≤ 3) (hdp : dp + 1 < recursionLimit) (hu : un + 400 < cLine)
    (ret : ∀ h' tk', Fr h₀ L h' m → News h₀ L h' news → Q (.bool true) { s with heap := h', toks := tk' }) :
    wpAny (model PG w) (ktrTop dp un gd cn cs L a ccd cl outer) (call (.ref 43) [.ref x]) Q E s := by
  w_on
  refine wpAny_call ?_
  k_dflt (refine' code_def ?k1 ?k2 ?k3 ?k4 ?k5 ?kA ?kF ?kK ?k6 ?k7 ?k8 ?k9 ?kB ?_ ?c2 ?c3 ?c4 ?c5; (case kA => exact rfl); (case kF => exact rfl); (case kK => assumption); (case k1 => k_asm); (case k2 => k_asm); (case k3 => k_asm); (case k4 => k_asm); (case k5 => k_asm); (case k6 => k_is); (case k7 => k_is); (case k8 => ktr_room); (case k9 => exact BindsTo.of_eq rfl); (case c5 => decide); (case kB => exact locs rfl); (case c2 => exact rfl); (case c3 => exact rfl); (case c4 => exact rfl); k_whole)
  intro g L' h1 FG F1 N1 B1 X1 T1
  (try dsimp only); (try k_fold)
  refine wpAny_execs_cons ?_
  (try dsimp only)
  k_dflt (refine whl_start 5 ?_)
  refine whl_ind (fun n' s' => ∃ h tk x' l mm, s' = { s with heap := h, toks := tk } ∧ Fr g L' h (ov [(Str.ofString "node", .ref x')] mm) ∧ News g L' h news ∧ Nd news R P x' rec l p ro n') ?_ n _ ⟨_, _, x, _, _, rfl, frOv F1 (List.forall_mem_cons.mpr ⟨rfl, List.forall_mem_nil _⟩), N1, hN⟩
  rintro n' s' IH ⟨h, tk, x', l', mm, rfl, F2, N2, hN2⟩
  clear F1 N1 hN
  simp only [ov] at F2
  refine' whl_turn ?hE ?_
  (case hE => first | passes_own | with_unfolding_all passes_own)
  cases hN2 with
  | var a b c =>
    k_steps
    exact ret _ _ (by k_asm) (newsSub (by k_asm) (by k_sub))
  | deref a b =>
    k_steps
    exact ret _ _ (by k_asm) (newsSub (by k_asm) (by k_sub))
  | guard a b c d =>
    k_steps
    exact ⟨_, Nat.lt_succ_self _, _, _, _, _, _, rfl, frOv (by k_asm) (List.forall_mem_cons.mpr ⟨rfl, List.forall_mem_nil _⟩), newsSub (by k_asm) (by k_sub), d⟩

set_option maxRecDepth 100000 in
set_option maxHeartbeats 8000000 in
theorem root_ok {w : World} {mean : ExcName → Option Value} {mg mb : Str → Option Value} {dp un : Nat} {gd : Option (List Code)} {cn : Str} {cs : Scope} {a : Addr} {ccd : Value} {cl : List (Str × Addr)} {outer : List Env} {A₀ : Around} {base h₀ : Heap} {L : Addr} {m : Str → Option Value} {news : List (Addr × Obj)} {s : Shared} {Q E : Value → Shared → Prop} {R P : Nat → Addr} {x : Addr} {rec ro : Bool} {l p n : Nat}
    (B : Below A₀ base outer h₀) (F : Fr h₀ L s.heap m) (X : (KK w.params).In h₀) (T : Top VW LO mean mg mb h₀) (hk : cs.kind = .function) (N : News h₀ L s.heap news) (hN : Nd news R P x rec l p ro n) (hdp : dp + 1 < recursionLimit) (hu : un + 200 < cLine)
    (ret1 : ∀ one knd ty h' tk', ObjAt news one knd ty ro → Fr h₀ L h' m → News h₀ L h' news → Q (.ref one) { s with heap := h', toks := tk' })
    (ret2 : ∀ h' tk', ro = false → Fr h₀ L h' m → News h₀ L h' news → Q .none { s with heap := h', toks := tk' }) :
    wpAny (model PG w) (ktrTop dp un gd cn cs L a ccd cl outer) (call (.ref 50) [.ref x]) Q E s := by
  w_on
  refine wpAny_call ?_
  k_dflt (refine' code_def ?k1 ?k2 ?k3 ?k4 ?k5 ?kA ?kF ?kK ?k6 ?k7 ?k8 ?k9 ?kB ?_ ?c2 ?c3 ?c4 ?c5; (case kA => exact rfl); (case kF => exact rfl); (case kK => assumption); (case k1 => k_asm); (case k2 => k_asm); (case k3 => k_asm); (case k4 => k_asm); (case k5 => k_asm); (case k6 => k_is); (case k7 => k_is); (case k8 => ktr_room); (case k9 => exact BindsTo.of_eq rfl); (case c5 => decide); (case kB => exact locs rfl); (case c2 => exact rfl); (case c3 => exact rfl); (case c4 => exact rfl); k_whole)
  intro g L' h1 FG F1 N1 B1 X1 T1
  (try dsimp only); (try k_fold)
  refine wpAny_execs_cons ?_
  (try dsimp only)
  k_dflt (refine whl_start 5 ?_)
  refine whl_ind (fun n' s' => ∃ h tk x' l mm, s' = { s with heap := h, toks := tk } ∧ Fr g L' h (ov [(Str.ofString "node", .ref x')] mm) ∧ News g L' h news ∧ Nd news R P x' rec l p ro n') ?_ n _ ⟨_, _, x, _, _, rfl, frOv F1 (List.forall_mem_cons.mpr ⟨rfl, List.forall_mem_nil _⟩), N1, hN⟩
  rintro n' s' IH ⟨h, tk, x', l', mm, rfl, F2, N2, hN2⟩
  clear F1 N1 hN
  simp only [ov] at F2
  refine' whl_turn ?hE ?_
  (case hE => first | passes_own | with_unfolding_all passes_own)
  cases hN2 with
  | var a b c =>
    k_steps
    exact ret1 _ _ _ _ _ c (by k_asm) (newsSub (by k_asm) (by k_sub))
  | deref a b =>
    k_steps
    exact ret2 _ _ rfl (by k_asm) (newsSub (by k_asm) (by k_sub))
  | guard a b c d =>
    k_steps
    exact ⟨_, Nat.lt_succ_self _, _, _, _, _, _, rfl, frOv (by k_asm) (List.forall_mem_cons.mpr ⟨rfl, List.forall_mem_nil _⟩), newsSub (by k_asm) (by k_sub), d⟩

theorem ln_p61_ro_0 : True := by
  k_with "call ref" => (k_here; k_dflt (refine' root_ok ?zzB ?zzF ?zzX ?zzT ?zzK ?zzN ?zzhN ?zzd ?zzu ?_ ?_; (case zzN => k_asm); (case zzhN => exact Nd.mono (by assumption) (by k_sub)); (case zzB => k_asm); (case zzF => k_asm); (case zzX => k_asm); (case zzT => k_asm); (case zzK => first | exact rfl | assumption); (case zzd => ktr_room); (case zzu => ktr_units)); all_goals (intros; (try k_sweep); (try dsimp only)))
  trivial

set_option maxRecDepth 100000 in
set_option maxHeartbeats 8000000 in
theorem isro_ok {w : World} {mean : ExcName → Option Value} {mg mb : Str → Option Value} {dp un : Nat} {gd : Option (List Code)} {cn : Str} {cs : Scope} {a : Addr} {ccd : Value} {cl : List (Str × Addr)} {outer : List Env} {A₀ : Around} {base h₀ : Heap} {L : Addr} {m : Str → Option Value} {news : List (Addr × Obj)} {s : Shared} {Q E : Value → Shared → Prop} {R P : Nat → Addr} {x : Addr} {rec ro : Bool} {l p n : Nat}
    (B : Below A₀ base outer h₀) (F : Fr h₀ L s.heap m) (X : (KK w.params).In h₀) (T : Top VW LO mean mg mb h₀) (hk : cs.kind = .function) (N : News h₀ L s.heap news) (hN : Nd news R P x rec l p ro n) (hn : n ≤ 3) (hdp : dp + 2 < recursionLimit) (hu : un + 400 < cLine)
    (ret : ∀ h' tk', Fr h₀ L h' m → News h₀ L h' news → Q (.bool ro) { s with heap := h', toks := tk' }) :
    wpAny (model PG w) (ktrTop dp un gd cn cs L a ccd cl outer) (call (.ref 57) [.ref x]) Q E s := by
  w_on
  refine wpAny_call ?_
  k_dflt ktr_enter
  k_steps
  all_goals first | exact ret _ _ (by k_asm) (newsSub (by k_asm) (by k_sub)) | (subst_vars; exact ret _ _ (by k_asm) (newsSub (by k_asm) (by k_sub)))

set_option maxRecDepth 100000 in
set_option maxHeartbeats 8000000 in
theorem ung_ok {w : World} {mean : ExcName → Option Value} {mg mb : Str → Option Value} {dp un : Nat} {gd : Option (List Code)} {cn : Str} {cs : Scope} {a : Addr} {ccd : Value} {cl : List (Str × Addr)} {outer : List Env} {A₀ : Around} {base h₀ : Heap} {L : Addr} {m : Str → Option Value} {news : List (Addr × Obj)} {s : Shared} {Q E : Value → Shared → Prop} {R P : Nat → Addr} {x : Addr} {rec ro : Bool} {l p n : Nat}
    (B : Below A₀ base outer h₀) (F : Fr h₀ L s.heap m) (X : (KK w.params).In h₀) (T : Top VW LO mean mg mb h₀) (hk : cs.kind = .function) (N : News h₀ L s.heap news) (hT : Tys news R P) (hN : Nd news R P x rec l p ro n) (hn : n ≤ 3) (hdp : dp + 1 < recursionLimit) (hu : un + 400 < cLine)
    (ret : ∀ y kl op val h' tk', Fr h₀ L h' m → News h₀ L h' news → NodeAt news y op (tyA R P rec (bif rec then l else p)) kl val → Q (.ref y) { s with heap := h', toks := tk' }) :
    wpAny (model PG w) (ktrTop dp un gd cn cs L a ccd cl outer) (call (.ref 150) [.ref x]) Q E s := by
  cases rec
  · w_on
    refine wpAny_call ?_
    k_dflt (refine' code_def ?k1 ?k2 ?k3 ?k4 ?k5 ?kA ?kF ?kK ?k6 ?k7 ?k8 ?k9 ?kB ?_ ?c2 ?c3 ?c4 ?c5; (case kA => exact rfl); (case kF => exact rfl); (case kK => assumption); (case k1 => k_asm); (case k2 => k_asm); (case k3 => k_asm); (case k4 => k_asm); (case k5 => k_asm); (case k6 => k_is); (case k7 => k_is); (case k8 => ktr_room); (case k9 => exact BindsTo.of_eq rfl); (case c5 => decide); (case kB => exact locs rfl); (case c2 => exact rfl); (case c3 => exact rfl); (case c4 => exact rfl); k_whole)
    intro g L' h1 FG F1 N1 B1 X1 T1
    (try dsimp only); (try k_fold)
    refine wpAny_execs_cons ?_
    (try dsimp only)
    k_dflt (refine whl_start 5 ?_)
    refine whl_ind (fun n' s' => ∃ h tk x' l mm, s' = { s with heap := h, toks := tk } ∧ Fr g L' h (ov [(Str.ofString "node", .ref x')] mm) ∧ News g L' h news ∧ Nd news R P x' false l p ro n') ?_ n _ ⟨_, _, x, _, _, rfl, frOv F1 (List.forall_mem_cons.mpr ⟨rfl, List.forall_mem_nil _⟩), N1, hN⟩
    rintro n' s' IH ⟨h, tk, x', l', mm, rfl, F2, N2, hN2⟩
    clear F1 N1 hN
    simp only [ov] at F2
    refine' whl_turn ?hE ?_
    (case hE => first | passes_own | with_unfolding_all passes_own)
    cases hN2 with
    | var a b c =>
      k_steps
      exact ret _ _ _ _ _ _ (by k_asm) (newsSub (by k_asm) (by k_sub)) b
    | guard a b c d =>
      obtain ⟨_, -, t0⟩ := hT.formP a
      k_steps
      exact ⟨_, Nat.lt_succ_self _, _, _, _, _, _, rfl, frOv (by k_asm) (List.forall_mem_cons.mpr ⟨rfl, List.forall_mem_nil _⟩), newsSub (by k_asm) (by k_sub), d⟩
  · w_on
    cases hN with
    | var a b c =>
      refine wpAny_call ?_
      k_dflt ktr_enter
      k_steps
      exact ret _ _ _ _ _ _ (by k_asm) (newsSub (by k_asm) (by k_sub)) b
    | deref a b =>
      refine wpAny_call ?_
      k_dflt ktr_enter
      k_steps
      exact ret _ _ _ _ _ _ (by k_asm) (newsSub (by k_asm) (by k_sub)) b
    | guard a b c d =>
      obtain ⟨_, -, t0⟩ := hT.formR a
      refine wpAny_call ?_
      k_dflt ktr_enter
      k_steps
      exact ret _ _ _ _ _ _ (by k_asm) (newsSub (by k_asm) (by k_sub)) b

theorem ln_p61_ro_1 : True := by
  k_with "call ref" => (k_here; k_dflt (refine' desig_ok ?zzB ?zzF ?zzX ?zzT ?zzK ?zzN ?zzhN ?zzn ?zzd ?zzu ?_; (case zzB => k_asm); (case zzF => k_asm); (case zzX => k_asm); (case zzT => k_asm); (case zzK => first | exact rfl | assumption); (case zzN => k_asm); (case zzhN => exact Nd.mono (by assumption) (by k_sub)); (case zzn => first | assumption | omega); (case zzd => ktr_room); (case zzu => ktr_units); k_whole; intro h' tk' F' N'; (try k_sweep); (try dsimp only)))
  k_with "call ref" => (k_here; k_dflt (refine' isro_ok ?zzB ?zzF ?zzX ?zzT ?zzK ?zzN ?zzhN ?zzn ?zzd ?zzu ?_; (case zzB => k_asm); (case zzF => k_asm); (case zzX => k_asm); (case zzT => k_asm); (case zzK => first | exact rfl | assumption); (case zzN => k_asm); (case zzhN => exact Nd.mono (by assumption) (by k_sub)); (case zzn => first | assumption | omega); (case zzd => ktr_room); (case zzu => ktr_units); k_whole; intro h' tk' F' N'; (try k_sweep); (try dsimp only)))
  k_with "call ref" => (k_here; k_dflt (refine' ung_ok ?zzB ?zzF ?zzX ?zzT ?zzK ?zzN ?zzhT ?zzhN ?zzn ?zzd ?zzu ?_; (case zzB => k_asm); (case zzF => k_asm); (case zzX => k_asm); (case zzT => k_asm); (case zzK => first | exact rfl | assumption); (case zzN => k_asm); (case zzhN => exact Nd.mono (by assumption) (by k_sub)); (case zzn => first | assumption | omega); (case zzhT => exact Tys.mono (by assumption) (by k_sub)); (case zzd => ktr_room); (case zzu => ktr_units); k_whole; intro y' kl' op' val' h' tk' F' N' Y'; (try k_sweep); (try dsimp only)))
  trivial

theorem Nd.node {news : List (Addr × Obj)} {R P : Nat → Addr} {x : Addr} {rec ro : Bool} {l p n : Nat} (h : Nd news R P x rec l p ro n) : l < 3 ∧ ∃ op kl val, NodeAt news x op (tyA R P rec l) kl val := by
  cases h with
  | var a b c => exact ⟨a, _, _, _, b⟩
  | deref a b => exact ⟨a, _, _, _, b⟩
  | guard a b c d => exact ⟨a, _, _, _, b⟩
theorem Nd.place {news : List (Addr × Obj)} {R P : Nat → Addr} {x : Addr} {rec ro : Bool} {l p n : Nat} (h : Nd news R P x rec l p ro n) : rec = false → p < 3 := by
  induction h with
  | var a b c => exact fun _ => a
  | deref a b => exact fun e => nomatch e
  | guard a b c _ ih => exact ih

set_option maxRecDepth 100000 in
set_option maxHeartbeats 8000000 in
theorem ung_okR {w : World} {mean : ExcName → Option Value} {mg mb : Str → Option Value} {dp un : Nat} {gd : Option (List Code)} {cn : Str} {cs : Scope} {a : Addr} {ccd : Value} {cl : List (Str × Addr)} {outer : List Env} {A₀ : Around} {base h₀ : Heap} {L : Addr} {m : Str → Option Value} {news : List (Addr × Obj)} {s : Shared} {Q E : Value → Shared → Prop} {R P : Nat → Addr} {x : Addr} {ro : Bool} {l p n : Nat}
    (B : Below A₀ base outer h₀) (F : Fr h₀ L s.heap m) (X : (KK w.params).In h₀) (T : Top VW LO mean mg mb h₀) (hk : cs.kind = .function) (N : News h₀ L s.heap news) (hT : Tys news R P) (hN : Nd news R P x true l p ro n) (hn : n ≤ 3) (hdp : dp + 1 < recursionLimit) (hu : un + 400 < cLine)
    (ret : ∀ y kl op val h' tk', Fr h₀ L h' m → News h₀ L h' news → NodeAt news y op (tyA R P true l) kl val → Q (.ref y) { s with heap := h', toks := tk' }) :
    wpAny (model PG w) (ktrTop dp un gd cn cs L a ccd cl outer) (call (.ref 150) [.ref x]) Q E s := ung_ok B F X T hk N hT hN hn hdp hu ret
set_option maxRecDepth 100000 in
set_option maxHeartbeats 8000000 in
theorem ung_okP {w : World} {mean : ExcName → Option Value} {mg mb : Str → Option Value} {dp un : Nat} {gd : Option (List Code)} {cn : Str} {cs : Scope} {a : Addr} {ccd : Value} {cl : List (Str × Addr)} {outer : List Env} {A₀ : Around} {base h₀ : Heap} {L : Addr} {m : Str → Option Value} {news : List (Addr × Obj)} {s : Shared} {Q E : Value → Shared → Prop} {R P : Nat → Addr} {x : Addr} {ro : Bool} {l p n : Nat}
    (B : Below A₀ base outer h₀) (F : Fr h₀ L s.heap m) (X : (KK w.params).In h₀) (T : Top VW LO mean mg mb h₀) (hk : cs.kind = .function) (N : News h₀ L s.heap news) (hT : Tys news R P) (hN : Nd news R P x false l p ro n) (hn : n ≤ 3) (hdp : dp + 1 < recursionLimit) (hu : un + 400 < cLine)
    (ret : ∀ y kl op val h' tk', Fr h₀ L h' m → News h₀ L h' news → NodeAt news y op (tyA R P false p) kl val → Q (.ref y) { s with heap := h', toks := tk' }) :
    wpAny (model PG w) (ktrTop dp un gd cn cs L a ccd cl outer) (call (.ref 150) [.ref x]) Q E s := ung_ok B F X T hk N hT hN hn hdp hu ret

theorem ln_p70_passable_0 : True := by
  k_with "call ref" => (k_here; k_dflt (refine' ung_okR ?zzB ?zzF ?zzX ?zzT ?zzK ?zzN ?zzhT ?zzhN ?zzn ?zzd ?zzu ?_; (case zzN => k_asm); (case zzhT => exact Tys.mono (by assumption) (by k_sub)); (case zzhN => exact Nd.mono (by assumption) (by k_sub)); (case zzn => first | assumption | omega); (case zzB => k_asm); (case zzF => k_asm); (case zzX => k_asm); (case zzT => k_asm); (case zzK => first | exact rfl | assumption); (case zzd => ktr_room); (case zzu => ktr_units); k_whole; intro y' kl' op' val' h' tk' F' N' Y'; (try k_sweep); (try dsimp only)))
  k_with "call ref" => (k_here; k_dflt (refine' ung_okP ?zzB ?zzF ?zzX ?zzT ?zzK ?zzN ?zzhT ?zzhN ?zzn ?zzd ?zzu ?_; (case zzN => k_asm); (case zzhT => exact Tys.mono (by assumption) (by k_sub)); (case zzhN => exact Nd.mono (by assumption) (by k_sub)); (case zzn => first | assumption | omega); (case zzB => k_asm); (case zzF => k_asm); (case zzX => k_asm); (case zzT => k_asm); (case zzK => first | exact rfl | assumption); (case zzd => ktr_room); (case zzu => ktr_units); k_whole; intro y' kl' op' val' h' tk' F' N' Y'; (try k_sweep); (try dsimp only)))
  k_with "call ref" => (k_here; k_dflt (refine' ext_ok ?zzB ?zzF ?zzX ?zzT ?zzK ?zzN ?zzhT ?zzhi ?zzhj ?zzd ?zzu ?_; (case zzN => k_asm); (case zzhT => exact Tys.mono (by assumption) (by k_sub)); (case zzhi => assumption); (case zzhj => assumption); (case zzB => k_asm); (case zzF => k_asm); (case zzX => k_asm); (case zzT => k_asm); (case zzK => first | exact rfl | assumption); (case zzd => ktr_room); (case zzu => ktr_units); k_whole; intro h' tk' F' N'; (try k_sweep); (try dsimp only)))
  trivial

/-- what passable tells -/
def passR (rec ro : Bool) (l p : Nat) (var wr : Bool) (j : Nat) : Str :=
  if var then (if ro then Str.ofString "read_only" else if wr then (if rec && decide (j ≤ l) then Str.ofString "" else Str.ofString "incompatible") else (if !rec && p == j then Str.ofString "" else Str.ofString "incompatible"))
  else (if rec == wr && decide (j ≤ l) then Str.ofString "" else Str.ofString "incompatible")
theorem tyN_beq {f g : Bool} {i j : Nat} : (tyN f i == tyN g j) = (f == g && decide (i = j)) := by
  have e1 : (9 + 2 * (i : Int) = 9 + 2 * (j : Int)) ↔ i = j := by omega
  have e2 : (8 + 2 * (i : Int) = 8 + 2 * (j : Int)) ↔ i = j := by omega
  have e3 : ¬ (9 + 2 * (i : Int) = 8 + 2 * (j : Int)) := by omega
  have e4 : ¬ (8 + 2 * (i : Int) = 9 + 2 * (j : Int)) := by omega
  rw [Bool.eq_iff_iff, beq_iff_eq]
  cases f <;> cases g <;> simp [tyN_p, tyN_r, e1, e2, e3, e4] <;> assumption

set_option maxRecDepth 100000 in
set_option maxHeartbeats 8000000 in
theorem same_T {w : World} {mean : ExcName → Option Value} {mg mb : Str → Option Value} {dp un : Nat} {gd : Option (List Code)} {cn : Str} {cs : Scope} {a : Addr} {ccd : Value} {cl : List (Str × Addr)} {outer : List Env} {A₀ : Around} {base h₀ : Heap} {L : Addr} {m : Str → Option Value} {news : List (Addr × Obj)} {s : Shared} {Q E : Value → Shared → Prop} {R P : Nat → Addr} {f g : Bool} {i j : Nat}
    (B : Below A₀ base outer h₀) (F : Fr h₀ L s.heap m) (X : (KK w.params).In h₀) (T : Top VW LO mean mg mb h₀) (hk : cs.kind = .function) (N : News h₀ L s.heap news) (hT : Tys news R P) (hi : i < 3) (hj : j < 3) (hdp : dp + 1 < recursionLimit) (hu : un + 200 < cLine)
    (ret : ∀ h' tk', Fr h₀ L h' m → News h₀ L h' news → Q (.bool (f == g && decide (i = j))) { s with heap := h', toks := tk' }) :
    wpAny (model PG w) (ktrTop dp un gd cn cs L a ccd cl outer) (call (.ref 64) [.ref (tyA R P f i), .ref (tyA R P g j)]) Q E s := by
  obtain ⟨_, -, t1⟩ := hT.at f hi
  obtain ⟨_, -, t2⟩ := hT.at g hj
  exact same_ok B F X T hk N t1 t2 hdp hu fun h' tk' F' N' => q_bool tyN_beq (ret h' tk' F' N')

theorem ln_p70_passable_1 : True := by
  k_with "call ref" => (k_here; k_dflt (refine' same_T ?zzB ?zzF ?zzX ?zzT ?zzK ?zzN ?zzhT ?zzhi ?zzhj ?zzd ?zzu ?_; (case zzN => k_asm); (case zzhT => exact Tys.mono (by assumption) (by k_sub)); (case zzhi => assumption); (case zzhj => assumption); (case zzB => k_asm); (case zzF => k_asm); (case zzX => k_asm); (case zzT => k_asm); (case zzK => first | exact rfl | assumption); (case zzd => ktr_room); (case zzu => ktr_units); k_whole; intro h' tk' F' N'; (try k_sweep); (try dsimp only)))
  trivial

set_option maxRecDepth 100000 in
set_option maxHeartbeats 8000000 in
theorem pass_var {w : World} {mean : ExcName → Option Value} {mg mb : Str → Option Value} {dp un : Nat} {gd : Option (List Code)} {cn : Str} {cs : Scope} {a : Addr} {ccd : Value} {cl : List (Str × Addr)} {outer : List Env} {A₀ : Around} {base h₀ : Heap} {L : Addr} {m : Str → Option Value} {news : List (Addr × Obj)} {s : Shared} {Q E : Value → Shared → Prop} {R P : Nat → Addr} {x par : Addr} {rec ro wr : Bool} {l p n j : Nat}
    (B : Below A₀ base outer h₀) (F : Fr h₀ L s.heap m) (X : (KK w.params).In h₀) (T : Top VW LO mean mg mb h₀) (hk : cs.kind = .function) (N : News h₀ L s.heap news) (hT : Tys news R P) (hN : Nd news R P x rec l p ro n) (hn : n ≤ 3) (hO : ObjAt news par (Str.ofString "par") (tyA R P wr j) false) (hj : j < 3) (hdp : dp + 6 < recursionLimit) (hu : un + 1200 < cLine)
    (ret : ∀ r t h' tk', r = passR rec ro l p true wr j → Fr h₀ L h' m → News h₀ L h' news → Q (.str r t) { s with heap := h', toks := tk' }) :
    wpAny (model PG w) (ktrTop dp un gd cn cs L a ccd cl outer) (call (.ref 171) [.ref par, .ref x]) Q E s := by
  w_on
  obtain ⟨hl, op, kl, val, hx⟩ := hN.node
  have hp := hN.place
  cases rec <;> cases wr
  · have hp := hp rfl
    obtain ⟨_, -, t1⟩ := hT.formP hj
    obtain ⟨_, -, t2⟩ := hT.formP hp
    refine wpAny_call ?_
    k_dflt ktr_enter
    k_steps
    all_goals exact ret _ _ _ _ (by simp_all [passR] <;> first | (intros; omega) | (intros; simp_all; done) | (intros; simp_all; omega)) (by k_asm) (newsSub (by k_asm) (by k_sub))
  · have hp := hp rfl
    obtain ⟨_, -, t1⟩ := hT.formR hj
    obtain ⟨_, -, t2⟩ := hT.formP hp
    refine wpAny_call ?_
    k_dflt ktr_enter
    k_steps
    all_goals exact ret _ _ _ _ (by simp_all [passR] <;> first | (intros; omega) | (intros; simp_all; done) | (intros; simp_all; omega)) (by k_asm) (newsSub (by k_asm) (by k_sub))
  · skip
    obtain ⟨_, -, t1⟩ := hT.formP hj
    obtain ⟨_, -, t2⟩ := hT.formR hl
    refine wpAny_call ?_
    k_dflt ktr_enter
    k_steps
    all_goals exact ret _ _ _ _ (by simp_all [passR] <;> first | (intros; omega) | (intros; simp_all; done) | (intros; simp_all; omega)) (by k_asm) (newsSub (by k_asm) (by k_sub))
  · skip
    obtain ⟨_, -, t1⟩ := hT.formR hj
    obtain ⟨_, -, t2⟩ := hT.formR hl
    refine wpAny_call ?_
    k_dflt ktr_enter
    k_steps
    all_goals exact ret _ _ _ _ (by simp_all [passR] <;> first | (intros; omega) | (intros; simp_all; done) | (intros; simp_all; omega)) (by k_asm) (newsSub (by k_asm) (by k_sub))

set_option maxRecDepth 100000 in
set_option maxHeartbeats 8000000 in
theorem pass_valR {w : World} {mean : ExcName → Option Value} {mg mb : Str → Option Value} {dp un : Nat} {gd : Option (List Code)} {cn : Str} {cs : Scope} {a : Addr} {ccd : Value} {cl : List (Str × Addr)} {outer : List Env} {A₀ : Around} {base h₀ : Heap} {L : Addr} {m : Str → Option Value} {news : List (Addr × Obj)} {s : Shared} {Q E : Value → Shared → Prop} {R P : Nat → Addr} {x par : Addr} {rec ro : Bool} {l p n j : Nat}
    (B : Below A₀ base outer h₀) (F : Fr h₀ L s.heap m) (X : (KK w.params).In h₀) (T : Top VW LO mean mg mb h₀) (hk : cs.kind = .function) (N : News h₀ L s.heap news) (hT : Tys news R P) (hN : Nd news R P x rec l p ro n) (hn : n ≤ 3) (hO : ObjAt news par (Str.ofString "par") (tyA R P true j) true) (hj : j < 3) (hdp : dp + 6 < recursionLimit) (hu : un + 1200 < cLine)
    (ret : ∀ r t h' tk', r = passR rec ro l p false true j → Fr h₀ L h' m → News h₀ L h' news → Q (.str r t) { s with heap := h', toks := tk' }) :
    wpAny (model PG w) (ktrTop dp un gd cn cs L a ccd cl outer) (call (.ref 171) [.ref par, .ref x]) Q E s := by
  w_on
  obtain ⟨hl, op, kl, val, hx⟩ := hN.node
  obtain ⟨_, -, t1⟩ := hT.formR hj
  refine wpAny_call ?_
  k_dflt ktr_enter
  k_steps
  all_goals exact ret _ _ _ _ (by simp_all [passR] <;> first | (intros; omega) | (intros; simp_all; done) | (intros; simp_all; omega)) (by k_asm) (newsSub (by k_asm) (by k_sub))

set_option maxRecDepth 100000 in
set_option maxHeartbeats 8000000 in
theorem pass_valP {w : World} {mean : ExcName → Option Value} {mg mb : Str → Option Value} {dp un : Nat} {gd : Option (List Code)} {cn : Str} {cs : Scope} {a : Addr} {ccd : Value} {cl : List (Str × Addr)} {outer : List Env} {A₀ : Around} {base h₀ : Heap} {L : Addr} {m : Str → Option Value} {news : List (Addr × Obj)} {s : Shared} {Q E : Value → Shared → Prop} {R P : Nat → Addr} {x par : Addr} {rec ro : Bool} {l p n j : Nat}
    (B : Below A₀ base outer h₀) (F : Fr h₀ L s.heap m) (X : (KK w.params).In h₀) (T : Top VW LO mean mg mb h₀) (hk : cs.kind = .function) (N : News h₀ L s.heap news) (hT : Tys news R P) (hN : Nd news R P x rec l p ro n) (hn : n ≤ 3) (hO : ObjAt news par (Str.ofString "var") (tyA R P false j) false) (hj : j < 3) (hdp : dp + 6 < recursionLimit) (hu : un + 1200 < cLine)
    (ret : ∀ r t h' tk', r = passR rec ro l p false false j → Fr h₀ L h' m → News h₀ L h' news → Q (.str r t) { s with heap := h', toks := tk' }) :
    wpAny (model PG w) (ktrTop dp un gd cn cs L a ccd cl outer) (call (.ref 171) [.ref par, .ref x]) Q E s := by
  w_on
  obtain ⟨hl, op, kl, val, hx⟩ := hN.node
  obtain ⟨_, -, t1⟩ := hT.formP hj
  cases rec
  · obtain ⟨_, -, t2⟩ := hT.formP hl
    refine wpAny_call ?_
    k_dflt ktr_enter
    k_steps
    all_goals exact ret _ _ _ _ (by simp_all [passR] <;> first | (intros; omega) | (intros; simp_all; done) | (intros; simp_all; omega)) (by k_asm) (newsSub (by k_asm) (by k_sub))
  · obtain ⟨_, -, t2⟩ := hT.formR hl
    refine wpAny_call ?_
    k_dflt ktr_enter
    k_steps
    all_goals exact ret _ _ _ _ (by simp_all [passR] <;> first | (intros; omega) | (intros; simp_all; done) | (intros; simp_all; omega)) (by k_asm) (newsSub (by k_asm) (by k_sub))

/-- what passable tells of NIL -/
def passN (var wr : Bool) : Str := if var then Str.ofString "not_a_variable" else if wr then Str.ofString "incompatible" else Str.ofString ""
set_option maxRecDepth 100000 in
set_option maxHeartbeats 8000000 in
theorem pass_nilV {w : World} {mean : ExcName → Option Value} {mg mb : Str → Option Value} {dp un : Nat} {gd : Option (List Code)} {cn : Str} {cs : Scope} {a : Addr} {ccd : Value} {cl : List (Str × Addr)} {outer : List Env} {A₀ : Around} {base h₀ : Heap} {L : Addr} {m : Str → Option Value} {news : List (Addr × Obj)} {s : Shared} {Q E : Value → Shared → Prop} {R P : Nat → Addr} {x par nl kl : Addr} {wr : Bool} {j : Nat} {num : Int}
    (B : Below A₀ base outer h₀) (F : Fr h₀ L s.heap m) (X : (KK w.params).In h₀) (T : Top VW LO mean mg mb h₀) (hk : cs.kind = .function) (N : News h₀ L s.heap news) (hT : Tys news R P) (hN : NodeAt news x (Str.ofString "const") nl kl .none) (hnl : TyAt news nl num (Str.ofString "nil") .none) (hO : ObjAt news par (Str.ofString "par") (tyA R P wr j) false) (hj : j < 3) (hdp : dp + 6 < recursionLimit) (hu : un + 1200 < cLine)
    (ret : ∀ r t h' tk', r = passN true wr → Fr h₀ L h' m → News h₀ L h' news → Q (.str r t) { s with heap := h', toks := tk' }) :
    wpAny (model PG w) (ktrTop dp un gd cn cs L a ccd cl outer) (call (.ref 171) [.ref par, .ref x]) Q E s := by
  w_on
  refine wpAny_call ?_
  k_dflt ktr_enter
  k_steps
  all_goals exact ret _ _ _ _ (by simp_all [passN]) (by k_asm) (newsSub (by k_asm) (by k_sub))
set_option maxRecDepth 100000 in
set_option maxHeartbeats 8000000 in
theorem pass_nilR {w : World} {mean : ExcName → Option Value} {mg mb : Str → Option Value} {dp un : Nat} {gd : Option (List Code)} {cn : Str} {cs : Scope} {a : Addr} {ccd : Value} {cl : List (Str × Addr)} {outer : List Env} {A₀ : Around} {base h₀ : Heap} {L : Addr} {m : Str → Option Value} {news : List (Addr × Obj)} {s : Shared} {Q E : Value → Shared → Prop} {R P : Nat → Addr} {x par nl kl : Addr} {j : Nat} {num : Int}
    (B : Below A₀ base outer h₀) (F : Fr h₀ L s.heap m) (X : (KK w.params).In h₀) (T : Top VW LO mean mg mb h₀) (hk : cs.kind = .function) (N : News h₀ L s.heap news) (hT : Tys news R P) (hN : NodeAt news x (Str.ofString "const") nl kl .none) (hnl : TyAt news nl num (Str.ofString "nil") .none) (hO : ObjAt news par (Str.ofString "par") (tyA R P true j) true) (hj : j < 3) (hdp : dp + 6 < recursionLimit) (hu : un + 1200 < cLine)
    (ret : ∀ r t h' tk', r = passN false true → Fr h₀ L h' m → News h₀ L h' news → Q (.str r t) { s with heap := h', toks := tk' }) :
    wpAny (model PG w) (ktrTop dp un gd cn cs L a ccd cl outer) (call (.ref 171) [.ref par, .ref x]) Q E s := by
  w_on
  obtain ⟨_, -, t1⟩ := hT.formR hj
  refine wpAny_call ?_
  k_dflt ktr_enter
  k_steps
  all_goals exact ret _ _ _ _ (by simp_all [passN]) (by k_asm) (newsSub (by k_asm) (by k_sub))
set_option maxRecDepth 100000 in
set_option maxHeartbeats 8000000 in
theorem pass_nilP {w : World} {mean : ExcName → Option Value} {mg mb : Str → Option Value} {dp un : Nat} {gd : Option (List Code)} {cn : Str} {cs : Scope} {a : Addr} {ccd : Value} {cl : List (Str × Addr)} {outer : List Env} {A₀ : Around} {base h₀ : Heap} {L : Addr} {m : Str → Option Value} {news : List (Addr × Obj)} {s : Shared} {Q E : Value → Shared → Prop} {R P : Nat → Addr} {x par nl kl : Addr} {j : Nat} {num : Int}
    (B : Below A₀ base outer h₀) (F : Fr h₀ L s.heap m) (X : (KK w.params).In h₀) (T : Top VW LO mean mg mb h₀) (hk : cs.kind = .function) (N : News h₀ L s.heap news) (hT : Tys news R P) (hN : NodeAt news x (Str.ofString "const") nl kl .none) (hnl : TyAt news nl num (Str.ofString "nil") .none) (hnum : num < 8) (hO : ObjAt news par (Str.ofString "var") (tyA R P false j) false) (hj : j < 3) (hdp : dp + 6 < recursionLimit) (hu : un + 1200 < cLine)
    (ret : ∀ r t h' tk', r = passN false false → Fr h₀ L h' m → News h₀ L h' news → Q (.str r t) { s with heap := h', toks := tk' }) :
    wpAny (model PG w) (ktrTop dp un gd cn cs L a ccd cl outer) (call (.ref 171) [.ref par, .ref x]) Q E s := by
  w_on
  obtain ⟨_, -, t1⟩ := hT.formP hj
  have hne : (tyN false j == num) = false := by
    rw [tyN_p]
    have : ¬ (9 + 2 * (j : Int) = num) := by omega
    simp [this]
  refine wpAny_call ?_
  k_dflt ktr_enter
  k_steps
  all_goals exact ret _ _ _ _ (by simp_all [passN]) (by k_asm) (newsSub (by k_asm) (by k_sub))


/-! the law's own body, by its place in the program -/
def fnBody : Option Stmt → List Stmt
  | some (.FunctionDef _ _ b _ _ _ _ _ _ _) => b
  | _ => []
def fnScope : Option Stmt → Scope
  | some (.FunctionDef _ _ _ _ _ _ sc _ _ _) => sc
  | _ => default
noncomputable def lawBody : List Stmt := fnBody PySem.Challenge.pw_pq0750_01.main.body.getLast?
noncomputable def lawScope : Scope := fnScope PySem.Challenge.pw_pq0750_01.main.body.getLast?

/-- the end of a segment -/
def EndJ (J : Shared → Prop) (f : Flow) (s' : Shared) : Prop := f = .next ∧ J s'
theorem EndJ.intro {J : Shared → Prop} {s' : Shared} (h : J s') : EndJ J .next s' := ⟨rfl, h⟩
theorem execs_app {M : Model} {A : Around} {env : Env} {Q : Flow → Shared → Prop} {E : Value → Shared → Prop} {b : List Stmt} {J : Shared → Prop} (hb : ∀ s', J s' → wpAny M A (execs b env) Q E s') : ∀ (a : List Stmt) (Γ : Ctx) (p : Pos) (s : Shared), Γ.In A →
    Sem.wp M Γ (execs a env) (fun f _ s' => EndJ J f s') (fun e _ s' => E e s') p s → Sem.wp M Γ (execs (a ++ b) env) (fun f _ s' => Q f s') (fun e _ s' => E e s') p s
  | [], Γ, p, s, hΓ, h => hb s (show EndJ J .next s from h).2 Γ p hΓ
  | st :: a, Γ, p, s, hΓ, h => by
    rw [execs_cons, Sem.wp_bind'] at h
    rw [List.cons_append, execs_cons, Sem.wp_bind']
    refine Sem.wp_mono M Γ _ (fun f p' s' h' => ?_) (fun _ _ _ h' => h') _ _ h
    cases f with
    | next => exact execs_app hb a Γ p' s' hΓ h'
    | _ => exact absurd (show EndJ J _ s' from h').1 (by simp)
theorem cutAt {M : Model} {A : Around} {env : Env} {Q : Flow → Shared → Prop} {E : Value → Shared → Prop} {s : Shared} {a b : List Stmt} (J : Shared → Prop) (h1 : wpAny M A (execs a env) (EndJ J) E s) (hb : ∀ s', J s' → wpAny M A (execs b env) Q E s') : wpAny M A (execs (a ++ b) env) Q E s :=
  fun Γ p hΓ => execs_app hb a Γ p s hΓ (h1 Γ p hΓ)
theorem joinAt {M : Model} {A : Around} {t : Sem Flow} {Q : Flow → Shared → Prop} {E : Value → Shared → Prop} {s : Shared} (J : Shared → Prop) (h1 : wpAny M A t (EndJ J) E s) (hb : ∀ s', J s' → Q .next s') : wpAny M A t Q E s :=
  wpAny_mono h1 (fun f s' h => by obtain ⟨e, j⟩ := h; subst e; exact hb s' j) fun _ _ h => h

local macro_rules | `(tactic| k_sub) => `(tactic| (first | (intro p hp; (repeat (first | exact hp | refine List.Mem.tail _ ?_)); done) | ((repeat (refine List.forall_mem_cons.mpr ⟨by k_mem, ?_⟩)); exact List.forall_mem_nil _)))

/-! draws as natural numbers; the greater of two; an item of the tables -/
set_option maxRecDepth 100000 in
set_option maxHeartbeats 8000000 in
theorem take_okN {w : World} {mean : ExcName → Option Value} {mg mb : Str → Option Value} {dp un : Nat} {gd : Option (List Code)} {cn : Str} {cs : Scope} {a : Addr} {ccd : Value} {cl : List (Str × Addr)} {outer : List Env} {A₀ : Around} {base h₀ : Heap} {L : Addr} {m : Str → Option Value} {s : Shared} {Q E : Value → Shared → Prop} {big : List (Addr × Obj)} {g : Obj → List (Addr × Obj)} {st row : Addr} {ws : List Value} {ns : List Int} {i : Nat} {k : Int} {t1 t2 : Tok}
    (B : Below A₀ base outer h₀) (F : Fr h₀ L s.heap m) (X : (KK w.params).In h₀) (T : Top VW LO mean mg mb h₀) (hk : cs.kind = .function) (N : News h₀ L s.heap big) (U : UpdF st (W.listOf #[.ref row, .int (i : Int) t1] 0) big g) (hrow : (row, W.listOf ws.toArray 0) ∈ big) (hI : IntsAre ws ns) (hlen : ns.length ≤ 40) (hne : row ≠ st)
    (hi2 : i ≤ 40) (hk1 : 0 < k) (hk2 : k ≤ 4) (hdp : dp + 110 < recursionLimit) (hu : un + 400 < cLine)
    (ret : ∀ (r : Nat) t h' tk' t3, (r : Int) < k → Fr h₀ L h' m → News h₀ L h' (g (W.listOf #[.ref row, .int ((i + 1 : Nat) : Int) t3] 0)) → Q (.int (r : Int) t) { s with heap := h', toks := tk' }) :
    wpAny (model PG w) (ktrTop dp un gd cn cs L a ccd cl outer) (call (.ref 256) [.ref st, .int k t2]) Q E s := by
  refine take_okU (t1 := t1) B F X T hk N U hrow hI hlen hne (by omega) (by omega) hk1 hk2 hdp hu fun r t h' tk' t3 b1 b2 F' N' => ?_
  obtain ⟨r, rfl⟩ := Int.eq_ofNat_of_zero_le b1
  exact ret r t h' tk' t3 b2 F' N'

theorem ln_p75_seg_0 : True := by
  k_with "call ref" => (k_here; k_dflt (refine' take_okN ?zzB ?zzF ?zzX ?zzT ?zzK ?zzN ?zzo ?zzr ?zzI ?zzl ?zzn ?zzj ?zzk ?zzq ?zzd ?zzu ?_; (case zzN => k_asm); (case zzo => k_updF); (case zzr => k_mem); (case zzI => assumption); (case zzl => first | assumption | omega); (case zzn => first | assumption | (refine neN ?_; omega)); (case zzj => omega); (case zzk => decide); (case zzq => decide); (case zzB => k_asm); (case zzF => k_asm); (case zzX => k_asm); (case zzT => k_asm); (case zzK => first | exact rfl | assumption); (case zzd => ktr_room); (case zzu => ktr_units); k_whole; intro r' t' h' tk' t3' b' F' N'; (try k_sweep); (try dsimp only)))
  trivial

theorem max_nat {w : World} {A : Around} {E : Value → Shared → Prop} {Q : Value → Shared → Prop} {s : Shared} {h₀ : Heap} {L : Addr} {m : Str → Option Value} {news : List (Addr × Obj)} {a b : Nat} {t u : Tok} (hh : A.handled = none) (F : Fr h₀ L s.heap m) (N : News h₀ L s.heap news)
    (h : ∀ h' tk t', Fr h₀ L h' m → News h₀ L h' news → Q (.int ((max a b : Nat) : Int) t') { s with heap := h', toks := tk }) :
    wpAny (model PG w) A (call (.builtin "max") [.int (a : Int) t, .int (b : Int) u]) Q E s :=
  max_two_N hh F N fun h' tk F' N' => by
    have e : (if (b : Int) > (a : Int) then (b : Int) else (a : Int)) = ((max a b : Nat) : Int) := by
      split <;> omega
    rw [e]; exact h h' tk _ F' N'

theorem ln_p75_seg_1 : True := by
  k_with "call builtin:max" => (k_here; (with_reducible show wpAny _ _ (call (Value.builtin _) [Value.int _ _, Value.int _ _]) _ _ _); k_dflt (refine' max_nat ?zzH ?zzF ?zzN ?_; (case zzH => exact rfl); (case zzF => k_asm); (case zzN => k_asm); k_whole; intro h' tk' t' F' N'; (try k_sweep)))
  trivial

theorem item_ty {w : World} {A : Around} {E : Value → Shared → Prop} {Q : Value → Shared → Prop} {s : Shared} {h₀ : Heap} {L row : Addr} {big : List (Addr × Obj)} {R P : Nat → Addr} {f : Bool} {n1 : Nat} {value slice : PySem.Expr} {k : Nat} {u : Tok}
    (N : News h₀ L s.heap big) (h1 : (row, W.listOf [Value.ref (tyA R P f 0), Value.ref (tyA R P f 1), Value.ref (tyA R P f 2)].toArray n1) ∈ big) (hk : k < 3) (h : Q (.ref (tyA R P f k)) s)
    (hs : subscripted slice false (.ref row) (.int (k : Int) u) = operate [.ref row, .int (k : Int) u] (getItem (.ref row) (.int (k : Int) u)) := by with_unfolding_all rfl) :
    wpAny (model PG w) A (subscriptTail value slice (.ref row) (.int (k : Int) u)) Q E s := by
  have h3 : k = 0 ∨ k = 1 ∨ k = 2 := by omega
  have e : [Value.ref (tyA R P f 0), Value.ref (tyA R P f 1), Value.ref (tyA R P f 2)][((k : Nat) : Int).toNat]? = some (.ref (tyA R P f k)) := by
    rcases h3 with rfl | rfl | rfl <;> rfl
  exact item_lit N h1 (by omega) (by omega) e h hs

theorem ln_p75_seg_2 : True := by
  k_with "subscriptTail Name" => (k_here; (with_reducible show wpAny _ _ (subscriptTail _ _ (Value.ref _) (Value.int (Nat.cast _) _)) _ _ _); k_dflt (refine' item_ty ?zzk1 ?zzk2 ?zzk3 ?_; (case zzk1 => k_asm); (case zzk2 => k_mem); (case zzk3 => first | assumption | omega); k_whole))
  trivial

set_option maxRecDepth 100000 in
set_option maxHeartbeats 8000000 in
theorem mk_node5 {w : World} {mean : ExcName → Option Value} {mg mb : Str → Option Value} {dp un : Nat} {gd : Option (List Code)} {cn : Str} {cs : Scope} {a : Addr} {ccd : Value} {cl : List (Str × Addr)} {outer : List Env} {A₀ : Around} {base h₀ : Heap} {L : Addr} {m : Str → Option Value} {news : List (Addr × Obj)} {s : Shared} {Q E : Value → Shared → Prop} {op : Str} {place : Int} {ty kl : Addr} {val : Value} {t1 t2 : Tok}
    (B : Below A₀ base outer h₀) (F : Fr h₀ L s.heap m) (X : (KK w.params).In h₀) (T : Top VW LO mean mg mb h₀) (hk : cs.kind = .function) (N : News h₀ L s.heap news) (hv : handedIn val = true) (hdp : dp + 5 < recursionLimit) (hu : un + 400 < cLine)
    (ret : ∀ x dx des n h' tk', Fr h₀ L h' m → News h₀ L h' ((x, instObj 32 dx) :: (dx, dictOf des n) :: news) → (∀ p ∈ news, p.1 < dx) → dx < x → NodeAt [(x, instObj 32 dx), (dx, dictOf des n)] x op ty kl val → Q (.ref x) { s with heap := h', toks := tk' }) :
    wpAny (model PG w) (ktrTop dp un gd cn cs L a ccd cl outer) (call (.ref 32) [.str op t1, .int place t2, .ref ty, .ref kl, val]) Q E s := by
  w_on
  k_dflt (refine' call_cls ?k1 ?k2 ?k3 ?k4 ?k5 ?k6 ?_; (case k1 => k_asm); (case k2 => k_asm); (case k3 => k_asm); (case k4 => k_is); (case k5 => k_is); (case k6 => k_is); k_whole; intro x' d' h' F' N' l1 l2; have l0 := And.intro l1 l2; (try k_lt l1); (try k_lt2 l2); (try k_sweep); (refine' code_def ?k1 ?k2 ?k3 ?k4 ?k5 ?kA ?kF ?kK ?k6 ?k7 ?k8 ?k9 ?kB ?_ ?c2 ?c3 ?c4 ?c5; (case kA => exact rfl); (case kF => exact rfl); (case kK => assumption); (case k1 => k_asm); (case k2 => k_asm); (case k3 => k_asm); (case k4 => k_asm); (case k5 => k_asm); (case k6 => k_is); (case k7 => k_is); (case k8 => ktr_room); (case k9 => exact binds_K (by k_in) rfl (by k_is) rfl rfl rfl); (case c5 => decide); (case kB => exact locs rfl); (case c2 => exact rfl); (case c3 => exact rfl); (case c4 => exact rfl); k_whole; intro g' L' h' FG' F' N' B' X' T'; (try dsimp only); (try k_fold)))
  k_steps
  exact ret _ _ _ _ _ _ (by k_asm) (newsSub (by k_asm) (by k_sub)) l0.1 l0.2 ⟨_, _, _, .head _, .tail _ (.head _), ⟨_, rfl⟩, rfl, rfl, rfl⟩

set_option maxRecDepth 100000 in
set_option maxHeartbeats 8000000 in
theorem mk_node4 {w : World} {mean : ExcName → Option Value} {mg mb : Str → Option Value} {dp un : Nat} {gd : Option (List Code)} {cn : Str} {cs : Scope} {a : Addr} {ccd : Value} {cl : List (Str × Addr)} {outer : List Env} {A₀ : Around} {base h₀ : Heap} {L : Addr} {m : Str → Option Value} {news : List (Addr × Obj)} {s : Shared} {Q E : Value → Shared → Prop} {op : Str} {place : Int} {ty kl : Addr} {t1 t2 : Tok}
    (B : Below A₀ base outer h₀) (F : Fr h₀ L s.heap m) (X : (KK w.params).In h₀) (T : Top VW LO mean mg mb h₀) (hk : cs.kind = .function) (N : News h₀ L s.heap news) (hdp : dp + 5 < recursionLimit) (hu : un + 400 < cLine)
    (ret : ∀ x dx des n h' tk', Fr h₀ L h' m → News h₀ L h' ((x, instObj 32 dx) :: (dx, dictOf des n) :: news) → (∀ p ∈ news, p.1 < dx) → dx < x → NodeAt [(x, instObj 32 dx), (dx, dictOf des n)] x op ty kl .none → Q (.ref x) { s with heap := h', toks := tk' }) :
    wpAny (model PG w) (ktrTop dp un gd cn cs L a ccd cl outer) (call (.ref 32) [.str op t1, .int place t2, .ref ty, .ref kl]) Q E s := by
  w_on
  k_dflt (refine' call_cls ?k1 ?k2 ?k3 ?k4 ?k5 ?k6 ?_; (case k1 => k_asm); (case k2 => k_asm); (case k3 => k_asm); (case k4 => k_is); (case k5 => k_is); (case k6 => k_is); k_whole; intro x' d' h' F' N' l1 l2; have l0 := And.intro l1 l2; (try k_lt l1); (try k_lt2 l2); (try k_sweep); (refine' code_def ?k1 ?k2 ?k3 ?k4 ?k5 ?kA ?kF ?kK ?k6 ?k7 ?k8 ?k9 ?kB ?_ ?c2 ?c3 ?c4 ?c5; (case kA => exact rfl); (case kF => exact rfl); (case kK => assumption); (case k1 => k_asm); (case k2 => k_asm); (case k3 => k_asm); (case k4 => k_asm); (case k5 => k_asm); (case k6 => k_is); (case k7 => k_is); (case k8 => ktr_room); (case k9 => exact binds_K (by k_in) rfl (by k_is) rfl rfl rfl); (case c5 => decide); (case kB => exact locs rfl); (case c2 => exact rfl); (case c3 => exact rfl); (case c4 => exact rfl); k_whole; intro g' L' h' FG' F' N' B' X' T'; (try dsimp only); (try k_fold)))
  k_steps
  exact ret _ _ _ _ _ _ (by k_asm) (newsSub (by k_asm) (by k_sub)) l0.1 l0.2 ⟨_, _, _, .head _, .tail _ (.head _), ⟨_, rfl⟩, rfl, rfl, rfl⟩

/-- the dict of a name's object while it may still be changed -/
structure ObD (es : List DictEntry) (knd : Str) (ty : Addr) (ro : Bool) : Prop where
  kind : ∃ t, getL (Str.ofString "kind") es = some (some (.str knd t))
  type : getL (Str.ofString "type") es = some (some (.ref ty))
  ro : getL (Str.ofString "readonly") es = some (some (.bool ro))
  sz : es.length ≤ 20
theorem ObD.at {news : List (Addr × Obj)} {a d : Addr} {es : List DictEntry} {n : Nat} {knd : Str} {ty : Addr} {ro : Bool} (D : ObD es knd ty ro) (h1 : (a, instObj 209 d) ∈ news) (h2 : (d, dictOf es n) ∈ news) : ObjAt news a knd ty ro :=
  ⟨d, es, n, h1, h2, D.kind, D.type, D.ro⟩
theorem ObD.putRo {es : List DictEntry} {knd : Str} {ty : Addr} {ro r : Bool} {hs : Int} {k : Value} (D : ObD es knd ty ro) : ObD (putL (Str.ofString "readonly") hs k (.bool r) es) knd ty r := by
  obtain ⟨⟨t1, h1⟩, h2, h3, h4⟩ := D
  exact ⟨⟨t1, getL_put_ne h3 (by decide +kernel) h1⟩, getL_put_ne h3 (by decide +kernel) h2, getL_put_eq h3, by rw [length_put h3]; exact h4⟩

set_option maxRecDepth 100000 in
set_option maxHeartbeats 8000000 in
theorem mk_obj {w : World} {mean : ExcName → Option Value} {mg mb : Str → Option Value} {dp un : Nat} {gd : Option (List Code)} {cn : Str} {cs : Scope} {a : Addr} {ccd : Value} {cl : List (Str × Addr)} {outer : List Env} {A₀ : Around} {base h₀ : Heap} {L : Addr} {m : Str → Option Value} {news : List (Addr × Obj)} {s : Shared} {Q E : Value → Shared → Prop} {nm knd : Str} {ty : Addr} {place : Int} {t1 t2 t3 : Tok}
    (B : Below A₀ base outer h₀) (F : Fr h₀ L s.heap m) (X : (KK w.params).In h₀) (T : Top VW LO mean mg mb h₀) (hk : cs.kind = .function) (N : News h₀ L s.heap news) (hdp : dp + 5 < recursionLimit) (hu : un + 400 < cLine)
    (ret : ∀ x dx des n h' tk', Fr h₀ L h' m → News h₀ L h' ((x, instObj 209 dx) :: (dx, dictOf des n) :: news) → (∀ p ∈ news, p.1 < dx) → dx < x → ObD des knd ty false → Q (.ref x) { s with heap := h', toks := tk' }) :
    wpAny (model PG w) (ktrTop dp un gd cn cs L a ccd cl outer) (call (.ref 209) [.str nm t1, .str knd t2, .ref ty, .int place t3]) Q E s := by
  w_on
  k_dflt (refine' call_cls ?k1 ?k2 ?k3 ?k4 ?k5 ?k6 ?_; (case k1 => k_asm); (case k2 => k_asm); (case k3 => k_asm); (case k4 => k_is); (case k5 => k_is); (case k6 => k_is); k_whole; intro x' d' h' F' N' l1 l2; have l0 := And.intro l1 l2; (try k_lt l1); (try k_lt2 l2); (try k_sweep); ktr_enter)
  k_steps
  exact ret _ _ _ _ _ _ (by k_asm) (newsSub (by k_asm) (by k_sub)) l0.1 l0.2 ⟨⟨_, rfl⟩, rfl, rfl, Nat.le_of_ble_eq_true rfl⟩

theorem setO_readonly {r' : Bool} {w : World} {A : Around} {E : Value → Shared → Prop} {Q : Unit → Shared → Prop} {s : Shared} {h₀ : Heap} {L x dx : Addr} {m : Str → Option Value} {big : List (Addr × Obj)} {g : Obj → List (Addr × Obj)} {des : List DictEntry} {n : Nat} {knd : Str} {ty : Addr} {ro r : Bool}
    (hr : r = r') (F : Fr h₀ L s.heap m) (X₀ : (KK w.params).In h₀) (N : News h₀ L s.heap big) (hx : (x, instObj 209 dx) ∈ big) (U : UpdF dx (dictOf des n) big g) (D : ObD des knd ty ro)
    (hs : findIn (KK w.params) (.ref 209) (Str.ofString "__setattr__") = some (some (.builtin "object.__setattr__"))) (hp : plainOver (KK w.params) 209 = true) (ht : takerIn (KK w.params) 209 (Str.ofString "readonly") = some none) (hh : hasDictIn (KK w.params) 209 = true)
    (h : ∀ h' des' n', Fr h₀ L h' m → News h₀ L h' (g (dictOf des' n')) → ObD des' knd ty r' → Q () { s with heap := h', toks := s.toks + 2 }) :
    wpAny (model PG w) A (setAttr (.ref x) (Str.ofString "readonly") (.bool r)) Q E s := by
  subst hr
  exact set_dict F X₀ N (InstAt.of_news N hx (updF_mem U)) rfl hs hp ht hh (by rw [D.ro]; rfl) rfl (updF_upd U _) (by rw [length_put D.ro]; exact Nat.le_trans D.sz (by decide)) fun h' F' N' => h h' _ _ F' N' D.putRo

theorem ln_p75_seg_3 : True := by
  k_with "setAttr ref" => (k_here; (with_reducible show wpAny _ _ (setAttr (Value.ref _) (PySem.Str.ofString "readonly") _) _ _ _); k_dflt (refine' setO_readonly ?zzq ?zzF ?zzX ?zzN ?zzx ?zzU ?zzD ?zza ?zzb ?zzc ?zze ?_; (case zzq => first | exact (by decide : _ = true) | exact (by decide : _ = false) | exact rfl); (case zzF => k_asm); (case zzX => k_asm); (case zzN => k_asm); (case zzx => k_mem); (case zzU => k_updF); (case zzD => assumption); (case zza => k_is); (case zzb => k_is); (case zzc => k_is); (case zze => k_is); k_whole; intro h' des' n' F' N' D'; (try k_sweep); (try dsimp only)))
  k_with "call ref" => (k_here; k_dflt (refine' mk_node5 ?zzB ?zzF ?zzX ?zzT ?zzK ?zzN ?zzv ?zzd ?zzu ?_; (case zzN => k_asm); (case zzv => first | exact rfl | assumption); (case zzB => k_asm); (case zzF => k_asm); (case zzX => k_asm); (case zzT => k_asm); (case zzK => first | exact rfl | assumption); (case zzd => ktr_room); (case zzu => ktr_units); k_whole; intro x' dx' des' n' h' tk' F' N' l1w l2w D'; (try k_lt l1w); (try k_lt2 l2w); (try k_sweep); (try dsimp only)))
  k_with "call ref" => (k_here; k_dflt (refine' mk_node4 ?zzB ?zzF ?zzX ?zzT ?zzK ?zzN ?zzd ?zzu ?_; (case zzN => k_asm);  (case zzB => k_asm); (case zzF => k_asm); (case zzX => k_asm); (case zzT => k_asm); (case zzK => first | exact rfl | assumption); (case zzd => ktr_room); (case zzu => ktr_units); k_whole; intro x' dx' des' n' h' tk' F' N' l1w l2w D'; (try k_lt l1w); (try k_lt2 l2w); (try k_sweep); (try dsimp only)))
  k_with "call ref" => (k_here; k_dflt (refine' mk_obj ?zzB ?zzF ?zzX ?zzT ?zzK ?zzN ?zzd ?zzu ?_; (case zzN => k_asm);  (case zzB => k_asm); (case zzF => k_asm); (case zzX => k_asm); (case zzT => k_asm); (case zzK => first | exact rfl | assumption); (case zzd => ktr_room); (case zzu => ktr_units); k_whole; intro x' dx' des' n' h' tk' F' N' l1w l2w D'; (try k_lt l1w); (try k_lt2 l2w); (try k_sweep); (try dsimp only)))
  trivial

def kndS (var : Bool) : Str := if var then Str.ofString "VAR" else Str.ofString "value"
set_option maxRecDepth 100000 in
set_option maxHeartbeats 8000000 in
theorem due_ok {w : World} {mean : ExcName → Option Value} {mg mb : Str → Option Value} {dp un : Nat} {gd : Option (List Code)} {cn : Str} {cs : Scope} {a : Addr} {ccd : Value} {cl : List (Str × Addr)} {outer : List Env} {A₀ : Around} {base h₀ : Heap} {L : Addr} {m : Str → Option Value} {news : List (Addr × Obj)} {s : Shared} {Q E : Value → Shared → Prop} {rec ro wr : Bool} (var : Bool) {form kd wf : Str} {l p j : Nat} {t1 t2 t3 t4 t5 t6 t7 : Tok}
    (B : Below A₀ base outer h₀) (F : Fr h₀ L s.heap m) (X : (KK w.params).In h₀) (T : Top VW LO mean mg mb h₀) (hk : cs.kind = .function) (N : News h₀ L s.heap news) (h1 : form = tyF rec) (h2 : kd = kndS var) (h3 : wf = tyF wr) (hdp : dp + 1 < recursionLimit) (hu : un + 400 < cLine)
    (ret : ∀ r t h' tk', r = passR rec ro l p var wr j → Fr h₀ L h' m → News h₀ L h' news → Q (.str r t) { s with heap := h', toks := tk' }) :
    wpAny (model PG w) (ktrTop dp un gd cn cs L a ccd cl outer) (call (.ref 263) [.str (Str.ofString "") t1, .int (p : Int) t2, .str form t3, .int (l : Int) t4, .bool ro, .str kd t5, .str wf t6, .int (j : Int) t7]) Q E s := by
  w_on
  subst h1 h2 h3
  cases rec <;> cases var <;> cases wr
  all_goals simp only [tyF, kndS, Bool.false_eq_true, if_false, if_true]
  all_goals refine wpAny_call ?_
  all_goals k_dflt ktr_enter
  all_goals k_steps
  all_goals exact ret _ _ _ _ (by simp_all [passR] <;> first | (intros; omega) | (intros; simp_all; done) | (intros; simp_all; omega)) (by k_asm) (newsSub (by k_asm) (by k_sub))

set_option maxRecDepth 100000 in
set_option maxHeartbeats 8000000 in
theorem due_nil {w : World} {mean : ExcName → Option Value} {mg mb : Str → Option Value} {dp un : Nat} {gd : Option (List Code)} {cn : Str} {cs : Scope} {a : Addr} {ccd : Value} {cl : List (Str × Addr)} {outer : List Env} {A₀ : Around} {base h₀ : Heap} {L : Addr} {m : Str → Option Value} {news : List (Addr × Obj)} {s : Shared} {Q E : Value → Shared → Prop} {ro wr : Bool} (var : Bool) {form kd wf : Str} {l p j : Nat} {t1 t2 t3 t4 t5 t6 t7 : Tok}
    (B : Below A₀ base outer h₀) (F : Fr h₀ L s.heap m) (X : (KK w.params).In h₀) (T : Top VW LO mean mg mb h₀) (hk : cs.kind = .function) (N : News h₀ L s.heap news) (h2 : kd = kndS var) (h3 : wf = tyF wr) (hdp : dp + 1 < recursionLimit) (hu : un + 400 < cLine)
    (ret : ∀ r t h' tk', r = passN var wr → Fr h₀ L h' m → News h₀ L h' news → Q (.str r t) { s with heap := h', toks := tk' }) :
    wpAny (model PG w) (ktrTop dp un gd cn cs L a ccd cl outer) (call (.ref 263) [.str (Str.ofString "nil") t1, .int (p : Int) t2, .str form t3, .int (l : Int) t4, .bool ro, .str kd t5, .str wf t6, .int (j : Int) t7]) Q E s := by
  w_on
  subst h2 h3
  cases var <;> cases wr
  all_goals simp only [tyF, kndS, Bool.false_eq_true, if_false, if_true]
  all_goals refine wpAny_call ?_
  all_goals k_dflt ktr_enter
  all_goals k_steps
  all_goals exact ret _ _ _ _ (by simp_all [passN]) (by k_asm) (newsSub (by k_asm) (by k_sub))

theorem item_two {w : World} {A : Around} {E : Value → Shared → Prop} {Q : Value → Shared → Prop} {s : Shared} {h₀ : Heap} {L row : Addr} {big : List (Addr × Obj)} {a b : Value} {n1 : Nat} {value slice : PySem.Expr} {k : Nat} {u : Tok}
    (N : News h₀ L s.heap big) (h1 : (row, W.listOf [a, b].toArray n1) ∈ big) (hk : k < 2) (h0 : Q a s) (h2 : Q b s)
    (hs : subscripted slice false (.ref row) (.int (k : Int) u) = operate [.ref row, .int (k : Int) u] (getItem (.ref row) (.int (k : Int) u)) := by with_unfolding_all rfl) :
    wpAny (model PG w) A (subscriptTail value slice (.ref row) (.int (k : Int) u)) Q E s := by
  have h3 : k = 0 ∨ k = 1 := by omega
  rcases h3 with rfl | rfl
  · exact item_lit N h1 (by omega) (by omega) rfl h0 hs
  · exact item_lit N h1 (by omega) (by omega) rfl h2 hs

theorem ln_p78_tailD_0 : True := by
  k_with "subscriptTail List" => (k_here; (with_reducible show wpAny _ _ (subscriptTail _ _ (Value.ref _) (Value.int _ _)) _ _ _); k_dflt (refine' item_lit ?zzk1 ?zzk2 ?zzk4 ?zzk5 ?zzk6 ?_; (case zzk1 => k_asm); (case zzk2 => k_mem); (case zzk4 => decide); (case zzk5 => decide); (case zzk6 => exact rfl); k_whole))
  k_with "subscriptTail List" => (k_here; (with_reducible show wpAny _ _ (subscriptTail _ _ (Value.ref _) (Value.int (Nat.cast _) _)) _ _ _); k_dflt (refine' item_two ?zzk1 ?zzk2 ?zzk3 ?_ ?_; (case zzk1 => k_asm); (case zzk2 => k_mem); (case zzk3 => first | assumption | omega)))
  k_with "call ref" => (k_here; k_dflt (first | (refine' due_ok true (wr := true) ?zzB ?zzF ?zzX ?zzT ?zzK ?zzN ?zze ?zzf ?zzg ?zzd ?zzu ?_; (case zze => exact rfl); (case zzf => exact rfl); (case zzg => exact rfl); (case zzB => k_asm); (case zzF => k_asm); (case zzX => k_asm); (case zzT => k_asm); (case zzK => first | exact rfl | assumption); (case zzN => k_asm); (case zzd => ktr_room); (case zzu => ktr_units); k_whole; intro r' t' h' tk' e' F' N'; (try k_sweep); (try dsimp only)) | (refine' due_ok true (wr := false) ?zzB ?zzF ?zzX ?zzT ?zzK ?zzN ?zze ?zzf ?zzg ?zzd ?zzu ?_; (case zze => exact rfl); (case zzf => exact rfl); (case zzg => exact rfl); (case zzB => k_asm); (case zzF => k_asm); (case zzX => k_asm); (case zzT => k_asm); (case zzK => first | exact rfl | assumption); (case zzN => k_asm); (case zzd => ktr_room); (case zzu => ktr_units); k_whole; intro r' t' h' tk' e' F' N'; (try k_sweep); (try dsimp only)) | (refine' due_ok false (wr := true) ?zzB ?zzF ?zzX ?zzT ?zzK ?zzN ?zze ?zzf ?zzg ?zzd ?zzu ?_; (case zze => exact rfl); (case zzf => exact rfl); (case zzg => exact rfl); (case zzB => k_asm); (case zzF => k_asm); (case zzX => k_asm); (case zzT => k_asm); (case zzK => first | exact rfl | assumption); (case zzN => k_asm); (case zzd => ktr_room); (case zzu => ktr_units); k_whole; intro r' t' h' tk' e' F' N'; (try k_sweep); (try dsimp only)) | (refine' due_ok false (wr := false) ?zzB ?zzF ?zzX ?zzT ?zzK ?zzN ?zze ?zzf ?zzg ?zzd ?zzu ?_; (case zze => exact rfl); (case zzf => exact rfl); (case zzg => exact rfl); (case zzB => k_asm); (case zzF => k_asm); (case zzX => k_asm); (case zzT => k_asm); (case zzK => first | exact rfl | assumption); (case zzN => k_asm); (case zzd => ktr_room); (case zzu => ktr_units); k_whole; intro r' t' h' tk' e' F' N'; (try k_sweep); (try dsimp only))))
  k_with "call ref" => (k_here; k_dflt (first | (refine' due_nil true (wr := true) ?zzB ?zzF ?zzX ?zzT ?zzK ?zzN ?zzf ?zzg ?zzd ?zzu ?_; (case zzf => exact rfl); (case zzg => exact rfl); (case zzB => k_asm); (case zzF => k_asm); (case zzX => k_asm); (case zzT => k_asm); (case zzK => first | exact rfl | assumption); (case zzN => k_asm); (case zzd => ktr_room); (case zzu => ktr_units); k_whole; intro r' t' h' tk' e' F' N'; (try k_sweep); (try dsimp only)) | (refine' due_nil true (wr := false) ?zzB ?zzF ?zzX ?zzT ?zzK ?zzN ?zzf ?zzg ?zzd ?zzu ?_; (case zzf => exact rfl); (case zzg => exact rfl); (case zzB => k_asm); (case zzF => k_asm); (case zzX => k_asm); (case zzT => k_asm); (case zzK => first | exact rfl | assumption); (case zzN => k_asm); (case zzd => ktr_room); (case zzu => ktr_units); k_whole; intro r' t' h' tk' e' F' N'; (try k_sweep); (try dsimp only)) | (refine' due_nil false (wr := true) ?zzB ?zzF ?zzX ?zzT ?zzK ?zzN ?zzf ?zzg ?zzd ?zzu ?_; (case zzf => exact rfl); (case zzg => exact rfl); (case zzB => k_asm); (case zzF => k_asm); (case zzX => k_asm); (case zzT => k_asm); (case zzK => first | exact rfl | assumption); (case zzN => k_asm); (case zzd => ktr_room); (case zzu => ktr_units); k_whole; intro r' t' h' tk' e' F' N'; (try k_sweep); (try dsimp only)) | (refine' due_nil false (wr := false) ?zzB ?zzF ?zzX ?zzT ?zzK ?zzN ?zzf ?zzg ?zzd ?zzu ?_; (case zzf => exact rfl); (case zzg => exact rfl); (case zzB => k_asm); (case zzF => k_asm); (case zzX => k_asm); (case zzT => k_asm); (case zzK => first | exact rfl | assumption); (case zzN => k_asm); (case zzd => ktr_room); (case zzu => ktr_units); k_whole; intro r' t' h' tk' e' F' N'; (try k_sweep); (try dsimp only))))
  k_with "call ref" => (k_here; k_dflt (refine' pass_var ?zzB ?zzF ?zzX ?zzT ?zzK ?zzN ?zzhT ?zzhN ?zzn ?zzo ?zzj ?zzd ?zzu ?_; (case zzN => k_asm); (case zzo => exact ObD.at (by assumption) (by k_mem) (by k_mem)); (case zzhT => exact Tys.mono (by assumption) (by k_sub)); (case zzhN => exact Nd.mono (by assumption) (by k_sub)); (case zzn => assumption); (case zzj => first | assumption | omega); (case zzB => k_asm); (case zzF => k_asm); (case zzX => k_asm); (case zzT => k_asm); (case zzK => first | exact rfl | assumption); (case zzd => ktr_room); (case zzu => ktr_units); k_whole; intro r' t' h' tk' e' F' N'; (try k_sweep); (try dsimp only)))
  k_with "call ref" => (k_here; k_dflt (refine' pass_valR ?zzB ?zzF ?zzX ?zzT ?zzK ?zzN ?zzhT ?zzhN ?zzn ?zzo ?zzj ?zzd ?zzu ?_; (case zzN => k_asm); (case zzo => exact ObD.at (by assumption) (by k_mem) (by k_mem)); (case zzhT => exact Tys.mono (by assumption) (by k_sub)); (case zzhN => exact Nd.mono (by assumption) (by k_sub)); (case zzn => assumption); (case zzj => first | assumption | omega); (case zzB => k_asm); (case zzF => k_asm); (case zzX => k_asm); (case zzT => k_asm); (case zzK => first | exact rfl | assumption); (case zzd => ktr_room); (case zzu => ktr_units); k_whole; intro r' t' h' tk' e' F' N'; (try k_sweep); (try dsimp only)))
  k_with "call ref" => (k_here; k_dflt (refine' pass_valP ?zzB ?zzF ?zzX ?zzT ?zzK ?zzN ?zzhT ?zzhN ?zzn ?zzo ?zzj ?zzd ?zzu ?_; (case zzN => k_asm); (case zzo => exact ObD.at (by assumption) (by k_mem) (by k_mem)); (case zzhT => exact Tys.mono (by assumption) (by k_sub)); (case zzhN => exact Nd.mono (by assumption) (by k_sub)); (case zzn => assumption); (case zzj => first | assumption | omega); (case zzB => k_asm); (case zzF => k_asm); (case zzX => k_asm); (case zzT => k_asm); (case zzK => first | exact rfl | assumption); (case zzd => ktr_room); (case zzu => ktr_units); k_whole; intro r' t' h' tk' e' F' N'; (try k_sweep); (try dsimp only)))
  k_with "call ref" => (k_here; k_dflt (refine' pass_nilV ?zzB ?zzF ?zzX ?zzT ?zzK ?zzN ?zzhT ?zzhN ?zzm ?zzo ?zzj ?zzd ?zzu ?_; (case zzN => k_asm); (case zzo => exact ObD.at (by assumption) (by k_mem) (by k_mem)); (case zzhT => exact Tys.mono (by assumption) (by k_sub)); (case zzhN => exact NodeAt.mono (by assumption) (by k_sub)); (case zzm => exact TyAt.mono (by assumption) (by k_sub)); (case zzj => first | assumption | omega); (case zzB => k_asm); (case zzF => k_asm); (case zzX => k_asm); (case zzT => k_asm); (case zzK => first | exact rfl | assumption); (case zzd => ktr_room); (case zzu => ktr_units); k_whole; intro r' t' h' tk' e' F' N'; (try k_sweep); (try dsimp only)))
  k_with "call ref" => (k_here; k_dflt (refine' pass_nilR ?zzB ?zzF ?zzX ?zzT ?zzK ?zzN ?zzhT ?zzhN ?zzm ?zzo ?zzj ?zzd ?zzu ?_; (case zzN => k_asm); (case zzo => exact ObD.at (by assumption) (by k_mem) (by k_mem)); (case zzhT => exact Tys.mono (by assumption) (by k_sub)); (case zzhN => exact NodeAt.mono (by assumption) (by k_sub)); (case zzm => exact TyAt.mono (by assumption) (by k_sub)); (case zzj => first | assumption | omega); (case zzB => k_asm); (case zzF => k_asm); (case zzX => k_asm); (case zzT => k_asm); (case zzK => first | exact rfl | assumption); (case zzd => ktr_room); (case zzu => ktr_units); k_whole; intro r' t' h' tk' e' F' N'; (try k_sweep); (try dsimp only)))
  k_with "call ref" => (k_here; k_dflt (refine' pass_nilP ?zzB ?zzF ?zzX ?zzT ?zzK ?zzN ?zzhT ?zzhN ?zzm ?zzq ?zzo ?zzj ?zzd ?zzu ?_; (case zzN => k_asm); (case zzo => exact ObD.at (by assumption) (by k_mem) (by k_mem)); (case zzhT => exact Tys.mono (by assumption) (by k_sub)); (case zzhN => exact NodeAt.mono (by assumption) (by k_sub)); (case zzm => exact TyAt.mono (by assumption) (by k_sub)); (case zzq => assumption); (case zzj => first | assumption | omega); (case zzB => k_asm); (case zzF => k_asm); (case zzX => k_asm); (case zzT => k_asm); (case zzK => first | exact rfl | assumption); (case zzd => ktr_room); (case zzu => ktr_units); k_whole; intro r' t' h' tk' e' F' N'; (try k_sweep); (try dsimp only)))
  trivial

theorem p_ite {c : Bool} {a b : Prop} (hc : c = true) (h : a) : if c = true then a else b := by rw [if_pos hc]; exact h
theorem n_ite {c : Bool} {a b : Prop} (hc : c = false) (h : b) : if c = true then a else b := by rw [hc]; exact h
theorem beqI_false {a b : Int} (h : ¬ (a = b)) : (a == b) = false := by simpa using h
theorem beqI_true {a b : Int} (h : a = b) : (a == b) = true := by simpa using h

theorem ln_p78_tailD_1 : True := by
  k_with "ite" => (k_here; k_dflt (first | (refine n_ite (beqI_false ?_) ?_; (first | with_reducible assumption | omega)) | (refine p_ite (beqI_true ?_) ?_; (first | with_reducible assumption | omega))))
  trivial

theorem q_flow {Q : Flow → Shared → Prop} {s : Shared} {b : Bool} (e : b = true) (h : Q (.ret (.bool true)) s) : Q (.ret (.bool b)) s := e ▸ h

set_option maxRecDepth 100000 in
set_option maxHeartbeats 8000000 in
theorem tail_ok {w : World} {mean : ExcName → Option Value} {mg mb : Str → Option Value} {dp un : Nat} {gd : Option (List Code)} {cn : Str} {cs : Scope} {a : Addr} {ccd : Value} {cl : List (Str × Addr)} {outer : List Env} {A₀ : Around} {base h₀ : Heap} {L fa : Addr} {cd : Value} {mm : Str → Option Value} {news : List (Addr × Obj)} {s : Shared} {Q : Flow → Shared → Prop} {E : Value → Shared → Prop}
    {st row rl pl x : Addr} {ws : List Value} {ns : List Int} {i n1 n2 so l p n : Nat} {R P : Nat → Addr} {rec ro : Bool} {t1 t2 t3 t4 t5 : Tok}
    (B : Below A₀ base outer h₀) (X : (KK w.params).In h₀) (T : Top VW LO mean mg mb h₀) (hk : cs.kind = .function)
    (F : Fr h₀ L s.heap (ov [(Str.ofString "state", .ref st), (Str.ofString "records", .ref rl), (Str.ofString "pointers", .ref pl), (Str.ofString "sort", .int (so : Int) t2), (Str.ofString "place_level", .int (p : Int) t3), (Str.ofString "form", .str (tyF rec) t4), (Str.ofString "level", .int (l : Int) t5), (Str.ofString "readonly", .bool ro), (Str.ofString "node", .ref x)] mm))
    (N : News h₀ L s.heap ((st, W.listOf #[.ref row, .int (i : Int) t1] 0) :: news)) (hoff : ∀ p ∈ news, p.1 ≠ st) (hrow : (row, W.listOf ws.toArray 0) ∈ news) (hI : IntsAre ws ns) (hlen : ns.length ≤ 40) (hne : row ≠ st) (hi : i ≤ 20)
    (hrl : (rl, W.listOf [Value.ref (tyA R P true 0), Value.ref (tyA R P true 1), Value.ref (tyA R P true 2)].toArray n1) ∈ news) (hpl : (pl, W.listOf [Value.ref (tyA R P false 0), Value.ref (tyA R P false 1), Value.ref (tyA R P false 2)].toArray n2) ∈ news)
    (hT : Tys news R P) (hN : Nd news R P x rec l p ro n) (hn : n ≤ 3) (hso : ¬ ((so : Int) = 3)) (hdp : dp + 200 < recursionLimit) (hu : un + 4000 < cLine)
    (ret : ∀ h' tk' m', Fr h₀ L h' m' → Q (.ret (.bool true)) { s with heap := h', toks := tk' }) :
    wpAny (model PG w) (ktrTop dp un gd cn cs L a ccd cl outer) (execs (lawBody.drop 14) (envOf (Str.ofString "law") lawScope L fa cd)) Q E s := by
  w_on
  (simp only [lawBody, lawScope]; delta PySem.Challenge.pw_pq0750_01; simp only [fnBody, fnScope, List.getLast?_cons_cons, List.getLast?_singleton, List.drop_succ_cons, List.drop_zero, List.take_succ_cons, List.take_zero])
  simp only [ov] at F
  k_steps
  all_goals exact q_flow (by subst_vars; simp) (ret _ _ _ (by k_asm))

set_option maxRecDepth 100000 in
set_option maxHeartbeats 8000000 in
theorem tail_nil {w : World} {mean : ExcName → Option Value} {mg mb : Str → Option Value} {dp un : Nat} {gd : Option (List Code)} {cn : Str} {cs : Scope} {a : Addr} {ccd : Value} {cl : List (Str × Addr)} {outer : List Env} {A₀ : Around} {base h₀ : Heap} {L fa : Addr} {cd : Value} {mm : Str → Option Value} {news : List (Addr × Obj)} {s : Shared} {Q : Flow → Shared → Prop} {E : Value → Shared → Prop}
    {st row rl pl x : Addr} {ws : List Value} {ns : List Int} {i n1 n2 so l p : Nat} {R P : Nat → Addr} {ro : Bool} {fs : Str} {nl kl : Addr} {num : Int} {t1 t2 t3 t4 t5 : Tok}
    (B : Below A₀ base outer h₀) (X : (KK w.params).In h₀) (T : Top VW LO mean mg mb h₀) (hk : cs.kind = .function)
    (F : Fr h₀ L s.heap (ov [(Str.ofString "state", .ref st), (Str.ofString "records", .ref rl), (Str.ofString "pointers", .ref pl), (Str.ofString "sort", .int (so : Int) t2), (Str.ofString "place_level", .int (p : Int) t3), (Str.ofString "form", .str fs t4), (Str.ofString "level", .int (l : Int) t5), (Str.ofString "readonly", .bool ro), (Str.ofString "node", .ref x)] mm))
    (N : News h₀ L s.heap ((st, W.listOf #[.ref row, .int (i : Int) t1] 0) :: news)) (hoff : ∀ p ∈ news, p.1 ≠ st) (hrow : (row, W.listOf ws.toArray 0) ∈ news) (hI : IntsAre ws ns) (hlen : ns.length ≤ 40) (hne : row ≠ st) (hi : i ≤ 20)
    (hrl : (rl, W.listOf [Value.ref (tyA R P true 0), Value.ref (tyA R P true 1), Value.ref (tyA R P true 2)].toArray n1) ∈ news) (hpl : (pl, W.listOf [Value.ref (tyA R P false 0), Value.ref (tyA R P false 1), Value.ref (tyA R P false 2)].toArray n2) ∈ news)
    (hT : Tys news R P) (hN : NodeAt news x (Str.ofString "const") nl kl .none) (hnl : TyAt news nl num (Str.ofString "nil") .none) (hnum : num < 8) (hso : (so : Int) = 3) (hdp : dp + 200 < recursionLimit) (hu : un + 4000 < cLine)
    (ret : ∀ h' tk' m', Fr h₀ L h' m' → Q (.ret (.bool true)) { s with heap := h', toks := tk' }) :
    wpAny (model PG w) (ktrTop dp un gd cn cs L a ccd cl outer) (execs (lawBody.drop 14) (envOf (Str.ofString "law") lawScope L fa cd)) Q E s := by
  w_on
  (simp only [lawBody, lawScope]; delta PySem.Challenge.pw_pq0750_01; simp only [fnBody, fnScope, List.getLast?_cons_cons, List.getLast?_singleton, List.drop_succ_cons, List.drop_zero, List.take_succ_cons, List.take_zero])
  simp only [ov] at F
  k_steps
  all_goals exact q_flow (by subst_vars; simp) (ret _ _ _ (by k_asm))


def offL (st : Addr) (big : List (Addr × Obj)) : List (Addr × Obj) := big.filter fun p => decide (p.1 ≠ st)
theorem mem_off {st a : Addr} {o : Obj} {big : List (Addr × Obj)} (h : (a, o) ∈ big) (hne : a ≠ st) : (a, o) ∈ offL st big := List.mem_filter.mpr ⟨h, by simpa using hne⟩
theorem sub_off {st : Addr} {news big : List (Addr × Obj)} (hs : ∀ p ∈ news, p ∈ big) (ho : ∀ p ∈ news, p.1 ≠ st) : ∀ p ∈ news, p ∈ offL st big := fun p hp => mem_off (hs p hp) (ho p hp)
theorem NodeAt.off {st x dx ty kl : Addr} {i d : Obj} {big : List (Addr × Obj)} {op : Str} {val : Value} (D : NodeAt [(x, i), (dx, d)] x op ty kl val) (h1 : (x, i) ∈ big) (h2 : (dx, d) ∈ big) (n1 : x ≠ st) (n2 : dx ≠ st) : NodeAt (offL st big) x op ty kl val :=
  D.mono fun p hp => by
    rcases List.mem_cons.mp hp with rfl | hp
    · exact mem_off h1 n1
    · rcases List.mem_cons.mp hp with rfl | hp
      · exact mem_off h2 n2
      · exact nomatch hp

/-- what stands before the last part of the law: a node to be asked, or NIL -/
inductive J2 (h₀ : Heap) (L row rl pl : Addr) (R P : Nat → Addr) (ws : List Value) (n1 n2 : Nat) (s : Shared) : Shared → Prop
  | ok {h : Heap} {tk : Nat} {mm : Str → Option Value} {news : List (Addr × Obj)} {st x : Addr} {i so l p n : Nat} (rec : Bool) {ro : Bool} {t1 t2 t3 t4 t5 : Tok}
    (F : Fr h₀ L h (ov [(Str.ofString "state", .ref st), (Str.ofString "records", .ref rl), (Str.ofString "pointers", .ref pl), (Str.ofString "sort", .int (so : Int) t2), (Str.ofString "place_level", .int (p : Int) t3), (Str.ofString "form", .str (tyF rec) t4), (Str.ofString "level", .int (l : Int) t5), (Str.ofString "readonly", .bool ro), (Str.ofString "node", .ref x)] mm))
    (N : News h₀ L h ((st, W.listOf #[.ref row, .int (i : Int) t1] 0) :: news)) (hoff : ∀ p ∈ news, p.1 ≠ st) (hrow : (row, W.listOf ws.toArray 0) ∈ news) (hne : row ≠ st) (hi : i ≤ 20)
    (hrl : (rl, W.listOf [Value.ref (tyA R P true 0), Value.ref (tyA R P true 1), Value.ref (tyA R P true 2)].toArray n1) ∈ news) (hpl : (pl, W.listOf [Value.ref (tyA R P false 0), Value.ref (tyA R P false 1), Value.ref (tyA R P false 2)].toArray n2) ∈ news)
    (hT : Tys news R P) (hN : Nd news R P x rec l p ro n) (hn : n ≤ 3) (hso : ¬ ((so : Int) = 3)) : J2 h₀ L row rl pl R P ws n1 n2 s { s with heap := h, toks := tk }
  | nil {h : Heap} {tk : Nat} {mm : Str → Option Value} {news : List (Addr × Obj)} {st x nl kl : Addr} {i so l p : Nat} {ro : Bool} {fs : Str} {num : Int} {t1 t2 t3 t4 t5 : Tok}
    (F : Fr h₀ L h (ov [(Str.ofString "state", .ref st), (Str.ofString "records", .ref rl), (Str.ofString "pointers", .ref pl), (Str.ofString "sort", .int (so : Int) t2), (Str.ofString "place_level", .int (p : Int) t3), (Str.ofString "form", .str fs t4), (Str.ofString "level", .int (l : Int) t5), (Str.ofString "readonly", .bool ro), (Str.ofString "node", .ref x)] mm))
    (N : News h₀ L h ((st, W.listOf #[.ref row, .int (i : Int) t1] 0) :: news)) (hoff : ∀ p ∈ news, p.1 ≠ st) (hrow : (row, W.listOf ws.toArray 0) ∈ news) (hne : row ≠ st) (hi : i ≤ 20)
    (hrl : (rl, W.listOf [Value.ref (tyA R P true 0), Value.ref (tyA R P true 1), Value.ref (tyA R P true 2)].toArray n1) ∈ news) (hpl : (pl, W.listOf [Value.ref (tyA R P false 0), Value.ref (tyA R P false 1), Value.ref (tyA R P false 2)].toArray n2) ∈ news)
    (hT : Tys news R P) (hN : NodeAt news x (Str.ofString "const") nl kl .none) (hnl : TyAt news nl num (Str.ofString "nil") .none) (hnum : num < 8) (hso : (so : Int) = 3) : J2 h₀ L row rl pl R P ws n1 n2 s { s with heap := h, toks := tk }

theorem J2.okB {h₀ h : Heap} {L row rl pl st x : Addr} {R P : Nat → Addr} {ws : List Value} {n1 n2 i so l p n tk : Nat} {s : Shared} {news big : List (Addr × Obj)} {m : Str → Option Value} (rec : Bool) {ro : Bool} {t1 t2 t3 t4 t5 : Tok}
    (F : Fr h₀ L h m) (N : News h₀ L h big) (hst : (st, W.listOf #[.ref row, .int (i : Int) t1] 0) ∈ big) (hs : ∀ p ∈ news, p ∈ big) (hoff : ∀ p ∈ news, p.1 ≠ st)
    (hm : ∀ q ∈ [(Str.ofString "state", Value.ref st), (Str.ofString "records", .ref rl), (Str.ofString "pointers", .ref pl), (Str.ofString "sort", .int (so : Int) t2), (Str.ofString "place_level", .int (p : Int) t3), (Str.ofString "form", .str (tyF rec) t4), (Str.ofString "level", .int (l : Int) t5), (Str.ofString "readonly", .bool ro), (Str.ofString "node", .ref x)], m q.1 = some q.2)
    (hrow : (row, W.listOf ws.toArray 0) ∈ news) (hne : row ≠ st) (hi : i ≤ 20)
    (hrl : (rl, W.listOf [Value.ref (tyA R P true 0), Value.ref (tyA R P true 1), Value.ref (tyA R P true 2)].toArray n1) ∈ news) (hpl : (pl, W.listOf [Value.ref (tyA R P false 0), Value.ref (tyA R P false 1), Value.ref (tyA R P false 2)].toArray n2) ∈ news)
    (hT : Tys news R P) (hN : Nd (offL st big) R P x rec l p ro n) (hn : n ≤ 3) (hso : ¬ ((so : Int) = 3)) : EndJ (J2 h₀ L row rl pl R P ws n1 n2 s) .next { s with heap := h, toks := tk } :=
  .intro (.ok rec (frOv F hm) (newsSub N fun p hp => (List.mem_cons.mp hp).elim (fun e => e ▸ hst) fun h => (List.mem_filter.mp h).1) (fun p hp => by simpa using (List.mem_filter.mp hp).2) (sub_off hs hoff _ hrow) hne hi (sub_off hs hoff _ hrl) (sub_off hs hoff _ hpl) (hT.mono (sub_off hs hoff)) hN hn hso)
theorem J2.nilB {h₀ h : Heap} {L row rl pl st x nl kl : Addr} {R P : Nat → Addr} {ws : List Value} {n1 n2 i so l p tk : Nat} {s : Shared} {news big : List (Addr × Obj)} {m : Str → Option Value} {ro : Bool} {fs : Str} {num : Int} {t1 t2 t3 t4 t5 : Tok}
    (F : Fr h₀ L h m) (N : News h₀ L h big) (hst : (st, W.listOf #[.ref row, .int (i : Int) t1] 0) ∈ big) (hs : ∀ p ∈ news, p ∈ big) (hoff : ∀ p ∈ news, p.1 ≠ st)
    (hm : ∀ q ∈ [(Str.ofString "state", Value.ref st), (Str.ofString "records", .ref rl), (Str.ofString "pointers", .ref pl), (Str.ofString "sort", .int (so : Int) t2), (Str.ofString "place_level", .int (p : Int) t3), (Str.ofString "form", .str fs t4), (Str.ofString "level", .int (l : Int) t5), (Str.ofString "readonly", .bool ro), (Str.ofString "node", .ref x)], m q.1 = some q.2)
    (hrow : (row, W.listOf ws.toArray 0) ∈ news) (hne : row ≠ st) (hi : i ≤ 20)
    (hrl : (rl, W.listOf [Value.ref (tyA R P true 0), Value.ref (tyA R P true 1), Value.ref (tyA R P true 2)].toArray n1) ∈ news) (hpl : (pl, W.listOf [Value.ref (tyA R P false 0), Value.ref (tyA R P false 1), Value.ref (tyA R P false 2)].toArray n2) ∈ news)
    (hT : Tys news R P) (hN : NodeAt (offL st big) x (Str.ofString "const") nl kl .none) (hnl : TyAt news nl num (Str.ofString "nil") .none) (hnum : num < 8) (hso : (so : Int) = 3) : EndJ (J2 h₀ L row rl pl R P ws n1 n2 s) .next { s with heap := h, toks := tk } :=
  .intro (.nil (frOv F hm) (newsSub N fun p hp => (List.mem_cons.mp hp).elim (fun e => e ▸ hst) fun h => (List.mem_filter.mp h).1) (fun p hp => by simpa using (List.mem_filter.mp hp).2) (sub_off hs hoff _ hrow) hne hi (sub_off hs hoff _ hrl) (sub_off hs hoff _ hpl) (hT.mono (sub_off hs hoff)) hN (hnl.mono (sub_off hs hoff)) hnum hso)

theorem Nd.guardB {news : List (Addr × Obj)} {R P : Nat → Addr} {x y kl : Addr} {val : Value} {rec ro : Bool} {l l' p n kn : Nat} (D : NodeAt news x (Str.ofString "guard") (tyA R P rec l) kl val) (h : (kl, W.listOf [Value.ref y].toArray kn) ∈ news) (hl : l < 3) (r : Nd news R P y rec l' p ro n) : Nd news R P x rec l p ro (n + 1) := .guard hl D h r
theorem Nd.varB {news : List (Addr × Obj)} {R P : Nat → Addr} {x kl one ty : Addr} {knd : Str} {rec ro : Bool} {l : Nat} (D : NodeAt news x (Str.ofString "var") (tyA R P rec l) kl (.ref one)) (O : ObjAt news one knd ty ro) (hl : l < 3) : Nd news R P x rec l l ro 0 := .var hl D O
theorem Nd.derefB {news : List (Addr × Obj)} {R P : Nat → Addr} {x kl : Addr} {l p : Nat} (D : NodeAt news x (Str.ofString "deref") (tyA R P true l) kl .none) (hl : l < 3) : Nd news R P x true l p false 0 := .deref hl D

/-- a ledger without one entry: the others by their classes, the unwritten rest by its addresses -/
inductive OffC (I : Addr) (it : Obj) : List (Addr × Obj) → Prop
  | cons {a : Addr} {o : Obj} {r : List (Addr × Obj)} : o.cls ≠ it.cls → OffC I it r → OffC I it ((a, o) :: r)
  | rest {r : List (Addr × Obj)} : (∀ p ∈ r, p.1 ≠ I) → OffC I it r
inductive Rem (I : Addr) (it : Obj) : List (Addr × Obj) → List (Addr × Obj) → Prop
  | head {r : List (Addr × Obj)} : OffC I it r → Rem I it ((I, it) :: r) r
  | tail {a : Addr} {o : Obj} {r r' : List (Addr × Obj)} : o.cls ≠ it.cls → Rem I it r r' → Rem I it ((a, o) :: r) ((a, o) :: r')
theorem OffC.off {h₀ h : Heap} {L I : Addr} {it : Obj} {all : List (Addr × Obj)} (N : News h₀ L h all) (hI : (I, it) ∈ all) : ∀ {r : List (Addr × Obj)}, OffC I it r → (∀ p ∈ r, p ∈ all) → ∀ p ∈ r, p.1 ≠ I := by
  intro r h
  induction h with
  | cons hc _ ih =>
    intro hs p hp
    rcases List.mem_cons.mp hp with rfl | hp
    · exact news_ne N (hs _ (.head _)) hI hc
    · exact ih (fun p hp => hs _ (.tail _ hp)) p hp
  | rest h => exact fun _ => h
theorem Rem.sub {h₀ h : Heap} {L I : Addr} {it : Obj} {all : List (Addr × Obj)} (N : News h₀ L h all) (hI : (I, it) ∈ all) : ∀ {l news : List (Addr × Obj)}, Rem I it l news → (∀ p ∈ l, p ∈ all) → (∀ p ∈ (I, it) :: news, p ∈ l) ∧ (∀ p ∈ news, p.1 ≠ I) := by
  intro l news R
  induction R with
  | head h => exact fun hs => ⟨fun p hp => hp, h.off N hI fun p hp => hs _ (.tail _ hp)⟩
  | tail hc _ ih =>
    intro hs
    have ih := ih fun p hp => hs _ (.tail _ hp)
    refine ⟨fun p hp => ?_, fun p hp => ?_⟩
    · rcases List.mem_cons.mp hp with rfl | hp
      · exact .tail _ (ih.1 _ (.head _))
      · rcases List.mem_cons.mp hp with rfl | hp
        · exact .head _
        · exact .tail _ (ih.1 _ (.tail _ hp))
    · rcases List.mem_cons.mp hp with rfl | hp
      · exact news_ne N (hs _ (.head _)) hI hc
      · exact ih.2 p hp
theorem Rem.mem {I : Addr} {it : Obj} {l news : List (Addr × Obj)} (R : Rem I it l news) : (I, it) ∈ l := by
  induction R with
  | head h => exact .head _
  | tail hc _ ih => exact .tail _ ih
theorem unrEnd_rem {h₀ : Heap} {L I : Addr} {it : Obj} {rest : (Str → Option Value) → List (Addr × Obj) → Prop} {s₁ : Shared} {h' : Heap} {tk : Nat} {m' : Str → Option Value} {all news' : List (Addr × Obj)} (F : Fr h₀ L h' m') (N : News h₀ L h' all)
    (R : Rem I it all news') (r : rest m' news') : UnrEnd h₀ L s₁ I it rest { s₁ with heap := h', toks := tk } :=
  UnrEnd.intro F N news' (R.sub N R.mem fun _ h => h).1 (R.sub N R.mem fun _ h => h).2 r

theorem ln_p79_seg2_0 : True := by
  k_with "UnrEnd" => (k_here; k_dflt (refine' unrEnd_rem ?zzF ?zzN ?zzR ?_; (case zzF => k_asm); (case zzN => k_asm); (case zzR => ((repeat' (first | refine' Rem.head ?_ | refine' Rem.tail (by k_cls) ?_)); (repeat' (first | refine' OffC.cons (by k_cls) ?_ | refine' OffC.rest (by k_all)))))); k_whole)
  k_with "exec For Name Call cons nil" => (k_here; (rename Fr _ _ _ _ => lF'); (with_unfolding_all refine' For_invVF lF' ?zzk1 ?zzk2 ?_; (case zzk1 => exact rfl); (case zzk2 => exact rfl); k_whole))
  k_with "getAttr ref" => (k_here; (with_reducible show wpAny _ _ (getAttr (Value.ref _) (PySem.Str.ofString "type") _) _ _ _); k_dflt (refine' getO_type ?zzF ?zzX ?zzN ?zzT ?zzs ?zzg ?zzd ?zza ?_; (case zzN => k_asm); (case zzs => exact fun _ h => h); (case zzT => exact ObD.at (by assumption) (by k_mem) (by k_mem)); (case zzF => k_asm); (case zzX => k_asm); (case zzg => k_is); (case zzd => k_is); (case zza => k_is); k_whole; (try dsimp only)))
  trivial

theorem list_ne0 {a b : Value} {n m : Nat} : W.listOf ([] : List Value).toArray n ≠ W.listOf [a, b].toArray m := by intro e; simp [W.listOf] at e
theorem list_ne1 {y a b : Value} {n m : Nat} : W.listOf [y].toArray n ≠ W.listOf [a, b].toArray m := by intro e; simp [W.listOf] at e
theorem ne_obj {h₀ h : Heap} {L a b : Addr} {o o' : Obj} {big : List (Addr × Obj)} (N : News h₀ L h big) (h1 : (a, o) ∈ big) (h2 : (b, o') ∈ big) (hc : o ≠ o') : a ≠ b := fun e => hc (by subst e; exact news_fun N h1 h2)
section
variable {h₀ h : Heap} {L st : Addr} {big : List (Addr × Obj)} {u v : Value} {n0 : Nat}
theorem offI {C a d : Addr} (N : News h₀ L h big) (hst : (st, W.listOf [u, v].toArray n0) ∈ big) (h1 : (a, instObj C d) ∈ big) : (a, instObj C d) ∈ offL st big := mem_off h1 (news_ne N h1 hst (by simp))
theorem offD {d : Addr} {es : List DictEntry} {n : Nat} (N : News h₀ L h big) (hst : (st, W.listOf [u, v].toArray n0) ∈ big) (h1 : (d, dictOf es n) ∈ big) : (d, dictOf es n) ∈ offL st big := mem_off h1 (news_ne N h1 hst (by simp))
theorem offK {k : Addr} {y : Value} {n : Nat} (N : News h₀ L h big) (hst : (st, W.listOf [u, v].toArray n0) ∈ big) (h1 : (k, W.listOf [y].toArray n) ∈ big) : (k, W.listOf [y].toArray n) ∈ offL st big := mem_off h1 (ne_obj N h1 hst list_ne1)
theorem NodeAt.offB {x dx ty kl : Addr} {es : List DictEntry} {n : Nat} {op : Str} {val : Value} (D : NodeAt [(x, instObj 32 dx), (dx, dictOf es n)] x op ty kl val) (N : News h₀ L h big) (hst : (st, W.listOf [u, v].toArray n0) ∈ big) (h1 : (x, instObj 32 dx) ∈ big) (h2 : (dx, dictOf es n) ∈ big) : NodeAt (offL st big) x op ty kl val :=
  D.off h1 h2 (news_ne N h1 hst (by simp)) (news_ne N h2 hst (by simp))
theorem ObD.offB {x dx ty : Addr} {es : List DictEntry} {n : Nat} {knd : Str} {ro : Bool} (D : ObD es knd ty ro) (N : News h₀ L h big) (hst : (st, W.listOf [u, v].toArray n0) ∈ big) (h1 : (x, instObj 209 dx) ∈ big) (h2 : (dx, dictOf es n) ∈ big) : ObjAt (offL st big) x knd ty ro :=
  D.at (offI N hst h1) (offD N hst h2)
end

/-- what stands between the parts: a node with its guards -/
inductive J3 (h₀ : Heap) (L row rl pl ts td nl : Addr) (R P : Nat → Addr) (ws : List Value) (n1 n2 : Nat) (s₀ : Shared) (so bi bn : Nat) : Shared → Prop
  | mk {h : Heap} {tk : Nat} {mm : Str → Option Value} {news : List (Addr × Obj)} {st x kd : Addr} {i l p n n3 : Nat} {rec ro : Bool} {t1 t2 t3 t4 t5 : Tok} {hc hk' c num : Int} {kc tc kk : Tok} {tl : List DictEntry}
    (F : Fr h₀ L h (ov [(Str.ofString "state", Value.ref st), (Str.ofString "types", .ref ts), (Str.ofString "records", .ref rl), (Str.ofString "pointers", .ref pl), (Str.ofString "sort", .int (so : Int) t2), (Str.ofString "place_level", .int (p : Int) t3), (Str.ofString "form", .str (tyF rec) t4), (Str.ofString "level", .int (l : Int) t5), (Str.ofString "readonly", .bool ro), (Str.ofString "node", .ref x)] mm))
    (N : News h₀ L h ((st, W.listOf #[.ref row, .int (i : Int) t1] 0) :: news)) (hoff : ∀ p ∈ news, p.1 ≠ st) (hrow : (row, W.listOf ws.toArray 0) ∈ news) (hne : row ≠ st) (hi : i ≤ bi)
    (hrl : (rl, W.listOf [Value.ref (tyA R P true 0), Value.ref (tyA R P true 1), Value.ref (tyA R P true 2)].toArray n1) ∈ news) (hpl : (pl, W.listOf [Value.ref (tyA R P false 0), Value.ref (tyA R P false 1), Value.ref (tyA R P false 2)].toArray n2) ∈ news)
    (hT : Tys news R P) (hts : (ts, instObj 245 td) ∈ news) (htd : (td, dictOf (cEnt hc kc c tc :: kEnt hk' kk kd :: tl) n3) ∈ news) (hnil : NilAt tl nl) (hnl : TyAt news nl num (Str.ofString "nil") .none) (hnum : num < 8)
    (hN : Nd news R P x rec l p ro n) (hn : n ≤ bn) (hrec : (rec = true ∧ (so : Int) = 2) ∨ (rec = false ∧ ¬ ((so : Int) = 2))) : J3 h₀ L row rl pl ts td nl R P ws n1 n2 s₀ so bi bn { s₀ with heap := h, toks := tk }

theorem J3.okB {h₀ : Heap} {L row rl pl ts td nl : Addr} {R P : Nat → Addr} {ws : List Value} {n1 n2 : Nat} {s₀ : Shared} {so bi bn : Nat} {h : Heap} {tk : Nat} {m : Str → Option Value} {news big : List (Addr × Obj)} {st x kd : Addr} {i l p n n3 : Nat} (rec : Bool) {ro : Bool} {t1 t2 t3 t4 t5 : Tok} {hc hk' c num : Int} {kc tc kk : Tok} {tl : List DictEntry}
    (F : Fr h₀ L h m) (N : News h₀ L h big) (hst : (st, W.listOf #[.ref row, .int (i : Int) t1] 0) ∈ big) (hs : ∀ p ∈ news, p ∈ big)
    (hm : ∀ q ∈ [(Str.ofString "state", Value.ref st), (Str.ofString "types", .ref ts), (Str.ofString "records", .ref rl), (Str.ofString "pointers", .ref pl), (Str.ofString "sort", .int (so : Int) t2), (Str.ofString "place_level", .int (p : Int) t3), (Str.ofString "form", .str (tyF rec) t4), (Str.ofString "level", .int (l : Int) t5), (Str.ofString "readonly", .bool ro), (Str.ofString "node", .ref x)], m q.1 = some q.2)
    (hoff : ∀ p ∈ news, p.1 ≠ st) (hrow : (row, W.listOf ws.toArray 0) ∈ news) (hne : row ≠ st) (hi : i ≤ bi)
    (hrl : (rl, W.listOf [Value.ref (tyA R P true 0), Value.ref (tyA R P true 1), Value.ref (tyA R P true 2)].toArray n1) ∈ news) (hpl : (pl, W.listOf [Value.ref (tyA R P false 0), Value.ref (tyA R P false 1), Value.ref (tyA R P false 2)].toArray n2) ∈ news)
    (hT : Tys news R P) (hts : (ts, instObj 245 td) ∈ news) (htd : (td, dictOf (cEnt hc kc c tc :: kEnt hk' kk kd :: tl) n3) ∈ news) (hnil : NilAt tl nl) (hnl : TyAt news nl num (Str.ofString "nil") .none) (hnum : num < 8)
    (hN : Nd (offL st big) R P x rec l p ro n) (hn : n ≤ bn) (hrec : (rec = true ∧ (so : Int) = 2) ∨ (rec = false ∧ ¬ ((so : Int) = 2))) : J3 h₀ L row rl pl ts td nl R P ws n1 n2 s₀ so bi bn { s₀ with heap := h, toks := tk } :=
  .mk (frOv F hm) (newsSub N fun p hp => (List.mem_cons.mp hp).elim (fun e => e ▸ hst) fun h => (List.mem_filter.mp h).1) (fun p hp => by simpa using (List.mem_filter.mp hp).2) (sub_off hs hoff _ hrow) hne hi (sub_off hs hoff _ hrl) (sub_off hs hoff _ hpl) (hT.mono (sub_off hs hoff)) (sub_off hs hoff _ hts) (sub_off hs hoff _ htd) hnil (hnl.mono (sub_off hs hoff)) hnum hN hn hrec

set_option maxRecDepth 100000 in
set_option maxHeartbeats 8000000 in
theorem segB {w : World} {mean : ExcName → Option Value} {mg mb : Str → Option Value} {dp un : Nat} {gd : Option (List Code)} {cn : Str} {cs : Scope} {a : Addr} {ccd : Value} {cl : List (Str × Addr)} {outer : List Env} {A₀ : Around} {base h₀ : Heap} {L fa : Addr} {cd : Value} {mm : Str → Option Value} {news : List (Addr × Obj)} {s : Shared}
    {st row rl pl ts td kd nl : Addr} {ws : List Value} {ns : List Int} {n1 n2 n3 : Nat} {R P : Nat → Addr} {t1 : Tok} {hc hk' c num : Int} {kc tc kk : Tok} {tl : List DictEntry}
    (B : Below A₀ base outer h₀) (X : (KK w.params).In h₀) (T : Top VW LO mean mg mb h₀) (hk : cs.kind = .function)
    (F : Fr h₀ L s.heap (ov [(Str.ofString "state", .ref st), (Str.ofString "types", .ref ts), (Str.ofString "records", .ref rl), (Str.ofString "pointers", .ref pl)] mm))
    (N : News h₀ L s.heap ((st, W.listOf #[.ref row, .int ((0 : Nat) : Int) t1] 0) :: news)) (hI : IntsAre ws ns) (hlen : ns.length ≤ 40)
    (hoff : ∀ p ∈ news, p.1 ≠ st) (hrow : (row, W.listOf ws.toArray 0) ∈ news) (hne : row ≠ st)
    (hrl : (rl, W.listOf [Value.ref (tyA R P true 0), Value.ref (tyA R P true 1), Value.ref (tyA R P true 2)].toArray n1) ∈ news) (hpl : (pl, W.listOf [Value.ref (tyA R P false 0), Value.ref (tyA R P false 1), Value.ref (tyA R P false 2)].toArray n2) ∈ news)
    (hT : Tys news R P) (hts : (ts, instObj 245 td) ∈ news) (htd : (td, dictOf (cEnt hc kc c tc :: kEnt hk' kk kd :: tl) n3) ∈ news) (hnil : NilAt tl nl) (hnl : TyAt news nl num (Str.ofString "nil") .none) (hnum : num < 8)
    (hdp : dp + 200 < recursionLimit) (hu : un + 4000 < cLine) :
    wpAny (model PG w) (ktrTop dp un gd cn cs L a ccd cl outer) (execs ((lawBody.drop 5).take 8) (envOf (Str.ofString "law") lawScope L fa cd)) (EndJ fun s' => ∃ so, J3 h₀ L row rl pl ts td nl R P ws n1 n2 s so 3 0 s') (fun _ _ => False) s := by
  w_on
  (simp only [lawBody, lawScope]; delta PySem.Challenge.pw_pq0750_01; simp only [fnBody, fnScope, List.getLast?_cons_cons, List.getLast?_singleton, List.drop_succ_cons, List.drop_zero, List.take_succ_cons, List.take_zero])
  simp only [ov] at F
  k_steps
  all_goals k_dflt (first | (refine' EndJ.intro ⟨_, J3.okB true ?F ?N ?st ?s ?m ?off ?row ?ne ?i ?rl ?pl ?T ?ts ?td ?nil ?nl ?num ?nd ?n ?rec⟩; (case F => k_asm); (case N => k_asm); (case T => assumption); (case off => assumption); (case m => ((repeat (refine List.forall_mem_cons.mpr ⟨rfl, ?_⟩)); exact List.forall_mem_nil _)); (case st => k_mem); (case s => k_sub); (case row => assumption); (case ne => assumption); (case i => omega); (case rl => assumption); (case pl => assumption); (case ts => assumption); (case td => assumption); (case nil => assumption); (case nl => assumption); (case num => assumption); (case nd => (repeat' (first | exact Nd.varB (NodeAt.offB (by with_reducible assumption) (by k_asm) (by k_mem) (by k_mem) (by k_mem)) (ObD.offB (by with_reducible assumption) (by k_asm) (by k_mem) (by k_mem) (by k_mem)) (by omega) | exact Nd.derefB (NodeAt.offB (by with_reducible assumption) (by k_asm) (by k_mem) (by k_mem) (by k_mem)) (by omega) | exact Nd.mono (by with_reducible assumption) (sub_off (by k_sub) (by assumption)) | refine' Nd.guardB (NodeAt.offB (by with_reducible assumption) (by k_asm) (by k_mem) (by k_mem) (by k_mem)) (offK (by k_asm) (by k_mem) (by k_mem)) (by omega) ?_))); (case n => omega); (case rec => first | assumption | exact Or.inl ⟨rfl, by omega⟩ | exact Or.inr ⟨rfl, by omega⟩)) | (refine' EndJ.intro ⟨_, J3.okB false ?F ?N ?st ?s ?m ?off ?row ?ne ?i ?rl ?pl ?T ?ts ?td ?nil ?nl ?num ?nd ?n ?rec⟩; (case F => k_asm); (case N => k_asm); (case T => assumption); (case off => assumption); (case m => ((repeat (refine List.forall_mem_cons.mpr ⟨rfl, ?_⟩)); exact List.forall_mem_nil _)); (case st => k_mem); (case s => k_sub); (case row => assumption); (case ne => assumption); (case i => omega); (case rl => assumption); (case pl => assumption); (case ts => assumption); (case td => assumption); (case nil => assumption); (case nl => assumption); (case num => assumption); (case nd => (repeat' (first | exact Nd.varB (NodeAt.offB (by with_reducible assumption) (by k_asm) (by k_mem) (by k_mem) (by k_mem)) (ObD.offB (by with_reducible assumption) (by k_asm) (by k_mem) (by k_mem) (by k_mem)) (by omega) | exact Nd.derefB (NodeAt.offB (by with_reducible assumption) (by k_asm) (by k_mem) (by k_mem) (by k_mem)) (by omega) | exact Nd.mono (by with_reducible assumption) (sub_off (by k_sub) (by assumption)) | refine' Nd.guardB (NodeAt.offB (by with_reducible assumption) (by k_asm) (by k_mem) (by k_mem) (by k_mem)) (offK (by k_asm) (by k_mem) (by k_mem)) (by omega) ?_))); (case n => omega); (case rec => first | assumption | exact Or.inl ⟨rfl, by omega⟩ | exact Or.inr ⟨rfl, by omega⟩)))


def elseOf : List Stmt → List Stmt
  | .If _ _ o _ :: _ => o
  | _ => []
noncomputable def elseBody : List Stmt := elseOf (lawBody.drop 13)

def forOf : List Stmt → List Stmt
  | .For _ _ b _ _ :: _ => b
  | _ => []
noncomputable def forBody : List Stmt := forOf elseBody

theorem rr_ind {prog : Program} {w : World} {A : Around} {E : Value → Shared → Prop} {s : Shared} {env : Env} {h₀ : Heap} {x : Str} {body : List Stmt} {Q : Flow → Shared → Prop} {I : Addr} {a : Int} {n : Nat} (J : Nat → (Str → Option Value) → List (Addr × Obj) → Prop)
    (fin : ∀ m news h tk, J n m news → Fr h₀ env.locals h m → News h₀ env.locals h news → Q .next { s with heap := h, toks := tk })
    (turn : ∀ i m news t h tk, i < n → J i m news → (∀ p ∈ news, p.1 ≠ I) → Fr h₀ env.locals h (fun y => if y = x then some (.int (a + (i : Int)) t) else m y) → News h₀ env.locals h ((I, itR (a + ((i + 1 : Nat) : Int)) ((n : Int) - ((i + 1 : Nat) : Int))) :: news) →
      wpAny (model prog w) A (execs body env) (UnrPost h₀ env.locals { s with heap := h, toks := tk } I (itR (a + ((i + 1 : Nat) : Int)) ((n : Int) - ((i + 1 : Nat) : Int))) (J (i + 1)) Q) E { s with heap := h, toks := tk }) :
    ∀ k i m news, k + i = n → (∀ p ∈ news, p.1 ≠ I) → J i m news → RangeRest prog w A E h₀ env x body Q s I a n k i m news := by
  intro k
  induction k with
  | zero =>
    intro i m news e _ j
    have e : i = n := by omega
    subst e
    exact RangeRest.zero fun h tk F N => fin m news h tk j F N
  | succ k ih =>
    intro i m news e ho j
    refine RangeRest.succ fun t h tk F N => wpAny_mono (turn i m news t h tk (by omega) j ho F N) (fun f s₂ p => ?_) fun _ _ e => e
    have go : UnrEnd h₀ env.locals { s with heap := h, toks := tk } I (itR (a + ((i + 1 : Nat) : Int)) ((n : Int) - ((i + 1 : Nat) : Int))) (J (i + 1)) s₂ → UnrEnd h₀ env.locals { s with heap := h, toks := tk } I (itR (a + ((i + 1 : Nat) : Int)) ((n : Int) - ((i + 1 : Nat) : Int))) (RangeRest prog w A E h₀ env x body Q s I a n k (i + 1)) s₂ := by
      rintro ⟨h', tk', m', news', e', F', N', ho', r⟩
      exact ⟨h', tk', m', news', e', F', N', ho', ih (i + 1) m' news' (by omega) ho' r⟩
    cases f with
    | ret v => exact p
    | brk => exact p
    | next => exact go p
    | cont => exact go p

/-- what stands between the turns -/
inductive JR (row rl pl ts td nl : Addr) (R P : Nat → Addr) (ws : List Value) (n1 n2 so i : Nat) (m : Str → Option Value) (big : List (Addr × Obj)) : Prop
  | mk {news : List (Addr × Obj)} {st x kd : Addr} {ii l p n n3 : Nat} {rec ro : Bool} {t1 t2 t3 t4 t5 : Tok} {hc hk' c num : Int} {kc tc kk : Tok} {tl : List DictEntry}
    (hst : (st, W.listOf #[.ref row, .int (ii : Int) t1] 0) ∈ big) (hs : ∀ p ∈ news, p ∈ big)
    (hm : ∀ q ∈ [(Str.ofString "state", Value.ref st), (Str.ofString "types", .ref ts), (Str.ofString "records", .ref rl), (Str.ofString "pointers", .ref pl), (Str.ofString "sort", .int (so : Int) t2), (Str.ofString "place_level", .int (p : Int) t3), (Str.ofString "form", .str (tyF rec) t4), (Str.ofString "level", .int (l : Int) t5), (Str.ofString "readonly", .bool ro), (Str.ofString "node", .ref x)], m q.1 = some q.2)
    (hoff : ∀ p ∈ news, p.1 ≠ st) (hrow : (row, W.listOf ws.toArray 0) ∈ news) (hne : row ≠ st) (hi : ii ≤ 4 + i)
    (hrl : (rl, W.listOf [Value.ref (tyA R P true 0), Value.ref (tyA R P true 1), Value.ref (tyA R P true 2)].toArray n1) ∈ news) (hpl : (pl, W.listOf [Value.ref (tyA R P false 0), Value.ref (tyA R P false 1), Value.ref (tyA R P false 2)].toArray n2) ∈ news)
    (hT : Tys news R P) (hts : (ts, instObj 245 td) ∈ news) (htd : (td, dictOf (cEnt hc kc c tc :: kEnt hk' kk kd :: tl) n3) ∈ news) (hnil : NilAt tl nl) (hnl : TyAt news nl num (Str.ofString "nil") .none) (hnum : num < 8)
    (hN : Nd news R P x rec l p ro n) (hn : n ≤ i) (hrec : (rec = true ∧ (so : Int) = 2) ∨ (rec = false ∧ ¬ ((so : Int) = 2))) : JR row rl pl ts td nl R P ws n1 n2 so i m big
theorem JR.okB {h₀ h : Heap} {L row rl pl ts td nl : Addr} {R P : Nat → Addr} {ws : List Value} {n1 n2 so i : Nat} {m : Str → Option Value} {news big : List (Addr × Obj)} {st x kd : Addr} {ii l p n n3 : Nat} (rec : Bool) {ro : Bool} {t1 t2 t3 t4 t5 : Tok} {hc hk' c num : Int} {kc tc kk : Tok} {tl : List DictEntry}
    (N : News h₀ L h big) (hst : (st, W.listOf #[.ref row, .int (ii : Int) t1] 0) ∈ big) (hs : ∀ p ∈ news, p ∈ big)
    (hm : ∀ q ∈ [(Str.ofString "state", Value.ref st), (Str.ofString "types", .ref ts), (Str.ofString "records", .ref rl), (Str.ofString "pointers", .ref pl), (Str.ofString "sort", .int (so : Int) t2), (Str.ofString "place_level", .int (p : Int) t3), (Str.ofString "form", .str (tyF rec) t4), (Str.ofString "level", .int (l : Int) t5), (Str.ofString "readonly", .bool ro), (Str.ofString "node", .ref x)], m q.1 = some q.2)
    (hoff : ∀ p ∈ news, p.1 ≠ st) (hrow : (row, W.listOf ws.toArray 0) ∈ news) (hne : row ≠ st) (hi : ii ≤ 4 + i)
    (hrl : (rl, W.listOf [Value.ref (tyA R P true 0), Value.ref (tyA R P true 1), Value.ref (tyA R P true 2)].toArray n1) ∈ news) (hpl : (pl, W.listOf [Value.ref (tyA R P false 0), Value.ref (tyA R P false 1), Value.ref (tyA R P false 2)].toArray n2) ∈ news)
    (hT : Tys news R P) (hts : (ts, instObj 245 td) ∈ news) (htd : (td, dictOf (cEnt hc kc c tc :: kEnt hk' kk kd :: tl) n3) ∈ news) (hnil : NilAt tl nl) (hnl : TyAt news nl num (Str.ofString "nil") .none) (hnum : num < 8)
    (hN : Nd (offL st big) R P x rec l p ro n) (hn : n ≤ i) (hrec : (rec = true ∧ (so : Int) = 2) ∨ (rec = false ∧ ¬ ((so : Int) = 2))) : JR row rl pl ts td nl R P ws n1 n2 so i m big :=
  .mk hst (fun _ h => (List.mem_filter.mp h).1) hm (fun p hp => by simpa using (List.mem_filter.mp hp).2) (sub_off hs hoff _ hrow) hne hi (sub_off hs hoff _ hrl) (sub_off hs hoff _ hpl) (hT.mono (sub_off hs hoff)) (sub_off hs hoff _ hts) (sub_off hs hoff _ htd) hnil (hnl.mono (sub_off hs hoff)) hnum hN hn hrec
theorem unrEnd_remN {h₀ : Heap} {L I : Addr} {it : Obj} {rest : (Str → Option Value) → List (Addr × Obj) → Prop} {s₁ : Shared} {h' : Heap} {tk : Nat} {m' : Str → Option Value} {all news' : List (Addr × Obj)} (F : Fr h₀ L h' m') (N : News h₀ L h' all)
    (R : Rem I it all news') (r : News h₀ L h' news' → rest m' news') : UnrEnd h₀ L s₁ I it rest { s₁ with heap := h', toks := tk } :=
  unrEnd_rem F N R (r (newsSub N fun _ h => (R.sub N R.mem fun _ h => h).1 _ (.tail _ h)))

theorem ln_p79b_for_0 : True := by
  k_with "UnrEnd" => (k_here; k_dflt (refine' unrEnd_remN ?zzF ?zzN ?zzR ?_; (case zzF => k_asm); (case zzN => k_asm); (case zzR => ((repeat' (first | refine' Rem.head ?_ | refine' Rem.tail (by k_cls) ?_)); (repeat' (first | refine' OffC.cons (by k_cls) ?_ | refine' OffC.rest (by k_all)))))); k_whole; intro N')
  trivial

theorem ov_names {m : Str → Option Value} {x : Str} {v : Value} {l : List (Str × Value)} (hm : ∀ q ∈ l, m q.1 = some q.2) (hx : (l.all fun q => decide (q.1 ≠ x)) = true) : ∀ q ∈ (x, v) :: l, (fun y => if y = x then some v else m y) q.1 = some q.2 := by
  intro q hq
  rcases List.mem_cons.mp hq with rfl | hq
  · simp
  · have := List.all_eq_true.mp hx q hq
    have : q.1 ≠ x := by simpa using this
    simp only [if_neg this]; exact hm q hq

set_option maxRecDepth 100000 in
set_option maxHeartbeats 8000000 in
theorem turn_ok {w : World} {mean : ExcName → Option Value} {mg mb : Str → Option Value} {dp un : Nat} {gd : Option (List Code)} {cn : Str} {cs : Scope} {a : Addr} {ccd : Value} {cl : List (Str × Addr)} {outer : List Env} {A₀ : Around} {base h₀ : Heap} {L fa : Addr} {cd : Value} {s : Shared} {m : Str → Option Value} {big : List (Addr × Obj)} {I : Addr} {k1 k2 k : Int} {t : Tok} {Q : Flow → Shared → Prop}
    {row rl pl ts td nl : Addr} {ws : List Value} {ns : List Int} {n1 n2 so i : Nat} {R P : Nat → Addr}
    (B : Below A₀ base outer h₀) (X : (KK w.params).In h₀) (T : Top VW LO mean mg mb h₀) (hk : cs.kind = .function) (hI : IntsAre ws ns) (hlen : ns.length ≤ 40)
    (hJ : JR row rl pl ts td nl R P ws n1 n2 so i m big) (ho : ∀ p ∈ big, p.1 ≠ I) (F : Fr h₀ L s.heap (fun y => if y = Str.ofString "go_of" then some (.int k t) else m y)) (N : News h₀ L s.heap ((I, itR k1 k2) :: big)) (hi4 : i < 4) (hdp : dp + 200 < recursionLimit) (hu : un + 4000 < cLine) :
    wpAny (model PG w) (ktrTop dp un gd cn cs L a ccd cl outer) (execs forBody (envOf (Str.ofString "law") lawScope L fa cd)) (UnrPost h₀ L s I (itR k1 k2) (JR row rl pl ts td nl R P ws n1 n2 so (i + 1)) Q) (fun _ _ => False) s := by
  w_on
  (simp only [forBody, forOf, elseBody, elseOf, lawBody, lawScope]; delta PySem.Challenge.pw_pq0750_01; simp only [forOf, elseOf, fnBody, fnScope, List.getLast?_cons_cons, List.getLast?_singleton, List.drop_succ_cons, List.drop_zero, List.take_succ_cons, List.take_zero])
  cases hJ with
  | mk hst hs hm hoff hrow hne hi hrl hpl hT hts htd hnil hnl hnum hN hn hrec =>
    have hl := hN.node.1
    have hoI := fun p hp => ho p (hs p hp)
    have F2 := frOv F (ov_names hm rfl)
    have N2 := newsSub N (List.forall_mem_cons.mpr ⟨.head _, List.forall_mem_cons.mpr ⟨.tail _ hst, fun p hp => .tail _ (hs p hp)⟩⟩)
    have hIs := neN (Ne.symm (ho _ hst))
    dsimp only at hIs
    clear F N
    simp only [ov] at F2
    rcases hrec with ⟨rfl, hso⟩ | ⟨rfl, hso⟩
    · simp only [tyF, if_true] at F2
      k_steps
      all_goals k_dflt (refine' (JR.okB true ?N ?st ?s ?m ?off ?row ?ne ?i ?rl ?pl ?T ?ts ?td ?nil ?nl ?num ?nd ?n ?rec); (case N => k_asm); (case T => assumption); (case m => ((repeat (refine List.forall_mem_cons.mpr ⟨rfl, ?_⟩)); exact List.forall_mem_nil _)); (case off => assumption); (case st => k_mem); (case s => k_sub); (case row => assumption); (case ne => assumption); (case i => omega); (case rl => assumption); (case pl => assumption); (case ts => assumption); (case td => assumption); (case nil => assumption); (case nl => assumption); (case num => assumption); (case nd => (repeat' (first | exact Nd.varB (NodeAt.offB (by with_reducible assumption) (by k_asm) (by k_mem) (by k_mem) (by k_mem)) (ObD.offB (by with_reducible assumption) (by k_asm) (by k_mem) (by k_mem) (by k_mem)) (by omega) | exact Nd.derefB (NodeAt.offB (by with_reducible assumption) (by k_asm) (by k_mem) (by k_mem) (by k_mem)) (by omega) | exact Nd.mono (by with_reducible assumption) (sub_off (by k_sub) (by assumption)) | refine' Nd.guardB (NodeAt.offB (by with_reducible assumption) (by k_asm) (by k_mem) (by k_mem) (by k_mem)) (offK (by k_asm) (by k_mem) (by k_mem)) (by omega) ?_))); (case n => omega); (case rec => first | assumption | exact Or.inl ⟨rfl, by omega⟩ | exact Or.inr ⟨rfl, by omega⟩))
    · simp only [tyF, Bool.false_eq_true, if_false] at F2
      k_steps
      all_goals k_dflt (refine' (JR.okB false ?N ?st ?s ?m ?off ?row ?ne ?i ?rl ?pl ?T ?ts ?td ?nil ?nl ?num ?nd ?n ?rec); (case N => k_asm); (case T => assumption); (case m => ((repeat (refine List.forall_mem_cons.mpr ⟨rfl, ?_⟩)); exact List.forall_mem_nil _)); (case off => assumption); (case st => k_mem); (case s => k_sub); (case row => assumption); (case ne => assumption); (case i => omega); (case rl => assumption); (case pl => assumption); (case ts => assumption); (case td => assumption); (case nil => assumption); (case nl => assumption); (case num => assumption); (case nd => (repeat' (first | exact Nd.varB (NodeAt.offB (by with_reducible assumption) (by k_asm) (by k_mem) (by k_mem) (by k_mem)) (ObD.offB (by with_reducible assumption) (by k_asm) (by k_mem) (by k_mem) (by k_mem)) (by omega) | exact Nd.derefB (NodeAt.offB (by with_reducible assumption) (by k_asm) (by k_mem) (by k_mem) (by k_mem)) (by omega) | exact Nd.mono (by with_reducible assumption) (sub_off (by k_sub) (by assumption)) | refine' Nd.guardB (NodeAt.offB (by with_reducible assumption) (by k_asm) (by k_mem) (by k_mem) (by k_mem)) (offK (by k_asm) (by k_mem) (by k_mem)) (by omega) ?_))); (case n => omega); (case rec => first | assumption | exact Or.inl ⟨rfl, by omega⟩ | exact Or.inr ⟨rfl, by omega⟩))

theorem small4 {r : Nat} (h : (r : Int) < 4) : Builtin.Range.small 0 (r : Int) 1 = true := by
  have h3 : r = 0 ∨ r = 1 ∨ r = 2 ∨ r = 3 := by omega
  rcases h3 with rfl | rfl | rfl | rfl <;> decide
theorem size4 {r : Nat} : Builtin.Range.rangeSize 0 (r : Int) 1 = (r : Int) := by
  rw [rangeSize_nat]; omega

theorem ln_p79b_for_1 : True := by
  k_with "call type:range" => (k_here; (with_reducible show wpAny _ _ (call _ [Value.int (Nat.cast _) _]) _ _ _); k_dflt (refine' range1_rows ?zzF ?zzN ?_; (case zzF => k_asm); (case zzN => k_asm); k_whole; intro h' tk' t1' t2' t3' R' F' N' K'; clear K'; (try k_sweep)))
  k_with "pyIter ref" => (k_here; (rename IsRange _ _ _ _ _ _ _ _ => lR'); k_dflt (refine' iter_rangeUnr ?zzH lR' ?zzS ?zzC ?zzF ?zzN ?_; (case zzH => exact rfl); (case zzC => exact size4); (case zzS => exact small4 (by assumption)); (case zzF => k_asm); (case zzN => k_asm)); intro I9 lI9)
  trivial

set_option maxRecDepth 100000 in
set_option maxHeartbeats 8000000 in
theorem for_ok {w : World} {mean : ExcName → Option Value} {mg mb : Str → Option Value} {dp un : Nat} {gd : Option (List Code)} {cn : Str} {cs : Scope} {a : Addr} {ccd : Value} {cl : List (Str × Addr)} {outer : List Env} {A₀ : Around} {base h₀ : Heap} {L fa : Addr} {cd : Value} {s₀ s : Shared}
    {row rl pl ts td nl : Addr} {ws : List Value} {ns : List Int} {n1 n2 so : Nat} {R P : Nat → Addr}
    (B : Below A₀ base outer h₀) (X : (KK w.params).In h₀) (T : Top VW LO mean mg mb h₀) (hk : cs.kind = .function) (hI : IntsAre ws ns) (hlen : ns.length ≤ 40)
    (hJ : J3 h₀ L row rl pl ts td nl R P ws n1 n2 s₀ so 3 0 s) (hdp : dp + 200 < recursionLimit) (hu : un + 4000 < cLine) :
    wpAny (model PG w) (ktrTop dp un gd cn cs L a ccd cl outer) (execs (elseBody.take 1) (envOf (Str.ofString "law") lawScope L fa cd)) (EndJ (J3 h₀ L row rl pl ts td nl R P ws n1 n2 s₀ so 7 3)) (fun _ _ => False) s := by
  w_on
  (simp only [elseBody, elseOf, lawBody, lawScope]; delta PySem.Challenge.pw_pq0750_01; simp only [elseOf, fnBody, fnScope, List.getLast?_cons_cons, List.getLast?_singleton, List.drop_succ_cons, List.drop_zero, List.take_succ_cons, List.take_zero])
  cases hJ with
  | @mk h tk mm news st x kd i l p n n3 rec ro t1 t2 t3 t4 t5 hc hk' c num kc tc kk tl F N hoff hrow hne hi hrl hpl hT hts htd hnil hnl hnum hN hn hrec =>
    have hl := hN.node.1
    simp only [ov] at F
    k_steps
    refine rr_ind (JR row rl pl ts td nl R P ws n1 n2 so) ?fin ?turn _ _ _ _ (Nat.add_zero _) (fun p hp => neN (Nat.ne_of_lt (lI9 p hp))) ?start
    case start => k_dflt (refine' (JR.okB rec ?N ?st ?s ?m ?off ?row ?ne ?i ?rl ?pl ?T ?ts ?td ?nil ?nl ?num ?nd ?n ?rec); (case N => k_asm); (case T => assumption); (case m => ((repeat (refine List.forall_mem_cons.mpr ⟨rfl, ?_⟩)); exact List.forall_mem_nil _)); (case off => assumption); (case st => k_mem); (case s => k_sub); (case row => assumption); (case ne => assumption); (case i => omega); (case rl => assumption); (case pl => assumption); (case ts => assumption); (case td => assumption); (case nil => assumption); (case nl => assumption); (case num => assumption); (case nd => (repeat' (first | exact Nd.varB (NodeAt.offB (by with_reducible assumption) (by k_asm) (by k_mem) (by k_mem) (by k_mem)) (ObD.offB (by with_reducible assumption) (by k_asm) (by k_mem) (by k_mem) (by k_mem)) (by omega) | exact Nd.derefB (NodeAt.offB (by with_reducible assumption) (by k_asm) (by k_mem) (by k_mem) (by k_mem)) (by omega) | exact Nd.mono (by with_reducible assumption) (sub_off (by k_sub) (by assumption)) | refine' Nd.guardB (NodeAt.offB (by with_reducible assumption) (by k_asm) (by k_mem) (by k_mem) (by k_mem)) (offK (by k_asm) (by k_mem) (by k_mem)) (by omega) ?_))); (case n => omega); (case rec => first | assumption | exact Or.inl ⟨rfl, by omega⟩ | exact Or.inr ⟨rfl, by omega⟩))
    case turn => exact fun i m news t h tk hi hj ho F N => turn_ok B X T hk hI hlen hj ho F N (by omega) hdp hu
    case fin =>
      intro m news h tk hj F N
      clear hoff hrow hne hi hrl hpl hT hts htd hnil hnl hnum hN hn hrec
      cases hj with
      | @mk news' st' x' kd' ii' l' p' n' n3' rec' ro' t1' t2' t3' t4' t5' hc' hk'' c' num' kc' tc' kk' tl' hst hs hm hoff hrow hne hi hrl hpl hT hts htd hnil hnl hnum hN hn hrec =>
        have F2 := frOv F hm
        have N2 := newsSub N (List.forall_mem_cons.mpr ⟨hst, hs⟩)
        clear F N
        simp only [ov] at F2
        k_steps
        all_goals k_dflt (refine' EndJ.intro (J3.okB rec' ?F ?N ?st ?s ?m ?off ?row ?ne ?i ?rl ?pl ?T ?ts ?td ?nil ?nl ?num ?nd ?n ?rec); (case F => k_asm); (case N => k_asm); (case T => assumption); (case off => assumption); (case m => ((repeat (refine List.forall_mem_cons.mpr ⟨rfl, ?_⟩)); exact List.forall_mem_nil _)); (case st => k_mem); (case s => k_sub); (case row => assumption); (case ne => assumption); (case i => omega); (case rl => assumption); (case pl => assumption); (case ts => assumption); (case td => assumption); (case nil => assumption); (case nl => assumption); (case num => assumption); (case nd => (repeat' (first | exact Nd.varB (NodeAt.offB (by with_reducible assumption) (by k_asm) (by k_mem) (by k_mem) (by k_mem)) (ObD.offB (by with_reducible assumption) (by k_asm) (by k_mem) (by k_mem) (by k_mem)) (by omega) | exact Nd.derefB (NodeAt.offB (by with_reducible assumption) (by k_asm) (by k_mem) (by k_mem) (by k_mem)) (by omega) | exact Nd.mono (by with_reducible assumption) (sub_off (by k_sub) (by assumption)) | refine' Nd.guardB (NodeAt.offB (by with_reducible assumption) (by k_asm) (by k_mem) (by k_mem) (by k_mem)) (offK (by k_asm) (by k_mem) (by k_mem)) (by omega) ?_))); (case n => omega); (case rec => first | assumption | exact Or.inl ⟨rfl, by omega⟩ | exact Or.inr ⟨rfl, by omega⟩))

set_option maxRecDepth 100000 in
set_option maxHeartbeats 8000000 in
theorem ifs_ok {w : World} {mean : ExcName → Option Value} {mg mb : Str → Option Value} {dp un : Nat} {gd : Option (List Code)} {cn : Str} {cs : Scope} {a : Addr} {ccd : Value} {cl : List (Str × Addr)} {outer : List Env} {A₀ : Around} {base h₀ : Heap} {L fa : Addr} {cd : Value} {s₀ s : Shared}
    {row rl pl ts td nl : Addr} {ws : List Value} {ns : List Int} {n1 n2 so : Nat} {R P : Nat → Addr}
    (B : Below A₀ base outer h₀) (X : (KK w.params).In h₀) (T : Top VW LO mean mg mb h₀) (hk : cs.kind = .function) (hI : IntsAre ws ns) (hlen : ns.length ≤ 40)
    (hJ : J3 h₀ L row rl pl ts td nl R P ws n1 n2 s₀ so 7 3 s) (hso : ¬ ((so : Int) = 3)) (hdp : dp + 200 < recursionLimit) (hu : un + 4000 < cLine) :
    wpAny (model PG w) (ktrTop dp un gd cn cs L a ccd cl outer) (execs (elseBody.drop 1) (envOf (Str.ofString "law") lawScope L fa cd)) (EndJ (J2 h₀ L row rl pl R P ws n1 n2 s₀)) (fun _ _ => False) s := by
  w_on
  (simp only [elseBody, elseOf, lawBody, lawScope]; delta PySem.Challenge.pw_pq0750_01; simp only [elseOf, fnBody, fnScope, List.getLast?_cons_cons, List.getLast?_singleton, List.drop_succ_cons, List.drop_zero, List.take_succ_cons, List.take_zero])
  cases hJ with
  | mk F N hoff hrow hne hi hrl hpl hT hts htd hnil hnl hnum hN hn hrec =>
    have hl := hN.node.1
    simp only [ov] at F
    rcases hrec with ⟨rfl, hs2⟩ | ⟨rfl, hs2⟩
    · simp only [tyF, if_true] at F
      k_steps
      all_goals k_dflt (refine' J2.okB true ?F ?N ?st ?s ?off ?m ?row ?ne ?i ?rl ?pl ?T ?nd ?n ?so; (case F => k_asm); (case N => k_asm); (case T => assumption); (case off => assumption); (case m => ((repeat (refine List.forall_mem_cons.mpr ⟨rfl, ?_⟩)); exact List.forall_mem_nil _)); (case st => k_mem); (case s => k_sub); (case row => assumption); (case ne => assumption); (case i => omega); (case rl => assumption); (case pl => assumption); (case nd => (repeat' (first | exact Nd.varB (NodeAt.offB (by with_reducible assumption) (by k_asm) (by k_mem) (by k_mem) (by k_mem)) (ObD.offB (by with_reducible assumption) (by k_asm) (by k_mem) (by k_mem) (by k_mem)) (by omega) | exact Nd.derefB (NodeAt.offB (by with_reducible assumption) (by k_asm) (by k_mem) (by k_mem) (by k_mem)) (by omega) | exact Nd.mono (by with_reducible assumption) (sub_off (by k_sub) (by assumption)) | refine' Nd.guardB (NodeAt.offB (by with_reducible assumption) (by k_asm) (by k_mem) (by k_mem) (by k_mem)) (offK (by k_asm) (by k_mem) (by k_mem)) (by omega) ?_))); (case n => omega); (case so => assumption))
    · simp only [tyF, Bool.false_eq_true, if_false] at F
      k_steps
      all_goals k_dflt (first | (refine' J2.okB true ?F ?N ?st ?s ?off ?m ?row ?ne ?i ?rl ?pl ?T ?nd ?n ?so; (case F => k_asm); (case N => k_asm); (case T => assumption); (case off => assumption); (case m => ((repeat (refine List.forall_mem_cons.mpr ⟨rfl, ?_⟩)); exact List.forall_mem_nil _)); (case st => k_mem); (case s => k_sub); (case row => assumption); (case ne => assumption); (case i => omega); (case rl => assumption); (case pl => assumption); (case nd => (repeat' (first | exact Nd.varB (NodeAt.offB (by with_reducible assumption) (by k_asm) (by k_mem) (by k_mem) (by k_mem)) (ObD.offB (by with_reducible assumption) (by k_asm) (by k_mem) (by k_mem) (by k_mem)) (by omega) | exact Nd.derefB (NodeAt.offB (by with_reducible assumption) (by k_asm) (by k_mem) (by k_mem) (by k_mem)) (by omega) | exact Nd.mono (by with_reducible assumption) (sub_off (by k_sub) (by assumption)) | refine' Nd.guardB (NodeAt.offB (by with_reducible assumption) (by k_asm) (by k_mem) (by k_mem) (by k_mem)) (offK (by k_asm) (by k_mem) (by k_mem)) (by omega) ?_))); (case n => omega); (case so => assumption)) | (refine' J2.okB false ?F ?N ?st ?s ?off ?m ?row ?ne ?i ?rl ?pl ?T ?nd ?n ?so; (case F => k_asm); (case N => k_asm); (case T => assumption); (case off => assumption); (case m => ((repeat (refine List.forall_mem_cons.mpr ⟨rfl, ?_⟩)); exact List.forall_mem_nil _)); (case st => k_mem); (case s => k_sub); (case row => assumption); (case ne => assumption); (case i => omega); (case rl => assumption); (case pl => assumption); (case nd => (repeat' (first | exact Nd.varB (NodeAt.offB (by with_reducible assumption) (by k_asm) (by k_mem) (by k_mem) (by k_mem)) (ObD.offB (by with_reducible assumption) (by k_asm) (by k_mem) (by k_mem) (by k_mem)) (by omega) | exact Nd.derefB (NodeAt.offB (by with_reducible assumption) (by k_asm) (by k_mem) (by k_mem) (by k_mem)) (by omega) | exact Nd.mono (by with_reducible assumption) (sub_off (by k_sub) (by assumption)) | refine' Nd.guardB (NodeAt.offB (by with_reducible assumption) (by k_asm) (by k_mem) (by k_mem) (by k_mem)) (offK (by k_asm) (by k_mem) (by k_mem)) (by omega) ?_))); (case n => omega); (case so => assumption)))


theorem J3.toks {h₀ : Heap} {L row rl pl ts td nl : Addr} {R P : Nat → Addr} {ws : List Value} {n1 n2 : Nat} {s₀ s : Shared} {so bi bn t : Nat} (h : J3 h₀ L row rl pl ts td nl R P ws n1 n2 s₀ so bi bn s) : J3 h₀ L row rl pl ts td nl R P ws n1 n2 s₀ so bi bn { s with toks := t } := by
  cases h with
  | mk F N hoff hrow hne hi hrl hpl hT hts htd hnil hnl hnum hN hn hrec => exact .mk F N hoff hrow hne hi hrl hpl hT hts htd hnil hnl hnum hN hn hrec

theorem else_ok {w : World} {mean : ExcName → Option Value} {mg mb : Str → Option Value} {dp un : Nat} {gd : Option (List Code)} {cn : Str} {cs : Scope} {a : Addr} {ccd : Value} {cl : List (Str × Addr)} {outer : List Env} {A₀ : Around} {base h₀ : Heap} {L fa : Addr} {cd : Value} {s₀ s : Shared}
    {row rl pl ts td nl : Addr} {ws : List Value} {ns : List Int} {n1 n2 so : Nat} {R P : Nat → Addr}
    (B : Below A₀ base outer h₀) (X : (KK w.params).In h₀) (T : Top VW LO mean mg mb h₀) (hk : cs.kind = .function) (hI : IntsAre ws ns) (hlen : ns.length ≤ 40)
    {Q : Flow → Shared → Prop} (hJ : J3 h₀ L row rl pl ts td nl R P ws n1 n2 s₀ so 3 0 s) (hso : ¬ ((so : Int) = 3)) (hdp : dp + 200 < recursionLimit) (hu : un + 4000 < cLine) (ret : ∀ s', J2 h₀ L row rl pl R P ws n1 n2 s₀ s' → Q .next s') :
    wpAny (model PG w) (ktrTop dp un gd cn cs L a ccd cl outer) (execs elseBody (envOf (Str.ofString "law") lawScope L fa cd)) Q (fun _ _ => False) s := by
  have e : elseBody = elseBody.take 1 ++ elseBody.drop 1 := (List.take_append_drop 1 elseBody).symm
  rw [e]
  exact joinAt _ (cutAt _ (for_ok B X T hk hI hlen hJ hdp hu) fun s' hJ' => ifs_ok B X T hk hI hlen hJ' hso hdp hu) ret

theorem ln_p79c_mid_0 : True := by
  k_with "execs cons For cons" => (k_here; k_dflt (refine' else_ok ?zzB ?zzX ?zzT ?zzK ?zzI ?zzl ?zzJ ?zzo ?zzd ?zzu ?_; (case zzJ => exact J3.toks (by assumption)); (case zzB => assumption); (case zzX => assumption); (case zzT => assumption); (case zzK => assumption); (case zzI => assumption); (case zzl => assumption); (case zzo => assumption); (case zzd => assumption); (case zzu => assumption)); intro s' hJ'; try dsimp only)
  trivial

set_option maxRecDepth 100000 in
set_option maxHeartbeats 8000000 in
theorem st13_ok {w : World} {mean : ExcName → Option Value} {mg mb : Str → Option Value} {dp un : Nat} {gd : Option (List Code)} {cn : Str} {cs : Scope} {a : Addr} {ccd : Value} {cl : List (Str × Addr)} {outer : List Env} {A₀ : Around} {base h₀ : Heap} {L fa : Addr} {cd : Value} {s₀ s : Shared}
    {row rl pl ts td nl : Addr} {ws : List Value} {ns : List Int} {n1 n2 : Nat} {R P : Nat → Addr}
    (B : Below A₀ base outer h₀) (X : (KK w.params).In h₀) (T : Top VW LO mean mg mb h₀) (hk : cs.kind = .function) (hI : IntsAre ws ns) (hlen : ns.length ≤ 40)
    (hJ : ∃ so, J3 h₀ L row rl pl ts td nl R P ws n1 n2 s₀ so 3 0 s) (hdp : dp + 200 < recursionLimit) (hu : un + 4000 < cLine) :
    wpAny (model PG w) (ktrTop dp un gd cn cs L a ccd cl outer) (execs ((lawBody.drop 13).take 1) (envOf (Str.ofString "law") lawScope L fa cd)) (EndJ (J2 h₀ L row rl pl R P ws n1 n2 s₀)) (fun _ _ => False) s := by
  w_on
  (simp only [lawBody, lawScope]; delta PySem.Challenge.pw_pq0750_01; simp only [fnBody, fnScope, List.getLast?_cons_cons, List.getLast?_singleton, List.drop_succ_cons, List.drop_zero, List.take_succ_cons, List.take_zero])
  obtain ⟨so, hJ⟩ := hJ
  by_cases hso : (so : Int) = 3
  · cases hJ with
    | mk F N hoff hrow hne hi hrl hpl hT hts htd hnil hnl hnum hN hn hrec =>
      simp only [ov] at F
      k_steps
      all_goals k_dflt (refine' J2.nilB ?F ?N ?st ?s ?off ?m ?row ?ne ?i ?rl ?pl ?T ?nd ?nl ?num ?so; (case F => k_asm); (case N => k_asm); (case T => assumption); (case off => assumption); (case m => ((repeat (refine List.forall_mem_cons.mpr ⟨rfl, ?_⟩)); exact List.forall_mem_nil _)); (case st => k_mem); (case s => k_sub); (case row => assumption); (case ne => assumption); (case i => omega); (case rl => assumption); (case pl => assumption); (case nd => exact NodeAt.offB (by with_reducible assumption) (by k_asm) (by k_mem) (by k_mem) (by k_mem)); (case nl => assumption); (case num => assumption); (case so => assumption))
  · have hJ0 := hJ
    cases hJ with
    | mk F N hoff hrow hne hi hrl hpl hT hts htd hnil hnl hnum hN hn hrec =>
      simp only [ov] at F
      k_steps
      all_goals exact EndJ.intro (by assumption)

/-- what stands behind the law's first part: the types -/
inductive J1 (h₀ : Heap) (L : Addr) (ws : List Value) (s₀ : Shared) : Shared → Prop
  | mk {h : Heap} {tk : Nat} {mm : Str → Option Value} {news : List (Addr × Obj)} {st row rl pl ts td kd nl : Addr} {n1 n2 n3 : Nat} {R P : Nat → Addr} {t1 : Tok} {hc hk' c num : Int} {kc tc kk : Tok} {tl : List DictEntry}
    (F : Fr h₀ L h (ov [(Str.ofString "state", .ref st), (Str.ofString "types", .ref ts), (Str.ofString "records", .ref rl), (Str.ofString "pointers", .ref pl)] mm))
    (N : News h₀ L h ((st, W.listOf #[.ref row, .int ((0 : Nat) : Int) t1] 0) :: news))
    (hoff : ∀ p ∈ news, p.1 ≠ st) (hrow : (row, W.listOf ws.toArray 0) ∈ news) (hne : row ≠ st)
    (hrl : (rl, W.listOf [Value.ref (tyA R P true 0), Value.ref (tyA R P true 1), Value.ref (tyA R P true 2)].toArray n1) ∈ news) (hpl : (pl, W.listOf [Value.ref (tyA R P false 0), Value.ref (tyA R P false 1), Value.ref (tyA R P false 2)].toArray n2) ∈ news)
    (hT : Tys news R P) (hts : (ts, instObj 245 td) ∈ news) (htd : (td, dictOf (cEnt hc kc c tc :: kEnt hk' kk kd :: tl) n3) ∈ news) (hnil : NilAt tl nl) (hnl : TyAt news nl num (Str.ofString "nil") .none) (hnum : num < 8) : J1 h₀ L ws s₀ { s₀ with heap := h, toks := tk }

theorem mid_ok {w : World} {mean : ExcName → Option Value} {mg mb : Str → Option Value} {dp un : Nat} {gd : Option (List Code)} {cn : Str} {cs : Scope} {a : Addr} {ccd : Value} {cl : List (Str × Addr)} {outer : List Env} {A₀ : Around} {base h₀ : Heap} {L fa : Addr} {cd : Value} {s₀ s : Shared}
    {ws : List Value} {ns : List Int} {Q : Flow → Shared → Prop} {E : Value → Shared → Prop}
    (B : Below A₀ base outer h₀) (X : (KK w.params).In h₀) (T : Top VW LO mean mg mb h₀) (hk : cs.kind = .function) (hI : IntsAre ws ns) (hlen : ns.length ≤ 40)
    (hJ : J1 h₀ L ws s₀ s) (hdp : dp + 200 < recursionLimit) (hu : un + 4000 < cLine) (ret : ∀ h' tk' m', Fr h₀ L h' m' → Q (.ret (.bool true)) { s₀ with heap := h', toks := tk' }) :
    wpAny (model PG w) (ktrTop dp un gd cn cs L a ccd cl outer) (execs (lawBody.drop 5) (envOf (Str.ofString "law") lawScope L fa cd)) Q E s := by
  cases hJ with
  | @mk h tk mm news st row rl pl ts td kd nl n1 n2 n3 R P t1 hc hk' c num kc tc kk tl F N hoff hrow hne hrl hpl hT hts htd hnil hnl hnum =>
    have e1 : lawBody.drop 5 = (lawBody.drop 5).take 8 ++ lawBody.drop 13 := by
      have := (List.take_append_drop 8 (lawBody.drop 5)).symm
      rwa [List.drop_drop] at this
    have e2 : lawBody.drop 13 = (lawBody.drop 13).take 1 ++ lawBody.drop 14 := by
      have := (List.take_append_drop 1 (lawBody.drop 13)).symm
      rwa [List.drop_drop] at this
    rw [e1]
    refine cutAt _ (wpAny_mono (segB B X T hk F N hI hlen hoff hrow hne hrl hpl hT hts htd hnil hnl hnum hdp hu) (fun _ _ q => q) fun _ _ h => h.elim) fun s1 hJ => ?_
    rw [e2]
    refine cutAt _ (wpAny_mono (st13_ok B X T hk hI hlen hJ hdp hu) (fun _ _ q => q) fun _ _ h => h.elim) fun s2 hJ2 => ?_
    cases hJ2 with
    | ok rec F N hoff hrow hne hi hrl hpl hT hN hn hso => exact tail_ok B X T hk F N hoff hrow hI hlen hne hi hrl hpl hT hN hn hso hdp hu ret
    | nil F N hoff hrow hne hi hrl hpl hT hN hnl hnum hso => exact tail_nil B X T hk F N hoff hrow hI hlen hne hi hrl hpl hT hN hnl hnum hso hdp hu ret


/-- three addresses as a function -/
def fn3 (a b c : Addr) : Nat → Addr
  | 0 => a
  | 1 => b
  | _ => c
theorem list_ne3 {x y z a b : Value} {n m : Nat} : W.listOf [x, y, z].toArray n ≠ W.listOf [a, b].toArray m := by intro e; simp [W.listOf] at e
theorem J1.B {h₀ h : Heap} {L st row rl pl ts td kd nl r0 r1 r2 p0 p1 p2 d0 d1 d2 e0 e1 e2 dn : Addr} {ws : List Value} {s₀ : Shared} {tk n1 n2 n3 m0 m1 m2 m3 m4 m5 m6 : Nat} {m : Str → Option Value} {big : List (Addr × Obj)} {t1 : Tok} {i0 hc hk' c k0 k1 k2 k3 k4 k5 k6 : Int} {kc tc kk : Tok} {tl f0 f1 f2 g0 g1 g2 fn : List DictEntry}
    (F : Fr h₀ L h m) (N : News h₀ L h big) (hst : (st, W.listOf #[.ref row, .int i0 t1] 0) ∈ big) (hi0 : i0 = 0) (hrow : (row, W.listOf ws.toArray 0) ∈ big) (hne : row ≠ st)
    (hm : ∀ q ∈ [(Str.ofString "state", Value.ref st), (Str.ofString "types", .ref ts), (Str.ofString "records", .ref rl), (Str.ofString "pointers", .ref pl)], m q.1 = some q.2)
    (hrl : (rl, W.listOf [Value.ref r0, Value.ref r1, Value.ref r2].toArray n1) ∈ big) (hpl : (pl, W.listOf [Value.ref p0, Value.ref p1, Value.ref p2].toArray n2) ∈ big)
    (hts : (ts, instObj 245 td) ∈ big) (htd : (td, dictOf (cEnt hc kc c tc :: kEnt hk' kk kd :: tl) n3) ∈ big) (hnil : NilAt tl nl)
    (a0 : (r0, instObj 188 d0) ∈ big) (b0 : (d0, dictOf f0 m0) ∈ big) (D0 : TyD f0 k0 (Str.ofString "record") .none) (q0 : k0 = 8)
    (a1 : (p0, instObj 188 e0) ∈ big) (b1 : (e0, dictOf g0 m1) ∈ big) (D1 : TyD g0 k1 (Str.ofString "pointer") (.ref r0)) (q1 : k1 = 9)
    (a2 : (r1, instObj 188 d1) ∈ big) (b2 : (d1, dictOf f1 m2) ∈ big) (D2 : TyD f1 k2 (Str.ofString "record") (.ref r0)) (q2 : k2 = 10)
    (a3 : (p1, instObj 188 e1) ∈ big) (b3 : (e1, dictOf g1 m3) ∈ big) (D3 : TyD g1 k3 (Str.ofString "pointer") (.ref r1)) (q3 : k3 = 11)
    (a4 : (r2, instObj 188 d2) ∈ big) (b4 : (d2, dictOf f2 m4) ∈ big) (D4 : TyD f2 k4 (Str.ofString "record") (.ref r1)) (q4 : k4 = 12)
    (a5 : (p2, instObj 188 e2) ∈ big) (b5 : (e2, dictOf g2 m5) ∈ big) (D5 : TyD g2 k5 (Str.ofString "pointer") (.ref r2)) (q5 : k5 = 13)
    (a6 : (nl, instObj 188 dn) ∈ big) (b6 : (dn, dictOf fn m6) ∈ big) (D6 : TyD fn k6 (Str.ofString "nil") .none) (q6 : k6 < 8) : J1 h₀ L ws s₀ { s₀ with heap := h, toks := tk } := by
  subst q0 q1 q2 q3 q4 q5 hi0
  have R0 : tyA (fn3 r0 r1 r2) (fn3 p0 p1 p2) true 0 = r0 := tyA_r
  have R1 : tyA (fn3 r0 r1 r2) (fn3 p0 p1 p2) true 1 = r1 := tyA_r
  have R2 : tyA (fn3 r0 r1 r2) (fn3 p0 p1 p2) true 2 = r2 := tyA_r
  have P0 : tyA (fn3 r0 r1 r2) (fn3 p0 p1 p2) false 0 = p0 := tyA_p
  have P1 : tyA (fn3 r0 r1 r2) (fn3 p0 p1 p2) false 1 = p1 := tyA_p
  have P2 : tyA (fn3 r0 r1 r2) (fn3 p0 p1 p2) false 2 = p2 := tyA_p
  have ty : ∀ {x d : Addr} {f : List DictEntry} {m' : Nat} {k : Int} {form : Str} {b : Value}, (x, instObj 188 d) ∈ big → (d, dictOf f m') ∈ big → TyD f k form b → TyAt (offL st big) x k form b := fun h1 h2 D => D.at (offI N hst h1) (offD N hst h2)
  refine .mk (R := fn3 r0 r1 r2) (P := fn3 p0 p1 p2) (n1 := n1) (n2 := n2) (news := offL st big) (frOv F hm) (newsSub N fun p hp => (List.mem_cons.mp hp).elim (fun e => e ▸ hst) fun h => (List.mem_filter.mp h).1) (fun p hp => by simpa using (List.mem_filter.mp hp).2)
    (mem_off hrow hne) hne (by rw [R0, R1, R2]; exact mem_off hrl (ne_obj N hrl hst list_ne3)) (by rw [P0, P1, P2]; exact mem_off hpl (ne_obj N hpl hst list_ne3)) ⟨ty a0 b0 D0, ty a1 b1 D1, ty a2 b2 D2, ty a3 b3 D3, ty a4 b4 D4, ty a5 b5 D5⟩ (offI N hst hts) (offD N hst htd) hnil (ty a6 b6 D6) q6

theorem ln_p80_law_0 : True := by
  k_with "call builtin:list.append" => (k_here; dsimp only [List.cons_append, List.nil_append])
  trivial

set_option maxRecDepth 100000 in
set_option maxHeartbeats 8000000 in
theorem whole_ok {w : World} {mean : ExcName → Option Value} {mg mb : Str → Option Value} {dp un : Nat} {gd : Option (List Code)} {cn : Str} {cs : Scope} {a : Addr} {ccd : Value} {cl : List (Str × Addr)} {outer : List Env} {A₀ : Around} {base h₀ : Heap} {L fa sl : Addr} {cd : Value} {mm : Str → Option Value} {s : Shared}
    {vs : List Value} {ns : List Int} {as bs : List Addr} {Q : Flow → Shared → Prop} {E : Value → Shared → Prop}
    (B : Below A₀ base outer h₀) (X : (KK w.params).In h₀) (T : Top VW LO mean mg mb h₀) (hk : cs.kind = .function)
    (F : Fr h₀ L s.heap (ov [(Str.ofString "script", .ref sl)] mm)) (N : News h₀ L s.heap []) (hL : h₀.IsList sl vs.toArray) (hI : IntsAre vs ns) (hns : ¬ ((63 : Nat) : Int) < ((ns.length : Nat) : Int))
    (ra : ReadsAll h₀ vs (List.map PyData.int ns) as) (r0 : Reads h₀ (.ref sl) (PyData.list (List.map PyData.int ns)) bs) (hlay : (PyData.list (List.map PyData.int ns)).layable0 = true)
    (hdp : dp + 200 < recursionLimit) (hu : un + 4000 < cLine)
    (ret : ∀ h' tk' m', Fr h₀ L h' m' → Q (.ret (.bool true)) { s with heap := h', toks := tk' }) :
    wpAny (model PG w) (ktrTop dp un gd cn cs L a ccd cl outer) (execs lawBody (envOf (Str.ofString "law") lawScope L fa cd)) Q E s := by
  w_on
  have e1 : lawBody = lawBody.take 5 ++ lawBody.drop 5 := (List.take_append_drop 5 lawBody).symm
  rw [e1]
  refine cutAt (fun s' => ∃ ws ns, IntsAre ws ns ∧ ns.length ≤ 40 ∧ J1 h₀ L ws s s') (wpAny_mono (E := fun _ _ => False) ?_ (fun _ _ q => q) fun _ _ h => h.elim) ?_
  · (simp only [lawBody, lawScope]; delta PySem.Challenge.pw_pq0750_01; simp only [fnBody, fnScope, List.getLast?_cons_cons, List.getLast?_singleton, List.drop_succ_cons, List.drop_zero, List.take_succ_cons, List.take_zero])
    simp only [ov] at F
    k_steps
    k_dflt (refine' EndJ.intro ⟨_, _, ?I, ?len, J1.B ?F ?N ?st ?i0 ?row ?ne ?m ?rl ?pl ?ts ?td ?nil ?a0 ?b0 ?D0 ?q0 ?a1 ?b1 ?D1 ?q1 ?a2 ?b2 ?D2 ?q2 ?a3 ?b3 ?D3 ?q3 ?a4 ?b4 ?D4 ?q4 ?a5 ?b5 ?D5 ?q5 ?a6 ?b6 ?D6 ?q6⟩; (case F => k_asm); (case N => k_asm); (case m => ((repeat (refine List.forall_mem_cons.mpr ⟨rfl, ?_⟩)); exact List.forall_mem_nil _)); (case st => k_mem); (case i0 => rfl); (case row => k_mem); (case I => assumption); (case len => omega); (case ne => (refine neN ?_; omega)); (case rl => k_mem); (case pl => k_mem); (case ts => k_mem); (case td => k_mem); (case nil => assumption); (case a0 => k_mem); (case b0 => k_mem); (case D0 => with_reducible assumption); (case q0 => omega); (case a1 => k_mem); (case b1 => k_mem); (case D1 => with_reducible assumption); (case q1 => omega); (case a2 => k_mem); (case b2 => k_mem); (case D2 => with_reducible assumption); (case q2 => omega); (case a3 => k_mem); (case b3 => k_mem); (case D3 => with_reducible assumption); (case q3 => omega); (case a4 => k_mem); (case b4 => k_mem); (case D4 => with_reducible assumption); (case q4 => omega); (case a5 => k_mem); (case b5 => k_mem); (case D5 => with_reducible assumption); (case q5 => omega); (case a6 => k_mem); (case b6 => k_mem); (case D6 => with_reducible assumption); (case q6 => omega))
  · rintro s' ⟨ws, ns', hI', hl', hJ⟩
    exact mid_ok B X T hk hI' hl' hJ hdp hu ret

set_option maxRecDepth 100000 in
set_option maxHeartbeats 0 in
theorem said_ok : PySem.Challenge.rw_pq0750_01.wellSaid = true := by
  delta OpenLaw.wellSaid
  delta OpenRow.wellSaid OpenRow.partSaid
  delta looksOpen
  repeat' with_reducible refine look_both ?_ ?_
  all_goals decide +kernel

set_option maxRecDepth 100000 in
set_option maxHeartbeats 8000000 in
theorem law_holds : PySem.Challenge.rw_pq0750_01.Holds := by
  w_on
  refine holds_law said_ok fun said => ?_
  refine holds_open (q := VW) (loose := [Str.ofString "equal_types", Str.ofString "equal_procs"]) (Xt := fun s => xlAt VW [] s && recOk (RowW.records PySem.Challenge.rw_pq0750_01.row.toRowW) s) (XP := XL VW []) (Yf := Hook.obs HK) (Ya := Hook.val HK) (YP := Hook.says HK) (N := 3598) hl0 (Hook.of HK) (Hook.keeps HK) (fun s e => xl_of s (Bool.and_eq_true_iff.mp e).1) XL.keeps (by rfl) (by rfl) (by rfl) (fun s e => recFacts_of (Bool.and_eq_true_iff.mp e).2) (by rfl) (by first | assumption | decide +kernel) (by decide +kernel) ⟨rfl, rfl, rfl, rfl, rfl, by decide +kernel⟩ ?hw ?hc
  case hw => w_witness2
  k_go0
  all_goals try k_fold
  refine' whole_ok ?B ?X ?T ?hk ?F ?N ?L ?I ?hns ?ra ?r0 ?lay ?dp ?un ?ret
  (case B => assumption)
  (case X => assumption)
  (case T => assumption)
  (case hk => exact rfl)
  (case F => exact frOv (by assumption) (List.forall_mem_cons.mpr ⟨rfl, List.forall_mem_nil _⟩))
  (case N => assumption)
  (case L => assumption)
  (case I => assumption)
  (case hns => assumption)
  (case ra => assumption)
  (case r0 => assumption)
  (case lay => assumption)
  (case dp => decide)
  (case un => decide)
  (case ret =>
    intro h' tk' m' F'
    dsimp only
    k_steps
    all_goals w_report)


end Mine

theorem PySem.Challenge.cw_pq0750_01_holds : PySem.Challenge.rw_pq0750_01.Holds := by
  exact Mine.law_holds
