import PyProof.Rows.All
import Wide.All
import OpenK.AllK
import Wide.FinOn
import PySem.Challenge.RW_pb0333_01
open PySem PySem.W PyProof.Rows PySem.Calls PySem.Spec PyProof.V
set_option Elab.async false
set_option linter.unusedVariables false
set_option maxRecDepth 100000
set_option maxHeartbeats 8000000
set_option rowWalk.seconds 0
set_option compiler.extract_closed false
namespace Mine
-- smaller terms: lia first, then omega (an option that changes nothing keeps the second one out of this rule)
local macro_rules | `(tactic| omega) => `(tactic| first | lia | omega (splitDisjunctions := true))
/-! the head: the written part of the heap (its defs' bodies are picked out of the row), and the top's run at once by the kernel -/
noncomputable def fnOf : Stmt → Option (Arguments × List Stmt × Scope)
  | .FunctionDef _ a b _ _ _ s _ _ _ => some (a, b, s)
  | _ => none
noncomputable def clsOf : Stmt → List Stmt
  | .ClassDef _ _ _ b _ _ _ _ _ _ _ => b
  | _ => []
noncomputable def defAt (i : Nat) : Option (Arguments × List Stmt × Scope) := (PySem.Challenge.pw_pb0333_01.main.body.drop i).head?.bind fnOf
noncomputable def methAt (i j : Nat) : Option (Arguments × List Stmt × Scope) := (PySem.Challenge.pw_pb0333_01.main.body.drop i).head?.bind fun c => ((clsOf c).drop j).head?.bind fnOf
noncomputable def K0 : Params → Frag := by
  refine (?g : ∀ {a21 a28 a35 a49 a56 a63 a70 a77 a84 a91 a98 a105 a119 a126 a153 a172 a179 a186 a193 a200 a207 a221 a226 : Arguments} {b21 b28 b35 b49 b56 b63 b70 b77 b84 b91 b98 b105 b119 b126 b153 b172 b179 b186 b193 b200 b207 b221 b226 : List Stmt} {s21 s28 s35 s49 s56 s63 s70 s77 s84 s91 s98 s105 s119 s126 s153 s172 s179 s186 s193 s200 s207 s221 s226 : Scope},
    defAt 0 = some (a21, b21, s21) →
    defAt 5 = some (a28, b28, s28) →
    defAt 6 = some (a35, b35, s35) →
    methAt 7 0 = some (a49, b49, s49) →
    methAt 7 1 = some (a56, b56, s56) →
    methAt 7 2 = some (a63, b63, s63) →
    methAt 7 3 = some (a70, b70, s70) →
    methAt 7 4 = some (a77, b77, s77) →
    methAt 7 5 = some (a84, b84, s84) →
    methAt 7 6 = some (a91, b91, s91) →
    methAt 7 7 = some (a98, b98, s98) →
    methAt 7 8 = some (a105, b105, s105) →
    defAt 9 = some (a119, b119, s119) →
    defAt 10 = some (a126, b126, s126) →
    methAt 13 0 = some (a153, b153, s153) →
    methAt 16 0 = some (a172, b172, s172) →
    methAt 16 1 = some (a179, b179, s179) →
    methAt 16 2 = some (a186, b186, s186) →
    methAt 16 3 = some (a193, b193, s193) →
    methAt 16 4 = some (a200, b200, s200) →
    methAt 16 5 = some (a207, b207, s207) →
    defAt 18 = some (a221, b221, s221) →
    defAt 19 = some (a226, b226, s226) → Params → Frag) (by rfl) (by rfl) (by rfl) (by rfl) (by rfl) (by rfl) (by rfl) (by rfl) (by rfl) (by rfl) (by rfl) (by rfl) (by rfl) (by rfl) (by rfl) (by rfl) (by rfl) (by rfl) (by rfl) (by rfl) (by rfl) (by rfl) (by rfl)
  exact fun {a21} {a28} {a35} {a49} {a56} {a63} {a70} {a77} {a84} {a91} {a98} {a105} {a119} {a126} {a153} {a172} {a179} {a186} {a193} {a200} {a207} {a221} {a226} {b21} {b28} {b35} {b49} {b56} {b63} {b70} {b77} {b84} {b91} {b98} {b105} {b119} {b126} {b153} {b172} {b179} {b186} {b193} {b200} {b207} {b221} {b226} {s21} {s28} {s35} {s49} {s56} {s63} {s70} {s77} {s84} {s91} {s98} {s105} {s119} {s126} {s153} {s172} {s179} {s186} {s193} {s200} {s207} {s221} {s226} _ _ _ _ _ _ _ _ _ _ _ _ _ _ _ _ _ _ _ _ _ _ _ P =>
    (((nat_lit 2, ⟨.none, none, .dict #[⟨PySem.PyData.keyHash P (.ofString "type.__subclasses__.Exception.0"), .str (.ofString "type.__subclasses__.Exception.0") (373 : Nat), .int 136 (0 : Nat)⟩, ⟨PySem.PyData.keyHash P (.ofString "type.__subclasses__.Exception.n"), .str (.ofString "type.__subclasses__.Exception.n") (374 : Nat), .int 1 (0 : Nat)⟩] (2 : Nat), #[]⟩) ::
    (nat_lit 3, ⟨.type "dict", none, .dict #[⟨PySem.PyData.keyHash P (.ofString "__name__"), .str (.ofString "__name__") (165 : Nat), .str (.ofString "law_pb0333_01") (482 : Nat)⟩, ⟨PySem.PyData.keyHash P (.ofString "__doc__"), .str (.ofString "__doc__") (166 : Nat), .none⟩, ⟨PySem.PyData.keyHash P (.ofString "__package__"), .str (.ofString "__package__") (167 : Nat), .none⟩, ⟨PySem.PyData.keyHash P (.ofString "__loader__"), .str (.ofString "__loader__") (168 : Nat), .builtin "__main__.__loader__#opaque"⟩, ⟨PySem.PyData.keyHash P (.ofString "__spec__"), .str (.ofString "__spec__") (169 : Nat), .none⟩, ⟨PySem.PyData.keyHash P (.ofString "__annotations__"), .str (.ofString "__annotations__") (170 : Nat), .ref (6 : Nat)⟩, ⟨PySem.PyData.keyHash P (.ofString "__builtins__"), .str (.ofString "__builtins__") (171 : Nat), .ref (4 : Nat)⟩, ⟨PySem.PyData.keyHash P (.ofString "__file__"), .str (.ofString "__file__") (173 : Nat), .str (.ofString "/claim/cut.py") (172 : Nat)⟩, ⟨PySem.PyData.keyHash P (.ofString "__cached__"), .str (.ofString "__cached__") (174 : Nat), .none⟩, ⟨PySem.PyData.keyHash P (.ofString "_wall"), .str (.ofString "_wall") (193 : Nat), .ref (21 : Nat)⟩, ⟨PySem.PyData.keyHash P (.ofString "GRAIN"), .str (.ofString "GRAIN") (197 : Nat), .int 16 (196 : Nat)⟩, ⟨PySem.PyData.keyHash P (.ofString "HEADER"), .str (.ofString "HEADER") (199 : Nat), .int 8 (198 : Nat)⟩, ⟨PySem.PyData.keyHash P (.ofString "LISTS"), .str (.ofString "LISTS") (201 : Nat), .int 4 (200 : Nat)⟩, ⟨PySem.PyData.keyHash P (.ofString "block_size"), .str (.ofString "block_size") (208 : Nat), .ref (28 : Nat)⟩, ⟨PySem.PyData.keyHash P (.ofString "list_number"), .str (.ofString "list_number") (215 : Nat), .ref (35 : Nat)⟩, ⟨PySem.PyData.keyHash P (.ofString "Heap"), .str (.ofString "Heap") (326 : Nat), .ref (108 : Nat)⟩, ⟨PySem.PyData.keyHash P (.ofString "free_runs"), .str (.ofString "free_runs") (344 : Nat), .ref (119 : Nat)⟩, ⟨PySem.PyData.keyHash P (.ofString "sweep"), .str (.ofString "sweep") (354 : Nat), .ref (126 : Nat)⟩, ⟨PySem.PyData.keyHash P (.ofString "YardError"), .str (.ofString "YardError") (376 : Nat), .ref (136 : Nat)⟩, ⟨PySem.PyData.keyHash P (.ofString "TrapError"), .str (.ofString "TrapError") (405 : Nat), .ref (156 : Nat)⟩, ⟨PySem.PyData.keyHash P (.ofString "WORD"), .str (.ofString "WORD") (409 : Nat), .int 4294967296 (408 : Nat)⟩, ⟨PySem.PyData.keyHash P (.ofString "Memory"), .str (.ofString "Memory") (481 : Nat), .ref (210 : Nat)⟩, ⟨PySem.PyData.keyHash P (.ofString "_law_take"), .str (.ofString "_law_take") (492 : Nat), .ref (221 : Nat)⟩, ⟨PySem.PyData.keyHash P (.ofString "law"), .str (.ofString "law") (498 : Nat), .ref (226 : Nat)⟩] (24 : Nat), #[]⟩) ::
    (nat_lit 15, ⟨.type "tuple", none, .seq #[] (0 : Nat), #[]⟩) ::
    (nat_lit 17, ⟨.type "tuple", none, .seq #[.str (.ofString "k") (190 : Nat)] (0 : Nat), #[]⟩) ::
    (nat_lit 18, ⟨.type "tuple", none, .seq #[] (0 : Nat), #[]⟩) ::
    (nat_lit 20, ⟨.type "code", none, .fields #[.str (.ofString "_wall") (187 : Nat), .str (.ofString "_wall") (188 : Nat), .str (.ofString "/claim/cut.py") (189 : Nat), .int 1 (0 : Nat), .int 1 (0 : Nat), .int 0 (0 : Nat), .int 0 (0 : Nat), .int 3 (0 : Nat), .ref (15 : Nat), .bool .true, .int 181 (0 : Nat), .ref (16 : Nat), .none, .ref (17 : Nat), .ref (18 : Nat), .ref (19 : Nat), .int 191 (0 : Nat), .int 1 (0 : Nat), .str (.ofString "/claim/cut.py") (192 : Nat)], #[]⟩) ::
    (nat_lit 21, ⟨.type "function", none, .func ⟨.ofString "_wall", .ofString "_wall", a21, .stmts b21, s21, (3 : Nat), [], .none, .none, .none, .str (.ofString "__main__") (164 : Nat), none, .ref (20 : Nat), .none, (0 : Nat)⟩, #[]⟩) ::
    (nat_lit 22, ⟨.type "tuple", none, .seq #[] (0 : Nat), #[]⟩) ::
    (nat_lit 24, ⟨.type "tuple", none, .seq #[.str (.ofString "record_size") (205 : Nat)] (0 : Nat), #[]⟩) ::
    (nat_lit 25, ⟨.type "tuple", none, .seq #[] (0 : Nat), #[]⟩) ::
    (nat_lit 27, ⟨.type "code", none, .fields #[.str (.ofString "block_size") (202 : Nat), .str (.ofString "block_size") (203 : Nat), .str (.ofString "/claim/cut.py") (204 : Nat), .int 8 (0 : Nat), .int 1 (0 : Nat), .int 0 (0 : Nat), .int 0 (0 : Nat), .int 3 (0 : Nat), .ref (22 : Nat), .bool .true, .int 181 (0 : Nat), .ref (23 : Nat), .none, .ref (24 : Nat), .ref (25 : Nat), .ref (26 : Nat), .int 206 (0 : Nat), .int 8 (0 : Nat), .str (.ofString "/claim/cut.py") (207 : Nat)], #[]⟩) ::
    (nat_lit 28, ⟨.type "function", none, .func ⟨.ofString "block_size", .ofString "block_size", a28, .stmts b28, s28, (3 : Nat), [], .none, .none, .none, .str (.ofString "moduleyard.heap") (194 : Nat), none, .ref (27 : Nat), .none, (0 : Nat)⟩, #[]⟩) ::
    (nat_lit 29, ⟨.type "tuple", none, .seq #[] (0 : Nat), #[]⟩) ::
    (nat_lit 31, ⟨.type "tuple", none, .seq #[.str (.ofString "size") (212 : Nat)] (0 : Nat), #[]⟩) ::
    (nat_lit 32, ⟨.type "tuple", none, .seq #[] (0 : Nat), #[]⟩) ::
    (nat_lit 34, ⟨.type "code", none, .fields #[.str (.ofString "list_number") (209 : Nat), .str (.ofString "list_number") (210 : Nat), .str (.ofString "/claim/cut.py") (211 : Nat), .int 10 (0 : Nat), .int 1 (0 : Nat), .int 0 (0 : Nat), .int 0 (0 : Nat), .int 3 (0 : Nat), .ref (29 : Nat), .bool .true, .int 181 (0 : Nat), .ref (30 : Nat), .none, .ref (31 : Nat), .ref (32 : Nat), .ref (33 : Nat), .int 213 (0 : Nat), .int 10 (0 : Nat), .str (.ofString "/claim/cut.py") (214 : Nat)], #[]⟩) ::
    (nat_lit 35, ⟨.type "function", none, .func ⟨.ofString "list_number", .ofString "list_number", a35, .stmts b35, s35, (3 : Nat), [], .none, .none, .none, .str (.ofString "moduleyard.heap") (194 : Nat), none, .ref (34 : Nat), .none, (0 : Nat)⟩, #[]⟩) ::
    (nat_lit 43, ⟨.type "tuple", none, .seq #[] (0 : Nat), #[]⟩) ::
    (nat_lit 45, ⟨.type "tuple", none, .seq #[.str (.ofString "self") (231 : Nat), .str (.ofString "memory") (232 : Nat), .str (.ofString "start") (233 : Nat), .str (.ofString "limit") (234 : Nat)] (0 : Nat), #[]⟩) ::
    (nat_lit 46, ⟨.type "tuple", none, .seq #[] (0 : Nat), #[]⟩) ::
    (nat_lit 48, ⟨.type "code", none, .fields #[.str (.ofString "__init__") (228 : Nat), .str (.ofString "Heap.__init__") (229 : Nat), .str (.ofString "/claim/cut.py") (230 : Nat), .int 20 (0 : Nat), .int 4 (0 : Nat), .int 0 (0 : Nat), .int 0 (0 : Nat), .int 3 (0 : Nat), .ref (43 : Nat), .bool .true, .int 181 (0 : Nat), .ref (44 : Nat), .none, .ref (45 : Nat), .ref (46 : Nat), .ref (47 : Nat), .int 235 (0 : Nat), .int 20 (0 : Nat), .str (.ofString "/claim/cut.py") (236 : Nat)], #[]⟩) ::
    (nat_lit 49, ⟨.type "function", none, .func ⟨.ofString "__init__", .ofString "Heap.__init__", a49, .stmts b49, s49, (3 : Nat), [], .none, .none, .none, .str (.ofString "moduleyard.heap") (194 : Nat), none, .ref (48 : Nat), .none, (0 : Nat)⟩, #[]⟩) ::
    (nat_lit 50, ⟨.type "tuple", none, .seq #[] (0 : Nat), #[]⟩) ::
    (nat_lit 52, ⟨.type "tuple", none, .seq #[.str (.ofString "self") (241 : Nat), .str (.ofString "block") (242 : Nat), .str (.ofString "size") (243 : Nat), .str (.ofString "number") (244 : Nat)] (0 : Nat), #[]⟩) ::
    (nat_lit 53, ⟨.type "tuple", none, .seq #[] (0 : Nat), #[]⟩) ::
    (nat_lit 55, ⟨.type "code", none, .fields #[.str (.ofString "put_free") (238 : Nat), .str (.ofString "Heap.put_free") (239 : Nat), .str (.ofString "/claim/cut.py") (240 : Nat), .int 28 (0 : Nat), .int 3 (0 : Nat), .int 0 (0 : Nat), .int 0 (0 : Nat), .int 3 (0 : Nat), .ref (50 : Nat), .bool .true, .int 181 (0 : Nat), .ref (51 : Nat), .none, .ref (52 : Nat), .ref (53 : Nat), .ref (54 : Nat), .int 245 (0 : Nat), .int 28 (0 : Nat), .str (.ofString "/claim/cut.py") (246 : Nat)], #[]⟩) ::
    (nat_lit 56, ⟨.type "function", none, .func ⟨.ofString "put_free", .ofString "Heap.put_free", a56, .stmts b56, s56, (3 : Nat), [], .none, .none, .none, .str (.ofString "moduleyard.heap") (194 : Nat), none, .ref (55 : Nat), .none, (0 : Nat)⟩, #[]⟩) ::
    (nat_lit 57, ⟨.type "tuple", none, .seq #[] (0 : Nat), #[]⟩) ::
    (nat_lit 59, ⟨.type "tuple", none, .seq #[.str (.ofString "self") (251 : Nat), .str (.ofString "block") (252 : Nat)] (0 : Nat), #[]⟩) ::
    (nat_lit 60, ⟨.type "tuple", none, .seq #[] (0 : Nat), #[]⟩) ::
    (nat_lit 62, ⟨.type "code", none, .fields #[.str (.ofString "is_free") (248 : Nat), .str (.ofString "Heap.is_free") (249 : Nat), .str (.ofString "/claim/cut.py") (250 : Nat), .int 34 (0 : Nat), .int 2 (0 : Nat), .int 0 (0 : Nat), .int 0 (0 : Nat), .int 3 (0 : Nat), .ref (57 : Nat), .bool .true, .int 181 (0 : Nat), .ref (58 : Nat), .none, .ref (59 : Nat), .ref (60 : Nat), .ref (61 : Nat), .int 253 (0 : Nat), .int 34 (0 : Nat), .str (.ofString "/claim/cut.py") (254 : Nat)], #[]⟩) ::
    (nat_lit 63, ⟨.type "function", none, .func ⟨.ofString "is_free", .ofString "Heap.is_free", a63, .stmts b63, s63, (3 : Nat), [], .none, .none, .none, .str (.ofString "moduleyard.heap") (194 : Nat), none, .ref (62 : Nat), .none, (0 : Nat)⟩, #[]⟩) ::
    (nat_lit 64, ⟨.type "tuple", none, .seq #[] (0 : Nat), #[]⟩) ::
    (nat_lit 66, ⟨.type "tuple", none, .seq #[.str (.ofString "self") (259 : Nat), .str (.ofString "block") (260 : Nat)] (0 : Nat), #[]⟩) ::
    (nat_lit 67, ⟨.type "tuple", none, .seq #[] (0 : Nat), #[]⟩) ::
    (nat_lit 69, ⟨.type "code", none, .fields #[.str (.ofString "descriptor") (256 : Nat), .str (.ofString "Heap.descriptor") (257 : Nat), .str (.ofString "/claim/cut.py") (258 : Nat), .int 37 (0 : Nat), .int 2 (0 : Nat), .int 0 (0 : Nat), .int 0 (0 : Nat), .int 3 (0 : Nat), .ref (64 : Nat), .bool .true, .int 181 (0 : Nat), .ref (65 : Nat), .none, .ref (66 : Nat), .ref (67 : Nat), .ref (68 : Nat), .int 261 (0 : Nat), .int 37 (0 : Nat), .str (.ofString "/claim/cut.py") (262 : Nat)], #[]⟩) ::
    (nat_lit 70, ⟨.type "function", none, .func ⟨.ofString "descriptor", .ofString "Heap.descriptor", a70, .stmts b70, s70, (3 : Nat), [], .none, .none, .none, .str (.ofString "moduleyard.heap") (194 : Nat), none, .ref (69 : Nat), .none, (0 : Nat)⟩, #[]⟩) ::
    (nat_lit 71, ⟨.type "tuple", none, .seq #[] (0 : Nat), #[]⟩) ::
    (nat_lit 73, ⟨.type "tuple", none, .seq #[.str (.ofString "self") (267 : Nat), .str (.ofString "block") (268 : Nat), .str (.ofString "first") (269 : Nat)] (0 : Nat), #[]⟩) ::
    (nat_lit 74, ⟨.type "tuple", none, .seq #[] (0 : Nat), #[]⟩) ::
    (nat_lit 76, ⟨.type "code", none, .fields #[.str (.ofString "size_of") (264 : Nat), .str (.ofString "Heap.size_of") (265 : Nat), .str (.ofString "/claim/cut.py") (266 : Nat), .int 40 (0 : Nat), .int 2 (0 : Nat), .int 0 (0 : Nat), .int 0 (0 : Nat), .int 3 (0 : Nat), .ref (71 : Nat), .bool .true, .int 181 (0 : Nat), .ref (72 : Nat), .none, .ref (73 : Nat), .ref (74 : Nat), .ref (75 : Nat), .int 270 (0 : Nat), .int 40 (0 : Nat), .str (.ofString "/claim/cut.py") (271 : Nat)], #[]⟩) ::
    (nat_lit 77, ⟨.type "function", none, .func ⟨.ofString "size_of", .ofString "Heap.size_of", a77, .stmts b77, s77, (3 : Nat), [], .none, .none, .none, .str (.ofString "moduleyard.heap") (194 : Nat), none, .ref (76 : Nat), .none, (0 : Nat)⟩, #[]⟩) ::
    (nat_lit 78, ⟨.type "tuple", none, .seq #[] (0 : Nat), #[]⟩) ::
    (nat_lit 80, ⟨.type "tuple", none, .seq #[.str (.ofString "self") (276 : Nat), .str (.ofString "size") (277 : Nat), .str (.ofString "number") (278 : Nat), .str (.ofString "before") (279 : Nat), .str (.ofString "block") (280 : Nat), .str (.ofString "following") (281 : Nat)] (0 : Nat), #[]⟩) ::
    (nat_lit 81, ⟨.type "tuple", none, .seq #[] (0 : Nat), #[]⟩) ::
    (nat_lit 83, ⟨.type "code", none, .fields #[.str (.ofString "take_free") (273 : Nat), .str (.ofString "Heap.take_free") (274 : Nat), .str (.ofString "/claim/cut.py") (275 : Nat), .int 46 (0 : Nat), .int 2 (0 : Nat), .int 0 (0 : Nat), .int 0 (0 : Nat), .int 3 (0 : Nat), .ref (78 : Nat), .bool .true, .int 181 (0 : Nat), .ref (79 : Nat), .none, .ref (80 : Nat), .ref (81 : Nat), .ref (82 : Nat), .int 282 (0 : Nat), .int 46 (0 : Nat), .str (.ofString "/claim/cut.py") (283 : Nat)], #[]⟩) ::
    (nat_lit 84, ⟨.type "function", none, .func ⟨.ofString "take_free", .ofString "Heap.take_free", a84, .stmts b84, s84, (3 : Nat), [], .none, .none, .none, .str (.ofString "moduleyard.heap") (194 : Nat), none, .ref (83 : Nat), .none, (0 : Nat)⟩, #[]⟩) ::
    (nat_lit 85, ⟨.type "tuple", none, .seq #[] (0 : Nat), #[]⟩) ::
    (nat_lit 87, ⟨.type "tuple", none, .seq #[.str (.ofString "self") (288 : Nat), .str (.ofString "descriptor") (289 : Nat), .str (.ofString "size") (290 : Nat), .str (.ofString "block") (291 : Nat), .str (.ofString "rest") (292 : Nat), .str (.ofString "address") (293 : Nat)] (0 : Nat), #[]⟩) ::
    (nat_lit 88, ⟨.type "tuple", none, .seq #[] (0 : Nat), #[]⟩) ::
    (nat_lit 90, ⟨.type "code", none, .fields #[.str (.ofString "alloc") (285 : Nat), .str (.ofString "Heap.alloc") (286 : Nat), .str (.ofString "/claim/cut.py") (287 : Nat), .int 62 (0 : Nat), .int 2 (0 : Nat), .int 0 (0 : Nat), .int 0 (0 : Nat), .int 3 (0 : Nat), .ref (85 : Nat), .bool .true, .int 181 (0 : Nat), .ref (86 : Nat), .none, .ref (87 : Nat), .ref (88 : Nat), .ref (89 : Nat), .int 294 (0 : Nat), .int 62 (0 : Nat), .str (.ofString "/claim/cut.py") (295 : Nat)], #[]⟩) ::
    (nat_lit 91, ⟨.type "function", none, .func ⟨.ofString "alloc", .ofString "Heap.alloc", a91, .stmts b91, s91, (3 : Nat), [], .none, .none, .none, .str (.ofString "moduleyard.heap") (194 : Nat), none, .ref (90 : Nat), .none, (0 : Nat)⟩, #[]⟩) ::
    (nat_lit 92, ⟨.type "tuple", none, .seq #[] (0 : Nat), #[]⟩) ::
    (nat_lit 94, ⟨.type "tuple", none, .seq #[.str (.ofString "self") (300 : Nat), .str (.ofString "found") (301 : Nat), .str (.ofString "block") (302 : Nat), .str (.ofString "size") (303 : Nat)] (0 : Nat), #[]⟩) ::
    (nat_lit 95, ⟨.type "tuple", none, .seq #[] (0 : Nat), #[]⟩) ::
    (nat_lit 97, ⟨.type "code", none, .fields #[.str (.ofString "blocks") (297 : Nat), .str (.ofString "Heap.blocks") (298 : Nat), .str (.ofString "/claim/cut.py") (299 : Nat), .int 75 (0 : Nat), .int 1 (0 : Nat), .int 0 (0 : Nat), .int 0 (0 : Nat), .int 3 (0 : Nat), .ref (92 : Nat), .bool .true, .int 181 (0 : Nat), .ref (93 : Nat), .none, .ref (94 : Nat), .ref (95 : Nat), .ref (96 : Nat), .int 304 (0 : Nat), .int 75 (0 : Nat), .str (.ofString "/claim/cut.py") (305 : Nat)], #[]⟩) ::
    (nat_lit 98, ⟨.type "function", none, .func ⟨.ofString "blocks", .ofString "Heap.blocks", a98, .stmts b98, s98, (3 : Nat), [], .none, .none, .none, .str (.ofString "moduleyard.heap") (194 : Nat), none, .ref (97 : Nat), .none, (0 : Nat)⟩, #[]⟩) ::
    (nat_lit 99, ⟨.type "tuple", none, .seq #[] (0 : Nat), #[]⟩) ::
    (nat_lit 101, ⟨.type "tuple", none, .seq #[.str (.ofString "self") (310 : Nat), .str (.ofString "address") (311 : Nat)] (0 : Nat), #[]⟩) ::
    (nat_lit 102, ⟨.type "tuple", none, .seq #[] (0 : Nat), #[]⟩) ::
    (nat_lit 104, ⟨.type "code", none, .fields #[.str (.ofString "block_of") (307 : Nat), .str (.ofString "Heap.block_of") (308 : Nat), .str (.ofString "/claim/cut.py") (309 : Nat), .int 87 (0 : Nat), .int 2 (0 : Nat), .int 0 (0 : Nat), .int 0 (0 : Nat), .int 3 (0 : Nat), .ref (99 : Nat), .bool .true, .int 181 (0 : Nat), .ref (100 : Nat), .none, .ref (101 : Nat), .ref (102 : Nat), .ref (103 : Nat), .int 312 (0 : Nat), .int 87 (0 : Nat), .str (.ofString "/claim/cut.py") (313 : Nat)], #[]⟩) ::
    (nat_lit 105, ⟨.type "function", none, .func ⟨.ofString "block_of", .ofString "Heap.block_of", a105, .stmts b105, s105, (3 : Nat), [], .none, .none, .none, .str (.ofString "moduleyard.heap") (194 : Nat), none, .ref (104 : Nat), .none, (0 : Nat)⟩, #[]⟩) ::
    (nat_lit 106, ⟨.type "tuple", none, .seq #[.str (.ofString "free") (315 : Nat), .str (.ofString "limit") (316 : Nat), .str (.ofString "memory") (317 : Nat), .str (.ofString "start") (318 : Nat)] (0 : Nat), #[]⟩) ::
    (nat_lit 107, ⟨.type "dict", none, .dict #[⟨PySem.PyData.keyHash P (.ofString "__module__"), .str (.ofString "__module__") (223 : Nat), .str (.ofString "moduleyard.heap") (194 : Nat)⟩, ⟨PySem.PyData.keyHash P (.ofString "__firstlineno__"), .str (.ofString "__firstlineno__") (227 : Nat), .int 18 (226 : Nat)⟩, ⟨PySem.PyData.keyHash P (.ofString "__init__"), .str (.ofString "__init__") (237 : Nat), .ref (49 : Nat)⟩, ⟨PySem.PyData.keyHash P (.ofString "put_free"), .str (.ofString "put_free") (247 : Nat), .ref (56 : Nat)⟩, ⟨PySem.PyData.keyHash P (.ofString "is_free"), .str (.ofString "is_free") (255 : Nat), .ref (63 : Nat)⟩, ⟨PySem.PyData.keyHash P (.ofString "descriptor"), .str (.ofString "descriptor") (263 : Nat), .ref (70 : Nat)⟩, ⟨PySem.PyData.keyHash P (.ofString "size_of"), .str (.ofString "size_of") (272 : Nat), .ref (77 : Nat)⟩, ⟨PySem.PyData.keyHash P (.ofString "take_free"), .str (.ofString "take_free") (284 : Nat), .ref (84 : Nat)⟩, ⟨PySem.PyData.keyHash P (.ofString "alloc"), .str (.ofString "alloc") (296 : Nat), .ref (91 : Nat)⟩, ⟨PySem.PyData.keyHash P (.ofString "blocks"), .str (.ofString "blocks") (306 : Nat), .ref (98 : Nat)⟩, ⟨PySem.PyData.keyHash P (.ofString "block_of"), .str (.ofString "block_of") (314 : Nat), .ref (105 : Nat)⟩, ⟨PySem.PyData.keyHash P (.ofString "__static_attributes__"), .str (.ofString "__static_attributes__") (319 : Nat), .ref (106 : Nat)⟩, ⟨PySem.PyData.keyHash P (.ofString "__dict__"), .str (.ofString "__dict__") (321 : Nat), .ref (109 : Nat)⟩, ⟨PySem.PyData.keyHash P (.ofString "__weakref__"), .str (.ofString "__weakref__") (323 : Nat), .ref (110 : Nat)⟩, ⟨PySem.PyData.keyHash P (.ofString "__doc__"), .str (.ofString "__doc__") (324 : Nat), .none⟩] (4 : Nat), #[]⟩) ::
    (nat_lit 108, ⟨.type "type", none, .cls ⟨.ofString "Heap", [.type "object"], [.ref (108 : Nat), .type "object"], (107 : Nat), .ofString "Heap", .true, [], [], .false, none, .false⟩, #[none, none, some (.str (.ofString "Heap") (216 : Nat)), some (.str (.ofString "Heap") (224 : Nat)), some (.builtin "object.__new__"), some (.bool .true)]⟩) ::
    (nat_lit 109, ⟨.type "getset_descriptor", none, .fields #[.str (.ofString "__dict__") (320 : Nat), .ref (108 : Nat), .builtin "function.__dict__", .builtin "function.__dict__#set"], #[]⟩) ::
    (nat_lit 110, ⟨.type "getset_descriptor", none, .fields #[.str (.ofString "__weakref__") (322 : Nat), .ref (108 : Nat), .builtin "ExceptionGroup.__weakref__", .none], #[]⟩) ::
    (nat_lit 113, ⟨.type "tuple", none, .seq #[] (0 : Nat), #[]⟩) ::
    (nat_lit 115, ⟨.type "tuple", none, .seq #[.str (.ofString "heap") (332 : Nat), .str (.ofString "memory") (333 : Nat), .str (.ofString "runs") (334 : Nat), .str (.ofString "freed") (335 : Nat), .str (.ofString "behind") (336 : Nat), .str (.ofString "block") (337 : Nat), .str (.ofString "size") (338 : Nat), .str (.ofString "descriptor") (339 : Nat), .str (.ofString "start") (340 : Nat), .str (.ofString "length") (341 : Nat)] (0 : Nat), #[]⟩) ::
    (nat_lit 116, ⟨.type "tuple", none, .seq #[] (0 : Nat), #[]⟩) ::
    (nat_lit 118, ⟨.type "code", none, .fields #[.str (.ofString "free_runs") (329 : Nat), .str (.ofString "free_runs") (330 : Nat), .str (.ofString "/claim/cut.py") (331 : Nat), .int 90 (0 : Nat), .int 1 (0 : Nat), .int 0 (0 : Nat), .int 0 (0 : Nat), .int 3 (0 : Nat), .ref (113 : Nat), .bool .true, .int 181 (0 : Nat), .ref (114 : Nat), .none, .ref (115 : Nat), .ref (116 : Nat), .ref (117 : Nat), .int 342 (0 : Nat), .int 90 (0 : Nat), .str (.ofString "/claim/cut.py") (343 : Nat)], #[]⟩) ::
    (nat_lit 119, ⟨.type "function", none, .func ⟨.ofString "free_runs", .ofString "free_runs", a119, .stmts b119, s119, (3 : Nat), [], .none, .none, .none, .str (.ofString "moduleyard.sweeper") (327 : Nat), none, .ref (118 : Nat), .none, (0 : Nat)⟩, #[]⟩) ::
    (nat_lit 120, ⟨.type "tuple", none, .seq #[] (0 : Nat), #[]⟩) ::
    (nat_lit 122, ⟨.type "tuple", none, .seq #[.str (.ofString "heap") (348 : Nat), .str (.ofString "runs") (349 : Nat), .str (.ofString "freed") (350 : Nat), .str (.ofString "number") (351 : Nat)] (0 : Nat), #[]⟩) ::
    (nat_lit 123, ⟨.type "tuple", none, .seq #[] (0 : Nat), #[]⟩) ::
    (nat_lit 125, ⟨.type "code", none, .fields #[.str (.ofString "sweep") (345 : Nat), .str (.ofString "sweep") (346 : Nat), .str (.ofString "/claim/cut.py") (347 : Nat), .int 108 (0 : Nat), .int 1 (0 : Nat), .int 0 (0 : Nat), .int 0 (0 : Nat), .int 3 (0 : Nat), .ref (120 : Nat), .bool .true, .int 181 (0 : Nat), .ref (121 : Nat), .none, .ref (122 : Nat), .ref (123 : Nat), .ref (124 : Nat), .int 352 (0 : Nat), .int 108 (0 : Nat), .str (.ofString "/claim/cut.py") (353 : Nat)], #[]⟩) ::
    (nat_lit 126, ⟨.type "function", none, .func ⟨.ofString "sweep", .ofString "sweep", a126, .stmts b126, s126, (3 : Nat), [], .none, .none, .none, .str (.ofString "moduleyard.sweeper") (327 : Nat), none, .ref (125 : Nat), .none, (0 : Nat)⟩, #[]⟩) ::
    (nat_lit 127, ⟨.type "tuple", none, .seq #[.type "Exception"] (0 : Nat), #[]⟩) ::
    (nat_lit 134, ⟨.type "tuple", none, .seq #[] (0 : Nat), #[]⟩) ::
    (nat_lit 135, ⟨.type "dict", none, .dict #[⟨PySem.PyData.keyHash P (.ofString "__module__"), .str (.ofString "__module__") (364 : Nat), .str (.ofString "moduleyard.errors") (355 : Nat)⟩, ⟨PySem.PyData.keyHash P (.ofString "__firstlineno__"), .str (.ofString "__firstlineno__") (368 : Nat), .int 115 (367 : Nat)⟩, ⟨PySem.PyData.keyHash P (.ofString "__static_attributes__"), .str (.ofString "__static_attributes__") (369 : Nat), .ref (134 : Nat)⟩, ⟨PySem.PyData.keyHash P (.ofString "__weakref__"), .str (.ofString "__weakref__") (371 : Nat), .ref (137 : Nat)⟩, ⟨PySem.PyData.keyHash P (.ofString "__doc__"), .str (.ofString "__doc__") (372 : Nat), .none⟩] (3 : Nat), #[]⟩) ::
    (nat_lit 136, ⟨.type "type", none, .cls ⟨.ofString "YardError", [.type "Exception"], [.ref (136 : Nat), .type "Exception", .type "BaseException", .type "object"], (135 : Nat), .ofString "YardError", .true, [], [.ref (156 : Nat)], .false, none, .false⟩, #[some (.ref (127 : Nat)), none, some (.str (.ofString "YardError") (357 : Nat)), some (.str (.ofString "YardError") (365 : Nat)), some (.builtin "Exception.__new__"), some (.bool .true)]⟩) ::
    (nat_lit 137, ⟨.type "getset_descriptor", none, .fields #[.str (.ofString "__weakref__") (370 : Nat), .ref (136 : Nat), .builtin "ExceptionGroup.__weakref__", .none], #[]⟩) ::
    (nat_lit 140, ⟨.type "tuple", none, .seq #[.ref (136 : Nat)] (0 : Nat), #[]⟩) ::
    (nat_lit 147, ⟨.type "tuple", none, .seq #[] (0 : Nat), #[]⟩) ::
    (nat_lit 149, ⟨.type "tuple", none, .seq #[.str (.ofString "self") (392 : Nat), .str (.ofString "number") (393 : Nat), .str (.ofString "place") (394 : Nat), .str (.ofString "module") (395 : Nat)] (0 : Nat), #[]⟩) ::
    (nat_lit 150, ⟨.type "tuple", none, .seq #[] (0 : Nat), #[]⟩) ::
    (nat_lit 152, ⟨.type "code", none, .fields #[.str (.ofString "__init__") (389 : Nat), .str (.ofString "TrapError.__init__") (390 : Nat), .str (.ofString "/claim/cut.py") (391 : Nat), .int 119 (0 : Nat), .int 4 (0 : Nat), .int 0 (0 : Nat), .int 0 (0 : Nat), .int 3 (0 : Nat), .ref (147 : Nat), .bool .true, .int 181 (0 : Nat), .ref (148 : Nat), .none, .ref (149 : Nat), .ref (150 : Nat), .ref (151 : Nat), .int 396 (0 : Nat), .int 119 (0 : Nat), .str (.ofString "/claim/cut.py") (397 : Nat)], #[]⟩) ::
    (nat_lit 153, ⟨.type "function", none, .func ⟨.ofString "__init__", .ofString "TrapError.__init__", a153, .stmts b153, s153, (3 : Nat), [], .none, .none, .none, .str (.ofString "moduleyard.errors") (355 : Nat), none, .ref (152 : Nat), .none, (0 : Nat)⟩, #[]⟩) ::
    (nat_lit 154, ⟨.type "tuple", none, .seq #[.str (.ofString "module") (399 : Nat), .str (.ofString "number") (400 : Nat), .str (.ofString "place") (401 : Nat)] (0 : Nat), #[]⟩) ::
    (nat_lit 155, ⟨.type "dict", none, .dict #[⟨PySem.PyData.keyHash P (.ofString "__module__"), .str (.ofString "__module__") (384 : Nat), .str (.ofString "moduleyard.errors") (355 : Nat)⟩, ⟨PySem.PyData.keyHash P (.ofString "__firstlineno__"), .str (.ofString "__firstlineno__") (388 : Nat), .int 117 (387 : Nat)⟩, ⟨PySem.PyData.keyHash P (.ofString "__init__"), .str (.ofString "__init__") (398 : Nat), .ref (153 : Nat)⟩, ⟨PySem.PyData.keyHash P (.ofString "__static_attributes__"), .str (.ofString "__static_attributes__") (402 : Nat), .ref (154 : Nat)⟩, ⟨PySem.PyData.keyHash P (.ofString "__doc__"), .str (.ofString "__doc__") (403 : Nat), .none⟩] (2 : Nat), #[]⟩) ::
    (nat_lit 156, ⟨.type "type", none, .cls ⟨.ofString "TrapError", [.ref (136 : Nat)], [.ref (156 : Nat), .ref (136 : Nat), .type "Exception", .type "BaseException", .type "object"], (155 : Nat), .ofString "TrapError", .true, [], [], .false, none, .false⟩, #[some (.ref (140 : Nat)), none, some (.str (.ofString "TrapError") (377 : Nat)), some (.str (.ofString "TrapError") (385 : Nat)), some (.builtin "Exception.__new__"), some (.bool .true)]⟩) ::
    (nat_lit 166, ⟨.type "tuple", none, .seq #[] (0 : Nat), #[]⟩) ::
    (nat_lit 168, ⟨.type "tuple", none, .seq #[.str (.ofString "self") (425 : Nat), .str (.ofString "size") (426 : Nat)] (0 : Nat), #[]⟩) ::
    (nat_lit 169, ⟨.type "tuple", none, .seq #[] (0 : Nat), #[]⟩) ::
    (nat_lit 171, ⟨.type "code", none, .fields #[.str (.ofString "__init__") (422 : Nat), .str (.ofString "Memory.__init__") (423 : Nat), .str (.ofString "/claim/cut.py") (424 : Nat), .int 127 (0 : Nat), .int 2 (0 : Nat), .int 0 (0 : Nat), .int 0 (0 : Nat), .int 3 (0 : Nat), .ref (166 : Nat), .bool .true, .int 181 (0 : Nat), .ref (167 : Nat), .none, .ref (168 : Nat), .ref (169 : Nat), .ref (170 : Nat), .int 427 (0 : Nat), .int 127 (0 : Nat), .str (.ofString "/claim/cut.py") (428 : Nat)], #[]⟩) ::
    (nat_lit 172, ⟨.type "function", none, .func ⟨.ofString "__init__", .ofString "Memory.__init__", a172, .stmts b172, s172, (3 : Nat), [], .none, .none, .none, .str (.ofString "moduleyard.memory") (406 : Nat), none, .ref (171 : Nat), .none, (0 : Nat)⟩, #[]⟩) ::
    (nat_lit 173, ⟨.type "tuple", none, .seq #[] (0 : Nat), #[]⟩) ::
    (nat_lit 175, ⟨.type "tuple", none, .seq #[.str (.ofString "self") (433 : Nat), .str (.ofString "address") (434 : Nat)] (0 : Nat), #[]⟩) ::
    (nat_lit 176, ⟨.type "tuple", none, .seq #[] (0 : Nat), #[]⟩) ::
    (nat_lit 178, ⟨.type "code", none, .fields #[.str (.ofString "place") (430 : Nat), .str (.ofString "Memory.place") (431 : Nat), .str (.ofString "/claim/cut.py") (432 : Nat), .int 131 (0 : Nat), .int 2 (0 : Nat), .int 0 (0 : Nat), .int 0 (0 : Nat), .int 3 (0 : Nat), .ref (173 : Nat), .bool .true, .int 181 (0 : Nat), .ref (174 : Nat), .none, .ref (175 : Nat), .ref (176 : Nat), .ref (177 : Nat), .int 435 (0 : Nat), .int 131 (0 : Nat), .str (.ofString "/claim/cut.py") (436 : Nat)], #[]⟩) ::
    (nat_lit 179, ⟨.type "function", none, .func ⟨.ofString "place", .ofString "Memory.place", a179, .stmts b179, s179, (3 : Nat), [], .none, .none, .none, .str (.ofString "moduleyard.memory") (406 : Nat), none, .ref (178 : Nat), .none, (0 : Nat)⟩, #[]⟩) ::
    (nat_lit 180, ⟨.type "tuple", none, .seq #[] (0 : Nat), #[]⟩) ::
    (nat_lit 182, ⟨.type "tuple", none, .seq #[.str (.ofString "self") (441 : Nat), .str (.ofString "address") (442 : Nat)] (0 : Nat), #[]⟩) ::
    (nat_lit 183, ⟨.type "tuple", none, .seq #[] (0 : Nat), #[]⟩) ::
    (nat_lit 185, ⟨.type "code", none, .fields #[.str (.ofString "word") (438 : Nat), .str (.ofString "Memory.word") (439 : Nat), .str (.ofString "/claim/cut.py") (440 : Nat), .int 136 (0 : Nat), .int 2 (0 : Nat), .int 0 (0 : Nat), .int 0 (0 : Nat), .int 3 (0 : Nat), .ref (180 : Nat), .bool .true, .int 181 (0 : Nat), .ref (181 : Nat), .none, .ref (182 : Nat), .ref (183 : Nat), .ref (184 : Nat), .int 443 (0 : Nat), .int 136 (0 : Nat), .str (.ofString "/claim/cut.py") (444 : Nat)], #[]⟩) ::
    (nat_lit 186, ⟨.type "function", none, .func ⟨.ofString "word", .ofString "Memory.word", a186, .stmts b186, s186, (3 : Nat), [], .none, .none, .none, .str (.ofString "moduleyard.memory") (406 : Nat), none, .ref (185 : Nat), .none, (0 : Nat)⟩, #[]⟩) ::
    (nat_lit 187, ⟨.type "tuple", none, .seq #[] (0 : Nat), #[]⟩) ::
    (nat_lit 189, ⟨.type "tuple", none, .seq #[.str (.ofString "self") (449 : Nat), .str (.ofString "address") (450 : Nat), .str (.ofString "value") (451 : Nat)] (0 : Nat), #[]⟩) ::
    (nat_lit 190, ⟨.type "tuple", none, .seq #[] (0 : Nat), #[]⟩) ::
    (nat_lit 192, ⟨.type "code", none, .fields #[.str (.ofString "put_word") (446 : Nat), .str (.ofString "Memory.put_word") (447 : Nat), .str (.ofString "/claim/cut.py") (448 : Nat), .int 139 (0 : Nat), .int 3 (0 : Nat), .int 0 (0 : Nat), .int 0 (0 : Nat), .int 3 (0 : Nat), .ref (187 : Nat), .bool .true, .int 181 (0 : Nat), .ref (188 : Nat), .none, .ref (189 : Nat), .ref (190 : Nat), .ref (191 : Nat), .int 452 (0 : Nat), .int 139 (0 : Nat), .str (.ofString "/claim/cut.py") (453 : Nat)], #[]⟩) ::
    (nat_lit 193, ⟨.type "function", none, .func ⟨.ofString "put_word", .ofString "Memory.put_word", a193, .stmts b193, s193, (3 : Nat), [], .none, .none, .none, .str (.ofString "moduleyard.memory") (406 : Nat), none, .ref (192 : Nat), .none, (0 : Nat)⟩, #[]⟩) ::
    (nat_lit 194, ⟨.type "tuple", none, .seq #[] (0 : Nat), #[]⟩) ::
    (nat_lit 196, ⟨.type "tuple", none, .seq #[.str (.ofString "self") (458 : Nat), .str (.ofString "address") (459 : Nat)] (0 : Nat), #[]⟩) ::
    (nat_lit 197, ⟨.type "tuple", none, .seq #[] (0 : Nat), #[]⟩) ::
    (nat_lit 199, ⟨.type "code", none, .fields #[.str (.ofString "byte") (455 : Nat), .str (.ofString "Memory.byte") (456 : Nat), .str (.ofString "/claim/cut.py") (457 : Nat), .int 142 (0 : Nat), .int 2 (0 : Nat), .int 0 (0 : Nat), .int 0 (0 : Nat), .int 3 (0 : Nat), .ref (194 : Nat), .bool .true, .int 181 (0 : Nat), .ref (195 : Nat), .none, .ref (196 : Nat), .ref (197 : Nat), .ref (198 : Nat), .int 460 (0 : Nat), .int 142 (0 : Nat), .str (.ofString "/claim/cut.py") (461 : Nat)], #[]⟩) ::
    (nat_lit 200, ⟨.type "function", none, .func ⟨.ofString "byte", .ofString "Memory.byte", a200, .stmts b200, s200, (3 : Nat), [], .none, .none, .none, .str (.ofString "moduleyard.memory") (406 : Nat), none, .ref (199 : Nat), .none, (0 : Nat)⟩, #[]⟩) ::
    (nat_lit 201, ⟨.type "tuple", none, .seq #[] (0 : Nat), #[]⟩) ::
    (nat_lit 203, ⟨.type "tuple", none, .seq #[.str (.ofString "self") (466 : Nat), .str (.ofString "address") (467 : Nat), .str (.ofString "value") (468 : Nat)] (0 : Nat), #[]⟩) ::
    (nat_lit 204, ⟨.type "tuple", none, .seq #[] (0 : Nat), #[]⟩) ::
    (nat_lit 206, ⟨.type "code", none, .fields #[.str (.ofString "put_byte") (463 : Nat), .str (.ofString "Memory.put_byte") (464 : Nat), .str (.ofString "/claim/cut.py") (465 : Nat), .int 145 (0 : Nat), .int 3 (0 : Nat), .int 0 (0 : Nat), .int 0 (0 : Nat), .int 3 (0 : Nat), .ref (201 : Nat), .bool .true, .int 181 (0 : Nat), .ref (202 : Nat), .none, .ref (203 : Nat), .ref (204 : Nat), .ref (205 : Nat), .int 469 (0 : Nat), .int 145 (0 : Nat), .str (.ofString "/claim/cut.py") (470 : Nat)], #[]⟩) ::
    (nat_lit 207, ⟨.type "function", none, .func ⟨.ofString "put_byte", .ofString "Memory.put_byte", a207, .stmts b207, s207, (3 : Nat), [], .none, .none, .none, .str (.ofString "moduleyard.memory") (406 : Nat), none, .ref (206 : Nat), .none, (0 : Nat)⟩, #[]⟩) ::
    (nat_lit 208, ⟨.type "tuple", none, .seq #[.str (.ofString "size") (472 : Nat), .str (.ofString "words") (473 : Nat)] (0 : Nat), #[]⟩) ::
    (nat_lit 209, ⟨.type "dict", none, .dict #[⟨PySem.PyData.keyHash P (.ofString "__module__"), .str (.ofString "__module__") (417 : Nat), .str (.ofString "moduleyard.memory") (406 : Nat)⟩, ⟨PySem.PyData.keyHash P (.ofString "__firstlineno__"), .str (.ofString "__firstlineno__") (421 : Nat), .int 125 (420 : Nat)⟩, ⟨PySem.PyData.keyHash P (.ofString "__init__"), .str (.ofString "__init__") (429 : Nat), .ref (172 : Nat)⟩, ⟨PySem.PyData.keyHash P (.ofString "place"), .str (.ofString "place") (437 : Nat), .ref (179 : Nat)⟩, ⟨PySem.PyData.keyHash P (.ofString "word"), .str (.ofString "word") (445 : Nat), .ref (186 : Nat)⟩, ⟨PySem.PyData.keyHash P (.ofString "put_word"), .str (.ofString "put_word") (454 : Nat), .ref (193 : Nat)⟩, ⟨PySem.PyData.keyHash P (.ofString "byte"), .str (.ofString "byte") (462 : Nat), .ref (200 : Nat)⟩, ⟨PySem.PyData.keyHash P (.ofString "put_byte"), .str (.ofString "put_byte") (471 : Nat), .ref (207 : Nat)⟩, ⟨PySem.PyData.keyHash P (.ofString "__static_attributes__"), .str (.ofString "__static_attributes__") (474 : Nat), .ref (208 : Nat)⟩, ⟨PySem.PyData.keyHash P (.ofString "__dict__"), .str (.ofString "__dict__") (476 : Nat), .ref (211 : Nat)⟩, ⟨PySem.PyData.keyHash P (.ofString "__weakref__"), .str (.ofString "__weakref__") (478 : Nat), .ref (212 : Nat)⟩, ⟨PySem.PyData.keyHash P (.ofString "__doc__"), .str (.ofString "__doc__") (479 : Nat), .none⟩] (4 : Nat), #[]⟩) ::
    (nat_lit 210, ⟨.type "type", none, .cls ⟨.ofString "Memory", [.type "object"], [.ref (210 : Nat), .type "object"], (209 : Nat), .ofString "Memory", .true, [], [], .false, none, .false⟩, #[none, none, some (.str (.ofString "Memory") (410 : Nat)), some (.str (.ofString "Memory") (418 : Nat)), some (.builtin "object.__new__"), some (.bool .true)]⟩) ::
    (nat_lit 211, ⟨.type "getset_descriptor", none, .fields #[.str (.ofString "__dict__") (475 : Nat), .ref (210 : Nat), .builtin "function.__dict__", .builtin "function.__dict__#set"], #[]⟩) ::
    (nat_lit 212, ⟨.type "getset_descriptor", none, .fields #[.str (.ofString "__weakref__") (477 : Nat), .ref (210 : Nat), .builtin "ExceptionGroup.__weakref__", .none], #[]⟩) ::
    (nat_lit 215, ⟨.type "tuple", none, .seq #[] (0 : Nat), #[]⟩) ::
    (nat_lit 217, ⟨.type "tuple", none, .seq #[.str (.ofString "source") (487 : Nat), .str (.ofString "most") (488 : Nat), .str (.ofString "found") (489 : Nat)] (0 : Nat), #[]⟩) ::
    (nat_lit 218, ⟨.type "tuple", none, .seq #[] (0 : Nat), #[]⟩) ::
    (nat_lit 220, ⟨.type "code", none, .fields #[.str (.ofString "_law_take") (484 : Nat), .str (.ofString "_law_take") (485 : Nat), .str (.ofString "/claim/cut.py") (486 : Nat), .int 148 (0 : Nat), .int 2 (0 : Nat), .int 0 (0 : Nat), .int 0 (0 : Nat), .int 3 (0 : Nat), .ref (215 : Nat), .bool .true, .int 181 (0 : Nat), .ref (216 : Nat), .none, .ref (217 : Nat), .ref (218 : Nat), .ref (219 : Nat), .int 490 (0 : Nat), .int 148 (0 : Nat), .str (.ofString "/claim/cut.py") (491 : Nat)], #[]⟩) ::
    (nat_lit 221, ⟨.type "function", none, .func ⟨.ofString "_law_take", .ofString "_law_take", a221, .stmts b221, s221, (3 : Nat), [], .none, .none, .none, .str (.ofString "law_pb0333_01") (482 : Nat), none, .ref (220 : Nat), .none, (0 : Nat)⟩, #[]⟩) ::
    (nat_lit 222, ⟨.type "tuple", none, .seq #[] (0 : Nat), #[]⟩) ::
    (nat_lit 225, ⟨.type "code", none, .fields #[.str (.ofString "law") (493 : Nat), .str (.ofString "law") (494 : Nat), .str (.ofString "/claim/cut.py") (495 : Nat), .int 156 (0 : Nat), .int 1 (0 : Nat), .int 0 (0 : Nat), .int 0 (0 : Nat), .int 3 (0 : Nat), .ref (222 : Nat), .bool .true, .int 181 (0 : Nat), .ref (223 : Nat), .none, .none, .none, .ref (224 : Nat), .int 496 (0 : Nat), .int 156 (0 : Nat), .str (.ofString "/claim/cut.py") (497 : Nat)], #[]⟩) ::
    (nat_lit 226, ⟨.type "function", none, .func ⟨.ofString "law", .ofString "law", a226, .stmts b226, s226, (3 : Nat), [], .none, .none, .none, .str (.ofString "law_pb0333_01") (482 : Nat), none, .ref (225 : Nat), .none, (0 : Nat)⟩, #[]⟩) :: []) : List (Nat × Obj))
noncomputable def asK : List Addr := [2, 3, 15, 17, 18, 20, 21, 22, 24, 25, 27, 28, 29, 31, 32, 34, 35, 43, 45, 46, 48, 49, 50, 52, 53, 55, 56, 57, 59, 60, 62, 63, 64, 66, 67, 69, 70, 71, 73, 74, 76, 77, 78, 80, 81, 83, 84, 85, 87, 88, 90, 91, 92, 94, 95, 97, 98, 99, 101, 102, 104, 105, 106, 107, 108, 109, 110, 113, 115, 116, 118, 119, 120, 122, 123, 125, 126, 127, 134, 135, 136, 137, 140, 147, 149, 150, 152, 153, 154, 155, 156, 166, 168, 169, 171, 172, 173, 175, 176, 178, 179, 180, 182, 183, 185, 186, 187, 189, 190, 192, 193, 194, 196, 197, 199, 200, 201, 203, 204, 206, 207, 208, 209, 210, 211, 212, 215, 217, 218, 220, 221, 222, 225, 226]

noncomputable def qv : Program := view PySem.Challenge.pw_pb0333_01 [0, 2, 3, 4, 5, 6, 7, 9, 10, 12, 13, 15, 16, 18, 19]
noncomputable abbrev H0 : Hook := kHook K0 asK (fun _ => by kernel_rfl)
noncomputable abbrev X0 : Shared → Bool := fun s => xlAt qv [] s && recOk (RowW.records (OpenRow.toRowW PySem.Challenge.rw_pb0333_01.row)) s
noncomputable abbrev pw : Program := PySem.Challenge.pw_pb0333_01
noncomputable def ho_43 : Params → Obj := fun P => ⟨.type "tuple", none, .seq #[] (0 : Nat), #[]⟩
noncomputable def ho_44 : Params → Obj := fun P => ⟨.none, none, .fields #[], #[]⟩
noncomputable def ho_45 : Params → Obj := fun P => ⟨.type "code", none, .fields #[.str (.ofString "<module>") (182 : Nat), .str (.ofString "<module>") (183 : Nat), .str (.ofString "/claim/cut.py") (184 : Nat), .int 1 (0 : Nat), .int 0 (0 : Nat), .int 0 (0 : Nat), .int 0 (0 : Nat), .int 0 (0 : Nat), .ref (11 : Nat), .bool .false, .int 181 (0 : Nat), .ref (12 : Nat), .none, .none, .none, .none, .int 185 (0 : Nat), .int 1 (0 : Nat), .str (.ofString "/claim/cut.py") (186 : Nat)], #[]⟩
noncomputable def ho_46 : Params → Obj := fun P => ⟨.type "frame", none, .plain, #[some (.ref (13 : Nat)), some (.ref (3 : Nat)), some (.ref (3 : Nat)), none, some (.str (.ofString "__main__") (164 : Nat)), none, some (.ref (0 : Nat))]⟩
noncomputable def ho_151 : Params → Obj := fun P => ⟨.none, none, .dict #[⟨PySem.PyData.keyHash P (.ofString "type.__subclasses__.Exception.0"), .str (.ofString "type.__subclasses__.Exception.0") (373 : Nat), .int 136 (0 : Nat)⟩, ⟨PySem.PyData.keyHash P (.ofString "type.__subclasses__.Exception.n"), .str (.ofString "type.__subclasses__.Exception.n") (374 : Nat), .int 1 (0 : Nat)⟩] (2 : Nat), #[]⟩
noncomputable def ho_261 : Params → Obj := fun P => ⟨.type "dict", none, .dict #[⟨PySem.PyData.keyHash P (.ofString "__name__"), .str (.ofString "__name__") (165 : Nat), .str (.ofString "law_pb0333_01") (482 : Nat)⟩, ⟨PySem.PyData.keyHash P (.ofString "__doc__"), .str (.ofString "__doc__") (166 : Nat), .none⟩, ⟨PySem.PyData.keyHash P (.ofString "__package__"), .str (.ofString "__package__") (167 : Nat), .none⟩, ⟨PySem.PyData.keyHash P (.ofString "__loader__"), .str (.ofString "__loader__") (168 : Nat), .builtin "__main__.__loader__#opaque"⟩, ⟨PySem.PyData.keyHash P (.ofString "__spec__"), .str (.ofString "__spec__") (169 : Nat), .none⟩, ⟨PySem.PyData.keyHash P (.ofString "__annotations__"), .str (.ofString "__annotations__") (170 : Nat), .ref (6 : Nat)⟩, ⟨PySem.PyData.keyHash P (.ofString "__builtins__"), .str (.ofString "__builtins__") (171 : Nat), .ref (4 : Nat)⟩, ⟨PySem.PyData.keyHash P (.ofString "__file__"), .str (.ofString "__file__") (173 : Nat), .str (.ofString "/claim/cut.py") (172 : Nat)⟩, ⟨PySem.PyData.keyHash P (.ofString "__cached__"), .str (.ofString "__cached__") (174 : Nat), .none⟩, ⟨PySem.PyData.keyHash P (.ofString "_wall"), .str (.ofString "_wall") (193 : Nat), .ref (21 : Nat)⟩, ⟨PySem.PyData.keyHash P (.ofString "GRAIN"), .str (.ofString "GRAIN") (197 : Nat), .int 16 (196 : Nat)⟩, ⟨PySem.PyData.keyHash P (.ofString "HEADER"), .str (.ofString "HEADER") (199 : Nat), .int 8 (198 : Nat)⟩, ⟨PySem.PyData.keyHash P (.ofString "LISTS"), .str (.ofString "LISTS") (201 : Nat), .int 4 (200 : Nat)⟩, ⟨PySem.PyData.keyHash P (.ofString "block_size"), .str (.ofString "block_size") (208 : Nat), .ref (28 : Nat)⟩, ⟨PySem.PyData.keyHash P (.ofString "list_number"), .str (.ofString "list_number") (215 : Nat), .ref (35 : Nat)⟩, ⟨PySem.PyData.keyHash P (.ofString "Heap"), .str (.ofString "Heap") (326 : Nat), .ref (108 : Nat)⟩, ⟨PySem.PyData.keyHash P (.ofString "free_runs"), .str (.ofString "free_runs") (344 : Nat), .ref (119 : Nat)⟩, ⟨PySem.PyData.keyHash P (.ofString "sweep"), .str (.ofString "sweep") (354 : Nat), .ref (126 : Nat)⟩, ⟨PySem.PyData.keyHash P (.ofString "YardError"), .str (.ofString "YardError") (376 : Nat), .ref (136 : Nat)⟩, ⟨PySem.PyData.keyHash P (.ofString "TrapError"), .str (.ofString "TrapError") (405 : Nat), .ref (156 : Nat)⟩, ⟨PySem.PyData.keyHash P (.ofString "WORD"), .str (.ofString "WORD") (409 : Nat), .int 4294967296 (408 : Nat)⟩, ⟨PySem.PyData.keyHash P (.ofString "Memory"), .str (.ofString "Memory") (481 : Nat), .ref (210 : Nat)⟩, ⟨PySem.PyData.keyHash P (.ofString "_law_take"), .str (.ofString "_law_take") (492 : Nat), .ref (221 : Nat)⟩, ⟨PySem.PyData.keyHash P (.ofString "law"), .str (.ofString "law") (498 : Nat), .ref (226 : Nat)⟩] (24 : Nat), #[]⟩
noncomputable def ho_262 : Params → Obj := fun P => ⟨.none, none, .fields #[.int 1 (0 : Nat), .int 0 (0 : Nat), .ref (20 : Nat), .int 8 (0 : Nat), .int 0 (0 : Nat), .ref (27 : Nat), .int 10 (0 : Nat), .int 0 (0 : Nat), .ref (34 : Nat), .int 18 (0 : Nat), .int 0 (0 : Nat), .ref (41 : Nat), .int 90 (0 : Nat), .int 0 (0 : Nat), .ref (118 : Nat), .int 108 (0 : Nat), .int 0 (0 : Nat), .ref (125 : Nat), .int 115 (0 : Nat), .int 0 (0 : Nat), .ref (132 : Nat), .int 117 (0 : Nat), .int 0 (0 : Nat), .ref (145 : Nat), .int 125 (0 : Nat), .int 0 (0 : Nat), .ref (164 : Nat), .int 148 (0 : Nat), .int 0 (0 : Nat), .ref (220 : Nat), .int 156 (0 : Nat), .int 0 (0 : Nat), .ref (225 : Nat)], #[]⟩
noncomputable def ho_51 : Params → Obj := fun P => ⟨.type "tuple", none, .seq #[] (0 : Nat), #[]⟩
noncomputable def ho_52 : Params → Obj := fun P => ⟨.none, none, .fields #[], #[]⟩
noncomputable def ho_53 : Params → Obj := fun P => ⟨.type "tuple", none, .seq #[.str (.ofString "k") (190 : Nat)] (0 : Nat), #[]⟩
noncomputable def ho_54 : Params → Obj := fun P => ⟨.type "tuple", none, .seq #[] (0 : Nat), #[]⟩
noncomputable def ho_55 : Params → Obj := by
  refine (?g : ∀ {a : Arguments} {b : List Stmt} {s : Scope}, defAt 0 = some (a, b, s) → Params → Obj) (by rfl)
  exact fun {a} {b} {s} _ P => ⟨.none, none, .func ⟨.ofString "_wall", .ofString "_wall", a, .stmts b, s, (0 : Nat), [], .none, .none, .none, .none, none, .none, .none, (0 : Nat)⟩, #[]⟩
noncomputable def ho_56 : Params → Obj := fun P => ⟨.type "code", none, .fields #[.str (.ofString "_wall") (187 : Nat), .str (.ofString "_wall") (188 : Nat), .str (.ofString "/claim/cut.py") (189 : Nat), .int 1 (0 : Nat), .int 1 (0 : Nat), .int 0 (0 : Nat), .int 0 (0 : Nat), .int 3 (0 : Nat), .ref (15 : Nat), .bool .true, .int 181 (0 : Nat), .ref (16 : Nat), .none, .ref (17 : Nat), .ref (18 : Nat), .ref (19 : Nat), .int 191 (0 : Nat), .int 1 (0 : Nat), .str (.ofString "/claim/cut.py") (192 : Nat)], #[]⟩
noncomputable def ho_57 : Params → Obj := by
  refine (?g : ∀ {a : Arguments} {b : List Stmt} {s : Scope}, defAt 0 = some (a, b, s) → Params → Obj) (by rfl)
  exact fun {a} {b} {s} _ P => ⟨.type "function", none, .func ⟨.ofString "_wall", .ofString "_wall", a, .stmts b, s, (3 : Nat), [], .none, .none, .none, .str (.ofString "__main__") (164 : Nat), none, .ref (20 : Nat), .none, (0 : Nat)⟩, #[]⟩
noncomputable def ho_58 : Params → Obj := fun P => ⟨.type "tuple", none, .seq #[] (0 : Nat), #[]⟩
noncomputable def ho_59 : Params → Obj := fun P => ⟨.none, none, .fields #[], #[]⟩
noncomputable def ho_60 : Params → Obj := fun P => ⟨.type "tuple", none, .seq #[.str (.ofString "record_size") (205 : Nat)] (0 : Nat), #[]⟩
noncomputable def ho_61 : Params → Obj := fun P => ⟨.type "tuple", none, .seq #[] (0 : Nat), #[]⟩
noncomputable def ho_62 : Params → Obj := by
  refine (?g : ∀ {a : Arguments} {b : List Stmt} {s : Scope}, defAt 5 = some (a, b, s) → Params → Obj) (by rfl)
  exact fun {a} {b} {s} _ P => ⟨.none, none, .func ⟨.ofString "block_size", .ofString "block_size", a, .stmts b, s, (0 : Nat), [], .none, .none, .none, .none, none, .none, .none, (0 : Nat)⟩, #[]⟩
noncomputable def ho_63 : Params → Obj := fun P => ⟨.type "code", none, .fields #[.str (.ofString "block_size") (202 : Nat), .str (.ofString "block_size") (203 : Nat), .str (.ofString "/claim/cut.py") (204 : Nat), .int 8 (0 : Nat), .int 1 (0 : Nat), .int 0 (0 : Nat), .int 0 (0 : Nat), .int 3 (0 : Nat), .ref (22 : Nat), .bool .true, .int 181 (0 : Nat), .ref (23 : Nat), .none, .ref (24 : Nat), .ref (25 : Nat), .ref (26 : Nat), .int 206 (0 : Nat), .int 8 (0 : Nat), .str (.ofString "/claim/cut.py") (207 : Nat)], #[]⟩
noncomputable def ho_64 : Params → Obj := by
  refine (?g : ∀ {a : Arguments} {b : List Stmt} {s : Scope}, defAt 5 = some (a, b, s) → Params → Obj) (by rfl)
  exact fun {a} {b} {s} _ P => ⟨.type "function", none, .func ⟨.ofString "block_size", .ofString "block_size", a, .stmts b, s, (3 : Nat), [], .none, .none, .none, .str (.ofString "moduleyard.heap") (194 : Nat), none, .ref (27 : Nat), .none, (0 : Nat)⟩, #[]⟩
noncomputable def ho_65 : Params → Obj := fun P => ⟨.type "tuple", none, .seq #[] (0 : Nat), #[]⟩
noncomputable def ho_66 : Params → Obj := fun P => ⟨.none, none, .fields #[], #[]⟩
noncomputable def ho_67 : Params → Obj := fun P => ⟨.type "tuple", none, .seq #[.str (.ofString "size") (212 : Nat)] (0 : Nat), #[]⟩
noncomputable def ho_68 : Params → Obj := fun P => ⟨.type "tuple", none, .seq #[] (0 : Nat), #[]⟩
noncomputable def ho_69 : Params → Obj := by
  refine (?g : ∀ {a : Arguments} {b : List Stmt} {s : Scope}, defAt 6 = some (a, b, s) → Params → Obj) (by rfl)
  exact fun {a} {b} {s} _ P => ⟨.none, none, .func ⟨.ofString "list_number", .ofString "list_number", a, .stmts b, s, (0 : Nat), [], .none, .none, .none, .none, none, .none, .none, (0 : Nat)⟩, #[]⟩
noncomputable def ho_70 : Params → Obj := fun P => ⟨.type "code", none, .fields #[.str (.ofString "list_number") (209 : Nat), .str (.ofString "list_number") (210 : Nat), .str (.ofString "/claim/cut.py") (211 : Nat), .int 10 (0 : Nat), .int 1 (0 : Nat), .int 0 (0 : Nat), .int 0 (0 : Nat), .int 3 (0 : Nat), .ref (29 : Nat), .bool .true, .int 181 (0 : Nat), .ref (30 : Nat), .none, .ref (31 : Nat), .ref (32 : Nat), .ref (33 : Nat), .int 213 (0 : Nat), .int 10 (0 : Nat), .str (.ofString "/claim/cut.py") (214 : Nat)], #[]⟩
noncomputable def ho_71 : Params → Obj := by
  refine (?g : ∀ {a : Arguments} {b : List Stmt} {s : Scope}, defAt 6 = some (a, b, s) → Params → Obj) (by rfl)
  exact fun {a} {b} {s} _ P => ⟨.type "function", none, .func ⟨.ofString "list_number", .ofString "list_number", a, .stmts b, s, (3 : Nat), [], .none, .none, .none, .str (.ofString "moduleyard.heap") (194 : Nat), none, .ref (34 : Nat), .none, (0 : Nat)⟩, #[]⟩
noncomputable def ho_74 : Params → Obj := fun P => ⟨.type "tuple", none, .seq #[] (0 : Nat), #[]⟩
noncomputable def ho_75 : Params → Obj := fun P => ⟨.type "builtin_function_or_method", none, .fields #[.builtin "type.__prepare__", .type "type"], #[]⟩
noncomputable def ho_76 : Params → Obj := fun P => ⟨.type "dict", none, .dict #[⟨PySem.PyData.keyHash P (.ofString "__module__"), .str (.ofString "__module__") (223 : Nat), .str (.ofString "moduleyard.heap") (194 : Nat)⟩, ⟨PySem.PyData.keyHash P (.ofString "__qualname__"), .str (.ofString "__qualname__") (225 : Nat), .str (.ofString "Heap") (224 : Nat)⟩, ⟨PySem.PyData.keyHash P (.ofString "__firstlineno__"), .str (.ofString "__firstlineno__") (227 : Nat), .int 18 (226 : Nat)⟩, ⟨PySem.PyData.keyHash P (.ofString "__init__"), .str (.ofString "__init__") (237 : Nat), .ref (49 : Nat)⟩, ⟨PySem.PyData.keyHash P (.ofString "put_free"), .str (.ofString "put_free") (247 : Nat), .ref (56 : Nat)⟩, ⟨PySem.PyData.keyHash P (.ofString "is_free"), .str (.ofString "is_free") (255 : Nat), .ref (63 : Nat)⟩, ⟨PySem.PyData.keyHash P (.ofString "descriptor"), .str (.ofString "descriptor") (263 : Nat), .ref (70 : Nat)⟩, ⟨PySem.PyData.keyHash P (.ofString "size_of"), .str (.ofString "size_of") (272 : Nat), .ref (77 : Nat)⟩, ⟨PySem.PyData.keyHash P (.ofString "take_free"), .str (.ofString "take_free") (284 : Nat), .ref (84 : Nat)⟩, ⟨PySem.PyData.keyHash P (.ofString "alloc"), .str (.ofString "alloc") (296 : Nat), .ref (91 : Nat)⟩, ⟨PySem.PyData.keyHash P (.ofString "blocks"), .str (.ofString "blocks") (306 : Nat), .ref (98 : Nat)⟩, ⟨PySem.PyData.keyHash P (.ofString "block_of"), .str (.ofString "block_of") (314 : Nat), .ref (105 : Nat)⟩, ⟨PySem.PyData.keyHash P (.ofString "__static_attributes__"), .str (.ofString "__static_attributes__") (319 : Nat), .ref (106 : Nat)⟩] (13 : Nat), #[]⟩
noncomputable def ho_77 : Params → Obj := fun P => ⟨.type "tuple", none, .seq #[] (0 : Nat), #[]⟩
noncomputable def ho_78 : Params → Obj := fun P => ⟨.none, none, .fields #[.int 20 (0 : Nat), .int 4 (0 : Nat), .ref (48 : Nat), .int 28 (0 : Nat), .int 4 (0 : Nat), .ref (55 : Nat), .int 34 (0 : Nat), .int 4 (0 : Nat), .ref (62 : Nat), .int 37 (0 : Nat), .int 4 (0 : Nat), .ref (69 : Nat), .int 40 (0 : Nat), .int 4 (0 : Nat), .ref (76 : Nat), .int 46 (0 : Nat), .int 4 (0 : Nat), .ref (83 : Nat), .int 62 (0 : Nat), .int 4 (0 : Nat), .ref (90 : Nat), .int 75 (0 : Nat), .int 4 (0 : Nat), .ref (97 : Nat), .int 87 (0 : Nat), .int 4 (0 : Nat), .ref (104 : Nat)], #[]⟩
noncomputable def ho_79 : Params → Obj := fun P => ⟨.type "code", none, .fields #[.str (.ofString "Heap") (218 : Nat), .str (.ofString "Heap") (219 : Nat), .str (.ofString "/claim/cut.py") (220 : Nat), .int 18 (0 : Nat), .int 0 (0 : Nat), .int 0 (0 : Nat), .int 0 (0 : Nat), .int 0 (0 : Nat), .ref (39 : Nat), .bool .false, .int 181 (0 : Nat), .ref (40 : Nat), .none, .none, .none, .none, .int 221 (0 : Nat), .int 18 (0 : Nat), .str (.ofString "/claim/cut.py") (222 : Nat)], #[]⟩
noncomputable def ho_80 : Params → Obj := fun P => ⟨.type "frame", none, .plain, #[some (.ref (41 : Nat)), some (.ref (3 : Nat)), some (.ref (38 : Nat)), none, some (.str (.ofString "moduleyard.heap") (194 : Nat)), none, some (.ref (0 : Nat))]⟩
noncomputable def ho_81 : Params → Obj := fun P => ⟨.type "tuple", none, .seq #[] (0 : Nat), #[]⟩
noncomputable def ho_82 : Params → Obj := fun P => ⟨.none, none, .fields #[], #[]⟩
noncomputable def ho_83 : Params → Obj := fun P => ⟨.type "tuple", none, .seq #[.str (.ofString "self") (231 : Nat), .str (.ofString "memory") (232 : Nat), .str (.ofString "start") (233 : Nat), .str (.ofString "limit") (234 : Nat)] (0 : Nat), #[]⟩
noncomputable def ho_84 : Params → Obj := fun P => ⟨.type "tuple", none, .seq #[] (0 : Nat), #[]⟩
noncomputable def ho_85 : Params → Obj := by
  refine (?g : ∀ {a : Arguments} {b : List Stmt} {s : Scope}, methAt 7 0 = some (a, b, s) → Params → Obj) (by rfl)
  exact fun {a} {b} {s} _ P => ⟨.none, none, .func ⟨.ofString "__init__", .ofString "Heap.__init__", a, .stmts b, s, (0 : Nat), [], .none, .none, .none, .none, none, .none, .none, (0 : Nat)⟩, #[]⟩
noncomputable def ho_86 : Params → Obj := fun P => ⟨.type "code", none, .fields #[.str (.ofString "__init__") (228 : Nat), .str (.ofString "Heap.__init__") (229 : Nat), .str (.ofString "/claim/cut.py") (230 : Nat), .int 20 (0 : Nat), .int 4 (0 : Nat), .int 0 (0 : Nat), .int 0 (0 : Nat), .int 3 (0 : Nat), .ref (43 : Nat), .bool .true, .int 181 (0 : Nat), .ref (44 : Nat), .none, .ref (45 : Nat), .ref (46 : Nat), .ref (47 : Nat), .int 235 (0 : Nat), .int 20 (0 : Nat), .str (.ofString "/claim/cut.py") (236 : Nat)], #[]⟩
noncomputable def ho_87 : Params → Obj := by
  refine (?g : ∀ {a : Arguments} {b : List Stmt} {s : Scope}, methAt 7 0 = some (a, b, s) → Params → Obj) (by rfl)
  exact fun {a} {b} {s} _ P => ⟨.type "function", none, .func ⟨.ofString "__init__", .ofString "Heap.__init__", a, .stmts b, s, (3 : Nat), [], .none, .none, .none, .str (.ofString "moduleyard.heap") (194 : Nat), none, .ref (48 : Nat), .none, (0 : Nat)⟩, #[]⟩
noncomputable def ho_88 : Params → Obj := fun P => ⟨.type "tuple", none, .seq #[] (0 : Nat), #[]⟩
noncomputable def ho_89 : Params → Obj := fun P => ⟨.none, none, .fields #[], #[]⟩
noncomputable def ho_90 : Params → Obj := fun P => ⟨.type "tuple", none, .seq #[.str (.ofString "self") (241 : Nat), .str (.ofString "block") (242 : Nat), .str (.ofString "size") (243 : Nat), .str (.ofString "number") (244 : Nat)] (0 : Nat), #[]⟩
noncomputable def ho_91 : Params → Obj := fun P => ⟨.type "tuple", none, .seq #[] (0 : Nat), #[]⟩
noncomputable def ho_92 : Params → Obj := by
  refine (?g : ∀ {a : Arguments} {b : List Stmt} {s : Scope}, methAt 7 1 = some (a, b, s) → Params → Obj) (by rfl)
  exact fun {a} {b} {s} _ P => ⟨.none, none, .func ⟨.ofString "put_free", .ofString "Heap.put_free", a, .stmts b, s, (0 : Nat), [], .none, .none, .none, .none, none, .none, .none, (0 : Nat)⟩, #[]⟩
noncomputable def ho_93 : Params → Obj := fun P => ⟨.type "code", none, .fields #[.str (.ofString "put_free") (238 : Nat), .str (.ofString "Heap.put_free") (239 : Nat), .str (.ofString "/claim/cut.py") (240 : Nat), .int 28 (0 : Nat), .int 3 (0 : Nat), .int 0 (0 : Nat), .int 0 (0 : Nat), .int 3 (0 : Nat), .ref (50 : Nat), .bool .true, .int 181 (0 : Nat), .ref (51 : Nat), .none, .ref (52 : Nat), .ref (53 : Nat), .ref (54 : Nat), .int 245 (0 : Nat), .int 28 (0 : Nat), .str (.ofString "/claim/cut.py") (246 : Nat)], #[]⟩
noncomputable def ho_94 : Params → Obj := by
  refine (?g : ∀ {a : Arguments} {b : List Stmt} {s : Scope}, methAt 7 1 = some (a, b, s) → Params → Obj) (by rfl)
  exact fun {a} {b} {s} _ P => ⟨.type "function", none, .func ⟨.ofString "put_free", .ofString "Heap.put_free", a, .stmts b, s, (3 : Nat), [], .none, .none, .none, .str (.ofString "moduleyard.heap") (194 : Nat), none, .ref (55 : Nat), .none, (0 : Nat)⟩, #[]⟩
noncomputable def ho_95 : Params → Obj := fun P => ⟨.type "tuple", none, .seq #[] (0 : Nat), #[]⟩
noncomputable def ho_96 : Params → Obj := fun P => ⟨.none, none, .fields #[], #[]⟩
noncomputable def ho_97 : Params → Obj := fun P => ⟨.type "tuple", none, .seq #[.str (.ofString "self") (251 : Nat), .str (.ofString "block") (252 : Nat)] (0 : Nat), #[]⟩
noncomputable def ho_98 : Params → Obj := fun P => ⟨.type "tuple", none, .seq #[] (0 : Nat), #[]⟩
noncomputable def ho_99 : Params → Obj := by
  refine (?g : ∀ {a : Arguments} {b : List Stmt} {s : Scope}, methAt 7 2 = some (a, b, s) → Params → Obj) (by rfl)
  exact fun {a} {b} {s} _ P => ⟨.none, none, .func ⟨.ofString "is_free", .ofString "Heap.is_free", a, .stmts b, s, (0 : Nat), [], .none, .none, .none, .none, none, .none, .none, (0 : Nat)⟩, #[]⟩
noncomputable def ho_100 : Params → Obj := fun P => ⟨.type "code", none, .fields #[.str (.ofString "is_free") (248 : Nat), .str (.ofString "Heap.is_free") (249 : Nat), .str (.ofString "/claim/cut.py") (250 : Nat), .int 34 (0 : Nat), .int 2 (0 : Nat), .int 0 (0 : Nat), .int 0 (0 : Nat), .int 3 (0 : Nat), .ref (57 : Nat), .bool .true, .int 181 (0 : Nat), .ref (58 : Nat), .none, .ref (59 : Nat), .ref (60 : Nat), .ref (61 : Nat), .int 253 (0 : Nat), .int 34 (0 : Nat), .str (.ofString "/claim/cut.py") (254 : Nat)], #[]⟩
noncomputable def ho_101 : Params → Obj := by
  refine (?g : ∀ {a : Arguments} {b : List Stmt} {s : Scope}, methAt 7 2 = some (a, b, s) → Params → Obj) (by rfl)
  exact fun {a} {b} {s} _ P => ⟨.type "function", none, .func ⟨.ofString "is_free", .ofString "Heap.is_free", a, .stmts b, s, (3 : Nat), [], .none, .none, .none, .str (.ofString "moduleyard.heap") (194 : Nat), none, .ref (62 : Nat), .none, (0 : Nat)⟩, #[]⟩
noncomputable def ho_102 : Params → Obj := fun P => ⟨.type "tuple", none, .seq #[] (0 : Nat), #[]⟩
noncomputable def ho_103 : Params → Obj := fun P => ⟨.none, none, .fields #[], #[]⟩
noncomputable def ho_104 : Params → Obj := fun P => ⟨.type "tuple", none, .seq #[.str (.ofString "self") (259 : Nat), .str (.ofString "block") (260 : Nat)] (0 : Nat), #[]⟩
noncomputable def ho_105 : Params → Obj := fun P => ⟨.type "tuple", none, .seq #[] (0 : Nat), #[]⟩
noncomputable def ho_106 : Params → Obj := by
  refine (?g : ∀ {a : Arguments} {b : List Stmt} {s : Scope}, methAt 7 3 = some (a, b, s) → Params → Obj) (by rfl)
  exact fun {a} {b} {s} _ P => ⟨.none, none, .func ⟨.ofString "descriptor", .ofString "Heap.descriptor", a, .stmts b, s, (0 : Nat), [], .none, .none, .none, .none, none, .none, .none, (0 : Nat)⟩, #[]⟩
noncomputable def ho_107 : Params → Obj := fun P => ⟨.type "code", none, .fields #[.str (.ofString "descriptor") (256 : Nat), .str (.ofString "Heap.descriptor") (257 : Nat), .str (.ofString "/claim/cut.py") (258 : Nat), .int 37 (0 : Nat), .int 2 (0 : Nat), .int 0 (0 : Nat), .int 0 (0 : Nat), .int 3 (0 : Nat), .ref (64 : Nat), .bool .true, .int 181 (0 : Nat), .ref (65 : Nat), .none, .ref (66 : Nat), .ref (67 : Nat), .ref (68 : Nat), .int 261 (0 : Nat), .int 37 (0 : Nat), .str (.ofString "/claim/cut.py") (262 : Nat)], #[]⟩
noncomputable def ho_108 : Params → Obj := by
  refine (?g : ∀ {a : Arguments} {b : List Stmt} {s : Scope}, methAt 7 3 = some (a, b, s) → Params → Obj) (by rfl)
  exact fun {a} {b} {s} _ P => ⟨.type "function", none, .func ⟨.ofString "descriptor", .ofString "Heap.descriptor", a, .stmts b, s, (3 : Nat), [], .none, .none, .none, .str (.ofString "moduleyard.heap") (194 : Nat), none, .ref (69 : Nat), .none, (0 : Nat)⟩, #[]⟩
noncomputable def ho_109 : Params → Obj := fun P => ⟨.type "tuple", none, .seq #[] (0 : Nat), #[]⟩
noncomputable def ho_110 : Params → Obj := fun P => ⟨.none, none, .fields #[], #[]⟩
noncomputable def ho_111 : Params → Obj := fun P => ⟨.type "tuple", none, .seq #[.str (.ofString "self") (267 : Nat), .str (.ofString "block") (268 : Nat), .str (.ofString "first") (269 : Nat)] (0 : Nat), #[]⟩
noncomputable def ho_112 : Params → Obj := fun P => ⟨.type "tuple", none, .seq #[] (0 : Nat), #[]⟩
noncomputable def ho_113 : Params → Obj := by
  refine (?g : ∀ {a : Arguments} {b : List Stmt} {s : Scope}, methAt 7 4 = some (a, b, s) → Params → Obj) (by rfl)
  exact fun {a} {b} {s} _ P => ⟨.none, none, .func ⟨.ofString "size_of", .ofString "Heap.size_of", a, .stmts b, s, (0 : Nat), [], .none, .none, .none, .none, none, .none, .none, (0 : Nat)⟩, #[]⟩
noncomputable def ho_114 : Params → Obj := fun P => ⟨.type "code", none, .fields #[.str (.ofString "size_of") (264 : Nat), .str (.ofString "Heap.size_of") (265 : Nat), .str (.ofString "/claim/cut.py") (266 : Nat), .int 40 (0 : Nat), .int 2 (0 : Nat), .int 0 (0 : Nat), .int 0 (0 : Nat), .int 3 (0 : Nat), .ref (71 : Nat), .bool .true, .int 181 (0 : Nat), .ref (72 : Nat), .none, .ref (73 : Nat), .ref (74 : Nat), .ref (75 : Nat), .int 270 (0 : Nat), .int 40 (0 : Nat), .str (.ofString "/claim/cut.py") (271 : Nat)], #[]⟩
noncomputable def ho_115 : Params → Obj := by
  refine (?g : ∀ {a : Arguments} {b : List Stmt} {s : Scope}, methAt 7 4 = some (a, b, s) → Params → Obj) (by rfl)
  exact fun {a} {b} {s} _ P => ⟨.type "function", none, .func ⟨.ofString "size_of", .ofString "Heap.size_of", a, .stmts b, s, (3 : Nat), [], .none, .none, .none, .str (.ofString "moduleyard.heap") (194 : Nat), none, .ref (76 : Nat), .none, (0 : Nat)⟩, #[]⟩
noncomputable def ho_116 : Params → Obj := fun P => ⟨.type "tuple", none, .seq #[] (0 : Nat), #[]⟩
noncomputable def ho_117 : Params → Obj := fun P => ⟨.none, none, .fields #[], #[]⟩
noncomputable def ho_118 : Params → Obj := fun P => ⟨.type "tuple", none, .seq #[.str (.ofString "self") (276 : Nat), .str (.ofString "size") (277 : Nat), .str (.ofString "number") (278 : Nat), .str (.ofString "before") (279 : Nat), .str (.ofString "block") (280 : Nat), .str (.ofString "following") (281 : Nat)] (0 : Nat), #[]⟩
noncomputable def ho_119 : Params → Obj := fun P => ⟨.type "tuple", none, .seq #[] (0 : Nat), #[]⟩
noncomputable def ho_120 : Params → Obj := by
  refine (?g : ∀ {a : Arguments} {b : List Stmt} {s : Scope}, methAt 7 5 = some (a, b, s) → Params → Obj) (by rfl)
  exact fun {a} {b} {s} _ P => ⟨.none, none, .func ⟨.ofString "take_free", .ofString "Heap.take_free", a, .stmts b, s, (0 : Nat), [], .none, .none, .none, .none, none, .none, .none, (0 : Nat)⟩, #[]⟩
noncomputable def ho_121 : Params → Obj := fun P => ⟨.type "code", none, .fields #[.str (.ofString "take_free") (273 : Nat), .str (.ofString "Heap.take_free") (274 : Nat), .str (.ofString "/claim/cut.py") (275 : Nat), .int 46 (0 : Nat), .int 2 (0 : Nat), .int 0 (0 : Nat), .int 0 (0 : Nat), .int 3 (0 : Nat), .ref (78 : Nat), .bool .true, .int 181 (0 : Nat), .ref (79 : Nat), .none, .ref (80 : Nat), .ref (81 : Nat), .ref (82 : Nat), .int 282 (0 : Nat), .int 46 (0 : Nat), .str (.ofString "/claim/cut.py") (283 : Nat)], #[]⟩
noncomputable def ho_122 : Params → Obj := by
  refine (?g : ∀ {a : Arguments} {b : List Stmt} {s : Scope}, methAt 7 5 = some (a, b, s) → Params → Obj) (by rfl)
  exact fun {a} {b} {s} _ P => ⟨.type "function", none, .func ⟨.ofString "take_free", .ofString "Heap.take_free", a, .stmts b, s, (3 : Nat), [], .none, .none, .none, .str (.ofString "moduleyard.heap") (194 : Nat), none, .ref (83 : Nat), .none, (0 : Nat)⟩, #[]⟩
noncomputable def ho_123 : Params → Obj := fun P => ⟨.type "tuple", none, .seq #[] (0 : Nat), #[]⟩
noncomputable def ho_124 : Params → Obj := fun P => ⟨.none, none, .fields #[], #[]⟩
noncomputable def ho_125 : Params → Obj := fun P => ⟨.type "tuple", none, .seq #[.str (.ofString "self") (288 : Nat), .str (.ofString "descriptor") (289 : Nat), .str (.ofString "size") (290 : Nat), .str (.ofString "block") (291 : Nat), .str (.ofString "rest") (292 : Nat), .str (.ofString "address") (293 : Nat)] (0 : Nat), #[]⟩
noncomputable def ho_126 : Params → Obj := fun P => ⟨.type "tuple", none, .seq #[] (0 : Nat), #[]⟩
noncomputable def ho_127 : Params → Obj := by
  refine (?g : ∀ {a : Arguments} {b : List Stmt} {s : Scope}, methAt 7 6 = some (a, b, s) → Params → Obj) (by rfl)
  exact fun {a} {b} {s} _ P => ⟨.none, none, .func ⟨.ofString "alloc", .ofString "Heap.alloc", a, .stmts b, s, (0 : Nat), [], .none, .none, .none, .none, none, .none, .none, (0 : Nat)⟩, #[]⟩
noncomputable def ho_128 : Params → Obj := fun P => ⟨.type "code", none, .fields #[.str (.ofString "alloc") (285 : Nat), .str (.ofString "Heap.alloc") (286 : Nat), .str (.ofString "/claim/cut.py") (287 : Nat), .int 62 (0 : Nat), .int 2 (0 : Nat), .int 0 (0 : Nat), .int 0 (0 : Nat), .int 3 (0 : Nat), .ref (85 : Nat), .bool .true, .int 181 (0 : Nat), .ref (86 : Nat), .none, .ref (87 : Nat), .ref (88 : Nat), .ref (89 : Nat), .int 294 (0 : Nat), .int 62 (0 : Nat), .str (.ofString "/claim/cut.py") (295 : Nat)], #[]⟩
noncomputable def ho_129 : Params → Obj := by
  refine (?g : ∀ {a : Arguments} {b : List Stmt} {s : Scope}, methAt 7 6 = some (a, b, s) → Params → Obj) (by rfl)
  exact fun {a} {b} {s} _ P => ⟨.type "function", none, .func ⟨.ofString "alloc", .ofString "Heap.alloc", a, .stmts b, s, (3 : Nat), [], .none, .none, .none, .str (.ofString "moduleyard.heap") (194 : Nat), none, .ref (90 : Nat), .none, (0 : Nat)⟩, #[]⟩
noncomputable def ho_130 : Params → Obj := fun P => ⟨.type "tuple", none, .seq #[] (0 : Nat), #[]⟩
noncomputable def ho_131 : Params → Obj := fun P => ⟨.none, none, .fields #[], #[]⟩
noncomputable def ho_132 : Params → Obj := fun P => ⟨.type "tuple", none, .seq #[.str (.ofString "self") (300 : Nat), .str (.ofString "found") (301 : Nat), .str (.ofString "block") (302 : Nat), .str (.ofString "size") (303 : Nat)] (0 : Nat), #[]⟩
noncomputable def ho_133 : Params → Obj := fun P => ⟨.type "tuple", none, .seq #[] (0 : Nat), #[]⟩
noncomputable def ho_134 : Params → Obj := by
  refine (?g : ∀ {a : Arguments} {b : List Stmt} {s : Scope}, methAt 7 7 = some (a, b, s) → Params → Obj) (by rfl)
  exact fun {a} {b} {s} _ P => ⟨.none, none, .func ⟨.ofString "blocks", .ofString "Heap.blocks", a, .stmts b, s, (0 : Nat), [], .none, .none, .none, .none, none, .none, .none, (0 : Nat)⟩, #[]⟩
noncomputable def ho_135 : Params → Obj := fun P => ⟨.type "code", none, .fields #[.str (.ofString "blocks") (297 : Nat), .str (.ofString "Heap.blocks") (298 : Nat), .str (.ofString "/claim/cut.py") (299 : Nat), .int 75 (0 : Nat), .int 1 (0 : Nat), .int 0 (0 : Nat), .int 0 (0 : Nat), .int 3 (0 : Nat), .ref (92 : Nat), .bool .true, .int 181 (0 : Nat), .ref (93 : Nat), .none, .ref (94 : Nat), .ref (95 : Nat), .ref (96 : Nat), .int 304 (0 : Nat), .int 75 (0 : Nat), .str (.ofString "/claim/cut.py") (305 : Nat)], #[]⟩
noncomputable def ho_136 : Params → Obj := by
  refine (?g : ∀ {a : Arguments} {b : List Stmt} {s : Scope}, methAt 7 7 = some (a, b, s) → Params → Obj) (by rfl)
  exact fun {a} {b} {s} _ P => ⟨.type "function", none, .func ⟨.ofString "blocks", .ofString "Heap.blocks", a, .stmts b, s, (3 : Nat), [], .none, .none, .none, .str (.ofString "moduleyard.heap") (194 : Nat), none, .ref (97 : Nat), .none, (0 : Nat)⟩, #[]⟩
noncomputable def ho_137 : Params → Obj := fun P => ⟨.type "tuple", none, .seq #[] (0 : Nat), #[]⟩
noncomputable def ho_138 : Params → Obj := fun P => ⟨.none, none, .fields #[], #[]⟩
noncomputable def ho_139 : Params → Obj := fun P => ⟨.type "tuple", none, .seq #[.str (.ofString "self") (310 : Nat), .str (.ofString "address") (311 : Nat)] (0 : Nat), #[]⟩
noncomputable def ho_140 : Params → Obj := fun P => ⟨.type "tuple", none, .seq #[] (0 : Nat), #[]⟩
noncomputable def ho_141 : Params → Obj := by
  refine (?g : ∀ {a : Arguments} {b : List Stmt} {s : Scope}, methAt 7 8 = some (a, b, s) → Params → Obj) (by rfl)
  exact fun {a} {b} {s} _ P => ⟨.none, none, .func ⟨.ofString "block_of", .ofString "Heap.block_of", a, .stmts b, s, (0 : Nat), [], .none, .none, .none, .none, none, .none, .none, (0 : Nat)⟩, #[]⟩
noncomputable def ho_142 : Params → Obj := fun P => ⟨.type "code", none, .fields #[.str (.ofString "block_of") (307 : Nat), .str (.ofString "Heap.block_of") (308 : Nat), .str (.ofString "/claim/cut.py") (309 : Nat), .int 87 (0 : Nat), .int 2 (0 : Nat), .int 0 (0 : Nat), .int 0 (0 : Nat), .int 3 (0 : Nat), .ref (99 : Nat), .bool .true, .int 181 (0 : Nat), .ref (100 : Nat), .none, .ref (101 : Nat), .ref (102 : Nat), .ref (103 : Nat), .int 312 (0 : Nat), .int 87 (0 : Nat), .str (.ofString "/claim/cut.py") (313 : Nat)], #[]⟩
noncomputable def ho_143 : Params → Obj := by
  refine (?g : ∀ {a : Arguments} {b : List Stmt} {s : Scope}, methAt 7 8 = some (a, b, s) → Params → Obj) (by rfl)
  exact fun {a} {b} {s} _ P => ⟨.type "function", none, .func ⟨.ofString "block_of", .ofString "Heap.block_of", a, .stmts b, s, (3 : Nat), [], .none, .none, .none, .str (.ofString "moduleyard.heap") (194 : Nat), none, .ref (104 : Nat), .none, (0 : Nat)⟩, #[]⟩
noncomputable def ho_144 : Params → Obj := fun P => ⟨.type "tuple", none, .seq #[.str (.ofString "free") (315 : Nat), .str (.ofString "limit") (316 : Nat), .str (.ofString "memory") (317 : Nat), .str (.ofString "start") (318 : Nat)] (0 : Nat), #[]⟩
noncomputable def ho_145 : Params → Obj := fun P => ⟨.type "dict", none, .dict #[⟨PySem.PyData.keyHash P (.ofString "__module__"), .str (.ofString "__module__") (223 : Nat), .str (.ofString "moduleyard.heap") (194 : Nat)⟩, ⟨PySem.PyData.keyHash P (.ofString "__firstlineno__"), .str (.ofString "__firstlineno__") (227 : Nat), .int 18 (226 : Nat)⟩, ⟨PySem.PyData.keyHash P (.ofString "__init__"), .str (.ofString "__init__") (237 : Nat), .ref (49 : Nat)⟩, ⟨PySem.PyData.keyHash P (.ofString "put_free"), .str (.ofString "put_free") (247 : Nat), .ref (56 : Nat)⟩, ⟨PySem.PyData.keyHash P (.ofString "is_free"), .str (.ofString "is_free") (255 : Nat), .ref (63 : Nat)⟩, ⟨PySem.PyData.keyHash P (.ofString "descriptor"), .str (.ofString "descriptor") (263 : Nat), .ref (70 : Nat)⟩, ⟨PySem.PyData.keyHash P (.ofString "size_of"), .str (.ofString "size_of") (272 : Nat), .ref (77 : Nat)⟩, ⟨PySem.PyData.keyHash P (.ofString "take_free"), .str (.ofString "take_free") (284 : Nat), .ref (84 : Nat)⟩, ⟨PySem.PyData.keyHash P (.ofString "alloc"), .str (.ofString "alloc") (296 : Nat), .ref (91 : Nat)⟩, ⟨PySem.PyData.keyHash P (.ofString "blocks"), .str (.ofString "blocks") (306 : Nat), .ref (98 : Nat)⟩, ⟨PySem.PyData.keyHash P (.ofString "block_of"), .str (.ofString "block_of") (314 : Nat), .ref (105 : Nat)⟩, ⟨PySem.PyData.keyHash P (.ofString "__static_attributes__"), .str (.ofString "__static_attributes__") (319 : Nat), .ref (106 : Nat)⟩, ⟨PySem.PyData.keyHash P (.ofString "__dict__"), .str (.ofString "__dict__") (321 : Nat), .ref (109 : Nat)⟩, ⟨PySem.PyData.keyHash P (.ofString "__weakref__"), .str (.ofString "__weakref__") (323 : Nat), .ref (110 : Nat)⟩, ⟨PySem.PyData.keyHash P (.ofString "__doc__"), .str (.ofString "__doc__") (324 : Nat), .none⟩] (4 : Nat), #[]⟩
noncomputable def ho_146 : Params → Obj := fun P => ⟨.type "type", none, .cls ⟨.ofString "Heap", [.type "object"], [.ref (108 : Nat), .type "object"], (107 : Nat), .ofString "Heap", .true, [], [], .false, none, .false⟩, #[none, none, some (.str (.ofString "Heap") (216 : Nat)), some (.str (.ofString "Heap") (224 : Nat)), some (.builtin "object.__new__"), some (.bool .true)]⟩
noncomputable def ho_147 : Params → Obj := fun P => ⟨.type "getset_descriptor", none, .fields #[.str (.ofString "__dict__") (320 : Nat), .ref (108 : Nat), .builtin "function.__dict__", .builtin "function.__dict__#set"], #[]⟩
noncomputable def ho_148 : Params → Obj := fun P => ⟨.type "getset_descriptor", none, .fields #[.str (.ofString "__weakref__") (322 : Nat), .ref (108 : Nat), .builtin "ExceptionGroup.__weakref__", .none], #[]⟩
noncomputable def ho_149 : Params → Obj := fun P => ⟨.type "super", none, .fields #[.ref (108 : Nat), .ref (108 : Nat), .ref (108 : Nat)], #[]⟩
noncomputable def ho_150 : Params → Obj := fun P => ⟨.type "builtin_function_or_method", none, .fields #[.builtin "object.__init_subclass__", .ref (108 : Nat)], #[]⟩
noncomputable def ho_154 : Params → Obj := fun P => ⟨.type "tuple", none, .seq #[] (0 : Nat), #[]⟩
noncomputable def ho_155 : Params → Obj := fun P => ⟨.none, none, .fields #[], #[]⟩
noncomputable def ho_156 : Params → Obj := fun P => ⟨.type "tuple", none, .seq #[.str (.ofString "heap") (332 : Nat), .str (.ofString "memory") (333 : Nat), .str (.ofString "runs") (334 : Nat), .str (.ofString "freed") (335 : Nat), .str (.ofString "behind") (336 : Nat), .str (.ofString "block") (337 : Nat), .str (.ofString "size") (338 : Nat), .str (.ofString "descriptor") (339 : Nat), .str (.ofString "start") (340 : Nat), .str (.ofString "length") (341 : Nat)] (0 : Nat), #[]⟩
noncomputable def ho_157 : Params → Obj := fun P => ⟨.type "tuple", none, .seq #[] (0 : Nat), #[]⟩
noncomputable def ho_158 : Params → Obj := by
  refine (?g : ∀ {a : Arguments} {b : List Stmt} {s : Scope}, defAt 9 = some (a, b, s) → Params → Obj) (by rfl)
  exact fun {a} {b} {s} _ P => ⟨.none, none, .func ⟨.ofString "free_runs", .ofString "free_runs", a, .stmts b, s, (0 : Nat), [], .none, .none, .none, .none, none, .none, .none, (0 : Nat)⟩, #[]⟩
noncomputable def ho_159 : Params → Obj := fun P => ⟨.type "code", none, .fields #[.str (.ofString "free_runs") (329 : Nat), .str (.ofString "free_runs") (330 : Nat), .str (.ofString "/claim/cut.py") (331 : Nat), .int 90 (0 : Nat), .int 1 (0 : Nat), .int 0 (0 : Nat), .int 0 (0 : Nat), .int 3 (0 : Nat), .ref (113 : Nat), .bool .true, .int 181 (0 : Nat), .ref (114 : Nat), .none, .ref (115 : Nat), .ref (116 : Nat), .ref (117 : Nat), .int 342 (0 : Nat), .int 90 (0 : Nat), .str (.ofString "/claim/cut.py") (343 : Nat)], #[]⟩
noncomputable def ho_160 : Params → Obj := by
  refine (?g : ∀ {a : Arguments} {b : List Stmt} {s : Scope}, defAt 9 = some (a, b, s) → Params → Obj) (by rfl)
  exact fun {a} {b} {s} _ P => ⟨.type "function", none, .func ⟨.ofString "free_runs", .ofString "free_runs", a, .stmts b, s, (3 : Nat), [], .none, .none, .none, .str (.ofString "moduleyard.sweeper") (327 : Nat), none, .ref (118 : Nat), .none, (0 : Nat)⟩, #[]⟩
noncomputable def ho_161 : Params → Obj := fun P => ⟨.type "tuple", none, .seq #[] (0 : Nat), #[]⟩
noncomputable def ho_162 : Params → Obj := fun P => ⟨.none, none, .fields #[], #[]⟩
noncomputable def ho_163 : Params → Obj := fun P => ⟨.type "tuple", none, .seq #[.str (.ofString "heap") (348 : Nat), .str (.ofString "runs") (349 : Nat), .str (.ofString "freed") (350 : Nat), .str (.ofString "number") (351 : Nat)] (0 : Nat), #[]⟩
noncomputable def ho_164 : Params → Obj := fun P => ⟨.type "tuple", none, .seq #[] (0 : Nat), #[]⟩
noncomputable def ho_165 : Params → Obj := by
  refine (?g : ∀ {a : Arguments} {b : List Stmt} {s : Scope}, defAt 10 = some (a, b, s) → Params → Obj) (by rfl)
  exact fun {a} {b} {s} _ P => ⟨.none, none, .func ⟨.ofString "sweep", .ofString "sweep", a, .stmts b, s, (0 : Nat), [], .none, .none, .none, .none, none, .none, .none, (0 : Nat)⟩, #[]⟩
noncomputable def ho_166 : Params → Obj := fun P => ⟨.type "code", none, .fields #[.str (.ofString "sweep") (345 : Nat), .str (.ofString "sweep") (346 : Nat), .str (.ofString "/claim/cut.py") (347 : Nat), .int 108 (0 : Nat), .int 1 (0 : Nat), .int 0 (0 : Nat), .int 0 (0 : Nat), .int 3 (0 : Nat), .ref (120 : Nat), .bool .true, .int 181 (0 : Nat), .ref (121 : Nat), .none, .ref (122 : Nat), .ref (123 : Nat), .ref (124 : Nat), .int 352 (0 : Nat), .int 108 (0 : Nat), .str (.ofString "/claim/cut.py") (353 : Nat)], #[]⟩
noncomputable def ho_167 : Params → Obj := by
  refine (?g : ∀ {a : Arguments} {b : List Stmt} {s : Scope}, defAt 10 = some (a, b, s) → Params → Obj) (by rfl)
  exact fun {a} {b} {s} _ P => ⟨.type "function", none, .func ⟨.ofString "sweep", .ofString "sweep", a, .stmts b, s, (3 : Nat), [], .none, .none, .none, .str (.ofString "moduleyard.sweeper") (327 : Nat), none, .ref (125 : Nat), .none, (0 : Nat)⟩, #[]⟩
noncomputable def ho_168 : Params → Obj := fun P => ⟨.type "tuple", none, .seq #[.type "Exception"] (0 : Nat), #[]⟩
noncomputable def ho_169 : Params → Obj := fun P => ⟨.type "builtin_function_or_method", none, .fields #[.builtin "type.__prepare__", .type "type"], #[]⟩
noncomputable def ho_170 : Params → Obj := fun P => ⟨.type "dict", none, .dict #[⟨PySem.PyData.keyHash P (.ofString "__module__"), .str (.ofString "__module__") (364 : Nat), .str (.ofString "moduleyard.errors") (355 : Nat)⟩, ⟨PySem.PyData.keyHash P (.ofString "__qualname__"), .str (.ofString "__qualname__") (366 : Nat), .str (.ofString "YardError") (365 : Nat)⟩, ⟨PySem.PyData.keyHash P (.ofString "__firstlineno__"), .str (.ofString "__firstlineno__") (368 : Nat), .int 115 (367 : Nat)⟩, ⟨PySem.PyData.keyHash P (.ofString "__static_attributes__"), .str (.ofString "__static_attributes__") (369 : Nat), .ref (134 : Nat)⟩] (4 : Nat), #[]⟩
noncomputable def ho_171 : Params → Obj := fun P => ⟨.type "tuple", none, .seq #[] (0 : Nat), #[]⟩
noncomputable def ho_172 : Params → Obj := fun P => ⟨.none, none, .fields #[], #[]⟩
noncomputable def ho_173 : Params → Obj := fun P => ⟨.type "code", none, .fields #[.str (.ofString "YardError") (359 : Nat), .str (.ofString "YardError") (360 : Nat), .str (.ofString "/claim/cut.py") (361 : Nat), .int 115 (0 : Nat), .int 0 (0 : Nat), .int 0 (0 : Nat), .int 0 (0 : Nat), .int 0 (0 : Nat), .ref (130 : Nat), .bool .false, .int 181 (0 : Nat), .ref (131 : Nat), .none, .none, .none, .none, .int 362 (0 : Nat), .int 115 (0 : Nat), .str (.ofString "/claim/cut.py") (363 : Nat)], #[]⟩
noncomputable def ho_174 : Params → Obj := fun P => ⟨.type "frame", none, .plain, #[some (.ref (132 : Nat)), some (.ref (3 : Nat)), some (.ref (129 : Nat)), none, some (.str (.ofString "moduleyard.errors") (355 : Nat)), none, some (.ref (0 : Nat))]⟩
noncomputable def ho_175 : Params → Obj := fun P => ⟨.type "tuple", none, .seq #[] (0 : Nat), #[]⟩
noncomputable def ho_176 : Params → Obj := fun P => ⟨.type "dict", none, .dict #[⟨PySem.PyData.keyHash P (.ofString "__module__"), .str (.ofString "__module__") (364 : Nat), .str (.ofString "moduleyard.errors") (355 : Nat)⟩, ⟨PySem.PyData.keyHash P (.ofString "__firstlineno__"), .str (.ofString "__firstlineno__") (368 : Nat), .int 115 (367 : Nat)⟩, ⟨PySem.PyData.keyHash P (.ofString "__static_attributes__"), .str (.ofString "__static_attributes__") (369 : Nat), .ref (134 : Nat)⟩, ⟨PySem.PyData.keyHash P (.ofString "__weakref__"), .str (.ofString "__weakref__") (371 : Nat), .ref (137 : Nat)⟩, ⟨PySem.PyData.keyHash P (.ofString "__doc__"), .str (.ofString "__doc__") (372 : Nat), .none⟩] (3 : Nat), #[]⟩
noncomputable def ho_183 : Params → Obj := fun P => ⟨.type "type", none, .cls ⟨.ofString "YardError", [.type "Exception"], [.ref (136 : Nat), .type "Exception", .type "BaseException", .type "object"], (135 : Nat), .ofString "YardError", .true, [], [.ref (156 : Nat)], .false, none, .false⟩, #[some (.ref (127 : Nat)), none, some (.str (.ofString "YardError") (357 : Nat)), some (.str (.ofString "YardError") (365 : Nat)), some (.builtin "Exception.__new__"), some (.bool .true)]⟩
noncomputable def ho_178 : Params → Obj := fun P => ⟨.type "getset_descriptor", none, .fields #[.str (.ofString "__weakref__") (370 : Nat), .ref (136 : Nat), .builtin "ExceptionGroup.__weakref__", .none], #[]⟩
noncomputable def ho_179 : Params → Obj := fun P => ⟨.type "super", none, .fields #[.ref (136 : Nat), .ref (136 : Nat), .ref (136 : Nat)], #[]⟩
noncomputable def ho_180 : Params → Obj := fun P => ⟨.type "builtin_function_or_method", none, .fields #[.builtin "object.__init_subclass__", .ref (136 : Nat)], #[]⟩
noncomputable def ho_184 : Params → Obj := fun P => ⟨.type "tuple", none, .seq #[.ref (136 : Nat)] (0 : Nat), #[]⟩
noncomputable def ho_185 : Params → Obj := fun P => ⟨.type "builtin_function_or_method", none, .fields #[.builtin "type.__prepare__", .type "type"], #[]⟩
noncomputable def ho_186 : Params → Obj := fun P => ⟨.type "dict", none, .dict #[⟨PySem.PyData.keyHash P (.ofString "__module__"), .str (.ofString "__module__") (384 : Nat), .str (.ofString "moduleyard.errors") (355 : Nat)⟩, ⟨PySem.PyData.keyHash P (.ofString "__qualname__"), .str (.ofString "__qualname__") (386 : Nat), .str (.ofString "TrapError") (385 : Nat)⟩, ⟨PySem.PyData.keyHash P (.ofString "__firstlineno__"), .str (.ofString "__firstlineno__") (388 : Nat), .int 117 (387 : Nat)⟩, ⟨PySem.PyData.keyHash P (.ofString "__init__"), .str (.ofString "__init__") (398 : Nat), .ref (153 : Nat)⟩, ⟨PySem.PyData.keyHash P (.ofString "__static_attributes__"), .str (.ofString "__static_attributes__") (402 : Nat), .ref (154 : Nat)⟩] (5 : Nat), #[]⟩
noncomputable def ho_187 : Params → Obj := fun P => ⟨.type "tuple", none, .seq #[] (0 : Nat), #[]⟩
noncomputable def ho_188 : Params → Obj := fun P => ⟨.none, none, .fields #[.int 119 (0 : Nat), .int 4 (0 : Nat), .ref (152 : Nat)], #[]⟩
noncomputable def ho_189 : Params → Obj := fun P => ⟨.type "code", none, .fields #[.str (.ofString "TrapError") (379 : Nat), .str (.ofString "TrapError") (380 : Nat), .str (.ofString "/claim/cut.py") (381 : Nat), .int 117 (0 : Nat), .int 0 (0 : Nat), .int 0 (0 : Nat), .int 0 (0 : Nat), .int 0 (0 : Nat), .ref (143 : Nat), .bool .false, .int 181 (0 : Nat), .ref (144 : Nat), .none, .none, .none, .none, .int 382 (0 : Nat), .int 117 (0 : Nat), .str (.ofString "/claim/cut.py") (383 : Nat)], #[]⟩
noncomputable def ho_190 : Params → Obj := fun P => ⟨.type "frame", none, .plain, #[some (.ref (145 : Nat)), some (.ref (3 : Nat)), some (.ref (142 : Nat)), none, some (.str (.ofString "moduleyard.errors") (355 : Nat)), none, some (.ref (0 : Nat))]⟩
noncomputable def ho_191 : Params → Obj := fun P => ⟨.type "tuple", none, .seq #[] (0 : Nat), #[]⟩
noncomputable def ho_192 : Params → Obj := fun P => ⟨.none, none, .fields #[], #[]⟩
noncomputable def ho_193 : Params → Obj := fun P => ⟨.type "tuple", none, .seq #[.str (.ofString "self") (392 : Nat), .str (.ofString "number") (393 : Nat), .str (.ofString "place") (394 : Nat), .str (.ofString "module") (395 : Nat)] (0 : Nat), #[]⟩
noncomputable def ho_194 : Params → Obj := fun P => ⟨.type "tuple", none, .seq #[] (0 : Nat), #[]⟩
noncomputable def ho_195 : Params → Obj := by
  refine (?g : ∀ {a : Arguments} {b : List Stmt} {s : Scope}, methAt 13 0 = some (a, b, s) → Params → Obj) (by rfl)
  exact fun {a} {b} {s} _ P => ⟨.none, none, .func ⟨.ofString "__init__", .ofString "TrapError.__init__", a, .stmts b, s, (0 : Nat), [], .none, .none, .none, .none, none, .none, .none, (0 : Nat)⟩, #[]⟩
noncomputable def ho_196 : Params → Obj := fun P => ⟨.type "code", none, .fields #[.str (.ofString "__init__") (389 : Nat), .str (.ofString "TrapError.__init__") (390 : Nat), .str (.ofString "/claim/cut.py") (391 : Nat), .int 119 (0 : Nat), .int 4 (0 : Nat), .int 0 (0 : Nat), .int 0 (0 : Nat), .int 3 (0 : Nat), .ref (147 : Nat), .bool .true, .int 181 (0 : Nat), .ref (148 : Nat), .none, .ref (149 : Nat), .ref (150 : Nat), .ref (151 : Nat), .int 396 (0 : Nat), .int 119 (0 : Nat), .str (.ofString "/claim/cut.py") (397 : Nat)], #[]⟩
noncomputable def ho_197 : Params → Obj := by
  refine (?g : ∀ {a : Arguments} {b : List Stmt} {s : Scope}, methAt 13 0 = some (a, b, s) → Params → Obj) (by rfl)
  exact fun {a} {b} {s} _ P => ⟨.type "function", none, .func ⟨.ofString "__init__", .ofString "TrapError.__init__", a, .stmts b, s, (3 : Nat), [], .none, .none, .none, .str (.ofString "moduleyard.errors") (355 : Nat), none, .ref (152 : Nat), .none, (0 : Nat)⟩, #[]⟩
noncomputable def ho_198 : Params → Obj := fun P => ⟨.type "tuple", none, .seq #[.str (.ofString "module") (399 : Nat), .str (.ofString "number") (400 : Nat), .str (.ofString "place") (401 : Nat)] (0 : Nat), #[]⟩
noncomputable def ho_199 : Params → Obj := fun P => ⟨.type "dict", none, .dict #[⟨PySem.PyData.keyHash P (.ofString "__module__"), .str (.ofString "__module__") (384 : Nat), .str (.ofString "moduleyard.errors") (355 : Nat)⟩, ⟨PySem.PyData.keyHash P (.ofString "__firstlineno__"), .str (.ofString "__firstlineno__") (388 : Nat), .int 117 (387 : Nat)⟩, ⟨PySem.PyData.keyHash P (.ofString "__init__"), .str (.ofString "__init__") (398 : Nat), .ref (153 : Nat)⟩, ⟨PySem.PyData.keyHash P (.ofString "__static_attributes__"), .str (.ofString "__static_attributes__") (402 : Nat), .ref (154 : Nat)⟩, ⟨PySem.PyData.keyHash P (.ofString "__doc__"), .str (.ofString "__doc__") (403 : Nat), .none⟩] (2 : Nat), #[]⟩
noncomputable def ho_200 : Params → Obj := fun P => ⟨.type "type", none, .cls ⟨.ofString "TrapError", [.ref (136 : Nat)], [.ref (156 : Nat), .ref (136 : Nat), .type "Exception", .type "BaseException", .type "object"], (155 : Nat), .ofString "TrapError", .true, [], [], .false, none, .false⟩, #[some (.ref (140 : Nat)), none, some (.str (.ofString "TrapError") (377 : Nat)), some (.str (.ofString "TrapError") (385 : Nat)), some (.builtin "Exception.__new__"), some (.bool .true)]⟩
noncomputable def ho_201 : Params → Obj := fun P => ⟨.type "super", none, .fields #[.ref (156 : Nat), .ref (156 : Nat), .ref (156 : Nat)], #[]⟩
noncomputable def ho_202 : Params → Obj := fun P => ⟨.type "builtin_function_or_method", none, .fields #[.builtin "object.__init_subclass__", .ref (156 : Nat)], #[]⟩
noncomputable def ho_205 : Params → Obj := fun P => ⟨.type "tuple", none, .seq #[] (0 : Nat), #[]⟩
noncomputable def ho_206 : Params → Obj := fun P => ⟨.type "builtin_function_or_method", none, .fields #[.builtin "type.__prepare__", .type "type"], #[]⟩
noncomputable def ho_207 : Params → Obj := fun P => ⟨.type "dict", none, .dict #[⟨PySem.PyData.keyHash P (.ofString "__module__"), .str (.ofString "__module__") (417 : Nat), .str (.ofString "moduleyard.memory") (406 : Nat)⟩, ⟨PySem.PyData.keyHash P (.ofString "__qualname__"), .str (.ofString "__qualname__") (419 : Nat), .str (.ofString "Memory") (418 : Nat)⟩, ⟨PySem.PyData.keyHash P (.ofString "__firstlineno__"), .str (.ofString "__firstlineno__") (421 : Nat), .int 125 (420 : Nat)⟩, ⟨PySem.PyData.keyHash P (.ofString "__init__"), .str (.ofString "__init__") (429 : Nat), .ref (172 : Nat)⟩, ⟨PySem.PyData.keyHash P (.ofString "place"), .str (.ofString "place") (437 : Nat), .ref (179 : Nat)⟩, ⟨PySem.PyData.keyHash P (.ofString "word"), .str (.ofString "word") (445 : Nat), .ref (186 : Nat)⟩, ⟨PySem.PyData.keyHash P (.ofString "put_word"), .str (.ofString "put_word") (454 : Nat), .ref (193 : Nat)⟩, ⟨PySem.PyData.keyHash P (.ofString "byte"), .str (.ofString "byte") (462 : Nat), .ref (200 : Nat)⟩, ⟨PySem.PyData.keyHash P (.ofString "put_byte"), .str (.ofString "put_byte") (471 : Nat), .ref (207 : Nat)⟩, ⟨PySem.PyData.keyHash P (.ofString "__static_attributes__"), .str (.ofString "__static_attributes__") (474 : Nat), .ref (208 : Nat)⟩] (10 : Nat), #[]⟩
noncomputable def ho_208 : Params → Obj := fun P => ⟨.type "tuple", none, .seq #[] (0 : Nat), #[]⟩
noncomputable def ho_209 : Params → Obj := fun P => ⟨.none, none, .fields #[.int 127 (0 : Nat), .int 4 (0 : Nat), .ref (171 : Nat), .int 131 (0 : Nat), .int 4 (0 : Nat), .ref (178 : Nat), .int 136 (0 : Nat), .int 4 (0 : Nat), .ref (185 : Nat), .int 139 (0 : Nat), .int 4 (0 : Nat), .ref (192 : Nat), .int 142 (0 : Nat), .int 4 (0 : Nat), .ref (199 : Nat), .int 145 (0 : Nat), .int 4 (0 : Nat), .ref (206 : Nat)], #[]⟩
noncomputable def ho_210 : Params → Obj := fun P => ⟨.type "code", none, .fields #[.str (.ofString "Memory") (412 : Nat), .str (.ofString "Memory") (413 : Nat), .str (.ofString "/claim/cut.py") (414 : Nat), .int 125 (0 : Nat), .int 0 (0 : Nat), .int 0 (0 : Nat), .int 0 (0 : Nat), .int 0 (0 : Nat), .ref (162 : Nat), .bool .false, .int 181 (0 : Nat), .ref (163 : Nat), .none, .none, .none, .none, .int 415 (0 : Nat), .int 125 (0 : Nat), .str (.ofString "/claim/cut.py") (416 : Nat)], #[]⟩
noncomputable def ho_211 : Params → Obj := fun P => ⟨.type "frame", none, .plain, #[some (.ref (164 : Nat)), some (.ref (3 : Nat)), some (.ref (161 : Nat)), none, some (.str (.ofString "moduleyard.memory") (406 : Nat)), none, some (.ref (0 : Nat))]⟩
noncomputable def ho_212 : Params → Obj := fun P => ⟨.type "tuple", none, .seq #[] (0 : Nat), #[]⟩
noncomputable def ho_213 : Params → Obj := fun P => ⟨.none, none, .fields #[], #[]⟩
noncomputable def ho_214 : Params → Obj := fun P => ⟨.type "tuple", none, .seq #[.str (.ofString "self") (425 : Nat), .str (.ofString "size") (426 : Nat)] (0 : Nat), #[]⟩
noncomputable def ho_215 : Params → Obj := fun P => ⟨.type "tuple", none, .seq #[] (0 : Nat), #[]⟩
noncomputable def ho_216 : Params → Obj := by
  refine (?g : ∀ {a : Arguments} {b : List Stmt} {s : Scope}, methAt 16 0 = some (a, b, s) → Params → Obj) (by rfl)
  exact fun {a} {b} {s} _ P => ⟨.none, none, .func ⟨.ofString "__init__", .ofString "Memory.__init__", a, .stmts b, s, (0 : Nat), [], .none, .none, .none, .none, none, .none, .none, (0 : Nat)⟩, #[]⟩
noncomputable def ho_217 : Params → Obj := fun P => ⟨.type "code", none, .fields #[.str (.ofString "__init__") (422 : Nat), .str (.ofString "Memory.__init__") (423 : Nat), .str (.ofString "/claim/cut.py") (424 : Nat), .int 127 (0 : Nat), .int 2 (0 : Nat), .int 0 (0 : Nat), .int 0 (0 : Nat), .int 3 (0 : Nat), .ref (166 : Nat), .bool .true, .int 181 (0 : Nat), .ref (167 : Nat), .none, .ref (168 : Nat), .ref (169 : Nat), .ref (170 : Nat), .int 427 (0 : Nat), .int 127 (0 : Nat), .str (.ofString "/claim/cut.py") (428 : Nat)], #[]⟩
noncomputable def ho_218 : Params → Obj := by
  refine (?g : ∀ {a : Arguments} {b : List Stmt} {s : Scope}, methAt 16 0 = some (a, b, s) → Params → Obj) (by rfl)
  exact fun {a} {b} {s} _ P => ⟨.type "function", none, .func ⟨.ofString "__init__", .ofString "Memory.__init__", a, .stmts b, s, (3 : Nat), [], .none, .none, .none, .str (.ofString "moduleyard.memory") (406 : Nat), none, .ref (171 : Nat), .none, (0 : Nat)⟩, #[]⟩
noncomputable def ho_219 : Params → Obj := fun P => ⟨.type "tuple", none, .seq #[] (0 : Nat), #[]⟩
noncomputable def ho_220 : Params → Obj := fun P => ⟨.none, none, .fields #[], #[]⟩
noncomputable def ho_221 : Params → Obj := fun P => ⟨.type "tuple", none, .seq #[.str (.ofString "self") (433 : Nat), .str (.ofString "address") (434 : Nat)] (0 : Nat), #[]⟩
noncomputable def ho_222 : Params → Obj := fun P => ⟨.type "tuple", none, .seq #[] (0 : Nat), #[]⟩
noncomputable def ho_223 : Params → Obj := by
  refine (?g : ∀ {a : Arguments} {b : List Stmt} {s : Scope}, methAt 16 1 = some (a, b, s) → Params → Obj) (by rfl)
  exact fun {a} {b} {s} _ P => ⟨.none, none, .func ⟨.ofString "place", .ofString "Memory.place", a, .stmts b, s, (0 : Nat), [], .none, .none, .none, .none, none, .none, .none, (0 : Nat)⟩, #[]⟩
noncomputable def ho_224 : Params → Obj := fun P => ⟨.type "code", none, .fields #[.str (.ofString "place") (430 : Nat), .str (.ofString "Memory.place") (431 : Nat), .str (.ofString "/claim/cut.py") (432 : Nat), .int 131 (0 : Nat), .int 2 (0 : Nat), .int 0 (0 : Nat), .int 0 (0 : Nat), .int 3 (0 : Nat), .ref (173 : Nat), .bool .true, .int 181 (0 : Nat), .ref (174 : Nat), .none, .ref (175 : Nat), .ref (176 : Nat), .ref (177 : Nat), .int 435 (0 : Nat), .int 131 (0 : Nat), .str (.ofString "/claim/cut.py") (436 : Nat)], #[]⟩
noncomputable def ho_225 : Params → Obj := by
  refine (?g : ∀ {a : Arguments} {b : List Stmt} {s : Scope}, methAt 16 1 = some (a, b, s) → Params → Obj) (by rfl)
  exact fun {a} {b} {s} _ P => ⟨.type "function", none, .func ⟨.ofString "place", .ofString "Memory.place", a, .stmts b, s, (3 : Nat), [], .none, .none, .none, .str (.ofString "moduleyard.memory") (406 : Nat), none, .ref (178 : Nat), .none, (0 : Nat)⟩, #[]⟩
noncomputable def ho_226 : Params → Obj := fun P => ⟨.type "tuple", none, .seq #[] (0 : Nat), #[]⟩
noncomputable def ho_227 : Params → Obj := fun P => ⟨.none, none, .fields #[], #[]⟩
noncomputable def ho_228 : Params → Obj := fun P => ⟨.type "tuple", none, .seq #[.str (.ofString "self") (441 : Nat), .str (.ofString "address") (442 : Nat)] (0 : Nat), #[]⟩
noncomputable def ho_229 : Params → Obj := fun P => ⟨.type "tuple", none, .seq #[] (0 : Nat), #[]⟩
noncomputable def ho_230 : Params → Obj := by
  refine (?g : ∀ {a : Arguments} {b : List Stmt} {s : Scope}, methAt 16 2 = some (a, b, s) → Params → Obj) (by rfl)
  exact fun {a} {b} {s} _ P => ⟨.none, none, .func ⟨.ofString "word", .ofString "Memory.word", a, .stmts b, s, (0 : Nat), [], .none, .none, .none, .none, none, .none, .none, (0 : Nat)⟩, #[]⟩
noncomputable def ho_231 : Params → Obj := fun P => ⟨.type "code", none, .fields #[.str (.ofString "word") (438 : Nat), .str (.ofString "Memory.word") (439 : Nat), .str (.ofString "/claim/cut.py") (440 : Nat), .int 136 (0 : Nat), .int 2 (0 : Nat), .int 0 (0 : Nat), .int 0 (0 : Nat), .int 3 (0 : Nat), .ref (180 : Nat), .bool .true, .int 181 (0 : Nat), .ref (181 : Nat), .none, .ref (182 : Nat), .ref (183 : Nat), .ref (184 : Nat), .int 443 (0 : Nat), .int 136 (0 : Nat), .str (.ofString "/claim/cut.py") (444 : Nat)], #[]⟩
noncomputable def ho_232 : Params → Obj := by
  refine (?g : ∀ {a : Arguments} {b : List Stmt} {s : Scope}, methAt 16 2 = some (a, b, s) → Params → Obj) (by rfl)
  exact fun {a} {b} {s} _ P => ⟨.type "function", none, .func ⟨.ofString "word", .ofString "Memory.word", a, .stmts b, s, (3 : Nat), [], .none, .none, .none, .str (.ofString "moduleyard.memory") (406 : Nat), none, .ref (185 : Nat), .none, (0 : Nat)⟩, #[]⟩
noncomputable def ho_233 : Params → Obj := fun P => ⟨.type "tuple", none, .seq #[] (0 : Nat), #[]⟩
noncomputable def ho_234 : Params → Obj := fun P => ⟨.none, none, .fields #[], #[]⟩
noncomputable def ho_235 : Params → Obj := fun P => ⟨.type "tuple", none, .seq #[.str (.ofString "self") (449 : Nat), .str (.ofString "address") (450 : Nat), .str (.ofString "value") (451 : Nat)] (0 : Nat), #[]⟩
noncomputable def ho_236 : Params → Obj := fun P => ⟨.type "tuple", none, .seq #[] (0 : Nat), #[]⟩
noncomputable def ho_237 : Params → Obj := by
  refine (?g : ∀ {a : Arguments} {b : List Stmt} {s : Scope}, methAt 16 3 = some (a, b, s) → Params → Obj) (by rfl)
  exact fun {a} {b} {s} _ P => ⟨.none, none, .func ⟨.ofString "put_word", .ofString "Memory.put_word", a, .stmts b, s, (0 : Nat), [], .none, .none, .none, .none, none, .none, .none, (0 : Nat)⟩, #[]⟩
noncomputable def ho_238 : Params → Obj := fun P => ⟨.type "code", none, .fields #[.str (.ofString "put_word") (446 : Nat), .str (.ofString "Memory.put_word") (447 : Nat), .str (.ofString "/claim/cut.py") (448 : Nat), .int 139 (0 : Nat), .int 3 (0 : Nat), .int 0 (0 : Nat), .int 0 (0 : Nat), .int 3 (0 : Nat), .ref (187 : Nat), .bool .true, .int 181 (0 : Nat), .ref (188 : Nat), .none, .ref (189 : Nat), .ref (190 : Nat), .ref (191 : Nat), .int 452 (0 : Nat), .int 139 (0 : Nat), .str (.ofString "/claim/cut.py") (453 : Nat)], #[]⟩
noncomputable def ho_239 : Params → Obj := by
  refine (?g : ∀ {a : Arguments} {b : List Stmt} {s : Scope}, methAt 16 3 = some (a, b, s) → Params → Obj) (by rfl)
  exact fun {a} {b} {s} _ P => ⟨.type "function", none, .func ⟨.ofString "put_word", .ofString "Memory.put_word", a, .stmts b, s, (3 : Nat), [], .none, .none, .none, .str (.ofString "moduleyard.memory") (406 : Nat), none, .ref (192 : Nat), .none, (0 : Nat)⟩, #[]⟩
noncomputable def ho_240 : Params → Obj := fun P => ⟨.type "tuple", none, .seq #[] (0 : Nat), #[]⟩
noncomputable def ho_241 : Params → Obj := fun P => ⟨.none, none, .fields #[], #[]⟩
noncomputable def ho_242 : Params → Obj := fun P => ⟨.type "tuple", none, .seq #[.str (.ofString "self") (458 : Nat), .str (.ofString "address") (459 : Nat)] (0 : Nat), #[]⟩
noncomputable def ho_243 : Params → Obj := fun P => ⟨.type "tuple", none, .seq #[] (0 : Nat), #[]⟩
noncomputable def ho_244 : Params → Obj := by
  refine (?g : ∀ {a : Arguments} {b : List Stmt} {s : Scope}, methAt 16 4 = some (a, b, s) → Params → Obj) (by rfl)
  exact fun {a} {b} {s} _ P => ⟨.none, none, .func ⟨.ofString "byte", .ofString "Memory.byte", a, .stmts b, s, (0 : Nat), [], .none, .none, .none, .none, none, .none, .none, (0 : Nat)⟩, #[]⟩
noncomputable def ho_245 : Params → Obj := fun P => ⟨.type "code", none, .fields #[.str (.ofString "byte") (455 : Nat), .str (.ofString "Memory.byte") (456 : Nat), .str (.ofString "/claim/cut.py") (457 : Nat), .int 142 (0 : Nat), .int 2 (0 : Nat), .int 0 (0 : Nat), .int 0 (0 : Nat), .int 3 (0 : Nat), .ref (194 : Nat), .bool .true, .int 181 (0 : Nat), .ref (195 : Nat), .none, .ref (196 : Nat), .ref (197 : Nat), .ref (198 : Nat), .int 460 (0 : Nat), .int 142 (0 : Nat), .str (.ofString "/claim/cut.py") (461 : Nat)], #[]⟩
noncomputable def ho_246 : Params → Obj := by
  refine (?g : ∀ {a : Arguments} {b : List Stmt} {s : Scope}, methAt 16 4 = some (a, b, s) → Params → Obj) (by rfl)
  exact fun {a} {b} {s} _ P => ⟨.type "function", none, .func ⟨.ofString "byte", .ofString "Memory.byte", a, .stmts b, s, (3 : Nat), [], .none, .none, .none, .str (.ofString "moduleyard.memory") (406 : Nat), none, .ref (199 : Nat), .none, (0 : Nat)⟩, #[]⟩
noncomputable def ho_247 : Params → Obj := fun P => ⟨.type "tuple", none, .seq #[] (0 : Nat), #[]⟩
noncomputable def ho_248 : Params → Obj := fun P => ⟨.none, none, .fields #[], #[]⟩
noncomputable def ho_249 : Params → Obj := fun P => ⟨.type "tuple", none, .seq #[.str (.ofString "self") (466 : Nat), .str (.ofString "address") (467 : Nat), .str (.ofString "value") (468 : Nat)] (0 : Nat), #[]⟩
noncomputable def ho_250 : Params → Obj := fun P => ⟨.type "tuple", none, .seq #[] (0 : Nat), #[]⟩
noncomputable def ho_251 : Params → Obj := by
  refine (?g : ∀ {a : Arguments} {b : List Stmt} {s : Scope}, methAt 16 5 = some (a, b, s) → Params → Obj) (by rfl)
  exact fun {a} {b} {s} _ P => ⟨.none, none, .func ⟨.ofString "put_byte", .ofString "Memory.put_byte", a, .stmts b, s, (0 : Nat), [], .none, .none, .none, .none, none, .none, .none, (0 : Nat)⟩, #[]⟩
noncomputable def ho_252 : Params → Obj := fun P => ⟨.type "code", none, .fields #[.str (.ofString "put_byte") (463 : Nat), .str (.ofString "Memory.put_byte") (464 : Nat), .str (.ofString "/claim/cut.py") (465 : Nat), .int 145 (0 : Nat), .int 3 (0 : Nat), .int 0 (0 : Nat), .int 0 (0 : Nat), .int 3 (0 : Nat), .ref (201 : Nat), .bool .true, .int 181 (0 : Nat), .ref (202 : Nat), .none, .ref (203 : Nat), .ref (204 : Nat), .ref (205 : Nat), .int 469 (0 : Nat), .int 145 (0 : Nat), .str (.ofString "/claim/cut.py") (470 : Nat)], #[]⟩
noncomputable def ho_253 : Params → Obj := by
  refine (?g : ∀ {a : Arguments} {b : List Stmt} {s : Scope}, methAt 16 5 = some (a, b, s) → Params → Obj) (by rfl)
  exact fun {a} {b} {s} _ P => ⟨.type "function", none, .func ⟨.ofString "put_byte", .ofString "Memory.put_byte", a, .stmts b, s, (3 : Nat), [], .none, .none, .none, .str (.ofString "moduleyard.memory") (406 : Nat), none, .ref (206 : Nat), .none, (0 : Nat)⟩, #[]⟩
noncomputable def ho_254 : Params → Obj := fun P => ⟨.type "tuple", none, .seq #[.str (.ofString "size") (472 : Nat), .str (.ofString "words") (473 : Nat)] (0 : Nat), #[]⟩
noncomputable def ho_255 : Params → Obj := fun P => ⟨.type "dict", none, .dict #[⟨PySem.PyData.keyHash P (.ofString "__module__"), .str (.ofString "__module__") (417 : Nat), .str (.ofString "moduleyard.memory") (406 : Nat)⟩, ⟨PySem.PyData.keyHash P (.ofString "__firstlineno__"), .str (.ofString "__firstlineno__") (421 : Nat), .int 125 (420 : Nat)⟩, ⟨PySem.PyData.keyHash P (.ofString "__init__"), .str (.ofString "__init__") (429 : Nat), .ref (172 : Nat)⟩, ⟨PySem.PyData.keyHash P (.ofString "place"), .str (.ofString "place") (437 : Nat), .ref (179 : Nat)⟩, ⟨PySem.PyData.keyHash P (.ofString "word"), .str (.ofString "word") (445 : Nat), .ref (186 : Nat)⟩, ⟨PySem.PyData.keyHash P (.ofString "put_word"), .str (.ofString "put_word") (454 : Nat), .ref (193 : Nat)⟩, ⟨PySem.PyData.keyHash P (.ofString "byte"), .str (.ofString "byte") (462 : Nat), .ref (200 : Nat)⟩, ⟨PySem.PyData.keyHash P (.ofString "put_byte"), .str (.ofString "put_byte") (471 : Nat), .ref (207 : Nat)⟩, ⟨PySem.PyData.keyHash P (.ofString "__static_attributes__"), .str (.ofString "__static_attributes__") (474 : Nat), .ref (208 : Nat)⟩, ⟨PySem.PyData.keyHash P (.ofString "__dict__"), .str (.ofString "__dict__") (476 : Nat), .ref (211 : Nat)⟩, ⟨PySem.PyData.keyHash P (.ofString "__weakref__"), .str (.ofString "__weakref__") (478 : Nat), .ref (212 : Nat)⟩, ⟨PySem.PyData.keyHash P (.ofString "__doc__"), .str (.ofString "__doc__") (479 : Nat), .none⟩] (4 : Nat), #[]⟩
noncomputable def ho_256 : Params → Obj := fun P => ⟨.type "type", none, .cls ⟨.ofString "Memory", [.type "object"], [.ref (210 : Nat), .type "object"], (209 : Nat), .ofString "Memory", .true, [], [], .false, none, .false⟩, #[none, none, some (.str (.ofString "Memory") (410 : Nat)), some (.str (.ofString "Memory") (418 : Nat)), some (.builtin "object.__new__"), some (.bool .true)]⟩
noncomputable def ho_257 : Params → Obj := fun P => ⟨.type "getset_descriptor", none, .fields #[.str (.ofString "__dict__") (475 : Nat), .ref (210 : Nat), .builtin "function.__dict__", .builtin "function.__dict__#set"], #[]⟩
noncomputable def ho_258 : Params → Obj := fun P => ⟨.type "getset_descriptor", none, .fields #[.str (.ofString "__weakref__") (477 : Nat), .ref (210 : Nat), .builtin "ExceptionGroup.__weakref__", .none], #[]⟩
noncomputable def ho_259 : Params → Obj := fun P => ⟨.type "super", none, .fields #[.ref (210 : Nat), .ref (210 : Nat), .ref (210 : Nat)], #[]⟩
noncomputable def ho_260 : Params → Obj := fun P => ⟨.type "builtin_function_or_method", none, .fields #[.builtin "object.__init_subclass__", .ref (210 : Nat)], #[]⟩
noncomputable def ho_263 : Params → Obj := fun P => ⟨.type "tuple", none, .seq #[] (0 : Nat), #[]⟩
noncomputable def ho_264 : Params → Obj := fun P => ⟨.none, none, .fields #[], #[]⟩
noncomputable def ho_265 : Params → Obj := fun P => ⟨.type "tuple", none, .seq #[.str (.ofString "source") (487 : Nat), .str (.ofString "most") (488 : Nat), .str (.ofString "found") (489 : Nat)] (0 : Nat), #[]⟩
noncomputable def ho_266 : Params → Obj := fun P => ⟨.type "tuple", none, .seq #[] (0 : Nat), #[]⟩
noncomputable def ho_267 : Params → Obj := by
  refine (?g : ∀ {a : Arguments} {b : List Stmt} {s : Scope}, defAt 18 = some (a, b, s) → Params → Obj) (by rfl)
  exact fun {a} {b} {s} _ P => ⟨.none, none, .func ⟨.ofString "_law_take", .ofString "_law_take", a, .stmts b, s, (0 : Nat), [], .none, .none, .none, .none, none, .none, .none, (0 : Nat)⟩, #[]⟩
noncomputable def ho_268 : Params → Obj := fun P => ⟨.type "code", none, .fields #[.str (.ofString "_law_take") (484 : Nat), .str (.ofString "_law_take") (485 : Nat), .str (.ofString "/claim/cut.py") (486 : Nat), .int 148 (0 : Nat), .int 2 (0 : Nat), .int 0 (0 : Nat), .int 0 (0 : Nat), .int 3 (0 : Nat), .ref (215 : Nat), .bool .true, .int 181 (0 : Nat), .ref (216 : Nat), .none, .ref (217 : Nat), .ref (218 : Nat), .ref (219 : Nat), .int 490 (0 : Nat), .int 148 (0 : Nat), .str (.ofString "/claim/cut.py") (491 : Nat)], #[]⟩
noncomputable def ho_269 : Params → Obj := by
  refine (?g : ∀ {a : Arguments} {b : List Stmt} {s : Scope}, defAt 18 = some (a, b, s) → Params → Obj) (by rfl)
  exact fun {a} {b} {s} _ P => ⟨.type "function", none, .func ⟨.ofString "_law_take", .ofString "_law_take", a, .stmts b, s, (3 : Nat), [], .none, .none, .none, .str (.ofString "law_pb0333_01") (482 : Nat), none, .ref (220 : Nat), .none, (0 : Nat)⟩, #[]⟩
noncomputable def ho_270 : Params → Obj := fun P => ⟨.type "tuple", none, .seq #[] (0 : Nat), #[]⟩
noncomputable def ho_271 : Params → Obj := fun P => ⟨.none, none, .fields #[], #[]⟩
noncomputable def ho_272 : Params → Obj := by
  refine (?g : ∀ {a : Arguments} {b : List Stmt} {s : Scope}, defAt 19 = some (a, b, s) → Params → Obj) (by rfl)
  exact fun {a} {b} {s} _ P => ⟨.none, none, .func ⟨.ofString "law", .ofString "law", a, .stmts b, s, (0 : Nat), [], .none, .none, .none, .none, none, .none, .none, (0 : Nat)⟩, #[]⟩
noncomputable def ho_273 : Params → Obj := fun P => ⟨.type "code", none, .fields #[.str (.ofString "law") (493 : Nat), .str (.ofString "law") (494 : Nat), .str (.ofString "/claim/cut.py") (495 : Nat), .int 156 (0 : Nat), .int 1 (0 : Nat), .int 0 (0 : Nat), .int 0 (0 : Nat), .int 3 (0 : Nat), .ref (222 : Nat), .bool .true, .int 181 (0 : Nat), .ref (223 : Nat), .none, .none, .none, .ref (224 : Nat), .int 496 (0 : Nat), .int 156 (0 : Nat), .str (.ofString "/claim/cut.py") (497 : Nat)], #[]⟩
noncomputable def ho_274 : Params → Obj := by
  refine (?g : ∀ {a : Arguments} {b : List Stmt} {s : Scope}, defAt 19 = some (a, b, s) → Params → Obj) (by rfl)
  exact fun {a} {b} {s} _ P => ⟨.type "function", none, .func ⟨.ofString "law", .ofString "law", a, .stmts b, s, (3 : Nat), [], .none, .none, .none, .str (.ofString "law_pb0333_01") (482 : Nat), none, .ref (225 : Nat), .none, (0 : Nat)⟩, #[]⟩
noncomputable def ho_49 : Params → Obj := fun P => ⟨.type "dict", none, .dict #[⟨PySem.PyData.keyHash P (.ofString "__name__"), .str (.ofString "__name__") (165 : Nat), .str (.ofString "moduleyard.heap") (194 : Nat)⟩, ⟨PySem.PyData.keyHash P (.ofString "__doc__"), .str (.ofString "__doc__") (166 : Nat), .none⟩, ⟨PySem.PyData.keyHash P (.ofString "__package__"), .str (.ofString "__package__") (167 : Nat), .none⟩, ⟨PySem.PyData.keyHash P (.ofString "__loader__"), .str (.ofString "__loader__") (168 : Nat), .builtin "__main__.__loader__#opaque"⟩, ⟨PySem.PyData.keyHash P (.ofString "__spec__"), .str (.ofString "__spec__") (169 : Nat), .none⟩, ⟨PySem.PyData.keyHash P (.ofString "__annotations__"), .str (.ofString "__annotations__") (170 : Nat), .ref (6 : Nat)⟩, ⟨PySem.PyData.keyHash P (.ofString "__builtins__"), .str (.ofString "__builtins__") (171 : Nat), .ref (4 : Nat)⟩, ⟨PySem.PyData.keyHash P (.ofString "__file__"), .str (.ofString "__file__") (173 : Nat), .str (.ofString "/claim/cut.py") (172 : Nat)⟩, ⟨PySem.PyData.keyHash P (.ofString "__cached__"), .str (.ofString "__cached__") (174 : Nat), .none⟩, ⟨PySem.PyData.keyHash P (.ofString "_wall"), .str (.ofString "_wall") (193 : Nat), .ref (21 : Nat)⟩, ⟨PySem.PyData.keyHash P (.ofString "GRAIN"), .str (.ofString "GRAIN") (197 : Nat), .int 16 (196 : Nat)⟩, ⟨PySem.PyData.keyHash P (.ofString "HEADER"), .str (.ofString "HEADER") (199 : Nat), .int 8 (198 : Nat)⟩, ⟨PySem.PyData.keyHash P (.ofString "LISTS"), .str (.ofString "LISTS") (201 : Nat), .int 4 (200 : Nat)⟩, ⟨PySem.PyData.keyHash P (.ofString "block_size"), .str (.ofString "block_size") (208 : Nat), .ref (28 : Nat)⟩, ⟨PySem.PyData.keyHash P (.ofString "list_number"), .str (.ofString "list_number") (215 : Nat), .ref (35 : Nat)⟩] (15 : Nat), #[]⟩
noncomputable def ho_50 : Params → Obj := fun P => ⟨.none, none, .fields #[.int 1 (0 : Nat), .int 0 (0 : Nat), .ref (20 : Nat), .int 8 (0 : Nat), .int 0 (0 : Nat), .ref (27 : Nat), .int 10 (0 : Nat), .int 0 (0 : Nat), .ref (34 : Nat)], #[]⟩
noncomputable def ho_72 : Params → Obj := fun P => ⟨.type "dict", none, .dict #[⟨PySem.PyData.keyHash P (.ofString "__name__"), .str (.ofString "__name__") (165 : Nat), .str (.ofString "moduleyard.heap") (194 : Nat)⟩, ⟨PySem.PyData.keyHash P (.ofString "__doc__"), .str (.ofString "__doc__") (166 : Nat), .none⟩, ⟨PySem.PyData.keyHash P (.ofString "__package__"), .str (.ofString "__package__") (167 : Nat), .none⟩, ⟨PySem.PyData.keyHash P (.ofString "__loader__"), .str (.ofString "__loader__") (168 : Nat), .builtin "__main__.__loader__#opaque"⟩, ⟨PySem.PyData.keyHash P (.ofString "__spec__"), .str (.ofString "__spec__") (169 : Nat), .none⟩, ⟨PySem.PyData.keyHash P (.ofString "__annotations__"), .str (.ofString "__annotations__") (170 : Nat), .ref (6 : Nat)⟩, ⟨PySem.PyData.keyHash P (.ofString "__builtins__"), .str (.ofString "__builtins__") (171 : Nat), .ref (4 : Nat)⟩, ⟨PySem.PyData.keyHash P (.ofString "__file__"), .str (.ofString "__file__") (173 : Nat), .str (.ofString "/claim/cut.py") (172 : Nat)⟩, ⟨PySem.PyData.keyHash P (.ofString "__cached__"), .str (.ofString "__cached__") (174 : Nat), .none⟩, ⟨PySem.PyData.keyHash P (.ofString "_wall"), .str (.ofString "_wall") (193 : Nat), .ref (21 : Nat)⟩, ⟨PySem.PyData.keyHash P (.ofString "GRAIN"), .str (.ofString "GRAIN") (197 : Nat), .int 16 (196 : Nat)⟩, ⟨PySem.PyData.keyHash P (.ofString "HEADER"), .str (.ofString "HEADER") (199 : Nat), .int 8 (198 : Nat)⟩, ⟨PySem.PyData.keyHash P (.ofString "LISTS"), .str (.ofString "LISTS") (201 : Nat), .int 4 (200 : Nat)⟩, ⟨PySem.PyData.keyHash P (.ofString "block_size"), .str (.ofString "block_size") (208 : Nat), .ref (28 : Nat)⟩, ⟨PySem.PyData.keyHash P (.ofString "list_number"), .str (.ofString "list_number") (215 : Nat), .ref (35 : Nat)⟩, ⟨PySem.PyData.keyHash P (.ofString "Heap"), .str (.ofString "Heap") (326 : Nat), .ref (108 : Nat)⟩] (16 : Nat), #[]⟩
noncomputable def ho_73 : Params → Obj := fun P => ⟨.none, none, .fields #[.int 1 (0 : Nat), .int 0 (0 : Nat), .ref (20 : Nat), .int 8 (0 : Nat), .int 0 (0 : Nat), .ref (27 : Nat), .int 10 (0 : Nat), .int 0 (0 : Nat), .ref (34 : Nat), .int 18 (0 : Nat), .int 0 (0 : Nat), .ref (41 : Nat)], #[]⟩
noncomputable def ho_152 : Params → Obj := fun P => ⟨.type "dict", none, .dict #[⟨PySem.PyData.keyHash P (.ofString "__name__"), .str (.ofString "__name__") (165 : Nat), .str (.ofString "moduleyard.errors") (355 : Nat)⟩, ⟨PySem.PyData.keyHash P (.ofString "__doc__"), .str (.ofString "__doc__") (166 : Nat), .none⟩, ⟨PySem.PyData.keyHash P (.ofString "__package__"), .str (.ofString "__package__") (167 : Nat), .none⟩, ⟨PySem.PyData.keyHash P (.ofString "__loader__"), .str (.ofString "__loader__") (168 : Nat), .builtin "__main__.__loader__#opaque"⟩, ⟨PySem.PyData.keyHash P (.ofString "__spec__"), .str (.ofString "__spec__") (169 : Nat), .none⟩, ⟨PySem.PyData.keyHash P (.ofString "__annotations__"), .str (.ofString "__annotations__") (170 : Nat), .ref (6 : Nat)⟩, ⟨PySem.PyData.keyHash P (.ofString "__builtins__"), .str (.ofString "__builtins__") (171 : Nat), .ref (4 : Nat)⟩, ⟨PySem.PyData.keyHash P (.ofString "__file__"), .str (.ofString "__file__") (173 : Nat), .str (.ofString "/claim/cut.py") (172 : Nat)⟩, ⟨PySem.PyData.keyHash P (.ofString "__cached__"), .str (.ofString "__cached__") (174 : Nat), .none⟩, ⟨PySem.PyData.keyHash P (.ofString "_wall"), .str (.ofString "_wall") (193 : Nat), .ref (21 : Nat)⟩, ⟨PySem.PyData.keyHash P (.ofString "GRAIN"), .str (.ofString "GRAIN") (197 : Nat), .int 16 (196 : Nat)⟩, ⟨PySem.PyData.keyHash P (.ofString "HEADER"), .str (.ofString "HEADER") (199 : Nat), .int 8 (198 : Nat)⟩, ⟨PySem.PyData.keyHash P (.ofString "LISTS"), .str (.ofString "LISTS") (201 : Nat), .int 4 (200 : Nat)⟩, ⟨PySem.PyData.keyHash P (.ofString "block_size"), .str (.ofString "block_size") (208 : Nat), .ref (28 : Nat)⟩, ⟨PySem.PyData.keyHash P (.ofString "list_number"), .str (.ofString "list_number") (215 : Nat), .ref (35 : Nat)⟩, ⟨PySem.PyData.keyHash P (.ofString "Heap"), .str (.ofString "Heap") (326 : Nat), .ref (108 : Nat)⟩, ⟨PySem.PyData.keyHash P (.ofString "free_runs"), .str (.ofString "free_runs") (344 : Nat), .ref (119 : Nat)⟩, ⟨PySem.PyData.keyHash P (.ofString "sweep"), .str (.ofString "sweep") (354 : Nat), .ref (126 : Nat)⟩, ⟨PySem.PyData.keyHash P (.ofString "YardError"), .str (.ofString "YardError") (376 : Nat), .ref (136 : Nat)⟩] (19 : Nat), #[]⟩
noncomputable def ho_177 : Params → Obj := fun P => ⟨.type "type", none, .cls ⟨.ofString "YardError", [.type "Exception"], [.ref (136 : Nat), .type "Exception", .type "BaseException", .type "object"], (135 : Nat), .ofString "YardError", .true, [], [], .false, none, .false⟩, #[some (.ref (127 : Nat)), none, some (.str (.ofString "YardError") (357 : Nat)), some (.str (.ofString "YardError") (365 : Nat)), some (.builtin "Exception.__new__"), some (.bool .true)]⟩
noncomputable def ho_153 : Params → Obj := fun P => ⟨.none, none, .fields #[.int 1 (0 : Nat), .int 0 (0 : Nat), .ref (20 : Nat), .int 8 (0 : Nat), .int 0 (0 : Nat), .ref (27 : Nat), .int 10 (0 : Nat), .int 0 (0 : Nat), .ref (34 : Nat), .int 18 (0 : Nat), .int 0 (0 : Nat), .ref (41 : Nat), .int 90 (0 : Nat), .int 0 (0 : Nat), .ref (118 : Nat), .int 108 (0 : Nat), .int 0 (0 : Nat), .ref (125 : Nat), .int 115 (0 : Nat), .int 0 (0 : Nat), .ref (132 : Nat)], #[]⟩
noncomputable def ho_181 : Params → Obj := fun P => ⟨.type "dict", none, .dict #[⟨PySem.PyData.keyHash P (.ofString "__name__"), .str (.ofString "__name__") (165 : Nat), .str (.ofString "moduleyard.memory") (406 : Nat)⟩, ⟨PySem.PyData.keyHash P (.ofString "__doc__"), .str (.ofString "__doc__") (166 : Nat), .none⟩, ⟨PySem.PyData.keyHash P (.ofString "__package__"), .str (.ofString "__package__") (167 : Nat), .none⟩, ⟨PySem.PyData.keyHash P (.ofString "__loader__"), .str (.ofString "__loader__") (168 : Nat), .builtin "__main__.__loader__#opaque"⟩, ⟨PySem.PyData.keyHash P (.ofString "__spec__"), .str (.ofString "__spec__") (169 : Nat), .none⟩, ⟨PySem.PyData.keyHash P (.ofString "__annotations__"), .str (.ofString "__annotations__") (170 : Nat), .ref (6 : Nat)⟩, ⟨PySem.PyData.keyHash P (.ofString "__builtins__"), .str (.ofString "__builtins__") (171 : Nat), .ref (4 : Nat)⟩, ⟨PySem.PyData.keyHash P (.ofString "__file__"), .str (.ofString "__file__") (173 : Nat), .str (.ofString "/claim/cut.py") (172 : Nat)⟩, ⟨PySem.PyData.keyHash P (.ofString "__cached__"), .str (.ofString "__cached__") (174 : Nat), .none⟩, ⟨PySem.PyData.keyHash P (.ofString "_wall"), .str (.ofString "_wall") (193 : Nat), .ref (21 : Nat)⟩, ⟨PySem.PyData.keyHash P (.ofString "GRAIN"), .str (.ofString "GRAIN") (197 : Nat), .int 16 (196 : Nat)⟩, ⟨PySem.PyData.keyHash P (.ofString "HEADER"), .str (.ofString "HEADER") (199 : Nat), .int 8 (198 : Nat)⟩, ⟨PySem.PyData.keyHash P (.ofString "LISTS"), .str (.ofString "LISTS") (201 : Nat), .int 4 (200 : Nat)⟩, ⟨PySem.PyData.keyHash P (.ofString "block_size"), .str (.ofString "block_size") (208 : Nat), .ref (28 : Nat)⟩, ⟨PySem.PyData.keyHash P (.ofString "list_number"), .str (.ofString "list_number") (215 : Nat), .ref (35 : Nat)⟩, ⟨PySem.PyData.keyHash P (.ofString "Heap"), .str (.ofString "Heap") (326 : Nat), .ref (108 : Nat)⟩, ⟨PySem.PyData.keyHash P (.ofString "free_runs"), .str (.ofString "free_runs") (344 : Nat), .ref (119 : Nat)⟩, ⟨PySem.PyData.keyHash P (.ofString "sweep"), .str (.ofString "sweep") (354 : Nat), .ref (126 : Nat)⟩, ⟨PySem.PyData.keyHash P (.ofString "YardError"), .str (.ofString "YardError") (376 : Nat), .ref (136 : Nat)⟩, ⟨PySem.PyData.keyHash P (.ofString "TrapError"), .str (.ofString "TrapError") (405 : Nat), .ref (156 : Nat)⟩, ⟨PySem.PyData.keyHash P (.ofString "WORD"), .str (.ofString "WORD") (409 : Nat), .int 4294967296 (408 : Nat)⟩] (21 : Nat), #[]⟩
noncomputable def ho_182 : Params → Obj := fun P => ⟨.none, none, .fields #[.int 1 (0 : Nat), .int 0 (0 : Nat), .ref (20 : Nat), .int 8 (0 : Nat), .int 0 (0 : Nat), .ref (27 : Nat), .int 10 (0 : Nat), .int 0 (0 : Nat), .ref (34 : Nat), .int 18 (0 : Nat), .int 0 (0 : Nat), .ref (41 : Nat), .int 90 (0 : Nat), .int 0 (0 : Nat), .ref (118 : Nat), .int 108 (0 : Nat), .int 0 (0 : Nat), .ref (125 : Nat), .int 115 (0 : Nat), .int 0 (0 : Nat), .ref (132 : Nat), .int 117 (0 : Nat), .int 0 (0 : Nat), .ref (145 : Nat)], #[]⟩
noncomputable def ho_203 : Params → Obj := fun P => ⟨.type "dict", none, .dict #[⟨PySem.PyData.keyHash P (.ofString "__name__"), .str (.ofString "__name__") (165 : Nat), .str (.ofString "law_pb0333_01") (482 : Nat)⟩, ⟨PySem.PyData.keyHash P (.ofString "__doc__"), .str (.ofString "__doc__") (166 : Nat), .none⟩, ⟨PySem.PyData.keyHash P (.ofString "__package__"), .str (.ofString "__package__") (167 : Nat), .none⟩, ⟨PySem.PyData.keyHash P (.ofString "__loader__"), .str (.ofString "__loader__") (168 : Nat), .builtin "__main__.__loader__#opaque"⟩, ⟨PySem.PyData.keyHash P (.ofString "__spec__"), .str (.ofString "__spec__") (169 : Nat), .none⟩, ⟨PySem.PyData.keyHash P (.ofString "__annotations__"), .str (.ofString "__annotations__") (170 : Nat), .ref (6 : Nat)⟩, ⟨PySem.PyData.keyHash P (.ofString "__builtins__"), .str (.ofString "__builtins__") (171 : Nat), .ref (4 : Nat)⟩, ⟨PySem.PyData.keyHash P (.ofString "__file__"), .str (.ofString "__file__") (173 : Nat), .str (.ofString "/claim/cut.py") (172 : Nat)⟩, ⟨PySem.PyData.keyHash P (.ofString "__cached__"), .str (.ofString "__cached__") (174 : Nat), .none⟩, ⟨PySem.PyData.keyHash P (.ofString "_wall"), .str (.ofString "_wall") (193 : Nat), .ref (21 : Nat)⟩, ⟨PySem.PyData.keyHash P (.ofString "GRAIN"), .str (.ofString "GRAIN") (197 : Nat), .int 16 (196 : Nat)⟩, ⟨PySem.PyData.keyHash P (.ofString "HEADER"), .str (.ofString "HEADER") (199 : Nat), .int 8 (198 : Nat)⟩, ⟨PySem.PyData.keyHash P (.ofString "LISTS"), .str (.ofString "LISTS") (201 : Nat), .int 4 (200 : Nat)⟩, ⟨PySem.PyData.keyHash P (.ofString "block_size"), .str (.ofString "block_size") (208 : Nat), .ref (28 : Nat)⟩, ⟨PySem.PyData.keyHash P (.ofString "list_number"), .str (.ofString "list_number") (215 : Nat), .ref (35 : Nat)⟩, ⟨PySem.PyData.keyHash P (.ofString "Heap"), .str (.ofString "Heap") (326 : Nat), .ref (108 : Nat)⟩, ⟨PySem.PyData.keyHash P (.ofString "free_runs"), .str (.ofString "free_runs") (344 : Nat), .ref (119 : Nat)⟩, ⟨PySem.PyData.keyHash P (.ofString "sweep"), .str (.ofString "sweep") (354 : Nat), .ref (126 : Nat)⟩, ⟨PySem.PyData.keyHash P (.ofString "YardError"), .str (.ofString "YardError") (376 : Nat), .ref (136 : Nat)⟩, ⟨PySem.PyData.keyHash P (.ofString "TrapError"), .str (.ofString "TrapError") (405 : Nat), .ref (156 : Nat)⟩, ⟨PySem.PyData.keyHash P (.ofString "WORD"), .str (.ofString "WORD") (409 : Nat), .int 4294967296 (408 : Nat)⟩, ⟨PySem.PyData.keyHash P (.ofString "Memory"), .str (.ofString "Memory") (481 : Nat), .ref (210 : Nat)⟩] (22 : Nat), #[]⟩
noncomputable def ho_204 : Params → Obj := fun P => ⟨.none, none, .fields #[.int 1 (0 : Nat), .int 0 (0 : Nat), .ref (20 : Nat), .int 8 (0 : Nat), .int 0 (0 : Nat), .ref (27 : Nat), .int 10 (0 : Nat), .int 0 (0 : Nat), .ref (34 : Nat), .int 18 (0 : Nat), .int 0 (0 : Nat), .ref (41 : Nat), .int 90 (0 : Nat), .int 0 (0 : Nat), .ref (118 : Nat), .int 108 (0 : Nat), .int 0 (0 : Nat), .ref (125 : Nat), .int 115 (0 : Nat), .int 0 (0 : Nat), .ref (132 : Nat), .int 117 (0 : Nat), .int 0 (0 : Nat), .ref (145 : Nat), .int 125 (0 : Nat), .int 0 (0 : Nat), .ref (164 : Nat)], #[]⟩
noncomputable def hh46 : Params → Heap := fun P => ⟨⟨PySem.W.boot_o_0 P :: PySem.W.boot_o_1 P :: PySem.W.boot_o_2 P :: PySem.W.boot_o_3 P :: PySem.W.boot_o_4 P :: PySem.W.boot_o_5 P :: PySem.W.boot_o_6 P :: PySem.W.boot_o_7 P :: PySem.W.boot_o_8 P :: PySem.W.boot_o_9 P :: PySem.W.boot_o_10 P :: ho_43 P :: ho_44 P :: ho_45 P :: ho_46 P :: []⟩, ⟨[], [], [], (0 : Nat), [], [], .false, #[], [], (0 : Nat), .false, .false, .false, 0, [2000, 10, 10], .false, (0 : Nat), .true, [], [], (0 : Nat), .false⟩⟩
noncomputable def hh275 : Params → Heap := fun P => ⟨⟨PySem.W.boot_o_0 P :: PySem.W.boot_o_1 P :: ho_151 P :: ho_261 P :: PySem.W.boot_o_4 P :: PySem.W.boot_o_5 P :: PySem.W.boot_o_6 P :: PySem.W.boot_o_7 P :: PySem.W.boot_o_8 P :: PySem.W.boot_o_9 P :: PySem.W.boot_o_10 P :: ho_43 P :: ho_262 P :: ho_45 P :: ho_46 P :: ho_51 P :: ho_52 P :: ho_53 P :: ho_54 P :: ho_55 P :: ho_56 P :: ho_57 P :: ho_58 P :: ho_59 P :: ho_60 P :: ho_61 P :: ho_62 P :: ho_63 P :: ho_64 P :: ho_65 P :: ho_66 P :: ho_67 P :: ho_68 P :: ho_69 P :: ho_70 P :: ho_71 P :: ho_74 P :: ho_75 P :: ho_76 P :: ho_77 P :: ho_78 P :: ho_79 P :: ho_80 P :: ho_81 P :: ho_82 P :: ho_83 P :: ho_84 P :: ho_85 P :: ho_86 P :: ho_87 P :: ho_88 P :: ho_89 P :: ho_90 P :: ho_91 P :: ho_92 P :: ho_93 P :: ho_94 P :: ho_95 P :: ho_96 P :: ho_97 P :: ho_98 P :: ho_99 P :: ho_100 P :: ho_101 P :: ho_102 P :: ho_103 P :: ho_104 P :: ho_105 P :: ho_106 P :: ho_107 P :: ho_108 P :: ho_109 P :: ho_110 P :: ho_111 P :: ho_112 P :: ho_113 P :: ho_114 P :: ho_115 P :: ho_116 P :: ho_117 P :: ho_118 P :: ho_119 P :: ho_120 P :: ho_121 P :: ho_122 P :: ho_123 P :: ho_124 P :: ho_125 P :: ho_126 P :: ho_127 P :: ho_128 P :: ho_129 P :: ho_130 P :: ho_131 P :: ho_132 P :: ho_133 P :: ho_134 P :: ho_135 P :: ho_136 P :: ho_137 P :: ho_138 P :: ho_139 P :: ho_140 P :: ho_141 P :: ho_142 P :: ho_143 P :: ho_144 P :: ho_145 P :: ho_146 P :: ho_147 P :: ho_148 P :: ho_149 P :: ho_150 P :: ho_154 P :: ho_155 P :: ho_156 P :: ho_157 P :: ho_158 P :: ho_159 P :: ho_160 P :: ho_161 P :: ho_162 P :: ho_163 P :: ho_164 P :: ho_165 P :: ho_166 P :: ho_167 P :: ho_168 P :: ho_169 P :: ho_170 P :: ho_171 P :: ho_172 P :: ho_173 P :: ho_174 P :: ho_175 P :: ho_176 P :: ho_183 P :: ho_178 P :: ho_179 P :: ho_180 P :: ho_184 P :: ho_185 P :: ho_186 P :: ho_187 P :: ho_188 P :: ho_189 P :: ho_190 P :: ho_191 P :: ho_192 P :: ho_193 P :: ho_194 P :: ho_195 P :: ho_196 P :: ho_197 P :: ho_198 P :: ho_199 P :: ho_200 P :: ho_201 P :: ho_202 P :: ho_205 P :: ho_206 P :: ho_207 P :: ho_208 P :: ho_209 P :: ho_210 P :: ho_211 P :: ho_212 P :: ho_213 P :: ho_214 P :: ho_215 P :: ho_216 P :: ho_217 P :: ho_218 P :: ho_219 P :: ho_220 P :: ho_221 P :: ho_222 P :: ho_223 P :: ho_224 P :: ho_225 P :: ho_226 P :: ho_227 P :: ho_228 P :: ho_229 P :: ho_230 P :: ho_231 P :: ho_232 P :: ho_233 P :: ho_234 P :: ho_235 P :: ho_236 P :: ho_237 P :: ho_238 P :: ho_239 P :: ho_240 P :: ho_241 P :: ho_242 P :: ho_243 P :: ho_244 P :: ho_245 P :: ho_246 P :: ho_247 P :: ho_248 P :: ho_249 P :: ho_250 P :: ho_251 P :: ho_252 P :: ho_253 P :: ho_254 P :: ho_255 P :: ho_256 P :: ho_257 P :: ho_258 P :: ho_259 P :: ho_260 P :: ho_263 P :: ho_264 P :: ho_265 P :: ho_266 P :: ho_267 P :: ho_268 P :: ho_269 P :: ho_270 P :: ho_271 P :: ho_272 P :: ho_273 P :: ho_274 P :: []⟩, ⟨[], [], [], (0 : Nat), [], [], .false, #[], [], (0 : Nat), .false, .false, .false, 0, [2000, 10, 10], .false, (0 : Nat), .true, [], [], (0 : Nat), .false⟩⟩
noncomputable def ht47 : Params → BT := fun P => (.node (PySem.W.boot_o_0 P) (.node (PySem.W.boot_o_1 P) (.node (PySem.W.boot_o_3 P) (.node (PySem.W.boot_o_7 P) .nil .nil) (.node (ho_43 P) .nil .nil)) (.node (PySem.W.boot_o_5 P) (.node (PySem.W.boot_o_9 P) .nil .nil) (.node (ho_45 P) .nil .nil))) (.node (PySem.W.boot_o_2 P) (.node (PySem.W.boot_o_4 P) (.node (PySem.W.boot_o_8 P) .nil .nil) (.node (ho_44 P) .nil .nil)) (.node (PySem.W.boot_o_6 P) (.node (PySem.W.boot_o_10 P) .nil .nil) (.node (ho_46 P) .nil .nil))))
noncomputable def ht71 : Params → BT := fun P => (.node (PySem.W.boot_o_0 P) (.node (PySem.W.boot_o_1 P) (.node (ho_49 P) (.node (PySem.W.boot_o_7 P) (.node (ho_51 P) (.node (ho_67 P) .nil .nil) .nil) (.node (ho_59 P) .nil .nil)) (.node (ho_43 P) (.node (ho_55 P) (.node (ho_71 P) .nil .nil) .nil) (.node (ho_63 P) .nil .nil))) (.node (PySem.W.boot_o_5 P) (.node (PySem.W.boot_o_9 P) (.node (ho_53 P) (.node (ho_69 P) .nil .nil) .nil) (.node (ho_61 P) .nil .nil)) (.node (ho_45 P) (.node (ho_57 P) .nil .nil) (.node (ho_65 P) .nil .nil)))) (.node (PySem.W.boot_o_2 P) (.node (PySem.W.boot_o_4 P) (.node (PySem.W.boot_o_8 P) (.node (ho_52 P) (.node (ho_68 P) .nil .nil) .nil) (.node (ho_60 P) .nil .nil)) (.node (ho_50 P) (.node (ho_56 P) .nil .nil) (.node (ho_64 P) .nil .nil))) (.node (PySem.W.boot_o_6 P) (.node (PySem.W.boot_o_10 P) (.node (ho_54 P) (.node (ho_70 P) .nil .nil) .nil) (.node (ho_62 P) .nil .nil)) (.node (ho_46 P) (.node (ho_58 P) .nil .nil) (.node (ho_66 P) .nil .nil)))))
noncomputable def ht150 : Params → BT := fun P => (.node (PySem.W.boot_o_0 P) (.node (PySem.W.boot_o_1 P) (.node (ho_72 P) (.node (PySem.W.boot_o_7 P) (.node (ho_51 P) (.node (ho_67 P) (.node (ho_101 P) .nil .nil) (.node (ho_133 P) .nil .nil)) (.node (ho_85 P) (.node (ho_117 P) .nil .nil) (.node (ho_149 P) .nil .nil))) (.node (ho_59 P) (.node (ho_77 P) (.node (ho_109 P) .nil .nil) (.node (ho_141 P) .nil .nil)) (.node (ho_93 P) (.node (ho_125 P) .nil .nil) .nil))) (.node (ho_43 P) (.node (ho_55 P) (.node (ho_71 P) (.node (ho_105 P) .nil .nil) (.node (ho_137 P) .nil .nil)) (.node (ho_89 P) (.node (ho_121 P) .nil .nil) .nil)) (.node (ho_63 P) (.node (ho_81 P) (.node (ho_113 P) .nil .nil) (.node (ho_145 P) .nil .nil)) (.node (ho_97 P) (.node (ho_129 P) .nil .nil) .nil)))) (.node (PySem.W.boot_o_5 P) (.node (PySem.W.boot_o_9 P) (.node (ho_53 P) (.node (ho_69 P) (.node (ho_103 P) .nil .nil) (.node (ho_135 P) .nil .nil)) (.node (ho_87 P) (.node (ho_119 P) .nil .nil) .nil)) (.node (ho_61 P) (.node (ho_79 P) (.node (ho_111 P) .nil .nil) (.node (ho_143 P) .nil .nil)) (.node (ho_95 P) (.node (ho_127 P) .nil .nil) .nil))) (.node (ho_45 P) (.node (ho_57 P) (.node (ho_75 P) (.node (ho_107 P) .nil .nil) (.node (ho_139 P) .nil .nil)) (.node (ho_91 P) (.node (ho_123 P) .nil .nil) .nil)) (.node (ho_65 P) (.node (ho_83 P) (.node (ho_115 P) .nil .nil) (.node (ho_147 P) .nil .nil)) (.node (ho_99 P) (.node (ho_131 P) .nil .nil) .nil))))) (.node (PySem.W.boot_o_2 P) (.node (PySem.W.boot_o_4 P) (.node (PySem.W.boot_o_8 P) (.node (ho_52 P) (.node (ho_68 P) (.node (ho_102 P) .nil .nil) (.node (ho_134 P) .nil .nil)) (.node (ho_86 P) (.node (ho_118 P) .nil .nil) (.node (ho_150 P) .nil .nil))) (.node (ho_60 P) (.node (ho_78 P) (.node (ho_110 P) .nil .nil) (.node (ho_142 P) .nil .nil)) (.node (ho_94 P) (.node (ho_126 P) .nil .nil) .nil))) (.node (ho_73 P) (.node (ho_56 P) (.node (ho_74 P) (.node (ho_106 P) .nil .nil) (.node (ho_138 P) .nil .nil)) (.node (ho_90 P) (.node (ho_122 P) .nil .nil) .nil)) (.node (ho_64 P) (.node (ho_82 P) (.node (ho_114 P) .nil .nil) (.node (ho_146 P) .nil .nil)) (.node (ho_98 P) (.node (ho_130 P) .nil .nil) .nil)))) (.node (PySem.W.boot_o_6 P) (.node (PySem.W.boot_o_10 P) (.node (ho_54 P) (.node (ho_70 P) (.node (ho_104 P) .nil .nil) (.node (ho_136 P) .nil .nil)) (.node (ho_88 P) (.node (ho_120 P) .nil .nil) .nil)) (.node (ho_62 P) (.node (ho_80 P) (.node (ho_112 P) .nil .nil) (.node (ho_144 P) .nil .nil)) (.node (ho_96 P) (.node (ho_128 P) .nil .nil) .nil))) (.node (ho_46 P) (.node (ho_58 P) (.node (ho_76 P) (.node (ho_108 P) .nil .nil) (.node (ho_140 P) .nil .nil)) (.node (ho_92 P) (.node (ho_124 P) .nil .nil) .nil)) (.node (ho_66 P) (.node (ho_84 P) (.node (ho_116 P) .nil .nil) (.node (ho_148 P) .nil .nil)) (.node (ho_100 P) (.node (ho_132 P) .nil .nil) .nil))))))
noncomputable def ht180 : Params → BT := fun P => (.node (PySem.W.boot_o_0 P) (.node (PySem.W.boot_o_1 P) (.node (ho_152 P) (.node (PySem.W.boot_o_7 P) (.node (ho_51 P) (.node (ho_67 P) (.node (ho_101 P) (.node (ho_168 P) .nil .nil) .nil) (.node (ho_133 P) .nil .nil)) (.node (ho_85 P) (.node (ho_117 P) .nil .nil) (.node (ho_149 P) .nil .nil))) (.node (ho_59 P) (.node (ho_77 P) (.node (ho_109 P) (.node (ho_176 P) .nil .nil) .nil) (.node (ho_141 P) .nil .nil)) (.node (ho_93 P) (.node (ho_125 P) .nil .nil) (.node (ho_160 P) .nil .nil)))) (.node (ho_43 P) (.node (ho_55 P) (.node (ho_71 P) (.node (ho_105 P) (.node (ho_172 P) .nil .nil) .nil) (.node (ho_137 P) .nil .nil)) (.node (ho_89 P) (.node (ho_121 P) .nil .nil) (.node (ho_156 P) .nil .nil))) (.node (ho_63 P) (.node (ho_81 P) (.node (ho_113 P) (.node (ho_180 P) .nil .nil) .nil) (.node (ho_145 P) .nil .nil)) (.node (ho_97 P) (.node (ho_129 P) .nil .nil) (.node (ho_164 P) .nil .nil))))) (.node (PySem.W.boot_o_5 P) (.node (PySem.W.boot_o_9 P) (.node (ho_53 P) (.node (ho_69 P) (.node (ho_103 P) (.node (ho_170 P) .nil .nil) .nil) (.node (ho_135 P) .nil .nil)) (.node (ho_87 P) (.node (ho_119 P) .nil .nil) (.node (ho_154 P) .nil .nil))) (.node (ho_61 P) (.node (ho_79 P) (.node (ho_111 P) (.node (ho_178 P) .nil .nil) .nil) (.node (ho_143 P) .nil .nil)) (.node (ho_95 P) (.node (ho_127 P) .nil .nil) (.node (ho_162 P) .nil .nil)))) (.node (ho_45 P) (.node (ho_57 P) (.node (ho_75 P) (.node (ho_107 P) (.node (ho_174 P) .nil .nil) .nil) (.node (ho_139 P) .nil .nil)) (.node (ho_91 P) (.node (ho_123 P) .nil .nil) (.node (ho_158 P) .nil .nil))) (.node (ho_65 P) (.node (ho_83 P) (.node (ho_115 P) .nil .nil) (.node (ho_147 P) .nil .nil)) (.node (ho_99 P) (.node (ho_131 P) .nil .nil) (.node (ho_166 P) .nil .nil)))))) (.node (ho_151 P) (.node (PySem.W.boot_o_4 P) (.node (PySem.W.boot_o_8 P) (.node (ho_52 P) (.node (ho_68 P) (.node (ho_102 P) (.node (ho_169 P) .nil .nil) .nil) (.node (ho_134 P) .nil .nil)) (.node (ho_86 P) (.node (ho_118 P) .nil .nil) (.node (ho_150 P) .nil .nil))) (.node (ho_60 P) (.node (ho_78 P) (.node (ho_110 P) (.node (ho_177 P) .nil .nil) .nil) (.node (ho_142 P) .nil .nil)) (.node (ho_94 P) (.node (ho_126 P) .nil .nil) (.node (ho_161 P) .nil .nil)))) (.node (ho_153 P) (.node (ho_56 P) (.node (ho_74 P) (.node (ho_106 P) (.node (ho_173 P) .nil .nil) .nil) (.node (ho_138 P) .nil .nil)) (.node (ho_90 P) (.node (ho_122 P) .nil .nil) (.node (ho_157 P) .nil .nil))) (.node (ho_64 P) (.node (ho_82 P) (.node (ho_114 P) .nil .nil) (.node (ho_146 P) .nil .nil)) (.node (ho_98 P) (.node (ho_130 P) .nil .nil) (.node (ho_165 P) .nil .nil))))) (.node (PySem.W.boot_o_6 P) (.node (PySem.W.boot_o_10 P) (.node (ho_54 P) (.node (ho_70 P) (.node (ho_104 P) (.node (ho_171 P) .nil .nil) .nil) (.node (ho_136 P) .nil .nil)) (.node (ho_88 P) (.node (ho_120 P) .nil .nil) (.node (ho_155 P) .nil .nil))) (.node (ho_62 P) (.node (ho_80 P) (.node (ho_112 P) (.node (ho_179 P) .nil .nil) .nil) (.node (ho_144 P) .nil .nil)) (.node (ho_96 P) (.node (ho_128 P) .nil .nil) (.node (ho_163 P) .nil .nil)))) (.node (ho_46 P) (.node (ho_58 P) (.node (ho_76 P) (.node (ho_108 P) (.node (ho_175 P) .nil .nil) .nil) (.node (ho_140 P) .nil .nil)) (.node (ho_92 P) (.node (ho_124 P) .nil .nil) (.node (ho_159 P) .nil .nil))) (.node (ho_66 P) (.node (ho_84 P) (.node (ho_116 P) .nil .nil) (.node (ho_148 P) .nil .nil)) (.node (ho_100 P) (.node (ho_132 P) .nil .nil) (.node (ho_167 P) .nil .nil)))))))
noncomputable def ht202 : Params → BT := fun P => (.node (PySem.W.boot_o_0 P) (.node (PySem.W.boot_o_1 P) (.node (ho_181 P) (.node (PySem.W.boot_o_7 P) (.node (ho_51 P) (.node (ho_67 P) (.node (ho_101 P) (.node (ho_168 P) .nil .nil) .nil) (.node (ho_133 P) .nil .nil)) (.node (ho_85 P) (.node (ho_117 P) (.node (ho_187 P) .nil .nil) .nil) (.node (ho_149 P) .nil .nil))) (.node (ho_59 P) (.node (ho_77 P) (.node (ho_109 P) (.node (ho_176 P) .nil .nil) .nil) (.node (ho_141 P) .nil .nil)) (.node (ho_93 P) (.node (ho_125 P) (.node (ho_195 P) .nil .nil) .nil) (.node (ho_160 P) .nil .nil)))) (.node (ho_43 P) (.node (ho_55 P) (.node (ho_71 P) (.node (ho_105 P) (.node (ho_172 P) .nil .nil) .nil) (.node (ho_137 P) .nil .nil)) (.node (ho_89 P) (.node (ho_121 P) (.node (ho_191 P) .nil .nil) .nil) (.node (ho_156 P) .nil .nil))) (.node (ho_63 P) (.node (ho_81 P) (.node (ho_113 P) (.node (ho_180 P) .nil .nil) .nil) (.node (ho_145 P) .nil .nil)) (.node (ho_97 P) (.node (ho_129 P) (.node (ho_199 P) .nil .nil) .nil) (.node (ho_164 P) .nil .nil))))) (.node (PySem.W.boot_o_5 P) (.node (PySem.W.boot_o_9 P) (.node (ho_53 P) (.node (ho_69 P) (.node (ho_103 P) (.node (ho_170 P) .nil .nil) .nil) (.node (ho_135 P) .nil .nil)) (.node (ho_87 P) (.node (ho_119 P) (.node (ho_189 P) .nil .nil) .nil) (.node (ho_154 P) .nil .nil))) (.node (ho_61 P) (.node (ho_79 P) (.node (ho_111 P) (.node (ho_178 P) .nil .nil) .nil) (.node (ho_143 P) .nil .nil)) (.node (ho_95 P) (.node (ho_127 P) (.node (ho_197 P) .nil .nil) .nil) (.node (ho_162 P) .nil .nil)))) (.node (ho_45 P) (.node (ho_57 P) (.node (ho_75 P) (.node (ho_107 P) (.node (ho_174 P) .nil .nil) .nil) (.node (ho_139 P) .nil .nil)) (.node (ho_91 P) (.node (ho_123 P) (.node (ho_193 P) .nil .nil) .nil) (.node (ho_158 P) .nil .nil))) (.node (ho_65 P) (.node (ho_83 P) (.node (ho_115 P) (.node (ho_185 P) .nil .nil) .nil) (.node (ho_147 P) .nil .nil)) (.node (ho_99 P) (.node (ho_131 P) (.node (ho_201 P) .nil .nil) .nil) (.node (ho_166 P) .nil .nil)))))) (.node (ho_151 P) (.node (PySem.W.boot_o_4 P) (.node (PySem.W.boot_o_8 P) (.node (ho_52 P) (.node (ho_68 P) (.node (ho_102 P) (.node (ho_169 P) .nil .nil) .nil) (.node (ho_134 P) .nil .nil)) (.node (ho_86 P) (.node (ho_118 P) (.node (ho_188 P) .nil .nil) .nil) (.node (ho_150 P) .nil .nil))) (.node (ho_60 P) (.node (ho_78 P) (.node (ho_110 P) (.node (ho_183 P) .nil .nil) .nil) (.node (ho_142 P) .nil .nil)) (.node (ho_94 P) (.node (ho_126 P) (.node (ho_196 P) .nil .nil) .nil) (.node (ho_161 P) .nil .nil)))) (.node (ho_182 P) (.node (ho_56 P) (.node (ho_74 P) (.node (ho_106 P) (.node (ho_173 P) .nil .nil) .nil) (.node (ho_138 P) .nil .nil)) (.node (ho_90 P) (.node (ho_122 P) (.node (ho_192 P) .nil .nil) .nil) (.node (ho_157 P) .nil .nil))) (.node (ho_64 P) (.node (ho_82 P) (.node (ho_114 P) (.node (ho_184 P) .nil .nil) .nil) (.node (ho_146 P) .nil .nil)) (.node (ho_98 P) (.node (ho_130 P) (.node (ho_200 P) .nil .nil) .nil) (.node (ho_165 P) .nil .nil))))) (.node (PySem.W.boot_o_6 P) (.node (PySem.W.boot_o_10 P) (.node (ho_54 P) (.node (ho_70 P) (.node (ho_104 P) (.node (ho_171 P) .nil .nil) .nil) (.node (ho_136 P) .nil .nil)) (.node (ho_88 P) (.node (ho_120 P) (.node (ho_190 P) .nil .nil) .nil) (.node (ho_155 P) .nil .nil))) (.node (ho_62 P) (.node (ho_80 P) (.node (ho_112 P) (.node (ho_179 P) .nil .nil) .nil) (.node (ho_144 P) .nil .nil)) (.node (ho_96 P) (.node (ho_128 P) (.node (ho_198 P) .nil .nil) .nil) (.node (ho_163 P) .nil .nil)))) (.node (ho_46 P) (.node (ho_58 P) (.node (ho_76 P) (.node (ho_108 P) (.node (ho_175 P) .nil .nil) .nil) (.node (ho_140 P) .nil .nil)) (.node (ho_92 P) (.node (ho_124 P) (.node (ho_194 P) .nil .nil) .nil) (.node (ho_159 P) .nil .nil))) (.node (ho_66 P) (.node (ho_84 P) (.node (ho_116 P) (.node (ho_186 P) .nil .nil) .nil) (.node (ho_148 P) .nil .nil)) (.node (ho_100 P) (.node (ho_132 P) (.node (ho_202 P) .nil .nil) .nil) (.node (ho_167 P) .nil .nil)))))))
noncomputable def ht260 : Params → BT := fun P => (.node (PySem.W.boot_o_0 P) (.node (PySem.W.boot_o_1 P) (.node (ho_203 P) (.node (PySem.W.boot_o_7 P) (.node (ho_51 P) (.node (ho_67 P) (.node (ho_101 P) (.node (ho_168 P) .nil .nil) (.node (ho_237 P) .nil .nil)) (.node (ho_133 P) (.node (ho_205 P) .nil .nil) .nil)) (.node (ho_85 P) (.node (ho_117 P) (.node (ho_187 P) .nil .nil) (.node (ho_253 P) .nil .nil)) (.node (ho_149 P) (.node (ho_221 P) .nil .nil) .nil))) (.node (ho_59 P) (.node (ho_77 P) (.node (ho_109 P) (.node (ho_176 P) .nil .nil) (.node (ho_245 P) .nil .nil)) (.node (ho_141 P) (.node (ho_213 P) .nil .nil) .nil)) (.node (ho_93 P) (.node (ho_125 P) (.node (ho_195 P) .nil .nil) .nil) (.node (ho_160 P) (.node (ho_229 P) .nil .nil) .nil)))) (.node (ho_43 P) (.node (ho_55 P) (.node (ho_71 P) (.node (ho_105 P) (.node (ho_172 P) .nil .nil) (.node (ho_241 P) .nil .nil)) (.node (ho_137 P) (.node (ho_209 P) .nil .nil) .nil)) (.node (ho_89 P) (.node (ho_121 P) (.node (ho_191 P) .nil .nil) (.node (ho_257 P) .nil .nil)) (.node (ho_156 P) (.node (ho_225 P) .nil .nil) .nil))) (.node (ho_63 P) (.node (ho_81 P) (.node (ho_113 P) (.node (ho_180 P) .nil .nil) (.node (ho_249 P) .nil .nil)) (.node (ho_145 P) (.node (ho_217 P) .nil .nil) .nil)) (.node (ho_97 P) (.node (ho_129 P) (.node (ho_199 P) .nil .nil) .nil) (.node (ho_164 P) (.node (ho_233 P) .nil .nil) .nil))))) (.node (PySem.W.boot_o_5 P) (.node (PySem.W.boot_o_9 P) (.node (ho_53 P) (.node (ho_69 P) (.node (ho_103 P) (.node (ho_170 P) .nil .nil) (.node (ho_239 P) .nil .nil)) (.node (ho_135 P) (.node (ho_207 P) .nil .nil) .nil)) (.node (ho_87 P) (.node (ho_119 P) (.node (ho_189 P) .nil .nil) (.node (ho_255 P) .nil .nil)) (.node (ho_154 P) (.node (ho_223 P) .nil .nil) .nil))) (.node (ho_61 P) (.node (ho_79 P) (.node (ho_111 P) (.node (ho_178 P) .nil .nil) (.node (ho_247 P) .nil .nil)) (.node (ho_143 P) (.node (ho_215 P) .nil .nil) .nil)) (.node (ho_95 P) (.node (ho_127 P) (.node (ho_197 P) .nil .nil) .nil) (.node (ho_162 P) (.node (ho_231 P) .nil .nil) .nil)))) (.node (ho_45 P) (.node (ho_57 P) (.node (ho_75 P) (.node (ho_107 P) (.node (ho_174 P) .nil .nil) (.node (ho_243 P) .nil .nil)) (.node (ho_139 P) (.node (ho_211 P) .nil .nil) .nil)) (.node (ho_91 P) (.node (ho_123 P) (.node (ho_193 P) .nil .nil) (.node (ho_259 P) .nil .nil)) (.node (ho_158 P) (.node (ho_227 P) .nil .nil) .nil))) (.node (ho_65 P) (.node (ho_83 P) (.node (ho_115 P) (.node (ho_185 P) .nil .nil) (.node (ho_251 P) .nil .nil)) (.node (ho_147 P) (.node (ho_219 P) .nil .nil) .nil)) (.node (ho_99 P) (.node (ho_131 P) (.node (ho_201 P) .nil .nil) .nil) (.node (ho_166 P) (.node (ho_235 P) .nil .nil) .nil)))))) (.node (ho_151 P) (.node (PySem.W.boot_o_4 P) (.node (PySem.W.boot_o_8 P) (.node (ho_52 P) (.node (ho_68 P) (.node (ho_102 P) (.node (ho_169 P) .nil .nil) (.node (ho_238 P) .nil .nil)) (.node (ho_134 P) (.node (ho_206 P) .nil .nil) .nil)) (.node (ho_86 P) (.node (ho_118 P) (.node (ho_188 P) .nil .nil) (.node (ho_254 P) .nil .nil)) (.node (ho_150 P) (.node (ho_222 P) .nil .nil) .nil))) (.node (ho_60 P) (.node (ho_78 P) (.node (ho_110 P) (.node (ho_183 P) .nil .nil) (.node (ho_246 P) .nil .nil)) (.node (ho_142 P) (.node (ho_214 P) .nil .nil) .nil)) (.node (ho_94 P) (.node (ho_126 P) (.node (ho_196 P) .nil .nil) .nil) (.node (ho_161 P) (.node (ho_230 P) .nil .nil) .nil)))) (.node (ho_204 P) (.node (ho_56 P) (.node (ho_74 P) (.node (ho_106 P) (.node (ho_173 P) .nil .nil) (.node (ho_242 P) .nil .nil)) (.node (ho_138 P) (.node (ho_210 P) .nil .nil) .nil)) (.node (ho_90 P) (.node (ho_122 P) (.node (ho_192 P) .nil .nil) (.node (ho_258 P) .nil .nil)) (.node (ho_157 P) (.node (ho_226 P) .nil .nil) .nil))) (.node (ho_64 P) (.node (ho_82 P) (.node (ho_114 P) (.node (ho_184 P) .nil .nil) (.node (ho_250 P) .nil .nil)) (.node (ho_146 P) (.node (ho_218 P) .nil .nil) .nil)) (.node (ho_98 P) (.node (ho_130 P) (.node (ho_200 P) .nil .nil) .nil) (.node (ho_165 P) (.node (ho_234 P) .nil .nil) .nil))))) (.node (PySem.W.boot_o_6 P) (.node (PySem.W.boot_o_10 P) (.node (ho_54 P) (.node (ho_70 P) (.node (ho_104 P) (.node (ho_171 P) .nil .nil) (.node (ho_240 P) .nil .nil)) (.node (ho_136 P) (.node (ho_208 P) .nil .nil) .nil)) (.node (ho_88 P) (.node (ho_120 P) (.node (ho_190 P) .nil .nil) (.node (ho_256 P) .nil .nil)) (.node (ho_155 P) (.node (ho_224 P) .nil .nil) .nil))) (.node (ho_62 P) (.node (ho_80 P) (.node (ho_112 P) (.node (ho_179 P) .nil .nil) (.node (ho_248 P) .nil .nil)) (.node (ho_144 P) (.node (ho_216 P) .nil .nil) .nil)) (.node (ho_96 P) (.node (ho_128 P) (.node (ho_198 P) .nil .nil) .nil) (.node (ho_163 P) (.node (ho_232 P) .nil .nil) .nil)))) (.node (ho_46 P) (.node (ho_58 P) (.node (ho_76 P) (.node (ho_108 P) (.node (ho_175 P) .nil .nil) (.node (ho_244 P) .nil .nil)) (.node (ho_140 P) (.node (ho_212 P) .nil .nil) .nil)) (.node (ho_92 P) (.node (ho_124 P) (.node (ho_194 P) .nil .nil) (.node (ho_260 P) .nil .nil)) (.node (ho_159 P) (.node (ho_228 P) .nil .nil) .nil))) (.node (ho_66 P) (.node (ho_84 P) (.node (ho_116 P) (.node (ho_186 P) .nil .nil) (.node (ho_252 P) .nil .nil)) (.node (ho_148 P) (.node (ho_220 P) .nil .nil) .nil)) (.node (ho_100 P) (.node (ho_132 P) (.node (ho_202 P) .nil .nil) .nil) (.node (ho_167 P) (.node (ho_236 P) .nil .nil) .nil)))))))
noncomputable def ht274 : Params → BT := fun P => (.node (PySem.W.boot_o_0 P) (.node (PySem.W.boot_o_1 P) (.node (ho_261 P) (.node (PySem.W.boot_o_7 P) (.node (ho_51 P) (.node (ho_67 P) (.node (ho_101 P) (.node (ho_168 P) .nil .nil) (.node (ho_237 P) .nil .nil)) (.node (ho_133 P) (.node (ho_205 P) .nil .nil) (.node (ho_271 P) .nil .nil))) (.node (ho_85 P) (.node (ho_117 P) (.node (ho_187 P) .nil .nil) (.node (ho_253 P) .nil .nil)) (.node (ho_149 P) (.node (ho_221 P) .nil .nil) .nil))) (.node (ho_59 P) (.node (ho_77 P) (.node (ho_109 P) (.node (ho_176 P) .nil .nil) (.node (ho_245 P) .nil .nil)) (.node (ho_141 P) (.node (ho_213 P) .nil .nil) .nil)) (.node (ho_93 P) (.node (ho_125 P) (.node (ho_195 P) .nil .nil) (.node (ho_263 P) .nil .nil)) (.node (ho_160 P) (.node (ho_229 P) .nil .nil) .nil)))) (.node (ho_43 P) (.node (ho_55 P) (.node (ho_71 P) (.node (ho_105 P) (.node (ho_172 P) .nil .nil) (.node (ho_241 P) .nil .nil)) (.node (ho_137 P) (.node (ho_209 P) .nil .nil) .nil)) (.node (ho_89 P) (.node (ho_121 P) (.node (ho_191 P) .nil .nil) (.node (ho_257 P) .nil .nil)) (.node (ho_156 P) (.node (ho_225 P) .nil .nil) .nil))) (.node (ho_63 P) (.node (ho_81 P) (.node (ho_113 P) (.node (ho_180 P) .nil .nil) (.node (ho_249 P) .nil .nil)) (.node (ho_145 P) (.node (ho_217 P) .nil .nil) .nil)) (.node (ho_97 P) (.node (ho_129 P) (.node (ho_199 P) .nil .nil) (.node (ho_267 P) .nil .nil)) (.node (ho_164 P) (.node (ho_233 P) .nil .nil) .nil))))) (.node (PySem.W.boot_o_5 P) (.node (PySem.W.boot_o_9 P) (.node (ho_53 P) (.node (ho_69 P) (.node (ho_103 P) (.node (ho_170 P) .nil .nil) (.node (ho_239 P) .nil .nil)) (.node (ho_135 P) (.node (ho_207 P) .nil .nil) (.node (ho_273 P) .nil .nil))) (.node (ho_87 P) (.node (ho_119 P) (.node (ho_189 P) .nil .nil) (.node (ho_255 P) .nil .nil)) (.node (ho_154 P) (.node (ho_223 P) .nil .nil) .nil))) (.node (ho_61 P) (.node (ho_79 P) (.node (ho_111 P) (.node (ho_178 P) .nil .nil) (.node (ho_247 P) .nil .nil)) (.node (ho_143 P) (.node (ho_215 P) .nil .nil) .nil)) (.node (ho_95 P) (.node (ho_127 P) (.node (ho_197 P) .nil .nil) (.node (ho_265 P) .nil .nil)) (.node (ho_162 P) (.node (ho_231 P) .nil .nil) .nil)))) (.node (ho_45 P) (.node (ho_57 P) (.node (ho_75 P) (.node (ho_107 P) (.node (ho_174 P) .nil .nil) (.node (ho_243 P) .nil .nil)) (.node (ho_139 P) (.node (ho_211 P) .nil .nil) .nil)) (.node (ho_91 P) (.node (ho_123 P) (.node (ho_193 P) .nil .nil) (.node (ho_259 P) .nil .nil)) (.node (ho_158 P) (.node (ho_227 P) .nil .nil) .nil))) (.node (ho_65 P) (.node (ho_83 P) (.node (ho_115 P) (.node (ho_185 P) .nil .nil) (.node (ho_251 P) .nil .nil)) (.node (ho_147 P) (.node (ho_219 P) .nil .nil) .nil)) (.node (ho_99 P) (.node (ho_131 P) (.node (ho_201 P) .nil .nil) (.node (ho_269 P) .nil .nil)) (.node (ho_166 P) (.node (ho_235 P) .nil .nil) .nil)))))) (.node (ho_151 P) (.node (PySem.W.boot_o_4 P) (.node (PySem.W.boot_o_8 P) (.node (ho_52 P) (.node (ho_68 P) (.node (ho_102 P) (.node (ho_169 P) .nil .nil) (.node (ho_238 P) .nil .nil)) (.node (ho_134 P) (.node (ho_206 P) .nil .nil) (.node (ho_272 P) .nil .nil))) (.node (ho_86 P) (.node (ho_118 P) (.node (ho_188 P) .nil .nil) (.node (ho_254 P) .nil .nil)) (.node (ho_150 P) (.node (ho_222 P) .nil .nil) .nil))) (.node (ho_60 P) (.node (ho_78 P) (.node (ho_110 P) (.node (ho_183 P) .nil .nil) (.node (ho_246 P) .nil .nil)) (.node (ho_142 P) (.node (ho_214 P) .nil .nil) .nil)) (.node (ho_94 P) (.node (ho_126 P) (.node (ho_196 P) .nil .nil) (.node (ho_264 P) .nil .nil)) (.node (ho_161 P) (.node (ho_230 P) .nil .nil) .nil)))) (.node (ho_262 P) (.node (ho_56 P) (.node (ho_74 P) (.node (ho_106 P) (.node (ho_173 P) .nil .nil) (.node (ho_242 P) .nil .nil)) (.node (ho_138 P) (.node (ho_210 P) .nil .nil) .nil)) (.node (ho_90 P) (.node (ho_122 P) (.node (ho_192 P) .nil .nil) (.node (ho_258 P) .nil .nil)) (.node (ho_157 P) (.node (ho_226 P) .nil .nil) .nil))) (.node (ho_64 P) (.node (ho_82 P) (.node (ho_114 P) (.node (ho_184 P) .nil .nil) (.node (ho_250 P) .nil .nil)) (.node (ho_146 P) (.node (ho_218 P) .nil .nil) .nil)) (.node (ho_98 P) (.node (ho_130 P) (.node (ho_200 P) .nil .nil) (.node (ho_268 P) .nil .nil)) (.node (ho_165 P) (.node (ho_234 P) .nil .nil) .nil))))) (.node (PySem.W.boot_o_6 P) (.node (PySem.W.boot_o_10 P) (.node (ho_54 P) (.node (ho_70 P) (.node (ho_104 P) (.node (ho_171 P) .nil .nil) (.node (ho_240 P) .nil .nil)) (.node (ho_136 P) (.node (ho_208 P) .nil .nil) (.node (ho_274 P) .nil .nil))) (.node (ho_88 P) (.node (ho_120 P) (.node (ho_190 P) .nil .nil) (.node (ho_256 P) .nil .nil)) (.node (ho_155 P) (.node (ho_224 P) .nil .nil) .nil))) (.node (ho_62 P) (.node (ho_80 P) (.node (ho_112 P) (.node (ho_179 P) .nil .nil) (.node (ho_248 P) .nil .nil)) (.node (ho_144 P) (.node (ho_216 P) .nil .nil) .nil)) (.node (ho_96 P) (.node (ho_128 P) (.node (ho_198 P) .nil .nil) (.node (ho_266 P) .nil .nil)) (.node (ho_163 P) (.node (ho_232 P) .nil .nil) .nil)))) (.node (ho_46 P) (.node (ho_58 P) (.node (ho_76 P) (.node (ho_108 P) (.node (ho_175 P) .nil .nil) (.node (ho_244 P) .nil .nil)) (.node (ho_140 P) (.node (ho_212 P) .nil .nil) .nil)) (.node (ho_92 P) (.node (ho_124 P) (.node (ho_194 P) .nil .nil) (.node (ho_260 P) .nil .nil)) (.node (ho_159 P) (.node (ho_228 P) .nil .nil) .nil))) (.node (ho_66 P) (.node (ho_84 P) (.node (ho_116 P) (.node (ho_186 P) .nil .nil) (.node (ho_252 P) .nil .nil)) (.node (ho_148 P) (.node (ho_220 P) .nil .nil) .nil)) (.node (ho_100 P) (.node (ho_132 P) (.node (ho_202 P) .nil .nil) (.node (ho_270 P) .nil .nil)) (.node (ho_167 P) (.node (ho_236 P) .nil .nil) .nil)))))))

noncomputable def en : Env := { scope := pw.main.scope, locals := mainNs, globals := mainNs, cells := [], code := .ref 13, frame := some 14 }
noncomputable def cB : Code := .body (behindTheImports pw) en
noncomputable def z0 : Pos := ⟨0, 0, 0, 0⟩
noncomputable def st (i n : Nat) : List Stmt := (pw.main.body.drop i).take n
theorem go0 (w : World) (os : OsState) : topGo treeTable pw w 11 (some (.ref 6)) 12 ⟨boot_heap w.params, Array.mk [], boot_drawn, boot_toks, os⟩ (topStub pw) = some (⟨hh46 w.params, Array.mk [], {}, 187, os⟩, ⟨denote treeTable cB, cB, z0, [topFrame z0]⟩) := by
  rw [PySem.W.Fast.te15667345088766844465, PySem.W.Fast.te11892475500146522536, PySem.W.Fast.te14364793385576792824]
  kernel_rfl
theorem go1 (w : World) (os : OsState) : segRun treeTable pw w 11 (some (.ref 6)) 1 1 ⟨hh46 w.params, Array.mk [], {}, 187, os⟩ (blockOf (behindTheImports pw) en cB z0 [topFrame z0]) = some (.next, SharedT.abs ⟨ht47 w.params, 15, {}, Array.mk [], {}, 187, os⟩, cB, z0) := by
  rw [PySem.W.Fast.te14374325043358763698, PySem.W.Fast.te14364793385576792824]
  kernel_rfl
theorem pc0 (w : World) (os : OsState) : segRunT treeTable pw w 11 (some (.ref 6)) 1 124 ⟨ht47 w.params, 15, {}, Array.mk [], {}, 187, os⟩ (piecesOf (st 0 7) en cB ⟨0, 0, 0, 0⟩ [topFrame z0]) = some (.next, ⟨ht71 w.params, 36, {}, Array.mk [], {}, 216, os⟩, cB, ⟨10, 0, 17, 12⟩) := by
  rw [PySem.W.Fast.te10110043849684766642, PySem.W.Fast.te14364793385576792824]
  kernel_rfl
theorem pc1 (w : World) (os : OsState) : segRunT treeTable pw w 11 (some (.ref 6)) 1 497 ⟨ht71 w.params, 36, {}, Array.mk [], {}, 216, os⟩ (piecesOf (st 7 1) en cB ⟨10, 0, 17, 12⟩ [topFrame z0]) = some (.next, ⟨ht150 w.params, 113, {}, Array.mk [], {}, 327, os⟩, cB, ⟨18, 0, 88, 16⟩) := by
  rw [PySem.W.Fast.te10110043849684766642, PySem.W.Fast.te14364793385576792824]
  kernel_rfl
theorem pc2 (w : World) (os : OsState) : segRunT treeTable pw w 11 (some (.ref 6)) 1 285 ⟨ht150 w.params, 113, {}, Array.mk [], {}, 327, os⟩ (piecesOf (st 8 5) en cB ⟨18, 0, 88, 16⟩ [topFrame z0]) = some (.next, ⟨ht180 w.params, 140, {}, Array.mk [], {}, 377, os⟩, cB, ⟨115, 0, 116, 8⟩) := by
  rw [PySem.W.Fast.te10110043849684766642, PySem.W.Fast.te14364793385576792824]
  kernel_rfl
theorem pc3 (w : World) (os : OsState) : segRunT treeTable pw w 11 (some (.ref 6)) 1 268 ⟨ht180 w.params, 140, {}, Array.mk [], {}, 377, os⟩ (piecesOf (st 13 3) en cB ⟨115, 0, 116, 8⟩ [topFrame z0]) = some (.next, ⟨ht202 w.params, 159, {}, Array.mk [], {}, 410, os⟩, cB, ⟨124, 0, 124, 4⟩) := by
  rw [PySem.W.Fast.te10110043849684766642, PySem.W.Fast.te14364793385576792824]
  kernel_rfl
theorem pc4 (w : World) (os : OsState) : segRunT treeTable pw w 11 (some (.ref 6)) 1 395 ⟨ht202 w.params, 159, {}, Array.mk [], {}, 410, os⟩ (piecesOf (st 16 2) en cB ⟨124, 0, 124, 4⟩ [topFrame z0]) = some (.next, ⟨ht260 w.params, 215, {}, Array.mk [], {}, 484, os⟩, cB, ⟨147, 0, 147, 8⟩) := by
  rw [PySem.W.Fast.te10110043849684766642, PySem.W.Fast.te14364793385576792824]
  kernel_rfl
theorem pc5 (w : World) (os : OsState) : segRunT treeTable pw w 11 (some (.ref 6)) 1 58 ⟨ht260 w.params, 215, {}, Array.mk [], {}, 484, os⟩ (piecesOf (st 18 2) en cB ⟨147, 0, 147, 8⟩ [topFrame z0]) = some (.next, ⟨ht274 w.params, 227, {}, Array.mk [], {}, 499, os⟩, cB, ⟨156, 0, 183, 92⟩) := by
  rw [PySem.W.Fast.te10110043849684766642, PySem.W.Fast.te14364793385576792824]
  kernel_rfl
theorem fin0 (w : World) (os : OsState) : topRun treeTable pw w 11 (some (.ref 6)) 2 (SharedT.abs ⟨ht274 w.params, 227, {}, Array.mk [], {}, 499, os⟩) ⟨doneF .next, cB, ⟨156, 0, 183, 92⟩, [topFrame z0]⟩ = some ⟨hh275 w.params, Array.mk [], {}, 499, os⟩ := by
  rw [PySem.W.Fast.te14082659384304107361, PySem.W.Fast.te14364793385576792824]
  kernel_rfl
theorem body0 : behindTheImports pw = ((st 0 7) ++ ((st 7 1) ++ ((st 8 5) ++ ((st 13 3) ++ ((st 16 2) ++ ((st 18 2) ++ [])))))) := by kernel_rfl
theorem run0 (w : World) (os : OsState) : topRun treeTable pw w 11 (some (.ref 6)) 1642 ⟨boot_heap w.params, Array.mk [], boot_drawn, boot_toks, os⟩ (topStub pw) = some ⟨hh275 w.params, Array.mk [], {}, 499, os⟩ := by
  have k6 := fin0 w os
  have k6 := piece_nil (env := en) k6
  have k5 := piece_app (l := (st 18 2)) (rest := []) (segRun_of (pc5 w os)) k6
  have k4 := piece_app (l := (st 16 2)) (rest := ((st 18 2) ++ [])) (segRun_of (pc4 w os)) k5
  have k3 := piece_app (l := (st 13 3)) (rest := ((st 16 2) ++ ((st 18 2) ++ []))) (segRun_of (pc3 w os)) k4
  have k2 := piece_app (l := (st 8 5)) (rest := ((st 13 3) ++ ((st 16 2) ++ ((st 18 2) ++ [])))) (segRun_of (pc2 w os)) k3
  have k1 := piece_app (l := (st 7 1)) (rest := ((st 8 5) ++ ((st 13 3) ++ ((st 16 2) ++ ((st 18 2) ++ []))))) (segRun_of (pc1 w os)) k2
  have k0 := piece_app (l := (st 0 7)) (rest := ((st 7 1) ++ ((st 8 5) ++ ((st 13 3) ++ ((st 16 2) ++ ((st 18 2) ++ [])))))) (segRun_of (pc0 w os)) k1
  rw [← body0] at k0
  exact go_top (go0 w os) (piece_block (go1 w os) k0)
theorem size0 (w : World) : ((boot_heap w.params).isNs mainGlobals && (Array.mk [] : Array GenState).size == 0, (boot_heap w.params).objs.size, (boot_heap w.params).nsMap mainGlobals "__annotations__") = (true, 11, some (.ref 6)) := by
  rw [PySem.W.Fast.te8920871248978507458]
  kernel_rfl
theorem lookA (w : World) (os : OsState) : (staticsOk (importedModules pw.main.body) (boot_heap w.params) (hh275 w.params) && namesBound pw (hh275 w.params) && gensDone ⟨hh275 w.params, Array.mk [], {}, 499, os⟩ && laidKept (boot_heap w.params) (hh275 w.params)) = true := by
  kernel_rfl
theorem lookB (w : World) (os : OsState) : openSeen qv [] (importedModules pw.main.body) X0 true ⟨hh275 w.params, Array.mk [], {}, 499, os⟩ = openGood qv [] := by
  rw [PySem.W.Fast.te4187177175401517315]
  kernel_rfl
theorem lookC (w : World) (os : OsState) : H0.obs ⟨hh275 w.params, Array.mk [], {}, 499, os⟩ = H0.val w := by
  kernel_rfl
theorem boot0 : ∀ w : World, (fencedOpening treeTable pw w 3368).map (fun s => (s.heap, s.gens, s.drawn, s.toks)) = some (boot_heap w.params, Array.mk [], boot_drawn, boot_toks) :=
  boot_open (by kernel_rfl) (by decide +kernel) (fun s => by kernel_rfl)
theorem left0 : LeftO PySem.Challenge.rw_pb0333_01.row.prog qv [] X0 H0.obs H0.val 3368 :=
  LeftO.of_pieces (p := pw) (H₀ := boot_heap) (H₁ := hh275) (M := 1642) boot0 size0 run0 (by decide +kernel) fun w => funext fun os => looks_pair (lookA w os) (looks_pair (lookB w os) (lookC w os))
theorem said0 : PySem.Challenge.rw_pb0333_01.wellSaid = true := by
  rw [PySem.W.Fast.te9446332074065402090]
  kernel_rfl

/-! the memory's dict as a function from word numbers to words -/
noncomputable def IsW (w : World) (o : Obj) (c : List (Int × Int)) : Prop :=
  ∃ kvs, o.IsDictOf (intKind PySem.Challenge.rw_pb0333_01.row.prog w) kvs ∧ FlatPairs PyData.int kvs (kdfD c)
noncomputable def WOk (c : List (Int × Int)) : Prop := (c.map (·.1)).Nodup ∧ ∀ p ∈ c, 0 ≤ p.1 ∧ p.1 < 1024
noncomputable def upd (M : Int → Int) (k v : Int) : Int → Int := fun j => if j = k then v else M j
theorem kdf_keys_put (c : List (Int × Int)) (k v : Int) : (kdfPut c k v).map (·.1) = if k ∈ c.map (·.1) then c.map (·.1) else c.map (·.1) ++ [k] := by
  unfold kdfPut
  by_cases h : (c.any fun p => decide (p.1 = k)) = true
  · have h' : k ∈ c.map (·.1) := by
      obtain ⟨p, hp, e⟩ := List.any_eq_true.mp h
      exact List.mem_map.mpr ⟨p, hp, of_decide_eq_true e⟩
    rw [if_pos h, if_pos h', List.map_map]
    refine List.map_congr_left fun p _ => ?_
    show (if decide (p.1 = k) = true then (p.1, v) else p).1 = p.1
    split <;> rfl
  · have h' : k ∉ c.map (·.1) := by
      intro q
      obtain ⟨p, hp, e⟩ := List.mem_map.mp q
      exact h (List.any_eq_true.mpr ⟨p, hp, decide_eq_true e⟩)
    rw [if_neg h, if_neg h', List.map_append]
    rfl
theorem WOk.put {c : List (Int × Int)} {k v : Int} (h : WOk c) (h0 : 0 ≤ k) (h1 : k < 1024) : WOk (kdfPut c k v) := by
  refine ⟨?_, fun p hp => ?_⟩
  · rw [kdf_keys_put]
    split
    · exact h.1
    · rename_i hk
      refine List.nodup_append.mpr ⟨h.1, by simp, ?_⟩
      intro a ha b hb e
      rw [List.mem_singleton.mp hb] at e
      exact hk (e ▸ ha)
  · have hm : p.1 ∈ (kdfPut c k v).map (·.1) := List.mem_map.mpr ⟨p, hp, rfl⟩
    rw [kdf_keys_put] at hm
    have key : p.1 ∈ c.map (·.1) → 0 ≤ p.1 ∧ p.1 < 1024 := fun q => by
      obtain ⟨q', hq, e⟩ := List.mem_map.mp q
      have := h.2 q' hq
      rw [show q'.1 = p.1 from e] at this
      exact this
    split at hm
    · exact key hm
    · rcases List.mem_append.mp hm with q | q
      · exact key q
      · rw [List.mem_singleton.mp q]; exact ⟨h0, h1⟩
theorem WOk.len {c : List (Int × Int)} (h : WOk c) : c.length ≤ 1024 := by
  have h1 : (c.map (·.1)).length ≤ ((List.range 1024).map (fun n : Nat => (n : Int))).length := by
    refine List.Nodup.length_le_of_subset h.1 fun x hx => ?_
    obtain ⟨p, hp, e⟩ := List.mem_map.mp hx
    have := h.2 p hp
    have e : p.1 = x := e
    refine List.mem_map.mpr ⟨x.toNat, List.mem_range.mpr (by omega), by omega⟩
  simpa using h1
theorem WOk.nil : WOk [] := ⟨List.nodup_nil, fun _ h => nomatch h⟩
theorem look_put (c : List (Int × Int)) (k v j d : Int) : kdfLook (kdfPut c k v) j d = if j = k then v else kdfLook c j d := by
  unfold kdfPut kdfLook
  by_cases h : (c.any fun p => decide (p.1 = k)) = true
  · rw [if_pos h]
    induction c with
    | nil => simp at h
    | cons p c ih =>
      rw [List.map_cons, List.find?_cons]
      by_cases hp : p.1 = k
      · by_cases hj : j = k
        · subst hj; simp [hp]
        · have hpj : ¬ p.1 = j := fun e => hj (e.symm.trans hp)
          simp only [hp, decide_true, if_true, List.find?_cons]
          have hkj : ¬ k = j := fun e => hj e.symm
          simp only [hkj, decide_false, if_neg hj]
          by_cases h2 : (c.any fun p => decide (p.1 = k)) = true
          · rw [ih h2, if_neg hj]
          · have : ∀ q ∈ c, ¬ q.1 = k := fun q hq e => h2 (List.any_eq_true.mpr ⟨q, hq, decide_eq_true e⟩)
            have e : (c.map fun p => if decide (p.1 = k) = true then (p.1, v) else p) = c := by
              conv => rhs; rw [← List.map_id c]
              refine List.map_congr_left fun q hq => ?_
              simp [this q hq]
            rw [e]
      · have h2 : (c.any fun p => decide (p.1 = k)) = true := by
          rw [List.any_cons] at h
          simpa [hp] using h
        simp only [hp, decide_false, Bool.false_eq_true, if_false, List.find?_cons]
        by_cases hj : p.1 = j
        · have hjk : ¬ j = k := fun e => hp (hj.trans e)
          simp [hj, hjk]
        · simp only [hj, decide_false]
          exact ih h2
  · rw [if_neg h, List.find?_append]
    have hk : c.find? (fun p => decide (p.1 = k)) = none := by
      refine List.find?_eq_none.mpr fun q hq e => h (List.any_eq_true.mpr ⟨q, hq, e⟩)
    by_cases hj : j = k
    · subst hj; simp [hk]
    · have hkj : ¬ k = j := fun e => hj e.symm
      simp [hj, hkj]
/-- the dict object o holds the words M -/
noncomputable def MemIs (w : World) (o : Obj) (M : Int → Int) : Prop := ∃ c, IsW w o c ∧ WOk c ∧ ∀ j, kdfLook c j 0 = M j

/-- entries of a Memory's dict -/
abbrev memEs (h1 h2 : Int) (t1 t2 t3 : Tok) (wd : Addr) : List DictEntry :=
  [⟨h1, .str (Str.ofString "size") t1, .int 4096 t2⟩, ⟨h2, .str (Str.ofString "words") t3, .ref wd⟩]

theorem fill0 (w : World) (h : Heap) : (K0 w.params).In h → model PySem.Challenge.rw_pb0333_01.row.prog w = model PySem.Challenge.rw_pb0333_01.row.prog w := by
  k_fill
  intro _; rfl
section
local macro_rules | `(tactic| k_updF) => `(tactic| assumption)
-- the frame's room and the C units at a call
section
local macro_rules | `(tactic| walk_at "mine room") => `(tactic| (
  (case kB => first | k_asm | ktn_no "mine: the frames below");
  (case kF => first | k_asm | ktn_no "mine: the frame");
  (case kX => first | k_asm | ktn_no "mine: the written part");
  (case kN => first | k_asm | ktn_no "mine: the ledger");
  (case kT => first | k_asm | ktn_no "mine: the top's facts");
  (case kK => first | exact rfl | assumption | ktn_no "mine: the caller is no def");
  (case kD => first | ktr_room | ktn_no "mine: the frames' room");
  (case kU => first | ktr_units | ktn_no "mine: the C units")))

theorem calmC1 : True := by
  w_top off
  trivial
section
variable {w : World} {p : Program} {loose : List Str} {mean : ExcName → Option Value} {mg mb : Str → Option Value}
  {dp un : Nat} {gd : Option (List Code)} {cn : Str} {cs : Scope} {a : Addr} {ccd : Value} {cl : List (Str × Addr)} {outer : List Env} {A₀ : Around} {base h₀ : Heap} {L : Addr} {m : Str → Option Value} {s : Shared} {Q E : Value → Shared → Prop}
  {news : List (Addr × Obj)} {ms md wd : Addr} {h1 h2 : Int} {t1 t2 t3 : Tok} {ow : Obj} {M : Int → Int}

theorem place_c {adr : Int} {ta : Tok} (B : Below A₀ base outer h₀) (F : Fr h₀ L s.heap m) (X : (K0 w.params).In h₀) (N : News h₀ L s.heap news) (T : Top p loose mean mg mb h₀) (hk : cs.kind = .function)
    (hdp : dp + 1 < recursionLimit) (hu : un + 8 < cLine)
    (hms : (ms, instObj 210 md) ∈ news) (hmd : (md, dictOf (memEs h1 h2 t1 t2 t3 wd) 2) ∈ news)
    (ha0 : 0 ≤ adr) (ha1 : adr < 4096)
    (hret : ∀ (t : Tok) (h' : Heap) (tk' : Nat), Fr h₀ L h' m → News h₀ L h' news → Q (.int (adr / 4) t) { s with heap := h', toks := tk' }) :
    wpAny (model PySem.Challenge.rw_pb0333_01.row.prog w) (ktrTop dp un gd cn cs L a ccd cl outer) (call (.ref 179) [.ref ms, .int adr ta]) Q E s := by
  refine wpAny_call ?_
  k_dflt cell_enter
  k_steps
  all_goals (
    rw [Int.fdiv_eq_ediv_of_nonneg _ (by decide)]
    exact hret _ _ _ (by assumption) (by assumption))
local macro_rules | `(tactic| walk_at "call ref") => `(tactic| ((with_reducible show wpAny _ _ (call (Value.ref 179) _) _ _ _); k_dflt (refine' place_c ?kB ?kF ?kX ?kN ?kT ?kK ?kD ?kU ?m1 ?m2 ?a0 ?a1 ?_; walk_at "mine room"; (case m1 => k_mem); (case m2 => k_mem); (case a0 => first | assumption | omega); (case a1 => first | assumption | omega); intro t9 h9 tk9 F9 N9; (try dsimp only); (try k_fold))))

theorem word_c {adr : Int} {ta : Tok} (B : Below A₀ base outer h₀) (F : Fr h₀ L s.heap m) (X : (K0 w.params).In h₀) (N : News h₀ L s.heap news) (T : Top p loose mean mg mb h₀) (hk : cs.kind = .function)
    (hdp : dp + 2 < recursionLimit) (hu : un + 16 < cLine)
    (hms : (ms, instObj 210 md) ∈ news) (hmd : (md, dictOf (memEs h1 h2 t1 t2 t3 wd) 2) ∈ news)
    (lo : (wd == sysModules) = false) (hw : (wd, ow) ∈ news) (hM : MemIs w ow M)
    (ha0 : 0 ≤ adr) (ha1 : adr < 4096)
    (hret : ∀ (t : Tok) (h' : Heap) (tk' : Nat), Fr h₀ L h' m → News h₀ L h' news → Q (.int (M (adr / 4)) t) { s with heap := h', toks := tk' }) :
    wpAny (model PySem.Challenge.rw_pb0333_01.row.prog w) (ktrTop dp un gd cn cs L a ccd cl outer) (call (.ref 186) [.ref ms, .int adr ta]) Q E s := by
  obtain ⟨c, ⟨kvs, hdw, hfw⟩, hok, hlook⟩ := hM
  refine wpAny_call ?_
  k_dflt cell_enter
  k_steps
  all_goals (
    rw [hlook]
    exact hret _ _ _ (by assumption) (by assumption))

theorem put_word_c {g : Obj → List (Addr × Obj)} {adr v : Int} {ta tv : Tok} (B : Below A₀ base outer h₀) (F : Fr h₀ L s.heap m) (X : (K0 w.params).In h₀) (N : News h₀ L s.heap news) (T : Top p loose mean mg mb h₀) (hk : cs.kind = .function)
    (hdp : dp + 2 < recursionLimit) (hu : un + 16 < cLine)
    (hms : (ms, instObj 210 md) ∈ news) (hmd : (md, dictOf (memEs h1 h2 t1 t2 t3 wd) 2) ∈ news)
    (lo : (wd == sysModules) = false) (U : UpdF wd ow news g) (hM : MemIs w ow M)
    (ha0 : 0 ≤ adr) (ha1 : adr < 4096) (hv0 : 0 ≤ v) (hv1 : v < 4294967296)
    (hret : ∀ (h' : Heap) (tk' : Nat) (o' : Obj), Fr h₀ L h' m → News h₀ L h' (g o') → MemIs w o' (upd M (adr / 4) v) → Q .none { s with heap := h', toks := tk' }) :
    wpAny (model PySem.Challenge.rw_pb0333_01.row.prog w) (ktrTop dp un gd cn cs L a ccd cl outer) (call (.ref 193) [.ref ms, .int adr ta, .int v tv]) Q E s := by
  obtain ⟨c, ⟨kvs, hdw, hfw⟩, hok, hlook⟩ := hM
  have hlen : c.length ≤ 16777216 := by have := hok.len; omega
  refine wpAny_call ?_
  k_dflt cell_enter
  k_steps
  all_goals (
    (rename FlatPairs PyData.int _ (kdfD (kdfPut _ _ _)) => hf9)
    have hv : v.fmod 4294967296 = v := by
      rw [Int.fmod_eq_emod_of_nonneg _ (by decide)]
      omega
    rw [hv] at hf9
    refine hret _ _ _ (by assumption) (by assumption) ⟨kdfPut c (adr / 4) v, ⟨_, by assumption, hf9⟩, hok.put (by omega) (by omega), fun j => ?_⟩
    rw [look_put, hlook]
    rfl)
end

theorem fill1 (w : World) (h : Heap) : (K0 w.params).In h → model PySem.Challenge.rw_pb0333_01.row.prog w = model PySem.Challenge.rw_pb0333_01.row.prog w := by
  k_fill
  intro _; rfl
-- PRELUDE
section
local macro_rules | `(tactic| walk_at "mine fact") => `(tactic| first | assumption | omega | (simp only [decide_eq_true_eq, decide_eq_false_iff_not] at *; omega) | ktn_no "mine: a fact")
section
local macro_rules | `(tactic| walk_at "call ref") => `(tactic| ((with_reducible show wpAny _ _ (call (Value.ref 186) _) _ _ _); k_dflt (refine' word_c ?kB ?kF ?kX ?kN ?kT ?kK ?kD ?kU ?m1 ?m2 ?m3 ?m4 ?m5 ?a0 ?a1 ?_; walk_at "mine room"; (case m1 => k_mem); (case m2 => k_mem); (case m3 => k_asm); (case m4 => k_mem); (case m5 => k_asm); (case a0 => walk_at "mine fact"); (case a1 => walk_at "mine fact"); intro t9 h9 tk9 F9 N9; (try dsimp only); (try k_fold))))
section
local macro_rules | `(tactic| walk_at "call ref") => `(tactic| ((with_reducible show wpAny _ _ (call (Value.ref 193) _) _ _ _); k_dflt (refine' put_word_c ?kB ?kF ?kX ?kN ?kT ?kK ?kD ?kU ?m1 ?m2 ?m3 ?m4 ?m5 ?a0 ?a1 ?a2 ?a3 ?_; walk_at "mine room"; (case m1 => k_mem); (case m2 => k_mem); (case m3 => k_asm); (case m4 => k_updF); (case m5 => k_asm); (case a0 => walk_at "mine fact"); (case a1 => walk_at "mine fact"); (case a2 => walk_at "mine fact"); (case a3 => walk_at "mine fact"); intro h9 tk9 o9 F9 N9 M9; (try dsimp only at N9); (try dsimp only); (try k_fold))))
section
local macro_rules | `(tactic| walk_at "ite") => `(tactic| (k_here; k_openite; first | refine ite_pos (decide_eq_true (by omega)) ?_ | refine ite_isFalse (decide_eq_false (by omega)) ?_ | refine ite_pos (by omega) ?_ | refine ite_neg (by omega) ?_))
-- END

noncomputable def bsz (rs : Int) : Int := (rs + 23) / 16 * 16
noncomputable def lnum (sz : Int) : Int := if sz < 32 then 0 else if sz < 64 then 1 else if sz < 128 then 2 else 3
/-- a block at b of size V: free, or used with descriptor d -/
noncomputable def BlkAt (M : Int → Int) (b V : Int) : Option Int → Prop
  | none => M (b / 4) = V + 1 ∧ V % 2 = 0 ∧ 0 ≤ V ∧ V < 4096
  | some d => M (b / 4) = d ∧ d % 2 = 0 ∧ 0 ≤ d ∧ d < 4096 ∧ 0 ≤ M (d / 4) ∧ M (d / 4) ≤ 4000 ∧ V = bsz (M (d / 4))
abbrev heapEs (k1 k2 k3 k4 : Int) (u1 u2 u3 u4 v2 v3 : Tok) (ms fl : Addr) (start limit : Int) : List DictEntry :=
  [⟨k1, .str (Str.ofString "memory") u1, .ref ms⟩, ⟨k2, .str (Str.ofString "start") u2, .int start v2⟩, ⟨k3, .str (Str.ofString "limit") u3, .int limit v3⟩, ⟨k4, .str (Str.ofString "free") u4, .ref fl⟩]
abbrev freeObj (f0 f1 f2 f3 : Int) (e0 e1 e2 e3 : Tok) (n : Nat) : Obj := listOf #[.int f0 e0, .int f1 e1, .int f2 e2, .int f3 e3] n

theorem calmC2 : True := by
  w_top off
  trivial
section
variable {w : World} {p : Program} {loose : List Str} {mean : ExcName → Option Value} {mg mb : Str → Option Value}
  {dp un : Nat} {gd : Option (List Code)} {cn : Str} {cs : Scope} {a : Addr} {ccd : Value} {cl : List (Str × Addr)} {outer : List Env} {A₀ : Around} {base h₀ : Heap} {L : Addr} {m : Str → Option Value} {s : Shared} {Q E : Value → Shared → Prop}
  {news : List (Addr × Obj)} {ms md wd : Addr} {h1 h2 : Int} {t1 t2 t3 : Tok} {ow : Obj} {M : Int → Int}
  {hp dh fl : Addr} {k1 k2 k3 k4 : Int} {u1 u2 u3 u4 v2 v3 : Tok} {start limit : Int} {f0 f1 f2 f3 : Int} {e0 e1 e2 e3 : Tok} {nf : Nat}

theorem block_size_c {rs : Int} {ta : Tok} (B : Below A₀ base outer h₀) (F : Fr h₀ L s.heap m) (X : (K0 w.params).In h₀) (N : News h₀ L s.heap news) (T : Top p loose mean mg mb h₀) (hk : cs.kind = .function)
    (hdp : dp + 1 < recursionLimit) (hu : un + 8 < cLine)
    (ha0 : 0 ≤ rs) (ha1 : rs ≤ 4000)
    (hret : ∀ (t : Tok) (h' : Heap) (tk' : Nat), Fr h₀ L h' m → News h₀ L h' news → Q (.int (bsz rs) t) { s with heap := h', toks := tk' }) :
    wpAny (model PySem.Challenge.rw_pb0333_01.row.prog w) (ktrTop dp un gd cn cs L a ccd cl outer) (call (.ref 28) [.int rs ta]) Q E s := by
  refine wpAny_call ?_
  k_dflt cell_enter
  k_steps
  all_goals (
    have e : (rs + 8 + 16 - 1).fdiv 16 * 16 = bsz rs := by
      rw [Int.fdiv_eq_ediv_of_nonneg _ (by decide), bsz]
      omega
    rw [e]
    exact hret _ _ _ (by assumption) (by assumption))
theorem list_number_c {sz : Int} {ta : Tok} (B : Below A₀ base outer h₀) (F : Fr h₀ L s.heap m) (X : (K0 w.params).In h₀) (N : News h₀ L s.heap news) (T : Top p loose mean mg mb h₀) (hk : cs.kind = .function)
    (hdp : dp + 1 < recursionLimit) (hu : un + 8 < cLine)
    (hret : ∀ (t : Tok) (h' : Heap) (tk' : Nat), Fr h₀ L h' m → News h₀ L h' news → Q (.int (lnum sz) t) { s with heap := h', toks := tk' }) :
    wpAny (model PySem.Challenge.rw_pb0333_01.row.prog w) (ktrTop dp un gd cn cs L a ccd cl outer) (call (.ref 35) [.int sz ta]) Q E s := by
  refine wpAny_call ?_
  k_dflt cell_enter
  k_steps
  all_goals (
    refine cb_retI hret ?_ (by assumption) (by assumption)
    unfold lnum
    (repeat' split) <;> omega)
local macro_rules | `(tactic| walk_at "call ref") => `(tactic| ((with_reducible show wpAny _ _ (call (Value.ref 28) _) _ _ _); k_dflt (refine' block_size_c ?kB ?kF ?kX ?kN ?kT ?kK ?kD ?kU ?a0 ?a1 ?_; walk_at "mine room"; (case a0 => walk_at "mine fact"); (case a1 => walk_at "mine fact"); intro t9 h9 tk9 F9 N9; (try dsimp only); (try k_fold))))

theorem size_of_c {b V : Int} {od : Option Int} {ta : Tok} (B : Below A₀ base outer h₀) (F : Fr h₀ L s.heap m) (X : (K0 w.params).In h₀) (N : News h₀ L s.heap news) (T : Top p loose mean mg mb h₀) (hk : cs.kind = .function)
    (hdp : dp + 3 < recursionLimit) (hu : un + 24 < cLine)
    (hms : (ms, instObj 210 md) ∈ news) (hmd : (md, dictOf (memEs h1 h2 t1 t2 t3 wd) 2) ∈ news)
    (lo : (wd == sysModules) = false) (hw : (wd, ow) ∈ news) (hM : MemIs w ow M)
    (hhp : (hp, instObj 108 dh) ∈ news) (hdh : (dh, dictOf (heapEs k1 k2 k3 k4 u1 u2 u3 u4 v2 v3 ms fl start limit) 4) ∈ news)
    (ha0 : 0 ≤ b) (ha1 : b < 4096) (hb : BlkAt M b V od)
    (hret : ∀ (t : Tok) (h' : Heap) (tk' : Nat), Fr h₀ L h' m → News h₀ L h' news → Q (.int V t) { s with heap := h', toks := tk' }) :
    wpAny (model PySem.Challenge.rw_pb0333_01.row.prog w) (ktrTop dp un gd cn cs L a ccd cl outer) (call (.ref 77) [.ref hp, .int b ta]) Q E s := by
  cases od with
  | none =>
    obtain ⟨e1, e2, e3, e4⟩ := hb
    have e5 : (M (b / 4)).fmod 2 = 1 := by rw [Int.fmod_eq_emod_of_nonneg _ (by decide)]; omega
    refine wpAny_call ?_
    k_dflt cell_enter
    k_steps
    all_goals exact cb_retI hret (by omega) (by assumption) (by assumption)
  | some d =>
    obtain ⟨e1, e2, e3, e4, e6, e7, e8⟩ := hb
    have e5 : (M (b / 4)).fmod 2 = 0 := by rw [Int.fmod_eq_emod_of_nonneg _ (by decide)]; omega
    have e9 : 0 ≤ M (M (b / 4) / 4) := by rw [e1]; exact e6
    have e10 : M (M (b / 4) / 4) ≤ 4000 := by rw [e1]; exact e7
    refine wpAny_call ?_
    k_dflt cell_enter
    k_steps
    all_goals exact cb_retI hret (by rw [e8, e1]) (by assumption) (by assumption)

theorem is_free_c {b V : Int} {od : Option Int} {ta : Tok} (B : Below A₀ base outer h₀) (F : Fr h₀ L s.heap m) (X : (K0 w.params).In h₀) (N : News h₀ L s.heap news) (T : Top p loose mean mg mb h₀) (hk : cs.kind = .function)
    (hdp : dp + 3 < recursionLimit) (hu : un + 24 < cLine)
    (hms : (ms, instObj 210 md) ∈ news) (hmd : (md, dictOf (memEs h1 h2 t1 t2 t3 wd) 2) ∈ news)
    (lo : (wd == sysModules) = false) (hw : (wd, ow) ∈ news) (hM : MemIs w ow M)
    (hhp : (hp, instObj 108 dh) ∈ news) (hdh : (dh, dictOf (heapEs k1 k2 k3 k4 u1 u2 u3 u4 v2 v3 ms fl start limit) 4) ∈ news)
    (ha0 : 0 ≤ b) (ha1 : b < 4096) (hb : BlkAt M b V od)
    (hret : ∀ (t : Tok) (h' : Heap) (tk' : Nat), Fr h₀ L h' m → News h₀ L h' news → Q (.bool od.isNone) { s with heap := h', toks := tk' }) :
    wpAny (model PySem.Challenge.rw_pb0333_01.row.prog w) (ktrTop dp un gd cn cs L a ccd cl outer) (call (.ref 63) [.ref hp, .int b ta]) Q E s := by
  have e5 : (M (b / 4)).fmod 2 = if od.isNone then 1 else 0 := by
    rw [Int.fmod_eq_emod_of_nonneg _ (by decide)]
    cases od with
    | none => obtain ⟨e1, e2, e3, e4⟩ := hb; simp; omega
    | some d => obtain ⟨e1, e2, e3, e4, e6, e7, e8⟩ := hb; simp; omega
  refine wpAny_call ?_
  k_dflt cell_enter
  k_steps
  all_goals (refine cb_retB hret ?_ (by assumption) (by assumption); rw [e5]; cases od <;> rfl)

theorem descriptor_c {b V d : Int} {ta : Tok} (B : Below A₀ base outer h₀) (F : Fr h₀ L s.heap m) (X : (K0 w.params).In h₀) (N : News h₀ L s.heap news) (T : Top p loose mean mg mb h₀) (hk : cs.kind = .function)
    (hdp : dp + 3 < recursionLimit) (hu : un + 24 < cLine)
    (hms : (ms, instObj 210 md) ∈ news) (hmd : (md, dictOf (memEs h1 h2 t1 t2 t3 wd) 2) ∈ news)
    (lo : (wd == sysModules) = false) (hw : (wd, ow) ∈ news) (hM : MemIs w ow M)
    (hhp : (hp, instObj 108 dh) ∈ news) (hdh : (dh, dictOf (heapEs k1 k2 k3 k4 u1 u2 u3 u4 v2 v3 ms fl start limit) 4) ∈ news)
    (ha0 : 0 ≤ b) (ha1 : b < 4096) (hb : BlkAt M b V (some d))
    (hret : ∀ (t : Tok) (h' : Heap) (tk' : Nat), Fr h₀ L h' m → News h₀ L h' news → Q (.int d t) { s with heap := h', toks := tk' }) :
    wpAny (model PySem.Challenge.rw_pb0333_01.row.prog w) (ktrTop dp un gd cn cs L a ccd cl outer) (call (.ref 70) [.ref hp, .int b ta]) Q E s := by
  obtain ⟨e1, e2, e3, e4, e6, e7, e8⟩ := hb
  refine wpAny_call ?_
  k_dflt cell_enter
  k_steps
  all_goals exact cb_retI hret e1 (by assumption) (by assumption)
end

/-! loops by an invariant -/
noncomputable def LpEnd (h₀ : Heap) (L : Addr) (its : List (Addr × Obj)) (s₁ : Shared) (J : (Str → Option Value) → List (Addr × Obj) → Prop) (s₂ : Shared) : Prop :=
  ∃ h' tk m' news', s₂ = { s₁ with heap := h', toks := tk } ∧ Fr h₀ L h' m' ∧ News h₀ L h' (its ++ news') ∧ J m' news'
noncomputable def LpPost (h₀ : Heap) (L : Addr) (its : List (Addr × Obj)) (s₁ : Shared) (J : (Str → Option Value) → List (Addr × Obj) → Prop) (Q : Flow → Shared → Prop) (f : Flow) (s₂ : Shared) : Prop :=
  match f with
  | .ret v => Q (.ret v) s₂
  | .brk => Q .next s₂
  | _ => LpEnd h₀ L its s₁ J s₂
theorem LpEnd.intro {h₀ : Heap} {L : Addr} {its news' : List (Addr × Obj)} {s₁ : Shared} {J : (Str → Option Value) → List (Addr × Obj) → Prop} {h' : Heap} {tk : Nat} {m' : Str → Option Value}
    (F : Fr h₀ L h' m') (N : News h₀ L h' (its ++ news')) (j : J m' news') : LpEnd h₀ L its s₁ J { s₁ with heap := h', toks := tk } := ⟨h', tk, m', news', rfl, F, N, j⟩
/-- every address of the one list is an address of the other -/
noncomputable def AdrIn (l l₀ : List (Addr × Obj)) : Prop := ∀ p ∈ l, ∃ q ∈ l₀, q.1 = p.1
theorem AdrIn.refl {l : List (Addr × Obj)} : AdrIn l l := fun p hp => ⟨p, hp, rfl⟩
theorem AdrIn.lt {l l₀ : List (Addr × Obj)} {I : Addr} (h : AdrIn l l₀) (k : ∀ p ∈ l₀, p.1 < I) : ∀ p ∈ l, p.1 < I := fun p hp => by
  obtain ⟨q, hq, e⟩ := h p hp
  rw [← e]
  exact k q hq
theorem AdrIn.of_map {l l₀ : List (Addr × Obj)} (h : l.map (·.1) = l₀.map (·.1)) : AdrIn l l₀ := fun p hp => by
  have h1 : p.1 ∈ l₀.map (·.1) := by rw [← h]; exact List.mem_map.mpr ⟨p, hp, rfl⟩
  obtain ⟨q, hq, e⟩ := List.mem_map.mp h1
  exact ⟨q, hq, e⟩
section
variable {prog : Program} {w : World} {A : Around} {E : Value → Shared → Prop} {s : Shared} {env : Env} {h₀ : Heap} {x : Str} {body : List Stmt} {Q : Flow → Shared → Prop}
theorem rng_ind {r : Addr} {a₀ b₀ c : Int} {t₀ u₀ v₀ : Tok} {n : Nat} {m₀ : Str → Option Value} {news₀ : List (Addr × Obj)} (J : Nat → (Str → Option Value) → List (Addr × Obj) → Prop)
    (hh : A.handled = none) (hr : IsRange s.heap r a₀ b₀ c t₀ u₀ v₀) (hsmall : Builtin.Range.small a₀ b₀ c = true) (hn : Builtin.Range.rangeSize a₀ b₀ c = (n : Int)) (F : Fr h₀ env.locals s.heap m₀) (N : News h₀ env.locals s.heap news₀)
    (j0 : J 0 m₀ news₀) (hadr : ∀ i m news, J i m news → AdrIn news news₀)
    (turn : ∀ i I it m news t h tk, i < n → J i m news → (∀ p ∈ news₀, p.1 < I) → Fr h₀ env.locals h (fun y => if y = x then some (.int (a₀ + (i : Int) * c) t) else m y) → News h₀ env.locals h ((I, it) :: news) →
      wpAny (model prog w) A (execs body env) (LpPost h₀ env.locals [(I, it)] { s with heap := h, toks := tk } (J (i + 1)) Q) E { s with heap := h, toks := tk })
    (done : ∀ m news h tk, J n m news → Fr h₀ env.locals h m → News h₀ env.locals h news → Q .next { s with heap := h, toks := tk }) :
    wpAny (model prog w) A (pyIter (.ref r)) (fun it s₂ => LoopAtV prog w A h₀ env x body Q E it s₂) E s := by
  refine krs_iter hh hr hsmall hn F N fun I hI => ?_
  have H : ∀ k i m news, i + k = n → J i m news → KrsRest prog w A E h₀ env x body Q s I a₀ c n k i m news := by
    intro k
    induction k with
    | zero =>
      intro i m news e j
      have e' : i = n := by omega
      subst e'
      exact fun h tk F N => done m news h tk j F N
    | succ k ih =>
      intro i m news e j t h tk F₁ N₁
      refine wpAny_mono (turn i I _ m news t h tk (by omega) j hI F₁ N₁) (fun f s₂ p => ?_) fun _ _ e => e
      have fin : LpEnd h₀ env.locals [(I, krsIt (a₀ + ((i + 1 : Nat) : Int) * c) ((n : Int) - ((i + 1 : Nat) : Int)) c)] { s with heap := h, toks := tk } (J (i + 1)) s₂ →
          UnrEnd h₀ env.locals { s with heap := h, toks := tk } I (krsIt (a₀ + ((i + 1 : Nat) : Int) * c) ((n : Int) - ((i + 1 : Nat) : Int)) c) (KrsRest prog w A E h₀ env x body Q s I a₀ c n k (i + 1)) s₂ := by
        rintro ⟨h', tk', m', news', e2, F', N', j'⟩
        exact ⟨h', tk', m', news', e2, F', N', fun p hp => Nat.ne_of_lt ((hadr _ _ _ j').lt hI p hp), ih (i + 1) m' news' (by omega) j'⟩
      cases f with
      | ret v => exact p
      | brk => exact p
      | next => exact fin p
      | cont => exact fin p
  exact H n 0 m₀ news₀ (by omega) j0

/-- a while by an invariant over a datum -/
noncomputable def WlEnd {α : Type} (h₀ : Heap) (L : Addr) (s : Shared) (J : α → (Str → Option Value) → List (Addr × Obj) → Prop) (μ : α → Nat) (a : α) (s₂ : Shared) : Prop :=
  ∃ a' h' tk m' news', μ a' < μ a ∧ s₂ = { s with heap := h', toks := tk } ∧ Fr h₀ L h' m' ∧ News h₀ L h' news' ∧ J a' m' news'
noncomputable def WlPost {α : Type} (h₀ : Heap) (L : Addr) (s : Shared) (J : α → (Str → Option Value) → List (Addr × Obj) → Prop) (μ : α → Nat) (a : α) (Q : Flow → Shared → Prop) (f : Flow) (s₂ : Shared) : Prop :=
  match f with
  | .ret v => Q (.ret v) s₂
  | .brk => Q .next s₂
  | _ => WlEnd h₀ L s J μ a s₂
theorem whl_ind {α : Type} {test : PySem.Expr} {orelse : List Stmt} {pos : Pos} {m₀ : Str → Option Value} {news₀ : List (Addr × Obj)} (J : α → (Str → Option Value) → List (Addr × Obj) → Prop) (μ : α → Nat) (a₀ : α)
    (hE : PassesOwn (model prog w) A env E) (F : Fr h₀ env.locals s.heap m₀) (N : News h₀ env.locals s.heap news₀) (j0 : J a₀ m₀ news₀)
    (turn : ∀ a m news h tk, J a m news → Fr h₀ env.locals h m → News h₀ env.locals h news →
      wpAny (model prog w) A (isTrue test env (eval test env)) (fun b s₂ => WhlIf b (wpAny (model prog w) A (execs body env) (WlPost h₀ env.locals s J μ a Q) E s₂) (wpAny (model prog w) A (execs orelse env) Q E s₂)) E { s with heap := h, toks := tk }) :
    wpAny (model prog w) A (exec (.While test body orelse pos) env) Q E s := by
  refine whl_start 0 ?_
  have H : ∀ n a m news h tk, μ a < n → J a m news → Fr h₀ env.locals h m → News h₀ env.locals h news → WhlRest prog w A E env test body orelse Q 0 { s with heap := h, toks := tk } := by
    intro n
    induction n with
    | zero => intro a m news h tk hm; exact absurd hm (Nat.not_lt_zero _)
    | succ n ih =>
      intro a m news h tk hm j F₁ N₁
      refine (show WhlRest prog w A E env test body orelse Q (0 + 1) { s with heap := h, toks := tk } from whl_turn hE (wpAny_mono (turn a m news h tk j F₁ N₁) (fun b s₂ p => ?_) fun _ _ e => e))
      unfold WhlIf at p ⊢
      split
      · rename_i hb
        rw [if_pos hb] at p
        refine wpAny_mono p (fun f s₃ q => ?_) fun _ _ e => e
        have fin : WlEnd h₀ env.locals s J μ a s₃ → WhlRest prog w A E env test body orelse Q 0 s₃ := by
          rintro ⟨a', h', tk', m', news', hlt, rfl, F', N', j'⟩
          exact ih a' m' news' h' tk' (by omega) j' F' N'
        cases f with
        | ret v => exact q
        | brk => exact q
        | next => exact fin q
        | cont => exact fin q
      · rename_i hb
        rw [if_neg hb] at p
        exact p
  exact H (μ a₀ + 1) a₀ m₀ news₀ s.heap s.toks (Nat.lt_succ_self _) j0 F N

/-- a for over items of any kind by an invariant over the rest -/
theorem itm_ind {target : PySem.Expr} {ws : List (Addr × String)} {keep : List (Addr × Obj)} (J : List Itm → (Str → Option Value) → List (Addr × Obj) → Prop)
    (hk : ∀ r m news, J r m news → SubL keep news) (hoff : ∀ r m news, J r m news → ∀ p ∈ news, ∀ q ∈ ws.map (·.1), p.1 ≠ q)
    (turn : ∀ a r m news v h tk, J (a :: r) m news → a.Is v h → Fr h₀ env.locals h m → AllObj ws (fun its => News h₀ env.locals h (its ++ news) →
      wpAny (model prog w) A (assign target env v) (fun _ s₂ => wpAny (model prog w) A (execs body env) (LpPost h₀ env.locals its { s with heap := h, toks := tk } (J r) Q) E s₂) E { s with heap := h, toks := tk }))
    (done : ∀ m news h tk, J [] m news → Fr h₀ env.locals h m → News h₀ env.locals h news → Q .next { s with heap := h, toks := tk }) :
    ∀ xs m news, J xs m news → ItemsRest prog w A E h₀ env target body Q s ws keep xs m news := by
  intro xs
  induction xs with
  | nil => exact fun m news j h tk F N => done m news h tk j F N
  | cons a r ih =>
    intro m news j v h tk hv F
    have T := turn a r m news v h tk j hv F
    have conv : ∀ (ws' : List (Addr × String)) (k k' : List (Addr × Obj) → Prop), (∀ its, its.map (·.1) = ws'.map (·.1) → k its → k' its) → AllObj ws' k → AllObj ws' k' := by
      intro ws'
      induction ws' with
      | nil => exact fun k k' hkk x => hkk [] rfl x
      | cons z zs ihz =>
        intro k k' hkk x o ho
        exact ihz _ _ (fun its e y => hkk _ (by rw [List.map_cons, List.map_cons, e]) y) (x o ho)
    refine conv ws _ _ (fun its eits y N => ?_) T
    refine wpAny_mono (y N) (fun _ s₂ p => wpAny_mono p (fun f s₃ q => ?_) fun _ _ e => e) fun _ _ e => e
    have fin : LpEnd h₀ env.locals its { s with heap := h, toks := tk } (J r) s₃ → UnrEndW h₀ env.locals { s with heap := h, toks := tk } its (fun m' n' => SubL keep n' ∧ ItemsRest prog w A E h₀ env target body Q s ws keep r m' n') s₃ := by
      rintro ⟨h', tk', m', news', e2, F', N', j'⟩
      refine ⟨h', tk', m', news', e2, F', N', fun p hp q hq => hoff r m' news' j' p hp q.1 ?_, hk r m' news' j', ih m' news' j'⟩
      rw [← eits]
      exact List.mem_map.mpr ⟨q, hq, rfl⟩
    cases f with
    | ret v => exact q
    | brk => exact q
    | next => exact fin q
    | cont => exact fin q

/-- the frame that agrees with m₀ off the names ns, written out -/
noncomputable def offF (m m₀ : Str → Option Value) : List Str → Str → Option Value
  | [] => m₀
  | n :: r => fun y => if y = n then m n else offF m m₀ r y
theorem offF_eq {m m₀ : Str → Option Value} : ∀ {ns : List Str}, (∀ y, y ∉ ns → m y = m₀ y) → m = offF m m₀ ns
  | [], h => funext fun y => h y (by simp)
  | n :: r, h => by
    have key : ∀ (l : List Str) (y : Str), (y ∉ l → m y = m₀ y) → m y = offF m m₀ l y := by
      intro l
      induction l with
      | nil => exact fun y h => h (by simp)
      | cons a l ih =>
        intro y h
        by_cases e : y = a
        · subst e; simp [offF]
        · simp only [offF, if_neg e]
          exact ih y fun hn => h (by simp [e, hn])
    exact funext fun y => key _ y (h y)
/-- off the names -/
noncomputable def Off (ns : List Str) (m m₀ : Str → Option Value) : Prop := ∀ y, y ∉ ns → m y = m₀ y
theorem Off.refl {ns : List Str} {m : Str → Option Value} : Off ns m m := fun _ _ => rfl
theorem Off.set {ns : List Str} {m m₀ : Str → Option Value} {x : Str} {v : Option Value} (h : Off ns m m₀) (hx : x ∈ ns) : Off ns (fun y => if y = x then v else m y) m₀ := fun y hy => by
  have e : y ≠ x := fun q => hy (q ▸ hx)
  simp only [if_neg e]
  exact h y hy
theorem Off.offF {ns ns' : List Str} {m m₀ : Str → Option Value} (hs : ∀ y ∈ ns', y ∈ ns) : Off ns (offF m m₀ ns') m₀ := fun y hy => by
  induction ns' with
  | nil => rfl
  | cons a l ih =>
    have e : y ≠ a := fun q => hy (q ▸ hs a (by simp))
    simp only [Mine.offF, if_neg e]
    exact ih fun z hz => hs z (by simp [hz])
theorem updF_mem {d : Addr} {o : Obj} {l : List (Addr × Obj)} {g : Obj → List (Addr × Obj)} (U : UpdF d o l g) : (d, o) ∈ l := by
  obtain ⟨pre, post, rfl, -, -, -⟩ := U.split
  exact List.mem_append.mpr (.inr (.head _))
theorem updF_upd {d : Addr} {o o' : Obj} {l : List (Addr × Obj)} {g : Obj → List (Addr × Obj)} (U : UpdF d o l g) : Upd d o o' l (g o') := by
  induction U with
  | head h => exact .head h
  | tail h _ ih => exact .tail h ih
theorem updF_self {d : Addr} {o : Obj} {l : List (Addr × Obj)} {g : Obj → List (Addr × Obj)} (U : UpdF d o l g) : g o = l := by
  induction U with
  | head h => rfl
  | tail h _ ih => exact congrArg _ ih
theorem updF_again {d : Addr} {o : Obj} {l : List (Addr × Obj)} {g : Obj → List (Addr × Obj)} (U : UpdF d o l g) : ∀ o', UpdF d o' (g o') g := by
  induction U with
  | head h => exact fun o' => .head h
  | tail h _ ih => exact fun o' => .tail h (ih o')
theorem updF_old {d : Addr} {o o' : Obj} {l : List (Addr × Obj)} {g : Obj → List (Addr × Obj)} {p : Addr × Obj} (U : UpdF d o l g) (hp : p ∈ l) (hne : p.1 ≠ d) : p ∈ g o' := by
  induction U with
  | head h =>
    rcases List.mem_cons.mp hp with rfl | hp
    · exact absurd rfl hne
    · exact .tail _ hp
  | tail h _ ih =>
    rcases List.mem_cons.mp hp with rfl | hp
    · exact .head _
    · exact .tail _ (ih hp)
theorem updF_adr {d : Addr} {o o' : Obj} {l : List (Addr × Obj)} {g : Obj → List (Addr × Obj)} (U : UpdF d o l g) : AdrIn (g o') l := by
  refine AdrIn.of_map ?_
  induction U with
  | head h => rfl
  | tail h _ ih => simp only [List.map_cons, ih]
theorem rng_indM {d : Addr} {o₀ : Obj} {g : Obj → List (Addr × Obj)} {r : Addr} {a₀ b₀ c : Int} {t₀ u₀ v₀ : Tok} {n : Nat} {m₀ : Str → Option Value} {news₀ : List (Addr × Obj)} (ns : List Str) (J : Nat → (Str → Option Value) → Obj → Prop)
    (hh : A.handled = none) (hr : IsRange s.heap r a₀ b₀ c t₀ u₀ v₀) (hsmall : Builtin.Range.small a₀ b₀ c = true) (hn : Builtin.Range.rangeSize a₀ b₀ c = (n : Int)) (F : Fr h₀ env.locals s.heap m₀) (N : News h₀ env.locals s.heap news₀)
    (U : UpdF d o₀ news₀ g) (j0 : J 0 m₀ o₀)
    (turn : ∀ i I it m o t h tk, i < n → Off ns m m₀ → J i m o → (∀ p ∈ news₀, p.1 < I) → Fr h₀ env.locals h (fun y => if y = x then some (.int (a₀ + (i : Int) * c) t) else m y) → News h₀ env.locals h ((I, it) :: g o) →
      wpAny (model prog w) A (execs body env) (LpPost h₀ env.locals [(I, it)] { s with heap := h, toks := tk } (fun m' nw => Off ns m' m₀ ∧ ∃ o', nw = g o' ∧ J (i + 1) m' o') Q) E { s with heap := h, toks := tk })
    (done : ∀ m o h tk, Off ns m m₀ → J n m o → Fr h₀ env.locals h m → News h₀ env.locals h (g o) → Q .next { s with heap := h, toks := tk }) :
    wpAny (model prog w) A (pyIter (.ref r)) (fun it s₂ => LoopAtV prog w A h₀ env x body Q E it s₂) E s := by
  refine rng_ind (fun i m nw => Off ns m m₀ ∧ ∃ o, nw = g o ∧ J i m o) hh hr hsmall hn F N ⟨.refl, o₀, (updF_self U).symm, j0⟩ ?_ ?_ ?_
  · rintro i m nw ⟨-, o, rfl, -⟩
    exact updF_adr U
  · rintro i I it m nw t h tk hi ⟨ho, o, rfl, j⟩ hI F₁ N₁
    exact turn i I it m o t h tk hi ho j hI F₁ N₁
  · rintro m nw h tk ⟨ho, o, rfl, j⟩ F₁ N₁
    exact done m o h tk ho j F₁ N₁
end
theorem bne_yes {x y : Int} (h : x ≠ y) : (x != y) = true := bne_iff_ne.mpr h
theorem bne_no {x y : Int} (h : x = y) : (x != y) = false := by rw [h]; exact bne_self_eq_false y
theorem beq_yes {x y : Int} (h : x = y) : (x == y) = true := beq_iff_eq.mpr h
theorem beq_no {x y : Int} (h : x ≠ y) : (x == y) = false := beq_eq_false_iff_ne.mpr h
noncomputable def Stop (P : Prop) : Prop := P
theorem stopHere {P : Prop} (h : Stop P) : P := h

theorem fill2 (w : World) (h : Heap) : (K0 w.params).In h → model PySem.Challenge.rw_pb0333_01.row.prog w = model PySem.Challenge.rw_pb0333_01.row.prog w := by
  k_fill
  intro _; rfl
-- PRELUDE
section
local macro_rules | `(tactic| walk_at "call ref") => `(tactic| ((with_reducible show wpAny _ _ (call (Value.ref 28) _) _ _ _); k_dflt (refine' block_size_c ?kB ?kF ?kX ?kN ?kT ?kK ?kD ?kU ?a0 ?a1 ?_; walk_at "mine room"; (case a0 => walk_at "mine fact"); (case a1 => walk_at "mine fact"); intro t9 h9 tk9 F9 N9; (try dsimp only); (try k_fold))))
section
local macro_rules | `(tactic| walk_at "call ref") => `(tactic| ((with_reducible show wpAny _ _ (call (Value.ref 35) _) _ _ _); k_dflt (refine' list_number_c ?kB ?kF ?kX ?kN ?kT ?kK ?kD ?kU ?_; walk_at "mine room"; intro t9 h9 tk9 F9 N9; (try dsimp only); (try k_fold))))
section
local macro_rules | `(tactic| walk_at "call ref") => `(tactic| ((with_reducible show wpAny _ _ (call (Value.ref 77) _) _ _ _); k_dflt (refine' size_of_c ?kB ?kF ?kX ?kN ?kT ?kK ?kD ?kU ?m1 ?m2 ?m3 ?m4 ?m5 ?m6 ?m7 ?a0 ?a1 ?bb ?_; walk_at "mine room"; (case m1 => k_mem); (case m2 => k_mem); (case m3 => k_asm); (case m4 => k_mem); (case m5 => k_asm); (case m6 => k_mem); (case m7 => k_mem); (case a0 => walk_at "mine fact"); (case a1 => walk_at "mine fact"); (case bb => k_asm); intro t9 h9 tk9 F9 N9; (try dsimp only); (try k_fold))))
section
local macro_rules | `(tactic| walk_at "call ref") => `(tactic| ((with_reducible show wpAny _ _ (call (Value.ref 63) _) _ _ _); k_dflt (refine' is_free_c ?kB ?kF ?kX ?kN ?kT ?kK ?kD ?kU ?m1 ?m2 ?m3 ?m4 ?m5 ?m6 ?m7 ?a0 ?a1 ?bb ?_; walk_at "mine room"; (case m1 => k_mem); (case m2 => k_mem); (case m3 => k_asm); (case m4 => k_mem); (case m5 => k_asm); (case m6 => k_mem); (case m7 => k_mem); (case a0 => walk_at "mine fact"); (case a1 => walk_at "mine fact"); (case bb => k_asm); intro t9 h9 tk9 F9 N9; (try dsimp only); (try k_fold))))
section
local macro_rules | `(tactic| walk_at "call ref") => `(tactic| ((with_reducible show wpAny _ _ (call (Value.ref 70) _) _ _ _); k_dflt (refine' descriptor_c ?kB ?kF ?kX ?kN ?kT ?kK ?kD ?kU ?m1 ?m2 ?m3 ?m4 ?m5 ?m6 ?m7 ?a0 ?a1 ?bb ?_; walk_at "mine room"; (case m1 => k_mem); (case m2 => k_mem); (case m3 => k_asm); (case m4 => k_mem); (case m5 => k_asm); (case m6 => k_mem); (case m7 => k_mem); (case a0 => walk_at "mine fact"); (case a1 => walk_at "mine fact"); (case bb => k_asm); intro t9 h9 tk9 F9 N9; (try dsimp only); (try k_fold))))

/-- a ledger with two holes -/
structure Two (g : Obj → Obj → List (Addr × Obj)) (d1 d2 : Addr) : Prop where
  u1 : ∀ o1 o2, UpdF d1 o1 (g o1 o2) (fun o => g o o2)
  u2 : ∀ o1 o2, UpdF d2 o2 (g o1 o2) (fun o => g o1 o)
section
variable {g : Obj → Obj → List (Addr × Obj)} {d1 d2 : Addr} {x : Addr × Obj} {o1 o2 o : Obj}
theorem mem2 (h : ∀ o1 o2, x ∈ g o1 o2) : x ∈ g o1 o2 := h _ _
theorem memA (G : Two g d1 d2) : (d1, o1) ∈ g o1 o2 := updF_mem (G.u1 _ _)
theorem memB (G : Two g d1 d2) : (d2, o2) ∈ g o1 o2 := updF_mem (G.u2 _ _)
theorem updA (G : Two g d1 d2) : UpdF d1 o1 (g o1 o2) (fun o => g o o2) := G.u1 _ _
theorem updB (G : Two g d1 d2) : UpdF d2 o2 (g o1 o2) (fun o => g o1 o) := G.u2 _ _
theorem updA' (G : Two g d1 d2) : Upd d1 o1 o (g o1 o2) (g o o2) := updF_upd (G.u1 _ _)
theorem updB' (G : Two g d1 d2) : Upd d2 o2 o (g o1 o2) (g o1 o) := updF_upd (G.u2 _ _)
end
section
local macro_rules | `(tactic| k_mem) => `(tactic| first | exact mem2 (by assumption) | exact memA (by assumption) | exact memB (by assumption))
section
local macro_rules | `(tactic| k_updF) => `(tactic| first | exact updA (by assumption) | exact updB (by assumption))
section
local macro_rules | `(tactic| k_upd) => `(tactic| first | exact updA' (by assumption) | exact updB' (by assumption))

theorem lnum_lo (sz : Int) : 0 ≤ lnum sz := by unfold lnum; repeat' split <;> omega
theorem lnum_hi (sz : Int) : lnum sz < 4 := by unfold lnum; repeat' split <;> omega
theorem calmC3 : True := by
  w_top off
  trivial
section
variable {w : World} {p : Program} {loose : List Str} {mean : ExcName → Option Value} {mg mb : Str → Option Value}
  {dp un : Nat} {gd : Option (List Code)} {cn : Str} {cs : Scope} {a : Addr} {ccd : Value} {cl : List (Str × Addr)} {outer : List Env} {A₀ : Around} {base h₀ : Heap} {L : Addr} {m : Str → Option Value} {s : Shared} {Q E : Value → Shared → Prop}
  {ms md wd : Addr} {h1 h2 : Int} {t1 t2 t3 : Tok} {ow : Obj} {M : Int → Int}
  {hp dh fl : Addr} {k1 k2 k3 k4 : Int} {u1 u2 u3 u4 v2 v3 : Tok} {start limit : Int} {vs : List Value} {fs : List Int} {nf : Nat} {g : Obj → Obj → List (Addr × Obj)}

theorem put_free_c {b sz : Int} {ta tb : Tok} (B : Below A₀ base outer h₀) (F : Fr h₀ L s.heap m) (X : (K0 w.params).In h₀) (N : News h₀ L s.heap (g ow (listOf vs.toArray nf))) (T : Top p loose mean mg mb h₀) (hk : cs.kind = .function)
    (hdp : dp + 3 < recursionLimit) (hu : un + 24 < cLine) (G : Two g wd fl)
    (hms : ∀ o1 o2, (ms, instObj 210 md) ∈ g o1 o2) (hmd : ∀ o1 o2, (md, dictOf (memEs h1 h2 t1 t2 t3 wd) 2) ∈ g o1 o2)
    (hhp : ∀ o1 o2, (hp, instObj 108 dh) ∈ g o1 o2) (hdh : ∀ o1 o2, (dh, dictOf (heapEs k1 k2 k3 k4 u1 u2 u3 u4 v2 v3 ms fl start limit) 4) ∈ g o1 o2)
    (lo : (wd == sysModules) = false) (hM : MemIs w ow M) (hfs : IntsAre vs fs) (h4 : fs.length = 4) (hf0 : 0 ≤ fs.getD (lnum sz).toNat 0) (hf1 : fs.getD (lnum sz).toNat 0 < 4096)
    (ha0 : 0 ≤ b) (ha1 : b + 4 < 4096) (hs0 : 0 ≤ sz) (hs1 : sz < 4096)
    (hret : ∀ (h' : Heap) (tk' : Nat) (o' : Obj), Fr h₀ L h' m → News h₀ L h' (g o' (listOf (vs.set (lnum sz).toNat (.int b ta)).toArray nf)) → MemIs w o' (upd (upd M (b / 4) (sz + 1)) ((b + 4) / 4) (fs.getD (lnum sz).toNat 0)) → Q .none { s with heap := h', toks := tk' }) :
    wpAny (model PySem.Challenge.rw_pb0333_01.row.prog w) (ktrTop dp un gd cn cs L a ccd cl outer) (call (.ref 56) [.ref hp, .int b ta, .int sz tb]) Q E s := by
  have q1 := lnum_lo sz
  have q2 := lnum_hi sz
  refine wpAny_call ?_
  k_dflt cell_enter
  k_steps
  all_goals exact hret _ _ _ (by assumption) (by assumption) (by assumption)
-- TAKE
noncomputable def tailAt (t r : Int) : List Int := if r ≤ 0 then [0, 0, 0, 0] else [0, 0, 0, 0].set (lnum r).toNat t
theorem tail_get {t r q : Int} (h0 : 0 ≤ q) (h1 : q < 4) : (tailAt t r).getD q.toNat 0 = if 0 < r ∧ lnum r = q then t else 0 := by
  have a := lnum_lo r
  have b := lnum_hi r
  unfold tailAt
  have hq : q = 0 ∨ q = 1 ∨ q = 2 ∨ q = 3 := by omega
  have hr : lnum r = 0 ∨ lnum r = 1 ∨ lnum r = 2 ∨ lnum r = 3 := by omega
  by_cases hz : r ≤ 0
  · rw [if_pos hz, if_neg (by omega)]
    rcases hq with rfl | rfl | rfl | rfl <;> rfl
  · have hz' : 0 < r := by omega
    rw [if_neg hz]
    rcases hr with e | e | e | e <;> rcases hq with rfl | rfl | rfl | rfl <;> simp [e, hz']
theorem tailAt_len {t r : Int} : (tailAt t r).length = 4 := by unfold tailAt; split <;> simp
theorem lnum_mono {a b : Int} (h : a ≤ b) : lnum a ≤ lnum b := by unfold lnum; repeat' split <;> omega

end
section
variable {w : World} {p : Program} {loose : List Str} {mean : ExcName → Option Value} {mg mb : Str → Option Value}
  {dp un : Nat} {gd : Option (List Code)} {cn : Str} {cs : Scope} {a : Addr} {ccd : Value} {cl : List (Str × Addr)} {outer : List Env} {A₀ : Around} {base h₀ : Heap} {L : Addr} {m : Str → Option Value} {s : Shared} {Q E : Value → Shared → Prop}
  {ms md wd : Addr} {h1 h2 : Int} {t1 t2 t3 : Tok} {ow : Obj} {M : Int → Int}
  {hp dh fl : Addr} {k1 k2 k3 k4 : Int} {u1 u2 u3 u4 v2 v3 : Tok} {start limit : Int} {vs : List Value} {fs : List Int} {nf : Nat} {g : Obj → Obj → List (Addr × Obj)}
local macro_rules | `(tactic| walk_at "mine off") => `(tactic| (repeat' (first | exact Off.refl | refine Off.set ?_ (by simp))))
local macro_rules | `(tactic| walk_at "pyIter ref") => `(tactic| (refine stopHere ?_))
local macro_rules | `(tactic| walk_at "LpPost") => `(tactic| (dsimp only [LpPost]))
local macro_rules | `(tactic| walk_at "exec While Compare") => `(tactic| (k_here; k_dflt (refine whl_start 100 ?_)))
local macro_rules | `(tactic| walk_at "WhlIf") => `(tactic| (first | (refine WhlIf.yes (bne_yes (by omega)) ?_) | (refine WhlIf.no (bne_no (by omega)) ?_) | (refine WhlIf.yes (decide_eq_true (by omega)) ?_) | (refine WhlIf.no (decide_eq_false (by omega)) ?_)))
theorem take_hit_c {t r sz : Int} {tb : Tok} (B : Below A₀ base outer h₀) (F : Fr h₀ L s.heap m) (X : (K0 w.params).In h₀) (N : News h₀ L s.heap (g ow (listOf vs.toArray nf))) (T : Top p loose mean mg mb h₀) (hk : cs.kind = .function)
    (hdp : dp + 4 < recursionLimit) (hu : un + 32 < cLine) (G : Two g wd fl)
    (hms : ∀ o1 o2, (ms, instObj 210 md) ∈ g o1 o2) (hmd : ∀ o1 o2, (md, dictOf (memEs h1 h2 t1 t2 t3 wd) 2) ∈ g o1 o2)
    (hhp : ∀ o1 o2, (hp, instObj 108 dh) ∈ g o1 o2) (hdh : ∀ o1 o2, (dh, dictOf (heapEs k1 k2 k3 k4 u1 u2 u3 u4 v2 v3 ms fl start limit) 4) ∈ g o1 o2)
    (lo : (wd == sysModules) = false) (hM : MemIs w ow M) (hfs : IntsAre vs (tailAt t r))
    (ht0 : 0 < t) (ht1 : t + 4 < 4096) (hb : BlkAt M t r none) (hnx : M ((t + 4) / 4) = 0) (hr0 : 0 < r) (hs0 : 0 ≤ sz) (hs1 : sz ≤ r)
    (hret : ∀ (h' : Heap) (tk' : Nat) (t' t'' : Tok), Fr h₀ L h' m → News h₀ L h' (g ow (listOf (vs.set (lnum r).toNat (.int 0 t')).toArray nf)) → Q (.int t t'') { s with heap := h', toks := tk' }) :
    wpAny (model PySem.Challenge.rw_pb0333_01.row.prog w) (ktrTop dp un gd cn cs L a ccd cl outer) (call (.ref 84) [.ref hp, .int sz tb]) Q E s := by
  have q1 := lnum_lo sz
  have q2 := lnum_hi sz
  have q3 := lnum_lo r
  have q4 := lnum_hi r
  have q5 := lnum_mono hs1
  have h4 : (tailAt t r).length = 4 := tailAt_len
  refine wpAny_call ?_
  k_dflt cell_enter
  k_steps
  unfold Stop
  (rename IsRange _ _ _ _ _ _ _ _ => hR)
  (rename Fr _ _ _ _ => lF)
  (rename News _ _ _ _ => lN)
  refine rng_indM [Str.ofString "number", Str.ofString "before", Str.ofString "block", Str.ofString "following"] (fun i m o => o = ow ∧ lnum sz + (i : Int) ≤ lnum r) rfl hR (small_one (by omega) (by omega) (by omega) (by omega)) (rangeSize_nat _ _) lF lN (updA G) ⟨rfl, by omega⟩ ?_ ?_
  · rintro i I it m o t' h tk hi ho ⟨rfl, hj⟩ hI F1 N1
    rw [offF_eq ho] at F1
    simp only [offF] at F1
    have hv := tail_get (t := t) (r := r) (q := lnum sz + (i : Int) * 1) (by omega) (by omega)
    have hne : @LT.lt Nat _ fl I := hI (fl, _) (memB G)
    clear lF lN
    by_cases hc : lnum r = lnum sz + (i : Int) * 1
    · rw [if_pos ⟨hr0, hc⟩] at hv
      have hb' : BlkAt M ((tailAt t r).getD (lnum sz + (i : Int) * 1).toNat 0) r none := by rw [hv]; exact hb
      k_steps
      all_goals (
        (rename News h₀ L _ _ => kN)
        rw [hv, hnx, ← hc] at kN
        rw [hv]
        exact hret _ _ _ _ (by assumption) (fun p hp => kN p (.tail _ hp)))
    · rw [if_neg (fun q => hc q.2)] at hv
      k_steps
      all_goals (
        refine LpEnd.intro (news' := g o (listOf vs.toArray nf)) (by assumption) (by assumption) ⟨?_, o, rfl, rfl, by omega⟩
        walk_at "mine off")
  · rintro m o h tk ho ⟨rfl, hj⟩ F1 N1
    exfalso
    omega
theorem take_miss_c {t r sz : Int} {tb : Tok} (B : Below A₀ base outer h₀) (F : Fr h₀ L s.heap m) (X : (K0 w.params).In h₀) (N : News h₀ L s.heap (g ow (listOf vs.toArray nf))) (T : Top p loose mean mg mb h₀) (hk : cs.kind = .function)
    (hdp : dp + 4 < recursionLimit) (hu : un + 32 < cLine) (G : Two g wd fl)
    (hms : ∀ o1 o2, (ms, instObj 210 md) ∈ g o1 o2) (hmd : ∀ o1 o2, (md, dictOf (memEs h1 h2 t1 t2 t3 wd) 2) ∈ g o1 o2)
    (hhp : ∀ o1 o2, (hp, instObj 108 dh) ∈ g o1 o2) (hdh : ∀ o1 o2, (dh, dictOf (heapEs k1 k2 k3 k4 u1 u2 u3 u4 v2 v3 ms fl start limit) 4) ∈ g o1 o2)
    (lo : (wd == sysModules) = false) (hM : MemIs w ow M) (hfs : IntsAre vs (tailAt t r))
    (hb : 0 < r → 0 < t ∧ t + 4 < 4096 ∧ BlkAt M t r none ∧ M ((t + 4) / 4) = 0) (hs1 : r < sz)
    (hret : ∀ (h' : Heap) (tk' : Nat) (t'' : Tok), Fr h₀ L h' m → News h₀ L h' (g ow (listOf vs.toArray nf)) → Q (.int 0 t'') { s with heap := h', toks := tk' }) :
    wpAny (model PySem.Challenge.rw_pb0333_01.row.prog w) (ktrTop dp un gd cn cs L a ccd cl outer) (call (.ref 84) [.ref hp, .int sz tb]) Q E s := by
  have q1 := lnum_lo sz
  have q2 := lnum_hi sz
  have q3 := lnum_lo r
  have q4 := lnum_hi r
  have h4 : (tailAt t r).length = 4 := tailAt_len
  refine wpAny_call ?_
  k_dflt cell_enter
  k_steps
  unfold Stop
  (rename IsRange _ _ _ _ _ _ _ _ => hR)
  (rename Fr _ _ _ _ => lF)
  (rename News _ _ _ _ => lN)
  refine rng_indM [Str.ofString "number", Str.ofString "before", Str.ofString "block", Str.ofString "following"] (fun i m o => o = ow) rfl hR (small_one (by omega) (by omega) (by omega) (by omega)) (rangeSize_nat _ _) lF lN (updA G) rfl ?_ ?_
  · rintro i I it m o t' h tk hi ho rfl hI F1 N1
    rw [offF_eq ho] at F1
    simp only [offF] at F1
    have hv := tail_get (t := t) (r := r) (q := lnum sz + (i : Int) * 1) (by omega) (by omega)
    have hne : @LT.lt Nat _ fl I := hI (fl, _) (memB G)
    clear lF lN
    by_cases hc : 0 < r ∧ lnum r = lnum sz + (i : Int) * 1
    · rw [if_pos hc] at hv
      obtain ⟨b1, b2, b3, b4⟩ := hb hc.1
      have hb' : BlkAt M ((tailAt t r).getD (lnum sz + (i : Int) * 1).toNat 0) r none := by rw [hv]; exact b3
      have hn' : M (((tailAt t r).getD (lnum sz + (i : Int) * 1).toNat 0 + 4) / 4) = 0 := by rw [hv]; exact b4
      k_steps
      all_goals (
        refine LpEnd.intro (news' := g o (listOf vs.toArray nf)) (by assumption) (by assumption) ⟨?_, o, rfl, rfl⟩
        walk_at "mine off")
    · rw [if_neg hc] at hv
      k_steps
      all_goals (
        refine LpEnd.intro (news' := g o (listOf vs.toArray nf)) (by assumption) (by assumption) ⟨?_, o, rfl, rfl⟩
        walk_at "mine off")
  · rintro m o h tk ho rfl F1 N1
    dsimp only
    clear lF lN
    k_steps
    all_goals exact hret _ _ _ (by assumption) (by assumption)
end

theorem fill3 (w : World) (h : Heap) : (K0 w.params).In h → model PySem.Challenge.rw_pb0333_01.row.prog w = model PySem.Challenge.rw_pb0333_01.row.prog w := by
  k_fill
  intro _; rfl
-- PRELUDE
theorem ints_nth {x : Int} {vs : List Value} {fs : List Int} (h : IntsAre vs fs) : vs.length = fs.length := h.length
theorem tail_clear {t r : Int} (h : 0 < r) : (tailAt t r).set (lnum r).toNat 0 = [0, 0, 0, 0] := by
  have a := lnum_lo r
  have b := lnum_hi r
  unfold tailAt
  rw [if_neg (by omega)]
  have hr : lnum r = 0 ∨ lnum r = 1 ∨ lnum r = 2 ∨ lnum r = 3 := by omega
  rcases hr with e | e | e | e <;> rw [e] <;> rfl
theorem zero_get (q : Nat) : ([0, 0, 0, 0] : List Int).getD q 0 = 0 := by
  rcases q with _ | _ | _ | _ | q <;> rfl
theorem tail_zero {t r : Int} (h : r ≤ 0) : tailAt t r = [0, 0, 0, 0] := by unfold tailAt; rw [if_pos h]
theorem tail_put {t r : Int} (h : 0 < r) : ([0, 0, 0, 0] : List Int).set (lnum r).toNat t = tailAt t r := by unfold tailAt; rw [if_neg (by omega)]
theorem bsz_mod (x : Int) : bsz x % 16 = 0 := by unfold bsz; omega
theorem bsz_lo {x : Int} (h : 0 ≤ x) : 16 ≤ bsz x := by unfold bsz; omega
theorem bsz_ge {x : Int} (h : 0 ≤ x) : x + 8 ≤ bsz x := by unfold bsz; omega
theorem rangeSize_four (a b : Int) : Builtin.Range.rangeSize a b 4 = (((b - a + 3) / 4).toNat : Int) := by
  unfold Builtin.Range.rangeSize
  simp only [show (4 : Int) > 0 by decide, if_true]
  split <;> omega
theorem small_four {a b : Int} (ha : -(2 ^ 60) ≤ a) (ha' : a < 2 ^ 60) (hb : -(2 ^ 60) ≤ b) (hb' : b < 2 ^ 60) : Builtin.Range.small a b 4 = true := by
  unfold Builtin.Range.small
  rw [rangeSize_four]
  simp only [Builtin.Range.rangeFitsLong, Bool.and_eq_true, Bool.or_eq_true, decide_eq_true_eq, beq_iff_eq, show (4 : Int) > 0 by decide, if_true]
  omega
/-- what alloc leaves behind -/
structure AllocPost (M M' : Int → Int) (t sz r d : Int) : Prop where
  desc : M' (t / 4) = d
  zero : ∀ k, t / 4 < k → k < (t + sz) / 4 → M' k = 0
  tail1 : 0 < r - sz → M' ((t + sz) / 4) = r - sz + 1
  tail2 : 0 < r - sz → M' ((t + sz + 4) / 4) = 0
  below : ∀ k, k < t / 4 → M' k = M k
  above : ∀ k, (t + sz) / 4 + 2 ≤ k → M' k = M k
noncomputable def zeroed (M : Int → Int) (a : Int) (n : Nat) : Int → Int := fun k => if a ≤ k ∧ k < a + n then 0 else M k
theorem zeroed_zero {M : Int → Int} {a : Int} : zeroed M a 0 = M := by
  funext k; unfold zeroed; rw [if_neg (by omega)]
theorem zeroed_succ {M : Int → Int} {a : Int} {n : Nat} : upd (zeroed M a n) (a + n) 0 = zeroed M a (n + 1) := by
  funext k
  show (if k = a + n then 0 else if a ≤ k ∧ k < a + n then 0 else M k) = if a ≤ k ∧ k < a + (n + 1 : Nat) then 0 else M k
  by_cases h1 : k = a + n
  · rw [if_pos h1, if_pos (by omega)]
  · rw [if_neg h1]
    by_cases h2 : a ≤ k ∧ k < a + n
    · rw [if_pos h2, if_pos (by omega)]
    · rw [if_neg h2, if_neg (by omega)]
noncomputable def JZ (w : World) (M : Int → Int) (a : Int) (i : Nat) (_ : Str → Option Value) (o : Obj) : Prop := MemIs w o (zeroed M a i)
theorem memZ {w : World} {o : Obj} {M : Int → Int} {a : Int} {m : Str → Option Value} (h : MemIs w o M) : JZ w M a 0 m o := by
  unfold JZ; rw [zeroed_zero]; exact h
theorem calmC4 : True := by
  w_top off
  trivial
section
variable {w : World} {p : Program} {loose : List Str} {mean : ExcName → Option Value} {mg mb : Str → Option Value}
  {dp un : Nat} {gd : Option (List Code)} {cn : Str} {cs : Scope} {a : Addr} {ccd : Value} {cl : List (Str × Addr)} {outer : List Env} {A₀ : Around} {base h₀ : Heap} {L : Addr} {m : Str → Option Value} {s : Shared} {Q E : Value → Shared → Prop}
  {ms md wd : Addr} {h1 h2 : Int} {t1 t2 t3 : Tok} {ow : Obj} {M : Int → Int}
  {hp dh fl : Addr} {k1 k2 k3 k4 : Int} {u1 u2 u3 u4 v2 v3 : Tok} {start limit : Int} {vs : List Value} {fs : List Int} {nf : Nat} {g : Obj → Obj → List (Addr × Obj)}


theorem put_free_z {b sz : Int} {ta tb : Tok} (B : Below A₀ base outer h₀) (F : Fr h₀ L s.heap m) (X : (K0 w.params).In h₀) (N : News h₀ L s.heap (g ow (listOf vs.toArray nf))) (T : Top p loose mean mg mb h₀) (hk : cs.kind = .function)
    (hdp : dp + 3 < recursionLimit) (hu : un + 24 < cLine) (G : Two g wd fl)
    (hms : ∀ o1 o2, (ms, instObj 210 md) ∈ g o1 o2) (hmd : ∀ o1 o2, (md, dictOf (memEs h1 h2 t1 t2 t3 wd) 2) ∈ g o1 o2)
    (hhp : ∀ o1 o2, (hp, instObj 108 dh) ∈ g o1 o2) (hdh : ∀ o1 o2, (dh, dictOf (heapEs k1 k2 k3 k4 u1 u2 u3 u4 v2 v3 ms fl start limit) 4) ∈ g o1 o2)
    (lo : (wd == sysModules) = false) (hM : MemIs w ow M) (hfs : IntsAre vs [0, 0, 0, 0])
    (ha0 : 0 ≤ b) (ha1 : b + 4 < 4096) (hs0 : 0 < sz) (hs1 : sz < 4096)
    (hret : ∀ (h' : Heap) (tk' : Nat) (o' : Obj) (vs' : List Value), Fr h₀ L h' m → News h₀ L h' (g o' (listOf vs'.toArray nf)) → IntsAre vs' (tailAt b sz) → MemIs w o' (upd (upd M (b / 4) (sz + 1)) ((b + 4) / 4) 0) → Q .none { s with heap := h', toks := tk' }) :
    wpAny (model PySem.Challenge.rw_pb0333_01.row.prog w) (ktrTop dp un gd cn cs L a ccd cl outer) (call (.ref 56) [.ref hp, .int b ta, .int sz tb]) Q E s := by
  refine put_free_c B F X N T hk hdp hu G hms hmd hhp hdh lo hM hfs rfl (by rw [zero_get]; decide) (by rw [zero_get]; decide) ha0 ha1 (by omega) hs1 fun h' tk' o' F' N' M' => ?_
  rw [zero_get] at M'
  refine hret h' tk' o' _ F' N' ?_ M'
  have h := ints_set (x := b) (u := ta) hfs (lnum sz).toNat
  rw [tail_put hs0] at h
  exact h
theorem take_hit_z {t r sz : Int} {tb : Tok} (B : Below A₀ base outer h₀) (F : Fr h₀ L s.heap m) (X : (K0 w.params).In h₀) (N : News h₀ L s.heap (g ow (listOf vs.toArray nf))) (T : Top p loose mean mg mb h₀) (hk : cs.kind = .function)
    (hdp : dp + 4 < recursionLimit) (hu : un + 32 < cLine) (G : Two g wd fl)
    (hms : ∀ o1 o2, (ms, instObj 210 md) ∈ g o1 o2) (hmd : ∀ o1 o2, (md, dictOf (memEs h1 h2 t1 t2 t3 wd) 2) ∈ g o1 o2)
    (hhp : ∀ o1 o2, (hp, instObj 108 dh) ∈ g o1 o2) (hdh : ∀ o1 o2, (dh, dictOf (heapEs k1 k2 k3 k4 u1 u2 u3 u4 v2 v3 ms fl start limit) 4) ∈ g o1 o2)
    (lo : (wd == sysModules) = false) (hM : MemIs w ow M) (hfs : IntsAre vs (tailAt t r))
    (ht0 : 0 < t) (ht1 : t + 4 < 4096) (hb : BlkAt M t r none) (hnx : M ((t + 4) / 4) = 0) (hr0 : 0 < r) (hs0 : 0 ≤ sz) (hs1 : sz ≤ r)
    (hret : ∀ (h' : Heap) (tk' : Nat) (t'' : Tok) (vs' : List Value), Fr h₀ L h' m → News h₀ L h' (g ow (listOf vs'.toArray nf)) → IntsAre vs' [0, 0, 0, 0] → Q (.int t t'') { s with heap := h', toks := tk' }) :
    wpAny (model PySem.Challenge.rw_pb0333_01.row.prog w) (ktrTop dp un gd cn cs L a ccd cl outer) (call (.ref 84) [.ref hp, .int sz tb]) Q E s := by
  refine take_hit_c B F X N T hk hdp hu G hms hmd hhp hdh lo hM hfs ht0 ht1 hb hnx hr0 hs0 hs1 fun h' tk' t' t'' F' N' => ?_
  refine hret h' tk' t'' _ F' N' ?_
  have h := ints_set (x := 0) (u := t') hfs (lnum r).toNat
  rw [tail_clear hr0] at h
  exact h
local macro_rules | `(tactic| walk_at "mine heap") => `(tactic| (
  (case G => first | assumption | ktn_no "mine: the two holes");
  (case m1 => first | assumption | (intro _ _; k_mem)); (case m2 => first | assumption | (intro _ _; k_mem)); (case m6 => first | assumption | (intro _ _; k_mem)); (case m7 => first | assumption | (intro _ _; k_mem));
  (case m3 => k_asm); (case m5 => k_asm); (case fs => first | k_asm | ktn_no "mine: the free lists")))
local macro_rules | `(tactic| walk_at "call ref") => `(tactic| ((with_reducible show wpAny _ _ (call (Value.ref 56) _) _ _ _); k_dflt (refine' put_free_z ?kB ?kF ?kX ?kN ?kT ?kK ?kD ?kU ?G ?m1 ?m2 ?m6 ?m7 ?m3 ?m5 ?fs ?a0 ?a1 ?a2 ?a3 ?_; walk_at "mine room"; walk_at "mine heap"; (case a0 => walk_at "mine fact"); (case a1 => walk_at "mine fact"); (case a2 => walk_at "mine fact"); (case a3 => walk_at "mine fact"); intro h9 tk9 o9 vs9 F9 N9 I9 M9; (try dsimp only at N9); (try dsimp only); (try k_fold))))
local macro_rules | `(tactic| walk_at "call ref") => `(tactic| ((with_reducible show wpAny _ _ (call (Value.ref 84) _) _ _ _); k_dflt (refine' take_hit_z ?kB ?kF ?kX ?kN ?kT ?kK ?kD ?kU ?G ?m1 ?m2 ?m6 ?m7 ?m3 ?m5 ?fs ?a0 ?a1 ?a2 ?a3 ?a4 ?a5 ?a6 ?_; walk_at "mine room"; walk_at "mine heap"; (case a0 => walk_at "mine fact"); (case a1 => walk_at "mine fact"); (case a2 => k_asm); (case a3 => k_asm); (case a4 => walk_at "mine fact"); (case a5 => walk_at "mine fact"); (case a6 => walk_at "mine fact"); intro h9 tk9 t9 vs9 F9 N9 I9; (try dsimp only at N9); (try dsimp only); (try k_fold))))
local macro_rules | `(tactic| walk_at "mine off") => `(tactic| (repeat' (first | exact Off.refl | refine Off.set ?_ (by simp))))
local macro_rules | `(tactic| walk_at "pyIter ref") => `(tactic| (refine stopHere ?_))
local macro_rules | `(tactic| walk_at "LpPost") => `(tactic| (dsimp only [LpPost]))
local macro_rules | `(tactic| walk_at "exec While Compare") => `(tactic| (k_here; k_dflt (refine whl_start 100 ?_)))
local macro_rules | `(tactic| walk_at "WhlIf") => `(tactic| (first | (refine WhlIf.yes (bne_yes (by omega)) ?_) | (refine WhlIf.no (bne_no (by omega)) ?_) | (refine WhlIf.yes (decide_eq_true (by omega)) ?_) | (refine WhlIf.no (decide_eq_false (by omega)) ?_)))

theorem alloc_hit_c {t r d : Int} {tb : Tok} (B : Below A₀ base outer h₀) (F : Fr h₀ L s.heap m) (X : (K0 w.params).In h₀) (N : News h₀ L s.heap (g ow (listOf vs.toArray nf))) (T : Top p loose mean mg mb h₀) (hk : cs.kind = .function)
    (hdp : dp + 5 < recursionLimit) (hu : un + 40 < cLine) (G : Two g wd fl)
    (hms : ∀ o1 o2, (ms, instObj 210 md) ∈ g o1 o2) (hmd : ∀ o1 o2, (md, dictOf (memEs h1 h2 t1 t2 t3 wd) 2) ∈ g o1 o2)
    (hhp : ∀ o1 o2, (hp, instObj 108 dh) ∈ g o1 o2) (hdh : ∀ o1 o2, (dh, dictOf (heapEs k1 k2 k3 k4 u1 u2 u3 u4 v2 v3 ms fl start limit) 4) ∈ g o1 o2)
    (lo : (wd == sysModules) = false) (hM : MemIs w ow M) (hfs : IntsAre vs (tailAt t r))
    (ht0 : 1024 ≤ t) (ht1 : t + r ≤ 1504) (ht2 : t % 16 = 0) (hr2 : r % 16 = 0) (hb : BlkAt M t r none) (hnx : M ((t + 4) / 4) = 0) (hr0 : 0 < r)
    (hd0' : 0 ≤ d) (hd1 : d < 1024) (hw0 : 0 ≤ M (d / 4)) (hw1 : M (d / 4) ≤ 4000) (hs1 : bsz (M (d / 4)) ≤ r)
    (hret : ∀ (h' : Heap) (tk' : Nat) (t'' : Tok) (o' : Obj) (vs' : List Value) (M' : Int → Int), Fr h₀ L h' m → News h₀ L h' (g o' (listOf vs'.toArray nf)) → IntsAre vs' (tailAt (t + bsz (M (d / 4))) (r - bsz (M (d / 4)))) → MemIs w o' M' → AllocPost M M' t (bsz (M (d / 4))) r d → Q (.int (t + 8) t'') { s with heap := h', toks := tk' }) :
    wpAny (model PySem.Challenge.rw_pb0333_01.row.prog w) (ktrTop dp un gd cn cs L a ccd cl outer) (call (.ref 91) [.ref hp, .int d tb]) Q E s := by
  have b1 := bsz_mod (M (d / 4))
  have b2 := bsz_lo hw0
  refine wpAny_call ?_
  k_dflt cell_enter
  k_steps
  all_goals (
    unfold Stop
    (rename IsRange _ _ _ _ _ _ _ _ => hR)
    (rename Fr _ _ _ _ => lF)
    (rename News _ _ _ _ => lN)
    (rename MemIs _ _ _ => lM)
    refine rng_indM [Str.ofString "address"] (JZ w _ ((t + 4) / 4)) rfl hR (small_four (by omega) (by omega) (by omega) (by omega)) (rangeSize_four _ _) lF lN (updA G) (memZ lM) ?_ ?_
    · intro i I it m o t' h tk hi ho hj hI F1 N1
      rw [offF_eq ho] at F1
      simp only [offF] at F1
      have hne : @LT.lt Nat _ wd I := hI (wd, _) (memA G)
      unfold JZ at hj
      (try dsimp only at N1)
      clear lF lN lM
      k_steps
      all_goals (
        (rename MemIs _ _ _ => lM)
        refine LpEnd.intro (by assumption) (by assumption) ⟨?_, _, rfl, ?_⟩
        · walk_at "mine off"
        · unfold JZ
          rw [← zeroed_succ, show (t + 4) / 4 + (i : Int) = (t + 4 + (i : Int) * 4) / 4 by omega]
          exact lM)
    · intro m o h tk ho hj F1 N1
      rw [offF_eq ho] at F1
      simp only [offF] at F1
      unfold JZ at hj
      (try dsimp only at N1 ⊢)
      clear lF lN lM
      k_steps
      all_goals (
        refine hret _ _ _ _ _ _ (by assumption) (by assumption) ?_ hj ?_
        · first
          | assumption
          | (rw [tail_zero (by omega)]; assumption)
        · constructor
          · unfold zeroed; rw [if_neg (by omega)]; unfold upd; rw [if_pos (by omega)]
          · intro k z1 z2; unfold zeroed; rw [if_pos (by omega)]
          · intro z1
            first
            | (exfalso; omega)
            | (unfold zeroed; rw [if_neg (by omega)]; unfold upd; rw [if_neg (by omega), if_neg (by omega), if_pos (by omega)])
          · intro z1
            first
            | (exfalso; omega)
            | (unfold zeroed; rw [if_neg (by omega)]; unfold upd; rw [if_neg (by omega), if_pos (by omega)])
          · intro k z1; unfold zeroed; rw [if_neg (by omega)]; unfold upd; (repeat rw [if_neg (by omega)])
          · intro k z1; unfold zeroed; rw [if_neg (by omega)]; unfold upd; (repeat rw [if_neg (by omega)])))

local macro_rules | `(tactic| walk_at "call ref") => `(tactic| ((with_reducible show wpAny _ _ (call (Value.ref 84) _) _ _ _); k_dflt (refine' take_miss_c ?kB ?kF ?kX ?kN ?kT ?kK ?kD ?kU ?G ?m1 ?m2 ?m6 ?m7 ?m3 ?m5 ?fs ?a0 ?a1 ?_; walk_at "mine room"; walk_at "mine heap"; (case a0 => assumption); (case a1 => walk_at "mine fact"); intro h9 tk9 t9 F9 N9; (try dsimp only at N9); (try dsimp only); (try k_fold))))
theorem alloc_miss_c {t r d : Int} {tb : Tok} (B : Below A₀ base outer h₀) (F : Fr h₀ L s.heap m) (X : (K0 w.params).In h₀) (N : News h₀ L s.heap (g ow (listOf vs.toArray nf))) (T : Top p loose mean mg mb h₀) (hk : cs.kind = .function)
    (hdp : dp + 5 < recursionLimit) (hu : un + 40 < cLine) (G : Two g wd fl)
    (hms : ∀ o1 o2, (ms, instObj 210 md) ∈ g o1 o2) (hmd : ∀ o1 o2, (md, dictOf (memEs h1 h2 t1 t2 t3 wd) 2) ∈ g o1 o2)
    (hhp : ∀ o1 o2, (hp, instObj 108 dh) ∈ g o1 o2) (hdh : ∀ o1 o2, (dh, dictOf (heapEs k1 k2 k3 k4 u1 u2 u3 u4 v2 v3 ms fl start limit) 4) ∈ g o1 o2)
    (lo : (wd == sysModules) = false) (hM : MemIs w ow M) (hfs : IntsAre vs (tailAt t r))
    (hb : 0 < r → 0 < t ∧ t + 4 < 4096 ∧ BlkAt M t r none ∧ M ((t + 4) / 4) = 0)
    (hd0' : 0 ≤ d) (hd1 : d < 1024) (hw0 : 0 ≤ M (d / 4)) (hw1 : M (d / 4) ≤ 4000) (hs1 : r < bsz (M (d / 4)))
    (hret : ∀ (h' : Heap) (tk' : Nat) (t'' : Tok), Fr h₀ L h' m → News h₀ L h' (g ow (listOf vs.toArray nf)) → Q (.int 0 t'') { s with heap := h', toks := tk' }) :
    wpAny (model PySem.Challenge.rw_pb0333_01.row.prog w) (ktrTop dp un gd cn cs L a ccd cl outer) (call (.ref 91) [.ref hp, .int d tb]) Q E s := by
  refine wpAny_call ?_
  k_dflt cell_enter
  k_steps
  all_goals exact hret _ _ _ (by assumption) (by assumption)
end

theorem fill4 (w : World) (h : Heap) : (K0 w.params).In h → model PySem.Challenge.rw_pb0333_01.row.prog w = model PySem.Challenge.rw_pb0333_01.row.prog w := by
  k_fill
  intro _; rfl
-- PRELUDE
end
end
end
end
end
section
local macro_rules | `(tactic| walk_at "call ref") => `(tactic| ((with_reducible show wpAny _ _ (call (Value.ref 63) _) _ _ _); k_dflt (refine' is_free_c ?kB ?kF ?kX ?kN ?kT ?kK ?kD ?kU ?m1 ?m2 ?m3 ?m4 ?m5 ?m6 ?m7 ?a0 ?a1 ?bb ?_; walk_at "mine room"; (case m1 => k_mem); (case m2 => k_mem); (case m3 => k_asm); (case m4 => k_mem); (case m5 => k_asm); (case m6 => k_mem); (case m7 => k_mem); (case a0 => walk_at "mine fact"); (case a1 => walk_at "mine fact"); (case bb => k_asm); intro t9 h9 tk9 F9 N9; (try dsimp only [Option.isNone]); (try k_fold))))
section
local macro_rules | `(tactic| walk_at "call ref") => `(tactic| ((with_reducible show wpAny _ _ (call (Value.ref 70) _) _ _ _); k_dflt (refine' descriptor_c ?kB ?kF ?kX ?kN ?kT ?kK ?kD ?kU ?m1 ?m2 ?m3 ?m4 ?m5 ?m6 ?m7 ?a0 ?a1 ?bb ?_; walk_at "mine room"; (case m1 => k_mem); (case m2 => k_mem); (case m3 => k_asm); (case m4 => k_mem); (case m5 => k_asm); (case m6 => k_mem); (case m7 => k_mem); (case a0 => walk_at "mine fact"); (case a1 => walk_at "mine fact"); (case bb => k_asm); intro t9 h9 tk9 F9 N9; (try dsimp only); (try k_fold))))

section
local macro_rules | `(tactic| k_mem) => `(tactic| first | exact mem2 (by assumption) | exact memA (by assumption) | exact memB (by assumption))
section
local macro_rules | `(tactic| k_updF) => `(tactic| first | exact updA (by assumption) | exact updB (by assumption))
section
local macro_rules | `(tactic| k_upd) => `(tactic| first | exact updA' (by assumption) | exact updB' (by assumption))


/-! blocks side by side -/
noncomputable def BChain (M : Int → Int) (limit : Int) : Int → List (Int × Option Int) → Prop
  | b, [] => b = limit
  | b, (sz, od) :: r => (16 ≤ sz ∧ sz % 16 = 0 ∧ BlkAt M b sz od) ∧ BChain M limit (b + sz) r
noncomputable def rowsFrom : Int → List (Int × Option Int) → List (Int × Int × Option Int)
  | _, [] => []
  | b, (sz, od) :: r => (b, sz, od) :: rowsFrom (b + sz) r
theorem BChain.le {M : Int → Int} {limit : Int} : ∀ {b : Int} {bl : List (Int × Option Int)}, BChain M limit b bl → b ≤ limit
  | b, [], h => Int.le_of_eq h
  | b, (sz, od) :: r, h => by
    have := BChain.le h.2
    have := h.1.1
    omega
/-- a row's tuple -/
abbrev rowObj (b sz : Int) (t1 t2 : Tok) (u : Value) (n : Nat) : Obj := { cls := .type "tuple", data := .seq #[.int b t1, .int sz t2, u] n }
noncomputable def OptV : Option Int → Value → Prop
  | none, u => u = .none
  | some d, u => ∃ t, u = .int d t
noncomputable def RowAt (tl : List (Addr × Obj)) (v : Value) (r : Int × Int × Option Int) : Prop := ∃ x t1 t2 u n, v = .ref x ∧ (x, rowObj r.1 r.2.1 t1 t2 u n) ∈ tl ∧ OptV r.2.2 u
inductive RowsIn (tl : List (Addr × Obj)) : List Value → List (Int × Int × Option Int) → Prop
  | nil : RowsIn tl [] []
  | cons {v : Value} {r : Int × Int × Option Int} {vs : List Value} {rs : List (Int × Int × Option Int)} : RowAt tl v r → RowsIn tl vs rs → RowsIn tl (v :: vs) (r :: rs)
theorem RowAt.mono {tl tl' : List (Addr × Obj)} {v : Value} {r : Int × Int × Option Int} (h : RowAt tl v r) (hs : ∀ p ∈ tl, p ∈ tl') : RowAt tl' v r := by
  obtain ⟨x, t1, t2, u, n, a, b, c⟩ := h
  exact ⟨x, t1, t2, u, n, a, hs _ b, c⟩
theorem RowsIn.mono {tl tl' : List (Addr × Obj)} {vs : List Value} {rs : List (Int × Int × Option Int)} (h : RowsIn tl vs rs) (hs : ∀ p ∈ tl, p ∈ tl') : RowsIn tl' vs rs := by
  induction h with
  | nil => exact .nil
  | cons h _ ih => exact .cons (h.mono hs) ih
theorem RowsIn.snoc {tl : List (Addr × Obj)} {v : Value} {r : Int × Int × Option Int} {vs : List Value} {rs : List (Int × Int × Option Int)} (h : RowsIn tl vs rs) (hv : RowAt tl v r) : RowsIn tl (vs ++ [v]) (rs ++ [r]) := by
  induction h with
  | nil => exact .cons hv .nil
  | cons h _ ih => exact .cons h ih
theorem RowsIn.len {tl : List (Addr × Obj)} {vs : List Value} {rs : List (Int × Int × Option Int)} (h : RowsIn tl vs rs) : vs.length = rs.length := by
  induction h with
  | nil => rfl
  | cons _ _ ih => simp [ih]
theorem rowsFrom_len : ∀ (b : Int) (bl : List (Int × Option Int)), (rowsFrom b bl).length = bl.length
  | _, [] => rfl
  | b, (sz, od) :: r => by simp [rowsFrom, rowsFrom_len (b + sz) r]

theorem memApp {x : Addr × Obj} {l r : List (Addr × Obj)} (h : x ∈ l) : x ∈ l ++ r := List.mem_append.mpr (.inl h)
noncomputable def BlkJ (M : Int → Int) (limit start : Int) (bl₀ : List (Int × Option Int)) (lf : Addr) (news : List (Addr × Obj)) (m₀ : Str → Option Value) (bl : List (Int × Option Int)) (m : Str → Option Value) (nw : List (Addr × Obj)) : Prop :=
  Off [Str.ofString "block", Str.ofString "size"] m m₀ ∧ ∃ b tb vs n ext done, m (Str.ofString "block") = some (.int b tb) ∧ start ≤ b ∧ BChain M limit b bl ∧ done ++ rowsFrom b bl = rowsFrom start bl₀ ∧
    nw = (lf, listOf vs.toArray n) :: (news ++ ext) ∧ RowsIn ext vs done ∧ 16 * (vs.length : Int) ≤ b - 1024 ∧ (∀ p ∈ news ++ ext, p.1 ≠ lf) ∧ (∀ q ∈ news, ∀ p ∈ ext, q.1 < p.1)
theorem allLt_mem {d : Addr} : ∀ {l : List (Addr × Obj)}, AllLt d l → ∀ p ∈ l, p.1 < d := ktn_ltOf
theorem blkEnd {M : Int → Int} {limit start b sz : Int} {bl₀ r : List (Int × Option Int)} {lf D L : Addr} {news ext : List (Addr × Obj)} {m₀ m' : Str → Option Value} {od : Option Int} {u : Value} {vs : List Value} {n n' : Nat} {done : List (Int × Int × Option Int)}
    {h₀ h' : Heap} {s : Shared} {tk : Nat} {t1 t2 tb' : Tok} (F : Fr h₀ L h' m') (N : News h₀ L h' ((D, rowObj b sz t1 t2 u n') :: (lf, listOf (vs.toArray.push (.ref D)) (n + 1)) :: (news ++ ext))) (l9 : lf < D ∧ AllLt D (news ++ ext))
    (ho : Off [Str.ofString "block", Str.ofString "size"] m' m₀) (hblk : m' (Str.ofString "block") = some (.int (b + sz) tb')) (hop : OptV od u) (hsb : start ≤ b) (hsz : 16 ≤ sz) (hch : BChain M limit (b + sz) r)
    (hrows : done ++ rowsFrom b ((sz, od) :: r) = rowsFrom start bl₀) (hin : RowsIn ext vs done) (hlen : 16 * (vs.length : Int) ≤ b - 1024) (hoff : ∀ p ∈ news ++ ext, p.1 ≠ lf) (hord : ∀ q ∈ news, ∀ p ∈ ext, q.1 < p.1) :
    WlEnd h₀ L s (BlkJ M limit start bl₀ lf news m₀) List.length ((sz, od) :: r) { s with heap := h', toks := tk } := by
  refine ⟨r, h', tk, m', (lf, listOf (vs ++ [Value.ref D]).toArray (n + 1)) :: (news ++ (ext ++ [(D, rowObj b sz t1 t2 u n')])), by simp, rfl, F, ?_, ho, b + sz, tb', vs ++ [Value.ref D], n + 1, ext ++ [(D, rowObj b sz t1 t2 u n')], done ++ [(b, sz, od)], hblk, by omega, hch, ?_, rfl, ?_, ?_, ?_, ?_⟩
  · intro p hp
    refine N p ?_
    rw [show (vs ++ [Value.ref D]).toArray = vs.toArray.push (.ref D) by simp] at hp
    rcases List.mem_cons.mp hp with rfl | hp
    · exact .tail _ (.head _)
    · rcases List.mem_append.mp hp with hp | hp
      · exact .tail _ (.tail _ (List.mem_append.mpr (.inl hp)))
      · rcases List.mem_append.mp hp with hp | hp
        · exact .tail _ (.tail _ (List.mem_append.mpr (.inr hp)))
        · rw [List.mem_singleton.mp hp]; exact .head _
  · rw [← hrows]; simp [rowsFrom]
  · exact (hin.mono fun p hp => List.mem_append.mpr (.inl hp)).snoc ⟨D, t1, t2, u, n', rfl, List.mem_append.mpr (.inr (List.mem_singleton.mpr rfl)), hop⟩
  · simp only [List.length_append, List.length_singleton]
    omega
  · intro p hp
    rcases List.mem_append.mp hp with hp | hp
    · exact hoff p (List.mem_append.mpr (.inl hp))
    · rcases List.mem_append.mp hp with hp | hp
      · exact hoff p (List.mem_append.mpr (.inr hp))
      · rw [List.mem_singleton.mp hp]; exact Nat.ne_of_gt l9.1
  · intro q hq p hp
    rcases List.mem_append.mp hp with hp | hp
    · exact hord q hq p hp
    · rw [List.mem_singleton.mp hp]
      exact allLt_mem l9.2 q (List.mem_append.mpr (.inl hq))
theorem calmC5 : True := by
  w_top off
  trivial
section
variable {w : World} {p : Program} {loose : List Str} {mean : ExcName → Option Value} {mg mb : Str → Option Value}
  {dp un : Nat} {gd : Option (List Code)} {cn : Str} {cs : Scope} {a : Addr} {ccd : Value} {cl : List (Str × Addr)} {outer : List Env} {A₀ : Around} {base h₀ : Heap} {L : Addr} {m : Str → Option Value} {s : Shared} {Q E : Value → Shared → Prop}
  {news : List (Addr × Obj)} {ms md wd : Addr} {h1 h2 : Int} {t1 t2 t3 : Tok} {ow : Obj} {M : Int → Int}
  {hp dh fl : Addr} {k1 k2 k3 k4 : Int} {u1 u2 u3 u4 v2 v3 : Tok} {start limit : Int}
local macro_rules | `(tactic| walk_at "mine off") => `(tactic| (repeat' (first | exact Off.refl | refine Off.set ?_ (by simp))))
local macro_rules | `(tactic| walk_at "exec While Compare") => `(tactic| (refine stopHere ?_))
local macro_rules | `(tactic| walk_at "WlPost") => `(tactic| (dsimp only [WlPost]))
local macro_rules | `(tactic| walk_at "WhlIf") => `(tactic| (first | (refine WhlIf.yes (bne_yes (by omega)) ?_) | (refine WhlIf.no (bne_no (by omega)) ?_) | (refine WhlIf.yes (decide_eq_true (by omega)) ?_) | (refine WhlIf.no (decide_eq_false (by omega)) ?_)))
local macro_rules | `(tactic| k_all) => `(tactic| assumption)
local macro_rules | `(tactic| k_mem) => `(tactic| first | assumption | exact memApp (by assumption))
theorem blocks_c {bl : List (Int × Option Int)} (B : Below A₀ base outer h₀) (F : Fr h₀ L s.heap m) (X : (K0 w.params).In h₀) (N : News h₀ L s.heap news) (T : Top p loose mean mg mb h₀) (hk : cs.kind = .function)
    (hdp : dp + 5 < recursionLimit) (hu : un + 40 < cLine)
    (hms : (ms, instObj 210 md) ∈ news) (hmd : (md, dictOf (memEs h1 h2 t1 t2 t3 wd) 2) ∈ news)
    (lo : (wd == sysModules) = false) (hw : (wd, ow) ∈ news) (hM : MemIs w ow M)
    (hhp : (hp, instObj 108 dh) ∈ news) (hdh : (dh, dictOf (heapEs k1 k2 k3 k4 u1 u2 u3 u4 v2 v3 ms fl start limit) 4) ∈ news)
    (hs0 : 1024 ≤ start) (hl0 : limit ≤ 1504) (hb : BChain M limit start bl)
    (hret : ∀ (h' : Heap) (tk' : Nat) (lf : Addr) (vs : List Value) (n : Nat) (ext : List (Addr × Obj)), Fr h₀ L h' m → News h₀ L h' ((lf, listOf vs.toArray n) :: (news ++ ext)) →
      (∀ q ∈ news, q.1 < lf) → (∀ q ∈ news, ∀ p ∈ ext, q.1 < p.1) → (∀ p ∈ ext, p.1 ≠ lf) → RowsIn ext vs (rowsFrom start bl) → Q (.ref lf) { s with heap := h', toks := tk' }) :
    wpAny (model PySem.Challenge.rw_pb0333_01.row.prog w) (ktrTop dp un gd cn cs L a ccd cl outer) (call (.ref 98) [.ref hp]) Q E s := by
  refine wpAny_call ?_
  k_dflt cell_enter
  k_steps
  unfold Stop
  (rename Fr _ _ _ _ => lF)
  (rename News _ _ _ _ => lN)
  (rename (∀ p ∈ news, p.1 < _) => l1)
  refine whl_ind (BlkJ M limit start bl _ news _) List.length bl (by passes_own) lF lN ⟨.refl, start, _, [], 0, [], [], rfl, by omega, hb, rfl, congrArg (List.cons _) (List.append_nil news).symm, .nil, by simp; omega, ?_, ?_⟩ ?_
  · intro q hq
    rw [List.append_nil] at hq
    exact Nat.ne_of_lt (l1 q hq)
  · intro _ _ _ hp; nomatch hp
  · rintro bl' m nw h tk ⟨ho, b, tb, vs, n, ext, done, hblk, hsb, hch, hrows, rfl, hin, hlen, hoff, hord⟩ F1 N1
    rw [offF_eq ho] at F1
    simp only [offF, hblk] at F1
    clear lF lN
    cases bl' with
    | nil =>
      have e : b = limit := hch
      have e2 : done = rowsFrom start bl := by simpa [rowsFrom] using hrows
      rw [e2] at hin
      k_steps
      all_goals exact hret _ _ _ _ _ ext (by assumption) (by assumption) l1 hord (fun p hp => hoff p (List.mem_append.mpr (.inr hp))) hin
    | cons x r =>
      obtain ⟨sz, od⟩ := x
      obtain ⟨⟨c1, c2, c3⟩, hch'⟩ := hch
      have c4 := hch'.le
      cases od with
      | none =>
        k_steps
        all_goals (
          (rename (_ ∧ AllLt _ _) => l9)
          refine blkEnd (by assumption) (by assumption) l9 ?_ (by rfl) rfl hsb c1 hch' hrows hin hlen hoff hord
          walk_at "mine off")
      | some d =>
        k_steps
        all_goals (
          (rename (_ ∧ AllLt _ _) => l9)
          refine blkEnd (by assumption) (by assumption) l9 ?_ (by rfl) ⟨_, rfl⟩ hsb c1 hch' hrows hin hlen hoff hord
          walk_at "mine off")
end

theorem fill5 (w : World) (h : Heap) : (K0 w.params).In h → model PySem.Challenge.rw_pb0333_01.row.prog w = model PySem.Challenge.rw_pb0333_01.row.prog w := by
  k_fill
  intro _; rfl
-- PRELUDE
end
end
end
end
end
end
end
end
end
section
local macro_rules | `(tactic| walk_at "ite") => `(tactic| (k_here; k_openite; first | refine ite_pos (decide_eq_true (by omega)) ?_ | refine ite_isFalse (decide_eq_false (by omega)) ?_ | refine ite_pos (bne_yes (by omega)) ?_ | refine ite_isFalse (bne_no (by omega)) ?_ | refine ite_pos (by omega) ?_ | refine ite_neg (by omega) ?_))
section
local macro_rules | `(tactic| walk_at "call ref") => `(tactic| ((with_reducible show wpAny _ _ (call (Value.ref 28) _) _ _ _); k_dflt (refine' block_size_c ?kB ?kF ?kX ?kN ?kT ?kK ?kD ?kU ?a0 ?a1 ?_; walk_at "mine room"; (case a0 => walk_at "mine fact"); (case a1 => walk_at "mine fact"); intro t9 h9 tk9 F9 N9; (try dsimp only); (try k_fold))))
section
local macro_rules | `(tactic| walk_at "call ref") => `(tactic| ((with_reducible show wpAny _ _ (call (Value.ref 35) _) _ _ _); k_dflt (refine' list_number_c ?kB ?kF ?kX ?kN ?kT ?kK ?kD ?kU ?_; walk_at "mine room"; intro t9 h9 tk9 F9 N9; (try dsimp only); (try k_fold))))
section
local macro_rules | `(tactic| walk_at "call ref") => `(tactic| ((with_reducible show wpAny _ _ (call (Value.ref 77) _) _ _ _); k_dflt (refine' size_of_c ?kB ?kF ?kX ?kN ?kT ?kK ?kD ?kU ?m1 ?m2 ?m3 ?m4 ?m5 ?m6 ?m7 ?a0 ?a1 ?bb ?_; walk_at "mine room"; (case m1 => k_mem); (case m2 => k_mem); (case m3 => k_asm); (case m4 => k_mem); (case m5 => k_asm); (case m6 => k_mem); (case m7 => k_mem); (case a0 => walk_at "mine fact"); (case a1 => walk_at "mine fact"); (case bb => k_asm); intro t9 h9 tk9 F9 N9; (try dsimp only); (try k_fold))))
section
local macro_rules | `(tactic| walk_at "call ref") => `(tactic| ((with_reducible show wpAny _ _ (call (Value.ref 63) _) _ _ _); k_dflt (refine' is_free_c ?kB ?kF ?kX ?kN ?kT ?kK ?kD ?kU ?m1 ?m2 ?m3 ?m4 ?m5 ?m6 ?m7 ?a0 ?a1 ?bb ?_; walk_at "mine room"; (case m1 => k_mem); (case m2 => k_mem); (case m3 => k_asm); (case m4 => k_mem); (case m5 => k_asm); (case m6 => k_mem); (case m7 => k_mem); (case a0 => walk_at "mine fact"); (case a1 => walk_at "mine fact"); (case bb => k_asm); intro t9 h9 tk9 F9 N9; (try dsimp only [Option.isNone]); (try k_fold))))
section
local macro_rules | `(tactic| walk_at "call ref") => `(tactic| ((with_reducible show wpAny _ _ (call (Value.ref 70) _) _ _ _); k_dflt (refine' descriptor_c ?kB ?kF ?kX ?kN ?kT ?kK ?kD ?kU ?m1 ?m2 ?m3 ?m4 ?m5 ?m6 ?m7 ?a0 ?a1 ?bb ?_; walk_at "mine room"; (case m1 => k_mem); (case m2 => k_mem); (case m3 => k_asm); (case m4 => k_mem); (case m5 => k_asm); (case m6 => k_mem); (case m7 => k_mem); (case a0 => walk_at "mine fact"); (case a1 => walk_at "mine fact"); (case bb => k_asm); intro t9 h9 tk9 F9 N9; (try dsimp only); (try k_fold))))

section
local macro_rules | `(tactic| k_mem) => `(tactic| first | exact mem2 (by assumption) | exact memA (by assumption) | exact memB (by assumption))
section
local macro_rules | `(tactic| k_updF) => `(tactic| first | exact updA (by assumption) | exact updB (by assumption))
section
local macro_rules | `(tactic| k_upd) => `(tactic| first | exact updA' (by assumption) | exact updB' (by assumption))

section
local macro_rules | `(tactic| walk_at "call ref") => `(tactic| ((with_reducible show wpAny _ _ (call (Value.ref 98) _) _ _ _); k_dflt (refine' blocks_c ?kB ?kF ?kX ?kN ?kT ?kK ?kD ?kU ?m1 ?m2 ?m3 ?m4 ?m5 ?m6 ?m7 ?a0 ?a1 ?bb ?_; walk_at "mine room"; (case m1 => k_mem); (case m2 => k_mem); (case m3 => k_asm); (case m4 => k_mem); (case m5 => k_asm); (case m6 => k_mem); (case m7 => k_mem); (case a0 => walk_at "mine fact"); (case a1 => walk_at "mine fact"); (case bb => k_asm); intro h9 tk9 lf9 vs9 n9 ext9 F9 N9 lt9 or9 of9 rw9; (try dsimp only); (try k_fold))))

/-- a ledger with one hole -/
structure One (g : Obj → List (Addr × Obj)) (d : Addr) : Prop where
  u : ∀ o, UpdF d o (g o) g
theorem mem1 {g : Obj → List (Addr × Obj)} {x : Addr × Obj} {o : Obj} (h : ∀ o, x ∈ g o) : x ∈ g o := h _
theorem memS {g : Obj → List (Addr × Obj)} {d : Addr} {o : Obj} (G : One g d) : (d, o) ∈ g o := updF_mem (G.u _)
theorem updS {g : Obj → List (Addr × Obj)} {d : Addr} {o : Obj} (G : One g d) : UpdF d o (g o) g := G.u _
theorem memAR {x : Addr × Obj} {l r : List (Addr × Obj)} (h : x ∈ r) : x ∈ l ++ r := List.mem_append.mpr (.inr h)
theorem memC {x y : Addr × Obj} {l : List (Addr × Obj)} (h : x ∈ l) : x ∈ y :: l := .tail _ h
theorem updF_app {d : Addr} {o : Obj} {l ext : List (Addr × Obj)} {g : Obj → List (Addr × Obj)} (U : UpdF d o l g) (h : ∀ p ∈ ext, p.1 ≠ d) : UpdF d o (l ++ ext) (fun o => g o ++ ext) := by
  induction U with
  | head hh =>
    refine .head fun p hp => ?_
    rcases List.mem_append.mp hp with hp | hp
    · exact hh p hp
    · exact h p hp
  | tail hh _ ih => exact .tail hh ih
/-- used blocks' mark words are all μ-like -/
noncomputable def Tagged (P : Int → Prop) (M : Int → Int) : Int → List (Int × Option Int) → Prop
  | _, [] => True
  | b, (sz, none) :: r => Tagged P M (b + sz) r
  | b, (sz, some _) :: r => P (M ((b + 4) / 4)) ∧ Tagged P M (b + sz) r
noncomputable def clr : (Int → Int) → Int → List (Int × Option Int) → Int → Int
  | M, _, [] => M
  | M, b, (sz, none) :: r => clr M (b + sz) r
  | M, b, (sz, some _) :: r => clr (upd M ((b + 4) / 4) 0) (b + sz) r
abbrev pairObj (b sz : Int) (t1 t2 : Tok) (n : Nat) : Obj := { cls := .type "tuple", data := .seq #[.int b t1, .int sz t2] n }
noncomputable def RunsIn (ext : List (Addr × Obj)) (rv : List Value) : List (Int × Int) → Prop
  | [] => rv = []
  | [(t, r)] => ∃ x t1 t2 n, rv = [.ref x] ∧ (x, pairObj t r t1 t2 n) ∈ ext
  | _ => False
/-- a free block stands last, if at all -/
noncomputable def UT : List (Int × Option Int) → Prop
  | [] => True
  | (_, none) :: r => r = []
  | (_, some _) :: r => UT r
noncomputable def tailOf : Int → List (Int × Option Int) → List (Int × Int)
  | _, [] => []
  | b, (sz, none) :: _ => [(b, sz)]
  | b, (sz, some _) :: r => tailOf (b + sz) r
theorem allO {g : Obj → List (Addr × Obj)} {ext : List (Addr × Obj)} {d : Addr} {o : Obj} (h : ∀ o, ∀ p ∈ g o ++ ext, p.1 ≠ d) : ∀ p ∈ g o ++ ext, p.1 ≠ d := h o
theorem one_adr {g : Obj → List (Addr × Obj)} {d : Addr} (G : One g d) (o o' : Obj) : AdrIn (g o') (g o) := updF_adr (G.u o)
theorem one_lt {g : Obj → List (Addr × Obj)} {d x : Addr} (G : One g d) {o : Obj} (h : ∀ q ∈ g o, q.1 < x) (o' : Obj) : ∀ q ∈ g o', q.1 < x := (one_adr G o o').lt h
noncomputable def FrJ (w : World) (M : Int → Int) (limit start : Int) (us : List (Int × Option Int)) (g : Obj → List (Addr × Obj)) (ow : Obj) (wd lb lr I : Addr) (vs : List Value) (n : Nat) (m₀ : Str → Option Value) (r : List Itm) (m : Str → Option Value) (nw : List (Addr × Obj)) : Prop :=
  Off [Str.ofString "block", Str.ofString "size", Str.ofString "descriptor", Str.ofString "behind"] m m₀ ∧ ∃ b bl vs' rv nr o Mc ext,
    r = vs'.map .val ∧ RowsIn ext vs' (rowsFrom b bl) ∧ (BChain M limit b bl ∧ b % 16 = 0 ∧ start ≤ b) ∧ (∀ k, b / 4 ≤ k → Mc k = M k) ∧ Tagged (fun x => x ≠ 0) M b bl ∧ clr Mc b bl = clr M start us ∧ MemIs w o Mc ∧
    nw = (lb, listOf vs.toArray n) :: (lr, listOf rv.toArray nr) :: (g o ++ ext) ∧
    ((rv = [] ∧ UT bl ∧ tailOf b bl = tailOf start us) ∨ (bl = [] ∧ RunsIn ext rv (tailOf start us))) ∧
    (∀ q ∈ g ow, ∀ p ∈ ext, q.1 < p.1) ∧ (∀ p ∈ ext, p.1 ≠ lb ∧ p.1 ≠ lr ∧ p.1 ≠ I) ∧ (@LT.lt Nat _ lr lb ∧ @LT.lt Nat _ lb I)
theorem drop2 {h₀ h : Heap} {L : Addr} {a b : Addr × Obj} {l : List (Addr × Obj)} (N : News h₀ L h (a :: b :: l)) : News h₀ L h (a :: l) := fun p hp => N p (by
  rcases List.mem_cons.mp hp with rfl | hp
  · exact .head _
  · exact .tail _ (.tail _ hp))
theorem frEnd1 {w : World} {M Mc : Int → Int} {limit start b sz : Int} {us : List (Int × Option Int)} {g : Obj → List (Addr × Obj)} {ow o it : Obj} {wd lb lr I D L : Addr} {vs vs2 : List Value} {n nr nT : Nat} {m₀ m' : Str → Option Value} {ext : List (Addr × Obj)}
    {h₀ h' : Heap} {s : Shared} {tk : Nat} {s1 s2 : Tok} (F : Fr h₀ L h' m')
    (N : News h₀ L h' ((D, pairObj b sz s1 s2 nT) :: (I, it) :: (lb, listOf vs.toArray n) :: (lr, listOf (#[].push (Value.ref D)) (nr + 1)) :: (g o ++ ext))) (l9 : @LT.lt Nat _ I D ∧ @LT.lt Nat _ lb D ∧ @LT.lt Nat _ lr D ∧ AllLt D (g o ++ ext))
    (ho : Off [Str.ofString "block", Str.ofString "size", Str.ofString "descriptor", Str.ofString "behind"] m' m₀) (hin : RowsIn ext vs2 (rowsFrom (b + sz) [])) (hch : BChain M limit (b + sz) [] ∧ (b + sz) % 16 = 0 ∧ start ≤ b + sz)
    (hMc : ∀ k, (b + sz) / 4 ≤ k → Mc k = M k) (hmk : Tagged (fun x => x ≠ 0) M (b + sz) []) (hclr : clr Mc (b + sz) [] = clr M start us) (hM : MemIs w o Mc) (htl : tailOf start us = [(b, sz)])
    (hord : ∀ q ∈ g ow, ∀ p ∈ ext, q.1 < p.1) (hoff : ∀ p ∈ ext, p.1 ≠ lb ∧ p.1 ≠ lr ∧ p.1 ≠ I) (h3 : @LT.lt Nat _ lr lb) (h4 : @LT.lt Nat _ lb I) (G : One g wd := by assumption) :
    LpEnd h₀ L [(I, it)] s (FrJ w M limit start us g ow wd lb lr I vs n m₀ (vs2.map .val)) { s with heap := h', toks := tk } := by
  refine LpEnd.intro (news' := (lb, listOf vs.toArray n) :: (lr, listOf [Value.ref D].toArray (nr + 1)) :: (g o ++ (ext ++ [(D, pairObj b sz s1 s2 nT)]))) F (fun p hp => N p ?_)
    ⟨ho, b + sz, [], vs2, [.ref D], nr + 1, o, Mc, ext ++ [(D, pairObj b sz s1 s2 nT)], rfl, hin.mono (fun p hp => List.mem_append.mpr (.inl hp)), hch, hMc, hmk, hclr, hM, rfl, .inr ⟨rfl, ?_⟩, ?_, ?_, h3, h4⟩
  · rcases List.mem_cons.mp hp with rfl | hp
    · exact .tail _ (.head _)
    · rcases List.mem_cons.mp hp with rfl | hp
      · exact .tail _ (.tail _ (.head _))
      · rcases List.mem_cons.mp hp with rfl | hp
        · exact .tail _ (.tail _ (.tail _ (.head _)))
        · rcases List.mem_append.mp hp with hp | hp
          · exact .tail _ (.tail _ (.tail _ (.tail _ (List.mem_append.mpr (.inl hp)))))
          · rcases List.mem_append.mp hp with hp | hp
            · exact .tail _ (.tail _ (.tail _ (.tail _ (List.mem_append.mpr (.inr hp)))))
            · rw [List.mem_singleton.mp hp]; exact .head _
  · rw [htl]
    exact ⟨D, s1, s2, nT, rfl, List.mem_append.mpr (.inr (List.mem_singleton.mpr rfl))⟩
  · intro q hq p hp
    rcases List.mem_append.mp hp with hp | hp
    · exact hord q hq p hp
    · rw [List.mem_singleton.mp hp]
      obtain ⟨q', hq', e⟩ := one_adr G o ow q hq
      show @LT.lt Nat _ q.1 D
      rw [← e]
      exact allLt_mem l9.2.2.2 q' (List.mem_append.mpr (.inl hq'))
  · intro p hp
    rcases List.mem_append.mp hp with hp | hp
    · exact hoff p hp
    · rw [List.mem_singleton.mp hp]
      exact ⟨Nat.ne_of_gt l9.2.1, Nat.ne_of_gt l9.2.2.1, Nat.ne_of_gt l9.1⟩
theorem calmC6 : True := by
  w_top off
  trivial
section
variable {w : World} {p : Program} {loose : List Str} {mean : ExcName → Option Value} {mg mb : Str → Option Value}
  {dp un : Nat} {gd : Option (List Code)} {cn : Str} {cs : Scope} {a : Addr} {ccd : Value} {cl : List (Str × Addr)} {outer : List Env} {A₀ : Around} {base h₀ : Heap} {L : Addr} {m : Str → Option Value} {s : Shared} {Q E : Value → Shared → Prop}
  {g : Obj → List (Addr × Obj)} {ms md wd : Addr} {h1 h2 : Int} {t1 t2 t3 : Tok} {ow : Obj} {M : Int → Int}
  {hp dh fl : Addr} {k1 k2 k3 k4 : Int} {u1 u2 u3 u4 v2 v3 : Tok} {start limit : Int}
local macro_rules | `(tactic| walk_at "mine off") => `(tactic| (repeat' (first | exact Off.refl | refine Off.set ?_ (by simp))))
local macro_rules | `(tactic| walk_at "LpPost") => `(tactic| (dsimp only [LpPost]))
local macro_rules | `(tactic| walk_at "pyIter ref") => `(tactic| (refine stopHere ?_))
local macro_rules | `(tactic| walk_at "exec For Tuple Call") => `(tactic| (k_here; (rename Fr _ _ _ _ => lF'); (with_unfolding_all refine For_turns lF' ?_ ?ks ?kE); (case ks => (intro _; with_unfolding_all rfl)); (case kE => first | passes_own | with_unfolding_all passes_own)))
local macro_rules | `(tactic| k_all) => `(tactic| first | assumption | exact allO (by assumption))
local macro_rules | `(tactic| k_updF) => `(tactic| first | exact updS (by assumption) | exact updF_app (updS (by assumption)) (by assumption))
local macro_rules | `(tactic| k_mem) => `(tactic| first | assumption | exact mem1 (by assumption) | exact memS (by assumption) | exact memApp (mem1 (by assumption)) | exact memApp (memS (by assumption)) | exact memAR (by assumption))

theorem free_runs_marked_c {us : List (Int × Option Int)} (B : Below A₀ base outer h₀) (F : Fr h₀ L s.heap m) (X : (K0 w.params).In h₀) (N : News h₀ L s.heap (g ow)) (T : Top p loose mean mg mb h₀) (hk : cs.kind = .function)
    (hdp : dp + 6 < recursionLimit) (hu : un + 48 < cLine) (G : One g wd)
    (hms : ∀ o, (ms, instObj 210 md) ∈ g o) (hmd : ∀ o, (md, dictOf (memEs h1 h2 t1 t2 t3 wd) 2) ∈ g o)
    (lo : (wd == sysModules) = false) (hM : MemIs w ow M)
    (hhp : ∀ o, (hp, instObj 108 dh) ∈ g o) (hdh : ∀ o, (dh, dictOf (heapEs k1 k2 k3 k4 u1 u2 u3 u4 v2 v3 ms fl start limit) 4) ∈ g o)
    (hs0 : 1024 ≤ start) (hs16 : start % 16 = 0) (hl0 : limit ≤ 1504) (hb : BChain M limit start us) (hut : UT us) (hmk : Tagged (fun x => x ≠ 0) M start us)
    (hret : ∀ (h' : Heap) (tk' : Nat) (T lr : Addr) (rv : List Value) (nr nT : Nat) (o' : Obj) (ext : List (Addr × Obj)) (tf : Tok), Fr h₀ L h' m →
      News h₀ L h' ((T, { cls := .type "tuple", data := .seq #[.ref lr, .int 0 tf] nT }) :: (lr, listOf rv.toArray nr) :: (g o' ++ ext)) →
      (∀ q ∈ g ow, q.1 < T ∧ q.1 < lr ∧ ∀ p ∈ ext, q.1 < p.1) → MemIs w o' (clr M start us) → RunsIn ext rv (tailOf start us) → Q (.ref T) { s with heap := h', toks := tk' }) :
    wpAny (model PySem.Challenge.rw_pb0333_01.row.prog w) (ktrTop dp un gd cn cs L a ccd cl outer) (call (.ref 119) [.ref hp]) Q E s := by
  refine wpAny_call ?_
  k_dflt cell_enter
  k_steps
  unfold Stop
  (rename Fr _ _ _ _ => lF)
  (rename News _ _ _ _ => lN)
  (rename (∀ q ∈ g ow, q.1 < _) => lr1)
  (rename RowsIn _ _ _ => rw9)
  (rename (∀ q ∈ _ :: g ow, q.1 < _) => lb1)
  (rename (∀ q ∈ _ :: g ow, ∀ p ∈ (_ : List (Addr × Obj)), _) => or1)
  (rename (∀ p ∈ (_ : List (Addr × Obj)), p.1 ≠ _) => of1)
  refine iter_listTurns rfl lF lN (.head _) rfl rfl fun I hI => ?_
  have hIlb := hI _ (.head _)
  have hlrlb := lb1 _ (.head _)
  refine itm_ind (FrJ w M limit start us g ow wd _ _ I _ _ _) ?_ ?_ ?_ ?_ _ _ _ ⟨.refl, start, us, _, [], 0, ow, M, _, rfl, rw9, ⟨hb, hs16, Int.le_refl _⟩, fun _ _ => rfl, hmk, rfl, hM, rfl, .inl ⟨rfl, hut, rfl⟩, fun q hq => or1 q (.tail _ hq), fun p hp => ⟨of1 p hp, Nat.ne_of_gt (or1 _ (.head _) p hp), Nat.ne_of_lt (hI p (.tail _ (List.mem_append.mpr (.inr hp))))⟩, hlrlb, hIlb⟩
  · rintro r m nw ⟨-, b, bl, vs', rv, nr, o, Mc, ext, -, -, -, -, -, -, -, rfl, -⟩
    exact ⟨.head _, trivial⟩
  · rintro r m nw ⟨-, b, bl, vs', rv, nr, o, Mc, ext, -, -, -, -, -, -, -, rfl, -, -, hoff, h3, h4⟩ p hp q hq
    rw [List.mem_singleton.mp hq]
    rcases List.mem_cons.mp hp with rfl | hp
    · exact Nat.ne_of_lt h4
    · rcases List.mem_cons.mp hp with rfl | hp
      · exact Nat.ne_of_lt (Nat.lt_trans h3 h4)
      · rcases List.mem_append.mp hp with hp | hp
        · exact Nat.ne_of_lt (one_lt G (fun q hq => hI q (.tail _ (List.mem_append.mpr (.inl (.tail _ hq))))) o p hp)
        · exact (hoff p hp).2.2
  · rintro a r m nw v h tk ⟨ho, b, bl, vs', rv, nr, o, Mc, ext, hr, hrows, ⟨hch, hb16, hsb⟩, hMc, hmk', hclr, hM', rfl, hph, hord, hoff, h3, h4⟩ hv F1 it hit N1
    cases bl with
    | nil => cases hrows; simp at hr
    | cons x bl2 =>
      obtain ⟨sz, od⟩ := x
      simp only [rowsFrom] at hrows
      obtain ⟨⟨c1, c2, c3⟩, hch'⟩ := hch
      have c4 := hch'.le
      cases hrows with
      | @cons v1 _ vs2 _ hrow hrest =>
        simp only [List.map_cons, List.cons.injEq] at hr
        obtain ⟨rfl, rfl⟩ := hr
        obtain rfl : v = v1 := hv
        obtain ⟨x, s1, s2, u, nx, rfl, hx, hop⟩ := hrow
        dsimp only at hx hop
        rw [offF_eq ho] at F1
        simp only [offF] at F1
        simp only [List.cons_append, List.nil_append] at N1
        obtain ⟨rfl, hut', htl'⟩ : rv = [] ∧ UT ((sz, od) :: bl2) ∧ tailOf b ((sz, od) :: bl2) = tailOf start us := by
          rcases hph with q | q
          · exact q
          · exact absurd q.1 (by simp)
        have hwlr : @LT.lt Nat _ wd _ := lr1 (wd, _) (memS G)
        have hxw : ∀ p ∈ ext, p.1 ≠ wd := fun p hp => Nat.ne_of_gt (hord _ (memS G) p hp)
        have hlrA : ∀ o, ∀ p ∈ g o ++ ext, p.1 ≠ _ := fun o p hp => (List.mem_append.mp hp).elim (fun hp => Nat.ne_of_lt (one_lt G lr1 o p hp)) fun hp => (hoff p hp).2.1
        clear lF lN
        cases od with
        | none =>
          obtain rfl : u = .none := hop
          obtain rfl : bl2 = [] := hut'
          k_steps
          all_goals (
            (rename (_ ∧ _ ∧ _ ∧ AllLt _ _) => l9)
            refine frEnd1 (by assumption) (by assumption) l9 ?_ hrest ⟨hch', by omega, by omega⟩ (fun k hk => hMc k (by omega)) hmk' hclr hM' htl'.symm hord hoff h3 h4
            walk_at "mine off")
        | some d =>
          obtain ⟨td, rfl⟩ := hop
          have hw1 : Mc ((b + 4) / 4) ≠ 0 := by rw [hMc _ (by omega)]; exact hmk'.1
          k_steps
          all_goals (
            (rename MemIs _ _ _ => lM)
            refine LpEnd.intro (by assumption) (by assumption) ⟨?_, b + sz, bl2, vs2, [], nr, _, _, ext, rfl, hrest, ⟨hch', by omega, by omega⟩, ?_, hmk'.2, hclr, lM, rfl, .inl ⟨rfl, hut', htl'⟩, hord, hoff, h3, h4⟩
            · walk_at "mine off"
            · intro k hk
              unfold upd
              rw [if_neg (by omega)]
              exact hMc k (by omega))
  · rintro m nw h tk ⟨ho, b, bl, vs', rv, nr, o, Mc, ext, hr, hrows, ⟨hch, hb16, hsb⟩, hMc, hmk', hclr, hM', rfl, hph, hord, hoff, h3, h4⟩ F1 N1
    rw [offF_eq ho] at F1
    simp only [offF] at F1
    obtain rfl : vs' = [] := by simpa using hr.symm
    obtain rfl : bl = [] := by
      cases bl with
      | nil => rfl
      | cons x r => obtain ⟨sz, od⟩ := x; cases hrows
    have hcl : Mc = clr M start us := hclr
    rw [hcl] at hM'
    have hruns : RunsIn ext rv (tailOf start us) := by
      rcases hph with q | q
      · rw [← q.2.2, q.1]; rfl
      · exact q.2
    dsimp only
    clear lF lN
    k_steps
    all_goals (
      (rename (_ ∧ _ ∧ AllLt _ _) => l9)
      (rename News h₀ L _ _ => kN)
      exact hret _ _ _ _ rv nr _ o ext _ (by assumption) (drop2 kN) (fun q hq => ⟨Nat.lt_trans (lr1 q hq) l9.2.1, lr1 q hq, hord q hq⟩) hM' hruns)
end

theorem fill6 (w : World) (h : Heap) : (K0 w.params).In h → model PySem.Challenge.rw_pb0333_01.row.prog w = model PySem.Challenge.rw_pb0333_01.row.prog w := by
  k_fill
  intro _; rfl
-- PRELUDE
end
end
end
end
end
end
end
end
end
end
section
local macro_rules | `(tactic| walk_at "ite") => `(tactic| (k_here; k_openite; first | refine ite_pos (decide_eq_true (by omega)) ?_ | refine ite_isFalse (decide_eq_false (by omega)) ?_ | refine ite_pos (bne_yes (by omega)) ?_ | refine ite_isFalse (bne_no (by omega)) ?_ | refine ite_pos (beq_yes (by omega)) ?_ | refine ite_isFalse (beq_no (by omega)) ?_ | refine ite_pos (by omega) ?_ | refine ite_neg (by omega) ?_))
section
local macro_rules | `(tactic| walk_at "call ref") => `(tactic| ((with_reducible show wpAny _ _ (call (Value.ref 28) _) _ _ _); k_dflt (refine' block_size_c ?kB ?kF ?kX ?kN ?kT ?kK ?kD ?kU ?a0 ?a1 ?_; walk_at "mine room"; (case a0 => walk_at "mine fact"); (case a1 => walk_at "mine fact"); intro t9 h9 tk9 F9 N9; (try dsimp only); (try k_fold))))
section
local macro_rules | `(tactic| walk_at "call ref") => `(tactic| ((with_reducible show wpAny _ _ (call (Value.ref 35) _) _ _ _); k_dflt (refine' list_number_c ?kB ?kF ?kX ?kN ?kT ?kK ?kD ?kU ?_; walk_at "mine room"; intro t9 h9 tk9 F9 N9; (try dsimp only); (try k_fold))))
section
local macro_rules | `(tactic| walk_at "call ref") => `(tactic| ((with_reducible show wpAny _ _ (call (Value.ref 77) _) _ _ _); k_dflt (refine' size_of_c ?kB ?kF ?kX ?kN ?kT ?kK ?kD ?kU ?m1 ?m2 ?m3 ?m4 ?m5 ?m6 ?m7 ?a0 ?a1 ?bb ?_; walk_at "mine room"; (case m1 => k_mem); (case m2 => k_mem); (case m3 => k_asm); (case m4 => k_mem); (case m5 => k_asm); (case m6 => k_mem); (case m7 => k_mem); (case a0 => walk_at "mine fact"); (case a1 => walk_at "mine fact"); (case bb => k_asm); intro t9 h9 tk9 F9 N9; (try dsimp only); (try k_fold))))
section
local macro_rules | `(tactic| walk_at "call ref") => `(tactic| ((with_reducible show wpAny _ _ (call (Value.ref 63) _) _ _ _); k_dflt (refine' is_free_c ?kB ?kF ?kX ?kN ?kT ?kK ?kD ?kU ?m1 ?m2 ?m3 ?m4 ?m5 ?m6 ?m7 ?a0 ?a1 ?bb ?_; walk_at "mine room"; (case m1 => k_mem); (case m2 => k_mem); (case m3 => k_asm); (case m4 => k_mem); (case m5 => k_asm); (case m6 => k_mem); (case m7 => k_mem); (case a0 => walk_at "mine fact"); (case a1 => walk_at "mine fact"); (case bb => k_asm); intro t9 h9 tk9 F9 N9; (try dsimp only [Option.isNone]); (try k_fold))))
section
local macro_rules | `(tactic| walk_at "call ref") => `(tactic| ((with_reducible show wpAny _ _ (call (Value.ref 70) _) _ _ _); k_dflt (refine' descriptor_c ?kB ?kF ?kX ?kN ?kT ?kK ?kD ?kU ?m1 ?m2 ?m3 ?m4 ?m5 ?m6 ?m7 ?a0 ?a1 ?bb ?_; walk_at "mine room"; (case m1 => k_mem); (case m2 => k_mem); (case m3 => k_asm); (case m4 => k_mem); (case m5 => k_asm); (case m6 => k_mem); (case m7 => k_mem); (case a0 => walk_at "mine fact"); (case a1 => walk_at "mine fact"); (case bb => k_asm); intro t9 h9 tk9 F9 N9; (try dsimp only); (try k_fold))))

section
local macro_rules | `(tactic| k_mem) => `(tactic| first | exact mem2 (by assumption) | exact memA (by assumption) | exact memB (by assumption))
section
local macro_rules | `(tactic| k_updF) => `(tactic| first | exact updA (by assumption) | exact updB (by assumption))
section
local macro_rules | `(tactic| k_upd) => `(tactic| first | exact updA' (by assumption) | exact updB' (by assumption))

section
local macro_rules | `(tactic| walk_at "call ref") => `(tactic| ((with_reducible show wpAny _ _ (call (Value.ref 98) _) _ _ _); k_dflt (refine' blocks_c ?kB ?kF ?kX ?kN ?kT ?kK ?kD ?kU ?m1 ?m2 ?m3 ?m4 ?m5 ?m6 ?m7 ?a0 ?a1 ?bb ?_; walk_at "mine room"; (case m1 => k_mem); (case m2 => k_mem); (case m3 => k_asm); (case m4 => k_mem); (case m5 => k_asm); (case m6 => k_mem); (case m7 => k_mem); (case a0 => walk_at "mine fact"); (case a1 => walk_at "mine fact"); (case bb => k_asm); intro h9 tk9 lf9 vs9 n9 ext9 F9 N9 lt9 or9 of9 rw9; (try dsimp only); (try k_fold))))


noncomputable def usedSum : List (Int × Option Int) → Int
  | [] => 0
  | (_, none) :: r => usedSum r
  | (sz, some _) :: r => sz + usedSum r
noncomputable def FrK (M : Int → Int) (limit start : Int) (us : List (Int × Option Int)) (gl : List (Addr × Obj)) (lb lr I : Addr) (vs : List Value) (n : Nat) (m₀ : Str → Option Value) (r : List Itm) (m : Str → Option Value) (nw : List (Addr × Obj)) : Prop :=
  Off [Str.ofString "block", Str.ofString "size", Str.ofString "descriptor", Str.ofString "freed", Str.ofString "behind", Str.ofString "start", Str.ofString "length"] m m₀ ∧ ∃ b bl vs' rv nr ext fr bh tf tb,
    r = vs'.map .val ∧ RowsIn ext vs' (rowsFrom b bl) ∧ (BChain M limit b bl ∧ b % 16 = 0 ∧ start ≤ b) ∧ Tagged (fun x => x = 0) M b bl ∧
    (m (Str.ofString "freed") = some (.int fr tf) ∧ m (Str.ofString "behind") = some (.int bh tb) ∧ fr + usedSum bl = usedSum us) ∧
    nw = (lb, listOf vs.toArray n) :: (lr, listOf rv.toArray nr) :: (gl ++ ext) ∧
    ((rv = [] ∧ b = start ∧ bl = us) ∨ (bh = b ∧ start < b ∧ ∃ x t1 t2 nx, rv = [.ref x] ∧ (x, pairObj start (b - start) t1 t2 nx) ∈ ext)) ∧
    (∀ q ∈ gl, ∀ p ∈ ext, q.1 < p.1) ∧ (∀ p ∈ ext, p.1 ≠ lb ∧ p.1 ≠ lr ∧ p.1 ≠ I) ∧ (@LT.lt Nat _ lr lb ∧ @LT.lt Nat _ lb I)
theorem frEnd2 {M : Int → Int} {limit start b' st ln fr' : Int} {us bl2 : List (Int × Option Int)} {gl ext : List (Addr × Obj)} {it : Obj} {lb lr I D L : Addr} {vs vs2 : List Value} {n nr nT : Nat} {m₀ m' : Str → Option Value}
    {h₀ h' : Heap} {s : Shared} {tk : Nat} {y1 y2 tf' tb' : Tok} (F : Fr h₀ L h' m')
    (N : News h₀ L h' ((D, pairObj st ln y1 y2 nT) :: (I, it) :: (lb, listOf vs.toArray n) :: (lr, listOf (#[].push (Value.ref D)) nr) :: (gl ++ ext))) (l9 : @LT.lt Nat _ I D ∧ @LT.lt Nat _ lb D ∧ @LT.lt Nat _ lr D ∧ AllLt D (gl ++ ext))
    (ho : Off [Str.ofString "block", Str.ofString "size", Str.ofString "descriptor", Str.ofString "freed", Str.ofString "behind", Str.ofString "start", Str.ofString "length"] m' m₀)
    (hfr : m' (Str.ofString "freed") = some (.int fr' tf')) (hbh : m' (Str.ofString "behind") = some (.int b' tb')) (hst : st = start) (hln : ln = b' - start) (hsum : fr' + usedSum bl2 = usedSum us)
    (hin : RowsIn ext vs2 (rowsFrom b' bl2)) (hch : BChain M limit b' bl2 ∧ b' % 16 = 0 ∧ start ≤ b') (hlt : start < b') (hmk : Tagged (fun x => x = 0) M b' bl2)
    (hord : ∀ q ∈ gl, ∀ p ∈ ext, q.1 < p.1) (hoff : ∀ p ∈ ext, p.1 ≠ lb ∧ p.1 ≠ lr ∧ p.1 ≠ I) (h3 : @LT.lt Nat _ lr lb) (h4 : @LT.lt Nat _ lb I) :
    LpEnd h₀ L [(I, it)] s (FrK M limit start us gl lb lr I vs n m₀ (vs2.map .val)) { s with heap := h', toks := tk } := by
  subst hst hln
  refine LpEnd.intro (news' := (lb, listOf vs.toArray n) :: (lr, listOf [Value.ref D].toArray nr) :: (gl ++ (ext ++ [(D, pairObj st (b' - st) y1 y2 nT)]))) F (fun p hp => N p ?_)
    ⟨ho, b', bl2, vs2, [.ref D], nr, ext ++ [(D, pairObj st (b' - st) y1 y2 nT)], fr', b', tf', tb', rfl, hin.mono (fun p hp => List.mem_append.mpr (.inl hp)), hch, hmk, ⟨hfr, hbh, hsum⟩, rfl, .inr ⟨rfl, hlt, D, y1, y2, nT, rfl, List.mem_append.mpr (.inr (List.mem_singleton.mpr rfl))⟩, ?_, ?_, h3, h4⟩
  · rcases List.mem_cons.mp hp with rfl | hp
    · exact .tail _ (.head _)
    · rcases List.mem_cons.mp hp with rfl | hp
      · exact .tail _ (.tail _ (.head _))
      · rcases List.mem_cons.mp hp with rfl | hp
        · exact .tail _ (.tail _ (.tail _ (.head _)))
        · rcases List.mem_append.mp hp with hp | hp
          · exact .tail _ (.tail _ (.tail _ (.tail _ (List.mem_append.mpr (.inl hp)))))
          · rcases List.mem_append.mp hp with hp | hp
            · exact .tail _ (.tail _ (.tail _ (.tail _ (List.mem_append.mpr (.inr hp)))))
            · rw [List.mem_singleton.mp hp]; exact .head _
  · intro q hq p hp
    rcases List.mem_append.mp hp with hp | hp
    · exact hord q hq p hp
    · rw [List.mem_singleton.mp hp]
      exact allLt_mem l9.2.2.2 q (List.mem_append.mpr (.inl hq))
  · intro p hp
    rcases List.mem_append.mp hp with hp | hp
    · exact hoff p hp
    · rw [List.mem_singleton.mp hp]
      exact ⟨Nat.ne_of_gt l9.2.1, Nat.ne_of_gt l9.2.2.1, Nat.ne_of_gt l9.1⟩
theorem calmC7 : True := by
  w_top off
  trivial
section
variable {gl : List (Addr × Obj)}
variable {w : World} {p : Program} {loose : List Str} {mean : ExcName → Option Value} {mg mb : Str → Option Value}
  {dp un : Nat} {gd : Option (List Code)} {cn : Str} {cs : Scope} {a : Addr} {ccd : Value} {cl : List (Str × Addr)} {outer : List Env} {A₀ : Around} {base h₀ : Heap} {L : Addr} {m : Str → Option Value} {s : Shared} {Q E : Value → Shared → Prop}
  {g : Obj → List (Addr × Obj)} {ms md wd : Addr} {h1 h2 : Int} {t1 t2 t3 : Tok} {ow : Obj} {M : Int → Int}
  {hp dh fl : Addr} {k1 k2 k3 k4 : Int} {u1 u2 u3 u4 v2 v3 : Tok} {start limit : Int}
local macro_rules | `(tactic| walk_at "mine off") => `(tactic| (repeat' (first | exact Off.refl | refine Off.set ?_ (by simp))))
local macro_rules | `(tactic| walk_at "LpPost") => `(tactic| (dsimp only [LpPost]))
local macro_rules | `(tactic| walk_at "pyIter ref") => `(tactic| (refine stopHere ?_))
local macro_rules | `(tactic| walk_at "exec For Tuple Call") => `(tactic| (k_here; (rename Fr _ _ _ _ => lF'); (with_unfolding_all refine For_turns lF' ?_ ?ks ?kE); (case ks => (intro _; with_unfolding_all rfl)); (case kE => first | passes_own | with_unfolding_all passes_own)))
local macro_rules | `(tactic| k_all) => `(tactic| first | assumption | exact allO (by assumption))
local macro_rules | `(tactic| k_updF) => `(tactic| first | exact updS (by assumption) | exact updF_app (updS (by assumption)) (by assumption))
local macro_rules | `(tactic| k_mem) => `(tactic| first | assumption | exact mem1 (by assumption) | exact memS (by assumption) | exact memApp (mem1 (by assumption)) | exact memApp (memS (by assumption)) | exact memAR (by assumption))


local macro_rules | `(tactic| k_mem) => `(tactic| first | assumption | exact memApp (by assumption) | exact memAR (by assumption))
local macro_rules | `(tactic| walk_at "mine pad1") => `(tactic| skip)
theorem free_runs_clear_c {us : List (Int × Option Int)} (B : Below A₀ base outer h₀) (F : Fr h₀ L s.heap m) (X : (K0 w.params).In h₀) (N : News h₀ L s.heap gl) (T : Top p loose mean mg mb h₀) (hk : cs.kind = .function)
    (hdp : dp + 6 < recursionLimit) (hu : un + 48 < cLine)
    (hms : (ms, instObj 210 md) ∈ gl) (hmd : (md, dictOf (memEs h1 h2 t1 t2 t3 wd) 2) ∈ gl)
    (lo : (wd == sysModules) = false) (hw : (wd, ow) ∈ gl) (hM : MemIs w ow M)
    (hhp : (hp, instObj 108 dh) ∈ gl) (hdh : (dh, dictOf (heapEs k1 k2 k3 k4 u1 u2 u3 u4 v2 v3 ms fl start limit) 4) ∈ gl)
    (hs0 : 1024 ≤ start) (hs16 : start % 16 = 0) (hl0 : limit ≤ 1504) (hl1 : start < limit) (hb : BChain M limit start us) (hmk : Tagged (fun x => x = 0) M start us)
    (hret : ∀ (h' : Heap) (tk' : Nat) (T lr x : Addr) (nr nT nx : Nat) (ext : List (Addr × Obj)) (tf t1 t2 : Tok), Fr h₀ L h' m →
      News h₀ L h' ((T, { cls := .type "tuple", data := .seq #[.ref lr, .int (usedSum us) tf] nT }) :: (lr, listOf [Value.ref x].toArray nr) :: (gl ++ ext)) →
      (∀ q ∈ gl, q.1 < T ∧ q.1 < lr ∧ ∀ p ∈ ext, q.1 < p.1) → (x, pairObj start (limit - start) t1 t2 nx) ∈ ext → Q (.ref T) { s with heap := h', toks := tk' }) :
    wpAny (model PySem.Challenge.rw_pb0333_01.row.prog w) (ktrTop dp un gd cn cs L a ccd cl outer) (call (.ref 119) [.ref hp]) Q E s := by
  refine wpAny_call ?_
  k_dflt cell_enter
  k_steps
  unfold Stop
  (rename Fr _ _ _ _ => lF)
  (rename News _ _ _ _ => lN)
  (rename (∀ q ∈ gl, q.1 < _) => lr1)
  (rename RowsIn _ _ _ => rw9)
  (rename (∀ q ∈ _ :: gl, q.1 < _) => lb1)
  (rename (∀ q ∈ _ :: gl, ∀ p ∈ (_ : List (Addr × Obj)), _) => or1)
  (rename (∀ p ∈ (_ : List (Addr × Obj)), p.1 ≠ _) => of1)
  refine iter_listTurns rfl lF lN (.head _) rfl rfl fun I hI => ?_
  have hIlb := hI _ (.head _)
  have hlrlb := lb1 _ (.head _)
  refine itm_ind (FrK M limit start us gl _ _ I _ _ _) ?_ ?_ ?_ ?_ _ _ _ ⟨.refl, start, us, _, [], 0, _, 0, 0, _, _, rfl, rw9, ⟨hb, hs16, Int.le_refl _⟩, hmk, ⟨rfl, rfl, by omega⟩, rfl, .inl ⟨rfl, rfl, rfl⟩, fun q hq => or1 q (.tail _ hq), fun p hp => ⟨of1 p hp, Nat.ne_of_gt (or1 _ (.head _) p hp), Nat.ne_of_lt (hI p (.tail _ (List.mem_append.mpr (.inr hp))))⟩, hlrlb, hIlb⟩
  · rintro r m nw ⟨-, b, bl, vs', rv, nr, ext, fr, bh, tf, tb, -, -, -, -, -, rfl, -⟩
    exact ⟨.head _, trivial⟩
  · rintro r m nw ⟨-, b, bl, vs', rv, nr, ext, fr, bh, tf, tb, -, -, -, -, -, rfl, -, -, hoff, h3, h4⟩ p hp q hq
    rw [List.mem_singleton.mp hq]
    rcases List.mem_cons.mp hp with rfl | hp
    · exact Nat.ne_of_lt h4
    · rcases List.mem_cons.mp hp with rfl | hp
      · exact Nat.ne_of_lt (Nat.lt_trans h3 h4)
      · rcases List.mem_append.mp hp with hp | hp
        · exact Nat.ne_of_lt (hI p (.tail _ (List.mem_append.mpr (.inl (.tail _ hp)))))
        · exact (hoff p hp).2.2
  · rintro a r m nw v h tk ⟨ho, b, bl, vs', rv, nr, ext, fr, bh, tf, tb, hr, hrows, ⟨hch, hb16, hsb⟩, hmk', ⟨hfr, hbh, hsum⟩, rfl, hph, hord, hoff, h3, h4⟩ hv F1 it hit N1
    cases bl with
    | nil => cases hrows; simp at hr
    | cons x bl2 =>
      obtain ⟨sz, od⟩ := x
      simp only [rowsFrom] at hrows
      obtain ⟨⟨c1, c2, c3⟩, hch'⟩ := hch
      have c4 := hch'.le
      cases hrows with
      | @cons v1 _ vs2 _ hrow hrest =>
        simp only [List.map_cons, List.cons.injEq] at hr
        obtain ⟨rfl, rfl⟩ := hr
        obtain rfl : v = v1 := hv
        obtain ⟨x, s1, s2, u, nx, rfl, hx, hop⟩ := hrow
        dsimp only at hx hop
        rw [offF_eq ho] at F1
        simp only [offF, hfr, hbh] at F1
        simp only [List.cons_append, List.nil_append] at N1
        have hlrA : ∀ p ∈ gl ++ ext, p.1 ≠ _ := fun p hp => (List.mem_append.mp hp).elim (fun hp => Nat.ne_of_lt (lr1 p hp)) fun hp => (hoff p hp).2.1
        clear lF lN
        have hw1 : ∀ d, od = some d → M ((b + 4) / 4) = 0 := by rintro d rfl; exact hmk'.1
        have hmk2 : Tagged (fun x => x = 0) M (b + sz) bl2 := by cases od with | none => exact hmk' | some d => exact hmk'.2
        rcases hph with ⟨rfl, rfl, hbl⟩ | ⟨rfl, hlt, y, y1, y2, ny, rfl, hy⟩ <;> cases od with
        | none =>
          obtain rfl : u = .none := hop
          simp only [usedSum] at hsum
          k_steps
          all_goals (
            (rename (_ ∧ _ ∧ _ ∧ AllLt _ _) => l9)
            refine frEnd2 (by assumption) (by assumption) l9 ?_ (by first | rfl | exact hfr) (by rfl) (by omega) (by omega) (by omega) hrest ⟨hch', by omega, by omega⟩ (by omega) hmk2 hord hoff h3 h4
            walk_at "mine off")
        | some d =>
          obtain ⟨td, rfl⟩ := hop
          have hw2 := hw1 d rfl
          simp only [usedSum] at hsum
          k_steps
          all_goals (
            (rename (_ ∧ _ ∧ _ ∧ AllLt _ _) => l9)
            refine frEnd2 (by assumption) (by assumption) l9 ?_ (by first | rfl | exact hfr) (by rfl) (by omega) (by omega) (by omega) hrest ⟨hch', by omega, by omega⟩ (by omega) hmk2 hord hoff h3 h4
            walk_at "mine off")
  · rintro m nw h tk ⟨ho, b, bl, vs', rv, nr, ext, fr, bh, tf, tb, hr, hrows, ⟨hch, hb16, hsb⟩, hmk', ⟨hfr, hbh, hsum⟩, rfl, hph, hord, hoff, h3, h4⟩ F1 N1
    rw [offF_eq ho] at F1
    simp only [offF, hfr, hbh] at F1
    obtain rfl : vs' = [] := by simpa using hr.symm
    obtain rfl : bl = [] := by
      cases bl with
      | nil => rfl
      | cons x r => obtain ⟨sz, od⟩ := x; cases hrows
    obtain rfl : b = limit := hch
    have e1 : fr = usedSum us := by simpa [usedSum] using hsum
    subst e1
    obtain ⟨y, y1, y2, ny, rfl, hy⟩ : ∃ x t1 t2 nx, rv = [.ref x] ∧ (x, pairObj start (b - start) t1 t2 nx) ∈ ext := by
      rcases hph with q | q
      · exact absurd q.2.1 (by omega)
      · exact q.2.2
    dsimp only
    clear lF lN
    k_steps
    all_goals (
      (rename (_ ∧ _ ∧ AllLt _ _) => l9)
      (rename News h₀ L _ _ => kN)
      exact hret _ _ _ _ y nr _ ny ext _ _ _ (by assumption) (drop2 kN) (fun q hq => ⟨Nat.lt_trans (lr1 q hq) l9.2.1, lr1 q hq, hord q hq⟩) hy)
end

theorem fill7 (w : World) (h : Heap) : (K0 w.params).In h → model PySem.Challenge.rw_pb0333_01.row.prog w = model PySem.Challenge.rw_pb0333_01.row.prog w := by
  k_fill
  intro _; rfl
-- PRELUDE
noncomputable def FRSpec (w : World) (p : Program) (loose : List Str) (mean : ExcName → Option Value) (mg mb : Str → Option Value) (g : Obj → List (Addr × Obj)) (ow : Obj) (hp : Addr) (fr : Int) (l : List (Int × Int)) (M1 : Int → Int) : Prop :=
  ∀ (dp un : Nat) (gd : Option (List Code)) (cn : Str) (cs : Scope) (a : Addr) (ccd : Value) (cl : List (Str × Addr)) (outer : List Env) (A₀ : Around) (base h₀ : Heap) (L : Addr) (m : Str → Option Value) (s : Shared) (Q E : Value → Shared → Prop),
    Below A₀ base outer h₀ → Fr h₀ L s.heap m → (K0 w.params).In h₀ → News h₀ L s.heap (g ow) → Top p loose mean mg mb h₀ → cs.kind = .function → dp + 6 < recursionLimit → un + 48 < cLine →
    (∀ (h' : Heap) (tk' : Nat) (T lr : Addr) (rv : List Value) (nr nT : Nat) (o' : Obj) (ext : List (Addr × Obj)) (tf : Tok), Fr h₀ L h' m →
      News h₀ L h' ((T, { cls := .type "tuple", data := .seq #[.ref lr, .int fr tf] nT }) :: (lr, listOf rv.toArray nr) :: (g o' ++ ext)) →
      (∀ q ∈ g ow, q.1 < T ∧ q.1 < lr ∧ ∀ p ∈ ext, q.1 < p.1) → MemIs w o' M1 → RunsIn ext rv l → Q (.ref T) { s with heap := h', toks := tk' }) →
    wpAny (model PySem.Challenge.rw_pb0333_01.row.prog w) (ktrTop dp un gd cn cs L a ccd cl outer) (call (.ref 119) [.ref hp]) Q E s
noncomputable def tailL : List (Int × Int) → List Int
  | [] => [0, 0, 0, 0]
  | (t, r) :: _ => tailAt t r
noncomputable def putT (M : Int → Int) : List (Int × Int) → Int → Int
  | [] => M
  | (t, r) :: _ => upd (upd M (t / 4) (r + 1)) ((t + 4) / 4) 0
theorem oneA {g : Obj → Obj → List (Addr × Obj)} {d1 d2 : Addr} (G : Two g d1 d2) (o2 : Obj) : One (fun o => g o o2) d1 := ⟨fun o => G.u1 o o2⟩
theorem upd_app {d : Addr} {o o' : Obj} {l l' ext : List (Addr × Obj)} (U : Upd d o o' l l') (h : ∀ p ∈ ext, p.1 ≠ d) : Upd d o o' (l ++ ext) (l' ++ ext) := by
  induction U with
  | head hh =>
    refine .head fun p hp => ?_
    rcases List.mem_append.mp hp with hp | hp
    · exact hh p hp
    · exact h p hp
  | tail hh _ ih => exact .tail hh ih
theorem two_adr {g : Obj → Obj → List (Addr × Obj)} {d1 d2 : Addr} (G : Two g d1 d2) (o1 o2 o1' o2' : Obj) : AdrIn (g o1' o2') (g o1 o2) := fun p hp => by
  obtain ⟨q, hq, e⟩ := updF_adr (G.u2 o1' o2) p hp
  obtain ⟨q', hq', e'⟩ := updF_adr (G.u1 o1 o2) q hq
  exact ⟨q', hq', e'.trans e⟩
theorem two_lt {g : Obj → Obj → List (Addr × Obj)} {d1 d2 x : Addr} (G : Two g d1 d2) {o1 o2 : Obj} (h : ∀ q ∈ g o1 o2, q.1 < x) (o1' o2' : Obj) : ∀ q ∈ g o1' o2', q.1 < x := (two_adr G o1 o2 o1' o2').lt h
theorem led_head {h₀ h : Heap} {L x : Addr} {o : Obj} {l : List (Addr × Obj)} (_N : News h₀ L h ((x, o) :: l)) : ∃ y, y = x := ⟨x, rfl⟩
theorem dropMid {h₀ h : Heap} {L : Addr} {i f a b c : Addr × Obj} {l ext : List (Addr × Obj)} (N : News h₀ L h (i :: f :: a :: b :: c :: (l ++ ext))) : News h₀ L h (f :: i :: l) := fun p hp => N p (by
  rcases List.mem_cons.mp hp with rfl | hp
  · exact .tail _ (.head _)
  · rcases List.mem_cons.mp hp with rfl | hp
    · exact .head _
    · exact .tail _ (.tail _ (.tail _ (.tail _ (.tail _ (List.mem_append.mpr (.inl hp)))))))
theorem swapHead {h₀ h : Heap} {L : Addr} {i f : Addr × Obj} {l : List (Addr × Obj)} (N : News h₀ L h (f :: i :: l)) : News h₀ L h ([i] ++ (f :: l)) := fun p hp => N p (by
  rcases List.mem_cons.mp hp with rfl | hp
  · exact .tail _ (.head _)
  · rcases List.mem_cons.mp hp with rfl | hp
    · exact .head _
    · exact .tail _ (.tail _ hp))
noncomputable def SwJ0 (m₀ : Str → Option Value) (news₀ : List (Addr × Obj)) (_ : Nat) (m : Str → Option Value) (nw : List (Addr × Obj)) : Prop := Off [Str.ofString "number"] m m₀ ∧ nw = news₀
noncomputable def SwJ1 (w : World) (g : Obj → Obj → List (Addr × Obj)) (od : Obj) (fl : Addr) (t r : Int) (M1 : Int → Int) (m₀ : Str → Option Value) (news₀ : List (Addr × Obj)) (i : Nat) (m : Str → Option Value) (nw : List (Addr × Obj)) : Prop :=
  Off [Str.ofString "number"] m m₀ ∧ ((i = 0 ∧ nw = news₀) ∨ (i = 1 ∧ ∃ o vs, nw = (fl, listOf vs.toArray 0) :: g o od ∧ IntsAre vs (tailAt t r) ∧ MemIs w o (upd (upd M1 (t / 4) (r + 1)) ((t + 4) / 4) 0)))
theorem calmC8 : True := by
  w_top off
  trivial
section
variable {w : World} {p : Program} {loose : List Str} {mean : ExcName → Option Value} {mg mb : Str → Option Value}
  {dp un : Nat} {gd : Option (List Code)} {cn : Str} {cs : Scope} {a : Addr} {ccd : Value} {cl : List (Str × Addr)} {outer : List Env} {A₀ : Around} {base h₀ : Heap} {L : Addr} {m : Str → Option Value} {s : Shared} {Q E : Value → Shared → Prop}
  {g : Obj → Obj → List (Addr × Obj)} {ms md wd : Addr} {h1 h2 : Int} {t1 t2 t3 : Tok} {ow : Obj} {M : Int → Int}
  {hp dh fl : Addr} {k1 k2 k3 k4 : Int} {u1 u2 u3 u4 v2 v3 : Tok} {start limit : Int}

local macro_rules | `(tactic| walk_at "mine off") => `(tactic| (repeat' (first | exact Off.refl | refine Off.set ?_ (by simp))))
local macro_rules | `(tactic| walk_at "LpPost") => `(tactic| (dsimp only [LpPost]))
local macro_rules | `(tactic| walk_at "pyIter ref") => `(tactic| (refine stopHere ?_))
local macro_rules | `(tactic| walk_at "call ref") => `(tactic| ((with_reducible show wpAny _ _ (call (Value.ref 119) _) _ _ _); refine stopHere ?_))
local macro_rules | `(tactic| walk_at "call ref") => `(tactic| ((with_reducible show wpAny _ _ (call (Value.ref 56) _) _ _ _); refine stopHere ?_))
local macro_rules | `(tactic| k_all) => `(tactic| first | assumption | exact allO (by assumption))
local macro_rules | `(tactic| k_mem) => `(tactic| first | assumption | exact mem2 (by assumption) | exact memA (by assumption) | exact memB (by assumption) | exact memApp (mem2 (by assumption)) | exact memApp (memA (by assumption)) | exact memApp (memB (by assumption)) | exact memAR (by assumption))
local macro_rules | `(tactic| k_upd) => `(tactic| first | exact updA' (by assumption) | exact updB' (by assumption) | exact upd_app (updA' (by assumption)) (by assumption) | exact upd_app (updB' (by assumption)) (by assumption))
local macro_rules | `(tactic| walk_at "mine pad2") => `(tactic| skip)
theorem sweep_c {fr : Int} {l : List (Int × Int)} {M1 : Int → Int} (B : Below A₀ base outer h₀) (F : Fr h₀ L s.heap m) (X : (K0 w.params).In h₀) (N : News h₀ L s.heap (g ow (dictOf (heapEs k1 k2 k3 k4 u1 u2 u3 u4 v2 v3 ms fl start limit) 4))) (T : Top p loose mean mg mb h₀) (hk : cs.kind = .function)
    (hdp : dp + 7 < recursionLimit) (hu : un + 56 < cLine) (G : Two g wd dh)
    (hms : ∀ o1 o2, (ms, instObj 210 md) ∈ g o1 o2) (hmd : ∀ o1 o2, (md, dictOf (memEs h1 h2 t1 t2 t3 wd) 2) ∈ g o1 o2)
    (lo : (wd == sysModules) = false) (hhp : ∀ o1 o2, (hp, instObj 108 dh) ∈ g o1 o2)
    (S : FRSpec w p loose mean mg mb (fun o => g o (dictOf (heapEs k1 k2 k3 k4 u1 u2 u3 u4 v2 v3 ms fl start limit) 4)) ow hp fr l M1)
    (hl : l.length ≤ 1) (hl1 : ∀ t r, (t, r) ∈ l → 0 ≤ t ∧ t + 4 < 4096 ∧ 0 < r ∧ r < 4096)
    (hret : ∀ (h' : Heap) (tk' : Nat) (fl' : Addr) (vs : List Value) (nf : Nat) (o' : Obj) (tf : Tok), Fr h₀ L h' m →
      News h₀ L h' ((fl', listOf vs.toArray nf) :: g o' (dictOf (heapEs k1 k2 k3 k4 u1 u2 u3 u4 v2 v3 ms fl' start limit) 4)) →
      (∀ q ∈ g ow (dictOf (heapEs k1 k2 k3 k4 u1 u2 u3 u4 v2 v3 ms fl start limit) 4), q.1 < fl') → IntsAre vs (tailL l) → MemIs w o' (putT M1 l) → Q (.int fr tf) { s with heap := h', toks := tk' }) :
    wpAny (model PySem.Challenge.rw_pb0333_01.row.prog w) (ktrTop dp un gd cn cs L a ccd cl outer) (call (.ref 126) [.ref hp]) Q E s := by
  refine wpAny_call ?_
  k_dflt cell_enter
  k_steps
  unfold Stop
  (rename Fr _ _ _ _ => lF)
  (rename News _ _ _ _ => lN)
  refine S _ _ _ _ _ _ _ _ _ _ _ _ _ _ _ _ _ (by assumption) lF (by assumption) lN (by assumption) rfl (by ktr_room) (by ktr_units) ?_
  intro h9 tk9 T9 lr rv nr nT o9 ext tf F9 N9 hfresh hM9 hruns
  have q1 : @LT.lt Nat _ dh T9 := (hfresh (dh, _) (memB G)).1
  have q2 : @LT.lt Nat _ dh lr := (hfresh (dh, _) (memB G)).2.1
  have q3 : ∀ p ∈ ext, p.1 ≠ dh := fun p hp => Nat.ne_of_gt ((hfresh (dh, _) (memB G)).2.2 p hp)
  dsimp only
  clear lF lN
  rcases l with _ | ⟨⟨t, r⟩, _ | ⟨y, l2⟩⟩
  · obtain rfl : rv = [] := hruns
    k_steps
    unfold Stop
    (rename IsRange _ _ _ _ _ _ _ _ => hR)
    (rename Fr _ _ _ _ => lF)
    (rename News _ _ _ _ => lN)
    (rename IntsAre _ _ => hI0)
    (rename (_ < _ ∧ _ < _ ∧ _ < _ ∧ AllLt _ _) => l9)
    obtain ⟨fl', hfl⟩ := led_head lN
    subst hfl
    refine rng_ind (n := 0) (SwJ0 _ _) rfl hR (by decide) (by decide) lF lN ⟨.refl, rfl⟩ ?_ ?_ ?_
    · rintro i m nw ⟨-, rfl⟩; exact .refl
    · intro i I it m nw t h tk hi; exact absurd hi (Nat.not_lt_zero _)
    · rintro m nw h tk ⟨ho, rfl⟩ F1 N1
      rw [offF_eq ho] at F1
      simp only [offF] at F1
      dsimp only
      clear lF lN
      k_steps
      all_goals (
        (rename News h₀ L _ _ => kN)
        refine hret _ _ fl' _ 0 o9 _ (by assumption) (fun p hp => kN p ?_) (fun q hq => ?_) hI0 hM9
        · rcases List.mem_cons.mp hp with rfl | hp
          · exact .head _
          · exact .tail _ (.tail _ (.tail _ (.tail _ (List.mem_append.mpr (.inl hp)))))
        · obtain ⟨q', hq', e⟩ := two_adr G o9 (dictOf (heapEs k1 k2 k3 k4 u1 u2 u3 u4 v2 v3 ms fl start limit) 4) ow (dictOf (heapEs k1 k2 k3 k4 u1 u2 u3 u4 v2 v3 ms fl start limit) 4) q hq
          rw [← e]
          exact allLt_mem l9.2.2.2 q' (List.mem_append.mpr (.inl hq')))
  · obtain ⟨x, s1, s2, nx, rfl, hx⟩ := hruns
    obtain ⟨z1, z2, z3, z4⟩ := hl1 t r (.head _)
    k_steps
    unfold Stop
    (rename IsRange _ _ _ _ _ _ _ _ => hR)
    (rename Fr _ _ _ _ => lF)
    (rename News _ _ _ _ => lN)
    (rename IntsAre _ _ => hI0)
    (rename (_ < _ ∧ _ < _ ∧ _ < _ ∧ AllLt _ _) => l9)
    obtain ⟨fl', hfl⟩ := led_head lN
    subst hfl
    have hlt : ∀ o1 o2, ∀ q ∈ g o1 o2, q.1 < fl' := fun o1 o2 q hq => by
      obtain ⟨q', hq', e⟩ := two_adr G o9 (dictOf (heapEs k1 k2 k3 k4 u1 u2 u3 u4 v2 v3 ms fl start limit) 4) o1 o2 q hq
      rw [← e]
      exact allLt_mem l9.2.2.2 q' (List.mem_append.mpr (.inl hq'))
    refine rng_ind (n := 1) (SwJ1 w g (dictOf (heapEs k1 k2 k3 k4 u1 u2 u3 u4 v2 v3 ms fl' start limit) 4) fl' t r M1 _ _) rfl hR (by decide) (by decide) lF lN ⟨.refl, .inl ⟨rfl, rfl⟩⟩ ?_ ?_ ?_
    · rintro i m nw ⟨-, ⟨-, rfl⟩ | ⟨-, o, vs, rfl, -⟩⟩
      · exact .refl
      · intro p hp
        rcases List.mem_cons.mp hp with rfl | hp
        · exact ⟨_, .head _, rfl⟩
        · obtain ⟨q, hq, e⟩ := two_adr G o9 (dictOf (heapEs k1 k2 k3 k4 u1 u2 u3 u4 v2 v3 ms fl' start limit) 4) _ _ p hp
          exact ⟨q, .tail _ (.tail _ (.tail _ (.tail _ (List.mem_append.mpr (.inl hq))))), e⟩
    · rintro i I it m nw t' h tk hi ⟨ho, hj⟩ hI F1 N1
      obtain rfl : i = 0 := by omega
      obtain rfl : nw = _ := by
        rcases hj with q | q
        · exact q.2
        · exact absurd q.1 (by decide)
      rw [offF_eq ho] at F1
      simp only [offF] at F1
      have hIf : fl' < I := hI _ (.head _)
      clear lF lN
      k_steps
      unfold Stop
      have hwf : wd < fl' := hlt ow (dictOf (heapEs k1 k2 k3 k4 u1 u2 u3 u4 v2 v3 ms fl' start limit) 4) (wd, _) (memA G)
      have G2 : Two (fun o1 o2 => (fl', o2) :: (I, it) :: g o1 (dictOf (heapEs k1 k2 k3 k4 u1 u2 u3 u4 v2 v3 ms fl' start limit) 4)) wd fl' :=
        ⟨fun o1 o2 => .tail (Nat.ne_of_gt hwf) (.tail (Nat.ne_of_gt (Nat.lt_trans hwf hIf)) (G.u1 o1 _)), fun o1 o2 => .head fun p hp => by
          rcases List.mem_cons.mp hp with rfl | hp
          · exact Nat.ne_of_gt hIf
          · exact Nat.ne_of_lt (hlt _ _ p hp)⟩
      (rename News _ _ _ _ => N2)
      refine put_free_z (g := fun o1 o2 => (fl', o2) :: (I, it) :: g o1 (dictOf (heapEs k1 k2 k3 k4 u1 u2 u3 u4 v2 v3 ms fl' start limit) 4)) (by assumption) (by assumption) (by assumption) (dropMid N2) (by assumption) rfl (by ktr_room) (by ktr_units) G2
        (fun _ _ => .tail _ (.tail _ (hms _ _))) (fun _ _ => .tail _ (.tail _ (hmd _ _))) (fun _ _ => .tail _ (.tail _ (hhp _ _))) (fun _ _ => .tail _ (.tail _ (memB G))) lo hM9 hI0 z1 z2 z3 z4 ?_
      intro h10 tk10 o10 vs10 F10 N10 I10 M10
      dsimp only
      clear N2
      k_steps
      all_goals (
        refine LpEnd.intro (news' := (fl', listOf vs10.toArray 0) :: g o10 (dictOf (heapEs k1 k2 k3 k4 u1 u2 u3 u4 v2 v3 ms fl' start limit) 4)) (by assumption) (swapHead N10) ⟨?_, .inr ⟨rfl, o10, vs10, rfl, I10, M10⟩⟩
        walk_at "mine off")
    · rintro m nw h tk ⟨ho, hj⟩ F1 N1
      obtain ⟨o, vs, rfl, hI1, hM1⟩ : ∃ o vs, nw = (fl', listOf vs.toArray 0) :: g o (dictOf (heapEs k1 k2 k3 k4 u1 u2 u3 u4 v2 v3 ms fl' start limit) 4) ∧ IntsAre vs (tailAt t r) ∧ MemIs w o (upd (upd M1 (t / 4) (r + 1)) ((t + 4) / 4) 0) := by
        rcases hj with q | q
        · exact absurd q.1 (by decide)
        · exact q.2
      rw [offF_eq ho] at F1
      simp only [offF] at F1
      dsimp only
      clear lF lN
      k_steps
      all_goals exact hret _ _ fl' vs 0 o _ (by assumption) (by assumption) (hlt _ _) hI1 hM1
  · simp at hl

theorem sweep_marked_c {us : List (Int × Option Int)} (B : Below A₀ base outer h₀) (F : Fr h₀ L s.heap m) (X : (K0 w.params).In h₀) (N : News h₀ L s.heap (g ow (dictOf (heapEs k1 k2 k3 k4 u1 u2 u3 u4 v2 v3 ms fl start limit) 4))) (T : Top p loose mean mg mb h₀) (hk : cs.kind = .function)
    (hdp : dp + 7 < recursionLimit) (hu : un + 56 < cLine) (G : Two g wd dh)
    (hms : ∀ o1 o2, (ms, instObj 210 md) ∈ g o1 o2) (hmd : ∀ o1 o2, (md, dictOf (memEs h1 h2 t1 t2 t3 wd) 2) ∈ g o1 o2)
    (lo : (wd == sysModules) = false) (hhp : ∀ o1 o2, (hp, instObj 108 dh) ∈ g o1 o2) (hM : MemIs w ow M)
    (hs0 : 1024 ≤ start) (hs16 : start % 16 = 0) (hl0 : limit ≤ 1504) (hb : BChain M limit start us) (hut : UT us) (hmk : Tagged (fun x => x ≠ 0) M start us)
    (hl : (tailOf start us).length ≤ 1) (hl1 : ∀ t r, (t, r) ∈ tailOf start us → 0 ≤ t ∧ t + 4 < 4096 ∧ 0 < r ∧ r < 4096)
    (hret : ∀ (h' : Heap) (tk' : Nat) (fl' : Addr) (vs : List Value) (nf : Nat) (o' : Obj) (tf : Tok), Fr h₀ L h' m →
      News h₀ L h' ((fl', listOf vs.toArray nf) :: g o' (dictOf (heapEs k1 k2 k3 k4 u1 u2 u3 u4 v2 v3 ms fl' start limit) 4)) →
      (∀ q ∈ g ow (dictOf (heapEs k1 k2 k3 k4 u1 u2 u3 u4 v2 v3 ms fl start limit) 4), q.1 < fl') → IntsAre vs (tailL (tailOf start us)) → MemIs w o' (putT (clr M start us) (tailOf start us)) → Q (.int 0 tf) { s with heap := h', toks := tk' }) :
    wpAny (model PySem.Challenge.rw_pb0333_01.row.prog w) (ktrTop dp un gd cn cs L a ccd cl outer) (call (.ref 126) [.ref hp]) Q E s :=
  sweep_c B F X N T hk hdp hu G hms hmd lo hhp
    (fun dp un gd cn cs a ccd cl outer A₀ base h₀ L m s Q E B F X N T hk hdp hu hr => free_runs_marked_c (g := fun o => g o (dictOf (heapEs k1 k2 k3 k4 u1 u2 u3 u4 v2 v3 ms fl start limit) 4)) B F X N T hk hdp hu (oneA G _) (fun _ => hms _ _) (fun _ => hmd _ _) lo hM (fun _ => hhp _ _) (fun _ => memB G) hs0 hs16 hl0 hb hut hmk
      fun h' tk' T lr rv nr nT o' ext tf F' N' hf hM' hr' => hr h' tk' T lr rv nr nT o' ext tf F' N' hf hM' hr') hl hl1 hret
theorem sweep_clear_c {us : List (Int × Option Int)} (B : Below A₀ base outer h₀) (F : Fr h₀ L s.heap m) (X : (K0 w.params).In h₀) (N : News h₀ L s.heap (g ow (dictOf (heapEs k1 k2 k3 k4 u1 u2 u3 u4 v2 v3 ms fl start limit) 4))) (T : Top p loose mean mg mb h₀) (hk : cs.kind = .function)
    (hdp : dp + 7 < recursionLimit) (hu : un + 56 < cLine) (G : Two g wd dh)
    (hms : ∀ o1 o2, (ms, instObj 210 md) ∈ g o1 o2) (hmd : ∀ o1 o2, (md, dictOf (memEs h1 h2 t1 t2 t3 wd) 2) ∈ g o1 o2)
    (lo : (wd == sysModules) = false) (hhp : ∀ o1 o2, (hp, instObj 108 dh) ∈ g o1 o2) (hM : MemIs w ow M)
    (hs0 : 1024 ≤ start) (hs16 : start % 16 = 0) (hl0 : limit ≤ 1504) (hlt : start < limit) (hb : BChain M limit start us) (hmk : Tagged (fun x => x = 0) M start us)
    (hret : ∀ (h' : Heap) (tk' : Nat) (fl' : Addr) (vs : List Value) (nf : Nat) (o' : Obj) (tf : Tok), Fr h₀ L h' m →
      News h₀ L h' ((fl', listOf vs.toArray nf) :: g o' (dictOf (heapEs k1 k2 k3 k4 u1 u2 u3 u4 v2 v3 ms fl' start limit) 4)) →
      (∀ q ∈ g ow (dictOf (heapEs k1 k2 k3 k4 u1 u2 u3 u4 v2 v3 ms fl start limit) 4), q.1 < fl') → IntsAre vs (tailAt start (limit - start)) → MemIs w o' (putT M [(start, limit - start)]) → Q (.int (usedSum us) tf) { s with heap := h', toks := tk' }) :
    wpAny (model PySem.Challenge.rw_pb0333_01.row.prog w) (ktrTop dp un gd cn cs L a ccd cl outer) (call (.ref 126) [.ref hp]) Q E s :=
  sweep_c (l := [(start, limit - start)]) B F X N T hk hdp hu G hms hmd lo hhp
    (fun dp un gd cn cs a ccd cl outer A₀ base h₀ L m s Q E B F X N T hk hdp hu hr => free_runs_clear_c (gl := g ow (dictOf (heapEs k1 k2 k3 k4 u1 u2 u3 u4 v2 v3 ms fl start limit) 4)) B F X N T hk hdp hu (hms _ _) (hmd _ _) lo (memA G) hM (hhp _ _) (memB G) hs0 hs16 hl0 hlt hb hmk
      fun h' tk' T lr x nr nT nx ext tf t1 t2 F' N' hf hx => hr h' tk' T lr [.ref x] nr nT ow ext tf F' N' hf hM ⟨x, t1, t2, nx, rfl, hx⟩) (by simp) (by
        intro t r hm
        obtain ⟨rfl, rfl⟩ : t = start ∧ r = limit - start := by simpa using hm
        omega) hret
end

theorem fill8 (w : World) (h : Heap) : (K0 w.params).In h → model PySem.Challenge.rw_pb0333_01.row.prog w = model PySem.Challenge.rw_pb0333_01.row.prog w := by
  k_fill
  intro _; rfl
-- PRELUDE
theorem popFront {prog : Program} {w : World} {A : Around} {E : Value → Shared → Prop} {s : Shared} {h₀ : Heap} {L D : Addr} {m : Str → Option Value} {news news' : List (Addr × Obj)} {n : Nat} {u : Tok} {y : Value} {q : List Value} {Q : Value → Shared → Prop}
    (F : Fr h₀ L s.heap m) (N : News h₀ L s.heap news) (U : Upd D (listOf (y :: q).toArray n) (listOf q.toArray (n + 1)) news news') {ms : List Int} (hq : IntsAre q ms) (hz : ms.length + 1 ≤ 40)
    (h : ∀ h', Fr h₀ L h' m → News h₀ L h' news' → Q y { s with heap := h' }) : wpAny (model prog w) A (call (.builtin "list.pop") [.ref D, .int 0 u]) Q E s := by
  refine kl_popAt (k := 0) (p := []) (q := q) F N rfl ?_ rfl U ?_ h
  · unfold seqIndex?
    simp
  · show (y :: q).length ≤ sizeLine
    rw [sizeLine_eq, List.length_cons, hq.length]
    omega
theorem fmod_rng {a b : Int} (h : 0 < b) : 0 ≤ a.fmod b ∧ a.fmod b < b := by
  rw [Int.fmod_eq_emod_of_nonneg _ (Int.le_of_lt h)]
  exact ⟨Int.emod_nonneg _ (by omega), Int.emod_lt_of_pos _ h⟩
theorem fdiv_nn {a b : Int} (ha : 0 ≤ a) (h : 0 < b) : 0 ≤ a.fdiv b := by
  rw [Int.fdiv_eq_ediv_of_nonneg _ (Int.le_of_lt h)]
  exact Int.ediv_nonneg ha (Int.le_of_lt h)
theorem dropH {h₀ h : Heap} {L : Addr} {a : Addr × Obj} {l : List (Addr × Obj)} (N : News h₀ L h (a :: l)) : News h₀ L h l := fun p hp => N p (.tail _ hp)
theorem ne_all {l : List (Addr × Obj)} {x d : Addr} {o : Obj} (h : ∀ p ∈ l, p.1 < x) (hm : (d, o) ∈ l) : x ≠ d := Nat.ne_of_gt (h _ hm)
theorem ne_allT {l : List (Addr × Obj)} {x d : Addr} {o : Obj} (h : AllLt x l) (hm : (d, o) ∈ l) : x ≠ d := Nat.ne_of_gt (allLt_mem h _ hm)
theorem calmC9 : True := by
  w_top off
  trivial
section
variable {w : World} {p : Program} {loose : List Str} {mean : ExcName → Option Value} {mg mb : Str → Option Value}
  {dp un : Nat} {gd : Option (List Code)} {cn : Str} {cs : Scope} {a : Addr} {ccd : Value} {cl : List (Str × Addr)} {outer : List Env} {A₀ : Around} {base h₀ : Heap} {L : Addr} {m : Str → Option Value} {s : Shared} {Q E : Value → Shared → Prop}
  {g : Obj → Obj → List (Addr × Obj)} {sr l1 : Addr} {n n1 : Nat} {x b most : Int} {tx tb tm : Tok} {vs : List Value} {ns : List Int}
local macro_rules | `(tactic| k_mem) => `(tactic| first | assumption | exact memA (by assumption) | exact memB (by assumption))
local macro_rules | `(tactic| k_upd) => `(tactic| first | exact updA' (by assumption) | exact updB' (by assumption))
local macro_rules | `(tactic| k_ne) => `(tactic| first | exact ne_all (by assumption) (memA (by assumption)) | exact ne_all (by assumption) (memB (by assumption)) | exact ne_allT (by assumption) (memA (by assumption)) | exact ne_allT (by assumption) (memB (by assumption)))
local macro_rules | `(tactic| walk_at "call builtin:list.pop") => `(tactic| (k_here; k_dflt (refine' popFront ?F ?N ?U ?q ?z ?_; (case F => k_asm); (case N => k_asm); (case U => k_upd); (case q => assumption); (case z => assumption)); intro h' F' N'; (try dsimp only [List.nil_append, List.cons_append] at N')))
local macro_rules | `(tactic| units_room) => `(tactic| ktr_units)
local macro_rules | `(tactic| is_list) => `(tactic| first | exact News.isList (by k_asm) (memA (by assumption)) | exact News.isList (by k_asm) (memB (by assumption)) | exact News.isList (by k_asm) (List.Mem.tail _ (memA (by assumption))) | exact News.isList (by k_asm) (List.Mem.tail _ (memB (by assumption))))
local macro_rules | `(tactic| walk_at "ite") => `(tactic| (k_here; k_openite; goal_has List.cons; first | (refine ite_pos ?hc ?_; (case hc => (simp; done))) | (refine ite_neg ?hc ?_; (case hc => (simp; done)))))
theorem law_take_c (B : Below A₀ base outer h₀) (F : Fr h₀ L s.heap m) (X : (K0 w.params).In h₀) (N : News h₀ L s.heap (g (listOf #[.ref l1, .int x tx, .int b tb] n) (listOf vs.toArray n1))) (T : Top p loose mean mg mb h₀) (hk : cs.kind = .function)
    (hdp : dp + 1 < recursionLimit) (hu : un + 100 < cLine) (G : Two g sr l1) (hI : IntsAre vs ns) (hlen : ns.length ≤ 40) (hx : 0 ≤ x) (hb0 : 0 ≤ b) (hb1 : b < 2147483563) (hm : 0 < most) (hm2 : most < 100)
    (hret : ∀ (h' : Heap) (tk' : Nat) (t tx' tb' : Tok) (x' b' f : Int) (vs' : List Value) (ns' : List Int) (n' n1' : Nat), Fr h₀ L h' m → News h₀ L h' (g (listOf #[.ref l1, .int x' tx', .int b' tb'] n') (listOf vs'.toArray n1')) →
      IntsAre vs' ns' → ns'.length ≤ 40 → 0 ≤ x' → 0 ≤ b' → b' < 2147483563 → 0 ≤ f → f < most → Q (.int f t) { s with heap := h', toks := tk' }) :
    wpAny (model PySem.Challenge.rw_pb0333_01.row.prog w) (ktrTop dp un gd cn cs L a ccd cl outer) (call (.ref 221) [.ref sr, .int most tm]) Q E s := by
  refine wpAny_call ?_
  k_dflt cell_enter
  have r1 := fmod_rng (a := b * 40014) (b := 2147483563) (by decide)
  cases hI with
  | nil =>
    have r2 := fdiv_nn (a := (b * 40014).fmod 2147483563) (b := 11) r1.1 (by decide)
    k_steps
    · (rename News h₀ L _ _ => kN)
      refine hret _ _ _ _ _ _ _ _ _ _ _ _ (by assumption) (dropH kN) .nil (by simp) ?_ ?_ ?_ ?_ ?_
      · exact fdiv_nn r2 hm
      · exact r1.1
      · exact r1.2
      · exact (fmod_rng hm).1
      · exact (fmod_rng hm).2
    · refine hret _ _ _ _ _ _ _ _ _ _ _ _ (by assumption) (by assumption) .nil (by simp) ?_ ?_ ?_ ?_ ?_
      · exact fdiv_nn hx hm
      · exact hb0
      · exact hb1
      · exact (fmod_rng hm).1
      · exact (fmod_rng hm).2
  | cons i ti hI' =>
    have hlen2 := hI'.length
    simp only [List.length_cons] at hlen
    k_steps
    · (rename News h₀ L _ _ => kN)
      refine hret _ _ _ _ _ _ _ _ _ _ _ _ (by assumption) (dropH kN) hI' (by omega) ?_ ?_ ?_ ?_ ?_
      · exact fdiv_nn (by omega) hm
      · exact r1.1
      · exact r1.2
      · exact (fmod_rng hm).1
      · exact (fmod_rng hm).2
    · (rename News h₀ L _ _ => kN)
      refine hret _ _ _ _ _ _ _ _ _ _ _ _ (by assumption) (dropH kN) hI' (by omega) ?_ ?_ ?_ ?_ ?_
      · exact fdiv_nn (by omega) hm
      · exact r1.1
      · exact r1.2
      · exact (fmod_rng hm).1
      · exact (fmod_rng hm).2
    · refine hret _ _ _ _ _ _ _ _ _ _ _ _ (by assumption) (by assumption) (.cons i ti hI') (by simpa using hlen) ?_ ?_ ?_ ?_ ?_
      · exact fdiv_nn hx hm
      · exact hb0
      · exact hb1
      · exact (fmod_rng hm).1
      · exact (fmod_rng hm).2
end

theorem fill9 (w : World) (h : Heap) : (K0 w.params).In h → model PySem.Challenge.rw_pb0333_01.row.prog w = model PySem.Challenge.rw_pb0333_01.row.prog w := by
  k_fill
  intro _; rfl

theorem fmod_e (a : Int) {b : Int} (h : 0 ≤ b) : a.fmod b = a % b := Int.fmod_eq_emod_of_nonneg _ h
theorem MemIs.empty {w : World} {o : Obj} (h : o.IsDictOf (intKind PySem.Challenge.rw_pb0333_01.row.prog w) []) (f : FlatPairs PyData.int [] []) : MemIs w o (fun _ => 0) := ⟨[], ⟨[], h, f⟩, WOk.nil, fun _ => rfl⟩
theorem two_of {news : List (Addr × Obj)} {g1 : Obj → List (Addr × Obj)} {g : Obj → Obj → List (Addr × Obj)} {d1 d2 : Addr} {o1 o2 : Obj} (U1 : UpdF d1 o1 news g1) (U2 : ∀ o, UpdF d2 o2 (g1 o) (g o)) (U3 : ∀ a b, UpdF d1 a (g a b) (fun o => g o b)) : Two g d1 d2 ∧ g o1 o2 = news :=
  ⟨⟨U3, fun a b => updF_again (U2 a) b⟩, (updF_self (U2 o1)).trans (updF_self U1)⟩
section
variable {w : World} {p : Program} {loose : List Str} {mean : ExcName → Option Value} {mg mb : Str → Option Value}
  {dp un : Nat} {gd : Option (List Code)} {cn : Str} {cs : Scope} {a : Addr} {ccd : Value} {cl : List (Str × Addr)} {outer : List Env} {A₀ : Around} {base h₀ : Heap} {L : Addr} {m : Str → Option Value} {s : Shared} {Q E : Value → Shared → Prop}
  {news : List (Addr × Obj)} {g1 : Obj → List (Addr × Obj)} {g : Obj → Obj → List (Addr × Obj)} {ms md wd : Addr} {h1 h2 : Int} {t1 t2 t3 : Tok} {ow : Obj} {M : Int → Int}
  {hp dh fl : Addr} {k1 k2 k3 k4 : Int} {u1 u2 u3 u4 v2 v3 : Tok} {start limit : Int} {vs : List Value} {nf : Nat}
theorem law_take_u {sr l1 : Addr} {n n1 : Nat} {x b most : Int} {tx tb tm : Tok} {ns : List Int} (B : Below A₀ base outer h₀) (F : Fr h₀ L s.heap m) (X : (K0 w.params).In h₀) (N : News h₀ L s.heap news) (T : Top p loose mean mg mb h₀) (hk : cs.kind = .function)
    (hdp : dp + 1 < recursionLimit) (hu : un + 100 < cLine) (U1 : UpdF sr (listOf #[.ref l1, .int x tx, .int b tb] n) news g1) (U2 : ∀ o, UpdF l1 (listOf vs.toArray n1) (g1 o) (g o)) (U3 : ∀ a b, UpdF sr a (g a b) (fun o => g o b))
    (hI : IntsAre vs ns) (hlen : ns.length ≤ 40) (hx : 0 ≤ x) (hb0 : 0 ≤ b) (hb1 : b < 2147483563) (hm : 0 < most) (hm2 : most < 100)
    (hret : ∀ (h' : Heap) (tk' : Nat) (t tx' tb' : Tok) (x' b' f : Int) (vs' : List Value) (ns' : List Int) (n' n1' : Nat), Fr h₀ L h' m → News h₀ L h' (g (listOf #[.ref l1, .int x' tx', .int b' tb'] n') (listOf vs'.toArray n1')) →
      IntsAre vs' ns' → ns'.length ≤ 40 → 0 ≤ x' → 0 ≤ b' → b' < 2147483563 → 0 ≤ f → f < most → Q (.int f t) { s with heap := h', toks := tk' }) :
    wpAny (model PySem.Challenge.rw_pb0333_01.row.prog w) (ktrTop dp un gd cn cs L a ccd cl outer) (call (.ref 221) [.ref sr, .int most tm]) Q E s := by
  obtain ⟨G, e⟩ := two_of U1 U2 U3
  rw [← e] at N
  exact law_take_c B F X N T hk hdp hu G hI hlen hx hb0 hb1 hm hm2 hret
theorem put_free_u {b sz : Int} {ta tb : Tok} (B : Below A₀ base outer h₀) (F : Fr h₀ L s.heap m) (X : (K0 w.params).In h₀) (N : News h₀ L s.heap news) (T : Top p loose mean mg mb h₀) (hk : cs.kind = .function)
    (d1 : (hp, instObj 108 dh) ∈ news) (d2 : (dh, dictOf (heapEs k1 k2 k3 k4 u1 u2 u3 u4 v2 v3 ms fl start limit) 4) ∈ news) (d3 : (ms, instObj 210 md) ∈ news) (d4 : (md, dictOf (memEs h1 h2 t1 t2 t3 wd) 2) ∈ news)
    (hdp : dp + 3 < recursionLimit) (hu : un + 24 < cLine) (U1 : UpdF wd ow news g1) (U2 : ∀ o, UpdF fl (listOf vs.toArray nf) (g1 o) (g o)) (U3 : ∀ a b, UpdF wd a (g a b) (fun o => g o b))
    (hms : ∀ o1 o2, (ms, instObj 210 md) ∈ g o1 o2) (hmd : ∀ o1 o2, (md, dictOf (memEs h1 h2 t1 t2 t3 wd) 2) ∈ g o1 o2)
    (hhp : ∀ o1 o2, (hp, instObj 108 dh) ∈ g o1 o2) (hdh : ∀ o1 o2, (dh, dictOf (heapEs k1 k2 k3 k4 u1 u2 u3 u4 v2 v3 ms fl start limit) 4) ∈ g o1 o2)
    (lo : (wd == sysModules) = false) (hM : MemIs w ow M) (hfs : IntsAre vs [0, 0, 0, 0])
    (ha0 : 0 ≤ b) (ha1 : b + 4 < 4096) (hs0 : 0 < sz) (hs1 : sz < 4096)
    (hret : ∀ (h' : Heap) (tk' : Nat) (o' : Obj) (vs' : List Value), Fr h₀ L h' m → News h₀ L h' (g o' (listOf vs'.toArray nf)) → IntsAre vs' (tailAt b sz) → MemIs w o' (upd (upd M (b / 4) (sz + 1)) ((b + 4) / 4) 0) → Q .none { s with heap := h', toks := tk' }) :
    wpAny (model PySem.Challenge.rw_pb0333_01.row.prog w) (ktrTop dp un gd cn cs L a ccd cl outer) (call (.ref 56) [.ref hp, .int b ta, .int sz tb]) Q E s := by
  obtain ⟨G, e⟩ := two_of U1 U2 U3
  rw [← e] at N
  exact put_free_z B F X N T hk hdp hu G hms hmd hhp hdh lo hM hfs ha0 ha1 hs0 hs1 hret

theorem alloc_hit_u {t r d : Int} {tb : Tok} (B : Below A₀ base outer h₀) (F : Fr h₀ L s.heap m) (X : (K0 w.params).In h₀) (N : News h₀ L s.heap news) (T : Top p loose mean mg mb h₀) (hk : cs.kind = .function)
    (d1 : (hp, instObj 108 dh) ∈ news) (d2 : (dh, dictOf (heapEs k1 k2 k3 k4 u1 u2 u3 u4 v2 v3 ms fl start limit) 4) ∈ news) (d3 : (ms, instObj 210 md) ∈ news) (d4 : (md, dictOf (memEs h1 h2 t1 t2 t3 wd) 2) ∈ news)
    (hdp : dp + 5 < recursionLimit) (hu : un + 40 < cLine) (U1 : UpdF wd ow news g1) (U2 : ∀ o, UpdF fl (listOf vs.toArray nf) (g1 o) (g o)) (U3 : ∀ a b, UpdF wd a (g a b) (fun o => g o b))
    (hms : ∀ o1 o2, (ms, instObj 210 md) ∈ g o1 o2) (hmd : ∀ o1 o2, (md, dictOf (memEs h1 h2 t1 t2 t3 wd) 2) ∈ g o1 o2)
    (hhp : ∀ o1 o2, (hp, instObj 108 dh) ∈ g o1 o2) (hdh : ∀ o1 o2, (dh, dictOf (heapEs k1 k2 k3 k4 u1 u2 u3 u4 v2 v3 ms fl start limit) 4) ∈ g o1 o2)
    (lo : (wd == sysModules) = false) (hM : MemIs w ow M) (hfs : IntsAre vs (tailAt t r))
    (ht0 : 1024 ≤ t) (ht1 : t + r ≤ 1504) (ht2 : t % 16 = 0) (hr2 : r % 16 = 0) (hb : BlkAt M t r none) (hnx : M ((t + 4) / 4) = 0) (hr0 : 0 < r)
    (hd0' : 0 ≤ d) (hd1 : d < 1024) (hw0 : 0 ≤ M (d / 4)) (hw1 : M (d / 4) ≤ 4000) (hs1 : bsz (M (d / 4)) ≤ r)
    (hret : ∀ (h' : Heap) (tk' : Nat) (t'' : Tok) (o' : Obj) (vs' : List Value) (M' : Int → Int), Fr h₀ L h' m → News h₀ L h' (g o' (listOf vs'.toArray nf)) → IntsAre vs' (tailAt (t + bsz (M (d / 4))) (r - bsz (M (d / 4)))) → MemIs w o' M' → AllocPost M M' t (bsz (M (d / 4))) r d → Q (.int (t + 8) t'') { s with heap := h', toks := tk' }) :
    wpAny (model PySem.Challenge.rw_pb0333_01.row.prog w) (ktrTop dp un gd cn cs L a ccd cl outer) (call (.ref 91) [.ref hp, .int d tb]) Q E s := by
  obtain ⟨G, e⟩ := two_of U1 U2 U3
  rw [← e] at N
  exact alloc_hit_c B F X N T hk hdp hu G hms hmd hhp hdh lo hM hfs ht0 ht1 ht2 hr2 hb hnx hr0 hd0' hd1 hw0 hw1 hs1 hret
theorem alloc_miss_u {t r d : Int} {tb : Tok} (B : Below A₀ base outer h₀) (F : Fr h₀ L s.heap m) (X : (K0 w.params).In h₀) (N : News h₀ L s.heap news) (T : Top p loose mean mg mb h₀) (hk : cs.kind = .function)
    (d1 : (hp, instObj 108 dh) ∈ news) (d2 : (dh, dictOf (heapEs k1 k2 k3 k4 u1 u2 u3 u4 v2 v3 ms fl start limit) 4) ∈ news) (d3 : (ms, instObj 210 md) ∈ news) (d4 : (md, dictOf (memEs h1 h2 t1 t2 t3 wd) 2) ∈ news)
    (hdp : dp + 5 < recursionLimit) (hu : un + 40 < cLine) (U1 : UpdF wd ow news g1) (U2 : ∀ o, UpdF fl (listOf vs.toArray nf) (g1 o) (g o)) (U3 : ∀ a b, UpdF wd a (g a b) (fun o => g o b))
    (hms : ∀ o1 o2, (ms, instObj 210 md) ∈ g o1 o2) (hmd : ∀ o1 o2, (md, dictOf (memEs h1 h2 t1 t2 t3 wd) 2) ∈ g o1 o2)
    (hhp : ∀ o1 o2, (hp, instObj 108 dh) ∈ g o1 o2) (hdh : ∀ o1 o2, (dh, dictOf (heapEs k1 k2 k3 k4 u1 u2 u3 u4 v2 v3 ms fl start limit) 4) ∈ g o1 o2)
    (lo : (wd == sysModules) = false) (hM : MemIs w ow M) (hfs : IntsAre vs (tailAt t r))
    (hb : 0 < r → 0 < t ∧ t + 4 < 4096 ∧ BlkAt M t r none ∧ M ((t + 4) / 4) = 0)
    (hd0' : 0 ≤ d) (hd1 : d < 1024) (hw0 : 0 ≤ M (d / 4)) (hw1 : M (d / 4) ≤ 4000) (hs1 : r < bsz (M (d / 4)))
    (hret : ∀ (h' : Heap) (tk' : Nat) (t'' : Tok), Fr h₀ L h' m → News h₀ L h' news → Q (.int 0 t'') { s with heap := h', toks := tk' }) :
    wpAny (model PySem.Challenge.rw_pb0333_01.row.prog w) (ktrTop dp un gd cn cs L a ccd cl outer) (call (.ref 91) [.ref hp, .int d tb]) Q E s := by
  obtain ⟨G, e⟩ := two_of U1 U2 U3
  rw [← e] at N
  rw [← e] at hret
  exact alloc_miss_c B F X N T hk hdp hu G hms hmd hhp hdh lo hM hfs hb hd0' hd1 hw0 hw1 hs1 hret
theorem sweep_marked_u {us : List (Int × Option Int)} (B : Below A₀ base outer h₀) (F : Fr h₀ L s.heap m) (X : (K0 w.params).In h₀) (N : News h₀ L s.heap news) (T : Top p loose mean mg mb h₀) (hk : cs.kind = .function)
    (d1 : (hp, instObj 108 dh) ∈ news) (d2 : (dh, dictOf (heapEs k1 k2 k3 k4 u1 u2 u3 u4 v2 v3 ms fl start limit) 4) ∈ news) (d3 : (ms, instObj 210 md) ∈ news) (d4 : (md, dictOf (memEs h1 h2 t1 t2 t3 wd) 2) ∈ news)
    (hdp : dp + 7 < recursionLimit) (hu : un + 56 < cLine) (U1 : UpdF wd ow news g1) (U2 : ∀ o, UpdF dh (dictOf (heapEs k1 k2 k3 k4 u1 u2 u3 u4 v2 v3 ms fl start limit) 4) (g1 o) (g o)) (U3 : ∀ a b, UpdF wd a (g a b) (fun o => g o b))
    (hms : ∀ o1 o2, (ms, instObj 210 md) ∈ g o1 o2) (hmd : ∀ o1 o2, (md, dictOf (memEs h1 h2 t1 t2 t3 wd) 2) ∈ g o1 o2)
    (lo : (wd == sysModules) = false) (hhp : ∀ o1 o2, (hp, instObj 108 dh) ∈ g o1 o2) (hM : MemIs w ow M)
    (hs0 : 1024 ≤ start) (hs16 : start % 16 = 0) (hl0 : limit ≤ 1504) (hb : BChain M limit start us) (hut : UT us) (hmk : Tagged (fun x => x ≠ 0) M start us)
    (hl : (tailOf start us).length ≤ 1) (hl1 : ∀ t r, (t, r) ∈ tailOf start us → 0 ≤ t ∧ t + 4 < 4096 ∧ 0 < r ∧ r < 4096)
    (hret : ∀ (h' : Heap) (tk' : Nat) (fl' : Addr) (vs : List Value) (nf : Nat) (o' : Obj) (tf : Tok), Fr h₀ L h' m →
      News h₀ L h' ((fl', listOf vs.toArray nf) :: g o' (dictOf (heapEs k1 k2 k3 k4 u1 u2 u3 u4 v2 v3 ms fl' start limit) 4)) →
      (∀ q ∈ news, q.1 < fl') → IntsAre vs (tailL (tailOf start us)) → MemIs w o' (putT (clr M start us) (tailOf start us)) → Q (.int 0 tf) { s with heap := h', toks := tk' }) :
    wpAny (model PySem.Challenge.rw_pb0333_01.row.prog w) (ktrTop dp un gd cn cs L a ccd cl outer) (call (.ref 126) [.ref hp]) Q E s := by
  obtain ⟨G, e⟩ := two_of U1 U2 U3
  rw [← e] at N
  rw [← e] at hret
  exact sweep_marked_c B F X N T hk hdp hu G hms hmd lo hhp hM hs0 hs16 hl0 hb hut hmk hl hl1 hret
theorem sweep_clear_u {us : List (Int × Option Int)} (B : Below A₀ base outer h₀) (F : Fr h₀ L s.heap m) (X : (K0 w.params).In h₀) (N : News h₀ L s.heap news) (T : Top p loose mean mg mb h₀) (hk : cs.kind = .function)
    (d1 : (hp, instObj 108 dh) ∈ news) (d2 : (dh, dictOf (heapEs k1 k2 k3 k4 u1 u2 u3 u4 v2 v3 ms fl start limit) 4) ∈ news) (d3 : (ms, instObj 210 md) ∈ news) (d4 : (md, dictOf (memEs h1 h2 t1 t2 t3 wd) 2) ∈ news)
    (hdp : dp + 7 < recursionLimit) (hu : un + 56 < cLine) (U1 : UpdF wd ow news g1) (U2 : ∀ o, UpdF dh (dictOf (heapEs k1 k2 k3 k4 u1 u2 u3 u4 v2 v3 ms fl start limit) 4) (g1 o) (g o)) (U3 : ∀ a b, UpdF wd a (g a b) (fun o => g o b))
    (hms : ∀ o1 o2, (ms, instObj 210 md) ∈ g o1 o2) (hmd : ∀ o1 o2, (md, dictOf (memEs h1 h2 t1 t2 t3 wd) 2) ∈ g o1 o2)
    (lo : (wd == sysModules) = false) (hhp : ∀ o1 o2, (hp, instObj 108 dh) ∈ g o1 o2) (hM : MemIs w ow M)
    (hs0 : 1024 ≤ start) (hs16 : start % 16 = 0) (hl0 : limit ≤ 1504) (hlt : start < limit) (hb : BChain M limit start us) (hmk : Tagged (fun x => x = 0) M start us)
    (hret : ∀ (h' : Heap) (tk' : Nat) (fl' : Addr) (vs : List Value) (nf : Nat) (o' : Obj) (tf : Tok), Fr h₀ L h' m →
      News h₀ L h' ((fl', listOf vs.toArray nf) :: g o' (dictOf (heapEs k1 k2 k3 k4 u1 u2 u3 u4 v2 v3 ms fl' start limit) 4)) →
      (∀ q ∈ news, q.1 < fl') → IntsAre vs (tailAt start (limit - start)) → MemIs w o' (putT M [(start, limit - start)]) → Q (.int (usedSum us) tf) { s with heap := h', toks := tk' }) :
    wpAny (model PySem.Challenge.rw_pb0333_01.row.prog w) (ktrTop dp un gd cn cs L a ccd cl outer) (call (.ref 126) [.ref hp]) Q E s := by
  obtain ⟨G, e⟩ := two_of U1 U2 U3
  rw [← e] at N
  rw [← e] at hret
  exact sweep_clear_c B F X N T hk hdp hu G hms hmd lo hhp hM hs0 hs16 hl0 hlt hb hmk hret
end

/-! the records in the heap: (size of the record, address of its descriptor), side by side from b -/
noncomputable def total : List (Int × Int) → Int
  | [] => 0
  | (w, _) :: r => bsz w + total r
noncomputable def Cells (M : Int → Int) (μ D : Int) : Int → List (Int × Int) → Prop
  | _, [] => True
  | b, (w, d) :: r => (M (b / 4) = d ∧ M (b / 4 + 1) = μ ∧ (∀ j, 0 ≤ j → 4 * j < w → M (b / 4 + 2 + j) = b + 8 + 12 * j) ∧ M (d / 4) = w ∧ (0 ≤ w ∧ w ≤ 60 ∧ w % 4 = 0) ∧ (64 ≤ d ∧ d < D ∧ d % 32 = 0)) ∧ Cells M μ D (b + bsz w) r
noncomputable def blks : List (Int × Int) → Int → List (Int × Option Int)
  | [], r => if 0 < r then [(r, none)] else []
  | (w, d) :: us, r => (bsz w, some d) :: blks us r
noncomputable def recs : Int → List (Int × Int) → List (Int × Int)
  | _, [] => []
  | b, (w, _) :: r => (b + 8, w) :: recs (b + bsz w) r
noncomputable def mset (μ : Int) : (Int → Int) → Int → List (Int × Int) → Int → Int
  | M, _, [] => M
  | M, b, (w, _) :: r => mset μ (upd M (b / 4 + 1) μ) (b + bsz w) r
theorem total_nn {M : Int → Int} {μ D : Int} : ∀ {b : Int} {us : List (Int × Int)}, Cells M μ D b us → 0 ≤ total us ∧ total us % 16 = 0
  | _, [], _ => by simp [total]
  | b, (w, d) :: r, h => by
    have h1 := total_nn h.2
    have h2 := bsz_mod w
    have h3 := bsz_lo h.1.2.2.2.2.1.1
    simp only [total]
    omega
theorem Cells.mono {M M' : Int → Int} {μ D D' : Int} : ∀ {b : Int} {us : List (Int × Int)}, Cells M μ D b us → b % 16 = 0 → (∀ k, 16 ≤ k → 4 * k < D → M' k = M k) → (∀ k, b / 4 ≤ k → 4 * k < b + total us → M' k = M k) → D ≤ D' → Cells M' μ D' b us
  | _, [], _, _, _, _, _ => trivial
  | b, (w, d) :: r, ⟨⟨h1, h2, h3, h4, h5, h6⟩, h7⟩, hb, k1, k2, hD => by
    have z1 := total_nn h7
    have z2 := bsz_mod w
    have z3 := bsz_ge h5.1
    simp only [total] at k2
    refine ⟨⟨?_, ?_, ?_, ?_, h5, ⟨h6.1, by omega, h6.2.2⟩⟩, ?_⟩
    · rw [k2 _ (by omega) (by omega)]; exact h1
    · rw [k2 _ (by omega) (by omega)]; exact h2
    · intro j j0 j1
      rw [k2 _ (by omega) (by omega)]
      exact h3 j j0 j1
    · rw [k1 _ (by omega) (by omega)]; exact h4
    · exact h7.mono (by omega) k1 (fun k a b' => k2 k (by omega) (by omega)) hD
theorem Cells.snoc {M : Int → Int} {μ D : Int} {w d : Int} : ∀ {b : Int} {us : List (Int × Int)}, Cells M μ D b us → Cells M μ D (b + total us) [(w, d)] → Cells M μ D b (us ++ [(w, d)])
  | b, [], _, h => by simpa [total] using h
  | b, (w', d') :: r, ⟨h1, h2⟩, h => by
    refine ⟨h1, h2.snoc ?_⟩
    simp only [total] at h
    rw [show b + bsz w' + total r = b + (bsz w' + total r) by omega]
    exact h
theorem Cells.count {M : Int → Int} {μ D : Int} : ∀ {b : Int} {us : List (Int × Int)}, Cells M μ D b us → 16 * (us.length : Int) ≤ total us
  | _, [], _ => by simp [total]
  | b, (w, d) :: r, h => by
    have h1 := Cells.count h.2
    have h3 := bsz_lo h.1.2.2.2.2.1.1
    simp only [total, List.length_cons]
    omega
theorem recs_len : ∀ (b : Int) (us : List (Int × Int)), (recs b us).length = us.length
  | _, [] => rfl
  | b, (w, d) :: r => by simp [recs, recs_len (b + bsz w) r]
theorem total_snoc (us : List (Int × Int)) (w d : Int) : total (us ++ [(w, d)]) = total us + bsz w := by
  induction us with
  | nil => simp [total]
  | cons x r ih => obtain ⟨w', d'⟩ := x; simp only [List.cons_append, total, ih]; omega
theorem recs_snoc (w d : Int) : ∀ (b : Int) (us : List (Int × Int)), recs b (us ++ [(w, d)]) = recs b us ++ [(b + total us + 8, w)]
  | b, [] => by simp [recs, total]
  | b, (w', d') :: r => by
    simp only [List.cons_append, recs, total, recs_snoc w d (b + bsz w') r]
    rw [show b + bsz w' + total r + 8 = b + (bsz w' + total r) + 8 by omega]
theorem Cells.chain {M : Int → Int} {μ D limit r : Int} : ∀ {b : Int} {us : List (Int × Int)}, Cells M μ D b us → D ≤ 1024 → b + total us + r = limit → 0 ≤ r → r % 16 = 0 → r < 4096 → (0 < r → M ((b + total us) / 4) = r + 1) → BChain M limit b (blks us r)
  | b, [], _, _, h1, h2, h3, h3', h4 => by
    simp only [total] at h1 h4
    unfold blks
    split
    · rename_i hr
      have h4' := h4 hr
      rw [show b + 0 = b by omega] at h4'
      refine ⟨⟨by omega, h3, h4', by omega, h2, h3'⟩, ?_⟩
      show b + r = limit
      omega
    · show b = limit
      omega
  | b, (w, d) :: us, ⟨⟨a1, a2, a3, a4, a5, a6⟩, h7⟩, hD, h1, h2, h3, h3', h4 => by
    have z2 := bsz_mod w
    have z3 := bsz_lo a5.1
    simp only [total] at h1 h4
    refine ⟨⟨z3, z2, a1, by omega, by omega, by omega, by omega, by omega, by rw [a4]⟩, h7.chain hD (by omega) h2 h3 h3' fun hr => ?_⟩
    have h4' := h4 hr
    rw [show b + bsz w + total us = b + (bsz w + total us) by omega]
    exact h4'
theorem Cells.tagged {M : Int → Int} {μ D r : Int} {P : Int → Prop} (hP : P μ) : ∀ {b : Int} {us : List (Int × Int)}, Cells M μ D b us → b % 4 = 0 → Tagged P M b (blks us r)
  | b, [], _, _ => by unfold blks; split <;> trivial
  | b, (w, d) :: us, ⟨⟨a1, a2, a3, a4, a5, a6⟩, h7⟩, hb => by
    have z2 := bsz_mod w
    refine ⟨?_, h7.tagged hP (by omega)⟩
    rw [show (b + 4) / 4 = b / 4 + 1 by omega, a2]
    exact hP
theorem blks_UT (r : Int) : ∀ us : List (Int × Int), UT (blks us r)
  | [] => by unfold blks; split <;> simp [UT]
  | (w, d) :: us => blks_UT r us
theorem blks_tail (r : Int) : ∀ (b : Int) (us : List (Int × Int)), tailOf b (blks us r) = if 0 < r then [(b + total us, r)] else []
  | b, [] => by unfold blks; split <;> simp [tailOf, total]
  | b, (w, d) :: us => by
    simp only [blks, tailOf, total, blks_tail r (b + bsz w) us]
    rw [show b + bsz w + total us = b + (bsz w + total us) by omega]
theorem blks_used (r : Int) : ∀ us : List (Int × Int), usedSum (blks us r) = total us
  | [] => by unfold blks; split <;> simp [usedSum, total]
  | (w, d) :: us => by simp only [blks, usedSum, total, blks_used r us]
theorem clr_mset (r : Int) : ∀ (M : Int → Int) (b : Int) (us : List (Int × Int)), b % 4 = 0 → clr M b (blks us r) = mset 0 M b us
  | M, b, [], _ => by unfold blks; split <;> rfl
  | M, b, (w, d) :: us, hb => by
    have z2 := bsz_mod w
    simp only [blks, clr, mset]
    rw [show (b + 4) / 4 = b / 4 + 1 by omega]
    exact clr_mset r _ _ us (by omega)
theorem mset_off {μ k : Int} : ∀ {M : Int → Int} {b : Int} {us : List (Int × Int)}, (∀ p ∈ us, 0 ≤ p.1) → b % 4 = 0 → (k < b / 4 + 1 ∨ b + total us ≤ 4 * k) → mset μ M b us k = M k
  | M, b, [], _, _, _ => rfl
  | M, b, (w, d) :: us, hw, hb, h => by
    have z2 := bsz_mod w
    have z3 := bsz_lo (hw _ (.head _))
    have z4 : 0 ≤ total us := by
      have : ∀ l : List (Int × Int), (∀ p ∈ l, 0 ≤ p.1) → 0 ≤ total l := by
        intro l
        induction l with
        | nil => intro _; simp [total]
        | cons x l ih =>
          intro hl
          obtain ⟨w', d'⟩ := x
          have := ih fun p hp => hl p (.tail _ hp)
          have := bsz_lo (hl _ (.head _))
          simp only [total]
          simp only at this
          omega
      exact this us fun p hp => hw p (.tail _ hp)
    simp only [total] at h
    simp only at z3
    unfold mset
    rw [mset_off (fun p hp => hw p (.tail _ hp)) (by omega) (by omega)]
    unfold upd
    rw [if_neg (by omega)]
theorem Cells.sizes {M : Int → Int} {μ D : Int} : ∀ {b : Int} {us : List (Int × Int)}, Cells M μ D b us → ∀ p ∈ us, 0 ≤ p.1
  | _, [], _, _, hp => nomatch hp
  | b, (w, d) :: r, h, p, hp => by
    rcases List.mem_cons.mp hp with rfl | hp
    · exact h.1.2.2.2.2.1.1
    · exact h.2.sizes p hp
theorem Cells.mset {μ μ' D : Int} : ∀ {M : Int → Int} {b : Int} {us : List (Int × Int)}, Cells M μ D b us → b % 16 = 0 → 320 ≤ b → D ≤ 320 → Cells (mset μ' M b us) μ' D b us
  | M, b, [], _, _, _, _ => trivial
  | M, b, (w, d) :: us, ⟨⟨a1, a2, a3, a4, a5, a6⟩, h7⟩, hb, hb2, hD => by
    have z2 := bsz_mod w
    have z3 := bsz_ge a5.1
    have hs := h7.sizes
    have e : ∀ k, k < (b + bsz w) / 4 + 1 → Mine.mset μ' (upd M (b / 4 + 1) μ') (b + bsz w) us k = upd M (b / 4 + 1) μ' k := fun k hk => mset_off hs (by omega) (.inl hk)
    unfold Mine.mset
    refine ⟨⟨?_, ?_, ?_, ?_, a5, a6⟩, ?_⟩
    · rw [e _ (by omega)]; unfold upd; rw [if_neg (by omega)]; exact a1
    · rw [e _ (by omega)]; unfold upd; rw [if_pos rfl]
    · intro j j0 j1
      rw [e _ (by omega)]; unfold upd; rw [if_neg (by omega)]; exact a3 j j0 j1
    · rw [e _ (by omega)]; unfold upd; rw [if_neg (by omega)]; exact a4
    · refine Cells.mset (μ := μ) (M := upd M (b / 4 + 1) μ') ?_ (by omega) (by omega) hD
      refine h7.mono (by omega) (fun k k1 k2 => ?_) (fun k k1 k2 => ?_) (Int.le_refl _)
      · unfold upd; rw [if_neg (by omega)]
      · unfold upd; rw [if_neg (by omega)]

/-! comprehensions by an invariant -/
noncomputable def CpPost (h₀ : Heap) (L : Addr) (m : Str → Option Value) (s₁ : Shared) (led : List (Addr × Obj)) (R : Value → Prop) (y : Value) (s₂ : Shared) : Prop :=
  ∃ h' tk, s₂ = { s₁ with heap := h', toks := tk } ∧ Fr h₀ L h' m ∧ News h₀ L h' led ∧ R y
theorem CpPost.intro {h₀ h' : Heap} {L : Addr} {m : Str → Option Value} {s₁ : Shared} {led : List (Addr × Obj)} {R : Value → Prop} {y : Value} {tk : Nat} (F : Fr h₀ L h' m) (N : News h₀ L h' led) (r : R y) : CpPost h₀ L m s₁ led R y { s₁ with heap := h', toks := tk } :=
  ⟨h', tk, rfl, F, N, r⟩
section
variable {prog : Program} {w : World} {A : Around} {s : Shared} {h₀ : Heap} {L : Addr} {m : Str → Option Value} {env : Env}
theorem comp_ind {elt : PySem.Expr} {x : Str} {scope : Scope} {cl : List (Str × Addr)} {S : List (Addr × Obj) → Prop} {P : Nat → Value → Prop} {Fin : List Value → List (Addr × Obj) → Prop} {news : List (Addr × Obj)} {n : Nat} (J : Nat → List Value → Prop) (hS : S news) (j0 : J 0 [])
    (turn : ∀ i ys v I oI C oC D m₂ h tk (E' : Value → Shared → Prop), i < n → J i ys → P i v → LCg.NsObj oC m₂ → m₂ x = some v → Fr h₀ L h m → News h₀ L h ((I, oI) :: (C, oC) :: (D, LCg.lst ys) :: news) → LCg.Off3 I C D news → ((@Ne Nat I C) ∧ (@Ne Nat I D) ∧ (@Ne Nat C D)) →
      wpAny (model prog w) A (eval elt (compEnvC scope cl C env)) (CpPost h₀ L m { s with heap := h, toks := tk } ((I, oI) :: (C, oC) :: (D, LCg.lst ys) :: news) (fun y => J (i + 1) (ys ++ [y]))) E' { s with heap := h, toks := tk })
    (done : ∀ ys, J n ys → Fin ys news) : LCg.CompRest prog w A h₀ L m env elt x scope cl s S P Fin n 0 [] news := by
  have H : ∀ k i ys, i + k = n → J i ys → LCg.CompRest prog w A h₀ L m env elt x scope cl s S P Fin k i ys news := by
    intro k
    induction k with
    | zero =>
      intro i ys e j
      have e' : i = n := by omega
      subst e'
      exact done ys j
    | succ k ih =>
      intro i ys e j v I oI C oC D m₂ h tk E' hP hC hx F N off ne
      refine wpAny_mono (turn i ys v I oI C oC D m₂ h tk E' (by omega) j hP hC hx F N off ne) (fun y s₂ q => ?_) fun _ _ q => q
      obtain ⟨h', tk', rfl, F', N', j'⟩ := q
      exact LCg.CompEnd.intro F' N' news (fun p hp => hp) off hS (ih (i + 1) (ys ++ [y]) (by omega) j')
  exact H n 0 [] (by omega) j0
/-- a comprehension over a range by any step -/
theorem comp_range {elt iter : PySem.Expr} {x : Str} {px : Pos} {scope : Scope} {cl : List (Str × Addr)} {pos : Pos} {Q E : Value → Shared → Prop} (F₀ : Fr h₀ L s.heap m)
    (hclos : closureFor scope env = pure cl) (hcell : ∀ y ∈ scope.names, y.2 ≠ .cell) (hkind : scope.kind = .function)
    (hnames : ∀ y ∈ scope.names, y.2 = .local → scope.names.lookup y.1 = some .local) (hx : scope.names.lookup x = some .local)
    (h : wpAny (model prog w) A (eval iter env) (fun xv s₁ => ∃ r a b c t u v n news, xv = .ref r ∧ A.handled = none ∧ Fr h₀ L s₁.heap m ∧ News h₀ L s₁.heap news ∧ IsRange s₁.heap r a b c t u v ∧ Builtin.Range.small a b c = true ∧ Builtin.Range.rangeSize a b c = ((n : Nat) : Int) ∧ n ≤ sizeLine ∧
      ∀ s₂ : Shared, (∃ h, s₂ = { s₁ with heap := h }) → LCg.CompRest prog w A h₀ L m env elt x scope cl s₂ (fun _ => True) (fun i v => ∃ t, v = .int (a + (i : Int) * c) t) (LCg.FinE h₀ L m s₂ Q) n 0 [] news) E s)
    (hs : ∀ x, foldedSetIterable iter env x = pure x := by intro _; rfl) :
    wpAny (model prog w) A (eval (.ListComp elt [⟨.Name x px, iter, [], 0⟩] scope pos) env) Q E s := by
  rw [eval_ListComp]
  refine wpAny_comprehension_free (use := none) rfl hs hclos hkind hnames (wpAny_mono h (fun xv s₁ h₁ => ?_) fun _ _ e => e)
  obtain ⟨r, a, b, c, t, u, v, n, news, rfl, hh, F, N, hr, hsm, hn, hsz, R⟩ := h₁
  refine wpAny_pyIter_range hr hsm ?_
  have W : Walks prog w A s₁.heap.objs.size [s₁.heap.objs.size] [s₁.heap.objs.size] n (fun i v => ∃ t, v = .int (a + (i : Int) * c) t) (fun i h => IsRangeIter h s₁.heap.objs.size (a + (i : Nat) * c) ((n : Int) - (i : Nat)) c) :=
    let W : Walks prog w A s₁.heap.objs.size [s₁.heap.objs.size] [s₁.heap.objs.size] n (fun i v => i < n ∧ ∃ t, v = .int (a + i * c) t) (fun i h => IsRangeIter h s₁.heap.objs.size (a + (i : Nat) * c) ((n : Int) - (i : Nat)) c) := (Walks.range hh s₁.heap.objs.size a c n).bound
    { sub := W.sub, frame := W.frame, done := W.done, self := W.self,
      item := fun i s Q E hi st hQ => W.item i s Q E hi st fun v h' tk hP => hQ v h' tk hP.2 }
  have st : ∀ i (h h' : Heap) (o : Obj) (nw : List (Addr × Obj)), IsRangeIter h s₁.heap.objs.size (a + (i : Nat) * c) ((n : Int) - (i : Nat)) c → h.get? s₁.heap.objs.size = some o → h'.get? s₁.heap.objs.size = some o → (∀ b o, h₀.get? b = some o → h'.get? b = some o) → News h₀ L h' nw → True → IsRangeIter h' s₁.heap.objs.size (a + (i : Nat) * c) ((n : Int) - (i : Nat)) c :=
    fun i h h' o nw st e e' _ _ _ => by
      have st' : h.get? s₁.heap.objs.size = some _ := st
      show h'.get? s₁.heap.objs.size = some _
      rw [e', ← e]; exact st'
  refine LCg.block_U W hsz (fun i h st => ⟨_, st⟩) st hcell hkind hx (by show IsRangeIter _ _ _ _ _; rw [hn]; simpa using Heap.get?_push_size _ rfl) (fun b hb => ?_)
    (F.keeps fun _ _ e => Heap.get?_push_of_some _ e) (N.grown fun _ _ e => Heap.get?_push_of_some _ e) (Nat.ne_of_lt F.ns.lt) (next_is_new F) (fun p hp => Nat.ne_of_lt (Heap.lt_size (N p hp).1)) trivial (R _ ⟨_, rfl⟩) ?_
  · rw [List.mem_singleton.mp hb]
    show s₁.heap.objs.size < (s₁.heap.push _).objs.size
    rw [Heap.size_push]; exact Nat.lt_succ_self _
  · intro D C h' tk m' ys news' F' N' o1 hn hC₀ hD₀ hCL hDL hCD offC fin
    refine ⟨m', hn, fun h'' hs'' => fin D h'' tk (F'.change hs'' hCL hC₀) (fun p hp => ?_) o1⟩
    refine ⟨hs''.extBut _ _ ?_ (N' p hp).1, (N' p hp).2⟩
    rcases List.mem_cons.mp hp with rfl | hp
    · exact Ne.symm hCD
    · exact offC p hp

noncomputable def CpSrc (prog : Program) (w : World) (A : Around) (h₀ : Heap) (L : Addr) (m : Str → Option Value) (env : Env) (elt : PySem.Expr) (x : Str) (scope : Scope) (cl : List (Str × Addr)) (Q : Value → Shared → Prop) (xv : Value) (s₁ : Shared) : Prop :=
  ∃ r a b c t u v n news, xv = .ref r ∧ A.handled = none ∧ Fr h₀ L s₁.heap m ∧ News h₀ L s₁.heap news ∧ IsRange s₁.heap r a b c t u v ∧ Builtin.Range.small a b c = true ∧ Builtin.Range.rangeSize a b c = ((n : Nat) : Int) ∧ n ≤ sizeLine ∧
      ∀ s₂ : Shared, (∃ h, s₂ = { s₁ with heap := h }) → LCg.CompRest prog w A h₀ L m env elt x scope cl s₂ (fun _ => True) (fun i v => ∃ t, v = .int (a + (i : Int) * c) t) (LCg.FinE h₀ L m s₂ Q) n 0 [] news
theorem comp_rangeS {elt iter : PySem.Expr} {x : Str} {px : Pos} {scope : Scope} {cl : List (Str × Addr)} {pos : Pos} {Q E : Value → Shared → Prop} (F₀ : Fr h₀ L s.heap m)
    (hclos : closureFor scope env = pure cl) (hcell : ∀ y ∈ scope.names, y.2 ≠ .cell) (hkind : scope.kind = .function)
    (hnames : ∀ y ∈ scope.names, y.2 = .local → scope.names.lookup y.1 = some .local) (hx : scope.names.lookup x = some .local)
    (h : wpAny (model prog w) A (eval iter env) (CpSrc prog w A h₀ L m env elt x scope cl Q) E s)
    (hs : ∀ x, foldedSetIterable iter env x = pure x := by intro _; rfl) :
    wpAny (model prog w) A (eval (.ListComp elt [⟨.Name x px, iter, [], 0⟩] scope pos) env) Q E s := comp_range F₀ hclos hcell hkind hnames hx h hs
theorem CpSrc.intro {elt : PySem.Expr} {x : Str} {scope : Scope} {cl : List (Str × Addr)} {Q : Value → Shared → Prop} {r : Addr} {a b c : Int} {t u v : Tok} {n : Nat} {news : List (Addr × Obj)} {s₁ : Shared}
    (hh : A.handled = none) (F : Fr h₀ L s₁.heap m) (N : News h₀ L s₁.heap news) (hr : IsRange s₁.heap r a b c t u v) (hsm : Builtin.Range.small a b c = true) (hn : Builtin.Range.rangeSize a b c = ((n : Nat) : Int)) (hsz : n ≤ sizeLine)
    (h : ∀ g, LCg.CompRest prog w A h₀ L m env elt x scope cl { s₁ with heap := g } (fun _ => True) (fun i v => ∃ t, v = .int (a + (i : Int) * c) t) (LCg.FinE h₀ L m { s₁ with heap := g } Q) n 0 [] news) :
    CpSrc prog w A h₀ L m env elt x scope cl Q (.ref r) s₁ := ⟨r, a, b, c, t, u, v, n, news, rfl, hh, F, N, hr, hsm, hn, hsz, fun _ ⟨g, e⟩ => e ▸ h g⟩
end

noncomputable def lawFn : List Stmt := PySem.Challenge.pw_pb0333_01.main.body.drop 19
noncomputable def lawBody : List Stmt := match lawFn with | [.FunctionDef _ _ b _ _ _ _ _ _ _] => b | _ => []
noncomputable def lawScope : Scope := match lawFn with | [.FunctionDef _ _ _ _ _ _ sc _ _ _] => sc | _ => default
structure LInv (M : Int → Int) (us : List (Int × Int)) (t r limit D : Int) : Prop where
  cells : Cells M 0 D 1024 us
  ht : t = 1024 + total us
  hr : t + r = limit
  r0 : 0 ≤ r
  r16 : r % 16 = 0
  w1 : 0 < r → M (t / 4) = r + 1
  w2 : 0 < r → M (t / 4 + 1) = 0
noncomputable def filled (M : Int → Int) (a : Int) (n : Nat) : Int → Int := fun k => if a / 4 ≤ k ∧ k < a / 4 + n then a + 12 * (k - a / 4) else M k
theorem filled_zero {M : Int → Int} {a : Int} : filled M a 0 = M := by
  funext k; unfold filled; rw [if_neg (by omega)]
theorem filled_succ {M : Int → Int} {a : Int} {n : Nat} : upd (filled M a n) (a / 4 + n) (a + 12 * n) = filled M a (n + 1) := by
  funext k
  show (if k = a / 4 + n then a + 12 * n else if a / 4 ≤ k ∧ k < a / 4 + n then a + 12 * (k - a / 4) else M k) = if a / 4 ≤ k ∧ k < a / 4 + (n + 1 : Nat) then a + 12 * (k - a / 4) else M k
  by_cases h1 : k = a / 4 + n
  · rw [if_pos h1, if_pos (by omega)]; omega
  · rw [if_neg h1]
    by_cases h2 : a / 4 ≤ k ∧ k < a / 4 + n
    · rw [if_pos h2, if_pos (by omega)]
    · rw [if_neg h2, if_neg (by omega)]
theorem upd_val {w : World} {o : Obj} {M : Int → Int} {k f : Int} (h : MemIs w o (upd M k (4 * f))) : ∃ f', f' = f := ⟨f, rfl⟩
noncomputable def JF (w : World) (M : Int → Int) (a : Int) (i : Nat) (_ : Str → Option Value) (o : Obj) : Prop := MemIs w o (filled M a i)
theorem memF {w : World} {o : Obj} {M : Int → Int} {a : Int} {m : Str → Option Value} (h : MemIs w o M) : JF w M a 0 m o := by
  unfold JF; rw [filled_zero]; exact h
theorem kdfPut_fresh {c : List (Int × Int)} {k v : Int} (h : ∀ p ∈ c, p.1 ≠ k) : kdfPut c k v = c ++ [(k, v)] := by
  unfold kdfPut
  rw [if_neg]
  intro q
  obtain ⟨p, hp, e⟩ := List.any_eq_true.mp q
  exact h p hp (of_decide_eq_true e)
theorem recs_lt {M : Int → Int} {μ D : Int} : ∀ {b : Int} {us : List (Int × Int)}, Cells M μ D b us → ∀ p ∈ recs b us, b + 8 ≤ p.1 ∧ p.1 < b + total us
  | _, [], _, _, hp => nomatch hp
  | b, (w, d) :: r, h, p, hp => by
    have h1 := total_nn h.2
    have h3 := bsz_lo h.1.2.2.2.2.1.1
    simp only [total]
    rcases List.mem_cons.mp hp with rfl | hp
    · simp only
      omega
    · have := recs_lt h.2 p hp
      omega
theorem LInv.step {M1 M2 : Int → Int} {us : List (Int × Int)} {t r limit i f : Int} {n : Nat} (hc : Cells M1 0 (64 + 32 * i) 1024 us) (ht : t = 1024 + total us) (hr : t + r = limit) (hr0 : 0 ≤ r) (hr16 : r % 16 = 0) (hlim : limit ≤ 1504)
    (hi0 : 0 ≤ i) (hi : i ≤ 7) (hf0 : 0 ≤ f) (hf1 : f < 16) (hfit : bsz (4 * f) ≤ r) (P : AllocPost M1 M2 t (bsz (4 * f)) r (64 + 32 * i)) (e1 : M1 ((64 + 32 * i) / 4) = 4 * f) (hn : n = ((4 * f - 0 + 3) / 4).toNat) :
    LInv (filled M2 (t + 8) n) (us ++ [(4 * f, 64 + 32 * i)]) (t + bsz (4 * f)) (r - bsz (4 * f)) limit (64 + 32 * (i + 1)) := by
  have h1 := total_nn hc
  have h2 := bsz_mod (4 * f)
  have h3 := bsz_ge (x := 4 * f) (by omega)
  have off : ∀ k, (k < (t + 8) / 4 ∨ (t + 8) / 4 + n ≤ k) → filled M2 (t + 8) n k = M2 k := fun k hk => by
    unfold filled; rw [if_neg (by omega)]
  refine ⟨?_, by rw [total_snoc]; omega, by omega, by omega, by omega, ?_, ?_⟩
  · refine Cells.snoc (hc.mono (by decide) (fun k k1 k2 => ?_) (fun k k1 k2 => ?_) (by omega)) ?_
    · rw [off k (by omega)]; exact P.below k (by omega)
    · rw [off k (by omega)]; exact P.below k (by omega)
    · rw [← ht]
      refine ⟨⟨?_, ?_, ?_, ?_, by omega, by omega⟩, trivial⟩
      · rw [off _ (by omega)]; exact P.desc
      · rw [off _ (by omega)]; exact P.zero _ (by omega) (by omega)
      · intro j j0 j1
        unfold filled
        rw [if_pos (by omega)]
        omega
      · rw [off _ (by omega), P.below _ (by omega)]; exact e1
  · intro h
    rw [off _ (by omega)]; exact P.tail1 h
  · intro h
    rw [off _ (by omega), show (t + bsz (4 * f)) / 4 + 1 = (t + bsz (4 * f) + 4) / 4 by omega]; exact P.tail2 h
noncomputable def LJ (w : World) (gr : Int) (L ms md wd hp dh fl sd sr l1 : Addr) (c1 c2 c3 : Obj) (h1 h2 k1 k2 k3 k4 : Int) (t1 t2 t3 u1 u2 u3 u4 v2 v3 : Tok) (m₀ : Str → Option Value) (i : Nat) (m : Str → Option Value) (nw : List (Addr × Obj)) : Prop :=
  Off [Str.ofString "at", Str.ofString "told", Str.ofString "spot"] m m₀ ∧ ∃ (x b : Int) (tx tb : Tok) (n : Nat) (vs1 : List Value) (n1 : Nat) (ns : List Int) (owd : Obj) (vsf : List Value) (nf : Nat) (osd : Obj) (us : List (Int × Int)) (t r : Int) (M : Int → Int),
    nw = [(sd, osd), (fl, listOf vsf.toArray nf), (hp, instObj 108 dh), (dh, dictOf (heapEs k1 k2 k3 k4 u1 u2 u3 u4 v2 v3 ms fl 1024 (1024 + 16 * gr)) 4), (wd, owd), (ms, instObj 210 md), (md, dictOf (memEs h1 h2 t1 t2 t3 wd) 2), (sr, listOf #[.ref l1, .int x tx, .int b tb] n), (l1, listOf vs1.toArray n1), (L + 1 + 1 + 1, c3), (L + 1 + 1, c2), (L + 1, c1)] ∧
    (IntsAre vs1 ns ∧ ns.length ≤ 40 ∧ 0 ≤ x ∧ 0 ≤ b ∧ b < 2147483563) ∧ MemIs w owd M ∧ IntsAre vsf (tailAt t r) ∧ IsW w osd (recs 1024 us) ∧ LInv M us t r (1024 + 16 * gr) (64 + 32 * i)

noncomputable def StopFor : Prop := True
noncomputable def StopAny : Prop := True
theorem Fr.as {h₀ h : Heap} {L : Addr} {m : Str → Option Value} {hp : Addr} {gr : Int} {tg : Tok} (F : Fr h₀ L h m) (h1 : m (Str.ofString "area") = some (.ref hp)) (h2 : m (Str.ofString "grains") = some (.int gr tg)) :
    Fr h₀ L h (fun y => if y = Str.ofString "area" then some (.ref hp) else if y = Str.ofString "grains" then some (.int gr tg) else m y) := by
  have e : m = (fun y => if y = Str.ofString "area" then some (.ref hp) else if y = Str.ofString "grains" then some (.int gr tg) else m y) := by
    funext y
    split
    · rename_i q; rw [q, h1]
    · split
      · rename_i q; rw [q, h2]
      · rfl
  rw [← e]; exact F
theorem blks_len (r : Int) : ∀ us : List (Int × Int), (blks us r).length = us.length + if 0 < r then 1 else 0
  | [] => by unfold blks; split <;> rfl
  | (w, d) :: us => by simp only [blks, List.length_cons, blks_len r us]; omega
theorem tot_nn : ∀ {l : List (Int × Int)}, (∀ p ∈ l, 0 ≤ p.1) → 0 ≤ total l := by
  intro l
  induction l with
  | nil => intro _; simp [total]
  | cons x l ih =>
    intro hl
    obtain ⟨w', d'⟩ := x
    have := ih fun p hp => hl p (.tail _ hp)
    have := bsz_lo (hl _ (.head _))
    simp only [total]
    simp only at this
    omega
theorem swept {M : Int → Int} {us : List (Int × Int)} {t r limit D : Int} (hc : Cells M 64 D 1024 us) (ht : t = 1024 + total us) (hr : t + r = limit) (r0 : 0 ≤ r) (r16 : r % 16 = 0) (hl : limit ≤ 1504) (hD : D ≤ 320) :
    LInv (putT (clr M 1024 (blks us r)) (tailOf 1024 (blks us r))) us t r limit D := by
  have hc' : Cells (mset 0 M 1024 us) 0 D 1024 us := hc.mset (by decide) (by decide) hD
  have z := total_nn hc
  rw [clr_mset _ _ _ _ (by decide), blks_tail]
  by_cases h : 0 < r
  · rw [if_pos h, ← ht]
    simp only [putT]
    refine ⟨hc'.mono (by decide) (fun k k1 k2 => ?_) (fun k k1 k2 => ?_) (Int.le_refl _), ht, hr, r0, r16, fun _ => ?_, fun _ => ?_⟩
    · unfold upd; rw [if_neg (by omega), if_neg (by omega)]
    · unfold upd; rw [if_neg (by omega), if_neg (by omega)]
    · unfold upd; rw [if_neg (by omega), if_pos rfl]
    · unfold upd; rw [if_pos (by omega)]
  · rw [if_neg h]
    simp only [putT]
    exact ⟨hc', ht, hr, r0, r16, fun q => absurd q h, fun q => absurd q h⟩
theorem swept_tail (r : Int) (r0 : 0 ≤ r) (us : List (Int × Int)) : tailL (tailOf 1024 (blks us r)) = tailAt (1024 + total us) r := by
  rw [blks_tail]
  by_cases h : 0 < r
  · rw [if_pos h]; rfl
  · rw [if_neg h]
    have e : r = 0 := by omega
    subst e
    rfl

theorem cleared {M : Int → Int} {gr D : Int} (hg0 : 2 ≤ gr) (hg1 : gr ≤ 30) : LInv (putT M [(1024, 1024 + 16 * gr - 1024)]) [] 1024 (16 * gr) (1024 + 16 * gr) D := by
  refine ⟨trivial, by simp [total], rfl, by omega, by omega, fun _ => ?_, fun _ => ?_⟩
  · simp only [putT]
    unfold upd; rw [if_neg (by omega), if_pos rfl]; omega
  · simp only [putT]
    unfold upd; rw [if_pos (by omega)]
theorem blks_one {gr : Int} (hg0 : 2 ≤ gr) : rowsFrom 1024 (blks [] (16 * gr)) = [(1024, 16 * gr, none)] := by
  unfold blks
  rw [if_pos (by omega)]
  rfl
theorem recs_look {M : Int → Int} {μ D : Int} : ∀ {b : Int} {us : List (Int × Int)}, Cells M μ D b us → ∀ p ∈ recs b us, kdfLook (recs b us) p.1 0 = p.2 ∧ kdfHas (recs b us) p.1 = true
  | _, [], _, _, hp => nomatch hp
  | b, (w, d) :: r, h, p, hp => by
    have h3 := bsz_lo h.1.2.2.2.2.1.1
    rcases List.mem_cons.mp hp with rfl | hp
    · constructor
      · simp [recs, kdfLook]
      · simp [recs, kdfHas]
    · have h1 := recs_lt h.2 p hp
      obtain ⟨i1, i2⟩ := recs_look h.2 p hp
      have hne : ¬ (b + 8 = p.1) := by omega
      constructor
      · rw [← i1]
        simp [recs, kdfLook, hne]
      · rw [← i2]
        simp [recs, kdfHas, hne]

theorem fill13 (w : World) (h : Heap) : (K0 w.params).In h → model PySem.Challenge.rw_pb0333_01.row.prog w = model PySem.Challenge.rw_pb0333_01.row.prog w := by
  k_fill
  intro _; rfl
-- PRELUDE
end
end
end
end
end
end
end
end
end
end
end
end
end
end
section
local macro_rules | `(tactic| walk_at "mine room") => `(tactic| (
  (case kB => first | k_asm | ktn_no "mine: the frames below");
  (case kF => first | k_asm | ktn_no "mine: the frame");
  (case kX => first | k_asm | ktn_no "mine: the written part");
  (case kN => first | k_asm | ktn_no "mine: the ledger");
  (case kT => first | k_asm | ktn_no "mine: the top's facts");
  (case kK => first | exact rfl | assumption | ktn_no "mine: the caller is no def");
  (case kD => first | ktr_room | ktn_no "mine: the frames' room");
  (case kU => first | k_units | ktr_units | ktn_no "mine: the C units")))
section
local macro_rules | `(tactic| walk_at "mine fact") => `(tactic| first | assumption | omega | (simp only [fmod_e _ (show (0 : Int) ≤ 9973 by decide)]; omega) | (simp only [decide_eq_true_eq, decide_eq_false_iff_not] at *; omega) | ktn_no "mine: a fact")
section
local macro_rules | `(tactic| walk_at "call ref") => `(tactic| ((with_reducible show wpAny _ _ (call (Value.ref 186) _) _ _ _); k_dflt (refine' word_c ?kB ?kF ?kX ?kN ?kT ?kK ?kD ?kU ?m1 ?m2 ?m3 ?m4 ?m5 ?a0 ?a1 ?_; walk_at "mine room"; (case m1 => k_mem); (case m2 => k_mem); (case m3 => k_asm); (case m4 => k_mem); (case m5 => k_asm); (case a0 => walk_at "mine fact"); (case a1 => walk_at "mine fact"); intro t9 h9 tk9 F9 N9; (try dsimp only); (try k_fold))))
section
local macro_rules | `(tactic| walk_at "call ref") => `(tactic| ((with_reducible show wpAny _ _ (call (Value.ref 193) _) _ _ _); k_dflt (refine' put_word_c ?kB ?kF ?kX ?kN ?kT ?kK ?kD ?kU ?m1 ?m2 ?m3 ?m4 ?m5 ?a0 ?a1 ?a2 ?a3 ?_; walk_at "mine room"; (case m1 => k_mem); (case m2 => k_mem); (case m3 => k_asm); (case m4 => k_updF); (case m5 => k_asm); (case a0 => walk_at "mine fact"); (case a1 => walk_at "mine fact"); (case a2 => walk_at "mine fact"); (case a3 => walk_at "mine fact"); intro h9 tk9 o9 F9 N9 M9; (try dsimp only at N9); (try dsimp only); (try k_fold))))
section
local macro_rules | `(tactic| walk_at "ite") => `(tactic| (k_here; k_openite; first | refine ite_pos (decide_eq_true (by omega)) ?_ | refine ite_isFalse (decide_eq_false (by omega)) ?_ | refine ite_pos (bne_yes (by omega)) ?_ | refine ite_isFalse (bne_no (by omega)) ?_ | refine ite_pos (beq_yes (by omega)) ?_ | refine ite_isFalse (beq_no (by omega)) ?_ | refine ite_pos (by omega) ?_ | refine ite_neg (by omega) ?_))
section
local macro_rules | `(tactic| walk_at "call ref") => `(tactic| ((with_reducible show wpAny _ _ (call (Value.ref 28) _) _ _ _); k_dflt (refine' block_size_c ?kB ?kF ?kX ?kN ?kT ?kK ?kD ?kU ?a0 ?a1 ?_; walk_at "mine room"; (case a0 => walk_at "mine fact"); (case a1 => walk_at "mine fact"); intro t9 h9 tk9 F9 N9; (try dsimp only); (try k_fold))))
section
local macro_rules | `(tactic| walk_at "call ref") => `(tactic| ((with_reducible show wpAny _ _ (call (Value.ref 35) _) _ _ _); k_dflt (refine' list_number_c ?kB ?kF ?kX ?kN ?kT ?kK ?kD ?kU ?_; walk_at "mine room"; intro t9 h9 tk9 F9 N9; (try dsimp only); (try k_fold))))
section
local macro_rules | `(tactic| walk_at "call ref") => `(tactic| ((with_reducible show wpAny _ _ (call (Value.ref 77) _) _ _ _); k_dflt (refine' size_of_c ?kB ?kF ?kX ?kN ?kT ?kK ?kD ?kU ?m1 ?m2 ?m3 ?m4 ?m5 ?m6 ?m7 ?a0 ?a1 ?bb ?_; walk_at "mine room"; (case m1 => k_mem); (case m2 => k_mem); (case m3 => k_asm); (case m4 => k_mem); (case m5 => k_asm); (case m6 => k_mem); (case m7 => k_mem); (case a0 => walk_at "mine fact"); (case a1 => walk_at "mine fact"); (case bb => k_asm); intro t9 h9 tk9 F9 N9; (try dsimp only); (try k_fold))))
section
local macro_rules | `(tactic| walk_at "call ref") => `(tactic| ((with_reducible show wpAny _ _ (call (Value.ref 63) _) _ _ _); k_dflt (refine' is_free_c ?kB ?kF ?kX ?kN ?kT ?kK ?kD ?kU ?m1 ?m2 ?m3 ?m4 ?m5 ?m6 ?m7 ?a0 ?a1 ?bb ?_; walk_at "mine room"; (case m1 => k_mem); (case m2 => k_mem); (case m3 => k_asm); (case m4 => k_mem); (case m5 => k_asm); (case m6 => k_mem); (case m7 => k_mem); (case a0 => walk_at "mine fact"); (case a1 => walk_at "mine fact"); (case bb => k_asm); intro t9 h9 tk9 F9 N9; (try dsimp only [Option.isNone]); (try k_fold))))
section
local macro_rules | `(tactic| walk_at "call ref") => `(tactic| ((with_reducible show wpAny _ _ (call (Value.ref 70) _) _ _ _); k_dflt (refine' descriptor_c ?kB ?kF ?kX ?kN ?kT ?kK ?kD ?kU ?m1 ?m2 ?m3 ?m4 ?m5 ?m6 ?m7 ?a0 ?a1 ?bb ?_; walk_at "mine room"; (case m1 => k_mem); (case m2 => k_mem); (case m3 => k_asm); (case m4 => k_mem); (case m5 => k_asm); (case m6 => k_mem); (case m7 => k_mem); (case a0 => walk_at "mine fact"); (case a1 => walk_at "mine fact"); (case bb => k_asm); intro t9 h9 tk9 F9 N9; (try dsimp only); (try k_fold))))

section
local macro_rules | `(tactic| k_mem) => `(tactic| first | exact mem2 (by assumption) | exact memA (by assumption) | exact memB (by assumption))
section
local macro_rules | `(tactic| k_updF) => `(tactic| first | exact updA (by assumption) | exact updB (by assumption))
section
local macro_rules | `(tactic| k_upd) => `(tactic| first | exact updA' (by assumption) | exact updB' (by assumption))

section
local macro_rules | `(tactic| walk_at "call ref") => `(tactic| ((with_reducible show wpAny _ _ (call (Value.ref 98) _) _ _ _); k_dflt (refine' blocks_c ?kB ?kF ?kX ?kN ?kT ?kK ?kD ?kU ?m1 ?m2 ?m3 ?m4 ?m5 ?m6 ?m7 ?a0 ?a1 ?bb ?_; walk_at "mine room"; (case m1 => k_mem); (case m2 => k_mem); (case m3 => k_asm); (case m4 => k_mem); (case m5 => k_asm); (case m6 => k_mem); (case m7 => k_mem); (case a0 => walk_at "mine fact"); (case a1 => walk_at "mine fact"); (case bb => k_asm); intro h9 tk9 lf9 vs9 n9 ext9 F9 N9 lt9 or9 of9 rw9; (try dsimp only); (try k_fold))))


-- LAWRULES
section
local macro_rules | `(tactic| walk_at "call ref") => `(tactic| first
  | ((with_reducible show wpAny _ _ (call (Value.ref 221) _) _ _ _); refine stopHere ?_)
  | ((with_reducible show wpAny _ _ (call (Value.ref 56) _) _ _ _); refine stopHere ?_)
  | ((with_reducible show wpAny _ _ (call (Value.ref 91) _) _ _ _); refine stopHere ?_)
  | ((with_reducible show wpAny _ _ (call (Value.ref 98) _) _ _ _); refine stopHere ?_)
  | ((with_reducible show wpAny _ _ (call (Value.ref 126) _) _ _ _); refine stopHere ?_))
section
local macro_rules | `(tactic| walk_at "mine dets") => `(tactic| ((case d1 => k_mem); (case d2 => k_mem); (case d3 => k_mem); (case d4 => k_mem)))
section
local macro_rules | `(tactic| walk_at "mine upds") => `(tactic| (
  (case U1 => first | k_updF | ktn_no "mine: the first hole");
  (case U2 => first | (intro _; (try dsimp only); k_updF) | ktn_no "mine: the second hole");
  (case U3 => first | (intro _ _; (try dsimp only); k_updF) | ktn_no "mine: both holes")))
section
local macro_rules | `(tactic| walk_at "mine mems") => `(tactic| (
  (case m1 => (intro _ _; (try dsimp only); k_mem)); (case m2 => (intro _ _; (try dsimp only); k_mem)); (case m6 => (intro _ _; (try dsimp only); k_mem)); (case m7 => (intro _ _; (try dsimp only); k_mem))))
section
local macro_rules | `(tactic| walk_at "call ref") => `(tactic| ((with_reducible show wpAny _ _ (call (Value.ref 221) _) _ _ _); k_dflt (refine' law_take_u ?kB ?kF ?kX ?kN ?kT ?kK ?kD ?kU ?U1 ?U2 ?U3 ?i1 ?i2 ?a0 ?a1 ?a2 ?a3 ?a4 ?_; walk_at "mine room"; walk_at "mine upds"; (case i1 => k_asm); (case i2 => first | k_asm | omega | ktn_no "mine: take's length"); (case a0 => walk_at "mine fact"); (case a1 => walk_at "mine fact"); (case a2 => walk_at "mine fact"); (case a3 => walk_at "mine fact"); (case a4 => walk_at "mine fact"); intro h9 tk9 t9 tx9 tb9 x9 b9 f9 vs9 ns9 n9 m9 F9 N9 I9 L9 p9 q9 r9 lo9 hi9; (try dsimp only at N9); (try dsimp only); (try k_fold))))
section
local macro_rules | `(tactic| walk_at "call ref") => `(tactic| ((with_reducible show wpAny _ _ (call (Value.ref 56) _) _ _ _); k_dflt (refine' put_free_u ?kB ?kF ?kX ?kN ?kT ?kK ?d1 ?d2 ?d3 ?d4 ?kD ?kU ?U1 ?U2 ?U3 ?m1 ?m2 ?m6 ?m7 ?m3 ?m5 ?fs ?a0 ?a1 ?a2 ?a3 ?_; walk_at "mine room"; walk_at "mine dets"; walk_at "mine upds"; walk_at "mine mems"; (case m3 => k_asm); (case m5 => first | k_asm | exact MemIs.empty (by assumption) (by assumption) | ktn_no "mine: the words"); (case fs => first | k_asm | ktn_no "mine: the free lists"); (case a0 => walk_at "mine fact"); (case a1 => walk_at "mine fact"); (case a2 => walk_at "mine fact"); (case a3 => walk_at "mine fact"); intro h9 tk9 o9 vs9 F9 N9 I9 M9; (try dsimp only at N9); (try dsimp only); (try k_fold))))
section
local macro_rules | `(tactic| walk_at "exec Assign cons Dict") => `(tactic| ((with_reducible show wpAny _ _ (exec (Stmt.Assign [PySem.Expr.Name _ _] _ _) _) _ _ _); refine wpAny_Assign_Name ?_ ?_; rotate_left; (with_unfolding_all rfl)))
section
local macro_rules | `(tactic| walk_at "eval Dict nil nil") => `(tactic| (k_here; k_dflt (refine' newDict_K ?zk1 ?zk2 ?zk3 ?_; (case zk1 => k_asm); (case zk2 => k_asm); (case zk3 => exact TopRead.nolimit (by k_asm))); intro d' h' o' F' N' l1 lo' hs' fs' hi' fi'; (try k_lt l1); (try k_sweep)))
-- LAWEND


noncomputable def rowScope : Scope := { kind := .function, names := [(Str.ofString ".0", .local), (Str.ofString "row", .local), (Str.ofString "tuple", .globalImplicit)], isGenerator := false, isCoroutine := false, more := [] }
abbrev rowElt (p1 p2 p3 : Pos) : PySem.Expr := .Call (.Name (Str.ofString "tuple") p1) [.Name (Str.ofString "row") p2] [] p3
abbrev rowIter (p1 p2 p3 : Pos) : PySem.Expr := .Call (.Attribute (.Name (Str.ofString "area") p1) (Str.ofString "blocks") p2) [] [] p3
noncomputable def optDat : Option Int → Dat
  | none => .none
  | some d => .int d
noncomputable def rowDat (r : Int × Int × Option Int) : Dat := .tuple [.int r.1, .int r.2.1, optDat r.2.2]
theorem RowsIn.dat {tl : List (Addr × Obj)} {vs : List Value} {rs : List (Int × Int × Option Int)} (h : RowsIn tl vs rs) : DatAll tl vs (rs.map rowDat) := by
  induction h with
  | nil => exact .nil
  | cons ha _ ih =>
    obtain ⟨x, t1, t2, u, n, rfl, hm, ho⟩ := ha
    refine .cons ?_ ih
    rename_i r _ _ _
    obtain ⟨b, sz, od⟩ := r
    refine DatIn.tuple (vs := [.int b t1, .int sz t2, u]) hm (.cons (.int _ _) (.cons (.int _ _) (.cons ?_ .nil)))
    cases od with
    | none =>
      simp only [OptV] at ho
      subst ho
      exact .none
    | some d =>
      obtain ⟨t, rfl⟩ := ho
      exact .int _ _
theorem rows_ok (rs : List (Int × Int × Option Int)) : ∀ d ∈ rs.map rowDat, kqdOk 8 d = true := by
  intro d hd
  obtain ⟨r, -, rfl⟩ := List.mem_map.mp hd
  obtain ⟨b, sz, od⟩ := r
  cases od <;> rfl
theorem rows_ne_one {prog : Program} {w : World} {A : Around} {E Q : Value → Shared → Prop} {s : Shared} {h₀ : Heap} {L l T d : Addr} {k n : Nat} {vs : List Value} {rest ext : List (Addr × Obj)} {b g : Int} {ta tb : Tok}
    (N : News h₀ L s.heap ((l, listOf #[.ref T] k) :: (T, { cls := .type "tuple", data := .seq #[.int b ta, .int g tb, .none] n }) :: (d, LCg.lst vs) :: rest)) (dat : DatAll ext vs ([(b, g, none)].map rowDat)) (sub : ∀ p ∈ ext, p ∈ rest)
    (hu : A.units + 64 < cLine) (h : Q (.bool false) s) : wpAny (model prog w) A (compareOp .NotEq (.ref d) (.ref l)) Q E s := by
  refine kqd_ne (ys := [.ref T]) (es := [(b, g, none)].map rowDat) N (.tail _ (.tail _ (.head _))) rfl rfl dat (fun p hp => .tail _ (.tail _ (.tail _ (sub p hp)))) (.head _) rfl rfl
    (DatAll.cons (DatIn.tuple (vs := [.int b ta, .int g tb, .none]) (.tail _ (.head _)) (.cons (.int _ _) (.cons (.int _ _) (.cons .none .nil)))) .nil) (fun _ h => h) (rows_ok _) (rows_ok _) hu ?_
  simp only [eq_self, decide_true, Bool.not_true]
  exact h
theorem RowsIn.at {tl : List (Addr × Obj)} {vs : List Value} {rs : List (Int × Int × Option Int)} (h : RowsIn tl vs rs) : ∀ {i : Nat} {v : Value}, vs.toArray[i]? = some v → ∃ (x : Addr) (r : Int × Int × Option Int) (t1 t2 : Tok) (u : Value) (n : Nat), v = .ref x ∧ (x, rowObj r.1 r.2.1 t1 t2 u n) ∈ tl := by
  induction h with
  | nil => intro i v e; simp at e
  | cons ha _ ih =>
    intro i v e
    cases i with
    | zero =>
      simp at e
      subst e
      obtain ⟨x, t1, t2, u, n, rfl, hm, ho⟩ := ha
      exact ⟨x, _, t1, t2, u, n, rfl, hm⟩
    | succ i => exact ih (i := i) (v := v) (by simpa using e)
theorem calmCG : True := by
  w_top off
  trivial
section
variable {w : World} {p : Program} {loose : List Str} {mean : ExcName → Option Value} {mg mb : Str → Option Value} {h₀ : Heap} {L fa : Addr} {cd : Value} {m : Str → Option Value} {s : Shared} {E : Value → Shared → Prop}
  {news : List (Addr × Obj)} {ms md wd hp dh fl : Addr} {h1 h2 k1 k2 k3 k4 : Int} {t1 t2 t3 u1 u2 u3 u4 v2 v3 : Tok} {ow : Obj} {M : Int → Int} {start limit : Int}
local macro_rules | `(tactic| walk_at "mine off") => `(tactic| (repeat' (first | exact Off.refl | refine Off.set ?_ (by simp))))
local macro_rules | `(tactic| k_mem) => `(tactic| assumption)
local macro_rules | `(tactic| walk_at "CompSrc") => `(tactic| (refine stopHere ?_))
local macro_rules | `(tactic| walk_at "call type:tuple") => `(tactic| ((with_reducible show wpAny _ _ (call (Value.type _) [Value.ref _]) _ _ _); (with_unfolding_all refine call_tuple_tup (News.isTup (by assumption) (by exact .tail _ (.tail _ (.tail _ (by assumption))))) ?_)))
theorem rows_fin {rows : List (Int × Int × Option Int)} {q1 q2 q3 : Pos} {Fin : Shared → List Value → List (Addr × Obj) → Prop} {lf : Addr} {vs : List Value} {n : Nat}
    (F : Fr h₀ L s.heap m) (X : (K0 w.params).In h₀) (N : News h₀ L s.heap news) (T : Top p loose mean mg mb h₀)
    (hl : (lf, listOf vs.toArray n) ∈ news) (hr : RowsIn news vs rows) (hn : rows.length ≤ 64)
    (hfin : ∀ (g : Heap), Fin { s with heap := g } vs news) :
      LCg.CompSrc PySem.Challenge.rw_pb0333_01.row.prog w (callerA.deeper (envOfC (Str.ofString "law") lawScope L fa cd)) h₀ L m (envOfC (Str.ofString "law") lawScope L fa cd) (rowElt q1 q2 q3) (Str.ofString "row") rowScope [] Fin (.ref lf) s := by
  have hsz := hr.len
  refine LCg.CompSrc.ledger rfl F N hl ?_ fun g => comp_ind (fun i ys => ys = vs.take i) (.inr ⟨_, hl, rfl, _, rfl⟩) rfl ?_ ?_
  · have e1 : (64 : Nat) ≤ sizeLine := by decide
    simp only [List.size_toArray]
    omega
  · intro i ys v I oI C oC D m2 hh tkk E' hi hj hv hC hx F1 N1 off ne
    obtain ⟨x, r, t1, t2, u, n, rfl, hm⟩ := hr.at hv
    dsimp only [rowElt, rowScope, lawScope, lawFn, PySem.Challenge.pw_pb0333_01, List.drop]
    k_steps
    all_goals (
      refine CpPost.intro (by assumption) (by assumption) ?_
      show ys ++ [Value.ref x] = vs.take (i + 1)
      rw [hj, List.take_add_one]
      have hv' : vs[i]? = some (Value.ref x) := by simpa using hv
      rw [hv']
      rfl)
  · intro ys e
    simp only [List.size_toArray, List.take_length] at e
    rw [e]
    exact hfin g
end

theorem keys_of {kvs : List (Int × Value)} {c : List (Int × Int)} (h : FlatPairs PyData.int kvs (kdfD c)) : kvs.map (fun p => Itm.tok (kyVal (PyData.int p.1))) = c.map (fun p => Itm.tok (kyVal (PyData.int p.1))) := by
  have e := flat_keys h
  have e1 : c.map (fun p => PyData.int p.1) = kvs.map (fun p => PyData.int p.1) := by
    have e2 : (kdfD c).map (·.1) = c.map (fun p => PyData.int p.1) := by unfold kdfD; rw [List.map_map]; rfl
    rw [← e2, e, List.map_map]; rfl
  have e3 := congrArg (List.map fun d => Itm.tok (kyVal d)) e1
  rw [List.map_map, List.map_map] at e3
  exact e3.symm
section
variable {w : World} {A : Around} {E : Value → Shared → Prop} {s : Shared} {env : Env} {h₀ : Heap} {body : List Stmt} {target : PySem.Expr} {Q : Flow → Shared → Prop}
theorem keys_ind {d : Addr} {od : Obj} {c : List (Int × Int)} {m₀ : Str → Option Value} {news₀ : List (Addr × Obj)} (J : List (Int × Int) → (Str → Option Value) → List (Addr × Obj) → Prop)
    (hh : A.handled = none) (F : Fr h₀ env.locals s.heap m₀) (N : News h₀ env.locals s.heap news₀) (hm : (d, od) ∈ news₀) (hd : IsW w od c) (lo : (d == sysModules) = false)
    (j0 : J c m₀ news₀) (hadr : ∀ r m news, J r m news → AdrIn news news₀) (hkeep : ∀ r m news, J r m news → (d, od) ∈ news)
    (turn : ∀ k x r I it m news t h tk, J ((k, x) :: r) m news → (∀ p ∈ news₀, p.1 < I) → Fr h₀ env.locals h m → News h₀ env.locals h ((I, it) :: news) →
      wpAny (model PySem.Challenge.rw_pb0333_01.row.prog w) A (assign target env (.int k t)) (fun _ s₂ => wpAny (model PySem.Challenge.rw_pb0333_01.row.prog w) A (execs body env) (LpPost h₀ env.locals [(I, it)] { s with heap := h, toks := tk } (J r) Q) E s₂) E { s with heap := h, toks := tk })
    (done : ∀ m news h tk, J [] m news → Fr h₀ env.locals h m → News h₀ env.locals h news → Q .next { s with heap := h, toks := tk }) :
    wpAny (model PySem.Challenge.rw_pb0333_01.row.prog w) A (pyIter (.ref d)) (fun it s₂ => TurnsAt PySem.Challenge.rw_pb0333_01.row.prog w A h₀ env target body Q E it s₂) E s := by
  obtain ⟨kvs, hd1, hf⟩ := hd
  refine kta_keys (knd := intKind PySem.Challenge.rw_pb0333_01.row.prog w) (enc := PyData.int) hh F N hm hd1 lo (fun k v hk => ?_) (keys_of hf) fun I hI => ?_
  · exact Value.isInt_shape hk
  · refine itm_ind (fun xs m news => ∃ r, xs = r.map (fun p : Int × Int => Itm.tok (kyVal (PyData.int p.1))) ∧ J r m news) ?_ ?_ ?_ ?_ _ _ _ ⟨c, rfl, j0⟩
    · rintro r m news ⟨_, _, j⟩
      exact ⟨hkeep _ _ _ j, trivial⟩
    · rintro r m news ⟨_, _, j⟩ p hp q hq
      have e : q = I := by simpa using hq
      rw [e]
      exact Nat.ne_of_lt ((hadr _ _ _ j).lt hI p hp)
    · rintro a r m news v h tk ⟨rc, e, j⟩ hv F1 o ho N1
      cases rc with
      | nil => cases e
      | cons q rc =>
        obtain ⟨k, x⟩ := q
        simp only [List.map_cons, List.cons.injEq] at e
        obtain ⟨rfl, rfl⟩ := e
        obtain ⟨t, rfl⟩ := hv
        refine wpAny_mono (turn k x rc I o m news t h tk j hI F1 N1) (fun _ s₂ p => wpAny_mono p (fun f s₃ q => ?_) fun _ _ e => e) fun _ _ e => e
        have up : LpEnd h₀ env.locals [(I, o)] { s with heap := h, toks := tk } (J rc) s₃ → LpEnd h₀ env.locals [(I, o)] { s with heap := h, toks := tk } (fun m news => ∃ r, rc.map (fun p : Int × Int => Itm.tok (kyVal (PyData.int p.1))) = r.map (fun p : Int × Int => Itm.tok (kyVal (PyData.int p.1))) ∧ J r m news) s₃ := by
          rintro ⟨h', tk', m', news', e1, e2, e3, j'⟩
          exact ⟨h', tk', m', news', e1, e2, e3, rc, rfl, j'⟩
        cases f with
        | ret v => exact q
        | brk => exact q
        | next => exact up q
        | cont => exact up q
    · rintro m news h tk ⟨r, e, j⟩ F1 N1
      cases r with
      | nil => exact done m news h tk j F1 N1
      | cons q r => cases e
end

section
variable {prog : Program} {w : World} {A : Around} {s : Shared} {h₀ : Heap} {L : Addr} {m : Str → Option Value} {env : Env}
noncomputable def CkSrc (prog : Program) (w : World) (A : Around) (h₀ : Heap) (L : Addr) (m : Str → Option Value) (env : Env) (elt : PySem.Expr) (x : Str) (scope : Scope) (cl : List (Str × Addr)) (Q : Value → Shared → Prop) (xv : Value) (s₁ : Shared) : Prop :=
  ∃ (d : Addr) (od : Obj) (kvs : List (Int × Value)) (news : List (Addr × Obj)), xv = .ref d ∧ A.handled = none ∧ Fr h₀ L s₁.heap m ∧ News h₀ L s₁.heap news ∧ (d, od) ∈ news ∧ od.IsDictOf (intKind prog w) kvs ∧ (d == sysModules) = false ∧ kvs.length ≤ sizeLine ∧
      ∀ s₂ : Shared, (∃ h, s₂ = { s₁ with heap := h }) → LCg.CompRest prog w A h₀ L m env elt x scope cl s₂ (fun nw => (d, od) ∈ nw) (fun i v => ∃ k x, kvs[i]? = some (k, x) ∧ (intKind prog w).is k v = true) (LCg.FinE h₀ L m s₂ Q) kvs.length 0 [] news
theorem CkSrc.intro {elt : PySem.Expr} {x : Str} {scope : Scope} {cl : List (Str × Addr)} {Q : Value → Shared → Prop} {d : Addr} {od : Obj} {kvs : List (Int × Value)} {news : List (Addr × Obj)} {s₁ : Shared}
    (hh : A.handled = none) (F : Fr h₀ L s₁.heap m) (N : News h₀ L s₁.heap news) (hm : (d, od) ∈ news) (hd : od.IsDictOf (intKind prog w) kvs) (lo : (d == sysModules) = false) (hsz : kvs.length ≤ sizeLine)
    (h : ∀ g, LCg.CompRest prog w A h₀ L m env elt x scope cl { s₁ with heap := g } (fun nw => (d, od) ∈ nw) (fun i v => ∃ k x, kvs[i]? = some (k, x) ∧ (intKind prog w).is k v = true) (LCg.FinE h₀ L m { s₁ with heap := g } Q) kvs.length 0 [] news) :
    CkSrc prog w A h₀ L m env elt x scope cl Q (.ref d) s₁ := ⟨d, od, kvs, news, rfl, hh, F, N, hm, hd, lo, hsz, fun _ ⟨g, e⟩ => e ▸ h g⟩
/-- a comprehension over the keys of a dict -/
theorem comp_keys {elt iter : PySem.Expr} {x : Str} {px : Pos} {scope : Scope} {cl : List (Str × Addr)} {pos : Pos} {Q E : Value → Shared → Prop} (F₀ : Fr h₀ L s.heap m)
    (hclos : closureFor scope env = pure cl) (hcell : ∀ y ∈ scope.names, y.2 ≠ .cell) (hkind : scope.kind = .function)
    (hnames : ∀ y ∈ scope.names, y.2 = .local → scope.names.lookup y.1 = some .local) (hx : scope.names.lookup x = some .local)
    (h : wpAny (model prog w) A (eval iter env) (CkSrc prog w A h₀ L m env elt x scope cl Q) E s)
    (hs : ∀ x, foldedSetIterable iter env x = pure x := by intro _; rfl) :
    wpAny (model prog w) A (eval (.ListComp elt [⟨.Name x px, iter, [], 0⟩] scope pos) env) Q E s := by
  rw [eval_ListComp]
  refine wpAny_comprehension_free (use := none) rfl hs hclos hkind hnames (wpAny_mono h (fun xv s₁ h₁ => ?_) fun _ _ e => e)
  obtain ⟨d, od, kvs, news, rfl, hh, F, N, hm, hd, lo, hsz, R⟩ := h₁
  obtain ⟨ep, hat⟩ := (kda_dict N hm hd).dictAt
  have hne : d ≠ s₁.heap.objs.size := Nat.ne_of_lt hat.lt_size
  have hat2 : ∀ h' : Heap, h'.get? d = some od → h'.DictAt (intKind prog w) d kvs ep := fun h' e => by
    obtain ⟨o, es, ho, r⟩ := hat
    rw [(N _ hm).1] at ho
    cases ho
    exact ⟨od, es, e, r⟩
  refine wpAny_pyIter_dict lo hat ?_
  refine LCg.block_U (Walks.dictKeys (knd := intKind prog w) hh s₁.heap.objs.size d hne kvs ep) hsz (fun i h st => ?_) (S := fun nw => (d, od) ∈ nw) (fun i h h' o nw st e e' _ N' hS => ?_) hcell hkind hx ⟨⟨_, Heap.get?_push_size _ rfl, rfl, rfl⟩, hat.push _⟩ (fun b hb => ?_)
    (F.keeps fun _ _ e => Heap.get?_push_of_some _ e) (N.grown fun _ _ e => Heap.get?_push_of_some _ e) (Nat.ne_of_lt F.ns.lt) (next_is_new F) (fun p hp => Nat.ne_of_lt (Heap.lt_size (N p hp).1)) hm (R _ ⟨_, rfl⟩) ?_
  · obtain ⟨⟨o, e, _⟩, _⟩ := st
    exact ⟨o, e⟩
  · refine ⟨st.1.at fun o' e1 => ?_, hat2 h' (N' _ hS).1⟩
    rw [e] at e1
    cases e1
    exact e'
  · show b < (s₁.heap.push _).objs.size
    rw [Heap.size_push]
    rcases List.mem_cons.mp hb with rfl | hb
    · exact Nat.lt_succ_self _
    · rw [List.mem_singleton.mp hb]; exact Nat.lt_succ_of_lt hat.lt_size
  · intro D C h' tk m' ys news' F' N' o1 hn hC₀ hD₀ hCL hDL hCD offC fin
    refine ⟨m', hn, fun h'' hs'' => fin D h'' tk (F'.change hs'' hCL hC₀) (fun p hp => ?_) o1⟩
    refine ⟨hs''.extBut _ _ ?_ (N' p hp).1, (N' p hp).2⟩
    rcases List.mem_cons.mp hp with rfl | hp
    · exact Ne.symm hCD
    · exact offC p hp
end
theorem flat_at {kvs : List (Int × Value)} {c : List (Int × Int)} (h : FlatPairs PyData.int kvs (kdfD c)) {i : Nat} {k : Int} {x : Value} (e : kvs[i]? = some (k, x)) : ∃ y, c[i]? = some (k, y) := by
  have e0 := flat_keys h
  have e2 : (kdfD c).map (·.1) = c.map (fun p => PyData.int p.1) := by unfold kdfD; rw [List.map_map]; rfl
  rw [e2] at e0
  have e3 := congrArg (fun l => l[i]?) e0
  simp only [List.getElem?_map, e, Option.map_some] at e3
  cases hc : c[i]? with
  | none => rw [hc] at e3; cases e3
  | some p =>
    obtain ⟨k', y⟩ := p
    rw [hc] at e3
    simp at e3
    exact ⟨y, by rw [e3]⟩
noncomputable def sizesOf (c : List (Int × Int)) : List Int := c.map fun p => bsz p.2
theorem sizes_step {c : List (Int × Int)} {i : Nat} {k y f : Int} {t : Tok} {ys : List Value} (h : IntsAre ys (sizesOf (c.take i))) (e : c[i]? = some (k, y)) (ef : f = bsz y) : IntsAre (ys ++ [.int f t]) (sizesOf (c.take (i + 1))) := by
  have : sizesOf (c.take (i + 1)) = sizesOf (c.take i) ++ [bsz y] := by
    unfold sizesOf
    rw [List.take_add_one, e]
    simp
  rw [this, ef]
  exact h.append (.cons _ _ .nil)
theorem sizes_sum : ∀ (b : Int) (us : List (Int × Int)), (sizesOf (recs b us)).sum = total us
  | _, [] => rfl
  | b, (w, d) :: r => by
    have := sizes_sum (b + bsz w) r
    simp only [sizesOf, recs, List.map_cons, List.sum_cons, total] at *
    rw [this]

theorem fill17 (w : World) (h : Heap) : (K0 w.params).In h → model PySem.Challenge.rw_pb0333_01.row.prog w = model PySem.Challenge.rw_pb0333_01.row.prog w := by
  k_fill
  intro _; rfl
-- PRELUDE
-- LAWRULES
-- LAWEND

section
local macro_rules | `(tactic| walk_at "call ref") => `(tactic| ((with_reducible show wpAny _ _ (call (Value.ref 98) _) _ _ _); k_dflt (refine' blocks_c ?kB ?kF ?kX ?kN ?kT ?kK ?kD ?kU ?m1 ?m2 ?m3 ?m4 ?m5 ?m6 ?m7 ?a0 ?a1 ?bb ?_; walk_at "mine room"; (case m1 => k_mem); (case m2 => k_mem); (case m3 => k_asm); (case m4 => k_mem); (case m5 => k_asm); (case m6 => k_mem); (case m7 => k_mem); (case a0 => walk_at "mine fact"); (case a1 => walk_at "mine fact"); (case bb => k_asm); intro h9 tk9 lf9 vs9 n9 ext9 F9 N9 lt9 or9 of9 rw9; (try dsimp only); (try k_fold))))
section
local macro_rules | `(tactic| walk_at "exec Assign cons ListComp") => `(tactic| (k_dflt (refine LCg.Assign_ListComp_U (F₀ := by k_asm) (by rfl) (by with_unfolding_all rfl) (by with_unfolding_all rfl) (by decide) (by rfl) (by decide) (by rfl) (by rfl) (by rfl) ?_)))
section
local macro_rules | `(tactic| walk_at "eval ListComp") => `(tactic| (k_dflt (refine LCg.ListComp_U (F₀ := by k_asm) (by with_unfolding_all rfl) (by decide) (by rfl) (by decide) (by rfl) ?_)))
section
local macro_rules | `(tactic| walk_at "CompSrc") => `(tactic| (refine stopHere ?_))
section
local macro_rules | `(tactic| walk_at "exec For") => `(tactic| ((with_reducible show wpAny _ _ (exec (Stmt.For (PySem.Expr.Name _ _) (PySem.Expr.Name _ _) _ _ _) _) _ _ _); (rename Fr _ _ _ _ => lF'); (with_unfolding_all refine' For_turns lF' ?_); k_whole; (try dsimp only)))
section
local macro_rules | `(tactic| walk_at "mine rows") => `(tactic| ((rename Fr _ _ _ _ => lF); (rename News _ _ _ _ => lN); (rename RowsIn _ _ _ => lR); k_dflt (refine rows_fin (by k_asm) (by k_asm) (by k_asm) (by k_asm) (.head _) (lR.mono (fun p hp => .tail _ (List.mem_append_right _ hp))) (by rw [rowsFrom_len]; assumption) (fun g => ?_))))
section
local macro_rules | `(tactic| walk_at "eval ListComp") => `(tactic| ((with_reducible show wpAny _ _ (eval (PySem.Expr.ListComp _ [⟨PySem.Expr.Name _ _, PySem.Expr.Call (PySem.Expr.Name "range" _) _ _ _, [], 0⟩] _ _) _) _ _ _); k_dflt (refine comp_rangeS (F₀ := by k_asm) (by with_unfolding_all rfl) (by decide) (by rfl) (by decide) (by rfl) ?_)))
section
local macro_rules | `(tactic| walk_at "CpSrc") => `(tactic| (refine stopHere ?_))
section
local macro_rules | `(tactic| walk_at "execs cons") => `(tactic| ((with_reducible show wpAny _ _ (execs (Stmt.For _ _ _ _ _ :: _) _) _ _ _); (rename StopFor => hstop); refine stopHere ?_))
section
local macro_rules | `(tactic| walk_at "mine mem") => `(tactic| first | assumption | exact List.Mem.head _ | exact List.mem_append_left _ (by walk_at "mine mem") | exact List.mem_append_right _ (by walk_at "mine mem") | exact List.Mem.tail _ (by walk_at "mine mem"))
section
local macro_rules | `(tactic| walk_at "compareOp NotEq ref ref") => `(tactic| (k_here; (with_reducible show wpAny _ _ (compareOp CmpOp.NotEq (Value.ref _) (Value.ref _)) _ _ _); k_dflt (refine' kqd_ne ?N ?a ?b ?c ?d ?e ?f ?g ?i ?j ?k ?l ?m ?n ?_; (case N => k_asm); (case a => walk_at "mine mem"); (case b => rfl); (case c => rfl); (case d => with_reducible assumption); (case e => (intro p9 hp9; walk_at "mine mem")); (case f => walk_at "mine mem"); (case g => rfl); (case i => rfl); (case j => with_reducible assumption); (case k => (intro p9 hp9; walk_at "mine mem")); (case l => exact rows_ok _); (case m => exact rows_ok _); (case n => first | ke_room | decide | k_units); k_whole); (try simp only [eq_self, decide_true, Bool.not_true])))
section
local macro_rules | `(tactic| walk_at "execs cons") => `(tactic| ((rename StopAny => hstop); refine stopHere ?_))
theorem calmCU : True := by
  w_top off
  trivial
section
variable {w : World} {p : Program} {loose : List Str} {mean : ExcName → Option Value} {mg mb : Str → Option Value} {h₀ : Heap} {L fa : Addr} {cd : Value} {m₀ : Str → Option Value} {s : Shared} {Q : Flow → Shared → Prop}
  {gr : Int} {ms md wd hp dh fl sd sr : Addr} {us : List (Int × Int)} {t r D : Int} {c1 c2 c3 : Obj} {h1 h2 k1 k2 k3 k4 : Int} {t1 t2 t3 u1 u2 u3 u4 v2 v3 tg : Tok} {nf : Nat} {vsf : List Value} {owd osd : Obj} {M : Int → Int} {vc : Option Value}
local macro_rules | `(tactic| walk_at "mine off") => `(tactic| (repeat' (first | exact Off.refl | refine Off.set ?_ (by simp))))
local macro_rules | `(tactic| walk_at "LpPost") => `(tactic| (dsimp only [LpPost]))
local macro_rules | `(tactic| walk_at "pyIter ref") => `(tactic| (refine stopHere ?_))

theorem seg13 (B : Below callerA h₀ [] h₀) (X : (K0 w.params).In h₀) (T : Top p loose mean mg mb h₀)
    (F : Fr h₀ L s.heap (fun y => if y = Str.ofString "area" then some (.ref hp) else if y = Str.ofString "grains" then some (.int gr tg) else m₀ y))
    (N : News h₀ L s.heap [(fl, listOf vsf.toArray nf), (sd, osd), (hp, instObj 108 dh), (dh, dictOf (heapEs k1 k2 k3 k4 u1 u2 u3 u4 v2 v3 ms fl 1024 (1024 + 16 * gr)) 4), (wd, owd), (ms, instObj 210 md), (md, dictOf (memEs h1 h2 t1 t2 t3 wd) 2), (L + 1 + 1 + 1, c3), (L + 1 + 1, c2), (L + 1, c1)])
    (hg0 : 2 ≤ gr) (hg1 : gr ≤ 30) (hc1 : c1.data = Data.cell (some (.ref ms))) (hc2 : c2.data = Data.cell (some (.ref sd))) (hc3 : c3.data = Data.cell vc)
    (a1 : @LT.lt Nat _ (L + 1 + 1 + 1) md) (a4 : @LT.lt Nat _ md ms) (a5 : @LT.lt Nat _ ms wd) (a6 : @LT.lt Nat _ wd dh) (a7 : @LT.lt Nat _ dh hp) (a8 : @LT.lt Nat _ hp sd) (a9 : @LT.lt Nat _ sd fl)
    (low : (wd == sysModules) = false) (los : (sd == sysModules) = false)
    (hM : MemIs w owd M) (hfs : IntsAre vsf (tailAt 1024 (16 * gr))) (hinv : LInv M [] 1024 (16 * gr) (1024 + 16 * gr) D) (hD : D ≤ 320)
    (hQ : ∀ h tk m', Fr h₀ L h m' → Q (.ret (.bool true)) { s with heap := h, toks := tk }) :
    wpAny (model PySem.Challenge.rw_pb0333_01.row.prog w) (callerA.deeper (envOfC (Str.ofString "law") lawScope L fa cd)) (execs (lawBody.drop 13) (envOfC (Str.ofString "law") lawScope L fa cd)) Q (fun _ _ => False) s := by
  have hm1 := hinv.w1 (by omega)
  have hm2 := hinv.w2 (by omega)
  have hmod := hinv.r16
  clear hinv
  dsimp only [lawBody, lawScope, lawFn, PySem.Challenge.pw_pb0333_01, List.drop]
  k_steps
  unfold Stop
  (rename MemIs _ _ (upd _ _ _) => lM)
  have e1 : upd M (800 / 4) (16 * gr - 8) (800 / 4) = 16 * gr - 8 := by unfold upd; rw [if_pos rfl]
  have e2 : ∀ k, k ≠ 800 / 4 → upd M (800 / 4) (16 * gr - 8) k = M k := fun k hk => by unfold upd; rw [if_neg hk]
  generalize upd M (800 / 4) (16 * gr - 8) = M1 at lM e1 e2
  have eb : bsz (16 * gr - 8) = 16 * gr := by unfold bsz; omega
  k_dflt (refine' alloc_hit_u (t := 1024) (r := 16 * gr) ?kB ?kF ?kX ?kN ?kT ?kK ?d1 ?d2 ?d3 ?d4 ?kD ?kU ?U1 ?U2 ?U3 ?m1 ?m2 ?m6 ?m7 low lM hfs ?_ ?_ ?_ ?_ ?_ ?_ ?_ ?_ ?_ ?_ ?_ ?_ ?_)
  walk_at "mine room"
  walk_at "mine dets"
  walk_at "mine upds"
  walk_at "mine mems"
  · omega
  · omega
  · omega
  · omega
  · exact ⟨by rw [e2 _ (by omega)]; exact hm1, by omega, by omega, by omega⟩
  · rw [e2 _ (by omega), show ((1024 : Int) + 4) / 4 = 1024 / 4 + 1 by decide]; exact hm2
  · omega
  · omega
  · omega
  · rw [e1]; omega
  · rw [e1]; omega
  · rw [e1, eb]; omega
  · intro h9 tk9 t9 o9 vs9 M2 F9 N9 I9 M9 P9
    rw [e1, eb] at I9 P9
    (try dsimp only at N9)
    dsimp only
    have e3 : M2 (800 / 4) = 16 * gr - 8 := by rw [P9.below _ (by omega)]; exact e1
    clear hfs hM lM
    k_steps
    unfold Stop
    k_dflt (refine' alloc_miss_u (t := 1024 + 16 * gr) (r := 16 * gr - 16 * gr) ?kB ?kF ?kX ?kN ?kT ?kK ?d1 ?d2 ?d3 ?d4 ?kD ?kU ?U1 ?U2 ?U3 ?m1 ?m2 ?m6 ?m7 low M9 I9 ?_ ?_ ?_ ?_ ?_ ?_ ?_)
    walk_at "mine room"
    walk_at "mine dets"
    walk_at "mine upds"
    walk_at "mine mems"
    · intro hr0; omega
    · omega
    · omega
    · rw [e3]; omega
    · rw [e3]; omega
    · rw [e3, eb]; omega
    · intro h8 tk8 t8 F8 N8
      (try dsimp only)
      k_steps
      unfold Stop
      k_dflt (refine' sweep_clear_u (us := [(16 * gr, some 800)]) ?kB ?kF ?kX ?kN ?kT ?kK ?d1 ?d2 ?d3 ?d4 ?kD ?kU ?U1 ?U2 ?U3 ?m1 ?m2 low ?m6 M9 ?_ ?_ ?_ ?_ ?_ ?_ ?_)
      walk_at "mine room"
      walk_at "mine dets"
      walk_at "mine upds"
      (case m1 => (intro _ _; (try dsimp only); k_mem)); (case m2 => (intro _ _; (try dsimp only); k_mem)); (case m6 => (intro _ _; (try dsimp only); k_mem))
      · decide
      · decide
      · omega
      · omega
      · exact ⟨⟨by omega, by omega, P9.desc, by decide, by decide, by decide, by rw [e3]; omega, by rw [e3]; omega, by rw [e3, eb]⟩, rfl⟩
      · exact ⟨P9.zero _ (by omega) (by omega), trivial⟩
      · intro h7 tk7 fl7 vs7 nf7 o7 tf7 F7 N7 lt7 I7 M7
        have eu : usedSum [(16 * gr, some 800)] = 16 * gr := by simp [usedSum]
        rw [eu]
        (try dsimp only at N7)
        dsimp only
        k_steps
        all_goals (
          rw [beq_self_eq_true]
          exact hQ _ _ _ F7)
end

theorem fill18 (w : World) (h : Heap) : (K0 w.params).In h → model PySem.Challenge.rw_pb0333_01.row.prog w = model PySem.Challenge.rw_pb0333_01.row.prog w := by
  k_fill
  intro _; rfl
-- PRELUDE
-- LAWRULES
-- LAWEND

theorem calmCT : True := by
  w_top off
  trivial
section
variable {w : World} {p : Program} {loose : List Str} {mean : ExcName → Option Value} {mg mb : Str → Option Value} {h₀ : Heap} {L fa : Addr} {cd : Value} {m₀ : Str → Option Value} {s : Shared} {Q : Flow → Shared → Prop}
  {gr : Int} {ms md wd hp dh fl sd sr : Addr} {us : List (Int × Int)} {t r D : Int} {c1 c2 c3 : Obj} {h1 h2 k1 k2 k3 k4 : Int} {t1 t2 t3 u1 u2 u3 u4 v2 v3 tg : Tok} {nf : Nat} {vsf : List Value} {owd osd : Obj} {M : Int → Int} {vc : Option Value}
local macro_rules | `(tactic| walk_at "mine off") => `(tactic| (repeat' (first | exact Off.refl | refine Off.set ?_ (by simp))))
local macro_rules | `(tactic| walk_at "LpPost") => `(tactic| (dsimp only [LpPost]))
local macro_rules | `(tactic| walk_at "pyIter ref") => `(tactic| (refine stopHere ?_))
local macro_rules | `(tactic| walk_at "compareOp NotEq ref ref") => `(tactic| (refine stopHere ?_))

theorem seg12 (B : Below callerA h₀ [] h₀) (X : (K0 w.params).In h₀) (T : Top p loose mean mg mb h₀)
    (F : Fr h₀ L s.heap (fun y => if y = Str.ofString "area" then some (.ref hp) else if y = Str.ofString "grains" then some (.int gr tg) else m₀ y))
    (N : News h₀ L s.heap [(fl, listOf vsf.toArray nf), (sd, osd), (hp, instObj 108 dh), (dh, dictOf (heapEs k1 k2 k3 k4 u1 u2 u3 u4 v2 v3 ms fl 1024 (1024 + 16 * gr)) 4), (wd, owd), (ms, instObj 210 md), (md, dictOf (memEs h1 h2 t1 t2 t3 wd) 2), (L + 1 + 1 + 1, c3), (L + 1 + 1, c2), (L + 1, c1)])
    (hg0 : 2 ≤ gr) (hg1 : gr ≤ 30) (hc1 : c1.data = Data.cell (some (.ref ms))) (hc2 : c2.data = Data.cell (some (.ref sd))) (hc3 : c3.data = Data.cell vc)
    (a1 : @LT.lt Nat _ (L + 1 + 1 + 1) md) (a4 : @LT.lt Nat _ md ms) (a5 : @LT.lt Nat _ ms wd) (a6 : @LT.lt Nat _ wd dh) (a7 : @LT.lt Nat _ dh hp) (a8 : @LT.lt Nat _ hp sd) (a9 : @LT.lt Nat _ sd fl)
    (low : (wd == sysModules) = false) (los : (sd == sysModules) = false)
    (hM : MemIs w owd M) (hfs : IntsAre vsf (tailAt 1024 (16 * gr))) (hinv : LInv M [] 1024 (16 * gr) (1024 + 16 * gr) D) (hD : D ≤ 320)
    (hQ : ∀ h tk m', Fr h₀ L h m' → Q (.ret (.bool true)) { s with heap := h, toks := tk }) :
    wpAny (model PySem.Challenge.rw_pb0333_01.row.prog w) (callerA.deeper (envOfC (Str.ofString "law") lawScope L fa cd)) (execs (lawBody.drop 12) (envOfC (Str.ofString "law") lawScope L fa cd)) Q (fun _ _ => False) s := by
  dsimp only [lawBody, lawScope, lawFn, PySem.Challenge.pw_pb0333_01, List.drop]
  k_steps
  unfold Stop
  have hmod := hinv.r16
  have hce : Cells M 64 D 1024 [] := trivial
  have hinv2 := swept hce hinv.ht hinv.hr hinv.r0 hinv.r16 (by omega) hD
  have htl := swept_tail (16 * gr) (by omega) []
  rw [show (1024 : Int) + total [] = 1024 from rfl] at htl
  k_dflt (refine' sweep_marked_u (us := blks [] (16 * gr)) ?kB ?kF ?kX ?kN ?kT ?kK ?d1 ?d2 ?d3 ?d4 ?kD ?kU ?U1 ?U2 ?U3 ?m1 ?m2 low ?m6 hM ?_ ?_ ?_ ?_ ?_ ?_ ?_ ?_ ?_)
  walk_at "mine room"
  walk_at "mine dets"
  walk_at "mine upds"
  (case m1 => (intro _ _; (try dsimp only); k_mem)); (case m2 => (intro _ _; (try dsimp only); k_mem)); (case m6 => (intro _ _; (try dsimp only); k_mem))
  · decide
  · decide
  · omega
  · exact hinv.cells.chain (by omega) (by simp [total]) (by omega) (by omega) (by omega) (fun hr => by simpa [total] using hinv.w1 hr)
  · exact blks_UT _ _
  · exact hce.tagged (by decide) (by decide)
  · rw [blks_tail]; split <;> simp
  · intro t' r' hm
    rw [blks_tail] at hm
    split at hm
    · simp only [List.mem_singleton, Prod.mk.injEq, total] at hm
      omega
    · cases hm
  · intro h9 tk9 fl9 vs9 nf9 o9 tf9 F9 N9 lt9 I9 M9
    rw [htl] at I9
    generalize putT (clr M 1024 (blks [] (16 * gr))) (tailOf 1024 (blks [] (16 * gr))) = M3 at M9 hinv2
    have hbl : (blks [] (16 * gr)).length ≤ 64 := by
      rw [blks_len]
      split <;> simp
    have hsf : @LT.lt Nat _ sd fl9 := lt9 (sd, _) (.tail _ (.head _))
    have hff9 : @LT.lt Nat _ fl fl9 := lt9 (fl, _) (.head _)
    (try dsimp only at N9)
    (try dsimp only)
    clear hM hfs hinv
    have hch : BChain M3 (1024 + 16 * gr) 1024 (blks [] (16 * gr)) := hinv2.cells.chain (by omega) (by simp [total]) (by omega) (by omega) (by omega) (fun hr => by simpa [total] using hinv2.w1 hr)
    k_steps
    unfold Stop
    walk_at "mine rows"
    intro D9 h9 tk9 F9 N9 off9
    (rename RowsIn _ _ _ => lR)
    have dat9 := lR.dat
    rw [blks_one hg0] at dat9
    dsimp only [List.cons_append, List.nil_append] at N9
    k_steps
    unfold Stop
    (rename Fr _ _ _ _ => lF)
    (rename News _ _ _ _ => lN)
    refine rows_ne_one lN dat9 (fun p hp => ?_) ?_ ?_
    · iterate 12 (refine List.Mem.tail _ ?_)
      exact hp
    · first | k_units | decide
    · have hflag : StopAny := trivial
      dsimp only
      k_steps
      unfold Stop
      exact seg13 B X T lF (fun q hq => lN q (by rcases List.mem_cons.mp hq with rfl | hq; exact .tail _ (.tail _ (.tail _ (.tail _ (.head _)))); exact .tail _ (.tail _ (.tail _ (.tail _ (.tail _ (.tail _ (List.mem_append_left _ hq))))))) ) hg0 hg1 hc1 hc2 hc3 a1 a4 a5 a6 a7 a8 hsf low los M9 I9 hinv2 hD hQ
end

theorem fill16 (w : World) (h : Heap) : (K0 w.params).In h → model PySem.Challenge.rw_pb0333_01.row.prog w = model PySem.Challenge.rw_pb0333_01.row.prog w := by
  k_fill
  intro _; rfl
-- PRELUDE
-- LAWRULES
-- LAWEND

end
end
end
end
section
local macro_rules | `(tactic| walk_at "eval ListComp") => `(tactic| ((with_reducible show wpAny _ _ (eval (PySem.Expr.ListComp _ [⟨PySem.Expr.Name _ _, PySem.Expr.Name _ _, [], 0⟩] _ _) _) _ _ _); k_dflt (refine comp_keys (F₀ := by k_asm) (by with_unfolding_all rfl) (by decide) (by rfl) (by decide) (by rfl) ?_)))
section
local macro_rules | `(tactic| walk_at "CkSrc") => `(tactic| (refine stopHere ?_))
section
local macro_rules | `(tactic| walk_at "execs cons") => `(tactic| ((with_reducible show wpAny _ _ (execs (Stmt.For _ _ _ _ _ :: _) _) _ _ _); (rename StopFor => hstop); refine stopHere ?_))
section
local macro_rules | `(tactic| walk_at "mine mem") => `(tactic| first | assumption | exact List.Mem.head _ | exact List.mem_append_left _ (by walk_at "mine mem") | exact List.mem_append_right _ (by walk_at "mine mem") | exact List.Mem.tail _ (by walk_at "mine mem"))
section
local macro_rules | `(tactic| walk_at "compareOp NotEq ref ref") => `(tactic| (k_here; (with_reducible show wpAny _ _ (compareOp CmpOp.NotEq (Value.ref _) (Value.ref _)) _ _ _); k_dflt (refine' kqd_ne ?N ?a ?b ?c ?d ?e ?f ?g ?i ?j ?k ?l ?m ?n ?_; (case N => k_asm); (case a => walk_at "mine mem"); (case b => rfl); (case c => rfl); (case d => with_reducible assumption); (case e => (intro p9 hp9; walk_at "mine mem")); (case f => walk_at "mine mem"); (case g => rfl); (case i => rfl); (case j => with_reducible assumption); (case k => (intro p9 hp9; walk_at "mine mem")); (case l => exact rows_ok _); (case m => exact rows_ok _); (case n => first | ke_room | decide | k_units); k_whole); (try simp only [eq_self, decide_true, Bool.not_true])))
section
local macro_rules | `(tactic| walk_at "execs cons") => `(tactic| ((rename StopAny => hstop); refine stopHere ?_))
theorem calmCS : True := by
  w_top off
  trivial
section
variable {w : World} {p : Program} {loose : List Str} {mean : ExcName → Option Value} {mg mb : Str → Option Value} {h₀ : Heap} {L fa : Addr} {cd : Value} {m₀ : Str → Option Value} {s : Shared} {Q : Flow → Shared → Prop}
  {gr : Int} {ms md wd hp dh fl sd sr : Addr} {us : List (Int × Int)} {t r D : Int} {c1 c2 c3 : Obj} {h1 h2 k1 k2 k3 k4 : Int} {t1 t2 t3 u1 u2 u3 u4 v2 v3 tg : Tok} {nf : Nat} {vsf : List Value} {owd osd : Obj} {M : Int → Int} {vc : Option Value}
local macro_rules | `(tactic| walk_at "mine off") => `(tactic| (repeat' (first | exact Off.refl | refine Off.set ?_ (by simp))))
local macro_rules | `(tactic| walk_at "LpPost") => `(tactic| (dsimp only [LpPost]))
local macro_rules | `(tactic| walk_at "pyIter ref") => `(tactic| (refine stopHere ?_))

theorem fmod_div (a : Int) : a.fdiv 16 = a / 16 := Int.fdiv_eq_ediv_of_nonneg _ (by decide)
local macro_rules | `(tactic| walk_at "compareOp NotEq ref ref") => `(tactic| (refine stopHere ?_))
theorem seg10 (B : Below callerA h₀ [] h₀) (X : (K0 w.params).In h₀) (T : Top p loose mean mg mb h₀)
    (F : Fr h₀ L s.heap (fun y => if y = Str.ofString "area" then some (.ref hp) else if y = Str.ofString "grains" then some (.int gr tg) else m₀ y))
    (N : News h₀ L s.heap [(fl, listOf vsf.toArray nf), (sd, osd), (hp, instObj 108 dh), (dh, dictOf (heapEs k1 k2 k3 k4 u1 u2 u3 u4 v2 v3 ms fl 1024 (1024 + 16 * gr)) 4), (wd, owd), (ms, instObj 210 md), (md, dictOf (memEs h1 h2 t1 t2 t3 wd) 2), (L + 1 + 1 + 1, c3), (L + 1 + 1, c2), (L + 1, c1)])
    (hg0 : 2 ≤ gr) (hg1 : gr ≤ 30) (hc1 : c1.data = Data.cell (some (.ref ms))) (hc2 : c2.data = Data.cell (some (.ref sd))) (hc3 : c3.data = Data.cell vc)
    (a1 : @LT.lt Nat _ (L + 1 + 1 + 1) md) (a4 : @LT.lt Nat _ md ms) (a5 : @LT.lt Nat _ ms wd) (a6 : @LT.lt Nat _ wd dh) (a7 : @LT.lt Nat _ dh hp) (a8 : @LT.lt Nat _ hp sd) (a9 : @LT.lt Nat _ sd fl)
    (low : (wd == sysModules) = false) (los : (sd == sysModules) = false)
    (hM : MemIs w owd M) (hfs : IntsAre vsf (tailAt t r)) (hsd : IsW w osd (recs 1024 us)) (hinv : LInv M us t r (1024 + 16 * gr) D) (hD : D ≤ 320)
    (hQ : ∀ h tk m', Fr h₀ L h m' → Q (.ret (.bool true)) { s with heap := h, toks := tk }) :
    wpAny (model PySem.Challenge.rw_pb0333_01.row.prog w) (callerA.deeper (envOfC (Str.ofString "law") lawScope L fa cd)) (execs (lawBody.drop 10) (envOfC (Str.ofString "law") lawScope L fa cd)) Q (fun _ _ => False) s := by
  have hht := hinv.ht
  have hhr := hinv.hr
  have hrr := hinv.r0
  have hcc := hinv.cells.count
  have htn := total_nn hinv.cells
  have hlk := recs_look hinv.cells
  have hrl := recs_len 1024 us
  obtain ⟨kvs, hdd, hff⟩ := hsd
  have hkl : kvs.length = us.length := by
    have e1 := hff.length
    rw [kdfD_length] at e1
    omega
  dsimp only [lawBody, lawScope, lawFn, PySem.Challenge.pw_pb0333_01, List.drop]
  k_steps
  unfold Stop
  (rename Fr _ _ _ _ => lF)
  (rename News _ _ _ _ => lN)
  refine CkSrc.intro rfl lF lN (.tail _ (.head _)) hdd los ?_ fun g => comp_ind (fun i ys => IntsAre ys (sizesOf ((recs 1024 us).take i))) (.tail _ (.head _)) .nil ?_ ?_
  · have e1 : (200 : Nat) ≤ sizeLine := by decide
    omega
  · rintro i ys v I2 oI C oC D2 m2 hh2 tk2 E' hi2 hj ⟨k, x, hkv, hki⟩ hC hx F2 N2 off ne
    clear lF lN
    obtain ⟨tk9, rfl⟩ := Value.isInt_shape hki
    obtain ⟨y, hy⟩ := flat_at hff hkv
    obtain ⟨hlook, hhas⟩ := hlk (k, y) (List.mem_of_getElem? hy)
    simp only at hlook hhas
    k_steps
    all_goals (
      refine CpPost.intro (by assumption) (by assumption) (sizes_step hj hy ?_)
      rw [hlook, fmod_div]
      rfl)
  · intro ys hys D2 hh2 tk2 F2 N2 off2
    clear lF lN
    rw [show kvs.length = (recs 1024 us).length by omega, List.take_length] at hys
    k_steps
    unfold Stop
    (rename Fr _ _ _ _ => lF)
    (rename News _ _ _ _ => lN)
    rw [sizes_sum] at lF
    have lN2 := fun q hq => lN q (.tail _ hq)
    clear lN off2
    have lN : News _ _ _ _ := lN2
    clear lN2
    k_dflt (refine' sweep_clear_u (us := blks us r) ?kB ?kF ?kX ?kN ?kT ?kK ?d1 ?d2 ?d3 ?d4 ?kD ?kU ?U1 ?U2 ?U3 ?m1 ?m2 low ?m6 hM ?_ ?_ ?_ ?_ ?_ ?_ ?_)
    walk_at "mine room"
    walk_at "mine dets"
    walk_at "mine upds"
    (case m1 => (intro _ _; (try dsimp only); k_mem)); (case m2 => (intro _ _; (try dsimp only); k_mem)); (case m6 => (intro _ _; (try dsimp only); k_mem))
    · decide
    · decide
    · omega
    · omega
    · exact hinv.cells.chain (by omega) (by omega) hrr hinv.r16 (by omega) (fun hr => by rw [← hht]; exact hinv.w1 hr)
    · exact hinv.cells.tagged (by decide) (by decide)
    · intro h9 tk9 fl9 vs9 nf9 o9 tf9 F9 N9 lt9 I9 M9
      rw [blks_used]
      have hinv3 : LInv _ [] 1024 (16 * gr) (1024 + 16 * gr) D := cleared (M := M) hg0 hg1
      rw [show (1024 : Int) + 16 * gr - 1024 = 16 * gr by omega] at M9 I9 hinv3
      generalize putT M [(1024, 16 * gr)] = M3 at M9 hinv3
      have hch : BChain M3 (1024 + 16 * gr) 1024 (blks [] (16 * gr)) := hinv3.cells.chain (by omega) (by simp [total]) (by omega) (by omega) (by omega) (fun hr => by simpa [total] using hinv3.w1 hr)
      have hbl : (blks [] (16 * gr)).length ≤ 64 := by
        rw [blks_len]
        split <;> simp
      have hsf : @LT.lt Nat _ sd fl9 := lt9 (sd, _) (.tail _ (.head _))
      have hff9 : @LT.lt Nat _ fl fl9 := lt9 (fl, _) (.head _)
      (try dsimp only at N9)
      dsimp only
      clear lF lN hM hfs hinv
      k_steps
      unfold Stop
      walk_at "mine rows"
      intro D9 h9 tk9 F9 N9 off9
      (rename RowsIn _ _ _ => lR)
      have dat9 := lR.dat
      rw [blks_one hg0] at dat9
      dsimp only [List.cons_append, List.nil_append] at N9
      k_steps
      unfold Stop
      (rename Fr _ _ _ _ => lF)
      (rename News _ _ _ _ => lN)
      refine rows_ne_one lN dat9 (fun p hp => ?_) ?_ ?_
      · iterate 12 (refine List.Mem.tail _ ?_)
        exact hp
      · first | k_units | decide
      · have hflag : StopAny := trivial
        dsimp only
        k_steps
        unfold Stop
        (try dsimp only)
        exact seg12 B X T (Fr.as lF rfl rfl) (fun q hq => lN q (by rcases List.mem_cons.mp hq with rfl | hq; exact .tail _ (.tail _ (.tail _ (.tail _ (.head _)))); exact .tail _ (.tail _ (.tail _ (.tail _ (.tail _ (.tail _ (List.mem_append_left _ hq))))))) ) hg0 hg1 hc1 hc2 hc3 a1 a4 a5 a6 a7 a8 hsf low los M9 I9 hinv3 hD hQ
end

theorem fill15 (w : World) (h : Heap) : (K0 w.params).In h → model PySem.Challenge.rw_pb0333_01.row.prog w = model PySem.Challenge.rw_pb0333_01.row.prog w := by
  k_fill
  intro _; rfl
-- PRELUDE
-- LAWRULES
-- LAWEND

end
end
end
end
end
end
section
local macro_rules | `(tactic| walk_at "execs cons") => `(tactic| ((with_reducible show wpAny _ _ (execs (Stmt.For _ _ _ _ _ :: _) _) _ _ _); (rename StopFor => hstop); refine stopHere ?_))
section
local macro_rules | `(tactic| walk_at "execs cons") => `(tactic| ((rename StopAny => hstop); refine stopHere ?_))
section
local macro_rules | `(tactic| walk_at "mine mem") => `(tactic| first | assumption | exact List.Mem.head _ | exact List.mem_append_left _ (by walk_at "mine mem") | exact List.mem_append_right _ (by walk_at "mine mem") | exact List.Mem.tail _ (by walk_at "mine mem"))
section
local macro_rules | `(tactic| walk_at "compareOp NotEq ref ref") => `(tactic| (k_here; (with_reducible show wpAny _ _ (compareOp CmpOp.NotEq (Value.ref _) (Value.ref _)) _ _ _); k_dflt (refine' kqd_ne ?N ?a ?b ?c ?d ?e ?f ?g ?i ?j ?k ?l ?m ?n ?_; (case N => k_asm); (case a => walk_at "mine mem"); (case b => rfl); (case c => rfl); (case d => with_reducible assumption); (case e => (intro p9 hp9; walk_at "mine mem")); (case f => walk_at "mine mem"); (case g => rfl); (case i => rfl); (case j => with_reducible assumption); (case k => (intro p9 hp9; walk_at "mine mem")); (case l => exact rows_ok _); (case m => exact rows_ok _); (case n => first | ke_room | decide | k_units); k_whole); (try simp only [eq_self, decide_true, Bool.not_true])))
theorem calmCJ : True := by
  w_top off
  trivial
section
variable {w : World} {p : Program} {loose : List Str} {mean : ExcName → Option Value} {mg mb : Str → Option Value} {h₀ : Heap} {L fa : Addr} {cd : Value} {m₀ : Str → Option Value} {s : Shared} {Q : Flow → Shared → Prop}
  {gr : Int} {ms md wd hp dh fl sd sr : Addr} {us : List (Int × Int)} {t r D : Int} {c1 c2 c3 : Obj} {h1 h2 k1 k2 k3 k4 : Int} {t1 t2 t3 u1 u2 u3 u4 v2 v3 tg : Tok} {nf : Nat} {vsf : List Value} {owd osd : Obj} {M : Int → Int} {vc : Option Value}
local macro_rules | `(tactic| walk_at "mine off") => `(tactic| (repeat' (first | exact Off.refl | refine Off.set ?_ (by simp))))
local macro_rules | `(tactic| walk_at "LpPost") => `(tactic| (dsimp only [LpPost]))
local macro_rules | `(tactic| walk_at "pyIter ref") => `(tactic| (refine stopHere ?_))

local macro_rules | `(tactic| walk_at "compareOp NotEq ref ref") => `(tactic| (refine stopHere ?_))
noncomputable def wl (b : Int) : Nat → List Int
  | 0 => []
  | n + 1 => wl b n ++ [b + 8 + 3 * (0 + (n : Int) * 4)]
theorem wl_step {b : Int} {i : Nat} {ys : List Value} {f : Int} {t : Tok} (h : IntsAre ys (wl b i)) (e : f = b + 8 + 3 * (0 + (i : Int) * 4)) : IntsAre (ys ++ [.int f t]) (wl b (i + 1)) := by
  subst e
  exact h.append (.cons _ _ .nil)
noncomputable def JC (w : World) (mf : Str → Option Value) (L ms md wd hp dh fl sd : Addr) (gr : Int) (h1 h2 k1 k2 k3 k4 : Int) (t1 t2 t3 u1 u2 u3 u4 v2 v3 : Tok) (vsf : List Value) (nf : Nat) (owd osd c1 c2 : Obj) (M : Int → Int) (D : Int) (rest : List (Int × Int)) (m : Str → Option Value) (nw : List (Addr × Obj)) : Prop :=
  m = mf ∧ ∃ (c3 : Obj) (vc : Option Value) (b : Int) (ru : List (Int × Int)),
    nw = [(fl, listOf vsf.toArray nf), (sd, osd), (hp, instObj 108 dh), (dh, dictOf (heapEs k1 k2 k3 k4 u1 u2 u3 u4 v2 v3 ms fl 1024 (1024 + 16 * gr)) 4), (wd, owd), (ms, instObj 210 md), (md, dictOf (memEs h1 h2 t1 t2 t3 wd) 2), (L + 1 + 1 + 1, c3), (L + 1 + 1, c2), (L + 1, c1)] ∧
    c3.data = Data.cell vc ∧ rest = recs b ru ∧ Cells M 0 D b ru ∧ b % 16 = 0 ∧ 1024 ≤ b ∧ b + total ru ≤ 1504
theorem seg9 (B : Below callerA h₀ [] h₀) (X : (K0 w.params).In h₀) (T : Top p loose mean mg mb h₀)
    (F : Fr h₀ L s.heap (fun y => if y = Str.ofString "area" then some (.ref hp) else if y = Str.ofString "grains" then some (.int gr tg) else m₀ y))
    (N : News h₀ L s.heap [(fl, listOf vsf.toArray nf), (sd, osd), (hp, instObj 108 dh), (dh, dictOf (heapEs k1 k2 k3 k4 u1 u2 u3 u4 v2 v3 ms fl 1024 (1024 + 16 * gr)) 4), (wd, owd), (ms, instObj 210 md), (md, dictOf (memEs h1 h2 t1 t2 t3 wd) 2), (L + 1 + 1 + 1, c3), (L + 1 + 1, c2), (L + 1, c1)])
    (hg0 : 2 ≤ gr) (hg1 : gr ≤ 30) (hc1 : c1.data = Data.cell (some (.ref ms))) (hc2 : c2.data = Data.cell (some (.ref sd))) (hc3 : c3.data = Data.cell vc)
    (a1 : @LT.lt Nat _ (L + 1 + 1 + 1) md) (a4 : @LT.lt Nat _ md ms) (a5 : @LT.lt Nat _ ms wd) (a6 : @LT.lt Nat _ wd dh) (a7 : @LT.lt Nat _ dh hp) (a8 : @LT.lt Nat _ hp sd) (a9 : @LT.lt Nat _ sd fl)
    (low : (wd == sysModules) = false) (los : (sd == sysModules) = false)
    (hM : MemIs w owd M) (hfs : IntsAre vsf (tailAt t r)) (hsd : IsW w osd (recs 1024 us)) (hinv : LInv M us t r (1024 + 16 * gr) D) (hD : D ≤ 320)
    (hQ : ∀ h tk m', Fr h₀ L h m' → Q (.ret (.bool true)) { s with heap := h, toks := tk }) :
    wpAny (model PySem.Challenge.rw_pb0333_01.row.prog w) (callerA.deeper (envOfC (Str.ofString "law") lawScope L fa cd)) (execs (lawBody.drop 9) (envOfC (Str.ofString "law") lawScope L fa cd)) Q (fun _ _ => False) s := by
  have hht := hinv.ht
  have hhr := hinv.hr
  have hrr := hinv.r0
  have hcc := hinv.cells.count
  have htn := total_nn hinv.cells
  have hlk := recs_look hinv.cells
  dsimp only [lawBody, lawScope, lawFn, PySem.Challenge.pw_pb0333_01, List.drop]
  k_steps
  unfold Stop
  (rename Fr _ _ _ _ => lF)
  (rename News _ _ _ _ => lN)
  k_dflt (refine keys_ind (fun rest m nw => (∀ p ∈ rest, p ∈ recs 1024 us) ∧ JC w _ L ms md wd hp dh fl sd gr h1 h2 k1 k2 k3 k4 t1 t2 t3 u1 u2 u3 u4 v2 v3 vsf nf owd osd c1 c2 M D rest m nw) rfl lF lN (.tail _ (.head _)) hsd los ⟨fun _ hp => hp, rfl, c3, vc, 1024, us, rfl, hc3, rfl, hinv.cells, by decide, by decide, by omega⟩ ?_ ?_ ?_ ?_)
  · rintro rr m nw ⟨-, -, c3', vc', b, ru, rfl, -⟩
    exact AdrIn.of_map rfl
  · rintro rr m nw ⟨-, -, c3', vc', b, ru, rfl, -⟩
    exact .tail _ (.head _)
  · rintro k x rr I it m nw tt hh tkk ⟨hin, rfl, c3', vc', b, ru, rfl, hc3', er, hcl, b16, b1, b2⟩ hI F1 N1
    clear lF lN
    have hIsd : @LT.lt Nat _ fl I := hI (fl, _) (.head _)
    cases ru with
    | nil => cases er
    | cons q ru =>
      obtain ⟨w1, d1⟩ := q
      simp only [recs, List.cons.injEq, Prod.mk.injEq] at er
      obtain ⟨⟨rfl, rfl⟩, rfl⟩ := er
      obtain ⟨hlook, hhas⟩ := hlk _ (hin _ (.head _))
      obtain ⟨⟨x1, x2, x3, x4, ⟨x5, x6, x7⟩, x8⟩, hcl2⟩ := hcl
      have z1 := total_nn hcl2
      have z2 := bsz_mod x
      have z3 := bsz_lo x5
      have z4 := bsz_ge x5
      simp only [total] at b2
      simp only at hlook hhas
      obtain ⟨kvs, hdd, hff⟩ := hsd
      have x2' : M ((b + 8 - 4) / 4) = 0 := by rw [show (b + 8 - 4) / 4 = b / 4 + 1 by omega]; exact x2
      k_steps
      unfold Stop
      (rename IsRange _ _ _ _ _ _ _ _ => hR)
      (rename Fr _ _ _ _ => lF)
      (rename News _ _ _ _ => lN)
      rw [hlook] at hR
      refine CpSrc.intro rfl lF lN hR (small_four (by omega) (by omega) (by omega) (by omega)) (rangeSize_four _ _) ?_ fun g => comp_ind (fun i ys => IntsAre ys (wl b i)) trivial .nil ?_ ?_
      · have e1 : (64 : Nat) ≤ sizeLine := by decide
        omega
      · rintro i ys v I2 oI C oC D2 m2 hh2 tk2 E' hi2 hj ⟨tv, rfl⟩ hC hx F2 N2 off ne
        clear lF lN
        have x3' := x3 i (by omega) (by omega)
        k_steps
        all_goals (
          refine CpPost.intro (by assumption) (by assumption) (wl_step hj ?_)
          rw [show (b + 8 + (0 + (i : Int) * 4)) / 4 = b / 4 + 2 + (i : Int) by omega, x3']
          omega)
      · intro ys hys D2 hh2 tk2 F2 N2 off2
        clear lF lN
        k_steps
        unfold Stop
        (rename IsRange _ _ _ _ _ _ _ _ => hR2)
        (rename Fr _ _ _ _ => lF)
        (rename News _ _ _ _ => lN)
        rw [hlook] at hR2
        refine CpSrc.intro rfl lF lN hR2 (small_four (by omega) (by omega) (by omega) (by omega)) (rangeSize_four _ _) ?_ fun g => comp_ind (fun i ys => IntsAre ys (wl b i)) trivial .nil ?_ ?_
        · have e1 : (64 : Nat) ≤ sizeLine := by decide
          omega
        · rintro i ys3 v I2 oI C oC D3 m3 hh3 tk3 E' hi2 hj ⟨tv, rfl⟩ hC hx F3 N3 off ne
          clear lF lN
          k_steps
          all_goals (
            refine CpPost.intro (by assumption) (by assumption) (wl_step hj ?_)
            omega)
        · intro ys3 hys3 D3 hh3 tk3 F3 N3 off3
          clear lF lN
          (rename Fr _ _ _ _ => lF)
          (rename News _ _ _ _ => lN)
          refine ne_intsK (News.isList lN (.tail _ (.head _))) hys (News.isList lN (.head _)) hys3 ?_ ?_
          · first | k_units | decide
          · simp only [eq_self, decide_true, Bool.not_true]
            k_steps
            all_goals (
              (rename Fr _ _ _ _ => lF')
              (rename News _ _ _ _ => lN')
              refine LpEnd.intro (its := [(I, it)]) lF' (fun q hq => lN' q (.tail _ (.tail _ hq))) ⟨fun p hp => hin p (.tail _ hp), rfl, _, _, b + bsz x, ru, rfl, by assumption, rfl, hcl2, by omega, by omega, by omega⟩)
  · rintro m nw hh tkk ⟨hin, rfl, c3', vc', b, ru, rfl, hc3', er, hcl, b16, b1, b2⟩ F1 N1
    clear lF lN
    have hflag : StopAny := trivial
    k_steps
    unfold Stop
    (try dsimp only)
    exact seg10 B X T F1 N1 hg0 hg1 hc1 hc2 hc3' a1 a4 a5 a6 a7 a8 a9 low los hM hfs hsd hinv hD hQ
end

theorem fill14 (w : World) (h : Heap) : (K0 w.params).In h → model PySem.Challenge.rw_pb0333_01.row.prog w = model PySem.Challenge.rw_pb0333_01.row.prog w := by
  k_fill
  intro _; rfl
-- PRELUDE
-- LAWRULES
-- LAWEND

end
end
end
end
end
end
end
end
end
section
local macro_rules | `(tactic| walk_at "exec For") => `(tactic| ((with_reducible show wpAny _ _ (exec (Stmt.For (PySem.Expr.Name _ _) (PySem.Expr.Name _ _) _ _ _) _) _ _ _); (rename Fr _ _ _ _ => lF'); (with_unfolding_all refine' For_turns lF' ?_); k_whole; (try dsimp only)))
section
local macro_rules | `(tactic| walk_at "CompSrc") => `(tactic| (refine stopHere ?_))
section
local macro_rules | `(tactic| walk_at "mine rows") => `(tactic| ((rename Fr _ _ _ _ => lF); (rename News _ _ _ _ => lN); (rename RowsIn _ _ _ => lR); k_dflt (refine rows_fin (by k_asm) (by k_asm) (by k_asm) (by k_asm) (.head _) (lR.mono (fun p hp => .tail _ (List.mem_append_right _ hp))) (by rw [rowsFrom_len]; assumption) (fun g => ?_))))
section
local macro_rules | `(tactic| walk_at "execs cons") => `(tactic| ((with_reducible show wpAny _ _ (execs (Stmt.For _ _ _ _ _ :: _) _) _ _ _); (rename StopFor => hstop); refine stopHere ?_))
section
local macro_rules | `(tactic| walk_at "mine mem") => `(tactic| first | assumption | exact List.Mem.head _ | exact List.mem_append_left _ (by walk_at "mine mem") | exact List.mem_append_right _ (by walk_at "mine mem") | exact List.Mem.tail _ (by walk_at "mine mem"))
section
local macro_rules | `(tactic| walk_at "compareOp NotEq ref ref") => `(tactic| (k_here; (with_reducible show wpAny _ _ (compareOp CmpOp.NotEq (Value.ref _) (Value.ref _)) _ _ _); k_dflt (refine' kqd_ne ?N ?a ?b ?c ?d ?e ?f ?g ?i ?j ?k ?l ?m ?n ?_; (case N => k_asm); (case a => walk_at "mine mem"); (case b => rfl); (case c => rfl); (case d => with_reducible assumption); (case e => (intro p9 hp9; walk_at "mine mem")); (case f => walk_at "mine mem"); (case g => rfl); (case i => rfl); (case j => with_reducible assumption); (case k => (intro p9 hp9; walk_at "mine mem")); (case l => exact rows_ok _); (case m => exact rows_ok _); (case n => first | ke_room | decide | k_units); k_whole); (try simp only [eq_self, decide_true, Bool.not_true])))
theorem calmCI : True := by
  w_top off
  trivial
section
variable {w : World} {p : Program} {loose : List Str} {mean : ExcName → Option Value} {mg mb : Str → Option Value} {h₀ : Heap} {L fa : Addr} {cd : Value} {m₀ : Str → Option Value} {s : Shared} {Q : Flow → Shared → Prop}
  {gr : Int} {ms md wd hp dh fl sd sr : Addr} {us : List (Int × Int)} {t r D : Int} {c1 c2 c3 : Obj} {h1 h2 k1 k2 k3 k4 : Int} {t1 t2 t3 u1 u2 u3 u4 v2 v3 tg : Tok} {nf : Nat} {vsf : List Value} {owd osd : Obj} {M : Int → Int} {vc : Option Value}
local macro_rules | `(tactic| walk_at "mine off") => `(tactic| (repeat' (first | exact Off.refl | refine Off.set ?_ (by simp))))
local macro_rules | `(tactic| walk_at "LpPost") => `(tactic| (dsimp only [LpPost]))
local macro_rules | `(tactic| walk_at "pyIter ref") => `(tactic| (refine stopHere ?_))

noncomputable def JW (w : World) (mf : Str → Option Value) (L ms md wd hp dh fl sd : Addr) (gr : Int) (h1 h2 k1 k2 k3 k4 : Int) (t1 t2 t3 u1 u2 u3 u4 v2 v3 : Tok) (vsf : List Value) (nf : Nat) (osd c1 c2 : Obj) (own : List (Addr × Obj)) (Me : Int → Int) (rest : List (Int × Int)) (m : Str → Option Value) (nw : List (Addr × Obj)) : Prop :=
  m = mf ∧ ∃ (owd c3 : Obj) (vc : Option Value) (b : Int) (ru : List (Int × Int)) (M : Int → Int),
    nw = (sd, osd) :: (fl, listOf vsf.toArray nf) :: (hp, instObj 108 dh) :: (dh, dictOf (heapEs k1 k2 k3 k4 u1 u2 u3 u4 v2 v3 ms fl 1024 (1024 + 16 * gr)) 4) :: (wd, owd) :: (ms, instObj 210 md) :: (md, dictOf (memEs h1 h2 t1 t2 t3 wd) 2) :: (L + 1 + 1 + 1, c3) :: (L + 1 + 1, c2) :: (L + 1, c1) :: own ∧
    c3.data = Data.cell vc ∧ MemIs w owd M ∧ rest = recs b ru ∧ mset 64 M b ru = Me ∧ b % 16 = 0 ∧ 1024 ≤ b ∧ b + total ru ≤ 1504 ∧ (∀ p ∈ ru, 0 ≤ p.1)
theorem seg7 {own : List (Addr × Obj)} {bf : Addr} {vsb : List Value} (B : Below callerA h₀ [] h₀) (X : (K0 w.params).In h₀) (T : Top p loose mean mg mb h₀)
    (F : Fr h₀ L s.heap (fun y => if y = Str.ofString "before" then some (.ref bf) else if y = Str.ofString "area" then some (.ref hp) else if y = Str.ofString "grains" then some (.int gr tg) else m₀ y))
    (N : News h₀ L s.heap ((sd, osd) :: (fl, listOf vsf.toArray nf) :: (hp, instObj 108 dh) :: (dh, dictOf (heapEs k1 k2 k3 k4 u1 u2 u3 u4 v2 v3 ms fl 1024 (1024 + 16 * gr)) 4) :: (wd, owd) :: (ms, instObj 210 md) :: (md, dictOf (memEs h1 h2 t1 t2 t3 wd) 2) :: (L + 1 + 1 + 1, c3) :: (L + 1 + 1, c2) :: (L + 1, c1) :: own))
    (hg0 : 2 ≤ gr) (hg1 : gr ≤ 30) (hc1 : c1.data = Data.cell (some (.ref ms))) (hc2 : c2.data = Data.cell (some (.ref sd))) (hc3 : c3.data = Data.cell vc)
    (hown : OwnOff own [sd, fl, hp, dh, wd, ms, md, L + 1 + 1 + 1, L + 1 + 1, L + 1]) (hbf : (bf, LCg.lst vsb) ∈ own) (hdat : DatAll own vsb ((rowsFrom 1024 (blks us r)).map rowDat))
    (a1 : @LT.lt Nat _ (L + 1 + 1 + 1) md) (a4 : @LT.lt Nat _ md ms) (a5 : @LT.lt Nat _ ms wd) (a6 : @LT.lt Nat _ wd dh) (a7 : @LT.lt Nat _ dh hp) (a8 : @LT.lt Nat _ hp fl) (a9 : @LT.lt Nat _ fl sd)
    (low : (wd == sysModules) = false) (los : (sd == sysModules) = false)
    (hM : MemIs w owd M) (hfs : IntsAre vsf (tailAt t r)) (hsd : IsW w osd (recs 1024 us)) (hinv : LInv M us t r (1024 + 16 * gr) D) (hD : D ≤ 320)
    (hQ : ∀ h tk m', Fr h₀ L h m' → Q (.ret (.bool true)) { s with heap := h, toks := tk }) :
    wpAny (model PySem.Challenge.rw_pb0333_01.row.prog w) (callerA.deeper (envOfC (Str.ofString "law") lawScope L fa cd)) (execs (lawBody.drop 7) (envOfC (Str.ofString "law") lawScope L fa cd)) Q (fun _ _ => False) s := by
  have hht := hinv.ht
  have hhr := hinv.hr
  have hrr := hinv.r0
  have hcc := hinv.cells.count
  have htn := total_nn hinv.cells
  dsimp only [lawBody, lawScope, lawFn, PySem.Challenge.pw_pb0333_01, List.drop]
  k_steps
  unfold Stop
  (rename Fr _ _ _ _ => lF)
  (rename News _ _ _ _ => lN)
  k_dflt (refine keys_ind (JW w _ L ms md wd hp dh fl sd gr h1 h2 k1 k2 k3 k4 t1 t2 t3 u1 u2 u3 u4 v2 v3 vsf nf osd c1 c2 own (mset 64 M 1024 us)) rfl lF lN (.head _) hsd los ⟨rfl, owd, c3, vc, 1024, us, M, rfl, hc3, hM, rfl, rfl, by decide, by decide, by omega, hinv.cells.sizes⟩ ?_ ?_ ?_ ?_)
  · rintro rr m nw ⟨-, owd', c3', vc', b, ru, M', rfl, -⟩
    exact AdrIn.of_map rfl
  · rintro rr m nw ⟨-, owd', c3', vc', b, ru, M', rfl, -⟩
    exact .head _
  · rintro k x rr I it m nw tt hh tkk ⟨rfl, owd', c3', vc', b, ru, M', rfl, hc3', hM', er, em, b16, b1, b2, hru⟩ hI F1 N1
    clear lF lN
    have hIsd : @LT.lt Nat _ sd I := hI (sd, _) (.head _)
    cases ru with
    | nil => cases er
    | cons q ru =>
      obtain ⟨w1, d1⟩ := q
      simp only [recs, List.cons.injEq, Prod.mk.injEq] at er
      obtain ⟨⟨rfl, rfl⟩, rfl⟩ := er
      have hru2 : ∀ p ∈ ru, 0 ≤ p.1 := fun p hp => hru p (.tail _ hp)
      have z1 := tot_nn hru2
      have z2 := bsz_mod x
      have z3 := bsz_lo (hru _ (.head _))
      simp only [total] at b2
      simp only at z3
      clear hru
      k_steps
      all_goals (
        (rename MemIs _ _ (upd _ _ _) => lM2)
        refine LpEnd.intro (by assumption) (by assumption) ⟨rfl, _, _, _, b + bsz x, ru, _, rfl, by assumption, lM2, rfl, ?_, by omega, by omega, by omega, hru2⟩
        rw [← em]
        simp only [mset]
        rw [show (b + 8 - 4) / 4 = b / 4 + 1 by omega])
  · rintro m nw hh tkk ⟨rfl, owd', c3', vc', b, ru, M', rfl, hc3', hM', er, em, b16, b1, b2, hru⟩ F1 N1
    clear lF lN
    have e0 : ru = [] := by
      cases ru with
      | nil => rfl
      | cons q ru => cases er
    subst e0
    simp only [mset] at em
    subst em
    have hce : Cells (mset 64 M 1024 us) 64 D 1024 us := hinv.cells.mset (by decide) (by decide) hD
    k_steps
    unfold Stop
    (rename MemIs _ _ _ => lM)
    have hmt : 0 < r → mset 64 M 1024 us (t / 4) = r + 1 := fun hr => by
      rw [mset_off hinv.cells.sizes (by decide) (.inr (by omega))]
      exact hinv.w1 hr
    have hinv2 := swept hce hht hhr hrr hinv.r16 (by omega) hD
    have htl := swept_tail r hrr us
    k_dflt (refine' sweep_marked_u (us := blks us r) ?kB ?kF ?kX ?kN ?kT ?kK ?d1 ?d2 ?d3 ?d4 ?kD ?kU ?U1 ?U2 ?U3 ?m1 ?m2 low ?m6 lM ?_ ?_ ?_ ?_ ?_ ?_ ?_ ?_ ?_)
    walk_at "mine room"
    walk_at "mine dets"
    walk_at "mine upds"
    (case m1 => (intro _ _; (try dsimp only); k_mem)); (case m2 => (intro _ _; (try dsimp only); k_mem)); (case m6 => (intro _ _; (try dsimp only); k_mem))
    · decide
    · decide
    · omega
    · exact hce.chain (by omega) (by omega) hrr hinv.r16 (by omega) (fun hr => by rw [← hht]; exact hmt hr)
    · exact blks_UT r us
    · exact hce.tagged (by decide) (by decide)
    · rw [blks_tail]; split <;> simp
    · intro t' r' hm
      rw [blks_tail] at hm
      split at hm
      · simp only [List.mem_singleton, Prod.mk.injEq] at hm
        omega
      · cases hm
    · intro h9 tk9 fl9 vs9 nf9 o9 tf9 F9 N9 lt9 I9 M9
      rw [htl, ← hht] at I9
      generalize putT (clr (mset 64 M 1024 us) 1024 (blks us r)) (tailOf 1024 (blks us r)) = M2 at M9 hinv2
      have hch : BChain M2 (1024 + 16 * gr) 1024 (blks us r) := hinv2.cells.chain (by omega) (by omega) hrr hinv2.r16 (by omega) (fun hr => by rw [← hht]; exact hinv2.w1 hr)
      have hbl : (blks us r).length ≤ 64 := by
        rw [blks_len]
        split <;> omega
      have hsf : @LT.lt Nat _ sd fl9 := lt9 (sd, _) (.head _)
      (try dsimp only at N9)
      dsimp only
      clear hch hinv F1 N1 hM hfs hmt
      have hch : BChain M2 (1024 + 16 * gr) 1024 (blks us r) := hinv2.cells.chain (by omega) (by omega) hrr hinv2.r16 (by omega) (fun hr => by rw [← hht]; exact hinv2.w1 hr)
      k_steps
      unfold Stop
      walk_at "mine rows"
      intro D9 h9 tk9 F9 N9 off9
      (rename RowsIn _ _ _ => lR)
      have dat9 := lR.dat
      dsimp only [List.cons_append, List.nil_append] at N9
      have hflag : StopFor := trivial
      k_steps
      unfold Stop
      (try dsimp only)
      (rename Fr _ _ _ _ => lF2)
      (rename News _ _ _ _ => lN2)
      exact seg9 B X T (Fr.as lF2 rfl rfl) (fun q hq => lN2 q (by rcases List.mem_cons.mp hq with rfl | hq; exact .tail _ (.tail _ (.head _)); rcases List.mem_cons.mp hq with rfl | hq; exact .tail _ (.tail _ (.tail _ (.head _))); exact .tail _ (.tail _ (.tail _ (.tail _ (.tail _ (List.mem_append_left _ hq))))))) hg0 hg1 hc1 hc2 hc3' a1 a4 a5 a6 a7 (Nat.lt_trans a8 a9) hsf low los M9 I9 hsd hinv2 hD hQ
end

theorem fill12 (w : World) (h : Heap) : (K0 w.params).In h → model PySem.Challenge.rw_pb0333_01.row.prog w = model PySem.Challenge.rw_pb0333_01.row.prog w := by
  k_fill
  intro _; rfl
-- PRELUDE
-- LAWRULES
-- LAWEND

end
end
end
end
end
end
section
local macro_rules | `(tactic| walk_at "CompSrc") => `(tactic| (refine stopHere ?_))
section
local macro_rules | `(tactic| walk_at "exec For") => `(tactic| ((with_reducible show wpAny _ _ (exec (Stmt.For (PySem.Expr.Name _ _) (PySem.Expr.Name _ _) _ _ _) _) _ _ _); (rename Fr _ _ _ _ => lF'); (with_unfolding_all refine' For_turns lF' ?_); k_whole; (try dsimp only)))
section
local macro_rules | `(tactic| walk_at "mine rows") => `(tactic| ((rename Fr _ _ _ _ => lF); (rename News _ _ _ _ => lN); (rename RowsIn _ _ _ => lR); k_dflt (refine rows_fin (by k_asm) (by k_asm) (by k_asm) (by k_asm) (.head _) (lR.mono (fun p hp => .tail _ (List.mem_append_right _ hp))) (by rw [rowsFrom_len]; assumption) (fun g => ?_))))
section
local macro_rules | `(tactic| walk_at "eval ListComp") => `(tactic| ((with_reducible show wpAny _ _ (eval (PySem.Expr.ListComp _ [⟨PySem.Expr.Name _ _, PySem.Expr.Call (PySem.Expr.Name "range" _) _ _ _, [], 0⟩] _ _) _) _ _ _); k_dflt (refine comp_rangeS (F₀ := by k_asm) (by with_unfolding_all rfl) (by decide) (by rfl) (by decide) (by rfl) ?_)))
section
local macro_rules | `(tactic| walk_at "CpSrc") => `(tactic| (refine stopHere ?_))
section
local macro_rules | `(tactic| walk_at "execs cons") => `(tactic| ((with_reducible show wpAny _ _ (execs (Stmt.For _ _ _ _ _ :: _) _) _ _ _); (rename StopFor => hstop); refine stopHere ?_))
section
local macro_rules | `(tactic| walk_at "mine mem") => `(tactic| first | assumption | exact List.Mem.head _ | exact List.mem_append_left _ (by walk_at "mine mem") | exact List.mem_append_right _ (by walk_at "mine mem") | exact List.Mem.tail _ (by walk_at "mine mem"))
section
local macro_rules | `(tactic| walk_at "compareOp NotEq ref ref") => `(tactic| (k_here; (with_reducible show wpAny _ _ (compareOp CmpOp.NotEq (Value.ref _) (Value.ref _)) _ _ _); k_dflt (refine' kqd_ne ?N ?a ?b ?c ?d ?e ?f ?g ?i ?j ?k ?l ?m ?n ?_; (case N => k_asm); (case a => walk_at "mine mem"); (case b => rfl); (case c => rfl); (case d => with_reducible assumption); (case e => (intro p9 hp9; walk_at "mine mem")); (case f => walk_at "mine mem"); (case g => rfl); (case i => rfl); (case j => with_reducible assumption); (case k => (intro p9 hp9; walk_at "mine mem")); (case l => exact rows_ok _); (case m => exact rows_ok _); (case n => first | ke_room | decide | k_units); k_whole); (try simp only [eq_self, decide_true, Bool.not_true])))
section
local macro_rules | `(tactic| walk_at "execs cons") => `(tactic| ((rename StopAny => hstop); refine stopHere ?_))
theorem off1_mem {D : Addr} : ∀ {l : List (Addr × Obj)}, LCg.Off1 D l → ∀ p ∈ l, p.1 ≠ D
  | [], _, _, hp => nomatch hp
  | q :: r, h, p, hp => by
    rcases List.mem_cons.mp hp with rfl | hp
    · exact h.1
    · exact off1_mem h.2 p hp
theorem own_off {D : Addr} {o : Obj} {base ext : List (Addr × Obj)} (h1 : ∀ q ∈ base, ∀ p ∈ ext, q.1 < p.1) (h2 : ∀ q ∈ base, q.1 ≠ D) : OwnOff ((D, o) :: ext) (base.map (·.1)) := by
  intro p hp b hb
  obtain ⟨q, hq, rfl⟩ := List.mem_map.mp hb
  rcases List.mem_cons.mp hp with rfl | hp
  · exact fun e => h2 q hq e.symm
  · exact fun e => Nat.lt_irrefl _ (e ▸ h1 q hq p hp)
theorem calmCE : True := by
  w_top off
  trivial
section
variable {w : World} {p : Program} {loose : List Str} {mean : ExcName → Option Value} {mg mb : Str → Option Value} {h₀ : Heap} {L fa : Addr} {cd : Value} {m₀ : Str → Option Value} {s : Shared} {Q : Flow → Shared → Prop}
  {gr : Int} {ms md wd hp dh fl sd sr : Addr} {us : List (Int × Int)} {t r D : Int} {c1 c2 c3 : Obj} {h1 h2 k1 k2 k3 k4 : Int} {t1 t2 t3 u1 u2 u3 u4 v2 v3 tg : Tok} {nf : Nat} {vsf : List Value} {owd osd : Obj} {M : Int → Int} {vc : Option Value}
local macro_rules | `(tactic| walk_at "mine off") => `(tactic| (repeat' (first | exact Off.refl | refine Off.set ?_ (by simp))))
local macro_rules | `(tactic| walk_at "LpPost") => `(tactic| (dsimp only [LpPost]))
local macro_rules | `(tactic| walk_at "pyIter ref") => `(tactic| (refine stopHere ?_))

theorem seg6 (B : Below callerA h₀ [] h₀) (X : (K0 w.params).In h₀) (T : Top p loose mean mg mb h₀)
    (F : Fr h₀ L s.heap (fun y => if y = Str.ofString "area" then some (.ref hp) else if y = Str.ofString "grains" then some (.int gr tg) else m₀ y))
    (N : News h₀ L s.heap [(sd, osd), (fl, listOf vsf.toArray nf), (hp, instObj 108 dh), (dh, dictOf (heapEs k1 k2 k3 k4 u1 u2 u3 u4 v2 v3 ms fl 1024 (1024 + 16 * gr)) 4), (wd, owd), (ms, instObj 210 md), (md, dictOf (memEs h1 h2 t1 t2 t3 wd) 2), (L + 1 + 1 + 1, c3), (L + 1 + 1, c2), (L + 1, c1)])
    (hg0 : 2 ≤ gr) (hg1 : gr ≤ 30) (hc1 : c1.data = Data.cell (some (.ref ms))) (hc2 : c2.data = Data.cell (some (.ref sd))) (hc3 : c3.data = Data.cell vc)
    (a1 : @LT.lt Nat _ (L + 1 + 1 + 1) md) (a4 : @LT.lt Nat _ md ms) (a5 : @LT.lt Nat _ ms wd) (a6 : @LT.lt Nat _ wd dh) (a7 : @LT.lt Nat _ dh hp) (a8 : @LT.lt Nat _ hp fl) (a9 : @LT.lt Nat _ fl sd)
    (low : (wd == sysModules) = false) (los : (sd == sysModules) = false)
    (hM : MemIs w owd M) (hfs : IntsAre vsf (tailAt t r)) (hsd : IsW w osd (recs 1024 us)) (hinv : LInv M us t r (1024 + 16 * gr) D) (hD : D ≤ 320)
    (hQ : ∀ h tk m', Fr h₀ L h m' → Q (.ret (.bool true)) { s with heap := h, toks := tk }) :
    wpAny (model PySem.Challenge.rw_pb0333_01.row.prog w) (callerA.deeper (envOfC (Str.ofString "law") lawScope L fa cd)) (execs (lawBody.drop 6) (envOfC (Str.ofString "law") lawScope L fa cd)) Q (fun _ _ => False) s := by
  have hht := hinv.ht
  have hhr := hinv.hr
  have hrr := hinv.r0
  have hcc := hinv.cells.count
  have hch : BChain M (1024 + 16 * gr) 1024 (blks us r) := hinv.cells.chain (by omega) (by omega) hinv.r0 hinv.r16 (by omega) (fun hr => by rw [← hinv.ht]; exact hinv.w1 hr)
  have hbl : (blks us r).length ≤ 64 := by
    rw [blks_len]
    split <;> omega
  dsimp only [lawBody, lawScope, lawFn, PySem.Challenge.pw_pb0333_01, List.drop]
  k_steps
  unfold Stop
  walk_at "mine rows"
  intro D9 h9 tk9 F9 N9 off9
  (rename RowsIn _ _ _ => lR)
  (rename (∀ (q : Addr × Obj), q ∈ _ → ∀ (p : Addr × Obj), p ∈ _ → _) => lO)
  have hflag : StopFor := trivial
  dsimp only [List.cons_append, List.nil_append] at N9 off9
  (try dsimp only)
  k_steps
  unfold Stop
  (try dsimp only)
  refine seg7 (nf := nf) (h1 := h1) (h2 := h2) (k1 := k1) (k2 := k2) (k3 := k3) (k4 := k4) (t1 := t1) (t2 := t2) (t3 := t3) (u1 := u1) (u2 := u2) (u3 := u3) (u4 := u4) (v2 := v2) (v3 := v3) (ms := ms) (md := md) (wd := wd) (hp := hp) (dh := dh) (fl := fl) (sd := sd) B X T F9 (own := (D9, _) :: _) (vsb := _) (fun q hq => ?_) hg0 hg1 hc1 hc2 hc3 (own_off (base := [(sd, osd), (fl, listOf vsf.toArray nf), (hp, instObj 108 dh), (dh, dictOf (heapEs k1 k2 k3 k4 u1 u2 u3 u4 v2 v3 ms fl 1024 (1024 + 16 * gr)) 4), (wd, owd), (ms, instObj 210 md), (md, dictOf (memEs h1 h2 t1 t2 t3 wd) 2), (L + 1 + 1 + 1, c3), (L + 1 + 1, c2), (L + 1, c1)]) lO (fun q hq => off1_mem off9 q (.tail _ (List.mem_append_left _ hq)))) (.head _) (lR.dat.mono fun p hp => .tail _ hp) a1 a4 a5 a6 a7 a8 a9 low los hM hfs hsd hinv hD hQ
  rcases List.mem_append.mp (show q ∈ [(sd, osd), (fl, listOf vsf.toArray nf), (hp, instObj 108 dh), (dh, dictOf (heapEs k1 k2 k3 k4 u1 u2 u3 u4 v2 v3 ms fl 1024 (1024 + 16 * gr)) 4), (wd, owd), (ms, instObj 210 md), (md, dictOf (memEs h1 h2 t1 t2 t3 wd) 2), (L + 1 + 1 + 1, c3), (L + 1 + 1, c2), (L + 1, c1)] ++ (D9, _) :: _ from hq) with h | h
  · exact N9 q (.tail _ (.tail _ (List.mem_append_left _ h)))
  · rcases List.mem_cons.mp h with rfl | h
    · exact N9 _ (.head _)
    · exact N9 q (.tail _ (.tail _ (List.mem_append_right [(sd, osd), (fl, listOf vsf.toArray nf), (hp, instObj 108 dh), (dh, dictOf (heapEs k1 k2 k3 k4 u1 u2 u3 u4 v2 v3 ms fl 1024 (1024 + 16 * gr)) 4), (wd, owd), (ms, instObj 210 md), (md, dictOf (memEs h1 h2 t1 t2 t3 wd) 2), (L + 1 + 1 + 1, c3), (L + 1 + 1, c2), (L + 1, c1)] h)))
end

theorem fill19 (w : World) (h : Heap) : (K0 w.params).In h → model PySem.Challenge.rw_pb0333_01.row.prog w = model PySem.Challenge.rw_pb0333_01.row.prog w := by
  k_fill
  intro _; rfl
-- PRELUDE
-- LAWRULES
end
end
end
end
end
end
end
end
end
end
end
end
section
local macro_rules | `(tactic| walk_at "execs cons") => `(tactic| ((rename StopAny => hstop); refine stopHere ?_))
theorem calmCV : True := by
  w_top off
  trivial
section
variable {w : World} {p : Program} {loose : List Str} {mean : ExcName → Option Value} {mg mb : Str → Option Value} {h₀ : Heap} {L fa : Addr} {cd : Value} {m₀ : Str → Option Value} {s : Shared} {Q : Flow → Shared → Prop}
  {gr : Int} {ms md wd hp dh fl sd sr l1 : Addr} {c1 c2 c3 : Obj} {h1 h2 k1 k2 k3 k4 : Int} {t1 t2 t3 u1 u2 u3 u4 v2 v3 tg : Tok} {x b : Int} {tx tb : Tok} {n n1 nf : Nat} {vs1 vsf : List Value} {ns : List Int} {owd osd : Obj} {M : Int → Int} {vc : Option Value}
local macro_rules | `(tactic| walk_at "mine off") => `(tactic| (repeat' (first | exact Off.refl | refine Off.set ?_ (by simp))))
local macro_rules | `(tactic| walk_at "LpPost") => `(tactic| (dsimp only [LpPost]))
local macro_rules | `(tactic| walk_at "pyIter ref") => `(tactic| (refine stopHere ?_))
theorem seg5 (B : Below callerA h₀ [] h₀) (X : (K0 w.params).In h₀) (T : Top p loose mean mg mb h₀)
    (F : Fr h₀ L s.heap (fun y => if y = Str.ofString "area" then some (.ref hp) else if y = Str.ofString "grains" then some (.int gr tg) else if y = Str.ofString "source" then some (.ref sr) else m₀ y))
    (N : News h₀ L s.heap [(sd, osd), (fl, listOf vsf.toArray nf), (hp, instObj 108 dh), (dh, dictOf (heapEs k1 k2 k3 k4 u1 u2 u3 u4 v2 v3 ms fl 1024 (1024 + 16 * gr)) 4), (wd, owd), (ms, instObj 210 md), (md, dictOf (memEs h1 h2 t1 t2 t3 wd) 2), (sr, listOf #[.ref l1, .int x tx, .int b tb] n), (l1, listOf vs1.toArray n1), (L + 1 + 1 + 1, c3), (L + 1 + 1, c2), (L + 1, c1)])
    (hg0 : 2 ≤ gr) (hg1 : gr ≤ 30) (hc1 : c1.data = Data.cell (some (.ref ms))) (hc2 : c2.data = Data.cell (some (.ref sd))) (hc3 : c3.data = Data.cell vc)
    (a1 : @LT.lt Nat _ (L + 1 + 1 + 1) l1) (a2 : @LT.lt Nat _ l1 sr) (a3 : @LT.lt Nat _ sr md) (a4 : @LT.lt Nat _ md ms) (a5 : @LT.lt Nat _ ms wd) (a6 : @LT.lt Nat _ wd dh) (a7 : @LT.lt Nat _ dh hp) (a8 : @LT.lt Nat _ hp fl) (a9 : @LT.lt Nat _ fl sd)
    (low : (wd == sysModules) = false) (los : (sd == sysModules) = false)
    (hI : IntsAre vs1 ns) (hlen : ns.length ≤ 40) (hx : 0 ≤ x) (hb0 : 0 ≤ b) (hb1 : b < 2147483563) (hM : MemIs w owd M) (hfs : IntsAre vsf (tailAt 1024 (16 * gr))) (hsd : IsW w osd []) (hM0 : M (1024 / 4) = 16 * gr + 1) (hM1 : M (1024 / 4 + 1) = 0)
    (hQ : ∀ h tk m', Fr h₀ L h m' → Q (.ret (.bool true)) { s with heap := h, toks := tk }) :
    wpAny (model PySem.Challenge.rw_pb0333_01.row.prog w) (callerA.deeper (envOfC (Str.ofString "law") lawScope L fa cd)) (execs (lawBody.drop 5) (envOfC (Str.ofString "law") lawScope L fa cd)) Q (fun _ _ => False) s := by
  dsimp only [lawBody, lawScope, lawFn, PySem.Challenge.pw_pb0333_01, List.drop]
  k_steps
  unfold Stop
  (rename IsRange _ _ _ _ _ _ _ _ => hR)
  (rename Fr _ _ _ _ => lF)
  (rename News _ _ _ _ => lN)
  (rename IntsAre _ _ => lI)
  refine rng_ind (LJ w gr L ms md wd hp dh fl sd sr l1 c1 c2 c3 h1 h2 k1 k2 k3 k4 t1 t2 t3 u1 u2 u3 u4 v2 v3 _) rfl hR (small_one (by omega) (by omega) (by omega) (by omega)) (rangeSize_nat _ _) lF lN
    ⟨.refl, _, _, _, _, _, _, _, _, owd, vsf, nf, osd, [], 1024, 16 * gr, M, rfl, ⟨lI, by assumption, by assumption, by assumption, by assumption⟩, hM, hfs, hsd, ⟨trivial, by simp [total], by omega, by omega, by omega, fun _ => hM0, fun _ => hM1⟩⟩ ?_ ?_ ?_
  · rintro i m nw ⟨-, x', b', tx', tb', n', vs1', n1', ns', owd', vsf', nf', osd', us, t, r, M', rfl, -⟩
    exact AdrIn.of_map rfl
  · intro i I it m nw t' h tk hi hj hI F1 N1
    obtain ⟨ho, x', b', tx', tb', n', vs1', n1', ns', owd', vsf', nf', osd', us, t, r, M', rfl, ⟨i1, i2, i3, i4, i5⟩, hM', hfs', hsd', hinv⟩ := hj
    rw [offF_eq ho] at F1
    simp only [offF] at F1
    have hIsd : @LT.lt Nat _ sd I := hI (sd, _) (.head _)
    have hi8 : (i : Int) ≤ 7 := by omega
    clear lF lN lI hI
    have hlow := hinv.cells.count
    have hlen9 := recs_len 1024 us
    have ht9 := hinv.ht
    have hr9 := hinv.hr
    have hr99 := hinv.r0
    have hr98 := hinv.r16
    have htn := total_nn hinv.cells
    k_steps
    unfold Stop
    (rename MemIs _ _ (upd _ _ _) => lM)
    obtain ⟨f, hf⟩ := upd_val lM
    subst hf
    have e1 : upd M' ((64 + 32 * (0 + (i : Int) * 1)) / 4) (4 * f) ((64 + 32 * (0 + (i : Int) * 1)) / 4) = 4 * f := by unfold upd; rw [if_pos rfl]
    have e2 : ∀ k, k ≠ (64 + 32 * (0 + (i : Int) * 1)) / 4 → upd M' ((64 + 32 * (0 + (i : Int) * 1)) / 4) (4 * f) k = M' k := fun k hk => by unfold upd; rw [if_neg hk]
    generalize upd M' ((64 + 32 * (0 + (i : Int) * 1)) / 4) (4 * f) = M1 at lM e1 e2
    have hcel : Cells M1 0 (64 + 32 * (i : Int)) 1024 us := hinv.cells.mono (by decide) (fun k k1 k2 => e2 k (by omega)) (fun k k1 k2 => e2 k (by omega)) (Int.le_refl _)
    have hw1 : 0 < r → M1 (t / 4) = r + 1 := fun hr => by rw [e2 _ (by omega)]; exact hinv.w1 hr
    have hw2 : 0 < r → M1 (t / 4 + 1) = 0 := fun hr => by rw [e2 _ (by omega)]; exact hinv.w2 hr
    by_cases hfit : bsz (4 * f) ≤ r
    · have hr0 : 0 < r := by have := bsz_lo (x := 4 * f) (by omega); omega
      k_dflt (refine' alloc_hit_u (t := t) (r := r) ?kB ?kF ?kX ?kN ?kT ?kK ?d1 ?d2 ?d3 ?d4 ?kD ?kU ?U1 ?U2 ?U3 ?m1 ?m2 ?m6 ?m7 low lM hfs' ?_ ?_ ?_ ?_ ?_ ?_ hr0 ?_ ?_ ?_ ?_ ?_ ?_)
      walk_at "mine room"
      walk_at "mine dets"
      walk_at "mine upds"
      walk_at "mine mems"
      · omega
      · omega
      · omega
      · omega
      · exact ⟨hw1 hr0, by omega, by omega, by omega⟩
      · rw [show (t + 4) / 4 = t / 4 + 1 by omega]; exact hw2 hr0
      · omega
      · omega
      · rw [e1]; omega
      · rw [e1]; omega
      · rw [e1]; exact hfit
      · intro h9 tk9 t9 o9 vs9 M2 F9 N9 I9 M9 P9
        rw [e1] at I9 P9
        (try dsimp only at N9)
        dsimp only
        have e3 : M2 ((64 + 32 * (0 + (i : Int) * 1)) / 4) = 4 * f := by rw [P9.below _ (by omega)]; exact e1
        obtain ⟨kvs, hdd, hff⟩ := hsd'
        k_steps
        unfold Stop
        (rename IsRange _ _ _ _ _ _ _ _ => hR2)
        (rename Fr _ _ _ _ => lF)
        (rename News _ _ _ _ => lN)
        (rename FlatPairs PyData.int _ (kdfD (kdfPut _ _ _)) => hf2)
        (rename Obj.IsDictOf _ _ _ => hd2)
        rw [look_put, if_pos rfl, e3] at hR2
        rw [e3, kdfPut_fresh (fun p hp => by have := recs_lt hcel p hp; omega)] at hf2
        have hrec : recs 1024 us ++ [(t + 8, 4 * f)] = recs 1024 (us ++ [(4 * f, 64 + 32 * (i : Int))]) := by
          rw [recs_snoc, ← ht9]
        rw [hrec] at hf2
        rw [show 64 + 32 * (0 + (i : Int) * 1) = 64 + 32 * (i : Int) by omega] at P9 e1
        have b1 := bsz_ge (x := 4 * f) (by omega)
        refine rng_indM (d := wd) [Str.ofString "spot"] (JF w M2 (t + 8)) rfl hR2 (small_four (by omega) (by omega) (by omega) (by omega)) (rangeSize_four _ _) lF lN (by k_updF) (memF M9) ?_ ?_
        · intro j J2 jt m2 o2 tj h2 tk2 hj ho2 hj2 hI2 F2 N2
          rw [offF_eq ho2] at F2
          simp only [offF] at F2
          have hJI : @LT.lt Nat _ I J2 := hI2 (I, _) (.head _)
          unfold JF at hj2
          clear lF lN
          k_steps
          all_goals (
            (rename MemIs _ _ (upd _ _ _) => lM2)
            refine LpEnd.intro (by assumption) (by assumption) ⟨?_, _, rfl, ?_⟩
            · walk_at "mine off"
            · unfold JF
              rw [← filled_succ, show (t + 8) / 4 + (j : Int) = (t + 8 + (0 + (j : Int) * 4)) / 4 by omega, show t + 8 + 12 * (j : Int) = t + 8 + 3 * (0 + (j : Int) * 4) by omega]
              exact lM2)
        · intro m2 o2 h2 tk2 ho2 hj2 F2 N2
          rw [offF_eq ho2] at F2
          simp only [offF] at F2
          unfold JF at hj2
          (try dsimp only)
          clear lF lN
          k_steps
          all_goals (
            (rename IntsAre _ (tailAt _ _) => lT)
            refine LpEnd.intro (by assumption) (by assumption) ⟨?_, _, _, _, _, _, _, _, _, _, _, _, _, us ++ [(4 * f, 64 + 32 * (i : Int))], t + bsz (4 * f), r - bsz (4 * f), _, rfl, ⟨by assumption, by assumption, by assumption, by assumption, by assumption⟩, hj2, lT, ⟨_, hd2, hf2⟩, ?_⟩
            · walk_at "mine off"
            · rw [show (64 : Int) + 32 * ((i + 1 : Nat) : Int) = 64 + 32 * ((i : Int) + 1) by omega]
              exact LInv.step hcel ht9 hr9 hr99 hr98 (by omega) (by omega) (by omega) (by omega) (by omega) hfit P9 e1 rfl)
    · k_dflt (refine' alloc_miss_u (t := t) (r := r) ?kB ?kF ?kX ?kN ?kT ?kK ?d1 ?d2 ?d3 ?d4 ?kD ?kU ?U1 ?U2 ?U3 ?m1 ?m2 ?m6 ?m7 low lM hfs' ?_ ?_ ?_ ?_ ?_ ?_ ?_)
      walk_at "mine room"
      walk_at "mine dets"
      walk_at "mine upds"
      walk_at "mine mems"
      · intro hr0
        exact ⟨by omega, by omega, ⟨hw1 hr0, by omega, by omega, by omega⟩, by rw [show (t + 4) / 4 = t / 4 + 1 by omega]; exact hw2 hr0⟩
      · omega
      · omega
      · rw [e1]; omega
      · rw [e1]; omega
      · rw [e1]; omega
      · intro h9 tk9 t9 F9 N9
        (try dsimp only)
        k_steps
        all_goals (
          refine LpEnd.intro (by assumption) (by assumption) ⟨?_, _, _, _, _, _, _, _, _, _, _, _, _, us, t, r, M1, rfl, ⟨by assumption, by assumption, by assumption, by assumption, by assumption⟩, lM, hfs', hsd', ?_⟩
          · walk_at "mine off"
          · exact ⟨hcel.mono (by decide) (fun _ _ _ => rfl) (fun _ _ _ => rfl) (by omega), ht9, hr9, hr99, hr98, hw1, hw2⟩)
  · intro m nw h tk hj F1 N1
    obtain ⟨ho, x', b', tx', tb', n', vs1', n1', ns', owd', vsf', nf', osd', us, t, r, M', rfl, ⟨i1, i2, i3, i4, i5⟩, hM', hfs', hsd', hinv⟩ := hj
    rw [offF_eq ho] at F1
    simp only [offF] at F1
    dsimp only
    clear lF lN
    have hflag : StopAny := trivial
    k_steps
    unfold Stop
    (try dsimp only)
    refine seg6 (tg := tg) (nf := nf') (h1 := h1) (h2 := h2) (k1 := k1) (k2 := k2) (k3 := k3) (k4 := k4) (t1 := t1) (t2 := t2) (t3 := t3) (u1 := u1) (u2 := u2) (u3 := u3) (u4 := u4) (v2 := v2) (v3 := v3) (ms := ms) (md := md) (wd := wd) (hp := hp) (dh := dh) (fl := fl) (sd := sd) B X T (Fr.as F1 ?_ ?_) (fun q hq => N1 q ?_) hg0 hg1 hc1 hc2 hc3 (Nat.lt_trans a1 (Nat.lt_trans a2 a3)) a4 a5 a6 a7 a8 a9 low los hM' hfs' hsd' hinv (by omega) hQ
    · first | rfl | simp
    · first | rfl | simp
    · rcases List.mem_append.mp (show q ∈ [(sd, _), (fl, _), (hp, _), (dh, _), (wd, _), (ms, _), (md, _)] ++ [_, _, _] from hq) with h | h
      · exact List.mem_append_left [_, _, _, _, _] h
      · exact List.mem_append_right [(sd, _), (fl, _), (hp, _), (dh, _), (wd, _), (ms, _), (md, _)] (.tail _ (.tail _ h))
end

theorem fill20 (w : World) (h : Heap) : (K0 w.params).In h → model PySem.Challenge.rw_pb0333_01.row.prog w = model PySem.Challenge.rw_pb0333_01.row.prog w := by
  k_fill
  intro _; rfl
-- PRELUDE
-- LAWRULES
end
section
local macro_rules | `(tactic| walk_at "pyIter ref") => `(tactic| (refine stopHere ?_))
section
local macro_rules | `(tactic| walk_at "execs cons") => `(tactic| ((with_reducible show wpAny _ _ (execs (Stmt.For _ _ _ _ _ :: _) _) _ _ _); refine stopHere ?_))
theorem pick12 {h₀ h : Heap} {L : Addr} {e0 e1 e2 e3 e4 e5 e6 e7 e8 e9 e10 e11 e12 e13 e14 : Addr × Obj} (N : News h₀ L h [e0, e1, e2, e3, e4, e5, e6, e7, e8, e9, e10, e11, e12, e13, e14]) : News h₀ L h [e0, e1, e3, e4, e5, e6, e7, e8, e10, e12, e13, e14] := by
  intro q hq
  refine N q ?_
  simp only [List.mem_cons, List.not_mem_nil, or_false] at hq ⊢
  rcases hq with h | h | h | h | h | h | h | h | h | h | h | h <;> simp [h]
theorem calmCW : True := by
  w_top off
  trivial
theorem cw0 : PySem.Challenge.rw_pb0333_01.Holds := by
  w_on
  refine holds_law said0 fun _ => ?_
  refine holds_open (q := qv) (loose := []) (Xt := X0) (XP := XL qv []) (Yf := H0.obs) (Ya := H0.val) (YP := H0.says) (N := 3368) left0 H0.of H0.keeps (fun s e => xl_of s (Bool.and_eq_true_iff.mp e).1) XL.keeps (by rfl) (by rfl) (by rfl) (fun s e => recFacts_of (Bool.and_eq_true_iff.mp e).2) (by rfl) (by first | assumption | decide +kernel) (by decide +kernel) ⟨rfl, rfl, rfl, rfl, rfl, by decide +kernel⟩ ?hw ?hc
  case hw => w_witness2
  k_go0
  all_goals try k_fold
  k_steps
  unfold Stop
  (rename MemIs _ _ _ => lM)
  (rename IntsAre _ (tailAt _ _) => lT)
  simp only [show ∀ a : Int, 1024 + a - 1024 = a from fun a => by omega] at lT
  (rename News _ _ _ _ => lN)
  have lN5 := pick12 lN
  refine wpAny_noRaise ?_
  refine seg5 (by k_asm) (by k_asm) (by first | k_asm | assumption) (by k_asm) lN5 ?g0 ?g1 ?hc1 ?hc2 (by assumption) ?a1 ?a2 ?a3 ?a4 ?a5 ?a6 ?a7 ?a8 ?a9 ?low ?los (by assumption) (by assumption) ?hx ?hb0 ?hb1 lM lT ⟨_, by assumption, by assumption⟩ ?hM0 ?hM1 ?hQ
  case hc1 => assumption
  case hc2 => assumption
  case low => assumption
  case los => assumption
  case hx => assumption
  case hb0 => assumption
  case hb1 => assumption
  case g0 => omega
  case g1 => omega
  case hM0 => (unfold upd; rw [if_neg (by decide), if_pos rfl]; omega)
  case hM1 => (unfold upd; rw [if_pos (by decide)])
  case a1 => (simp only [Nat.lt_iff_add_one_le] at *; omega)
  case a2 => (simp only [Nat.lt_iff_add_one_le] at *; omega)
  case a3 => (simp only [Nat.lt_iff_add_one_le] at *; omega)
  case a4 => (simp only [Nat.lt_iff_add_one_le] at *; omega)
  case a5 => (simp only [Nat.lt_iff_add_one_le] at *; omega)
  case a6 => (simp only [Nat.lt_iff_add_one_le] at *; omega)
  case a7 => (simp only [Nat.lt_iff_add_one_le] at *; omega)
  case a8 => (simp only [Nat.lt_iff_add_one_le] at *; omega)
  case a9 => (simp only [Nat.lt_iff_add_one_le] at *; omega)
  case hQ =>
    intro h tk m' FF
    k_steps

end
end
end
end
end
end
end
end
end
end
end
end
end
end
end
end
end
end
end
end
end
end
end
end
end
end Mine
theorem PySem.Challenge.cw_pb0333_01_holds : PySem.Challenge.rw_pb0333_01.Holds := by
  exact Mine.cw0
