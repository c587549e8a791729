import PyProof.Rows.All
import Wide.All
import OpenK.AllK
import Wide.FinOn
import Lean
import PySem.Challenge.RW_pf0273_01
open PySem PySem.W PyProof.Rows PySem.Calls PyProof.V PySem.Spec
set_option Elab.async false
set_option rowWalk.seconds 0
set_option linter.all false
set_option compiler.extract_closed false
namespace Mine
/-! the head: the program, its defs by place in the text -/
noncomputable abbrev pg : Program := PySem.Challenge.rw_pf0273_01.row.toRowW.1
noncomputable def sB (i : Nat) : Stmt := (pg.main.body[i]?).getD (.Pass ⟨0, 0, 0, 0⟩)
noncomputable def sC (i j : Nat) : Stmt := match sB i with
  | .ClassDef _ _ _ b _ _ _ _ _ _ _ => (b[j]?).getD (.Pass ⟨0, 0, 0, 0⟩)
  | s => s
noncomputable def fD (s : Stmt) (q : String) (gl : Addr) (cl : List (Str × Addr)) (d k doc pm : Value) (an : Option Addr) (cd ct : Value) (bi : Addr) : FuncData := match s with
  | .FunctionDef n a b _ _ _ sc _ _ _ => ⟨n, Str.ofString q, a, .stmts b, sc, gl, cl, d, k, doc, pm, an, cd, ct, bi⟩
  | _ => default
abbrev sN (s : String) : Str := Str.ofString s
noncomputable abbrev dE (P : Params) (k : String) (t : Tok) (v : Value) : DictEntry := ⟨PyData.keyHash P (Str.ofString k), .str (Str.ofString k) t, v⟩
noncomputable abbrev lf (o : Obj) : BT := .node o .nil .nil
noncomputable def eT : Env := { scope := pg.main.scope, locals := mainNs, globals := mainNs, cells := [], code := .ref 13, frame := some 14 }
noncomputable abbrev bT : List Stmt := behindTheImports pg
noncomputable def l1 : List Stmt := bT.take 10
noncomputable def l2 : List Stmt := (bT.drop 10).take 1
noncomputable def l3 : List Stmt := (bT.drop 11).take 1
noncomputable def l4 : List Stmt := (bT.drop 12).take 8
noncomputable def l5 : List Stmt := (bT.drop 20).take 1
noncomputable def l6 : List Stmt := bT.drop 21
noncomputable def qV : Program := PySem.W.view pg [0, 2, 4, 6, 7, 8, 9, 10, 11, 13, 14, 15, 17, 18, 19, 20, 21, 23, 24]
noncomputable abbrev kAs : List Addr := [2, 3, 15, 17, 18, 20, 21, 22, 25, 26, 27, 34, 36, 37, 39, 40, 41, 42, 43, 44, 54, 56, 57, 59, 60, 61, 63, 64, 66, 67, 68, 70, 71, 73, 74, 75, 77, 78, 80, 81, 82, 84, 85, 87, 88, 89, 91, 92, 94, 95, 96, 98, 99, 101, 102, 103, 105, 106, 108, 109, 110, 112, 113, 115, 116, 117, 119, 120, 122, 123, 124, 125, 126, 127, 128, 138, 140, 141, 143, 144, 145, 147, 148, 150, 151, 152, 154, 155, 157, 158, 159, 161, 162, 164, 165, 166, 168, 169, 171, 172, 173, 175, 176, 178, 179, 180, 182, 183, 185, 186, 187, 189, 190, 192, 193, 194, 196, 197, 199, 200, 201, 203, 204, 206, 207, 208, 210, 211, 213, 214, 215, 217, 218, 220, 221, 222, 224, 225, 227, 228, 229, 231, 232, 234, 235, 236, 239, 240, 241, 242, 243, 244, 245, 248, 250, 251, 253, 254, 255, 257, 258, 260, 261, 262, 265, 266, 267, 275, 277, 278, 280, 281, 282, 284, 285, 287, 288, 289, 291, 292, 294, 295, 296, 298, 299, 301, 302, 303, 305, 306, 308, 309, 310, 312, 313, 315, 316, 317, 319, 320, 322, 323, 324, 326, 327, 329, 330, 331, 333, 334, 336, 337, 338, 340, 341, 343, 344, 345, 347, 348, 350, 351, 352, 354, 355, 357, 358, 359, 361, 362, 364, 365, 366, 368, 369, 371, 372, 373, 375, 376, 378, 379, 380, 382, 383, 385, 386, 387, 389, 390, 392, 393, 394, 396, 397, 399, 400, 401, 403, 404, 406, 407, 408, 409, 410, 411, 412, 415, 417, 418, 420, 421, 422, 424, 425, 427, 428, 429, 432, 433]
-- objects of the heap: what the text's top makes (printed by PrintHead.lean)
noncomputable def o43 (P : Params) : Obj := ⟨(.type "tuple"), none, (.seq #[] 0), #[]⟩
noncomputable def o44 (P : Params) : Obj := ⟨.none, none, (.fields #[]), #[]⟩
noncomputable def o45 (P : Params) : Obj := ⟨(.type "code"), none, (.fields #[(.str (sN "<module>") 182), (.str (sN "<module>") 183), (.str (sN "/claim/cut.py") 184), (.int 1 0), (.int 0 0), (.int 0 0), (.int 0 0), (.int 0 0), (.ref 11), (.bool false), (.int 181 0), (.ref 12), .none, .none, .none, .none, (.int 185 0), (.int 1 0), (.str (sN "/claim/cut.py") 186)]), #[]⟩
noncomputable def o46 (P : Params) : Obj := ⟨(.type "frame"), none, .plain, #[(some (.ref 13)), (some (.ref 3)), (some (.ref 3)), none, (some (.str (sN "__main__") 164)), none, (some (.ref 0))]⟩
noncomputable def o49 (P : Params) : Obj := ⟨.none, none, (.dict #[dE P "type.__subclasses__.Exception.0" 229 (.int 43 0), dE P "type.__subclasses__.Exception.n" 230 (.int 1 0)] 2), #[]⟩
noncomputable def o50 (P : Params) : Obj := ⟨(.type "dict"), none, (.dict #[dE P "__name__" 165 (.str (sN "quic.paths") 233), dE P "__doc__" 166 .none, dE P "__package__" 167 .none, dE P "__loader__" 168 (.builtin "__main__.__loader__#opaque"), dE P "__spec__" 169 .none, dE P "__annotations__" 170 (.ref 6), dE P "__builtins__" 171 (.ref 4), dE P "__file__" 173 (.str (sN "/claim/cut.py") 172), dE P "__cached__" 174 .none, dE P "_wall" 193 (.ref 21), dE P "path_frames" 201 (.ref 26), dE P "PacketRefused" 232 (.ref 43), dE P "PATH_UNPROVEN" 236 (.str (sN "unproven") 235), dE P "PATH_TRYING" 238 (.str (sN "trying") 237), dE P "PATH_PROVEN" 240 (.str (sN "proven") 239), dE P "PATH_FAILED" 242 (.str (sN "failed") 241)] 16), #[]⟩
noncomputable def o51 (P : Params) : Obj := ⟨.none, none, (.fields #[(.int 1 0), (.int 0 0), (.ref 20), (.int 5 0), (.int 0 0), (.ref 25), (.int 18 0), (.int 0 0), (.ref 32)]), #[]⟩
noncomputable def o52 (P : Params) : Obj := ⟨(.type "tuple"), none, (.seq #[] 0), #[]⟩
noncomputable def o53 (P : Params) : Obj := ⟨.none, none, (.fields #[]), #[]⟩
noncomputable def o54 (P : Params) : Obj := ⟨(.type "tuple"), none, (.seq #[(.str (sN "k") 190)] 0), #[]⟩
noncomputable def o55 (P : Params) : Obj := ⟨(.type "tuple"), none, (.seq #[] 0), #[]⟩
noncomputable def o56 (P : Params) : Obj := ⟨.none, none, (.func (fD (sB 0) "_wall" 0 [] .none .none .none .none none .none .none 0)), #[]⟩
noncomputable def o57 (P : Params) : Obj := ⟨(.type "code"), none, (.fields #[(.str (sN "_wall") 187), (.str (sN "_wall") 188), (.str (sN "/claim/cut.py") 189), (.int 1 0), (.int 1 0), (.int 0 0), (.int 0 0), (.int 3 0), (.ref 15), (.bool true), (.int 181 0), (.ref 16), .none, (.ref 17), (.ref 18), (.ref 19), (.int 191 0), (.int 1 0), (.str (sN "/claim/cut.py") 192)]), #[]⟩
noncomputable def o58 (P : Params) : Obj := ⟨(.type "function"), none, (.func (fD (sB 0) "_wall" 3 [] .none .none .none (.str (sN "__main__") 164) none (.ref 20) .none 0)), #[]⟩
noncomputable def o59 (P : Params) : Obj := ⟨(.type "tuple"), none, (.seq #[] 0), #[]⟩
noncomputable def o60 (P : Params) : Obj := ⟨.none, none, (.fields #[]), #[]⟩
noncomputable def o61 (P : Params) : Obj := ⟨.none, none, (.func (fD (sB 2) "path_frames" 0 [] .none .none .none .none none .none .none 0)), #[]⟩
noncomputable def o62 (P : Params) : Obj := ⟨(.type "code"), none, (.fields #[(.str (sN "path_frames") 196), (.str (sN "path_frames") 197), (.str (sN "/claim/cut.py") 198), (.int 5 0), (.int 2 0), (.int 0 0), (.int 0 0), (.int 3 0), (.ref 22), (.bool true), (.int 181 0), (.ref 23), .none, .none, .none, (.ref 24), (.int 199 0), (.int 5 0), (.str (sN "/claim/cut.py") 200)]), #[]⟩
noncomputable def o63 (P : Params) : Obj := ⟨(.type "function"), none, (.func (fD (sB 2) "path_frames" 3 [] .none .none .none (.str (sN "quic.connout") 194) none (.ref 25) .none 0)), #[]⟩
noncomputable def o64 (P : Params) : Obj := ⟨(.type "tuple"), none, (.seq #[(.type "Exception")] 0), #[]⟩
noncomputable def o65 (P : Params) : Obj := ⟨(.type "builtin_function_or_method"), none, (.fields #[(.builtin "type.__prepare__"), (.type "type")]), #[]⟩
noncomputable def o66 (P : Params) : Obj := ⟨(.type "dict"), none, (.dict #[dE P "__module__" 211 (.str (sN "quic.errors") 202), dE P "__qualname__" 213 (.str (sN "PacketRefused") 212), dE P "__firstlineno__" 215 (.int 18 214), dE P "__init__" 223 (.ref 40), dE P "__static_attributes__" 225 (.ref 41)] 5), #[]⟩
noncomputable def o67 (P : Params) : Obj := ⟨(.type "tuple"), none, (.seq #[] 0), #[]⟩
noncomputable def o68 (P : Params) : Obj := ⟨.none, none, (.fields #[(.int 20 0), (.int 4 0), (.ref 39)]), #[]⟩
noncomputable def o69 (P : Params) : Obj := ⟨(.type "code"), none, (.fields #[(.str (sN "PacketRefused") 206), (.str (sN "PacketRefused") 207), (.str (sN "/claim/cut.py") 208), (.int 18 0), (.int 0 0), (.int 0 0), (.int 0 0), (.int 0 0), (.ref 30), (.bool false), (.int 181 0), (.ref 31), .none, .none, .none, .none, (.int 209 0), (.int 18 0), (.str (sN "/claim/cut.py") 210)]), #[]⟩
noncomputable def o70 (P : Params) : Obj := ⟨(.type "frame"), none, .plain, #[(some (.ref 32)), (some (.ref 3)), (some (.ref 29)), none, (some (.str (sN "quic.errors") 202)), none, (some (.ref 0))]⟩
noncomputable def o71 (P : Params) : Obj := ⟨(.type "tuple"), none, (.seq #[] 0), #[]⟩
noncomputable def o72 (P : Params) : Obj := ⟨.none, none, (.fields #[]), #[]⟩
noncomputable def o73 (P : Params) : Obj := ⟨(.type "tuple"), none, (.seq #[(.str (sN "self") 219), (.str (sN "text") 220)] 0), #[]⟩
noncomputable def o74 (P : Params) : Obj := ⟨(.type "tuple"), none, (.seq #[] 0), #[]⟩
noncomputable def o75 (P : Params) : Obj := ⟨.none, none, (.func (fD (sC 4 0) "PacketRefused.__init__" 0 [] .none .none .none .none none .none .none 0)), #[]⟩
noncomputable def o76 (P : Params) : Obj := ⟨(.type "code"), none, (.fields #[(.str (sN "__init__") 216), (.str (sN "PacketRefused.__init__") 217), (.str (sN "/claim/cut.py") 218), (.int 20 0), (.int 2 0), (.int 0 0), (.int 0 0), (.int 3 0), (.ref 34), (.bool true), (.int 181 0), (.ref 35), .none, (.ref 36), (.ref 37), (.ref 38), (.int 221 0), (.int 20 0), (.str (sN "/claim/cut.py") 222)]), #[]⟩
noncomputable def o77 (P : Params) : Obj := ⟨(.type "function"), none, (.func (fD (sC 4 0) "PacketRefused.__init__" 3 [] .none .none .none (.str (sN "quic.errors") 202) none (.ref 39) .none 0)), #[]⟩
noncomputable def o78 (P : Params) : Obj := ⟨(.type "tuple"), none, (.seq #[(.str (sN "text") 224)] 0), #[]⟩
noncomputable def o79 (P : Params) : Obj := ⟨(.type "dict"), none, (.dict #[dE P "__module__" 211 (.str (sN "quic.errors") 202), dE P "__firstlineno__" 215 (.int 18 214), dE P "__init__" 223 (.ref 40), dE P "__static_attributes__" 225 (.ref 41), dE P "__weakref__" 227 (.ref 44), dE P "__doc__" 228 .none] 3), #[]⟩
noncomputable def o80 (P : Params) : Obj := ⟨(.type "type"), none, (.cls ⟨(sN "PacketRefused"), [(.type "Exception")], [(.ref 43), (.type "Exception"), (.type "BaseException"), (.type "object")], 42, (sN "PacketRefused"), true, [], [], false, none, false⟩), #[(some (.ref 27)), none, (some (.str (sN "PacketRefused") 204)), (some (.str (sN "PacketRefused") 212)), (some (.builtin "Exception.__new__")), (some (.bool true))]⟩
noncomputable def o81 (P : Params) : Obj := ⟨(.type "getset_descriptor"), none, (.fields #[(.str (sN "__weakref__") 226), (.ref 43), (.builtin "ExceptionGroup.__weakref__"), .none]), #[]⟩
noncomputable def o82 (P : Params) : Obj := ⟨(.type "super"), none, (.fields #[(.ref 43), (.ref 43), (.ref 43)]), #[]⟩
noncomputable def o83 (P : Params) : Obj := ⟨(.type "builtin_function_or_method"), none, (.fields #[(.builtin "object.__init_subclass__"), (.ref 43)]), #[]⟩
noncomputable def o84 (P : Params) : Obj := ⟨(.type "dict"), none, (.dict #[dE P "__name__" 165 (.str (sN "quic.paths") 233), dE P "__doc__" 166 .none, dE P "__package__" 167 .none, dE P "__loader__" 168 (.builtin "__main__.__loader__#opaque"), dE P "__spec__" 169 .none, dE P "__annotations__" 170 (.ref 6), dE P "__builtins__" 171 (.ref 4), dE P "__file__" 173 (.str (sN "/claim/cut.py") 172), dE P "__cached__" 174 .none, dE P "_wall" 193 (.ref 21), dE P "path_frames" 201 (.ref 26), dE P "PacketRefused" 232 (.ref 43), dE P "PATH_UNPROVEN" 236 (.str (sN "unproven") 235), dE P "PATH_TRYING" 238 (.str (sN "trying") 237), dE P "PATH_PROVEN" 240 (.str (sN "proven") 239), dE P "PATH_FAILED" 242 (.str (sN "failed") 241), dE P "Path" 348 (.ref 126)] 17), #[]⟩
noncomputable def o85 (P : Params) : Obj := ⟨.none, none, (.fields #[(.int 1 0), (.int 0 0), (.ref 20), (.int 5 0), (.int 0 0), (.ref 25), (.int 18 0), (.int 0 0), (.ref 32), (.int 28 0), (.int 0 0), (.ref 52)]), #[]⟩
noncomputable def o86 (P : Params) : Obj := ⟨(.type "tuple"), none, (.seq #[] 0), #[]⟩
noncomputable def o87 (P : Params) : Obj := ⟨(.type "builtin_function_or_method"), none, (.fields #[(.builtin "type.__prepare__"), (.type "type")]), #[]⟩
noncomputable def o88 (P : Params) : Obj := ⟨(.type "dict"), none, (.dict #[dE P "__module__" 250 (.str (sN "quic.paths") 233), dE P "__qualname__" 252 (.str (sN "Path") 251), dE P "__firstlineno__" 254 (.int 28 253), dE P "__init__" 263 (.ref 60), dE P "is_proven" 270 (.ref 67), dE P "room" 277 (.ref 74), dE P "may_send" 285 (.ref 81), dE P "on_received" 293 (.ref 88), dE P "on_sent" 301 (.ref 95), dE P "prove" 308 (.ref 102), dE P "challenge" 318 (.ref 109), dE P "fail" 325 (.ref 116), dE P "renew" 332 (.ref 123), dE P "__static_attributes__" 341 (.ref 124)] 14), #[]⟩
noncomputable def o89 (P : Params) : Obj := ⟨(.type "tuple"), none, (.seq #[] 0), #[]⟩
noncomputable def o90 (P : Params) : Obj := ⟨.none, none, (.fields #[(.int 30 0), (.int 4 0), (.ref 59), (.int 40 0), (.int 4 0), (.ref 66), (.int 43 0), (.int 4 0), (.ref 73), (.int 46 0), (.int 4 0), (.ref 80), (.int 49 0), (.int 4 0), (.ref 87), (.int 52 0), (.int 4 0), (.ref 94), (.int 55 0), (.int 4 0), (.ref 101), (.int 62 0), (.int 4 0), (.ref 108), (.int 70 0), (.int 4 0), (.ref 115), (.int 77 0), (.int 4 0), (.ref 122)]), #[]⟩
noncomputable def o91 (P : Params) : Obj := ⟨(.type "code"), none, (.fields #[(.str (sN "Path") 245), (.str (sN "Path") 246), (.str (sN "/claim/cut.py") 247), (.int 28 0), (.int 0 0), (.int 0 0), (.int 0 0), (.int 0 0), (.ref 50), (.bool false), (.int 181 0), (.ref 51), .none, .none, .none, .none, (.int 248 0), (.int 28 0), (.str (sN "/claim/cut.py") 249)]), #[]⟩
noncomputable def o92 (P : Params) : Obj := ⟨(.type "frame"), none, .plain, #[(some (.ref 52)), (some (.ref 3)), (some (.ref 49)), none, (some (.str (sN "quic.paths") 233)), none, (some (.ref 0))]⟩
noncomputable def o93 (P : Params) : Obj := ⟨(.type "tuple"), none, (.seq #[] 0), #[]⟩
noncomputable def o94 (P : Params) : Obj := ⟨.none, none, (.fields #[]), #[]⟩
noncomputable def o95 (P : Params) : Obj := ⟨(.type "tuple"), none, (.seq #[(.str (sN "self") 258), (.str (sN "address") 259), (.str (sN "is_proven") 260)] 0), #[]⟩
noncomputable def o96 (P : Params) : Obj := ⟨(.type "tuple"), none, (.seq #[] 0), #[]⟩
noncomputable def o97 (P : Params) : Obj := ⟨.none, none, (.func (fD (sC 10 0) "Path.__init__" 0 [] .none .none .none .none none .none .none 0)), #[]⟩
noncomputable def o98 (P : Params) : Obj := ⟨(.type "code"), none, (.fields #[(.str (sN "__init__") 255), (.str (sN "Path.__init__") 256), (.str (sN "/claim/cut.py") 257), (.int 30 0), (.int 3 0), (.int 0 0), (.int 0 0), (.int 3 0), (.ref 54), (.bool true), (.int 181 0), (.ref 55), .none, (.ref 56), (.ref 57), (.ref 58), (.int 261 0), (.int 30 0), (.str (sN "/claim/cut.py") 262)]), #[]⟩
noncomputable def o99 (P : Params) : Obj := ⟨(.type "function"), none, (.func (fD (sC 10 0) "Path.__init__" 3 [] .none .none .none (.str (sN "quic.paths") 233) none (.ref 59) .none 0)), #[]⟩
noncomputable def o100 (P : Params) : Obj := ⟨(.type "tuple"), none, (.seq #[] 0), #[]⟩
noncomputable def o101 (P : Params) : Obj := ⟨.none, none, (.fields #[]), #[]⟩
noncomputable def o102 (P : Params) : Obj := ⟨(.type "tuple"), none, (.seq #[(.str (sN "self") 267)] 0), #[]⟩
noncomputable def o103 (P : Params) : Obj := ⟨(.type "tuple"), none, (.seq #[] 0), #[]⟩
noncomputable def o104 (P : Params) : Obj := ⟨.none, none, (.func (fD (sC 10 1) "Path.is_proven" 0 [] .none .none .none .none none .none .none 0)), #[]⟩
noncomputable def o105 (P : Params) : Obj := ⟨(.type "code"), none, (.fields #[(.str (sN "is_proven") 264), (.str (sN "Path.is_proven") 265), (.str (sN "/claim/cut.py") 266), (.int 40 0), (.int 1 0), (.int 0 0), (.int 0 0), (.int 3 0), (.ref 61), (.bool true), (.int 181 0), (.ref 62), .none, (.ref 63), (.ref 64), (.ref 65), (.int 268 0), (.int 40 0), (.str (sN "/claim/cut.py") 269)]), #[]⟩
noncomputable def o106 (P : Params) : Obj := ⟨(.type "function"), none, (.func (fD (sC 10 1) "Path.is_proven" 3 [] .none .none .none (.str (sN "quic.paths") 233) none (.ref 66) .none 0)), #[]⟩
noncomputable def o107 (P : Params) : Obj := ⟨(.type "tuple"), none, (.seq #[] 0), #[]⟩
noncomputable def o108 (P : Params) : Obj := ⟨.none, none, (.fields #[]), #[]⟩
noncomputable def o109 (P : Params) : Obj := ⟨(.type "tuple"), none, (.seq #[(.str (sN "self") 274)] 0), #[]⟩
noncomputable def o110 (P : Params) : Obj := ⟨(.type "tuple"), none, (.seq #[] 0), #[]⟩
noncomputable def o111 (P : Params) : Obj := ⟨.none, none, (.func (fD (sC 10 2) "Path.room" 0 [] .none .none .none .none none .none .none 0)), #[]⟩
noncomputable def o112 (P : Params) : Obj := ⟨(.type "code"), none, (.fields #[(.str (sN "room") 271), (.str (sN "Path.room") 272), (.str (sN "/claim/cut.py") 273), (.int 43 0), (.int 1 0), (.int 0 0), (.int 0 0), (.int 3 0), (.ref 68), (.bool true), (.int 181 0), (.ref 69), .none, (.ref 70), (.ref 71), (.ref 72), (.int 275 0), (.int 43 0), (.str (sN "/claim/cut.py") 276)]), #[]⟩
noncomputable def o113 (P : Params) : Obj := ⟨(.type "function"), none, (.func (fD (sC 10 2) "Path.room" 3 [] .none .none .none (.str (sN "quic.paths") 233) none (.ref 73) .none 0)), #[]⟩
noncomputable def o114 (P : Params) : Obj := ⟨(.type "tuple"), none, (.seq #[] 0), #[]⟩
noncomputable def o115 (P : Params) : Obj := ⟨.none, none, (.fields #[]), #[]⟩
noncomputable def o116 (P : Params) : Obj := ⟨(.type "tuple"), none, (.seq #[(.str (sN "self") 281), (.str (sN "size") 282)] 0), #[]⟩
noncomputable def o117 (P : Params) : Obj := ⟨(.type "tuple"), none, (.seq #[] 0), #[]⟩
noncomputable def o118 (P : Params) : Obj := ⟨.none, none, (.func (fD (sC 10 3) "Path.may_send" 0 [] .none .none .none .none none .none .none 0)), #[]⟩
noncomputable def o119 (P : Params) : Obj := ⟨(.type "code"), none, (.fields #[(.str (sN "may_send") 278), (.str (sN "Path.may_send") 279), (.str (sN "/claim/cut.py") 280), (.int 46 0), (.int 2 0), (.int 0 0), (.int 0 0), (.int 3 0), (.ref 75), (.bool true), (.int 181 0), (.ref 76), .none, (.ref 77), (.ref 78), (.ref 79), (.int 283 0), (.int 46 0), (.str (sN "/claim/cut.py") 284)]), #[]⟩
noncomputable def o120 (P : Params) : Obj := ⟨(.type "function"), none, (.func (fD (sC 10 3) "Path.may_send" 3 [] .none .none .none (.str (sN "quic.paths") 233) none (.ref 80) .none 0)), #[]⟩
noncomputable def o121 (P : Params) : Obj := ⟨(.type "tuple"), none, (.seq #[] 0), #[]⟩
noncomputable def o122 (P : Params) : Obj := ⟨.none, none, (.fields #[]), #[]⟩
noncomputable def o123 (P : Params) : Obj := ⟨(.type "tuple"), none, (.seq #[(.str (sN "self") 289), (.str (sN "size") 290)] 0), #[]⟩
noncomputable def o124 (P : Params) : Obj := ⟨(.type "tuple"), none, (.seq #[] 0), #[]⟩
noncomputable def o125 (P : Params) : Obj := ⟨.none, none, (.func (fD (sC 10 4) "Path.on_received" 0 [] .none .none .none .none none .none .none 0)), #[]⟩
noncomputable def o126 (P : Params) : Obj := ⟨(.type "code"), none, (.fields #[(.str (sN "on_received") 286), (.str (sN "Path.on_received") 287), (.str (sN "/claim/cut.py") 288), (.int 49 0), (.int 2 0), (.int 0 0), (.int 0 0), (.int 3 0), (.ref 82), (.bool true), (.int 181 0), (.ref 83), .none, (.ref 84), (.ref 85), (.ref 86), (.int 291 0), (.int 49 0), (.str (sN "/claim/cut.py") 292)]), #[]⟩
noncomputable def o127 (P : Params) : Obj := ⟨(.type "function"), none, (.func (fD (sC 10 4) "Path.on_received" 3 [] .none .none .none (.str (sN "quic.paths") 233) none (.ref 87) .none 0)), #[]⟩
noncomputable def o128 (P : Params) : Obj := ⟨(.type "tuple"), none, (.seq #[] 0), #[]⟩
noncomputable def o129 (P : Params) : Obj := ⟨.none, none, (.fields #[]), #[]⟩
noncomputable def o130 (P : Params) : Obj := ⟨(.type "tuple"), none, (.seq #[(.str (sN "self") 297), (.str (sN "size") 298)] 0), #[]⟩
noncomputable def o131 (P : Params) : Obj := ⟨(.type "tuple"), none, (.seq #[] 0), #[]⟩
noncomputable def o132 (P : Params) : Obj := ⟨.none, none, (.func (fD (sC 10 5) "Path.on_sent" 0 [] .none .none .none .none none .none .none 0)), #[]⟩
noncomputable def o133 (P : Params) : Obj := ⟨(.type "code"), none, (.fields #[(.str (sN "on_sent") 294), (.str (sN "Path.on_sent") 295), (.str (sN "/claim/cut.py") 296), (.int 52 0), (.int 2 0), (.int 0 0), (.int 0 0), (.int 3 0), (.ref 89), (.bool true), (.int 181 0), (.ref 90), .none, (.ref 91), (.ref 92), (.ref 93), (.int 299 0), (.int 52 0), (.str (sN "/claim/cut.py") 300)]), #[]⟩
noncomputable def o134 (P : Params) : Obj := ⟨(.type "function"), none, (.func (fD (sC 10 5) "Path.on_sent" 3 [] .none .none .none (.str (sN "quic.paths") 233) none (.ref 94) .none 0)), #[]⟩
noncomputable def o135 (P : Params) : Obj := ⟨(.type "tuple"), none, (.seq #[] 0), #[]⟩
noncomputable def o136 (P : Params) : Obj := ⟨.none, none, (.fields #[]), #[]⟩
noncomputable def o137 (P : Params) : Obj := ⟨(.type "tuple"), none, (.seq #[(.str (sN "self") 305)] 0), #[]⟩
noncomputable def o138 (P : Params) : Obj := ⟨(.type "tuple"), none, (.seq #[] 0), #[]⟩
noncomputable def o139 (P : Params) : Obj := ⟨.none, none, (.func (fD (sC 10 6) "Path.prove" 0 [] .none .none .none .none none .none .none 0)), #[]⟩
noncomputable def o140 (P : Params) : Obj := ⟨(.type "code"), none, (.fields #[(.str (sN "prove") 302), (.str (sN "Path.prove") 303), (.str (sN "/claim/cut.py") 304), (.int 55 0), (.int 1 0), (.int 0 0), (.int 0 0), (.int 3 0), (.ref 96), (.bool true), (.int 181 0), (.ref 97), .none, (.ref 98), (.ref 99), (.ref 100), (.int 306 0), (.int 55 0), (.str (sN "/claim/cut.py") 307)]), #[]⟩
noncomputable def o141 (P : Params) : Obj := ⟨(.type "function"), none, (.func (fD (sC 10 6) "Path.prove" 3 [] .none .none .none (.str (sN "quic.paths") 233) none (.ref 101) .none 0)), #[]⟩
noncomputable def o142 (P : Params) : Obj := ⟨(.type "tuple"), none, (.seq #[] 0), #[]⟩
noncomputable def o143 (P : Params) : Obj := ⟨.none, none, (.fields #[]), #[]⟩
noncomputable def o144 (P : Params) : Obj := ⟨(.type "tuple"), none, (.seq #[(.str (sN "self") 312), (.str (sN "data") 313), (.str (sN "now") 314), (.str (sN "wait") 315)] 0), #[]⟩
noncomputable def o145 (P : Params) : Obj := ⟨(.type "tuple"), none, (.seq #[] 0), #[]⟩
noncomputable def o146 (P : Params) : Obj := ⟨.none, none, (.func (fD (sC 10 7) "Path.challenge" 0 [] .none .none .none .none none .none .none 0)), #[]⟩
noncomputable def o147 (P : Params) : Obj := ⟨(.type "code"), none, (.fields #[(.str (sN "challenge") 309), (.str (sN "Path.challenge") 310), (.str (sN "/claim/cut.py") 311), (.int 62 0), (.int 4 0), (.int 0 0), (.int 0 0), (.int 3 0), (.ref 103), (.bool true), (.int 181 0), (.ref 104), .none, (.ref 105), (.ref 106), (.ref 107), (.int 316 0), (.int 62 0), (.str (sN "/claim/cut.py") 317)]), #[]⟩
noncomputable def o148 (P : Params) : Obj := ⟨(.type "function"), none, (.func (fD (sC 10 7) "Path.challenge" 3 [] .none .none .none (.str (sN "quic.paths") 233) none (.ref 108) .none 0)), #[]⟩
noncomputable def o149 (P : Params) : Obj := ⟨(.type "tuple"), none, (.seq #[] 0), #[]⟩
noncomputable def o150 (P : Params) : Obj := ⟨.none, none, (.fields #[]), #[]⟩
noncomputable def o151 (P : Params) : Obj := ⟨(.type "tuple"), none, (.seq #[(.str (sN "self") 322)] 0), #[]⟩
noncomputable def o152 (P : Params) : Obj := ⟨(.type "tuple"), none, (.seq #[] 0), #[]⟩
noncomputable def o153 (P : Params) : Obj := ⟨.none, none, (.func (fD (sC 10 8) "Path.fail" 0 [] .none .none .none .none none .none .none 0)), #[]⟩
noncomputable def o154 (P : Params) : Obj := ⟨(.type "code"), none, (.fields #[(.str (sN "fail") 319), (.str (sN "Path.fail") 320), (.str (sN "/claim/cut.py") 321), (.int 70 0), (.int 1 0), (.int 0 0), (.int 0 0), (.int 3 0), (.ref 110), (.bool true), (.int 181 0), (.ref 111), .none, (.ref 112), (.ref 113), (.ref 114), (.int 323 0), (.int 70 0), (.str (sN "/claim/cut.py") 324)]), #[]⟩
noncomputable def o155 (P : Params) : Obj := ⟨(.type "function"), none, (.func (fD (sC 10 8) "Path.fail" 3 [] .none .none .none (.str (sN "quic.paths") 233) none (.ref 115) .none 0)), #[]⟩
noncomputable def o156 (P : Params) : Obj := ⟨(.type "tuple"), none, (.seq #[] 0), #[]⟩
noncomputable def o157 (P : Params) : Obj := ⟨.none, none, (.fields #[]), #[]⟩
noncomputable def o158 (P : Params) : Obj := ⟨(.type "tuple"), none, (.seq #[(.str (sN "self") 329)] 0), #[]⟩
noncomputable def o159 (P : Params) : Obj := ⟨(.type "tuple"), none, (.seq #[] 0), #[]⟩
noncomputable def o160 (P : Params) : Obj := ⟨.none, none, (.func (fD (sC 10 9) "Path.renew" 0 [] .none .none .none .none none .none .none 0)), #[]⟩
noncomputable def o161 (P : Params) : Obj := ⟨(.type "code"), none, (.fields #[(.str (sN "renew") 326), (.str (sN "Path.renew") 327), (.str (sN "/claim/cut.py") 328), (.int 77 0), (.int 1 0), (.int 0 0), (.int 0 0), (.int 3 0), (.ref 117), (.bool true), (.int 181 0), (.ref 118), .none, (.ref 119), (.ref 120), (.ref 121), (.int 330 0), (.int 77 0), (.str (sN "/claim/cut.py") 331)]), #[]⟩
noncomputable def o162 (P : Params) : Obj := ⟨(.type "function"), none, (.func (fD (sC 10 9) "Path.renew" 3 [] .none .none .none (.str (sN "quic.paths") 233) none (.ref 122) .none 0)), #[]⟩
noncomputable def o163 (P : Params) : Obj := ⟨(.type "tuple"), none, (.seq #[(.str (sN "address") 333), (.str (sN "challenges") 334), (.str (sN "deadline") 335), (.str (sN "is_free") 336), (.str (sN "received") 337), (.str (sN "sent") 338), (.str (sN "state") 339), (.str (sN "wants_more") 340)] 0), #[]⟩
noncomputable def o164 (P : Params) : Obj := ⟨(.type "dict"), none, (.dict #[dE P "__module__" 250 (.str (sN "quic.paths") 233), dE P "__firstlineno__" 254 (.int 28 253), dE P "__init__" 263 (.ref 60), dE P "is_proven" 270 (.ref 67), dE P "room" 277 (.ref 74), dE P "may_send" 285 (.ref 81), dE P "on_received" 293 (.ref 88), dE P "on_sent" 301 (.ref 95), dE P "prove" 308 (.ref 102), dE P "challenge" 318 (.ref 109), dE P "fail" 325 (.ref 116), dE P "renew" 332 (.ref 123), dE P "__static_attributes__" 341 (.ref 124), dE P "__dict__" 343 (.ref 127), dE P "__weakref__" 345 (.ref 128), dE P "__doc__" 346 .none] 4), #[]⟩
noncomputable def o165 (P : Params) : Obj := ⟨(.type "type"), none, (.cls ⟨(sN "Path"), [(.type "object")], [(.ref 126), (.type "object")], 125, (sN "Path"), true, [], [], false, none, false⟩), #[none, none, (some (.str (sN "Path") 243)), (some (.str (sN "Path") 251)), (some (.builtin "object.__new__")), (some (.bool true))]⟩
noncomputable def o166 (P : Params) : Obj := ⟨(.type "getset_descriptor"), none, (.fields #[(.str (sN "__dict__") 342), (.ref 126), (.builtin "function.__dict__"), (.builtin "function.__dict__#set")]), #[]⟩
noncomputable def o167 (P : Params) : Obj := ⟨(.type "getset_descriptor"), none, (.fields #[(.str (sN "__weakref__") 344), (.ref 126), (.builtin "ExceptionGroup.__weakref__"), .none]), #[]⟩
noncomputable def o168 (P : Params) : Obj := ⟨(.type "super"), none, (.fields #[(.ref 126), (.ref 126), (.ref 126)]), #[]⟩
noncomputable def o169 (P : Params) : Obj := ⟨(.type "builtin_function_or_method"), none, (.fields #[(.builtin "object.__init_subclass__"), (.ref 126)]), #[]⟩
noncomputable def o170 (P : Params) : Obj := ⟨(.type "dict"), none, (.dict #[dE P "__name__" 165 (.str (sN "quic.paths") 233), dE P "__doc__" 166 .none, dE P "__package__" 167 .none, dE P "__loader__" 168 (.builtin "__main__.__loader__#opaque"), dE P "__spec__" 169 .none, dE P "__annotations__" 170 (.ref 6), dE P "__builtins__" 171 (.ref 4), dE P "__file__" 173 (.str (sN "/claim/cut.py") 172), dE P "__cached__" 174 .none, dE P "_wall" 193 (.ref 21), dE P "path_frames" 201 (.ref 26), dE P "PacketRefused" 232 (.ref 43), dE P "PATH_UNPROVEN" 236 (.str (sN "unproven") 235), dE P "PATH_TRYING" 238 (.str (sN "trying") 237), dE P "PATH_PROVEN" 240 (.str (sN "proven") 239), dE P "PATH_FAILED" 242 (.str (sN "failed") 241), dE P "Path" 348 (.ref 126), dE P "Paths" 503 (.ref 243)] 18), #[]⟩
noncomputable def o171 (P : Params) : Obj := ⟨.none, none, (.fields #[(.int 1 0), (.int 0 0), (.ref 20), (.int 5 0), (.int 0 0), (.ref 25), (.int 18 0), (.int 0 0), (.ref 32), (.int 28 0), (.int 0 0), (.ref 52), (.int 80 0), (.int 0 0), (.ref 136)]), #[]⟩
noncomputable def o172 (P : Params) : Obj := ⟨(.type "tuple"), none, (.seq #[] 0), #[]⟩
noncomputable def o173 (P : Params) : Obj := ⟨(.type "builtin_function_or_method"), none, (.fields #[(.builtin "type.__prepare__"), (.type "type")]), #[]⟩
noncomputable def o174 (P : Params) : Obj := ⟨(.type "dict"), none, (.dict #[dE P "__module__" 356 (.str (sN "quic.paths") 233), dE P "__qualname__" 358 (.str (sN "Paths") 357), dE P "__firstlineno__" 360 (.int 80 359), dE P "__init__" 371 (.ref 144), dE P "path_of" 380 (.ref 151), dE P "opened" 389 (.ref 158), dE P "on_datagram" 399 (.ref 165), dE P "on_packet" 411 (.ref 172), dE P "move_to" 419 (.ref 179), dE P "take_challenge" 428 (.ref 186), dE P "next_answer" 435 (.ref 193), dE P "wants_challenge" 443 (.ref 200), dE P "ask_again" 450 (.ref 207), dE P "on_challenge_lost" 458 (.ref 214), dE P "take_response" 467 (.ref 221), dE P "on_handshake_packet" 475 (.ref 228), dE P "next_time" 482 (.ref 235), dE P "on_time" 488 (.ref 240), dE P "__static_attributes__" 496 (.ref 241)] 19), #[]⟩
noncomputable def o175 (P : Params) : Obj := ⟨(.type "tuple"), none, (.seq #[] 0), #[]⟩
noncomputable def o176 (P : Params) : Obj := ⟨.none, none, (.fields #[(.int 82 0), (.int 4 0), (.ref 143), (.int 91 0), (.int 4 0), (.ref 150), (.int 97 0), (.int 4 0), (.ref 157), (.int 104 0), (.int 4 0), (.ref 164), (.int 111 0), (.int 4 0), (.ref 171), (.int 123 0), (.int 4 0), (.ref 178), (.int 126 0), (.int 4 0), (.ref 185), (.int 129 0), (.int 4 0), (.ref 192), (.int 132 0), (.int 4 0), (.ref 199), (.int 136 0), (.int 4 0), (.ref 206), (.int 139 0), (.int 4 0), (.ref 213), (.int 142 0), (.int 4 0), (.ref 220), (.int 151 0), (.int 4 0), (.ref 227), (.int 154 0), (.int 4 0), (.ref 234), (.int 157 0), (.int 4 0), (.ref 239)]), #[]⟩
noncomputable def o177 (P : Params) : Obj := ⟨(.type "code"), none, (.fields #[(.str (sN "Paths") 351), (.str (sN "Paths") 352), (.str (sN "/claim/cut.py") 353), (.int 80 0), (.int 0 0), (.int 0 0), (.int 0 0), (.int 0 0), (.ref 134), (.bool false), (.int 181 0), (.ref 135), .none, .none, .none, .none, (.int 354 0), (.int 80 0), (.str (sN "/claim/cut.py") 355)]), #[]⟩
noncomputable def o178 (P : Params) : Obj := ⟨(.type "frame"), none, .plain, #[(some (.ref 136)), (some (.ref 3)), (some (.ref 133)), none, (some (.str (sN "quic.paths") 233)), none, (some (.ref 0))]⟩
noncomputable def o179 (P : Params) : Obj := ⟨(.type "tuple"), none, (.seq #[] 0), #[]⟩
noncomputable def o180 (P : Params) : Obj := ⟨.none, none, (.fields #[]), #[]⟩
noncomputable def o181 (P : Params) : Obj := ⟨(.type "tuple"), none, (.seq #[(.str (sN "self") 364), (.str (sN "role") 365), (.str (sN "address") 366), (.str (sN "is_proven") 367), (.str (sN "may_move") 368)] 0), #[]⟩
noncomputable def o182 (P : Params) : Obj := ⟨(.type "tuple"), none, (.seq #[] 0), #[]⟩
noncomputable def o183 (P : Params) : Obj := ⟨.none, none, (.func (fD (sC 11 0) "Paths.__init__" 0 [] .none .none .none .none none .none .none 0)), #[]⟩
noncomputable def o184 (P : Params) : Obj := ⟨(.type "code"), none, (.fields #[(.str (sN "__init__") 361), (.str (sN "Paths.__init__") 362), (.str (sN "/claim/cut.py") 363), (.int 82 0), (.int 5 0), (.int 0 0), (.int 0 0), (.int 3 0), (.ref 138), (.bool true), (.int 181 0), (.ref 139), .none, (.ref 140), (.ref 141), (.ref 142), (.int 369 0), (.int 82 0), (.str (sN "/claim/cut.py") 370)]), #[]⟩
noncomputable def o185 (P : Params) : Obj := ⟨(.type "function"), none, (.func (fD (sC 11 0) "Paths.__init__" 3 [] .none .none .none (.str (sN "quic.paths") 233) none (.ref 143) .none 0)), #[]⟩
noncomputable def o186 (P : Params) : Obj := ⟨(.type "tuple"), none, (.seq #[] 0), #[]⟩
noncomputable def o187 (P : Params) : Obj := ⟨.none, none, (.fields #[]), #[]⟩
noncomputable def o188 (P : Params) : Obj := ⟨(.type "tuple"), none, (.seq #[(.str (sN "self") 375), (.str (sN "address") 376), (.str (sN "path") 377)] 0), #[]⟩
noncomputable def o189 (P : Params) : Obj := ⟨(.type "tuple"), none, (.seq #[] 0), #[]⟩
noncomputable def o190 (P : Params) : Obj := ⟨.none, none, (.func (fD (sC 11 1) "Paths.path_of" 0 [] .none .none .none .none none .none .none 0)), #[]⟩
noncomputable def o191 (P : Params) : Obj := ⟨(.type "code"), none, (.fields #[(.str (sN "path_of") 372), (.str (sN "Paths.path_of") 373), (.str (sN "/claim/cut.py") 374), (.int 91 0), (.int 2 0), (.int 0 0), (.int 0 0), (.int 3 0), (.ref 145), (.bool true), (.int 181 0), (.ref 146), .none, (.ref 147), (.ref 148), (.ref 149), (.int 378 0), (.int 91 0), (.str (sN "/claim/cut.py") 379)]), #[]⟩
noncomputable def o192 (P : Params) : Obj := ⟨(.type "function"), none, (.func (fD (sC 11 1) "Paths.path_of" 3 [] .none .none .none (.str (sN "quic.paths") 233) none (.ref 150) .none 0)), #[]⟩
noncomputable def o193 (P : Params) : Obj := ⟨(.type "tuple"), none, (.seq #[] 0), #[]⟩
noncomputable def o194 (P : Params) : Obj := ⟨.none, none, (.fields #[]), #[]⟩
noncomputable def o195 (P : Params) : Obj := ⟨(.type "tuple"), none, (.seq #[(.str (sN "self") 384), (.str (sN "address") 385), (.str (sN "found") 386)] 0), #[]⟩
noncomputable def o196 (P : Params) : Obj := ⟨(.type "tuple"), none, (.seq #[] 0), #[]⟩
noncomputable def o197 (P : Params) : Obj := ⟨.none, none, (.func (fD (sC 11 2) "Paths.opened" 0 [] .none .none .none .none none .none .none 0)), #[]⟩
noncomputable def o198 (P : Params) : Obj := ⟨(.type "code"), none, (.fields #[(.str (sN "opened") 381), (.str (sN "Paths.opened") 382), (.str (sN "/claim/cut.py") 383), (.int 97 0), (.int 2 0), (.int 0 0), (.int 0 0), (.int 3 0), (.ref 152), (.bool true), (.int 181 0), (.ref 153), .none, (.ref 154), (.ref 155), (.ref 156), (.int 387 0), (.int 97 0), (.str (sN "/claim/cut.py") 388)]), #[]⟩
noncomputable def o199 (P : Params) : Obj := ⟨(.type "function"), none, (.func (fD (sC 11 2) "Paths.opened" 3 [] .none .none .none (.str (sN "quic.paths") 233) none (.ref 157) .none 0)), #[]⟩
noncomputable def o200 (P : Params) : Obj := ⟨(.type "tuple"), none, (.seq #[] 0), #[]⟩
noncomputable def o201 (P : Params) : Obj := ⟨.none, none, (.fields #[]), #[]⟩
noncomputable def o202 (P : Params) : Obj := ⟨(.type "tuple"), none, (.seq #[(.str (sN "self") 393), (.str (sN "address") 394), (.str (sN "size") 395), (.str (sN "path") 396)] 0), #[]⟩
noncomputable def o203 (P : Params) : Obj := ⟨(.type "tuple"), none, (.seq #[] 0), #[]⟩
noncomputable def o204 (P : Params) : Obj := ⟨.none, none, (.func (fD (sC 11 3) "Paths.on_datagram" 0 [] .none .none .none .none none .none .none 0)), #[]⟩
noncomputable def o205 (P : Params) : Obj := ⟨(.type "code"), none, (.fields #[(.str (sN "on_datagram") 390), (.str (sN "Paths.on_datagram") 391), (.str (sN "/claim/cut.py") 392), (.int 104 0), (.int 3 0), (.int 0 0), (.int 0 0), (.int 3 0), (.ref 159), (.bool true), (.int 181 0), (.ref 160), .none, (.ref 161), (.ref 162), (.ref 163), (.int 397 0), (.int 104 0), (.str (sN "/claim/cut.py") 398)]), #[]⟩
noncomputable def o206 (P : Params) : Obj := ⟨(.type "function"), none, (.func (fD (sC 11 3) "Paths.on_datagram" 3 [] .none .none .none (.str (sN "quic.paths") 233) none (.ref 164) .none 0)), #[]⟩
noncomputable def o207 (P : Params) : Obj := ⟨(.type "tuple"), none, (.seq #[] 0), #[]⟩
noncomputable def o208 (P : Params) : Obj := ⟨.none, none, (.fields #[]), #[]⟩
noncomputable def o209 (P : Params) : Obj := ⟨(.type "tuple"), none, (.seq #[(.str (sN "self") 403), (.str (sN "address") 404), (.str (sN "number") 405), (.str (sN "is_probing") 406), (.str (sN "is_newest") 407), (.str (sN "path") 408)] 0), #[]⟩
noncomputable def o210 (P : Params) : Obj := ⟨(.type "tuple"), none, (.seq #[] 0), #[]⟩
noncomputable def o211 (P : Params) : Obj := ⟨.none, none, (.func (fD (sC 11 4) "Paths.on_packet" 0 [] .none .none .none .none none .none .none 0)), #[]⟩
noncomputable def o212 (P : Params) : Obj := ⟨(.type "code"), none, (.fields #[(.str (sN "on_packet") 400), (.str (sN "Paths.on_packet") 401), (.str (sN "/claim/cut.py") 402), (.int 111 0), (.int 4 0), (.int 0 0), (.int 0 0), (.int 3 0), (.ref 166), (.bool true), (.int 181 0), (.ref 167), .none, (.ref 168), (.ref 169), (.ref 170), (.int 409 0), (.int 111 0), (.str (sN "/claim/cut.py") 410)]), #[]⟩
noncomputable def o213 (P : Params) : Obj := ⟨(.type "function"), none, (.func (fD (sC 11 4) "Paths.on_packet" 3 [] .none .none .none (.str (sN "quic.paths") 233) none (.ref 171) .none 0)), #[]⟩
noncomputable def o214 (P : Params) : Obj := ⟨(.type "tuple"), none, (.seq #[] 0), #[]⟩
noncomputable def o215 (P : Params) : Obj := ⟨.none, none, (.fields #[]), #[]⟩
noncomputable def o216 (P : Params) : Obj := ⟨(.type "tuple"), none, (.seq #[(.str (sN "self") 415), (.str (sN "address") 416)] 0), #[]⟩
noncomputable def o217 (P : Params) : Obj := ⟨(.type "tuple"), none, (.seq #[] 0), #[]⟩
noncomputable def o218 (P : Params) : Obj := ⟨.none, none, (.func (fD (sC 11 5) "Paths.move_to" 0 [] .none .none .none .none none .none .none 0)), #[]⟩
noncomputable def o219 (P : Params) : Obj := ⟨(.type "code"), none, (.fields #[(.str (sN "move_to") 412), (.str (sN "Paths.move_to") 413), (.str (sN "/claim/cut.py") 414), (.int 123 0), (.int 2 0), (.int 0 0), (.int 0 0), (.int 3 0), (.ref 173), (.bool true), (.int 181 0), (.ref 174), .none, (.ref 175), (.ref 176), (.ref 177), (.int 417 0), (.int 123 0), (.str (sN "/claim/cut.py") 418)]), #[]⟩
noncomputable def o220 (P : Params) : Obj := ⟨(.type "function"), none, (.func (fD (sC 11 5) "Paths.move_to" 3 [] .none .none .none (.str (sN "quic.paths") 233) none (.ref 178) .none 0)), #[]⟩
noncomputable def o221 (P : Params) : Obj := ⟨(.type "tuple"), none, (.seq #[] 0), #[]⟩
noncomputable def o222 (P : Params) : Obj := ⟨.none, none, (.fields #[]), #[]⟩
noncomputable def o223 (P : Params) : Obj := ⟨(.type "tuple"), none, (.seq #[(.str (sN "self") 423), (.str (sN "address") 424), (.str (sN "data") 425)] 0), #[]⟩
noncomputable def o224 (P : Params) : Obj := ⟨(.type "tuple"), none, (.seq #[] 0), #[]⟩
noncomputable def o225 (P : Params) : Obj := ⟨.none, none, (.func (fD (sC 11 6) "Paths.take_challenge" 0 [] .none .none .none .none none .none .none 0)), #[]⟩
noncomputable def o226 (P : Params) : Obj := ⟨(.type "code"), none, (.fields #[(.str (sN "take_challenge") 420), (.str (sN "Paths.take_challenge") 421), (.str (sN "/claim/cut.py") 422), (.int 126 0), (.int 3 0), (.int 0 0), (.int 0 0), (.int 3 0), (.ref 180), (.bool true), (.int 181 0), (.ref 181), .none, (.ref 182), (.ref 183), (.ref 184), (.int 426 0), (.int 126 0), (.str (sN "/claim/cut.py") 427)]), #[]⟩
noncomputable def o227 (P : Params) : Obj := ⟨(.type "function"), none, (.func (fD (sC 11 6) "Paths.take_challenge" 3 [] .none .none .none (.str (sN "quic.paths") 233) none (.ref 185) .none 0)), #[]⟩
noncomputable def o228 (P : Params) : Obj := ⟨(.type "tuple"), none, (.seq #[] 0), #[]⟩
noncomputable def o229 (P : Params) : Obj := ⟨.none, none, (.fields #[]), #[]⟩
noncomputable def o230 (P : Params) : Obj := ⟨(.type "tuple"), none, (.seq #[(.str (sN "self") 432)] 0), #[]⟩
noncomputable def o231 (P : Params) : Obj := ⟨(.type "tuple"), none, (.seq #[] 0), #[]⟩
noncomputable def o232 (P : Params) : Obj := ⟨.none, none, (.func (fD (sC 11 7) "Paths.next_answer" 0 [] .none .none .none .none none .none .none 0)), #[]⟩
noncomputable def o233 (P : Params) : Obj := ⟨(.type "code"), none, (.fields #[(.str (sN "next_answer") 429), (.str (sN "Paths.next_answer") 430), (.str (sN "/claim/cut.py") 431), (.int 129 0), (.int 1 0), (.int 0 0), (.int 0 0), (.int 3 0), (.ref 187), (.bool true), (.int 181 0), (.ref 188), .none, (.ref 189), (.ref 190), (.ref 191), (.int 433 0), (.int 129 0), (.str (sN "/claim/cut.py") 434)]), #[]⟩
noncomputable def o234 (P : Params) : Obj := ⟨(.type "function"), none, (.func (fD (sC 11 7) "Paths.next_answer" 3 [] .none .none .none (.str (sN "quic.paths") 233) none (.ref 192) .none 0)), #[]⟩
noncomputable def o235 (P : Params) : Obj := ⟨(.type "tuple"), none, (.seq #[] 0), #[]⟩
noncomputable def o236 (P : Params) : Obj := ⟨.none, none, (.fields #[]), #[]⟩
noncomputable def o237 (P : Params) : Obj := ⟨(.type "tuple"), none, (.seq #[(.str (sN "self") 439), (.str (sN "is_tried") 440)] 0), #[]⟩
noncomputable def o238 (P : Params) : Obj := ⟨(.type "tuple"), none, (.seq #[] 0), #[]⟩
noncomputable def o239 (P : Params) : Obj := ⟨.none, none, (.func (fD (sC 11 8) "Paths.wants_challenge" 0 [] .none .none .none .none none .none .none 0)), #[]⟩
noncomputable def o240 (P : Params) : Obj := ⟨(.type "code"), none, (.fields #[(.str (sN "wants_challenge") 436), (.str (sN "Paths.wants_challenge") 437), (.str (sN "/claim/cut.py") 438), (.int 132 0), (.int 1 0), (.int 0 0), (.int 0 0), (.int 3 0), (.ref 194), (.bool true), (.int 181 0), (.ref 195), .none, (.ref 196), (.ref 197), (.ref 198), (.int 441 0), (.int 132 0), (.str (sN "/claim/cut.py") 442)]), #[]⟩
noncomputable def o241 (P : Params) : Obj := ⟨(.type "function"), none, (.func (fD (sC 11 8) "Paths.wants_challenge" 3 [] .none .none .none (.str (sN "quic.paths") 233) none (.ref 199) .none 0)), #[]⟩
noncomputable def o242 (P : Params) : Obj := ⟨(.type "tuple"), none, (.seq #[] 0), #[]⟩
noncomputable def o243 (P : Params) : Obj := ⟨.none, none, (.fields #[]), #[]⟩
noncomputable def o244 (P : Params) : Obj := ⟨(.type "tuple"), none, (.seq #[(.str (sN "self") 447)] 0), #[]⟩
noncomputable def o245 (P : Params) : Obj := ⟨(.type "tuple"), none, (.seq #[] 0), #[]⟩
noncomputable def o246 (P : Params) : Obj := ⟨.none, none, (.func (fD (sC 11 9) "Paths.ask_again" 0 [] .none .none .none .none none .none .none 0)), #[]⟩
noncomputable def o247 (P : Params) : Obj := ⟨(.type "code"), none, (.fields #[(.str (sN "ask_again") 444), (.str (sN "Paths.ask_again") 445), (.str (sN "/claim/cut.py") 446), (.int 136 0), (.int 1 0), (.int 0 0), (.int 0 0), (.int 3 0), (.ref 201), (.bool true), (.int 181 0), (.ref 202), .none, (.ref 203), (.ref 204), (.ref 205), (.int 448 0), (.int 136 0), (.str (sN "/claim/cut.py") 449)]), #[]⟩
noncomputable def o248 (P : Params) : Obj := ⟨(.type "function"), none, (.func (fD (sC 11 9) "Paths.ask_again" 3 [] .none .none .none (.str (sN "quic.paths") 233) none (.ref 206) .none 0)), #[]⟩
noncomputable def o249 (P : Params) : Obj := ⟨(.type "tuple"), none, (.seq #[] 0), #[]⟩
noncomputable def o250 (P : Params) : Obj := ⟨.none, none, (.fields #[]), #[]⟩
noncomputable def o251 (P : Params) : Obj := ⟨(.type "tuple"), none, (.seq #[(.str (sN "self") 454), (.str (sN "data") 455)] 0), #[]⟩
noncomputable def o252 (P : Params) : Obj := ⟨(.type "tuple"), none, (.seq #[] 0), #[]⟩
noncomputable def o253 (P : Params) : Obj := ⟨.none, none, (.func (fD (sC 11 10) "Paths.on_challenge_lost" 0 [] .none .none .none .none none .none .none 0)), #[]⟩
noncomputable def o254 (P : Params) : Obj := ⟨(.type "code"), none, (.fields #[(.str (sN "on_challenge_lost") 451), (.str (sN "Paths.on_challenge_lost") 452), (.str (sN "/claim/cut.py") 453), (.int 139 0), (.int 2 0), (.int 0 0), (.int 0 0), (.int 3 0), (.ref 208), (.bool true), (.int 181 0), (.ref 209), .none, (.ref 210), (.ref 211), (.ref 212), (.int 456 0), (.int 139 0), (.str (sN "/claim/cut.py") 457)]), #[]⟩
noncomputable def o255 (P : Params) : Obj := ⟨(.type "function"), none, (.func (fD (sC 11 10) "Paths.on_challenge_lost" 3 [] .none .none .none (.str (sN "quic.paths") 233) none (.ref 213) .none 0)), #[]⟩
noncomputable def o256 (P : Params) : Obj := ⟨(.type "tuple"), none, (.seq #[] 0), #[]⟩
noncomputable def o257 (P : Params) : Obj := ⟨.none, none, (.fields #[]), #[]⟩
noncomputable def o258 (P : Params) : Obj := ⟨(.type "tuple"), none, (.seq #[(.str (sN "self") 462), (.str (sN "data") 463), (.str (sN "path") 464)] 0), #[]⟩
noncomputable def o259 (P : Params) : Obj := ⟨(.type "tuple"), none, (.seq #[] 0), #[]⟩
noncomputable def o260 (P : Params) : Obj := ⟨.none, none, (.func (fD (sC 11 11) "Paths.take_response" 0 [] .none .none .none .none none .none .none 0)), #[]⟩
noncomputable def o261 (P : Params) : Obj := ⟨(.type "code"), none, (.fields #[(.str (sN "take_response") 459), (.str (sN "Paths.take_response") 460), (.str (sN "/claim/cut.py") 461), (.int 142 0), (.int 2 0), (.int 0 0), (.int 0 0), (.int 3 0), (.ref 215), (.bool true), (.int 181 0), (.ref 216), .none, (.ref 217), (.ref 218), (.ref 219), (.int 465 0), (.int 142 0), (.str (sN "/claim/cut.py") 466)]), #[]⟩
noncomputable def o262 (P : Params) : Obj := ⟨(.type "function"), none, (.func (fD (sC 11 11) "Paths.take_response" 3 [] .none .none .none (.str (sN "quic.paths") 233) none (.ref 220) .none 0)), #[]⟩
noncomputable def o263 (P : Params) : Obj := ⟨(.type "tuple"), none, (.seq #[] 0), #[]⟩
noncomputable def o264 (P : Params) : Obj := ⟨.none, none, (.fields #[]), #[]⟩
noncomputable def o265 (P : Params) : Obj := ⟨(.type "tuple"), none, (.seq #[(.str (sN "self") 471), (.str (sN "address") 472)] 0), #[]⟩
noncomputable def o266 (P : Params) : Obj := ⟨(.type "tuple"), none, (.seq #[] 0), #[]⟩
noncomputable def o267 (P : Params) : Obj := ⟨.none, none, (.func (fD (sC 11 12) "Paths.on_handshake_packet" 0 [] .none .none .none .none none .none .none 0)), #[]⟩
noncomputable def o268 (P : Params) : Obj := ⟨(.type "code"), none, (.fields #[(.str (sN "on_handshake_packet") 468), (.str (sN "Paths.on_handshake_packet") 469), (.str (sN "/claim/cut.py") 470), (.int 151 0), (.int 2 0), (.int 0 0), (.int 0 0), (.int 3 0), (.ref 222), (.bool true), (.int 181 0), (.ref 223), .none, (.ref 224), (.ref 225), (.ref 226), (.int 473 0), (.int 151 0), (.str (sN "/claim/cut.py") 474)]), #[]⟩
noncomputable def o269 (P : Params) : Obj := ⟨(.type "function"), none, (.func (fD (sC 11 12) "Paths.on_handshake_packet" 3 [] .none .none .none (.str (sN "quic.paths") 233) none (.ref 227) .none 0)), #[]⟩
noncomputable def o270 (P : Params) : Obj := ⟨(.type "tuple"), none, (.seq #[] 0), #[]⟩
noncomputable def o271 (P : Params) : Obj := ⟨.none, none, (.fields #[]), #[]⟩
noncomputable def o272 (P : Params) : Obj := ⟨(.type "tuple"), none, (.seq #[(.str (sN "self") 479)] 0), #[]⟩
noncomputable def o273 (P : Params) : Obj := ⟨(.type "tuple"), none, (.seq #[] 0), #[]⟩
noncomputable def o274 (P : Params) : Obj := ⟨.none, none, (.func (fD (sC 11 13) "Paths.next_time" 0 [] .none .none .none .none none .none .none 0)), #[]⟩
noncomputable def o275 (P : Params) : Obj := ⟨(.type "code"), none, (.fields #[(.str (sN "next_time") 476), (.str (sN "Paths.next_time") 477), (.str (sN "/claim/cut.py") 478), (.int 154 0), (.int 1 0), (.int 0 0), (.int 0 0), (.int 3 0), (.ref 229), (.bool true), (.int 181 0), (.ref 230), .none, (.ref 231), (.ref 232), (.ref 233), (.int 480 0), (.int 154 0), (.str (sN "/claim/cut.py") 481)]), #[]⟩
noncomputable def o276 (P : Params) : Obj := ⟨(.type "function"), none, (.func (fD (sC 11 13) "Paths.next_time" 3 [] .none .none .none (.str (sN "quic.paths") 233) none (.ref 234) .none 0)), #[]⟩
noncomputable def o277 (P : Params) : Obj := ⟨(.type "tuple"), none, (.seq #[] 0), #[]⟩
noncomputable def o278 (P : Params) : Obj := ⟨.none, none, (.fields #[]), #[]⟩
noncomputable def o279 (P : Params) : Obj := ⟨.none, none, (.func (fD (sC 11 14) "Paths.on_time" 0 [] .none .none .none .none none .none .none 0)), #[]⟩
noncomputable def o280 (P : Params) : Obj := ⟨(.type "code"), none, (.fields #[(.str (sN "on_time") 483), (.str (sN "Paths.on_time") 484), (.str (sN "/claim/cut.py") 485), (.int 157 0), (.int 2 0), (.int 0 0), (.int 0 0), (.int 3 0), (.ref 236), (.bool true), (.int 181 0), (.ref 237), .none, .none, .none, (.ref 238), (.int 486 0), (.int 157 0), (.str (sN "/claim/cut.py") 487)]), #[]⟩
noncomputable def o281 (P : Params) : Obj := ⟨(.type "function"), none, (.func (fD (sC 11 14) "Paths.on_time" 3 [] .none .none .none (.str (sN "quic.paths") 233) none (.ref 239) .none 0)), #[]⟩
noncomputable def o282 (P : Params) : Obj := ⟨(.type "tuple"), none, (.seq #[(.str (sN "active") 489), (.str (sN "answers") 490), (.str (sN "highest") 491), (.str (sN "known") 492), (.str (sN "last_proven") 493), (.str (sN "may_move") 494), (.str (sN "role") 495)] 0), #[]⟩
noncomputable def o283 (P : Params) : Obj := ⟨(.type "dict"), none, (.dict #[dE P "__module__" 356 (.str (sN "quic.paths") 233), dE P "__firstlineno__" 360 (.int 80 359), dE P "__init__" 371 (.ref 144), dE P "path_of" 380 (.ref 151), dE P "opened" 389 (.ref 158), dE P "on_datagram" 399 (.ref 165), dE P "on_packet" 411 (.ref 172), dE P "move_to" 419 (.ref 179), dE P "take_challenge" 428 (.ref 186), dE P "next_answer" 435 (.ref 193), dE P "wants_challenge" 443 (.ref 200), dE P "ask_again" 450 (.ref 207), dE P "on_challenge_lost" 458 (.ref 214), dE P "take_response" 467 (.ref 221), dE P "on_handshake_packet" 475 (.ref 228), dE P "next_time" 482 (.ref 235), dE P "on_time" 488 (.ref 240), dE P "__static_attributes__" 496 (.ref 241), dE P "__dict__" 498 (.ref 244), dE P "__weakref__" 500 (.ref 245), dE P "__doc__" 501 .none] 4), #[]⟩
noncomputable def o284 (P : Params) : Obj := ⟨(.type "type"), none, (.cls ⟨(sN "Paths"), [(.type "object")], [(.ref 243), (.type "object")], 242, (sN "Paths"), true, [], [], false, none, false⟩), #[none, none, (some (.str (sN "Paths") 349)), (some (.str (sN "Paths") 357)), (some (.builtin "object.__new__")), (some (.bool true))]⟩
noncomputable def o285 (P : Params) : Obj := ⟨(.type "getset_descriptor"), none, (.fields #[(.str (sN "__dict__") 497), (.ref 243), (.builtin "function.__dict__"), (.builtin "function.__dict__#set")]), #[]⟩
noncomputable def o286 (P : Params) : Obj := ⟨(.type "getset_descriptor"), none, (.fields #[(.str (sN "__weakref__") 499), (.ref 243), (.builtin "ExceptionGroup.__weakref__"), .none]), #[]⟩
noncomputable def o287 (P : Params) : Obj := ⟨(.type "super"), none, (.fields #[(.ref 243), (.ref 243), (.ref 243)]), #[]⟩
noncomputable def o288 (P : Params) : Obj := ⟨(.type "builtin_function_or_method"), none, (.fields #[(.builtin "object.__init_subclass__"), (.ref 243)]), #[]⟩
noncomputable def o376 (P : Params) : Obj := ⟨(.type "dict"), none, (.dict #[dE P "__name__" 165 (.str (sN "quic.spaces") 532), dE P "__doc__" 166 .none, dE P "__package__" 167 .none, dE P "__loader__" 168 (.builtin "__main__.__loader__#opaque"), dE P "__spec__" 169 .none, dE P "__annotations__" 170 (.ref 6), dE P "__builtins__" 171 (.ref 4), dE P "__file__" 173 (.str (sN "/claim/cut.py") 172), dE P "__cached__" 174 .none, dE P "_wall" 193 (.ref 21), dE P "path_frames" 201 (.ref 26), dE P "PacketRefused" 232 (.ref 43), dE P "PATH_UNPROVEN" 236 (.str (sN "unproven") 235), dE P "PATH_TRYING" 238 (.str (sN "trying") 237), dE P "PATH_PROVEN" 240 (.str (sN "proven") 239), dE P "PATH_FAILED" 242 (.str (sN "failed") 241), dE P "Path" 348 (.ref 126), dE P "Paths" 503 (.ref 243), dE P "add_number" 513 (.ref 254), dE P "add_range" 525 (.ref 261), dE P "prune" 531 (.ref 266), dE P "KEPT_RANGES" 535 (.int 64 534), dE P "ACK_EACH" 537 (.int 2 536), dE P "ECN_PLACES" 541 (.ref 267)] 24), #[]⟩
noncomputable def o377 (P : Params) : Obj := ⟨.none, none, (.fields #[(.int 1 0), (.int 0 0), (.ref 20), (.int 5 0), (.int 0 0), (.ref 25), (.int 18 0), (.int 0 0), (.ref 32), (.int 28 0), (.int 0 0), (.ref 52), (.int 80 0), (.int 0 0), (.ref 136), (.int 172 0), (.int 0 0), (.ref 253), (.int 174 0), (.int 0 0), (.ref 260), (.int 187 0), (.int 0 0), (.ref 265)]), #[]⟩
noncomputable def o378 (P : Params) : Obj := ⟨(.type "tuple"), none, (.seq #[] 0), #[]⟩
noncomputable def o379 (P : Params) : Obj := ⟨.none, none, (.fields #[]), #[]⟩
noncomputable def o380 (P : Params) : Obj := ⟨(.type "tuple"), none, (.seq #[(.str (sN "ranges") 509), (.str (sN "n") 510)] 0), #[]⟩
noncomputable def o381 (P : Params) : Obj := ⟨(.type "tuple"), none, (.seq #[] 0), #[]⟩
noncomputable def o382 (P : Params) : Obj := ⟨.none, none, (.func (fD (sB 13) "add_number" 0 [] .none .none .none .none none .none .none 0)), #[]⟩
noncomputable def o383 (P : Params) : Obj := ⟨(.type "code"), none, (.fields #[(.str (sN "add_number") 506), (.str (sN "add_number") 507), (.str (sN "/claim/cut.py") 508), (.int 172 0), (.int 2 0), (.int 0 0), (.int 0 0), (.int 3 0), (.ref 248), (.bool true), (.int 181 0), (.ref 249), .none, (.ref 250), (.ref 251), (.ref 252), (.int 511 0), (.int 172 0), (.str (sN "/claim/cut.py") 512)]), #[]⟩
noncomputable def o384 (P : Params) : Obj := ⟨(.type "function"), none, (.func (fD (sB 13) "add_number" 3 [] .none .none .none (.str (sN "quic.ranges") 504) none (.ref 253) .none 0)), #[]⟩
noncomputable def o385 (P : Params) : Obj := ⟨(.type "tuple"), none, (.seq #[] 0), #[]⟩
noncomputable def o386 (P : Params) : Obj := ⟨.none, none, (.fields #[]), #[]⟩
noncomputable def o387 (P : Params) : Obj := ⟨(.type "tuple"), none, (.seq #[(.str (sN "ranges") 517), (.str (sN "low") 518), (.str (sN "high") 519), (.str (sN "found") 520), (.str (sN "is_in") 521), (.str (sN "one") 522)] 0), #[]⟩
noncomputable def o388 (P : Params) : Obj := ⟨(.type "tuple"), none, (.seq #[] 0), #[]⟩
noncomputable def o389 (P : Params) : Obj := ⟨.none, none, (.func (fD (sB 14) "add_range" 0 [] .none .none .none .none none .none .none 0)), #[]⟩
noncomputable def o390 (P : Params) : Obj := ⟨(.type "code"), none, (.fields #[(.str (sN "add_range") 514), (.str (sN "add_range") 515), (.str (sN "/claim/cut.py") 516), (.int 174 0), (.int 3 0), (.int 0 0), (.int 0 0), (.int 3 0), (.ref 255), (.bool true), (.int 181 0), (.ref 256), .none, (.ref 257), (.ref 258), (.ref 259), (.int 523 0), (.int 174 0), (.str (sN "/claim/cut.py") 524)]), #[]⟩
noncomputable def o391 (P : Params) : Obj := ⟨(.type "function"), none, (.func (fD (sB 14) "add_range" 3 [] .none .none .none (.str (sN "quic.ranges") 504) none (.ref 260) .none 0)), #[]⟩
noncomputable def o392 (P : Params) : Obj := ⟨(.type "tuple"), none, (.seq #[] 0), #[]⟩
noncomputable def o393 (P : Params) : Obj := ⟨.none, none, (.fields #[]), #[]⟩
noncomputable def o394 (P : Params) : Obj := ⟨.none, none, (.func (fD (sB 15) "prune" 0 [] .none .none .none .none none .none .none 0)), #[]⟩
noncomputable def o395 (P : Params) : Obj := ⟨(.type "code"), none, (.fields #[(.str (sN "prune") 526), (.str (sN "prune") 527), (.str (sN "/claim/cut.py") 528), (.int 187 0), (.int 2 0), (.int 0 0), (.int 0 0), (.int 3 0), (.ref 262), (.bool true), (.int 181 0), (.ref 263), .none, .none, .none, (.ref 264), (.int 529 0), (.int 187 0), (.str (sN "/claim/cut.py") 530)]), #[]⟩
noncomputable def o396 (P : Params) : Obj := ⟨(.type "function"), none, (.func (fD (sB 15) "prune" 3 [] .none .none .none (.str (sN "quic.ranges") 504) none (.ref 265) .none 0)), #[]⟩
noncomputable def o397 (P : Params) : Obj := ⟨(.type "tuple"), none, (.seq #[.none, (.int 1 538), (.int 0 539), (.int 2 540)] 0), #[]⟩
noncomputable def o398 (P : Params) : Obj := ⟨(.type "dict"), none, (.dict #[dE P "__name__" 165 (.str (sN "quic.spaces") 532), dE P "__doc__" 166 .none, dE P "__package__" 167 .none, dE P "__loader__" 168 (.builtin "__main__.__loader__#opaque"), dE P "__spec__" 169 .none, dE P "__annotations__" 170 (.ref 6), dE P "__builtins__" 171 (.ref 4), dE P "__file__" 173 (.str (sN "/claim/cut.py") 172), dE P "__cached__" 174 .none, dE P "_wall" 193 (.ref 21), dE P "path_frames" 201 (.ref 26), dE P "PacketRefused" 232 (.ref 43), dE P "PATH_UNPROVEN" 236 (.str (sN "unproven") 235), dE P "PATH_TRYING" 238 (.str (sN "trying") 237), dE P "PATH_PROVEN" 240 (.str (sN "proven") 239), dE P "PATH_FAILED" 242 (.str (sN "failed") 241), dE P "Path" 348 (.ref 126), dE P "Paths" 503 (.ref 243), dE P "add_number" 513 (.ref 254), dE P "add_range" 525 (.ref 261), dE P "prune" 531 (.ref 266), dE P "KEPT_RANGES" 535 (.int 64 534), dE P "ACK_EACH" 537 (.int 2 536), dE P "ECN_PLACES" 541 (.ref 267), dE P "Space" 731 (.ref 410)] 25), #[]⟩
noncomputable def o399 (P : Params) : Obj := ⟨.none, none, (.fields #[(.int 1 0), (.int 0 0), (.ref 20), (.int 5 0), (.int 0 0), (.ref 25), (.int 18 0), (.int 0 0), (.ref 32), (.int 28 0), (.int 0 0), (.ref 52), (.int 80 0), (.int 0 0), (.ref 136), (.int 172 0), (.int 0 0), (.ref 253), (.int 174 0), (.int 0 0), (.ref 260), (.int 187 0), (.int 0 0), (.ref 265), (.int 193 0), (.int 0 0), (.ref 273)]), #[]⟩
noncomputable def o400 (P : Params) : Obj := ⟨(.type "tuple"), none, (.seq #[] 0), #[]⟩
noncomputable def o401 (P : Params) : Obj := ⟨(.type "builtin_function_or_method"), none, (.fields #[(.builtin "type.__prepare__"), (.type "type")]), #[]⟩
noncomputable def o402 (P : Params) : Obj := ⟨(.type "dict"), none, (.dict #[dE P "__module__" 549 (.str (sN "quic.spaces") 532), dE P "__qualname__" 551 (.str (sN "Space") 550), dE P "__firstlineno__" 553 (.int 193 552), dE P "__init__" 561 (.ref 281), dE P "is_known" 569 (.ref 288), dE P "on_received" 582 (.ref 295), dE P "ack_frame" 591 (.ref 302), dE P "on_ack_sent" 598 (.ref 309), dE P "owes_ack" 605 (.ref 316), dE P "take_number" 612 (.ref 323), dE P "on_sent" 623 (.ref 330), dE P "take" 631 (.ref 337), dE P "acked_by" 639 (.ref 344), dE P "note_acked" 647 (.ref 351), dE P "note_ranges" 655 (.ref 358), dE P "is_beyond" 663 (.ref 365), dE P "note_largest" 671 (.ref 372), dE P "eliciting_left" 678 (.ref 379), dE P "bare_numbers" 685 (.ref 386), dE P "octets_out" 692 (.ref 393), dE P "sent_rows" 699 (.ref 400), dE P "forget" 706 (.ref 407), dE P "__static_attributes__" 724 (.ref 408)] 23), #[]⟩
noncomputable def o403 (P : Params) : Obj := ⟨(.type "tuple"), none, (.seq #[] 0), #[]⟩
noncomputable def o404 (P : Params) : Obj := ⟨.none, none, (.fields #[(.int 195 0), (.int 4 0), (.ref 280), (.int 214 0), (.int 4 0), (.ref 287), (.int 217 0), (.int 4 0), (.ref 294), (.int 234 0), (.int 4 0), (.ref 301), (.int 237 0), (.int 4 0), (.ref 308), (.int 240 0), (.int 4 0), (.ref 315), (.int 243 0), (.int 4 0), (.ref 322), (.int 246 0), (.int 4 0), (.ref 329), (.int 249 0), (.int 4 0), (.ref 336), (.int 252 0), (.int 4 0), (.ref 343), (.int 255 0), (.int 4 0), (.ref 350), (.int 258 0), (.int 4 0), (.ref 357), (.int 261 0), (.int 4 0), (.ref 364), (.int 264 0), (.int 4 0), (.ref 371), (.int 267 0), (.int 4 0), (.ref 378), (.int 270 0), (.int 4 0), (.ref 385), (.int 273 0), (.int 4 0), (.ref 392), (.int 276 0), (.int 4 0), (.ref 399), (.int 279 0), (.int 4 0), (.ref 406)]), #[]⟩
noncomputable def o405 (P : Params) : Obj := ⟨(.type "code"), none, (.fields #[(.str (sN "Space") 544), (.str (sN "Space") 545), (.str (sN "/claim/cut.py") 546), (.int 193 0), (.int 0 0), (.int 0 0), (.int 0 0), (.int 0 0), (.ref 271), (.bool false), (.int 181 0), (.ref 272), .none, .none, .none, .none, (.int 547 0), (.int 193 0), (.str (sN "/claim/cut.py") 548)]), #[]⟩
noncomputable def o406 (P : Params) : Obj := ⟨(.type "frame"), none, .plain, #[(some (.ref 273)), (some (.ref 3)), (some (.ref 270)), none, (some (.str (sN "quic.spaces") 532)), none, (some (.ref 0))]⟩
noncomputable def o407 (P : Params) : Obj := ⟨(.type "tuple"), none, (.seq #[] 0), #[]⟩
noncomputable def o408 (P : Params) : Obj := ⟨.none, none, (.fields #[]), #[]⟩
noncomputable def o409 (P : Params) : Obj := ⟨(.type "tuple"), none, (.seq #[(.str (sN "self") 557), (.str (sN "name") 558)] 0), #[]⟩
noncomputable def o410 (P : Params) : Obj := ⟨(.type "tuple"), none, (.seq #[] 0), #[]⟩
noncomputable def o411 (P : Params) : Obj := ⟨.none, none, (.func (fD (sC 20 0) "Space.__init__" 0 [] .none .none .none .none none .none .none 0)), #[]⟩
noncomputable def o412 (P : Params) : Obj := ⟨(.type "code"), none, (.fields #[(.str (sN "__init__") 554), (.str (sN "Space.__init__") 555), (.str (sN "/claim/cut.py") 556), (.int 195 0), (.int 2 0), (.int 0 0), (.int 0 0), (.int 3 0), (.ref 275), (.bool true), (.int 181 0), (.ref 276), .none, (.ref 277), (.ref 278), (.ref 279), (.int 559 0), (.int 195 0), (.str (sN "/claim/cut.py") 560)]), #[]⟩
noncomputable def o413 (P : Params) : Obj := ⟨(.type "function"), none, (.func (fD (sC 20 0) "Space.__init__" 3 [] .none .none .none (.str (sN "quic.spaces") 532) none (.ref 280) .none 0)), #[]⟩
noncomputable def o414 (P : Params) : Obj := ⟨(.type "tuple"), none, (.seq #[] 0), #[]⟩
noncomputable def o415 (P : Params) : Obj := ⟨.none, none, (.fields #[]), #[]⟩
noncomputable def o416 (P : Params) : Obj := ⟨(.type "tuple"), none, (.seq #[(.str (sN "self") 565), (.str (sN "number") 566)] 0), #[]⟩
noncomputable def o417 (P : Params) : Obj := ⟨(.type "tuple"), none, (.seq #[] 0), #[]⟩
noncomputable def o418 (P : Params) : Obj := ⟨.none, none, (.func (fD (sC 20 1) "Space.is_known" 0 [] .none .none .none .none none .none .none 0)), #[]⟩
noncomputable def o419 (P : Params) : Obj := ⟨(.type "code"), none, (.fields #[(.str (sN "is_known") 562), (.str (sN "Space.is_known") 563), (.str (sN "/claim/cut.py") 564), (.int 214 0), (.int 2 0), (.int 0 0), (.int 0 0), (.int 3 0), (.ref 282), (.bool true), (.int 181 0), (.ref 283), .none, (.ref 284), (.ref 285), (.ref 286), (.int 567 0), (.int 214 0), (.str (sN "/claim/cut.py") 568)]), #[]⟩
noncomputable def o420 (P : Params) : Obj := ⟨(.type "function"), none, (.func (fD (sC 20 1) "Space.is_known" 3 [] .none .none .none (.str (sN "quic.spaces") 532) none (.ref 287) .none 0)), #[]⟩
noncomputable def o421 (P : Params) : Obj := ⟨(.type "tuple"), none, (.seq #[] 0), #[]⟩
noncomputable def o422 (P : Params) : Obj := ⟨.none, none, (.fields #[]), #[]⟩
noncomputable def o423 (P : Params) : Obj := ⟨(.type "tuple"), none, (.seq #[(.str (sN "self") 573), (.str (sN "number") 574), (.str (sN "now") 575), (.str (sN "has_eliciting") 576), (.str (sN "mark") 577), (.str (sN "is_gap") 578), (.str (sN "ranges") 579)] 0), #[]⟩
noncomputable def o424 (P : Params) : Obj := ⟨(.type "tuple"), none, (.seq #[] 0), #[]⟩
noncomputable def o425 (P : Params) : Obj := ⟨.none, none, (.func (fD (sC 20 2) "Space.on_received" 0 [] .none .none .none .none none .none .none 0)), #[]⟩
noncomputable def o426 (P : Params) : Obj := ⟨(.type "code"), none, (.fields #[(.str (sN "on_received") 570), (.str (sN "Space.on_received") 571), (.str (sN "/claim/cut.py") 572), (.int 217 0), (.int 5 0), (.int 0 0), (.int 0 0), (.int 3 0), (.ref 289), (.bool true), (.int 181 0), (.ref 290), .none, (.ref 291), (.ref 292), (.ref 293), (.int 580 0), (.int 217 0), (.str (sN "/claim/cut.py") 581)]), #[]⟩
noncomputable def o427 (P : Params) : Obj := ⟨(.type "function"), none, (.func (fD (sC 20 2) "Space.on_received" 3 [] .none .none .none (.str (sN "quic.spaces") 532) none (.ref 294) .none 0)), #[]⟩
noncomputable def o428 (P : Params) : Obj := ⟨(.type "tuple"), none, (.seq #[] 0), #[]⟩
noncomputable def o429 (P : Params) : Obj := ⟨.none, none, (.fields #[]), #[]⟩
noncomputable def o430 (P : Params) : Obj := ⟨(.type "tuple"), none, (.seq #[(.str (sN "self") 586), (.str (sN "now") 587), (.str (sN "exponent") 588)] 0), #[]⟩
noncomputable def o431 (P : Params) : Obj := ⟨(.type "tuple"), none, (.seq #[] 0), #[]⟩
noncomputable def o432 (P : Params) : Obj := ⟨.none, none, (.func (fD (sC 20 3) "Space.ack_frame" 0 [] .none .none .none .none none .none .none 0)), #[]⟩
noncomputable def o433 (P : Params) : Obj := ⟨(.type "code"), none, (.fields #[(.str (sN "ack_frame") 583), (.str (sN "Space.ack_frame") 584), (.str (sN "/claim/cut.py") 585), (.int 234 0), (.int 3 0), (.int 0 0), (.int 0 0), (.int 3 0), (.ref 296), (.bool true), (.int 181 0), (.ref 297), .none, (.ref 298), (.ref 299), (.ref 300), (.int 589 0), (.int 234 0), (.str (sN "/claim/cut.py") 590)]), #[]⟩
noncomputable def o434 (P : Params) : Obj := ⟨(.type "function"), none, (.func (fD (sC 20 3) "Space.ack_frame" 3 [] .none .none .none (.str (sN "quic.spaces") 532) none (.ref 301) .none 0)), #[]⟩
noncomputable def o435 (P : Params) : Obj := ⟨(.type "tuple"), none, (.seq #[] 0), #[]⟩
noncomputable def o436 (P : Params) : Obj := ⟨.none, none, (.fields #[]), #[]⟩
noncomputable def o437 (P : Params) : Obj := ⟨(.type "tuple"), none, (.seq #[(.str (sN "self") 595)] 0), #[]⟩
noncomputable def o438 (P : Params) : Obj := ⟨(.type "tuple"), none, (.seq #[] 0), #[]⟩
noncomputable def o439 (P : Params) : Obj := ⟨.none, none, (.func (fD (sC 20 4) "Space.on_ack_sent" 0 [] .none .none .none .none none .none .none 0)), #[]⟩
noncomputable def o440 (P : Params) : Obj := ⟨(.type "code"), none, (.fields #[(.str (sN "on_ack_sent") 592), (.str (sN "Space.on_ack_sent") 593), (.str (sN "/claim/cut.py") 594), (.int 237 0), (.int 1 0), (.int 0 0), (.int 0 0), (.int 3 0), (.ref 303), (.bool true), (.int 181 0), (.ref 304), .none, (.ref 305), (.ref 306), (.ref 307), (.int 596 0), (.int 237 0), (.str (sN "/claim/cut.py") 597)]), #[]⟩
noncomputable def o441 (P : Params) : Obj := ⟨(.type "function"), none, (.func (fD (sC 20 4) "Space.on_ack_sent" 3 [] .none .none .none (.str (sN "quic.spaces") 532) none (.ref 308) .none 0)), #[]⟩
noncomputable def o442 (P : Params) : Obj := ⟨(.type "tuple"), none, (.seq #[] 0), #[]⟩
noncomputable def o443 (P : Params) : Obj := ⟨.none, none, (.fields #[]), #[]⟩
noncomputable def o444 (P : Params) : Obj := ⟨(.type "tuple"), none, (.seq #[(.str (sN "self") 602)] 0), #[]⟩
noncomputable def o445 (P : Params) : Obj := ⟨(.type "tuple"), none, (.seq #[] 0), #[]⟩
noncomputable def o446 (P : Params) : Obj := ⟨.none, none, (.func (fD (sC 20 5) "Space.owes_ack" 0 [] .none .none .none .none none .none .none 0)), #[]⟩
noncomputable def o447 (P : Params) : Obj := ⟨(.type "code"), none, (.fields #[(.str (sN "owes_ack") 599), (.str (sN "Space.owes_ack") 600), (.str (sN "/claim/cut.py") 601), (.int 240 0), (.int 1 0), (.int 0 0), (.int 0 0), (.int 3 0), (.ref 310), (.bool true), (.int 181 0), (.ref 311), .none, (.ref 312), (.ref 313), (.ref 314), (.int 603 0), (.int 240 0), (.str (sN "/claim/cut.py") 604)]), #[]⟩
noncomputable def o448 (P : Params) : Obj := ⟨(.type "function"), none, (.func (fD (sC 20 5) "Space.owes_ack" 3 [] .none .none .none (.str (sN "quic.spaces") 532) none (.ref 315) .none 0)), #[]⟩
noncomputable def o449 (P : Params) : Obj := ⟨(.type "tuple"), none, (.seq #[] 0), #[]⟩
noncomputable def o450 (P : Params) : Obj := ⟨.none, none, (.fields #[]), #[]⟩
noncomputable def o451 (P : Params) : Obj := ⟨(.type "tuple"), none, (.seq #[(.str (sN "self") 609)] 0), #[]⟩
noncomputable def o452 (P : Params) : Obj := ⟨(.type "tuple"), none, (.seq #[] 0), #[]⟩
noncomputable def o453 (P : Params) : Obj := ⟨.none, none, (.func (fD (sC 20 6) "Space.take_number" 0 [] .none .none .none .none none .none .none 0)), #[]⟩
noncomputable def o454 (P : Params) : Obj := ⟨(.type "code"), none, (.fields #[(.str (sN "take_number") 606), (.str (sN "Space.take_number") 607), (.str (sN "/claim/cut.py") 608), (.int 243 0), (.int 1 0), (.int 0 0), (.int 0 0), (.int 3 0), (.ref 317), (.bool true), (.int 181 0), (.ref 318), .none, (.ref 319), (.ref 320), (.ref 321), (.int 610 0), (.int 243 0), (.str (sN "/claim/cut.py") 611)]), #[]⟩
noncomputable def o455 (P : Params) : Obj := ⟨(.type "function"), none, (.func (fD (sC 20 6) "Space.take_number" 3 [] .none .none .none (.str (sN "quic.spaces") 532) none (.ref 322) .none 0)), #[]⟩
noncomputable def o456 (P : Params) : Obj := ⟨(.type "tuple"), none, (.seq #[] 0), #[]⟩
noncomputable def o457 (P : Params) : Obj := ⟨.none, none, (.fields #[]), #[]⟩
noncomputable def o458 (P : Params) : Obj := ⟨(.type "tuple"), none, (.seq #[(.str (sN "self") 616), (.str (sN "number") 617), (.str (sN "now") 618), (.str (sN "size") 619), (.str (sN "frames") 620)] 0), #[]⟩
noncomputable def o459 (P : Params) : Obj := ⟨(.type "tuple"), none, (.seq #[] 0), #[]⟩
noncomputable def o460 (P : Params) : Obj := ⟨.none, none, (.func (fD (sC 20 7) "Space.on_sent" 0 [] .none .none .none .none none .none .none 0)), #[]⟩
noncomputable def o461 (P : Params) : Obj := ⟨(.type "code"), none, (.fields #[(.str (sN "on_sent") 613), (.str (sN "Space.on_sent") 614), (.str (sN "/claim/cut.py") 615), (.int 246 0), (.int 5 0), (.int 0 0), (.int 0 0), (.int 3 0), (.ref 324), (.bool true), (.int 181 0), (.ref 325), .none, (.ref 326), (.ref 327), (.ref 328), (.int 621 0), (.int 246 0), (.str (sN "/claim/cut.py") 622)]), #[]⟩
noncomputable def o462 (P : Params) : Obj := ⟨(.type "function"), none, (.func (fD (sC 20 7) "Space.on_sent" 3 [] .none .none .none (.str (sN "quic.spaces") 532) none (.ref 329) .none 0)), #[]⟩
noncomputable def o463 (P : Params) : Obj := ⟨(.type "tuple"), none, (.seq #[] 0), #[]⟩
noncomputable def o464 (P : Params) : Obj := ⟨.none, none, (.fields #[]), #[]⟩
noncomputable def o465 (P : Params) : Obj := ⟨(.type "tuple"), none, (.seq #[(.str (sN "self") 627), (.str (sN "numbers") 628)] 0), #[]⟩
noncomputable def o466 (P : Params) : Obj := ⟨(.type "tuple"), none, (.seq #[] 0), #[]⟩
noncomputable def o467 (P : Params) : Obj := ⟨.none, none, (.func (fD (sC 20 8) "Space.take" 0 [] .none .none .none .none none .none .none 0)), #[]⟩
noncomputable def o468 (P : Params) : Obj := ⟨(.type "code"), none, (.fields #[(.str (sN "take") 624), (.str (sN "Space.take") 625), (.str (sN "/claim/cut.py") 626), (.int 249 0), (.int 2 0), (.int 0 0), (.int 0 0), (.int 3 0), (.ref 331), (.bool true), (.int 181 0), (.ref 332), .none, (.ref 333), (.ref 334), (.ref 335), (.int 629 0), (.int 249 0), (.str (sN "/claim/cut.py") 630)]), #[]⟩
noncomputable def o469 (P : Params) : Obj := ⟨(.type "function"), none, (.func (fD (sC 20 8) "Space.take" 3 [] .none .none .none (.str (sN "quic.spaces") 532) none (.ref 336) .none 0)), #[]⟩
noncomputable def o470 (P : Params) : Obj := ⟨(.type "tuple"), none, (.seq #[] 0), #[]⟩
noncomputable def o471 (P : Params) : Obj := ⟨.none, none, (.fields #[]), #[]⟩
noncomputable def o472 (P : Params) : Obj := ⟨(.type "tuple"), none, (.seq #[(.str (sN "self") 635), (.str (sN "ranges") 636)] 0), #[]⟩
noncomputable def o473 (P : Params) : Obj := ⟨(.type "tuple"), none, (.seq #[] 0), #[]⟩
noncomputable def o474 (P : Params) : Obj := ⟨.none, none, (.func (fD (sC 20 9) "Space.acked_by" 0 [] .none .none .none .none none .none .none 0)), #[]⟩
noncomputable def o475 (P : Params) : Obj := ⟨(.type "code"), none, (.fields #[(.str (sN "acked_by") 632), (.str (sN "Space.acked_by") 633), (.str (sN "/claim/cut.py") 634), (.int 252 0), (.int 2 0), (.int 0 0), (.int 0 0), (.int 3 0), (.ref 338), (.bool true), (.int 181 0), (.ref 339), .none, (.ref 340), (.ref 341), (.ref 342), (.int 637 0), (.int 252 0), (.str (sN "/claim/cut.py") 638)]), #[]⟩
noncomputable def o476 (P : Params) : Obj := ⟨(.type "function"), none, (.func (fD (sC 20 9) "Space.acked_by" 3 [] .none .none .none (.str (sN "quic.spaces") 532) none (.ref 343) .none 0)), #[]⟩
noncomputable def o477 (P : Params) : Obj := ⟨(.type "tuple"), none, (.seq #[] 0), #[]⟩
noncomputable def o478 (P : Params) : Obj := ⟨.none, none, (.fields #[]), #[]⟩
noncomputable def o479 (P : Params) : Obj := ⟨(.type "tuple"), none, (.seq #[(.str (sN "self") 643), (.str (sN "numbers") 644)] 0), #[]⟩
noncomputable def o480 (P : Params) : Obj := ⟨(.type "tuple"), none, (.seq #[] 0), #[]⟩
noncomputable def o481 (P : Params) : Obj := ⟨.none, none, (.func (fD (sC 20 10) "Space.note_acked" 0 [] .none .none .none .none none .none .none 0)), #[]⟩
noncomputable def o482 (P : Params) : Obj := ⟨(.type "code"), none, (.fields #[(.str (sN "note_acked") 640), (.str (sN "Space.note_acked") 641), (.str (sN "/claim/cut.py") 642), (.int 255 0), (.int 2 0), (.int 0 0), (.int 0 0), (.int 3 0), (.ref 345), (.bool true), (.int 181 0), (.ref 346), .none, (.ref 347), (.ref 348), (.ref 349), (.int 645 0), (.int 255 0), (.str (sN "/claim/cut.py") 646)]), #[]⟩
noncomputable def o483 (P : Params) : Obj := ⟨(.type "function"), none, (.func (fD (sC 20 10) "Space.note_acked" 3 [] .none .none .none (.str (sN "quic.spaces") 532) none (.ref 350) .none 0)), #[]⟩
noncomputable def o484 (P : Params) : Obj := ⟨(.type "tuple"), none, (.seq #[] 0), #[]⟩
noncomputable def o485 (P : Params) : Obj := ⟨.none, none, (.fields #[]), #[]⟩
noncomputable def o486 (P : Params) : Obj := ⟨(.type "tuple"), none, (.seq #[(.str (sN "self") 651), (.str (sN "ranges") 652)] 0), #[]⟩
noncomputable def o487 (P : Params) : Obj := ⟨(.type "tuple"), none, (.seq #[] 0), #[]⟩
noncomputable def o488 (P : Params) : Obj := ⟨.none, none, (.func (fD (sC 20 11) "Space.note_ranges" 0 [] .none .none .none .none none .none .none 0)), #[]⟩
noncomputable def o489 (P : Params) : Obj := ⟨(.type "code"), none, (.fields #[(.str (sN "note_ranges") 648), (.str (sN "Space.note_ranges") 649), (.str (sN "/claim/cut.py") 650), (.int 258 0), (.int 2 0), (.int 0 0), (.int 0 0), (.int 3 0), (.ref 352), (.bool true), (.int 181 0), (.ref 353), .none, (.ref 354), (.ref 355), (.ref 356), (.int 653 0), (.int 258 0), (.str (sN "/claim/cut.py") 654)]), #[]⟩
noncomputable def o490 (P : Params) : Obj := ⟨(.type "function"), none, (.func (fD (sC 20 11) "Space.note_ranges" 3 [] .none .none .none (.str (sN "quic.spaces") 532) none (.ref 357) .none 0)), #[]⟩
noncomputable def o491 (P : Params) : Obj := ⟨(.type "tuple"), none, (.seq #[] 0), #[]⟩
noncomputable def o492 (P : Params) : Obj := ⟨.none, none, (.fields #[]), #[]⟩
noncomputable def o493 (P : Params) : Obj := ⟨(.type "tuple"), none, (.seq #[(.str (sN "self") 659), (.str (sN "ranges") 660)] 0), #[]⟩
noncomputable def o494 (P : Params) : Obj := ⟨(.type "tuple"), none, (.seq #[] 0), #[]⟩
noncomputable def o495 (P : Params) : Obj := ⟨.none, none, (.func (fD (sC 20 12) "Space.is_beyond" 0 [] .none .none .none .none none .none .none 0)), #[]⟩
noncomputable def o496 (P : Params) : Obj := ⟨(.type "code"), none, (.fields #[(.str (sN "is_beyond") 656), (.str (sN "Space.is_beyond") 657), (.str (sN "/claim/cut.py") 658), (.int 261 0), (.int 2 0), (.int 0 0), (.int 0 0), (.int 3 0), (.ref 359), (.bool true), (.int 181 0), (.ref 360), .none, (.ref 361), (.ref 362), (.ref 363), (.int 661 0), (.int 261 0), (.str (sN "/claim/cut.py") 662)]), #[]⟩
noncomputable def o497 (P : Params) : Obj := ⟨(.type "function"), none, (.func (fD (sC 20 12) "Space.is_beyond" 3 [] .none .none .none (.str (sN "quic.spaces") 532) none (.ref 364) .none 0)), #[]⟩
noncomputable def o498 (P : Params) : Obj := ⟨(.type "tuple"), none, (.seq #[] 0), #[]⟩
noncomputable def o499 (P : Params) : Obj := ⟨.none, none, (.fields #[]), #[]⟩
noncomputable def o500 (P : Params) : Obj := ⟨(.type "tuple"), none, (.seq #[(.str (sN "self") 667), (.str (sN "number") 668)] 0), #[]⟩
noncomputable def o501 (P : Params) : Obj := ⟨(.type "tuple"), none, (.seq #[] 0), #[]⟩
noncomputable def o502 (P : Params) : Obj := ⟨.none, none, (.func (fD (sC 20 13) "Space.note_largest" 0 [] .none .none .none .none none .none .none 0)), #[]⟩
noncomputable def o503 (P : Params) : Obj := ⟨(.type "code"), none, (.fields #[(.str (sN "note_largest") 664), (.str (sN "Space.note_largest") 665), (.str (sN "/claim/cut.py") 666), (.int 264 0), (.int 2 0), (.int 0 0), (.int 0 0), (.int 3 0), (.ref 366), (.bool true), (.int 181 0), (.ref 367), .none, (.ref 368), (.ref 369), (.ref 370), (.int 669 0), (.int 264 0), (.str (sN "/claim/cut.py") 670)]), #[]⟩
noncomputable def o504 (P : Params) : Obj := ⟨(.type "function"), none, (.func (fD (sC 20 13) "Space.note_largest" 3 [] .none .none .none (.str (sN "quic.spaces") 532) none (.ref 371) .none 0)), #[]⟩
noncomputable def o505 (P : Params) : Obj := ⟨(.type "tuple"), none, (.seq #[] 0), #[]⟩
noncomputable def o506 (P : Params) : Obj := ⟨.none, none, (.fields #[]), #[]⟩
noncomputable def o507 (P : Params) : Obj := ⟨(.type "tuple"), none, (.seq #[(.str (sN "self") 675)] 0), #[]⟩
noncomputable def o508 (P : Params) : Obj := ⟨(.type "tuple"), none, (.seq #[] 0), #[]⟩
noncomputable def o509 (P : Params) : Obj := ⟨.none, none, (.func (fD (sC 20 14) "Space.eliciting_left" 0 [] .none .none .none .none none .none .none 0)), #[]⟩
noncomputable def o510 (P : Params) : Obj := ⟨(.type "code"), none, (.fields #[(.str (sN "eliciting_left") 672), (.str (sN "Space.eliciting_left") 673), (.str (sN "/claim/cut.py") 674), (.int 267 0), (.int 1 0), (.int 0 0), (.int 0 0), (.int 3 0), (.ref 373), (.bool true), (.int 181 0), (.ref 374), .none, (.ref 375), (.ref 376), (.ref 377), (.int 676 0), (.int 267 0), (.str (sN "/claim/cut.py") 677)]), #[]⟩
noncomputable def o511 (P : Params) : Obj := ⟨(.type "function"), none, (.func (fD (sC 20 14) "Space.eliciting_left" 3 [] .none .none .none (.str (sN "quic.spaces") 532) none (.ref 378) .none 0)), #[]⟩
noncomputable def o512 (P : Params) : Obj := ⟨(.type "tuple"), none, (.seq #[] 0), #[]⟩
noncomputable def o513 (P : Params) : Obj := ⟨.none, none, (.fields #[]), #[]⟩
noncomputable def o514 (P : Params) : Obj := ⟨(.type "tuple"), none, (.seq #[(.str (sN "self") 682)] 0), #[]⟩
noncomputable def o515 (P : Params) : Obj := ⟨(.type "tuple"), none, (.seq #[] 0), #[]⟩
noncomputable def o516 (P : Params) : Obj := ⟨.none, none, (.func (fD (sC 20 15) "Space.bare_numbers" 0 [] .none .none .none .none none .none .none 0)), #[]⟩
noncomputable def o517 (P : Params) : Obj := ⟨(.type "code"), none, (.fields #[(.str (sN "bare_numbers") 679), (.str (sN "Space.bare_numbers") 680), (.str (sN "/claim/cut.py") 681), (.int 270 0), (.int 1 0), (.int 0 0), (.int 0 0), (.int 3 0), (.ref 380), (.bool true), (.int 181 0), (.ref 381), .none, (.ref 382), (.ref 383), (.ref 384), (.int 683 0), (.int 270 0), (.str (sN "/claim/cut.py") 684)]), #[]⟩
noncomputable def o518 (P : Params) : Obj := ⟨(.type "function"), none, (.func (fD (sC 20 15) "Space.bare_numbers" 3 [] .none .none .none (.str (sN "quic.spaces") 532) none (.ref 385) .none 0)), #[]⟩
noncomputable def o519 (P : Params) : Obj := ⟨(.type "tuple"), none, (.seq #[] 0), #[]⟩
noncomputable def o520 (P : Params) : Obj := ⟨.none, none, (.fields #[]), #[]⟩
noncomputable def o521 (P : Params) : Obj := ⟨(.type "tuple"), none, (.seq #[(.str (sN "self") 689)] 0), #[]⟩
noncomputable def o522 (P : Params) : Obj := ⟨(.type "tuple"), none, (.seq #[] 0), #[]⟩
noncomputable def o523 (P : Params) : Obj := ⟨.none, none, (.func (fD (sC 20 16) "Space.octets_out" 0 [] .none .none .none .none none .none .none 0)), #[]⟩
noncomputable def o524 (P : Params) : Obj := ⟨(.type "code"), none, (.fields #[(.str (sN "octets_out") 686), (.str (sN "Space.octets_out") 687), (.str (sN "/claim/cut.py") 688), (.int 273 0), (.int 1 0), (.int 0 0), (.int 0 0), (.int 3 0), (.ref 387), (.bool true), (.int 181 0), (.ref 388), .none, (.ref 389), (.ref 390), (.ref 391), (.int 690 0), (.int 273 0), (.str (sN "/claim/cut.py") 691)]), #[]⟩
noncomputable def o525 (P : Params) : Obj := ⟨(.type "function"), none, (.func (fD (sC 20 16) "Space.octets_out" 3 [] .none .none .none (.str (sN "quic.spaces") 532) none (.ref 392) .none 0)), #[]⟩
noncomputable def o526 (P : Params) : Obj := ⟨(.type "tuple"), none, (.seq #[] 0), #[]⟩
noncomputable def o527 (P : Params) : Obj := ⟨.none, none, (.fields #[]), #[]⟩
noncomputable def o528 (P : Params) : Obj := ⟨(.type "tuple"), none, (.seq #[(.str (sN "self") 696)] 0), #[]⟩
noncomputable def o529 (P : Params) : Obj := ⟨(.type "tuple"), none, (.seq #[] 0), #[]⟩
noncomputable def o530 (P : Params) : Obj := ⟨.none, none, (.func (fD (sC 20 17) "Space.sent_rows" 0 [] .none .none .none .none none .none .none 0)), #[]⟩
noncomputable def o531 (P : Params) : Obj := ⟨(.type "code"), none, (.fields #[(.str (sN "sent_rows") 693), (.str (sN "Space.sent_rows") 694), (.str (sN "/claim/cut.py") 695), (.int 276 0), (.int 1 0), (.int 0 0), (.int 0 0), (.int 3 0), (.ref 394), (.bool true), (.int 181 0), (.ref 395), .none, (.ref 396), (.ref 397), (.ref 398), (.int 697 0), (.int 276 0), (.str (sN "/claim/cut.py") 698)]), #[]⟩
noncomputable def o532 (P : Params) : Obj := ⟨(.type "function"), none, (.func (fD (sC 20 17) "Space.sent_rows" 3 [] .none .none .none (.str (sN "quic.spaces") 532) none (.ref 399) .none 0)), #[]⟩
noncomputable def o533 (P : Params) : Obj := ⟨(.type "tuple"), none, (.seq #[] 0), #[]⟩
noncomputable def o534 (P : Params) : Obj := ⟨.none, none, (.fields #[]), #[]⟩
noncomputable def o535 (P : Params) : Obj := ⟨(.type "tuple"), none, (.seq #[(.str (sN "self") 703)] 0), #[]⟩
noncomputable def o536 (P : Params) : Obj := ⟨(.type "tuple"), none, (.seq #[] 0), #[]⟩
noncomputable def o537 (P : Params) : Obj := ⟨.none, none, (.func (fD (sC 20 18) "Space.forget" 0 [] .none .none .none .none none .none .none 0)), #[]⟩
noncomputable def o538 (P : Params) : Obj := ⟨(.type "code"), none, (.fields #[(.str (sN "forget") 700), (.str (sN "Space.forget") 701), (.str (sN "/claim/cut.py") 702), (.int 279 0), (.int 1 0), (.int 0 0), (.int 0 0), (.int 3 0), (.ref 401), (.bool true), (.int 181 0), (.ref 402), .none, (.ref 403), (.ref 404), (.ref 405), (.int 704 0), (.int 279 0), (.str (sN "/claim/cut.py") 705)]), #[]⟩
noncomputable def o539 (P : Params) : Obj := ⟨(.type "function"), none, (.func (fD (sC 20 18) "Space.forget" 3 [] .none .none .none (.str (sN "quic.spaces") 532) none (.ref 406) .none 0)), #[]⟩
noncomputable def o540 (P : Params) : Obj := ⟨(.type "tuple"), none, (.seq #[(.str (sN "acked") 707), (.str (sN "ecn") 708), (.str (sN "first_unacked") 709), (.str (sN "floor") 710), (.str (sN "has_new") 711), (.str (sN "is_gone") 712), (.str (sN "largest_acked") 713), (.str (sN "largest_seen") 714), (.str (sN "largest_time") 715), (.str (sN "last_eliciting_time") 716), (.str (sN "loss_time") 717), (.str (sN "name") 718), (.str (sN "next_number") 719), (.str (sN "received") 720), (.str (sN "sent") 721), (.str (sN "unacked") 722), (.str (sN "wants_now") 723)] 0), #[]⟩
noncomputable def o541 (P : Params) : Obj := ⟨(.type "dict"), none, (.dict #[dE P "__module__" 549 (.str (sN "quic.spaces") 532), dE P "__firstlineno__" 553 (.int 193 552), dE P "__init__" 561 (.ref 281), dE P "is_known" 569 (.ref 288), dE P "on_received" 582 (.ref 295), dE P "ack_frame" 591 (.ref 302), dE P "on_ack_sent" 598 (.ref 309), dE P "owes_ack" 605 (.ref 316), dE P "take_number" 612 (.ref 323), dE P "on_sent" 623 (.ref 330), dE P "take" 631 (.ref 337), dE P "acked_by" 639 (.ref 344), dE P "note_acked" 647 (.ref 351), dE P "note_ranges" 655 (.ref 358), dE P "is_beyond" 663 (.ref 365), dE P "note_largest" 671 (.ref 372), dE P "eliciting_left" 678 (.ref 379), dE P "bare_numbers" 685 (.ref 386), dE P "octets_out" 692 (.ref 393), dE P "sent_rows" 699 (.ref 400), dE P "forget" 706 (.ref 407), dE P "__static_attributes__" 724 (.ref 408), dE P "__dict__" 726 (.ref 411), dE P "__weakref__" 728 (.ref 412), dE P "__doc__" 729 .none] 4), #[]⟩
noncomputable def o542 (P : Params) : Obj := ⟨(.type "type"), none, (.cls ⟨(sN "Space"), [(.type "object")], [(.ref 410), (.type "object")], 409, (sN "Space"), true, [], [], false, none, false⟩), #[none, none, (some (.str (sN "Space") 542)), (some (.str (sN "Space") 550)), (some (.builtin "object.__new__")), (some (.bool true))]⟩
noncomputable def o543 (P : Params) : Obj := ⟨(.type "getset_descriptor"), none, (.fields #[(.str (sN "__dict__") 725), (.ref 410), (.builtin "function.__dict__"), (.builtin "function.__dict__#set")]), #[]⟩
noncomputable def o544 (P : Params) : Obj := ⟨(.type "getset_descriptor"), none, (.fields #[(.str (sN "__weakref__") 727), (.ref 410), (.builtin "ExceptionGroup.__weakref__"), .none]), #[]⟩
noncomputable def o545 (P : Params) : Obj := ⟨(.type "super"), none, (.fields #[(.ref 410), (.ref 410), (.ref 410)]), #[]⟩
noncomputable def o546 (P : Params) : Obj := ⟨(.type "builtin_function_or_method"), none, (.fields #[(.builtin "object.__init_subclass__"), (.ref 410)]), #[]⟩
noncomputable def o635 (P : Params) : Obj := ⟨(.type "dict"), none, (.dict #[dE P "__name__" 165 (.str (sN "law_pf0273_01") 739), dE P "__doc__" 166 .none, dE P "__package__" 167 .none, dE P "__loader__" 168 (.builtin "__main__.__loader__#opaque"), dE P "__spec__" 169 .none, dE P "__annotations__" 170 (.ref 6), dE P "__builtins__" 171 (.ref 4), dE P "__file__" 173 (.str (sN "/claim/cut.py") 172), dE P "__cached__" 174 .none, dE P "_wall" 193 (.ref 21), dE P "path_frames" 201 (.ref 26), dE P "PacketRefused" 232 (.ref 43), dE P "PATH_UNPROVEN" 236 (.str (sN "unproven") 235), dE P "PATH_TRYING" 238 (.str (sN "trying") 237), dE P "PATH_PROVEN" 240 (.str (sN "proven") 239), dE P "PATH_FAILED" 242 (.str (sN "failed") 241), dE P "Path" 348 (.ref 126), dE P "Paths" 503 (.ref 243), dE P "add_number" 513 (.ref 254), dE P "add_range" 525 (.ref 261), dE P "prune" 531 (.ref 266), dE P "KEPT_RANGES" 535 (.int 64 534), dE P "ACK_EACH" 537 (.int 2 536), dE P "ECN_PLACES" 541 (.ref 267), dE P "Space" 731 (.ref 410), dE P "kept_ranges" 738 (.ref 421), dE P "_law_take" 748 (.ref 428), dE P "law" 754 (.ref 433)] 28), #[]⟩
noncomputable def o636 (P : Params) : Obj := ⟨.none, none, (.fields #[(.int 1 0), (.int 0 0), (.ref 20), (.int 5 0), (.int 0 0), (.ref 25), (.int 18 0), (.int 0 0), (.ref 32), (.int 28 0), (.int 0 0), (.ref 52), (.int 80 0), (.int 0 0), (.ref 136), (.int 172 0), (.int 0 0), (.ref 253), (.int 174 0), (.int 0 0), (.ref 260), (.int 187 0), (.int 0 0), (.ref 265), (.int 193 0), (.int 0 0), (.ref 273), (.int 281 0), (.int 0 0), (.ref 420), (.int 286 0), (.int 0 0), (.ref 427), (.int 291 0), (.int 0 0), (.ref 432)]), #[]⟩
noncomputable def o637 (P : Params) : Obj := ⟨(.type "tuple"), none, (.seq #[] 0), #[]⟩
noncomputable def o638 (P : Params) : Obj := ⟨.none, none, (.fields #[]), #[]⟩
noncomputable def o639 (P : Params) : Obj := ⟨(.type "tuple"), none, (.seq #[(.str (sN "ranges") 735)] 0), #[]⟩
noncomputable def o640 (P : Params) : Obj := ⟨(.type "tuple"), none, (.seq #[] 0), #[]⟩
noncomputable def o641 (P : Params) : Obj := ⟨.none, none, (.func (fD (sB 21) "kept_ranges" 0 [] .none .none .none .none none .none .none 0)), #[]⟩
noncomputable def o642 (P : Params) : Obj := ⟨(.type "code"), none, (.fields #[(.str (sN "kept_ranges") 732), (.str (sN "kept_ranges") 733), (.str (sN "/claim/cut.py") 734), (.int 281 0), (.int 1 0), (.int 0 0), (.int 0 0), (.int 3 0), (.ref 415), (.bool true), (.int 181 0), (.ref 416), .none, (.ref 417), (.ref 418), (.ref 419), (.int 736 0), (.int 281 0), (.str (sN "/claim/cut.py") 737)]), #[]⟩
noncomputable def o643 (P : Params) : Obj := ⟨(.type "function"), none, (.func (fD (sB 21) "kept_ranges" 3 [] .none .none .none (.str (sN "quic.spaces") 532) none (.ref 420) .none 0)), #[]⟩
noncomputable def o644 (P : Params) : Obj := ⟨(.type "tuple"), none, (.seq #[] 0), #[]⟩
noncomputable def o645 (P : Params) : Obj := ⟨.none, none, (.fields #[]), #[]⟩
noncomputable def o646 (P : Params) : Obj := ⟨(.type "tuple"), none, (.seq #[(.str (sN "box") 744), (.str (sN "many") 745)] 0), #[]⟩
noncomputable def o647 (P : Params) : Obj := ⟨(.type "tuple"), none, (.seq #[] 0), #[]⟩
noncomputable def o648 (P : Params) : Obj := ⟨.none, none, (.func (fD (sB 23) "_law_take" 0 [] .none .none .none .none none .none .none 0)), #[]⟩
noncomputable def o649 (P : Params) : Obj := ⟨(.type "code"), none, (.fields #[(.str (sN "_law_take") 741), (.str (sN "_law_take") 742), (.str (sN "/claim/cut.py") 743), (.int 286 0), (.int 2 0), (.int 0 0), (.int 0 0), (.int 3 0), (.ref 422), (.bool true), (.int 181 0), (.ref 423), .none, (.ref 424), (.ref 425), (.ref 426), (.int 746 0), (.int 286 0), (.str (sN "/claim/cut.py") 747)]), #[]⟩
noncomputable def o650 (P : Params) : Obj := ⟨(.type "function"), none, (.func (fD (sB 23) "_law_take" 3 [] .none .none .none (.str (sN "law_pf0273_01") 739) none (.ref 427) .none 0)), #[]⟩
noncomputable def o651 (P : Params) : Obj := ⟨(.type "tuple"), none, (.seq #[] 0), #[]⟩
noncomputable def o652 (P : Params) : Obj := ⟨.none, none, (.fields #[]), #[]⟩
noncomputable def o653 (P : Params) : Obj := ⟨.none, none, (.func (fD (sB 24) "law" 0 [] .none .none .none .none none .none .none 0)), #[]⟩
noncomputable def o654 (P : Params) : Obj := ⟨(.type "code"), none, (.fields #[(.str (sN "law") 749), (.str (sN "law") 750), (.str (sN "/claim/cut.py") 751), (.int 291 0), (.int 1 0), (.int 0 0), (.int 0 0), (.int 3 0), (.ref 429), (.bool true), (.int 181 0), (.ref 430), .none, .none, .none, (.ref 431), (.int 752 0), (.int 291 0), (.str (sN "/claim/cut.py") 753)]), #[]⟩
noncomputable def o655 (P : Params) : Obj := ⟨(.type "function"), none, (.func (fD (sB 24) "law" 3 [] .none .none .none (.str (sN "law_pf0273_01") 739) none (.ref 432) .none 0)), #[]⟩
noncomputable def t1 (P : Params) : BT := (.node (boot_o_0 P) (.node (boot_o_1 P) (.node (boot_o_3 P) (lf (boot_o_7 P)) (lf (o43 P))) (.node (boot_o_5 P) (lf (boot_o_9 P)) (lf (o45 P)))) (.node (boot_o_2 P) (.node (boot_o_4 P) (lf (boot_o_8 P)) (lf (o44 P))) (.node (boot_o_6 P) (lf (boot_o_10 P)) (lf (o46 P)))))
noncomputable def t2 (P : Params) : BT := (.node (boot_o_0 P) (.node (boot_o_1 P) (.node (o50 P) (.node (boot_o_7 P) (.node (o52 P) (lf (o68 P)) .nil) (.node (o60 P) (lf (o76 P)) .nil)) (.node (o43 P) (.node (o56 P) (lf (o72 P)) .nil) (.node (o64 P) (lf (o80 P)) .nil))) (.node (boot_o_5 P) (.node (boot_o_9 P) (.node (o54 P) (lf (o70 P)) .nil) (.node (o62 P) (lf (o78 P)) .nil)) (.node (o45 P) (.node (o58 P) (lf (o74 P)) .nil) (.node (o66 P) (lf (o82 P)) .nil)))) (.node (o49 P) (.node (boot_o_4 P) (.node (boot_o_8 P) (.node (o53 P) (lf (o69 P)) .nil) (.node (o61 P) (lf (o77 P)) .nil)) (.node (o51 P) (.node (o57 P) (lf (o73 P)) .nil) (.node (o65 P) (lf (o81 P)) .nil))) (.node (boot_o_6 P) (.node (boot_o_10 P) (.node (o55 P) (lf (o71 P)) .nil) (.node (o63 P) (lf (o79 P)) .nil)) (.node (o46 P) (.node (o59 P) (lf (o75 P)) .nil) (.node (o67 P) (lf (o83 P)) .nil)))))
noncomputable def t3 (P : Params) : BT := (.node (boot_o_0 P) (.node (boot_o_1 P) (.node (o84 P) (.node (boot_o_7 P) (.node (o52 P) (.node (o68 P) (.node (o102 P) (lf (o166 P)) .nil) (lf (o134 P))) (.node (o86 P) (lf (o118 P)) (lf (o150 P)))) (.node (o60 P) (.node (o76 P) (lf (o110 P)) (lf (o142 P))) (.node (o94 P) (lf (o126 P)) (lf (o158 P))))) (.node (o43 P) (.node (o56 P) (.node (o72 P) (lf (o106 P)) (lf (o138 P))) (.node (o90 P) (lf (o122 P)) (lf (o154 P)))) (.node (o64 P) (.node (o80 P) (lf (o114 P)) (lf (o146 P))) (.node (o98 P) (lf (o130 P)) (lf (o162 P)))))) (.node (boot_o_5 P) (.node (boot_o_9 P) (.node (o54 P) (.node (o70 P) (.node (o104 P) (lf (o168 P)) .nil) (lf (o136 P))) (.node (o88 P) (lf (o120 P)) (lf (o152 P)))) (.node (o62 P) (.node (o78 P) (lf (o112 P)) (lf (o144 P))) (.node (o96 P) (lf (o128 P)) (lf (o160 P))))) (.node (o45 P) (.node (o58 P) (.node (o74 P) (lf (o108 P)) (lf (o140 P))) (.node (o92 P) (lf (o124 P)) (lf (o156 P)))) (.node (o66 P) (.node (o82 P) (lf (o116 P)) (lf (o148 P))) (.node (o100 P) (lf (o132 P)) (lf (o164 P))))))) (.node (o49 P) (.node (boot_o_4 P) (.node (boot_o_8 P) (.node (o53 P) (.node (o69 P) (.node (o103 P) (lf (o167 P)) .nil) (lf (o135 P))) (.node (o87 P) (lf (o119 P)) (lf (o151 P)))) (.node (o61 P) (.node (o77 P) (lf (o111 P)) (lf (o143 P))) (.node (o95 P) (lf (o127 P)) (lf (o159 P))))) (.node (o85 P) (.node (o57 P) (.node (o73 P) (lf (o107 P)) (lf (o139 P))) (.node (o91 P) (lf (o123 P)) (lf (o155 P)))) (.node (o65 P) (.node (o81 P) (lf (o115 P)) (lf (o147 P))) (.node (o99 P) (lf (o131 P)) (lf (o163 P)))))) (.node (boot_o_6 P) (.node (boot_o_10 P) (.node (o55 P) (.node (o71 P) (.node (o105 P) (lf (o169 P)) .nil) (lf (o137 P))) (.node (o89 P) (lf (o121 P)) (lf (o153 P)))) (.node (o63 P) (.node (o79 P) (lf (o113 P)) (lf (o145 P))) (.node (o97 P) (lf (o129 P)) (lf (o161 P))))) (.node (o46 P) (.node (o59 P) (.node (o75 P) (lf (o109 P)) (lf (o141 P))) (.node (o93 P) (lf (o125 P)) (lf (o157 P)))) (.node (o67 P) (.node (o83 P) (lf (o117 P)) (lf (o149 P))) (.node (o101 P) (lf (o133 P)) (lf (o165 P))))))))
noncomputable def t4 (P : Params) : BT := (.node (boot_o_0 P) (.node (boot_o_1 P) (.node (o170 P) (.node (boot_o_7 P) (.node (o52 P) (.node (o68 P) (.node (o102 P) (lf (o166 P)) (lf (o232 P))) (.node (o134 P) (lf (o200 P)) (lf (o264 P)))) (.node (o86 P) (.node (o118 P) (lf (o184 P)) (lf (o248 P))) (.node (o150 P) (lf (o216 P)) (lf (o280 P))))) (.node (o60 P) (.node (o76 P) (.node (o110 P) (lf (o176 P)) (lf (o240 P))) (.node (o142 P) (lf (o208 P)) (lf (o272 P)))) (.node (o94 P) (.node (o126 P) (lf (o192 P)) (lf (o256 P))) (.node (o158 P) (lf (o224 P)) (lf (o288 P)))))) (.node (o43 P) (.node (o56 P) (.node (o72 P) (.node (o106 P) (lf (o172 P)) (lf (o236 P))) (.node (o138 P) (lf (o204 P)) (lf (o268 P)))) (.node (o90 P) (.node (o122 P) (lf (o188 P)) (lf (o252 P))) (.node (o154 P) (lf (o220 P)) (lf (o284 P))))) (.node (o64 P) (.node (o80 P) (.node (o114 P) (lf (o180 P)) (lf (o244 P))) (.node (o146 P) (lf (o212 P)) (lf (o276 P)))) (.node (o98 P) (.node (o130 P) (lf (o196 P)) (lf (o260 P))) (.node (o162 P) (lf (o228 P)) .nil))))) (.node (boot_o_5 P) (.node (boot_o_9 P) (.node (o54 P) (.node (o70 P) (.node (o104 P) (lf (o168 P)) (lf (o234 P))) (.node (o136 P) (lf (o202 P)) (lf (o266 P)))) (.node (o88 P) (.node (o120 P) (lf (o186 P)) (lf (o250 P))) (.node (o152 P) (lf (o218 P)) (lf (o282 P))))) (.node (o62 P) (.node (o78 P) (.node (o112 P) (lf (o178 P)) (lf (o242 P))) (.node (o144 P) (lf (o210 P)) (lf (o274 P)))) (.node (o96 P) (.node (o128 P) (lf (o194 P)) (lf (o258 P))) (.node (o160 P) (lf (o226 P)) .nil)))) (.node (o45 P) (.node (o58 P) (.node (o74 P) (.node (o108 P) (lf (o174 P)) (lf (o238 P))) (.node (o140 P) (lf (o206 P)) (lf (o270 P)))) (.node (o92 P) (.node (o124 P) (lf (o190 P)) (lf (o254 P))) (.node (o156 P) (lf (o222 P)) (lf (o286 P))))) (.node (o66 P) (.node (o82 P) (.node (o116 P) (lf (o182 P)) (lf (o246 P))) (.node (o148 P) (lf (o214 P)) (lf (o278 P)))) (.node (o100 P) (.node (o132 P) (lf (o198 P)) (lf (o262 P))) (.node (o164 P) (lf (o230 P)) .nil)))))) (.node (o49 P) (.node (boot_o_4 P) (.node (boot_o_8 P) (.node (o53 P) (.node (o69 P) (.node (o103 P) (lf (o167 P)) (lf (o233 P))) (.node (o135 P) (lf (o201 P)) (lf (o265 P)))) (.node (o87 P) (.node (o119 P) (lf (o185 P)) (lf (o249 P))) (.node (o151 P) (lf (o217 P)) (lf (o281 P))))) (.node (o61 P) (.node (o77 P) (.node (o111 P) (lf (o177 P)) (lf (o241 P))) (.node (o143 P) (lf (o209 P)) (lf (o273 P)))) (.node (o95 P) (.node (o127 P) (lf (o193 P)) (lf (o257 P))) (.node (o159 P) (lf (o225 P)) .nil)))) (.node (o171 P) (.node (o57 P) (.node (o73 P) (.node (o107 P) (lf (o173 P)) (lf (o237 P))) (.node (o139 P) (lf (o205 P)) (lf (o269 P)))) (.node (o91 P) (.node (o123 P) (lf (o189 P)) (lf (o253 P))) (.node (o155 P) (lf (o221 P)) (lf (o285 P))))) (.node (o65 P) (.node (o81 P) (.node (o115 P) (lf (o181 P)) (lf (o245 P))) (.node (o147 P) (lf (o213 P)) (lf (o277 P)))) (.node (o99 P) (.node (o131 P) (lf (o197 P)) (lf (o261 P))) (.node (o163 P) (lf (o229 P)) .nil))))) (.node (boot_o_6 P) (.node (boot_o_10 P) (.node (o55 P) (.node (o71 P) (.node (o105 P) (lf (o169 P)) (lf (o235 P))) (.node (o137 P) (lf (o203 P)) (lf (o267 P)))) (.node (o89 P) (.node (o121 P) (lf (o187 P)) (lf (o251 P))) (.node (o153 P) (lf (o219 P)) (lf (o283 P))))) (.node (o63 P) (.node (o79 P) (.node (o113 P) (lf (o179 P)) (lf (o243 P))) (.node (o145 P) (lf (o211 P)) (lf (o275 P)))) (.node (o97 P) (.node (o129 P) (lf (o195 P)) (lf (o259 P))) (.node (o161 P) (lf (o227 P)) .nil)))) (.node (o46 P) (.node (o59 P) (.node (o75 P) (.node (o109 P) (lf (o175 P)) (lf (o239 P))) (.node (o141 P) (lf (o207 P)) (lf (o271 P)))) (.node (o93 P) (.node (o125 P) (lf (o191 P)) (lf (o255 P))) (.node (o157 P) (lf (o223 P)) (lf (o287 P))))) (.node (o67 P) (.node (o83 P) (.node (o117 P) (lf (o183 P)) (lf (o247 P))) (.node (o149 P) (lf (o215 P)) (lf (o279 P)))) (.node (o101 P) (.node (o133 P) (lf (o199 P)) (lf (o263 P))) (.node (o165 P) (lf (o231 P)) .nil)))))))
noncomputable def t5 (P : Params) : BT := (.node (boot_o_0 P) (.node (boot_o_1 P) (.node (o376 P) (.node (boot_o_7 P) (.node (o52 P) (.node (o68 P) (.node (o102 P) (.node (o166 P) (lf (o385 P)) .nil) (lf (o232 P))) (.node (o134 P) (lf (o200 P)) (lf (o264 P)))) (.node (o86 P) (.node (o118 P) (lf (o184 P)) (lf (o248 P))) (.node (o150 P) (lf (o216 P)) (lf (o280 P))))) (.node (o60 P) (.node (o76 P) (.node (o110 P) (.node (o176 P) (lf (o393 P)) .nil) (lf (o240 P))) (.node (o142 P) (lf (o208 P)) (lf (o272 P)))) (.node (o94 P) (.node (o126 P) (lf (o192 P)) (lf (o256 P))) (.node (o158 P) (lf (o224 P)) (lf (o288 P)))))) (.node (o43 P) (.node (o56 P) (.node (o72 P) (.node (o106 P) (.node (o172 P) (lf (o389 P)) .nil) (lf (o236 P))) (.node (o138 P) (lf (o204 P)) (lf (o268 P)))) (.node (o90 P) (.node (o122 P) (lf (o188 P)) (lf (o252 P))) (.node (o154 P) (lf (o220 P)) (lf (o284 P))))) (.node (o64 P) (.node (o80 P) (.node (o114 P) (.node (o180 P) (lf (o397 P)) .nil) (lf (o244 P))) (.node (o146 P) (lf (o212 P)) (lf (o276 P)))) (.node (o98 P) (.node (o130 P) (lf (o196 P)) (lf (o260 P))) (.node (o162 P) (lf (o228 P)) (lf (o381 P))))))) (.node (boot_o_5 P) (.node (boot_o_9 P) (.node (o54 P) (.node (o70 P) (.node (o104 P) (.node (o168 P) (lf (o387 P)) .nil) (lf (o234 P))) (.node (o136 P) (lf (o202 P)) (lf (o266 P)))) (.node (o88 P) (.node (o120 P) (lf (o186 P)) (lf (o250 P))) (.node (o152 P) (lf (o218 P)) (lf (o282 P))))) (.node (o62 P) (.node (o78 P) (.node (o112 P) (.node (o178 P) (lf (o395 P)) .nil) (lf (o242 P))) (.node (o144 P) (lf (o210 P)) (lf (o274 P)))) (.node (o96 P) (.node (o128 P) (lf (o194 P)) (lf (o258 P))) (.node (o160 P) (lf (o226 P)) (lf (o379 P)))))) (.node (o45 P) (.node (o58 P) (.node (o74 P) (.node (o108 P) (.node (o174 P) (lf (o391 P)) .nil) (lf (o238 P))) (.node (o140 P) (lf (o206 P)) (lf (o270 P)))) (.node (o92 P) (.node (o124 P) (lf (o190 P)) (lf (o254 P))) (.node (o156 P) (lf (o222 P)) (lf (o286 P))))) (.node (o66 P) (.node (o82 P) (.node (o116 P) (lf (o182 P)) (lf (o246 P))) (.node (o148 P) (lf (o214 P)) (lf (o278 P)))) (.node (o100 P) (.node (o132 P) (lf (o198 P)) (lf (o262 P))) (.node (o164 P) (lf (o230 P)) (lf (o383 P)))))))) (.node (o49 P) (.node (boot_o_4 P) (.node (boot_o_8 P) (.node (o53 P) (.node (o69 P) (.node (o103 P) (.node (o167 P) (lf (o386 P)) .nil) (lf (o233 P))) (.node (o135 P) (lf (o201 P)) (lf (o265 P)))) (.node (o87 P) (.node (o119 P) (lf (o185 P)) (lf (o249 P))) (.node (o151 P) (lf (o217 P)) (lf (o281 P))))) (.node (o61 P) (.node (o77 P) (.node (o111 P) (.node (o177 P) (lf (o394 P)) .nil) (lf (o241 P))) (.node (o143 P) (lf (o209 P)) (lf (o273 P)))) (.node (o95 P) (.node (o127 P) (lf (o193 P)) (lf (o257 P))) (.node (o159 P) (lf (o225 P)) (lf (o378 P)))))) (.node (o377 P) (.node (o57 P) (.node (o73 P) (.node (o107 P) (.node (o173 P) (lf (o390 P)) .nil) (lf (o237 P))) (.node (o139 P) (lf (o205 P)) (lf (o269 P)))) (.node (o91 P) (.node (o123 P) (lf (o189 P)) (lf (o253 P))) (.node (o155 P) (lf (o221 P)) (lf (o285 P))))) (.node (o65 P) (.node (o81 P) (.node (o115 P) (lf (o181 P)) (lf (o245 P))) (.node (o147 P) (lf (o213 P)) (lf (o277 P)))) (.node (o99 P) (.node (o131 P) (lf (o197 P)) (lf (o261 P))) (.node (o163 P) (lf (o229 P)) (lf (o382 P))))))) (.node (boot_o_6 P) (.node (boot_o_10 P) (.node (o55 P) (.node (o71 P) (.node (o105 P) (.node (o169 P) (lf (o388 P)) .nil) (lf (o235 P))) (.node (o137 P) (lf (o203 P)) (lf (o267 P)))) (.node (o89 P) (.node (o121 P) (lf (o187 P)) (lf (o251 P))) (.node (o153 P) (lf (o219 P)) (lf (o283 P))))) (.node (o63 P) (.node (o79 P) (.node (o113 P) (.node (o179 P) (lf (o396 P)) .nil) (lf (o243 P))) (.node (o145 P) (lf (o211 P)) (lf (o275 P)))) (.node (o97 P) (.node (o129 P) (lf (o195 P)) (lf (o259 P))) (.node (o161 P) (lf (o227 P)) (lf (o380 P)))))) (.node (o46 P) (.node (o59 P) (.node (o75 P) (.node (o109 P) (.node (o175 P) (lf (o392 P)) .nil) (lf (o239 P))) (.node (o141 P) (lf (o207 P)) (lf (o271 P)))) (.node (o93 P) (.node (o125 P) (lf (o191 P)) (lf (o255 P))) (.node (o157 P) (lf (o223 P)) (lf (o287 P))))) (.node (o67 P) (.node (o83 P) (.node (o117 P) (lf (o183 P)) (lf (o247 P))) (.node (o149 P) (lf (o215 P)) (lf (o279 P)))) (.node (o101 P) (.node (o133 P) (lf (o199 P)) (lf (o263 P))) (.node (o165 P) (lf (o231 P)) (lf (o384 P)))))))))
noncomputable def t6 (P : Params) : BT := (.node (boot_o_0 P) (.node (boot_o_1 P) (.node (o398 P) (.node (boot_o_7 P) (.node (o52 P) (.node (o68 P) (.node (o102 P) (.node (o166 P) (lf (o385 P)) (lf (o515 P))) (.node (o232 P) (lf (o451 P)) .nil)) (.node (o134 P) (.node (o200 P) (lf (o419 P)) .nil) (.node (o264 P) (lf (o483 P)) .nil))) (.node (o86 P) (.node (o118 P) (.node (o184 P) (lf (o403 P)) (lf (o531 P))) (.node (o248 P) (lf (o467 P)) .nil)) (.node (o150 P) (.node (o216 P) (lf (o435 P)) .nil) (.node (o280 P) (lf (o499 P)) .nil)))) (.node (o60 P) (.node (o76 P) (.node (o110 P) (.node (o176 P) (lf (o393 P)) (lf (o523 P))) (.node (o240 P) (lf (o459 P)) .nil)) (.node (o142 P) (.node (o208 P) (lf (o427 P)) .nil) (.node (o272 P) (lf (o491 P)) .nil))) (.node (o94 P) (.node (o126 P) (.node (o192 P) (lf (o411 P)) (lf (o539 P))) (.node (o256 P) (lf (o475 P)) .nil)) (.node (o158 P) (.node (o224 P) (lf (o443 P)) .nil) (.node (o288 P) (lf (o507 P)) .nil))))) (.node (o43 P) (.node (o56 P) (.node (o72 P) (.node (o106 P) (.node (o172 P) (lf (o389 P)) (lf (o519 P))) (.node (o236 P) (lf (o455 P)) .nil)) (.node (o138 P) (.node (o204 P) (lf (o423 P)) .nil) (.node (o268 P) (lf (o487 P)) .nil))) (.node (o90 P) (.node (o122 P) (.node (o188 P) (lf (o407 P)) (lf (o535 P))) (.node (o252 P) (lf (o471 P)) .nil)) (.node (o154 P) (.node (o220 P) (lf (o439 P)) .nil) (.node (o284 P) (lf (o503 P)) .nil)))) (.node (o64 P) (.node (o80 P) (.node (o114 P) (.node (o180 P) (lf (o397 P)) (lf (o527 P))) (.node (o244 P) (lf (o463 P)) .nil)) (.node (o146 P) (.node (o212 P) (lf (o431 P)) .nil) (.node (o276 P) (lf (o495 P)) .nil))) (.node (o98 P) (.node (o130 P) (.node (o196 P) (lf (o415 P)) (lf (o543 P))) (.node (o260 P) (lf (o479 P)) .nil)) (.node (o162 P) (.node (o228 P) (lf (o447 P)) .nil) (.node (o381 P) (lf (o511 P)) .nil)))))) (.node (boot_o_5 P) (.node (boot_o_9 P) (.node (o54 P) (.node (o70 P) (.node (o104 P) (.node (o168 P) (lf (o387 P)) (lf (o517 P))) (.node (o234 P) (lf (o453 P)) .nil)) (.node (o136 P) (.node (o202 P) (lf (o421 P)) .nil) (.node (o266 P) (lf (o485 P)) .nil))) (.node (o88 P) (.node (o120 P) (.node (o186 P) (lf (o405 P)) (lf (o533 P))) (.node (o250 P) (lf (o469 P)) .nil)) (.node (o152 P) (.node (o218 P) (lf (o437 P)) .nil) (.node (o282 P) (lf (o501 P)) .nil)))) (.node (o62 P) (.node (o78 P) (.node (o112 P) (.node (o178 P) (lf (o395 P)) (lf (o525 P))) (.node (o242 P) (lf (o461 P)) .nil)) (.node (o144 P) (.node (o210 P) (lf (o429 P)) .nil) (.node (o274 P) (lf (o493 P)) .nil))) (.node (o96 P) (.node (o128 P) (.node (o194 P) (lf (o413 P)) (lf (o541 P))) (.node (o258 P) (lf (o477 P)) .nil)) (.node (o160 P) (.node (o226 P) (lf (o445 P)) .nil) (.node (o379 P) (lf (o509 P)) .nil))))) (.node (o45 P) (.node (o58 P) (.node (o74 P) (.node (o108 P) (.node (o174 P) (lf (o391 P)) (lf (o521 P))) (.node (o238 P) (lf (o457 P)) .nil)) (.node (o140 P) (.node (o206 P) (lf (o425 P)) .nil) (.node (o270 P) (lf (o489 P)) .nil))) (.node (o92 P) (.node (o124 P) (.node (o190 P) (lf (o409 P)) (lf (o537 P))) (.node (o254 P) (lf (o473 P)) .nil)) (.node (o156 P) (.node (o222 P) (lf (o441 P)) .nil) (.node (o286 P) (lf (o505 P)) .nil)))) (.node (o66 P) (.node (o82 P) (.node (o116 P) (.node (o182 P) (lf (o401 P)) (lf (o529 P))) (.node (o246 P) (lf (o465 P)) .nil)) (.node (o148 P) (.node (o214 P) (lf (o433 P)) .nil) (.node (o278 P) (lf (o497 P)) .nil))) (.node (o100 P) (.node (o132 P) (.node (o198 P) (lf (o417 P)) (lf (o545 P))) (.node (o262 P) (lf (o481 P)) .nil)) (.node (o164 P) (.node (o230 P) (lf (o449 P)) .nil) (.node (o383 P) (lf (o513 P)) .nil))))))) (.node (o49 P) (.node (boot_o_4 P) (.node (boot_o_8 P) (.node (o53 P) (.node (o69 P) (.node (o103 P) (.node (o167 P) (lf (o386 P)) (lf (o516 P))) (.node (o233 P) (lf (o452 P)) .nil)) (.node (o135 P) (.node (o201 P) (lf (o420 P)) .nil) (.node (o265 P) (lf (o484 P)) .nil))) (.node (o87 P) (.node (o119 P) (.node (o185 P) (lf (o404 P)) (lf (o532 P))) (.node (o249 P) (lf (o468 P)) .nil)) (.node (o151 P) (.node (o217 P) (lf (o436 P)) .nil) (.node (o281 P) (lf (o500 P)) .nil)))) (.node (o61 P) (.node (o77 P) (.node (o111 P) (.node (o177 P) (lf (o394 P)) (lf (o524 P))) (.node (o241 P) (lf (o460 P)) .nil)) (.node (o143 P) (.node (o209 P) (lf (o428 P)) .nil) (.node (o273 P) (lf (o492 P)) .nil))) (.node (o95 P) (.node (o127 P) (.node (o193 P) (lf (o412 P)) (lf (o540 P))) (.node (o257 P) (lf (o476 P)) .nil)) (.node (o159 P) (.node (o225 P) (lf (o444 P)) .nil) (.node (o378 P) (lf (o508 P)) .nil))))) (.node (o399 P) (.node (o57 P) (.node (o73 P) (.node (o107 P) (.node (o173 P) (lf (o390 P)) (lf (o520 P))) (.node (o237 P) (lf (o456 P)) .nil)) (.node (o139 P) (.node (o205 P) (lf (o424 P)) .nil) (.node (o269 P) (lf (o488 P)) .nil))) (.node (o91 P) (.node (o123 P) (.node (o189 P) (lf (o408 P)) (lf (o536 P))) (.node (o253 P) (lf (o472 P)) .nil)) (.node (o155 P) (.node (o221 P) (lf (o440 P)) .nil) (.node (o285 P) (lf (o504 P)) .nil)))) (.node (o65 P) (.node (o81 P) (.node (o115 P) (.node (o181 P) (lf (o400 P)) (lf (o528 P))) (.node (o245 P) (lf (o464 P)) .nil)) (.node (o147 P) (.node (o213 P) (lf (o432 P)) .nil) (.node (o277 P) (lf (o496 P)) .nil))) (.node (o99 P) (.node (o131 P) (.node (o197 P) (lf (o416 P)) (lf (o544 P))) (.node (o261 P) (lf (o480 P)) .nil)) (.node (o163 P) (.node (o229 P) (lf (o448 P)) .nil) (.node (o382 P) (lf (o512 P)) .nil)))))) (.node (boot_o_6 P) (.node (boot_o_10 P) (.node (o55 P) (.node (o71 P) (.node (o105 P) (.node (o169 P) (lf (o388 P)) (lf (o518 P))) (.node (o235 P) (lf (o454 P)) .nil)) (.node (o137 P) (.node (o203 P) (lf (o422 P)) .nil) (.node (o267 P) (lf (o486 P)) .nil))) (.node (o89 P) (.node (o121 P) (.node (o187 P) (lf (o406 P)) (lf (o534 P))) (.node (o251 P) (lf (o470 P)) .nil)) (.node (o153 P) (.node (o219 P) (lf (o438 P)) .nil) (.node (o283 P) (lf (o502 P)) .nil)))) (.node (o63 P) (.node (o79 P) (.node (o113 P) (.node (o179 P) (lf (o396 P)) (lf (o526 P))) (.node (o243 P) (lf (o462 P)) .nil)) (.node (o145 P) (.node (o211 P) (lf (o430 P)) .nil) (.node (o275 P) (lf (o494 P)) .nil))) (.node (o97 P) (.node (o129 P) (.node (o195 P) (lf (o414 P)) (lf (o542 P))) (.node (o259 P) (lf (o478 P)) .nil)) (.node (o161 P) (.node (o227 P) (lf (o446 P)) .nil) (.node (o380 P) (lf (o510 P)) .nil))))) (.node (o46 P) (.node (o59 P) (.node (o75 P) (.node (o109 P) (.node (o175 P) (lf (o392 P)) (lf (o522 P))) (.node (o239 P) (lf (o458 P)) .nil)) (.node (o141 P) (.node (o207 P) (lf (o426 P)) .nil) (.node (o271 P) (lf (o490 P)) .nil))) (.node (o93 P) (.node (o125 P) (.node (o191 P) (lf (o410 P)) (lf (o538 P))) (.node (o255 P) (lf (o474 P)) .nil)) (.node (o157 P) (.node (o223 P) (lf (o442 P)) .nil) (.node (o287 P) (lf (o506 P)) .nil)))) (.node (o67 P) (.node (o83 P) (.node (o117 P) (.node (o183 P) (lf (o402 P)) (lf (o530 P))) (.node (o247 P) (lf (o466 P)) .nil)) (.node (o149 P) (.node (o215 P) (lf (o434 P)) .nil) (.node (o279 P) (lf (o498 P)) .nil))) (.node (o101 P) (.node (o133 P) (.node (o199 P) (lf (o418 P)) (lf (o546 P))) (.node (o263 P) (lf (o482 P)) .nil)) (.node (o165 P) (.node (o231 P) (lf (o450 P)) .nil) (.node (o384 P) (lf (o514 P)) .nil))))))))
noncomputable def t7 (P : Params) : BT := (.node (boot_o_0 P) (.node (boot_o_1 P) (.node (o635 P) (.node (boot_o_7 P) (.node (o52 P) (.node (o68 P) (.node (o102 P) (.node (o166 P) (lf (o385 P)) (lf (o515 P))) (.node (o232 P) (lf (o451 P)) .nil)) (.node (o134 P) (.node (o200 P) (lf (o419 P)) (lf (o637 P))) (.node (o264 P) (lf (o483 P)) .nil))) (.node (o86 P) (.node (o118 P) (.node (o184 P) (lf (o403 P)) (lf (o531 P))) (.node (o248 P) (lf (o467 P)) .nil)) (.node (o150 P) (.node (o216 P) (lf (o435 P)) (lf (o653 P))) (.node (o280 P) (lf (o499 P)) .nil)))) (.node (o60 P) (.node (o76 P) (.node (o110 P) (.node (o176 P) (lf (o393 P)) (lf (o523 P))) (.node (o240 P) (lf (o459 P)) .nil)) (.node (o142 P) (.node (o208 P) (lf (o427 P)) (lf (o645 P))) (.node (o272 P) (lf (o491 P)) .nil))) (.node (o94 P) (.node (o126 P) (.node (o192 P) (lf (o411 P)) (lf (o539 P))) (.node (o256 P) (lf (o475 P)) .nil)) (.node (o158 P) (.node (o224 P) (lf (o443 P)) .nil) (.node (o288 P) (lf (o507 P)) .nil))))) (.node (o43 P) (.node (o56 P) (.node (o72 P) (.node (o106 P) (.node (o172 P) (lf (o389 P)) (lf (o519 P))) (.node (o236 P) (lf (o455 P)) .nil)) (.node (o138 P) (.node (o204 P) (lf (o423 P)) (lf (o641 P))) (.node (o268 P) (lf (o487 P)) .nil))) (.node (o90 P) (.node (o122 P) (.node (o188 P) (lf (o407 P)) (lf (o535 P))) (.node (o252 P) (lf (o471 P)) .nil)) (.node (o154 P) (.node (o220 P) (lf (o439 P)) .nil) (.node (o284 P) (lf (o503 P)) .nil)))) (.node (o64 P) (.node (o80 P) (.node (o114 P) (.node (o180 P) (lf (o397 P)) (lf (o527 P))) (.node (o244 P) (lf (o463 P)) .nil)) (.node (o146 P) (.node (o212 P) (lf (o431 P)) (lf (o649 P))) (.node (o276 P) (lf (o495 P)) .nil))) (.node (o98 P) (.node (o130 P) (.node (o196 P) (lf (o415 P)) (lf (o543 P))) (.node (o260 P) (lf (o479 P)) .nil)) (.node (o162 P) (.node (o228 P) (lf (o447 P)) .nil) (.node (o381 P) (lf (o511 P)) .nil)))))) (.node (boot_o_5 P) (.node (boot_o_9 P) (.node (o54 P) (.node (o70 P) (.node (o104 P) (.node (o168 P) (lf (o387 P)) (lf (o517 P))) (.node (o234 P) (lf (o453 P)) .nil)) (.node (o136 P) (.node (o202 P) (lf (o421 P)) (lf (o639 P))) (.node (o266 P) (lf (o485 P)) .nil))) (.node (o88 P) (.node (o120 P) (.node (o186 P) (lf (o405 P)) (lf (o533 P))) (.node (o250 P) (lf (o469 P)) .nil)) (.node (o152 P) (.node (o218 P) (lf (o437 P)) (lf (o655 P))) (.node (o282 P) (lf (o501 P)) .nil)))) (.node (o62 P) (.node (o78 P) (.node (o112 P) (.node (o178 P) (lf (o395 P)) (lf (o525 P))) (.node (o242 P) (lf (o461 P)) .nil)) (.node (o144 P) (.node (o210 P) (lf (o429 P)) (lf (o647 P))) (.node (o274 P) (lf (o493 P)) .nil))) (.node (o96 P) (.node (o128 P) (.node (o194 P) (lf (o413 P)) (lf (o541 P))) (.node (o258 P) (lf (o477 P)) .nil)) (.node (o160 P) (.node (o226 P) (lf (o445 P)) .nil) (.node (o379 P) (lf (o509 P)) .nil))))) (.node (o45 P) (.node (o58 P) (.node (o74 P) (.node (o108 P) (.node (o174 P) (lf (o391 P)) (lf (o521 P))) (.node (o238 P) (lf (o457 P)) .nil)) (.node (o140 P) (.node (o206 P) (lf (o425 P)) (lf (o643 P))) (.node (o270 P) (lf (o489 P)) .nil))) (.node (o92 P) (.node (o124 P) (.node (o190 P) (lf (o409 P)) (lf (o537 P))) (.node (o254 P) (lf (o473 P)) .nil)) (.node (o156 P) (.node (o222 P) (lf (o441 P)) .nil) (.node (o286 P) (lf (o505 P)) .nil)))) (.node (o66 P) (.node (o82 P) (.node (o116 P) (.node (o182 P) (lf (o401 P)) (lf (o529 P))) (.node (o246 P) (lf (o465 P)) .nil)) (.node (o148 P) (.node (o214 P) (lf (o433 P)) (lf (o651 P))) (.node (o278 P) (lf (o497 P)) .nil))) (.node (o100 P) (.node (o132 P) (.node (o198 P) (lf (o417 P)) (lf (o545 P))) (.node (o262 P) (lf (o481 P)) .nil)) (.node (o164 P) (.node (o230 P) (lf (o449 P)) .nil) (.node (o383 P) (lf (o513 P)) .nil))))))) (.node (o49 P) (.node (boot_o_4 P) (.node (boot_o_8 P) (.node (o53 P) (.node (o69 P) (.node (o103 P) (.node (o167 P) (lf (o386 P)) (lf (o516 P))) (.node (o233 P) (lf (o452 P)) .nil)) (.node (o135 P) (.node (o201 P) (lf (o420 P)) (lf (o638 P))) (.node (o265 P) (lf (o484 P)) .nil))) (.node (o87 P) (.node (o119 P) (.node (o185 P) (lf (o404 P)) (lf (o532 P))) (.node (o249 P) (lf (o468 P)) .nil)) (.node (o151 P) (.node (o217 P) (lf (o436 P)) (lf (o654 P))) (.node (o281 P) (lf (o500 P)) .nil)))) (.node (o61 P) (.node (o77 P) (.node (o111 P) (.node (o177 P) (lf (o394 P)) (lf (o524 P))) (.node (o241 P) (lf (o460 P)) .nil)) (.node (o143 P) (.node (o209 P) (lf (o428 P)) (lf (o646 P))) (.node (o273 P) (lf (o492 P)) .nil))) (.node (o95 P) (.node (o127 P) (.node (o193 P) (lf (o412 P)) (lf (o540 P))) (.node (o257 P) (lf (o476 P)) .nil)) (.node (o159 P) (.node (o225 P) (lf (o444 P)) .nil) (.node (o378 P) (lf (o508 P)) .nil))))) (.node (o636 P) (.node (o57 P) (.node (o73 P) (.node (o107 P) (.node (o173 P) (lf (o390 P)) (lf (o520 P))) (.node (o237 P) (lf (o456 P)) .nil)) (.node (o139 P) (.node (o205 P) (lf (o424 P)) (lf (o642 P))) (.node (o269 P) (lf (o488 P)) .nil))) (.node (o91 P) (.node (o123 P) (.node (o189 P) (lf (o408 P)) (lf (o536 P))) (.node (o253 P) (lf (o472 P)) .nil)) (.node (o155 P) (.node (o221 P) (lf (o440 P)) .nil) (.node (o285 P) (lf (o504 P)) .nil)))) (.node (o65 P) (.node (o81 P) (.node (o115 P) (.node (o181 P) (lf (o400 P)) (lf (o528 P))) (.node (o245 P) (lf (o464 P)) .nil)) (.node (o147 P) (.node (o213 P) (lf (o432 P)) (lf (o650 P))) (.node (o277 P) (lf (o496 P)) .nil))) (.node (o99 P) (.node (o131 P) (.node (o197 P) (lf (o416 P)) (lf (o544 P))) (.node (o261 P) (lf (o480 P)) .nil)) (.node (o163 P) (.node (o229 P) (lf (o448 P)) .nil) (.node (o382 P) (lf (o512 P)) .nil)))))) (.node (boot_o_6 P) (.node (boot_o_10 P) (.node (o55 P) (.node (o71 P) (.node (o105 P) (.node (o169 P) (lf (o388 P)) (lf (o518 P))) (.node (o235 P) (lf (o454 P)) .nil)) (.node (o137 P) (.node (o203 P) (lf (o422 P)) (lf (o640 P))) (.node (o267 P) (lf (o486 P)) .nil))) (.node (o89 P) (.node (o121 P) (.node (o187 P) (lf (o406 P)) (lf (o534 P))) (.node (o251 P) (lf (o470 P)) .nil)) (.node (o153 P) (.node (o219 P) (lf (o438 P)) .nil) (.node (o283 P) (lf (o502 P)) .nil)))) (.node (o63 P) (.node (o79 P) (.node (o113 P) (.node (o179 P) (lf (o396 P)) (lf (o526 P))) (.node (o243 P) (lf (o462 P)) .nil)) (.node (o145 P) (.node (o211 P) (lf (o430 P)) (lf (o648 P))) (.node (o275 P) (lf (o494 P)) .nil))) (.node (o97 P) (.node (o129 P) (.node (o195 P) (lf (o414 P)) (lf (o542 P))) (.node (o259 P) (lf (o478 P)) .nil)) (.node (o161 P) (.node (o227 P) (lf (o446 P)) .nil) (.node (o380 P) (lf (o510 P)) .nil))))) (.node (o46 P) (.node (o59 P) (.node (o75 P) (.node (o109 P) (.node (o175 P) (lf (o392 P)) (lf (o522 P))) (.node (o239 P) (lf (o458 P)) .nil)) (.node (o141 P) (.node (o207 P) (lf (o426 P)) (lf (o644 P))) (.node (o271 P) (lf (o490 P)) .nil))) (.node (o93 P) (.node (o125 P) (.node (o191 P) (lf (o410 P)) (lf (o538 P))) (.node (o255 P) (lf (o474 P)) .nil)) (.node (o157 P) (.node (o223 P) (lf (o442 P)) .nil) (.node (o287 P) (lf (o506 P)) .nil)))) (.node (o67 P) (.node (o83 P) (.node (o117 P) (.node (o183 P) (lf (o402 P)) (lf (o530 P))) (.node (o247 P) (lf (o466 P)) .nil)) (.node (o149 P) (.node (o215 P) (lf (o434 P)) (lf (o652 P))) (.node (o279 P) (lf (o498 P)) .nil))) (.node (o101 P) (.node (o133 P) (.node (o199 P) (lf (o418 P)) (lf (o546 P))) (.node (o263 P) (lf (o482 P)) .nil)) (.node (o165 P) (.node (o231 P) (lf (o450 P)) .nil) (.node (o384 P) (lf (o514 P)) .nil))))))))
noncomputable def hA (P : Params) : Heap := ⟨⟨[boot_o_0 P, boot_o_1 P, boot_o_2 P, boot_o_3 P, boot_o_4 P, boot_o_5 P, boot_o_6 P, boot_o_7 P, boot_o_8 P, boot_o_9 P, boot_o_10 P, o43 P, o44 P, o45 P, o46 P]⟩, {}⟩
noncomputable def hZ (P : Params) : Heap := ⟨⟨[boot_o_0 P, boot_o_1 P, o49 P, o635 P, boot_o_4 P, boot_o_5 P, boot_o_6 P, boot_o_7 P, boot_o_8 P, boot_o_9 P, boot_o_10 P, o43 P, o636 P, o45 P, o46 P, o52 P, o53 P, o54 P, o55 P, o56 P, o57 P, o58 P, o59 P, o60 P, o61 P, o62 P, o63 P, o64 P, o65 P, o66 P, o67 P, o68 P, o69 P, o70 P, o71 P, o72 P, o73 P, o74 P, o75 P, o76 P, o77 P, o78 P, o79 P, o80 P, o81 P, o82 P, o83 P, o86 P, o87 P, o88 P, o89 P, o90 P, o91 P, o92 P, o93 P, o94 P, o95 P, o96 P, o97 P, o98 P, o99 P, o100 P, o101 P, o102 P, o103 P, o104 P, o105 P, o106 P, o107 P, o108 P, o109 P, o110 P, o111 P, o112 P, o113 P, o114 P, o115 P, o116 P, o117 P, o118 P, o119 P, o120 P, o121 P, o122 P, o123 P, o124 P, o125 P, o126 P, o127 P, o128 P, o129 P, o130 P, o131 P, o132 P, o133 P, o134 P, o135 P, o136 P, o137 P, o138 P, o139 P, o140 P, o141 P, o142 P, o143 P, o144 P, o145 P, o146 P, o147 P, o148 P, o149 P, o150 P, o151 P, o152 P, o153 P, o154 P, o155 P, o156 P, o157 P, o158 P, o159 P, o160 P, o161 P, o162 P, o163 P, o164 P, o165 P, o166 P, o167 P, o168 P, o169 P, o172 P, o173 P, o174 P, o175 P, o176 P, o177 P, o178 P, o179 P, o180 P, o181 P, o182 P, o183 P, o184 P, o185 P, o186 P, o187 P, o188 P, o189 P, o190 P, o191 P, o192 P, o193 P, o194 P, o195 P, o196 P, o197 P, o198 P, o199 P, o200 P, o201 P, o202 P, o203 P, o204 P, o205 P, o206 P, o207 P, o208 P, o209 P, o210 P, o211 P, o212 P, o213 P, o214 P, o215 P, o216 P, o217 P, o218 P, o219 P, o220 P, o221 P, o222 P, o223 P, o224 P, o225 P, o226 P, o227 P, o228 P, o229 P, o230 P, o231 P, o232 P, o233 P, o234 P, o235 P, o236 P, o237 P, o238 P, o239 P, o240 P, o241 P, o242 P, o243 P, o244 P, o245 P, o246 P, o247 P, o248 P, o249 P, o250 P, o251 P, o252 P, o253 P, o254 P, o255 P, o256 P, o257 P, o258 P, o259 P, o260 P, o261 P, o262 P, o263 P, o264 P, o265 P, o266 P, o267 P, o268 P, o269 P, o270 P, o271 P, o272 P, o273 P, o274 P, o275 P, o276 P, o277 P, o278 P, o279 P, o280 P, o281 P, o282 P, o283 P, o284 P, o285 P, o286 P, o287 P, o288 P, o378 P, o379 P, o380 P, o381 P, o382 P, o383 P, o384 P, o385 P, o386 P, o387 P, o388 P, o389 P, o390 P, o391 P, o392 P, o393 P, o394 P, o395 P, o396 P, o397 P, o400 P, o401 P, o402 P, o403 P, o404 P, o405 P, o406 P, o407 P, o408 P, o409 P, o410 P, o411 P, o412 P, o413 P, o414 P, o415 P, o416 P, o417 P, o418 P, o419 P, o420 P, o421 P, o422 P, o423 P, o424 P, o425 P, o426 P, o427 P, o428 P, o429 P, o430 P, o431 P, o432 P, o433 P, o434 P, o435 P, o436 P, o437 P, o438 P, o439 P, o440 P, o441 P, o442 P, o443 P, o444 P, o445 P, o446 P, o447 P, o448 P, o449 P, o450 P, o451 P, o452 P, o453 P, o454 P, o455 P, o456 P, o457 P, o458 P, o459 P, o460 P, o461 P, o462 P, o463 P, o464 P, o465 P, o466 P, o467 P, o468 P, o469 P, o470 P, o471 P, o472 P, o473 P, o474 P, o475 P, o476 P, o477 P, o478 P, o479 P, o480 P, o481 P, o482 P, o483 P, o484 P, o485 P, o486 P, o487 P, o488 P, o489 P, o490 P, o491 P, o492 P, o493 P, o494 P, o495 P, o496 P, o497 P, o498 P, o499 P, o500 P, o501 P, o502 P, o503 P, o504 P, o505 P, o506 P, o507 P, o508 P, o509 P, o510 P, o511 P, o512 P, o513 P, o514 P, o515 P, o516 P, o517 P, o518 P, o519 P, o520 P, o521 P, o522 P, o523 P, o524 P, o525 P, o526 P, o527 P, o528 P, o529 P, o530 P, o531 P, o532 P, o533 P, o534 P, o535 P, o536 P, o537 P, o538 P, o539 P, o540 P, o541 P, o542 P, o543 P, o544 P, o545 P, o546 P, o637 P, o638 P, o639 P, o640 P, o641 P, o642 P, o643 P, o644 P, o645 P, o646 P, o647 P, o648 P, o649 P, o650 P, o651 P, o652 P, o653 P, o654 P, o655 P]⟩, {}⟩
set_option maxRecDepth 20000 in
noncomputable def kF (P : Params) : Frag := (nat_lit 2, o49 P) :: (nat_lit 3, o635 P) :: (nat_lit 15, o52 P) :: (nat_lit 17, o54 P) :: (nat_lit 18, o55 P) :: (nat_lit 20, o57 P) :: (nat_lit 21, o58 P) :: (nat_lit 22, o59 P) :: (nat_lit 25, o62 P) :: (nat_lit 26, o63 P) :: (nat_lit 27, o64 P) :: (nat_lit 34, o71 P) :: (nat_lit 36, o73 P) :: (nat_lit 37, o74 P) :: (nat_lit 39, o76 P) :: (nat_lit 40, o77 P) :: (nat_lit 41, o78 P) :: (nat_lit 42, o79 P) :: (nat_lit 43, o80 P) :: (nat_lit 44, o81 P) :: (nat_lit 54, o93 P) :: (nat_lit 56, o95 P) :: (nat_lit 57, o96 P) :: (nat_lit 59, o98 P) :: (nat_lit 60, o99 P) :: (nat_lit 61, o100 P) :: (nat_lit 63, o102 P) :: (nat_lit 64, o103 P) :: (nat_lit 66, o105 P) :: (nat_lit 67, o106 P) :: (nat_lit 68, o107 P) :: (nat_lit 70, o109 P) :: (nat_lit 71, o110 P) :: (nat_lit 73, o112 P) :: (nat_lit 74, o113 P) :: (nat_lit 75, o114 P) :: (nat_lit 77, o116 P) :: (nat_lit 78, o117 P) :: (nat_lit 80, o119 P) :: (nat_lit 81, o120 P) :: (nat_lit 82, o121 P) :: (nat_lit 84, o123 P) :: (nat_lit 85, o124 P) :: (nat_lit 87, o126 P) :: (nat_lit 88, o127 P) :: (nat_lit 89, o128 P) :: (nat_lit 91, o130 P) :: (nat_lit 92, o131 P) :: (nat_lit 94, o133 P) :: (nat_lit 95, o134 P) :: (nat_lit 96, o135 P) :: (nat_lit 98, o137 P) :: (nat_lit 99, o138 P) :: (nat_lit 101, o140 P) :: (nat_lit 102, o141 P) :: (nat_lit 103, o142 P) :: (nat_lit 105, o144 P) :: (nat_lit 106, o145 P) :: (nat_lit 108, o147 P) :: (nat_lit 109, o148 P) :: (nat_lit 110, o149 P) :: (nat_lit 112, o151 P) :: (nat_lit 113, o152 P) :: (nat_lit 115, o154 P) :: (nat_lit 116, o155 P) :: (nat_lit 117, o156 P) :: (nat_lit 119, o158 P) :: (nat_lit 120, o159 P) :: (nat_lit 122, o161 P) :: (nat_lit 123, o162 P) :: (nat_lit 124, o163 P) :: (nat_lit 125, o164 P) :: (nat_lit 126, o165 P) :: (nat_lit 127, o166 P) :: (nat_lit 128, o167 P) :: (nat_lit 138, o179 P) :: (nat_lit 140, o181 P) :: (nat_lit 141, o182 P) :: (nat_lit 143, o184 P) :: (nat_lit 144, o185 P) :: (nat_lit 145, o186 P) :: (nat_lit 147, o188 P) :: (nat_lit 148, o189 P) :: (nat_lit 150, o191 P) :: (nat_lit 151, o192 P) :: (nat_lit 152, o193 P) :: (nat_lit 154, o195 P) :: (nat_lit 155, o196 P) :: (nat_lit 157, o198 P) :: (nat_lit 158, o199 P) :: (nat_lit 159, o200 P) :: (nat_lit 161, o202 P) :: (nat_lit 162, o203 P) :: (nat_lit 164, o205 P) :: (nat_lit 165, o206 P) :: (nat_lit 166, o207 P) :: (nat_lit 168, o209 P) :: (nat_lit 169, o210 P) :: (nat_lit 171, o212 P) :: (nat_lit 172, o213 P) :: (nat_lit 173, o214 P) :: (nat_lit 175, o216 P) :: (nat_lit 176, o217 P) :: (nat_lit 178, o219 P) :: (nat_lit 179, o220 P) :: (nat_lit 180, o221 P) :: (nat_lit 182, o223 P) :: (nat_lit 183, o224 P) :: (nat_lit 185, o226 P) :: (nat_lit 186, o227 P) :: (nat_lit 187, o228 P) :: (nat_lit 189, o230 P) :: (nat_lit 190, o231 P) :: (nat_lit 192, o233 P) :: (nat_lit 193, o234 P) :: (nat_lit 194, o235 P) :: (nat_lit 196, o237 P) :: (nat_lit 197, o238 P) :: (nat_lit 199, o240 P) :: (nat_lit 200, o241 P) :: (nat_lit 201, o242 P) :: (nat_lit 203, o244 P) :: (nat_lit 204, o245 P) :: (nat_lit 206, o247 P) :: (nat_lit 207, o248 P) :: (nat_lit 208, o249 P) :: (nat_lit 210, o251 P) :: (nat_lit 211, o252 P) :: (nat_lit 213, o254 P) :: (nat_lit 214, o255 P) :: (nat_lit 215, o256 P) :: (nat_lit 217, o258 P) :: (nat_lit 218, o259 P) :: (nat_lit 220, o261 P) :: (nat_lit 221, o262 P) :: (nat_lit 222, o263 P) :: (nat_lit 224, o265 P) :: (nat_lit 225, o266 P) :: (nat_lit 227, o268 P) :: (nat_lit 228, o269 P) :: (nat_lit 229, o270 P) :: (nat_lit 231, o272 P) :: (nat_lit 232, o273 P) :: (nat_lit 234, o275 P) :: (nat_lit 235, o276 P) :: (nat_lit 236, o277 P) :: (nat_lit 239, o280 P) :: (nat_lit 240, o281 P) :: (nat_lit 241, o282 P) :: (nat_lit 242, o283 P) :: (nat_lit 243, o284 P) :: (nat_lit 244, o285 P) :: (nat_lit 245, o286 P) :: (nat_lit 248, o378 P) :: (nat_lit 250, o380 P) :: (nat_lit 251, o381 P) :: (nat_lit 253, o383 P) :: (nat_lit 254, o384 P) :: (nat_lit 255, o385 P) :: (nat_lit 257, o387 P) :: (nat_lit 258, o388 P) :: (nat_lit 260, o390 P) :: (nat_lit 261, o391 P) :: (nat_lit 262, o392 P) :: (nat_lit 265, o395 P) :: (nat_lit 266, o396 P) :: (nat_lit 267, o397 P) :: (nat_lit 275, o407 P) :: (nat_lit 277, o409 P) :: (nat_lit 278, o410 P) :: (nat_lit 280, o412 P) :: (nat_lit 281, o413 P) :: (nat_lit 282, o414 P) :: (nat_lit 284, o416 P) :: (nat_lit 285, o417 P) :: (nat_lit 287, o419 P) :: (nat_lit 288, o420 P) :: (nat_lit 289, o421 P) :: (nat_lit 291, o423 P) :: (nat_lit 292, o424 P) :: (nat_lit 294, o426 P) :: (nat_lit 295, o427 P) :: (nat_lit 296, o428 P) :: (nat_lit 298, o430 P) :: (nat_lit 299, o431 P) :: (nat_lit 301, o433 P) :: (nat_lit 302, o434 P) :: (nat_lit 303, o435 P) :: (nat_lit 305, o437 P) :: (nat_lit 306, o438 P) :: (nat_lit 308, o440 P) :: (nat_lit 309, o441 P) :: (nat_lit 310, o442 P) :: (nat_lit 312, o444 P) :: (nat_lit 313, o445 P) :: (nat_lit 315, o447 P) :: (nat_lit 316, o448 P) :: (nat_lit 317, o449 P) :: (nat_lit 319, o451 P) :: (nat_lit 320, o452 P) :: (nat_lit 322, o454 P) :: (nat_lit 323, o455 P) :: (nat_lit 324, o456 P) :: (nat_lit 326, o458 P) :: (nat_lit 327, o459 P) :: (nat_lit 329, o461 P) :: (nat_lit 330, o462 P) :: (nat_lit 331, o463 P) :: (nat_lit 333, o465 P) :: (nat_lit 334, o466 P) :: (nat_lit 336, o468 P) :: (nat_lit 337, o469 P) :: (nat_lit 338, o470 P) :: (nat_lit 340, o472 P) :: (nat_lit 341, o473 P) :: (nat_lit 343, o475 P) :: (nat_lit 344, o476 P) :: (nat_lit 345, o477 P) :: (nat_lit 347, o479 P) :: (nat_lit 348, o480 P) :: (nat_lit 350, o482 P) :: (nat_lit 351, o483 P) :: (nat_lit 352, o484 P) :: (nat_lit 354, o486 P) :: (nat_lit 355, o487 P) :: (nat_lit 357, o489 P) :: (nat_lit 358, o490 P) :: (nat_lit 359, o491 P) :: (nat_lit 361, o493 P) :: (nat_lit 362, o494 P) :: (nat_lit 364, o496 P) :: (nat_lit 365, o497 P) :: (nat_lit 366, o498 P) :: (nat_lit 368, o500 P) :: (nat_lit 369, o501 P) :: (nat_lit 371, o503 P) :: (nat_lit 372, o504 P) :: (nat_lit 373, o505 P) :: (nat_lit 375, o507 P) :: (nat_lit 376, o508 P) :: (nat_lit 378, o510 P) :: (nat_lit 379, o511 P) :: (nat_lit 380, o512 P) :: (nat_lit 382, o514 P) :: (nat_lit 383, o515 P) :: (nat_lit 385, o517 P) :: (nat_lit 386, o518 P) :: (nat_lit 387, o519 P) :: (nat_lit 389, o521 P) :: (nat_lit 390, o522 P) :: (nat_lit 392, o524 P) :: (nat_lit 393, o525 P) :: (nat_lit 394, o526 P) :: (nat_lit 396, o528 P) :: (nat_lit 397, o529 P) :: (nat_lit 399, o531 P) :: (nat_lit 400, o532 P) :: (nat_lit 401, o533 P) :: (nat_lit 403, o535 P) :: (nat_lit 404, o536 P) :: (nat_lit 406, o538 P) :: (nat_lit 407, o539 P) :: (nat_lit 408, o540 P) :: (nat_lit 409, o541 P) :: (nat_lit 410, o542 P) :: (nat_lit 411, o543 P) :: (nat_lit 412, o544 P) :: (nat_lit 415, o637 P) :: (nat_lit 417, o639 P) :: (nat_lit 418, o640 P) :: (nat_lit 420, o642 P) :: (nat_lit 421, o643 P) :: (nat_lit 422, o644 P) :: (nat_lit 424, o646 P) :: (nat_lit 425, o647 P) :: (nat_lit 427, o649 P) :: (nat_lit 428, o650 P) :: (nat_lit 429, o651 P) :: (nat_lit 432, o654 P) :: (nat_lit 433, o655 P) :: []
-- the head: the run of the text's top, piece by piece, on the data above
noncomputable abbrev sgo (w : World) (n : Nat) (t : Params → BT) (k tk : Nat) (l : List Stmt) (p : Pos) (os : OsState) :=
  segRunT treeTable pg w 11 (some (.ref 6)) 1 n ⟨t w.params, k, {}, #[], {}, tk, os⟩ (piecesOf l eT (.body (behindTheImports pg) eT) p [topFrame ⟨0, 0, 0, 0⟩])
noncomputable abbrev send (w : World) (t : Params → BT) (k tk : Nat) (p : Pos) (os : OsState) : Option (Flow × SharedT × Code × Pos) :=
  some (.next, ⟨t w.params, k, {}, #[], {}, tk, os⟩, .body (behindTheImports pg) eT, p)
section
open PySem.W.Fast
set_option maxRecDepth 100000
theorem hs1 (w : World) : (fun os => sgo w 347 t1 15 187 l1 ⟨0, 0, 0, 0⟩ os) = fun os => send w t2 47 243 ⟨27, 0, 27, 11⟩ os := by
  unfold sgo; rw [te10110043849684766642, te14364793385576792824]; kernel_rfl
theorem hs2 (w : World) : (fun os => sgo w 516 t2 47 243 l2 ⟨27, 0, 27, 11⟩ os) = fun os => send w t3 131 349 ⟨28, 0, 79, 38⟩ os := by
  unfold sgo; rw [te10110043849684766642, te14364793385576792824]; kernel_rfl
theorem hs3 (w : World) : (fun os => sgo w 683 t3 131 349 l3 ⟨28, 0, 79, 38⟩ os) = fun os => send w t4 248 504 ⟨80, 0, 170, 21⟩ os := by
  unfold sgo; rw [te10110043849684766642, te14364793385576792824]; kernel_rfl
theorem hs4 (w : World) : (fun os => sgo w 140 t4 248 504 l4 ⟨80, 0, 170, 21⟩ os) = fun os => send w t5 268 542 ⟨192, 0, 192, 10⟩ os := by
  unfold sgo; rw [te10110043849684766642, te14364793385576792824]; kernel_rfl
theorem hs5 (w : World) : (fun os => sgo w 816 t5 268 542 l5 ⟨192, 0, 192, 10⟩ os) = fun os => send w t6 415 732 ⟨193, 0, 280, 17⟩ os := by
  unfold sgo; rw [te10110043849684766642, te14364793385576792824]; kernel_rfl
theorem hs6 (w : World) : (fun os => sgo w 95 t6 415 732 l6 ⟨193, 0, 280, 17⟩ os) = fun os => send w t7 434 755 ⟨291, 0, 326, 39⟩ os := by
  unfold sgo; rw [te10110043849684766642, te14364793385576792824]; kernel_rfl
theorem hpre (w : World) : (fun os => topGo treeTable pg w 11 (some (.ref 6)) 12 ⟨boot_heap w.params, #[], boot_drawn, boot_toks, os⟩ (topStub pg)) =
    fun os => some (⟨hA w.params, #[], {}, 187, os⟩, ⟨denote treeTable (.body (behindTheImports pg) eT), .body (behindTheImports pg) eT, ⟨0, 0, 0, 0⟩, [topFrame ⟨0, 0, 0, 0⟩]⟩) := by
  rw [te15667345088766844465, te14364793385576792824, te11892475500146522536]; kernel_rfl
theorem hblk (w : World) : (fun os => segRun treeTable pg w 11 (some (.ref 6)) 1 1 ⟨hA w.params, #[], {}, 187, os⟩ (blockOf (behindTheImports pg) eT (.body (behindTheImports pg) eT) ⟨0, 0, 0, 0⟩ [topFrame ⟨0, 0, 0, 0⟩])) =
    fun os => some (.next, SharedT.abs ⟨t1 w.params, 15, {}, #[], {}, 187, os⟩, .body (behindTheImports pg) eT, ⟨0, 0, 0, 0⟩) := by
  rw [te14374325043358763698, te14364793385576792824]; kernel_rfl
theorem hfin (w : World) : (fun os => topRun treeTable pg w 11 (some (.ref 6)) 2 (SharedT.abs ⟨t7 w.params, 434, {}, #[], {}, 755, os⟩) ⟨doneF .next, .body (behindTheImports pg) eT, ⟨291, 0, 326, 39⟩, [topFrame ⟨0, 0, 0, 0⟩]⟩) =
    fun os => some ⟨hZ w.params, #[], {}, 755, os⟩ := by
  rw [te14082659384304107361, te14364793385576792824]; kernel_rfl
theorem hrun (w : World) (os : OsState) : topRun treeTable pg w 11 (some (.ref 6)) (12 + (1 + (347 + (516 + (683 + (140 + (816 + (95 + 2)))))))) ⟨boot_heap w.params, #[], boot_drawn, boot_toks, os⟩ (topStub pg) =
    some ⟨hZ w.params, #[], {}, 755, os⟩ := by
  refine go_top (congrFun (hpre w) os) ?_
  refine piece_block (congrFun (hblk w) os) ?_
  have e : behindTheImports pg = l1 ++ (l2 ++ (l3 ++ (l4 ++ (l5 ++ (l6 ++ []))))) := by kernel_rfl
  show topRun _ _ _ _ _ _ _ (restOf (behindTheImports pg) eT (.body (behindTheImports pg) eT) _ _) = _
  have r6 := piece_app (rest := []) (segRun_of (congrFun (hs6 w) os)) (congrFun (hfin w) os)
  have r5 := piece_app (segRun_of (congrFun (hs5 w) os)) r6
  have r4 := piece_app (segRun_of (congrFun (hs4 w) os)) r5
  have r3 := piece_app (segRun_of (congrFun (hs3 w) os)) r4
  have r2 := piece_app (segRun_of (congrFun (hs2 w) os)) r3
  have r1 := piece_app (segRun_of (congrFun (hs1 w) os)) r2
  exact (congrArg (fun l => topRun treeTable pg w 11 (some (.ref 6)) _ (SharedT.abs ⟨t1 w.params, 15, {}, #[], {}, 187, os⟩) (restOf l eT (.body (behindTheImports pg) eT) ⟨0, 0, 0, 0⟩ [topFrame ⟨0, 0, 0, 0⟩])) e).trans r1
theorem hsize (w : World) : ((boot_heap w.params).isNs mainGlobals && (#[] : Array GenState).size == 0, (boot_heap w.params).objs.size, (boot_heap w.params).nsMap mainGlobals "__annotations__") = (true, 11, some (.ref 6)) := by
  rw [te8920871248978507458]; kernel_rfl
noncomputable abbrev sZ (w : World) (os : OsState) : Shared := ⟨hZ w.params, #[], {}, 755, os⟩
noncomputable abbrev xt : Shared → Bool := fun s => xlAt qV [] s && recOk (RowW.records PySem.Challenge.rw_pf0273_01.row.toRowW) s
theorem hk1 (w : World) : (fun os => staticsOk (importedModules pg.main.body) (boot_heap w.params) (hZ w.params) && namesBound pg (hZ w.params) && gensDone (sZ w os) && laidKept (boot_heap w.params) (hZ w.params)) = fun _ => true := by
  rw [te5923862056798008813]; kernel_rfl
theorem hk2 (w : World) : (fun os => seen ((recsOf qV).map (·.name)) (ownsOf qV) [] { sZ w os with gens := #[] }) = fun _ => expectedOf qV := by
  rw [te5160383126252970620, te5991557255702980513]; simp only [te3399658132070893891, PySem.W.R.mapR_eq]; kernel_rfl
theorem hk3 (w : World) : (fun os => (sZ w os).heap.bltView) = fun _ => bltViewBooted := by kernel_rfl
theorem hk4 (w : World) : (fun os => (sZ w os).heap.keysOk (looseW qV []) ((recsOf qV).map (·.name)) ((litsOf qV).map (·.1)) ((clssOf qV (looseW qV [])).map (·.name)) && (sZ w os).heap.accountedOkI (importedModules pg.main.body) && (sZ w os).heap.isNs mainGlobals && (sZ w os).heap.isNs builtinsNs && tablesOk qV (sZ w os).heap && xt (sZ w os) && (if true then (sZ w os).gens.size == 0 else !leftWithCleanup (sZ w os).gens)) = fun _ => true := by
  simp only [te10880121769531294198, te821141287760084731, PySem.W.R.mapR_eq, te3399658132070893891, te7409074990110511671, te13664370479719496447, te14722251495701143533, te5923862056798008813, te10994771534591457954]; kernel_rfl
theorem hk5 (w : World) : (fun os => tabsOk qV (sZ w os)) = fun _ => true := by rw [te479339242167458305]; kernel_rfl
theorem hk6 (w : World) : (fun os => pinSeenD qV (drecsOf qV) (sZ w os)) = fun _ => pinGoodD (drecsOf qV) := by rw [te16090120013241838585, te3247288618530077131]; kernel_rfl
theorem hk7 (w : World) : (fun os => plainSeenE qV (looseW qV []) (sZ w os)) = fun _ => plainGoodE qV (looseW qV []) := by rw [te2386780881361962483, te821141287760084731]; kernel_rfl
theorem hk8 (w : World) : (fun os => plainSeenD qV [] (sZ w os)) = fun _ => plainGoodD qV [] := by rw [te11698064438423848299]; kernel_rfl
theorem hk9 (w : World) : (fun os => wideSeen qV (sZ w os)) = fun _ => wideGood qV := by rw [te7317090234206586261]; kernel_rfl
theorem hk10 (w : World) : (fun os => clsSeenW qV [] (sZ w os)) = fun _ => clsGoodW qV [] := by rw [te7369524293546568484]; kernel_rfl
theorem hkeys (P : Params) : kAs = (kF P).map (·.1) := by kernel_rfl
theorem hk11 (w : World) : (fun os => kAs.map (sZ w os).heap.get?) = fun _ => (kF w.params).map fun p => some p.2 := by kernel_rfl
end
noncomputable abbrev kHk : Hook := kHook kF kAs hkeys
theorem left : LeftO pg qV [] xt (Hook.obs kHk) (Hook.val kHk) 5308 true := by
  refine LeftO.of_pieces (boot_open (by kernel_rfl) (by decide) (fun s => by rfl)) hsize hrun (by decide) fun w => funext fun os => ?_
  have a1 := congrFun (hk1 w) os
  have a2 := congrFun (hk2 w) os
  have a3 := congrFun (hk3 w) os
  have a4 := congrFun (hk4 w) os
  have a5 := congrFun (hk5 w) os
  have a6 := congrFun (hk6 w) os
  have a7 := congrFun (hk7 w) os
  have a8 := congrFun (hk8 w) os
  have a9 := congrFun (hk9 w) os
  have a10 := congrFun (hk10 w) os
  have a11 := congrFun (hk11 w) os
  exact looks_pair a1 (looks_pair (looks_pair a2 (looks_pair a3 (looks_pair a4 (looks_pair a5 (looks_pair a6 (looks_pair a7 (looks_pair a8 (looks_pair a9 a10)))))))) a11)
-- the looks at the row, each heavy one by itself, by the library's quick forms
section
open PySem.W.Fast
set_option maxRecDepth 100000
noncomputable abbrev pR : Program := PySem.Challenge.rw_pf0273_01.row.prog
noncomputable abbrev pL : Program := PySem.Challenge.rw_pf0273_01.prog
theorem lkN : namesResolve pR = true := by rw [te8377067652309620493]; kernel_rfl
theorem lkA : namesMeet pR pR.main.body (fun _ n => attrL n) = true := by rw [te17868728402115742887, te17119622794617984870]; kernel_rfl
theorem lkV : readsOut pR pR.main.body "vars" = false := by rw [te13343964577679436407]; kernel_rfl
theorem lkD : readsOut pR pR.main.body "dir" = false := by rw [te13343964577679436407]; kernel_rfl
theorem lkL : readsOut pR pR.main.body "locals" = false := by rw [te13343964577679436407]; kernel_rfl
theorem lkR : noRoadLSs { strict := !(importedModules pR.main.body).all cThrough.contains, foot := none, bare := [] } pR.main.body = true := by rw [te8326940854005059898]; kernel_rfl
theorem lkB : (["vars", "dir", "locals"] : List Str).filter (readsOut pR pR.main.body) = [] := by
  rw [List.filter_cons_of_neg (by rw [lkV]; exact Bool.false_ne_true), List.filter_cons_of_neg (by rw [lkD]; exact Bool.false_ne_true), List.filter_cons_of_neg (by rw [lkL]; exact Bool.false_ne_true)]; rfl
theorem lkO : looksOpen pR = true := by
  unfold looksOpen
  refine look_both (look_both (look_both (look_both (look_both ?_ ?_) lkN) ?_) ?_) lkA
  · rw [te11788848310118352699]; kernel_rfl
  · rw [te12862048085361865435]; kernel_rfl
  · rw [te18344453789297297638, te14412699480532031325]; kernel_rfl
  · rw [lkB]; exact lkR
theorem lkP : namesMeet pL PySem.Challenge.rw_pf0273_01.above (fun _ n => !PySem.Challenge.rw_pf0273_01.own.contains n) = true := by rw [te17119622794617984870]; kernel_rfl
theorem lkW : OpenRow.wellSaid PySem.Challenge.rw_pf0273_01.row = true := by
  unfold OpenRow.wellSaid OpenRow.partSaid
  rw [show looksOpen PySem.Challenge.rw_pf0273_01.row.prog = true from lkO, te18344453789297297638]; kernel_rfl
theorem said : OpenLaw.wellSaid PySem.Challenge.rw_pf0273_01 = true := by
  unfold OpenLaw.wellSaid
  rw [lkW, lkP]
  simp only [te17119622794617984870, te8326940854005059898, te8179353310426384613, te16286561074155671207, te6984425678791042302, named_eq]; kernel_rfl
end
/-! parts of the law's text, by projection -/
noncomputable def lawStmt : Option Stmt := PySem.Challenge.pw_pf0273_01.main.body.getLast?
noncomputable def lawBody : List Stmt := match lawStmt with
  | some (Stmt.FunctionDef _ _ b _ _ _ _ _ _ _) => b
  | _ => []
noncomputable def lawScope : Scope := match lawStmt with
  | some (Stmt.FunctionDef _ _ _ _ _ _ s _ _ _) => s
  | _ => default
noncomputable def turnBody : List Stmt := match lawBody[5]? with
  | some (Stmt.For _ _ b _ _) => b
  | _ => []
noncomputable def lamOf (i : Nat) : Arguments × PySem.Expr × Scope := match lawBody[i]? with
  | some (Stmt.Assign _ (PySem.Expr.Lambda a b s _) _) => (a, b, s)
  | _ => (default, default, default)
noncomputable abbrev MP (w : World) : Model := model PySem.Challenge.rw_pf0273_01.row.prog w
noncomputable abbrev looseP : List Str := looseW qV [] ++ List.map (fun x => x.name) (recsOf qV) ++ List.map (fun x => x.fst) (litsOf qV) ++ List.map (fun x => x.name) (clssOf qV (looseW qV []))
theorem x1 : turnBody.length = 18 := by decide +kernel
theorem notMem_of {X : Nat} {l : List (Addr × Obj)} (h : ∀ p ∈ l, p.1 ≠ X) : ∀ p ∈ l, p.1 ≠ X := h
theorem fmod_in (a : Int) {b : Int} (h : 1 ≤ b) : 0 ≤ a.fmod b ∧ a.fmod b < b := by
  rw [Int.fmod_eq_emod_of_nonneg a (by omega)]
  exact ⟨Int.emod_nonneg _ (by omega), Int.emod_lt_of_pos _ (by omega)⟩
section
local macro_rules | `(tactic| k_all) => `(tactic| exact notMem_of (by assumption))
set_option maxRecDepth 100000 in
set_option maxHeartbeats 0 in
theorem take_ct0 {w : World} {g : Heap} {L fa : Addr} {mg mb mean} {s : Shared} {Q : Value → Shared → Prop} {E : Value → Shared → Prop}
  {m : Str → Option Value} {ws : List Value} {ns : List Int} {cd cb : Nat} {DB BX : Nat} {k many : Int} {tb tm : Tok} {rest : List (Addr × Obj)}
  (T : Top topProg looseP mean mg mb g)
  (K0 : Below callerA g [] g)
  (hI : IntsAre ws ns) (hlen : ns.length ≤ 24) (hk : 0 ≤ k) (hk2 : k ≤ 1000) (hm : 1 ≤ many) (hm2 : many ≤ 8)
  (hne : @LT.lt Nat _ DB BX) (hr : ∀ p ∈ rest, p.1 ≠ BX)
  (F : Fr g L s.heap m)
  (N : News g L s.heap ((BX, listOf #[.ref DB, .int k tb] cb) :: (DB, listOf ws.toArray cd) :: rest))
  (h : ∀ r tr tk' tb' h', 0 ≤ r → r < many → Fr g L h' m → News g L h' ((BX, listOf #[.ref DB, .int (k + 1) tb'] cb) :: (DB, listOf ws.toArray cd) :: rest) → Q (.int r tr) { s with heap := h', toks := tk' })
  (X : (kF w.params).In g) :
  wpAny (MP w) (callerA.deeper (envOf (Str.ofString "law") lawScope L fa (Value.ref 432))) (PySem.call (.ref 428) [.ref BX, .int many tm]) Q E s := by
  revert X
  dsimp only [MP]
  k_fill
  intro X
  generalize hs : lawScope = sc
  conv at hs => lhs; whnf
  subst hs
  dsimp only [looseP] at T
  repeat' (first | (refine h _ _ _ _ _ (fmod_in _ hm).1 (fmod_in _ hm).2 (by assumption) (by assumption)) | (k_unfold; (try dsimp only)) | (k_end; wrow_close) | walk1 | (dsimp only; walk1) | (leave1; walk_say "STEP leave1"; try dsimp only) | fail "no step")
end
/-- the ledger with one object turned: membership of what Upd says -/
theorem upd_sub {d : Addr} {o o' : Obj} {pre post l' : List (Addr × Obj)} (hpre : ∀ p ∈ pre, p.1 ≠ d) (hpost : ∀ p ∈ post, p.1 ≠ d) (U : Upd d o o' (pre ++ (d, o) :: post) l') : ∀ p ∈ l', p = (d, o') ∨ p ∈ pre ++ post := by
  obtain ⟨pre', post', e, e', h1, h2⟩ := U.split
  intro p hp
  rw [e'] at hp
  rcases List.mem_append.mp hp with hp | hp
  · have : p ∈ pre ++ (d, o) :: post := by rw [e]; exact List.mem_append_left _ hp
    rcases List.mem_append.mp this with q | q
    · exact .inr (List.mem_append_left _ q)
    · rcases List.mem_cons.mp q with rfl | q
      · exact absurd rfl (h1 _ hp)
      · exact .inr (List.mem_append_right _ q)
  · rcases List.mem_cons.mp hp with rfl | hp
    · exact .inl rfl
    · have : p ∈ pre ++ (d, o) :: post := by rw [e]; exact List.mem_append_right _ (List.mem_cons_of_mem _ hp)
      rcases List.mem_append.mp this with q | q
      · exact .inr (List.mem_append_left _ q)
      · rcases List.mem_cons.mp q with rfl | q
        · exact absurd rfl (h2 _ hp)
        · exact .inr (List.mem_append_right _ q)
theorem take_ct {w : World} {g : Heap} {L fa : Addr} {mg mb mean} {s : Shared} {Q : Value → Shared → Prop} {E : Value → Shared → Prop}
  {m : Str → Option Value} {ws : List Value} {ns : List Int} {cd cb : Nat} {DB BX : Nat} {k many : Int} {tb tm : Tok} {news newsX : List (Addr × Obj)} {oX : Obj}
  (T : Top topProg looseP mean mg mb g)
  (K0 : Below callerA g [] g)
  (F : Fr g L s.heap m)
  (N : News g L s.heap news)
  (hI : IntsAre ws ns) (U : Upd BX (listOf #[.ref DB, .int k tb] cb) oX news newsX) (hdb : (DB, listOf ws.toArray cd) ∈ news) (hlen : ns.length ≤ 24) (hk : 0 ≤ k) (hk2 : k ≤ 1000) (hm : 1 ≤ many) (hm2 : many ≤ 8)
  (hne : @LT.lt Nat _ DB BX)
  (X : (kF w.params).In g)
  (h : ∀ r tr tk' tb' h', 0 ≤ r → r < many → Fr g L h' m → (∀ news', Upd BX (listOf #[.ref DB, .int k tb] cb) (listOf #[.ref DB, .int (k + 1) tb'] cb) news news' → News g L h' news') → Q (.int r tr) { s with heap := h', toks := tk' }) :
  wpAny (MP w) (callerA.deeper (envOf (Str.ofString "law") lawScope L fa (Value.ref 432))) (PySem.call (.ref 428) [.ref BX, .int many tm]) Q E s := by
  obtain ⟨pre, post, rfl, _, h1, h2⟩ := U.split
  have hne' : DB ≠ BX := Nat.ne_of_lt hne
  refine take_ct0 (tb := tb) (k := k) (cd := cd) (cb := cb) (rest := pre ++ post) T K0 hI hlen hk hk2 hm hm2 hne (fun p hp => (List.mem_append.mp hp).elim (h1 p) (h2 p)) F ?_ ?_ X
  · intro p hp
    rcases List.mem_cons.mp hp with rfl | hp
    · exact N _ (List.mem_append_right _ (.head _))
    rcases List.mem_cons.mp hp with rfl | hp
    · exact N _ hdb
    rcases List.mem_append.mp hp with hp | hp
    · exact N _ (List.mem_append_left _ hp)
    · exact N _ (List.mem_append_right _ (List.mem_cons_of_mem _ hp))
  · intro r tr tk' tb' h' r0 r1 F' N'
    refine h r tr tk' tb' h' r0 r1 F' fun news' U' p hp => ?_
    rcases upd_sub h1 h2 U' p hp with rfl | hp
    · exact N' _ (.head _)
    · exact N' _ (List.mem_cons_of_mem _ (List.mem_cons_of_mem _ hp))
/-- eight octets, all the same -/
noncomputable def b8 (i : Int) : Array UInt8 := ((List.replicate 8 i).map fun n => n.toNat.toUInt8).toArray
theorem ints8 (i : Int) (t : Tok) : IntsAre (List.replicate (Int.toNat 8) [Value.int i t]).flatten (List.replicate 8 i) := by
  show IntsAre [Value.int i t, Value.int i t, Value.int i t, Value.int i t, Value.int i t, Value.int i t, Value.int i t, Value.int i t] [i, i, i, i, i, i, i, i]
  repeat' constructor
theorem b8_inj {i j : Int} (hi : 0 ≤ i ∧ i < 256) (hj : 0 ≤ j ∧ j < 256) : b8 i = b8 j ↔ i = j := by
  constructor
  · intro h
    have h0 : i.toNat.toUInt8 = j.toNat.toUInt8 := by
      have := congrArg (fun a : Array UInt8 => a[0]?) h
      simpa [b8, List.replicate] using this
    have h1 := byte_back hi.1 hi.2
    have h2 := byte_back hj.1 hj.2
    rw [h0] at h1
    omega
  · rintro rfl; rfl
theorem b8_size (i : Int) : (b8 i).size = 8 := by simp [b8]
section
variable {prog : Program} {w : World} {A : Around} {E : Value → Shared → Prop} {s : Shared} {h₀ : Heap} {L : Addr} {m : Str → Option Value} {news : List (Addr × Obj)}
theorem bytes8 {D : Addr} {i : Int} {t : Tok} {n : Nat} {Q : Value → Shared → Prop} (F : Fr h₀ L s.heap m) (N : News h₀ L s.heap news) (hm : (D, listOf (List.replicate (Int.toNat 8) [Value.int i t]).flatten.toArray n) ∈ news)
    (h0 : 0 ≤ i) (h1 : i < 256) (hh : A.handled = none) (h : ∀ h' t k, Fr h₀ L h' m → News h₀ L h' news → Q (.bytes (b8 i) t) { s with heap := h', toks := k }) :
    wpAny (model prog w) A (PySem.call (.type "bytes") [.ref D]) Q E s :=
  bytes_K F N (N.isList hm) (ints8 i t) (fun x hx => by rw [List.eq_of_mem_replicate hx]; exact ⟨h0, h1⟩) (by simp [sizeLine_eq]) hh fun h' t' k F' N' _ => h h' t' k F' N'
theorem item_at {value slice : PySem.Expr} {l : Addr} {vs : List Value} {n : Nat} {k : Int} {u : Tok} {v : Value} {Q : Value → Shared → Prop} (N : News h₀ L s.heap news) (hm : (l, listOf vs.toArray n) ∈ news)
    (h0 : 0 ≤ k) (hk : k < 2 ^ 63) (hx : vs[k.toNat]? = some v) (h : Q v s)
    (hs : subscripted slice false (.ref l) (.int k u) = operate [.ref l, .int k u] (getItem (.ref l) (.int k u)) := by with_unfolding_all rfl) :
    wpAny (model prog w) A (subscriptTail value slice (.ref l) (.int k u)) Q E s :=
  tail_any (N.isList hm).typeIs slot_list_getitem.lookup (wpAny_getItem_list (N.isList hm) h0 hk (by simpa using hx) h) hs
end
/-- what was sent: the octets of the first n trials -/
noncomputable def gl (tg : Nat → Tok) (n : Nat) : List Value := (List.range n).map fun (j : Nat) => Value.bytes (b8 (40 + (j : Int))) (tg j)
theorem gl_length (tg : Nat → Tok) (n : Nat) : (gl tg n).length = n := by simp [gl]
theorem gl_get {tg : Nat → Tok} {n : Nat} {k : Int} (h0 : 0 ≤ k) (h1 : k < n) : (gl tg n)[k.toNat]? = some (Value.bytes (b8 (40 + k)) (tg k.toNat)) := by
  have h : k.toNat < n := by omega
  have e : (k.toNat : Int) = k := Int.toNat_of_nonneg h0
  simp [gl, h, e]
theorem gl_push (tg : Nat → Tok) (n : Nat) (t : Tok) : (gl tg n).toArray.push (Value.bytes (b8 (40 + (n : Int))) t) = (gl (fun j => if j < n then tg j else t) (n + 1)).toArray := by
  apply Array.ext'
  simp only [Array.toList_push, gl, List.range_succ, List.map_append, List.map_cons, List.map_nil]
  congr 1
  · apply List.map_congr_left
    intro j hj
    rw [if_pos (List.mem_range.mp hj)]
  · rw [if_neg (Nat.lt_irrefl n)]
noncomputable abbrev ent (P : Params) (k : String) (t : Tok) (v : Value) : DictEntry := { hash := PyData.keyHash P (Str.ofString k), key := Value.str (Str.ofString k) t, val := v }
/-! a list comprehension over a list of pairs, with one test -/
section
open LCg
def RestPT (prog : Program) (w : World) (A : Around) (h₀ : Heap) (L : Addr) (m : Str → Option Value) (env : Env) (c elt : PySem.Expr) (x x₂ : Str) (scope : Scope) (cl : List (Str × Addr)) (s : Shared) (S : List (Addr × Obj) → Prop)
    (Fin : List Value → List (Addr × Obj) → Prop) : List Value → List Value → List (Addr × Obj) → Prop
  | [], ys, news => Fin ys news
  | v :: r, ys, news => ∃ (t : Addr) (ot : Obj) (v₁ v₂ : Value) (nt : Nat), v = .ref t ∧ (t, ot) ∈ news ∧ ot.cls = .type "tuple" ∧ ot.data = .seq #[v₁, v₂] nt ∧
      ∀ I oI C oC D m₂ h tk (E' : Value → Shared → Prop), NsObj oC m₂ → m₂ x = some v₁ → m₂ x₂ = some v₂ → Fr h₀ L h m → News h₀ L h ((I, oI) :: (C, oC) :: (D, lst ys) :: news) → Off3 I C D news → ((@Ne Nat I C) ∧ (@Ne Nat I D) ∧ (@Ne Nat C D)) →
      wpAny (model prog w) A (isTrue c (compEnvC scope cl C env) (eval c (compEnvC scope cl C env))) (fun okb s₃ => if okb = true then
        wpAny (model prog w) A (eval elt (compEnvC scope cl C env)) (CompEnd h₀ L m { s with heap := h, toks := tk } I oI C oC D (lst ys) S (fun y news' => RestPT prog w A h₀ L m env c elt x x₂ scope cl s S Fin r (ys ++ [y]) news')) E' s₃
        else CompEnd h₀ L m { s with heap := h, toks := tk } I oI C oC D (lst ys) S (fun _ news' => RestPT prog w A h₀ L m env c elt x x₂ scope cl s S Fin r ys news') .none s₃) E' { s with heap := h, toks := tk }
variable {prog : Program} {w : World} {A : Around} {E : Value → Shared → Prop} {s : Shared} {h₀ : Heap} {L : Addr} {m : Str → Option Value} {env : Env}
theorem RestPT.zero {c elt : PySem.Expr} {x x₂ : Str} {scope : Scope} {cl : List (Str × Addr)} {S : List (Addr × Obj) → Prop} {Fin : List Value → List (Addr × Obj) → Prop} {ys : List Value} {news : List (Addr × Obj)} (h : Fin ys news) :
    RestPT prog w A h₀ L m env c elt x x₂ scope cl s S Fin [] ys news := h
theorem RestPT.succ {c elt : PySem.Expr} {x x₂ : Str} {scope : Scope} {cl : List (Str × Addr)} {S : List (Addr × Obj) → Prop} {Fin : List Value → List (Addr × Obj) → Prop} {t : Addr} {v₁ v₂ : Value} {nt : Nat} {r ys : List Value} {news : List (Addr × Obj)}
    (ht : (t, ({ cls := .type "tuple", data := .seq #[v₁, v₂] nt } : Obj)) ∈ news)
    (h : ∀ I oI C oC D m₂ h tk (E' : Value → Shared → Prop), NsObj oC m₂ → m₂ x = some v₁ → m₂ x₂ = some v₂ → Fr h₀ L h m → News h₀ L h ((I, oI) :: (C, oC) :: (D, lst ys) :: news) → Off3 I C D news → ((@Ne Nat I C) ∧ (@Ne Nat I D) ∧ (@Ne Nat C D)) →
      wpAny (model prog w) A (isTrue c (compEnvC scope cl C env) (eval c (compEnvC scope cl C env))) (fun okb s₃ => if okb = true then
        wpAny (model prog w) A (eval elt (compEnvC scope cl C env)) (CompEnd h₀ L m { s with heap := h, toks := tk } I oI C oC D (lst ys) S (fun y news' => RestPT prog w A h₀ L m env c elt x x₂ scope cl s S Fin r (ys ++ [y]) news')) E' s₃
        else CompEnd h₀ L m { s with heap := h, toks := tk } I oI C oC D (lst ys) S (fun _ news' => RestPT prog w A h₀ L m env c elt x x₂ scope cl s S Fin r ys news') .none s₃) E' { s with heap := h, toks := tk }) :
    RestPT prog w A h₀ L m env c elt x x₂ scope cl s S Fin (.ref t :: r) ys news := ⟨t, _, v₁, v₂, nt, rfl, ht, rfl, rfl, h⟩

/-- the loop's state: what is left of the list, what has been kept -/
def PtInv (prog : Program) (w : World) (A : Around) (h₀ : Heap) (L : Addr) (m : Str → Option Value) (env : Env) (c elt : PySem.Expr) (x x₂ : Str) (scope : Scope) (cl : List (Str × Addr)) (s₂ : Shared) (ax I D C : Addr) (its : Array Value)
    (Fin : List Value → List (Addr × Obj) → Prop) (k : Nat) (s' : Shared) : Prop :=
  ∃ h' tk i ys m' news', s' = { s₂ with heap := h', toks := tk } ∧ i ≤ its.size ∧ k = its.size + 1 - i ∧ ys.length ≤ i ∧ h'.IsListIter I ax i ∧ h'.IsList ax its ∧ Fr h₀ L h' m ∧ h'.Ns C m' ∧ News h₀ L h' ((D, lst ys) :: news') ∧
    Off3 I C D news' ∧ SrcAt h₀ ax its news' ∧ RestPT prog w A h₀ L m env c elt x x₂ scope cl s₂ (SrcAt h₀ ax its) Fin (its.toList.drop i) ys news'

theorem pt_block {elt iter c : PySem.Expr} {x x₂ : Str} {px px₂ tp : Pos} {tc} {scope : Scope} {cl : List (Str × Addr)} {pos : Pos} {s₂ : Shared} {I ax : Addr} {its : Array Value} {news : List (Addr × Obj)}
    {Fin : List Value → List (Addr × Obj) → Prop} {RR : Value → Addr → Result → Shared → Prop}
    (hh : A.handled = none) (hne : ax ≠ I) (hsz : its.size ≤ sizeLine) (hit : s₂.heap.IsListIter I ax 0) (hil : s₂.heap.IsList ax its)
    (hcell : ∀ y ∈ scope.names, y.2 ≠ .cell) (hkind : scope.kind = .function) (hx : scope.names.lookup x = some .local) (hx₂ : scope.names.lookup x₂ = some .local) (hxx : x ≠ x₂)
    (F : Fr h₀ L s₂.heap m) (N : News h₀ L s₂.heap news) (hIL : L ≠ I) (hI₀ : h₀.get? I = none) (off : ∀ p ∈ news, p.1 ≠ I) (hS : SrcAt h₀ ax its news)
    (R : RestPT prog w A h₀ L m env c elt x x₂ scope cl s₂ (SrcAt h₀ ax its) Fin its.toList [] news)
    (hRR : ∀ D C h tk m' ys news', Fr h₀ L h m → News h₀ L h ((D, lst ys) :: news') → Off1 D news' → h.Ns C m' → h₀.get? C = none → h₀.get? D = none → C ≠ L → D ≠ L → C ≠ D → (∀ p ∈ news', p.1 ≠ C) → Fin ys news' → RR (.ref D) C (.ok .next) { s₂ with heap := h, toks := tk }) :
    wpAny (model prog w) A (newList []) (fun acc s₃ => wpAny (model prog w) A (newFunctionEnv scope env.globals cl [] env.qual none .none (some env)) (fun cenv s₄ =>
      codeAny (model prog w) A (.compStart (.ListComp elt [⟨.Tuple [.Name x px, .Name x₂ px₂] tc tp, iter, [c], 0⟩] scope pos) 0 (.ref I) acc { cenv with scope := relabel scope env }) (RR acc cenv.locals) s₄) E s₃) E s₂ := by
  have W := Walks.list (prog := prog) (w := w) hh I ax hne its
  have hIlt : @LT.lt Nat _ I s₂.heap.objs.size := by obtain ⟨_, e, _⟩ := hit; exact Heap.lt_size e
  have haxlt : @LT.lt Nat _ ax s₂.heap.objs.size := by obtain ⟨_, e, _⟩ := hil; exact Heap.lt_size e
  refine wpAny_newObj_type (wpAny_newFunctionEnv hcell (by intro y hy; simp at hy) (fun h₁ hns₁ hsb₁ => ?_) hkind)
  dsimp only at hns₁ hsb₁ ⊢
  generalize hD : s₂.heap.objs.size = D at *
  generalize hH2 : s₂.heap.push { cls := .type "list", dict := none, data := .seq ([] : List Value).toArray } = H2 at hns₁ hsb₁ ⊢
  generalize hC : H2.objs.size = C at *
  have hCD1 : C = D + 1 := by rw [← hC, ← hH2, Heap.size_push, hD]
  have fresh₀ : ∀ a, D ≤ a → h₀.get? a = none := fun a ha => by
    cases e : h₀.get? a with
    | none => rfl
    | some o' => have := Heap.lt_size (F.keep a o' e); rw [hD] at this; exact absurd this (Nat.not_lt.mpr ha)
  have hD₀ : h₀.get? D = none := fresh₀ _ (Nat.le_refl _)
  have hC₀ : h₀.get? C = none := fresh₀ _ (by omega)
  have hLlt : @LT.lt Nat _ L D := hD ▸ F.ns.lt
  have hDL : @Ne Nat D L := Nat.ne_of_gt hLlt
  have hCL : @Ne Nat C L := by omega
  have hCI : @Ne Nat I C := by omega
  have hDI : @Ne Nat I D := by omega
  have hDC : @Ne Nat D C := by omega
  have hxC : @Ne Nat ax C := by omega
  have old : ∀ b o, s₂.heap.get? b = some o → h₁.get? b = some o := fun b o e => by
    have hb : b < D := hD ▸ Heap.lt_size e
    exact hsb₁.extBut b o (by show @Ne Nat b C; have hb' : @LT.lt Nat _ b D := hb; omega) (Heap.get?_push_of_some _ (hH2 ▸ Heap.get?_push_of_some _ e))
  have hacc : h₁.get? D = some (lst []) := hsb₁.extBut _ _ hDC (Heap.get?_push_of_some _ (by rw [← hH2, ← hD]; exact Heap.get?_push_size _ rfl))
  have off₀ : Off3 I C D news := Off3.of fun p hp => by
    have this : @LT.lt Nat _ p.1 D := hD ▸ Heap.lt_size (N p hp).1
    exact ⟨off p hp, by show @Ne Nat p.1 C; omega, by show @Ne Nat p.1 D; omega⟩
  have loop : ∀ s₃ : Shared, s₃ = { s₂ with heap := h₁, toks := s₂.toks + ([] : List (Str × Value)).length } →
      codeAny (model prog w) A (.compLoop (.ListComp elt [⟨.Tuple [.Name x px, .Name x₂ px₂] tc tp, iter, [c], 0⟩] scope pos) 0 (.ref I) (.ref D) (compEnvC scope cl C env)) (RR (.ref D) C) s₃ := by
    rintro s₃ rfl
    refine kct_loop (PtInv prog w A h₀ L m env c elt x x₂ scope cl s₂ ax I D C its Fin) ?_ (its.size + 1)
      ⟨h₁, _, 0, [], _, news, rfl, Nat.zero_le _, rfl, Nat.le_refl _, hit.at fun o e => old _ o e, hil.at fun o e => old _ o e, F.keeps old, hns₁, fun p hp => ?_, off₀, hS, by rw [List.drop_zero]; exact R⟩
    · rintro k s' ⟨h', tk, i, ys, m', news', rfl, hi, rfl, hyl, hst', hl', F', hn', N', off', hS', R'⟩
      have off3 := off'.mem
      by_cases hlt : i < its.size
      · have hdr : its.toList.drop i = its[i] :: its.toList.drop (i + 1) := by
          rw [List.drop_eq_getElem_cons (by simpa using hlt)]; rfl
        rw [hdr] at R'
        refine W.item i _ _ _ hlt ⟨hst', hl'⟩ fun v h₂ tk₂ hPv hst₂ hk₂ => ?_
        have hv : its[i] = v := by
          have q : its[i]? = some v := hPv
          rw [Array.getElem?_eq_getElem hlt] at q
          exact Option.some.inj q
        obtain ⟨t, ot, v₁, v₂, nt, ev, hmt, hct, hdt, R''⟩ := R'
        have ev' : v = .ref t := hv.symm.trans ev
        subst ev'
        have N₂ : News h₀ L h₂ ((D, lst ys) :: news') := news_but N' hk₂ fun p hp => by
          rcases List.mem_cons.mp hp with rfl | hp
          · exact Ne.symm hDI
          · exact (off3 p hp).1
        have ht : IsTup h₂ t #[v₁, v₂] := ⟨ot, (N₂ _ (List.mem_cons_of_mem _ hmt)).1, hct, nt, hdt⟩
        refine wpAny_letOwnedTupleGo_listiter hst₂.1 ?_
        refine assign_Tuple_tuple hh ht rfl rfl fun h₅ he => ?_
        have he' : ∀ b o, h₂.get? b = some o → h₅.get? b = some o := fun b o e => he b o (Nat.ne_of_lt (Heap.lt_size e)) e
        have nsC : h₅.Ns C m' := (hn'.at' fun o e => hk₂ _ o (by simpa using Ne.symm hCI) e).at' fun o e => he' _ o e
        refine assignInOrder_cons (wpAny_assign_Name (wpAny_storeName_local (lookup_relabel_local hx) nsC (fun h₆ hn₆ hs₆ => ?_) (by simp [compEnvC, relabel, hkind])))
        refine assignInOrder_cons (wpAny_assign_Name (wpAny_storeName_local (lookup_relabel_local hx₂) hn₆ (fun h₃ hn₃ hs₃ => ?_) (by simp [compEnvC, relabel, hkind])))
        refine assignInOrder_nil ?_
        have old3 : ∀ b o, b ≠ C → h₂.get? b = some o → h₃.get? b = some o := fun b o hb e => hs₃.extBut b o hb (hs₆.extBut b o hb (he' b o e))
        have hit₃ : h₃.IsListIter I ax (i + 1) := hst₂.1.at fun o e => old3 _ o hCI e
        have hil₃ : h₃.IsList ax its := hst₂.2.at fun o e => old3 _ o hxC e
        obtain ⟨oI, heI, hoI⟩ : ∃ oI : Obj, h₃.get? I = some oI ∧ ∀ h : Heap, h.get? I = some oI → h.IsListIter I ax (i + 1) := by
          obtain ⟨o, e, r⟩ := hit₃
          exact ⟨o, e, fun _ e' => ⟨o, e', r⟩⟩
        obtain ⟨oC, heC, hoC⟩ := ns_obj hn₃
        have F₃ : Fr h₀ L h₃ m := (((fr_but F' hk₂ hIL hI₀).keeps he').change hs₆ hCL hC₀).change hs₃ hCL hC₀
        have N₃ : News h₀ L h₃ ((I, oI) :: (C, oC) :: (D, lst ys) :: news') := fun p hp => by
          rcases List.mem_cons.mp hp with rfl | hp
          · exact ⟨heI, Ne.symm hIL, hI₀⟩
          · rcases List.mem_cons.mp hp with rfl | hp
            · exact ⟨heC, hCL, hC₀⟩
            · have z := N₂ p hp
              refine ⟨old3 _ _ ?_ z.1, z.2⟩
              rcases List.mem_cons.mp hp with rfl | hp
              · exact hDC
              · exact (off3 p hp).2.1
        have fin : ∀ (ys' : List Value) (h₅ : Heap) (tk₅ : Nat) (news₅ : List (Addr × Obj)), ys'.length ≤ i + 1 → Fr h₀ L h₅ m → News h₀ L h₅ ((I, oI) :: (C, oC) :: (D, lst ys') :: news₅) → Off3 I C D news₅ → SrcAt h₀ ax its news₅ →
            RestPT prog w A h₀ L m env c elt x x₂ scope cl s₂ (SrcAt h₀ ax its) Fin (its.toList.drop (i + 1)) ys' news₅ →
            ∃ q', q' < its.size + 1 - i ∧ PtInv prog w A h₀ L m env c elt x x₂ scope cl s₂ ax I D C its Fin q' { s₂ with heap := h₅, toks := tk₅ } := by
          intro ys' h₅ tk₅ news₅ hl F₅ N₅ off₅ hS₅ R₅
          have zI := (N₅ (I, oI) List.mem_cons_self).1
          have zC := (N₅ (C, oC) (List.mem_cons_of_mem _ List.mem_cons_self)).1
          have tail : News h₀ L h₅ news₅ := fun q hq => N₅ q (List.mem_cons_of_mem _ (List.mem_cons_of_mem _ (List.mem_cons_of_mem _ hq)))
          exact ⟨its.size + 1 - (i + 1), by omega, h₅, tk₅, i + 1, ys', _, news₅, rfl, hlt, rfl, hl, hoI h₅ zI, hS₅.list F₅.keep tail, F₅, hoC.ns zC, fun q hq => N₅ q (List.mem_cons_of_mem _ (List.mem_cons_of_mem _ hq)), off₅, hS₅, R₅⟩
        refine wpAny_mono (R'' I oI C oC D _ h₃ _ _ hoC (by simp [hxx]) (by simp) F₃ N₃ off' ⟨hCI, hDI, Ne.symm hDC⟩) (fun okb s₅ h₅ => ?_) fun _ _ e => e
        cases okb with
        | false =>
          simp only [Bool.false_eq_true, if_false] at h₅ ⊢
          obtain ⟨h₅, tk₅, news₅, rfl, F₅, N₅, off₅, hS₅, R₅⟩ := h₅
          exact fin ys h₅ tk₅ news₅ (Nat.le_succ_of_le hyl) F₅ N₅ off₅ hS₅ R₅
        | true =>
          simp only [if_true] at h₅ ⊢
          refine wpAny_mono h₅ (fun y s₆ h₆ => ?_) fun _ _ e => e
          obtain ⟨h₅, tk₅, news₅, rfl, F₅, N₅, off₅, hS₅, R₅⟩ := h₆
          have zI := (N₅ (I, oI) List.mem_cons_self).1
          have zC := (N₅ (C, oC) (List.mem_cons_of_mem _ List.mem_cons_self)).1
          have zD := (N₅ (D, lst ys) (List.mem_cons_of_mem _ (List.mem_cons_of_mem _ List.mem_cons_self))).1
          have tail : News h₀ L h₅ news₅ := fun q hq => N₅ q (List.mem_cons_of_mem _ (List.mem_cons_of_mem _ (List.mem_cons_of_mem _ hq)))
          refine append_at (hsz := by show ys.toArray.size ≤ sizeLine; rw [List.size_toArray]; exact Nat.le_trans hyl (Nat.le_trans hi hsz)) zD fun h₆ hs₆ hD₆ => ?_
          have off5 := off₅.mem
          refine fin (ys ++ [y]) h₆ _ news₅ (by rw [List.length_append, List.length_singleton]; exact Nat.succ_le_succ hyl) (F₅.change hs₆ hDL hD₀) (fun q hq => ?_) off₅ hS₅ R₅
          rcases List.mem_cons.mp hq with rfl | hq
          · exact ⟨hs₆.extBut I oI hDI zI, Ne.symm hIL, hI₀⟩
          rcases List.mem_cons.mp hq with rfl | hq
          · exact ⟨hs₆.extBut _ oC (Ne.symm hDC) zC, hCL, hC₀⟩
          rcases List.mem_cons.mp hq with rfl | hq
          · exact ⟨hD₆.trans (congrArg some (lst_snoc ys y)), hDL, hD₀⟩
          · exact ⟨hs₆.extBut _ _ (off5 q hq).2.2 (tail q hq).1, (tail q hq).2⟩
      · have hin : i = its.size := Nat.le_antisymm hi (Nat.not_lt.mp hlt)
        subst hin
        have hnil : its.toList.drop its.size = [] := List.drop_eq_nil_of_le (by simp)
        rw [hnil] at R'
        refine W.done _ _ _ ⟨hst', hl'⟩ fun h₂ tk₂ hk₂ => ?_
        exact hRR _ _ h₂ tk₂ _ ys news' (fr_but F' hk₂ hIL hI₀) (news_but N' hk₂ fun p hp => by
          rcases List.mem_cons.mp hp with rfl | hp
          · exact Ne.symm hDI
          · exact (off3 p hp).1) off'.one (hn'.at' fun o e => hk₂ _ o (by simpa using Ne.symm hCI) e) hC₀ hD₀ hCL hDL (Ne.symm hDC) (fun p hp => (off3 p hp).2.1) R'
    · rcases List.mem_cons.mp hp with rfl | hp
      · exact ⟨hacc, hDL, hD₀⟩
      · exact ⟨old _ _ (N p hp).1, (N p hp).2⟩
  exact codeAny_compStart_list (loop _ rfl) (W.self 0 _ _ _ ⟨hit.at fun o e => old _ o e, hil.at fun o e => old _ o e⟩ (loop _ rfl))

def SrcPT (prog : Program) (w : World) (A : Around) (h₀ : Heap) (L : Addr) (m : Str → Option Value) (env : Env) (c elt : PySem.Expr) (x x₂ : Str) (scope : Scope) (cl : List (Str × Addr)) (Fin : Shared → List Value → List (Addr × Obj) → Prop) (xv : Value) (s₁ : Shared) : Prop :=
  ∃ ax its news, xv = .ref ax ∧ A.handled = none ∧ Fr h₀ L s₁.heap m ∧ News h₀ L s₁.heap news ∧ SrcAt h₀ ax its news ∧ its.size ≤ sizeLine ∧
    ∀ g, RestPT prog w A h₀ L m env c elt x x₂ scope cl { s₁ with heap := g } (SrcAt h₀ ax its) (Fin { s₁ with heap := g }) its.toList [] news
theorem SrcPT.ledger {c elt : PySem.Expr} {x x₂ : Str} {scope : Scope} {cl : List (Str × Addr)} {Fin : Shared → List Value → List (Addr × Obj) → Prop} {ax : Addr} {l : List Value} {k : Nat} {news : List (Addr × Obj)} {s₁ : Shared}
    (hh : A.handled = none) (F : Fr h₀ L s₁.heap m) (N : News h₀ L s₁.heap news) (hm : (ax, ({ cls := .type "list", data := .seq l.toArray k } : Obj)) ∈ news) (hsz : l.length ≤ sizeLine)
    (h : ∀ g, RestPT prog w A h₀ L m env c elt x x₂ scope cl { s₁ with heap := g } (SrcAt h₀ ax l.toArray) (Fin { s₁ with heap := g }) l [] news) :
    SrcPT prog w A h₀ L m env c elt x x₂ scope cl Fin (.ref ax) s₁ := ⟨ax, l.toArray, news, rfl, hh, F, N, .inr ⟨_, hm, rfl, _, rfl⟩, by simpa using hsz, h⟩

theorem ListComp_PT {elt iter c : PySem.Expr} {x x₂ : Str} {px px₂ tp : Pos} {tc} {scope : Scope} {cl : List (Str × Addr)} {pos : Pos} {Q : Value → Shared → Prop} (_F₀ : Fr h₀ L s.heap m)
    (hclos : closureFor scope env = pure cl) (hcell : ∀ y ∈ scope.names, y.2 ≠ .cell) (hkind : scope.kind = .function)
    (hnames : ∀ y ∈ scope.names, y.2 = .local → scope.names.lookup y.1 = some .local) (hx : scope.names.lookup x = some .local) (hx₂ : scope.names.lookup x₂ = some .local) (hxx : x ≠ x₂)
    (h : wpAny (model prog w) A (eval iter env) (SrcPT prog w A h₀ L m env c elt x x₂ scope cl (fun s₂ => FinE h₀ L m s₂ Q)) E s)
    (hs : ∀ x, foldedSetIterable iter env x = pure x := by intro _; rfl) :
    wpAny (model prog w) A (eval (.ListComp elt [⟨.Tuple [.Name x px, .Name x₂ px₂] tc tp, iter, [c], 0⟩] scope pos) env) Q E s := by
  rw [eval_ListComp]
  refine wpAny_comprehension_free (use := none) rfl hs hclos hkind hnames (wpAny_mono h (fun xv s₁ h₁ => ?_) fun _ _ e => e)
  obtain ⟨ax, its, news, rfl, hh, F, N, S, hsz, R⟩ := h₁
  have hl := S.list F.keep N
  have hlt : ax < s₁.heap.objs.size := by obtain ⟨_, e, _⟩ := hl; exact Heap.lt_size e
  refine wpAny_pyIter_list hl ?_
  refine pt_block hh (Nat.ne_of_lt hlt) hsz ⟨_, Heap.get?_push_size _ rfl, rfl, rfl⟩ (hl.push _) hcell hkind hx hx₂ hxx (F.push _)
    (fun p hp => ⟨Heap.get?_push_of_some _ (N p hp).1, (N p hp).2⟩) (Nat.ne_of_lt F.ns.lt) (next_is_new F) (fun p hp => Nat.ne_of_lt (Heap.lt_size (N p hp).1)) S (R _) ?_
  intro D C h tk m' ys news' F' N' o1 hn hC₀ hD₀ hCL hDL hCD offC fin
  refine ⟨m', hn, fun h'' hs'' => fin D h'' tk (F'.change hs'' hCL hC₀) (fun p hp => ?_) o1⟩
  refine ⟨hs''.extBut _ _ ?_ (N' p hp).1, (N' p hp).2⟩
  rcases List.mem_cons.mp hp with rfl | hp
  · exact Ne.symm hCD
  · exact offC p hp

theorem Assign_PT {elt iter c : PySem.Expr} {x x₂ y : Str} {px px₂ tp py : Pos} {tc} {scope : Scope} {cl : List (Str × Addr)} {pos spos : Pos} {Q : Flow → Shared → Prop} (_F₀ : Fr h₀ L s.heap m) (hLe : env.locals = L)
    (hsw : swapsWith (.ListComp elt [⟨.Tuple [.Name x px, .Name x₂ px₂] tc tp, iter, [c], 0⟩] scope pos) (some (.Name y py)) spos.line env = pure true)
    (hclos : closureFor scope env = pure cl) (hcell : ∀ z ∈ scope.names, z.2 ≠ .cell) (hkind : scope.kind = .function)
    (hnames : ∀ z ∈ scope.names, z.2 = .local → scope.names.lookup z.1 = some .local) (hx : scope.names.lookup x = some .local) (hx₂ : scope.names.lookup x₂ = some .local) (hxx : x ≠ x₂)
    (hy : env.kindOf y = some .local) (hp : (env.scope.kind == .class || (env.scope.kind == .module && env.locals != env.globals)) = false)
    (h : wpAny (model prog w) A (eval iter env) (SrcPT prog w A h₀ L m env c elt x x₂ scope cl (fun s₂ => FinA h₀ L m s₂ y Q)) E s)
    (hs : ∀ x, foldedSetIterable iter env x = pure x := by intro _; rfl) :
    wpAny (model prog w) A (exec (.Assign [.Name y py] (.ListComp elt [⟨.Tuple [.Name x px, .Name x₂ px₂] tc tp, iter, [c], 0⟩] scope pos) spos) env) Q E s := by
  subst hLe
  rw [exec_Assign_Name_used _ _ _ _ hsw]
  refine wpAny_bind (wpAny_standAt (wpAny_bind ?_))
  show wpAny _ A (do let _ ← comprehension (.ListComp elt [⟨.Tuple [.Name x px, .Name x₂ px₂] tc tp, iter, [c], 0⟩] scope pos) scope env _ (newList []) false (eval iter env) (some (assign (.Name y py) env))) _ _ s
  refine wpAny_bind (wpAny_mono (wpAny_comprehension_free (use := some (assign (.Name y py) env)) (Q := fun _ s' => Q .next s') rfl hs hclos hkind hnames
    (wpAny_mono h (fun xv s₁ h₁ => ?_) fun _ _ e => e)) (fun _ s' hq => wpAny_pure (wpAny_pure hq)) fun _ _ e => e)
  obtain ⟨ax, its, news, rfl, hh, F, N, S, hsz, R⟩ := h₁
  have hl := S.list F.keep N
  have hlt : ax < s₁.heap.objs.size := by obtain ⟨_, e, _⟩ := hl; exact Heap.lt_size e
  refine wpAny_pyIter_list hl ?_
  refine pt_block hh (Nat.ne_of_lt hlt) hsz ⟨_, Heap.get?_push_size _ rfl, rfl, rfl⟩ (hl.push _) hcell hkind hx hx₂ hxx (F.push _)
    (fun p hp => ⟨Heap.get?_push_of_some _ (N p hp).1, (N p hp).2⟩) (Nat.ne_of_lt F.ns.lt) (next_is_new F) (fun p hp => Nat.ne_of_lt (Heap.lt_size (N p hp).1)) S (R _) ?_
  intro D C h' tk m' ys news' F' N' o1 hn hC₀ hD₀ hCL hDL hCD offC fin
  show wpAny _ A (assign (.Name y py) env (.ref D)) _ _ _
  refine wpAny_assign_Name (wpAny_storeName_local hy F'.ns (fun h₂ hn₂ hs₂ => ?_) hp)
  have hL₀ : h₀.get? env.locals = none := Heap.get?_none_of_le F'.above
  have F₂ : Fr h₀ env.locals h₂ (fun z => if z = y then some (.ref D) else m z) := ⟨hn₂, fun b o e => hs₂.extBut b o (fun q => by rw [q, hL₀] at e; cases e) (F'.keep b o e), F'.above⟩
  refine ⟨m', hn.sameBut hs₂ hCL, fun h'' hs'' => fin D h'' _ (F₂.change hs'' hCL hC₀) (fun p hp => ?_) o1⟩
  have z : h₂.get? p.1 = some p.2 := hs₂.extBut _ _ (N' p hp).2.1 (N' p hp).1
  refine ⟨hs''.extBut _ _ ?_ z, (N' p hp).2⟩
  rcases List.mem_cons.mp hp with rfl | hp
  · exact Ne.symm hCD
  · exact offC p hp
end
/-! what the law's objects hold: one word an object, the tokens hidden -/
inductive PathO (P : Params) : Obj → String → String → Bool → Int → Addr → Value → Bool → Prop
  | mk {name state : String} {free : Bool} {recv : Int} {chal : Addr} {dl : Value} {more : Bool} (k0 k1 k2 k3 k4 k5 k6 k7 v0 v1 v3 v4 : Tok) :
    PathO P (dictOf [ent P "address" k0 (.str (Str.ofString name) v0), ent P "state" k1 (.str (Str.ofString state) v1), ent P "is_free" k2 (.bool free),
      ent P "received" k3 (.int recv v3), ent P "sent" k4 (.int 0 v4), ent P "challenges" k5 (.ref chal), ent P "deadline" k6 dl, ent P "wants_more" k7 (.bool more)] 8) name state free recv chal dl more
inductive PathsO (P : Params) : Obj → Addr → Addr → Addr → Int → Addr → Prop
  | mk {known active last : Addr} {high : Int} {ans : Addr} (k0 k1 k2 k3 k4 k5 k6 v0 v5 : Tok) :
    PathsO P (dictOf [ent P "role" k0 (.str (Str.ofString "server") v0), ent P "may_move" k1 (.bool true), ent P "known" k2 (.ref known), ent P "active" k3 (.ref active),
      ent P "last_proven" k4 (.ref last), ent P "highest" k5 (.int high v5), ent P "answers" k6 (.ref ans)] 7) known active last high ans
inductive SpaceO (P : Params) : Obj → String → Prop
  | mk {nm : String} (k0 k1 k2 k3 k4 k5 k6 k7 k8 k9 k10 k11 k12 k13 k14 k15 k16 v0 v1 v10 v12 : Tok) (r0 r1 r2 r3 : Addr) :
    SpaceO P (dictOf [ent P "name" k0 (.str (Str.ofString nm) v0), ent P "next_number" k1 (.int 0 v1), ent P "sent" k2 (.ref r0),
      ent P "largest_acked" k3 .none, ent P "acked" k4 (.ref r1), ent P "last_eliciting_time" k5 .none, ent P "loss_time" k6 .none,
      ent P "received" k7 (.ref r2), ent P "largest_seen" k8 .none, ent P "largest_time" k9 .none, ent P "floor" k10 (.int 0 v10),
      ent P "first_unacked" k11 .none, ent P "unacked" k12 (.int 0 v12), ent P "wants_now" k13 (.bool false), ent P "has_new" k14 (.bool false),
      ent P "ecn" k15 (.ref r3), ent P "is_gone" k16 (.bool false)] 17) nm
inductive ShakeO (P : Params) : Obj → Prop
  | mk (k0 k1 k2 k3 k4 k5 k6 k7 k8 k9 k10 k11 k12 k13 k14 k15 k16 k17 v0 v1 v10 v12 : Tok) (r0 r1 r2 r3 : Addr) :
    ShakeO P (dictOf [ent P "name" k0 (.str (Str.ofString "shake") v0), ent P "next_number" k1 (.int 0 v1), ent P "sent" k2 (.ref r0),
      ent P "largest_acked" k3 .none, ent P "acked" k4 (.ref r1), ent P "last_eliciting_time" k5 .none, ent P "loss_time" k6 .none,
      ent P "received" k7 (.ref r2), ent P "largest_seen" k8 .none, ent P "largest_time" k9 .none, ent P "floor" k10 (.int 0 v10),
      ent P "first_unacked" k11 .none, ent P "unacked" k12 (.int 0 v12), ent P "wants_now" k13 (.bool false), ent P "has_new" k14 (.bool false),
      ent P "ecn" k15 (.ref r3), ent P "is_gone" k16 (.bool false), ent P "is_complete" k17 (.bool true)] 18)
noncomputable abbrev connPre (P : Params) (k0 k1 k2 k3 k4 k5 k6 k7 k8 k9 k10 k11 k12 k13 k14 k15 k16 k17 k18 k19 k20 k21 v0 v1 v10 v12 v19 : Tok) (r0 r1 r2 r3 xP xS fW fC : Addr) (n : Int) (r : List DictEntry) : List DictEntry :=
  ent P "name" k0 (.str (Str.ofString "state") v0) :: ent P "next_number" k1 (.int 0 v1) :: ent P "sent" k2 (.ref r0) ::
   ent P "largest_acked" k3 .none :: ent P "acked" k4 (.ref r1) :: ent P "last_eliciting_time" k5 .none :: ent P "loss_time" k6 .none ::
   ent P "received" k7 (.ref r2) :: ent P "largest_seen" k8 .none :: ent P "largest_time" k9 .none :: ent P "floor" k10 (.int 0 v10) ::
   ent P "first_unacked" k11 .none :: ent P "unacked" k12 (.int 0 v12) :: ent P "wants_now" k13 (.bool false) :: ent P "has_new" k14 (.bool false) ::
   ent P "ecn" k15 (.ref r3) :: ent P "is_gone" k16 (.bool false) ::
   ent P "paths" k17 (.ref xP) :: ent P "shake" k18 (.ref xS) :: ent P "challenged" k19 (.int n v19) ::
   ent P "probe_wait" k20 (.ref fW) :: ent P "choose" k21 (.ref fC) :: r
/-- the conn: its refs, how many trials, is there an 'again_at' -/
inductive ConnO (P : Params) : Obj → Addr → Addr → Addr → Addr → Int → Bool → Prop
  | zero {xP xS fW fC : Addr} {n : Int} (k0 k1 k2 k3 k4 k5 k6 k7 k8 k9 k10 k11 k12 k13 k14 k15 k16 k17 k18 k19 k20 k21 v0 v1 v10 v12 v19 : Tok) (r0 r1 r2 r3 : Addr) :
    ConnO P (dictOf (connPre P k0 k1 k2 k3 k4 k5 k6 k7 k8 k9 k10 k11 k12 k13 k14 k15 k16 k17 k18 k19 k20 k21 v0 v1 v10 v12 v19 r0 r1 r2 r3 xP xS fW fC n []) 22) xP xS fW fC n false
  | again {xP xS fW fC : Addr} {n : Int} (k0 k1 k2 k3 k4 k5 k6 k7 k8 k9 k10 k11 k12 k13 k14 k15 k16 k17 k18 k19 k20 k21 v0 v1 v10 v12 v19 : Tok) (r0 r1 r2 r3 : Addr) (k22 v22 : Tok) (ag : Int) :
    ConnO P (dictOf (connPre P k0 k1 k2 k3 k4 k5 k6 k7 k8 k9 k10 k11 k12 k13 k14 k15 k16 k17 k18 k19 k20 k21 v0 v1 v10 v12 v19 r0 r1 r2 r3 xP xS fW fC n [ent P "again_at" k22 (.int ag v22)]) 23) xP xS fW fC n true
/-- l' is l without one p -/
inductive Take (p : Addr × Obj) : List (Addr × Obj) → List (Addr × Obj) → Prop
  | head {r} : Take p (p :: r) r
  | tail {q r r'} : Take p r r' → Take p (q :: r) (q :: r')
theorem Take.sub {p : Addr × Obj} : ∀ {l l' : List (Addr × Obj)}, Take p l l' → ∀ q, (q = p ∨ q ∈ l') → q ∈ l
  | _, _, .head, q, h => by
    rcases h with rfl | h
    · exact .head _
    · exact .tail _ h
  | _, _, .tail t, q, h => by
    rcases h with rfl | h
    · exact .tail _ (t.sub _ (.inl rfl))
    · rcases List.mem_cons.mp h with rfl | h
      · exact .head _
      · exact .tail _ (t.sub _ (.inr h))
theorem News.take {h₀ h : Heap} {L : Addr} {p : Addr × Obj} {l l' : List (Addr × Obj)} (N : News h₀ L h l) (t : Take p l l') : News h₀ L h (p :: l') := fun q hq => N q (t.sub q (List.mem_cons.mp hq))
theorem News.subs {h₀ h : Heap} {L : Addr} {l l' : List (Addr × Obj)} (N : News h₀ L h l) (hs : ∀ p ∈ l', p ∈ l) : News h₀ L h l' := fun p hp => N p (hs p hp)
theorem ltNe {l : List (Addr × Obj)} {a x : Nat} {o : Obj} (h : ∀ p ∈ l, p.1 < x) (hm : (a, o) ∈ l) : a ≠ x := Nat.ne_of_lt (h _ hm)
theorem gtNe {l : List (Addr × Obj)} {a x : Nat} {o : Obj} (h : ∀ p ∈ l, p.1 < x) (hm : (a, o) ∈ l) : x ≠ a := Nat.ne_of_gt (h _ hm)
theorem offNe {l : List (Addr × Obj)} {a D : Nat} {o : Obj} : LCg.Off1 D l → (a, o) ∈ l → a ≠ D := by
  induction l with
  | nil => intro _ h; cases h
  | cons p r ih =>
    intro h hm
    rcases List.mem_cons.mp hm with rfl | hm
    · exact h.1
    · exact ih h.2 hm
theorem offNe' {l : List (Addr × Obj)} {a D : Nat} {o : Obj} (h : LCg.Off1 D l) (hm : (a, o) ∈ l) : D ≠ a := fun e => offNe h hm e.symm
theorem unrEnd0 {h₀ : Heap} {L I : Addr} {it : Obj} {rest : (Str → Option Value) → List (Addr × Obj) → Prop} {s₁ : Shared} {h' : Heap} {tk : Nat} {m' : Str → Option Value} {news' : List (Addr × Obj)} (F : Fr h₀ L h' m') (N : News h₀ L h' ((I, it) :: news'))
    (hlt : ∀ p ∈ news', p.1 < I) (r : rest m' news') : UnrEnd h₀ L s₁ I it rest { s₁ with heap := h', toks := tk } := ⟨h', tk, m', news', rfl, F, N, fun p hp => Nat.ne_of_lt (hlt p hp), r⟩
theorem compEnd0 {h₀ : Heap} {L I C D : Addr} {m : Str → Option Value} {s₁ : Shared} {oI oC oD : Obj} {S : List (Addr × Obj) → Prop} {rest : Value → List (Addr × Obj) → Prop} {y : Value} {h' : Heap} {tk : Nat} {news' : List (Addr × Obj)}
    (F : Fr h₀ L h' m) (N : News h₀ L h' ((I, oI) :: (C, oC) :: (D, oD) :: news')) (off : LCg.Off3 I C D news') (hS : S news') (r : rest y news') : LCg.CompEnd h₀ L m s₁ I oI C oC D oD S rest y { s₁ with heap := h', toks := tk } :=
  ⟨h', tk, news', rfl, F, N, off, hS, r⟩
theorem compEnd1 {h₀ : Heap} {L I C D T : Addr} {m : Str → Option Value} {s₁ : Shared} {oI oC oD oT : Obj} {S : List (Addr × Obj) → Prop} {rest : Value → List (Addr × Obj) → Prop} {y : Value} {h' : Heap} {tk : Nat} {news' : List (Addr × Obj)}
    (F : Fr h₀ L h' m) (N : News h₀ L h' ((T, oT) :: (I, oI) :: (C, oC) :: (D, oD) :: news')) (l1 : ∀ p ∈ (I, oI) :: (C, oC) :: (D, oD) :: news', p.1 < T) (off : LCg.Off3 I C D news') (hS : S ((T, oT) :: news')) (r : rest y ((T, oT) :: news')) :
    LCg.CompEnd h₀ L m s₁ I oI C oC D oD S rest y { s₁ with heap := h', toks := tk } := by
  refine ⟨h', tk, (T, oT) :: news', rfl, F, fun p hp => N p ?_, ⟨⟨?_, ?_, ?_⟩, off⟩, hS, r⟩
  · rcases List.mem_cons.mp hp with rfl | hp
    · exact .tail _ (.head _)
    rcases List.mem_cons.mp hp with rfl | hp
    · exact .tail _ (.tail _ (.head _))
    rcases List.mem_cons.mp hp with rfl | hp
    · exact .tail _ (.tail _ (.tail _ (.head _)))
    rcases List.mem_cons.mp hp with rfl | hp
    · exact .head _
    · exact .tail _ (.tail _ (.tail _ (.tail _ hp)))
  · exact Nat.ne_of_gt (l1 _ (.head _))
  · exact Nat.ne_of_gt (l1 _ (.tail _ (.head _)))
  · exact Nat.ne_of_gt (l1 _ (.tail _ (.tail _ (.head _))))
theorem memRest {X : Nat} {l : List (Addr × Obj)} (h : ∀ p ∈ l, p.1 ≠ X) : ∀ p ∈ l, p.1 ≠ X := h
theorem ltOf {l : List (Addr × Obj)} {a x : Nat} {o : Obj} (h : ∀ p ∈ l, p.1 < x) (hm : (a, o) ∈ l) : a < x := h _ hm
theorem restLt {l l' : List (Addr × Obj)} {x : Nat} (h : ∀ p ∈ l, p.1 < x) (hs : ∀ p ∈ l', p ∈ l) : ∀ p ∈ l', p.1 < x := fun p hp => h p (hs p hp)
theorem restNe {l l' : List (Addr × Obj)} {x : Nat} (h : ∀ p ∈ l, p.1 < x) (hs : ∀ p ∈ l', p ∈ l) : ∀ p ∈ l', p.1 ≠ x := fun p hp => Nat.ne_of_lt (h p (hs p hp))
theorem unrEnd1 {h₀ : Heap} {L I c : Addr} {it oc : Obj} {rest : (Str → Option Value) → List (Addr × Obj) → Prop} {s₁ : Shared} {h' : Heap} {tk : Nat} {m' : Str → Option Value} {news' newsx : List (Addr × Obj)} (F : Fr h₀ L h' m') (N : News h₀ L h' ((c, oc) :: (I, it) :: news'))
    (h1 : ∀ p ∈ (I, it) :: newsx, p.1 < c) (h2 : ∀ p ∈ news', p.1 ≠ I) (r : rest m' ((c, oc) :: news')) : UnrEnd h₀ L s₁ I it rest { s₁ with heap := h', toks := tk } :=
  ⟨h', tk, m', (c, oc) :: news', rfl, F, fun p hp => N p (by
    rcases List.mem_cons.mp hp with rfl | hp
    · exact .tail _ (.head _)
    rcases List.mem_cons.mp hp with rfl | hp
    · exact .head _
    · exact .tail _ (.tail _ hp)), fun p hp => by
    rcases List.mem_cons.mp hp with rfl | hp
    · exact Nat.ne_of_gt (h1 _ (.head _))
    · exact h2 p hp, r⟩
theorem restNe1 {l : List (Addr × Obj)} {a x : Nat} {o : Obj} (h : ∀ p ∈ l, p.1 ≠ x) (hm : (a, o) ∈ l) : a ≠ x := h _ hm
theorem restNe1' {l : List (Addr × Obj)} {a x : Nat} {o : Obj} (h : ∀ p ∈ l, p.1 ≠ x) (hm : (a, o) ∈ l) : x ≠ a := fun e => h _ hm e.symm
theorem restNe2 {l l' : List (Addr × Obj)} {x : Nat} (h : ∀ p ∈ l, p.1 ≠ x) (hs : ∀ p ∈ l', p ∈ l) : ∀ p ∈ l', p.1 ≠ x := fun p hp => h p (hs p hp)
theorem off1All {D : Nat} : ∀ {l : List (Addr × Obj)}, LCg.Off1 D l → ∀ p ∈ l, p.1 ≠ D
  | [], _, _, hm => nomatch hm
  | _ :: _, h, p, hm => by
    rcases List.mem_cons.mp hm with rfl | hm
    · exact h.1
    · exact off1All h.2 p hm
theorem ltNeS {l : List (Addr × Obj)} {a x : Nat} {o : Obj} (h : ∀ p ∈ l, p.1 < x) (hm : (a, o) ∈ l) : a ≠ x + 1 := Nat.ne_of_lt (Nat.lt_succ_of_lt (h _ hm))
theorem gtNeS {l : List (Addr × Obj)} {a x : Nat} {o : Obj} (h : ∀ p ∈ l, p.1 < x) (hm : (a, o) ∈ l) : x + 1 ≠ a := Nat.ne_of_gt (Nat.lt_succ_of_lt (h _ hm))
theorem restNeS {l l' : List (Addr × Obj)} {x : Nat} (h : ∀ p ∈ l, p.1 < x) (hs : ∀ p ∈ l', p ∈ l) : ∀ p ∈ l', p.1 ≠ x + 1 := fun p hp => Nat.ne_of_lt (Nat.lt_succ_of_lt (h p (hs p hp)))
theorem ltTr {l : List (Addr × Obj)} {d x : Nat} (h2 : d < x) (h : ∀ p ∈ l, p.1 < d) : ∀ p ∈ l, p.1 < x := fun p hp => Nat.lt_trans (h p hp) h2
/-- a state, its tokens forgotten -/
theorem genT {α : Type} {M : Model} {A : Around} {t : Sem α} {Q : α → Shared → Prop} {E : Value → Shared → Prop} {S s : Shared} {h : Heap} {k : Nat} (e : S = ⟨h, s.gens, s.drawn, k, s.os⟩) (H : ∀ k', wpAny M A t Q E ⟨h, s.gens, s.drawn, k', s.os⟩) : wpAny M A t Q E S := by
  rw [e]; exact H k
theorem newsJoin {h₀ h : Heap} {L : Addr} {p : Addr × Obj} {l : List (Addr × Obj)} (a : News h₀ L h [p]) (b : News h₀ L h l) : News h₀ L h (p :: l) := fun q hq => by
  rcases List.mem_cons.mp hq with rfl | hq
  · exact a _ (.head _)
  · exact b _ hq
/-! equality of octets, of pairs (text, octets), of short lists of them; 'in' a list of octets -/
section
open PySem.SeqAt
variable {prog : Program} {w : World} {A : Around} {E : Value → Shared → Prop} {s : Shared} {h₀ : Heap} {L : Addr} {news : List (Addr × Obj)}
theorem bytes_beq (b c : Array UInt8) : (b.toList == c.toList) = decide (b = c) := by
  by_cases h : b = c
  · subst h; simp
  · rw [decide_eq_false h]
    exact beq_eq_false_iff_ne.mpr fun e => h (Array.ext' e)
theorem rcAt_bytes (b c : Array UInt8) (t u : Tok) : RcAt A s (.bytes b t) (.bytes c u) (decide (b = c)) := fun prog w E Q h => eq_bytes (prog := prog) (w := w) (E := E) (by rw [bytes_beq]; exact h)
theorem eqAt_bytes (b c : Array UInt8) (t u : Tok) : EqAt A s (.bytes b t) (.bytes c u) (decide (b = c)) := fun prog w E Q hq => by
  unfold eqBool
  refine wpAny_holding ?_
  refine wpAny_ite_split (fun hab => ?_) (fun _ => ?_)
  · have e := eq_of_beq hab
    injection e with e1 e2
    subst e1
    rw [decide_eq_true rfl] at hq
    exact wpAny_bind (wpAny_rule (wpAny_pure hq))
  · exact wpAny_bind (rcAt_bytes b c t u prog w E _ (wpAny_truthy_bool hq))
/-- a pair of a text and octets -/
abbrev pairO (x : Str) (t : Tok) (b : Array UInt8) (u : Tok) (n : Nat) : Obj := { cls := .type "tuple", data := .seq #[.str x t, .bytes b u] n }
theorem eqAt_pairs {a c : Addr} {x : Str} {b : Array UInt8} {t u t' u' : Tok} {n n' : Nat} (N : News h₀ L s.heap news) (ha : (a, pairO x t b u n) ∈ news) (hc : (c, pairO x t' b u' n') ∈ news) (hu : A.units < cLine) : EqAt A s (.ref a) (.ref c) true := by
  by_cases e : a = c
  · subst e; exact EqAt.same _
  · refine EqAt.of_refs e ?_
    have H : RcAt A s (.ref a) (.ref c) ((List.range (min (#[Value.str x t, Value.bytes b u] : Array Value).size (#[Value.str x t', Value.bytes b u'] : Array Value).size)).all (fun _ => true) && (#[Value.str x t, Value.bytes b u] : Array Value).size == (#[Value.str x t', Value.bytes b u'] : Array Value).size) := by
      refine RcAt.tuples (e := fun _ => true) ⟨_, (N _ ha).1, rfl, n, rfl⟩ ⟨_, (N _ hc).1, rfl, n', rfl⟩ hu ?_
      intro j h1 h2
      match j, h1 with
      | 0, _ => have := EqAt.str_str (A := A.in1) (s := s) x t x t'; rw [beq_self_eq_true] at this; exact this
      | 1, _ => have := eqAt_bytes (A := A.in1) (s := s) b b u u'; rw [decide_eq_true rfl] at this; exact this
    exact H
theorem all_true_range (n : Nat) : (List.range n).all (fun _ => true) = true := by simp
/-- two lists whose items are equal one by one: '!=' is False -/
theorem ne_lists {l b : Addr} {xs ys : List Value} {n n' : Nat} {Q : Value → Shared → Prop} (N : News h₀ L s.heap news) (hl : (l, listOf xs.toArray n) ∈ news) (hb : (b, listOf ys.toArray n') ∈ news) (hsz : xs.length = ys.length) (hu : A.units < cLine)
    (he : ∀ j (h1 : j < xs.length) (h2 : j < ys.length), EqAt A.in1 s xs[j] ys[j] true) (h : Q (.bool false) s) : wpAny (model prog w) A (compareOp .NotEq (.ref l) (.ref b)) Q E s := by
  have H : RcNeAt A s (.ref l) (.ref b) (!(List.range xs.toArray.size).all (fun _ => true)) :=
    RcNeAt.lists (e := fun _ => true) (N.isList hl) (N.isList hb) (by simpa using hsz) hu (fun j h1 h2 => by simpa using he j (by simpa using h1) (by simpa using h2))
  rw [all_true_range] at H
  exact H prog w E Q h
theorem ne_nil {l b : Addr} {n n' : Nat} {Q : Value → Shared → Prop} (N : News h₀ L s.heap news) (hl : (l, listOf #[] n) ∈ news) (hb : (b, listOf #[] n') ∈ news) (hu : A.units < cLine) (h : Q (.bool false) s) :
    wpAny (model prog w) A (compareOp .NotEq (.ref l) (.ref b)) Q E s := ne_lists (xs := []) (ys := []) N hl hb rfl hu (fun j h1 => absurd h1 (Nat.not_lt_zero _)) h
theorem ne_same1 {l b : Addr} {v : Value} {n n' : Nat} {Q : Value → Shared → Prop} (N : News h₀ L s.heap news) (hl : (l, listOf #[v] n) ∈ news) (hb : (b, listOf #[v] n') ∈ news) (hu : A.units < cLine) (h : Q (.bool false) s) :
    wpAny (model prog w) A (compareOp .NotEq (.ref l) (.ref b)) Q E s := ne_lists (xs := [v]) (ys := [v]) N hl hb rfl hu (fun j h1 _ => by
      match j, h1 with
      | 0, _ => exact EqAt.same _) h
theorem ne_pair1 {l b p q : Addr} {x : Str} {c : Array UInt8} {t u t' u' : Tok} {n n' k k' : Nat} {Q : Value → Shared → Prop} (N : News h₀ L s.heap news) (hl : (l, listOf #[.ref p] n) ∈ news) (hb : (b, listOf #[.ref q] n') ∈ news)
    (hp : (p, pairO x t c u k) ∈ news) (hq : (q, pairO x t' c u' k') ∈ news) (hu : A.in1.units < cLine) (hu0 : A.units < cLine) (h : Q (.bool false) s) :
    wpAny (model prog w) A (compareOp .NotEq (.ref l) (.ref b)) Q E s := ne_lists (xs := [.ref p]) (ys := [.ref q]) N hl hb rfl hu0 (fun j h1 _ => by
      match j, h1 with
      | 0, _ => exact eqAt_pairs N hp hq hu) h
theorem ne_pair2 {l b p q p2 q2 : Addr} {x x2 : Str} {c c2 : Array UInt8} {t u t' u' t2 u2 t2' u2' : Tok} {n n' k k' k2 k2' : Nat} {Q : Value → Shared → Prop} (N : News h₀ L s.heap news) (hl : (l, listOf #[.ref p, .ref p2] n) ∈ news) (hb : (b, listOf #[.ref q, .ref q2] n') ∈ news)
    (hp : (p, pairO x t c u k) ∈ news) (hq : (q, pairO x t' c u' k') ∈ news) (hp2 : (p2, pairO x2 t2 c2 u2 k2) ∈ news) (hq2 : (q2, pairO x2 t2' c2 u2' k2') ∈ news) (hu : A.in1.units < cLine) (hu0 : A.units < cLine) (h : Q (.bool false) s) :
    wpAny (model prog w) A (compareOp .NotEq (.ref l) (.ref b)) Q E s := ne_lists (xs := [.ref p, .ref p2]) (ys := [.ref q, .ref q2]) N hl hb rfl hu0 (fun j h1 _ => by
      match j, h1 with
      | 0, _ => exact eqAt_pairs N hp hq hu
      | 1, _ => exact eqAt_pairs N hp2 hq2 hu) h
theorem in_nil {l : Addr} {n : Nat} {x : Value} {Q : Value → Shared → Prop} (N : News h₀ L s.heap news) (hl : (l, listOf #[] n) ∈ news) (h : Q (.bool false) s) : wpAny (model prog w) A (compareOp .In x (.ref l)) Q E s :=
  in_listAt (fun _ => false) (N.isList hl) (fun y hy => by simp at hy) (by simpa using h)
theorem in_one {l : Addr} {n : Nat} {b c : Array UInt8} {t u : Tok} {Q : Value → Shared → Prop} (N : News h₀ L s.heap news) (hl : (l, listOf #[.bytes c u] n) ∈ news) (h : Q (.bool (decide (c = b))) s) : wpAny (model prog w) A (compareOp .In (.bytes b t) (.ref l)) Q E s :=
  in_listAt (fun y => match y with | .bytes c _ => decide (c = b) | _ => false) (N.isList hl) (fun y hy => by
    have e : y = .bytes c u := by simpa using hy
    subst e
    exact eqAt_bytes c b u t) (by simpa using h)
end
/-! path_frames, from its fourth statement on: in its own frame -/
noncomputable def pfStmt : Option Stmt := PySem.Challenge.pw_pf0273_01.main.body.find? fun s => match s with
  | Stmt.FunctionDef n .. => n == Str.ofString "path_frames"
  | _ => false
noncomputable def pfBody : List Stmt := match pfStmt with
  | some (Stmt.FunctionDef _ _ b _ _ _ _ _ _ _) => b
  | _ => []
noncomputable def pfScope : Scope := match pfStmt with
  | some (Stmt.FunctionDef _ _ _ _ _ _ s _ _ _) => s
  | _ => default
noncomputable def pfTail : List Stmt := pfBody.drop 3
noncomputable abbrev lawEnv (L fa : Addr) : Env := envOf (Str.ofString "law") lawScope L fa (Value.ref 432)
noncomputable abbrev pfEnv (L : Addr) : Env := envOfC (Str.ofString "path_frames") pfScope L 26 (Value.ref 25)
/-- a frame's map: what is known of it, then the rest of itself -/
theorem frSelf {g h : Heap} {L : Addr} {m : Str → Option Value} {m' : Str → Option Value} (F : Fr g L h m) (e : ∀ y, m' y = m y) : Fr g L h m' := by
  have : m' = m := funext e
  rw [this]; exact F
theorem frPf {g h : Heap} {L : Addr} {m : Str → Option Value} {D xC : Addr} {now : Int} {u1 : Tok} (F : Fr g L h m) (e1 : m (Str.ofString "found") = some (Value.ref D)) (e2 : m (Str.ofString "conn") = some (Value.ref xC)) (e3 : m (Str.ofString "now") = some (Value.int now u1)) :
    Fr g L h (fun y => if y = Str.ofString "found" then some (Value.ref D) else if y = Str.ofString "conn" then some (Value.ref xC) else if y = Str.ofString "now" then some (Value.int now u1) else m y) := by
  refine frSelf F fun y => ?_
  by_cases h1 : y = Str.ofString "found"
  · rw [if_pos h1, h1, e1]
  rw [if_neg h1]
  by_cases h2 : y = Str.ofString "conn"
  · rw [if_pos h2, h2, e2]
  rw [if_neg h2]
  by_cases h3 : y = Str.ofString "now"
  · rw [if_pos h3, h3, e3]
  rw [if_neg h3]
theorem subTail {α : Type} {l l' : List α} {q : α} (h : ∀ p ∈ l, p ∈ l') : ∀ p ∈ l, p ∈ q :: l' := fun p hp => List.mem_cons_of_mem _ (h p hp)
theorem subSelf {α : Type} {l : List α} : ∀ p ∈ l, p ∈ l := fun _ h => h
theorem consSub {α : Type} {l l' : List α} {a : α} (h : a ∈ l') (t : ∀ p ∈ l, p ∈ l') : ∀ p ∈ a :: l, p ∈ l' := fun p hp => by
  rcases List.mem_cons.mp hp with rfl | hp
  · exact h
  · exact t p hp
/-! law's own frame, between the statements of a turn -/
noncomputable def lm (turn : Int) (to : Tok) (num : Int) (tn : Tok) (now : Int) (tw : Tok) (pr : Bool) (lG BX xC : Addr) (m : Str → Option Value) : Str → Option Value :=
  fun y => if y = Str.ofString "turn" then some (Value.int turn to) else if y = Str.ofString "number" then some (Value.int num tn) else if y = Str.ofString "now" then some (Value.int now tw)
    else if y = Str.ofString "is_proven" then some (Value.bool pr) else if y = Str.ofString "gone" then some (Value.ref lG) else if y = Str.ofString "box" then some (Value.ref BX) else if y = Str.ofString "conn" then some (Value.ref xC) else m y
theorem frLaw {g h : Heap} {L : Addr} {m : Str → Option Value} {turn num now : Int} {to tn tw : Tok} {pr : Bool} {lG BX xC : Addr} (F : Fr g L h m) (e1 : m (Str.ofString "turn") = some (Value.int turn to)) (e2 : m (Str.ofString "number") = some (Value.int num tn))
    (e3 : m (Str.ofString "now") = some (Value.int now tw)) (e4 : m (Str.ofString "is_proven") = some (Value.bool pr)) (e5 : m (Str.ofString "gone") = some (Value.ref lG)) (e6 : m (Str.ofString "box") = some (Value.ref BX)) (e7 : m (Str.ofString "conn") = some (Value.ref xC)) :
    Fr g L h (lm turn to num tn now tw pr lG BX xC m) := by
  refine frSelf F fun y => ?_
  unfold lm
  by_cases h1 : y = Str.ofString "turn"
  · rw [if_pos h1, h1, e1]
  rw [if_neg h1]
  by_cases h2 : y = Str.ofString "number"
  · rw [if_pos h2, h2, e2]
  rw [if_neg h2]
  by_cases h3 : y = Str.ofString "now"
  · rw [if_pos h3, h3, e3]
  rw [if_neg h3]
  by_cases h4 : y = Str.ofString "is_proven"
  · rw [if_pos h4, h4, e4]
  rw [if_neg h4]
  by_cases h5 : y = Str.ofString "gone"
  · rw [if_pos h5, h5, e5]
  rw [if_neg h5]
  by_cases h6 : y = Str.ofString "box"
  · rw [if_pos h6, h6, e6]
  rw [if_neg h6]
  by_cases h7 : y = Str.ofString "conn"
  · rw [if_pos h7, h7, e7]
  rw [if_neg h7]
/-! what was sent, as the walk asks for it -/
theorem gl_size (tg : Nat → Tok) (n : Nat) : ((gl tg n).toArray.size : Int) = (n : Int) := by rw [List.size_toArray, gl_length]
theorem gl_size1 (tg : Nat → Tok) (n : Nat) : ((gl tg (n + 1)).toArray.size : Int) = (n : Int) + 1 := by rw [gl_size]; push_cast; rfl
theorem gl_fits (tg : Nat → Tok) {n : Nat} (h : n < 100) : (gl tg n).toArray.size ≤ sizeLine := by
  rw [List.size_toArray, gl_length, sizeLine_eq]; omega
section
variable {prog : Program} {w : World} {A : Around} {E : Value → Shared → Prop} {s : Shared} {h₀ : Heap} {L : Addr} {news : List (Addr × Obj)}
theorem gl_item {value slice : PySem.Expr} {l : Addr} {tg : Nat → Tok} {N : Nat} {c : Nat} {k j : Int} {u : Tok} {Q : Value → Shared → Prop} (Nw : News h₀ L s.heap news) (hm : (l, listOf (gl tg N).toArray c) ∈ news)
    (e : k = j) (h0 : 0 ≤ j) (h1 : j < (N : Int)) (hN : N < 200) (h : Q (.bytes (b8 (40 + j)) (tg j.toNat)) s)
    (hs : subscripted slice false (.ref l) (.int k u) = operate [.ref l, .int k u] (getItem (.ref l) (.int k u)) := by with_unfolding_all rfl) :
    wpAny (model prog w) A (subscriptTail value slice (.ref l) (.int k u)) Q E s := by
  subst e
  exact item_at Nw hm h0 (by omega) (gl_get h0 h1) h hs
theorem eqB_yes {b c : Array UInt8} {t u : Tok} {Q : Value → Shared → Prop} (e : b = c) (h : Q (.bool true) s) : wpAny (model prog w) A (compareOp .Eq (.bytes b t) (.bytes c u)) Q E s :=
  rcAt_bytes b c t u prog w E Q (by rw [decide_eq_true e]; exact h)
theorem eqB_no {b c : Array UInt8} {t u : Tok} {Q : Value → Shared → Prop} (e : b ≠ c) (h : Q (.bool false) s) : wpAny (model prog w) A (compareOp .Eq (.bytes b t) (.bytes c u)) Q E s :=
  rcAt_bytes b c t u prog w E Q (by rw [decide_eq_false e]; exact h)
end
theorem b8_ne {i j : Int} (hi : 0 ≤ i ∧ i < 256) (hj : 0 ≤ j ∧ j < 256) (h : i ≠ j) : b8 i ≠ b8 j := fun e => h ((b8_inj hi hj).mp e)
theorem split2 {r : Int} {P : Prop} (h0 : 0 ≤ r) (h1 : r < 2) (a : r = 0 → P) (b : r = 1 → P) : P := (show r = 0 ∨ r = 1 by omega).elim a b
theorem split3 {r : Int} {P : Prop} (h0 : 0 ≤ r) (h1 : r < 3) (a : r = 0 → P) (b : r = 1 → P) (c : r = 2 → P) : P := (show r = 0 ∨ r = 1 ∨ r = 2 by omega).elim a fun h => h.elim b c
theorem last_of {r : Int} {n : Nat} (h0 : 0 ≤ r) (h1 : r < (n : Int) + 1) (hn : n < 20) : r = (n : Int) ∨ (b8 (40 + r) ≠ b8 (40 + (n : Int)) ∧ b8 (40 + (n : Int)) ≠ b8 (40 + r)) := by
  by_cases h : r = (n : Int)
  · exact .inl h
  · exact .inr ⟨b8_ne (by omega) (by omega) (by omega), b8_ne (by omega) (by omega) (by omega)⟩
theorem splitN {r : Int} {n : Nat} {P : Prop} (h0 : 0 ≤ r) (h1 : r < (n : Int) + 1) (hn : n < 20) (a : r = (n : Int) → P) (b : (b8 (40 + r) ≠ b8 (40 + (n : Int)) ∧ b8 (40 + (n : Int)) ≠ b8 (40 + r)) → P) : P := (last_of h0 h1 hn).elim a b
theorem splitV {v r : Int} {n : Nat} {P : Prop} (hv : v = 0 ∨ v = 40 + r ∨ v = 40 + (n : Int)) (h0 : 0 ≤ r) (h1 : r < (n : Int) + 1) (hn : n < 20) (a : v = 40 + (n : Int) → P) (b : b8 v ≠ b8 (40 + (n : Int)) ∧ b8 (40 + (n : Int)) ≠ b8 v → P) : P := by
  by_cases h : v = 40 + (n : Int)
  · exact a h
  · exact b ⟨b8_ne (by omega) (by omega) h, b8_ne (by omega) (by omega) (Ne.symm h)⟩
theorem item3 {prog : Program} {w : World} {A : Around} {E : Value → Shared → Prop} {s : Shared} {h₀ : Heap} {L : Addr} {news : List (Addr × Obj)} {value slice : PySem.Expr} {l : Addr} {x y z : Int} {t1 t2 t3 u : Tok} {c : Nat} {k : Int} {Q : Value → Shared → Prop} (Nw : News h₀ L s.heap news) (hm : (l, listOf #[.bytes (b8 x) t1, .bytes (b8 y) t2, .bytes (b8 z) t3] c) ∈ news)
    (h0 : 0 ≤ k) (h1 : k < 3) (h : ∀ v t, (v = x ∨ v = y ∨ v = z) → Q (.bytes (b8 v) t) s)
    (hs : subscripted slice false (.ref l) (.int k u) = operate [.ref l, .int k u] (getItem (.ref l) (.int k u)) := by with_unfolding_all rfl) :
    wpAny (model prog w) A (subscriptTail value slice (.ref l) (.int k u)) Q E s := by
  rcases (show k = 0 ∨ k = 1 ∨ k = 2 by omega) with rfl | rfl | rfl
  · exact item_at (vs := [.bytes (b8 x) t1, .bytes (b8 y) t2, .bytes (b8 z) t3]) Nw hm (by decide) (by decide) rfl (h x t1 (.inl rfl)) hs
  · exact item_at (vs := [.bytes (b8 x) t1, .bytes (b8 y) t2, .bytes (b8 z) t3]) Nw hm (by decide) (by decide) rfl (h y t2 (.inr (.inl rfl))) hs
  · exact item_at (vs := [.bytes (b8 x) t1, .bytes (b8 y) t2, .bytes (b8 z) t3]) Nw hm (by decide) (by decide) rfl (h z t3 (.inr (.inr rfl))) hs
/-! bytes(8): eight zero octets -/
theorem bi_no_bytes : typeLookup (.type "int") "__bytes__" = pure none := by rw [typeLookup_type, builtinLookup_eq_fast]; kernel_rfl
theorem bi_index : typeLookup (.type "int") "__index__" = pure (some (.builtin "int.__index__")) := by rw [typeLookup_type, builtinLookup_eq_fast]; kernel_rfl
section
variable {prog : Program} {w : World} {A : Around} {E : Value → Shared → Prop} {s : Shared}
theorem bi_if {α : Type} {M : Model} {c : Prop} [Decidable c] {a b : Sem α} {Q : α → Shared → Prop} (hc : ¬ c) (h : wpAny M A b Q E s) : wpAny M A (if c then a else b) Q E s := by
  rw [if_neg hc]; exact h
theorem bi_zeros : Array.replicate (Int.toNat 8) (0 : UInt8) = b8 0 := by unfold b8; rfl
theorem bi_new {t : Tok} {Q : Value → Shared → Prop} (hQ : ∀ t' k, Q (.bytes (b8 0) t') { s with toks := k }) :
    codeAny (model prog w) A (.call (.builtin "bytes.__new__") ⟨[.type "bytes", .int 8 t], []⟩) (wants Q E) s := by
  refine codeAny_of_tree ?_
  show wpAny _ A.in1 (do checkBuiltinCall "bytes.__new__" ⟨[.type "bytes", .int 8 t], []⟩; again (.builtin "bytes.__new__" ⟨[.type "bytes", .int 8 t], []⟩)) _ _ s
  refine wpAny_bind (wpAny_of_eq (F.bm_newCall _) (wpAny_pure ⟨plainId_quiet F.bm_plain _, codeAny_builtin F.bm_entry ?_⟩))
  rw [Around.under_plainId F.bm_plain _]
  have hT : s.TypeIs (.int 8 t) "int" := rfl
  unfold Builtin.«bytes.__new__»
  refine wpAny_bind (wpAny_of_eq (a := true) rfl ?_)
  refine bm_if_false rfl ?_
  refine wpAny_bind (wpAny_of_eq F.bm_sub ?_)
  refine bm_if_false rfl ?_
  refine wpAny_bind (wpAny_of_eq (F.bm_bind _) ?_)
  refine wpAny_bind (wpAny_of_eq (a := ()) rfl ?_)
  refine wpAny_bind (wpAny_of_eq (a := ()) rfl ?_)
  refine bm_if_false rfl ?_
  refine wpAny_bind (wpAny_specialOf hT bi_no_bytes ?_)
  refine wpAny_bind (wpAny_of_eq (a := false) rfl ?_)
  refine bm_if_false rfl ?_
  refine wpAny_bind (wpAny_specialOf hT bi_index ?_)
  refine bm_if_false rfl ?_
  refine wpAny_bind (wpAny_attempt (wpAny_of_eq (a := 8) rfl ?_))
  dsimp only
  refine bm_if_false (by decide +kernel) ?_
  refine bi_if (by decide +kernel) ?_
  refine bi_if (by decide +kernel) ?_
  refine bm_if_false (by decide +kernel) ?_
  refine wpAny_bind (wpAny_rule ?_)
  rw [bi_zeros]
  refine wpAny_bind (wpAny_mkBytes ?_ (by rw [b8_size, sizeLine_eq]; exact Nat.le_of_ble_eq_true rfl))
  show wpAny _ _ (if (Value.type "bytes" == Value.type "bytes") = true then _ else _) _ _ _
  refine bm_if_true (by decide) ?_
  first
    | exact wpAny_pure (hQ _ _)
    | exact wpAny_bind (wpAny_pure (wpAny_pure (hQ _ _)))
theorem call_bytes8 {t : Tok} {Q : Value → Shared → Prop} (hQ : ∀ t' k, Q (.bytes (b8 0) t') { s with toks := k }) : wpAny (model prog w) A (call (.type "bytes") [.int 8 t]) Q E s := by
  refine callType_codes (Q₁ := fun obj s₁ => s₁.TypeIs obj "bytes" ∧ Q obj s₁) F.bm_called (F.bm_typeCall _) F.entry_object_init
    (bi_new fun t' k => ⟨PySem.W.typeIs_bytes _ _ _, hQ t' k⟩) fun obj s₁ h₁ => ?_
  exact ⟨h₁.1, F.args_object_init_2 obj _, object_init_meets F.bm_called.init.lookup F.bm_called.made (by decide) prog w A.in1 _ s₁ ⟨h₁.1, rfl, h₁.2⟩⟩
end
/-! 'for x in range(..)', the invariant free: a turn may make lasting objects -/
section
variable {prog : Program} {w : World} {A : Around} {E : Value → Shared → Prop} {s : Shared} {env : Env} {h₀ : Heap} {x : Str} {body : List Stmt} {Q : Flow → Shared → Prop}
theorem rangeLoop {r : Addr} {b₀ : Int} {t₀ u₀ v₀ : Tok} {n : Nat} {m₀ : Str → Option Value} {news : List (Addr × Obj)} (J : Nat → (Str → Option Value) → List (Addr × Obj) → Prop)
    (hh : A.handled = none) (hr : IsRange s.heap r 0 b₀ 1 t₀ u₀ v₀) (hsmall : Builtin.Range.small 0 b₀ 1 = true) (hn : Builtin.Range.rangeSize 0 b₀ 1 = (n : Int)) (F : Fr h₀ env.locals s.heap m₀) (N : News h₀ env.locals s.heap news) (hj : J 0 m₀ news)
    (turn : ∀ i t m₁ nx (I : Addr) (oI : Obj) h tk (Q' : Flow → Shared → Prop), i < n → J i m₁ nx → (∀ p ∈ nx, p.1 ≠ I) → Fr h₀ env.locals h (fun y => if y = x then some (.int (i : Int) t) else m₁ y) → News h₀ env.locals h ((I, oI) :: nx) →
      (∀ h' tk' m' nx', Fr h₀ env.locals h' m' → News h₀ env.locals h' ((I, oI) :: nx') → (∀ p ∈ nx', p.1 ≠ I) → J (i + 1) m' nx' → Q' .next { s with heap := h', toks := tk' }) →
      wpAny (model prog w) A (execs body env) Q' E { s with heap := h, toks := tk })
    (done : ∀ m₁ nx h tk, J n m₁ nx → Fr h₀ env.locals h m₁ → News h₀ env.locals h nx → Q .next { s with heap := h, toks := tk }) :
    wpAny (model prog w) A (pyIter (.ref r)) (fun it s₂ => LoopAtV prog w A h₀ env x body Q E it s₂) E s := by
  refine wpAny_pyIter_range hr hsmall ?_
  have W : Walks prog w A s.heap.objs.size [s.heap.objs.size] [s.heap.objs.size] n (fun i v => i < n ∧ ∃ t, v = .int (0 + i * 1) t)
      (fun i h => IsRangeIter h s.heap.objs.size (0 + (i : Nat) * 1) ((n : Int) - (i : Nat)) 1) := (Walks.range hh _ 0 1 n).bound
  refine ⟨_, _, _, _, _, _, m₀, news, J, rfl, W, ?_, ?_, ?_, (by show IsRangeIter _ _ _ _ _; rw [hn]; simpa using Heap.get?_push_size _ rfl), F.push _, (fun p hp => ⟨Heap.get?_push_of_some _ (N p hp).1, (N p hp).2⟩), hj, ?_, ?_⟩
  · intro hm
    exact absurd F.ns.lt ((List.mem_singleton.mp hm) ▸ Nat.lt_irrefl _)
  · intro b hb
    rw [List.mem_singleton.mp hb]
    exact next_is_new F
  · intro p hp hI
    exact absurd (Heap.lt_size (N p hp).1) ((List.mem_singleton.mp hI) ▸ Nat.lt_irrefl _)
  · rintro i v m₁ news₁ s₁ own ⟨hh', tk', rfl⟩ hin ⟨_, t, rfl⟩ hJ hoff hown hget hmem hst F₁ N₁
    obtain ⟨oI, eI⟩ : ∃ oI, hh'.get? s.heap.objs.size = some oI := ⟨_, hst⟩
    have mI : (s.heap.objs.size, oI) ∈ own := hmem _ (List.mem_singleton.mpr rfl) (next_is_new F) _ eI
    have all : ∀ p ∈ own, p = (s.heap.objs.size, oI) := fun p hp => by
      have e1 : p.1 = s.heap.objs.size := List.mem_singleton.mp (hown p hp)
      have e2 := hget p hp
      rw [e1] at e2
      have e3 : oI = p.2 := Option.some.inj (eI.symm.trans e2)
      exact Prod.ext e1 e3.symm
    have e0 : (0 : Int) + (i : Int) * 1 = (i : Int) := by omega
    rw [e0] at F₁
    have N₂ : News h₀ env.locals hh' ((s.heap.objs.size, oI) :: news₁) := fun p hp => by
      rcases List.mem_cons.mp hp with rfl | hp
      · exact N₁ _ (List.mem_append_left _ mI)
      · exact N₁ _ (List.mem_append_right _ hp)
    refine turn i t m₁ news₁ _ oI hh' tk' _ hin hJ (fun p hp e => hoff p hp (List.mem_singleton.mpr e)) F₁ N₂ fun h' tk2 m' nx' F' N' ho hJ' => ?_
    refine .next ⟨rfl, h', tk2, m', nx', rfl, F', fun p hp => ?_, fun p hp hq => ho p hp (List.mem_singleton.mp hq), hJ'⟩
    rcases List.mem_append.mp hp with hp | hp
    · rw [all p hp]; exact N' _ (.head _)
    · exact N' _ (.tail _ hp)
  · rintro h' tk m' news' F' N' _ hJ
    exact done m' news' h' tk hJ F' N'
end
/-! the law's objects by their words: attributes read and stored, methods found; what they hold stays hidden -/
theorem newsUpd {h₀ h : Heap} {L d : Addr} {o o' : Obj} {news news' : List (Addr × Obj)} (U : Upd d o o' news news') (N' : News h₀ L h ((d, o') :: news.filter (fun p => p.1 != d))) : News h₀ L h news' := by
  obtain ⟨pre, post, e, e', h1, h2⟩ := U.split
  intro p hp
  rw [e'] at hp
  rcases List.mem_append.mp hp with hp | hp
  · exact N' p (.tail _ (List.mem_filter.mpr ⟨by rw [e]; exact List.mem_append_left _ hp, by simpa using h1 p hp⟩))
  rcases List.mem_cons.mp hp with rfl | hp
  · exact N' _ (.head _)
  · exact N' p (.tail _ (List.mem_filter.mpr ⟨by rw [e]; exact List.mem_append_right _ (.tail _ hp), by simpa using h2 p hp⟩))
theorem newsCut {h₀ h : Heap} {L d : Addr} {o : Obj} {news : List (Addr × Obj)} (N : News h₀ L h news) (m2 : (d, o) ∈ news) : News h₀ L h ((d, o) :: news.filter (fun p => p.1 != d)) := by
  intro p hp
  rcases List.mem_cons.mp hp with rfl | hp
  · exact N _ m2
  · exact N _ (List.mem_filter.mp hp).1
theorem updCut {d : Addr} {o o' : Obj} {news : List (Addr × Obj)} : Upd d o o' ((d, o) :: news.filter (fun p => p.1 != d)) ((d, o') :: news.filter (fun p => p.1 != d)) :=
  Upd.head fun p hp => by simpa using (List.mem_filter.mp hp).2
set_option maxRecDepth 100000 in
set_option maxHeartbeats 0 in
theorem gp_address {w : World} {A : Around} {E : Value → Shared → Prop} {s : Shared} {h₀ : Heap} {L : Addr} {m : Str → Option Value} {news : List (Addr × Obj)} {x d : Addr} {o : Obj} {nm st : String} {fr mo : Bool} {recv : Int} {ch : Addr} {dl : Value} {ex : Bool} {Q : Value → Shared → Prop} (F : Fr h₀ L s.heap m) (X : (kF w.params).In h₀) (N : News h₀ L s.heap news) (m1 : (x, instObj 126 d) ∈ news) (m2 : (d, o) ∈ news) (hO : PathO w.params o nm st fr recv ch dl mo) (h : ∀ t tk, Q (.str (Str.ofString nm) t) { s with toks := tk }) : wpAny (MP w) A (getAttr (.ref x) (Str.ofString "address") ex) Q E s := by
  revert X
  dsimp only [MP]
  k_fill
  intro X
  cases hO
  all_goals exact get_own F X (InstAt.of_news N m1 m2) (by k_is) (by k_is) (by k_is) (by k_is) (by k_get) (by first | assumption | k_handed) (h _ _)
set_option maxRecDepth 100000 in
set_option maxHeartbeats 0 in
theorem gp_state {w : World} {A : Around} {E : Value → Shared → Prop} {s : Shared} {h₀ : Heap} {L : Addr} {m : Str → Option Value} {news : List (Addr × Obj)} {x d : Addr} {o : Obj} {nm st : String} {fr mo : Bool} {recv : Int} {ch : Addr} {dl : Value} {ex : Bool} {Q : Value → Shared → Prop} (F : Fr h₀ L s.heap m) (X : (kF w.params).In h₀) (N : News h₀ L s.heap news) (m1 : (x, instObj 126 d) ∈ news) (m2 : (d, o) ∈ news) (hO : PathO w.params o nm st fr recv ch dl mo) (h : ∀ t tk, Q (.str (Str.ofString st) t) { s with toks := tk }) : wpAny (MP w) A (getAttr (.ref x) (Str.ofString "state") ex) Q E s := by
  revert X
  dsimp only [MP]
  k_fill
  intro X
  cases hO
  all_goals exact get_own F X (InstAt.of_news N m1 m2) (by k_is) (by k_is) (by k_is) (by k_is) (by k_get) (by first | assumption | k_handed) (h _ _)
set_option maxRecDepth 100000 in
set_option maxHeartbeats 0 in
theorem gp_is_free {w : World} {A : Around} {E : Value → Shared → Prop} {s : Shared} {h₀ : Heap} {L : Addr} {m : Str → Option Value} {news : List (Addr × Obj)} {x d : Addr} {o : Obj} {nm st : String} {fr mo : Bool} {recv : Int} {ch : Addr} {dl : Value} {ex : Bool} {Q : Value → Shared → Prop} (F : Fr h₀ L s.heap m) (X : (kF w.params).In h₀) (N : News h₀ L s.heap news) (m1 : (x, instObj 126 d) ∈ news) (m2 : (d, o) ∈ news) (hO : PathO w.params o nm st fr recv ch dl mo) (h : ∀ tk, Q (.bool fr) { s with toks := tk }) : wpAny (MP w) A (getAttr (.ref x) (Str.ofString "is_free") ex) Q E s := by
  revert X
  dsimp only [MP]
  k_fill
  intro X
  cases hO
  all_goals exact get_own F X (InstAt.of_news N m1 m2) (by k_is) (by k_is) (by k_is) (by k_is) (by k_get) (by first | assumption | k_handed) (h _)
set_option maxRecDepth 100000 in
set_option maxHeartbeats 0 in
theorem gp_received {w : World} {A : Around} {E : Value → Shared → Prop} {s : Shared} {h₀ : Heap} {L : Addr} {m : Str → Option Value} {news : List (Addr × Obj)} {x d : Addr} {o : Obj} {nm st : String} {fr mo : Bool} {recv : Int} {ch : Addr} {dl : Value} {ex : Bool} {Q : Value → Shared → Prop} (F : Fr h₀ L s.heap m) (X : (kF w.params).In h₀) (N : News h₀ L s.heap news) (m1 : (x, instObj 126 d) ∈ news) (m2 : (d, o) ∈ news) (hO : PathO w.params o nm st fr recv ch dl mo) (h : ∀ t tk, Q (.int recv t) { s with toks := tk }) : wpAny (MP w) A (getAttr (.ref x) (Str.ofString "received") ex) Q E s := by
  revert X
  dsimp only [MP]
  k_fill
  intro X
  cases hO
  all_goals exact get_own F X (InstAt.of_news N m1 m2) (by k_is) (by k_is) (by k_is) (by k_is) (by k_get) (by first | assumption | k_handed) (h _ _)
set_option maxRecDepth 100000 in
set_option maxHeartbeats 0 in
theorem gp_challenges {w : World} {A : Around} {E : Value → Shared → Prop} {s : Shared} {h₀ : Heap} {L : Addr} {m : Str → Option Value} {news : List (Addr × Obj)} {x d : Addr} {o : Obj} {nm st : String} {fr mo : Bool} {recv : Int} {ch : Addr} {dl : Value} {ex : Bool} {Q : Value → Shared → Prop} (F : Fr h₀ L s.heap m) (X : (kF w.params).In h₀) (N : News h₀ L s.heap news) (m1 : (x, instObj 126 d) ∈ news) (m2 : (d, o) ∈ news) (hO : PathO w.params o nm st fr recv ch dl mo) (h : ∀ tk, Q (.ref ch) { s with toks := tk }) : wpAny (MP w) A (getAttr (.ref x) (Str.ofString "challenges") ex) Q E s := by
  revert X
  dsimp only [MP]
  k_fill
  intro X
  cases hO
  all_goals exact get_own F X (InstAt.of_news N m1 m2) (by k_is) (by k_is) (by k_is) (by k_is) (by k_get) (by first | assumption | k_handed) (h _)
set_option maxRecDepth 100000 in
set_option maxHeartbeats 0 in
theorem gp_deadline {w : World} {A : Around} {E : Value → Shared → Prop} {s : Shared} {h₀ : Heap} {L : Addr} {m : Str → Option Value} {news : List (Addr × Obj)} {x d : Addr} {o : Obj} {nm st : String} {fr mo : Bool} {recv : Int} {ch : Addr} {dl : Value} {ex : Bool} {Q : Value → Shared → Prop} (F : Fr h₀ L s.heap m) (X : (kF w.params).In h₀) (N : News h₀ L s.heap news) (m1 : (x, instObj 126 d) ∈ news) (m2 : (d, o) ∈ news) (hO : PathO w.params o nm st fr recv ch dl mo) (hv : handedIn dl = true) (h : ∀ tk, Q (dl) { s with toks := tk }) : wpAny (MP w) A (getAttr (.ref x) (Str.ofString "deadline") ex) Q E s := by
  revert X
  dsimp only [MP]
  k_fill
  intro X
  cases hO
  all_goals exact get_own F X (InstAt.of_news N m1 m2) (by k_is) (by k_is) (by k_is) (by k_is) (by k_get) (by first | assumption | k_handed) (h _)
set_option maxRecDepth 100000 in
set_option maxHeartbeats 0 in
theorem gp_wants_more {w : World} {A : Around} {E : Value → Shared → Prop} {s : Shared} {h₀ : Heap} {L : Addr} {m : Str → Option Value} {news : List (Addr × Obj)} {x d : Addr} {o : Obj} {nm st : String} {fr mo : Bool} {recv : Int} {ch : Addr} {dl : Value} {ex : Bool} {Q : Value → Shared → Prop} (F : Fr h₀ L s.heap m) (X : (kF w.params).In h₀) (N : News h₀ L s.heap news) (m1 : (x, instObj 126 d) ∈ news) (m2 : (d, o) ∈ news) (hO : PathO w.params o nm st fr recv ch dl mo) (h : ∀ tk, Q (.bool mo) { s with toks := tk }) : wpAny (MP w) A (getAttr (.ref x) (Str.ofString "wants_more") ex) Q E s := by
  revert X
  dsimp only [MP]
  k_fill
  intro X
  cases hO
  all_goals exact get_own F X (InstAt.of_news N m1 m2) (by k_is) (by k_is) (by k_is) (by k_is) (by k_get) (by first | assumption | k_handed) (h _)
set_option maxRecDepth 100000 in
set_option maxHeartbeats 0 in
theorem gs_role {w : World} {A : Around} {E : Value → Shared → Prop} {s : Shared} {h₀ : Heap} {L : Addr} {m : Str → Option Value} {news : List (Addr × Obj)} {x d : Addr} {o : Obj} {kn act la an : Addr} {hi : Int} {ex : Bool} {Q : Value → Shared → Prop} (F : Fr h₀ L s.heap m) (X : (kF w.params).In h₀) (N : News h₀ L s.heap news) (m1 : (x, instObj 243 d) ∈ news) (m2 : (d, o) ∈ news) (hO : PathsO w.params o kn act la hi an) (h : ∀ t tk, Q (.str (Str.ofString "server") t) { s with toks := tk }) : wpAny (MP w) A (getAttr (.ref x) (Str.ofString "role") ex) Q E s := by
  revert X
  dsimp only [MP]
  k_fill
  intro X
  cases hO
  all_goals exact get_own F X (InstAt.of_news N m1 m2) (by k_is) (by k_is) (by k_is) (by k_is) (by k_get) (by first | assumption | k_handed) (h _ _)
set_option maxRecDepth 100000 in
set_option maxHeartbeats 0 in
theorem gs_may_move {w : World} {A : Around} {E : Value → Shared → Prop} {s : Shared} {h₀ : Heap} {L : Addr} {m : Str → Option Value} {news : List (Addr × Obj)} {x d : Addr} {o : Obj} {kn act la an : Addr} {hi : Int} {ex : Bool} {Q : Value → Shared → Prop} (F : Fr h₀ L s.heap m) (X : (kF w.params).In h₀) (N : News h₀ L s.heap news) (m1 : (x, instObj 243 d) ∈ news) (m2 : (d, o) ∈ news) (hO : PathsO w.params o kn act la hi an) (h : ∀ tk, Q (.bool true) { s with toks := tk }) : wpAny (MP w) A (getAttr (.ref x) (Str.ofString "may_move") ex) Q E s := by
  revert X
  dsimp only [MP]
  k_fill
  intro X
  cases hO
  all_goals exact get_own F X (InstAt.of_news N m1 m2) (by k_is) (by k_is) (by k_is) (by k_is) (by k_get) (by first | assumption | k_handed) (h _)
set_option maxRecDepth 100000 in
set_option maxHeartbeats 0 in
theorem gs_known {w : World} {A : Around} {E : Value → Shared → Prop} {s : Shared} {h₀ : Heap} {L : Addr} {m : Str → Option Value} {news : List (Addr × Obj)} {x d : Addr} {o : Obj} {kn act la an : Addr} {hi : Int} {ex : Bool} {Q : Value → Shared → Prop} (F : Fr h₀ L s.heap m) (X : (kF w.params).In h₀) (N : News h₀ L s.heap news) (m1 : (x, instObj 243 d) ∈ news) (m2 : (d, o) ∈ news) (hO : PathsO w.params o kn act la hi an) (h : ∀ tk, Q (.ref kn) { s with toks := tk }) : wpAny (MP w) A (getAttr (.ref x) (Str.ofString "known") ex) Q E s := by
  revert X
  dsimp only [MP]
  k_fill
  intro X
  cases hO
  all_goals exact get_own F X (InstAt.of_news N m1 m2) (by k_is) (by k_is) (by k_is) (by k_is) (by k_get) (by first | assumption | k_handed) (h _)
set_option maxRecDepth 100000 in
set_option maxHeartbeats 0 in
theorem gs_active {w : World} {A : Around} {E : Value → Shared → Prop} {s : Shared} {h₀ : Heap} {L : Addr} {m : Str → Option Value} {news : List (Addr × Obj)} {x d : Addr} {o : Obj} {kn act la an : Addr} {hi : Int} {ex : Bool} {Q : Value → Shared → Prop} (F : Fr h₀ L s.heap m) (X : (kF w.params).In h₀) (N : News h₀ L s.heap news) (m1 : (x, instObj 243 d) ∈ news) (m2 : (d, o) ∈ news) (hO : PathsO w.params o kn act la hi an) (h : ∀ tk, Q (.ref act) { s with toks := tk }) : wpAny (MP w) A (getAttr (.ref x) (Str.ofString "active") ex) Q E s := by
  revert X
  dsimp only [MP]
  k_fill
  intro X
  cases hO
  all_goals exact get_own F X (InstAt.of_news N m1 m2) (by k_is) (by k_is) (by k_is) (by k_is) (by k_get) (by first | assumption | k_handed) (h _)
set_option maxRecDepth 100000 in
set_option maxHeartbeats 0 in
theorem gs_last_proven {w : World} {A : Around} {E : Value → Shared → Prop} {s : Shared} {h₀ : Heap} {L : Addr} {m : Str → Option Value} {news : List (Addr × Obj)} {x d : Addr} {o : Obj} {kn act la an : Addr} {hi : Int} {ex : Bool} {Q : Value → Shared → Prop} (F : Fr h₀ L s.heap m) (X : (kF w.params).In h₀) (N : News h₀ L s.heap news) (m1 : (x, instObj 243 d) ∈ news) (m2 : (d, o) ∈ news) (hO : PathsO w.params o kn act la hi an) (h : ∀ tk, Q (.ref la) { s with toks := tk }) : wpAny (MP w) A (getAttr (.ref x) (Str.ofString "last_proven") ex) Q E s := by
  revert X
  dsimp only [MP]
  k_fill
  intro X
  cases hO
  all_goals exact get_own F X (InstAt.of_news N m1 m2) (by k_is) (by k_is) (by k_is) (by k_is) (by k_get) (by first | assumption | k_handed) (h _)
set_option maxRecDepth 100000 in
set_option maxHeartbeats 0 in
theorem gs_highest {w : World} {A : Around} {E : Value → Shared → Prop} {s : Shared} {h₀ : Heap} {L : Addr} {m : Str → Option Value} {news : List (Addr × Obj)} {x d : Addr} {o : Obj} {kn act la an : Addr} {hi : Int} {ex : Bool} {Q : Value → Shared → Prop} (F : Fr h₀ L s.heap m) (X : (kF w.params).In h₀) (N : News h₀ L s.heap news) (m1 : (x, instObj 243 d) ∈ news) (m2 : (d, o) ∈ news) (hO : PathsO w.params o kn act la hi an) (h : ∀ t tk, Q (.int hi t) { s with toks := tk }) : wpAny (MP w) A (getAttr (.ref x) (Str.ofString "highest") ex) Q E s := by
  revert X
  dsimp only [MP]
  k_fill
  intro X
  cases hO
  all_goals exact get_own F X (InstAt.of_news N m1 m2) (by k_is) (by k_is) (by k_is) (by k_is) (by k_get) (by first | assumption | k_handed) (h _ _)
set_option maxRecDepth 100000 in
set_option maxHeartbeats 0 in
theorem gs_answers {w : World} {A : Around} {E : Value → Shared → Prop} {s : Shared} {h₀ : Heap} {L : Addr} {m : Str → Option Value} {news : List (Addr × Obj)} {x d : Addr} {o : Obj} {kn act la an : Addr} {hi : Int} {ex : Bool} {Q : Value → Shared → Prop} (F : Fr h₀ L s.heap m) (X : (kF w.params).In h₀) (N : News h₀ L s.heap news) (m1 : (x, instObj 243 d) ∈ news) (m2 : (d, o) ∈ news) (hO : PathsO w.params o kn act la hi an) (h : ∀ tk, Q (.ref an) { s with toks := tk }) : wpAny (MP w) A (getAttr (.ref x) (Str.ofString "answers") ex) Q E s := by
  revert X
  dsimp only [MP]
  k_fill
  intro X
  cases hO
  all_goals exact get_own F X (InstAt.of_news N m1 m2) (by k_is) (by k_is) (by k_is) (by k_is) (by k_get) (by first | assumption | k_handed) (h _)
set_option maxRecDepth 100000 in
set_option maxHeartbeats 0 in
theorem gc_paths {w : World} {A : Around} {E : Value → Shared → Prop} {s : Shared} {h₀ : Heap} {L : Addr} {m : Str → Option Value} {news : List (Addr × Obj)} {x d : Addr} {o : Obj} {xP xS fW fC : Addr} {n : Int} {fl : Bool} {ex : Bool} {Q : Value → Shared → Prop} (F : Fr h₀ L s.heap m) (X : (kF w.params).In h₀) (N : News h₀ L s.heap news) (m1 : (x, instObj 410 d) ∈ news) (m2 : (d, o) ∈ news) (hO : ConnO w.params o xP xS fW fC n fl) (h : ∀ tk, Q (.ref xP) { s with toks := tk }) : wpAny (MP w) A (getAttr (.ref x) (Str.ofString "paths") ex) Q E s := by
  revert X
  dsimp only [MP]
  k_fill
  intro X
  cases hO
  all_goals exact get_own F X (InstAt.of_news N m1 m2) (by k_is) (by k_is) (by k_is) (by k_is) (by k_get) (by first | assumption | k_handed) (h _)
set_option maxRecDepth 100000 in
set_option maxHeartbeats 0 in
theorem gc_shake {w : World} {A : Around} {E : Value → Shared → Prop} {s : Shared} {h₀ : Heap} {L : Addr} {m : Str → Option Value} {news : List (Addr × Obj)} {x d : Addr} {o : Obj} {xP xS fW fC : Addr} {n : Int} {fl : Bool} {ex : Bool} {Q : Value → Shared → Prop} (F : Fr h₀ L s.heap m) (X : (kF w.params).In h₀) (N : News h₀ L s.heap news) (m1 : (x, instObj 410 d) ∈ news) (m2 : (d, o) ∈ news) (hO : ConnO w.params o xP xS fW fC n fl) (h : ∀ tk, Q (.ref xS) { s with toks := tk }) : wpAny (MP w) A (getAttr (.ref x) (Str.ofString "shake") ex) Q E s := by
  revert X
  dsimp only [MP]
  k_fill
  intro X
  cases hO
  all_goals exact get_own F X (InstAt.of_news N m1 m2) (by k_is) (by k_is) (by k_is) (by k_is) (by k_get) (by first | assumption | k_handed) (h _)
set_option maxRecDepth 100000 in
set_option maxHeartbeats 0 in
theorem gc_challenged {w : World} {A : Around} {E : Value → Shared → Prop} {s : Shared} {h₀ : Heap} {L : Addr} {m : Str → Option Value} {news : List (Addr × Obj)} {x d : Addr} {o : Obj} {xP xS fW fC : Addr} {n : Int} {fl : Bool} {ex : Bool} {Q : Value → Shared → Prop} (F : Fr h₀ L s.heap m) (X : (kF w.params).In h₀) (N : News h₀ L s.heap news) (m1 : (x, instObj 410 d) ∈ news) (m2 : (d, o) ∈ news) (hO : ConnO w.params o xP xS fW fC n fl) (h : ∀ t tk, Q (.int n t) { s with toks := tk }) : wpAny (MP w) A (getAttr (.ref x) (Str.ofString "challenged") ex) Q E s := by
  revert X
  dsimp only [MP]
  k_fill
  intro X
  cases hO
  all_goals exact get_own F X (InstAt.of_news N m1 m2) (by k_is) (by k_is) (by k_is) (by k_is) (by k_get) (by first | assumption | k_handed) (h _ _)
set_option maxRecDepth 100000 in
set_option maxHeartbeats 0 in
theorem gc_probe_wait {w : World} {A : Around} {E : Value → Shared → Prop} {s : Shared} {h₀ : Heap} {L : Addr} {m : Str → Option Value} {news : List (Addr × Obj)} {x d : Addr} {o : Obj} {xP xS fW fC : Addr} {n : Int} {fl : Bool} {ex : Bool} {Q : Value → Shared → Prop} (F : Fr h₀ L s.heap m) (X : (kF w.params).In h₀) (N : News h₀ L s.heap news) (m1 : (x, instObj 410 d) ∈ news) (m2 : (d, o) ∈ news) (hO : ConnO w.params o xP xS fW fC n fl) (h : ∀ tk, Q (.ref fW) { s with toks := tk }) : wpAny (MP w) A (getAttr (.ref x) (Str.ofString "probe_wait") ex) Q E s := by
  revert X
  dsimp only [MP]
  k_fill
  intro X
  cases hO
  all_goals exact get_own F X (InstAt.of_news N m1 m2) (by k_is) (by k_is) (by k_is) (by k_is) (by k_get) (by first | assumption | k_handed) (h _)
set_option maxRecDepth 100000 in
set_option maxHeartbeats 0 in
theorem gc_choose {w : World} {A : Around} {E : Value → Shared → Prop} {s : Shared} {h₀ : Heap} {L : Addr} {m : Str → Option Value} {news : List (Addr × Obj)} {x d : Addr} {o : Obj} {xP xS fW fC : Addr} {n : Int} {fl : Bool} {ex : Bool} {Q : Value → Shared → Prop} (F : Fr h₀ L s.heap m) (X : (kF w.params).In h₀) (N : News h₀ L s.heap news) (m1 : (x, instObj 410 d) ∈ news) (m2 : (d, o) ∈ news) (hO : ConnO w.params o xP xS fW fC n fl) (h : ∀ tk, Q (.ref fC) { s with toks := tk }) : wpAny (MP w) A (getAttr (.ref x) (Str.ofString "choose") ex) Q E s := by
  revert X
  dsimp only [MP]
  k_fill
  intro X
  cases hO
  all_goals exact get_own F X (InstAt.of_news N m1 m2) (by k_is) (by k_is) (by k_is) (by k_is) (by k_get) (by first | assumption | k_handed) (h _)
set_option maxRecDepth 100000 in
set_option maxHeartbeats 0 in
theorem gh_is_complete {w : World} {A : Around} {E : Value → Shared → Prop} {s : Shared} {h₀ : Heap} {L : Addr} {m : Str → Option Value} {news : List (Addr × Obj)} {x d : Addr} {o : Obj}  {ex : Bool} {Q : Value → Shared → Prop} (F : Fr h₀ L s.heap m) (X : (kF w.params).In h₀) (N : News h₀ L s.heap news) (m1 : (x, instObj 410 d) ∈ news) (m2 : (d, o) ∈ news) (hO : ShakeO w.params o) (h : ∀ tk, Q (.bool true) { s with toks := tk }) : wpAny (MP w) A (getAttr (.ref x) (Str.ofString "is_complete") ex) Q E s := by
  revert X
  dsimp only [MP]
  k_fill
  intro X
  cases hO
  all_goals exact get_own F X (InstAt.of_news N m1 m2) (by k_is) (by k_is) (by k_is) (by k_is) (by k_get) (by first | assumption | k_handed) (h _)
set_option maxRecDepth 100000 in
set_option maxHeartbeats 0 in
theorem mp_is_proven {w : World} {A : Around} {E : Value → Shared → Prop} {s : Shared} {h₀ : Heap} {L : Addr} {m : Str → Option Value} {news : List (Addr × Obj)} {x d : Addr} {o : Obj} {nm st : String} {fr mo : Bool} {recv : Int} {ch : Addr} {dl : Value} {pl : Sem Bool} {Q : Value × List Value → Shared → Prop} (F : Fr h₀ L s.heap m) (X : (kF w.params).In h₀) (N : News h₀ L s.heap news) (m1 : (x, instObj 126 d) ∈ news) (m2 : (d, o) ∈ news) (hO : PathO w.params o nm st fr recv ch dl mo) (h : Q (.ref 67, [.ref x]) s) : wpAny (MP w) A (getMethod (.ref x) (Str.ofString "is_proven") pl) Q E s := by
  revert X
  dsimp only [MP]
  k_fill
  intro X
  cases hO
  all_goals exact method_inst F X (InstAt.of_news N m1 m2) (by k_is) (by k_is) (by k_is) (by k_get) h
set_option maxRecDepth 100000 in
set_option maxHeartbeats 0 in
theorem mp_on_received {w : World} {A : Around} {E : Value → Shared → Prop} {s : Shared} {h₀ : Heap} {L : Addr} {m : Str → Option Value} {news : List (Addr × Obj)} {x d : Addr} {o : Obj} {nm st : String} {fr mo : Bool} {recv : Int} {ch : Addr} {dl : Value} {pl : Sem Bool} {Q : Value × List Value → Shared → Prop} (F : Fr h₀ L s.heap m) (X : (kF w.params).In h₀) (N : News h₀ L s.heap news) (m1 : (x, instObj 126 d) ∈ news) (m2 : (d, o) ∈ news) (hO : PathO w.params o nm st fr recv ch dl mo) (h : Q (.ref 88, [.ref x]) s) : wpAny (MP w) A (getMethod (.ref x) (Str.ofString "on_received") pl) Q E s := by
  revert X
  dsimp only [MP]
  k_fill
  intro X
  cases hO
  all_goals exact method_inst F X (InstAt.of_news N m1 m2) (by k_is) (by k_is) (by k_is) (by k_get) h
set_option maxRecDepth 100000 in
set_option maxHeartbeats 0 in
theorem mp_renew {w : World} {A : Around} {E : Value → Shared → Prop} {s : Shared} {h₀ : Heap} {L : Addr} {m : Str → Option Value} {news : List (Addr × Obj)} {x d : Addr} {o : Obj} {nm st : String} {fr mo : Bool} {recv : Int} {ch : Addr} {dl : Value} {pl : Sem Bool} {Q : Value × List Value → Shared → Prop} (F : Fr h₀ L s.heap m) (X : (kF w.params).In h₀) (N : News h₀ L s.heap news) (m1 : (x, instObj 126 d) ∈ news) (m2 : (d, o) ∈ news) (hO : PathO w.params o nm st fr recv ch dl mo) (h : Q (.ref 123, [.ref x]) s) : wpAny (MP w) A (getMethod (.ref x) (Str.ofString "renew") pl) Q E s := by
  revert X
  dsimp only [MP]
  k_fill
  intro X
  cases hO
  all_goals exact method_inst F X (InstAt.of_news N m1 m2) (by k_is) (by k_is) (by k_is) (by k_get) h
set_option maxRecDepth 100000 in
set_option maxHeartbeats 0 in
theorem mp_challenge {w : World} {A : Around} {E : Value → Shared → Prop} {s : Shared} {h₀ : Heap} {L : Addr} {m : Str → Option Value} {news : List (Addr × Obj)} {x d : Addr} {o : Obj} {nm st : String} {fr mo : Bool} {recv : Int} {ch : Addr} {dl : Value} {pl : Sem Bool} {Q : Value × List Value → Shared → Prop} (F : Fr h₀ L s.heap m) (X : (kF w.params).In h₀) (N : News h₀ L s.heap news) (m1 : (x, instObj 126 d) ∈ news) (m2 : (d, o) ∈ news) (hO : PathO w.params o nm st fr recv ch dl mo) (h : Q (.ref 109, [.ref x]) s) : wpAny (MP w) A (getMethod (.ref x) (Str.ofString "challenge") pl) Q E s := by
  revert X
  dsimp only [MP]
  k_fill
  intro X
  cases hO
  all_goals exact method_inst F X (InstAt.of_news N m1 m2) (by k_is) (by k_is) (by k_is) (by k_get) h
set_option maxRecDepth 100000 in
set_option maxHeartbeats 0 in
theorem mp_prove {w : World} {A : Around} {E : Value → Shared → Prop} {s : Shared} {h₀ : Heap} {L : Addr} {m : Str → Option Value} {news : List (Addr × Obj)} {x d : Addr} {o : Obj} {nm st : String} {fr mo : Bool} {recv : Int} {ch : Addr} {dl : Value} {pl : Sem Bool} {Q : Value × List Value → Shared → Prop} (F : Fr h₀ L s.heap m) (X : (kF w.params).In h₀) (N : News h₀ L s.heap news) (m1 : (x, instObj 126 d) ∈ news) (m2 : (d, o) ∈ news) (hO : PathO w.params o nm st fr recv ch dl mo) (h : Q (.ref 102, [.ref x]) s) : wpAny (MP w) A (getMethod (.ref x) (Str.ofString "prove") pl) Q E s := by
  revert X
  dsimp only [MP]
  k_fill
  intro X
  cases hO
  all_goals exact method_inst F X (InstAt.of_news N m1 m2) (by k_is) (by k_is) (by k_is) (by k_get) h
set_option maxRecDepth 100000 in
set_option maxHeartbeats 0 in
theorem mp_fail {w : World} {A : Around} {E : Value → Shared → Prop} {s : Shared} {h₀ : Heap} {L : Addr} {m : Str → Option Value} {news : List (Addr × Obj)} {x d : Addr} {o : Obj} {nm st : String} {fr mo : Bool} {recv : Int} {ch : Addr} {dl : Value} {pl : Sem Bool} {Q : Value × List Value → Shared → Prop} (F : Fr h₀ L s.heap m) (X : (kF w.params).In h₀) (N : News h₀ L s.heap news) (m1 : (x, instObj 126 d) ∈ news) (m2 : (d, o) ∈ news) (hO : PathO w.params o nm st fr recv ch dl mo) (h : Q (.ref 116, [.ref x]) s) : wpAny (MP w) A (getMethod (.ref x) (Str.ofString "fail") pl) Q E s := by
  revert X
  dsimp only [MP]
  k_fill
  intro X
  cases hO
  all_goals exact method_inst F X (InstAt.of_news N m1 m2) (by k_is) (by k_is) (by k_is) (by k_get) h
set_option maxRecDepth 100000 in
set_option maxHeartbeats 0 in
theorem ms_on_datagram {w : World} {A : Around} {E : Value → Shared → Prop} {s : Shared} {h₀ : Heap} {L : Addr} {m : Str → Option Value} {news : List (Addr × Obj)} {x d : Addr} {o : Obj} {kn act la an : Addr} {hi : Int} {pl : Sem Bool} {Q : Value × List Value → Shared → Prop} (F : Fr h₀ L s.heap m) (X : (kF w.params).In h₀) (N : News h₀ L s.heap news) (m1 : (x, instObj 243 d) ∈ news) (m2 : (d, o) ∈ news) (hO : PathsO w.params o kn act la hi an) (h : Q (.ref 165, [.ref x]) s) : wpAny (MP w) A (getMethod (.ref x) (Str.ofString "on_datagram") pl) Q E s := by
  revert X
  dsimp only [MP]
  k_fill
  intro X
  cases hO
  all_goals exact method_inst F X (InstAt.of_news N m1 m2) (by k_is) (by k_is) (by k_is) (by k_get) h
set_option maxRecDepth 100000 in
set_option maxHeartbeats 0 in
theorem ms_path_of {w : World} {A : Around} {E : Value → Shared → Prop} {s : Shared} {h₀ : Heap} {L : Addr} {m : Str → Option Value} {news : List (Addr × Obj)} {x d : Addr} {o : Obj} {kn act la an : Addr} {hi : Int} {pl : Sem Bool} {Q : Value × List Value → Shared → Prop} (F : Fr h₀ L s.heap m) (X : (kF w.params).In h₀) (N : News h₀ L s.heap news) (m1 : (x, instObj 243 d) ∈ news) (m2 : (d, o) ∈ news) (hO : PathsO w.params o kn act la hi an) (h : Q (.ref 151, [.ref x]) s) : wpAny (MP w) A (getMethod (.ref x) (Str.ofString "path_of") pl) Q E s := by
  revert X
  dsimp only [MP]
  k_fill
  intro X
  cases hO
  all_goals exact method_inst F X (InstAt.of_news N m1 m2) (by k_is) (by k_is) (by k_is) (by k_get) h
set_option maxRecDepth 100000 in
set_option maxHeartbeats 0 in
theorem ms_opened {w : World} {A : Around} {E : Value → Shared → Prop} {s : Shared} {h₀ : Heap} {L : Addr} {m : Str → Option Value} {news : List (Addr × Obj)} {x d : Addr} {o : Obj} {kn act la an : Addr} {hi : Int} {pl : Sem Bool} {Q : Value × List Value → Shared → Prop} (F : Fr h₀ L s.heap m) (X : (kF w.params).In h₀) (N : News h₀ L s.heap news) (m1 : (x, instObj 243 d) ∈ news) (m2 : (d, o) ∈ news) (hO : PathsO w.params o kn act la hi an) (h : Q (.ref 158, [.ref x]) s) : wpAny (MP w) A (getMethod (.ref x) (Str.ofString "opened") pl) Q E s := by
  revert X
  dsimp only [MP]
  k_fill
  intro X
  cases hO
  all_goals exact method_inst F X (InstAt.of_news N m1 m2) (by k_is) (by k_is) (by k_is) (by k_get) h
set_option maxRecDepth 100000 in
set_option maxHeartbeats 0 in
theorem ms_on_packet {w : World} {A : Around} {E : Value → Shared → Prop} {s : Shared} {h₀ : Heap} {L : Addr} {m : Str → Option Value} {news : List (Addr × Obj)} {x d : Addr} {o : Obj} {kn act la an : Addr} {hi : Int} {pl : Sem Bool} {Q : Value × List Value → Shared → Prop} (F : Fr h₀ L s.heap m) (X : (kF w.params).In h₀) (N : News h₀ L s.heap news) (m1 : (x, instObj 243 d) ∈ news) (m2 : (d, o) ∈ news) (hO : PathsO w.params o kn act la hi an) (h : Q (.ref 172, [.ref x]) s) : wpAny (MP w) A (getMethod (.ref x) (Str.ofString "on_packet") pl) Q E s := by
  revert X
  dsimp only [MP]
  k_fill
  intro X
  cases hO
  all_goals exact method_inst F X (InstAt.of_news N m1 m2) (by k_is) (by k_is) (by k_is) (by k_get) h
set_option maxRecDepth 100000 in
set_option maxHeartbeats 0 in
theorem ms_wants_challenge {w : World} {A : Around} {E : Value → Shared → Prop} {s : Shared} {h₀ : Heap} {L : Addr} {m : Str → Option Value} {news : List (Addr × Obj)} {x d : Addr} {o : Obj} {kn act la an : Addr} {hi : Int} {pl : Sem Bool} {Q : Value × List Value → Shared → Prop} (F : Fr h₀ L s.heap m) (X : (kF w.params).In h₀) (N : News h₀ L s.heap news) (m1 : (x, instObj 243 d) ∈ news) (m2 : (d, o) ∈ news) (hO : PathsO w.params o kn act la hi an) (h : Q (.ref 200, [.ref x]) s) : wpAny (MP w) A (getMethod (.ref x) (Str.ofString "wants_challenge") pl) Q E s := by
  revert X
  dsimp only [MP]
  k_fill
  intro X
  cases hO
  all_goals exact method_inst F X (InstAt.of_news N m1 m2) (by k_is) (by k_is) (by k_is) (by k_get) h
set_option maxRecDepth 100000 in
set_option maxHeartbeats 0 in
theorem ms_take_response {w : World} {A : Around} {E : Value → Shared → Prop} {s : Shared} {h₀ : Heap} {L : Addr} {m : Str → Option Value} {news : List (Addr × Obj)} {x d : Addr} {o : Obj} {kn act la an : Addr} {hi : Int} {pl : Sem Bool} {Q : Value × List Value → Shared → Prop} (F : Fr h₀ L s.heap m) (X : (kF w.params).In h₀) (N : News h₀ L s.heap news) (m1 : (x, instObj 243 d) ∈ news) (m2 : (d, o) ∈ news) (hO : PathsO w.params o kn act la hi an) (h : Q (.ref 221, [.ref x]) s) : wpAny (MP w) A (getMethod (.ref x) (Str.ofString "take_response") pl) Q E s := by
  revert X
  dsimp only [MP]
  k_fill
  intro X
  cases hO
  all_goals exact method_inst F X (InstAt.of_news N m1 m2) (by k_is) (by k_is) (by k_is) (by k_get) h
set_option maxRecDepth 100000 in
set_option maxHeartbeats 0 in
theorem ms_on_time {w : World} {A : Around} {E : Value → Shared → Prop} {s : Shared} {h₀ : Heap} {L : Addr} {m : Str → Option Value} {news : List (Addr × Obj)} {x d : Addr} {o : Obj} {kn act la an : Addr} {hi : Int} {pl : Sem Bool} {Q : Value × List Value → Shared → Prop} (F : Fr h₀ L s.heap m) (X : (kF w.params).In h₀) (N : News h₀ L s.heap news) (m1 : (x, instObj 243 d) ∈ news) (m2 : (d, o) ∈ news) (hO : PathsO w.params o kn act la hi an) (h : Q (.ref 240, [.ref x]) s) : wpAny (MP w) A (getMethod (.ref x) (Str.ofString "on_time") pl) Q E s := by
  revert X
  dsimp only [MP]
  k_fill
  intro X
  cases hO
  all_goals exact method_inst F X (InstAt.of_news N m1 m2) (by k_is) (by k_is) (by k_is) (by k_get) h
set_option maxRecDepth 100000 in
set_option maxHeartbeats 0 in
theorem mc_probe_wait {w : World} {A : Around} {E : Value → Shared → Prop} {s : Shared} {h₀ : Heap} {L : Addr} {m : Str → Option Value} {news : List (Addr × Obj)} {x d : Addr} {o : Obj} {xP xS fW fC : Addr} {n : Int} {fl : Bool} {pl : Sem Bool} {Q : Value × List Value → Shared → Prop} (F : Fr h₀ L s.heap m) (X : (kF w.params).In h₀) (N : News h₀ L s.heap news) (m1 : (x, instObj 410 d) ∈ news) (m2 : (d, o) ∈ news) (hO : ConnO w.params o xP xS fW fC n fl) (h : ∀ tk, Q (.ref fW, []) { s with toks := tk }) : wpAny (MP w) A (getMethod (.ref x) (Str.ofString "probe_wait") pl) Q E s := by
  revert X
  dsimp only [MP]
  k_fill
  intro X
  cases hO
  all_goals exact kmu_own F X (InstAt.of_news N m1 m2) (by k_is) (by k_is) (get_own F X (InstAt.of_news N m1 m2) (by k_is) (by k_is) (by k_is) (by k_is) (by k_get) (by k_handed) (h _))
set_option maxRecDepth 100000 in
set_option maxHeartbeats 0 in
theorem mc_choose {w : World} {A : Around} {E : Value → Shared → Prop} {s : Shared} {h₀ : Heap} {L : Addr} {m : Str → Option Value} {news : List (Addr × Obj)} {x d : Addr} {o : Obj} {xP xS fW fC : Addr} {n : Int} {fl : Bool} {pl : Sem Bool} {Q : Value × List Value → Shared → Prop} (F : Fr h₀ L s.heap m) (X : (kF w.params).In h₀) (N : News h₀ L s.heap news) (m1 : (x, instObj 410 d) ∈ news) (m2 : (d, o) ∈ news) (hO : ConnO w.params o xP xS fW fC n fl) (h : ∀ tk, Q (.ref fC, []) { s with toks := tk }) : wpAny (MP w) A (getMethod (.ref x) (Str.ofString "choose") pl) Q E s := by
  revert X
  dsimp only [MP]
  k_fill
  intro X
  cases hO
  all_goals exact kmu_own F X (InstAt.of_news N m1 m2) (by k_is) (by k_is) (get_own F X (InstAt.of_news N m1 m2) (by k_is) (by k_is) (by k_is) (by k_is) (by k_get) (by k_handed) (h _))
set_option maxRecDepth 100000 in
set_option maxHeartbeats 0 in
theorem tp_state {w : World} {A : Around} {E : Value → Shared → Prop} {s : Shared} {h₀ : Heap} {L : Addr} {m : Str → Option Value} {news : List (Addr × Obj)} {x d : Addr} {o : Obj} {nm st : String} {fr mo : Bool} {recv : Int} {ch : Addr} {dl : Value} {st2 : String} {tv : Tok} {Q : Unit → Shared → Prop} (F : Fr h₀ L s.heap m) (X : (kF w.params).In h₀) (N : News h₀ L s.heap news) (m1 : (x, instObj 126 d) ∈ news) (m2 : (d, o) ∈ news) (hO : PathO w.params o nm st fr recv ch dl mo) (h : ∀ o' h' tk, PathO w.params o' nm st2 fr recv ch dl mo → Fr h₀ L h' m → (∀ news', Upd d o o' news news' → News h₀ L h' news') → Q () { s with heap := h', toks := tk }) : wpAny (MP w) A (setAttr (.ref x) (Str.ofString "state") (.str (Str.ofString st2) tv)) Q E s := by
  revert X
  dsimp only [MP]
  k_fill
  intro X
  cases hO
  all_goals refine set_dict F X (newsCut N m2) (InstAt.of_news N m1 m2) rfl (by k_is) (by k_is) (by k_is) (by k_is) (by k_get) (by k_put) updCut (Nat.le_of_ble_eq_true rfl) fun h' F' N' => h _ _ _ (by exact PathO.mk ..) F' fun news' U => newsUpd U N'
set_option maxRecDepth 100000 in
set_option maxHeartbeats 0 in
theorem tp_is_free {w : World} {A : Around} {E : Value → Shared → Prop} {s : Shared} {h₀ : Heap} {L : Addr} {m : Str → Option Value} {news : List (Addr × Obj)} {x d : Addr} {o : Obj} {nm st : String} {fr mo : Bool} {recv : Int} {ch : Addr} {dl : Value} {fr2 : Bool} {Q : Unit → Shared → Prop} (F : Fr h₀ L s.heap m) (X : (kF w.params).In h₀) (N : News h₀ L s.heap news) (m1 : (x, instObj 126 d) ∈ news) (m2 : (d, o) ∈ news) (hO : PathO w.params o nm st fr recv ch dl mo) (h : ∀ o' h' tk, PathO w.params o' nm st fr2 recv ch dl mo → Fr h₀ L h' m → (∀ news', Upd d o o' news news' → News h₀ L h' news') → Q () { s with heap := h', toks := tk }) : wpAny (MP w) A (setAttr (.ref x) (Str.ofString "is_free") (.bool fr2)) Q E s := by
  revert X
  dsimp only [MP]
  k_fill
  intro X
  cases hO
  all_goals refine set_dict F X (newsCut N m2) (InstAt.of_news N m1 m2) rfl (by k_is) (by k_is) (by k_is) (by k_is) (by k_get) (by k_put) updCut (Nat.le_of_ble_eq_true rfl) fun h' F' N' => h _ _ _ (by exact PathO.mk ..) F' fun news' U => newsUpd U N'
set_option maxRecDepth 100000 in
set_option maxHeartbeats 0 in
theorem tp_received {w : World} {A : Around} {E : Value → Shared → Prop} {s : Shared} {h₀ : Heap} {L : Addr} {m : Str → Option Value} {news : List (Addr × Obj)} {x d : Addr} {o : Obj} {nm st : String} {fr mo : Bool} {recv : Int} {ch : Addr} {dl : Value} {recv2 : Int} {tv : Tok} {Q : Unit → Shared → Prop} (F : Fr h₀ L s.heap m) (X : (kF w.params).In h₀) (N : News h₀ L s.heap news) (m1 : (x, instObj 126 d) ∈ news) (m2 : (d, o) ∈ news) (hO : PathO w.params o nm st fr recv ch dl mo) (h : ∀ o' h' tk, PathO w.params o' nm st fr recv2 ch dl mo → Fr h₀ L h' m → (∀ news', Upd d o o' news news' → News h₀ L h' news') → Q () { s with heap := h', toks := tk }) : wpAny (MP w) A (setAttr (.ref x) (Str.ofString "received") (.int recv2 tv)) Q E s := by
  revert X
  dsimp only [MP]
  k_fill
  intro X
  cases hO
  all_goals refine set_dict F X (newsCut N m2) (InstAt.of_news N m1 m2) rfl (by k_is) (by k_is) (by k_is) (by k_is) (by k_get) (by k_put) updCut (Nat.le_of_ble_eq_true rfl) fun h' F' N' => h _ _ _ (by exact PathO.mk ..) F' fun news' U => newsUpd U N'
set_option maxRecDepth 100000 in
set_option maxHeartbeats 0 in
theorem tp_challenges {w : World} {A : Around} {E : Value → Shared → Prop} {s : Shared} {h₀ : Heap} {L : Addr} {m : Str → Option Value} {news : List (Addr × Obj)} {x d : Addr} {o : Obj} {nm st : String} {fr mo : Bool} {recv : Int} {ch : Addr} {dl : Value} {ch2 : Addr} {Q : Unit → Shared → Prop} (F : Fr h₀ L s.heap m) (X : (kF w.params).In h₀) (N : News h₀ L s.heap news) (m1 : (x, instObj 126 d) ∈ news) (m2 : (d, o) ∈ news) (hO : PathO w.params o nm st fr recv ch dl mo) (h : ∀ o' h' tk, PathO w.params o' nm st fr recv ch2 dl mo → Fr h₀ L h' m → (∀ news', Upd d o o' news news' → News h₀ L h' news') → Q () { s with heap := h', toks := tk }) : wpAny (MP w) A (setAttr (.ref x) (Str.ofString "challenges") (.ref ch2)) Q E s := by
  revert X
  dsimp only [MP]
  k_fill
  intro X
  cases hO
  all_goals refine set_dict F X (newsCut N m2) (InstAt.of_news N m1 m2) rfl (by k_is) (by k_is) (by k_is) (by k_is) (by k_get) (by k_put) updCut (Nat.le_of_ble_eq_true rfl) fun h' F' N' => h _ _ _ (by exact PathO.mk ..) F' fun news' U => newsUpd U N'
set_option maxRecDepth 100000 in
set_option maxHeartbeats 0 in
theorem tp_deadline {w : World} {A : Around} {E : Value → Shared → Prop} {s : Shared} {h₀ : Heap} {L : Addr} {m : Str → Option Value} {news : List (Addr × Obj)} {x d : Addr} {o : Obj} {nm st : String} {fr mo : Bool} {recv : Int} {ch : Addr} {dl : Value} {dl2 : Value} {Q : Unit → Shared → Prop} (F : Fr h₀ L s.heap m) (X : (kF w.params).In h₀) (N : News h₀ L s.heap news) (m1 : (x, instObj 126 d) ∈ news) (m2 : (d, o) ∈ news) (hO : PathO w.params o nm st fr recv ch dl mo) (h : ∀ o' h' tk, PathO w.params o' nm st fr recv ch dl2 mo → Fr h₀ L h' m → (∀ news', Upd d o o' news news' → News h₀ L h' news') → Q () { s with heap := h', toks := tk }) : wpAny (MP w) A (setAttr (.ref x) (Str.ofString "deadline") (dl2)) Q E s := by
  revert X
  dsimp only [MP]
  k_fill
  intro X
  cases hO
  all_goals refine set_dict F X (newsCut N m2) (InstAt.of_news N m1 m2) rfl (by k_is) (by k_is) (by k_is) (by k_is) (by k_get) (by k_put) updCut (Nat.le_of_ble_eq_true rfl) fun h' F' N' => h _ _ _ (by exact PathO.mk ..) F' fun news' U => newsUpd U N'
set_option maxRecDepth 100000 in
set_option maxHeartbeats 0 in
theorem tp_wants_more {w : World} {A : Around} {E : Value → Shared → Prop} {s : Shared} {h₀ : Heap} {L : Addr} {m : Str → Option Value} {news : List (Addr × Obj)} {x d : Addr} {o : Obj} {nm st : String} {fr mo : Bool} {recv : Int} {ch : Addr} {dl : Value} {mo2 : Bool} {Q : Unit → Shared → Prop} (F : Fr h₀ L s.heap m) (X : (kF w.params).In h₀) (N : News h₀ L s.heap news) (m1 : (x, instObj 126 d) ∈ news) (m2 : (d, o) ∈ news) (hO : PathO w.params o nm st fr recv ch dl mo) (h : ∀ o' h' tk, PathO w.params o' nm st fr recv ch dl mo2 → Fr h₀ L h' m → (∀ news', Upd d o o' news news' → News h₀ L h' news') → Q () { s with heap := h', toks := tk }) : wpAny (MP w) A (setAttr (.ref x) (Str.ofString "wants_more") (.bool mo2)) Q E s := by
  revert X
  dsimp only [MP]
  k_fill
  intro X
  cases hO
  all_goals refine set_dict F X (newsCut N m2) (InstAt.of_news N m1 m2) rfl (by k_is) (by k_is) (by k_is) (by k_is) (by k_get) (by k_put) updCut (Nat.le_of_ble_eq_true rfl) fun h' F' N' => h _ _ _ (by exact PathO.mk ..) F' fun news' U => newsUpd U N'
set_option maxRecDepth 100000 in
set_option maxHeartbeats 0 in
theorem ts_active {w : World} {A : Around} {E : Value → Shared → Prop} {s : Shared} {h₀ : Heap} {L : Addr} {m : Str → Option Value} {news : List (Addr × Obj)} {x d : Addr} {o : Obj} {kn act la an : Addr} {hi : Int} {act2 : Addr} {Q : Unit → Shared → Prop} (F : Fr h₀ L s.heap m) (X : (kF w.params).In h₀) (N : News h₀ L s.heap news) (m1 : (x, instObj 243 d) ∈ news) (m2 : (d, o) ∈ news) (hO : PathsO w.params o kn act la hi an) (h : ∀ o' h' tk, PathsO w.params o' kn act2 la hi an → Fr h₀ L h' m → (∀ news', Upd d o o' news news' → News h₀ L h' news') → Q () { s with heap := h', toks := tk }) : wpAny (MP w) A (setAttr (.ref x) (Str.ofString "active") (.ref act2)) Q E s := by
  revert X
  dsimp only [MP]
  k_fill
  intro X
  cases hO
  all_goals refine set_dict F X (newsCut N m2) (InstAt.of_news N m1 m2) rfl (by k_is) (by k_is) (by k_is) (by k_is) (by k_get) (by k_put) updCut (Nat.le_of_ble_eq_true rfl) fun h' F' N' => h _ _ _ (by exact PathsO.mk ..) F' fun news' U => newsUpd U N'
set_option maxRecDepth 100000 in
set_option maxHeartbeats 0 in
theorem ts_last_proven {w : World} {A : Around} {E : Value → Shared → Prop} {s : Shared} {h₀ : Heap} {L : Addr} {m : Str → Option Value} {news : List (Addr × Obj)} {x d : Addr} {o : Obj} {kn act la an : Addr} {hi : Int} {la2 : Addr} {Q : Unit → Shared → Prop} (F : Fr h₀ L s.heap m) (X : (kF w.params).In h₀) (N : News h₀ L s.heap news) (m1 : (x, instObj 243 d) ∈ news) (m2 : (d, o) ∈ news) (hO : PathsO w.params o kn act la hi an) (h : ∀ o' h' tk, PathsO w.params o' kn act la2 hi an → Fr h₀ L h' m → (∀ news', Upd d o o' news news' → News h₀ L h' news') → Q () { s with heap := h', toks := tk }) : wpAny (MP w) A (setAttr (.ref x) (Str.ofString "last_proven") (.ref la2)) Q E s := by
  revert X
  dsimp only [MP]
  k_fill
  intro X
  cases hO
  all_goals refine set_dict F X (newsCut N m2) (InstAt.of_news N m1 m2) rfl (by k_is) (by k_is) (by k_is) (by k_is) (by k_get) (by k_put) updCut (Nat.le_of_ble_eq_true rfl) fun h' F' N' => h _ _ _ (by exact PathsO.mk ..) F' fun news' U => newsUpd U N'
set_option maxRecDepth 100000 in
set_option maxHeartbeats 0 in
theorem ts_highest {w : World} {A : Around} {E : Value → Shared → Prop} {s : Shared} {h₀ : Heap} {L : Addr} {m : Str → Option Value} {news : List (Addr × Obj)} {x d : Addr} {o : Obj} {kn act la an : Addr} {hi : Int} {hi2 : Int} {tv : Tok} {Q : Unit → Shared → Prop} (F : Fr h₀ L s.heap m) (X : (kF w.params).In h₀) (N : News h₀ L s.heap news) (m1 : (x, instObj 243 d) ∈ news) (m2 : (d, o) ∈ news) (hO : PathsO w.params o kn act la hi an) (h : ∀ o' h' tk, PathsO w.params o' kn act la hi2 an → Fr h₀ L h' m → (∀ news', Upd d o o' news news' → News h₀ L h' news') → Q () { s with heap := h', toks := tk }) : wpAny (MP w) A (setAttr (.ref x) (Str.ofString "highest") (.int hi2 tv)) Q E s := by
  revert X
  dsimp only [MP]
  k_fill
  intro X
  cases hO
  all_goals refine set_dict F X (newsCut N m2) (InstAt.of_news N m1 m2) rfl (by k_is) (by k_is) (by k_is) (by k_is) (by k_get) (by k_put) updCut (Nat.le_of_ble_eq_true rfl) fun h' F' N' => h _ _ _ (by exact PathsO.mk ..) F' fun news' U => newsUpd U N'
set_option maxRecDepth 100000 in
set_option maxHeartbeats 0 in
theorem ts_answers {w : World} {A : Around} {E : Value → Shared → Prop} {s : Shared} {h₀ : Heap} {L : Addr} {m : Str → Option Value} {news : List (Addr × Obj)} {x d : Addr} {o : Obj} {kn act la an : Addr} {hi : Int} {an2 : Addr} {Q : Unit → Shared → Prop} (F : Fr h₀ L s.heap m) (X : (kF w.params).In h₀) (N : News h₀ L s.heap news) (m1 : (x, instObj 243 d) ∈ news) (m2 : (d, o) ∈ news) (hO : PathsO w.params o kn act la hi an) (h : ∀ o' h' tk, PathsO w.params o' kn act la hi an2 → Fr h₀ L h' m → (∀ news', Upd d o o' news news' → News h₀ L h' news') → Q () { s with heap := h', toks := tk }) : wpAny (MP w) A (setAttr (.ref x) (Str.ofString "answers") (.ref an2)) Q E s := by
  revert X
  dsimp only [MP]
  k_fill
  intro X
  cases hO
  all_goals refine set_dict F X (newsCut N m2) (InstAt.of_news N m1 m2) rfl (by k_is) (by k_is) (by k_is) (by k_is) (by k_get) (by k_put) updCut (Nat.le_of_ble_eq_true rfl) fun h' F' N' => h _ _ _ (by exact PathsO.mk ..) F' fun news' U => newsUpd U N'
set_option maxRecDepth 100000 in
set_option maxHeartbeats 0 in
theorem tc_challenged {w : World} {A : Around} {E : Value → Shared → Prop} {s : Shared} {h₀ : Heap} {L : Addr} {m : Str → Option Value} {news : List (Addr × Obj)} {x d : Addr} {o : Obj} {xP xS fW fC : Addr} {n : Int} {fl : Bool} {n2 : Int} {tv : Tok} {Q : Unit → Shared → Prop} (F : Fr h₀ L s.heap m) (X : (kF w.params).In h₀) (N : News h₀ L s.heap news) (m1 : (x, instObj 410 d) ∈ news) (m2 : (d, o) ∈ news) (hO : ConnO w.params o xP xS fW fC n fl) (h : ∀ o' h' tk, ConnO w.params o' xP xS fW fC n2 fl → Fr h₀ L h' m → (∀ news', Upd d o o' news news' → News h₀ L h' news') → Q () { s with heap := h', toks := tk }) : wpAny (MP w) A (setAttr (.ref x) (Str.ofString "challenged") (.int n2 tv)) Q E s := by
  revert X
  dsimp only [MP]
  k_fill
  intro X
  cases hO
  all_goals refine set_dict F X (newsCut N m2) (InstAt.of_news N m1 m2) rfl (by k_is) (by k_is) (by k_is) (by k_is) (by k_get) (by k_put) updCut (Nat.le_of_ble_eq_true rfl) fun h' F' N' => h _ _ _ (by first | exact ConnO.zero .. | exact ConnO.again ..) F' fun news' U => newsUpd U N'
set_option maxRecDepth 100000 in
set_option maxHeartbeats 0 in
theorem tc_again_at {w : World} {A : Around} {E : Value → Shared → Prop} {s : Shared} {h₀ : Heap} {L : Addr} {m : Str → Option Value} {news : List (Addr × Obj)} {x d : Addr} {o : Obj} {xP xS fW fC : Addr} {n : Int} {fl : Bool} {ag : Int} {tv : Tok} {Q : Unit → Shared → Prop} (F : Fr h₀ L s.heap m) (X : (kF w.params).In h₀) (N : News h₀ L s.heap news) (m1 : (x, instObj 410 d) ∈ news) (m2 : (d, o) ∈ news) (hO : ConnO w.params o xP xS fW fC n fl) (h : ∀ o' h' tk, ConnO w.params o' xP xS fW fC n true → Fr h₀ L h' m → (∀ news', Upd d o o' news news' → News h₀ L h' news') → Q () { s with heap := h', toks := tk }) : wpAny (MP w) A (setAttr (.ref x) (Str.ofString "again_at") (.int ag tv)) Q E s := by
  revert X
  dsimp only [MP]
  k_fill
  intro X
  cases hO
  all_goals refine set_dict F X (newsCut N m2) (InstAt.of_news N m1 m2) rfl (by k_is) (by k_is) (by k_is) (by k_is) (by k_get) (by k_put) updCut (Nat.le_of_ble_eq_true rfl) fun h' F' N' => h _ _ _ (by exact ConnO.again ..) F' fun news' U => newsUpd U N'
section
-- lines of the walk, my own: facts of order stay whole, read one by one
-- the plain steps first, each met in the first pass
local macro_rules | `(tactic| walk_at "spliced") => `(tactic| (k_here; k_dflt (first | refine args_cons ?_ | refine args_nil ⟨Fr.keep (by assumption) _ _ (by assumption), ?_⟩ | (refine args_nil ?_; try simp only [List.cons_append, List.nil_append]))))
local macro_rules | `(tactic| walk_at "eval Call") => `(tactic| (k_here; k_dflt (refine Call_ ?_)))
local macro_rules | `(tactic| walk_at "eval Call Attribute") => `(tactic| (k_here; k_dflt (refine MethodCall_ ?_)))
local macro_rules | `(tactic| walk_at "exec Assign") => `(tactic| (k_here; (with_reducible show wpAny _ _ (exec (Stmt.Assign [PySem.Expr.Name _ _] _ _) _) _ _ _); k_dflt (refine wpAny_Assign_Name ?_)))
local macro_rules | `(tactic| walk_at "isTrue") => `(tactic| (k_here; k_dflt (refine isTrue_plain ?_)))
local macro_rules | `(tactic| walk_at "exec Expr") => `(tactic| (k_here; k_dflt (refine wpAny_Expr_any ?_)))
local macro_rules | `(tactic| walk_at "callWith") => `(tactic| (k_here; first
  | ((with_reducible show wpAny _ _ (callWith _ (Value.builtin "len") [] (backTo _ (starEach (_ :: _) _)) []) _ _ _); k_dflt (refine callWith_builtin1 ?_))
  | ((with_reducible show wpAny _ _ (callWith _ (Value.builtin _) [_] (backTo _ (starEach (_ :: _) _)) []) _ _ _); k_dflt (refine callWith_method1 ?_))
  | ((with_reducible show wpAny _ _ (callWith _ (Value.type _) [] (backTo _ (starEach (_ :: _) _)) []) _ _ _); k_dflt (refine callWith_type1 ?_))))
set_option hygiene false in
local macro_rules | `(tactic| walk_at "execs cons") => `(tactic| (k_here; (with_reducible show wpAny _ _ (execs _ _) _ _ (Shared.mk _ _ _ (HAdd.hAdd _ _) _)); k_dflt (refine' genT (s := s) ?e ?_; (case e => exact rfl)); intro tk'))
local macro_rules | `(tactic| walk_at "eval Name") => `(tactic| (k_here; k_dflt (refine' nameX_L ?F ?v ?_ ?a ?b; (case F => k_asm); (case a => rfl); (case b => rfl); (case v => rfl); k_whole)))
set_option hygiene false in
local macro_rules | `(tactic| k_lt $h:ident) => `(tactic| ((try have nl0 := gtNe (a := dC) $h (by k_mem)); (try have nl1 := gtNe (a := dP) $h (by k_mem)); (try have nl2 := gtNe (a := dA) $h (by k_mem)); (try have nl3 := gtNe (a := lG) $h (by k_mem)); (try have nl4 := gtNe (a := BX) $h (by k_mem)); (try have nl5 := ltOf (a := lK) $h (by k_mem))))
local macro_rules | `(tactic| k_ne) => `(tactic| (refine neN ?_; (try dsimp only); first | assumption | exact Ne.symm (by assumption) | exact ltNe (by assumption) (by k_mem) | exact gtNe (by assumption) (by k_mem) | exact offNe (by assumption) (by k_mem) | exact offNe' (by assumption) (by k_mem) | exact restNe1 (by assumption) (by k_mem) | exact restNe1' (by assumption) (by k_mem) | exact ltNe (ltTr (by assumption) (by assumption)) (by k_mem) | exact gtNe (ltTr (by assumption) (by assumption)) (by k_mem) | ((with_reducible show _ ≠ _ + 1); exact ltNeS (by assumption) (by k_mem)) | ((with_reducible show _ + 1 ≠ _); exact gtNeS (by assumption) (by k_mem)) | omega))
local macro_rules | `(tactic| k_all) => `(tactic| first | exact List.forall_mem_nil _ | (refine' List.forall_mem_cons.mpr ⟨?a, ?b⟩; (case a => k_ne); (case b => k_all)) | exact memRest (by assumption) | exact restNe (by assumption) (by lcg_sub) | exact restNe2 (off1All (by assumption)) (by lcg_sub) | exact restNe2 (by assumption) (by lcg_sub) | ((with_reducible show ∀ p ∈ _, Prod.fst p ≠ _ + 1); exact restNeS (by assumption) (by lcg_sub)))
local macro_rules | `(tactic| lcg_sub) => `(tactic| first | ((with_reducible (repeat (refine subTail ?_))); (with_reducible (exact subSelf))) | ((with_reducible (refine' consSub ?a ?b)); (case a => k_mem); (case b => lcg_sub)) | (intro p hp; k_ownIn))
local macro_rules | `(tactic| walk_at "ite") => `(tactic| (k_closed; k_dflt (first | ((with_reducible refine' ite_pos ?hc ?_); (case hc => decide +kernel)) | ((with_reducible refine' ite_neg ?hc ?_); (case hc => decide +kernel)))))
local macro_rules | `(tactic| walk_at "callWith ref") => `(tactic| (k_here; (with_reducible show wpAny _ _ (callWith _ (Value.ref _) _ (backTo _ (starEach (_ :: _) _)) []) _ _ _); k_dflt (refine' callWith_K ?k1 ?k2 ?_; (case k1 => k_asm); (case k2 => k_is); k_whole)))
local macro_rules | `(tactic| walk_at "callWith ref") => `(tactic| (k_here; (with_reducible show wpAny _ _ (callWith _ (Value.ref _) _ (backTo _ (starEach [] _)) []) _ _ _); k_dflt (refine' callWith_K0 ?k1 ?k2 ?_; (case k1 => k_in); (case k2 => k_is); k_whole)))
local macro_rules | `(tactic| walk_at "UnrEnd") => `(tactic| (k_here; k_dflt (first | refine unrEnd0 (by assumption) (by assumption) (by assumption) ⟨by k_mem, ?_⟩ | refine unrEnd1 (by assumption) (by assumption) (by assumption) (by k_all) ⟨by k_mem, ?_⟩)))
local macro_rules | `(tactic| walk_at "CompEnd") => `(tactic| (k_here; k_dflt (first
  | refine compEnd0 (by assumption) (by assumption) (by assumption) (by lcg_src) ?_
  | refine compEnd1 (by assumption) (by assumption) (by assumption) (by assumption) (by lcg_src) ?_)))
set_option hygiene false in
local macro_rules | `(tactic| walk_at "FinE") => `(tactic| ((unfold LCg.FinE); intro D' h' tk' F' N' o1'; (try have nl0 := offNe' (a := dC) o1' (by k_mem)); (try have nl1 := offNe' (a := dP) o1' (by k_mem)); (try have nl2 := offNe' (a := dA) o1' (by k_mem)); (try have nl3 := offNe' (a := lG) o1' (by k_mem)); (try have nl4 := offNe' (a := BX) o1' (by k_mem)); (try simp only [List.nil_append, List.cons_append] at N'); (try dsimp only)))
set_option hygiene false in
local macro_rules | `(tactic| walk_at "FinA") => `(tactic| ((unfold LCg.FinA); intro D' h' tk' F' N' o1'; (try have nl0 := offNe' (a := dC) o1' (by k_mem)); (try have nl1 := offNe' (a := dP) o1' (by k_mem)); (try have nl2 := offNe' (a := dA) o1' (by k_mem)); (try have nl3 := offNe' (a := lG) o1' (by k_mem)); (try have nl4 := offNe' (a := BX) o1' (by k_mem)); (try simp only [List.nil_append, List.cons_append] at N'); (try dsimp only)))
local macro_rules | `(tactic| walk_at "eval ListComp") => `(tactic| (k_here; (with_reducible show wpAny _ _ (eval (PySem.Expr.ListComp _ [⟨PySem.Expr.Tuple [PySem.Expr.Name _ _, PySem.Expr.Name _ _] _ _, _, [_], 0⟩] _ _) _) _ _ _); k_dflt (refine ListComp_PT (_F₀ := by k_asm) (by with_unfolding_all rfl) (by decide) (by rfl) (by decide) (by rfl) (by rfl) (by decide) ?_)))
local macro_rules | `(tactic| walk_at "exec Assign cons ListComp") => `(tactic| (k_here; (with_reducible show wpAny _ _ (exec (Stmt.Assign [PySem.Expr.Name _ _] (PySem.Expr.ListComp _ [⟨PySem.Expr.Tuple [PySem.Expr.Name _ _, PySem.Expr.Name _ _] _ _, _, [_], 0⟩] _ _) _) _) _ _ _); k_dflt (refine Assign_PT (_F₀ := by k_asm) (by rfl) (by with_unfolding_all rfl) (by with_unfolding_all rfl) (by decide) (by rfl) (by decide) (by rfl) (by rfl) (by decide) (by rfl) (by rfl) ?_)))
local macro_rules | `(tactic| walk_at "SrcPT") => `(tactic| (k_here; k_dflt (refine SrcPT.ledger (by rfl) (by k_asm) (by k_asm) (by k_mem) (by first | size_fits | exact Nat.le_of_ble_eq_true rfl) ?_); intro g'))
local macro_rules | `(tactic| walk_at "RestPT") => `(tactic| (with_unfolding_all first
  | (refine RestPT.succ (by k_mem) ?_; intro I' oI' C' oC' D' m' h' tk' E' hC' hx' hy' F' N' off' ne')
  | refine RestPT.zero ?_))
local macro_rules | `(tactic| walk_at "CompRestT") => `(tactic| (with_unfolding_all first
  | (refine LCt.CompRestT.succ ?_; intro v' I' oI' C' oC' D' m' h' tk' E' hv' hC' hx' F' N' off' ne'; lcg_open hv')
  | refine LCt.CompRestT.zero ?_))
local macro_rules | `(tactic| walk_at "pyIter ref") => `(tactic| (k_here; (with_reducible show wpAny _ _ (pyIter (Value.ref _)) (fun it s₂ => LoopAtV _ _ _ _ _ _ _ _ _ it s₂) _ _); k_dflt (refine' iter_listUnr ?kh ?kF ?kN ?km ?kc ?kd ?_; (case kh => exact rfl); (case kF => k_asm); (case kN => k_asm); (case km => k_mem); (case kc => exact rfl); (case kd => exact rfl)); intro I' l1))
local macro_rules | `(tactic| walk_at "compareOp NotEq ref ref") => `(tactic| (k_here; (with_reducible show wpAny _ _ (compareOp CmpOp.NotEq (Value.ref _) (Value.ref _)) _ _ _); k_dflt (first
  | (refine' ne_nil ?N ?a ?b ?u ?_; (case N => k_asm); (case a => k_mem); (case b => k_mem); (case u => exact Nat.le_of_ble_eq_true rfl); k_whole)
  | (refine' ne_same1 ?N ?a ?b ?u ?_; (case N => k_asm); (case a => k_mem); (case b => k_mem); (case u => exact Nat.le_of_ble_eq_true rfl); k_whole)
  | (refine' ne_pair1 ?N ?a ?b ?p ?q ?u ?v ?_; (case N => k_asm); (case a => k_mem); (case b => k_mem); (case p => k_mem); (case q => k_mem); (case u => exact Nat.le_of_ble_eq_true rfl); (case v => exact Nat.le_of_ble_eq_true rfl); k_whole)
  | (refine' ne_pair2 ?N ?a ?b ?p ?q ?p2 ?q2 ?u ?v ?_; (case N => k_asm); (case a => k_mem); (case b => k_mem); (case p => k_mem); (case q => k_mem); (case p2 => k_mem); (case q2 => k_mem); (case u => exact Nat.le_of_ble_eq_true rfl); (case v => exact Nat.le_of_ble_eq_true rfl); k_whole))))
local macro_rules | `(tactic| walk_at "compareOp In bytes ref") => `(tactic| (k_here; (with_reducible show wpAny _ _ (compareOp CmpOp.In (Value.bytes _ _) (Value.ref _)) _ _ _); k_dflt (first
  | (refine' in_nil ?N ?a ?_; (case N => k_asm); (case a => k_mem); k_whole)
  | (refine' in_one ?N ?a ?_; (case N => k_asm); (case a => k_mem); k_whole))))
local macro_rules | `(tactic| walk_at "compareOp Eq bytes bytes") => `(tactic| (k_here; (with_reducible show wpAny _ _ (compareOp CmpOp.Eq (Value.bytes _ _) (Value.bytes _ _)) _ _ _); refine rcAt_bytes _ _ _ _ _ _ _ _ ?_))
local macro_rules | `(tactic| walk_at "call type:bytes") => `(tactic| (k_here; (with_reducible show wpAny _ _ (PySem.call (Value.type "bytes") [Value.ref _]) _ _ _); k_dflt (refine' bytes8 ?F ?N ?m ?lo ?hi ?hh ?_; (case F => k_asm); (case N => k_asm); (case m => k_mem); (case lo => omega); (case hi => omega); (case hh => rfl); k_whole); intro h' t' k' F' N'; (try k_sweep)))

local macro_rules | `(tactic| walk_at "getMethod ref") => `(tactic| (k_here; (first | (with_reducible show wpAny _ _ (getMethod (Value.ref _) (Str.ofString "choose") _) _ _ _) | (with_reducible show wpAny _ _ (getMethod (Value.ref _) (Str.ofString "probe_wait") _) _ _ _)); k_dflt (refine' kmu_own ?k1 ?k2 ?k3 ?k4 ?k5 ?_; (case k1 => k_asm); (case k2 => k_asm); (case k3 => k_inst); (case k4 => k_is); (case k5 => k_is); k_whole)))
set_option hygiene false in
local macro_rules | `(tactic| walk_at "callWith ref") => `(tactic| (k_here; (with_reducible show wpAny _ _ (callWith _ (Value.ref fW) _ (backTo _ (starEach [] _)) []) _ _ _); k_dflt (refine' callWith_F0 ?k1 ?_; (case k1 => exact FnAt.of (by k_asm) (by k_mem)); k_whole; try dsimp only [List.nil_append, List.cons_append])))
set_option hygiene false in
local macro_rules | `(tactic| walk_at "callWith ref") => `(tactic| (k_here; (with_reducible show wpAny _ _ (callWith _ (Value.ref fC) _ (backTo _ (starEach (_ :: _) _)) []) _ _ _); k_dflt (refine' callWith_F ?k1 ?_; (case k1 => exact FnAt.of (by k_asm) (by k_mem)); k_whole)))
local macro_rules | `(tactic| k_offL) => `(tactic| first | exact Take.head | (refine' Take.tail ?tk; (case tk => k_offL)))
-- the objects' rules, as lines of the walk
local macro_rules | `(tactic| walk_at "getAttr ref") => `(tactic| (k_here; (with_reducible show wpAny _ _ (getAttr (Value.ref _) _ _) _ _ _); (first | (with_reducible refine' gp_address ?F ?X ?N ?m1 ?m2 ?hO ?_) | (with_reducible refine' gp_state ?F ?X ?N ?m1 ?m2 ?hO ?_) | (with_reducible refine' gp_is_free ?F ?X ?N ?m1 ?m2 ?hO ?_) | (with_reducible refine' gp_received ?F ?X ?N ?m1 ?m2 ?hO ?_) | (with_reducible refine' gp_challenges ?F ?X ?N ?m1 ?m2 ?hO ?_) | (with_reducible refine' gp_deadline ?F ?X ?N ?m1 ?m2 ?hO ?hv ?_) | (with_reducible refine' gp_wants_more ?F ?X ?N ?m1 ?m2 ?hO ?_) | (with_reducible refine' gs_role ?F ?X ?N ?m1 ?m2 ?hO ?_) | (with_reducible refine' gs_may_move ?F ?X ?N ?m1 ?m2 ?hO ?_) | (with_reducible refine' gs_known ?F ?X ?N ?m1 ?m2 ?hO ?_) | (with_reducible refine' gs_active ?F ?X ?N ?m1 ?m2 ?hO ?_) | (with_reducible refine' gs_last_proven ?F ?X ?N ?m1 ?m2 ?hO ?_) | (with_reducible refine' gs_highest ?F ?X ?N ?m1 ?m2 ?hO ?_) | (with_reducible refine' gs_answers ?F ?X ?N ?m1 ?m2 ?hO ?_) | (with_reducible refine' gc_paths ?F ?X ?N ?m1 ?m2 ?hO ?_) | (with_reducible refine' gc_shake ?F ?X ?N ?m1 ?m2 ?hO ?_) | (with_reducible refine' gc_challenged ?F ?X ?N ?m1 ?m2 ?hO ?_) | (with_reducible refine' gc_probe_wait ?F ?X ?N ?m1 ?m2 ?hO ?_) | (with_reducible refine' gc_choose ?F ?X ?N ?m1 ?m2 ?hO ?_) | (with_reducible refine' gh_is_complete ?F ?X ?N ?m1 ?m2 ?hO ?_)); k_dflt ((case F => k_asm); (case X => assumption); (case N => k_asm); (case m1 => k_mem); (case m2 => k_mem); (case hO => assumption)); (try (case hv => k_dflt (first | assumption | rfl))); k_whole; intros))
local macro_rules | `(tactic| walk_at "getMethod ref") => `(tactic| (k_here; (with_reducible show wpAny _ _ (getMethod (Value.ref _) _ _) _ _ _); (first | (with_reducible refine' mp_is_proven ?F ?X ?N ?m1 ?m2 ?hO ?_) | (with_reducible refine' mp_on_received ?F ?X ?N ?m1 ?m2 ?hO ?_) | (with_reducible refine' mp_renew ?F ?X ?N ?m1 ?m2 ?hO ?_) | (with_reducible refine' mp_challenge ?F ?X ?N ?m1 ?m2 ?hO ?_) | (with_reducible refine' mp_prove ?F ?X ?N ?m1 ?m2 ?hO ?_) | (with_reducible refine' mp_fail ?F ?X ?N ?m1 ?m2 ?hO ?_) | (with_reducible refine' ms_on_datagram ?F ?X ?N ?m1 ?m2 ?hO ?_) | (with_reducible refine' ms_path_of ?F ?X ?N ?m1 ?m2 ?hO ?_) | (with_reducible refine' ms_opened ?F ?X ?N ?m1 ?m2 ?hO ?_) | (with_reducible refine' ms_on_packet ?F ?X ?N ?m1 ?m2 ?hO ?_) | (with_reducible refine' ms_wants_challenge ?F ?X ?N ?m1 ?m2 ?hO ?_) | (with_reducible refine' ms_take_response ?F ?X ?N ?m1 ?m2 ?hO ?_) | (with_reducible refine' ms_on_time ?F ?X ?N ?m1 ?m2 ?hO ?_) | (with_reducible refine' mc_probe_wait ?F ?X ?N ?m1 ?m2 ?hO ?_) | (with_reducible refine' mc_choose ?F ?X ?N ?m1 ?m2 ?hO ?_)); k_dflt ((case F => k_asm); (case X => assumption); (case N => k_asm); (case m1 => k_mem); (case m2 => k_mem); (case hO => assumption)); k_whole; intros))
local macro_rules | `(tactic| walk_at "setAttr ref") => `(tactic| (k_here; (with_reducible show wpAny _ _ (setAttr (Value.ref _) _ _) _ _ _); (first | (with_reducible refine' tp_state ?F ?X ?N ?m1 ?m2 ?hO ?_) | (with_reducible refine' tp_is_free ?F ?X ?N ?m1 ?m2 ?hO ?_) | (with_reducible refine' tp_received ?F ?X ?N ?m1 ?m2 ?hO ?_) | (with_reducible refine' tp_challenges ?F ?X ?N ?m1 ?m2 ?hO ?_) | (with_reducible refine' tp_deadline ?F ?X ?N ?m1 ?m2 ?hO ?_) | (with_reducible refine' tp_wants_more ?F ?X ?N ?m1 ?m2 ?hO ?_) | (with_reducible refine' ts_active ?F ?X ?N ?m1 ?m2 ?hO ?_) | (with_reducible refine' ts_last_proven ?F ?X ?N ?m1 ?m2 ?hO ?_) | (with_reducible refine' ts_highest ?F ?X ?N ?m1 ?m2 ?hO ?_) | (with_reducible refine' ts_answers ?F ?X ?N ?m1 ?m2 ?hO ?_) | (with_reducible refine' tc_challenged ?F ?X ?N ?m1 ?m2 ?hO ?_) | (with_reducible refine' tc_again_at ?F ?X ?N ?m1 ?m2 ?hO ?_)); k_dflt ((case F => k_asm); (case X => assumption); (case N => k_asm); (case m1 => k_mem); (case m2 => k_mem); (case hO => assumption)); k_whole; intro o' h' tk' hO' F' HN'; k_dflt (have N' := HN' _ (by k_upd)); clear HN'; (try k_sweep)))
set_option maxRecDepth 100000 in
set_option maxHeartbeats 0 in
theorem pf2N {w : World} {g₀ g : Heap} {L₀ L fa : Addr} {mg mb mean} {s : Shared} {Q : Flow → Shared → Prop} {E : Value → Shared → Prop} {m : Str → Option Value} {xC dC xP dP xS dS xA dA D lK lc la last fW cW fC cC n nD : Nat} {oC oP oS oA ocW ocC : Obj} {fr mo fl : Bool} {recv num now : Int} {dl : Value} {u1 tW tC : Tok} {vsW vsC : Array Value} {ctW ctC : Value} {fs : List Value} {rest : List (Addr × Obj)}
  (T : Top topProg looseP mean mg mb g) (K0 : Below (callerA.deeper (envOf (Str.ofString "law") lawScope L₀ fa (Value.ref 432))) g₀ [(envOf (Str.ofString "law") lawScope L₀ fa (Value.ref 432))] g) (CH : CodeHd g₀ 432 430)
  (hC : ConnO w.params oC xP xS fW fC (n : Int) fl)
  (hP : PathsO w.params oP lK xA last num la)
  (hS : ShakeO w.params oS)
  (hA : PathO w.params oA "away" "unproven" fr recv lc dl mo)
  (d1 : ocW.data = Data.fields vsW)
  (d2 : vsW[1]? = some (Value.str ((envOf (Str.ofString "law") lawScope L₀ fa (Value.ref 432)).qual ++ Str.ofString "<lambda>") tW))
  (d3 : ocC.data = Data.fields vsC)
  (d4 : vsC[1]? = some (Value.str ((envOf (Str.ofString "law") lawScope L₀ fa (Value.ref 432)).qual ++ Str.ofString "<lambda>") tC))
  (hn : n < 100)
  (hw : 0 ≤ now)
  (hw2 : now ≤ 10000)
  (hfs : fs.length ≤ 8)
  (nt0_1 : @Ne Nat dA dC)
  (nt0_2 : @Ne Nat D dC)
  (nm0_0 : @Ne Nat xC dC)
  (nm0_1 : @Ne Nat xP dC)
  (nm0_2 : @Ne Nat dP dC)
  (nm0_3 : @Ne Nat xS dC)
  (nm0_4 : @Ne Nat dS dC)
  (nm0_5 : @Ne Nat xA dC)
  (nm0_6 : @Ne Nat fW dC)
  (nm0_7 : @Ne Nat cW dC)
  (nm0_8 : @Ne Nat fC dC)
  (nm0_9 : @Ne Nat cC dC)
  (nt1_2 : @Ne Nat D dA)
  (nm1_0 : @Ne Nat xC dA)
  (nm1_1 : @Ne Nat xP dA)
  (nm1_2 : @Ne Nat dP dA)
  (nm1_3 : @Ne Nat xS dA)
  (nm1_4 : @Ne Nat dS dA)
  (nm1_5 : @Ne Nat xA dA)
  (nm1_6 : @Ne Nat fW dA)
  (nm1_7 : @Ne Nat cW dA)
  (nm1_8 : @Ne Nat fC dA)
  (nm1_9 : @Ne Nat cC dA)
  (nm2_0 : @Ne Nat xC D)
  (nm2_1 : @Ne Nat xP D)
  (nm2_2 : @Ne Nat dP D)
  (nm2_3 : @Ne Nat xS D)
  (nm2_4 : @Ne Nat dS D)
  (nm2_5 : @Ne Nat xA D)
  (nm2_6 : @Ne Nat fW D)
  (nm2_7 : @Ne Nat cW D)
  (nm2_8 : @Ne Nat fC D)
  (nm2_9 : @Ne Nat cC D)
  (hr0 : ∀ p ∈ rest, p.1 ≠ dC)
  (hr1 : ∀ p ∈ rest, p.1 ≠ dA)
  (hr2 : ∀ p ∈ rest, p.1 ≠ D)
  (F : Fr g L s.heap (fun y => if y = Str.ofString "found" then some (Value.ref D) else if y = Str.ofString "conn" then some (Value.ref xC) else if y = Str.ofString "now" then some (Value.int now u1) else m y))
  (N : News g L s.heap ((dC, oC) :: (dA, oA) :: (D, listOf fs.toArray nD) :: (xC, instObj 410 dC) :: (xP, instObj 243 dP) :: (dP, oP) :: (xS, instObj 410 dS) :: (dS, oS) :: (xA, instObj 126 dA) :: (fW, kla_obj (Str.ofString "<lambda>") ((envOf (Str.ofString "law") lawScope L₀ fa (Value.ref 432)).qual ++ Str.ofString "<lambda>") (lamOf 2).1 (lamOf 2).2.1 (lamOf 2).2.2 [] ((mg (Str.ofString "__name__")).getD Value.none) cW ctW) :: (cW, ocW) :: (fC, kla_obj (Str.ofString "<lambda>") ((envOf (Str.ofString "law") lawScope L₀ fa (Value.ref 432)).qual ++ Str.ofString "<lambda>") (lamOf 3).1 (lamOf 3).2.1 (lamOf 3).2.2 [] ((mg (Str.ofString "__name__")).getD Value.none) cC ctC) :: (cC, ocC) :: rest))
  (h : ∀ oC' oA' T2 lc' nD' kc x1 x2 x3 x4 dl' td' m' tk' h', (∀ p ∈ rest, p.1 ≠ T2) → @Ne Nat dC T2 → @Ne Nat dA T2 → @Ne Nat D T2 → (∀ p ∈ rest, p.1 ≠ lc') → @Ne Nat dC lc' → @Ne Nat dA lc' → @Ne Nat D lc' → dl' = now + 150 → ConnO w.params oC' xP xS fW fC ((n : Int) + 1) true → PathO w.params oA' "away" "trying" fr recv lc' (.int dl' td') false → Fr g L h' m' → News g L h' ((D, listOf (fs.toArray.push (.ref T2)) nD') :: (T2, pairO (Str.ofString "path_challenge") x1 (b8 (40 + (n : Int))) x2 x3) :: (lc', listOf #[.bytes (b8 (40 + (n : Int))) x4] kc) :: (dC, oC') :: (dA, oA') :: rest) → Q (.ret (.ref D)) { s with heap := h', toks := tk' })
  (X : (kF w.params).In g) :
  wpAny (MP w) ((callerA.deeper (envOf (Str.ofString "law") lawScope L₀ fa (Value.ref 432))).deeper (envOfC (Str.ofString "path_frames") pfScope L 26 (Value.ref 25))) (execs pfTail (envOfC (Str.ofString "path_frames") pfScope L 26 (Value.ref 25))) Q E s := by
  revert X
  dsimp only [MP]
  k_fill
  intro X
  generalize hs : lawScope = sc
  conv at hs => lhs; whnf
  subst hs
  generalize hs : pfScope = sc
  conv at hs => lhs; whnf
  subst hs
  generalize hs : pfTail = sc
  conv at hs => lhs; whnf
  subst hs
  dsimp only [looseP] at T
  generalize hw' : lamOf 2 = lw at N
  generalize hc' : lamOf 3 = lc' at N
  conv at hw' => lhs; whnf
  conv at hc' => lhs; whnf
  subst hw' hc'
  repeat' (first | ((fail_if_success (with_reducible show wpAny _ _ _ _ _ _)); (refine h ?oCqv ?oAqv ?T2v ?lcqv ?nDqv ?kcv ?x1v ?x2v ?x3v ?x4v ?dlqv ?tdqv ?mv _ _ ?nfT20 ?nfT2dC ?nfT2dA ?nfT2D ?nflcq0 ?nflcqdC ?nflcqdA ?nflcqD ?hdl ?hC ?hA ?hF ?hN; (case hF => assumption); (case hN => exact News.subs (by assumption) (by lcg_sub)); (case hC => assumption); (case hA => assumption); (case hdl => omega); (case nfT20 => k_all); (case nfT2dC => k_ne); (case nfT2dA => k_ne); (case nfT2D => k_ne); (case nflcq0 => k_all); (case nflcqdC => k_ne); (case nflcqdA => k_ne); (case nflcqD => k_ne))) | (with_reducible exact absurd rfl (by assumption)) | (k_unfold; (try dsimp only)) | (k_end; wrow_close) | walk1 | (dsimp only; walk1) | (leave1; walk_say "STEP leave1"; try dsimp only) | fail "no step")

theorem pf2N_w {w : World} {g₀ g : Heap} {L₀ L fa : Addr} {mg mb mean} {s : Shared} {Q : Flow → Shared → Prop} {E : Value → Shared → Prop} {m : Str → Option Value} {xC dC xP dP xS dS xA dA D lK lc la last fW cW fC cC n nD : Nat} {oC oP oS oA ocW ocC : Obj} {fr mo fl : Bool} {recv num now : Int} {dl : Value} {u1 tW tC : Tok} {vsW vsC : Array Value} {ctW ctC : Value} {fs : List Value} {news rest : List (Addr × Obj)} {r0 : List (Addr × Obj)} {r1 : List (Addr × Obj)}
  (F : Fr g L s.heap (fun y => if y = Str.ofString "found" then some (Value.ref D) else if y = Str.ofString "conn" then some (Value.ref xC) else if y = Str.ofString "now" then some (Value.int now u1) else m y))
  (N : News g L s.heap news)
  (m1 : (xC, instObj 410 dC) ∈ news)
  (t1 : Take (dC, oC) news r0)
  (hC : ConnO w.params oC xP xS fW fC (n : Int) fl)
  (m2 : (xP, instObj 243 dP) ∈ news)
  (m2b : (dP, oP) ∈ news)
  (hP : PathsO w.params oP lK xA last num la)
  (m3 : (xS, instObj 410 dS) ∈ news)
  (m4 : (dS, oS) ∈ news)
  (hS : ShakeO w.params oS)
  (m5 : (xA, instObj 126 dA) ∈ news)
  (t3 : Take (dA, oA) r0 r1)
  (hA : PathO w.params oA "away" "unproven" fr recv lc dl mo)
  (t4 : Take (D, listOf fs.toArray nD) r1 rest)
  (m8 : (fW, kla_obj (Str.ofString "<lambda>") ((envOf (Str.ofString "law") lawScope L₀ fa (Value.ref 432)).qual ++ Str.ofString "<lambda>") (lamOf 2).1 (lamOf 2).2.1 (lamOf 2).2.2 [] ((mg (Str.ofString "__name__")).getD Value.none) cW ctW) ∈ news)
  (m9 : (cW, ocW) ∈ news)
  (m10 : (fC, kla_obj (Str.ofString "<lambda>") ((envOf (Str.ofString "law") lawScope L₀ fa (Value.ref 432)).qual ++ Str.ofString "<lambda>") (lamOf 3).1 (lamOf 3).2.1 (lamOf 3).2.2 [] ((mg (Str.ofString "__name__")).getD Value.none) cC ctC) ∈ news)
  (m11 : (cC, ocC) ∈ news)
  (d1 : ocW.data = Data.fields vsW)
  (d2 : vsW[1]? = some (Value.str ((envOf (Str.ofString "law") lawScope L₀ fa (Value.ref 432)).qual ++ Str.ofString "<lambda>") tW))
  (d3 : ocC.data = Data.fields vsC)
  (d4 : vsC[1]? = some (Value.str ((envOf (Str.ofString "law") lawScope L₀ fa (Value.ref 432)).qual ++ Str.ofString "<lambda>") tC))
  (hn : n < 100)
  (hw : 0 ≤ now)
  (hw2 : now ≤ 10000)
  (hfs : fs.length ≤ 8)
  (nt0_1 : @Ne Nat dA dC)
  (nt0_2 : @Ne Nat D dC)
  (nm0_0 : @Ne Nat xC dC)
  (nm0_1 : @Ne Nat xP dC)
  (nm0_2 : @Ne Nat dP dC)
  (nm0_3 : @Ne Nat xS dC)
  (nm0_4 : @Ne Nat dS dC)
  (nm0_5 : @Ne Nat xA dC)
  (nm0_6 : @Ne Nat fW dC)
  (nm0_7 : @Ne Nat cW dC)
  (nm0_8 : @Ne Nat fC dC)
  (nm0_9 : @Ne Nat cC dC)
  (nt1_2 : @Ne Nat D dA)
  (nm1_0 : @Ne Nat xC dA)
  (nm1_1 : @Ne Nat xP dA)
  (nm1_2 : @Ne Nat dP dA)
  (nm1_3 : @Ne Nat xS dA)
  (nm1_4 : @Ne Nat dS dA)
  (nm1_5 : @Ne Nat xA dA)
  (nm1_6 : @Ne Nat fW dA)
  (nm1_7 : @Ne Nat cW dA)
  (nm1_8 : @Ne Nat fC dA)
  (nm1_9 : @Ne Nat cC dA)
  (nm2_0 : @Ne Nat xC D)
  (nm2_1 : @Ne Nat xP D)
  (nm2_2 : @Ne Nat dP D)
  (nm2_3 : @Ne Nat xS D)
  (nm2_4 : @Ne Nat dS D)
  (nm2_5 : @Ne Nat xA D)
  (nm2_6 : @Ne Nat fW D)
  (nm2_7 : @Ne Nat cW D)
  (nm2_8 : @Ne Nat fC D)
  (nm2_9 : @Ne Nat cC D)
  (hr0 : ∀ p ∈ rest, p.1 ≠ dC)
  (hr1 : ∀ p ∈ rest, p.1 ≠ dA)
  (hr2 : ∀ p ∈ rest, p.1 ≠ D)
  (T : Top topProg looseP mean mg mb g) (K0 : Below (callerA.deeper (envOf (Str.ofString "law") lawScope L₀ fa (Value.ref 432))) g₀ [(envOf (Str.ofString "law") lawScope L₀ fa (Value.ref 432))] g) (CH : CodeHd g₀ 432 430) (X : (kF w.params).In g)
  (h : ∀ oC' oA' T2 lc' nD' kc x1 x2 x3 x4 dl' td' m' tk' h', (∀ p ∈ rest, p.1 ≠ T2) → @Ne Nat dC T2 → @Ne Nat dA T2 → @Ne Nat D T2 → (∀ p ∈ rest, p.1 ≠ lc') → @Ne Nat dC lc' → @Ne Nat dA lc' → @Ne Nat D lc' → dl' = now + 150 → ConnO w.params oC' xP xS fW fC ((n : Int) + 1) true → PathO w.params oA' "away" "trying" fr recv lc' (.int dl' td') false → Fr g L h' m' → News g L h' ((D, listOf (fs.toArray.push (.ref T2)) nD') :: (T2, pairO (Str.ofString "path_challenge") x1 (b8 (40 + (n : Int))) x2 x3) :: (lc', listOf #[.bytes (b8 (40 + (n : Int))) x4] kc) :: (dC, oC') :: (dA, oA') :: rest) → Q (.ret (.ref D)) { s with heap := h', toks := tk' }) :
  wpAny (MP w) ((callerA.deeper (envOf (Str.ofString "law") lawScope L₀ fa (Value.ref 432))).deeper (envOfC (Str.ofString "path_frames") pfScope L 26 (Value.ref 25))) (execs pfTail (envOfC (Str.ofString "path_frames") pfScope L 26 (Value.ref 25))) Q E s := by
  have hall : ∀ q, (q = (dC, oC) ∨ q = (dA, oA) ∨ q = (D, listOf fs.toArray nD) ∨ q ∈ rest) → q ∈ news := by
    intro q hq
    rcases hq with rfl | hq
    · exact t1.sub _ (.inl rfl)
    rcases hq with rfl | hq
    · exact t1.sub _ (.inr (t3.sub _ (.inl rfl)))
    rcases hq with rfl | hq
    · exact t1.sub _ (.inr (t3.sub _ (.inr (t4.sub _ (.inl rfl)))))
    exact t1.sub _ (.inr (t3.sub _ (.inr (t4.sub _ (.inr hq)))))
  refine pf2N (xC := xC) (dC := dC) (xP := xP) (dP := dP) (xS := xS) (dS := dS) (xA := xA) (dA := dA) (D := D) (lK := lK) (lc := lc) (la := la) (last := last) (fW := fW) (cW := cW) (fC := fC) (cC := cC) (n := n) (nD := nD) (oC := oC) (oP := oP) (oS := oS) (oA := oA) (ocW := ocW) (ocC := ocC) (fr := fr) (mo := mo) (fl := fl) (recv := recv) (num := num) (now := now) (dl := dl) (u1 := u1) (tW := tW) (tC := tC) (vsW := vsW) (vsC := vsC) (ctW := ctW) (ctC := ctC) (fs := fs) (rest := rest) T K0 CH hC hP hS hA d1 d2 d3 d4 hn hw hw2 hfs nt0_1 nt0_2 nm0_0 nm0_1 nm0_2 nm0_3 nm0_4 nm0_5 nm0_6 nm0_7 nm0_8 nm0_9 nt1_2 nm1_0 nm1_1 nm1_2 nm1_3 nm1_4 nm1_5 nm1_6 nm1_7 nm1_8 nm1_9 nm2_0 nm2_1 nm2_2 nm2_3 nm2_4 nm2_5 nm2_6 nm2_7 nm2_8 nm2_9 hr0 hr1 hr2 F (fun p hp => N p ?_) h X
  rcases List.mem_cons.mp hp with rfl | hp
  · exact hall _ (.inl rfl)
  rcases List.mem_cons.mp hp with rfl | hp
  · exact hall _ (.inr (.inl rfl))
  rcases List.mem_cons.mp hp with rfl | hp
  · exact hall _ (.inr (.inr (.inl rfl)))
  rcases List.mem_cons.mp hp with rfl | hp
  · exact m1
  rcases List.mem_cons.mp hp with rfl | hp
  · exact m2
  rcases List.mem_cons.mp hp with rfl | hp
  · exact m2b
  rcases List.mem_cons.mp hp with rfl | hp
  · exact m3
  rcases List.mem_cons.mp hp with rfl | hp
  · exact m4
  rcases List.mem_cons.mp hp with rfl | hp
  · exact m5
  rcases List.mem_cons.mp hp with rfl | hp
  · exact m8
  rcases List.mem_cons.mp hp with rfl | hp
  · exact m9
  rcases List.mem_cons.mp hp with rfl | hp
  · exact m10
  rcases List.mem_cons.mp hp with rfl | hp
  · exact m11
  exact hall _ (.inr (.inr (.inr hp)))
set_option maxRecDepth 100000 in
set_option maxHeartbeats 0 in
theorem pf2T {w : World} {g₀ g : Heap} {L₀ L fa : Addr} {mg mb mean} {s : Shared} {Q : Flow → Shared → Prop} {E : Value → Shared → Prop} {m : Str → Option Value} {xC dC xP dP xS xA dA D lK lc la last fW fC n : Nat} {oC oP oA : Obj} {fr : Bool} {recv num now : Int} {dl : Value} {u1 : Tok} {rest : List (Addr × Obj)}
  (T : Top topProg looseP mean mg mb g) (K0 : Below (callerA.deeper (envOf (Str.ofString "law") lawScope L₀ fa (Value.ref 432))) g₀ [(envOf (Str.ofString "law") lawScope L₀ fa (Value.ref 432))] g)
  (hC : ConnO w.params oC xP xS fW fC (n : Int) true)
  (hP : PathsO w.params oP lK xA last num la)
  (hA : PathO w.params oA "away" "trying" fr recv lc dl false)
  (F : Fr g L s.heap (fun y => if y = Str.ofString "found" then some (Value.ref D) else if y = Str.ofString "conn" then some (Value.ref xC) else if y = Str.ofString "now" then some (Value.int now u1) else m y))
  (N : News g L s.heap ((xC, instObj 410 dC) :: (dC, oC) :: (xP, instObj 243 dP) :: (dP, oP) :: (xA, instObj 126 dA) :: (dA, oA) :: rest))
  (h : ∀  m' tk' h',  Fr g L h' m' → News g L h' (rest) → Q (.ret (.ref D)) { s with heap := h', toks := tk' })
  (X : (kF w.params).In g) :
  wpAny (MP w) ((callerA.deeper (envOf (Str.ofString "law") lawScope L₀ fa (Value.ref 432))).deeper (envOfC (Str.ofString "path_frames") pfScope L 26 (Value.ref 25))) (execs pfTail (envOfC (Str.ofString "path_frames") pfScope L 26 (Value.ref 25))) Q E s := by
  revert X
  dsimp only [MP]
  k_fill
  intro X
  generalize hs : lawScope = sc
  conv at hs => lhs; whnf
  subst hs
  generalize hs : pfScope = sc
  conv at hs => lhs; whnf
  subst hs
  generalize hs : pfTail = sc
  conv at hs => lhs; whnf
  subst hs
  dsimp only [looseP] at T
  repeat' (first | ((fail_if_success (with_reducible show wpAny _ _ _ _ _ _)); (refine h  ?mv _ _   ?hF ?hN; (case hF => assumption); (case hN => exact News.subs (by assumption) (by lcg_sub)); )) | (with_reducible exact absurd rfl (by assumption)) | (k_unfold; (try dsimp only)) | (k_end; wrow_close) | walk1 | (dsimp only; walk1) | (leave1; walk_say "STEP leave1"; try dsimp only) | fail "no step")

theorem pf2T_w {w : World} {g₀ g : Heap} {L₀ L fa : Addr} {mg mb mean} {s : Shared} {Q : Flow → Shared → Prop} {E : Value → Shared → Prop} {m : Str → Option Value} {xC dC xP dP xS xA dA D lK lc la last fW fC n : Nat} {oC oP oA : Obj} {fr : Bool} {recv num now : Int} {dl : Value} {u1 : Tok} {rest : List (Addr × Obj)}
  (F : Fr g L s.heap (fun y => if y = Str.ofString "found" then some (Value.ref D) else if y = Str.ofString "conn" then some (Value.ref xC) else if y = Str.ofString "now" then some (Value.int now u1) else m y))
  (N : News g L s.heap rest)
  (m1 : (xC, instObj 410 dC) ∈ rest)
  (m1b : (dC, oC) ∈ rest)
  (hC : ConnO w.params oC xP xS fW fC (n : Int) true)
  (m2 : (xP, instObj 243 dP) ∈ rest)
  (m2b : (dP, oP) ∈ rest)
  (hP : PathsO w.params oP lK xA last num la)
  (m5 : (xA, instObj 126 dA) ∈ rest)
  (m6 : (dA, oA) ∈ rest)
  (hA : PathO w.params oA "away" "trying" fr recv lc dl false)
  (T : Top topProg looseP mean mg mb g) (K0 : Below (callerA.deeper (envOf (Str.ofString "law") lawScope L₀ fa (Value.ref 432))) g₀ [(envOf (Str.ofString "law") lawScope L₀ fa (Value.ref 432))] g) (X : (kF w.params).In g)
  (h : ∀  m' tk' h',  Fr g L h' m' → News g L h' (rest) → Q (.ret (.ref D)) { s with heap := h', toks := tk' }) :
  wpAny (MP w) ((callerA.deeper (envOf (Str.ofString "law") lawScope L₀ fa (Value.ref 432))).deeper (envOfC (Str.ofString "path_frames") pfScope L 26 (Value.ref 25))) (execs pfTail (envOfC (Str.ofString "path_frames") pfScope L 26 (Value.ref 25))) Q E s := by
  refine pf2T (xC := xC) (dC := dC) (xP := xP) (dP := dP) (xS := xS) (xA := xA) (dA := dA) (D := D) (lK := lK) (lc := lc) (la := la) (last := last) (fW := fW) (fC := fC) (n := n) (oC := oC) (oP := oP) (oA := oA) (fr := fr) (recv := recv) (num := num) (now := now) (dl := dl) (u1 := u1) (rest := rest) T K0 hC hP hA F (fun p hp => N p ?_) h X
  rcases List.mem_cons.mp hp with rfl | hp
  · exact m1
  rcases List.mem_cons.mp hp with rfl | hp
  · exact m1b
  rcases List.mem_cons.mp hp with rfl | hp
  · exact m2
  rcases List.mem_cons.mp hp with rfl | hp
  · exact m2b
  rcases List.mem_cons.mp hp with rfl | hp
  · exact m5
  rcases List.mem_cons.mp hp with rfl | hp
  · exact m6
  exact hp
set_option maxRecDepth 100000 in
set_option maxHeartbeats 0 in
theorem pf2P {w : World} {g₀ g : Heap} {L₀ L fa : Addr} {mg mb mean} {s : Shared} {Q : Flow → Shared → Prop} {E : Value → Shared → Prop} {m : Str → Option Value} {xC dC xP dP xS xA dA D lK lc la last fW fC n : Nat} {oC oP oA : Obj} {fr : Bool} {recv num now : Int} {dl : Value} {u1 : Tok} {rest : List (Addr × Obj)}
  (T : Top topProg looseP mean mg mb g) (K0 : Below (callerA.deeper (envOf (Str.ofString "law") lawScope L₀ fa (Value.ref 432))) g₀ [(envOf (Str.ofString "law") lawScope L₀ fa (Value.ref 432))] g)
  (hC : ConnO w.params oC xP xS fW fC (n : Int) true)
  (hP : PathsO w.params oP lK xA last num la)
  (hA : PathO w.params oA "away" "proven" fr recv lc dl false)
  (F : Fr g L s.heap (fun y => if y = Str.ofString "found" then some (Value.ref D) else if y = Str.ofString "conn" then some (Value.ref xC) else if y = Str.ofString "now" then some (Value.int now u1) else m y))
  (N : News g L s.heap ((xC, instObj 410 dC) :: (dC, oC) :: (xP, instObj 243 dP) :: (dP, oP) :: (xA, instObj 126 dA) :: (dA, oA) :: rest))
  (h : ∀  m' tk' h',  Fr g L h' m' → News g L h' (rest) → Q (.ret (.ref D)) { s with heap := h', toks := tk' })
  (X : (kF w.params).In g) :
  wpAny (MP w) ((callerA.deeper (envOf (Str.ofString "law") lawScope L₀ fa (Value.ref 432))).deeper (envOfC (Str.ofString "path_frames") pfScope L 26 (Value.ref 25))) (execs pfTail (envOfC (Str.ofString "path_frames") pfScope L 26 (Value.ref 25))) Q E s := by
  revert X
  dsimp only [MP]
  k_fill
  intro X
  generalize hs : lawScope = sc
  conv at hs => lhs; whnf
  subst hs
  generalize hs : pfScope = sc
  conv at hs => lhs; whnf
  subst hs
  generalize hs : pfTail = sc
  conv at hs => lhs; whnf
  subst hs
  dsimp only [looseP] at T
  repeat' (first | ((fail_if_success (with_reducible show wpAny _ _ _ _ _ _)); (refine h  ?mv _ _   ?hF ?hN; (case hF => assumption); (case hN => exact News.subs (by assumption) (by lcg_sub)); )) | (with_reducible exact absurd rfl (by assumption)) | (k_unfold; (try dsimp only)) | (k_end; wrow_close) | walk1 | (dsimp only; walk1) | (leave1; walk_say "STEP leave1"; try dsimp only) | fail "no step")

theorem pf2P_w {w : World} {g₀ g : Heap} {L₀ L fa : Addr} {mg mb mean} {s : Shared} {Q : Flow → Shared → Prop} {E : Value → Shared → Prop} {m : Str → Option Value} {xC dC xP dP xS xA dA D lK lc la last fW fC n : Nat} {oC oP oA : Obj} {fr : Bool} {recv num now : Int} {dl : Value} {u1 : Tok} {rest : List (Addr × Obj)}
  (F : Fr g L s.heap (fun y => if y = Str.ofString "found" then some (Value.ref D) else if y = Str.ofString "conn" then some (Value.ref xC) else if y = Str.ofString "now" then some (Value.int now u1) else m y))
  (N : News g L s.heap rest)
  (m1 : (xC, instObj 410 dC) ∈ rest)
  (m1b : (dC, oC) ∈ rest)
  (hC : ConnO w.params oC xP xS fW fC (n : Int) true)
  (m2 : (xP, instObj 243 dP) ∈ rest)
  (m2b : (dP, oP) ∈ rest)
  (hP : PathsO w.params oP lK xA last num la)
  (m5 : (xA, instObj 126 dA) ∈ rest)
  (m6 : (dA, oA) ∈ rest)
  (hA : PathO w.params oA "away" "proven" fr recv lc dl false)
  (T : Top topProg looseP mean mg mb g) (K0 : Below (callerA.deeper (envOf (Str.ofString "law") lawScope L₀ fa (Value.ref 432))) g₀ [(envOf (Str.ofString "law") lawScope L₀ fa (Value.ref 432))] g) (X : (kF w.params).In g)
  (h : ∀  m' tk' h',  Fr g L h' m' → News g L h' (rest) → Q (.ret (.ref D)) { s with heap := h', toks := tk' }) :
  wpAny (MP w) ((callerA.deeper (envOf (Str.ofString "law") lawScope L₀ fa (Value.ref 432))).deeper (envOfC (Str.ofString "path_frames") pfScope L 26 (Value.ref 25))) (execs pfTail (envOfC (Str.ofString "path_frames") pfScope L 26 (Value.ref 25))) Q E s := by
  refine pf2P (xC := xC) (dC := dC) (xP := xP) (dP := dP) (xS := xS) (xA := xA) (dA := dA) (D := D) (lK := lK) (lc := lc) (la := la) (last := last) (fW := fW) (fC := fC) (n := n) (oC := oC) (oP := oP) (oA := oA) (fr := fr) (recv := recv) (num := num) (now := now) (dl := dl) (u1 := u1) (rest := rest) T K0 hC hP hA F (fun p hp => N p ?_) h X
  rcases List.mem_cons.mp hp with rfl | hp
  · exact m1
  rcases List.mem_cons.mp hp with rfl | hp
  · exact m1b
  rcases List.mem_cons.mp hp with rfl | hp
  · exact m2
  rcases List.mem_cons.mp hp with rfl | hp
  · exact m2b
  rcases List.mem_cons.mp hp with rfl | hp
  · exact m5
  rcases List.mem_cons.mp hp with rfl | hp
  · exact m6
  exact hp
set_option maxRecDepth 100000 in
set_option maxHeartbeats 0 in
theorem od_ct0 {w : World} {g : Heap} {L fa : Addr} {mg mb mean} {s : Shared} {Q : Value → Shared → Prop} {E : Value → Shared → Prop} {m : Str → Option Value} {dP xP dH xH lH lK dA xA la lc act last nK : Nat} {oA oH oP : Obj} {st : String} {fr mo : Bool} {recv num : Int} {dl : Value} {u1 u2 : Tok} {rest : List (Addr × Obj)}
  (T : Top topProg looseP mean mg mb g) (K0 : Below callerA g [] g)
  (hP : PathsO w.params oP lK act last num la)
  (hH : PathO w.params oH "home" "proven" true 0 lH .none false)
  (hA : PathO w.params oA "away" st fr recv lc dl mo)
  (h0 : 0 ≤ recv)
  (h1 : recv ≤ 1000)
  (nm0_0 : @Ne Nat xP dA)
  (nm0_1 : @Ne Nat dP dA)
  (nm0_2 : @Ne Nat lK dA)
  (nm0_3 : @Ne Nat xH dA)
  (nm0_4 : @Ne Nat dH dA)
  (nm0_5 : @Ne Nat xA dA)
  (hr0 : ∀ p ∈ rest, p.1 ≠ dA)
  (F : Fr g L s.heap m)
  (N : News g L s.heap ((dA, oA) :: (xP, instObj 243 dP) :: (dP, oP) :: (lK, listOf #[.ref xH, .ref xA] nK) :: (xH, instObj 126 dH) :: (dH, oH) :: (xA, instObj 126 dA) :: rest))
  (h : ∀ oA' tk' h', PathO w.params oA' "away" st fr (recv + 100) lc dl mo → Fr g L h' m → News g L h' ((dA, oA') :: rest) → Q (.ref xA) { s with heap := h', toks := tk' })
  (X : (kF w.params).In g) :
  wpAny (MP w) (callerA.deeper (envOf (Str.ofString "law") lawScope L fa (Value.ref 432))) (PySem.call (.ref 165) [.ref xP, .str (Str.ofString "away") u1, .int 100 u2]) Q E s := by
  revert X
  dsimp only [MP]
  k_fill
  intro X
  generalize hs : lawScope = sc
  conv at hs => lhs; whnf
  subst hs
  dsimp only [looseP] at T
  repeat' (first | ((fail_if_success (with_reducible show wpAny _ _ _ _ _ _)); (refine h ?o _ _ ?hA ?hF ?hN; (case hF => assumption); (case hN => exact News.subs (by assumption) (by lcg_sub)); (case hA => first | assumption | exact PathO.mk ..))) | (with_reducible exact absurd rfl (by assumption)) | (k_unfold; (try dsimp only)) | (k_end; wrow_close) | walk1 | (dsimp only; walk1) | (leave1; walk_say "STEP leave1"; try dsimp only) | fail "no step")

theorem od_ct {w : World} {g : Heap} {L fa : Addr} {mg mb mean} {s : Shared} {Q : Value → Shared → Prop} {E : Value → Shared → Prop} {m : Str → Option Value} {dP xP dH xH lH lK dA xA la lc act last nK : Nat} {oA oH oP : Obj} {st : String} {fr mo : Bool} {recv num : Int} {dl : Value} {u1 u2 : Tok} {rest : List (Addr × Obj)} {news : List (Addr × Obj)}
  (F : Fr g L s.heap m) (N : News g L s.heap news)
  (m1 : (xP, instObj 243 dP) ∈ news)
  (m2 : (dP, oP) ∈ news)
  (hP : PathsO w.params oP lK act last num la)
  (m3 : (lK, listOf #[.ref xH, .ref xA] nK) ∈ news)
  (m4 : (xH, instObj 126 dH) ∈ news)
  (m5 : (dH, oH) ∈ news)
  (hH : PathO w.params oH "home" "proven" true 0 lH .none false)
  (m6 : (xA, instObj 126 dA) ∈ news)
  (t : Take (dA, oA) news rest)
  (hA : PathO w.params oA "away" st fr recv lc dl mo)
  (h0 : 0 ≤ recv)
  (h1 : recv ≤ 1000)
  (nm0_0 : @Ne Nat xP dA)
  (nm0_1 : @Ne Nat dP dA)
  (nm0_2 : @Ne Nat lK dA)
  (nm0_3 : @Ne Nat xH dA)
  (nm0_4 : @Ne Nat dH dA)
  (nm0_5 : @Ne Nat xA dA)
  (hr0 : ∀ p ∈ rest, p.1 ≠ dA)
  (T : Top topProg looseP mean mg mb g) (K0 : Below callerA g [] g) (X : (kF w.params).In g)
  (h : ∀ oA' tk' h', PathO w.params oA' "away" st fr (recv + 100) lc dl mo → Fr g L h' m → News g L h' ((dA, oA') :: rest) → Q (.ref xA) { s with heap := h', toks := tk' }) :
  wpAny (MP w) (callerA.deeper (envOf (Str.ofString "law") lawScope L fa (Value.ref 432))) (PySem.call (.ref 165) [.ref xP, .str (Str.ofString "away") u1, .int 100 u2]) Q E s := by
  have hall : ∀ q, (q = (dA, oA) ∨ q ∈ rest) → q ∈ news := by
    intro q hq
    rcases hq with rfl | hq
    · exact t.sub _ (.inl rfl)
    exact t.sub _ (.inr hq)
  refine od_ct0 (dP := dP) (xP := xP) (dH := dH) (xH := xH) (lH := lH) (lK := lK) (dA := dA) (xA := xA) (la := la) (lc := lc) (act := act) (last := last) (nK := nK) (oA := oA) (oH := oH) (oP := oP) (st := st) (fr := fr) (mo := mo) (recv := recv) (num := num) (dl := dl) (u1 := u1) (u2 := u2) (rest := rest) T K0 hP hH hA h0 h1 nm0_0 nm0_1 nm0_2 nm0_3 nm0_4 nm0_5 hr0 F (fun p hp => N p ?_) h X
  rcases List.mem_cons.mp hp with rfl | hp
  · exact hall _ (.inl rfl)
  rcases List.mem_cons.mp hp with rfl | hp
  · exact m1
  rcases List.mem_cons.mp hp with rfl | hp
  · exact m2
  rcases List.mem_cons.mp hp with rfl | hp
  · exact m3
  rcases List.mem_cons.mp hp with rfl | hp
  · exact m4
  rcases List.mem_cons.mp hp with rfl | hp
  · exact m5
  rcases List.mem_cons.mp hp with rfl | hp
  · exact m6
  exact hall _ (.inr hp)
set_option maxRecDepth 100000 in
set_option maxHeartbeats 0 in
theorem odN_ct0 {w : World} {g : Heap} {L fa : Addr} {mg mb mean} {s : Shared} {Q : Value → Shared → Prop} {E : Value → Shared → Prop} {m : Str → Option Value} {dP xP dH xH lH lK la act last nK : Nat} {oH oP : Obj} {num : Int} {u1 u2 : Tok} {rest : List (Addr × Obj)}
  (T : Top topProg looseP mean mg mb g) (K0 : Below callerA g [] g)
  (hP : PathsO w.params oP lK act last num la)
  (hH : PathO w.params oH "home" "proven" true 0 lH .none false)
  (nm0_0 : @Ne Nat xP lK)
  (nm0_1 : @Ne Nat dP lK)
  (nm0_2 : @Ne Nat xH lK)
  (nm0_3 : @Ne Nat dH lK)
  (hr0 : ∀ p ∈ rest, p.1 ≠ lK)
  (F : Fr g L s.heap m)
  (N : News g L s.heap ((lK, listOf #[.ref xH] nK) :: (xP, instObj 243 dP) :: (dP, oP) :: (xH, instObj 126 dH) :: (dH, oH) :: rest))
  (h : ∀ dA xA lc oA' nK' tk' h', (∀ p ∈ rest, p.1 ≠ dA) → @Ne Nat lK dA → (∀ p ∈ rest, p.1 ≠ xA) → @Ne Nat lK xA → (∀ p ∈ rest, p.1 ≠ lc) → @Ne Nat lK lc → @Ne Nat xA dA → @Ne Nat lc dA → PathO w.params oA' "away" "unproven" false 100 lc .none false → Fr g L h' m → News g L h' ((lc, listOf #[] 0) :: (xA, instObj 126 dA) :: (dA, oA') :: (lK, listOf #[.ref xH, .ref xA] nK') :: rest) → Q (.ref xA) { s with heap := h', toks := tk' })
  (X : (kF w.params).In g) :
  wpAny (MP w) (callerA.deeper (envOf (Str.ofString "law") lawScope L fa (Value.ref 432))) (PySem.call (.ref 165) [.ref xP, .str (Str.ofString "away") u1, .int 100 u2]) Q E s := by
  revert X
  dsimp only [MP]
  k_fill
  intro X
  generalize hs : lawScope = sc
  conv at hs => lhs; whnf
  subst hs
  dsimp only [looseP] at T
  repeat' (first | ((fail_if_success (with_reducible show wpAny _ _ _ _ _ _)); (refine h ?dAv _ ?lcv ?ov ?nkv _ _ ?nfdA0 ?nfdAlK ?nfxA0 ?nfxAlK ?nflc0 ?nflclK ?ne1 ?ne2 ?hA ?hF ?hN; (case hF => assumption); (case hN => exact News.subs (by assumption) (by lcg_sub)); (case hA => first | assumption | exact PathO.mk ..); (case nfdA0 => k_all); (case nfdAlK => k_ne); (case nfxA0 => exact restNe (ltTr (by assumption) (by assumption)) (by lcg_sub)); (case nfxAlK => k_ne); (case nflc0 => k_all); (case nflclK => k_ne); (case ne1 => k_ne); (case ne2 => k_ne))) | (with_reducible exact absurd rfl (by assumption)) | (k_unfold; (try dsimp only)) | (k_end; wrow_close) | walk1 | (dsimp only; walk1) | (leave1; walk_say "STEP leave1"; try dsimp only) | fail "no step")

theorem odN_ct {w : World} {g : Heap} {L fa : Addr} {mg mb mean} {s : Shared} {Q : Value → Shared → Prop} {E : Value → Shared → Prop} {m : Str → Option Value} {dP xP dH xH lH lK la act last nK : Nat} {oH oP : Obj} {num : Int} {u1 u2 : Tok} {rest : List (Addr × Obj)} {news : List (Addr × Obj)}
  (F : Fr g L s.heap m) (N : News g L s.heap news)
  (m1 : (xP, instObj 243 dP) ∈ news)
  (m2 : (dP, oP) ∈ news)
  (hP : PathsO w.params oP lK act last num la)
  (t : Take (lK, listOf #[.ref xH] nK) news rest)
  (m4 : (xH, instObj 126 dH) ∈ news)
  (m5 : (dH, oH) ∈ news)
  (hH : PathO w.params oH "home" "proven" true 0 lH .none false)
  (nm0_0 : @Ne Nat xP lK)
  (nm0_1 : @Ne Nat dP lK)
  (nm0_2 : @Ne Nat xH lK)
  (nm0_3 : @Ne Nat dH lK)
  (hr0 : ∀ p ∈ rest, p.1 ≠ lK)
  (T : Top topProg looseP mean mg mb g) (K0 : Below callerA g [] g) (X : (kF w.params).In g)
  (h : ∀ dA xA lc oA' nK' tk' h', (∀ p ∈ rest, p.1 ≠ dA) → @Ne Nat lK dA → (∀ p ∈ rest, p.1 ≠ xA) → @Ne Nat lK xA → (∀ p ∈ rest, p.1 ≠ lc) → @Ne Nat lK lc → @Ne Nat xA dA → @Ne Nat lc dA → PathO w.params oA' "away" "unproven" false 100 lc .none false → Fr g L h' m → News g L h' ((lc, listOf #[] 0) :: (xA, instObj 126 dA) :: (dA, oA') :: (lK, listOf #[.ref xH, .ref xA] nK') :: rest) → Q (.ref xA) { s with heap := h', toks := tk' }) :
  wpAny (MP w) (callerA.deeper (envOf (Str.ofString "law") lawScope L fa (Value.ref 432))) (PySem.call (.ref 165) [.ref xP, .str (Str.ofString "away") u1, .int 100 u2]) Q E s := by
  have hall : ∀ q, (q = (lK, listOf #[.ref xH] nK) ∨ q ∈ rest) → q ∈ news := by
    intro q hq
    rcases hq with rfl | hq
    · exact t.sub _ (.inl rfl)
    exact t.sub _ (.inr hq)
  refine odN_ct0 (dP := dP) (xP := xP) (dH := dH) (xH := xH) (lH := lH) (lK := lK) (la := la) (act := act) (last := last) (nK := nK) (oH := oH) (oP := oP) (num := num) (u1 := u1) (u2 := u2) (rest := rest) T K0 hP hH nm0_0 nm0_1 nm0_2 nm0_3 hr0 F (fun p hp => N p ?_) h X
  rcases List.mem_cons.mp hp with rfl | hp
  · exact hall _ (.inl rfl)
  rcases List.mem_cons.mp hp with rfl | hp
  · exact m1
  rcases List.mem_cons.mp hp with rfl | hp
  · exact m2
  rcases List.mem_cons.mp hp with rfl | hp
  · exact m4
  rcases List.mem_cons.mp hp with rfl | hp
  · exact m5
  exact hall _ (.inr hp)
set_option maxRecDepth 100000 in
set_option maxHeartbeats 0 in
theorem opF_ct0 {w : World} {g : Heap} {L fa : Addr} {mg mb mean} {s : Shared} {Q : Value → Shared → Prop} {E : Value → Shared → Prop} {m : Str → Option Value} {dP xP dH xH lH lK dA xA lc la last nK : Nat} {oA oH oP : Obj} {fr mo : Bool} {recv num nn : Int} {dl : Value} {u1 u2 : Tok} {rest : List (Addr × Obj)}
  (T : Top topProg looseP mean mg mb g) (K0 : Below callerA g [] g)
  (hP : PathsO w.params oP lK xH last num la)
  (hH : PathO w.params oH "home" "proven" true 0 lH .none false)
  (hA : PathO w.params oA "away" "failed" fr recv lc dl mo)
  (hn : num < nn)
  (nt0_1 : @Ne Nat dA dP)
  (nm0_0 : @Ne Nat xP dP)
  (nm0_1 : @Ne Nat lK dP)
  (nm0_2 : @Ne Nat xH dP)
  (nm0_3 : @Ne Nat dH dP)
  (nm0_4 : @Ne Nat xA dP)
  (nm1_0 : @Ne Nat xP dA)
  (nm1_1 : @Ne Nat lK dA)
  (nm1_2 : @Ne Nat xH dA)
  (nm1_3 : @Ne Nat dH dA)
  (nm1_4 : @Ne Nat xA dA)
  (hr0 : ∀ p ∈ rest, p.1 ≠ dP)
  (hr1 : ∀ p ∈ rest, p.1 ≠ dA)
  (F : Fr g L s.heap m)
  (N : News g L s.heap ((dP, oP) :: (dA, oA) :: (xP, instObj 243 dP) :: (lK, listOf #[.ref xH, .ref xA] nK) :: (xH, instObj 126 dH) :: (dH, oH) :: (xA, instObj 126 dA) :: rest))
  (h : ∀ oP' oA' hi' tk' h', hi' = nn → PathsO w.params oP' lK xA xH hi' la → PathO w.params oA' "away" "unproven" fr recv lc dl mo → Fr g L h' m → News g L h' ((dP, oP') :: (dA, oA') :: rest) → Q (.bool true) { s with heap := h', toks := tk' })
  (X : (kF w.params).In g) :
  wpAny (MP w) (callerA.deeper (envOf (Str.ofString "law") lawScope L fa (Value.ref 432))) (PySem.call (.ref 172) [.ref xP, .str (Str.ofString "away") u1, .int nn u2, .bool false]) Q E s := by
  revert X
  dsimp only [MP]
  k_fill
  intro X
  generalize hs : lawScope = sc
  conv at hs => lhs; whnf
  subst hs
  dsimp only [looseP] at T
  repeat' (first | ((fail_if_success (with_reducible show wpAny _ _ _ _ _ _)); (refine h ?o ?o2 ?hi _ _ ?e ?hP ?hA ?hF ?hN; (case hF => assumption); (case hN => exact News.subs (by assumption) (by lcg_sub)); (case hP => first | assumption | exact PathsO.mk ..); (case hA => first | assumption | exact PathO.mk ..); (case e => exact if_pos (by omega)))) | (with_reducible exact absurd rfl (by assumption)) | (k_unfold; (try dsimp only)) | (k_end; wrow_close) | walk1 | (dsimp only; walk1) | (leave1; walk_say "STEP leave1"; try dsimp only) | fail "no step")

theorem opF_ct {w : World} {g : Heap} {L fa : Addr} {mg mb mean} {s : Shared} {Q : Value → Shared → Prop} {E : Value → Shared → Prop} {m : Str → Option Value} {dP xP dH xH lH lK dA xA lc la last nK : Nat} {oA oH oP : Obj} {fr mo : Bool} {recv num nn : Int} {dl : Value} {u1 u2 : Tok} {rest : List (Addr × Obj)} {news : List (Addr × Obj)} {r0 : List (Addr × Obj)}
  (F : Fr g L s.heap m) (N : News g L s.heap news)
  (m1 : (xP, instObj 243 dP) ∈ news)
  (t : Take (dP, oP) news r0)
  (hP : PathsO w.params oP lK xH last num la)
  (m3 : (lK, listOf #[.ref xH, .ref xA] nK) ∈ news)
  (m4 : (xH, instObj 126 dH) ∈ news)
  (m5 : (dH, oH) ∈ news)
  (hH : PathO w.params oH "home" "proven" true 0 lH .none false)
  (m6 : (xA, instObj 126 dA) ∈ news)
  (t2 : Take (dA, oA) r0 rest)
  (hA : PathO w.params oA "away" "failed" fr recv lc dl mo)
  (hn : num < nn)
  (nt0_1 : @Ne Nat dA dP)
  (nm0_0 : @Ne Nat xP dP)
  (nm0_1 : @Ne Nat lK dP)
  (nm0_2 : @Ne Nat xH dP)
  (nm0_3 : @Ne Nat dH dP)
  (nm0_4 : @Ne Nat xA dP)
  (nm1_0 : @Ne Nat xP dA)
  (nm1_1 : @Ne Nat lK dA)
  (nm1_2 : @Ne Nat xH dA)
  (nm1_3 : @Ne Nat dH dA)
  (nm1_4 : @Ne Nat xA dA)
  (hr0 : ∀ p ∈ rest, p.1 ≠ dP)
  (hr1 : ∀ p ∈ rest, p.1 ≠ dA)
  (T : Top topProg looseP mean mg mb g) (K0 : Below callerA g [] g) (X : (kF w.params).In g)
  (h : ∀ oP' oA' hi' tk' h', hi' = nn → PathsO w.params oP' lK xA xH hi' la → PathO w.params oA' "away" "unproven" fr recv lc dl mo → Fr g L h' m → News g L h' ((dP, oP') :: (dA, oA') :: rest) → Q (.bool true) { s with heap := h', toks := tk' }) :
  wpAny (MP w) (callerA.deeper (envOf (Str.ofString "law") lawScope L fa (Value.ref 432))) (PySem.call (.ref 172) [.ref xP, .str (Str.ofString "away") u1, .int nn u2, .bool false]) Q E s := by
  have hall : ∀ q, (q = (dP, oP) ∨ q = (dA, oA) ∨ q ∈ rest) → q ∈ news := by
    intro q hq
    rcases hq with rfl | hq
    · exact t.sub _ (.inl rfl)
    rcases hq with rfl | hq
    · exact t.sub _ (.inr (t2.sub _ (.inl rfl)))
    exact t.sub _ (.inr (t2.sub _ (.inr hq)))
  refine opF_ct0 (dP := dP) (xP := xP) (dH := dH) (xH := xH) (lH := lH) (lK := lK) (dA := dA) (xA := xA) (lc := lc) (la := la) (last := last) (nK := nK) (oA := oA) (oH := oH) (oP := oP) (fr := fr) (mo := mo) (recv := recv) (num := num) (nn := nn) (dl := dl) (u1 := u1) (u2 := u2) (rest := rest) T K0 hP hH hA hn nt0_1 nm0_0 nm0_1 nm0_2 nm0_3 nm0_4 nm1_0 nm1_1 nm1_2 nm1_3 nm1_4 hr0 hr1 F (fun p hp => N p ?_) h X
  rcases List.mem_cons.mp hp with rfl | hp
  · exact hall _ (.inl rfl)
  rcases List.mem_cons.mp hp with rfl | hp
  · exact hall _ (.inr (.inl rfl))
  rcases List.mem_cons.mp hp with rfl | hp
  · exact m1
  rcases List.mem_cons.mp hp with rfl | hp
  · exact m3
  rcases List.mem_cons.mp hp with rfl | hp
  · exact m4
  rcases List.mem_cons.mp hp with rfl | hp
  · exact m5
  rcases List.mem_cons.mp hp with rfl | hp
  · exact m6
  exact hall _ (.inr (.inr hp))
set_option maxRecDepth 100000 in
set_option maxHeartbeats 0 in
theorem opU_ct0 {w : World} {g : Heap} {L fa : Addr} {mg mb mean} {s : Shared} {Q : Value → Shared → Prop} {E : Value → Shared → Prop} {m : Str → Option Value} {dP xP dH xH lH lK dA xA lc la last nK : Nat} {oA oH oP : Obj} {fr mo : Bool} {recv num nn : Int} {dl : Value} {u1 u2 : Tok} {rest : List (Addr × Obj)}
  (T : Top topProg looseP mean mg mb g) (K0 : Below callerA g [] g)
  (hP : PathsO w.params oP lK xH last num la)
  (hH : PathO w.params oH "home" "proven" true 0 lH .none false)
  (hA : PathO w.params oA "away" "unproven" fr recv lc dl mo)
  (hn : num < nn)
  (nm0_0 : @Ne Nat xP dP)
  (nm0_1 : @Ne Nat lK dP)
  (nm0_2 : @Ne Nat xH dP)
  (nm0_3 : @Ne Nat dH dP)
  (nm0_4 : @Ne Nat xA dP)
  (nm0_5 : @Ne Nat dA dP)
  (hr0 : ∀ p ∈ rest, p.1 ≠ dP)
  (F : Fr g L s.heap m)
  (N : News g L s.heap ((dP, oP) :: (xP, instObj 243 dP) :: (lK, listOf #[.ref xH, .ref xA] nK) :: (xH, instObj 126 dH) :: (dH, oH) :: (xA, instObj 126 dA) :: (dA, oA) :: rest))
  (h : ∀ oP' hi' tk' h', hi' = nn → PathsO w.params oP' lK xA xH hi' la → Fr g L h' m → News g L h' ((dP, oP') :: rest) → Q (.bool true) { s with heap := h', toks := tk' })
  (X : (kF w.params).In g) :
  wpAny (MP w) (callerA.deeper (envOf (Str.ofString "law") lawScope L fa (Value.ref 432))) (PySem.call (.ref 172) [.ref xP, .str (Str.ofString "away") u1, .int nn u2, .bool false]) Q E s := by
  revert X
  dsimp only [MP]
  k_fill
  intro X
  generalize hs : lawScope = sc
  conv at hs => lhs; whnf
  subst hs
  dsimp only [looseP] at T
  repeat' (first | ((fail_if_success (with_reducible show wpAny _ _ _ _ _ _)); (refine h ?o ?hi _ _ ?e ?hP ?hF ?hN; (case hF => assumption); (case hN => exact News.subs (by assumption) (by lcg_sub)); (case hP => first | assumption | exact PathsO.mk ..); (case e => exact if_pos (by omega)))) | (with_reducible exact absurd rfl (by assumption)) | (k_unfold; (try dsimp only)) | (k_end; wrow_close) | walk1 | (dsimp only; walk1) | (leave1; walk_say "STEP leave1"; try dsimp only) | fail "no step")

theorem opU_ct {w : World} {g : Heap} {L fa : Addr} {mg mb mean} {s : Shared} {Q : Value → Shared → Prop} {E : Value → Shared → Prop} {m : Str → Option Value} {dP xP dH xH lH lK dA xA lc la last nK : Nat} {oA oH oP : Obj} {fr mo : Bool} {recv num nn : Int} {dl : Value} {u1 u2 : Tok} {rest : List (Addr × Obj)} {news : List (Addr × Obj)}
  (F : Fr g L s.heap m) (N : News g L s.heap news)
  (m1 : (xP, instObj 243 dP) ∈ news)
  (t : Take (dP, oP) news rest)
  (hP : PathsO w.params oP lK xH last num la)
  (m3 : (lK, listOf #[.ref xH, .ref xA] nK) ∈ news)
  (m4 : (xH, instObj 126 dH) ∈ news)
  (m5 : (dH, oH) ∈ news)
  (hH : PathO w.params oH "home" "proven" true 0 lH .none false)
  (m6 : (xA, instObj 126 dA) ∈ news)
  (m7 : (dA, oA) ∈ news)
  (hA : PathO w.params oA "away" "unproven" fr recv lc dl mo)
  (hn : num < nn)
  (nm0_0 : @Ne Nat xP dP)
  (nm0_1 : @Ne Nat lK dP)
  (nm0_2 : @Ne Nat xH dP)
  (nm0_3 : @Ne Nat dH dP)
  (nm0_4 : @Ne Nat xA dP)
  (nm0_5 : @Ne Nat dA dP)
  (hr0 : ∀ p ∈ rest, p.1 ≠ dP)
  (T : Top topProg looseP mean mg mb g) (K0 : Below callerA g [] g) (X : (kF w.params).In g)
  (h : ∀ oP' hi' tk' h', hi' = nn → PathsO w.params oP' lK xA xH hi' la → Fr g L h' m → News g L h' ((dP, oP') :: rest) → Q (.bool true) { s with heap := h', toks := tk' }) :
  wpAny (MP w) (callerA.deeper (envOf (Str.ofString "law") lawScope L fa (Value.ref 432))) (PySem.call (.ref 172) [.ref xP, .str (Str.ofString "away") u1, .int nn u2, .bool false]) Q E s := by
  have hall : ∀ q, (q = (dP, oP) ∨ q ∈ rest) → q ∈ news := by
    intro q hq
    rcases hq with rfl | hq
    · exact t.sub _ (.inl rfl)
    exact t.sub _ (.inr hq)
  refine opU_ct0 (dP := dP) (xP := xP) (dH := dH) (xH := xH) (lH := lH) (lK := lK) (dA := dA) (xA := xA) (lc := lc) (la := la) (last := last) (nK := nK) (oA := oA) (oH := oH) (oP := oP) (fr := fr) (mo := mo) (recv := recv) (num := num) (nn := nn) (dl := dl) (u1 := u1) (u2 := u2) (rest := rest) T K0 hP hH hA hn nm0_0 nm0_1 nm0_2 nm0_3 nm0_4 nm0_5 hr0 F (fun p hp => N p ?_) h X
  rcases List.mem_cons.mp hp with rfl | hp
  · exact hall _ (.inl rfl)
  rcases List.mem_cons.mp hp with rfl | hp
  · exact m1
  rcases List.mem_cons.mp hp with rfl | hp
  · exact m3
  rcases List.mem_cons.mp hp with rfl | hp
  · exact m4
  rcases List.mem_cons.mp hp with rfl | hp
  · exact m5
  rcases List.mem_cons.mp hp with rfl | hp
  · exact m6
  rcases List.mem_cons.mp hp with rfl | hp
  · exact m7
  exact hall _ (.inr hp)
set_option maxRecDepth 100000 in
set_option maxHeartbeats 0 in
theorem opP_ct0 {w : World} {g : Heap} {L fa : Addr} {mg mb mean} {s : Shared} {Q : Value → Shared → Prop} {E : Value → Shared → Prop} {m : Str → Option Value} {dP xP dH xH lH lK dA xA lc la last nK : Nat} {oA oH oP : Obj} {fr mo : Bool} {recv num nn : Int} {dl : Value} {u1 u2 : Tok} {rest : List (Addr × Obj)}
  (T : Top topProg looseP mean mg mb g) (K0 : Below callerA g [] g)
  (hP : PathsO w.params oP lK xH last num la)
  (hH : PathO w.params oH "home" "proven" true 0 lH .none false)
  (hA : PathO w.params oA "away" "proven" fr recv lc dl mo)
  (hn : num < nn)
  (nm0_0 : @Ne Nat xP dP)
  (nm0_1 : @Ne Nat lK dP)
  (nm0_2 : @Ne Nat xH dP)
  (nm0_3 : @Ne Nat dH dP)
  (nm0_4 : @Ne Nat xA dP)
  (nm0_5 : @Ne Nat dA dP)
  (hr0 : ∀ p ∈ rest, p.1 ≠ dP)
  (F : Fr g L s.heap m)
  (N : News g L s.heap ((dP, oP) :: (xP, instObj 243 dP) :: (lK, listOf #[.ref xH, .ref xA] nK) :: (xH, instObj 126 dH) :: (dH, oH) :: (xA, instObj 126 dA) :: (dA, oA) :: rest))
  (h : ∀ oP' hi' tk' h', hi' = nn → PathsO w.params oP' lK xA xH hi' la → Fr g L h' m → News g L h' ((dP, oP') :: rest) → Q (.bool true) { s with heap := h', toks := tk' })
  (X : (kF w.params).In g) :
  wpAny (MP w) (callerA.deeper (envOf (Str.ofString "law") lawScope L fa (Value.ref 432))) (PySem.call (.ref 172) [.ref xP, .str (Str.ofString "away") u1, .int nn u2, .bool false]) Q E s := by
  revert X
  dsimp only [MP]
  k_fill
  intro X
  generalize hs : lawScope = sc
  conv at hs => lhs; whnf
  subst hs
  dsimp only [looseP] at T
  repeat' (first | ((fail_if_success (with_reducible show wpAny _ _ _ _ _ _)); (refine h ?o ?hi _ _ ?e ?hP ?hF ?hN; (case hF => assumption); (case hN => exact News.subs (by assumption) (by lcg_sub)); (case hP => first | assumption | exact PathsO.mk ..); (case e => exact if_pos (by omega)))) | (with_reducible exact absurd rfl (by assumption)) | (k_unfold; (try dsimp only)) | (k_end; wrow_close) | walk1 | (dsimp only; walk1) | (leave1; walk_say "STEP leave1"; try dsimp only) | fail "no step")

theorem opP_ct {w : World} {g : Heap} {L fa : Addr} {mg mb mean} {s : Shared} {Q : Value → Shared → Prop} {E : Value → Shared → Prop} {m : Str → Option Value} {dP xP dH xH lH lK dA xA lc la last nK : Nat} {oA oH oP : Obj} {fr mo : Bool} {recv num nn : Int} {dl : Value} {u1 u2 : Tok} {rest : List (Addr × Obj)} {news : List (Addr × Obj)}
  (F : Fr g L s.heap m) (N : News g L s.heap news)
  (m1 : (xP, instObj 243 dP) ∈ news)
  (t : Take (dP, oP) news rest)
  (hP : PathsO w.params oP lK xH last num la)
  (m3 : (lK, listOf #[.ref xH, .ref xA] nK) ∈ news)
  (m4 : (xH, instObj 126 dH) ∈ news)
  (m5 : (dH, oH) ∈ news)
  (hH : PathO w.params oH "home" "proven" true 0 lH .none false)
  (m6 : (xA, instObj 126 dA) ∈ news)
  (m7 : (dA, oA) ∈ news)
  (hA : PathO w.params oA "away" "proven" fr recv lc dl mo)
  (hn : num < nn)
  (nm0_0 : @Ne Nat xP dP)
  (nm0_1 : @Ne Nat lK dP)
  (nm0_2 : @Ne Nat xH dP)
  (nm0_3 : @Ne Nat dH dP)
  (nm0_4 : @Ne Nat xA dP)
  (nm0_5 : @Ne Nat dA dP)
  (hr0 : ∀ p ∈ rest, p.1 ≠ dP)
  (T : Top topProg looseP mean mg mb g) (K0 : Below callerA g [] g) (X : (kF w.params).In g)
  (h : ∀ oP' hi' tk' h', hi' = nn → PathsO w.params oP' lK xA xH hi' la → Fr g L h' m → News g L h' ((dP, oP') :: rest) → Q (.bool true) { s with heap := h', toks := tk' }) :
  wpAny (MP w) (callerA.deeper (envOf (Str.ofString "law") lawScope L fa (Value.ref 432))) (PySem.call (.ref 172) [.ref xP, .str (Str.ofString "away") u1, .int nn u2, .bool false]) Q E s := by
  have hall : ∀ q, (q = (dP, oP) ∨ q ∈ rest) → q ∈ news := by
    intro q hq
    rcases hq with rfl | hq
    · exact t.sub _ (.inl rfl)
    exact t.sub _ (.inr hq)
  refine opP_ct0 (dP := dP) (xP := xP) (dH := dH) (xH := xH) (lH := lH) (lK := lK) (dA := dA) (xA := xA) (lc := lc) (la := la) (last := last) (nK := nK) (oA := oA) (oH := oH) (oP := oP) (fr := fr) (mo := mo) (recv := recv) (num := num) (nn := nn) (dl := dl) (u1 := u1) (u2 := u2) (rest := rest) T K0 hP hH hA hn nm0_0 nm0_1 nm0_2 nm0_3 nm0_4 nm0_5 hr0 F (fun p hp => N p ?_) h X
  rcases List.mem_cons.mp hp with rfl | hp
  · exact hall _ (.inl rfl)
  rcases List.mem_cons.mp hp with rfl | hp
  · exact m1
  rcases List.mem_cons.mp hp with rfl | hp
  · exact m3
  rcases List.mem_cons.mp hp with rfl | hp
  · exact m4
  rcases List.mem_cons.mp hp with rfl | hp
  · exact m5
  rcases List.mem_cons.mp hp with rfl | hp
  · exact m6
  rcases List.mem_cons.mp hp with rfl | hp
  · exact m7
  exact hall _ (.inr hp)
set_option maxRecDepth 100000 in
set_option maxHeartbeats 0 in
theorem oph_ct0 {w : World} {g : Heap} {L fa : Addr} {mg mb mean} {s : Shared} {Q : Value → Shared → Prop} {E : Value → Shared → Prop} {m : Str → Option Value} {dP xP dH xH lH lK dA xA lc la last nK : Nat} {oA oH oP : Obj} {fr mo : Bool} {recv num nn : Int} {dl : Value} {u1 u2 : Tok} {rest : List (Addr × Obj)}
  (T : Top topProg looseP mean mg mb g) (K0 : Below callerA g [] g)
  (hP : PathsO w.params oP lK xA last num la)
  (hH : PathO w.params oH "home" "proven" true 0 lH .none false)
  (hA : PathO w.params oA "away" "proven" fr recv lc dl mo)
  (hn : num < nn)
  (nm0_0 : @Ne Nat xP dP)
  (nm0_1 : @Ne Nat lK dP)
  (nm0_2 : @Ne Nat xH dP)
  (nm0_3 : @Ne Nat dH dP)
  (nm0_4 : @Ne Nat xA dP)
  (nm0_5 : @Ne Nat dA dP)
  (hr0 : ∀ p ∈ rest, p.1 ≠ dP)
  (F : Fr g L s.heap m)
  (N : News g L s.heap ((dP, oP) :: (xP, instObj 243 dP) :: (lK, listOf #[.ref xH, .ref xA] nK) :: (xH, instObj 126 dH) :: (dH, oH) :: (xA, instObj 126 dA) :: (dA, oA) :: rest))
  (h : ∀ oP' hi' tk' h', hi' = nn → PathsO w.params oP' lK xH xA hi' la → Fr g L h' m → News g L h' ((dP, oP') :: rest) → Q (.bool true) { s with heap := h', toks := tk' })
  (X : (kF w.params).In g) :
  wpAny (MP w) (callerA.deeper (envOf (Str.ofString "law") lawScope L fa (Value.ref 432))) (PySem.call (.ref 172) [.ref xP, .str (Str.ofString "home") u1, .int nn u2, .bool false]) Q E s := by
  revert X
  dsimp only [MP]
  k_fill
  intro X
  generalize hs : lawScope = sc
  conv at hs => lhs; whnf
  subst hs
  dsimp only [looseP] at T
  repeat' (first | ((fail_if_success (with_reducible show wpAny _ _ _ _ _ _)); (refine h ?o ?hi _ _ ?e ?hP ?hF ?hN; (case hF => assumption); (case hN => exact News.subs (by assumption) (by lcg_sub)); (case hP => first | assumption | exact PathsO.mk ..); (case e => exact if_pos (by omega)))) | (with_reducible exact absurd rfl (by assumption)) | (k_unfold; (try dsimp only)) | (k_end; wrow_close) | walk1 | (dsimp only; walk1) | (leave1; walk_say "STEP leave1"; try dsimp only) | fail "no step")

theorem oph_ct {w : World} {g : Heap} {L fa : Addr} {mg mb mean} {s : Shared} {Q : Value → Shared → Prop} {E : Value → Shared → Prop} {m : Str → Option Value} {dP xP dH xH lH lK dA xA lc la last nK : Nat} {oA oH oP : Obj} {fr mo : Bool} {recv num nn : Int} {dl : Value} {u1 u2 : Tok} {rest : List (Addr × Obj)} {news : List (Addr × Obj)}
  (F : Fr g L s.heap m) (N : News g L s.heap news)
  (m1 : (xP, instObj 243 dP) ∈ news)
  (t : Take (dP, oP) news rest)
  (hP : PathsO w.params oP lK xA last num la)
  (m3 : (lK, listOf #[.ref xH, .ref xA] nK) ∈ news)
  (m4 : (xH, instObj 126 dH) ∈ news)
  (m5 : (dH, oH) ∈ news)
  (hH : PathO w.params oH "home" "proven" true 0 lH .none false)
  (m6 : (xA, instObj 126 dA) ∈ news)
  (m7 : (dA, oA) ∈ news)
  (hA : PathO w.params oA "away" "proven" fr recv lc dl mo)
  (hn : num < nn)
  (nm0_0 : @Ne Nat xP dP)
  (nm0_1 : @Ne Nat lK dP)
  (nm0_2 : @Ne Nat xH dP)
  (nm0_3 : @Ne Nat dH dP)
  (nm0_4 : @Ne Nat xA dP)
  (nm0_5 : @Ne Nat dA dP)
  (hr0 : ∀ p ∈ rest, p.1 ≠ dP)
  (T : Top topProg looseP mean mg mb g) (K0 : Below callerA g [] g) (X : (kF w.params).In g)
  (h : ∀ oP' hi' tk' h', hi' = nn → PathsO w.params oP' lK xH xA hi' la → Fr g L h' m → News g L h' ((dP, oP') :: rest) → Q (.bool true) { s with heap := h', toks := tk' }) :
  wpAny (MP w) (callerA.deeper (envOf (Str.ofString "law") lawScope L fa (Value.ref 432))) (PySem.call (.ref 172) [.ref xP, .str (Str.ofString "home") u1, .int nn u2, .bool false]) Q E s := by
  have hall : ∀ q, (q = (dP, oP) ∨ q ∈ rest) → q ∈ news := by
    intro q hq
    rcases hq with rfl | hq
    · exact t.sub _ (.inl rfl)
    exact t.sub _ (.inr hq)
  refine oph_ct0 (dP := dP) (xP := xP) (dH := dH) (xH := xH) (lH := lH) (lK := lK) (dA := dA) (xA := xA) (lc := lc) (la := la) (last := last) (nK := nK) (oA := oA) (oH := oH) (oP := oP) (fr := fr) (mo := mo) (recv := recv) (num := num) (nn := nn) (dl := dl) (u1 := u1) (u2 := u2) (rest := rest) T K0 hP hH hA hn nm0_0 nm0_1 nm0_2 nm0_3 nm0_4 nm0_5 hr0 F (fun p hp => N p ?_) h X
  rcases List.mem_cons.mp hp with rfl | hp
  · exact hall _ (.inl rfl)
  rcases List.mem_cons.mp hp with rfl | hp
  · exact m1
  rcases List.mem_cons.mp hp with rfl | hp
  · exact m3
  rcases List.mem_cons.mp hp with rfl | hp
  · exact m4
  rcases List.mem_cons.mp hp with rfl | hp
  · exact m5
  rcases List.mem_cons.mp hp with rfl | hp
  · exact m6
  rcases List.mem_cons.mp hp with rfl | hp
  · exact m7
  exact hall _ (.inr hp)
set_option maxRecDepth 100000 in
set_option maxHeartbeats 0 in
theorem trN_ct0 {w : World} {g : Heap} {L fa : Addr} {mg mb mean} {s : Shared} {Q : Value → Shared → Prop} {E : Value → Shared → Prop} {m : Str → Option Value} {dP xP dH xH lH lK dA xA lc la last nK cH cl : Nat} {oA oH oP : Obj} {st : String} {fr mo : Bool} {recv num : Int} {dl : Value} {u1 : Tok} {b : Array UInt8} {rest : List (Addr × Obj)}
  (T : Top topProg looseP mean mg mb g) (K0 : Below callerA g [] g)
  (hP : PathsO w.params oP lK xA last num la)
  (hH : PathO w.params oH "home" "proven" true 0 lH .none false)
  (hA : PathO w.params oA "away" st fr recv lc dl mo)
  (F : Fr g L s.heap m)
  (N : News g L s.heap ((xP, instObj 243 dP) :: (dP, oP) :: (lK, listOf #[.ref xH, .ref xA] nK) :: (xH, instObj 126 dH) :: (dH, oH) :: (lH, listOf #[] cH) :: (xA, instObj 126 dA) :: (dA, oA) :: (lc, listOf #[] cl) :: rest))
  (h : ∀ tk' h', Fr g L h' m → News g L h' rest → Q .none { s with heap := h', toks := tk' })
  (X : (kF w.params).In g) :
  wpAny (MP w) (callerA.deeper (envOf (Str.ofString "law") lawScope L fa (Value.ref 432))) (PySem.call (.ref 221) [.ref xP, .bytes b u1]) Q E s := by
  revert X
  dsimp only [MP]
  k_fill
  intro X
  generalize hs : lawScope = sc
  conv at hs => lhs; whnf
  subst hs
  dsimp only [looseP] at T
  repeat' (first | ((fail_if_success (with_reducible show wpAny _ _ _ _ _ _)); (refine h _ _ ?hF ?hN; (case hF => assumption); (case hN => exact News.subs (by assumption) (by lcg_sub)))) | (with_reducible exact absurd rfl (by assumption)) | (k_unfold; (try dsimp only)) | (k_end; wrow_close) | walk1 | (dsimp only; walk1) | (leave1; walk_say "STEP leave1"; try dsimp only) | fail "no step")

theorem trN_ct {w : World} {g : Heap} {L fa : Addr} {mg mb mean} {s : Shared} {Q : Value → Shared → Prop} {E : Value → Shared → Prop} {m : Str → Option Value} {dP xP dH xH lH lK dA xA lc la last nK cH cl : Nat} {oA oH oP : Obj} {st : String} {fr mo : Bool} {recv num : Int} {dl : Value} {u1 : Tok} {b : Array UInt8} {rest : List (Addr × Obj)} 
  (F : Fr g L s.heap m) (N : News g L s.heap rest)
  (m1 : (xP, instObj 243 dP) ∈ rest)
  (t : (dP, oP) ∈ rest)
  (hP : PathsO w.params oP lK xA last num la)
  (m3 : (lK, listOf #[.ref xH, .ref xA] nK) ∈ rest)
  (m4 : (xH, instObj 126 dH) ∈ rest)
  (m5 : (dH, oH) ∈ rest)
  (hH : PathO w.params oH "home" "proven" true 0 lH .none false)
  (m8 : (lH, listOf #[] cH) ∈ rest)
  (m6 : (xA, instObj 126 dA) ∈ rest)
  (t2 : (dA, oA) ∈ rest)
  (hA : PathO w.params oA "away" st fr recv lc dl mo)
  (m9 : (lc, listOf #[] cl) ∈ rest)
  (T : Top topProg looseP mean mg mb g) (K0 : Below callerA g [] g) (X : (kF w.params).In g)
  (h : ∀ tk' h', Fr g L h' m → News g L h' rest → Q .none { s with heap := h', toks := tk' }) :
  wpAny (MP w) (callerA.deeper (envOf (Str.ofString "law") lawScope L fa (Value.ref 432))) (PySem.call (.ref 221) [.ref xP, .bytes b u1]) Q E s := by
  refine trN_ct0 (dP := dP) (xP := xP) (dH := dH) (xH := xH) (lH := lH) (lK := lK) (dA := dA) (xA := xA) (lc := lc) (la := la) (last := last) (nK := nK) (cH := cH) (cl := cl) (oA := oA) (oH := oH) (oP := oP) (st := st) (fr := fr) (mo := mo) (recv := recv) (num := num) (dl := dl) (u1 := u1) (b := b) (rest := rest) T K0 hP hH hA F (fun p hp => N p ?_) h X
  rcases List.mem_cons.mp hp with rfl | hp
  · exact m1
  rcases List.mem_cons.mp hp with rfl | hp
  · exact t
  rcases List.mem_cons.mp hp with rfl | hp
  · exact m3
  rcases List.mem_cons.mp hp with rfl | hp
  · exact m4
  rcases List.mem_cons.mp hp with rfl | hp
  · exact m5
  rcases List.mem_cons.mp hp with rfl | hp
  · exact m8
  rcases List.mem_cons.mp hp with rfl | hp
  · exact m6
  rcases List.mem_cons.mp hp with rfl | hp
  · exact t2
  rcases List.mem_cons.mp hp with rfl | hp
  · exact m9
  exact hp
set_option maxRecDepth 100000 in
set_option maxHeartbeats 0 in
theorem trM_ct0 {w : World} {g : Heap} {L fa : Addr} {mg mb mean} {s : Shared} {Q : Value → Shared → Prop} {E : Value → Shared → Prop} {m : Str → Option Value} {dP xP dH xH lH lK dA xA lc la last nK cH cl : Nat} {oA oH oP : Obj} {st : String} {fr mo : Bool} {recv num : Int} {dl : Value} {u1 tc : Tok} {b c : Array UInt8} {rest : List (Addr × Obj)}
  (T : Top topProg looseP mean mg mb g) (K0 : Below callerA g [] g)
  (hP : PathsO w.params oP lK xA last num la)
  (hH : PathO w.params oH "home" "proven" true 0 lH .none false)
  (hA : PathO w.params oA "away" st fr recv lc dl mo)
  (hbc : c ≠ b)
  (F : Fr g L s.heap m)
  (N : News g L s.heap ((xP, instObj 243 dP) :: (dP, oP) :: (lK, listOf #[.ref xH, .ref xA] nK) :: (xH, instObj 126 dH) :: (dH, oH) :: (lH, listOf #[] cH) :: (xA, instObj 126 dA) :: (dA, oA) :: (lc, listOf #[.bytes c tc] cl) :: rest))
  (h : ∀ tk' h', Fr g L h' m → News g L h' rest → Q .none { s with heap := h', toks := tk' })
  (X : (kF w.params).In g) :
  wpAny (MP w) (callerA.deeper (envOf (Str.ofString "law") lawScope L fa (Value.ref 432))) (PySem.call (.ref 221) [.ref xP, .bytes b u1]) Q E s := by
  revert X
  dsimp only [MP]
  k_fill
  intro X
  generalize hs : lawScope = sc
  conv at hs => lhs; whnf
  subst hs
  dsimp only [looseP] at T
  repeat' (first | ((fail_if_success (with_reducible show wpAny _ _ _ _ _ _)); (refine h _ _ ?hF ?hN; (case hF => assumption); (case hN => exact News.subs (by assumption) (by lcg_sub)))) | (with_reducible exact absurd rfl (by assumption)) | (k_unfold; (try dsimp only)) | (k_end; wrow_close) | walk1 | (dsimp only; walk1) | (leave1; walk_say "STEP leave1"; try dsimp only) | fail "no step")

theorem trM_ct {w : World} {g : Heap} {L fa : Addr} {mg mb mean} {s : Shared} {Q : Value → Shared → Prop} {E : Value → Shared → Prop} {m : Str → Option Value} {dP xP dH xH lH lK dA xA lc la last nK cH cl : Nat} {oA oH oP : Obj} {st : String} {fr mo : Bool} {recv num : Int} {dl : Value} {u1 tc : Tok} {b c : Array UInt8} {rest : List (Addr × Obj)} 
  (F : Fr g L s.heap m) (N : News g L s.heap rest)
  (m1 : (xP, instObj 243 dP) ∈ rest)
  (t : (dP, oP) ∈ rest)
  (hP : PathsO w.params oP lK xA last num la)
  (m3 : (lK, listOf #[.ref xH, .ref xA] nK) ∈ rest)
  (m4 : (xH, instObj 126 dH) ∈ rest)
  (m5 : (dH, oH) ∈ rest)
  (hH : PathO w.params oH "home" "proven" true 0 lH .none false)
  (m8 : (lH, listOf #[] cH) ∈ rest)
  (m6 : (xA, instObj 126 dA) ∈ rest)
  (t2 : (dA, oA) ∈ rest)
  (hA : PathO w.params oA "away" st fr recv lc dl mo)
  (m9 : (lc, listOf #[.bytes c tc] cl) ∈ rest)
  (hbc : c ≠ b)
  (T : Top topProg looseP mean mg mb g) (K0 : Below callerA g [] g) (X : (kF w.params).In g)
  (h : ∀ tk' h', Fr g L h' m → News g L h' rest → Q .none { s with heap := h', toks := tk' }) :
  wpAny (MP w) (callerA.deeper (envOf (Str.ofString "law") lawScope L fa (Value.ref 432))) (PySem.call (.ref 221) [.ref xP, .bytes b u1]) Q E s := by
  refine trM_ct0 (dP := dP) (xP := xP) (dH := dH) (xH := xH) (lH := lH) (lK := lK) (dA := dA) (xA := xA) (lc := lc) (la := la) (last := last) (nK := nK) (cH := cH) (cl := cl) (oA := oA) (oH := oH) (oP := oP) (st := st) (fr := fr) (mo := mo) (recv := recv) (num := num) (dl := dl) (u1 := u1) (tc := tc) (b := b) (c := c) (rest := rest) T K0 hP hH hA hbc F (fun p hp => N p ?_) h X
  rcases List.mem_cons.mp hp with rfl | hp
  · exact m1
  rcases List.mem_cons.mp hp with rfl | hp
  · exact t
  rcases List.mem_cons.mp hp with rfl | hp
  · exact m3
  rcases List.mem_cons.mp hp with rfl | hp
  · exact m4
  rcases List.mem_cons.mp hp with rfl | hp
  · exact m5
  rcases List.mem_cons.mp hp with rfl | hp
  · exact m8
  rcases List.mem_cons.mp hp with rfl | hp
  · exact m6
  rcases List.mem_cons.mp hp with rfl | hp
  · exact t2
  rcases List.mem_cons.mp hp with rfl | hp
  · exact m9
  exact hp
set_option maxRecDepth 100000 in
set_option maxHeartbeats 0 in
theorem trH_ct0 {w : World} {g : Heap} {L fa : Addr} {mg mb mean} {s : Shared} {Q : Value → Shared → Prop} {E : Value → Shared → Prop} {m : Str → Option Value} {dP xP dH xH lH lK dA xA lc la last nK cH cl : Nat} {oA oH oP : Obj} {st : String} {fr mo : Bool} {recv num : Int} {dl : Value} {u1 tc : Tok} {b : Array UInt8} {rest : List (Addr × Obj)}
  (T : Top topProg looseP mean mg mb g) (K0 : Below callerA g [] g)
  (hP : PathsO w.params oP lK xA last num la)
  (hH : PathO w.params oH "home" "proven" true 0 lH .none false)
  (hA : PathO w.params oA "away" st fr recv lc dl mo)
  (nt0_1 : @Ne Nat dA dP)
  (nm0_0 : @Ne Nat xP dP)
  (nm0_1 : @Ne Nat lK dP)
  (nm0_2 : @Ne Nat xH dP)
  (nm0_3 : @Ne Nat dH dP)
  (nm0_4 : @Ne Nat lH dP)
  (nm0_5 : @Ne Nat xA dP)
  (nm0_6 : @Ne Nat lc dP)
  (nm1_0 : @Ne Nat xP dA)
  (nm1_1 : @Ne Nat lK dA)
  (nm1_2 : @Ne Nat xH dA)
  (nm1_3 : @Ne Nat dH dA)
  (nm1_4 : @Ne Nat lH dA)
  (nm1_5 : @Ne Nat xA dA)
  (nm1_6 : @Ne Nat lc dA)
  (hr0 : ∀ p ∈ rest, p.1 ≠ dP)
  (hr1 : ∀ p ∈ rest, p.1 ≠ dA)
  (F : Fr g L s.heap m)
  (N : News g L s.heap ((dP, oP) :: (dA, oA) :: (xP, instObj 243 dP) :: (lK, listOf #[.ref xH, .ref xA] nK) :: (xH, instObj 126 dH) :: (dH, oH) :: (lH, listOf #[] cH) :: (xA, instObj 126 dA) :: (lc, listOf #[.bytes b tc] cl) :: rest))
  (h : ∀ oP' oA' lc' tk' h', (∀ p ∈ rest, p.1 < lc') → @LT.lt Nat _ dP lc' → @LT.lt Nat _ dA lc' → PathsO w.params oP' lK xA xA num la → PathO w.params oA' "away" "proven" true recv lc' .none false → Fr g L h' m → News g L h' ((lc', listOf #[] 0) :: (dP, oP') :: (dA, oA') :: rest) → Q (.ref xA) { s with heap := h', toks := tk' })
  (X : (kF w.params).In g) :
  wpAny (MP w) (callerA.deeper (envOf (Str.ofString "law") lawScope L fa (Value.ref 432))) (PySem.call (.ref 221) [.ref xP, .bytes b u1]) Q E s := by
  revert X
  dsimp only [MP]
  k_fill
  intro X
  generalize hs : lawScope = sc
  conv at hs => lhs; whnf
  subst hs
  dsimp only [looseP] at T
  repeat' (first | ((fail_if_success (with_reducible show wpAny _ _ _ _ _ _)); (refine h ?o ?o2 ?l _ _ ?f1 ?f2 ?f3 ?hP ?hA ?hF ?hN; (case hF => assumption); (case hN => exact News.subs (by assumption) (by lcg_sub)); (case hP => first | assumption | exact PathsO.mk ..); (case hA => first | assumption | exact PathO.mk ..); (case f1 => exact restLt (by assumption) (by lcg_sub)); (case f2 => exact ltOf (by assumption) (by k_mem)); (case f3 => exact ltOf (by assumption) (by k_mem)))) | (with_reducible exact absurd rfl (by assumption)) | (k_unfold; (try dsimp only)) | (k_end; wrow_close) | walk1 | (dsimp only; walk1) | (leave1; walk_say "STEP leave1"; try dsimp only) | fail "no step")

theorem trH_ct {w : World} {g : Heap} {L fa : Addr} {mg mb mean} {s : Shared} {Q : Value → Shared → Prop} {E : Value → Shared → Prop} {m : Str → Option Value} {dP xP dH xH lH lK dA xA lc la last nK cH cl : Nat} {oA oH oP : Obj} {st : String} {fr mo : Bool} {recv num : Int} {dl : Value} {u1 tc : Tok} {b : Array UInt8} {rest : List (Addr × Obj)} {news : List (Addr × Obj)} {r0 : List (Addr × Obj)}
  (F : Fr g L s.heap m) (N : News g L s.heap news)
  (m1 : (xP, instObj 243 dP) ∈ news)
  (t : Take (dP, oP) news r0)
  (hP : PathsO w.params oP lK xA last num la)
  (m3 : (lK, listOf #[.ref xH, .ref xA] nK) ∈ news)
  (m4 : (xH, instObj 126 dH) ∈ news)
  (m5 : (dH, oH) ∈ news)
  (hH : PathO w.params oH "home" "proven" true 0 lH .none false)
  (m8 : (lH, listOf #[] cH) ∈ news)
  (m6 : (xA, instObj 126 dA) ∈ news)
  (t2 : Take (dA, oA) r0 rest)
  (hA : PathO w.params oA "away" st fr recv lc dl mo)
  (m9 : (lc, listOf #[.bytes b tc] cl) ∈ news)
  (nt0_1 : @Ne Nat dA dP)
  (nm0_0 : @Ne Nat xP dP)
  (nm0_1 : @Ne Nat lK dP)
  (nm0_2 : @Ne Nat xH dP)
  (nm0_3 : @Ne Nat dH dP)
  (nm0_4 : @Ne Nat lH dP)
  (nm0_5 : @Ne Nat xA dP)
  (nm0_6 : @Ne Nat lc dP)
  (nm1_0 : @Ne Nat xP dA)
  (nm1_1 : @Ne Nat lK dA)
  (nm1_2 : @Ne Nat xH dA)
  (nm1_3 : @Ne Nat dH dA)
  (nm1_4 : @Ne Nat lH dA)
  (nm1_5 : @Ne Nat xA dA)
  (nm1_6 : @Ne Nat lc dA)
  (hr0 : ∀ p ∈ rest, p.1 ≠ dP)
  (hr1 : ∀ p ∈ rest, p.1 ≠ dA)
  (T : Top topProg looseP mean mg mb g) (K0 : Below callerA g [] g) (X : (kF w.params).In g)
  (h : ∀ oP' oA' lc' tk' h', (∀ p ∈ rest, p.1 < lc') → @LT.lt Nat _ dP lc' → @LT.lt Nat _ dA lc' → PathsO w.params oP' lK xA xA num la → PathO w.params oA' "away" "proven" true recv lc' .none false → Fr g L h' m → News g L h' ((lc', listOf #[] 0) :: (dP, oP') :: (dA, oA') :: rest) → Q (.ref xA) { s with heap := h', toks := tk' }) :
  wpAny (MP w) (callerA.deeper (envOf (Str.ofString "law") lawScope L fa (Value.ref 432))) (PySem.call (.ref 221) [.ref xP, .bytes b u1]) Q E s := by
  have hall : ∀ q, (q = (dP, oP) ∨ q = (dA, oA) ∨ q ∈ rest) → q ∈ news := by
    intro q hq
    rcases hq with rfl | hq
    · exact t.sub _ (.inl rfl)
    rcases hq with rfl | hq
    · exact t.sub _ (.inr (t2.sub _ (.inl rfl)))
    exact t.sub _ (.inr (t2.sub _ (.inr hq)))
  refine trH_ct0 (dP := dP) (xP := xP) (dH := dH) (xH := xH) (lH := lH) (lK := lK) (dA := dA) (xA := xA) (lc := lc) (la := la) (last := last) (nK := nK) (cH := cH) (cl := cl) (oA := oA) (oH := oH) (oP := oP) (st := st) (fr := fr) (mo := mo) (recv := recv) (num := num) (dl := dl) (u1 := u1) (tc := tc) (b := b) (rest := rest) T K0 hP hH hA nt0_1 nm0_0 nm0_1 nm0_2 nm0_3 nm0_4 nm0_5 nm0_6 nm1_0 nm1_1 nm1_2 nm1_3 nm1_4 nm1_5 nm1_6 hr0 hr1 F (fun p hp => N p ?_) h X
  rcases List.mem_cons.mp hp with rfl | hp
  · exact hall _ (.inl rfl)
  rcases List.mem_cons.mp hp with rfl | hp
  · exact hall _ (.inr (.inl rfl))
  rcases List.mem_cons.mp hp with rfl | hp
  · exact m1
  rcases List.mem_cons.mp hp with rfl | hp
  · exact m3
  rcases List.mem_cons.mp hp with rfl | hp
  · exact m4
  rcases List.mem_cons.mp hp with rfl | hp
  · exact m5
  rcases List.mem_cons.mp hp with rfl | hp
  · exact m8
  rcases List.mem_cons.mp hp with rfl | hp
  · exact m6
  rcases List.mem_cons.mp hp with rfl | hp
  · exact m9
  exact hall _ (.inr (.inr hp))
set_option maxRecDepth 100000 in
set_option maxHeartbeats 0 in
theorem otT_ct0 {w : World} {g : Heap} {L fa : Addr} {mg mb mean} {s : Shared} {Q : Value → Shared → Prop} {E : Value → Shared → Prop} {m : Str → Option Value} {dP xP dH xH lH lK dA xA lc la nK : Nat} {oA oH oP : Obj} {fr mo : Bool} {recv num d now : Int} {u1 td : Tok} {rest : List (Addr × Obj)}
  (T : Top topProg looseP mean mg mb g) (K0 : Below callerA g [] g)
  (hP : PathsO w.params oP lK xA xH num la)
  (hH : PathO w.params oH "home" "proven" true 0 lH .none false)
  (hA : PathO w.params oA "away" "trying" fr recv lc (.int d td) mo)
  (hdn : d ≤ now)
  (nt0_1 : @Ne Nat dA dP)
  (nm0_0 : @Ne Nat xP dP)
  (nm0_1 : @Ne Nat lK dP)
  (nm0_2 : @Ne Nat xH dP)
  (nm0_3 : @Ne Nat dH dP)
  (nm0_4 : @Ne Nat xA dP)
  (nm1_0 : @Ne Nat xP dA)
  (nm1_1 : @Ne Nat lK dA)
  (nm1_2 : @Ne Nat xH dA)
  (nm1_3 : @Ne Nat dH dA)
  (nm1_4 : @Ne Nat xA dA)
  (hr0 : ∀ p ∈ rest, p.1 ≠ dP)
  (hr1 : ∀ p ∈ rest, p.1 ≠ dA)
  (F : Fr g L s.heap m)
  (N : News g L s.heap ((dP, oP) :: (dA, oA) :: (xP, instObj 243 dP) :: (lK, listOf #[.ref xH, .ref xA] nK) :: (xH, instObj 126 dH) :: (dH, oH) :: (xA, instObj 126 dA) :: rest))
  (h : ∀ oP' oA' lc' tr tk' h', (∀ p ∈ rest, p.1 < lc') → @LT.lt Nat _ dP lc' → @LT.lt Nat _ dA lc' → PathsO w.params oP' lK xH xH num la → PathO w.params oA' "away" "failed" false recv lc' .none false → Fr g L h' m → News g L h' ((lc', listOf #[] 0) :: (dP, oP') :: (dA, oA') :: rest) → Q (.str (Str.ofString "back") tr) { s with heap := h', toks := tk' })
  (X : (kF w.params).In g) :
  wpAny (MP w) (callerA.deeper (envOf (Str.ofString "law") lawScope L fa (Value.ref 432))) (PySem.call (.ref 240) [.ref xP, .int now u1]) Q E s := by
  revert X
  dsimp only [MP]
  k_fill
  intro X
  generalize hs : lawScope = sc
  conv at hs => lhs; whnf
  subst hs
  dsimp only [looseP] at T
  repeat' (first | ((fail_if_success (with_reducible show wpAny _ _ _ _ _ _)); (refine h ?o ?o2 ?l _ _ _ ?f1 ?f2 ?f3 ?hP ?hA ?hF ?hN; (case hF => assumption); (case hN => exact News.subs (by assumption) (by lcg_sub)); (case hP => first | assumption | exact PathsO.mk ..); (case hA => first | assumption | exact PathO.mk ..); (case f1 => exact restLt (by assumption) (by lcg_sub)); (case f2 => exact ltOf (by assumption) (by k_mem)); (case f3 => exact ltOf (by assumption) (by k_mem)))) | (with_reducible exact absurd rfl (by assumption)) | (k_unfold; (try dsimp only)) | (k_end; wrow_close) | walk1 | (dsimp only; walk1) | (leave1; walk_say "STEP leave1"; try dsimp only) | fail "no step")

theorem otT_ct {w : World} {g : Heap} {L fa : Addr} {mg mb mean} {s : Shared} {Q : Value → Shared → Prop} {E : Value → Shared → Prop} {m : Str → Option Value} {dP xP dH xH lH lK dA xA lc la nK : Nat} {oA oH oP : Obj} {fr mo : Bool} {recv num d now : Int} {u1 td : Tok} {rest : List (Addr × Obj)} {news : List (Addr × Obj)} {r0 : List (Addr × Obj)}
  (F : Fr g L s.heap m) (N : News g L s.heap news)
  (m1 : (xP, instObj 243 dP) ∈ news)
  (t : Take (dP, oP) news r0)
  (hP : PathsO w.params oP lK xA xH num la)
  (m3 : (lK, listOf #[.ref xH, .ref xA] nK) ∈ news)
  (m4 : (xH, instObj 126 dH) ∈ news)
  (m5 : (dH, oH) ∈ news)
  (hH : PathO w.params oH "home" "proven" true 0 lH .none false)
  (m6 : (xA, instObj 126 dA) ∈ news)
  (t2 : Take (dA, oA) r0 rest)
  (hA : PathO w.params oA "away" "trying" fr recv lc (.int d td) mo)
  (hdn : d ≤ now)
  (nt0_1 : @Ne Nat dA dP)
  (nm0_0 : @Ne Nat xP dP)
  (nm0_1 : @Ne Nat lK dP)
  (nm0_2 : @Ne Nat xH dP)
  (nm0_3 : @Ne Nat dH dP)
  (nm0_4 : @Ne Nat xA dP)
  (nm1_0 : @Ne Nat xP dA)
  (nm1_1 : @Ne Nat lK dA)
  (nm1_2 : @Ne Nat xH dA)
  (nm1_3 : @Ne Nat dH dA)
  (nm1_4 : @Ne Nat xA dA)
  (hr0 : ∀ p ∈ rest, p.1 ≠ dP)
  (hr1 : ∀ p ∈ rest, p.1 ≠ dA)
  (T : Top topProg looseP mean mg mb g) (K0 : Below callerA g [] g) (X : (kF w.params).In g)
  (h : ∀ oP' oA' lc' tr tk' h', (∀ p ∈ rest, p.1 < lc') → @LT.lt Nat _ dP lc' → @LT.lt Nat _ dA lc' → PathsO w.params oP' lK xH xH num la → PathO w.params oA' "away" "failed" false recv lc' .none false → Fr g L h' m → News g L h' ((lc', listOf #[] 0) :: (dP, oP') :: (dA, oA') :: rest) → Q (.str (Str.ofString "back") tr) { s with heap := h', toks := tk' }) :
  wpAny (MP w) (callerA.deeper (envOf (Str.ofString "law") lawScope L fa (Value.ref 432))) (PySem.call (.ref 240) [.ref xP, .int now u1]) Q E s := by
  have hall : ∀ q, (q = (dP, oP) ∨ q = (dA, oA) ∨ q ∈ rest) → q ∈ news := by
    intro q hq
    rcases hq with rfl | hq
    · exact t.sub _ (.inl rfl)
    rcases hq with rfl | hq
    · exact t.sub _ (.inr (t2.sub _ (.inl rfl)))
    exact t.sub _ (.inr (t2.sub _ (.inr hq)))
  refine otT_ct0 (dP := dP) (xP := xP) (dH := dH) (xH := xH) (lH := lH) (lK := lK) (dA := dA) (xA := xA) (lc := lc) (la := la) (nK := nK) (oA := oA) (oH := oH) (oP := oP) (fr := fr) (mo := mo) (recv := recv) (num := num) (d := d) (now := now) (u1 := u1) (td := td) (rest := rest) T K0 hP hH hA hdn nt0_1 nm0_0 nm0_1 nm0_2 nm0_3 nm0_4 nm1_0 nm1_1 nm1_2 nm1_3 nm1_4 hr0 hr1 F (fun p hp => N p ?_) h X
  rcases List.mem_cons.mp hp with rfl | hp
  · exact hall _ (.inl rfl)
  rcases List.mem_cons.mp hp with rfl | hp
  · exact hall _ (.inr (.inl rfl))
  rcases List.mem_cons.mp hp with rfl | hp
  · exact m1
  rcases List.mem_cons.mp hp with rfl | hp
  · exact m3
  rcases List.mem_cons.mp hp with rfl | hp
  · exact m4
  rcases List.mem_cons.mp hp with rfl | hp
  · exact m5
  rcases List.mem_cons.mp hp with rfl | hp
  · exact m6
  exact hall _ (.inr (.inr hp))
set_option maxRecDepth 100000 in
set_option maxHeartbeats 0 in
theorem otP_ct0 {w : World} {g : Heap} {L fa : Addr} {mg mb mean} {s : Shared} {Q : Value → Shared → Prop} {E : Value → Shared → Prop} {m : Str → Option Value} {dP xP dH xH lH lK dA xA lc la last nK : Nat} {oA oH oP : Obj} {fr mo : Bool} {recv num now : Int} {u1 : Tok} {rest : List (Addr × Obj)}
  (T : Top topProg looseP mean mg mb g) (K0 : Below callerA g [] g)
  (hP : PathsO w.params oP lK xA last num la)
  (hH : PathO w.params oH "home" "proven" true 0 lH .none false)
  (hA : PathO w.params oA "away" "proven" fr recv lc .none mo)
  (F : Fr g L s.heap m)
  (N : News g L s.heap ((xP, instObj 243 dP) :: (dP, oP) :: (lK, listOf #[.ref xH, .ref xA] nK) :: (xH, instObj 126 dH) :: (dH, oH) :: (xA, instObj 126 dA) :: (dA, oA) :: rest))
  (h : ∀ tr tk' h', Fr g L h' m → News g L h' rest → Q (.str (Str.ofString "same") tr) { s with heap := h', toks := tk' })
  (X : (kF w.params).In g) :
  wpAny (MP w) (callerA.deeper (envOf (Str.ofString "law") lawScope L fa (Value.ref 432))) (PySem.call (.ref 240) [.ref xP, .int now u1]) Q E s := by
  revert X
  dsimp only [MP]
  k_fill
  intro X
  generalize hs : lawScope = sc
  conv at hs => lhs; whnf
  subst hs
  dsimp only [looseP] at T
  repeat' (first | ((fail_if_success (with_reducible show wpAny _ _ _ _ _ _)); (refine h _ _ _ ?hF ?hN; (case hF => assumption); (case hN => exact News.subs (by assumption) (by lcg_sub)))) | (with_reducible exact absurd rfl (by assumption)) | (k_unfold; (try dsimp only)) | (k_end; wrow_close) | walk1 | (dsimp only; walk1) | (leave1; walk_say "STEP leave1"; try dsimp only) | fail "no step")

theorem otP_ct {w : World} {g : Heap} {L fa : Addr} {mg mb mean} {s : Shared} {Q : Value → Shared → Prop} {E : Value → Shared → Prop} {m : Str → Option Value} {dP xP dH xH lH lK dA xA lc la last nK : Nat} {oA oH oP : Obj} {fr mo : Bool} {recv num now : Int} {u1 : Tok} {rest : List (Addr × Obj)} 
  (F : Fr g L s.heap m) (N : News g L s.heap rest)
  (m1 : (xP, instObj 243 dP) ∈ rest)
  (t : (dP, oP) ∈ rest)
  (hP : PathsO w.params oP lK xA last num la)
  (m3 : (lK, listOf #[.ref xH, .ref xA] nK) ∈ rest)
  (m4 : (xH, instObj 126 dH) ∈ rest)
  (m5 : (dH, oH) ∈ rest)
  (hH : PathO w.params oH "home" "proven" true 0 lH .none false)
  (m6 : (xA, instObj 126 dA) ∈ rest)
  (t2 : (dA, oA) ∈ rest)
  (hA : PathO w.params oA "away" "proven" fr recv lc .none mo)
  (T : Top topProg looseP mean mg mb g) (K0 : Below callerA g [] g) (X : (kF w.params).In g)
  (h : ∀ tr tk' h', Fr g L h' m → News g L h' rest → Q (.str (Str.ofString "same") tr) { s with heap := h', toks := tk' }) :
  wpAny (MP w) (callerA.deeper (envOf (Str.ofString "law") lawScope L fa (Value.ref 432))) (PySem.call (.ref 240) [.ref xP, .int now u1]) Q E s := by
  refine otP_ct0 (dP := dP) (xP := xP) (dH := dH) (xH := xH) (lH := lH) (lK := lK) (dA := dA) (xA := xA) (lc := lc) (la := la) (last := last) (nK := nK) (oA := oA) (oH := oH) (oP := oP) (fr := fr) (mo := mo) (recv := recv) (num := num) (now := now) (u1 := u1) (rest := rest) T K0 hP hH hA F (fun p hp => N p ?_) h X
  rcases List.mem_cons.mp hp with rfl | hp
  · exact m1
  rcases List.mem_cons.mp hp with rfl | hp
  · exact t
  rcases List.mem_cons.mp hp with rfl | hp
  · exact m3
  rcases List.mem_cons.mp hp with rfl | hp
  · exact m4
  rcases List.mem_cons.mp hp with rfl | hp
  · exact m5
  rcases List.mem_cons.mp hp with rfl | hp
  · exact m6
  rcases List.mem_cons.mp hp with rfl | hp
  · exact t2
  exact hp
set_option maxRecDepth 100000 in
set_option maxHeartbeats 0 in
theorem spN_ct0 {w : World} {g : Heap} {L fa : Addr} {mg mb mean} {s : Shared} {Q : Value → Shared → Prop} {E : Value → Shared → Prop} {m : Str → Option Value}   {nm : String} {u1 : Tok} {rest : List (Addr × Obj)}
  (T : Top topProg looseP mean mg mb g) (K0 : Below callerA g [] g)
  (F : Fr g L s.heap m)
  (N : News g L s.heap (rest))
  (h : ∀ xN dN oN tk' h', (∀ p ∈ rest, p.1 < dN) → @LT.lt Nat _ dN xN → SpaceO w.params oN nm → Fr g L h' m → News g L h' ((xN, instObj 410 dN) :: (dN, oN) :: rest) → Q (.ref xN) { s with heap := h', toks := tk' })
  (X : (kF w.params).In g) :
  wpAny (MP w) (callerA.deeper (envOf (Str.ofString "law") lawScope L fa (Value.ref 432))) (PySem.call (.ref 410) [.str (Str.ofString nm) u1]) Q E s := by
  revert X
  dsimp only [MP]
  k_fill
  intro X
  generalize hs : lawScope = sc
  conv at hs => lhs; whnf
  subst hs
  dsimp only [looseP] at T
  repeat' (first | ((fail_if_success (with_reducible show wpAny _ _ _ _ _ _)); (refine h ?x ?d ?o _ _ ?f1 ?f2 ?hO ?hF ?hN; (case hF => assumption); (case hN => exact News.subs (by assumption) (by lcg_sub)); (case hO => exact SpaceO.mk ..); (case f1 => first | assumption | exact restLt (by assumption) (by lcg_sub)); (case f2 => first | assumption | exact ltOf (by assumption) (by k_mem)))) | (with_reducible exact absurd rfl (by assumption)) | (k_unfold; (try dsimp only)) | (k_end; wrow_close) | walk1 | (dsimp only; walk1) | (leave1; walk_say "STEP leave1"; try dsimp only) | fail "no step")

theorem spN_ct {w : World} {g : Heap} {L fa : Addr} {mg mb mean} {s : Shared} {Q : Value → Shared → Prop} {E : Value → Shared → Prop} {m : Str → Option Value}   {nm : String} {u1 : Tok} {rest : List (Addr × Obj)} 
  (F : Fr g L s.heap m) (N : News g L s.heap rest)
  (T : Top topProg looseP mean mg mb g) (K0 : Below callerA g [] g) (X : (kF w.params).In g)
  (h : ∀ xN dN oN tk' h', (∀ p ∈ rest, p.1 < dN) → @LT.lt Nat _ dN xN → SpaceO w.params oN nm → Fr g L h' m → News g L h' ((xN, instObj 410 dN) :: (dN, oN) :: rest) → Q (.ref xN) { s with heap := h', toks := tk' }) :
  wpAny (MP w) (callerA.deeper (envOf (Str.ofString "law") lawScope L fa (Value.ref 432))) (PySem.call (.ref 410) [.str (Str.ofString nm) u1]) Q E s := by
  refine spN_ct0 (nm := nm) (u1 := u1) (rest := rest) T K0  F (fun p hp => N p ?_) h X
  exact hp
set_option maxRecDepth 100000 in
set_option maxHeartbeats 0 in
theorem psN_ct0 {w : World} {g : Heap} {L fa : Addr} {mg mb mean} {s : Shared} {Q : Value → Shared → Prop} {E : Value → Shared → Prop} {m : Str → Option Value}   {u1 u2 : Tok} {rest : List (Addr × Obj)}
  (T : Top topProg looseP mean mg mb g) (K0 : Below callerA g [] g)
  (F : Fr g L s.heap m)
  (N : News g L s.heap (rest))
  (h : ∀ xP dP oP xH dH oH lH lK nK la tk' h', (∀ p ∈ rest, p.1 < dP) → @LT.lt Nat _ dP xP → @LT.lt Nat _ xP dH → @LT.lt Nat _ dH xH → @LT.lt Nat _ xH lH → @LT.lt Nat _ lH lK → PathsO w.params oP lK xH xH (-1) la → PathO w.params oH "home" "proven" true 0 lH .none false → Fr g L h' m → News g L h' [(lH, listOf #[] 0)] → News g L h' ((lK, listOf #[.ref xH] nK) :: (xH, instObj 126 dH) :: (dH, oH) :: (xP, instObj 243 dP) :: (dP, oP) :: rest) → Q (.ref xP) { s with heap := h', toks := tk' })
  (X : (kF w.params).In g) :
  wpAny (MP w) (callerA.deeper (envOf (Str.ofString "law") lawScope L fa (Value.ref 432))) (PySem.call (.ref 243) [.str (Str.ofString "server") u1, .str (Str.ofString "home") u2, .bool true, .bool true]) Q E s := by
  revert X
  dsimp only [MP]
  k_fill
  intro X
  generalize hs : lawScope = sc
  conv at hs => lhs; whnf
  subst hs
  dsimp only [looseP] at T
  repeat' (first | ((fail_if_success (with_reducible show wpAny _ _ _ _ _ _)); (refine h ?xP ?dP ?oP ?xH ?dH ?oH ?lH ?lK ?nK ?la _ _ ?f1 ?f2 ?f3 ?f4 ?f5 ?f6 ?hP ?hH ?hF ?hL ?hN; (case hF => assumption); (case hN => exact News.subs (by assumption) (by lcg_sub)); (case hP => exact PathsO.mk ..); (case hH => exact PathO.mk ..); (case hL => exact News.subs (by assumption) (by lcg_sub)); (case f1 => first | assumption | exact restLt (by assumption) (by lcg_sub)); all_goals first | assumption | exact ltOf (by assumption) (by k_mem))) | (with_reducible exact absurd rfl (by assumption)) | (k_unfold; (try dsimp only)) | (k_end; wrow_close) | walk1 | (dsimp only; walk1) | (leave1; walk_say "STEP leave1"; try dsimp only) | fail "no step")

theorem psN_ct {w : World} {g : Heap} {L fa : Addr} {mg mb mean} {s : Shared} {Q : Value → Shared → Prop} {E : Value → Shared → Prop} {m : Str → Option Value}   {u1 u2 : Tok} {rest : List (Addr × Obj)} 
  (F : Fr g L s.heap m) (N : News g L s.heap rest)
  (T : Top topProg looseP mean mg mb g) (K0 : Below callerA g [] g) (X : (kF w.params).In g)
  (h : ∀ xP dP oP xH dH oH lH lK nK la tk' h', (∀ p ∈ rest, p.1 < dP) → @LT.lt Nat _ dP xP → @LT.lt Nat _ xP dH → @LT.lt Nat _ dH xH → @LT.lt Nat _ xH lH → @LT.lt Nat _ lH lK → PathsO w.params oP lK xH xH (-1) la → PathO w.params oH "home" "proven" true 0 lH .none false → Fr g L h' m → News g L h' [(lH, listOf #[] 0)] → News g L h' ((lK, listOf #[.ref xH] nK) :: (xH, instObj 126 dH) :: (dH, oH) :: (xP, instObj 243 dP) :: (dP, oP) :: rest) → Q (.ref xP) { s with heap := h', toks := tk' }) :
  wpAny (MP w) (callerA.deeper (envOf (Str.ofString "law") lawScope L fa (Value.ref 432))) (PySem.call (.ref 243) [.str (Str.ofString "server") u1, .str (Str.ofString "home") u2, .bool true, .bool true]) Q E s := by
  refine psN_ct0 (u1 := u1) (u2 := u2) (rest := rest) T K0  F (fun p hp => N p ?_) h X
  exact hp
set_option maxRecDepth 100000 in
set_option maxHeartbeats 0 in
theorem pfNA_ct0 {w : World} {g : Heap} {L fa : Addr} {mg mb mean} {s : Shared} {Q : Value → Shared → Prop} {E : Value → Shared → Prop} {m : Str → Option Value} {xC dC xP dP xA dA lK lc la last fW fC n ka xS dS cW cC tA kt : Nat} {oC oP oA oS ocW ocC : Obj} {fr mo fl : Bool} {recv num now : Int} {dl : Value} {u1 : Tok} {ta tb : Tok} {b : Array UInt8} {tW tC : Tok} {vsW vsC : Array Value} {ctW ctC : Value} {rest : List (Addr × Obj)}
  (T : Top topProg looseP mean mg mb g) (K0 : Below callerA g [] g) (CH : CodeHd g 432 430)
  (hC : ConnO w.params oC xP xS fW fC (n : Int) fl)
  (hP : PathsO w.params oP lK xA last num la)
  (hS : ShakeO w.params oS)
  (hA : PathO w.params oA "away" "unproven" fr recv lc dl mo)
  (d1 : ocW.data = Data.fields vsW)
  (d2 : vsW[1]? = some (Value.str ((envOf (Str.ofString "law") lawScope L fa (Value.ref 432)).qual ++ Str.ofString "<lambda>") tW))
  (d3 : ocC.data = Data.fields vsC)
  (d4 : vsC[1]? = some (Value.str ((envOf (Str.ofString "law") lawScope L fa (Value.ref 432)).qual ++ Str.ofString "<lambda>") tC))
  (hn : n < 100)
  (hw : 0 ≤ now)
  (hw2 : now ≤ 10000)
  (nt0_1 : @Ne Nat dP dC)
  (nt0_2 : @Ne Nat dA dC)
  (nm0_0 : @Ne Nat xC dC)
  (nm0_1 : @Ne Nat xP dC)
  (nm0_2 : @Ne Nat xS dC)
  (nm0_3 : @Ne Nat dS dC)
  (nm0_4 : @Ne Nat xA dC)
  (nm0_5 : @Ne Nat la dC)
  (nm0_6 : @Ne Nat tA dC)
  (nm0_7 : @Ne Nat fW dC)
  (nm0_8 : @Ne Nat cW dC)
  (nm0_9 : @Ne Nat fC dC)
  (nm0_10 : @Ne Nat cC dC)
  (nt1_2 : @Ne Nat dA dP)
  (nm1_0 : @Ne Nat xC dP)
  (nm1_1 : @Ne Nat xP dP)
  (nm1_2 : @Ne Nat xS dP)
  (nm1_3 : @Ne Nat dS dP)
  (nm1_4 : @Ne Nat xA dP)
  (nm1_5 : @Ne Nat la dP)
  (nm1_6 : @Ne Nat tA dP)
  (nm1_7 : @Ne Nat fW dP)
  (nm1_8 : @Ne Nat cW dP)
  (nm1_9 : @Ne Nat fC dP)
  (nm1_10 : @Ne Nat cC dP)
  (nm2_0 : @Ne Nat xC dA)
  (nm2_1 : @Ne Nat xP dA)
  (nm2_2 : @Ne Nat xS dA)
  (nm2_3 : @Ne Nat dS dA)
  (nm2_4 : @Ne Nat xA dA)
  (nm2_5 : @Ne Nat la dA)
  (nm2_6 : @Ne Nat tA dA)
  (nm2_7 : @Ne Nat fW dA)
  (nm2_8 : @Ne Nat cW dA)
  (nm2_9 : @Ne Nat fC dA)
  (nm2_10 : @Ne Nat cC dA)
  (hr0 : ∀ p ∈ rest, p.1 ≠ dC)
  (hr1 : ∀ p ∈ rest, p.1 ≠ dP)
  (hr2 : ∀ p ∈ rest, p.1 ≠ dA)
  (F : Fr g L s.heap m)
  (N : News g L s.heap ((dC, oC) :: (dP, oP) :: (dA, oA) :: (xC, instObj 410 dC) :: (xP, instObj 243 dP) :: (xS, instObj 410 dS) :: (dS, oS) :: (xA, instObj 126 dA) :: (la, listOf #[.ref tA] ka) :: (tA, pairO (Str.ofString "away") ta b tb kt) :: (fW, kla_obj (Str.ofString "<lambda>") ((envOf (Str.ofString "law") lawScope L fa (Value.ref 432)).qual ++ Str.ofString "<lambda>") (lamOf 2).1 (lamOf 2).2.1 (lamOf 2).2.2 [] ((mg (Str.ofString "__name__")).getD Value.none) cW ctW) :: (cW, ocW) :: (fC, kla_obj (Str.ofString "<lambda>") ((envOf (Str.ofString "law") lawScope L fa (Value.ref 432)).qual ++ Str.ofString "<lambda>") (lamOf 3).1 (lamOf 3).2.1 (lamOf 3).2.2 [] ((mg (Str.ofString "__name__")).getD Value.none) cC ctC) :: (cC, ocC) :: rest))
  (h : ∀ oC' oP' oA' D T2 T1 la' lc' nD kl kc x1 x2 x3 x4 y1 y2 y3 dl' td' tk' h', (∀ p ∈ rest, p.1 ≠ D) → @Ne Nat dC D → @Ne Nat dP D → @Ne Nat dA D → (∀ p ∈ rest, p.1 ≠ T2) → @Ne Nat dC T2 → @Ne Nat dP T2 → @Ne Nat dA T2 → (∀ p ∈ rest, p.1 ≠ T1) → @Ne Nat dC T1 → @Ne Nat dP T1 → @Ne Nat dA T1 → (∀ p ∈ rest, p.1 ≠ la') → @Ne Nat dC la' → @Ne Nat dP la' → @Ne Nat dA la' → (∀ p ∈ rest, p.1 ≠ lc') → @Ne Nat dC lc' → @Ne Nat dP lc' → @Ne Nat dA lc' → dl' = now + 150 → ConnO w.params oC' xP xS fW fC ((n : Int) + 1) true → PathsO w.params oP' lK xA last num la' → PathO w.params oA' "away" "trying" fr recv lc' (.int dl' td') false → Fr g L h' m → News g L h' ((D, listOf #[.ref T1, .ref T2] nD) :: (T2, pairO (Str.ofString "path_challenge") x1 (b8 (40 + (n : Int))) x2 x3) :: (T1, pairO (Str.ofString "path_response") y1 b y2 y3) :: (la', listOf #[] kl) :: (lc', listOf #[.bytes (b8 (40 + (n : Int))) x4] kc) :: (dC, oC') :: (dP, oP') :: (dA, oA') :: rest) → Q (.ref D) { s with heap := h', toks := tk' })
  (X : (kF w.params).In g) :
  wpAny (MP w) (callerA.deeper (envOf (Str.ofString "law") lawScope L fa (Value.ref 432))) (PySem.call (.ref 26) [.ref xC, .int now u1]) Q E s := by
  revert X
  dsimp only [MP]
  k_fill
  intro X
  generalize hs : lawScope = sc
  conv at hs => lhs; whnf
  subst hs
  dsimp only [looseP] at T
  generalize hw' : lamOf 2 = lw at N
  generalize hc' : lamOf 3 = lc' at N
  conv at hw' => lhs; whnf
  conv at hc' => lhs; whnf
  subst hw' hc'
  repeat' (first | ((fail_if_success (with_reducible show wpAny _ _ _ _ _ _)); (refine h ?oCqv ?oPqv ?oAqv ?Dv ?T2v ?T1v ?laqv ?lcqv ?nDv ?klv ?kcv ?x1v ?x2v ?x3v ?x4v ?y1v ?y2v ?y3v ?dlqv ?tdqv _ _ ?nfD0 ?nfDdC ?nfDdP ?nfDdA ?nfT20 ?nfT2dC ?nfT2dP ?nfT2dA ?nfT10 ?nfT1dC ?nfT1dP ?nfT1dA ?nflaq0 ?nflaqdC ?nflaqdP ?nflaqdA ?nflcq0 ?nflcqdC ?nflcqdP ?nflcqdA ?hdl ?hC ?hP ?hA ?hF ?hN; (case hF => assumption); (case hN => exact News.subs (by assumption) (by lcg_sub)); (case hA => assumption); (case hP => first | assumption | exact PathsO.mk ..); (case hC => assumption); (case hdl => assumption); (case nfD0 => k_all); (case nfDdC => k_ne); (case nfDdP => k_ne); (case nfDdA => k_ne); (case nfT20 => k_all); (case nfT2dC => k_ne); (case nfT2dP => k_ne); (case nfT2dA => k_ne); (case nfT10 => k_all); (case nfT1dC => k_ne); (case nfT1dP => k_ne); (case nfT1dA => k_ne); (case nflaq0 => k_all); (case nflaqdC => k_ne); (case nflaqdP => k_ne); (case nflaqdA => k_ne); (case nflcq0 => k_all); (case nflcqdC => k_ne); (case nflcqdP => k_ne); (case nflcqdA => k_ne))) | (with_reducible exact absurd rfl (by assumption)) | 
    ((with_reducible show wpAny _ _ (execs _ _) _ _ _); first
    | (k_here; (with_reducible show wpAny _ _ (execs [_, _, _] (envOfC (Str.ofString "path_frames") _ _ _ _)) _ _ _); k_dflt (refine' pf2N_w ?F ?N ?m1 ?t1 ?hC ?m2 ?m2b ?hP ?m3 ?m4 ?hS ?m5 ?t3 ?hA ?t4 ?m8 ?m9 ?m10 ?m11 ?d1 ?d2 ?d3 ?d4 ?hn ?hw ?hw2 ?hfs ?nt0_1 ?nt0_2 ?nm0_0 ?nm0_1 ?nm0_2 ?nm0_3 ?nm0_4 ?nm0_5 ?nm0_6 ?nm0_7 ?nm0_8 ?nm0_9 ?nt1_2 ?nm1_0 ?nm1_1 ?nm1_2 ?nm1_3 ?nm1_4 ?nm1_5 ?nm1_6 ?nm1_7 ?nm1_8 ?nm1_9 ?nm2_0 ?nm2_1 ?nm2_2 ?nm2_3 ?nm2_4 ?nm2_5 ?nm2_6 ?nm2_7 ?nm2_8 ?nm2_9 ?hr0 ?hr1 ?hr2 ?T ?K0 ?CH ?X ?_; (case F => exact frPf (by k_asm) (by rfl) (by rfl) (by rfl)); (case N => k_asm); (case m1 => k_mem); (case t1 => k_offL); (case hC => first | assumption | exact ConnO.zero .. | exact ConnO.again .. | exact PathsO.mk .. | exact PathO.mk ..); (case m2 => k_mem); (case m2b => k_mem); (case hP => first | assumption | exact ConnO.zero .. | exact ConnO.again .. | exact PathsO.mk .. | exact PathO.mk ..); (case m3 => k_mem); (case m4 => k_mem); (case hS => first | assumption | exact ConnO.zero .. | exact ConnO.again .. | exact PathsO.mk .. | exact PathO.mk ..); (case m5 => k_mem); (case t3 => k_offL); (case hA => first | assumption | exact ConnO.zero .. | exact ConnO.again .. | exact PathsO.mk .. | exact PathO.mk ..); (case t4 => k_offL); (case m8 => k_mem); (case m9 => k_mem); (case m10 => k_mem); (case m11 => k_mem); (case d1 => first | assumption | exact ConnO.zero .. | exact ConnO.again .. | exact PathsO.mk .. | exact PathO.mk ..); (case d2 => first | assumption | exact ConnO.zero .. | exact ConnO.again .. | exact PathsO.mk .. | exact PathO.mk ..); (case d3 => first | assumption | exact ConnO.zero .. | exact ConnO.again .. | exact PathsO.mk .. | exact PathO.mk ..); (case d4 => first | assumption | exact ConnO.zero .. | exact ConnO.again .. | exact PathsO.mk .. | exact PathO.mk ..); (case hn => first | assumption | exact Nat.le_of_ble_eq_true rfl | omega); (case hw => first | assumption | exact Nat.le_of_ble_eq_true rfl | omega); (case hw2 => first | assumption | exact Nat.le_of_ble_eq_true rfl | omega); (case hfs => first | assumption | exact Nat.le_of_ble_eq_true rfl | omega); (case nt0_1 => k_ne); (case nt0_2 => k_ne); (case nm0_0 => k_ne); (case nm0_1 => k_ne); (case nm0_2 => k_ne); (case nm0_3 => k_ne); (case nm0_4 => k_ne); (case nm0_5 => k_ne); (case nm0_6 => k_ne); (case nm0_7 => k_ne); (case nm0_8 => k_ne); (case nm0_9 => k_ne); (case nt1_2 => k_ne); (case nm1_0 => k_ne); (case nm1_1 => k_ne); (case nm1_2 => k_ne); (case nm1_3 => k_ne); (case nm1_4 => k_ne); (case nm1_5 => k_ne); (case nm1_6 => k_ne); (case nm1_7 => k_ne); (case nm1_8 => k_ne); (case nm1_9 => k_ne); (case nm2_0 => k_ne); (case nm2_1 => k_ne); (case nm2_2 => k_ne); (case nm2_3 => k_ne); (case nm2_4 => k_ne); (case nm2_5 => k_ne); (case nm2_6 => k_ne); (case nm2_7 => k_ne); (case nm2_8 => k_ne); (case nm2_9 => k_ne); (case hr0 => k_all); (case hr1 => k_all); (case hr2 => k_all); (case T => assumption); (case K0 => assumption); (case CH => assumption); (case X => assumption); k_whole); intro oC' oA' T2 lc' nD' kc x1 x2 x3 x4 dl' td' m' tk' h' nfT20 nfT2dC nfT2dA nfT2D nflcq0 nflcqdC nflcqdA nflcqD hdl2 hC' hA' F' N'; (try k_sweep))) | (k_unfold; (try dsimp only)) | (k_end; wrow_close) | walk1 | (dsimp only; walk1) | (leave1; walk_say "STEP leave1"; try dsimp only) | fail "no step")

theorem pfNA_ct {w : World} {g : Heap} {L fa : Addr} {mg mb mean} {s : Shared} {Q : Value → Shared → Prop} {E : Value → Shared → Prop} {m : Str → Option Value} {xC dC xP dP xA dA lK lc la last fW fC n ka xS dS cW cC tA kt : Nat} {oC oP oA oS ocW ocC : Obj} {fr mo fl : Bool} {recv num now : Int} {dl : Value} {u1 : Tok} {ta tb : Tok} {b : Array UInt8} {tW tC : Tok} {vsW vsC : Array Value} {ctW ctC : Value} {rest : List (Addr × Obj)} {news : List (Addr × Obj)} {r0 : List (Addr × Obj)} {r1 : List (Addr × Obj)}
  (F : Fr g L s.heap m) (N : News g L s.heap news)
  (m1 : (xC, instObj 410 dC) ∈ news)
  (t1 : Take (dC, oC) news r0)
  (hC : ConnO w.params oC xP xS fW fC (n : Int) fl)
  (m2 : (xP, instObj 243 dP) ∈ news)
  (t2 : Take (dP, oP) r0 r1)
  (hP : PathsO w.params oP lK xA last num la)
  (m3 : (xS, instObj 410 dS) ∈ news)
  (m4 : (dS, oS) ∈ news)
  (hS : ShakeO w.params oS)
  (m5 : (xA, instObj 126 dA) ∈ news)
  (t3 : Take (dA, oA) r1 rest)
  (hA : PathO w.params oA "away" "unproven" fr recv lc dl mo)
  (m6 : (la, listOf #[.ref tA] ka) ∈ news)
  (m7 : (tA, pairO (Str.ofString "away") ta b tb kt) ∈ news)
  (m8 : (fW, kla_obj (Str.ofString "<lambda>") ((envOf (Str.ofString "law") lawScope L fa (Value.ref 432)).qual ++ Str.ofString "<lambda>") (lamOf 2).1 (lamOf 2).2.1 (lamOf 2).2.2 [] ((mg (Str.ofString "__name__")).getD Value.none) cW ctW) ∈ news)
  (m9 : (cW, ocW) ∈ news)
  (m10 : (fC, kla_obj (Str.ofString "<lambda>") ((envOf (Str.ofString "law") lawScope L fa (Value.ref 432)).qual ++ Str.ofString "<lambda>") (lamOf 3).1 (lamOf 3).2.1 (lamOf 3).2.2 [] ((mg (Str.ofString "__name__")).getD Value.none) cC ctC) ∈ news)
  (m11 : (cC, ocC) ∈ news)
  (d1 : ocW.data = Data.fields vsW)
  (d2 : vsW[1]? = some (Value.str ((envOf (Str.ofString "law") lawScope L fa (Value.ref 432)).qual ++ Str.ofString "<lambda>") tW))
  (d3 : ocC.data = Data.fields vsC)
  (d4 : vsC[1]? = some (Value.str ((envOf (Str.ofString "law") lawScope L fa (Value.ref 432)).qual ++ Str.ofString "<lambda>") tC))
  (hn : n < 100)
  (hw : 0 ≤ now)
  (hw2 : now ≤ 10000)
  (nt0_1 : @Ne Nat dP dC)
  (nt0_2 : @Ne Nat dA dC)
  (nm0_0 : @Ne Nat xC dC)
  (nm0_1 : @Ne Nat xP dC)
  (nm0_2 : @Ne Nat xS dC)
  (nm0_3 : @Ne Nat dS dC)
  (nm0_4 : @Ne Nat xA dC)
  (nm0_5 : @Ne Nat la dC)
  (nm0_6 : @Ne Nat tA dC)
  (nm0_7 : @Ne Nat fW dC)
  (nm0_8 : @Ne Nat cW dC)
  (nm0_9 : @Ne Nat fC dC)
  (nm0_10 : @Ne Nat cC dC)
  (nt1_2 : @Ne Nat dA dP)
  (nm1_0 : @Ne Nat xC dP)
  (nm1_1 : @Ne Nat xP dP)
  (nm1_2 : @Ne Nat xS dP)
  (nm1_3 : @Ne Nat dS dP)
  (nm1_4 : @Ne Nat xA dP)
  (nm1_5 : @Ne Nat la dP)
  (nm1_6 : @Ne Nat tA dP)
  (nm1_7 : @Ne Nat fW dP)
  (nm1_8 : @Ne Nat cW dP)
  (nm1_9 : @Ne Nat fC dP)
  (nm1_10 : @Ne Nat cC dP)
  (nm2_0 : @Ne Nat xC dA)
  (nm2_1 : @Ne Nat xP dA)
  (nm2_2 : @Ne Nat xS dA)
  (nm2_3 : @Ne Nat dS dA)
  (nm2_4 : @Ne Nat xA dA)
  (nm2_5 : @Ne Nat la dA)
  (nm2_6 : @Ne Nat tA dA)
  (nm2_7 : @Ne Nat fW dA)
  (nm2_8 : @Ne Nat cW dA)
  (nm2_9 : @Ne Nat fC dA)
  (nm2_10 : @Ne Nat cC dA)
  (hr0 : ∀ p ∈ rest, p.1 ≠ dC)
  (hr1 : ∀ p ∈ rest, p.1 ≠ dP)
  (hr2 : ∀ p ∈ rest, p.1 ≠ dA)
  (T : Top topProg looseP mean mg mb g) (K0 : Below callerA g [] g) (CH : CodeHd g 432 430) (X : (kF w.params).In g)
  (h : ∀ oC' oP' oA' D T2 T1 la' lc' nD kl kc x1 x2 x3 x4 y1 y2 y3 dl' td' tk' h', (∀ p ∈ rest, p.1 ≠ D) → @Ne Nat dC D → @Ne Nat dP D → @Ne Nat dA D → (∀ p ∈ rest, p.1 ≠ T2) → @Ne Nat dC T2 → @Ne Nat dP T2 → @Ne Nat dA T2 → (∀ p ∈ rest, p.1 ≠ T1) → @Ne Nat dC T1 → @Ne Nat dP T1 → @Ne Nat dA T1 → (∀ p ∈ rest, p.1 ≠ la') → @Ne Nat dC la' → @Ne Nat dP la' → @Ne Nat dA la' → (∀ p ∈ rest, p.1 ≠ lc') → @Ne Nat dC lc' → @Ne Nat dP lc' → @Ne Nat dA lc' → dl' = now + 150 → ConnO w.params oC' xP xS fW fC ((n : Int) + 1) true → PathsO w.params oP' lK xA last num la' → PathO w.params oA' "away" "trying" fr recv lc' (.int dl' td') false → Fr g L h' m → News g L h' ((D, listOf #[.ref T1, .ref T2] nD) :: (T2, pairO (Str.ofString "path_challenge") x1 (b8 (40 + (n : Int))) x2 x3) :: (T1, pairO (Str.ofString "path_response") y1 b y2 y3) :: (la', listOf #[] kl) :: (lc', listOf #[.bytes (b8 (40 + (n : Int))) x4] kc) :: (dC, oC') :: (dP, oP') :: (dA, oA') :: rest) → Q (.ref D) { s with heap := h', toks := tk' }) :
  wpAny (MP w) (callerA.deeper (envOf (Str.ofString "law") lawScope L fa (Value.ref 432))) (PySem.call (.ref 26) [.ref xC, .int now u1]) Q E s := by
  have hall : ∀ q, (q = (dC, oC) ∨ q = (dP, oP) ∨ q = (dA, oA) ∨ q ∈ rest) → q ∈ news := by
    intro q hq
    rcases hq with rfl | hq
    · exact t1.sub _ (.inl rfl)
    rcases hq with rfl | hq
    · exact t1.sub _ (.inr (t2.sub _ (.inl rfl)))
    rcases hq with rfl | hq
    · exact t1.sub _ (.inr (t2.sub _ (.inr (t3.sub _ (.inl rfl)))))
    exact t1.sub _ (.inr (t2.sub _ (.inr (t3.sub _ (.inr hq)))))
  refine pfNA_ct0 (xC := xC) (dC := dC) (xP := xP) (dP := dP) (xA := xA) (dA := dA) (lK := lK) (lc := lc) (la := la) (last := last) (fW := fW) (fC := fC) (n := n) (ka := ka) (xS := xS) (dS := dS) (cW := cW) (cC := cC) (tA := tA) (kt := kt) (oC := oC) (oP := oP) (oA := oA) (oS := oS) (ocW := ocW) (ocC := ocC) (fr := fr) (mo := mo) (fl := fl) (recv := recv) (num := num) (now := now) (dl := dl) (u1 := u1) (ta := ta) (tb := tb) (b := b) (tW := tW) (tC := tC) (vsW := vsW) (vsC := vsC) (ctW := ctW) (ctC := ctC) (rest := rest) T K0 CH hC hP hS hA d1 d2 d3 d4 hn hw hw2 nt0_1 nt0_2 nm0_0 nm0_1 nm0_2 nm0_3 nm0_4 nm0_5 nm0_6 nm0_7 nm0_8 nm0_9 nm0_10 nt1_2 nm1_0 nm1_1 nm1_2 nm1_3 nm1_4 nm1_5 nm1_6 nm1_7 nm1_8 nm1_9 nm1_10 nm2_0 nm2_1 nm2_2 nm2_3 nm2_4 nm2_5 nm2_6 nm2_7 nm2_8 nm2_9 nm2_10 hr0 hr1 hr2 F (fun p hp => N p ?_) h X
  rcases List.mem_cons.mp hp with rfl | hp
  · exact hall _ (.inl rfl)
  rcases List.mem_cons.mp hp with rfl | hp
  · exact hall _ (.inr (.inl rfl))
  rcases List.mem_cons.mp hp with rfl | hp
  · exact hall _ (.inr (.inr (.inl rfl)))
  rcases List.mem_cons.mp hp with rfl | hp
  · exact m1
  rcases List.mem_cons.mp hp with rfl | hp
  · exact m2
  rcases List.mem_cons.mp hp with rfl | hp
  · exact m3
  rcases List.mem_cons.mp hp with rfl | hp
  · exact m4
  rcases List.mem_cons.mp hp with rfl | hp
  · exact m5
  rcases List.mem_cons.mp hp with rfl | hp
  · exact m6
  rcases List.mem_cons.mp hp with rfl | hp
  · exact m7
  rcases List.mem_cons.mp hp with rfl | hp
  · exact m8
  rcases List.mem_cons.mp hp with rfl | hp
  · exact m9
  rcases List.mem_cons.mp hp with rfl | hp
  · exact m10
  rcases List.mem_cons.mp hp with rfl | hp
  · exact m11
  exact hall _ (.inr (.inr (.inr hp)))
set_option maxRecDepth 100000 in
set_option maxHeartbeats 0 in
theorem pfNH_ct0 {w : World} {g : Heap} {L fa : Addr} {mg mb mean} {s : Shared} {Q : Value → Shared → Prop} {E : Value → Shared → Prop} {m : Str → Option Value} {xC dC xP dP xA dA lK lc la last fW fC n ka xS dS cW cC tA kt : Nat} {oC oP oA oS ocW ocC : Obj} {fr mo fl : Bool} {recv num now : Int} {dl : Value} {u1 : Tok} {ta tb : Tok} {b : Array UInt8} {tW tC : Tok} {vsW vsC : Array Value} {ctW ctC : Value} {rest : List (Addr × Obj)}
  (T : Top topProg looseP mean mg mb g) (K0 : Below callerA g [] g) (CH : CodeHd g 432 430)
  (hC : ConnO w.params oC xP xS fW fC (n : Int) fl)
  (hP : PathsO w.params oP lK xA last num la)
  (hS : ShakeO w.params oS)
  (hA : PathO w.params oA "away" "unproven" fr recv lc dl mo)
  (d1 : ocW.data = Data.fields vsW)
  (d2 : vsW[1]? = some (Value.str ((envOf (Str.ofString "law") lawScope L fa (Value.ref 432)).qual ++ Str.ofString "<lambda>") tW))
  (d3 : ocC.data = Data.fields vsC)
  (d4 : vsC[1]? = some (Value.str ((envOf (Str.ofString "law") lawScope L fa (Value.ref 432)).qual ++ Str.ofString "<lambda>") tC))
  (hn : n < 100)
  (hw : 0 ≤ now)
  (hw2 : now ≤ 10000)
  (nt0_1 : @Ne Nat dP dC)
  (nt0_2 : @Ne Nat dA dC)
  (nm0_0 : @Ne Nat xC dC)
  (nm0_1 : @Ne Nat xP dC)
  (nm0_2 : @Ne Nat xS dC)
  (nm0_3 : @Ne Nat dS dC)
  (nm0_4 : @Ne Nat xA dC)
  (nm0_5 : @Ne Nat la dC)
  (nm0_6 : @Ne Nat tA dC)
  (nm0_7 : @Ne Nat fW dC)
  (nm0_8 : @Ne Nat cW dC)
  (nm0_9 : @Ne Nat fC dC)
  (nm0_10 : @Ne Nat cC dC)
  (nt1_2 : @Ne Nat dA dP)
  (nm1_0 : @Ne Nat xC dP)
  (nm1_1 : @Ne Nat xP dP)
  (nm1_2 : @Ne Nat xS dP)
  (nm1_3 : @Ne Nat dS dP)
  (nm1_4 : @Ne Nat xA dP)
  (nm1_5 : @Ne Nat la dP)
  (nm1_6 : @Ne Nat tA dP)
  (nm1_7 : @Ne Nat fW dP)
  (nm1_8 : @Ne Nat cW dP)
  (nm1_9 : @Ne Nat fC dP)
  (nm1_10 : @Ne Nat cC dP)
  (nm2_0 : @Ne Nat xC dA)
  (nm2_1 : @Ne Nat xP dA)
  (nm2_2 : @Ne Nat xS dA)
  (nm2_3 : @Ne Nat dS dA)
  (nm2_4 : @Ne Nat xA dA)
  (nm2_5 : @Ne Nat la dA)
  (nm2_6 : @Ne Nat tA dA)
  (nm2_7 : @Ne Nat fW dA)
  (nm2_8 : @Ne Nat cW dA)
  (nm2_9 : @Ne Nat fC dA)
  (nm2_10 : @Ne Nat cC dA)
  (hr0 : ∀ p ∈ rest, p.1 ≠ dC)
  (hr1 : ∀ p ∈ rest, p.1 ≠ dP)
  (hr2 : ∀ p ∈ rest, p.1 ≠ dA)
  (F : Fr g L s.heap m)
  (N : News g L s.heap ((dC, oC) :: (dP, oP) :: (dA, oA) :: (xC, instObj 410 dC) :: (xP, instObj 243 dP) :: (xS, instObj 410 dS) :: (dS, oS) :: (xA, instObj 126 dA) :: (la, listOf #[.ref tA] ka) :: (tA, pairO (Str.ofString "home") ta b tb kt) :: (fW, kla_obj (Str.ofString "<lambda>") ((envOf (Str.ofString "law") lawScope L fa (Value.ref 432)).qual ++ Str.ofString "<lambda>") (lamOf 2).1 (lamOf 2).2.1 (lamOf 2).2.2 [] ((mg (Str.ofString "__name__")).getD Value.none) cW ctW) :: (cW, ocW) :: (fC, kla_obj (Str.ofString "<lambda>") ((envOf (Str.ofString "law") lawScope L fa (Value.ref 432)).qual ++ Str.ofString "<lambda>") (lamOf 3).1 (lamOf 3).2.1 (lamOf 3).2.2 [] ((mg (Str.ofString "__name__")).getD Value.none) cC ctC) :: (cC, ocC) :: rest))
  (h : ∀ oC' oP' oA' D T2 la' lc' nD kl kc x1 x2 x3 x4 dl' td' tk' h', (∀ p ∈ rest, p.1 ≠ D) → @Ne Nat dC D → @Ne Nat dP D → @Ne Nat dA D → (∀ p ∈ rest, p.1 ≠ T2) → @Ne Nat dC T2 → @Ne Nat dP T2 → @Ne Nat dA T2 → (∀ p ∈ rest, p.1 ≠ la') → @Ne Nat dC la' → @Ne Nat dP la' → @Ne Nat dA la' → (∀ p ∈ rest, p.1 ≠ lc') → @Ne Nat dC lc' → @Ne Nat dP lc' → @Ne Nat dA lc' → dl' = now + 150 → ConnO w.params oC' xP xS fW fC ((n : Int) + 1) true → PathsO w.params oP' lK xA last num la' → PathO w.params oA' "away" "trying" fr recv lc' (.int dl' td') false → Fr g L h' m → News g L h' ((D, listOf #[.ref T2] nD) :: (T2, pairO (Str.ofString "path_challenge") x1 (b8 (40 + (n : Int))) x2 x3) :: (la', listOf #[.ref tA] kl) :: (lc', listOf #[.bytes (b8 (40 + (n : Int))) x4] kc) :: (dC, oC') :: (dP, oP') :: (dA, oA') :: rest) → Q (.ref D) { s with heap := h', toks := tk' })
  (X : (kF w.params).In g) :
  wpAny (MP w) (callerA.deeper (envOf (Str.ofString "law") lawScope L fa (Value.ref 432))) (PySem.call (.ref 26) [.ref xC, .int now u1]) Q E s := by
  revert X
  dsimp only [MP]
  k_fill
  intro X
  generalize hs : lawScope = sc
  conv at hs => lhs; whnf
  subst hs
  dsimp only [looseP] at T
  generalize hw' : lamOf 2 = lw at N
  generalize hc' : lamOf 3 = lc' at N
  conv at hw' => lhs; whnf
  conv at hc' => lhs; whnf
  subst hw' hc'
  repeat' (first | ((fail_if_success (with_reducible show wpAny _ _ _ _ _ _)); (refine h ?oCqv ?oPqv ?oAqv ?Dv ?T2v ?laqv ?lcqv ?nDv ?klv ?kcv ?x1v ?x2v ?x3v ?x4v ?dlqv ?tdqv _ _ ?nfD0 ?nfDdC ?nfDdP ?nfDdA ?nfT20 ?nfT2dC ?nfT2dP ?nfT2dA ?nflaq0 ?nflaqdC ?nflaqdP ?nflaqdA ?nflcq0 ?nflcqdC ?nflcqdP ?nflcqdA ?hdl ?hC ?hP ?hA ?hF ?hN; (case hF => assumption); (case hN => exact News.subs (by assumption) (by lcg_sub)); (case hA => assumption); (case hP => first | assumption | exact PathsO.mk ..); (case hC => assumption); (case hdl => assumption); (case nfD0 => k_all); (case nfDdC => k_ne); (case nfDdP => k_ne); (case nfDdA => k_ne); (case nfT20 => k_all); (case nfT2dC => k_ne); (case nfT2dP => k_ne); (case nfT2dA => k_ne); (case nflaq0 => k_all); (case nflaqdC => k_ne); (case nflaqdP => k_ne); (case nflaqdA => k_ne); (case nflcq0 => k_all); (case nflcqdC => k_ne); (case nflcqdP => k_ne); (case nflcqdA => k_ne))) | (with_reducible exact absurd rfl (by assumption)) | 
    ((with_reducible show wpAny _ _ (execs _ _) _ _ _); first
    | (k_here; (with_reducible show wpAny _ _ (execs [_, _, _] (envOfC (Str.ofString "path_frames") _ _ _ _)) _ _ _); k_dflt (refine' pf2N_w ?F ?N ?m1 ?t1 ?hC ?m2 ?m2b ?hP ?m3 ?m4 ?hS ?m5 ?t3 ?hA ?t4 ?m8 ?m9 ?m10 ?m11 ?d1 ?d2 ?d3 ?d4 ?hn ?hw ?hw2 ?hfs ?nt0_1 ?nt0_2 ?nm0_0 ?nm0_1 ?nm0_2 ?nm0_3 ?nm0_4 ?nm0_5 ?nm0_6 ?nm0_7 ?nm0_8 ?nm0_9 ?nt1_2 ?nm1_0 ?nm1_1 ?nm1_2 ?nm1_3 ?nm1_4 ?nm1_5 ?nm1_6 ?nm1_7 ?nm1_8 ?nm1_9 ?nm2_0 ?nm2_1 ?nm2_2 ?nm2_3 ?nm2_4 ?nm2_5 ?nm2_6 ?nm2_7 ?nm2_8 ?nm2_9 ?hr0 ?hr1 ?hr2 ?T ?K0 ?CH ?X ?_; (case F => exact frPf (by k_asm) (by rfl) (by rfl) (by rfl)); (case N => k_asm); (case m1 => k_mem); (case t1 => k_offL); (case hC => first | assumption | exact ConnO.zero .. | exact ConnO.again .. | exact PathsO.mk .. | exact PathO.mk ..); (case m2 => k_mem); (case m2b => k_mem); (case hP => first | assumption | exact ConnO.zero .. | exact ConnO.again .. | exact PathsO.mk .. | exact PathO.mk ..); (case m3 => k_mem); (case m4 => k_mem); (case hS => first | assumption | exact ConnO.zero .. | exact ConnO.again .. | exact PathsO.mk .. | exact PathO.mk ..); (case m5 => k_mem); (case t3 => k_offL); (case hA => first | assumption | exact ConnO.zero .. | exact ConnO.again .. | exact PathsO.mk .. | exact PathO.mk ..); (case t4 => k_offL); (case m8 => k_mem); (case m9 => k_mem); (case m10 => k_mem); (case m11 => k_mem); (case d1 => first | assumption | exact ConnO.zero .. | exact ConnO.again .. | exact PathsO.mk .. | exact PathO.mk ..); (case d2 => first | assumption | exact ConnO.zero .. | exact ConnO.again .. | exact PathsO.mk .. | exact PathO.mk ..); (case d3 => first | assumption | exact ConnO.zero .. | exact ConnO.again .. | exact PathsO.mk .. | exact PathO.mk ..); (case d4 => first | assumption | exact ConnO.zero .. | exact ConnO.again .. | exact PathsO.mk .. | exact PathO.mk ..); (case hn => first | assumption | exact Nat.le_of_ble_eq_true rfl | omega); (case hw => first | assumption | exact Nat.le_of_ble_eq_true rfl | omega); (case hw2 => first | assumption | exact Nat.le_of_ble_eq_true rfl | omega); (case hfs => first | assumption | exact Nat.le_of_ble_eq_true rfl | omega); (case nt0_1 => k_ne); (case nt0_2 => k_ne); (case nm0_0 => k_ne); (case nm0_1 => k_ne); (case nm0_2 => k_ne); (case nm0_3 => k_ne); (case nm0_4 => k_ne); (case nm0_5 => k_ne); (case nm0_6 => k_ne); (case nm0_7 => k_ne); (case nm0_8 => k_ne); (case nm0_9 => k_ne); (case nt1_2 => k_ne); (case nm1_0 => k_ne); (case nm1_1 => k_ne); (case nm1_2 => k_ne); (case nm1_3 => k_ne); (case nm1_4 => k_ne); (case nm1_5 => k_ne); (case nm1_6 => k_ne); (case nm1_7 => k_ne); (case nm1_8 => k_ne); (case nm1_9 => k_ne); (case nm2_0 => k_ne); (case nm2_1 => k_ne); (case nm2_2 => k_ne); (case nm2_3 => k_ne); (case nm2_4 => k_ne); (case nm2_5 => k_ne); (case nm2_6 => k_ne); (case nm2_7 => k_ne); (case nm2_8 => k_ne); (case nm2_9 => k_ne); (case hr0 => k_all); (case hr1 => k_all); (case hr2 => k_all); (case T => assumption); (case K0 => assumption); (case CH => assumption); (case X => assumption); k_whole); intro oC' oA' T2 lc' nD' kc x1 x2 x3 x4 dl' td' m' tk' h' nfT20 nfT2dC nfT2dA nfT2D nflcq0 nflcqdC nflcqdA nflcqD hdl2 hC' hA' F' N'; (try k_sweep))) | (k_unfold; (try dsimp only)) | (k_end; wrow_close) | walk1 | (dsimp only; walk1) | (leave1; walk_say "STEP leave1"; try dsimp only) | fail "no step")

theorem pfNH_ct {w : World} {g : Heap} {L fa : Addr} {mg mb mean} {s : Shared} {Q : Value → Shared → Prop} {E : Value → Shared → Prop} {m : Str → Option Value} {xC dC xP dP xA dA lK lc la last fW fC n ka xS dS cW cC tA kt : Nat} {oC oP oA oS ocW ocC : Obj} {fr mo fl : Bool} {recv num now : Int} {dl : Value} {u1 : Tok} {ta tb : Tok} {b : Array UInt8} {tW tC : Tok} {vsW vsC : Array Value} {ctW ctC : Value} {rest : List (Addr × Obj)} {news : List (Addr × Obj)} {r0 : List (Addr × Obj)} {r1 : List (Addr × Obj)}
  (F : Fr g L s.heap m) (N : News g L s.heap news)
  (m1 : (xC, instObj 410 dC) ∈ news)
  (t1 : Take (dC, oC) news r0)
  (hC : ConnO w.params oC xP xS fW fC (n : Int) fl)
  (m2 : (xP, instObj 243 dP) ∈ news)
  (t2 : Take (dP, oP) r0 r1)
  (hP : PathsO w.params oP lK xA last num la)
  (m3 : (xS, instObj 410 dS) ∈ news)
  (m4 : (dS, oS) ∈ news)
  (hS : ShakeO w.params oS)
  (m5 : (xA, instObj 126 dA) ∈ news)
  (t3 : Take (dA, oA) r1 rest)
  (hA : PathO w.params oA "away" "unproven" fr recv lc dl mo)
  (m6 : (la, listOf #[.ref tA] ka) ∈ news)
  (m7 : (tA, pairO (Str.ofString "home") ta b tb kt) ∈ news)
  (m8 : (fW, kla_obj (Str.ofString "<lambda>") ((envOf (Str.ofString "law") lawScope L fa (Value.ref 432)).qual ++ Str.ofString "<lambda>") (lamOf 2).1 (lamOf 2).2.1 (lamOf 2).2.2 [] ((mg (Str.ofString "__name__")).getD Value.none) cW ctW) ∈ news)
  (m9 : (cW, ocW) ∈ news)
  (m10 : (fC, kla_obj (Str.ofString "<lambda>") ((envOf (Str.ofString "law") lawScope L fa (Value.ref 432)).qual ++ Str.ofString "<lambda>") (lamOf 3).1 (lamOf 3).2.1 (lamOf 3).2.2 [] ((mg (Str.ofString "__name__")).getD Value.none) cC ctC) ∈ news)
  (m11 : (cC, ocC) ∈ news)
  (d1 : ocW.data = Data.fields vsW)
  (d2 : vsW[1]? = some (Value.str ((envOf (Str.ofString "law") lawScope L fa (Value.ref 432)).qual ++ Str.ofString "<lambda>") tW))
  (d3 : ocC.data = Data.fields vsC)
  (d4 : vsC[1]? = some (Value.str ((envOf (Str.ofString "law") lawScope L fa (Value.ref 432)).qual ++ Str.ofString "<lambda>") tC))
  (hn : n < 100)
  (hw : 0 ≤ now)
  (hw2 : now ≤ 10000)
  (nt0_1 : @Ne Nat dP dC)
  (nt0_2 : @Ne Nat dA dC)
  (nm0_0 : @Ne Nat xC dC)
  (nm0_1 : @Ne Nat xP dC)
  (nm0_2 : @Ne Nat xS dC)
  (nm0_3 : @Ne Nat dS dC)
  (nm0_4 : @Ne Nat xA dC)
  (nm0_5 : @Ne Nat la dC)
  (nm0_6 : @Ne Nat tA dC)
  (nm0_7 : @Ne Nat fW dC)
  (nm0_8 : @Ne Nat cW dC)
  (nm0_9 : @Ne Nat fC dC)
  (nm0_10 : @Ne Nat cC dC)
  (nt1_2 : @Ne Nat dA dP)
  (nm1_0 : @Ne Nat xC dP)
  (nm1_1 : @Ne Nat xP dP)
  (nm1_2 : @Ne Nat xS dP)
  (nm1_3 : @Ne Nat dS dP)
  (nm1_4 : @Ne Nat xA dP)
  (nm1_5 : @Ne Nat la dP)
  (nm1_6 : @Ne Nat tA dP)
  (nm1_7 : @Ne Nat fW dP)
  (nm1_8 : @Ne Nat cW dP)
  (nm1_9 : @Ne Nat fC dP)
  (nm1_10 : @Ne Nat cC dP)
  (nm2_0 : @Ne Nat xC dA)
  (nm2_1 : @Ne Nat xP dA)
  (nm2_2 : @Ne Nat xS dA)
  (nm2_3 : @Ne Nat dS dA)
  (nm2_4 : @Ne Nat xA dA)
  (nm2_5 : @Ne Nat la dA)
  (nm2_6 : @Ne Nat tA dA)
  (nm2_7 : @Ne Nat fW dA)
  (nm2_8 : @Ne Nat cW dA)
  (nm2_9 : @Ne Nat fC dA)
  (nm2_10 : @Ne Nat cC dA)
  (hr0 : ∀ p ∈ rest, p.1 ≠ dC)
  (hr1 : ∀ p ∈ rest, p.1 ≠ dP)
  (hr2 : ∀ p ∈ rest, p.1 ≠ dA)
  (T : Top topProg looseP mean mg mb g) (K0 : Below callerA g [] g) (CH : CodeHd g 432 430) (X : (kF w.params).In g)
  (h : ∀ oC' oP' oA' D T2 la' lc' nD kl kc x1 x2 x3 x4 dl' td' tk' h', (∀ p ∈ rest, p.1 ≠ D) → @Ne Nat dC D → @Ne Nat dP D → @Ne Nat dA D → (∀ p ∈ rest, p.1 ≠ T2) → @Ne Nat dC T2 → @Ne Nat dP T2 → @Ne Nat dA T2 → (∀ p ∈ rest, p.1 ≠ la') → @Ne Nat dC la' → @Ne Nat dP la' → @Ne Nat dA la' → (∀ p ∈ rest, p.1 ≠ lc') → @Ne Nat dC lc' → @Ne Nat dP lc' → @Ne Nat dA lc' → dl' = now + 150 → ConnO w.params oC' xP xS fW fC ((n : Int) + 1) true → PathsO w.params oP' lK xA last num la' → PathO w.params oA' "away" "trying" fr recv lc' (.int dl' td') false → Fr g L h' m → News g L h' ((D, listOf #[.ref T2] nD) :: (T2, pairO (Str.ofString "path_challenge") x1 (b8 (40 + (n : Int))) x2 x3) :: (la', listOf #[.ref tA] kl) :: (lc', listOf #[.bytes (b8 (40 + (n : Int))) x4] kc) :: (dC, oC') :: (dP, oP') :: (dA, oA') :: rest) → Q (.ref D) { s with heap := h', toks := tk' }) :
  wpAny (MP w) (callerA.deeper (envOf (Str.ofString "law") lawScope L fa (Value.ref 432))) (PySem.call (.ref 26) [.ref xC, .int now u1]) Q E s := by
  have hall : ∀ q, (q = (dC, oC) ∨ q = (dP, oP) ∨ q = (dA, oA) ∨ q ∈ rest) → q ∈ news := by
    intro q hq
    rcases hq with rfl | hq
    · exact t1.sub _ (.inl rfl)
    rcases hq with rfl | hq
    · exact t1.sub _ (.inr (t2.sub _ (.inl rfl)))
    rcases hq with rfl | hq
    · exact t1.sub _ (.inr (t2.sub _ (.inr (t3.sub _ (.inl rfl)))))
    exact t1.sub _ (.inr (t2.sub _ (.inr (t3.sub _ (.inr hq)))))
  refine pfNH_ct0 (xC := xC) (dC := dC) (xP := xP) (dP := dP) (xA := xA) (dA := dA) (lK := lK) (lc := lc) (la := la) (last := last) (fW := fW) (fC := fC) (n := n) (ka := ka) (xS := xS) (dS := dS) (cW := cW) (cC := cC) (tA := tA) (kt := kt) (oC := oC) (oP := oP) (oA := oA) (oS := oS) (ocW := ocW) (ocC := ocC) (fr := fr) (mo := mo) (fl := fl) (recv := recv) (num := num) (now := now) (dl := dl) (u1 := u1) (ta := ta) (tb := tb) (b := b) (tW := tW) (tC := tC) (vsW := vsW) (vsC := vsC) (ctW := ctW) (ctC := ctC) (rest := rest) T K0 CH hC hP hS hA d1 d2 d3 d4 hn hw hw2 nt0_1 nt0_2 nm0_0 nm0_1 nm0_2 nm0_3 nm0_4 nm0_5 nm0_6 nm0_7 nm0_8 nm0_9 nm0_10 nt1_2 nm1_0 nm1_1 nm1_2 nm1_3 nm1_4 nm1_5 nm1_6 nm1_7 nm1_8 nm1_9 nm1_10 nm2_0 nm2_1 nm2_2 nm2_3 nm2_4 nm2_5 nm2_6 nm2_7 nm2_8 nm2_9 nm2_10 hr0 hr1 hr2 F (fun p hp => N p ?_) h X
  rcases List.mem_cons.mp hp with rfl | hp
  · exact hall _ (.inl rfl)
  rcases List.mem_cons.mp hp with rfl | hp
  · exact hall _ (.inr (.inl rfl))
  rcases List.mem_cons.mp hp with rfl | hp
  · exact hall _ (.inr (.inr (.inl rfl)))
  rcases List.mem_cons.mp hp with rfl | hp
  · exact m1
  rcases List.mem_cons.mp hp with rfl | hp
  · exact m2
  rcases List.mem_cons.mp hp with rfl | hp
  · exact m3
  rcases List.mem_cons.mp hp with rfl | hp
  · exact m4
  rcases List.mem_cons.mp hp with rfl | hp
  · exact m5
  rcases List.mem_cons.mp hp with rfl | hp
  · exact m6
  rcases List.mem_cons.mp hp with rfl | hp
  · exact m7
  rcases List.mem_cons.mp hp with rfl | hp
  · exact m8
  rcases List.mem_cons.mp hp with rfl | hp
  · exact m9
  rcases List.mem_cons.mp hp with rfl | hp
  · exact m10
  rcases List.mem_cons.mp hp with rfl | hp
  · exact m11
  exact hall _ (.inr (.inr (.inr hp)))
set_option maxRecDepth 100000 in
set_option maxHeartbeats 0 in
theorem pfTN_ct0 {w : World} {g : Heap} {L fa : Addr} {mg mb mean} {s : Shared} {Q : Value → Shared → Prop} {E : Value → Shared → Prop} {m : Str → Option Value} {xC dC xP dP xA dA lK lc la last fW fC n ka xS : Nat} {oC oP oA : Obj} {fr : Bool} {recv num now : Int} {dl : Value} {u1 : Tok} {rest : List (Addr × Obj)}
  (T : Top topProg looseP mean mg mb g) (K0 : Below callerA g [] g)
  (hC : ConnO w.params oC xP xS fW fC (n : Int) true)
  (hP : PathsO w.params oP lK xA last num la)
  (hA : PathO w.params oA "away" "trying" fr recv lc dl false)
  (nm0_0 : @Ne Nat xC dP)
  (nm0_1 : @Ne Nat dC dP)
  (nm0_2 : @Ne Nat xP dP)
  (nm0_3 : @Ne Nat xA dP)
  (nm0_4 : @Ne Nat dA dP)
  (nm0_5 : @Ne Nat la dP)
  (hr0 : ∀ p ∈ rest, p.1 ≠ dP)
  (F : Fr g L s.heap m)
  (N : News g L s.heap ((dP, oP) :: (xC, instObj 410 dC) :: (dC, oC) :: (xP, instObj 243 dP) :: (xA, instObj 126 dA) :: (dA, oA) :: (la, listOf #[] ka) :: rest))
  (h : ∀ oP' D la' nD kl tk' h', (∀ p ∈ rest, p.1 ≠ D) → @Ne Nat dP D → (∀ p ∈ rest, p.1 ≠ la') → @Ne Nat dP la' → PathsO w.params oP' lK xA last num la' → Fr g L h' m → News g L h' ((D, listOf #[] nD) :: (la', listOf #[] kl) :: (dP, oP') :: rest) → Q (.ref D) { s with heap := h', toks := tk' })
  (X : (kF w.params).In g) :
  wpAny (MP w) (callerA.deeper (envOf (Str.ofString "law") lawScope L fa (Value.ref 432))) (PySem.call (.ref 26) [.ref xC, .int now u1]) Q E s := by
  revert X
  dsimp only [MP]
  k_fill
  intro X
  generalize hs : lawScope = sc
  conv at hs => lhs; whnf
  subst hs
  dsimp only [looseP] at T
  repeat' (first | ((fail_if_success (with_reducible show wpAny _ _ _ _ _ _)); (refine h ?oPqv ?Dv ?laqv ?nDv ?klv _ _ ?nfD0 ?nfDdP ?nflaq0 ?nflaqdP ?hP ?hF ?hN; (case hF => assumption); (case hN => exact News.subs (by assumption) (by lcg_sub)); (case hP => first | assumption | exact PathsO.mk ..); (case nfD0 => k_all); (case nfDdP => k_ne); (case nflaq0 => k_all); (case nflaqdP => k_ne))) | (with_reducible exact absurd rfl (by assumption)) | 
    ((with_reducible show wpAny _ _ (execs _ _) _ _ _); first
    | (k_here; (with_reducible show wpAny _ _ (execs [_, _, _] (envOfC (Str.ofString "path_frames") _ _ _ _)) _ _ _); k_dflt (refine' pf2T_w ?F ?N ?m1 ?m1b ?hC ?m2 ?m2b ?hP ?m5 ?m6 ?hA ?T ?K0 ?X ?_; (case F => exact frPf (by k_asm) (by rfl) (by rfl) (by rfl)); (case N => k_asm); (case m1 => k_mem); (case m1b => k_mem); (case hC => first | assumption | exact ConnO.zero .. | exact ConnO.again .. | exact PathsO.mk .. | exact PathO.mk ..); (case m2 => k_mem); (case m2b => k_mem); (case hP => first | assumption | exact ConnO.zero .. | exact ConnO.again .. | exact PathsO.mk .. | exact PathO.mk ..); (case m5 => k_mem); (case m6 => k_mem); (case hA => first | assumption | exact ConnO.zero .. | exact ConnO.again .. | exact PathsO.mk .. | exact PathO.mk ..); (case T => assumption); (case K0 => assumption); (case X => assumption); k_whole); intro m' tk' h' F' N'; (try k_sweep))) | (k_unfold; (try dsimp only)) | (k_end; wrow_close) | walk1 | (dsimp only; walk1) | (leave1; walk_say "STEP leave1"; try dsimp only) | fail "no step")

theorem pfTN_ct {w : World} {g : Heap} {L fa : Addr} {mg mb mean} {s : Shared} {Q : Value → Shared → Prop} {E : Value → Shared → Prop} {m : Str → Option Value} {xC dC xP dP xA dA lK lc la last fW fC n ka xS : Nat} {oC oP oA : Obj} {fr : Bool} {recv num now : Int} {dl : Value} {u1 : Tok} {rest : List (Addr × Obj)} {news : List (Addr × Obj)}
  (F : Fr g L s.heap m) (N : News g L s.heap news)
  (m1 : (xC, instObj 410 dC) ∈ news)
  (t1 : (dC, oC) ∈ news)
  (hC : ConnO w.params oC xP xS fW fC (n : Int) true)
  (m2 : (xP, instObj 243 dP) ∈ news)
  (t2 : Take (dP, oP) news rest)
  (hP : PathsO w.params oP lK xA last num la)
  (m5 : (xA, instObj 126 dA) ∈ news)
  (t3 : (dA, oA) ∈ news)
  (hA : PathO w.params oA "away" "trying" fr recv lc dl false)
  (m6 : (la, listOf #[] ka) ∈ news)
  (nm0_0 : @Ne Nat xC dP)
  (nm0_1 : @Ne Nat dC dP)
  (nm0_2 : @Ne Nat xP dP)
  (nm0_3 : @Ne Nat xA dP)
  (nm0_4 : @Ne Nat dA dP)
  (nm0_5 : @Ne Nat la dP)
  (hr0 : ∀ p ∈ rest, p.1 ≠ dP)
  (T : Top topProg looseP mean mg mb g) (K0 : Below callerA g [] g) (X : (kF w.params).In g)
  (h : ∀ oP' D la' nD kl tk' h', (∀ p ∈ rest, p.1 ≠ D) → @Ne Nat dP D → (∀ p ∈ rest, p.1 ≠ la') → @Ne Nat dP la' → PathsO w.params oP' lK xA last num la' → Fr g L h' m → News g L h' ((D, listOf #[] nD) :: (la', listOf #[] kl) :: (dP, oP') :: rest) → Q (.ref D) { s with heap := h', toks := tk' }) :
  wpAny (MP w) (callerA.deeper (envOf (Str.ofString "law") lawScope L fa (Value.ref 432))) (PySem.call (.ref 26) [.ref xC, .int now u1]) Q E s := by
  have hall : ∀ q, (q = (dP, oP) ∨ q ∈ rest) → q ∈ news := by
    intro q hq
    rcases hq with rfl | hq
    · exact t2.sub _ (.inl rfl)
    exact t2.sub _ (.inr hq)
  refine pfTN_ct0 (xC := xC) (dC := dC) (xP := xP) (dP := dP) (xA := xA) (dA := dA) (lK := lK) (lc := lc) (la := la) (last := last) (fW := fW) (fC := fC) (n := n) (ka := ka) (xS := xS) (oC := oC) (oP := oP) (oA := oA) (fr := fr) (recv := recv) (num := num) (now := now) (dl := dl) (u1 := u1) (rest := rest) T K0 hC hP hA nm0_0 nm0_1 nm0_2 nm0_3 nm0_4 nm0_5 hr0 F (fun p hp => N p ?_) h X
  rcases List.mem_cons.mp hp with rfl | hp
  · exact hall _ (.inl rfl)
  rcases List.mem_cons.mp hp with rfl | hp
  · exact m1
  rcases List.mem_cons.mp hp with rfl | hp
  · exact t1
  rcases List.mem_cons.mp hp with rfl | hp
  · exact m2
  rcases List.mem_cons.mp hp with rfl | hp
  · exact m5
  rcases List.mem_cons.mp hp with rfl | hp
  · exact t3
  rcases List.mem_cons.mp hp with rfl | hp
  · exact m6
  exact hall _ (.inr hp)
set_option maxRecDepth 100000 in
set_option maxHeartbeats 0 in
theorem pfTH_ct0 {w : World} {g : Heap} {L fa : Addr} {mg mb mean} {s : Shared} {Q : Value → Shared → Prop} {E : Value → Shared → Prop} {m : Str → Option Value} {xC dC xP dP xA dA lK lc la last fW fC n ka xS tA kt : Nat} {oC oP oA : Obj} {fr : Bool} {recv num now : Int} {dl : Value} {u1 : Tok} {ta tb : Tok} {b : Array UInt8} {rest : List (Addr × Obj)}
  (T : Top topProg looseP mean mg mb g) (K0 : Below callerA g [] g)
  (hC : ConnO w.params oC xP xS fW fC (n : Int) true)
  (hP : PathsO w.params oP lK xA last num la)
  (hA : PathO w.params oA "away" "trying" fr recv lc dl false)
  (nm0_0 : @Ne Nat xC dP)
  (nm0_1 : @Ne Nat dC dP)
  (nm0_2 : @Ne Nat xP dP)
  (nm0_3 : @Ne Nat xA dP)
  (nm0_4 : @Ne Nat dA dP)
  (nm0_5 : @Ne Nat la dP)
  (nm0_6 : @Ne Nat tA dP)
  (hr0 : ∀ p ∈ rest, p.1 ≠ dP)
  (F : Fr g L s.heap m)
  (N : News g L s.heap ((dP, oP) :: (xC, instObj 410 dC) :: (dC, oC) :: (xP, instObj 243 dP) :: (xA, instObj 126 dA) :: (dA, oA) :: (la, listOf #[.ref tA] ka) :: (tA, pairO (Str.ofString "home") ta b tb kt) :: rest))
  (h : ∀ oP' D la' nD kl tk' h', (∀ p ∈ rest, p.1 ≠ D) → @Ne Nat dP D → (∀ p ∈ rest, p.1 ≠ la') → @Ne Nat dP la' → PathsO w.params oP' lK xA last num la' → Fr g L h' m → News g L h' ((D, listOf #[] nD) :: (la', listOf #[.ref tA] kl) :: (dP, oP') :: rest) → Q (.ref D) { s with heap := h', toks := tk' })
  (X : (kF w.params).In g) :
  wpAny (MP w) (callerA.deeper (envOf (Str.ofString "law") lawScope L fa (Value.ref 432))) (PySem.call (.ref 26) [.ref xC, .int now u1]) Q E s := by
  revert X
  dsimp only [MP]
  k_fill
  intro X
  generalize hs : lawScope = sc
  conv at hs => lhs; whnf
  subst hs
  dsimp only [looseP] at T
  repeat' (first | ((fail_if_success (with_reducible show wpAny _ _ _ _ _ _)); (refine h ?oPqv ?Dv ?laqv ?nDv ?klv _ _ ?nfD0 ?nfDdP ?nflaq0 ?nflaqdP ?hP ?hF ?hN; (case hF => assumption); (case hN => exact News.subs (by assumption) (by lcg_sub)); (case hP => first | assumption | exact PathsO.mk ..); (case nfD0 => k_all); (case nfDdP => k_ne); (case nflaq0 => k_all); (case nflaqdP => k_ne))) | (with_reducible exact absurd rfl (by assumption)) | 
    ((with_reducible show wpAny _ _ (execs _ _) _ _ _); first
    | (k_here; (with_reducible show wpAny _ _ (execs [_, _, _] (envOfC (Str.ofString "path_frames") _ _ _ _)) _ _ _); k_dflt (refine' pf2T_w ?F ?N ?m1 ?m1b ?hC ?m2 ?m2b ?hP ?m5 ?m6 ?hA ?T ?K0 ?X ?_; (case F => exact frPf (by k_asm) (by rfl) (by rfl) (by rfl)); (case N => k_asm); (case m1 => k_mem); (case m1b => k_mem); (case hC => first | assumption | exact ConnO.zero .. | exact ConnO.again .. | exact PathsO.mk .. | exact PathO.mk ..); (case m2 => k_mem); (case m2b => k_mem); (case hP => first | assumption | exact ConnO.zero .. | exact ConnO.again .. | exact PathsO.mk .. | exact PathO.mk ..); (case m5 => k_mem); (case m6 => k_mem); (case hA => first | assumption | exact ConnO.zero .. | exact ConnO.again .. | exact PathsO.mk .. | exact PathO.mk ..); (case T => assumption); (case K0 => assumption); (case X => assumption); k_whole); intro m' tk' h' F' N'; (try k_sweep))) | (k_unfold; (try dsimp only)) | (k_end; wrow_close) | walk1 | (dsimp only; walk1) | (leave1; walk_say "STEP leave1"; try dsimp only) | fail "no step")

theorem pfTH_ct {w : World} {g : Heap} {L fa : Addr} {mg mb mean} {s : Shared} {Q : Value → Shared → Prop} {E : Value → Shared → Prop} {m : Str → Option Value} {xC dC xP dP xA dA lK lc la last fW fC n ka xS tA kt : Nat} {oC oP oA : Obj} {fr : Bool} {recv num now : Int} {dl : Value} {u1 : Tok} {ta tb : Tok} {b : Array UInt8} {rest : List (Addr × Obj)} {news : List (Addr × Obj)}
  (F : Fr g L s.heap m) (N : News g L s.heap news)
  (m1 : (xC, instObj 410 dC) ∈ news)
  (t1 : (dC, oC) ∈ news)
  (hC : ConnO w.params oC xP xS fW fC (n : Int) true)
  (m2 : (xP, instObj 243 dP) ∈ news)
  (t2 : Take (dP, oP) news rest)
  (hP : PathsO w.params oP lK xA last num la)
  (m5 : (xA, instObj 126 dA) ∈ news)
  (t3 : (dA, oA) ∈ news)
  (hA : PathO w.params oA "away" "trying" fr recv lc dl false)
  (m6 : (la, listOf #[.ref tA] ka) ∈ news)
  (m7 : (tA, pairO (Str.ofString "home") ta b tb kt) ∈ news)
  (nm0_0 : @Ne Nat xC dP)
  (nm0_1 : @Ne Nat dC dP)
  (nm0_2 : @Ne Nat xP dP)
  (nm0_3 : @Ne Nat xA dP)
  (nm0_4 : @Ne Nat dA dP)
  (nm0_5 : @Ne Nat la dP)
  (nm0_6 : @Ne Nat tA dP)
  (hr0 : ∀ p ∈ rest, p.1 ≠ dP)
  (T : Top topProg looseP mean mg mb g) (K0 : Below callerA g [] g) (X : (kF w.params).In g)
  (h : ∀ oP' D la' nD kl tk' h', (∀ p ∈ rest, p.1 ≠ D) → @Ne Nat dP D → (∀ p ∈ rest, p.1 ≠ la') → @Ne Nat dP la' → PathsO w.params oP' lK xA last num la' → Fr g L h' m → News g L h' ((D, listOf #[] nD) :: (la', listOf #[.ref tA] kl) :: (dP, oP') :: rest) → Q (.ref D) { s with heap := h', toks := tk' }) :
  wpAny (MP w) (callerA.deeper (envOf (Str.ofString "law") lawScope L fa (Value.ref 432))) (PySem.call (.ref 26) [.ref xC, .int now u1]) Q E s := by
  have hall : ∀ q, (q = (dP, oP) ∨ q ∈ rest) → q ∈ news := by
    intro q hq
    rcases hq with rfl | hq
    · exact t2.sub _ (.inl rfl)
    exact t2.sub _ (.inr hq)
  refine pfTH_ct0 (xC := xC) (dC := dC) (xP := xP) (dP := dP) (xA := xA) (dA := dA) (lK := lK) (lc := lc) (la := la) (last := last) (fW := fW) (fC := fC) (n := n) (ka := ka) (xS := xS) (tA := tA) (kt := kt) (oC := oC) (oP := oP) (oA := oA) (fr := fr) (recv := recv) (num := num) (now := now) (dl := dl) (u1 := u1) (ta := ta) (tb := tb) (b := b) (rest := rest) T K0 hC hP hA nm0_0 nm0_1 nm0_2 nm0_3 nm0_4 nm0_5 nm0_6 hr0 F (fun p hp => N p ?_) h X
  rcases List.mem_cons.mp hp with rfl | hp
  · exact hall _ (.inl rfl)
  rcases List.mem_cons.mp hp with rfl | hp
  · exact m1
  rcases List.mem_cons.mp hp with rfl | hp
  · exact t1
  rcases List.mem_cons.mp hp with rfl | hp
  · exact m2
  rcases List.mem_cons.mp hp with rfl | hp
  · exact m5
  rcases List.mem_cons.mp hp with rfl | hp
  · exact t3
  rcases List.mem_cons.mp hp with rfl | hp
  · exact m6
  rcases List.mem_cons.mp hp with rfl | hp
  · exact m7
  exact hall _ (.inr hp)
set_option maxRecDepth 100000 in
set_option maxHeartbeats 0 in
theorem pfPA_ct0 {w : World} {g : Heap} {L fa : Addr} {mg mb mean} {s : Shared} {Q : Value → Shared → Prop} {E : Value → Shared → Prop} {m : Str → Option Value} {xC dC xP dP xA dA lK lc la last fW fC n ka xS tA kt : Nat} {oC oP oA : Obj} {fr : Bool} {recv num now : Int} {dl : Value} {u1 : Tok} {ta tb : Tok} {b : Array UInt8} {rest : List (Addr × Obj)}
  (T : Top topProg looseP mean mg mb g) (K0 : Below callerA g [] g)
  (hC : ConnO w.params oC xP xS fW fC (n : Int) true)
  (hP : PathsO w.params oP lK xA last num la)
  (hA : PathO w.params oA "away" "proven" fr recv lc dl false)
  (nm0_0 : @Ne Nat xC dP)
  (nm0_1 : @Ne Nat dC dP)
  (nm0_2 : @Ne Nat xP dP)
  (nm0_3 : @Ne Nat xA dP)
  (nm0_4 : @Ne Nat dA dP)
  (nm0_5 : @Ne Nat la dP)
  (nm0_6 : @Ne Nat tA dP)
  (hr0 : ∀ p ∈ rest, p.1 ≠ dP)
  (F : Fr g L s.heap m)
  (N : News g L s.heap ((dP, oP) :: (xC, instObj 410 dC) :: (dC, oC) :: (xP, instObj 243 dP) :: (xA, instObj 126 dA) :: (dA, oA) :: (la, listOf #[.ref tA] ka) :: (tA, pairO (Str.ofString "away") ta b tb kt) :: rest))
  (h : ∀ oP' D T1 la' nD kl y1 y2 y3 tk' h', (∀ p ∈ rest, p.1 ≠ D) → @Ne Nat dP D → (∀ p ∈ rest, p.1 ≠ T1) → @Ne Nat dP T1 → (∀ p ∈ rest, p.1 ≠ la') → @Ne Nat dP la' → PathsO w.params oP' lK xA last num la' → Fr g L h' m → News g L h' ((D, listOf #[.ref T1] nD) :: (T1, pairO (Str.ofString "path_response") y1 b y2 y3) :: (la', listOf #[] kl) :: (dP, oP') :: rest) → Q (.ref D) { s with heap := h', toks := tk' })
  (X : (kF w.params).In g) :
  wpAny (MP w) (callerA.deeper (envOf (Str.ofString "law") lawScope L fa (Value.ref 432))) (PySem.call (.ref 26) [.ref xC, .int now u1]) Q E s := by
  revert X
  dsimp only [MP]
  k_fill
  intro X
  generalize hs : lawScope = sc
  conv at hs => lhs; whnf
  subst hs
  dsimp only [looseP] at T
  repeat' (first | ((fail_if_success (with_reducible show wpAny _ _ _ _ _ _)); (refine h ?oPqv ?Dv ?T1v ?laqv ?nDv ?klv ?y1v ?y2v ?y3v _ _ ?nfD0 ?nfDdP ?nfT10 ?nfT1dP ?nflaq0 ?nflaqdP ?hP ?hF ?hN; (case hF => assumption); (case hN => exact News.subs (by assumption) (by lcg_sub)); (case hP => first | assumption | exact PathsO.mk ..); (case nfD0 => k_all); (case nfDdP => k_ne); (case nfT10 => k_all); (case nfT1dP => k_ne); (case nflaq0 => k_all); (case nflaqdP => k_ne))) | (with_reducible exact absurd rfl (by assumption)) | 
    ((with_reducible show wpAny _ _ (execs _ _) _ _ _); first
    | (k_here; (with_reducible show wpAny _ _ (execs [_, _, _] (envOfC (Str.ofString "path_frames") _ _ _ _)) _ _ _); k_dflt (refine' pf2P_w ?F ?N ?m1 ?m1b ?hC ?m2 ?m2b ?hP ?m5 ?m6 ?hA ?T ?K0 ?X ?_; (case F => exact frPf (by k_asm) (by rfl) (by rfl) (by rfl)); (case N => k_asm); (case m1 => k_mem); (case m1b => k_mem); (case hC => first | assumption | exact ConnO.zero .. | exact ConnO.again .. | exact PathsO.mk .. | exact PathO.mk ..); (case m2 => k_mem); (case m2b => k_mem); (case hP => first | assumption | exact ConnO.zero .. | exact ConnO.again .. | exact PathsO.mk .. | exact PathO.mk ..); (case m5 => k_mem); (case m6 => k_mem); (case hA => first | assumption | exact ConnO.zero .. | exact ConnO.again .. | exact PathsO.mk .. | exact PathO.mk ..); (case T => assumption); (case K0 => assumption); (case X => assumption); k_whole); intro m' tk' h' F' N'; (try k_sweep))) | (k_unfold; (try dsimp only)) | (k_end; wrow_close) | walk1 | (dsimp only; walk1) | (leave1; walk_say "STEP leave1"; try dsimp only) | fail "no step")

theorem pfPA_ct {w : World} {g : Heap} {L fa : Addr} {mg mb mean} {s : Shared} {Q : Value → Shared → Prop} {E : Value → Shared → Prop} {m : Str → Option Value} {xC dC xP dP xA dA lK lc la last fW fC n ka xS tA kt : Nat} {oC oP oA : Obj} {fr : Bool} {recv num now : Int} {dl : Value} {u1 : Tok} {ta tb : Tok} {b : Array UInt8} {rest : List (Addr × Obj)} {news : List (Addr × Obj)}
  (F : Fr g L s.heap m) (N : News g L s.heap news)
  (m1 : (xC, instObj 410 dC) ∈ news)
  (t1 : (dC, oC) ∈ news)
  (hC : ConnO w.params oC xP xS fW fC (n : Int) true)
  (m2 : (xP, instObj 243 dP) ∈ news)
  (t2 : Take (dP, oP) news rest)
  (hP : PathsO w.params oP lK xA last num la)
  (m5 : (xA, instObj 126 dA) ∈ news)
  (t3 : (dA, oA) ∈ news)
  (hA : PathO w.params oA "away" "proven" fr recv lc dl false)
  (m6 : (la, listOf #[.ref tA] ka) ∈ news)
  (m7 : (tA, pairO (Str.ofString "away") ta b tb kt) ∈ news)
  (nm0_0 : @Ne Nat xC dP)
  (nm0_1 : @Ne Nat dC dP)
  (nm0_2 : @Ne Nat xP dP)
  (nm0_3 : @Ne Nat xA dP)
  (nm0_4 : @Ne Nat dA dP)
  (nm0_5 : @Ne Nat la dP)
  (nm0_6 : @Ne Nat tA dP)
  (hr0 : ∀ p ∈ rest, p.1 ≠ dP)
  (T : Top topProg looseP mean mg mb g) (K0 : Below callerA g [] g) (X : (kF w.params).In g)
  (h : ∀ oP' D T1 la' nD kl y1 y2 y3 tk' h', (∀ p ∈ rest, p.1 ≠ D) → @Ne Nat dP D → (∀ p ∈ rest, p.1 ≠ T1) → @Ne Nat dP T1 → (∀ p ∈ rest, p.1 ≠ la') → @Ne Nat dP la' → PathsO w.params oP' lK xA last num la' → Fr g L h' m → News g L h' ((D, listOf #[.ref T1] nD) :: (T1, pairO (Str.ofString "path_response") y1 b y2 y3) :: (la', listOf #[] kl) :: (dP, oP') :: rest) → Q (.ref D) { s with heap := h', toks := tk' }) :
  wpAny (MP w) (callerA.deeper (envOf (Str.ofString "law") lawScope L fa (Value.ref 432))) (PySem.call (.ref 26) [.ref xC, .int now u1]) Q E s := by
  have hall : ∀ q, (q = (dP, oP) ∨ q ∈ rest) → q ∈ news := by
    intro q hq
    rcases hq with rfl | hq
    · exact t2.sub _ (.inl rfl)
    exact t2.sub _ (.inr hq)
  refine pfPA_ct0 (xC := xC) (dC := dC) (xP := xP) (dP := dP) (xA := xA) (dA := dA) (lK := lK) (lc := lc) (la := la) (last := last) (fW := fW) (fC := fC) (n := n) (ka := ka) (xS := xS) (tA := tA) (kt := kt) (oC := oC) (oP := oP) (oA := oA) (fr := fr) (recv := recv) (num := num) (now := now) (dl := dl) (u1 := u1) (ta := ta) (tb := tb) (b := b) (rest := rest) T K0 hC hP hA nm0_0 nm0_1 nm0_2 nm0_3 nm0_4 nm0_5 nm0_6 hr0 F (fun p hp => N p ?_) h X
  rcases List.mem_cons.mp hp with rfl | hp
  · exact hall _ (.inl rfl)
  rcases List.mem_cons.mp hp with rfl | hp
  · exact m1
  rcases List.mem_cons.mp hp with rfl | hp
  · exact t1
  rcases List.mem_cons.mp hp with rfl | hp
  · exact m2
  rcases List.mem_cons.mp hp with rfl | hp
  · exact m5
  rcases List.mem_cons.mp hp with rfl | hp
  · exact t3
  rcases List.mem_cons.mp hp with rfl | hp
  · exact m6
  rcases List.mem_cons.mp hp with rfl | hp
  · exact m7
  exact hall _ (.inr hp)
set_option maxRecDepth 100000 in
set_option maxHeartbeats 0 in
theorem pfPH_ct0 {w : World} {g : Heap} {L fa : Addr} {mg mb mean} {s : Shared} {Q : Value → Shared → Prop} {E : Value → Shared → Prop} {m : Str → Option Value} {xC dC xP dP xA dA lK lc la last fW fC n ka xS tA kt : Nat} {oC oP oA : Obj} {fr : Bool} {recv num now : Int} {dl : Value} {u1 : Tok} {ta tb : Tok} {b : Array UInt8} {rest : List (Addr × Obj)}
  (T : Top topProg looseP mean mg mb g) (K0 : Below callerA g [] g)
  (hC : ConnO w.params oC xP xS fW fC (n : Int) true)
  (hP : PathsO w.params oP lK xA last num la)
  (hA : PathO w.params oA "away" "proven" fr recv lc dl false)
  (nm0_0 : @Ne Nat xC dP)
  (nm0_1 : @Ne Nat dC dP)
  (nm0_2 : @Ne Nat xP dP)
  (nm0_3 : @Ne Nat xA dP)
  (nm0_4 : @Ne Nat dA dP)
  (nm0_5 : @Ne Nat la dP)
  (nm0_6 : @Ne Nat tA dP)
  (hr0 : ∀ p ∈ rest, p.1 ≠ dP)
  (F : Fr g L s.heap m)
  (N : News g L s.heap ((dP, oP) :: (xC, instObj 410 dC) :: (dC, oC) :: (xP, instObj 243 dP) :: (xA, instObj 126 dA) :: (dA, oA) :: (la, listOf #[.ref tA] ka) :: (tA, pairO (Str.ofString "home") ta b tb kt) :: rest))
  (h : ∀ oP' D la' nD kl tk' h', (∀ p ∈ rest, p.1 ≠ D) → @Ne Nat dP D → (∀ p ∈ rest, p.1 ≠ la') → @Ne Nat dP la' → PathsO w.params oP' lK xA last num la' → Fr g L h' m → News g L h' ((D, listOf #[] nD) :: (la', listOf #[.ref tA] kl) :: (dP, oP') :: rest) → Q (.ref D) { s with heap := h', toks := tk' })
  (X : (kF w.params).In g) :
  wpAny (MP w) (callerA.deeper (envOf (Str.ofString "law") lawScope L fa (Value.ref 432))) (PySem.call (.ref 26) [.ref xC, .int now u1]) Q E s := by
  revert X
  dsimp only [MP]
  k_fill
  intro X
  generalize hs : lawScope = sc
  conv at hs => lhs; whnf
  subst hs
  dsimp only [looseP] at T
  repeat' (first | ((fail_if_success (with_reducible show wpAny _ _ _ _ _ _)); (refine h ?oPqv ?Dv ?laqv ?nDv ?klv _ _ ?nfD0 ?nfDdP ?nflaq0 ?nflaqdP ?hP ?hF ?hN; (case hF => assumption); (case hN => exact News.subs (by assumption) (by lcg_sub)); (case hP => first | assumption | exact PathsO.mk ..); (case nfD0 => k_all); (case nfDdP => k_ne); (case nflaq0 => k_all); (case nflaqdP => k_ne))) | (with_reducible exact absurd rfl (by assumption)) | 
    ((with_reducible show wpAny _ _ (execs _ _) _ _ _); first
    | (k_here; (with_reducible show wpAny _ _ (execs [_, _, _] (envOfC (Str.ofString "path_frames") _ _ _ _)) _ _ _); k_dflt (refine' pf2P_w ?F ?N ?m1 ?m1b ?hC ?m2 ?m2b ?hP ?m5 ?m6 ?hA ?T ?K0 ?X ?_; (case F => exact frPf (by k_asm) (by rfl) (by rfl) (by rfl)); (case N => k_asm); (case m1 => k_mem); (case m1b => k_mem); (case hC => first | assumption | exact ConnO.zero .. | exact ConnO.again .. | exact PathsO.mk .. | exact PathO.mk ..); (case m2 => k_mem); (case m2b => k_mem); (case hP => first | assumption | exact ConnO.zero .. | exact ConnO.again .. | exact PathsO.mk .. | exact PathO.mk ..); (case m5 => k_mem); (case m6 => k_mem); (case hA => first | assumption | exact ConnO.zero .. | exact ConnO.again .. | exact PathsO.mk .. | exact PathO.mk ..); (case T => assumption); (case K0 => assumption); (case X => assumption); k_whole); intro m' tk' h' F' N'; (try k_sweep))) | (k_unfold; (try dsimp only)) | (k_end; wrow_close) | walk1 | (dsimp only; walk1) | (leave1; walk_say "STEP leave1"; try dsimp only) | fail "no step")

theorem pfPH_ct {w : World} {g : Heap} {L fa : Addr} {mg mb mean} {s : Shared} {Q : Value → Shared → Prop} {E : Value → Shared → Prop} {m : Str → Option Value} {xC dC xP dP xA dA lK lc la last fW fC n ka xS tA kt : Nat} {oC oP oA : Obj} {fr : Bool} {recv num now : Int} {dl : Value} {u1 : Tok} {ta tb : Tok} {b : Array UInt8} {rest : List (Addr × Obj)} {news : List (Addr × Obj)}
  (F : Fr g L s.heap m) (N : News g L s.heap news)
  (m1 : (xC, instObj 410 dC) ∈ news)
  (t1 : (dC, oC) ∈ news)
  (hC : ConnO w.params oC xP xS fW fC (n : Int) true)
  (m2 : (xP, instObj 243 dP) ∈ news)
  (t2 : Take (dP, oP) news rest)
  (hP : PathsO w.params oP lK xA last num la)
  (m5 : (xA, instObj 126 dA) ∈ news)
  (t3 : (dA, oA) ∈ news)
  (hA : PathO w.params oA "away" "proven" fr recv lc dl false)
  (m6 : (la, listOf #[.ref tA] ka) ∈ news)
  (m7 : (tA, pairO (Str.ofString "home") ta b tb kt) ∈ news)
  (nm0_0 : @Ne Nat xC dP)
  (nm0_1 : @Ne Nat dC dP)
  (nm0_2 : @Ne Nat xP dP)
  (nm0_3 : @Ne Nat xA dP)
  (nm0_4 : @Ne Nat dA dP)
  (nm0_5 : @Ne Nat la dP)
  (nm0_6 : @Ne Nat tA dP)
  (hr0 : ∀ p ∈ rest, p.1 ≠ dP)
  (T : Top topProg looseP mean mg mb g) (K0 : Below callerA g [] g) (X : (kF w.params).In g)
  (h : ∀ oP' D la' nD kl tk' h', (∀ p ∈ rest, p.1 ≠ D) → @Ne Nat dP D → (∀ p ∈ rest, p.1 ≠ la') → @Ne Nat dP la' → PathsO w.params oP' lK xA last num la' → Fr g L h' m → News g L h' ((D, listOf #[] nD) :: (la', listOf #[.ref tA] kl) :: (dP, oP') :: rest) → Q (.ref D) { s with heap := h', toks := tk' }) :
  wpAny (MP w) (callerA.deeper (envOf (Str.ofString "law") lawScope L fa (Value.ref 432))) (PySem.call (.ref 26) [.ref xC, .int now u1]) Q E s := by
  have hall : ∀ q, (q = (dP, oP) ∨ q ∈ rest) → q ∈ news := by
    intro q hq
    rcases hq with rfl | hq
    · exact t2.sub _ (.inl rfl)
    exact t2.sub _ (.inr hq)
  refine pfPH_ct0 (xC := xC) (dC := dC) (xP := xP) (dP := dP) (xA := xA) (dA := dA) (lK := lK) (lc := lc) (la := la) (last := last) (fW := fW) (fC := fC) (n := n) (ka := ka) (xS := xS) (tA := tA) (kt := kt) (oC := oC) (oP := oP) (oA := oA) (fr := fr) (recv := recv) (num := num) (now := now) (dl := dl) (u1 := u1) (ta := ta) (tb := tb) (b := b) (rest := rest) T K0 hC hP hA nm0_0 nm0_1 nm0_2 nm0_3 nm0_4 nm0_5 nm0_6 hr0 F (fun p hp => N p ?_) h X
  rcases List.mem_cons.mp hp with rfl | hp
  · exact hall _ (.inl rfl)
  rcases List.mem_cons.mp hp with rfl | hp
  · exact m1
  rcases List.mem_cons.mp hp with rfl | hp
  · exact t1
  rcases List.mem_cons.mp hp with rfl | hp
  · exact m2
  rcases List.mem_cons.mp hp with rfl | hp
  · exact m5
  rcases List.mem_cons.mp hp with rfl | hp
  · exact t3
  rcases List.mem_cons.mp hp with rfl | hp
  · exact m6
  rcases List.mem_cons.mp hp with rfl | hp
  · exact m7
  exact hall _ (.inr hp)
set_option maxRecDepth 100000 in
set_option maxHeartbeats 0 in
theorem pfPN_ct0 {w : World} {g : Heap} {L fa : Addr} {mg mb mean} {s : Shared} {Q : Value → Shared → Prop} {E : Value → Shared → Prop} {m : Str → Option Value} {xC dC xP dP xA dA lK lc la last fW fC n ka xS : Nat} {oC oP oA : Obj} {fr : Bool} {recv num now : Int} {dl : Value} {u1 : Tok} {rest : List (Addr × Obj)}
  (T : Top topProg looseP mean mg mb g) (K0 : Below callerA g [] g)
  (hC : ConnO w.params oC xP xS fW fC (n : Int) true)
  (hP : PathsO w.params oP lK xA last num la)
  (hA : PathO w.params oA "away" "proven" fr recv lc dl false)
  (nm0_0 : @Ne Nat xC dP)
  (nm0_1 : @Ne Nat dC dP)
  (nm0_2 : @Ne Nat xP dP)
  (nm0_3 : @Ne Nat xA dP)
  (nm0_4 : @Ne Nat dA dP)
  (nm0_5 : @Ne Nat la dP)
  (hr0 : ∀ p ∈ rest, p.1 ≠ dP)
  (F : Fr g L s.heap m)
  (N : News g L s.heap ((dP, oP) :: (xC, instObj 410 dC) :: (dC, oC) :: (xP, instObj 243 dP) :: (xA, instObj 126 dA) :: (dA, oA) :: (la, listOf #[] ka) :: rest))
  (h : ∀ oP' D la' nD kl tk' h', (∀ p ∈ rest, p.1 ≠ D) → @Ne Nat dP D → (∀ p ∈ rest, p.1 ≠ la') → @Ne Nat dP la' → PathsO w.params oP' lK xA last num la' → Fr g L h' m → News g L h' ((D, listOf #[] nD) :: (la', listOf #[] kl) :: (dP, oP') :: rest) → Q (.ref D) { s with heap := h', toks := tk' })
  (X : (kF w.params).In g) :
  wpAny (MP w) (callerA.deeper (envOf (Str.ofString "law") lawScope L fa (Value.ref 432))) (PySem.call (.ref 26) [.ref xC, .int now u1]) Q E s := by
  revert X
  dsimp only [MP]
  k_fill
  intro X
  generalize hs : lawScope = sc
  conv at hs => lhs; whnf
  subst hs
  dsimp only [looseP] at T
  repeat' (first | ((fail_if_success (with_reducible show wpAny _ _ _ _ _ _)); (refine h ?oPqv ?Dv ?laqv ?nDv ?klv _ _ ?nfD0 ?nfDdP ?nflaq0 ?nflaqdP ?hP ?hF ?hN; (case hF => assumption); (case hN => exact News.subs (by assumption) (by lcg_sub)); (case hP => first | assumption | exact PathsO.mk ..); (case nfD0 => k_all); (case nfDdP => k_ne); (case nflaq0 => k_all); (case nflaqdP => k_ne))) | (with_reducible exact absurd rfl (by assumption)) | 
    ((with_reducible show wpAny _ _ (execs _ _) _ _ _); first
    | (k_here; (with_reducible show wpAny _ _ (execs [_, _, _] (envOfC (Str.ofString "path_frames") _ _ _ _)) _ _ _); k_dflt (refine' pf2P_w ?F ?N ?m1 ?m1b ?hC ?m2 ?m2b ?hP ?m5 ?m6 ?hA ?T ?K0 ?X ?_; (case F => exact frPf (by k_asm) (by rfl) (by rfl) (by rfl)); (case N => k_asm); (case m1 => k_mem); (case m1b => k_mem); (case hC => first | assumption | exact ConnO.zero .. | exact ConnO.again .. | exact PathsO.mk .. | exact PathO.mk ..); (case m2 => k_mem); (case m2b => k_mem); (case hP => first | assumption | exact ConnO.zero .. | exact ConnO.again .. | exact PathsO.mk .. | exact PathO.mk ..); (case m5 => k_mem); (case m6 => k_mem); (case hA => first | assumption | exact ConnO.zero .. | exact ConnO.again .. | exact PathsO.mk .. | exact PathO.mk ..); (case T => assumption); (case K0 => assumption); (case X => assumption); k_whole); intro m' tk' h' F' N'; (try k_sweep))) | (k_unfold; (try dsimp only)) | (k_end; wrow_close) | walk1 | (dsimp only; walk1) | (leave1; walk_say "STEP leave1"; try dsimp only) | fail "no step")

theorem pfPN_ct {w : World} {g : Heap} {L fa : Addr} {mg mb mean} {s : Shared} {Q : Value → Shared → Prop} {E : Value → Shared → Prop} {m : Str → Option Value} {xC dC xP dP xA dA lK lc la last fW fC n ka xS : Nat} {oC oP oA : Obj} {fr : Bool} {recv num now : Int} {dl : Value} {u1 : Tok} {rest : List (Addr × Obj)} {news : List (Addr × Obj)}
  (F : Fr g L s.heap m) (N : News g L s.heap news)
  (m1 : (xC, instObj 410 dC) ∈ news)
  (t1 : (dC, oC) ∈ news)
  (hC : ConnO w.params oC xP xS fW fC (n : Int) true)
  (m2 : (xP, instObj 243 dP) ∈ news)
  (t2 : Take (dP, oP) news rest)
  (hP : PathsO w.params oP lK xA last num la)
  (m5 : (xA, instObj 126 dA) ∈ news)
  (t3 : (dA, oA) ∈ news)
  (hA : PathO w.params oA "away" "proven" fr recv lc dl false)
  (m6 : (la, listOf #[] ka) ∈ news)
  (nm0_0 : @Ne Nat xC dP)
  (nm0_1 : @Ne Nat dC dP)
  (nm0_2 : @Ne Nat xP dP)
  (nm0_3 : @Ne Nat xA dP)
  (nm0_4 : @Ne Nat dA dP)
  (nm0_5 : @Ne Nat la dP)
  (hr0 : ∀ p ∈ rest, p.1 ≠ dP)
  (T : Top topProg looseP mean mg mb g) (K0 : Below callerA g [] g) (X : (kF w.params).In g)
  (h : ∀ oP' D la' nD kl tk' h', (∀ p ∈ rest, p.1 ≠ D) → @Ne Nat dP D → (∀ p ∈ rest, p.1 ≠ la') → @Ne Nat dP la' → PathsO w.params oP' lK xA last num la' → Fr g L h' m → News g L h' ((D, listOf #[] nD) :: (la', listOf #[] kl) :: (dP, oP') :: rest) → Q (.ref D) { s with heap := h', toks := tk' }) :
  wpAny (MP w) (callerA.deeper (envOf (Str.ofString "law") lawScope L fa (Value.ref 432))) (PySem.call (.ref 26) [.ref xC, .int now u1]) Q E s := by
  have hall : ∀ q, (q = (dP, oP) ∨ q ∈ rest) → q ∈ news := by
    intro q hq
    rcases hq with rfl | hq
    · exact t2.sub _ (.inl rfl)
    exact t2.sub _ (.inr hq)
  refine pfPN_ct0 (xC := xC) (dC := dC) (xP := xP) (dP := dP) (xA := xA) (dA := dA) (lK := lK) (lc := lc) (la := la) (last := last) (fW := fW) (fC := fC) (n := n) (ka := ka) (xS := xS) (oC := oC) (oP := oP) (oA := oA) (fr := fr) (recv := recv) (num := num) (now := now) (dl := dl) (u1 := u1) (rest := rest) T K0 hC hP hA nm0_0 nm0_1 nm0_2 nm0_3 nm0_4 nm0_5 hr0 F (fun p hp => N p ?_) h X
  rcases List.mem_cons.mp hp with rfl | hp
  · exact hall _ (.inl rfl)
  rcases List.mem_cons.mp hp with rfl | hp
  · exact m1
  rcases List.mem_cons.mp hp with rfl | hp
  · exact t1
  rcases List.mem_cons.mp hp with rfl | hp
  · exact m2
  rcases List.mem_cons.mp hp with rfl | hp
  · exact m5
  rcases List.mem_cons.mp hp with rfl | hp
  · exact t3
  rcases List.mem_cons.mp hp with rfl | hp
  · exact m6
  exact hall _ (.inr hp)
set_option maxRecDepth 100000 in
set_option maxHeartbeats 0 in
theorem AF_0 {w : World} {g : Heap} {L fa : Addr} {mg mb mean} {s : Shared} {Q : Flow → Shared → Prop} {E : Value → Shared → Prop} {m : Str → Option Value} {turn num now : Int} {to tn tw : Tok} {xC dC xP dP lK xH dH lH la last xS fW fC nK lG BX : Nat} {oC oP oH : Obj} {cn hgh : Int} {pr : Bool} {rest : List (Addr × Obj)}
  (T : Top topProg looseP mean mg mb g) (K0 : Below callerA g [] g) (CH : CodeHd g 432 430)
  (hC : ConnO w.params oC xP xS fW fC cn false)
  (hP : PathsO w.params oP lK xH last hgh la)
  (hH : PathO w.params oH "home" "proven" true 0 lH .none false)
  (b1 : hgh < num + 1)
  (nt0_1 : @Ne Nat lK dP)
  (nm0_0 : @Ne Nat xC dP)
  (nm0_1 : @Ne Nat dC dP)
  (nm0_2 : @Ne Nat xP dP)
  (nm0_3 : @Ne Nat xH dP)
  (nm0_4 : @Ne Nat dH dP)
  (nm1_0 : @Ne Nat xC lK)
  (nm1_1 : @Ne Nat dC lK)
  (nm1_2 : @Ne Nat xP lK)
  (nm1_3 : @Ne Nat xH lK)
  (nm1_4 : @Ne Nat dH lK)
  (hr0 : ∀ p ∈ rest, p.1 ≠ dP)
  (hr1 : ∀ p ∈ rest, p.1 ≠ lK)
  (F : Fr g L s.heap (lm turn to num tn now tw pr lG BX xC m))
  (N : News g L s.heap ((dP, oP) :: (lK, listOf #[.ref xH] nK) :: (xC, instObj 410 dC) :: (dC, oC) :: (xP, instObj 243 dP) :: (xH, instObj 126 dH) :: (dH, oH) :: rest))
  (h : ∀ dA xA lc oP' oA' nK' tn' tw' m' tk' h', (∀ p ∈ rest, p.1 ≠ dA) → @Ne Nat dP dA → @Ne Nat lK dA → (∀ p ∈ rest, p.1 ≠ xA) → @Ne Nat dP xA → @Ne Nat lK xA → (∀ p ∈ rest, p.1 ≠ lc) → @Ne Nat dP lc → @Ne Nat lK lc → @Ne Nat xA dA → @Ne Nat lc dA → PathsO w.params oP' lK xA xH (num + 1) la → PathO w.params oA' "away" "unproven" false 100 lc .none false → Fr g L h' (lm turn to (num + 1) tn' (now) tw' pr lG BX xC m') → News g L h' ((lc, listOf #[] 0) :: (xA, instObj 126 dA) :: (dA, oA') :: (dP, oP') :: (lK, listOf #[.ref xH, .ref xA] nK') :: rest) → wpAny (MP w) (callerA.deeper (envOf (Str.ofString "law") lawScope L fa (Value.ref 432))) (execs (turnBody.drop 3) (envOf (Str.ofString "law") lawScope L fa (Value.ref 432))) Q E { s with heap := h', toks := tk' })
  (X : (kF w.params).In g) :
  wpAny (MP w) (callerA.deeper (envOf (Str.ofString "law") lawScope L fa (Value.ref 432))) (execs (turnBody.drop 0) (envOf (Str.ofString "law") lawScope L fa (Value.ref 432))) Q E s := by
  revert X
  dsimp only [MP]
  k_fill
  intro X
  unfold lm at F
  generalize hs : lawScope = sc at h ⊢
  conv at hs => lhs; whnf
  subst hs
  generalize hs : turnBody.drop 0 = sc
  conv at hs => lhs; whnf
  subst hs
  generalize hs : turnBody.drop 3 = sc at h
  conv at hs => lhs; whnf
  subst hs
  dsimp only [looseP] at T
  repeat' (first | ((first | (with_reducible show wpAny _ _ (execs _ _) _ _ _) | ((fail_if_success (with_reducible show wpAny _ _ _ _ _ _)); dsimp only; (with_reducible show wpAny _ _ (execs _ _) _ _ _))); ((with_reducible refine' h _ _ _ _ _ _ _ _ _ _ _ ?nfdA0 ?nfdAdP ?nfdAlK ?nfxA0 ?nfxAdP ?nfxAlK ?nflc0 ?nflcdP ?nflclK ?fc0 ?fc1 ?fc2 ?fc3 ?hF ?hN); (case hF => exact frLaw (by k_asm) (by rfl) (by rfl) (by rfl) (by rfl) (by rfl) (by rfl) (by rfl)); (case hN => exact News.subs (by k_asm) (by lcg_sub)); (case fc3 => first | assumption | exact PathsO.mk .. | exact PathO.mk .. | exact ConnO.again .. | exact ConnO.zero .. | k_ne | omega); (case fc2 => first | assumption | exact PathsO.mk .. | exact PathO.mk .. | exact ConnO.again .. | exact ConnO.zero .. | k_ne | omega); (case fc1 => first | assumption | exact PathsO.mk .. | exact PathO.mk .. | exact ConnO.again .. | exact ConnO.zero .. | k_ne | omega); (case fc0 => first | assumption | exact PathsO.mk .. | exact PathO.mk .. | exact ConnO.again .. | exact ConnO.zero .. | k_ne | omega); (case nfdA0 => k_all); (case nfdAdP => k_ne); (case nfdAlK => k_ne); (case nfxA0 => k_all); (case nfxAdP => k_ne); (case nfxAlK => k_ne); (case nflc0 => k_all); (case nflcdP => k_ne); (case nflclK => k_ne))) | 
    ((with_reducible show wpAny _ _ (subscriptTail _ _ _ _) _ _ _); first
    | (k_here; (with_reducible show wpAny _ _ (subscriptTail _ _ (Value.ref lG) (Value.int _ _)) _ _ _); k_dflt (first | (refine' gl_item (j := (n : Int)) ?N ?m ?e ?h0 ?h1 ?hN ?_; (case e => omega); (case N => k_asm); (case m => k_mem); (case h0 => omega); (case h1 => omega); (case hN => omega); k_whole) | (refine' gl_item ?N ?m ?e ?h0 ?h1 ?hN ?_; (case e => rfl); (case N => k_asm); (case m => k_mem); (case h0 => omega); (case h1 => omega); (case hN => omega); k_whole)))
    | (k_here; (with_reducible show wpAny _ _ (subscriptTail _ _ (Value.ref lG) (Value.int _ _)) _ _ _); k_dflt (first | (refine' gl_item (j := (n : Int)) ?N ?m ?e ?h0 ?h1 ?hN ?_; (case e => omega); (case N => k_asm); (case m => k_mem); (case h0 => omega); (case h1 => omega); (case hN => omega); k_whole) | (refine' gl_item ?N ?m ?e ?h0 ?h1 ?hN ?_; (case e => rfl); (case N => k_asm); (case m => k_mem); (case h0 => omega); (case h1 => omega); (case hN => omega); k_whole)))) | ((with_reducible show wpAny _ _ (PySem.call _ _) _ _ _); first
    | (k_here; (with_reducible show wpAny _ _ (PySem.call (Value.type "bytes") [Value.int 8 _]) _ _ _); k_dflt (refine' call_bytes8 ?_; k_whole); intro t' k')
    | (k_here; (with_reducible show wpAny _ _ (call (Value.builtin _) [Value.ref _, _]) _ _ _); k_dflt (refine' append_K ?k1 ?k2 ?k3 ?_ ?z; (case k1 => k_asm); (case k2 => k_asm); (case k3 => k_upd); (case z => first | exact gl_fits _ (by omega) | exact Nat.le_of_ble_eq_true rfl); k_whole); intro h' F' N'; (try k_sweep))
    | (k_here; (with_reducible show wpAny _ _ (call (Value.builtin "len") [Value.ref _]) _ _ _); k_dflt (refine' kun_lenL ?k1 ?k2 ?k3 ?_; (case k1 => exact News.isList (by k_asm) (by k_mem)); (case k2 => first | exact gl_size1 _ _ | exact gl_size _ _); (case k3 => omega); k_whole))
    | (k_here; (with_reducible show wpAny _ _ (PySem.call (Value.ref 428) [Value.ref _, Value.int _ _]) _ _ _); k_dflt (refine' take_ct (oX := listOf #[] 0) ?T ?K0 ?F ?N ?hI ?U ?hdb ?hlen ?hk ?hk2 ?hm ?hm2 ?hne ?X ?_; (case T => assumption); (case K0 => assumption); (case F => k_asm); (case N => k_asm); (case hI => assumption); (case U => k_upd); (case hdb => k_mem); (case hlen => first | assumption | omega); (case hk => omega); (case hk2 => omega); (case hm => omega); (case hm2 => omega); (case hne => first | assumption | omega); (case X => assumption); k_whole); intro r' tr' tk' tb' h' hr0 hr1 F' HN'; (have N' := HN' _ (by k_upd)); clear HN'; (try k_sweep); (first | (refine split2 hr0 hr1 ?_ ?_ <;> (intro re'; subst re')) | (refine split3 hr0 hr1 ?_ ?_ ?_ <;> (intro re'; subst re')) | (refine splitN (n := n) hr0 hr1 (by omega) ?_ ?_ <;> (intro re'; first | subst re' | (obtain ⟨nl0, nl1⟩ := re'))) | skip))
    | (k_here; (with_reducible show wpAny _ _ (PySem.call (Value.ref 172) [Value.ref _, Value.str _ _, Value.int _ _, Value.bool _]) _ _ _); k_dflt (refine' opU_ct ?F ?N ?m1 ?t ?hP ?m3 ?m4 ?m5 ?hH ?m6 ?m7 ?hA ?hn ?nm0_0 ?nm0_1 ?nm0_2 ?nm0_3 ?nm0_4 ?nm0_5 ?hr0 ?T ?K0 ?X ?_; (case F => k_asm); (case N => k_asm); (case m1 => k_mem); (case t => k_offL); (case hP => first | assumption | exact PathsO.mk .. | exact PathO.mk .. | exact ConnO.again .. | exact ConnO.zero ..); (case m3 => k_mem); (case m4 => k_mem); (case m5 => k_mem); (case hH => first | assumption | exact PathsO.mk .. | exact PathO.mk .. | exact ConnO.again .. | exact ConnO.zero ..); (case m6 => k_mem); (case m7 => k_mem); (case hA => first | assumption | exact PathsO.mk .. | exact PathO.mk .. | exact ConnO.again .. | exact ConnO.zero ..); (case hn => first | assumption | omega); (case nm0_0 => k_ne); (case nm0_1 => k_ne); (case nm0_2 => k_ne); (case nm0_3 => k_ne); (case nm0_4 => k_ne); (case nm0_5 => k_ne); (case hr0 => k_all); (case T => assumption); (case K0 => assumption); (case X => assumption); k_whole); intro oP' hi' tk' h' hiE hP' F' N'; subst hiE; (try simp only [List.cons_append, List.nil_append] at N'); (try k_sweep))
    | (k_here; (with_reducible show wpAny _ _ (PySem.call (Value.ref 165) [Value.ref _, Value.str _ _, Value.int _ _]) _ _ _); k_dflt (refine' odN_ct ?F ?N ?m1 ?m2 ?hP ?t ?m4 ?m5 ?hH ?nm0_0 ?nm0_1 ?nm0_2 ?nm0_3 ?hr0 ?T ?K0 ?X ?_; (case F => k_asm); (case N => k_asm); (case m1 => k_mem); (case m2 => k_mem); (case hP => first | assumption | exact PathsO.mk .. | exact PathO.mk .. | exact ConnO.again .. | exact ConnO.zero ..); (case t => k_offL); (case m4 => k_mem); (case m5 => k_mem); (case hH => first | assumption | exact PathsO.mk .. | exact PathO.mk .. | exact ConnO.again .. | exact ConnO.zero ..); (case nm0_0 => k_ne); (case nm0_1 => k_ne); (case nm0_2 => k_ne); (case nm0_3 => k_ne); (case hr0 => k_all); (case T => assumption); (case K0 => assumption); (case X => assumption); k_whole); intro dA xA lc oA' nK' tk' h' nfdA0 nfdAlK nfxA0 nfxAlK nflc0 nflclK ne1 ne2 hA' F' N'; (try simp only [List.cons_append, List.nil_append] at N'); (try k_sweep))) | ((with_reducible show wpAny _ _ (compareOp _ _ _) _ _ _); first
    | (k_here; (with_reducible show wpAny _ _ (compareOp CmpOp.Eq (Value.bytes _ _) (Value.bytes _ _)) _ _ _); first | refine eqB_no (by assumption) ?_ | refine eqB_yes rfl ?_)) | (k_unfold; (try dsimp only)) | (k_end; wrow_close) | walk1 | (dsimp only; walk1) | (leave1; walk_say "STEP leave1"; try dsimp only) | fail "no step")

set_option maxRecDepth 100000 in
set_option maxHeartbeats 0 in
theorem AF_w {w : World} {g : Heap} {L fa : Addr} {mg mb mean} {s : Shared} {Q : Flow → Shared → Prop} {E : Value → Shared → Prop} {m : Str → Option Value} {turn num now : Int} {to tn tw : Tok} {xC dC xP dP lK xH dH lH la last xS fW fC nK lG BX : Nat} {oC oP oH : Obj} {cn hgh : Int} {pr : Bool} {rest : List (Addr × Obj)} {news : List (Addr × Obj)} {r0 : List (Addr × Obj)}
  (F : Fr g L s.heap (lm turn to num tn now tw pr lG BX xC m))
  (N : News g L s.heap news)
  (mc1 : (xC, instObj 410 dC) ∈ news)
  (mc2 : (dC, oC) ∈ news)
  (hC : ConnO w.params oC xP xS fW fC cn false)
  (m2 : (xP, instObj 243 dP) ∈ news)
  (t : Take (dP, oP) news r0)
  (hP : PathsO w.params oP lK xH last hgh la)
  (t2 : Take (lK, listOf #[.ref xH] nK) r0 rest)
  (mh1 : (xH, instObj 126 dH) ∈ news)
  (mh2 : (dH, oH) ∈ news)
  (hH : PathO w.params oH "home" "proven" true 0 lH .none false)
  (b1 : hgh < num + 1)
  (nt0_1 : @Ne Nat lK dP)
  (nm0_0 : @Ne Nat xC dP)
  (nm0_1 : @Ne Nat dC dP)
  (nm0_2 : @Ne Nat xP dP)
  (nm0_3 : @Ne Nat xH dP)
  (nm0_4 : @Ne Nat dH dP)
  (nm1_0 : @Ne Nat xC lK)
  (nm1_1 : @Ne Nat dC lK)
  (nm1_2 : @Ne Nat xP lK)
  (nm1_3 : @Ne Nat xH lK)
  (nm1_4 : @Ne Nat dH lK)
  (hr0 : ∀ p ∈ rest, p.1 ≠ dP)
  (hr1 : ∀ p ∈ rest, p.1 ≠ lK)
  (T : Top topProg looseP mean mg mb g) (K0 : Below callerA g [] g) (CH : CodeHd g 432 430) (X : (kF w.params).In g)
  (h : ∀ dA xA lc oP' oA' nK' tn' tw' m' tk' h', (∀ p ∈ rest, p.1 ≠ dA) → @Ne Nat dP dA → @Ne Nat lK dA → (∀ p ∈ rest, p.1 ≠ xA) → @Ne Nat dP xA → @Ne Nat lK xA → (∀ p ∈ rest, p.1 ≠ lc) → @Ne Nat dP lc → @Ne Nat lK lc → @Ne Nat xA dA → @Ne Nat lc dA → PathsO w.params oP' lK xA xH (num + 1) la → PathO w.params oA' "away" "unproven" false 100 lc .none false → Fr g L h' (lm turn to (num + 1) tn' (now) tw' pr lG BX xC m') → News g L h' ((lc, listOf #[] 0) :: (xA, instObj 126 dA) :: (dA, oA') :: (dP, oP') :: (lK, listOf #[.ref xH, .ref xA] nK') :: rest) → wpAny (MP w) (callerA.deeper (envOf (Str.ofString "law") lawScope L fa (Value.ref 432))) (execs (turnBody.drop 3) (envOf (Str.ofString "law") lawScope L fa (Value.ref 432))) Q E { s with heap := h', toks := tk' })
  :
  wpAny (MP w) (callerA.deeper (envOf (Str.ofString "law") lawScope L fa (Value.ref 432))) (execs (turnBody.drop 0) (envOf (Str.ofString "law") lawScope L fa (Value.ref 432))) Q E s := by
  have hall : ∀ q, (q = (dP, oP) ∨ q = (lK, listOf #[.ref xH] nK) ∨ q ∈ rest) → q ∈ news := by
    intro q hq
    rcases hq with rfl | hq
    · exact t.sub _ (.inl rfl)
    rcases hq with rfl | hq
    · exact t.sub _ (.inr (t2.sub _ (.inl rfl)))
    exact t.sub _ (.inr (t2.sub _ (.inr hq)))
  with_reducible refine' AF_0 (xC := xC) (dC := dC) (xP := xP) (dP := dP) (lK := lK) (xH := xH) (dH := dH) (lH := lH) (la := la) (last := last) (xS := xS) (fW := fW) (fC := fC) (nK := nK) (lG := lG) (BX := BX) (oC := oC) (oP := oP) (oH := oH) (cn := cn) (hgh := hgh) (pr := pr) (turn := turn) (num := num) (now := now) (to := to) (tn := tn) (tw := tw) (m := m) (rest := rest) T K0 CH hC hP hH b1 nt0_1 nm0_0 nm0_1 nm0_2 nm0_3 nm0_4 nm1_0 nm1_1 nm1_2 nm1_3 nm1_4 hr0 hr1 F ?hN h X
  intro p hp
  refine N p ?_
  rcases List.mem_cons.mp hp with rfl | hp
  · exact hall _ (.inl rfl)
  rcases List.mem_cons.mp hp with rfl | hp
  · exact hall _ (.inr (.inl rfl))
  rcases List.mem_cons.mp hp with rfl | hp
  · exact mc1
  rcases List.mem_cons.mp hp with rfl | hp
  · exact mc2
  rcases List.mem_cons.mp hp with rfl | hp
  · exact m2
  rcases List.mem_cons.mp hp with rfl | hp
  · exact mh1
  rcases List.mem_cons.mp hp with rfl | hp
  · exact mh2
  exact hall _ (.inr (.inr hp))
set_option maxRecDepth 100000 in
set_option maxHeartbeats 0 in
theorem AU_0 {w : World} {g : Heap} {L fa : Addr} {mg mb mean} {s : Shared} {Q : Flow → Shared → Prop} {E : Value → Shared → Prop} {m : Str → Option Value} {turn num now : Int} {to tn tw : Tok} {xC dC xP dP lK xH dH xA dA lH lc la last xS fW fC nK lG BX : Nat} {oC oP oH oA : Obj} {cn hgh recv : Int} {mo pr : Bool} {rest : List (Addr × Obj)}
  (T : Top topProg looseP mean mg mb g) (K0 : Below callerA g [] g) (CH : CodeHd g 432 430)
  (hC : ConnO w.params oC xP xS fW fC cn true)
  (hP : PathsO w.params oP lK xH last hgh la)
  (hH : PathO w.params oH "home" "proven" true 0 lH .none false)
  (hA : PathO w.params oA "away" "failed" false recv lc .none mo)
  (b1 : hgh < num + 1)
  (b2 : 0 ≤ recv)
  (b3 : recv ≤ 1000)
  (nt0_1 : @Ne Nat dA dP)
  (nm0_0 : @Ne Nat xC dP)
  (nm0_1 : @Ne Nat dC dP)
  (nm0_2 : @Ne Nat xP dP)
  (nm0_3 : @Ne Nat lK dP)
  (nm0_4 : @Ne Nat xH dP)
  (nm0_5 : @Ne Nat dH dP)
  (nm0_6 : @Ne Nat xA dP)
  (nm1_0 : @Ne Nat xC dA)
  (nm1_1 : @Ne Nat dC dA)
  (nm1_2 : @Ne Nat xP dA)
  (nm1_3 : @Ne Nat lK dA)
  (nm1_4 : @Ne Nat xH dA)
  (nm1_5 : @Ne Nat dH dA)
  (nm1_6 : @Ne Nat xA dA)
  (hr0 : ∀ p ∈ rest, p.1 ≠ dP)
  (hr1 : ∀ p ∈ rest, p.1 ≠ dA)
  (F : Fr g L s.heap (lm turn to num tn now tw pr lG BX xC m))
  (N : News g L s.heap ((dP, oP) :: (dA, oA) :: (xC, instObj 410 dC) :: (dC, oC) :: (xP, instObj 243 dP) :: (lK, listOf #[.ref xH, .ref xA] nK) :: (xH, instObj 126 dH) :: (dH, oH) :: (xA, instObj 126 dA) :: rest))
  (h : ∀ oP' oA' tn' tw' m' tk' h', PathsO w.params oP' lK xA xH (num + 1) la → PathO w.params oA' "away" "unproven" false (recv + 100) lc .none mo → Fr g L h' (lm turn to (num + 1) tn' (now) tw' pr lG BX xC m') → News g L h' ((dP, oP') :: (dA, oA') :: rest) → wpAny (MP w) (callerA.deeper (envOf (Str.ofString "law") lawScope L fa (Value.ref 432))) (execs (turnBody.drop 3) (envOf (Str.ofString "law") lawScope L fa (Value.ref 432))) Q E { s with heap := h', toks := tk' })
  (X : (kF w.params).In g) :
  wpAny (MP w) (callerA.deeper (envOf (Str.ofString "law") lawScope L fa (Value.ref 432))) (execs (turnBody.drop 0) (envOf (Str.ofString "law") lawScope L fa (Value.ref 432))) Q E s := by
  revert X
  dsimp only [MP]
  k_fill
  intro X
  unfold lm at F
  generalize hs : lawScope = sc at h ⊢
  conv at hs => lhs; whnf
  subst hs
  generalize hs : turnBody.drop 0 = sc
  conv at hs => lhs; whnf
  subst hs
  generalize hs : turnBody.drop 3 = sc at h
  conv at hs => lhs; whnf
  subst hs
  dsimp only [looseP] at T
  repeat' (first | ((first | (with_reducible show wpAny _ _ (execs _ _) _ _ _) | ((fail_if_success (with_reducible show wpAny _ _ _ _ _ _)); dsimp only; (with_reducible show wpAny _ _ (execs _ _) _ _ _))); ((with_reducible refine' h _ _ _ _ _ _ _  ?fc0 ?fc1 ?hF ?hN); (case hF => exact frLaw (by k_asm) (by rfl) (by rfl) (by rfl) (by rfl) (by rfl) (by rfl) (by rfl)); (case hN => exact News.subs (by k_asm) (by lcg_sub)); (case fc1 => first | assumption | exact PathsO.mk .. | exact PathO.mk .. | exact ConnO.again .. | exact ConnO.zero .. | k_ne | omega); (case fc0 => first | assumption | exact PathsO.mk .. | exact PathO.mk .. | exact ConnO.again .. | exact ConnO.zero .. | k_ne | omega))) | 
    ((with_reducible show wpAny _ _ (subscriptTail _ _ _ _) _ _ _); first
    | (k_here; (with_reducible show wpAny _ _ (subscriptTail _ _ (Value.ref lG) (Value.int _ _)) _ _ _); k_dflt (first | (refine' gl_item (j := (n : Int)) ?N ?m ?e ?h0 ?h1 ?hN ?_; (case e => omega); (case N => k_asm); (case m => k_mem); (case h0 => omega); (case h1 => omega); (case hN => omega); k_whole) | (refine' gl_item ?N ?m ?e ?h0 ?h1 ?hN ?_; (case e => rfl); (case N => k_asm); (case m => k_mem); (case h0 => omega); (case h1 => omega); (case hN => omega); k_whole)))
    | (k_here; (with_reducible show wpAny _ _ (subscriptTail _ _ (Value.ref lG) (Value.int _ _)) _ _ _); k_dflt (first | (refine' gl_item (j := (n : Int)) ?N ?m ?e ?h0 ?h1 ?hN ?_; (case e => omega); (case N => k_asm); (case m => k_mem); (case h0 => omega); (case h1 => omega); (case hN => omega); k_whole) | (refine' gl_item ?N ?m ?e ?h0 ?h1 ?hN ?_; (case e => rfl); (case N => k_asm); (case m => k_mem); (case h0 => omega); (case h1 => omega); (case hN => omega); k_whole)))) | ((with_reducible show wpAny _ _ (PySem.call _ _) _ _ _); first
    | (k_here; (with_reducible show wpAny _ _ (PySem.call (Value.type "bytes") [Value.int 8 _]) _ _ _); k_dflt (refine' call_bytes8 ?_; k_whole); intro t' k')
    | (k_here; (with_reducible show wpAny _ _ (call (Value.builtin _) [Value.ref _, _]) _ _ _); k_dflt (refine' append_K ?k1 ?k2 ?k3 ?_ ?z; (case k1 => k_asm); (case k2 => k_asm); (case k3 => k_upd); (case z => first | exact gl_fits _ (by omega) | exact Nat.le_of_ble_eq_true rfl); k_whole); intro h' F' N'; (try k_sweep))
    | (k_here; (with_reducible show wpAny _ _ (call (Value.builtin "len") [Value.ref _]) _ _ _); k_dflt (refine' kun_lenL ?k1 ?k2 ?k3 ?_; (case k1 => exact News.isList (by k_asm) (by k_mem)); (case k2 => first | exact gl_size1 _ _ | exact gl_size _ _); (case k3 => omega); k_whole))
    | (k_here; (with_reducible show wpAny _ _ (PySem.call (Value.ref 428) [Value.ref _, Value.int _ _]) _ _ _); k_dflt (refine' take_ct (oX := listOf #[] 0) ?T ?K0 ?F ?N ?hI ?U ?hdb ?hlen ?hk ?hk2 ?hm ?hm2 ?hne ?X ?_; (case T => assumption); (case K0 => assumption); (case F => k_asm); (case N => k_asm); (case hI => assumption); (case U => k_upd); (case hdb => k_mem); (case hlen => first | assumption | omega); (case hk => omega); (case hk2 => omega); (case hm => omega); (case hm2 => omega); (case hne => first | assumption | omega); (case X => assumption); k_whole); intro r' tr' tk' tb' h' hr0 hr1 F' HN'; (have N' := HN' _ (by k_upd)); clear HN'; (try k_sweep); (first | (refine split2 hr0 hr1 ?_ ?_ <;> (intro re'; subst re')) | (refine split3 hr0 hr1 ?_ ?_ ?_ <;> (intro re'; subst re')) | (refine splitN (n := n) hr0 hr1 (by omega) ?_ ?_ <;> (intro re'; first | subst re' | (obtain ⟨nl0, nl1⟩ := re'))) | skip))
    | (k_here; (with_reducible show wpAny _ _ (PySem.call (Value.ref 172) [Value.ref _, Value.str _ _, Value.int _ _, Value.bool _]) _ _ _); k_dflt (refine' opF_ct ?F ?N ?m1 ?t ?hP ?m3 ?m4 ?m5 ?hH ?m6 ?t2 ?hA ?hn ?nt0_1 ?nm0_0 ?nm0_1 ?nm0_2 ?nm0_3 ?nm0_4 ?nm1_0 ?nm1_1 ?nm1_2 ?nm1_3 ?nm1_4 ?hr0 ?hr1 ?T ?K0 ?X ?_; (case F => k_asm); (case N => k_asm); (case m1 => k_mem); (case t => k_offL); (case hP => first | assumption | exact PathsO.mk .. | exact PathO.mk .. | exact ConnO.again .. | exact ConnO.zero ..); (case m3 => k_mem); (case m4 => k_mem); (case m5 => k_mem); (case hH => first | assumption | exact PathsO.mk .. | exact PathO.mk .. | exact ConnO.again .. | exact ConnO.zero ..); (case m6 => k_mem); (case t2 => k_offL); (case hA => first | assumption | exact PathsO.mk .. | exact PathO.mk .. | exact ConnO.again .. | exact ConnO.zero ..); (case hn => first | assumption | omega); (case nt0_1 => k_ne); (case nm0_0 => k_ne); (case nm0_1 => k_ne); (case nm0_2 => k_ne); (case nm0_3 => k_ne); (case nm0_4 => k_ne); (case nm1_0 => k_ne); (case nm1_1 => k_ne); (case nm1_2 => k_ne); (case nm1_3 => k_ne); (case nm1_4 => k_ne); (case hr0 => k_all); (case hr1 => k_all); (case T => assumption); (case K0 => assumption); (case X => assumption); k_whole); intro oP' oA' hi' tk' h' hiE hP' hA' F' N'; subst hiE; (try simp only [List.cons_append, List.nil_append] at N'); (try k_sweep))
    | (k_here; (with_reducible show wpAny _ _ (PySem.call (Value.ref 165) [Value.ref _, Value.str _ _, Value.int _ _]) _ _ _); k_dflt (refine' od_ct ?F ?N ?m1 ?m2 ?hP ?m3 ?m4 ?m5 ?hH ?m6 ?t ?hA ?h0 ?h1 ?nm0_0 ?nm0_1 ?nm0_2 ?nm0_3 ?nm0_4 ?nm0_5 ?hr0 ?T ?K0 ?X ?_; (case F => k_asm); (case N => k_asm); (case m1 => k_mem); (case m2 => k_mem); (case hP => first | assumption | exact PathsO.mk .. | exact PathO.mk .. | exact ConnO.again .. | exact ConnO.zero ..); (case m3 => k_mem); (case m4 => k_mem); (case m5 => k_mem); (case hH => first | assumption | exact PathsO.mk .. | exact PathO.mk .. | exact ConnO.again .. | exact ConnO.zero ..); (case m6 => k_mem); (case t => k_offL); (case hA => first | assumption | exact PathsO.mk .. | exact PathO.mk .. | exact ConnO.again .. | exact ConnO.zero ..); (case h0 => first | assumption | omega); (case h1 => first | assumption | omega); (case nm0_0 => k_ne); (case nm0_1 => k_ne); (case nm0_2 => k_ne); (case nm0_3 => k_ne); (case nm0_4 => k_ne); (case nm0_5 => k_ne); (case hr0 => k_all); (case T => assumption); (case K0 => assumption); (case X => assumption); k_whole); intro oA' tk' h' hA' F' N'; (try simp only [List.cons_append, List.nil_append] at N'); (try k_sweep))) | ((with_reducible show wpAny _ _ (compareOp _ _ _) _ _ _); first
    | (k_here; (with_reducible show wpAny _ _ (compareOp CmpOp.Eq (Value.bytes _ _) (Value.bytes _ _)) _ _ _); first | refine eqB_no (by assumption) ?_ | refine eqB_yes rfl ?_)) | (k_unfold; (try dsimp only)) | (k_end; wrow_close) | walk1 | (dsimp only; walk1) | (leave1; walk_say "STEP leave1"; try dsimp only) | fail "no step")

set_option maxRecDepth 100000 in
set_option maxHeartbeats 0 in
theorem AU_w {w : World} {g : Heap} {L fa : Addr} {mg mb mean} {s : Shared} {Q : Flow → Shared → Prop} {E : Value → Shared → Prop} {m : Str → Option Value} {turn num now : Int} {to tn tw : Tok} {xC dC xP dP lK xH dH xA dA lH lc la last xS fW fC nK lG BX : Nat} {oC oP oH oA : Obj} {cn hgh recv : Int} {mo pr : Bool} {rest : List (Addr × Obj)} {news : List (Addr × Obj)} {r0 : List (Addr × Obj)}
  (F : Fr g L s.heap (lm turn to num tn now tw pr lG BX xC m))
  (N : News g L s.heap news)
  (mc1 : (xC, instObj 410 dC) ∈ news)
  (mc2 : (dC, oC) ∈ news)
  (hC : ConnO w.params oC xP xS fW fC cn true)
  (m2 : (xP, instObj 243 dP) ∈ news)
  (t : Take (dP, oP) news r0)
  (hP : PathsO w.params oP lK xH last hgh la)
  (m3 : (lK, listOf #[.ref xH, .ref xA] nK) ∈ news)
  (mh1 : (xH, instObj 126 dH) ∈ news)
  (mh2 : (dH, oH) ∈ news)
  (hH : PathO w.params oH "home" "proven" true 0 lH .none false)
  (m6 : (xA, instObj 126 dA) ∈ news)
  (t2 : Take (dA, oA) r0 rest)
  (hA : PathO w.params oA "away" "failed" false recv lc .none mo)
  (b1 : hgh < num + 1)
  (b2 : 0 ≤ recv)
  (b3 : recv ≤ 1000)
  (nt0_1 : @Ne Nat dA dP)
  (nm0_0 : @Ne Nat xC dP)
  (nm0_1 : @Ne Nat dC dP)
  (nm0_2 : @Ne Nat xP dP)
  (nm0_3 : @Ne Nat lK dP)
  (nm0_4 : @Ne Nat xH dP)
  (nm0_5 : @Ne Nat dH dP)
  (nm0_6 : @Ne Nat xA dP)
  (nm1_0 : @Ne Nat xC dA)
  (nm1_1 : @Ne Nat dC dA)
  (nm1_2 : @Ne Nat xP dA)
  (nm1_3 : @Ne Nat lK dA)
  (nm1_4 : @Ne Nat xH dA)
  (nm1_5 : @Ne Nat dH dA)
  (nm1_6 : @Ne Nat xA dA)
  (hr0 : ∀ p ∈ rest, p.1 ≠ dP)
  (hr1 : ∀ p ∈ rest, p.1 ≠ dA)
  (T : Top topProg looseP mean mg mb g) (K0 : Below callerA g [] g) (CH : CodeHd g 432 430) (X : (kF w.params).In g)
  (h : ∀ oP' oA' tn' tw' m' tk' h', PathsO w.params oP' lK xA xH (num + 1) la → PathO w.params oA' "away" "unproven" false (recv + 100) lc .none mo → Fr g L h' (lm turn to (num + 1) tn' (now) tw' pr lG BX xC m') → News g L h' ((dP, oP') :: (dA, oA') :: rest) → wpAny (MP w) (callerA.deeper (envOf (Str.ofString "law") lawScope L fa (Value.ref 432))) (execs (turnBody.drop 3) (envOf (Str.ofString "law") lawScope L fa (Value.ref 432))) Q E { s with heap := h', toks := tk' })
  :
  wpAny (MP w) (callerA.deeper (envOf (Str.ofString "law") lawScope L fa (Value.ref 432))) (execs (turnBody.drop 0) (envOf (Str.ofString "law") lawScope L fa (Value.ref 432))) Q E s := by
  have hall : ∀ q, (q = (dP, oP) ∨ q = (dA, oA) ∨ q ∈ rest) → q ∈ news := by
    intro q hq
    rcases hq with rfl | hq
    · exact t.sub _ (.inl rfl)
    rcases hq with rfl | hq
    · exact t.sub _ (.inr (t2.sub _ (.inl rfl)))
    exact t.sub _ (.inr (t2.sub _ (.inr hq)))
  with_reducible refine' AU_0 (xC := xC) (dC := dC) (xP := xP) (dP := dP) (lK := lK) (xH := xH) (dH := dH) (xA := xA) (dA := dA) (lH := lH) (lc := lc) (la := la) (last := last) (xS := xS) (fW := fW) (fC := fC) (nK := nK) (lG := lG) (BX := BX) (oC := oC) (oP := oP) (oH := oH) (oA := oA) (cn := cn) (hgh := hgh) (recv := recv) (mo := mo) (pr := pr) (turn := turn) (num := num) (now := now) (to := to) (tn := tn) (tw := tw) (m := m) (rest := rest) T K0 CH hC hP hH hA b1 b2 b3 nt0_1 nm0_0 nm0_1 nm0_2 nm0_3 nm0_4 nm0_5 nm0_6 nm1_0 nm1_1 nm1_2 nm1_3 nm1_4 nm1_5 nm1_6 hr0 hr1 F ?hN h X
  intro p hp
  refine N p ?_
  rcases List.mem_cons.mp hp with rfl | hp
  · exact hall _ (.inl rfl)
  rcases List.mem_cons.mp hp with rfl | hp
  · exact hall _ (.inr (.inl rfl))
  rcases List.mem_cons.mp hp with rfl | hp
  · exact mc1
  rcases List.mem_cons.mp hp with rfl | hp
  · exact mc2
  rcases List.mem_cons.mp hp with rfl | hp
  · exact m2
  rcases List.mem_cons.mp hp with rfl | hp
  · exact m3
  rcases List.mem_cons.mp hp with rfl | hp
  · exact mh1
  rcases List.mem_cons.mp hp with rfl | hp
  · exact mh2
  rcases List.mem_cons.mp hp with rfl | hp
  · exact m6
  exact hall _ (.inr (.inr hp))
set_option maxRecDepth 100000 in
set_option maxHeartbeats 0 in
theorem AP_0 {w : World} {g : Heap} {L fa : Addr} {mg mb mean} {s : Shared} {Q : Flow → Shared → Prop} {E : Value → Shared → Prop} {m : Str → Option Value} {turn num now : Int} {to tn tw : Tok} {xC dC xP dP lK xH dH xA dA lH lc la last xS fW fC nK lG BX : Nat} {oC oP oH oA : Obj} {cn hgh recv : Int} {mo pr fr : Bool} {rest : List (Addr × Obj)}
  (T : Top topProg looseP mean mg mb g) (K0 : Below callerA g [] g) (CH : CodeHd g 432 430)
  (hC : ConnO w.params oC xP xS fW fC cn true)
  (hP : PathsO w.params oP lK xH last hgh la)
  (hH : PathO w.params oH "home" "proven" true 0 lH .none false)
  (hA : PathO w.params oA "away" "proven" fr recv lc .none mo)
  (b1 : hgh < num + 1)
  (b2 : 0 ≤ recv)
  (b3 : recv ≤ 1000)
  (nt0_1 : @Ne Nat dA dP)
  (nm0_0 : @Ne Nat xC dP)
  (nm0_1 : @Ne Nat dC dP)
  (nm0_2 : @Ne Nat xP dP)
  (nm0_3 : @Ne Nat lK dP)
  (nm0_4 : @Ne Nat xH dP)
  (nm0_5 : @Ne Nat dH dP)
  (nm0_6 : @Ne Nat xA dP)
  (nm1_0 : @Ne Nat xC dA)
  (nm1_1 : @Ne Nat dC dA)
  (nm1_2 : @Ne Nat xP dA)
  (nm1_3 : @Ne Nat lK dA)
  (nm1_4 : @Ne Nat xH dA)
  (nm1_5 : @Ne Nat dH dA)
  (nm1_6 : @Ne Nat xA dA)
  (hr0 : ∀ p ∈ rest, p.1 ≠ dP)
  (hr1 : ∀ p ∈ rest, p.1 ≠ dA)
  (F : Fr g L s.heap (lm turn to num tn now tw pr lG BX xC m))
  (N : News g L s.heap ((dP, oP) :: (dA, oA) :: (xC, instObj 410 dC) :: (dC, oC) :: (xP, instObj 243 dP) :: (lK, listOf #[.ref xH, .ref xA] nK) :: (xH, instObj 126 dH) :: (dH, oH) :: (xA, instObj 126 dA) :: rest))
  (h : ∀ oP' oA' tn' tw' m' tk' h', PathsO w.params oP' lK xA xH (num + 1) la → PathO w.params oA' "away" "proven" fr (recv + 100) lc .none mo → Fr g L h' (lm turn to (num + 1) tn' (now) tw' pr lG BX xC m') → News g L h' ((dP, oP') :: (dA, oA') :: rest) → wpAny (MP w) (callerA.deeper (envOf (Str.ofString "law") lawScope L fa (Value.ref 432))) (execs (turnBody.drop 3) (envOf (Str.ofString "law") lawScope L fa (Value.ref 432))) Q E { s with heap := h', toks := tk' })
  (X : (kF w.params).In g) :
  wpAny (MP w) (callerA.deeper (envOf (Str.ofString "law") lawScope L fa (Value.ref 432))) (execs (turnBody.drop 0) (envOf (Str.ofString "law") lawScope L fa (Value.ref 432))) Q E s := by
  revert X
  dsimp only [MP]
  k_fill
  intro X
  unfold lm at F
  generalize hs : lawScope = sc at h ⊢
  conv at hs => lhs; whnf
  subst hs
  generalize hs : turnBody.drop 0 = sc
  conv at hs => lhs; whnf
  subst hs
  generalize hs : turnBody.drop 3 = sc at h
  conv at hs => lhs; whnf
  subst hs
  dsimp only [looseP] at T
  repeat' (first | ((first | (with_reducible show wpAny _ _ (execs _ _) _ _ _) | ((fail_if_success (with_reducible show wpAny _ _ _ _ _ _)); dsimp only; (with_reducible show wpAny _ _ (execs _ _) _ _ _))); ((with_reducible refine' h _ _ _ _ _ _ _  ?fc0 ?fc1 ?hF ?hN); (case hF => exact frLaw (by k_asm) (by rfl) (by rfl) (by rfl) (by rfl) (by rfl) (by rfl) (by rfl)); (case hN => exact News.subs (by k_asm) (by lcg_sub)); (case fc1 => first | assumption | exact PathsO.mk .. | exact PathO.mk .. | exact ConnO.again .. | exact ConnO.zero .. | k_ne | omega); (case fc0 => first | assumption | exact PathsO.mk .. | exact PathO.mk .. | exact ConnO.again .. | exact ConnO.zero .. | k_ne | omega))) | 
    ((with_reducible show wpAny _ _ (subscriptTail _ _ _ _) _ _ _); first
    | (k_here; (with_reducible show wpAny _ _ (subscriptTail _ _ (Value.ref lG) (Value.int _ _)) _ _ _); k_dflt (first | (refine' gl_item (j := (n : Int)) ?N ?m ?e ?h0 ?h1 ?hN ?_; (case e => omega); (case N => k_asm); (case m => k_mem); (case h0 => omega); (case h1 => omega); (case hN => omega); k_whole) | (refine' gl_item ?N ?m ?e ?h0 ?h1 ?hN ?_; (case e => rfl); (case N => k_asm); (case m => k_mem); (case h0 => omega); (case h1 => omega); (case hN => omega); k_whole)))
    | (k_here; (with_reducible show wpAny _ _ (subscriptTail _ _ (Value.ref lG) (Value.int _ _)) _ _ _); k_dflt (first | (refine' gl_item (j := (n : Int)) ?N ?m ?e ?h0 ?h1 ?hN ?_; (case e => omega); (case N => k_asm); (case m => k_mem); (case h0 => omega); (case h1 => omega); (case hN => omega); k_whole) | (refine' gl_item ?N ?m ?e ?h0 ?h1 ?hN ?_; (case e => rfl); (case N => k_asm); (case m => k_mem); (case h0 => omega); (case h1 => omega); (case hN => omega); k_whole)))) | ((with_reducible show wpAny _ _ (PySem.call _ _) _ _ _); first
    | (k_here; (with_reducible show wpAny _ _ (PySem.call (Value.type "bytes") [Value.int 8 _]) _ _ _); k_dflt (refine' call_bytes8 ?_; k_whole); intro t' k')
    | (k_here; (with_reducible show wpAny _ _ (call (Value.builtin _) [Value.ref _, _]) _ _ _); k_dflt (refine' append_K ?k1 ?k2 ?k3 ?_ ?z; (case k1 => k_asm); (case k2 => k_asm); (case k3 => k_upd); (case z => first | exact gl_fits _ (by omega) | exact Nat.le_of_ble_eq_true rfl); k_whole); intro h' F' N'; (try k_sweep))
    | (k_here; (with_reducible show wpAny _ _ (call (Value.builtin "len") [Value.ref _]) _ _ _); k_dflt (refine' kun_lenL ?k1 ?k2 ?k3 ?_; (case k1 => exact News.isList (by k_asm) (by k_mem)); (case k2 => first | exact gl_size1 _ _ | exact gl_size _ _); (case k3 => omega); k_whole))
    | (k_here; (with_reducible show wpAny _ _ (PySem.call (Value.ref 428) [Value.ref _, Value.int _ _]) _ _ _); k_dflt (refine' take_ct (oX := listOf #[] 0) ?T ?K0 ?F ?N ?hI ?U ?hdb ?hlen ?hk ?hk2 ?hm ?hm2 ?hne ?X ?_; (case T => assumption); (case K0 => assumption); (case F => k_asm); (case N => k_asm); (case hI => assumption); (case U => k_upd); (case hdb => k_mem); (case hlen => first | assumption | omega); (case hk => omega); (case hk2 => omega); (case hm => omega); (case hm2 => omega); (case hne => first | assumption | omega); (case X => assumption); k_whole); intro r' tr' tk' tb' h' hr0 hr1 F' HN'; (have N' := HN' _ (by k_upd)); clear HN'; (try k_sweep); (first | (refine split2 hr0 hr1 ?_ ?_ <;> (intro re'; subst re')) | (refine split3 hr0 hr1 ?_ ?_ ?_ <;> (intro re'; subst re')) | (refine splitN (n := n) hr0 hr1 (by omega) ?_ ?_ <;> (intro re'; first | subst re' | (obtain ⟨nl0, nl1⟩ := re'))) | skip))
    | (k_here; (with_reducible show wpAny _ _ (PySem.call (Value.ref 172) [Value.ref _, Value.str _ _, Value.int _ _, Value.bool _]) _ _ _); k_dflt (refine' opP_ct ?F ?N ?m1 ?t ?hP ?m3 ?m4 ?m5 ?hH ?m6 ?m7 ?hA ?hn ?nm0_0 ?nm0_1 ?nm0_2 ?nm0_3 ?nm0_4 ?nm0_5 ?hr0 ?T ?K0 ?X ?_; (case F => k_asm); (case N => k_asm); (case m1 => k_mem); (case t => k_offL); (case hP => first | assumption | exact PathsO.mk .. | exact PathO.mk .. | exact ConnO.again .. | exact ConnO.zero ..); (case m3 => k_mem); (case m4 => k_mem); (case m5 => k_mem); (case hH => first | assumption | exact PathsO.mk .. | exact PathO.mk .. | exact ConnO.again .. | exact ConnO.zero ..); (case m6 => k_mem); (case m7 => k_mem); (case hA => first | assumption | exact PathsO.mk .. | exact PathO.mk .. | exact ConnO.again .. | exact ConnO.zero ..); (case hn => first | assumption | omega); (case nm0_0 => k_ne); (case nm0_1 => k_ne); (case nm0_2 => k_ne); (case nm0_3 => k_ne); (case nm0_4 => k_ne); (case nm0_5 => k_ne); (case hr0 => k_all); (case T => assumption); (case K0 => assumption); (case X => assumption); k_whole); intro oP' hi' tk' h' hiE hP' F' N'; subst hiE; (try simp only [List.cons_append, List.nil_append] at N'); (try k_sweep))
    | (k_here; (with_reducible show wpAny _ _ (PySem.call (Value.ref 165) [Value.ref _, Value.str _ _, Value.int _ _]) _ _ _); k_dflt (refine' od_ct ?F ?N ?m1 ?m2 ?hP ?m3 ?m4 ?m5 ?hH ?m6 ?t ?hA ?h0 ?h1 ?nm0_0 ?nm0_1 ?nm0_2 ?nm0_3 ?nm0_4 ?nm0_5 ?hr0 ?T ?K0 ?X ?_; (case F => k_asm); (case N => k_asm); (case m1 => k_mem); (case m2 => k_mem); (case hP => first | assumption | exact PathsO.mk .. | exact PathO.mk .. | exact ConnO.again .. | exact ConnO.zero ..); (case m3 => k_mem); (case m4 => k_mem); (case m5 => k_mem); (case hH => first | assumption | exact PathsO.mk .. | exact PathO.mk .. | exact ConnO.again .. | exact ConnO.zero ..); (case m6 => k_mem); (case t => k_offL); (case hA => first | assumption | exact PathsO.mk .. | exact PathO.mk .. | exact ConnO.again .. | exact ConnO.zero ..); (case h0 => first | assumption | omega); (case h1 => first | assumption | omega); (case nm0_0 => k_ne); (case nm0_1 => k_ne); (case nm0_2 => k_ne); (case nm0_3 => k_ne); (case nm0_4 => k_ne); (case nm0_5 => k_ne); (case hr0 => k_all); (case T => assumption); (case K0 => assumption); (case X => assumption); k_whole); intro oA' tk' h' hA' F' N'; (try simp only [List.cons_append, List.nil_append] at N'); (try k_sweep))) | ((with_reducible show wpAny _ _ (compareOp _ _ _) _ _ _); first
    | (k_here; (with_reducible show wpAny _ _ (compareOp CmpOp.Eq (Value.bytes _ _) (Value.bytes _ _)) _ _ _); first | refine eqB_no (by assumption) ?_ | refine eqB_yes rfl ?_)) | (k_unfold; (try dsimp only)) | (k_end; wrow_close) | walk1 | (dsimp only; walk1) | (leave1; walk_say "STEP leave1"; try dsimp only) | fail "no step")

set_option maxRecDepth 100000 in
set_option maxHeartbeats 0 in
theorem AP_w {w : World} {g : Heap} {L fa : Addr} {mg mb mean} {s : Shared} {Q : Flow → Shared → Prop} {E : Value → Shared → Prop} {m : Str → Option Value} {turn num now : Int} {to tn tw : Tok} {xC dC xP dP lK xH dH xA dA lH lc la last xS fW fC nK lG BX : Nat} {oC oP oH oA : Obj} {cn hgh recv : Int} {mo pr fr : Bool} {rest : List (Addr × Obj)} {news : List (Addr × Obj)} {r0 : List (Addr × Obj)}
  (F : Fr g L s.heap (lm turn to num tn now tw pr lG BX xC m))
  (N : News g L s.heap news)
  (mc1 : (xC, instObj 410 dC) ∈ news)
  (mc2 : (dC, oC) ∈ news)
  (hC : ConnO w.params oC xP xS fW fC cn true)
  (m2 : (xP, instObj 243 dP) ∈ news)
  (t : Take (dP, oP) news r0)
  (hP : PathsO w.params oP lK xH last hgh la)
  (m3 : (lK, listOf #[.ref xH, .ref xA] nK) ∈ news)
  (mh1 : (xH, instObj 126 dH) ∈ news)
  (mh2 : (dH, oH) ∈ news)
  (hH : PathO w.params oH "home" "proven" true 0 lH .none false)
  (m6 : (xA, instObj 126 dA) ∈ news)
  (t2 : Take (dA, oA) r0 rest)
  (hA : PathO w.params oA "away" "proven" fr recv lc .none mo)
  (b1 : hgh < num + 1)
  (b2 : 0 ≤ recv)
  (b3 : recv ≤ 1000)
  (nt0_1 : @Ne Nat dA dP)
  (nm0_0 : @Ne Nat xC dP)
  (nm0_1 : @Ne Nat dC dP)
  (nm0_2 : @Ne Nat xP dP)
  (nm0_3 : @Ne Nat lK dP)
  (nm0_4 : @Ne Nat xH dP)
  (nm0_5 : @Ne Nat dH dP)
  (nm0_6 : @Ne Nat xA dP)
  (nm1_0 : @Ne Nat xC dA)
  (nm1_1 : @Ne Nat dC dA)
  (nm1_2 : @Ne Nat xP dA)
  (nm1_3 : @Ne Nat lK dA)
  (nm1_4 : @Ne Nat xH dA)
  (nm1_5 : @Ne Nat dH dA)
  (nm1_6 : @Ne Nat xA dA)
  (hr0 : ∀ p ∈ rest, p.1 ≠ dP)
  (hr1 : ∀ p ∈ rest, p.1 ≠ dA)
  (T : Top topProg looseP mean mg mb g) (K0 : Below callerA g [] g) (CH : CodeHd g 432 430) (X : (kF w.params).In g)
  (h : ∀ oP' oA' tn' tw' m' tk' h', PathsO w.params oP' lK xA xH (num + 1) la → PathO w.params oA' "away" "proven" fr (recv + 100) lc .none mo → Fr g L h' (lm turn to (num + 1) tn' (now) tw' pr lG BX xC m') → News g L h' ((dP, oP') :: (dA, oA') :: rest) → wpAny (MP w) (callerA.deeper (envOf (Str.ofString "law") lawScope L fa (Value.ref 432))) (execs (turnBody.drop 3) (envOf (Str.ofString "law") lawScope L fa (Value.ref 432))) Q E { s with heap := h', toks := tk' })
  :
  wpAny (MP w) (callerA.deeper (envOf (Str.ofString "law") lawScope L fa (Value.ref 432))) (execs (turnBody.drop 0) (envOf (Str.ofString "law") lawScope L fa (Value.ref 432))) Q E s := by
  have hall : ∀ q, (q = (dP, oP) ∨ q = (dA, oA) ∨ q ∈ rest) → q ∈ news := by
    intro q hq
    rcases hq with rfl | hq
    · exact t.sub _ (.inl rfl)
    rcases hq with rfl | hq
    · exact t.sub _ (.inr (t2.sub _ (.inl rfl)))
    exact t.sub _ (.inr (t2.sub _ (.inr hq)))
  with_reducible refine' AP_0 (xC := xC) (dC := dC) (xP := xP) (dP := dP) (lK := lK) (xH := xH) (dH := dH) (xA := xA) (dA := dA) (lH := lH) (lc := lc) (la := la) (last := last) (xS := xS) (fW := fW) (fC := fC) (nK := nK) (lG := lG) (BX := BX) (oC := oC) (oP := oP) (oH := oH) (oA := oA) (cn := cn) (hgh := hgh) (recv := recv) (mo := mo) (pr := pr) (fr := fr) (turn := turn) (num := num) (now := now) (to := to) (tn := tn) (tw := tw) (m := m) (rest := rest) T K0 CH hC hP hH hA b1 b2 b3 nt0_1 nm0_0 nm0_1 nm0_2 nm0_3 nm0_4 nm0_5 nm0_6 nm1_0 nm1_1 nm1_2 nm1_3 nm1_4 nm1_5 nm1_6 hr0 hr1 F ?hN h X
  intro p hp
  refine N p ?_
  rcases List.mem_cons.mp hp with rfl | hp
  · exact hall _ (.inl rfl)
  rcases List.mem_cons.mp hp with rfl | hp
  · exact hall _ (.inr (.inl rfl))
  rcases List.mem_cons.mp hp with rfl | hp
  · exact mc1
  rcases List.mem_cons.mp hp with rfl | hp
  · exact mc2
  rcases List.mem_cons.mp hp with rfl | hp
  · exact m2
  rcases List.mem_cons.mp hp with rfl | hp
  · exact m3
  rcases List.mem_cons.mp hp with rfl | hp
  · exact mh1
  rcases List.mem_cons.mp hp with rfl | hp
  · exact mh2
  rcases List.mem_cons.mp hp with rfl | hp
  · exact m6
  exact hall _ (.inr (.inr hp))
set_option maxRecDepth 100000 in
set_option maxHeartbeats 0 in
theorem BN_0 {w : World} {g : Heap} {L fa : Addr} {mg mb mean} {s : Shared} {Q : Flow → Shared → Prop} {E : Value → Shared → Prop} {m : Str → Option Value} {turn num now : Int} {to tn tw : Tok} {xC dC xP dP xS dS xA dA lK lc la last fW fC cW cC n nG lG BX DB cd cb : Nat} {oC oP oS oA ocW ocC : Obj} {fr mo fl : Bool} {recv hgh k : Int} {tW tC tb : Tok} {vsW vsC : Array Value} {ctW ctC : Value} {tg : Nat → Tok} {ws : List Value} {ns : List Int} {rest : List (Addr × Obj)}
  (T : Top topProg looseP mean mg mb g) (K0 : Below callerA g [] g) (CH : CodeHd g 432 430) (hI : IntsAre ws ns) (hlen : ns.length ≤ 24) (hdl : @LT.lt Nat _ DB BX)
  (hC : ConnO w.params oC xP xS fW fC (n : Int) fl)
  (hP : PathsO w.params oP lK xA last hgh la)
  (hS : ShakeO w.params oS)
  (hA : PathO w.params oA "away" "unproven" fr recv lc .none mo)
  (d1 : ocW.data = Data.fields vsW)
  (d2 : vsW[1]? = some (Value.str ((envOf (Str.ofString "law") lawScope L fa (Value.ref 432)).qual ++ Str.ofString "<lambda>") tW))
  (d3 : ocC.data = Data.fields vsC)
  (d4 : vsC[1]? = some (Value.str ((envOf (Str.ofString "law") lawScope L fa (Value.ref 432)).qual ++ Str.ofString "<lambda>") tC))
  (hn : n < 7)
  (hw : 0 ≤ now)
  (hw2 : now ≤ 5000)
  (ht : 0 ≤ turn)
  (ht2 : turn ≤ 20)
  (hk : 0 ≤ k)
  (hk2 : k ≤ 900)
  (nt0_1 : @Ne Nat dP dC)
  (nt0_2 : @Ne Nat dA dC)
  (nt0_3 : @Ne Nat lG dC)
  (nt0_4 : @Ne Nat BX dC)
  (nm0_0 : @Ne Nat xC dC)
  (nm0_1 : @Ne Nat xP dC)
  (nm0_2 : @Ne Nat xS dC)
  (nm0_3 : @Ne Nat dS dC)
  (nm0_4 : @Ne Nat xA dC)
  (nm0_5 : @Ne Nat DB dC)
  (nm0_6 : @Ne Nat fW dC)
  (nm0_7 : @Ne Nat cW dC)
  (nm0_8 : @Ne Nat fC dC)
  (nm0_9 : @Ne Nat cC dC)
  (nt1_2 : @Ne Nat dA dP)
  (nt1_3 : @Ne Nat lG dP)
  (nt1_4 : @Ne Nat BX dP)
  (nm1_0 : @Ne Nat xC dP)
  (nm1_1 : @Ne Nat xP dP)
  (nm1_2 : @Ne Nat xS dP)
  (nm1_3 : @Ne Nat dS dP)
  (nm1_4 : @Ne Nat xA dP)
  (nm1_5 : @Ne Nat DB dP)
  (nm1_6 : @Ne Nat fW dP)
  (nm1_7 : @Ne Nat cW dP)
  (nm1_8 : @Ne Nat fC dP)
  (nm1_9 : @Ne Nat cC dP)
  (nt2_3 : @Ne Nat lG dA)
  (nt2_4 : @Ne Nat BX dA)
  (nm2_0 : @Ne Nat xC dA)
  (nm2_1 : @Ne Nat xP dA)
  (nm2_2 : @Ne Nat xS dA)
  (nm2_3 : @Ne Nat dS dA)
  (nm2_4 : @Ne Nat xA dA)
  (nm2_5 : @Ne Nat DB dA)
  (nm2_6 : @Ne Nat fW dA)
  (nm2_7 : @Ne Nat cW dA)
  (nm2_8 : @Ne Nat fC dA)
  (nm2_9 : @Ne Nat cC dA)
  (nt3_4 : @Ne Nat BX lG)
  (nm3_0 : @Ne Nat xC lG)
  (nm3_1 : @Ne Nat xP lG)
  (nm3_2 : @Ne Nat xS lG)
  (nm3_3 : @Ne Nat dS lG)
  (nm3_4 : @Ne Nat xA lG)
  (nm3_5 : @Ne Nat DB lG)
  (nm3_6 : @Ne Nat fW lG)
  (nm3_7 : @Ne Nat cW lG)
  (nm3_8 : @Ne Nat fC lG)
  (nm3_9 : @Ne Nat cC lG)
  (nm4_0 : @Ne Nat xC BX)
  (nm4_1 : @Ne Nat xP BX)
  (nm4_2 : @Ne Nat xS BX)
  (nm4_3 : @Ne Nat dS BX)
  (nm4_4 : @Ne Nat xA BX)
  (nm4_5 : @Ne Nat DB BX)
  (nm4_6 : @Ne Nat fW BX)
  (nm4_7 : @Ne Nat cW BX)
  (nm4_8 : @Ne Nat fC BX)
  (nm4_9 : @Ne Nat cC BX)
  (hr0 : ∀ p ∈ rest, p.1 ≠ dC)
  (hr1 : ∀ p ∈ rest, p.1 ≠ dP)
  (hr2 : ∀ p ∈ rest, p.1 ≠ dA)
  (hr3 : ∀ p ∈ rest, p.1 ≠ lG)
  (hr4 : ∀ p ∈ rest, p.1 ≠ BX)
  (F : Fr g L s.heap (lm turn to num tn now tw false lG BX xC m))
  (N : News g L s.heap ((dC, oC) :: (dP, oP) :: (dA, oA) :: (lG, listOf (gl tg n).toArray nG) :: (BX, listOf #[.ref DB, .int k tb] cb) :: (xC, instObj 410 dC) :: (xP, instObj 243 dP) :: (xS, instObj 410 dS) :: (dS, oS) :: (xA, instObj 126 dA) :: (DB, listOf ws.toArray cd) :: (fW, kla_obj (Str.ofString "<lambda>") ((envOf (Str.ofString "law") lawScope L fa (Value.ref 432)).qual ++ Str.ofString "<lambda>") (lamOf 2).1 (lamOf 2).2.1 (lamOf 2).2.2 [] ((mg (Str.ofString "__name__")).getD Value.none) cW ctW) :: (cW, ocW) :: (fC, kla_obj (Str.ofString "<lambda>") ((envOf (Str.ofString "law") lawScope L fa (Value.ref 432)).qual ++ Str.ofString "<lambda>") (lamOf 3).1 (lamOf 3).2.1 (lamOf 3).2.2 [] ((mg (Str.ofString "__name__")).getD Value.none) cC ctC) :: (cC, ocC) :: rest))
  (h : ∀ oC' oP' oA' lc' la' nG' tb' tv kc x4 dl' td' tn' tw' m' tk' h', (∀ p ∈ rest, p.1 ≠ lc') → @Ne Nat dC lc' → @Ne Nat dP lc' → @Ne Nat dA lc' → @Ne Nat lG lc' → @Ne Nat BX lc' → dl' = now + 150 → ConnO w.params oC' xP xS fW fC ((n : Int) + 1) true → PathsO w.params oP' lK xA last hgh la' → PathO w.params oA' "away" "trying" fr recv lc' (.int dl' td') false → Fr g L h' (lm turn to (num) tn' (now) tw' false lG BX xC m') → News g L h' ((lc', listOf #[.bytes (b8 (40 + (n : Int))) x4] kc) :: (dC, oC') :: (dP, oP') :: (dA, oA') :: (lG, listOf ((gl tg n).toArray.push (.bytes (b8 (40 + (n : Int))) tv)) nG') :: (BX, listOf #[.ref DB, .int (k + 1) tb'] cb) :: rest) → wpAny (MP w) (callerA.deeper (envOf (Str.ofString "law") lawScope L fa (Value.ref 432))) (execs (turnBody.drop 10) (envOf (Str.ofString "law") lawScope L fa (Value.ref 432))) Q E { s with heap := h', toks := tk' })
  (X : (kF w.params).In g) :
  wpAny (MP w) (callerA.deeper (envOf (Str.ofString "law") lawScope L fa (Value.ref 432))) (execs (turnBody.drop 3) (envOf (Str.ofString "law") lawScope L fa (Value.ref 432))) Q E s := by
  revert X
  dsimp only [MP]
  k_fill
  intro X
  unfold lm at F
  generalize hs : lawScope = sc at h d2 d4 N ⊢
  conv at hs => lhs; whnf
  subst hs
  generalize hs : turnBody.drop 3 = sc
  conv at hs => lhs; whnf
  subst hs
  generalize hs : turnBody.drop 10 = sc at h
  conv at hs => lhs; whnf
  subst hs
  dsimp only [looseP] at T
  generalize hw' : lamOf 2 = lw at N
  generalize hc' : lamOf 3 = lc' at N
  conv at hw' => lhs; whnf
  conv at hc' => lhs; whnf
  subst hw' hc'
  repeat' (first | ((first | (with_reducible show wpAny _ _ (execs _ _) _ _ _) | ((fail_if_success (with_reducible show wpAny _ _ _ _ _ _)); dsimp only; (with_reducible show wpAny _ _ (execs _ _) _ _ _))); ((with_reducible refine' h _ _ _ _ _ _ _ _ _ _ _ _ _ _ _ _ _ ?nflcq0 ?nflcqdC ?nflcqdP ?nflcqdA ?nflcqlG ?nflcqBX ?fc0 ?fc1 ?fc2 ?fc3 ?hF ?hN); (case hF => exact frLaw (by k_asm) (by rfl) (by rfl) (by rfl) (by rfl) (by rfl) (by rfl) (by rfl)); (case hN => exact News.subs (by k_asm) (by lcg_sub)); (case fc3 => first | assumption | exact PathsO.mk .. | exact PathO.mk .. | exact ConnO.again .. | exact ConnO.zero .. | k_ne | omega); (case fc2 => first | assumption | exact PathsO.mk .. | exact PathO.mk .. | exact ConnO.again .. | exact ConnO.zero .. | k_ne | omega); (case fc1 => first | assumption | exact PathsO.mk .. | exact PathO.mk .. | exact ConnO.again .. | exact ConnO.zero .. | k_ne | omega); (case fc0 => first | assumption | exact PathsO.mk .. | exact PathO.mk .. | exact ConnO.again .. | exact ConnO.zero .. | k_ne | omega); (case nflcq0 => k_all); (case nflcqdC => k_ne); (case nflcqdP => k_ne); (case nflcqdA => k_ne); (case nflcqlG => k_ne); (case nflcqBX => k_ne))) | 
    ((with_reducible show wpAny _ _ (subscriptTail _ _ _ _) _ _ _); first
    | (k_here; (with_reducible show wpAny _ _ (subscriptTail _ _ (Value.ref lG) (Value.int _ _)) _ _ _); k_dflt (first | (refine' gl_item (j := (n : Int)) ?N ?m ?e ?h0 ?h1 ?hN ?_; (case e => omega); (case N => k_asm); (case m => k_mem); (case h0 => omega); (case h1 => omega); (case hN => omega); k_whole) | (refine' gl_item ?N ?m ?e ?h0 ?h1 ?hN ?_; (case e => rfl); (case N => k_asm); (case m => k_mem); (case h0 => omega); (case h1 => omega); (case hN => omega); k_whole)))
    | (k_here; (with_reducible show wpAny _ _ (subscriptTail _ _ (Value.ref lG) (Value.int _ _)) _ _ _); k_dflt (first | (refine' gl_item (j := (n : Int)) ?N ?m ?e ?h0 ?h1 ?hN ?_; (case e => omega); (case N => k_asm); (case m => k_mem); (case h0 => omega); (case h1 => omega); (case hN => omega); k_whole) | (refine' gl_item ?N ?m ?e ?h0 ?h1 ?hN ?_; (case e => rfl); (case N => k_asm); (case m => k_mem); (case h0 => omega); (case h1 => omega); (case hN => omega); k_whole)))) | ((with_reducible show wpAny _ _ (PySem.call _ _) _ _ _); first
    | (k_here; (with_reducible show wpAny _ _ (PySem.call (Value.type "bytes") [Value.int 8 _]) _ _ _); k_dflt (refine' call_bytes8 ?_; k_whole); intro t' k')
    | (k_here; (with_reducible show wpAny _ _ (call (Value.builtin _) [Value.ref _, _]) _ _ _); k_dflt (refine' append_K ?k1 ?k2 ?k3 ?_ ?z; (case k1 => k_asm); (case k2 => k_asm); (case k3 => k_upd); (case z => first | exact gl_fits _ (by omega) | exact Nat.le_of_ble_eq_true rfl); k_whole); intro h' F' N'; (try k_sweep))
    | (k_here; (with_reducible show wpAny _ _ (call (Value.builtin "len") [Value.ref _]) _ _ _); k_dflt (refine' kun_lenL ?k1 ?k2 ?k3 ?_; (case k1 => exact News.isList (by k_asm) (by k_mem)); (case k2 => first | exact gl_size1 _ _ | exact gl_size _ _); (case k3 => omega); k_whole))
    | (k_here; (with_reducible show wpAny _ _ (PySem.call (Value.ref 428) [Value.ref _, Value.int _ _]) _ _ _); k_dflt (refine' take_ct (oX := listOf #[] 0) ?T ?K0 ?F ?N ?hI ?U ?hdb ?hlen ?hk ?hk2 ?hm ?hm2 ?hne ?X ?_; (case T => assumption); (case K0 => assumption); (case F => k_asm); (case N => k_asm); (case hI => assumption); (case U => k_upd); (case hdb => k_mem); (case hlen => first | assumption | omega); (case hk => omega); (case hk2 => omega); (case hm => omega); (case hm2 => omega); (case hne => first | assumption | omega); (case X => assumption); k_whole); intro r' tr' tk' tb' h' hr0 hr1 F' HN'; (have N' := HN' _ (by k_upd)); clear HN'; (try k_sweep); (first | (refine split2 hr0 hr1 ?_ ?_ <;> (intro re'; subst re')) | (refine split3 hr0 hr1 ?_ ?_ ?_ <;> (intro re'; subst re')) | (refine splitN (n := n) hr0 hr1 (by omega) ?_ ?_ <;> (intro re'; first | subst re' | (obtain ⟨nl0, nl1⟩ := re'))) | skip))
    | (k_here; (with_reducible show wpAny _ _ (PySem.call (Value.ref 26) [Value.ref _, Value.int _ _]) _ _ _); k_dflt (refine' pfTH_ct ?F ?N ?m1 ?t1 ?hC ?m2 ?t2 ?hP ?m5 ?t3 ?hA ?m6 ?m7 ?nm0_0 ?nm0_1 ?nm0_2 ?nm0_3 ?nm0_4 ?nm0_5 ?nm0_6 ?hr0 ?T ?K0 ?X ?_; (case F => k_asm); (case N => k_asm); (case m1 => k_mem); (case t1 => k_mem); (case hC => first | assumption | exact PathsO.mk .. | exact PathO.mk .. | exact ConnO.again .. | exact ConnO.zero ..); (case m2 => k_mem); (case t2 => k_offL); (case hP => first | assumption | exact PathsO.mk .. | exact PathO.mk .. | exact ConnO.again .. | exact ConnO.zero ..); (case m5 => k_mem); (case t3 => k_mem); (case hA => first | assumption | exact PathsO.mk .. | exact PathO.mk .. | exact ConnO.again .. | exact ConnO.zero ..); (case m6 => k_mem); (case m7 => k_mem); (case nm0_0 => k_ne); (case nm0_1 => k_ne); (case nm0_2 => k_ne); (case nm0_3 => k_ne); (case nm0_4 => k_ne); (case nm0_5 => k_ne); (case nm0_6 => k_ne); (case hr0 => k_all); (case T => assumption); (case K0 => assumption); (case X => assumption); k_whole); intro oP' D la' nD kl tk' h' nfD0 nfDdP nflaq0 nflaqdP hP' F' N'; (try simp only [List.cons_append, List.nil_append] at N'); (try k_sweep))
    | (k_here; (with_reducible show wpAny _ _ (PySem.call (Value.ref 26) [Value.ref _, Value.int _ _]) _ _ _); k_dflt (refine' pfTN_ct ?F ?N ?m1 ?t1 ?hC ?m2 ?t2 ?hP ?m5 ?t3 ?hA ?m6 ?nm0_0 ?nm0_1 ?nm0_2 ?nm0_3 ?nm0_4 ?nm0_5 ?hr0 ?T ?K0 ?X ?_; (case F => k_asm); (case N => k_asm); (case m1 => k_mem); (case t1 => k_mem); (case hC => first | assumption | exact PathsO.mk .. | exact PathO.mk .. | exact ConnO.again .. | exact ConnO.zero ..); (case m2 => k_mem); (case t2 => k_offL); (case hP => first | assumption | exact PathsO.mk .. | exact PathO.mk .. | exact ConnO.again .. | exact ConnO.zero ..); (case m5 => k_mem); (case t3 => k_mem); (case hA => first | assumption | exact PathsO.mk .. | exact PathO.mk .. | exact ConnO.again .. | exact ConnO.zero ..); (case m6 => k_mem); (case nm0_0 => k_ne); (case nm0_1 => k_ne); (case nm0_2 => k_ne); (case nm0_3 => k_ne); (case nm0_4 => k_ne); (case nm0_5 => k_ne); (case hr0 => k_all); (case T => assumption); (case K0 => assumption); (case X => assumption); k_whole); intro oP' D la' nD kl tk' h' nfD0 nfDdP nflaq0 nflaqdP hP' F' N'; (try simp only [List.cons_append, List.nil_append] at N'); (try k_sweep))
    | (k_here; (with_reducible show wpAny _ _ (PySem.call (Value.ref 26) [Value.ref _, Value.int _ _]) _ _ _); k_dflt (refine' pfNH_ct ?F ?N ?m1 ?t1 ?hC ?m2 ?t2 ?hP ?m3 ?m4 ?hS ?m5 ?t3 ?hA ?m6 ?m7 ?m8 ?m9 ?m10 ?m11 ?d1 ?d2 ?d3 ?d4 ?hn ?hw ?hw2 ?nt0_1 ?nt0_2 ?nm0_0 ?nm0_1 ?nm0_2 ?nm0_3 ?nm0_4 ?nm0_5 ?nm0_6 ?nm0_7 ?nm0_8 ?nm0_9 ?nm0_10 ?nt1_2 ?nm1_0 ?nm1_1 ?nm1_2 ?nm1_3 ?nm1_4 ?nm1_5 ?nm1_6 ?nm1_7 ?nm1_8 ?nm1_9 ?nm1_10 ?nm2_0 ?nm2_1 ?nm2_2 ?nm2_3 ?nm2_4 ?nm2_5 ?nm2_6 ?nm2_7 ?nm2_8 ?nm2_9 ?nm2_10 ?hr0 ?hr1 ?hr2 ?T ?K0 ?CH ?X ?_; (case F => k_asm); (case N => k_asm); (case m1 => k_mem); (case t1 => k_offL); (case hC => first | assumption | exact PathsO.mk .. | exact PathO.mk .. | exact ConnO.again .. | exact ConnO.zero ..); (case m2 => k_mem); (case t2 => k_offL); (case hP => first | assumption | exact PathsO.mk .. | exact PathO.mk .. | exact ConnO.again .. | exact ConnO.zero ..); (case m3 => k_mem); (case m4 => k_mem); (case hS => first | assumption | exact PathsO.mk .. | exact PathO.mk .. | exact ConnO.again .. | exact ConnO.zero ..); (case m5 => k_mem); (case t3 => k_offL); (case hA => first | assumption | exact PathsO.mk .. | exact PathO.mk .. | exact ConnO.again .. | exact ConnO.zero ..); (case m6 => k_mem); (case m7 => k_mem); (case m8 => k_mem); (case m9 => k_mem); (case m10 => k_mem); (case m11 => k_mem); (case d1 => first | assumption | exact PathsO.mk .. | exact PathO.mk .. | exact ConnO.again .. | exact ConnO.zero ..); (case d2 => first | assumption | exact PathsO.mk .. | exact PathO.mk .. | exact ConnO.again .. | exact ConnO.zero ..); (case d3 => first | assumption | exact PathsO.mk .. | exact PathO.mk .. | exact ConnO.again .. | exact ConnO.zero ..); (case d4 => first | assumption | exact PathsO.mk .. | exact PathO.mk .. | exact ConnO.again .. | exact ConnO.zero ..); (case hn => first | assumption | omega); (case hw => first | assumption | omega); (case hw2 => first | assumption | omega); (case nt0_1 => k_ne); (case nt0_2 => k_ne); (case nm0_0 => k_ne); (case nm0_1 => k_ne); (case nm0_2 => k_ne); (case nm0_3 => k_ne); (case nm0_4 => k_ne); (case nm0_5 => k_ne); (case nm0_6 => k_ne); (case nm0_7 => k_ne); (case nm0_8 => k_ne); (case nm0_9 => k_ne); (case nm0_10 => k_ne); (case nt1_2 => k_ne); (case nm1_0 => k_ne); (case nm1_1 => k_ne); (case nm1_2 => k_ne); (case nm1_3 => k_ne); (case nm1_4 => k_ne); (case nm1_5 => k_ne); (case nm1_6 => k_ne); (case nm1_7 => k_ne); (case nm1_8 => k_ne); (case nm1_9 => k_ne); (case nm1_10 => k_ne); (case nm2_0 => k_ne); (case nm2_1 => k_ne); (case nm2_2 => k_ne); (case nm2_3 => k_ne); (case nm2_4 => k_ne); (case nm2_5 => k_ne); (case nm2_6 => k_ne); (case nm2_7 => k_ne); (case nm2_8 => k_ne); (case nm2_9 => k_ne); (case nm2_10 => k_ne); (case hr0 => k_all); (case hr1 => k_all); (case hr2 => k_all); (case T => assumption); (case K0 => assumption); (case CH => assumption); (case X => assumption); k_whole); intro oC' oP' oA' D T2 la' lc' nD kl kc x1 x2 x3 x4 dl' td' tk' h' nfD0 nfDdC nfDdP nfDdA nfT20 nfT2dC nfT2dP nfT2dA nflaq0 nflaqdC nflaqdP nflaqdA nflcq0 nflcqdC nflcqdP nflcqdA hdl' hC' hP' hA' F' N'; subst hdl'; (try simp only [List.cons_append, List.nil_append] at N'); (try k_sweep))
    | (k_here; (with_reducible show wpAny _ _ (PySem.call (Value.ref 26) [Value.ref _, Value.int _ _]) _ _ _); k_dflt (refine' pfNA_ct ?F ?N ?m1 ?t1 ?hC ?m2 ?t2 ?hP ?m3 ?m4 ?hS ?m5 ?t3 ?hA ?m6 ?m7 ?m8 ?m9 ?m10 ?m11 ?d1 ?d2 ?d3 ?d4 ?hn ?hw ?hw2 ?nt0_1 ?nt0_2 ?nm0_0 ?nm0_1 ?nm0_2 ?nm0_3 ?nm0_4 ?nm0_5 ?nm0_6 ?nm0_7 ?nm0_8 ?nm0_9 ?nm0_10 ?nt1_2 ?nm1_0 ?nm1_1 ?nm1_2 ?nm1_3 ?nm1_4 ?nm1_5 ?nm1_6 ?nm1_7 ?nm1_8 ?nm1_9 ?nm1_10 ?nm2_0 ?nm2_1 ?nm2_2 ?nm2_3 ?nm2_4 ?nm2_5 ?nm2_6 ?nm2_7 ?nm2_8 ?nm2_9 ?nm2_10 ?hr0 ?hr1 ?hr2 ?T ?K0 ?CH ?X ?_; (case F => k_asm); (case N => k_asm); (case m1 => k_mem); (case t1 => k_offL); (case hC => first | assumption | exact PathsO.mk .. | exact PathO.mk .. | exact ConnO.again .. | exact ConnO.zero ..); (case m2 => k_mem); (case t2 => k_offL); (case hP => first | assumption | exact PathsO.mk .. | exact PathO.mk .. | exact ConnO.again .. | exact ConnO.zero ..); (case m3 => k_mem); (case m4 => k_mem); (case hS => first | assumption | exact PathsO.mk .. | exact PathO.mk .. | exact ConnO.again .. | exact ConnO.zero ..); (case m5 => k_mem); (case t3 => k_offL); (case hA => first | assumption | exact PathsO.mk .. | exact PathO.mk .. | exact ConnO.again .. | exact ConnO.zero ..); (case m6 => k_mem); (case m7 => k_mem); (case m8 => k_mem); (case m9 => k_mem); (case m10 => k_mem); (case m11 => k_mem); (case d1 => first | assumption | exact PathsO.mk .. | exact PathO.mk .. | exact ConnO.again .. | exact ConnO.zero ..); (case d2 => first | assumption | exact PathsO.mk .. | exact PathO.mk .. | exact ConnO.again .. | exact ConnO.zero ..); (case d3 => first | assumption | exact PathsO.mk .. | exact PathO.mk .. | exact ConnO.again .. | exact ConnO.zero ..); (case d4 => first | assumption | exact PathsO.mk .. | exact PathO.mk .. | exact ConnO.again .. | exact ConnO.zero ..); (case hn => first | assumption | omega); (case hw => first | assumption | omega); (case hw2 => first | assumption | omega); (case nt0_1 => k_ne); (case nt0_2 => k_ne); (case nm0_0 => k_ne); (case nm0_1 => k_ne); (case nm0_2 => k_ne); (case nm0_3 => k_ne); (case nm0_4 => k_ne); (case nm0_5 => k_ne); (case nm0_6 => k_ne); (case nm0_7 => k_ne); (case nm0_8 => k_ne); (case nm0_9 => k_ne); (case nm0_10 => k_ne); (case nt1_2 => k_ne); (case nm1_0 => k_ne); (case nm1_1 => k_ne); (case nm1_2 => k_ne); (case nm1_3 => k_ne); (case nm1_4 => k_ne); (case nm1_5 => k_ne); (case nm1_6 => k_ne); (case nm1_7 => k_ne); (case nm1_8 => k_ne); (case nm1_9 => k_ne); (case nm1_10 => k_ne); (case nm2_0 => k_ne); (case nm2_1 => k_ne); (case nm2_2 => k_ne); (case nm2_3 => k_ne); (case nm2_4 => k_ne); (case nm2_5 => k_ne); (case nm2_6 => k_ne); (case nm2_7 => k_ne); (case nm2_8 => k_ne); (case nm2_9 => k_ne); (case nm2_10 => k_ne); (case hr0 => k_all); (case hr1 => k_all); (case hr2 => k_all); (case T => assumption); (case K0 => assumption); (case CH => assumption); (case X => assumption); k_whole); intro oC' oP' oA' D T2 T1 la' lc' nD kl kc x1 x2 x3 x4 y1 y2 y3 dl' td' tk' h' nfD0 nfDdC nfDdP nfDdA nfT20 nfT2dC nfT2dP nfT2dA nfT10 nfT1dC nfT1dP nfT1dA nflaq0 nflaqdC nflaqdP nflaqdA nflcq0 nflcqdC nflcqdP nflcqdA hdl' hC' hP' hA' F' N'; subst hdl'; (try simp only [List.cons_append, List.nil_append] at N'); (try k_sweep))) | ((with_reducible show wpAny _ _ (compareOp _ _ _) _ _ _); first
    | (k_here; (with_reducible show wpAny _ _ (compareOp CmpOp.Eq (Value.bytes _ _) (Value.bytes _ _)) _ _ _); first | refine eqB_no (by assumption) ?_ | refine eqB_yes rfl ?_)) | (k_unfold; (try dsimp only)) | (k_end; wrow_close) | walk1 | (dsimp only; walk1) | (leave1; walk_say "STEP leave1"; try dsimp only) | fail "no step")

set_option maxRecDepth 100000 in
set_option maxHeartbeats 0 in
theorem BN_w {w : World} {g : Heap} {L fa : Addr} {mg mb mean} {s : Shared} {Q : Flow → Shared → Prop} {E : Value → Shared → Prop} {m : Str → Option Value} {turn num now : Int} {to tn tw : Tok} {xC dC xP dP xS dS xA dA lK lc la last fW fC cW cC n nG lG BX DB cd cb : Nat} {oC oP oS oA ocW ocC : Obj} {fr mo fl : Bool} {recv hgh k : Int} {tW tC tb : Tok} {vsW vsC : Array Value} {ctW ctC : Value} {tg : Nat → Tok} {ws : List Value} {ns : List Int} {rest : List (Addr × Obj)} {news : List (Addr × Obj)} {r0 : List (Addr × Obj)} {r1 : List (Addr × Obj)} {r2 : List (Addr × Obj)} {r3 : List (Addr × Obj)}
  (F : Fr g L s.heap (lm turn to num tn now tw false lG BX xC m))
  (N : News g L s.heap news)
  (m1 : (xC, instObj 410 dC) ∈ news)
  (t1 : Take (dC, oC) news r0)
  (hC : ConnO w.params oC xP xS fW fC (n : Int) fl)
  (m2 : (xP, instObj 243 dP) ∈ news)
  (t2 : Take (dP, oP) r0 r1)
  (hP : PathsO w.params oP lK xA last hgh la)
  (m3 : (xS, instObj 410 dS) ∈ news)
  (m4 : (dS, oS) ∈ news)
  (hS : ShakeO w.params oS)
  (m5 : (xA, instObj 126 dA) ∈ news)
  (t3 : Take (dA, oA) r1 r2)
  (hA : PathO w.params oA "away" "unproven" fr recv lc .none mo)
  (t4 : Take (lG, listOf (gl tg n).toArray nG) r2 r3)
  (t5 : Take (BX, listOf #[.ref DB, .int k tb] cb) r3 rest)
  (mdb : (DB, listOf ws.toArray cd) ∈ news)
  (m8 : (fW, kla_obj (Str.ofString "<lambda>") ((envOf (Str.ofString "law") lawScope L fa (Value.ref 432)).qual ++ Str.ofString "<lambda>") (lamOf 2).1 (lamOf 2).2.1 (lamOf 2).2.2 [] ((mg (Str.ofString "__name__")).getD Value.none) cW ctW) ∈ news)
  (m9 : (cW, ocW) ∈ news)
  (m10 : (fC, kla_obj (Str.ofString "<lambda>") ((envOf (Str.ofString "law") lawScope L fa (Value.ref 432)).qual ++ Str.ofString "<lambda>") (lamOf 3).1 (lamOf 3).2.1 (lamOf 3).2.2 [] ((mg (Str.ofString "__name__")).getD Value.none) cC ctC) ∈ news)
  (m11 : (cC, ocC) ∈ news)
  (d1 : ocW.data = Data.fields vsW)
  (d2 : vsW[1]? = some (Value.str ((envOf (Str.ofString "law") lawScope L fa (Value.ref 432)).qual ++ Str.ofString "<lambda>") tW))
  (d3 : ocC.data = Data.fields vsC)
  (d4 : vsC[1]? = some (Value.str ((envOf (Str.ofString "law") lawScope L fa (Value.ref 432)).qual ++ Str.ofString "<lambda>") tC))
  (hn : n < 7)
  (hw : 0 ≤ now)
  (hw2 : now ≤ 5000)
  (ht : 0 ≤ turn)
  (ht2 : turn ≤ 20)
  (hk : 0 ≤ k)
  (hk2 : k ≤ 900)
  (nt0_1 : @Ne Nat dP dC)
  (nt0_2 : @Ne Nat dA dC)
  (nt0_3 : @Ne Nat lG dC)
  (nt0_4 : @Ne Nat BX dC)
  (nm0_0 : @Ne Nat xC dC)
  (nm0_1 : @Ne Nat xP dC)
  (nm0_2 : @Ne Nat xS dC)
  (nm0_3 : @Ne Nat dS dC)
  (nm0_4 : @Ne Nat xA dC)
  (nm0_5 : @Ne Nat DB dC)
  (nm0_6 : @Ne Nat fW dC)
  (nm0_7 : @Ne Nat cW dC)
  (nm0_8 : @Ne Nat fC dC)
  (nm0_9 : @Ne Nat cC dC)
  (nt1_2 : @Ne Nat dA dP)
  (nt1_3 : @Ne Nat lG dP)
  (nt1_4 : @Ne Nat BX dP)
  (nm1_0 : @Ne Nat xC dP)
  (nm1_1 : @Ne Nat xP dP)
  (nm1_2 : @Ne Nat xS dP)
  (nm1_3 : @Ne Nat dS dP)
  (nm1_4 : @Ne Nat xA dP)
  (nm1_5 : @Ne Nat DB dP)
  (nm1_6 : @Ne Nat fW dP)
  (nm1_7 : @Ne Nat cW dP)
  (nm1_8 : @Ne Nat fC dP)
  (nm1_9 : @Ne Nat cC dP)
  (nt2_3 : @Ne Nat lG dA)
  (nt2_4 : @Ne Nat BX dA)
  (nm2_0 : @Ne Nat xC dA)
  (nm2_1 : @Ne Nat xP dA)
  (nm2_2 : @Ne Nat xS dA)
  (nm2_3 : @Ne Nat dS dA)
  (nm2_4 : @Ne Nat xA dA)
  (nm2_5 : @Ne Nat DB dA)
  (nm2_6 : @Ne Nat fW dA)
  (nm2_7 : @Ne Nat cW dA)
  (nm2_8 : @Ne Nat fC dA)
  (nm2_9 : @Ne Nat cC dA)
  (nt3_4 : @Ne Nat BX lG)
  (nm3_0 : @Ne Nat xC lG)
  (nm3_1 : @Ne Nat xP lG)
  (nm3_2 : @Ne Nat xS lG)
  (nm3_3 : @Ne Nat dS lG)
  (nm3_4 : @Ne Nat xA lG)
  (nm3_5 : @Ne Nat DB lG)
  (nm3_6 : @Ne Nat fW lG)
  (nm3_7 : @Ne Nat cW lG)
  (nm3_8 : @Ne Nat fC lG)
  (nm3_9 : @Ne Nat cC lG)
  (nm4_0 : @Ne Nat xC BX)
  (nm4_1 : @Ne Nat xP BX)
  (nm4_2 : @Ne Nat xS BX)
  (nm4_3 : @Ne Nat dS BX)
  (nm4_4 : @Ne Nat xA BX)
  (nm4_5 : @Ne Nat DB BX)
  (nm4_6 : @Ne Nat fW BX)
  (nm4_7 : @Ne Nat cW BX)
  (nm4_8 : @Ne Nat fC BX)
  (nm4_9 : @Ne Nat cC BX)
  (hr0 : ∀ p ∈ rest, p.1 ≠ dC)
  (hr1 : ∀ p ∈ rest, p.1 ≠ dP)
  (hr2 : ∀ p ∈ rest, p.1 ≠ dA)
  (hr3 : ∀ p ∈ rest, p.1 ≠ lG)
  (hr4 : ∀ p ∈ rest, p.1 ≠ BX)
  (T : Top topProg looseP mean mg mb g) (K0 : Below callerA g [] g) (CH : CodeHd g 432 430) (hI : IntsAre ws ns) (hlen : ns.length ≤ 24) (hdl : @LT.lt Nat _ DB BX) (X : (kF w.params).In g)
  (h : ∀ oC' oP' oA' lc' la' nG' tb' tv kc x4 dl' td' tn' tw' m' tk' h', (∀ p ∈ rest, p.1 ≠ lc') → @Ne Nat dC lc' → @Ne Nat dP lc' → @Ne Nat dA lc' → @Ne Nat lG lc' → @Ne Nat BX lc' → dl' = now + 150 → ConnO w.params oC' xP xS fW fC ((n : Int) + 1) true → PathsO w.params oP' lK xA last hgh la' → PathO w.params oA' "away" "trying" fr recv lc' (.int dl' td') false → Fr g L h' (lm turn to (num) tn' (now) tw' false lG BX xC m') → News g L h' ((lc', listOf #[.bytes (b8 (40 + (n : Int))) x4] kc) :: (dC, oC') :: (dP, oP') :: (dA, oA') :: (lG, listOf ((gl tg n).toArray.push (.bytes (b8 (40 + (n : Int))) tv)) nG') :: (BX, listOf #[.ref DB, .int (k + 1) tb'] cb) :: rest) → wpAny (MP w) (callerA.deeper (envOf (Str.ofString "law") lawScope L fa (Value.ref 432))) (execs (turnBody.drop 10) (envOf (Str.ofString "law") lawScope L fa (Value.ref 432))) Q E { s with heap := h', toks := tk' })
  :
  wpAny (MP w) (callerA.deeper (envOf (Str.ofString "law") lawScope L fa (Value.ref 432))) (execs (turnBody.drop 3) (envOf (Str.ofString "law") lawScope L fa (Value.ref 432))) Q E s := by
  have hall : ∀ q, (q = (dC, oC) ∨ q = (dP, oP) ∨ q = (dA, oA) ∨ q = (lG, listOf (gl tg n).toArray nG) ∨ q = (BX, listOf #[.ref DB, .int k tb] cb) ∨ q ∈ rest) → q ∈ news := by
    intro q hq
    rcases hq with rfl | hq
    · exact t1.sub _ (.inl rfl)
    rcases hq with rfl | hq
    · exact t1.sub _ (.inr (t2.sub _ (.inl rfl)))
    rcases hq with rfl | hq
    · exact t1.sub _ (.inr (t2.sub _ (.inr (t3.sub _ (.inl rfl)))))
    rcases hq with rfl | hq
    · exact t1.sub _ (.inr (t2.sub _ (.inr (t3.sub _ (.inr (t4.sub _ (.inl rfl)))))))
    rcases hq with rfl | hq
    · exact t1.sub _ (.inr (t2.sub _ (.inr (t3.sub _ (.inr (t4.sub _ (.inr (t5.sub _ (.inl rfl)))))))))
    exact t1.sub _ (.inr (t2.sub _ (.inr (t3.sub _ (.inr (t4.sub _ (.inr (t5.sub _ (.inr hq)))))))))
  with_reducible refine' BN_0 (xC := xC) (dC := dC) (xP := xP) (dP := dP) (xS := xS) (dS := dS) (xA := xA) (dA := dA) (lK := lK) (lc := lc) (la := la) (last := last) (fW := fW) (fC := fC) (cW := cW) (cC := cC) (n := n) (nG := nG) (lG := lG) (BX := BX) (DB := DB) (cd := cd) (cb := cb) (oC := oC) (oP := oP) (oS := oS) (oA := oA) (ocW := ocW) (ocC := ocC) (fr := fr) (mo := mo) (fl := fl) (recv := recv) (hgh := hgh) (k := k) (tW := tW) (tC := tC) (tb := tb) (vsW := vsW) (vsC := vsC) (ctW := ctW) (ctC := ctC) (tg := tg) (ws := ws) (ns := ns) (turn := turn) (num := num) (now := now) (to := to) (tn := tn) (tw := tw) (m := m) (rest := rest) T K0 CH hI hlen hdl hC hP hS hA d1 d2 d3 d4 hn hw hw2 ht ht2 hk hk2 nt0_1 nt0_2 nt0_3 nt0_4 nm0_0 nm0_1 nm0_2 nm0_3 nm0_4 nm0_5 nm0_6 nm0_7 nm0_8 nm0_9 nt1_2 nt1_3 nt1_4 nm1_0 nm1_1 nm1_2 nm1_3 nm1_4 nm1_5 nm1_6 nm1_7 nm1_8 nm1_9 nt2_3 nt2_4 nm2_0 nm2_1 nm2_2 nm2_3 nm2_4 nm2_5 nm2_6 nm2_7 nm2_8 nm2_9 nt3_4 nm3_0 nm3_1 nm3_2 nm3_3 nm3_4 nm3_5 nm3_6 nm3_7 nm3_8 nm3_9 nm4_0 nm4_1 nm4_2 nm4_3 nm4_4 nm4_5 nm4_6 nm4_7 nm4_8 nm4_9 hr0 hr1 hr2 hr3 hr4 F ?hN h X
  intro p hp
  refine N p ?_
  rcases List.mem_cons.mp hp with rfl | hp
  · exact hall _ (.inl rfl)
  rcases List.mem_cons.mp hp with rfl | hp
  · exact hall _ (.inr (.inl rfl))
  rcases List.mem_cons.mp hp with rfl | hp
  · exact hall _ (.inr (.inr (.inl rfl)))
  rcases List.mem_cons.mp hp with rfl | hp
  · exact hall _ (.inr (.inr (.inr (.inl rfl))))
  rcases List.mem_cons.mp hp with rfl | hp
  · exact hall _ (.inr (.inr (.inr (.inr (.inl rfl)))))
  rcases List.mem_cons.mp hp with rfl | hp
  · exact m1
  rcases List.mem_cons.mp hp with rfl | hp
  · exact m2
  rcases List.mem_cons.mp hp with rfl | hp
  · exact m3
  rcases List.mem_cons.mp hp with rfl | hp
  · exact m4
  rcases List.mem_cons.mp hp with rfl | hp
  · exact m5
  rcases List.mem_cons.mp hp with rfl | hp
  · exact mdb
  rcases List.mem_cons.mp hp with rfl | hp
  · exact m8
  rcases List.mem_cons.mp hp with rfl | hp
  · exact m9
  rcases List.mem_cons.mp hp with rfl | hp
  · exact m10
  rcases List.mem_cons.mp hp with rfl | hp
  · exact m11
  exact hall _ (.inr (.inr (.inr (.inr (.inr hp)))))
set_option maxRecDepth 100000 in
set_option maxHeartbeats 0 in
theorem BP_0 {w : World} {g : Heap} {L fa : Addr} {mg mb mean} {s : Shared} {Q : Flow → Shared → Prop} {E : Value → Shared → Prop} {m : Str → Option Value} {turn num now : Int} {to tn tw : Tok} {xC dC xP dP xS xA dA lK lc la last fW fC n lG BX DB cd cb : Nat} {oC oP oA : Obj} {fr : Bool} {recv hgh k : Int} {tb : Tok} {ws : List Value} {ns : List Int} {rest : List (Addr × Obj)}
  (T : Top topProg looseP mean mg mb g) (K0 : Below callerA g [] g) (CH : CodeHd g 432 430) (hI : IntsAre ws ns) (hlen : ns.length ≤ 24) (hdl : @LT.lt Nat _ DB BX)
  (hC : ConnO w.params oC xP xS fW fC (n : Int) true)
  (hP : PathsO w.params oP lK xA last hgh la)
  (hA : PathO w.params oA "away" "proven" fr recv lc .none false)
  (hn : n < 7)
  (hw : 0 ≤ now)
  (hw2 : now ≤ 5000)
  (ht : 0 ≤ turn)
  (ht2 : turn ≤ 20)
  (hk : 0 ≤ k)
  (hk2 : k ≤ 900)
  (nt0_1 : @Ne Nat BX dP)
  (nm0_0 : @Ne Nat xC dP)
  (nm0_1 : @Ne Nat dC dP)
  (nm0_2 : @Ne Nat xP dP)
  (nm0_3 : @Ne Nat xA dP)
  (nm0_4 : @Ne Nat dA dP)
  (nm0_5 : @Ne Nat DB dP)
  (nm1_0 : @Ne Nat xC BX)
  (nm1_1 : @Ne Nat dC BX)
  (nm1_2 : @Ne Nat xP BX)
  (nm1_3 : @Ne Nat xA BX)
  (nm1_4 : @Ne Nat dA BX)
  (nm1_5 : @Ne Nat DB BX)
  (hr0 : ∀ p ∈ rest, p.1 ≠ dP)
  (hr1 : ∀ p ∈ rest, p.1 ≠ BX)
  (F : Fr g L s.heap (lm turn to num tn now tw true lG BX xC m))
  (N : News g L s.heap ((dP, oP) :: (BX, listOf #[.ref DB, .int k tb] cb) :: (xC, instObj 410 dC) :: (dC, oC) :: (xP, instObj 243 dP) :: (xA, instObj 126 dA) :: (dA, oA) :: (DB, listOf ws.toArray cd) :: rest))
  (h : ∀ oP' la' tb' tn' tw' m' tk' h', PathsO w.params oP' lK xA last hgh la' → Fr g L h' (lm turn to (num) tn' (now) tw' true lG BX xC m') → News g L h' ((dP, oP') :: (BX, listOf #[.ref DB, .int (k + 1) tb'] cb) :: rest) → wpAny (MP w) (callerA.deeper (envOf (Str.ofString "law") lawScope L fa (Value.ref 432))) (execs (turnBody.drop 10) (envOf (Str.ofString "law") lawScope L fa (Value.ref 432))) Q E { s with heap := h', toks := tk' })
  (X : (kF w.params).In g) :
  wpAny (MP w) (callerA.deeper (envOf (Str.ofString "law") lawScope L fa (Value.ref 432))) (execs (turnBody.drop 3) (envOf (Str.ofString "law") lawScope L fa (Value.ref 432))) Q E s := by
  revert X
  dsimp only [MP]
  k_fill
  intro X
  unfold lm at F
  generalize hs : lawScope = sc at h ⊢
  conv at hs => lhs; whnf
  subst hs
  generalize hs : turnBody.drop 3 = sc
  conv at hs => lhs; whnf
  subst hs
  generalize hs : turnBody.drop 10 = sc at h
  conv at hs => lhs; whnf
  subst hs
  dsimp only [looseP] at T
  repeat' (first | ((first | (with_reducible show wpAny _ _ (execs _ _) _ _ _) | ((fail_if_success (with_reducible show wpAny _ _ _ _ _ _)); dsimp only; (with_reducible show wpAny _ _ (execs _ _) _ _ _))); ((with_reducible refine' h _ _ _ _ _ _ _ _  ?fc0 ?hF ?hN); (case hF => exact frLaw (by k_asm) (by rfl) (by rfl) (by rfl) (by rfl) (by rfl) (by rfl) (by rfl)); (case hN => exact News.subs (by k_asm) (by lcg_sub)); (case fc0 => first | assumption | exact PathsO.mk .. | exact PathO.mk .. | exact ConnO.again .. | exact ConnO.zero .. | k_ne | omega))) | 
    ((with_reducible show wpAny _ _ (subscriptTail _ _ _ _) _ _ _); first
    | (k_here; (with_reducible show wpAny _ _ (subscriptTail _ _ (Value.ref lG) (Value.int _ _)) _ _ _); k_dflt (first | (refine' gl_item (j := (n : Int)) ?N ?m ?e ?h0 ?h1 ?hN ?_; (case e => omega); (case N => k_asm); (case m => k_mem); (case h0 => omega); (case h1 => omega); (case hN => omega); k_whole) | (refine' gl_item ?N ?m ?e ?h0 ?h1 ?hN ?_; (case e => rfl); (case N => k_asm); (case m => k_mem); (case h0 => omega); (case h1 => omega); (case hN => omega); k_whole)))
    | (k_here; (with_reducible show wpAny _ _ (subscriptTail _ _ (Value.ref lG) (Value.int _ _)) _ _ _); k_dflt (first | (refine' gl_item (j := (n : Int)) ?N ?m ?e ?h0 ?h1 ?hN ?_; (case e => omega); (case N => k_asm); (case m => k_mem); (case h0 => omega); (case h1 => omega); (case hN => omega); k_whole) | (refine' gl_item ?N ?m ?e ?h0 ?h1 ?hN ?_; (case e => rfl); (case N => k_asm); (case m => k_mem); (case h0 => omega); (case h1 => omega); (case hN => omega); k_whole)))) | ((with_reducible show wpAny _ _ (PySem.call _ _) _ _ _); first
    | (k_here; (with_reducible show wpAny _ _ (PySem.call (Value.type "bytes") [Value.int 8 _]) _ _ _); k_dflt (refine' call_bytes8 ?_; k_whole); intro t' k')
    | (k_here; (with_reducible show wpAny _ _ (call (Value.builtin _) [Value.ref _, _]) _ _ _); k_dflt (refine' append_K ?k1 ?k2 ?k3 ?_ ?z; (case k1 => k_asm); (case k2 => k_asm); (case k3 => k_upd); (case z => first | exact gl_fits _ (by omega) | exact Nat.le_of_ble_eq_true rfl); k_whole); intro h' F' N'; (try k_sweep))
    | (k_here; (with_reducible show wpAny _ _ (call (Value.builtin "len") [Value.ref _]) _ _ _); k_dflt (refine' kun_lenL ?k1 ?k2 ?k3 ?_; (case k1 => exact News.isList (by k_asm) (by k_mem)); (case k2 => first | exact gl_size1 _ _ | exact gl_size _ _); (case k3 => omega); k_whole))
    | (k_here; (with_reducible show wpAny _ _ (PySem.call (Value.ref 428) [Value.ref _, Value.int _ _]) _ _ _); k_dflt (refine' take_ct (oX := listOf #[] 0) ?T ?K0 ?F ?N ?hI ?U ?hdb ?hlen ?hk ?hk2 ?hm ?hm2 ?hne ?X ?_; (case T => assumption); (case K0 => assumption); (case F => k_asm); (case N => k_asm); (case hI => assumption); (case U => k_upd); (case hdb => k_mem); (case hlen => first | assumption | omega); (case hk => omega); (case hk2 => omega); (case hm => omega); (case hm2 => omega); (case hne => first | assumption | omega); (case X => assumption); k_whole); intro r' tr' tk' tb' h' hr0 hr1 F' HN'; (have N' := HN' _ (by k_upd)); clear HN'; (try k_sweep); (first | (refine split2 hr0 hr1 ?_ ?_ <;> (intro re'; subst re')) | (refine split3 hr0 hr1 ?_ ?_ ?_ <;> (intro re'; subst re')) | (refine splitN (n := n) hr0 hr1 (by omega) ?_ ?_ <;> (intro re'; first | subst re' | (obtain ⟨nl0, nl1⟩ := re'))) | skip))
    | (k_here; (with_reducible show wpAny _ _ (PySem.call (Value.ref 26) [Value.ref _, Value.int _ _]) _ _ _); k_dflt (refine' pfPN_ct ?F ?N ?m1 ?t1 ?hC ?m2 ?t2 ?hP ?m5 ?t3 ?hA ?m6 ?nm0_0 ?nm0_1 ?nm0_2 ?nm0_3 ?nm0_4 ?nm0_5 ?hr0 ?T ?K0 ?X ?_; (case F => k_asm); (case N => k_asm); (case m1 => k_mem); (case t1 => k_mem); (case hC => first | assumption | exact PathsO.mk .. | exact PathO.mk .. | exact ConnO.again .. | exact ConnO.zero ..); (case m2 => k_mem); (case t2 => k_offL); (case hP => first | assumption | exact PathsO.mk .. | exact PathO.mk .. | exact ConnO.again .. | exact ConnO.zero ..); (case m5 => k_mem); (case t3 => k_mem); (case hA => first | assumption | exact PathsO.mk .. | exact PathO.mk .. | exact ConnO.again .. | exact ConnO.zero ..); (case m6 => k_mem); (case nm0_0 => k_ne); (case nm0_1 => k_ne); (case nm0_2 => k_ne); (case nm0_3 => k_ne); (case nm0_4 => k_ne); (case nm0_5 => k_ne); (case hr0 => k_all); (case T => assumption); (case K0 => assumption); (case X => assumption); k_whole); intro oP' D la' nD kl tk' h' nfD0 nfDdP nflaq0 nflaqdP hP' F' N'; (try simp only [List.cons_append, List.nil_append] at N'); (try k_sweep))
    | (k_here; (with_reducible show wpAny _ _ (PySem.call (Value.ref 26) [Value.ref _, Value.int _ _]) _ _ _); k_dflt (refine' pfPH_ct ?F ?N ?m1 ?t1 ?hC ?m2 ?t2 ?hP ?m5 ?t3 ?hA ?m6 ?m7 ?nm0_0 ?nm0_1 ?nm0_2 ?nm0_3 ?nm0_4 ?nm0_5 ?nm0_6 ?hr0 ?T ?K0 ?X ?_; (case F => k_asm); (case N => k_asm); (case m1 => k_mem); (case t1 => k_mem); (case hC => first | assumption | exact PathsO.mk .. | exact PathO.mk .. | exact ConnO.again .. | exact ConnO.zero ..); (case m2 => k_mem); (case t2 => k_offL); (case hP => first | assumption | exact PathsO.mk .. | exact PathO.mk .. | exact ConnO.again .. | exact ConnO.zero ..); (case m5 => k_mem); (case t3 => k_mem); (case hA => first | assumption | exact PathsO.mk .. | exact PathO.mk .. | exact ConnO.again .. | exact ConnO.zero ..); (case m6 => k_mem); (case m7 => k_mem); (case nm0_0 => k_ne); (case nm0_1 => k_ne); (case nm0_2 => k_ne); (case nm0_3 => k_ne); (case nm0_4 => k_ne); (case nm0_5 => k_ne); (case nm0_6 => k_ne); (case hr0 => k_all); (case T => assumption); (case K0 => assumption); (case X => assumption); k_whole); intro oP' D la' nD kl tk' h' nfD0 nfDdP nflaq0 nflaqdP hP' F' N'; (try simp only [List.cons_append, List.nil_append] at N'); (try k_sweep))
    | (k_here; (with_reducible show wpAny _ _ (PySem.call (Value.ref 26) [Value.ref _, Value.int _ _]) _ _ _); k_dflt (refine' pfPA_ct ?F ?N ?m1 ?t1 ?hC ?m2 ?t2 ?hP ?m5 ?t3 ?hA ?m6 ?m7 ?nm0_0 ?nm0_1 ?nm0_2 ?nm0_3 ?nm0_4 ?nm0_5 ?nm0_6 ?hr0 ?T ?K0 ?X ?_; (case F => k_asm); (case N => k_asm); (case m1 => k_mem); (case t1 => k_mem); (case hC => first | assumption | exact PathsO.mk .. | exact PathO.mk .. | exact ConnO.again .. | exact ConnO.zero ..); (case m2 => k_mem); (case t2 => k_offL); (case hP => first | assumption | exact PathsO.mk .. | exact PathO.mk .. | exact ConnO.again .. | exact ConnO.zero ..); (case m5 => k_mem); (case t3 => k_mem); (case hA => first | assumption | exact PathsO.mk .. | exact PathO.mk .. | exact ConnO.again .. | exact ConnO.zero ..); (case m6 => k_mem); (case m7 => k_mem); (case nm0_0 => k_ne); (case nm0_1 => k_ne); (case nm0_2 => k_ne); (case nm0_3 => k_ne); (case nm0_4 => k_ne); (case nm0_5 => k_ne); (case nm0_6 => k_ne); (case hr0 => k_all); (case T => assumption); (case K0 => assumption); (case X => assumption); k_whole); intro oP' D T1 la' nD kl y1 y2 y3 tk' h' nfD0 nfDdP nfT10 nfT1dP nflaq0 nflaqdP hP' F' N'; (try simp only [List.cons_append, List.nil_append] at N'); (try k_sweep))) | ((with_reducible show wpAny _ _ (compareOp _ _ _) _ _ _); first
    | (k_here; (with_reducible show wpAny _ _ (compareOp CmpOp.Eq (Value.bytes _ _) (Value.bytes _ _)) _ _ _); first | refine eqB_no (by assumption) ?_ | refine eqB_yes rfl ?_)) | (k_unfold; (try dsimp only)) | (k_end; wrow_close) | walk1 | (dsimp only; walk1) | (leave1; walk_say "STEP leave1"; try dsimp only) | fail "no step")

set_option maxRecDepth 100000 in
set_option maxHeartbeats 0 in
theorem BP_w {w : World} {g : Heap} {L fa : Addr} {mg mb mean} {s : Shared} {Q : Flow → Shared → Prop} {E : Value → Shared → Prop} {m : Str → Option Value} {turn num now : Int} {to tn tw : Tok} {xC dC xP dP xS xA dA lK lc la last fW fC n lG BX DB cd cb : Nat} {oC oP oA : Obj} {fr : Bool} {recv hgh k : Int} {tb : Tok} {ws : List Value} {ns : List Int} {rest : List (Addr × Obj)} {news : List (Addr × Obj)} {r0 : List (Addr × Obj)}
  (F : Fr g L s.heap (lm turn to num tn now tw true lG BX xC m))
  (N : News g L s.heap news)
  (m1 : (xC, instObj 410 dC) ∈ news)
  (t1 : (dC, oC) ∈ news)
  (hC : ConnO w.params oC xP xS fW fC (n : Int) true)
  (m2 : (xP, instObj 243 dP) ∈ news)
  (t2 : Take (dP, oP) news r0)
  (hP : PathsO w.params oP lK xA last hgh la)
  (m5 : (xA, instObj 126 dA) ∈ news)
  (t3 : (dA, oA) ∈ news)
  (hA : PathO w.params oA "away" "proven" fr recv lc .none false)
  (t5 : Take (BX, listOf #[.ref DB, .int k tb] cb) r0 rest)
  (mdb : (DB, listOf ws.toArray cd) ∈ news)
  (hn : n < 7)
  (hw : 0 ≤ now)
  (hw2 : now ≤ 5000)
  (ht : 0 ≤ turn)
  (ht2 : turn ≤ 20)
  (hk : 0 ≤ k)
  (hk2 : k ≤ 900)
  (nt0_1 : @Ne Nat BX dP)
  (nm0_0 : @Ne Nat xC dP)
  (nm0_1 : @Ne Nat dC dP)
  (nm0_2 : @Ne Nat xP dP)
  (nm0_3 : @Ne Nat xA dP)
  (nm0_4 : @Ne Nat dA dP)
  (nm0_5 : @Ne Nat DB dP)
  (nm1_0 : @Ne Nat xC BX)
  (nm1_1 : @Ne Nat dC BX)
  (nm1_2 : @Ne Nat xP BX)
  (nm1_3 : @Ne Nat xA BX)
  (nm1_4 : @Ne Nat dA BX)
  (nm1_5 : @Ne Nat DB BX)
  (hr0 : ∀ p ∈ rest, p.1 ≠ dP)
  (hr1 : ∀ p ∈ rest, p.1 ≠ BX)
  (T : Top topProg looseP mean mg mb g) (K0 : Below callerA g [] g) (CH : CodeHd g 432 430) (hI : IntsAre ws ns) (hlen : ns.length ≤ 24) (hdl : @LT.lt Nat _ DB BX) (X : (kF w.params).In g)
  (h : ∀ oP' la' tb' tn' tw' m' tk' h', PathsO w.params oP' lK xA last hgh la' → Fr g L h' (lm turn to (num) tn' (now) tw' true lG BX xC m') → News g L h' ((dP, oP') :: (BX, listOf #[.ref DB, .int (k + 1) tb'] cb) :: rest) → wpAny (MP w) (callerA.deeper (envOf (Str.ofString "law") lawScope L fa (Value.ref 432))) (execs (turnBody.drop 10) (envOf (Str.ofString "law") lawScope L fa (Value.ref 432))) Q E { s with heap := h', toks := tk' })
  :
  wpAny (MP w) (callerA.deeper (envOf (Str.ofString "law") lawScope L fa (Value.ref 432))) (execs (turnBody.drop 3) (envOf (Str.ofString "law") lawScope L fa (Value.ref 432))) Q E s := by
  have hall : ∀ q, (q = (dP, oP) ∨ q = (BX, listOf #[.ref DB, .int k tb] cb) ∨ q ∈ rest) → q ∈ news := by
    intro q hq
    rcases hq with rfl | hq
    · exact t2.sub _ (.inl rfl)
    rcases hq with rfl | hq
    · exact t2.sub _ (.inr (t5.sub _ (.inl rfl)))
    exact t2.sub _ (.inr (t5.sub _ (.inr hq)))
  with_reducible refine' BP_0 (xC := xC) (dC := dC) (xP := xP) (dP := dP) (xS := xS) (xA := xA) (dA := dA) (lK := lK) (lc := lc) (la := la) (last := last) (fW := fW) (fC := fC) (n := n) (lG := lG) (BX := BX) (DB := DB) (cd := cd) (cb := cb) (oC := oC) (oP := oP) (oA := oA) (fr := fr) (recv := recv) (hgh := hgh) (k := k) (tb := tb) (ws := ws) (ns := ns) (turn := turn) (num := num) (now := now) (to := to) (tn := tn) (tw := tw) (m := m) (rest := rest) T K0 CH hI hlen hdl hC hP hA hn hw hw2 ht ht2 hk hk2 nt0_1 nm0_0 nm0_1 nm0_2 nm0_3 nm0_4 nm0_5 nm1_0 nm1_1 nm1_2 nm1_3 nm1_4 nm1_5 hr0 hr1 F ?hN h X
  intro p hp
  refine N p ?_
  rcases List.mem_cons.mp hp with rfl | hp
  · exact hall _ (.inl rfl)
  rcases List.mem_cons.mp hp with rfl | hp
  · exact hall _ (.inr (.inl rfl))
  rcases List.mem_cons.mp hp with rfl | hp
  · exact m1
  rcases List.mem_cons.mp hp with rfl | hp
  · exact t1
  rcases List.mem_cons.mp hp with rfl | hp
  · exact m2
  rcases List.mem_cons.mp hp with rfl | hp
  · exact m5
  rcases List.mem_cons.mp hp with rfl | hp
  · exact t3
  rcases List.mem_cons.mp hp with rfl | hp
  · exact mdb
  exact hall _ (.inr (.inr hp))
set_option maxRecDepth 100000 in
set_option maxHeartbeats 0 in
theorem C1T_0 {w : World} {g : Heap} {L fa : Addr} {mg mb mean} {s : Shared} {Q : Flow → Shared → Prop} {E : Value → Shared → Prop} {m : Str → Option Value} {turn num now : Int} {to tn tw : Tok} {xC dC xP dP xS xH dH xA dA lK lH lc la last fW fC n nG lG BX DB cd cb cH nK kc : Nat} {oC oP oH oA : Obj} {fr mo : Bool} {cn recv hgh k dl : Int} {tb td x4 : Tok} {tg : Nat → Tok} {ws : List Value} {ns : List Int} {rest : List (Addr × Obj)}
  (T : Top topProg looseP mean mg mb g) (K0 : Below callerA g [] g) (CH : CodeHd g 432 430) (hI : IntsAre ws ns) (hlen : ns.length ≤ 24) (hdl : @LT.lt Nat _ DB BX)
  (hC : ConnO w.params oC xP xS fW fC cn true)
  (hP : PathsO w.params oP lK xA last hgh la)
  (hH : PathO w.params oH "home" "proven" true 0 lH .none false)
  (hA : PathO w.params oA "away" "trying" fr recv lc (.int dl td) mo)
  (hn : n < 7)
  (hw : 0 ≤ now)
  (hw2 : now ≤ 5000)
  (ht : 0 ≤ turn)
  (ht2 : turn ≤ 20)
  (hk : 0 ≤ k)
  (hk2 : k ≤ 900)
  (nt0_1 : @Ne Nat dA dP)
  (nt0_2 : @Ne Nat BX dP)
  (nm0_0 : @Ne Nat xC dP)
  (nm0_1 : @Ne Nat dC dP)
  (nm0_2 : @Ne Nat xP dP)
  (nm0_3 : @Ne Nat lK dP)
  (nm0_4 : @Ne Nat xH dP)
  (nm0_5 : @Ne Nat dH dP)
  (nm0_6 : @Ne Nat lH dP)
  (nm0_7 : @Ne Nat xA dP)
  (nm0_8 : @Ne Nat lc dP)
  (nm0_9 : @Ne Nat lG dP)
  (nm0_10 : @Ne Nat DB dP)
  (nt1_2 : @Ne Nat BX dA)
  (nm1_0 : @Ne Nat xC dA)
  (nm1_1 : @Ne Nat dC dA)
  (nm1_2 : @Ne Nat xP dA)
  (nm1_3 : @Ne Nat lK dA)
  (nm1_4 : @Ne Nat xH dA)
  (nm1_5 : @Ne Nat dH dA)
  (nm1_6 : @Ne Nat lH dA)
  (nm1_7 : @Ne Nat xA dA)
  (nm1_8 : @Ne Nat lc dA)
  (nm1_9 : @Ne Nat lG dA)
  (nm1_10 : @Ne Nat DB dA)
  (nm2_0 : @Ne Nat xC BX)
  (nm2_1 : @Ne Nat dC BX)
  (nm2_2 : @Ne Nat xP BX)
  (nm2_3 : @Ne Nat lK BX)
  (nm2_4 : @Ne Nat xH BX)
  (nm2_5 : @Ne Nat dH BX)
  (nm2_6 : @Ne Nat lH BX)
  (nm2_7 : @Ne Nat xA BX)
  (nm2_8 : @Ne Nat lc BX)
  (nm2_9 : @Ne Nat lG BX)
  (nm2_10 : @Ne Nat DB BX)
  (hr0 : ∀ p ∈ rest, p.1 ≠ dP)
  (hr1 : ∀ p ∈ rest, p.1 ≠ dA)
  (hr2 : ∀ p ∈ rest, p.1 ≠ BX)
  (F : Fr g L s.heap (lm turn to num tn now tw false lG BX xC m))
  (N : News g L s.heap ((dP, oP) :: (dA, oA) :: (BX, listOf #[.ref DB, .int k tb] cb) :: (xC, instObj 410 dC) :: (dC, oC) :: (xP, instObj 243 dP) :: (lK, listOf #[.ref xH, .ref xA] nK) :: (xH, instObj 126 dH) :: (dH, oH) :: (lH, listOf #[] cH) :: (xA, instObj 126 dA) :: (lc, listOf #[.bytes (b8 (40 + (n : Int))) x4] kc) :: (lG, listOf (gl tg (n + 1)).toArray nG) :: (DB, listOf ws.toArray cd) :: rest))
  (h1 : ∀ tb' tn' tw' m' tk' h', Fr g L h' (lm turn to (num) tn' (now) tw' false lG BX xC m') → News g L h' ((dP, oP) :: (dA, oA) :: (BX, listOf #[.ref DB, .int (k + 1 + 1) tb'] cb) :: rest) → wpAny (MP w) (callerA.deeper (envOf (Str.ofString "law") lawScope L fa (Value.ref 432))) (execs (turnBody.drop 14) (envOf (Str.ofString "law") lawScope L fa (Value.ref 432))) Q E { s with heap := h', toks := tk' })
  (h2 : ∀ oP' oA' lc' tb' tn' tw' m' tk' h', (∀ p ∈ rest, p.1 ≠ lc') → @Ne Nat dP lc' → @Ne Nat dA lc' → @Ne Nat BX lc' → PathsO w.params oP' lK xA xA hgh la → PathO w.params oA' "away" "proven" true recv lc' .none false → Fr g L h' (lm turn to (num) tn' (now) tw' true lG BX xC m') → News g L h' ((lc', listOf #[] 0) :: (dP, oP') :: (dA, oA') :: (BX, listOf #[.ref DB, .int (k + 1 + 1) tb'] cb) :: rest) → wpAny (MP w) (callerA.deeper (envOf (Str.ofString "law") lawScope L fa (Value.ref 432))) (execs (turnBody.drop 14) (envOf (Str.ofString "law") lawScope L fa (Value.ref 432))) Q E { s with heap := h', toks := tk' })
  (X : (kF w.params).In g) :
  wpAny (MP w) (callerA.deeper (envOf (Str.ofString "law") lawScope L fa (Value.ref 432))) (execs (turnBody.drop 10) (envOf (Str.ofString "law") lawScope L fa (Value.ref 432))) Q E s := by
  revert X
  dsimp only [MP]
  k_fill
  intro X
  unfold lm at F
  generalize hs : lawScope = sc at h1 h2 ⊢
  conv at hs => lhs; whnf
  subst hs
  generalize hs : turnBody.drop 10 = sc
  conv at hs => lhs; whnf
  subst hs
  generalize hs : turnBody.drop 14 = sc at h1 h2
  conv at hs => lhs; whnf
  subst hs
  dsimp only [looseP] at T
  repeat' (first | ((first | (with_reducible show wpAny _ _ (execs _ _) _ _ _) | ((fail_if_success (with_reducible show wpAny _ _ _ _ _ _)); dsimp only; (with_reducible show wpAny _ _ (execs _ _) _ _ _))); ((with_reducible refine' h1 _ _ _ _ _ _   ?hF ?hN); (case hF => exact frLaw (by k_asm) (by rfl) (by rfl) (by rfl) (by rfl) (by rfl) (by rfl) (by rfl)); (case hN => exact News.subs (by k_asm) (by lcg_sub)); skip)) | ((first | (with_reducible show wpAny _ _ (execs _ _) _ _ _) | ((fail_if_success (with_reducible show wpAny _ _ _ _ _ _)); dsimp only; (with_reducible show wpAny _ _ (execs _ _) _ _ _))); ((with_reducible refine' h2 _ _ _ _ _ _ _ _ _ ?nflcq0 ?nflcqdP ?nflcqdA ?nflcqBX ?fc0 ?fc1 ?hF ?hN); (case hF => exact frLaw (by k_asm) (by rfl) (by rfl) (by rfl) (by rfl) (by rfl) (by rfl) (by rfl)); (case hN => exact News.subs (by k_asm) (by lcg_sub)); (case fc1 => first | assumption | exact PathsO.mk .. | exact PathO.mk .. | exact ConnO.again .. | exact ConnO.zero .. | k_ne | omega); (case fc0 => first | assumption | exact PathsO.mk .. | exact PathO.mk .. | exact ConnO.again .. | exact ConnO.zero .. | k_ne | omega); (case nflcq0 => k_all); (case nflcqdP => k_ne); (case nflcqdA => k_ne); (case nflcqBX => k_ne))) | 
    ((with_reducible show wpAny _ _ (subscriptTail _ _ _ _) _ _ _); first
    | (k_here; (with_reducible show wpAny _ _ (subscriptTail _ _ (Value.ref _) (Value.int _ _)) _ _ _); k_dflt (refine' item3 ?N ?m ?h0 ?h1 ?_; (case N => k_asm); (case m => k_mem); (case h0 => omega); (case h1 => omega); k_whole); intro v' t' hv'; refine splitV (n := n) hv' (by omega) (by omega) (by omega) ?_ ?_ <;> (intro re'; first | subst re' | (obtain ⟨nl0, nl1⟩ := re')))
    | (k_here; (with_reducible show wpAny _ _ (subscriptTail _ _ (Value.ref lG) (Value.int _ _)) _ _ _); k_dflt (first | (refine' gl_item (j := (n : Int)) ?N ?m ?e ?h0 ?h1 ?hN ?_; (case e => omega); (case N => k_asm); (case m => k_mem); (case h0 => omega); (case h1 => omega); (case hN => omega); k_whole) | (refine' gl_item ?N ?m ?e ?h0 ?h1 ?hN ?_; (case e => rfl); (case N => k_asm); (case m => k_mem); (case h0 => omega); (case h1 => omega); (case hN => omega); k_whole)))
    | (k_here; (with_reducible show wpAny _ _ (subscriptTail _ _ (Value.ref lG) (Value.int _ _)) _ _ _); k_dflt (first | (refine' gl_item (j := (n : Int)) ?N ?m ?e ?h0 ?h1 ?hN ?_; (case e => omega); (case N => k_asm); (case m => k_mem); (case h0 => omega); (case h1 => omega); (case hN => omega); k_whole) | (refine' gl_item ?N ?m ?e ?h0 ?h1 ?hN ?_; (case e => rfl); (case N => k_asm); (case m => k_mem); (case h0 => omega); (case h1 => omega); (case hN => omega); k_whole)))) | ((with_reducible show wpAny _ _ (PySem.call _ _) _ _ _); first
    | (k_here; (with_reducible show wpAny _ _ (PySem.call (Value.ref 428) [Value.ref _, Value.int _ _]) _ _ _); k_dflt (refine' take_ct (oX := listOf #[] 0) ?T ?K0 ?F ?N ?hI ?U ?hdb ?hlen ?hk ?hk2 ?hm ?hm2 ?hne ?X ?_; (case T => assumption); (case K0 => assumption); (case F => k_asm); (case N => k_asm); (case hI => assumption); (case U => k_upd); (case hdb => k_mem); (case hlen => first | assumption | omega); (case hk => omega); (case hk2 => omega); (case hm => omega); (case hm2 => omega); (case hne => first | assumption | omega); (case X => assumption); k_whole); intro r' tr' tk' tb' h' hr0 hr1 F' HN'; (have N' := HN' _ (by k_upd)); clear HN'; (try k_sweep))
    | (k_here; (with_reducible show wpAny _ _ (PySem.call (Value.type "bytes") [Value.int 8 _]) _ _ _); k_dflt (refine' call_bytes8 ?_; k_whole); intro t' k')
    | (k_here; (with_reducible show wpAny _ _ (call (Value.builtin _) [Value.ref _, _]) _ _ _); k_dflt (refine' append_K ?k1 ?k2 ?k3 ?_ ?z; (case k1 => k_asm); (case k2 => k_asm); (case k3 => k_upd); (case z => first | exact gl_fits _ (by omega) | exact Nat.le_of_ble_eq_true rfl); k_whole); intro h' F' N'; (try k_sweep))
    | (k_here; (with_reducible show wpAny _ _ (call (Value.builtin "len") [Value.ref _]) _ _ _); k_dflt (refine' kun_lenL ?k1 ?k2 ?k3 ?_; (case k1 => exact News.isList (by k_asm) (by k_mem)); (case k2 => first | exact gl_size1 _ _ | exact gl_size _ _); (case k3 => omega); k_whole))
    | (k_here; (with_reducible show wpAny _ _ (PySem.call (Value.ref 428) [Value.ref _, Value.int _ _]) _ _ _); k_dflt (refine' take_ct (oX := listOf #[] 0) ?T ?K0 ?F ?N ?hI ?U ?hdb ?hlen ?hk ?hk2 ?hm ?hm2 ?hne ?X ?_; (case T => assumption); (case K0 => assumption); (case F => k_asm); (case N => k_asm); (case hI => assumption); (case U => k_upd); (case hdb => k_mem); (case hlen => first | assumption | omega); (case hk => omega); (case hk2 => omega); (case hm => omega); (case hm2 => omega); (case hne => first | assumption | omega); (case X => assumption); k_whole); intro r' tr' tk' tb' h' hr0 hr1 F' HN'; (have N' := HN' _ (by k_upd)); clear HN'; (try k_sweep); (first | (refine split2 hr0 hr1 ?_ ?_ <;> (intro re'; subst re')) | (refine split3 hr0 hr1 ?_ ?_ ?_ <;> (intro re'; subst re')) | (refine splitN (n := n) hr0 hr1 (by omega) ?_ ?_ <;> (intro re'; first | subst re' | (obtain ⟨nl0, nl1⟩ := re'))) | skip))
    | (k_here; (with_reducible show wpAny _ _ (PySem.call (Value.ref 221) [Value.ref _, Value.bytes _ _]) _ _ _); k_dflt (refine' trH_ct ?F ?N ?m1 ?t ?hP ?m3 ?m4 ?m5 ?hH ?m8 ?m6 ?t2 ?hA ?m9 ?nt0_1 ?nm0_0 ?nm0_1 ?nm0_2 ?nm0_3 ?nm0_4 ?nm0_5 ?nm0_6 ?nm1_0 ?nm1_1 ?nm1_2 ?nm1_3 ?nm1_4 ?nm1_5 ?nm1_6 ?hr0 ?hr1 ?T ?K0 ?X ?_; (case F => k_asm); (case N => k_asm); (case m1 => k_mem); (case t => k_offL); (case hP => first | assumption | exact PathsO.mk .. | exact PathO.mk .. | exact ConnO.again .. | exact ConnO.zero ..); (case m3 => k_mem); (case m4 => k_mem); (case m5 => k_mem); (case hH => first | assumption | exact PathsO.mk .. | exact PathO.mk .. | exact ConnO.again .. | exact ConnO.zero ..); (case m8 => k_mem); (case m6 => k_mem); (case t2 => k_offL); (case hA => first | assumption | exact PathsO.mk .. | exact PathO.mk .. | exact ConnO.again .. | exact ConnO.zero ..); (case m9 => k_mem); (case nt0_1 => k_ne); (case nm0_0 => k_ne); (case nm0_1 => k_ne); (case nm0_2 => k_ne); (case nm0_3 => k_ne); (case nm0_4 => k_ne); (case nm0_5 => k_ne); (case nm0_6 => k_ne); (case nm1_0 => k_ne); (case nm1_1 => k_ne); (case nm1_2 => k_ne); (case nm1_3 => k_ne); (case nm1_4 => k_ne); (case nm1_5 => k_ne); (case nm1_6 => k_ne); (case hr0 => k_all); (case hr1 => k_all); (case T => assumption); (case K0 => assumption); (case X => assumption); k_whole); intro oP' oA' lc' tk' h' lf1 lf2 lf3 hP' hA' F' N'; (try simp only [List.cons_append, List.nil_append] at N'); (try k_sweep))
    | (k_here; (with_reducible show wpAny _ _ (PySem.call (Value.ref 221) [Value.ref _, Value.bytes _ _]) _ _ _); k_dflt (refine' trM_ct ?F ?N ?m1 ?t ?hP ?m3 ?m4 ?m5 ?hH ?m8 ?m6 ?t2 ?hA ?m9 ?hbc ?T ?K0 ?X ?_; (case F => k_asm); (case N => k_asm); (case m1 => k_mem); (case t => k_mem); (case hP => first | assumption | exact PathsO.mk .. | exact PathO.mk .. | exact ConnO.again .. | exact ConnO.zero ..); (case m3 => k_mem); (case m4 => k_mem); (case m5 => k_mem); (case hH => first | assumption | exact PathsO.mk .. | exact PathO.mk .. | exact ConnO.again .. | exact ConnO.zero ..); (case m8 => k_mem); (case m6 => k_mem); (case t2 => k_mem); (case hA => first | assumption | exact PathsO.mk .. | exact PathO.mk .. | exact ConnO.again .. | exact ConnO.zero ..); (case m9 => k_mem); (case hbc => first | assumption | exact PathsO.mk .. | exact PathO.mk .. | exact ConnO.again .. | exact ConnO.zero ..); (case T => assumption); (case K0 => assumption); (case X => assumption); k_whole); intro tk' h' F' N'; (try simp only [List.cons_append, List.nil_append] at N'); (try k_sweep))) | ((with_reducible show wpAny _ _ (compareOp _ _ _) _ _ _); first
    | (k_here; (with_reducible show wpAny _ _ (compareOp CmpOp.Eq (Value.bytes _ _) (Value.bytes _ _)) _ _ _); first | refine eqB_no (by assumption) ?_ | refine eqB_yes rfl ?_)) | (k_unfold; (try dsimp only)) | (k_end; wrow_close) | walk1 | (dsimp only; walk1) | (leave1; walk_say "STEP leave1"; try dsimp only) | fail "no step")

set_option maxRecDepth 100000 in
set_option maxHeartbeats 0 in
theorem C1T_w {w : World} {g : Heap} {L fa : Addr} {mg mb mean} {s : Shared} {Q : Flow → Shared → Prop} {E : Value → Shared → Prop} {m : Str → Option Value} {turn num now : Int} {to tn tw : Tok} {xC dC xP dP xS xH dH xA dA lK lH lc la last fW fC n nG lG BX DB cd cb cH nK kc : Nat} {oC oP oH oA : Obj} {fr mo : Bool} {cn recv hgh k dl : Int} {tb td x4 : Tok} {tg : Nat → Tok} {ws : List Value} {ns : List Int} {rest : List (Addr × Obj)} {news : List (Addr × Obj)} {r0 : List (Addr × Obj)} {r1 : List (Addr × Obj)}
  (F : Fr g L s.heap (lm turn to num tn now tw false lG BX xC m))
  (N : News g L s.heap news)
  (m1 : (xC, instObj 410 dC) ∈ news)
  (t1 : (dC, oC) ∈ news)
  (hC : ConnO w.params oC xP xS fW fC cn true)
  (m2 : (xP, instObj 243 dP) ∈ news)
  (t2 : Take (dP, oP) news r0)
  (hP : PathsO w.params oP lK xA last hgh la)
  (m3 : (lK, listOf #[.ref xH, .ref xA] nK) ∈ news)
  (mh1 : (xH, instObj 126 dH) ∈ news)
  (mh2 : (dH, oH) ∈ news)
  (hH : PathO w.params oH "home" "proven" true 0 lH .none false)
  (m4 : (lH, listOf #[] cH) ∈ news)
  (m6 : (xA, instObj 126 dA) ∈ news)
  (t3 : Take (dA, oA) r0 r1)
  (hA : PathO w.params oA "away" "trying" fr recv lc (.int dl td) mo)
  (m9 : (lc, listOf #[.bytes (b8 (40 + (n : Int))) x4] kc) ∈ news)
  (mg1 : (lG, listOf (gl tg (n + 1)).toArray nG) ∈ news)
  (t5 : Take (BX, listOf #[.ref DB, .int k tb] cb) r1 rest)
  (mdb : (DB, listOf ws.toArray cd) ∈ news)
  (hn : n < 7)
  (hw : 0 ≤ now)
  (hw2 : now ≤ 5000)
  (ht : 0 ≤ turn)
  (ht2 : turn ≤ 20)
  (hk : 0 ≤ k)
  (hk2 : k ≤ 900)
  (nt0_1 : @Ne Nat dA dP)
  (nt0_2 : @Ne Nat BX dP)
  (nm0_0 : @Ne Nat xC dP)
  (nm0_1 : @Ne Nat dC dP)
  (nm0_2 : @Ne Nat xP dP)
  (nm0_3 : @Ne Nat lK dP)
  (nm0_4 : @Ne Nat xH dP)
  (nm0_5 : @Ne Nat dH dP)
  (nm0_6 : @Ne Nat lH dP)
  (nm0_7 : @Ne Nat xA dP)
  (nm0_8 : @Ne Nat lc dP)
  (nm0_9 : @Ne Nat lG dP)
  (nm0_10 : @Ne Nat DB dP)
  (nt1_2 : @Ne Nat BX dA)
  (nm1_0 : @Ne Nat xC dA)
  (nm1_1 : @Ne Nat dC dA)
  (nm1_2 : @Ne Nat xP dA)
  (nm1_3 : @Ne Nat lK dA)
  (nm1_4 : @Ne Nat xH dA)
  (nm1_5 : @Ne Nat dH dA)
  (nm1_6 : @Ne Nat lH dA)
  (nm1_7 : @Ne Nat xA dA)
  (nm1_8 : @Ne Nat lc dA)
  (nm1_9 : @Ne Nat lG dA)
  (nm1_10 : @Ne Nat DB dA)
  (nm2_0 : @Ne Nat xC BX)
  (nm2_1 : @Ne Nat dC BX)
  (nm2_2 : @Ne Nat xP BX)
  (nm2_3 : @Ne Nat lK BX)
  (nm2_4 : @Ne Nat xH BX)
  (nm2_5 : @Ne Nat dH BX)
  (nm2_6 : @Ne Nat lH BX)
  (nm2_7 : @Ne Nat xA BX)
  (nm2_8 : @Ne Nat lc BX)
  (nm2_9 : @Ne Nat lG BX)
  (nm2_10 : @Ne Nat DB BX)
  (hr0 : ∀ p ∈ rest, p.1 ≠ dP)
  (hr1 : ∀ p ∈ rest, p.1 ≠ dA)
  (hr2 : ∀ p ∈ rest, p.1 ≠ BX)
  (T : Top topProg looseP mean mg mb g) (K0 : Below callerA g [] g) (CH : CodeHd g 432 430) (hI : IntsAre ws ns) (hlen : ns.length ≤ 24) (hdl : @LT.lt Nat _ DB BX) (X : (kF w.params).In g)
  (h1 : ∀ tb' tn' tw' m' tk' h', Fr g L h' (lm turn to (num) tn' (now) tw' false lG BX xC m') → News g L h' ((dP, oP) :: (dA, oA) :: (BX, listOf #[.ref DB, .int (k + 1 + 1) tb'] cb) :: rest) → wpAny (MP w) (callerA.deeper (envOf (Str.ofString "law") lawScope L fa (Value.ref 432))) (execs (turnBody.drop 14) (envOf (Str.ofString "law") lawScope L fa (Value.ref 432))) Q E { s with heap := h', toks := tk' })
  (h2 : ∀ oP' oA' lc' tb' tn' tw' m' tk' h', (∀ p ∈ rest, p.1 ≠ lc') → @Ne Nat dP lc' → @Ne Nat dA lc' → @Ne Nat BX lc' → PathsO w.params oP' lK xA xA hgh la → PathO w.params oA' "away" "proven" true recv lc' .none false → Fr g L h' (lm turn to (num) tn' (now) tw' true lG BX xC m') → News g L h' ((lc', listOf #[] 0) :: (dP, oP') :: (dA, oA') :: (BX, listOf #[.ref DB, .int (k + 1 + 1) tb'] cb) :: rest) → wpAny (MP w) (callerA.deeper (envOf (Str.ofString "law") lawScope L fa (Value.ref 432))) (execs (turnBody.drop 14) (envOf (Str.ofString "law") lawScope L fa (Value.ref 432))) Q E { s with heap := h', toks := tk' })
  :
  wpAny (MP w) (callerA.deeper (envOf (Str.ofString "law") lawScope L fa (Value.ref 432))) (execs (turnBody.drop 10) (envOf (Str.ofString "law") lawScope L fa (Value.ref 432))) Q E s := by
  have hall : ∀ q, (q = (dP, oP) ∨ q = (dA, oA) ∨ q = (BX, listOf #[.ref DB, .int k tb] cb) ∨ q ∈ rest) → q ∈ news := by
    intro q hq
    rcases hq with rfl | hq
    · exact t2.sub _ (.inl rfl)
    rcases hq with rfl | hq
    · exact t2.sub _ (.inr (t3.sub _ (.inl rfl)))
    rcases hq with rfl | hq
    · exact t2.sub _ (.inr (t3.sub _ (.inr (t5.sub _ (.inl rfl)))))
    exact t2.sub _ (.inr (t3.sub _ (.inr (t5.sub _ (.inr hq)))))
  with_reducible refine' C1T_0 (xC := xC) (dC := dC) (xP := xP) (dP := dP) (xS := xS) (xH := xH) (dH := dH) (xA := xA) (dA := dA) (lK := lK) (lH := lH) (lc := lc) (la := la) (last := last) (fW := fW) (fC := fC) (n := n) (nG := nG) (lG := lG) (BX := BX) (DB := DB) (cd := cd) (cb := cb) (cH := cH) (nK := nK) (kc := kc) (oC := oC) (oP := oP) (oH := oH) (oA := oA) (fr := fr) (mo := mo) (cn := cn) (recv := recv) (hgh := hgh) (k := k) (dl := dl) (tb := tb) (td := td) (x4 := x4) (tg := tg) (ws := ws) (ns := ns) (turn := turn) (num := num) (now := now) (to := to) (tn := tn) (tw := tw) (m := m) (rest := rest) T K0 CH hI hlen hdl hC hP hH hA hn hw hw2 ht ht2 hk hk2 nt0_1 nt0_2 nm0_0 nm0_1 nm0_2 nm0_3 nm0_4 nm0_5 nm0_6 nm0_7 nm0_8 nm0_9 nm0_10 nt1_2 nm1_0 nm1_1 nm1_2 nm1_3 nm1_4 nm1_5 nm1_6 nm1_7 nm1_8 nm1_9 nm1_10 nm2_0 nm2_1 nm2_2 nm2_3 nm2_4 nm2_5 nm2_6 nm2_7 nm2_8 nm2_9 nm2_10 hr0 hr1 hr2 F ?hN h1 h2 X
  intro p hp
  refine N p ?_
  rcases List.mem_cons.mp hp with rfl | hp
  · exact hall _ (.inl rfl)
  rcases List.mem_cons.mp hp with rfl | hp
  · exact hall _ (.inr (.inl rfl))
  rcases List.mem_cons.mp hp with rfl | hp
  · exact hall _ (.inr (.inr (.inl rfl)))
  rcases List.mem_cons.mp hp with rfl | hp
  · exact m1
  rcases List.mem_cons.mp hp with rfl | hp
  · exact t1
  rcases List.mem_cons.mp hp with rfl | hp
  · exact m2
  rcases List.mem_cons.mp hp with rfl | hp
  · exact m3
  rcases List.mem_cons.mp hp with rfl | hp
  · exact mh1
  rcases List.mem_cons.mp hp with rfl | hp
  · exact mh2
  rcases List.mem_cons.mp hp with rfl | hp
  · exact m4
  rcases List.mem_cons.mp hp with rfl | hp
  · exact m6
  rcases List.mem_cons.mp hp with rfl | hp
  · exact m9
  rcases List.mem_cons.mp hp with rfl | hp
  · exact mg1
  rcases List.mem_cons.mp hp with rfl | hp
  · exact mdb
  exact hall _ (.inr (.inr (.inr hp)))
set_option maxRecDepth 100000 in
set_option maxHeartbeats 0 in
theorem C1P_0 {w : World} {g : Heap} {L fa : Addr} {mg mb mean} {s : Shared} {Q : Flow → Shared → Prop} {E : Value → Shared → Prop} {m : Str → Option Value} {turn num now : Int} {to tn tw : Tok} {xC dC xP dP xS xH dH xA dA lK lH lc la last fW fC n nG lG BX DB cd cb cH nK kc : Nat} {oC oP oH oA : Obj} {fr mo : Bool} {cn recv hgh k : Int} {tb : Tok} {tg : Nat → Tok} {ws : List Value} {ns : List Int} {rest : List (Addr × Obj)}
  (T : Top topProg looseP mean mg mb g) (K0 : Below callerA g [] g) (CH : CodeHd g 432 430) (hI : IntsAre ws ns) (hlen : ns.length ≤ 24) (hdl : @LT.lt Nat _ DB BX)
  (hC : ConnO w.params oC xP xS fW fC cn true)
  (hP : PathsO w.params oP lK xA last hgh la)
  (hH : PathO w.params oH "home" "proven" true 0 lH .none false)
  (hA : PathO w.params oA "away" "proven" fr recv lc .none mo)
  (hn : n < 7)
  (hw : 0 ≤ now)
  (hw2 : now ≤ 5000)
  (ht : 0 ≤ turn)
  (ht2 : turn ≤ 20)
  (hk : 0 ≤ k)
  (hk2 : k ≤ 900)
  (nm0_0 : @Ne Nat xC BX)
  (nm0_1 : @Ne Nat dC BX)
  (nm0_2 : @Ne Nat xP BX)
  (nm0_3 : @Ne Nat dP BX)
  (nm0_4 : @Ne Nat lK BX)
  (nm0_5 : @Ne Nat xH BX)
  (nm0_6 : @Ne Nat dH BX)
  (nm0_7 : @Ne Nat lH BX)
  (nm0_8 : @Ne Nat xA BX)
  (nm0_9 : @Ne Nat dA BX)
  (nm0_10 : @Ne Nat lc BX)
  (nm0_11 : @Ne Nat lG BX)
  (nm0_12 : @Ne Nat DB BX)
  (hr0 : ∀ p ∈ rest, p.1 ≠ BX)
  (F : Fr g L s.heap (lm turn to num tn now tw true lG BX xC m))
  (N : News g L s.heap ((BX, listOf #[.ref DB, .int k tb] cb) :: (xC, instObj 410 dC) :: (dC, oC) :: (xP, instObj 243 dP) :: (dP, oP) :: (lK, listOf #[.ref xH, .ref xA] nK) :: (xH, instObj 126 dH) :: (dH, oH) :: (lH, listOf #[] cH) :: (xA, instObj 126 dA) :: (dA, oA) :: (lc, listOf #[] kc) :: (lG, listOf (gl tg (n + 1)).toArray nG) :: (DB, listOf ws.toArray cd) :: rest))
  (h : ∀ tb' tn' tw' m' tk' h', Fr g L h' (lm turn to (num) tn' (now) tw' true lG BX xC m') → News g L h' ((BX, listOf #[.ref DB, .int (k + 1 + 1) tb'] cb) :: rest) → wpAny (MP w) (callerA.deeper (envOf (Str.ofString "law") lawScope L fa (Value.ref 432))) (execs (turnBody.drop 14) (envOf (Str.ofString "law") lawScope L fa (Value.ref 432))) Q E { s with heap := h', toks := tk' })
  (X : (kF w.params).In g) :
  wpAny (MP w) (callerA.deeper (envOf (Str.ofString "law") lawScope L fa (Value.ref 432))) (execs (turnBody.drop 10) (envOf (Str.ofString "law") lawScope L fa (Value.ref 432))) Q E s := by
  revert X
  dsimp only [MP]
  k_fill
  intro X
  unfold lm at F
  generalize hs : lawScope = sc at h ⊢
  conv at hs => lhs; whnf
  subst hs
  generalize hs : turnBody.drop 10 = sc
  conv at hs => lhs; whnf
  subst hs
  generalize hs : turnBody.drop 14 = sc at h
  conv at hs => lhs; whnf
  subst hs
  dsimp only [looseP] at T
  repeat' (first | ((first | (with_reducible show wpAny _ _ (execs _ _) _ _ _) | ((fail_if_success (with_reducible show wpAny _ _ _ _ _ _)); dsimp only; (with_reducible show wpAny _ _ (execs _ _) _ _ _))); ((with_reducible refine' h _ _ _ _ _ _   ?hF ?hN); (case hF => exact frLaw (by k_asm) (by rfl) (by rfl) (by rfl) (by rfl) (by rfl) (by rfl) (by rfl)); (case hN => exact News.subs (by k_asm) (by lcg_sub)); skip)) | 
    ((with_reducible show wpAny _ _ (subscriptTail _ _ _ _) _ _ _); first
    | (k_here; (with_reducible show wpAny _ _ (subscriptTail _ _ (Value.ref _) (Value.int _ _)) _ _ _); k_dflt (refine' item3 ?N ?m ?h0 ?h1 ?_; (case N => k_asm); (case m => k_mem); (case h0 => omega); (case h1 => omega); k_whole); intro v' t' hv')
    | (k_here; (with_reducible show wpAny _ _ (subscriptTail _ _ (Value.ref lG) (Value.int _ _)) _ _ _); k_dflt (first | (refine' gl_item (j := (n : Int)) ?N ?m ?e ?h0 ?h1 ?hN ?_; (case e => omega); (case N => k_asm); (case m => k_mem); (case h0 => omega); (case h1 => omega); (case hN => omega); k_whole) | (refine' gl_item ?N ?m ?e ?h0 ?h1 ?hN ?_; (case e => rfl); (case N => k_asm); (case m => k_mem); (case h0 => omega); (case h1 => omega); (case hN => omega); k_whole)))
    | (k_here; (with_reducible show wpAny _ _ (subscriptTail _ _ (Value.ref lG) (Value.int _ _)) _ _ _); k_dflt (first | (refine' gl_item (j := (n : Int)) ?N ?m ?e ?h0 ?h1 ?hN ?_; (case e => omega); (case N => k_asm); (case m => k_mem); (case h0 => omega); (case h1 => omega); (case hN => omega); k_whole) | (refine' gl_item ?N ?m ?e ?h0 ?h1 ?hN ?_; (case e => rfl); (case N => k_asm); (case m => k_mem); (case h0 => omega); (case h1 => omega); (case hN => omega); k_whole)))) | ((with_reducible show wpAny _ _ (PySem.call _ _) _ _ _); first
    | (k_here; (with_reducible show wpAny _ _ (PySem.call (Value.ref 428) [Value.ref _, Value.int _ _]) _ _ _); k_dflt (refine' take_ct (oX := listOf #[] 0) ?T ?K0 ?F ?N ?hI ?U ?hdb ?hlen ?hk ?hk2 ?hm ?hm2 ?hne ?X ?_; (case T => assumption); (case K0 => assumption); (case F => k_asm); (case N => k_asm); (case hI => assumption); (case U => k_upd); (case hdb => k_mem); (case hlen => first | assumption | omega); (case hk => omega); (case hk2 => omega); (case hm => omega); (case hm2 => omega); (case hne => first | assumption | omega); (case X => assumption); k_whole); intro r' tr' tk' tb' h' hr0 hr1 F' HN'; (have N' := HN' _ (by k_upd)); clear HN'; (try k_sweep))
    | (k_here; (with_reducible show wpAny _ _ (PySem.call (Value.type "bytes") [Value.int 8 _]) _ _ _); k_dflt (refine' call_bytes8 ?_; k_whole); intro t' k')
    | (k_here; (with_reducible show wpAny _ _ (call (Value.builtin _) [Value.ref _, _]) _ _ _); k_dflt (refine' append_K ?k1 ?k2 ?k3 ?_ ?z; (case k1 => k_asm); (case k2 => k_asm); (case k3 => k_upd); (case z => first | exact gl_fits _ (by omega) | exact Nat.le_of_ble_eq_true rfl); k_whole); intro h' F' N'; (try k_sweep))
    | (k_here; (with_reducible show wpAny _ _ (call (Value.builtin "len") [Value.ref _]) _ _ _); k_dflt (refine' kun_lenL ?k1 ?k2 ?k3 ?_; (case k1 => exact News.isList (by k_asm) (by k_mem)); (case k2 => first | exact gl_size1 _ _ | exact gl_size _ _); (case k3 => omega); k_whole))
    | (k_here; (with_reducible show wpAny _ _ (PySem.call (Value.ref 428) [Value.ref _, Value.int _ _]) _ _ _); k_dflt (refine' take_ct (oX := listOf #[] 0) ?T ?K0 ?F ?N ?hI ?U ?hdb ?hlen ?hk ?hk2 ?hm ?hm2 ?hne ?X ?_; (case T => assumption); (case K0 => assumption); (case F => k_asm); (case N => k_asm); (case hI => assumption); (case U => k_upd); (case hdb => k_mem); (case hlen => first | assumption | omega); (case hk => omega); (case hk2 => omega); (case hm => omega); (case hm2 => omega); (case hne => first | assumption | omega); (case X => assumption); k_whole); intro r' tr' tk' tb' h' hr0 hr1 F' HN'; (have N' := HN' _ (by k_upd)); clear HN'; (try k_sweep); (first | (refine split2 hr0 hr1 ?_ ?_ <;> (intro re'; subst re')) | (refine split3 hr0 hr1 ?_ ?_ ?_ <;> (intro re'; subst re')) | (refine splitN (n := n) hr0 hr1 (by omega) ?_ ?_ <;> (intro re'; first | subst re' | (obtain ⟨nl0, nl1⟩ := re'))) | skip))
    | (k_here; (with_reducible show wpAny _ _ (PySem.call (Value.ref 221) [Value.ref _, Value.bytes _ _]) _ _ _); k_dflt (refine' trN_ct ?F ?N ?m1 ?t ?hP ?m3 ?m4 ?m5 ?hH ?m8 ?m6 ?t2 ?hA ?m9 ?T ?K0 ?X ?_; (case F => k_asm); (case N => k_asm); (case m1 => k_mem); (case t => k_mem); (case hP => first | assumption | exact PathsO.mk .. | exact PathO.mk .. | exact ConnO.again .. | exact ConnO.zero ..); (case m3 => k_mem); (case m4 => k_mem); (case m5 => k_mem); (case hH => first | assumption | exact PathsO.mk .. | exact PathO.mk .. | exact ConnO.again .. | exact ConnO.zero ..); (case m8 => k_mem); (case m6 => k_mem); (case t2 => k_mem); (case hA => first | assumption | exact PathsO.mk .. | exact PathO.mk .. | exact ConnO.again .. | exact ConnO.zero ..); (case m9 => k_mem); (case T => assumption); (case K0 => assumption); (case X => assumption); k_whole); intro tk' h' F' N'; (try simp only [List.cons_append, List.nil_append] at N'); (try k_sweep))) | ((with_reducible show wpAny _ _ (compareOp _ _ _) _ _ _); first
    | (k_here; (with_reducible show wpAny _ _ (compareOp CmpOp.Eq (Value.bytes _ _) (Value.bytes _ _)) _ _ _); first | refine eqB_no (by assumption) ?_ | refine eqB_yes rfl ?_)) | (k_unfold; (try dsimp only)) | (k_end; wrow_close) | walk1 | (dsimp only; walk1) | (leave1; walk_say "STEP leave1"; try dsimp only) | fail "no step")

set_option maxRecDepth 100000 in
set_option maxHeartbeats 0 in
theorem C1P_w {w : World} {g : Heap} {L fa : Addr} {mg mb mean} {s : Shared} {Q : Flow → Shared → Prop} {E : Value → Shared → Prop} {m : Str → Option Value} {turn num now : Int} {to tn tw : Tok} {xC dC xP dP xS xH dH xA dA lK lH lc la last fW fC n nG lG BX DB cd cb cH nK kc : Nat} {oC oP oH oA : Obj} {fr mo : Bool} {cn recv hgh k : Int} {tb : Tok} {tg : Nat → Tok} {ws : List Value} {ns : List Int} {rest : List (Addr × Obj)} {news : List (Addr × Obj)}
  (F : Fr g L s.heap (lm turn to num tn now tw true lG BX xC m))
  (N : News g L s.heap news)
  (m1 : (xC, instObj 410 dC) ∈ news)
  (t1 : (dC, oC) ∈ news)
  (hC : ConnO w.params oC xP xS fW fC cn true)
  (m2 : (xP, instObj 243 dP) ∈ news)
  (t2 : (dP, oP) ∈ news)
  (hP : PathsO w.params oP lK xA last hgh la)
  (m3 : (lK, listOf #[.ref xH, .ref xA] nK) ∈ news)
  (mh1 : (xH, instObj 126 dH) ∈ news)
  (mh2 : (dH, oH) ∈ news)
  (hH : PathO w.params oH "home" "proven" true 0 lH .none false)
  (m4 : (lH, listOf #[] cH) ∈ news)
  (m6 : (xA, instObj 126 dA) ∈ news)
  (t3 : (dA, oA) ∈ news)
  (hA : PathO w.params oA "away" "proven" fr recv lc .none mo)
  (m9 : (lc, listOf #[] kc) ∈ news)
  (mg1 : (lG, listOf (gl tg (n + 1)).toArray nG) ∈ news)
  (t5 : Take (BX, listOf #[.ref DB, .int k tb] cb) news rest)
  (mdb : (DB, listOf ws.toArray cd) ∈ news)
  (hn : n < 7)
  (hw : 0 ≤ now)
  (hw2 : now ≤ 5000)
  (ht : 0 ≤ turn)
  (ht2 : turn ≤ 20)
  (hk : 0 ≤ k)
  (hk2 : k ≤ 900)
  (nm0_0 : @Ne Nat xC BX)
  (nm0_1 : @Ne Nat dC BX)
  (nm0_2 : @Ne Nat xP BX)
  (nm0_3 : @Ne Nat dP BX)
  (nm0_4 : @Ne Nat lK BX)
  (nm0_5 : @Ne Nat xH BX)
  (nm0_6 : @Ne Nat dH BX)
  (nm0_7 : @Ne Nat lH BX)
  (nm0_8 : @Ne Nat xA BX)
  (nm0_9 : @Ne Nat dA BX)
  (nm0_10 : @Ne Nat lc BX)
  (nm0_11 : @Ne Nat lG BX)
  (nm0_12 : @Ne Nat DB BX)
  (hr0 : ∀ p ∈ rest, p.1 ≠ BX)
  (T : Top topProg looseP mean mg mb g) (K0 : Below callerA g [] g) (CH : CodeHd g 432 430) (hI : IntsAre ws ns) (hlen : ns.length ≤ 24) (hdl : @LT.lt Nat _ DB BX) (X : (kF w.params).In g)
  (h : ∀ tb' tn' tw' m' tk' h', Fr g L h' (lm turn to (num) tn' (now) tw' true lG BX xC m') → News g L h' ((BX, listOf #[.ref DB, .int (k + 1 + 1) tb'] cb) :: rest) → wpAny (MP w) (callerA.deeper (envOf (Str.ofString "law") lawScope L fa (Value.ref 432))) (execs (turnBody.drop 14) (envOf (Str.ofString "law") lawScope L fa (Value.ref 432))) Q E { s with heap := h', toks := tk' })
  :
  wpAny (MP w) (callerA.deeper (envOf (Str.ofString "law") lawScope L fa (Value.ref 432))) (execs (turnBody.drop 10) (envOf (Str.ofString "law") lawScope L fa (Value.ref 432))) Q E s := by
  have hall : ∀ q, (q = (BX, listOf #[.ref DB, .int k tb] cb) ∨ q ∈ rest) → q ∈ news := by
    intro q hq
    rcases hq with rfl | hq
    · exact t5.sub _ (.inl rfl)
    exact t5.sub _ (.inr hq)
  with_reducible refine' C1P_0 (xC := xC) (dC := dC) (xP := xP) (dP := dP) (xS := xS) (xH := xH) (dH := dH) (xA := xA) (dA := dA) (lK := lK) (lH := lH) (lc := lc) (la := la) (last := last) (fW := fW) (fC := fC) (n := n) (nG := nG) (lG := lG) (BX := BX) (DB := DB) (cd := cd) (cb := cb) (cH := cH) (nK := nK) (kc := kc) (oC := oC) (oP := oP) (oH := oH) (oA := oA) (fr := fr) (mo := mo) (cn := cn) (recv := recv) (hgh := hgh) (k := k) (tb := tb) (tg := tg) (ws := ws) (ns := ns) (turn := turn) (num := num) (now := now) (to := to) (tn := tn) (tw := tw) (m := m) (rest := rest) T K0 CH hI hlen hdl hC hP hH hA hn hw hw2 ht ht2 hk hk2 nm0_0 nm0_1 nm0_2 nm0_3 nm0_4 nm0_5 nm0_6 nm0_7 nm0_8 nm0_9 nm0_10 nm0_11 nm0_12 hr0 F ?hN h X
  intro p hp
  refine N p ?_
  rcases List.mem_cons.mp hp with rfl | hp
  · exact hall _ (.inl rfl)
  rcases List.mem_cons.mp hp with rfl | hp
  · exact m1
  rcases List.mem_cons.mp hp with rfl | hp
  · exact t1
  rcases List.mem_cons.mp hp with rfl | hp
  · exact m2
  rcases List.mem_cons.mp hp with rfl | hp
  · exact t2
  rcases List.mem_cons.mp hp with rfl | hp
  · exact m3
  rcases List.mem_cons.mp hp with rfl | hp
  · exact mh1
  rcases List.mem_cons.mp hp with rfl | hp
  · exact mh2
  rcases List.mem_cons.mp hp with rfl | hp
  · exact m4
  rcases List.mem_cons.mp hp with rfl | hp
  · exact m6
  rcases List.mem_cons.mp hp with rfl | hp
  · exact t3
  rcases List.mem_cons.mp hp with rfl | hp
  · exact m9
  rcases List.mem_cons.mp hp with rfl | hp
  · exact mg1
  rcases List.mem_cons.mp hp with rfl | hp
  · exact mdb
  exact hall _ (.inr hp)
set_option maxRecDepth 100000 in
set_option maxHeartbeats 0 in
theorem DM_0 {w : World} {g : Heap} {L fa : Addr} {mg mb mean} {s : Shared} {Q : Flow → Shared → Prop} {E : Value → Shared → Prop} {m : Str → Option Value} {turn num now : Int} {to tn tw : Tok} {xC dC xP dP xS xH dH xA dA lK lH lc la fW fC lG BX nK : Nat} {oC oP oH oA : Obj} {fr mo : Bool} {cn recv hgh dl : Int} {td : Tok} {rest : List (Addr × Obj)}
  (T : Top topProg looseP mean mg mb g) (K0 : Below callerA g [] g) (CH : CodeHd g 432 430)
  (hC : ConnO w.params oC xP xS fW fC cn true)
  (hP : PathsO w.params oP lK xA xH hgh la)
  (hH : PathO w.params oH "home" "proven" true 0 lH .none false)
  (hA : PathO w.params oA "away" "trying" fr recv lc (.int dl td) mo)
  (hdl : dl ≤ now + 150)
  (nt0_1 : @Ne Nat dA dP)
  (nm0_0 : @Ne Nat xC dP)
  (nm0_1 : @Ne Nat dC dP)
  (nm0_2 : @Ne Nat xP dP)
  (nm0_3 : @Ne Nat lK dP)
  (nm0_4 : @Ne Nat xH dP)
  (nm0_5 : @Ne Nat dH dP)
  (nm0_6 : @Ne Nat xA dP)
  (nm1_0 : @Ne Nat xC dA)
  (nm1_1 : @Ne Nat dC dA)
  (nm1_2 : @Ne Nat xP dA)
  (nm1_3 : @Ne Nat lK dA)
  (nm1_4 : @Ne Nat xH dA)
  (nm1_5 : @Ne Nat dH dA)
  (nm1_6 : @Ne Nat xA dA)
  (hr0 : ∀ p ∈ rest, p.1 ≠ dP)
  (hr1 : ∀ p ∈ rest, p.1 ≠ dA)
  (F : Fr g L s.heap (lm turn to num tn now tw false lG BX xC m))
  (N : News g L s.heap ((dP, oP) :: (dA, oA) :: (xC, instObj 410 dC) :: (dC, oC) :: (xP, instObj 243 dP) :: (lK, listOf #[.ref xH, .ref xA] nK) :: (xH, instObj 126 dH) :: (dH, oH) :: (xA, instObj 126 dA) :: rest))
  (h : ∀ oP' oA' lc' tn' tw' m' tk' h', (∀ p ∈ rest, p.1 ≠ lc') → @Ne Nat dP lc' → @Ne Nat dA lc' → PathsO w.params oP' lK xH xH hgh la → PathO w.params oA' "away" "failed" false recv lc' .none false → Fr g L h' (lm turn to (num) tn' (now + 150) tw' false lG BX xC m') → News g L h' ((lc', listOf #[] 0) :: (dP, oP') :: (dA, oA') :: rest) → Q .next { s with heap := h', toks := tk' })
  (X : (kF w.params).In g) :
  wpAny (MP w) (callerA.deeper (envOf (Str.ofString "law") lawScope L fa (Value.ref 432))) (execs (turnBody.drop 14) (envOf (Str.ofString "law") lawScope L fa (Value.ref 432))) Q E s := by
  revert X
  dsimp only [MP]
  k_fill
  intro X
  unfold lm at F
  generalize hs : lawScope = sc at  ⊢
  conv at hs => lhs; whnf
  subst hs
  generalize hs : turnBody.drop 14 = sc
  conv at hs => lhs; whnf
  subst hs
  dsimp only [looseP] at T
  repeat' (first | ((fail_if_success (with_reducible show wpAny _ _ _ _ _ _)); (refine' h _ _ _ _ _ _ _ _ ?nflcq0 ?nflcqdP ?nflcqdA ?fc0 ?fc1 ?hF ?hN); (case hF => exact frLaw (by k_asm) (by rfl) (by rfl) (by rfl) (by rfl) (by rfl) (by rfl) (by rfl)); (case hN => exact News.subs (by k_asm) (by lcg_sub)); (case fc1 => first | assumption | exact PathsO.mk .. | exact PathO.mk .. | exact ConnO.again .. | exact ConnO.zero .. | k_ne | omega); (case fc0 => first | assumption | exact PathsO.mk .. | exact PathO.mk .. | exact ConnO.again .. | exact ConnO.zero .. | k_ne | omega); (case nflcq0 => k_all); (case nflcqdP => k_ne); (case nflcqdA => k_ne)) | 
    ((with_reducible show wpAny _ _ (subscriptTail _ _ _ _) _ _ _); first
    | (k_here; (with_reducible show wpAny _ _ (subscriptTail _ _ (Value.ref lG) (Value.int _ _)) _ _ _); k_dflt (first | (refine' gl_item (j := (n : Int)) ?N ?m ?e ?h0 ?h1 ?hN ?_; (case e => omega); (case N => k_asm); (case m => k_mem); (case h0 => omega); (case h1 => omega); (case hN => omega); k_whole) | (refine' gl_item ?N ?m ?e ?h0 ?h1 ?hN ?_; (case e => rfl); (case N => k_asm); (case m => k_mem); (case h0 => omega); (case h1 => omega); (case hN => omega); k_whole)))
    | (k_here; (with_reducible show wpAny _ _ (subscriptTail _ _ (Value.ref lG) (Value.int _ _)) _ _ _); k_dflt (first | (refine' gl_item (j := (n : Int)) ?N ?m ?e ?h0 ?h1 ?hN ?_; (case e => omega); (case N => k_asm); (case m => k_mem); (case h0 => omega); (case h1 => omega); (case hN => omega); k_whole) | (refine' gl_item ?N ?m ?e ?h0 ?h1 ?hN ?_; (case e => rfl); (case N => k_asm); (case m => k_mem); (case h0 => omega); (case h1 => omega); (case hN => omega); k_whole)))) | ((with_reducible show wpAny _ _ (PySem.call _ _) _ _ _); first
    | (k_here; (with_reducible show wpAny _ _ (PySem.call (Value.type "bytes") [Value.int 8 _]) _ _ _); k_dflt (refine' call_bytes8 ?_; k_whole); intro t' k')
    | (k_here; (with_reducible show wpAny _ _ (call (Value.builtin _) [Value.ref _, _]) _ _ _); k_dflt (refine' append_K ?k1 ?k2 ?k3 ?_ ?z; (case k1 => k_asm); (case k2 => k_asm); (case k3 => k_upd); (case z => first | exact gl_fits _ (by omega) | exact Nat.le_of_ble_eq_true rfl); k_whole); intro h' F' N'; (try k_sweep))
    | (k_here; (with_reducible show wpAny _ _ (call (Value.builtin "len") [Value.ref _]) _ _ _); k_dflt (refine' kun_lenL ?k1 ?k2 ?k3 ?_; (case k1 => exact News.isList (by k_asm) (by k_mem)); (case k2 => first | exact gl_size1 _ _ | exact gl_size _ _); (case k3 => omega); k_whole))
    | (k_here; (with_reducible show wpAny _ _ (PySem.call (Value.ref 428) [Value.ref _, Value.int _ _]) _ _ _); k_dflt (refine' take_ct (oX := listOf #[] 0) ?T ?K0 ?F ?N ?hI ?U ?hdb ?hlen ?hk ?hk2 ?hm ?hm2 ?hne ?X ?_; (case T => assumption); (case K0 => assumption); (case F => k_asm); (case N => k_asm); (case hI => assumption); (case U => k_upd); (case hdb => k_mem); (case hlen => first | assumption | omega); (case hk => omega); (case hk2 => omega); (case hm => omega); (case hm2 => omega); (case hne => first | assumption | omega); (case X => assumption); k_whole); intro r' tr' tk' tb' h' hr0 hr1 F' HN'; (have N' := HN' _ (by k_upd)); clear HN'; (try k_sweep); (first | (refine split2 hr0 hr1 ?_ ?_ <;> (intro re'; subst re')) | (refine split3 hr0 hr1 ?_ ?_ ?_ <;> (intro re'; subst re')) | (refine splitN (n := n) hr0 hr1 (by omega) ?_ ?_ <;> (intro re'; first | subst re' | (obtain ⟨nl0, nl1⟩ := re'))) | skip))
    | (k_here; (with_reducible show wpAny _ _ (PySem.call (Value.ref 240) [Value.ref _, Value.int _ _]) _ _ _); k_dflt (refine' otT_ct ?F ?N ?m1 ?t ?hP ?m3 ?m4 ?m5 ?hH ?m6 ?t2 ?hA ?hdn ?nt0_1 ?nm0_0 ?nm0_1 ?nm0_2 ?nm0_3 ?nm0_4 ?nm1_0 ?nm1_1 ?nm1_2 ?nm1_3 ?nm1_4 ?hr0 ?hr1 ?T ?K0 ?X ?_; (case F => k_asm); (case N => k_asm); (case m1 => k_mem); (case t => k_offL); (case hP => first | assumption | exact PathsO.mk .. | exact PathO.mk .. | exact ConnO.again .. | exact ConnO.zero ..); (case m3 => k_mem); (case m4 => k_mem); (case m5 => k_mem); (case hH => first | assumption | exact PathsO.mk .. | exact PathO.mk .. | exact ConnO.again .. | exact ConnO.zero ..); (case m6 => k_mem); (case t2 => k_offL); (case hA => first | assumption | exact PathsO.mk .. | exact PathO.mk .. | exact ConnO.again .. | exact ConnO.zero ..); (case hdn => first | assumption | omega); (case nt0_1 => k_ne); (case nm0_0 => k_ne); (case nm0_1 => k_ne); (case nm0_2 => k_ne); (case nm0_3 => k_ne); (case nm0_4 => k_ne); (case nm1_0 => k_ne); (case nm1_1 => k_ne); (case nm1_2 => k_ne); (case nm1_3 => k_ne); (case nm1_4 => k_ne); (case hr0 => k_all); (case hr1 => k_all); (case T => assumption); (case K0 => assumption); (case X => assumption); k_whole); intro oP' oA' lc' tr' tk' h' lf1 lf2 lf3 hP' hA' F' N'; (try simp only [List.cons_append, List.nil_append] at N'); (try k_sweep))) | ((with_reducible show wpAny _ _ (compareOp _ _ _) _ _ _); first
    | (k_here; (with_reducible show wpAny _ _ (compareOp CmpOp.Eq (Value.bytes _ _) (Value.bytes _ _)) _ _ _); first | refine eqB_no (by assumption) ?_ | refine eqB_yes rfl ?_)) | (k_unfold; (try dsimp only)) | (k_end; wrow_close) | walk1 | (dsimp only; walk1) | (leave1; walk_say "STEP leave1"; try dsimp only) | fail "no step")

set_option maxRecDepth 100000 in
set_option maxHeartbeats 0 in
theorem DM_w {w : World} {g : Heap} {L fa : Addr} {mg mb mean} {s : Shared} {Q : Flow → Shared → Prop} {E : Value → Shared → Prop} {m : Str → Option Value} {turn num now : Int} {to tn tw : Tok} {xC dC xP dP xS xH dH xA dA lK lH lc la fW fC lG BX nK : Nat} {oC oP oH oA : Obj} {fr mo : Bool} {cn recv hgh dl : Int} {td : Tok} {rest : List (Addr × Obj)} {news : List (Addr × Obj)} {r0 : List (Addr × Obj)}
  (F : Fr g L s.heap (lm turn to num tn now tw false lG BX xC m))
  (N : News g L s.heap news)
  (m1 : (xC, instObj 410 dC) ∈ news)
  (t1 : (dC, oC) ∈ news)
  (hC : ConnO w.params oC xP xS fW fC cn true)
  (m2 : (xP, instObj 243 dP) ∈ news)
  (t2 : Take (dP, oP) news r0)
  (hP : PathsO w.params oP lK xA xH hgh la)
  (m3 : (lK, listOf #[.ref xH, .ref xA] nK) ∈ news)
  (mh1 : (xH, instObj 126 dH) ∈ news)
  (mh2 : (dH, oH) ∈ news)
  (hH : PathO w.params oH "home" "proven" true 0 lH .none false)
  (m6 : (xA, instObj 126 dA) ∈ news)
  (t3 : Take (dA, oA) r0 rest)
  (hA : PathO w.params oA "away" "trying" fr recv lc (.int dl td) mo)
  (hdl : dl ≤ now + 150)
  (nt0_1 : @Ne Nat dA dP)
  (nm0_0 : @Ne Nat xC dP)
  (nm0_1 : @Ne Nat dC dP)
  (nm0_2 : @Ne Nat xP dP)
  (nm0_3 : @Ne Nat lK dP)
  (nm0_4 : @Ne Nat xH dP)
  (nm0_5 : @Ne Nat dH dP)
  (nm0_6 : @Ne Nat xA dP)
  (nm1_0 : @Ne Nat xC dA)
  (nm1_1 : @Ne Nat dC dA)
  (nm1_2 : @Ne Nat xP dA)
  (nm1_3 : @Ne Nat lK dA)
  (nm1_4 : @Ne Nat xH dA)
  (nm1_5 : @Ne Nat dH dA)
  (nm1_6 : @Ne Nat xA dA)
  (hr0 : ∀ p ∈ rest, p.1 ≠ dP)
  (hr1 : ∀ p ∈ rest, p.1 ≠ dA)
  (T : Top topProg looseP mean mg mb g) (K0 : Below callerA g [] g) (CH : CodeHd g 432 430) (X : (kF w.params).In g)
  (h : ∀ oP' oA' lc' tn' tw' m' tk' h', (∀ p ∈ rest, p.1 ≠ lc') → @Ne Nat dP lc' → @Ne Nat dA lc' → PathsO w.params oP' lK xH xH hgh la → PathO w.params oA' "away" "failed" false recv lc' .none false → Fr g L h' (lm turn to (num) tn' (now + 150) tw' false lG BX xC m') → News g L h' ((lc', listOf #[] 0) :: (dP, oP') :: (dA, oA') :: rest) → Q .next { s with heap := h', toks := tk' })
  :
  wpAny (MP w) (callerA.deeper (envOf (Str.ofString "law") lawScope L fa (Value.ref 432))) (execs (turnBody.drop 14) (envOf (Str.ofString "law") lawScope L fa (Value.ref 432))) Q E s := by
  have hall : ∀ q, (q = (dP, oP) ∨ q = (dA, oA) ∨ q ∈ rest) → q ∈ news := by
    intro q hq
    rcases hq with rfl | hq
    · exact t2.sub _ (.inl rfl)
    rcases hq with rfl | hq
    · exact t2.sub _ (.inr (t3.sub _ (.inl rfl)))
    exact t2.sub _ (.inr (t3.sub _ (.inr hq)))
  with_reducible refine' DM_0 (xC := xC) (dC := dC) (xP := xP) (dP := dP) (xS := xS) (xH := xH) (dH := dH) (xA := xA) (dA := dA) (lK := lK) (lH := lH) (lc := lc) (la := la) (fW := fW) (fC := fC) (lG := lG) (BX := BX) (nK := nK) (oC := oC) (oP := oP) (oH := oH) (oA := oA) (fr := fr) (mo := mo) (cn := cn) (recv := recv) (hgh := hgh) (dl := dl) (td := td) (turn := turn) (num := num) (now := now) (to := to) (tn := tn) (tw := tw) (m := m) (rest := rest) T K0 CH hC hP hH hA hdl nt0_1 nm0_0 nm0_1 nm0_2 nm0_3 nm0_4 nm0_5 nm0_6 nm1_0 nm1_1 nm1_2 nm1_3 nm1_4 nm1_5 nm1_6 hr0 hr1 F ?hN h X
  intro p hp
  refine N p ?_
  rcases List.mem_cons.mp hp with rfl | hp
  · exact hall _ (.inl rfl)
  rcases List.mem_cons.mp hp with rfl | hp
  · exact hall _ (.inr (.inl rfl))
  rcases List.mem_cons.mp hp with rfl | hp
  · exact m1
  rcases List.mem_cons.mp hp with rfl | hp
  · exact t1
  rcases List.mem_cons.mp hp with rfl | hp
  · exact m2
  rcases List.mem_cons.mp hp with rfl | hp
  · exact m3
  rcases List.mem_cons.mp hp with rfl | hp
  · exact mh1
  rcases List.mem_cons.mp hp with rfl | hp
  · exact mh2
  rcases List.mem_cons.mp hp with rfl | hp
  · exact m6
  exact hall _ (.inr (.inr hp))
set_option maxRecDepth 100000 in
set_option maxHeartbeats 0 in
theorem DH_0 {w : World} {g : Heap} {L fa : Addr} {mg mb mean} {s : Shared} {Q : Flow → Shared → Prop} {E : Value → Shared → Prop} {m : Str → Option Value} {turn num now : Int} {to tn tw : Tok} {xC dC xP dP xS xH dH xA dA lK lH lc la last fW fC lG BX nK : Nat} {oC oP oH oA : Obj} {fr mo : Bool} {cn recv hgh : Int} {rest : List (Addr × Obj)}
  (T : Top topProg looseP mean mg mb g) (K0 : Below callerA g [] g) (CH : CodeHd g 432 430)
  (hC : ConnO w.params oC xP xS fW fC cn true)
  (hP : PathsO w.params oP lK xA last hgh la)
  (hH : PathO w.params oH "home" "proven" true 0 lH .none false)
  (hA : PathO w.params oA "away" "proven" fr recv lc .none mo)
  (b1 : hgh < num + 1)
  (nm0_0 : @Ne Nat xC dP)
  (nm0_1 : @Ne Nat dC dP)
  (nm0_2 : @Ne Nat xP dP)
  (nm0_3 : @Ne Nat lK dP)
  (nm0_4 : @Ne Nat xH dP)
  (nm0_5 : @Ne Nat dH dP)
  (nm0_6 : @Ne Nat xA dP)
  (nm0_7 : @Ne Nat dA dP)
  (hr0 : ∀ p ∈ rest, p.1 ≠ dP)
  (F : Fr g L s.heap (lm turn to num tn now tw true lG BX xC m))
  (N : News g L s.heap ((dP, oP) :: (xC, instObj 410 dC) :: (dC, oC) :: (xP, instObj 243 dP) :: (lK, listOf #[.ref xH, .ref xA] nK) :: (xH, instObj 126 dH) :: (dH, oH) :: (xA, instObj 126 dA) :: (dA, oA) :: rest))
  (h : ∀ oP' tn' tw' m' tk' h', PathsO w.params oP' lK xH xA (num + 1) la → Fr g L h' (lm turn to (num + 1) tn' (now + 150) tw' true lG BX xC m') → News g L h' ((dP, oP') :: rest) → Q .next { s with heap := h', toks := tk' })
  (X : (kF w.params).In g) :
  wpAny (MP w) (callerA.deeper (envOf (Str.ofString "law") lawScope L fa (Value.ref 432))) (execs (turnBody.drop 14) (envOf (Str.ofString "law") lawScope L fa (Value.ref 432))) Q E s := by
  revert X
  dsimp only [MP]
  k_fill
  intro X
  unfold lm at F
  generalize hs : lawScope = sc at  ⊢
  conv at hs => lhs; whnf
  subst hs
  generalize hs : turnBody.drop 14 = sc
  conv at hs => lhs; whnf
  subst hs
  dsimp only [looseP] at T
  repeat' (first | ((fail_if_success (with_reducible show wpAny _ _ _ _ _ _)); (refine' h _ _ _ _ _ _  ?fc0 ?hF ?hN); (case hF => exact frLaw (by k_asm) (by rfl) (by rfl) (by rfl) (by rfl) (by rfl) (by rfl) (by rfl)); (case hN => exact News.subs (by k_asm) (by lcg_sub)); (case fc0 => first | assumption | exact PathsO.mk .. | exact PathO.mk .. | exact ConnO.again .. | exact ConnO.zero .. | k_ne | omega)) | 
    ((with_reducible show wpAny _ _ (subscriptTail _ _ _ _) _ _ _); first
    | (k_here; (with_reducible show wpAny _ _ (subscriptTail _ _ (Value.ref lG) (Value.int _ _)) _ _ _); k_dflt (first | (refine' gl_item (j := (n : Int)) ?N ?m ?e ?h0 ?h1 ?hN ?_; (case e => omega); (case N => k_asm); (case m => k_mem); (case h0 => omega); (case h1 => omega); (case hN => omega); k_whole) | (refine' gl_item ?N ?m ?e ?h0 ?h1 ?hN ?_; (case e => rfl); (case N => k_asm); (case m => k_mem); (case h0 => omega); (case h1 => omega); (case hN => omega); k_whole)))
    | (k_here; (with_reducible show wpAny _ _ (subscriptTail _ _ (Value.ref lG) (Value.int _ _)) _ _ _); k_dflt (first | (refine' gl_item (j := (n : Int)) ?N ?m ?e ?h0 ?h1 ?hN ?_; (case e => omega); (case N => k_asm); (case m => k_mem); (case h0 => omega); (case h1 => omega); (case hN => omega); k_whole) | (refine' gl_item ?N ?m ?e ?h0 ?h1 ?hN ?_; (case e => rfl); (case N => k_asm); (case m => k_mem); (case h0 => omega); (case h1 => omega); (case hN => omega); k_whole)))) | ((with_reducible show wpAny _ _ (PySem.call _ _) _ _ _); first
    | (k_here; (with_reducible show wpAny _ _ (PySem.call (Value.type "bytes") [Value.int 8 _]) _ _ _); k_dflt (refine' call_bytes8 ?_; k_whole); intro t' k')
    | (k_here; (with_reducible show wpAny _ _ (call (Value.builtin _) [Value.ref _, _]) _ _ _); k_dflt (refine' append_K ?k1 ?k2 ?k3 ?_ ?z; (case k1 => k_asm); (case k2 => k_asm); (case k3 => k_upd); (case z => first | exact gl_fits _ (by omega) | exact Nat.le_of_ble_eq_true rfl); k_whole); intro h' F' N'; (try k_sweep))
    | (k_here; (with_reducible show wpAny _ _ (call (Value.builtin "len") [Value.ref _]) _ _ _); k_dflt (refine' kun_lenL ?k1 ?k2 ?k3 ?_; (case k1 => exact News.isList (by k_asm) (by k_mem)); (case k2 => first | exact gl_size1 _ _ | exact gl_size _ _); (case k3 => omega); k_whole))
    | (k_here; (with_reducible show wpAny _ _ (PySem.call (Value.ref 428) [Value.ref _, Value.int _ _]) _ _ _); k_dflt (refine' take_ct (oX := listOf #[] 0) ?T ?K0 ?F ?N ?hI ?U ?hdb ?hlen ?hk ?hk2 ?hm ?hm2 ?hne ?X ?_; (case T => assumption); (case K0 => assumption); (case F => k_asm); (case N => k_asm); (case hI => assumption); (case U => k_upd); (case hdb => k_mem); (case hlen => first | assumption | omega); (case hk => omega); (case hk2 => omega); (case hm => omega); (case hm2 => omega); (case hne => first | assumption | omega); (case X => assumption); k_whole); intro r' tr' tk' tb' h' hr0 hr1 F' HN'; (have N' := HN' _ (by k_upd)); clear HN'; (try k_sweep); (first | (refine split2 hr0 hr1 ?_ ?_ <;> (intro re'; subst re')) | (refine split3 hr0 hr1 ?_ ?_ ?_ <;> (intro re'; subst re')) | (refine splitN (n := n) hr0 hr1 (by omega) ?_ ?_ <;> (intro re'; first | subst re' | (obtain ⟨nl0, nl1⟩ := re'))) | skip))
    | (k_here; (with_reducible show wpAny _ _ (PySem.call (Value.ref 172) [Value.ref _, Value.str _ _, Value.int _ _, Value.bool _]) _ _ _); k_dflt (refine' oph_ct ?F ?N ?m1 ?t ?hP ?m3 ?m4 ?m5 ?hH ?m6 ?m7 ?hA ?hn ?nm0_0 ?nm0_1 ?nm0_2 ?nm0_3 ?nm0_4 ?nm0_5 ?hr0 ?T ?K0 ?X ?_; (case F => k_asm); (case N => k_asm); (case m1 => k_mem); (case t => k_offL); (case hP => first | assumption | exact PathsO.mk .. | exact PathO.mk .. | exact ConnO.again .. | exact ConnO.zero ..); (case m3 => k_mem); (case m4 => k_mem); (case m5 => k_mem); (case hH => first | assumption | exact PathsO.mk .. | exact PathO.mk .. | exact ConnO.again .. | exact ConnO.zero ..); (case m6 => k_mem); (case m7 => k_mem); (case hA => first | assumption | exact PathsO.mk .. | exact PathO.mk .. | exact ConnO.again .. | exact ConnO.zero ..); (case hn => first | assumption | omega); (case nm0_0 => k_ne); (case nm0_1 => k_ne); (case nm0_2 => k_ne); (case nm0_3 => k_ne); (case nm0_4 => k_ne); (case nm0_5 => k_ne); (case hr0 => k_all); (case T => assumption); (case K0 => assumption); (case X => assumption); k_whole); intro oP' hi' tk' h' hiE hP' F' N'; subst hiE; (try simp only [List.cons_append, List.nil_append] at N'); (try k_sweep))
    | (k_here; (with_reducible show wpAny _ _ (PySem.call (Value.ref 240) [Value.ref _, Value.int _ _]) _ _ _); k_dflt (refine' otP_ct ?F ?N ?m1 ?t ?hP ?m3 ?m4 ?m5 ?hH ?m6 ?t2 ?hA ?T ?K0 ?X ?_; (case F => k_asm); (case N => k_asm); (case m1 => k_mem); (case t => k_mem); (case hP => first | assumption | exact PathsO.mk .. | exact PathO.mk .. | exact ConnO.again .. | exact ConnO.zero ..); (case m3 => k_mem); (case m4 => k_mem); (case m5 => k_mem); (case hH => first | assumption | exact PathsO.mk .. | exact PathO.mk .. | exact ConnO.again .. | exact ConnO.zero ..); (case m6 => k_mem); (case t2 => k_mem); (case hA => first | assumption | exact PathsO.mk .. | exact PathO.mk .. | exact ConnO.again .. | exact ConnO.zero ..); (case T => assumption); (case K0 => assumption); (case X => assumption); k_whole); intro tr' tk' h' F' N'; (try simp only [List.cons_append, List.nil_append] at N'); (try k_sweep))) | ((with_reducible show wpAny _ _ (compareOp _ _ _) _ _ _); first
    | (k_here; (with_reducible show wpAny _ _ (compareOp CmpOp.Eq (Value.bytes _ _) (Value.bytes _ _)) _ _ _); first | refine eqB_no (by assumption) ?_ | refine eqB_yes rfl ?_)) | (k_unfold; (try dsimp only)) | (k_end; wrow_close) | walk1 | (dsimp only; walk1) | (leave1; walk_say "STEP leave1"; try dsimp only) | fail "no step")

set_option maxRecDepth 100000 in
set_option maxHeartbeats 0 in
theorem DH_w {w : World} {g : Heap} {L fa : Addr} {mg mb mean} {s : Shared} {Q : Flow → Shared → Prop} {E : Value → Shared → Prop} {m : Str → Option Value} {turn num now : Int} {to tn tw : Tok} {xC dC xP dP xS xH dH xA dA lK lH lc la last fW fC lG BX nK : Nat} {oC oP oH oA : Obj} {fr mo : Bool} {cn recv hgh : Int} {rest : List (Addr × Obj)} {news : List (Addr × Obj)}
  (F : Fr g L s.heap (lm turn to num tn now tw true lG BX xC m))
  (N : News g L s.heap news)
  (m1 : (xC, instObj 410 dC) ∈ news)
  (t1 : (dC, oC) ∈ news)
  (hC : ConnO w.params oC xP xS fW fC cn true)
  (m2 : (xP, instObj 243 dP) ∈ news)
  (t2 : Take (dP, oP) news rest)
  (hP : PathsO w.params oP lK xA last hgh la)
  (m3 : (lK, listOf #[.ref xH, .ref xA] nK) ∈ news)
  (mh1 : (xH, instObj 126 dH) ∈ news)
  (mh2 : (dH, oH) ∈ news)
  (hH : PathO w.params oH "home" "proven" true 0 lH .none false)
  (m6 : (xA, instObj 126 dA) ∈ news)
  (t3 : (dA, oA) ∈ news)
  (hA : PathO w.params oA "away" "proven" fr recv lc .none mo)
  (b1 : hgh < num + 1)
  (nm0_0 : @Ne Nat xC dP)
  (nm0_1 : @Ne Nat dC dP)
  (nm0_2 : @Ne Nat xP dP)
  (nm0_3 : @Ne Nat lK dP)
  (nm0_4 : @Ne Nat xH dP)
  (nm0_5 : @Ne Nat dH dP)
  (nm0_6 : @Ne Nat xA dP)
  (nm0_7 : @Ne Nat dA dP)
  (hr0 : ∀ p ∈ rest, p.1 ≠ dP)
  (T : Top topProg looseP mean mg mb g) (K0 : Below callerA g [] g) (CH : CodeHd g 432 430) (X : (kF w.params).In g)
  (h : ∀ oP' tn' tw' m' tk' h', PathsO w.params oP' lK xH xA (num + 1) la → Fr g L h' (lm turn to (num + 1) tn' (now + 150) tw' true lG BX xC m') → News g L h' ((dP, oP') :: rest) → Q .next { s with heap := h', toks := tk' })
  :
  wpAny (MP w) (callerA.deeper (envOf (Str.ofString "law") lawScope L fa (Value.ref 432))) (execs (turnBody.drop 14) (envOf (Str.ofString "law") lawScope L fa (Value.ref 432))) Q E s := by
  have hall : ∀ q, (q = (dP, oP) ∨ q ∈ rest) → q ∈ news := by
    intro q hq
    rcases hq with rfl | hq
    · exact t2.sub _ (.inl rfl)
    exact t2.sub _ (.inr hq)
  with_reducible refine' DH_0 (xC := xC) (dC := dC) (xP := xP) (dP := dP) (xS := xS) (xH := xH) (dH := dH) (xA := xA) (dA := dA) (lK := lK) (lH := lH) (lc := lc) (la := la) (last := last) (fW := fW) (fC := fC) (lG := lG) (BX := BX) (nK := nK) (oC := oC) (oP := oP) (oH := oH) (oA := oA) (fr := fr) (mo := mo) (cn := cn) (recv := recv) (hgh := hgh) (turn := turn) (num := num) (now := now) (to := to) (tn := tn) (tw := tw) (m := m) (rest := rest) T K0 CH hC hP hH hA b1 nm0_0 nm0_1 nm0_2 nm0_3 nm0_4 nm0_5 nm0_6 nm0_7 hr0 F ?hN h X
  intro p hp
  refine N p ?_
  rcases List.mem_cons.mp hp with rfl | hp
  · exact hall _ (.inl rfl)
  rcases List.mem_cons.mp hp with rfl | hp
  · exact m1
  rcases List.mem_cons.mp hp with rfl | hp
  · exact t1
  rcases List.mem_cons.mp hp with rfl | hp
  · exact m2
  rcases List.mem_cons.mp hp with rfl | hp
  · exact m3
  rcases List.mem_cons.mp hp with rfl | hp
  · exact mh1
  rcases List.mem_cons.mp hp with rfl | hp
  · exact mh2
  rcases List.mem_cons.mp hp with rfl | hp
  · exact m6
  rcases List.mem_cons.mp hp with rfl | hp
  · exact t3
  exact hall _ (.inr hp)
section
/-- what never changes: members of every ledger -/
structure RK (mg : Str → Option Value) (L fa : Addr) (xC dC xP dP xS dS xH dH lH DB fW cW fC cC cd cH pT : Nat) (oS oH ocW ocC oT : Obj) (ws : List Value) (ctW ctC : Value) (R : List (Addr × Obj)) : Prop where
  r1 : (xC, instObj 410 dC) ∈ R
  r2 : (xP, instObj 243 dP) ∈ R
  r3 : (xS, instObj 410 dS) ∈ R
  r4 : (dS, oS) ∈ R
  r5 : (xH, instObj 126 dH) ∈ R
  r6 : (dH, oH) ∈ R
  r7 : (lH, listOf #[] cH) ∈ R
  r8 : (DB, listOf ws.toArray cd) ∈ R
  r9 : (fW, kla_obj (Str.ofString "<lambda>") ((envOf (Str.ofString "law") lawScope L fa (Value.ref 432)).qual ++ Str.ofString "<lambda>") (lamOf 2).1 (lamOf 2).2.1 (lamOf 2).2.2 [] ((mg (Str.ofString "__name__")).getD Value.none) cW ctW) ∈ R
  r10 : (cW, ocW) ∈ R
  r11 : (fC, kla_obj (Str.ofString "<lambda>") ((envOf (Str.ofString "law") lawScope L fa (Value.ref 432)).qual ++ Str.ofString "<lambda>") (lamOf 3).1 (lamOf 3).2.1 (lamOf 3).2.2 [] ((mg (Str.ofString "__name__")).getD Value.none) cC ctC) ∈ R
  r12 : (cC, ocC) ∈ R
  r13 : (pT, oT) ∈ R
theorem RK.cons {mg : Str → Option Value} {L fa : Addr} {xC dC xP dP xS dS xH dH lH DB fW cW fC cC cd cH pT : Nat} {oS oH ocW ocC oT : Obj} {ws : List Value} {ctW ctC : Value} {R R' : List (Addr × Obj)} (h : RK mg L fa xC dC xP dP xS dS xH dH lH DB fW cW fC cC cd cH pT oS oH ocW ocC oT ws ctW ctC R) (hs : ∀ p ∈ R, p ∈ R') : RK mg L fa xC dC xP dP xS dS xH dH lH DB fW cW fC cC cd cH pT oS oH ocW ocC oT ws ctW ctC R' :=
  ⟨hs _ h.r1, hs _ h.r2, hs _ h.r3, hs _ h.r4, hs _ h.r5, hs _ h.r6, hs _ h.r7, hs _ h.r8, hs _ h.r9, hs _ h.r10, hs _ h.r11, hs _ h.r12, hs _ h.r13⟩
/-- and what is known of them -/
structure FX (P : Params) (L fa : Addr) (oS oH ocW ocC : Obj) (lH BX DB : Nat) (tW tC : Tok) (vsW vsC : Array Value) (ws : List Value) (ns : List Int) : Prop where
  hS : ShakeO P oS
  hH : PathO P oH "home" "proven" true 0 lH .none false
  d1 : ocW.data = Data.fields vsW
  d2 : vsW[1]? = some (Value.str ((envOf (Str.ofString "law") lawScope L fa (Value.ref 432)).qual ++ Str.ofString "<lambda>") tW)
  d3 : ocC.data = Data.fields vsC
  d4 : vsC[1]? = some (Value.str ((envOf (Str.ofString "law") lawScope L fa (Value.ref 432)).qual ++ Str.ofString "<lambda>") tC)
  hI : IntsAre ws ns
  hlen : ns.length ≤ 24
  hdl : @LT.lt Nat _ DB BX
/-- five places, one apart from the other, and from the rest -/
structure Ap5 (a b c d e : Nat) (R : List (Addr × Obj)) : Prop where
  e1 : b ≠ a
  e2 : c ≠ a
  e3 : d ≠ a
  e4 : e ≠ a
  e5 : c ≠ b
  e6 : d ≠ b
  e7 : e ≠ b
  e8 : d ≠ c
  e9 : e ≠ c
  e10 : e ≠ d
  o1 : ∀ p ∈ R, p.1 ≠ a
  o2 : ∀ p ∈ R, p.1 ≠ b
  o3 : ∀ p ∈ R, p.1 ≠ c
  o4 : ∀ p ∈ R, p.1 ≠ d
  o5 : ∀ p ∈ R, p.1 ≠ e
theorem offCons {x a : Nat} {o : Obj} {R : List (Addr × Obj)} (h : ∀ p ∈ R, p.1 ≠ x) (ha : a ≠ x) : ∀ p ∈ (a, o) :: R, p.1 ≠ x := fun p hp => by
  rcases List.mem_cons.mp hp with rfl | hp
  · exact ha
  · exact h p hp
theorem Ap5.cons {a b c d e x : Nat} {o : Obj} {R : List (Addr × Obj)} (h : Ap5 a b c d e R) (h1 : a ≠ x) (h2 : b ≠ x) (h3 : c ≠ x) (h4 : d ≠ x) (h5 : e ≠ x) : Ap5 a b c d e ((x, o) :: R) :=
  ⟨h.e1, h.e2, h.e3, h.e4, h.e5, h.e6, h.e7, h.e8, h.e9, h.e10, offCons h.o1 (Ne.symm h1), offCons h.o2 (Ne.symm h2), offCons h.o3 (Ne.symm h3), offCons h.o4 (Ne.symm h4), offCons h.o5 (Ne.symm h5)⟩
section
local macro_rules | `(tactic| k_mem) => `(tactic| assumption)
set_option maxRecDepth 100000 in
set_option maxHeartbeats 0 in
theorem TU {w : World} {g : Heap} {L fa : Addr} {mg mb mean} {s : Shared} {Q : Flow → Shared → Prop} {E : Value → Shared → Prop} {m : Str → Option Value} {turn num now : Int} {to tn tw : Tok} {xC dC xP dP xS dS xH dH lH DB fW cW fC cC cd cH pT lK lc la lG BX cb n nG nK xA dA : Nat} {oS oH ocW ocC oT oC oP oA : Obj} {recv hgh k : Int} {tW tC tb : Tok} {vsW vsC : Array Value} {ctW ctC : Value} {tg : Nat → Tok} {ws : List Value} {ns : List Int} {R : List (Addr × Obj)}
  (T : Top topProg looseP mean mg mb g) (K0 : Below callerA g [] g) (CH : CodeHd g 432 430) (X : (kF w.params).In g) (rk : RK mg L fa xC dC xP dP xS dS xH dH lH DB fW cW fC cC cd cH pT oS oH ocW ocC oT ws ctW ctC R) (fx : FX w.params L fa oS oH ocW ocC lH BX DB tW tC vsW vsC ws ns)
  (ap : Ap5 dC dP dA lG BX R) (mA : (xA, instObj 126 dA) ∈ R) (mK : (lK, listOf #[.ref xH, .ref xA] nK) ∈ R)
  (hC : ConnO w.params oC xP xS fW fC (n : Int) true) (hP : PathsO w.params oP lK xH xH hgh la) (hA : PathO w.params oA "away" "failed" false recv lc .none false)
  (b1 : hgh < num + 1) (b2 : 0 ≤ recv) (b3 : recv ≤ 900) (hn : n < 6) (hw : 0 ≤ now) (hw2 : now ≤ 4000) (ht : 0 ≤ turn) (ht2 : turn ≤ 20) (hk : 0 ≤ k) (hk2 : k ≤ 800)
  (F : Fr g L s.heap (lm turn to num tn now tw false lG BX xC m))
  (N : News g L s.heap ((dC, oC) :: (dP, oP) :: (dA, oA) :: (lG, listOf (gl tg n).toArray nG) :: (BX, listOf #[.ref DB, .int k tb] cb) :: R))
  (hU : ∀ oC' oP' oA' lc' la' nG' tb' tg' tn' tw' m' tk' h', (∀ p ∈ R, p.1 ≠ lc') → @Ne Nat dC lc' → @Ne Nat dP lc' → @Ne Nat dA lc' → @Ne Nat lG lc' → @Ne Nat BX lc' → ConnO w.params oC' xP xS fW fC ((n + 1 : Nat) : Int) true → PathsO w.params oP' lK xH xH (num + 1) la' → PathO w.params oA' "away" "failed" false (recv + 100) lc' .none false → Fr g L h' (lm turn to (num + 1) tn' (now + 150) tw' false lG BX xC m') → News g L h' ((lc', listOf #[] 0) :: (dC, oC') :: (dP, oP') :: (dA, oA') :: (lG, listOf (gl tg' (n + 1)).toArray nG') :: (BX, listOf #[.ref DB, .int (k + 1 + 1 + 1) tb'] cb) :: R) → Q .next { s with heap := h', toks := tk' })
  (hV : ∀ oC' oP' oA' lc' la' nG' tb' tg' tn' tw' m' tk' h', (∀ p ∈ R, p.1 ≠ lc') → @Ne Nat dC lc' → @Ne Nat dP lc' → @Ne Nat dA lc' → @Ne Nat lG lc' → @Ne Nat BX lc' → ConnO w.params oC' xP xS fW fC ((n + 1 : Nat) : Int) true → PathsO w.params oP' lK xH xA (num + 1 + 1) la' → PathO w.params oA' "away" "proven" true (recv + 100) lc' .none false → Fr g L h' (lm turn to (num + 1 + 1) tn' (now + 150) tw' true lG BX xC m') → News g L h' ((lc', listOf #[] 0) :: (dC, oC') :: (dP, oP') :: (dA, oA') :: (lG, listOf (gl tg' (n + 1)).toArray nG') :: (BX, listOf #[.ref DB, .int (k + 1 + 1 + 1) tb'] cb) :: R) → Q .next { s with heap := h', toks := tk' }) :
  wpAny (MP w) (callerA.deeper (envOf (Str.ofString "law") lawScope L fa (Value.ref 432))) (execs (turnBody.drop 0) (envOf (Str.ofString "law") lawScope L fa (Value.ref 432))) Q E s := by
  obtain ⟨r1, r2, r3, r4, r5, r6, r7, r8, r9, r10, r11, r12, r13⟩ := rk
  obtain ⟨hS, hH, d1, d2, d3, d4, hI, hlen, hdl⟩ := fx
  obtain ⟨e1, e2, e3, e4, e5, e6, e7, e8, e9, e10, o1, o2, o3, o4, o5⟩ := ap
  (with_reducible refine' AU_w (xC := xC) (dC := dC) (xP := xP) (dP := dP) (lK := lK) (xH := xH) (dH := dH) (xA := xA) (dA := dA) (lH := lH) (lc := lc) (la := la) (last := xH) (xS := xS) (fW := fW) (fC := fC) (nK := nK) (lG := lG) (BX := BX) (oC := oC) (oP := oP) (oH := oH) (oA := oA) (cn := (n : Int)) (hgh := hgh) (recv := recv) (mo := false) (pr := false) (turn := turn) (num := num) (now := now) (to := to) (tn := tn) (tw := tw) (m := m) ?F ?N ?mc1 ?mc2 ?hC ?m2 ?t ?hP ?m3 ?mh1 ?mh2 ?hH ?m6 ?t2 ?hA ?b1 ?b2 ?b3 ?nt0_1 ?nm0_0 ?nm0_1 ?nm0_2 ?nm0_3 ?nm0_4 ?nm0_5 ?nm0_6 ?nm1_0 ?nm1_1 ?nm1_2 ?nm1_3 ?nm1_4 ?nm1_5 ?nm1_6 ?hr0 ?hr1 ?T ?K0 ?CH ?X ?h)
  case F => exact F
  case N => exact N
  case mc1 => k_mem
  case mc2 => k_mem
  case hC => assumption
  case m2 => k_mem
  case t => k_offL
  case hP => assumption
  case m3 => k_mem
  case mh1 => k_mem
  case mh2 => k_mem
  case hH => assumption
  case m6 => k_mem
  case t2 => k_offL
  case hA => assumption
  case b1 => first | assumption | omega
  case b2 => first | assumption | omega
  case b3 => first | assumption | omega
  case nt0_1 => k_ne
  case nm0_0 => k_ne
  case nm0_1 => k_ne
  case nm0_2 => k_ne
  case nm0_3 => k_ne
  case nm0_4 => k_ne
  case nm0_5 => k_ne
  case nm0_6 => k_ne
  case nm1_0 => k_ne
  case nm1_1 => k_ne
  case nm1_2 => k_ne
  case nm1_3 => k_ne
  case nm1_4 => k_ne
  case nm1_5 => k_ne
  case nm1_6 => k_ne
  case hr0 => k_all
  case hr1 => k_all
  case T => assumption
  case K0 => assumption
  case CH => assumption
  case X => assumption
  case h =>
    intro oP1 oA1 tn1 tw1 m1 tk1 h1 hP1 hA1 F1 N1
    (with_reducible refine' BN_w (xC := xC) (dC := dC) (xP := xP) (dP := dP) (xS := xS) (dS := dS) (xA := xA) (dA := dA) (lK := lK) (lc := lc) (la := la) (last := xH) (fW := fW) (fC := fC) (cW := cW) (cC := cC) (n := n) (nG := nG) (lG := lG) (BX := BX) (DB := DB) (cd := cd) (cb := cb) (oC := oC) (oP := oP1) (oS := oS) (oA := oA1) (ocW := ocW) (ocC := ocC) (fr := false) (mo := false) (fl := true) (recv := (recv + 100)) (hgh := (num + 1)) (k := k) (tW := tW) (tC := tC) (tb := tb) (vsW := vsW) (vsC := vsC) (ctW := ctW) (ctC := ctC) (tg := tg) (ws := ws) (ns := ns) (turn := turn) (num := (num + 1)) (now := now) (to := to) (tn := tn1) (tw := tw1) (m := m1) ?F ?N ?m1 ?t1 ?hC ?m2 ?t2 ?hP ?m3 ?m4 ?hS ?m5 ?t3 ?hA ?t4 ?t5 ?mdb ?m8 ?m9 ?m10 ?m11 ?d1 ?d2 ?d3 ?d4 ?hn ?hw ?hw2 ?ht ?ht2 ?hk ?hk2 ?nt0_1 ?nt0_2 ?nt0_3 ?nt0_4 ?nm0_0 ?nm0_1 ?nm0_2 ?nm0_3 ?nm0_4 ?nm0_5 ?nm0_6 ?nm0_7 ?nm0_8 ?nm0_9 ?nt1_2 ?nt1_3 ?nt1_4 ?nm1_0 ?nm1_1 ?nm1_2 ?nm1_3 ?nm1_4 ?nm1_5 ?nm1_6 ?nm1_7 ?nm1_8 ?nm1_9 ?nt2_3 ?nt2_4 ?nm2_0 ?nm2_1 ?nm2_2 ?nm2_3 ?nm2_4 ?nm2_5 ?nm2_6 ?nm2_7 ?nm2_8 ?nm2_9 ?nt3_4 ?nm3_0 ?nm3_1 ?nm3_2 ?nm3_3 ?nm3_4 ?nm3_5 ?nm3_6 ?nm3_7 ?nm3_8 ?nm3_9 ?nm4_0 ?nm4_1 ?nm4_2 ?nm4_3 ?nm4_4 ?nm4_5 ?nm4_6 ?nm4_7 ?nm4_8 ?nm4_9 ?hr0 ?hr1 ?hr2 ?hr3 ?hr4 ?T ?K0 ?CH ?hI ?hlen ?hdl ?X ?h)
    case F => exact F1
    case N => exact N1
    case m1 => k_mem
    case t1 => k_offL
    case hC => assumption
    case m2 => k_mem
    case t2 => k_offL
    case hP => assumption
    case m3 => k_mem
    case m4 => k_mem
    case hS => assumption
    case m5 => k_mem
    case t3 => k_offL
    case hA => assumption
    case t4 => k_offL
    case t5 => k_offL
    case mdb => k_mem
    case m8 => k_mem
    case m9 => k_mem
    case m10 => k_mem
    case m11 => k_mem
    case d1 => assumption
    case d2 => assumption
    case d3 => assumption
    case d4 => assumption
    case hn => first | assumption | omega
    case hw => first | assumption | omega
    case hw2 => first | assumption | omega
    case ht => first | assumption | omega
    case ht2 => first | assumption | omega
    case hk => first | assumption | omega
    case hk2 => first | assumption | omega
    case nt0_1 => k_ne
    case nt0_2 => k_ne
    case nt0_3 => k_ne
    case nt0_4 => k_ne
    case nm0_0 => k_ne
    case nm0_1 => k_ne
    case nm0_2 => k_ne
    case nm0_3 => k_ne
    case nm0_4 => k_ne
    case nm0_5 => k_ne
    case nm0_6 => k_ne
    case nm0_7 => k_ne
    case nm0_8 => k_ne
    case nm0_9 => k_ne
    case nt1_2 => k_ne
    case nt1_3 => k_ne
    case nt1_4 => k_ne
    case nm1_0 => k_ne
    case nm1_1 => k_ne
    case nm1_2 => k_ne
    case nm1_3 => k_ne
    case nm1_4 => k_ne
    case nm1_5 => k_ne
    case nm1_6 => k_ne
    case nm1_7 => k_ne
    case nm1_8 => k_ne
    case nm1_9 => k_ne
    case nt2_3 => k_ne
    case nt2_4 => k_ne
    case nm2_0 => k_ne
    case nm2_1 => k_ne
    case nm2_2 => k_ne
    case nm2_3 => k_ne
    case nm2_4 => k_ne
    case nm2_5 => k_ne
    case nm2_6 => k_ne
    case nm2_7 => k_ne
    case nm2_8 => k_ne
    case nm2_9 => k_ne
    case nt3_4 => k_ne
    case nm3_0 => k_ne
    case nm3_1 => k_ne
    case nm3_2 => k_ne
    case nm3_3 => k_ne
    case nm3_4 => k_ne
    case nm3_5 => k_ne
    case nm3_6 => k_ne
    case nm3_7 => k_ne
    case nm3_8 => k_ne
    case nm3_9 => k_ne
    case nm4_0 => k_ne
    case nm4_1 => k_ne
    case nm4_2 => k_ne
    case nm4_3 => k_ne
    case nm4_4 => k_ne
    case nm4_5 => k_ne
    case nm4_6 => k_ne
    case nm4_7 => k_ne
    case nm4_8 => k_ne
    case nm4_9 => k_ne
    case hr0 => k_all
    case hr1 => k_all
    case hr2 => k_all
    case hr3 => k_all
    case hr4 => k_all
    case T => assumption
    case K0 => assumption
    case CH => assumption
    case hI => assumption
    case hlen => assumption
    case hdl => assumption
    case X => assumption
    case h =>
      intro oC2 oP2 oA2 lc2 la2 nG2 tb2 tv kc x4 dl2 td2 tn2 tw2 m2 tk2 h2 nf0 nf1 nf2 nf3 nf4 nf5 edl hC2 hP2 hA2 F2 N2
      subst edl
      rw [gl_push] at N2
      have hC3 : ConnO w.params oC2 xP xS fW fC ((n + 1 : Nat) : Int) true := hC2
      (with_reducible refine' C1T_w (xC := xC) (dC := dC) (xP := xP) (dP := dP) (xS := xS) (xH := xH) (dH := dH) (xA := xA) (dA := dA) (lK := lK) (lH := lH) (lc := lc2) (la := la2) (last := xH) (fW := fW) (fC := fC) (n := n) (nG := nG2) (lG := lG) (BX := BX) (DB := DB) (cd := cd) (cb := cb) (cH := cH) (nK := nK) (kc := kc) (oC := oC2) (oP := oP2) (oH := oH) (oA := oA2) (fr := false) (mo := false) (cn := ((n + 1 : Nat) : Int)) (recv := (recv + 100)) (hgh := (num + 1)) (k := (k + 1)) (dl := (now + 150)) (tb := tb2) (td := td2) (x4 := x4) (tg := (fun j => if j < n then tg j else tv)) (ws := ws) (ns := ns) (turn := turn) (num := (num + 1)) (now := now) (to := to) (tn := tn2) (tw := tw2) (m := m2) ?F ?N ?m1 ?t1 ?hC ?m2 ?t2 ?hP ?m3 ?mh1 ?mh2 ?hH ?m4 ?m6 ?t3 ?hA ?m9 ?mg1 ?t5 ?mdb ?hn ?hw ?hw2 ?ht ?ht2 ?hk ?hk2 ?nt0_1 ?nt0_2 ?nm0_0 ?nm0_1 ?nm0_2 ?nm0_3 ?nm0_4 ?nm0_5 ?nm0_6 ?nm0_7 ?nm0_8 ?nm0_9 ?nm0_10 ?nt1_2 ?nm1_0 ?nm1_1 ?nm1_2 ?nm1_3 ?nm1_4 ?nm1_5 ?nm1_6 ?nm1_7 ?nm1_8 ?nm1_9 ?nm1_10 ?nm2_0 ?nm2_1 ?nm2_2 ?nm2_3 ?nm2_4 ?nm2_5 ?nm2_6 ?nm2_7 ?nm2_8 ?nm2_9 ?nm2_10 ?hr0 ?hr1 ?hr2 ?T ?K0 ?CH ?hI ?hlen ?hdl ?X ?h1 ?h2)
      case F => exact F2
      case N => exact N2
      case m1 => k_mem
      case t1 => k_mem
      case hC => assumption
      case m2 => k_mem
      case t2 => k_offL
      case hP => assumption
      case m3 => k_mem
      case mh1 => k_mem
      case mh2 => k_mem
      case hH => assumption
      case m4 => k_mem
      case m6 => k_mem
      case t3 => k_offL
      case hA => assumption
      case m9 => k_mem
      case mg1 => k_mem
      case t5 => k_offL
      case mdb => k_mem
      case hn => first | assumption | omega
      case hw => first | assumption | omega
      case hw2 => first | assumption | omega
      case ht => first | assumption | omega
      case ht2 => first | assumption | omega
      case hk => first | assumption | omega
      case hk2 => first | assumption | omega
      case nt0_1 => k_ne
      case nt0_2 => k_ne
      case nm0_0 => k_ne
      case nm0_1 => k_ne
      case nm0_2 => k_ne
      case nm0_3 => k_ne
      case nm0_4 => k_ne
      case nm0_5 => k_ne
      case nm0_6 => k_ne
      case nm0_7 => k_ne
      case nm0_8 => k_ne
      case nm0_9 => k_ne
      case nm0_10 => k_ne
      case nt1_2 => k_ne
      case nm1_0 => k_ne
      case nm1_1 => k_ne
      case nm1_2 => k_ne
      case nm1_3 => k_ne
      case nm1_4 => k_ne
      case nm1_5 => k_ne
      case nm1_6 => k_ne
      case nm1_7 => k_ne
      case nm1_8 => k_ne
      case nm1_9 => k_ne
      case nm1_10 => k_ne
      case nm2_0 => k_ne
      case nm2_1 => k_ne
      case nm2_2 => k_ne
      case nm2_3 => k_ne
      case nm2_4 => k_ne
      case nm2_5 => k_ne
      case nm2_6 => k_ne
      case nm2_7 => k_ne
      case nm2_8 => k_ne
      case nm2_9 => k_ne
      case nm2_10 => k_ne
      case hr0 => k_all
      case hr1 => k_all
      case hr2 => k_all
      case T => assumption
      case K0 => assumption
      case CH => assumption
      case hI => assumption
      case hlen => assumption
      case hdl => assumption
      case X => assumption
      case h1 =>
        intro tb3 tn3 tw3 m3 tk3 h3 F3 N3
        (with_reducible refine' DM_w (xC := xC) (dC := dC) (xP := xP) (dP := dP) (xS := xS) (xH := xH) (dH := dH) (xA := xA) (dA := dA) (lK := lK) (lH := lH) (lc := lc2) (la := la2) (fW := fW) (fC := fC) (lG := lG) (BX := BX) (nK := nK) (oC := oC2) (oP := oP2) (oH := oH) (oA := oA2) (fr := false) (mo := false) (cn := ((n + 1 : Nat) : Int)) (recv := (recv + 100)) (hgh := (num + 1)) (dl := (now + 150)) (td := td2) (turn := turn) (num := (num + 1)) (now := now) (to := to) (tn := tn3) (tw := tw3) (m := m3) ?F ?N ?m1 ?t1 ?hC ?m2 ?t2 ?hP ?m3 ?mh1 ?mh2 ?hH ?m6 ?t3 ?hA ?hdl ?nt0_1 ?nm0_0 ?nm0_1 ?nm0_2 ?nm0_3 ?nm0_4 ?nm0_5 ?nm0_6 ?nm1_0 ?nm1_1 ?nm1_2 ?nm1_3 ?nm1_4 ?nm1_5 ?nm1_6 ?hr0 ?hr1 ?T ?K0 ?CH ?X ?h)
        case F => exact F3
        case N => exact N3
        case m1 => k_mem
        case t1 => k_mem
        case hC => assumption
        case m2 => k_mem
        case t2 => k_offL
        case hP => assumption
        case m3 => k_mem
        case mh1 => k_mem
        case mh2 => k_mem
        case hH => assumption
        case m6 => k_mem
        case t3 => k_offL
        case hA => assumption
        case hdl => first | assumption | omega
        case nt0_1 => k_ne
        case nm0_0 => k_ne
        case nm0_1 => k_ne
        case nm0_2 => k_ne
        case nm0_3 => k_ne
        case nm0_4 => k_ne
        case nm0_5 => k_ne
        case nm0_6 => k_ne
        case nm1_0 => k_ne
        case nm1_1 => k_ne
        case nm1_2 => k_ne
        case nm1_3 => k_ne
        case nm1_4 => k_ne
        case nm1_5 => k_ne
        case nm1_6 => k_ne
        case hr0 => k_all
        case hr1 => k_all
        case T => assumption
        case K0 => assumption
        case CH => assumption
        case X => assumption
        case h =>
          intro oP4 oA4 lc4 tn4 tw4 m4 tk4 h4 g0 g1 g2 hP4 hA4 F4 N4
          (refine' hU oC2 oP4 oA4 lc4 la2 nG2 tb3 (fun j => if j < n then tg j else tv) tn4 tw4 m4 tk4 h4 ?f0 ?f1 ?f2 ?f3 ?f4 ?f5 hC3 hP4 hA4 F4 ?hN; (case hN => exact News.subs N4 (by lcg_sub)); (case f0 => k_all); (case f1 => k_ne); (case f2 => k_ne); (case f3 => k_ne); (case f4 => k_ne); (case f5 => k_ne))
      case h2 =>
        intro oP3 oA3 lc3 tb3 tn3 tw3 m3 tk3 h3 g0 g1 g2 g3 hP3 hA3 F3 N3
        (with_reducible refine' DH_w (xC := xC) (dC := dC) (xP := xP) (dP := dP) (xS := xS) (xH := xH) (dH := dH) (xA := xA) (dA := dA) (lK := lK) (lH := lH) (lc := lc3) (la := la2) (last := xA) (fW := fW) (fC := fC) (lG := lG) (BX := BX) (nK := nK) (oC := oC2) (oP := oP3) (oH := oH) (oA := oA3) (fr := true) (mo := false) (cn := ((n + 1 : Nat) : Int)) (recv := (recv + 100)) (hgh := (num + 1)) (turn := turn) (num := (num + 1)) (now := now) (to := to) (tn := tn3) (tw := tw3) (m := m3) ?F ?N ?m1 ?t1 ?hC ?m2 ?t2 ?hP ?m3 ?mh1 ?mh2 ?hH ?m6 ?t3 ?hA ?b1 ?nm0_0 ?nm0_1 ?nm0_2 ?nm0_3 ?nm0_4 ?nm0_5 ?nm0_6 ?nm0_7 ?hr0 ?T ?K0 ?CH ?X ?h)
        case F => exact F3
        case N => exact N3
        case m1 => k_mem
        case t1 => k_mem
        case hC => assumption
        case m2 => k_mem
        case t2 => k_offL
        case hP => assumption
        case m3 => k_mem
        case mh1 => k_mem
        case mh2 => k_mem
        case hH => assumption
        case m6 => k_mem
        case t3 => k_mem
        case hA => assumption
        case b1 => first | assumption | omega
        case nm0_0 => k_ne
        case nm0_1 => k_ne
        case nm0_2 => k_ne
        case nm0_3 => k_ne
        case nm0_4 => k_ne
        case nm0_5 => k_ne
        case nm0_6 => k_ne
        case nm0_7 => k_ne
        case hr0 => k_all
        case T => assumption
        case K0 => assumption
        case CH => assumption
        case X => assumption
        case h =>
          intro oP4 tn4 tw4 m4 tk4 h4 hP4 F4 N4
          (refine' hV oC2 oP4 oA3 lc3 la2 nG2 tb3 (fun j => if j < n then tg j else tv) tn4 tw4 m4 tk4 h4 ?f0 ?f1 ?f2 ?f3 ?f4 ?f5 hC3 hP4 hA3 F4 ?hN; (case hN => exact News.subs N4 (by lcg_sub)); (case f0 => k_all); (case f1 => k_ne); (case f2 => k_ne); (case f3 => k_ne); (case f4 => k_ne); (case f5 => k_ne))
set_option maxRecDepth 100000 in
set_option maxHeartbeats 0 in
theorem TP {w : World} {g : Heap} {L fa : Addr} {mg mb mean} {s : Shared} {Q : Flow → Shared → Prop} {E : Value → Shared → Prop} {m : Str → Option Value} {turn num now : Int} {to tn tw : Tok} {xC dC xP dP xS dS xH dH lH DB fW cW fC cC cd cH pT lK lc la lG BX cb n nG nK xA dA last kc : Nat} {oS oH ocW ocC oT oC oP oA : Obj} {recv hgh k : Int} {tW tC tb : Tok} {vsW vsC : Array Value} {ctW ctC : Value} {tg : Nat → Tok} {ws : List Value} {ns : List Int} {R : List (Addr × Obj)}
  (T : Top topProg looseP mean mg mb g) (K0 : Below callerA g [] g) (CH : CodeHd g 432 430) (X : (kF w.params).In g) (rk : RK mg L fa xC dC xP dP xS dS xH dH lH DB fW cW fC cC cd cH pT oS oH ocW ocC oT ws ctW ctC R) (fx : FX w.params L fa oS oH ocW ocC lH BX DB tW tC vsW vsC ws ns)
  (ap : Ap5 dC dP dA lG BX R) (mA : (xA, instObj 126 dA) ∈ R) (mK : (lK, listOf #[.ref xH, .ref xA] nK) ∈ R) (mc : (lc, listOf #[] kc) ∈ R)
  (hC : ConnO w.params oC xP xS fW fC ((n + 1 : Nat) : Int) true) (hP : PathsO w.params oP lK xH last hgh la) (hA : PathO w.params oA "away" "proven" true recv lc .none false)
  (b1 : hgh < num + 1) (b2 : 0 ≤ recv) (b3 : recv ≤ 900) (hn : n < 6) (hw : 0 ≤ now) (hw2 : now ≤ 4000) (ht : 0 ≤ turn) (ht2 : turn ≤ 20) (hk : 0 ≤ k) (hk2 : k ≤ 800)
  (F : Fr g L s.heap (lm turn to num tn now tw true lG BX xC m))
  (N : News g L s.heap ((dC, oC) :: (dP, oP) :: (dA, oA) :: (lG, listOf (gl tg (n + 1)).toArray nG) :: (BX, listOf #[.ref DB, .int k tb] cb) :: R))
  (hV : ∀ oP' oA' la' tb' tn' tw' m' tk' h', PathsO w.params oP' lK xH xA (num + 1 + 1) la' → PathO w.params oA' "away" "proven" true (recv + 100) lc .none false → Fr g L h' (lm turn to (num + 1 + 1) tn' (now + 150) tw' true lG BX xC m') → News g L h' ((dC, oC) :: (dP, oP') :: (dA, oA') :: (lG, listOf (gl tg (n + 1)).toArray nG) :: (BX, listOf #[.ref DB, .int (k + 1 + 1 + 1) tb'] cb) :: R) → Q .next { s with heap := h', toks := tk' }) :
  wpAny (MP w) (callerA.deeper (envOf (Str.ofString "law") lawScope L fa (Value.ref 432))) (execs (turnBody.drop 0) (envOf (Str.ofString "law") lawScope L fa (Value.ref 432))) Q E s := by
  obtain ⟨r1, r2, r3, r4, r5, r6, r7, r8, r9, r10, r11, r12, r13⟩ := rk
  obtain ⟨hS, hH, d1, d2, d3, d4, hI, hlen, hdl⟩ := fx
  obtain ⟨e1, e2, e3, e4, e5, e6, e7, e8, e9, e10, o1, o2, o3, o4, o5⟩ := ap
  (with_reducible refine' AP_w (xC := xC) (dC := dC) (xP := xP) (dP := dP) (lK := lK) (xH := xH) (dH := dH) (xA := xA) (dA := dA) (lH := lH) (lc := lc) (la := la) (last := last) (xS := xS) (fW := fW) (fC := fC) (nK := nK) (lG := lG) (BX := BX) (oC := oC) (oP := oP) (oH := oH) (oA := oA) (cn := ((n + 1 : Nat) : Int)) (hgh := hgh) (recv := recv) (mo := false) (pr := true) (fr := true) (turn := turn) (num := num) (now := now) (to := to) (tn := tn) (tw := tw) (m := m) ?F ?N ?mc1 ?mc2 ?hC ?m2 ?t ?hP ?m3 ?mh1 ?mh2 ?hH ?m6 ?t2 ?hA ?b1 ?b2 ?b3 ?nt0_1 ?nm0_0 ?nm0_1 ?nm0_2 ?nm0_3 ?nm0_4 ?nm0_5 ?nm0_6 ?nm1_0 ?nm1_1 ?nm1_2 ?nm1_3 ?nm1_4 ?nm1_5 ?nm1_6 ?hr0 ?hr1 ?T ?K0 ?CH ?X ?h)
  case F => exact F
  case N => exact N
  case mc1 => k_mem
  case mc2 => k_mem
  case hC => assumption
  case m2 => k_mem
  case t => k_offL
  case hP => assumption
  case m3 => k_mem
  case mh1 => k_mem
  case mh2 => k_mem
  case hH => assumption
  case m6 => k_mem
  case t2 => k_offL
  case hA => assumption
  case b1 => first | assumption | omega
  case b2 => first | assumption | omega
  case b3 => first | assumption | omega
  case nt0_1 => k_ne
  case nm0_0 => k_ne
  case nm0_1 => k_ne
  case nm0_2 => k_ne
  case nm0_3 => k_ne
  case nm0_4 => k_ne
  case nm0_5 => k_ne
  case nm0_6 => k_ne
  case nm1_0 => k_ne
  case nm1_1 => k_ne
  case nm1_2 => k_ne
  case nm1_3 => k_ne
  case nm1_4 => k_ne
  case nm1_5 => k_ne
  case nm1_6 => k_ne
  case hr0 => k_all
  case hr1 => k_all
  case T => assumption
  case K0 => assumption
  case CH => assumption
  case X => assumption
  case h =>
    intro oP1 oA1 tn1 tw1 m1 tk1 h1 hP1 hA1 F1 N1
    (with_reducible refine' BP_w (xC := xC) (dC := dC) (xP := xP) (dP := dP) (xS := xS) (xA := xA) (dA := dA) (lK := lK) (lc := lc) (la := la) (last := xH) (fW := fW) (fC := fC) (n := (n + 1)) (lG := lG) (BX := BX) (DB := DB) (cd := cd) (cb := cb) (oC := oC) (oP := oP1) (oA := oA1) (fr := true) (recv := (recv + 100)) (hgh := (num + 1)) (k := k) (tb := tb) (ws := ws) (ns := ns) (turn := turn) (num := (num + 1)) (now := now) (to := to) (tn := tn1) (tw := tw1) (m := m1) ?F ?N ?m1 ?t1 ?hC ?m2 ?t2 ?hP ?m5 ?t3 ?hA ?t5 ?mdb ?hn ?hw ?hw2 ?ht ?ht2 ?hk ?hk2 ?nt0_1 ?nm0_0 ?nm0_1 ?nm0_2 ?nm0_3 ?nm0_4 ?nm0_5 ?nm1_0 ?nm1_1 ?nm1_2 ?nm1_3 ?nm1_4 ?nm1_5 ?hr0 ?hr1 ?T ?K0 ?CH ?hI ?hlen ?hdl ?X ?h)
    case F => exact F1
    case N => exact N1
    case m1 => k_mem
    case t1 => k_mem
    case hC => assumption
    case m2 => k_mem
    case t2 => k_offL
    case hP => assumption
    case m5 => k_mem
    case t3 => k_mem
    case hA => assumption
    case t5 => k_offL
    case mdb => k_mem
    case hn => first | assumption | omega
    case hw => first | assumption | omega
    case hw2 => first | assumption | omega
    case ht => first | assumption | omega
    case ht2 => first | assumption | omega
    case hk => first | assumption | omega
    case hk2 => first | assumption | omega
    case nt0_1 => k_ne
    case nm0_0 => k_ne
    case nm0_1 => k_ne
    case nm0_2 => k_ne
    case nm0_3 => k_ne
    case nm0_4 => k_ne
    case nm0_5 => k_ne
    case nm1_0 => k_ne
    case nm1_1 => k_ne
    case nm1_2 => k_ne
    case nm1_3 => k_ne
    case nm1_4 => k_ne
    case nm1_5 => k_ne
    case hr0 => k_all
    case hr1 => k_all
    case T => assumption
    case K0 => assumption
    case CH => assumption
    case hI => assumption
    case hlen => assumption
    case hdl => assumption
    case X => assumption
    case h =>
      intro oP2 la2 tb2 tn2 tw2 m2 tk2 h2 hP2 F2 N2
      (with_reducible refine' C1P_w (xC := xC) (dC := dC) (xP := xP) (dP := dP) (xS := xS) (xH := xH) (dH := dH) (xA := xA) (dA := dA) (lK := lK) (lH := lH) (lc := lc) (la := la2) (last := xH) (fW := fW) (fC := fC) (n := n) (nG := nG) (lG := lG) (BX := BX) (DB := DB) (cd := cd) (cb := cb) (cH := cH) (nK := nK) (kc := kc) (oC := oC) (oP := oP2) (oH := oH) (oA := oA1) (fr := true) (mo := false) (cn := ((n + 1 : Nat) : Int)) (recv := (recv + 100)) (hgh := (num + 1)) (k := (k + 1)) (tb := tb2) (tg := tg) (ws := ws) (ns := ns) (turn := turn) (num := (num + 1)) (now := now) (to := to) (tn := tn2) (tw := tw2) (m := m2) ?F ?N ?m1 ?t1 ?hC ?m2 ?t2 ?hP ?m3 ?mh1 ?mh2 ?hH ?m4 ?m6 ?t3 ?hA ?m9 ?mg1 ?t5 ?mdb ?hn ?hw ?hw2 ?ht ?ht2 ?hk ?hk2 ?nm0_0 ?nm0_1 ?nm0_2 ?nm0_3 ?nm0_4 ?nm0_5 ?nm0_6 ?nm0_7 ?nm0_8 ?nm0_9 ?nm0_10 ?nm0_11 ?nm0_12 ?hr0 ?T ?K0 ?CH ?hI ?hlen ?hdl ?X ?h)
      case F => exact F2
      case N => exact N2
      case m1 => k_mem
      case t1 => k_mem
      case hC => assumption
      case m2 => k_mem
      case t2 => k_mem
      case hP => assumption
      case m3 => k_mem
      case mh1 => k_mem
      case mh2 => k_mem
      case hH => assumption
      case m4 => k_mem
      case m6 => k_mem
      case t3 => k_mem
      case hA => assumption
      case m9 => k_mem
      case mg1 => k_mem
      case t5 => k_offL
      case mdb => k_mem
      case hn => first | assumption | omega
      case hw => first | assumption | omega
      case hw2 => first | assumption | omega
      case ht => first | assumption | omega
      case ht2 => first | assumption | omega
      case hk => first | assumption | omega
      case hk2 => first | assumption | omega
      case nm0_0 => k_ne
      case nm0_1 => k_ne
      case nm0_2 => k_ne
      case nm0_3 => k_ne
      case nm0_4 => k_ne
      case nm0_5 => k_ne
      case nm0_6 => k_ne
      case nm0_7 => k_ne
      case nm0_8 => k_ne
      case nm0_9 => k_ne
      case nm0_10 => k_ne
      case nm0_11 => k_ne
      case nm0_12 => k_ne
      case hr0 => k_all
      case T => assumption
      case K0 => assumption
      case CH => assumption
      case hI => assumption
      case hlen => assumption
      case hdl => assumption
      case X => assumption
      case h =>
        intro tb3 tn3 tw3 m3 tk3 h3 F3 N3
        (with_reducible refine' DH_w (xC := xC) (dC := dC) (xP := xP) (dP := dP) (xS := xS) (xH := xH) (dH := dH) (xA := xA) (dA := dA) (lK := lK) (lH := lH) (lc := lc) (la := la2) (last := xH) (fW := fW) (fC := fC) (lG := lG) (BX := BX) (nK := nK) (oC := oC) (oP := oP2) (oH := oH) (oA := oA1) (fr := true) (mo := false) (cn := ((n + 1 : Nat) : Int)) (recv := (recv + 100)) (hgh := (num + 1)) (turn := turn) (num := (num + 1)) (now := now) (to := to) (tn := tn3) (tw := tw3) (m := m3) ?F ?N ?m1 ?t1 ?hC ?m2 ?t2 ?hP ?m3 ?mh1 ?mh2 ?hH ?m6 ?t3 ?hA ?b1 ?nm0_0 ?nm0_1 ?nm0_2 ?nm0_3 ?nm0_4 ?nm0_5 ?nm0_6 ?nm0_7 ?hr0 ?T ?K0 ?CH ?X ?h)
        case F => exact F3
        case N => exact N3
        case m1 => k_mem
        case t1 => k_mem
        case hC => assumption
        case m2 => k_mem
        case t2 => k_offL
        case hP => assumption
        case m3 => k_mem
        case mh1 => k_mem
        case mh2 => k_mem
        case hH => assumption
        case m6 => k_mem
        case t3 => k_mem
        case hA => assumption
        case b1 => first | assumption | omega
        case nm0_0 => k_ne
        case nm0_1 => k_ne
        case nm0_2 => k_ne
        case nm0_3 => k_ne
        case nm0_4 => k_ne
        case nm0_5 => k_ne
        case nm0_6 => k_ne
        case nm0_7 => k_ne
        case hr0 => k_all
        case T => assumption
        case K0 => assumption
        case CH => assumption
        case X => assumption
        case h =>
          intro oP4 tn4 tw4 m4 tk4 h4 hP4 F4 N4
          exact hV oP4 oA1 la2 tb3 tn4 tw4 m4 tk4 h4 hP4 hA1 F4 (News.subs N4 (by lcg_sub))
set_option maxRecDepth 100000 in
set_option maxHeartbeats 0 in
theorem TF {w : World} {g : Heap} {L fa : Addr} {mg mb mean} {s : Shared} {Q : Flow → Shared → Prop} {E : Value → Shared → Prop} {m : Str → Option Value} {turn num now : Int} {to tn tw : Tok} {xC dC xP dP xS dS xH dH lH DB fW cW fC cC cd cH pT lK la lG BX cb n nG nK : Nat} {oS oH ocW ocC oT oC oP : Obj} {recv hgh k : Int} {tW tC tb : Tok} {vsW vsC : Array Value} {ctW ctC : Value} {tg : Nat → Tok} {ws : List Value} {ns : List Int} {R : List (Addr × Obj)}
  (T : Top topProg looseP mean mg mb g) (K0 : Below callerA g [] g) (CH : CodeHd g 432 430) (X : (kF w.params).In g) (rk : RK mg L fa xC dC xP dP xS dS xH dH lH DB fW cW fC cC cd cH pT oS oH ocW ocC oT ws ctW ctC R) (fx : FX w.params L fa oS oH ocW ocC lH BX DB tW tC vsW vsC ws ns)
  (ap : Ap5 dC dP lK lG BX R)
  (hC : ConnO w.params oC xP xS fW fC (n : Int) false) (hP : PathsO w.params oP lK xH xH hgh la)
  (b1 : hgh < num + 1) (b2 : 0 ≤ recv) (b3 : recv ≤ 900) (hn : n < 6) (hw : 0 ≤ now) (hw2 : now ≤ 4000) (ht : 0 ≤ turn) (ht2 : turn ≤ 20) (hk : 0 ≤ k) (hk2 : k ≤ 800)
  (F : Fr g L s.heap (lm turn to num tn now tw false lG BX xC m))
  (N : News g L s.heap ((dC, oC) :: (dP, oP) :: (lK, listOf #[.ref xH] nK) :: (lG, listOf (gl tg n).toArray nG) :: (BX, listOf #[.ref DB, .int k tb] cb) :: R))
  (hU : ∀ dA xA nK' oC' oP' oA' lc' la' nG' tb' tg' tn' tw' m' tk' h', (∀ p ∈ R, p.1 ≠ xA) → Ap5 dC dP dA lG BX ((xA, instObj 126 dA) :: (lK, listOf #[.ref xH, .ref xA] nK') :: R) → (∀ p ∈ ((xA, instObj 126 dA) :: (lK, listOf #[.ref xH, .ref xA] nK') :: R), p.1 ≠ lc') → @Ne Nat dC lc' → @Ne Nat dP lc' → @Ne Nat dA lc' → @Ne Nat lG lc' → @Ne Nat BX lc' → ConnO w.params oC' xP xS fW fC ((n + 1 : Nat) : Int) true → PathsO w.params oP' lK xH xH (num + 1) la' → PathO w.params oA' "away" "failed" false (100) lc' .none false → Fr g L h' (lm turn to (num + 1) tn' (now + 150) tw' false lG BX xC m') → News g L h' ((lc', listOf #[] 0) :: (dC, oC') :: (dP, oP') :: (dA, oA') :: (lG, listOf (gl tg' (n + 1)).toArray nG') :: (BX, listOf #[.ref DB, .int (k + 1 + 1 + 1) tb'] cb) :: ((xA, instObj 126 dA) :: (lK, listOf #[.ref xH, .ref xA] nK') :: R)) → Q .next { s with heap := h', toks := tk' })
  (hV : ∀ dA xA nK' oC' oP' oA' lc' la' nG' tb' tg' tn' tw' m' tk' h', (∀ p ∈ R, p.1 ≠ xA) → Ap5 dC dP dA lG BX ((xA, instObj 126 dA) :: (lK, listOf #[.ref xH, .ref xA] nK') :: R) → (∀ p ∈ ((xA, instObj 126 dA) :: (lK, listOf #[.ref xH, .ref xA] nK') :: R), p.1 ≠ lc') → @Ne Nat dC lc' → @Ne Nat dP lc' → @Ne Nat dA lc' → @Ne Nat lG lc' → @Ne Nat BX lc' → ConnO w.params oC' xP xS fW fC ((n + 1 : Nat) : Int) true → PathsO w.params oP' lK xH xA (num + 1 + 1) la' → PathO w.params oA' "away" "proven" true (100) lc' .none false → Fr g L h' (lm turn to (num + 1 + 1) tn' (now + 150) tw' true lG BX xC m') → News g L h' ((lc', listOf #[] 0) :: (dC, oC') :: (dP, oP') :: (dA, oA') :: (lG, listOf (gl tg' (n + 1)).toArray nG') :: (BX, listOf #[.ref DB, .int (k + 1 + 1 + 1) tb'] cb) :: ((xA, instObj 126 dA) :: (lK, listOf #[.ref xH, .ref xA] nK') :: R)) → Q .next { s with heap := h', toks := tk' }) :
  wpAny (MP w) (callerA.deeper (envOf (Str.ofString "law") lawScope L fa (Value.ref 432))) (execs (turnBody.drop 0) (envOf (Str.ofString "law") lawScope L fa (Value.ref 432))) Q E s := by
  obtain ⟨r1, r2, r3, r4, r5, r6, r7, r8, r9, r10, r11, r12, r13⟩ := rk
  obtain ⟨hS, hH, d1, d2, d3, d4, hI, hlen, hdl⟩ := fx
  obtain ⟨e1, e2, e3, e4, e5, e6, e7, e8, e9, e10, o1, o2, o3, o4, o5⟩ := ap
  (with_reducible refine' AF_w (xC := xC) (dC := dC) (xP := xP) (dP := dP) (lK := lK) (xH := xH) (dH := dH) (lH := lH) (la := la) (last := xH) (xS := xS) (fW := fW) (fC := fC) (nK := nK) (lG := lG) (BX := BX) (oC := oC) (oP := oP) (oH := oH) (cn := (n : Int)) (hgh := hgh) (pr := false) (turn := turn) (num := num) (now := now) (to := to) (tn := tn) (tw := tw) (m := m) ?F ?N ?mc1 ?mc2 ?hC ?m2 ?t ?hP ?t2 ?mh1 ?mh2 ?hH ?b1 ?nt0_1 ?nm0_0 ?nm0_1 ?nm0_2 ?nm0_3 ?nm0_4 ?nm1_0 ?nm1_1 ?nm1_2 ?nm1_3 ?nm1_4 ?hr0 ?hr1 ?T ?K0 ?CH ?X ?h)
  case F => exact F
  case N => exact N
  case mc1 => k_mem
  case mc2 => k_mem
  case hC => assumption
  case m2 => k_mem
  case t => k_offL
  case hP => assumption
  case t2 => k_offL
  case mh1 => k_mem
  case mh2 => k_mem
  case hH => assumption
  case b1 => first | assumption | omega
  case nt0_1 => k_ne
  case nm0_0 => k_ne
  case nm0_1 => k_ne
  case nm0_2 => k_ne
  case nm0_3 => k_ne
  case nm0_4 => k_ne
  case nm1_0 => k_ne
  case nm1_1 => k_ne
  case nm1_2 => k_ne
  case nm1_3 => k_ne
  case nm1_4 => k_ne
  case hr0 => k_all
  case hr1 => k_all
  case T => assumption
  case K0 => assumption
  case CH => assumption
  case X => assumption
  case h =>
    intro dA xA lc oP1 oA1 nK1 tn1 tw1 m1 tk1 h1 u0 u1 u2 u3 u4 u5 u6 u7 u8 u9 u10 hP1 hA1 F1 N1
    have apF : Ap5 dC dP dA lG BX ((xA, instObj 126 dA) :: (lK, listOf #[.ref xH, .ref xA] nK1) :: R) := by
      refine ⟨?_, ?_, ?_, ?_, ?_, ?_, ?_, ?_, ?_, ?_, ?_, ?_, ?_, ?_, ?_⟩
      all_goals first | k_ne | k_all
    (with_reducible refine' BN_w (xC := xC) (dC := dC) (xP := xP) (dP := dP) (xS := xS) (dS := dS) (xA := xA) (dA := dA) (lK := lK) (lc := lc) (la := la) (last := xH) (fW := fW) (fC := fC) (cW := cW) (cC := cC) (n := n) (nG := nG) (lG := lG) (BX := BX) (DB := DB) (cd := cd) (cb := cb) (oC := oC) (oP := oP1) (oS := oS) (oA := oA1) (ocW := ocW) (ocC := ocC) (fr := false) (mo := false) (fl := false) (recv := 100) (hgh := (num + 1)) (k := k) (tW := tW) (tC := tC) (tb := tb) (vsW := vsW) (vsC := vsC) (ctW := ctW) (ctC := ctC) (tg := tg) (ws := ws) (ns := ns) (turn := turn) (num := (num + 1)) (now := now) (to := to) (tn := tn1) (tw := tw1) (m := m1) ?F ?N ?m1 ?t1 ?hC ?m2 ?t2 ?hP ?m3 ?m4 ?hS ?m5 ?t3 ?hA ?t4 ?t5 ?mdb ?m8 ?m9 ?m10 ?m11 ?d1 ?d2 ?d3 ?d4 ?hn ?hw ?hw2 ?ht ?ht2 ?hk ?hk2 ?nt0_1 ?nt0_2 ?nt0_3 ?nt0_4 ?nm0_0 ?nm0_1 ?nm0_2 ?nm0_3 ?nm0_4 ?nm0_5 ?nm0_6 ?nm0_7 ?nm0_8 ?nm0_9 ?nt1_2 ?nt1_3 ?nt1_4 ?nm1_0 ?nm1_1 ?nm1_2 ?nm1_3 ?nm1_4 ?nm1_5 ?nm1_6 ?nm1_7 ?nm1_8 ?nm1_9 ?nt2_3 ?nt2_4 ?nm2_0 ?nm2_1 ?nm2_2 ?nm2_3 ?nm2_4 ?nm2_5 ?nm2_6 ?nm2_7 ?nm2_8 ?nm2_9 ?nt3_4 ?nm3_0 ?nm3_1 ?nm3_2 ?nm3_3 ?nm3_4 ?nm3_5 ?nm3_6 ?nm3_7 ?nm3_8 ?nm3_9 ?nm4_0 ?nm4_1 ?nm4_2 ?nm4_3 ?nm4_4 ?nm4_5 ?nm4_6 ?nm4_7 ?nm4_8 ?nm4_9 ?hr0 ?hr1 ?hr2 ?hr3 ?hr4 ?T ?K0 ?CH ?hI ?hlen ?hdl ?X ?h)
    case F => exact F1
    case N => exact N1
    case m1 => k_mem
    case t1 => k_offL
    case hC => assumption
    case m2 => k_mem
    case t2 => k_offL
    case hP => assumption
    case m3 => k_mem
    case m4 => k_mem
    case hS => assumption
    case m5 => k_mem
    case t3 => k_offL
    case hA => assumption
    case t4 => k_offL
    case t5 => k_offL
    case mdb => k_mem
    case m8 => k_mem
    case m9 => k_mem
    case m10 => k_mem
    case m11 => k_mem
    case d1 => assumption
    case d2 => assumption
    case d3 => assumption
    case d4 => assumption
    case hn => first | assumption | omega
    case hw => first | assumption | omega
    case hw2 => first | assumption | omega
    case ht => first | assumption | omega
    case ht2 => first | assumption | omega
    case hk => first | assumption | omega
    case hk2 => first | assumption | omega
    case nt0_1 => k_ne
    case nt0_2 => k_ne
    case nt0_3 => k_ne
    case nt0_4 => k_ne
    case nm0_0 => k_ne
    case nm0_1 => k_ne
    case nm0_2 => k_ne
    case nm0_3 => k_ne
    case nm0_4 => k_ne
    case nm0_5 => k_ne
    case nm0_6 => k_ne
    case nm0_7 => k_ne
    case nm0_8 => k_ne
    case nm0_9 => k_ne
    case nt1_2 => k_ne
    case nt1_3 => k_ne
    case nt1_4 => k_ne
    case nm1_0 => k_ne
    case nm1_1 => k_ne
    case nm1_2 => k_ne
    case nm1_3 => k_ne
    case nm1_4 => k_ne
    case nm1_5 => k_ne
    case nm1_6 => k_ne
    case nm1_7 => k_ne
    case nm1_8 => k_ne
    case nm1_9 => k_ne
    case nt2_3 => k_ne
    case nt2_4 => k_ne
    case nm2_0 => k_ne
    case nm2_1 => k_ne
    case nm2_2 => k_ne
    case nm2_3 => k_ne
    case nm2_4 => k_ne
    case nm2_5 => k_ne
    case nm2_6 => k_ne
    case nm2_7 => k_ne
    case nm2_8 => k_ne
    case nm2_9 => k_ne
    case nt3_4 => k_ne
    case nm3_0 => k_ne
    case nm3_1 => k_ne
    case nm3_2 => k_ne
    case nm3_3 => k_ne
    case nm3_4 => k_ne
    case nm3_5 => k_ne
    case nm3_6 => k_ne
    case nm3_7 => k_ne
    case nm3_8 => k_ne
    case nm3_9 => k_ne
    case nm4_0 => k_ne
    case nm4_1 => k_ne
    case nm4_2 => k_ne
    case nm4_3 => k_ne
    case nm4_4 => k_ne
    case nm4_5 => k_ne
    case nm4_6 => k_ne
    case nm4_7 => k_ne
    case nm4_8 => k_ne
    case nm4_9 => k_ne
    case hr0 => k_all
    case hr1 => k_all
    case hr2 => k_all
    case hr3 => k_all
    case hr4 => k_all
    case T => assumption
    case K0 => assumption
    case CH => assumption
    case hI => assumption
    case hlen => assumption
    case hdl => assumption
    case X => assumption
    case h =>
      intro oC2 oP2 oA2 lc2 la2 nG2 tb2 tv kc x4 dl2 td2 tn2 tw2 m2 tk2 h2 nf0 nf1 nf2 nf3 nf4 nf5 edl hC2 hP2 hA2 F2 N2
      subst edl
      rw [gl_push] at N2
      have hC3 : ConnO w.params oC2 xP xS fW fC ((n + 1 : Nat) : Int) true := hC2
      (with_reducible refine' C1T_w (xC := xC) (dC := dC) (xP := xP) (dP := dP) (xS := xS) (xH := xH) (dH := dH) (xA := xA) (dA := dA) (lK := lK) (lH := lH) (lc := lc2) (la := la2) (last := xH) (fW := fW) (fC := fC) (n := n) (nG := nG2) (lG := lG) (BX := BX) (DB := DB) (cd := cd) (cb := cb) (cH := cH) (nK := nK1) (kc := kc) (oC := oC2) (oP := oP2) (oH := oH) (oA := oA2) (fr := false) (mo := false) (cn := ((n + 1 : Nat) : Int)) (recv := (100)) (hgh := (num + 1)) (k := (k + 1)) (dl := (now + 150)) (tb := tb2) (td := td2) (x4 := x4) (tg := (fun j => if j < n then tg j else tv)) (ws := ws) (ns := ns) (turn := turn) (num := (num + 1)) (now := now) (to := to) (tn := tn2) (tw := tw2) (m := m2) ?F ?N ?m1 ?t1 ?hC ?m2 ?t2 ?hP ?m3 ?mh1 ?mh2 ?hH ?m4 ?m6 ?t3 ?hA ?m9 ?mg1 ?t5 ?mdb ?hn ?hw ?hw2 ?ht ?ht2 ?hk ?hk2 ?nt0_1 ?nt0_2 ?nm0_0 ?nm0_1 ?nm0_2 ?nm0_3 ?nm0_4 ?nm0_5 ?nm0_6 ?nm0_7 ?nm0_8 ?nm0_9 ?nm0_10 ?nt1_2 ?nm1_0 ?nm1_1 ?nm1_2 ?nm1_3 ?nm1_4 ?nm1_5 ?nm1_6 ?nm1_7 ?nm1_8 ?nm1_9 ?nm1_10 ?nm2_0 ?nm2_1 ?nm2_2 ?nm2_3 ?nm2_4 ?nm2_5 ?nm2_6 ?nm2_7 ?nm2_8 ?nm2_9 ?nm2_10 ?hr0 ?hr1 ?hr2 ?T ?K0 ?CH ?hI ?hlen ?hdl ?X ?h1 ?h2)
      case F => exact F2
      case N => exact N2
      case m1 => k_mem
      case t1 => k_mem
      case hC => assumption
      case m2 => k_mem
      case t2 => k_offL
      case hP => assumption
      case m3 => k_mem
      case mh1 => k_mem
      case mh2 => k_mem
      case hH => assumption
      case m4 => k_mem
      case m6 => k_mem
      case t3 => k_offL
      case hA => assumption
      case m9 => k_mem
      case mg1 => k_mem
      case t5 => k_offL
      case mdb => k_mem
      case hn => first | assumption | omega
      case hw => first | assumption | omega
      case hw2 => first | assumption | omega
      case ht => first | assumption | omega
      case ht2 => first | assumption | omega
      case hk => first | assumption | omega
      case hk2 => first | assumption | omega
      case nt0_1 => k_ne
      case nt0_2 => k_ne
      case nm0_0 => k_ne
      case nm0_1 => k_ne
      case nm0_2 => k_ne
      case nm0_3 => k_ne
      case nm0_4 => k_ne
      case nm0_5 => k_ne
      case nm0_6 => k_ne
      case nm0_7 => k_ne
      case nm0_8 => k_ne
      case nm0_9 => k_ne
      case nm0_10 => k_ne
      case nt1_2 => k_ne
      case nm1_0 => k_ne
      case nm1_1 => k_ne
      case nm1_2 => k_ne
      case nm1_3 => k_ne
      case nm1_4 => k_ne
      case nm1_5 => k_ne
      case nm1_6 => k_ne
      case nm1_7 => k_ne
      case nm1_8 => k_ne
      case nm1_9 => k_ne
      case nm1_10 => k_ne
      case nm2_0 => k_ne
      case nm2_1 => k_ne
      case nm2_2 => k_ne
      case nm2_3 => k_ne
      case nm2_4 => k_ne
      case nm2_5 => k_ne
      case nm2_6 => k_ne
      case nm2_7 => k_ne
      case nm2_8 => k_ne
      case nm2_9 => k_ne
      case nm2_10 => k_ne
      case hr0 => k_all
      case hr1 => k_all
      case hr2 => k_all
      case T => assumption
      case K0 => assumption
      case CH => assumption
      case hI => assumption
      case hlen => assumption
      case hdl => assumption
      case X => assumption
      case h1 =>
        intro tb3 tn3 tw3 m3 tk3 h3 F3 N3
        (with_reducible refine' DM_w (xC := xC) (dC := dC) (xP := xP) (dP := dP) (xS := xS) (xH := xH) (dH := dH) (xA := xA) (dA := dA) (lK := lK) (lH := lH) (lc := lc2) (la := la2) (fW := fW) (fC := fC) (lG := lG) (BX := BX) (nK := nK1) (oC := oC2) (oP := oP2) (oH := oH) (oA := oA2) (fr := false) (mo := false) (cn := ((n + 1 : Nat) : Int)) (recv := (100)) (hgh := (num + 1)) (dl := (now + 150)) (td := td2) (turn := turn) (num := (num + 1)) (now := now) (to := to) (tn := tn3) (tw := tw3) (m := m3) ?F ?N ?m1 ?t1 ?hC ?m2 ?t2 ?hP ?m3 ?mh1 ?mh2 ?hH ?m6 ?t3 ?hA ?hdl ?nt0_1 ?nm0_0 ?nm0_1 ?nm0_2 ?nm0_3 ?nm0_4 ?nm0_5 ?nm0_6 ?nm1_0 ?nm1_1 ?nm1_2 ?nm1_3 ?nm1_4 ?nm1_5 ?nm1_6 ?hr0 ?hr1 ?T ?K0 ?CH ?X ?h)
        case F => exact F3
        case N => exact N3
        case m1 => k_mem
        case t1 => k_mem
        case hC => assumption
        case m2 => k_mem
        case t2 => k_offL
        case hP => assumption
        case m3 => k_mem
        case mh1 => k_mem
        case mh2 => k_mem
        case hH => assumption
        case m6 => k_mem
        case t3 => k_offL
        case hA => assumption
        case hdl => first | assumption | omega
        case nt0_1 => k_ne
        case nm0_0 => k_ne
        case nm0_1 => k_ne
        case nm0_2 => k_ne
        case nm0_3 => k_ne
        case nm0_4 => k_ne
        case nm0_5 => k_ne
        case nm0_6 => k_ne
        case nm1_0 => k_ne
        case nm1_1 => k_ne
        case nm1_2 => k_ne
        case nm1_3 => k_ne
        case nm1_4 => k_ne
        case nm1_5 => k_ne
        case nm1_6 => k_ne
        case hr0 => k_all
        case hr1 => k_all
        case T => assumption
        case K0 => assumption
        case CH => assumption
        case X => assumption
        case h =>
          intro oP4 oA4 lc4 tn4 tw4 m4 tk4 h4 g0 g1 g2 hP4 hA4 F4 N4
          (refine' hU dA xA nK1 oC2 oP4 oA4 lc4 la2 nG2 tb3 (fun j => if j < n then tg j else tv) tn4 tw4 m4 tk4 h4 (restNe2 u3 (by lcg_sub)) apF ?f0 ?f1 ?f2 ?f3 ?f4 ?f5 hC3 hP4 hA4 F4 ?hN; (case hN => exact News.subs N4 (by lcg_sub)); (case f0 => k_all); (case f1 => k_ne); (case f2 => k_ne); (case f3 => k_ne); (case f4 => k_ne); (case f5 => k_ne))
      case h2 =>
        intro oP3 oA3 lc3 tb3 tn3 tw3 m3 tk3 h3 g0 g1 g2 g3 hP3 hA3 F3 N3
        (with_reducible refine' DH_w (xC := xC) (dC := dC) (xP := xP) (dP := dP) (xS := xS) (xH := xH) (dH := dH) (xA := xA) (dA := dA) (lK := lK) (lH := lH) (lc := lc3) (la := la2) (last := xA) (fW := fW) (fC := fC) (lG := lG) (BX := BX) (nK := nK1) (oC := oC2) (oP := oP3) (oH := oH) (oA := oA3) (fr := true) (mo := false) (cn := ((n + 1 : Nat) : Int)) (recv := (100)) (hgh := (num + 1)) (turn := turn) (num := (num + 1)) (now := now) (to := to) (tn := tn3) (tw := tw3) (m := m3) ?F ?N ?m1 ?t1 ?hC ?m2 ?t2 ?hP ?m3 ?mh1 ?mh2 ?hH ?m6 ?t3 ?hA ?b1 ?nm0_0 ?nm0_1 ?nm0_2 ?nm0_3 ?nm0_4 ?nm0_5 ?nm0_6 ?nm0_7 ?hr0 ?T ?K0 ?CH ?X ?h)
        case F => exact F3
        case N => exact N3
        case m1 => k_mem
        case t1 => k_mem
        case hC => assumption
        case m2 => k_mem
        case t2 => k_offL
        case hP => assumption
        case m3 => k_mem
        case mh1 => k_mem
        case mh2 => k_mem
        case hH => assumption
        case m6 => k_mem
        case t3 => k_mem
        case hA => assumption
        case b1 => first | assumption | omega
        case nm0_0 => k_ne
        case nm0_1 => k_ne
        case nm0_2 => k_ne
        case nm0_3 => k_ne
        case nm0_4 => k_ne
        case nm0_5 => k_ne
        case nm0_6 => k_ne
        case nm0_7 => k_ne
        case hr0 => k_all
        case T => assumption
        case K0 => assumption
        case CH => assumption
        case X => assumption
        case h =>
          intro oP4 tn4 tw4 m4 tk4 h4 hP4 F4 N4
          (refine' hV dA xA nK1 oC2 oP4 oA3 lc3 la2 nG2 tb3 (fun j => if j < n then tg j else tv) tn4 tw4 m4 tk4 h4 (restNe2 u3 (by lcg_sub)) apF ?f0 ?f1 ?f2 ?f3 ?f4 ?f5 hC3 hP4 hA3 F4 ?hN; (case hN => exact News.subs N4 (by lcg_sub)); (case f0 => k_all); (case f1 => k_ne); (case f2 => k_ne); (case f3 => k_ne); (case f4 => k_ne); (case f5 => k_ne))
end
end
section
/-- law's state ahead of turn i: nothing has come from 'away' (f), away failed (u), away proven (p) -/
inductive LawSt (P : Params) (mg : Str → Option Value) (L fa : Addr) (xC dC xP dP xS dS xH dH lH DB fW cW fC cC cd cH pT lK lG BX cb : Nat) (oS oH ocW ocC oT : Obj) (ws : List Value) (ctW ctC : Value) : Nat → Int → Int → Bool → List (Addr × Obj) → Prop
  | f {oC oP : Obj} {nK nG la : Nat} {k : Int} {tb : Tok} {tg : Nat → Tok} {R : List (Addr × Obj)} {i : Nat} {num now hgh : Int} : RK mg L fa xC dC xP dP xS dS xH dH lH DB fW cW fC cC cd cH pT oS oH ocW ocC oT ws ctW ctC R → Ap5 dC dP lK lG BX R → ConnO P oC xP xS fW fC ((0 : Nat) : Int) false → PathsO P oP lK xH xH hgh la → hgh < num + 1 → i = 0 → (0 ≤ now ∧ now ≤ 150 * (i : Int)) → (0 ≤ k ∧ k ≤ 1 + 3 * (i : Int)) → LawSt P mg L fa xC dC xP dP xS dS xH dH lH DB fW cW fC cC cd cH pT lK lG BX cb oS oH ocW ocC oT ws ctW ctC i num now false ((dC, oC) :: (dP, oP) :: (lK, listOf #[.ref xH] nK) :: (lG, listOf (gl tg 0).toArray nG) :: (BX, listOf #[.ref DB, .int k tb] cb) :: R)
  | u {oC oP oA : Obj} {xA dA nK nG la lc n : Nat} {k recv : Int} {tb : Tok} {tg : Nat → Tok} {R : List (Addr × Obj)} {i : Nat} {num now hgh : Int} : RK mg L fa xC dC xP dP xS dS xH dH lH DB fW cW fC cC cd cH pT oS oH ocW ocC oT ws ctW ctC R → Ap5 dC dP dA lG BX R → (xA, instObj 126 dA) ∈ R → (lK, listOf #[.ref xH, .ref xA] nK) ∈ R → ConnO P oC xP xS fW fC (n : Int) true → PathsO P oP lK xH xH hgh la → PathO P oA "away" "failed" false recv lc .none false → hgh < num + 1 → n ≤ i → (0 ≤ recv ∧ recv ≤ 100 * (i : Int)) → (0 ≤ now ∧ now ≤ 150 * (i : Int)) → (0 ≤ k ∧ k ≤ 1 + 3 * (i : Int)) → LawSt P mg L fa xC dC xP dP xS dS xH dH lH DB fW cW fC cC cd cH pT lK lG BX cb oS oH ocW ocC oT ws ctW ctC i num now false ((dC, oC) :: (dP, oP) :: (dA, oA) :: (lG, listOf (gl tg n).toArray nG) :: (BX, listOf #[.ref DB, .int k tb] cb) :: R)
  | p {oC oP oA : Obj} {xA dA nK nG la lc kc last n : Nat} {k recv : Int} {tb : Tok} {tg : Nat → Tok} {R : List (Addr × Obj)} {i : Nat} {num now hgh : Int} : RK mg L fa xC dC xP dP xS dS xH dH lH DB fW cW fC cC cd cH pT oS oH ocW ocC oT ws ctW ctC R → Ap5 dC dP dA lG BX R → (xA, instObj 126 dA) ∈ R → (lK, listOf #[.ref xH, .ref xA] nK) ∈ R → (lc, listOf #[] kc) ∈ R → ConnO P oC xP xS fW fC ((n + 1 : Nat) : Int) true → PathsO P oP lK xH last hgh la → PathO P oA "away" "proven" true recv lc .none false → hgh < num + 1 → n + 1 ≤ i → (0 ≤ recv ∧ recv ≤ 100 * (i : Int)) → (0 ≤ now ∧ now ≤ 150 * (i : Int)) → (0 ≤ k ∧ k ≤ 1 + 3 * (i : Int)) → LawSt P mg L fa xC dC xP dP xS dS xH dH lH DB fW cW fC cC cd cH pT lK lG BX cb oS oH ocW ocC oT ws ctW ctC i num now true ((dC, oC) :: (dP, oP) :: (dA, oA) :: (lG, listOf (gl tg (n + 1)).toArray nG) :: (BX, listOf #[.ref DB, .int k tb] cb) :: R)
/-- what the rest of law needs to see of a state -/
theorem LawSt.out {P : Params} {mg : Str → Option Value} {L fa : Addr} {xC dC xP dP xS dS xH dH lH DB fW cW fC cC cd cH pT lK lG BX cb : Nat} {oS oH ocW ocC oT : Obj} {ws : List Value} {ctW ctC : Value} {i : Nat} {num now : Int} {pr : Bool} {nx : List (Addr × Obj)} (h : LawSt P mg L fa xC dC xP dP xS dS xH dH lH DB fW cW fC cC cd cH pT lK lG BX cb oS oH ocW ocC oT ws ctW ctC i num now pr nx) : ∃ (oC : Obj) (n : Nat) (fl : Bool) (tg : Nat → Tok) (nG : Nat), (pT, oT) ∈ nx ∧ (xC, instObj 410 dC) ∈ nx ∧ (dC, oC) ∈ nx ∧ ConnO P oC xP xS fW fC (n : Int) fl ∧ (lG, listOf (gl tg n).toArray nG) ∈ nx ∧ n ≤ i := by
  cases h with
  | f rk ap hC hP _ hi => exact ⟨_, 0, _, _, _, .tail _ (.tail _ (.tail _ (.tail _ (.tail _ rk.r13)))), .tail _ (.tail _ (.tail _ (.tail _ (.tail _ rk.r1)))), .head _, hC, .tail _ (.tail _ (.tail _ (.head _))), Nat.zero_le _⟩
  | u rk ap mA mK hC hP hA _ hn => exact ⟨_, _, _, _, _, .tail _ (.tail _ (.tail _ (.tail _ (.tail _ rk.r13)))), .tail _ (.tail _ (.tail _ (.tail _ (.tail _ rk.r1)))), .head _, hC, .tail _ (.tail _ (.tail _ (.head _))), hn⟩
  | p rk ap mA mK mc hC hP hA _ hn => exact ⟨_, _, _, _, _, .tail _ (.tail _ (.tail _ (.tail _ (.tail _ rk.r13)))), .tail _ (.tail _ (.tail _ (.tail _ (.tail _ rk.r1)))), .head _, hC, .tail _ (.tail _ (.tail _ (.head _))), hn⟩
/-- the same, with the frame -/
def LawJ (P : Params) (mg : Str → Option Value) (L fa : Addr) (xC dC xP dP xS dS xH dH lH DB fW cW fC cC cd cH pT lK lG BX cb : Nat) (oS oH ocW ocC oT : Obj) (ws : List Value) (ctW ctC : Value) (i : Nat) (m : Str → Option Value) (nx : List (Addr × Obj)) : Prop := ∃ (num now : Int) (pr : Bool) (tn tw : Tok), LawSt P mg L fa xC dC xP dP xS dS xH dH lH DB fW cW fC cC cd cH pT lK lG BX cb oS oH ocW ocC oT ws ctW ctC i num now pr nx ∧ m (Str.ofString "number") = some (.int num tn) ∧ m (Str.ofString "now") = some (.int now tw) ∧ m (Str.ofString "is_proven") = some (.bool pr) ∧
  m (Str.ofString "gone") = some (.ref lG) ∧ m (Str.ofString "box") = some (.ref BX) ∧ m (Str.ofString "conn") = some (.ref xC)
theorem Ap5.sub {a b c d e : Nat} {R R' : List (Addr × Obj)} (h : Ap5 a b c d e R) (hs : ∀ p ∈ R', p ∈ R) : Ap5 a b c d e R' :=
  ⟨h.e1, h.e2, h.e3, h.e4, h.e5, h.e6, h.e7, h.e8, h.e9, h.e10, fun p hp => h.o1 p (hs p hp), fun p hp => h.o2 p (hs p hp), fun p hp => h.o3 p (hs p hp), fun p hp => h.o4 p (hs p hp), fun p hp => h.o5 p (hs p hp)⟩
theorem lmJ {turn num now : Int} {to tn tw : Tok} {pr : Bool} {lG BX xC : Addr} {m : Str → Option Value} :
    lm turn to num tn now tw pr lG BX xC m (Str.ofString "number") = some (.int num tn) ∧ lm turn to num tn now tw pr lG BX xC m (Str.ofString "now") = some (.int now tw) ∧ lm turn to num tn now tw pr lG BX xC m (Str.ofString "is_proven") = some (.bool pr) ∧
    lm turn to num tn now tw pr lG BX xC m (Str.ofString "gone") = some (.ref lG) ∧ lm turn to num tn now tw pr lG BX xC m (Str.ofString "box") = some (.ref BX) ∧ lm turn to num tn now tw pr lG BX xC m (Str.ofString "conn") = some (.ref xC) := ⟨rfl, rfl, rfl, rfl, rfl, rfl⟩
set_option maxRecDepth 100000 in
set_option maxHeartbeats 0 in
theorem lawTurn {w : World} {g : Heap} {L fa : Addr} {mg mb mean} {s : Shared} {E : Value → Shared → Prop} {xC dC xP dP xS dS xH dH lH DB fW cW fC cC cd cH pT lK lG BX cb : Nat} {oS oH ocW ocC oT : Obj} {tW tC : Tok} {vsW vsC : Array Value} {ctW ctC : Value} {ws : List Value} {ns : List Int} (T : Top topProg looseP mean mg mb g) (K0 : Below callerA g [] g) (CH : CodeHd g 432 430) (X : (kF w.params).In g) (fx : FX w.params L fa oS oH ocW ocC lH BX DB tW tC vsW vsC ws ns) {m₁ : Str → Option Value} {nx : List (Addr × Obj)} {I : Addr} {oI : Obj} {i : Nat} {t : Tok} {Q' : Flow → Shared → Prop}
  (hi4 : i < 4) (hJ : LawJ w.params mg L fa xC dC xP dP xS dS xH dH lH DB fW cW fC cC cd cH pT lK lG BX cb oS oH ocW ocC oT ws ctW ctC i m₁ nx) (hI : ∀ p ∈ nx, p.1 ≠ I) (F : Fr g L s.heap (fun y => if y = Str.ofString "turn" then some (.int (i : Int) t) else m₁ y)) (N : News g L s.heap ((I, oI) :: nx))
  (hN : ∀ h' tk' m' nx', Fr g L h' m' → News g L h' ((I, oI) :: nx') → (∀ p ∈ nx', p.1 ≠ I) → LawJ w.params mg L fa xC dC xP dP xS dS xH dH lH DB fW cW fC cC cd cH pT lK lG BX cb oS oH ocW ocC oT ws ctW ctC (i + 1) m' nx' → Q' .next { s with heap := h', toks := tk' }) :
  wpAny (MP w) (callerA.deeper (envOf (Str.ofString "law") lawScope L fa (Value.ref 432))) (execs (turnBody.drop 0) (envOf (Str.ofString "law") lawScope L fa (Value.ref 432))) Q' E s := by
  obtain ⟨num, now, pr, tn, tw, hst, e2, e3, e4, e5, e6, e7⟩ := hJ
  have F1 : Fr g L s.heap (lm (i : Int) t num tn now tw pr lG BX xC (fun y => if y = Str.ofString "turn" then some (.int (i : Int) t) else m₁ y)) :=
    frLaw F (if_pos rfl) ((if_neg (by decide +kernel)).trans e2) ((if_neg (by decide +kernel)).trans e3) ((if_neg (by decide +kernel)).trans e4) ((if_neg (by decide +kernel)).trans e5) ((if_neg (by decide +kernel)).trans e6) ((if_neg (by decide +kernel)).trans e7)
  have ic : ((i + 1 : Nat) : Int) = (i : Int) + 1 := by push_cast; rfl
  cases hst with
  | @f oC oP nK nG la k tb tg R _ _ _ hgh rk ap hC hP b1 hi0 bn bk =>
    subst hi0
    have iC : dC ≠ I := hI (dC, oC) (.head _)
    have iP : dP ≠ I := hI (dP, oP) (.tail _ (.head _))
    have iT : lK ≠ I := hI (lK, _) (.tail _ (.tail _ (.head _)))
    have iG : lG ≠ I := hI (lG, _) (.tail _ (.tail _ (.tail _ (.head _))))
    have iB : BX ≠ I := hI (BX, _) (.tail _ (.tail _ (.tail _ (.tail _ (.head _)))))
    have N1 : News g L s.heap ((dC, oC) :: (dP, oP) :: (lK, listOf #[.ref xH] nK) :: (lG, listOf (gl tg 0).toArray nG) :: (BX, listOf #[.ref DB, .int k tb] cb) :: ((I, oI) :: R)) := News.subs N (by lcg_sub)
    refine' TF (n := 0) (recv := 0) T K0 CH X (rk.cons fun p hp => .tail _ hp) fx (ap.cons (hI (_, _) (.head _)) (hI (_, _) (.tail _ (.head _))) (hI (_, _) (.tail _ (.tail _ (.head _)))) (hI (_, _) (.tail _ (.tail _ (.tail _ (.head _))))) (hI (_, _) (.tail _ (.tail _ (.tail _ (.tail _ (.head _))))))) hC hP b1 ?b2 ?b3 ?b4 ?b5 ?b6 ?b7 ?b8 ?b9 ?b10 F1 N1 ?hU ?hV
    case b2 => omega
    case b3 => omega
    case b4 => omega
    case b5 => omega
    case b6 => omega
    case b7 => omega
    case b8 => omega
    case b9 => omega
    case b10 => omega
    case hU =>
      intro dA xA nK' oC' oP' oA' lc' la' nG' tb' tg' tn' tw' m' tk' h' xa apF f0 f1 f2 f3 f4 f5 hC' hP' hA' F' N'
      have apR : Ap5 dC dP dA lG BX ((xA, instObj 126 dA) :: (lK, listOf #[.ref xH, .ref xA] nK') :: R) := apF.sub (by lcg_sub)
      refine hN h' tk' _ ((dC, oC') :: (dP, oP') :: (dA, oA') :: (lG, listOf (gl tg' (0 + 1)).toArray nG') :: (BX, listOf #[.ref DB, .int (k + 1 + 1 + 1) tb'] cb) :: (lc', listOf #[] 0) :: (xA, instObj 126 dA) :: (lK, listOf #[.ref xH, .ref xA] nK') :: R) F' (News.subs N' (by lcg_sub)) (fun p hp => by
          rcases List.mem_cons.mp hp with rfl | hp
          · exact iC
          rcases List.mem_cons.mp hp with rfl | hp
          · exact iP
          rcases List.mem_cons.mp hp with rfl | hp
          · exact (apF.o3 (I, oI) (by k_mem)).symm
          rcases List.mem_cons.mp hp with rfl | hp
          · exact iG
          rcases List.mem_cons.mp hp with rfl | hp
          · exact iB
          rcases List.mem_cons.mp hp with rfl | hp
          · exact (f0 (I, oI) (by k_mem)).symm
          rcases List.mem_cons.mp hp with rfl | hp
          · exact (xa (I, oI) (by k_mem)).symm
          rcases List.mem_cons.mp hp with rfl | hp
          · exact iT
          exact hI _ (.tail _ (.tail _ (.tail _ (.tail _ (.tail _ hp)))))) ?_
      exact ⟨_, _, _, _, _, .u (rk.cons fun p hp => .tail _ (.tail _ (.tail _ hp))) (apR.cons f1 f2 f3 f4 f5) (.tail _ (.head _)) (.tail _ (.tail _ (.head _))) hC' hP' hA' (by omega) (by omega) (by omega) (by omega) (by omega), lmJ⟩
    case hV =>
      intro dA xA nK' oC' oP' oA' lc' la' nG' tb' tg' tn' tw' m' tk' h' xa apF f0 f1 f2 f3 f4 f5 hC' hP' hA' F' N'
      have apR : Ap5 dC dP dA lG BX ((xA, instObj 126 dA) :: (lK, listOf #[.ref xH, .ref xA] nK') :: R) := apF.sub (by lcg_sub)
      refine hN h' tk' _ ((dC, oC') :: (dP, oP') :: (dA, oA') :: (lG, listOf (gl tg' (0 + 1)).toArray nG') :: (BX, listOf #[.ref DB, .int (k + 1 + 1 + 1) tb'] cb) :: (lc', listOf #[] 0) :: (xA, instObj 126 dA) :: (lK, listOf #[.ref xH, .ref xA] nK') :: R) F' (News.subs N' (by lcg_sub)) (fun p hp => by
          rcases List.mem_cons.mp hp with rfl | hp
          · exact iC
          rcases List.mem_cons.mp hp with rfl | hp
          · exact iP
          rcases List.mem_cons.mp hp with rfl | hp
          · exact (apF.o3 (I, oI) (by k_mem)).symm
          rcases List.mem_cons.mp hp with rfl | hp
          · exact iG
          rcases List.mem_cons.mp hp with rfl | hp
          · exact iB
          rcases List.mem_cons.mp hp with rfl | hp
          · exact (f0 (I, oI) (by k_mem)).symm
          rcases List.mem_cons.mp hp with rfl | hp
          · exact (xa (I, oI) (by k_mem)).symm
          rcases List.mem_cons.mp hp with rfl | hp
          · exact iT
          exact hI _ (.tail _ (.tail _ (.tail _ (.tail _ (.tail _ hp)))))) ?_
      exact ⟨_, _, _, _, _, .p (rk.cons fun p hp => .tail _ (.tail _ (.tail _ hp))) (apR.cons f1 f2 f3 f4 f5) (.tail _ (.head _)) (.tail _ (.tail _ (.head _))) (.head _) hC' hP' hA' (by omega) (by omega) (by omega) (by omega) (by omega), lmJ⟩
  | @u oC oP oA xA dA nK nG la lc n k recv tb tg R _ _ _ hgh rk ap mA mK hC hP hA b1 hni br bn bk =>
    have iC : dC ≠ I := hI (dC, oC) (.head _)
    have iP : dP ≠ I := hI (dP, oP) (.tail _ (.head _))
    have iT : dA ≠ I := hI (dA, oA) (.tail _ (.tail _ (.head _)))
    have iG : lG ≠ I := hI (lG, _) (.tail _ (.tail _ (.tail _ (.head _))))
    have iB : BX ≠ I := hI (BX, _) (.tail _ (.tail _ (.tail _ (.tail _ (.head _)))))
    have N1 : News g L s.heap ((dC, oC) :: (dP, oP) :: (dA, oA) :: (lG, listOf (gl tg n).toArray nG) :: (BX, listOf #[.ref DB, .int k tb] cb) :: ((I, oI) :: R)) := News.subs N (by lcg_sub)
    refine' TU T K0 CH X (rk.cons fun p hp => .tail _ hp) fx (ap.cons (hI (_, _) (.head _)) (hI (_, _) (.tail _ (.head _))) (hI (_, _) (.tail _ (.tail _ (.head _)))) (hI (_, _) (.tail _ (.tail _ (.tail _ (.head _))))) (hI (_, _) (.tail _ (.tail _ (.tail _ (.tail _ (.head _))))))) (.tail _ mA) (.tail _ mK) hC hP hA b1 ?b2 ?b3 ?b4 ?b5 ?b6 ?b7 ?b8 ?b9 ?b10 F1 N1 ?hU ?hV
    case b2 => omega
    case b3 => omega
    case b4 => omega
    case b5 => omega
    case b6 => omega
    case b7 => omega
    case b8 => omega
    case b9 => omega
    case b10 => omega
    case hU =>
      intro oC' oP' oA' lc' la' nG' tb' tg' tn' tw' m' tk' h' f0 f1 f2 f3 f4 f5 hC' hP' hA' F' N'
      refine hN h' tk' _ ((dC, oC') :: (dP, oP') :: (dA, oA') :: (lG, listOf (gl tg' (n + 1)).toArray nG') :: (BX, listOf #[.ref DB, .int (k + 1 + 1 + 1) tb'] cb) :: (lc', listOf #[] 0) :: R) F' (News.subs N' (by lcg_sub)) (fun p hp => by
          rcases List.mem_cons.mp hp with rfl | hp
          · exact iC
          rcases List.mem_cons.mp hp with rfl | hp
          · exact iP
          rcases List.mem_cons.mp hp with rfl | hp
          · exact iT
          rcases List.mem_cons.mp hp with rfl | hp
          · exact iG
          rcases List.mem_cons.mp hp with rfl | hp
          · exact iB
          rcases List.mem_cons.mp hp with rfl | hp
          · exact (f0 (I, oI) (by k_mem)).symm
          exact hI _ (.tail _ (.tail _ (.tail _ (.tail _ (.tail _ hp)))))) ?_
      exact ⟨_, _, _, _, _, .u (rk.cons fun p hp => .tail _ hp) (ap.cons f1 f2 f3 f4 f5) (.tail _ mA) (.tail _ mK) hC' hP' hA' (by omega) (by omega) (by omega) (by omega) (by omega), lmJ⟩
    case hV =>
      intro oC' oP' oA' lc' la' nG' tb' tg' tn' tw' m' tk' h' f0 f1 f2 f3 f4 f5 hC' hP' hA' F' N'
      refine hN h' tk' _ ((dC, oC') :: (dP, oP') :: (dA, oA') :: (lG, listOf (gl tg' (n + 1)).toArray nG') :: (BX, listOf #[.ref DB, .int (k + 1 + 1 + 1) tb'] cb) :: (lc', listOf #[] 0) :: R) F' (News.subs N' (by lcg_sub)) (fun p hp => by
          rcases List.mem_cons.mp hp with rfl | hp
          · exact iC
          rcases List.mem_cons.mp hp with rfl | hp
          · exact iP
          rcases List.mem_cons.mp hp with rfl | hp
          · exact iT
          rcases List.mem_cons.mp hp with rfl | hp
          · exact iG
          rcases List.mem_cons.mp hp with rfl | hp
          · exact iB
          rcases List.mem_cons.mp hp with rfl | hp
          · exact (f0 (I, oI) (by k_mem)).symm
          exact hI _ (.tail _ (.tail _ (.tail _ (.tail _ (.tail _ hp)))))) ?_
      exact ⟨_, _, _, _, _, .p (rk.cons fun p hp => .tail _ hp) (ap.cons f1 f2 f3 f4 f5) (.tail _ mA) (.tail _ mK) (.head _) hC' hP' hA' (by omega) (by omega) (by omega) (by omega) (by omega), lmJ⟩
  | @p oC oP oA xA dA nK nG la lc kc last n k recv tb tg R _ _ _ hgh rk ap mA mK mc hC hP hA b1 hni br bn bk =>
    have iC : dC ≠ I := hI (dC, oC) (.head _)
    have iP : dP ≠ I := hI (dP, oP) (.tail _ (.head _))
    have iT : dA ≠ I := hI (dA, oA) (.tail _ (.tail _ (.head _)))
    have iG : lG ≠ I := hI (lG, _) (.tail _ (.tail _ (.tail _ (.head _))))
    have iB : BX ≠ I := hI (BX, _) (.tail _ (.tail _ (.tail _ (.tail _ (.head _)))))
    have N1 : News g L s.heap ((dC, oC) :: (dP, oP) :: (dA, oA) :: (lG, listOf (gl tg (n + 1)).toArray nG) :: (BX, listOf #[.ref DB, .int k tb] cb) :: ((I, oI) :: R)) := News.subs N (by lcg_sub)
    refine' TP T K0 CH X (rk.cons fun p hp => .tail _ hp) fx (ap.cons (hI (_, _) (.head _)) (hI (_, _) (.tail _ (.head _))) (hI (_, _) (.tail _ (.tail _ (.head _)))) (hI (_, _) (.tail _ (.tail _ (.tail _ (.head _))))) (hI (_, _) (.tail _ (.tail _ (.tail _ (.tail _ (.head _))))))) (.tail _ mA) (.tail _ mK) (.tail _ mc) hC hP hA b1 ?b2 ?b3 ?b4 ?b5 ?b6 ?b7 ?b8 ?b9 ?b10 F1 N1 ?hV
    case b2 => omega
    case b3 => omega
    case b4 => omega
    case b5 => omega
    case b6 => omega
    case b7 => omega
    case b8 => omega
    case b9 => omega
    case b10 => omega
    case hV =>
      intro oP' oA' la' tb' tn' tw' m' tk' h' hP' hA' F' N'
      refine hN h' tk' _ ((dC, oC) :: (dP, oP') :: (dA, oA') :: (lG, listOf (gl tg (n + 1)).toArray nG) :: (BX, listOf #[.ref DB, .int (k + 1 + 1 + 1) tb'] cb) :: R) F' (News.subs N' (by lcg_sub)) (fun p hp => by
          rcases List.mem_cons.mp hp with rfl | hp
          · exact iC
          rcases List.mem_cons.mp hp with rfl | hp
          · exact iP
          rcases List.mem_cons.mp hp with rfl | hp
          · exact iT
          rcases List.mem_cons.mp hp with rfl | hp
          · exact iG
          rcases List.mem_cons.mp hp with rfl | hp
          · exact iB
          exact hI _ (.tail _ (.tail _ (.tail _ (.tail _ (.tail _ hp)))))) ?_
      exact ⟨_, _, _, _, _, .p rk ap mA mK mc hC hP' hA' (by omega) (by omega) (by omega) (by omega) (by omega), lmJ⟩
set_option maxRecDepth 100000 in
set_option maxHeartbeats 0 in
theorem lawLoop {w : World} {g : Heap} {L fa : Addr} {mg mb mean} {s : Shared} {E : Value → Shared → Prop} {xC dC xP dP xS dS xH dH lH DB fW cW fC cC cd cH pT lK lG BX cb : Nat} {oS oH ocW ocC oT : Obj} {tW tC : Tok} {vsW vsC : Array Value} {ctW ctC : Value} {ws : List Value} {ns : List Int} (T : Top topProg looseP mean mg mb g) (K0 : Below callerA g [] g) (CH : CodeHd g 432 430) (X : (kF w.params).In g) (fx : FX w.params L fa oS oH ocW ocC lH BX DB tW tC vsW vsC ws ns)
  {Q : Flow → Shared → Prop} {m₀ : Str → Option Value} {oC oP : Obj} {la nK nG : Nat} {hgh kk b₀ : Int} {tn tw tb : Tok} {r : Addr} {t₀ u₀ v₀ : Tok} {R : List (Addr × Obj)}
  (rk : RK mg L fa xC dC xP dP xS dS xH dH lH DB fW cW fC cC cd cH pT oS oH ocW ocC oT ws ctW ctC R) (ap : Ap5 dC dP lK lG BX R) (hC : ConnO w.params oC xP xS fW fC 0 false) (hP : PathsO w.params oP lK xH xH hgh la) (hh : hgh < 1) (hk : 0 ≤ kk ∧ kk ≤ 1)
  (e2 : m₀ (Str.ofString "number") = some (.int 0 tn)) (e3 : m₀ (Str.ofString "now") = some (.int 0 tw)) (e4 : m₀ (Str.ofString "is_proven") = some (.bool false)) (e5 : m₀ (Str.ofString "gone") = some (.ref lG)) (e6 : m₀ (Str.ofString "box") = some (.ref BX)) (e7 : m₀ (Str.ofString "conn") = some (.ref xC))
  (F : Fr g L s.heap m₀) (N : News g L s.heap ((dC, oC) :: (dP, oP) :: (lK, listOf #[.ref xH] nK) :: (lG, listOf #[] nG) :: (BX, listOf #[.ref DB, .int kk tb] cb) :: R))
  (hr : IsRange s.heap r 0 b₀ 1 t₀ u₀ v₀) (hb1 : 1 ≤ b₀) (hb2 : b₀ ≤ 4)
  (done : ∀ m' nx' h' tk' (oC' : Obj) (n : Nat) (fl : Bool) (tg : Nat → Tok) (nG' : Nat), (pT, oT) ∈ nx' → (xC, instObj 410 dC) ∈ nx' → (dC, oC') ∈ nx' → ConnO w.params oC' xP xS fW fC (n : Int) fl → (lG, listOf (gl tg n).toArray nG') ∈ nx' → n ≤ 4 → m' (Str.ofString "gone") = some (.ref lG) → m' (Str.ofString "conn") = some (.ref xC) → Fr g L h' m' → News g L h' nx' → Q .next { s with heap := h', toks := tk' }) :
  wpAny (MP w) (callerA.deeper (envOf (Str.ofString "law") lawScope L fa (Value.ref 432))) (pyIter (.ref r)) (fun it s₂ => LoopAtV PySem.Challenge.rw_pf0273_01.row.prog w (callerA.deeper (envOf (Str.ofString "law") lawScope L fa (Value.ref 432))) g (envOf (Str.ofString "law") lawScope L fa (Value.ref 432)) (Str.ofString "turn") (turnBody.drop 0) Q E it s₂) E s := by
  refine' rangeLoop (n := b₀.toNat) (LawJ w.params mg L fa xC dC xP dP xS dS xH dH lH DB fW cW fC cC cd cH pT lK lG BX cb oS oH ocW ocC oT ws ctW ctC) rfl hr (small_one (by decide) (by decide) (by omega) (by omega)) (by rw [rangeSize_nat, Int.sub_zero]) F N ?_ ?_ ?_
  · refine ⟨0, 0, false, tn, tw, .f (tg := fun _ => 0) rk ap hC hP (by omega) rfl (by omega) (by omega), e2, e3, e4, e5, e6, e7⟩
  · intro i t m₁ nx I oI h tk Q' hi hJ hI F1 N1 hN
    exact lawTurn (s := { s with heap := h, toks := tk }) T K0 CH X fx (by omega) hJ hI F1 N1 hN
  · intro m₁ nx h tk hJ F1 N1
    obtain ⟨num, now, pr, tn', tw', hst, _, _, _, e5', _, e7'⟩ := hJ
    obtain ⟨oC', n, fl, tg', nG', a0, a1, a2, a3, a4, a5⟩ := hst.out
    exact done m₁ nx h tk oC' n fl tg' nG' a0 a1 a2 a3 a4 (by omega) e5' e7' F1 N1
set_option maxRecDepth 100000 in
set_option maxHeartbeats 0 in
theorem lawEnter {w : World} {g : Heap} {L fa : Addr} {mg mb mean} {s : Shared} {E : Value → Shared → Prop} {xC dC xP dP xS dS xH dH lH DB fW cW fC cC cd cH pT lK lG BX cb : Nat} {oS oH ocW ocC oT : Obj} {tW tC : Tok} {vsW vsC : Array Value} {ctW ctC : Value} {ws : List Value} {ns : List Int} (T : Top topProg looseP mean mg mb g) (K0 : Below callerA g [] g) (CH : CodeHd g 432 430) (X : (kF w.params).In g)
  {Q : Flow → Shared → Prop} {m₀ : Str → Option Value} {news : List (Addr × Obj)} {oC oP : Obj} {la nK nG : Nat} {hgh kk b₀ : Int} {tn tw tb : Tok} {r : Addr} {t₀ u₀ v₀ : Tok}
  (F : Fr g L s.heap m₀) (N : News g L s.heap news)
  (e2 : m₀ (Str.ofString "number") = some (.int 0 tn)) (e3 : m₀ (Str.ofString "now") = some (.int 0 tw)) (e4 : m₀ (Str.ofString "is_proven") = some (.bool false)) (e5 : m₀ (Str.ofString "gone") = some (.ref lG)) (e6 : m₀ (Str.ofString "box") = some (.ref BX)) (e7 : m₀ (Str.ofString "conn") = some (.ref xC))
  (q0 : (dC, oC) ∈ news)
  (q1 : (dP, oP) ∈ news)
  (q2 : (lK, listOf #[.ref xH] nK) ∈ news)
  (q3 : (lG, listOf #[] nG) ∈ news)
  (q4 : (BX, listOf #[.ref DB, .int kk tb] cb) ∈ news)
  (q5 : (xC, instObj 410 dC) ∈ news)
  (q6 : (xP, instObj 243 dP) ∈ news)
  (q7 : (xS, instObj 410 dS) ∈ news)
  (q8 : (dS, oS) ∈ news)
  (q9 : (xH, instObj 126 dH) ∈ news)
  (q10 : (dH, oH) ∈ news)
  (q11 : (lH, listOf #[] cH) ∈ news)
  (q12 : (DB, listOf ws.toArray cd) ∈ news)
  (q13 : (fW, kla_obj (Str.ofString "<lambda>") ((envOf (Str.ofString "law") lawScope L fa (Value.ref 432)).qual ++ Str.ofString "<lambda>") (lamOf 2).1 (lamOf 2).2.1 (lamOf 2).2.2 [] ((mg (Str.ofString "__name__")).getD Value.none) cW ctW) ∈ news)
  (q14 : (cW, ocW) ∈ news)
  (q15 : (fC, kla_obj (Str.ofString "<lambda>") ((envOf (Str.ofString "law") lawScope L fa (Value.ref 432)).qual ++ Str.ofString "<lambda>") (lamOf 3).1 (lamOf 3).2.1 (lamOf 3).2.2 [] ((mg (Str.ofString "__name__")).getD Value.none) cC ctC) ∈ news)
  (q16 : (cC, ocC) ∈ news)
  (q17 : (pT, oT) ∈ news)
  (hC : ConnO w.params oC xP xS fW fC 0 false) (hP : PathsO w.params oP lK xH xH hgh la) (hS : ShakeO w.params oS) (hH : PathO w.params oH "home" "proven" true 0 lH .none false)
  (d1 : ocW.data = Data.fields vsW) (d2 : vsW[1]? = some (Value.str ((envOf (Str.ofString "law") lawScope L fa (Value.ref 432)).qual ++ Str.ofString "<lambda>") tW)) (d3 : ocC.data = Data.fields vsC) (d4 : vsC[1]? = some (Value.str ((envOf (Str.ofString "law") lawScope L fa (Value.ref 432)).qual ++ Str.ofString "<lambda>") tC))
  (hI : IntsAre ws ns) (hlen : ns.length ≤ 24) (hh : hgh < 1) (hk : 0 ≤ kk ∧ kk ≤ 1)
  (c0 : @LT.lt Nat _ pT DB)
  (c1 : @LT.lt Nat _ DB BX)
  (c2 : @LT.lt Nat _ BX dC)
  (c3 : @LT.lt Nat _ dC xC)
  (c4 : @LT.lt Nat _ xC dS)
  (c5 : @LT.lt Nat _ dS xS)
  (c6 : @LT.lt Nat _ xS dP)
  (c7 : @LT.lt Nat _ dP xP)
  (c8 : @LT.lt Nat _ xP dH)
  (c9 : @LT.lt Nat _ dH xH)
  (c10 : @LT.lt Nat _ xH lH)
  (c11 : @LT.lt Nat _ lH lK)
  (c12 : @LT.lt Nat _ lK cW)
  (c13 : @LT.lt Nat _ cW fW)
  (c14 : @LT.lt Nat _ fW cC)
  (c15 : @LT.lt Nat _ cC fC)
  (c16 : @LT.lt Nat _ fC lG)
  (hr : IsRange s.heap r 0 b₀ 1 t₀ u₀ v₀) (hb1 : 1 ≤ b₀) (hb2 : b₀ ≤ 4)
  (done : ∀ (m' : Str → Option Value) h' tk' (oC' : Obj) (n : Nat) (fl : Bool) (tg : Nat → Tok) (nG' : Nat), ConnO w.params oC' xP xS fW fC (n : Int) fl → n ≤ 4 → Fr g L h' (fun y => if y = Str.ofString "gone" then some (Value.ref lG) else if y = Str.ofString "conn" then some (Value.ref xC) else m' y) → News g L h' [(lG, listOf (gl tg n).toArray nG'), (pT, oT), (xC, instObj 410 dC), (dC, oC')] → Q .next { s with heap := h', toks := tk' }) :
  wpAny (MP w) (callerA.deeper (envOf (Str.ofString "law") lawScope L fa (Value.ref 432))) (pyIter (.ref r)) (fun it s₂ => LoopAtV PySem.Challenge.rw_pf0273_01.row.prog w (callerA.deeper (envOf (Str.ofString "law") lawScope L fa (Value.ref 432))) g (envOf (Str.ofString "law") lawScope L fa (Value.ref 432)) (Str.ofString "turn") (turnBody.drop 0) Q E it s₂) E s := by
  refine' lawLoop T K0 CH X ⟨hS, hH, d1, d2, d3, d4, hI, hlen, c1⟩ (R := (xC, instObj 410 dC) :: (xP, instObj 243 dP) :: (xS, instObj 410 dS) :: (dS, oS) :: (xH, instObj 126 dH) :: (dH, oH) :: (lH, listOf #[] cH) :: (DB, listOf ws.toArray cd) :: (fW, kla_obj (Str.ofString "<lambda>") ((envOf (Str.ofString "law") lawScope L fa (Value.ref 432)).qual ++ Str.ofString "<lambda>") (lamOf 2).1 (lamOf 2).2.1 (lamOf 2).2.2 [] ((mg (Str.ofString "__name__")).getD Value.none) cW ctW) :: (cW, ocW) :: (fC, kla_obj (Str.ofString "<lambda>") ((envOf (Str.ofString "law") lawScope L fa (Value.ref 432)).qual ++ Str.ofString "<lambda>") (lamOf 3).1 (lamOf 3).2.1 (lamOf 3).2.2 [] ((mg (Str.ofString "__name__")).getD Value.none) cC ctC) :: (cC, ocC) :: (pT, oT) :: []) (nG := nG) (tb := tb) (kk := kk) (oC := oC) (oP := oP) (nK := nK) (pT := pT) (oT := oT) (xS := xS) (dS := dS) (oS := oS) (oH := oH) (ocW := ocW) (ocC := ocC) (cW := cW) (cC := cC) ?rk ?ap hC hP hh hk e2 e3 e4 e5 e6 e7 F ?N hr hb1 hb2 ?done
  case rk => exact ⟨by k_mem, by k_mem, by k_mem, by k_mem, by k_mem, by k_mem, by k_mem, by k_mem, by k_mem, by k_mem, by k_mem, by k_mem, by k_mem⟩
  case ap => exact ⟨(Nat.ne_of_gt (Nat.lt_trans c3 (Nat.lt_trans c4 (Nat.lt_trans c5 c6)))), (Nat.ne_of_gt (Nat.lt_trans c3 (Nat.lt_trans c4 (Nat.lt_trans c5 (Nat.lt_trans c6 (Nat.lt_trans c7 (Nat.lt_trans c8 (Nat.lt_trans c9 (Nat.lt_trans c10 c11))))))))), (Nat.ne_of_gt (Nat.lt_trans c3 (Nat.lt_trans c4 (Nat.lt_trans c5 (Nat.lt_trans c6 (Nat.lt_trans c7 (Nat.lt_trans c8 (Nat.lt_trans c9 (Nat.lt_trans c10 (Nat.lt_trans c11 (Nat.lt_trans c12 (Nat.lt_trans c13 (Nat.lt_trans c14 (Nat.lt_trans c15 c16)))))))))))))), (Nat.ne_of_lt c2), (Nat.ne_of_gt (Nat.lt_trans c7 (Nat.lt_trans c8 (Nat.lt_trans c9 (Nat.lt_trans c10 c11))))), (Nat.ne_of_gt (Nat.lt_trans c7 (Nat.lt_trans c8 (Nat.lt_trans c9 (Nat.lt_trans c10 (Nat.lt_trans c11 (Nat.lt_trans c12 (Nat.lt_trans c13 (Nat.lt_trans c14 (Nat.lt_trans c15 c16)))))))))), (Nat.ne_of_lt (Nat.lt_trans c2 (Nat.lt_trans c3 (Nat.lt_trans c4 (Nat.lt_trans c5 c6))))), (Nat.ne_of_gt (Nat.lt_trans c12 (Nat.lt_trans c13 (Nat.lt_trans c14 (Nat.lt_trans c15 c16))))), (Nat.ne_of_lt (Nat.lt_trans c2 (Nat.lt_trans c3 (Nat.lt_trans c4 (Nat.lt_trans c5 (Nat.lt_trans c6 (Nat.lt_trans c7 (Nat.lt_trans c8 (Nat.lt_trans c9 (Nat.lt_trans c10 c11)))))))))), (Nat.ne_of_lt (Nat.lt_trans c2 (Nat.lt_trans c3 (Nat.lt_trans c4 (Nat.lt_trans c5 (Nat.lt_trans c6 (Nat.lt_trans c7 (Nat.lt_trans c8 (Nat.lt_trans c9 (Nat.lt_trans c10 (Nat.lt_trans c11 (Nat.lt_trans c12 (Nat.lt_trans c13 (Nat.lt_trans c14 (Nat.lt_trans c15 c16))))))))))))))), (List.forall_mem_cons.mpr ⟨(Nat.ne_of_gt c3), (List.forall_mem_cons.mpr ⟨(Nat.ne_of_gt (Nat.lt_trans c3 (Nat.lt_trans c4 (Nat.lt_trans c5 (Nat.lt_trans c6 c7))))), (List.forall_mem_cons.mpr ⟨(Nat.ne_of_gt (Nat.lt_trans c3 (Nat.lt_trans c4 c5))), (List.forall_mem_cons.mpr ⟨(Nat.ne_of_gt (Nat.lt_trans c3 c4)), (List.forall_mem_cons.mpr ⟨(Nat.ne_of_gt (Nat.lt_trans c3 (Nat.lt_trans c4 (Nat.lt_trans c5 (Nat.lt_trans c6 (Nat.lt_trans c7 (Nat.lt_trans c8 c9))))))), (List.forall_mem_cons.mpr ⟨(Nat.ne_of_gt (Nat.lt_trans c3 (Nat.lt_trans c4 (Nat.lt_trans c5 (Nat.lt_trans c6 (Nat.lt_trans c7 c8)))))), (List.forall_mem_cons.mpr ⟨(Nat.ne_of_gt (Nat.lt_trans c3 (Nat.lt_trans c4 (Nat.lt_trans c5 (Nat.lt_trans c6 (Nat.lt_trans c7 (Nat.lt_trans c8 (Nat.lt_trans c9 c10)))))))), (List.forall_mem_cons.mpr ⟨(Nat.ne_of_lt (Nat.lt_trans c1 c2)), (List.forall_mem_cons.mpr ⟨(Nat.ne_of_gt (Nat.lt_trans c3 (Nat.lt_trans c4 (Nat.lt_trans c5 (Nat.lt_trans c6 (Nat.lt_trans c7 (Nat.lt_trans c8 (Nat.lt_trans c9 (Nat.lt_trans c10 (Nat.lt_trans c11 (Nat.lt_trans c12 c13))))))))))), (List.forall_mem_cons.mpr ⟨(Nat.ne_of_gt (Nat.lt_trans c3 (Nat.lt_trans c4 (Nat.lt_trans c5 (Nat.lt_trans c6 (Nat.lt_trans c7 (Nat.lt_trans c8 (Nat.lt_trans c9 (Nat.lt_trans c10 (Nat.lt_trans c11 c12)))))))))), (List.forall_mem_cons.mpr ⟨(Nat.ne_of_gt (Nat.lt_trans c3 (Nat.lt_trans c4 (Nat.lt_trans c5 (Nat.lt_trans c6 (Nat.lt_trans c7 (Nat.lt_trans c8 (Nat.lt_trans c9 (Nat.lt_trans c10 (Nat.lt_trans c11 (Nat.lt_trans c12 (Nat.lt_trans c13 (Nat.lt_trans c14 c15))))))))))))), (List.forall_mem_cons.mpr ⟨(Nat.ne_of_gt (Nat.lt_trans c3 (Nat.lt_trans c4 (Nat.lt_trans c5 (Nat.lt_trans c6 (Nat.lt_trans c7 (Nat.lt_trans c8 (Nat.lt_trans c9 (Nat.lt_trans c10 (Nat.lt_trans c11 (Nat.lt_trans c12 (Nat.lt_trans c13 c14)))))))))))), (List.forall_mem_cons.mpr ⟨(Nat.ne_of_lt (Nat.lt_trans c0 (Nat.lt_trans c1 c2))), (List.forall_mem_nil _)⟩)⟩)⟩)⟩)⟩)⟩)⟩)⟩)⟩)⟩)⟩)⟩)⟩), (List.forall_mem_cons.mpr ⟨(Nat.ne_of_lt (Nat.lt_trans c4 (Nat.lt_trans c5 c6))), (List.forall_mem_cons.mpr ⟨(Nat.ne_of_gt c7), (List.forall_mem_cons.mpr ⟨(Nat.ne_of_lt c6), (List.forall_mem_cons.mpr ⟨(Nat.ne_of_lt (Nat.lt_trans c5 c6)), (List.forall_mem_cons.mpr ⟨(Nat.ne_of_gt (Nat.lt_trans c7 (Nat.lt_trans c8 c9))), (List.forall_mem_cons.mpr ⟨(Nat.ne_of_gt (Nat.lt_trans c7 c8)), (List.forall_mem_cons.mpr ⟨(Nat.ne_of_gt (Nat.lt_trans c7 (Nat.lt_trans c8 (Nat.lt_trans c9 c10)))), (List.forall_mem_cons.mpr ⟨(Nat.ne_of_lt (Nat.lt_trans c1 (Nat.lt_trans c2 (Nat.lt_trans c3 (Nat.lt_trans c4 (Nat.lt_trans c5 c6)))))), (List.forall_mem_cons.mpr ⟨(Nat.ne_of_gt (Nat.lt_trans c7 (Nat.lt_trans c8 (Nat.lt_trans c9 (Nat.lt_trans c10 (Nat.lt_trans c11 (Nat.lt_trans c12 c13))))))), (List.forall_mem_cons.mpr ⟨(Nat.ne_of_gt (Nat.lt_trans c7 (Nat.lt_trans c8 (Nat.lt_trans c9 (Nat.lt_trans c10 (Nat.lt_trans c11 c12)))))), (List.forall_mem_cons.mpr ⟨(Nat.ne_of_gt (Nat.lt_trans c7 (Nat.lt_trans c8 (Nat.lt_trans c9 (Nat.lt_trans c10 (Nat.lt_trans c11 (Nat.lt_trans c12 (Nat.lt_trans c13 (Nat.lt_trans c14 c15))))))))), (List.forall_mem_cons.mpr ⟨(Nat.ne_of_gt (Nat.lt_trans c7 (Nat.lt_trans c8 (Nat.lt_trans c9 (Nat.lt_trans c10 (Nat.lt_trans c11 (Nat.lt_trans c12 (Nat.lt_trans c13 c14)))))))), (List.forall_mem_cons.mpr ⟨(Nat.ne_of_lt (Nat.lt_trans c0 (Nat.lt_trans c1 (Nat.lt_trans c2 (Nat.lt_trans c3 (Nat.lt_trans c4 (Nat.lt_trans c5 c6))))))), (List.forall_mem_nil _)⟩)⟩)⟩)⟩)⟩)⟩)⟩)⟩)⟩)⟩)⟩)⟩)⟩), (List.forall_mem_cons.mpr ⟨(Nat.ne_of_lt (Nat.lt_trans c4 (Nat.lt_trans c5 (Nat.lt_trans c6 (Nat.lt_trans c7 (Nat.lt_trans c8 (Nat.lt_trans c9 (Nat.lt_trans c10 c11)))))))), (List.forall_mem_cons.mpr ⟨(Nat.ne_of_lt (Nat.lt_trans c8 (Nat.lt_trans c9 (Nat.lt_trans c10 c11)))), (List.forall_mem_cons.mpr ⟨(Nat.ne_of_lt (Nat.lt_trans c6 (Nat.lt_trans c7 (Nat.lt_trans c8 (Nat.lt_trans c9 (Nat.lt_trans c10 c11)))))), (List.forall_mem_cons.mpr ⟨(Nat.ne_of_lt (Nat.lt_trans c5 (Nat.lt_trans c6 (Nat.lt_trans c7 (Nat.lt_trans c8 (Nat.lt_trans c9 (Nat.lt_trans c10 c11))))))), (List.forall_mem_cons.mpr ⟨(Nat.ne_of_lt (Nat.lt_trans c10 c11)), (List.forall_mem_cons.mpr ⟨(Nat.ne_of_lt (Nat.lt_trans c9 (Nat.lt_trans c10 c11))), (List.forall_mem_cons.mpr ⟨(Nat.ne_of_lt c11), (List.forall_mem_cons.mpr ⟨(Nat.ne_of_lt (Nat.lt_trans c1 (Nat.lt_trans c2 (Nat.lt_trans c3 (Nat.lt_trans c4 (Nat.lt_trans c5 (Nat.lt_trans c6 (Nat.lt_trans c7 (Nat.lt_trans c8 (Nat.lt_trans c9 (Nat.lt_trans c10 c11))))))))))), (List.forall_mem_cons.mpr ⟨(Nat.ne_of_gt (Nat.lt_trans c12 c13)), (List.forall_mem_cons.mpr ⟨(Nat.ne_of_gt c12), (List.forall_mem_cons.mpr ⟨(Nat.ne_of_gt (Nat.lt_trans c12 (Nat.lt_trans c13 (Nat.lt_trans c14 c15)))), (List.forall_mem_cons.mpr ⟨(Nat.ne_of_gt (Nat.lt_trans c12 (Nat.lt_trans c13 c14))), (List.forall_mem_cons.mpr ⟨(Nat.ne_of_lt (Nat.lt_trans c0 (Nat.lt_trans c1 (Nat.lt_trans c2 (Nat.lt_trans c3 (Nat.lt_trans c4 (Nat.lt_trans c5 (Nat.lt_trans c6 (Nat.lt_trans c7 (Nat.lt_trans c8 (Nat.lt_trans c9 (Nat.lt_trans c10 c11)))))))))))), (List.forall_mem_nil _)⟩)⟩)⟩)⟩)⟩)⟩)⟩)⟩)⟩)⟩)⟩)⟩)⟩), (List.forall_mem_cons.mpr ⟨(Nat.ne_of_lt (Nat.lt_trans c4 (Nat.lt_trans c5 (Nat.lt_trans c6 (Nat.lt_trans c7 (Nat.lt_trans c8 (Nat.lt_trans c9 (Nat.lt_trans c10 (Nat.lt_trans c11 (Nat.lt_trans c12 (Nat.lt_trans c13 (Nat.lt_trans c14 (Nat.lt_trans c15 c16))))))))))))), (List.forall_mem_cons.mpr ⟨(Nat.ne_of_lt (Nat.lt_trans c8 (Nat.lt_trans c9 (Nat.lt_trans c10 (Nat.lt_trans c11 (Nat.lt_trans c12 (Nat.lt_trans c13 (Nat.lt_trans c14 (Nat.lt_trans c15 c16))))))))), (List.forall_mem_cons.mpr ⟨(Nat.ne_of_lt (Nat.lt_trans c6 (Nat.lt_trans c7 (Nat.lt_trans c8 (Nat.lt_trans c9 (Nat.lt_trans c10 (Nat.lt_trans c11 (Nat.lt_trans c12 (Nat.lt_trans c13 (Nat.lt_trans c14 (Nat.lt_trans c15 c16))))))))))), (List.forall_mem_cons.mpr ⟨(Nat.ne_of_lt (Nat.lt_trans c5 (Nat.lt_trans c6 (Nat.lt_trans c7 (Nat.lt_trans c8 (Nat.lt_trans c9 (Nat.lt_trans c10 (Nat.lt_trans c11 (Nat.lt_trans c12 (Nat.lt_trans c13 (Nat.lt_trans c14 (Nat.lt_trans c15 c16)))))))))))), (List.forall_mem_cons.mpr ⟨(Nat.ne_of_lt (Nat.lt_trans c10 (Nat.lt_trans c11 (Nat.lt_trans c12 (Nat.lt_trans c13 (Nat.lt_trans c14 (Nat.lt_trans c15 c16))))))), (List.forall_mem_cons.mpr ⟨(Nat.ne_of_lt (Nat.lt_trans c9 (Nat.lt_trans c10 (Nat.lt_trans c11 (Nat.lt_trans c12 (Nat.lt_trans c13 (Nat.lt_trans c14 (Nat.lt_trans c15 c16)))))))), (List.forall_mem_cons.mpr ⟨(Nat.ne_of_lt (Nat.lt_trans c11 (Nat.lt_trans c12 (Nat.lt_trans c13 (Nat.lt_trans c14 (Nat.lt_trans c15 c16)))))), (List.forall_mem_cons.mpr ⟨(Nat.ne_of_lt (Nat.lt_trans c1 (Nat.lt_trans c2 (Nat.lt_trans c3 (Nat.lt_trans c4 (Nat.lt_trans c5 (Nat.lt_trans c6 (Nat.lt_trans c7 (Nat.lt_trans c8 (Nat.lt_trans c9 (Nat.lt_trans c10 (Nat.lt_trans c11 (Nat.lt_trans c12 (Nat.lt_trans c13 (Nat.lt_trans c14 (Nat.lt_trans c15 c16)))))))))))))))), (List.forall_mem_cons.mpr ⟨(Nat.ne_of_lt (Nat.lt_trans c14 (Nat.lt_trans c15 c16))), (List.forall_mem_cons.mpr ⟨(Nat.ne_of_lt (Nat.lt_trans c13 (Nat.lt_trans c14 (Nat.lt_trans c15 c16)))), (List.forall_mem_cons.mpr ⟨(Nat.ne_of_lt c16), (List.forall_mem_cons.mpr ⟨(Nat.ne_of_lt (Nat.lt_trans c15 c16)), (List.forall_mem_cons.mpr ⟨(Nat.ne_of_lt (Nat.lt_trans c0 (Nat.lt_trans c1 (Nat.lt_trans c2 (Nat.lt_trans c3 (Nat.lt_trans c4 (Nat.lt_trans c5 (Nat.lt_trans c6 (Nat.lt_trans c7 (Nat.lt_trans c8 (Nat.lt_trans c9 (Nat.lt_trans c10 (Nat.lt_trans c11 (Nat.lt_trans c12 (Nat.lt_trans c13 (Nat.lt_trans c14 (Nat.lt_trans c15 c16))))))))))))))))), (List.forall_mem_nil _)⟩)⟩)⟩)⟩)⟩)⟩)⟩)⟩)⟩)⟩)⟩)⟩)⟩), (List.forall_mem_cons.mpr ⟨(Nat.ne_of_gt (Nat.lt_trans c2 c3)), (List.forall_mem_cons.mpr ⟨(Nat.ne_of_gt (Nat.lt_trans c2 (Nat.lt_trans c3 (Nat.lt_trans c4 (Nat.lt_trans c5 (Nat.lt_trans c6 c7)))))), (List.forall_mem_cons.mpr ⟨(Nat.ne_of_gt (Nat.lt_trans c2 (Nat.lt_trans c3 (Nat.lt_trans c4 c5)))), (List.forall_mem_cons.mpr ⟨(Nat.ne_of_gt (Nat.lt_trans c2 (Nat.lt_trans c3 c4))), (List.forall_mem_cons.mpr ⟨(Nat.ne_of_gt (Nat.lt_trans c2 (Nat.lt_trans c3 (Nat.lt_trans c4 (Nat.lt_trans c5 (Nat.lt_trans c6 (Nat.lt_trans c7 (Nat.lt_trans c8 c9)))))))), (List.forall_mem_cons.mpr ⟨(Nat.ne_of_gt (Nat.lt_trans c2 (Nat.lt_trans c3 (Nat.lt_trans c4 (Nat.lt_trans c5 (Nat.lt_trans c6 (Nat.lt_trans c7 c8))))))), (List.forall_mem_cons.mpr ⟨(Nat.ne_of_gt (Nat.lt_trans c2 (Nat.lt_trans c3 (Nat.lt_trans c4 (Nat.lt_trans c5 (Nat.lt_trans c6 (Nat.lt_trans c7 (Nat.lt_trans c8 (Nat.lt_trans c9 c10))))))))), (List.forall_mem_cons.mpr ⟨(Nat.ne_of_lt c1), (List.forall_mem_cons.mpr ⟨(Nat.ne_of_gt (Nat.lt_trans c2 (Nat.lt_trans c3 (Nat.lt_trans c4 (Nat.lt_trans c5 (Nat.lt_trans c6 (Nat.lt_trans c7 (Nat.lt_trans c8 (Nat.lt_trans c9 (Nat.lt_trans c10 (Nat.lt_trans c11 (Nat.lt_trans c12 c13)))))))))))), (List.forall_mem_cons.mpr ⟨(Nat.ne_of_gt (Nat.lt_trans c2 (Nat.lt_trans c3 (Nat.lt_trans c4 (Nat.lt_trans c5 (Nat.lt_trans c6 (Nat.lt_trans c7 (Nat.lt_trans c8 (Nat.lt_trans c9 (Nat.lt_trans c10 (Nat.lt_trans c11 c12))))))))))), (List.forall_mem_cons.mpr ⟨(Nat.ne_of_gt (Nat.lt_trans c2 (Nat.lt_trans c3 (Nat.lt_trans c4 (Nat.lt_trans c5 (Nat.lt_trans c6 (Nat.lt_trans c7 (Nat.lt_trans c8 (Nat.lt_trans c9 (Nat.lt_trans c10 (Nat.lt_trans c11 (Nat.lt_trans c12 (Nat.lt_trans c13 (Nat.lt_trans c14 c15)))))))))))))), (List.forall_mem_cons.mpr ⟨(Nat.ne_of_gt (Nat.lt_trans c2 (Nat.lt_trans c3 (Nat.lt_trans c4 (Nat.lt_trans c5 (Nat.lt_trans c6 (Nat.lt_trans c7 (Nat.lt_trans c8 (Nat.lt_trans c9 (Nat.lt_trans c10 (Nat.lt_trans c11 (Nat.lt_trans c12 (Nat.lt_trans c13 c14))))))))))))), (List.forall_mem_cons.mpr ⟨(Nat.ne_of_lt (Nat.lt_trans c0 c1)), (List.forall_mem_nil _)⟩)⟩)⟩)⟩)⟩)⟩)⟩)⟩)⟩)⟩)⟩)⟩)⟩)⟩
  case N =>
    intro p hp
    rcases List.mem_cons.mp hp with rfl | hp
    · exact N _ q0
    rcases List.mem_cons.mp hp with rfl | hp
    · exact N _ q1
    rcases List.mem_cons.mp hp with rfl | hp
    · exact N _ q2
    rcases List.mem_cons.mp hp with rfl | hp
    · exact N _ q3
    rcases List.mem_cons.mp hp with rfl | hp
    · exact N _ q4
    rcases List.mem_cons.mp hp with rfl | hp
    · exact N _ q5
    rcases List.mem_cons.mp hp with rfl | hp
    · exact N _ q6
    rcases List.mem_cons.mp hp with rfl | hp
    · exact N _ q7
    rcases List.mem_cons.mp hp with rfl | hp
    · exact N _ q8
    rcases List.mem_cons.mp hp with rfl | hp
    · exact N _ q9
    rcases List.mem_cons.mp hp with rfl | hp
    · exact N _ q10
    rcases List.mem_cons.mp hp with rfl | hp
    · exact N _ q11
    rcases List.mem_cons.mp hp with rfl | hp
    · exact N _ q12
    rcases List.mem_cons.mp hp with rfl | hp
    · exact N _ q13
    rcases List.mem_cons.mp hp with rfl | hp
    · exact N _ q14
    rcases List.mem_cons.mp hp with rfl | hp
    · exact N _ q15
    rcases List.mem_cons.mp hp with rfl | hp
    · exact N _ q16
    rcases List.mem_cons.mp hp with rfl | hp
    · exact N _ q17
    cases hp
  case done =>
    intro m' nx' h' tk' oC' n fl tg nG' a0 a1 a2 hC' a4 a5 a6 a7 F' N'
    refine done m' h' tk' oC' n fl tg nG' hC' a5 (frSelf F' fun y => ?_) (fun p hp => ?_)
    · by_cases h1 : y = Str.ofString "gone"
      · rw [if_pos h1, h1, a6]
      rw [if_neg h1]
      by_cases h2 : y = Str.ofString "conn"
      · rw [if_pos h2, h2, a7]
      rw [if_neg h2]
    · rcases List.mem_cons.mp hp with rfl | hp
      · exact N' _ a4
      rcases List.mem_cons.mp hp with rfl | hp
      · exact N' _ a0
      rcases List.mem_cons.mp hp with rfl | hp
      · exact N' _ a1
      rcases List.mem_cons.mp hp with rfl | hp
      · exact N' _ a2
      cases hp
theorem forAt {prog : Program} {w : World} {A : Around} {s : Shared} {env : Env} {h₀ : Heap} {m : Str → Option Value} {E : Value → Shared → Prop} {Q : Flow → Shared → Prop} {x : Str} {px pos : Pos} {iter : PySem.Expr} {body : List Stmt} (_F : Fr h₀ env.locals s.heap m) (hx : env.kindOf x = some .local)
    (hp : (env.scope.kind == .class || (env.scope.kind == .module && env.locals != env.globals)) = false)
    (h : wpAny (model prog w) A (eval iter env) (fun xv s₁ => wpAny (model prog w) A (pyIter xv) (fun it s₂ => LoopAtV prog w A h₀ env x body Q E it s₂) E s₁) E s)
    (hs : ∀ x, foldedSetIterable iter env x = pure x) (hE : PassesOwn (model prog w) A env E) : wpAny (model prog w) A (exec (.For (.Name x px) iter body [] pos) env) Q E s := For_invV h₀ hx hp h hs hE
set_option maxRecDepth 100000 in
set_option maxHeartbeats 0 in
theorem lawGood {cl : Str → Option Addr} {mean : ExcName → Option Value} {l : List Int} {L : Addr} {m : Str → Option Value} {s₁ s' : Shared} {b : Bool} (F : Fr s₁.heap L s'.heap m) (hg : s'.gens = #[]) (ho : s'.os = s₁.os) (hb : b = true) :
    GoodW PySem.Challenge.rw_pf0273_01.row.claim cl mean [ofPy (PyData.list (List.map PyData.int l))] s₁ (.ok (.ret (.bool b))) s' := by
  subst hb
  refine goodW_bool F hg (raisesW_false ?_) ?_ ho
  · wrow_none_raised
  · first | (with_unfolding_all rfl) | wrow_post
end
theorem retTrue {Q : Flow → Shared → Prop} {s : Shared} {b : Bool} (e : b = true) (h : Q (.ret (.bool true)) s) : Q (.ret (.bool b)) s := by rw [e]; exact h
set_option maxRecDepth 100000 in
set_option maxHeartbeats 0 in
theorem lawEnd {w : World} {g : Heap} {L fa : Addr} {mg mb mean} {s : Shared} {Q : Flow → Shared → Prop} {E : Value → Shared → Prop} {m : Str → Option Value} {lG xC dC xP xS fW fC n nG : Nat} {oC oT : Obj} {fl : Bool} {tg : Nat → Tok}
  (T : Top topProg looseP mean mg mb g) (K0 : Below callerA g [] g) (CH : CodeHd g 432 430) (X : (kF w.params).In g)
  (hC : ConnO w.params oC xP xS fW fC (n : Int) fl) (hn : n ≤ 4)
  (F : Fr g L s.heap (fun y => if y = Str.ofString "gone" then some (Value.ref lG) else if y = Str.ofString "conn" then some (Value.ref xC) else m y))
  (N : News g L s.heap [(lG, listOf (gl tg n).toArray nG), (430, oT), (xC, instObj 410 dC), (dC, oC)])
  (h : ∀ h' tk' m', Fr g L h' m' → News g L h' [(430, oT)] → Q (.ret (.bool true)) { s with heap := h', toks := tk' }) :
  wpAny (MP w) (callerA.deeper (envOf (Str.ofString "law") lawScope L fa (Value.ref 432))) (execs (lawBody.drop 6) (envOf (Str.ofString "law") lawScope L fa (Value.ref 432))) Q E s := by
  revert X
  dsimp only [MP]
  k_fill
  intro X
  generalize hs : lawScope = sc
  conv at hs => lhs; whnf
  subst hs
  generalize hs : lawBody.drop 6 = sc
  conv at hs => lhs; whnf
  subst hs
  dsimp only [looseP] at T
  cases hC
  all_goals dsimp only [ent, connPre] at N
  all_goals repeat' (first | ((with_reducible refine' retTrue ?e (h _ _ _ ?F ?N)); (case F => assumption); (case N => exact News.subs (by assumption) (by lcg_sub)); (case e => first | exact decide_eq_true rfl | exact beq_self_eq_true _ | simp)) | 
    ((with_reducible show wpAny _ _ (PySem.call _ _) _ _ _); first
    | (k_here; (with_reducible show wpAny _ _ (PySem.call (Value.ref 243) [Value.str _ _, Value.str _ _, Value.bool _, Value.bool _]) _ _ _); k_dflt (refine' psN_ct ?F ?N ?T ?K0 ?X ?_; (case F => k_asm); (case N => k_asm); (case T => assumption); (case K0 => assumption); (case X => assumption); k_whole); intro xP dP oP xH dH oH lH lK nK la tk' h' lf1 lf2 lf3 lf4 lf5 lf6 hP' hH' F' N1' N2'; (have N' := newsJoin N1' N2'); clear N1' N2'; (have lf7 := ltTr lf2 lf1); (have lf8 := ltTr lf3 lf7); (have lf9 := ltTr lf4 lf8); (have lf10 := ltTr lf5 lf9); (have lf11 := ltTr lf6 lf10); (try simp only [List.cons_append, List.nil_append] at N'); (try k_sweep))
    | (k_here; (with_reducible show wpAny _ _ (PySem.call (Value.ref 410) [Value.str _ _]) _ _ _); k_dflt (refine' spN_ct ?F ?N ?T ?K0 ?X ?_; (case F => k_asm); (case N => k_asm); (case T => assumption); (case K0 => assumption); (case X => assumption); k_whole); intro xN dN oN tk' h' lf1 lf2 hO' F' N'; (have lf3 := ltTr lf2 lf1); cases hO'; dsimp only [ent] at N'; (try simp only [List.cons_append, List.nil_append] at N'); (try k_sweep))
    | (k_here; (with_reducible show wpAny _ _ (call (Value.builtin "len") [Value.ref _]) _ _ _); k_dflt (refine' kun_lenL ?k1 ?k2 ?k3 ?_; (case k1 => exact News.isList (by k_asm) (by k_mem)); (case k2 => first | exact gl_size1 _ _ | exact gl_size _ _); (case k3 => omega); k_whole))
    | (k_here; (with_reducible show wpAny _ _ (PySem.call (Value.ref 428) [Value.ref _, Value.int _ _]) _ _ _); k_dflt (refine' take_ct (oX := listOf #[] 0) ?T ?K0 ?F ?N ?hI ?U ?hdb ?hlen ?hk ?hk2 ?hm ?hm2 ?hne ?X ?_; (case T => assumption); (case K0 => assumption); (case F => k_asm); (case N => k_asm); (case hI => assumption); (case U => k_upd); (case hdb => k_mem); (case hlen => first | assumption | omega); (case hk => omega); (case hk2 => omega); (case hm => omega); (case hm2 => omega); (case hne => first | assumption | exact ltOf (by assumption) (by k_mem) | omega); (case X => assumption); k_whole); intro r' tr' tk' tb' h' hr0 hr1 F' HN'; (have N' := HN' _ (by k_upd)); clear HN'; (try k_sweep); (first | (refine split2 hr0 hr1 ?_ ?_ <;> (intro re'; subst re')) | (refine split3 hr0 hr1 ?_ ?_ ?_ <;> (intro re'; subst re')) | (refine splitN (n := n) hr0 hr1 (by omega) ?_ ?_ <;> (intro re'; first | subst re' | (obtain ⟨nl0, nl1⟩ := re'))) | skip))) | (k_unfold; (try dsimp only)) | (k_end; wrow_close) | walk1 | (dsimp only; walk1) | (leave1; walk_say "STEP leave1"; try dsimp only) | fail "no step")
set_option maxRecDepth 100000 in
set_option maxHeartbeats 0 in
theorem lawAll {w : World} {g : Heap} {L fa : Addr} {mg mb mean} {s : Shared} {Q : Flow → Shared → Prop} {E : Value → Shared → Prop} {a : Addr} {ws : List Value} {ns : List Int}
  (T : Top topProg looseP mean mg mb g) (K0 : Below callerA g [] g) (CH : CodeHd g 432 430) (X : (kF w.params).In g)
  (hI : IntsAre ws ns) (hlen : ns.length ≤ 63) (lifted : g.IsList a ws.toArray) (l0 : 430 < L) (hE : PassesOwn (MP w) (callerA.deeper (envOf (Str.ofString "law") lawScope L fa (Value.ref 432))) (envOf (Str.ofString "law") lawScope L fa (Value.ref 432)) E)
  (F : Fr g L s.heap (fun x => List.lookup x [(Str.ofString "script", Value.ref a)]))
  (N : News g L s.heap [(430, tabObj #[])])
  (h : ∀ h' tk' m' ps, Fr g L h' m' → News g L h' [(430, tabObj ps)] → Q (.ret (.bool true)) { s with heap := h', toks := tk' }) :
  wpAny (MP w) (callerA.deeper (envOf (Str.ofString "law") lawScope L fa (Value.ref 432))) (execs lawBody (envOf (Str.ofString "law") lawScope L fa (Value.ref 432))) Q E s := by
  revert X
  dsimp only [MP]
  k_fill
  intro X
  have LL := @lawEnter
  have LE := @lawEnd
  generalize hs : lawScope = sc at LL LE hE ⊢
  conv at hs => lhs; whnf
  subst hs
  generalize hs : lawBody.drop 6 = sc at LE
  conv at hs => lhs; whnf
  subst hs
  generalize hs : lawBody = sc
  conv at hs => lhs; whnf
  subst hs
  generalize hs : turnBody.drop 0 = sc at LL
  conv at hs => lhs; whnf
  subst hs
  generalize hs : lamOf 2 = sc at LL
  conv at hs => lhs; whnf
  subst hs
  generalize hs : lamOf 3 = sc at LL
  conv at hs => lhs; whnf
  subst hs
  dsimp only [looseP] at T
  repeat' ((fail_if_success (with_reducible show wpAny _ _ (exec (Stmt.For _ _ _ _ _) _) _ _ _)); (first | 
    ((with_reducible show wpAny _ _ (PySem.call _ _) _ _ _); first
    | (k_here; (with_reducible show wpAny _ _ (PySem.call (Value.ref 243) [Value.str _ _, Value.str _ _, Value.bool _, Value.bool _]) _ _ _); k_dflt (refine' psN_ct ?F ?N ?T ?K0 ?X ?_; (case F => k_asm); (case N => k_asm); (case T => assumption); (case K0 => assumption); (case X => assumption); k_whole); intro xP dP oP xH dH oH lH lK nK la tk' h' lf1 lf2 lf3 lf4 lf5 lf6 hP' hH' F' N1' N2'; (have N' := newsJoin N1' N2'); clear N1' N2'; (have lf7 := ltTr lf2 lf1); (have lf8 := ltTr lf3 lf7); (have lf9 := ltTr lf4 lf8); (have lf10 := ltTr lf5 lf9); (have lf11 := ltTr lf6 lf10); (try simp only [List.cons_append, List.nil_append] at N'); (try k_sweep))
    | (k_here; (with_reducible show wpAny _ _ (PySem.call (Value.ref 410) [Value.str _ _]) _ _ _); k_dflt (refine' spN_ct ?F ?N ?T ?K0 ?X ?_; (case F => k_asm); (case N => k_asm); (case T => assumption); (case K0 => assumption); (case X => assumption); k_whole); intro xN dN oN tk' h' lf1 lf2 hO' F' N'; (have lf3 := ltTr lf2 lf1); cases hO'; dsimp only [ent] at N'; (try simp only [List.cons_append, List.nil_append] at N'); (try k_sweep))
    | (k_here; (with_reducible show wpAny _ _ (call (Value.builtin "len") [Value.ref _]) _ _ _); k_dflt (refine' kun_lenL ?k1 ?k2 ?k3 ?_; (case k1 => exact News.isList (by k_asm) (by k_mem)); (case k2 => first | exact gl_size1 _ _ | exact gl_size _ _); (case k3 => omega); k_whole))
    | (k_here; (with_reducible show wpAny _ _ (PySem.call (Value.ref 428) [Value.ref _, Value.int _ _]) _ _ _); k_dflt (refine' take_ct (oX := listOf #[] 0) ?T ?K0 ?F ?N ?hI ?U ?hdb ?hlen ?hk ?hk2 ?hm ?hm2 ?hne ?X ?_; (case T => assumption); (case K0 => assumption); (case F => k_asm); (case N => k_asm); (case hI => assumption); (case U => k_upd); (case hdb => k_mem); (case hlen => first | assumption | omega); (case hk => omega); (case hk2 => omega); (case hm => omega); (case hm2 => omega); (case hne => first | assumption | exact ltOf (by assumption) (by k_mem) | omega); (case X => assumption); k_whole); intro r' tr' tk' tb' h' hr0 hr1 F' HN'; (have N' := HN' _ (by k_upd)); clear HN'; (try k_sweep); (first | (refine split2 hr0 hr1 ?_ ?_ <;> (intro re'; subst re')) | (refine split3 hr0 hr1 ?_ ?_ ?_ <;> (intro re'; subst re')) | (refine splitN (n := n) hr0 hr1 (by omega) ?_ ?_ <;> (intro re'; first | subst re' | (obtain ⟨nl0, nl1⟩ := re'))) | skip))) | (k_unfold; (try dsimp only)) | (k_end; wrow_close) | walk1 | (dsimp only; walk1) | (leave1; walk_say "STEP leave1"; try dsimp only) | fail "no step"))
  refine' forAt (by k_asm) ?hx ?hp ?h ?hs ?hE
  case hx => rfl
  case hp => rfl
  case hs => intro _; rfl
  case hE => exact hE
  case h =>
    repeat' ((fail_if_success (with_reducible show wpAny _ _ (PySem.call (Value.type "range") _) _ _ _)); (first | 
    ((with_reducible show wpAny _ _ (PySem.call _ _) _ _ _); first
    | (k_here; (with_reducible show wpAny _ _ (PySem.call (Value.ref 243) [Value.str _ _, Value.str _ _, Value.bool _, Value.bool _]) _ _ _); k_dflt (refine' psN_ct ?F ?N ?T ?K0 ?X ?_; (case F => k_asm); (case N => k_asm); (case T => assumption); (case K0 => assumption); (case X => assumption); k_whole); intro xP dP oP xH dH oH lH lK nK la tk' h' lf1 lf2 lf3 lf4 lf5 lf6 hP' hH' F' N1' N2'; (have N' := newsJoin N1' N2'); clear N1' N2'; (have lf7 := ltTr lf2 lf1); (have lf8 := ltTr lf3 lf7); (have lf9 := ltTr lf4 lf8); (have lf10 := ltTr lf5 lf9); (have lf11 := ltTr lf6 lf10); (try simp only [List.cons_append, List.nil_append] at N'); (try k_sweep))
    | (k_here; (with_reducible show wpAny _ _ (PySem.call (Value.ref 410) [Value.str _ _]) _ _ _); k_dflt (refine' spN_ct ?F ?N ?T ?K0 ?X ?_; (case F => k_asm); (case N => k_asm); (case T => assumption); (case K0 => assumption); (case X => assumption); k_whole); intro xN dN oN tk' h' lf1 lf2 hO' F' N'; (have lf3 := ltTr lf2 lf1); cases hO'; dsimp only [ent] at N'; (try simp only [List.cons_append, List.nil_append] at N'); (try k_sweep))
    | (k_here; (with_reducible show wpAny _ _ (call (Value.builtin "len") [Value.ref _]) _ _ _); k_dflt (refine' kun_lenL ?k1 ?k2 ?k3 ?_; (case k1 => exact News.isList (by k_asm) (by k_mem)); (case k2 => first | exact gl_size1 _ _ | exact gl_size _ _); (case k3 => omega); k_whole))
    | (k_here; (with_reducible show wpAny _ _ (PySem.call (Value.ref 428) [Value.ref _, Value.int _ _]) _ _ _); k_dflt (refine' take_ct (oX := listOf #[] 0) ?T ?K0 ?F ?N ?hI ?U ?hdb ?hlen ?hk ?hk2 ?hm ?hm2 ?hne ?X ?_; (case T => assumption); (case K0 => assumption); (case F => k_asm); (case N => k_asm); (case hI => assumption); (case U => k_upd); (case hdb => k_mem); (case hlen => first | assumption | omega); (case hk => omega); (case hk2 => omega); (case hm => omega); (case hm2 => omega); (case hne => first | assumption | exact ltOf (by assumption) (by k_mem) | omega); (case X => assumption); k_whole); intro r' tr' tk' tb' h' hr0 hr1 F' HN'; (have N' := HN' _ (by k_upd)); clear HN'; (try k_sweep); (first | (refine split2 hr0 hr1 ?_ ?_ <;> (intro re'; subst re')) | (refine split3 hr0 hr1 ?_ ?_ ?_ <;> (intro re'; subst re')) | (refine splitN (n := n) hr0 hr1 (by omega) ?_ ?_ <;> (intro re'; first | subst re' | (obtain ⟨nl0, nl1⟩ := re'))) | skip))) | (k_unfold; (try dsimp only)) | (k_end; wrow_close) | walk1 | (dsimp only; walk1) | (leave1; walk_say "STEP leave1"; try dsimp only) | fail "no step"))
    (rename Fr _ _ _ _ => F1); (rename News _ _ _ _ => N1)
    (with_unfolding_all refine range1_rows F1 N1 ?_)
    intro h2 tk2 t2 u2 v2 hr2 F2 N2 keep2
    refine' LL (pT := 430) ?T ?K0 ?CH ?X ?F ?N ?e2 ?e3 ?e4 ?e5 ?e6 ?e7 ?q0 ?q1 ?q2 ?q3 ?q4 ?q5 ?q6 ?q7 ?q8 ?q9 ?q10 ?q11 ?q12 ?q13 ?q14 ?q15 ?q16 ?q17 ?hC ?hP ?hS ?hH ?d1 ?d2 ?d3 ?d4 ?hI ?hlen ?hh ?hk ?c0 ?c1 ?c2 ?c3 ?c4 ?c5 ?c6 ?c7 ?c8 ?c9 ?c10 ?c11 ?c12 ?c13 ?c14 ?c15 ?c16 ?hr ?hb1 ?hb2 ?done
    case T => assumption
    case K0 => assumption
    case CH => assumption
    case X => assumption
    case F => exact F2
    case N => exact N2
    case hr => exact hr2
    case e5 => rfl
    case e6 => rfl
    case e7 => rfl
    case e2 => rfl
    case e3 => rfl
    case e4 => rfl
    case q3 => k_mem
    case q4 => k_mem
    case q5 => k_mem
    case q0 => k_mem
    case hC => exact ConnO.zero ..
    case q6 => k_mem
    case q1 => k_mem
    case hP => first | assumption | exact PathsO.mk ..
    case q2 => k_mem
    case q9 => k_mem
    case q10 => k_mem
    case hH => first | assumption | exact PathO.mk ..
    case q11 => k_mem
    case q7 => k_mem
    case q8 => k_mem
    case hS => exact ShakeO.mk ..
    case hI => assumption
    case q12 => k_mem
    case q13 => k_mem
    case q14 => k_mem
    case q15 => k_mem
    case q16 => k_mem
    case q17 => k_mem
    case d1 => assumption
    case d2 => assumption
    case d3 => assumption
    case d4 => assumption
    case hlen => omega
    case hh => decide
    case hk => exact ⟨by decide, by decide⟩
    case hb1 => omega
    case hb2 => omega
    case c0 => first | assumption | exact ltOf (by assumption) (by k_mem) | exact ltOf (ltTr (by assumption) (by assumption)) (by k_mem) | omega
    case c1 => first | assumption | exact ltOf (by assumption) (by k_mem) | exact ltOf (ltTr (by assumption) (by assumption)) (by k_mem) | omega
    case c2 => first | assumption | exact ltOf (by assumption) (by k_mem) | exact ltOf (ltTr (by assumption) (by assumption)) (by k_mem) | omega
    case c3 => first | assumption | exact ltOf (by assumption) (by k_mem) | exact ltOf (ltTr (by assumption) (by assumption)) (by k_mem) | omega
    case c4 => first | assumption | exact ltOf (by assumption) (by k_mem) | exact ltOf (ltTr (by assumption) (by assumption)) (by k_mem) | omega
    case c5 => first | assumption | exact ltOf (by assumption) (by k_mem) | exact ltOf (ltTr (by assumption) (by assumption)) (by k_mem) | omega
    case c6 => first | assumption | exact ltOf (by assumption) (by k_mem) | exact ltOf (ltTr (by assumption) (by assumption)) (by k_mem) | omega
    case c7 => first | assumption | exact ltOf (by assumption) (by k_mem) | exact ltOf (ltTr (by assumption) (by assumption)) (by k_mem) | omega
    case c8 => first | assumption | exact ltOf (by assumption) (by k_mem) | exact ltOf (ltTr (by assumption) (by assumption)) (by k_mem) | omega
    case c9 => first | assumption | exact ltOf (by assumption) (by k_mem) | exact ltOf (ltTr (by assumption) (by assumption)) (by k_mem) | omega
    case c10 => first | assumption | exact ltOf (by assumption) (by k_mem) | exact ltOf (ltTr (by assumption) (by assumption)) (by k_mem) | omega
    case c11 => first | assumption | exact ltOf (by assumption) (by k_mem) | exact ltOf (ltTr (by assumption) (by assumption)) (by k_mem) | omega
    case c12 => first | assumption | exact ltOf (by assumption) (by k_mem) | exact ltOf (ltTr (by assumption) (by assumption)) (by k_mem) | omega
    case c13 => first | assumption | exact ltOf (by assumption) (by k_mem) | exact ltOf (ltTr (by assumption) (by assumption)) (by k_mem) | omega
    case c14 => first | assumption | exact ltOf (by assumption) (by k_mem) | exact ltOf (ltTr (by assumption) (by assumption)) (by k_mem) | omega
    case c15 => first | assumption | exact ltOf (by assumption) (by k_mem) | exact ltOf (ltTr (by assumption) (by assumption)) (by k_mem) | omega
    case c16 => first | assumption | exact ltOf (by assumption) (by k_mem) | exact ltOf (ltTr (by assumption) (by assumption)) (by k_mem) | omega
    case done =>
      intro m' h' tk' oC' n fl tg nG' hC' a5 F' N'
      refine' LE T K0 CH X hC' a5 F' N' ?_
      intro h3 tk3 m3 F3 N3
      exact h _ _ _ _ F3 N3
end
end Mine
set_option maxRecDepth 100000 in
set_option maxHeartbeats 8000000 in
theorem PySem.Challenge.cw_pf0273_01_holds : PySem.Challenge.rw_pf0273_01.Holds := by
  w_on
  refine holds_law Mine.said fun said => ?_
  refine holds_open (q := Mine.qV) (loose := []) (Xt := Mine.xt) (XP := XL Mine.qV []) (Yf := Hook.obs Mine.kHk) (Ya := Hook.val Mine.kHk) (YP := Hook.says Mine.kHk) (N := 5308) Mine.left (Hook.of Mine.kHk) (Hook.keeps Mine.kHk) (fun s e => xl_of s (Bool.and_eq_true_iff.mp e).1) XL.keeps (by rfl) (by rfl) (by rfl) (fun s e => recFacts_of (Bool.and_eq_true_iff.mp e).2) (by rfl) (by first | assumption | decide +kernel) (by decide +kernel) ⟨rfl, rfl, rfl, rfl, rfl, by decide +kernel⟩ ?hw ?hc
  case hw => w_witness2
  case hc =>
    k_go0
    (all_goals try k_fold)
    have LL := @Mine.lawAll
    generalize hs : Mine.lawScope = sc at LL
    conv at hs => lhs; whnf
    subst hs
    generalize hs : Mine.lawBody = sc at LL
    conv at hs => lhs; whnf
    subst hs
    (rename (Fr _ _ _ _) => F1); (rename (News _ _ _ _) => N1); (rename (CodeHd _ _ _) => CH); (rename (Below _ _ _ _) => K1); (rename (Frag.In _ _) => X1); (rename (IntsAre _ _) => I1); (rename (_ = #[]) => G1)
    refine' LL (by assumption) K1 CH X1 I1 ?hl (by assumption) (by assumption) ?hE F1 N1 ?h
    case hl => omega
    case hE => passes_own
    case h =>
      intro h' tk' m' ps F' N'
      refine ⟨?_, ?_⟩
      · exact Mine.lawGood F' G1 rfl rfl
      · walk_at "GrownAll"
