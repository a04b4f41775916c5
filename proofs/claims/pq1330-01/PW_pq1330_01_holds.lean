import PyProof.Rows.All
import Wide.All
import OpenK.AllK
import Wide.FinOn
import PySem.Challenge.RW_pq1330_01
set_option Elab.async false
set_option maxRecDepth 100000
set_option maxHeartbeats 20000000
namespace Mine
section
open PySem PySem.W PyProof.Rows
noncomputable def packQ : {q : Program // PySem.Challenge.pw_pq1330_01 = q} := by
  apply Subtype.mk
  conv => lhs; reduce
noncomputable def pQ : Program := packQ.1
theorem pQ_eq : PySem.Challenge.pw_pq1330_01 = pQ := packQ.2
theorem opensQ : opensWell pQ = true := by kernel_rfl
theorem opens0 : opensWell PySem.Challenge.pw_pq1330_01 = true := by
  rw [pQ_eq]; exact opensQ
def nth {α : Type} : List α → Nat → Option α
  | [], _ => none
  | a :: _, 0 => some a
  | _ :: l, n + 1 => nth l n
def stm (p : Program) (i : Nat) : Stmt := match nth p.main.body i with | some s => s | none => .Pass default
def sub (s : Stmt) (j : Nat) : Stmt := match s with
  | .ClassDef _ _ _ b _ _ _ _ _ _ _ => (match nth b j with | some s => s | none => .Pass default)
  | _ => .Pass default
def fd (s : Stmt) (name qual : Str) (globals : Addr) (dV kV doc pm : Value) (an : Option Addr) (cd ct : Value) (bl : Addr) : Data := match s with
  | .FunctionDef _ args body _ _ _ scope _ _ _ => .func { name, qualname := qual, params := args, body := .stmts body, scope, globals, closure := [], defaults := dV, kwdefaults := kV, doc, pyModule := pm, annotations := an, code := cd, closureTuple := ct, builtins := bl }
  | _ => .plain
@[reducible] noncomputable def en (P : Params) (s : Str) (t : Tok) (v : Value) : DictEntry := ⟨PyData.keyHash P s, .str s t, v⟩
def takeN {α : Type} : Nat → List α → List α
  | 0, _ => []
  | _ + 1, [] => []
  | n + 1, a :: l => a :: takeN n l
def dropN {α : Type} : Nat → List α → List α
  | 0, l => l
  | _ + 1, [] => []
  | n + 1, _ :: l => dropN n l
def stms (p : Program) (a c : Nat) : List Stmt := takeN c (dropN a (behindTheImports p))
def envH (p : Program) : Env := { scope := p.main.scope, locals := mainNs, globals := mainNs, cells := [], code := .ref 13, frame := some 14 }
def cdH (p : Program) : Code := .body (behindTheImports p) (envH p)
def pos0 : Pos := ⟨0, 0, 0, 0⟩
noncomputable def o11_B (p : Program) (P : Params) : Obj := ⟨(.type "tuple"), none, (.seq (List.toArray []) 0), List.toArray []⟩
noncomputable def o12_B (p : Program) (P : Params) : Obj := ⟨.none, none, (.fields (List.toArray [])), List.toArray []⟩
noncomputable def o13_B (p : Program) (P : Params) : Obj := ⟨(.type "code"), none, (.fields (List.toArray [(.str (Str.ofString "<module>") 182), (.str (Str.ofString "<module>") 183), (.str (Str.ofString "/claim/cut.py") 184), (.int (1) 0), (.int (0) 0), (.int (0) 0), (.int (0) 0), (.int (0) 0), (.ref 11), (.bool false), (.int (181) 0), (.ref 12), .none, .none, .none, .none, (.int (185) 0), (.int (1) 0), (.str (Str.ofString "/claim/cut.py") 186)])), List.toArray []⟩
noncomputable def o14_B (p : Program) (P : Params) : Obj := ⟨(.type "frame"), none, .plain, List.toArray [(some (.ref 13)), (some (.ref 3)), (some (.ref 3)), none, (some (.str (Str.ofString "__main__") 164)), none, (some (.ref 0))]⟩
noncomputable def o3_17 (p : Program) (P : Params) : Obj := ⟨(.type "dict"), none, (.dict (List.toArray [en P (Str.ofString "__name__") 165 (.str (Str.ofString "vectorcove.numtext") 278), en P (Str.ofString "__doc__") 166 .none, en P (Str.ofString "__package__") 167 .none, en P (Str.ofString "__loader__") 168 (.builtin "__main__.__loader__#opaque"), en P (Str.ofString "__spec__") 169 .none, en P (Str.ofString "__annotations__") 170 (.ref 6), en P (Str.ofString "__builtins__") 171 (.ref 4), en P (Str.ofString "__file__") 173 (.str (Str.ofString "/claim/cut.py") 172), en P (Str.ofString "__cached__") 174 .none, en P (Str.ofString "_wall") 193 (.ref 21), en P (Str.ofString "NAN") 198 (.ref 22), en P (Str.ofString "INF") 201 (.ref 23), en P (Str.ofString "ZERO") 204 (.ref 24), en P (Str.ofString "gcd") 212 (.ref 31), en P (Str.ofString "make") 221 (.ref 38), en P (Str.ofString "from_int") 228 (.ref 45), en P (Str.ofString "is_na") 235 (.ref 52), en P (Str.ofString "is_finite") 242 (.ref 59), en P (Str.ofString "neg") 249 (.ref 66), en P (Str.ofString "to_whole") 257 (.ref 73), en P (Str.ofString "nearest_whole") 267 (.ref 80), en P (Str.ofString "exponent") 277 (.ref 87), en P (Str.ofString "MOST_EXPONENT") 281 (.int (4096) 280), en P (Str.ofString "whole_text") 291 (.ref 94)]) 24), List.toArray []⟩
noncomputable def o12_17 (p : Program) (P : Params) : Obj := ⟨.none, none, (.fields (List.toArray [(.int (1) 0), (.int (0) 0), (.ref 20), (.int (8) 0), (.int (0) 0), (.ref 30), (.int (12) 0), (.int (0) 0), (.ref 37), (.int (22) 0), (.int (0) 0), (.ref 44), (.int (26) 0), (.int (0) 0), (.ref 51), (.int (28) 0), (.int (0) 0), (.ref 58), (.int (30) 0), (.int (0) 0), (.ref 65), (.int (34) 0), (.int (0) 0), (.ref 72), (.int (39) 0), (.int (0) 0), (.ref 79), (.int (45) 0), (.int (0) 0), (.ref 86), (.int (58) 0), (.int (0) 0), (.ref 93)])), List.toArray []⟩
noncomputable def o15_17 (p : Program) (P : Params) : Obj := ⟨(.type "tuple"), none, (.seq (List.toArray []) 0), List.toArray []⟩
noncomputable def o16_17 (p : Program) (P : Params) : Obj := ⟨.none, none, (.fields (List.toArray [])), List.toArray []⟩
noncomputable def o17_17 (p : Program) (P : Params) : Obj := ⟨(.type "tuple"), none, (.seq (List.toArray [(.str (Str.ofString "k") 190)]) 0), List.toArray []⟩
noncomputable def o18_17 (p : Program) (P : Params) : Obj := ⟨(.type "tuple"), none, (.seq (List.toArray []) 0), List.toArray []⟩
noncomputable def o19_17 (p : Program) (P : Params) : Obj := ⟨.none, none, (fd (stm p 0) (Str.ofString "_wall") (Str.ofString "_wall") 0 .none .none .none .none none .none .none 0 ), List.toArray []⟩
noncomputable def o20_17 (p : Program) (P : Params) : Obj := ⟨(.type "code"), none, (.fields (List.toArray [(.str (Str.ofString "_wall") 187), (.str (Str.ofString "_wall") 188), (.str (Str.ofString "/claim/cut.py") 189), (.int (1) 0), (.int (1) 0), (.int (0) 0), (.int (0) 0), (.int (3) 0), (.ref 15), (.bool true), (.int (181) 0), (.ref 16), .none, (.ref 17), (.ref 18), (.ref 19), (.int (191) 0), (.int (1) 0), (.str (Str.ofString "/claim/cut.py") 192)])), List.toArray []⟩
noncomputable def o21_17 (p : Program) (P : Params) : Obj := ⟨(.type "function"), none, (fd (stm p 0) (Str.ofString "_wall") (Str.ofString "_wall") 3 .none .none .none (.str (Str.ofString "__main__") 164) none (.ref 20) .none 0 ), List.toArray []⟩
noncomputable def o22_17 (p : Program) (P : Params) : Obj := ⟨(.type "tuple"), none, (.seq (List.toArray [(.int (0) 196), (.int (0) 197)]) 0), List.toArray []⟩
noncomputable def o23_17 (p : Program) (P : Params) : Obj := ⟨(.type "tuple"), none, (.seq (List.toArray [(.int (1) 199), (.int (0) 200)]) 0), List.toArray []⟩
noncomputable def o24_17 (p : Program) (P : Params) : Obj := ⟨(.type "tuple"), none, (.seq (List.toArray [(.int (0) 202), (.int (1) 203)]) 0), List.toArray []⟩
noncomputable def o25_17 (p : Program) (P : Params) : Obj := ⟨(.type "tuple"), none, (.seq (List.toArray []) 0), List.toArray []⟩
noncomputable def o26_17 (p : Program) (P : Params) : Obj := ⟨.none, none, (.fields (List.toArray [])), List.toArray []⟩
noncomputable def o27_17 (p : Program) (P : Params) : Obj := ⟨(.type "tuple"), none, (.seq (List.toArray [(.str (Str.ofString "a") 208), (.str (Str.ofString "b") 209)]) 0), List.toArray []⟩
noncomputable def o28_17 (p : Program) (P : Params) : Obj := ⟨(.type "tuple"), none, (.seq (List.toArray []) 0), List.toArray []⟩
noncomputable def o29_17 (p : Program) (P : Params) : Obj := ⟨.none, none, (fd (stm p 5) (Str.ofString "gcd") (Str.ofString "gcd") 0 .none .none .none .none none .none .none 0 ), List.toArray []⟩
noncomputable def o30_17 (p : Program) (P : Params) : Obj := ⟨(.type "code"), none, (.fields (List.toArray [(.str (Str.ofString "gcd") 205), (.str (Str.ofString "gcd") 206), (.str (Str.ofString "/claim/cut.py") 207), (.int (8) 0), (.int (2) 0), (.int (0) 0), (.int (0) 0), (.int (3) 0), (.ref 25), (.bool true), (.int (181) 0), (.ref 26), .none, (.ref 27), (.ref 28), (.ref 29), (.int (210) 0), (.int (8) 0), (.str (Str.ofString "/claim/cut.py") 211)])), List.toArray []⟩
noncomputable def o31_17 (p : Program) (P : Params) : Obj := ⟨(.type "function"), none, (fd (stm p 5) (Str.ofString "gcd") (Str.ofString "gcd") 3 .none .none .none (.str (Str.ofString "vectorcove.rational") 194) none (.ref 30) .none 0 ), List.toArray []⟩
noncomputable def o32_17 (p : Program) (P : Params) : Obj := ⟨(.type "tuple"), none, (.seq (List.toArray []) 0), List.toArray []⟩
noncomputable def o33_17 (p : Program) (P : Params) : Obj := ⟨.none, none, (.fields (List.toArray [])), List.toArray []⟩
noncomputable def o34_17 (p : Program) (P : Params) : Obj := ⟨(.type "tuple"), none, (.seq (List.toArray [(.str (Str.ofString "n") 216), (.str (Str.ofString "d") 217), (.str (Str.ofString "common") 218)]) 0), List.toArray []⟩
noncomputable def o35_17 (p : Program) (P : Params) : Obj := ⟨(.type "tuple"), none, (.seq (List.toArray []) 0), List.toArray []⟩
noncomputable def o36_17 (p : Program) (P : Params) : Obj := ⟨.none, none, (fd (stm p 6) (Str.ofString "make") (Str.ofString "make") 0 .none .none .none .none none .none .none 0 ), List.toArray []⟩
noncomputable def o37_17 (p : Program) (P : Params) : Obj := ⟨(.type "code"), none, (.fields (List.toArray [(.str (Str.ofString "make") 213), (.str (Str.ofString "make") 214), (.str (Str.ofString "/claim/cut.py") 215), (.int (12) 0), (.int (2) 0), (.int (0) 0), (.int (0) 0), (.int (3) 0), (.ref 32), (.bool true), (.int (181) 0), (.ref 33), .none, (.ref 34), (.ref 35), (.ref 36), (.int (219) 0), (.int (12) 0), (.str (Str.ofString "/claim/cut.py") 220)])), List.toArray []⟩
noncomputable def o38_17 (p : Program) (P : Params) : Obj := ⟨(.type "function"), none, (fd (stm p 6) (Str.ofString "make") (Str.ofString "make") 3 .none .none .none (.str (Str.ofString "vectorcove.rational") 194) none (.ref 37) .none 0 ), List.toArray []⟩
noncomputable def o39_17 (p : Program) (P : Params) : Obj := ⟨(.type "tuple"), none, (.seq (List.toArray []) 0), List.toArray []⟩
noncomputable def o40_17 (p : Program) (P : Params) : Obj := ⟨.none, none, (.fields (List.toArray [])), List.toArray []⟩
noncomputable def o41_17 (p : Program) (P : Params) : Obj := ⟨(.type "tuple"), none, (.seq (List.toArray [(.str (Str.ofString "n") 225)]) 0), List.toArray []⟩
noncomputable def o42_17 (p : Program) (P : Params) : Obj := ⟨(.type "tuple"), none, (.seq (List.toArray []) 0), List.toArray []⟩
noncomputable def o43_17 (p : Program) (P : Params) : Obj := ⟨.none, none, (fd (stm p 7) (Str.ofString "from_int") (Str.ofString "from_int") 0 .none .none .none .none none .none .none 0 ), List.toArray []⟩
noncomputable def o44_17 (p : Program) (P : Params) : Obj := ⟨(.type "code"), none, (.fields (List.toArray [(.str (Str.ofString "from_int") 222), (.str (Str.ofString "from_int") 223), (.str (Str.ofString "/claim/cut.py") 224), (.int (22) 0), (.int (1) 0), (.int (0) 0), (.int (0) 0), (.int (3) 0), (.ref 39), (.bool true), (.int (181) 0), (.ref 40), .none, (.ref 41), (.ref 42), (.ref 43), (.int (226) 0), (.int (22) 0), (.str (Str.ofString "/claim/cut.py") 227)])), List.toArray []⟩
noncomputable def o45_17 (p : Program) (P : Params) : Obj := ⟨(.type "function"), none, (fd (stm p 7) (Str.ofString "from_int") (Str.ofString "from_int") 3 .none .none .none (.str (Str.ofString "vectorcove.rational") 194) none (.ref 44) .none 0 ), List.toArray []⟩
noncomputable def o46_17 (p : Program) (P : Params) : Obj := ⟨(.type "tuple"), none, (.seq (List.toArray []) 0), List.toArray []⟩
noncomputable def o47_17 (p : Program) (P : Params) : Obj := ⟨.none, none, (.fields (List.toArray [])), List.toArray []⟩
noncomputable def o48_17 (p : Program) (P : Params) : Obj := ⟨(.type "tuple"), none, (.seq (List.toArray [(.str (Str.ofString "x") 232)]) 0), List.toArray []⟩
noncomputable def o49_17 (p : Program) (P : Params) : Obj := ⟨(.type "tuple"), none, (.seq (List.toArray []) 0), List.toArray []⟩
noncomputable def o50_17 (p : Program) (P : Params) : Obj := ⟨.none, none, (fd (stm p 8) (Str.ofString "is_na") (Str.ofString "is_na") 0 .none .none .none .none none .none .none 0 ), List.toArray []⟩
noncomputable def o51_17 (p : Program) (P : Params) : Obj := ⟨(.type "code"), none, (.fields (List.toArray [(.str (Str.ofString "is_na") 229), (.str (Str.ofString "is_na") 230), (.str (Str.ofString "/claim/cut.py") 231), (.int (26) 0), (.int (1) 0), (.int (0) 0), (.int (0) 0), (.int (3) 0), (.ref 46), (.bool true), (.int (181) 0), (.ref 47), .none, (.ref 48), (.ref 49), (.ref 50), (.int (233) 0), (.int (26) 0), (.str (Str.ofString "/claim/cut.py") 234)])), List.toArray []⟩
noncomputable def o52_17 (p : Program) (P : Params) : Obj := ⟨(.type "function"), none, (fd (stm p 8) (Str.ofString "is_na") (Str.ofString "is_na") 3 .none .none .none (.str (Str.ofString "vectorcove.rational") 194) none (.ref 51) .none 0 ), List.toArray []⟩
noncomputable def o53_17 (p : Program) (P : Params) : Obj := ⟨(.type "tuple"), none, (.seq (List.toArray []) 0), List.toArray []⟩
noncomputable def o54_17 (p : Program) (P : Params) : Obj := ⟨.none, none, (.fields (List.toArray [])), List.toArray []⟩
noncomputable def o55_17 (p : Program) (P : Params) : Obj := ⟨(.type "tuple"), none, (.seq (List.toArray [(.str (Str.ofString "x") 239)]) 0), List.toArray []⟩
noncomputable def o56_17 (p : Program) (P : Params) : Obj := ⟨(.type "tuple"), none, (.seq (List.toArray []) 0), List.toArray []⟩
noncomputable def o57_17 (p : Program) (P : Params) : Obj := ⟨.none, none, (fd (stm p 9) (Str.ofString "is_finite") (Str.ofString "is_finite") 0 .none .none .none .none none .none .none 0 ), List.toArray []⟩
noncomputable def o58_17 (p : Program) (P : Params) : Obj := ⟨(.type "code"), none, (.fields (List.toArray [(.str (Str.ofString "is_finite") 236), (.str (Str.ofString "is_finite") 237), (.str (Str.ofString "/claim/cut.py") 238), (.int (28) 0), (.int (1) 0), (.int (0) 0), (.int (0) 0), (.int (3) 0), (.ref 53), (.bool true), (.int (181) 0), (.ref 54), .none, (.ref 55), (.ref 56), (.ref 57), (.int (240) 0), (.int (28) 0), (.str (Str.ofString "/claim/cut.py") 241)])), List.toArray []⟩
noncomputable def o59_17 (p : Program) (P : Params) : Obj := ⟨(.type "function"), none, (fd (stm p 9) (Str.ofString "is_finite") (Str.ofString "is_finite") 3 .none .none .none (.str (Str.ofString "vectorcove.rational") 194) none (.ref 58) .none 0 ), List.toArray []⟩
noncomputable def o60_17 (p : Program) (P : Params) : Obj := ⟨(.type "tuple"), none, (.seq (List.toArray []) 0), List.toArray []⟩
noncomputable def o61_17 (p : Program) (P : Params) : Obj := ⟨.none, none, (.fields (List.toArray [])), List.toArray []⟩
noncomputable def o62_17 (p : Program) (P : Params) : Obj := ⟨(.type "tuple"), none, (.seq (List.toArray [(.str (Str.ofString "x") 246)]) 0), List.toArray []⟩
noncomputable def o63_17 (p : Program) (P : Params) : Obj := ⟨(.type "tuple"), none, (.seq (List.toArray []) 0), List.toArray []⟩
noncomputable def o64_17 (p : Program) (P : Params) : Obj := ⟨.none, none, (fd (stm p 10) (Str.ofString "neg") (Str.ofString "neg") 0 .none .none .none .none none .none .none 0 ), List.toArray []⟩
noncomputable def o65_17 (p : Program) (P : Params) : Obj := ⟨(.type "code"), none, (.fields (List.toArray [(.str (Str.ofString "neg") 243), (.str (Str.ofString "neg") 244), (.str (Str.ofString "/claim/cut.py") 245), (.int (30) 0), (.int (1) 0), (.int (0) 0), (.int (0) 0), (.int (3) 0), (.ref 60), (.bool true), (.int (181) 0), (.ref 61), .none, (.ref 62), (.ref 63), (.ref 64), (.int (247) 0), (.int (30) 0), (.str (Str.ofString "/claim/cut.py") 248)])), List.toArray []⟩
noncomputable def o66_17 (p : Program) (P : Params) : Obj := ⟨(.type "function"), none, (fd (stm p 10) (Str.ofString "neg") (Str.ofString "neg") 3 .none .none .none (.str (Str.ofString "vectorcove.rational") 194) none (.ref 65) .none 0 ), List.toArray []⟩
noncomputable def o67_17 (p : Program) (P : Params) : Obj := ⟨(.type "tuple"), none, (.seq (List.toArray []) 0), List.toArray []⟩
noncomputable def o68_17 (p : Program) (P : Params) : Obj := ⟨.none, none, (.fields (List.toArray [])), List.toArray []⟩
noncomputable def o69_17 (p : Program) (P : Params) : Obj := ⟨(.type "tuple"), none, (.seq (List.toArray [(.str (Str.ofString "x") 253), (.str (Str.ofString "found") 254)]) 0), List.toArray []⟩
noncomputable def o70_17 (p : Program) (P : Params) : Obj := ⟨(.type "tuple"), none, (.seq (List.toArray []) 0), List.toArray []⟩
noncomputable def o71_17 (p : Program) (P : Params) : Obj := ⟨.none, none, (fd (stm p 11) (Str.ofString "to_whole") (Str.ofString "to_whole") 0 .none .none .none .none none .none .none 0 ), List.toArray []⟩
noncomputable def o72_17 (p : Program) (P : Params) : Obj := ⟨(.type "code"), none, (.fields (List.toArray [(.str (Str.ofString "to_whole") 250), (.str (Str.ofString "to_whole") 251), (.str (Str.ofString "/claim/cut.py") 252), (.int (34) 0), (.int (1) 0), (.int (0) 0), (.int (0) 0), (.int (3) 0), (.ref 67), (.bool true), (.int (181) 0), (.ref 68), .none, (.ref 69), (.ref 70), (.ref 71), (.int (255) 0), (.int (34) 0), (.str (Str.ofString "/claim/cut.py") 256)])), List.toArray []⟩
noncomputable def o73_17 (p : Program) (P : Params) : Obj := ⟨(.type "function"), none, (fd (stm p 11) (Str.ofString "to_whole") (Str.ofString "to_whole") 3 .none .none .none (.str (Str.ofString "vectorcove.rational") 194) none (.ref 72) .none 0 ), List.toArray []⟩
noncomputable def o74_17 (p : Program) (P : Params) : Obj := ⟨(.type "tuple"), none, (.seq (List.toArray []) 0), List.toArray []⟩
noncomputable def o75_17 (p : Program) (P : Params) : Obj := ⟨.none, none, (.fields (List.toArray [])), List.toArray []⟩
noncomputable def o76_17 (p : Program) (P : Params) : Obj := ⟨(.type "tuple"), none, (.seq (List.toArray [(.str (Str.ofString "n") 261), (.str (Str.ofString "d") 262), (.str (Str.ofString "low") 263), (.str (Str.ofString "rest") 264)]) 0), List.toArray []⟩
noncomputable def o77_17 (p : Program) (P : Params) : Obj := ⟨(.type "tuple"), none, (.seq (List.toArray []) 0), List.toArray []⟩
noncomputable def o78_17 (p : Program) (P : Params) : Obj := ⟨.none, none, (fd (stm p 12) (Str.ofString "nearest_whole") (Str.ofString "nearest_whole") 0 .none .none .none .none none .none .none 0 ), List.toArray []⟩
noncomputable def o79_17 (p : Program) (P : Params) : Obj := ⟨(.type "code"), none, (.fields (List.toArray [(.str (Str.ofString "nearest_whole") 258), (.str (Str.ofString "nearest_whole") 259), (.str (Str.ofString "/claim/cut.py") 260), (.int (39) 0), (.int (2) 0), (.int (0) 0), (.int (0) 0), (.int (3) 0), (.ref 74), (.bool true), (.int (181) 0), (.ref 75), .none, (.ref 76), (.ref 77), (.ref 78), (.int (265) 0), (.int (39) 0), (.str (Str.ofString "/claim/cut.py") 266)])), List.toArray []⟩
noncomputable def o80_17 (p : Program) (P : Params) : Obj := ⟨(.type "function"), none, (fd (stm p 12) (Str.ofString "nearest_whole") (Str.ofString "nearest_whole") 3 .none .none .none (.str (Str.ofString "vectorcove.rational") 194) none (.ref 79) .none 0 ), List.toArray []⟩
noncomputable def o81_17 (p : Program) (P : Params) : Obj := ⟨(.type "tuple"), none, (.seq (List.toArray []) 0), List.toArray []⟩
noncomputable def o82_17 (p : Program) (P : Params) : Obj := ⟨.none, none, (.fields (List.toArray [])), List.toArray []⟩
noncomputable def o83_17 (p : Program) (P : Params) : Obj := ⟨(.type "tuple"), none, (.seq (List.toArray [(.str (Str.ofString "x") 271), (.str (Str.ofString "n") 272), (.str (Str.ofString "d") 273), (.str (Str.ofString "e") 274)]) 0), List.toArray []⟩
noncomputable def o84_17 (p : Program) (P : Params) : Obj := ⟨(.type "tuple"), none, (.seq (List.toArray []) 0), List.toArray []⟩
noncomputable def o85_17 (p : Program) (P : Params) : Obj := ⟨.none, none, (fd (stm p 13) (Str.ofString "exponent") (Str.ofString "exponent") 0 .none .none .none .none none .none .none 0 ), List.toArray []⟩
noncomputable def o86_17 (p : Program) (P : Params) : Obj := ⟨(.type "code"), none, (.fields (List.toArray [(.str (Str.ofString "exponent") 268), (.str (Str.ofString "exponent") 269), (.str (Str.ofString "/claim/cut.py") 270), (.int (45) 0), (.int (1) 0), (.int (0) 0), (.int (0) 0), (.int (3) 0), (.ref 81), (.bool true), (.int (181) 0), (.ref 82), .none, (.ref 83), (.ref 84), (.ref 85), (.int (275) 0), (.int (45) 0), (.str (Str.ofString "/claim/cut.py") 276)])), List.toArray []⟩
noncomputable def o87_17 (p : Program) (P : Params) : Obj := ⟨(.type "function"), none, (fd (stm p 13) (Str.ofString "exponent") (Str.ofString "exponent") 3 .none .none .none (.str (Str.ofString "vectorcove.rational") 194) none (.ref 86) .none 0 ), List.toArray []⟩
noncomputable def o88_17 (p : Program) (P : Params) : Obj := ⟨(.type "tuple"), none, (.seq (List.toArray []) 0), List.toArray []⟩
noncomputable def o89_17 (p : Program) (P : Params) : Obj := ⟨.none, none, (.fields (List.toArray [])), List.toArray []⟩
noncomputable def o90_17 (p : Program) (P : Params) : Obj := ⟨(.type "tuple"), none, (.seq (List.toArray [(.str (Str.ofString "n") 285), (.str (Str.ofString "rest") 286), (.str (Str.ofString "row") 287), (.str (Str.ofString "part") 288)]) 0), List.toArray []⟩
noncomputable def o91_17 (p : Program) (P : Params) : Obj := ⟨(.type "tuple"), none, (.seq (List.toArray []) 0), List.toArray []⟩
noncomputable def o92_17 (p : Program) (P : Params) : Obj := ⟨.none, none, (fd (stm p 16) (Str.ofString "whole_text") (Str.ofString "whole_text") 0 .none .none .none .none none .none .none 0 ), List.toArray []⟩
noncomputable def o93_17 (p : Program) (P : Params) : Obj := ⟨(.type "code"), none, (.fields (List.toArray [(.str (Str.ofString "whole_text") 282), (.str (Str.ofString "whole_text") 283), (.str (Str.ofString "/claim/cut.py") 284), (.int (58) 0), (.int (1) 0), (.int (0) 0), (.int (0) 0), (.int (3) 0), (.ref 88), (.bool true), (.int (181) 0), (.ref 89), .none, (.ref 90), (.ref 91), (.ref 92), (.int (289) 0), (.int (58) 0), (.str (Str.ofString "/claim/cut.py") 290)])), List.toArray []⟩
noncomputable def o94_17 (p : Program) (P : Params) : Obj := ⟨(.type "function"), none, (fd (stm p 16) (Str.ofString "whole_text") (Str.ofString "whole_text") 3 .none .none .none (.str (Str.ofString "vectorcove.numtext") 278) none (.ref 93) .none 0 ), List.toArray []⟩
noncomputable def o3_29 (p : Program) (P : Params) : Obj := ⟨(.type "dict"), none, (.dict (List.toArray [en P (Str.ofString "__name__") 165 (.str (Str.ofString "vectorcove.numtext") 278), en P (Str.ofString "__doc__") 166 .none, en P (Str.ofString "__package__") 167 .none, en P (Str.ofString "__loader__") 168 (.builtin "__main__.__loader__#opaque"), en P (Str.ofString "__spec__") 169 .none, en P (Str.ofString "__annotations__") 170 (.ref 6), en P (Str.ofString "__builtins__") 171 (.ref 4), en P (Str.ofString "__file__") 173 (.str (Str.ofString "/claim/cut.py") 172), en P (Str.ofString "__cached__") 174 .none, en P (Str.ofString "_wall") 193 (.ref 21), en P (Str.ofString "NAN") 198 (.ref 22), en P (Str.ofString "INF") 201 (.ref 23), en P (Str.ofString "ZERO") 204 (.ref 24), en P (Str.ofString "gcd") 212 (.ref 31), en P (Str.ofString "make") 221 (.ref 38), en P (Str.ofString "from_int") 228 (.ref 45), en P (Str.ofString "is_na") 235 (.ref 52), en P (Str.ofString "is_finite") 242 (.ref 59), en P (Str.ofString "neg") 249 (.ref 66), en P (Str.ofString "to_whole") 257 (.ref 73), en P (Str.ofString "nearest_whole") 267 (.ref 80), en P (Str.ofString "exponent") 277 (.ref 87), en P (Str.ofString "MOST_EXPONENT") 281 (.int (4096) 280), en P (Str.ofString "whole_text") 291 (.ref 94), en P (Str.ofString "special_text") 298 (.ref 101), en P (Str.ofString "scaled") 308 (.ref 108), en P (Str.ofString "significant") 318 (.ref 115), en P (Str.ofString "without_tail") 326 (.ref 122), en P (Str.ofString "scientific_text") 338 (.ref 129), en P (Str.ofString "fixed_text") 348 (.ref 136), en P (Str.ofString "measures") 361 (.ref 143), en P (Str.ofString "chosen_form") 378 (.ref 150), en P (Str.ofString "formed") 387 (.ref 157), en P (Str.ofString "common_texts") 393 (.ref 162), en P (Str.ofString "number_text") 402 (.ref 170), en P (Str.ofString "digits_value") 412 (.ref 177)]) 36), List.toArray []⟩
noncomputable def o12_29 (p : Program) (P : Params) : Obj := ⟨.none, none, (.fields (List.toArray [(.int (1) 0), (.int (0) 0), (.ref 20), (.int (8) 0), (.int (0) 0), (.ref 30), (.int (12) 0), (.int (0) 0), (.ref 37), (.int (22) 0), (.int (0) 0), (.ref 44), (.int (26) 0), (.int (0) 0), (.ref 51), (.int (28) 0), (.int (0) 0), (.ref 58), (.int (30) 0), (.int (0) 0), (.ref 65), (.int (34) 0), (.int (0) 0), (.ref 72), (.int (39) 0), (.int (0) 0), (.ref 79), (.int (45) 0), (.int (0) 0), (.ref 86), (.int (58) 0), (.int (0) 0), (.ref 93), (.int (69) 0), (.int (0) 0), (.ref 100), (.int (77) 0), (.int (0) 0), (.ref 107), (.int (82) 0), (.int (0) 0), (.ref 114), (.int (91) 0), (.int (0) 0), (.ref 121), (.int (96) 0), (.int (0) 0), (.ref 128), (.int (103) 0), (.int (0) 0), (.ref 135), (.int (111) 0), (.int (0) 0), (.ref 142), (.int (118) 0), (.int (0) 0), (.ref 149), (.int (138) 0), (.int (0) 0), (.ref 156), (.int (145) 0), (.int (0) 0), (.ref 161), (.int (149) 0), (.int (0) 0), (.ref 169), (.int (151) 0), (.int (0) 0), (.ref 176)])), List.toArray []⟩
noncomputable def o95_29 (p : Program) (P : Params) : Obj := ⟨(.type "tuple"), none, (.seq (List.toArray []) 0), List.toArray []⟩
noncomputable def o96_29 (p : Program) (P : Params) : Obj := ⟨.none, none, (.fields (List.toArray [])), List.toArray []⟩
noncomputable def o97_29 (p : Program) (P : Params) : Obj := ⟨(.type "tuple"), none, (.seq (List.toArray [(.str (Str.ofString "x") 295)]) 0), List.toArray []⟩
noncomputable def o98_29 (p : Program) (P : Params) : Obj := ⟨(.type "tuple"), none, (.seq (List.toArray []) 0), List.toArray []⟩
noncomputable def o99_29 (p : Program) (P : Params) : Obj := ⟨.none, none, (fd (stm p 17) (Str.ofString "special_text") (Str.ofString "special_text") 0 .none .none .none .none none .none .none 0 ), List.toArray []⟩
noncomputable def o100_29 (p : Program) (P : Params) : Obj := ⟨(.type "code"), none, (.fields (List.toArray [(.str (Str.ofString "special_text") 292), (.str (Str.ofString "special_text") 293), (.str (Str.ofString "/claim/cut.py") 294), (.int (69) 0), (.int (1) 0), (.int (0) 0), (.int (0) 0), (.int (3) 0), (.ref 95), (.bool true), (.int (181) 0), (.ref 96), .none, (.ref 97), (.ref 98), (.ref 99), (.int (296) 0), (.int (69) 0), (.str (Str.ofString "/claim/cut.py") 297)])), List.toArray []⟩
noncomputable def o101_29 (p : Program) (P : Params) : Obj := ⟨(.type "function"), none, (fd (stm p 17) (Str.ofString "special_text") (Str.ofString "special_text") 3 .none .none .none (.str (Str.ofString "vectorcove.numtext") 278) none (.ref 100) .none 0 ), List.toArray []⟩
noncomputable def o102_29 (p : Program) (P : Params) : Obj := ⟨(.type "tuple"), none, (.seq (List.toArray []) 0), List.toArray []⟩
noncomputable def o103_29 (p : Program) (P : Params) : Obj := ⟨.none, none, (.fields (List.toArray [])), List.toArray []⟩
noncomputable def o104_29 (p : Program) (P : Params) : Obj := ⟨(.type "tuple"), none, (.seq (List.toArray [(.str (Str.ofString "x") 302), (.str (Str.ofString "e") 303), (.str (Str.ofString "digits") 304), (.str (Str.ofString "shift") 305)]) 0), List.toArray []⟩
noncomputable def o105_29 (p : Program) (P : Params) : Obj := ⟨(.type "tuple"), none, (.seq (List.toArray []) 0), List.toArray []⟩
noncomputable def o106_29 (p : Program) (P : Params) : Obj := ⟨.none, none, (fd (stm p 18) (Str.ofString "scaled") (Str.ofString "scaled") 0 .none .none .none .none none .none .none 0 ), List.toArray []⟩
noncomputable def o107_29 (p : Program) (P : Params) : Obj := ⟨(.type "code"), none, (.fields (List.toArray [(.str (Str.ofString "scaled") 299), (.str (Str.ofString "scaled") 300), (.str (Str.ofString "/claim/cut.py") 301), (.int (77) 0), (.int (3) 0), (.int (0) 0), (.int (0) 0), (.int (3) 0), (.ref 102), (.bool true), (.int (181) 0), (.ref 103), .none, (.ref 104), (.ref 105), (.ref 106), (.int (306) 0), (.int (77) 0), (.str (Str.ofString "/claim/cut.py") 307)])), List.toArray []⟩
noncomputable def o108_29 (p : Program) (P : Params) : Obj := ⟨(.type "function"), none, (fd (stm p 18) (Str.ofString "scaled") (Str.ofString "scaled") 3 .none .none .none (.str (Str.ofString "vectorcove.numtext") 278) none (.ref 107) .none 0 ), List.toArray []⟩
noncomputable def o109_29 (p : Program) (P : Params) : Obj := ⟨(.type "tuple"), none, (.seq (List.toArray []) 0), List.toArray []⟩
noncomputable def o110_29 (p : Program) (P : Params) : Obj := ⟨.none, none, (.fields (List.toArray [])), List.toArray []⟩
noncomputable def o111_29 (p : Program) (P : Params) : Obj := ⟨(.type "tuple"), none, (.seq (List.toArray [(.str (Str.ofString "x") 312), (.str (Str.ofString "digits") 313), (.str (Str.ofString "e") 314), (.str (Str.ofString "n") 315)]) 0), List.toArray []⟩
noncomputable def o112_29 (p : Program) (P : Params) : Obj := ⟨(.type "tuple"), none, (.seq (List.toArray []) 0), List.toArray []⟩
noncomputable def o113_29 (p : Program) (P : Params) : Obj := ⟨.none, none, (fd (stm p 19) (Str.ofString "significant") (Str.ofString "significant") 0 .none .none .none .none none .none .none 0 ), List.toArray []⟩
noncomputable def o114_29 (p : Program) (P : Params) : Obj := ⟨(.type "code"), none, (.fields (List.toArray [(.str (Str.ofString "significant") 309), (.str (Str.ofString "significant") 310), (.str (Str.ofString "/claim/cut.py") 311), (.int (82) 0), (.int (2) 0), (.int (0) 0), (.int (0) 0), (.int (3) 0), (.ref 109), (.bool true), (.int (181) 0), (.ref 110), .none, (.ref 111), (.ref 112), (.ref 113), (.int (316) 0), (.int (82) 0), (.str (Str.ofString "/claim/cut.py") 317)])), List.toArray []⟩
noncomputable def o115_29 (p : Program) (P : Params) : Obj := ⟨(.type "function"), none, (fd (stm p 19) (Str.ofString "significant") (Str.ofString "significant") 3 .none .none .none (.str (Str.ofString "vectorcove.numtext") 278) none (.ref 114) .none 0 ), List.toArray []⟩
noncomputable def o116_29 (p : Program) (P : Params) : Obj := ⟨(.type "tuple"), none, (.seq (List.toArray []) 0), List.toArray []⟩
noncomputable def o117_29 (p : Program) (P : Params) : Obj := ⟨.none, none, (.fields (List.toArray [])), List.toArray []⟩
noncomputable def o118_29 (p : Program) (P : Params) : Obj := ⟨(.type "tuple"), none, (.seq (List.toArray [(.str (Str.ofString "text") 322), (.str (Str.ofString "end") 323)]) 0), List.toArray []⟩
noncomputable def o119_29 (p : Program) (P : Params) : Obj := ⟨(.type "tuple"), none, (.seq (List.toArray []) 0), List.toArray []⟩
noncomputable def o120_29 (p : Program) (P : Params) : Obj := ⟨.none, none, (fd (stm p 20) (Str.ofString "without_tail") (Str.ofString "without_tail") 0 .none .none .none .none none .none .none 0 ), List.toArray []⟩
noncomputable def o121_29 (p : Program) (P : Params) : Obj := ⟨(.type "code"), none, (.fields (List.toArray [(.str (Str.ofString "without_tail") 319), (.str (Str.ofString "without_tail") 320), (.str (Str.ofString "/claim/cut.py") 321), (.int (91) 0), (.int (1) 0), (.int (0) 0), (.int (0) 0), (.int (3) 0), (.ref 116), (.bool true), (.int (181) 0), (.ref 117), .none, (.ref 118), (.ref 119), (.ref 120), (.int (324) 0), (.int (91) 0), (.str (Str.ofString "/claim/cut.py") 325)])), List.toArray []⟩
noncomputable def o122_29 (p : Program) (P : Params) : Obj := ⟨(.type "function"), none, (fd (stm p 20) (Str.ofString "without_tail") (Str.ofString "without_tail") 3 .none .none .none (.str (Str.ofString "vectorcove.numtext") 278) none (.ref 121) .none 0 ), List.toArray []⟩
noncomputable def o123_29 (p : Program) (P : Params) : Obj := ⟨(.type "tuple"), none, (.seq (List.toArray []) 0), List.toArray []⟩
noncomputable def o124_29 (p : Program) (P : Params) : Obj := ⟨.none, none, (.fields (List.toArray [])), List.toArray []⟩
noncomputable def o125_29 (p : Program) (P : Params) : Obj := ⟨(.type "tuple"), none, (.seq (List.toArray [(.str (Str.ofString "x") 330), (.str (Str.ofString "digits") 331), (.str (Str.ofString "side") 332), (.str (Str.ofString "text") 333), (.str (Str.ofString "e") 334), (.str (Str.ofString "row") 335)]) 0), List.toArray []⟩
noncomputable def o126_29 (p : Program) (P : Params) : Obj := ⟨(.type "tuple"), none, (.seq (List.toArray []) 0), List.toArray []⟩
noncomputable def o127_29 (p : Program) (P : Params) : Obj := ⟨.none, none, (fd (stm p 21) (Str.ofString "scientific_text") (Str.ofString "scientific_text") 0 .none .none .none .none none .none .none 0 ), List.toArray []⟩
noncomputable def o128_29 (p : Program) (P : Params) : Obj := ⟨(.type "code"), none, (.fields (List.toArray [(.str (Str.ofString "scientific_text") 327), (.str (Str.ofString "scientific_text") 328), (.str (Str.ofString "/claim/cut.py") 329), (.int (96) 0), (.int (2) 0), (.int (0) 0), (.int (0) 0), (.int (3) 0), (.ref 123), (.bool true), (.int (181) 0), (.ref 124), .none, (.ref 125), (.ref 126), (.ref 127), (.int (336) 0), (.int (96) 0), (.str (Str.ofString "/claim/cut.py") 337)])), List.toArray []⟩
noncomputable def o129_29 (p : Program) (P : Params) : Obj := ⟨(.type "function"), none, (fd (stm p 21) (Str.ofString "scientific_text") (Str.ofString "scientific_text") 3 .none .none .none (.str (Str.ofString "vectorcove.numtext") 278) none (.ref 128) .none 0 ), List.toArray []⟩
noncomputable def o130_29 (p : Program) (P : Params) : Obj := ⟨(.type "tuple"), none, (.seq (List.toArray []) 0), List.toArray []⟩
noncomputable def o131_29 (p : Program) (P : Params) : Obj := ⟨.none, none, (.fields (List.toArray [])), List.toArray []⟩
noncomputable def o132_29 (p : Program) (P : Params) : Obj := ⟨(.type "tuple"), none, (.seq (List.toArray [(.str (Str.ofString "x") 342), (.str (Str.ofString "places") 343), (.str (Str.ofString "n") 344), (.str (Str.ofString "text") 345)]) 0), List.toArray []⟩
noncomputable def o133_29 (p : Program) (P : Params) : Obj := ⟨(.type "tuple"), none, (.seq (List.toArray []) 0), List.toArray []⟩
noncomputable def o134_29 (p : Program) (P : Params) : Obj := ⟨.none, none, (fd (stm p 22) (Str.ofString "fixed_text") (Str.ofString "fixed_text") 0 .none .none .none .none none .none .none 0 ), List.toArray []⟩
noncomputable def o135_29 (p : Program) (P : Params) : Obj := ⟨(.type "code"), none, (.fields (List.toArray [(.str (Str.ofString "fixed_text") 339), (.str (Str.ofString "fixed_text") 340), (.str (Str.ofString "/claim/cut.py") 341), (.int (103) 0), (.int (2) 0), (.int (0) 0), (.int (0) 0), (.int (3) 0), (.ref 130), (.bool true), (.int (181) 0), (.ref 131), .none, (.ref 132), (.ref 133), (.ref 134), (.int (346) 0), (.int (103) 0), (.str (Str.ofString "/claim/cut.py") 347)])), List.toArray []⟩
noncomputable def o136_29 (p : Program) (P : Params) : Obj := ⟨(.type "function"), none, (fd (stm p 22) (Str.ofString "fixed_text") (Str.ofString "fixed_text") 3 .none .none .none (.str (Str.ofString "vectorcove.numtext") 278) none (.ref 135) .none 0 ), List.toArray []⟩
noncomputable def o137_29 (p : Program) (P : Params) : Obj := ⟨(.type "tuple"), none, (.seq (List.toArray []) 0), List.toArray []⟩
noncomputable def o138_29 (p : Program) (P : Params) : Obj := ⟨.none, none, (.fields (List.toArray [])), List.toArray []⟩
noncomputable def o139_29 (p : Program) (P : Params) : Obj := ⟨(.type "tuple"), none, (.seq (List.toArray [(.str (Str.ofString "x") 352), (.str (Str.ofString "digits") 353), (.str (Str.ofString "side") 354), (.str (Str.ofString "text") 355), (.str (Str.ofString "e") 356), (.str (Str.ofString "count") 357), (.str (Str.ofString "left") 358)]) 0), List.toArray []⟩
noncomputable def o140_29 (p : Program) (P : Params) : Obj := ⟨(.type "tuple"), none, (.seq (List.toArray []) 0), List.toArray []⟩
noncomputable def o141_29 (p : Program) (P : Params) : Obj := ⟨.none, none, (fd (stm p 23) (Str.ofString "measures") (Str.ofString "measures") 0 .none .none .none .none none .none .none 0 ), List.toArray []⟩
noncomputable def o142_29 (p : Program) (P : Params) : Obj := ⟨(.type "code"), none, (.fields (List.toArray [(.str (Str.ofString "measures") 349), (.str (Str.ofString "measures") 350), (.str (Str.ofString "/claim/cut.py") 351), (.int (111) 0), (.int (2) 0), (.int (0) 0), (.int (0) 0), (.int (3) 0), (.ref 137), (.bool true), (.int (181) 0), (.ref 138), .none, (.ref 139), (.ref 140), (.ref 141), (.int (359) 0), (.int (111) 0), (.str (Str.ofString "/claim/cut.py") 360)])), List.toArray []⟩
noncomputable def o143_29 (p : Program) (P : Params) : Obj := ⟨(.type "function"), none, (fd (stm p 23) (Str.ofString "measures") (Str.ofString "measures") 3 .none .none .none (.str (Str.ofString "vectorcove.numtext") 278) none (.ref 142) .none 0 ), List.toArray []⟩
noncomputable def o144_29 (p : Program) (P : Params) : Obj := ⟨(.type "tuple"), none, (.seq (List.toArray []) 0), List.toArray []⟩
noncomputable def o145_29 (p : Program) (P : Params) : Obj := ⟨.none, none, (.fields (List.toArray [])), List.toArray []⟩
noncomputable def o146_29 (p : Program) (P : Params) : Obj := ⟨(.type "tuple"), none, (.seq (List.toArray [(.str (Str.ofString "xs") 365), (.str (Str.ofString "digits") 366), (.str (Str.ofString "count") 367), (.str (Str.ofString "left") 368), (.str (Str.ofString "places") 369), (.str (Str.ofString "wide") 370), (.str (Str.ofString "minus") 371), (.str (Str.ofString "x") 372), (.str (Str.ofString "row") 373), (.str (Str.ofString "fixed_width") 374), (.str (Str.ofString "scientific_width") 375)]) 0), List.toArray []⟩
noncomputable def o147_29 (p : Program) (P : Params) : Obj := ⟨(.type "tuple"), none, (.seq (List.toArray []) 0), List.toArray []⟩
noncomputable def o148_29 (p : Program) (P : Params) : Obj := ⟨.none, none, (fd (stm p 24) (Str.ofString "chosen_form") (Str.ofString "chosen_form") 0 .none .none .none .none none .none .none 0 ), List.toArray []⟩
noncomputable def o149_29 (p : Program) (P : Params) : Obj := ⟨(.type "code"), none, (.fields (List.toArray [(.str (Str.ofString "chosen_form") 362), (.str (Str.ofString "chosen_form") 363), (.str (Str.ofString "/claim/cut.py") 364), (.int (118) 0), (.int (2) 0), (.int (0) 0), (.int (0) 0), (.int (3) 0), (.ref 144), (.bool true), (.int (181) 0), (.ref 145), .none, (.ref 146), (.ref 147), (.ref 148), (.int (376) 0), (.int (118) 0), (.str (Str.ofString "/claim/cut.py") 377)])), List.toArray []⟩
noncomputable def o150_29 (p : Program) (P : Params) : Obj := ⟨(.type "function"), none, (fd (stm p 24) (Str.ofString "chosen_form") (Str.ofString "chosen_form") 3 .none .none .none (.str (Str.ofString "vectorcove.numtext") 278) none (.ref 149) .none 0 ), List.toArray []⟩
noncomputable def o151_29 (p : Program) (P : Params) : Obj := ⟨(.type "tuple"), none, (.seq (List.toArray []) 0), List.toArray []⟩
noncomputable def o152_29 (p : Program) (P : Params) : Obj := ⟨.none, none, (.fields (List.toArray [])), List.toArray []⟩
noncomputable def o153_29 (p : Program) (P : Params) : Obj := ⟨(.type "tuple"), none, (.seq (List.toArray [(.str (Str.ofString "x") 382), (.str (Str.ofString "form") 383), (.str (Str.ofString "text") 384)]) 0), List.toArray []⟩
noncomputable def o154_29 (p : Program) (P : Params) : Obj := ⟨(.type "tuple"), none, (.seq (List.toArray []) 0), List.toArray []⟩
noncomputable def o155_29 (p : Program) (P : Params) : Obj := ⟨.none, none, (fd (stm p 25) (Str.ofString "formed") (Str.ofString "formed") 0 .none .none .none .none none .none .none 0 ), List.toArray []⟩
noncomputable def o156_29 (p : Program) (P : Params) : Obj := ⟨(.type "code"), none, (.fields (List.toArray [(.str (Str.ofString "formed") 379), (.str (Str.ofString "formed") 380), (.str (Str.ofString "/claim/cut.py") 381), (.int (138) 0), (.int (2) 0), (.int (0) 0), (.int (0) 0), (.int (3) 0), (.ref 151), (.bool true), (.int (181) 0), (.ref 152), .none, (.ref 153), (.ref 154), (.ref 155), (.int (385) 0), (.int (138) 0), (.str (Str.ofString "/claim/cut.py") 386)])), List.toArray []⟩
noncomputable def o157_29 (p : Program) (P : Params) : Obj := ⟨(.type "function"), none, (fd (stm p 25) (Str.ofString "formed") (Str.ofString "formed") 3 .none .none .none (.str (Str.ofString "vectorcove.numtext") 278) none (.ref 156) .none 0 ), List.toArray []⟩
noncomputable def o158_29 (p : Program) (P : Params) : Obj := ⟨(.type "tuple"), none, (.seq (List.toArray []) 0), List.toArray []⟩
noncomputable def o159_29 (p : Program) (P : Params) : Obj := ⟨.none, none, (.fields (List.toArray [])), List.toArray []⟩
noncomputable def o160_29 (p : Program) (P : Params) : Obj := ⟨.none, none, (fd (stm p 26) (Str.ofString "common_texts") (Str.ofString "common_texts") 0 .none .none .none .none none .none .none 0 ), List.toArray []⟩
noncomputable def o161_29 (p : Program) (P : Params) : Obj := ⟨(.type "code"), none, (.fields (List.toArray [(.str (Str.ofString "common_texts") 388), (.str (Str.ofString "common_texts") 389), (.str (Str.ofString "/claim/cut.py") 390), (.int (145) 0), (.int (2) 0), (.int (0) 0), (.int (0) 0), (.int (3) 0), (.ref 158), (.bool true), (.int (181) 0), (.ref 159), .none, .none, .none, (.ref 160), (.int (391) 0), (.int (145) 0), (.str (Str.ofString "/claim/cut.py") 392)])), List.toArray []⟩
noncomputable def o162_29 (p : Program) (P : Params) : Obj := ⟨(.type "function"), none, (fd (stm p 26) (Str.ofString "common_texts") (Str.ofString "common_texts") 3 .none .none .none (.str (Str.ofString "vectorcove.numtext") 278) none (.ref 161) .none 0 ), List.toArray []⟩
noncomputable def o163_29 (p : Program) (P : Params) : Obj := ⟨(.type "tuple"), none, (.seq (List.toArray [(.int (7) 394)]) 0), List.toArray []⟩
noncomputable def o164_29 (p : Program) (P : Params) : Obj := ⟨(.type "tuple"), none, (.seq (List.toArray []) 0), List.toArray []⟩
noncomputable def o165_29 (p : Program) (P : Params) : Obj := ⟨.none, none, (.fields (List.toArray [])), List.toArray []⟩
noncomputable def o166_29 (p : Program) (P : Params) : Obj := ⟨(.type "tuple"), none, (.seq (List.toArray [(.str (Str.ofString "x") 398), (.str (Str.ofString "digits") 399)]) 0), List.toArray []⟩
noncomputable def o167_29 (p : Program) (P : Params) : Obj := ⟨(.type "tuple"), none, (.seq (List.toArray []) 0), List.toArray []⟩
noncomputable def o168_29 (p : Program) (P : Params) : Obj := ⟨.none, none, (fd (stm p 27) (Str.ofString "number_text") (Str.ofString "number_text") 0 .none .none .none .none none .none .none 0 ), List.toArray []⟩
noncomputable def o169_29 (p : Program) (P : Params) : Obj := ⟨(.type "code"), none, (.fields (List.toArray [(.str (Str.ofString "number_text") 395), (.str (Str.ofString "number_text") 396), (.str (Str.ofString "/claim/cut.py") 397), (.int (149) 0), (.int (2) 0), (.int (0) 0), (.int (0) 0), (.int (3) 0), (.ref 164), (.bool true), (.int (181) 0), (.ref 165), .none, (.ref 166), (.ref 167), (.ref 168), (.int (400) 0), (.int (149) 0), (.str (Str.ofString "/claim/cut.py") 401)])), List.toArray []⟩
noncomputable def o170_29 (p : Program) (P : Params) : Obj := ⟨(.type "function"), none, (fd (stm p 27) (Str.ofString "number_text") (Str.ofString "number_text") 3 (.ref 163) .none .none (.str (Str.ofString "vectorcove.numtext") 278) none (.ref 169) .none 0 ), List.toArray []⟩
noncomputable def o171_29 (p : Program) (P : Params) : Obj := ⟨(.type "tuple"), none, (.seq (List.toArray []) 0), List.toArray []⟩
noncomputable def o172_29 (p : Program) (P : Params) : Obj := ⟨.none, none, (.fields (List.toArray [])), List.toArray []⟩
noncomputable def o173_29 (p : Program) (P : Params) : Obj := ⟨(.type "tuple"), none, (.seq (List.toArray [(.str (Str.ofString "text") 406), (.str (Str.ofString "base") 407), (.str (Str.ofString "value") 408), (.str (Str.ofString "char") 409)]) 0), List.toArray []⟩
noncomputable def o174_29 (p : Program) (P : Params) : Obj := ⟨(.type "tuple"), none, (.seq (List.toArray []) 0), List.toArray []⟩
noncomputable def o175_29 (p : Program) (P : Params) : Obj := ⟨.none, none, (fd (stm p 28) (Str.ofString "digits_value") (Str.ofString "digits_value") 0 .none .none .none .none none .none .none 0 ), List.toArray []⟩
noncomputable def o176_29 (p : Program) (P : Params) : Obj := ⟨(.type "code"), none, (.fields (List.toArray [(.str (Str.ofString "digits_value") 403), (.str (Str.ofString "digits_value") 404), (.str (Str.ofString "/claim/cut.py") 405), (.int (151) 0), (.int (2) 0), (.int (0) 0), (.int (0) 0), (.int (3) 0), (.ref 171), (.bool true), (.int (181) 0), (.ref 172), .none, (.ref 173), (.ref 174), (.ref 175), (.int (410) 0), (.int (151) 0), (.str (Str.ofString "/claim/cut.py") 411)])), List.toArray []⟩
noncomputable def o177_29 (p : Program) (P : Params) : Obj := ⟨(.type "function"), none, (fd (stm p 28) (Str.ofString "digits_value") (Str.ofString "digits_value") 3 .none .none .none (.str (Str.ofString "vectorcove.numtext") 278) none (.ref 176) .none 0 ), List.toArray []⟩
noncomputable def o3_35 (p : Program) (P : Params) : Obj := ⟨(.type "dict"), none, (.dict (List.toArray [en P (Str.ofString "__name__") 165 (.str (Str.ofString "vectorcove.values") 471), en P (Str.ofString "__doc__") 166 .none, en P (Str.ofString "__package__") 167 .none, en P (Str.ofString "__loader__") 168 (.builtin "__main__.__loader__#opaque"), en P (Str.ofString "__spec__") 169 .none, en P (Str.ofString "__annotations__") 170 (.ref 6), en P (Str.ofString "__builtins__") 171 (.ref 4), en P (Str.ofString "__file__") 173 (.str (Str.ofString "/claim/cut.py") 172), en P (Str.ofString "__cached__") 174 .none, en P (Str.ofString "_wall") 193 (.ref 21), en P (Str.ofString "NAN") 198 (.ref 22), en P (Str.ofString "INF") 201 (.ref 23), en P (Str.ofString "ZERO") 204 (.ref 24), en P (Str.ofString "gcd") 212 (.ref 31), en P (Str.ofString "make") 221 (.ref 38), en P (Str.ofString "from_int") 228 (.ref 45), en P (Str.ofString "is_na") 235 (.ref 52), en P (Str.ofString "is_finite") 242 (.ref 59), en P (Str.ofString "neg") 249 (.ref 66), en P (Str.ofString "to_whole") 257 (.ref 73), en P (Str.ofString "nearest_whole") 267 (.ref 80), en P (Str.ofString "exponent") 277 (.ref 87), en P (Str.ofString "MOST_EXPONENT") 281 (.int (4096) 280), en P (Str.ofString "whole_text") 291 (.ref 94), en P (Str.ofString "special_text") 298 (.ref 101), en P (Str.ofString "scaled") 308 (.ref 108), en P (Str.ofString "significant") 318 (.ref 115), en P (Str.ofString "without_tail") 326 (.ref 122), en P (Str.ofString "scientific_text") 338 (.ref 129), en P (Str.ofString "fixed_text") 348 (.ref 136), en P (Str.ofString "measures") 361 (.ref 143), en P (Str.ofString "chosen_form") 378 (.ref 150), en P (Str.ofString "formed") 387 (.ref 157), en P (Str.ofString "common_texts") 393 (.ref 162), en P (Str.ofString "number_text") 402 (.ref 170), en P (Str.ofString "digits_value") 412 (.ref 177), en P (Str.ofString "digit_run") 421 (.ref 184), en P (Str.ofString "exponent_value") 430 (.ref 191), en P (Str.ofString "powered") 439 (.ref 198), en P (Str.ofString "unsigned_number") 458 (.ref 205), en P (Str.ofString "parse_number") 470 (.ref 212)]) 41), List.toArray []⟩
noncomputable def o12_35 (p : Program) (P : Params) : Obj := ⟨.none, none, (.fields (List.toArray [(.int (1) 0), (.int (0) 0), (.ref 20), (.int (8) 0), (.int (0) 0), (.ref 30), (.int (12) 0), (.int (0) 0), (.ref 37), (.int (22) 0), (.int (0) 0), (.ref 44), (.int (26) 0), (.int (0) 0), (.ref 51), (.int (28) 0), (.int (0) 0), (.ref 58), (.int (30) 0), (.int (0) 0), (.ref 65), (.int (34) 0), (.int (0) 0), (.ref 72), (.int (39) 0), (.int (0) 0), (.ref 79), (.int (45) 0), (.int (0) 0), (.ref 86), (.int (58) 0), (.int (0) 0), (.ref 93), (.int (69) 0), (.int (0) 0), (.ref 100), (.int (77) 0), (.int (0) 0), (.ref 107), (.int (82) 0), (.int (0) 0), (.ref 114), (.int (91) 0), (.int (0) 0), (.ref 121), (.int (96) 0), (.int (0) 0), (.ref 128), (.int (103) 0), (.int (0) 0), (.ref 135), (.int (111) 0), (.int (0) 0), (.ref 142), (.int (118) 0), (.int (0) 0), (.ref 149), (.int (138) 0), (.int (0) 0), (.ref 156), (.int (145) 0), (.int (0) 0), (.ref 161), (.int (149) 0), (.int (0) 0), (.ref 169), (.int (151) 0), (.int (0) 0), (.ref 176), (.int (156) 0), (.int (0) 0), (.ref 183), (.int (160) 0), (.int (0) 0), (.ref 190), (.int (170) 0), (.int (0) 0), (.ref 197), (.int (180) 0), (.int (0) 0), (.ref 204), (.int (212) 0), (.int (0) 0), (.ref 211)])), List.toArray []⟩
noncomputable def o178_35 (p : Program) (P : Params) : Obj := ⟨(.type "tuple"), none, (.seq (List.toArray []) 0), List.toArray []⟩
noncomputable def o179_35 (p : Program) (P : Params) : Obj := ⟨.none, none, (.fields (List.toArray [])), List.toArray []⟩
noncomputable def o180_35 (p : Program) (P : Params) : Obj := ⟨(.type "tuple"), none, (.seq (List.toArray [(.str (Str.ofString "text") 416), (.str (Str.ofString "at") 417), (.str (Str.ofString "digits") 418)]) 0), List.toArray []⟩
noncomputable def o181_35 (p : Program) (P : Params) : Obj := ⟨(.type "tuple"), none, (.seq (List.toArray []) 0), List.toArray []⟩
noncomputable def o182_35 (p : Program) (P : Params) : Obj := ⟨.none, none, (fd (stm p 29) (Str.ofString "digit_run") (Str.ofString "digit_run") 0 .none .none .none .none none .none .none 0 ), List.toArray []⟩
noncomputable def o183_35 (p : Program) (P : Params) : Obj := ⟨(.type "code"), none, (.fields (List.toArray [(.str (Str.ofString "digit_run") 413), (.str (Str.ofString "digit_run") 414), (.str (Str.ofString "/claim/cut.py") 415), (.int (156) 0), (.int (3) 0), (.int (0) 0), (.int (0) 0), (.int (3) 0), (.ref 178), (.bool true), (.int (181) 0), (.ref 179), .none, (.ref 180), (.ref 181), (.ref 182), (.int (419) 0), (.int (156) 0), (.str (Str.ofString "/claim/cut.py") 420)])), List.toArray []⟩
noncomputable def o184_35 (p : Program) (P : Params) : Obj := ⟨(.type "function"), none, (fd (stm p 29) (Str.ofString "digit_run") (Str.ofString "digit_run") 3 .none .none .none (.str (Str.ofString "vectorcove.numtext") 278) none (.ref 183) .none 0 ), List.toArray []⟩
noncomputable def o185_35 (p : Program) (P : Params) : Obj := ⟨(.type "tuple"), none, (.seq (List.toArray []) 0), List.toArray []⟩
noncomputable def o186_35 (p : Program) (P : Params) : Obj := ⟨.none, none, (.fields (List.toArray [])), List.toArray []⟩
noncomputable def o187_35 (p : Program) (P : Params) : Obj := ⟨(.type "tuple"), none, (.seq (List.toArray [(.str (Str.ofString "text") 425), (.str (Str.ofString "start") 426), (.str (Str.ofString "value") 427)]) 0), List.toArray []⟩
noncomputable def o188_35 (p : Program) (P : Params) : Obj := ⟨(.type "tuple"), none, (.seq (List.toArray []) 0), List.toArray []⟩
noncomputable def o189_35 (p : Program) (P : Params) : Obj := ⟨.none, none, (fd (stm p 30) (Str.ofString "exponent_value") (Str.ofString "exponent_value") 0 .none .none .none .none none .none .none 0 ), List.toArray []⟩
noncomputable def o190_35 (p : Program) (P : Params) : Obj := ⟨(.type "code"), none, (.fields (List.toArray [(.str (Str.ofString "exponent_value") 422), (.str (Str.ofString "exponent_value") 423), (.str (Str.ofString "/claim/cut.py") 424), (.int (160) 0), (.int (1) 0), (.int (0) 0), (.int (0) 0), (.int (3) 0), (.ref 185), (.bool true), (.int (181) 0), (.ref 186), .none, (.ref 187), (.ref 188), (.ref 189), (.int (428) 0), (.int (160) 0), (.str (Str.ofString "/claim/cut.py") 429)])), List.toArray []⟩
noncomputable def o191_35 (p : Program) (P : Params) : Obj := ⟨(.type "function"), none, (fd (stm p 30) (Str.ofString "exponent_value") (Str.ofString "exponent_value") 3 .none .none .none (.str (Str.ofString "vectorcove.numtext") 278) none (.ref 190) .none 0 ), List.toArray []⟩
noncomputable def o192_35 (p : Program) (P : Params) : Obj := ⟨(.type "tuple"), none, (.seq (List.toArray []) 0), List.toArray []⟩
noncomputable def o193_35 (p : Program) (P : Params) : Obj := ⟨.none, none, (.fields (List.toArray [])), List.toArray []⟩
noncomputable def o194_35 (p : Program) (P : Params) : Obj := ⟨(.type "tuple"), none, (.seq (List.toArray [(.str (Str.ofString "n") 434), (.str (Str.ofString "base") 435), (.str (Str.ofString "e") 436)]) 0), List.toArray []⟩
noncomputable def o195_35 (p : Program) (P : Params) : Obj := ⟨(.type "tuple"), none, (.seq (List.toArray []) 0), List.toArray []⟩
noncomputable def o196_35 (p : Program) (P : Params) : Obj := ⟨.none, none, (fd (stm p 31) (Str.ofString "powered") (Str.ofString "powered") 0 .none .none .none .none none .none .none 0 ), List.toArray []⟩
noncomputable def o197_35 (p : Program) (P : Params) : Obj := ⟨(.type "code"), none, (.fields (List.toArray [(.str (Str.ofString "powered") 431), (.str (Str.ofString "powered") 432), (.str (Str.ofString "/claim/cut.py") 433), (.int (170) 0), (.int (3) 0), (.int (0) 0), (.int (0) 0), (.int (3) 0), (.ref 192), (.bool true), (.int (181) 0), (.ref 193), .none, (.ref 194), (.ref 195), (.ref 196), (.int (437) 0), (.int (170) 0), (.str (Str.ofString "/claim/cut.py") 438)])), List.toArray []⟩
noncomputable def o198_35 (p : Program) (P : Params) : Obj := ⟨(.type "function"), none, (fd (stm p 31) (Str.ofString "powered") (Str.ofString "powered") 3 .none .none .none (.str (Str.ofString "vectorcove.numtext") 278) none (.ref 197) .none 0 ), List.toArray []⟩
noncomputable def o199_35 (p : Program) (P : Params) : Obj := ⟨(.type "tuple"), none, (.seq (List.toArray []) 0), List.toArray []⟩
noncomputable def o200_35 (p : Program) (P : Params) : Obj := ⟨.none, none, (.fields (List.toArray [])), List.toArray []⟩
noncomputable def o201_35 (p : Program) (P : Params) : Obj := ⟨(.type "tuple"), none, (.seq (List.toArray [(.str (Str.ofString "text") 443), (.str (Str.ofString "base") 444), (.str (Str.ofString "digits") 445), (.str (Str.ofString "mark") 446), (.str (Str.ofString "scale") 447), (.str (Str.ofString "end") 448), (.str (Str.ofString "before") 449), (.str (Str.ofString "behind") 450), (.str (Str.ofString "start") 451), (.str (Str.ofString "e") 452), (.str (Str.ofString "ok") 453), (.str (Str.ofString "n") 454), (.str (Str.ofString "found") 455)]) 0), List.toArray []⟩
noncomputable def o202_35 (p : Program) (P : Params) : Obj := ⟨(.type "tuple"), none, (.seq (List.toArray []) 0), List.toArray []⟩
noncomputable def o203_35 (p : Program) (P : Params) : Obj := ⟨.none, none, (fd (stm p 32) (Str.ofString "unsigned_number") (Str.ofString "unsigned_number") 0 .none .none .none .none none .none .none 0 ), List.toArray []⟩
noncomputable def o204_35 (p : Program) (P : Params) : Obj := ⟨(.type "code"), none, (.fields (List.toArray [(.str (Str.ofString "unsigned_number") 440), (.str (Str.ofString "unsigned_number") 441), (.str (Str.ofString "/claim/cut.py") 442), (.int (180) 0), (.int (1) 0), (.int (0) 0), (.int (0) 0), (.int (3) 0), (.ref 199), (.bool true), (.int (181) 0), (.ref 200), .none, (.ref 201), (.ref 202), (.ref 203), (.int (456) 0), (.int (180) 0), (.str (Str.ofString "/claim/cut.py") 457)])), List.toArray []⟩
noncomputable def o205_35 (p : Program) (P : Params) : Obj := ⟨(.type "function"), none, (fd (stm p 32) (Str.ofString "unsigned_number") (Str.ofString "unsigned_number") 3 .none .none .none (.str (Str.ofString "vectorcove.numtext") 278) none (.ref 204) .none 0 ), List.toArray []⟩
noncomputable def o206_35 (p : Program) (P : Params) : Obj := ⟨(.type "tuple"), none, (.seq (List.toArray []) 0), List.toArray []⟩
noncomputable def o207_35 (p : Program) (P : Params) : Obj := ⟨.none, none, (.fields (List.toArray [])), List.toArray []⟩
noncomputable def o208_35 (p : Program) (P : Params) : Obj := ⟨(.type "tuple"), none, (.seq (List.toArray [(.str (Str.ofString "text") 462), (.str (Str.ofString "body") 463), (.str (Str.ofString "negative") 464), (.str (Str.ofString "small") 465), (.str (Str.ofString "found") 466), (.str (Str.ofString "ok") 467)]) 0), List.toArray []⟩
noncomputable def o209_35 (p : Program) (P : Params) : Obj := ⟨(.type "tuple"), none, (.seq (List.toArray []) 0), List.toArray []⟩
noncomputable def o210_35 (p : Program) (P : Params) : Obj := ⟨.none, none, (fd (stm p 33) (Str.ofString "parse_number") (Str.ofString "parse_number") 0 .none .none .none .none none .none .none 0 ), List.toArray []⟩
noncomputable def o211_35 (p : Program) (P : Params) : Obj := ⟨(.type "code"), none, (.fields (List.toArray [(.str (Str.ofString "parse_number") 459), (.str (Str.ofString "parse_number") 460), (.str (Str.ofString "/claim/cut.py") 461), (.int (212) 0), (.int (1) 0), (.int (0) 0), (.int (0) 0), (.int (3) 0), (.ref 206), (.bool true), (.int (181) 0), (.ref 207), .none, (.ref 208), (.ref 209), (.ref 210), (.int (468) 0), (.int (212) 0), (.str (Str.ofString "/claim/cut.py") 469)])), List.toArray []⟩
noncomputable def o212_35 (p : Program) (P : Params) : Obj := ⟨(.type "function"), none, (fd (stm p 33) (Str.ofString "parse_number") (Str.ofString "parse_number") 3 .none .none .none (.str (Str.ofString "vectorcove.numtext") 278) none (.ref 211) .none 0 ), List.toArray []⟩
noncomputable def o3_40 (p : Program) (P : Params) : Obj := ⟨(.type "dict"), none, (.dict (List.toArray [en P (Str.ofString "__name__") 165 (.str (Str.ofString "vectorcove.values") 471), en P (Str.ofString "__doc__") 166 .none, en P (Str.ofString "__package__") 167 .none, en P (Str.ofString "__loader__") 168 (.builtin "__main__.__loader__#opaque"), en P (Str.ofString "__spec__") 169 .none, en P (Str.ofString "__annotations__") 170 (.ref 6), en P (Str.ofString "__builtins__") 171 (.ref 4), en P (Str.ofString "__file__") 173 (.str (Str.ofString "/claim/cut.py") 172), en P (Str.ofString "__cached__") 174 .none, en P (Str.ofString "_wall") 193 (.ref 21), en P (Str.ofString "NAN") 198 (.ref 22), en P (Str.ofString "INF") 201 (.ref 23), en P (Str.ofString "ZERO") 204 (.ref 24), en P (Str.ofString "gcd") 212 (.ref 31), en P (Str.ofString "make") 221 (.ref 38), en P (Str.ofString "from_int") 228 (.ref 45), en P (Str.ofString "is_na") 235 (.ref 52), en P (Str.ofString "is_finite") 242 (.ref 59), en P (Str.ofString "neg") 249 (.ref 66), en P (Str.ofString "to_whole") 257 (.ref 73), en P (Str.ofString "nearest_whole") 267 (.ref 80), en P (Str.ofString "exponent") 277 (.ref 87), en P (Str.ofString "MOST_EXPONENT") 281 (.int (4096) 280), en P (Str.ofString "whole_text") 291 (.ref 94), en P (Str.ofString "special_text") 298 (.ref 101), en P (Str.ofString "scaled") 308 (.ref 108), en P (Str.ofString "significant") 318 (.ref 115), en P (Str.ofString "without_tail") 326 (.ref 122), en P (Str.ofString "scientific_text") 338 (.ref 129), en P (Str.ofString "fixed_text") 348 (.ref 136), en P (Str.ofString "measures") 361 (.ref 143), en P (Str.ofString "chosen_form") 378 (.ref 150), en P (Str.ofString "formed") 387 (.ref 157), en P (Str.ofString "common_texts") 393 (.ref 162), en P (Str.ofString "number_text") 402 (.ref 170), en P (Str.ofString "digits_value") 412 (.ref 177), en P (Str.ofString "digit_run") 421 (.ref 184), en P (Str.ofString "exponent_value") 430 (.ref 191), en P (Str.ofString "powered") 439 (.ref 198), en P (Str.ofString "unsigned_number") 458 (.ref 205), en P (Str.ofString "parse_number") 470 (.ref 212), en P (Str.ofString "Vector") 514 (.ref 237), en P (Str.ofString "character") 521 (.ref 248), en P (Str.ofString "length") 529 (.ref 255), en P (Str.ofString "is_vector") 536 (.ref 262), en P (Str.ofString "is_atomic") 543 (.ref 269)]) 46), List.toArray []⟩
noncomputable def o12_40 (p : Program) (P : Params) : Obj := ⟨.none, none, (.fields (List.toArray [(.int (1) 0), (.int (0) 0), (.ref 20), (.int (8) 0), (.int (0) 0), (.ref 30), (.int (12) 0), (.int (0) 0), (.ref 37), (.int (22) 0), (.int (0) 0), (.ref 44), (.int (26) 0), (.int (0) 0), (.ref 51), (.int (28) 0), (.int (0) 0), (.ref 58), (.int (30) 0), (.int (0) 0), (.ref 65), (.int (34) 0), (.int (0) 0), (.ref 72), (.int (39) 0), (.int (0) 0), (.ref 79), (.int (45) 0), (.int (0) 0), (.ref 86), (.int (58) 0), (.int (0) 0), (.ref 93), (.int (69) 0), (.int (0) 0), (.ref 100), (.int (77) 0), (.int (0) 0), (.ref 107), (.int (82) 0), (.int (0) 0), (.ref 114), (.int (91) 0), (.int (0) 0), (.ref 121), (.int (96) 0), (.int (0) 0), (.ref 128), (.int (103) 0), (.int (0) 0), (.ref 135), (.int (111) 0), (.int (0) 0), (.ref 142), (.int (118) 0), (.int (0) 0), (.ref 149), (.int (138) 0), (.int (0) 0), (.ref 156), (.int (145) 0), (.int (0) 0), (.ref 161), (.int (149) 0), (.int (0) 0), (.ref 169), (.int (151) 0), (.int (0) 0), (.ref 176), (.int (156) 0), (.int (0) 0), (.ref 183), (.int (160) 0), (.int (0) 0), (.ref 190), (.int (170) 0), (.int (0) 0), (.ref 197), (.int (180) 0), (.int (0) 0), (.ref 204), (.int (212) 0), (.int (0) 0), (.ref 211), (.int (230) 0), (.int (0) 0), (.ref 218), (.int (241) 0), (.int (0) 0), (.ref 247), (.int (243) 0), (.int (0) 0), (.ref 254), (.int (254) 0), (.int (0) 0), (.ref 261), (.int (256) 0), (.int (0) 0), (.ref 268)])), List.toArray []⟩
noncomputable def o213_40 (p : Program) (P : Params) : Obj := ⟨(.type "tuple"), none, (.seq (List.toArray []) 0), List.toArray []⟩
noncomputable def o214_40 (p : Program) (P : Params) : Obj := ⟨(.type "builtin_function_or_method"), none, (.fields (List.toArray [(.builtin "type.__prepare__"), (.type "type")])), List.toArray []⟩
noncomputable def o215_40 (p : Program) (P : Params) : Obj := ⟨(.type "dict"), none, (.dict (List.toArray [en P (Str.ofString "__module__") 480 (.str (Str.ofString "vectorcove.values") 471), en P (Str.ofString "__qualname__") 482 (.str (Str.ofString "Vector") 481), en P (Str.ofString "__firstlineno__") 484 (.int (230) 483), en P (Str.ofString "__init__") 494 (.ref 227), en P (Str.ofString "copy") 501 (.ref 234), en P (Str.ofString "__static_attributes__") 507 (.ref 235)]) 6), List.toArray []⟩
noncomputable def o216_40 (p : Program) (P : Params) : Obj := ⟨(.type "tuple"), none, (.seq (List.toArray []) 0), List.toArray []⟩
noncomputable def o217_40 (p : Program) (P : Params) : Obj := ⟨.none, none, (.fields (List.toArray [(.int (232) 0), (.int (4) 0), (.ref 226), (.int (239) 0), (.int (4) 0), (.ref 233)])), List.toArray []⟩
noncomputable def o218_40 (p : Program) (P : Params) : Obj := ⟨(.type "code"), none, (.fields (List.toArray [(.str (Str.ofString "Vector") 475), (.str (Str.ofString "Vector") 476), (.str (Str.ofString "/claim/cut.py") 477), (.int (230) 0), (.int (0) 0), (.int (0) 0), (.int (0) 0), (.int (0) 0), (.ref 216), (.bool false), (.int (181) 0), (.ref 217), .none, .none, .none, .none, (.int (478) 0), (.int (230) 0), (.str (Str.ofString "/claim/cut.py") 479)])), List.toArray []⟩
noncomputable def o219_40 (p : Program) (P : Params) : Obj := ⟨(.type "frame"), none, .plain, List.toArray [(some (.ref 218)), (some (.ref 3)), (some (.ref 215)), none, (some (.str (Str.ofString "vectorcove.values") 471)), none, (some (.ref 0))]⟩
noncomputable def o220_40 (p : Program) (P : Params) : Obj := ⟨(.type "tuple"), none, (.seq (List.toArray [.none]) 0), List.toArray []⟩
noncomputable def o221_40 (p : Program) (P : Params) : Obj := ⟨(.type "tuple"), none, (.seq (List.toArray []) 0), List.toArray []⟩
noncomputable def o222_40 (p : Program) (P : Params) : Obj := ⟨.none, none, (.fields (List.toArray [])), List.toArray []⟩
noncomputable def o223_40 (p : Program) (P : Params) : Obj := ⟨(.type "tuple"), none, (.seq (List.toArray [(.str (Str.ofString "self") 488), (.str (Str.ofString "kind") 489), (.str (Str.ofString "items") 490), (.str (Str.ofString "attrs") 491)]) 0), List.toArray []⟩
noncomputable def o224_40 (p : Program) (P : Params) : Obj := ⟨(.type "tuple"), none, (.seq (List.toArray []) 0), List.toArray []⟩
noncomputable def o225_40 (p : Program) (P : Params) : Obj := ⟨.none, none, (fd (sub (stm p 35) 0) (Str.ofString "__init__") (Str.ofString "Vector.__init__") 0 .none .none .none .none none .none .none 0 ), List.toArray []⟩
noncomputable def o226_40 (p : Program) (P : Params) : Obj := ⟨(.type "code"), none, (.fields (List.toArray [(.str (Str.ofString "__init__") 485), (.str (Str.ofString "Vector.__init__") 486), (.str (Str.ofString "/claim/cut.py") 487), (.int (232) 0), (.int (4) 0), (.int (0) 0), (.int (0) 0), (.int (3) 0), (.ref 221), (.bool true), (.int (181) 0), (.ref 222), .none, (.ref 223), (.ref 224), (.ref 225), (.int (492) 0), (.int (232) 0), (.str (Str.ofString "/claim/cut.py") 493)])), List.toArray []⟩
noncomputable def o227_40 (p : Program) (P : Params) : Obj := ⟨(.type "function"), none, (fd (sub (stm p 35) 0) (Str.ofString "__init__") (Str.ofString "Vector.__init__") 3 (.ref 220) .none .none (.str (Str.ofString "vectorcove.values") 471) none (.ref 226) .none 0 ), List.toArray []⟩
noncomputable def o228_40 (p : Program) (P : Params) : Obj := ⟨(.type "tuple"), none, (.seq (List.toArray []) 0), List.toArray []⟩
noncomputable def o229_40 (p : Program) (P : Params) : Obj := ⟨.none, none, (.fields (List.toArray [])), List.toArray []⟩
noncomputable def o230_40 (p : Program) (P : Params) : Obj := ⟨(.type "tuple"), none, (.seq (List.toArray [(.str (Str.ofString "self") 498)]) 0), List.toArray []⟩
noncomputable def o231_40 (p : Program) (P : Params) : Obj := ⟨(.type "tuple"), none, (.seq (List.toArray []) 0), List.toArray []⟩
noncomputable def o232_40 (p : Program) (P : Params) : Obj := ⟨.none, none, (fd (sub (stm p 35) 1) (Str.ofString "copy") (Str.ofString "Vector.copy") 0 .none .none .none .none none .none .none 0 ), List.toArray []⟩
noncomputable def o233_40 (p : Program) (P : Params) : Obj := ⟨(.type "code"), none, (.fields (List.toArray [(.str (Str.ofString "copy") 495), (.str (Str.ofString "Vector.copy") 496), (.str (Str.ofString "/claim/cut.py") 497), (.int (239) 0), (.int (1) 0), (.int (0) 0), (.int (0) 0), (.int (3) 0), (.ref 228), (.bool true), (.int (181) 0), (.ref 229), .none, (.ref 230), (.ref 231), (.ref 232), (.int (499) 0), (.int (239) 0), (.str (Str.ofString "/claim/cut.py") 500)])), List.toArray []⟩
noncomputable def o234_40 (p : Program) (P : Params) : Obj := ⟨(.type "function"), none, (fd (sub (stm p 35) 1) (Str.ofString "copy") (Str.ofString "Vector.copy") 3 .none .none .none (.str (Str.ofString "vectorcove.values") 471) none (.ref 233) .none 0 ), List.toArray []⟩
noncomputable def o235_40 (p : Program) (P : Params) : Obj := ⟨(.type "tuple"), none, (.seq (List.toArray [(.str (Str.ofString "attrs") 502), (.str (Str.ofString "items") 503), (.str (Str.ofString "kind") 504), (.str (Str.ofString "loose") 505), (.str (Str.ofString "shared") 506)]) 0), List.toArray []⟩
noncomputable def o236_40 (p : Program) (P : Params) : Obj := ⟨(.type "dict"), none, (.dict (List.toArray [en P (Str.ofString "__module__") 480 (.str (Str.ofString "vectorcove.values") 471), en P (Str.ofString "__firstlineno__") 484 (.int (230) 483), en P (Str.ofString "__init__") 494 (.ref 227), en P (Str.ofString "copy") 501 (.ref 234), en P (Str.ofString "__static_attributes__") 507 (.ref 235), en P (Str.ofString "__dict__") 509 (.ref 238), en P (Str.ofString "__weakref__") 511 (.ref 239), en P (Str.ofString "__doc__") 512 .none]) 4), List.toArray []⟩
noncomputable def o237_40 (p : Program) (P : Params) : Obj := ⟨(.type "type"), none, (.cls ⟨(Str.ofString "Vector"), [(.type "object")], [(.ref 237), (.type "object")], 236, (Str.ofString "Vector"), true, [], [], false, none, false⟩), List.toArray [none, none, (some (.str (Str.ofString "Vector") 473)), (some (.str (Str.ofString "Vector") 481)), (some (.builtin "object.__new__")), (some (.bool true))]⟩
noncomputable def o238_40 (p : Program) (P : Params) : Obj := ⟨(.type "getset_descriptor"), none, (.fields (List.toArray [(.str (Str.ofString "__dict__") 508), (.ref 237), (.builtin "function.__dict__"), (.builtin "function.__dict__#set")])), List.toArray []⟩
noncomputable def o239_40 (p : Program) (P : Params) : Obj := ⟨(.type "getset_descriptor"), none, (.fields (List.toArray [(.str (Str.ofString "__weakref__") 510), (.ref 237), (.builtin "ExceptionGroup.__weakref__"), .none])), List.toArray []⟩
noncomputable def o240_40 (p : Program) (P : Params) : Obj := ⟨(.type "super"), none, (.fields (List.toArray [(.ref 237), (.ref 237), (.ref 237)])), List.toArray []⟩
noncomputable def o241_40 (p : Program) (P : Params) : Obj := ⟨(.type "builtin_function_or_method"), none, (.fields (List.toArray [(.builtin "object.__init_subclass__"), (.ref 237)])), List.toArray []⟩
noncomputable def o242_40 (p : Program) (P : Params) : Obj := ⟨(.type "tuple"), none, (.seq (List.toArray []) 0), List.toArray []⟩
noncomputable def o243_40 (p : Program) (P : Params) : Obj := ⟨.none, none, (.fields (List.toArray [])), List.toArray []⟩
noncomputable def o244_40 (p : Program) (P : Params) : Obj := ⟨(.type "tuple"), none, (.seq (List.toArray [(.str (Str.ofString "items") 518)]) 0), List.toArray []⟩
noncomputable def o245_40 (p : Program) (P : Params) : Obj := ⟨(.type "tuple"), none, (.seq (List.toArray []) 0), List.toArray []⟩
noncomputable def o246_40 (p : Program) (P : Params) : Obj := ⟨.none, none, (fd (stm p 36) (Str.ofString "character") (Str.ofString "character") 0 .none .none .none .none none .none .none 0 ), List.toArray []⟩
noncomputable def o247_40 (p : Program) (P : Params) : Obj := ⟨(.type "code"), none, (.fields (List.toArray [(.str (Str.ofString "character") 515), (.str (Str.ofString "character") 516), (.str (Str.ofString "/claim/cut.py") 517), (.int (241) 0), (.int (1) 0), (.int (0) 0), (.int (0) 0), (.int (3) 0), (.ref 242), (.bool true), (.int (181) 0), (.ref 243), .none, (.ref 244), (.ref 245), (.ref 246), (.int (519) 0), (.int (241) 0), (.str (Str.ofString "/claim/cut.py") 520)])), List.toArray []⟩
noncomputable def o248_40 (p : Program) (P : Params) : Obj := ⟨(.type "function"), none, (fd (stm p 36) (Str.ofString "character") (Str.ofString "character") 3 .none .none .none (.str (Str.ofString "vectorcove.values") 471) none (.ref 247) .none 0 ), List.toArray []⟩
noncomputable def o249_40 (p : Program) (P : Params) : Obj := ⟨(.type "tuple"), none, (.seq (List.toArray []) 0), List.toArray []⟩
noncomputable def o250_40 (p : Program) (P : Params) : Obj := ⟨.none, none, (.fields (List.toArray [])), List.toArray []⟩
noncomputable def o251_40 (p : Program) (P : Params) : Obj := ⟨(.type "tuple"), none, (.seq (List.toArray [(.str (Str.ofString "v") 525), (.str (Str.ofString "kind") 526)]) 0), List.toArray []⟩
noncomputable def o252_40 (p : Program) (P : Params) : Obj := ⟨(.type "tuple"), none, (.seq (List.toArray []) 0), List.toArray []⟩
noncomputable def o253_40 (p : Program) (P : Params) : Obj := ⟨.none, none, (fd (stm p 37) (Str.ofString "length") (Str.ofString "length") 0 .none .none .none .none none .none .none 0 ), List.toArray []⟩
noncomputable def o254_40 (p : Program) (P : Params) : Obj := ⟨(.type "code"), none, (.fields (List.toArray [(.str (Str.ofString "length") 522), (.str (Str.ofString "length") 523), (.str (Str.ofString "/claim/cut.py") 524), (.int (243) 0), (.int (1) 0), (.int (0) 0), (.int (0) 0), (.int (3) 0), (.ref 249), (.bool true), (.int (181) 0), (.ref 250), .none, (.ref 251), (.ref 252), (.ref 253), (.int (527) 0), (.int (243) 0), (.str (Str.ofString "/claim/cut.py") 528)])), List.toArray []⟩
noncomputable def o255_40 (p : Program) (P : Params) : Obj := ⟨(.type "function"), none, (fd (stm p 37) (Str.ofString "length") (Str.ofString "length") 3 .none .none .none (.str (Str.ofString "vectorcove.values") 471) none (.ref 254) .none 0 ), List.toArray []⟩
noncomputable def o256_40 (p : Program) (P : Params) : Obj := ⟨(.type "tuple"), none, (.seq (List.toArray []) 0), List.toArray []⟩
noncomputable def o257_40 (p : Program) (P : Params) : Obj := ⟨.none, none, (.fields (List.toArray [])), List.toArray []⟩
noncomputable def o258_40 (p : Program) (P : Params) : Obj := ⟨(.type "tuple"), none, (.seq (List.toArray [(.str (Str.ofString "v") 533)]) 0), List.toArray []⟩
noncomputable def o259_40 (p : Program) (P : Params) : Obj := ⟨(.type "tuple"), none, (.seq (List.toArray []) 0), List.toArray []⟩
noncomputable def o260_40 (p : Program) (P : Params) : Obj := ⟨.none, none, (fd (stm p 38) (Str.ofString "is_vector") (Str.ofString "is_vector") 0 .none .none .none .none none .none .none 0 ), List.toArray []⟩
noncomputable def o261_40 (p : Program) (P : Params) : Obj := ⟨(.type "code"), none, (.fields (List.toArray [(.str (Str.ofString "is_vector") 530), (.str (Str.ofString "is_vector") 531), (.str (Str.ofString "/claim/cut.py") 532), (.int (254) 0), (.int (1) 0), (.int (0) 0), (.int (0) 0), (.int (3) 0), (.ref 256), (.bool true), (.int (181) 0), (.ref 257), .none, (.ref 258), (.ref 259), (.ref 260), (.int (534) 0), (.int (254) 0), (.str (Str.ofString "/claim/cut.py") 535)])), List.toArray []⟩
noncomputable def o262_40 (p : Program) (P : Params) : Obj := ⟨(.type "function"), none, (fd (stm p 38) (Str.ofString "is_vector") (Str.ofString "is_vector") 3 .none .none .none (.str (Str.ofString "vectorcove.values") 471) none (.ref 261) .none 0 ), List.toArray []⟩
noncomputable def o263_40 (p : Program) (P : Params) : Obj := ⟨(.type "tuple"), none, (.seq (List.toArray []) 0), List.toArray []⟩
noncomputable def o264_40 (p : Program) (P : Params) : Obj := ⟨.none, none, (.fields (List.toArray [])), List.toArray []⟩
noncomputable def o265_40 (p : Program) (P : Params) : Obj := ⟨(.type "tuple"), none, (.seq (List.toArray [(.str (Str.ofString "v") 540)]) 0), List.toArray []⟩
noncomputable def o266_40 (p : Program) (P : Params) : Obj := ⟨(.type "tuple"), none, (.seq (List.toArray []) 0), List.toArray []⟩
noncomputable def o267_40 (p : Program) (P : Params) : Obj := ⟨.none, none, (fd (stm p 39) (Str.ofString "is_atomic") (Str.ofString "is_atomic") 0 .none .none .none .none none .none .none 0 ), List.toArray []⟩
noncomputable def o268_40 (p : Program) (P : Params) : Obj := ⟨(.type "code"), none, (.fields (List.toArray [(.str (Str.ofString "is_atomic") 537), (.str (Str.ofString "is_atomic") 538), (.str (Str.ofString "/claim/cut.py") 539), (.int (256) 0), (.int (1) 0), (.int (0) 0), (.int (0) 0), (.int (3) 0), (.ref 263), (.bool true), (.int (181) 0), (.ref 264), .none, (.ref 265), (.ref 266), (.ref 267), (.int (541) 0), (.int (256) 0), (.str (Str.ofString "/claim/cut.py") 542)])), List.toArray []⟩
noncomputable def o269_40 (p : Program) (P : Params) : Obj := ⟨(.type "function"), none, (fd (stm p 39) (Str.ofString "is_atomic") (Str.ofString "is_atomic") 3 .none .none .none (.str (Str.ofString "vectorcove.values") 471) none (.ref 268) .none 0 ), List.toArray []⟩
noncomputable def o3_51 (p : Program) (P : Params) : Obj := ⟨(.type "dict"), none, (.dict (List.toArray [en P (Str.ofString "__name__") 165 (.str (Str.ofString "vectorcove.errors") 611), en P (Str.ofString "__doc__") 166 .none, en P (Str.ofString "__package__") 167 .none, en P (Str.ofString "__loader__") 168 (.builtin "__main__.__loader__#opaque"), en P (Str.ofString "__spec__") 169 .none, en P (Str.ofString "__annotations__") 170 (.ref 6), en P (Str.ofString "__builtins__") 171 (.ref 4), en P (Str.ofString "__file__") 173 (.str (Str.ofString "/claim/cut.py") 172), en P (Str.ofString "__cached__") 174 .none, en P (Str.ofString "_wall") 193 (.ref 21), en P (Str.ofString "NAN") 198 (.ref 22), en P (Str.ofString "INF") 201 (.ref 23), en P (Str.ofString "ZERO") 204 (.ref 24), en P (Str.ofString "gcd") 212 (.ref 31), en P (Str.ofString "make") 221 (.ref 38), en P (Str.ofString "from_int") 228 (.ref 45), en P (Str.ofString "is_na") 235 (.ref 52), en P (Str.ofString "is_finite") 242 (.ref 59), en P (Str.ofString "neg") 249 (.ref 66), en P (Str.ofString "to_whole") 257 (.ref 73), en P (Str.ofString "nearest_whole") 267 (.ref 80), en P (Str.ofString "exponent") 277 (.ref 87), en P (Str.ofString "MOST_EXPONENT") 281 (.int (4096) 280), en P (Str.ofString "whole_text") 291 (.ref 94), en P (Str.ofString "special_text") 298 (.ref 101), en P (Str.ofString "scaled") 308 (.ref 108), en P (Str.ofString "significant") 318 (.ref 115), en P (Str.ofString "without_tail") 326 (.ref 122), en P (Str.ofString "scientific_text") 338 (.ref 129), en P (Str.ofString "fixed_text") 348 (.ref 136), en P (Str.ofString "measures") 361 (.ref 143), en P (Str.ofString "chosen_form") 378 (.ref 150), en P (Str.ofString "formed") 387 (.ref 157), en P (Str.ofString "common_texts") 393 (.ref 162), en P (Str.ofString "number_text") 402 (.ref 170), en P (Str.ofString "digits_value") 412 (.ref 177), en P (Str.ofString "digit_run") 421 (.ref 184), en P (Str.ofString "exponent_value") 430 (.ref 191), en P (Str.ofString "powered") 439 (.ref 198), en P (Str.ofString "unsigned_number") 458 (.ref 205), en P (Str.ofString "parse_number") 470 (.ref 212), en P (Str.ofString "Vector") 514 (.ref 237), en P (Str.ofString "character") 521 (.ref 248), en P (Str.ofString "length") 529 (.ref 255), en P (Str.ofString "is_vector") 536 (.ref 262), en P (Str.ofString "is_atomic") 543 (.ref 269), en P (Str.ofString "share") 550 (.ref 276), en P (Str.ofString "get_attr") 560 (.ref 283), en P (Str.ofString "label_text") 568 (.ref 290), en P (Str.ofString "level_at") 576 (.ref 297), en P (Str.ofString "label_texts") 582 (.ref 302), en P (Str.ofString "names_of") 588 (.ref 307), en P (Str.ofString "dim_of") 596 (.ref 314), en P (Str.ofString "dimnames_of") 602 (.ref 319), en P (Str.ofString "class_attr") 610 (.ref 326)]) 55), List.toArray []⟩
noncomputable def o12_51 (p : Program) (P : Params) : Obj := ⟨.none, none, (.fields (List.toArray [(.int (1) 0), (.int (0) 0), (.ref 20), (.int (8) 0), (.int (0) 0), (.ref 30), (.int (12) 0), (.int (0) 0), (.ref 37), (.int (22) 0), (.int (0) 0), (.ref 44), (.int (26) 0), (.int (0) 0), (.ref 51), (.int (28) 0), (.int (0) 0), (.ref 58), (.int (30) 0), (.int (0) 0), (.ref 65), (.int (34) 0), (.int (0) 0), (.ref 72), (.int (39) 0), (.int (0) 0), (.ref 79), (.int (45) 0), (.int (0) 0), (.ref 86), (.int (58) 0), (.int (0) 0), (.ref 93), (.int (69) 0), (.int (0) 0), (.ref 100), (.int (77) 0), (.int (0) 0), (.ref 107), (.int (82) 0), (.int (0) 0), (.ref 114), (.int (91) 0), (.int (0) 0), (.ref 121), (.int (96) 0), (.int (0) 0), (.ref 128), (.int (103) 0), (.int (0) 0), (.ref 135), (.int (111) 0), (.int (0) 0), (.ref 142), (.int (118) 0), (.int (0) 0), (.ref 149), (.int (138) 0), (.int (0) 0), (.ref 156), (.int (145) 0), (.int (0) 0), (.ref 161), (.int (149) 0), (.int (0) 0), (.ref 169), (.int (151) 0), (.int (0) 0), (.ref 176), (.int (156) 0), (.int (0) 0), (.ref 183), (.int (160) 0), (.int (0) 0), (.ref 190), (.int (170) 0), (.int (0) 0), (.ref 197), (.int (180) 0), (.int (0) 0), (.ref 204), (.int (212) 0), (.int (0) 0), (.ref 211), (.int (230) 0), (.int (0) 0), (.ref 218), (.int (241) 0), (.int (0) 0), (.ref 247), (.int (243) 0), (.int (0) 0), (.ref 254), (.int (254) 0), (.int (0) 0), (.ref 261), (.int (256) 0), (.int (0) 0), (.ref 268), (.int (258) 0), (.int (0) 0), (.ref 275), (.int (263) 0), (.int (0) 0), (.ref 282), (.int (267) 0), (.int (0) 0), (.ref 289), (.int (275) 0), (.int (0) 0), (.ref 296), (.int (279) 0), (.int (0) 0), (.ref 301), (.int (285) 0), (.int (0) 0), (.ref 306), (.int (301) 0), (.int (0) 0), (.ref 313), (.int (306) 0), (.int (0) 0), (.ref 318), (.int (311) 0), (.int (0) 0), (.ref 325)])), List.toArray []⟩
noncomputable def o270_51 (p : Program) (P : Params) : Obj := ⟨(.type "tuple"), none, (.seq (List.toArray []) 0), List.toArray []⟩
noncomputable def o271_51 (p : Program) (P : Params) : Obj := ⟨.none, none, (.fields (List.toArray [])), List.toArray []⟩
noncomputable def o272_51 (p : Program) (P : Params) : Obj := ⟨(.type "tuple"), none, (.seq (List.toArray [(.str (Str.ofString "v") 547)]) 0), List.toArray []⟩
noncomputable def o273_51 (p : Program) (P : Params) : Obj := ⟨(.type "tuple"), none, (.seq (List.toArray []) 0), List.toArray []⟩
noncomputable def o274_51 (p : Program) (P : Params) : Obj := ⟨.none, none, (fd (stm p 40) (Str.ofString "share") (Str.ofString "share") 0 .none .none .none .none none .none .none 0 ), List.toArray []⟩
noncomputable def o275_51 (p : Program) (P : Params) : Obj := ⟨(.type "code"), none, (.fields (List.toArray [(.str (Str.ofString "share") 544), (.str (Str.ofString "share") 545), (.str (Str.ofString "/claim/cut.py") 546), (.int (258) 0), (.int (1) 0), (.int (0) 0), (.int (0) 0), (.int (3) 0), (.ref 270), (.bool true), (.int (181) 0), (.ref 271), .none, (.ref 272), (.ref 273), (.ref 274), (.int (548) 0), (.int (258) 0), (.str (Str.ofString "/claim/cut.py") 549)])), List.toArray []⟩
noncomputable def o276_51 (p : Program) (P : Params) : Obj := ⟨(.type "function"), none, (fd (stm p 40) (Str.ofString "share") (Str.ofString "share") 3 .none .none .none (.str (Str.ofString "vectorcove.values") 471) none (.ref 275) .none 0 ), List.toArray []⟩
noncomputable def o277_51 (p : Program) (P : Params) : Obj := ⟨(.type "tuple"), none, (.seq (List.toArray []) 0), List.toArray []⟩
noncomputable def o278_51 (p : Program) (P : Params) : Obj := ⟨.none, none, (.fields (List.toArray [])), List.toArray []⟩
noncomputable def o279_51 (p : Program) (P : Params) : Obj := ⟨(.type "tuple"), none, (.seq (List.toArray [(.str (Str.ofString "v") 556), (.str (Str.ofString "name") 557)]) 0), List.toArray []⟩
noncomputable def o280_51 (p : Program) (P : Params) : Obj := ⟨(.type "tuple"), none, (.seq (List.toArray []) 0), List.toArray []⟩
noncomputable def o281_51 (p : Program) (P : Params) : Obj := ⟨.none, none, (fd (stm p 42) (Str.ofString "get_attr") (Str.ofString "get_attr") 0 .none .none .none .none none .none .none 0 ), List.toArray []⟩
noncomputable def o282_51 (p : Program) (P : Params) : Obj := ⟨(.type "code"), none, (.fields (List.toArray [(.str (Str.ofString "get_attr") 553), (.str (Str.ofString "get_attr") 554), (.str (Str.ofString "/claim/cut.py") 555), (.int (263) 0), (.int (2) 0), (.int (0) 0), (.int (0) 0), (.int (3) 0), (.ref 277), (.bool true), (.int (181) 0), (.ref 278), .none, (.ref 279), (.ref 280), (.ref 281), (.int (558) 0), (.int (263) 0), (.str (Str.ofString "/claim/cut.py") 559)])), List.toArray []⟩
noncomputable def o283_51 (p : Program) (P : Params) : Obj := ⟨(.type "function"), none, (fd (stm p 42) (Str.ofString "get_attr") (Str.ofString "get_attr") 3 .none .none .none (.str (Str.ofString "vectorcove.attrs") 551) none (.ref 282) .none 0 ), List.toArray []⟩
noncomputable def o284_51 (p : Program) (P : Params) : Obj := ⟨(.type "tuple"), none, (.seq (List.toArray []) 0), List.toArray []⟩
noncomputable def o285_51 (p : Program) (P : Params) : Obj := ⟨.none, none, (.fields (List.toArray [])), List.toArray []⟩
noncomputable def o286_51 (p : Program) (P : Params) : Obj := ⟨(.type "tuple"), none, (.seq (List.toArray [(.str (Str.ofString "kind") 564), (.str (Str.ofString "item") 565)]) 0), List.toArray []⟩
noncomputable def o287_51 (p : Program) (P : Params) : Obj := ⟨(.type "tuple"), none, (.seq (List.toArray []) 0), List.toArray []⟩
noncomputable def o288_51 (p : Program) (P : Params) : Obj := ⟨.none, none, (fd (stm p 43) (Str.ofString "label_text") (Str.ofString "label_text") 0 .none .none .none .none none .none .none 0 ), List.toArray []⟩
noncomputable def o289_51 (p : Program) (P : Params) : Obj := ⟨(.type "code"), none, (.fields (List.toArray [(.str (Str.ofString "label_text") 561), (.str (Str.ofString "label_text") 562), (.str (Str.ofString "/claim/cut.py") 563), (.int (267) 0), (.int (2) 0), (.int (0) 0), (.int (0) 0), (.int (3) 0), (.ref 284), (.bool true), (.int (181) 0), (.ref 285), .none, (.ref 286), (.ref 287), (.ref 288), (.int (566) 0), (.int (267) 0), (.str (Str.ofString "/claim/cut.py") 567)])), List.toArray []⟩
noncomputable def o290_51 (p : Program) (P : Params) : Obj := ⟨(.type "function"), none, (fd (stm p 43) (Str.ofString "label_text") (Str.ofString "label_text") 3 .none .none .none (.str (Str.ofString "vectorcove.attrs") 551) none (.ref 289) .none 0 ), List.toArray []⟩
noncomputable def o291_51 (p : Program) (P : Params) : Obj := ⟨(.type "tuple"), none, (.seq (List.toArray []) 0), List.toArray []⟩
noncomputable def o292_51 (p : Program) (P : Params) : Obj := ⟨.none, none, (.fields (List.toArray [])), List.toArray []⟩
noncomputable def o293_51 (p : Program) (P : Params) : Obj := ⟨(.type "tuple"), none, (.seq (List.toArray [(.str (Str.ofString "texts") 572), (.str (Str.ofString "code") 573)]) 0), List.toArray []⟩
noncomputable def o294_51 (p : Program) (P : Params) : Obj := ⟨(.type "tuple"), none, (.seq (List.toArray []) 0), List.toArray []⟩
noncomputable def o295_51 (p : Program) (P : Params) : Obj := ⟨.none, none, (fd (stm p 44) (Str.ofString "level_at") (Str.ofString "level_at") 0 .none .none .none .none none .none .none 0 ), List.toArray []⟩
noncomputable def o296_51 (p : Program) (P : Params) : Obj := ⟨(.type "code"), none, (.fields (List.toArray [(.str (Str.ofString "level_at") 569), (.str (Str.ofString "level_at") 570), (.str (Str.ofString "/claim/cut.py") 571), (.int (275) 0), (.int (2) 0), (.int (0) 0), (.int (0) 0), (.int (3) 0), (.ref 291), (.bool true), (.int (181) 0), (.ref 292), .none, (.ref 293), (.ref 294), (.ref 295), (.int (574) 0), (.int (275) 0), (.str (Str.ofString "/claim/cut.py") 575)])), List.toArray []⟩
noncomputable def o297_51 (p : Program) (P : Params) : Obj := ⟨(.type "function"), none, (fd (stm p 44) (Str.ofString "level_at") (Str.ofString "level_at") 3 .none .none .none (.str (Str.ofString "vectorcove.attrs") 551) none (.ref 296) .none 0 ), List.toArray []⟩
noncomputable def o298_51 (p : Program) (P : Params) : Obj := ⟨(.type "tuple"), none, (.seq (List.toArray []) 0), List.toArray []⟩
noncomputable def o299_51 (p : Program) (P : Params) : Obj := ⟨.none, none, (.fields (List.toArray [])), List.toArray []⟩
noncomputable def o300_51 (p : Program) (P : Params) : Obj := ⟨.none, none, (fd (stm p 45) (Str.ofString "label_texts") (Str.ofString "label_texts") 0 .none .none .none .none none .none .none 0 ), List.toArray []⟩
noncomputable def o301_51 (p : Program) (P : Params) : Obj := ⟨(.type "code"), none, (.fields (List.toArray [(.str (Str.ofString "label_texts") 577), (.str (Str.ofString "label_texts") 578), (.str (Str.ofString "/claim/cut.py") 579), (.int (279) 0), (.int (1) 0), (.int (0) 0), (.int (0) 0), (.int (3) 0), (.ref 298), (.bool true), (.int (181) 0), (.ref 299), .none, .none, .none, (.ref 300), (.int (580) 0), (.int (279) 0), (.str (Str.ofString "/claim/cut.py") 581)])), List.toArray []⟩
noncomputable def o302_51 (p : Program) (P : Params) : Obj := ⟨(.type "function"), none, (fd (stm p 45) (Str.ofString "label_texts") (Str.ofString "label_texts") 3 .none .none .none (.str (Str.ofString "vectorcove.attrs") 551) none (.ref 301) .none 0 ), List.toArray []⟩
noncomputable def o303_51 (p : Program) (P : Params) : Obj := ⟨(.type "tuple"), none, (.seq (List.toArray []) 0), List.toArray []⟩
noncomputable def o304_51 (p : Program) (P : Params) : Obj := ⟨.none, none, (.fields (List.toArray [])), List.toArray []⟩
noncomputable def o305_51 (p : Program) (P : Params) : Obj := ⟨.none, none, (fd (stm p 46) (Str.ofString "names_of") (Str.ofString "names_of") 0 .none .none .none .none none .none .none 0 ), List.toArray []⟩
noncomputable def o306_51 (p : Program) (P : Params) : Obj := ⟨(.type "code"), none, (.fields (List.toArray [(.str (Str.ofString "names_of") 583), (.str (Str.ofString "names_of") 584), (.str (Str.ofString "/claim/cut.py") 585), (.int (285) 0), (.int (1) 0), (.int (0) 0), (.int (0) 0), (.int (3) 0), (.ref 303), (.bool true), (.int (181) 0), (.ref 304), .none, .none, .none, (.ref 305), (.int (586) 0), (.int (285) 0), (.str (Str.ofString "/claim/cut.py") 587)])), List.toArray []⟩
noncomputable def o307_51 (p : Program) (P : Params) : Obj := ⟨(.type "function"), none, (fd (stm p 46) (Str.ofString "names_of") (Str.ofString "names_of") 3 .none .none .none (.str (Str.ofString "vectorcove.attrs") 551) none (.ref 306) .none 0 ), List.toArray []⟩
noncomputable def o308_51 (p : Program) (P : Params) : Obj := ⟨(.type "tuple"), none, (.seq (List.toArray []) 0), List.toArray []⟩
noncomputable def o309_51 (p : Program) (P : Params) : Obj := ⟨.none, none, (.fields (List.toArray [])), List.toArray []⟩
noncomputable def o310_51 (p : Program) (P : Params) : Obj := ⟨(.type "tuple"), none, (.seq (List.toArray [(.str (Str.ofString "v") 592), (.str (Str.ofString "dims") 593)]) 0), List.toArray []⟩
noncomputable def o311_51 (p : Program) (P : Params) : Obj := ⟨(.type "tuple"), none, (.seq (List.toArray []) 0), List.toArray []⟩
noncomputable def o312_51 (p : Program) (P : Params) : Obj := ⟨.none, none, (fd (stm p 47) (Str.ofString "dim_of") (Str.ofString "dim_of") 0 .none .none .none .none none .none .none 0 ), List.toArray []⟩
noncomputable def o313_51 (p : Program) (P : Params) : Obj := ⟨(.type "code"), none, (.fields (List.toArray [(.str (Str.ofString "dim_of") 589), (.str (Str.ofString "dim_of") 590), (.str (Str.ofString "/claim/cut.py") 591), (.int (301) 0), (.int (1) 0), (.int (0) 0), (.int (0) 0), (.int (3) 0), (.ref 308), (.bool true), (.int (181) 0), (.ref 309), .none, (.ref 310), (.ref 311), (.ref 312), (.int (594) 0), (.int (301) 0), (.str (Str.ofString "/claim/cut.py") 595)])), List.toArray []⟩
noncomputable def o314_51 (p : Program) (P : Params) : Obj := ⟨(.type "function"), none, (fd (stm p 47) (Str.ofString "dim_of") (Str.ofString "dim_of") 3 .none .none .none (.str (Str.ofString "vectorcove.attrs") 551) none (.ref 313) .none 0 ), List.toArray []⟩
noncomputable def o315_51 (p : Program) (P : Params) : Obj := ⟨(.type "tuple"), none, (.seq (List.toArray []) 0), List.toArray []⟩
noncomputable def o316_51 (p : Program) (P : Params) : Obj := ⟨.none, none, (.fields (List.toArray [])), List.toArray []⟩
noncomputable def o317_51 (p : Program) (P : Params) : Obj := ⟨.none, none, (fd (stm p 48) (Str.ofString "dimnames_of") (Str.ofString "dimnames_of") 0 .none .none .none .none none .none .none 0 ), List.toArray []⟩
noncomputable def o318_51 (p : Program) (P : Params) : Obj := ⟨(.type "code"), none, (.fields (List.toArray [(.str (Str.ofString "dimnames_of") 597), (.str (Str.ofString "dimnames_of") 598), (.str (Str.ofString "/claim/cut.py") 599), (.int (306) 0), (.int (1) 0), (.int (0) 0), (.int (0) 0), (.int (3) 0), (.ref 315), (.bool true), (.int (181) 0), (.ref 316), .none, .none, .none, (.ref 317), (.int (600) 0), (.int (306) 0), (.str (Str.ofString "/claim/cut.py") 601)])), List.toArray []⟩
noncomputable def o319_51 (p : Program) (P : Params) : Obj := ⟨(.type "function"), none, (fd (stm p 48) (Str.ofString "dimnames_of") (Str.ofString "dimnames_of") 3 .none .none .none (.str (Str.ofString "vectorcove.attrs") 551) none (.ref 318) .none 0 ), List.toArray []⟩
noncomputable def o320_51 (p : Program) (P : Params) : Obj := ⟨(.type "tuple"), none, (.seq (List.toArray []) 0), List.toArray []⟩
noncomputable def o321_51 (p : Program) (P : Params) : Obj := ⟨.none, none, (.fields (List.toArray [])), List.toArray []⟩
noncomputable def o322_51 (p : Program) (P : Params) : Obj := ⟨(.type "tuple"), none, (.seq (List.toArray [(.str (Str.ofString "v") 606), (.str (Str.ofString "found") 607)]) 0), List.toArray []⟩
noncomputable def o323_51 (p : Program) (P : Params) : Obj := ⟨(.type "tuple"), none, (.seq (List.toArray []) 0), List.toArray []⟩
noncomputable def o324_51 (p : Program) (P : Params) : Obj := ⟨.none, none, (fd (stm p 49) (Str.ofString "class_attr") (Str.ofString "class_attr") 0 .none .none .none .none none .none .none 0 ), List.toArray []⟩
noncomputable def o325_51 (p : Program) (P : Params) : Obj := ⟨(.type "code"), none, (.fields (List.toArray [(.str (Str.ofString "class_attr") 603), (.str (Str.ofString "class_attr") 604), (.str (Str.ofString "/claim/cut.py") 605), (.int (311) 0), (.int (1) 0), (.int (0) 0), (.int (0) 0), (.int (3) 0), (.ref 320), (.bool true), (.int (181) 0), (.ref 321), .none, (.ref 322), (.ref 323), (.ref 324), (.int (608) 0), (.int (311) 0), (.str (Str.ofString "/claim/cut.py") 609)])), List.toArray []⟩
noncomputable def o326_51 (p : Program) (P : Params) : Obj := ⟨(.type "function"), none, (fd (stm p 49) (Str.ofString "class_attr") (Str.ofString "class_attr") 3 .none .none .none (.str (Str.ofString "vectorcove.attrs") 551) none (.ref 325) .none 0 ), List.toArray []⟩
noncomputable def o2_52 (p : Program) (P : Params) : Obj := ⟨.none, none, (.dict (List.toArray [en P (Str.ofString "type.__subclasses__.Exception.0") 629 (.int (336) 0), en P (Str.ofString "type.__subclasses__.Exception.n") 630 (.int (1) 0)]) 2), List.toArray []⟩
noncomputable def o3_52 (p : Program) (P : Params) : Obj := ⟨(.type "dict"), none, (.dict (List.toArray [en P (Str.ofString "__name__") 165 (.str (Str.ofString "vectorcove.errors") 611), en P (Str.ofString "__doc__") 166 .none, en P (Str.ofString "__package__") 167 .none, en P (Str.ofString "__loader__") 168 (.builtin "__main__.__loader__#opaque"), en P (Str.ofString "__spec__") 169 .none, en P (Str.ofString "__annotations__") 170 (.ref 6), en P (Str.ofString "__builtins__") 171 (.ref 4), en P (Str.ofString "__file__") 173 (.str (Str.ofString "/claim/cut.py") 172), en P (Str.ofString "__cached__") 174 .none, en P (Str.ofString "_wall") 193 (.ref 21), en P (Str.ofString "NAN") 198 (.ref 22), en P (Str.ofString "INF") 201 (.ref 23), en P (Str.ofString "ZERO") 204 (.ref 24), en P (Str.ofString "gcd") 212 (.ref 31), en P (Str.ofString "make") 221 (.ref 38), en P (Str.ofString "from_int") 228 (.ref 45), en P (Str.ofString "is_na") 235 (.ref 52), en P (Str.ofString "is_finite") 242 (.ref 59), en P (Str.ofString "neg") 249 (.ref 66), en P (Str.ofString "to_whole") 257 (.ref 73), en P (Str.ofString "nearest_whole") 267 (.ref 80), en P (Str.ofString "exponent") 277 (.ref 87), en P (Str.ofString "MOST_EXPONENT") 281 (.int (4096) 280), en P (Str.ofString "whole_text") 291 (.ref 94), en P (Str.ofString "special_text") 298 (.ref 101), en P (Str.ofString "scaled") 308 (.ref 108), en P (Str.ofString "significant") 318 (.ref 115), en P (Str.ofString "without_tail") 326 (.ref 122), en P (Str.ofString "scientific_text") 338 (.ref 129), en P (Str.ofString "fixed_text") 348 (.ref 136), en P (Str.ofString "measures") 361 (.ref 143), en P (Str.ofString "chosen_form") 378 (.ref 150), en P (Str.ofString "formed") 387 (.ref 157), en P (Str.ofString "common_texts") 393 (.ref 162), en P (Str.ofString "number_text") 402 (.ref 170), en P (Str.ofString "digits_value") 412 (.ref 177), en P (Str.ofString "digit_run") 421 (.ref 184), en P (Str.ofString "exponent_value") 430 (.ref 191), en P (Str.ofString "powered") 439 (.ref 198), en P (Str.ofString "unsigned_number") 458 (.ref 205), en P (Str.ofString "parse_number") 470 (.ref 212), en P (Str.ofString "Vector") 514 (.ref 237), en P (Str.ofString "character") 521 (.ref 248), en P (Str.ofString "length") 529 (.ref 255), en P (Str.ofString "is_vector") 536 (.ref 262), en P (Str.ofString "is_atomic") 543 (.ref 269), en P (Str.ofString "share") 550 (.ref 276), en P (Str.ofString "get_attr") 560 (.ref 283), en P (Str.ofString "label_text") 568 (.ref 290), en P (Str.ofString "level_at") 576 (.ref 297), en P (Str.ofString "label_texts") 582 (.ref 302), en P (Str.ofString "names_of") 588 (.ref 307), en P (Str.ofString "dim_of") 596 (.ref 314), en P (Str.ofString "dimnames_of") 602 (.ref 319), en P (Str.ofString "class_attr") 610 (.ref 326), en P (Str.ofString "CoveError") 632 (.ref 336)]) 56), List.toArray []⟩
noncomputable def o12_52 (p : Program) (P : Params) : Obj := ⟨.none, none, (.fields (List.toArray [(.int (1) 0), (.int (0) 0), (.ref 20), (.int (8) 0), (.int (0) 0), (.ref 30), (.int (12) 0), (.int (0) 0), (.ref 37), (.int (22) 0), (.int (0) 0), (.ref 44), (.int (26) 0), (.int (0) 0), (.ref 51), (.int (28) 0), (.int (0) 0), (.ref 58), (.int (30) 0), (.int (0) 0), (.ref 65), (.int (34) 0), (.int (0) 0), (.ref 72), (.int (39) 0), (.int (0) 0), (.ref 79), (.int (45) 0), (.int (0) 0), (.ref 86), (.int (58) 0), (.int (0) 0), (.ref 93), (.int (69) 0), (.int (0) 0), (.ref 100), (.int (77) 0), (.int (0) 0), (.ref 107), (.int (82) 0), (.int (0) 0), (.ref 114), (.int (91) 0), (.int (0) 0), (.ref 121), (.int (96) 0), (.int (0) 0), (.ref 128), (.int (103) 0), (.int (0) 0), (.ref 135), (.int (111) 0), (.int (0) 0), (.ref 142), (.int (118) 0), (.int (0) 0), (.ref 149), (.int (138) 0), (.int (0) 0), (.ref 156), (.int (145) 0), (.int (0) 0), (.ref 161), (.int (149) 0), (.int (0) 0), (.ref 169), (.int (151) 0), (.int (0) 0), (.ref 176), (.int (156) 0), (.int (0) 0), (.ref 183), (.int (160) 0), (.int (0) 0), (.ref 190), (.int (170) 0), (.int (0) 0), (.ref 197), (.int (180) 0), (.int (0) 0), (.ref 204), (.int (212) 0), (.int (0) 0), (.ref 211), (.int (230) 0), (.int (0) 0), (.ref 218), (.int (241) 0), (.int (0) 0), (.ref 247), (.int (243) 0), (.int (0) 0), (.ref 254), (.int (254) 0), (.int (0) 0), (.ref 261), (.int (256) 0), (.int (0) 0), (.ref 268), (.int (258) 0), (.int (0) 0), (.ref 275), (.int (263) 0), (.int (0) 0), (.ref 282), (.int (267) 0), (.int (0) 0), (.ref 289), (.int (275) 0), (.int (0) 0), (.ref 296), (.int (279) 0), (.int (0) 0), (.ref 301), (.int (285) 0), (.int (0) 0), (.ref 306), (.int (301) 0), (.int (0) 0), (.ref 313), (.int (306) 0), (.int (0) 0), (.ref 318), (.int (311) 0), (.int (0) 0), (.ref 325), (.int (317) 0), (.int (0) 0), (.ref 332)])), List.toArray []⟩
noncomputable def o327_52 (p : Program) (P : Params) : Obj := ⟨(.type "tuple"), none, (.seq (List.toArray [(.type "Exception")]) 0), List.toArray []⟩
noncomputable def o328_52 (p : Program) (P : Params) : Obj := ⟨(.type "builtin_function_or_method"), none, (.fields (List.toArray [(.builtin "type.__prepare__"), (.type "type")])), List.toArray []⟩
noncomputable def o329_52 (p : Program) (P : Params) : Obj := ⟨(.type "dict"), none, (.dict (List.toArray [en P (Str.ofString "__module__") 620 (.str (Str.ofString "vectorcove.errors") 611), en P (Str.ofString "__qualname__") 622 (.str (Str.ofString "CoveError") 621), en P (Str.ofString "__firstlineno__") 624 (.int (317) 623), en P (Str.ofString "__static_attributes__") 625 (.ref 334)]) 4), List.toArray []⟩
noncomputable def o330_52 (p : Program) (P : Params) : Obj := ⟨(.type "tuple"), none, (.seq (List.toArray []) 0), List.toArray []⟩
noncomputable def o331_52 (p : Program) (P : Params) : Obj := ⟨.none, none, (.fields (List.toArray [])), List.toArray []⟩
noncomputable def o332_52 (p : Program) (P : Params) : Obj := ⟨(.type "code"), none, (.fields (List.toArray [(.str (Str.ofString "CoveError") 615), (.str (Str.ofString "CoveError") 616), (.str (Str.ofString "/claim/cut.py") 617), (.int (317) 0), (.int (0) 0), (.int (0) 0), (.int (0) 0), (.int (0) 0), (.ref 330), (.bool false), (.int (181) 0), (.ref 331), .none, .none, .none, .none, (.int (618) 0), (.int (317) 0), (.str (Str.ofString "/claim/cut.py") 619)])), List.toArray []⟩
noncomputable def o333_52 (p : Program) (P : Params) : Obj := ⟨(.type "frame"), none, .plain, List.toArray [(some (.ref 332)), (some (.ref 3)), (some (.ref 329)), none, (some (.str (Str.ofString "vectorcove.errors") 611)), none, (some (.ref 0))]⟩
noncomputable def o334_52 (p : Program) (P : Params) : Obj := ⟨(.type "tuple"), none, (.seq (List.toArray []) 0), List.toArray []⟩
noncomputable def o335_52 (p : Program) (P : Params) : Obj := ⟨(.type "dict"), none, (.dict (List.toArray [en P (Str.ofString "__module__") 620 (.str (Str.ofString "vectorcove.errors") 611), en P (Str.ofString "__firstlineno__") 624 (.int (317) 623), en P (Str.ofString "__static_attributes__") 625 (.ref 334), en P (Str.ofString "__weakref__") 627 (.ref 337), en P (Str.ofString "__doc__") 628 .none]) 3), List.toArray []⟩
noncomputable def o336_52 (p : Program) (P : Params) : Obj := ⟨(.type "type"), none, (.cls ⟨(Str.ofString "CoveError"), [(.type "Exception")], [(.ref 336), (.type "Exception"), (.type "BaseException"), (.type "object")], 335, (Str.ofString "CoveError"), true, [], [], false, none, false⟩), List.toArray [(some (.ref 327)), none, (some (.str (Str.ofString "CoveError") 613)), (some (.str (Str.ofString "CoveError") 621)), (some (.builtin "Exception.__new__")), (some (.bool true))]⟩
noncomputable def o337_52 (p : Program) (P : Params) : Obj := ⟨(.type "getset_descriptor"), none, (.fields (List.toArray [(.str (Str.ofString "__weakref__") 626), (.ref 336), (.builtin "ExceptionGroup.__weakref__"), .none])), List.toArray []⟩
noncomputable def o338_52 (p : Program) (P : Params) : Obj := ⟨(.type "super"), none, (.fields (List.toArray [(.ref 336), (.ref 336), (.ref 336)])), List.toArray []⟩
noncomputable def o339_52 (p : Program) (P : Params) : Obj := ⟨(.type "builtin_function_or_method"), none, (.fields (List.toArray [(.builtin "object.__init_subclass__"), (.ref 336)])), List.toArray []⟩
noncomputable def o3_59 (p : Program) (P : Params) : Obj := ⟨(.type "dict"), none, (.dict (List.toArray [en P (Str.ofString "__name__") 165 (.str (Str.ofString "vectorcove.coerce") 658), en P (Str.ofString "__doc__") 166 .none, en P (Str.ofString "__package__") 167 .none, en P (Str.ofString "__loader__") 168 (.builtin "__main__.__loader__#opaque"), en P (Str.ofString "__spec__") 169 .none, en P (Str.ofString "__annotations__") 170 (.ref 6), en P (Str.ofString "__builtins__") 171 (.ref 4), en P (Str.ofString "__file__") 173 (.str (Str.ofString "/claim/cut.py") 172), en P (Str.ofString "__cached__") 174 .none, en P (Str.ofString "_wall") 193 (.ref 21), en P (Str.ofString "NAN") 198 (.ref 22), en P (Str.ofString "INF") 201 (.ref 23), en P (Str.ofString "ZERO") 204 (.ref 24), en P (Str.ofString "gcd") 212 (.ref 31), en P (Str.ofString "make") 221 (.ref 38), en P (Str.ofString "from_int") 228 (.ref 45), en P (Str.ofString "is_na") 235 (.ref 52), en P (Str.ofString "is_finite") 242 (.ref 59), en P (Str.ofString "neg") 249 (.ref 66), en P (Str.ofString "to_whole") 257 (.ref 73), en P (Str.ofString "nearest_whole") 267 (.ref 80), en P (Str.ofString "exponent") 277 (.ref 87), en P (Str.ofString "MOST_EXPONENT") 281 (.int (4096) 280), en P (Str.ofString "whole_text") 291 (.ref 94), en P (Str.ofString "special_text") 298 (.ref 101), en P (Str.ofString "scaled") 308 (.ref 108), en P (Str.ofString "significant") 318 (.ref 115), en P (Str.ofString "without_tail") 326 (.ref 122), en P (Str.ofString "scientific_text") 338 (.ref 129), en P (Str.ofString "fixed_text") 348 (.ref 136), en P (Str.ofString "measures") 361 (.ref 143), en P (Str.ofString "chosen_form") 378 (.ref 150), en P (Str.ofString "formed") 387 (.ref 157), en P (Str.ofString "common_texts") 393 (.ref 162), en P (Str.ofString "number_text") 402 (.ref 170), en P (Str.ofString "digits_value") 412 (.ref 177), en P (Str.ofString "digit_run") 421 (.ref 184), en P (Str.ofString "exponent_value") 430 (.ref 191), en P (Str.ofString "powered") 439 (.ref 198), en P (Str.ofString "unsigned_number") 458 (.ref 205), en P (Str.ofString "parse_number") 470 (.ref 212), en P (Str.ofString "Vector") 514 (.ref 237), en P (Str.ofString "character") 521 (.ref 248), en P (Str.ofString "length") 529 (.ref 255), en P (Str.ofString "is_vector") 536 (.ref 262), en P (Str.ofString "is_atomic") 543 (.ref 269), en P (Str.ofString "share") 550 (.ref 276), en P (Str.ofString "get_attr") 560 (.ref 283), en P (Str.ofString "label_text") 568 (.ref 290), en P (Str.ofString "level_at") 576 (.ref 297), en P (Str.ofString "label_texts") 582 (.ref 302), en P (Str.ofString "names_of") 588 (.ref 307), en P (Str.ofString "dim_of") 596 (.ref 314), en P (Str.ofString "dimnames_of") 602 (.ref 319), en P (Str.ofString "class_attr") 610 (.ref 326), en P (Str.ofString "CoveError") 632 (.ref 336), en P (Str.ofString "Refusal") 657 (.ref 356), en P (Str.ofString "MOST_INTEGER") 661 (.int (2147483647) 660), en P (Str.ofString "kind_order") 669 (.ref 365), en P (Str.ofString "common_kind") 679 (.ref 372), en P (Str.ofString "note") 687 (.ref 379), en P (Str.ofString "as_logical_text") 694 (.ref 386)]) 62), List.toArray []⟩
noncomputable def o12_59 (p : Program) (P : Params) : Obj := ⟨.none, none, (.fields (List.toArray [(.int (1) 0), (.int (0) 0), (.ref 20), (.int (8) 0), (.int (0) 0), (.ref 30), (.int (12) 0), (.int (0) 0), (.ref 37), (.int (22) 0), (.int (0) 0), (.ref 44), (.int (26) 0), (.int (0) 0), (.ref 51), (.int (28) 0), (.int (0) 0), (.ref 58), (.int (30) 0), (.int (0) 0), (.ref 65), (.int (34) 0), (.int (0) 0), (.ref 72), (.int (39) 0), (.int (0) 0), (.ref 79), (.int (45) 0), (.int (0) 0), (.ref 86), (.int (58) 0), (.int (0) 0), (.ref 93), (.int (69) 0), (.int (0) 0), (.ref 100), (.int (77) 0), (.int (0) 0), (.ref 107), (.int (82) 0), (.int (0) 0), (.ref 114), (.int (91) 0), (.int (0) 0), (.ref 121), (.int (96) 0), (.int (0) 0), (.ref 128), (.int (103) 0), (.int (0) 0), (.ref 135), (.int (111) 0), (.int (0) 0), (.ref 142), (.int (118) 0), (.int (0) 0), (.ref 149), (.int (138) 0), (.int (0) 0), (.ref 156), (.int (145) 0), (.int (0) 0), (.ref 161), (.int (149) 0), (.int (0) 0), (.ref 169), (.int (151) 0), (.int (0) 0), (.ref 176), (.int (156) 0), (.int (0) 0), (.ref 183), (.int (160) 0), (.int (0) 0), (.ref 190), (.int (170) 0), (.int (0) 0), (.ref 197), (.int (180) 0), (.int (0) 0), (.ref 204), (.int (212) 0), (.int (0) 0), (.ref 211), (.int (230) 0), (.int (0) 0), (.ref 218), (.int (241) 0), (.int (0) 0), (.ref 247), (.int (243) 0), (.int (0) 0), (.ref 254), (.int (254) 0), (.int (0) 0), (.ref 261), (.int (256) 0), (.int (0) 0), (.ref 268), (.int (258) 0), (.int (0) 0), (.ref 275), (.int (263) 0), (.int (0) 0), (.ref 282), (.int (267) 0), (.int (0) 0), (.ref 289), (.int (275) 0), (.int (0) 0), (.ref 296), (.int (279) 0), (.int (0) 0), (.ref 301), (.int (285) 0), (.int (0) 0), (.ref 306), (.int (301) 0), (.int (0) 0), (.ref 313), (.int (306) 0), (.int (0) 0), (.ref 318), (.int (311) 0), (.int (0) 0), (.ref 325), (.int (317) 0), (.int (0) 0), (.ref 332), (.int (319) 0), (.int (0) 0), (.ref 345), (.int (325) 0), (.int (0) 0), (.ref 364), (.int (330) 0), (.int (0) 0), (.ref 371), (.int (336) 0), (.int (0) 0), (.ref 378), (.int (339) 0), (.int (0) 0), (.ref 385)])), List.toArray []⟩
noncomputable def o336_59 (p : Program) (P : Params) : Obj := ⟨(.type "type"), none, (.cls ⟨(Str.ofString "CoveError"), [(.type "Exception")], [(.ref 336), (.type "Exception"), (.type "BaseException"), (.type "object")], 335, (Str.ofString "CoveError"), true, [], [(.ref 356)], false, none, false⟩), List.toArray [(some (.ref 327)), none, (some (.str (Str.ofString "CoveError") 613)), (some (.str (Str.ofString "CoveError") 621)), (some (.builtin "Exception.__new__")), (some (.bool true))]⟩
noncomputable def o340_59 (p : Program) (P : Params) : Obj := ⟨(.type "tuple"), none, (.seq (List.toArray [(.ref 336)]) 0), List.toArray []⟩
noncomputable def o341_59 (p : Program) (P : Params) : Obj := ⟨(.type "builtin_function_or_method"), none, (.fields (List.toArray [(.builtin "type.__prepare__"), (.type "type")])), List.toArray []⟩
noncomputable def o342_59 (p : Program) (P : Params) : Obj := ⟨(.type "dict"), none, (.dict (List.toArray [en P (Str.ofString "__module__") 640 (.str (Str.ofString "vectorcove.errors") 611), en P (Str.ofString "__qualname__") 642 (.str (Str.ofString "Refusal") 641), en P (Str.ofString "__firstlineno__") 644 (.int (319) 643), en P (Str.ofString "__init__") 652 (.ref 353), en P (Str.ofString "__static_attributes__") 654 (.ref 354)]) 5), List.toArray []⟩
noncomputable def o343_59 (p : Program) (P : Params) : Obj := ⟨(.type "tuple"), none, (.seq (List.toArray []) 0), List.toArray []⟩
noncomputable def o344_59 (p : Program) (P : Params) : Obj := ⟨.none, none, (.fields (List.toArray [(.int (321) 0), (.int (4) 0), (.ref 352)])), List.toArray []⟩
noncomputable def o345_59 (p : Program) (P : Params) : Obj := ⟨(.type "code"), none, (.fields (List.toArray [(.str (Str.ofString "Refusal") 635), (.str (Str.ofString "Refusal") 636), (.str (Str.ofString "/claim/cut.py") 637), (.int (319) 0), (.int (0) 0), (.int (0) 0), (.int (0) 0), (.int (0) 0), (.ref 343), (.bool false), (.int (181) 0), (.ref 344), .none, .none, .none, .none, (.int (638) 0), (.int (319) 0), (.str (Str.ofString "/claim/cut.py") 639)])), List.toArray []⟩
noncomputable def o346_59 (p : Program) (P : Params) : Obj := ⟨(.type "frame"), none, .plain, List.toArray [(some (.ref 345)), (some (.ref 3)), (some (.ref 342)), none, (some (.str (Str.ofString "vectorcove.errors") 611)), none, (some (.ref 0))]⟩
noncomputable def o347_59 (p : Program) (P : Params) : Obj := ⟨(.type "tuple"), none, (.seq (List.toArray []) 0), List.toArray []⟩
noncomputable def o348_59 (p : Program) (P : Params) : Obj := ⟨.none, none, (.fields (List.toArray [])), List.toArray []⟩
noncomputable def o349_59 (p : Program) (P : Params) : Obj := ⟨(.type "tuple"), none, (.seq (List.toArray [(.str (Str.ofString "self") 648), (.str (Str.ofString "message") 649)]) 0), List.toArray []⟩
noncomputable def o350_59 (p : Program) (P : Params) : Obj := ⟨(.type "tuple"), none, (.seq (List.toArray []) 0), List.toArray []⟩
noncomputable def o351_59 (p : Program) (P : Params) : Obj := ⟨.none, none, (fd (sub (stm p 52) 0) (Str.ofString "__init__") (Str.ofString "Refusal.__init__") 0 .none .none .none .none none .none .none 0 ), List.toArray []⟩
noncomputable def o352_59 (p : Program) (P : Params) : Obj := ⟨(.type "code"), none, (.fields (List.toArray [(.str (Str.ofString "__init__") 645), (.str (Str.ofString "Refusal.__init__") 646), (.str (Str.ofString "/claim/cut.py") 647), (.int (321) 0), (.int (2) 0), (.int (0) 0), (.int (0) 0), (.int (3) 0), (.ref 347), (.bool true), (.int (181) 0), (.ref 348), .none, (.ref 349), (.ref 350), (.ref 351), (.int (650) 0), (.int (321) 0), (.str (Str.ofString "/claim/cut.py") 651)])), List.toArray []⟩
noncomputable def o353_59 (p : Program) (P : Params) : Obj := ⟨(.type "function"), none, (fd (sub (stm p 52) 0) (Str.ofString "__init__") (Str.ofString "Refusal.__init__") 3 .none .none .none (.str (Str.ofString "vectorcove.errors") 611) none (.ref 352) .none 0 ), List.toArray []⟩
noncomputable def o354_59 (p : Program) (P : Params) : Obj := ⟨(.type "tuple"), none, (.seq (List.toArray [(.str (Str.ofString "message") 653)]) 0), List.toArray []⟩
noncomputable def o355_59 (p : Program) (P : Params) : Obj := ⟨(.type "dict"), none, (.dict (List.toArray [en P (Str.ofString "__module__") 640 (.str (Str.ofString "vectorcove.errors") 611), en P (Str.ofString "__firstlineno__") 644 (.int (319) 643), en P (Str.ofString "__init__") 652 (.ref 353), en P (Str.ofString "__static_attributes__") 654 (.ref 354), en P (Str.ofString "__doc__") 655 .none]) 2), List.toArray []⟩
noncomputable def o356_59 (p : Program) (P : Params) : Obj := ⟨(.type "type"), none, (.cls ⟨(Str.ofString "Refusal"), [(.ref 336)], [(.ref 356), (.ref 336), (.type "Exception"), (.type "BaseException"), (.type "object")], 355, (Str.ofString "Refusal"), true, [], [], false, none, false⟩), List.toArray [(some (.ref 340)), none, (some (.str (Str.ofString "Refusal") 633)), (some (.str (Str.ofString "Refusal") 641)), (some (.builtin "Exception.__new__")), (some (.bool true))]⟩
noncomputable def o357_59 (p : Program) (P : Params) : Obj := ⟨(.type "super"), none, (.fields (List.toArray [(.ref 356), (.ref 356), (.ref 356)])), List.toArray []⟩
noncomputable def o358_59 (p : Program) (P : Params) : Obj := ⟨(.type "builtin_function_or_method"), none, (.fields (List.toArray [(.builtin "object.__init_subclass__"), (.ref 356)])), List.toArray []⟩
noncomputable def o359_59 (p : Program) (P : Params) : Obj := ⟨(.type "tuple"), none, (.seq (List.toArray []) 0), List.toArray []⟩
noncomputable def o360_59 (p : Program) (P : Params) : Obj := ⟨.none, none, (.fields (List.toArray [])), List.toArray []⟩
noncomputable def o361_59 (p : Program) (P : Params) : Obj := ⟨(.type "tuple"), none, (.seq (List.toArray [(.str (Str.ofString "kind") 665), (.str (Str.ofString "kinds") 666)]) 0), List.toArray []⟩
noncomputable def o362_59 (p : Program) (P : Params) : Obj := ⟨(.type "tuple"), none, (.seq (List.toArray []) 0), List.toArray []⟩
noncomputable def o363_59 (p : Program) (P : Params) : Obj := ⟨.none, none, (fd (stm p 55) (Str.ofString "kind_order") (Str.ofString "kind_order") 0 .none .none .none .none none .none .none 0 ), List.toArray []⟩
noncomputable def o364_59 (p : Program) (P : Params) : Obj := ⟨(.type "code"), none, (.fields (List.toArray [(.str (Str.ofString "kind_order") 662), (.str (Str.ofString "kind_order") 663), (.str (Str.ofString "/claim/cut.py") 664), (.int (325) 0), (.int (1) 0), (.int (0) 0), (.int (0) 0), (.int (3) 0), (.ref 359), (.bool true), (.int (181) 0), (.ref 360), .none, (.ref 361), (.ref 362), (.ref 363), (.int (667) 0), (.int (325) 0), (.str (Str.ofString "/claim/cut.py") 668)])), List.toArray []⟩
noncomputable def o365_59 (p : Program) (P : Params) : Obj := ⟨(.type "function"), none, (fd (stm p 55) (Str.ofString "kind_order") (Str.ofString "kind_order") 3 .none .none .none (.str (Str.ofString "vectorcove.coerce") 658) none (.ref 364) .none 0 ), List.toArray []⟩
noncomputable def o366_59 (p : Program) (P : Params) : Obj := ⟨(.type "tuple"), none, (.seq (List.toArray []) 0), List.toArray []⟩
noncomputable def o367_59 (p : Program) (P : Params) : Obj := ⟨.none, none, (.fields (List.toArray [])), List.toArray []⟩
noncomputable def o368_59 (p : Program) (P : Params) : Obj := ⟨(.type "tuple"), none, (.seq (List.toArray [(.str (Str.ofString "kinds") 673), (.str (Str.ofString "names") 674), (.str (Str.ofString "most") 675), (.str (Str.ofString "kind") 676)]) 0), List.toArray []⟩
noncomputable def o369_59 (p : Program) (P : Params) : Obj := ⟨(.type "tuple"), none, (.seq (List.toArray []) 0), List.toArray []⟩
noncomputable def o370_59 (p : Program) (P : Params) : Obj := ⟨.none, none, (fd (stm p 56) (Str.ofString "common_kind") (Str.ofString "common_kind") 0 .none .none .none .none none .none .none 0 ), List.toArray []⟩
noncomputable def o371_59 (p : Program) (P : Params) : Obj := ⟨(.type "code"), none, (.fields (List.toArray [(.str (Str.ofString "common_kind") 670), (.str (Str.ofString "common_kind") 671), (.str (Str.ofString "/claim/cut.py") 672), (.int (330) 0), (.int (1) 0), (.int (0) 0), (.int (0) 0), (.int (3) 0), (.ref 366), (.bool true), (.int (181) 0), (.ref 367), .none, (.ref 368), (.ref 369), (.ref 370), (.int (677) 0), (.int (330) 0), (.str (Str.ofString "/claim/cut.py") 678)])), List.toArray []⟩
noncomputable def o372_59 (p : Program) (P : Params) : Obj := ⟨(.type "function"), none, (fd (stm p 56) (Str.ofString "common_kind") (Str.ofString "common_kind") 3 .none .none .none (.str (Str.ofString "vectorcove.coerce") 658) none (.ref 371) .none 0 ), List.toArray []⟩
noncomputable def o373_59 (p : Program) (P : Params) : Obj := ⟨(.type "tuple"), none, (.seq (List.toArray []) 0), List.toArray []⟩
noncomputable def o374_59 (p : Program) (P : Params) : Obj := ⟨.none, none, (.fields (List.toArray [])), List.toArray []⟩
noncomputable def o375_59 (p : Program) (P : Params) : Obj := ⟨(.type "tuple"), none, (.seq (List.toArray [(.str (Str.ofString "notes") 683), (.str (Str.ofString "message") 684)]) 0), List.toArray []⟩
noncomputable def o376_59 (p : Program) (P : Params) : Obj := ⟨(.type "tuple"), none, (.seq (List.toArray []) 0), List.toArray []⟩
noncomputable def o377_59 (p : Program) (P : Params) : Obj := ⟨.none, none, (fd (stm p 57) (Str.ofString "note") (Str.ofString "note") 0 .none .none .none .none none .none .none 0 ), List.toArray []⟩
noncomputable def o378_59 (p : Program) (P : Params) : Obj := ⟨(.type "code"), none, (.fields (List.toArray [(.str (Str.ofString "note") 680), (.str (Str.ofString "note") 681), (.str (Str.ofString "/claim/cut.py") 682), (.int (336) 0), (.int (2) 0), (.int (0) 0), (.int (0) 0), (.int (3) 0), (.ref 373), (.bool true), (.int (181) 0), (.ref 374), .none, (.ref 375), (.ref 376), (.ref 377), (.int (685) 0), (.int (336) 0), (.str (Str.ofString "/claim/cut.py") 686)])), List.toArray []⟩
noncomputable def o379_59 (p : Program) (P : Params) : Obj := ⟨(.type "function"), none, (fd (stm p 57) (Str.ofString "note") (Str.ofString "note") 3 .none .none .none (.str (Str.ofString "vectorcove.coerce") 658) none (.ref 378) .none 0 ), List.toArray []⟩
noncomputable def o380_59 (p : Program) (P : Params) : Obj := ⟨(.type "tuple"), none, (.seq (List.toArray []) 0), List.toArray []⟩
noncomputable def o381_59 (p : Program) (P : Params) : Obj := ⟨.none, none, (.fields (List.toArray [])), List.toArray []⟩
noncomputable def o382_59 (p : Program) (P : Params) : Obj := ⟨(.type "tuple"), none, (.seq (List.toArray [(.str (Str.ofString "s") 691)]) 0), List.toArray []⟩
noncomputable def o383_59 (p : Program) (P : Params) : Obj := ⟨(.type "tuple"), none, (.seq (List.toArray []) 0), List.toArray []⟩
noncomputable def o384_59 (p : Program) (P : Params) : Obj := ⟨.none, none, (fd (stm p 58) (Str.ofString "as_logical_text") (Str.ofString "as_logical_text") 0 .none .none .none .none none .none .none 0 ), List.toArray []⟩
noncomputable def o385_59 (p : Program) (P : Params) : Obj := ⟨(.type "code"), none, (.fields (List.toArray [(.str (Str.ofString "as_logical_text") 688), (.str (Str.ofString "as_logical_text") 689), (.str (Str.ofString "/claim/cut.py") 690), (.int (339) 0), (.int (1) 0), (.int (0) 0), (.int (0) 0), (.int (3) 0), (.ref 380), (.bool true), (.int (181) 0), (.ref 381), .none, (.ref 382), (.ref 383), (.ref 384), (.int (692) 0), (.int (339) 0), (.str (Str.ofString "/claim/cut.py") 693)])), List.toArray []⟩
noncomputable def o386_59 (p : Program) (P : Params) : Obj := ⟨(.type "function"), none, (fd (stm p 58) (Str.ofString "as_logical_text") (Str.ofString "as_logical_text") 3 .none .none .none (.str (Str.ofString "vectorcove.coerce") 658) none (.ref 385) .none 0 ), List.toArray []⟩
noncomputable def o3_73 (p : Program) (P : Params) : Obj := ⟨(.type "dict"), none, (.dict (List.toArray [en P (Str.ofString "__name__") 165 (.str (Str.ofString "vectorcove.identical") 803), en P (Str.ofString "__doc__") 166 .none, en P (Str.ofString "__package__") 167 .none, en P (Str.ofString "__loader__") 168 (.builtin "__main__.__loader__#opaque"), en P (Str.ofString "__spec__") 169 .none, en P (Str.ofString "__annotations__") 170 (.ref 6), en P (Str.ofString "__builtins__") 171 (.ref 4), en P (Str.ofString "__file__") 173 (.str (Str.ofString "/claim/cut.py") 172), en P (Str.ofString "__cached__") 174 .none, en P (Str.ofString "_wall") 193 (.ref 21), en P (Str.ofString "NAN") 198 (.ref 22), en P (Str.ofString "INF") 201 (.ref 23), en P (Str.ofString "ZERO") 204 (.ref 24), en P (Str.ofString "gcd") 212 (.ref 31), en P (Str.ofString "make") 221 (.ref 38), en P (Str.ofString "from_int") 228 (.ref 45), en P (Str.ofString "is_na") 235 (.ref 52), en P (Str.ofString "is_finite") 242 (.ref 59), en P (Str.ofString "neg") 249 (.ref 66), en P (Str.ofString "to_whole") 257 (.ref 73), en P (Str.ofString "nearest_whole") 267 (.ref 80), en P (Str.ofString "exponent") 277 (.ref 87), en P (Str.ofString "MOST_EXPONENT") 281 (.int (4096) 280), en P (Str.ofString "whole_text") 291 (.ref 94), en P (Str.ofString "special_text") 298 (.ref 101), en P (Str.ofString "scaled") 308 (.ref 108), en P (Str.ofString "significant") 318 (.ref 115), en P (Str.ofString "without_tail") 326 (.ref 122), en P (Str.ofString "scientific_text") 338 (.ref 129), en P (Str.ofString "fixed_text") 348 (.ref 136), en P (Str.ofString "measures") 361 (.ref 143), en P (Str.ofString "chosen_form") 378 (.ref 150), en P (Str.ofString "formed") 387 (.ref 157), en P (Str.ofString "common_texts") 393 (.ref 162), en P (Str.ofString "number_text") 402 (.ref 170), en P (Str.ofString "digits_value") 412 (.ref 177), en P (Str.ofString "digit_run") 421 (.ref 184), en P (Str.ofString "exponent_value") 430 (.ref 191), en P (Str.ofString "powered") 439 (.ref 198), en P (Str.ofString "unsigned_number") 458 (.ref 205), en P (Str.ofString "parse_number") 470 (.ref 212), en P (Str.ofString "Vector") 514 (.ref 237), en P (Str.ofString "character") 521 (.ref 248), en P (Str.ofString "length") 529 (.ref 255), en P (Str.ofString "is_vector") 536 (.ref 262), en P (Str.ofString "is_atomic") 543 (.ref 269), en P (Str.ofString "share") 550 (.ref 276), en P (Str.ofString "get_attr") 560 (.ref 283), en P (Str.ofString "label_text") 568 (.ref 290), en P (Str.ofString "level_at") 576 (.ref 297), en P (Str.ofString "label_texts") 582 (.ref 302), en P (Str.ofString "names_of") 588 (.ref 307), en P (Str.ofString "dim_of") 596 (.ref 314), en P (Str.ofString "dimnames_of") 602 (.ref 319), en P (Str.ofString "class_attr") 610 (.ref 326), en P (Str.ofString "CoveError") 632 (.ref 336), en P (Str.ofString "Refusal") 657 (.ref 356), en P (Str.ofString "MOST_INTEGER") 661 (.int (2147483647) 660), en P (Str.ofString "kind_order") 669 (.ref 365), en P (Str.ofString "common_kind") 679 (.ref 372), en P (Str.ofString "note") 687 (.ref 379), en P (Str.ofString "as_logical_text") 694 (.ref 386), en P (Str.ofString "double_to_integer") 703 (.ref 393), en P (Str.ofString "text_to_double") 713 (.ref 400), en P (Str.ofString "to_logical") 721 (.ref 407), en P (Str.ofString "to_integer") 730 (.ref 414), en P (Str.ofString "to_double") 739 (.ref 421), en P (Str.ofString "to_text") 747 (.ref 428), en P (Str.ofString "item_as") 757 (.ref 435), en P (Str.ofString "is_atomic_kind") 764 (.ref 442), en P (Str.ofString "list_item_as") 774 (.ref 449), en P (Str.ofString "refuse_type") 782 (.ref 456), en P (Str.ofString "as_vector_kind") 788 (.ref 461), en P (Str.ofString "with_names") 796 (.ref 468), en P (Str.ofString "as_kind") 802 (.ref 473)]) 75), List.toArray []⟩
noncomputable def o12_73 (p : Program) (P : Params) : Obj := ⟨.none, none, (.fields (List.toArray [(.int (1) 0), (.int (0) 0), (.ref 20), (.int (8) 0), (.int (0) 0), (.ref 30), (.int (12) 0), (.int (0) 0), (.ref 37), (.int (22) 0), (.int (0) 0), (.ref 44), (.int (26) 0), (.int (0) 0), (.ref 51), (.int (28) 0), (.int (0) 0), (.ref 58), (.int (30) 0), (.int (0) 0), (.ref 65), (.int (34) 0), (.int (0) 0), (.ref 72), (.int (39) 0), (.int (0) 0), (.ref 79), (.int (45) 0), (.int (0) 0), (.ref 86), (.int (58) 0), (.int (0) 0), (.ref 93), (.int (69) 0), (.int (0) 0), (.ref 100), (.int (77) 0), (.int (0) 0), (.ref 107), (.int (82) 0), (.int (0) 0), (.ref 114), (.int (91) 0), (.int (0) 0), (.ref 121), (.int (96) 0), (.int (0) 0), (.ref 128), (.int (103) 0), (.int (0) 0), (.ref 135), (.int (111) 0), (.int (0) 0), (.ref 142), (.int (118) 0), (.int (0) 0), (.ref 149), (.int (138) 0), (.int (0) 0), (.ref 156), (.int (145) 0), (.int (0) 0), (.ref 161), (.int (149) 0), (.int (0) 0), (.ref 169), (.int (151) 0), (.int (0) 0), (.ref 176), (.int (156) 0), (.int (0) 0), (.ref 183), (.int (160) 0), (.int (0) 0), (.ref 190), (.int (170) 0), (.int (0) 0), (.ref 197), (.int (180) 0), (.int (0) 0), (.ref 204), (.int (212) 0), (.int (0) 0), (.ref 211), (.int (230) 0), (.int (0) 0), (.ref 218), (.int (241) 0), (.int (0) 0), (.ref 247), (.int (243) 0), (.int (0) 0), (.ref 254), (.int (254) 0), (.int (0) 0), (.ref 261), (.int (256) 0), (.int (0) 0), (.ref 268), (.int (258) 0), (.int (0) 0), (.ref 275), (.int (263) 0), (.int (0) 0), (.ref 282), (.int (267) 0), (.int (0) 0), (.ref 289), (.int (275) 0), (.int (0) 0), (.ref 296), (.int (279) 0), (.int (0) 0), (.ref 301), (.int (285) 0), (.int (0) 0), (.ref 306), (.int (301) 0), (.int (0) 0), (.ref 313), (.int (306) 0), (.int (0) 0), (.ref 318), (.int (311) 0), (.int (0) 0), (.ref 325), (.int (317) 0), (.int (0) 0), (.ref 332), (.int (319) 0), (.int (0) 0), (.ref 345), (.int (325) 0), (.int (0) 0), (.ref 364), (.int (330) 0), (.int (0) 0), (.ref 371), (.int (336) 0), (.int (0) 0), (.ref 378), (.int (339) 0), (.int (0) 0), (.ref 385), (.int (345) 0), (.int (0) 0), (.ref 392), (.int (353) 0), (.int (0) 0), (.ref 399), (.int (359) 0), (.int (0) 0), (.ref 406), (.int (369) 0), (.int (0) 0), (.ref 413), (.int (377) 0), (.int (0) 0), (.ref 420), (.int (383) 0), (.int (0) 0), (.ref 427), (.int (391) 0), (.int (0) 0), (.ref 434), (.int (405) 0), (.int (0) 0), (.ref 441), (.int (407) 0), (.int (0) 0), (.ref 448), (.int (413) 0), (.int (0) 0), (.ref 455), (.int (415) 0), (.int (0) 0), (.ref 460), (.int (429) 0), (.int (0) 0), (.ref 467), (.int (433) 0), (.int (0) 0), (.ref 472)])), List.toArray []⟩
noncomputable def o387_73 (p : Program) (P : Params) : Obj := ⟨(.type "tuple"), none, (.seq (List.toArray []) 0), List.toArray []⟩
noncomputable def o388_73 (p : Program) (P : Params) : Obj := ⟨.none, none, (.fields (List.toArray [])), List.toArray []⟩
noncomputable def o389_73 (p : Program) (P : Params) : Obj := ⟨(.type "tuple"), none, (.seq (List.toArray [(.str (Str.ofString "x") 698), (.str (Str.ofString "notes") 699), (.str (Str.ofString "found") 700)]) 0), List.toArray []⟩
noncomputable def o390_73 (p : Program) (P : Params) : Obj := ⟨(.type "tuple"), none, (.seq (List.toArray []) 0), List.toArray []⟩
noncomputable def o391_73 (p : Program) (P : Params) : Obj := ⟨.none, none, (fd (stm p 59) (Str.ofString "double_to_integer") (Str.ofString "double_to_integer") 0 .none .none .none .none none .none .none 0 ), List.toArray []⟩
noncomputable def o392_73 (p : Program) (P : Params) : Obj := ⟨(.type "code"), none, (.fields (List.toArray [(.str (Str.ofString "double_to_integer") 695), (.str (Str.ofString "double_to_integer") 696), (.str (Str.ofString "/claim/cut.py") 697), (.int (345) 0), (.int (2) 0), (.int (0) 0), (.int (0) 0), (.int (3) 0), (.ref 387), (.bool true), (.int (181) 0), (.ref 388), .none, (.ref 389), (.ref 390), (.ref 391), (.int (701) 0), (.int (345) 0), (.str (Str.ofString "/claim/cut.py") 702)])), List.toArray []⟩
noncomputable def o393_73 (p : Program) (P : Params) : Obj := ⟨(.type "function"), none, (fd (stm p 59) (Str.ofString "double_to_integer") (Str.ofString "double_to_integer") 3 .none .none .none (.str (Str.ofString "vectorcove.coerce") 658) none (.ref 392) .none 0 ), List.toArray []⟩
noncomputable def o394_73 (p : Program) (P : Params) : Obj := ⟨(.type "tuple"), none, (.seq (List.toArray []) 0), List.toArray []⟩
noncomputable def o395_73 (p : Program) (P : Params) : Obj := ⟨.none, none, (.fields (List.toArray [])), List.toArray []⟩
noncomputable def o396_73 (p : Program) (P : Params) : Obj := ⟨(.type "tuple"), none, (.seq (List.toArray [(.str (Str.ofString "s") 707), (.str (Str.ofString "notes") 708), (.str (Str.ofString "ok") 709), (.str (Str.ofString "found") 710)]) 0), List.toArray []⟩
noncomputable def o397_73 (p : Program) (P : Params) : Obj := ⟨(.type "tuple"), none, (.seq (List.toArray []) 0), List.toArray []⟩
noncomputable def o398_73 (p : Program) (P : Params) : Obj := ⟨.none, none, (fd (stm p 60) (Str.ofString "text_to_double") (Str.ofString "text_to_double") 0 .none .none .none .none none .none .none 0 ), List.toArray []⟩
noncomputable def o399_73 (p : Program) (P : Params) : Obj := ⟨(.type "code"), none, (.fields (List.toArray [(.str (Str.ofString "text_to_double") 704), (.str (Str.ofString "text_to_double") 705), (.str (Str.ofString "/claim/cut.py") 706), (.int (353) 0), (.int (2) 0), (.int (0) 0), (.int (0) 0), (.int (3) 0), (.ref 394), (.bool true), (.int (181) 0), (.ref 395), .none, (.ref 396), (.ref 397), (.ref 398), (.int (711) 0), (.int (353) 0), (.str (Str.ofString "/claim/cut.py") 712)])), List.toArray []⟩
noncomputable def o400_73 (p : Program) (P : Params) : Obj := ⟨(.type "function"), none, (fd (stm p 60) (Str.ofString "text_to_double") (Str.ofString "text_to_double") 3 .none .none .none (.str (Str.ofString "vectorcove.coerce") 658) none (.ref 399) .none 0 ), List.toArray []⟩
noncomputable def o401_73 (p : Program) (P : Params) : Obj := ⟨(.type "tuple"), none, (.seq (List.toArray []) 0), List.toArray []⟩
noncomputable def o402_73 (p : Program) (P : Params) : Obj := ⟨.none, none, (.fields (List.toArray [])), List.toArray []⟩
noncomputable def o403_73 (p : Program) (P : Params) : Obj := ⟨(.type "tuple"), none, (.seq (List.toArray [(.str (Str.ofString "kind") 717), (.str (Str.ofString "item") 718)]) 0), List.toArray []⟩
noncomputable def o404_73 (p : Program) (P : Params) : Obj := ⟨(.type "tuple"), none, (.seq (List.toArray []) 0), List.toArray []⟩
noncomputable def o405_73 (p : Program) (P : Params) : Obj := ⟨.none, none, (fd (stm p 61) (Str.ofString "to_logical") (Str.ofString "to_logical") 0 .none .none .none .none none .none .none 0 ), List.toArray []⟩
noncomputable def o406_73 (p : Program) (P : Params) : Obj := ⟨(.type "code"), none, (.fields (List.toArray [(.str (Str.ofString "to_logical") 714), (.str (Str.ofString "to_logical") 715), (.str (Str.ofString "/claim/cut.py") 716), (.int (359) 0), (.int (2) 0), (.int (0) 0), (.int (0) 0), (.int (3) 0), (.ref 401), (.bool true), (.int (181) 0), (.ref 402), .none, (.ref 403), (.ref 404), (.ref 405), (.int (719) 0), (.int (359) 0), (.str (Str.ofString "/claim/cut.py") 720)])), List.toArray []⟩
noncomputable def o407_73 (p : Program) (P : Params) : Obj := ⟨(.type "function"), none, (fd (stm p 61) (Str.ofString "to_logical") (Str.ofString "to_logical") 3 .none .none .none (.str (Str.ofString "vectorcove.coerce") 658) none (.ref 406) .none 0 ), List.toArray []⟩
noncomputable def o408_73 (p : Program) (P : Params) : Obj := ⟨(.type "tuple"), none, (.seq (List.toArray []) 0), List.toArray []⟩
noncomputable def o409_73 (p : Program) (P : Params) : Obj := ⟨.none, none, (.fields (List.toArray [])), List.toArray []⟩
noncomputable def o410_73 (p : Program) (P : Params) : Obj := ⟨(.type "tuple"), none, (.seq (List.toArray [(.str (Str.ofString "kind") 725), (.str (Str.ofString "item") 726), (.str (Str.ofString "notes") 727)]) 0), List.toArray []⟩
noncomputable def o411_73 (p : Program) (P : Params) : Obj := ⟨(.type "tuple"), none, (.seq (List.toArray []) 0), List.toArray []⟩
noncomputable def o412_73 (p : Program) (P : Params) : Obj := ⟨.none, none, (fd (stm p 62) (Str.ofString "to_integer") (Str.ofString "to_integer") 0 .none .none .none .none none .none .none 0 ), List.toArray []⟩
noncomputable def o413_73 (p : Program) (P : Params) : Obj := ⟨(.type "code"), none, (.fields (List.toArray [(.str (Str.ofString "to_integer") 722), (.str (Str.ofString "to_integer") 723), (.str (Str.ofString "/claim/cut.py") 724), (.int (369) 0), (.int (3) 0), (.int (0) 0), (.int (0) 0), (.int (3) 0), (.ref 408), (.bool true), (.int (181) 0), (.ref 409), .none, (.ref 410), (.ref 411), (.ref 412), (.int (728) 0), (.int (369) 0), (.str (Str.ofString "/claim/cut.py") 729)])), List.toArray []⟩
noncomputable def o414_73 (p : Program) (P : Params) : Obj := ⟨(.type "function"), none, (fd (stm p 62) (Str.ofString "to_integer") (Str.ofString "to_integer") 3 .none .none .none (.str (Str.ofString "vectorcove.coerce") 658) none (.ref 413) .none 0 ), List.toArray []⟩
noncomputable def o415_73 (p : Program) (P : Params) : Obj := ⟨(.type "tuple"), none, (.seq (List.toArray []) 0), List.toArray []⟩
noncomputable def o416_73 (p : Program) (P : Params) : Obj := ⟨.none, none, (.fields (List.toArray [])), List.toArray []⟩
noncomputable def o417_73 (p : Program) (P : Params) : Obj := ⟨(.type "tuple"), none, (.seq (List.toArray [(.str (Str.ofString "kind") 734), (.str (Str.ofString "item") 735), (.str (Str.ofString "notes") 736)]) 0), List.toArray []⟩
noncomputable def o418_73 (p : Program) (P : Params) : Obj := ⟨(.type "tuple"), none, (.seq (List.toArray []) 0), List.toArray []⟩
noncomputable def o419_73 (p : Program) (P : Params) : Obj := ⟨.none, none, (fd (stm p 63) (Str.ofString "to_double") (Str.ofString "to_double") 0 .none .none .none .none none .none .none 0 ), List.toArray []⟩
noncomputable def o420_73 (p : Program) (P : Params) : Obj := ⟨(.type "code"), none, (.fields (List.toArray [(.str (Str.ofString "to_double") 731), (.str (Str.ofString "to_double") 732), (.str (Str.ofString "/claim/cut.py") 733), (.int (377) 0), (.int (3) 0), (.int (0) 0), (.int (0) 0), (.int (3) 0), (.ref 415), (.bool true), (.int (181) 0), (.ref 416), .none, (.ref 417), (.ref 418), (.ref 419), (.int (737) 0), (.int (377) 0), (.str (Str.ofString "/claim/cut.py") 738)])), List.toArray []⟩
noncomputable def o421_73 (p : Program) (P : Params) : Obj := ⟨(.type "function"), none, (fd (stm p 63) (Str.ofString "to_double") (Str.ofString "to_double") 3 .none .none .none (.str (Str.ofString "vectorcove.coerce") 658) none (.ref 420) .none 0 ), List.toArray []⟩
noncomputable def o422_73 (p : Program) (P : Params) : Obj := ⟨(.type "tuple"), none, (.seq (List.toArray []) 0), List.toArray []⟩
noncomputable def o423_73 (p : Program) (P : Params) : Obj := ⟨.none, none, (.fields (List.toArray [])), List.toArray []⟩
noncomputable def o424_73 (p : Program) (P : Params) : Obj := ⟨(.type "tuple"), none, (.seq (List.toArray [(.str (Str.ofString "kind") 743), (.str (Str.ofString "item") 744)]) 0), List.toArray []⟩
noncomputable def o425_73 (p : Program) (P : Params) : Obj := ⟨(.type "tuple"), none, (.seq (List.toArray []) 0), List.toArray []⟩
noncomputable def o426_73 (p : Program) (P : Params) : Obj := ⟨.none, none, (fd (stm p 64) (Str.ofString "to_text") (Str.ofString "to_text") 0 .none .none .none .none none .none .none 0 ), List.toArray []⟩
noncomputable def o427_73 (p : Program) (P : Params) : Obj := ⟨(.type "code"), none, (.fields (List.toArray [(.str (Str.ofString "to_text") 740), (.str (Str.ofString "to_text") 741), (.str (Str.ofString "/claim/cut.py") 742), (.int (383) 0), (.int (2) 0), (.int (0) 0), (.int (0) 0), (.int (3) 0), (.ref 422), (.bool true), (.int (181) 0), (.ref 423), .none, (.ref 424), (.ref 425), (.ref 426), (.int (745) 0), (.int (383) 0), (.str (Str.ofString "/claim/cut.py") 746)])), List.toArray []⟩
noncomputable def o428_73 (p : Program) (P : Params) : Obj := ⟨(.type "function"), none, (fd (stm p 64) (Str.ofString "to_text") (Str.ofString "to_text") 3 .none .none .none (.str (Str.ofString "vectorcove.coerce") 658) none (.ref 427) .none 0 ), List.toArray []⟩
noncomputable def o429_73 (p : Program) (P : Params) : Obj := ⟨(.type "tuple"), none, (.seq (List.toArray []) 0), List.toArray []⟩
noncomputable def o430_73 (p : Program) (P : Params) : Obj := ⟨.none, none, (.fields (List.toArray [])), List.toArray []⟩
noncomputable def o431_73 (p : Program) (P : Params) : Obj := ⟨(.type "tuple"), none, (.seq (List.toArray [(.str (Str.ofString "kind") 751), (.str (Str.ofString "item") 752), (.str (Str.ofString "to") 753), (.str (Str.ofString "notes") 754)]) 0), List.toArray []⟩
noncomputable def o432_73 (p : Program) (P : Params) : Obj := ⟨(.type "tuple"), none, (.seq (List.toArray []) 0), List.toArray []⟩
noncomputable def o433_73 (p : Program) (P : Params) : Obj := ⟨.none, none, (fd (stm p 65) (Str.ofString "item_as") (Str.ofString "item_as") 0 .none .none .none .none none .none .none 0 ), List.toArray []⟩
noncomputable def o434_73 (p : Program) (P : Params) : Obj := ⟨(.type "code"), none, (.fields (List.toArray [(.str (Str.ofString "item_as") 748), (.str (Str.ofString "item_as") 749), (.str (Str.ofString "/claim/cut.py") 750), (.int (391) 0), (.int (4) 0), (.int (0) 0), (.int (0) 0), (.int (3) 0), (.ref 429), (.bool true), (.int (181) 0), (.ref 430), .none, (.ref 431), (.ref 432), (.ref 433), (.int (755) 0), (.int (391) 0), (.str (Str.ofString "/claim/cut.py") 756)])), List.toArray []⟩
noncomputable def o435_73 (p : Program) (P : Params) : Obj := ⟨(.type "function"), none, (fd (stm p 65) (Str.ofString "item_as") (Str.ofString "item_as") 3 .none .none .none (.str (Str.ofString "vectorcove.coerce") 658) none (.ref 434) .none 0 ), List.toArray []⟩
noncomputable def o436_73 (p : Program) (P : Params) : Obj := ⟨(.type "tuple"), none, (.seq (List.toArray []) 0), List.toArray []⟩
noncomputable def o437_73 (p : Program) (P : Params) : Obj := ⟨.none, none, (.fields (List.toArray [])), List.toArray []⟩
noncomputable def o438_73 (p : Program) (P : Params) : Obj := ⟨(.type "tuple"), none, (.seq (List.toArray [(.str (Str.ofString "kind") 761)]) 0), List.toArray []⟩
noncomputable def o439_73 (p : Program) (P : Params) : Obj := ⟨(.type "tuple"), none, (.seq (List.toArray []) 0), List.toArray []⟩
noncomputable def o440_73 (p : Program) (P : Params) : Obj := ⟨.none, none, (fd (stm p 66) (Str.ofString "is_atomic_kind") (Str.ofString "is_atomic_kind") 0 .none .none .none .none none .none .none 0 ), List.toArray []⟩
noncomputable def o441_73 (p : Program) (P : Params) : Obj := ⟨(.type "code"), none, (.fields (List.toArray [(.str (Str.ofString "is_atomic_kind") 758), (.str (Str.ofString "is_atomic_kind") 759), (.str (Str.ofString "/claim/cut.py") 760), (.int (405) 0), (.int (1) 0), (.int (0) 0), (.int (0) 0), (.int (3) 0), (.ref 436), (.bool true), (.int (181) 0), (.ref 437), .none, (.ref 438), (.ref 439), (.ref 440), (.int (762) 0), (.int (405) 0), (.str (Str.ofString "/claim/cut.py") 763)])), List.toArray []⟩
noncomputable def o442_73 (p : Program) (P : Params) : Obj := ⟨(.type "function"), none, (fd (stm p 66) (Str.ofString "is_atomic_kind") (Str.ofString "is_atomic_kind") 3 .none .none .none (.str (Str.ofString "vectorcove.coerce") 658) none (.ref 441) .none 0 ), List.toArray []⟩
noncomputable def o443_73 (p : Program) (P : Params) : Obj := ⟨(.type "tuple"), none, (.seq (List.toArray []) 0), List.toArray []⟩
noncomputable def o444_73 (p : Program) (P : Params) : Obj := ⟨.none, none, (.fields (List.toArray [])), List.toArray []⟩
noncomputable def o445_73 (p : Program) (P : Params) : Obj := ⟨(.type "tuple"), none, (.seq (List.toArray [(.str (Str.ofString "kind") 768), (.str (Str.ofString "item") 769), (.str (Str.ofString "to") 770), (.str (Str.ofString "notes") 771)]) 0), List.toArray []⟩
noncomputable def o446_73 (p : Program) (P : Params) : Obj := ⟨(.type "tuple"), none, (.seq (List.toArray []) 0), List.toArray []⟩
noncomputable def o447_73 (p : Program) (P : Params) : Obj := ⟨.none, none, (fd (stm p 67) (Str.ofString "list_item_as") (Str.ofString "list_item_as") 0 .none .none .none .none none .none .none 0 ), List.toArray []⟩
noncomputable def o448_73 (p : Program) (P : Params) : Obj := ⟨(.type "code"), none, (.fields (List.toArray [(.str (Str.ofString "list_item_as") 765), (.str (Str.ofString "list_item_as") 766), (.str (Str.ofString "/claim/cut.py") 767), (.int (407) 0), (.int (4) 0), (.int (0) 0), (.int (0) 0), (.int (3) 0), (.ref 443), (.bool true), (.int (181) 0), (.ref 444), .none, (.ref 445), (.ref 446), (.ref 447), (.int (772) 0), (.int (407) 0), (.str (Str.ofString "/claim/cut.py") 773)])), List.toArray []⟩
noncomputable def o449_73 (p : Program) (P : Params) : Obj := ⟨(.type "function"), none, (fd (stm p 67) (Str.ofString "list_item_as") (Str.ofString "list_item_as") 3 .none .none .none (.str (Str.ofString "vectorcove.coerce") 658) none (.ref 448) .none 0 ), List.toArray []⟩
noncomputable def o450_73 (p : Program) (P : Params) : Obj := ⟨(.type "tuple"), none, (.seq (List.toArray []) 0), List.toArray []⟩
noncomputable def o451_73 (p : Program) (P : Params) : Obj := ⟨.none, none, (.fields (List.toArray [])), List.toArray []⟩
noncomputable def o452_73 (p : Program) (P : Params) : Obj := ⟨(.type "tuple"), none, (.seq (List.toArray [(.str (Str.ofString "v") 778), (.str (Str.ofString "kind") 779)]) 0), List.toArray []⟩
noncomputable def o453_73 (p : Program) (P : Params) : Obj := ⟨(.type "tuple"), none, (.seq (List.toArray []) 0), List.toArray []⟩
noncomputable def o454_73 (p : Program) (P : Params) : Obj := ⟨.none, none, (fd (stm p 68) (Str.ofString "refuse_type") (Str.ofString "refuse_type") 0 .none .none .none .none none .none .none 0 ), List.toArray []⟩
noncomputable def o455_73 (p : Program) (P : Params) : Obj := ⟨(.type "code"), none, (.fields (List.toArray [(.str (Str.ofString "refuse_type") 775), (.str (Str.ofString "refuse_type") 776), (.str (Str.ofString "/claim/cut.py") 777), (.int (413) 0), (.int (2) 0), (.int (0) 0), (.int (0) 0), (.int (3) 0), (.ref 450), (.bool true), (.int (181) 0), (.ref 451), .none, (.ref 452), (.ref 453), (.ref 454), (.int (780) 0), (.int (413) 0), (.str (Str.ofString "/claim/cut.py") 781)])), List.toArray []⟩
noncomputable def o456_73 (p : Program) (P : Params) : Obj := ⟨(.type "function"), none, (fd (stm p 68) (Str.ofString "refuse_type") (Str.ofString "refuse_type") 3 .none .none .none (.str (Str.ofString "vectorcove.coerce") 658) none (.ref 455) .none 0 ), List.toArray []⟩
noncomputable def o457_73 (p : Program) (P : Params) : Obj := ⟨(.type "tuple"), none, (.seq (List.toArray []) 0), List.toArray []⟩
noncomputable def o458_73 (p : Program) (P : Params) : Obj := ⟨.none, none, (.fields (List.toArray [])), List.toArray []⟩
noncomputable def o459_73 (p : Program) (P : Params) : Obj := ⟨.none, none, (fd (stm p 69) (Str.ofString "as_vector_kind") (Str.ofString "as_vector_kind") 0 .none .none .none .none none .none .none 0 ), List.toArray []⟩
noncomputable def o460_73 (p : Program) (P : Params) : Obj := ⟨(.type "code"), none, (.fields (List.toArray [(.str (Str.ofString "as_vector_kind") 783), (.str (Str.ofString "as_vector_kind") 784), (.str (Str.ofString "/claim/cut.py") 785), (.int (415) 0), (.int (2) 0), (.int (0) 0), (.int (0) 0), (.int (3) 0), (.ref 457), (.bool true), (.int (181) 0), (.ref 458), .none, .none, .none, (.ref 459), (.int (786) 0), (.int (415) 0), (.str (Str.ofString "/claim/cut.py") 787)])), List.toArray []⟩
noncomputable def o461_73 (p : Program) (P : Params) : Obj := ⟨(.type "function"), none, (fd (stm p 69) (Str.ofString "as_vector_kind") (Str.ofString "as_vector_kind") 3 .none .none .none (.str (Str.ofString "vectorcove.coerce") 658) none (.ref 460) .none 0 ), List.toArray []⟩
noncomputable def o462_73 (p : Program) (P : Params) : Obj := ⟨(.type "tuple"), none, (.seq (List.toArray []) 0), List.toArray []⟩
noncomputable def o463_73 (p : Program) (P : Params) : Obj := ⟨.none, none, (.fields (List.toArray [])), List.toArray []⟩
noncomputable def o464_73 (p : Program) (P : Params) : Obj := ⟨(.type "tuple"), none, (.seq (List.toArray [(.str (Str.ofString "v") 792), (.str (Str.ofString "names") 793)]) 0), List.toArray []⟩
noncomputable def o465_73 (p : Program) (P : Params) : Obj := ⟨(.type "tuple"), none, (.seq (List.toArray []) 0), List.toArray []⟩
noncomputable def o466_73 (p : Program) (P : Params) : Obj := ⟨.none, none, (fd (stm p 70) (Str.ofString "with_names") (Str.ofString "with_names") 0 .none .none .none .none none .none .none 0 ), List.toArray []⟩
noncomputable def o467_73 (p : Program) (P : Params) : Obj := ⟨(.type "code"), none, (.fields (List.toArray [(.str (Str.ofString "with_names") 789), (.str (Str.ofString "with_names") 790), (.str (Str.ofString "/claim/cut.py") 791), (.int (429) 0), (.int (2) 0), (.int (0) 0), (.int (0) 0), (.int (3) 0), (.ref 462), (.bool true), (.int (181) 0), (.ref 463), .none, (.ref 464), (.ref 465), (.ref 466), (.int (794) 0), (.int (429) 0), (.str (Str.ofString "/claim/cut.py") 795)])), List.toArray []⟩
noncomputable def o468_73 (p : Program) (P : Params) : Obj := ⟨(.type "function"), none, (fd (stm p 70) (Str.ofString "with_names") (Str.ofString "with_names") 3 .none .none .none (.str (Str.ofString "vectorcove.coerce") 658) none (.ref 467) .none 0 ), List.toArray []⟩
noncomputable def o469_73 (p : Program) (P : Params) : Obj := ⟨(.type "tuple"), none, (.seq (List.toArray []) 0), List.toArray []⟩
noncomputable def o470_73 (p : Program) (P : Params) : Obj := ⟨.none, none, (.fields (List.toArray [])), List.toArray []⟩
noncomputable def o471_73 (p : Program) (P : Params) : Obj := ⟨.none, none, (fd (stm p 71) (Str.ofString "as_kind") (Str.ofString "as_kind") 0 .none .none .none .none none .none .none 0 ), List.toArray []⟩
noncomputable def o472_73 (p : Program) (P : Params) : Obj := ⟨(.type "code"), none, (.fields (List.toArray [(.str (Str.ofString "as_kind") 797), (.str (Str.ofString "as_kind") 798), (.str (Str.ofString "/claim/cut.py") 799), (.int (433) 0), (.int (3) 0), (.int (0) 0), (.int (0) 0), (.int (3) 0), (.ref 469), (.bool true), (.int (181) 0), (.ref 470), .none, .none, .none, (.ref 471), (.int (800) 0), (.int (433) 0), (.str (Str.ofString "/claim/cut.py") 801)])), List.toArray []⟩
noncomputable def o473_73 (p : Program) (P : Params) : Obj := ⟨(.type "function"), none, (fd (stm p 71) (Str.ofString "as_kind") (Str.ofString "as_kind") 3 .none .none .none (.str (Str.ofString "vectorcove.coerce") 658) none (.ref 472) .none 0 ), List.toArray []⟩
noncomputable def o3_87 (p : Program) (P : Params) : Obj := ⟨(.type "dict"), none, (.dict (List.toArray [en P (Str.ofString "__name__") 165 (.str (Str.ofString "vectorcove.sets") 884), en P (Str.ofString "__doc__") 166 .none, en P (Str.ofString "__package__") 167 .none, en P (Str.ofString "__loader__") 168 (.builtin "__main__.__loader__#opaque"), en P (Str.ofString "__spec__") 169 .none, en P (Str.ofString "__annotations__") 170 (.ref 6), en P (Str.ofString "__builtins__") 171 (.ref 4), en P (Str.ofString "__file__") 173 (.str (Str.ofString "/claim/cut.py") 172), en P (Str.ofString "__cached__") 174 .none, en P (Str.ofString "_wall") 193 (.ref 21), en P (Str.ofString "NAN") 198 (.ref 22), en P (Str.ofString "INF") 201 (.ref 23), en P (Str.ofString "ZERO") 204 (.ref 24), en P (Str.ofString "gcd") 212 (.ref 31), en P (Str.ofString "make") 221 (.ref 38), en P (Str.ofString "from_int") 228 (.ref 45), en P (Str.ofString "is_na") 235 (.ref 52), en P (Str.ofString "is_finite") 242 (.ref 59), en P (Str.ofString "neg") 249 (.ref 66), en P (Str.ofString "to_whole") 257 (.ref 73), en P (Str.ofString "nearest_whole") 267 (.ref 80), en P (Str.ofString "exponent") 277 (.ref 87), en P (Str.ofString "MOST_EXPONENT") 281 (.int (4096) 280), en P (Str.ofString "whole_text") 291 (.ref 94), en P (Str.ofString "special_text") 298 (.ref 101), en P (Str.ofString "scaled") 308 (.ref 108), en P (Str.ofString "significant") 318 (.ref 115), en P (Str.ofString "without_tail") 326 (.ref 122), en P (Str.ofString "scientific_text") 338 (.ref 129), en P (Str.ofString "fixed_text") 348 (.ref 136), en P (Str.ofString "measures") 361 (.ref 143), en P (Str.ofString "chosen_form") 378 (.ref 150), en P (Str.ofString "formed") 387 (.ref 157), en P (Str.ofString "common_texts") 393 (.ref 162), en P (Str.ofString "number_text") 402 (.ref 170), en P (Str.ofString "digits_value") 412 (.ref 177), en P (Str.ofString "digit_run") 421 (.ref 184), en P (Str.ofString "exponent_value") 430 (.ref 191), en P (Str.ofString "powered") 439 (.ref 198), en P (Str.ofString "unsigned_number") 458 (.ref 205), en P (Str.ofString "parse_number") 470 (.ref 212), en P (Str.ofString "Vector") 514 (.ref 237), en P (Str.ofString "character") 521 (.ref 248), en P (Str.ofString "length") 529 (.ref 255), en P (Str.ofString "is_vector") 536 (.ref 262), en P (Str.ofString "is_atomic") 543 (.ref 269), en P (Str.ofString "share") 550 (.ref 276), en P (Str.ofString "get_attr") 560 (.ref 283), en P (Str.ofString "label_text") 568 (.ref 290), en P (Str.ofString "level_at") 576 (.ref 297), en P (Str.ofString "label_texts") 582 (.ref 302), en P (Str.ofString "names_of") 588 (.ref 307), en P (Str.ofString "dim_of") 596 (.ref 314), en P (Str.ofString "dimnames_of") 602 (.ref 319), en P (Str.ofString "class_attr") 610 (.ref 326), en P (Str.ofString "CoveError") 632 (.ref 336), en P (Str.ofString "Refusal") 657 (.ref 356), en P (Str.ofString "MOST_INTEGER") 661 (.int (2147483647) 660), en P (Str.ofString "kind_order") 669 (.ref 365), en P (Str.ofString "common_kind") 679 (.ref 372), en P (Str.ofString "note") 687 (.ref 379), en P (Str.ofString "as_logical_text") 694 (.ref 386), en P (Str.ofString "double_to_integer") 703 (.ref 393), en P (Str.ofString "text_to_double") 713 (.ref 400), en P (Str.ofString "to_logical") 721 (.ref 407), en P (Str.ofString "to_integer") 730 (.ref 414), en P (Str.ofString "to_double") 739 (.ref 421), en P (Str.ofString "to_text") 747 (.ref 428), en P (Str.ofString "item_as") 757 (.ref 435), en P (Str.ofString "is_atomic_kind") 764 (.ref 442), en P (Str.ofString "list_item_as") 774 (.ref 449), en P (Str.ofString "refuse_type") 782 (.ref 456), en P (Str.ofString "as_vector_kind") 788 (.ref 461), en P (Str.ofString "with_names") 796 (.ref 468), en P (Str.ofString "as_kind") 802 (.ref 473), en P (Str.ofString "same_attrs") 815 (.ref 480), en P (Str.ofString "same_items") 825 (.ref 487), en P (Str.ofString "same_formals") 834 (.ref 494), en P (Str.ofString "same_slots") 843 (.ref 501), en P (Str.ofString "same_dots") 856 (.ref 508), en P (Str.ofString "same_kernel") 866 (.ref 515), en P (Str.ofString "identical") 874 (.ref 522), en P (Str.ofString "is_factor") 883 (.ref 529), en P (Str.ofString "item_key") 893 (.ref 536), en P (Str.ofString "is_listed") 900 (.ref 543), en P (Str.ofString "list_place") 910 (.ref 550), en P (Str.ofString "first_places") 922 (.ref 557)]) 87), List.toArray []⟩
noncomputable def o12_87 (p : Program) (P : Params) : Obj := ⟨.none, none, (.fields (List.toArray [(.int (1) 0), (.int (0) 0), (.ref 20), (.int (8) 0), (.int (0) 0), (.ref 30), (.int (12) 0), (.int (0) 0), (.ref 37), (.int (22) 0), (.int (0) 0), (.ref 44), (.int (26) 0), (.int (0) 0), (.ref 51), (.int (28) 0), (.int (0) 0), (.ref 58), (.int (30) 0), (.int (0) 0), (.ref 65), (.int (34) 0), (.int (0) 0), (.ref 72), (.int (39) 0), (.int (0) 0), (.ref 79), (.int (45) 0), (.int (0) 0), (.ref 86), (.int (58) 0), (.int (0) 0), (.ref 93), (.int (69) 0), (.int (0) 0), (.ref 100), (.int (77) 0), (.int (0) 0), (.ref 107), (.int (82) 0), (.int (0) 0), (.ref 114), (.int (91) 0), (.int (0) 0), (.ref 121), (.int (96) 0), (.int (0) 0), (.ref 128), (.int (103) 0), (.int (0) 0), (.ref 135), (.int (111) 0), (.int (0) 0), (.ref 142), (.int (118) 0), (.int (0) 0), (.ref 149), (.int (138) 0), (.int (0) 0), (.ref 156), (.int (145) 0), (.int (0) 0), (.ref 161), (.int (149) 0), (.int (0) 0), (.ref 169), (.int (151) 0), (.int (0) 0), (.ref 176), (.int (156) 0), (.int (0) 0), (.ref 183), (.int (160) 0), (.int (0) 0), (.ref 190), (.int (170) 0), (.int (0) 0), (.ref 197), (.int (180) 0), (.int (0) 0), (.ref 204), (.int (212) 0), (.int (0) 0), (.ref 211), (.int (230) 0), (.int (0) 0), (.ref 218), (.int (241) 0), (.int (0) 0), (.ref 247), (.int (243) 0), (.int (0) 0), (.ref 254), (.int (254) 0), (.int (0) 0), (.ref 261), (.int (256) 0), (.int (0) 0), (.ref 268), (.int (258) 0), (.int (0) 0), (.ref 275), (.int (263) 0), (.int (0) 0), (.ref 282), (.int (267) 0), (.int (0) 0), (.ref 289), (.int (275) 0), (.int (0) 0), (.ref 296), (.int (279) 0), (.int (0) 0), (.ref 301), (.int (285) 0), (.int (0) 0), (.ref 306), (.int (301) 0), (.int (0) 0), (.ref 313), (.int (306) 0), (.int (0) 0), (.ref 318), (.int (311) 0), (.int (0) 0), (.ref 325), (.int (317) 0), (.int (0) 0), (.ref 332), (.int (319) 0), (.int (0) 0), (.ref 345), (.int (325) 0), (.int (0) 0), (.ref 364), (.int (330) 0), (.int (0) 0), (.ref 371), (.int (336) 0), (.int (0) 0), (.ref 378), (.int (339) 0), (.int (0) 0), (.ref 385), (.int (345) 0), (.int (0) 0), (.ref 392), (.int (353) 0), (.int (0) 0), (.ref 399), (.int (359) 0), (.int (0) 0), (.ref 406), (.int (369) 0), (.int (0) 0), (.ref 413), (.int (377) 0), (.int (0) 0), (.ref 420), (.int (383) 0), (.int (0) 0), (.ref 427), (.int (391) 0), (.int (0) 0), (.ref 434), (.int (405) 0), (.int (0) 0), (.ref 441), (.int (407) 0), (.int (0) 0), (.ref 448), (.int (413) 0), (.int (0) 0), (.ref 455), (.int (415) 0), (.int (0) 0), (.ref 460), (.int (429) 0), (.int (0) 0), (.ref 467), (.int (433) 0), (.int (0) 0), (.ref 472), (.int (441) 0), (.int (0) 0), (.ref 479), (.int (450) 0), (.int (0) 0), (.ref 486), (.int (457) 0), (.int (0) 0), (.ref 493), (.int (464) 0), (.int (0) 0), (.ref 500), (.int (471) 0), (.int (0) 0), (.ref 507), (.int (480) 0), (.int (0) 0), (.ref 514), (.int (502) 0), (.int (0) 0), (.ref 521), (.int (507) 0), (.int (0) 0), (.ref 528), (.int (510) 0), (.int (0) 0), (.ref 535), (.int (518) 0), (.int (0) 0), (.ref 542), (.int (520) 0), (.int (0) 0), (.ref 549), (.int (525) 0), (.int (0) 0), (.ref 556)])), List.toArray []⟩
noncomputable def o474_87 (p : Program) (P : Params) : Obj := ⟨(.type "tuple"), none, (.seq (List.toArray []) 0), List.toArray []⟩
noncomputable def o475_87 (p : Program) (P : Params) : Obj := ⟨.none, none, (.fields (List.toArray [])), List.toArray []⟩
noncomputable def o476_87 (p : Program) (P : Params) : Obj := ⟨(.type "tuple"), none, (.seq (List.toArray [(.str (Str.ofString "u") 808), (.str (Str.ofString "v") 809), (.str (Str.ofString "left") 810), (.str (Str.ofString "right") 811), (.str (Str.ofString "name") 812)]) 0), List.toArray []⟩
noncomputable def o477_87 (p : Program) (P : Params) : Obj := ⟨(.type "tuple"), none, (.seq (List.toArray []) 0), List.toArray []⟩
noncomputable def o478_87 (p : Program) (P : Params) : Obj := ⟨.none, none, (fd (stm p 73) (Str.ofString "same_attrs") (Str.ofString "same_attrs") 0 .none .none .none .none none .none .none 0 ), List.toArray []⟩
noncomputable def o479_87 (p : Program) (P : Params) : Obj := ⟨(.type "code"), none, (.fields (List.toArray [(.str (Str.ofString "same_attrs") 805), (.str (Str.ofString "same_attrs") 806), (.str (Str.ofString "/claim/cut.py") 807), (.int (441) 0), (.int (2) 0), (.int (0) 0), (.int (0) 0), (.int (3) 0), (.ref 474), (.bool true), (.int (181) 0), (.ref 475), .none, (.ref 476), (.ref 477), (.ref 478), (.int (813) 0), (.int (441) 0), (.str (Str.ofString "/claim/cut.py") 814)])), List.toArray []⟩
noncomputable def o480_87 (p : Program) (P : Params) : Obj := ⟨(.type "function"), none, (fd (stm p 73) (Str.ofString "same_attrs") (Str.ofString "same_attrs") 3 .none .none .none (.str (Str.ofString "vectorcove.identical") 803) none (.ref 479) .none 0 ), List.toArray []⟩
noncomputable def o481_87 (p : Program) (P : Params) : Obj := ⟨(.type "tuple"), none, (.seq (List.toArray []) 0), List.toArray []⟩
noncomputable def o482_87 (p : Program) (P : Params) : Obj := ⟨.none, none, (.fields (List.toArray [])), List.toArray []⟩
noncomputable def o483_87 (p : Program) (P : Params) : Obj := ⟨(.type "tuple"), none, (.seq (List.toArray [(.str (Str.ofString "u") 819), (.str (Str.ofString "v") 820), (.str (Str.ofString "same") 821), (.str (Str.ofString "place") 822)]) 0), List.toArray []⟩
noncomputable def o484_87 (p : Program) (P : Params) : Obj := ⟨(.type "tuple"), none, (.seq (List.toArray []) 0), List.toArray []⟩
noncomputable def o485_87 (p : Program) (P : Params) : Obj := ⟨.none, none, (fd (stm p 74) (Str.ofString "same_items") (Str.ofString "same_items") 0 .none .none .none .none none .none .none 0 ), List.toArray []⟩
noncomputable def o486_87 (p : Program) (P : Params) : Obj := ⟨(.type "code"), none, (.fields (List.toArray [(.str (Str.ofString "same_items") 816), (.str (Str.ofString "same_items") 817), (.str (Str.ofString "/claim/cut.py") 818), (.int (450) 0), (.int (3) 0), (.int (0) 0), (.int (0) 0), (.int (3) 0), (.ref 481), (.bool true), (.int (181) 0), (.ref 482), .none, (.ref 483), (.ref 484), (.ref 485), (.int (823) 0), (.int (450) 0), (.str (Str.ofString "/claim/cut.py") 824)])), List.toArray []⟩
noncomputable def o487_87 (p : Program) (P : Params) : Obj := ⟨(.type "function"), none, (fd (stm p 74) (Str.ofString "same_items") (Str.ofString "same_items") 3 .none .none .none (.str (Str.ofString "vectorcove.identical") 803) none (.ref 486) .none 0 ), List.toArray []⟩
noncomputable def o488_87 (p : Program) (P : Params) : Obj := ⟨(.type "tuple"), none, (.seq (List.toArray []) 0), List.toArray []⟩
noncomputable def o489_87 (p : Program) (P : Params) : Obj := ⟨.none, none, (.fields (List.toArray [])), List.toArray []⟩
noncomputable def o490_87 (p : Program) (P : Params) : Obj := ⟨(.type "tuple"), none, (.seq (List.toArray [(.str (Str.ofString "u") 829), (.str (Str.ofString "v") 830), (.str (Str.ofString "place") 831)]) 0), List.toArray []⟩
noncomputable def o491_87 (p : Program) (P : Params) : Obj := ⟨(.type "tuple"), none, (.seq (List.toArray []) 0), List.toArray []⟩
noncomputable def o492_87 (p : Program) (P : Params) : Obj := ⟨.none, none, (fd (stm p 75) (Str.ofString "same_formals") (Str.ofString "same_formals") 0 .none .none .none .none none .none .none 0 ), List.toArray []⟩
noncomputable def o493_87 (p : Program) (P : Params) : Obj := ⟨(.type "code"), none, (.fields (List.toArray [(.str (Str.ofString "same_formals") 826), (.str (Str.ofString "same_formals") 827), (.str (Str.ofString "/claim/cut.py") 828), (.int (457) 0), (.int (2) 0), (.int (0) 0), (.int (0) 0), (.int (3) 0), (.ref 488), (.bool true), (.int (181) 0), (.ref 489), .none, (.ref 490), (.ref 491), (.ref 492), (.int (832) 0), (.int (457) 0), (.str (Str.ofString "/claim/cut.py") 833)])), List.toArray []⟩
noncomputable def o494_87 (p : Program) (P : Params) : Obj := ⟨(.type "function"), none, (fd (stm p 75) (Str.ofString "same_formals") (Str.ofString "same_formals") 3 .none .none .none (.str (Str.ofString "vectorcove.identical") 803) none (.ref 493) .none 0 ), List.toArray []⟩
noncomputable def o495_87 (p : Program) (P : Params) : Obj := ⟨(.type "tuple"), none, (.seq (List.toArray []) 0), List.toArray []⟩
noncomputable def o496_87 (p : Program) (P : Params) : Obj := ⟨.none, none, (.fields (List.toArray [])), List.toArray []⟩
noncomputable def o497_87 (p : Program) (P : Params) : Obj := ⟨(.type "tuple"), none, (.seq (List.toArray [(.str (Str.ofString "u") 838), (.str (Str.ofString "v") 839), (.str (Str.ofString "name") 840)]) 0), List.toArray []⟩
noncomputable def o498_87 (p : Program) (P : Params) : Obj := ⟨(.type "tuple"), none, (.seq (List.toArray []) 0), List.toArray []⟩
noncomputable def o499_87 (p : Program) (P : Params) : Obj := ⟨.none, none, (fd (stm p 76) (Str.ofString "same_slots") (Str.ofString "same_slots") 0 .none .none .none .none none .none .none 0 ), List.toArray []⟩
noncomputable def o500_87 (p : Program) (P : Params) : Obj := ⟨(.type "code"), none, (.fields (List.toArray [(.str (Str.ofString "same_slots") 835), (.str (Str.ofString "same_slots") 836), (.str (Str.ofString "/claim/cut.py") 837), (.int (464) 0), (.int (2) 0), (.int (0) 0), (.int (0) 0), (.int (3) 0), (.ref 495), (.bool true), (.int (181) 0), (.ref 496), .none, (.ref 497), (.ref 498), (.ref 499), (.int (841) 0), (.int (464) 0), (.str (Str.ofString "/claim/cut.py") 842)])), List.toArray []⟩
noncomputable def o501_87 (p : Program) (P : Params) : Obj := ⟨(.type "function"), none, (fd (stm p 76) (Str.ofString "same_slots") (Str.ofString "same_slots") 3 .none .none .none (.str (Str.ofString "vectorcove.identical") 803) none (.ref 500) .none 0 ), List.toArray []⟩
noncomputable def o502_87 (p : Program) (P : Params) : Obj := ⟨(.type "tuple"), none, (.seq (List.toArray []) 0), List.toArray []⟩
noncomputable def o503_87 (p : Program) (P : Params) : Obj := ⟨.none, none, (.fields (List.toArray [])), List.toArray []⟩
noncomputable def o504_87 (p : Program) (P : Params) : Obj := ⟨(.type "tuple"), none, (.seq (List.toArray [(.str (Str.ofString "u") 847), (.str (Str.ofString "v") 848), (.str (Str.ofString "place") 849), (.str (Str.ofString "tag") 850), (.str (Str.ofString "value") 851), (.str (Str.ofString "other") 852), (.str (Str.ofString "against") 853)]) 0), List.toArray []⟩
noncomputable def o505_87 (p : Program) (P : Params) : Obj := ⟨(.type "tuple"), none, (.seq (List.toArray []) 0), List.toArray []⟩
noncomputable def o506_87 (p : Program) (P : Params) : Obj := ⟨.none, none, (fd (stm p 77) (Str.ofString "same_dots") (Str.ofString "same_dots") 0 .none .none .none .none none .none .none 0 ), List.toArray []⟩
noncomputable def o507_87 (p : Program) (P : Params) : Obj := ⟨(.type "code"), none, (.fields (List.toArray [(.str (Str.ofString "same_dots") 844), (.str (Str.ofString "same_dots") 845), (.str (Str.ofString "/claim/cut.py") 846), (.int (471) 0), (.int (2) 0), (.int (0) 0), (.int (0) 0), (.int (3) 0), (.ref 502), (.bool true), (.int (181) 0), (.ref 503), .none, (.ref 504), (.ref 505), (.ref 506), (.int (854) 0), (.int (471) 0), (.str (Str.ofString "/claim/cut.py") 855)])), List.toArray []⟩
noncomputable def o508_87 (p : Program) (P : Params) : Obj := ⟨(.type "function"), none, (fd (stm p 77) (Str.ofString "same_dots") (Str.ofString "same_dots") 3 .none .none .none (.str (Str.ofString "vectorcove.identical") 803) none (.ref 507) .none 0 ), List.toArray []⟩
noncomputable def o509_87 (p : Program) (P : Params) : Obj := ⟨(.type "tuple"), none, (.seq (List.toArray []) 0), List.toArray []⟩
noncomputable def o510_87 (p : Program) (P : Params) : Obj := ⟨.none, none, (.fields (List.toArray [])), List.toArray []⟩
noncomputable def o511_87 (p : Program) (P : Params) : Obj := ⟨(.type "tuple"), none, (.seq (List.toArray [(.str (Str.ofString "u") 860), (.str (Str.ofString "v") 861), (.str (Str.ofString "kind") 862), (.str (Str.ofString "same_home") 863)]) 0), List.toArray []⟩
noncomputable def o512_87 (p : Program) (P : Params) : Obj := ⟨(.type "tuple"), none, (.seq (List.toArray []) 0), List.toArray []⟩
noncomputable def o513_87 (p : Program) (P : Params) : Obj := ⟨.none, none, (fd (stm p 78) (Str.ofString "same_kernel") (Str.ofString "same_kernel") 0 .none .none .none .none none .none .none 0 ), List.toArray []⟩
noncomputable def o514_87 (p : Program) (P : Params) : Obj := ⟨(.type "code"), none, (.fields (List.toArray [(.str (Str.ofString "same_kernel") 857), (.str (Str.ofString "same_kernel") 858), (.str (Str.ofString "/claim/cut.py") 859), (.int (480) 0), (.int (2) 0), (.int (0) 0), (.int (0) 0), (.int (3) 0), (.ref 509), (.bool true), (.int (181) 0), (.ref 510), .none, (.ref 511), (.ref 512), (.ref 513), (.int (864) 0), (.int (480) 0), (.str (Str.ofString "/claim/cut.py") 865)])), List.toArray []⟩
noncomputable def o515_87 (p : Program) (P : Params) : Obj := ⟨(.type "function"), none, (fd (stm p 78) (Str.ofString "same_kernel") (Str.ofString "same_kernel") 3 .none .none .none (.str (Str.ofString "vectorcove.identical") 803) none (.ref 514) .none 0 ), List.toArray []⟩
noncomputable def o516_87 (p : Program) (P : Params) : Obj := ⟨(.type "tuple"), none, (.seq (List.toArray []) 0), List.toArray []⟩
noncomputable def o517_87 (p : Program) (P : Params) : Obj := ⟨.none, none, (.fields (List.toArray [])), List.toArray []⟩
noncomputable def o518_87 (p : Program) (P : Params) : Obj := ⟨(.type "tuple"), none, (.seq (List.toArray [(.str (Str.ofString "u") 870), (.str (Str.ofString "v") 871)]) 0), List.toArray []⟩
noncomputable def o519_87 (p : Program) (P : Params) : Obj := ⟨(.type "tuple"), none, (.seq (List.toArray []) 0), List.toArray []⟩
noncomputable def o520_87 (p : Program) (P : Params) : Obj := ⟨.none, none, (fd (stm p 79) (Str.ofString "identical") (Str.ofString "identical") 0 .none .none .none .none none .none .none 0 ), List.toArray []⟩
noncomputable def o521_87 (p : Program) (P : Params) : Obj := ⟨(.type "code"), none, (.fields (List.toArray [(.str (Str.ofString "identical") 867), (.str (Str.ofString "identical") 868), (.str (Str.ofString "/claim/cut.py") 869), (.int (502) 0), (.int (2) 0), (.int (0) 0), (.int (0) 0), (.int (3) 0), (.ref 516), (.bool true), (.int (181) 0), (.ref 517), .none, (.ref 518), (.ref 519), (.ref 520), (.int (872) 0), (.int (502) 0), (.str (Str.ofString "/claim/cut.py") 873)])), List.toArray []⟩
noncomputable def o522_87 (p : Program) (P : Params) : Obj := ⟨(.type "function"), none, (fd (stm p 79) (Str.ofString "identical") (Str.ofString "identical") 3 .none .none .none (.str (Str.ofString "vectorcove.identical") 803) none (.ref 521) .none 0 ), List.toArray []⟩
noncomputable def o523_87 (p : Program) (P : Params) : Obj := ⟨(.type "tuple"), none, (.seq (List.toArray []) 0), List.toArray []⟩
noncomputable def o524_87 (p : Program) (P : Params) : Obj := ⟨.none, none, (.fields (List.toArray [])), List.toArray []⟩
noncomputable def o525_87 (p : Program) (P : Params) : Obj := ⟨(.type "tuple"), none, (.seq (List.toArray [(.str (Str.ofString "v") 880)]) 0), List.toArray []⟩
noncomputable def o526_87 (p : Program) (P : Params) : Obj := ⟨(.type "tuple"), none, (.seq (List.toArray []) 0), List.toArray []⟩
noncomputable def o527_87 (p : Program) (P : Params) : Obj := ⟨.none, none, (fd (stm p 81) (Str.ofString "is_factor") (Str.ofString "is_factor") 0 .none .none .none .none none .none .none 0 ), List.toArray []⟩
noncomputable def o528_87 (p : Program) (P : Params) : Obj := ⟨(.type "code"), none, (.fields (List.toArray [(.str (Str.ofString "is_factor") 877), (.str (Str.ofString "is_factor") 878), (.str (Str.ofString "/claim/cut.py") 879), (.int (507) 0), (.int (1) 0), (.int (0) 0), (.int (0) 0), (.int (3) 0), (.ref 523), (.bool true), (.int (181) 0), (.ref 524), .none, (.ref 525), (.ref 526), (.ref 527), (.int (881) 0), (.int (507) 0), (.str (Str.ofString "/claim/cut.py") 882)])), List.toArray []⟩
noncomputable def o529_87 (p : Program) (P : Params) : Obj := ⟨(.type "function"), none, (fd (stm p 81) (Str.ofString "is_factor") (Str.ofString "is_factor") 3 .none .none .none (.str (Str.ofString "vectorcove.sequences") 875) none (.ref 528) .none 0 ), List.toArray []⟩
noncomputable def o530_87 (p : Program) (P : Params) : Obj := ⟨(.type "tuple"), none, (.seq (List.toArray []) 0), List.toArray []⟩
noncomputable def o531_87 (p : Program) (P : Params) : Obj := ⟨.none, none, (.fields (List.toArray [])), List.toArray []⟩
noncomputable def o532_87 (p : Program) (P : Params) : Obj := ⟨(.type "tuple"), none, (.seq (List.toArray [(.str (Str.ofString "kind") 889), (.str (Str.ofString "item") 890)]) 0), List.toArray []⟩
noncomputable def o533_87 (p : Program) (P : Params) : Obj := ⟨(.type "tuple"), none, (.seq (List.toArray []) 0), List.toArray []⟩
noncomputable def o534_87 (p : Program) (P : Params) : Obj := ⟨.none, none, (fd (stm p 83) (Str.ofString "item_key") (Str.ofString "item_key") 0 .none .none .none .none none .none .none 0 ), List.toArray []⟩
noncomputable def o535_87 (p : Program) (P : Params) : Obj := ⟨(.type "code"), none, (.fields (List.toArray [(.str (Str.ofString "item_key") 886), (.str (Str.ofString "item_key") 887), (.str (Str.ofString "/claim/cut.py") 888), (.int (510) 0), (.int (2) 0), (.int (0) 0), (.int (0) 0), (.int (3) 0), (.ref 530), (.bool true), (.int (181) 0), (.ref 531), .none, (.ref 532), (.ref 533), (.ref 534), (.int (891) 0), (.int (510) 0), (.str (Str.ofString "/claim/cut.py") 892)])), List.toArray []⟩
noncomputable def o536_87 (p : Program) (P : Params) : Obj := ⟨(.type "function"), none, (fd (stm p 83) (Str.ofString "item_key") (Str.ofString "item_key") 3 .none .none .none (.str (Str.ofString "vectorcove.sets") 884) none (.ref 535) .none 0 ), List.toArray []⟩
noncomputable def o537_87 (p : Program) (P : Params) : Obj := ⟨(.type "tuple"), none, (.seq (List.toArray []) 0), List.toArray []⟩
noncomputable def o538_87 (p : Program) (P : Params) : Obj := ⟨.none, none, (.fields (List.toArray [])), List.toArray []⟩
noncomputable def o539_87 (p : Program) (P : Params) : Obj := ⟨(.type "tuple"), none, (.seq (List.toArray [(.str (Str.ofString "v") 897)]) 0), List.toArray []⟩
noncomputable def o540_87 (p : Program) (P : Params) : Obj := ⟨(.type "tuple"), none, (.seq (List.toArray []) 0), List.toArray []⟩
noncomputable def o541_87 (p : Program) (P : Params) : Obj := ⟨.none, none, (fd (stm p 84) (Str.ofString "is_listed") (Str.ofString "is_listed") 0 .none .none .none .none none .none .none 0 ), List.toArray []⟩
noncomputable def o542_87 (p : Program) (P : Params) : Obj := ⟨(.type "code"), none, (.fields (List.toArray [(.str (Str.ofString "is_listed") 894), (.str (Str.ofString "is_listed") 895), (.str (Str.ofString "/claim/cut.py") 896), (.int (518) 0), (.int (1) 0), (.int (0) 0), (.int (0) 0), (.int (3) 0), (.ref 537), (.bool true), (.int (181) 0), (.ref 538), .none, (.ref 539), (.ref 540), (.ref 541), (.int (898) 0), (.int (518) 0), (.str (Str.ofString "/claim/cut.py") 899)])), List.toArray []⟩
noncomputable def o543_87 (p : Program) (P : Params) : Obj := ⟨(.type "function"), none, (fd (stm p 84) (Str.ofString "is_listed") (Str.ofString "is_listed") 3 .none .none .none (.str (Str.ofString "vectorcove.sets") 884) none (.ref 542) .none 0 ), List.toArray []⟩
noncomputable def o544_87 (p : Program) (P : Params) : Obj := ⟨(.type "tuple"), none, (.seq (List.toArray []) 0), List.toArray []⟩
noncomputable def o545_87 (p : Program) (P : Params) : Obj := ⟨.none, none, (.fields (List.toArray [])), List.toArray []⟩
noncomputable def o546_87 (p : Program) (P : Params) : Obj := ⟨(.type "tuple"), none, (.seq (List.toArray [(.str (Str.ofString "item") 904), (.str (Str.ofString "items") 905), (.str (Str.ofString "places") 906), (.str (Str.ofString "place") 907)]) 0), List.toArray []⟩
noncomputable def o547_87 (p : Program) (P : Params) : Obj := ⟨(.type "tuple"), none, (.seq (List.toArray []) 0), List.toArray []⟩
noncomputable def o548_87 (p : Program) (P : Params) : Obj := ⟨.none, none, (fd (stm p 85) (Str.ofString "list_place") (Str.ofString "list_place") 0 .none .none .none .none none .none .none 0 ), List.toArray []⟩
noncomputable def o549_87 (p : Program) (P : Params) : Obj := ⟨(.type "code"), none, (.fields (List.toArray [(.str (Str.ofString "list_place") 901), (.str (Str.ofString "list_place") 902), (.str (Str.ofString "/claim/cut.py") 903), (.int (520) 0), (.int (3) 0), (.int (0) 0), (.int (0) 0), (.int (3) 0), (.ref 544), (.bool true), (.int (181) 0), (.ref 545), .none, (.ref 546), (.ref 547), (.ref 548), (.int (908) 0), (.int (520) 0), (.str (Str.ofString "/claim/cut.py") 909)])), List.toArray []⟩
noncomputable def o550_87 (p : Program) (P : Params) : Obj := ⟨(.type "function"), none, (fd (stm p 85) (Str.ofString "list_place") (Str.ofString "list_place") 3 .none .none .none (.str (Str.ofString "vectorcove.sets") 884) none (.ref 549) .none 0 ), List.toArray []⟩
noncomputable def o551_87 (p : Program) (P : Params) : Obj := ⟨(.type "tuple"), none, (.seq (List.toArray []) 0), List.toArray []⟩
noncomputable def o552_87 (p : Program) (P : Params) : Obj := ⟨.none, none, (.fields (List.toArray [])), List.toArray []⟩
noncomputable def o553_87 (p : Program) (P : Params) : Obj := ⟨(.type "tuple"), none, (.seq (List.toArray [(.str (Str.ofString "v") 914), (.str (Str.ofString "kept") 915), (.str (Str.ofString "found") 916), (.str (Str.ofString "place") 917), (.str (Str.ofString "first") 918), (.str (Str.ofString "known") 919)]) 0), List.toArray []⟩
noncomputable def o554_87 (p : Program) (P : Params) : Obj := ⟨(.type "tuple"), none, (.seq (List.toArray []) 0), List.toArray []⟩
noncomputable def o555_87 (p : Program) (P : Params) : Obj := ⟨.none, none, (fd (stm p 86) (Str.ofString "first_places") (Str.ofString "first_places") 0 .none .none .none .none none .none .none 0 ), List.toArray []⟩
noncomputable def o556_87 (p : Program) (P : Params) : Obj := ⟨(.type "code"), none, (.fields (List.toArray [(.str (Str.ofString "first_places") 911), (.str (Str.ofString "first_places") 912), (.str (Str.ofString "/claim/cut.py") 913), (.int (525) 0), (.int (1) 0), (.int (0) 0), (.int (0) 0), (.int (3) 0), (.ref 551), (.bool true), (.int (181) 0), (.ref 552), .none, (.ref 553), (.ref 554), (.ref 555), (.int (920) 0), (.int (525) 0), (.str (Str.ofString "/claim/cut.py") 921)])), List.toArray []⟩
noncomputable def o557_87 (p : Program) (P : Params) : Obj := ⟨(.type "function"), none, (fd (stm p 86) (Str.ofString "first_places") (Str.ofString "first_places") 3 .none .none .none (.str (Str.ofString "vectorcove.sets") 884) none (.ref 556) .none 0 ), List.toArray []⟩
noncomputable def o3_101 (p : Program) (P : Params) : Obj := ⟨(.type "dict"), none, (.dict (List.toArray [en P (Str.ofString "__name__") 165 (.str (Str.ofString "law_pq1330_01") 989), en P (Str.ofString "__doc__") 166 .none, en P (Str.ofString "__package__") 167 .none, en P (Str.ofString "__loader__") 168 (.builtin "__main__.__loader__#opaque"), en P (Str.ofString "__spec__") 169 .none, en P (Str.ofString "__annotations__") 170 (.ref 6), en P (Str.ofString "__builtins__") 171 (.ref 4), en P (Str.ofString "__file__") 173 (.str (Str.ofString "/claim/cut.py") 172), en P (Str.ofString "__cached__") 174 .none, en P (Str.ofString "_wall") 193 (.ref 21), en P (Str.ofString "NAN") 198 (.ref 22), en P (Str.ofString "INF") 201 (.ref 23), en P (Str.ofString "ZERO") 204 (.ref 24), en P (Str.ofString "gcd") 212 (.ref 31), en P (Str.ofString "make") 221 (.ref 38), en P (Str.ofString "from_int") 228 (.ref 45), en P (Str.ofString "is_na") 235 (.ref 52), en P (Str.ofString "is_finite") 242 (.ref 59), en P (Str.ofString "neg") 249 (.ref 66), en P (Str.ofString "to_whole") 257 (.ref 73), en P (Str.ofString "nearest_whole") 267 (.ref 80), en P (Str.ofString "exponent") 277 (.ref 87), en P (Str.ofString "MOST_EXPONENT") 281 (.int (4096) 280), en P (Str.ofString "whole_text") 291 (.ref 94), en P (Str.ofString "special_text") 298 (.ref 101), en P (Str.ofString "scaled") 308 (.ref 108), en P (Str.ofString "significant") 318 (.ref 115), en P (Str.ofString "without_tail") 326 (.ref 122), en P (Str.ofString "scientific_text") 338 (.ref 129), en P (Str.ofString "fixed_text") 348 (.ref 136), en P (Str.ofString "measures") 361 (.ref 143), en P (Str.ofString "chosen_form") 378 (.ref 150), en P (Str.ofString "formed") 387 (.ref 157), en P (Str.ofString "common_texts") 393 (.ref 162), en P (Str.ofString "number_text") 402 (.ref 170), en P (Str.ofString "digits_value") 412 (.ref 177), en P (Str.ofString "digit_run") 421 (.ref 184), en P (Str.ofString "exponent_value") 430 (.ref 191), en P (Str.ofString "powered") 439 (.ref 198), en P (Str.ofString "unsigned_number") 458 (.ref 205), en P (Str.ofString "parse_number") 470 (.ref 212), en P (Str.ofString "Vector") 514 (.ref 237), en P (Str.ofString "character") 521 (.ref 248), en P (Str.ofString "length") 529 (.ref 255), en P (Str.ofString "is_vector") 536 (.ref 262), en P (Str.ofString "is_atomic") 543 (.ref 269), en P (Str.ofString "share") 550 (.ref 276), en P (Str.ofString "get_attr") 560 (.ref 283), en P (Str.ofString "label_text") 568 (.ref 290), en P (Str.ofString "level_at") 576 (.ref 297), en P (Str.ofString "label_texts") 582 (.ref 302), en P (Str.ofString "names_of") 588 (.ref 307), en P (Str.ofString "dim_of") 596 (.ref 314), en P (Str.ofString "dimnames_of") 602 (.ref 319), en P (Str.ofString "class_attr") 610 (.ref 326), en P (Str.ofString "CoveError") 632 (.ref 336), en P (Str.ofString "Refusal") 657 (.ref 356), en P (Str.ofString "MOST_INTEGER") 661 (.int (2147483647) 660), en P (Str.ofString "kind_order") 669 (.ref 365), en P (Str.ofString "common_kind") 679 (.ref 372), en P (Str.ofString "note") 687 (.ref 379), en P (Str.ofString "as_logical_text") 694 (.ref 386), en P (Str.ofString "double_to_integer") 703 (.ref 393), en P (Str.ofString "text_to_double") 713 (.ref 400), en P (Str.ofString "to_logical") 721 (.ref 407), en P (Str.ofString "to_integer") 730 (.ref 414), en P (Str.ofString "to_double") 739 (.ref 421), en P (Str.ofString "to_text") 747 (.ref 428), en P (Str.ofString "item_as") 757 (.ref 435), en P (Str.ofString "is_atomic_kind") 764 (.ref 442), en P (Str.ofString "list_item_as") 774 (.ref 449), en P (Str.ofString "refuse_type") 782 (.ref 456), en P (Str.ofString "as_vector_kind") 788 (.ref 461), en P (Str.ofString "with_names") 796 (.ref 468), en P (Str.ofString "as_kind") 802 (.ref 473), en P (Str.ofString "same_attrs") 815 (.ref 480), en P (Str.ofString "same_items") 825 (.ref 487), en P (Str.ofString "same_formals") 834 (.ref 494), en P (Str.ofString "same_slots") 843 (.ref 501), en P (Str.ofString "same_dots") 856 (.ref 508), en P (Str.ofString "same_kernel") 866 (.ref 515), en P (Str.ofString "identical") 874 (.ref 522), en P (Str.ofString "is_factor") 883 (.ref 529), en P (Str.ofString "item_key") 893 (.ref 536), en P (Str.ofString "is_listed") 900 (.ref 543), en P (Str.ofString "list_place") 910 (.ref 550), en P (Str.ofString "first_places") 922 (.ref 557), en P (Str.ofString "unique_places") 928 (.ref 562), en P (Str.ofString "plain") 935 (.ref 569), en P (Str.ofString "both_kinds") 946 (.ref 576), en P (Str.ofString "match_places") 952 (.ref 581), en P (Str.ofString "distinct") 958 (.ref 586), en P (Str.ofString "union_of") 968 (.ref 593), en P (Str.ofString "intersect_of") 974 (.ref 598), en P (Str.ofString "setdiff_of") 980 (.ref 603), en P (Str.ofString "same_sets") 988 (.ref 610), en P (Str.ofString "_law_take") 999 (.ref 617), en P (Str.ofString "_law_row") 1005 (.ref 622), en P (Str.ofString "_law_double") 1011 (.ref 627), en P (Str.ofString "law") 1017 (.ref 632)]) 100), List.toArray []⟩
noncomputable def o12_101 (p : Program) (P : Params) : Obj := ⟨.none, none, (.fields (List.toArray [(.int (1) 0), (.int (0) 0), (.ref 20), (.int (8) 0), (.int (0) 0), (.ref 30), (.int (12) 0), (.int (0) 0), (.ref 37), (.int (22) 0), (.int (0) 0), (.ref 44), (.int (26) 0), (.int (0) 0), (.ref 51), (.int (28) 0), (.int (0) 0), (.ref 58), (.int (30) 0), (.int (0) 0), (.ref 65), (.int (34) 0), (.int (0) 0), (.ref 72), (.int (39) 0), (.int (0) 0), (.ref 79), (.int (45) 0), (.int (0) 0), (.ref 86), (.int (58) 0), (.int (0) 0), (.ref 93), (.int (69) 0), (.int (0) 0), (.ref 100), (.int (77) 0), (.int (0) 0), (.ref 107), (.int (82) 0), (.int (0) 0), (.ref 114), (.int (91) 0), (.int (0) 0), (.ref 121), (.int (96) 0), (.int (0) 0), (.ref 128), (.int (103) 0), (.int (0) 0), (.ref 135), (.int (111) 0), (.int (0) 0), (.ref 142), (.int (118) 0), (.int (0) 0), (.ref 149), (.int (138) 0), (.int (0) 0), (.ref 156), (.int (145) 0), (.int (0) 0), (.ref 161), (.int (149) 0), (.int (0) 0), (.ref 169), (.int (151) 0), (.int (0) 0), (.ref 176), (.int (156) 0), (.int (0) 0), (.ref 183), (.int (160) 0), (.int (0) 0), (.ref 190), (.int (170) 0), (.int (0) 0), (.ref 197), (.int (180) 0), (.int (0) 0), (.ref 204), (.int (212) 0), (.int (0) 0), (.ref 211), (.int (230) 0), (.int (0) 0), (.ref 218), (.int (241) 0), (.int (0) 0), (.ref 247), (.int (243) 0), (.int (0) 0), (.ref 254), (.int (254) 0), (.int (0) 0), (.ref 261), (.int (256) 0), (.int (0) 0), (.ref 268), (.int (258) 0), (.int (0) 0), (.ref 275), (.int (263) 0), (.int (0) 0), (.ref 282), (.int (267) 0), (.int (0) 0), (.ref 289), (.int (275) 0), (.int (0) 0), (.ref 296), (.int (279) 0), (.int (0) 0), (.ref 301), (.int (285) 0), (.int (0) 0), (.ref 306), (.int (301) 0), (.int (0) 0), (.ref 313), (.int (306) 0), (.int (0) 0), (.ref 318), (.int (311) 0), (.int (0) 0), (.ref 325), (.int (317) 0), (.int (0) 0), (.ref 332), (.int (319) 0), (.int (0) 0), (.ref 345), (.int (325) 0), (.int (0) 0), (.ref 364), (.int (330) 0), (.int (0) 0), (.ref 371), (.int (336) 0), (.int (0) 0), (.ref 378), (.int (339) 0), (.int (0) 0), (.ref 385), (.int (345) 0), (.int (0) 0), (.ref 392), (.int (353) 0), (.int (0) 0), (.ref 399), (.int (359) 0), (.int (0) 0), (.ref 406), (.int (369) 0), (.int (0) 0), (.ref 413), (.int (377) 0), (.int (0) 0), (.ref 420), (.int (383) 0), (.int (0) 0), (.ref 427), (.int (391) 0), (.int (0) 0), (.ref 434), (.int (405) 0), (.int (0) 0), (.ref 441), (.int (407) 0), (.int (0) 0), (.ref 448), (.int (413) 0), (.int (0) 0), (.ref 455), (.int (415) 0), (.int (0) 0), (.ref 460), (.int (429) 0), (.int (0) 0), (.ref 467), (.int (433) 0), (.int (0) 0), (.ref 472), (.int (441) 0), (.int (0) 0), (.ref 479), (.int (450) 0), (.int (0) 0), (.ref 486), (.int (457) 0), (.int (0) 0), (.ref 493), (.int (464) 0), (.int (0) 0), (.ref 500), (.int (471) 0), (.int (0) 0), (.ref 507), (.int (480) 0), (.int (0) 0), (.ref 514), (.int (502) 0), (.int (0) 0), (.ref 521), (.int (507) 0), (.int (0) 0), (.ref 528), (.int (510) 0), (.int (0) 0), (.ref 535), (.int (518) 0), (.int (0) 0), (.ref 542), (.int (520) 0), (.int (0) 0), (.ref 549), (.int (525) 0), (.int (0) 0), (.ref 556), (.int (541) 0), (.int (0) 0), (.ref 561), (.int (544) 0), (.int (0) 0), (.ref 568), (.int (552) 0), (.int (0) 0), (.ref 575), (.int (557) 0), (.int (0) 0), (.ref 580), (.int (566) 0), (.int (0) 0), (.ref 585), (.int (568) 0), (.int (0) 0), (.ref 592), (.int (571) 0), (.int (0) 0), (.ref 597), (.int (575) 0), (.int (0) 0), (.ref 602), (.int (579) 0), (.int (0) 0), (.ref 609), (.int (582) 0), (.int (0) 0), (.ref 616), (.int (590) 0), (.int (0) 0), (.ref 621), (.int (597) 0), (.int (0) 0), (.ref 626), (.int (599) 0), (.int (0) 0), (.ref 631)])), List.toArray []⟩
noncomputable def o558_101 (p : Program) (P : Params) : Obj := ⟨(.type "tuple"), none, (.seq (List.toArray []) 0), List.toArray []⟩
noncomputable def o559_101 (p : Program) (P : Params) : Obj := ⟨.none, none, (.fields (List.toArray [])), List.toArray []⟩
noncomputable def o560_101 (p : Program) (P : Params) : Obj := ⟨.none, none, (fd (stm p 87) (Str.ofString "unique_places") (Str.ofString "unique_places") 0 .none .none .none .none none .none .none 0 ), List.toArray []⟩
noncomputable def o561_101 (p : Program) (P : Params) : Obj := ⟨(.type "code"), none, (.fields (List.toArray [(.str (Str.ofString "unique_places") 923), (.str (Str.ofString "unique_places") 924), (.str (Str.ofString "/claim/cut.py") 925), (.int (541) 0), (.int (1) 0), (.int (0) 0), (.int (0) 0), (.int (3) 0), (.ref 558), (.bool true), (.int (181) 0), (.ref 559), .none, .none, .none, (.ref 560), (.int (926) 0), (.int (541) 0), (.str (Str.ofString "/claim/cut.py") 927)])), List.toArray []⟩
noncomputable def o562_101 (p : Program) (P : Params) : Obj := ⟨(.type "function"), none, (fd (stm p 87) (Str.ofString "unique_places") (Str.ofString "unique_places") 3 .none .none .none (.str (Str.ofString "vectorcove.sets") 884) none (.ref 561) .none 0 ), List.toArray []⟩
noncomputable def o563_101 (p : Program) (P : Params) : Obj := ⟨(.type "tuple"), none, (.seq (List.toArray []) 0), List.toArray []⟩
noncomputable def o564_101 (p : Program) (P : Params) : Obj := ⟨.none, none, (.fields (List.toArray [])), List.toArray []⟩
noncomputable def o565_101 (p : Program) (P : Params) : Obj := ⟨(.type "tuple"), none, (.seq (List.toArray [(.str (Str.ofString "v") 932)]) 0), List.toArray []⟩
noncomputable def o566_101 (p : Program) (P : Params) : Obj := ⟨(.type "tuple"), none, (.seq (List.toArray []) 0), List.toArray []⟩
noncomputable def o567_101 (p : Program) (P : Params) : Obj := ⟨.none, none, (fd (stm p 88) (Str.ofString "plain") (Str.ofString "plain") 0 .none .none .none .none none .none .none 0 ), List.toArray []⟩
noncomputable def o568_101 (p : Program) (P : Params) : Obj := ⟨(.type "code"), none, (.fields (List.toArray [(.str (Str.ofString "plain") 929), (.str (Str.ofString "plain") 930), (.str (Str.ofString "/claim/cut.py") 931), (.int (544) 0), (.int (1) 0), (.int (0) 0), (.int (0) 0), (.int (3) 0), (.ref 563), (.bool true), (.int (181) 0), (.ref 564), .none, (.ref 565), (.ref 566), (.ref 567), (.int (933) 0), (.int (544) 0), (.str (Str.ofString "/claim/cut.py") 934)])), List.toArray []⟩
noncomputable def o569_101 (p : Program) (P : Params) : Obj := ⟨(.type "function"), none, (fd (stm p 88) (Str.ofString "plain") (Str.ofString "plain") 3 .none .none .none (.str (Str.ofString "vectorcove.sets") 884) none (.ref 568) .none 0 ), List.toArray []⟩
noncomputable def o570_101 (p : Program) (P : Params) : Obj := ⟨(.type "tuple"), none, (.seq (List.toArray []) 0), List.toArray []⟩
noncomputable def o571_101 (p : Program) (P : Params) : Obj := ⟨.none, none, (.fields (List.toArray [])), List.toArray []⟩
noncomputable def o572_101 (p : Program) (P : Params) : Obj := ⟨(.type "tuple"), none, (.seq (List.toArray [(.str (Str.ofString "u") 939), (.str (Str.ofString "v") 940), (.str (Str.ofString "left") 941), (.str (Str.ofString "right") 942), (.str (Str.ofString "kind") 943)]) 0), List.toArray []⟩
noncomputable def o573_101 (p : Program) (P : Params) : Obj := ⟨(.type "tuple"), none, (.seq (List.toArray []) 0), List.toArray []⟩
noncomputable def o574_101 (p : Program) (P : Params) : Obj := ⟨.none, none, (fd (stm p 89) (Str.ofString "both_kinds") (Str.ofString "both_kinds") 0 .none .none .none .none none .none .none 0 ), List.toArray []⟩
noncomputable def o575_101 (p : Program) (P : Params) : Obj := ⟨(.type "code"), none, (.fields (List.toArray [(.str (Str.ofString "both_kinds") 936), (.str (Str.ofString "both_kinds") 937), (.str (Str.ofString "/claim/cut.py") 938), (.int (552) 0), (.int (2) 0), (.int (0) 0), (.int (0) 0), (.int (3) 0), (.ref 570), (.bool true), (.int (181) 0), (.ref 571), .none, (.ref 572), (.ref 573), (.ref 574), (.int (944) 0), (.int (552) 0), (.str (Str.ofString "/claim/cut.py") 945)])), List.toArray []⟩
noncomputable def o576_101 (p : Program) (P : Params) : Obj := ⟨(.type "function"), none, (fd (stm p 89) (Str.ofString "both_kinds") (Str.ofString "both_kinds") 3 .none .none .none (.str (Str.ofString "vectorcove.sets") 884) none (.ref 575) .none 0 ), List.toArray []⟩
noncomputable def o577_101 (p : Program) (P : Params) : Obj := ⟨(.type "tuple"), none, (.seq (List.toArray []) 0), List.toArray []⟩
noncomputable def o578_101 (p : Program) (P : Params) : Obj := ⟨.none, none, (.fields (List.toArray [])), List.toArray []⟩
noncomputable def o579_101 (p : Program) (P : Params) : Obj := ⟨.none, none, (fd (stm p 90) (Str.ofString "match_places") (Str.ofString "match_places") 0 .none .none .none .none none .none .none 0 ), List.toArray []⟩
noncomputable def o580_101 (p : Program) (P : Params) : Obj := ⟨(.type "code"), none, (.fields (List.toArray [(.str (Str.ofString "match_places") 947), (.str (Str.ofString "match_places") 948), (.str (Str.ofString "/claim/cut.py") 949), (.int (557) 0), (.int (2) 0), (.int (0) 0), (.int (0) 0), (.int (3) 0), (.ref 577), (.bool true), (.int (181) 0), (.ref 578), .none, .none, .none, (.ref 579), (.int (950) 0), (.int (557) 0), (.str (Str.ofString "/claim/cut.py") 951)])), List.toArray []⟩
noncomputable def o581_101 (p : Program) (P : Params) : Obj := ⟨(.type "function"), none, (fd (stm p 90) (Str.ofString "match_places") (Str.ofString "match_places") 3 .none .none .none (.str (Str.ofString "vectorcove.sets") 884) none (.ref 580) .none 0 ), List.toArray []⟩
noncomputable def o582_101 (p : Program) (P : Params) : Obj := ⟨(.type "tuple"), none, (.seq (List.toArray []) 0), List.toArray []⟩
noncomputable def o583_101 (p : Program) (P : Params) : Obj := ⟨.none, none, (.fields (List.toArray [])), List.toArray []⟩
noncomputable def o584_101 (p : Program) (P : Params) : Obj := ⟨.none, none, (fd (stm p 91) (Str.ofString "distinct") (Str.ofString "distinct") 0 .none .none .none .none none .none .none 0 ), List.toArray []⟩
noncomputable def o585_101 (p : Program) (P : Params) : Obj := ⟨(.type "code"), none, (.fields (List.toArray [(.str (Str.ofString "distinct") 953), (.str (Str.ofString "distinct") 954), (.str (Str.ofString "/claim/cut.py") 955), (.int (566) 0), (.int (1) 0), (.int (0) 0), (.int (0) 0), (.int (3) 0), (.ref 582), (.bool true), (.int (181) 0), (.ref 583), .none, .none, .none, (.ref 584), (.int (956) 0), (.int (566) 0), (.str (Str.ofString "/claim/cut.py") 957)])), List.toArray []⟩
noncomputable def o586_101 (p : Program) (P : Params) : Obj := ⟨(.type "function"), none, (fd (stm p 91) (Str.ofString "distinct") (Str.ofString "distinct") 3 .none .none .none (.str (Str.ofString "vectorcove.sets") 884) none (.ref 585) .none 0 ), List.toArray []⟩
noncomputable def o587_101 (p : Program) (P : Params) : Obj := ⟨(.type "tuple"), none, (.seq (List.toArray []) 0), List.toArray []⟩
noncomputable def o588_101 (p : Program) (P : Params) : Obj := ⟨.none, none, (.fields (List.toArray [])), List.toArray []⟩
noncomputable def o589_101 (p : Program) (P : Params) : Obj := ⟨(.type "tuple"), none, (.seq (List.toArray [(.str (Str.ofString "u") 962), (.str (Str.ofString "v") 963), (.str (Str.ofString "left") 964), (.str (Str.ofString "right") 965)]) 0), List.toArray []⟩
noncomputable def o590_101 (p : Program) (P : Params) : Obj := ⟨(.type "tuple"), none, (.seq (List.toArray []) 0), List.toArray []⟩
noncomputable def o591_101 (p : Program) (P : Params) : Obj := ⟨.none, none, (fd (stm p 92) (Str.ofString "union_of") (Str.ofString "union_of") 0 .none .none .none .none none .none .none 0 ), List.toArray []⟩
noncomputable def o592_101 (p : Program) (P : Params) : Obj := ⟨(.type "code"), none, (.fields (List.toArray [(.str (Str.ofString "union_of") 959), (.str (Str.ofString "union_of") 960), (.str (Str.ofString "/claim/cut.py") 961), (.int (568) 0), (.int (2) 0), (.int (0) 0), (.int (0) 0), (.int (3) 0), (.ref 587), (.bool true), (.int (181) 0), (.ref 588), .none, (.ref 589), (.ref 590), (.ref 591), (.int (966) 0), (.int (568) 0), (.str (Str.ofString "/claim/cut.py") 967)])), List.toArray []⟩
noncomputable def o593_101 (p : Program) (P : Params) : Obj := ⟨(.type "function"), none, (fd (stm p 92) (Str.ofString "union_of") (Str.ofString "union_of") 3 .none .none .none (.str (Str.ofString "vectorcove.sets") 884) none (.ref 592) .none 0 ), List.toArray []⟩
noncomputable def o594_101 (p : Program) (P : Params) : Obj := ⟨(.type "tuple"), none, (.seq (List.toArray []) 0), List.toArray []⟩
noncomputable def o595_101 (p : Program) (P : Params) : Obj := ⟨.none, none, (.fields (List.toArray [])), List.toArray []⟩
noncomputable def o596_101 (p : Program) (P : Params) : Obj := ⟨.none, none, (fd (stm p 93) (Str.ofString "intersect_of") (Str.ofString "intersect_of") 0 .none .none .none .none none .none .none 0 ), List.toArray []⟩
noncomputable def o597_101 (p : Program) (P : Params) : Obj := ⟨(.type "code"), none, (.fields (List.toArray [(.str (Str.ofString "intersect_of") 969), (.str (Str.ofString "intersect_of") 970), (.str (Str.ofString "/claim/cut.py") 971), (.int (571) 0), (.int (2) 0), (.int (0) 0), (.int (0) 0), (.int (3) 0), (.ref 594), (.bool true), (.int (181) 0), (.ref 595), .none, .none, .none, (.ref 596), (.int (972) 0), (.int (571) 0), (.str (Str.ofString "/claim/cut.py") 973)])), List.toArray []⟩
noncomputable def o598_101 (p : Program) (P : Params) : Obj := ⟨(.type "function"), none, (fd (stm p 93) (Str.ofString "intersect_of") (Str.ofString "intersect_of") 3 .none .none .none (.str (Str.ofString "vectorcove.sets") 884) none (.ref 597) .none 0 ), List.toArray []⟩
noncomputable def o599_101 (p : Program) (P : Params) : Obj := ⟨(.type "tuple"), none, (.seq (List.toArray []) 0), List.toArray []⟩
noncomputable def o600_101 (p : Program) (P : Params) : Obj := ⟨.none, none, (.fields (List.toArray [])), List.toArray []⟩
noncomputable def o601_101 (p : Program) (P : Params) : Obj := ⟨.none, none, (fd (stm p 94) (Str.ofString "setdiff_of") (Str.ofString "setdiff_of") 0 .none .none .none .none none .none .none 0 ), List.toArray []⟩
noncomputable def o602_101 (p : Program) (P : Params) : Obj := ⟨(.type "code"), none, (.fields (List.toArray [(.str (Str.ofString "setdiff_of") 975), (.str (Str.ofString "setdiff_of") 976), (.str (Str.ofString "/claim/cut.py") 977), (.int (575) 0), (.int (2) 0), (.int (0) 0), (.int (0) 0), (.int (3) 0), (.ref 599), (.bool true), (.int (181) 0), (.ref 600), .none, .none, .none, (.ref 601), (.int (978) 0), (.int (575) 0), (.str (Str.ofString "/claim/cut.py") 979)])), List.toArray []⟩
noncomputable def o603_101 (p : Program) (P : Params) : Obj := ⟨(.type "function"), none, (fd (stm p 94) (Str.ofString "setdiff_of") (Str.ofString "setdiff_of") 3 .none .none .none (.str (Str.ofString "vectorcove.sets") 884) none (.ref 602) .none 0 ), List.toArray []⟩
noncomputable def o604_101 (p : Program) (P : Params) : Obj := ⟨(.type "tuple"), none, (.seq (List.toArray []) 0), List.toArray []⟩
noncomputable def o605_101 (p : Program) (P : Params) : Obj := ⟨.none, none, (.fields (List.toArray [])), List.toArray []⟩
noncomputable def o606_101 (p : Program) (P : Params) : Obj := ⟨(.type "tuple"), none, (.seq (List.toArray [(.str (Str.ofString "u") 984), (.str (Str.ofString "v") 985)]) 0), List.toArray []⟩
noncomputable def o607_101 (p : Program) (P : Params) : Obj := ⟨(.type "tuple"), none, (.seq (List.toArray []) 0), List.toArray []⟩
noncomputable def o608_101 (p : Program) (P : Params) : Obj := ⟨.none, none, (fd (stm p 95) (Str.ofString "same_sets") (Str.ofString "same_sets") 0 .none .none .none .none none .none .none 0 ), List.toArray []⟩
noncomputable def o609_101 (p : Program) (P : Params) : Obj := ⟨(.type "code"), none, (.fields (List.toArray [(.str (Str.ofString "same_sets") 981), (.str (Str.ofString "same_sets") 982), (.str (Str.ofString "/claim/cut.py") 983), (.int (579) 0), (.int (2) 0), (.int (0) 0), (.int (0) 0), (.int (3) 0), (.ref 604), (.bool true), (.int (181) 0), (.ref 605), .none, (.ref 606), (.ref 607), (.ref 608), (.int (986) 0), (.int (579) 0), (.str (Str.ofString "/claim/cut.py") 987)])), List.toArray []⟩
noncomputable def o610_101 (p : Program) (P : Params) : Obj := ⟨(.type "function"), none, (fd (stm p 95) (Str.ofString "same_sets") (Str.ofString "same_sets") 3 .none .none .none (.str (Str.ofString "vectorcove.sets") 884) none (.ref 609) .none 0 ), List.toArray []⟩
noncomputable def o611_101 (p : Program) (P : Params) : Obj := ⟨(.type "tuple"), none, (.seq (List.toArray []) 0), List.toArray []⟩
noncomputable def o612_101 (p : Program) (P : Params) : Obj := ⟨.none, none, (.fields (List.toArray [])), List.toArray []⟩
noncomputable def o613_101 (p : Program) (P : Params) : Obj := ⟨(.type "tuple"), none, (.seq (List.toArray [(.str (Str.ofString "source") 994), (.str (Str.ofString "most") 995), (.str (Str.ofString "found") 996)]) 0), List.toArray []⟩
noncomputable def o614_101 (p : Program) (P : Params) : Obj := ⟨(.type "tuple"), none, (.seq (List.toArray []) 0), List.toArray []⟩
noncomputable def o615_101 (p : Program) (P : Params) : Obj := ⟨.none, none, (fd (stm p 97) (Str.ofString "_law_take") (Str.ofString "_law_take") 0 .none .none .none .none none .none .none 0 ), List.toArray []⟩
noncomputable def o616_101 (p : Program) (P : Params) : Obj := ⟨(.type "code"), none, (.fields (List.toArray [(.str (Str.ofString "_law_take") 991), (.str (Str.ofString "_law_take") 992), (.str (Str.ofString "/claim/cut.py") 993), (.int (582) 0), (.int (2) 0), (.int (0) 0), (.int (0) 0), (.int (3) 0), (.ref 611), (.bool true), (.int (181) 0), (.ref 612), .none, (.ref 613), (.ref 614), (.ref 615), (.int (997) 0), (.int (582) 0), (.str (Str.ofString "/claim/cut.py") 998)])), List.toArray []⟩
noncomputable def o617_101 (p : Program) (P : Params) : Obj := ⟨(.type "function"), none, (fd (stm p 97) (Str.ofString "_law_take") (Str.ofString "_law_take") 3 .none .none .none (.str (Str.ofString "law_pq1330_01") 989) none (.ref 616) .none 0 ), List.toArray []⟩
noncomputable def o618_101 (p : Program) (P : Params) : Obj := ⟨(.type "tuple"), none, (.seq (List.toArray []) 0), List.toArray []⟩
noncomputable def o619_101 (p : Program) (P : Params) : Obj := ⟨.none, none, (.fields (List.toArray [])), List.toArray []⟩
noncomputable def o620_101 (p : Program) (P : Params) : Obj := ⟨.none, none, (fd (stm p 98) (Str.ofString "_law_row") (Str.ofString "_law_row") 0 .none .none .none .none none .none .none 0 ), List.toArray []⟩
noncomputable def o621_101 (p : Program) (P : Params) : Obj := ⟨(.type "code"), none, (.fields (List.toArray [(.str (Str.ofString "_law_row") 1000), (.str (Str.ofString "_law_row") 1001), (.str (Str.ofString "/claim/cut.py") 1002), (.int (590) 0), (.int (2) 0), (.int (0) 0), (.int (0) 0), (.int (3) 0), (.ref 618), (.bool true), (.int (181) 0), (.ref 619), .none, .none, .none, (.ref 620), (.int (1003) 0), (.int (590) 0), (.str (Str.ofString "/claim/cut.py") 1004)])), List.toArray []⟩
noncomputable def o622_101 (p : Program) (P : Params) : Obj := ⟨(.type "function"), none, (fd (stm p 98) (Str.ofString "_law_row") (Str.ofString "_law_row") 3 .none .none .none (.str (Str.ofString "law_pq1330_01") 989) none (.ref 621) .none 0 ), List.toArray []⟩
noncomputable def o623_101 (p : Program) (P : Params) : Obj := ⟨(.type "tuple"), none, (.seq (List.toArray []) 0), List.toArray []⟩
noncomputable def o624_101 (p : Program) (P : Params) : Obj := ⟨.none, none, (.fields (List.toArray [])), List.toArray []⟩
noncomputable def o625_101 (p : Program) (P : Params) : Obj := ⟨.none, none, (fd (stm p 99) (Str.ofString "_law_double") (Str.ofString "_law_double") 0 .none .none .none .none none .none .none 0 ), List.toArray []⟩
noncomputable def o626_101 (p : Program) (P : Params) : Obj := ⟨(.type "code"), none, (.fields (List.toArray [(.str (Str.ofString "_law_double") 1006), (.str (Str.ofString "_law_double") 1007), (.str (Str.ofString "/claim/cut.py") 1008), (.int (597) 0), (.int (1) 0), (.int (0) 0), (.int (0) 0), (.int (3) 0), (.ref 623), (.bool true), (.int (181) 0), (.ref 624), .none, .none, .none, (.ref 625), (.int (1009) 0), (.int (597) 0), (.str (Str.ofString "/claim/cut.py") 1010)])), List.toArray []⟩
noncomputable def o627_101 (p : Program) (P : Params) : Obj := ⟨(.type "function"), none, (fd (stm p 99) (Str.ofString "_law_double") (Str.ofString "_law_double") 3 .none .none .none (.str (Str.ofString "law_pq1330_01") 989) none (.ref 626) .none 0 ), List.toArray []⟩
noncomputable def o628_101 (p : Program) (P : Params) : Obj := ⟨(.type "tuple"), none, (.seq (List.toArray []) 0), List.toArray []⟩
noncomputable def o629_101 (p : Program) (P : Params) : Obj := ⟨.none, none, (.fields (List.toArray [])), List.toArray []⟩
noncomputable def o630_101 (p : Program) (P : Params) : Obj := ⟨.none, none, (fd (stm p 100) (Str.ofString "law") (Str.ofString "law") 0 .none .none .none .none none .none .none 0 ), List.toArray []⟩
noncomputable def o631_101 (p : Program) (P : Params) : Obj := ⟨(.type "code"), none, (.fields (List.toArray [(.str (Str.ofString "law") 1012), (.str (Str.ofString "law") 1013), (.str (Str.ofString "/claim/cut.py") 1014), (.int (599) 0), (.int (1) 0), (.int (0) 0), (.int (0) 0), (.int (3) 0), (.ref 628), (.bool true), (.int (181) 0), (.ref 629), .none, .none, .none, (.ref 630), (.int (1015) 0), (.int (599) 0), (.str (Str.ofString "/claim/cut.py") 1016)])), List.toArray []⟩
noncomputable def o632_101 (p : Program) (P : Params) : Obj := ⟨(.type "function"), none, (fd (stm p 100) (Str.ofString "law") (Str.ofString "law") 3 .none .none .none (.str (Str.ofString "law_pq1330_01") 989) none (.ref 631) .none 0 ), List.toArray []⟩

noncomputable def tr_B (p : Program) (P : Params) : BT := (.node (boot_o_0 P) (.node (boot_o_1 P) (.node (boot_o_3 P) (.node (boot_o_7 P) .nil .nil) (.node (o11_B p P) .nil .nil)) (.node (boot_o_5 P) (.node (boot_o_9 P) .nil .nil) (.node (o13_B p P) .nil .nil))) (.node (boot_o_2 P) (.node (boot_o_4 P) (.node (boot_o_8 P) .nil .nil) (.node (o12_B p P) .nil .nil)) (.node (boot_o_6 P) (.node (boot_o_10 P) .nil .nil) (.node (o14_B p P) .nil .nil))))
noncomputable def tr_17 (p : Program) (P : Params) : BT := (.node (boot_o_0 P) (.node (boot_o_1 P) (.node (o3_17 p P) (.node (boot_o_7 P) (.node (o15_17 p P) (.node (o31_17 p P) (.node (o63_17 p P) .nil .nil) .nil) (.node (o47_17 p P) (.node (o79_17 p P) .nil .nil) .nil)) (.node (o23_17 p P) (.node (o39_17 p P) (.node (o71_17 p P) .nil .nil) .nil) (.node (o55_17 p P) (.node (o87_17 p P) .nil .nil) .nil))) (.node (o11_B p P) (.node (o19_17 p P) (.node (o35_17 p P) (.node (o67_17 p P) .nil .nil) .nil) (.node (o51_17 p P) (.node (o83_17 p P) .nil .nil) .nil)) (.node (o27_17 p P) (.node (o43_17 p P) (.node (o75_17 p P) .nil .nil) .nil) (.node (o59_17 p P) (.node (o91_17 p P) .nil .nil) .nil)))) (.node (boot_o_5 P) (.node (boot_o_9 P) (.node (o17_17 p P) (.node (o33_17 p P) (.node (o65_17 p P) .nil .nil) .nil) (.node (o49_17 p P) (.node (o81_17 p P) .nil .nil) .nil)) (.node (o25_17 p P) (.node (o41_17 p P) (.node (o73_17 p P) .nil .nil) .nil) (.node (o57_17 p P) (.node (o89_17 p P) .nil .nil) .nil))) (.node (o13_B p P) (.node (o21_17 p P) (.node (o37_17 p P) (.node (o69_17 p P) .nil .nil) .nil) (.node (o53_17 p P) (.node (o85_17 p P) .nil .nil) .nil)) (.node (o29_17 p P) (.node (o45_17 p P) (.node (o77_17 p P) .nil .nil) .nil) (.node (o61_17 p P) (.node (o93_17 p P) .nil .nil) .nil))))) (.node (boot_o_2 P) (.node (boot_o_4 P) (.node (boot_o_8 P) (.node (o16_17 p P) (.node (o32_17 p P) (.node (o64_17 p P) .nil .nil) .nil) (.node (o48_17 p P) (.node (o80_17 p P) .nil .nil) .nil)) (.node (o24_17 p P) (.node (o40_17 p P) (.node (o72_17 p P) .nil .nil) .nil) (.node (o56_17 p P) (.node (o88_17 p P) .nil .nil) .nil))) (.node (o12_17 p P) (.node (o20_17 p P) (.node (o36_17 p P) (.node (o68_17 p P) .nil .nil) .nil) (.node (o52_17 p P) (.node (o84_17 p P) .nil .nil) .nil)) (.node (o28_17 p P) (.node (o44_17 p P) (.node (o76_17 p P) .nil .nil) .nil) (.node (o60_17 p P) (.node (o92_17 p P) .nil .nil) .nil)))) (.node (boot_o_6 P) (.node (boot_o_10 P) (.node (o18_17 p P) (.node (o34_17 p P) (.node (o66_17 p P) .nil .nil) .nil) (.node (o50_17 p P) (.node (o82_17 p P) .nil .nil) .nil)) (.node (o26_17 p P) (.node (o42_17 p P) (.node (o74_17 p P) .nil .nil) .nil) (.node (o58_17 p P) (.node (o90_17 p P) .nil .nil) .nil))) (.node (o14_B p P) (.node (o22_17 p P) (.node (o38_17 p P) (.node (o70_17 p P) .nil .nil) .nil) (.node (o54_17 p P) (.node (o86_17 p P) .nil .nil) .nil)) (.node (o30_17 p P) (.node (o46_17 p P) (.node (o78_17 p P) .nil .nil) .nil) (.node (o62_17 p P) (.node (o94_17 p P) .nil .nil) .nil))))))
noncomputable def tr_29 (p : Program) (P : Params) : BT := (.node (boot_o_0 P) (.node (boot_o_1 P) (.node (o3_29 p P) (.node (boot_o_7 P) (.node (o15_17 p P) (.node (o31_17 p P) (.node (o63_17 p P) (.node (o127_29 p P) .nil .nil) .nil) (.node (o95_29 p P) (.node (o159_29 p P) .nil .nil) .nil)) (.node (o47_17 p P) (.node (o79_17 p P) (.node (o143_29 p P) .nil .nil) .nil) (.node (o111_29 p P) (.node (o175_29 p P) .nil .nil) .nil))) (.node (o23_17 p P) (.node (o39_17 p P) (.node (o71_17 p P) (.node (o135_29 p P) .nil .nil) .nil) (.node (o103_29 p P) (.node (o167_29 p P) .nil .nil) .nil)) (.node (o55_17 p P) (.node (o87_17 p P) (.node (o151_29 p P) .nil .nil) .nil) (.node (o119_29 p P) .nil .nil)))) (.node (o11_B p P) (.node (o19_17 p P) (.node (o35_17 p P) (.node (o67_17 p P) (.node (o131_29 p P) .nil .nil) .nil) (.node (o99_29 p P) (.node (o163_29 p P) .nil .nil) .nil)) (.node (o51_17 p P) (.node (o83_17 p P) (.node (o147_29 p P) .nil .nil) .nil) (.node (o115_29 p P) .nil .nil))) (.node (o27_17 p P) (.node (o43_17 p P) (.node (o75_17 p P) (.node (o139_29 p P) .nil .nil) .nil) (.node (o107_29 p P) (.node (o171_29 p P) .nil .nil) .nil)) (.node (o59_17 p P) (.node (o91_17 p P) (.node (o155_29 p P) .nil .nil) .nil) (.node (o123_29 p P) .nil .nil))))) (.node (boot_o_5 P) (.node (boot_o_9 P) (.node (o17_17 p P) (.node (o33_17 p P) (.node (o65_17 p P) (.node (o129_29 p P) .nil .nil) .nil) (.node (o97_29 p P) (.node (o161_29 p P) .nil .nil) .nil)) (.node (o49_17 p P) (.node (o81_17 p P) (.node (o145_29 p P) .nil .nil) .nil) (.node (o113_29 p P) (.node (o177_29 p P) .nil .nil) .nil))) (.node (o25_17 p P) (.node (o41_17 p P) (.node (o73_17 p P) (.node (o137_29 p P) .nil .nil) .nil) (.node (o105_29 p P) (.node (o169_29 p P) .nil .nil) .nil)) (.node (o57_17 p P) (.node (o89_17 p P) (.node (o153_29 p P) .nil .nil) .nil) (.node (o121_29 p P) .nil .nil)))) (.node (o13_B p P) (.node (o21_17 p P) (.node (o37_17 p P) (.node (o69_17 p P) (.node (o133_29 p P) .nil .nil) .nil) (.node (o101_29 p P) (.node (o165_29 p P) .nil .nil) .nil)) (.node (o53_17 p P) (.node (o85_17 p P) (.node (o149_29 p P) .nil .nil) .nil) (.node (o117_29 p P) .nil .nil))) (.node (o29_17 p P) (.node (o45_17 p P) (.node (o77_17 p P) (.node (o141_29 p P) .nil .nil) .nil) (.node (o109_29 p P) (.node (o173_29 p P) .nil .nil) .nil)) (.node (o61_17 p P) (.node (o93_17 p P) (.node (o157_29 p P) .nil .nil) .nil) (.node (o125_29 p P) .nil .nil)))))) (.node (boot_o_2 P) (.node (boot_o_4 P) (.node (boot_o_8 P) (.node (o16_17 p P) (.node (o32_17 p P) (.node (o64_17 p P) (.node (o128_29 p P) .nil .nil) .nil) (.node (o96_29 p P) (.node (o160_29 p P) .nil .nil) .nil)) (.node (o48_17 p P) (.node (o80_17 p P) (.node (o144_29 p P) .nil .nil) .nil) (.node (o112_29 p P) (.node (o176_29 p P) .nil .nil) .nil))) (.node (o24_17 p P) (.node (o40_17 p P) (.node (o72_17 p P) (.node (o136_29 p P) .nil .nil) .nil) (.node (o104_29 p P) (.node (o168_29 p P) .nil .nil) .nil)) (.node (o56_17 p P) (.node (o88_17 p P) (.node (o152_29 p P) .nil .nil) .nil) (.node (o120_29 p P) .nil .nil)))) (.node (o12_29 p P) (.node (o20_17 p P) (.node (o36_17 p P) (.node (o68_17 p P) (.node (o132_29 p P) .nil .nil) .nil) (.node (o100_29 p P) (.node (o164_29 p P) .nil .nil) .nil)) (.node (o52_17 p P) (.node (o84_17 p P) (.node (o148_29 p P) .nil .nil) .nil) (.node (o116_29 p P) .nil .nil))) (.node (o28_17 p P) (.node (o44_17 p P) (.node (o76_17 p P) (.node (o140_29 p P) .nil .nil) .nil) (.node (o108_29 p P) (.node (o172_29 p P) .nil .nil) .nil)) (.node (o60_17 p P) (.node (o92_17 p P) (.node (o156_29 p P) .nil .nil) .nil) (.node (o124_29 p P) .nil .nil))))) (.node (boot_o_6 P) (.node (boot_o_10 P) (.node (o18_17 p P) (.node (o34_17 p P) (.node (o66_17 p P) (.node (o130_29 p P) .nil .nil) .nil) (.node (o98_29 p P) (.node (o162_29 p P) .nil .nil) .nil)) (.node (o50_17 p P) (.node (o82_17 p P) (.node (o146_29 p P) .nil .nil) .nil) (.node (o114_29 p P) .nil .nil))) (.node (o26_17 p P) (.node (o42_17 p P) (.node (o74_17 p P) (.node (o138_29 p P) .nil .nil) .nil) (.node (o106_29 p P) (.node (o170_29 p P) .nil .nil) .nil)) (.node (o58_17 p P) (.node (o90_17 p P) (.node (o154_29 p P) .nil .nil) .nil) (.node (o122_29 p P) .nil .nil)))) (.node (o14_B p P) (.node (o22_17 p P) (.node (o38_17 p P) (.node (o70_17 p P) (.node (o134_29 p P) .nil .nil) .nil) (.node (o102_29 p P) (.node (o166_29 p P) .nil .nil) .nil)) (.node (o54_17 p P) (.node (o86_17 p P) (.node (o150_29 p P) .nil .nil) .nil) (.node (o118_29 p P) .nil .nil))) (.node (o30_17 p P) (.node (o46_17 p P) (.node (o78_17 p P) (.node (o142_29 p P) .nil .nil) .nil) (.node (o110_29 p P) (.node (o174_29 p P) .nil .nil) .nil)) (.node (o62_17 p P) (.node (o94_17 p P) (.node (o158_29 p P) .nil .nil) .nil) (.node (o126_29 p P) .nil .nil)))))))
noncomputable def tr_35 (p : Program) (P : Params) : BT := (.node (boot_o_0 P) (.node (boot_o_1 P) (.node (o3_35 p P) (.node (boot_o_7 P) (.node (o15_17 p P) (.node (o31_17 p P) (.node (o63_17 p P) (.node (o127_29 p P) .nil .nil) (.node (o191_35 p P) .nil .nil)) (.node (o95_29 p P) (.node (o159_29 p P) .nil .nil) .nil)) (.node (o47_17 p P) (.node (o79_17 p P) (.node (o143_29 p P) .nil .nil) (.node (o207_35 p P) .nil .nil)) (.node (o111_29 p P) (.node (o175_29 p P) .nil .nil) .nil))) (.node (o23_17 p P) (.node (o39_17 p P) (.node (o71_17 p P) (.node (o135_29 p P) .nil .nil) (.node (o199_35 p P) .nil .nil)) (.node (o103_29 p P) (.node (o167_29 p P) .nil .nil) .nil)) (.node (o55_17 p P) (.node (o87_17 p P) (.node (o151_29 p P) .nil .nil) .nil) (.node (o119_29 p P) (.node (o183_35 p P) .nil .nil) .nil)))) (.node (o11_B p P) (.node (o19_17 p P) (.node (o35_17 p P) (.node (o67_17 p P) (.node (o131_29 p P) .nil .nil) (.node (o195_35 p P) .nil .nil)) (.node (o99_29 p P) (.node (o163_29 p P) .nil .nil) .nil)) (.node (o51_17 p P) (.node (o83_17 p P) (.node (o147_29 p P) .nil .nil) (.node (o211_35 p P) .nil .nil)) (.node (o115_29 p P) (.node (o179_35 p P) .nil .nil) .nil))) (.node (o27_17 p P) (.node (o43_17 p P) (.node (o75_17 p P) (.node (o139_29 p P) .nil .nil) (.node (o203_35 p P) .nil .nil)) (.node (o107_29 p P) (.node (o171_29 p P) .nil .nil) .nil)) (.node (o59_17 p P) (.node (o91_17 p P) (.node (o155_29 p P) .nil .nil) .nil) (.node (o123_29 p P) (.node (o187_35 p P) .nil .nil) .nil))))) (.node (boot_o_5 P) (.node (boot_o_9 P) (.node (o17_17 p P) (.node (o33_17 p P) (.node (o65_17 p P) (.node (o129_29 p P) .nil .nil) (.node (o193_35 p P) .nil .nil)) (.node (o97_29 p P) (.node (o161_29 p P) .nil .nil) .nil)) (.node (o49_17 p P) (.node (o81_17 p P) (.node (o145_29 p P) .nil .nil) (.node (o209_35 p P) .nil .nil)) (.node (o113_29 p P) (.node (o177_29 p P) .nil .nil) .nil))) (.node (o25_17 p P) (.node (o41_17 p P) (.node (o73_17 p P) (.node (o137_29 p P) .nil .nil) (.node (o201_35 p P) .nil .nil)) (.node (o105_29 p P) (.node (o169_29 p P) .nil .nil) .nil)) (.node (o57_17 p P) (.node (o89_17 p P) (.node (o153_29 p P) .nil .nil) .nil) (.node (o121_29 p P) (.node (o185_35 p P) .nil .nil) .nil)))) (.node (o13_B p P) (.node (o21_17 p P) (.node (o37_17 p P) (.node (o69_17 p P) (.node (o133_29 p P) .nil .nil) (.node (o197_35 p P) .nil .nil)) (.node (o101_29 p P) (.node (o165_29 p P) .nil .nil) .nil)) (.node (o53_17 p P) (.node (o85_17 p P) (.node (o149_29 p P) .nil .nil) .nil) (.node (o117_29 p P) (.node (o181_35 p P) .nil .nil) .nil))) (.node (o29_17 p P) (.node (o45_17 p P) (.node (o77_17 p P) (.node (o141_29 p P) .nil .nil) (.node (o205_35 p P) .nil .nil)) (.node (o109_29 p P) (.node (o173_29 p P) .nil .nil) .nil)) (.node (o61_17 p P) (.node (o93_17 p P) (.node (o157_29 p P) .nil .nil) .nil) (.node (o125_29 p P) (.node (o189_35 p P) .nil .nil) .nil)))))) (.node (boot_o_2 P) (.node (boot_o_4 P) (.node (boot_o_8 P) (.node (o16_17 p P) (.node (o32_17 p P) (.node (o64_17 p P) (.node (o128_29 p P) .nil .nil) (.node (o192_35 p P) .nil .nil)) (.node (o96_29 p P) (.node (o160_29 p P) .nil .nil) .nil)) (.node (o48_17 p P) (.node (o80_17 p P) (.node (o144_29 p P) .nil .nil) (.node (o208_35 p P) .nil .nil)) (.node (o112_29 p P) (.node (o176_29 p P) .nil .nil) .nil))) (.node (o24_17 p P) (.node (o40_17 p P) (.node (o72_17 p P) (.node (o136_29 p P) .nil .nil) (.node (o200_35 p P) .nil .nil)) (.node (o104_29 p P) (.node (o168_29 p P) .nil .nil) .nil)) (.node (o56_17 p P) (.node (o88_17 p P) (.node (o152_29 p P) .nil .nil) .nil) (.node (o120_29 p P) (.node (o184_35 p P) .nil .nil) .nil)))) (.node (o12_35 p P) (.node (o20_17 p P) (.node (o36_17 p P) (.node (o68_17 p P) (.node (o132_29 p P) .nil .nil) (.node (o196_35 p P) .nil .nil)) (.node (o100_29 p P) (.node (o164_29 p P) .nil .nil) .nil)) (.node (o52_17 p P) (.node (o84_17 p P) (.node (o148_29 p P) .nil .nil) (.node (o212_35 p P) .nil .nil)) (.node (o116_29 p P) (.node (o180_35 p P) .nil .nil) .nil))) (.node (o28_17 p P) (.node (o44_17 p P) (.node (o76_17 p P) (.node (o140_29 p P) .nil .nil) (.node (o204_35 p P) .nil .nil)) (.node (o108_29 p P) (.node (o172_29 p P) .nil .nil) .nil)) (.node (o60_17 p P) (.node (o92_17 p P) (.node (o156_29 p P) .nil .nil) .nil) (.node (o124_29 p P) (.node (o188_35 p P) .nil .nil) .nil))))) (.node (boot_o_6 P) (.node (boot_o_10 P) (.node (o18_17 p P) (.node (o34_17 p P) (.node (o66_17 p P) (.node (o130_29 p P) .nil .nil) (.node (o194_35 p P) .nil .nil)) (.node (o98_29 p P) (.node (o162_29 p P) .nil .nil) .nil)) (.node (o50_17 p P) (.node (o82_17 p P) (.node (o146_29 p P) .nil .nil) (.node (o210_35 p P) .nil .nil)) (.node (o114_29 p P) (.node (o178_35 p P) .nil .nil) .nil))) (.node (o26_17 p P) (.node (o42_17 p P) (.node (o74_17 p P) (.node (o138_29 p P) .nil .nil) (.node (o202_35 p P) .nil .nil)) (.node (o106_29 p P) (.node (o170_29 p P) .nil .nil) .nil)) (.node (o58_17 p P) (.node (o90_17 p P) (.node (o154_29 p P) .nil .nil) .nil) (.node (o122_29 p P) (.node (o186_35 p P) .nil .nil) .nil)))) (.node (o14_B p P) (.node (o22_17 p P) (.node (o38_17 p P) (.node (o70_17 p P) (.node (o134_29 p P) .nil .nil) (.node (o198_35 p P) .nil .nil)) (.node (o102_29 p P) (.node (o166_29 p P) .nil .nil) .nil)) (.node (o54_17 p P) (.node (o86_17 p P) (.node (o150_29 p P) .nil .nil) .nil) (.node (o118_29 p P) (.node (o182_35 p P) .nil .nil) .nil))) (.node (o30_17 p P) (.node (o46_17 p P) (.node (o78_17 p P) (.node (o142_29 p P) .nil .nil) (.node (o206_35 p P) .nil .nil)) (.node (o110_29 p P) (.node (o174_29 p P) .nil .nil) .nil)) (.node (o62_17 p P) (.node (o94_17 p P) (.node (o158_29 p P) .nil .nil) .nil) (.node (o126_29 p P) (.node (o190_35 p P) .nil .nil) .nil)))))))
noncomputable def tr_40 (p : Program) (P : Params) : BT := (.node (boot_o_0 P) (.node (boot_o_1 P) (.node (o3_40 p P) (.node (boot_o_7 P) (.node (o15_17 p P) (.node (o31_17 p P) (.node (o63_17 p P) (.node (o127_29 p P) (.node (o255_40 p P) .nil .nil) .nil) (.node (o191_35 p P) .nil .nil)) (.node (o95_29 p P) (.node (o159_29 p P) .nil .nil) (.node (o223_40 p P) .nil .nil))) (.node (o47_17 p P) (.node (o79_17 p P) (.node (o143_29 p P) .nil .nil) (.node (o207_35 p P) .nil .nil)) (.node (o111_29 p P) (.node (o175_29 p P) .nil .nil) (.node (o239_40 p P) .nil .nil)))) (.node (o23_17 p P) (.node (o39_17 p P) (.node (o71_17 p P) (.node (o135_29 p P) (.node (o263_40 p P) .nil .nil) .nil) (.node (o199_35 p P) .nil .nil)) (.node (o103_29 p P) (.node (o167_29 p P) .nil .nil) (.node (o231_40 p P) .nil .nil))) (.node (o55_17 p P) (.node (o87_17 p P) (.node (o151_29 p P) .nil .nil) (.node (o215_40 p P) .nil .nil)) (.node (o119_29 p P) (.node (o183_35 p P) .nil .nil) (.node (o247_40 p P) .nil .nil))))) (.node (o11_B p P) (.node (o19_17 p P) (.node (o35_17 p P) (.node (o67_17 p P) (.node (o131_29 p P) (.node (o259_40 p P) .nil .nil) .nil) (.node (o195_35 p P) .nil .nil)) (.node (o99_29 p P) (.node (o163_29 p P) .nil .nil) (.node (o227_40 p P) .nil .nil))) (.node (o51_17 p P) (.node (o83_17 p P) (.node (o147_29 p P) .nil .nil) (.node (o211_35 p P) .nil .nil)) (.node (o115_29 p P) (.node (o179_35 p P) .nil .nil) (.node (o243_40 p P) .nil .nil)))) (.node (o27_17 p P) (.node (o43_17 p P) (.node (o75_17 p P) (.node (o139_29 p P) (.node (o267_40 p P) .nil .nil) .nil) (.node (o203_35 p P) .nil .nil)) (.node (o107_29 p P) (.node (o171_29 p P) .nil .nil) (.node (o235_40 p P) .nil .nil))) (.node (o59_17 p P) (.node (o91_17 p P) (.node (o155_29 p P) .nil .nil) (.node (o219_40 p P) .nil .nil)) (.node (o123_29 p P) (.node (o187_35 p P) .nil .nil) (.node (o251_40 p P) .nil .nil)))))) (.node (boot_o_5 P) (.node (boot_o_9 P) (.node (o17_17 p P) (.node (o33_17 p P) (.node (o65_17 p P) (.node (o129_29 p P) (.node (o257_40 p P) .nil .nil) .nil) (.node (o193_35 p P) .nil .nil)) (.node (o97_29 p P) (.node (o161_29 p P) .nil .nil) (.node (o225_40 p P) .nil .nil))) (.node (o49_17 p P) (.node (o81_17 p P) (.node (o145_29 p P) .nil .nil) (.node (o209_35 p P) .nil .nil)) (.node (o113_29 p P) (.node (o177_29 p P) .nil .nil) (.node (o241_40 p P) .nil .nil)))) (.node (o25_17 p P) (.node (o41_17 p P) (.node (o73_17 p P) (.node (o137_29 p P) (.node (o265_40 p P) .nil .nil) .nil) (.node (o201_35 p P) .nil .nil)) (.node (o105_29 p P) (.node (o169_29 p P) .nil .nil) (.node (o233_40 p P) .nil .nil))) (.node (o57_17 p P) (.node (o89_17 p P) (.node (o153_29 p P) .nil .nil) (.node (o217_40 p P) .nil .nil)) (.node (o121_29 p P) (.node (o185_35 p P) .nil .nil) (.node (o249_40 p P) .nil .nil))))) (.node (o13_B p P) (.node (o21_17 p P) (.node (o37_17 p P) (.node (o69_17 p P) (.node (o133_29 p P) (.node (o261_40 p P) .nil .nil) .nil) (.node (o197_35 p P) .nil .nil)) (.node (o101_29 p P) (.node (o165_29 p P) .nil .nil) (.node (o229_40 p P) .nil .nil))) (.node (o53_17 p P) (.node (o85_17 p P) (.node (o149_29 p P) .nil .nil) (.node (o213_40 p P) .nil .nil)) (.node (o117_29 p P) (.node (o181_35 p P) .nil .nil) (.node (o245_40 p P) .nil .nil)))) (.node (o29_17 p P) (.node (o45_17 p P) (.node (o77_17 p P) (.node (o141_29 p P) (.node (o269_40 p P) .nil .nil) .nil) (.node (o205_35 p P) .nil .nil)) (.node (o109_29 p P) (.node (o173_29 p P) .nil .nil) (.node (o237_40 p P) .nil .nil))) (.node (o61_17 p P) (.node (o93_17 p P) (.node (o157_29 p P) .nil .nil) (.node (o221_40 p P) .nil .nil)) (.node (o125_29 p P) (.node (o189_35 p P) .nil .nil) (.node (o253_40 p P) .nil .nil))))))) (.node (boot_o_2 P) (.node (boot_o_4 P) (.node (boot_o_8 P) (.node (o16_17 p P) (.node (o32_17 p P) (.node (o64_17 p P) (.node (o128_29 p P) (.node (o256_40 p P) .nil .nil) .nil) (.node (o192_35 p P) .nil .nil)) (.node (o96_29 p P) (.node (o160_29 p P) .nil .nil) (.node (o224_40 p P) .nil .nil))) (.node (o48_17 p P) (.node (o80_17 p P) (.node (o144_29 p P) .nil .nil) (.node (o208_35 p P) .nil .nil)) (.node (o112_29 p P) (.node (o176_29 p P) .nil .nil) (.node (o240_40 p P) .nil .nil)))) (.node (o24_17 p P) (.node (o40_17 p P) (.node (o72_17 p P) (.node (o136_29 p P) (.node (o264_40 p P) .nil .nil) .nil) (.node (o200_35 p P) .nil .nil)) (.node (o104_29 p P) (.node (o168_29 p P) .nil .nil) (.node (o232_40 p P) .nil .nil))) (.node (o56_17 p P) (.node (o88_17 p P) (.node (o152_29 p P) .nil .nil) (.node (o216_40 p P) .nil .nil)) (.node (o120_29 p P) (.node (o184_35 p P) .nil .nil) (.node (o248_40 p P) .nil .nil))))) (.node (o12_40 p P) (.node (o20_17 p P) (.node (o36_17 p P) (.node (o68_17 p P) (.node (o132_29 p P) (.node (o260_40 p P) .nil .nil) .nil) (.node (o196_35 p P) .nil .nil)) (.node (o100_29 p P) (.node (o164_29 p P) .nil .nil) (.node (o228_40 p P) .nil .nil))) (.node (o52_17 p P) (.node (o84_17 p P) (.node (o148_29 p P) .nil .nil) (.node (o212_35 p P) .nil .nil)) (.node (o116_29 p P) (.node (o180_35 p P) .nil .nil) (.node (o244_40 p P) .nil .nil)))) (.node (o28_17 p P) (.node (o44_17 p P) (.node (o76_17 p P) (.node (o140_29 p P) (.node (o268_40 p P) .nil .nil) .nil) (.node (o204_35 p P) .nil .nil)) (.node (o108_29 p P) (.node (o172_29 p P) .nil .nil) (.node (o236_40 p P) .nil .nil))) (.node (o60_17 p P) (.node (o92_17 p P) (.node (o156_29 p P) .nil .nil) (.node (o220_40 p P) .nil .nil)) (.node (o124_29 p P) (.node (o188_35 p P) .nil .nil) (.node (o252_40 p P) .nil .nil)))))) (.node (boot_o_6 P) (.node (boot_o_10 P) (.node (o18_17 p P) (.node (o34_17 p P) (.node (o66_17 p P) (.node (o130_29 p P) (.node (o258_40 p P) .nil .nil) .nil) (.node (o194_35 p P) .nil .nil)) (.node (o98_29 p P) (.node (o162_29 p P) .nil .nil) (.node (o226_40 p P) .nil .nil))) (.node (o50_17 p P) (.node (o82_17 p P) (.node (o146_29 p P) .nil .nil) (.node (o210_35 p P) .nil .nil)) (.node (o114_29 p P) (.node (o178_35 p P) .nil .nil) (.node (o242_40 p P) .nil .nil)))) (.node (o26_17 p P) (.node (o42_17 p P) (.node (o74_17 p P) (.node (o138_29 p P) (.node (o266_40 p P) .nil .nil) .nil) (.node (o202_35 p P) .nil .nil)) (.node (o106_29 p P) (.node (o170_29 p P) .nil .nil) (.node (o234_40 p P) .nil .nil))) (.node (o58_17 p P) (.node (o90_17 p P) (.node (o154_29 p P) .nil .nil) (.node (o218_40 p P) .nil .nil)) (.node (o122_29 p P) (.node (o186_35 p P) .nil .nil) (.node (o250_40 p P) .nil .nil))))) (.node (o14_B p P) (.node (o22_17 p P) (.node (o38_17 p P) (.node (o70_17 p P) (.node (o134_29 p P) (.node (o262_40 p P) .nil .nil) .nil) (.node (o198_35 p P) .nil .nil)) (.node (o102_29 p P) (.node (o166_29 p P) .nil .nil) (.node (o230_40 p P) .nil .nil))) (.node (o54_17 p P) (.node (o86_17 p P) (.node (o150_29 p P) .nil .nil) (.node (o214_40 p P) .nil .nil)) (.node (o118_29 p P) (.node (o182_35 p P) .nil .nil) (.node (o246_40 p P) .nil .nil)))) (.node (o30_17 p P) (.node (o46_17 p P) (.node (o78_17 p P) (.node (o142_29 p P) .nil .nil) (.node (o206_35 p P) .nil .nil)) (.node (o110_29 p P) (.node (o174_29 p P) .nil .nil) (.node (o238_40 p P) .nil .nil))) (.node (o62_17 p P) (.node (o94_17 p P) (.node (o158_29 p P) .nil .nil) (.node (o222_40 p P) .nil .nil)) (.node (o126_29 p P) (.node (o190_35 p P) .nil .nil) (.node (o254_40 p P) .nil .nil))))))))
noncomputable def tr_51 (p : Program) (P : Params) : BT := (.node (boot_o_0 P) (.node (boot_o_1 P) (.node (o3_51 p P) (.node (boot_o_7 P) (.node (o15_17 p P) (.node (o31_17 p P) (.node (o63_17 p P) (.node (o127_29 p P) (.node (o255_40 p P) .nil .nil) .nil) (.node (o191_35 p P) (.node (o319_51 p P) .nil .nil) .nil)) (.node (o95_29 p P) (.node (o159_29 p P) (.node (o287_51 p P) .nil .nil) .nil) (.node (o223_40 p P) .nil .nil))) (.node (o47_17 p P) (.node (o79_17 p P) (.node (o143_29 p P) (.node (o271_51 p P) .nil .nil) .nil) (.node (o207_35 p P) .nil .nil)) (.node (o111_29 p P) (.node (o175_29 p P) (.node (o303_51 p P) .nil .nil) .nil) (.node (o239_40 p P) .nil .nil)))) (.node (o23_17 p P) (.node (o39_17 p P) (.node (o71_17 p P) (.node (o135_29 p P) (.node (o263_40 p P) .nil .nil) .nil) (.node (o199_35 p P) .nil .nil)) (.node (o103_29 p P) (.node (o167_29 p P) (.node (o295_51 p P) .nil .nil) .nil) (.node (o231_40 p P) .nil .nil))) (.node (o55_17 p P) (.node (o87_17 p P) (.node (o151_29 p P) (.node (o279_51 p P) .nil .nil) .nil) (.node (o215_40 p P) .nil .nil)) (.node (o119_29 p P) (.node (o183_35 p P) (.node (o311_51 p P) .nil .nil) .nil) (.node (o247_40 p P) .nil .nil))))) (.node (o11_B p P) (.node (o19_17 p P) (.node (o35_17 p P) (.node (o67_17 p P) (.node (o131_29 p P) (.node (o259_40 p P) .nil .nil) .nil) (.node (o195_35 p P) (.node (o323_51 p P) .nil .nil) .nil)) (.node (o99_29 p P) (.node (o163_29 p P) (.node (o291_51 p P) .nil .nil) .nil) (.node (o227_40 p P) .nil .nil))) (.node (o51_17 p P) (.node (o83_17 p P) (.node (o147_29 p P) (.node (o275_51 p P) .nil .nil) .nil) (.node (o211_35 p P) .nil .nil)) (.node (o115_29 p P) (.node (o179_35 p P) (.node (o307_51 p P) .nil .nil) .nil) (.node (o243_40 p P) .nil .nil)))) (.node (o27_17 p P) (.node (o43_17 p P) (.node (o75_17 p P) (.node (o139_29 p P) (.node (o267_40 p P) .nil .nil) .nil) (.node (o203_35 p P) .nil .nil)) (.node (o107_29 p P) (.node (o171_29 p P) (.node (o299_51 p P) .nil .nil) .nil) (.node (o235_40 p P) .nil .nil))) (.node (o59_17 p P) (.node (o91_17 p P) (.node (o155_29 p P) (.node (o283_51 p P) .nil .nil) .nil) (.node (o219_40 p P) .nil .nil)) (.node (o123_29 p P) (.node (o187_35 p P) (.node (o315_51 p P) .nil .nil) .nil) (.node (o251_40 p P) .nil .nil)))))) (.node (boot_o_5 P) (.node (boot_o_9 P) (.node (o17_17 p P) (.node (o33_17 p P) (.node (o65_17 p P) (.node (o129_29 p P) (.node (o257_40 p P) .nil .nil) .nil) (.node (o193_35 p P) (.node (o321_51 p P) .nil .nil) .nil)) (.node (o97_29 p P) (.node (o161_29 p P) (.node (o289_51 p P) .nil .nil) .nil) (.node (o225_40 p P) .nil .nil))) (.node (o49_17 p P) (.node (o81_17 p P) (.node (o145_29 p P) (.node (o273_51 p P) .nil .nil) .nil) (.node (o209_35 p P) .nil .nil)) (.node (o113_29 p P) (.node (o177_29 p P) (.node (o305_51 p P) .nil .nil) .nil) (.node (o241_40 p P) .nil .nil)))) (.node (o25_17 p P) (.node (o41_17 p P) (.node (o73_17 p P) (.node (o137_29 p P) (.node (o265_40 p P) .nil .nil) .nil) (.node (o201_35 p P) .nil .nil)) (.node (o105_29 p P) (.node (o169_29 p P) (.node (o297_51 p P) .nil .nil) .nil) (.node (o233_40 p P) .nil .nil))) (.node (o57_17 p P) (.node (o89_17 p P) (.node (o153_29 p P) (.node (o281_51 p P) .nil .nil) .nil) (.node (o217_40 p P) .nil .nil)) (.node (o121_29 p P) (.node (o185_35 p P) (.node (o313_51 p P) .nil .nil) .nil) (.node (o249_40 p P) .nil .nil))))) (.node (o13_B p P) (.node (o21_17 p P) (.node (o37_17 p P) (.node (o69_17 p P) (.node (o133_29 p P) (.node (o261_40 p P) .nil .nil) .nil) (.node (o197_35 p P) (.node (o325_51 p P) .nil .nil) .nil)) (.node (o101_29 p P) (.node (o165_29 p P) (.node (o293_51 p P) .nil .nil) .nil) (.node (o229_40 p P) .nil .nil))) (.node (o53_17 p P) (.node (o85_17 p P) (.node (o149_29 p P) (.node (o277_51 p P) .nil .nil) .nil) (.node (o213_40 p P) .nil .nil)) (.node (o117_29 p P) (.node (o181_35 p P) (.node (o309_51 p P) .nil .nil) .nil) (.node (o245_40 p P) .nil .nil)))) (.node (o29_17 p P) (.node (o45_17 p P) (.node (o77_17 p P) (.node (o141_29 p P) (.node (o269_40 p P) .nil .nil) .nil) (.node (o205_35 p P) .nil .nil)) (.node (o109_29 p P) (.node (o173_29 p P) (.node (o301_51 p P) .nil .nil) .nil) (.node (o237_40 p P) .nil .nil))) (.node (o61_17 p P) (.node (o93_17 p P) (.node (o157_29 p P) (.node (o285_51 p P) .nil .nil) .nil) (.node (o221_40 p P) .nil .nil)) (.node (o125_29 p P) (.node (o189_35 p P) (.node (o317_51 p P) .nil .nil) .nil) (.node (o253_40 p P) .nil .nil))))))) (.node (boot_o_2 P) (.node (boot_o_4 P) (.node (boot_o_8 P) (.node (o16_17 p P) (.node (o32_17 p P) (.node (o64_17 p P) (.node (o128_29 p P) (.node (o256_40 p P) .nil .nil) .nil) (.node (o192_35 p P) (.node (o320_51 p P) .nil .nil) .nil)) (.node (o96_29 p P) (.node (o160_29 p P) (.node (o288_51 p P) .nil .nil) .nil) (.node (o224_40 p P) .nil .nil))) (.node (o48_17 p P) (.node (o80_17 p P) (.node (o144_29 p P) (.node (o272_51 p P) .nil .nil) .nil) (.node (o208_35 p P) .nil .nil)) (.node (o112_29 p P) (.node (o176_29 p P) (.node (o304_51 p P) .nil .nil) .nil) (.node (o240_40 p P) .nil .nil)))) (.node (o24_17 p P) (.node (o40_17 p P) (.node (o72_17 p P) (.node (o136_29 p P) (.node (o264_40 p P) .nil .nil) .nil) (.node (o200_35 p P) .nil .nil)) (.node (o104_29 p P) (.node (o168_29 p P) (.node (o296_51 p P) .nil .nil) .nil) (.node (o232_40 p P) .nil .nil))) (.node (o56_17 p P) (.node (o88_17 p P) (.node (o152_29 p P) (.node (o280_51 p P) .nil .nil) .nil) (.node (o216_40 p P) .nil .nil)) (.node (o120_29 p P) (.node (o184_35 p P) (.node (o312_51 p P) .nil .nil) .nil) (.node (o248_40 p P) .nil .nil))))) (.node (o12_51 p P) (.node (o20_17 p P) (.node (o36_17 p P) (.node (o68_17 p P) (.node (o132_29 p P) (.node (o260_40 p P) .nil .nil) .nil) (.node (o196_35 p P) (.node (o324_51 p P) .nil .nil) .nil)) (.node (o100_29 p P) (.node (o164_29 p P) (.node (o292_51 p P) .nil .nil) .nil) (.node (o228_40 p P) .nil .nil))) (.node (o52_17 p P) (.node (o84_17 p P) (.node (o148_29 p P) (.node (o276_51 p P) .nil .nil) .nil) (.node (o212_35 p P) .nil .nil)) (.node (o116_29 p P) (.node (o180_35 p P) (.node (o308_51 p P) .nil .nil) .nil) (.node (o244_40 p P) .nil .nil)))) (.node (o28_17 p P) (.node (o44_17 p P) (.node (o76_17 p P) (.node (o140_29 p P) (.node (o268_40 p P) .nil .nil) .nil) (.node (o204_35 p P) .nil .nil)) (.node (o108_29 p P) (.node (o172_29 p P) (.node (o300_51 p P) .nil .nil) .nil) (.node (o236_40 p P) .nil .nil))) (.node (o60_17 p P) (.node (o92_17 p P) (.node (o156_29 p P) (.node (o284_51 p P) .nil .nil) .nil) (.node (o220_40 p P) .nil .nil)) (.node (o124_29 p P) (.node (o188_35 p P) (.node (o316_51 p P) .nil .nil) .nil) (.node (o252_40 p P) .nil .nil)))))) (.node (boot_o_6 P) (.node (boot_o_10 P) (.node (o18_17 p P) (.node (o34_17 p P) (.node (o66_17 p P) (.node (o130_29 p P) (.node (o258_40 p P) .nil .nil) .nil) (.node (o194_35 p P) (.node (o322_51 p P) .nil .nil) .nil)) (.node (o98_29 p P) (.node (o162_29 p P) (.node (o290_51 p P) .nil .nil) .nil) (.node (o226_40 p P) .nil .nil))) (.node (o50_17 p P) (.node (o82_17 p P) (.node (o146_29 p P) (.node (o274_51 p P) .nil .nil) .nil) (.node (o210_35 p P) .nil .nil)) (.node (o114_29 p P) (.node (o178_35 p P) (.node (o306_51 p P) .nil .nil) .nil) (.node (o242_40 p P) .nil .nil)))) (.node (o26_17 p P) (.node (o42_17 p P) (.node (o74_17 p P) (.node (o138_29 p P) (.node (o266_40 p P) .nil .nil) .nil) (.node (o202_35 p P) .nil .nil)) (.node (o106_29 p P) (.node (o170_29 p P) (.node (o298_51 p P) .nil .nil) .nil) (.node (o234_40 p P) .nil .nil))) (.node (o58_17 p P) (.node (o90_17 p P) (.node (o154_29 p P) (.node (o282_51 p P) .nil .nil) .nil) (.node (o218_40 p P) .nil .nil)) (.node (o122_29 p P) (.node (o186_35 p P) (.node (o314_51 p P) .nil .nil) .nil) (.node (o250_40 p P) .nil .nil))))) (.node (o14_B p P) (.node (o22_17 p P) (.node (o38_17 p P) (.node (o70_17 p P) (.node (o134_29 p P) (.node (o262_40 p P) .nil .nil) .nil) (.node (o198_35 p P) (.node (o326_51 p P) .nil .nil) .nil)) (.node (o102_29 p P) (.node (o166_29 p P) (.node (o294_51 p P) .nil .nil) .nil) (.node (o230_40 p P) .nil .nil))) (.node (o54_17 p P) (.node (o86_17 p P) (.node (o150_29 p P) (.node (o278_51 p P) .nil .nil) .nil) (.node (o214_40 p P) .nil .nil)) (.node (o118_29 p P) (.node (o182_35 p P) (.node (o310_51 p P) .nil .nil) .nil) (.node (o246_40 p P) .nil .nil)))) (.node (o30_17 p P) (.node (o46_17 p P) (.node (o78_17 p P) (.node (o142_29 p P) (.node (o270_51 p P) .nil .nil) .nil) (.node (o206_35 p P) .nil .nil)) (.node (o110_29 p P) (.node (o174_29 p P) (.node (o302_51 p P) .nil .nil) .nil) (.node (o238_40 p P) .nil .nil))) (.node (o62_17 p P) (.node (o94_17 p P) (.node (o158_29 p P) (.node (o286_51 p P) .nil .nil) .nil) (.node (o222_40 p P) .nil .nil)) (.node (o126_29 p P) (.node (o190_35 p P) (.node (o318_51 p P) .nil .nil) .nil) (.node (o254_40 p P) .nil .nil))))))))
noncomputable def tr_52 (p : Program) (P : Params) : BT := (.node (boot_o_0 P) (.node (boot_o_1 P) (.node (o3_52 p P) (.node (boot_o_7 P) (.node (o15_17 p P) (.node (o31_17 p P) (.node (o63_17 p P) (.node (o127_29 p P) (.node (o255_40 p P) .nil .nil) .nil) (.node (o191_35 p P) (.node (o319_51 p P) .nil .nil) .nil)) (.node (o95_29 p P) (.node (o159_29 p P) (.node (o287_51 p P) .nil .nil) .nil) (.node (o223_40 p P) .nil .nil))) (.node (o47_17 p P) (.node (o79_17 p P) (.node (o143_29 p P) (.node (o271_51 p P) .nil .nil) .nil) (.node (o207_35 p P) (.node (o335_52 p P) .nil .nil) .nil)) (.node (o111_29 p P) (.node (o175_29 p P) (.node (o303_51 p P) .nil .nil) .nil) (.node (o239_40 p P) .nil .nil)))) (.node (o23_17 p P) (.node (o39_17 p P) (.node (o71_17 p P) (.node (o135_29 p P) (.node (o263_40 p P) .nil .nil) .nil) (.node (o199_35 p P) (.node (o327_52 p P) .nil .nil) .nil)) (.node (o103_29 p P) (.node (o167_29 p P) (.node (o295_51 p P) .nil .nil) .nil) (.node (o231_40 p P) .nil .nil))) (.node (o55_17 p P) (.node (o87_17 p P) (.node (o151_29 p P) (.node (o279_51 p P) .nil .nil) .nil) (.node (o215_40 p P) .nil .nil)) (.node (o119_29 p P) (.node (o183_35 p P) (.node (o311_51 p P) .nil .nil) .nil) (.node (o247_40 p P) .nil .nil))))) (.node (o11_B p P) (.node (o19_17 p P) (.node (o35_17 p P) (.node (o67_17 p P) (.node (o131_29 p P) (.node (o259_40 p P) .nil .nil) .nil) (.node (o195_35 p P) (.node (o323_51 p P) .nil .nil) .nil)) (.node (o99_29 p P) (.node (o163_29 p P) (.node (o291_51 p P) .nil .nil) .nil) (.node (o227_40 p P) .nil .nil))) (.node (o51_17 p P) (.node (o83_17 p P) (.node (o147_29 p P) (.node (o275_51 p P) .nil .nil) .nil) (.node (o211_35 p P) (.node (o339_52 p P) .nil .nil) .nil)) (.node (o115_29 p P) (.node (o179_35 p P) (.node (o307_51 p P) .nil .nil) .nil) (.node (o243_40 p P) .nil .nil)))) (.node (o27_17 p P) (.node (o43_17 p P) (.node (o75_17 p P) (.node (o139_29 p P) (.node (o267_40 p P) .nil .nil) .nil) (.node (o203_35 p P) (.node (o331_52 p P) .nil .nil) .nil)) (.node (o107_29 p P) (.node (o171_29 p P) (.node (o299_51 p P) .nil .nil) .nil) (.node (o235_40 p P) .nil .nil))) (.node (o59_17 p P) (.node (o91_17 p P) (.node (o155_29 p P) (.node (o283_51 p P) .nil .nil) .nil) (.node (o219_40 p P) .nil .nil)) (.node (o123_29 p P) (.node (o187_35 p P) (.node (o315_51 p P) .nil .nil) .nil) (.node (o251_40 p P) .nil .nil)))))) (.node (boot_o_5 P) (.node (boot_o_9 P) (.node (o17_17 p P) (.node (o33_17 p P) (.node (o65_17 p P) (.node (o129_29 p P) (.node (o257_40 p P) .nil .nil) .nil) (.node (o193_35 p P) (.node (o321_51 p P) .nil .nil) .nil)) (.node (o97_29 p P) (.node (o161_29 p P) (.node (o289_51 p P) .nil .nil) .nil) (.node (o225_40 p P) .nil .nil))) (.node (o49_17 p P) (.node (o81_17 p P) (.node (o145_29 p P) (.node (o273_51 p P) .nil .nil) .nil) (.node (o209_35 p P) (.node (o337_52 p P) .nil .nil) .nil)) (.node (o113_29 p P) (.node (o177_29 p P) (.node (o305_51 p P) .nil .nil) .nil) (.node (o241_40 p P) .nil .nil)))) (.node (o25_17 p P) (.node (o41_17 p P) (.node (o73_17 p P) (.node (o137_29 p P) (.node (o265_40 p P) .nil .nil) .nil) (.node (o201_35 p P) (.node (o329_52 p P) .nil .nil) .nil)) (.node (o105_29 p P) (.node (o169_29 p P) (.node (o297_51 p P) .nil .nil) .nil) (.node (o233_40 p P) .nil .nil))) (.node (o57_17 p P) (.node (o89_17 p P) (.node (o153_29 p P) (.node (o281_51 p P) .nil .nil) .nil) (.node (o217_40 p P) .nil .nil)) (.node (o121_29 p P) (.node (o185_35 p P) (.node (o313_51 p P) .nil .nil) .nil) (.node (o249_40 p P) .nil .nil))))) (.node (o13_B p P) (.node (o21_17 p P) (.node (o37_17 p P) (.node (o69_17 p P) (.node (o133_29 p P) (.node (o261_40 p P) .nil .nil) .nil) (.node (o197_35 p P) (.node (o325_51 p P) .nil .nil) .nil)) (.node (o101_29 p P) (.node (o165_29 p P) (.node (o293_51 p P) .nil .nil) .nil) (.node (o229_40 p P) .nil .nil))) (.node (o53_17 p P) (.node (o85_17 p P) (.node (o149_29 p P) (.node (o277_51 p P) .nil .nil) .nil) (.node (o213_40 p P) .nil .nil)) (.node (o117_29 p P) (.node (o181_35 p P) (.node (o309_51 p P) .nil .nil) .nil) (.node (o245_40 p P) .nil .nil)))) (.node (o29_17 p P) (.node (o45_17 p P) (.node (o77_17 p P) (.node (o141_29 p P) (.node (o269_40 p P) .nil .nil) .nil) (.node (o205_35 p P) (.node (o333_52 p P) .nil .nil) .nil)) (.node (o109_29 p P) (.node (o173_29 p P) (.node (o301_51 p P) .nil .nil) .nil) (.node (o237_40 p P) .nil .nil))) (.node (o61_17 p P) (.node (o93_17 p P) (.node (o157_29 p P) (.node (o285_51 p P) .nil .nil) .nil) (.node (o221_40 p P) .nil .nil)) (.node (o125_29 p P) (.node (o189_35 p P) (.node (o317_51 p P) .nil .nil) .nil) (.node (o253_40 p P) .nil .nil))))))) (.node (o2_52 p P) (.node (boot_o_4 P) (.node (boot_o_8 P) (.node (o16_17 p P) (.node (o32_17 p P) (.node (o64_17 p P) (.node (o128_29 p P) (.node (o256_40 p P) .nil .nil) .nil) (.node (o192_35 p P) (.node (o320_51 p P) .nil .nil) .nil)) (.node (o96_29 p P) (.node (o160_29 p P) (.node (o288_51 p P) .nil .nil) .nil) (.node (o224_40 p P) .nil .nil))) (.node (o48_17 p P) (.node (o80_17 p P) (.node (o144_29 p P) (.node (o272_51 p P) .nil .nil) .nil) (.node (o208_35 p P) (.node (o336_52 p P) .nil .nil) .nil)) (.node (o112_29 p P) (.node (o176_29 p P) (.node (o304_51 p P) .nil .nil) .nil) (.node (o240_40 p P) .nil .nil)))) (.node (o24_17 p P) (.node (o40_17 p P) (.node (o72_17 p P) (.node (o136_29 p P) (.node (o264_40 p P) .nil .nil) .nil) (.node (o200_35 p P) (.node (o328_52 p P) .nil .nil) .nil)) (.node (o104_29 p P) (.node (o168_29 p P) (.node (o296_51 p P) .nil .nil) .nil) (.node (o232_40 p P) .nil .nil))) (.node (o56_17 p P) (.node (o88_17 p P) (.node (o152_29 p P) (.node (o280_51 p P) .nil .nil) .nil) (.node (o216_40 p P) .nil .nil)) (.node (o120_29 p P) (.node (o184_35 p P) (.node (o312_51 p P) .nil .nil) .nil) (.node (o248_40 p P) .nil .nil))))) (.node (o12_52 p P) (.node (o20_17 p P) (.node (o36_17 p P) (.node (o68_17 p P) (.node (o132_29 p P) (.node (o260_40 p P) .nil .nil) .nil) (.node (o196_35 p P) (.node (o324_51 p P) .nil .nil) .nil)) (.node (o100_29 p P) (.node (o164_29 p P) (.node (o292_51 p P) .nil .nil) .nil) (.node (o228_40 p P) .nil .nil))) (.node (o52_17 p P) (.node (o84_17 p P) (.node (o148_29 p P) (.node (o276_51 p P) .nil .nil) .nil) (.node (o212_35 p P) .nil .nil)) (.node (o116_29 p P) (.node (o180_35 p P) (.node (o308_51 p P) .nil .nil) .nil) (.node (o244_40 p P) .nil .nil)))) (.node (o28_17 p P) (.node (o44_17 p P) (.node (o76_17 p P) (.node (o140_29 p P) (.node (o268_40 p P) .nil .nil) .nil) (.node (o204_35 p P) (.node (o332_52 p P) .nil .nil) .nil)) (.node (o108_29 p P) (.node (o172_29 p P) (.node (o300_51 p P) .nil .nil) .nil) (.node (o236_40 p P) .nil .nil))) (.node (o60_17 p P) (.node (o92_17 p P) (.node (o156_29 p P) (.node (o284_51 p P) .nil .nil) .nil) (.node (o220_40 p P) .nil .nil)) (.node (o124_29 p P) (.node (o188_35 p P) (.node (o316_51 p P) .nil .nil) .nil) (.node (o252_40 p P) .nil .nil)))))) (.node (boot_o_6 P) (.node (boot_o_10 P) (.node (o18_17 p P) (.node (o34_17 p P) (.node (o66_17 p P) (.node (o130_29 p P) (.node (o258_40 p P) .nil .nil) .nil) (.node (o194_35 p P) (.node (o322_51 p P) .nil .nil) .nil)) (.node (o98_29 p P) (.node (o162_29 p P) (.node (o290_51 p P) .nil .nil) .nil) (.node (o226_40 p P) .nil .nil))) (.node (o50_17 p P) (.node (o82_17 p P) (.node (o146_29 p P) (.node (o274_51 p P) .nil .nil) .nil) (.node (o210_35 p P) (.node (o338_52 p P) .nil .nil) .nil)) (.node (o114_29 p P) (.node (o178_35 p P) (.node (o306_51 p P) .nil .nil) .nil) (.node (o242_40 p P) .nil .nil)))) (.node (o26_17 p P) (.node (o42_17 p P) (.node (o74_17 p P) (.node (o138_29 p P) (.node (o266_40 p P) .nil .nil) .nil) (.node (o202_35 p P) (.node (o330_52 p P) .nil .nil) .nil)) (.node (o106_29 p P) (.node (o170_29 p P) (.node (o298_51 p P) .nil .nil) .nil) (.node (o234_40 p P) .nil .nil))) (.node (o58_17 p P) (.node (o90_17 p P) (.node (o154_29 p P) (.node (o282_51 p P) .nil .nil) .nil) (.node (o218_40 p P) .nil .nil)) (.node (o122_29 p P) (.node (o186_35 p P) (.node (o314_51 p P) .nil .nil) .nil) (.node (o250_40 p P) .nil .nil))))) (.node (o14_B p P) (.node (o22_17 p P) (.node (o38_17 p P) (.node (o70_17 p P) (.node (o134_29 p P) (.node (o262_40 p P) .nil .nil) .nil) (.node (o198_35 p P) (.node (o326_51 p P) .nil .nil) .nil)) (.node (o102_29 p P) (.node (o166_29 p P) (.node (o294_51 p P) .nil .nil) .nil) (.node (o230_40 p P) .nil .nil))) (.node (o54_17 p P) (.node (o86_17 p P) (.node (o150_29 p P) (.node (o278_51 p P) .nil .nil) .nil) (.node (o214_40 p P) .nil .nil)) (.node (o118_29 p P) (.node (o182_35 p P) (.node (o310_51 p P) .nil .nil) .nil) (.node (o246_40 p P) .nil .nil)))) (.node (o30_17 p P) (.node (o46_17 p P) (.node (o78_17 p P) (.node (o142_29 p P) (.node (o270_51 p P) .nil .nil) .nil) (.node (o206_35 p P) (.node (o334_52 p P) .nil .nil) .nil)) (.node (o110_29 p P) (.node (o174_29 p P) (.node (o302_51 p P) .nil .nil) .nil) (.node (o238_40 p P) .nil .nil))) (.node (o62_17 p P) (.node (o94_17 p P) (.node (o158_29 p P) (.node (o286_51 p P) .nil .nil) .nil) (.node (o222_40 p P) .nil .nil)) (.node (o126_29 p P) (.node (o190_35 p P) (.node (o318_51 p P) .nil .nil) .nil) (.node (o254_40 p P) .nil .nil))))))))
noncomputable def tr_59 (p : Program) (P : Params) : BT := (.node (boot_o_0 P) (.node (boot_o_1 P) (.node (o3_59 p P) (.node (boot_o_7 P) (.node (o15_17 p P) (.node (o31_17 p P) (.node (o63_17 p P) (.node (o127_29 p P) (.node (o255_40 p P) .nil .nil) (.node (o383_59 p P) .nil .nil)) (.node (o191_35 p P) (.node (o319_51 p P) .nil .nil) .nil)) (.node (o95_29 p P) (.node (o159_29 p P) (.node (o287_51 p P) .nil .nil) .nil) (.node (o223_40 p P) (.node (o351_59 p P) .nil .nil) .nil))) (.node (o47_17 p P) (.node (o79_17 p P) (.node (o143_29 p P) (.node (o271_51 p P) .nil .nil) .nil) (.node (o207_35 p P) (.node (o335_52 p P) .nil .nil) .nil)) (.node (o111_29 p P) (.node (o175_29 p P) (.node (o303_51 p P) .nil .nil) .nil) (.node (o239_40 p P) (.node (o367_59 p P) .nil .nil) .nil)))) (.node (o23_17 p P) (.node (o39_17 p P) (.node (o71_17 p P) (.node (o135_29 p P) (.node (o263_40 p P) .nil .nil) .nil) (.node (o199_35 p P) (.node (o327_52 p P) .nil .nil) .nil)) (.node (o103_29 p P) (.node (o167_29 p P) (.node (o295_51 p P) .nil .nil) .nil) (.node (o231_40 p P) (.node (o359_59 p P) .nil .nil) .nil))) (.node (o55_17 p P) (.node (o87_17 p P) (.node (o151_29 p P) (.node (o279_51 p P) .nil .nil) .nil) (.node (o215_40 p P) (.node (o343_59 p P) .nil .nil) .nil)) (.node (o119_29 p P) (.node (o183_35 p P) (.node (o311_51 p P) .nil .nil) .nil) (.node (o247_40 p P) (.node (o375_59 p P) .nil .nil) .nil))))) (.node (o11_B p P) (.node (o19_17 p P) (.node (o35_17 p P) (.node (o67_17 p P) (.node (o131_29 p P) (.node (o259_40 p P) .nil .nil) .nil) (.node (o195_35 p P) (.node (o323_51 p P) .nil .nil) .nil)) (.node (o99_29 p P) (.node (o163_29 p P) (.node (o291_51 p P) .nil .nil) .nil) (.node (o227_40 p P) (.node (o355_59 p P) .nil .nil) .nil))) (.node (o51_17 p P) (.node (o83_17 p P) (.node (o147_29 p P) (.node (o275_51 p P) .nil .nil) .nil) (.node (o211_35 p P) (.node (o339_52 p P) .nil .nil) .nil)) (.node (o115_29 p P) (.node (o179_35 p P) (.node (o307_51 p P) .nil .nil) .nil) (.node (o243_40 p P) (.node (o371_59 p P) .nil .nil) .nil)))) (.node (o27_17 p P) (.node (o43_17 p P) (.node (o75_17 p P) (.node (o139_29 p P) (.node (o267_40 p P) .nil .nil) .nil) (.node (o203_35 p P) (.node (o331_52 p P) .nil .nil) .nil)) (.node (o107_29 p P) (.node (o171_29 p P) (.node (o299_51 p P) .nil .nil) .nil) (.node (o235_40 p P) (.node (o363_59 p P) .nil .nil) .nil))) (.node (o59_17 p P) (.node (o91_17 p P) (.node (o155_29 p P) (.node (o283_51 p P) .nil .nil) .nil) (.node (o219_40 p P) (.node (o347_59 p P) .nil .nil) .nil)) (.node (o123_29 p P) (.node (o187_35 p P) (.node (o315_51 p P) .nil .nil) .nil) (.node (o251_40 p P) (.node (o379_59 p P) .nil .nil) .nil)))))) (.node (boot_o_5 P) (.node (boot_o_9 P) (.node (o17_17 p P) (.node (o33_17 p P) (.node (o65_17 p P) (.node (o129_29 p P) (.node (o257_40 p P) .nil .nil) (.node (o385_59 p P) .nil .nil)) (.node (o193_35 p P) (.node (o321_51 p P) .nil .nil) .nil)) (.node (o97_29 p P) (.node (o161_29 p P) (.node (o289_51 p P) .nil .nil) .nil) (.node (o225_40 p P) (.node (o353_59 p P) .nil .nil) .nil))) (.node (o49_17 p P) (.node (o81_17 p P) (.node (o145_29 p P) (.node (o273_51 p P) .nil .nil) .nil) (.node (o209_35 p P) (.node (o337_52 p P) .nil .nil) .nil)) (.node (o113_29 p P) (.node (o177_29 p P) (.node (o305_51 p P) .nil .nil) .nil) (.node (o241_40 p P) (.node (o369_59 p P) .nil .nil) .nil)))) (.node (o25_17 p P) (.node (o41_17 p P) (.node (o73_17 p P) (.node (o137_29 p P) (.node (o265_40 p P) .nil .nil) .nil) (.node (o201_35 p P) (.node (o329_52 p P) .nil .nil) .nil)) (.node (o105_29 p P) (.node (o169_29 p P) (.node (o297_51 p P) .nil .nil) .nil) (.node (o233_40 p P) (.node (o361_59 p P) .nil .nil) .nil))) (.node (o57_17 p P) (.node (o89_17 p P) (.node (o153_29 p P) (.node (o281_51 p P) .nil .nil) .nil) (.node (o217_40 p P) (.node (o345_59 p P) .nil .nil) .nil)) (.node (o121_29 p P) (.node (o185_35 p P) (.node (o313_51 p P) .nil .nil) .nil) (.node (o249_40 p P) (.node (o377_59 p P) .nil .nil) .nil))))) (.node (o13_B p P) (.node (o21_17 p P) (.node (o37_17 p P) (.node (o69_17 p P) (.node (o133_29 p P) (.node (o261_40 p P) .nil .nil) .nil) (.node (o197_35 p P) (.node (o325_51 p P) .nil .nil) .nil)) (.node (o101_29 p P) (.node (o165_29 p P) (.node (o293_51 p P) .nil .nil) .nil) (.node (o229_40 p P) (.node (o357_59 p P) .nil .nil) .nil))) (.node (o53_17 p P) (.node (o85_17 p P) (.node (o149_29 p P) (.node (o277_51 p P) .nil .nil) .nil) (.node (o213_40 p P) (.node (o341_59 p P) .nil .nil) .nil)) (.node (o117_29 p P) (.node (o181_35 p P) (.node (o309_51 p P) .nil .nil) .nil) (.node (o245_40 p P) (.node (o373_59 p P) .nil .nil) .nil)))) (.node (o29_17 p P) (.node (o45_17 p P) (.node (o77_17 p P) (.node (o141_29 p P) (.node (o269_40 p P) .nil .nil) .nil) (.node (o205_35 p P) (.node (o333_52 p P) .nil .nil) .nil)) (.node (o109_29 p P) (.node (o173_29 p P) (.node (o301_51 p P) .nil .nil) .nil) (.node (o237_40 p P) (.node (o365_59 p P) .nil .nil) .nil))) (.node (o61_17 p P) (.node (o93_17 p P) (.node (o157_29 p P) (.node (o285_51 p P) .nil .nil) .nil) (.node (o221_40 p P) (.node (o349_59 p P) .nil .nil) .nil)) (.node (o125_29 p P) (.node (o189_35 p P) (.node (o317_51 p P) .nil .nil) .nil) (.node (o253_40 p P) (.node (o381_59 p P) .nil .nil) .nil))))))) (.node (o2_52 p P) (.node (boot_o_4 P) (.node (boot_o_8 P) (.node (o16_17 p P) (.node (o32_17 p P) (.node (o64_17 p P) (.node (o128_29 p P) (.node (o256_40 p P) .nil .nil) (.node (o384_59 p P) .nil .nil)) (.node (o192_35 p P) (.node (o320_51 p P) .nil .nil) .nil)) (.node (o96_29 p P) (.node (o160_29 p P) (.node (o288_51 p P) .nil .nil) .nil) (.node (o224_40 p P) (.node (o352_59 p P) .nil .nil) .nil))) (.node (o48_17 p P) (.node (o80_17 p P) (.node (o144_29 p P) (.node (o272_51 p P) .nil .nil) .nil) (.node (o208_35 p P) (.node (o336_59 p P) .nil .nil) .nil)) (.node (o112_29 p P) (.node (o176_29 p P) (.node (o304_51 p P) .nil .nil) .nil) (.node (o240_40 p P) (.node (o368_59 p P) .nil .nil) .nil)))) (.node (o24_17 p P) (.node (o40_17 p P) (.node (o72_17 p P) (.node (o136_29 p P) (.node (o264_40 p P) .nil .nil) .nil) (.node (o200_35 p P) (.node (o328_52 p P) .nil .nil) .nil)) (.node (o104_29 p P) (.node (o168_29 p P) (.node (o296_51 p P) .nil .nil) .nil) (.node (o232_40 p P) (.node (o360_59 p P) .nil .nil) .nil))) (.node (o56_17 p P) (.node (o88_17 p P) (.node (o152_29 p P) (.node (o280_51 p P) .nil .nil) .nil) (.node (o216_40 p P) (.node (o344_59 p P) .nil .nil) .nil)) (.node (o120_29 p P) (.node (o184_35 p P) (.node (o312_51 p P) .nil .nil) .nil) (.node (o248_40 p P) (.node (o376_59 p P) .nil .nil) .nil))))) (.node (o12_59 p P) (.node (o20_17 p P) (.node (o36_17 p P) (.node (o68_17 p P) (.node (o132_29 p P) (.node (o260_40 p P) .nil .nil) .nil) (.node (o196_35 p P) (.node (o324_51 p P) .nil .nil) .nil)) (.node (o100_29 p P) (.node (o164_29 p P) (.node (o292_51 p P) .nil .nil) .nil) (.node (o228_40 p P) (.node (o356_59 p P) .nil .nil) .nil))) (.node (o52_17 p P) (.node (o84_17 p P) (.node (o148_29 p P) (.node (o276_51 p P) .nil .nil) .nil) (.node (o212_35 p P) (.node (o340_59 p P) .nil .nil) .nil)) (.node (o116_29 p P) (.node (o180_35 p P) (.node (o308_51 p P) .nil .nil) .nil) (.node (o244_40 p P) (.node (o372_59 p P) .nil .nil) .nil)))) (.node (o28_17 p P) (.node (o44_17 p P) (.node (o76_17 p P) (.node (o140_29 p P) (.node (o268_40 p P) .nil .nil) .nil) (.node (o204_35 p P) (.node (o332_52 p P) .nil .nil) .nil)) (.node (o108_29 p P) (.node (o172_29 p P) (.node (o300_51 p P) .nil .nil) .nil) (.node (o236_40 p P) (.node (o364_59 p P) .nil .nil) .nil))) (.node (o60_17 p P) (.node (o92_17 p P) (.node (o156_29 p P) (.node (o284_51 p P) .nil .nil) .nil) (.node (o220_40 p P) (.node (o348_59 p P) .nil .nil) .nil)) (.node (o124_29 p P) (.node (o188_35 p P) (.node (o316_51 p P) .nil .nil) .nil) (.node (o252_40 p P) (.node (o380_59 p P) .nil .nil) .nil)))))) (.node (boot_o_6 P) (.node (boot_o_10 P) (.node (o18_17 p P) (.node (o34_17 p P) (.node (o66_17 p P) (.node (o130_29 p P) (.node (o258_40 p P) .nil .nil) (.node (o386_59 p P) .nil .nil)) (.node (o194_35 p P) (.node (o322_51 p P) .nil .nil) .nil)) (.node (o98_29 p P) (.node (o162_29 p P) (.node (o290_51 p P) .nil .nil) .nil) (.node (o226_40 p P) (.node (o354_59 p P) .nil .nil) .nil))) (.node (o50_17 p P) (.node (o82_17 p P) (.node (o146_29 p P) (.node (o274_51 p P) .nil .nil) .nil) (.node (o210_35 p P) (.node (o338_52 p P) .nil .nil) .nil)) (.node (o114_29 p P) (.node (o178_35 p P) (.node (o306_51 p P) .nil .nil) .nil) (.node (o242_40 p P) (.node (o370_59 p P) .nil .nil) .nil)))) (.node (o26_17 p P) (.node (o42_17 p P) (.node (o74_17 p P) (.node (o138_29 p P) (.node (o266_40 p P) .nil .nil) .nil) (.node (o202_35 p P) (.node (o330_52 p P) .nil .nil) .nil)) (.node (o106_29 p P) (.node (o170_29 p P) (.node (o298_51 p P) .nil .nil) .nil) (.node (o234_40 p P) (.node (o362_59 p P) .nil .nil) .nil))) (.node (o58_17 p P) (.node (o90_17 p P) (.node (o154_29 p P) (.node (o282_51 p P) .nil .nil) .nil) (.node (o218_40 p P) (.node (o346_59 p P) .nil .nil) .nil)) (.node (o122_29 p P) (.node (o186_35 p P) (.node (o314_51 p P) .nil .nil) .nil) (.node (o250_40 p P) (.node (o378_59 p P) .nil .nil) .nil))))) (.node (o14_B p P) (.node (o22_17 p P) (.node (o38_17 p P) (.node (o70_17 p P) (.node (o134_29 p P) (.node (o262_40 p P) .nil .nil) .nil) (.node (o198_35 p P) (.node (o326_51 p P) .nil .nil) .nil)) (.node (o102_29 p P) (.node (o166_29 p P) (.node (o294_51 p P) .nil .nil) .nil) (.node (o230_40 p P) (.node (o358_59 p P) .nil .nil) .nil))) (.node (o54_17 p P) (.node (o86_17 p P) (.node (o150_29 p P) (.node (o278_51 p P) .nil .nil) .nil) (.node (o214_40 p P) (.node (o342_59 p P) .nil .nil) .nil)) (.node (o118_29 p P) (.node (o182_35 p P) (.node (o310_51 p P) .nil .nil) .nil) (.node (o246_40 p P) (.node (o374_59 p P) .nil .nil) .nil)))) (.node (o30_17 p P) (.node (o46_17 p P) (.node (o78_17 p P) (.node (o142_29 p P) (.node (o270_51 p P) .nil .nil) .nil) (.node (o206_35 p P) (.node (o334_52 p P) .nil .nil) .nil)) (.node (o110_29 p P) (.node (o174_29 p P) (.node (o302_51 p P) .nil .nil) .nil) (.node (o238_40 p P) (.node (o366_59 p P) .nil .nil) .nil))) (.node (o62_17 p P) (.node (o94_17 p P) (.node (o158_29 p P) (.node (o286_51 p P) .nil .nil) .nil) (.node (o222_40 p P) (.node (o350_59 p P) .nil .nil) .nil)) (.node (o126_29 p P) (.node (o190_35 p P) (.node (o318_51 p P) .nil .nil) .nil) (.node (o254_40 p P) (.node (o382_59 p P) .nil .nil) .nil))))))))
noncomputable def tr_73 (p : Program) (P : Params) : BT := (.node (boot_o_0 P) (.node (boot_o_1 P) (.node (o3_73 p P) (.node (boot_o_7 P) (.node (o15_17 p P) (.node (o31_17 p P) (.node (o63_17 p P) (.node (o127_29 p P) (.node (o255_40 p P) .nil .nil) (.node (o383_59 p P) .nil .nil)) (.node (o191_35 p P) (.node (o319_51 p P) .nil .nil) (.node (o447_73 p P) .nil .nil))) (.node (o95_29 p P) (.node (o159_29 p P) (.node (o287_51 p P) .nil .nil) (.node (o415_73 p P) .nil .nil)) (.node (o223_40 p P) (.node (o351_59 p P) .nil .nil) .nil))) (.node (o47_17 p P) (.node (o79_17 p P) (.node (o143_29 p P) (.node (o271_51 p P) .nil .nil) (.node (o399_73 p P) .nil .nil)) (.node (o207_35 p P) (.node (o335_52 p P) .nil .nil) (.node (o463_73 p P) .nil .nil))) (.node (o111_29 p P) (.node (o175_29 p P) (.node (o303_51 p P) .nil .nil) (.node (o431_73 p P) .nil .nil)) (.node (o239_40 p P) (.node (o367_59 p P) .nil .nil) .nil)))) (.node (o23_17 p P) (.node (o39_17 p P) (.node (o71_17 p P) (.node (o135_29 p P) (.node (o263_40 p P) .nil .nil) (.node (o391_73 p P) .nil .nil)) (.node (o199_35 p P) (.node (o327_52 p P) .nil .nil) (.node (o455_73 p P) .nil .nil))) (.node (o103_29 p P) (.node (o167_29 p P) (.node (o295_51 p P) .nil .nil) (.node (o423_73 p P) .nil .nil)) (.node (o231_40 p P) (.node (o359_59 p P) .nil .nil) .nil))) (.node (o55_17 p P) (.node (o87_17 p P) (.node (o151_29 p P) (.node (o279_51 p P) .nil .nil) (.node (o407_73 p P) .nil .nil)) (.node (o215_40 p P) (.node (o343_59 p P) .nil .nil) (.node (o471_73 p P) .nil .nil))) (.node (o119_29 p P) (.node (o183_35 p P) (.node (o311_51 p P) .nil .nil) (.node (o439_73 p P) .nil .nil)) (.node (o247_40 p P) (.node (o375_59 p P) .nil .nil) .nil))))) (.node (o11_B p P) (.node (o19_17 p P) (.node (o35_17 p P) (.node (o67_17 p P) (.node (o131_29 p P) (.node (o259_40 p P) .nil .nil) (.node (o387_73 p P) .nil .nil)) (.node (o195_35 p P) (.node (o323_51 p P) .nil .nil) (.node (o451_73 p P) .nil .nil))) (.node (o99_29 p P) (.node (o163_29 p P) (.node (o291_51 p P) .nil .nil) (.node (o419_73 p P) .nil .nil)) (.node (o227_40 p P) (.node (o355_59 p P) .nil .nil) .nil))) (.node (o51_17 p P) (.node (o83_17 p P) (.node (o147_29 p P) (.node (o275_51 p P) .nil .nil) (.node (o403_73 p P) .nil .nil)) (.node (o211_35 p P) (.node (o339_52 p P) .nil .nil) (.node (o467_73 p P) .nil .nil))) (.node (o115_29 p P) (.node (o179_35 p P) (.node (o307_51 p P) .nil .nil) (.node (o435_73 p P) .nil .nil)) (.node (o243_40 p P) (.node (o371_59 p P) .nil .nil) .nil)))) (.node (o27_17 p P) (.node (o43_17 p P) (.node (o75_17 p P) (.node (o139_29 p P) (.node (o267_40 p P) .nil .nil) (.node (o395_73 p P) .nil .nil)) (.node (o203_35 p P) (.node (o331_52 p P) .nil .nil) (.node (o459_73 p P) .nil .nil))) (.node (o107_29 p P) (.node (o171_29 p P) (.node (o299_51 p P) .nil .nil) (.node (o427_73 p P) .nil .nil)) (.node (o235_40 p P) (.node (o363_59 p P) .nil .nil) .nil))) (.node (o59_17 p P) (.node (o91_17 p P) (.node (o155_29 p P) (.node (o283_51 p P) .nil .nil) (.node (o411_73 p P) .nil .nil)) (.node (o219_40 p P) (.node (o347_59 p P) .nil .nil) .nil)) (.node (o123_29 p P) (.node (o187_35 p P) (.node (o315_51 p P) .nil .nil) (.node (o443_73 p P) .nil .nil)) (.node (o251_40 p P) (.node (o379_59 p P) .nil .nil) .nil)))))) (.node (boot_o_5 P) (.node (boot_o_9 P) (.node (o17_17 p P) (.node (o33_17 p P) (.node (o65_17 p P) (.node (o129_29 p P) (.node (o257_40 p P) .nil .nil) (.node (o385_59 p P) .nil .nil)) (.node (o193_35 p P) (.node (o321_51 p P) .nil .nil) (.node (o449_73 p P) .nil .nil))) (.node (o97_29 p P) (.node (o161_29 p P) (.node (o289_51 p P) .nil .nil) (.node (o417_73 p P) .nil .nil)) (.node (o225_40 p P) (.node (o353_59 p P) .nil .nil) .nil))) (.node (o49_17 p P) (.node (o81_17 p P) (.node (o145_29 p P) (.node (o273_51 p P) .nil .nil) (.node (o401_73 p P) .nil .nil)) (.node (o209_35 p P) (.node (o337_52 p P) .nil .nil) (.node (o465_73 p P) .nil .nil))) (.node (o113_29 p P) (.node (o177_29 p P) (.node (o305_51 p P) .nil .nil) (.node (o433_73 p P) .nil .nil)) (.node (o241_40 p P) (.node (o369_59 p P) .nil .nil) .nil)))) (.node (o25_17 p P) (.node (o41_17 p P) (.node (o73_17 p P) (.node (o137_29 p P) (.node (o265_40 p P) .nil .nil) (.node (o393_73 p P) .nil .nil)) (.node (o201_35 p P) (.node (o329_52 p P) .nil .nil) (.node (o457_73 p P) .nil .nil))) (.node (o105_29 p P) (.node (o169_29 p P) (.node (o297_51 p P) .nil .nil) (.node (o425_73 p P) .nil .nil)) (.node (o233_40 p P) (.node (o361_59 p P) .nil .nil) .nil))) (.node (o57_17 p P) (.node (o89_17 p P) (.node (o153_29 p P) (.node (o281_51 p P) .nil .nil) (.node (o409_73 p P) .nil .nil)) (.node (o217_40 p P) (.node (o345_59 p P) .nil .nil) (.node (o473_73 p P) .nil .nil))) (.node (o121_29 p P) (.node (o185_35 p P) (.node (o313_51 p P) .nil .nil) (.node (o441_73 p P) .nil .nil)) (.node (o249_40 p P) (.node (o377_59 p P) .nil .nil) .nil))))) (.node (o13_B p P) (.node (o21_17 p P) (.node (o37_17 p P) (.node (o69_17 p P) (.node (o133_29 p P) (.node (o261_40 p P) .nil .nil) (.node (o389_73 p P) .nil .nil)) (.node (o197_35 p P) (.node (o325_51 p P) .nil .nil) (.node (o453_73 p P) .nil .nil))) (.node (o101_29 p P) (.node (o165_29 p P) (.node (o293_51 p P) .nil .nil) (.node (o421_73 p P) .nil .nil)) (.node (o229_40 p P) (.node (o357_59 p P) .nil .nil) .nil))) (.node (o53_17 p P) (.node (o85_17 p P) (.node (o149_29 p P) (.node (o277_51 p P) .nil .nil) (.node (o405_73 p P) .nil .nil)) (.node (o213_40 p P) (.node (o341_59 p P) .nil .nil) (.node (o469_73 p P) .nil .nil))) (.node (o117_29 p P) (.node (o181_35 p P) (.node (o309_51 p P) .nil .nil) (.node (o437_73 p P) .nil .nil)) (.node (o245_40 p P) (.node (o373_59 p P) .nil .nil) .nil)))) (.node (o29_17 p P) (.node (o45_17 p P) (.node (o77_17 p P) (.node (o141_29 p P) (.node (o269_40 p P) .nil .nil) (.node (o397_73 p P) .nil .nil)) (.node (o205_35 p P) (.node (o333_52 p P) .nil .nil) (.node (o461_73 p P) .nil .nil))) (.node (o109_29 p P) (.node (o173_29 p P) (.node (o301_51 p P) .nil .nil) (.node (o429_73 p P) .nil .nil)) (.node (o237_40 p P) (.node (o365_59 p P) .nil .nil) .nil))) (.node (o61_17 p P) (.node (o93_17 p P) (.node (o157_29 p P) (.node (o285_51 p P) .nil .nil) (.node (o413_73 p P) .nil .nil)) (.node (o221_40 p P) (.node (o349_59 p P) .nil .nil) .nil)) (.node (o125_29 p P) (.node (o189_35 p P) (.node (o317_51 p P) .nil .nil) (.node (o445_73 p P) .nil .nil)) (.node (o253_40 p P) (.node (o381_59 p P) .nil .nil) .nil))))))) (.node (o2_52 p P) (.node (boot_o_4 P) (.node (boot_o_8 P) (.node (o16_17 p P) (.node (o32_17 p P) (.node (o64_17 p P) (.node (o128_29 p P) (.node (o256_40 p P) .nil .nil) (.node (o384_59 p P) .nil .nil)) (.node (o192_35 p P) (.node (o320_51 p P) .nil .nil) (.node (o448_73 p P) .nil .nil))) (.node (o96_29 p P) (.node (o160_29 p P) (.node (o288_51 p P) .nil .nil) (.node (o416_73 p P) .nil .nil)) (.node (o224_40 p P) (.node (o352_59 p P) .nil .nil) .nil))) (.node (o48_17 p P) (.node (o80_17 p P) (.node (o144_29 p P) (.node (o272_51 p P) .nil .nil) (.node (o400_73 p P) .nil .nil)) (.node (o208_35 p P) (.node (o336_59 p P) .nil .nil) (.node (o464_73 p P) .nil .nil))) (.node (o112_29 p P) (.node (o176_29 p P) (.node (o304_51 p P) .nil .nil) (.node (o432_73 p P) .nil .nil)) (.node (o240_40 p P) (.node (o368_59 p P) .nil .nil) .nil)))) (.node (o24_17 p P) (.node (o40_17 p P) (.node (o72_17 p P) (.node (o136_29 p P) (.node (o264_40 p P) .nil .nil) (.node (o392_73 p P) .nil .nil)) (.node (o200_35 p P) (.node (o328_52 p P) .nil .nil) (.node (o456_73 p P) .nil .nil))) (.node (o104_29 p P) (.node (o168_29 p P) (.node (o296_51 p P) .nil .nil) (.node (o424_73 p P) .nil .nil)) (.node (o232_40 p P) (.node (o360_59 p P) .nil .nil) .nil))) (.node (o56_17 p P) (.node (o88_17 p P) (.node (o152_29 p P) (.node (o280_51 p P) .nil .nil) (.node (o408_73 p P) .nil .nil)) (.node (o216_40 p P) (.node (o344_59 p P) .nil .nil) (.node (o472_73 p P) .nil .nil))) (.node (o120_29 p P) (.node (o184_35 p P) (.node (o312_51 p P) .nil .nil) (.node (o440_73 p P) .nil .nil)) (.node (o248_40 p P) (.node (o376_59 p P) .nil .nil) .nil))))) (.node (o12_73 p P) (.node (o20_17 p P) (.node (o36_17 p P) (.node (o68_17 p P) (.node (o132_29 p P) (.node (o260_40 p P) .nil .nil) (.node (o388_73 p P) .nil .nil)) (.node (o196_35 p P) (.node (o324_51 p P) .nil .nil) (.node (o452_73 p P) .nil .nil))) (.node (o100_29 p P) (.node (o164_29 p P) (.node (o292_51 p P) .nil .nil) (.node (o420_73 p P) .nil .nil)) (.node (o228_40 p P) (.node (o356_59 p P) .nil .nil) .nil))) (.node (o52_17 p P) (.node (o84_17 p P) (.node (o148_29 p P) (.node (o276_51 p P) .nil .nil) (.node (o404_73 p P) .nil .nil)) (.node (o212_35 p P) (.node (o340_59 p P) .nil .nil) (.node (o468_73 p P) .nil .nil))) (.node (o116_29 p P) (.node (o180_35 p P) (.node (o308_51 p P) .nil .nil) (.node (o436_73 p P) .nil .nil)) (.node (o244_40 p P) (.node (o372_59 p P) .nil .nil) .nil)))) (.node (o28_17 p P) (.node (o44_17 p P) (.node (o76_17 p P) (.node (o140_29 p P) (.node (o268_40 p P) .nil .nil) (.node (o396_73 p P) .nil .nil)) (.node (o204_35 p P) (.node (o332_52 p P) .nil .nil) (.node (o460_73 p P) .nil .nil))) (.node (o108_29 p P) (.node (o172_29 p P) (.node (o300_51 p P) .nil .nil) (.node (o428_73 p P) .nil .nil)) (.node (o236_40 p P) (.node (o364_59 p P) .nil .nil) .nil))) (.node (o60_17 p P) (.node (o92_17 p P) (.node (o156_29 p P) (.node (o284_51 p P) .nil .nil) (.node (o412_73 p P) .nil .nil)) (.node (o220_40 p P) (.node (o348_59 p P) .nil .nil) .nil)) (.node (o124_29 p P) (.node (o188_35 p P) (.node (o316_51 p P) .nil .nil) (.node (o444_73 p P) .nil .nil)) (.node (o252_40 p P) (.node (o380_59 p P) .nil .nil) .nil)))))) (.node (boot_o_6 P) (.node (boot_o_10 P) (.node (o18_17 p P) (.node (o34_17 p P) (.node (o66_17 p P) (.node (o130_29 p P) (.node (o258_40 p P) .nil .nil) (.node (o386_59 p P) .nil .nil)) (.node (o194_35 p P) (.node (o322_51 p P) .nil .nil) (.node (o450_73 p P) .nil .nil))) (.node (o98_29 p P) (.node (o162_29 p P) (.node (o290_51 p P) .nil .nil) (.node (o418_73 p P) .nil .nil)) (.node (o226_40 p P) (.node (o354_59 p P) .nil .nil) .nil))) (.node (o50_17 p P) (.node (o82_17 p P) (.node (o146_29 p P) (.node (o274_51 p P) .nil .nil) (.node (o402_73 p P) .nil .nil)) (.node (o210_35 p P) (.node (o338_52 p P) .nil .nil) (.node (o466_73 p P) .nil .nil))) (.node (o114_29 p P) (.node (o178_35 p P) (.node (o306_51 p P) .nil .nil) (.node (o434_73 p P) .nil .nil)) (.node (o242_40 p P) (.node (o370_59 p P) .nil .nil) .nil)))) (.node (o26_17 p P) (.node (o42_17 p P) (.node (o74_17 p P) (.node (o138_29 p P) (.node (o266_40 p P) .nil .nil) (.node (o394_73 p P) .nil .nil)) (.node (o202_35 p P) (.node (o330_52 p P) .nil .nil) (.node (o458_73 p P) .nil .nil))) (.node (o106_29 p P) (.node (o170_29 p P) (.node (o298_51 p P) .nil .nil) (.node (o426_73 p P) .nil .nil)) (.node (o234_40 p P) (.node (o362_59 p P) .nil .nil) .nil))) (.node (o58_17 p P) (.node (o90_17 p P) (.node (o154_29 p P) (.node (o282_51 p P) .nil .nil) (.node (o410_73 p P) .nil .nil)) (.node (o218_40 p P) (.node (o346_59 p P) .nil .nil) .nil)) (.node (o122_29 p P) (.node (o186_35 p P) (.node (o314_51 p P) .nil .nil) (.node (o442_73 p P) .nil .nil)) (.node (o250_40 p P) (.node (o378_59 p P) .nil .nil) .nil))))) (.node (o14_B p P) (.node (o22_17 p P) (.node (o38_17 p P) (.node (o70_17 p P) (.node (o134_29 p P) (.node (o262_40 p P) .nil .nil) (.node (o390_73 p P) .nil .nil)) (.node (o198_35 p P) (.node (o326_51 p P) .nil .nil) (.node (o454_73 p P) .nil .nil))) (.node (o102_29 p P) (.node (o166_29 p P) (.node (o294_51 p P) .nil .nil) (.node (o422_73 p P) .nil .nil)) (.node (o230_40 p P) (.node (o358_59 p P) .nil .nil) .nil))) (.node (o54_17 p P) (.node (o86_17 p P) (.node (o150_29 p P) (.node (o278_51 p P) .nil .nil) (.node (o406_73 p P) .nil .nil)) (.node (o214_40 p P) (.node (o342_59 p P) .nil .nil) (.node (o470_73 p P) .nil .nil))) (.node (o118_29 p P) (.node (o182_35 p P) (.node (o310_51 p P) .nil .nil) (.node (o438_73 p P) .nil .nil)) (.node (o246_40 p P) (.node (o374_59 p P) .nil .nil) .nil)))) (.node (o30_17 p P) (.node (o46_17 p P) (.node (o78_17 p P) (.node (o142_29 p P) (.node (o270_51 p P) .nil .nil) (.node (o398_73 p P) .nil .nil)) (.node (o206_35 p P) (.node (o334_52 p P) .nil .nil) (.node (o462_73 p P) .nil .nil))) (.node (o110_29 p P) (.node (o174_29 p P) (.node (o302_51 p P) .nil .nil) (.node (o430_73 p P) .nil .nil)) (.node (o238_40 p P) (.node (o366_59 p P) .nil .nil) .nil))) (.node (o62_17 p P) (.node (o94_17 p P) (.node (o158_29 p P) (.node (o286_51 p P) .nil .nil) (.node (o414_73 p P) .nil .nil)) (.node (o222_40 p P) (.node (o350_59 p P) .nil .nil) .nil)) (.node (o126_29 p P) (.node (o190_35 p P) (.node (o318_51 p P) .nil .nil) (.node (o446_73 p P) .nil .nil)) (.node (o254_40 p P) (.node (o382_59 p P) .nil .nil) .nil))))))))
noncomputable def tr_87 (p : Program) (P : Params) : BT := (.node (boot_o_0 P) (.node (boot_o_1 P) (.node (o3_87 p P) (.node (boot_o_7 P) (.node (o15_17 p P) (.node (o31_17 p P) (.node (o63_17 p P) (.node (o127_29 p P) (.node (o255_40 p P) (.node (o511_87 p P) .nil .nil) .nil) (.node (o383_59 p P) .nil .nil)) (.node (o191_35 p P) (.node (o319_51 p P) .nil .nil) (.node (o447_73 p P) .nil .nil))) (.node (o95_29 p P) (.node (o159_29 p P) (.node (o287_51 p P) (.node (o543_87 p P) .nil .nil) .nil) (.node (o415_73 p P) .nil .nil)) (.node (o223_40 p P) (.node (o351_59 p P) .nil .nil) (.node (o479_87 p P) .nil .nil)))) (.node (o47_17 p P) (.node (o79_17 p P) (.node (o143_29 p P) (.node (o271_51 p P) (.node (o527_87 p P) .nil .nil) .nil) (.node (o399_73 p P) .nil .nil)) (.node (o207_35 p P) (.node (o335_52 p P) .nil .nil) (.node (o463_73 p P) .nil .nil))) (.node (o111_29 p P) (.node (o175_29 p P) (.node (o303_51 p P) .nil .nil) (.node (o431_73 p P) .nil .nil)) (.node (o239_40 p P) (.node (o367_59 p P) .nil .nil) (.node (o495_87 p P) .nil .nil))))) (.node (o23_17 p P) (.node (o39_17 p P) (.node (o71_17 p P) (.node (o135_29 p P) (.node (o263_40 p P) (.node (o519_87 p P) .nil .nil) .nil) (.node (o391_73 p P) .nil .nil)) (.node (o199_35 p P) (.node (o327_52 p P) .nil .nil) (.node (o455_73 p P) .nil .nil))) (.node (o103_29 p P) (.node (o167_29 p P) (.node (o295_51 p P) (.node (o551_87 p P) .nil .nil) .nil) (.node (o423_73 p P) .nil .nil)) (.node (o231_40 p P) (.node (o359_59 p P) .nil .nil) (.node (o487_87 p P) .nil .nil)))) (.node (o55_17 p P) (.node (o87_17 p P) (.node (o151_29 p P) (.node (o279_51 p P) (.node (o535_87 p P) .nil .nil) .nil) (.node (o407_73 p P) .nil .nil)) (.node (o215_40 p P) (.node (o343_59 p P) .nil .nil) (.node (o471_73 p P) .nil .nil))) (.node (o119_29 p P) (.node (o183_35 p P) (.node (o311_51 p P) .nil .nil) (.node (o439_73 p P) .nil .nil)) (.node (o247_40 p P) (.node (o375_59 p P) .nil .nil) (.node (o503_87 p P) .nil .nil)))))) (.node (o11_B p P) (.node (o19_17 p P) (.node (o35_17 p P) (.node (o67_17 p P) (.node (o131_29 p P) (.node (o259_40 p P) (.node (o515_87 p P) .nil .nil) .nil) (.node (o387_73 p P) .nil .nil)) (.node (o195_35 p P) (.node (o323_51 p P) .nil .nil) (.node (o451_73 p P) .nil .nil))) (.node (o99_29 p P) (.node (o163_29 p P) (.node (o291_51 p P) (.node (o547_87 p P) .nil .nil) .nil) (.node (o419_73 p P) .nil .nil)) (.node (o227_40 p P) (.node (o355_59 p P) .nil .nil) (.node (o483_87 p P) .nil .nil)))) (.node (o51_17 p P) (.node (o83_17 p P) (.node (o147_29 p P) (.node (o275_51 p P) (.node (o531_87 p P) .nil .nil) .nil) (.node (o403_73 p P) .nil .nil)) (.node (o211_35 p P) (.node (o339_52 p P) .nil .nil) (.node (o467_73 p P) .nil .nil))) (.node (o115_29 p P) (.node (o179_35 p P) (.node (o307_51 p P) .nil .nil) (.node (o435_73 p P) .nil .nil)) (.node (o243_40 p P) (.node (o371_59 p P) .nil .nil) (.node (o499_87 p P) .nil .nil))))) (.node (o27_17 p P) (.node (o43_17 p P) (.node (o75_17 p P) (.node (o139_29 p P) (.node (o267_40 p P) (.node (o523_87 p P) .nil .nil) .nil) (.node (o395_73 p P) .nil .nil)) (.node (o203_35 p P) (.node (o331_52 p P) .nil .nil) (.node (o459_73 p P) .nil .nil))) (.node (o107_29 p P) (.node (o171_29 p P) (.node (o299_51 p P) (.node (o555_87 p P) .nil .nil) .nil) (.node (o427_73 p P) .nil .nil)) (.node (o235_40 p P) (.node (o363_59 p P) .nil .nil) (.node (o491_87 p P) .nil .nil)))) (.node (o59_17 p P) (.node (o91_17 p P) (.node (o155_29 p P) (.node (o283_51 p P) (.node (o539_87 p P) .nil .nil) .nil) (.node (o411_73 p P) .nil .nil)) (.node (o219_40 p P) (.node (o347_59 p P) .nil .nil) (.node (o475_87 p P) .nil .nil))) (.node (o123_29 p P) (.node (o187_35 p P) (.node (o315_51 p P) .nil .nil) (.node (o443_73 p P) .nil .nil)) (.node (o251_40 p P) (.node (o379_59 p P) .nil .nil) (.node (o507_87 p P) .nil .nil))))))) (.node (boot_o_5 P) (.node (boot_o_9 P) (.node (o17_17 p P) (.node (o33_17 p P) (.node (o65_17 p P) (.node (o129_29 p P) (.node (o257_40 p P) (.node (o513_87 p P) .nil .nil) .nil) (.node (o385_59 p P) .nil .nil)) (.node (o193_35 p P) (.node (o321_51 p P) .nil .nil) (.node (o449_73 p P) .nil .nil))) (.node (o97_29 p P) (.node (o161_29 p P) (.node (o289_51 p P) (.node (o545_87 p P) .nil .nil) .nil) (.node (o417_73 p P) .nil .nil)) (.node (o225_40 p P) (.node (o353_59 p P) .nil .nil) (.node (o481_87 p P) .nil .nil)))) (.node (o49_17 p P) (.node (o81_17 p P) (.node (o145_29 p P) (.node (o273_51 p P) (.node (o529_87 p P) .nil .nil) .nil) (.node (o401_73 p P) .nil .nil)) (.node (o209_35 p P) (.node (o337_52 p P) .nil .nil) (.node (o465_73 p P) .nil .nil))) (.node (o113_29 p P) (.node (o177_29 p P) (.node (o305_51 p P) .nil .nil) (.node (o433_73 p P) .nil .nil)) (.node (o241_40 p P) (.node (o369_59 p P) .nil .nil) (.node (o497_87 p P) .nil .nil))))) (.node (o25_17 p P) (.node (o41_17 p P) (.node (o73_17 p P) (.node (o137_29 p P) (.node (o265_40 p P) (.node (o521_87 p P) .nil .nil) .nil) (.node (o393_73 p P) .nil .nil)) (.node (o201_35 p P) (.node (o329_52 p P) .nil .nil) (.node (o457_73 p P) .nil .nil))) (.node (o105_29 p P) (.node (o169_29 p P) (.node (o297_51 p P) (.node (o553_87 p P) .nil .nil) .nil) (.node (o425_73 p P) .nil .nil)) (.node (o233_40 p P) (.node (o361_59 p P) .nil .nil) (.node (o489_87 p P) .nil .nil)))) (.node (o57_17 p P) (.node (o89_17 p P) (.node (o153_29 p P) (.node (o281_51 p P) (.node (o537_87 p P) .nil .nil) .nil) (.node (o409_73 p P) .nil .nil)) (.node (o217_40 p P) (.node (o345_59 p P) .nil .nil) (.node (o473_73 p P) .nil .nil))) (.node (o121_29 p P) (.node (o185_35 p P) (.node (o313_51 p P) .nil .nil) (.node (o441_73 p P) .nil .nil)) (.node (o249_40 p P) (.node (o377_59 p P) .nil .nil) (.node (o505_87 p P) .nil .nil)))))) (.node (o13_B p P) (.node (o21_17 p P) (.node (o37_17 p P) (.node (o69_17 p P) (.node (o133_29 p P) (.node (o261_40 p P) (.node (o517_87 p P) .nil .nil) .nil) (.node (o389_73 p P) .nil .nil)) (.node (o197_35 p P) (.node (o325_51 p P) .nil .nil) (.node (o453_73 p P) .nil .nil))) (.node (o101_29 p P) (.node (o165_29 p P) (.node (o293_51 p P) (.node (o549_87 p P) .nil .nil) .nil) (.node (o421_73 p P) .nil .nil)) (.node (o229_40 p P) (.node (o357_59 p P) .nil .nil) (.node (o485_87 p P) .nil .nil)))) (.node (o53_17 p P) (.node (o85_17 p P) (.node (o149_29 p P) (.node (o277_51 p P) (.node (o533_87 p P) .nil .nil) .nil) (.node (o405_73 p P) .nil .nil)) (.node (o213_40 p P) (.node (o341_59 p P) .nil .nil) (.node (o469_73 p P) .nil .nil))) (.node (o117_29 p P) (.node (o181_35 p P) (.node (o309_51 p P) .nil .nil) (.node (o437_73 p P) .nil .nil)) (.node (o245_40 p P) (.node (o373_59 p P) .nil .nil) (.node (o501_87 p P) .nil .nil))))) (.node (o29_17 p P) (.node (o45_17 p P) (.node (o77_17 p P) (.node (o141_29 p P) (.node (o269_40 p P) (.node (o525_87 p P) .nil .nil) .nil) (.node (o397_73 p P) .nil .nil)) (.node (o205_35 p P) (.node (o333_52 p P) .nil .nil) (.node (o461_73 p P) .nil .nil))) (.node (o109_29 p P) (.node (o173_29 p P) (.node (o301_51 p P) (.node (o557_87 p P) .nil .nil) .nil) (.node (o429_73 p P) .nil .nil)) (.node (o237_40 p P) (.node (o365_59 p P) .nil .nil) (.node (o493_87 p P) .nil .nil)))) (.node (o61_17 p P) (.node (o93_17 p P) (.node (o157_29 p P) (.node (o285_51 p P) (.node (o541_87 p P) .nil .nil) .nil) (.node (o413_73 p P) .nil .nil)) (.node (o221_40 p P) (.node (o349_59 p P) .nil .nil) (.node (o477_87 p P) .nil .nil))) (.node (o125_29 p P) (.node (o189_35 p P) (.node (o317_51 p P) .nil .nil) (.node (o445_73 p P) .nil .nil)) (.node (o253_40 p P) (.node (o381_59 p P) .nil .nil) (.node (o509_87 p P) .nil .nil)))))))) (.node (o2_52 p P) (.node (boot_o_4 P) (.node (boot_o_8 P) (.node (o16_17 p P) (.node (o32_17 p P) (.node (o64_17 p P) (.node (o128_29 p P) (.node (o256_40 p P) (.node (o512_87 p P) .nil .nil) .nil) (.node (o384_59 p P) .nil .nil)) (.node (o192_35 p P) (.node (o320_51 p P) .nil .nil) (.node (o448_73 p P) .nil .nil))) (.node (o96_29 p P) (.node (o160_29 p P) (.node (o288_51 p P) (.node (o544_87 p P) .nil .nil) .nil) (.node (o416_73 p P) .nil .nil)) (.node (o224_40 p P) (.node (o352_59 p P) .nil .nil) (.node (o480_87 p P) .nil .nil)))) (.node (o48_17 p P) (.node (o80_17 p P) (.node (o144_29 p P) (.node (o272_51 p P) (.node (o528_87 p P) .nil .nil) .nil) (.node (o400_73 p P) .nil .nil)) (.node (o208_35 p P) (.node (o336_59 p P) .nil .nil) (.node (o464_73 p P) .nil .nil))) (.node (o112_29 p P) (.node (o176_29 p P) (.node (o304_51 p P) .nil .nil) (.node (o432_73 p P) .nil .nil)) (.node (o240_40 p P) (.node (o368_59 p P) .nil .nil) (.node (o496_87 p P) .nil .nil))))) (.node (o24_17 p P) (.node (o40_17 p P) (.node (o72_17 p P) (.node (o136_29 p P) (.node (o264_40 p P) (.node (o520_87 p P) .nil .nil) .nil) (.node (o392_73 p P) .nil .nil)) (.node (o200_35 p P) (.node (o328_52 p P) .nil .nil) (.node (o456_73 p P) .nil .nil))) (.node (o104_29 p P) (.node (o168_29 p P) (.node (o296_51 p P) (.node (o552_87 p P) .nil .nil) .nil) (.node (o424_73 p P) .nil .nil)) (.node (o232_40 p P) (.node (o360_59 p P) .nil .nil) (.node (o488_87 p P) .nil .nil)))) (.node (o56_17 p P) (.node (o88_17 p P) (.node (o152_29 p P) (.node (o280_51 p P) (.node (o536_87 p P) .nil .nil) .nil) (.node (o408_73 p P) .nil .nil)) (.node (o216_40 p P) (.node (o344_59 p P) .nil .nil) (.node (o472_73 p P) .nil .nil))) (.node (o120_29 p P) (.node (o184_35 p P) (.node (o312_51 p P) .nil .nil) (.node (o440_73 p P) .nil .nil)) (.node (o248_40 p P) (.node (o376_59 p P) .nil .nil) (.node (o504_87 p P) .nil .nil)))))) (.node (o12_87 p P) (.node (o20_17 p P) (.node (o36_17 p P) (.node (o68_17 p P) (.node (o132_29 p P) (.node (o260_40 p P) (.node (o516_87 p P) .nil .nil) .nil) (.node (o388_73 p P) .nil .nil)) (.node (o196_35 p P) (.node (o324_51 p P) .nil .nil) (.node (o452_73 p P) .nil .nil))) (.node (o100_29 p P) (.node (o164_29 p P) (.node (o292_51 p P) (.node (o548_87 p P) .nil .nil) .nil) (.node (o420_73 p P) .nil .nil)) (.node (o228_40 p P) (.node (o356_59 p P) .nil .nil) (.node (o484_87 p P) .nil .nil)))) (.node (o52_17 p P) (.node (o84_17 p P) (.node (o148_29 p P) (.node (o276_51 p P) (.node (o532_87 p P) .nil .nil) .nil) (.node (o404_73 p P) .nil .nil)) (.node (o212_35 p P) (.node (o340_59 p P) .nil .nil) (.node (o468_73 p P) .nil .nil))) (.node (o116_29 p P) (.node (o180_35 p P) (.node (o308_51 p P) .nil .nil) (.node (o436_73 p P) .nil .nil)) (.node (o244_40 p P) (.node (o372_59 p P) .nil .nil) (.node (o500_87 p P) .nil .nil))))) (.node (o28_17 p P) (.node (o44_17 p P) (.node (o76_17 p P) (.node (o140_29 p P) (.node (o268_40 p P) (.node (o524_87 p P) .nil .nil) .nil) (.node (o396_73 p P) .nil .nil)) (.node (o204_35 p P) (.node (o332_52 p P) .nil .nil) (.node (o460_73 p P) .nil .nil))) (.node (o108_29 p P) (.node (o172_29 p P) (.node (o300_51 p P) (.node (o556_87 p P) .nil .nil) .nil) (.node (o428_73 p P) .nil .nil)) (.node (o236_40 p P) (.node (o364_59 p P) .nil .nil) (.node (o492_87 p P) .nil .nil)))) (.node (o60_17 p P) (.node (o92_17 p P) (.node (o156_29 p P) (.node (o284_51 p P) (.node (o540_87 p P) .nil .nil) .nil) (.node (o412_73 p P) .nil .nil)) (.node (o220_40 p P) (.node (o348_59 p P) .nil .nil) (.node (o476_87 p P) .nil .nil))) (.node (o124_29 p P) (.node (o188_35 p P) (.node (o316_51 p P) .nil .nil) (.node (o444_73 p P) .nil .nil)) (.node (o252_40 p P) (.node (o380_59 p P) .nil .nil) (.node (o508_87 p P) .nil .nil))))))) (.node (boot_o_6 P) (.node (boot_o_10 P) (.node (o18_17 p P) (.node (o34_17 p P) (.node (o66_17 p P) (.node (o130_29 p P) (.node (o258_40 p P) (.node (o514_87 p P) .nil .nil) .nil) (.node (o386_59 p P) .nil .nil)) (.node (o194_35 p P) (.node (o322_51 p P) .nil .nil) (.node (o450_73 p P) .nil .nil))) (.node (o98_29 p P) (.node (o162_29 p P) (.node (o290_51 p P) (.node (o546_87 p P) .nil .nil) .nil) (.node (o418_73 p P) .nil .nil)) (.node (o226_40 p P) (.node (o354_59 p P) .nil .nil) (.node (o482_87 p P) .nil .nil)))) (.node (o50_17 p P) (.node (o82_17 p P) (.node (o146_29 p P) (.node (o274_51 p P) (.node (o530_87 p P) .nil .nil) .nil) (.node (o402_73 p P) .nil .nil)) (.node (o210_35 p P) (.node (o338_52 p P) .nil .nil) (.node (o466_73 p P) .nil .nil))) (.node (o114_29 p P) (.node (o178_35 p P) (.node (o306_51 p P) .nil .nil) (.node (o434_73 p P) .nil .nil)) (.node (o242_40 p P) (.node (o370_59 p P) .nil .nil) (.node (o498_87 p P) .nil .nil))))) (.node (o26_17 p P) (.node (o42_17 p P) (.node (o74_17 p P) (.node (o138_29 p P) (.node (o266_40 p P) (.node (o522_87 p P) .nil .nil) .nil) (.node (o394_73 p P) .nil .nil)) (.node (o202_35 p P) (.node (o330_52 p P) .nil .nil) (.node (o458_73 p P) .nil .nil))) (.node (o106_29 p P) (.node (o170_29 p P) (.node (o298_51 p P) (.node (o554_87 p P) .nil .nil) .nil) (.node (o426_73 p P) .nil .nil)) (.node (o234_40 p P) (.node (o362_59 p P) .nil .nil) (.node (o490_87 p P) .nil .nil)))) (.node (o58_17 p P) (.node (o90_17 p P) (.node (o154_29 p P) (.node (o282_51 p P) (.node (o538_87 p P) .nil .nil) .nil) (.node (o410_73 p P) .nil .nil)) (.node (o218_40 p P) (.node (o346_59 p P) .nil .nil) (.node (o474_87 p P) .nil .nil))) (.node (o122_29 p P) (.node (o186_35 p P) (.node (o314_51 p P) .nil .nil) (.node (o442_73 p P) .nil .nil)) (.node (o250_40 p P) (.node (o378_59 p P) .nil .nil) (.node (o506_87 p P) .nil .nil)))))) (.node (o14_B p P) (.node (o22_17 p P) (.node (o38_17 p P) (.node (o70_17 p P) (.node (o134_29 p P) (.node (o262_40 p P) (.node (o518_87 p P) .nil .nil) .nil) (.node (o390_73 p P) .nil .nil)) (.node (o198_35 p P) (.node (o326_51 p P) .nil .nil) (.node (o454_73 p P) .nil .nil))) (.node (o102_29 p P) (.node (o166_29 p P) (.node (o294_51 p P) (.node (o550_87 p P) .nil .nil) .nil) (.node (o422_73 p P) .nil .nil)) (.node (o230_40 p P) (.node (o358_59 p P) .nil .nil) (.node (o486_87 p P) .nil .nil)))) (.node (o54_17 p P) (.node (o86_17 p P) (.node (o150_29 p P) (.node (o278_51 p P) (.node (o534_87 p P) .nil .nil) .nil) (.node (o406_73 p P) .nil .nil)) (.node (o214_40 p P) (.node (o342_59 p P) .nil .nil) (.node (o470_73 p P) .nil .nil))) (.node (o118_29 p P) (.node (o182_35 p P) (.node (o310_51 p P) .nil .nil) (.node (o438_73 p P) .nil .nil)) (.node (o246_40 p P) (.node (o374_59 p P) .nil .nil) (.node (o502_87 p P) .nil .nil))))) (.node (o30_17 p P) (.node (o46_17 p P) (.node (o78_17 p P) (.node (o142_29 p P) (.node (o270_51 p P) (.node (o526_87 p P) .nil .nil) .nil) (.node (o398_73 p P) .nil .nil)) (.node (o206_35 p P) (.node (o334_52 p P) .nil .nil) (.node (o462_73 p P) .nil .nil))) (.node (o110_29 p P) (.node (o174_29 p P) (.node (o302_51 p P) .nil .nil) (.node (o430_73 p P) .nil .nil)) (.node (o238_40 p P) (.node (o366_59 p P) .nil .nil) (.node (o494_87 p P) .nil .nil)))) (.node (o62_17 p P) (.node (o94_17 p P) (.node (o158_29 p P) (.node (o286_51 p P) (.node (o542_87 p P) .nil .nil) .nil) (.node (o414_73 p P) .nil .nil)) (.node (o222_40 p P) (.node (o350_59 p P) .nil .nil) (.node (o478_87 p P) .nil .nil))) (.node (o126_29 p P) (.node (o190_35 p P) (.node (o318_51 p P) .nil .nil) (.node (o446_73 p P) .nil .nil)) (.node (o254_40 p P) (.node (o382_59 p P) .nil .nil) (.node (o510_87 p P) .nil .nil)))))))))
noncomputable def tr_101 (p : Program) (P : Params) : BT := (.node (boot_o_0 P) (.node (boot_o_1 P) (.node (o3_101 p P) (.node (boot_o_7 P) (.node (o15_17 p P) (.node (o31_17 p P) (.node (o63_17 p P) (.node (o127_29 p P) (.node (o255_40 p P) (.node (o511_87 p P) .nil .nil) .nil) (.node (o383_59 p P) .nil .nil)) (.node (o191_35 p P) (.node (o319_51 p P) (.node (o575_101 p P) .nil .nil) .nil) (.node (o447_73 p P) .nil .nil))) (.node (o95_29 p P) (.node (o159_29 p P) (.node (o287_51 p P) (.node (o543_87 p P) .nil .nil) .nil) (.node (o415_73 p P) .nil .nil)) (.node (o223_40 p P) (.node (o351_59 p P) (.node (o607_101 p P) .nil .nil) .nil) (.node (o479_87 p P) .nil .nil)))) (.node (o47_17 p P) (.node (o79_17 p P) (.node (o143_29 p P) (.node (o271_51 p P) (.node (o527_87 p P) .nil .nil) .nil) (.node (o399_73 p P) .nil .nil)) (.node (o207_35 p P) (.node (o335_52 p P) (.node (o591_101 p P) .nil .nil) .nil) (.node (o463_73 p P) .nil .nil))) (.node (o111_29 p P) (.node (o175_29 p P) (.node (o303_51 p P) (.node (o559_101 p P) .nil .nil) .nil) (.node (o431_73 p P) .nil .nil)) (.node (o239_40 p P) (.node (o367_59 p P) (.node (o623_101 p P) .nil .nil) .nil) (.node (o495_87 p P) .nil .nil))))) (.node (o23_17 p P) (.node (o39_17 p P) (.node (o71_17 p P) (.node (o135_29 p P) (.node (o263_40 p P) (.node (o519_87 p P) .nil .nil) .nil) (.node (o391_73 p P) .nil .nil)) (.node (o199_35 p P) (.node (o327_52 p P) (.node (o583_101 p P) .nil .nil) .nil) (.node (o455_73 p P) .nil .nil))) (.node (o103_29 p P) (.node (o167_29 p P) (.node (o295_51 p P) (.node (o551_87 p P) .nil .nil) .nil) (.node (o423_73 p P) .nil .nil)) (.node (o231_40 p P) (.node (o359_59 p P) (.node (o615_101 p P) .nil .nil) .nil) (.node (o487_87 p P) .nil .nil)))) (.node (o55_17 p P) (.node (o87_17 p P) (.node (o151_29 p P) (.node (o279_51 p P) (.node (o535_87 p P) .nil .nil) .nil) (.node (o407_73 p P) .nil .nil)) (.node (o215_40 p P) (.node (o343_59 p P) (.node (o599_101 p P) .nil .nil) .nil) (.node (o471_73 p P) .nil .nil))) (.node (o119_29 p P) (.node (o183_35 p P) (.node (o311_51 p P) (.node (o567_101 p P) .nil .nil) .nil) (.node (o439_73 p P) .nil .nil)) (.node (o247_40 p P) (.node (o375_59 p P) (.node (o631_101 p P) .nil .nil) .nil) (.node (o503_87 p P) .nil .nil)))))) (.node (o11_B p P) (.node (o19_17 p P) (.node (o35_17 p P) (.node (o67_17 p P) (.node (o131_29 p P) (.node (o259_40 p P) (.node (o515_87 p P) .nil .nil) .nil) (.node (o387_73 p P) .nil .nil)) (.node (o195_35 p P) (.node (o323_51 p P) (.node (o579_101 p P) .nil .nil) .nil) (.node (o451_73 p P) .nil .nil))) (.node (o99_29 p P) (.node (o163_29 p P) (.node (o291_51 p P) (.node (o547_87 p P) .nil .nil) .nil) (.node (o419_73 p P) .nil .nil)) (.node (o227_40 p P) (.node (o355_59 p P) (.node (o611_101 p P) .nil .nil) .nil) (.node (o483_87 p P) .nil .nil)))) (.node (o51_17 p P) (.node (o83_17 p P) (.node (o147_29 p P) (.node (o275_51 p P) (.node (o531_87 p P) .nil .nil) .nil) (.node (o403_73 p P) .nil .nil)) (.node (o211_35 p P) (.node (o339_52 p P) (.node (o595_101 p P) .nil .nil) .nil) (.node (o467_73 p P) .nil .nil))) (.node (o115_29 p P) (.node (o179_35 p P) (.node (o307_51 p P) (.node (o563_101 p P) .nil .nil) .nil) (.node (o435_73 p P) .nil .nil)) (.node (o243_40 p P) (.node (o371_59 p P) (.node (o627_101 p P) .nil .nil) .nil) (.node (o499_87 p P) .nil .nil))))) (.node (o27_17 p P) (.node (o43_17 p P) (.node (o75_17 p P) (.node (o139_29 p P) (.node (o267_40 p P) (.node (o523_87 p P) .nil .nil) .nil) (.node (o395_73 p P) .nil .nil)) (.node (o203_35 p P) (.node (o331_52 p P) (.node (o587_101 p P) .nil .nil) .nil) (.node (o459_73 p P) .nil .nil))) (.node (o107_29 p P) (.node (o171_29 p P) (.node (o299_51 p P) (.node (o555_87 p P) .nil .nil) .nil) (.node (o427_73 p P) .nil .nil)) (.node (o235_40 p P) (.node (o363_59 p P) (.node (o619_101 p P) .nil .nil) .nil) (.node (o491_87 p P) .nil .nil)))) (.node (o59_17 p P) (.node (o91_17 p P) (.node (o155_29 p P) (.node (o283_51 p P) (.node (o539_87 p P) .nil .nil) .nil) (.node (o411_73 p P) .nil .nil)) (.node (o219_40 p P) (.node (o347_59 p P) (.node (o603_101 p P) .nil .nil) .nil) (.node (o475_87 p P) .nil .nil))) (.node (o123_29 p P) (.node (o187_35 p P) (.node (o315_51 p P) (.node (o571_101 p P) .nil .nil) .nil) (.node (o443_73 p P) .nil .nil)) (.node (o251_40 p P) (.node (o379_59 p P) .nil .nil) (.node (o507_87 p P) .nil .nil))))))) (.node (boot_o_5 P) (.node (boot_o_9 P) (.node (o17_17 p P) (.node (o33_17 p P) (.node (o65_17 p P) (.node (o129_29 p P) (.node (o257_40 p P) (.node (o513_87 p P) .nil .nil) .nil) (.node (o385_59 p P) .nil .nil)) (.node (o193_35 p P) (.node (o321_51 p P) (.node (o577_101 p P) .nil .nil) .nil) (.node (o449_73 p P) .nil .nil))) (.node (o97_29 p P) (.node (o161_29 p P) (.node (o289_51 p P) (.node (o545_87 p P) .nil .nil) .nil) (.node (o417_73 p P) .nil .nil)) (.node (o225_40 p P) (.node (o353_59 p P) (.node (o609_101 p P) .nil .nil) .nil) (.node (o481_87 p P) .nil .nil)))) (.node (o49_17 p P) (.node (o81_17 p P) (.node (o145_29 p P) (.node (o273_51 p P) (.node (o529_87 p P) .nil .nil) .nil) (.node (o401_73 p P) .nil .nil)) (.node (o209_35 p P) (.node (o337_52 p P) (.node (o593_101 p P) .nil .nil) .nil) (.node (o465_73 p P) .nil .nil))) (.node (o113_29 p P) (.node (o177_29 p P) (.node (o305_51 p P) (.node (o561_101 p P) .nil .nil) .nil) (.node (o433_73 p P) .nil .nil)) (.node (o241_40 p P) (.node (o369_59 p P) (.node (o625_101 p P) .nil .nil) .nil) (.node (o497_87 p P) .nil .nil))))) (.node (o25_17 p P) (.node (o41_17 p P) (.node (o73_17 p P) (.node (o137_29 p P) (.node (o265_40 p P) (.node (o521_87 p P) .nil .nil) .nil) (.node (o393_73 p P) .nil .nil)) (.node (o201_35 p P) (.node (o329_52 p P) (.node (o585_101 p P) .nil .nil) .nil) (.node (o457_73 p P) .nil .nil))) (.node (o105_29 p P) (.node (o169_29 p P) (.node (o297_51 p P) (.node (o553_87 p P) .nil .nil) .nil) (.node (o425_73 p P) .nil .nil)) (.node (o233_40 p P) (.node (o361_59 p P) (.node (o617_101 p P) .nil .nil) .nil) (.node (o489_87 p P) .nil .nil)))) (.node (o57_17 p P) (.node (o89_17 p P) (.node (o153_29 p P) (.node (o281_51 p P) (.node (o537_87 p P) .nil .nil) .nil) (.node (o409_73 p P) .nil .nil)) (.node (o217_40 p P) (.node (o345_59 p P) (.node (o601_101 p P) .nil .nil) .nil) (.node (o473_73 p P) .nil .nil))) (.node (o121_29 p P) (.node (o185_35 p P) (.node (o313_51 p P) (.node (o569_101 p P) .nil .nil) .nil) (.node (o441_73 p P) .nil .nil)) (.node (o249_40 p P) (.node (o377_59 p P) .nil .nil) (.node (o505_87 p P) .nil .nil)))))) (.node (o13_B p P) (.node (o21_17 p P) (.node (o37_17 p P) (.node (o69_17 p P) (.node (o133_29 p P) (.node (o261_40 p P) (.node (o517_87 p P) .nil .nil) .nil) (.node (o389_73 p P) .nil .nil)) (.node (o197_35 p P) (.node (o325_51 p P) (.node (o581_101 p P) .nil .nil) .nil) (.node (o453_73 p P) .nil .nil))) (.node (o101_29 p P) (.node (o165_29 p P) (.node (o293_51 p P) (.node (o549_87 p P) .nil .nil) .nil) (.node (o421_73 p P) .nil .nil)) (.node (o229_40 p P) (.node (o357_59 p P) (.node (o613_101 p P) .nil .nil) .nil) (.node (o485_87 p P) .nil .nil)))) (.node (o53_17 p P) (.node (o85_17 p P) (.node (o149_29 p P) (.node (o277_51 p P) (.node (o533_87 p P) .nil .nil) .nil) (.node (o405_73 p P) .nil .nil)) (.node (o213_40 p P) (.node (o341_59 p P) (.node (o597_101 p P) .nil .nil) .nil) (.node (o469_73 p P) .nil .nil))) (.node (o117_29 p P) (.node (o181_35 p P) (.node (o309_51 p P) (.node (o565_101 p P) .nil .nil) .nil) (.node (o437_73 p P) .nil .nil)) (.node (o245_40 p P) (.node (o373_59 p P) (.node (o629_101 p P) .nil .nil) .nil) (.node (o501_87 p P) .nil .nil))))) (.node (o29_17 p P) (.node (o45_17 p P) (.node (o77_17 p P) (.node (o141_29 p P) (.node (o269_40 p P) (.node (o525_87 p P) .nil .nil) .nil) (.node (o397_73 p P) .nil .nil)) (.node (o205_35 p P) (.node (o333_52 p P) (.node (o589_101 p P) .nil .nil) .nil) (.node (o461_73 p P) .nil .nil))) (.node (o109_29 p P) (.node (o173_29 p P) (.node (o301_51 p P) (.node (o557_87 p P) .nil .nil) .nil) (.node (o429_73 p P) .nil .nil)) (.node (o237_40 p P) (.node (o365_59 p P) (.node (o621_101 p P) .nil .nil) .nil) (.node (o493_87 p P) .nil .nil)))) (.node (o61_17 p P) (.node (o93_17 p P) (.node (o157_29 p P) (.node (o285_51 p P) (.node (o541_87 p P) .nil .nil) .nil) (.node (o413_73 p P) .nil .nil)) (.node (o221_40 p P) (.node (o349_59 p P) (.node (o605_101 p P) .nil .nil) .nil) (.node (o477_87 p P) .nil .nil))) (.node (o125_29 p P) (.node (o189_35 p P) (.node (o317_51 p P) (.node (o573_101 p P) .nil .nil) .nil) (.node (o445_73 p P) .nil .nil)) (.node (o253_40 p P) (.node (o381_59 p P) .nil .nil) (.node (o509_87 p P) .nil .nil)))))))) (.node (o2_52 p P) (.node (boot_o_4 P) (.node (boot_o_8 P) (.node (o16_17 p P) (.node (o32_17 p P) (.node (o64_17 p P) (.node (o128_29 p P) (.node (o256_40 p P) (.node (o512_87 p P) .nil .nil) .nil) (.node (o384_59 p P) .nil .nil)) (.node (o192_35 p P) (.node (o320_51 p P) (.node (o576_101 p P) .nil .nil) .nil) (.node (o448_73 p P) .nil .nil))) (.node (o96_29 p P) (.node (o160_29 p P) (.node (o288_51 p P) (.node (o544_87 p P) .nil .nil) .nil) (.node (o416_73 p P) .nil .nil)) (.node (o224_40 p P) (.node (o352_59 p P) (.node (o608_101 p P) .nil .nil) .nil) (.node (o480_87 p P) .nil .nil)))) (.node (o48_17 p P) (.node (o80_17 p P) (.node (o144_29 p P) (.node (o272_51 p P) (.node (o528_87 p P) .nil .nil) .nil) (.node (o400_73 p P) .nil .nil)) (.node (o208_35 p P) (.node (o336_59 p P) (.node (o592_101 p P) .nil .nil) .nil) (.node (o464_73 p P) .nil .nil))) (.node (o112_29 p P) (.node (o176_29 p P) (.node (o304_51 p P) (.node (o560_101 p P) .nil .nil) .nil) (.node (o432_73 p P) .nil .nil)) (.node (o240_40 p P) (.node (o368_59 p P) (.node (o624_101 p P) .nil .nil) .nil) (.node (o496_87 p P) .nil .nil))))) (.node (o24_17 p P) (.node (o40_17 p P) (.node (o72_17 p P) (.node (o136_29 p P) (.node (o264_40 p P) (.node (o520_87 p P) .nil .nil) .nil) (.node (o392_73 p P) .nil .nil)) (.node (o200_35 p P) (.node (o328_52 p P) (.node (o584_101 p P) .nil .nil) .nil) (.node (o456_73 p P) .nil .nil))) (.node (o104_29 p P) (.node (o168_29 p P) (.node (o296_51 p P) (.node (o552_87 p P) .nil .nil) .nil) (.node (o424_73 p P) .nil .nil)) (.node (o232_40 p P) (.node (o360_59 p P) (.node (o616_101 p P) .nil .nil) .nil) (.node (o488_87 p P) .nil .nil)))) (.node (o56_17 p P) (.node (o88_17 p P) (.node (o152_29 p P) (.node (o280_51 p P) (.node (o536_87 p P) .nil .nil) .nil) (.node (o408_73 p P) .nil .nil)) (.node (o216_40 p P) (.node (o344_59 p P) (.node (o600_101 p P) .nil .nil) .nil) (.node (o472_73 p P) .nil .nil))) (.node (o120_29 p P) (.node (o184_35 p P) (.node (o312_51 p P) (.node (o568_101 p P) .nil .nil) .nil) (.node (o440_73 p P) .nil .nil)) (.node (o248_40 p P) (.node (o376_59 p P) (.node (o632_101 p P) .nil .nil) .nil) (.node (o504_87 p P) .nil .nil)))))) (.node (o12_101 p P) (.node (o20_17 p P) (.node (o36_17 p P) (.node (o68_17 p P) (.node (o132_29 p P) (.node (o260_40 p P) (.node (o516_87 p P) .nil .nil) .nil) (.node (o388_73 p P) .nil .nil)) (.node (o196_35 p P) (.node (o324_51 p P) (.node (o580_101 p P) .nil .nil) .nil) (.node (o452_73 p P) .nil .nil))) (.node (o100_29 p P) (.node (o164_29 p P) (.node (o292_51 p P) (.node (o548_87 p P) .nil .nil) .nil) (.node (o420_73 p P) .nil .nil)) (.node (o228_40 p P) (.node (o356_59 p P) (.node (o612_101 p P) .nil .nil) .nil) (.node (o484_87 p P) .nil .nil)))) (.node (o52_17 p P) (.node (o84_17 p P) (.node (o148_29 p P) (.node (o276_51 p P) (.node (o532_87 p P) .nil .nil) .nil) (.node (o404_73 p P) .nil .nil)) (.node (o212_35 p P) (.node (o340_59 p P) (.node (o596_101 p P) .nil .nil) .nil) (.node (o468_73 p P) .nil .nil))) (.node (o116_29 p P) (.node (o180_35 p P) (.node (o308_51 p P) (.node (o564_101 p P) .nil .nil) .nil) (.node (o436_73 p P) .nil .nil)) (.node (o244_40 p P) (.node (o372_59 p P) (.node (o628_101 p P) .nil .nil) .nil) (.node (o500_87 p P) .nil .nil))))) (.node (o28_17 p P) (.node (o44_17 p P) (.node (o76_17 p P) (.node (o140_29 p P) (.node (o268_40 p P) (.node (o524_87 p P) .nil .nil) .nil) (.node (o396_73 p P) .nil .nil)) (.node (o204_35 p P) (.node (o332_52 p P) (.node (o588_101 p P) .nil .nil) .nil) (.node (o460_73 p P) .nil .nil))) (.node (o108_29 p P) (.node (o172_29 p P) (.node (o300_51 p P) (.node (o556_87 p P) .nil .nil) .nil) (.node (o428_73 p P) .nil .nil)) (.node (o236_40 p P) (.node (o364_59 p P) (.node (o620_101 p P) .nil .nil) .nil) (.node (o492_87 p P) .nil .nil)))) (.node (o60_17 p P) (.node (o92_17 p P) (.node (o156_29 p P) (.node (o284_51 p P) (.node (o540_87 p P) .nil .nil) .nil) (.node (o412_73 p P) .nil .nil)) (.node (o220_40 p P) (.node (o348_59 p P) (.node (o604_101 p P) .nil .nil) .nil) (.node (o476_87 p P) .nil .nil))) (.node (o124_29 p P) (.node (o188_35 p P) (.node (o316_51 p P) (.node (o572_101 p P) .nil .nil) .nil) (.node (o444_73 p P) .nil .nil)) (.node (o252_40 p P) (.node (o380_59 p P) .nil .nil) (.node (o508_87 p P) .nil .nil))))))) (.node (boot_o_6 P) (.node (boot_o_10 P) (.node (o18_17 p P) (.node (o34_17 p P) (.node (o66_17 p P) (.node (o130_29 p P) (.node (o258_40 p P) (.node (o514_87 p P) .nil .nil) .nil) (.node (o386_59 p P) .nil .nil)) (.node (o194_35 p P) (.node (o322_51 p P) (.node (o578_101 p P) .nil .nil) .nil) (.node (o450_73 p P) .nil .nil))) (.node (o98_29 p P) (.node (o162_29 p P) (.node (o290_51 p P) (.node (o546_87 p P) .nil .nil) .nil) (.node (o418_73 p P) .nil .nil)) (.node (o226_40 p P) (.node (o354_59 p P) (.node (o610_101 p P) .nil .nil) .nil) (.node (o482_87 p P) .nil .nil)))) (.node (o50_17 p P) (.node (o82_17 p P) (.node (o146_29 p P) (.node (o274_51 p P) (.node (o530_87 p P) .nil .nil) .nil) (.node (o402_73 p P) .nil .nil)) (.node (o210_35 p P) (.node (o338_52 p P) (.node (o594_101 p P) .nil .nil) .nil) (.node (o466_73 p P) .nil .nil))) (.node (o114_29 p P) (.node (o178_35 p P) (.node (o306_51 p P) (.node (o562_101 p P) .nil .nil) .nil) (.node (o434_73 p P) .nil .nil)) (.node (o242_40 p P) (.node (o370_59 p P) (.node (o626_101 p P) .nil .nil) .nil) (.node (o498_87 p P) .nil .nil))))) (.node (o26_17 p P) (.node (o42_17 p P) (.node (o74_17 p P) (.node (o138_29 p P) (.node (o266_40 p P) (.node (o522_87 p P) .nil .nil) .nil) (.node (o394_73 p P) .nil .nil)) (.node (o202_35 p P) (.node (o330_52 p P) (.node (o586_101 p P) .nil .nil) .nil) (.node (o458_73 p P) .nil .nil))) (.node (o106_29 p P) (.node (o170_29 p P) (.node (o298_51 p P) (.node (o554_87 p P) .nil .nil) .nil) (.node (o426_73 p P) .nil .nil)) (.node (o234_40 p P) (.node (o362_59 p P) (.node (o618_101 p P) .nil .nil) .nil) (.node (o490_87 p P) .nil .nil)))) (.node (o58_17 p P) (.node (o90_17 p P) (.node (o154_29 p P) (.node (o282_51 p P) (.node (o538_87 p P) .nil .nil) .nil) (.node (o410_73 p P) .nil .nil)) (.node (o218_40 p P) (.node (o346_59 p P) (.node (o602_101 p P) .nil .nil) .nil) (.node (o474_87 p P) .nil .nil))) (.node (o122_29 p P) (.node (o186_35 p P) (.node (o314_51 p P) (.node (o570_101 p P) .nil .nil) .nil) (.node (o442_73 p P) .nil .nil)) (.node (o250_40 p P) (.node (o378_59 p P) .nil .nil) (.node (o506_87 p P) .nil .nil)))))) (.node (o14_B p P) (.node (o22_17 p P) (.node (o38_17 p P) (.node (o70_17 p P) (.node (o134_29 p P) (.node (o262_40 p P) (.node (o518_87 p P) .nil .nil) .nil) (.node (o390_73 p P) .nil .nil)) (.node (o198_35 p P) (.node (o326_51 p P) (.node (o582_101 p P) .nil .nil) .nil) (.node (o454_73 p P) .nil .nil))) (.node (o102_29 p P) (.node (o166_29 p P) (.node (o294_51 p P) (.node (o550_87 p P) .nil .nil) .nil) (.node (o422_73 p P) .nil .nil)) (.node (o230_40 p P) (.node (o358_59 p P) (.node (o614_101 p P) .nil .nil) .nil) (.node (o486_87 p P) .nil .nil)))) (.node (o54_17 p P) (.node (o86_17 p P) (.node (o150_29 p P) (.node (o278_51 p P) (.node (o534_87 p P) .nil .nil) .nil) (.node (o406_73 p P) .nil .nil)) (.node (o214_40 p P) (.node (o342_59 p P) (.node (o598_101 p P) .nil .nil) .nil) (.node (o470_73 p P) .nil .nil))) (.node (o118_29 p P) (.node (o182_35 p P) (.node (o310_51 p P) (.node (o566_101 p P) .nil .nil) .nil) (.node (o438_73 p P) .nil .nil)) (.node (o246_40 p P) (.node (o374_59 p P) (.node (o630_101 p P) .nil .nil) .nil) (.node (o502_87 p P) .nil .nil))))) (.node (o30_17 p P) (.node (o46_17 p P) (.node (o78_17 p P) (.node (o142_29 p P) (.node (o270_51 p P) (.node (o526_87 p P) .nil .nil) .nil) (.node (o398_73 p P) .nil .nil)) (.node (o206_35 p P) (.node (o334_52 p P) (.node (o590_101 p P) .nil .nil) .nil) (.node (o462_73 p P) .nil .nil))) (.node (o110_29 p P) (.node (o174_29 p P) (.node (o302_51 p P) (.node (o558_101 p P) .nil .nil) .nil) (.node (o430_73 p P) .nil .nil)) (.node (o238_40 p P) (.node (o366_59 p P) (.node (o622_101 p P) .nil .nil) .nil) (.node (o494_87 p P) .nil .nil)))) (.node (o62_17 p P) (.node (o94_17 p P) (.node (o158_29 p P) (.node (o286_51 p P) (.node (o542_87 p P) .nil .nil) .nil) (.node (o414_73 p P) .nil .nil)) (.node (o222_40 p P) (.node (o350_59 p P) (.node (o606_101 p P) .nil .nil) .nil) (.node (o478_87 p P) .nil .nil))) (.node (o126_29 p P) (.node (o190_35 p P) (.node (o318_51 p P) (.node (o574_101 p P) .nil .nil) .nil) (.node (o446_73 p P) .nil .nil)) (.node (o254_40 p P) (.node (o382_59 p P) .nil .nil) (.node (o510_87 p P) .nil .nil)))))))))
end
section
open PySem PySem.W PyProof.Rows
set_option maxHeartbeats 0
theorem q_17 : ∀ w : World, (fun os => PySem.W.Fast.tw10110043849684766642 PySem.W.Fast.tw14364793385576792824 pQ w 11 (some (.ref 6)) 1 396
    (⟨tr_B pQ w.params, 15, {}, ⟨[]⟩, {}, 187, os⟩ : SharedT) (piecesOf (stms pQ 0 17) (envH pQ) (cdH pQ) pos0 [topFrame pos0])) =
    fun os => some (Flow.next, (⟨tr_17 pQ w.params, 95, {}, ⟨[]⟩, {}, 292, os⟩ : SharedT), cdH pQ, (⟨58, 0, 68, 23⟩ : Pos)) := by intro w; kernel_rfl
theorem q_29 : ∀ w : World, (fun os => PySem.W.Fast.tw10110043849684766642 PySem.W.Fast.tw14364793385576792824 pQ w 11 (some (.ref 6)) 1 385
    (⟨tr_17 pQ w.params, 95, {}, ⟨[]⟩, {}, 292, os⟩ : SharedT) (piecesOf (stms pQ 17 12) (envH pQ) (cdH pQ) (⟨58, 0, 68, 23⟩ : Pos) [topFrame pos0])) =
    fun os => some (Flow.next, (⟨tr_29 pQ w.params, 178, {}, ⟨[]⟩, {}, 413, os⟩ : SharedT), cdH pQ, (⟨151, 0, 155, 16⟩ : Pos)) := by intro w; kernel_rfl
theorem q_35 : ∀ w : World, (fun os => PySem.W.Fast.tw10110043849684766642 PySem.W.Fast.tw14364793385576792824 pQ w 11 (some (.ref 6)) 1 178
    (⟨tr_29 pQ w.params, 178, {}, ⟨[]⟩, {}, 413, os⟩ : SharedT) (piecesOf (stms pQ 29 6) (envH pQ) (cdH pQ) (⟨151, 0, 155, 16⟩ : Pos) [topFrame pos0])) =
    fun os => some (Flow.next, (⟨tr_35 pQ w.params, 213, {}, ⟨[]⟩, {}, 473, os⟩ : SharedT), cdH pQ, (⟨229, 0, 229, 8⟩ : Pos)) := by intro w; kernel_rfl
theorem q_40 : ∀ w : World, (fun os => PySem.W.Fast.tw10110043849684766642 PySem.W.Fast.tw14364793385576792824 pQ w 11 (some (.ref 6)) 1 378
    (⟨tr_35 pQ w.params, 213, {}, ⟨[]⟩, {}, 473, os⟩ : SharedT) (piecesOf (stms pQ 35 5) (envH pQ) (cdH pQ) (⟨229, 0, 229, 8⟩ : Pos) [topFrame pos0])) =
    fun os => some (Flow.next, (⟨tr_40 pQ w.params, 270, {}, ⟨[]⟩, {}, 544, os⟩ : SharedT), cdH pQ, (⟨256, 0, 257, 66⟩ : Pos)) := by intro w; kernel_rfl
theorem q_51 : ∀ w : World, (fun os => PySem.W.Fast.tw10110043849684766642 PySem.W.Fast.tw14364793385576792824 pQ w 11 (some (.ref 6)) 1 276
    (⟨tr_40 pQ w.params, 270, {}, ⟨[]⟩, {}, 544, os⟩ : SharedT) (piecesOf (stms pQ 40 11) (envH pQ) (cdH pQ) (⟨256, 0, 257, 66⟩ : Pos) [topFrame pos0])) =
    fun os => some (Flow.next, (⟨tr_51 pQ w.params, 327, {}, ⟨[]⟩, {}, 613, os⟩ : SharedT), cdH pQ, (⟨316, 0, 316, 8⟩ : Pos)) := by intro w; kernel_rfl
theorem q_52 : ∀ w : World, (fun os => PySem.W.Fast.tw10110043849684766642 PySem.W.Fast.tw14364793385576792824 pQ w 11 (some (.ref 6)) 1 197
    (⟨tr_51 pQ w.params, 327, {}, ⟨[]⟩, {}, 613, os⟩ : SharedT) (piecesOf (stms pQ 51 1) (envH pQ) (cdH pQ) (⟨316, 0, 316, 8⟩ : Pos) [topFrame pos0])) =
    fun os => some (Flow.next, (⟨tr_52 pQ w.params, 340, {}, ⟨[]⟩, {}, 633, os⟩ : SharedT), cdH pQ, (⟨317, 0, 318, 8⟩ : Pos)) := by intro w; kernel_rfl
theorem q_59 : ∀ w : World, (fun os => PySem.W.Fast.tw10110043849684766642 PySem.W.Fast.tw14364793385576792824 pQ w 11 (some (.ref 6)) 1 385
    (⟨tr_52 pQ w.params, 340, {}, ⟨[]⟩, {}, 633, os⟩ : SharedT) (piecesOf (stms pQ 52 7) (envH pQ) (cdH pQ) (⟨317, 0, 318, 8⟩ : Pos) [topFrame pos0])) =
    fun os => some (Flow.next, (⟨tr_59 pQ w.params, 387, {}, ⟨[]⟩, {}, 695, os⟩ : SharedT), cdH pQ, (⟨339, 0, 344, 15⟩ : Pos)) := by intro w; kernel_rfl
theorem q_73 : ∀ w : World, (fun os => PySem.W.Fast.tw10110043849684766642 PySem.W.Fast.tw14364793385576792824 pQ w 11 (some (.ref 6)) 1 400
    (⟨tr_59 pQ w.params, 387, {}, ⟨[]⟩, {}, 695, os⟩ : SharedT) (piecesOf (stms pQ 59 14) (envH pQ) (cdH pQ) (⟨339, 0, 344, 15⟩ : Pos) [topFrame pos0])) =
    fun os => some (Flow.next, (⟨tr_73 pQ w.params, 474, {}, ⟨[]⟩, {}, 805, os⟩ : SharedT), cdH pQ, (⟨440, 0, 440, 8⟩ : Pos)) := by intro w; kernel_rfl
theorem q_87 : ∀ w : World, (fun os => PySem.W.Fast.tw10110043849684766642 PySem.W.Fast.tw14364793385576792824 pQ w 11 (some (.ref 6)) 1 397
    (⟨tr_73 pQ w.params, 474, {}, ⟨[]⟩, {}, 805, os⟩ : SharedT) (piecesOf (stms pQ 73 14) (envH pQ) (cdH pQ) (⟨440, 0, 440, 8⟩ : Pos) [topFrame pos0])) =
    fun os => some (Flow.next, (⟨tr_87 pQ w.params, 558, {}, ⟨[]⟩, {}, 923, os⟩ : SharedT), cdH pQ, (⟨525, 0, 540, 16⟩ : Pos)) := by intro w; kernel_rfl
theorem q_101 : ∀ w : World, (fun os => PySem.W.Fast.tw10110043849684766642 PySem.W.Fast.tw14364793385576792824 pQ w 11 (some (.ref 6)) 1 373
    (⟨tr_87 pQ w.params, 558, {}, ⟨[]⟩, {}, 923, os⟩ : SharedT) (piecesOf (stms pQ 87 14) (envH pQ) (cdH pQ) (⟨525, 0, 540, 16⟩ : Pos) [topFrame pos0])) =
    fun os => some (Flow.next, (⟨tr_101 pQ w.params, 633, {}, ⟨[]⟩, {}, 1018, os⟩ : SharedT), cdH pQ, (⟨599, 0, 631, 49⟩ : Pos)) := by intro w; kernel_rfl
end
section
open PySem PySem.W PyProof.Rows
theorem q_pre : ∀ w : World, (fun os => PySem.W.Fast.tw15667345088766844465 PySem.W.Fast.tw14364793385576792824 pQ w 11 (some (.ref 6)) 12 (⟨boot_heap w.params, ⟨[]⟩, boot_drawn, boot_toks, os⟩ : Shared) (topStub pQ)) =
    fun os => some ((⟨tr_B pQ w.params, 15, {}, ⟨[]⟩, {}, 187, os⟩ : SharedT).abs, (⟨PySem.W.Fast.tw11892475500146522536 PySem.W.Fast.tw14364793385576792824 (cdH pQ), cdH pQ, pos0, [topFrame pos0]⟩ : Thread)) := by intro w; kernel_rfl
theorem q_block : ∀ w : World, (fun os => PySem.W.Fast.tw14374325043358763698 PySem.W.Fast.tw14364793385576792824 pQ w 11 (some (.ref 6)) 1 1 (⟨tr_B pQ w.params, 15, {}, ⟨[]⟩, {}, 187, os⟩ : SharedT).abs (blockOf (behindTheImports pQ) (envH pQ) (cdH pQ) pos0 [topFrame pos0])) =
    fun os => some (Flow.next, (⟨tr_B pQ w.params, 15, {}, ⟨[]⟩, {}, 187, os⟩ : SharedT).abs, cdH pQ, pos0) := by intro w; kernel_rfl
theorem q_fin : ∀ w : World, (fun os => PySem.W.Fast.tw14082659384304107361 PySem.W.Fast.tw14364793385576792824 pQ w 11 (some (.ref 6)) 2 (⟨tr_101 pQ w.params, 633, {}, ⟨[]⟩, {}, 1018, os⟩ : SharedT).abs (⟨doneF Flow.next, cdH pQ, (⟨599, 0, 631, 49⟩ : Pos), [topFrame pos0]⟩ : Thread)) =
    fun os => some (⟨tr_101 pQ w.params, 633, {}, ⟨[]⟩, {}, 1018, os⟩ : SharedT).abs := by intro w; kernel_rfl
theorem r_17 (w : World) (os : OsState) : segRun treeTable pQ w 11 (some (.ref 6)) 1 396 (⟨tr_B pQ w.params, 15, {}, ⟨[]⟩, {}, 187, os⟩ : SharedT).abs (piecesOf (stms pQ 0 17) (envH pQ) (cdH pQ) pos0 [topFrame pos0]) =
    some (Flow.next, (⟨tr_17 pQ w.params, 95, {}, ⟨[]⟩, {}, 292, os⟩ : SharedT).abs, cdH pQ, (⟨58, 0, 68, 23⟩ : Pos)) := by
  have h := congrFun (q_17 w) os
  rw [← PySem.W.Fast.te10110043849684766642, ← PySem.W.Fast.te14364793385576792824] at h
  exact segRun_of h
theorem r_29 (w : World) (os : OsState) : segRun treeTable pQ w 11 (some (.ref 6)) 1 385 (⟨tr_17 pQ w.params, 95, {}, ⟨[]⟩, {}, 292, os⟩ : SharedT).abs (piecesOf (stms pQ 17 12) (envH pQ) (cdH pQ) (⟨58, 0, 68, 23⟩ : Pos) [topFrame pos0]) =
    some (Flow.next, (⟨tr_29 pQ w.params, 178, {}, ⟨[]⟩, {}, 413, os⟩ : SharedT).abs, cdH pQ, (⟨151, 0, 155, 16⟩ : Pos)) := by
  have h := congrFun (q_29 w) os
  rw [← PySem.W.Fast.te10110043849684766642, ← PySem.W.Fast.te14364793385576792824] at h
  exact segRun_of h
theorem r_35 (w : World) (os : OsState) : segRun treeTable pQ w 11 (some (.ref 6)) 1 178 (⟨tr_29 pQ w.params, 178, {}, ⟨[]⟩, {}, 413, os⟩ : SharedT).abs (piecesOf (stms pQ 29 6) (envH pQ) (cdH pQ) (⟨151, 0, 155, 16⟩ : Pos) [topFrame pos0]) =
    some (Flow.next, (⟨tr_35 pQ w.params, 213, {}, ⟨[]⟩, {}, 473, os⟩ : SharedT).abs, cdH pQ, (⟨229, 0, 229, 8⟩ : Pos)) := by
  have h := congrFun (q_35 w) os
  rw [← PySem.W.Fast.te10110043849684766642, ← PySem.W.Fast.te14364793385576792824] at h
  exact segRun_of h
theorem r_40 (w : World) (os : OsState) : segRun treeTable pQ w 11 (some (.ref 6)) 1 378 (⟨tr_35 pQ w.params, 213, {}, ⟨[]⟩, {}, 473, os⟩ : SharedT).abs (piecesOf (stms pQ 35 5) (envH pQ) (cdH pQ) (⟨229, 0, 229, 8⟩ : Pos) [topFrame pos0]) =
    some (Flow.next, (⟨tr_40 pQ w.params, 270, {}, ⟨[]⟩, {}, 544, os⟩ : SharedT).abs, cdH pQ, (⟨256, 0, 257, 66⟩ : Pos)) := by
  have h := congrFun (q_40 w) os
  rw [← PySem.W.Fast.te10110043849684766642, ← PySem.W.Fast.te14364793385576792824] at h
  exact segRun_of h
theorem r_51 (w : World) (os : OsState) : segRun treeTable pQ w 11 (some (.ref 6)) 1 276 (⟨tr_40 pQ w.params, 270, {}, ⟨[]⟩, {}, 544, os⟩ : SharedT).abs (piecesOf (stms pQ 40 11) (envH pQ) (cdH pQ) (⟨256, 0, 257, 66⟩ : Pos) [topFrame pos0]) =
    some (Flow.next, (⟨tr_51 pQ w.params, 327, {}, ⟨[]⟩, {}, 613, os⟩ : SharedT).abs, cdH pQ, (⟨316, 0, 316, 8⟩ : Pos)) := by
  have h := congrFun (q_51 w) os
  rw [← PySem.W.Fast.te10110043849684766642, ← PySem.W.Fast.te14364793385576792824] at h
  exact segRun_of h
theorem r_52 (w : World) (os : OsState) : segRun treeTable pQ w 11 (some (.ref 6)) 1 197 (⟨tr_51 pQ w.params, 327, {}, ⟨[]⟩, {}, 613, os⟩ : SharedT).abs (piecesOf (stms pQ 51 1) (envH pQ) (cdH pQ) (⟨316, 0, 316, 8⟩ : Pos) [topFrame pos0]) =
    some (Flow.next, (⟨tr_52 pQ w.params, 340, {}, ⟨[]⟩, {}, 633, os⟩ : SharedT).abs, cdH pQ, (⟨317, 0, 318, 8⟩ : Pos)) := by
  have h := congrFun (q_52 w) os
  rw [← PySem.W.Fast.te10110043849684766642, ← PySem.W.Fast.te14364793385576792824] at h
  exact segRun_of h
theorem r_59 (w : World) (os : OsState) : segRun treeTable pQ w 11 (some (.ref 6)) 1 385 (⟨tr_52 pQ w.params, 340, {}, ⟨[]⟩, {}, 633, os⟩ : SharedT).abs (piecesOf (stms pQ 52 7) (envH pQ) (cdH pQ) (⟨317, 0, 318, 8⟩ : Pos) [topFrame pos0]) =
    some (Flow.next, (⟨tr_59 pQ w.params, 387, {}, ⟨[]⟩, {}, 695, os⟩ : SharedT).abs, cdH pQ, (⟨339, 0, 344, 15⟩ : Pos)) := by
  have h := congrFun (q_59 w) os
  rw [← PySem.W.Fast.te10110043849684766642, ← PySem.W.Fast.te14364793385576792824] at h
  exact segRun_of h
theorem r_73 (w : World) (os : OsState) : segRun treeTable pQ w 11 (some (.ref 6)) 1 400 (⟨tr_59 pQ w.params, 387, {}, ⟨[]⟩, {}, 695, os⟩ : SharedT).abs (piecesOf (stms pQ 59 14) (envH pQ) (cdH pQ) (⟨339, 0, 344, 15⟩ : Pos) [topFrame pos0]) =
    some (Flow.next, (⟨tr_73 pQ w.params, 474, {}, ⟨[]⟩, {}, 805, os⟩ : SharedT).abs, cdH pQ, (⟨440, 0, 440, 8⟩ : Pos)) := by
  have h := congrFun (q_73 w) os
  rw [← PySem.W.Fast.te10110043849684766642, ← PySem.W.Fast.te14364793385576792824] at h
  exact segRun_of h
theorem r_87 (w : World) (os : OsState) : segRun treeTable pQ w 11 (some (.ref 6)) 1 397 (⟨tr_73 pQ w.params, 474, {}, ⟨[]⟩, {}, 805, os⟩ : SharedT).abs (piecesOf (stms pQ 73 14) (envH pQ) (cdH pQ) (⟨440, 0, 440, 8⟩ : Pos) [topFrame pos0]) =
    some (Flow.next, (⟨tr_87 pQ w.params, 558, {}, ⟨[]⟩, {}, 923, os⟩ : SharedT).abs, cdH pQ, (⟨525, 0, 540, 16⟩ : Pos)) := by
  have h := congrFun (q_87 w) os
  rw [← PySem.W.Fast.te10110043849684766642, ← PySem.W.Fast.te14364793385576792824] at h
  exact segRun_of h
theorem r_101 (w : World) (os : OsState) : segRun treeTable pQ w 11 (some (.ref 6)) 1 373 (⟨tr_87 pQ w.params, 558, {}, ⟨[]⟩, {}, 923, os⟩ : SharedT).abs (piecesOf (stms pQ 87 14) (envH pQ) (cdH pQ) (⟨525, 0, 540, 16⟩ : Pos) [topFrame pos0]) =
    some (Flow.next, (⟨tr_101 pQ w.params, 633, {}, ⟨[]⟩, {}, 1018, os⟩ : SharedT).abs, cdH pQ, (⟨599, 0, 631, 49⟩ : Pos)) := by
  have h := congrFun (q_101 w) os
  rw [← PySem.W.Fast.te10110043849684766642, ← PySem.W.Fast.te14364793385576792824] at h
  exact segRun_of h
theorem body_eq : behindTheImports pQ = stms pQ 0 17 ++ (stms pQ 17 12 ++ (stms pQ 29 6 ++ (stms pQ 35 5 ++ (stms pQ 40 11 ++ (stms pQ 51 1 ++ (stms pQ 52 7 ++ (stms pQ 59 14 ++ (stms pQ 73 14 ++ (stms pQ 87 14 ++ []))))))))) := by kernel_rfl
theorem run_pQ (w : World) (os : OsState) : topRun treeTable pQ w 11 (some (.ref 6)) (12 + (1 + (396 + (385 + (178 + (378 + (276 + (197 + (385 + (400 + (397 + (373 + 2)))))))))))) (⟨boot_heap w.params, ⟨[]⟩, boot_drawn, boot_toks, os⟩ : Shared) (topStub pQ) = some (⟨tr_101 pQ w.params, 633, {}, ⟨[]⟩, {}, 1018, os⟩ : SharedT).abs := by
  have h0 := congrFun (q_pre w) os
  have h1 := congrFun (q_block w) os
  have h2 := congrFun (q_fin w) os
  rw [← PySem.W.Fast.te15667345088766844465, ← PySem.W.Fast.te14364793385576792824, ← PySem.W.Fast.te11892475500146522536] at h0
  rw [← PySem.W.Fast.te14374325043358763698, ← PySem.W.Fast.te14364793385576792824] at h1
  rw [← PySem.W.Fast.te14082659384304107361, ← PySem.W.Fast.te14364793385576792824] at h2
  refine go_top h0 (piece_block (q := pos0) h1 ?_)
  rw [body_eq]
  exact piece_app (q := pos0) (r_17 w os) (piece_app (q := pos0) (r_29 w os) (piece_app (q := pos0) (r_35 w os) (piece_app (q := pos0) (r_40 w os) (piece_app (q := pos0) (r_51 w os) (piece_app (q := pos0) (r_52 w os) (piece_app (q := pos0) (r_59 w os) (piece_app (q := pos0) (r_73 w os) (piece_app (q := pos0) (r_87 w os) (piece_app (q := pos0) (r_101 w os) h2)))))))))
end
section
open PySem PySem.W PyProof.Rows
noncomputable def KL (p : Program) (P : Params) : Frag := (nat_lit 2, o2_52 p P) :: (nat_lit 3, o3_101 p P) :: (nat_lit 44, o44_17 p P) :: (nat_lit 45, o45_17 p P) :: (nat_lit 220, o220_40 p P) :: (nat_lit 221, o221_40 p P) :: (nat_lit 223, o223_40 p P) :: (nat_lit 224, o224_40 p P) :: (nat_lit 226, o226_40 p P) :: (nat_lit 227, o227_40 p P) :: (nat_lit 228, o228_40 p P) :: (nat_lit 230, o230_40 p P) :: (nat_lit 231, o231_40 p P) :: (nat_lit 233, o233_40 p P) :: (nat_lit 234, o234_40 p P) :: (nat_lit 235, o235_40 p P) :: (nat_lit 236, o236_40 p P) :: (nat_lit 237, o237_40 p P) :: (nat_lit 238, o238_40 p P) :: (nat_lit 239, o239_40 p P) :: (nat_lit 261, o261_40 p P) :: (nat_lit 262, o262_40 p P) :: (nat_lit 282, o282_51 p P) :: (nat_lit 283, o283_51 p P) :: (nat_lit 306, o306_51 p P) :: (nat_lit 307, o307_51 p P) :: (nat_lit 313, o313_51 p P) :: (nat_lit 314, o314_51 p P) :: (nat_lit 325, o325_51 p P) :: (nat_lit 326, o326_51 p P) :: (nat_lit 364, o364_59 p P) :: (nat_lit 365, o365_59 p P) :: (nat_lit 371, o371_59 p P) :: (nat_lit 372, o372_59 p P) :: (nat_lit 420, o420_73 p P) :: (nat_lit 421, o421_73 p P) :: (nat_lit 434, o434_73 p P) :: (nat_lit 435, o435_73 p P) :: (nat_lit 441, o441_73 p P) :: (nat_lit 442, o442_73 p P) :: (nat_lit 467, o467_73 p P) :: (nat_lit 468, o468_73 p P) :: (nat_lit 472, o472_73 p P) :: (nat_lit 473, o473_73 p P) :: (nat_lit 528, o528_87 p P) :: (nat_lit 529, o529_87 p P) :: (nat_lit 535, o535_87 p P) :: (nat_lit 536, o536_87 p P) :: (nat_lit 542, o542_87 p P) :: (nat_lit 543, o543_87 p P) :: (nat_lit 556, o556_87 p P) :: (nat_lit 557, o557_87 p P) :: (nat_lit 561, o561_101 p P) :: (nat_lit 562, o562_101 p P) :: (nat_lit 568, o568_101 p P) :: (nat_lit 569, o569_101 p P) :: (nat_lit 575, o575_101 p P) :: (nat_lit 576, o576_101 p P) :: (nat_lit 580, o580_101 p P) :: (nat_lit 581, o581_101 p P) :: (nat_lit 585, o585_101 p P) :: (nat_lit 586, o586_101 p P) :: (nat_lit 592, o592_101 p P) :: (nat_lit 593, o593_101 p P) :: (nat_lit 597, o597_101 p P) :: (nat_lit 598, o598_101 p P) :: (nat_lit 602, o602_101 p P) :: (nat_lit 603, o603_101 p P) :: (nat_lit 609, o609_101 p P) :: (nat_lit 610, o610_101 p P) :: (nat_lit 616, o616_101 p P) :: (nat_lit 617, o617_101 p P) :: (nat_lit 621, o621_101 p P) :: (nat_lit 622, o622_101 p P) :: (nat_lit 626, o626_101 p P) :: (nat_lit 627, o627_101 p P) :: (nat_lit 631, o631_101 p P) :: (nat_lit 632, o632_101 p P) :: []
noncomputable def KW (P : Params) : Frag := (nat_lit 2, o2_52 PySem.Challenge.pw_pq1330_01 P) :: (nat_lit 3, o3_101 PySem.Challenge.pw_pq1330_01 P) :: (nat_lit 44, o44_17 PySem.Challenge.pw_pq1330_01 P) :: (nat_lit 45, o45_17 PySem.Challenge.pw_pq1330_01 P) :: (nat_lit 220, o220_40 PySem.Challenge.pw_pq1330_01 P) :: (nat_lit 221, o221_40 PySem.Challenge.pw_pq1330_01 P) :: (nat_lit 223, o223_40 PySem.Challenge.pw_pq1330_01 P) :: (nat_lit 224, o224_40 PySem.Challenge.pw_pq1330_01 P) :: (nat_lit 226, o226_40 PySem.Challenge.pw_pq1330_01 P) :: (nat_lit 227, o227_40 PySem.Challenge.pw_pq1330_01 P) :: (nat_lit 228, o228_40 PySem.Challenge.pw_pq1330_01 P) :: (nat_lit 230, o230_40 PySem.Challenge.pw_pq1330_01 P) :: (nat_lit 231, o231_40 PySem.Challenge.pw_pq1330_01 P) :: (nat_lit 233, o233_40 PySem.Challenge.pw_pq1330_01 P) :: (nat_lit 234, o234_40 PySem.Challenge.pw_pq1330_01 P) :: (nat_lit 235, o235_40 PySem.Challenge.pw_pq1330_01 P) :: (nat_lit 236, o236_40 PySem.Challenge.pw_pq1330_01 P) :: (nat_lit 237, o237_40 PySem.Challenge.pw_pq1330_01 P) :: (nat_lit 238, o238_40 PySem.Challenge.pw_pq1330_01 P) :: (nat_lit 239, o239_40 PySem.Challenge.pw_pq1330_01 P) :: (nat_lit 261, o261_40 PySem.Challenge.pw_pq1330_01 P) :: (nat_lit 262, o262_40 PySem.Challenge.pw_pq1330_01 P) :: (nat_lit 282, o282_51 PySem.Challenge.pw_pq1330_01 P) :: (nat_lit 283, o283_51 PySem.Challenge.pw_pq1330_01 P) :: (nat_lit 306, o306_51 PySem.Challenge.pw_pq1330_01 P) :: (nat_lit 307, o307_51 PySem.Challenge.pw_pq1330_01 P) :: (nat_lit 313, o313_51 PySem.Challenge.pw_pq1330_01 P) :: (nat_lit 314, o314_51 PySem.Challenge.pw_pq1330_01 P) :: (nat_lit 325, o325_51 PySem.Challenge.pw_pq1330_01 P) :: (nat_lit 326, o326_51 PySem.Challenge.pw_pq1330_01 P) :: (nat_lit 364, o364_59 PySem.Challenge.pw_pq1330_01 P) :: (nat_lit 365, o365_59 PySem.Challenge.pw_pq1330_01 P) :: (nat_lit 371, o371_59 PySem.Challenge.pw_pq1330_01 P) :: (nat_lit 372, o372_59 PySem.Challenge.pw_pq1330_01 P) :: (nat_lit 420, o420_73 PySem.Challenge.pw_pq1330_01 P) :: (nat_lit 421, o421_73 PySem.Challenge.pw_pq1330_01 P) :: (nat_lit 434, o434_73 PySem.Challenge.pw_pq1330_01 P) :: (nat_lit 435, o435_73 PySem.Challenge.pw_pq1330_01 P) :: (nat_lit 441, o441_73 PySem.Challenge.pw_pq1330_01 P) :: (nat_lit 442, o442_73 PySem.Challenge.pw_pq1330_01 P) :: (nat_lit 467, o467_73 PySem.Challenge.pw_pq1330_01 P) :: (nat_lit 468, o468_73 PySem.Challenge.pw_pq1330_01 P) :: (nat_lit 472, o472_73 PySem.Challenge.pw_pq1330_01 P) :: (nat_lit 473, o473_73 PySem.Challenge.pw_pq1330_01 P) :: (nat_lit 528, o528_87 PySem.Challenge.pw_pq1330_01 P) :: (nat_lit 529, o529_87 PySem.Challenge.pw_pq1330_01 P) :: (nat_lit 535, o535_87 PySem.Challenge.pw_pq1330_01 P) :: (nat_lit 536, o536_87 PySem.Challenge.pw_pq1330_01 P) :: (nat_lit 542, o542_87 PySem.Challenge.pw_pq1330_01 P) :: (nat_lit 543, o543_87 PySem.Challenge.pw_pq1330_01 P) :: (nat_lit 556, o556_87 PySem.Challenge.pw_pq1330_01 P) :: (nat_lit 557, o557_87 PySem.Challenge.pw_pq1330_01 P) :: (nat_lit 561, o561_101 PySem.Challenge.pw_pq1330_01 P) :: (nat_lit 562, o562_101 PySem.Challenge.pw_pq1330_01 P) :: (nat_lit 568, o568_101 PySem.Challenge.pw_pq1330_01 P) :: (nat_lit 569, o569_101 PySem.Challenge.pw_pq1330_01 P) :: (nat_lit 575, o575_101 PySem.Challenge.pw_pq1330_01 P) :: (nat_lit 576, o576_101 PySem.Challenge.pw_pq1330_01 P) :: (nat_lit 580, o580_101 PySem.Challenge.pw_pq1330_01 P) :: (nat_lit 581, o581_101 PySem.Challenge.pw_pq1330_01 P) :: (nat_lit 585, o585_101 PySem.Challenge.pw_pq1330_01 P) :: (nat_lit 586, o586_101 PySem.Challenge.pw_pq1330_01 P) :: (nat_lit 592, o592_101 PySem.Challenge.pw_pq1330_01 P) :: (nat_lit 593, o593_101 PySem.Challenge.pw_pq1330_01 P) :: (nat_lit 597, o597_101 PySem.Challenge.pw_pq1330_01 P) :: (nat_lit 598, o598_101 PySem.Challenge.pw_pq1330_01 P) :: (nat_lit 602, o602_101 PySem.Challenge.pw_pq1330_01 P) :: (nat_lit 603, o603_101 PySem.Challenge.pw_pq1330_01 P) :: (nat_lit 609, o609_101 PySem.Challenge.pw_pq1330_01 P) :: (nat_lit 610, o610_101 PySem.Challenge.pw_pq1330_01 P) :: (nat_lit 616, o616_101 PySem.Challenge.pw_pq1330_01 P) :: (nat_lit 617, o617_101 PySem.Challenge.pw_pq1330_01 P) :: (nat_lit 621, o621_101 PySem.Challenge.pw_pq1330_01 P) :: (nat_lit 622, o622_101 PySem.Challenge.pw_pq1330_01 P) :: (nat_lit 626, o626_101 PySem.Challenge.pw_pq1330_01 P) :: (nat_lit 627, o627_101 PySem.Challenge.pw_pq1330_01 P) :: (nat_lit 631, o631_101 PySem.Challenge.pw_pq1330_01 P) :: (nat_lit 632, o632_101 PySem.Challenge.pw_pq1330_01 P) :: []
noncomputable def asK : List Addr := [nat_lit 2, nat_lit 3, nat_lit 44, nat_lit 45, nat_lit 220, nat_lit 221, nat_lit 223, nat_lit 224, nat_lit 226, nat_lit 227, nat_lit 228, nat_lit 230, nat_lit 231, nat_lit 233, nat_lit 234, nat_lit 235, nat_lit 236, nat_lit 237, nat_lit 238, nat_lit 239, nat_lit 261, nat_lit 262, nat_lit 282, nat_lit 283, nat_lit 306, nat_lit 307, nat_lit 313, nat_lit 314, nat_lit 325, nat_lit 326, nat_lit 364, nat_lit 365, nat_lit 371, nat_lit 372, nat_lit 420, nat_lit 421, nat_lit 434, nat_lit 435, nat_lit 441, nat_lit 442, nat_lit 467, nat_lit 468, nat_lit 472, nat_lit 473, nat_lit 528, nat_lit 529, nat_lit 535, nat_lit 536, nat_lit 542, nat_lit 543, nat_lit 556, nat_lit 557, nat_lit 561, nat_lit 562, nat_lit 568, nat_lit 569, nat_lit 575, nat_lit 576, nat_lit 580, nat_lit 581, nat_lit 585, nat_lit 586, nat_lit 592, nat_lit 593, nat_lit 597, nat_lit 598, nat_lit 602, nat_lit 603, nat_lit 609, nat_lit 610, nat_lit 616, nat_lit 617, nat_lit 621, nat_lit 622, nat_lit 626, nat_lit 627, nat_lit 631, nat_lit 632]
def keepL : List Nat := [100]
noncomputable def vw (p : Program) : Program := view p keepL
noncomputable def loosed : List Str := [Str.ofString "_wall", Str.ofString "NAN", Str.ofString "INF", Str.ofString "ZERO", Str.ofString "gcd", Str.ofString "make", Str.ofString "from_int", Str.ofString "is_na", Str.ofString "is_finite", Str.ofString "neg", Str.ofString "to_whole", Str.ofString "nearest_whole", Str.ofString "exponent", Str.ofString "MOST_EXPONENT", Str.ofString "whole_text", Str.ofString "special_text", Str.ofString "scaled", Str.ofString "significant", Str.ofString "without_tail", Str.ofString "scientific_text", Str.ofString "fixed_text", Str.ofString "measures", Str.ofString "chosen_form", Str.ofString "formed", Str.ofString "common_texts", Str.ofString "number_text", Str.ofString "digits_value", Str.ofString "digit_run", Str.ofString "exponent_value", Str.ofString "powered", Str.ofString "unsigned_number", Str.ofString "parse_number", Str.ofString "Vector", Str.ofString "character", Str.ofString "length", Str.ofString "is_vector", Str.ofString "is_atomic", Str.ofString "share", Str.ofString "get_attr", Str.ofString "label_text", Str.ofString "level_at", Str.ofString "label_texts", Str.ofString "names_of", Str.ofString "dim_of", Str.ofString "dimnames_of", Str.ofString "class_attr", Str.ofString "CoveError", Str.ofString "Refusal", Str.ofString "MOST_INTEGER", Str.ofString "kind_order", Str.ofString "common_kind", Str.ofString "note", Str.ofString "as_logical_text", Str.ofString "double_to_integer", Str.ofString "text_to_double", Str.ofString "to_logical", Str.ofString "to_integer", Str.ofString "to_double", Str.ofString "to_text", Str.ofString "item_as", Str.ofString "is_atomic_kind", Str.ofString "list_item_as", Str.ofString "refuse_type", Str.ofString "as_vector_kind", Str.ofString "with_names", Str.ofString "as_kind", Str.ofString "same_attrs", Str.ofString "same_items", Str.ofString "same_formals", Str.ofString "same_slots", Str.ofString "same_dots", Str.ofString "same_kernel", Str.ofString "identical", Str.ofString "is_factor", Str.ofString "item_key", Str.ofString "is_listed", Str.ofString "list_place", Str.ofString "first_places", Str.ofString "unique_places", Str.ofString "plain", Str.ofString "both_kinds", Str.ofString "match_places", Str.ofString "distinct", Str.ofString "union_of", Str.ofString "intersect_of", Str.ofString "setdiff_of", Str.ofString "same_sets", Str.ofString "_law_take", Str.ofString "_law_row", Str.ofString "_law_double"]
theorem asK_eq (P : Params) : asK = (KW P).map (·.1) := by kernel_rfl
theorem KW_eq : KW = KL PySem.Challenge.pw_pq1330_01 := rfl
noncomputable def XtL (p : Program) (s : Shared) : Bool := xlAt (vw p) [] s && recOk [] s
noncomputable def Sfin (p : Program) (P : Params) : Heap := absHeap (tr_101 p P) 633 {}
theorem q_size : ∀ w : World, ((boot_heap w.params).isNs mainGlobals && (⟨[]⟩ : Array GenState).size == 0, (boot_heap w.params).objs.size, (boot_heap w.params).nsMap mainGlobals "__annotations__") = (true, 11, some (.ref 6)) := by intro w; kernel_rfl
theorem q_open : opening pQ = plainProg pQ.main.scope.names := by kernel_rfl
theorem q_fence : ∀ s, fenceModules? pQ s = some s := by intro s; kernel_rfl
theorem q_hook : ∀ w : World, asK.map (Sfin pQ w.params).get? = (KL pQ w.params).map fun x => some x.2 := by intro w; kernel_rfl
end
section
open PySem PySem.W PyProof.Rows
theorem q_ok : ∀ w : World, (fun os : OsState => (staticsOk (importedModules pQ.main.body) (boot_heap w.params) (Sfin pQ w.params) && namesBound pQ (Sfin pQ w.params) && gensDone (⟨Sfin pQ w.params, ⟨[]⟩, {}, 1018, os⟩ : Shared) && laidKept (boot_heap w.params) (Sfin pQ w.params))) = fun _ => true := by intro w; kernel_rfl
theorem q_seen : ∀ w : World, (fun os : OsState => PySem.W.Fast.tw4187177175401517315 (vw pQ) loosed (importedModules pQ.main.body) (XtL pQ) true (⟨Sfin pQ w.params, ⟨[]⟩, {}, 1018, os⟩ : Shared)) = fun _ => openGood (vw pQ) loosed := by intro w; kernel_rfl
end
section
open PySem PySem.W PyProof.Rows
theorem left_pQ : LeftO pQ (vw pQ) loosed (XtL pQ) (fun s => asK.map s.heap.get?) (fun w => (KL pQ w.params).map fun x => some x.2) 6836 := by
  refine LeftO.of_pieces (H₀ := boot_heap) (H₁ := Sfin pQ) (gs₀ := ⟨[]⟩) (gs₁ := ⟨[]⟩) (d₀ := boot_drawn) (d₁ := {}) (k₀ := boot_toks) (k₁ := 1018) (m₀ := 11) (ann := some (.ref 6)) (boot_open q_open (by decide) q_fence) q_size run_pQ (by decide) fun w => ?_
  funext os
  have a := congrFun (q_ok w) os
  have b := congrFun (q_seen w) os
  have c := q_hook w
  rw [← PySem.W.Fast.te4187177175401517315] at b

  exact Prod.ext a (Prod.ext b c)
theorem left_pw : LeftO PySem.Challenge.pw_pq1330_01 (vw PySem.Challenge.pw_pq1330_01) loosed (XtL PySem.Challenge.pw_pq1330_01) (fun s => asK.map s.heap.get?) (fun w => (KL PySem.Challenge.pw_pq1330_01 w.params).map fun x => some x.2) 6836 := by
  rw [pQ_eq]; exact left_pQ
theorem wholeQ : pQ.tablesWhole = true := by kernel_rfl
theorem whole0 : PySem.Challenge.pw_pq1330_01.tablesWhole = true := by
  rw [pQ_eq]; exact wholeQ
theorem chainsQ : chainsOk (vw pQ) = true := by kernel_rfl
theorem chains0 : chainsOk (vw PySem.Challenge.pw_pq1330_01) = true := by
  rw [pQ_eq]; exact chainsQ
theorem top {d : DefRec} {kwd : List (Str × PySem.Expr)}
    (hdef : defOf (vw PySem.Challenge.pw_pq1330_01) (Str.ofString "law") = some (d, kwd)) (hp : PySem.Challenge.pw_pq1330_01.theDef (Str.ofString "law") = some (d.params, d.body, d.scope)) (hk : kwWritten? d.params.kwonlyargs d.params.kw_defaults = some kwd)
    (said : PySem.Challenge.rw_pq1330_01.wellSaid = true) (k1 : PySem.Challenge.rw_pq1330_01.row.wellSaid = true) (hw : PySem.Challenge.rw_pq1330_01.row.toRowW.promised)
    (call : WalkO (vw PySem.Challenge.pw_pq1330_01) loosed (XL (vw PySem.Challenge.pw_pq1330_01) []) (InK KW) PySem.Challenge.rw_pq1330_01.row.toRowW d kwd fun f vs => PySem.call f vs) : PySem.Challenge.rw_pq1330_01.Holds := by
  refine ⟨said, holds_open (r := PySem.Challenge.rw_pq1330_01.row) (q := vw PySem.Challenge.pw_pq1330_01) (loose := loosed) (Xt := XtL PySem.Challenge.pw_pq1330_01) (XP := XL (vw PySem.Challenge.pw_pq1330_01) []) (YP := InK KW) left_pw (fun w s e => InK.of asK_eq w s e) InK.keeps
    (fun s e => xl_of s (Bool.and_eq_true_iff.mp e).1) XL.keeps hdef hp hk (fun s e => recFacts_of (Bool.and_eq_true_iff.mp e).2) rfl k1 ?_ ⟨rfl, rfl, rfl, rfl, rfl, whole0⟩ hw call⟩
  simp only [Bool.and_eq_true]
  exact ⟨⟨chains0, opens0⟩, by decide +kernel⟩
end
section
open PySem PySem.W PyProof.Rows
noncomputable def rwQ : OpenLaw := { prog := pQ, name := Str.ofString "law", about := [Str.ofString "union_of"], foot := 4, most := some 63, bound := none, writes := false }
theorem rwQ_eq : PySem.Challenge.rw_pq1330_01 = rwQ := congrArg (fun q => ({ prog := q, name := Str.ofString "law", about := [Str.ofString "union_of"], foot := 4, most := some 63, bound := none, writes := false } : OpenLaw)) pQ_eq
theorem saidQ0 : rwQ.wellSaid = true := (congrFun PySem.W.Fast.te9446332074065402090 rwQ).trans (by kernel_rfl)
theorem said_fst (l : OpenLaw) (h : l.wellSaid = true) : l.row.wellSaid = true := by
  unfold OpenLaw.wellSaid at h
  simp only [Bool.and_eq_true] at h
  repeat (first | exact h | replace h := h.1)
theorem said0 : PySem.Challenge.rw_pq1330_01.wellSaid = true := by rw [rwQ_eq]; exact saidQ0
theorem said1 : PySem.Challenge.rw_pq1330_01.row.wellSaid = true := said_fst _ said0
end
section
open PySem PySem.W PySem.Calls PyProof.Rows
@[reducible] noncomputable def MM (w : World) : Model := model PySem.Challenge.rw_pq1330_01.row.prog w
@[reducible] noncomputable def VW : Program := vw PySem.Challenge.pw_pq1330_01
@[reducible] noncomputable def LS : List Str := looseW VW loosed
def Ext (h h' : Heap) : Prop := ∀ b o, h.get? b = some o → h'.get? b = some o
theorem Ext.refl (h : Heap) : Ext h h := fun _ _ e => e
theorem Ext.trans {a b c : Heap} (x : Ext a b) (y : Ext b c) : Ext a c := fun _ _ e => y _ _ (x _ _ e)
theorem fr_ext {g h : Heap} {L : Addr} {m} (F : Fr g L h m) : Ext g h := F.keep
theorem fr_by {g h h' : Heap} {L : Addr} {m} (F : Fr g L h m) (x : Ext h h') : Fr g L h' m := F.keeps x

structure Cx (w : World) (mg mb : Str → Option Value) (h : Heap) : Prop where
  X : (KW w.params).In h
  T : TopRead VW LS mg mb h
theorem Cx.ext {w mg mb} {h h' : Heap} (C : Cx w mg mb h) (x : Ext h h') : Cx w mg mb h' := ⟨C.X.keeps x, C.T.keeps x⟩

structure Room (A : Around) (d : Nat) : Prop where
  hnd : A.handled = none
  dep : A.depth + d < recursionLimit
  unit : A.units + 8 * d < cLine
theorem Room.le {A : Around} {d e : Nat} (R : Room A d) (h : e ≤ d) : Room A e := ⟨R.hnd, by have := R.dep; omega, by have := R.unit; omega⟩
theorem Room.deeper {A : Around} {d : Nat} {env : Env} (R : Room A (d + 1)) : Room (A.deeper env) d :=
  ⟨R.hnd, by have := R.dep; show A.depth + 1 + d < _; omega, by have := R.unit; show A.units + 3 + 8 * d < _; omega⟩

theorem newsBy {g h h' : Heap} {L : Addr} {news : List (Addr × Obj)} (N : News g L h news) (x : Ext h h') : News g L h' news := fun p hp => ⟨x _ _ (N p hp).1, (N p hp).2⟩
/-- what a call made: it stands now and did not stand before -/
def Fresh (h h' : Heap) (objs : List (Addr × Obj)) : Prop := ∀ p ∈ objs, h'.get? p.1 = some p.2 ∧ h.get? p.1 = none
theorem newsAdd {g h h' : Heap} {L : Addr} {m} {news objs : List (Addr × Obj)} (F : Fr g L h m) (N : News g L h news) (x : Ext h h') (y : Fresh h h' objs) : News g L h' (objs ++ news) := fun p hp => by
  rcases List.mem_append.mp hp with q | q
  · have z := y p q
    refine ⟨z.1, fun e => ?_, ?_⟩
    · obtain ⟨o, _, _, ho, _⟩ := F.ns; rw [e, ho] at z; cases z.2
    · cases r : g.get? p.1 with
      | none => rfl
      | some o => rw [F.keep _ _ r] at z; cases z.2
  · exact newsBy N x p q
theorem fresh_of {g h : Heap} {L : Addr} {news objs : List (Addr × Obj)} (N : News g L h news) (hs : ∀ p ∈ objs, p ∈ news) : Fresh g h objs := fun p hp => ⟨(N p (hs p hp)).1, (N p (hs p hp)).2.2⟩

def zipB (params : Arguments) (vs : List Value) : List (Str × Value) := (params.args.map (·.arg)).zip vs
section
variable {w : World} {mg mb : Str → Option Value} {A : Around} {d : Nat} {s : Shared} {R : Result → Shared → Prop} {name qual : Str} {params : Arguments} {body : List Stmt} {scope : Scope} {dV kV doc pm cdv ct oc : Value} {an od : Option Addr} {osl : Array (Option Value)} {f : Addr} {args : Args}
theorem enter {vs : List Value} (C : Cx w mg mb s.heap) (RM : Room A (d + 1))
    (ho : (KW w.params).lookup f = some ⟨oc, od, .func (fnOf name qual params body scope dV kV doc pm an cdv ct), osl⟩) (hcd : codeIn (KW w.params) cdv qual = true)
    (hbind : BindsTo s (fnOf name qual params body scope dV kV doc pm an cdv ct) ⟨vs, []⟩ (zipB params vs)) (hloc : ∀ y ∈ zipB params vs, scope.names.lookup y.1 = some .local)
    (h : ∀ L' h₁, Fr s.heap L' h₁ (fun y => (zipB params vs).reverse.lookup y) → News s.heap L' h₁ [] → Room (A.deeper (envOf qual scope L' f cdv)) d →
      wpAny (MM w) (A.deeper (envOf qual scope L' f cdv)) (execs body (envOf qual scope L' f cdv))
        (fun fl s' => R (.ok (.ret (match fl with | .ret v => v | _ => .none))) s') (fun _ _ => False) { s with heap := h₁, toks := s.toks + (zipB params vs).length })
    (hco : scope.isCoroutine = false) (hgen : scope.isGenerator = false) (hk : scope.kind = .function)
    (hcell : ∀ x ∈ scope.names, x.2 ≠ .cell) : codeAny (MM w) A (.call (.ref f) ⟨vs, []⟩) R s := by
  refine codeAny_call_def (fd := fnX name qual params body scope [] dV kV doc pm an cdv ct) (body := body) (binds := zipB params vs) (Nat.lt_of_le_of_lt (by omega) RM.dep) (C.X _ _ ho) rfl C.T.nolimit (codeRec_of C.X hcd) rfl hbind hcell hloc (fun h₁ hns hk₁ => ?_) hco hgen hk
  exact wpAny_mono (h _ h₁ ⟨hns, hk₁, Nat.le_refl _⟩ News.nil RM.deeper) (fun _ _ hl => hl) fun _ _ y => y.elim

theorem enterC {vs : List Value} (C : Cx w mg mb s.heap) (RM : Room A (d + 1))
    (ho : (KW w.params).lookup f = some ⟨oc, od, .func (fnOf name qual params body scope dV kV doc pm an cdv ct), osl⟩) (hcd : codeIn (KW w.params) cdv qual = true)
    (hbind : BindsTo s (fnOf name qual params body scope dV kV doc pm an cdv ct) ⟨vs, []⟩ (zipB params vs))
    (hkind : ((zipB params vs).all fun y => scope.names.lookup y.1 == some .local || scope.names.lookup y.1 == some .cell) = true)
    (hnd : ((cellsFrom 0 scope.names []).map (·.1)).Nodup)
    (h : ∀ L' h₁ tk cells, Fr s.heap L' h₁ (bindL (envOfC qual scope L' f cdv).kindOf (zipB params vs) fun _ => none) → News s.heap L' h₁ cells →
      CellsAre (bindC (envOfC qual scope L' f cdv).kindOf (zipB params vs) fun _ => none) (cellsFrom (L' + 1) scope.names []) cells → Room (A.deeper (envOfC qual scope L' f cdv)) d →
      wpAny (MM w) (A.deeper (envOfC qual scope L' f cdv)) (execs body (envOfC qual scope L' f cdv))
        (fun fl s' => R (.ok (.ret (match fl with | .ret v => v | _ => .none))) s') (fun _ _ => False) { s with heap := h₁, toks := tk })
    (hco : scope.isCoroutine = false) (hgen : scope.isGenerator = false) (hk : scope.kind = .function) : codeAny (MM w) A (.call (.ref f) ⟨vs, []⟩) R s := by
  refine codeAny_call_function (Nat.lt_of_le_of_lt (by omega) RM.dep) (C.X _ _ ho) rfl hco hgen rfl (codeRec_of C.X hcd) (hbind _ _ _ _ ?_)
  refine wpAny_newFunctionEnv_cells hk (kindsX hkind _) fun env' he s' x => ?_
  subst he
  refine ⟨C.T.nolimit.keeps x.toInCall.keep, codeAny_func ?_⟩
  obtain ⟨h₁, tk, rfl, _⟩ := x.done
  have hk₁ := x.toInCall.keep
  obtain ⟨cells, NC, Y⟩ := Cl.news (h₀ := s.heap) (Nat.le_refl _) fun n c hm => ⟨x.cell n c (lookup_of_mem_nodup (cellsFrom_names scope.names 0 (s.heap.objs.size + 1) [] [] rfl ▸ hnd) hm), x.above n c hm⟩
  exact wpAny_mono (h s.heap.objs.size h₁ tk cells ⟨x.toInCall.ns, hk₁, Nat.le_refl _⟩ NC Y RM.deeper) (fun _ _ hl => hl) fun _ _ y => y.elim
end

inductive Ents (es : List DictEntry) (k : Str) (l : Addr) : Prop
  | mk (h1 h2 h3 h4 h5 : Int) (t1 t2 t3 t4 t5 tk : Tok) (e : es = [⟨h1, .str (Str.ofString "kind") t1, .str k tk⟩, ⟨h2, .str (Str.ofString "items") t2, .ref l⟩, ⟨h3, .str (Str.ofString "attrs") t3, .none⟩, ⟨h4, .str (Str.ofString "shared") t4, .bool false⟩, ⟨h5, .str (Str.ofString "loose") t5, .bool false⟩]) : Ents es k l
/-- a Vector object: its kind, its list -/
structure VecAt (h : Heap) (a d : Addr) (es : List DictEntry) (n : Nat) (k : Str) (l : Addr) : Prop where
  inst : h.get? a = some (instObj 237 d)
  dict : h.get? d = some (dictOf es n)
  ents : Ents es k l
theorem inst_base {g h : Heap} {L a d : Addr} {m} {od : Obj} (F : Fr g L h m) (h1 : g.get? a = some (instObj 237 d)) (h2 : g.get? d = some od) : InstAt h a (instObj 237 d) 237 (some od) := ⟨F.keep _ _ h1, rfl, rfl, F.keep _ _ h2⟩
theorem VecAt.ext {h h' : Heap} {a d es n k l} (V : VecAt h a d es n k l) (x : Ext h h') : VecAt h' a d es n k l := ⟨x _ _ V.inst, x _ _ V.dict, V.ents⟩
/-- the call ends, keeps all that stood, and gives a value of which P holds -/
def Gives (w : World) (A : Around) (s : Shared) (f : Addr) (args : List Value) (P : Value → Heap → Prop) : Prop :=
  ∀ (Q : Value → Shared → Prop) (E : Value → Shared → Prop), (∀ v h' tk, Ext s.heap h' → P v h' → Q v { s with heap := h', toks := tk }) → wpAny (MM w) A (call (.ref f) args) Q E s

def Halt (P : Prop) : Prop := P
theorem halt {P : Prop} (h : Halt P) : P := h
theorem go {P : Prop} (h : P) : Halt P := h
theorem use {w : World} {A : Around} {s : Shared} {f : Addr} {args : List Value} {P : Value → Heap → Prop} {Q : Value → Shared → Prop} {E : Value → Shared → Prop} (G : Gives w A s f args P)
    (h : ∀ v h' tk, Ext s.heap h' → P v h' → Q v { s with heap := h', toks := tk }) : wpAny (MM w) A (call (.ref f) args) Q E s := G Q E h
end
section
open PySem PySem.W PySem.Calls PyProof.Rows
theorem fillK : (fun (_ : OpenLaw) (_ : Params → Frag) => True) PySem.Challenge.rw_pq1330_01 KW := by
  k_fill
  trivial
local macro_rules | `(tactic| k_inst) => `(tactic| (refine' inst_base ?F ?h1 ?h2; (case F => k_asm); (case h1 => k_asm); (case h2 => k_asm)))
local macro_rules | `(tactic| walk_at "MINE enter") => `(tactic| (
  refine wpAny_call ?_
  refine' enter ?C ?RM ?ho ?hcd ?hb ?hl ?_ ?c1 ?c2 ?c3 ?c4
  (case C => assumption)
  (case RM => assumption)
  (case ho => k_is)
  (case hcd => k_is)
  (case hb => exact BindsTo.of_eq rfl)
  (case hl => exact locs rfl)
  (case c1 => rfl)
  (case c2 => rfl)
  (case c3 => rfl)
  (case c4 => decide)
  (intro L' h₁ F N RM')
  (dsimp only [zipB, List.map_cons, List.map_nil, List.zip_cons_cons, List.zip_nil_left, List.zip_nil_right, List.length_cons, List.length_nil] at F ⊢)))
local macro_rules | `(tactic| walk_at "MINE enterC") => `(tactic| (
  refine wpAny_call ?_
  refine' enterC ?C ?RM ?ho ?hcd ?hb ?hl ?hn ?_ ?c1 ?c2 ?c3
  (case C => assumption)
  (case RM => assumption)
  (case ho => k_is)
  (case hcd => k_is)
  (case hb => exact BindsTo.of_eq rfl)
  (case hl => exact rfl)
  (case hn => decide +kernel)
  (case c1 => rfl)
  (case c2 => rfl)
  (case c3 => rfl)
  (intro L' h₁ tk' cells' F N Y' RM')
  (k_cells Y')
  (dsimp only [zipB, List.map_cons, List.map_nil, List.zip_cons_cons, List.zip_nil_left, List.zip_nil_right, List.length_cons, List.length_nil] at F N ⊢)))
local macro_rules | `(tactic| walk_at $s:str) => if ["call ref", "eval ListComp", "exec Assign cons ListComp", "exec For", "exec For Name Call cons nil", "exec For Name List cons nil", "exec For Name Name cons nil", "call type:list"].contains s.getString then `(tactic| refine halt ?_) else Lean.Macro.throwUnsupported
section
theorem is_vec {w : World} {mg mb} {A : Around} {s : Shared} {a d es n k l} (C : Cx w mg mb s.heap) (RM : Room A 2) (V : VecAt s.heap a d es n k l) : Gives w A s 262 [.ref a] fun v _ => v = .bool true := by
  intro Q E h
  have V' := V
  obtain ⟨V1, V2, h1V, h2V, h3V, h4V, h5V, t1V, t2V, t3V, t4V, t5V, tkV, rfl⟩ := V'
  have ⟨X, T⟩ := C
  obtain ⟨hd', dp', fr', gd', un'⟩ := A
  obtain rfl : hd' = none := RM.hnd
  walk_at "MINE enter"
  rename Room _ _ => RM'
  repeat' walk1
  all_goals (try k_data)
  rename Fr _ _ _ _ => F
  exact h _ _ _ F.keep rfl

theorem get_attr {w : World} {mg mb} {A : Around} {s : Shared} {a d es n k l nm tn} (C : Cx w mg mb s.heap) (RM : Room A 2) (V : VecAt s.heap a d es n k l) : Gives w A s 283 [.ref a, .str nm tn] fun v _ => v = .none := by
  intro Q E h
  have V' := V
  obtain ⟨V1, V2, h1V, h2V, h3V, h4V, h5V, t1V, t2V, t3V, t4V, t5V, tkV, rfl⟩ := V'
  have ⟨X, T⟩ := C
  obtain ⟨hd', dp', fr', gd', un'⟩ := A
  obtain rfl : hd' = none := RM.hnd
  walk_at "MINE enter"
  rename Room _ _ => RM'
  repeat' walk1
  all_goals (try k_data)
  rename Fr _ _ _ _ => F
  exact h _ _ _ F.keep rfl

theorem dim_of {w : World} {mg mb} {A : Around} {s : Shared} {a d es n k l} (C : Cx w mg mb s.heap) (RM : Room A 3) (V : VecAt s.heap a d es n k l) : Gives w A s 314 [.ref a] fun v _ => v = .none := by
  intro Q E h
  have ⟨X, T⟩ := C
  obtain ⟨hd', dp', fr', gd', un'⟩ := A
  obtain rfl : hd' = none := RM.hnd
  walk_at "MINE enter"
  rename Room _ _ => RM'
  repeat' walk1
  all_goals (try k_data)
  rename Fr _ _ _ _ => F
  rename News _ _ _ _ => N
  refine go (use (get_attr (C.ext F.keep) RM' (V.ext F.keep)) fun v h' tk x p => ?_)
  subst p
  dsimp only at x
  replace F := fr_by F x
  replace N := newsBy N x
  clear x
  repeat' walk1
  all_goals (try k_data)
  rename Fr _ _ _ _ => F
  exact h _ _ _ F.keep rfl

inductive Kind where
  | lgl | int | dbl | chr
@[reducible] def Kind.str : Kind → Str
  | .lgl => Str.ofString "logical"
  | .int => Str.ofString "integer"
  | .dbl => Str.ofString "double"
  | .chr => Str.ofString "character"

theorem names_of {w : World} {mg mb} {A : Around} {s : Shared} {a d es n l} {kd : Kind} (C : Cx w mg mb s.heap) (RM : Room A 4) (V : VecAt s.heap a d es n kd.str l) : Gives w A s 307 [.ref a] fun v _ => v = .none := by
  intro Q E h
  have V' := V
  obtain ⟨V1, V2, h1V, h2V, h3V, h4V, h5V, t1V, t2V, t3V, t4V, t5V, tkV, rfl⟩ := V'
  have ⟨X, T⟩ := C
  obtain ⟨hd', dp', fr', gd', un'⟩ := A
  obtain rfl : hd' = none := RM.hnd
  walk_at "MINE enter"
  rename Room _ _ => RM'
  cases kd <;> (dsimp only [Kind.str] at V V2)
  all_goals
    repeat' walk1
    all_goals (try k_data)
    rename Fr _ _ _ _ => F
    rename News _ _ _ _ => N
    refine go (use (dim_of (C.ext F.keep) RM' (V.ext F.keep)) fun v h' tk x p => ?_)
    subst p
    dsimp only at x
    replace F := fr_by F x
    replace N := newsBy N x
    clear x
    repeat' walk1
    all_goals (try k_data)
    rename Fr _ _ _ _ => F
    rename News _ _ _ _ => N
    refine go (use (get_attr (C.ext F.keep) (RM'.le (by decide)) (V.ext F.keep)) fun v h' tk x p => ?_)
    subst p
    dsimp only at x
    replace F := fr_by F x
    replace N := newsBy N x
    clear x
    repeat' walk1
    all_goals (try k_data)
    rename Fr _ _ _ _ => F
    exact h _ _ _ F.keep rfl

theorem class_attr {w : World} {mg mb} {A : Around} {s : Shared} {a d es n k l} (C : Cx w mg mb s.heap) (RM : Room A 3) (V : VecAt s.heap a d es n k l) : Gives w A s 326 [.ref a] fun v h' => ∃ c, v = .ref c ∧ Fresh s.heap h' [(c, listOf #[] 0)] := by
  intro Q E h
  have ⟨X, T⟩ := C
  obtain ⟨hd', dp', fr', gd', un'⟩ := A
  obtain rfl : hd' = none := RM.hnd
  walk_at "MINE enter"
  rename Room _ _ => RM'
  repeat' walk1
  all_goals (try k_data)
  rename Fr _ _ _ _ => F
  rename News _ _ _ _ => N
  refine go (use (get_attr (C.ext F.keep) RM' (V.ext F.keep)) fun v h' tk x p => ?_)
  subst p
  dsimp only at x
  replace F := fr_by F x
  replace N := newsBy N x
  clear x
  repeat' walk1
  all_goals (try k_data)
  rename Fr _ _ _ _ => F
  rename News _ _ _ _ => N
  exact h _ _ _ F.keep ⟨_, rfl, fresh_of N (by simp)⟩

theorem is_listed {w : World} {mg mb} {A : Around} {s : Shared} {a d es n l} {kd : Kind} (C : Cx w mg mb s.heap) (RM : Room A 2) (V : VecAt s.heap a d es n kd.str l) : Gives w A s 543 [.ref a] fun v _ => v = .bool false := by
  intro Q E h
  have V' := V
  obtain ⟨V1, V2, h1V, h2V, h3V, h4V, h5V, t1V, t2V, t3V, t4V, t5V, tkV, rfl⟩ := V'
  have ⟨X, T⟩ := C
  obtain ⟨hd', dp', fr', gd', un'⟩ := A
  obtain rfl : hd' = none := RM.hnd
  walk_at "MINE enter"
  rename Room _ _ => RM'
  cases kd <;> (dsimp only [Kind.str] at V V2)
  all_goals
    repeat' walk1
    all_goals (try k_data)
    rename Fr _ _ _ _ => F
    exact h _ _ _ F.keep rfl

theorem is_factor {w : World} {mg mb} {A : Around} {s : Shared} {a d es n l} {kd : Kind} (C : Cx w mg mb s.heap) (RM : Room A 4) (V : VecAt s.heap a d es n kd.str l) : Gives w A s 529 [.ref a] fun v _ => v = .bool false := by
  intro Q E h
  have V' := V
  obtain ⟨V1, V2, h1V, h2V, h3V, h4V, h5V, t1V, t2V, t3V, t4V, t5V, tkV, rfl⟩ := V'
  have ⟨X, T⟩ := C
  obtain ⟨hd', dp', fr', gd', un'⟩ := A
  obtain rfl : hd' = none := RM.hnd
  walk_at "MINE enter"
  rename Room _ _ => RM'
  cases kd <;> (dsimp only [Kind.str] at V V2)
  case int =>
    repeat' walk1
    all_goals (try k_data)
    rename Fr _ _ _ _ => F
    rename News _ _ _ _ => N
    refine go (use (class_attr (C.ext F.keep) RM' (V.ext F.keep)) fun v h' tk x p => ?_)
    dsimp only at x p
    obtain ⟨c, rfl, p⟩ := p
    replace N := newsAdd F N x (p)
    replace F := fr_by F x
    try dsimp only [List.cons_append, List.nil_append] at N
    repeat' walk1
    all_goals (try k_data)
    rename Fr _ _ _ _ => F
    exact h _ _ _ F.keep rfl
  all_goals
    repeat' walk1
    all_goals (try k_data)
    rename Fr _ _ _ _ => F
    exact h _ _ _ F.keep rfl
end
section
section
open PySem.AutoSeq1 (wpAny_loadPart')
open PySem.MeetsSeq PySem.MeetsSeq2 PySem.MeetsSeq3 PySem.SeqRoads2 PySem.SeqAt
theorem tuple_indexAt (l : Addr) (items : Array Value) (n : Nat) (dd : Option Addr) (sl : Array (Option Value)) (x : Value) (e : Value → Bool) (j : Nat) (hj : j < items.size) (hit : e items[j] = true) (hno : ∀ m (hm : m < items.size), m < j → e items[m] = false) :
    Meets (Builtin.«tuple.index» ⟨[.ref l, x], []⟩)
      (fun A R s => s.heap.get? l = some { cls := .type "tuple", dict := dd, data := .seq items n, slots := sl } ∧ (∀ y, y ∈ items → EqAt A.in1 s y x (e y)) ∧ R (.ok (.ret (.int j s.toks))) { s with toks := s.toks + 1 }) :=
  .of_wp fun prog w A R s h => by
    obtain ⟨hp, g, d, tk, os⟩ := s; obtain ⟨hl, he, h⟩ := h
    unfold Builtin.«tuple.index»
    simp only [Std.Legacy.Range.forIn_eq_forIn_range']
    wp_walk using wpAny_loadPart' hl, wpAny_forIn_list _ (fun rest (b : Option Fin × Unit) s' => b.1 = none ∧ s' = ⟨hp, g, d, tk, os⟩ ∧ ∃ k, k ≤ j ∧ rest = List.range' k (items.size - k)) _
    case turn =>
      rintro i rest ⟨b1, b2⟩ s' ⟨hb, rfl, k, hk, hr⟩
      simp only at hb
      subst hb
      have hlt : 0 < items.size - k := by omega
      obtain ⟨z, hz⟩ := Nat.exists_eq_succ_of_ne_zero (Nat.ne_of_gt hlt)
      rw [hz, List.range'_succ] at hr
      obtain ⟨rfl, rfl⟩ := List.cons.inj hr
      have hi : items[i]? = some items[i] := by simp
      rw [hi]
      refine wpAny_bind (he _ (Array.getElem_mem (by omega)) prog w _ _ ?_)
      by_cases hkj : i = j
      · subst hkj
        rw [hit]
        wp_walk
        exact ⟨_, rfl, h⟩
      · rw [hno i (by omega) (by omega)]
        wp_walk
        exact ⟨rfl, rfl, i + 1, by omega, by rw [show items.size - (i + 1) = z by omega]⟩
    case fin =>
      rintro ⟨b1, b2⟩ s' ⟨hb, rfl, k, hk, hr⟩
      exfalso
      have := congrArg List.length hr
      simp at this
      omega
    case h =>
      exact ⟨rfl, rfl, 0, Nat.zero_le _, by simp [Std.Legacy.Range.size]⟩
end
section
variable {prog : Program} {w : World} {A : Around} {E : Value → Shared → Prop} {s : Shared} {h₀ : Heap} {L : Addr} {m : Str → Option Value} {news : List (Addr × Obj)} {a : Addr}
theorem tup_method {its : List Value} {name : Str} {id : String} {pl : Sem Bool} {Q : Value × List Value → Shared → Prop} (N : News h₀ L s.heap news) (hm : (a, ({ cls := .type "tuple", data := .seq its.toArray } : Obj)) ∈ news)
    (slot : Slot "tuple" name id) (hty : typeOf (.builtin id) = pure (.type "method_descriptor")) (h : Q (.builtin id, [.ref a]) s) :
    wpAny (model prog w) A (getMethod (.ref a) name pl) Q E s :=
  getMethod_builtin ⟨_, (N _ hm).1, rfl⟩ PySem.F.plainAttrs_tuple slot hty (fun b e => by cases e; exact ⟨_, (N _ hm).1, rfl⟩) h
theorem tup_index {its : List Value} {x : Str} {t : Tok} (j : Nat) {Q : Value → Shared → Prop} (N : News h₀ L s.heap news) (hm : (a, ({ cls := .type "tuple", data := .seq its.toArray } : Obj)) ∈ news)
    (hs : ∀ y ∈ its, ∃ z u, y = .str z u) (hj : j < its.length) (hit : its[j].isStr x = true) (hno : ∀ m (hm : m < its.length), m < j → its[m].isStr x = false)
    (h : Q (.int j s.toks) { s with toks := s.toks + 1 }) :
    wpAny (model prog w) A (call (.builtin "tuple.index") [.ref a, .str x t]) Q E s := by
  refine call_meets PySem.F.slot_tuple_index ⟨_, (N _ hm).1, rfl⟩ PySem.F.entry_tuple_index (PySem.F.args_tuple_index_2 _ _)
    (tuple_indexAt a its.toArray 0 none #[] (.str x t) (fun y => y.isStr x) j (by simpa using hj) (by simpa using hit) (fun m hm hlt => by simpa using hno m (by simpa using hm) hlt)) ⟨(N _ hm).1, fun y hy => ?_, h⟩
  obtain ⟨z, u, rfl⟩ := hs y (by simpa using hy)
  exact PySem.SeqAt.EqAt.str_str z u x t
end
end
section
local macro_rules | `(tactic| walk_at "getMethod ref") => `(tactic| ((with_reducible show wpAny _ _ (getMethod (Value.ref _) (PySem.Str.ofString "index") _) _ _ _); refine halt ?_))
local macro_rules | `(tactic| walk_at "call builtin:tuple.index") => `(tactic| refine halt ?_)
def Kind.ord : Kind → Int
  | .lgl => 1 | .int => 2 | .dbl => 3 | .chr => 4

theorem is_atomic_kind {w : World} {mg mb} {A : Around} {s : Shared} {kd : Kind} {tk : Tok} (C : Cx w mg mb s.heap) (RM : Room A 2) :
    Gives w A s 442 [.str kd.str tk] fun r _ => r = .bool true := by
  intro Q E h
  have ⟨X, T⟩ := C
  cases kd <;> dsimp only [Kind.str]
  all_goals
    obtain ⟨hd', dp', fr', gd', un'⟩ := A
    obtain rfl : hd' = none := RM.hnd
    walk_at "MINE enter"
    rename Room _ _ => RM'
    repeat' walk1
    all_goals (try k_data)
    rename Fr _ _ _ _ => F
    exact h _ _ _ F.keep rfl

theorem kind_order {w : World} {mg mb} {A : Around} {s : Shared} {kd : Kind} {tk : Tok} (C : Cx w mg mb s.heap) (RM : Room A 2) :
    Gives w A s 365 [.str kd.str tk] fun r _ => ∃ t, r = .int kd.ord t := by
  intro Q E h
  have ⟨X, T⟩ := C
  cases kd <;> dsimp only [Kind.str]
  case lgl =>
    obtain ⟨hd', dp', fr', gd', un'⟩ := A
    obtain rfl : hd' = none := RM.hnd
    walk_at "MINE enter"
    rename Room _ _ => RM'
    repeat' walk1
    all_goals (try k_data)
    rename Fr _ _ _ _ => F
    rename News _ _ _ _ => N
    refine go (tup_method N (List.Mem.head _) PySem.F.slot_tuple_index PySem.F.type_tuple_index ?_)
    repeat' walk1
    all_goals (try k_data)
    rename Fr _ _ _ _ => F
    rename News _ _ _ _ => N
    refine go (tup_index 1 N (List.Mem.head _) (by intro y hy; simp only [List.mem_cons, List.not_mem_nil, or_false] at hy; rcases hy with rfl | rfl | rfl | rfl | rfl | rfl | rfl <;> exact ⟨_, _, rfl⟩) (by simp) (by rfl) (by intro i hi hlt; match i, hlt with | 0, _ => rfl) ?_)
    rename Fr _ _ _ _ => F
    exact h _ _ _ F.keep ⟨_, rfl⟩
  case int =>
    obtain ⟨hd', dp', fr', gd', un'⟩ := A
    obtain rfl : hd' = none := RM.hnd
    walk_at "MINE enter"
    rename Room _ _ => RM'
    repeat' walk1
    all_goals (try k_data)
    rename Fr _ _ _ _ => F
    rename News _ _ _ _ => N
    refine go (tup_method N (List.Mem.head _) PySem.F.slot_tuple_index PySem.F.type_tuple_index ?_)
    repeat' walk1
    all_goals (try k_data)
    rename Fr _ _ _ _ => F
    rename News _ _ _ _ => N
    refine go (tup_index 2 N (List.Mem.head _) (by intro y hy; simp only [List.mem_cons, List.not_mem_nil, or_false] at hy; rcases hy with rfl | rfl | rfl | rfl | rfl | rfl | rfl <;> exact ⟨_, _, rfl⟩) (by simp) (by rfl) (by intro i hi hlt; match i, hlt with | 0, _ => rfl | 1, _ => rfl) ?_)
    rename Fr _ _ _ _ => F
    exact h _ _ _ F.keep ⟨_, rfl⟩
  case dbl =>
    obtain ⟨hd', dp', fr', gd', un'⟩ := A
    obtain rfl : hd' = none := RM.hnd
    walk_at "MINE enter"
    rename Room _ _ => RM'
    repeat' walk1
    all_goals (try k_data)
    rename Fr _ _ _ _ => F
    rename News _ _ _ _ => N
    refine go (tup_method N (List.Mem.head _) PySem.F.slot_tuple_index PySem.F.type_tuple_index ?_)
    repeat' walk1
    all_goals (try k_data)
    rename Fr _ _ _ _ => F
    rename News _ _ _ _ => N
    refine go (tup_index 3 N (List.Mem.head _) (by intro y hy; simp only [List.mem_cons, List.not_mem_nil, or_false] at hy; rcases hy with rfl | rfl | rfl | rfl | rfl | rfl | rfl <;> exact ⟨_, _, rfl⟩) (by simp) (by rfl) (by intro i hi hlt; match i, hlt with | 0, _ => rfl | 1, _ => rfl | 2, _ => rfl) ?_)
    rename Fr _ _ _ _ => F
    exact h _ _ _ F.keep ⟨_, rfl⟩
  case chr =>
    obtain ⟨hd', dp', fr', gd', un'⟩ := A
    obtain rfl : hd' = none := RM.hnd
    walk_at "MINE enter"
    rename Room _ _ => RM'
    repeat' walk1
    all_goals (try k_data)
    rename Fr _ _ _ _ => F
    rename News _ _ _ _ => N
    refine go (tup_method N (List.Mem.head _) PySem.F.slot_tuple_index PySem.F.type_tuple_index ?_)
    repeat' walk1
    all_goals (try k_data)
    rename Fr _ _ _ _ => F
    rename News _ _ _ _ => N
    refine go (tup_index 4 N (List.Mem.head _) (by intro y hy; simp only [List.mem_cons, List.not_mem_nil, or_false] at hy; rcases hy with rfl | rfl | rfl | rfl | rfl | rfl | rfl <;> exact ⟨_, _, rfl⟩) (by simp) (by rfl) (by intro i hi hlt; match i, hlt with | 0, _ => rfl | 1, _ => rfl | 2, _ => rfl | 3, _ => rfl) ?_)
    rename Fr _ _ _ _ => F
    exact h _ _ _ F.keep ⟨_, rfl⟩
end
section
theorem fresh_back {a b c : Heap} {objs : List (Addr × Obj)} (x : Ext a b) (y : Fresh b c objs) : Fresh a c objs := fun p hp => ⟨(y p hp).1, by
  cases e : a.get? p.1 with
  | none => rfl
  | some o => have := (y p hp).2; rw [x _ _ e] at this; cases this⟩
section
variable {w : World} {mg mb : Str → Option Value} {A : Around} {d : Nat} {s : Shared} {R : Result → Shared → Prop} {name qual : Str} {params : Arguments} {body : List Stmt} {scope : Scope} {dV kV doc pm cdv ct oc : Value} {an od : Option Addr} {osl : Array (Option Value)} {f : Addr} {vs : List Value} {g₀ : Heap}
theorem cx_hide {objs : List (Addr × Obj)} (C : Cx w mg mb g₀) (x : Ext g₀ s.heap) (y : Fresh g₀ s.heap objs) : Ext g₀ (hideAll s.heap (objs.map (·.1))) := fun b o e => by
  refine hideAll_get _ (x b o e) fun q => ?_
  obtain ⟨p, hp, rfl⟩ := List.mem_map.mp q
  rw [(y p hp).2] at e; cases e
/-- a call that may change the objects `objs`, which do not stand in the ground g₀ -/
theorem enterN (binds : List (Str × Value)) {objs : List (Addr × Obj)} (C : Cx w mg mb g₀) (x : Ext g₀ s.heap) (y : Fresh g₀ s.heap objs) (RM : Room A (d + 1))
    (ho : (KW w.params).lookup f = some ⟨oc, od, .func (fnOf name qual params body scope dV kV doc pm an cdv ct), osl⟩) (hcd : codeIn (KW w.params) cdv qual = true)
    (hbind : BindsTo s (fnOf name qual params body scope dV kV doc pm an cdv ct) ⟨vs, []⟩ binds) (hloc : ∀ y ∈ binds, scope.names.lookup y.1 = some .local)
    (h : ∀ g L' h₁, Cx w mg mb g → GSub s.heap g (objs.map (·.1)) → (∀ b, s.heap.objs.size ≤ b → g.get? b = none) → Fr g L' h₁ (fun y => binds.reverse.lookup y) → News g L' h₁ objs → (∀ p ∈ objs, p.1 < L') → Room (A.deeper (envOf qual scope L' f cdv)) d →
      wpAny (MM w) (A.deeper (envOf qual scope L' f cdv)) (execs body (envOf qual scope L' f cdv))
        (fun fl s' => R (.ok (.ret (match fl with | .ret v => v | _ => .none))) s') (fun _ _ => False) { s with heap := h₁, toks := s.toks + binds.length })
    (hco : scope.isCoroutine = false) (hgen : scope.isGenerator = false) (hk : scope.kind = .function)
    (hcell : ∀ x ∈ scope.names, x.2 ≠ .cell) : codeAny (MM w) A (.call (.ref f) ⟨vs, []⟩) R s := by
  have C' := C.ext x
  have xg := cx_hide C x y
  refine codeAny_call_def (fd := fnX name qual params body scope [] dV kV doc pm an cdv ct) (body := body) (binds := binds) (Nat.lt_of_le_of_lt (by omega) RM.dep) (C'.X _ _ ho) rfl C'.T.nolimit (codeRec_of C'.X hcd) rfl hbind hcell hloc (fun h₁ hns hk₁ => ?_) hco hgen hk
  refine wpAny_mono (h (hideAll s.heap (objs.map (·.1))) _ h₁ (C.ext xg) (fun b o e n => hideAll_get _ e n) (fun b hb => ?_) ⟨hns, fun b o e => hk₁ b o (of_hideAll _ e), Nat.le_of_eq (hideAll_size _ _)⟩
    (fun p hp => ⟨hk₁ _ _ (y p hp).1, Nat.ne_of_lt (Heap.lt_size (y p hp).1), hideAll_none _ (List.mem_map_of_mem hp)⟩) (fun p hp => Heap.lt_size (y p hp).1) RM.deeper) (fun _ _ hl => hl) fun _ _ y => y.elim
  cases e : (hideAll s.heap (objs.map (·.1))).get? b with
  | none => rfl
  | some o => exact absurd (Heap.lt_size e) (by rw [hideAll_size]; exact Nat.not_lt.mpr hb)
end
local macro_rules | `(tactic| walk_at "MINE enterN") => `(tactic| (
  refine' enterN (zipB _ _) ?C ?x ?y ?RM ?ho ?hcd ?hb ?hl ?_ ?c1 ?c2 ?c3 ?c4
  (case C => assumption)
  (case x => assumption)
  (case y => assumption)
  (case RM => assumption)
  (case ho => k_is)
  (case hcd => k_is)
  (case hb => exact BindsTo.of_eq rfl)
  (case hl => exact locs rfl)
  (case c1 => rfl)
  (case c2 => rfl)
  (case c3 => rfl)
  (case c4 => decide)
  (intro g' L' h₁ C' sub' hid' F N l1 RM')
  (dsimp only [zipB, List.map_cons, List.map_nil, List.zip_cons_cons, List.zip_nil_left, List.zip_nil_right, List.length_cons, List.length_nil] at F sub' ⊢)))

theorem room_make {A : Around} {d : Nat} {C : Addr} {rest : List Value} {kw : List (Str × Value)} (R : Room A (d + 1)) : Room (A.under (.builtin "type.__call__" ⟨.ref C :: rest, kw⟩)) d :=
  ⟨R.hnd, by have e : (A.under (.builtin "type.__call__" ⟨.ref C :: rest, kw⟩)).depth = A.depth + 1 := rfl; have := R.dep; omega, by have := R.unit; show A.units + (Code.builtin "type.__call__" ⟨.ref C :: rest, kw⟩).cUnits + 8 * d < _; have e : (Code.builtin "type.__call__" ⟨.ref C :: rest, kw⟩).cUnits ≤ 4 := (by simp [Code.cUnits, Code.frames, Code.isFrame]); omega⟩

theorem mkVec {w : World} {mg mb} {A : Around} {s : Shared} {k : Str} {tk : Tok} {l : Addr} (C : Cx w mg mb s.heap) (RM : Room A 3) :
    Gives w A s 237 [.str k tk, .ref l] fun v h' => ∃ a d es n, v = .ref a ∧ VecAt h' a d es n k l ∧ Fresh s.heap h' [(a, instObj 237 d), (d, dictOf es n)] ∧ d < a := by
  intro Q E h
  refine wpAny_call ?_
  obtain ⟨hh, gn, dr, t, os⟩ := s
  dsimp only at C h ⊢
  refine make_core (C := 237) (init := .ref 227) (makes_of C.X (by k_is)) (looks_findIn C.X (by k_is)) (fun self => bind_fn C.X self (by k_is)) (.inl rfl) ?_
  have e1 : Ext hh ((hh.push emptyDict).push (instObj 237 hh.objs.size)) := fun b o e => Heap.get?_push_of_some _ (Heap.get?_push_of_some _ e)
  have nn : ∀ b, hh.objs.size ≤ b → hh.get? b = none := fun b hb => Heap.get?_none_of_le hb
  have hs : (hh.push emptyDict).objs.size = hh.objs.size + 1 := Heap.size_push _ _
  have fr : Fresh hh ((hh.push emptyDict).push (instObj 237 hh.objs.size)) [(hh.objs.size + 1, instObj 237 hh.objs.size), (hh.objs.size, dictOf [] 0)] := by
    intro p hp
    rcases List.mem_cons.mp hp with rfl | hp
    · exact ⟨hs ▸ Heap.get?_push_size _ rfl, nn _ (Nat.le_succ _)⟩
    · rw [List.mem_singleton.mp hp]
      exact ⟨Heap.get?_push_of_some _ (Heap.get?_push_size _ rfl), nn _ (Nat.le_refl _)⟩
  have RM2 := room_make (C := 237) (rest := [.str k tk, .ref l]) (kw := []) RM
  have ⟨X, T⟩ := C
  refine' enterN [(Str.ofString "self", .ref (hh.objs.size + 1)), (Str.ofString "kind", .str k tk), (Str.ofString "items", .ref l), (Str.ofString "attrs", .none)] C e1 fr RM2 ?ho ?hcd ?hb ?hl ?_ ?c1 ?c2 ?c3 ?c4
  case ho => k_is
  case hcd => k_is
  case hb => exact binds_K (C.ext e1).X rfl (by k_is) rfl rfl rfl
  case hl => exact locs rfl
  case c1 => rfl
  case c2 => rfl
  case c3 => rfl
  case c4 => decide
  intro g L' h₁ C' sub hid F N l1 RM'
  k_lt l1
  have ⟨X', T'⟩ := C'
  dsimp only at F sub hid ⊢
  repeat' walk1
  all_goals (try k_data)
  rename Fr _ _ _ _ => F
  rename News _ _ _ _ => N
  have no : ∀ b o, hh.get? b = some o → b ∉ ([(hh.objs.size + 1, instObj 237 hh.objs.size), (hh.objs.size, dictOf [] 0)] : List (Addr × Obj)).map (·.1) := fun b o e q => by
    obtain ⟨p, hp, rfl⟩ := List.mem_map.mp q
    rw [(fr p hp).2] at e; cases e
  refine ⟨rfl, h _ _ _ (fun b o e => F.keep b o (sub b o (e1 b o e) (no b o e))) ⟨_, _, _, _, rfl, ⟨(N _ (List.Mem.head _)).1, (N _ (List.Mem.tail _ (List.Mem.head _))).1, ⟨_, _, _, _, _, _, _, _, _, _, _, rfl⟩⟩, ?_, Nat.lt_succ_self _⟩⟩
  intro p hp
  refine ⟨(N p hp).1, ?_⟩
  rcases List.mem_cons.mp hp with rfl | hp
  · exact nn _ (Nat.le_succ _)
  · rw [List.mem_singleton.mp hp]; exact nn _ (Nat.le_refl _)


theorem plain {w : World} {mg mb} {A : Around} {s : Shared} {a d es n l} {kd : Kind} (C : Cx w mg mb s.heap) (RM : Room A 6) (V : VecAt s.heap a d es n kd.str l) :
    Gives w A s 569 [.ref a] fun v h' => ∃ a d es n, v = .ref a ∧ VecAt h' a d es n kd.str l ∧ Fresh s.heap h' [(a, instObj 237 d), (d, dictOf es n)] ∧ d < a := by
  intro Q E h
  have V' := V
  obtain ⟨V1, V2, h1V, h2V, h3V, h4V, h5V, t1V, t2V, t3V, t4V, t5V, tkV, rfl⟩ := V'
  have ⟨X, T⟩ := C
  obtain ⟨hd', dp', fr', gd', un'⟩ := A
  obtain rfl : hd' = none := RM.hnd
  walk_at "MINE enter"
  rename Room _ _ => RM'
  cases kd <;> (have V0 := V; dsimp only [Kind.str] at V V2 h)
  all_goals
    repeat' walk1
    all_goals (try k_data)
    rename Fr _ _ _ _ => F
    rename News _ _ _ _ => N
    refine go (use (is_vec (C.ext F.keep) (RM'.le (by decide)) (V.ext F.keep)) fun v h' tk x p => ?_)
    subst p
    dsimp only at x
    replace F := fr_by F x
    replace N := newsBy N x
    clear x
    repeat' walk1
    all_goals (try k_data)
    rename Fr _ _ _ _ => F
    rename News _ _ _ _ => N
    refine go (use (is_factor (C.ext F.keep) (RM'.le (by decide)) (V0.ext F.keep)) fun v h' tk x p => ?_)
    subst p
    dsimp only at x
    replace F := fr_by F x
    replace N := newsBy N x
    clear x
    repeat' walk1
    all_goals (try k_data)
    rename Fr _ _ _ _ => F
    rename News _ _ _ _ => N
    refine go (use (mkVec (C.ext F.keep) (RM'.le (by decide))) fun v h' tk x p => ?_)
    dsimp only at x p
    obtain ⟨a', d', es', n', rfl, V', fr, lt⟩ := p
    exact h _ _ _ (Ext.trans F.keep x) ⟨_, _, _, _, rfl, V', fresh_back F.keep fr, lt⟩
end
section
inductive Four where
  | a | b | c | d
  deriving DecidableEq
abbrev Atom := Option Four
def num : Four → Int
  | .a => 0 | .b => 1 | .c => -2 | .d => 7
def txt : Four → Str
  | .a => Str.ofString "" | .b => Str.ofString "a" | .c => Str.ofString "NA" | .d => Str.ofString "b"
def AtomV (h : Heap) (kd : Kind) (v : Value) : Atom → Prop
  | none => v = .none
  | some c => match kd with
    | .lgl => ∃ t, v = .int (num c) t
    | .int => ∃ t, v = .int (num c) t
    | .dbl => ∃ a t u, v = .ref a ∧ IsTup h a #[.int (num c) t, .int 1 u]
    | .chr => ∃ t, v = .str (txt c) t
def key (kd : Kind) : Atom → Str
  | none => Str.ofString "NA"
  | some c => match kd with
    | .lgl => Str.ofString (toString (num c))
    | .int => Str.ofString (toString (num c))
    | .dbl => Str.ofString (toString (num c)) ++ Str.ofString "/" ++ Str.ofString (toString (1 : Int))
    | .chr => Str.ofString "=" ++ txt c
theorem key_inj {kd : Kind} {x y : Atom} (e : key kd x = key kd y) : x = y := by
  cases kd <;> rcases x with _ | x <;> rcases y with _ | y <;> (try cases x) <;> (try cases y) <;> first | rfl | (revert e; decide +kernel)

theorem item_key {w : World} {mg mb} {A : Around} {s : Shared} {kd : Kind} {tk : Tok} {v : Value} {x : Atom} (C : Cx w mg mb s.heap) (RM : Room A 2) (V : AtomV s.heap kd v x) :
    Gives w A s 536 [.str kd.str tk, v] fun r _ => ∃ u, r = .str (key kd x) u := by
  intro Q E h
  have ⟨X, T⟩ := C
  cases x with
  | none =>
    replace V : v = .none := V
    subst V
    obtain ⟨hd', dp', fr', gd', un'⟩ := A
    obtain rfl : hd' = none := RM.hnd
    walk_at "MINE enter"
    rename Room _ _ => RM'
    repeat' walk1
    all_goals (try k_data)
    rename Fr _ _ _ _ => F
    exact h _ _ _ F.keep ⟨_, rfl⟩
  | some c₀ =>
    cases kd <;> dsimp only [AtomV, key, Kind.str] at V h ⊢
    case chr =>
      obtain ⟨t, rfl⟩ := V
      cases c₀ <;> dsimp only [txt] at h ⊢
      all_goals
        obtain ⟨hd', dp', fr', gd', un'⟩ := A
        obtain rfl : hd' = none := RM.hnd
        walk_at "MINE enter"
        rename Room _ _ => RM'
        repeat' walk1
        all_goals (try k_data)
        rename Fr _ _ _ _ => F
        exact h _ _ _ F.keep ⟨_, rfl⟩
    case lgl =>
      obtain ⟨t, rfl⟩ := V
      cases c₀ <;> dsimp only [num] at h ⊢
      all_goals
        obtain ⟨hd', dp', fr', gd', un'⟩ := A
        obtain rfl : hd' = none := RM.hnd
        walk_at "MINE enter"
        rename Room _ _ => RM'
        repeat' walk1
        all_goals (try k_data)
        rename Fr _ _ _ _ => F
        exact h _ _ _ F.keep ⟨_, rfl⟩
    case int =>
      obtain ⟨t, rfl⟩ := V
      cases c₀ <;> dsimp only [num] at h ⊢
      all_goals
        obtain ⟨hd', dp', fr', gd', un'⟩ := A
        obtain rfl : hd' = none := RM.hnd
        walk_at "MINE enter"
        rename Room _ _ => RM'
        repeat' walk1
        all_goals (try k_data)
        rename Fr _ _ _ _ => F
        exact h _ _ _ F.keep ⟨_, rfl⟩
    case dbl =>
      obtain ⟨a, t, u, rfl, V⟩ := V
      cases c₀ <;> dsimp only [num] at h V ⊢
      all_goals
        obtain ⟨hd', dp', fr', gd', un'⟩ := A
        obtain rfl : hd' = none := RM.hnd
        walk_at "MINE enter"
        rename Room _ _ => RM'
        repeat' walk1
        all_goals (try k_data)
        rename Fr _ _ _ _ => F
        exact h _ _ _ F.keep ⟨_, rfl⟩
end
section
section
variable {prog : Program} {w : World} {A : Around} {E : Value → Shared → Prop} {s : Shared} {env : Env} {h₀ : Heap} {x : Str} {body : List Stmt} {Q : Flow → Shared → Prop}
def TurnEnd (h₀ : Heap) (L : Addr) (J : (Str → Option Value) → List (Addr × Obj) → Prop) (own : List (Addr × Obj)) (adr : List Addr) (s₁ s₂ : Shared) : Prop :=
  ∃ h' tk m' nx, s₂ = { s₁ with heap := h', toks := tk } ∧ Fr h₀ L h' m' ∧ News h₀ L h' (nx ++ own) ∧ nx.map (·.1) = adr ∧ J m' nx
def TurnPost (h₀ : Heap) (L : Addr) (J : (Str → Option Value) → List (Addr × Obj) → Prop) (own : List (Addr × Obj)) (adr : List Addr) (s₁ : Shared) (Q : Flow → Shared → Prop) (f : Flow) (s₂ : Shared) : Prop :=
  match f with
  | .ret v => Q (.ret v) s₂
  | .brk => Q .next s₂
  | _ => TurnEnd h₀ L J own adr s₁ s₂
theorem TurnEnd.intro {L : Addr} {J : (Str → Option Value) → List (Addr × Obj) → Prop} {m' : Str → Option Value} {own all nx : List (Addr × Obj)} {adr : List Addr} {s₁ : Shared} {h' : Heap} {tk : Nat} (F : Fr h₀ L h' m') (N : News h₀ L h' all)
    (hs : ∀ p ∈ nx ++ own, p ∈ all) (ha : nx.map (·.1) = adr) (hj : J m' nx) : TurnEnd h₀ L J own adr s₁ { s₁ with heap := h', toks := tk } := ⟨h', tk, m', nx, rfl, F, fun p hp => N p (hs p hp), ha, hj⟩

theorem iter_W {I : Addr} {fp : List Addr} {n : Nat} {P : Nat → Value → Prop} {St : Nat → Heap → Prop} {m₀ : Str → Option Value} {news : List (Addr × Obj)} (J : Nat → (Str → Option Value) → List (Addr × Obj) → Prop) (mu : List Addr)
    (W : Walks prog w A I fp [I] n P St) (hLf : env.locals ∉ fp) (hI : h₀.get? I = none) (hnI : ∀ p ∈ news, p.1 ≠ I) (hst : St 0 s.heap) (F : Fr h₀ env.locals s.heap m₀) (N : News h₀ env.locals s.heap news)
    (hmf : ∀ b ∈ mu, b ∉ fp) (hj : J 0 m₀ news)
    (turn : ∀ i v m₁ news₁ h tk own, i < n → P i v → news₁.map (·.1) = news.map (·.1) → (∀ p ∈ own, p.1 ∉ mu) → J i m₁ news₁ → Fr h₀ env.locals h (fun y => if y = x then some v else m₁ y) → News h₀ env.locals h (news₁ ++ own) →
      wpAny (model prog w) A (execs body env) (TurnPost h₀ env.locals (J (i + 1)) own (news.map (·.1)) { s with heap := h, toks := tk } Q) E { s with heap := h, toks := tk })
    (done : ∀ m₁ news₁ h tk, J n m₁ news₁ → Fr h₀ env.locals h m₁ → News h₀ env.locals h news₁ → Q .next { s with heap := h, toks := tk }) :
    LoopAtV prog w A h₀ env x body Q E (.ref I) s := by
  let J' : Nat → (Str → Option Value) → List (Addr × Obj) → Prop := fun i m₁ news₁ => news₁.map (·.1) = news.map (·.1) ∧ J i m₁ news₁
  refine ⟨I, fp, [I], n, P, St, m₀, news, J', rfl, W, hLf, ?_, ?_, hst, F, N, ⟨rfl, hj⟩, ?_, ?_⟩
  · intro b hb; rw [List.mem_singleton.mp hb]; exact hI
  · intro p hp q; exact hnI p hp (List.mem_singleton.mp q)
  · rintro i v m₁ news₁ s₁ own ⟨hh', tk', rfl⟩ hin hP ⟨hadr, hJ⟩ hoff hown _ _ _ F₁ N₁
    have N₂ : News h₀ env.locals hh' (news₁ ++ own) := fun p hp => N₁ p ((List.mem_append.mp hp).elim (fun h => List.mem_append.mpr (.inr h)) fun h => List.mem_append.mpr (.inl h))
    refine wpAny_mono (turn i v m₁ news₁ hh' tk' own hin hP hadr (fun p hp q => hmf _ q (hown p hp)) hJ F₁ N₂) (fun f s₂ p => ?_) fun _ _ e => e
    have fin : TurnEnd h₀ env.locals (J (i + 1)) own (news.map (·.1)) { s with heap := hh', toks := tk' } s₂ → LoopStepU h₀ env.locals [I] own (J' (i + 1)) { s with heap := hh', toks := tk' } .next s₂ := by
      rintro ⟨h', tk, m', nx, e, F', N', ha, hm⟩
      refine ⟨rfl, h', tk, m', nx, e, F', fun p hp => N' p ((List.mem_append.mp hp).elim (fun h => List.mem_append.mpr (.inr h)) fun h => List.mem_append.mpr (.inl h)), fun p hp hq => ?_, ha, hm⟩
      have h1 : p.1 ∈ nx.map (·.1) := List.mem_map.mpr ⟨p, hp, rfl⟩
      rw [ha, ← hadr] at h1
      obtain ⟨q, hq1, hq2⟩ := List.mem_map.mp h1
      exact hoff q hq1 (by rw [hq2]; exact hq)
    cases f with
    | ret v => exact .ret p
    | brk => exact .brk p
    | next => exact .next (fin p)
    | cont => exact .cont (fin p)
  · rintro h' tk m' news' F' N' _ ⟨_, hJ⟩
    exact done m' news' h' tk hJ F' N'

theorem iter_list {l : Addr} {vs : List Value} {m₀ : Str → Option Value} {news : List (Addr × Obj)} (J : Nat → (Str → Option Value) → List (Addr × Obj) → Prop) (mu : List Addr)
    (hh : A.handled = none) (hl : s.heap.IsList l vs.toArray) (hL : l ≠ env.locals) (F : Fr h₀ env.locals s.heap m₀) (N : News h₀ env.locals s.heap news) (hm : ∀ b ∈ mu, b ≠ l ∧ b < s.heap.objs.size) (hj : J 0 m₀ news)
    (turn : ∀ i v m₁ news₁ h tk own, vs[i]? = some v → news₁.map (·.1) = news.map (·.1) → (∀ p ∈ own, p.1 ∉ mu) → J i m₁ news₁ → Fr h₀ env.locals h (fun y => if y = x then some v else m₁ y) → News h₀ env.locals h (news₁ ++ own) →
      wpAny (model prog w) A (execs body env) (TurnPost h₀ env.locals (J (i + 1)) own (news.map (·.1)) { s with heap := h, toks := tk } Q) E { s with heap := h, toks := tk })
    (done : ∀ m₁ news₁ h tk, J vs.length m₁ news₁ → Fr h₀ env.locals h m₁ → News h₀ env.locals h news₁ → Q .next { s with heap := h, toks := tk }) :
    wpAny (model prog w) A (pyIter (.ref l)) (fun it s₂ => LoopAtV prog w A h₀ env x body Q E it s₂) E s := by
  obtain ⟨ol, hol, _⟩ := id hl
  have hlt : l < s.heap.objs.size := Heap.lt_size hol
  have hne : l ≠ s.heap.objs.size := Nat.ne_of_lt hlt
  refine wpAny_pyIter_list hl ?_
  have W := Walks.list (prog := prog) (w := w) hh s.heap.objs.size l hne vs.toArray
  refine iter_W (s := { s with heap := s.heap.push { cls := .type "list_iterator", data := .fields #[.ref l, .int 0 0] } }) J mu W ?_ (next_is_new F) (fun p hp => Nat.ne_of_lt (Heap.lt_size (N p hp).1)) ⟨⟨_, Heap.get?_push_size _ rfl, rfl, rfl⟩, hl.at fun o e => Heap.get?_push_of_some _ e⟩ (F.push _) (fun p hp => ⟨Heap.get?_push_of_some _ (N p hp).1, (N p hp).2⟩) ?_ hj ?_ ?_
  · intro hm
    rcases List.mem_cons.mp hm with e | hm
    · exact absurd F.ns.lt (e ▸ Nat.lt_irrefl _)
    · exact hL (List.mem_singleton.mp hm).symm
  · intro b hb q
    have := hm b hb
    rcases List.mem_cons.mp q with e | q
    · exact absurd this.2 (e ▸ Nat.lt_irrefl _)
    · exact this.1 (List.mem_singleton.mp q)
  · intro i v m₁ news₁ h tk own _ hP
    exact turn i v m₁ news₁ h tk own (by simpa using hP)
  · intro m₁ news₁ h tk hJ
    exact done m₁ news₁ h tk (by simpa using hJ)
theorem iter_range {r : Addr} {n : Nat} {t u v : Tok} {m₀ : Str → Option Value} {news : List (Addr × Obj)} (J : Nat → (Str → Option Value) → List (Addr × Obj) → Prop) (mu : List Addr)
    (hh : A.handled = none) (hr : IsRange s.heap r 0 (n : Int) 1 t u v) (hn : n < 1000) (F : Fr h₀ env.locals s.heap m₀) (N : News h₀ env.locals s.heap news) (hm : ∀ b ∈ mu, b < s.heap.objs.size) (hj : J 0 m₀ news)
    (turn : ∀ i t m₁ news₁ h tk own, i < n → news₁.map (·.1) = news.map (·.1) → (∀ p ∈ own, p.1 ∉ mu) → J i m₁ news₁ → Fr h₀ env.locals h (fun y => if y = x then some (.int (i : Nat) t) else m₁ y) → News h₀ env.locals h (news₁ ++ own) →
      wpAny (model prog w) A (execs body env) (TurnPost h₀ env.locals (J (i + 1)) own (news.map (·.1)) { s with heap := h, toks := tk } Q) E { s with heap := h, toks := tk })
    (done : ∀ m₁ news₁ h tk, J n m₁ news₁ → Fr h₀ env.locals h m₁ → News h₀ env.locals h news₁ → Q .next { s with heap := h, toks := tk }) :
    wpAny (model prog w) A (pyIter (.ref r)) (fun it s₂ => LoopAtV prog w A h₀ env x body Q E it s₂) E s := by
  have hsz : Builtin.Range.rangeSize 0 (n : Int) 1 = (n : Int) := by simp [Builtin.Range.rangeSize]; omega
  refine wpAny_pyIter_range hr (by
    unfold Builtin.Range.small
    have f : ∀ i : Int, 0 ≤ i → i < 2000 → Builtin.Range.rangeFitsLong i = true := fun i h1 h2 => by
      unfold Builtin.Range.rangeFitsLong
      simp only [Bool.and_eq_true, decide_eq_true_eq]
      omega
    rw [hsz, f 0 (by omega) (by omega), f n (by omega) (by omega), f 1 (by omega) (by omega), if_pos (by omega), f _ (by omega) (by omega)]
    simp) ?_
  have W : Walks prog w A s.heap.objs.size [s.heap.objs.size] [s.heap.objs.size] n _ _ := Walks.range hh _ 0 1 n
  rw [hsz]
  refine iter_W (s := { s with heap := s.heap.push { cls := .type "range_iterator", data := .fields #[rawInt 0, rawInt (n : Int), rawInt 1] } }) J mu W ?_ (next_is_new F) (fun p hp => Nat.ne_of_lt (Heap.lt_size (N p hp).1)) (by show IsRangeIter _ _ _ _ _; simpa using Heap.get?_push_size _ rfl) (F.push _) (fun p hp => ⟨Heap.get?_push_of_some _ (N p hp).1, (N p hp).2⟩) ?_ hj ?_ ?_
  · intro hm
    exact absurd F.ns.lt ((List.mem_singleton.mp hm) ▸ Nat.lt_irrefl _)
  · intro b hb q
    exact absurd (hm b hb) ((List.mem_singleton.mp q) ▸ Nat.lt_irrefl _)
  · rintro i v m₁ news₁ h tk own hi ⟨t, rfl⟩ ha ho hJ F₁ N₁
    have e : (0 + (i : Int) * 1) = (i : Int) := by omega
    rw [e] at F₁
    exact turn i t m₁ news₁ h tk own hi ha ho hJ F₁ N₁
  · exact done
end
theorem map_norm (x : Str) (m : Str → Option Value) : m = fun y => if y = x then m x else m y := by
  funext y
  by_cases h : y = x
  · rw [if_pos h, h]
  · rw [if_neg h]
theorem map_turn {x y : Str} (hxy : x ≠ y) (u v w w' : Option Value) (base : Str → Option Value) :
    (fun z => if z = y then w' else if z = x then v else if z = x then u else if z = y then w else base z) = fun z => if z = x then v else if z = y then w' else base z := by
  funext z
  by_cases h : z = x
  · subst h; rw [if_neg hxy, if_pos rfl, if_pos rfl]
  · by_cases h2 : z = y
    · rw [if_pos h2, if_neg h, if_pos h2]
    · rw [if_neg h2, if_neg h, if_neg h, if_neg h2, if_neg h, if_neg h2]
section
variable {prog : Program} {w : World} {A : Around} {E : Value → Shared → Prop} {s : Shared} {env : Env} {h₀ : Heap} {x y : Str} {body : List Stmt} {Q : Flow → Shared → Prop}
theorem list_fold1 {l : Addr} {vs : List Value} {base : Str → Option Value} {news : List (Addr × Obj)} {t₀ : Tok} (mx : Nat → Int) (hxy : x ≠ y)
    (hh : A.handled = none) (hl : s.heap.IsList l vs.toArray) (hL : l ≠ env.locals) (F : Fr h₀ env.locals s.heap (fun z => if z = y then some (.int (mx 0) t₀) else base z)) (N : News h₀ env.locals s.heap news)
    (turn : ∀ i v t h tk own, vs[i]? = some v → Fr h₀ env.locals h (fun z => if z = x then some v else if z = y then some (.int (mx i) t) else base z) → News h₀ env.locals h (news ++ own) →
      wpAny (model prog w) A (execs body env) (TurnPost h₀ env.locals (fun m' nx => nx = news ∧ ∃ c t', (m' = fun z => if z = y then some (.int c t') else if z = x then some v else if z = y then some (.int (mx i) t) else base z) ∧ mx (i + 1) = c) own (news.map (·.1)) { s with heap := h, toks := tk } Q) E { s with heap := h, toks := tk })
    (done : ∀ u t h tk, Fr h₀ env.locals h (fun z => if z = x then u else if z = y then some (.int (mx vs.length) t) else base z) → News h₀ env.locals h news → Q .next { s with heap := h, toks := tk }) :
    wpAny (model prog w) A (pyIter (.ref l)) (fun it s₂ => LoopAtV prog w A h₀ env x body Q E it s₂) E s := by
  refine iter_list (fun i m nw => nw = news ∧ ∃ u t, m = fun z => if z = x then u else if z = y then some (.int (mx i) t) else base z) [] hh hl hL F N (by simp) ⟨rfl, base x, t₀, ?_⟩ ?_ ?_
  · funext z
    by_cases h : z = x
    · subst h; rw [if_neg hxy, if_pos rfl]
    · rw [if_neg h]
  · rintro i v m₁ news₁ h tk own hv _ _ ⟨rfl, u, t, rfl⟩ F₁ N₁
    have e : (fun z => if z = x then some v else if z = x then u else if z = y then some (.int (mx i) t) else base z) = fun z => if z = x then some v else if z = y then some (.int (mx i) t) else base z := by
      funext z
      by_cases h : z = x
      · rw [if_pos h, if_pos h]
      · rw [if_neg h, if_neg h, if_neg h]
    rw [e] at F₁
    refine wpAny_mono (turn i v t h tk own hv F₁ N₁) (fun f s₂ p => ?_) fun _ _ q => q
    have fin : TurnEnd h₀ env.locals (fun m' nx => nx = news₁ ∧ ∃ c t', (m' = fun z => if z = y then some (.int c t') else if z = x then some v else if z = y then some (.int (mx i) t) else base z) ∧ mx (i + 1) = c) own (news₁.map (·.1)) { s with heap := h, toks := tk } s₂ →
        TurnEnd h₀ env.locals (fun m nw => nw = news₁ ∧ ∃ u t, m = fun z => if z = x then u else if z = y then some (.int (mx (i + 1)) t) else base z) own (news₁.map (·.1)) { s with heap := h, toks := tk } s₂ := by
      rintro ⟨h', tk', m', nx, e, F', N', ha, rfl, c, t', rfl, hc⟩
      refine ⟨h', tk', _, _, e, F', N', ha, rfl, some v, t', ?_⟩
      rw [hc]
      funext z
      by_cases h : z = x
      · subst h; rw [if_neg hxy, if_pos rfl, if_pos rfl]
      · by_cases h2 : z = y
        · rw [if_pos h2, if_neg h, if_pos h2]
        · rw [if_neg h2, if_neg h, if_neg h2, if_neg h, if_neg h2]
    cases f with
    | ret v => exact p
    | brk => exact p
    | next => exact fin p
    | cont => exact fin p
  · rintro m₁ news₁ h tk ⟨rfl, u, t, rfl⟩ F₁ N₁
    exact done u t h tk F₁ N₁
end
theorem ne_frame {g h : Heap} {L l : Addr} {m} {its} (F : Fr g L h m) (hl : g.IsList l its) : l ≠ L := by
  obtain ⟨o, ho, _⟩ := hl
  exact Nat.ne_of_lt (Nat.lt_of_lt_of_le (Heap.lt_size ho) F.above)
end
section
theorem common_kind {w : World} {mg mb} {A : Around} {s : Shared} {k1 k2 : Kind} {l : Addr} {t1 t2 : Tok} (C : Cx w mg mb s.heap) (RM : Room A 4) (hl : s.heap.IsList l #[.str k1.str t1, .str k2.str t2]) :
    Gives w A s 372 [.ref l] fun r _ => ∃ t k, r = .str (Kind.str k) t ∧ k.ord = max k1.ord k2.ord := by
  intro Q E h
  have ⟨X, T⟩ := C
  obtain ⟨hd', dp', fr', gd', un'⟩ := A
  obtain rfl : hd' = none := RM.hnd
  walk_at "MINE enter"
  rename Room _ _ => RM'
  repeat' walk1
  all_goals (try k_data)
  rename Fr _ _ _ _ => F
  rename News _ _ _ _ => N
  refine go ?_
  with_unfolding_all refine' For_invVF F ?k1 ?k2 ?_
  case k1 => exact rfl
  case k2 => exact rfl
  repeat' walk1
  all_goals (try k_data)
  rename Fr _ _ _ _ => F
  rename News _ _ _ _ => N
  refine list_fold1 (vs := [.str k1.str t1, .str k2.str t2]) (fun i => ([k1, k2].take i).foldl (fun a k => if k.ord > a then k.ord else a) 0) (by decide) RM'.hnd (hl.at fun o e => F.keep _ _ e) (ne_frame F hl) F N ?_ ?_
  · intro i v t h' tk own hv F N
    obtain ⟨kk, tt, rfl, hk⟩ : ∃ kk tt, v = .str (Kind.str kk) tt ∧ ([k1, k2].take (i + 1)).foldl (fun a k => if k.ord > a then k.ord else a) 0 = if kk.ord > ([k1, k2].take i).foldl (fun a k => if k.ord > a then k.ord else a) 0 then kk.ord else ([k1, k2].take i).foldl (fun a k => if k.ord > a then k.ord else a) 0 := by
      match i, hv with
      | 0, hv => exact ⟨k1, t1, (Option.some.inj hv).symm, rfl⟩
      | 1, hv => exact ⟨k2, t2, (Option.some.inj hv).symm, rfl⟩
    repeat' walk1
    all_goals (try k_data)
    rename Fr _ _ _ _ => F
    rename News _ _ _ _ => N
    refine go (use (kind_order (kd := kk) (C.ext F.keep) (RM'.le (by decide))) fun v h' tk x p => ?_)
    dsimp only at x p
    obtain ⟨t', rfl⟩ := p
    replace F := fr_by F x
    replace N := newsBy N x
    repeat' walk1
    all_goals (try k_data)
    rename Fr _ _ _ _ => F
    rename News _ _ _ _ => N
    exact TurnEnd.intro F N (fun p hp => hp) rfl ⟨rfl, _, _, rfl, hk⟩
  · intro u t h' tk F N
    obtain ⟨k, hk⟩ : ∃ k : Kind, max k1.ord k2.ord = k.ord := by
      cases k1 <;> cases k2 <;> first | exact ⟨.lgl, rfl⟩ | exact ⟨.int, rfl⟩ | exact ⟨.dbl, rfl⟩ | exact ⟨.chr, rfl⟩
    have e : List.foldl (fun a k => if k.ord > a then k.ord else a) 0 (List.take [Value.str k1.str t1, Value.str k2.str t2].length [k1, k2]) = k.ord := by
      rw [← hk]
      cases k1 <;> cases k2 <;> rfl
    rw [e] at F
    cases k <;> (have hk' := hk; dsimp only [Kind.ord] at F hk)
    all_goals
      repeat' walk1
      all_goals (try k_data)
      rename Fr _ _ _ _ => F
      exact h _ _ _ F.keep ⟨_, _, rfl, hk'.symm⟩
end
section
section
variable {prog : Program} {w : World} {A : Around} {E : Value → Shared → Prop} {env : Env}
/-- all that stands outside X stays -/
def Off (X : List Addr) (h h' : Heap) : Prop := ∀ b o, b ∉ X → h.get? b = some o → h'.get? b = some o
theorem off_nil {h h' : Heap} : Off [] h h' ↔ Ext h h' := ⟨fun x b o e => x b o (by simp) e, fun x b o _ e => x b o e⟩
def EltEnd (s₃ : Shared) (P : Heap → Prop) (s₄ : Shared) : Prop := ∃ h' tk, s₄ = { s₃ with heap := h', toks := tk } ∧ Ext s₃.heap h' ∧ P h'
theorem elt_fr {g h : Heap} {C : Addr} {m : Str → Option Value} {x : Str} {v : Value} (hn : h.Ns C m) (hm : m x = some v) (hC : g.objs.size ≤ C) (hk : Ext g h) : Fr g C h (fun y => if y = x then some v else m y) := by
  have e := map_norm x m
  rw [hm] at e
  exact ⟨e ▸ hn, hk, hC⟩
theorem news_nil {g h : Heap} {C : Addr} {m : Str → Option Value} (_F : Fr g C h m) : News g C h [] := News.nil
theorem name_cb {M : Model} {A : Around} {E : Value → Shared → Prop} {s : Shared} {env : Env} {x : Str} {pos : Pos} {v : Value} {Q : Value → Shared → Prop} {g : Heap} {C c : Addr} {m : Str → Option Value} {o : Obj} (F : Fr g C s.heap m)
    (hk : env.scope.kind = .function) (hx : env.kindOf x = some .cell) (hc : env.cells.lookup x = some c) (hg : g.get? c = some o) (hd : o.data = .cell (some v)) (hb : (x == ("__debug__" : Str)) = false) (h : Q v s) :
    wpAny M A (eval (.Name x pos) env) Q E s := wpAny_Name (wpAny_loadName_cell hk hx hc ⟨o, F.keep _ _ hg, hd⟩ h) hb
/-- what a comprehension over a list wants of its element -/
def EltL (prog : Program) (w : World) (A : Around) (env : Env) (scope : Scope) (cl : List (Str × Addr)) (x : Str) (elt : Expr) (vs : List Value) (Rel : List Addr → Nat → Heap → List Value → Prop) (s₁ : Shared) : Prop :=
  ∀ X C i v s₃ m₃ ys E', s₁.heap.objs.size ≤ C → (∀ b ∈ X, ∃ o, s₃.heap.get? b = some o) → C ∈ X → (∀ b ∈ X, s₁.heap.objs.size ≤ b) → vs[i]? = some v → Rel X i s₃.heap ys → s₃.heap.Ns C m₃ → m₃ x = some v → Ext s₁.heap s₃.heap →
    wpAny (model prog w) A (eval elt (compEnvC scope cl C env)) (fun y s₄ => EltEnd s₃ (fun h' => Rel X (i + 1) h' (ys ++ [y])) s₄) E' s₃
end
end
section
section
variable {prog : Program} {w : World} {A : Around} {E : Value → Shared → Prop} {env : Env}
/-- the element of a comprehension without a test, told by a relation Rel over the heap and what is built -/
def EltT (prog : Program) (w : World) (A : Around) (env : Env) (scope : Scope) (cl : List (Str × Addr)) (x : Str) (ifs : List Expr) (elt : Expr) (n : Nat) (wr mx : List Addr) (P : Nat → Value → Prop) (Rel : List Addr → Nat → Heap → List Value → Prop) (s₂ : Shared) : Prop :=
  ∀ X C i v s₃ m₃ ys E', s₂.heap.objs.size ≤ C → (∀ b ∈ X, ∃ o, s₃.heap.get? b = some o) → C ∈ X → (∀ b, b ∈ X → b < s₂.heap.objs.size → b ∈ wr) → i < n → P i v → Rel X i s₃.heap ys → s₃.heap.Ns C m₃ → m₃ x = some v → (∀ b o, b ∉ wr → b ∉ mx → s₂.heap.get? b = some o → s₃.heap.get? b = some o) →
    wpAny (model prog w) A (forIn ifs true fun c r => if r = true then do let ok ← isTrue c (compEnvC scope cl C env) (eval c (compEnvC scope cl C env)); pure (ForInStep.yield ok) else pure (ForInStep.yield r)) (fun ok s₄ =>
      if ok = true then wpAny (model prog w) A (eval elt (compEnvC scope cl C env)) (fun y s₅ => ∃ h' tk, s₅ = { s₃ with heap := h', toks := tk } ∧ Off mx s₃.heap h' ∧ Rel X (i + 1) h' (ys ++ [y])) E' s₄
      else ∃ h' tk, s₄ = { s₃ with heap := h', toks := tk } ∧ Off mx s₃.heap h' ∧ Rel X (i + 1) h' ys) E' s₃

theorem comp_blockT {elt iter : Expr} {ifs : List Expr} {x : Str} {px : Pos} {scope : Scope} {cl : List (Str × Addr)} {pos : Pos} {s₂ : Shared} {I : Addr} {fp wr mx : List Addr} {n : Nat} {P : Nat → Value → Prop}
    {St : Nat → Heap → Prop} (W : Walks prog w A I fp wr n P St) (hsz : n ≤ sizeLine) (Rel : List Addr → Nat → Heap → List Value → Prop) {RR : Value → Addr → Result → Shared → Prop}
    (hstab : ∀ X i h h' ys, Rel X i h ys → Off X h h' → Rel X i h' ys) (hmf : ∀ b ∈ mx, b ∉ fp) (hmx : ∀ b ∈ mx, b < s₂.heap.objs.size) (hlen : ∀ X i h ys, Rel X i h ys → ys.length ≤ i)
    (hlive : ∀ i h, St i h → ∀ b ∈ wr, ∃ o, h.get? b = some o)
    (hcell : ∀ y ∈ scope.names, y.2 ≠ .cell) (hkind : scope.kind = .function) (hx : scope.names.lookup x = some .local) (hst : St 0 s₂.heap) (hfp : ∀ b ∈ fp, b < s₂.heap.objs.size)
    (h0 : ∀ X, (∀ b, b ∈ X → b < s₂.heap.objs.size → b ∈ wr) → Rel X 0 s₂.heap []) (hq : EltT prog w A env scope cl x ifs elt n wr mx P Rel s₂)
    (hRR : ∀ X D C h' tk m' ys, s₂.heap.get? D = none → s₂.heap.get? C = none → D ≠ C → h'.Ns C m' → h'.PlainList D ys → C ∈ X → D ∈ X → (∀ b, b ∈ X → b < s₂.heap.objs.size → b ∈ wr) → Rel X n h' ys.toList →
      (∀ b o, b ∉ wr → b ∉ mx → s₂.heap.get? b = some o → h'.get? b = some o) → RR (.ref D) C (.ok .next) { s₂ with heap := h', toks := tk }) :
    wpAny (model prog w) A (newList []) (fun acc s₃ => wpAny (model prog w) A (newFunctionEnv scope env.globals cl [] env.qual none .none (some env)) (fun cenv s₄ =>
      codeAny (model prog w) A (.compStart (.ListComp elt [⟨.Name x px, iter, ifs, 0⟩] scope pos) 0 (.ref I) acc { cenv with scope := relabel scope env }) (RR acc cenv.locals) s₄) E s₃) E s₂ := by
  refine wpAny_newObj_type (wpAny_newFunctionEnv hcell (by intro y hy; simp at hy) (fun h₁ hns₁ hsb₁ => ?_) hkind)
  dsimp only at hns₁ hsb₁ ⊢
  generalize hH2 : s₂.heap.push { cls := .type "list", dict := none, data := .seq ([] : List Value).toArray } = H2 at hns₁ hsb₁ ⊢
  have hC : H2.objs.size = s₂.heap.objs.size + 1 := by rw [← hH2, Heap.size_push]
  obtain ⟨D, hD⟩ : ∃ D : Addr, D = s₂.heap.objs.size := ⟨_, rfl⟩
  obtain ⟨C, hC2⟩ : ∃ C : Addr, C = H2.objs.size := ⟨_, rfl⟩
  rw [← hC2] at hC hns₁ hsb₁ ⊢
  have nD : ∀ b, b < s₂.heap.objs.size → b ≠ D := fun b hb q => by rw [q, hD] at hb; exact Nat.lt_irrefl _ hb
  have nC : ∀ b, b < s₂.heap.objs.size → b ≠ C := fun b hb q => by rw [q, hC] at hb; exact Nat.lt_irrefl _ (Nat.lt_of_succ_lt hb)
  have hDC : D ≠ C := by rw [hC, hD]; exact Nat.ne_of_lt (Nat.lt_succ_self _)
  have hCle : s₂.heap.objs.size ≤ C := by rw [hC]; exact Nat.le_succ _
  rw [← hD]
  have hCf : C ∉ fp := fun hm => nC _ (hfp _ hm) rfl
  have hDf : D ∉ fp := fun hm => nD _ (hfp _ hm) rfl
  have hCm : C ∉ mx := fun hm => nC _ (hmx _ hm) rfl
  have hDm : D ∉ mx := fun hm => nD _ (hmx _ hm) rfl
  have old : ∀ b o, s₂.heap.get? b = some o → h₁.get? b = some o := fun b o e =>
    hsb₁.extBut b o (nC b (Heap.lt_size e)) (Heap.get?_push_of_some _ (hH2 ▸ Heap.get?_push_of_some _ e))
  have hacc : h₁.PlainList D #[] := ⟨0, hsb₁.extBut _ _ hDC (Heap.get?_push_of_some _ (by rw [hD, ← hH2]; exact Heap.get?_push_size _ rfl))⟩
  have hst₁ : St 0 h₁ := W.frame _ _ _ hst fun b _ o e => old b o e
  let X : List Addr := C :: D :: wr
  have hXw : ∀ b, b ∈ X → b < s₂.heap.objs.size → b ∈ wr := fun b hb hlt => by
    rcases List.mem_cons.mp hb with e | hb
    · exact absurd e (nC b hlt)
    · rcases List.mem_cons.mp hb with e | hb
      · exact absurd e (nD b hlt)
      · exact hb
  have hwm : ∀ b ∈ wr, b ∉ mx := fun b hb q => hmf b q (W.sub b hb)
  have loop : ∀ s₃ : Shared, s₃ = { s₂ with heap := h₁, toks := s₂.toks + ([] : List (Str × Value)).length } →
      codeAny (model prog w) A (.compLoop (.ListComp elt [⟨.Name x px, iter, ifs, 0⟩] scope pos) 0 (.ref I) (.ref D) (compEnvC scope cl C env)) (RR (.ref D) C) s₃ := by
    rintro s₃ rfl
    refine codeAny_compLoop_tests
      (fun k s' => ∃ h' tk m' ys i, s' = { s₂ with heap := h', toks := tk } ∧ St i h' ∧ h'.PlainList D ys ∧ h'.Ns C m' ∧ Rel X i h' ys.toList ∧ i ≤ n ∧ k = n + 1 - i ∧
        (∀ b o, b ∉ wr → b ∉ mx → s₂.heap.get? b = some o → h'.get? b = some o)) ?_ (n + 1)
      ⟨h₁, _, _, #[], 0, rfl, hst₁, hacc, hns₁, hstab X 0 s₂.heap h₁ [] (h0 X hXw) (fun b o _ e => old b o e), Nat.zero_le _, rfl, fun b o _ _ e => old b o e⟩
    rintro k s' ⟨h', tk, m', ys, i, rfl, hst', hacc', hn', hR, hi, rfl, hk⟩
    by_cases hlt : i < n
    · refine W.item i _ _ _ hlt hst' fun v g₁ tk₁ hPv hst₂ hk₁ => ?_
      have hCw : C ∉ wr := fun q => hCf (W.sub _ q)
      have hDw : D ∉ wr := fun q => hDf (W.sub _ q)
      refine wpAny_assign_Name (wpAny_storeName_local (env := compEnvC scope cl C env) (lookup_relabel_local hx) (hn'.at' fun o e => hk₁ _ o hCw e) (fun g₂ hn₂ hs₂ => ?_) (by simp [compEnvC, relabel, hkind]))
      have hst₃ : St (i + 1) g₂ := W.frame _ _ _ hst₂ fun b hb o e => hs₂.extBut b o (fun q => hCf (by rw [← (show b = C from q)]; exact hb)) e
      have hR₂ : Rel X i g₂ ys.toList := hstab X i h' g₂ _ hR fun b o hb e => hs₂.extBut b o (fun q => hb (by rw [show b = C from q]; exact List.mem_cons_self ..)) (hk₁ b o (fun q => hb (List.mem_cons_of_mem _ (List.mem_cons_of_mem _ q))) e)
      have hacc₂ : g₂.PlainList D ys := (hacc'.at fun o e => hk₁ _ o hDw e).extBut hs₂.extBut hDC
      have hX : ∀ b ∈ X, ∃ o, g₂.get? b = some o := fun b hb => by
        rcases List.mem_cons.mp hb with e | hb
        · obtain ⟨o, _, _, ho, _⟩ := hn₂; exact ⟨o, e ▸ ho⟩
        · rcases List.mem_cons.mp hb with e | hb
          · obtain ⟨_, ho⟩ := hacc₂; exact ⟨_, e ▸ ho⟩
          · exact hlive _ _ hst₃ b hb
      refine wpAny_mono (hq X C i v _ _ _ _ hCle hX (List.mem_cons_self ..) hXw hlt hPv hR₂ hn₂ (by simp) (fun b o hb hb2 e => hs₂.extBut b o (nC b (Heap.lt_size e)) (hk₁ b o hb (hk b o hb hb2 e)))) (fun ok s₄ h₄ => ?_) fun _ _ e => e
      cases ok with
      | false =>
        rw [if_neg (by simp)] at h₄
        rw [if_neg (by simp)]
        obtain ⟨g₃, tk₃, rfl, hoff, hR₃⟩ := h₄
        have hacc₃ : g₃.PlainList D ys := hacc₂.at fun o e => hoff _ o hDm e
        refine ⟨n + 1 - (i + 1), by omega, g₃, tk₃, _, ys, i + 1, rfl, ?_, hacc₃, hn₂.at' fun o e => hoff _ o hCm e, hR₃, hlt, rfl, fun b o hb hb2 e => ?_⟩
        · exact W.frame _ _ _ hst₃ fun b hb o e => hoff b o (fun q => hmf b q hb) e
        · exact hoff b o hb2 (hs₂.extBut b o (nC b (Heap.lt_size e)) (hk₁ b o hb (hk b o hb hb2 e)))
      | true =>
        rw [if_pos rfl] at h₄
        rw [if_pos rfl]
        refine wpAny_mono h₄ (fun y s₅ h₅ => ?_) fun _ _ e => e
        obtain ⟨g₃, tk₃, rfl, hoff, hR₃⟩ := h₅
        have hacc₃ : g₃.PlainList D ys := hacc₂.at fun o e => hoff _ o hDm e
        have hys : ys.size ≤ sizeLine := by
          have e1 := hlen _ _ _ _ hR
          rw [Array.length_toList] at e1
          exact Nat.le_trans e1 (Nat.le_trans hi hsz)
        refine wpAny_list_append_plain (hsz := hys) hacc₃ fun g₄ hl₄ hs₄ => ?_
        have hR₄ : Rel X (i + 1) g₄ (ys.push y).toList := by
          have := hstab X (i + 1) g₃ g₄ _ hR₃ fun b o hb e => hs₄.extBut b o (fun q => hb (q ▸ List.mem_cons_of_mem _ (List.mem_cons_self ..))) e
          simpa using this
        refine ⟨n + 1 - (i + 1), by omega, g₄, tk₃, _, ys.push y, i + 1, rfl, ?_, hl₄, (hn₂.at' fun o e => hoff _ o hCm e).sameBut hs₄ (Ne.symm hDC), hR₄, hlt, rfl, fun b o hb hb2 e => ?_⟩
        · refine W.frame _ _ _ hst₃ fun b hb o e => hs₄.extBut b o (fun q => hDf (q ▸ hb)) (hoff b o (fun q => hmf b q hb) e)
        · exact hs₄.extBut b o (nD b (Heap.lt_size e)) (hoff b o hb2 (hs₂.extBut b o (nC b (Heap.lt_size e)) (hk₁ b o hb (hk b o hb hb2 e))))
    · have hin : i = n := by omega
      subst hin
      refine W.done _ _ _ hst' fun g₁ tk₁ hk₁ => ?_
      have hCw : C ∉ wr := fun q => hCf (W.sub _ q)
      have hDw : D ∉ wr := fun q => hDf (W.sub _ q)
      exact hRR X D C g₁ tk₁ m' ys (by rw [hD]; exact Heap.get?_none_of_le (Nat.le_refl _)) (Heap.get?_none_of_le hCle) hDC (hn'.at' fun o e => hk₁ _ o hCw e) (hacc'.at fun o e => hk₁ _ o hDw e) (List.mem_cons_self ..) (List.mem_cons_of_mem _ (List.mem_cons_self ..)) hXw
        (hstab X i h' g₁ _ hR fun b o hb e => hk₁ b o (fun q => hb (List.mem_cons_of_mem _ (List.mem_cons_of_mem _ q))) e) fun b o hb hb2 e => hk₁ b o hb (hk b o hb hb2 e)
  exact codeAny_compStart_list (loop _ rfl) (W.self 0 _ _ _ hst₁ (loop _ rfl))
end
section
variable {prog : Program} {w : World} {A : Around} {E : Value → Shared → Prop} {env : Env} {s : Shared}
structure CompAtT (prog : Program) (w : World) (A : Around) (env : Env) (scope : Scope) (cl : List (Str × Addr)) (x : Str) (ifs : List Expr) (elt : Expr) (I : Addr) (fp wr mx : List Addr) (n : Nat) (P : Nat → Value → Prop) (St : Nat → Heap → Prop) (Rel : List Addr → Nat → Heap → List Value → Prop) (s₂ : Shared) : Prop where
  W : Walks prog w A I fp wr n P St
  sz : n ≤ sizeLine
  stab : ∀ X i h h' ys, Rel X i h ys → Off X h h' → Rel X i h' ys
  mf : ∀ b ∈ mx, b ∉ fp
  mxlt : ∀ b ∈ mx, b < s₂.heap.objs.size
  len : ∀ X i h ys, Rel X i h ys → ys.length ≤ i
  live : ∀ i h, St i h → ∀ b ∈ wr, ∃ o, h.get? b = some o
  st : St 0 s₂.heap
  fplt : ∀ b ∈ fp, b < s₂.heap.objs.size
  h0 : ∀ X, (∀ b, b ∈ X → b < s₂.heap.objs.size → b ∈ wr) → Rel X 0 s₂.heap []
  elt : EltT prog w A env scope cl x ifs elt n wr mx P Rel s₂

theorem ListCompT {elt iter : Expr} {ifs : List Expr} {x : Str} {px : Pos} {scope : Scope} {cl : List (Str × Addr)} {pos : Pos} {Q : Value → Shared → Prop} {Rel : List Addr → Nat → Heap → List Value → Prop} {mx : List Addr}
    (hclos : closureFor scope env = pure cl) (hcell : ∀ y ∈ scope.names, y.2 ≠ .cell) (hkind : scope.kind = .function)
    (hnames : ∀ y ∈ scope.names, y.2 = .local → scope.names.lookup y.1 = some .local) (hx : scope.names.lookup x = some .local)
    (h : wpAny (model prog w) A (eval iter env) (fun xv s₁ => wpAny (model prog w) A (pyIter xv) (fun it s₂ => ∃ I fp wr n P St, it = .ref I ∧ CompAtT prog w A env scope cl x ifs elt I fp wr mx n P St Rel s₂ ∧
      (∀ X D h' tk ys, D ∈ X → s₂.heap.get? D = none → h'.PlainList D ys → Rel X n h' ys.toList → (∀ b o, b ∉ wr → b ∉ mx → s₂.heap.get? b = some o → h'.get? b = some o) → Q (.ref D) { s₂ with heap := h', toks := tk })) E s₁) E s)
    (hs : ∀ x, foldedSetIterable iter env x = pure x) :
    wpAny (model prog w) A (eval (.ListComp elt [⟨.Name x px, iter, ifs, 0⟩] scope pos) env) Q E s := by
  rw [eval_ListComp]
  refine wpAny_comprehension_free (use := none) rfl hs hclos hkind hnames (wpAny_mono h (fun xv s₁ h₁ => wpAny_mono h₁ (fun it s₂ h₂ => ?_) fun _ _ e => e) fun _ _ e => e)
  obtain ⟨I, fp, wr, n, P, St, rfl, c, hQ⟩ := h₂
  refine comp_blockT (RR := fun acc C => compPost (model prog w) A E none Q acc C) c.W c.sz Rel c.stab c.mf c.mxlt c.len c.live hcell hkind hx c.st c.fplt c.h0 c.elt ?_
  intro X D C h' tk m' ys hD hC hDC hn hl hCX hDX _ hR hk
  exact ⟨m', hn, fun h'' hs'' => hQ X D h'' tk ys hDX hD (hl.extBut hs''.extBut hDC) (c.stab _ _ _ _ _ hR fun b o hb e => hs''.extBut b o (fun q => hb (by rw [q]; exact hCX)) e) fun b o hb hb2 e => hs''.extBut b o (by rintro rfl; rw [hC] at e; cases e) (hk b o hb hb2 e)⟩

theorem Assign_ListCompT {elt iter : Expr} {ifs : List Expr} {x y : Str} {px py : Pos} {scope : Scope} {cl : List (Str × Addr)} {pos spos : Pos} {Q : Flow → Shared → Prop} {Rel : List Addr → Nat → Heap → List Value → Prop} {mx : List Addr}
    (hsw : swapsWith (.ListComp elt [⟨.Name x px, iter, ifs, 0⟩] scope pos) (some (.Name y py)) spos.line env = pure true)
    (hclos : closureFor scope env = pure cl) (hcell : ∀ z ∈ scope.names, z.2 ≠ .cell) (hkind : scope.kind = .function)
    (hnames : ∀ z ∈ scope.names, z.2 = .local → scope.names.lookup z.1 = some .local) (hx : scope.names.lookup x = some .local)
    (hy : env.kindOf y = some .local) (hp : (env.scope.kind == .class || (env.scope.kind == .module && env.locals != env.globals)) = false)
    (h : wpAny (model prog w) A (eval iter env) (fun xv s₁ => wpAny (model prog w) A (pyIter xv) (fun it s₂ => ∃ I fp wr n P St m, it = .ref I ∧ CompAtT prog w A env scope cl x ifs elt I fp wr mx n P St Rel s₂ ∧ env.locals ∉ wr ∧ env.locals ∉ mx ∧ s₂.heap.Ns env.locals m ∧
      (∀ D h' tk ys h₀, s₂.heap.get? D = none → h₀.PlainList D ys → (∃ X, D ∈ X ∧ Rel X n h₀ ys.toList) → (∀ b o, b ≠ env.locals → h₀.get? b = some o → h'.get? b = some o) →
        h'.Ns env.locals (fun z => if z = y then some (.ref D) else m z) → (∀ b o, b ≠ env.locals → b ∉ wr → b ∉ mx → s₂.heap.get? b = some o → h'.get? b = some o) → Q .next { s₂ with heap := h', toks := tk })) E s₁) E s)
    (hs : ∀ x, foldedSetIterable iter env x = pure x) :
    wpAny (model prog w) A (exec (.Assign [.Name y py] (.ListComp elt [⟨.Name x px, iter, ifs, 0⟩] scope pos) spos) env) Q E s := by
  rw [exec_Assign_Name_used _ _ _ _ hsw]
  refine wpAny_bind (wpAny_standAt (wpAny_bind ?_))
  show wpAny _ A (do let _ ← comprehension (.ListComp elt [⟨.Name x px, iter, ifs, 0⟩] scope pos) scope env _ (newList []) false (eval iter env) (some (assign (.Name y py) env))) _ _ s
  refine wpAny_bind (wpAny_mono (wpAny_comprehension_free (use := some (assign (.Name y py) env)) (Q := fun _ s' => Q .next s') rfl hs hclos hkind hnames
    (wpAny_mono h (fun xv s₁ h₁ => wpAny_mono h₁ (fun it s₂ h₂ => ?_) fun _ _ e => e) fun _ _ e => e)) (fun _ s' hq => wpAny_pure (wpAny_pure hq)) fun _ _ e => e)
  obtain ⟨I, fp, wr, n, P, St, m, rfl, c, hLf, hLm, hn, hQ⟩ := h₂
  refine comp_blockT (RR := fun acc C => compPost (model prog w) A E (some (assign (.Name y py) env)) (fun _ s' => Q .next s') acc C) c.W c.sz Rel c.stab c.mf c.mxlt c.len c.live hcell hkind hx c.st c.fplt c.h0 c.elt ?_
  intro X D C h' tk m' ys hD hC hDC hnC hl hCX hDX _ hR hk
  have hLC : env.locals ≠ C := by rintro rfl; obtain ⟨o, _, _, ho, _⟩ := hn; rw [hC] at ho; cases ho
  have hLD : env.locals ≠ D := by rintro rfl; obtain ⟨o, _, _, ho, _⟩ := hn; rw [hD] at ho; cases ho
  show wpAny _ A (assign (.Name y py) env (.ref D)) _ _ _
  refine wpAny_assign_Name (wpAny_storeName_local hy (hn.at' fun o e => hk _ o hLf hLm e) (fun h₂ hn₂ hs₂ => ?_) hp)
  refine ⟨m', hnC.sameBut hs₂ (Ne.symm hLC), fun h₃ hs₃ => ?_⟩
  have hl₂ : h₂.PlainList D ys := hl.extBut hs₂.extBut (Ne.symm hLD)
  -- the relation holds once the block's frame has been let go, before the name was stored: told at a heap h₀ that differs from the end at the frame alone
  obtain ⟨g, hg1, hg2⟩ : ∃ g : Heap, (∀ b o, b ≠ C → h'.get? b = some o → g.get? b = some o) ∧ (∀ b o, b ≠ env.locals → g.get? b = some o → h₃.get? b = some o) := by
    refine ⟨hideAll h' [C], fun b o hb e => hideAll_get _ e (by simpa using hb), fun b o hb e => ?_⟩
    have hbC : b ≠ C := by
      rintro rfl
      rw [hideAll_none [b] (by simp)] at e
      cases e
    exact hs₃.extBut b o hbC (hs₂.extBut b o hb (of_hideAll _ e))
  exact hQ D h₃ _ ys g hD ⟨hl.choose, hg1 D _ hDC hl.choose_spec⟩ ⟨X, hDX, c.stab _ _ _ _ _ hR fun b o hb e => hg1 b o (fun q => hb (by rw [q]; exact hCX)) e⟩ hg2 (hn₂.sameBut hs₃ hLC) fun b o hbL hb hb2 e =>
    hs₃.extBut b o (by rintro rfl; rw [hC] at e; cases e) (hs₂.extBut b o hbL (hk b o hb hb2 e))
end

section
variable {prog : Program} {w : World} {A : Around} {E : Value → Shared → Prop} {env : Env} {s : Shared}
def Tests (prog : Program) (w : World) (A : Around) (ifs : List Expr) (elt : Expr) (env : Env) (E : Value → Shared → Prop) (yes : Value → Shared → Prop) (no : Shared → Prop) (s : Shared) : Prop :=
  wpAny (model prog w) A (forIn ifs true fun c r => if r = true then do let ok ← isTrue c env (eval c env); pure (ForInStep.yield ok) else pure (ForInStep.yield r)) (fun ok s₄ =>
      if ok = true then wpAny (model prog w) A (eval elt env) yes E s₄ else no s₄) E s
theorem Tests.nil {elt : Expr} {yes : Value → Shared → Prop} {no : Shared → Prop} (h : wpAny (model prog w) A (eval elt env) yes E s) : Tests prog w A [] elt env E yes no s :=
  wpAny_tests_nil (by rw [if_pos rfl]; exact h)
theorem Tests.one {c elt : Expr} {yes : Value → Shared → Prop} {no : Shared → Prop} (h : wpAny (model prog w) A (isTrue c env (eval c env)) (fun b s₄ => Halt (if b = true then wpAny (model prog w) A (eval elt env) yes E s₄ else no s₄)) E s) : Tests prog w A [c] elt env E yes no s :=
  wpAny_tests_one h
theorem compAt_list {scope : Scope} {cl : List (Str × Addr)} {x : Str} {elt : Expr} {vs : List Value} {l : Addr} {Rel : List Addr → Nat → Heap → List Value → Prop}
    (hh : A.handled = none) (hl : s.heap.IsList l vs.toArray) (hz : vs.length ≤ 1000) (hstab : ∀ X i h h' ys, Rel X i h ys → Off X h h' → Rel X i h' ys) (hlen : ∀ X i h ys, Rel X i h ys → ys.length = i)
    (h0 : ∀ X, (∀ b ∈ X, s.heap.objs.size ≤ b) → Rel X 0 s.heap []) (he : EltL prog w A env scope cl x elt vs Rel s) :
    CompAtT prog w A env scope cl x [] elt s.heap.objs.size [s.heap.objs.size, l] [s.heap.objs.size] [] vs.length (fun i v => vs.toArray[i]? = some v) (fun i h => h.IsListIter s.heap.objs.size l i ∧ h.IsList l vs.toArray) Rel
      { s with heap := s.heap.push { cls := .type "list_iterator", data := .fields #[.ref l, .int 0 0] } } := by
  obtain ⟨ol, hol, hol'⟩ := id hl
  have hlt := Heap.lt_size hol
  have key : ∀ X : List Addr, (∀ b, b ∈ X → b < (s.heap.push { cls := .type "list_iterator", data := .fields #[.ref l, .int 0 0] }).objs.size → b ∈ [s.heap.objs.size]) → ∀ b ∈ X, s.heap.objs.size ≤ b := fun X hX b hb => by
    by_cases q : b < (s.heap.push { cls := .type "list_iterator", data := .fields #[.ref l, .int 0 0] }).objs.size
    · rw [List.mem_singleton.mp (hX b hb q)]; exact Nat.le_refl _
    · rw [Heap.size_push] at q
      exact Nat.le_of_lt (Nat.le_of_not_lt q)
  refine ⟨?_, ?_, hstab, by simp, by simp, fun X i h ys R => Nat.le_of_eq (hlen X i h ys R), ?_, ⟨⟨_, Heap.get?_push_size _ rfl, rfl, rfl⟩, hl.at fun o e => Heap.get?_push_of_some _ e⟩, ?_, fun X hX => ?_, ?_⟩
  · have := Walks.list (prog := prog) (w := w) hh s.heap.objs.size l (Nat.ne_of_lt hlt) vs.toArray
    rwa [List.size_toArray] at this
  · rw [sizeLine_eq]; omega
  · rintro i h ⟨⟨o, ho, _⟩, _⟩ b hb
    rw [List.mem_singleton.mp hb]; exact ⟨o, ho⟩
  · intro b hb
    rw [Heap.size_push]
    rcases List.mem_cons.mp hb with e | hb
    · rw [e]; exact Nat.lt_succ_self _
    · rw [List.mem_singleton.mp hb]; exact Nat.lt_succ_of_lt hlt
  · exact hstab X 0 _ _ _ (h0 X (key X hX)) fun b o _ e => Heap.get?_push_of_some _ e
  · intro X C i v s₃ m₃ ys E' hC hX hCX hXw _ hP hR hn hm hk
    refine Tests.nil (wpAny_mono (he X C i v s₃ m₃ ys E' (by rw [Heap.size_push] at hC; exact Nat.le_of_succ_le hC) hX hCX (key X hXw) (by simpa using hP) hR hn hm (fun b o e => hk b o (fun q => by rw [List.mem_singleton.mp q] at e; exact absurd (Heap.lt_size e) (Nat.lt_irrefl _)) (by simp) (Heap.get?_push_of_some _ e))) (fun y s₄ h₄ => ?_) fun _ _ e => e)
    obtain ⟨h', tk, rfl, x, r⟩ := h₄
    exact ⟨h', tk, rfl, off_nil.mpr x, r⟩

theorem ListCompL {elt iter : Expr} {x : Str} {px : Pos} {scope : Scope} {cl : List (Str × Addr)} {pos : Pos} {Q : Value → Shared → Prop} (Rel : List Addr → Nat → Heap → List Value → Prop)
    (hstab : ∀ X i h h' ys, Rel X i h ys → Off X h h' → Rel X i h' ys) (hlen : ∀ X i h ys, Rel X i h ys → ys.length = i)
    (hh : A.handled = none) (hclos : closureFor scope env = pure cl) (hcell : ∀ y ∈ scope.names, y.2 ≠ .cell) (hkind : scope.kind = .function)
    (hnames : ∀ y ∈ scope.names, y.2 = .local → scope.names.lookup y.1 = some .local) (hx : scope.names.lookup x = some .local)
    (h : wpAny (model prog w) A (eval iter env) (fun xv s₁ => Halt (∃ l vs, xv = .ref l ∧ s₁.heap.IsList l vs.toArray ∧ vs.length ≤ 1000 ∧ (∀ X, (∀ b ∈ X, s₁.heap.objs.size ≤ b) → Rel X 0 s₁.heap []) ∧ EltL prog w A env scope cl x elt vs Rel s₁ ∧
      (∀ X D h' tk ys, D ∈ X → s₁.heap.get? D = none → h'.PlainList D ys → Rel X vs.length h' ys.toList → Ext s₁.heap h' → Q (.ref D) { s₁ with heap := h', toks := tk }))) E s)
    (hs : ∀ x, foldedSetIterable iter env x = pure x) :
    wpAny (model prog w) A (eval (.ListComp elt [⟨.Name x px, iter, [], 0⟩] scope pos) env) Q E s := by
  refine ListCompT (Rel := Rel) (mx := []) hclos hcell hkind hnames hx (wpAny_mono h (fun xv s₁ h₁ => ?_) fun _ _ e => e) hs
  obtain ⟨l, vs, rfl, hl, hz, h0, he, hQ⟩ := h₁
  refine wpAny_pyIter_list hl ⟨_, _, _, _, _, _, rfl, compAt_list hh hl hz hstab hlen h0 he, fun X D h' tk ys hDX hD hp hR hk => ?_⟩
  have nI : ∀ b o, s₁.heap.get? b = some o → b ∉ [s₁.heap.objs.size] := fun b o e q => by rw [List.mem_singleton.mp q] at e; exact absurd (Heap.lt_size e) (Nat.lt_irrefl _)
  exact hQ X D h' tk ys hDX (by
    cases e : s₁.heap.get? D with
    | none => rfl
    | some o => rw [show (s₁.heap.push _).get? D = some o from Heap.get?_push_of_some _ e] at hD; cases hD) hp hR fun b o e => hk b o (nI b o e) (by simp) (Heap.get?_push_of_some _ e)

theorem AssignListCompL {elt iter : Expr} {x y : Str} {px py : Pos} {scope : Scope} {cl : List (Str × Addr)} {pos spos : Pos} {Q : Flow → Shared → Prop} (Rel : List Addr → Nat → Heap → List Value → Prop)
    (hstab : ∀ X i h h' ys, Rel X i h ys → Off X h h' → Rel X i h' ys) (hlen : ∀ X i h ys, Rel X i h ys → ys.length = i)
    (hsw : swapsWith (.ListComp elt [⟨.Name x px, iter, [], 0⟩] scope pos) (some (.Name y py)) spos.line env = pure true)
    (hh : A.handled = none) (hclos : closureFor scope env = pure cl) (hcell : ∀ z ∈ scope.names, z.2 ≠ .cell) (hkind : scope.kind = .function)
    (hnames : ∀ z ∈ scope.names, z.2 = .local → scope.names.lookup z.1 = some .local) (hx : scope.names.lookup x = some .local)
    (hy : env.kindOf y = some .local) (hp : (env.scope.kind == .class || (env.scope.kind == .module && env.locals != env.globals)) = false)
    (h : wpAny (model prog w) A (eval iter env) (fun xv s₁ => Halt (∃ l vs m, xv = .ref l ∧ s₁.heap.IsList l vs.toArray ∧ vs.length ≤ 1000 ∧ s₁.heap.Ns env.locals m ∧ (∀ X, (∀ b ∈ X, s₁.heap.objs.size ≤ b) → Rel X 0 s₁.heap []) ∧ EltL prog w A env scope cl x elt vs Rel s₁ ∧
      (∀ X D h' tk ys h₀, D ∈ X → s₁.heap.get? D = none → h₀.PlainList D ys → Rel X vs.length h₀ ys.toList → (∀ b o, b ≠ env.locals → h₀.get? b = some o → h'.get? b = some o) →
        h'.Ns env.locals (fun z => if z = y then some (.ref D) else m z) → (∀ b o, b ≠ env.locals → s₁.heap.get? b = some o → h'.get? b = some o) → Q .next { s₁ with heap := h', toks := tk }))) E s)
    (hs : ∀ x, foldedSetIterable iter env x = pure x) :
    wpAny (model prog w) A (exec (.Assign [.Name y py] (.ListComp elt [⟨.Name x px, iter, [], 0⟩] scope pos) spos) env) Q E s := by
  refine Assign_ListCompT (Rel := Rel) (mx := []) hsw hclos hcell hkind hnames hx hy hp (wpAny_mono h (fun xv s₁ h₁ => ?_) fun _ _ e => e) hs
  obtain ⟨l, vs, m, rfl, hl, hz, hn, h0, he, hQ⟩ := h₁
  have nI : ∀ b o, s₁.heap.get? b = some o → b ∉ [s₁.heap.objs.size] := fun b o e q => by rw [List.mem_singleton.mp q] at e; exact absurd (Heap.lt_size e) (Nat.lt_irrefl _)
  refine wpAny_pyIter_list hl ⟨_, _, _, _, _, _, m, rfl, compAt_list hh hl hz hstab hlen h0 he, ?_, by simp, hn.at' fun o e => Heap.get?_push_of_some _ e, fun D h' tk ys h₀ hD hp hR hk hn' hk' => ?_⟩
  · obtain ⟨o, _, _, ho, _⟩ := hn; exact nI _ _ ho
  obtain ⟨X, hDX, hR⟩ := hR
  exact hQ X D h' tk ys h₀ hDX (by
    cases e : s₁.heap.get? D with
    | none => rfl
    | some o => rw [show (s₁.heap.push _).get? D = some o from Heap.get?_push_of_some _ e] at hD; cases hD) hp hR hk hn' fun b o hb e => hk' b o hb (nI b o e) (by simp) (Heap.get?_push_of_some _ e)
def EndG (mx : List Addr) (s₃ : Shared) (P : Heap → Prop) (s₄ : Shared) : Prop := ∃ h' tk, s₄ = { s₃ with heap := h', toks := tk } ∧ Off mx s₃.heap h' ∧ P h'
def KeepBut (mx : List Addr) (h h' : Heap) : Prop := ∀ b o, b ∉ mx → h.get? b = some o → h'.get? b = some o
/-- what a comprehension over a range wants of a turn -/
def EltG (prog : Program) (w : World) (A : Around) (env : Env) (scope : Scope) (cl : List (Str × Addr)) (x : Str) (ifs : List Expr) (elt : Expr) (n : Nat) (mx : List Addr) (Rel : List Addr → Nat → Heap → List Value → Prop) (s₁ : Shared) : Prop :=
  ∀ X C i t s₃ m₃ ys E', i < n → s₁.heap.objs.size ≤ C → (∀ b ∈ X, ∃ o, s₃.heap.get? b = some o) → C ∈ X → (∀ b ∈ X, s₁.heap.objs.size ≤ b) → Rel X i s₃.heap ys → s₃.heap.Ns C m₃ → m₃ x = some (.int (i : Nat) t) → KeepBut mx s₁.heap s₃.heap →
    Tests prog w A ifs elt (compEnvC scope cl C env) E' (fun y s₅ => EndG mx s₃ (fun h' => Rel X (i + 1) h' (ys ++ [y])) s₅) (fun s₄ => EndG mx s₃ (fun h' => Rel X (i + 1) h' ys) s₄) s₃
theorem small_range {n : Nat} (hn : n < 1000) : Builtin.Range.small 0 (n : Int) 1 = true := by
  have hsz : Builtin.Range.rangeSize 0 (n : Int) 1 = (n : Int) := by simp [Builtin.Range.rangeSize]; omega
  unfold Builtin.Range.small
  have f : ∀ i : Int, 0 ≤ i → i < 2000 → Builtin.Range.rangeFitsLong i = true := fun i h1 h2 => by
    unfold Builtin.Range.rangeFitsLong
    simp only [Bool.and_eq_true, decide_eq_true_eq]
    omega
  rw [hsz, f 0 (by omega) (by omega), f n (by omega) (by omega), f 1 (by omega) (by omega), if_pos (by omega), f _ (by omega) (by omega)]
  simp
def rangeIt (n : Nat) : Obj := { cls := .type "range_iterator", data := .fields #[rawInt 0, rawInt (n : Int), rawInt 1] }
theorem compAtT_range {scope : Scope} {cl : List (Str × Addr)} {x : Str} {ifs : List Expr} {elt : Expr} {n : Nat} {mx : List Addr} {Rel : List Addr → Nat → Heap → List Value → Prop}
    (hh : A.handled = none) (hz : n < 1000) (hm : ∀ b ∈ mx, b < s.heap.objs.size) (hstab : ∀ X i h h' ys, Rel X i h ys → Off X h h' → Rel X i h' ys) (hlen : ∀ X i h ys, Rel X i h ys → ys.length ≤ i)
    (h0 : ∀ X, (∀ b ∈ X, s.heap.objs.size ≤ b) → Rel X 0 s.heap []) (he : EltG prog w A env scope cl x ifs elt n mx Rel s) :
    CompAtT prog w A env scope cl x ifs elt s.heap.objs.size [s.heap.objs.size] [s.heap.objs.size] mx n (fun i v => ∃ t, v = .int (0 + (i : Int) * 1) t) (fun i h => IsRangeIter h s.heap.objs.size (0 + (i : Nat) * 1) ((n : Int) - (i : Nat)) 1) Rel
      { s with heap := s.heap.push (rangeIt n) } := by
  have key : ∀ X : List Addr, (∀ b, b ∈ X → b < (s.heap.push (rangeIt n)).objs.size → b ∈ [s.heap.objs.size]) → ∀ b ∈ X, s.heap.objs.size ≤ b := fun X hX b hb => by
    by_cases q : b < (s.heap.push (rangeIt n)).objs.size
    · rw [List.mem_singleton.mp (hX b hb q)]; exact Nat.le_refl _
    · rw [Heap.size_push] at q
      exact Nat.le_of_lt (Nat.le_of_not_lt q)
  refine ⟨Walks.range hh _ 0 1 n, ?_, hstab, ?_, ?_, hlen, ?_, ?_, ?_, fun X hX => ?_, ?_⟩
  · rw [sizeLine_eq]; omega
  · intro b hb q
    exact absurd (hm b hb) ((List.mem_singleton.mp q) ▸ Nat.lt_irrefl _)
  · intro b hb
    show b < (s.heap.push _).objs.size
    rw [Heap.size_push]; exact Nat.lt_succ_of_lt (hm b hb)
  · intro i h hi b hb
    rw [List.mem_singleton.mp hb]; exact ⟨_, hi⟩
  · have z : IsRangeIter (s.heap.push (rangeIt n)) s.heap.objs.size 0 (n : Int) 1 := Heap.get?_push_size _ rfl
    simpa using z
  · intro b hb
    show b < (s.heap.push _).objs.size
    rw [Heap.size_push, List.mem_singleton.mp hb]; exact Nat.lt_succ_self _
  · exact hstab X 0 _ _ _ (h0 X (key X hX)) fun b o _ e => Heap.get?_push_of_some _ e
  · intro X C i v s₃ m₃ ys E' hC hX hCX hXw hin hP hR hn hm' hk
    obtain ⟨t, rfl⟩ := hP
    have e : (0 + (i : Int) * 1) = (i : Int) := by omega
    rw [e] at hm'
    exact he X C i t s₃ m₃ ys E' hin (by rw [Heap.size_push] at hC; exact Nat.le_of_succ_le hC) hX hCX (key X hXw) hR hn hm' (fun b o hb q => hk b o (fun z => by rw [List.mem_singleton.mp z] at q; exact absurd (Heap.lt_size q) (Nat.lt_irrefl _)) hb (Heap.get?_push_of_some _ q))

theorem ListCompG {elt iter : Expr} {ifs : List Expr} {x : Str} {px : Pos} {scope : Scope} {cl : List (Str × Addr)} {pos : Pos} {Q : Value → Shared → Prop} (mx : List Addr) (Rel : List Addr → Nat → Heap → List Value → Prop)
    (hstab : ∀ X i h h' ys, Rel X i h ys → Off X h h' → Rel X i h' ys) (hlen : ∀ X i h ys, Rel X i h ys → ys.length ≤ i)
    (hh : A.handled = none) (hclos : closureFor scope env = pure cl) (hcell : ∀ y ∈ scope.names, y.2 ≠ .cell) (hkind : scope.kind = .function)
    (hnames : ∀ y ∈ scope.names, y.2 = .local → scope.names.lookup y.1 = some .local) (hx : scope.names.lookup x = some .local)
    (h : wpAny (model prog w) A (eval iter env) (fun xv s₁ => Halt (∃ r n t u v, xv = .ref r ∧ IsRange s₁.heap r 0 ((n : Nat) : Int) 1 t u v ∧ n < 1000 ∧ (∀ b ∈ mx, b < s₁.heap.objs.size) ∧ (∀ X, (∀ b ∈ X, s₁.heap.objs.size ≤ b) → Rel X 0 s₁.heap []) ∧ EltG prog w A env scope cl x ifs elt n mx Rel s₁ ∧
      (∀ X D h' tk ys, D ∈ X → s₁.heap.get? D = none → h'.PlainList D ys → Rel X n h' ys.toList → KeepBut mx s₁.heap h' → Q (.ref D) { s₁ with heap := h', toks := tk }))) E s)
    (hs : ∀ x, foldedSetIterable iter env x = pure x) :
    wpAny (model prog w) A (eval (.ListComp elt [⟨.Name x px, iter, ifs, 0⟩] scope pos) env) Q E s := by
  refine ListCompT (Rel := Rel) (mx := mx) hclos hcell hkind hnames hx (wpAny_mono h (fun xv s₁ h₁ => ?_) fun _ _ e => e) hs
  obtain ⟨r, n, t, u, v, rfl, hr, hz, hm, h0, he, hQ⟩ := h₁
  have nI : ∀ b o, s₁.heap.get? b = some o → b ∉ [s₁.heap.objs.size] := fun b o e q => by rw [List.mem_singleton.mp q] at e; exact absurd (Heap.lt_size e) (Nat.lt_irrefl _)
  have hsz : Builtin.Range.rangeSize 0 (n : Int) 1 = (n : Int) := by simp [Builtin.Range.rangeSize]; omega
  refine wpAny_pyIter_range hr (small_range hz) ?_
  rw [hsz]
  refine ⟨_, _, _, _, _, _, rfl, compAtT_range hh hz hm hstab hlen h0 he, fun X D h' tk ys hDX hD hp hR hk => ?_⟩
  exact hQ X D h' tk ys hDX (by
    cases e : s₁.heap.get? D with
    | none => rfl
    | some o => cases (Heap.get?_push_of_some _ e).symm.trans hD) hp hR fun b o hb e => hk b o (nI b o e) hb (Heap.get?_push_of_some _ e)

theorem AssignListCompG {elt iter : Expr} {ifs : List Expr} {x y : Str} {px py : Pos} {scope : Scope} {cl : List (Str × Addr)} {pos spos : Pos} {Q : Flow → Shared → Prop} (mx : List Addr) (Rel : List Addr → Nat → Heap → List Value → Prop)
    (hstab : ∀ X i h h' ys, Rel X i h ys → Off X h h' → Rel X i h' ys) (hlen : ∀ X i h ys, Rel X i h ys → ys.length ≤ i)
    (hsw : swapsWith (.ListComp elt [⟨.Name x px, iter, ifs, 0⟩] scope pos) (some (.Name y py)) spos.line env = pure true)
    (hh : A.handled = none) (hclos : closureFor scope env = pure cl) (hcell : ∀ z ∈ scope.names, z.2 ≠ .cell) (hkind : scope.kind = .function)
    (hnames : ∀ z ∈ scope.names, z.2 = .local → scope.names.lookup z.1 = some .local) (hx : scope.names.lookup x = some .local)
    (hy : env.kindOf y = some .local) (hp : (env.scope.kind == .class || (env.scope.kind == .module && env.locals != env.globals)) = false)
    (h : wpAny (model prog w) A (eval iter env) (fun xv s₁ => Halt (∃ r n t u v m, xv = .ref r ∧ IsRange s₁.heap r 0 ((n : Nat) : Int) 1 t u v ∧ n < 1000 ∧ (∀ b ∈ mx, b < s₁.heap.objs.size) ∧ env.locals ∉ mx ∧ s₁.heap.Ns env.locals m ∧ (∀ X, (∀ b ∈ X, s₁.heap.objs.size ≤ b) → Rel X 0 s₁.heap []) ∧ EltG prog w A env scope cl x ifs elt n mx Rel s₁ ∧
      (∀ X D h' tk ys h₀, D ∈ X → s₁.heap.get? D = none → h₀.PlainList D ys → Rel X n h₀ ys.toList → (∀ b o, b ≠ env.locals → h₀.get? b = some o → h'.get? b = some o) →
        h'.Ns env.locals (fun z => if z = y then some (.ref D) else m z) → (∀ b o, b ≠ env.locals → b ∉ mx → s₁.heap.get? b = some o → h'.get? b = some o) → Q .next { s₁ with heap := h', toks := tk }))) E s)
    (hs : ∀ x, foldedSetIterable iter env x = pure x) :
    wpAny (model prog w) A (exec (.Assign [.Name y py] (.ListComp elt [⟨.Name x px, iter, ifs, 0⟩] scope pos) spos) env) Q E s := by
  refine Assign_ListCompT (Rel := Rel) (mx := mx) hsw hclos hcell hkind hnames hx hy hp (wpAny_mono h (fun xv s₁ h₁ => ?_) fun _ _ e => e) hs
  obtain ⟨r, n, t, u, v, m, rfl, hr, hz, hm, hLm, hn, h0, he, hQ⟩ := h₁
  have nI : ∀ b o, s₁.heap.get? b = some o → b ∉ [s₁.heap.objs.size] := fun b o e q => by rw [List.mem_singleton.mp q] at e; exact absurd (Heap.lt_size e) (Nat.lt_irrefl _)
  have hsz : Builtin.Range.rangeSize 0 (n : Int) 1 = (n : Int) := by simp [Builtin.Range.rangeSize]; omega
  refine wpAny_pyIter_range hr (small_range hz) ?_
  rw [hsz]
  refine ⟨_, _, _, _, _, _, m, rfl, compAtT_range hh hz hm hstab hlen h0 he, ?_, hLm, hn.at' fun o e => Heap.get?_push_of_some _ e, fun D h' tk ys h₀ hD hp hR hk hn' hk' => ?_⟩
  · obtain ⟨o, _, _, ho, _⟩ := hn; exact nI _ _ ho
  obtain ⟨X, hDX, hR⟩ := hR
  exact hQ X D h' tk ys h₀ hDX (by
    cases e : s₁.heap.get? D with
    | none => rfl
    | some o => cases (Heap.get?_push_of_some _ e).symm.trans hD) hp hR hk hn' fun b o hb hb2 e => hk' b o hb (nI b o e) hb2 (Heap.get?_push_of_some _ e)
end
end
local macro_rules | `(tactic| walk_at "eval Name") => `(tactic| (refine' name_cb ?F ?hk ?hx ?hc ?hg ?hd ?hb ?_; (case hx => with_unfolding_all rfl); (case F => k_asm); (case hk => with_unfolding_all rfl); (case hb => decide); (case hc => with_unfolding_all rfl); (case hg => k_dflt assumption); (case hd => k_dflt assumption)))
section
theorem vec_news {g h h' : Heap} {L : Addr} {news : List (Addr × Obj)} {a d es n k l} (N : News g L h news) (h1 : (a, instObj 237 d) ∈ news) (h2 : (d, dictOf es n) ∈ news) (V : VecAt h' a d es n k l) : VecAt h a d es n k l := ⟨(N _ h1).1, (N _ h2).1, V.ents⟩
theorem AtomV.ext {h h' : Heap} {kd : Kind} {v : Value} {x : Atom} (V : AtomV h kd v x) (e : Ext h h') : AtomV h' kd v x := by
  cases x with
  | none => exact V
  | some c =>
    cases kd with
    | dbl => obtain ⟨a, t, u, r, V⟩ := V; exact ⟨a, t, u, r, V.keeps e⟩
    | _ => exact V
theorem with_names {w : World} {mg mb} {A : Around} {s : Shared} {v : Value} (C : Cx w mg mb s.heap) (RM : Room A 2) : Gives w A s 468 [v, .none] fun r _ => r = v := by
  intro Q E h
  have ⟨X, T⟩ := C
  obtain ⟨hd', dp', fr', gd', un'⟩ := A
  obtain rfl : hd' = none := RM.hnd
  walk_at "MINE enter"
  rename Room _ _ => RM'
  repeat' walk1
  all_goals (try k_data)
  rename Fr _ _ _ _ => F
  exact h _ _ _ F.keep rfl

theorem from_int {w : World} {mg mb} {A : Around} {s : Shared} {n : Int} {t : Tok} (C : Cx w mg mb s.heap) (RM : Room A 2) :
    Gives w A s 45 [.int n t] fun r h' => ∃ a t u, r = .ref a ∧ Fresh s.heap h' [(a, { cls := .type "tuple", data := .seq #[.int n t, .int 1 u] })] := by
  intro Q E h
  have ⟨X, T⟩ := C
  obtain ⟨hd', dp', fr', gd', un'⟩ := A
  obtain rfl : hd' = none := RM.hnd
  walk_at "MINE enter"
  rename Room _ _ => RM'
  repeat' walk1
  all_goals (try k_data)
  rename Fr _ _ _ _ => F
  rename News _ _ _ _ => N
  exact h _ _ _ F.keep ⟨_, _, _, rfl, fresh_of N (fun p hp => hp)⟩

theorem to_double {w : World} {mg mb} {A : Around} {s : Shared} {v : Value} {x : Atom} {tk : Tok} {nt : Value} (C : Cx w mg mb s.heap) (RM : Room A 3) (V : AtomV s.heap .int v x) :
    Gives w A s 421 [.str (Str.ofString "integer") tk, v, nt] fun r h' => AtomV h' .dbl r x ∧ ∀ a, r = .ref a → s.heap.get? a = none := by
  intro Q E h
  have ⟨X, T⟩ := C
  cases x with
  | none =>
    replace V : v = .none := V
    subst V
    obtain ⟨hd', dp', fr', gd', un'⟩ := A
    obtain rfl : hd' = none := RM.hnd
    walk_at "MINE enter"
    rename Room _ _ => RM'
    repeat' walk1
    all_goals (try k_data)
    rename Fr _ _ _ _ => F
    exact h _ _ _ F.keep ⟨rfl, fun _ e => by cases e⟩
  | some c₀ =>
    obtain ⟨t, rfl⟩ : ∃ t, v = .int (num c₀) t := V
    obtain ⟨hd', dp', fr', gd', un'⟩ := A
    obtain rfl : hd' = none := RM.hnd
    walk_at "MINE enter"
    rename Room _ _ => RM'
    repeat' walk1
    all_goals (try k_data)
    rename Fr _ _ _ _ => F
    rename News _ _ _ _ => N
    refine go (use (from_int (C.ext F.keep) RM') fun v h' tk x p => ?_)
    dsimp only at x p
    obtain ⟨a, t', u, rfl, fr⟩ := p
    refine h _ _ _ (Ext.trans F.keep x) ⟨⟨a, t', u, rfl, _, (fr _ (List.Mem.head _)).1, rfl, _, rfl⟩, fun b e => ?_⟩
    cases e
    exact (fresh_back F.keep fr _ (List.Mem.head _)).2

theorem item_as {w : World} {mg mb} {A : Around} {s : Shared} {v : Value} {x : Atom} {tk tk' : Tok} {nt : Value} (C : Cx w mg mb s.heap) (RM : Room A 4) (V : AtomV s.heap .int v x) :
    Gives w A s 435 [.str (Str.ofString "integer") tk, v, .str (Str.ofString "double") tk', nt] fun r h' => AtomV h' .dbl r x ∧ ∀ a, r = .ref a → s.heap.get? a = none := by
  intro Q E h
  have ⟨X, T⟩ := C
  obtain ⟨hd', dp', fr', gd', un'⟩ := A
  obtain rfl : hd' = none := RM.hnd
  walk_at "MINE enter"
  rename Room _ _ => RM'
  repeat' walk1
  all_goals (try k_data)
  rename Fr _ _ _ _ => F
  rename News _ _ _ _ => N
  refine go (use (is_atomic_kind (kd := .int) (C.ext F.keep) (RM'.le (by decide))) fun v h' tk x p => ?_)
  subst p
  dsimp only at x
  replace F := fr_by F x
  replace N := newsBy N x
  clear x
  repeat' walk1
  all_goals (try k_data)
  rename Fr _ _ _ _ => F
  rename News _ _ _ _ => N
  refine go (use (to_double (C.ext F.keep) (RM'.le (by decide)) (V.ext F.keep)) fun v h' tk x p => ?_)
  refine h _ _ _ (Ext.trans F.keep x) ⟨p.1, fun a e => ?_⟩
  cases q : s.heap.get? a with
  | none => rfl
  | some o => have := p.2 a e; rw [F.keep _ _ q] at this; cases this

theorem as_kind_same {w : World} {mg mb} {A : Around} {s : Shared} {a d es n l} {kd : Kind} {tk : Tok} {nt : Value} {vs : List Value} (C : Cx w mg mb s.heap) (RM : Room A 6) (V : VecAt s.heap a d es n kd.str l) (hl : s.heap.IsList l vs.toArray) (hz : vs.length ≤ 1000) :
    Gives w A s 473 [.ref a, .str kd.str tk, nt] fun r h' => ∃ a d es n l' k, r = .ref a ∧ VecAt h' a d es n kd.str l' ∧ Fresh s.heap h' [(a, instObj 237 d), (d, dictOf es n), (l', listOf vs.toArray k)] := by
  intro Q E h
  have V' := V
  obtain ⟨V1, V2, h1V, h2V, h3V, h4V, h5V, t1V, t2V, t3V, t4V, t5V, tkV, rfl⟩ := V'
  have ⟨X, T⟩ := C
  obtain ⟨hd', dp', fr', gd', un'⟩ := A
  obtain rfl : hd' = none := RM.hnd
  walk_at "MINE enterC"
  rename Room _ _ => RM'
  cases kd <;> (have V0 := V; dsimp only [Kind.str] at V V2 h)
  all_goals
    repeat' walk1
    all_goals (try k_data)
    rename Fr _ _ _ _ => F
    rename News _ _ _ _ => N
    refine go (list_copyK F N (hl.at fun o e => F.keep _ _ e) (fun D c h' F N l1 => ?_) (by rw [sizeLine_eq]; simp; omega))
    k_lt l1
    repeat' walk1
    all_goals (try k_data)
    rename Fr _ _ _ _ => F
    rename News _ _ _ _ => N
    refine go (use (mkVec (C.ext F.keep) (RM'.le (by decide))) fun v h' tk x p => ?_)
    dsimp only at x p
    obtain ⟨a', d', es', n', rfl, V', fr, lt⟩ := p
    replace N := newsAdd F N x (fr)
    replace F := fr_by F x
    try dsimp only [List.cons_append, List.nil_append] at N
    repeat' walk1
    all_goals (try k_data)
    rename Fr _ _ _ _ => F
    rename News _ _ _ _ => N
    refine go (use (names_of (C.ext F.keep) (RM'.le (by decide)) (V0.ext F.keep)) fun v h' tk x p => ?_)
    subst p
    dsimp only at x
    replace F := fr_by F x
    replace N := newsBy N x
    clear x
    repeat' walk1
    all_goals (try k_data)
    rename Fr _ _ _ _ => F
    rename News _ _ _ _ => N
    refine go (use (with_names (C.ext F.keep) (RM'.le (by decide))) fun v h' tk x p => ?_)
    subst p
    dsimp only at x
    replace F := fr_by F x
    replace N := newsBy N x
    clear x
    repeat' walk1
    all_goals (try k_data)
    exact h _ _ _ F.keep ⟨a', d', es', n', D, c, rfl, vec_news N (by simp) (by simp) V', fresh_of N (by simp)⟩
end
section
def Atoms (h : Heap) (kd : Kind) (vs : List Value) (xs : List Atom) : Prop := vs.length = xs.length ∧ ∀ (i : Nat) (v : Value) (x : Atom), vs[i]? = some v → xs[i]? = some x → AtomV h kd v x
theorem Atoms.ext {h h' : Heap} {kd vs xs} (V : Atoms h kd vs xs) (e : Ext h h') : Atoms h' kd vs xs := ⟨V.1, fun i v x a b => (V.2 i v x a b).ext e⟩
def DRel (g : Heap) (xs : List Atom) (X : List Addr) (i : Nat) (h : Heap) (ys : List Value) : Prop :=
  ys.length = i ∧ ∀ (j : Nat) (y : Value) (x : Atom), ys[j]? = some y → xs[j]? = some x → AtomV h .dbl y x ∧ ∀ a, y = .ref a → a ∉ X ∧ g.get? a = none
theorem DRel.stab {g : Heap} {xs : List Atom} {X : List Addr} {i : Nat} {h h' : Heap} {ys : List Value} (R : DRel g xs X i h ys) (o : Off X h h') : DRel g xs X i h' ys := by
  refine ⟨R.1, fun j y x hy hx => ⟨?_, (R.2 j y x hy hx).2⟩⟩
  obtain ⟨V, n⟩ := R.2 j y x hy hx
  cases x with
  | none => exact V
  | some c₀ => obtain ⟨a, t, u, rfl, ob, ho, r⟩ := V; exact ⟨a, t, u, rfl, ob, o _ _ (n a rfl).1 ho, r⟩
theorem DRel.snoc {g : Heap} {xs : List Atom} {X : List Addr} {i : Nat} {h h' : Heap} {ys : List Value} {y : Value} {x : Atom} (R : DRel g xs X i h ys) (e : Ext h h') (hx : xs[i]? = some x) (V : AtomV h' .dbl y x) (n : ∀ a, y = .ref a → a ∉ X ∧ g.get? a = none) : DRel g xs X (i + 1) h' (ys ++ [y]) := by
  refine ⟨by simp [R.1], fun j z x' hz hx' => ?_⟩
  by_cases hj : j < ys.length
  · rw [List.getElem?_append_left hj] at hz
    obtain ⟨V', n'⟩ := R.2 j z x' hz hx'
    exact ⟨V'.ext e, n'⟩
  · by_cases hj2 : j = i
    · subst hj2
      rw [List.getElem?_append_right (by omega)] at hz
      simp [R.1] at hz
      subst hz
      rw [hx] at hx'
      cases hx'
      exact ⟨V, n⟩
    · have : (ys ++ [y])[j]? = none := List.getElem?_eq_none (by simp [R.1]; have := R.1; omega)
      rw [this] at hz; cases hz

theorem heap_of {g h : Heap} {L : Addr} {m} (_F : Fr g L h m) : h = h := rfl
theorem heap_nm {g h : Heap} {L : Addr} {m} (_F : Fr g L h m) : ∃ h0, h0 = h := ⟨_, rfl⟩
def RefsIn (B : Addr → Prop) (vs : List Value) : Prop := ∀ v ∈ vs, ∀ b, v = .ref b → B b
theorem list_copyX {prog : Program} {w : World} {A : Around} {E : Value → Shared → Prop} {s : Shared} {l : Addr} {items : Array Value} {Q : Value → Shared → Prop} (hl : s.heap.IsList l items) (hsz : items.size ≤ sizeLine)
    (h : ∀ D c h', Ext s.heap h' → Fresh s.heap h' [(D, listOf items c)] → Q (.ref D) { s with heap := h' }) : wpAny (model prog w) A (call (.type "list") [.ref l]) Q E s := by
  obtain ⟨o, ho, hc, n, hd⟩ := hl
  exact call_list_seq (hsz := hsz) l (.inl rfl) ho hc hd fun h' c' hk hD => h _ c' h' hk fun p hp => by rw [List.mem_singleton.mp hp]; exact ⟨hD, Heap.get?_none_of_le (Nat.le_refl _)⟩
theorem none_back {h h' : Heap} {b : Addr} (x : Ext h h') (e : h'.get? b = none) : h.get? b = none := by
  cases q : h.get? b with
  | none => rfl
  | some o => rw [x _ _ q] at e; cases e
theorem as_kind_dbl {w : World} {mg mb} {A : Around} {s : Shared} {a d es n l} {tk : Tok} {nt : Value} {vs : List Value} {xs : List Atom} (C : Cx w mg mb s.heap) (RM : Room A 7) (V : VecAt s.heap a d es n (Kind.str .int) l) (hl : s.heap.IsList l vs.toArray) (hz : vs.length ≤ 1000) (hx : Atoms s.heap .int vs xs) :
    Gives w A s 473 [.ref a, .str (Kind.str .dbl) tk, nt] fun r h' => ∃ a d es n l' k ws, r = .ref a ∧ VecAt h' a d es n (Kind.str .dbl) l' ∧ Fresh s.heap h' [(a, instObj 237 d), (d, dictOf es n), (l', listOf ws.toArray k)] ∧ Atoms h' .dbl ws xs ∧ RefsIn (fun b => s.heap.get? b = none) ws := by
  intro Q E h
  have V' := V
  obtain ⟨V1, V2, h1V, h2V, h3V, h4V, h5V, t1V, t2V, t3V, t4V, t5V, tkV, rfl⟩ := V'
  have ⟨X, T⟩ := C
  obtain ⟨hd', dp', fr', gd', un'⟩ := A
  obtain rfl : hd' = none := RM.hnd
  walk_at "MINE enterC"
  rename Room _ _ => RM'
  have V0 := V
  dsimp only [Kind.str] at V V2 h
  repeat' walk1
  all_goals (try k_data)
  rename Fr _ _ _ _ => F
  rename News _ _ _ _ => N
  obtain ⟨h0, h0e⟩ := heap_nm F
  refine' go (AssignListCompL (DRel h0 xs) (fun _ _ _ _ _ R o => R.stab o) (fun _ _ _ _ R => R.1) ?hsw ?hh ?hclos ?hcell ?hkind ?hnames ?hx ?hy ?hp ?h ?hs)
  case hsw => with_unfolding_all rfl
  case hh => rfl
  case hclos => with_unfolding_all rfl
  case hcell => decide
  case hkind => with_unfolding_all rfl
  case hnames => decide
  case hx => with_unfolding_all rfl
  case hy => with_unfolding_all rfl
  case hp => with_unfolding_all rfl
  case hs => intro _; with_unfolding_all rfl
  case h =>
    repeat' walk1
    all_goals (try k_data)
    rename Fr _ _ _ _ => F
    rename News _ _ _ _ => N
    refine go ⟨l, vs, _, rfl, hl.at fun o e => F.keep _ _ e, hz, F.ns, fun X _ => ⟨rfl, fun j y x hy => by simp at hy⟩, ?_, ?_⟩
    · intro X' C' i v s₃ m₃ ys E' hC hX hCX hXg hv hR hn hm hk
      dsimp only at hC hXg hk
      have C3 := C.ext F.keep
      have ⟨X3, T3⟩ := C3
      have c1 := (N _ (List.Mem.head _)).1
      have c2 := (N _ (List.Mem.tail _ (List.Mem.head _))).1
      have c3 := (N _ (List.Mem.tail _ (List.Mem.tail _ (List.Mem.head _)))).1
      have W1 := F.keep _ _ V1
      have W2 := F.keep _ _ V2
      have F3 := elt_fr hn hm hC hk
      have N3 := news_nil F3
      dsimp only at c1 c2 c3
      clear V1 V2 N X T
      obtain ⟨x, hx'⟩ : ∃ x, xs[i]? = some x := by
        have := (List.getElem?_eq_some_iff.mp hv).1
        rw [hx.1] at this
        exact ⟨_, List.getElem?_eq_getElem this⟩
      have AV := hx.2 i v x hv hx'
      repeat' walk1
      all_goals (try k_data)
      rename Fr _ _ _ _ => F3
      refine go (use (item_as (C3.ext F3.keep) (RM'.le (by decide)) (AV.ext (Ext.trans F.keep hk))) fun v h' tk x p => ?_)
      dsimp only at x p
      refine ⟨_, _, rfl, x, hR.snoc x hx' p.1 fun b e => ⟨fun hb => ?_, ?_⟩⟩
      · obtain ⟨o, ho⟩ := hX b hb
        rw [p.2 b e] at ho
        cases ho
      · rw [h0e]
        exact none_back hk (p.2 b e)
    · intro X' D h' tk ys h₀ hDX hD hp hR hk hn hk'
      dsimp only at hD hk' ⊢
      obtain ⟨oL, _, _, hoL, _⟩ := F.ns
      have hDL : D ≠ _ := fun q => by rw [q, hoL] at hD; cases hD
      have F' : Fr s.heap _ h' _ := ⟨hn, fun b o e => hk' b o (Nat.ne_of_lt (Nat.lt_of_lt_of_le (Heap.lt_size e) F.above)) (F.keep b o e), F.above⟩
      obtain ⟨kk, hkk⟩ := hp
      have N' : News s.heap _ h' ((D, listOf ys kk) :: _) := fun p hp => by
        rcases List.mem_cons.mp hp with rfl | hp
        · exact ⟨hk _ _ hDL hkk, hDL, by
            cases q : s.heap.get? D with
            | none => rfl
            | some o => rw [F.keep _ _ q] at hD; cases hD⟩
        · exact ⟨hk' _ _ (N p hp).2.1 (N p hp).1, (N p hp).2⟩
      have AT : Atoms h' .dbl ys.toList xs := by
        refine ⟨hR.1.trans hx.1, fun i v x hv hx' => ?_⟩
        obtain ⟨AV, nn⟩ := hR.2 i v x hv hx'
        cases x with
        | none => exact AV
        | some c₀ =>
          obtain ⟨b, t, u, rfl, ob, ho, r⟩ := AV
          exact ⟨b, t, u, rfl, ob, hk _ _ (fun q => by have z := (nn b rfl).2; rw [h0e] at z; rw [q] at z; cases hoL.symm.trans z) ho, r⟩
      have RI : RefsIn (fun b => s.heap.get? b = none) ys.toList := fun v hv b e => by
        obtain ⟨i, hi⟩ := List.getElem?_of_mem hv
        obtain ⟨x, hx'⟩ : ∃ x, xs[i]? = some x := ⟨_, List.getElem?_eq_getElem (by have := (List.getElem?_eq_some_iff.mp hi).1; have := AT.1; omega)⟩
        have z := ((hR.2 i v x hi hx').2 b e).2
        rw [h0e] at z
        exact none_back F.keep z
      clear F N
      repeat' walk1
      all_goals (try k_data)
      rename Fr _ _ _ _ => F
      rename News _ _ _ _ => N
      refine go (list_copyX (News.isList N (List.Mem.head _)) (by rw [sizeLine_eq]; have := AT.1; have := hx.1; simp at *; omega) fun D2 c2 h2 x fr => ?_)
      dsimp only at x fr
      replace N := newsAdd F N x (fr)
      replace F := fr_by F x
      try dsimp only [List.cons_append, List.nil_append] at N
      replace AT := AT.ext x
      repeat' walk1
      all_goals (try k_data)
      rename Fr _ _ _ _ => F
      rename News _ _ _ _ => N
      refine go (use (mkVec (C.ext F.keep) (RM'.le (by decide))) fun v h' tk x p => ?_)
      dsimp only at x p
      obtain ⟨a', d', es', n', rfl, V', fr, lt⟩ := p
      replace N := newsAdd F N x (fr)
      replace F := fr_by F x
      try dsimp only [List.cons_append, List.nil_append] at N
      replace AT := AT.ext x
      repeat' walk1
      all_goals (try k_data)
      rename Fr _ _ _ _ => F
      rename News _ _ _ _ => N
      refine go (use (names_of (kd := .int) (C.ext F.keep) (RM'.le (by decide)) (V0.ext F.keep)) fun v h' tk x p => ?_)
      subst p
      dsimp only at x
      replace F := fr_by F x
      replace N := newsBy N x
      replace AT := AT.ext x
      clear x
      repeat' walk1
      all_goals (try k_data)
      rename Fr _ _ _ _ => F
      rename News _ _ _ _ => N
      refine go (use (with_names (C.ext F.keep) (RM'.le (by decide))) fun v h' tk x p => ?_)
      subst p
      dsimp only at x
      replace F := fr_by F x
      replace N := newsBy N x
      replace AT := AT.ext x
      clear x
      repeat' walk1
      all_goals (try k_data)
      exact h _ _ _ F.keep ⟨a', d', _, n', D2, c2, _, rfl, vec_news N (by simp) (by simp) V', fresh_of N (by simp), AT, RI⟩

inductive VecOf (h : Heap) (v : Value) (kd : Kind) (xs : List Atom) : Prop
  | mk (a d : Addr) (es : List DictEntry) (n : Nat) (l : Addr) (vs : List Value) (r : v = .ref a) (x : VecAt h a d es n kd.str l) (y : h.IsList l vs.toArray) (z : Atoms h kd vs xs) : VecOf h v kd xs
theorem VecOf.ext {h h' : Heap} {v kd xs} (V : VecOf h v kd xs) (e : Ext h h') : VecOf h' v kd xs := by
  obtain ⟨a, d, es, n, l, vs, r, x, y, z⟩ := V
  exact ⟨a, d, es, n, l, vs, r, x.ext e, y.at fun _ q => e _ _ q, z.ext e⟩
def Fits (kd kd' : Kind) : Prop := kd = kd' ∨ (kd = .int ∧ kd' = .dbl)
theorem isList_list {h : Heap} {l : Addr} {its : Array Value} {k : Nat} (e : h.get? l = some (listOf its k)) : h.IsList l its := ⟨_, e, rfl, k, rfl⟩
inductive VecB (B : Addr → Prop) (h : Heap) (v : Value) (kd : Kind) (xs : List Atom) : Prop
  | mk (a d : Addr) (es : List DictEntry) (n : Nat) (l : Addr) (vs : List Value) (r : v = .ref a) (x : VecAt h a d es n kd.str l) (y : h.IsList l vs.toArray) (z : Atoms h kd vs xs) (ba : B a) (bd : B d) (bl : B l) (br : RefsIn B vs) : VecB B h v kd xs
theorem VecB.of {B : Addr → Prop} {h : Heap} {v kd xs} (V : VecB B h v kd xs) : VecOf h v kd xs := by
  obtain ⟨a, d, es, n, l, vs, r, x, y, z, _⟩ := V
  exact ⟨a, d, es, n, l, vs, r, x, y, z⟩
theorem AtomV.stay {h h' : Heap} {kd : Kind} {v : Value} {x : Atom} (V : AtomV h kd v x) (e : ∀ a o, v = .ref a → h.get? a = some o → h'.get? a = some o) : AtomV h' kd v x := by
  cases x with
  | none => exact V
  | some c =>
    cases kd with
    | dbl => obtain ⟨a, t, u, r, o, ho, z⟩ := V; exact ⟨a, t, u, r, o, e a o r ho, z⟩
    | _ => exact V
theorem Atoms.stay {B : Addr → Prop} {h h' : Heap} {kd vs xs} (V : Atoms h kd vs xs) (R : RefsIn B vs) (e : ∀ b o, B b → h.get? b = some o → h'.get? b = some o) : Atoms h' kd vs xs :=
  ⟨V.1, fun i v x a b => (V.2 i v x a b).stay fun c o q => e c o (R v (List.mem_of_getElem? a) c q)⟩
theorem VecB.stay {B : Addr → Prop} {h h' : Heap} {v kd xs} (V : VecB B h v kd xs) (e : ∀ b o, B b → h.get? b = some o → h'.get? b = some o) : VecB B h' v kd xs := by
  obtain ⟨a, d, es, n, l, vs, r, x, y, z, ba, bd, bl, br⟩ := V
  obtain ⟨ol, hol, y'⟩ := y
  exact ⟨a, d, es, n, l, vs, r, ⟨e _ _ ba x.inst, e _ _ bd x.dict, x.ents⟩, ⟨ol, e _ _ bl hol, y'⟩, z.stay br e, ba, bd, bl, br⟩
theorem VecB.ext {B : Addr → Prop} {h h' : Heap} {v kd xs} (V : VecB B h v kd xs) (e : Ext h h') : VecB B h' v kd xs := V.stay fun b o _ => e b o
theorem VecB.mono {B B' : Addr → Prop} {h : Heap} {v kd xs} (V : VecB B h v kd xs) (e : ∀ b, B b → B' b) : VecB B' h v kd xs := by
  obtain ⟨a, d, es, n, l, vs, r, x, y, z, ba, bd, bl, br⟩ := V
  exact ⟨a, d, es, n, l, vs, r, x, y, z, e _ ba, e _ bd, e _ bl, fun v hv b q => e _ (br v hv b q)⟩
theorem VecOf.old {h : Heap} {v kd xs} (V : VecOf h v kd xs) : VecB (fun b => ∃ o, h.get? b = some o) h v kd xs := by
  obtain ⟨a, d, es, n, l, vs, r, x, y, z⟩ := V
  refine ⟨a, d, es, n, l, vs, r, x, y, z, ⟨_, x.inst⟩, ⟨_, x.dict⟩, ?_, fun v hv b q => ?_⟩
  · obtain ⟨o, ho, _⟩ := y; exact ⟨o, ho⟩
  · obtain ⟨i, hi⟩ := List.getElem?_of_mem hv
    obtain ⟨c, hc⟩ : ∃ c, xs[i]? = some c := ⟨_, List.getElem?_eq_getElem (by rw [← z.1]; exact (List.getElem?_eq_some_iff.mp hi).1)⟩
    have A := z.2 i v c hi hc
    subst q
    cases c with
    | none => cases A
    | some c =>
      cases kd with
      | dbl => obtain ⟨a', t, u, r, o, ho, _⟩ := A; cases r; exact ⟨o, ho⟩
      | _ => obtain ⟨t, r⟩ := A; cases r
/-- what a call that is handed objects of B may hand back: these, and new ones -/
def BF (B : Addr → Prop) (h : Heap) (b : Addr) : Prop := B b ∨ h.get? b = none
theorem as_kind {w : World} {mg mb} {A : Around} {s : Shared} {B : Addr → Prop} {v : Value} {kd kd' : Kind} {tk : Tok} {nt : Value} {xs : List Atom} (C : Cx w mg mb s.heap) (RM : Room A 7) (V : VecB B s.heap v kd xs) (hz : xs.length ≤ 1000) (hk : Fits kd kd') :
    Gives w A s 473 [v, .str kd'.str tk, nt] fun r h' => VecB (BF B s.heap) h' r kd' xs := by
  intro Q E h
  obtain ⟨a, d, es, n, l, vs, rfl, hv, hl, hx, ba, bd, bl, br⟩ := V
  rcases hk with rfl | ⟨rfl, rfl⟩
  · refine as_kind_same C (RM.le (by decide)) hv hl (hx.1 ▸ hz) Q E fun r h' tk' x p => ?_
    obtain ⟨a', d', es', n', l', k, rfl, V', fr⟩ := p
    have f1 := fr _ (List.Mem.head _)
    have f2 := fr _ (List.Mem.tail _ (List.Mem.head _))
    have f3 := fr _ (List.Mem.tail _ (List.Mem.tail _ (List.Mem.head _)))
    exact h _ _ _ x ⟨a', d', es', n', l', vs, rfl, V', isList_list f3.1, hx.ext x, .inr f1.2, .inr f2.2, .inr f3.2, fun v hv b q => .inl (br v hv b q)⟩
  · refine as_kind_dbl C RM hv hl (hx.1 ▸ hz) hx Q E fun r h' tk' x p => ?_
    obtain ⟨a', d', es', n', l', k, ws, rfl, V', fr, at', ri⟩ := p
    have f1 := fr _ (List.Mem.head _)
    have f2 := fr _ (List.Mem.tail _ (List.Mem.head _))
    have f3 := fr _ (List.Mem.tail _ (List.Mem.tail _ (List.Mem.head _)))
    exact h _ _ _ x ⟨a', d', es', n', l', ws, rfl, V', isList_list f3.1, at', .inr f1.2, .inr f2.2, .inr f3.2, fun v hv b q => .inr (ri v hv b q)⟩
end
section
theorem inst_vec {h : Heap} {a d : Addr} {es n k l} (V : VecAt h a d es n k l) : InstAt h a (instObj 237 d) 237 (some (dictOf es n)) := ⟨V.inst, rfl, rfl, V.dict⟩
local macro_rules | `(tactic| k_inst) => `(tactic| exact inst_vec (by assumption))
theorem newTupleX {M : Model} {A : Around} {E : Value → Shared → Prop} {s : Shared} {vs : List Value} {Q : Value → Shared → Prop}
    (h : ∀ D h', Ext s.heap h' → Fresh s.heap h' [(D, { cls := .type "tuple", data := .seq vs.toArray })] → Q (.ref D) { s with heap := h' }) (hsz : vs.length ≤ sizeLine) :
    wpAny M A (newTuple vs) Q E s :=
  wpAny_newObj_type (h _ _ (fun b o e => Heap.get?_push_of_some _ e) fun p hp => by rw [List.mem_singleton.mp hp]; exact ⟨Heap.get?_push_size _ rfl, Heap.get?_none_of_le (Nat.le_refl _)⟩) (by show vs.toArray.size ≤ sizeLine; rw [List.size_toArray]; exact hsz)
theorem newListX {M : Model} {A : Around} {E : Value → Shared → Prop} {s : Shared} {vs : List Value} {Q : Value → Shared → Prop}
    (h : ∀ D h', Ext s.heap h' → Fresh s.heap h' [(D, listOf vs.toArray 0)] → Q (.ref D) { s with heap := h' }) (hsz : vs.length ≤ sizeLine) :
    wpAny M A (newList vs) Q E s :=
  wpAny_newObj_type (h _ _ (fun b o e => Heap.get?_push_of_some _ e) fun p hp => by rw [List.mem_singleton.mp hp]; exact ⟨Heap.get?_push_size _ rfl, Heap.get?_none_of_le (Nat.le_refl _)⟩) (by show vs.toArray.size ≤ sizeLine; rw [List.size_toArray]; exact hsz)
local macro_rules | `(tactic| walk_at "newTuple") => `(tactic| refine halt ?_)
local macro_rules | `(tactic| walk_at "newList") => `(tactic| refine halt ?_)
def Kind.join (a b : Kind) : Kind := match a, b with
  | .int, .dbl => .dbl
  | a, _ => a
def Compat (a b : Kind) : Prop := a = b ∨ (a = .int ∧ b = .dbl) ∨ (a = .dbl ∧ b = .int)
theorem join_of {a b k : Kind} (c : Compat a b) (e : k.ord = max a.ord b.ord) : k = a.join b := by
  rcases c with rfl | ⟨rfl, rfl⟩ | ⟨rfl, rfl⟩ <;> cases k <;> (try cases a) <;> first | rfl | (exfalso; revert e; decide)
theorem fits_left {a b : Kind} (c : Compat a b) : Fits a (a.join b) := by
  rcases c with rfl | ⟨rfl, rfl⟩ | ⟨rfl, rfl⟩
  · cases a <;> exact .inl rfl
  · exact .inr ⟨rfl, rfl⟩
  · exact .inl rfl
theorem fits_right {a b : Kind} (c : Compat a b) : Fits b (a.join b) := by
  rcases c with rfl | ⟨rfl, rfl⟩ | ⟨rfl, rfl⟩
  · cases a <;> exact .inl rfl
  · exact .inl rfl
  · exact .inr ⟨rfl, rfl⟩
theorem bf_back {B : Addr → Prop} {h h' : Heap} (x : Ext h h') : ∀ b, BF (BF B h) h' b → BF B h b := fun b hb => hb.elim id fun e => .inr (none_back x e)
/-- a vector made since h₀ out of objects of B and new ones -/
inductive VecF (B : Addr → Prop) (h₀ h : Heap) (v : Value) (kd : Kind) (xs : List Atom) : Prop
  | mk (a d : Addr) (es : List DictEntry) (n : Nat) (l : Addr) (vs : List Value) (r : v = .ref a) (x : VecAt h a d es n kd.str l) (y : h.IsList l vs.toArray) (z : Atoms h kd vs xs) (na : h₀.get? a = none) (nd : h₀.get? d = none) (bl : BF B h₀ l) (br : RefsIn (BF B h₀) vs) : VecF B h₀ h v kd xs
theorem VecF.toB {B : Addr → Prop} {h₀ h : Heap} {v kd xs} (V : VecF B h₀ h v kd xs) : VecB (BF B h₀) h v kd xs := by
  obtain ⟨a, d, es, n, l, vs, r, x, y, z, na, nd, bl, br⟩ := V
  exact ⟨a, d, es, n, l, vs, r, x, y, z, .inr na, .inr nd, bl, br⟩
theorem VecF.of {B : Addr → Prop} {h₀ h : Heap} {v kd xs} (V : VecF B h₀ h v kd xs) : VecOf h v kd xs := V.toB.of
theorem VecF.ext {B : Addr → Prop} {h₀ h h' : Heap} {v kd xs} (V : VecF B h₀ h v kd xs) (e : Ext h h') : VecF B h₀ h' v kd xs := by
  obtain ⟨a, d, es, n, l, vs, r, x, y, z, na, nd, bl, br⟩ := V
  exact ⟨a, d, es, n, l, vs, r, x.ext e, y.at fun _ q => e _ _ q, z.ext e, na, nd, bl, br⟩
theorem VecF.back {B : Addr → Prop} {h₁ h₀ h : Heap} {v kd xs} (V : VecF (BF B h₁) h₀ h v kd xs) (e : Ext h₁ h₀) : VecF B h₁ h v kd xs := by
  obtain ⟨a, d, es, n, l, vs, r, x, y, z, na, nd, bl, br⟩ := V
  exact ⟨a, d, es, n, l, vs, r, x, y, z, none_back e na, none_back e nd, bf_back e _ bl, fun v hv b q => bf_back e _ (br v hv b q)⟩
theorem VecF.back' {B : Addr → Prop} {h₁ h₀ h : Heap} {v kd xs} (V : VecF B h₀ h v kd xs) (e : Ext h₁ h₀) : VecF B h₁ h v kd xs := by
  obtain ⟨a, d, es, n, l, vs, r, x, y, z, na, nd, bl, br⟩ := V
  exact ⟨a, d, es, n, l, vs, r, x, y, z, none_back e na, none_back e nd, bl.imp id (none_back e), fun v hv b q => (br v hv b q).imp id (none_back e)⟩
theorem mkVecV {w : World} {mg mb} {A : Around} {s : Shared} {B : Addr → Prop} {kd : Kind} {tk : Tok} {l : Addr} {vs : List Value} {xs : List Atom} (C : Cx w mg mb s.heap) (RM : Room A 3) (hl : s.heap.IsList l vs.toArray) (hx : Atoms s.heap kd vs xs) (bl : B l) (br : RefsIn B vs) :
    Gives w A s 237 [.str kd.str tk, .ref l] fun v h' => VecF B s.heap h' v kd xs := by
  intro Q E h
  refine mkVec C RM Q E fun v h' tk' x p => ?_
  obtain ⟨a, d, es, n, rfl, V, fr, _⟩ := p
  exact h _ _ _ x ⟨a, d, es, n, l, vs, rfl, V, hl.at fun _ q => x _ _ q, hx.ext x, (fr _ (List.Mem.head _)).2, (fr _ (List.Mem.tail _ (List.Mem.head _))).2, .inl bl, fun v hv b q => .inl (br v hv b q)⟩

theorem both_kinds {w : World} {mg mb} {A : Around} {s : Shared} {u v : Value} {ku kv : Kind} {xs ys : List Atom} (C : Cx w mg mb s.heap) (RM : Room A 8) {Bu Bv : Addr → Prop} (U : VecB Bu s.heap u ku xs) (V : VecB Bv s.heap v kv ys) (hc : Compat ku kv) (hx : xs.length ≤ 1000) (hy : ys.length ≤ 1000) :
    Gives w A s 576 [u, v] fun r h' => ∃ a v1 v2, r = .ref a ∧ Fresh s.heap h' [(a, { cls := .type "tuple", data := .seq #[v1, v2] })] ∧ VecF Bu s.heap h' v1 (ku.join kv) xs ∧ VecF Bv s.heap h' v2 (ku.join kv) ys := by
  intro Q E h
  obtain ⟨ua, ud, ues, un, ul, uvs, rfl, hu, hul, hux, ba, bd, bl, br⟩ := U
  obtain ⟨va, vd, ves, vn, vl, vvs, rfl, hv, hvl, hvx, ba', bd', bl', br'⟩ := V
  have ⟨X, T⟩ := C
  obtain ⟨hd', dp', fr', gd', un'⟩ := A
  obtain rfl : hd' = none := RM.hnd
  walk_at "MINE enter"
  rename Room _ _ => RM'
  repeat' walk1
  all_goals (try k_data)
  rename Fr _ _ _ _ => F
  rename News _ _ _ _ => N
  refine go (use (plain (C.ext F.keep) (RM'.le (by decide)) (hu.ext F.keep)) fun v h' tk x p => ?_)
  dsimp only at x p
  obtain ⟨la, ld, les, ln, rfl, hL, lfr, llt⟩ := p
  replace N := newsAdd F N x (lfr)
  replace F := fr_by F x
  try dsimp only [List.cons_append, List.nil_append] at N
  have fr_la := (N _ (List.Mem.head _)).2.2
  have fr_ld := (N _ (List.Mem.tail _ (List.Mem.head _))).2.2
  have hL' := hL
  obtain ⟨hL1, hL2, h1L, h2L, h3L, h4L, h5L, t1L, t2L, t3L, t4L, t5L, tkL, rfl⟩ := hL'
  repeat' walk1
  all_goals (try k_data)
  rename Fr _ _ _ _ => F
  rename News _ _ _ _ => N
  refine go (use (plain (C.ext F.keep) (RM'.le (by decide)) (hv.ext F.keep)) fun v h' tk x p => ?_)
  dsimp only at x p
  obtain ⟨ra, rd, res, rn, rfl, hR, rfr, rlt⟩ := p
  replace N := newsAdd F N x (rfr)
  replace F := fr_by F x
  try dsimp only [List.cons_append, List.nil_append] at N
  have fr_ra := (N _ (List.Mem.head _)).2.2
  have fr_rd := (N _ (List.Mem.tail _ (List.Mem.head _))).2.2
  have hR' := hR
  obtain ⟨hR1, hR2, h1R, h2R, h3R, h4R, h5R, t1R, t2R, t3R, t4R, t5R, tkR, rfl⟩ := hR'
  repeat' walk1
  all_goals (try k_data)
  rename Fr _ _ _ _ => F
  rename News _ _ _ _ => N
  refine go (newListX (fun D h' x fr => ?_) (by simp [sizeLine_eq]))
  dsimp only at x fr
  replace N := newsAdd F N x fr
  replace F := fr_by F x
  repeat' walk1
  all_goals (try k_data)
  rename Fr _ _ _ _ => F
  rename News _ _ _ _ => N
  refine go (use (common_kind (k1 := ku) (k2 := kv) (C.ext F.keep) (RM'.le (by decide)) (News.isList N (List.Mem.head _))) fun v h' tk x p => ?_)
  dsimp only at x p
  obtain ⟨t, k, rfl, hk⟩ := p
  obtain rfl := join_of hc hk
  replace F := fr_by F x
  replace N := newsBy N x
  repeat' walk1
  all_goals (try k_data)
  rename Fr _ _ _ _ => F
  rename News _ _ _ _ => N
  refine go (newListX (fun D h' x fr => ?_) (by simp [sizeLine_eq]))
  dsimp only at x fr
  replace N := newsAdd F N x fr
  replace F := fr_by F x
  repeat' walk1
  all_goals (try k_data)
  rename Fr _ _ _ _ => F
  rename News _ _ _ _ => N
  have VL : VecB (BF Bu s.heap) _ (.ref la) ku xs := ⟨la, ld, _, ln, ul, uvs, rfl, vec_news N (by simp) (by simp) hL, hul.at fun _ q => F.keep _ _ q, hux.ext F.keep, .inr (fr_la), .inr fr_ld, .inl bl, fun v hv b q => .inl (br v hv b q)⟩
  refine go (use (as_kind (C.ext F.keep) (RM'.le (by decide)) VL hx (fits_left hc)) fun v h' tk x p => ?_)
  dsimp only at x p
  replace p := p.mono (bf_back F.keep)
  replace F := fr_by F x
  replace N := newsBy N x
  obtain ⟨a1, d1, es1, n1, l1, vs1, rfl, w1, wl1, wx1, _, _, bl1, br1⟩ := p
  have w1' := w1
  obtain ⟨w11, w12, h1W, h2W, h3W, h4W, h5W, t1W, t2W, t3W, t4W, t5W, tkW, rfl⟩ := w1'
  repeat' walk1
  all_goals (try k_data)
  rename Fr _ _ _ _ => F
  rename News _ _ _ _ => N
  refine go (use (mkVecV (C.ext F.keep) (RM'.le (by decide)) wl1 wx1 bl1 br1) fun v1 h' tk x P1 => ?_)
  dsimp only at x P1
  replace P1 := P1.back F.keep
  replace F := fr_by F x
  replace N := newsBy N x
  repeat' walk1
  all_goals (try k_data)
  rename Fr _ _ _ _ => F
  rename News _ _ _ _ => N
  refine go (newListX (fun D h' x fr => ?_) (by simp [sizeLine_eq]))
  dsimp only at x fr
  replace N := newsAdd F N x fr
  replace F := fr_by F x
  replace P1 := P1.ext x
  repeat' walk1
  all_goals (try k_data)
  rename Fr _ _ _ _ => F
  rename News _ _ _ _ => N
  have VR : VecB (BF Bv s.heap) _ (.ref ra) kv ys := ⟨ra, rd, _, rn, vl, vvs, rfl, vec_news N (by simp) (by simp) hR, hvl.at fun _ q => F.keep _ _ q, hvx.ext F.keep, .inr fr_ra, .inr fr_rd, .inl bl', fun v hv b q => .inl (br' v hv b q)⟩
  refine go (use (as_kind (C.ext F.keep) (RM'.le (by decide)) VR hy (fits_right hc)) fun v h' tk x p => ?_)
  dsimp only at x p
  replace p := p.mono (bf_back F.keep)
  replace F := fr_by F x
  replace N := newsBy N x
  replace P1 := P1.ext x
  obtain ⟨a2, d2, es2, n2, l2, vs2, rfl, w2, wl2, wx2, _, _, bl2, br2⟩ := p
  have w2' := w2
  obtain ⟨w21, w22, h1Z, h2Z, h3Z, h4Z, h5Z, t1Z, t2Z, t3Z, t4Z, t5Z, tkZ, rfl⟩ := w2'
  repeat' walk1
  all_goals (try k_data)
  rename Fr _ _ _ _ => F
  rename News _ _ _ _ => N
  refine go (use (mkVecV (C.ext F.keep) (RM'.le (by decide)) wl2 wx2 bl2 br2) fun v2 h' tk x P2 => ?_)
  dsimp only at x P2
  replace P2 := P2.back F.keep
  replace F := fr_by F x
  replace N := newsBy N x
  replace P1 := P1.ext x
  repeat' walk1
  all_goals (try k_data)
  refine go (newTupleX (fun D h' x fr => ?_) (by simp [sizeLine_eq]))
  dsimp only at x fr
  rename Fr _ _ _ _ => F
  rename News _ _ _ _ => N
  replace N := newsAdd F N x (fr)
  replace F := fr_by F x
  try dsimp only [List.cons_append, List.nil_append] at N
  repeat' walk1
  all_goals (try k_data)
  exact h _ _ _ F.keep ⟨D, v1, v2, rfl, fresh_of N (by simp), P1.ext x, P2.ext x⟩
end
section
def rangeObj (n : Int) (t u v : Tok) : Obj := { cls := .type "range", data := .fields #[.int 0 u, .int n t, .int 1 v] }
section
variable {prog : Program} {w : World} {A : Around} {E : Value → Shared → Prop} {s : Shared}
theorem rangeX {n : Int} {t : Tok} {Q : Value → Shared → Prop}
    (h : ∀ D h' tk u v, Ext s.heap h' → Fresh s.heap h' [(D, rangeObj n t u v)] → Q (.ref D) { s with heap := h', toks := tk }) : wpAny (model prog w) A (call (.type "range") [.int n t]) Q E s :=
  call_range_1 (h _ _ _ s.toks (s.toks + 1) (fun b o e => Heap.get?_push_of_some _ e) fun p hp => by rw [List.mem_singleton.mp hp]; exact ⟨Heap.get?_push_size _ rfl, Heap.get?_none_of_le (Nat.le_refl _)⟩)
theorem itemX {value slice : PySem.Expr} {l : Addr} {vs : List Value} {i : Nat} {u : Tok} {v : Value} {Q : Value → Shared → Prop}
    (hl : s.heap.IsList l vs.toArray) (hi : i < 1000) (hx : vs[i]? = some v) (h : Q v s)
    (hs : subscripted slice false (.ref l) (.int (i : Nat) u) = operate [.ref l, .int (i : Nat) u] (getItem (.ref l) (.int (i : Nat) u)) := by with_unfolding_all rfl) :
    wpAny (model prog w) A (subscriptTail value slice (.ref l) (.int (i : Nat) u)) Q E s :=
  tail_any hl.typeIs slot_list_getitem.lookup (wpAny_getItem_list hl (by omega) (by omega) (by simpa using hx) h) hs
theorem appendX {h₀ : Heap} {L : Addr} {m : Str → Option Value} {l : Addr} {vs : List Value} {x : Value} {n : Nat} {rest : List (Addr × Obj)} {Q : Value → Shared → Prop} (F : Fr h₀ L s.heap m) (N : News h₀ L s.heap ((l, listOf vs.toArray n) :: rest)) (hr : ∀ p ∈ rest, p.1 ≠ l) (hz : vs.length ≤ 1000)
    (h : ∀ h', Fr h₀ L h' m → News h₀ L h' ((l, listOf (vs ++ [x]).toArray (n + 1)) :: rest) → Q .none { s with heap := h' }) : wpAny (model prog w) A (call (.builtin "list.append") [.ref l, x]) Q E s := by
  refine append_K F N (.head hr) (fun h' F' N' => h h' F' ?_) (by rw [sizeLine_eq]; simp; omega)
  simpa using N'
end
theorem isList_of {h : Heap} {l : Addr} {vs : List Value} {k : Nat} (e : h.get? l = some (listOf vs.toArray k)) : h.IsList l vs.toArray := ⟨_, e, rfl, k, rfl⟩
section
variable {K : Type} [DecidableEq K]
theorem valueAt_new {kvs : List (K × Value)} {k : K} (v : Value) (e : valueAt kvs k = none) (k' : K) : valueAt (stored kvs k v) k' = if k' = k then some v else valueAt kvs k' := by
  have hn : kvs.any (fun kv => kv.1 = k) = false := by
    unfold valueAt at e
    rw [Option.map_eq_none_iff, List.find?_eq_none] at e
    rw [List.any_eq_false]
    exact fun x hx => e x hx
  unfold stored
  rw [hn, if_neg (by simp)]
  unfold valueAt at e ⊢
  rw [List.find?_append]
  by_cases h : k' = k
  · subst h
    rw [if_pos rfl]
    rw [Option.map_eq_none_iff] at e
    rw [e]; simp
  · rw [if_neg h]
    have : (List.find? (fun kv : K × Value => kv.1 = k') [(k, v)]) = none := by simp [Ne.symm h]
    rw [this, Option.or_none]
theorem stored_length {kvs : List (K × Value)} {k : K} (v : Value) (e : valueAt kvs k = none) : (stored kvs k v).length = kvs.length + 1 := by
  have hn : kvs.any (fun kv => kv.1 = k) = false := by
    unfold valueAt at e
    rw [Option.map_eq_none_iff, List.find?_eq_none] at e
    rw [List.any_eq_false]
    exact fun x hx => e x hx
  unfold stored
  rw [hn, if_neg (by simp), List.length_append]; rfl
end

/-- the dict behind i turns: the keys of the first i items, each with its first place -/
def DK (kd : Kind) (xs : List Atom) (i : Nat) (kvs : List (Str × Value)) : Prop :=
  kvs.length ≤ i ∧ ∀ x : Atom, (x ∈ xs.take i → ∃ t, valueAt kvs (key kd x) = some (.int (xs.idxOf x : Nat) t)) ∧ (x ∉ xs.take i → valueAt kvs (key kd x) = none)
theorem DK.zero (kd : Kind) (xs : List Atom) : DK kd xs 0 [] := ⟨Nat.le_refl _, fun x => ⟨fun h => by simp at h, fun _ => rfl⟩⟩
theorem mem_take_succ {xs : List Atom} {i : Nat} {y : Atom} (hy : xs[i]? = some y) (x : Atom) : x ∈ xs.take (i + 1) ↔ x ∈ xs.take i ∨ x = y := by
  rw [List.take_add_one, hy]; simp
theorem idx_of_new {xs : List Atom} {i : Nat} {y : Atom} (hy : xs[i]? = some y) (hn : y ∉ xs.take i) : xs.idxOf y = i := by
  obtain ⟨hi, rfl⟩ := List.getElem?_eq_some_iff.mp hy
  have e : xs = xs.take i ++ xs[i] :: xs.drop (i + 1) := by simp
  have : (xs.take i ++ xs[i] :: xs.drop (i + 1)).idxOf xs[i] = i := by
    rw [List.idxOf_append, if_neg hn, List.idxOf_cons_self, List.length_take]; omega
  rw [← e] at this
  exact this
theorem DK.old {kd : Kind} {xs : List Atom} {i : Nat} {y : Atom} {kvs : List (Str × Value)} (D : DK kd xs i kvs) (hy : xs[i]? = some y) (hm : y ∈ xs.take i) : DK kd xs (i + 1) kvs := by
  refine ⟨Nat.le_succ_of_le D.1, fun x => ⟨fun h => ?_, fun h => (D.2 x).2 fun q => h ((mem_take_succ hy x).mpr (.inl q))⟩⟩
  rcases (mem_take_succ hy x).mp h with h | rfl
  · exact (D.2 x).1 h
  · exact (D.2 x).1 hm
theorem DK.new {kd : Kind} {xs : List Atom} {i : Nat} {y : Atom} {kvs : List (Str × Value)} (D : DK kd xs i kvs) (hy : xs[i]? = some y) (hm : y ∉ xs.take i) (t : Tok) : DK kd xs (i + 1) (stored kvs (key kd y) (Value.int (i : Nat) t)) := by
  have e := (D.2 y).2 hm
  refine ⟨by rw [stored_length _ e]; exact Nat.succ_le_succ D.1, fun x => ?_⟩
  rw [valueAt_new _ e]
  by_cases h : x = y
  · subst h
    rw [if_pos rfl]
    refine ⟨fun _ => ⟨t, by rw [idx_of_new hy hm]⟩, fun q => absurd ((mem_take_succ hy x).mpr (.inr rfl)) q⟩
  · rw [if_neg fun q => h (key_inj q)]
    refine ⟨fun q => (D.2 x).1 ((mem_take_succ hy x).mp q |>.resolve_right h), fun q => (D.2 x).2 fun z => q ((mem_take_succ hy x).mpr (.inl z))⟩
/-- the list of first places behind i turns -/
def FP (xs : List Atom) (i : Nat) (vs : List Value) : Prop := vs.length = i ∧ ∀ (j : Nat) (v : Value), vs[j]? = some v → ∃ y t, xs[j]? = some y ∧ v = Value.int (xs.idxOf y : Nat) t
theorem FP.zero (xs : List Atom) : FP xs 0 [] := ⟨rfl, fun j v h => by simp at h⟩
theorem FP.snoc {xs : List Atom} {i : Nat} {vs : List Value} {y : Atom} (P : FP xs i vs) (hy : xs[i]? = some y) (t : Tok) : FP xs (i + 1) (vs ++ [Value.int (xs.idxOf y : Nat) t]) := by
  refine ⟨by simp [P.1], fun j v h => ?_⟩
  by_cases q : j < vs.length
  · rw [List.getElem?_append_left q] at h
    exact P.2 j v h
  · rw [List.getElem?_append_right (by omega)] at h
    have : j - vs.length = 0 := by
      by_cases z : j - vs.length = 0
      · exact z
      · rw [List.getElem?_eq_none (by simp; omega)] at h; cases h
    rw [this] at h
    have hj : j = i := by have := P.1; omega
    subst hj
    refine ⟨y, t, hy, ?_⟩
    simpa using h.symm
theorem name1 {g h : Heap} {L : Addr} {a : Addr} {o : Obj} {r : List (Addr × Obj)} (_N : News g L h ((a, o) :: r)) : ∃ a' : Addr, a' = a := ⟨_, rfl⟩
theorem name2 {g h : Heap} {L : Addr} {a b : Addr} {o p : Obj} {r : List (Addr × Obj)} (_N : News g L h ((a, o) :: (b, p) :: r)) : ∃ a' b' : Addr, a' = a ∧ b' = b := ⟨_, _, rfl, rfl⟩
theorem name3 {g h : Heap} {L : Addr} {a b c : Addr} {o p q : Obj} {r : List (Addr × Obj)} (_N : News g L h ((a, o) :: (b, p) :: (c, q) :: r)) : ∃ a' b' c' : Addr, a' = a ∧ b' = b ∧ c' = c := ⟨_, _, _, rfl, rfl, rfl⟩
theorem ne_fresh {g h h' : Heap} {L a : Addr} {o : Obj} {news : List (Addr × Obj)} (N : News g L h news) (fr : Fresh h h' [(a, o)]) : ∀ p ∈ news, p.1 ≠ a := fun p hp e => by
  have z := (fr _ (List.Mem.head _)).2
  dsimp only at z
  rw [← e, (N p hp).1] at z
  cases z
theorem news_sub {g h : Heap} {L : Addr} {n1 n2 : List (Addr × Obj)} (N : News g L h n1) (hs : ∀ p ∈ n2, p ∈ n1) : News g L h n2 := fun p hp => N p (hs p hp)
theorem news_swap {g h : Heap} {L : Addr} {a b : Addr × Obj} {r : List (Addr × Obj)} (N : News g L h (a :: b :: r)) : News g L h (b :: a :: r) := fun p hp => N p (by
  rcases List.mem_cons.mp hp with rfl | hp
  · exact List.Mem.tail _ (List.Mem.head _)
  · rcases List.mem_cons.mp hp with rfl | hp
    · exact List.Mem.head _
    · exact List.Mem.tail _ (List.Mem.tail _ hp))
theorem all_ne2 {a : Addr} {b : Addr × Obj} {r : List (Addr × Obj)} (h : b.1 ≠ a) (hr : ∀ p ∈ r, p.1 ≠ a) : ∀ p ∈ b :: r, p.1 ≠ a := fun p hp => (List.mem_cons.mp hp).elim (fun e => e ▸ h) (hr p)
theorem news_rot {g h : Heap} {L : Addr} {a b c : Addr × Obj} {r : List (Addr × Obj)} (N : News g L h (a :: b :: c :: r)) : News g L h (b :: c :: a :: r) := fun p hp => N p (by
  rcases List.mem_cons.mp hp with rfl | hp
  · exact List.Mem.tail _ (List.Mem.head _)
  · rcases List.mem_cons.mp hp with rfl | hp
    · exact List.Mem.tail _ (List.Mem.tail _ (List.Mem.head _))
    · rcases List.mem_cons.mp hp with rfl | hp
      · exact List.Mem.head _
      · exact List.Mem.tail _ (List.Mem.tail _ (List.Mem.tail _ hp)))

/-- the objects of a list and its atoms that the ground does not hold -/
theorem LA_objs {B : Addr → Prop} {g h : Heap} {l : Addr} {vs : List Value} {kd : Kind} {xs : List Atom} (k : Ext g h) (hl : h.IsList l vs.toArray) (hx : Atoms h kd vs xs) (bl : B l) (br : RefsIn B vs) :
    ∃ ex : List (Addr × Obj), (∀ p ∈ ex, h.get? p.1 = some p.2 ∧ B p.1 ∧ g.get? p.1 = none) ∧ ∀ h', Ext g h' → (∀ p ∈ ex, h'.get? p.1 = some p.2) → h'.IsList l vs.toArray ∧ Atoms h' kd vs xs := by
  let f : Addr → Option (Addr × Obj) := fun b => match g.get? b with | some _ => none | none => (h.get? b).map (b, ·)
  have hf : ∀ b o h', Ext g h' → (∀ p, f b = some p → h'.get? p.1 = some p.2) → h.get? b = some o → h'.get? b = some o := fun b o h' e e' ho => by
    cases q : g.get? b with
    | some o' => have := k _ _ q; rw [ho] at this; cases this; exact e _ _ q
    | none => exact e' (b, o) (by show (match g.get? b with | some _ => none | none => (h.get? b).map (b, ·)) = _; rw [q]; simp [ho])
  have hg : ∀ b p, f b = some p → p.1 = b ∧ h.get? p.1 = some p.2 ∧ g.get? p.1 = none := fun b p e => by
    have e : (match g.get? b with | some _ => none | none => (h.get? b).map (b, ·)) = some p := e
    cases q : g.get? b with
    | some o' => rw [q] at e; cases e
    | none =>
      rw [q] at e
      obtain ⟨o, ho, rfl⟩ := Option.map_eq_some_iff.mp e
      exact ⟨rfl, ho, q⟩
  let refs : List Addr := l :: vs.filterMap fun v => match v with | .ref b => some b | _ => none
  have hr : ∀ b ∈ refs, B b := fun b hb => by
    rcases List.mem_cons.mp hb with rfl | hb
    · exact bl
    · obtain ⟨v, hv, e⟩ := List.mem_filterMap.mp hb
      cases v <;> simp at e
      subst e
      exact br _ hv _ rfl
  refine ⟨refs.filterMap f, fun p hp => ?_, fun h' e e' => ?_⟩
  · obtain ⟨b, hb, hp⟩ := List.mem_filterMap.mp hp
    obtain ⟨e1, e2, e3⟩ := hg b p hp
    exact ⟨e2, e1 ▸ hr b hb, e3⟩
  · have stay : ∀ b ∈ refs, ∀ o, h.get? b = some o → h'.get? b = some o := fun b hb o ho => hf b o h' e (fun p hp => e' p (List.mem_filterMap.mpr ⟨b, hb, hp⟩)) ho
    refine ⟨?_, hx.stay (B := (· ∈ refs)) (fun v hv b q => List.mem_cons_of_mem _ (List.mem_filterMap.mpr ⟨v, hv, by rw [q]⟩)) fun b o hb ho => stay b hb o ho⟩
    obtain ⟨o, ho, z⟩ := hl
    exact ⟨o, stay l (List.mem_cons_self ..) o ho, z⟩

theorem news_app {g h : Heap} {L : Addr} {n1 n2 : List (Addr × Obj)} (N : News g L h n1) (M : News g L h n2) : News g L h (n1 ++ n2) := fun p hp => (List.mem_append.mp hp).elim (N p) (M p)
theorem news_cons {g h h1 : Heap} {L a : Addr} {o : Obj} {m : Str → Option Value} {r : List (Addr × Obj)} (F1 : Fr g L h1 m) (ho : h.get? a = some o) (hn : h1.get? a = none) (N : News g L h r) : News g L h ((a, o) :: r) := fun p hp => by
  rcases List.mem_cons.mp hp with rfl | hp
  · refine ⟨ho, fun e => ?_, none_back F1.keep hn⟩
    obtain ⟨oL, _, _, hL, _⟩ := F1.ns
    dsimp only at e
    rw [e, hL] at hn
    cases hn
  · exact N p hp
theorem news_ex {g h h1 : Heap} {L : Addr} {m : Str → Option Value} {ex : List (Addr × Obj)} {B : Addr → Prop} (F1 : Fr g L h1 m) (hB : ∀ b, B b → ∃ o, g.get? b = some o) (e : ∀ p ∈ ex, h.get? p.1 = some p.2 ∧ BF B h1 p.1 ∧ g.get? p.1 = none) : (∀ p ∈ ex, h1.get? p.1 = none) ∧ News g L h ex := by
  have z : ∀ p ∈ ex, h1.get? p.1 = none := fun p hp => (e p hp).2.1.elim (fun q => by obtain ⟨o, ho⟩ := hB _ q; rw [(e p hp).2.2] at ho; cases ho) id
  refine ⟨z, fun p hp => ⟨(e p hp).1, fun q => ?_, (e p hp).2.2⟩⟩
  obtain ⟨oL, _, _, hL, _⟩ := F1.ns
  have := z p hp
  rw [q, hL] at this
  cases this
theorem ne_ex {g h1 : Heap} {L c : Addr} {o : Obj} {news ex : List (Addr × Obj)} (N1 : News g L h1 news) (z : ∀ p ∈ ex, h1.get? p.1 = none) (hm : (c, o) ∈ news) : ∀ p ∈ ex, p.1 ≠ c := fun p hp q => by
  have := z p hp
  rw [q, (N1 _ hm).1] at this
  cases this
theorem app_ne {c : Addr} {e1 e2 : List (Addr × Obj)} (h1 : ∀ p ∈ e1, p.1 ≠ c) (h2 : ∀ p ∈ e2, p.1 ≠ c) : ∀ p ∈ e1 ++ e2, p.1 ≠ c := fun p hp => (List.mem_append.mp hp).elim (h1 p) (h2 p)

/-- objects that stand at h and did not stand at h1 (a heap of the frame L before) -/
def ExOk (g : Heap) (L : Addr) (h1 h : Heap) (ex : List (Addr × Obj)) : Prop := (∀ p ∈ ex, h1.get? p.1 = none) ∧ News g L h ex
theorem ExOk.cons {g h h1 : Heap} {L a : Addr} {o : Obj} {m : Str → Option Value} {r : List (Addr × Obj)} (F1 : Fr g L h1 m) (ho : h.get? a = some o) (hn : h1.get? a = none) (N : ExOk g L h1 h r) : ExOk g L h1 h ((a, o) :: r) :=
  ⟨fun p hp => (List.mem_cons.mp hp).elim (fun e => e ▸ hn) (N.1 p), news_cons F1 ho hn N.2⟩
theorem ExOk.app {g h h1 : Heap} {L : Addr} {n1 n2 : List (Addr × Obj)} (N : ExOk g L h1 h n1) (M : ExOk g L h1 h n2) : ExOk g L h1 h (n1 ++ n2) :=
  ⟨fun p hp => (List.mem_append.mp hp).elim (N.1 p) (M.1 p), news_app N.2 M.2⟩
theorem ExOk.nil {g h h1 : Heap} {L : Addr} : ExOk g L h1 h [] := ⟨(fun p hp => by cases hp), News.nil⟩
theorem ExOk.ne {g h h1 : Heap} {L c : Addr} {o : Obj} {news ex : List (Addr × Obj)} (Z : ExOk g L h1 h ex) (N1 : News g L h1 news) (hm : (c, o) ∈ news) : ∀ p ∈ ex, p.1 ≠ c := ne_ex N1 Z.1 hm
theorem mem_news {g h : Heap} {L : Addr} {news ex : List (Addr × Obj)} (N : News g L h news) (hs : ∀ p ∈ ex, p ∈ news) : ∀ p ∈ ex, h.get? p.1 = some p.2 := fun p hp => (N p (hs p hp)).1
theorem ExOk.nm {g h h1 : Heap} {L : Addr} {ex : List (Addr × Obj)} (_Z : ExOk g L h1 h ex) : ∃ ex', ex' = ex := ⟨_, rfl⟩
theorem sub5 {α : Type} {a b c d e : α} {r1 r2 : List α} : ∀ p, p ∈ [a, b, c, d, e] ∨ p ∈ r1 ∨ p ∈ r2 → p ∈ a :: b :: c :: d :: e :: (r1 ++ r2) := fun p hp => by
  simp only [List.mem_cons, List.not_mem_nil, or_false, List.mem_append] at hp ⊢
  rcases hp with (h | h | h | h | h) | h | h <;> simp [h]
theorem ExOk.sub5 {g h h1 : Heap} {L : Addr} {a b c d e : Addr × Obj} {r1 r2 : List (Addr × Obj)} (_Z : ExOk g L h1 h (a :: b :: c :: d :: e :: (r1 ++ r2))) : ∀ p, p ∈ [a, b, c, d, e] ∨ p ∈ r1 ∨ p ∈ r2 → p ∈ a :: b :: c :: d :: e :: (r1 ++ r2) := Mine.sub5
theorem allLt_mem {d : Addr} {l : List (Addr × Obj)} (h : AllLt d l) : ∀ p ∈ l, p.1 < d := by
  induction l with
  | nil => intro p hp; cases hp
  | cons a r ih =>
    intro p hp
    rcases List.mem_cons.mp hp with rfl | hp
    · exact h.1
    · exact ih h.2 p hp
theorem dict_getX {prog : Program} {w : World} {A : Around} {E : Value → Shared → Prop} {s : Shared} {d : Addr} {o : Obj} {kvs : List (Str × Value)} {k : Str} {t : Tok} {Q : Value → Shared → Prop} (ho : s.heap.get? d = some o) (hd : o.IsDictOf (PySem.strKind prog w) kvs) (lo : (d == sysModules) = false)
    (h : Q ((valueAt kvs k).getD .none) { s with toks := s.toks + 1 }) : wpAny (model prog w) A (call (.builtin "dict.get") [.ref d, .str k t]) Q E s :=
  have hD := Heap.dictOf_iff.mpr ⟨o, ho, hd⟩
  call_meetsIn PySem.F.slot_dict_get hD.typeIs PySem.F.entry_dict_get (PySem.F.args_dict_get_2 _ _) (meets_dict_get (PySem.strKind prog w) d (strKind_is _ _ _ _) lo) ⟨_, hD.mapOf, h⟩
theorem dict_methodX {prog : Program} {w : World} {A : Around} {E : Value → Shared → Prop} {s : Shared} {d : Addr} {o : Obj} {kvs : List (Str × Value)} {name : Str} {id : String} {pl : Sem Bool} {Q : Value × List Value → Shared → Prop} (slot : Slot "dict" name id) (ty : typeOf (.builtin id) = pure (.type "method_descriptor")) (ho : s.heap.get? d = some o) (hd : o.IsDictOf (PySem.strKind prog w) kvs) (h : Q (.builtin id, [.ref d]) s) :
    wpAny (model prog w) A (getMethod (.ref d) name pl) Q E s :=
  have hD := Heap.dictOf_iff.mpr ⟨o, ho, hd⟩
  getMethod_builtin hD.typeIs PySem.F.plainAttrs_dict slot ty hD.mapOf.noDict h
/-- what match_places builds: a place or none -/
def MP (xs ys : List Atom) (i : Nat) (us : List Value) : Prop := us.length = i ∧ ∀ (j : Nat) (v : Value), us[j]? = some v → ∃ x, xs[j]? = some x ∧ (x ∈ ys → ∃ (n : Nat) (t : Tok), v = .int (n : Nat) t) ∧ (x ∉ ys → v = .none)
theorem MP.zero (xs ys : List Atom) : MP xs ys 0 [] := ⟨rfl, fun j v h => by simp at h⟩
theorem MP.snoc {xs ys : List Atom} {i : Nat} {us : List Value} {x : Atom} {v : Value} (P : MP xs ys i us) (hx : xs[i]? = some x) (h1 : x ∈ ys → ∃ (n : Nat) (t : Tok), v = .int (n : Nat) t) (h2 : x ∉ ys → v = .none) : MP xs ys (i + 1) (us ++ [v]) := by
  refine ⟨by simp [P.1], fun j z h => ?_⟩
  by_cases q : j < us.length
  · rw [List.getElem?_append_left q] at h
    exact P.2 j z h
  · rw [List.getElem?_append_right (by omega)] at h
    by_cases e : j - us.length = 0
    · rw [e] at h
      have hj : j = i := by have := P.1; omega
      subst hj
      have : v = z := by simpa using h
      exact ⟨x, hx, this ▸ h1, this ▸ h2⟩
    · rw [List.getElem?_eq_none (by simp; omega)] at h; cases h
theorem name_rest {g h : Heap} {L : Addr} {a : Addr × Obj} {r : List (Addr × Obj)} (_N : News g L h (a :: r)) : ∃ r', r' = r := ⟨_, rfl⟩
section
variable {prog : Program} {w : World} {A : Around} {E : Value → Shared → Prop} {s : Shared} {env : Env} {h₀ : Heap} {x : Str} {body : List Stmt} {Q : Flow → Shared → Prop}
theorem range_loop {r : Addr} {n : Nat} {t u v : Tok} {base : Str → Option Value} {news : List (Addr × Obj)} (J : Nat → List (Addr × Obj) → Prop) (mu : List Addr)
    (hh : A.handled = none) (hr : IsRange s.heap r 0 (n : Int) 1 t u v) (hn : n < 1000) (F : Fr h₀ env.locals s.heap base) (N : News h₀ env.locals s.heap news) (hm : ∀ b ∈ mu, b < s.heap.objs.size) (hj : J 0 news)
    (turn : ∀ i t news₁ h tk own, i < n → news₁.map (·.1) = news.map (·.1) → (∀ p ∈ own, p.1 ∉ mu) → J i news₁ → Fr h₀ env.locals h (fun y => if y = x then some (.int (i : Nat) t) else base y) → News h₀ env.locals h (news₁ ++ own) →
      wpAny (model prog w) A (execs body env) (TurnPost h₀ env.locals (fun m' nx => (∃ u, m' = fun y => if y = x then u else base y) ∧ J (i + 1) nx) own (news.map (·.1)) { s with heap := h, toks := tk } Q) E { s with heap := h, toks := tk })
    (done : ∀ u news₁ h tk, J n news₁ → Fr h₀ env.locals h (fun y => if y = x then u else base y) → News h₀ env.locals h news₁ → Q .next { s with heap := h, toks := tk }) :
    wpAny (model prog w) A (pyIter (.ref r)) (fun it s₂ => LoopAtV prog w A h₀ env x body Q E it s₂) E s := by
  refine iter_range (fun i m nw => (∃ u, m = fun y => if y = x then u else base y) ∧ J i nw) mu hh hr hn F N hm ⟨⟨base x, map_norm x base⟩, hj⟩ ?_ ?_
  · rintro i t m₁ news₁ h tk own hi ha ho ⟨⟨u, rfl⟩, hJ⟩ F₁ N₁
    have e : (fun z => if z = x then some (Value.int (i : Nat) t) else if z = x then u else base z) = fun z => if z = x then some (.int (i : Nat) t) else base z := by
      funext z
      by_cases h : z = x
      · rw [if_pos h, if_pos h]
      · rw [if_neg h, if_neg h, if_neg h]
    rw [e] at F₁
    exact turn i t news₁ h tk own hi ha ho hJ F₁ N₁
  · rintro m₁ news₁ h tk ⟨⟨u, rfl⟩, hJ⟩ F₁ N₁
    exact done u news₁ h tk hJ F₁ N₁
end

theorem VecB.oldB {B : Addr → Prop} {h : Heap} {v kd xs} (V : VecB B h v kd xs) : VecB (fun b => B b ∧ ∃ o, h.get? b = some o) h v kd xs := by
  obtain ⟨a, d, es, n, l, vs, r, x, y, z, ba, bd, bl, br⟩ := V
  refine ⟨a, d, es, n, l, vs, r, x, y, z, ⟨ba, _, x.inst⟩, ⟨bd, _, x.dict⟩, ⟨bl, ?_⟩, fun v hv b q => ⟨br v hv b q, ?_⟩⟩
  · obtain ⟨o, ho, _⟩ := y; exact ⟨o, ho⟩
  · obtain ⟨i, hi⟩ := List.getElem?_of_mem hv
    obtain ⟨c, hc⟩ : ∃ c, xs[i]? = some c := ⟨_, List.getElem?_eq_getElem (by rw [← z.1]; exact (List.getElem?_eq_some_iff.mp hi).1)⟩
    have A := z.2 i v c hi hc
    subst q
    cases c with
    | none => cases A
    | some c =>
      cases kd with
      | dbl => obtain ⟨a', t, u, r, o, ho, _⟩ := A; cases r; exact ⟨o, ho⟩
      | _ => obtain ⟨t, r⟩ := A; cases r
theorem Atoms.append {h : Heap} {kd : Kind} {vs ws : List Value} {xs ys : List Atom} (V : Atoms h kd vs xs) (W : Atoms h kd ws ys) : Atoms h kd (vs ++ ws) (xs ++ ys) := by
  refine ⟨by simp [V.1, W.1], fun i v x hv hx => ?_⟩
  by_cases q : i < vs.length
  · rw [List.getElem?_append_left q] at hv
    rw [List.getElem?_append_left (V.1 ▸ q)] at hx
    exact V.2 i v x hv hx
  · rw [List.getElem?_append_right (by omega)] at hv
    rw [List.getElem?_append_right (by rw [← V.1]; omega), ← V.1] at hx
    exact W.2 _ v x hv hx
theorem bf_old {B : Addr → Prop} {g h1 : Heap} (k : Ext g h1) : ∀ b, BF (fun b => B b ∧ ∃ o, g.get? b = some o) h1 b → BF B g b := fun b hb => hb.imp (·.1) (none_back k)
theorem VecF.toB' {B : Addr → Prop} {h₀ h₁ h : Heap} {v kd xs} (V : VecF (BF B h₀) h₁ h v kd xs) (e : Ext h₀ h₁) : VecB (BF B h₀) h v kd xs := V.toB.mono (bf_back e)
end
section
local macro_rules | `(tactic| walk_at "call type:range") => `(tactic| refine halt ?_)
local macro_rules | `(tactic| walk_at "execs cons Assign cons") => `(tactic| ((with_reducible refine wpAny_execs_cons ?_); (try dsimp only)))
local macro_rules | `(tactic| walk_at "call builtin:dict.setdefault") => `(tactic| refine halt ?_)
local macro_rules | `(tactic| walk_at "call builtin:list.append") => `(tactic| refine halt ?_)
theorem first_places {w : World} {mg mb} {A : Around} {s : Shared} {v : Value} {kd : Kind} {xs : List Atom} (C : Cx w mg mb s.heap) (RM : Room A 4) (V : VecOf s.heap v kd xs) (hz : xs.length < 1000) :
    Gives w A s 557 [v] fun r h' => ∃ l c, ∃ vs : List Value, r = .ref l ∧ Fresh s.heap h' [(l, listOf vs.toArray c)] ∧ FP xs xs.length vs := by
  intro Q E h
  obtain ⟨a, d, es, n, l, vs, rfl, hv, hl, hx⟩ := V
  have V0 := hv
  have hv' := hv
  obtain ⟨hv1, hv2, h1V, h2V, h3V, h4V, h5V, t1V, t2V, t3V, t4V, t5V, tkV, rfl⟩ := hv'
  have ⟨X, T⟩ := C
  obtain ⟨hd', dp', fr', gd', un'⟩ := A
  obtain rfl : hd' = none := RM.hnd
  walk_at "MINE enter"
  rename Room _ _ => RM'
  repeat' walk1
  all_goals (try k_data)
  rename Fr _ _ _ _ => F
  rename News _ _ _ _ => N
  refine go (use (is_listed (C.ext F.keep) (RM'.le (by decide)) (V0.ext F.keep)) fun v h' tk x p => ?_)
  subst p
  dsimp only at x
  replace F := fr_by F x
  replace N := newsBy N x
  clear x
  repeat' walk1
  all_goals (try k_data)
  rename Fr _ _ _ _ => F
  rename News _ _ _ _ => N
  rename _ < _ => hlt
  obtain ⟨fl, dk, rfl, rfl⟩ := name2 N
  rename Obj.IsDictOf (PySem.strKind _ _) _ _ => hs0
  refine go ?_
  with_unfolding_all refine' For_invVF F ?k1 ?k2 ?_
  case k1 => exact rfl
  case k2 => exact rfl
  repeat' walk1
  all_goals (try k_data)
  rename Fr _ _ _ _ => F
  rename News _ _ _ _ => N
  refine go (call_len_list (hl.at fun _ q => F.keep _ _ q) (by simp; have := hx.1; omega) ?_)
  repeat' walk1
  all_goals (try k_data)
  rw [show (vs.toArray.size : Int) = ((xs.length : Nat) : Int) by simp [hx.1]]
  refine go (rangeX fun rg h' tk' u' v' x fr => ?_)
  dsimp only at x fr
  have hrg := ne_fresh N fr
  have hrf : rg ≠ fl := fun e => hrg _ (List.Mem.head _) e.symm
  have hrd : rg ≠ dk := fun e => hrg _ (List.Mem.tail _ (List.Mem.head _)) e.symm
  clear hrg
  replace N := newsAdd F N x (fr)
  replace F := fr_by F x
  try dsimp only [List.cons_append, List.nil_append] at N
  replace N := news_rot N
  refine range_loop (fun i nw => ∃ ro oo c, ∃ kvs : List (Str × Value), ∃ fvs : List Value, nw = [(fl, listOf fvs.toArray c), (dk, oo), (rg, ro)] ∧ Obj.IsDictOf (PySem.strKind PySem.Challenge.rw_pq1330_01.row.prog w) oo kvs ∧ DK kd xs i kvs ∧ FP xs i fvs) [fl, dk] RM'.hnd (N _ (List.Mem.tail _ (List.Mem.tail _ (List.Mem.head _)))).1 hz F N ?_ ?_ ?_ ?_
  · intro b hb
    rcases List.mem_cons.mp hb with rfl | hb
    · exact Heap.lt_size (N _ (List.Mem.head _)).1
    · rw [List.mem_singleton.mp hb]
      exact Heap.lt_size (N _ (List.Mem.tail _ (List.Mem.head _))).1
  · exact ⟨_, _, _, [], [], rfl, hs0, DK.zero kd xs, FP.zero xs⟩
  · rintro i t news₁ h' tk own hi _ hown ⟨ro, oo, c, kvs, fvs, rfl, ho, hD, hF⟩ F N
    dsimp only [List.cons_append, List.nil_append] at N
    clear hs0
    obtain ⟨y, hy⟩ : ∃ y, xs[i]? = some y := ⟨_, List.getElem?_eq_getElem hi⟩
    obtain ⟨yv, hyv⟩ : ∃ yv, vs[i]? = some yv := ⟨_, List.getElem?_eq_getElem (by rw [hx.1]; exact hi)⟩
    have AV := hx.2 i yv y hyv hy
    have ofl : ∀ p ∈ own, p.1 ≠ fl := fun p hp e => hown p hp (by rw [e]; simp)
    have odk : ∀ p ∈ own, p.1 ≠ dk := fun p hp e => hown p hp (by rw [e]; simp)
    repeat' walk1
    all_goals (try k_data)
    rename Fr _ _ _ _ => F
    rename News _ _ _ _ => N
    refine itemX (hl.at fun _ q => F.keep _ _ q) (by omega) hyv ?_ (by with_unfolding_all rfl)
    repeat' walk1
    all_goals (try k_data)
    rename Fr _ _ _ _ => F
    rename News _ _ _ _ => N
    refine go (use (item_key (kd := kd) (C.ext F.keep) (RM'.le (by decide)) (AV.ext F.keep)) fun v h' tk x p => ?_)
    dsimp only at x p
    obtain ⟨ku, rfl⟩ := p
    replace F := fr_by F x
    replace N := newsBy N x
    repeat' walk1
    all_goals (try k_data)
    rename Fr _ _ _ _ => F
    rename News _ _ _ _ => N
    by_cases hm : y ∈ xs.take i
    · obtain ⟨t', hv'⟩ := (hD.2 y).1 hm
      refine go (kob_setdef_there N (List.Mem.tail _ (List.Mem.head _)) ho (by assumption) (strKind_is _ _ _ _) (PySem.F.args_dict_setdefault_3 _ _ _) hv' (by rw [sizeLine_eq]; have := hD.1; omega) ?_)
      repeat' walk1
      all_goals (try k_data)
      rename Fr _ _ _ _ => F
      rename News _ _ _ _ => N
      refine go (appendX F N (all_ne2 (Nat.ne_of_lt hlt) (all_ne2 hrf ofl)) (by have := hF.1; omega) fun h' F N => ?_)
      repeat' walk1
      all_goals (try k_data)
      rename Fr _ _ _ _ => F
      rename News _ _ _ _ => N
      exact TurnEnd.intro (nx := [(fl, _), (dk, _), (rg, _)]) F N (fun p hp => hp) rfl ⟨⟨_, rfl⟩, _, _, _, _, _, rfl, ho, hD.old hy hm, hF.snoc hy _⟩
    · have hv' := (hD.2 y).2 hm
      refine go (kob_setdef_new F (news_swap N) (.head (all_ne2 (Nat.ne_of_gt hlt) (all_ne2 hrd odk))) ho (by assumption) (strKind_is _ _ _ _) (PySem.F.args_dict_setdefault_3 _ _ _) hv' (by rw [sizeLine_eq]; have := hD.1; omega) fun h' o' F N ho' => ?_)
      replace N := news_swap N
      repeat' walk1
      all_goals (try k_data)
      rename Fr _ _ _ _ => F
      rename News _ _ _ _ => N
      refine go (appendX F N (all_ne2 (Nat.ne_of_lt hlt) (all_ne2 hrf ofl)) (by have := hF.1; omega) fun h' F N => ?_)
      repeat' walk1
      all_goals (try k_data)
      rename Fr _ _ _ _ => F
      rename News _ _ _ _ => N
      exact TurnEnd.intro (nx := [(fl, _), (dk, _), (rg, _)]) F N (fun p hp => hp) rfl ⟨⟨_, rfl⟩, _, _, _, _, _, rfl, ho', hD.new hy hm _, by have z := hF.snoc hy t; rw [idx_of_new hy hm] at z; exact z⟩
  · rintro u news₁ h' tk ⟨ro, oo, c, kvs, fvs, rfl, ho, hD, hF⟩ F N
    repeat' walk1
    all_goals (try k_data)
    rename Fr _ _ _ _ => F
    exact h _ _ _ F.keep ⟨fl, c, fvs, rfl, fresh_of N (fun p hp => by rw [List.mem_singleton.mp hp]; exact List.Mem.head _), hF⟩
end
section
local macro_rules | `(tactic| walk_at "call type:range") => `(tactic| refine halt ?_)
def IntsOf (is : List Nat) (us : List Value) : Prop := us.length = is.length ∧ ∀ (j : Nat) (v : Value) (i : Nat), us[j]? = some v → is[j]? = some i → ∃ t, v = .int (i : Nat) t
theorem IntsOf.nil : IntsOf [] [] := ⟨rfl, fun j v i h => by simp at h⟩
theorem IntsOf.snoc {is : List Nat} {us : List Value} {i : Nat} {t : Tok} (P : IntsOf is us) : IntsOf (is ++ [i]) (us ++ [Value.int (i : Nat) t]) := by
  refine ⟨by simp [P.1], fun j v k hv hk => ?_⟩
  by_cases q : j < us.length
  · rw [List.getElem?_append_left q] at hv
    rw [List.getElem?_append_left (P.1 ▸ q)] at hk
    exact P.2 j v k hv hk
  · rw [List.getElem?_append_right (by omega)] at hv
    rw [List.getElem?_append_right (by rw [← P.1]; omega)] at hk
    by_cases z : j - us.length = 0
    · rw [← P.1] at hk
      rw [z] at hv hk
      simp at hv hk
      exact ⟨t, by rw [← hv, ← hk]⟩
    · rw [List.getElem?_eq_none (by simp; omega)] at hv; cases hv
def isFirst (xs : List Atom) (i : Nat) : Bool := match xs[i]? with
  | some y => xs.idxOf y == i
  | none => false
def uix (xs : List Atom) (n : Nat) : List Nat := (List.range n).filter (isFirst xs)
theorem uix_succ (xs : List Atom) (n : Nat) : uix xs (n + 1) = uix xs n ++ if isFirst xs n then [n] else [] := by
  unfold uix
  rw [List.range_succ, List.filter_append]
  by_cases h : isFirst xs n = true <;> simp [h]
theorem uix_length (xs : List Atom) (n : Nat) : (uix xs n).length ≤ n := by
  unfold uix
  exact Nat.le_trans (List.length_filter_le _ _) (by simp)

theorem unique_places {w : World} {mg mb} {A : Around} {s : Shared} {v : Value} {kd : Kind} {xs : List Atom} (C : Cx w mg mb s.heap) (RM : Room A 5) (V : VecOf s.heap v kd xs) (hz : xs.length < 1000) :
    Gives w A s 562 [v] fun r h' => ∃ l c, ∃ us : List Value, r = .ref l ∧ Fresh s.heap h' [(l, listOf us.toArray c)] ∧ IntsOf (uix xs xs.length) us := by
  intro Q E h
  have ⟨X, T⟩ := C
  obtain ⟨hd', dp', fr', gd', un'⟩ := A
  obtain rfl : hd' = none := RM.hnd
  walk_at "MINE enterC"
  rename Room _ _ => RM'
  repeat' walk1
  all_goals (try k_data)
  rename Fr _ _ _ _ => F
  rename News _ _ _ _ => N
  refine go (use (first_places (C.ext F.keep) (RM'.le (by decide)) (V.ext F.keep) hz) fun v h' tk x p => ?_)
  dsimp only at x p
  obtain ⟨fl, fc, fvs, rfl, fr, hF⟩ := p
  replace N := newsAdd F N x (fr)
  replace F := fr_by F x
  try dsimp only [List.cons_append, List.nil_append] at N
  repeat' walk1
  all_goals (try k_data)
  rename Fr _ _ _ _ => F
  rename News _ _ _ _ => N
  refine' go (ListCompG [] (fun _ i _ ys => IntsOf (uix xs i) ys) (fun _ _ _ _ _ R _ => R) (fun _ i _ _ R => R.1 ▸ uix_length xs i) ?hh ?hclos ?hcell ?hkind ?hnames ?hx ?h ?hs)
  case hh => rfl
  case hclos => with_unfolding_all rfl
  case hcell => decide
  case hkind => with_unfolding_all rfl
  case hnames => decide
  case hx => with_unfolding_all rfl
  case hs => intro _; with_unfolding_all rfl
  case h =>
    repeat' walk1
    all_goals (try k_data)
    rename Fr _ _ _ _ => F
    rename News _ _ _ _ => N
    refine go (call_len_list (News.isList N (List.Mem.head _)) (by simp; have := hF.1; omega) ?_)
    repeat' walk1
    all_goals (try k_data)
    rw [show (fvs.toArray.size : Int) = ((xs.length : Nat) : Int) by simp [hF.1]]
    refine go (rangeX fun rg h' tk' u' v' x fr => ?_)
    dsimp only at x fr
    replace N := newsAdd F N x (fr)
    replace F := fr_by F x
    try dsimp only [List.cons_append, List.nil_append] at N
    refine ⟨rg, xs.length, _, _, _, rfl, (N _ (List.Mem.head _)).1, hz, by simp, fun X _ => IntsOf.nil, ?_, fun X' D h' tk ys hDX hD hp hR hk => ?_⟩
    · intro X' C' i t s₃ m₃ ys E' hi hC hX hCX hXg hR hn hm hk
      dsimp only at hC hXg hk
      replace hk : Ext _ _ := fun b o e => hk b o (by simp) e
      have C3 := C.ext F.keep
      have ⟨X3, T3⟩ := C3
      have c1 := (N _ (List.Mem.tail _ (List.Mem.tail _ (List.Mem.head _)))).1
      have hfl := News.isList N (List.Mem.tail _ (List.Mem.head _))
      have F3 := elt_fr hn hm hC hk
      have N3 := news_nil F3
      dsimp only at c1 hfl
      obtain ⟨y, hy⟩ : ∃ y, xs[i]? = some y := ⟨_, List.getElem?_eq_getElem hi⟩
      obtain ⟨yv, hyv⟩ : ∃ yv, fvs[i]? = some yv := ⟨_, List.getElem?_eq_getElem (by rw [hF.1]; exact hi)⟩
      obtain ⟨y', t', hy', rfl⟩ := hF.2 i yv hyv
      rw [hy] at hy'
      cases hy'
      clear N X T
      refine Tests.one ?_
      repeat' walk1
      all_goals (try k_data)
      rename Fr _ _ _ _ => F3
      refine itemX (hfl.at fun _ q => F3.keep _ _ q) (by omega) hyv ?_ (by with_unfolding_all rfl)
      repeat' walk1
      all_goals (try k_data)
      refine go ?_
      by_cases hyi : xs.idxOf y = i
      · rw [if_pos (by simp [hyi])]
        repeat' walk1
        all_goals (try k_data)
        refine ⟨_, _, rfl, off_nil.mpr (Ext.refl _), ?_⟩
        show IntsOf (uix xs (i + 1)) _
        rw [uix_succ, if_pos (by simp [isFirst, hy, hyi])]
        exact hR.snoc
      · rw [if_neg (by simp; omega)]
        refine ⟨_, _, rfl, off_nil.mpr (Ext.refl _), ?_⟩
        show IntsOf (uix xs (i + 1)) _
        rw [uix_succ, if_neg (by simp [isFirst, hy, hyi]), List.append_nil]
        exact hR
    · dsimp only at hD hk
      obtain ⟨c, hp⟩ := hp
      refine h _ _ _ (Ext.trans F.keep fun b o e => hk b o (by simp) e) ⟨D, c, ys.toList, rfl, fun p hp' => ?_, hR⟩
      rw [List.mem_singleton.mp hp']
      exact ⟨by simpa using hp, none_back F.keep hD⟩
end
section
def ded (xs : List Atom) : List Atom := (uix xs xs.length).filterMap (xs[·]?)
def Sel (is : List Nat) (vs : List Value) (i : Nat) (ys : List Value) : Prop := ys.length = i ∧ ∀ (j : Nat) (y : Value), ys[j]? = some y → ∃ k : Nat, is[j]? = some k ∧ vs[k]? = some y
theorem Sel.zero (is : List Nat) (vs : List Value) : Sel is vs 0 [] := ⟨rfl, fun j y h => by simp at h⟩
theorem Sel.snoc {is : List Nat} {vs : List Value} {i k : Nat} {ys : List Value} {y : Value} (P : Sel is vs i ys) (hk : is[i]? = some k) (hy : vs[k]? = some y) : Sel is vs (i + 1) (ys ++ [y]) := by
  refine ⟨by simp [P.1], fun j z h => ?_⟩
  by_cases q : j < ys.length
  · rw [List.getElem?_append_left q] at h
    exact P.2 j z h
  · rw [List.getElem?_append_right (by omega)] at h
    by_cases z : j - ys.length = 0
    · rw [z] at h
      have hj : j = i := by have := P.1; omega
      subst hj
      exact ⟨k, hk, by simpa [hy] using h⟩
    · rw [List.getElem?_eq_none (by simp; omega)] at h; cases h
theorem uix_lt {xs : List Atom} {j k n : Nat} (h : (uix xs n)[j]? = some k) : k < n := by
  have := List.mem_of_getElem? h
  unfold uix at this
  exact List.mem_range.mp (List.mem_filter.mp this).1
theorem filterMap_all {α β : Type} {f : α → Option β} {is : List α} (h : ∀ i ∈ is, (f i).isSome = true) : (is.filterMap f).length = is.length ∧ ∀ (j : Nat) (i : α), is[j]? = some i → (is.filterMap f)[j]? = f i := by
  induction is with
  | nil => exact ⟨rfl, fun j i e => by simp at e⟩
  | cons a r ih =>
    obtain ⟨b, hb⟩ := Option.isSome_iff_exists.mp (h a (List.mem_cons_self ..))
    obtain ⟨h1, h2⟩ := ih fun i hi => h i (List.mem_cons_of_mem _ hi)
    rw [List.filterMap_cons_some hb]
    refine ⟨by simp [h1], fun j i e => ?_⟩
    cases j with
    | zero => simp at e; subst e; simp [hb]
    | succ j => simp at e ⊢; exact h2 j i e
theorem sel_atoms {h : Heap} {kd : Kind} {vs ys : List Value} {xs : List Atom} {is : List Nat} (hx : Atoms h kd vs xs) (hi : ∀ k ∈ is, k < xs.length) (S : Sel is vs is.length ys) : Atoms h kd ys (is.filterMap (xs[·]?)) := by
  obtain ⟨l1, l2⟩ := filterMap_all (f := fun k : Nat => xs[k]?) (is := is) (fun k hk => by simp [hi k hk])
  refine ⟨S.1.trans l1.symm, fun j v x hv hx' => ?_⟩
  obtain ⟨k, hk, hvk⟩ := S.2 j v hv
  rw [l2 j k hk] at hx'
  exact hx.2 k v x hvk hx'

theorem distinct {w : World} {mg mb} {A : Around} {s : Shared} {v : Value} {kd : Kind} {xs : List Atom} (C : Cx w mg mb s.heap) (RM : Room A 6) {B : Addr → Prop} (V : VecB B s.heap v kd xs) (hz : xs.length < 1000) :
    Gives w A s 586 [v] fun r h' => VecF B s.heap h' r kd (ded xs) := by
  intro Q E h
  have V0 := V
  obtain ⟨a, d, es, n, l, vs, rfl, hv, hl, hx, ba, bd, bl, br⟩ := V
  have hv' := hv
  obtain ⟨hv1, hv2, h1V, h2V, h3V, h4V, h5V, t1V, t2V, t3V, t4V, t5V, tkV, rfl⟩ := hv'
  have ⟨X, T⟩ := C
  obtain ⟨hd', dp', fr', gd', un'⟩ := A
  obtain rfl : hd' = none := RM.hnd
  walk_at "MINE enterC"
  rename Room _ _ => RM'
  repeat' walk1
  all_goals (try k_data)
  rename Fr _ _ _ _ => F
  rename News _ _ _ _ => N
  refine' go (ListCompL (fun _ i _ ys => Sel (uix xs xs.length) vs i ys) (fun _ _ _ _ _ R _ => R) (fun _ i _ _ R => R.1) ?hh ?hclos ?hcell ?hkind ?hnames ?hx ?h ?hs)
  case hh => rfl
  case hclos => with_unfolding_all rfl
  case hcell => decide
  case hkind => with_unfolding_all rfl
  case hnames => decide
  case hx => with_unfolding_all rfl
  case hs => intro _; with_unfolding_all rfl
  case h =>
    repeat' walk1
    all_goals (try k_data)
    rename Fr _ _ _ _ => F
    rename News _ _ _ _ => N
    refine go (use (unique_places (C.ext F.keep) (RM'.le (by decide)) (V0.of.ext F.keep) hz) fun v h' tk x p => ?_)
    dsimp only at x p
    obtain ⟨ul, uc, us, rfl, fr, hU⟩ := p
    replace N := newsAdd F N x (fr)
    replace F := fr_by F x
    try dsimp only [List.cons_append, List.nil_append] at N
    refine go ⟨ul, us, rfl, News.isList N (List.Mem.head _), by have := hU.1; have := uix_length xs xs.length; omega, fun X _ => Sel.zero _ _, ?_, fun X' D h' tk ys hDX hD hp hR hk => ?_⟩
    · intro X' C' i v s₃ m₃ ys E' hC hX hCX hXg hv hR hn hm hk
      dsimp only at hC hXg hk
      have C3 := C.ext F.keep
      have ⟨X3, T3⟩ := C3
      have c1 := (N _ (List.Mem.tail _ (List.Mem.head _))).1
      have W1 := F.keep _ _ hv1
      have W2 := F.keep _ _ hv2
      have F3 := elt_fr hn hm hC hk
      have N3 := news_nil F3
      dsimp only at c1
      obtain ⟨k, hk'⟩ : ∃ k, (uix xs xs.length)[i]? = some k := ⟨_, List.getElem?_eq_getElem (by rw [← hU.1]; exact (List.getElem?_eq_some_iff.mp hv).1)⟩
      obtain ⟨t', rfl⟩ := hU.2 i v k hv hk'
      have hkl := uix_lt hk'
      obtain ⟨yv, hyv⟩ : ∃ yv, vs[k]? = some yv := ⟨_, List.getElem?_eq_getElem (by rw [hx.1]; exact hkl)⟩
      clear N X T
      repeat' walk1
      all_goals (try k_data)
      rename Fr _ C' _ _ => F3
      refine itemX (hl.at fun _ q => F3.keep _ _ (F.keep _ _ q)) (by omega) hyv ?_ (by with_unfolding_all rfl)
      repeat' walk1
      all_goals (try k_data)
      exact ⟨_, _, rfl, Ext.refl _, hR.snoc hk' hyv⟩
    · dsimp only at hD hk ⊢
      obtain ⟨c, hp⟩ := hp
      have hR' : Sel (uix xs xs.length) vs (uix xs xs.length).length ys.toList := hU.1 ▸ hR
      have AT := sel_atoms (hx.ext (Ext.trans F.keep hk)) (fun k hk => (by obtain ⟨j, hj⟩ := List.getElem?_of_mem hk; exact uix_lt hj)) hR'
      have RI : RefsIn (BF B s.heap) ys.toList := fun v hv b q => by
        obtain ⟨j, hj⟩ := List.getElem?_of_mem hv
        obtain ⟨k, _, hk2⟩ := hR.2 j v hj
        exact .inl (br v (List.mem_of_getElem? hk2) b q)
      have hl' : h'.IsList D ys.toList.toArray := isList_of (k := c) (by simpa using hp)
      have C' := C.ext (Ext.trans F.keep hk)
      have hDn := none_back F.keep hD
      replace N := newsBy N hk
      replace F := fr_by F hk
      repeat' walk1
      all_goals (try k_data)
      rename Fr _ _ _ _ => F
      rename News _ _ _ _ => N
      refine go (use (mkVecV (C.ext F.keep) (RM'.le (by decide)) hl' AT (B := BF B s.heap) (.inr hDn) RI) fun v h' tk x p => ?_)
      dsimp only at x p
      replace p := p.back F.keep
      replace F := fr_by F x
      replace N := newsBy N x
      repeat' walk1
      all_goals (try k_data)
      exact h _ _ _ F.keep p
end
section
local macro_rules | `(tactic| walk_at "execs cons Assign cons") => `(tactic| ((with_reducible refine wpAny_execs_cons ?_); (try dsimp only)))
local macro_rules | `(tactic| walk_at "call type:range") => `(tactic| refine halt ?_)
local macro_rules | `(tactic| walk_at "call builtin:dict.setdefault") => `(tactic| refine halt ?_)
local macro_rules | `(tactic| walk_at "call builtin:dict.get") => `(tactic| refine halt ?_)
local macro_rules | `(tactic| k_all) => `(tactic| assumption)
local macro_rules | `(tactic| k_mem) => `(tactic| assumption)
theorem match_places {w : World} {mg mb} {A : Around} {s : Shared} {u v : Value} {ku kv : Kind} {xs ys : List Atom} (C : Cx w mg mb s.heap) (RM : Room A 9) (U : VecOf s.heap u ku xs) (V : VecOf s.heap v kv ys) (hc : Compat ku kv) (hx : xs.length < 1000) (hy : ys.length < 1000) :
    Gives w A s 581 [u, v] fun r h' => ∃ l c, ∃ us : List Value, r = .ref l ∧ Fresh s.heap h' [(l, listOf us.toArray c)] ∧ MP xs ys xs.length us := by
  intro Q E h
  have U' := U.old
  have V' := V.old
  have ⟨X, T⟩ := C
  obtain ⟨hd', dp', fr', gd', un'⟩ := A
  obtain rfl : hd' = none := RM.hnd
  walk_at "MINE enterC"
  rename Room _ _ => RM'
  repeat' walk1
  all_goals (try k_data)
  rename Fr _ _ _ _ => F
  rename News _ _ _ _ => N
  obtain ⟨h1, h1e⟩ := heap_nm F
  have N1 := N
  have F1 := F
  have U1 := U'.ext F.keep
  have V1 := V'.ext F.keep
  refine' go (use ?G fun v h' tk x p => ?_)
  case G =>
    have CC := C.ext F.keep
    exact both_kinds CC (RM'.le (by decide)) U1 V1 hc (by omega) (by omega)
  dsimp only at x p
  obtain ⟨ta, v1, v2, rfl, fr, P1, P2⟩ := p
  clear U1 V1
  rw [← h1e] at P1 P2 N1 F1
  have ft := fr _ (List.Mem.head _)
  rw [← h1e] at ft
  replace F := fr_by F x
  replace N := newsBy N x
  obtain ⟨a1, d1, es1, n1, l1, vs1, rfl, w1, wl1, wx1, na1, nd1, bl1, br1⟩ := P1
  obtain ⟨a2, d2, es2, n2, l2, vs2, rfl, w2, wl2, wx2, na2, nd2, bl2, br2⟩ := P2
  have w1' := w1
  obtain ⟨w11, w12, h1W, h2W, h3W, h4W, h5W, t1W, t2W, t3W, t4W, t5W, tkW, rfl⟩ := w1'
  have w2' := w2
  obtain ⟨w21, w22, h1Z, h2Z, h3Z, h4Z, h5Z, t1Z, t2Z, t3Z, t4Z, t5Z, tkZ, rfl⟩ := w2'
  obtain ⟨ex1, e11, e12⟩ := LA_objs F.keep wl1 wx1 bl1 br1
  obtain ⟨ex2, e21, e22⟩ := LA_objs F.keep wl2 wx2 bl2 br2
  have Z : ExOk s.heap _ h1 _ ((a1, instObj 237 d1) :: (d1, _) :: (a2, instObj 237 d2) :: (d2, _) :: (ta, _) :: (ex1 ++ ex2)) := .cons F1 w11 na1 (.cons F1 w12 nd1 (.cons F1 w21 na2 (.cons F1 w22 nd2 (.cons F1 ft.1 ft.2 (.app (news_ex F1 (fun _ q => q) e11) (news_ex F1 (fun _ q => q) e21))))))
  have y1 := Z.ne N1 (List.Mem.head _)
  have y2 := Z.ne N1 (List.Mem.tail _ (List.Mem.head _))
  have y3 := Z.ne N1 (List.Mem.tail _ (List.Mem.tail _ (List.Mem.head _)))
  have y4 := Z.ne N1 (List.Mem.tail _ (List.Mem.tail _ (List.Mem.tail _ (List.Mem.head _))))
  replace N := news_app N Z.2
  dsimp only [List.cons_append, List.nil_append] at N
  have qm := Z.sub5
  obtain ⟨ex, hex⟩ := Z.nm
  rw [← hex] at N y1 y2 y3 y4 qm
  clear Z hex e11 e21
  have q1 := qm _ (.inl (List.Mem.head _))
  have q2 := qm _ (.inl (List.Mem.tail _ (List.Mem.head _)))
  have q3 := qm _ (.inl (List.Mem.tail _ (List.Mem.tail _ (List.Mem.head _))))
  have q4 := qm _ (.inl (List.Mem.tail _ (List.Mem.tail _ (List.Mem.tail _ (List.Mem.head _)))))
  have q5 := qm _ (.inl (List.Mem.tail _ (List.Mem.tail _ (List.Mem.tail _ (List.Mem.tail _ (List.Mem.head _))))))
  repeat' walk1
  all_goals (try k_data)
  rename Fr _ _ _ _ => F
  rename News _ _ _ _ => N
  have VA := vec_news N (by k_mem) (by k_mem) w1
  rename Fr _ _ _ _ => F
  rename News _ _ _ _ => N
  refine go (use (is_listed (C.ext F.keep) (RM'.le (by decide)) VA) fun v h' tk x p => ?_)
  subst p
  dsimp only at x
  replace F := fr_by F x
  replace N := newsBy N x
  clear x
  clear VA
  repeat' walk1
  all_goals (try k_data)
  rename Fr _ _ _ _ => F
  rename News _ _ _ _ => N
  obtain ⟨dk, rfl⟩ := name1 N
  rename Obj.IsDictOf (PySem.strKind _ _) _ _ => hs0
  rename _ < _ ∧ _ => hlt
  obtain ⟨lt1, lt2, lt3, lt4, lt5⟩ := hlt
  have e2 := e22 _ F.keep (mem_news N fun p hp => by have := qm p (.inr (.inr hp)); k_mem)
  refine go ?_
  with_unfolding_all refine' For_invVF F ?k1 ?k2 ?_
  case k1 => exact rfl
  case k2 => exact rfl
  repeat' walk1
  all_goals (try k_data)
  rename Fr _ _ _ _ => F
  rename News _ _ _ _ => N
  refine go (call_len_list e2.1 (by simp; have := e2.2.1; omega) ?_)
  repeat' walk1
  all_goals (try k_data)
  rw [show (vs2.toArray.size : Int) = ((ys.length : Nat) : Int) by simp [e2.2.1]]
  refine go (rangeX fun rg h' tk' u' v' x fr => ?_)
  dsimp only at x fr
  have hrd : rg ≠ dk := fun e => ne_fresh N fr _ (List.Mem.head _) e.symm
  replace N := newsAdd F N x (fr)
  replace F := fr_by F x
  try dsimp only [List.cons_append, List.nil_append] at N
  have hrng := (N _ (List.Mem.head _)).1
  replace N := news_swap N
  obtain ⟨rest, hrest⟩ := name_rest N
  have hne : ∀ p ∈ rest, p.1 ≠ dk := by
    rw [hrest]
    exact all_ne2 hrd (all_ne2 (Nat.ne_of_lt lt1) (all_ne2 (Nat.ne_of_lt lt2) (all_ne2 (Nat.ne_of_lt lt3) (all_ne2 (Nat.ne_of_lt lt4) fun p hp => Nat.ne_of_lt (allLt_mem lt5 p hp)))))
  rw [← hrest] at N
  refine range_loop (fun i nw => ∃ oo, ∃ kvs : List (Str × Value), nw = (dk, oo) :: rest ∧ Obj.IsDictOf (PySem.strKind PySem.Challenge.rw_pq1330_01.row.prog w) oo kvs ∧ DK (ku.join kv) ys i kvs) [dk] RM'.hnd hrng hy F N ?_ ?_ ?_ ?_
  · intro b hb
    rw [List.mem_singleton.mp hb]
    exact Heap.lt_size (N _ (List.Mem.head _)).1
  · exact ⟨_, [], rfl, hs0, DK.zero _ ys⟩
  · rintro i t news₁ h' tk own hi _ hown ⟨oo, kvs, rfl, ho, hD⟩ F N
    rw [hrest] at N
    dsimp only [List.cons_append, List.nil_append] at N
    clear hs0
    obtain ⟨y, hy⟩ : ∃ y, ys[i]? = some y := ⟨_, List.getElem?_eq_getElem hi⟩
    obtain ⟨yv, hyv⟩ : ∃ yv, vs2[i]? = some yv := ⟨_, List.getElem?_eq_getElem (by rw [e2.2.1]; exact hi)⟩
    have odk : ∀ p ∈ own, p.1 ≠ dk := fun p hp e => hown p hp (by rw [e]; simp)
    have q3' := List.mem_append_left own q3
    have q4' := List.mem_append_left own q4
    repeat' walk1
    all_goals (try k_data)
    rename Fr _ _ _ _ => F
    rename News _ _ _ _ => N
    have e3 := e22 _ F.keep (mem_news N fun p hp => by have := List.mem_append_left own (qm p (.inr (.inr hp))); k_mem)
    refine itemX e3.1 (by omega) hyv ?_ (by with_unfolding_all rfl)
    repeat' walk1
    all_goals (try k_data)
    rename Fr _ _ _ _ => F
    rename News _ _ _ _ => N
    have AV := e3.2.2 i yv y hyv hy
    refine go (use (item_key (kd := ku.join kv) (C.ext F.keep) (RM'.le (by decide)) AV) fun v h' tk x p => ?_)
    dsimp only at x p
    obtain ⟨ku', rfl⟩ := p
    replace F := fr_by F x
    replace N := newsBy N x
    repeat' walk1
    all_goals (try k_data)
    rename Fr _ _ _ _ => F
    rename News _ _ _ _ => N
    by_cases hm : y ∈ ys.take i
    · obtain ⟨t', hv'⟩ := (hD.2 y).1 hm
      refine go (kob_setdef_there N (List.Mem.head _) ho (by assumption) (strKind_is _ _ _ _) (PySem.F.args_dict_setdefault_3 _ _ _) hv' (by rw [sizeLine_eq]; have := hD.1; omega) ?_)
      repeat' walk1
      all_goals (try k_data)
      rename Fr _ _ _ _ => F
      rename News _ _ _ _ => N
      exact TurnEnd.intro (nx := (dk, oo) :: rest) F N (fun p hp => by rw [hrest] at hp; exact hp) rfl ⟨⟨_, rfl⟩, _, _, rfl, ho, hD.old hy hm⟩
    · have hv' := (hD.2 y).2 hm
      have hno : ∀ p ∈ rest ++ own, p.1 ≠ dk := app_ne hne odk
      rw [hrest] at hno
      refine go (kob_setdef_new F N (.head hno) ho (by assumption) (strKind_is _ _ _ _) (PySem.F.args_dict_setdefault_3 _ _ _) hv' (by rw [sizeLine_eq]; have := hD.1; omega) fun h' o' F N ho' => ?_)
      repeat' walk1
      all_goals (try k_data)
      rename Fr _ _ _ _ => F
      rename News _ _ _ _ => N
      exact TurnEnd.intro (nx := (dk, o') :: rest) F N (fun p hp => by rw [hrest] at hp; exact hp) rfl ⟨⟨_, rfl⟩, _, _, rfl, ho', hD.new hy hm _⟩
  · rintro u news₁ h' tk ⟨oo, kvs, rfl, ho, hD⟩ F N
    rw [hrest] at N
    clear hs0 q5
    repeat' walk1
    all_goals (try k_data)
    rename Fr _ _ _ _ => F
    rename News _ _ _ _ => N
    have e3 := e22 _ F.keep (mem_news N fun p hp => by have := qm p (.inr (.inr hp)); k_mem)
    have e4 := e12 _ F.keep (mem_news N fun p hp => by have := qm p (.inr (.inl hp)); k_mem)
    refine' go (ListCompL (fun _ i _ us => MP xs ys i us) (fun _ _ _ _ _ R _ => R) (fun _ i _ _ R => R.1) ?hh ?hclos ?hcell ?hkind ?hnames ?hx ?h ?hs)
    case hh => rfl
    case hclos => with_unfolding_all rfl
    case hcell => decide
    case hkind => with_unfolding_all rfl
    case hnames => decide
    case hx => with_unfolding_all rfl
    case hs => intro _; with_unfolding_all rfl
    case h =>
      repeat' walk1
      all_goals (try k_data)
      rename Fr _ _ _ _ => F
      rename News _ _ _ _ => N
      refine go ⟨l1, vs1, rfl, e4.1, by have := e4.2.1; omega, fun X _ => MP.zero _ _, ?_, fun X' D h' tk us hDX hD' hp hR hk => ?_⟩
      · intro X' C' i v s₃ m₃ us E' hC hX hCX hXg hv hR hn hm hk
        dsimp only at hC hXg hk
        have C3 := C.ext F.keep
        have ⟨X3, T3⟩ := C3
        have c0 := (N _ (List.Mem.head _)).1
        have c1 := (N _ (List.Mem.tail _ (List.Mem.tail _ (List.Mem.head _)))).1
        have c2 := (N _ (List.Mem.tail _ (List.Mem.tail _ (List.Mem.tail _ (List.Mem.head _))))).1
        have c3 := (N _ (List.Mem.tail _ (List.Mem.tail _ (List.Mem.tail _ (List.Mem.tail _ (List.Mem.head _)))))).1
        have c4 := (N _ (List.Mem.tail _ (List.Mem.tail _ (List.Mem.tail _ (List.Mem.tail _ (List.Mem.tail _ (List.Mem.head _))))))).1
        have W1 : Heap.get? _ a1 = some _ := (N _ (by k_mem : (a1, instObj 237 d1) ∈ _)).1
        have W2 := (mem_news N (ex := [(d1, _)]) (fun p hp => by rw [List.mem_singleton.mp hp]; k_mem) _ (List.Mem.head _))
        have F3 := elt_fr hn hm hC hk
        have N3 := news_nil F3
        dsimp only at c0 c1 c2 c3 c4 W1 W2
        obtain ⟨x, hx'⟩ : ∃ x, xs[i]? = some x := ⟨_, List.getElem?_eq_getElem (by rw [← e4.2.1]; exact (List.getElem?_eq_some_iff.mp hv).1)⟩
        have AV := e4.2.2 i v x hv hx'
        clear N X T
        repeat' walk1
        all_goals (try k_data)
        rename Fr _ C' _ _ => F3
        refine dict_methodX PySem.F.slot_dict_get PySem.F.type_dict_get (F3.keep _ _ c0) ho ?_
        repeat' walk1
        all_goals (try k_data)
        rename Fr _ C' _ _ => F3
        refine go (use (item_key (kd := ku.join kv) (C3.ext F3.keep) (RM'.le (by decide)) (AV.ext F3.keep)) fun v h' tk x' p => ?_)
        dsimp only at x' p
        obtain ⟨ku', rfl⟩ := p
        replace F3 := fr_by F3 x'
        repeat' walk1
        all_goals (try k_data)
        rename Fr _ C' _ _ => F3
        refine go (dict_getX (F3.keep _ _ c0) ho (by assumption) ?_)
        have hDw := hD.2 x
        rw [List.take_length] at hDw
        show EltEnd s₃ (fun _ => MP xs ys (i + 1) (us ++ [(valueAt kvs (key (ku.join kv) x)).getD Value.none])) _
        refine ⟨_, _, rfl, x', hR.snoc hx' (fun hm => ?_) fun hm => ?_⟩
        · obtain ⟨t', e⟩ := hDw.1 hm
          exact ⟨_, t', by rw [e]; rfl⟩
        · rw [hDw.2 hm]; rfl
      · dsimp only at hD' hk
        obtain ⟨c, hp⟩ := hp
        refine h _ _ _ (Ext.trans F.keep hk) ⟨D, c, us.toList, rfl, fun p hp' => ?_, e4.2.1 ▸ hR⟩
        rw [List.mem_singleton.mp hp']
        exact ⟨by simpa using hp, none_back F.keep hD'⟩
end
section
local macro_rules | `(tactic| walk_at "compareOp NotIn") => `(tactic| refine halt ?_)
def isNoneV : Value → Bool
  | .none => true
  | _ => false
theorem MP.at {xs ys : List Atom} {n : Nat} {us : List Value} (P : MP xs ys n us) {v : Value} (hv : v ∈ us) : ∃ x ∈ xs, (x ∈ ys ∧ ∃ (n : Nat) (t : Tok), v = .int (n : Nat) t) ∨ (x ∉ ys ∧ v = .none) := by
  obtain ⟨j, hj⟩ := List.getElem?_of_mem hv
  obtain ⟨x, hx, h1, h2⟩ := P.2 j v hj
  refine ⟨x, List.mem_of_getElem? hx, ?_⟩
  by_cases hm : x ∈ ys
  · exact .inl ⟨hm, h1 hm⟩
  · exact .inr ⟨hm, h2 hm⟩
theorem MP.any {xs ys : List Atom} {us : List Value} (P : MP xs ys xs.length us) : us.any isNoneV = !decide (∀ x ∈ xs, x ∈ ys) := by
  by_cases h : ∀ x ∈ xs, x ∈ ys
  · rw [decide_eq_true h]
    rw [Bool.not_true, List.any_eq_false]
    intro v hv
    obtain ⟨x, hx, ⟨_, n, t, rfl⟩ | ⟨hn, _⟩⟩ := P.at hv
    · simp [isNoneV]
    · exact absurd (h x hx) hn
  · rw [decide_eq_false h, Bool.not_false, List.any_eq_true]
    obtain ⟨x, hx, hn⟩ : ∃ x ∈ xs, x ∉ ys := Classical.byContradiction fun z => h fun x hx => Classical.byContradiction fun hn => z ⟨x, hx, hn⟩
    obtain ⟨j, hj⟩ := List.getElem?_of_mem hx
    obtain ⟨v, hv⟩ : ∃ v, us[j]? = some v := ⟨_, List.getElem?_eq_getElem (by rw [P.1]; exact (List.getElem?_eq_some_iff.mp hj).1)⟩
    obtain ⟨x', hx', _, h2⟩ := P.2 j v hv
    rw [hj] at hx'
    cases hx'
    exact ⟨v, List.mem_of_getElem? hv, by rw [h2 hn]; rfl⟩
theorem notNoneX {prog : Program} {w : World} {A : Around} {E : Value → Shared → Prop} {s : Shared} {l : Addr} {us : List Value} {xs ys : List Atom} {Q : Value → Shared → Prop} (hl : s.heap.IsList l us.toArray) (P : MP xs ys xs.length us) (h : Q (.bool (decide (∀ x ∈ xs, x ∈ ys))) s) :
    wpAny (model prog w) A (compareOp .NotIn .none (.ref l)) Q E s := by
  refine PySem.SeqAt.notIn_listAt isNoneV hl (fun y hy => ?_) ?_
  · obtain ⟨x, _, ⟨_, n, t, rfl⟩ | ⟨_, rfl⟩⟩ := P.at (show y ∈ us by simpa using hy)
    · exact PySem.SeqAt.EqAt.int_none _ _
    · exact PySem.SeqAt.EqAt.same _
  · rw [show (us.toArray.any isNoneV) = us.any isNoneV by simp, P.any, Bool.not_not]
    exact h

theorem Compat.symm {a b : Kind} (c : Compat a b) : Compat b a := by
  rcases c with h | ⟨h, k⟩ | ⟨h, k⟩
  · exact .inl h.symm
  · exact .inr (.inr ⟨k, h⟩)
  · exact .inr (.inl ⟨k, h⟩)
theorem same_sets {w : World} {mg mb} {A : Around} {s : Shared} {u v : Value} {ku kv : Kind} {xs ys : List Atom} (C : Cx w mg mb s.heap) (RM : Room A 10) (U : VecOf s.heap u ku xs) (V : VecOf s.heap v kv ys) (hc : Compat ku kv) (hx : xs.length < 1000) (hy : ys.length < 1000) :
    Gives w A s 610 [u, v] fun r _ => r = .bool (decide (∀ x ∈ xs, x ∈ ys) && decide (∀ y ∈ ys, y ∈ xs)) := by
  intro Q E h
  have ⟨X, T⟩ := C
  obtain ⟨hd', dp', fr', gd', un'⟩ := A
  obtain rfl : hd' = none := RM.hnd
  walk_at "MINE enter"
  rename Room _ _ => RM'
  repeat' walk1
  all_goals (try k_data)
  rename Fr _ _ _ _ => F
  rename News _ _ _ _ => N
  have U1 := U.ext F.keep
  have V1 := V.ext F.keep
  refine' go (use ?G fun v h' tk x p => ?_)
  case G =>
    have CC := C.ext F.keep
    exact match_places CC (RM'.le (by decide)) U1 V1 hc hx hy
  dsimp only at x p
  obtain ⟨pl, pc, us, rfl, fr, hP⟩ := p
  replace N := newsAdd F N x (fr)
  replace F := fr_by F x
  try dsimp only [List.cons_append, List.nil_append] at N
  repeat' walk1
  all_goals (try k_data)
  rename Fr _ _ _ _ => F
  rename News _ _ _ _ => N
  refine go (notNoneX (News.isList N (List.Mem.head _)) hP ?_)
  by_cases ha : ∀ x ∈ xs, x ∈ ys
  · rw [decide_eq_true ha]
    rw [decide_eq_true ha] at h
    repeat' walk1
    all_goals (try k_data)
    rename Fr _ _ _ _ => F
    rename News _ _ _ _ => N
    have U1 := U.ext F.keep
    have V1 := V.ext F.keep
    refine' go (use ?G fun v h' tk x p => ?_)
    case G =>
      have CC := C.ext F.keep
      exact match_places CC (RM'.le (by decide)) V1 U1 hc.symm hy hx
    dsimp only at x p
    obtain ⟨pl2, pc2, us2, rfl, fr2, hP2⟩ := p
    replace N := newsAdd F N x (fr2)
    replace F := fr_by F x
    try dsimp only [List.cons_append, List.nil_append] at N
    repeat' walk1
    all_goals (try k_data)
    rename Fr _ _ _ _ => F
    rename News _ _ _ _ => N
    refine go (notNoneX (News.isList N (List.Mem.head _)) hP2 ?_)
    repeat' walk1
    all_goals (try k_data)
    rename Fr _ _ _ _ => F
    exact h _ _ _ F.keep rfl
  · rw [decide_eq_false ha]
    rw [decide_eq_false ha] at h
    repeat' walk1
    all_goals (try k_data)
    rename Fr _ _ _ _ => F
    exact h _ _ _ F.keep rfl
end
section
local macro_rules | `(tactic| k_all) => `(tactic| assumption)
local macro_rules | `(tactic| k_mem) => `(tactic| assumption)
local macro_rules | `(tactic| walk_at "binaryOp Add ref ref") => `(tactic| refine halt ?_)
theorem union_of {w : World} {mg mb} {A : Around} {s : Shared} {u v : Value} {ku kv : Kind} {xs ys : List Atom} {B : Addr → Prop} (C : Cx w mg mb s.heap) (RM : Room A 9) (U : VecB B s.heap u ku xs) (V : VecB B s.heap v kv ys) (hc : Compat ku kv) (hx : xs.length < 400) (hy : ys.length < 400) :
    Gives w A s 593 [u, v] fun r h' => VecF B s.heap h' r (ku.join kv) (ded (xs ++ ys)) := by
  intro Q E h
  have ⟨X, T⟩ := C
  have U' := U.oldB
  have V' := V.oldB
  obtain ⟨hd', dp', fr', gd', un'⟩ := A
  obtain rfl : hd' = none := RM.hnd
  walk_at "MINE enter"
  rename Room _ _ => RM'
  repeat' walk1
  all_goals (try k_data)
  rename Fr _ _ _ _ => F
  rename News _ _ _ _ => N
  obtain ⟨h1, h1e⟩ := heap_nm F
  have N1 := N
  have F1 := F
  have U1 := U'.ext F.keep
  have V1 := V'.ext F.keep
  refine' go (use ?G fun v h' tk x p => ?_)
  case G =>
    have CC := C.ext F.keep
    exact both_kinds CC (RM'.le (by decide)) U1 V1 hc (by omega) (by omega)
  dsimp only at x p
  obtain ⟨ta, v1, v2, rfl, fr, P1, P2⟩ := p
  clear U1 V1
  rw [← h1e] at P1 P2 N1 F1
  have ft := fr _ (List.Mem.head _)
  rw [← h1e] at ft
  replace F := fr_by F x
  replace N := newsBy N x
  obtain ⟨a1, d1, es1, n1, l1, vs1, rfl, w1, wl1, wx1, na1, nd1, bl1, br1⟩ := P1
  obtain ⟨a2, d2, es2, n2, l2, vs2, rfl, w2, wl2, wx2, na2, nd2, bl2, br2⟩ := P2
  have w1' := w1
  obtain ⟨w11, w12, h1W, h2W, h3W, h4W, h5W, t1W, t2W, t3W, t4W, t5W, tkW, rfl⟩ := w1'
  have w2' := w2
  obtain ⟨w21, w22, h1Z, h2Z, h3Z, h4Z, h5Z, t1Z, t2Z, t3Z, t4Z, t5Z, tkZ, rfl⟩ := w2'
  obtain ⟨ex1, e11, e12⟩ := LA_objs F.keep wl1 wx1 bl1 br1
  obtain ⟨ex2, e21, e22⟩ := LA_objs F.keep wl2 wx2 bl2 br2
  have Z : ExOk s.heap _ h1 _ ((a1, instObj 237 d1) :: (d1, _) :: (a2, instObj 237 d2) :: (d2, _) :: (ta, _) :: (ex1 ++ ex2)) := .cons F1 w11 na1 (.cons F1 w12 nd1 (.cons F1 w21 na2 (.cons F1 w22 nd2 (.cons F1 ft.1 ft.2 (.app (news_ex F1 (fun _ q => q.2) e11) (news_ex F1 (fun _ q => q.2) e21))))))
  replace N := news_app N Z.2
  dsimp only [List.cons_append, List.nil_append] at N
  have qm := Z.sub5
  obtain ⟨ex, hex⟩ := Z.nm
  rw [← hex] at N qm
  clear Z hex e11 e21
  have q1 := qm _ (.inl (List.Mem.head _))
  have q2 := qm _ (.inl (List.Mem.tail _ (List.Mem.head _)))
  have q3 := qm _ (.inl (List.Mem.tail _ (List.Mem.tail _ (List.Mem.head _))))
  have q4 := qm _ (.inl (List.Mem.tail _ (List.Mem.tail _ (List.Mem.tail _ (List.Mem.head _)))))
  have q5 := qm _ (.inl (List.Mem.tail _ (List.Mem.tail _ (List.Mem.tail _ (List.Mem.tail _ (List.Mem.head _))))))
  have br : RefsIn (BF B s.heap) (vs1 ++ vs2) := fun v hv b q => (List.mem_append.mp hv).elim (fun hv => bf_old F1.keep b (br1 v hv b q)) fun hv => bf_old F1.keep b (br2 v hv b q)
  repeat' walk1
  all_goals (try k_data)
  rename Fr _ _ _ _ => F
  rename News _ _ _ _ => N
  have e1 := e12 _ F.keep (mem_news N fun p hp => by have := qm p (.inr (.inl hp)); k_mem)
  have e2 := e22 _ F.keep (mem_news N fun p hp => by have := qm p (.inr (.inr hp)); k_mem)
  refine go (add_lists F N e1.1 e2.1 (fun h' F N => ?_) (by rw [sizeLine_eq]; have := e1.2.1; have := e2.2.1; omega))
  repeat' walk1
  all_goals (try k_data)
  rename Fr _ _ _ _ => F
  rename News _ _ _ _ => N
  have e1 := e12 _ F.keep (mem_news N fun p hp => by have := qm p (.inr (.inl hp)); k_mem)
  have e2 := e22 _ F.keep (mem_news N fun p hp => by have := qm p (.inr (.inr hp)); k_mem)
  have nl := (N _ (List.Mem.head _)).2.2
  have hl := News.isList N (List.Mem.head _)
  refine go (use (mkVecV (B := BF B s.heap) (C.ext F.keep) (RM'.le (by decide)) hl (e1.2.append e2.2) (.inr nl) br) fun v h' tk x p => ?_)
  dsimp only at x p
  replace p := p.toB' F.keep
  replace F := fr_by F x
  replace N := newsBy N x
  repeat' walk1
  all_goals (try k_data)
  rename Fr _ _ _ _ => F
  rename News _ _ _ _ => N
  have CC := C.ext F.keep
  refine go (use (distinct CC (RM'.le (by decide)) p (by simp; omega)) fun v h' tk x p => ?_)
  dsimp only at x p
  replace p := p.back F.keep
  replace F := fr_by F x
  replace N := newsBy N x
  repeat' walk1
  all_goals (try k_data)
  exact h _ _ _ F.keep p
end
section
local macro_rules | `(tactic| walk_at "call type:range") => `(tactic| refine halt ?_)
local macro_rules | `(tactic| k_all) => `(tactic| assumption)
local macro_rules | `(tactic| k_mem) => `(tactic| assumption)
def pix (p : Nat → Bool) (n : Nat) : List Nat := (List.range n).filter p
theorem pix_succ (p : Nat → Bool) (n : Nat) : pix p (n + 1) = pix p n ++ if p n then [n] else [] := by
  unfold pix
  rw [List.range_succ, List.filter_append]
  by_cases h : p n = true <;> simp [h]
theorem pix_length (p : Nat → Bool) (n : Nat) : (pix p n).length ≤ n := by
  unfold pix
  exact Nat.le_trans (List.length_filter_le _ _) (by simp)
theorem pix_lt {p : Nat → Bool} {k n : Nat} (h : k ∈ pix p n) : k < n := List.mem_range.mp (List.mem_filter.mp h).1
theorem Sel.more {is : List Nat} {vs zs : List Value} {k : Nat} {y : Value} (P : Sel is vs is.length zs) (hy : vs[k]? = some y) : Sel (is ++ [k]) vs (is ++ [k]).length (zs ++ [y]) := by
  refine ⟨by simp [P.1], fun j z h => ?_⟩
  by_cases q : j < zs.length
  · rw [List.getElem?_append_left q] at h
    obtain ⟨m, h1, h2⟩ := P.2 j z h
    exact ⟨m, by rw [List.getElem?_append_left (by have := P.1; omega)]; exact h1, h2⟩
  · rw [List.getElem?_append_right (by omega)] at h
    by_cases e : j - zs.length = 0
    · rw [e] at h
      have hj : j = is.length := by have := P.1; omega
      subst hj
      exact ⟨k, by simp, by simpa [hy] using h⟩
    · rw [List.getElem?_eq_none (by simp; omega)] at h; cases h
def inP (xs ys : List Atom) (k : Nat) : Bool := match xs[k]? with
  | some x => decide (x ∈ ys)
  | none => false
def outP (xs ys : List Atom) (k : Nat) : Bool := match xs[k]? with
  | some x => decide (x ∉ ys)
  | none => false
theorem pix_atoms (xs : List Atom) (f : Atom → Bool) : (pix (fun k => match xs[k]? with | some x => f x | none => false) xs.length).filterMap (xs[·]?) = xs.filter f := by
  unfold pix
  induction xs with
  | nil => rfl
  | cons a r ih =>
    rw [List.length_cons, List.range_succ_eq_map, List.filter_cons]
    have e : ((List.range r.length).map Nat.succ).filter (fun k => match (a :: r)[k]? with | some x => f x | none => false) = ((List.range r.length).filter (fun k => match r[k]? with | some x => f x | none => false)).map Nat.succ := by
      rw [List.filter_map]
      rfl
    by_cases h : f a = true
    · simp only [List.getElem?_cons_zero, h, if_true, List.filter_cons, List.filterMap_cons]
      rw [e, List.filterMap_map]
      refine congrArg _ (Eq.trans ?_ ih)
      rfl
    · simp only [List.getElem?_cons_zero, h, if_false, List.filter_cons]
      rw [if_neg (by simp), e, List.filterMap_map, if_neg (by simp)]
      refine Eq.trans ?_ ih
      rfl
theorem in_atoms (xs ys : List Atom) : (pix (inP xs ys) xs.length).filterMap (xs[·]?) = xs.filter (· ∈ ys) := pix_atoms xs fun x => decide (x ∈ ys)
theorem out_atoms (xs ys : List Atom) : (pix (outP xs ys) xs.length).filterMap (xs[·]?) = xs.filter (fun x => decide (x ∉ ys)) := pix_atoms xs fun x => decide (x ∉ ys)
theorem intersect_of {w : World} {mg mb} {A : Around} {s : Shared} {u v : Value} {ku kv : Kind} {xs ys : List Atom} {B : Addr → Prop} (C : Cx w mg mb s.heap) (RM : Room A 10) (U : VecB B s.heap u ku xs) (V : VecB B s.heap v kv ys) (hc : Compat ku kv) (hx : xs.length < 1000) (hy : ys.length < 1000) :
    Gives w A s 598 [u, v] fun r h' => VecF B s.heap h' r (ku.join kv) (ded (xs.filter (· ∈ ys))) := by
  intro Q E h
  have U' := U.oldB
  have V' := V.oldB
  have ⟨X, T⟩ := C
  obtain ⟨hd', dp', fr', gd', un'⟩ := A
  obtain rfl : hd' = none := RM.hnd
  walk_at "MINE enterC"
  rename Room _ _ => RM'
  repeat' walk1
  all_goals (try k_data)
  rename Fr _ _ _ _ => F
  rename News _ _ _ _ => N
  obtain ⟨h1, h1e⟩ := heap_nm F
  have N1 := N
  have F1 := F
  have U1 := U'.ext F.keep
  have V1 := V'.ext F.keep
  refine' go (use ?G fun v h' tk x p => ?_)
  case G =>
    have CC := C.ext F.keep
    exact both_kinds CC (RM'.le (by decide)) U1 V1 hc (by omega) (by omega)
  dsimp only at x p
  obtain ⟨ta, v1, v2, rfl, fr, P1, P2⟩ := p
  clear U1 V1
  rw [← h1e] at P1 P2 N1 F1
  have ft := fr _ (List.Mem.head _)
  rw [← h1e] at ft
  replace F := fr_by F x
  replace N := newsBy N x
  obtain ⟨a1, d1, es1, n1, l1, vs1, rfl, w1, wl1, wx1, na1, nd1, bl1, br1⟩ := P1
  obtain ⟨a2, d2, es2, n2, l2, vs2, rfl, w2, wl2, wx2, na2, nd2, bl2, br2⟩ := P2
  have w1' := w1
  obtain ⟨w11, w12, h1W, h2W, h3W, h4W, h5W, t1W, t2W, t3W, t4W, t5W, tkW, rfl⟩ := w1'
  have w2' := w2
  obtain ⟨w21, w22, h1Z, h2Z, h3Z, h4Z, h5Z, t1Z, t2Z, t3Z, t4Z, t5Z, tkZ, rfl⟩ := w2'
  obtain ⟨ex1, e11, e12⟩ := LA_objs F.keep wl1 wx1 bl1 br1
  obtain ⟨ex2, e21, e22⟩ := LA_objs F.keep wl2 wx2 bl2 br2
  have Z : ExOk s.heap _ h1 _ ((a1, instObj 237 d1) :: (d1, _) :: (a2, instObj 237 d2) :: (d2, _) :: (ta, _) :: (ex1 ++ ex2)) := .cons F1 w11 na1 (.cons F1 w12 nd1 (.cons F1 w21 na2 (.cons F1 w22 nd2 (.cons F1 ft.1 ft.2 (.app (news_ex F1 (fun _ q => q.2) e11) (news_ex F1 (fun _ q => q.2) e21))))))
  have y1 := Z.ne N1 (List.Mem.head _)
  have y2 := Z.ne N1 (List.Mem.tail _ (List.Mem.head _))
  replace N := news_app N Z.2
  dsimp only [List.cons_append, List.nil_append] at N
  have qm := Z.sub5
  obtain ⟨ex, hex⟩ := Z.nm
  rw [← hex] at N y1 y2 qm
  clear Z hex e11 e21
  have q1 := qm _ (.inl (List.Mem.head _))
  have q2 := qm _ (.inl (List.Mem.tail _ (List.Mem.head _)))
  have q3 := qm _ (.inl (List.Mem.tail _ (List.Mem.tail _ (List.Mem.head _))))
  have q4 := qm _ (.inl (List.Mem.tail _ (List.Mem.tail _ (List.Mem.tail _ (List.Mem.head _)))))
  have q5 := qm _ (.inl (List.Mem.tail _ (List.Mem.tail _ (List.Mem.tail _ (List.Mem.tail _ (List.Mem.head _))))))
  have br : RefsIn (BF B s.heap) vs1 := fun v hv b q => bf_old F1.keep b (br1 v hv b q)
  repeat' walk1
  all_goals (try k_data)
  rename Fr _ _ _ _ => F
  rename News _ _ _ _ => N
  have e1 := e12 _ F.keep (mem_news N fun p hp => by have := qm p (.inr (.inl hp)); k_mem)
  have e2 := e22 _ F.keep (mem_news N fun p hp => by have := qm p (.inr (.inr hp)); k_mem)
  have VA : VecOf _ (.ref a1) (ku.join kv) xs := ⟨a1, d1, _, n1, l1, vs1, rfl, vec_news N (by k_mem) (by k_mem) w1, e1.1, e1.2⟩
  have VB : VecOf _ (.ref a2) (ku.join kv) ys := ⟨a2, d2, _, n2, l2, vs2, rfl, vec_news N (by k_mem) (by k_mem) w2, e2.1, e2.2⟩
  have CC := C.ext F.keep
  refine go (use (match_places CC (RM'.le (by decide)) VA VB (.inl rfl) hx hy) fun v h' tk x p => ?_)
  dsimp only at x p
  obtain ⟨pl, pc, us, rfl, fr, hP⟩ := p
  clear VA VB CC e1 e2
  have ne1 := ne_fresh N fr _ (List.Mem.head _)
  have ne2 := ne_fresh N fr _ (List.Mem.tail _ (List.Mem.head _))
  have ne1' := neN ne1
  have ne2' := neN ne2
  replace N := newsAdd F N x (fr)
  replace F := fr_by F x
  try dsimp only [List.cons_append, List.nil_append] at N
  repeat' walk1
  all_goals (try k_data)
  rename Fr _ _ _ _ => F
  rename News _ _ _ _ => N
  have e1 := e12 _ F.keep (mem_news N fun p hp => by have := qm p (.inr (.inl hp)); k_mem)
  refine' go (ListCompG [] (fun _ i _ zs => Sel (pix (inP xs ys) i) vs1 (pix (inP xs ys) i).length zs) (fun _ _ _ _ _ R _ => R) (fun _ i _ _ R => R.1 ▸ pix_length _ i) ?hh ?hclos ?hcell ?hkind ?hnames ?hx ?h ?hs)
  case hh => rfl
  case hclos => with_unfolding_all rfl
  case hcell => decide
  case hkind => with_unfolding_all rfl
  case hnames => decide
  case hx => with_unfolding_all rfl
  case hs => intro _; with_unfolding_all rfl
  case h =>
    repeat' walk1
    all_goals (try k_data)
    rename Fr _ _ _ _ => F
    rename News _ _ _ _ => N
    have hpl := News.isList N (List.Mem.head _)
    refine go (call_len_list hpl (by simp; have := hP.1; omega) ?_)
    repeat' walk1
    all_goals (try k_data)
    rw [show (us.toArray.size : Int) = ((xs.length : Nat) : Int) by simp [hP.1]]
    refine go (rangeX fun rg h' tk' u' v' x fr => ?_)
    dsimp only at x fr
    replace N := newsAdd F N x (fr)
    replace F := fr_by F x
    try dsimp only [List.cons_append, List.nil_append] at N
    have hpl2 := News.isList N (List.Mem.tail _ (List.Mem.head _))
    have e1 := e12 _ F.keep (mem_news N fun p hp => by have := qm p (.inr (.inl hp)); simp only [List.mem_cons] at this ⊢; simp only [this, or_true])
    refine ⟨rg, xs.length, _, _, _, rfl, (N _ (List.Mem.head _)).1, hx, by simp, fun X _ => by exact ⟨rfl, fun j z h => by cases h⟩, ?_, fun X' D h' tk zs hDX hD hp hR hk => ?_⟩
    · intro X' C' i t s₃ m₃ zs E' hi hC hX hCX hXg hR hn hm hk
      dsimp only at hC hXg hk
      replace hk : Ext _ _ := fun b o e => hk b o (by simp) e
      have C3 := C.ext F.keep
      have ⟨X3, T3⟩ := C3
      have c1 := (N _ (List.Mem.tail _ (List.Mem.tail _ (List.Mem.head _)))).1
      have c2 := (N _ (List.Mem.tail _ (List.Mem.tail _ (List.Mem.tail _ (List.Mem.head _))))).1
      have W1 := (N _ (List.Mem.tail _ (List.Mem.tail _ (List.Mem.tail _ (List.Mem.tail _ q1))))).1
      have W2 := (N _ (List.Mem.tail _ (List.Mem.tail _ (List.Mem.tail _ (List.Mem.tail _ q2))))).1
      have F3 := elt_fr hn hm hC hk
      have N3 := news_nil F3
      dsimp only at c1 c2 W1 W2
      obtain ⟨y, hy'⟩ : ∃ y, xs[i]? = some y := ⟨_, List.getElem?_eq_getElem hi⟩
      obtain ⟨pv, hpv⟩ : ∃ pv, us[i]? = some pv := ⟨_, List.getElem?_eq_getElem (by rw [hP.1]; exact hi)⟩
      obtain ⟨yv, hyv⟩ : ∃ yv, vs1[i]? = some yv := ⟨_, List.getElem?_eq_getElem (by rw [e1.2.1]; exact hi)⟩
      obtain ⟨y2, hy2, hp1, hp2⟩ := hP.2 i pv hpv
      rw [hy'] at hy2
      cases hy2
      clear N X T
      refine Tests.one ?_
      repeat' walk1
      all_goals (try k_data)
      rename Fr _ _ _ _ => F3
      refine itemX (hpl2.at fun _ q => F3.keep _ _ q) (by omega) hpv ?_ (by with_unfolding_all rfl)
      by_cases hyi : y ∈ ys
      · obtain ⟨n', t', rfl⟩ := hp1 hyi
        repeat' walk1
        all_goals (try k_data)
        refine go ?_
        rw [if_pos rfl]
        repeat' walk1
        all_goals (try k_data)
        rename Fr _ _ _ _ => F3
        refine itemX (e1.1.at fun _ q => F3.keep _ _ q) (by omega) hyv ?_ (by with_unfolding_all rfl)
        repeat' walk1
        all_goals (try k_data)
        refine ⟨_, _, rfl, off_nil.mpr (Ext.refl _), ?_⟩
        show Sel (pix (inP xs ys) (i + 1)) vs1 (pix (inP xs ys) (i + 1)).length _
        rw [pix_succ, if_pos (by simp [inP, hy', hyi])]
        exact hR.more hyv
      · obtain rfl := hp2 hyi
        repeat' walk1
        all_goals (try k_data)
        refine go ?_
        rw [if_neg Bool.false_ne_true]
        refine ⟨_, _, rfl, off_nil.mpr (Ext.refl _), ?_⟩
        show Sel (pix (inP xs ys) (i + 1)) vs1 (pix (inP xs ys) (i + 1)).length _
        rw [pix_succ, if_neg (by simp [inP, hy', hyi]), List.append_nil]
        exact hR
    · dsimp only at hD hk
      obtain ⟨c, hp⟩ := hp
      replace hk : Ext _ _ := fun b o e => hk b o (by simp) e
      have AT := sel_atoms (e1.2.ext hk) (fun k hk => pix_lt hk) hR
      rw [in_atoms] at AT
      have RI : RefsIn (BF B s.heap) zs.toList := fun v hv b q => by
        obtain ⟨j, hj⟩ := List.getElem?_of_mem hv
        obtain ⟨k, _, hk2⟩ := hR.2 j v hj
        exact br v (List.mem_of_getElem? hk2) b q
      have hl' : h'.IsList D zs.toList.toArray := isList_of (k := c) (by simpa using hp)
      have hDn := none_back F.keep hD
      replace N := newsBy N hk
      replace F := fr_by F hk
      repeat' walk1
      all_goals (try k_data)
      rename Fr _ _ _ _ => F
      rename News _ _ _ _ => N
      refine go (use (mkVecV (C.ext F.keep) (RM'.le (by decide)) hl' AT (B := BF B s.heap) (.inr hDn) RI) fun v h' tk x p => ?_)
      dsimp only at x p
      replace p := p.toB' F.keep
      replace F := fr_by F x
      replace N := newsBy N x
      repeat' walk1
      all_goals (try k_data)
      rename Fr _ _ _ _ => F
      rename News _ _ _ _ => N
      have CC := C.ext F.keep
      refine go (use (distinct CC (RM'.le (by decide)) p (by have := List.length_filter_le (fun x => decide (x ∈ ys)) xs; omega)) fun v h' tk x p => ?_)
      dsimp only at x p
      replace p := p.back F.keep
      replace F := fr_by F x
      replace N := newsBy N x
      repeat' walk1
      all_goals (try k_data)
      exact h _ _ _ F.keep p
end
section
local macro_rules | `(tactic| walk_at "call type:range") => `(tactic| refine halt ?_)
local macro_rules | `(tactic| k_all) => `(tactic| assumption)
local macro_rules | `(tactic| k_mem) => `(tactic| assumption)
theorem ne_freshL {g h h' : Heap} {L : Addr} {es news : List (Addr × Obj)} (N : News g L h news) (fr : Fresh h h' es) : ∀ p ∈ news, ∀ q ∈ es, p.1 ≠ q.1 := fun p hp q hq e => by
  have z := (fr _ hq).2
  rw [← e, (N p hp).1] at z
  cases z
theorem setdiff_of {w : World} {mg mb} {A : Around} {s : Shared} {u v : Value} {ku kv : Kind} {xs ys : List Atom} {B : Addr → Prop} (C : Cx w mg mb s.heap) (RM : Room A 10) (U : VecB B s.heap u ku xs) (V : VecOf s.heap v kv ys) (hc : Compat ku kv) (hx : xs.length < 1000) (hy : ys.length < 1000) :
    Gives w A s 603 [u, v] fun r h' => VecF B s.heap h' r ku (ded (xs.filter (fun x => decide (x ∉ ys)))) := by
  intro Q E h
  have ⟨X, T⟩ := C
  obtain ⟨ua, ud, ues, un, ul, uvs, rfl, hu, hul, hux, ba, bd, bl, br⟩ := U
  obtain ⟨hd', dp', fr', gd', un'⟩ := A
  obtain rfl : hd' = none := RM.hnd
  walk_at "MINE enterC"
  rename Room _ _ => RM'
  repeat' walk1
  all_goals (try k_data)
  rename Fr _ _ _ _ => F
  rename News _ _ _ _ => N
  refine go (use (plain (C.ext F.keep) (RM'.le (by decide)) (hu.ext F.keep)) fun v h' tk x p => ?_)
  dsimp only at x p
  obtain ⟨la, ld, les, ln, rfl, hL, lfr, llt⟩ := p
  have ne1 := neN (ne_freshL N lfr _ (List.Mem.head _) _ (List.Mem.head _))
  have ne2 := neN (ne_freshL N lfr _ (List.Mem.tail _ (List.Mem.head _)) _ (List.Mem.head _))
  have ne3 := neN (ne_freshL N lfr _ (List.Mem.head _) _ (List.Mem.tail _ (List.Mem.head _)))
  have ne4 := neN (ne_freshL N lfr _ (List.Mem.tail _ (List.Mem.head _)) _ (List.Mem.tail _ (List.Mem.head _)))
  replace N := newsAdd F N x (lfr)
  replace F := fr_by F x
  try dsimp only [List.cons_append, List.nil_append] at N
  have hL' := hL
  obtain ⟨hL1, hL2, h1L, h2L, h3L, h4L, h5L, t1L, t2L, t3L, t4L, t5L, tkL, rfl⟩ := hL'
  repeat' walk1
  all_goals (try k_data)
  rename Fr _ _ _ _ => F
  rename News _ _ _ _ => N
  have hul2 := hul.at fun _ q => F.keep _ _ q
  have hux2 := hux.ext F.keep
  have VA : VecOf _ (.ref la) ku xs := ⟨la, ld, _, ln, ul, uvs, rfl, vec_news N (by simp) (by simp) hL, hul2, hux2⟩
  have CC := C.ext F.keep
  have V1 := V.ext F.keep
  refine go (use (match_places CC (RM'.le (by decide)) VA V1 hc hx hy) fun v h' tk x p => ?_)
  dsimp only at x p
  obtain ⟨pl, pc, us, rfl, fr, hP⟩ := p
  clear VA V1 CC hul2 hux2
  have nf1 := neN (ne_freshL N fr _ (List.Mem.head _) _ (List.Mem.head _))
  have nf2 := neN (ne_freshL N fr _ (List.Mem.tail _ (List.Mem.head _)) _ (List.Mem.head _))
  replace N := newsAdd F N x (fr)
  replace F := fr_by F x
  try dsimp only [List.cons_append, List.nil_append] at N
  repeat' walk1
  all_goals (try k_data)
  rename Fr _ _ _ _ => F
  rename News _ _ _ _ => N
  dsimp only [List.cons_append, List.nil_append] at N
  refine' go (ListCompG [] (fun _ i _ zs => Sel (pix (outP xs ys) i) uvs (pix (outP xs ys) i).length zs) (fun _ _ _ _ _ R _ => R) (fun _ i _ _ R => R.1 ▸ pix_length _ i) ?hh ?hclos ?hcell ?hkind ?hnames ?hx ?h ?hs)
  case hh => rfl
  case hclos => with_unfolding_all rfl
  case hcell => decide
  case hkind => with_unfolding_all rfl
  case hnames => decide
  case hx => with_unfolding_all rfl
  case hs => intro _; with_unfolding_all rfl
  case h =>
    repeat' walk1
    all_goals (try k_data)
    rename Fr _ _ _ _ => F
    rename News _ _ _ _ => N
    have hpl := News.isList N (List.Mem.head _)
    refine go (call_len_list hpl (by simp; have := hP.1; omega) ?_)
    repeat' walk1
    all_goals (try k_data)
    rw [show (us.toArray.size : Int) = ((xs.length : Nat) : Int) by simp [hP.1]]
    refine go (rangeX fun rg h' tk' u' v' x fr => ?_)
    dsimp only at x fr
    replace N := newsAdd F N x (fr)
    replace F := fr_by F x
    try dsimp only [List.cons_append, List.nil_append] at N
    have hpl2 := News.isList N (List.Mem.tail _ (List.Mem.head _))
    have e1 : _ ∧ _ := ⟨hul.at fun _ q => F.keep _ _ q, hux.ext F.keep⟩
    refine ⟨rg, xs.length, _, _, _, rfl, (N _ (List.Mem.head _)).1, hx, by simp, fun X _ => by exact ⟨rfl, fun j z h => by cases h⟩, ?_, fun X' D h' tk zs hDX hD hp hR hk => ?_⟩
    · intro X' C' i t s₃ m₃ zs E' hi hC hX hCX hXg hR hn hm hk
      dsimp only at hC hXg hk
      replace hk : Ext _ _ := fun b o e => hk b o (by simp) e
      have C3 := C.ext F.keep
      have ⟨X3, T3⟩ := C3
      have c1 := (N _ (List.Mem.tail _ (List.Mem.tail _ (List.Mem.tail _ (List.Mem.tail _ (List.Mem.head _)))))).1
      have c2 := (N _ (List.Mem.tail _ (List.Mem.tail _ (List.Mem.tail _ (List.Mem.tail _ (List.Mem.tail _ (List.Mem.head _))))))).1
      have W1 := (N _ (List.Mem.tail _ (List.Mem.tail _ (List.Mem.head _)))).1
      have W2 := (N _ (List.Mem.tail _ (List.Mem.tail _ (List.Mem.tail _ (List.Mem.head _))))).1
      have F3 := elt_fr hn hm hC hk
      have N3 := news_nil F3
      dsimp only at c1 c2 W1 W2
      obtain ⟨y, hy'⟩ : ∃ y, xs[i]? = some y := ⟨_, List.getElem?_eq_getElem hi⟩
      obtain ⟨pv, hpv⟩ : ∃ pv, us[i]? = some pv := ⟨_, List.getElem?_eq_getElem (by rw [hP.1]; exact hi)⟩
      obtain ⟨yv, hyv⟩ : ∃ yv, uvs[i]? = some yv := ⟨_, List.getElem?_eq_getElem (by rw [e1.2.1]; exact hi)⟩
      obtain ⟨y2, hy2, hp1, hp2⟩ := hP.2 i pv hpv
      rw [hy'] at hy2
      cases hy2
      clear N X T
      refine Tests.one ?_
      repeat' walk1
      all_goals (try k_data)
      rename Fr _ _ _ _ => F3
      refine itemX (hpl2.at fun _ q => F3.keep _ _ q) (by omega) hpv ?_ (by with_unfolding_all rfl)
      by_cases hyi : y ∈ ys
      · obtain ⟨n', t', rfl⟩ := hp1 hyi
        repeat' walk1
        all_goals (try k_data)
        refine go ?_
        rw [if_neg Bool.false_ne_true]
        refine ⟨_, _, rfl, off_nil.mpr (Ext.refl _), ?_⟩
        show Sel (pix (outP xs ys) (i + 1)) uvs (pix (outP xs ys) (i + 1)).length _
        rw [pix_succ, if_neg (by simp [outP, hy', hyi]), List.append_nil]
        exact hR
      · obtain rfl := hp2 hyi
        repeat' walk1
        all_goals (try k_data)
        refine go ?_
        rw [if_pos rfl]
        repeat' walk1
        all_goals (try k_data)
        rename Fr _ _ _ _ => F3
        refine itemX (e1.1.at fun _ q => F3.keep _ _ q) (by omega) hyv ?_ (by with_unfolding_all rfl)
        repeat' walk1
        all_goals (try k_data)
        refine ⟨_, _, rfl, off_nil.mpr (Ext.refl _), ?_⟩
        show Sel (pix (outP xs ys) (i + 1)) uvs (pix (outP xs ys) (i + 1)).length _
        rw [pix_succ, if_pos (by simp [outP, hy', hyi])]
        exact hR.more hyv
    · dsimp only at hD hk
      obtain ⟨c, hp⟩ := hp
      replace hk : Ext _ _ := fun b o e => hk b o (by simp) e
      have AT := sel_atoms (e1.2.ext hk) (fun k hk => pix_lt hk) hR
      rw [out_atoms] at AT
      have RI : RefsIn (BF B s.heap) zs.toList := fun v hv b q => by
        obtain ⟨j, hj⟩ := List.getElem?_of_mem hv
        obtain ⟨k, _, hk2⟩ := hR.2 j v hj
        exact .inl (br v (List.mem_of_getElem? hk2) b q)
      have hl' : h'.IsList D zs.toList.toArray := isList_of (k := c) (by simpa using hp)
      have hDn := none_back F.keep hD
      replace N := newsBy N hk
      replace F := fr_by F hk
      repeat' walk1
      all_goals (try k_data)
      rename Fr _ _ _ _ => F
      rename News _ _ _ _ => N
      refine go (use (mkVecV (C.ext F.keep) (RM'.le (by decide)) hl' AT (B := BF B s.heap) (.inr hDn) RI) fun v h' tk x p => ?_)
      dsimp only at x p
      replace p := p.toB' F.keep
      replace F := fr_by F x
      replace N := newsBy N x
      repeat' walk1
      all_goals (try k_data)
      rename Fr _ _ _ _ => F
      rename News _ _ _ _ => N
      have CC := C.ext F.keep
      refine go (use (distinct CC (RM'.le (by decide)) p (by have := List.length_filter_le (fun x => decide (x ∉ ys)) xs; omega)) fun v h' tk x p => ?_)
      dsimp only at x p
      replace p := p.back F.keep
      replace F := fr_by F x
      replace N := newsBy N x
      repeat' walk1
      all_goals (try k_data)
      exact h _ _ _ F.keep p
end
section
local macro_rules | `(tactic| walk_at "compareOp NotEq ref ref") => `(tactic| refine halt ?_)
local macro_rules | `(tactic| walk_at "call builtin:list.pop") => `(tactic| refine halt ?_)
local macro_rules | `(tactic| walk_at "binaryOp FloorDiv int int") => `(tactic| ((with_reducible refine floordiv_int ?kbe ?_ (Or.inl (PyProof.noPylong_of_log2 ?kbp))); (case kbe => first | assumption | decide); (case kbp => first | assumption | decide +kernel)))
local macro_rules | `(tactic| k_all) => `(tactic| assumption)
def srcObjs (sa sl : Addr) (b c : Int) (tb tc : Tok) (zs : List Value) (n1 n2 : Nat) : List (Addr × Obj) := [(sa, listOf #[.ref sl, .int b tb, .int c tc] n1), (sl, listOf zs.toArray n2)]
/-- what a script's source is: a list of numbers left, and two numbers -/
def Src (h : Heap) (sa sl : Addr) : Prop := sa ≠ sl ∧ ∃ (b c : Int) (tb tc : Tok) (zs : List Value) (n1 n2 : Nat), zs.length ≤ 64 ∧ (∀ v ∈ zs, ∃ n t, v = Value.int n t) ∧ h.get? sa = some (listOf #[.ref sl, .int b tb, .int c tc] n1) ∧ h.get? sl = some (listOf zs.toArray n2)
def numD : Value → PyData
  | .int n _ => .int n
  | _ => .none
theorem nums_reads {h : Heap} : ∀ {zs : List Value}, (∀ v ∈ zs, ∃ n t, v = Value.int n t) → ReadsAll h zs (zs.map numD) []
  | [], _ => .nil
  | z :: zs, hv => by
    obtain ⟨n, t, rfl⟩ := hv _ (List.Mem.head _)
    exact ReadsAll.cons (as := []) (.int n t) (nums_reads fun v q => hv v (List.Mem.tail _ q))
theorem nums_lay : ∀ {zs : List Value}, (∀ v ∈ zs, ∃ n t, v = Value.int n t) → PyData.canLayAll0 (zs.map numD) = true
  | [], _ => rfl
  | z :: zs, hv => by
    obtain ⟨n, t, rfl⟩ := hv _ (List.Mem.head _)
    exact (nums_lay (zs := zs) fun v q => hv v (List.Mem.tail _ q))
theorem law_take {w : World} {mg mb} {A : Around} {s : Shared} {g₀ : Heap} {sa sl : Addr} {most : Nat} {tm : Tok} (C : Cx w mg mb g₀) (x : Ext g₀ s.heap) (RM : Room A 2) (S : Src s.heap sa sl) (n1 : g₀.get? sa = none) (n2 : g₀.get? sl = none) (hm : 0 < most) (hm9 : most < 100)
    (Q : Value → Shared → Prop) (E : Value → Shared → Prop) (h : ∀ (r : Nat) (t : Tok) h' tk, r < most → KeepBut [sa, sl] s.heap h' → Src h' sa sl → Q (.int r t) { s with heap := h', toks := tk }) :
    wpAny (MM w) A (call (.ref 617) [.ref sa, .int most tm]) Q E s := by
  obtain ⟨hne, b, c, tb, tc, zs, m1, m2, hz, hv, ha, hl⟩ := S
  obtain ⟨hd', dp', fr', gd', un'⟩ := A
  obtain rfl : hd' = none := RM.hnd
  have y : Fresh g₀ s.heap [(sa, listOf #[.ref sl, .int b tb, .int c tc] m1), (sl, listOf zs.toArray m2)] := fun p hp => by
    rcases List.mem_cons.mp hp with rfl | hp
    · exact ⟨ha, n1⟩
    · rw [List.mem_singleton.mp hp]; exact ⟨hl, n2⟩
  have ⟨X, T⟩ := C
  refine wpAny_call ?_
  refine' enterN [(Str.ofString "source", .ref sa), (Str.ofString "most", .int most tm)] ?C ?x ?y ?RM ?ho ?hcd ?hb ?hl ?_ ?c1 ?c2 ?c3 ?c4
  (case C => assumption)
  (case x => assumption)
  (case y => assumption)
  (case RM => assumption)
  (case ho => k_is)
  (case hcd => k_is)
  (case hb => exact BindsTo.of_eq rfl)
  (case hl => exact locs rfl)
  (case c1 => rfl)
  (case c2 => rfl)
  (case c3 => rfl)
  (case c4 => decide)
  intro g L' h₁ C' sub hid F N l1 RM'
  dsimp only [zipB, List.map_cons, List.map_nil, List.zip_cons_cons, List.zip_nil_left, List.zip_nil_right, List.length_cons, List.length_nil] at F N ⊢
  k_lt l1
  have ⟨X', T'⟩ := C'
  have hne1 := neN hne
  have hne2 := neN hne.symm
  have hmz : (most : Int) ≠ 0 := by omega
  have hml : (most : Int).natAbs.log2 < 9000 := by
    rw [Int.natAbs_natCast]
    have := Nat.log2_le_self most
    omega
  have hmp : (0 : Int) < (most : Int) := by omega
  have fin : ∀ (v : Int) (t : Tok) (h' : Heap) (tk : Nat) (b' c' : Int) (tb' tc' : Tok) (zs' : List Value) (n1' n2' : Nat), zs'.length ≤ 64 → (∀ v ∈ zs', ∃ n t, v = Value.int n t) → h'.get? sa = some (listOf #[.ref sl, .int b' tb', .int c' tc'] n1') → h'.get? sl = some (listOf zs'.toArray n2') → Ext g h' → Q (.int (v.fmod most) t) { s with heap := h', toks := tk } := by
    intro v t h' tk b' c' tb' tc' zs' n1' n2' q1 q2 q3 q4 k
    have e1 := Int.fmod_nonneg_of_pos v hmp
    have e2 := Int.fmod_lt_of_pos v hmp
    obtain ⟨r, hr⟩ := Int.eq_ofNat_of_zero_le e1
    rw [hr] at e2 ⊢
    exact h r t h' tk (by omega) (fun b o hb e => k b o (sub b o e hb)) ⟨hne, b', c', tb', tc', zs', n1', n2', q1, q2, q3, q4⟩
  have rz := fun h => nums_reads (h := h) hv
  have lz := nums_lay hv
  repeat' walk1
  all_goals (try k_data)
  · rename Fr _ _ _ _ => F
    rename News _ _ _ _ => N
    refine go ?_
    have ru := RM'.unit
    have gl := (N _ (List.Mem.tail _ (List.Mem.tail _ (List.Mem.head _)))).1
    have gn := (N _ (List.Mem.head _)).1
    refine PySem.SeqAt.compareNe_reads (.list (xs := zs.map numD) gl rfl rfl (rz _)) (.list (xs := []) gn rfl rfl .nil) lz rfl ?_ ?_
    · show _ + min _ 1 < _
      omega
    cases zs with
    | nil =>
      dsimp only [List.map_nil]
      repeat' walk1
      all_goals (try k_data)
      all_goals first
        | (exfalso; rename PyData.eqv _ _ = false => ff; cases ff; done)
        | (rename Fr _ _ _ _ => F; rename News _ _ _ _ => N; exact fin _ _ _ _ _ _ _ _ _ _ _ (Nat.zero_le _) hv (N _ (List.Mem.tail _ (List.Mem.head _))).1 (N _ (List.Mem.tail _ (List.Mem.tail _ (List.Mem.head _)))).1 F.keep)
    | cons z zr =>
      obtain ⟨zi, zt, rfl⟩ := hv _ (List.Mem.head _)
      dsimp only [List.map_cons]
      repeat' walk1
      all_goals (try k_data)
      · exfalso
        rename PyData.eqv _ _ = true => ff
        cases ff
      · rename Fr _ _ _ _ => F
        rename News _ _ _ _ => N
        refine go ?_
        refine kl_popAt (its := (Value.int zi zt :: zr).toArray) (y := Value.int zi zt) (p := []) (q := zr) (k := 0) F N rfl (by simp [seqIndex?]) (by rfl) (by k_upd) (by have := hz; rw [sizeLine_eq]; simp only [List.length_cons] at this ⊢; omega) fun h' F N => ?_
        dsimp only [List.nil_append, List.cons_append] at N
        repeat' walk1
        all_goals (try k_data)
        all_goals (rename Fr _ _ _ _ => F; rename News _ _ _ _ => N; exact fin _ _ _ _ _ _ _ _ _ _ _ (by simp only [List.length_cons] at hz; omega) (fun v q => hv v (List.Mem.tail _ q)) (N _ (List.Mem.tail _ (List.Mem.head _))).1 (N _ (List.Mem.tail _ (List.Mem.tail _ (List.Mem.head _)))).1 F.keep)
  · rename Fr _ _ _ _ => F
    rename News _ _ _ _ => N
    refine go ?_
    exact fin _ _ _ _ _ _ _ _ _ _ _ hz hv (N _ (List.Mem.head _)).1 (N _ (List.Mem.tail _ (List.Mem.head _))).1 F.keep
/-- the call ends, changes nothing but the source, and gives a value of which P holds -/
def Turns (w : World) (A : Around) (s : Shared) (sa sl f : Addr) (args : List Value) (P : Value → Heap → Prop) : Prop :=
  ∀ (Q : Value → Shared → Prop) (E : Value → Shared → Prop), (∀ v h' tk, KeepBut [sa, sl] s.heap h' → Src h' sa sl → P v h' → Q v { s with heap := h', toks := tk }) → wpAny (MM w) A (call (.ref f) args) Q E s
theorem useT {w : World} {A : Around} {s : Shared} {sa sl f : Addr} {args : List Value} {P : Value → Heap → Prop} {Q : Value → Shared → Prop} {E : Value → Shared → Prop} (G : Turns w A s sa sl f args P)
    (h : ∀ v h' tk, KeepBut [sa, sl] s.heap h' → Src h' sa sl → P v h' → Q v { s with heap := h', toks := tk }) : wpAny (MM w) A (call (.ref f) args) Q E s := G Q E h
theorem take {w : World} {mg mb} {A : Around} {s : Shared} {g₀ : Heap} {sa sl : Addr} {m : Int} {tm : Tok} (most : Nat) (C : Cx w mg mb g₀) (x : Ext g₀ s.heap) (RM : Room A 2) (S : Src s.heap sa sl) (n1 : g₀.get? sa = none) (n2 : g₀.get? sl = none) (e : m = most) (hm : 0 < most) (hm9 : most < 100) :
    Turns w A s sa sl 617 [.ref sa, .int m tm] fun v _ => ∃ (r : Nat) (t : Tok), v = .int r t ∧ r < most := by
  subst e
  intro Q E h
  exact law_take C x RM S n1 n2 hm hm9 Q E fun r t h' tk hr k S' => h _ _ _ k S' ⟨r, t, rfl, hr⟩
end
section
/-- a vector whose list of items is a plain list -/
inductive NoDB (B : Addr → Prop) (h : Heap) (v : Value) : Prop
  | mk (a d : Addr) (es : List DictEntry) (n : Nat) (k : Str) (l : Addr) (c : Nat) (vs : List Value) (r : v = .ref a) (x : VecAt h a d es n k l) (y : h.get? l = some (listOf vs.toArray c)) (ba : B a) (bd : B d) (bl : B l) : NoDB B h v
theorem NoDB.mono {B B' : Addr → Prop} {h : Heap} {v : Value} (V : NoDB B h v) (e : ∀ b, B b → B' b) : NoDB B' h v := by
  obtain ⟨a, d, es, n, k, l, c, vs, r, x, y, ba, bd, bl⟩ := V
  exact ⟨a, d, es, n, k, l, c, vs, r, x, y, e _ ba, e _ bd, e _ bl⟩
theorem NoDB.ext {B : Addr → Prop} {h h' : Heap} {v : Value} (V : NoDB B h v) (x : Ext h h') : NoDB B h' v := by
  obtain ⟨a, d, es, n, k, l, c, vs, r, v, y, ba, bd, bl⟩ := V
  exact ⟨a, d, es, n, k, l, c, vs, r, v.ext x, x _ _ y, ba, bd, bl⟩
theorem NoDB.plain {B : Addr → Prop} {h : Heap} {a d l : Addr} {es : List DictEntry} {n : Nat} {k : Str} (N : NoDB B h (.ref a)) (V : VecAt h a d es n k l) : h.NoDictAt (.ref l) := by
  obtain ⟨a', d', es', n', k', l', c, vs, r, x, y, _⟩ := N
  cases r
  have e1 := x.inst
  rw [V.inst] at e1
  have e2 : d = d' := by
    have := congrArg (Option.map (·.data)) e1
    injection e1 with e1
    have e1 : instObj 237 d = instObj 237 d' := e1
    injection e1 with _ q
    first | exact Option.some.inj q | simpa using q | cases q; rfl
  subst e2
  have e3 := x.dict
  rw [V.dict] at e3
  have e4 : es = es' := by
    injection e3 with e3
    injection e3 with _ _ q
    injection q with q
    simpa using q
  obtain ⟨_, _, _, _, _, _, _, _, _, _, _, e5⟩ := V.ents
  obtain ⟨_, _, _, _, _, _, _, _, _, _, _, e6⟩ := x.ents
  rw [e4, e6] at e5
  have e7 : l = l' := by
    simp only [List.cons.injEq, DictEntry.mk.injEq, Value.ref.injEq] at e5
    exact e5.2.1.2.2.symm
  subst e7
  exact ⟨_, y, rfl⟩
def VecN (B : Addr → Prop) (h : Heap) (v : Value) (kd : Kind) (xs : List Atom) : Prop := VecB B h v kd xs ∧ NoDB B h v
theorem VecN.mono {B B' : Addr → Prop} {h : Heap} {v kd xs} (V : VecN B h v kd xs) (e : ∀ b, B b → B' b) : VecN B' h v kd xs := ⟨V.1.mono e, V.2.mono e⟩
theorem mkVecN {w : World} {mg mb} {A : Around} {s : Shared} {B : Addr → Prop} {kd : Kind} {tk : Tok} {l : Addr} {vs : List Value} {xs : List Atom} {c : Nat} (C : Cx w mg mb s.heap) (RM : Room A 3) (hp : s.heap.get? l = some (listOf vs.toArray c)) (hx : Atoms s.heap kd vs xs) (bl : B l) (br : RefsIn B vs) :
    Gives w A s 237 [.str kd.str tk, .ref l] fun v h' => VecN (BF B s.heap) h' v kd xs := by
  intro Q E h
  refine mkVec C RM Q E fun v h' tk' x p => ?_
  obtain ⟨a, d, es, n, rfl, V, fr, _⟩ := p
  exact h _ _ _ x ⟨⟨a, d, es, n, l, vs, rfl, V, (isList_of hp).at fun _ q => x _ _ q, hx.ext x, .inr (fr _ (List.Mem.head _)).2, .inr (fr _ (List.Mem.tail _ (List.Mem.head _))).2, .inl bl, fun v hv b q => .inl (br v hv b q)⟩,
    ⟨a, d, es, n, _, l, c, vs, rfl, V, x _ _ hp, .inr (fr _ (List.Mem.head _)).2, .inr (fr _ (List.Mem.tail _ (List.Mem.head _))).2, .inl bl⟩⟩
end
section
local macro_rules | `(tactic| walk_at "newList") => `(tactic| refine halt ?_)
local macro_rules | `(tactic| walk_at "call type:range") => `(tactic| refine halt ?_)
section
variable {w : World} {mg mb : Str → Option Value} {A : Around} {d : Nat} {s : Shared} {R : Result → Shared → Prop} {name qual : Str} {params : Arguments} {body : List Stmt} {scope : Scope} {dV kV doc pm cdv ct oc : Value} {an od : Option Addr} {osl : Array (Option Value)} {f : Addr} {args : Args} {g₀ : Heap}
/-- a call with cells that may change the objects at `adr` -/
theorem enterNC {vs : List Value} {adr : List Addr} (C : Cx w mg mb g₀) (xg : Ext g₀ s.heap) (hn : ∀ a ∈ adr, g₀.get? a = none) (hal : ∀ a ∈ adr, ∃ o, s.heap.get? a = some o) (RM : Room A (d + 1))
    (ho : (KW w.params).lookup f = some ⟨oc, od, .func (fnOf name qual params body scope dV kV doc pm an cdv ct), osl⟩) (hcd : codeIn (KW w.params) cdv qual = true)
    (hbind : BindsTo s (fnOf name qual params body scope dV kV doc pm an cdv ct) ⟨vs, []⟩ (zipB params vs))
    (hkind : ((zipB params vs).all fun y => scope.names.lookup y.1 == some .local || scope.names.lookup y.1 == some .cell) = true)
    (hnd : ((cellsFrom 0 scope.names []).map (·.1)).Nodup)
    (h : ∀ g L' h₁ tk cells, Cx w mg mb g → g = hideAll s.heap adr → (∀ a ∈ adr, a < L') → Ext s.heap h₁ → s.heap.objs.size ≤ L' → Fr g L' h₁ (bindL (envOfC qual scope L' f cdv).kindOf (zipB params vs) fun _ => none) → News g L' h₁ cells →
      CellsAre (bindC (envOfC qual scope L' f cdv).kindOf (zipB params vs) fun _ => none) (cellsFrom (L' + 1) scope.names []) cells → Room (A.deeper (envOfC qual scope L' f cdv)) d →
      wpAny (MM w) (A.deeper (envOfC qual scope L' f cdv)) (execs body (envOfC qual scope L' f cdv))
        (fun fl s' => R (.ok (.ret (match fl with | .ret v => v | _ => .none))) s') (fun _ _ => False) { s with heap := h₁, toks := tk })
    (hco : scope.isCoroutine = false) (hgen : scope.isGenerator = false) (hk : scope.kind = .function) : codeAny (MM w) A (.call (.ref f) ⟨vs, []⟩) R s := by
  have C' := C.ext xg
  have xg' : Ext g₀ (hideAll s.heap adr) := fun b o e => hideAll_get _ (xg b o e) fun q => by rw [hn b q] at e; cases e
  refine codeAny_call_function (Nat.lt_of_le_of_lt (by omega) RM.dep) (C'.X _ _ ho) rfl hco hgen rfl (codeRec_of C'.X hcd) (hbind _ _ _ _ ?_)
  refine wpAny_newFunctionEnv_cells hk (kindsX hkind _) fun env' he s' x => ?_
  subst he
  refine ⟨C'.T.nolimit.keeps x.toInCall.keep, codeAny_func ?_⟩
  obtain ⟨h₁, tk, rfl, _⟩ := x.done
  have hk₁ := x.toInCall.keep
  obtain ⟨cells, NC, Y⟩ := Cl.news (h₀ := s.heap) (Nat.le_refl _) fun n c hm => ⟨x.cell n c (lookup_of_mem_nodup (cellsFrom_names scope.names 0 (s.heap.objs.size + 1) [] [] rfl ▸ hnd) hm), x.above n c hm⟩
  refine wpAny_mono (h (hideAll s.heap adr) s.heap.objs.size h₁ tk cells (C.ext xg') rfl (fun a ha => by obtain ⟨o, e⟩ := hal a ha; exact Heap.lt_size e) hk₁ (Nat.le_refl _) ⟨x.toInCall.ns, fun b o e => hk₁ b o (of_hideAll _ e), Nat.le_of_eq (hideAll_size _ _)⟩ (fun p hp => ?_) Y RM.deeper) (fun _ _ hl => hl) fun _ _ y => y.elim
  obtain ⟨z1, z2, z3⟩ := NC p hp
  refine ⟨z1, z2, ?_⟩
  cases e : (hideAll s.heap adr).get? p.1 with
  | none => rfl
  | some o => rw [of_hideAll _ e] at z3; cases z3
end
theorem Src.keep {h h' : Heap} {sa sl : Addr} (S : Src h sa sl) (x : Ext h h') : Src h' sa sl := by
  obtain ⟨a, b, c, tb, tc, zs, n1, n2, q1, q2, q3, q4⟩ := S
  exact ⟨a, b, c, tb, tc, zs, n1, n2, q1, q2, x _ _ q3, x _ _ q4⟩
theorem Src.a {h : Heap} {sa sl : Addr} (S : Src h sa sl) : ∃ o, h.get? sa = some o := by
  obtain ⟨a, b, c, tb, tc, zs, n1, n2, q1, q2, q3, q4⟩ := S
  exact ⟨_, q3⟩
theorem Src.l {h : Heap} {sa sl : Addr} (S : Src h sa sl) : ∃ o, h.get? sl = some o := by
  obtain ⟨a, b, c, tb, tc, zs, n1, n2, q1, q2, q3, q4⟩ := S
  exact ⟨_, q4⟩
theorem Src.off {h h' : Heap} {sa sl : Addr} {X : List Addr} (S : Src h sa sl) (h1 : sa ∉ X) (h2 : sl ∉ X) (o : Off X h h') : Src h' sa sl := by
  obtain ⟨a, b, c, tb, tc, zs, n1, n2, q1, q2, q3, q4⟩ := S
  exact ⟨a, b, c, tb, tc, zs, n1, n2, q1, q2, o _ _ h1 q3, o _ _ h2 q4⟩
theorem not1 {a : Addr} {o : Obj} {mx : List Addr} (h : a ∉ mx) : ∀ p ∈ [(a, o)], p.1 ∉ mx := fun p hp => by rw [List.mem_singleton.mp hp]; exact h
theorem assign_news {g h h' h₀ : Heap} {L D : Addr} {o : Obj} {m : Str → Option Value} {news rest : List (Addr × Obj)} {mx : List Addr} (F : Fr g L h m) (N : News g L h news) (hs : ∀ p ∈ rest, p ∈ news ∧ p.1 ∉ mx) (hD : h.get? D = none) (hDo : h₀.get? D = some o)
    (hk : ∀ b o, b ≠ L → h₀.get? b = some o → h'.get? b = some o) (hk' : ∀ b o, b ≠ L → b ∉ mx → h.get? b = some o → h'.get? b = some o) : News g L h' ((D, o) :: rest) := fun p hp => by
  obtain ⟨oL, _, _, hoL, _⟩ := F.ns
  have hDL : D ≠ L := fun q => by rw [q, hoL] at hD; cases hD
  rcases List.mem_cons.mp hp with rfl | hp
  · exact ⟨hk _ _ hDL hDo, hDL, by
      cases q : g.get? D with
      | none => rfl
      | some o => rw [F.keep _ _ q] at hD; cases hD⟩
  · exact ⟨hk' _ _ (N p (hs p hp).1).2.1 (hs p hp).2 (N p (hs p hp).1).1, (N p (hs p hp).1).2⟩
theorem two_ne {a b c : Addr} (h1 : c ≠ a) (h2 : c ≠ b) : c ∉ [a, b] := by simp [h1, h2]
theorem kb_ext {g h h' : Heap} {mx : List Addr} (k : KeepBut mx h h') (hn : ∀ a ∈ mx, g.get? a = none) (x : Ext g h) : Ext g h' := fun b o e => k b o (fun q => by rw [hn b q] at e; cases e) (x b o e)
theorem kb_fr {g h h' : Heap} {L : Addr} {m : Str → Option Value} {mx : List Addr} (k : KeepBut mx h h') (hn : ∀ a ∈ mx, g.get? a = none) (hL : L ∉ mx) (F : Fr g L h m) : Fr g L h' m :=
  ⟨F.ns.at' fun o e => k _ _ hL e, kb_ext k hn F.keep, F.above⟩
theorem kb_news {g h h' : Heap} {L : Addr} {news : List (Addr × Obj)} {mx : List Addr} (k : KeepBut mx h h') (hn : ∀ p ∈ news, p.1 ∉ mx) (N : News g L h news) : News g L h' news := fun p hp => ⟨k _ _ (hn p hp) (N p hp).1, (N p hp).2⟩
theorem KeepBut.refl {mx : List Addr} {h : Heap} : KeepBut mx h h := fun _ _ _ e => e
theorem KeepBut.trans {mx : List Addr} {a b c : Heap} (x : KeepBut mx a b) (y : KeepBut mx b c) : KeepBut mx a c := fun p o hp e => y p o hp (x p o hp e)
theorem KeepBut.ext {mx : List Addr} {a b c : Heap} (x : KeepBut mx a b) (y : Ext b c) : KeepBut mx a c := fun p o hp e => y p o (x p o hp e)
/-- atoms that need no heap -/
def Flats (kd : Kind) (zs : List Value) (xs : List Atom) : Prop := zs.length = xs.length ∧ ∀ (j : Nat) (v : Value) (x : Atom), zs[j]? = some v → xs[j]? = some x → (∀ h, AtomV h kd v x) ∧ ∀ a, v ≠ .ref a
theorem Flats.nil {kd : Kind} : Flats kd [] [] := ⟨rfl, fun j v x e => by simp at e⟩
theorem Flats.snoc {kd : Kind} {zs : List Value} {xs : List Atom} {v : Value} {x : Atom} (F : Flats kd zs xs) (h1 : ∀ h, AtomV h kd v x) (h2 : ∀ a, v ≠ .ref a) : Flats kd (zs ++ [v]) (xs ++ [x]) := by
  refine ⟨by simp [F.1], fun j v' x' hv hx => ?_⟩
  by_cases q : j < zs.length
  · rw [List.getElem?_append_left q] at hv
    rw [List.getElem?_append_left (by rw [← F.1]; exact q)] at hx
    exact F.2 j v' x' hv hx
  · rw [List.getElem?_append_right (by omega)] at hv
    rw [List.getElem?_append_right (by have := F.1; omega)] at hx
    by_cases e : j - zs.length = 0
    · rw [e] at hv
      rw [← F.1, e] at hx
      cases hv; cases hx
      exact ⟨h1, h2⟩
    · rw [List.getElem?_eq_none (by simp; omega)] at hv; cases hv
theorem Flats.atoms {kd : Kind} {zs : List Value} {xs : List Atom} (F : Flats kd zs xs) (h : Heap) : Atoms h kd zs xs := ⟨F.1, fun j v x a b => (F.2 j v x a b).1 h⟩
theorem Flats.refs {kd : Kind} {zs : List Value} {xs : List Atom} {B : Addr → Prop} (F : Flats kd zs xs) : RefsIn B zs := fun v hv b e => by
  obtain ⟨j, hj⟩ := List.getElem?_of_mem hv
  obtain ⟨x, hx⟩ : ∃ x, xs[j]? = some x := ⟨_, List.getElem?_eq_getElem (by rw [← F.1]; exact (List.getElem?_eq_some_iff.mp hj).1)⟩
  exact absurd e ((F.2 j v x hj hx).2 b)
theorem flats_len {kd : Kind} {zs : List Value} {i : Nat} (h : ∃ xs : List Atom, xs.length = i ∧ Flats kd zs xs) : zs.length = i := by
  obtain ⟨xs, e, R⟩ := h
  exact R.1.trans e
theorem kb_none {sa sl b : Addr} {h h' : Heap} (K : KeepBut [sa, sl] h h') (S : Src h' sa sl) (e : h'.get? b = none) : h.get? b = none := by
  cases q : h.get? b with
  | none => rfl
  | some o =>
    exfalso
    by_cases h1 : b = sa
    · obtain ⟨o', e'⟩ := S.a; rw [h1, e'] at e; cases e
    by_cases h2 : b = sl
    · obtain ⟨o', e'⟩ := S.l; rw [h2, e'] at e; cases e
    rw [K b o (two_ne h1 h2) q] at e; cases e
theorem law_row {w : World} {mg mb} {A : Around} {s : Shared} {g₀ : Heap} {sa sl : Addr} {kd : Kind} {tm : Tok} (C : Cx w mg mb g₀) (x : Ext g₀ s.heap) (RM : Room A 5) (S : Src s.heap sa sl) (n1 : g₀.get? sa = none) (n2 : g₀.get? sl = none) (hd : kd ≠ .dbl)
    (Q : Value → Shared → Prop) (E : Value → Shared → Prop) (h : ∀ (r : Value) (xs : List Atom) h' tk, xs.length ≤ 6 → KeepBut [sa, sl] s.heap h' → Src h' sa sl → VecN (fun b => s.heap.get? b = none) h' r kd xs → Q r { s with heap := h', toks := tk }) :
    wpAny (MM w) A (call (.ref 622) [.ref sa, .str kd.str tm]) Q E s := by
  obtain ⟨hd', dp', fr', gd', un'⟩ := A
  obtain rfl : hd' = none := RM.hnd
  have hsl : sa ≠ sl := S.1
  refine wpAny_call ?_
  refine' enterNC (adr := [sa, sl]) C x ?hn ?hal RM ?ho ?hcd ?hb ?hl ?hnd ?_ ?c1 ?c2 ?c3
  case hn => intro a ha; simp only [List.mem_cons, List.not_mem_nil, or_false] at ha; rcases ha with rfl | rfl <;> assumption
  case hal => intro a ha; simp only [List.mem_cons, List.not_mem_nil, or_false] at ha; rcases ha with rfl | rfl; exact S.a; exact S.l
  (case ho => k_is)
  (case hcd => k_is)
  (case hb => exact BindsTo.of_eq rfl)
  (case hl => exact rfl)
  (case hnd => decide +kernel)
  (case c1 => rfl)
  (case c2 => rfl)
  (case c3 => rfl)
  intro g L' h₁ tk' cells' C' hg l1 xs hL F N Y' RM'
  k_cells Y'
  dsimp only [zipB, List.map_cons, List.map_nil, List.zip_cons_cons, List.zip_nil_left, List.zip_nil_right, List.length_cons, List.length_nil] at F N ⊢
  have hn : ∀ a ∈ [sa, sl], g.get? a = none := fun a ha => by rw [hg]; exact hideAll_none _ ha
  have hLn : L' ∉ [sa, sl] := fun q => Nat.lt_irrefl _ (l1 _ q)
  have S1 := S.keep xs
  have K1 : KeepBut [sa, sl] s.heap h₁ := fun b o _ e => xs b o e
  have ⟨XX, TT⟩ := C'
  repeat' walk1
  all_goals (try k_data)
  rename Fr _ _ _ _ => F
  rename News _ _ _ _ => N
  refine' go (AssignListCompG [sa, sl] (fun X i h zs => sa ∉ X ∧ sl ∉ X ∧ Src h sa sl ∧ zs.length = i ∧ ∀ v ∈ zs, ∃ (r : Nat) (t : Tok), v = .int (r : Nat) t ∧ r < 5) (fun _ _ _ _ _ R o => ⟨R.1, R.2.1, R.2.2.1.off R.1 R.2.1 o, R.2.2.2⟩) (fun _ _ _ _ R => Nat.le_of_eq R.2.2.2.1) ?hsw ?hh ?hclos ?hcell ?hkind ?hnames ?hx ?hy ?hp ?h ?hs)
  case hsw => with_unfolding_all rfl
  case hh => rfl
  case hclos => with_unfolding_all rfl
  case hcell => decide
  case hkind => with_unfolding_all rfl
  case hnames => decide
  case hx => with_unfolding_all rfl
  case hy => with_unfolding_all rfl
  case hp => with_unfolding_all rfl
  case hs => intro _; with_unfolding_all rfl
  case h =>
    repeat' walk1
    all_goals (try k_data)
    rename Fr _ _ _ _ => F
    rename News _ _ _ _ => N
    have hc := (N _ (List.Mem.head _)).1
    have hcn : L' + 1 ∉ [sa, sl] := fun q => Nat.lt_irrefl _ (Nat.lt_trans (l1 _ q) (Nat.lt_succ_self _))
    refine go (useT (take 7 C' F.keep (RM'.le (by decide)) S1 (hn _ (List.Mem.head _)) (hn _ (List.Mem.tail _ (List.Mem.head _))) rfl (by decide) (by decide)) fun v h' tk kb S2 p => ?_)
    obtain ⟨r, tr, rfl, hr⟩ := p
    dsimp only at kb
    replace K1 := K1.trans kb
    replace F := kb_fr kb hn hLn F
    replace N := kb_news kb (not1 hcn) N
    repeat' walk1
    all_goals (try k_data)
    refine go (rangeX fun rg h' tk' u' v' x fr => ?_)
    dsimp only at x fr
    replace N := newsAdd F N x (fr)
    replace F := fr_by F x
    try dsimp only [List.cons_append, List.nil_append] at N
    replace S2 := S2.keep x
    replace K1 := K1.ext x
    have S2a := S2.a
    have S2l := S2.l
    have hrg := (N _ (List.Mem.head _)).1
    refine ⟨rg, r, _, _, _, _, rfl, hrg, by omega, ?_, hLn, F.ns, fun X hX => ⟨fun q => ?_, fun q => ?_, S2, rfl, fun v q => by cases q⟩, ?_, fun X' D h' tk ys h₀ hDX hD hp hR hk hn' hk' => ?_⟩
    · intro b hb
      simp only [List.mem_cons, List.not_mem_nil, or_false] at hb
      rcases hb with rfl | rfl
      · obtain ⟨o, e⟩ := S2a; exact Heap.lt_size e
      · obtain ⟨o, e⟩ := S2l; exact Heap.lt_size e
    · obtain ⟨o, e⟩ := S2a; exact Nat.lt_irrefl _ (Nat.lt_of_lt_of_le (Heap.lt_size e) (hX _ q))
    · obtain ⟨o, e⟩ := S2l; exact Nat.lt_irrefl _ (Nat.lt_of_lt_of_le (Heap.lt_size e) (hX _ q))
    · intro X' C₂ i t s₃ m₃ zs E' hi hC hX hCX hXg hR hn' hm hk
      dsimp only at hC hXg hk
      obtain ⟨hX1, hX2, S3, hl3, hi3⟩ := hR
      have hki := hk
      obtain ⟨g2, hg2⟩ : ∃ g2, g2 = hideAll h' [sa, sl] := ⟨_, rfl⟩
      have hn2 : ∀ a ∈ [sa, sl], g2.get? a = none := fun a ha => by rw [hg2]; exact hideAll_none _ ha
      have C3 : Cx w mg mb g2 := C'.ext fun b o e => by
        rw [hg2]
        exact hideAll_get _ (F.keep b o e) fun q => by rw [hn b q] at e; cases e
      have x3 : Ext g2 s₃.heap := fun b o e => by
        have e' := e
        rw [hg2] at e'
        exact hk b o (fun q => by rw [hn2 b q] at e; cases e) (of_hideAll _ e')
      have c1 := hideAll_get [sa, sl] (N _ (List.Mem.tail _ (List.Mem.head _))).1 hcn
      rw [← hg2] at c1
      have F3 := elt_fr hn' hm (by rw [hg2, hideAll_size]; exact hC) x3
      have N3 := news_nil F3
      dsimp only at c1
      clear hX hXg hC hk x3 TT XX
      have ⟨X3, T3⟩ := C3
      clear N
      refine Tests.nil ?_
      repeat' walk1
      all_goals (try k_data)
      rename Fr _ _ _ _ => F3
      refine go (useT (take 5 C3 F3.keep (RM'.le (by decide)) S3 (hn2 _ (List.Mem.head _)) (hn2 _ (List.Mem.tail _ (List.Mem.head _))) rfl (by decide) (by decide)) fun v h' tk kb S2 p => ?_)
      obtain ⟨r', tr, rfl, hr'⟩ := p
      refine ⟨_, _, rfl, kb, hX1, hX2, S2, by simp [hl3], fun v hv => ?_⟩
      rcases List.mem_append.mp hv with hv | hv
      · exact hi3 v hv
      · rw [List.mem_singleton.mp hv]; exact ⟨_, _, rfl, hr'⟩
    · dsimp only at hD hk' ⊢
      obtain ⟨hX1, hX2, S3, hl3, hi3⟩ := hR
      obtain ⟨oL, _, _, hoL, _⟩ := F.ns
      have hDL : D ≠ _ := fun q => by rw [q, hoL] at hD; cases hD
      have F' : Fr g _ h' _ := ⟨hn', fun b o e => hk' b o (Nat.ne_of_lt (Nat.lt_of_lt_of_le (Heap.lt_size e) F.above)) (fun q => by rw [hn b q] at e; cases e) (F.keep b o e), F.above⟩
      have K2 : KeepBut [sa, sl] s.heap h' := fun b o hb e => hk' b o (Nat.ne_of_lt (Nat.lt_of_lt_of_le (Heap.lt_size e) hL)) hb (K1 b o hb e)
      obtain ⟨kk, hkk⟩ := hp
      have N' := assign_news (mx := [sa, sl]) F N (fun p hp => ⟨List.Mem.tail _ hp, not1 hcn p hp⟩) hD hkk hk hk'
      have S4 : Src h' sa sl := S3.off (X := [L']) (fun q => hLn (by rw [List.mem_singleton.mp q]; exact List.Mem.head _)) (fun q => hLn (by rw [List.mem_singleton.mp q]; exact List.Mem.tail _ (List.Mem.head _))) fun b o hb e => hk b o (fun q => hb (by rw [q]; exact List.Mem.head _)) e
      clear F N hk hk'
      obtain ⟨kx, hkx⟩ : ∃ kx, kx = kd := ⟨_, rfl⟩
      cases kd <;> dsimp only [Kind.str] at h F' ⊢
      case dbl => exact absurd rfl hd
      · repeat' walk1
        all_goals (try k_data)
        rename Fr _ _ _ _ => F
        rename News _ _ _ _ => N
        refine' go (ListCompL (fun _ i _ zs => ∃ xs, xs.length = i ∧ Flats .lgl zs xs) (fun _ _ _ _ _ R _ => R) (fun _ _ _ _ R => flats_len R) ?hh1 ?hclos1 ?hcell1 ?hkind1 ?hnames1 ?hx1 ?h1 ?hs1)
        case hh1 => rfl
        case hclos1 => with_unfolding_all rfl
        case hcell1 => decide
        case hkind1 => with_unfolding_all rfl
        case hnames1 => decide
        case hx1 => with_unfolding_all rfl
        case hs1 => intro _; with_unfolding_all rfl
        case h1 =>
          repeat' walk1
          all_goals (try k_data)
          rename Fr _ _ _ _ => F
          rename News _ _ _ _ => N
          refine go ⟨_, ys.toList, rfl, News.isList N (List.Mem.head _), by omega, fun X _ => ⟨[], rfl, Flats.nil⟩, ?_, fun X' D h' tk zs hDX hD hp hR hk => ?_⟩
          · intro X' C₂ i v s₃ m₃ zs E' hC hX hCX hXg hv hR hn hm hk
            dsimp only at hC hXg hk
            have C3 := C'.ext F.keep
            have ⟨X3, T3⟩ := C3
            have F3 := elt_fr hn hm hC hk
            have N3 := news_nil F3
            obtain ⟨r', t', rfl, hr'⟩ := hi3 v (List.mem_of_getElem? hv)
            obtain ⟨xs', hxl, hfl⟩ := hR
            clear N XX TT
            repeat' walk1
            all_goals (try k_data)
            rename Fr _ _ _ _ => F3
            rename News _ _ _ _ => N3
            refine go (newListX (fun D' h4 x4 fr4 => ?_) (by simp [sizeLine_eq]))
            dsimp only at x4 fr4
            replace N3 := newsAdd F3 N3 x4 fr4
            replace F3 := fr_by F3 x4
            have hl4 := News.isList N3 (List.Mem.head _)
            repeat' walk1
            all_goals (try k_data)
            all_goals first
              | exact ⟨_, _, rfl, x4, xs' ++ [some .a], by simp [hxl], hfl.snoc (fun _ => ⟨_, rfl⟩) (fun _ e => by cases e)⟩
              | exact ⟨_, _, rfl, x4, xs' ++ [some .b], by simp [hxl], hfl.snoc (fun _ => ⟨_, rfl⟩) (fun _ e => by cases e)⟩
              | exact ⟨_, _, rfl, x4, xs' ++ [some .c], by simp [hxl], hfl.snoc (fun _ => ⟨_, rfl⟩) (fun _ e => by cases e)⟩
              | exact ⟨_, _, rfl, x4, xs' ++ [some .d], by simp [hxl], hfl.snoc (fun _ => ⟨_, rfl⟩) (fun _ e => by cases e)⟩
              | exact ⟨_, _, rfl, x4, xs' ++ [none], by simp [hxl], hfl.snoc (fun _ => rfl) (fun _ e => by cases e)⟩
          · dsimp only at hD hk ⊢
            obtain ⟨c, hp⟩ := hp
            obtain ⟨xs', hxl, hfl⟩ := hR
            have hl' : h'.get? D = some (listOf zs.toList.toArray c) := by simpa using hp
            have hDn := kb_none K2 S4 hD
            replace N := newsBy N hk
            replace F := fr_by F hk
            replace K2 := K2.ext hk
            replace S4 := S4.keep hk
            repeat' walk1
            all_goals (try k_data)
            rename Fr _ _ _ _ => F
            rename News _ _ _ _ => N
            refine go (use (mkVecN (kd := .lgl) (C'.ext F.keep) (RM'.le (by decide)) hl' (hfl.atoms _) (B := fun b => s.heap.get? b = none) hDn hfl.refs) fun v h' tk x p => ?_)
            dsimp only at x p
            refine h v xs' h' tk (by simp at hl3; simp at hxl; omega) (K2.ext x) (S4.keep x) (p.mono fun b q => q.elim id fun q => kb_none K2 S4 q)
      · repeat' walk1
        all_goals (try k_data)
        rename Fr _ _ _ _ => F
        rename News _ _ _ _ => N
        refine' go (ListCompL (fun _ i _ zs => ∃ xs, xs.length = i ∧ Flats .int zs xs) (fun _ _ _ _ _ R _ => R) (fun _ _ _ _ R => flats_len R) ?hh2 ?hclos2 ?hcell2 ?hkind2 ?hnames2 ?hx2 ?h2 ?hs2)
        case hh2 => rfl
        case hclos2 => with_unfolding_all rfl
        case hcell2 => decide
        case hkind2 => with_unfolding_all rfl
        case hnames2 => decide
        case hx2 => with_unfolding_all rfl
        case hs2 => intro _; with_unfolding_all rfl
        case h2 =>
          repeat' walk1
          all_goals (try k_data)
          rename Fr _ _ _ _ => F
          rename News _ _ _ _ => N
          refine go ⟨_, ys.toList, rfl, News.isList N (List.Mem.head _), by omega, fun X _ => ⟨[], rfl, Flats.nil⟩, ?_, fun X' D h' tk zs hDX hD hp hR hk => ?_⟩
          · intro X' C₂ i v s₃ m₃ zs E' hC hX hCX hXg hv hR hn hm hk
            dsimp only at hC hXg hk
            have C3 := C'.ext F.keep
            have ⟨X3, T3⟩ := C3
            have F3 := elt_fr hn hm hC hk
            have N3 := news_nil F3
            obtain ⟨r', t', rfl, hr'⟩ := hi3 v (List.mem_of_getElem? hv)
            obtain ⟨xs', hxl, hfl⟩ := hR
            clear N XX TT
            repeat' walk1
            all_goals (try k_data)
            rename Fr _ _ _ _ => F3
            rename News _ _ _ _ => N3
            refine go (newListX (fun D' h4 x4 fr4 => ?_) (by simp [sizeLine_eq]))
            dsimp only at x4 fr4
            replace N3 := newsAdd F3 N3 x4 fr4
            replace F3 := fr_by F3 x4
            have hl4 := News.isList N3 (List.Mem.head _)
            repeat' walk1
            all_goals (try k_data)
            all_goals first
              | exact ⟨_, _, rfl, x4, xs' ++ [some .a], by simp [hxl], hfl.snoc (fun _ => ⟨_, rfl⟩) (fun _ e => by cases e)⟩
              | exact ⟨_, _, rfl, x4, xs' ++ [some .b], by simp [hxl], hfl.snoc (fun _ => ⟨_, rfl⟩) (fun _ e => by cases e)⟩
              | exact ⟨_, _, rfl, x4, xs' ++ [some .c], by simp [hxl], hfl.snoc (fun _ => ⟨_, rfl⟩) (fun _ e => by cases e)⟩
              | exact ⟨_, _, rfl, x4, xs' ++ [some .d], by simp [hxl], hfl.snoc (fun _ => ⟨_, rfl⟩) (fun _ e => by cases e)⟩
              | exact ⟨_, _, rfl, x4, xs' ++ [none], by simp [hxl], hfl.snoc (fun _ => rfl) (fun _ e => by cases e)⟩
          · dsimp only at hD hk ⊢
            obtain ⟨c, hp⟩ := hp
            obtain ⟨xs', hxl, hfl⟩ := hR
            have hl' : h'.get? D = some (listOf zs.toList.toArray c) := by simpa using hp
            have hDn := kb_none K2 S4 hD
            replace N := newsBy N hk
            replace F := fr_by F hk
            replace K2 := K2.ext hk
            replace S4 := S4.keep hk
            repeat' walk1
            all_goals (try k_data)
            rename Fr _ _ _ _ => F
            rename News _ _ _ _ => N
            refine go (use (mkVecN (kd := .int) (C'.ext F.keep) (RM'.le (by decide)) hl' (hfl.atoms _) (B := fun b => s.heap.get? b = none) hDn hfl.refs) fun v h' tk x p => ?_)
            dsimp only at x p
            refine h v xs' h' tk (by simp at hl3; simp at hxl; omega) (K2.ext x) (S4.keep x) (p.mono fun b q => q.elim id fun q => kb_none K2 S4 q)
      · repeat' walk1
        all_goals (try k_data)
        rename Fr _ _ _ _ => F
        rename News _ _ _ _ => N
        refine' go (ListCompL (fun _ i _ zs => ∃ xs, xs.length = i ∧ Flats .chr zs xs) (fun _ _ _ _ _ R _ => R) (fun _ _ _ _ R => flats_len R) ?hh3 ?hclos3 ?hcell3 ?hkind3 ?hnames3 ?hx3 ?h3 ?hs3)
        case hh3 => rfl
        case hclos3 => with_unfolding_all rfl
        case hcell3 => decide
        case hkind3 => with_unfolding_all rfl
        case hnames3 => decide
        case hx3 => with_unfolding_all rfl
        case hs3 => intro _; with_unfolding_all rfl
        case h3 =>
          repeat' walk1
          all_goals (try k_data)
          rename Fr _ _ _ _ => F
          rename News _ _ _ _ => N
          refine go ⟨_, ys.toList, rfl, News.isList N (List.Mem.head _), by omega, fun X _ => ⟨[], rfl, Flats.nil⟩, ?_, fun X' D h' tk zs hDX hD hp hR hk => ?_⟩
          · intro X' C₂ i v s₃ m₃ zs E' hC hX hCX hXg hv hR hn hm hk
            dsimp only at hC hXg hk
            have C3 := C'.ext F.keep
            have ⟨X3, T3⟩ := C3
            have F3 := elt_fr hn hm hC hk
            have N3 := news_nil F3
            obtain ⟨r', t', rfl, hr'⟩ := hi3 v (List.mem_of_getElem? hv)
            obtain ⟨xs', hxl, hfl⟩ := hR
            clear N XX TT
            repeat' walk1
            all_goals (try k_data)
            rename Fr _ _ _ _ => F3
            rename News _ _ _ _ => N3
            refine go (newListX (fun D' h4 x4 fr4 => ?_) (by simp [sizeLine_eq]))
            dsimp only at x4 fr4
            replace N3 := newsAdd F3 N3 x4 fr4
            replace F3 := fr_by F3 x4
            have hl4 := News.isList N3 (List.Mem.head _)
            repeat' walk1
            all_goals (try k_data)
            all_goals first
              | exact ⟨_, _, rfl, x4, xs' ++ [some .a], by simp [hxl], hfl.snoc (fun _ => ⟨_, rfl⟩) (fun _ e => by cases e)⟩
              | exact ⟨_, _, rfl, x4, xs' ++ [some .b], by simp [hxl], hfl.snoc (fun _ => ⟨_, rfl⟩) (fun _ e => by cases e)⟩
              | exact ⟨_, _, rfl, x4, xs' ++ [some .c], by simp [hxl], hfl.snoc (fun _ => ⟨_, rfl⟩) (fun _ e => by cases e)⟩
              | exact ⟨_, _, rfl, x4, xs' ++ [some .d], by simp [hxl], hfl.snoc (fun _ => ⟨_, rfl⟩) (fun _ e => by cases e)⟩
              | exact ⟨_, _, rfl, x4, xs' ++ [none], by simp [hxl], hfl.snoc (fun _ => rfl) (fun _ e => by cases e)⟩
          · dsimp only at hD hk ⊢
            obtain ⟨c, hp⟩ := hp
            obtain ⟨xs', hxl, hfl⟩ := hR
            have hl' : h'.get? D = some (listOf zs.toList.toArray c) := by simpa using hp
            have hDn := kb_none K2 S4 hD
            replace N := newsBy N hk
            replace F := fr_by F hk
            replace K2 := K2.ext hk
            replace S4 := S4.keep hk
            repeat' walk1
            all_goals (try k_data)
            rename Fr _ _ _ _ => F
            rename News _ _ _ _ => N
            refine go (use (mkVecN (kd := .chr) (C'.ext F.keep) (RM'.le (by decide)) hl' (hfl.atoms _) (B := fun b => s.heap.get? b = none) hDn hfl.refs) fun v h' tk x p => ?_)
            dsimp only at x p
            refine h v xs' h' tk (by simp at hl3; simp at hxl; omega) (K2.ext x) (S4.keep x) (p.mono fun b q => q.elim id fun q => kb_none K2 S4 q)
end
section
local macro_rules | `(tactic| walk_at "newTuple") => `(tactic| refine halt ?_)
theorem law_double {w : World} {mg mb} {A : Around} {s : Shared} {v : Value} {xs : List Atom} {B : Addr → Prop} (C : Cx w mg mb s.heap) (RM : Room A 5) (V : VecB B s.heap v .int xs) (hz : xs.length ≤ 1000) :
    Gives w A s 627 [v] fun r h' => VecN (BF B s.heap) h' r .dbl xs := by
  intro Q E h
  obtain ⟨a, d, es, n, l, vs, rfl, hv, hl, hx, ba, bd, bl, br⟩ := V
  have hv' := hv
  obtain ⟨hv1, hv2, h1V, h2V, h3V, h4V, h5V, t1V, t2V, t3V, t4V, t5V, tkV, rfl⟩ := hv'
  have ⟨X, T⟩ := C
  obtain ⟨hd', dp', fr', gd', un'⟩ := A
  obtain rfl : hd' = none := RM.hnd
  walk_at "MINE enter"
  rename Room _ _ => RM'
  repeat' walk1
  all_goals (try k_data)
  rename Fr _ _ _ _ => F
  rename News _ _ _ _ => N
  obtain ⟨h0, h0e⟩ := heap_nm F
  refine' go (ListCompL (DRel h0 xs) (fun _ _ _ _ _ R o => R.stab o) (fun _ _ _ _ R => R.1) ?hh ?hclos ?hcell ?hkind ?hnames ?hx ?h ?hs)
  case hh => rfl
  case hclos => with_unfolding_all rfl
  case hcell => decide
  case hkind => with_unfolding_all rfl
  case hnames => decide
  case hx => with_unfolding_all rfl
  case hs => intro _; with_unfolding_all rfl
  case h =>
    repeat' walk1
    all_goals (try k_data)
    rename Fr _ _ _ _ => F
    rename News _ _ _ _ => N
    refine go ⟨l, vs, rfl, hl.at fun o e => F.keep _ _ e, by rw [hx.1]; exact hz, fun X _ => ⟨rfl, fun j y x hy => by simp at hy⟩, ?_, fun X' D h' tk ys hDX hD hp hR hk => ?_⟩
    · intro X' C' i v s₃ m₃ ys E' hC hX hCX hXg hv hR hn hm hk
      dsimp only at hC hXg hk
      have C3 := C.ext F.keep
      have ⟨X3, T3⟩ := C3
      have F3 := elt_fr hn hm hC hk
      have N3 := news_nil F3
      clear N X T
      obtain ⟨x, hx'⟩ : ∃ x, xs[i]? = some x := by
        have := (List.getElem?_eq_some_iff.mp hv).1
        rw [hx.1] at this
        exact ⟨_, List.getElem?_eq_getElem this⟩
      have AV := hx.2 i v x hv hx'
      cases x with
      | none =>
        cases AV
        repeat' walk1
        all_goals (try k_data)
        exact ⟨_, _, rfl, Ext.refl _, hR.snoc (Ext.refl _) hx' rfl fun b e => by cases e⟩
      | some c =>
        obtain ⟨t, rfl⟩ := AV
        repeat' walk1
        all_goals (try k_data)
        rename Fr _ _ _ _ => F3
        rename News _ _ _ _ => N3
        refine go (newTupleX (fun D h' x fr => ?_) (by simp [sizeLine_eq]))
        dsimp only at x fr
        have z := fr _ (List.Mem.head _)
        refine ⟨_, _, rfl, x, hR.snoc x hx' ⟨D, _, _, rfl, _, z.1, rfl, _, rfl⟩ fun b e => ?_⟩
        cases e
        refine ⟨fun hb => ?_, ?_⟩
        · obtain ⟨o, ho⟩ := hX _ hb
          rw [z.2] at ho
          cases ho
        · rw [h0e]
          exact none_back hk z.2
    · dsimp only at hD hk ⊢
      obtain ⟨c, hp⟩ := hp
      have AT : Atoms h' .dbl ys.toList xs := ⟨hR.1.trans hx.1, fun i v x hv hx' => (hR.2 i v x hv hx').1⟩
      have RI : RefsIn (fun b => s.heap.get? b = none) ys.toList := fun v hv b e => by
        obtain ⟨i, hi⟩ := List.getElem?_of_mem hv
        obtain ⟨x, hx'⟩ : ∃ x, xs[i]? = some x := ⟨_, List.getElem?_eq_getElem (by have := (List.getElem?_eq_some_iff.mp hi).1; have := AT.1; omega)⟩
        have z := ((hR.2 i v x hi hx').2 b e).2
        rw [h0e] at z
        exact none_back F.keep z
      have hl' : h'.get? D = some (listOf ys.toList.toArray c) := by simpa using hp
      have hDn := none_back F.keep hD
      replace N := newsBy N hk
      replace F := fr_by F hk
      repeat' walk1
      all_goals (try k_data)
      rename Fr _ _ _ _ => F
      rename News _ _ _ _ => N
      refine go (use (mkVecN (kd := .dbl) (C.ext F.keep) (RM'.le (by decide)) hl' AT (B := BF B s.heap) (.inr hDn) fun v hv b e => .inr (RI v hv b e)) fun v h' tk x p => ?_)
      dsimp only at x p
      replace p := p.mono (B' := BF B s.heap) fun b q => bf_back F.keep b q
      replace F := fr_by F x
      replace N := newsBy N x
      repeat' walk1
      all_goals (try k_data)
      exact h _ _ _ F.keep p
end
section
section
variable {prog : Program} {w : World} {A : Around} {R : Result → Shared → Prop} {I : Addr} {fp wr : List Addr} {G : Array GenState → Array GenState → Prop} {n : Nat} {P : Nat → Value → Prop} {St : Nat → Shared → Prop}
/-- what it is to add one item after the other to the set at S, told by a state of the heap -/
def Adds (prog : Program) (w : World) (A : Around) (S : Addr) (P : Nat → Value → Prop) (SS : Nat → Heap → Prop) (n : Nat) : Prop :=
  ∀ (i : Nat) (v : Value) (s : Shared) (Q : Bool → Shared → Prop) (E : Value → Shared → Prop), i < n → P i v → SS i s.heap →
    (∀ b h' tk, s.toks ≤ tk → Heap.SameBut S s.heap h' → SS (i + 1) h' → Q b { s with heap := h', toks := tk }) → wpAny (model prog w) A (setAdd S v) Q E s
theorem update_loopG (W : WalksS prog w A.in1 I fp wr G n P St) (S : Addr) (hSf : S ∉ fp) (SS : Nat → Heap → Prop)
    (hst : ∀ i h h', SS i h → (∀ b o, b ∉ wr → h.get? b = some o → h'.get? b = some o) → SS i h') (hadd : Adds prog w A.in1 S P SS n) :
    ∀ (k i : Nat) (s : Shared), n - i = k → i ≤ n → St i s → SS i s.heap → (∀ s', Moved (S :: wr) G s s' → SS n s'.heap → R (.ok (.ret .none)) s') →
      codeAny (model prog w) A (.builtin "set.update.loop" ⟨[.ref S, .ref I], []⟩) R s := by
  have hsub : ∀ b ∈ wr, b ∈ S :: wr := fun b hb => List.mem_cons_of_mem _ hb
  intro k
  induction k with
  | zero =>
    intro i s hk hi hst' hS hR
    obtain rfl : i = n := by omega
    refine codeAny_builtin F.entry_set_update_loop ?_
    rw [Around.under_plainId F.plain_set_update_loop _]
    show wpAny _ A.in1 (pyNext (.ref I) >>= _) _ _ s
    refine wpAny_bind (W.done s _ _ hst' fun s' hm => ?_)
    show wpAny _ A.in1 (ret Value.none) _ _ s'
    exact wpAny_pure (hR s' (hm.mono hsub) (hst _ _ _ hS fun b o hb e => hm.heap b o hb e))
  | succ k ih =>
    intro i s hk hi hst' hS hR
    have hlt : i < n := by omega
    refine codeAny_builtin F.entry_set_update_loop ?_
    rw [Around.under_plainId F.plain_set_update_loop _]
    show wpAny _ A.in1 (pyNext (.ref I) >>= _) _ _ s
    refine wpAny_bind (W.item i s _ _ hlt hst' fun v s' hP hst2 hm => ?_)
    have hS' := hst _ _ _ hS fun b o hb e => hm.heap b o hb e
    show wpAny _ A.in1 (holding [v] (setAdd S v) >>= _) _ _ s'
    refine wpAny_bind (wpAny_holding ?_)
    refine hadd i v s' _ _ hlt hP hS' fun _ h' tk htk hsb hS2 => ?_
    refine wpAny_pure ⟨plainId_quiet F.plain_set_update_loop _, ih (i + 1) _ (by omega) hlt (W.frame _ s' _ _ hst2 htk fun b hb o e => ?_) hS2 fun s'' hm'' hS'' => ?_⟩
    · rw [hsb.2 b (fun h : b = S => hSf (by rw [← h]; exact hb))]; exact e
    · refine hR s'' (Moved.trans W.gtrans ((hm.mono hsub).then_heap htk fun b o hb e => ?_) hm'') hS''
      rw [hsb.2 b (fun h : b = S => hb (by rw [h]; exact List.mem_cons_self))]; exact e
end
section
variable {prog : Program} {w : World} {A : Around} {E : Value → Shared → Prop} {s : Shared}
def setObj (led : Bool) : Obj := { cls := .type "set", dict := none, data := .set #[] 0 (.fresh 0 0 led) }
theorem call_set_listG {l : Addr} {items : Array Value} {Q : Value → Shared → Prop} (SS : Bool → Nat → Heap → Prop)
    (hh : A.handled = none) (hl : s.heap.IsList l items)
    (hst : ∀ led i h h' I, s.heap.objs.size < I → SS led i h → (∀ b o, b ≠ I → h.get? b = some o → h'.get? b = some o) → SS led i h')
    (h0 : ∀ led h', Ext s.heap h' → h'.get? s.heap.objs.size = some (setObj led) → SS led 0 h')
    (hadd : ∀ led, Adds prog w A.in1.in1.in1 s.heap.objs.size (fun i v => items[i]? = some v) (SS led) items.size)
    (h : ∀ (led : Bool) (h' : Heap) (tk : Nat), SS led items.size h' → Ext s.heap h' → Q (.ref s.heap.objs.size) { s with heap := h', toks := tk }) :
    wpAny (model prog w) A (call (.type "set") [.ref l]) Q E s := by
  obtain ⟨c, tl, hmro⟩ := F.called_set.mro
  have hmade := F.called_set.made
  have hsub := F.called_set.sub
  refine wpAny_call (codeAny_of_tree ?_)
  show wpAny _ _ (callAny (.type "set") _) _ _ _
  refine wpAny_pure ⟨Code.quiet_builtin _ (by decide +kernel), codeAny_builtin F.entry_type_call ?_⟩
  rw [Around.under_plain (weight_type_call_type "set" [.ref l] []) rfl]
  have h1 := F.called_set.notType
  have h2 := F.called_set.canCreate
  have hct := F.typeCall_set_1 (.ref l)
  repeat (any_goals (first | assumption | wp_step))
  refine codeAny_mono (code_set_new_1 (.ref l) (E := E) (Q₁ := fun obj s₁ => ∃ led : Bool, obj = .ref s.heap.objs.size ∧ s₁ = { s with heap := s.heap.push (setObj led) }) fun led => ⟨led, rfl, rfl⟩) fun r s₁ hr => ?_
  cases r with
  | error e => exact hr
  | ok fl =>
    cases fl with
    | ret obj =>
      obtain ⟨led, rfl, rfl⟩ := hr
      have hS : (s.heap.push (setObj led)).get? s.heap.objs.size = some (setObj led) := Heap.get?_push_size _ rfl
      have hT : Shared.TypeIs { s with heap := s.heap.push (setObj led) } (.ref s.heap.objs.size) "set" := ⟨_, hS, rfl⟩
      have hli := F.called_set.init.lookup
      have hbi := F.called_set.init.bind (.ref s.heap.objs.size)
      repeat (any_goals (first | assumption | wp_step))
      refine codeAny_mono (codeAny_call_builtin (R := wants (fun r s₂ => r = .none ∧ ∃ h' tk, s₂ = { s with heap := h', toks := tk } ∧ SS led items.size h' ∧ Ext s.heap h') E) F.called_set.init.plain F.entry_set_init (check_set_init_1 hT ?_)) fun r₂ s₂ hr₂ => ?_
      · obtain ⟨ol, hol, hcl, nl, hdl⟩ := hl
        obtain ⟨ocls, odict, odata, oslots⟩ := ol
        simp only at hcl hdl
        subst hcl; subst hdl
        have hol' : (s.heap.push (setObj led)).get? l = some { cls := .type "list", dict := odict, data := .seq items nl, slots := oslots } := Heap.get?_push_of_some _ hol
        have hsls := F.sub_list_set
        have hslf := F.sub_list_frozenset
        have hne : (Value.type "list" == Value.type "dict") = false := by decide
        have hl1 : (s.heap.push (setObj led)).IsList l items := ⟨_, hol', rfl, nl, rfl⟩
        unfold Builtin.«set.__init__» noKeywords Builtin.Frozenset.updateFrom
        generalize hPI : pyIter = PI
        wp_walk
        subst hPI
        refine wpAny_pyIter_list hl1 ?_
        refine wpAny_bind (wpAny_runValue ?_)
        have hlS : l < s.heap.objs.size := Heap.lt_size hol
        have hh3 : A.in1.in1.in1.handled = none := by simp [hh]
        have hneI : l ≠ (s.heap.push (setObj led)).objs.size := by
          rw [Heap.size_push]; exact Nat.ne_of_lt (Nat.lt_succ_of_lt hlS)
        have hSf : s.heap.objs.size ∉ [(s.heap.push (setObj led)).objs.size, l] := by
          rw [Heap.size_push]; simp only [List.mem_cons, List.mem_singleton, List.not_mem_nil, or_false, not_or]
          exact ⟨Nat.ne_of_lt (Nat.lt_succ_self _), Nat.ne_of_gt hlS⟩
        refine update_loopG ((Walks.list hh3 _ l hneI items).toS) s.heap.objs.size hSf (SS led) (fun i h h' q k => hst led i h h' (s.heap.push (setObj led)).objs.size (by rw [Heap.size_push]; exact Nat.lt_succ_self _) q fun b o hb e => k b o (by simpa using hb) e) (hadd led) (items.size - 0) 0 _ (by omega) (Nat.zero_le _)
          ⟨⟨_, Heap.get?_push_size _ rfl, rfl, rfl⟩, (hl1.push _)⟩ ?hS0 ?hR
        case hS0 =>
          exact h0 led _ (fun b o e => Heap.get?_push_of_some _ (Heap.get?_push_of_some _ e)) (Heap.get?_push_of_some _ hS)
        case hR =>
          intro s' hm hS'
          obtain ⟨h', g', d', tk', os'⟩ := s'
          have eg : g' = s.gens := hm.gens
          have ed : d' = s.drawn := hm.drawn
          have eo : os' = s.os := hm.os
          subst eg; subst ed; subst eo
          show wpAny _ _ _ _ _ _
          refine wpAny_pure ?_
          show wpAny _ _ (ret Value.none) _ _ _
          refine wpAny_pure ⟨rfl, h', tk', rfl, hS', fun b o e => ?_⟩
          have hb := Heap.lt_size e
          have hb1 : b ≠ s.heap.objs.size := Nat.ne_of_lt hb
          have hb2 : b ≠ (s.heap.push (setObj led)).objs.size := by
            rw [Heap.size_push]; exact Nat.ne_of_lt (Nat.lt_succ_of_lt hb)
          exact hm.heap b o (by simp only [List.mem_cons, List.mem_singleton, List.not_mem_nil, or_false, not_or]; exact ⟨hb1, hb2⟩) (Heap.get?_push_of_some _ (Heap.get?_push_of_some _ e))
      · cases r₂ with
        | error e => exact hr₂
        | ok fl₂ =>
          cases fl₂ with
          | ret r =>
            obtain ⟨rfl, h', tk, rfl, hS', hk'⟩ := hr₂
            repeat (any_goals (first | assumption | wp_step))
            exact h _ _ _ hS' hk'
          | _ => exact hr₂.elim
    | _ => exact hr.elim
end
end
section
section
variable {prog : Program} {w : World} {A : Around} {E : Value → Shared → Prop} {s : Shared}
def noneHash : Int := 0xFCA86420
theorem pyHash_none {Q : Int → Shared → Prop} (h : Q noneHash { s with toks := s.toks + 1 }) : wpAny (model prog w) A (pyHash .none) Q E s := by
  have hT : s.TypeIs .none "NoneType" := rfl
  unfold pyHash
  have hv : [Value.none].any Value.onHeap = false := rfl
  refine wpAny_bind ?_
  rw [cRoomFor, if_neg (by rw [hv]; exact Bool.false_ne_true)]; refine wpAny_pure ?_
  refine wpAny_bind (wpAny_specialOf hT F.slot_NoneType_hash.lookup ?_)
  show wpAny _ _ (if (some (Value.builtin "NoneType.__hash__") == some Value.none) = true then _ else _) Q E s
  rw [if_neg (by rw [beq_builtin_none]; exact Bool.false_ne_true)]
  refine wpAny_bind (wpAny_specialOf hT F.slot_NoneType_hash.lookup ?_)
  show wpAny _ _ (callSpecialIfBoundUnlessNone? .none "__hash__" _ >>= _) Q E s
  refine wpAny_bind (wpAny_callSpecialIfBoundUnlessNone?_slot hT F.slot_NoneType_hash
    (wpAny_call_entry F.slot_NoneType_hash hT F.entry_NoneType_hash
      (show wpAny _ _ (do ret (← mkInt 0xFCA86420)) _ _ s from wpAny_ret_mkInt ?_) (F.args_NoneType_hash_1 _)))
  show wpAny _ _ (if (decide (-(2 : Int) ^ 63 ≤ 0xFCA86420) && decide ((0xFCA86420 : Int) < 2 ^ 63)) = true then _ else _) Q E _
  rw [if_pos (by decide)]
  exact wpAny_pure h
end
section
variable {prog : Program} {w : World} {K : Type} [DecidableEq K]
def optIs (knd : KeyKind prog w K) : Option K → Value → Bool
  | none, .none => true
  | none, _ => false
  | some k, v => knd.is k v
theorem optIs_none {knd : KeyKind prog w K} {v : Value} (h : optIs knd none v = true) : v = .none := by
  cases v <;> first | rfl | (exact absurd h (by simp [optIs]))
def optKind (knd : KeyKind prog w K) (hn : ∀ k, knd.is k .none = false) (e1 : ∀ (A : Around) (s : Shared) k v, knd.is k v = true → PySem.SeqAt.EqAt A s .none v false) (e2 : ∀ (A : Around) (s : Shared) k v, knd.is k v = true → PySem.SeqAt.EqAt A s v .none false) : KeyKind prog w (Option K) where
  is := optIs knd
  hash := fun k => match k with | none => noneHash | some k => knd.hash k
  inj := fun v a b ha hb => by
    cases a with
    | none =>
      obtain rfl := optIs_none ha
      cases b with
      | none => rfl
      | some b => exact absurd hb (by show ¬ knd.is b .none = true; rw [hn b]; simp)
    | some a =>
      cases b with
      | none =>
        obtain rfl := optIs_none hb
        exact absurd ha (by show ¬ knd.is a .none = true; rw [hn a]; simp)
      | some b => rw [knd.inj v a b ha hb]
  byValue := fun k v h => by
    cases k with
    | none => obtain rfl := optIs_none h; rfl
    | some k => exact knd.byValue k v h
  pyHash := fun {A E s k v Q} hv h => by
    cases k with
    | none => obtain rfl := optIs_none hv; exact pyHash_none h
    | some k => exact knd.pyHash hv h
  eqBool := fun {A E s a b u v Q} hu hv h => by
    cases a with
    | none =>
      obtain rfl := optIs_none hu
      cases b with
      | none => obtain rfl := optIs_none hv; exact PySem.SeqAt.EqAt.same _ prog w E Q (by simpa using h)
      | some b => exact e1 A s b v hv prog w E Q (by simpa using h)
    | some a =>
      cases b with
      | none => obtain rfl := optIs_none hv; exact e2 A s a u hu prog w E Q (by simpa using h)
      | some b => exact knd.eqBool hu hv (by simpa using h)
  «strs» := fun k x t v h => by
    cases k with
    | none => exact absurd h (by simp [optIs])
    | some k => exact KeyKind.«strs» knd k x t v h
noncomputable def oInt (prog : Program) (w : World) : KeyKind prog w (Option Int) := optKind (intKind prog w) (fun _ => rfl)
  (fun A s k v h => by obtain ⟨t, rfl⟩ := Value.isInt_shape h; exact PySem.SeqAt.EqAt.none_int _ _) (fun A s k v h => by obtain ⟨t, rfl⟩ := Value.isInt_shape h; exact PySem.SeqAt.EqAt.int_none _ _)
noncomputable def oStr (prog : Program) (w : World) : KeyKind prog w (Option Str) := optKind (strKind prog w) (fun _ => rfl)
  (fun A s k v h => by obtain ⟨t, rfl⟩ := Value.isStrOf_shape h; exact PySem.SeqAt.EqAt.none_str _ _) (fun A s k v h => by obtain ⟨t, rfl⟩ := Value.isStrOf_shape h; exact PySem.SeqAt.EqAt.str_none _ _)
end
end
section
/-- a set of n items -/
def SetIs (h : Heap) (S : Addr) (n : Nat) : Prop := ∃ o es ep t, h.get? S = some o ∧ o.ExactSet ∧ o.data = .set es ep t ∧ t.fits es.size = true ∧ es.size = n
section
variable {prog : Program} {w : World} {K : Type} [DecidableEq K] {knd : KeyKind prog w K} {A : Around} {E : Value → Shared → Prop} {s : Shared}
theorem setOf_keep {h h' : Heap} {S : Addr} {f : K → Bool} {n : Nat} (x : h.SetOf knd S f n) (k : ∀ o, h.get? S = some o → h'.get? S = some o) : h'.SetOf knd S f n := by
  obtain ⟨o, es, ep, t, ho, r⟩ := x
  exact ⟨o, es, ep, t, k o ho, r⟩
theorem setOf_congr {h : Heap} {S : Addr} {f f' : K → Bool} {n n' : Nat} (x : h.SetOf knd S f n) (e : ∀ k, f k = f' k) (en : n = n') : h.SetOf knd S f' n' := by
  obtain rfl : f = f' := funext e
  subst en; exact x
theorem setOf_is {h : Heap} {S : Addr} {f : K → Bool} {n : Nat} (x : h.SetOf knd S f n) : SetIs h S n := by
  obtain ⟨o, es, ep, t, ho, he, hd, _, _, _, hf, hn⟩ := x
  exact ⟨o, es, ep, t, ho, he, hd, hf, hn⟩
theorem adds_scan {S : Addr} {items : Array Value} {keys : List K} (hk : ∀ (i : Nat) (v : Value), items[i]? = some v → ∃ k, keys[i]? = some k ∧ knd.is k v = true ∧ v.scannable = true) (nd : keys.Nodup) (hz : items.size ≤ 1000) :
    Adds prog w A S (fun i v => items[i]? = some v) (fun i h => h.SetOf knd S (fun k => decide (k ∈ keys.take i)) i) items.size := by
  intro i v s Q E hi hv hS hQ
  obtain ⟨k, hki, his, hsc⟩ := hk i v hv
  have hnot : k ∉ keys.take i := fun hm => by
    obtain ⟨j, hj, e⟩ := List.mem_take_iff_getElem.mp hm
    obtain ⟨hi', e'⟩ := List.getElem?_eq_some_iff.mp hki
    have hjk : j < keys.length := by omega
    have := (List.getElem_inj (h₀ := hjk) (h₁ := hi') nd).mp (e.trans e'.symm)
    omega
  unfold setAdd
  refine wpAny_holding ?_
  refine wpAny_bind (knd.pyHash his ?_)
  refine wpAny_setAddHashed_of (knd := knd) (s := { s with toks := s.toks + 1 }) his hsc hS (by unfold scanBound; omega) fun h' hsb hS2 => ?_
  refine hQ _ h' _ (Nat.le_succ _) hsb (setOf_congr hS2 (fun k' => ?_) ?_)
  · rw [List.take_add_one, hki]
    by_cases h1 : k' ∈ keys.take i
    · simp [h1]
    · by_cases h2 : k' = k
      · simp [h2]
      · simp [h1, h2]
  · rw [decide_eq_false hnot]; rfl
theorem set_scan {l : Addr} {items : Array Value} {keys : List K} {Q : Value → Shared → Prop} (hh : A.handled = none) (hl : s.heap.IsList l items) (hk : ∀ (i : Nat) (v : Value), items[i]? = some v → ∃ k, keys[i]? = some k ∧ knd.is k v = true ∧ v.scannable = true) (nd : keys.Nodup) (hz : items.size ≤ 1000)
    (h : ∀ S h' tk, SetIs h' S items.size → Ext s.heap h' → Q (.ref S) { s with heap := h', toks := tk }) : wpAny (model prog w) A (call (.type "set") [.ref l]) Q E s := by
  refine call_set_listG (fun _ i h => h.SetOf knd s.heap.objs.size (fun k => decide (k ∈ keys.take i)) i) hh hl (fun led i h h' I hI x k => setOf_keep x fun o e => k _ _ (Nat.ne_of_lt hI) e) (fun led h' x e => ?_) (fun led => adds_scan hk nd hz) fun led h' tk x e => h _ _ _ (setOf_is x) e
  exact setOf_congr ((PyProof.Rows.setObjOf_fresh (knd := knd) led).setOf e (by unfold scanBound; omega)) (fun k => by simp) rfl
end
theorem len_setX {prog : Program} {w : World} {A : Around} {E : Value → Shared → Prop} {s : Shared} {S : Addr} {n : Nat} {Q : Value → Shared → Prop} (hS : SetIs s.heap S n) (hn : n < 1000)
    (h : Q (.int n (s.toks + 1)) { s with toks := s.toks + 1 + 1 }) : wpAny (model prog w) A (call (.builtin "len") [.ref S]) Q E s := by
  obtain ⟨o, es, ep, t, ho, he, hd, hf, rfl⟩ := hS
  exact call_len_set ho he hd hf (by omega) h
end
section
/-- the hash of an atom among doubles -/
def dh : Atom → Int
  | none => 4238894112
  | some .a => -1950498447580522560
  | some .b => 8389048192121911274
  | some .c => 9083154820904886697
  | some .d => -7580621630451799004
theorem dh_none : noneHash = dh none := rfl
theorem dh_some : ∀ c : Four, reduceHash (Builtin.Tuple.tupleHashOf [hashInt (num c), hashInt 1]) = dh (some c) := by
  intro c
  cases c <;> decide +kernel
def goodT (x : Array Int × SetTable) : Bool := x.2.fits x.1.size && !x.2.gaveWay && x.2.plain
/-- one more hash in a table, where no stored one equals it -/
def hstep (x : Array Int × SetTable) (h : Int) : Option (Array Int × SetTable) :=
  match x.2.probe (fun i => (x.1[i]?).getD 0) h (x.2.probeStart h) with
  | some (.empty j none) =>
    let t' := (x.2.put j).1
    let hs' := SetTable.insertAt x.1 (x.2.put j).2 h
    if goodT (hs', t') then
      if t'.tooFull then
        match t'.relaid hs' (SetTable.grown hs'.size) with
        | some (t2, order) => if goodT (order.filterMap (hs'[·]?), t2) && (order.filterMap (hs'[·]?)).size == hs'.size && !(SetTable.sizeAbove (SetTable.grown hs'.size) > 1000) then some (order.filterMap (hs'[·]?), t2) else none
        | none => none
      else some (hs', t')
    else none
  | _ => none
def lay (led : Bool) : List Atom → Option (Array Int × SetTable)
  | l => l.foldl (fun x a => x.bind fun x => hstep x (dh a)) (some (#[], .fresh 0 0 led))
def nds : Nat → List (List Atom)
  | 0 => [[]]
  | n + 1 => (nds n).flatMap fun l => ([none, some .a, some .b, some .c, some .d].filter fun a => decide (a ∉ l)).map fun a => a :: l
theorem mem_nds : ∀ (n : Nat) (l : List Atom), l.length = n → l.Nodup → l ∈ nds n
  | 0, [], _, _ => List.Mem.head _
  | n + 1, a :: l, h, nd => by
    rw [List.nodup_cons] at nd
    refine List.mem_flatMap.mpr ⟨l, mem_nds n l (by simpa using h) nd.2, List.mem_map.mpr ⟨a, List.mem_filter.mpr ⟨?_, by simpa using nd.1⟩, rfl⟩⟩
    rcases a with _ | a
    · simp
    · cases a <;> simp
theorem lay_all : ∀ n ∈ [0, 1, 2, 3, 4, 5], ((nds n).all fun l => (lay true l).isSome && (lay false l).isSome) = true := by decide +kernel
theorem long_no : nds 6 = [] := by decide +kernel
theorem nodup_le {l : List Atom} (h : l.Nodup) : l.length ≤ 5 := by
  false_or_by_contra
  rename_i q
  have m := mem_nds 6 (l.take 6) (by rw [List.length_take]; omega) (List.Sublist.nodup (List.take_sublist 6 l) h)
  rw [long_no] at m
  cases m
theorem lay_some {l : List Atom} (h : l.Nodup) (led : Bool) : ∃ x, lay led l = some x := by
  have m := mem_nds l.length l rfl h
  have hl := nodup_le h
  have := List.all_eq_true.mp (lay_all l.length (by
    have : l.length = 0 ∨ l.length = 1 ∨ l.length = 2 ∨ l.length = 3 ∨ l.length = 4 ∨ l.length = 5 := by omega
    rcases this with e | e | e | e | e | e <;> rw [e] <;> simp)) _ m
  simp only [Bool.and_eq_true] at this
  cases led
  · exact Option.isSome_iff_exists.mp this.2
  · exact Option.isSome_iff_exists.mp this.1
theorem lay_snoc (led : Bool) (l : List Atom) (a : Atom) : lay led (l ++ [a]) = (lay led l).bind fun x => hstep x (dh a) := by
  unfold lay
  rw [List.foldl_append]
  rfl
end
section
theorem map_insertAt {α β : Type} (f : α → β) (xs : Array α) (p : Nat) (x : α) : (SetTable.insertAt xs p x).map f = SetTable.insertAt (xs.map f) p (f x) := by
  apply Array.toList_inj.mp
  rw [Array.toList_map, SetTable.toList_insertAt, SetTable.toList_insertAt]
  simp
theorem map_order {α β : Type} (f : α → β) (xs : Array α) (order : Array Nat) : (order.filterMap (xs[·]?)).map f = order.filterMap ((xs.map f)[·]?) := by
  apply Array.toList_inj.mp
  simp only [Array.toList_map, Array.toList_filterMap, List.map_filterMap]
  congr 1
  funext k
  simp
theorem mem_insertAt {α : Type} {xs : Array α} {p : Nat} {x y : α} (h : y ∈ (SetTable.insertAt xs p x).toList) : y ∈ xs.toList ∨ y = x := by
  have := (SetTable.insertAt_perm xs p x).mem_iff.mp h
  simpa using this
section
variable {prog : Program} {w : World} {A : Around} {E : Value → Shared → Prop} {s : Shared}
theorem hash_tup {a : Addr} {n m : Int} {t u : Tok} {Q : Bool → Shared → Prop} (h : IsTup s.heap a #[.int n t, .int m u]) (hQ : Q true s) : wpAny (model prog w) A (hashByValue 8 (.ref a)) Q E s := by
  obtain ⟨o, ho, hc, k, hd⟩ := h
  have hT : s.TypeIs (.ref a) "tuple" := ⟨o, ho, hc⟩
  unfold hashByValue
  refine wpAny_bind (wpAny_specialOf hT F.slot_tuple_hash.lookup ?_)
  dsimp only
  refine wpAny_bind (wpAny_seqItems ho hd ?_)
  have e1 : hashByValue 7 (.int n t) = pure true := hashByValue_scannable 7 rfl
  have e2 : hashByValue 7 (.int m u) = pure true := hashByValue_scannable 7 rfl
  simp only [Option.getD_some]
  rw [← Array.forIn_toList]
  simp only [List.forIn_cons, List.forIn_nil, e1, e2, pure_bind, Bool.not_true, Bool.false_eq_true, if_false]
  exact wpAny_pure hQ
theorem store_setX {a : Addr} {o : Obj} {es : Array (Int × Value)} {ep : Nat} {t : SetTable} {es' : Array (Int × Value)} {t' : SetTable} {Q : Unit → Shared → Prop}
    (ho : s.heap.get? a = some o) (hex : o.ExactSet) (hd : o.data = .set es ep t) (hz : es'.size ≤ 1000)
    (h : ∀ h' o', Heap.SameBut a s.heap h' → h'.get? a = some o' → o'.ExactSet → o'.data = .set es' (ep + 1) t' → Q () { s with heap := h' }) : wpAny (model prog w) A (storeSet a es' t') Q E s := by
  refine wpAny_storeSet_of ho hd ?_ (by rw [sizeLine_eq]; omega)
  have hg : (s.heap.update a (Obj.putSet es' t')).get? a = some { o with data := .set es' (ep + 1) t' } := by
    have := Heap.get?_update_self (Obj.putSet es' t') ho (by rw [putSet_of es' t' hd]; rfl)
    rw [putSet_of es' t' hd] at this; exact this
  exact h _ _ (Heap.SameBut.update s.heap a _) hg hex rfl
/-- the add of an item that is no scan's: its hash meets none -/
theorem add_table {S : Addr} {x : Value} {hx : Int} {o : Obj} {es : Array (Int × Value)} {ep : Nat} {t : SetTable} {y : Array Int × SetTable} {Q : Bool → Shared → Prop}
    (ho : s.heap.get? S = some o) (hex : o.ExactSet) (hd : o.data = .set es ep t) (hg : goodT (es.map (·.1), t) = true) (hst : hstep (es.map (·.1), t) hx = some y) (hns : byScan x es = false) (hz : es.size ≤ 100)
    (hbv : ∀ s' : Shared, Heap.SameBut S s.heap s'.heap → ∀ Q' : Bool → Shared → Prop, Q' true s' → wpAny (model prog w) A (hashByValue 8 x) Q' E s')
    (h : ∀ h' o' es' ep' t', Heap.SameBut S s.heap h' → h'.get? S = some o' → o'.ExactSet → o'.data = .set es' ep' t' → (es'.map (·.1), t') = y → es'.size = es.size + 1 → (∀ e ∈ es'.toList, e ∈ es.toList ∨ e = (hx, x)) → goodT y = true → Q true { s with heap := h' }) :
    wpAny (model prog w) A (setAddHashed S x hx) Q E s := by
  simp only [goodT, Bool.and_eq_true, Bool.not_eq_true', Array.size_map] at hg
  obtain ⟨⟨hf, hgw⟩, hpl⟩ := hg
  unfold hstep at hst
  split at hst
  case h_2 => cases hst
  case h_1 j hpr =>
  dsimp only at hpr hst
  unfold setAddHashed setAddHashedIn
  refine wpAny_holding (wpAny_bind (wpAny_setState_of ho hd hf ?_))
  dsimp only
  rw [hns]
  simp only [Bool.false_eq_true, if_false]
  unfold setSearch setSearchFrom
  refine wpAny_bind ?_
  refine wpAny_bind (wpAny_setState_of ho hd hf ?_)
  dsimp only
  rw [hgw]
  simp only [Bool.false_eq_true, if_false, Option.getD_none]
  have hpr' : t.probe (fun i => (es[i]?.map (·.1)).getD 0) hx (t.probeStart hx) = some (.empty j none) := by
    rw [← hpr]
    congr 1
    funext i
    rw [Array.getElem?_map]
  generalize hpb : t.probe _ hx (t.probeStart hx) = pr
  obtain rfl : pr = some (.empty j none) := hpb.symm.trans hpr'
  dsimp only
  refine wpAny_pure ?_
  dsimp only
  refine wpAny_bind (wpAny_setState_of ho hd hf ?_)
  dsimp only
  have hpl' : (t.put j).1.plain = t.plain := rfl
  split at hst
  case isFalse => cases hst
  case isTrue hg2 =>
  rw [← map_insertAt (fun e : Int × Value => e.1) es (t.put j).2 (hx, x)] at hst hg2
  simp only [goodT, Bool.and_eq_true, Bool.not_eq_true', Array.size_map] at hg2
  obtain ⟨⟨hf2, hgw2⟩, hpl2⟩ := hg2
  have hz2 : (SetTable.insertAt es (t.put j).2 (hx, x)).size = es.size + 1 := by
    rw [← Array.length_toList, (SetTable.insertAt_perm es _ _).length_eq, Array.toList_push, List.length_append, Array.length_toList]; rfl
  rw [if_pos hpl2]
  refine wpAny_bind (hbv s (Heap.SameBut.refl S s.heap) _ ?_)
  simp only [if_true]
  refine wpAny_bind (store_setX ho hex hd (by omega) fun h1 o1 sb1 ho1 hex1 hd1 => ?_)
  have mem1 : ∀ e ∈ (SetTable.insertAt es (t.put j).2 (hx, x)).toList, e ∈ es.toList ∨ e = (hx, x) := fun e he => mem_insertAt he
  by_cases hfull : (t.put j).1.tooFull = true
  · rw [if_pos hfull] at hst
    rw [if_pos (by rw [hfull]; rfl)]
    simp only [Array.size_map] at hst
    rw [hz2] at hst
    split at hst
    case h_2 => cases hst
    case h_1 t2 order hre =>
    split at hst
    case isFalse => cases hst
    case isTrue hg3 =>
    cases hst
    rw [← map_order (fun e : Int × Value => e.1)] at hg3 h
    simp only [goodT, Bool.and_eq_true, Bool.not_eq_true', Array.size_map, beq_iff_eq, decide_eq_false_iff_not] at hg3
    obtain ⟨⟨⟨⟨hf3, hgw3⟩, hpl3⟩, hz3⟩, hz4⟩ := hg3
    refine wpAny_bind ?_
    unfold setRelay
    refine wpAny_bind (wpAny_setState_of ho1 hd1 hf2 ?_)
    dsimp only
    rw [if_neg (by rw [sizeLine_eq]; omega)]
    refine wpAny_bind ?_
    rw [hre]
    show wpAny _ _ (if ((order.filterMap ((SetTable.insertAt es (t.put j).2 (hx, x))[·]?)).size != (SetTable.insertAt es (t.put j).2 (hx, x)).size) = true then _ else _) _ _ _
    rw [if_neg (by simp only [bne_iff_ne, ne_eq, Decidable.not_not]; rw [hz3, hz2])]
    refine wpAny_pure ?_
    refine store_setX ho1 hex1 hd1 (by rw [hz3]; omega) fun h2 o2 sb2 ho2 hex2 hd2 => ?_
    refine wpAny_pure (h h2 o2 _ _ _ (sb1.trans sb2) ho2 hex2 hd2 rfl hz3 (fun e he => ?_) (by simp only [goodT, Array.size_map, hf3, hgw3, hpl3]; rfl))
    rw [Array.toList_filterMap] at he
    obtain ⟨k, _, hk⟩ := List.mem_filterMap.mp he
    exact mem1 e (by rw [← Array.getElem?_toList] at hk; exact List.mem_of_getElem? hk)
  · rw [if_neg hfull] at hst
    cases hst
    rw [if_neg (by simpa using hfull)]
    refine wpAny_pure ?_
    exact h h1 o1 _ _ _ sb1 ho1 hex1 hd1 rfl hz2 mem1 (by simp only [goodT, Array.size_map, hf2, hgw2, hpl2]; rfl)
end
def tN (led : Bool) : SetTable := { mask := 7, place := #[0], dummies := #[], finger := 0, led := led, moves := 0, plain := true }
/-- the state of a set of doubles while they are added -/
def SD (S : Addr) (led : Bool) (items : Array Value) (atoms : List Atom) (i : Nat) (h : Heap) : Prop := ∃ o es ep t, h.get? S = some o ∧ o.ExactSet ∧ o.data = .set es ep t ∧ lay led (atoms.take i) = some (es.map (·.1), t) ∧ goodT (es.map (·.1), t) = true ∧ es.size = i ∧ ∀ e ∈ es.toList, ∃ j, j < i ∧ items[j]? = some e.2
section
variable {prog : Program} {w : World} {A : Around}
theorem not_scan {es : Array (Int × Value)} {x : Value} {e : Int × Value} (he : e ∈ es.toList) (hn : e.2.scannable = false) : byScan x es = false := by
  have : es.all (fun e => e.2.scannable) = false := by
    rw [← Array.all_toList, List.all_eq_false]
    exact ⟨e, he, by simp [hn]⟩
  simp [byScan, this]
theorem adds_dbl {S : Addr} {items : Array Value} {atoms : List Atom} (nd : atoms.Nodup) (hl : items.size = atoms.length) (hu : A.units < cLine) (hS : RefsIn (· < S) items.toList) :
    ∀ led, Adds prog w A S (fun i v => items[i]? = some v) (fun i h => Atoms h .dbl items.toList atoms ∧ SD S led items atoms i h) items.size := by
  intro led i v s Q E hi hv hSS hQ
  obtain ⟨hA, o, es, ep, t, ho, hex, hd, hlay, hgood, hsz, hmem⟩ := hSS
  obtain ⟨x, hx⟩ : ∃ x, atoms[i]? = some x := ⟨_, List.getElem?_eq_getElem (by omega)⟩
  have AV := hA.2 i v x (by rw [Array.getElem?_toList]; exact hv) hx
  have hl5 := nodup_le nd
  have hsnoc : lay led (atoms.take (i + 1)) = hstep (es.map (·.1), t) (dh x) := by
    rw [List.take_add_one, hx, Option.toList_some, lay_snoc, hlay]; rfl
  obtain ⟨y, hy⟩ := lay_some (List.Sublist.nodup (List.take_sublist (i + 1) atoms) nd) led
  have hst := hsnoc.symm.trans hy
  have stay : ∀ h', Heap.SameBut S s.heap h' → Atoms h' .dbl items.toList atoms := fun h' sb => ⟨hA.1, fun j u z hu hz => (hA.2 j u z hu hz).stay fun a o e g => (sb.2 a (Nat.ne_of_lt (hS u (List.mem_of_getElem? hu) a e))).trans g⟩
  have fin : ∀ (tk : Nat) h' o' es' ep' t', s.toks ≤ tk → Heap.SameBut S s.heap h' → h'.get? S = some o' → o'.ExactSet → o'.data = .set es' ep' t' → (es'.map (·.1), t') = y → es'.size = es.size + 1 → (∀ e ∈ es'.toList, e ∈ es.toList ∨ e = (dh x, v)) → goodT y = true → Q true { s with heap := h', toks := tk } := by
    intro tk h' o' es' ep' t' htk sb ho' hex' hd' he hz hm hg
    refine hQ _ h' tk htk sb ⟨stay h' sb, o', es', ep', t', ho', hex', hd', by rw [hy, he], by rw [he]; exact hg, by omega, fun e he' => ?_⟩
    rcases hm e he' with q | rfl
    · obtain ⟨j, hj, e'⟩ := hmem e q
      exact ⟨j, by omega, e'⟩
    · exact ⟨i, by omega, hv⟩
  unfold setAdd
  refine wpAny_holding ?_
  cases x with
  | some c =>
    obtain ⟨a, t1, t2, rfl, hT⟩ := AV
    have haS : a < S := hS _ (by rw [← Array.getElem?_toList] at hv; exact List.mem_of_getElem? hv) a rfl
    have hK : IsTupleKey (intKind prog w) s.heap [num c, 1] a := by
      obtain ⟨o, ho, hc, n, hd⟩ := hT
      exact ⟨o, _, n, ho, hc, hd, .cons (intKind_is _ _ _ _) (.cons (intKind_is _ _ _ _) .nil)⟩
    refine wpAny_bind (wpAny_pyHash_tuple hu hK ?_)
    rw [show tupleKeyHash (intKind prog w) [num c, 1] = dh (some c) from dh_some c]
    refine add_table (s := { s with toks := s.toks + _ }) ho hex hd hgood hst rfl (by omega) (fun s' sb Q' hq => hash_tup (s := s') (hT.extBut (fun b o hb e => (sb.2 b hb).trans e) (Nat.ne_of_lt haS)) hq) ?_
    intro h' o' es' ep' t' sb ho' hex' hd' he hz hm hg
    exact fin _ h' o' es' ep' t' (Nat.le_add_right _ _) sb ho' hex' hd' he hz hm hg
  | none =>
    obtain rfl := AV
    refine wpAny_bind (pyHash_none ?_)
    rw [dh_none]
    by_cases h0 : i = 0
    · subst h0
      obtain rfl : es = #[] := Array.size_eq_zero_iff.mp hsz
      have ht : some ((#[] : Array Int), SetTable.fresh 0 0 led) = some (Array.map (fun e : Int × Value => e.1) #[], t) := by
        rw [List.take_zero] at hlay
        exact hlay
      obtain rfl : SetTable.fresh 0 0 led = t := congrArg Prod.snd (Option.some.inj ht)
      obtain rfl : y = (#[dh none], tN led) := by
        have e : hstep (Array.map (fun e : Int × Value => e.1) #[], .fresh 0 0 led) (dh none) = some (#[dh none], tN led) := by
          rw [Array.map_empty]
          cases led <;> decide +kernel
        exact Option.some.inj (hst.symm.trans e)
      have hL : layNew (SetTable.fresh 0 0 led) #[] (dh none) Value.none = (#[(dh none, Value.none)], tN led, false, false) := by cases led <;> kernel_rfl
      have hf : (SetTable.fresh 0 0 led).fits (#[] : Array (Int × Value)).size = true := rfl
      unfold setAddHashed setAddHashedIn
      refine wpAny_holding (wpAny_bind (wpAny_setState_of ho hd hf ?_))
      dsimp only
      rw [if_pos (show byScan .none #[] = true by simp [byScan, Value.scannable, scanBound])]
      unfold setAddByScan
      refine wpAny_bind ?_
      refine wpAny_bind (wpAny_rule ?_)
      refine wpAny_bind ?_
      show wpAny _ _ (setScanFrom S .none (dh none) true [] 0) _ _ _
      unfold setScanFrom
      refine wpAny_pure ?_
      dsimp only
      rw [hL]
      dsimp only
      refine wpAny_bind (wpAny_pure ?_)
      rw [if_pos (show (tN led).plain = true from rfl)]
      refine wpAny_bind ?_
      rw [hashByValue_scannable 8 (x := .none) rfl]
      refine wpAny_pure ?_
      simp only [show plainKind .none = true from rfl, if_true]
      refine wpAny_bind (store_setX ho hex hd (by decide) fun h1 o1 sb1 ho1 hex1 hd1 => ?_)
      rw [if_neg (by cases led <;> decide)]
      refine wpAny_pure ?_
      dsimp only
      refine wpAny_pure ?_
      refine fin _ h1 o1 _ _ _ (Nat.le_succ _) sb1 ho1 hex1 hd1 ?_ rfl (fun e he => .inr (by simpa using he)) (by cases led <;> rfl)
      simp
    · obtain ⟨e, he⟩ : ∃ e, e ∈ es.toList := by
        cases q : es.toList with
        | nil => rw [← Array.length_toList, q] at hsz; exact absurd hsz.symm h0
        | cons e r => exact ⟨e, List.Mem.head _⟩
      obtain ⟨j, hj, hje⟩ := hmem e he
      obtain ⟨z, hz⟩ : ∃ z, atoms[j]? = some z := ⟨_, List.getElem?_eq_getElem (by omega)⟩
      have hzn : z ≠ none := fun q => by
        subst q
        obtain ⟨h1, e1⟩ := List.getElem?_eq_some_iff.mp hz
        obtain ⟨h2, e2⟩ := List.getElem?_eq_some_iff.mp hx
        have := (List.getElem_inj (h₀ := h1) (h₁ := h2) nd).mp (e1.trans e2.symm)
        omega
      have hns : byScan .none es = false := by
        refine not_scan he ?_
        have AV := hA.2 j e.2 z (by rw [Array.getElem?_toList]; exact hje) hz
        cases z with
        | none => exact absurd rfl hzn
        | some c => obtain ⟨a, _, _, e2, _⟩ := AV; rw [e2]; rfl
      refine add_table (s := { s with toks := s.toks + _ }) ho hex hd hgood hst hns (by omega) (fun s' sb Q' hq => by rw [hashByValue_scannable 8 rfl]; exact wpAny_pure hq) ?_
      intro h' o' es' ep' t' sb ho' hex' hd' he hz hm hg
      exact fin _ h' o' es' ep' t' (Nat.le_add_right _ _) sb ho' hex' hd' he hz hm hg
end
end
section
theorem map_inj_nodup {α β : Type} {f : α → β} (hf : ∀ a b, f a = f b → a = b) : ∀ {l : List α}, l.Nodup → (l.map f).Nodup
  | [], _ => List.nodup_nil
  | a :: l, h => by
    rw [List.nodup_cons] at h
    rw [List.map_cons, List.nodup_cons]
    refine ⟨fun q => ?_, map_inj_nodup hf h.2⟩
    obtain ⟨b, hb, e⟩ := List.mem_map.mp q
    exact h.1 (hf _ _ e ▸ hb)
theorem num_inj : ∀ a b : Atom, a.map num = b.map num → a = b := by
  intro a b
  rcases a with _ | a <;> rcases b with _ | b <;> (try cases a) <;> (try cases b) <;> first | (intro _; rfl) | (intro e; revert e; decide)
theorem txt_inj : ∀ a b : Atom, a.map txt = b.map txt → a = b := by
  intro a b
  rcases a with _ | a <;> rcases b with _ | b <;> (try cases a) <;> (try cases b) <;> first | (intro _; rfl) | (intro e; revert e; decide +kernel)
section
variable {prog : Program} {w : World} {A : Around} {E : Value → Shared → Prop} {s : Shared}
theorem set_atoms {kd : Kind} {l : Addr} {vs : List Value} {xs : List Atom} {Q : Value → Shared → Prop} (hh : A.handled = none) (hu : A.units + 4 < cLine) (hl : s.heap.IsList l vs.toArray) (AT : Atoms s.heap kd vs xs) (nd : xs.Nodup)
    (h : ∀ S h' tk, SetIs h' S xs.length → Ext s.heap h' → Q (.ref S) { s with heap := h', toks := tk }) : wpAny (model prog w) A (call (.type "set") [.ref l]) Q E s := by
  have hz : vs.toArray.size = xs.length := by simp [AT.1]
  have h5 := nodup_le nd
  have at' : ∀ (i : Nat) (v : Value), vs.toArray[i]? = some v → ∃ x, xs[i]? = some x ∧ AtomV s.heap kd v x := fun i v hv => by
    have hv' : vs[i]? = some v := by simpa using hv
    obtain ⟨x, hx⟩ : ∃ x, xs[i]? = some x := ⟨_, List.getElem?_eq_getElem (by rw [← AT.1]; exact (List.getElem?_eq_some_iff.mp hv').1)⟩
    exact ⟨x, hx, AT.2 i v x hv' hx⟩
  rw [← hz] at h
  have viaI : (∀ (i : Nat) (v : Value), vs.toArray[i]? = some v → ∃ x : Atom, xs[i]? = some x ∧ (match x with | none => v = .none | some c => ∃ t, v = .int (num c) t)) → wpAny (model prog w) A (call (.type "set") [.ref l]) Q E s := fun hI => by
    refine set_scan (knd := oInt prog w) (keys := xs.map (Option.map num)) hh hl (fun i v hv => ?_) (map_inj_nodup num_inj nd) (by omega) h
    obtain ⟨x, hx, q⟩ := hI i v hv
    refine ⟨x.map num, by rw [List.getElem?_map, hx]; rfl, ?_⟩
    cases x with
    | none => cases q; exact ⟨rfl, rfl⟩
    | some c => obtain ⟨t, rfl⟩ := q; exact ⟨intKind_is prog w (num c) t, rfl⟩
  cases kd with
  | lgl =>
    refine viaI fun i v hv => ?_
    obtain ⟨x, hx, q⟩ := at' i v hv
    refine ⟨x, hx, ?_⟩
    cases x
    · exact q
    · exact q
  | int =>
    refine viaI fun i v hv => ?_
    obtain ⟨x, hx, q⟩ := at' i v hv
    refine ⟨x, hx, ?_⟩
    cases x
    · exact q
    · exact q
  | chr =>
    refine set_scan (knd := oStr prog w) (keys := xs.map (Option.map txt)) hh hl (fun i v hv => ?_) (map_inj_nodup txt_inj nd) (by omega) h
    obtain ⟨x, hx, q⟩ := at' i v hv
    refine ⟨x.map txt, by rw [List.getElem?_map, hx]; rfl, ?_⟩
    cases x with
    | none => cases q; exact ⟨rfl, rfl⟩
    | some c => obtain ⟨t, rfl⟩ := q; exact ⟨strKind_is prog w (txt c) t, rfl⟩
  | dbl =>
    have hR : RefsIn (· < s.heap.objs.size) vs.toArray.toList := fun v hv b e => by
      obtain ⟨i, hi⟩ := List.getElem?_of_mem hv
      obtain ⟨x, hx, q⟩ := at' i v (by simpa using hi)
      cases x with
      | none => subst e; cases q
      | some c =>
        obtain ⟨a, _, _, e', o, ho, _⟩ := q
        subst e
        cases e'
        exact Heap.lt_size ho
    have AT' : Atoms s.heap .dbl vs.toArray.toList xs := by simpa using AT
    refine call_set_listG (fun led i h => Atoms h .dbl vs.toArray.toList xs ∧ SD s.heap.objs.size led vs.toArray xs i h) hh hl (fun led i h h' I hI x k => ⟨⟨x.1.1, fun j u z hu hz => (x.1.2 j u z hu hz).stay fun a o e g => k a o (Nat.ne_of_lt (Nat.lt_trans (hR u (List.mem_of_getElem? hu) a e) hI)) g⟩, ?_⟩) (fun led h' x e => ⟨AT'.ext x, ?_⟩) (fun led => adds_dbl nd hz (by show A.units + 1 + 1 + 1 < cLine; omega) hR led) fun led h' tk x e => ?_
    · obtain ⟨o, es, ep, t, ho, r⟩ := x.2
      exact ⟨o, es, ep, t, k _ o (Nat.ne_of_lt hI) ho, r⟩
    · exact ⟨_, #[], 0, _, e, ⟨rfl, rfl, rfl⟩, rfl, by simp [lay], by rw [Array.map_empty]; cases led <;> rfl, rfl, fun e he => by simp at he⟩
    · obtain ⟨_, o, es, ep, t, ho, hex, hd, hlay, hg, hsz, _⟩ := x
      simp only [goodT, Bool.and_eq_true, Array.size_map] at hg
      exact h _ _ _ ⟨o, es, ep, t, ho, hex, hd, hg.1.1, hsz⟩ e
end
end
section
theorem execs_append (env : Env) : ∀ (l₁ l₂ : List Stmt), execs (l₁ ++ l₂) env = execs l₁ env >>= fun f => match f with | .next => execs l₂ env | f => pure f
  | [], l₂ => by rw [List.nil_append, execs_nil, pure_bind]
  | a :: l₁, l₂ => by
    rw [List.cons_append, execs_cons, execs_cons, bind_assoc]
    congr 1
    funext f
    cases f with
    | next => exact execs_append env l₁ l₂
    | _ => rw [pure_bind]
theorem cut6 {M : Model} {A : Around} {E : Value → Shared → Prop} {s : Shared} {env : Env} {a b c d e f : Stmt} {l : List Stmt} {Q : Flow → Shared → Prop} (J : Shared → Prop) (h1 : wpAny M A (execs [a, b, c, d, e, f] env) (fun fl s' => fl = .next ∧ J s') (fun _ _ => False) s)
    (h2 : ∀ s', J s' → wpAny M A (execs l env) Q E s') : wpAny M A (execs (a :: b :: c :: d :: e :: f :: l) env) Q E s := by
  rw [show a :: b :: c :: d :: e :: f :: l = [a, b, c, d, e, f] ++ l from rfl, execs_append]
  refine wpAny_bind (wpAny_mono h1 (fun fl s' hq => ?_) fun _ _ e => e.elim)
  obtain ⟨rfl, hJ⟩ := hq
  exact h2 s' hJ
/-- the vectors that stand, clear of the objects in bad -/
def FactsAt (bad : List Addr) (h : Heap) (l : List (Value × Kind × List Atom)) : Prop := ∀ p ∈ l, VecB (· ∉ bad) h p.1 p.2.1 p.2.2
theorem VecB.kb {B : Addr → Prop} {mx : List Addr} {h h' : Heap} {v : Value} {kd : Kind} {xs : List Atom} (V : VecB B h v kd xs) (k : KeepBut mx h h') (hb : ∀ b, B b → b ∉ mx) : VecB B h' v kd xs := by
  obtain ⟨a, d, es, n, l, vs, r, x, y, z, ba, bd, bl, br⟩ := V
  obtain ⟨o, ho, r'⟩ := y
  exact ⟨a, d, es, n, l, vs, r, ⟨k _ _ (hb _ ba) x.inst, k _ _ (hb _ bd) x.dict, x.ents⟩, ⟨o, k _ _ (hb _ bl) ho, r'⟩, ⟨z.1, fun i v x hv hx => (z.2 i v x hv hx).stay fun a o e g => k _ _ (hb _ (br v (List.mem_of_getElem? hv) a e)) g⟩, ba, bd, bl, br⟩
theorem FactsAt.kb {bad mx : List Addr} {h h' : Heap} {l : List (Value × Kind × List Atom)} (S : FactsAt bad h l) (k : KeepBut mx h h') (hb : ∀ b ∈ mx, b ∈ bad) : FactsAt bad h' l := fun p hp => (S p hp).kb k fun b q m => q (hb b m)
theorem FactsAt.ext {bad : List Addr} {h h' : Heap} {l : List (Value × Kind × List Atom)} (S : FactsAt bad h l) (x : Ext h h') : FactsAt bad h' l := fun p hp => (S p hp).ext x
theorem FactsAt.nil {bad : List Addr} {h : Heap} : FactsAt bad h [] := fun p hp => by cases hp
theorem FactsAt.cons {bad : List Addr} {h : Heap} {l : List (Value × Kind × List Atom)} {v : Value} {kd : Kind} {xs : List Atom} (S : FactsAt bad h l) (V : VecB (· ∉ bad) h v kd xs) : FactsAt bad h ((v, kd, xs) :: l) := fun p hp => by
  rcases List.mem_cons.mp hp with rfl | hp
  · exact V
  · exact S p hp
theorem NoDB.kb {B : Addr → Prop} {mx : List Addr} {h h' : Heap} {v : Value} (V : NoDB B h v) (k : KeepBut mx h h') (hb : ∀ b, B b → b ∉ mx) : NoDB B h' v := by
  obtain ⟨a, d, es, n, kk, l, c, vs, r, x, y, ba, bd, bl⟩ := V
  exact ⟨a, d, es, n, kk, l, c, vs, r, ⟨k _ _ (hb _ ba) x.inst, k _ _ (hb _ bd) x.dict, x.ents⟩, k _ _ (hb _ bl) y, ba, bd, bl⟩
def FactsN (bad : List Addr) (h : Heap) (l : List (Value × Kind × List Atom)) : Prop := ∀ p ∈ l, VecN (· ∉ bad) h p.1 p.2.1 p.2.2
theorem FactsN.kb {bad mx : List Addr} {h h' : Heap} {l : List (Value × Kind × List Atom)} (S : FactsN bad h l) (k : KeepBut mx h h') (hb : ∀ b ∈ mx, b ∈ bad) : FactsN bad h' l := fun p hp => ⟨(S p hp).1.kb k fun b q m => q (hb b m), (S p hp).2.kb k fun b q m => q (hb b m)⟩
theorem FactsN.ext {bad : List Addr} {h h' : Heap} {l : List (Value × Kind × List Atom)} (S : FactsN bad h l) (x : Ext h h') : FactsN bad h' l := fun p hp => ⟨(S p hp).1.ext x, (S p hp).2.ext x⟩
theorem FactsN.nil {bad : List Addr} {h : Heap} : FactsN bad h [] := fun p hp => by cases hp
theorem FactsN.cons {bad : List Addr} {h : Heap} {l : List (Value × Kind × List Atom)} {v : Value} {kd : Kind} {xs : List Atom} (S : FactsN bad h l) (V : VecN (· ∉ bad) h v kd xs) : FactsN bad h ((v, kd, xs) :: l) := fun p hp => by
  rcases List.mem_cons.mp hp with rfl | hp
  · exact V
  · exact S p hp
/-- the vectors that stand, the list of the one of them plain -/
def FactsU (bad : List Addr) (uv : Value) (h : Heap) (l : List (Value × Kind × List Atom)) : Prop := FactsAt bad h l ∧ NoDB (· ∉ bad) h uv
theorem FactsU.kb {bad mx : List Addr} {uv : Value} {h h' : Heap} {l : List (Value × Kind × List Atom)} (S : FactsU bad uv h l) (k : KeepBut mx h h') (hb : ∀ b ∈ mx, b ∈ bad) : FactsU bad uv h' l := ⟨S.1.kb k hb, S.2.kb k fun b q m => q (hb b m)⟩
theorem FactsU.ext {bad : List Addr} {uv : Value} {h h' : Heap} {l : List (Value × Kind × List Atom)} (S : FactsU bad uv h l) (x : Ext h h') : FactsU bad uv h' l := ⟨S.1.ext x, S.2.ext x⟩
theorem FactsU.cons {bad : List Addr} {uv : Value} {h : Heap} {l : List (Value × Kind × List Atom)} {v : Value} {kd : Kind} {xs : List Atom} (S : FactsU bad uv h l) (V : VecB (· ∉ bad) h v kd xs) : FactsU bad uv h ((v, kd, xs) :: l) := ⟨S.1.cons V, S.2⟩
theorem FactsN.toU {bad : List Addr} {uv : Value} {k : Kind} {xs : List Atom} {h : Heap} {l : List (Value × Kind × List Atom)} (S : FactsN bad h l) (hm : (uv, k, xs) ∈ l) : FactsU bad uv h l := ⟨fun p hp => (S p hp).1, (S _ hm).2⟩
theorem alive_ne {h : Heap} {bad : List Addr} (ha : ∀ a ∈ bad, ∃ o, h.get? a = some o) : ∀ b, h.get? b = none → b ∉ bad := fun b e q => by
  obtain ⟨o, ho⟩ := ha b q
  rw [ho] at e; cases e
def snapOf (g : Heap) (L cu : Addr) (h : Heap) : List (Addr × Obj) := (List.range h.objs.size).filterMap fun b => if b = L ∨ b = cu then none else match g.get? b with
  | some _ => none
  | none => (h.get? b).map fun o => (b, o)
theorem mem_snap {g h : Heap} {L cu b : Addr} {o : Obj} : (b, o) ∈ snapOf g L cu h ↔ b ≠ L ∧ b ≠ cu ∧ g.get? b = none ∧ h.get? b = some o := by
  unfold snapOf
  rw [List.mem_filterMap]
  constructor
  · rintro ⟨k, hk, e⟩
    by_cases q : k = L ∨ k = cu
    · rw [if_pos q] at e; cases e
    · rw [if_neg q] at e
      cases hg : g.get? k with
      | some z => rw [hg] at e; cases e
      | none =>
        rw [hg] at e
        cases hh : h.get? k with
        | none => rw [hh] at e; cases e
        | some z =>
          rw [hh] at e
          cases e
          exact ⟨fun e => q (.inl e), fun e => q (.inr e), hg, hh⟩
  · rintro ⟨h1, h2, h3, h4⟩
    refine ⟨b, List.mem_range.mpr (Heap.lt_size h4), ?_⟩
    rw [if_neg (by intro q; rcases q with q | q; exact h1 q; exact h2 q), h3, h4]
    rfl
def Keeps (g : Heap) (L cu : Addr) (ex : List (Addr × Obj)) (h : Heap) : Prop := ∀ h' m' oc', Fr g L h' m' → News g L h' ((cu, oc') :: ex) → KeepBut [L, cu] h h'
inductive Snap (g h : Heap) (L cu : Addr) (oc : Obj) : Prop
  | mk (ex : List (Addr × Obj)) (N : News g L h ((cu, oc) :: ex)) (hex : ∀ p ∈ ex, p.1 ≠ cu) (KP : Keeps g L cu ex h) : Snap g h L cu oc
theorem snap {g h : Heap} {L cu : Addr} {oc : Obj} {m : Str → Option Value} {r : List (Addr × Obj)} (F : Fr g L h m) (N : News g L h ((cu, oc) :: r)) : Snap g h L cu oc := by
  refine ⟨snapOf g L cu h, fun p hp => ?_, fun p hp => ?_, fun h' m' oc' F' N' b o hb e => ?_⟩
  · rcases List.mem_cons.mp hp with rfl | hp
    · exact N _ (List.Mem.head _)
    · obtain ⟨b, o⟩ := p
      obtain ⟨h1, h2, h3, h4⟩ := mem_snap.mp hp
      exact ⟨h4, h1, h3⟩
  · obtain ⟨b, o⟩ := p
    exact (mem_snap.mp hp).2.1
  · simp only [List.mem_cons, List.not_mem_nil, or_false, not_or] at hb
    cases hg : g.get? b with
    | some z =>
      have := F.keep _ _ hg
      rw [e] at this
      cases this
      exact F'.keep _ _ hg
    | none => exact (N' (b, o) (List.Mem.tail _ (mem_snap.mpr ⟨hb.1, hb.2, hg, e⟩))).1
theorem row {w : World} {mg mb} {A : Around} {s : Shared} {g₀ : Heap} {sa sl : Addr} {tm : Tok} {k : Str} (kd : Kind) (C : Cx w mg mb g₀) (x : Ext g₀ s.heap) (RM : Room A 5) (S : Src s.heap sa sl) (n1 : g₀.get? sa = none) (n2 : g₀.get? sl = none) (e : k = kd.str) (hd : kd ≠ .dbl) :
    Turns w A s sa sl 622 [.ref sa, .str k tm] fun r h' => ∃ xs : List Atom, xs.length ≤ 6 ∧ VecN (fun b => s.heap.get? b = none) h' r kd xs := by
  subst e
  intro Q E h
  exact law_row C x RM S n1 n2 hd Q E fun r xs h' tk hl k S' V => h _ _ _ k S' ⟨xs, hl, V⟩
end
section
theorem fm_congr {α β : Type} {f g : α → Option β} : ∀ {l : List α}, (∀ k ∈ l, f k = g k) → l.filterMap f = l.filterMap g
  | [], _ => rfl
  | a :: l, h => by
    rw [List.filterMap_cons, List.filterMap_cons, h a (List.Mem.head _), fm_congr fun k hk => h k (List.Mem.tail _ hk)]
theorem rev_ind {α : Type} {P : List α → Prop} (h0 : P []) (h1 : ∀ l a, P l → P (l ++ [a])) (l : List α) : P l := by
  have : ∀ r : List α, P r.reverse := fun r => by
    induction r with
    | nil => exact h0
    | cons a r ih => rw [List.reverse_cons]; exact h1 _ _ ih
  have q := this l.reverse
  rwa [List.reverse_reverse] at q
theorem uix_append (xs : List Atom) (ys : List Atom) : ∀ n, n ≤ xs.length → uix (xs ++ ys) n = uix xs n
  | 0, _ => by simp [uix]
  | n + 1, h => by
    rw [uix_succ, uix_succ, uix_append xs ys n (by omega)]
    congr 1
    have e : (xs ++ ys)[n]? = xs[n]? := List.getElem?_append_left (by omega)
    obtain ⟨x, hx⟩ : ∃ x, xs[n]? = some x := ⟨_, List.getElem?_eq_getElem (by omega)⟩
    have hm : x ∈ xs := List.mem_of_getElem? hx
    have : isFirst (xs ++ ys) n = isFirst xs n := by
      unfold isFirst
      rw [e, hx]
      simp [List.idxOf_append, hm]
    rw [this]
theorem ded_snoc (xs : List Atom) (x : Atom) : ded (xs ++ [x]) = if x ∈ xs then ded xs else ded xs ++ [x] := by
  have h1 : (uix xs xs.length).filterMap ((xs ++ [x])[·]?) = ded xs := by
    unfold ded
    refine fm_congr fun k hk => ?_
    obtain ⟨j, hj⟩ := List.getElem?_of_mem hk
    exact List.getElem?_append_left (uix_lt hj)
  unfold ded at h1 ⊢
  rw [List.length_append, List.length_singleton, uix_succ, uix_append xs [x] _ (Nat.le_refl _), List.filterMap_append, h1]
  have e : (xs ++ [x])[xs.length]? = some x := by simp
  by_cases hm : x ∈ xs
  · have : isFirst (xs ++ [x]) xs.length = false := by
      unfold isFirst
      rw [e]
      have := List.idxOf_lt_length_of_mem hm
      simp [List.idxOf_append, hm]
      omega
    rw [this, if_pos hm]
    simp
  · have : isFirst (xs ++ [x]) xs.length = true := by
      unfold isFirst
      rw [e]
      simp [List.idxOf_append, hm]
    rw [this, if_neg hm]
    simp
theorem ded_nil : ded [] = [] := rfl
theorem mem_ded {x : Atom} {xs : List Atom} : x ∈ ded xs ↔ x ∈ xs := by
  refine rev_ind (P := fun xs => x ∈ ded xs ↔ x ∈ xs) (by simp [ded_nil]) (fun xs y ih => ?_) xs
  · skip
    rw [ded_snoc]
    by_cases h : y ∈ xs
    · rw [if_pos h, ih, List.mem_append, List.mem_singleton]
      exact ⟨.inl, fun q => q.elim id fun e => e ▸ h⟩
    · rw [if_neg h, List.mem_append, List.mem_append, ih]
theorem ded_nodup (xs : List Atom) : (ded xs).Nodup := by
  refine rev_ind (P := fun xs => (ded xs).Nodup) List.nodup_nil (fun xs y ih => ?_) xs
  · skip
    rw [ded_snoc]
    by_cases h : y ∈ xs
    · rw [if_pos h]; exact ih
    · rw [if_neg h, List.nodup_append]
      refine ⟨ih, by simp, ?_⟩
      intro a ha b hb
      rw [List.mem_singleton.mp hb]
      rintro rfl
      exact h (mem_ded.mp ha)
end
section
theorem ded_append (xs ys : List Atom) : ded (xs ++ ys) = ded xs ++ (ded ys).filter (fun y => decide (y ∉ xs)) := by
  refine rev_ind (P := fun ys => ded (xs ++ ys) = ded xs ++ (ded ys).filter (fun y => decide (y ∉ xs))) ?_ (fun ys y ih => ?_) ys
  · rw [ded_nil, List.append_nil]; simp
  · rw [← List.append_assoc, ded_snoc, ded_snoc, ih]
    by_cases h1 : y ∈ xs
    · rw [if_pos (List.mem_append.mpr (.inl h1))]
      by_cases h2 : y ∈ ys
      · rw [if_pos h2]
      · rw [if_neg h2, List.filter_append]; simp [h1]
    · by_cases h2 : y ∈ ys
      · rw [if_pos h2, if_pos (List.mem_append.mpr (.inr h2))]
      · rw [if_neg h2, if_neg (by simp [h1, h2]), List.filter_append]; simp [h1]
theorem ded_filter (p : Atom → Bool) (xs : List Atom) : ded (xs.filter p) = (ded xs).filter p := by
  refine rev_ind (P := fun xs => ded (xs.filter p) = (ded xs).filter p) (by simp [ded_nil]) (fun xs y ih => ?_) xs
  rw [List.filter_append, ded_snoc]
  by_cases h1 : p y = true
  · have : List.filter p [y] = [y] := by simp [h1]
    rw [this, ded_snoc, ih]
    by_cases h2 : y ∈ xs
    · rw [if_pos h2, if_pos (List.mem_filter.mpr ⟨h2, h1⟩)]
    · rw [if_neg h2, if_neg (fun q => h2 (List.mem_filter.mp q).1), List.filter_append, this]
  · have : List.filter p [y] = [] := by simp [h1]
    rw [this, List.append_nil, ih]
    by_cases h2 : y ∈ xs
    · rw [if_pos h2]
    · rw [if_neg h2, List.filter_append, this, List.append_nil]
theorem ded_nod {xs : List Atom} : xs.Nodup → ded xs = xs := by
  refine rev_ind (P := fun xs => xs.Nodup → ded xs = xs) (fun _ => ded_nil) (fun xs y ih hn => ?_) xs
  rw [List.nodup_append] at hn
  rw [ded_snoc, ih hn.1, if_neg]
  intro h
  exact hn.2.2 y h y (by simp) rfl
theorem ded_ded (xs : List Atom) : ded (ded xs) = ded xs := ded_nod (ded_nodup xs)
def univ : List Atom := [none, some .a, some .b, some .c, some .d]
theorem mem_univ (x : Atom) : x ∈ univ := by rcases x with _ | x <;> (try cases x) <;> decide
theorem univ_nodup : univ.Nodup := by decide
theorem len_ded (xs : List Atom) : (ded xs).length = univ.countP (fun x => decide (x ∈ xs)) := by
  rw [List.countP_eq_length_filter]
  apply List.Perm.length_eq
  rw [List.perm_ext_iff_of_nodup (ded_nodup xs) (univ_nodup.filter _)]
  intro a
  rw [mem_ded, List.mem_filter]
  simp [mem_univ]
theorem countP_two (p q : Atom → Bool) : ∀ l : List Atom, l.countP (fun x => p x || q x) + l.countP (fun x => p x && q x) = l.countP p + l.countP q
  | [] => rfl
  | a :: l => by
    have := countP_two p q l
    simp only [List.countP_cons]
    cases p a <;> cases q a <;> simp <;> omega
theorem law1 (xs ys : List Atom) : (ded (xs ++ ys)).length + (ded (xs.filter (· ∈ ys))).length = (ded xs).length + (ded ys).length := by
  rw [len_ded, len_ded, len_ded, len_ded, ← countP_two (fun x => decide (x ∈ xs)) (fun x => decide (x ∈ ys))]
  congr 1
  · congr 1; funext x; simp
  · congr 1; funext x; simp
theorem law2 (xs ys : List Atom) : (decide (∀ x ∈ ded (ded (xs.filter (fun x => decide (x ∉ ys))) ++ ded (xs.filter (· ∈ ys))), x ∈ xs) && decide (∀ y ∈ xs, y ∈ ded (ded (xs.filter (fun x => decide (x ∉ ys))) ++ ded (xs.filter (· ∈ ys))))) = true := by
  rw [Bool.and_eq_true, decide_eq_true_iff, decide_eq_true_iff]
  simp only [mem_ded, List.mem_append, List.mem_filter, decide_eq_true_iff]
  exact ⟨fun x h => h.elim (·.1) (·.1), fun x h => by by_cases q : x ∈ ys <;> simp [h, q]⟩
theorem law2b (xs ys : List Atom) : ded ((ded (xs.filter (fun x => decide (x ∉ ys)))).filter (· ∈ ys)) = [] := by
  have : (ded (xs.filter (fun x => decide (x ∉ ys)))).filter (· ∈ ys) = [] := by
    rw [List.filter_eq_nil_iff]
    intro x h
    rw [mem_ded, List.mem_filter] at h
    simpa using h.2
  rw [this, ded_nil]
theorem law3 (xs ys zs : List Atom) : (decide (∀ x ∈ ded (xs.filter (· ∈ ded (ys ++ zs))), x ∈ ded (ded (xs.filter (· ∈ ys)) ++ ded (xs.filter (· ∈ zs)))) && decide (∀ y ∈ ded (ded (xs.filter (· ∈ ys)) ++ ded (xs.filter (· ∈ zs))), y ∈ ded (xs.filter (· ∈ ded (ys ++ zs))))) = true := by
  rw [Bool.and_eq_true, decide_eq_true_iff, decide_eq_true_iff]
  simp only [mem_ded, List.mem_append, List.mem_filter, decide_eq_true_iff]
  exact ⟨fun x h => h.2.elim (fun q => .inl ⟨h.1, q⟩) fun q => .inr ⟨h.1, q⟩, fun x h => h.elim (fun q => ⟨q.1, .inl q.2⟩) fun q => ⟨q.1, .inr q.2⟩⟩
theorem law4 (xs ys zs : List Atom) : ded (xs.filter (fun x => decide (x ∉ ded (ys ++ zs)))) = ded ((ded (xs.filter (fun x => decide (x ∉ ys)))).filter (fun x => decide (x ∉ zs))) := by
  rw [← ded_filter, ded_ded, List.filter_filter]
  congr 1
  congr 1
  funext x
  by_cases h1 : x ∈ ys <;> by_cases h2 : x ∈ zs <;> simp [mem_ded, h1, h2]
theorem law5 (xs : List Atom) : ded (xs ++ xs) = ded xs := by
  rw [ded_append]
  have : (ded xs).filter (fun y => decide (y ∉ xs)) = [] := by
    rw [List.filter_eq_nil_iff]
    intro x h
    rw [mem_ded] at h
    simpa using h
  rw [this, List.append_nil]
theorem law5b (xs ys : List Atom) : (ded (xs ++ ys)).take (ded xs).length = ded xs := by
  rw [ded_append, List.take_left]
theorem law6 (xs : List Atom) : (decide (∀ x ∈ xs, x ∈ xs.reverse) && decide (∀ y ∈ xs.reverse, y ∈ xs)) = true := by
  rw [Bool.and_eq_true, decide_eq_true_iff, decide_eq_true_iff]
  simp only [List.mem_reverse]
  exact ⟨fun _ h => h, fun _ h => h⟩
theorem law7 {xs : List Atom} {i : Nat} {x : Atom} (hx : xs[i]? = some x) (hc : xs.count x = 1) : (decide (∀ y ∈ xs, y ∈ xs.take i ++ xs.drop (i + 1)) && decide (∀ y ∈ xs.take i ++ xs.drop (i + 1), y ∈ xs)) = false := by
  rw [Bool.and_eq_false_iff]
  left
  rw [decide_eq_false_iff_not]
  intro h
  have h1 := h x (List.mem_of_getElem? hx)
  obtain ⟨hi, e⟩ := List.getElem?_eq_some_iff.mp hx
  have e1 : xs = xs.take i ++ xs[i] :: xs.drop (i + 1) := by simp
  rw [e1, List.count_append, List.count_cons, e] at hc
  simp only [beq_self_eq_true, if_true] at hc
  rcases List.mem_append.mp h1 with h2 | h2
  · have := List.count_pos_iff.mpr h2; omega
  · have := List.count_pos_iff.mpr h2; omega
end
section
theorem fr_nm {g h : Heap} {L : Addr} {m : Str → Option Value} (F : Fr g L h m) : ∃ m', m' = m ∧ Fr g L h m' := ⟨m, rfl, F⟩
theorem upd2 (x : Str) (v u : Option Value) (base : Str → Option Value) : (fun y => if y = x then v else (fun z => if z = x then u else base z) y) = fun z => if z = x then v else base z := funext fun y => by by_cases h : y = x <;> simp [h]
theorem unit4 {env : Env} : (callerA.deeper env).units + 4 < cLine := by show callerA.units + 3 + 4 < cLine; decide
theorem join_self (k : Kind) : k.join k = k := by cases k <;> rfl
theorem cut4 {M : Model} {A : Around} {E : Value → Shared → Prop} {s : Shared} {env : Env} {a b c d : Stmt} {l : List Stmt} {Q : Flow → Shared → Prop} (J : Shared → Prop) (h1 : wpAny M A (execs [a, b, c, d] env) (fun fl s' => fl = .next ∧ J s') (fun _ _ => False) s)
    (h2 : ∀ s', J s' → wpAny M A (execs l env) Q E s') : wpAny M A (execs (a :: b :: c :: d :: l) env) Q E s := by
  rw [show a :: b :: c :: d :: l = [a, b, c, d] ++ l from rfl, execs_append]
  refine wpAny_bind (wpAny_mono h1 (fun fl s' hq => ?_) fun _ _ e => e.elim)
  obtain ⟨rfl, hJ⟩ := hq
  exact h2 s' hJ
theorem cut1 {M : Model} {A : Around} {E : Value → Shared → Prop} {s : Shared} {env : Env} {a : Stmt} {l : List Stmt} {Q : Flow → Shared → Prop} (J : Shared → Prop) (h1 : wpAny M A (execs [a] env) (fun fl s' => fl = .next ∧ J s') (fun _ _ => False) s)
    (h2 : ∀ s', J s' → wpAny M A (execs l env) Q E s') : wpAny M A (execs (a :: l) env) Q E s := by
  rw [show a :: l = [a] ++ l from rfl, execs_append]
  refine wpAny_bind (wpAny_mono h1 (fun fl s' hq => ?_) fun _ _ e => e.elim)
  obtain ⟨rfl, hJ⟩ := hq
  exact h2 s' hJ
theorem cutEnd {M : Model} {A : Around} {E : Value → Shared → Prop} {s : Shared} {env : Env} {l : List Stmt} {Q : Flow → Shared → Prop} (J : Shared → Prop) (h1 : wpAny M A (execs l env) (fun fl s' => fl = .ret (.bool true) ∧ J s') (fun _ _ => False) s)
    (h2 : ∀ s', J s' → Q (.ret (.bool true)) s') : wpAny M A (execs l env) Q E s := wpAny_mono h1 (fun fl s' hq => by
  obtain ⟨rfl, hJ⟩ := hq
  exact h2 s' hJ) fun _ _ e => e.elim
inductive Last (s₁ : Shared) (L : Addr) (s' : Shared) : Prop
  | mk (h' : Heap) (tk : Nat) (m : Str → Option Value) (e : s' = { s₁ with heap := h', toks := tk }) (F : Fr s₁.heap L h' m) : Last s₁ L s'
def six (rv cv ev uv vv wv : Value) (ku kw : Kind) (xs ys zs : List Atom) : List (Value × Kind × List Atom) := [(rv, ku, ded (xs.filter (fun x => decide (x ∉ ys)))), (cv, ku, ded (xs.filter (· ∈ ys))), (ev, ku, ded (xs ++ ys)), (uv, ku, xs), (vv, ku, ys), (wv, kw, zs)]
section
variable {rv cv ev uv vv wv : Value} {ku kw : Kind} {xs ys zs : List Atom}
theorem six_rest : (rv, ku, ded (xs.filter (fun x => decide (x ∉ ys)))) ∈ six rv cv ev uv vv wv ku kw xs ys zs := List.Mem.head _
theorem six_common : (cv, ku, ded (xs.filter (· ∈ ys))) ∈ six rv cv ev uv vv wv ku kw xs ys zs := List.Mem.tail _ (List.Mem.head _)
theorem six_every : (ev, ku, ded (xs ++ ys)) ∈ six rv cv ev uv vv wv ku kw xs ys zs := List.Mem.tail _ (List.Mem.tail _ (List.Mem.head _))
theorem six_u : (uv, ku, xs) ∈ six rv cv ev uv vv wv ku kw xs ys zs := List.Mem.tail _ (List.Mem.tail _ (List.Mem.tail _ (List.Mem.head _)))
theorem six_v : (vv, ku, ys) ∈ six rv cv ev uv vv wv ku kw xs ys zs := List.Mem.tail _ (List.Mem.tail _ (List.Mem.tail _ (List.Mem.tail _ (List.Mem.head _))))
theorem six_w : (wv, kw, zs) ∈ six rv cv ev uv vv wv ku kw xs ys zs := List.Mem.tail _ (List.Mem.tail _ (List.Mem.tail _ (List.Mem.tail _ (List.Mem.tail _ (List.Mem.head _)))))
end
inductive Mid2 (s₁ : Shared) (L cu : Addr) (s' : Shared) : Prop
  | mk (h' : Heap) (tk : Nat) (oc : Obj) (uv vv wv ev cv rv : Value) (tv : Option Value) (ku kw : Kind) (xs ys zs : List Atom) (m : Str → Option Value)
    (e : s' = { s₁ with heap := h', toks := tk })
    (F : Fr s₁.heap L h' (fun y => if y = Str.ofString "told" then tv else if y = Str.ofString "rest" then some rv else if y = Str.ofString "common" then some cv else if y = Str.ofString "every" then some ev else if y = Str.ofString "w" then some wv else if y = Str.ofString "v" then some vv else m y))
    (N : News s₁.heap L h' [(cu, oc)]) (hoc : oc.data = .cell (some uv))
    (FS : FactsU [L, cu] uv h' (six rv cv ev uv vv wv ku kw xs ys zs)) (hkw : Compat ku kw)
    (hxs : xs.length ≤ 6) (hys : ys.length ≤ 6) (hzs : zs.length ≤ 6) : Mid2 s₁ L cu s'
theorem ded_le (xs : List Atom) : (ded xs).length ≤ 5 := nodup_le (ded_nodup xs)
theorem ded_lt {n : Nat} (xs : List Atom) (h : 5 < n := by decide) : (ded xs).length < n := Nat.lt_of_le_of_lt (ded_le xs) h
theorem Compat.join {a b : Kind} (c : Compat a b) : Compat a (a.join b) := by
  rcases c with rfl | ⟨rfl, rfl⟩ | ⟨rfl, rfl⟩
  · rw [join_self]; exact .inl rfl
  · exact .inr (.inl ⟨rfl, rfl⟩)
  · exact .inl rfl
theorem join_join {a b : Kind} (c : Compat a b) : a.join (a.join b) = a.join b := by
  rcases c with rfl | ⟨rfl, rfl⟩ | ⟨rfl, rfl⟩
  · rw [join_self, join_self]
  · rfl
  · rfl
def Carry (bad : List Addr) (h : Heap) (P : Heap → Prop) : Prop := ∀ h', KeepBut bad h h' → P h'
theorem Carry.step {bad : List Addr} {h h1 h2 : Heap} {P : Heap → Prop} (c : Carry bad h P) (k : KeepBut bad h h1) (x : Ext h1 h2) : Carry bad h2 P := fun h' k' => c h' fun b o nb e => k' b o nb (x b o (k b o nb e))
inductive Opn (bad : List Addr) (h : Heap) (v : Value) (kd : Kind) (xs : List Atom) : Prop
  | mk (a d : Addr) (es : List DictEntry) (n : Nat) (l : Addr) (vs : List Value) (e : v = .ref a) (hV : VecAt h a d es n kd.str l) (hl : h.IsList l vs.toArray) (hA : Atoms h kd vs xs) (cr : Carry bad h (fun h' => h'.IsList l vs.toArray ∧ Atoms h' kd vs xs)) (br : RefsIn (· ∉ bad) vs) : Opn bad h v kd xs
theorem VecB.opn {bad : List Addr} {h : Heap} {v : Value} {kd : Kind} {xs : List Atom} (V : VecB (· ∉ bad) h v kd xs) : Opn bad h v kd xs := by
  obtain ⟨a, d, es, n, l, vs, r, x, y, z, ba, bd, bl, br⟩ := V
  refine ⟨a, d, es, n, l, vs, r, x, y, z, fun h' k => ⟨?_, ⟨z.1, fun i v x hv hx => (z.2 i v x hv hx).stay fun a o e g => k _ _ (br v (List.mem_of_getElem? hv) a e) g⟩⟩, br⟩
  obtain ⟨o, ho, r'⟩ := y
  exact ⟨o, k _ _ bl ho, r'⟩
theorem Carry.kb {bad : List Addr} {h h1 : Heap} {P : Heap → Prop} (c : Carry bad h P) (k : KeepBut bad h h1) : Carry bad h1 P := c.step k (Ext.refl _)
theorem Carry.map {bad : List Addr} {h : Heap} {P Q : Heap → Prop} (c : Carry bad h P) (f : ∀ h, P h → Q h) : Carry bad h Q := fun h' k => f _ (c h' k)
theorem carry_list {bad : List Addr} {h : Heap} {D : Addr} {vs : List Value} {P : Heap → Prop} (hl : h.IsList D vs.toArray) (hD : D ∉ bad) (c : Carry bad h P) : Carry bad h fun h' => h'.IsList D vs.toArray ∧ P h' := fun h' k => by
  refine ⟨?_, c h' k⟩
  obtain ⟨o, ho, r'⟩ := hl
  exact ⟨o, k _ _ hD ho, r'⟩
theorem not_two {a b c : Addr} (h1 : c ≠ a) (h2 : b < c) : c ∉ [a, b] := by
  have : c ≠ b := Nat.ne_of_gt h2
  simp [h1, this]
theorem mem_second {α : Type} {a b p : α} {l : List α} (h : p ∈ [a]) : p ∈ b :: a :: l := by rw [List.mem_singleton.mp h]; exact List.Mem.tail _ (List.Mem.head _)
end
section
def dat (kd : Kind) : Atom → PyData
  | none => .none
  | some c => match kd with
    | .lgl => .int (num c)
    | .int => .int (num c)
    | .dbl => .tuple [.int (num c), .int 1]
    | .chr => .str (txt c)
theorem dat_eqv (kd : Kind) (x y : Atom) : PyData.eqv (dat kd x) (dat kd y) = decide (x = y) := by
  cases kd <;> rcases x with _ | x <;> rcases y with _ | y <;> (try cases x) <;> (try cases y) <;> decide +kernel
theorem dat_lay (kd : Kind) (x : Atom) : (dat kd x).canLay0 = true ∧ (dat kd x).depth ≤ 1 := by
  cases kd <;> rcases x with _ | x <;> (try cases x) <;> decide +kernel
theorem dats_eqv (kd : Kind) : ∀ xs ys : List Atom, PyData.eqvAll (xs.map (dat kd)) (ys.map (dat kd)) = decide (xs = ys)
  | [], [] => by simp [PyData.eqvAll]
  | [], _ :: _ => by simp [PyData.eqvAll]
  | _ :: _, [] => by simp [PyData.eqvAll]
  | x :: xs, y :: ys => by
    simp only [List.map_cons, PyData.eqvAll, dat_eqv, dats_eqv kd xs ys, List.cons.injEq, Bool.decide_and]
theorem dats_lay (kd : Kind) : ∀ xs : List Atom, PyData.canLayAll0 (xs.map (dat kd)) = true ∧ PyData.depthAll (xs.map (dat kd)) ≤ 1
  | [] => by simp [PyData.canLayAll0, PyData.depthAll]
  | x :: xs => by
    have h1 := dat_lay kd x
    have h2 := dats_lay kd xs
    simp only [List.map_cons, PyData.canLayAll0, PyData.depthAll, h1.1, h2.1, Bool.and_self, true_and]
    omega
theorem reads_atom {h : Heap} {kd : Kind} {v : Value} {x : Atom} (V : AtomV h kd v x) : Reads h v (dat kd x) [] := by
  rcases x with _ | c
  · replace V : v = .none := V
    subst V; exact .none
  · cases kd
    · obtain ⟨t, rfl⟩ := V; exact .int _ _
    · obtain ⟨t, rfl⟩ := V; exact .int _ _
    · obtain ⟨a, t, u, rfl, o, ho, hc, n, hd⟩ := V
      exact .tuple ho hc hd (.cons (.int _ _) (.cons (.int _ _) .nil))
    · obtain ⟨t, rfl⟩ := V; exact .str _ _
theorem atoms_nil {h : Heap} {kd : Kind} : Atoms h kd [] [] := ⟨rfl, fun i v x e => by simp at e⟩
theorem atoms_tail {h : Heap} {kd : Kind} {v : Value} {vs : List Value} {x : Atom} {xs : List Atom} (V : Atoms h kd (v :: vs) (x :: xs)) : AtomV h kd v x ∧ Atoms h kd vs xs :=
  ⟨V.2 0 v x rfl rfl, by have := V.1; simpa using this, fun i u y a b => V.2 (i + 1) u y a b⟩
theorem reads_atoms {h : Heap} {kd : Kind} : ∀ {vs : List Value} {xs : List Atom}, Atoms h kd vs xs → ReadsAll h vs (xs.map (dat kd)) []
  | [], [], _ => .nil
  | [], _ :: _, V => by have := V.1; simp at this
  | _ :: _, [], V => by have := V.1; simp at this
  | v :: vs, x :: xs, V => by
    have ⟨h1, h2⟩ := atoms_tail V
    exact .cons (reads_atom h1) (reads_atoms h2)
theorem reads_list {h : Heap} {kd : Kind} {l : Addr} {vs : List Value} {xs : List Atom} (hl : h.IsList l vs.toArray) (V : Atoms h kd vs xs) : Reads h (.ref l) (.list (xs.map (dat kd))) [l] := by
  obtain ⟨o, ho, hc, n, hd⟩ := hl
  exact .list ho hc hd (reads_atoms V)
theorem AtomV.inj {h : Heap} {kd : Kind} {v : Value} {x y : Atom} (V : AtomV h kd v x) (W : AtomV h kd v y) : x = y := by
  have e := SeqAt.Reads.unique _ _ _ _ _ (dat_lay kd x).1 (reads_atom V) (reads_atom W)
  have := dat_eqv kd x y
  rw [← e, SeqAt.eqv_refl _ (dat_lay kd x).1] at this
  exact of_decide_eq_true this.symm
section
variable {prog : Program} {w : World} {A : Around} {E : Value → Shared → Prop} {s : Shared} {kd : Kind} {vs ws : List Value} {xs ys : List Atom} {l r : Addr}
theorem depth_list (kd : Kind) (xs : List Atom) : (PyData.list (xs.map (dat kd))).depth ≤ 2 := by
  have := (dats_lay kd xs).2
  simp only [PyData.depth]; omega
theorem ne_lists {Q : Value → Shared → Prop} (hl : s.heap.IsList l vs.toArray) (V : Atoms s.heap kd vs xs) (hr : s.heap.IsList r ws.toArray) (W : Atoms s.heap kd ws ys) (hu : A.units + 4 < cLine)
    (h : Q (.bool (decide (xs ≠ ys))) s) : wpAny (model prog w) A (compareOp .NotEq (.ref l) (.ref r)) Q E s := by
  refine SeqAt.compareNe_reads (reads_list hl V) (reads_list hr W) (by simp only [PyData.canLay0]; exact (dats_lay kd xs).1) (by simp only [PyData.canLay0]; exact (dats_lay kd ys).1) (by have := depth_list kd xs; have := Nat.min_le_left (PyData.list (xs.map (dat kd))).depth (PyData.list (ys.map (dat kd))).depth; omega) ?_
  simp only [PyData.eqv, dats_eqv, ← decide_not]
  exact h
theorem ne_same {Q : Value → Shared → Prop} (hl : s.heap.IsList l vs.toArray) (V : Atoms s.heap kd vs xs) (hr : s.heap.IsList r ws.toArray) (W : Atoms s.heap kd ws ys) (hu : A.units + 4 < cLine) (e : xs = ys)
    (h : Q (.bool false) s) : wpAny (model prog w) A (compareOp .NotEq (.ref l) (.ref r)) Q E s := by
  refine ne_lists hl V hr W hu ?_
  rw [decide_eq_false (by simpa using e)]
  exact h
theorem count_atoms {Q : Value → Shared → Prop} {v : Value} {x : Atom} (hl : s.heap.IsList l vs.toArray) (V : Atoms s.heap kd vs xs) (W : AtomV s.heap kd v x) (hu : A.units + 4 < cLine)
    (h : Q (.int (xs.count x : Nat) s.toks) { s with toks := s.toks + 1 }) : wpAny (model prog w) A (call (.builtin "list.count") [.ref l, v]) Q E s := by
  obtain ⟨⟨cls, dd, data, sl⟩, ho, hc, n, hd⟩ := id hl
  simp only at hc hd
  subst hc hd
  let e : Value → Bool := fun y => @decide (AtomV s.heap kd y x) (Classical.propDecidable _)
  have he : ∀ (us : List Value) (zs : List Atom), Atoms s.heap kd us zs → us.countP e = zs.count x := by
    intro us
    induction us with
    | nil => intro zs Z; cases zs with
      | nil => rfl
      | cons z zs => have := Z.1; simp at this
    | cons u us ih => intro zs Z; cases zs with
      | nil => have := Z.1; simp at this
      | cons z zs =>
        have ⟨h1, h2⟩ := atoms_tail Z
        rw [List.countP_cons, List.count_cons, ih zs h2]
        congr 1
        by_cases q : z = x
        · subst q
          have : e u = true := by simp [e, h1]
          simp [this]
        · have : e u = false := by
            simp only [e, decide_eq_false_iff_not]
            intro h3; exact q (h1.inj h3)
          simp [this, q]
  refine call_meets PySem.F.slot_list_count ⟨_, ho, rfl⟩ PySem.F.entry_list_count (PySem.F.args_list_count_2 _ _) (SeqAt.list_countAt l vs.toArray n dd sl v e) ⟨ho, fun y hy => ?_, ?_⟩
  · have hy : y ∈ vs := by simpa using hy
    obtain ⟨i, hi⟩ := List.getElem?_of_mem hy
    obtain ⟨z, hz⟩ : ∃ z, xs[i]? = some z := ⟨_, List.getElem?_eq_getElem (by rw [← V.1]; exact (List.getElem?_eq_some_iff.mp hi).1)⟩
    have Y := V.2 i y z hi hz
    have : e y = PyData.eqv (dat kd z) (dat kd x) := by
      rw [dat_eqv]
      by_cases q : z = x
      · subst q; simp [e, Y]
      · simp only [q, decide_false, e, decide_eq_false_iff_not]
        intro h3; exact q (Y.inj h3)
    rw [this]
    refine SeqAt.eqAt_reads _ _ _ _ _ _ _ _ (reads_atom Y) (reads_atom W) (dat_lay kd z).1 (dat_lay kd x).1 ?_
    have := (dat_lay kd z).2
    have := Nat.min_le_left (dat kd z).depth (dat kd x).depth
    show A.units + 1 + _ < _
    omega
  · rw [show vs.toArray.toList = vs from rfl, he vs xs V]
    exact h
end
theorem Atoms.takeX {h : Heap} {kd : Kind} {vs : List Value} {xs : List Atom} (V : Atoms h kd vs xs) (k : Nat) : Atoms h kd (vs.take k) (xs.take k) :=
  ⟨by simp [V.1], fun i v x a b => V.2 i v x (by rw [List.getElem?_take] at a; split at a; exact a; cases a) (by rw [List.getElem?_take] at b; split at b; exact b; cases b)⟩
theorem Atoms.dropX {h : Heap} {kd : Kind} {vs : List Value} {xs : List Atom} (V : Atoms h kd vs xs) (k : Nat) : Atoms h kd (vs.drop k) (xs.drop k) :=
  ⟨by simp [V.1], fun i v x a b => V.2 (k + i) v x (by rw [List.getElem?_drop] at a; exact a) (by rw [List.getElem?_drop] at b; exact b)⟩
theorem Atoms.rev {h : Heap} {kd : Kind} {vs : List Value} {xs : List Atom} (V : Atoms h kd vs xs) : Atoms h kd vs.reverse xs.reverse := by
  refine ⟨by simp [V.1], fun i v x a b => ?_⟩
  have hi : i < vs.length := by
    have := (List.getElem?_eq_some_iff.mp a).1
    simpa using this
  have hj : i < xs.length := V.1 ▸ hi
  rw [List.getElem?_reverse hi] at a
  rw [List.getElem?_reverse hj, ← V.1] at b
  exact V.2 _ v x a b
end
section
def isLone (xs : List Atom) (i : Nat) : Bool := match xs[i]? with
  | some y => xs.count y == 1
  | none => false
def lix (xs : List Atom) (n : Nat) : List Nat := (List.range n).filter (isLone xs)
theorem lix_succ (xs : List Atom) (n : Nat) : lix xs (n + 1) = lix xs n ++ if isLone xs n then [n] else [] := by
  unfold lix
  rw [List.range_succ, List.filter_append]
  by_cases h : isLone xs n = true <;> simp [h]
theorem lix_length (xs : List Atom) (n : Nat) : (lix xs n).length ≤ n := by
  unfold lix
  exact Nat.le_trans (List.length_filter_le _ _) (by simp)
theorem lix_mem {xs : List Atom} {n i : Nat} (h : i ∈ lix xs n) : i < n ∧ ∃ y, xs[i]? = some y ∧ xs.count y = 1 := by
  unfold lix at h
  rw [List.mem_filter, List.mem_range] at h
  refine ⟨h.1, ?_⟩
  have h2 := h.2
  unfold isLone at h2
  split at h2
  · exact ⟨_, by assumption, by simpa using h2⟩
  · cases h2
theorem reads_ints {h : Heap} : ∀ {is : List Nat} {us : List Value}, IntsOf is us → ReadsAll h us (is.map fun i => PyData.int (i : Nat)) []
  | [], [], _ => .nil
  | [], _ :: _, V => by have := V.1; simp at this
  | _ :: _, [], V => by have := V.1; simp at this
  | i :: is, u :: us, V => by
    obtain ⟨t, rfl⟩ := V.2 0 u i rfl rfl
    exact .cons (.int _ _) (reads_ints ⟨by have := V.1; simpa using this, fun j v k a b => V.2 (j + 1) v k a b⟩)
theorem lay_ints : ∀ is : List Nat, PyData.canLayAll0 (is.map fun i => PyData.int (i : Nat)) = true ∧ PyData.depthAll (is.map fun i => PyData.int (i : Nat)) = 0
  | [] => by simp [PyData.canLayAll0, PyData.depthAll]
  | i :: is => by simp [PyData.canLayAll0, PyData.depthAll, PyData.canLay0, PyData.depth, lay_ints is]
theorem eq_nil {prog : Program} {w : World} {A : Around} {E : Value → Shared → Prop} {s : Shared} {l r : Addr} {is : List Nat} {us : List Value} {Q : Value → Shared → Prop} (hl : s.heap.IsList l us.toArray) (V : IntsOf is us) (hr : s.heap.IsList r #[]) (hu : A.units + 4 < cLine)
    (h : Q (.bool (decide (is = []))) s) : wpAny (model prog w) A (compareOp .Eq (.ref l) (.ref r)) Q E s := by
  obtain ⟨o, ho, hc, n, hd⟩ := hl
  obtain ⟨o', ho', hc', n', hd'⟩ := hr
  refine SeqAt.compareEq_reads (Reads.list ho hc hd (reads_ints V)) (Reads.list ho' hc' hd' ReadsAll.nil) (by simp only [PyData.canLay0]; exact (lay_ints is).1) (by simp [PyData.canLay0, PyData.canLayAll0]) ?_ ?_
  · have := (lay_ints is).2
    simp only [PyData.depth]
    omega
  · have : PyData.eqv (.list (is.map fun i => PyData.int (i : Nat))) (.list []) = decide (is = []) := by
      cases is <;> simp [PyData.eqv, PyData.eqvAll]
    rw [this]
    exact h
theorem size_not {h : Heap} {bad : List Addr} (ha : ∀ a ∈ bad, ∃ o, h.get? a = some o) : h.objs.size ∉ bad := fun q => by
  obtain ⟨o, ho⟩ := ha _ q
  exact Nat.lt_irrefl _ (Heap.lt_size ho)
theorem Carry.and {bad : List Addr} {h : Heap} {P Q : Heap → Prop} (c : Carry bad h P) (d : Carry bad h Q) : Carry bad h fun h => P h ∧ Q h := fun h' k => ⟨c h' k, d h' k⟩
theorem refs_cut {B : Addr → Prop} {vs ws : List Value} {i j : Nat} (V : RefsIn B vs) (W : RefsIn B ws) : RefsIn B (vs.take i ++ ws.drop j) := fun v hv b e => by
  rcases List.mem_append.mp hv with hv | hv
  · exact V v (List.mem_of_mem_take hv) b e
  · exact W v (List.mem_of_mem_drop hv) b e
theorem add_listsX {prog : Program} {w : World} {A : Around} {E : Value → Shared → Prop} {s : Shared} {h₀ : Heap} {L : Addr} {m : Str → Option Value} {news : List (Addr × Obj)} {l b : Addr} {vs ws : List Value} {Q : Value → Shared → Prop} (F : Fr h₀ L s.heap m) (N : News h₀ L s.heap news) (hl : s.heap.IsList l vs.toArray) (hb : s.heap.IsList b ws.toArray)
    (h : ∀ D h', D = s.heap.objs.size → Fr h₀ L h' m → News h₀ L h' ((D, { cls := .type "list", data := .seq (vs ++ ws).toArray }) :: news) → Q (.ref D) { s with heap := h' }) (hsz : vs.length + ws.length ≤ sizeLine) :
    wpAny (model prog w) A (binaryOp .Add (.ref l) (.ref b)) Q E s := add_lists (hsz := hsz) F N hl hb fun h' F' N' => h _ h' rfl F' N'
end
section
local macro_rules | `(tactic| walk_at "call builtin:len") => `(tactic| refine halt ?_)
local macro_rules | `(tactic| k_inst) => `(tactic| exact inst_vec (by assumption))
local macro_rules | `(tactic| walk_at "call type:set") => `(tactic| refine halt ?_)
local macro_rules | `(tactic| walk_at "subscriptTail Attribute") => `(tactic| refine halt ?_)
local macro_rules | `(tactic| walk_at "call type:range") => `(tactic| refine halt ?_)
local macro_rules | `(tactic| walk_at "getMethod ref") => `(tactic| ((with_reducible show wpAny _ _ (getMethod (Value.ref _) (PySem.Str.ofString "count") _) _ _ _); refine halt ?_))
local macro_rules | `(tactic| walk_at "call builtin:list.count") => `(tactic| refine halt ?_)
local macro_rules | `(tactic| walk_at "subscriptTail Name") => `(tactic| ((with_reducible show wpAny _ _ (subscriptTail (PySem.Expr.Name (PySem.Str.ofString "lone") _) _ _ _) _ _ _); refine halt ?_))
local macro_rules | `(tactic| walk_at "subscriptTail Name Constant ref int") => `(tactic| ((with_reducible show wpAny _ _ (subscriptTail (PySem.Expr.Name (PySem.Str.ofString "lone") _) _ _ _) _ _ _); refine halt ?_))
local macro_rules | `(tactic| k_qdec) => `(tactic| (rw [pQ_eq]; kernel_rfl))
local macro_rules | `(tactic| k_all) => `(tactic| assumption)
local macro_rules | `(tactic| k_mem) => `(tactic| assumption)
theorem prom0 : PySem.Challenge.rw_pq1330_01.row.toRowW.promised := by w_witness2
theorem room0 {env : Env} : Room (callerA.deeper env) 20 := ⟨rfl, by show callerA.depth + 1 + 20 < recursionLimit; decide, by show callerA.units + 3 + 8 * 20 < cLine; decide⟩
theorem ints40 {ws : List Value} {ns : List Int} (h : IntsAre ws (List.take 40 ns)) : ws.length ≤ 40 := by
  rw [IntsAre.length h]
  exact List.length_take_le 40 ns
inductive Mid (s₁ : Shared) (L cu : Addr) (s' : Shared) : Prop
  | mk (h' : Heap) (tk : Nat) (oc : Obj) (uv vv wv : Value) (ku kw : Kind) (xs ys zs : List Atom) (m : Str → Option Value)
    (e : s' = { s₁ with heap := h', toks := tk }) (F : Fr s₁.heap L h' (fun y => if y = Str.ofString "w" then some wv else if y = Str.ofString "v" then some vv else m y)) (N : News s₁.heap L h' [(cu, oc)]) (hoc : oc.data = .cell (some uv))
    (FS : FactsN [L, cu] h' [(uv, ku, xs), (vv, ku, ys), (wv, kw, zs)]) (hkw : Compat ku kw) (hxs : xs.length ≤ 6) (hys : ys.length ≤ 6) (hzs : zs.length ≤ 6) : Mid s₁ L cu s'
theorem ints_are {ws : List Value} {ns : List Int} (h : IntsAre ws ns) : ∀ v ∈ ws, ∃ n t, v = Value.int n t := by
  induction h with
  | nil => intro v hv; cases hv
  | cons n t _ ih =>
    intro v hv
    rcases List.mem_cons.mp hv with rfl | hv
    · exact ⟨_, _, rfl⟩
    · exact ih v hv
theorem two_all {P : Addr → Prop} {a b : Addr} (h1 : P a) (h2 : P b) : ∀ x ∈ [a, b], P x := fun x hx => by
  simp only [List.mem_cons, List.not_mem_nil, or_false] at hx
  rcases hx with rfl | rfl
  · exact h1
  · exact h2
theorem news_two {g h : Heap} {L : Addr} {p q : Addr × Obj} (h1 : h.get? p.1 = some p.2 ∧ p.1 ≠ L ∧ g.get? p.1 = none) (h2 : h.get? q.1 = some q.2 ∧ q.1 ≠ L ∧ g.get? q.1 = none) : News g L h [p, q] := fun x hx => by
  simp only [List.mem_cons, List.not_mem_nil, or_false] at hx
  rcases hx with rfl | rfl
  · exact h1
  · exact h2
theorem not2 {a b : Addr} {o p : Obj} {mx : List Addr} (h1 : a ∉ mx) (h2 : b ∉ mx) : ∀ q ∈ [(a, o), (b, p)], q.1 ∉ mx := fun q hq => by
  simp only [List.mem_cons, List.not_mem_nil, or_false] at hq
  rcases hq with rfl | rfl
  · exact h1
  · exact h2
theorem itemK {prog : Program} {w : World} {A : Around} {E : Value → Shared → Prop} {s : Shared} {value slice : PySem.Expr} {l : Addr} {r : Nat} {u t1 t2 t3 : Tok} {Q : Value → Shared → Prop} (hl : s.heap.IsList l #[.str (Str.ofString "integer") t1, .str (Str.ofString "character") t2, .str (Str.ofString "logical") t3]) (hr : r < 3)
    (h : ∀ (kd : Kind) (tkk : Tok), kd ≠ .dbl → Q (.str kd.str tkk) s) (hs : subscripted slice false (.ref l) (.int (r : Nat) u) = operate [.ref l, .int (r : Nat) u] (getItem (.ref l) (.int (r : Nat) u))) :
    wpAny (model prog w) A (subscriptTail value slice (.ref l) (.int (r : Nat) u)) Q E s := by
  obtain rfl | rfl | rfl : r = 0 ∨ r = 1 ∨ r = 2 := by omega
  · exact itemX (vs := [_, _, _]) hl (by decide) rfl (h .int _ (fun e => by cases e)) hs
  · exact itemX (vs := [_, _, _]) hl (by decide) rfl (h .chr _ (fun e => by cases e)) hs
  · exact itemX (vs := [_, _, _]) hl (by decide) rfl (h .lgl _ (fun e => by cases e)) hs
theorem FactsN.fin {bad : List Addr} {L cu : Addr} {h : Heap} {u v w : Value} {k1 k2 k3 : Kind} {xs ys zs : List Atom} (S : FactsN bad h [(w, k3, zs), (v, k2, ys), (u, k1, xs)]) (hb : ∀ b ∈ [L, cu], b ∈ bad) : FactsN [L, cu] h [(u, k1, xs), (v, k2, ys), (w, k3, zs)] := fun p hp => by
  have hp' : p ∈ [(w, k3, zs), (v, k2, ys), (u, k1, xs)] := by
    simp only [List.mem_cons, List.not_mem_nil, or_false] at hp ⊢
    rcases hp with h | h | h
    · exact .inr (.inr h)
    · exact .inr (.inl h)
    · exact .inl h
  exact (S p hp').mono fun b q m => q (hb b m)
theorem FactsN.pick {bad : List Addr} {L cu : Addr} {h : Heap} {u v w : Value} {k1 k2 k3 : Kind} {xs ys zs : List Atom} {l : List (Value × Kind × List Atom)} (S : FactsN bad h l) (hb : ∀ b ∈ [L, cu], b ∈ bad) (h1 : (u, k1, xs) ∈ l) (h2 : (v, k2, ys) ∈ l) (h3 : (w, k3, zs) ∈ l) : FactsN [L, cu] h [(u, k1, xs), (v, k2, ys), (w, k3, zs)] := fun p hp => by
  have hp' : p ∈ l := by
    simp only [List.mem_cons, List.not_mem_nil, or_false] at hp
    rcases hp with rfl | rfl | rfl <;> assumption
  exact (S p hp').mono fun b q m => q (hb b m)
theorem bf_bad {bad : List Addr} {h : Heap} (ha : ∀ a ∈ bad, ∃ o, h.get? a = some o) : ∀ b, BF (· ∉ bad) h b → b ∉ bad := fun b q => q.elim id (alive_ne ha b)
theorem mem_skip {α : Type} {a b p : α} {l : List α} (h : p ∈ a :: l) : p ∈ a :: b :: l := by
  rcases List.mem_cons.mp h with rfl | h
  · exact List.Mem.head _
  · exact List.Mem.tail _ (List.Mem.tail _ h)
theorem mem_first {α : Type} {a p : α} {l : List α} (h : p ∈ [a]) : p ∈ a :: l := by
  rw [List.mem_singleton.mp h]; exact List.Mem.head _
theorem two_or {α : Type} {a b c : α} (h : a ∈ [b, c]) : a = b ∨ a = c := by simpa using h
theorem four_all {P : Addr → Prop} {a b c d : Addr} (h1 : P a) (h2 : P b) (h3 : P c) (h4 : P d) : ∀ x ∈ [a, b, c, d], P x := fun x hx => by
  simp only [List.mem_cons, List.not_mem_nil, or_false] at hx
  rcases hx with rfl | rfl | rfl | rfl
  · exact h1
  · exact h2
  · exact h3
  · exact h4
theorem ns_alive {h : Heap} {L : Addr} {m : Str → Option Value} (n : h.Ns L m) : ∃ o, h.get? L = some o := by
  obtain ⟨o, _, _, ho, _⟩ := n
  exact ⟨o, ho⟩
theorem hex_of {g h : Heap} {L c : Addr} {p q : Addr × Obj} {r : List (Addr × Obj)} (_N : News g L h (p :: q :: r)) (h1 : q.1 ≠ c) (h2 : ∀ p ∈ r, p.1 ≠ c) : ∀ p ∈ q :: r, p.1 ≠ c := fun x hx => by
  rcases List.mem_cons.mp hx with rfl | hx
  · exact h1
  · exact h2 _ hx
theorem news_mid {g h : Heap} {L : Addr} {p q : Addr × Obj} {r : List (Addr × Obj)} (h1 : h.get? q.1 = some q.2 ∧ q.1 ≠ L ∧ g.get? q.1 = none) (N : News g L h (p :: r)) : News g L h (p :: q :: r) := fun x hx => by
  rcases List.mem_cons.mp hx with rfl | hx
  · exact N _ (List.Mem.head _)
  · rcases List.mem_cons.mp hx with rfl | hx
    · exact h1
    · exact N _ (List.Mem.tail _ hx)
theorem holds0 : PySem.Challenge.rw_pq1330_01.Holds := by
  refine top (by rfl) (by rfl) (by rfl) said0 said1 prom0 ?call
  case call =>
    intro w s₀ s₁ mg mb G Y fa o pm cd doc dV kV ho hd hcd hD hmg hg args vals as hpre hlay hrd hwl hlo
    have KX : (KW w.params).In s₁.heap := Y
    k_behind G ho hd hcd hD hmg hpre hlay hrd hwl hlo cd
    rename Top _ _ _ _ _ _ => T
    rename IntsAre _ _ => hI
    rename Heap.IsList _ _ _ => hL
    rename ¬ (_ < _) => hlen
    rename Obj.data _ = _ => hcell
    have C : Cx w mg mb s₁.heap := ⟨KX, topRead_of T⟩
    have ⟨X, T'⟩ := C
    rename Below _ _ _ _ => q0
    clear q0 T
    rename TopE _ _ _ _ => q1
    rename TopW _ _ _ => q2
    rename Tables _ _ _ _ => q3
    rename Glob _ _ _ _ _ _ _ _ => q4
    rename BMod _ _ _ _ _ => q5
    rename LooseAre _ _ _ => q6
    rename Flt.MathXP _ _ _ => q7
    clear q1 q2 q3 q4 q5 q6 q7 G
    rename Fr _ _ _ _ => F
    rename News _ _ _ _ => N
    refine cut6 (Mid s₁ s₁.heap.objs.size (s₁.heap.objs.size + 1)) ?_ ?_
    · repeat' walk1
      all_goals (try k_data)
      rename Fr _ _ _ _ => F
      rename News _ _ _ _ => N
      rename IntsAre _ (List.take _ _) => hJ
      have h40 := ints40 hJ
      refine go (list_copyX (News.isList N (List.Mem.head _)) (by rw [sizeLine_eq]; simp; omega) fun sl c h' x fr => ?_)
      dsimp only at x fr
      have hslc := neN (ne_freshL N fr _ (List.Mem.tail _ (List.Mem.head _)) _ (List.Mem.head _))
      replace N := newsAdd F N x (fr)
      replace F := fr_by F x
      try dsimp only [List.cons_append, List.nil_append] at N
      repeat' walk1
      all_goals (try k_data)
      rename Fr _ _ _ _ => F
      rename News _ _ _ _ => N
      obtain ⟨kl, sa, rfl, rfl⟩ := name2 N
      rename _ < sa ∧ _ => l0
      have z0 := N _ (List.Mem.head _)
      have z1 := N _ (List.Mem.tail _ (List.Mem.head _))
      have z3 := N _ (List.Mem.tail _ (List.Mem.tail _ (List.Mem.tail _ (List.Mem.head _))))
      have z5 := N _ (List.Mem.tail _ (List.Mem.tail _ (List.Mem.tail _ (List.Mem.tail _ (List.Mem.tail _ (List.Mem.head _))))))
      have S : Src _ sa sl := ⟨(Nat.ne_of_lt l0.2.1).symm, _, _, _, _, _, _, _, by omega, ints_are hJ, z1.1, z3.1⟩
      have hn : ∀ a ∈ [sa, sl], s₁.heap.get? a = none := two_all z1.2.2 z3.2.2
      have hLn : s₁.heap.objs.size ∉ [sa, sl] := two_ne z1.2.1.symm z3.2.1.symm
      have hcn : s₁.heap.objs.size + 1 ∉ [sa, sl] := two_ne (Nat.ne_of_lt l0.2.2.2) hslc
      have hkn : kl ∉ [sa, sl] := two_ne (neN (Nat.ne_of_gt (by rename _ < kl ∧ _ => l1; exact l1.1))) (neN (Nat.ne_of_gt (by rename _ < kl ∧ _ => l1; exact l1.2.2.1)))
      replace N : News _ _ _ [(kl, _), (s₁.heap.objs.size + 1, _)] := news_two z0 z5
      refine go (useT (take 3 (C.ext (Ext.refl _)) F.keep (room0.le (by decide)) S (hn _ (List.Mem.head _)) (hn _ (List.Mem.tail _ (List.Mem.head _))) rfl (by decide) (by decide)) fun v h' tk kb S2 p => ?_)
      obtain ⟨r, tr, rfl, hr⟩ := p
      dsimp only at kb
      replace F := kb_fr kb hn hLn F
      replace N := kb_news kb (not2 hkn hcn) N
      clear z0 z1 z3 z5 hJ S
      have hkc : kl ≠ s₁.heap.objs.size + 1 := neN (Nat.ne_of_gt (by rename _ < kl ∧ _ => l1; exact l1.2.2.2.2))
      have hsa : sa ∉ [s₁.heap.objs.size, s₁.heap.objs.size + 1] := fun q => hLn (by rcases two_or q with e | e; exact e ▸ List.Mem.head _; exact absurd (e ▸ List.Mem.head _) hcn)
      have hsl : sl ∉ [s₁.heap.objs.size, s₁.heap.objs.size + 1] := fun q => hLn (by rcases two_or q with e | e; exact e ▸ List.Mem.tail _ (List.Mem.head _); exact absurd (e ▸ List.Mem.tail _ (List.Mem.head _)) hcn)
      have mxL : ∀ b ∈ [s₁.heap.objs.size, s₁.heap.objs.size + 1], b ∈ [s₁.heap.objs.size, s₁.heap.objs.size + 1, sa, sl] := by simp
      have mxS : ∀ b ∈ [sa, sl], b ∈ [s₁.heap.objs.size, s₁.heap.objs.size + 1, sa, sl] := by simp
      obtain ⟨ex, Ne, hex, KP⟩ := snap F (fun p hp => N p (List.Mem.tail _ hp) : News _ _ _ [(s₁.heap.objs.size + 1, _)])
      replace N := news_mid (N _ (List.Mem.head _)) Ne
      have hex' := hex_of N hkc hex
      clear Ne
      have hkl := News.isList N (List.Mem.tail _ (List.Mem.head _))
      replace N := news_sub N fun p hp => mem_skip hp
      clear hex'
      refine itemK hkl (by omega) (fun kd tkk hnd => ?_) (by with_unfolding_all rfl)
      repeat' walk1
      all_goals (try k_data)
      rename Fr _ _ _ _ => F
      rename News _ _ _ _ => N
      have K := KP _ _ _ F N
      replace S2 := S2.off hsa hsl K
      have hal : ∀ a ∈ [s₁.heap.objs.size, s₁.heap.objs.size + 1, sa, sl], ∃ o, Heap.get? _ a = some o := four_all (ns_alive F.ns) ⟨_, (N _ (List.Mem.head _)).1⟩ S2.a S2.l
      refine go (useT (row kd (C.ext (Ext.refl _)) F.keep (room0.le (by decide)) S2 (hn _ (List.Mem.head _)) (hn _ (List.Mem.tail _ (List.Mem.head _))) rfl hnd) fun uv h' tk kb S3 p => ?_)
      obtain ⟨xs, hxs, V⟩ := p
      dsimp only at kb
      replace F := kb_fr kb hn hLn F
      have Nc : News _ _ _ [(s₁.heap.objs.size + 1, _)] := kb_news kb (not1 hcn) fun p hp => N p (mem_first hp)
      have FS := FactsN.nil.cons (V.mono (alive_ne hal))
      clear N V hal S2 KP hex
      rename Src _ sa sl => S2
      obtain ⟨ex, N, hex, KP⟩ := snap F Nc
      clear Nc
      repeat' walk1
      all_goals (try k_data)
      rename Fr _ _ _ _ => F
      rename News _ _ _ _ => N
      have K := KP _ _ _ F N
      replace FS := FS.kb K mxL
      replace S2 := S2.off hsa hsl K
      have hal : ∀ a ∈ [s₁.heap.objs.size, s₁.heap.objs.size + 1, sa, sl], ∃ o, Heap.get? _ a = some o := four_all (ns_alive F.ns) ⟨_, (N _ (List.Mem.head _)).1⟩ S2.a S2.l
      refine go (useT (row kd (C.ext (Ext.refl _)) F.keep (room0.le (by decide)) S2 (hn _ (List.Mem.head _)) (hn _ (List.Mem.tail _ (List.Mem.head _))) rfl hnd) fun vv h' tk kb S3 p => ?_)
      obtain ⟨ys, hys, V⟩ := p
      dsimp only at kb
      replace F := kb_fr kb hn hLn F
      have Nc : News _ _ _ [(s₁.heap.objs.size + 1, _)] := kb_news kb (not1 hcn) fun p hp => N p (mem_first hp)
      replace FS := (FS.kb kb mxS).cons (V.mono (alive_ne hal))
      clear N V hal S2 KP hex
      rename Src _ sa sl => S2
      obtain ⟨ex, N, hex, KP⟩ := snap F Nc
      clear Nc
      repeat' walk1
      all_goals (try k_data)
      rename Fr _ _ _ _ => F
      rename News _ _ _ _ => N
      have K := KP _ _ _ F N
      replace FS := FS.kb K mxL
      replace S2 := S2.off hsa hsl K
      have hal : ∀ a ∈ [s₁.heap.objs.size, s₁.heap.objs.size + 1, sa, sl], ∃ o, Heap.get? _ a = some o := four_all (ns_alive F.ns) ⟨_, (N _ (List.Mem.head _)).1⟩ S2.a S2.l
      refine go (useT (row kd (C.ext (Ext.refl _)) F.keep (room0.le (by decide)) S2 (hn _ (List.Mem.head _)) (hn _ (List.Mem.tail _ (List.Mem.head _))) rfl hnd) fun wv h' tk kb S3 p => ?_)
      obtain ⟨zs, hzs, V⟩ := p
      dsimp only at kb
      replace F := kb_fr kb hn hLn F
      have Nc : News _ _ _ [(s₁.heap.objs.size + 1, _)] := kb_news kb (not1 hcn) fun p hp => N p (mem_first hp)
      replace FS := (FS.kb kb mxS).cons (V.mono (alive_ne hal))
      clear N V hal S2 KP hex
      rename Src _ sa sl => S2
      obtain ⟨ex, N, hex, KP⟩ := snap F Nc
      clear Nc
      cases kd
      · dsimp only [Kind.str] at F
        repeat' walk1
        all_goals (try k_data)
        rename Fr _ _ _ _ => F
        rename News _ _ _ _ => N
        have K := KP _ _ _ F N
        replace FS := FS.kb K mxL
        rename Obj.data _ = Data.cell (some uv) => hoc
        exact ⟨_, _, _, uv, vv, wv, .lgl, .lgl, xs, ys, zs, _, rfl, F, fun p hp => N p (mem_first hp), hoc, FS.fin mxL, .inl rfl, hxs, hys, hzs⟩
      · dsimp only [Kind.str] at F
        repeat' walk1
        all_goals (try k_data)
        rename Fr _ _ _ _ => F
        rename News _ _ _ _ => N
        have K := KP _ _ _ F N
        replace FS := FS.kb K mxL
        replace S2 := S2.off hsa hsl K
        refine go (useT (take 3 (C.ext (Ext.refl _)) F.keep (room0.le (by decide)) S2 (hn _ (List.Mem.head _)) (hn _ (List.Mem.tail _ (List.Mem.head _))) rfl (by decide) (by decide)) fun v h' tk kb S3 p => ?_)
        obtain ⟨r, tr, rfl, hr⟩ := p
        dsimp only at kb
        replace F := kb_fr kb hn hLn F
        replace FS := FS.kb kb mxS
        have Nc : News _ _ _ [(s₁.heap.objs.size + 1, _)] := kb_news kb (not1 hcn) fun p hp => N p (mem_first hp)
        clear N S2 KP hex
        rename Src _ sa sl => S2
        obtain ⟨ex, N, hex, KP⟩ := snap F Nc
        clear Nc
        repeat' walk1
        all_goals (try k_data)
        · rename Fr _ _ _ _ => F
          rename News _ _ _ _ => N
          have K := KP _ _ _ F N
          replace FS := FS.kb K mxL
          replace S2 := S2.off hsa hsl K
          have hal : ∀ a ∈ [s₁.heap.objs.size, s₁.heap.objs.size + 1, sa, sl], ∃ o, Heap.get? _ a = some o := four_all (ns_alive F.ns) ⟨_, (N _ (List.Mem.head _)).1⟩ S2.a S2.l
          have VV := (FS _ (List.Mem.tail _ (List.Mem.head _))).1
          have CC := C.ext F.keep
          refine go (use (law_double (xs := ys) CC (room0.le (by decide)) VV (by omega)) fun v2 h' tk x p => ?_)
          dsimp only at x p
          replace FS := (FS.ext x).cons (p.mono (bf_bad hal))
          replace F := fr_by F x
          have Nc : News _ _ _ [(s₁.heap.objs.size + 1, _)] := newsBy (fun p hp => N p (mem_first hp)) x
          replace S2 := S2.keep x
          clear N KP hex hal VV CC
          obtain ⟨ex, N, hex, KP⟩ := snap F Nc
          clear Nc
          repeat' walk1
          all_goals (try k_data)
          rename Fr _ _ _ _ => F
          rename News _ _ _ _ => N
          have K := KP _ _ _ F N
          replace FS := FS.kb K mxL
          replace S2 := S2.off hsa hsl K
          have hal : ∀ a ∈ [s₁.heap.objs.size, s₁.heap.objs.size + 1, sa, sl], ∃ o, Heap.get? _ a = some o := four_all (ns_alive F.ns) ⟨_, (N _ (List.Mem.head _)).1⟩ S2.a S2.l
          have VV := (FS _ (List.Mem.tail _ (List.Mem.tail _ (List.Mem.tail _ (List.Mem.head _))))).1
          have CC := C.ext F.keep
          refine go (use (law_double (xs := xs) CC (room0.le (by decide)) VV (by omega)) fun u2 h' tk x p => ?_)
          dsimp only at x p
          replace FS := (FS.ext x).cons (p.mono (bf_bad hal))
          replace F := fr_by F x
          have Nc : News _ _ _ [(s₁.heap.objs.size + 1, _)] := newsBy (fun p hp => N p (mem_first hp)) x
          replace S2 := S2.keep x
          clear N KP hex hal VV CC
          obtain ⟨ex, N, hex, KP⟩ := snap F Nc
          clear Nc
          repeat' walk1
          all_goals (try k_data)
          rename Fr _ _ _ _ => F
          rename News _ _ _ _ => N
          have K := KP _ _ _ F N
          replace FS := FS.kb K mxL
          replace S2 := S2.off hsa hsl K
          refine go (useT (take 2 (C.ext (Ext.refl _)) F.keep (room0.le (by decide)) S2 (hn _ (List.Mem.head _)) (hn _ (List.Mem.tail _ (List.Mem.head _))) rfl (by decide) (by decide)) fun v h' tk kb S3 p => ?_)
          obtain ⟨r', tr', rfl, hr'⟩ := p
          dsimp only at kb
          replace F := kb_fr kb hn hLn F
          replace FS := FS.kb kb mxS
          have Nc : News _ _ _ [(s₁.heap.objs.size + 1, _)] := kb_news kb (not1 hcn) fun p hp => N p (mem_first hp)
          clear N S2 KP hex
          rename Src _ sa sl => S2
          obtain ⟨ex, N, hex, KP⟩ := snap F Nc
          clear Nc
          repeat' walk1
          all_goals (try k_data)
          · rename Fr _ _ _ _ => F
            rename News _ _ _ _ => N
            have K := KP _ _ _ F N
            replace FS := FS.kb K mxL
            replace S2 := S2.off hsa hsl K
            have hal : ∀ a ∈ [s₁.heap.objs.size, s₁.heap.objs.size + 1, sa, sl], ∃ o, Heap.get? _ a = some o := four_all (ns_alive F.ns) ⟨_, (N _ (List.Mem.head _)).1⟩ S2.a S2.l
            have VV := (FS _ (List.Mem.tail _ (List.Mem.tail _ (List.Mem.head _)))).1
            have CC := C.ext F.keep
            refine go (use (law_double (xs := zs) CC (room0.le (by decide)) VV (by omega)) fun w2 h' tk x p => ?_)
            dsimp only at x p
            replace FS := (FS.ext x).cons (p.mono (bf_bad hal))
            replace F := fr_by F x
            have Nc : News _ _ _ [(s₁.heap.objs.size + 1, _)] := newsBy (fun p hp => N p (mem_first hp)) x
            replace S2 := S2.keep x
            clear N KP hex hal VV CC
            obtain ⟨ex, N, hex, KP⟩ := snap F Nc
            clear Nc
            repeat' walk1
            all_goals (try k_data)
            rename Fr _ _ _ _ => F
            rename News _ _ _ _ => N
            have K := KP _ _ _ F N
            replace FS := FS.kb K mxL
            rename Obj.data _ = Data.cell (some u2) => hoc
            exact ⟨_, _, _, u2, v2, w2, .dbl, .dbl, xs, ys, zs, _, rfl, F, fun p hp => N p (mem_first hp), hoc, FS.pick mxL (List.Mem.tail _ (List.Mem.head _)) (List.Mem.tail _ (List.Mem.tail _ (List.Mem.head _))) (List.Mem.head _), .inl rfl, hxs, hys, hzs⟩
          · rename Fr _ _ _ _ => F
            rename News _ _ _ _ => N
            have K := KP _ _ _ F N
            replace FS := FS.kb K mxL
            rename Obj.data _ = Data.cell (some u2) => hoc
            exact ⟨_, _, _, u2, v2, wv, .dbl, .int, xs, ys, zs, _, rfl, F, fun p hp => N p (mem_first hp), hoc, FS.pick mxL (List.Mem.head _) (List.Mem.tail _ (List.Mem.head _)) (List.Mem.tail _ (List.Mem.tail _ (List.Mem.head _))), .inr (.inr ⟨rfl, rfl⟩), hxs, hys, hzs⟩
        · rename Fr _ _ _ _ => F
          rename News _ _ _ _ => N
          have K := KP _ _ _ F N
          replace FS := FS.kb K mxL
          rename Obj.data _ = Data.cell (some uv) => hoc
          exact ⟨_, _, _, uv, vv, wv, .int, .int, xs, ys, zs, _, rfl, F, fun p hp => N p (mem_first hp), hoc, FS.pick mxL (List.Mem.tail _ (List.Mem.tail _ (List.Mem.head _))) (List.Mem.tail _ (List.Mem.head _)) (List.Mem.head _), .inl rfl, hxs, hys, hzs⟩
      · exact absurd rfl hnd
      · dsimp only [Kind.str] at F
        repeat' walk1
        all_goals (try k_data)
        rename Fr _ _ _ _ => F
        rename News _ _ _ _ => N
        have K := KP _ _ _ F N
        replace FS := FS.kb K mxL
        rename Obj.data _ = Data.cell (some uv) => hoc
        exact ⟨_, _, _, uv, vv, wv, .chr, .chr, xs, ys, zs, _, rfl, F, fun p hp => N p (mem_first hp), hoc, FS.fin mxL, .inl rfl, hxs, hys, hzs⟩
    intro s' hM
    refine cut4 (Mid2 s₁ s₁.heap.objs.size (s₁.heap.objs.size + 1)) ?_ ?_
    · obtain ⟨h', tk, oc, uv, vv, wv, ku, kw, xs, ys, zs, m, rfl, F, Nc, hoc, FN, hkw, hxs, hys, hzs⟩ := hM
      have FS := FN.toU (List.Mem.head _)
      clear FN
      obtain ⟨ex, N, hex, KP⟩ := snap F Nc
      clear Nc
      repeat' walk1
      all_goals (try k_data)
      rename Fr _ _ _ _ => F
      rename News _ _ _ _ => N
      have K := KP _ _ _ F N
      replace FS := FS.kb K fun _ h => h
      have hal : ∀ a ∈ [s₁.heap.objs.size, s₁.heap.objs.size + 1], ∃ o, Heap.get? _ a = some o := two_all (ns_alive F.ns) ⟨_, (N _ (List.Mem.head _)).1⟩
      have CC := C.ext F.keep
      refine go (use (union_of (xs := xs) (ys := ys) CC (room0.le (by decide)) (FS.1 _ (List.Mem.head _)) (FS.1 _ (List.Mem.tail _ (List.Mem.head _))) (.inl rfl) (by omega) (by omega)) fun everyv h' tk x p => ?_)
      dsimp only at x p
      rw [join_self] at p
      replace FS := (FS.ext x).cons (p.toB.mono (bf_bad hal))
      replace F := fr_by F x
      have Nc : News _ _ _ [(s₁.heap.objs.size + 1, _)] := newsBy (fun p hp => N p (mem_first hp)) x
      clear N KP hex hal CC
      obtain ⟨ex, N, hex, KP⟩ := snap F Nc
      clear Nc
      repeat' walk1
      all_goals (try k_data)
      rename Fr _ _ _ _ => F
      rename News _ _ _ _ => N
      have K := KP _ _ _ F N
      replace FS := FS.kb K fun _ h => h
      have hal : ∀ a ∈ [s₁.heap.objs.size, s₁.heap.objs.size + 1], ∃ o, Heap.get? _ a = some o := two_all (ns_alive F.ns) ⟨_, (N _ (List.Mem.head _)).1⟩
      have CC := C.ext F.keep
      refine go (use (intersect_of (xs := xs) (ys := ys) CC (room0.le (by decide)) (FS.1 _ (List.Mem.tail _ (List.Mem.head _))) (FS.1 _ (List.Mem.tail _ (List.Mem.tail _ (List.Mem.head _)))) (.inl rfl) (by omega) (by omega)) fun commonv h' tk x p => ?_)
      dsimp only at x p
      rw [join_self] at p
      replace FS := (FS.ext x).cons (p.toB.mono (bf_bad hal))
      replace F := fr_by F x
      have Nc : News _ _ _ [(s₁.heap.objs.size + 1, _)] := newsBy (fun p hp => N p (mem_first hp)) x
      clear N KP hex hal CC
      obtain ⟨ex, N, hex, KP⟩ := snap F Nc
      clear Nc
      repeat' walk1
      all_goals (try k_data)
      rename Fr _ _ _ _ => F
      rename News _ _ _ _ => N
      have K := KP _ _ _ F N
      replace FS := FS.kb K fun _ h => h
      have hal : ∀ a ∈ [s₁.heap.objs.size, s₁.heap.objs.size + 1], ∃ o, Heap.get? _ a = some o := two_all (ns_alive F.ns) ⟨_, (N _ (List.Mem.head _)).1⟩
      have CC := C.ext F.keep
      refine go (use (setdiff_of (xs := xs) (ys := ys) CC (room0.le (by decide)) (FS.1 _ (List.Mem.tail _ (List.Mem.tail _ (List.Mem.head _)))) (FS.1 _ (List.Mem.tail _ (List.Mem.tail _ (List.Mem.tail _ (List.Mem.head _))))).of (.inl rfl) (by omega) (by omega)) fun restv h' tk x p => ?_)
      dsimp only at x p
      replace FS := (FS.ext x).cons (p.toB.mono (bf_bad hal))
      replace F := fr_by F x
      have Nc : News _ _ _ [(s₁.heap.objs.size + 1, _)] := newsBy (fun p hp => N p (mem_first hp)) x
      clear N KP hex hal CC
      obtain ⟨ex, N, hex, KP⟩ := snap F Nc
      clear Nc
      repeat' walk1
      all_goals (try k_data)
      rename Fr _ _ _ _ => F
      rename News _ _ _ _ => N
      refine go ?_
      with_unfolding_all refine' For_invVF F ?k1 ?k2 ?_
      case k1 => exact rfl
      case k2 => exact rfl
      repeat' walk1
      all_goals (try k_data)
      rename Fr _ _ _ _ => F
      rename News _ _ _ _ => N
      have hll := News.isList N (List.Mem.head _)
      have hlL := (N _ (List.Mem.head _)).2.1
      replace N := news_sub N fun p hp => List.Mem.tail _ hp
      obtain ⟨base, hbase, F⟩ := fr_nm F
      refine iter_list (vs := [everyv, commonv, restv]) (fun i m nw => nw = (s₁.heap.objs.size + 1, oc) :: ex ∧ ∃ u, m = fun z => if z = Str.ofString "told" then u else base z) [] rfl hll hlL F N (by simp) ⟨rfl, base (Str.ofString "told"), map_norm _ _⟩ ?_ ?_
      · rintro i v m₁ news₁ h tk own hv hadr hown ⟨rfl, u, rfl⟩ F N
        have K := KP _ _ _ F (news_sub N fun p hp => List.mem_append_left _ hp)
        have FSh := FS.kb K fun _ h => h
        obtain ⟨kd, qs, VB, hnd⟩ : ∃ kd qs, VecB (· ∉ [s₁.heap.objs.size, s₁.heap.objs.size + 1]) h v kd qs ∧ qs.Nodup := by
          rcases i with _ | _ | _ | i
          · cases hv; exact ⟨_, _, FSh.1 _ (List.Mem.tail _ (List.Mem.tail _ (List.Mem.head _))), ded_nodup _⟩
          · cases hv; exact ⟨_, _, FSh.1 _ (List.Mem.tail _ (List.Mem.head _)), ded_nodup _⟩
          · cases hv; exact ⟨_, _, FSh.1 _ (List.Mem.head _), ded_nodup _⟩
          · cases hv
        obtain ⟨a, d, es, n, l, vs, rfl, hV, hl, hA, _⟩ := VB
        clear FSh K FS hll
        have hV' := hV
        obtain ⟨hV1, hV2, h1V, h2V, h3V, h4V, h5V, t1V, t2V, t3V, t4V, t5V, tkV, rfl⟩ := hV'
        dsimp only [List.cons_append] at N
        obtain ⟨ex2, hex2⟩ : ∃ e, e = ex ++ own := ⟨_, rfl⟩
        rw [← hex2] at N
        clear KP hex
        repeat' walk1
        all_goals (try k_data)
        refine go (set_atoms rfl unit4 hl hA hnd fun S h2 tk hS x => ?_)
        dsimp only at x
        rename Fr _ _ _ _ => F
        rename News _ _ _ _ => N
        replace F := fr_by F x
        replace N := newsBy N x
        replace hV := hV.ext x
        replace hl := hl.at fun _ q => x _ _ q
        repeat' walk1
        all_goals (try k_data)
        refine go (len_setX hS (by have := nodup_le hnd; omega) ?_)
        repeat' walk1
        all_goals (try k_data)
        refine go (call_len_list hl (by have := hA.1; have := nodup_le hnd; simp; omega) ?_)
        rw [show (vs.toArray.size : Int) = ((qs.length : Nat) : Int) by simp [hA.1]]
        repeat' walk1
        all_goals (try k_data)
        all_goals first
          | (exfalso; rename (_ : Int) ≠ _ => q; exact q rfl)
          | (rename Fr _ _ _ _ => F; rename News _ _ _ _ => N; exact TurnEnd.intro (nx := (s₁.heap.objs.size + 1, oc) :: ex) F N (fun p hp => by rw [hex2]; exact hp) rfl ⟨rfl, _, upd2 _ _ _ _⟩)
      · rintro m₁ news₁ h tk ⟨rfl, u, rfl⟩ F N
        rw [hbase] at F
        have K := KP _ _ _ F N
        replace FS := FS.kb K fun _ h => h
        repeat' walk1
        all_goals (try k_data)
        exact ⟨_, _, oc, uv, vv, wv, everyv, commonv, restv, u, ku, kw, xs, ys, zs, m, rfl, F, fun p hp => N p (mem_first hp), hoc, FS, hkw, hxs, hys, hzs⟩
    clear hM s'
    intro s' hM
    refine cut1 (Mid2 s₁ s₁.heap.objs.size (s₁.heap.objs.size + 1)) ?_ ?_
    · obtain ⟨h', tk, oc, uv, vv, wv, ev, cv, rv, tv, ku, kw, xs, ys, zs, m, rfl, F, Nc, hoc, FS, hkw, hxs, hys, hzs⟩ := hM
      obtain ⟨ex, N, hex, KP⟩ := snap F Nc
      clear Nc
      obtain ⟨a1, d1, es1, n1, l1, vs1, he1, hV1, hl1, hA1, cr1, br1⟩ := (FS.1 _ (six_every)).opn
      dsimp only at he1 hV1 hA1 cr1
      first | subst he1 | cases he1
      have hV1' := hV1
      obtain ⟨hV11, hV12, h1V1, h2V1, h3V1, h4V1, h5V1, t1V1, t2V1, t3V1, t4V1, t5V1, tkV1, rfl⟩ := hV1'
      repeat' walk1
      all_goals (try k_data)
      refine go (call_len_list hl1 (by have := hA1.1; have := ded_le (xs ++ ys); simp; omega) ?_)
      rw [show (vs1.toArray.size : Int) = ((ded (xs ++ ys)).length : Nat) by simp [hA1.1]]
      repeat' walk1
      all_goals (try k_data)
      rename Fr _ _ _ _ => F
      rename News _ _ _ _ => N
      have K := KP _ _ _ F N
      replace FS := FS.kb K fun _ h => h
      have hal : ∀ a ∈ [s₁.heap.objs.size, s₁.heap.objs.size + 1], ∃ o, Heap.get? _ a = some o := two_all (ns_alive F.ns) ⟨_, (N _ (List.Mem.head _)).1⟩
      have CC := C.ext F.keep
      refine go (use (distinct (xs := xs) CC (room0.le (by decide)) (FS.1 _ (six_u)) (by omega)) fun duv h' tk x p => ?_)
      dsimp only at x p
      replace FS := (FS.ext x).cons (p.toB.mono (bf_bad hal))
      replace cr1 := cr1.step K x
      replace F := fr_by F x
      have Nc : News _ _ _ [(s₁.heap.objs.size + 1, _)] := newsBy (fun p hp => N p (mem_first hp)) x
      clear N KP hex hal CC
      obtain ⟨ex, N, hex, KP⟩ := snap F Nc
      clear Nc
      clear hV1
      obtain ⟨a2, d2, es2, n2, l2, vs2, he2, hV2, hl2, hA2, cr2, br2⟩ := (FS.1 _ (List.Mem.head _)).opn
      dsimp only at he2 hV2 hA2 cr2
      first | subst he2 | cases he2
      have hV2' := hV2
      obtain ⟨hV21, hV22, h1V2, h2V2, h3V2, h4V2, h5V2, t1V2, t2V2, t3V2, t4V2, t5V2, tkV2, rfl⟩ := hV2'
      repeat' walk1
      all_goals (try k_data)
      refine go (call_len_list hl2 (by have := hA2.1; have := ded_le (xs); simp; omega) ?_)
      rw [show (vs2.toArray.size : Int) = ((ded (xs)).length : Nat) by simp [hA2.1]]
      repeat' walk1
      all_goals (try k_data)
      rename Fr _ _ _ _ => F
      rename News _ _ _ _ => N
      have K := KP _ _ _ F N
      replace FS := FS.kb K fun _ h => h
      have hal : ∀ a ∈ [s₁.heap.objs.size, s₁.heap.objs.size + 1], ∃ o, Heap.get? _ a = some o := two_all (ns_alive F.ns) ⟨_, (N _ (List.Mem.head _)).1⟩
      have CC := C.ext F.keep
      refine go (use (distinct (xs := ys) CC (room0.le (by decide)) (FS.1 _ (List.Mem.tail _ six_v)) (by omega)) fun dvv h' tk x p => ?_)
      dsimp only at x p
      replace FS := (FS.ext x).cons (p.toB.mono (bf_bad hal))
      replace cr1 := cr1.step K x
      replace cr2 := cr2.step K x
      replace F := fr_by F x
      have Nc : News _ _ _ [(s₁.heap.objs.size + 1, _)] := newsBy (fun p hp => N p (mem_first hp)) x
      clear N KP hex hal CC
      obtain ⟨ex, N, hex, KP⟩ := snap F Nc
      clear Nc
      clear hV2
      obtain ⟨a3, d3, es3, n3, l3, vs3, he3, hV3, hl3, hA3, cr3, br3⟩ := (FS.1 _ (List.Mem.head _)).opn
      dsimp only at he3 hV3 hA3 cr3
      first | subst he3 | cases he3
      have hV3' := hV3
      obtain ⟨hV31, hV32, h1V3, h2V3, h3V3, h4V3, h5V3, t1V3, t2V3, t3V3, t4V3, t5V3, tkV3, rfl⟩ := hV3'
      repeat' walk1
      all_goals (try k_data)
      refine go (call_len_list hl3 (by have := hA3.1; have := ded_le (ys); simp; omega) ?_)
      rw [show (vs3.toArray.size : Int) = ((ded (ys)).length : Nat) by simp [hA3.1]]
      repeat' walk1
      all_goals (try k_data)
      clear hV3
      obtain ⟨a4, d4, es4, n4, l4, vs4, he4, hV4, hl4, hA4, cr4, br4⟩ := (FS.1 _ (List.Mem.tail _ (List.Mem.tail _ six_common))).opn
      dsimp only at he4 hV4 hA4 cr4
      first | subst he4 | cases he4
      have hV4' := hV4
      obtain ⟨hV41, hV42, h1V4, h2V4, h3V4, h4V4, h5V4, t1V4, t2V4, t3V4, t4V4, t5V4, tkV4, rfl⟩ := hV4'
      repeat' walk1
      all_goals (try k_data)
      refine go (call_len_list hl4 (by have := hA4.1; have := ded_le (xs.filter (· ∈ ys)); simp; omega) ?_)
      rw [show (vs4.toArray.size : Int) = ((ded (xs.filter (· ∈ ys))).length : Nat) by simp [hA4.1]]
      repeat' walk1
      all_goals (try k_data)
      all_goals first
        | (exfalso; rename (_ : Int) ≠ _ => q; exact q (by have := law1 xs ys; omega))
        | (
          rename Fr _ _ _ _ => F
          rename News _ _ _ _ => N
          have K := KP _ _ _ F N
          replace FS := FS.kb K fun _ h => h
          exact ⟨_, _, oc, _, _, _, _, _, _, tv, ku, kw, xs, ys, zs, m, rfl, F, fun p hp => N p (mem_first hp), hoc, ⟨fun p hp => FS.1 p (List.Mem.tail _ (List.Mem.tail _ hp)), FS.2⟩, hkw, hxs, hys, hzs⟩)
    clear hM s'
    intro s' hM
    refine cut1 (Mid2 s₁ s₁.heap.objs.size (s₁.heap.objs.size + 1)) ?_ ?_
    · obtain ⟨h', tk, oc, uv, vv, wv, ev, cv, rv, tv, ku, kw, xs, ys, zs, m, rfl, F, Nc, hoc, FS, hkw, hxs, hys, hzs⟩ := hM
      obtain ⟨ex, N, hex, KP⟩ := snap F Nc
      clear Nc
      repeat' walk1
      all_goals (try k_data)
      rename Fr _ _ _ _ => F
      rename News _ _ _ _ => N
      have K := KP _ _ _ F N
      replace FS := FS.kb K fun _ h => h
      have hal : ∀ a ∈ [s₁.heap.objs.size, s₁.heap.objs.size + 1], ∃ o, Heap.get? _ a = some o := two_all (ns_alive F.ns) ⟨_, (N _ (List.Mem.head _)).1⟩
      have CC := C.ext F.keep
      refine go (use (union_of (xs := ded (xs.filter (fun x => decide (x ∉ ys)))) (ys := ded (xs.filter (· ∈ ys))) CC (room0.le (by decide)) (FS.1 _ (six_rest)) (FS.1 _ (six_common)) (.inl rfl) (ded_lt _) (ded_lt _)) fun r1v h' tk x p => ?_)
      dsimp only at x p
      rw [join_self] at p
      replace FS := (FS.ext x).cons (p.toB.mono (bf_bad hal))
      replace F := fr_by F x
      have Nc : News _ _ _ [(s₁.heap.objs.size + 1, _)] := newsBy (fun p hp => N p (mem_first hp)) x
      clear N KP hex hal CC
      obtain ⟨ex, N, hex, KP⟩ := snap F Nc
      clear Nc
      repeat' walk1
      all_goals (try k_data)
      rename Fr _ _ _ _ => F
      rename News _ _ _ _ => N
      have K := KP _ _ _ F N
      replace FS := FS.kb K fun _ h => h
      have hal : ∀ a ∈ [s₁.heap.objs.size, s₁.heap.objs.size + 1], ∃ o, Heap.get? _ a = some o := two_all (ns_alive F.ns) ⟨_, (N _ (List.Mem.head _)).1⟩
      have CC := C.ext F.keep
      refine go (use (same_sets (xs := ded (ded (xs.filter (fun x => decide (x ∉ ys))) ++ ded (xs.filter (· ∈ ys)))) (ys := xs) CC (room0.le (by decide)) (FS.1 _ (List.Mem.head _)).of (FS.1 _ (List.Mem.tail _ six_u)).of (.inl rfl) (ded_lt _) (by omega)) fun bv h' tk x p => ?_)
      dsimp only at x p
      rw [law2] at p
      subst p
      replace FS := FS.ext x
      replace F := fr_by F x
      have Nc : News _ _ _ [(s₁.heap.objs.size + 1, _)] := newsBy (fun p hp => N p (mem_first hp)) x
      clear N KP hex hal CC
      obtain ⟨ex, N, hex, KP⟩ := snap F Nc
      clear Nc
      repeat' walk1
      all_goals (try k_data)
      rename Fr _ _ _ _ => F
      rename News _ _ _ _ => N
      have K := KP _ _ _ F N
      replace FS := FS.kb K fun _ h => h
      have hal : ∀ a ∈ [s₁.heap.objs.size, s₁.heap.objs.size + 1], ∃ o, Heap.get? _ a = some o := two_all (ns_alive F.ns) ⟨_, (N _ (List.Mem.head _)).1⟩
      have CC := C.ext F.keep
      refine go (use (intersect_of (xs := ded (xs.filter (fun x => decide (x ∉ ys)))) (ys := ys) CC (room0.le (by decide)) (FS.1 _ (List.Mem.tail _ six_rest)) (FS.1 _ (List.Mem.tail _ six_v)) (.inl rfl) (ded_lt _) (by omega)) fun i1v h' tk x p => ?_)
      dsimp only at x p
      rw [join_self] at p
      replace FS := (FS.ext x).cons (p.toB.mono (bf_bad hal))
      replace F := fr_by F x
      have Nc : News _ _ _ [(s₁.heap.objs.size + 1, _)] := newsBy (fun p hp => N p (mem_first hp)) x
      clear N KP hex hal CC
      obtain ⟨ex, N, hex, KP⟩ := snap F Nc
      clear Nc
      obtain ⟨a1, d1, es1, n1, l1, vs1, he1, hV1, hl1, hA1, cr1, br1⟩ := (FS.1 _ (List.Mem.head _)).opn
      dsimp only at he1 hV1 hA1 cr1
      first | subst he1 | cases he1
      have hV1' := hV1
      obtain ⟨hV11, hV12, h1V1, h2V1, h3V1, h4V1, h5V1, t1V1, t2V1, t3V1, t4V1, t5V1, tkV1, rfl⟩ := hV1'
      repeat' walk1
      all_goals (try k_data)
      rename Fr _ _ _ _ => F
      rename News _ _ _ _ => N
      have hnl := News.isList N (List.Mem.head _)
      replace N := news_sub N fun p hp => List.Mem.tail _ hp
      have ⟨hlx, hAx⟩ := cr1 _ (KP _ _ _ F N)
      refine ne_same (ws := []) hlx hAx hnl atoms_nil unit4 (law2b _ _) ?_
      repeat' walk1
      all_goals (try k_data)
      rename Fr _ _ _ _ => F
      rename News _ _ _ _ => N
      have K := KP _ _ _ F N
      replace FS := FS.kb K fun _ h => h
      exact ⟨_, _, oc, _, _, _, _, _, _, tv, ku, kw, xs, ys, zs, m, rfl, F, fun p hp => N p (mem_first hp), hoc, ⟨fun p hp => FS.1 p (List.Mem.tail _ (List.Mem.tail _ hp)), FS.2⟩, hkw, hxs, hys, hzs⟩
    clear hM s'
    intro s' hM
    refine cut1 (Mid2 s₁ s₁.heap.objs.size (s₁.heap.objs.size + 1)) ?_ ?_
    · obtain ⟨h', tk, oc, uv, vv, wv, ev, cv, rv, tv, ku, kw, xs, ys, zs, m, rfl, F, Nc, hoc, FS, hkw, hxs, hys, hzs⟩ := hM
      obtain ⟨ex, N, hex, KP⟩ := snap F Nc
      clear Nc
      repeat' walk1
      all_goals (try k_data)
      rename Fr _ _ _ _ => F
      rename News _ _ _ _ => N
      have K := KP _ _ _ F N
      replace FS := FS.kb K fun _ h => h
      have hal : ∀ a ∈ [s₁.heap.objs.size, s₁.heap.objs.size + 1], ∃ o, Heap.get? _ a = some o := two_all (ns_alive F.ns) ⟨_, (N _ (List.Mem.head _)).1⟩
      have CC := C.ext F.keep
      refine go (use (union_of (xs := ys) (ys := zs) CC (room0.le (by decide)) (FS.1 _ (six_v)) (FS.1 _ (six_w)) hkw (by omega) (by omega)) fun t1v h' tk x p => ?_)
      dsimp only at x p
      replace FS := (FS.ext x).cons (p.toB.mono (bf_bad hal))
      replace F := fr_by F x
      have Nc : News _ _ _ [(s₁.heap.objs.size + 1, _)] := newsBy (fun p hp => N p (mem_first hp)) x
      clear N KP hex hal CC
      obtain ⟨ex, N, hex, KP⟩ := snap F Nc
      clear Nc
      repeat' walk1
      all_goals (try k_data)
      rename Fr _ _ _ _ => F
      rename News _ _ _ _ => N
      have K := KP _ _ _ F N
      replace FS := FS.kb K fun _ h => h
      have hal : ∀ a ∈ [s₁.heap.objs.size, s₁.heap.objs.size + 1], ∃ o, Heap.get? _ a = some o := two_all (ns_alive F.ns) ⟨_, (N _ (List.Mem.head _)).1⟩
      have CC := C.ext F.keep
      refine go (use (intersect_of (xs := xs) (ys := ded (ys ++ zs)) CC (room0.le (by decide)) (FS.1 _ (List.Mem.tail _ six_u)) (FS.1 _ (List.Mem.head _)) hkw.join (by omega) (ded_lt _)) fun t2v h' tk x p => ?_)
      dsimp only at x p
      rw [join_join hkw] at p
      replace FS := (FS.ext x).cons (p.toB.mono (bf_bad hal))
      replace F := fr_by F x
      have Nc : News _ _ _ [(s₁.heap.objs.size + 1, _)] := newsBy (fun p hp => N p (mem_first hp)) x
      clear N KP hex hal CC
      obtain ⟨ex, N, hex, KP⟩ := snap F Nc
      clear Nc
      repeat' walk1
      all_goals (try k_data)
      rename Fr _ _ _ _ => F
      rename News _ _ _ _ => N
      have K := KP _ _ _ F N
      replace FS := FS.kb K fun _ h => h
      have hal : ∀ a ∈ [s₁.heap.objs.size, s₁.heap.objs.size + 1], ∃ o, Heap.get? _ a = some o := two_all (ns_alive F.ns) ⟨_, (N _ (List.Mem.head _)).1⟩
      have CC := C.ext F.keep
      refine go (use (intersect_of (xs := xs) (ys := ys) CC (room0.le (by decide)) (FS.1 _ (List.Mem.tail _ (List.Mem.tail _ six_u))) (FS.1 _ (List.Mem.tail _ (List.Mem.tail _ six_v))) (.inl rfl) (by omega) (by omega)) fun t3v h' tk x p => ?_)
      dsimp only at x p
      rw [join_self] at p
      replace FS := (FS.ext x).cons (p.toB.mono (bf_bad hal))
      replace F := fr_by F x
      have Nc : News _ _ _ [(s₁.heap.objs.size + 1, _)] := newsBy (fun p hp => N p (mem_first hp)) x
      clear N KP hex hal CC
      obtain ⟨ex, N, hex, KP⟩ := snap F Nc
      clear Nc
      repeat' walk1
      all_goals (try k_data)
      rename Fr _ _ _ _ => F
      rename News _ _ _ _ => N
      have K := KP _ _ _ F N
      replace FS := FS.kb K fun _ h => h
      have hal : ∀ a ∈ [s₁.heap.objs.size, s₁.heap.objs.size + 1], ∃ o, Heap.get? _ a = some o := two_all (ns_alive F.ns) ⟨_, (N _ (List.Mem.head _)).1⟩
      have CC := C.ext F.keep
      refine go (use (intersect_of (xs := xs) (ys := zs) CC (room0.le (by decide)) (FS.1 _ (List.Mem.tail _ (List.Mem.tail _ (List.Mem.tail _ six_u)))) (FS.1 _ (List.Mem.tail _ (List.Mem.tail _ (List.Mem.tail _ six_w)))) hkw (by omega) (by omega)) fun t4v h' tk x p => ?_)
      dsimp only at x p
      replace FS := (FS.ext x).cons (p.toB.mono (bf_bad hal))
      replace F := fr_by F x
      have Nc : News _ _ _ [(s₁.heap.objs.size + 1, _)] := newsBy (fun p hp => N p (mem_first hp)) x
      clear N KP hex hal CC
      obtain ⟨ex, N, hex, KP⟩ := snap F Nc
      clear Nc
      repeat' walk1
      all_goals (try k_data)
      rename Fr _ _ _ _ => F
      rename News _ _ _ _ => N
      have K := KP _ _ _ F N
      replace FS := FS.kb K fun _ h => h
      have hal : ∀ a ∈ [s₁.heap.objs.size, s₁.heap.objs.size + 1], ∃ o, Heap.get? _ a = some o := two_all (ns_alive F.ns) ⟨_, (N _ (List.Mem.head _)).1⟩
      have CC := C.ext F.keep
      refine go (use (union_of (xs := ded (xs.filter (· ∈ ys))) (ys := ded (xs.filter (· ∈ zs))) CC (room0.le (by decide)) (FS.1 _ (List.Mem.tail _ (List.Mem.head _))) (FS.1 _ (List.Mem.head _)) hkw.join (ded_lt _) (ded_lt _)) fun t5v h' tk x p => ?_)
      dsimp only at x p
      rw [join_join hkw] at p
      replace FS := (FS.ext x).cons (p.toB.mono (bf_bad hal))
      replace F := fr_by F x
      have Nc : News _ _ _ [(s₁.heap.objs.size + 1, _)] := newsBy (fun p hp => N p (mem_first hp)) x
      clear N KP hex hal CC
      obtain ⟨ex, N, hex, KP⟩ := snap F Nc
      clear Nc
      repeat' walk1
      all_goals (try k_data)
      rename Fr _ _ _ _ => F
      rename News _ _ _ _ => N
      have K := KP _ _ _ F N
      replace FS := FS.kb K fun _ h => h
      have hal : ∀ a ∈ [s₁.heap.objs.size, s₁.heap.objs.size + 1], ∃ o, Heap.get? _ a = some o := two_all (ns_alive F.ns) ⟨_, (N _ (List.Mem.head _)).1⟩
      have CC := C.ext F.keep
      refine go (use (same_sets (xs := ded (xs.filter (· ∈ ded (ys ++ zs)))) (ys := ded (ded (xs.filter (· ∈ ys)) ++ ded (xs.filter (· ∈ zs)))) CC (room0.le (by decide)) (FS.1 _ (List.Mem.tail _ (List.Mem.tail _ (List.Mem.tail _ (List.Mem.head _))))).of (FS.1 _ (List.Mem.head _)).of (.inl rfl) (ded_lt _) (ded_lt _)) fun bv h' tk x p => ?_)
      dsimp only at x p
      rw [law3] at p
      subst p
      replace FS := FS.ext x
      replace F := fr_by F x
      have Nc : News _ _ _ [(s₁.heap.objs.size + 1, _)] := newsBy (fun p hp => N p (mem_first hp)) x
      clear N KP hex hal CC
      obtain ⟨ex, N, hex, KP⟩ := snap F Nc
      clear Nc
      repeat' walk1
      all_goals (try k_data)
      rename Fr _ _ _ _ => F
      rename News _ _ _ _ => N
      have K := KP _ _ _ F N
      replace FS := FS.kb K fun _ h => h
      exact ⟨_, _, oc, _, _, _, _, _, _, tv, ku, kw, xs, ys, zs, m, rfl, F, fun p hp => N p (mem_first hp), hoc, ⟨fun p hp => FS.1 p (List.Mem.tail _ (List.Mem.tail _ (List.Mem.tail _ (List.Mem.tail _ (List.Mem.tail _ hp))))), FS.2⟩, hkw, hxs, hys, hzs⟩
    clear hM s'
    intro s' hM
    refine cut1 (Mid2 s₁ s₁.heap.objs.size (s₁.heap.objs.size + 1)) ?_ ?_
    · obtain ⟨h', tk, oc, uv, vv, wv, ev, cv, rv, tv, ku, kw, xs, ys, zs, m, rfl, F, Nc, hoc, FS, hkw, hxs, hys, hzs⟩ := hM
      obtain ⟨ex, N, hex, KP⟩ := snap F Nc
      clear Nc
      repeat' walk1
      all_goals (try k_data)
      rename Fr _ _ _ _ => F
      rename News _ _ _ _ => N
      have K := KP _ _ _ F N
      replace FS := FS.kb K fun _ h => h
      have hal : ∀ a ∈ [s₁.heap.objs.size, s₁.heap.objs.size + 1], ∃ o, Heap.get? _ a = some o := two_all (ns_alive F.ns) ⟨_, (N _ (List.Mem.head _)).1⟩
      have CC := C.ext F.keep
      refine go (use (union_of (xs := ys) (ys := zs) CC (room0.le (by decide)) (FS.1 _ (six_v)) (FS.1 _ (six_w)) hkw (by omega) (by omega)) fun t1v h' tk x p => ?_)
      dsimp only at x p
      replace FS := (FS.ext x).cons (p.toB.mono (bf_bad hal))
      replace F := fr_by F x
      have Nc : News _ _ _ [(s₁.heap.objs.size + 1, _)] := newsBy (fun p hp => N p (mem_first hp)) x
      clear N KP hex hal CC
      obtain ⟨ex, N, hex, KP⟩ := snap F Nc
      clear Nc
      repeat' walk1
      all_goals (try k_data)
      rename Fr _ _ _ _ => F
      rename News _ _ _ _ => N
      have K := KP _ _ _ F N
      replace FS := FS.kb K fun _ h => h
      have hal : ∀ a ∈ [s₁.heap.objs.size, s₁.heap.objs.size + 1], ∃ o, Heap.get? _ a = some o := two_all (ns_alive F.ns) ⟨_, (N _ (List.Mem.head _)).1⟩
      have CC := C.ext F.keep
      refine go (use (setdiff_of (xs := xs) (ys := ded (ys ++ zs)) CC (room0.le (by decide)) (FS.1 _ (List.Mem.tail _ six_u)) (FS.1 _ (List.Mem.head _)).of hkw.join (by omega) (ded_lt _)) fun t2v h' tk x p => ?_)
      dsimp only at x p
      replace FS := (FS.ext x).cons (p.toB.mono (bf_bad hal))
      replace F := fr_by F x
      have Nc : News _ _ _ [(s₁.heap.objs.size + 1, _)] := newsBy (fun p hp => N p (mem_first hp)) x
      clear N KP hex hal CC
      obtain ⟨ex, N, hex, KP⟩ := snap F Nc
      clear Nc
      obtain ⟨a1, d1, es1, n1, l1, vs1, he1, hV1, hl1, hA1, cr1, br1⟩ := (FS.1 _ (List.Mem.head _)).opn
      dsimp only at he1 hV1 hA1 cr1
      first | subst he1 | cases he1
      have hV1' := hV1
      obtain ⟨hV11, hV12, h1V1, h2V1, h3V1, h4V1, h5V1, t1V1, t2V1, t3V1, t4V1, t5V1, tkV1, rfl⟩ := hV1'
      repeat' walk1
      all_goals (try k_data)
      rename Fr _ _ _ _ => F
      rename News _ _ _ _ => N
      have K := KP _ _ _ F N
      replace FS := FS.kb K fun _ h => h
      have hal : ∀ a ∈ [s₁.heap.objs.size, s₁.heap.objs.size + 1], ∃ o, Heap.get? _ a = some o := two_all (ns_alive F.ns) ⟨_, (N _ (List.Mem.head _)).1⟩
      have CC := C.ext F.keep
      refine go (use (setdiff_of (xs := xs) (ys := ys) CC (room0.le (by decide)) (FS.1 _ (List.Mem.tail _ (List.Mem.tail _ six_u))) (FS.1 _ (List.Mem.tail _ (List.Mem.tail _ six_v))).of (.inl rfl) (by omega) (by omega)) fun t3v h' tk x p => ?_)
      dsimp only at x p
      replace FS := (FS.ext x).cons (p.toB.mono (bf_bad hal))
      replace cr1 := cr1.step K x
      replace F := fr_by F x
      have Nc : News _ _ _ [(s₁.heap.objs.size + 1, _)] := newsBy (fun p hp => N p (mem_first hp)) x
      clear N KP hex hal CC
      obtain ⟨ex, N, hex, KP⟩ := snap F Nc
      clear Nc
      repeat' walk1
      all_goals (try k_data)
      rename Fr _ _ _ _ => F
      rename News _ _ _ _ => N
      have K := KP _ _ _ F N
      replace FS := FS.kb K fun _ h => h
      have hal : ∀ a ∈ [s₁.heap.objs.size, s₁.heap.objs.size + 1], ∃ o, Heap.get? _ a = some o := two_all (ns_alive F.ns) ⟨_, (N _ (List.Mem.head _)).1⟩
      have CC := C.ext F.keep
      refine go (use (setdiff_of (xs := ded (xs.filter (fun x => decide (x ∉ ys)))) (ys := zs) CC (room0.le (by decide)) (FS.1 _ (List.Mem.head _)) (FS.1 _ (List.Mem.tail _ (List.Mem.tail _ (List.Mem.tail _ six_w)))).of hkw (ded_lt _) (by omega)) fun t4v h' tk x p => ?_)
      dsimp only at x p
      replace FS := (FS.ext x).cons (p.toB.mono (bf_bad hal))
      replace cr1 := cr1.step K x
      replace F := fr_by F x
      have Nc : News _ _ _ [(s₁.heap.objs.size + 1, _)] := newsBy (fun p hp => N p (mem_first hp)) x
      clear N KP hex hal CC
      obtain ⟨ex, N, hex, KP⟩ := snap F Nc
      clear Nc
      clear hV1
      obtain ⟨a2, d2, es2, n2, l2, vs2, he2, hV2, hl2, hA2, cr2, br2⟩ := (FS.1 _ (List.Mem.head _)).opn
      dsimp only at he2 hV2 hA2 cr2
      first | subst he2 | cases he2
      have hV2' := hV2
      obtain ⟨hV21, hV22, h1V2, h2V2, h3V2, h4V2, h5V2, t1V2, t2V2, t3V2, t4V2, t5V2, tkV2, rfl⟩ := hV2'
      repeat' walk1
      all_goals (try k_data)
      rename Fr _ _ _ _ => F
      rename News _ _ _ _ => N
      have ⟨hlx, hAx⟩ := cr1 _ (KP _ _ _ F N)
      have ⟨hly, hAy⟩ := cr2 _ (KP _ _ _ F N)
      refine ne_same hlx hAx hly hAy unit4 (law4 _ _ _) ?_
      repeat' walk1
      all_goals (try k_data)
      rename Fr _ _ _ _ => F
      rename News _ _ _ _ => N
      have K := KP _ _ _ F N
      replace FS := FS.kb K fun _ h => h
      exact ⟨_, _, oc, _, _, _, _, _, _, tv, ku, kw, xs, ys, zs, m, rfl, F, fun p hp => N p (mem_first hp), hoc, ⟨fun p hp => FS.1 p (List.Mem.tail _ (List.Mem.tail _ (List.Mem.tail _ (List.Mem.tail _ hp)))), FS.2⟩, hkw, hxs, hys, hzs⟩
    clear hM s'
    intro s' hM
    refine cut1 (Mid2 s₁ s₁.heap.objs.size (s₁.heap.objs.size + 1)) ?_ ?_
    · obtain ⟨h', tk, oc, uv, vv, wv, ev, cv, rv, tv, ku, kw, xs, ys, zs, m, rfl, F, Nc, hoc, FS, hkw, hxs, hys, hzs⟩ := hM
      obtain ⟨ex, N, hex, KP⟩ := snap F Nc
      clear Nc
      repeat' walk1
      all_goals (try k_data)
      rename Fr _ _ _ _ => F
      rename News _ _ _ _ => N
      have K := KP _ _ _ F N
      replace FS := FS.kb K fun _ h => h
      have hal : ∀ a ∈ [s₁.heap.objs.size, s₁.heap.objs.size + 1], ∃ o, Heap.get? _ a = some o := two_all (ns_alive F.ns) ⟨_, (N _ (List.Mem.head _)).1⟩
      have CC := C.ext F.keep
      refine go (use (union_of (xs := xs) (ys := xs) CC (room0.le (by decide)) (FS.1 _ (six_u)) (FS.1 _ (six_u)) (.inl rfl) (by omega) (by omega)) fun t1v h' tk x p => ?_)
      dsimp only at x p
      rw [join_self, law5] at p
      replace FS := (FS.ext x).cons (p.toB.mono (bf_bad hal))
      replace F := fr_by F x
      have Nc : News _ _ _ [(s₁.heap.objs.size + 1, _)] := newsBy (fun p hp => N p (mem_first hp)) x
      clear N KP hex hal CC
      obtain ⟨ex, N, hex, KP⟩ := snap F Nc
      clear Nc
      obtain ⟨a1, d1, es1, n1, l1, vs1, he1, hV1, hl1, hA1, cr1, br1⟩ := (FS.1 _ (List.Mem.head _)).opn
      dsimp only at he1 hV1 hA1 cr1
      first | subst he1 | cases he1
      have hV1' := hV1
      obtain ⟨hV11, hV12, h1V1, h2V1, h3V1, h4V1, h5V1, t1V1, t2V1, t3V1, t4V1, t5V1, tkV1, rfl⟩ := hV1'
      repeat' walk1
      all_goals (try k_data)
      rename Fr _ _ _ _ => F
      rename News _ _ _ _ => N
      have K := KP _ _ _ F N
      replace FS := FS.kb K fun _ h => h
      have hal : ∀ a ∈ [s₁.heap.objs.size, s₁.heap.objs.size + 1], ∃ o, Heap.get? _ a = some o := two_all (ns_alive F.ns) ⟨_, (N _ (List.Mem.head _)).1⟩
      have CC := C.ext F.keep
      refine go (use (distinct (xs := xs) CC (room0.le (by decide)) (FS.1 _ (List.Mem.tail _ six_u)) (by omega)) fun t2v h' tk x p => ?_)
      dsimp only at x p
      replace FS := (FS.ext x).cons (p.toB.mono (bf_bad hal))
      replace cr1 := cr1.step K x
      replace F := fr_by F x
      have Nc : News _ _ _ [(s₁.heap.objs.size + 1, _)] := newsBy (fun p hp => N p (mem_first hp)) x
      clear N KP hex hal CC
      obtain ⟨ex, N, hex, KP⟩ := snap F Nc
      clear Nc
      clear hV1
      obtain ⟨a2, d2, es2, n2, l2, vs2, he2, hV2, hl2, hA2, cr2, br2⟩ := (FS.1 _ (List.Mem.head _)).opn
      dsimp only at he2 hV2 hA2 cr2
      first | subst he2 | cases he2
      have hV2' := hV2
      obtain ⟨hV21, hV22, h1V2, h2V2, h3V2, h4V2, h5V2, t1V2, t2V2, t3V2, t4V2, t5V2, tkV2, rfl⟩ := hV2'
      repeat' walk1
      all_goals (try k_data)
      rename Fr _ _ _ _ => F
      rename News _ _ _ _ => N
      have ⟨hlx, hAx⟩ := cr1 _ (KP _ _ _ F N)
      have ⟨hly, hAy⟩ := cr2 _ (KP _ _ _ F N)
      refine ne_same hlx hAx hly hAy unit4 (rfl) ?_
      repeat' walk1
      all_goals (try k_data)
      clear hV2
      obtain ⟨a3, d3, es3, n3, l3, vs3, he3, hV3, hl3, hA3, cr3, br3⟩ := (FS.1 _ (List.Mem.tail _ (List.Mem.tail _ six_every))).opn
      dsimp only at he3 hV3 hA3 cr3
      first | subst he3 | cases he3
      have hV3' := hV3
      obtain ⟨hV31, hV32, h1V3, h2V3, h3V3, h4V3, h5V3, t1V3, t2V3, t3V3, t4V3, t5V3, tkV3, rfl⟩ := hV3'
      repeat' walk1
      all_goals (try k_data)
      rename Fr _ _ _ _ => F
      rename News _ _ _ _ => N
      have K := KP _ _ _ F N
      replace FS := FS.kb K fun _ h => h
      have hal : ∀ a ∈ [s₁.heap.objs.size, s₁.heap.objs.size + 1], ∃ o, Heap.get? _ a = some o := two_all (ns_alive F.ns) ⟨_, (N _ (List.Mem.head _)).1⟩
      have CC := C.ext F.keep
      refine go (use (distinct (xs := xs) CC (room0.le (by decide)) (FS.1 _ (List.Mem.tail _ (List.Mem.tail _ six_u))) (by omega)) fun t3v h' tk x p => ?_)
      dsimp only at x p
      replace FS := (FS.ext x).cons (p.toB.mono (bf_bad hal))
      replace cr1 := cr1.step K x
      replace cr2 := cr2.step K x
      replace cr3 := cr3.step K x
      replace F := fr_by F x
      have Nc : News _ _ _ [(s₁.heap.objs.size + 1, _)] := newsBy (fun p hp => N p (mem_first hp)) x
      clear N KP hex hal CC
      obtain ⟨ex, N, hex, KP⟩ := snap F Nc
      clear Nc
      clear hV3
      obtain ⟨a4, d4, es4, n4, l4, vs4, he4, hV4, hl4, hA4, cr4, br4⟩ := (FS.1 _ (List.Mem.head _)).opn
      dsimp only at he4 hV4 hA4 cr4
      first | subst he4 | cases he4
      have hV4' := hV4
      obtain ⟨hV41, hV42, h1V4, h2V4, h3V4, h4V4, h5V4, t1V4, t2V4, t3V4, t4V4, t5V4, tkV4, rfl⟩ := hV4'
      repeat' walk1
      all_goals (try k_data)
      refine go (call_len_list hl4 (by have := hA4.1; have := ded_le (xs); simp; omega) ?_)
      rw [show (vs4.toArray.size : Int) = ((ded (xs)).length : Nat) by simp [hA4.1]]
      repeat' walk1
      all_goals (try k_data)
      rename Fr _ _ _ _ => F
      rename News _ _ _ _ => N
      have hsl := cr3 _ (KP _ _ _ F N)
      refine go (kba_turn (value' := PySem.Expr.Name (PySem.Str.ofString "_") ⟨0, 0, 0, 0⟩) (fun _ => rfl) (kmk_slice F N hsl.1 .none (.int _ _) (fun D5 h' F' N' l1 => ?_) (by with_unfolding_all rfl) (fun _ => rfl) (by have := hA3.1; simp [sizeLine_eq]; have := ded_le (xs ++ ys); omega)))
      rw [show slicePick vs3.toArray none (some (((ded xs).length : Nat) : Int)) none = (vs3.take (ded xs).length).toArray from slicePick_upto' _ _] at N'
      have hD5 := not_two (N' _ (List.Mem.head _)).2.1 (l1 _ (List.Mem.head _))
      have hl5 := News.isList N' (List.Mem.head _)
      have K' := KP _ _ _ F' (news_sub N' fun p hp => List.Mem.tail _ hp)
      have cr5 := carry_list hl5 hD5 ((cr3.kb K').map fun _ q => q.2.takeX (ded xs).length)
      replace FS := FS.kb K' fun _ h => h
      replace cr1 := cr1.kb K'
      replace cr2 := cr2.kb K'
      replace cr3 := cr3.kb K'
      replace cr4 := cr4.kb K'
      have Nc : News _ _ _ [(s₁.heap.objs.size + 1, _)] := fun p hp => N' p (mem_second hp)
      clear N N' F KP hex K' hsl
      obtain ⟨ex, N, hex, KP⟩ := snap F' Nc
      clear Nc
      repeat' walk1
      all_goals (try k_data)
      rename Fr _ _ _ _ => F
      rename News _ _ _ _ => N
      have K := KP _ _ _ F N
      replace FS := FS.kb K fun _ h => h
      have hal : ∀ a ∈ [s₁.heap.objs.size, s₁.heap.objs.size + 1], ∃ o, Heap.get? _ a = some o := two_all (ns_alive F.ns) ⟨_, (N _ (List.Mem.head _)).1⟩
      have CC := C.ext F.keep
      refine go (use (distinct (xs := xs) CC (room0.le (by decide)) (FS.1 _ (List.Mem.tail _ (List.Mem.tail _ (List.Mem.tail _ six_u)))) (by omega)) fun t4v h' tk x p => ?_)
      dsimp only at x p
      replace FS := (FS.ext x).cons (p.toB.mono (bf_bad hal))
      replace cr1 := cr1.step K x
      replace cr2 := cr2.step K x
      replace cr3 := cr3.step K x
      replace cr4 := cr4.step K x
      replace cr5 := cr5.step K x
      replace F := fr_by F x
      have Nc : News _ _ _ [(s₁.heap.objs.size + 1, _)] := newsBy (fun p hp => N p (mem_first hp)) x
      clear N KP hex hal CC
      obtain ⟨ex, N, hex, KP⟩ := snap F Nc
      clear Nc
      clear hV4
      obtain ⟨a6, d6, es6, n6, l6, vs6, he6, hV6, hl6, hA6, cr6, br6⟩ := (FS.1 _ (List.Mem.head _)).opn
      dsimp only at he6 hV6 hA6 cr6
      first | subst he6 | cases he6
      have hV6' := hV6
      obtain ⟨hV61, hV62, h1V6, h2V6, h3V6, h4V6, h5V6, t1V6, t2V6, t3V6, t4V6, t5V6, tkV6, rfl⟩ := hV6'
      repeat' walk1
      all_goals (try k_data)
      rename Fr _ _ _ _ => F
      rename News _ _ _ _ => N
      have ⟨hlx, hAx⟩ := cr5 _ (KP _ _ _ F N)
      have ⟨hly, hAy⟩ := cr6 _ (KP _ _ _ F N)
      refine ne_same hlx hAx hly hAy unit4 (law5b _ _) ?_
      repeat' walk1
      all_goals (try k_data)
      rename Fr _ _ _ _ => F
      rename News _ _ _ _ => N
      have K := KP _ _ _ F N
      replace FS := FS.kb K fun _ h => h
      exact ⟨_, _, oc, _, _, _, _, _, _, tv, ku, kw, xs, ys, zs, m, rfl, F, fun p hp => N p (mem_first hp), hoc, ⟨fun p hp => FS.1 p (List.Mem.tail _ (List.Mem.tail _ (List.Mem.tail _ (List.Mem.tail _ hp)))), FS.2⟩, hkw, hxs, hys, hzs⟩
    clear hM s'
    intro s' hM
    refine cut1 (Mid2 s₁ s₁.heap.objs.size (s₁.heap.objs.size + 1)) ?_ ?_
    · obtain ⟨h', tk, oc, uv, vv, wv, ev, cv, rv, tv, ku, kw, xs, ys, zs, m, rfl, F, Nc, hoc, FS, hkw, hxs, hys, hzs⟩ := hM
      obtain ⟨ex, N, hex, KP⟩ := snap F Nc
      clear Nc
      obtain ⟨a1, d1, es1, n1, l1, vs1, he1, hV1, hl1, hA1, cr1, br1⟩ := (FS.1 _ (six_u)).opn
      dsimp only at he1 hV1 hA1 cr1
      first | subst he1 | cases he1
      have hV1' := hV1
      obtain ⟨hV11, hV12, h1V1, h2V1, h3V1, h4V1, h5V1, t1V1, t2V1, t3V1, t4V1, t5V1, tkV1, rfl⟩ := hV1'
      repeat' walk1
      all_goals (try k_data)
      rename Fr _ _ _ _ => F
      rename News _ _ _ _ => N
      have hsl := cr1 _ (KP _ _ _ F N)
      refine go (kba_turn (value' := PySem.Expr.Name (PySem.Str.ofString "_") ⟨0, 0, 0, 0⟩) (fun _ => rfl) (krv_lit F N hsl.1 (.int _ _) rfl (fun D2 h' F' N' l1 => ?_) (by with_unfolding_all rfl) (fun _ => rfl) (by have := hA1.1; simp [sizeLine_eq]; omega)))
      have hD2 := not_two (N' _ (List.Mem.head _)).2.1 (l1 _ (List.Mem.head _))
      have hl2 := News.isList N' (List.Mem.head _)
      have K' := KP _ _ _ F' (news_sub N' fun p hp => List.Mem.tail _ hp)
      have cr2 := carry_list hl2 hD2 ((cr1.kb K').map fun _ q => q.2.rev)
      replace FS := FS.kb K' fun _ h => h
      replace cr1 := cr1.kb K'
      have Nc : News _ _ _ [(s₁.heap.objs.size + 1, _)] := fun p hp => N' p (mem_second hp)
      clear N N' F KP hex K' hsl
      obtain ⟨ex, N, hex, KP⟩ := snap F' Nc
      clear Nc
      repeat' walk1
      all_goals (try k_data)
      rename Fr _ _ _ _ => F
      rename News _ _ _ _ => N
      have ⟨hlz, hAz⟩ := cr2 _ (KP _ _ _ F N)
      rename Fr _ _ _ _ => F
      rename News _ _ _ _ => N
      have K := KP _ _ _ F N
      replace FS := FS.kb K fun _ h => h
      have hal : ∀ a ∈ [s₁.heap.objs.size, s₁.heap.objs.size + 1], ∃ o, Heap.get? _ a = some o := two_all (ns_alive F.ns) ⟨_, (N _ (List.Mem.head _)).1⟩
      have CC := C.ext F.keep
      refine go (use (mkVecV (kd := ku) (xs := xs.reverse) CC (room0.le (by decide)) hlz hAz hD2 (fun v hv b e => br1 v (List.mem_reverse.mp hv) b e)) fun nvv h' tk x p => ?_)
      dsimp only at x p
      replace FS := (FS.ext x).cons (p.toB.mono (bf_bad hal))
      replace cr1 := cr1.step K x
      replace cr2 := cr2.step K x
      replace F := fr_by F x
      have Nc : News _ _ _ [(s₁.heap.objs.size + 1, _)] := newsBy (fun p hp => N p (mem_first hp)) x
      clear N KP hex hal CC
      obtain ⟨ex, N, hex, KP⟩ := snap F Nc
      clear Nc
      repeat' walk1
      all_goals (try k_data)
      rename Fr _ _ _ _ => F
      rename News _ _ _ _ => N
      have K := KP _ _ _ F N
      replace FS := FS.kb K fun _ h => h
      have hal : ∀ a ∈ [s₁.heap.objs.size, s₁.heap.objs.size + 1], ∃ o, Heap.get? _ a = some o := two_all (ns_alive F.ns) ⟨_, (N _ (List.Mem.head _)).1⟩
      have CC := C.ext F.keep
      refine go (use (same_sets (xs := xs) (ys := xs.reverse) CC (room0.le (by decide)) (FS.1 _ (List.Mem.tail _ six_u)).of (FS.1 _ (List.Mem.head _)).of (.inl rfl) (by omega) (by simp; omega)) fun bv h' tk x p => ?_)
      dsimp only at x p
      rw [law6] at p
      subst p
      replace FS := FS.ext x
      replace F := fr_by F x
      have Nc : News _ _ _ [(s₁.heap.objs.size + 1, _)] := newsBy (fun p hp => N p (mem_first hp)) x
      clear N KP hex hal CC
      obtain ⟨ex, N, hex, KP⟩ := snap F Nc
      clear Nc
      repeat' walk1
      all_goals (try k_data)
      rename Fr _ _ _ _ => F
      rename News _ _ _ _ => N
      have K := KP _ _ _ F N
      replace FS := FS.kb K fun _ h => h
      exact ⟨_, _, oc, _, _, _, _, _, _, tv, ku, kw, xs, ys, zs, m, rfl, F, fun p hp => N p (mem_first hp), hoc, ⟨fun p hp => FS.1 p (List.Mem.tail _ hp), FS.2⟩, hkw, hxs, hys, hzs⟩
    clear hM s'
    intro s' hM
    refine cutEnd (Last s₁ s₁.heap.objs.size) ?_ ?_
    · obtain ⟨h', tk, oc, uv, vv, wv, ev, cv, rv, tv, ku, kw, xs, ys, zs, m, rfl, F, Nc, hoc, FS, hkw, hxs, hys, hzs⟩ := hM
      obtain ⟨ex, N, hex, KP⟩ := snap F Nc
      clear Nc
      repeat' walk1
      all_goals (try k_data)
      rename Fr _ _ _ _ => F
      rename News _ _ _ _ => N
      refine' go (AssignListCompG [] (fun _ i _ zs => IntsOf (lix xs i) zs) (fun _ _ _ _ _ R _ => R) (fun _ i _ _ R => R.1 ▸ lix_length xs i) ?hsw ?hh ?hclos ?hcell ?hkind ?hnames ?hx ?hy ?hp ?h ?hs)
      case hsw => with_unfolding_all rfl
      case hh => rfl
      case hclos => with_unfolding_all rfl
      case hcell => decide
      case hkind => with_unfolding_all rfl
      case hnames => decide
      case hx => with_unfolding_all rfl
      case hy => with_unfolding_all rfl
      case hp => with_unfolding_all rfl
      case hs => intro _; with_unfolding_all rfl
      case h =>
        obtain ⟨a1, d1, es1, n1, l1, vs1, he1, hV1, hl1, hA1, cr1, br1⟩ := (FS.1 _ (six_u)).opn
        dsimp only at he1 hV1 hA1 cr1
        first | subst he1 | cases he1
        have hV1' := hV1
        obtain ⟨hV11, hV12, h1V1, h2V1, h3V1, h4V1, h5V1, t1V1, t2V1, t3V1, t4V1, t5V1, tkV1, rfl⟩ := hV1'
        repeat' walk1
        all_goals (try k_data)
        refine go (call_len_list hl1 (by have := hA1.1; simp; omega) ?_)
        rw [show (vs1.toArray.size : Int) = ((xs.length : Nat) : Int) by simp [hA1.1]]
        repeat' walk1
        all_goals (try k_data)
        rename Fr _ _ _ _ => F
        rename News _ _ _ _ => N
        refine go (rangeX fun rg h' tk' u' v' x fr => ?_)
        dsimp only at x fr
        replace N := newsAdd F N x (fr)
        replace F := fr_by F x
        try dsimp only [List.cons_append, List.nil_append] at N
        have K := KP _ _ _ F (news_sub N fun p hp => List.Mem.tail _ hp)
        replace FS := FS.kb K fun _ h => h
        have hrg := (N _ (List.Mem.head _)).1
        have Nc : News _ _ _ [(s₁.heap.objs.size + 1, _)] := fun p hp => N p (mem_second hp)
        clear hV1 KP hex K cr1
        obtain ⟨a2, d2, es2, n2, l2, vs2, he2, hV2, hl2, hA2, _, _⟩ := (FS.1 _ (six_u)).opn
        dsimp only at he2 hV2 hA2
        cases he2
        have hnd := FS.2.plain hV2
        refine ⟨rg, xs.length, _, _, _, _, rfl, hrg, by omega, by simp, by simp, F.ns, fun X _ => IntsOf.nil, ?_, fun X' D h' tk ys h₀ hDX hD hp hR hk hn' hk' => ?_⟩
        · intro X' C' i t s₃ m₃ zs E' hi hC hX hCX hXg hR hn hm hk
          dsimp only at hC hXg hk
          replace hk : Ext _ _ := fun b o e => hk b o (by simp) e
          have C3 := C.ext F.keep
          have ⟨X3, T3⟩ := C3
          have c1 := (Nc _ (List.Mem.head _)).1
          have F3 := elt_fr hn hm hC hk
          have N3 := news_nil F3
          dsimp only at c1
          have hV3 := hV2.ext hk
          have hl3 := hl2.at fun _ q => hk _ _ q
          have hA3 := hA2.ext hk
          have hnd3 : s₃.heap.NoDictAt (.ref l2) := by obtain ⟨o, e1, e2⟩ := hnd; exact ⟨o, hk _ _ e1, e2⟩
          obtain ⟨y, hy⟩ : ∃ y, xs[i]? = some y := ⟨_, List.getElem?_eq_getElem hi⟩
          obtain ⟨yv, hyv⟩ : ∃ yv, vs2[i]? = some yv := ⟨_, List.getElem?_eq_getElem (by rw [hA2.1]; exact hi)⟩
          clear N Nc X T' hV2 FS hA2 hl2 hnd
          have hV3' := hV3
          obtain ⟨hV31, hV32, h1V3, h2V3, h3V3, h4V3, h5V3, t1V3, t2V3, t3V3, t4V3, t5V3, tkV3, rfl⟩ := hV3'
          refine Tests.one ?_
          repeat' walk1
          all_goals (try k_data)
          refine go (getMethod_list_of PySem.F.slot_list_count PySem.F.type_list_count hl3 hnd3 ?_)
          repeat' walk1
          all_goals (try k_data)
          rename Fr _ _ _ _ => F3
          refine go (itemX hl3 (by have := hA3.1; omega) hyv ?_ (by with_unfolding_all rfl))
          repeat' walk1
          all_goals (try k_data)
          refine go (count_atoms hl3 hA3 (hA3.2 i yv y hyv hy) unit4 ?_)
          repeat' walk1
          all_goals (try k_data)
          refine go ?_
          by_cases hyc : xs.count y = 1
          · rw [if_pos (by simp [hyc])]
            repeat' walk1
            all_goals (try k_data)
            refine ⟨_, _, rfl, off_nil.mpr (Ext.refl _), ?_⟩
            show IntsOf (lix xs (i + 1)) _
            rw [lix_succ, if_pos (by simp [isLone, hy, hyc])]
            exact hR.snoc
          · rw [if_neg (by simp; omega)]
            refine ⟨_, _, rfl, off_nil.mpr (Ext.refl _), ?_⟩
            show IntsOf (lix xs (i + 1)) _
            rw [lix_succ, if_neg (by simp [isLone, hy, hyc]), List.append_nil]
            exact hR
        · dsimp only at hD hk' ⊢
          have F' : Fr s₁.heap s₁.heap.objs.size h' _ := ⟨hn', fun b o e => hk' b o (Nat.ne_of_lt (Nat.lt_of_lt_of_le (Heap.lt_size e) F.above)) (by simp) (F.keep b o e), F.above⟩
          obtain ⟨kk, hkk⟩ := hp
          have N' : News s₁.heap s₁.heap.objs.size h' ((D, _) :: [(s₁.heap.objs.size + 1, _)]) := assign_news (mx := []) F Nc (fun p hp => ⟨hp, by simp⟩) hD hkk hk hk'
          have Kx : KeepBut [s₁.heap.objs.size, s₁.heap.objs.size + 1] _ h' := fun b o hb e => hk' b o (fun q => hb (by rw [q]; exact List.Mem.head _)) (by simp) e
          replace FS := FS.kb Kx fun _ h => h
          have hDn : D ∉ [s₁.heap.objs.size, s₁.heap.objs.size + 1] := by
            have h1 := (N' _ (List.Mem.head _)).2.1
            have h2 : D ≠ s₁.heap.objs.size + 1 := fun q => by rw [q, (Nc _ (List.Mem.head _)).1] at hD; cases hD
            dsimp only at h1
            simp [h1, h2]
          obtain ⟨us, rfl⟩ : ∃ us : List Value, ys = us.toArray := ⟨ys.toList, by simp⟩
          have hlD := News.isList N' (List.Mem.head _)
          have crD := carry_list (P := fun _ => True) hlD hDn (fun _ _ => trivial)
          replace hR : IntsOf (lix xs xs.length) us := by simpa using hR
          have Nc' : News _ _ _ [(s₁.heap.objs.size + 1, _)] := fun p hp => N' p (List.Mem.tail _ hp)
          clear N Nc F N' hk hk' hn' hkk hD hV2 hl2 hA2 hnd hrg Kx hlD
          obtain ⟨ex, N, hex, KP⟩ := snap F' Nc'
          clear Nc'
          repeat' walk1
          all_goals (try k_data)
          rename Fr _ _ _ _ => F
          rename News _ _ _ _ => N
          have hnl := News.isList N (List.Mem.head _)
          replace N := news_sub N fun p hp => List.Mem.tail _ hp
          refine eq_nil (crD _ (KP _ _ _ F N)).1 hR hnl unit4 ?_
          by_cases hz : lix xs xs.length = []
          · rw [decide_eq_true hz]
            repeat' walk1
            all_goals (try k_data)
            rename Fr _ _ _ _ => F
            rename News _ _ _ _ => N
            first | exact ⟨_, _, _, rfl, F⟩ | exact ⟨rfl, _, _, _, rfl, F⟩
          · rw [decide_eq_false hz]
            obtain ⟨j, r, hjr⟩ := List.exists_cons_of_ne_nil hz
            obtain ⟨hj, y, hy, hyc⟩ := lix_mem (n := xs.length) (i := j) (by rw [hjr]; exact List.Mem.head _)
            obtain ⟨u0, hu0⟩ : ∃ v, us[0]? = some v := ⟨_, List.getElem?_eq_getElem (by rw [hR.1, hjr]; simp)⟩
            obtain ⟨tj, rfl⟩ := hR.2 0 u0 j hu0 (by rw [hjr]; rfl)
            have K := KP _ _ _ F N
            replace FS := FS.kb K fun _ h => h
            have Nc : News _ _ _ [(s₁.heap.objs.size + 1, _)] := fun p hp => N p (mem_first hp)
            replace crD := crD.kb K
            clear N KP hex K hnl
            obtain ⟨ex, N, hex, KP⟩ := snap F Nc
            clear Nc
            obtain ⟨a3, d3, es3, n3, l3, vs3, he3, hV3, hl3, hA3, cr3, br3⟩ := (FS.1 _ (six_u)).opn
            dsimp only at he3 hV3 hA3 cr3
            first | subst he3 | cases he3
            have hV3' := hV3
            obtain ⟨hV31, hV32, h1V3, h2V3, h3V3, h4V3, h5V3, t1V3, t2V3, t3V3, t4V3, t5V3, tkV3, rfl⟩ := hV3'
            repeat' walk1
            all_goals (try k_data)
            rename Fr _ _ _ _ => F
            rename News _ _ _ _ => N
            refine go (itemX (i := 0) (crD _ (KP _ _ _ F N)).1 (by decide) hu0 ?_ (by with_unfolding_all rfl))
            repeat' walk1
            all_goals (try k_data)
            rename Fr _ _ _ _ => F
            rename News _ _ _ _ => N
            have hsl := cr3 _ (KP _ _ _ F N)
            refine go (kba_turn (value' := PySem.Expr.Name (PySem.Str.ofString "_") ⟨0, 0, 0, 0⟩) (fun _ => rfl) (kmk_slice F N hsl.1 .none (.int _ _) (fun D4 h' F' N' l1 => ?_) (by with_unfolding_all rfl) (fun _ => rfl) (by have := hA3.1; simp [sizeLine_eq]; omega)))
            rw [show slicePick vs3.toArray none (some ((j : Nat) : Int)) none = (vs3.take j).toArray from slicePick_upto' _ _] at N'
            have hD4 := not_two (N' _ (List.Mem.head _)).2.1 (l1 _ (List.Mem.head _))
            have hl4 := News.isList N' (List.Mem.head _)
            have K' := KP _ _ _ F' (news_sub N' fun p hp => List.Mem.tail _ hp)
            have cr4 := carry_list hl4 hD4 ((cr3.kb K').map fun _ q => q.2.takeX j)
            replace FS := FS.kb K' fun _ h => h
            replace crD := crD.kb K'
            replace cr3 := cr3.kb K'
            have Nc : News _ _ _ [(s₁.heap.objs.size + 1, _)] := fun p hp => N' p (mem_second hp)
            clear N N' F KP hex K' hsl
            obtain ⟨ex, N, hex, KP⟩ := snap F' Nc
            clear Nc
            clear hV3
            obtain ⟨a5, d5, es5, n5, l5, vs5, he5, hV5, hl5, hA5, cr5, br5⟩ := (FS.1 _ (six_u)).opn
            dsimp only at he5 hV5 hA5 cr5
            first | subst he5 | cases he5
            have hV5' := hV5
            obtain ⟨hV51, hV52, h1V5, h2V5, h3V5, h4V5, h5V5, t1V5, t2V5, t3V5, t4V5, t5V5, tkV5, rfl⟩ := hV5'
            repeat' walk1
            all_goals (try k_data)
            rename Fr _ _ _ _ => F
            rename News _ _ _ _ => N
            refine go (itemX (i := 0) (crD _ (KP _ _ _ F N)).1 (by decide) hu0 ?_ (by with_unfolding_all rfl))
            repeat' walk1
            all_goals (try k_data)
            rename Fr _ _ _ _ => F
            rename News _ _ _ _ => N
            have hsl := cr5 _ (KP _ _ _ F N)
            refine go (kba_turn (value' := PySem.Expr.Name (PySem.Str.ofString "_") ⟨0, 0, 0, 0⟩) (fun _ => rfl) (kmk_slice F N hsl.1 (.int _ _) .none (fun D6 h' F' N' l1 => ?_) (by with_unfolding_all rfl) (fun _ => rfl) (by have := hA5.1; simp [sizeLine_eq]; omega)))
            rw [show slicePick vs5.toArray (some (((j : Nat) : Int) + 1)) none none = (vs5.drop (j + 1)).toArray from slicePick_from' vs5.toArray (j + 1)] at N'
            have hD6 := not_two (N' _ (List.Mem.head _)).2.1 (l1 _ (List.Mem.head _))
            have hl6 := News.isList N' (List.Mem.head _)
            have K' := KP _ _ _ F' (news_sub N' fun p hp => List.Mem.tail _ hp)
            have cr6 := carry_list hl6 hD6 ((cr5.kb K').map fun _ q => q.2.dropX (j + 1))
            replace FS := FS.kb K' fun _ h => h
            replace crD := crD.kb K'
            replace cr3 := cr3.kb K'
            replace cr4 := cr4.kb K'
            replace cr5 := cr5.kb K'
            have Nc : News _ _ _ [(s₁.heap.objs.size + 1, _)] := fun p hp => N' p (mem_second hp)
            clear N N' F KP hex K' hsl
            obtain ⟨ex, N, hex, KP⟩ := snap F' Nc
            clear Nc
            repeat' walk1
            all_goals (try k_data)
            rename Fr _ _ _ _ => F
            rename News _ _ _ _ => N
            have hal : ∀ a ∈ [s₁.heap.objs.size, s₁.heap.objs.size + 1], ∃ o, Heap.get? _ a = some o := two_all (ns_alive F.ns) ⟨_, (N _ (List.Mem.head _)).1⟩
            have hx4 := (cr4 _ (KP _ _ _ F N)).1
            have hx6 := (cr6 _ (KP _ _ _ F N)).1
            refine add_listsX F N hx4 hx6 (fun D7 h' hD7e F' N' => ?_) (by have := hA3.1; have := hA5.1; simp [sizeLine_eq]; omega)
            have hD7 : D7 ∉ [s₁.heap.objs.size, s₁.heap.objs.size + 1] := by rw [hD7e]; exact size_not hal
            have hl7 := News.isList N' (List.Mem.head _)
            have K' := KP _ _ _ F' (news_sub N' fun p hp => List.Mem.tail _ hp)
            have cr7 := carry_list hl7 hD7 (((cr4.and cr6).kb K').map fun _ q => q.1.2.append q.2.2)
            replace FS := FS.kb K' fun _ h => h
            have Nc : News _ _ _ [(s₁.heap.objs.size + 1, _)] := fun p hp => N' p (mem_second hp)
            clear N N' F KP hex K' hal hx4 hx6 hD7e
            obtain ⟨ex, N, hex, KP⟩ := snap F' Nc
            clear Nc
            repeat' walk1
            all_goals (try k_data)
            rename Fr _ _ _ _ => F
            rename News _ _ _ _ => N
            have K := KP _ _ _ F N
            replace FS := FS.kb K fun _ h => h
            have Nc : News _ _ _ [(s₁.heap.objs.size + 1, _)] := fun p hp => N p (mem_first hp)
            replace cr7 := cr7.kb K
            clear N KP hex K
            obtain ⟨ex, N, hex, KP⟩ := snap F Nc
            clear Nc
            obtain ⟨a8, d8, es8, n8, l8, vs8, he8, hV8, hl8, hA8, cr8, br8⟩ := (FS.1 _ (six_u)).opn
            dsimp only at he8 hV8 hA8 cr8
            first | subst he8 | cases he8
            have hV8' := hV8
            obtain ⟨hV81, hV82, h1V8, h2V8, h3V8, h4V8, h5V8, t1V8, t2V8, t3V8, t4V8, t5V8, tkV8, rfl⟩ := hV8'
            repeat' walk1
            all_goals (try k_data)
            rename Fr _ _ _ _ => F
            rename News _ _ _ _ => N
            have ⟨hlz, hAz⟩ := cr7 _ (KP _ _ _ F N)
            rename Fr _ _ _ _ => F
            rename News _ _ _ _ => N
            have K := KP _ _ _ F N
            replace FS := FS.kb K fun _ h => h
            have hal : ∀ a ∈ [s₁.heap.objs.size, s₁.heap.objs.size + 1], ∃ o, Heap.get? _ a = some o := two_all (ns_alive F.ns) ⟨_, (N _ (List.Mem.head _)).1⟩
            have CC := C.ext F.keep
            refine go (use (mkVecV (kd := ku) (xs := xs.take j ++ xs.drop (j + 1)) CC (room0.le (by decide)) hlz hAz hD7 (refs_cut br3 br5)) fun nvv h' tk x p => ?_)
            dsimp only at x p
            replace FS := (FS.ext x).cons (p.toB.mono (bf_bad hal))
            replace cr7 := cr7.step K x
            replace F := fr_by F x
            have Nc : News _ _ _ [(s₁.heap.objs.size + 1, _)] := newsBy (fun p hp => N p (mem_first hp)) x
            clear N KP hex hal CC
            obtain ⟨ex, N, hex, KP⟩ := snap F Nc
            clear Nc
            repeat' walk1
            all_goals (try k_data)
            rename Fr _ _ _ _ => F
            rename News _ _ _ _ => N
            have K := KP _ _ _ F N
            replace FS := FS.kb K fun _ h => h
            have hal : ∀ a ∈ [s₁.heap.objs.size, s₁.heap.objs.size + 1], ∃ o, Heap.get? _ a = some o := two_all (ns_alive F.ns) ⟨_, (N _ (List.Mem.head _)).1⟩
            have CC := C.ext F.keep
            refine go (use (same_sets (xs := xs) (ys := xs.take j ++ xs.drop (j + 1)) CC (room0.le (by decide)) (FS.1 _ (List.Mem.tail _ six_u)).of (FS.1 _ (List.Mem.head _)).of (.inl rfl) (by omega) (by simp; omega)) fun bv h' tk x p => ?_)
            dsimp only at x p
            rw [law7 hy hyc] at p
            subst p
            replace FS := FS.ext x
            replace F := fr_by F x
            have Nc : News _ _ _ [(s₁.heap.objs.size + 1, _)] := newsBy (fun p hp => N p (mem_first hp)) x
            clear N KP hex hal CC
            obtain ⟨ex, N, hex, KP⟩ := snap F Nc
            clear Nc
            repeat' walk1
            all_goals (try k_data)
            rename Fr _ _ _ _ => F
            rename News _ _ _ _ => N
            first | exact ⟨_, _, _, rfl, F⟩ | exact ⟨rfl, _, _, _, rfl, F⟩
    clear hM s'
    rintro s' ⟨h', tk, m, rfl, F⟩
    exact goodW_bool F hg (raisesW_false (by wrow_none_raised)) (postW_of (by wrow_shape) (by wtm_val) (by w_fin))
end
end
end Mine

theorem PySem.Challenge.cw_pq1330_01_holds : PySem.Challenge.rw_pq1330_01.Holds :=
  Mine.holds0
