import PyProof.Rows.All
import Wide.All
import OpenK.AllK
import Wide.FinOn
import Lean
import PySem.Challenge.RW_on0119_01
open PySem PySem.W PySem.Calls PyProof.Rows PySem.Spec
set_option Elab.async false
set_option maxRecDepth 100000
set_option maxHeartbeats 8000000
set_option linter.unusedVariables false
set_option linter.all false
namespace Mine
abbrev pw := PySem.Challenge.pw_on0119_01
def nthS : List Stmt → Nat → Stmt
  | s :: _, 0 => s
  | _ :: r, n + 1 => nthS r n
  | [], _ => .Pass ⟨0, 0, 0, 0⟩
def clsB : Stmt → List Stmt
  | .ClassDef _ _ _ b .. => b
  | _ => []
def fnA : Stmt → Arguments
  | .FunctionDef _ a .. => a
  | _ => ⟨[], [], none, [], [], none, []⟩
def fnB : Stmt → List Stmt
  | .FunctionDef _ _ b .. => b
  | _ => []
def fnS : Stmt → Scope
  | .FunctionDef _ _ _ _ _ _ s .. => s
  | _ => default
noncomputable def tS1 (i : Nat) : Stmt := nthS pw.main.body i
noncomputable def tM2 (i j : Nat) : Stmt := nthS (clsB (tS1 i)) j
abbrev vS (x : String) (t : Tok) : Value := .str (Str.ofString x) t
abbrev vE (P : Params) (x : String) (t : Tok) (v : Value) : DictEntry := ⟨PyData.keyHash P (Str.ofString x), .str (Str.ofString x) t, v⟩
noncomputable def oi11 (P : Params) : Obj := (Obj.mk (Value.type "tuple") none (Data.seq #[] 0) #[])
noncomputable def oi12 (P : Params) : Obj := (Obj.mk Value.none none (Data.fields #[]) #[])
noncomputable def oi13 (P : Params) : Obj := (Obj.mk (Value.type "code") none (Data.fields (List.toArray [(vS "<module>" 182), (vS "<module>" 183), (vS "/claim/cut.py" 184), (Value.int 1 0), (Value.int 0 0), (Value.int 0 0), (Value.int 0 0), (Value.int 0 0), (Value.ref 11), (Value.bool Bool.false), (Value.int 181 0), (Value.ref 12), Value.none, Value.none, Value.none, Value.none, (Value.int 185 0), (Value.int 1 0), (vS "/claim/cut.py" 186)])) #[])
noncomputable def oi14 (P : Params) : Obj := (Obj.mk (Value.type "frame") none Data.plain (List.toArray [(some (Value.ref 13)), (some (Value.ref 3)), (some (Value.ref 3)), none, (some (vS "__main__" 164)), none, (some (Value.ref 0))]))
noncomputable def o3 (P : Params) : Obj := (Obj.mk (Value.type "dict") none (Data.dict (List.toArray [(vE P "__name__" 165 (vS "law_on0119_01" 573)), (vE P "__doc__" 166 Value.none), (vE P "__package__" 167 Value.none), (vE P "__loader__" 168 (Value.builtin "__main__.__loader__#opaque")), (vE P "__spec__" 169 Value.none), (vE P "__annotations__" 170 (Value.ref 6)), (vE P "__builtins__" 171 (Value.ref 4)), (vE P "__file__" 173 (vS "/claim/cut.py" 172)), (vE P "__cached__" 174 Value.none), (vE P "_wall" 193 (Value.ref 21)), (vE P "children" 203 (Value.ref 28)), (vE P "subexpressions" 214 (Value.ref 35)), (vE P "expr_reads" 223 (Value.ref 42)), (vE P "expr_calls" 232 (Value.ref 49)), (vE P "target_indexes" 241 (Value.ref 56)), (vE P "target_writes" 250 (Value.ref 63)), (vE P "stmt_parts" 256 (Value.ref 68)), (vE P "substatements" 267 (Value.ref 75)), (vE P "stmt_targets" 273 (Value.ref 80)), (vE P "stmt_exprs" 285 (Value.ref 87)), (vE P "stmt_reads" 296 (Value.ref 94)), (vE P "stmt_writes" 307 (Value.ref 101)), (vE P "stmt_calls" 318 (Value.ref 108)), (vE P "is_constant" 333 (Value.ref 115)), (vE P "Signal" 418 (Value.ref 167)), (vE P "Routine" 471 (Value.ref 195)), (vE P "Design" 572 (Value.ref 258)), (vE P "_law_cups" 585 (Value.ref 269)), (vE P "_law_cup" 593 (Value.ref 276)), (vE P "_law_body" 607 (Value.ref 283)), (vE P "_law_grown" 622 (Value.ref 290)), (vE P "law" 628 (Value.ref 295))]) 32) #[])
noncomputable def o12 (P : Params) : Obj := (Obj.mk Value.none none (Data.fields (List.toArray [(Value.int 1 0), (Value.int 0 0), (Value.ref 20), (Value.int 5 0), (Value.int 0 0), (Value.ref 27), (Value.int 24 0), (Value.int 0 0), (Value.ref 34), (Value.int 33 0), (Value.int 0 0), (Value.ref 41), (Value.int 39 0), (Value.int 0 0), (Value.ref 48), (Value.int 45 0), (Value.int 0 0), (Value.ref 55), (Value.int 53 0), (Value.int 0 0), (Value.ref 62), (Value.int 59 0), (Value.int 0 0), (Value.ref 67), (Value.int 77 0), (Value.int 0 0), (Value.ref 74), (Value.int 88 0), (Value.int 0 0), (Value.ref 79), (Value.int 94 0), (Value.int 0 0), (Value.ref 86), (Value.int 119 0), (Value.int 0 0), (Value.ref 93), (Value.int 126 0), (Value.int 0 0), (Value.ref 100), (Value.int 133 0), (Value.int 0 0), (Value.ref 107), (Value.int 143 0), (Value.int 0 0), (Value.ref 114), (Value.int 161 0), (Value.int 0 0), (Value.ref 121), (Value.int 191 0), (Value.int 0 0), (Value.ref 177), (Value.int 211 0), (Value.int 0 0), (Value.ref 205), (Value.int 255 0), (Value.int 0 0), (Value.ref 268), (Value.int 265 0), (Value.int 0 0), (Value.ref 275), (Value.int 267 0), (Value.int 0 0), (Value.ref 282), (Value.int 280 0), (Value.int 0 0), (Value.ref 289), (Value.int 300 0), (Value.int 0 0), (Value.ref 294)])) #[])
noncomputable def o15 (P : Params) : Obj := (Obj.mk (Value.type "tuple") none (Data.seq #[] 0) #[])
noncomputable def o16 (P : Params) : Obj := (Obj.mk Value.none none (Data.fields #[]) #[])
noncomputable def o17 (P : Params) : Obj := (Obj.mk (Value.type "tuple") none (Data.seq (List.toArray [(vS "k" 190)]) 0) #[])
noncomputable def o18 (P : Params) : Obj := (Obj.mk (Value.type "tuple") none (Data.seq #[] 0) #[])
noncomputable def o19 (P : Params) : Obj := (Obj.mk Value.none none (Data.func (FuncData.mk (Str.ofString "_wall") (Str.ofString "_wall") (fnA (tS1 0)) (.stmts (fnB (tS1 0))) (fnS (tS1 0)) 0 [] Value.none Value.none Value.none Value.none none Value.none Value.none 0)) #[])
noncomputable def o20 (P : Params) : Obj := (Obj.mk (Value.type "code") none (Data.fields (List.toArray [(vS "_wall" 187), (vS "_wall" 188), (vS "/claim/cut.py" 189), (Value.int 1 0), (Value.int 1 0), (Value.int 0 0), (Value.int 0 0), (Value.int 3 0), (Value.ref 15), (Value.bool Bool.true), (Value.int 181 0), (Value.ref 16), Value.none, (Value.ref 17), (Value.ref 18), (Value.ref 19), (Value.int 191 0), (Value.int 1 0), (vS "/claim/cut.py" 192)])) #[])
noncomputable def o21 (P : Params) : Obj := (Obj.mk (Value.type "function") none (Data.func (FuncData.mk (Str.ofString "_wall") (Str.ofString "_wall") (fnA (tS1 0)) (.stmts (fnB (tS1 0))) (fnS (tS1 0)) 3 [] Value.none Value.none Value.none (vS "__main__" 164) none (Value.ref 20) Value.none 0)) #[])
noncomputable def o22 (P : Params) : Obj := (Obj.mk (Value.type "tuple") none (Data.seq #[] 0) #[])
noncomputable def o23 (P : Params) : Obj := (Obj.mk Value.none none (Data.fields #[]) #[])
noncomputable def o24 (P : Params) : Obj := (Obj.mk (Value.type "tuple") none (Data.seq (List.toArray [(vS "e" 199), (vS "tag" 200)]) 0) #[])
noncomputable def o25 (P : Params) : Obj := (Obj.mk (Value.type "tuple") none (Data.seq #[] 0) #[])
noncomputable def o26 (P : Params) : Obj := (Obj.mk Value.none none (Data.func (FuncData.mk (Str.ofString "children") (Str.ofString "children") (fnA (tS1 2)) (.stmts (fnB (tS1 2))) (fnS (tS1 2)) 0 [] Value.none Value.none Value.none Value.none none Value.none Value.none 0)) #[])
noncomputable def o27 (P : Params) : Obj := (Obj.mk (Value.type "code") none (Data.fields (List.toArray [(vS "children" 196), (vS "children" 197), (vS "/claim/cut.py" 198), (Value.int 5 0), (Value.int 1 0), (Value.int 0 0), (Value.int 0 0), (Value.int 3 0), (Value.ref 22), (Value.bool Bool.true), (Value.int 181 0), (Value.ref 23), Value.none, (Value.ref 24), (Value.ref 25), (Value.ref 26), (Value.int 201 0), (Value.int 5 0), (vS "/claim/cut.py" 202)])) #[])
noncomputable def o28 (P : Params) : Obj := (Obj.mk (Value.type "function") none (Data.func (FuncData.mk (Str.ofString "children") (Str.ofString "children") (fnA (tS1 2)) (.stmts (fnB (tS1 2))) (fnS (tS1 2)) 3 [] Value.none Value.none Value.none (vS "gateloom.walks" 194) none (Value.ref 27) Value.none 0)) #[])
noncomputable def o29 (P : Params) : Obj := (Obj.mk (Value.type "tuple") none (Data.seq #[] 0) #[])
noncomputable def o30 (P : Params) : Obj := (Obj.mk Value.none none (Data.fields #[]) #[])
noncomputable def o31 (P : Params) : Obj := (Obj.mk (Value.type "tuple") none (Data.seq (List.toArray [(vS "e" 207), (vS "found" 208), (vS "stack" 209), (vS "node" 210), (vS "part" 211)]) 0) #[])
noncomputable def o32 (P : Params) : Obj := (Obj.mk (Value.type "tuple") none (Data.seq #[] 0) #[])
noncomputable def o33 (P : Params) : Obj := (Obj.mk Value.none none (Data.func (FuncData.mk (Str.ofString "subexpressions") (Str.ofString "subexpressions") (fnA (tS1 3)) (.stmts (fnB (tS1 3))) (fnS (tS1 3)) 0 [] Value.none Value.none Value.none Value.none none Value.none Value.none 0)) #[])
noncomputable def o34 (P : Params) : Obj := (Obj.mk (Value.type "code") none (Data.fields (List.toArray [(vS "subexpressions" 204), (vS "subexpressions" 205), (vS "/claim/cut.py" 206), (Value.int 24 0), (Value.int 1 0), (Value.int 0 0), (Value.int 0 0), (Value.int 3 0), (Value.ref 29), (Value.bool Bool.true), (Value.int 181 0), (Value.ref 30), Value.none, (Value.ref 31), (Value.ref 32), (Value.ref 33), (Value.int 212 0), (Value.int 24 0), (vS "/claim/cut.py" 213)])) #[])
noncomputable def o35 (P : Params) : Obj := (Obj.mk (Value.type "function") none (Data.func (FuncData.mk (Str.ofString "subexpressions") (Str.ofString "subexpressions") (fnA (tS1 3)) (.stmts (fnB (tS1 3))) (fnS (tS1 3)) 3 [] Value.none Value.none Value.none (vS "gateloom.walks" 194) none (Value.ref 34) Value.none 0)) #[])
noncomputable def o36 (P : Params) : Obj := (Obj.mk (Value.type "tuple") none (Data.seq #[] 0) #[])
noncomputable def o37 (P : Params) : Obj := (Obj.mk Value.none none (Data.fields #[]) #[])
noncomputable def o38 (P : Params) : Obj := (Obj.mk (Value.type "tuple") none (Data.seq (List.toArray [(vS "e" 218), (vS "keys" 219), (vS "node" 220)]) 0) #[])
noncomputable def o39 (P : Params) : Obj := (Obj.mk (Value.type "tuple") none (Data.seq #[] 0) #[])
noncomputable def o40 (P : Params) : Obj := (Obj.mk Value.none none (Data.func (FuncData.mk (Str.ofString "expr_reads") (Str.ofString "expr_reads") (fnA (tS1 4)) (.stmts (fnB (tS1 4))) (fnS (tS1 4)) 0 [] Value.none Value.none Value.none Value.none none Value.none Value.none 0)) #[])
noncomputable def o41 (P : Params) : Obj := (Obj.mk (Value.type "code") none (Data.fields (List.toArray [(vS "expr_reads" 215), (vS "expr_reads" 216), (vS "/claim/cut.py" 217), (Value.int 33 0), (Value.int 1 0), (Value.int 0 0), (Value.int 0 0), (Value.int 3 0), (Value.ref 36), (Value.bool Bool.true), (Value.int 181 0), (Value.ref 37), Value.none, (Value.ref 38), (Value.ref 39), (Value.ref 40), (Value.int 221 0), (Value.int 33 0), (vS "/claim/cut.py" 222)])) #[])
noncomputable def o42 (P : Params) : Obj := (Obj.mk (Value.type "function") none (Data.func (FuncData.mk (Str.ofString "expr_reads") (Str.ofString "expr_reads") (fnA (tS1 4)) (.stmts (fnB (tS1 4))) (fnS (tS1 4)) 3 [] Value.none Value.none Value.none (vS "gateloom.walks" 194) none (Value.ref 41) Value.none 0)) #[])
noncomputable def o43 (P : Params) : Obj := (Obj.mk (Value.type "tuple") none (Data.seq #[] 0) #[])
noncomputable def o44 (P : Params) : Obj := (Obj.mk Value.none none (Data.fields #[]) #[])
noncomputable def o45 (P : Params) : Obj := (Obj.mk (Value.type "tuple") none (Data.seq (List.toArray [(vS "e" 227), (vS "numbers" 228), (vS "node" 229)]) 0) #[])
noncomputable def o46 (P : Params) : Obj := (Obj.mk (Value.type "tuple") none (Data.seq #[] 0) #[])
noncomputable def o47 (P : Params) : Obj := (Obj.mk Value.none none (Data.func (FuncData.mk (Str.ofString "expr_calls") (Str.ofString "expr_calls") (fnA (tS1 5)) (.stmts (fnB (tS1 5))) (fnS (tS1 5)) 0 [] Value.none Value.none Value.none Value.none none Value.none Value.none 0)) #[])
noncomputable def o48 (P : Params) : Obj := (Obj.mk (Value.type "code") none (Data.fields (List.toArray [(vS "expr_calls" 224), (vS "expr_calls" 225), (vS "/claim/cut.py" 226), (Value.int 39 0), (Value.int 1 0), (Value.int 0 0), (Value.int 0 0), (Value.int 3 0), (Value.ref 43), (Value.bool Bool.true), (Value.int 181 0), (Value.ref 44), Value.none, (Value.ref 45), (Value.ref 46), (Value.ref 47), (Value.int 230 0), (Value.int 39 0), (vS "/claim/cut.py" 231)])) #[])
noncomputable def o49 (P : Params) : Obj := (Obj.mk (Value.type "function") none (Data.func (FuncData.mk (Str.ofString "expr_calls") (Str.ofString "expr_calls") (fnA (tS1 5)) (.stmts (fnB (tS1 5))) (fnS (tS1 5)) 3 [] Value.none Value.none Value.none (vS "gateloom.walks" 194) none (Value.ref 48) Value.none 0)) #[])
noncomputable def o50 (P : Params) : Obj := (Obj.mk (Value.type "tuple") none (Data.seq #[] 0) #[])
noncomputable def o51 (P : Params) : Obj := (Obj.mk Value.none none (Data.fields #[]) #[])
noncomputable def o52 (P : Params) : Obj := (Obj.mk (Value.type "tuple") none (Data.seq (List.toArray [(vS "lv" 236), (vS "found" 237), (vS "part" 238)]) 0) #[])
noncomputable def o53 (P : Params) : Obj := (Obj.mk (Value.type "tuple") none (Data.seq #[] 0) #[])
noncomputable def o54 (P : Params) : Obj := (Obj.mk Value.none none (Data.func (FuncData.mk (Str.ofString "target_indexes") (Str.ofString "target_indexes") (fnA (tS1 6)) (.stmts (fnB (tS1 6))) (fnS (tS1 6)) 0 [] Value.none Value.none Value.none Value.none none Value.none Value.none 0)) #[])
noncomputable def o55 (P : Params) : Obj := (Obj.mk (Value.type "code") none (Data.fields (List.toArray [(vS "target_indexes" 233), (vS "target_indexes" 234), (vS "/claim/cut.py" 235), (Value.int 45 0), (Value.int 1 0), (Value.int 0 0), (Value.int 0 0), (Value.int 3 0), (Value.ref 50), (Value.bool Bool.true), (Value.int 181 0), (Value.ref 51), Value.none, (Value.ref 52), (Value.ref 53), (Value.ref 54), (Value.int 239 0), (Value.int 45 0), (vS "/claim/cut.py" 240)])) #[])
noncomputable def o56 (P : Params) : Obj := (Obj.mk (Value.type "function") none (Data.func (FuncData.mk (Str.ofString "target_indexes") (Str.ofString "target_indexes") (fnA (tS1 6)) (.stmts (fnB (tS1 6))) (fnS (tS1 6)) 3 [] Value.none Value.none Value.none (vS "gateloom.walks" 194) none (Value.ref 55) Value.none 0)) #[])
noncomputable def o57 (P : Params) : Obj := (Obj.mk (Value.type "tuple") none (Data.seq #[] 0) #[])
noncomputable def o58 (P : Params) : Obj := (Obj.mk Value.none none (Data.fields #[]) #[])
noncomputable def o59 (P : Params) : Obj := (Obj.mk (Value.type "tuple") none (Data.seq (List.toArray [(vS "lv" 245), (vS "keys" 246), (vS "part" 247)]) 0) #[])
noncomputable def o60 (P : Params) : Obj := (Obj.mk (Value.type "tuple") none (Data.seq #[] 0) #[])
noncomputable def o61 (P : Params) : Obj := (Obj.mk Value.none none (Data.func (FuncData.mk (Str.ofString "target_writes") (Str.ofString "target_writes") (fnA (tS1 7)) (.stmts (fnB (tS1 7))) (fnS (tS1 7)) 0 [] Value.none Value.none Value.none Value.none none Value.none Value.none 0)) #[])
noncomputable def o62 (P : Params) : Obj := (Obj.mk (Value.type "code") none (Data.fields (List.toArray [(vS "target_writes" 242), (vS "target_writes" 243), (vS "/claim/cut.py" 244), (Value.int 53 0), (Value.int 1 0), (Value.int 0 0), (Value.int 0 0), (Value.int 3 0), (Value.ref 57), (Value.bool Bool.true), (Value.int 181 0), (Value.ref 58), Value.none, (Value.ref 59), (Value.ref 60), (Value.ref 61), (Value.int 248 0), (Value.int 53 0), (vS "/claim/cut.py" 249)])) #[])
noncomputable def o63 (P : Params) : Obj := (Obj.mk (Value.type "function") none (Data.func (FuncData.mk (Str.ofString "target_writes") (Str.ofString "target_writes") (fnA (tS1 7)) (.stmts (fnB (tS1 7))) (fnS (tS1 7)) 3 [] Value.none Value.none Value.none (vS "gateloom.walks" 194) none (Value.ref 62) Value.none 0)) #[])
noncomputable def o64 (P : Params) : Obj := (Obj.mk (Value.type "tuple") none (Data.seq #[] 0) #[])
noncomputable def o65 (P : Params) : Obj := (Obj.mk Value.none none (Data.fields #[]) #[])
noncomputable def o66 (P : Params) : Obj := (Obj.mk Value.none none (Data.func (FuncData.mk (Str.ofString "stmt_parts") (Str.ofString "stmt_parts") (fnA (tS1 8)) (.stmts (fnB (tS1 8))) (fnS (tS1 8)) 0 [] Value.none Value.none Value.none Value.none none Value.none Value.none 0)) #[])
noncomputable def o67 (P : Params) : Obj := (Obj.mk (Value.type "code") none (Data.fields (List.toArray [(vS "stmt_parts" 251), (vS "stmt_parts" 252), (vS "/claim/cut.py" 253), (Value.int 59 0), (Value.int 1 0), (Value.int 0 0), (Value.int 0 0), (Value.int 3 0), (Value.ref 64), (Value.bool Bool.true), (Value.int 181 0), (Value.ref 65), Value.none, Value.none, Value.none, (Value.ref 66), (Value.int 254 0), (Value.int 59 0), (vS "/claim/cut.py" 255)])) #[])
noncomputable def o68 (P : Params) : Obj := (Obj.mk (Value.type "function") none (Data.func (FuncData.mk (Str.ofString "stmt_parts") (Str.ofString "stmt_parts") (fnA (tS1 8)) (.stmts (fnB (tS1 8))) (fnS (tS1 8)) 3 [] Value.none Value.none Value.none (vS "gateloom.walks" 194) none (Value.ref 67) Value.none 0)) #[])
noncomputable def o69 (P : Params) : Obj := (Obj.mk (Value.type "tuple") none (Data.seq #[] 0) #[])
noncomputable def o70 (P : Params) : Obj := (Obj.mk Value.none none (Data.fields #[]) #[])
noncomputable def o71 (P : Params) : Obj := (Obj.mk (Value.type "tuple") none (Data.seq (List.toArray [(vS "s" 260), (vS "found" 261), (vS "stack" 262), (vS "node" 263), (vS "part" 264)]) 0) #[])
noncomputable def o72 (P : Params) : Obj := (Obj.mk (Value.type "tuple") none (Data.seq #[] 0) #[])
noncomputable def o73 (P : Params) : Obj := (Obj.mk Value.none none (Data.func (FuncData.mk (Str.ofString "substatements") (Str.ofString "substatements") (fnA (tS1 9)) (.stmts (fnB (tS1 9))) (fnS (tS1 9)) 0 [] Value.none Value.none Value.none Value.none none Value.none Value.none 0)) #[])
noncomputable def o74 (P : Params) : Obj := (Obj.mk (Value.type "code") none (Data.fields (List.toArray [(vS "substatements" 257), (vS "substatements" 258), (vS "/claim/cut.py" 259), (Value.int 77 0), (Value.int 1 0), (Value.int 0 0), (Value.int 0 0), (Value.int 3 0), (Value.ref 69), (Value.bool Bool.true), (Value.int 181 0), (Value.ref 70), Value.none, (Value.ref 71), (Value.ref 72), (Value.ref 73), (Value.int 265 0), (Value.int 77 0), (vS "/claim/cut.py" 266)])) #[])
noncomputable def o75 (P : Params) : Obj := (Obj.mk (Value.type "function") none (Data.func (FuncData.mk (Str.ofString "substatements") (Str.ofString "substatements") (fnA (tS1 9)) (.stmts (fnB (tS1 9))) (fnS (tS1 9)) 3 [] Value.none Value.none Value.none (vS "gateloom.walks" 194) none (Value.ref 74) Value.none 0)) #[])
noncomputable def o76 (P : Params) : Obj := (Obj.mk (Value.type "tuple") none (Data.seq #[] 0) #[])
noncomputable def o77 (P : Params) : Obj := (Obj.mk Value.none none (Data.fields #[]) #[])
noncomputable def o78 (P : Params) : Obj := (Obj.mk Value.none none (Data.func (FuncData.mk (Str.ofString "stmt_targets") (Str.ofString "stmt_targets") (fnA (tS1 10)) (.stmts (fnB (tS1 10))) (fnS (tS1 10)) 0 [] Value.none Value.none Value.none Value.none none Value.none Value.none 0)) #[])
noncomputable def o79 (P : Params) : Obj := (Obj.mk (Value.type "code") none (Data.fields (List.toArray [(vS "stmt_targets" 268), (vS "stmt_targets" 269), (vS "/claim/cut.py" 270), (Value.int 88 0), (Value.int 1 0), (Value.int 0 0), (Value.int 0 0), (Value.int 3 0), (Value.ref 76), (Value.bool Bool.true), (Value.int 181 0), (Value.ref 77), Value.none, Value.none, Value.none, (Value.ref 78), (Value.int 271 0), (Value.int 88 0), (vS "/claim/cut.py" 272)])) #[])
noncomputable def o80 (P : Params) : Obj := (Obj.mk (Value.type "function") none (Data.func (FuncData.mk (Str.ofString "stmt_targets") (Str.ofString "stmt_targets") (fnA (tS1 10)) (.stmts (fnB (tS1 10))) (fnS (tS1 10)) 3 [] Value.none Value.none Value.none (vS "gateloom.walks" 194) none (Value.ref 79) Value.none 0)) #[])
noncomputable def o81 (P : Params) : Obj := (Obj.mk (Value.type "tuple") none (Data.seq #[] 0) #[])
noncomputable def o82 (P : Params) : Obj := (Obj.mk Value.none none (Data.fields #[]) #[])
noncomputable def o83 (P : Params) : Obj := (Obj.mk (Value.type "tuple") none (Data.seq (List.toArray [(vS "s" 277), (vS "tag" 278), (vS "found" 279), (vS "row" 280), (vS "arg" 281), (vS "lv" 282)]) 0) #[])
noncomputable def o84 (P : Params) : Obj := (Obj.mk (Value.type "tuple") none (Data.seq #[] 0) #[])
noncomputable def o85 (P : Params) : Obj := (Obj.mk Value.none none (Data.func (FuncData.mk (Str.ofString "stmt_exprs") (Str.ofString "stmt_exprs") (fnA (tS1 11)) (.stmts (fnB (tS1 11))) (fnS (tS1 11)) 0 [] Value.none Value.none Value.none Value.none none Value.none Value.none 0)) #[])
noncomputable def o86 (P : Params) : Obj := (Obj.mk (Value.type "code") none (Data.fields (List.toArray [(vS "stmt_exprs" 274), (vS "stmt_exprs" 275), (vS "/claim/cut.py" 276), (Value.int 94 0), (Value.int 1 0), (Value.int 0 0), (Value.int 0 0), (Value.int 3 0), (Value.ref 81), (Value.bool Bool.true), (Value.int 181 0), (Value.ref 82), Value.none, (Value.ref 83), (Value.ref 84), (Value.ref 85), (Value.int 283 0), (Value.int 94 0), (vS "/claim/cut.py" 284)])) #[])
noncomputable def o87 (P : Params) : Obj := (Obj.mk (Value.type "function") none (Data.func (FuncData.mk (Str.ofString "stmt_exprs") (Str.ofString "stmt_exprs") (fnA (tS1 11)) (.stmts (fnB (tS1 11))) (fnS (tS1 11)) 3 [] Value.none Value.none Value.none (vS "gateloom.walks" 194) none (Value.ref 86) Value.none 0)) #[])
noncomputable def o88 (P : Params) : Obj := (Obj.mk (Value.type "tuple") none (Data.seq #[] 0) #[])
noncomputable def o89 (P : Params) : Obj := (Obj.mk Value.none none (Data.fields #[]) #[])
noncomputable def o90 (P : Params) : Obj := (Obj.mk (Value.type "tuple") none (Data.seq (List.toArray [(vS "s" 289), (vS "keys" 290), (vS "node" 291), (vS "e" 292), (vS "key" 293)]) 0) #[])
noncomputable def o91 (P : Params) : Obj := (Obj.mk (Value.type "tuple") none (Data.seq #[] 0) #[])
noncomputable def o92 (P : Params) : Obj := (Obj.mk Value.none none (Data.func (FuncData.mk (Str.ofString "stmt_reads") (Str.ofString "stmt_reads") (fnA (tS1 12)) (.stmts (fnB (tS1 12))) (fnS (tS1 12)) 0 [] Value.none Value.none Value.none Value.none none Value.none Value.none 0)) #[])
noncomputable def o93 (P : Params) : Obj := (Obj.mk (Value.type "code") none (Data.fields (List.toArray [(vS "stmt_reads" 286), (vS "stmt_reads" 287), (vS "/claim/cut.py" 288), (Value.int 119 0), (Value.int 1 0), (Value.int 0 0), (Value.int 0 0), (Value.int 3 0), (Value.ref 88), (Value.bool Bool.true), (Value.int 181 0), (Value.ref 89), Value.none, (Value.ref 90), (Value.ref 91), (Value.ref 92), (Value.int 294 0), (Value.int 119 0), (vS "/claim/cut.py" 295)])) #[])
noncomputable def o94 (P : Params) : Obj := (Obj.mk (Value.type "function") none (Data.func (FuncData.mk (Str.ofString "stmt_reads") (Str.ofString "stmt_reads") (fnA (tS1 12)) (.stmts (fnB (tS1 12))) (fnS (tS1 12)) 3 [] Value.none Value.none Value.none (vS "gateloom.walks" 194) none (Value.ref 93) Value.none 0)) #[])
noncomputable def o95 (P : Params) : Obj := (Obj.mk (Value.type "tuple") none (Data.seq #[] 0) #[])
noncomputable def o96 (P : Params) : Obj := (Obj.mk Value.none none (Data.fields #[]) #[])
noncomputable def o97 (P : Params) : Obj := (Obj.mk (Value.type "tuple") none (Data.seq (List.toArray [(vS "s" 300), (vS "keys" 301), (vS "node" 302), (vS "lv" 303), (vS "key" 304)]) 0) #[])
noncomputable def o98 (P : Params) : Obj := (Obj.mk (Value.type "tuple") none (Data.seq #[] 0) #[])
noncomputable def o99 (P : Params) : Obj := (Obj.mk Value.none none (Data.func (FuncData.mk (Str.ofString "stmt_writes") (Str.ofString "stmt_writes") (fnA (tS1 13)) (.stmts (fnB (tS1 13))) (fnS (tS1 13)) 0 [] Value.none Value.none Value.none Value.none none Value.none Value.none 0)) #[])
noncomputable def o100 (P : Params) : Obj := (Obj.mk (Value.type "code") none (Data.fields (List.toArray [(vS "stmt_writes" 297), (vS "stmt_writes" 298), (vS "/claim/cut.py" 299), (Value.int 126 0), (Value.int 1 0), (Value.int 0 0), (Value.int 0 0), (Value.int 3 0), (Value.ref 95), (Value.bool Bool.true), (Value.int 181 0), (Value.ref 96), Value.none, (Value.ref 97), (Value.ref 98), (Value.ref 99), (Value.int 305 0), (Value.int 126 0), (vS "/claim/cut.py" 306)])) #[])
noncomputable def o101 (P : Params) : Obj := (Obj.mk (Value.type "function") none (Data.func (FuncData.mk (Str.ofString "stmt_writes") (Str.ofString "stmt_writes") (fnA (tS1 13)) (.stmts (fnB (tS1 13))) (fnS (tS1 13)) 3 [] Value.none Value.none Value.none (vS "gateloom.walks" 194) none (Value.ref 100) Value.none 0)) #[])
noncomputable def o102 (P : Params) : Obj := (Obj.mk (Value.type "tuple") none (Data.seq #[] 0) #[])
noncomputable def o103 (P : Params) : Obj := (Obj.mk Value.none none (Data.fields #[]) #[])
noncomputable def o104 (P : Params) : Obj := (Obj.mk (Value.type "tuple") none (Data.seq (List.toArray [(vS "s" 311), (vS "numbers" 312), (vS "node" 313), (vS "e" 314), (vS "number" 315)]) 0) #[])
noncomputable def o105 (P : Params) : Obj := (Obj.mk (Value.type "tuple") none (Data.seq #[] 0) #[])
noncomputable def o106 (P : Params) : Obj := (Obj.mk Value.none none (Data.func (FuncData.mk (Str.ofString "stmt_calls") (Str.ofString "stmt_calls") (fnA (tS1 14)) (.stmts (fnB (tS1 14))) (fnS (tS1 14)) 0 [] Value.none Value.none Value.none Value.none none Value.none Value.none 0)) #[])
noncomputable def o107 (P : Params) : Obj := (Obj.mk (Value.type "code") none (Data.fields (List.toArray [(vS "stmt_calls" 308), (vS "stmt_calls" 309), (vS "/claim/cut.py" 310), (Value.int 133 0), (Value.int 1 0), (Value.int 0 0), (Value.int 0 0), (Value.int 3 0), (Value.ref 102), (Value.bool Bool.true), (Value.int 181 0), (Value.ref 103), Value.none, (Value.ref 104), (Value.ref 105), (Value.ref 106), (Value.int 316 0), (Value.int 133 0), (vS "/claim/cut.py" 317)])) #[])
noncomputable def o108 (P : Params) : Obj := (Obj.mk (Value.type "function") none (Data.func (FuncData.mk (Str.ofString "stmt_calls") (Str.ofString "stmt_calls") (fnA (tS1 14)) (.stmts (fnB (tS1 14))) (fnS (tS1 14)) 3 [] Value.none Value.none Value.none (vS "gateloom.walks" 194) none (Value.ref 107) Value.none 0)) #[])
noncomputable def o109 (P : Params) : Obj := (Obj.mk (Value.type "tuple") none (Data.seq #[] 0) #[])
noncomputable def o110 (P : Params) : Obj := (Obj.mk Value.none none (Data.fields #[]) #[])
noncomputable def o111 (P : Params) : Obj := (Obj.mk (Value.type "tuple") none (Data.seq (List.toArray [(vS "design" 324), (vS "e" 325), (vS "node" 326), (vS "numbers" 327), (vS "seen" 328), (vS "n" 329), (vS "body" 330)]) 0) #[])
noncomputable def o112 (P : Params) : Obj := (Obj.mk (Value.type "tuple") none (Data.seq #[] 0) #[])
noncomputable def o113 (P : Params) : Obj := (Obj.mk Value.none none (Data.func (FuncData.mk (Str.ofString "is_constant") (Str.ofString "is_constant") (fnA (tS1 16)) (.stmts (fnB (tS1 16))) (fnS (tS1 16)) 0 [] Value.none Value.none Value.none Value.none none Value.none Value.none 0)) #[])
noncomputable def o114 (P : Params) : Obj := (Obj.mk (Value.type "code") none (Data.fields (List.toArray [(vS "is_constant" 321), (vS "is_constant" 322), (vS "/claim/cut.py" 323), (Value.int 143 0), (Value.int 2 0), (Value.int 0 0), (Value.int 0 0), (Value.int 3 0), (Value.ref 109), (Value.bool Bool.true), (Value.int 181 0), (Value.ref 110), Value.none, (Value.ref 111), (Value.ref 112), (Value.ref 113), (Value.int 331 0), (Value.int 143 0), (vS "/claim/cut.py" 332)])) #[])
noncomputable def o115 (P : Params) : Obj := (Obj.mk (Value.type "function") none (Data.func (FuncData.mk (Str.ofString "is_constant") (Str.ofString "is_constant") (fnA (tS1 16)) (.stmts (fnB (tS1 16))) (fnS (tS1 16)) 3 [] Value.none Value.none Value.none (vS "gateloom.elabparts" 319) none (Value.ref 114) Value.none 0)) #[])
noncomputable def o116 (P : Params) : Obj := (Obj.mk (Value.type "tuple") none (Data.seq #[] 0) #[])
noncomputable def o117 (P : Params) : Obj := (Obj.mk (Value.type "builtin_function_or_method") none (Data.fields (List.toArray [(Value.builtin "type.__prepare__"), (Value.type "type")])) #[])
noncomputable def o118 (P : Params) : Obj := (Obj.mk (Value.type "dict") none (Data.dict (List.toArray [(vE P "__module__" 343 (vS "gateloom.design" 334)), (vE P "__qualname__" 345 (vS "Signal" 344)), (vE P "__firstlineno__" 347 (Value.int 161 346)), (vE P "__init__" 361 (Value.ref 129)), (vE P "is_net" 368 (Value.ref 136)), (vE P "is_memory" 375 (Value.ref 143)), (vE P "words" 382 (Value.ref 150)), (vE P "offset" 390 (Value.ref 157)), (vE P "place" 398 (Value.ref 164)), (vE P "__static_attributes__" 411 (Value.ref 165))]) 10) #[])
noncomputable def o119 (P : Params) : Obj := (Obj.mk (Value.type "tuple") none (Data.seq #[] 0) #[])
noncomputable def o120 (P : Params) : Obj := (Obj.mk Value.none none (Data.fields (List.toArray [(Value.int 163 0), (Value.int 4 0), (Value.ref 128), (Value.int 177 0), (Value.int 4 0), (Value.ref 135), (Value.int 180 0), (Value.int 4 0), (Value.ref 142), (Value.int 183 0), (Value.int 4 0), (Value.ref 149), (Value.int 186 0), (Value.int 4 0), (Value.ref 156), (Value.int 189 0), (Value.int 4 0), (Value.ref 163)])) #[])
noncomputable def o121 (P : Params) : Obj := (Obj.mk (Value.type "code") none (Data.fields (List.toArray [(vS "Signal" 338), (vS "Signal" 339), (vS "/claim/cut.py" 340), (Value.int 161 0), (Value.int 0 0), (Value.int 0 0), (Value.int 0 0), (Value.int 0 0), (Value.ref 119), (Value.bool Bool.false), (Value.int 181 0), (Value.ref 120), Value.none, Value.none, Value.none, Value.none, (Value.int 341 0), (Value.int 161 0), (vS "/claim/cut.py" 342)])) #[])
noncomputable def o122 (P : Params) : Obj := (Obj.mk (Value.type "frame") none Data.plain (List.toArray [(some (Value.ref 121)), (some (Value.ref 3)), (some (Value.ref 118)), none, (some (vS "gateloom.design" 334)), none, (some (Value.ref 0))]))
noncomputable def o123 (P : Params) : Obj := (Obj.mk (Value.type "tuple") none (Data.seq #[] 0) #[])
noncomputable def o124 (P : Params) : Obj := (Obj.mk Value.none none (Data.fields #[]) #[])
noncomputable def o125 (P : Params) : Obj := (Obj.mk (Value.type "tuple") none (Data.seq (List.toArray [(vS "self" 351), (vS "key" 352), (vS "path" 353), (vS "kind" 354), (vS "width" 355), (vS "signed" 356), (vS "msb" 357), (vS "lsb" 358)]) 0) #[])
noncomputable def o126 (P : Params) : Obj := (Obj.mk (Value.type "tuple") none (Data.seq #[] 0) #[])
noncomputable def o127 (P : Params) : Obj := (Obj.mk Value.none none (Data.func (FuncData.mk (Str.ofString "__init__") (Str.ofString "Signal.__init__") (fnA (tM2 18 0)) (.stmts (fnB (tM2 18 0))) (fnS (tM2 18 0)) 0 [] Value.none Value.none Value.none Value.none none Value.none Value.none 0)) #[])
noncomputable def o128 (P : Params) : Obj := (Obj.mk (Value.type "code") none (Data.fields (List.toArray [(vS "__init__" 348), (vS "Signal.__init__" 349), (vS "/claim/cut.py" 350), (Value.int 163 0), (Value.int 8 0), (Value.int 0 0), (Value.int 0 0), (Value.int 3 0), (Value.ref 123), (Value.bool Bool.true), (Value.int 181 0), (Value.ref 124), Value.none, (Value.ref 125), (Value.ref 126), (Value.ref 127), (Value.int 359 0), (Value.int 163 0), (vS "/claim/cut.py" 360)])) #[])
noncomputable def o129 (P : Params) : Obj := (Obj.mk (Value.type "function") none (Data.func (FuncData.mk (Str.ofString "__init__") (Str.ofString "Signal.__init__") (fnA (tM2 18 0)) (.stmts (fnB (tM2 18 0))) (fnS (tM2 18 0)) 3 [] Value.none Value.none Value.none (vS "gateloom.design" 334) none (Value.ref 128) Value.none 0)) #[])
noncomputable def o130 (P : Params) : Obj := (Obj.mk (Value.type "tuple") none (Data.seq #[] 0) #[])
noncomputable def o131 (P : Params) : Obj := (Obj.mk Value.none none (Data.fields #[]) #[])
noncomputable def o132 (P : Params) : Obj := (Obj.mk (Value.type "tuple") none (Data.seq (List.toArray [(vS "self" 365)]) 0) #[])
noncomputable def o133 (P : Params) : Obj := (Obj.mk (Value.type "tuple") none (Data.seq #[] 0) #[])
noncomputable def o134 (P : Params) : Obj := (Obj.mk Value.none none (Data.func (FuncData.mk (Str.ofString "is_net") (Str.ofString "Signal.is_net") (fnA (tM2 18 1)) (.stmts (fnB (tM2 18 1))) (fnS (tM2 18 1)) 0 [] Value.none Value.none Value.none Value.none none Value.none Value.none 0)) #[])
noncomputable def o135 (P : Params) : Obj := (Obj.mk (Value.type "code") none (Data.fields (List.toArray [(vS "is_net" 362), (vS "Signal.is_net" 363), (vS "/claim/cut.py" 364), (Value.int 177 0), (Value.int 1 0), (Value.int 0 0), (Value.int 0 0), (Value.int 3 0), (Value.ref 130), (Value.bool Bool.true), (Value.int 181 0), (Value.ref 131), Value.none, (Value.ref 132), (Value.ref 133), (Value.ref 134), (Value.int 366 0), (Value.int 177 0), (vS "/claim/cut.py" 367)])) #[])
noncomputable def o136 (P : Params) : Obj := (Obj.mk (Value.type "function") none (Data.func (FuncData.mk (Str.ofString "is_net") (Str.ofString "Signal.is_net") (fnA (tM2 18 1)) (.stmts (fnB (tM2 18 1))) (fnS (tM2 18 1)) 3 [] Value.none Value.none Value.none (vS "gateloom.design" 334) none (Value.ref 135) Value.none 0)) #[])
noncomputable def o137 (P : Params) : Obj := (Obj.mk (Value.type "tuple") none (Data.seq #[] 0) #[])
noncomputable def o138 (P : Params) : Obj := (Obj.mk Value.none none (Data.fields #[]) #[])
noncomputable def o139 (P : Params) : Obj := (Obj.mk (Value.type "tuple") none (Data.seq (List.toArray [(vS "self" 372)]) 0) #[])
noncomputable def o140 (P : Params) : Obj := (Obj.mk (Value.type "tuple") none (Data.seq #[] 0) #[])
noncomputable def o141 (P : Params) : Obj := (Obj.mk Value.none none (Data.func (FuncData.mk (Str.ofString "is_memory") (Str.ofString "Signal.is_memory") (fnA (tM2 18 2)) (.stmts (fnB (tM2 18 2))) (fnS (tM2 18 2)) 0 [] Value.none Value.none Value.none Value.none none Value.none Value.none 0)) #[])
noncomputable def o142 (P : Params) : Obj := (Obj.mk (Value.type "code") none (Data.fields (List.toArray [(vS "is_memory" 369), (vS "Signal.is_memory" 370), (vS "/claim/cut.py" 371), (Value.int 180 0), (Value.int 1 0), (Value.int 0 0), (Value.int 0 0), (Value.int 3 0), (Value.ref 137), (Value.bool Bool.true), (Value.int 181 0), (Value.ref 138), Value.none, (Value.ref 139), (Value.ref 140), (Value.ref 141), (Value.int 373 0), (Value.int 180 0), (vS "/claim/cut.py" 374)])) #[])
noncomputable def o143 (P : Params) : Obj := (Obj.mk (Value.type "function") none (Data.func (FuncData.mk (Str.ofString "is_memory") (Str.ofString "Signal.is_memory") (fnA (tM2 18 2)) (.stmts (fnB (tM2 18 2))) (fnS (tM2 18 2)) 3 [] Value.none Value.none Value.none (vS "gateloom.design" 334) none (Value.ref 142) Value.none 0)) #[])
noncomputable def o144 (P : Params) : Obj := (Obj.mk (Value.type "tuple") none (Data.seq #[] 0) #[])
noncomputable def o145 (P : Params) : Obj := (Obj.mk Value.none none (Data.fields #[]) #[])
noncomputable def o146 (P : Params) : Obj := (Obj.mk (Value.type "tuple") none (Data.seq (List.toArray [(vS "self" 379)]) 0) #[])
noncomputable def o147 (P : Params) : Obj := (Obj.mk (Value.type "tuple") none (Data.seq #[] 0) #[])
noncomputable def o148 (P : Params) : Obj := (Obj.mk Value.none none (Data.func (FuncData.mk (Str.ofString "words") (Str.ofString "Signal.words") (fnA (tM2 18 3)) (.stmts (fnB (tM2 18 3))) (fnS (tM2 18 3)) 0 [] Value.none Value.none Value.none Value.none none Value.none Value.none 0)) #[])
noncomputable def o149 (P : Params) : Obj := (Obj.mk (Value.type "code") none (Data.fields (List.toArray [(vS "words" 376), (vS "Signal.words" 377), (vS "/claim/cut.py" 378), (Value.int 183 0), (Value.int 1 0), (Value.int 0 0), (Value.int 0 0), (Value.int 3 0), (Value.ref 144), (Value.bool Bool.true), (Value.int 181 0), (Value.ref 145), Value.none, (Value.ref 146), (Value.ref 147), (Value.ref 148), (Value.int 380 0), (Value.int 183 0), (vS "/claim/cut.py" 381)])) #[])
noncomputable def o150 (P : Params) : Obj := (Obj.mk (Value.type "function") none (Data.func (FuncData.mk (Str.ofString "words") (Str.ofString "Signal.words") (fnA (tM2 18 3)) (.stmts (fnB (tM2 18 3))) (fnS (tM2 18 3)) 3 [] Value.none Value.none Value.none (vS "gateloom.design" 334) none (Value.ref 149) Value.none 0)) #[])
noncomputable def o151 (P : Params) : Obj := (Obj.mk (Value.type "tuple") none (Data.seq #[] 0) #[])
noncomputable def o152 (P : Params) : Obj := (Obj.mk Value.none none (Data.fields #[]) #[])
noncomputable def o153 (P : Params) : Obj := (Obj.mk (Value.type "tuple") none (Data.seq (List.toArray [(vS "self" 386), (vS "index" 387)]) 0) #[])
noncomputable def o154 (P : Params) : Obj := (Obj.mk (Value.type "tuple") none (Data.seq #[] 0) #[])
noncomputable def o155 (P : Params) : Obj := (Obj.mk Value.none none (Data.func (FuncData.mk (Str.ofString "offset") (Str.ofString "Signal.offset") (fnA (tM2 18 4)) (.stmts (fnB (tM2 18 4))) (fnS (tM2 18 4)) 0 [] Value.none Value.none Value.none Value.none none Value.none Value.none 0)) #[])
noncomputable def o156 (P : Params) : Obj := (Obj.mk (Value.type "code") none (Data.fields (List.toArray [(vS "offset" 383), (vS "Signal.offset" 384), (vS "/claim/cut.py" 385), (Value.int 186 0), (Value.int 2 0), (Value.int 0 0), (Value.int 0 0), (Value.int 3 0), (Value.ref 151), (Value.bool Bool.true), (Value.int 181 0), (Value.ref 152), Value.none, (Value.ref 153), (Value.ref 154), (Value.ref 155), (Value.int 388 0), (Value.int 186 0), (vS "/claim/cut.py" 389)])) #[])
noncomputable def o157 (P : Params) : Obj := (Obj.mk (Value.type "function") none (Data.func (FuncData.mk (Str.ofString "offset") (Str.ofString "Signal.offset") (fnA (tM2 18 4)) (.stmts (fnB (tM2 18 4))) (fnS (tM2 18 4)) 3 [] Value.none Value.none Value.none (vS "gateloom.design" 334) none (Value.ref 156) Value.none 0)) #[])
noncomputable def o158 (P : Params) : Obj := (Obj.mk (Value.type "tuple") none (Data.seq #[] 0) #[])
noncomputable def o159 (P : Params) : Obj := (Obj.mk Value.none none (Data.fields #[]) #[])
noncomputable def o160 (P : Params) : Obj := (Obj.mk (Value.type "tuple") none (Data.seq (List.toArray [(vS "self" 394), (vS "index" 395)]) 0) #[])
noncomputable def o161 (P : Params) : Obj := (Obj.mk (Value.type "tuple") none (Data.seq #[] 0) #[])
noncomputable def o162 (P : Params) : Obj := (Obj.mk Value.none none (Data.func (FuncData.mk (Str.ofString "place") (Str.ofString "Signal.place") (fnA (tM2 18 5)) (.stmts (fnB (tM2 18 5))) (fnS (tM2 18 5)) 0 [] Value.none Value.none Value.none Value.none none Value.none Value.none 0)) #[])
noncomputable def o163 (P : Params) : Obj := (Obj.mk (Value.type "code") none (Data.fields (List.toArray [(vS "place" 391), (vS "Signal.place" 392), (vS "/claim/cut.py" 393), (Value.int 189 0), (Value.int 2 0), (Value.int 0 0), (Value.int 0 0), (Value.int 3 0), (Value.ref 158), (Value.bool Bool.true), (Value.int 181 0), (Value.ref 159), Value.none, (Value.ref 160), (Value.ref 161), (Value.ref 162), (Value.int 396 0), (Value.int 189 0), (vS "/claim/cut.py" 397)])) #[])
noncomputable def o164 (P : Params) : Obj := (Obj.mk (Value.type "function") none (Data.func (FuncData.mk (Str.ofString "place") (Str.ofString "Signal.place") (fnA (tM2 18 5)) (.stmts (fnB (tM2 18 5))) (fnS (tM2 18 5)) 3 [] Value.none Value.none Value.none (vS "gateloom.design" 334) none (Value.ref 163) Value.none 0)) #[])
noncomputable def o165 (P : Params) : Obj := (Obj.mk (Value.type "tuple") none (Data.seq (List.toArray [(vS "at" 399), (vS "first" 400), (vS "init" 401), (vS "key" 402), (vS "kind" 403), (vS "last" 404), (vS "lsb" 405), (vS "msb" 406), (vS "path" 407), (vS "scalar" 408), (vS "signed" 409), (vS "width" 410)]) 0) #[])
noncomputable def o166 (P : Params) : Obj := (Obj.mk (Value.type "dict") none (Data.dict (List.toArray [(vE P "__module__" 343 (vS "gateloom.design" 334)), (vE P "__firstlineno__" 347 (Value.int 161 346)), (vE P "__init__" 361 (Value.ref 129)), (vE P "is_net" 368 (Value.ref 136)), (vE P "is_memory" 375 (Value.ref 143)), (vE P "words" 382 (Value.ref 150)), (vE P "offset" 390 (Value.ref 157)), (vE P "place" 398 (Value.ref 164)), (vE P "__static_attributes__" 411 (Value.ref 165)), (vE P "__dict__" 413 (Value.ref 168)), (vE P "__weakref__" 415 (Value.ref 169)), (vE P "__doc__" 416 Value.none)]) 4) #[])
noncomputable def o167 (P : Params) : Obj := (Obj.mk (Value.type "type") none (Data.cls (ClassData.mk (Str.ofString "Signal") [(Value.type "object")] [(Value.ref 167), (Value.type "object")] 166 (Str.ofString "Signal") Bool.true [] [] Bool.false none Bool.false)) (List.toArray [none, none, (some (vS "Signal" 336)), (some (vS "Signal" 344)), (some (Value.builtin "object.__new__")), (some (Value.bool Bool.true))]))
noncomputable def o168 (P : Params) : Obj := (Obj.mk (Value.type "getset_descriptor") none (Data.fields (List.toArray [(vS "__dict__" 412), (Value.ref 167), (Value.builtin "function.__dict__"), (Value.builtin "function.__dict__#set")])) #[])
noncomputable def o169 (P : Params) : Obj := (Obj.mk (Value.type "getset_descriptor") none (Data.fields (List.toArray [(vS "__weakref__" 414), (Value.ref 167), (Value.builtin "ExceptionGroup.__weakref__"), Value.none])) #[])
noncomputable def o170 (P : Params) : Obj := (Obj.mk (Value.type "super") none (Data.fields (List.toArray [(Value.ref 167), (Value.ref 167), (Value.ref 167)])) #[])
noncomputable def o171 (P : Params) : Obj := (Obj.mk (Value.type "builtin_function_or_method") none (Data.fields (List.toArray [(Value.builtin "object.__init_subclass__"), (Value.ref 167)])) #[])
noncomputable def o172 (P : Params) : Obj := (Obj.mk (Value.type "tuple") none (Data.seq #[] 0) #[])
noncomputable def o173 (P : Params) : Obj := (Obj.mk (Value.type "builtin_function_or_method") none (Data.fields (List.toArray [(Value.builtin "type.__prepare__"), (Value.type "type")])) #[])
noncomputable def o174 (P : Params) : Obj := (Obj.mk (Value.type "dict") none (Data.dict (List.toArray [(vE P "__module__" 426 (vS "gateloom.design" 334)), (vE P "__qualname__" 428 (vS "Routine" 427)), (vE P "__firstlineno__" 430 (Value.int 191 429)), (vE P "__init__" 442 (Value.ref 185)), (vE P "inputs" 449 (Value.ref 192)), (vE P "__static_attributes__" 464 (Value.ref 193))]) 6) #[])
noncomputable def o175 (P : Params) : Obj := (Obj.mk (Value.type "tuple") none (Data.seq #[] 0) #[])
noncomputable def o176 (P : Params) : Obj := (Obj.mk Value.none none (Data.fields (List.toArray [(Value.int 193 0), (Value.int 4 0), (Value.ref 184), (Value.int 209 0), (Value.int 4 0), (Value.ref 191)])) #[])
noncomputable def o177 (P : Params) : Obj := (Obj.mk (Value.type "code") none (Data.fields (List.toArray [(vS "Routine" 421), (vS "Routine" 422), (vS "/claim/cut.py" 423), (Value.int 191 0), (Value.int 0 0), (Value.int 0 0), (Value.int 0 0), (Value.int 0 0), (Value.ref 175), (Value.bool Bool.false), (Value.int 181 0), (Value.ref 176), Value.none, Value.none, Value.none, Value.none, (Value.int 424 0), (Value.int 191 0), (vS "/claim/cut.py" 425)])) #[])
noncomputable def o178 (P : Params) : Obj := (Obj.mk (Value.type "frame") none Data.plain (List.toArray [(some (Value.ref 177)), (some (Value.ref 3)), (some (Value.ref 174)), none, (some (vS "gateloom.design" 334)), none, (some (Value.ref 0))]))
noncomputable def o179 (P : Params) : Obj := (Obj.mk (Value.type "tuple") none (Data.seq #[] 0) #[])
noncomputable def o180 (P : Params) : Obj := (Obj.mk Value.none none (Data.fields #[]) #[])
noncomputable def o181 (P : Params) : Obj := (Obj.mk (Value.type "tuple") none (Data.seq (List.toArray [(vS "self" 434), (vS "number" 435), (vS "path" 436), (vS "is_function" 437), (vS "automatic" 438), (vS "at" 439)]) 0) #[])
noncomputable def o182 (P : Params) : Obj := (Obj.mk (Value.type "tuple") none (Data.seq #[] 0) #[])
noncomputable def o183 (P : Params) : Obj := (Obj.mk Value.none none (Data.func (FuncData.mk (Str.ofString "__init__") (Str.ofString "Routine.__init__") (fnA (tM2 19 0)) (.stmts (fnB (tM2 19 0))) (fnS (tM2 19 0)) 0 [] Value.none Value.none Value.none Value.none none Value.none Value.none 0)) #[])
noncomputable def o184 (P : Params) : Obj := (Obj.mk (Value.type "code") none (Data.fields (List.toArray [(vS "__init__" 431), (vS "Routine.__init__" 432), (vS "/claim/cut.py" 433), (Value.int 193 0), (Value.int 6 0), (Value.int 0 0), (Value.int 0 0), (Value.int 3 0), (Value.ref 179), (Value.bool Bool.true), (Value.int 181 0), (Value.ref 180), Value.none, (Value.ref 181), (Value.ref 182), (Value.ref 183), (Value.int 440 0), (Value.int 193 0), (vS "/claim/cut.py" 441)])) #[])
noncomputable def o185 (P : Params) : Obj := (Obj.mk (Value.type "function") none (Data.func (FuncData.mk (Str.ofString "__init__") (Str.ofString "Routine.__init__") (fnA (tM2 19 0)) (.stmts (fnB (tM2 19 0))) (fnS (tM2 19 0)) 3 [] Value.none Value.none Value.none (vS "gateloom.design" 334) none (Value.ref 184) Value.none 0)) #[])
noncomputable def o186 (P : Params) : Obj := (Obj.mk (Value.type "tuple") none (Data.seq #[] 0) #[])
noncomputable def o187 (P : Params) : Obj := (Obj.mk Value.none none (Data.fields #[]) #[])
noncomputable def o188 (P : Params) : Obj := (Obj.mk (Value.type "tuple") none (Data.seq (List.toArray [(vS "self" 446)]) 0) #[])
noncomputable def o189 (P : Params) : Obj := (Obj.mk (Value.type "tuple") none (Data.seq #[] 0) #[])
noncomputable def o190 (P : Params) : Obj := (Obj.mk Value.none none (Data.func (FuncData.mk (Str.ofString "inputs") (Str.ofString "Routine.inputs") (fnA (tM2 19 1)) (.stmts (fnB (tM2 19 1))) (fnS (tM2 19 1)) 0 [] Value.none Value.none Value.none Value.none none Value.none Value.none 0)) #[])
noncomputable def o191 (P : Params) : Obj := (Obj.mk (Value.type "code") none (Data.fields (List.toArray [(vS "inputs" 443), (vS "Routine.inputs" 444), (vS "/claim/cut.py" 445), (Value.int 209 0), (Value.int 1 0), (Value.int 0 0), (Value.int 0 0), (Value.int 3 0), (Value.ref 186), (Value.bool Bool.true), (Value.int 181 0), (Value.ref 187), Value.none, (Value.ref 188), (Value.ref 189), (Value.ref 190), (Value.int 447 0), (Value.int 209 0), (vS "/claim/cut.py" 448)])) #[])
noncomputable def o192 (P : Params) : Obj := (Obj.mk (Value.type "function") none (Data.func (FuncData.mk (Str.ofString "inputs") (Str.ofString "Routine.inputs") (fnA (tM2 19 1)) (.stmts (fnB (tM2 19 1))) (fnS (tM2 19 1)) 3 [] Value.none Value.none Value.none (vS "gateloom.design" 334) none (Value.ref 191) Value.none 0)) #[])
noncomputable def o193 (P : Params) : Obj := (Obj.mk (Value.type "tuple") none (Data.seq (List.toArray [(vS "at" 450), (vS "automatic" 451), (vS "body" 452), (vS "disable_scope" 453), (vS "is_function" 454), (vS "made" 455), (vS "number" 456), (vS "path" 457), (vS "ports" 458), (vS "scope" 459), (vS "signed" 460), (vS "slots" 461), (vS "source" 462), (vS "width" 463)]) 0) #[])
noncomputable def o194 (P : Params) : Obj := (Obj.mk (Value.type "dict") none (Data.dict (List.toArray [(vE P "__module__" 426 (vS "gateloom.design" 334)), (vE P "__firstlineno__" 430 (Value.int 191 429)), (vE P "__init__" 442 (Value.ref 185)), (vE P "inputs" 449 (Value.ref 192)), (vE P "__static_attributes__" 464 (Value.ref 193)), (vE P "__dict__" 466 (Value.ref 196)), (vE P "__weakref__" 468 (Value.ref 197)), (vE P "__doc__" 469 Value.none)]) 4) #[])
noncomputable def o195 (P : Params) : Obj := (Obj.mk (Value.type "type") none (Data.cls (ClassData.mk (Str.ofString "Routine") [(Value.type "object")] [(Value.ref 195), (Value.type "object")] 194 (Str.ofString "Routine") Bool.true [] [] Bool.false none Bool.false)) (List.toArray [none, none, (some (vS "Routine" 419)), (some (vS "Routine" 427)), (some (Value.builtin "object.__new__")), (some (Value.bool Bool.true))]))
noncomputable def o196 (P : Params) : Obj := (Obj.mk (Value.type "getset_descriptor") none (Data.fields (List.toArray [(vS "__dict__" 465), (Value.ref 195), (Value.builtin "function.__dict__"), (Value.builtin "function.__dict__#set")])) #[])
noncomputable def o197 (P : Params) : Obj := (Obj.mk (Value.type "getset_descriptor") none (Data.fields (List.toArray [(vS "__weakref__" 467), (Value.ref 195), (Value.builtin "ExceptionGroup.__weakref__"), Value.none])) #[])
noncomputable def o198 (P : Params) : Obj := (Obj.mk (Value.type "super") none (Data.fields (List.toArray [(Value.ref 195), (Value.ref 195), (Value.ref 195)])) #[])
noncomputable def o199 (P : Params) : Obj := (Obj.mk (Value.type "builtin_function_or_method") none (Data.fields (List.toArray [(Value.builtin "object.__init_subclass__"), (Value.ref 195)])) #[])
noncomputable def o200 (P : Params) : Obj := (Obj.mk (Value.type "tuple") none (Data.seq #[] 0) #[])
noncomputable def o201 (P : Params) : Obj := (Obj.mk (Value.type "builtin_function_or_method") none (Data.fields (List.toArray [(Value.builtin "type.__prepare__"), (Value.type "type")])) #[])
noncomputable def o202 (P : Params) : Obj := (Obj.mk (Value.type "dict") none (Data.dict (List.toArray [(vE P "__module__" 479 (vS "gateloom.design" 334)), (vE P "__qualname__" 481 (vS "Design" 480)), (vE P "__firstlineno__" 483 (Value.int 211 482)), (vE P "__init__" 490 (Value.ref 213)), (vE P "add_signal" 505 (Value.ref 220)), (vE P "add_scope" 513 (Value.ref 227)), (vE P "add_routine" 525 (Value.ref 234)), (vE P "add_process" 536 (Value.ref 241)), (vE P "find" 544 (Value.ref 248)), (vE P "routine" 553 (Value.ref 255)), (vE P "__static_attributes__" 565 (Value.ref 256))]) 11) #[])
noncomputable def o203 (P : Params) : Obj := (Obj.mk (Value.type "tuple") none (Data.seq #[] 0) #[])
noncomputable def o204 (P : Params) : Obj := (Obj.mk Value.none none (Data.fields (List.toArray [(Value.int 213 0), (Value.int 4 0), (Value.ref 212), (Value.int 226 0), (Value.int 4 0), (Value.ref 219), (Value.int 233 0), (Value.int 4 0), (Value.ref 226), (Value.int 236 0), (Value.int 4 0), (Value.ref 233), (Value.int 241 0), (Value.int 4 0), (Value.ref 240), (Value.int 244 0), (Value.int 4 0), (Value.ref 247), (Value.int 247 0), (Value.int 4 0), (Value.ref 254)])) #[])
noncomputable def o205 (P : Params) : Obj := (Obj.mk (Value.type "code") none (Data.fields (List.toArray [(vS "Design" 474), (vS "Design" 475), (vS "/claim/cut.py" 476), (Value.int 211 0), (Value.int 0 0), (Value.int 0 0), (Value.int 0 0), (Value.int 0 0), (Value.ref 203), (Value.bool Bool.false), (Value.int 181 0), (Value.ref 204), Value.none, Value.none, Value.none, Value.none, (Value.int 477 0), (Value.int 211 0), (vS "/claim/cut.py" 478)])) #[])
noncomputable def o206 (P : Params) : Obj := (Obj.mk (Value.type "frame") none Data.plain (List.toArray [(some (Value.ref 205)), (some (Value.ref 3)), (some (Value.ref 202)), none, (some (vS "gateloom.design" 334)), none, (some (Value.ref 0))]))
noncomputable def o207 (P : Params) : Obj := (Obj.mk (Value.type "tuple") none (Data.seq #[] 0) #[])
noncomputable def o208 (P : Params) : Obj := (Obj.mk Value.none none (Data.fields #[]) #[])
noncomputable def o209 (P : Params) : Obj := (Obj.mk (Value.type "tuple") none (Data.seq (List.toArray [(vS "self" 487)]) 0) #[])
noncomputable def o210 (P : Params) : Obj := (Obj.mk (Value.type "tuple") none (Data.seq #[] 0) #[])
noncomputable def o211 (P : Params) : Obj := (Obj.mk Value.none none (Data.func (FuncData.mk (Str.ofString "__init__") (Str.ofString "Design.__init__") (fnA (tM2 20 0)) (.stmts (fnB (tM2 20 0))) (fnS (tM2 20 0)) 0 [] Value.none Value.none Value.none Value.none none Value.none Value.none 0)) #[])
noncomputable def o212 (P : Params) : Obj := (Obj.mk (Value.type "code") none (Data.fields (List.toArray [(vS "__init__" 484), (vS "Design.__init__" 485), (vS "/claim/cut.py" 486), (Value.int 213 0), (Value.int 1 0), (Value.int 0 0), (Value.int 0 0), (Value.int 3 0), (Value.ref 207), (Value.bool Bool.true), (Value.int 181 0), (Value.ref 208), Value.none, (Value.ref 209), (Value.ref 210), (Value.ref 211), (Value.int 488 0), (Value.int 213 0), (vS "/claim/cut.py" 489)])) #[])
noncomputable def o213 (P : Params) : Obj := (Obj.mk (Value.type "function") none (Data.func (FuncData.mk (Str.ofString "__init__") (Str.ofString "Design.__init__") (fnA (tM2 20 0)) (.stmts (fnB (tM2 20 0))) (fnS (tM2 20 0)) 3 [] Value.none Value.none Value.none (vS "gateloom.design" 334) none (Value.ref 212) Value.none 0)) #[])
noncomputable def o214 (P : Params) : Obj := (Obj.mk (Value.type "tuple") none (Data.seq #[] 0) #[])
noncomputable def o215 (P : Params) : Obj := (Obj.mk Value.none none (Data.fields #[]) #[])
noncomputable def o216 (P : Params) : Obj := (Obj.mk (Value.type "tuple") none (Data.seq (List.toArray [(vS "self" 494), (vS "path" 495), (vS "kind" 496), (vS "width" 497), (vS "signed" 498), (vS "msb" 499), (vS "lsb" 500), (vS "at" 501), (vS "signal" 502)]) 0) #[])
noncomputable def o217 (P : Params) : Obj := (Obj.mk (Value.type "tuple") none (Data.seq #[] 0) #[])
noncomputable def o218 (P : Params) : Obj := (Obj.mk Value.none none (Data.func (FuncData.mk (Str.ofString "add_signal") (Str.ofString "Design.add_signal") (fnA (tM2 20 1)) (.stmts (fnB (tM2 20 1))) (fnS (tM2 20 1)) 0 [] Value.none Value.none Value.none Value.none none Value.none Value.none 0)) #[])
noncomputable def o219 (P : Params) : Obj := (Obj.mk (Value.type "code") none (Data.fields (List.toArray [(vS "add_signal" 491), (vS "Design.add_signal" 492), (vS "/claim/cut.py" 493), (Value.int 226 0), (Value.int 8 0), (Value.int 0 0), (Value.int 0 0), (Value.int 3 0), (Value.ref 214), (Value.bool Bool.true), (Value.int 181 0), (Value.ref 215), Value.none, (Value.ref 216), (Value.ref 217), (Value.ref 218), (Value.int 503 0), (Value.int 226 0), (vS "/claim/cut.py" 504)])) #[])
noncomputable def o220 (P : Params) : Obj := (Obj.mk (Value.type "function") none (Data.func (FuncData.mk (Str.ofString "add_signal") (Str.ofString "Design.add_signal") (fnA (tM2 20 1)) (.stmts (fnB (tM2 20 1))) (fnS (tM2 20 1)) 3 [] Value.none Value.none Value.none (vS "gateloom.design" 334) none (Value.ref 219) Value.none 0)) #[])
noncomputable def o221 (P : Params) : Obj := (Obj.mk (Value.type "tuple") none (Data.seq #[] 0) #[])
noncomputable def o222 (P : Params) : Obj := (Obj.mk Value.none none (Data.fields #[]) #[])
noncomputable def o223 (P : Params) : Obj := (Obj.mk (Value.type "tuple") none (Data.seq (List.toArray [(vS "self" 509), (vS "path" 510)]) 0) #[])
noncomputable def o224 (P : Params) : Obj := (Obj.mk (Value.type "tuple") none (Data.seq #[] 0) #[])
noncomputable def o225 (P : Params) : Obj := (Obj.mk Value.none none (Data.func (FuncData.mk (Str.ofString "add_scope") (Str.ofString "Design.add_scope") (fnA (tM2 20 2)) (.stmts (fnB (tM2 20 2))) (fnS (tM2 20 2)) 0 [] Value.none Value.none Value.none Value.none none Value.none Value.none 0)) #[])
noncomputable def o226 (P : Params) : Obj := (Obj.mk (Value.type "code") none (Data.fields (List.toArray [(vS "add_scope" 506), (vS "Design.add_scope" 507), (vS "/claim/cut.py" 508), (Value.int 233 0), (Value.int 2 0), (Value.int 0 0), (Value.int 0 0), (Value.int 3 0), (Value.ref 221), (Value.bool Bool.true), (Value.int 181 0), (Value.ref 222), Value.none, (Value.ref 223), (Value.ref 224), (Value.ref 225), (Value.int 511 0), (Value.int 233 0), (vS "/claim/cut.py" 512)])) #[])
noncomputable def o227 (P : Params) : Obj := (Obj.mk (Value.type "function") none (Data.func (FuncData.mk (Str.ofString "add_scope") (Str.ofString "Design.add_scope") (fnA (tM2 20 2)) (.stmts (fnB (tM2 20 2))) (fnS (tM2 20 2)) 3 [] Value.none Value.none Value.none (vS "gateloom.design" 334) none (Value.ref 226) Value.none 0)) #[])
noncomputable def o228 (P : Params) : Obj := (Obj.mk (Value.type "tuple") none (Data.seq #[] 0) #[])
noncomputable def o229 (P : Params) : Obj := (Obj.mk Value.none none (Data.fields #[]) #[])
noncomputable def o230 (P : Params) : Obj := (Obj.mk (Value.type "tuple") none (Data.seq (List.toArray [(vS "self" 517), (vS "path" 518), (vS "is_function" 519), (vS "automatic" 520), (vS "at" 521), (vS "routine" 522)]) 0) #[])
noncomputable def o231 (P : Params) : Obj := (Obj.mk (Value.type "tuple") none (Data.seq #[] 0) #[])
noncomputable def o232 (P : Params) : Obj := (Obj.mk Value.none none (Data.func (FuncData.mk (Str.ofString "add_routine") (Str.ofString "Design.add_routine") (fnA (tM2 20 3)) (.stmts (fnB (tM2 20 3))) (fnS (tM2 20 3)) 0 [] Value.none Value.none Value.none Value.none none Value.none Value.none 0)) #[])
noncomputable def o233 (P : Params) : Obj := (Obj.mk (Value.type "code") none (Data.fields (List.toArray [(vS "add_routine" 514), (vS "Design.add_routine" 515), (vS "/claim/cut.py" 516), (Value.int 236 0), (Value.int 5 0), (Value.int 0 0), (Value.int 0 0), (Value.int 3 0), (Value.ref 228), (Value.bool Bool.true), (Value.int 181 0), (Value.ref 229), Value.none, (Value.ref 230), (Value.ref 231), (Value.ref 232), (Value.int 523 0), (Value.int 236 0), (vS "/claim/cut.py" 524)])) #[])
noncomputable def o234 (P : Params) : Obj := (Obj.mk (Value.type "function") none (Data.func (FuncData.mk (Str.ofString "add_routine") (Str.ofString "Design.add_routine") (fnA (tM2 20 3)) (.stmts (fnB (tM2 20 3))) (fnS (tM2 20 3)) 3 [] Value.none Value.none Value.none (vS "gateloom.design" 334) none (Value.ref 233) Value.none 0)) #[])
noncomputable def o235 (P : Params) : Obj := (Obj.mk (Value.type "tuple") none (Data.seq #[] 0) #[])
noncomputable def o236 (P : Params) : Obj := (Obj.mk Value.none none (Data.fields #[]) #[])
noncomputable def o237 (P : Params) : Obj := (Obj.mk (Value.type "tuple") none (Data.seq (List.toArray [(vS "self" 529), (vS "kind" 530), (vS "body" 531), (vS "path" 532), (vS "at" 533)]) 0) #[])
noncomputable def o238 (P : Params) : Obj := (Obj.mk (Value.type "tuple") none (Data.seq #[] 0) #[])
noncomputable def o239 (P : Params) : Obj := (Obj.mk Value.none none (Data.func (FuncData.mk (Str.ofString "add_process") (Str.ofString "Design.add_process") (fnA (tM2 20 4)) (.stmts (fnB (tM2 20 4))) (fnS (tM2 20 4)) 0 [] Value.none Value.none Value.none Value.none none Value.none Value.none 0)) #[])
noncomputable def o240 (P : Params) : Obj := (Obj.mk (Value.type "code") none (Data.fields (List.toArray [(vS "add_process" 526), (vS "Design.add_process" 527), (vS "/claim/cut.py" 528), (Value.int 241 0), (Value.int 5 0), (Value.int 0 0), (Value.int 0 0), (Value.int 3 0), (Value.ref 235), (Value.bool Bool.true), (Value.int 181 0), (Value.ref 236), Value.none, (Value.ref 237), (Value.ref 238), (Value.ref 239), (Value.int 534 0), (Value.int 241 0), (vS "/claim/cut.py" 535)])) #[])
noncomputable def o241 (P : Params) : Obj := (Obj.mk (Value.type "function") none (Data.func (FuncData.mk (Str.ofString "add_process") (Str.ofString "Design.add_process") (fnA (tM2 20 4)) (.stmts (fnB (tM2 20 4))) (fnS (tM2 20 4)) 3 [] Value.none Value.none Value.none (vS "gateloom.design" 334) none (Value.ref 240) Value.none 0)) #[])
noncomputable def o242 (P : Params) : Obj := (Obj.mk (Value.type "tuple") none (Data.seq #[] 0) #[])
noncomputable def o243 (P : Params) : Obj := (Obj.mk Value.none none (Data.fields #[]) #[])
noncomputable def o244 (P : Params) : Obj := (Obj.mk (Value.type "tuple") none (Data.seq (List.toArray [(vS "self" 540), (vS "path" 541)]) 0) #[])
noncomputable def o245 (P : Params) : Obj := (Obj.mk (Value.type "tuple") none (Data.seq #[] 0) #[])
noncomputable def o246 (P : Params) : Obj := (Obj.mk Value.none none (Data.func (FuncData.mk (Str.ofString "find") (Str.ofString "Design.find") (fnA (tM2 20 5)) (.stmts (fnB (tM2 20 5))) (fnS (tM2 20 5)) 0 [] Value.none Value.none Value.none Value.none none Value.none Value.none 0)) #[])
noncomputable def o247 (P : Params) : Obj := (Obj.mk (Value.type "code") none (Data.fields (List.toArray [(vS "find" 537), (vS "Design.find" 538), (vS "/claim/cut.py" 539), (Value.int 244 0), (Value.int 2 0), (Value.int 0 0), (Value.int 0 0), (Value.int 3 0), (Value.ref 242), (Value.bool Bool.true), (Value.int 181 0), (Value.ref 243), Value.none, (Value.ref 244), (Value.ref 245), (Value.ref 246), (Value.int 542 0), (Value.int 244 0), (vS "/claim/cut.py" 543)])) #[])
noncomputable def o248 (P : Params) : Obj := (Obj.mk (Value.type "function") none (Data.func (FuncData.mk (Str.ofString "find") (Str.ofString "Design.find") (fnA (tM2 20 5)) (.stmts (fnB (tM2 20 5))) (fnS (tM2 20 5)) 3 [] Value.none Value.none Value.none (vS "gateloom.design" 334) none (Value.ref 247) Value.none 0)) #[])
noncomputable def o249 (P : Params) : Obj := (Obj.mk (Value.type "tuple") none (Data.seq #[] 0) #[])
noncomputable def o250 (P : Params) : Obj := (Obj.mk Value.none none (Data.fields #[]) #[])
noncomputable def o251 (P : Params) : Obj := (Obj.mk (Value.type "tuple") none (Data.seq (List.toArray [(vS "self" 548), (vS "n" 549), (vS "routine" 550)]) 0) #[])
noncomputable def o252 (P : Params) : Obj := (Obj.mk (Value.type "tuple") none (Data.seq #[] 0) #[])
noncomputable def o253 (P : Params) : Obj := (Obj.mk Value.none none (Data.func (FuncData.mk (Str.ofString "routine") (Str.ofString "Design.routine") (fnA (tM2 20 6)) (.stmts (fnB (tM2 20 6))) (fnS (tM2 20 6)) 0 [] Value.none Value.none Value.none Value.none none Value.none Value.none 0)) #[])
noncomputable def o254 (P : Params) : Obj := (Obj.mk (Value.type "code") none (Data.fields (List.toArray [(vS "routine" 545), (vS "Design.routine" 546), (vS "/claim/cut.py" 547), (Value.int 247 0), (Value.int 2 0), (Value.int 0 0), (Value.int 0 0), (Value.int 3 0), (Value.ref 249), (Value.bool Bool.true), (Value.int 181 0), (Value.ref 250), Value.none, (Value.ref 251), (Value.ref 252), (Value.ref 253), (Value.int 551 0), (Value.int 247 0), (vS "/claim/cut.py" 552)])) #[])
noncomputable def o255 (P : Params) : Obj := (Obj.mk (Value.type "function") none (Data.func (FuncData.mk (Str.ofString "routine") (Str.ofString "Design.routine") (fnA (tM2 20 6)) (.stmts (fnB (tM2 20 6))) (fnS (tM2 20 6)) 3 [] Value.none Value.none Value.none (vS "gateloom.design" 334) none (Value.ref 254) Value.none 0)) #[])
noncomputable def o256 (P : Params) : Obj := (Obj.mk (Value.type "tuple") none (Data.seq (List.toArray [(vS "assigns" 554), (vS "by_path" 555), (vS "gates" 556), (vS "maker" 557), (vS "ports" 558), (vS "processes" 559), (vS "routines" 560), (vS "scopes" 561), (vS "signals" 562), (vS "tops" 563), (vS "udps" 564)]) 0) #[])
noncomputable def o257 (P : Params) : Obj := (Obj.mk (Value.type "dict") none (Data.dict (List.toArray [(vE P "__module__" 479 (vS "gateloom.design" 334)), (vE P "__firstlineno__" 483 (Value.int 211 482)), (vE P "__init__" 490 (Value.ref 213)), (vE P "add_signal" 505 (Value.ref 220)), (vE P "add_scope" 513 (Value.ref 227)), (vE P "add_routine" 525 (Value.ref 234)), (vE P "add_process" 536 (Value.ref 241)), (vE P "find" 544 (Value.ref 248)), (vE P "routine" 553 (Value.ref 255)), (vE P "__static_attributes__" 565 (Value.ref 256)), (vE P "__dict__" 567 (Value.ref 259)), (vE P "__weakref__" 569 (Value.ref 260)), (vE P "__doc__" 570 Value.none)]) 4) #[])
noncomputable def o258 (P : Params) : Obj := (Obj.mk (Value.type "type") none (Data.cls (ClassData.mk (Str.ofString "Design") [(Value.type "object")] [(Value.ref 258), (Value.type "object")] 257 (Str.ofString "Design") Bool.true [] [] Bool.false none Bool.false)) (List.toArray [none, none, (some (vS "Design" 472)), (some (vS "Design" 480)), (some (Value.builtin "object.__new__")), (some (Value.bool Bool.true))]))
noncomputable def o259 (P : Params) : Obj := (Obj.mk (Value.type "getset_descriptor") none (Data.fields (List.toArray [(vS "__dict__" 566), (Value.ref 258), (Value.builtin "function.__dict__"), (Value.builtin "function.__dict__#set")])) #[])
noncomputable def o260 (P : Params) : Obj := (Obj.mk (Value.type "getset_descriptor") none (Data.fields (List.toArray [(vS "__weakref__" 568), (Value.ref 258), (Value.builtin "ExceptionGroup.__weakref__"), Value.none])) #[])
noncomputable def o261 (P : Params) : Obj := (Obj.mk (Value.type "super") none (Data.fields (List.toArray [(Value.ref 258), (Value.ref 258), (Value.ref 258)])) #[])
noncomputable def o262 (P : Params) : Obj := (Obj.mk (Value.type "builtin_function_or_method") none (Data.fields (List.toArray [(Value.builtin "object.__init_subclass__"), (Value.ref 258)])) #[])
noncomputable def o263 (P : Params) : Obj := (Obj.mk (Value.type "tuple") none (Data.seq #[] 0) #[])
noncomputable def o264 (P : Params) : Obj := (Obj.mk Value.none none (Data.fields #[]) #[])
noncomputable def o265 (P : Params) : Obj := (Obj.mk (Value.type "tuple") none (Data.seq (List.toArray [(vS "script" 578), (vS "tray" 579), (vS "one" 580), (vS "left" 581), (vS "hop" 582)]) 0) #[])
noncomputable def o266 (P : Params) : Obj := (Obj.mk (Value.type "tuple") none (Data.seq #[] 0) #[])
noncomputable def o267 (P : Params) : Obj := (Obj.mk Value.none none (Data.func (FuncData.mk (Str.ofString "_law_cups") (Str.ofString "_law_cups") (fnA (tS1 22)) (.stmts (fnB (tS1 22))) (fnS (tS1 22)) 0 [] Value.none Value.none Value.none Value.none none Value.none Value.none 0)) #[])
noncomputable def o268 (P : Params) : Obj := (Obj.mk (Value.type "code") none (Data.fields (List.toArray [(vS "_law_cups" 575), (vS "_law_cups" 576), (vS "/claim/cut.py" 577), (Value.int 255 0), (Value.int 1 0), (Value.int 0 0), (Value.int 0 0), (Value.int 3 0), (Value.ref 263), (Value.bool Bool.true), (Value.int 181 0), (Value.ref 264), Value.none, (Value.ref 265), (Value.ref 266), (Value.ref 267), (Value.int 583 0), (Value.int 255 0), (vS "/claim/cut.py" 584)])) #[])
noncomputable def o269 (P : Params) : Obj := (Obj.mk (Value.type "function") none (Data.func (FuncData.mk (Str.ofString "_law_cups") (Str.ofString "_law_cups") (fnA (tS1 22)) (.stmts (fnB (tS1 22))) (fnS (tS1 22)) 3 [] Value.none Value.none Value.none (vS "law_on0119_01" 573) none (Value.ref 268) Value.none 0)) #[])
noncomputable def o270 (P : Params) : Obj := (Obj.mk (Value.type "tuple") none (Data.seq #[] 0) #[])
noncomputable def o271 (P : Params) : Obj := (Obj.mk Value.none none (Data.fields #[]) #[])
noncomputable def o272 (P : Params) : Obj := (Obj.mk (Value.type "tuple") none (Data.seq (List.toArray [(vS "tray" 589), (vS "most" 590)]) 0) #[])
noncomputable def o273 (P : Params) : Obj := (Obj.mk (Value.type "tuple") none (Data.seq #[] 0) #[])
noncomputable def o274 (P : Params) : Obj := (Obj.mk Value.none none (Data.func (FuncData.mk (Str.ofString "_law_cup") (Str.ofString "_law_cup") (fnA (tS1 23)) (.stmts (fnB (tS1 23))) (fnS (tS1 23)) 0 [] Value.none Value.none Value.none Value.none none Value.none Value.none 0)) #[])
noncomputable def o275 (P : Params) : Obj := (Obj.mk (Value.type "code") none (Data.fields (List.toArray [(vS "_law_cup" 586), (vS "_law_cup" 587), (vS "/claim/cut.py" 588), (Value.int 265 0), (Value.int 2 0), (Value.int 0 0), (Value.int 0 0), (Value.int 3 0), (Value.ref 270), (Value.bool Bool.true), (Value.int 181 0), (Value.ref 271), Value.none, (Value.ref 272), (Value.ref 273), (Value.ref 274), (Value.int 591 0), (Value.int 265 0), (vS "/claim/cut.py" 592)])) #[])
noncomputable def o276 (P : Params) : Obj := (Obj.mk (Value.type "function") none (Data.func (FuncData.mk (Str.ofString "_law_cup") (Str.ofString "_law_cup") (fnA (tS1 23)) (.stmts (fnB (tS1 23))) (fnS (tS1 23)) 3 [] Value.none Value.none Value.none (vS "law_on0119_01" 573) none (Value.ref 275) Value.none 0)) #[])
noncomputable def o277 (P : Params) : Obj := (Obj.mk (Value.type "tuple") none (Data.seq #[] 0) #[])
noncomputable def o278 (P : Params) : Obj := (Obj.mk Value.none none (Data.fields #[]) #[])
noncomputable def o279 (P : Params) : Obj := (Obj.mk (Value.type "tuple") none (Data.seq (List.toArray [(vS "tray" 597), (vS "number" 598), (vS "many" 599), (vS "links" 600), (vS "touches" 601), (vS "sort" 602), (vS "goal" 603), (vS "other" 604)]) 0) #[])
noncomputable def o280 (P : Params) : Obj := (Obj.mk (Value.type "tuple") none (Data.seq #[] 0) #[])
noncomputable def o281 (P : Params) : Obj := (Obj.mk Value.none none (Data.func (FuncData.mk (Str.ofString "_law_body") (Str.ofString "_law_body") (fnA (tS1 24)) (.stmts (fnB (tS1 24))) (fnS (tS1 24)) 0 [] Value.none Value.none Value.none Value.none none Value.none Value.none 0)) #[])
noncomputable def o282 (P : Params) : Obj := (Obj.mk (Value.type "code") none (Data.fields (List.toArray [(vS "_law_body" 594), (vS "_law_body" 595), (vS "/claim/cut.py" 596), (Value.int 267 0), (Value.int 5 0), (Value.int 0 0), (Value.int 0 0), (Value.int 3 0), (Value.ref 277), (Value.bool Bool.true), (Value.int 181 0), (Value.ref 278), Value.none, (Value.ref 279), (Value.ref 280), (Value.ref 281), (Value.int 605 0), (Value.int 267 0), (vS "/claim/cut.py" 606)])) #[])
noncomputable def o283 (P : Params) : Obj := (Obj.mk (Value.type "function") none (Data.func (FuncData.mk (Str.ofString "_law_body") (Str.ofString "_law_body") (fnA (tS1 24)) (.stmts (fnB (tS1 24))) (fnS (tS1 24)) 3 [] Value.none Value.none Value.none (vS "law_on0119_01" 573) none (Value.ref 282) Value.none 0)) #[])
noncomputable def o284 (P : Params) : Obj := (Obj.mk (Value.type "tuple") none (Data.seq #[] 0) #[])
noncomputable def o285 (P : Params) : Obj := (Obj.mk Value.none none (Data.fields #[]) #[])
noncomputable def o286 (P : Params) : Obj := (Obj.mk (Value.type "tuple") none (Data.seq (List.toArray [(vS "tray" 611), (vS "deep" 612), (vS "many" 613), (vS "called" 614), (vS "loose" 615), (vS "sort" 616), (vS "number" 617), (vS "one" 618), (vS "two" 619)]) 0) #[])
noncomputable def o287 (P : Params) : Obj := (Obj.mk (Value.type "tuple") none (Data.seq #[] 0) #[])
noncomputable def o288 (P : Params) : Obj := (Obj.mk Value.none none (Data.func (FuncData.mk (Str.ofString "_law_grown") (Str.ofString "_law_grown") (fnA (tS1 25)) (.stmts (fnB (tS1 25))) (fnS (tS1 25)) 0 [] Value.none Value.none Value.none Value.none none Value.none Value.none 0)) #[])
noncomputable def o289 (P : Params) : Obj := (Obj.mk (Value.type "code") none (Data.fields (List.toArray [(vS "_law_grown" 608), (vS "_law_grown" 609), (vS "/claim/cut.py" 610), (Value.int 280 0), (Value.int 5 0), (Value.int 0 0), (Value.int 0 0), (Value.int 3 0), (Value.ref 284), (Value.bool Bool.true), (Value.int 181 0), (Value.ref 285), Value.none, (Value.ref 286), (Value.ref 287), (Value.ref 288), (Value.int 620 0), (Value.int 280 0), (vS "/claim/cut.py" 621)])) #[])
noncomputable def o290 (P : Params) : Obj := (Obj.mk (Value.type "function") none (Data.func (FuncData.mk (Str.ofString "_law_grown") (Str.ofString "_law_grown") (fnA (tS1 25)) (.stmts (fnB (tS1 25))) (fnS (tS1 25)) 3 [] Value.none Value.none Value.none (vS "law_on0119_01" 573) none (Value.ref 289) Value.none 0)) #[])
noncomputable def o291 (P : Params) : Obj := (Obj.mk (Value.type "tuple") none (Data.seq #[] 0) #[])
noncomputable def o292 (P : Params) : Obj := (Obj.mk Value.none none (Data.fields #[]) #[])
noncomputable def o293 (P : Params) : Obj := (Obj.mk Value.none none (Data.func (FuncData.mk (Str.ofString "law") (Str.ofString "law") (fnA (tS1 26)) (.stmts (fnB (tS1 26))) (fnS (tS1 26)) 0 [] Value.none Value.none Value.none Value.none none Value.none Value.none 0)) #[])
noncomputable def o294 (P : Params) : Obj := (Obj.mk (Value.type "code") none (Data.fields (List.toArray [(vS "law" 623), (vS "law" 624), (vS "/claim/cut.py" 625), (Value.int 300 0), (Value.int 1 0), (Value.int 0 0), (Value.int 0 0), (Value.int 3 0), (Value.ref 291), (Value.bool Bool.true), (Value.int 181 0), (Value.ref 292), Value.none, Value.none, Value.none, (Value.ref 293), (Value.int 626 0), (Value.int 300 0), (vS "/claim/cut.py" 627)])) #[])
noncomputable def o295 (P : Params) : Obj := (Obj.mk (Value.type "function") none (Data.func (FuncData.mk (Str.ofString "law") (Str.ofString "law") (fnA (tS1 26)) (.stmts (fnB (tS1 26))) (fnS (tS1 26)) 3 [] Value.none Value.none Value.none (vS "law_on0119_01" 573) none (Value.ref 294) Value.none 0)) #[])
noncomputable def heap0 (P : Params) : Heap := ⟨⟨[PySem.W.boot_o_0 P, PySem.W.boot_o_1 P, PySem.W.boot_o_2 P, PySem.W.boot_o_3 P, PySem.W.boot_o_4 P, PySem.W.boot_o_5 P, PySem.W.boot_o_6 P, PySem.W.boot_o_7 P, PySem.W.boot_o_8 P, PySem.W.boot_o_9 P, PySem.W.boot_o_10 P, oi11 P, oi12 P, oi13 P, oi14 P]⟩, {}⟩
noncomputable def tree0 (P : Params) : BT := (BT.node (PySem.W.boot_o_0 P) (BT.node (PySem.W.boot_o_1 P) (BT.node (PySem.W.boot_o_3 P) (BT.node (PySem.W.boot_o_7 P) BT.nil BT.nil) (BT.node (oi11 P) BT.nil BT.nil)) (BT.node (PySem.W.boot_o_5 P) (BT.node (PySem.W.boot_o_9 P) BT.nil BT.nil) (BT.node (oi13 P) BT.nil BT.nil))) (BT.node (PySem.W.boot_o_2 P) (BT.node (PySem.W.boot_o_4 P) (BT.node (PySem.W.boot_o_8 P) BT.nil BT.nil) (BT.node (oi12 P) BT.nil BT.nil)) (BT.node (PySem.W.boot_o_6 P) (BT.node (PySem.W.boot_o_10 P) BT.nil BT.nil) (BT.node (oi14 P) BT.nil BT.nil))))
noncomputable def o3m (P : Params) : Obj := (Obj.mk (Value.type "dict") none (Data.dict (List.toArray [(vE P "__name__" 165 (vS "gateloom.elabparts" 319)), (vE P "__doc__" 166 Value.none), (vE P "__package__" 167 Value.none), (vE P "__loader__" 168 (Value.builtin "__main__.__loader__#opaque")), (vE P "__spec__" 169 Value.none), (vE P "__annotations__" 170 (Value.ref 6)), (vE P "__builtins__" 171 (Value.ref 4)), (vE P "__file__" 173 (vS "/claim/cut.py" 172)), (vE P "__cached__" 174 Value.none), (vE P "_wall" 193 (Value.ref 21)), (vE P "children" 203 (Value.ref 28)), (vE P "subexpressions" 214 (Value.ref 35)), (vE P "expr_reads" 223 (Value.ref 42)), (vE P "expr_calls" 232 (Value.ref 49)), (vE P "target_indexes" 241 (Value.ref 56)), (vE P "target_writes" 250 (Value.ref 63)), (vE P "stmt_parts" 256 (Value.ref 68)), (vE P "substatements" 267 (Value.ref 75)), (vE P "stmt_targets" 273 (Value.ref 80)), (vE P "stmt_exprs" 285 (Value.ref 87)), (vE P "stmt_reads" 296 (Value.ref 94)), (vE P "stmt_writes" 307 (Value.ref 101)), (vE P "stmt_calls" 318 (Value.ref 108)), (vE P "is_constant" 333 (Value.ref 115))]) 24) #[])
noncomputable def o12m (P : Params) : Obj := (Obj.mk Value.none none (Data.fields (List.toArray [(Value.int 1 0), (Value.int 0 0), (Value.ref 20), (Value.int 5 0), (Value.int 0 0), (Value.ref 27), (Value.int 24 0), (Value.int 0 0), (Value.ref 34), (Value.int 33 0), (Value.int 0 0), (Value.ref 41), (Value.int 39 0), (Value.int 0 0), (Value.ref 48), (Value.int 45 0), (Value.int 0 0), (Value.ref 55), (Value.int 53 0), (Value.int 0 0), (Value.ref 62), (Value.int 59 0), (Value.int 0 0), (Value.ref 67), (Value.int 77 0), (Value.int 0 0), (Value.ref 74), (Value.int 88 0), (Value.int 0 0), (Value.ref 79), (Value.int 94 0), (Value.int 0 0), (Value.ref 86), (Value.int 119 0), (Value.int 0 0), (Value.ref 93), (Value.int 126 0), (Value.int 0 0), (Value.ref 100), (Value.int 133 0), (Value.int 0 0), (Value.ref 107), (Value.int 143 0), (Value.int 0 0), (Value.ref 114)])) #[])
noncomputable def treeM (P : Params) : BT := (BT.node (PySem.W.boot_o_0 P) (BT.node (PySem.W.boot_o_1 P) (BT.node (o3m P) (BT.node (PySem.W.boot_o_7 P) (BT.node (o15 P) (BT.node (o31 P) (BT.node (o63 P) BT.nil BT.nil) (BT.node (o95 P) BT.nil BT.nil)) (BT.node (o47 P) (BT.node (o79 P) BT.nil BT.nil) (BT.node (o111 P) BT.nil BT.nil))) (BT.node (o23 P) (BT.node (o39 P) (BT.node (o71 P) BT.nil BT.nil) (BT.node (o103 P) BT.nil BT.nil)) (BT.node (o55 P) (BT.node (o87 P) BT.nil BT.nil) BT.nil))) (BT.node (oi11 P) (BT.node (o19 P) (BT.node (o35 P) (BT.node (o67 P) BT.nil BT.nil) (BT.node (o99 P) BT.nil BT.nil)) (BT.node (o51 P) (BT.node (o83 P) BT.nil BT.nil) (BT.node (o115 P) BT.nil BT.nil))) (BT.node (o27 P) (BT.node (o43 P) (BT.node (o75 P) BT.nil BT.nil) (BT.node (o107 P) BT.nil BT.nil)) (BT.node (o59 P) (BT.node (o91 P) BT.nil BT.nil) BT.nil)))) (BT.node (PySem.W.boot_o_5 P) (BT.node (PySem.W.boot_o_9 P) (BT.node (o17 P) (BT.node (o33 P) (BT.node (o65 P) BT.nil BT.nil) (BT.node (o97 P) BT.nil BT.nil)) (BT.node (o49 P) (BT.node (o81 P) BT.nil BT.nil) (BT.node (o113 P) BT.nil BT.nil))) (BT.node (o25 P) (BT.node (o41 P) (BT.node (o73 P) BT.nil BT.nil) (BT.node (o105 P) BT.nil BT.nil)) (BT.node (o57 P) (BT.node (o89 P) BT.nil BT.nil) BT.nil))) (BT.node (oi13 P) (BT.node (o21 P) (BT.node (o37 P) (BT.node (o69 P) BT.nil BT.nil) (BT.node (o101 P) BT.nil BT.nil)) (BT.node (o53 P) (BT.node (o85 P) BT.nil BT.nil) BT.nil)) (BT.node (o29 P) (BT.node (o45 P) (BT.node (o77 P) BT.nil BT.nil) (BT.node (o109 P) BT.nil BT.nil)) (BT.node (o61 P) (BT.node (o93 P) BT.nil BT.nil) BT.nil))))) (BT.node (PySem.W.boot_o_2 P) (BT.node (PySem.W.boot_o_4 P) (BT.node (PySem.W.boot_o_8 P) (BT.node (o16 P) (BT.node (o32 P) (BT.node (o64 P) BT.nil BT.nil) (BT.node (o96 P) BT.nil BT.nil)) (BT.node (o48 P) (BT.node (o80 P) BT.nil BT.nil) (BT.node (o112 P) BT.nil BT.nil))) (BT.node (o24 P) (BT.node (o40 P) (BT.node (o72 P) BT.nil BT.nil) (BT.node (o104 P) BT.nil BT.nil)) (BT.node (o56 P) (BT.node (o88 P) BT.nil BT.nil) BT.nil))) (BT.node (o12m P) (BT.node (o20 P) (BT.node (o36 P) (BT.node (o68 P) BT.nil BT.nil) (BT.node (o100 P) BT.nil BT.nil)) (BT.node (o52 P) (BT.node (o84 P) BT.nil BT.nil) BT.nil)) (BT.node (o28 P) (BT.node (o44 P) (BT.node (o76 P) BT.nil BT.nil) (BT.node (o108 P) BT.nil BT.nil)) (BT.node (o60 P) (BT.node (o92 P) BT.nil BT.nil) BT.nil)))) (BT.node (PySem.W.boot_o_6 P) (BT.node (PySem.W.boot_o_10 P) (BT.node (o18 P) (BT.node (o34 P) (BT.node (o66 P) BT.nil BT.nil) (BT.node (o98 P) BT.nil BT.nil)) (BT.node (o50 P) (BT.node (o82 P) BT.nil BT.nil) (BT.node (o114 P) BT.nil BT.nil))) (BT.node (o26 P) (BT.node (o42 P) (BT.node (o74 P) BT.nil BT.nil) (BT.node (o106 P) BT.nil BT.nil)) (BT.node (o58 P) (BT.node (o90 P) BT.nil BT.nil) BT.nil))) (BT.node (oi14 P) (BT.node (o22 P) (BT.node (o38 P) (BT.node (o70 P) BT.nil BT.nil) (BT.node (o102 P) BT.nil BT.nil)) (BT.node (o54 P) (BT.node (o86 P) BT.nil BT.nil) BT.nil)) (BT.node (o30 P) (BT.node (o46 P) (BT.node (o78 P) BT.nil BT.nil) (BT.node (o110 P) BT.nil BT.nil)) (BT.node (o62 P) (BT.node (o94 P) BT.nil BT.nil) BT.nil))))))
noncomputable def o3n (P : Params) : Obj := (Obj.mk (Value.type "dict") none (Data.dict (List.toArray [(vE P "__name__" 165 (vS "gateloom.design" 334)), (vE P "__doc__" 166 Value.none), (vE P "__package__" 167 Value.none), (vE P "__loader__" 168 (Value.builtin "__main__.__loader__#opaque")), (vE P "__spec__" 169 Value.none), (vE P "__annotations__" 170 (Value.ref 6)), (vE P "__builtins__" 171 (Value.ref 4)), (vE P "__file__" 173 (vS "/claim/cut.py" 172)), (vE P "__cached__" 174 Value.none), (vE P "_wall" 193 (Value.ref 21)), (vE P "children" 203 (Value.ref 28)), (vE P "subexpressions" 214 (Value.ref 35)), (vE P "expr_reads" 223 (Value.ref 42)), (vE P "expr_calls" 232 (Value.ref 49)), (vE P "target_indexes" 241 (Value.ref 56)), (vE P "target_writes" 250 (Value.ref 63)), (vE P "stmt_parts" 256 (Value.ref 68)), (vE P "substatements" 267 (Value.ref 75)), (vE P "stmt_targets" 273 (Value.ref 80)), (vE P "stmt_exprs" 285 (Value.ref 87)), (vE P "stmt_reads" 296 (Value.ref 94)), (vE P "stmt_writes" 307 (Value.ref 101)), (vE P "stmt_calls" 318 (Value.ref 108)), (vE P "is_constant" 333 (Value.ref 115)), (vE P "Signal" 418 (Value.ref 167)), (vE P "Routine" 471 (Value.ref 195)), (vE P "Design" 572 (Value.ref 258))]) 27) #[])
noncomputable def o12n (P : Params) : Obj := (Obj.mk Value.none none (Data.fields (List.toArray [(Value.int 1 0), (Value.int 0 0), (Value.ref 20), (Value.int 5 0), (Value.int 0 0), (Value.ref 27), (Value.int 24 0), (Value.int 0 0), (Value.ref 34), (Value.int 33 0), (Value.int 0 0), (Value.ref 41), (Value.int 39 0), (Value.int 0 0), (Value.ref 48), (Value.int 45 0), (Value.int 0 0), (Value.ref 55), (Value.int 53 0), (Value.int 0 0), (Value.ref 62), (Value.int 59 0), (Value.int 0 0), (Value.ref 67), (Value.int 77 0), (Value.int 0 0), (Value.ref 74), (Value.int 88 0), (Value.int 0 0), (Value.ref 79), (Value.int 94 0), (Value.int 0 0), (Value.ref 86), (Value.int 119 0), (Value.int 0 0), (Value.ref 93), (Value.int 126 0), (Value.int 0 0), (Value.ref 100), (Value.int 133 0), (Value.int 0 0), (Value.ref 107), (Value.int 143 0), (Value.int 0 0), (Value.ref 114), (Value.int 161 0), (Value.int 0 0), (Value.ref 121), (Value.int 191 0), (Value.int 0 0), (Value.ref 177), (Value.int 211 0), (Value.int 0 0), (Value.ref 205)])) #[])
noncomputable def treeN (P : Params) : BT := (BT.node (PySem.W.boot_o_0 P) (BT.node (PySem.W.boot_o_1 P) (BT.node (o3n P) (BT.node (PySem.W.boot_o_7 P) (BT.node (o15 P) (BT.node (o31 P) (BT.node (o63 P) (BT.node (o127 P) (BT.node (o255 P) BT.nil BT.nil) BT.nil) (BT.node (o191 P) BT.nil BT.nil)) (BT.node (o95 P) (BT.node (o159 P) BT.nil BT.nil) (BT.node (o223 P) BT.nil BT.nil))) (BT.node (o47 P) (BT.node (o79 P) (BT.node (o143 P) BT.nil BT.nil) (BT.node (o207 P) BT.nil BT.nil)) (BT.node (o111 P) (BT.node (o175 P) BT.nil BT.nil) (BT.node (o239 P) BT.nil BT.nil)))) (BT.node (o23 P) (BT.node (o39 P) (BT.node (o71 P) (BT.node (o135 P) BT.nil BT.nil) (BT.node (o199 P) BT.nil BT.nil)) (BT.node (o103 P) (BT.node (o167 P) BT.nil BT.nil) (BT.node (o231 P) BT.nil BT.nil))) (BT.node (o55 P) (BT.node (o87 P) (BT.node (o151 P) BT.nil BT.nil) (BT.node (o215 P) BT.nil BT.nil)) (BT.node (o119 P) (BT.node (o183 P) BT.nil BT.nil) (BT.node (o247 P) BT.nil BT.nil))))) (BT.node (oi11 P) (BT.node (o19 P) (BT.node (o35 P) (BT.node (o67 P) (BT.node (o131 P) (BT.node (o259 P) BT.nil BT.nil) BT.nil) (BT.node (o195 P) BT.nil BT.nil)) (BT.node (o99 P) (BT.node (o163 P) BT.nil BT.nil) (BT.node (o227 P) BT.nil BT.nil))) (BT.node (o51 P) (BT.node (o83 P) (BT.node (o147 P) BT.nil BT.nil) (BT.node (o211 P) BT.nil BT.nil)) (BT.node (o115 P) (BT.node (o179 P) BT.nil BT.nil) (BT.node (o243 P) BT.nil BT.nil)))) (BT.node (o27 P) (BT.node (o43 P) (BT.node (o75 P) (BT.node (o139 P) BT.nil BT.nil) (BT.node (o203 P) BT.nil BT.nil)) (BT.node (o107 P) (BT.node (o171 P) BT.nil BT.nil) (BT.node (o235 P) BT.nil BT.nil))) (BT.node (o59 P) (BT.node (o91 P) (BT.node (o155 P) BT.nil BT.nil) (BT.node (o219 P) BT.nil BT.nil)) (BT.node (o123 P) (BT.node (o187 P) BT.nil BT.nil) (BT.node (o251 P) BT.nil BT.nil)))))) (BT.node (PySem.W.boot_o_5 P) (BT.node (PySem.W.boot_o_9 P) (BT.node (o17 P) (BT.node (o33 P) (BT.node (o65 P) (BT.node (o129 P) (BT.node (o257 P) BT.nil BT.nil) BT.nil) (BT.node (o193 P) BT.nil BT.nil)) (BT.node (o97 P) (BT.node (o161 P) BT.nil BT.nil) (BT.node (o225 P) BT.nil BT.nil))) (BT.node (o49 P) (BT.node (o81 P) (BT.node (o145 P) BT.nil BT.nil) (BT.node (o209 P) BT.nil BT.nil)) (BT.node (o113 P) (BT.node (o177 P) BT.nil BT.nil) (BT.node (o241 P) BT.nil BT.nil)))) (BT.node (o25 P) (BT.node (o41 P) (BT.node (o73 P) (BT.node (o137 P) BT.nil BT.nil) (BT.node (o201 P) BT.nil BT.nil)) (BT.node (o105 P) (BT.node (o169 P) BT.nil BT.nil) (BT.node (o233 P) BT.nil BT.nil))) (BT.node (o57 P) (BT.node (o89 P) (BT.node (o153 P) BT.nil BT.nil) (BT.node (o217 P) BT.nil BT.nil)) (BT.node (o121 P) (BT.node (o185 P) BT.nil BT.nil) (BT.node (o249 P) BT.nil BT.nil))))) (BT.node (oi13 P) (BT.node (o21 P) (BT.node (o37 P) (BT.node (o69 P) (BT.node (o133 P) (BT.node (o261 P) BT.nil BT.nil) BT.nil) (BT.node (o197 P) BT.nil BT.nil)) (BT.node (o101 P) (BT.node (o165 P) BT.nil BT.nil) (BT.node (o229 P) BT.nil BT.nil))) (BT.node (o53 P) (BT.node (o85 P) (BT.node (o149 P) BT.nil BT.nil) (BT.node (o213 P) BT.nil BT.nil)) (BT.node (o117 P) (BT.node (o181 P) BT.nil BT.nil) (BT.node (o245 P) BT.nil BT.nil)))) (BT.node (o29 P) (BT.node (o45 P) (BT.node (o77 P) (BT.node (o141 P) BT.nil BT.nil) (BT.node (o205 P) BT.nil BT.nil)) (BT.node (o109 P) (BT.node (o173 P) BT.nil BT.nil) (BT.node (o237 P) BT.nil BT.nil))) (BT.node (o61 P) (BT.node (o93 P) (BT.node (o157 P) BT.nil BT.nil) (BT.node (o221 P) BT.nil BT.nil)) (BT.node (o125 P) (BT.node (o189 P) BT.nil BT.nil) (BT.node (o253 P) BT.nil BT.nil))))))) (BT.node (PySem.W.boot_o_2 P) (BT.node (PySem.W.boot_o_4 P) (BT.node (PySem.W.boot_o_8 P) (BT.node (o16 P) (BT.node (o32 P) (BT.node (o64 P) (BT.node (o128 P) (BT.node (o256 P) BT.nil BT.nil) BT.nil) (BT.node (o192 P) BT.nil BT.nil)) (BT.node (o96 P) (BT.node (o160 P) BT.nil BT.nil) (BT.node (o224 P) BT.nil BT.nil))) (BT.node (o48 P) (BT.node (o80 P) (BT.node (o144 P) BT.nil BT.nil) (BT.node (o208 P) BT.nil BT.nil)) (BT.node (o112 P) (BT.node (o176 P) BT.nil BT.nil) (BT.node (o240 P) BT.nil BT.nil)))) (BT.node (o24 P) (BT.node (o40 P) (BT.node (o72 P) (BT.node (o136 P) BT.nil BT.nil) (BT.node (o200 P) BT.nil BT.nil)) (BT.node (o104 P) (BT.node (o168 P) BT.nil BT.nil) (BT.node (o232 P) BT.nil BT.nil))) (BT.node (o56 P) (BT.node (o88 P) (BT.node (o152 P) BT.nil BT.nil) (BT.node (o216 P) BT.nil BT.nil)) (BT.node (o120 P) (BT.node (o184 P) BT.nil BT.nil) (BT.node (o248 P) BT.nil BT.nil))))) (BT.node (o12n P) (BT.node (o20 P) (BT.node (o36 P) (BT.node (o68 P) (BT.node (o132 P) (BT.node (o260 P) BT.nil BT.nil) BT.nil) (BT.node (o196 P) BT.nil BT.nil)) (BT.node (o100 P) (BT.node (o164 P) BT.nil BT.nil) (BT.node (o228 P) BT.nil BT.nil))) (BT.node (o52 P) (BT.node (o84 P) (BT.node (o148 P) BT.nil BT.nil) (BT.node (o212 P) BT.nil BT.nil)) (BT.node (o116 P) (BT.node (o180 P) BT.nil BT.nil) (BT.node (o244 P) BT.nil BT.nil)))) (BT.node (o28 P) (BT.node (o44 P) (BT.node (o76 P) (BT.node (o140 P) BT.nil BT.nil) (BT.node (o204 P) BT.nil BT.nil)) (BT.node (o108 P) (BT.node (o172 P) BT.nil BT.nil) (BT.node (o236 P) BT.nil BT.nil))) (BT.node (o60 P) (BT.node (o92 P) (BT.node (o156 P) BT.nil BT.nil) (BT.node (o220 P) BT.nil BT.nil)) (BT.node (o124 P) (BT.node (o188 P) BT.nil BT.nil) (BT.node (o252 P) BT.nil BT.nil)))))) (BT.node (PySem.W.boot_o_6 P) (BT.node (PySem.W.boot_o_10 P) (BT.node (o18 P) (BT.node (o34 P) (BT.node (o66 P) (BT.node (o130 P) (BT.node (o258 P) BT.nil BT.nil) BT.nil) (BT.node (o194 P) BT.nil BT.nil)) (BT.node (o98 P) (BT.node (o162 P) BT.nil BT.nil) (BT.node (o226 P) BT.nil BT.nil))) (BT.node (o50 P) (BT.node (o82 P) (BT.node (o146 P) BT.nil BT.nil) (BT.node (o210 P) BT.nil BT.nil)) (BT.node (o114 P) (BT.node (o178 P) BT.nil BT.nil) (BT.node (o242 P) BT.nil BT.nil)))) (BT.node (o26 P) (BT.node (o42 P) (BT.node (o74 P) (BT.node (o138 P) BT.nil BT.nil) (BT.node (o202 P) BT.nil BT.nil)) (BT.node (o106 P) (BT.node (o170 P) BT.nil BT.nil) (BT.node (o234 P) BT.nil BT.nil))) (BT.node (o58 P) (BT.node (o90 P) (BT.node (o154 P) BT.nil BT.nil) (BT.node (o218 P) BT.nil BT.nil)) (BT.node (o122 P) (BT.node (o186 P) BT.nil BT.nil) (BT.node (o250 P) BT.nil BT.nil))))) (BT.node (oi14 P) (BT.node (o22 P) (BT.node (o38 P) (BT.node (o70 P) (BT.node (o134 P) (BT.node (o262 P) BT.nil BT.nil) BT.nil) (BT.node (o198 P) BT.nil BT.nil)) (BT.node (o102 P) (BT.node (o166 P) BT.nil BT.nil) (BT.node (o230 P) BT.nil BT.nil))) (BT.node (o54 P) (BT.node (o86 P) (BT.node (o150 P) BT.nil BT.nil) (BT.node (o214 P) BT.nil BT.nil)) (BT.node (o118 P) (BT.node (o182 P) BT.nil BT.nil) (BT.node (o246 P) BT.nil BT.nil)))) (BT.node (o30 P) (BT.node (o46 P) (BT.node (o78 P) (BT.node (o142 P) BT.nil BT.nil) (BT.node (o206 P) BT.nil BT.nil)) (BT.node (o110 P) (BT.node (o174 P) BT.nil BT.nil) (BT.node (o238 P) BT.nil BT.nil))) (BT.node (o62 P) (BT.node (o94 P) (BT.node (o158 P) BT.nil BT.nil) (BT.node (o222 P) BT.nil BT.nil)) (BT.node (o126 P) (BT.node (o190 P) BT.nil BT.nil) (BT.node (o254 P) BT.nil BT.nil))))))))
noncomputable def heap1 (P : Params) : Heap := ⟨⟨[PySem.W.boot_o_0 P, PySem.W.boot_o_1 P, PySem.W.boot_o_2 P, o3 P, PySem.W.boot_o_4 P, PySem.W.boot_o_5 P, PySem.W.boot_o_6 P, PySem.W.boot_o_7 P, PySem.W.boot_o_8 P, PySem.W.boot_o_9 P, PySem.W.boot_o_10 P, oi11 P, o12 P, oi13 P, oi14 P, o15 P, o16 P, o17 P, o18 P, o19 P, o20 P, o21 P, o22 P, o23 P, o24 P, o25 P, o26 P, o27 P, o28 P, o29 P, o30 P, o31 P, o32 P, o33 P, o34 P, o35 P, o36 P, o37 P, o38 P, o39 P, o40 P, o41 P, o42 P, o43 P, o44 P, o45 P, o46 P, o47 P, o48 P, o49 P, o50 P, o51 P, o52 P, o53 P, o54 P, o55 P, o56 P, o57 P, o58 P, o59 P, o60 P, o61 P, o62 P, o63 P, o64 P, o65 P, o66 P, o67 P, o68 P, o69 P, o70 P, o71 P, o72 P, o73 P, o74 P, o75 P, o76 P, o77 P, o78 P, o79 P, o80 P, o81 P, o82 P, o83 P, o84 P, o85 P, o86 P, o87 P, o88 P, o89 P, o90 P, o91 P, o92 P, o93 P, o94 P, o95 P, o96 P, o97 P, o98 P, o99 P, o100 P, o101 P, o102 P, o103 P, o104 P, o105 P, o106 P, o107 P, o108 P, o109 P, o110 P, o111 P, o112 P, o113 P, o114 P, o115 P, o116 P, o117 P, o118 P, o119 P, o120 P, o121 P, o122 P, o123 P, o124 P, o125 P, o126 P, o127 P, o128 P, o129 P, o130 P, o131 P, o132 P, o133 P, o134 P, o135 P, o136 P, o137 P, o138 P, o139 P, o140 P, o141 P, o142 P, o143 P, o144 P, o145 P, o146 P, o147 P, o148 P, o149 P, o150 P, o151 P, o152 P, o153 P, o154 P, o155 P, o156 P, o157 P, o158 P, o159 P, o160 P, o161 P, o162 P, o163 P, o164 P, o165 P, o166 P, o167 P, o168 P, o169 P, o170 P, o171 P, o172 P, o173 P, o174 P, o175 P, o176 P, o177 P, o178 P, o179 P, o180 P, o181 P, o182 P, o183 P, o184 P, o185 P, o186 P, o187 P, o188 P, o189 P, o190 P, o191 P, o192 P, o193 P, o194 P, o195 P, o196 P, o197 P, o198 P, o199 P, o200 P, o201 P, o202 P, o203 P, o204 P, o205 P, o206 P, o207 P, o208 P, o209 P, o210 P, o211 P, o212 P, o213 P, o214 P, o215 P, o216 P, o217 P, o218 P, o219 P, o220 P, o221 P, o222 P, o223 P, o224 P, o225 P, o226 P, o227 P, o228 P, o229 P, o230 P, o231 P, o232 P, o233 P, o234 P, o235 P, o236 P, o237 P, o238 P, o239 P, o240 P, o241 P, o242 P, o243 P, o244 P, o245 P, o246 P, o247 P, o248 P, o249 P, o250 P, o251 P, o252 P, o253 P, o254 P, o255 P, o256 P, o257 P, o258 P, o259 P, o260 P, o261 P, o262 P, o263 P, o264 P, o265 P, o266 P, o267 P, o268 P, o269 P, o270 P, o271 P, o272 P, o273 P, o274 P, o275 P, o276 P, o277 P, o278 P, o279 P, o280 P, o281 P, o282 P, o283 P, o284 P, o285 P, o286 P, o287 P, o288 P, o289 P, o290 P, o291 P, o292 P, o293 P, o294 P, o295 P]⟩, {}⟩
noncomputable def tree1 (P : Params) : BT := (BT.node (PySem.W.boot_o_0 P) (BT.node (PySem.W.boot_o_1 P) (BT.node (o3 P) (BT.node (PySem.W.boot_o_7 P) (BT.node (o15 P) (BT.node (o31 P) (BT.node (o63 P) (BT.node (o127 P) (BT.node (o255 P) BT.nil BT.nil) BT.nil) (BT.node (o191 P) BT.nil BT.nil)) (BT.node (o95 P) (BT.node (o159 P) (BT.node (o287 P) BT.nil BT.nil) BT.nil) (BT.node (o223 P) BT.nil BT.nil))) (BT.node (o47 P) (BT.node (o79 P) (BT.node (o143 P) (BT.node (o271 P) BT.nil BT.nil) BT.nil) (BT.node (o207 P) BT.nil BT.nil)) (BT.node (o111 P) (BT.node (o175 P) BT.nil BT.nil) (BT.node (o239 P) BT.nil BT.nil)))) (BT.node (o23 P) (BT.node (o39 P) (BT.node (o71 P) (BT.node (o135 P) (BT.node (o263 P) BT.nil BT.nil) BT.nil) (BT.node (o199 P) BT.nil BT.nil)) (BT.node (o103 P) (BT.node (o167 P) (BT.node (o295 P) BT.nil BT.nil) BT.nil) (BT.node (o231 P) BT.nil BT.nil))) (BT.node (o55 P) (BT.node (o87 P) (BT.node (o151 P) (BT.node (o279 P) BT.nil BT.nil) BT.nil) (BT.node (o215 P) BT.nil BT.nil)) (BT.node (o119 P) (BT.node (o183 P) BT.nil BT.nil) (BT.node (o247 P) BT.nil BT.nil))))) (BT.node (oi11 P) (BT.node (o19 P) (BT.node (o35 P) (BT.node (o67 P) (BT.node (o131 P) (BT.node (o259 P) BT.nil BT.nil) BT.nil) (BT.node (o195 P) BT.nil BT.nil)) (BT.node (o99 P) (BT.node (o163 P) (BT.node (o291 P) BT.nil BT.nil) BT.nil) (BT.node (o227 P) BT.nil BT.nil))) (BT.node (o51 P) (BT.node (o83 P) (BT.node (o147 P) (BT.node (o275 P) BT.nil BT.nil) BT.nil) (BT.node (o211 P) BT.nil BT.nil)) (BT.node (o115 P) (BT.node (o179 P) BT.nil BT.nil) (BT.node (o243 P) BT.nil BT.nil)))) (BT.node (o27 P) (BT.node (o43 P) (BT.node (o75 P) (BT.node (o139 P) (BT.node (o267 P) BT.nil BT.nil) BT.nil) (BT.node (o203 P) BT.nil BT.nil)) (BT.node (o107 P) (BT.node (o171 P) BT.nil BT.nil) (BT.node (o235 P) BT.nil BT.nil))) (BT.node (o59 P) (BT.node (o91 P) (BT.node (o155 P) (BT.node (o283 P) BT.nil BT.nil) BT.nil) (BT.node (o219 P) BT.nil BT.nil)) (BT.node (o123 P) (BT.node (o187 P) BT.nil BT.nil) (BT.node (o251 P) BT.nil BT.nil)))))) (BT.node (PySem.W.boot_o_5 P) (BT.node (PySem.W.boot_o_9 P) (BT.node (o17 P) (BT.node (o33 P) (BT.node (o65 P) (BT.node (o129 P) (BT.node (o257 P) BT.nil BT.nil) BT.nil) (BT.node (o193 P) BT.nil BT.nil)) (BT.node (o97 P) (BT.node (o161 P) (BT.node (o289 P) BT.nil BT.nil) BT.nil) (BT.node (o225 P) BT.nil BT.nil))) (BT.node (o49 P) (BT.node (o81 P) (BT.node (o145 P) (BT.node (o273 P) BT.nil BT.nil) BT.nil) (BT.node (o209 P) BT.nil BT.nil)) (BT.node (o113 P) (BT.node (o177 P) BT.nil BT.nil) (BT.node (o241 P) BT.nil BT.nil)))) (BT.node (o25 P) (BT.node (o41 P) (BT.node (o73 P) (BT.node (o137 P) (BT.node (o265 P) BT.nil BT.nil) BT.nil) (BT.node (o201 P) BT.nil BT.nil)) (BT.node (o105 P) (BT.node (o169 P) BT.nil BT.nil) (BT.node (o233 P) BT.nil BT.nil))) (BT.node (o57 P) (BT.node (o89 P) (BT.node (o153 P) (BT.node (o281 P) BT.nil BT.nil) BT.nil) (BT.node (o217 P) BT.nil BT.nil)) (BT.node (o121 P) (BT.node (o185 P) BT.nil BT.nil) (BT.node (o249 P) BT.nil BT.nil))))) (BT.node (oi13 P) (BT.node (o21 P) (BT.node (o37 P) (BT.node (o69 P) (BT.node (o133 P) (BT.node (o261 P) BT.nil BT.nil) BT.nil) (BT.node (o197 P) BT.nil BT.nil)) (BT.node (o101 P) (BT.node (o165 P) (BT.node (o293 P) BT.nil BT.nil) BT.nil) (BT.node (o229 P) BT.nil BT.nil))) (BT.node (o53 P) (BT.node (o85 P) (BT.node (o149 P) (BT.node (o277 P) BT.nil BT.nil) BT.nil) (BT.node (o213 P) BT.nil BT.nil)) (BT.node (o117 P) (BT.node (o181 P) BT.nil BT.nil) (BT.node (o245 P) BT.nil BT.nil)))) (BT.node (o29 P) (BT.node (o45 P) (BT.node (o77 P) (BT.node (o141 P) (BT.node (o269 P) BT.nil BT.nil) BT.nil) (BT.node (o205 P) BT.nil BT.nil)) (BT.node (o109 P) (BT.node (o173 P) BT.nil BT.nil) (BT.node (o237 P) BT.nil BT.nil))) (BT.node (o61 P) (BT.node (o93 P) (BT.node (o157 P) (BT.node (o285 P) BT.nil BT.nil) BT.nil) (BT.node (o221 P) BT.nil BT.nil)) (BT.node (o125 P) (BT.node (o189 P) BT.nil BT.nil) (BT.node (o253 P) BT.nil BT.nil))))))) (BT.node (PySem.W.boot_o_2 P) (BT.node (PySem.W.boot_o_4 P) (BT.node (PySem.W.boot_o_8 P) (BT.node (o16 P) (BT.node (o32 P) (BT.node (o64 P) (BT.node (o128 P) (BT.node (o256 P) BT.nil BT.nil) BT.nil) (BT.node (o192 P) BT.nil BT.nil)) (BT.node (o96 P) (BT.node (o160 P) (BT.node (o288 P) BT.nil BT.nil) BT.nil) (BT.node (o224 P) BT.nil BT.nil))) (BT.node (o48 P) (BT.node (o80 P) (BT.node (o144 P) (BT.node (o272 P) BT.nil BT.nil) BT.nil) (BT.node (o208 P) BT.nil BT.nil)) (BT.node (o112 P) (BT.node (o176 P) BT.nil BT.nil) (BT.node (o240 P) BT.nil BT.nil)))) (BT.node (o24 P) (BT.node (o40 P) (BT.node (o72 P) (BT.node (o136 P) (BT.node (o264 P) BT.nil BT.nil) BT.nil) (BT.node (o200 P) BT.nil BT.nil)) (BT.node (o104 P) (BT.node (o168 P) BT.nil BT.nil) (BT.node (o232 P) BT.nil BT.nil))) (BT.node (o56 P) (BT.node (o88 P) (BT.node (o152 P) (BT.node (o280 P) BT.nil BT.nil) BT.nil) (BT.node (o216 P) BT.nil BT.nil)) (BT.node (o120 P) (BT.node (o184 P) BT.nil BT.nil) (BT.node (o248 P) BT.nil BT.nil))))) (BT.node (o12 P) (BT.node (o20 P) (BT.node (o36 P) (BT.node (o68 P) (BT.node (o132 P) (BT.node (o260 P) BT.nil BT.nil) BT.nil) (BT.node (o196 P) BT.nil BT.nil)) (BT.node (o100 P) (BT.node (o164 P) (BT.node (o292 P) BT.nil BT.nil) BT.nil) (BT.node (o228 P) BT.nil BT.nil))) (BT.node (o52 P) (BT.node (o84 P) (BT.node (o148 P) (BT.node (o276 P) BT.nil BT.nil) BT.nil) (BT.node (o212 P) BT.nil BT.nil)) (BT.node (o116 P) (BT.node (o180 P) BT.nil BT.nil) (BT.node (o244 P) BT.nil BT.nil)))) (BT.node (o28 P) (BT.node (o44 P) (BT.node (o76 P) (BT.node (o140 P) (BT.node (o268 P) BT.nil BT.nil) BT.nil) (BT.node (o204 P) BT.nil BT.nil)) (BT.node (o108 P) (BT.node (o172 P) BT.nil BT.nil) (BT.node (o236 P) BT.nil BT.nil))) (BT.node (o60 P) (BT.node (o92 P) (BT.node (o156 P) (BT.node (o284 P) BT.nil BT.nil) BT.nil) (BT.node (o220 P) BT.nil BT.nil)) (BT.node (o124 P) (BT.node (o188 P) BT.nil BT.nil) (BT.node (o252 P) BT.nil BT.nil)))))) (BT.node (PySem.W.boot_o_6 P) (BT.node (PySem.W.boot_o_10 P) (BT.node (o18 P) (BT.node (o34 P) (BT.node (o66 P) (BT.node (o130 P) (BT.node (o258 P) BT.nil BT.nil) BT.nil) (BT.node (o194 P) BT.nil BT.nil)) (BT.node (o98 P) (BT.node (o162 P) (BT.node (o290 P) BT.nil BT.nil) BT.nil) (BT.node (o226 P) BT.nil BT.nil))) (BT.node (o50 P) (BT.node (o82 P) (BT.node (o146 P) (BT.node (o274 P) BT.nil BT.nil) BT.nil) (BT.node (o210 P) BT.nil BT.nil)) (BT.node (o114 P) (BT.node (o178 P) BT.nil BT.nil) (BT.node (o242 P) BT.nil BT.nil)))) (BT.node (o26 P) (BT.node (o42 P) (BT.node (o74 P) (BT.node (o138 P) (BT.node (o266 P) BT.nil BT.nil) BT.nil) (BT.node (o202 P) BT.nil BT.nil)) (BT.node (o106 P) (BT.node (o170 P) BT.nil BT.nil) (BT.node (o234 P) BT.nil BT.nil))) (BT.node (o58 P) (BT.node (o90 P) (BT.node (o154 P) (BT.node (o282 P) BT.nil BT.nil) BT.nil) (BT.node (o218 P) BT.nil BT.nil)) (BT.node (o122 P) (BT.node (o186 P) BT.nil BT.nil) (BT.node (o250 P) BT.nil BT.nil))))) (BT.node (oi14 P) (BT.node (o22 P) (BT.node (o38 P) (BT.node (o70 P) (BT.node (o134 P) (BT.node (o262 P) BT.nil BT.nil) BT.nil) (BT.node (o198 P) BT.nil BT.nil)) (BT.node (o102 P) (BT.node (o166 P) (BT.node (o294 P) BT.nil BT.nil) BT.nil) (BT.node (o230 P) BT.nil BT.nil))) (BT.node (o54 P) (BT.node (o86 P) (BT.node (o150 P) (BT.node (o278 P) BT.nil BT.nil) BT.nil) (BT.node (o214 P) BT.nil BT.nil)) (BT.node (o118 P) (BT.node (o182 P) BT.nil BT.nil) (BT.node (o246 P) BT.nil BT.nil)))) (BT.node (o30 P) (BT.node (o46 P) (BT.node (o78 P) (BT.node (o142 P) (BT.node (o270 P) BT.nil BT.nil) BT.nil) (BT.node (o206 P) BT.nil BT.nil)) (BT.node (o110 P) (BT.node (o174 P) BT.nil BT.nil) (BT.node (o238 P) BT.nil BT.nil))) (BT.node (o62 P) (BT.node (o94 P) (BT.node (o158 P) (BT.node (o286 P) BT.nil BT.nil) BT.nil) (BT.node (o222 P) BT.nil BT.nil)) (BT.node (o126 P) (BT.node (o190 P) BT.nil BT.nil) (BT.node (o254 P) BT.nil BT.nil))))))))
noncomputable def kH (P : Params) : Frag := (nat_lit 2, PySem.W.boot_o_2 P) :: (nat_lit 3, o3 P) :: (nat_lit 15, o15 P) :: (nat_lit 17, o17 P) :: (nat_lit 18, o18 P) :: (nat_lit 20, o20 P) :: (nat_lit 21, o21 P) :: (nat_lit 22, o22 P) :: (nat_lit 24, o24 P) :: (nat_lit 25, o25 P) :: (nat_lit 27, o27 P) :: (nat_lit 28, o28 P) :: (nat_lit 29, o29 P) :: (nat_lit 31, o31 P) :: (nat_lit 32, o32 P) :: (nat_lit 34, o34 P) :: (nat_lit 35, o35 P) :: (nat_lit 36, o36 P) :: (nat_lit 38, o38 P) :: (nat_lit 39, o39 P) :: (nat_lit 41, o41 P) :: (nat_lit 42, o42 P) :: (nat_lit 43, o43 P) :: (nat_lit 45, o45 P) :: (nat_lit 46, o46 P) :: (nat_lit 48, o48 P) :: (nat_lit 49, o49 P) :: (nat_lit 50, o50 P) :: (nat_lit 52, o52 P) :: (nat_lit 53, o53 P) :: (nat_lit 55, o55 P) :: (nat_lit 56, o56 P) :: (nat_lit 57, o57 P) :: (nat_lit 59, o59 P) :: (nat_lit 60, o60 P) :: (nat_lit 62, o62 P) :: (nat_lit 63, o63 P) :: (nat_lit 64, o64 P) :: (nat_lit 67, o67 P) :: (nat_lit 68, o68 P) :: (nat_lit 69, o69 P) :: (nat_lit 71, o71 P) :: (nat_lit 72, o72 P) :: (nat_lit 74, o74 P) :: (nat_lit 75, o75 P) :: (nat_lit 76, o76 P) :: (nat_lit 79, o79 P) :: (nat_lit 80, o80 P) :: (nat_lit 81, o81 P) :: (nat_lit 83, o83 P) :: (nat_lit 84, o84 P) :: (nat_lit 86, o86 P) :: (nat_lit 87, o87 P) :: (nat_lit 88, o88 P) :: (nat_lit 90, o90 P) :: (nat_lit 91, o91 P) :: (nat_lit 93, o93 P) :: (nat_lit 94, o94 P) :: (nat_lit 95, o95 P) :: (nat_lit 97, o97 P) :: (nat_lit 98, o98 P) :: (nat_lit 100, o100 P) :: (nat_lit 101, o101 P) :: (nat_lit 102, o102 P) :: (nat_lit 104, o104 P) :: (nat_lit 105, o105 P) :: (nat_lit 107, o107 P) :: (nat_lit 108, o108 P) :: (nat_lit 109, o109 P) :: (nat_lit 111, o111 P) :: (nat_lit 112, o112 P) :: (nat_lit 114, o114 P) :: (nat_lit 115, o115 P) :: (nat_lit 123, o123 P) :: (nat_lit 125, o125 P) :: (nat_lit 126, o126 P) :: (nat_lit 128, o128 P) :: (nat_lit 129, o129 P) :: (nat_lit 130, o130 P) :: (nat_lit 132, o132 P) :: (nat_lit 133, o133 P) :: (nat_lit 135, o135 P) :: (nat_lit 136, o136 P) :: (nat_lit 137, o137 P) :: (nat_lit 139, o139 P) :: (nat_lit 140, o140 P) :: (nat_lit 142, o142 P) :: (nat_lit 143, o143 P) :: (nat_lit 144, o144 P) :: (nat_lit 146, o146 P) :: (nat_lit 147, o147 P) :: (nat_lit 149, o149 P) :: (nat_lit 150, o150 P) :: (nat_lit 151, o151 P) :: (nat_lit 153, o153 P) :: (nat_lit 154, o154 P) :: (nat_lit 156, o156 P) :: (nat_lit 157, o157 P) :: (nat_lit 158, o158 P) :: (nat_lit 160, o160 P) :: (nat_lit 161, o161 P) :: (nat_lit 163, o163 P) :: (nat_lit 164, o164 P) :: (nat_lit 165, o165 P) :: (nat_lit 166, o166 P) :: (nat_lit 167, o167 P) :: (nat_lit 168, o168 P) :: (nat_lit 169, o169 P) :: (nat_lit 179, o179 P) :: (nat_lit 181, o181 P) :: (nat_lit 182, o182 P) :: (nat_lit 184, o184 P) :: (nat_lit 185, o185 P) :: (nat_lit 186, o186 P) :: (nat_lit 188, o188 P) :: (nat_lit 189, o189 P) :: (nat_lit 191, o191 P) :: (nat_lit 192, o192 P) :: (nat_lit 193, o193 P) :: (nat_lit 194, o194 P) :: (nat_lit 195, o195 P) :: (nat_lit 196, o196 P) :: (nat_lit 197, o197 P) :: (nat_lit 207, o207 P) :: (nat_lit 209, o209 P) :: (nat_lit 210, o210 P) :: (nat_lit 212, o212 P) :: (nat_lit 213, o213 P) :: (nat_lit 214, o214 P) :: (nat_lit 216, o216 P) :: (nat_lit 217, o217 P) :: (nat_lit 219, o219 P) :: (nat_lit 220, o220 P) :: (nat_lit 221, o221 P) :: (nat_lit 223, o223 P) :: (nat_lit 224, o224 P) :: (nat_lit 226, o226 P) :: (nat_lit 227, o227 P) :: (nat_lit 228, o228 P) :: (nat_lit 230, o230 P) :: (nat_lit 231, o231 P) :: (nat_lit 233, o233 P) :: (nat_lit 234, o234 P) :: (nat_lit 235, o235 P) :: (nat_lit 237, o237 P) :: (nat_lit 238, o238 P) :: (nat_lit 240, o240 P) :: (nat_lit 241, o241 P) :: (nat_lit 242, o242 P) :: (nat_lit 244, o244 P) :: (nat_lit 245, o245 P) :: (nat_lit 247, o247 P) :: (nat_lit 248, o248 P) :: (nat_lit 249, o249 P) :: (nat_lit 251, o251 P) :: (nat_lit 252, o252 P) :: (nat_lit 254, o254 P) :: (nat_lit 255, o255 P) :: (nat_lit 256, o256 P) :: (nat_lit 257, o257 P) :: (nat_lit 258, o258 P) :: (nat_lit 259, o259 P) :: (nat_lit 260, o260 P) :: (nat_lit 263, o263 P) :: (nat_lit 265, o265 P) :: (nat_lit 266, o266 P) :: (nat_lit 268, o268 P) :: (nat_lit 269, o269 P) :: (nat_lit 270, o270 P) :: (nat_lit 272, o272 P) :: (nat_lit 273, o273 P) :: (nat_lit 275, o275 P) :: (nat_lit 276, o276 P) :: (nat_lit 277, o277 P) :: (nat_lit 279, o279 P) :: (nat_lit 280, o280 P) :: (nat_lit 282, o282 P) :: (nat_lit 283, o283 P) :: (nat_lit 284, o284 P) :: (nat_lit 286, o286 P) :: (nat_lit 287, o287 P) :: (nat_lit 289, o289 P) :: (nat_lit 290, o290 P) :: (nat_lit 291, o291 P) :: (nat_lit 294, o294 P) :: (nat_lit 295, o295 P) :: []
abbrev kAs : List Addr := [2, 3, 15, 17, 18, 20, 21, 22, 24, 25, 27, 28, 29, 31, 32, 34, 35, 36, 38, 39, 41, 42, 43, 45, 46, 48, 49, 50, 52, 53, 55, 56, 57, 59, 60, 62, 63, 64, 67, 68, 69, 71, 72, 74, 75, 76, 79, 80, 81, 83, 84, 86, 87, 88, 90, 91, 93, 94, 95, 97, 98, 100, 101, 102, 104, 105, 107, 108, 109, 111, 112, 114, 115, 123, 125, 126, 128, 129, 130, 132, 133, 135, 136, 137, 139, 140, 142, 143, 144, 146, 147, 149, 150, 151, 153, 154, 156, 157, 158, 160, 161, 163, 164, 165, 166, 167, 168, 169, 179, 181, 182, 184, 185, 186, 188, 189, 191, 192, 193, 194, 195, 196, 197, 207, 209, 210, 212, 213, 214, 216, 217, 219, 220, 221, 223, 224, 226, 227, 228, 230, 231, 233, 234, 235, 237, 238, 240, 241, 242, 244, 245, 247, 248, 249, 251, 252, 254, 255, 256, 257, 258, 259, 260, 263, 265, 266, 268, 269, 270, 272, 273, 275, 276, 277, 279, 280, 282, 283, 284, 286, 287, 289, 290, 291, 294, 295]
noncomputable def kV : Program := view pw [0, 2, 3, 4, 5, 6, 7, 8, 9, 10, 11, 12, 13, 14, 16, 18, 19, 20, 22, 23, 24, 25, 26]
abbrev lrow : RowW := OpenRow.toRowW (OpenLaw.row PySem.Challenge.rw_on0119_01)
noncomputable def env0 : Env := { scope := pw.main.scope, locals := mainNs, globals := mainNs, cells := [], code := .ref 13, frame := some 14 }
abbrev bod : List Stmt := behindTheImports pw
noncomputable abbrev cod : Code := .body bod env0
abbrev fr0 : List Frame := [topFrame ⟨0, 0, 0, 0⟩]
theorem run_pre (w : World) (os : OsState) : topGo treeTable pw w 11 (some (.ref 6)) 12 ⟨boot_heap w.params, #[], boot_drawn, boot_toks, os⟩ (topStub pw) = some (⟨heap0 w.params, #[], {}, 187, os⟩, ⟨denote treeTable cod, cod, ⟨0, 0, 0, 0⟩, fr0⟩) := by
  kernel_rfl
theorem run_block (w : World) (os : OsState) : segRun treeTable pw w 11 (some (.ref 6)) 1 1 ⟨heap0 w.params, #[], {}, 187, os⟩ (blockOf bod env0 cod ⟨0, 0, 0, 0⟩ fr0) = some (.next, SharedT.abs ⟨tree0 w.params, 15, {}, #[], {}, 187, os⟩, cod, ⟨0, 0, 0, 0⟩) := by
  kernel_rfl
abbrev bodA : List Stmt := bod.take 17
abbrev bodB : List Stmt := (bod.drop 17).take 4
abbrev bodC : List Stmt := (bod.drop 17).drop 4
theorem run_A (w : World) (os : OsState) : segRunT treeTable pw w 11 (some (.ref 6)) 1 500 ⟨tree0 w.params, 15, {}, #[], {}, 187, os⟩ (piecesOf bodA env0 cod ⟨0, 0, 0, 0⟩ fr0) = some (.next, ⟨treeM w.params, 116, {}, #[], {}, 334, os⟩, cod, ⟨143, 0, 159, 15⟩) := by
  kernel_rfl
theorem run_B (w : World) (os : OsState) : segRunT treeTable pw w 11 (some (.ref 6)) 1 1200 ⟨treeM w.params, 116, {}, #[], {}, 334, os⟩ (piecesOf bodB env0 cod ⟨143, 0, 159, 15⟩ fr0) = some (.next, ⟨treeN w.params, 263, {}, #[], {}, 573, os⟩, cod, ⟨211, 0, 253, 22⟩) := by
  kernel_rfl
theorem run_C (w : World) (os : OsState) : segRunT treeTable pw w 11 (some (.ref 6)) 1 180 ⟨treeN w.params, 263, {}, #[], {}, 573, os⟩ (piecesOf bodC env0 cod ⟨211, 0, 253, 22⟩ fr0) = some (.next, ⟨tree1 w.params, 296, {}, #[], {}, 629, os⟩, cod, ⟨300, 0, 321, 40⟩) := by
  kernel_rfl
theorem run_fin (w : World) (os : OsState) : topRun treeTable pw w 11 (some (.ref 6)) 2 (SharedT.abs ⟨tree1 w.params, 296, {}, #[], {}, 629, os⟩) (restOf [] env0 cod ⟨300, 0, 321, 40⟩ fr0) = some ⟨heap1 w.params, #[], {}, 629, os⟩ := by
  kernel_rfl
theorem run_top (w : World) (os : OsState) : topRun treeTable pw w 11 (some (.ref 6)) (12 + (1 + (500 + (1200 + (180 + 2))))) ⟨boot_heap w.params, #[], boot_drawn, boot_toks, os⟩ (topStub pw) = some ⟨heap1 w.params, #[], {}, 629, os⟩ := by
  refine go_top (run_pre w os) (piece_block (run_block w os) ?_)
  have h := piece_app (rest := []) (segRun_of (run_C w os)) (run_fin w os)
  rw [List.append_nil] at h
  have h1 := piece_app (rest := bodC) (segRun_of (run_B w os)) h
  rw [List.take_append_drop] at h1
  have h2 := piece_app (rest := bod.drop 17) (segRun_of (run_A w os)) h1
  rw [List.take_append_drop] at h2
  exact h2
theorem kLooks (w : World) : (fun os : OsState => ((staticsOk (importedModules pw.main.body) (boot_heap w.params) (heap1 w.params) && namesBound pw (heap1 w.params) && gensDone ⟨heap1 w.params, #[], {}, 629, os⟩ && laidKept (boot_heap w.params) (heap1 w.params)),
    openSeen kV [] (importedModules pw.main.body) (fun s => xlAt kV [] s && recOk (RowW.records lrow) s) true ⟨heap1 w.params, #[], {}, 629, os⟩, kAs.map (⟨heap1 w.params, #[], {}, 629, os⟩ : Shared).heap.get?)) = fun _ => (true, openGood kV [], (kH w.params).map fun p => some p.2) := by
  kernel_rfl
theorem kLeft : LeftO pw kV [] (fun s => xlAt kV [] s && recOk (RowW.records lrow) s) (fun s => kAs.map s.heap.get?) (fun w => (kH w.params).map fun p => some p.2) 3668 :=
  LeftO.of_pieces (m₀ := 11) (ann := some (.ref 6)) (H₀ := boot_heap) (H₁ := heap1) (boot_open (by kernel_rfl) (by kernel_rfl) (fun s => by kernel_rfl)) (fun w => by kernel_rfl) run_top (by kernel_rfl) kLooks
end Mine
theorem Mine.k_ready : PySem.Challenge.rw_on0119_01.Holds → (∀ P, Mine.kH P = Mine.kH P) → True := by
  k_fill
  exact fun _ _ => trivial
namespace Mine

/-- what a base heap holds -/
structure Gd (w : World) (mg mb : Str → Option Value) (mean : ExcName → Option Value) (h : Heap) : Prop where
  X : (kH w.params).In h
  T : Top kV (looseW kV []) mean mg mb h

abbrev A0 (dp un : Nat) (fr : Option (List Env)) (gd : Option (List Code)) : Around := { handled := none, depth := dp, frames := fr, guards := gd, units := un }

/-- the end of a call that may turn the objects mods and makes tl -/
def Post (s : Shared) (mods : List (Addr × Obj)) (post : List (Addr × Obj) → List (Addr × Obj) → Value → Prop) (r : Result) (s' : Shared) : Prop :=
  ∃ v h' tk' mods' tl, r = .ok (.ret v) ∧ s' = { s with heap := h', toks := tk' } ∧ (∀ b o, s.heap.get? b = some o → b ∉ mods.map (·.1) → h'.get? b = some o) ∧
    mods'.map (·.1) = mods.map (·.1) ∧ (∀ q ∈ mods', h'.get? q.1 = some q.2) ∧ (∀ q ∈ tl, h'.get? q.1 = some q.2 ∧ s.heap.get? q.1 = none) ∧ post mods' tl v

/-- what stands at a call -/
structure At (w : World) (mg mb : Str → Option Value) (mean : ExcName → Option Value) (h₀ : Heap) (s : Shared) (mods : List (Addr × Obj)) : Prop where
  G : Gd w mg mb mean h₀
  keep : ∀ b o, h₀.get? b = some o → s.heap.get? b = some o
  mods : ∀ q ∈ mods, s.heap.get? q.1 = some q.2 ∧ h₀.get? q.1 = none

theorem Gd.keeps {w : World} {mg mb : Str → Option Value} {mean : ExcName → Option Value} {h h' : Heap} (G : Gd w mg mb mean h) (k : ∀ b o, h.get? b = some o → h'.get? b = some o) : Gd w mg mb mean h' := ⟨G.X.keeps k, G.T.keeps k⟩

/-- the way back from a body's end to the call's -/
def Back (R : Result → Shared → Prop) (s : Shared) (Q : Flow → Shared → Prop) (gens : Array GenState) (drawn : Drawn) (os : OsState) : Prop :=
  ∀ fl h' tk', R (.ok (.ret (match fl with | .ret v => v | _ => .none))) { s with heap := h', toks := tk' } → Q fl ⟨h', gens, drawn, tk', os⟩
theorem back {R : Result → Shared → Prop} {s : Shared} {Q : Flow → Shared → Prop} {gens : Array GenState} {drawn : Drawn} {os : OsState} {fl : Flow} {h' : Heap} {tk' : Nat} (B : Back R s Q gens drawn os)
    (h : R (.ok (.ret (match fl with | .ret v => v | _ => .none))) { s with heap := h', toks := tk' }) : Q fl ⟨h', gens, drawn, tk', os⟩ := B _ _ _ h
section
variable {w : World} {mg mb : Str → Option Value} {mean : ExcName → Option Value} {s : Shared} {h₀ : Heap} {mods : List (Addr × Obj)}

theorem enter {A : Around} {R : Result → Shared → Prop} {name qual : Str} {params : Arguments} {body body' : List Stmt} {scope scope' : Scope} {dV kVv doc pm cdv ct oc : Value} {an od : Option Addr} {osl : Array (Option Value)} {f : Addr} {args : Args} {binds : List (Str × Value)}
    (C : At w mg mb mean h₀ s mods)
    (ho : (kH w.params).lookup f = some ⟨oc, od, .func (fnOf name qual params body scope dV kVv doc pm an cdv ct), osl⟩) (hb : body = body') (hs : scope = scope') (hcd : codeIn (kH w.params) cdv qual = true) (hroom : A.depth < recursionLimit)
    (hbind : BindsTo s (fnOf name qual params body scope dV kVv doc pm an cdv ct) args binds) (hloc : ∀ y ∈ binds, scope'.names.lookup y.1 = some .local)
    (h : ∀ (Q : Flow → Shared → Prop) gens drawn os tk, Back R s Q gens drawn os → ∀ g L' h₁, (∀ b o, s.heap.get? b = some o → b ∉ mods.map (·.1) → g.get? b = some o) → g.objs.size = s.heap.objs.size → (∀ q ∈ mods, q.1 < L') → L' = s.heap.objs.size → (kH w.params).In g → Top kV (looseW kV []) mean mg mb g →
      Fr g L' h₁ (fun y => binds.reverse.lookup y) → News g L' h₁ mods →
      wpAny (model PySem.Challenge.pw_on0119_01 w) (A.deeper (envOf qual scope' L' f cdv)) (execs body' (envOf qual scope' L' f cdv)) Q (fun _ _ => False) ⟨h₁, gens, drawn, tk, os⟩)
    (hco : scope'.isCoroutine = false) (hgen : scope'.isGenerator = false) (hk : scope'.kind = .function)
    (hcell : ∀ x ∈ scope'.names, x.2 ≠ .cell) : codeAny (model PySem.Challenge.pw_on0119_01 w) A (.call (.ref f) args) R s := by
  subst hb hs
  have G₁ := C.G.keeps C.keep
  have nm : ∀ b o, h₀.get? b = some o → b ∉ mods.map (·.1) := fun b o e q => by
    obtain ⟨p, hp, rfl⟩ := List.mem_map.mp q
    rw [(C.mods p hp).2] at e; cases e
  have st : ∀ b o, h₀.get? b = some o → (hideAll s.heap (mods.map (·.1))).get? b = some o := fun b o e => hideAll_get _ (C.keep b o e) (nm b o e)
  have G₂ := C.G.keeps st
  refine codeAny_call_def (fd := fnOf name qual params body scope dV kVv doc pm an cdv ct) (body := body) (binds := binds) hroom (G₁.X _ _ ho) rfl G₁.T.nolimit (codeRec_of G₁.X hcd) rfl hbind hcell hloc (fun h₁ hns hk₁ => ?_) hco hgen hk
  exact wpAny_mono (h _ _ _ _ _ (fun _ _ _ q => q) _ s.heap.objs.size h₁ (fun b o e n => hideAll_get _ e n) (hideAll_size _ _) (fun q hq => Heap.lt_size (C.mods q hq).1) rfl G₂.X G₂.T ⟨hns, fun b o e => hk₁ b o (of_hideAll _ e), Nat.le_of_eq (hideAll_size _ _)⟩
    (fun p hp => ⟨hk₁ _ _ (C.mods p hp).1, Nat.ne_of_lt (Heap.lt_size (C.mods p hp).1), hideAll_none _ (List.mem_map_of_mem hp)⟩)) (fun _ _ y => y) fun _ _ y => y.elim

/-- the end of a function's walk -/
theorem leave {post : List (Addr × Obj) → List (Addr × Obj) → Value → Prop} {g h' : Heap} {L' : Addr} {m' : Str → Option Value} {mods' tl : List (Addr × Obj)} {tk' : Nat} {v : Value}
    (hg : ∀ b o, s.heap.get? b = some o → b ∉ mods.map (·.1) → g.get? b = some o)
    (F : Fr g L' h' m') (N : News g L' h' (tl ++ mods')) (ha : mods'.map (·.1) = mods.map (·.1)) (ht : ∀ q ∈ tl, q.1 ∉ mods.map (·.1)) (hp : post mods' tl v) :
    Post s mods post (.ok (.ret v)) { s with heap := h', toks := tk' } := by
  refine ⟨v, h', tk', mods', tl, rfl, rfl, fun b o e n => F.keep b o (hg b o e n), ha, fun q hq => (N q (List.mem_append.mpr (.inr hq))).1, fun q hq => ⟨(N q (List.mem_append.mpr (.inl hq))).1, ?_⟩, hp⟩
  cases e : s.heap.get? q.1 with
  | none => rfl
  | some o =>
    have y := (N q (List.mem_append.mpr (.inl hq))).2.2
    rw [hg _ _ e (ht q hq)] at y; cases y

/-- a call whose contract is at hand -/
theorem use {A : Around} {L : Addr} {m : Str → Option Value} {rest : List (Addr × Obj)} {f : Addr} {args : List Value} {post : List (Addr × Obj) → List (Addr × Obj) → Value → Prop} {Q : Value → Shared → Prop} {E : Value → Shared → Prop}
    (F : Fr h₀ L s.heap m) (N : News h₀ L s.heap (mods ++ rest)) (hr : ∀ q ∈ rest, q.1 ∉ mods.map (·.1))
    (c : codeAny (model PySem.Challenge.pw_on0119_01 w) A (.call (.ref f) ⟨args, []⟩) (Post s mods post) s)
    (h : ∀ v h' tk' mods' tl, Fr h₀ L h' m → News h₀ L h' (tl ++ (mods' ++ rest)) → mods'.map (·.1) = mods.map (·.1) → (∀ q ∈ mods ++ rest, ∀ p ∈ tl, @Ne Nat q.1 p.1) → post mods' tl v → Q v { s with heap := h', toks := tk' }) :
    wpAny (model PySem.Challenge.pw_on0119_01 w) A (call (.ref f) args) Q E s := by
  refine wpAny_call ?_
  have cm : ∀ {c' : Code} {R R' : Result → Shared → Prop}, codeAny (model PySem.Challenge.pw_on0119_01 w) A c' R s → (∀ r s', R r s' → R' r s') → codeAny (model PySem.Challenge.pw_on0119_01 w) A c' R' s := fun x k Γ p hc hΓ => wpCode_mono k (x Γ p hc hΓ)
  refine cm c ?_
  rintro r s' ⟨v, h', tk', mods', tl, rfl, rfl, hk, ha, hm, ht, hp⟩
  have hL : L ∉ mods.map (·.1) := fun q => by
    obtain ⟨p, hp, e⟩ := List.mem_map.mp q
    exact (N p (List.mem_append.mpr (.inl hp))).2.1 e
  have h0 : ∀ b o, h₀.get? b = some o → b ∉ mods.map (·.1) := fun b o e q => by
    obtain ⟨p, hp, rfl⟩ := List.mem_map.mp q
    rw [(N p (List.mem_append.mpr (.inl hp))).2.2] at e; cases e
  have F' : Fr h₀ L h' m := ⟨F.ns.at' fun o e => hk L o e hL, fun b o e => hk b o (F.keep b o e) (h0 b o e), F.above⟩
  refine h v h' tk' mods' tl F' ?_ ha (fun q hq p hp e => ?_) hp
  · have new : ∀ a, s.heap.get? a = none → h₀.get? a = none := fun a ha => by
      cases e : h₀.get? a with
      | none => rfl
      | some o => rw [F.keep a o e] at ha; cases ha
    intro q hq
    rcases List.mem_append.mp hq with hq | hq
    · refine ⟨(ht q hq).1, fun e => ?_, new _ (ht q hq).2⟩
      obtain ⟨oL, _, _, hL', _⟩ := F.ns
      have y := (ht q hq).2
      rw [e, hL'] at y; cases y
    · rcases List.mem_append.mp hq with hq | hq
      · have : q.1 ∈ mods.map (·.1) := ha ▸ List.mem_map_of_mem hq
        obtain ⟨p, hp, e⟩ := List.mem_map.mp this
        have y := N p (List.mem_append.mpr (.inl hp))
        exact ⟨hm q hq, e ▸ y.2.1, e ▸ y.2.2⟩
      · have y := N q (List.mem_append.mpr (.inr hq))
        exact ⟨hk _ _ y.1 (hr q hq), y.2⟩
  · have y := (ht p hp).2
    rw [← e, (N q hq).1] at y; cases y
/-- a call that turns nothing -/
theorem use0 {A : Around} {L : Addr} {m : Str → Option Value} {rest : List (Addr × Obj)} {f : Addr} {args : List Value} {post : List (Addr × Obj) → List (Addr × Obj) → Value → Prop} {Q : Value → Shared → Prop} {E : Value → Shared → Prop}
    (F : Fr h₀ L s.heap m) (N : News h₀ L s.heap rest)
    (c : codeAny (model PySem.Challenge.pw_on0119_01 w) A (.call (.ref f) ⟨args, []⟩) (Post s [] post) s)
    (h : ∀ v h' tk' tl, Fr h₀ L h' m → News h₀ L h' (tl ++ rest) → (∀ q ∈ rest, ∀ p ∈ tl, @Ne Nat q.1 p.1) → post [] tl v → Q v { s with heap := h', toks := tk' }) :
    wpAny (model PySem.Challenge.pw_on0119_01 w) A (call (.ref f) args) Q E s := by
  refine use (mods := []) F N (by simp) c fun v h' tk' mods' tl F' N' ha ho hp => ?_
  have : mods' = [] := List.map_eq_nil_iff.mp ha
  subst this
  exact h v h' tk' tl F' N' ho hp
/-- what stands at a call that turns nothing -/
theorem at0 {L : Addr} {m : Str → Option Value} (X : (kH w.params).In h₀) (T : Top kV (looseW kV []) mean mg mb h₀) (F : Fr h₀ L s.heap m) : At w mg mb mean h₀ s [] := ⟨⟨X, T⟩, F.keep, fun _ h => nomatch h⟩
end
end Mine
namespace Mine
abbrev tup (vs : List Value) : Obj := { cls := .type "tuple", data := .seq vs.toArray }
abbrev S (x : String) (t : Tok) : Value := .str (Str.ofString x) t

/-- an expression -/
inductive Ex where
  | const | sig | «local» | word | time
  | call (n : Int)
  | clog (a : Ex)
  | cat (a b : Ex)
  | cond (a b c : Ex)
  | pow (a b : Ex)
  | bin (a b : Ex)

def Ex.kids : Ex → List Ex
  | .const | .sig | .local | .time | .call _ => []
  | .word => [.const]
  | .clog a => [a]
  | .cat a b | .pow a b | .bin a b => [a, b]
  | .cond a b c => [a, b, c]
def Ex.size : Ex → Nat
  | .const | .sig | .local | .time | .call _ => 1
  | .word => 2
  | .clog a => a.size + 1
  | .cat a b | .pow a b | .bin a b => a.size + b.size + 1
  | .cond a b c => a.size + b.size + c.size + 1
/-- itself and all below it, each before its children -/
def Ex.subs : Ex → List Ex
  | .const => [.const] | .sig => [.sig] | .local => [.local] | .time => [.time] | .call n => [.call n]
  | .word => [.word, .const]
  | .clog a => .clog a :: a.subs
  | .cat a b => .cat a b :: (a.subs ++ b.subs)
  | .pow a b => .pow a b :: (a.subs ++ b.subs)
  | .bin a b => .bin a b :: (a.subs ++ b.subs)
  | .cond a b c => .cond a b c :: (a.subs ++ b.subs ++ c.subs)
theorem Ex.subs_kids (e : Ex) : e.subs = e :: e.kids.flatMap Ex.subs := by
  cases e <;> simp [Ex.subs, Ex.kids]
theorem Ex.size_kids (e : Ex) : (e.kids.map Ex.size).sum + 1 = e.size := by
  cases e <;> simp [Ex.size, Ex.kids] <;> omega
theorem Ex.len_subs (e : Ex) : e.subs.length = e.size := by
  induction e <;> simp [Ex.subs, Ex.size, *] <;> omega

/-- the ledger bears the expression at v -/
inductive ExL (dat : List (Addr × Obj)) : Value → Ex → Prop
  | const {a w t1 t2 t3 t4 k} : (a, tup [S "const" t1, .int w t2, .int k t3, .int 0 t4]) ∈ dat → ExL dat (.ref a) .const
  | sig {a t1 t2 t3} : (a, tup [S "sig" t1, .int 4 t2, .int 0 t3]) ∈ dat → ExL dat (.ref a) .sig
  | «local» {a t1 t2 t3} : (a, tup [S "local" t1, .int 4 t2, .int 0 t3]) ∈ dat → ExL dat (.ref a) .local
  | word {a t1 t2 t3 x} : (a, tup [S "word" t1, .int 4 t2, .int 0 t3, x, .bool false]) ∈ dat → ExL dat x .const → ExL dat (.ref a) .word
  | time {a t1 t2 t3 b} : (a, tup [S "sys" t1, .int 4 t2, S "$time" t3, .ref b]) ∈ dat → (b, tup []) ∈ dat → ExL dat (.ref a) .time
  | call {a t1 t2 t3 b n} : (a, tup [S "call" t1, .int 4 t2, .int n t3, .ref b]) ∈ dat → (b, tup []) ∈ dat → ExL dat (.ref a) (.call n)
  | clog {a t1 t2 t3 b x e} : (a, tup [S "sys" t1, .int 32 t2, S "$clog2" t3, .ref b]) ∈ dat → (b, tup [x]) ∈ dat → ExL dat x e → ExL dat (.ref a) (.clog e)
  | cat {a t1 t2 b x y e f} : (a, tup [S "cat" t1, .int 8 t2, .ref b]) ∈ dat → (b, tup [x, y]) ∈ dat → ExL dat x e → ExL dat y f → ExL dat (.ref a) (.cat e f)
  | cond {a t1 t2 x y z e f g} : (a, tup [S "cond" t1, .int 4 t2, x, y, z]) ∈ dat → ExL dat x e → ExL dat y f → ExL dat z g → ExL dat (.ref a) (.cond e f g)
  | pow {a t1 t2 x y e f} : (a, tup [S "pow" t1, .int 4 t2, x, y, .bool false, .bool false]) ∈ dat → ExL dat x e → ExL dat y f → ExL dat (.ref a) (.pow e f)
  | bin {a t1 t2 t3 x y e f} : (a, tup [S "bin" t1, .int 4 t2, S "+" t3, x, y, .bool false]) ∈ dat → ExL dat x e → ExL dat y f → ExL dat (.ref a) (.bin e f)
theorem ExL.mono {dat dat' : List (Addr × Obj)} {v : Value} {e : Ex} (h : ExL dat v e) (k : ∀ p ∈ dat, p ∈ dat') : ExL dat' v e := by
  induction h with
  | const h => exact .const (k _ h)
  | sig h => exact .sig (k _ h)
  | «local» h => exact .local (k _ h)
  | word h _ i => exact .word (k _ h) i
  | time h h' => exact .time (k _ h) (k _ h')
  | call h h' => exact .call (k _ h) (k _ h')
  | clog h h' _ i => exact .clog (k _ h) (k _ h') i
  | cat h h' _ _ i j => exact .cat (k _ h) (k _ h') i j
  | cond h _ _ _ i j l => exact .cond (k _ h) i j l
  | pow h _ _ i j => exact .pow (k _ h) i j
  | bin h _ _ i j => exact .bin (k _ h) i j
theorem ExL.ref {dat : List (Addr × Obj)} {v : Value} {e : Ex} (h : ExL dat v e) : ∃ a o, v = .ref a ∧ (a, o) ∈ dat := by
  cases h <;> exact ⟨_, _, rfl, by assumption⟩

inductive All2 {α β : Type} (R : α → β → Prop) : List α → List β → Prop
  | nil : All2 R [] []
  | cons {a b l m} : R a b → All2 R l m → All2 R (a :: l) (b :: m)
theorem All2.length {α β : Type} {R : α → β → Prop} {l : List α} {m : List β} (h : All2 R l m) : l.length = m.length := by
  induction h with
  | nil => rfl
  | cons _ _ i => simp [i]
theorem All2.one {α β : Type} {R : α → β → Prop} {l : List α} {b : β} (h : All2 R l [b]) : ∃ a, l = [a] ∧ R a b := by
  cases h with
  | cons r h => cases h; exact ⟨_, rfl, r⟩
theorem All2.none {α β : Type} {R : α → β → Prop} {l : List α} (h : All2 R l ([] : List β)) : l = [] := by
  cases h; rfl
theorem All2.append {α β : Type} {R : α → β → Prop} {l l' : List α} {m m' : List β} (h : All2 R l m) (h' : All2 R l' m') : All2 R (l ++ l') (m ++ m') := by
  induction h with
  | nil => exact h'
  | cons r _ i => exact .cons r i
theorem All2.mono {α β : Type} {R R' : α → β → Prop} {l : List α} {m : List β} (h : All2 R l m) (k : ∀ a b, R a b → R' a b) : All2 R' l m := by
  induction h with
  | nil => exact .nil
  | cons r _ i => exact .cons (k _ _ r) i
theorem All2.get {α β : Type} {R : α → β → Prop} {l : List α} {m : List β} (h : All2 R l m) {i : Nat} {a : α} (e : l[i]? = some a) : ∃ b, m[i]? = some b ∧ R a b := by
  induction h generalizing i with
  | nil => simp at e
  | cons r _ ih =>
    cases i with
    | zero => simp at e; subst e; exact ⟨_, by simp, r⟩
    | succ i => simpa using ih (by simpa using e)

theorem seq_zero {x : Value} {l : List Value} : seqIndex? 0 (x :: l).length = some 0 := by
  have h : (0 : Int) < ((x :: l).length : Int) := by simp only [List.length_cons]; omega
  unfold seqIndex?
  simp only [Int.lt_irrefl, if_false, Int.le_refl, h, decide_true, Bool.and_self, if_true]
  rfl
/-- the heap holds the ledger -/
def Has (h : Heap) (dat : List (Addr × Obj)) : Prop := ∀ q ∈ dat, h.get? q.1 = some q.2

section
variable {prog : Program} {w : World} {A : Around} {E : Value → Shared → Prop} {s : Shared} {g : Heap} {L a : Addr} {m : Str → Option Value} {dat : List (Addr × Obj)}
theorem has_now {h : Heap} (F : Fr g L h m) (D : Has g dat) : Has h dat := fun q hq => F.keep _ _ (D q hq)
theorem has_tup {vs : List Value} (F : Fr g L s.heap m) (D : Has g dat) (hm : (a, tup vs) ∈ dat) : IsTup s.heap a vs.toArray := ⟨_, F.keep _ _ (D _ hm), rfl, 0, rfl⟩
end
theorem News.sub {h₀ h : Heap} {L : Addr} {news news' : List (Addr × Obj)} (N : News h₀ L h news) (k : ∀ p ∈ news', p ∈ news) : News h₀ L h news' := fun p hp => N p (k p hp)
end Mine
namespace Mine
theorem lookup_tuple_reversed : typeLookup (.type "tuple") "__reversed__" = pure none := by rw [typeLookup_type, builtinLookup_eq_fast]; kernel_rfl
theorem called_reversed : TypeCalled "reversed" "reversed.__new__" "object.__init__" :=
  ⟨by decide +kernel, by decide +kernel, ⟨_, _, F.mro_reversed⟩, F.made_reversed, by decide +kernel, by rw [isSubtype_type]; kernel_rfl,
    .of (owner := "object") (n := "__init__") (by rw [typeLookup_type, builtinLookup_eq_fast]; kernel_rfl) (by decide +kernel) (by decide +kernel) (by decide +kernel)
    (by first | exact .inl (by decide +kernel) | exact .inr (by decide +kernel)) (by rw [isSubtype_type]; kernel_rfl)⟩
theorem slot_rv_next : Slot "reversed" "__next__" "reversed.__next__" :=
  .of (owner := "reversed") (n := "__next__") (by rw [typeLookup_type, builtinLookup_eq_fast]; kernel_rfl) (by decide +kernel) (by decide +kernel) (by decide +kernel)
    (by first | exact .inl (by decide +kernel) | exact .inr (by decide +kernel)) (by rw [isSubtype_type]; kernel_rfl)
theorem entry_rv_next : entryFor table "reversed.__next__" = some Builtin.«reversed.__next__» := entryFor_of_tree (by kernel_rfl)
theorem args_rv_next_1 (a : Value) : argsOk "reversed.__next__" ⟨[a], []⟩ := by unfold argsOk; kernel_rfl
theorem slot_rv_iter : Slot "reversed" "__iter__" "reversed.__iter__" :=
  .of (owner := "reversed") (n := "__iter__") (by rw [typeLookup_type, builtinLookup_eq_fast]; kernel_rfl) (by decide +kernel) (by decide +kernel) (by decide +kernel)
    (by first | exact .inl (by decide +kernel) | exact .inr (by decide +kernel)) (by rw [isSubtype_type]; kernel_rfl)
theorem args_rv_iter_1 (a : Value) : argsOk "reversed.__iter__" ⟨[a], []⟩ := by unfold argsOk; kernel_rfl
theorem entry_rv_iter : entryFor table "reversed.__iter__" = some Builtin.«dict_keyiterator.__iter__» :=
  entryFor_alias (id' := "dict_keyiterator.__iter__") (by kernel_rfl) (by first | rfl | decide +kernel | (unfold String.splitOn; simp +decide [String.splitOnAux])) (by decide +kernel) (by kernel_rfl)
end Mine
namespace Mine
theorem seq_nat {i n : Nat} (h : i < n) : seqIndex? (i : Int) n = some i := by
  have h1 : ¬ (i : Int) < 0 := by omega
  have h2 : (i : Int) < (n : Int) := by omega
  simp only [seqIndex?, if_neg h1]
  simp [h2]
def rvObj (l : Addr) (i : Int) : Obj := { cls := .type "reversed", data := .fields #[.ref l, rawInt i] }
def IsRv (h : Heap) (a l : Addr) (i : Int) : Prop := ∃ o, h.get? a = some o ∧ o.cls = .type "reversed" ∧ o.data = .fields #[.ref l, rawInt i]
section
variable {prog : Program} {w : World} {A : Around} {E : Value → Shared → Prop} {s : Shared}
theorem IsRv.typeIs {a l : Addr} {i : Int} (x : IsRv s.heap a l i) : s.TypeIs (.ref a) "reversed" := let ⟨o, ho, hc, _⟩ := x; ⟨o, ho, hc⟩
theorem IsRv.at {h h' : Heap} {a l : Addr} {i : Int} (x : IsRv h a l i) (e : ∀ o, h.get? a = some o → h'.get? a = some o) : IsRv h' a l i := let ⟨o, ho, r⟩ := x; ⟨o, e _ ho, r⟩

theorem code_reversed_tup {l : Addr} {items : Array Value} {Q₁ : Value → Shared → Prop} (hl : IsTup s.heap l items) (hz : items.size < 1000000)
    (h : Q₁ (.ref s.heap.objs.size) { s with heap := s.heap.push (rvObj l ((items.size : Int) - 1)), toks := s.toks + 1 + 1 }) :
    codeAny (model prog w) A (.call (.builtin "reversed.__new__") ⟨[.type "reversed", .ref l], []⟩) (wants Q₁ E) s := by
  refine codeAny_of_tree ?_
  show wpAny _ A.in1 (do checkBuiltinCall "reversed.__new__" ⟨[.type "reversed", .ref l], []⟩; again (.builtin "reversed.__new__" ⟨[.type "reversed", .ref l], []⟩)) _ _ s
  refine wpAny_bind (wpAny_of_eq (F.newCall_reversed_1 _) (wpAny_pure ⟨plainId_quiet F.plain_reversed_new _, codeAny_builtin F.entry_reversed_new ?_⟩))
  rw [Around.under_plainId F.plain_reversed_new _]
  unfold Builtin.«reversed.__new__»
  refine wpAny_bind (wpAny_of_eq (newClass_reversed _) ?_)
  try dsimp only
  refine wpAny_bind (wpAny_of_eq (a := ()) (by first | rfl | kernel_rfl) ?_)
  refine wpAny_bind (wpAny_of_eq (a := ()) (by first | rfl | kernel_rfl) ?_)
  try dsimp only
  refine wpAny_bind (wpAny_specialOf hl.typeIs lookup_tuple_reversed ?_)
  try dsimp only
  refine wpAny_bind (wpAny_bind (wpAny_isInstance hl.typeIs F.sub_tuple_dict ?_))
  simp only [Bool.false_eq_true, if_false]
  refine wpAny_bind (wpAny_specialOf hl.typeIs slot_tuple_getitem.lookup ?_)
  dsimp only
  rw [if_pos (by decide +kernel)]
  refine wpAny_pure ?_
  simp only [Bool.not_true, Bool.false_eq_true, if_false]
  refine wpAny_bind (len_tuple hl (by omega) ?_)
  refine wpAny_bind (wpAny_of_eq (a := some (items.size : Int)) rfl ?_)
  dsimp only
  refine wpAny_bind (m := newObj (.type "reversed") (.fields [.ref l, rawInt ((items.size : Int) - 1)].toArray)) (wpAny_newObj_type ?_)
  exact wpAny_pure h

theorem call_reversed_tup {l : Addr} {items : Array Value} {Q : Value → Shared → Prop} (hl : IsTup s.heap l items) (hz : items.size < 1000000)
    (h : Q (.ref s.heap.objs.size) { s with heap := s.heap.push (rvObj l ((items.size : Int) - 1)), toks := s.toks + 1 + 1 }) : wpAny (model prog w) A (call (.type "reversed") [.ref l]) Q E s := by
  refine callType_codes called_reversed (Q₁ := fun obj s₁ => obj = .ref s.heap.objs.size ∧ s₁ = { s with heap := s.heap.push (rvObj l ((items.size : Int) - 1)), toks := s.toks + 1 + 1 }) (F.typeCall_reversed_1 _) F.entry_object_init (code_reversed_tup hl hz ⟨rfl, rfl⟩) ?_
  rintro obj s₁ ⟨rfl, rfl⟩
  refine ⟨⟨_, Heap.get?_push_size _ rfl, rfl⟩, F.args_object_init_2 _ _, ?_⟩
  have M := object_init_meets (self := .ref s.heap.objs.size) (rest := [.ref l]) called_reversed.init.lookup called_reversed.made (by decide +kernel)
  have hT : ({ s with heap := s.heap.push (rvObj l ((items.size : Int) - 1)), toks := s.toks + 1 + 1 } : Shared).TypeIs (.ref s.heap.objs.size) "reversed" := ⟨_, Heap.get?_push_size _ rfl, rfl⟩
  refine M prog w A.in1 _ _ ?_
  exact ⟨hT, rfl, h⟩

theorem rv_iter {it l : Addr} {i : Int} {Q : Value → Shared → Prop} (hit : IsRv s.heap it l i) (h : Q (.ref it) s) : wpAny (model prog w) A (pyIter (.ref it)) Q E s := by
  refine wpAny_pyIter_slot hit.typeIs slot_rv_iter (wpAny_call_entry slot_rv_iter hit.typeIs entry_rv_iter ?_ (args_rv_iter_1 _))
  show wpAny _ _ (ret (.ref it)) _ _ s
  exact wpAny_pure ⟨_, rfl, "reversed", _, hit.typeIs, slot_rv_next.lookup, h⟩

theorem rv_next {it l : Addr} {i : Nat} {items : Array Value} {x : Value} {Q : Option Value → Shared → Prop} (hit : IsRv s.heap it l (i : Int)) (hl : IsTup s.heap l items) (hx : items[i]? = some x) (hi : i < 1000000)
    (hQ : ∀ h' tk, IsRv h' it l ((i : Int) - 1) → Heap.SameBut it s.heap h' → Q (some x) { s with heap := h', toks := tk }) : wpAny (model prog w) A (pyNext (.ref it)) Q E s := by
  obtain ⟨o, ho, hc, hd⟩ := id hit
  have hlt : i < items.size := (Array.getElem?_eq_some_iff.mp hx).1
  unfold pyNext
  refine wpAny_bind (wpAny_attempt (wpAny_callSpecial?_slot (name := Str.ofString "__next__") hit.typeIs slot_rv_next
    (wpAny_call_entry slot_rv_next hit.typeIs entry_rv_next ?_ (args_rv_next_1 _))))
  unfold Builtin.«reversed.__next__»
  refine wpAny_bind (wpAny_of_eq (a := (Value.ref it, [])) rfl ?_)
  try dsimp only
  refine wpAny_bind (wpAny_field ho hd (x := .ref l) rfl ?_)
  refine wpAny_bind (wpAny_field ho hd (x := rawInt (i : Int)) rfl ?_)
  show wpAny _ _ (if (i : Int) < 0 then _ else _) _ _ s
  rw [if_neg (by omega)]
  refine wpAny_bind (wpAny_specialOf hl.typeIs slot_tuple_getitem.lookup ?_)
  simp only [Option.isNone_some, Bool.false_eq_true, if_false]
  refine wpAny_bind (wpAny_mkInt ?_)
  refine wpAny_bind (wpAny_attempt (getItem_tuple hl (by omega) (by omega) (j := i) (seq_nat hlt) hx ?_))
  dsimp only
  refine wpAny_bind (wpAny_field ho hd (x := rawInt (i : Int)) rfl ?_)
  try dsimp only
  refine wpAny_bind (wpAny_setField ho hd (by simp) ?_)
  refine wpAny_pure ⟨x, rfl, wpAny_pure (hQ _ _ ?_ (Heap.SameBut.update ..))⟩
  exact ⟨_, Heap.get?_update_self _ ho (Obj.isFreed_of_fields (Obj.data_mapFields hd _)), (Obj.cls_mapFields ..).trans hc, by
    rw [Obj.data_mapFields hd]; simp⟩

theorem rv_end {it l : Addr} {Q : Option Value → Shared → Prop} (hh : A.handled = none) (hit : IsRv s.heap it l (-1))
    (hQ : ∀ h' tk, Heap.ExtBut it s.heap h' → Q none { s with heap := h', toks := tk }) : wpAny (model prog w) A (pyNext (.ref it)) Q E s := by
  obtain ⟨o, ho, hc, hd⟩ := id hit
  unfold pyNext
  refine wpAny_bind (wpAny_attempt (wpAny_callSpecial?_slot (name := Str.ofString "__next__") hit.typeIs slot_rv_next
    (wpAny_call_entry slot_rv_next hit.typeIs entry_rv_next ?_ (args_rv_next_1 _))))
  unfold Builtin.«reversed.__next__»
  refine wpAny_bind (wpAny_of_eq (a := (Value.ref it, [])) rfl ?_)
  try dsimp only
  refine wpAny_bind (wpAny_field ho hd (x := .ref l) rfl ?_)
  refine wpAny_bind (wpAny_field ho hd (x := rawInt (-1)) rfl ?_)
  show wpAny _ _ (if (-1 : Int) < 0 then _ else _) _ _ s
  rw [if_pos (by decide)]
  refine wpAny_bind (wpAny_rule ?_)
  refine wpAny_bind (wpAny_bind (wpAny_setField ho hd (by simp) ?_))
  have hd' : (Obj.mapFields (fun x => x.setIfInBounds 1 (rawInt (-1))) o).data = .fields #[Value.ref l, rawInt (-1)] := by rw [Obj.data_mapFields hd]; simp
  have ho' := Heap.get?_update_self (fun o => Obj.mapFields (fun x => x.setIfInBounds 1 (rawInt (-1))) o) ho (Obj.isFreed_of_fields hd')
  refine wpAny_setField ho' hd' (by simp) ?_
  refine wpAny_bind ?_
  first
  | show wpAny _ _ (newExc (.type "StopIteration") [] >>= _) _ _ _
  | (refine wpAny_bind ?_; show wpAny _ _ (newExc (.type "StopIteration") [] >>= _) _ _ _)
  refine wpAny_bind ?_
  simp only [newExc, newTuple]
  refine wpAny_bind (wpAny_newObj_type ?_ (by size_fits))
  refine wpAny_bind (m := firstArgMember _ _) (wpAny_of_eq (a := Value.none) (by first | rfl | (simp only [firstArgMember]; rfl)) ?_)
  refine wpAny_newObj_type ?_ (by size_fits)
  simp only [raiseNew]
  refine wpAny_bind (wpAny_handled ?_)
  first | rw [show A.in1.handled = none from hh] | rw [hh]
  refine wpAny_bind (wpAny_pure (wpAny_throw ?_))
  refine wpAny_bind (wpAny_isInstance (T := "StopIteration") (b := true) ⟨_, Heap.get?_push_size _ rfl, rfl⟩ isSubtype_stop ?_)
  refine wpAny_pure (hQ _ _ (((Heap.ExtBut.trans (Heap.SameBut.update ..).extBut (Heap.SameBut.update ..).extBut).push _).push _))
end

theorem rv_walks {prog : Program} {w : World} {A : Around} (hh : A.handled = none) (I l : Addr) (hne : l ≠ I) (items : Array Value) (hz : items.size < 1000000) :
    Walks prog w A I [I, l] [I] items.size (fun i v => items[items.size - 1 - i]? = some v) (fun i h => i ≤ items.size ∧ IsRv h I l ((items.size : Int) - 1 - (i : Int)) ∧ IsTup h l items) where
  sub := fun b hb => by simp at hb; simp [hb]
  frame := fun _ _ _ x hk => ⟨x.1, x.2.1.at fun o e => hk I (by simp) o e, let ⟨o, ho, r⟩ := x.2.2; ⟨o, hk l (by simp) o ho, r⟩⟩
  item := fun i s Q E hi x hQ => by
    have e : (items.size : Int) - 1 - (i : Int) = ((items.size - 1 - i : Nat) : Int) := by omega
    have hit := x.2.1
    rw [e] at hit
    have hx : items[items.size - 1 - i]? = some (items[items.size - 1 - i]'(by omega)) := Array.getElem?_eq_getElem (by omega)
    refine rv_next hit x.2.2 hx (by omega) fun h' tk hit' hs' => ?_
    have e2 : ((items.size - 1 - i : Nat) : Int) - 1 = (items.size : Int) - 1 - ((i + 1 : Nat) : Int) := by omega
    rw [e2] at hit'
    exact hQ _ h' tk hx ⟨hi, hit', let ⟨o, ho, r⟩ := x.2.2; ⟨o, (hs'.2 l hne).trans ho, r⟩⟩ fun b o hb eo => hs'.extBut b o (fun h => hb (by simp [h])) eo
  done := fun s Q E x hQ => by
    have e : (items.size : Int) - 1 - (items.size : Int) = -1 := by omega
    have hit := x.2.1
    rw [e] at hit
    exact rv_end hh hit fun h' tk he' => hQ h' tk fun b o hb eo => he' b o (fun h => hb (by simp [h])) eo
  self := fun _ _ _ _ x hQ => rv_iter x.2.1 hQ
end Mine
namespace Mine
section
variable {prog : Program} {w : World} {A : Around} {E : Value → Shared → Prop} {s : Shared} {env : Env} {h₀ : Heap} {x : Str} {body : List Stmt} {Q : Flow → Shared → Prop}

/-- a turn's end -/
def TurnEnd (h₀ : Heap) (L I : Addr) (it : Obj) (Jn : (Str → Option Value) → List (Addr × Obj) → Prop) (s₁ : Shared) (Q : Flow → Shared → Prop) (f : Flow) (s₂ : Shared) : Prop :=
  match f with
  | .ret v => Q (.ret v) s₂
  | .brk => Q .next s₂
  | _ => ∃ h' tk m' nx', s₂ = { s₁ with heap := h', toks := tk } ∧ Fr h₀ L h' m' ∧ News h₀ L h' ((I, it) :: nx') ∧ (∀ q ∈ nx', @Ne Nat q.1 I) ∧ Jn m' nx'

theorem iter_walk {I l : Addr} {n : Nat} {P : Nat → Value → Prop} {St : Nat → Heap → Prop} {lo : Obj} {m₀ : Str → Option Value} {news : List (Addr × Obj)} (J : Nat → (Str → Option Value) → List (Addr × Obj) → Prop)
    (W : Walks prog w A I [I, l] [I] n P St) (hit : ∀ i h, St i h → ∃ it, h.get? I = some it) (hI : env.locals ≠ I) (hl : env.locals ≠ l) (hI0 : h₀.get? I = none)
    (F : Fr h₀ env.locals s.heap m₀) (N : News h₀ env.locals s.heap news) (hn : ∀ q ∈ news, q.1 ≠ I) (hst : St 0 s.heap)
    (hk : l = I ∨ h₀.get? l = some lo ∨ ∀ i m nx, J i m nx → (l, lo) ∈ nx) (hj : J 0 m₀ news)
    (turn : ∀ i v m₁ nx it h tk, i < n → P i v → J i m₁ nx → (∀ q ∈ nx, @Ne Nat q.1 I) → Fr h₀ env.locals h (fun y => if y = x then some v else m₁ y) → News h₀ env.locals h ((I, it) :: nx) →
      wpAny (model prog w) A (execs body env) (TurnEnd h₀ env.locals I it (J (i + 1)) { s with heap := h, toks := tk } Q) E { s with heap := h, toks := tk })
    (done : ∀ m₁ nx h tk, J n m₁ nx → Fr h₀ env.locals h m₁ → News h₀ env.locals h nx → Q .next { s with heap := h, toks := tk }) :
    LoopAtV prog w A h₀ env x body Q E (.ref I) s := by
  refine ⟨I, _, _, n, _, _, m₀, news, J, rfl, W, ?_, ?_, ?_, hst, F, N, hj, ?_, ?_⟩
  · intro hm
    rcases List.mem_cons.mp hm with e | hm
    · exact hI e
    · exact hl (List.mem_singleton.mp hm)
  · intro b hb
    rw [List.mem_singleton.mp hb]; exact hI0
  · intro p hp hb
    exact hn p hp (List.mem_singleton.mp hb)
  · rintro i v m₁ nx s₁ own ⟨hh', tk', rfl⟩ hin hP hJ hofs hown hget hall hst₁ F₁ N₁
    obtain ⟨it, hit'⟩ := hit _ _ hst₁
    have hmemI := hall I (List.mem_cons_self ..) hI0 _ hit'
    have N₂ : News h₀ env.locals hh' ((I, it) :: nx) := fun p hp => by
      rcases List.mem_cons.mp hp with rfl | hp
      · exact N₁ _ (List.mem_append_left _ hmemI)
      · exact N₁ _ (List.mem_append_right _ hp)
    refine wpAny_mono (turn i v m₁ nx it hh' tk' hin hP hJ (fun q hq e => hofs q hq (List.mem_singleton.mpr e)) F₁ N₂) (fun f s₂ p => ?_) fun _ _ e => e
    have fin : (∃ h' tk m' nx', s₂ = { s with heap := h', toks := tk } ∧ Fr h₀ env.locals h' m' ∧ News h₀ env.locals h' ((I, it) :: nx') ∧ (∀ q ∈ nx', @Ne Nat q.1 I) ∧ J (i + 1) m' nx') →
        LoopStepU h₀ env.locals [I] own (J (i + 1)) { s with heap := hh', toks := tk' } .next s₂ := by
      rintro ⟨h', tk, m', nx', e, F', N', ho, r⟩
      refine ⟨rfl, h', tk, m', nx', e, F', fun p hp => ?_, fun p hp hI => ho p hp (List.mem_singleton.mp hI), r⟩
      rcases List.mem_append.mp hp with hp | hp
      · have h2 : hh'.get? p.1 = some p.2 := hget p hp
        have isI : p.1 = I → News h₀ env.locals h' [p] := fun h1 => by
          have h3 : p = (I, it) := by
            rw [h1, hit'] at h2
            exact Prod.ext h1 (Option.some.inj h2).symm
          rw [h3]; exact fun q hq => N' q (by rw [List.mem_singleton.mp hq]; exact List.mem_cons_self ..)
        rcases List.mem_cons.mp (hown p hp) with h1 | h1
        · exact isI h1 p (List.mem_singleton.mpr rfl)
        · have h1' : p.1 = l := List.mem_singleton.mp h1
          rcases hk with hk | hk | hk
          · exact isI (h1'.trans hk) p (List.mem_singleton.mpr rfl)
          · have := (N₁ p (List.mem_append_left _ hp)).2.2
            rw [h1', hk] at this; cases this
          · have h3 : p = (l, lo) := by
              rw [h1', (N₁ _ (List.mem_append_right _ (hk _ _ _ hJ))).1] at h2
              exact Prod.ext h1' (Option.some.inj h2).symm
            rw [h3]; exact N' _ (List.mem_cons_of_mem _ (hk _ _ _ r))
      · exact N' _ (List.mem_cons_of_mem _ hp)
    cases f with
    | ret v => exact .ret p
    | brk => exact .brk p
    | next => exact .next (fin p)
    | cont => exact .cont (fin p)
  · intro h' tk m' news' F' N' _ hJ
    exact done m' news' h' tk hJ F' N'

/-- a loop over a list -/
theorem iter_list {l : Addr} {vs : List Value} {n : Nat} {m₀ : Str → Option Value} {news : List (Addr × Obj)} (J : Nat → (Str → Option Value) → List (Addr × Obj) → Prop)
    (hh : A.handled = none) (hlo : s.heap.get? l = some (listOf vs.toArray n)) (hl : env.locals ≠ l)
    (F : Fr h₀ env.locals s.heap m₀) (N : News h₀ env.locals s.heap news)
    (hk : h₀.get? l = some (listOf vs.toArray n) ∨ ∀ i m nx, J i m nx → (l, listOf vs.toArray n) ∈ nx) (hj : J 0 m₀ news)
    (turn : ∀ I i v m₁ nx it h tk, vs[i]? = some v → J i m₁ nx → (∀ q ∈ nx, @Ne Nat q.1 I) → Fr h₀ env.locals h (fun y => if y = x then some v else m₁ y) → News h₀ env.locals h ((I, it) :: nx) →
      wpAny (model prog w) A (execs body env) (TurnEnd h₀ env.locals I it (J (i + 1)) { s with heap := h, toks := tk } Q) E { s with heap := h, toks := tk })
    (done : ∀ m₁ nx h tk, J vs.length m₁ nx → Fr h₀ env.locals h m₁ → News h₀ env.locals h nx → Q .next { s with heap := h, toks := tk }) :
    wpAny (model prog w) A (pyIter (.ref l)) (fun it s₂ => LoopAtV prog w A h₀ env x body Q E it s₂) E s := by
  have hls : s.heap.IsList l vs.toArray := ⟨_, hlo, rfl, n, rfl⟩
  refine wpAny_pyIter_list hls ?_
  have hlt := Heap.lt_size hlo
  have W := Walks.list (prog := prog) (w := w) hh s.heap.objs.size l (Nat.ne_of_lt hlt) vs.toArray
  have hlen : vs.toArray.size = vs.length := by simp
  rw [hlen] at W
  have hI0 : h₀.get? s.heap.objs.size = none := by
    cases e : h₀.get? s.heap.objs.size with
    | none => rfl
    | some o => exact absurd (Heap.lt_size (F.keep _ o e)) (Nat.lt_irrefl _)
  exact iter_walk (s := { s with heap := s.heap.push { cls := .type "list_iterator", data := .fields #[.ref l, .int 0 0] } }) J W (fun i h st => let ⟨o, ho, _⟩ := st.1; ⟨o, ho⟩) (Nat.ne_of_lt F.ns.lt) hl hI0 (F.push _)
    (fun p hp => ⟨Heap.get?_push_of_some _ (N p hp).1, (N p hp).2⟩) (fun q hq => Nat.ne_of_lt (Heap.lt_size (N q hq).1)) ⟨⟨_, Heap.get?_push_size _ rfl, rfl, rfl⟩, hls.at fun o e => Heap.get?_push_of_some _ e⟩ (.inr hk) hj
    (fun i v m₁ nx it h tk hi hP hJ ho F₁ N₁ => turn _ i v m₁ nx it h tk (by simpa using hP) hJ ho F₁ N₁) (fun m₁ nx h tk hJ F₁ N₁ => done m₁ nx h tk hJ F₁ N₁)

/-- a loop over reversed(a tuple) -/
theorem iter_rv {I l : Addr} {vs : List Value} {m₀ : Str → Option Value} {news : List (Addr × Obj)} (J : Nat → (Str → Option Value) → List (Addr × Obj) → Prop)
    (hh : A.handled = none) (hlo : s.heap.get? l = some (tup vs)) (hl : env.locals ≠ l) (hz : vs.length < 1000000) (hlI : l ≠ I)
    (F : Fr h₀ env.locals s.heap m₀) (N : News h₀ env.locals s.heap ((I, rvObj l ((vs.length : Int) - 1)) :: news)) (hn : ∀ q ∈ news, q.1 ≠ I)
    (hk : h₀.get? l = some (tup vs) ∨ ∀ i m nx, J i m nx → (l, tup vs) ∈ nx) (hj : J 0 m₀ news)
    (turn : ∀ i v m₁ nx it h tk, vs.reverse[i]? = some v → J i m₁ nx → (∀ q ∈ nx, @Ne Nat q.1 I) → Fr h₀ env.locals h (fun y => if y = x then some v else m₁ y) → News h₀ env.locals h ((I, it) :: nx) →
      wpAny (model prog w) A (execs body env) (TurnEnd h₀ env.locals I it (J (i + 1)) { s with heap := h, toks := tk } Q) E { s with heap := h, toks := tk })
    (done : ∀ m₁ nx h tk, J vs.length m₁ nx → Fr h₀ env.locals h m₁ → News h₀ env.locals h nx → Q .next { s with heap := h, toks := tk }) :
    wpAny (model prog w) A (pyIter (.ref I)) (fun it s₂ => LoopAtV prog w A h₀ env x body Q E it s₂) E s := by
  have hIx := N _ (List.mem_cons_self ..)
  have hit : IsRv s.heap I l ((vs.length : Int) - 1) := ⟨_, hIx.1, rfl, rfl⟩
  refine rv_iter hit ?_
  have hlen : vs.toArray.size = vs.length := by simp
  have W := rv_walks (prog := prog) (w := w) hh I l hlI vs.toArray (by rw [hlen]; exact hz)
  rw [hlen] at W
  refine iter_walk J W (fun i h st => let ⟨o, ho, _⟩ := st.2.1; ⟨o, ho⟩) (Ne.symm hIx.2.1) hl hIx.2.2 F (fun p hp => N p (List.mem_cons_of_mem _ hp)) hn ⟨Nat.zero_le _, ?_, ⟨_, hlo, rfl, 0, rfl⟩⟩ (.inr hk) hj
    (fun i v m₁ nx it h tk hi hP hJ ho F₁ N₁ => turn i v m₁ nx it h tk ?_ hJ ho F₁ N₁) done
  · have e : (vs.length : Int) - 1 - ((0 : Nat) : Int) = (vs.length : Int) - 1 := by omega
    rw [e]; exact hit
  · rw [List.getElem?_reverse hi]
    simpa using hP
end
end Mine
namespace Mine
def Stop (P : Prop) : Prop := P
theorem stop_at {P : Prop} (h : Stop P) : P := h
/-- a map with some names told -/
def told (l : List (Str × Value)) (m : Str → Option Value) : Str → Option Value := match l with
  | [] => m
  | (a, v) :: r => fun y => if y = a then some v else told r m y
theorem told_eq {m : Str → Option Value} : ∀ {l : List (Str × Value)}, (∀ p ∈ l, m p.1 = some p.2) → told l m = m
  | [], _ => rfl
  | (a, v) :: r, h => by
    funext y
    show (if y = a then some v else told r m y) = m y
    rw [told_eq fun p hp => h p (List.mem_cons_of_mem _ hp)]
    by_cases e : y = a
    · rw [if_pos e, e]; exact (h (a, v) (List.mem_cons_self ..)).symm
    · rw [if_neg e]
theorem loc1 {m : Str → Option Value} {a : Str} {v : Value} (h : m a = some v) : m = fun y => if y = a then some v else m y :=
  (told_eq (l := [(a, v)]) fun p hp => by cases hp with | head => exact h | tail _ hp => exact nomatch hp).symm
theorem loc2 {m : Str → Option Value} {a b : Str} {v w : Value} (h : m a = some v) (k : m b = some w) : m = fun y => if y = a then some v else if y = b then some w else m y :=
  (told_eq (l := [(a, v), (b, w)]) fun p hp => by rcases List.mem_cons.mp hp with rfl | hp; exact h; rw [List.mem_singleton.mp hp]; exact k).symm
theorem loc3 {m : Str → Option Value} {a b c : Str} {v w z : Value} (h : m a = some v) (k : m b = some w) (l : m c = some z) : m = fun y => if y = a then some v else if y = b then some w else if y = c then some z else m y :=
  (told_eq (l := [(a, v), (b, w), (c, z)]) fun p hp => by rcases List.mem_cons.mp hp with rfl | hp; exact h; rcases List.mem_cons.mp hp with rfl | hp; exact k; rw [List.mem_singleton.mp hp]; exact l).symm
theorem loc4 {m : Str → Option Value} {a b c d : Str} {v w z u : Value} (h : m a = some v) (k : m b = some w) (l : m c = some z) (o : m d = some u) : m = fun y => if y = a then some v else if y = b then some w else if y = c then some z else if y = d then some u else m y :=
  (told_eq (l := [(a, v), (b, w), (c, z), (d, u)]) fun p hp => by rcases List.mem_cons.mp hp with rfl | hp; exact h; rcases List.mem_cons.mp hp with rfl | hp; exact k; rcases List.mem_cons.mp hp with rfl | hp; exact l; rw [List.mem_singleton.mp hp]; exact o).symm
section
variable {prog : Program} {w : World} {A : Around} {E : Value → Shared → Prop} {s : Shared} {h₀ : Heap} {L D : Addr} {m : Str → Option Value} {news news' : List (Addr × Obj)} {n : Nat}
theorem pop0 {y : Value} {rest : List Value} {u : Tok} {Q : Value → Shared → Prop} (F : Fr h₀ L s.heap m) (N : News h₀ L s.heap news) (U : Upd D (listOf (y :: rest).toArray n) (listOf rest.toArray (n + 1)) news news')
    (hz : (y :: rest).length ≤ sizeLine) (h : ∀ h', Fr h₀ L h' m → News h₀ L h' news' → Q y { s with heap := h' }) : wpAny (model prog w) A (call (.builtin "list.pop") [.ref D, .int 0 u]) Q E s :=
  kl_popAt (k := 0) (p := []) (y := y) (q := rest) F N (by rfl) (by simp [seqIndex?]) rfl U hz h
theorem popLast {y : Value} {p : List Value} {Q : Value → Shared → Prop} (F : Fr h₀ L s.heap m) (N : News h₀ L s.heap news) (U : Upd D (listOf (p ++ [y]).toArray n) (listOf p.toArray (n + 1)) news news')
    (hz : (p ++ [y]).length ≤ sizeLine) (h : ∀ h', Fr h₀ L h' m → News h₀ L h' news' → Q y { s with heap := h' }) : wpAny (model prog w) A (call (.builtin "list.pop") [.ref D]) Q E s :=
  kl_pop (p := p) (y := y) F N (kpa_last y p) U hz h
theorem app_ {vs : List Value} {v : Value} {Q : Value → Shared → Prop} (F : Fr h₀ L s.heap m) (N : News h₀ L s.heap news) (U : Upd D (listOf vs.toArray n) (listOf (vs ++ [v]).toArray (n + 1)) news news')
    (hz : vs.length ≤ sizeLine) (h : ∀ h', Fr h₀ L h' m → News h₀ L h' news' → Q .none { s with heap := h' }) : wpAny (model prog w) A (call (.builtin "list.append") [.ref D, v]) Q E s := by
  have e : vs.toArray.push v = (vs ++ [v]).toArray := by simp
  rw [← e] at U
  exact append_K F N U h (by rw [List.size_toArray]; exact hz)
theorem rev_tup {l : Addr} {vs : List Value} {Q : Value → Shared → Prop} (F : Fr h₀ L s.heap m) (N : News h₀ L s.heap news) (hl : s.heap.get? l = some (tup vs)) (hz : vs.length < 1000000)
    (h : ∀ D h' tk', Fr h₀ L h' m → News h₀ L h' ((D, rvObj l ((vs.length : Int) - 1)) :: news) → (∀ p ∈ news, p.1 < D) → l < D → Q (.ref D) { s with heap := h', toks := tk' }) : wpAny (model prog w) A (call (.type "reversed") [.ref l]) Q E s := by
  refine call_reversed_tup (items := vs.toArray) ⟨_, hl, rfl, 0, rfl⟩ (by simpa using hz) ?_
  have e : ((vs.toArray.size : Nat) : Int) - 1 = (vs.length : Int) - 1 := by simp
  rw [e]
  exact h _ _ _ (F.push _) (News.push F N _) (fun p hp => Heap.lt_size (N p hp).1) (Heap.lt_size hl)
end
end Mine
namespace Mine
/-- a target: of a local, or of the signal -/
inductive LvL (dat : List (Addr × Obj)) : Value → Bool → Prop
  | loc {a t1 t2 b c p u1 u2 u3 x1 x2} : (a, tup [S "lv" t1, .int 4 t2, .ref b]) ∈ dat → (b, tup [.ref c]) ∈ dat → (c, tup [S "local" u1, .int 4 u2, .int 0 u3, .none, .ref p]) ∈ dat → (p, tup [S "at" x1, .int 0 x2]) ∈ dat → LvL dat (.ref a) false
  | sig {a t1 t2 b c p u1 u2 u3 x1 x2} : (a, tup [S "lv" t1, .int 4 t2, .ref b]) ∈ dat → (b, tup [.ref c]) ∈ dat → (c, tup [S "sig" u1, .int 4 u2, .int 0 u3, .none, .ref p]) ∈ dat → (p, tup [S "at" x1, .int 0 x2]) ∈ dat → LvL dat (.ref a) true
/-- a statement -/
inductive St where
  | set (sg : Bool) (e : Ex)
  | block (sg : Bool) (e : Ex)
  | cond (c : Ex) (sg : Bool) (e : Ex)
inductive SetL (dat : List (Addr × Obj)) : Value → Bool → Ex → Prop
  | mk {a t1 x y sg e} : (a, tup [S "set" t1, x, y, .none]) ∈ dat → LvL dat x sg → ExL dat y e → SetL dat (.ref a) sg e
inductive StL (dat : List (Addr × Obj)) : Value → St → Prop
  | set {v sg e} : SetL dat v sg e → StL dat v (.set sg e)
  | block {a t1 t2 b v sg e} : (a, tup [S "block" t1, .ref b, .int (-1) t2]) ∈ dat → (b, tup [.none, v]) ∈ dat → SetL dat v sg e → StL dat (.ref a) (.block sg e)
  | cond {a t1 x v c sg e} : (a, tup [S "if" t1, x, v, .none]) ∈ dat → ExL dat x c → SetL dat v sg e → StL dat (.ref a) (.cond c sg e)
theorem LvL.mono {dat dat' : List (Addr × Obj)} {v : Value} {b : Bool} (h : LvL dat v b) (k : ∀ p ∈ dat, p ∈ dat') : LvL dat' v b := by
  cases h with
  | loc a b c d => exact .loc (k _ a) (k _ b) (k _ c) (k _ d)
  | sig a b c d => exact .sig (k _ a) (k _ b) (k _ c) (k _ d)
theorem SetL.mono {dat dat' : List (Addr × Obj)} {v : Value} {b : Bool} {e : Ex} (h : SetL dat v b e) (k : ∀ p ∈ dat, p ∈ dat') : SetL dat' v b e := by
  cases h with
  | mk a b c => exact .mk (k _ a) (b.mono k) (c.mono k)
theorem StL.mono {dat dat' : List (Addr × Obj)} {v : Value} {st : St} (h : StL dat v st) (k : ∀ p ∈ dat, p ∈ dat') : StL dat' v st := by
  cases h with
  | set a => exact .set (a.mono k)
  | block a b c => exact .block (k _ a) (k _ b) (c.mono k)
  | cond a b c => exact .cond (k _ a) (b.mono k) (c.mono k)
def St.parts : St → List St
  | .set _ _ => []
  | .block sg e | .cond _ sg e => [.set sg e]
def St.nodes (s : St) : List St := s :: s.parts
def St.exprs : St → List Ex
  | .set _ e => [e]
  | .block _ _ => []
  | .cond c _ _ => [c]
def St.tgts : St → List Bool
  | .set sg _ => [sg]
  | _ => []
end Mine
namespace Mine
section
variable {prog : Program} {w : World} {A : Around} {E : Value → Shared → Prop} {s : Shared} {h₀ : Heap} {L d : Addr} {m : Str → Option Value} {news : List (Addr × Obj)} {o : Obj}
theorem sorted_dict {kvs : List (Int × Value)} {Q : Value → Shared → Prop} (hh : A.handled = none) (F : Fr h₀ L s.heap m) (N : News h₀ L s.heap news) (hm : (d, o) ∈ news) (hd : o.IsDictOf (intKind prog w) kvs) (lo : (d == sysModules) = false) (hn : kvs.length < 64)
    (h : ∀ B vs ns c h' tk, Fr h₀ L h' m → News h₀ L h' ((B, listOf vs.toArray c) :: news) → (∀ q ∈ news, q.1 < B) → IntsAre vs ns → ns.Perm (kvs.map (·.1)) → ns.Pairwise (fun x y => x ≤ y) → Q (.ref B) { s with heap := h', toks := tk }) :
    wpAny (model prog w) A (call (.builtin "sorted") [.ref d]) Q E s := by
  obtain ⟨es, ep, hx, hdat, hkeys, hpairs, hnd⟩ := hd
  have hat : s.heap.DictAt (intKind prog w) d kvs ep := by
    have := (N _ hm).1
    exact ⟨o, es, this, hx, hdat, hkeys, hpairs, hnd⟩
  refine kdu_sorted (kdl_dict (knd := intKind prog w) (kvs := kvs) (ep := ep) lo) hh F N hat (by rw [sizeLine_eq]; omega) fun B h' tk vs F' N' l1 hl hv => ?_
  have hi : IntsAre vs (kvs.map (·.1)) := by
    have key : ∀ (vs : List Value) (kvs : List (Int × Value)), vs.length = kvs.length → (∀ (j : Nat) (v : Value), vs[j]? = some v → ∃ k x, kvs[j]? = some (k, x) ∧ (intKind prog w).is k v = true) → IntsAre vs (kvs.map (·.1)) := by
      intro vs
      induction vs with
      | nil => intro kvs hl _; cases kvs with
        | nil => exact .nil
        | cons a l => cases hl
      | cons v vs ih => intro kvs hl hv; cases kvs with
        | nil => cases hl
        | cons a l =>
          obtain ⟨k, x, e, hk⟩ := hv 0 v rfl
          cases e
          obtain ⟨t, rfl⟩ := Value.isInt_shape hk
          exact .cons _ _ (ih l (by simpa using hl) fun j v e => by simpa using hv (j + 1) v (by simpa using e))
    exact key vs kvs hl hv
  refine ksk_lsort (news' := fun o => (B, o) :: news) F' N' (fun o => Upd.head fun p hp => Nat.ne_of_lt (l1 p hp)) (by simp) hi (by rw [List.length_map]; exact hn) fun vs' ns' c h'' F'' N'' hi' _ hp hs _ => ?_
  exact h B vs' ns' c h'' _ F'' N'' l1 hi' hp hs
end
end Mine
namespace Mine
section
variable {prog : Program} {w : World} {A : Around} {E : Value → Shared → Prop} {s : Shared} {env : Env} {h₀ : Heap} {x : Str} {body : List Stmt} {Q : Flow → Shared → Prop}
/-- a loop over a tuple -/
theorem iter_tup {l : Addr} {vs : List Value} {m₀ : Str → Option Value} {news : List (Addr × Obj)} (J : Nat → (Str → Option Value) → List (Addr × Obj) → Prop)
    (hh : A.handled = none) (hlo : s.heap.get? l = some (tup vs)) (hl : env.locals ≠ l)
    (F : Fr h₀ env.locals s.heap m₀) (N : News h₀ env.locals s.heap news)
    (hk : h₀.get? l = some (tup vs) ∨ ∀ i m nx, J i m nx → (l, tup vs) ∈ nx) (hj : J 0 m₀ news)
    (turn : ∀ I i v m₁ nx it h tk, vs[i]? = some v → J i m₁ nx → (∀ q ∈ nx, @Ne Nat q.1 I) → Fr h₀ env.locals h (fun y => if y = x then some v else m₁ y) → News h₀ env.locals h ((I, it) :: nx) →
      wpAny (model prog w) A (execs body env) (TurnEnd h₀ env.locals I it (J (i + 1)) { s with heap := h, toks := tk } Q) E { s with heap := h, toks := tk })
    (done : ∀ m₁ nx h tk, J vs.length m₁ nx → Fr h₀ env.locals h m₁ → News h₀ env.locals h nx → Q .next { s with heap := h, toks := tk }) :
    wpAny (model prog w) A (pyIter (.ref l)) (fun it s₂ => LoopAtV prog w A h₀ env x body Q E it s₂) E s := by
  have hls : s.heap.IsTuple l vs.toArray := ⟨_, hlo, rfl, 0, rfl⟩
  refine wpAny_pyIter_tuple hls ?_
  have hlt := Heap.lt_size hlo
  have W := Walks.tuple (prog := prog) (w := w) hh s.heap.objs.size l (Nat.ne_of_lt hlt) vs.toArray
  have hlen : vs.toArray.size = vs.length := by simp
  rw [hlen] at W
  have hI0 : h₀.get? s.heap.objs.size = none := by
    cases e : h₀.get? s.heap.objs.size with
    | none => rfl
    | some o => exact absurd (Heap.lt_size (F.keep _ o e)) (Nat.lt_irrefl _)
  exact iter_walk (s := { s with heap := s.heap.push { cls := .type "tuple_iterator", data := .fields #[.ref l, .int 0 0] } }) J W (fun i h st => let ⟨o, ho, _⟩ := st.1; ⟨o, ho⟩) (Nat.ne_of_lt F.ns.lt) hl hI0 (F.push _)
    (fun p hp => ⟨Heap.get?_push_of_some _ (N p hp).1, (N p hp).2⟩) (fun q hq => Nat.ne_of_lt (Heap.lt_size (N q hq).1)) ⟨⟨_, Heap.get?_push_size _ rfl, rfl, rfl⟩, hls.at fun o e => Heap.get?_push_of_some _ e⟩ (.inr hk) hj
    (fun i v m₁ nx it h tk hi hP hJ ho F₁ N₁ => turn _ i v m₁ nx it h tk (by simpa using hP) hJ ho F₁ N₁) (fun m₁ nx h tk hJ F₁ N₁ => done m₁ nx h tk hJ F₁ N₁)

/-- behind the one turn -/
def OneJ (h₀ : Heap) (L : Addr) (m₀ : Str → Option Value) (news : List (Addr × Obj)) (s : Shared) (Q : Flow → Shared → Prop) : Nat → (Str → Option Value) → List (Addr × Obj) → Prop
  | 0, m, nx => m = m₀ ∧ nx = news
  | _, m, nx => ∀ h tk, Fr h₀ L h m → News h₀ L h nx → Q .next { s with heap := h, toks := tk }
/-- a loop over a tuple of one -/
theorem iter_tup1 {l : Addr} {v : Value} {m₀ : Str → Option Value} {news : List (Addr × Obj)}
    (hh : A.handled = none) (hb : h₀.get? l = some (tup [v]))
    (F : Fr h₀ env.locals s.heap m₀) (N : News h₀ env.locals s.heap news)
    (turn : ∀ I it h tk, (∀ q ∈ news, @Ne Nat q.1 I) → Fr h₀ env.locals h (fun y => if y = x then some v else m₀ y) → News h₀ env.locals h ((I, it) :: news) →
      wpAny (model prog w) A (execs body env) (TurnEnd h₀ env.locals I it (OneJ h₀ env.locals m₀ news s Q 1) { s with heap := h, toks := tk } Q) E { s with heap := h, toks := tk }) :
    wpAny (model prog w) A (pyIter (.ref l)) (fun it s₂ => LoopAtV prog w A h₀ env x body Q E it s₂) E s := by
  refine iter_tup (OneJ h₀ env.locals m₀ news s Q) hh (F.keep _ _ hb) (fun e => absurd F.above (Nat.not_le.mpr (e ▸ Heap.lt_size hb))) F N (.inl hb) ⟨rfl, rfl⟩ ?_ ?_
  · rintro I i z m₁ nx it h tk hv hJ hI F₁ N₁
    cases i with
    | succ i => simp at hv
    | zero =>
      obtain ⟨rfl, rfl⟩ := hJ
      simp at hv; subst hv
      exact turn I it h tk hI F₁ N₁
  · intro m₁ nx h tk hJ F₁ N₁
    exact hJ h tk F₁ N₁
theorem one_end {I : Addr} {it : Obj} {m₀ m' : Str → Option Value} {news nx' : List (Addr × Obj)} {s₁ : Shared} {h' : Heap} {tk' : Nat} (F : Fr h₀ env.locals h' m') (N : News h₀ env.locals h' ((I, it) :: nx')) (hn : ∀ q ∈ nx', q.1 ≠ I)
    (k : ∀ h tk, Fr h₀ env.locals h m' → News h₀ env.locals h nx' → Q .next { s with heap := h, toks := tk }) :
    TurnEnd h₀ env.locals I it (OneJ h₀ env.locals m₀ news s Q 1) s₁ Q .next { s₁ with heap := h', toks := tk' } := ⟨h', tk', m', nx', rfl, F, N, hn, k⟩
end
end Mine
namespace Mine
section
variable {prog : Program} {w : World} {A : Around} {E : Value → Shared → Prop} {s : Shared} {h₀ : Heap} {L D d : Addr} {m : Str → Option Value} {news : List (Addr × Obj)} {n n2 : Nat} {o : Obj}
theorem valueAt_some (kvs : List (Int × Value)) (k : Int) : (valueAt kvs k).isSome = decide (k ∈ kvs.map (·.1)) := by
  unfold valueAt
  rw [Option.isSome_map]
  induction kvs with
  | nil => simp
  | cons a l ih =>
    rw [List.find?_cons]
    by_cases h : a.1 = k
    · simp [h]
    · simp only [h, decide_false, ih, List.map_cons, List.mem_cons]
      simp [Ne.symm h]
theorem notin_dict {kvs : List (Int × Value)} {k : Int} {t : Tok} {Q : Value → Shared → Prop} (N : News h₀ L s.heap news) (hm : (d, o) ∈ news) (hd : o.IsDictOf (intKind prog w) kvs) (lo : (d == sysModules) = false)
    (h : Q (.bool (!decide (k ∈ kvs.map (·.1)))) { s with toks := s.toks + 1 }) : wpAny (model prog w) A (compareOp .NotIn (.int k t) (.ref d)) Q E s := by
  have hdo : s.heap.DictOf (intKind prog w) d kvs := Heap.dictOf_iff.mpr ⟨o, (N _ hm).1, hd⟩
  exact wpAny_notIn_of (intKind_is prog w k t) lo hdo.mapOf (by rw [valueAt_some]; exact h)
theorem copy_ {b : Addr} {vs : List Value} {Q : Value → Shared → Prop} (F : Fr h₀ L s.heap m) (N : News h₀ L s.heap news) (hb : (b, listOf vs.toArray n2) ∈ news) (hz : vs.length ≤ 1000000)
    (h : ∀ D c h', Fr h₀ L h' m → News h₀ L h' ((D, listOf vs.toArray c) :: news) → (∀ q ∈ news, @LT.lt Nat _ q.1 D) → Q (.ref D) { s with heap := h' }) : wpAny (model prog w) A (call (.type "list") [.ref b]) Q E s :=
  kup_listOf F N hb (by simp) h (by rw [sizeLine_eq]; simp; omega)
theorem truthy_ {l : Addr} {vs : List Value} {Q : Bool → Shared → Prop} (N : News h₀ L s.heap news) (hm : (l, listOf vs.toArray n) ∈ news) (hz : vs.length ≤ 16777216)
    (h : ∀ tk, Q (!vs.isEmpty) { s with toks := tk }) : wpAny (model prog w) A (truthy (.ref l)) Q E s := by
  have hl : s.heap.IsList l vs.toArray := ⟨_, (N _ hm).1, rfl, n, rfl⟩
  have e : (!vs.isEmpty) = !vs.toArray.isEmpty := by simp
  refine wpAny_truthy_list hl (by simp; omega) ?_
  rw [e] at h; exact h _
theorem IntsAre.append {vs ws : List Value} {l k : List Int} (h : IntsAre vs l) (h' : IntsAre ws k) : IntsAre (vs ++ ws) (l ++ k) := by
  induction h with
  | nil => exact h'
  | cons n t _ ih => exact .cons n t ih
theorem IntsAre.snoc_inv : ∀ {vs : List Value} {l : List Int}, IntsAre vs l → vs = [] ∧ l = [] ∨ ∃ vs' l' k t, vs = vs' ++ [.int k t] ∧ l = l' ++ [k] ∧ IntsAre vs' l'
  | _, _, .nil => .inl ⟨rfl, rfl⟩
  | _, _, .cons (vs := vs) (ns := ns) n t h => by
    rcases IntsAre.snoc_inv h with ⟨rfl, rfl⟩ | ⟨vs', l', k, u, rfl, rfl, h'⟩
    · exact .inr ⟨[], [], n, t, rfl, rfl, .nil⟩
    · exact .inr ⟨.int n t :: vs', n :: l', k, u, rfl, rfl, .cons n t h'⟩
/-- ints below n that differ are at most n -/
theorem few : ∀ (n : Nat) (l : List Int), l.Nodup → (∀ k ∈ l, 0 ≤ k ∧ k < (n : Int)) → l.length ≤ n
  | 0, l, _, h => by
    cases l with
    | nil => simp
    | cons a l => have := h a (by simp); omega
  | n + 1, l, hn, h => by
    have h1 := few n (l.erase (n : Int)) (hn.erase _) fun k hk => by
      have h2 := (hn.mem_erase_iff).mp hk
      have h3 := h k h2.2
      omega
    have h2 : l.length ≤ (l.erase (n : Int)).length + 1 := by
      rw [List.length_erase]
      split <;> omega
    omega
theorem ext_ {b : Addr} {vs ws : List Value} {news' : Nat → List (Addr × Obj)} {Q : Value → Shared → Prop} (F : Fr h₀ L s.heap m) (N : News h₀ L s.heap news) (hb : (b, listOf ws.toArray n2) ∈ news)
    (U : ∀ c, Upd D (listOf vs.toArray n) (listOf (vs ++ ws).toArray c) news (news' c)) (hz : vs.length + ws.length ≤ 1000000)
    (h : ∀ h' c, Fr h₀ L h' m → News h₀ L h' (news' c) → Q .none { s with heap := h' }) : wpAny (model prog w) A (call (.builtin "list.extend") [.ref D, .ref b]) Q E s := by
  have hs := sizeLine_eq
  have hno : ¬(!vs.toArray.isEmpty && Builtin.List.listTooLong (vs.toArray.size + ws.toArray.size)) = true := by
    rw [List.size_toArray, List.size_toArray]
    have : Builtin.List.listTooLong (vs.length + ws.length) = false := by
      unfold Builtin.List.listTooLong
      simp only [decide_eq_false_iff_not]
      omega
    rw [this]; simp
  cases ws with
  | nil =>
    have U' := U n
    rw [List.append_nil] at U'
    exact kxn_extend F N hb rfl U' hno (by simp; omega) (by simp; omega) fun h' F' N' => h h' n F' N'
  | cons x r =>
    exact kl_extend F N hb (by simp) (by simp) (U (n + 1)) hno (by simp at hz ⊢; omega) (by simp at hz ⊢; omega) fun h' F' N' => h h' (n + 1) F' N'
end
section
variable {prog : Program} {w : World} {A : Around} {E : Value → Shared → Prop} {s : Shared} {K : Frag} {g : Heap} {L x dx C : Addr} {m : Str → Option Value} {dat : List (Addr × Obj)} {es : List DictEntry} {n : Nat} {name : Str} {v : Value}
theorem attr_dat {expr : Bool} {Q : Value → Shared → Prop} {attr : Option Value} (F : Fr g L s.heap m) (X : K.In g) (D : Has g dat) (h1 : (x, instObj C dx) ∈ dat) (h2 : (dx, dictOf es n) ∈ dat) (hg : plainGet K C name = true) (hh : hasDictIn K C = true)
    (ha : findIn K (.ref C) name = some attr) (hn : noGet K attr = true) (hl : getL name es = some (some v)) (hv : handedIn v = true) (h : Q v { s with toks := s.toks + 1 }) :
    wpAny (model prog w) A (getAttr (.ref x) name expr) Q E s :=
  get_own F X ⟨F.keep _ _ (D _ h1), rfl, rfl, F.keep _ _ (D _ h2)⟩ hg hh ha hn hl hv h
theorem meth_dat {pl : Sem Bool} {Q : Value × List Value → Shared → Prop} {f : Addr} (F : Fr g L s.heap m) (X : K.In g) (D : Has g dat) (h1 : (x, instObj C dx) ∈ dat) (h2 : (dx, dictOf es n) ∈ dat) (hg : plainGet K C name = true)
    (hf : findIn K (.ref C) name = some (some (.ref f))) (ht : isFn K (.ref f) = true) (hl : getL name es = some none) (h : Q (.ref f, [.ref x]) s) : wpAny (model prog w) A (getMethod (.ref x) name pl) Q E s :=
  method_inst F X ⟨F.keep _ _ (D _ h1), rfl, rfl, F.keep _ _ (D _ h2)⟩ hg hf ht hl h
theorem item_dat {value slice : Expr} {vs : List Value} {k : Int} {u : Tok} {Q : Value → Shared → Prop} {l : Addr} (F : Fr g L s.heap m) (D : Has g dat) (hm : (l, listOf vs.toArray n) ∈ dat) (h0 : 0 ≤ k) (hhi : k < 1000) (hx : vs[k.toNat]? = some v) (h : Q v s)
    (hs : subscripted slice false (.ref l) (.int k u) = operate [.ref l, .int k u] (getItem (.ref l) (.int k u)) := by with_unfolding_all rfl) :
    wpAny (model prog w) A (subscriptTail value slice (.ref l) (.int k u)) Q E s :=
  have hL : s.heap.IsList l vs.toArray := ⟨_, F.keep _ _ (D _ hm), rfl, n, rfl⟩
  tail_any hL.typeIs slot_list_getitem.lookup (wpAny_getItem_list hL h0 (by omega) (by simpa using hx) h) hs
end
/-- a routine -/
inductive RoutL (dat : List (Addr × Obj)) : Value → St → Prop
  | mk {x dx es n b st} : (x, instObj 195 dx) ∈ dat → (dx, dictOf es n) ∈ dat → getL (Str.ofString "made") es = some (some (.bool true)) → getL (Str.ofString "body") es = some (some (.ref b)) → StL dat (.ref b) st → RoutL dat (.ref x) st
/-- the design -/
inductive DesL (dat : List (Addr × Obj)) : Value → List St → Prop
  | mk {x dx es n r rs k sts} : (x, instObj 258 dx) ∈ dat → (dx, dictOf es n) ∈ dat → getL (Str.ofString "routines") es = some (some (.ref r)) → getL (Str.ofString "routine") es = some none → (r, listOf rs.toArray k) ∈ dat → All2 (RoutL dat) rs sts → DesL dat (.ref x) sts
end Mine
namespace Mine
section
variable {w : World} {mg mb : Str → Option Value} {mean : ExcName → Option Value} {s : Shared} {h₀ : Heap} {a : Addr} {o : Obj} {news : List (Addr × Obj)} {g : Obj → List (Addr × Obj)}
/-- a call that turns one object of the ledger -/
theorem use1 {A : Around} {L : Addr} {m : Str → Option Value} {f : Addr} {args : List Value} {post : List (Addr × Obj) → List (Addr × Obj) → Value → Prop} {Q : Value → Shared → Prop} {E : Value → Shared → Prop}
    (F : Fr h₀ L s.heap m) (N : News h₀ L s.heap news) (U : UpdF a o news g)
    (c : codeAny (model PySem.Challenge.pw_on0119_01 w) A (.call (.ref f) ⟨args, []⟩) (Post s [(a, o)] post) s)
    (h : ∀ v h' tk' o' tl, Fr h₀ L h' m → News h₀ L h' (tl ++ g o') → (∀ q ∈ news, ∀ p ∈ tl, @Ne Nat q.1 p.1) → post [(a, o')] tl v → Q v { s with heap := h', toks := tk' }) :
    wpAny (model PySem.Challenge.pw_on0119_01 w) A (call (.ref f) args) Q E s := by
  obtain ⟨pre, po, rfl, hg, h1, h2⟩ := U.split
  refine use (mods := [(a, o)]) (rest := pre ++ po) F (News.sub N fun p hp => ?_) (fun q hq => ?_) c fun v h' tk' mods' tl F' N' ha ho hp => ?_
  · rcases List.mem_append.mp hp with hp | hp
    · rw [List.mem_singleton.mp hp]; exact List.mem_append_right _ (.head _)
    · rcases List.mem_append.mp hp with hp | hp
      · exact List.mem_append_left _ hp
      · exact List.mem_append_right _ (.tail _ hp)
  · simp only [List.map_cons, List.map_nil, List.mem_singleton]
    rcases List.mem_append.mp hq with hq | hq
    · exact h1 q hq
    · exact h2 q hq
  · obtain ⟨⟨a', o'⟩, rfl, e⟩ : ∃ q : Addr × Obj, mods' = [q] ∧ q.1 = a := by
      cases mods' with
      | nil => cases ha
      | cons q r =>
        cases r with
        | nil => exact ⟨q, rfl, by simpa using ha⟩
        | cons q' r => simp at ha
    dsimp only at e; subst e
    refine h v h' tk' o' tl F' (News.sub N' fun p hp => ?_) (fun q hq => ho q ?_) hp
    · rw [hg] at hp
      simp only [List.mem_append, List.mem_cons] at hp ⊢
      grind
    · simp only [List.mem_append, List.mem_cons] at hq ⊢
      grind
theorem at1 {L : Addr} {m : Str → Option Value} (X : (kH w.params).In h₀) (T : Top kV (looseW kV []) mean mg mb h₀) (F : Fr h₀ L s.heap m) (N : News h₀ L s.heap news) (hm : (a, o) ∈ news) : At w mg mb mean h₀ s [(a, o)] :=
  ⟨⟨X, T⟩, F.keep, fun q hq => by rw [List.mem_singleton.mp hq]; exact ⟨(N _ hm).1, (N _ hm).2.2⟩⟩
theorem atL {L : Addr} {m : Str → Option Value} {mods : List (Addr × Obj)} (X : (kH w.params).In h₀) (T : Top kV (looseW kV []) mean mg mb h₀) (F : Fr h₀ L s.heap m) (N : News h₀ L s.heap news) (hm : ∀ p ∈ mods, p ∈ news) : At w mg mb mean h₀ s mods :=
  ⟨⟨X, T⟩, F.keep, fun q hq => ⟨(N _ (hm q hq)).1, (N _ (hm q hq)).2.2⟩⟩
end
theorem off3 {tray called loose : Addr} {x y z : Obj} {tl : List (Addr × Obj)} (h : ∀ q ∈ tl, @Ne Nat q.1 tray ∧ @Ne Nat q.1 called ∧ @Ne Nat q.1 loose) : ∀ q ∈ tl, q.1 ∉ [(tray, x), (called, y), (loose, z)].map (·.1) := by
  intro q hq hm
  simp at hm
  rcases hm with e | e | e
  · exact (h q hq).1 e
  · exact (h q hq).2.1 e
  · exact (h q hq).2.2 e
end Mine
namespace Mine
theorem setL_ok : ∀ (l : List Value) (k : Nat) (v : Value), k < l.length → ki_setL l k v = some (l.set k v)
  | [], _, _, h => absurd h (by simp)
  | x :: r, 0, v, _ => rfl
  | x :: r, k + 1, v, h => by
    unfold ki_setL
    rw [setL_ok r k v (by simpa using h)]
    rfl
section
variable {prog : Program} {w : World} {A : Around} {E : Value → Shared → Prop} {s : Shared} {h₀ : Heap} {L D d : Addr} {m : Str → Option Value} {news news' : List (Addr × Obj)} {n n2 : Nat} {o : Obj}
theorem set_ {vs : List Value} {k : Int} {t : Tok} {v : Value} {Q : Unit → Shared → Prop} (F : Fr h₀ L s.heap m) (N : News h₀ L s.heap news) (h0 : 0 ≤ k) (hfit : k < 2 ^ 63) (h1 : k < (vs.length : Int)) (U : Upd D (listOf vs.toArray n) (listOf (vs.set k.toNat v).toArray n) news news')
    (h : ∀ h', Fr h₀ L h' m → News h₀ L h' news' → Q () { s with heap := h' }) : wpAny (model prog w) A (setItem (.ref D) (.int k t) v) Q E s :=
  ki_set (its := vs.toArray) F N h0 hfit (setL_ok _ _ _ (by simp; omega)) U h
end
end Mine
namespace Mine
theorem range_small {n : Nat} (h : n ≤ 10) : Builtin.Range.small 0 (n : Int) 1 = true ∧ Builtin.Range.rangeSize 0 (n : Int) 1 = (n : Int) := by
  have : n = 0 ∨ n = 1 ∨ n = 2 ∨ n = 3 ∨ n = 4 ∨ n = 5 ∨ n = 6 ∨ n = 7 ∨ n = 8 ∨ n = 9 ∨ n = 10 := by omega
  rcases this with rfl | rfl | rfl | rfl | rfl | rfl | rfl | rfl | rfl | rfl | rfl <;> decide +kernel
section
variable {prog : Program} {w : World} {A : Around} {E : Value → Shared → Prop} {s : Shared} {env : Env} {h₀ : Heap} {x : Str} {body : List Stmt} {Q : Flow → Shared → Prop}
/-- a loop over range(n) -/
theorem iter_range {r : Addr} {n : Nat} {b : Int} {t₀ u₀ v₀ : Tok} {m₀ : Str → Option Value} {news : List (Addr × Obj)} (J : Nat → (Str → Option Value) → List (Addr × Obj) → Prop)
    (hh : A.handled = none) (hr : IsRange s.heap r 0 b 1 t₀ u₀ v₀) (hb : b = (n : Int)) (hn : n ≤ 10)
    (F : Fr h₀ env.locals s.heap m₀) (N : News h₀ env.locals s.heap news) (hj : J 0 m₀ news)
    (turn : ∀ I i t m₁ nx it h tk, i < n → J i m₁ nx → (∀ q ∈ nx, @Ne Nat q.1 I) → Fr h₀ env.locals h (fun y => if y = x then some (.int (i : Int) t) else m₁ y) → News h₀ env.locals h ((I, it) :: nx) →
      wpAny (model prog w) A (execs body env) (TurnEnd h₀ env.locals I it (J (i + 1)) { s with heap := h, toks := tk } Q) E { s with heap := h, toks := tk })
    (done : ∀ m₁ nx h tk, J n m₁ nx → Fr h₀ env.locals h m₁ → News h₀ env.locals h nx → Q .next { s with heap := h, toks := tk }) :
    wpAny (model prog w) A (pyIter (.ref r)) (fun it s₂ => LoopAtV prog w A h₀ env x body Q E it s₂) E s := by
  subst hb
  refine wpAny_pyIter_range hr (range_small hn).1 ?_
  have hI0 : h₀.get? s.heap.objs.size = none := by
    cases e : h₀.get? s.heap.objs.size with
    | none => rfl
    | some o => exact absurd (Heap.lt_size (F.keep _ o e)) (Nat.lt_irrefl _)
  have W := (Walks.range (prog := prog) (w := w) hh s.heap.objs.size 0 1 n).mono_fp (fp' := [s.heap.objs.size, s.heap.objs.size]) (fun b hb => by simp at hb ⊢; exact hb)
  exact iter_walk (lo := default) (s := { s with heap := s.heap.push { cls := .type "range_iterator", data := .fields #[rawInt 0, rawInt (Builtin.Range.rangeSize 0 (n : Int) 1), rawInt 1] } }) J W (fun i h st => ⟨_, st⟩) (Nat.ne_of_lt F.ns.lt) (Nat.ne_of_lt F.ns.lt) hI0 (F.push _)
    (fun p hp => ⟨Heap.get?_push_of_some _ (N p hp).1, (N p hp).2⟩) (fun q hq => Nat.ne_of_lt (Heap.lt_size (N q hq).1)) (by show IsRangeIter _ _ _ _ _; rw [(range_small hn).2]; simpa using Heap.get?_push_size _ rfl) (.inl rfl) hj
    (fun i v m₁ nx it h tk hi hP hJ ho F₁ N₁ => by
      obtain ⟨t, rfl⟩ := hP
      have e : (0 : Int) + (i : Nat) * 1 = (i : Int) := by omega
      rw [e] at F₁
      exact turn _ i t m₁ nx it h tk hi hJ ho F₁ N₁)
    (fun m₁ nx h tk hJ F₁ N₁ => done m₁ nx h tk hJ F₁ N₁)
end
section
variable {M : Model} {A : Around} {E : Value → Shared → Prop} {env : Env} {h : Heap} {g : Array GenState} {d : Drawn} {k : Nat} {o : OsState} {Q : Value → Shared → Prop}
theorem const_int {i : Int} {kc : Nat} {pos : Pos} (q : ∀ t tk, Q (.int i t) ⟨h, g, d, tk, o⟩) : wpAny M A (eval (.Constant (.int i) kc pos) env) Q E ⟨h, g, d, k, o⟩ := wpAny_Constant_int (q _ _)
theorem const_str {x : Str} {kc : Nat} {pos : Pos} (q : ∀ t tk, Q (.str x t) ⟨h, g, d, tk, o⟩) : wpAny M A (eval (.Constant (.str x) kc pos) env) Q E ⟨h, g, d, k, o⟩ := Calls.Constant_str (q _ _)
end
end Mine
local macro_rules | `(tactic| walk_at $s:str) => `(tactic| k_extra $s)
local macro_rules | `(tactic| k_all) => `(tactic| assumption)
local macro_rules | `(tactic| k_ne) => `(tactic| (refine neN ?_; (try dsimp only); first | with_reducible assumption | (refine Ne.symm ?_; with_reducible assumption)))
namespace Mine

def CupPost (a : Addr) (len : Nat) (k : Int) : List (Addr × Obj) → List (Addr × Obj) → Value → Prop := fun mods' tl v => tl = [] ∧ ∃ vs' n' ts' c u, mods' = [(a, listOf vs'.toArray n')] ∧ IntsAre vs' ts' ∧ vs'.length ≤ len ∧ v = .int c u ∧ 0 ≤ c ∧ c < k
theorem cup_spec {w : World} {mg mb : Str → Option Value} {mean : ExcName → Option Value} {s : Shared} {h₀ : Heap} {dp un : Nat} {fr : Option (List Env)} {gd : Option (List Code)} {a : Addr} {vs : List Value} {n : Nat} {ts : List Int} {k : Int} {t : Tok}
    (C : At w mg mb mean h₀ s [(a, listOf vs.toArray n)]) (hi : IntsAre vs ts) (hk : 0 < k) (hk2 : k < 100) (hlen : vs.length ≤ 16777216) (hd : dp < 500) (hu : un < 5000) :
    codeAny (model PySem.Challenge.pw_on0119_01 w) (A0 dp un fr gd) (.call (.ref 276) ⟨[.ref a, .int k t], []⟩)
      (Post s [(a, listOf vs.toArray n)] (CupPost a vs.length k)) s := by
  k_with_none
  k_with "BACK" => ((try dsimp only [Mine.TurnEnd, PyProof.Rows.WhileStep2]); refine' Mine.back ?B ?_; (case B => assumption); (try dsimp only))
  k_with "ENTER2" => ((case kC => assumption); (case k6 => k_is); (case kb => (conv => lhs; whnf)); (case ks => (conv => lhs; whnf)); (case k7 => k_is); (case k8 => (simp only [recursionLimit]; omega)); (case k9 => exact BindsTo.of_eq rfl); (case c5 => decide); (case kB => exact locs rfl); (case c2 => exact rfl); (case c3 => exact rfl); (case c4 => exact rfl); k_whole; intro _ _ _ _ _ _ _ _ _ _ _ _ _ _ _ _ _; (try dsimp only))
  k_with "subscriptTail" => (k_here; (with_reducible show wpAny _ _ (subscriptTail _ _ (Value.ref _) (Value.int _ _)) _ _ _); k_dflt (refine' item_tupleT (Mine.has_tup ?F ?D ?M) ?a ?b ?c ?d ?_; (case F => k_asm); (case D => assumption); (case M => assumption); (case a => decide); (case b => decide); (case c => first | rfl | exact Mine.seq_zero); (case d => rfl); k_whole))
  k_with "exec While Name cons nil" => k_extra "WHILE"
  k_with "pyIter ref" => ((with_reducible show wpAny _ _ (pyIter (Value.ref _)) (fun it s₂ => LoopAtV _ _ _ _ _ _ _ _ _ it s₂) _ _); k_extra "ITER")
  k_with "call ref" => k_extra "CALL"
  k_with "call type:reversed" => k_extra "REV"
  k_with "call builtin:list.pop" => (k_here; k_dflt (first | ((with_reducible show wpAny _ _ (call (Value.builtin _) [Value.ref _]) _ _ _); refine' Mine.popLast ?F ?N ?U ?z ?_; (case F => k_asm); (case N => k_asm); (case U => k_upd); (case z => (rw [PySem.sizeLine_eq]; first | assumption | omega | exact Nat.le_of_ble_eq_true rfl))) | (refine' Mine.pop0 ?F ?N ?U ?z ?_; (case F => k_asm); (case N => k_asm); (case U => k_upd); (case z => (rw [PySem.sizeLine_eq]; first | assumption | omega | exact Nat.le_of_ble_eq_true rfl)))); intro _ _ _; (try k_sweep))
  k_with "call builtin:list.append" => (k_here; k_extra "APP"; k_dflt (refine' Mine.app_ ?F ?N ?U ?z ?_; (case F => k_asm); (case N => k_asm); (case U => k_upd); (case z => (rw [PySem.sizeLine_eq]; first | assumption | omega | exact Nat.le_of_ble_eq_true rfl))); intro _ _ _; (try k_sweep))
  k_with "USE0" => ((case F => assumption); (case N => assumption); (case C => exact Mine.at0 (by assumption) (by assumption) (by assumption)); (case hd => ((try dsimp only [Mine.A0, Around.deeper, Around.in1]); omega)); (case hu => ((try dsimp only [Mine.A0, Around.deeper, Around.in1]); omega)))
  k_with "setItem ref int" => (k_here; k_dflt (refine' setItem_K PyProof.V.same_int (intKind_is _ _ _ _) ?v ?F ?N ?U ?d ?f ?_ ?z; (case F => k_asm); (case N => k_asm); (case U => k_updF); (case d => assumption); (case f => assumption); (case z => (rw [PySem.sizeLine_eq]; first | omega | exact Nat.le_of_ble_eq_true rfl)); (case v => exact PyProof.V.Flat.bool _)); intro _ _ _ _ _ _; (try k_sweep))
  k_with "call builtin:sorted" => (k_here; k_dflt (refine' Mine.sorted_dict ?hh ?F ?N ?M ?d ?lo ?z ?_; (case hh => exact rfl); (case F => assumption); (case N => assumption); (case M => k_mem); (case d => assumption); (case lo => assumption); (case z => first | omega | exact Nat.le_of_ble_eq_true rfl)); intro _ _ _ _ _ _ _ _ _ _ _ _)
  k_with "exec For" => (k_here; (with_reducible show wpAny _ _ (exec (Stmt.For (Expr.Name _ _) _ _ [] _) _) _ _ _); (with_reducible rename Fr _ _ _ _ => kF); (with_unfolding_all refine' For_invVF kF ?k1 ?k2 ?_; (case k1 => exact rfl); (case k2 => exact rfl); k_whole))
  k_with "call type:list" => (k_here; (with_reducible show wpAny _ _ (call (Value.type _) [Value.ref _]) _ _ _); k_dflt (refine' list_copyKT ?F ?N (Mine.has_tup ?G ?D ?M) ?_ ?z; (case F => k_asm); (case N => k_asm); (case G => k_asm); (case D => assumption); (case M => assumption); (case z => exact Nat.le_of_ble_eq_true rfl)); intro _ _ _ _ _ l1; (try (replace l1 := allLt_of l1; dsimp only [AllLt] at l1; revert l1; intro _)); (try k_sweep))
  k_with "ALLQ" => (simp only [List.forall_mem_cons, List.mem_singleton, forall_eq]; assumption)
  k_with "subscriptTail" => (k_here; (with_reducible show wpAny _ _ (subscriptTail _ _ (Value.ref _) (Value.int _ _)) _ _ _); k_dflt (refine' Mine.item_dat ?F ?D ?M ?a ?b ?x ?_; (case F => k_asm); (case D => assumption); (case M => assumption); (case a => assumption); (case b => omega); (case x => assumption); k_whole))
  k_with "getAttr ref" => (k_here; k_dflt (refine' Mine.attr_dat ?F ?X ?D ?h1 ?h2 ?k4 ?k5 ?k6 ?k7 ?k8 ?k9 ?_; (case F => k_asm); (case X => k_asm); (case D => assumption); (case h1 => assumption); (case h2 => assumption); (case k4 => k_is); (case k5 => k_is); (case k6 => k_is); (case k7 => k_is); (case k8 => assumption); (case k9 => k_handed); k_whole))
  k_with "getMethod ref" => (k_here; k_dflt (refine' Mine.meth_dat ?F ?X ?D ?h1 ?h2 ?k4 ?k5 ?k6 ?k7 ?_; (case F => k_asm); (case X => k_asm); (case D => assumption); (case h1 => assumption); (case h2 => assumption); (case k4 => k_is); (case k5 => k_is); (case k6 => k_is); (case k7 => assumption); k_whole))
  k_with "compareOp NotIn int ref" => (k_here; k_dflt (refine' Mine.notin_dict ?N ?M ?d ?lo ?_; (case N => assumption); (case M => k_mem); (case d => assumption); (case lo => assumption)))
  k_with "call builtin:list.extend" => (k_here; k_extra "EXT"; k_dflt (refine' Mine.ext_ ?F ?N ?b ?U ?z ?_; (case F => k_asm); (case N => k_asm); (case b => k_mem); (case U => (intro c; k_upd)); (case z => omega)); intro _ _ _ _; (try k_sweep))
  k_with "call type:list" => (k_here; k_extra "COPY"; (with_reducible show wpAny _ _ (call (Value.type _) [Value.ref _]) _ _ _); k_dflt (refine' Mine.copy_ ?F ?N ?M ?z ?_; (case F => k_asm); (case N => k_asm); (case M => k_mem); (case z => omega)); intro _ _ _ _ _ l1; (try (replace l1 := allLt_of l1; dsimp only [AllLt] at l1; revert l1; intro _)); (try k_sweep))
  k_with "truthy ref" => (k_here; k_extra "TRU"; (with_reducible show wpAny _ _ (truthy (Value.ref _)) _ _ _); k_dflt (refine' Mine.truthy_ ?N ?M ?z ?_; (case N => k_asm); (case M => k_mem); (case z => first | assumption | omega)); intro _)
  k_with "USE1" => ((case F => assumption); (case N => assumption); (case U => k_updF); (case C => exact Mine.at1 (by assumption) (by assumption) (by assumption) (by assumption) (by k_mem)); (case hd => ((try dsimp only [Mine.A0, Around.deeper, Around.in1]); omega)); (case hu => ((try dsimp only [Mine.A0, Around.deeper, Around.in1]); omega)))
  k_with "setItem ref int" => (k_here; (with_reducible show wpAny _ _ (setItem (Value.ref _) (Value.int _ _) _) _ _ _); k_dflt (refine' Mine.set_ ?F ?N ?a ?b ?c ?U ?_; (case F => k_asm); (case N => k_asm); (case U => k_upd); (case a => omega); (case b => omega); (case c => omega)); intro _ _ _; (try k_sweep))
  k_with "exec Assign cons ListComp" => k_extra "COMP"
  k_with "eval ListComp" => k_extra "COMPE"
  k_with "CompSrc" => k_extra "CSRC"
  k_with "binaryOp Mult ref int" => k_extra "MUL"
  k_with "TAILS" => (intro p hp; repeat (first | exact hp | refine List.Mem.tail _ ?_))
  k_with "getMethod ref" => (k_here; k_dflt (refine' Mine.meth_news ?F ?X ?N ?h1 ?h2 ?S ?k4 ?k5 ?k6 ?k7 ?_; (case F => k_asm); (case X => k_asm); (case N => k_asm); (case h1 => assumption); (case h2 => assumption); (case S => walk_at "TAILS"); (case k4 => k_is); (case k5 => k_is); (case k6 => k_is); (case k7 => assumption); k_whole))
  k_with "GOFF" => (refine Mine.off3 ?_; repeat' (first | exact List.forall_mem_nil _ | assumption | refine List.forall_mem_cons.mpr ⟨⟨by (dsimp only; omega), by (dsimp only; omega), by (dsimp only; omega)⟩, ?_⟩))
  k_with "GCUP" => (unfold Mine.Stop; rintro v' h' tk' o' tl F' N' ho ⟨e1, vs1, n1', ts1, c, u, hm1, hi1, hl4, e2, hc0, hc1⟩; cases hm1; cases e1; cases e2; (try simp only [List.nil_append] at N'); clear ho)
  k_with "eval Constant int" => (k_here; (k_dflt (refine' Mine.const_int ?_)); intro _ _)
  k_with "eval Constant str" => (k_here; (k_dflt (refine' Mine.const_str ?_)); intro _ _)
  k_with "newTuple" => (k_here; k_dflt (refine' kup_newTuple ?F ?N ?_ ?z; (case F => k_asm); (case N => k_asm); (case z => exact Nat.le_of_ble_eq_true rfl)); intro _ _ _ _ l1; (try (replace l1 := allLt_of l1; dsimp only [AllLt] at l1; revert l1; intro _)); (try k_sweep))
  k_with "newList" => (k_here; k_dflt (refine' newList_K ?k1 ?k2 ?_; (case k1 => k_asm); (case k2 => k_asm); k_whole); intro _ _ _ _ l1; (try (replace l1 := allLt_of l1; dsimp only [AllLt] at l1; revert l1; intro _)); (try k_sweep))
  refine' enter (binds := [(Str.ofString "tray", .ref a), (Str.ofString "most", .int k t)]) ?kC ?k6 ?kb ?ks ?k7 ?k8 ?k9 ?kB ?_ ?c2 ?c3 ?c4 ?c5; walk_at "ENTER2"
  cases hi with
  | nil =>
    k_steps
    rename Fr _ _ _ _ => F'
    rename News _ _ _ _ => N'
    walk_at "BACK"
    exact leave (mods' := [(a, listOf [].toArray n)]) (tl := []) (by assumption) F' (News.sub N' (by simp)) rfl (by simp) ⟨rfl, [], n, [], 0, _, rfl, .nil, Nat.le_refl _, rfl, by omega, hk⟩
  | cons x u hi' =>
    k_steps
    · rename _ = true => h9; simp at h9
    · rename Fr _ _ _ _ => F'
      rename News _ _ _ _ => N'
      walk_at "BACK"
      exact leave (mods' := [(a, listOf _ (n + 1))]) (tl := []) (by assumption) F' (News.sub N' (by simp)) rfl (by simp) ⟨rfl, _, n + 1, _, _, _, rfl, hi', Nat.le_succ _, rfl, Int.fmod_nonneg_of_pos _ hk, Int.fmod_lt_of_pos _ hk⟩
end Mine
namespace Mine

def KidPost (dat : List (Addr × Obj)) (e : Ex) : List (Addr × Obj) → List (Addr × Obj) → Value → Prop := fun _ tl r => ∃ b vs, r = .ref b ∧ (tl = [(b, tup vs)] ∨ (tl = [] ∧ (b, tup vs) ∈ dat)) ∧ All2 (ExL dat) vs e.kids
theorem kid_new {s : Shared} {g h' : Heap} {L' b : Addr} {m' : Str → Option Value} {dat : List (Addr × Obj)} {e : Ex} {vs : List Value} {tk' : Nat} (hg : ∀ b o, s.heap.get? b = some o → b ∉ ([] : List (Addr × Obj)).map (·.1) → g.get? b = some o)
    (F : Fr g L' h' m') (N : News g L' h' [(b, tup vs)]) (ha : All2 (ExL dat) vs e.kids) : Post s [] (KidPost dat e) (.ok (.ret (.ref b))) { s with heap := h', toks := tk' } :=
  leave (mods' := []) (tl := [(b, tup vs)]) hg F N rfl (by simp) ⟨b, vs, rfl, .inl rfl, ha⟩
theorem kid_old {s : Shared} {g h' : Heap} {L' b : Addr} {m' : Str → Option Value} {dat : List (Addr × Obj)} {e : Ex} {vs : List Value} {tk' : Nat} (hg : ∀ b o, s.heap.get? b = some o → b ∉ ([] : List (Addr × Obj)).map (·.1) → g.get? b = some o)
    (F : Fr g L' h' m') (hm : (b, tup vs) ∈ dat) (ha : All2 (ExL dat) vs e.kids) : Post s [] (KidPost dat e) (.ok (.ret (.ref b))) { s with heap := h', toks := tk' } :=
  leave (mods' := []) (tl := []) hg F (fun _ h => nomatch h) rfl (by simp) ⟨b, vs, rfl, .inr ⟨rfl, hm⟩, ha⟩

theorem children_spec {w : World} {mg mb : Str → Option Value} {mean : ExcName → Option Value} {s : Shared} {h₀ : Heap} {dp un : Nat} {fr : Option (List Env)} {gd : Option (List Code)} {dat : List (Addr × Obj)} {v : Value} {e : Ex}
    (C : At w mg mb mean h₀ s []) (D : Has s.heap dat) (he : ExL dat v e) (hd : dp < 500) (hu : un < 5000) :
    codeAny (model PySem.Challenge.pw_on0119_01 w) (A0 dp un fr gd) (.call (.ref 28) ⟨[v], []⟩)
      (Post s [] (KidPost dat e)) s := by
  k_with_none
  k_with "BACK" => ((try dsimp only [Mine.TurnEnd, PyProof.Rows.WhileStep2]); refine' Mine.back ?B ?_; (case B => assumption); (try dsimp only))
  k_with "ENTER2" => ((case kC => assumption); (case k6 => k_is); (case kb => (conv => lhs; whnf)); (case ks => (conv => lhs; whnf)); (case k7 => k_is); (case k8 => (simp only [recursionLimit]; omega)); (case k9 => exact BindsTo.of_eq rfl); (case c5 => decide); (case kB => exact locs rfl); (case c2 => exact rfl); (case c3 => exact rfl); (case c4 => exact rfl); k_whole; intro _ _ _ _ _ _ _ _ _ _ _ _ _ _ _ _ _; (try dsimp only))
  k_with "subscriptTail" => (k_here; (with_reducible show wpAny _ _ (subscriptTail _ _ (Value.ref _) (Value.int _ _)) _ _ _); k_dflt (refine' item_tupleT (Mine.has_tup ?F ?D ?M) ?a ?b ?c ?d ?_; (case F => k_asm); (case D => assumption); (case M => assumption); (case a => decide); (case b => decide); (case c => first | rfl | exact Mine.seq_zero); (case d => rfl); k_whole))
  k_with "exec While Name cons nil" => k_extra "WHILE"
  k_with "pyIter ref" => ((with_reducible show wpAny _ _ (pyIter (Value.ref _)) (fun it s₂ => LoopAtV _ _ _ _ _ _ _ _ _ it s₂) _ _); k_extra "ITER")
  k_with "call ref" => k_extra "CALL"
  k_with "call type:reversed" => k_extra "REV"
  k_with "call builtin:list.pop" => (k_here; k_dflt (first | ((with_reducible show wpAny _ _ (call (Value.builtin _) [Value.ref _]) _ _ _); refine' Mine.popLast ?F ?N ?U ?z ?_; (case F => k_asm); (case N => k_asm); (case U => k_upd); (case z => (rw [PySem.sizeLine_eq]; first | assumption | omega | exact Nat.le_of_ble_eq_true rfl))) | (refine' Mine.pop0 ?F ?N ?U ?z ?_; (case F => k_asm); (case N => k_asm); (case U => k_upd); (case z => (rw [PySem.sizeLine_eq]; first | assumption | omega | exact Nat.le_of_ble_eq_true rfl)))); intro _ _ _; (try k_sweep))
  k_with "call builtin:list.append" => (k_here; k_extra "APP"; k_dflt (refine' Mine.app_ ?F ?N ?U ?z ?_; (case F => k_asm); (case N => k_asm); (case U => k_upd); (case z => (rw [PySem.sizeLine_eq]; first | assumption | omega | exact Nat.le_of_ble_eq_true rfl))); intro _ _ _; (try k_sweep))
  k_with "USE0" => ((case F => assumption); (case N => assumption); (case C => exact Mine.at0 (by assumption) (by assumption) (by assumption)); (case hd => ((try dsimp only [Mine.A0, Around.deeper, Around.in1]); omega)); (case hu => ((try dsimp only [Mine.A0, Around.deeper, Around.in1]); omega)))
  k_with "setItem ref int" => (k_here; k_dflt (refine' setItem_K PyProof.V.same_int (intKind_is _ _ _ _) ?v ?F ?N ?U ?d ?f ?_ ?z; (case F => k_asm); (case N => k_asm); (case U => k_updF); (case d => assumption); (case f => assumption); (case z => (rw [PySem.sizeLine_eq]; first | omega | exact Nat.le_of_ble_eq_true rfl)); (case v => exact PyProof.V.Flat.bool _)); intro _ _ _ _ _ _; (try k_sweep))
  k_with "call builtin:sorted" => (k_here; k_dflt (refine' Mine.sorted_dict ?hh ?F ?N ?M ?d ?lo ?z ?_; (case hh => exact rfl); (case F => assumption); (case N => assumption); (case M => k_mem); (case d => assumption); (case lo => assumption); (case z => first | omega | exact Nat.le_of_ble_eq_true rfl)); intro _ _ _ _ _ _ _ _ _ _ _ _)
  k_with "exec For" => (k_here; (with_reducible show wpAny _ _ (exec (Stmt.For (Expr.Name _ _) _ _ [] _) _) _ _ _); (with_reducible rename Fr _ _ _ _ => kF); (with_unfolding_all refine' For_invVF kF ?k1 ?k2 ?_; (case k1 => exact rfl); (case k2 => exact rfl); k_whole))
  k_with "call type:list" => (k_here; (with_reducible show wpAny _ _ (call (Value.type _) [Value.ref _]) _ _ _); k_dflt (refine' list_copyKT ?F ?N (Mine.has_tup ?G ?D ?M) ?_ ?z; (case F => k_asm); (case N => k_asm); (case G => k_asm); (case D => assumption); (case M => assumption); (case z => exact Nat.le_of_ble_eq_true rfl)); intro _ _ _ _ _ l1; (try (replace l1 := allLt_of l1; dsimp only [AllLt] at l1; revert l1; intro _)); (try k_sweep))
  k_with "ALLQ" => (simp only [List.forall_mem_cons, List.mem_singleton, forall_eq]; assumption)
  k_with "subscriptTail" => (k_here; (with_reducible show wpAny _ _ (subscriptTail _ _ (Value.ref _) (Value.int _ _)) _ _ _); k_dflt (refine' Mine.item_dat ?F ?D ?M ?a ?b ?x ?_; (case F => k_asm); (case D => assumption); (case M => assumption); (case a => assumption); (case b => omega); (case x => assumption); k_whole))
  k_with "getAttr ref" => (k_here; k_dflt (refine' Mine.attr_dat ?F ?X ?D ?h1 ?h2 ?k4 ?k5 ?k6 ?k7 ?k8 ?k9 ?_; (case F => k_asm); (case X => k_asm); (case D => assumption); (case h1 => assumption); (case h2 => assumption); (case k4 => k_is); (case k5 => k_is); (case k6 => k_is); (case k7 => k_is); (case k8 => assumption); (case k9 => k_handed); k_whole))
  k_with "getMethod ref" => (k_here; k_dflt (refine' Mine.meth_dat ?F ?X ?D ?h1 ?h2 ?k4 ?k5 ?k6 ?k7 ?_; (case F => k_asm); (case X => k_asm); (case D => assumption); (case h1 => assumption); (case h2 => assumption); (case k4 => k_is); (case k5 => k_is); (case k6 => k_is); (case k7 => assumption); k_whole))
  k_with "compareOp NotIn int ref" => (k_here; k_dflt (refine' Mine.notin_dict ?N ?M ?d ?lo ?_; (case N => assumption); (case M => k_mem); (case d => assumption); (case lo => assumption)))
  k_with "call builtin:list.extend" => (k_here; k_extra "EXT"; k_dflt (refine' Mine.ext_ ?F ?N ?b ?U ?z ?_; (case F => k_asm); (case N => k_asm); (case b => k_mem); (case U => (intro c; k_upd)); (case z => omega)); intro _ _ _ _; (try k_sweep))
  k_with "call type:list" => (k_here; k_extra "COPY"; (with_reducible show wpAny _ _ (call (Value.type _) [Value.ref _]) _ _ _); k_dflt (refine' Mine.copy_ ?F ?N ?M ?z ?_; (case F => k_asm); (case N => k_asm); (case M => k_mem); (case z => omega)); intro _ _ _ _ _ l1; (try (replace l1 := allLt_of l1; dsimp only [AllLt] at l1; revert l1; intro _)); (try k_sweep))
  k_with "truthy ref" => (k_here; k_extra "TRU"; (with_reducible show wpAny _ _ (truthy (Value.ref _)) _ _ _); k_dflt (refine' Mine.truthy_ ?N ?M ?z ?_; (case N => k_asm); (case M => k_mem); (case z => first | assumption | omega)); intro _)
  k_with "USE1" => ((case F => assumption); (case N => assumption); (case U => k_updF); (case C => exact Mine.at1 (by assumption) (by assumption) (by assumption) (by assumption) (by k_mem)); (case hd => ((try dsimp only [Mine.A0, Around.deeper, Around.in1]); omega)); (case hu => ((try dsimp only [Mine.A0, Around.deeper, Around.in1]); omega)))
  k_with "setItem ref int" => (k_here; (with_reducible show wpAny _ _ (setItem (Value.ref _) (Value.int _ _) _) _ _ _); k_dflt (refine' Mine.set_ ?F ?N ?a ?b ?c ?U ?_; (case F => k_asm); (case N => k_asm); (case U => k_upd); (case a => omega); (case b => omega); (case c => omega)); intro _ _ _; (try k_sweep))
  k_with "exec Assign cons ListComp" => k_extra "COMP"
  k_with "eval ListComp" => k_extra "COMPE"
  k_with "CompSrc" => k_extra "CSRC"
  k_with "binaryOp Mult ref int" => k_extra "MUL"
  k_with "TAILS" => (intro p hp; repeat (first | exact hp | refine List.Mem.tail _ ?_))
  k_with "getMethod ref" => (k_here; k_dflt (refine' Mine.meth_news ?F ?X ?N ?h1 ?h2 ?S ?k4 ?k5 ?k6 ?k7 ?_; (case F => k_asm); (case X => k_asm); (case N => k_asm); (case h1 => assumption); (case h2 => assumption); (case S => walk_at "TAILS"); (case k4 => k_is); (case k5 => k_is); (case k6 => k_is); (case k7 => assumption); k_whole))
  k_with "GOFF" => (refine Mine.off3 ?_; repeat' (first | exact List.forall_mem_nil _ | assumption | refine List.forall_mem_cons.mpr ⟨⟨by (dsimp only; omega), by (dsimp only; omega), by (dsimp only; omega)⟩, ?_⟩))
  k_with "GCUP" => (unfold Mine.Stop; rintro v' h' tk' o' tl F' N' ho ⟨e1, vs1, n1', ts1, c, u, hm1, hi1, hl4, e2, hc0, hc1⟩; cases hm1; cases e1; cases e2; (try simp only [List.nil_append] at N'); clear ho)
  k_with "eval Constant int" => (k_here; (k_dflt (refine' Mine.const_int ?_)); intro _ _)
  k_with "eval Constant str" => (k_here; (k_dflt (refine' Mine.const_str ?_)); intro _ _)
  k_with "newTuple" => (k_here; k_dflt (refine' kup_newTuple ?F ?N ?_ ?z; (case F => k_asm); (case N => k_asm); (case z => exact Nat.le_of_ble_eq_true rfl)); intro _ _ _ _ l1; (try (replace l1 := allLt_of l1; dsimp only [AllLt] at l1; revert l1; intro _)); (try k_sweep))
  k_with "newList" => (k_here; k_dflt (refine' newList_K ?k1 ?k2 ?_; (case k1 => k_asm); (case k2 => k_asm); k_whole); intro _ _ _ _ l1; (try (replace l1 := allLt_of l1; dsimp only [AllLt] at l1; revert l1; intro _)); (try k_sweep))
  refine' enter (binds := [(Str.ofString "e", v)]) ?kC ?k6 ?kb ?ks ?k7 ?k8 ?k9 ?kB ?_ ?c2 ?c3 ?c4 ?c5; walk_at "ENTER2"
  rename_i g' L' h' hg' hz' hl' eL' X' T' F' N'
  have D' : Has g' dat := fun q hq => hg' _ _ (D q hq) (by simp)
  cases he
  all_goals k_steps
  all_goals walk_at "BACK"
  all_goals first
    | exact kid_new (by assumption) (by assumption) (by assumption) (by first | exact .nil | exact .cons (by assumption) .nil | exact .cons (by assumption) (.cons (by assumption) .nil) | exact .cons (by assumption) (.cons (by assumption) (.cons (by assumption) .nil)))
    | exact kid_old (by assumption) (by assumption) (by assumption) (by first | exact .nil | exact .cons (by assumption) .nil | exact .cons (by assumption) (.cons (by assumption) .nil) | exact .cons (by assumption) (.cons (by assumption) (.cons (by assumption) .nil)))
end Mine
namespace Mine
def SubPost (dat : List (Addr × Obj)) (e : Ex) : List (Addr × Obj) → List (Addr × Obj) → Value → Prop := fun _ tl r => ∃ b vs n, r = .ref b ∧ tl = [(b, listOf vs.toArray n)] ∧ All2 (ExL dat) vs e.subs
theorem sum_snoc (l : List Ex) (e : Ex) : ((l ++ [e]).map Ex.size).sum = (l.map Ex.size).sum + e.size := by simp
theorem len_le_sum (l : List Ex) : l.length ≤ (l.map Ex.size).sum := by
  induction l with
  | nil => simp
  | cons e l ih => have : 1 ≤ e.size := by cases e <;> simp [Ex.size]
                   simp; omega
theorem All2.snoc_inv {α β : Type} {R : α → β → Prop} : ∀ {l : List α} {m : List β}, All2 R l m → l = [] ∧ m = [] ∨ ∃ l' a m' b, l = l' ++ [a] ∧ m = m' ++ [b] ∧ All2 R l' m' ∧ R a b
  | _, _, .nil => .inl ⟨rfl, rfl⟩
  | _, _, .cons (a := a) (b := b) (l := l) (m := m) r h => by
    rcases h.snoc_inv with ⟨rfl, rfl⟩ | ⟨l', a', m', b', rfl, rfl, h', r'⟩
    · exact .inr ⟨[], a, [], b, rfl, rfl, .nil, r⟩
    · exact .inr ⟨a :: l', a', b :: m', b', rfl, rfl, .cons r h', r'⟩
theorem All2.reverse {α β : Type} {R : α → β → Prop} {l : List α} {m : List β} (h : All2 R l m) : All2 R l.reverse m.reverse := by
  induction h with
  | nil => exact .nil
  | cons r _ i => rw [List.reverse_cons, List.reverse_cons]; exact i.append (.cons r .nil)
theorem All2.take {α β : Type} {R : α → β → Prop} {l : List α} {m : List β} (h : All2 R l m) : ∀ n, All2 R (l.take n) (m.take n) := by
  induction h with
  | nil => intro n; simp; exact .nil
  | cons r _ i => intro n; cases n with
    | zero => exact .nil
    | succ n => exact .cons r (i n)

/-- between the turns of the while -/
def SubJ (dat : List (Addr × Obj)) (e : Ex) (n : Nat) (m : Str → Option Value) (news : List (Addr × Obj)) : Prop :=
  ∃ f k vf vk nf nk ef ek, m (Str.ofString "found") = some (.ref f) ∧ m (Str.ofString "stack") = some (.ref k) ∧ @LT.lt Nat _ f k ∧ news = [(k, listOf vk.toArray nk), (f, listOf vf.toArray nf)] ∧
    All2 (ExL dat) vf ef ∧ All2 (ExL dat) vk ek ∧ ef ++ ek.reverse.flatMap Ex.subs = e.subs ∧ n = (ek.map Ex.size).sum ∧ ef.length + n = e.size

theorem subs_spec {w : World} {mg mb : Str → Option Value} {mean : ExcName → Option Value} {s : Shared} {h₀ : Heap} {dp un : Nat} {fr : Option (List Env)} {gd : Option (List Code)} {dat : List (Addr × Obj)} {v : Value} {e : Ex}
    (C : At w mg mb mean h₀ s []) (D : Has s.heap dat) (he : ExL dat v e) (hz : e.size ≤ 1000) (hd : dp < 490) (hu : un < 4900) :
    codeAny (model PySem.Challenge.pw_on0119_01 w) (A0 dp un fr gd) (.call (.ref 35) ⟨[v], []⟩)
      (Post s [] (SubPost dat e)) s := by
  k_with_none
  k_with "BACK" => ((try dsimp only [Mine.TurnEnd, PyProof.Rows.WhileStep2]); refine' Mine.back ?B ?_; (case B => assumption); (try dsimp only))
  k_with "ENTER2" => ((case kC => assumption); (case k6 => k_is); (case kb => (conv => lhs; whnf)); (case ks => (conv => lhs; whnf)); (case k7 => k_is); (case k8 => (simp only [recursionLimit]; omega)); (case k9 => exact BindsTo.of_eq rfl); (case c5 => decide); (case kB => exact locs rfl); (case c2 => exact rfl); (case c3 => exact rfl); (case c4 => exact rfl); k_whole; intro _ _ _ _ _ _ _ _ _ _ _ _ _ _ _ _ _; (try dsimp only))
  k_with "subscriptTail" => (k_here; (with_reducible show wpAny _ _ (subscriptTail _ _ (Value.ref _) (Value.int _ _)) _ _ _); k_dflt (refine' item_tupleT (Mine.has_tup ?F ?D ?M) ?a ?b ?c ?d ?_; (case F => k_asm); (case D => assumption); (case M => assumption); (case a => decide); (case b => decide); (case c => first | rfl | exact Mine.seq_zero); (case d => rfl); k_whole))
  k_with "exec While Name cons nil" => k_extra "WHILE"
  k_with "pyIter ref" => ((with_reducible show wpAny _ _ (pyIter (Value.ref _)) (fun it s₂ => LoopAtV _ _ _ _ _ _ _ _ _ it s₂) _ _); k_extra "ITER")
  k_with "call ref" => k_extra "CALL"
  k_with "call type:reversed" => k_extra "REV"
  k_with "call builtin:list.pop" => (k_here; k_dflt (first | ((with_reducible show wpAny _ _ (call (Value.builtin _) [Value.ref _]) _ _ _); refine' Mine.popLast ?F ?N ?U ?z ?_; (case F => k_asm); (case N => k_asm); (case U => k_upd); (case z => (rw [PySem.sizeLine_eq]; first | assumption | omega | exact Nat.le_of_ble_eq_true rfl))) | (refine' Mine.pop0 ?F ?N ?U ?z ?_; (case F => k_asm); (case N => k_asm); (case U => k_upd); (case z => (rw [PySem.sizeLine_eq]; first | assumption | omega | exact Nat.le_of_ble_eq_true rfl)))); intro _ _ _; (try k_sweep))
  k_with "call builtin:list.append" => (k_here; k_extra "APP"; k_dflt (refine' Mine.app_ ?F ?N ?U ?z ?_; (case F => k_asm); (case N => k_asm); (case U => k_upd); (case z => (rw [PySem.sizeLine_eq]; first | assumption | omega | exact Nat.le_of_ble_eq_true rfl))); intro _ _ _; (try k_sweep))
  k_with "USE0" => ((case F => assumption); (case N => assumption); (case C => exact Mine.at0 (by assumption) (by assumption) (by assumption)); (case hd => ((try dsimp only [Mine.A0, Around.deeper, Around.in1]); omega)); (case hu => ((try dsimp only [Mine.A0, Around.deeper, Around.in1]); omega)))
  k_with "setItem ref int" => (k_here; k_dflt (refine' setItem_K PyProof.V.same_int (intKind_is _ _ _ _) ?v ?F ?N ?U ?d ?f ?_ ?z; (case F => k_asm); (case N => k_asm); (case U => k_updF); (case d => assumption); (case f => assumption); (case z => (rw [PySem.sizeLine_eq]; first | omega | exact Nat.le_of_ble_eq_true rfl)); (case v => exact PyProof.V.Flat.bool _)); intro _ _ _ _ _ _; (try k_sweep))
  k_with "call builtin:sorted" => (k_here; k_dflt (refine' Mine.sorted_dict ?hh ?F ?N ?M ?d ?lo ?z ?_; (case hh => exact rfl); (case F => assumption); (case N => assumption); (case M => k_mem); (case d => assumption); (case lo => assumption); (case z => first | omega | exact Nat.le_of_ble_eq_true rfl)); intro _ _ _ _ _ _ _ _ _ _ _ _)
  k_with "exec For" => (k_here; (with_reducible show wpAny _ _ (exec (Stmt.For (Expr.Name _ _) _ _ [] _) _) _ _ _); (with_reducible rename Fr _ _ _ _ => kF); (with_unfolding_all refine' For_invVF kF ?k1 ?k2 ?_; (case k1 => exact rfl); (case k2 => exact rfl); k_whole))
  k_with "call type:list" => (k_here; (with_reducible show wpAny _ _ (call (Value.type _) [Value.ref _]) _ _ _); k_dflt (refine' list_copyKT ?F ?N (Mine.has_tup ?G ?D ?M) ?_ ?z; (case F => k_asm); (case N => k_asm); (case G => k_asm); (case D => assumption); (case M => assumption); (case z => exact Nat.le_of_ble_eq_true rfl)); intro _ _ _ _ _ l1; (try (replace l1 := allLt_of l1; dsimp only [AllLt] at l1; revert l1; intro _)); (try k_sweep))
  k_with "ALLQ" => (simp only [List.forall_mem_cons, List.mem_singleton, forall_eq]; assumption)
  k_with "subscriptTail" => (k_here; (with_reducible show wpAny _ _ (subscriptTail _ _ (Value.ref _) (Value.int _ _)) _ _ _); k_dflt (refine' Mine.item_dat ?F ?D ?M ?a ?b ?x ?_; (case F => k_asm); (case D => assumption); (case M => assumption); (case a => assumption); (case b => omega); (case x => assumption); k_whole))
  k_with "getAttr ref" => (k_here; k_dflt (refine' Mine.attr_dat ?F ?X ?D ?h1 ?h2 ?k4 ?k5 ?k6 ?k7 ?k8 ?k9 ?_; (case F => k_asm); (case X => k_asm); (case D => assumption); (case h1 => assumption); (case h2 => assumption); (case k4 => k_is); (case k5 => k_is); (case k6 => k_is); (case k7 => k_is); (case k8 => assumption); (case k9 => k_handed); k_whole))
  k_with "getMethod ref" => (k_here; k_dflt (refine' Mine.meth_dat ?F ?X ?D ?h1 ?h2 ?k4 ?k5 ?k6 ?k7 ?_; (case F => k_asm); (case X => k_asm); (case D => assumption); (case h1 => assumption); (case h2 => assumption); (case k4 => k_is); (case k5 => k_is); (case k6 => k_is); (case k7 => assumption); k_whole))
  k_with "compareOp NotIn int ref" => (k_here; k_dflt (refine' Mine.notin_dict ?N ?M ?d ?lo ?_; (case N => assumption); (case M => k_mem); (case d => assumption); (case lo => assumption)))
  k_with "call builtin:list.extend" => (k_here; k_extra "EXT"; k_dflt (refine' Mine.ext_ ?F ?N ?b ?U ?z ?_; (case F => k_asm); (case N => k_asm); (case b => k_mem); (case U => (intro c; k_upd)); (case z => omega)); intro _ _ _ _; (try k_sweep))
  k_with "call type:list" => (k_here; k_extra "COPY"; (with_reducible show wpAny _ _ (call (Value.type _) [Value.ref _]) _ _ _); k_dflt (refine' Mine.copy_ ?F ?N ?M ?z ?_; (case F => k_asm); (case N => k_asm); (case M => k_mem); (case z => omega)); intro _ _ _ _ _ l1; (try (replace l1 := allLt_of l1; dsimp only [AllLt] at l1; revert l1; intro _)); (try k_sweep))
  k_with "truthy ref" => (k_here; k_extra "TRU"; (with_reducible show wpAny _ _ (truthy (Value.ref _)) _ _ _); k_dflt (refine' Mine.truthy_ ?N ?M ?z ?_; (case N => k_asm); (case M => k_mem); (case z => first | assumption | omega)); intro _)
  k_with "USE1" => ((case F => assumption); (case N => assumption); (case U => k_updF); (case C => exact Mine.at1 (by assumption) (by assumption) (by assumption) (by assumption) (by k_mem)); (case hd => ((try dsimp only [Mine.A0, Around.deeper, Around.in1]); omega)); (case hu => ((try dsimp only [Mine.A0, Around.deeper, Around.in1]); omega)))
  k_with "setItem ref int" => (k_here; (with_reducible show wpAny _ _ (setItem (Value.ref _) (Value.int _ _) _) _ _ _); k_dflt (refine' Mine.set_ ?F ?N ?a ?b ?c ?U ?_; (case F => k_asm); (case N => k_asm); (case U => k_upd); (case a => omega); (case b => omega); (case c => omega)); intro _ _ _; (try k_sweep))
  k_with "exec Assign cons ListComp" => k_extra "COMP"
  k_with "eval ListComp" => k_extra "COMPE"
  k_with "CompSrc" => k_extra "CSRC"
  k_with "binaryOp Mult ref int" => k_extra "MUL"
  k_with "TAILS" => (intro p hp; repeat (first | exact hp | refine List.Mem.tail _ ?_))
  k_with "getMethod ref" => (k_here; k_dflt (refine' Mine.meth_news ?F ?X ?N ?h1 ?h2 ?S ?k4 ?k5 ?k6 ?k7 ?_; (case F => k_asm); (case X => k_asm); (case N => k_asm); (case h1 => assumption); (case h2 => assumption); (case S => walk_at "TAILS"); (case k4 => k_is); (case k5 => k_is); (case k6 => k_is); (case k7 => assumption); k_whole))
  k_with "GOFF" => (refine Mine.off3 ?_; repeat' (first | exact List.forall_mem_nil _ | assumption | refine List.forall_mem_cons.mpr ⟨⟨by (dsimp only; omega), by (dsimp only; omega), by (dsimp only; omega)⟩, ?_⟩))
  k_with "GCUP" => (unfold Mine.Stop; rintro v' h' tk' o' tl F' N' ho ⟨e1, vs1, n1', ts1, c, u, hm1, hi1, hl4, e2, hc0, hc1⟩; cases hm1; cases e1; cases e2; (try simp only [List.nil_append] at N'); clear ho)
  k_with "eval Constant int" => (k_here; (k_dflt (refine' Mine.const_int ?_)); intro _ _)
  k_with "eval Constant str" => (k_here; (k_dflt (refine' Mine.const_str ?_)); intro _ _)
  k_with "newTuple" => (k_here; k_dflt (refine' kup_newTuple ?F ?N ?_ ?z; (case F => k_asm); (case N => k_asm); (case z => exact Nat.le_of_ble_eq_true rfl)); intro _ _ _ _ l1; (try (replace l1 := allLt_of l1; dsimp only [AllLt] at l1; revert l1; intro _)); (try k_sweep))
  k_with "newList" => (k_here; k_dflt (refine' newList_K ?k1 ?k2 ?_; (case k1 => k_asm); (case k2 => k_asm); k_whole); intro _ _ _ _ l1; (try (replace l1 := allLt_of l1; dsimp only [AllLt] at l1; revert l1; intro _)); (try k_sweep))
  refine' enter (binds := [(Str.ofString "e", v)]) ?kC ?k6 ?kb ?ks ?k7 ?k8 ?k9 ?kB ?_ ?c2 ?c3 ?c4 ?c5; walk_at "ENTER2"
  rename_i g' L' h' hg' hz' hl' eL' X' T' F' N'
  have D' : Has g' dat := fun q hq => hg' _ _ (D q hq) (by simp)
  k_with "WHILE" => (refine stop_at ?_)
  k_with "APP" => skip
  k_steps
  unfold Stop
  rename_i F' N'
  refine' While_inv2 (SubJ dat e) F' N' ?hj ?turn
  case hj => exact ⟨_, _, [], [v], 0, 0, [], [e], rfl, rfl, by omega, rfl, .nil, .cons he .nil, by simp, rfl, by simp⟩
  case turn =>
    clear F' N'
    rintro n m₁ news₁ h₁ tk₁ F₁ N₁ ⟨f, k, vf, vk, nf, nk, ef, ek, hf, hs, hfk, rfl, hef, hek, hsub, hn, hlen⟩
    rw [loc2 hf hs] at F₁
    have hlf := hef.length
    have hlk := hek.length
    have hls := len_le_sum ek
    have hbf : vf.length ≤ 16777216 := by omega
    have hbk : vk.length ≤ 16777216 := by omega
    rcases hek.snoc_inv with ⟨rfl, rfl⟩ | ⟨vk', x, ek', ex, rfl, rfl, hek', hx⟩
    · k_steps
      walk_at "BACK"
      exact leave (mods' := []) (tl := [(f, listOf vf.toArray nf)]) hg' (by assumption) (News.sub N₁ (by simp)) rfl (by simp) ⟨f, vf, nf, rfl, rfl, by have : ef = e.subs := (by simpa using hsub); rw [← this]; exact hef⟩
    · k_with "CALL" => (refine' use0 ?F ?N (children_spec (dat := dat) (e := ex) (v := x) ?C ?D hx ?hd ?hu) ?_; (case D => exact has_now (by assumption) D'); walk_at "USE0"; refine stop_at ?_)
      k_steps
      · rename_i h9 _; exact absurd (by assumption) (by simp : ¬ (vk' ++ [x]).isEmpty = true)
      unfold Stop
      rintro v' h' tk' tl F' N' ho ⟨b, vs, rfl, hb, hvs⟩
      have hlv : vs.length ≤ 3 := by rw [hvs.length]; cases ex <;> simp [Ex.kids]
      have hbh : h'.get? b = some (tup vs) := hb.elim (fun e => (N' (b, tup vs) (by rw [e]; simp)).1) fun e => F'.keep _ _ (D' _ e.2)
      have htk : ∀ p ∈ tl, p.1 ≠ k := fun p hp => Ne.symm (ho _ (.head _) p hp)
      have htf : ∀ p ∈ tl, p.1 ≠ f := fun p hp => Ne.symm (ho _ (.tail _ (.head _)) p hp)
      replace N' := News.sub (news' := (k, listOf vk'.toArray (nk + 1)) :: (f, listOf (vf ++ [x]).toArray (nf + 1)) :: tl) N' (by simp; grind)
      k_with "REV" => (refine' rev_tup (by assumption) (by assumption) hbh (by omega) ?_; intro R h' tk' F' N' hlt hbR)
      k_with "ITER" => (refine stop_at ?_)
      k_steps
      unfold Stop
      rename_i R h' tk' hlt hbR F' N'
      have hIk : @Ne Nat k R := Nat.ne_of_lt (hlt (k, _) (.head _))
      have hIf : @Ne Nat f R := Nat.ne_of_lt (hlt (f, _) (.tail _ (.head _)))
      have hIt : ∀ p ∈ tl, p.1 ≠ R := fun p hp => Nat.ne_of_lt (hlt p (.tail _ (.tail _ hp)))
      have hbase : g'.get? b = some (tup vs) ∨ (b, tup vs) ∈ tl := hb.elim (fun e => .inr (by rw [e]; exact .head _)) fun e => .inl (D' _ e.2)
      have hbh : h'.get? b = some (tup vs) := hbase.elim (fun e => F'.keep _ _ e) fun e => (N' (b, tup vs) (.tail _ (.tail _ (.tail _ e)))).1
      have hbL : L' ≠ b := hbase.elim (fun e q => absurd F'.above (Nat.not_le.mpr (q ▸ Heap.lt_size e))) fun e => Ne.symm (N' (b, tup vs) (.tail _ (.tail _ (.tail _ e)))).2.1
      refine' iter_rv (fun i m nx => ∃ q, m (Str.ofString "found") = some (.ref f) ∧ m (Str.ofString "stack") = some (.ref k) ∧ nx = (k, listOf (vk' ++ vs.reverse.take i).toArray q) :: (f, listOf (vf ++ [x]).toArray (nf + 1)) :: tl)
        rfl hbh hbL (by omega) (Nat.ne_of_lt hbR) F' N' ?hn ?hk ⟨nk + 1, rfl, rfl, by simp⟩ ?turn ?done
      case hn => 
        intro q hq
        rcases List.mem_cons.mp hq with rfl | hq
        · exact hIk
        rcases List.mem_cons.mp hq with rfl | hq
        · exact hIf
        exact hIt q hq
      case hk => exact hbase.imp id fun e i m nx ⟨q, _, _, e2⟩ => e2 ▸ .tail _ (.tail _ e)
      case turn =>
        clear F' N'
        rintro i z m₂ nx it h tk hz' ⟨q, hf2, hs2, rfl⟩ hI F' N'
        rw [loc2 hf2 hs2] at F'
        have hbk2 : (vk' ++ vs.reverse.take i).length ≤ 16777216 := by
          have h1 : (vk' ++ [x]).length ≤ 1000 := by rw [hlk]; omega
          simp at h1 ⊢; omega
        k_steps
        have e9 : vk' ++ vs.reverse.take (i + 1) = (vk' ++ vs.reverse.take i) ++ [z] := by rw [List.take_add_one, hz']; simp
        refine ⟨_, _, _, (k, listOf (vk' ++ vs.reverse.take (i + 1)).toArray (q + 1)) :: (f, listOf (vf ++ [x]).toArray (nf + 1)) :: tl, rfl, by assumption, by rw [e9]; assumption, ?_, q + 1, rfl, rfl, rfl⟩
        intro q hq
        rcases List.mem_cons.mp hq with rfl | hq
        · exact hIk
        rcases List.mem_cons.mp hq with rfl | hq
        · exact hIf
        exact hIt q hq
      case done =>
        clear F' N'
        rintro m₂ nx h tk ⟨q, hf2, hs2, rfl⟩ F' N'
        dsimp only
        k_steps
        have e1 : vs.reverse.take vs.length = vs.reverse := by rw [← List.length_reverse]; exact List.take_length
        rw [e1] at N'
        have hk9 := ex.size_kids
        have hs9 := ex.subs_kids
        refine ⟨_, _, _, [(k, listOf (vk' ++ vs.reverse).toArray q), (f, listOf (vf ++ [x]).toArray (nf + 1))], ((ek' ++ ex.kids.reverse).map Ex.size).sum, rfl, by assumption, News.sub N' (by simp), ?_,
          f, k, vf ++ [x], vk' ++ vs.reverse, nf + 1, q, ef ++ [ex], ek' ++ ex.kids.reverse, hf2, hs2, hfk, rfl, hef.append (.cons hx .nil), hek'.append hvs.reverse, ?_, rfl, ?_⟩
        · rw [hn]; simp; omega
        · rw [← hsub]; simp [hs9]
        · simp at hn hlen ⊢; omega
end Mine
namespace Mine
theorem stored_keys (kvs : List (Int × Value)) (k : Int) (v : Value) (x : Int) : x ∈ (stored kvs k v).map (·.1) ↔ x = k ∨ x ∈ kvs.map (·.1) := by
  unfold stored
  split
  · rename_i h
    have e : (kvs.map (fun kv => if kv.1 = k then (kv.1, v) else kv)).map (·.1) = kvs.map (·.1) := by
      rw [List.map_map]
      refine List.map_congr_left fun a _ => ?_
      simp only [Function.comp]
      split <;> rfl
    rw [e]
    refine ⟨.inr, fun h' => h'.elim (fun e => ?_) id⟩
    obtain ⟨q, hq, e2⟩ := List.any_eq_true.mp h
    rw [e, ← of_decide_eq_true e2]
    exact List.mem_map_of_mem hq
  · simp [or_comm]
def IntPost (K : Int → Prop) (b : Nat) : List (Addr × Obj) → List (Addr × Obj) → Value → Prop := fun _ tl r => ∃ a vs n ks, r = .ref a ∧ tl = [(a, listOf vs.toArray n)] ∧ IntsAre vs ks ∧ (∀ k, k ∈ ks ↔ K k) ∧ ks.length ≤ b

def NumJ (prog : Program) (w : World) (x : Str) (subs : List Ex) (K : Ex → Int → Prop) (b : Addr) (lo : Obj) (i : Nat) (m : Str → Option Value) (nx : List (Addr × Obj)) : Prop :=
  ∃ d o kvs D, m x = some (.ref d) ∧ nx = [(b, lo), (d, o)] ∧ (d == sysModules) = false ∧ @Ne Nat d b ∧ o.IsDictOf (intKind prog w) kvs ∧ PyProof.V.FlatPairs PyData.int kvs D ∧ kvs.length ≤ i ∧ D.length ≤ i ∧ ∀ k, k ∈ kvs.map (·.1) ↔ ∃ e ∈ subs.take i, K e k
theorem num_skip {subs : List Ex} {K : Ex → Int → Prop} {l : List Int} {i : Nat} {e : Ex} (he : subs[i]? = some e) (hk : ∀ k, ¬ K e k) (h : ∀ k, k ∈ l ↔ ∃ e ∈ subs.take i, K e k) : ∀ k, k ∈ l ↔ ∃ e ∈ subs.take (i + 1), K e k := by
  intro k
  rw [h k, List.take_add_one, he]
  constructor
  · rintro ⟨e', h1, h2⟩; exact ⟨e', by simp [h1], h2⟩
  · rintro ⟨e', h1, h2⟩
    rcases List.mem_append.mp h1 with h1 | h1
    · exact ⟨e', h1, h2⟩
    · simp at h1; subst h1; exact absurd h2 (hk k)
theorem num_take {subs : List Ex} {K : Ex → Int → Prop} {l l' : List Int} {i : Nat} {e : Ex} {n : Int} (he : subs[i]? = some e) (hk : ∀ k, K e k ↔ k = n) (hl : ∀ k, k ∈ l' ↔ k = n ∨ k ∈ l) (h : ∀ k, k ∈ l ↔ ∃ e ∈ subs.take i, K e k) : ∀ k, k ∈ l' ↔ ∃ e ∈ subs.take (i + 1), K e k := by
  intro k
  rw [hl k, h k, List.take_add_one, he]
  constructor
  · rintro (h1 | ⟨e', h1, h2⟩)
    · exact ⟨e, by simp, (hk k).mpr h1⟩
    · exact ⟨e', by simp [h1], h2⟩
  · rintro ⟨e', h1, h2⟩
    rcases List.mem_append.mp h1 with h1 | h1
    · exact .inr ⟨e', h1, h2⟩
    · simp at h1; subst h1; exact .inl ((hk k).mp h2)

theorem two_ne {a b I : Addr} {x y : Obj} (h : a ≠ I) (k : b ≠ I) : ∀ q ∈ [(a, x), (b, y)], q.1 ≠ I := fun q hq => by
  rcases List.mem_cons.mp hq with rfl | hq
  · exact h
  · rw [List.mem_singleton.mp hq]; exact k
theorem num_all {subs : List Ex} {n : Nat} {l l' : List Int} {K : Ex → Int → Prop} (hn : n = subs.length) (hp : l'.Perm l) (h : ∀ k, k ∈ l ↔ ∃ e ∈ subs.take n, K e k) : ∀ k, k ∈ l' ↔ ∃ e ∈ subs, K e k := by
  intro k
  rw [hp.mem_iff, h k, hn, List.take_length]

theorem calls_spec {w : World} {mg mb : Str → Option Value} {mean : ExcName → Option Value} {s : Shared} {h₀ : Heap} {dp un : Nat} {fr : Option (List Env)} {gd : Option (List Code)} {dat : List (Addr × Obj)} {v : Value} {e : Ex}
    (C : At w mg mb mean h₀ s []) (D : Has s.heap dat) (he : ExL dat v e) (hz : e.size ≤ 60) (hd : dp < 480) (hu : un < 4800) :
    codeAny (model PySem.Challenge.pw_on0119_01 w) (A0 dp un fr gd) (.call (.ref 49) ⟨[v], []⟩)
      (Post s [] (IntPost (fun k => Ex.call k ∈ e.subs) e.size)) s := by
  k_with_none
  k_with "BACK" => ((try dsimp only [Mine.TurnEnd, PyProof.Rows.WhileStep2]); refine' Mine.back ?B ?_; (case B => assumption); (try dsimp only))
  k_with "ENTER2" => ((case kC => assumption); (case k6 => k_is); (case kb => (conv => lhs; whnf)); (case ks => (conv => lhs; whnf)); (case k7 => k_is); (case k8 => (simp only [recursionLimit]; omega)); (case k9 => exact BindsTo.of_eq rfl); (case c5 => decide); (case kB => exact locs rfl); (case c2 => exact rfl); (case c3 => exact rfl); (case c4 => exact rfl); k_whole; intro _ _ _ _ _ _ _ _ _ _ _ _ _ _ _ _ _; (try dsimp only))
  k_with "subscriptTail" => (k_here; (with_reducible show wpAny _ _ (subscriptTail _ _ (Value.ref _) (Value.int _ _)) _ _ _); k_dflt (refine' item_tupleT (Mine.has_tup ?F ?D ?M) ?a ?b ?c ?d ?_; (case F => k_asm); (case D => assumption); (case M => assumption); (case a => decide); (case b => decide); (case c => first | rfl | exact Mine.seq_zero); (case d => rfl); k_whole))
  k_with "exec While Name cons nil" => k_extra "WHILE"
  k_with "pyIter ref" => ((with_reducible show wpAny _ _ (pyIter (Value.ref _)) (fun it s₂ => LoopAtV _ _ _ _ _ _ _ _ _ it s₂) _ _); k_extra "ITER")
  k_with "call ref" => k_extra "CALL"
  k_with "call type:reversed" => k_extra "REV"
  k_with "call builtin:list.pop" => (k_here; k_dflt (first | ((with_reducible show wpAny _ _ (call (Value.builtin _) [Value.ref _]) _ _ _); refine' Mine.popLast ?F ?N ?U ?z ?_; (case F => k_asm); (case N => k_asm); (case U => k_upd); (case z => (rw [PySem.sizeLine_eq]; first | assumption | omega | exact Nat.le_of_ble_eq_true rfl))) | (refine' Mine.pop0 ?F ?N ?U ?z ?_; (case F => k_asm); (case N => k_asm); (case U => k_upd); (case z => (rw [PySem.sizeLine_eq]; first | assumption | omega | exact Nat.le_of_ble_eq_true rfl)))); intro _ _ _; (try k_sweep))
  k_with "call builtin:list.append" => (k_here; k_extra "APP"; k_dflt (refine' Mine.app_ ?F ?N ?U ?z ?_; (case F => k_asm); (case N => k_asm); (case U => k_upd); (case z => (rw [PySem.sizeLine_eq]; first | assumption | omega | exact Nat.le_of_ble_eq_true rfl))); intro _ _ _; (try k_sweep))
  k_with "USE0" => ((case F => assumption); (case N => assumption); (case C => exact Mine.at0 (by assumption) (by assumption) (by assumption)); (case hd => ((try dsimp only [Mine.A0, Around.deeper, Around.in1]); omega)); (case hu => ((try dsimp only [Mine.A0, Around.deeper, Around.in1]); omega)))
  k_with "setItem ref int" => (k_here; k_dflt (refine' setItem_K PyProof.V.same_int (intKind_is _ _ _ _) ?v ?F ?N ?U ?d ?f ?_ ?z; (case F => k_asm); (case N => k_asm); (case U => k_updF); (case d => assumption); (case f => assumption); (case z => (rw [PySem.sizeLine_eq]; first | omega | exact Nat.le_of_ble_eq_true rfl)); (case v => exact PyProof.V.Flat.bool _)); intro _ _ _ _ _ _; (try k_sweep))
  k_with "call builtin:sorted" => (k_here; k_dflt (refine' Mine.sorted_dict ?hh ?F ?N ?M ?d ?lo ?z ?_; (case hh => exact rfl); (case F => assumption); (case N => assumption); (case M => k_mem); (case d => assumption); (case lo => assumption); (case z => first | omega | exact Nat.le_of_ble_eq_true rfl)); intro _ _ _ _ _ _ _ _ _ _ _ _)
  k_with "exec For" => (k_here; (with_reducible show wpAny _ _ (exec (Stmt.For (Expr.Name _ _) _ _ [] _) _) _ _ _); (with_reducible rename Fr _ _ _ _ => kF); (with_unfolding_all refine' For_invVF kF ?k1 ?k2 ?_; (case k1 => exact rfl); (case k2 => exact rfl); k_whole))
  k_with "call type:list" => (k_here; (with_reducible show wpAny _ _ (call (Value.type _) [Value.ref _]) _ _ _); k_dflt (refine' list_copyKT ?F ?N (Mine.has_tup ?G ?D ?M) ?_ ?z; (case F => k_asm); (case N => k_asm); (case G => k_asm); (case D => assumption); (case M => assumption); (case z => exact Nat.le_of_ble_eq_true rfl)); intro _ _ _ _ _ l1; (try (replace l1 := allLt_of l1; dsimp only [AllLt] at l1; revert l1; intro _)); (try k_sweep))
  k_with "ALLQ" => (simp only [List.forall_mem_cons, List.mem_singleton, forall_eq]; assumption)
  k_with "subscriptTail" => (k_here; (with_reducible show wpAny _ _ (subscriptTail _ _ (Value.ref _) (Value.int _ _)) _ _ _); k_dflt (refine' Mine.item_dat ?F ?D ?M ?a ?b ?x ?_; (case F => k_asm); (case D => assumption); (case M => assumption); (case a => assumption); (case b => omega); (case x => assumption); k_whole))
  k_with "getAttr ref" => (k_here; k_dflt (refine' Mine.attr_dat ?F ?X ?D ?h1 ?h2 ?k4 ?k5 ?k6 ?k7 ?k8 ?k9 ?_; (case F => k_asm); (case X => k_asm); (case D => assumption); (case h1 => assumption); (case h2 => assumption); (case k4 => k_is); (case k5 => k_is); (case k6 => k_is); (case k7 => k_is); (case k8 => assumption); (case k9 => k_handed); k_whole))
  k_with "getMethod ref" => (k_here; k_dflt (refine' Mine.meth_dat ?F ?X ?D ?h1 ?h2 ?k4 ?k5 ?k6 ?k7 ?_; (case F => k_asm); (case X => k_asm); (case D => assumption); (case h1 => assumption); (case h2 => assumption); (case k4 => k_is); (case k5 => k_is); (case k6 => k_is); (case k7 => assumption); k_whole))
  k_with "compareOp NotIn int ref" => (k_here; k_dflt (refine' Mine.notin_dict ?N ?M ?d ?lo ?_; (case N => assumption); (case M => k_mem); (case d => assumption); (case lo => assumption)))
  k_with "call builtin:list.extend" => (k_here; k_extra "EXT"; k_dflt (refine' Mine.ext_ ?F ?N ?b ?U ?z ?_; (case F => k_asm); (case N => k_asm); (case b => k_mem); (case U => (intro c; k_upd)); (case z => omega)); intro _ _ _ _; (try k_sweep))
  k_with "call type:list" => (k_here; k_extra "COPY"; (with_reducible show wpAny _ _ (call (Value.type _) [Value.ref _]) _ _ _); k_dflt (refine' Mine.copy_ ?F ?N ?M ?z ?_; (case F => k_asm); (case N => k_asm); (case M => k_mem); (case z => omega)); intro _ _ _ _ _ l1; (try (replace l1 := allLt_of l1; dsimp only [AllLt] at l1; revert l1; intro _)); (try k_sweep))
  k_with "truthy ref" => (k_here; k_extra "TRU"; (with_reducible show wpAny _ _ (truthy (Value.ref _)) _ _ _); k_dflt (refine' Mine.truthy_ ?N ?M ?z ?_; (case N => k_asm); (case M => k_mem); (case z => first | assumption | omega)); intro _)
  k_with "USE1" => ((case F => assumption); (case N => assumption); (case U => k_updF); (case C => exact Mine.at1 (by assumption) (by assumption) (by assumption) (by assumption) (by k_mem)); (case hd => ((try dsimp only [Mine.A0, Around.deeper, Around.in1]); omega)); (case hu => ((try dsimp only [Mine.A0, Around.deeper, Around.in1]); omega)))
  k_with "setItem ref int" => (k_here; (with_reducible show wpAny _ _ (setItem (Value.ref _) (Value.int _ _) _) _ _ _); k_dflt (refine' Mine.set_ ?F ?N ?a ?b ?c ?U ?_; (case F => k_asm); (case N => k_asm); (case U => k_upd); (case a => omega); (case b => omega); (case c => omega)); intro _ _ _; (try k_sweep))
  k_with "exec Assign cons ListComp" => k_extra "COMP"
  k_with "eval ListComp" => k_extra "COMPE"
  k_with "CompSrc" => k_extra "CSRC"
  k_with "binaryOp Mult ref int" => k_extra "MUL"
  k_with "TAILS" => (intro p hp; repeat (first | exact hp | refine List.Mem.tail _ ?_))
  k_with "getMethod ref" => (k_here; k_dflt (refine' Mine.meth_news ?F ?X ?N ?h1 ?h2 ?S ?k4 ?k5 ?k6 ?k7 ?_; (case F => k_asm); (case X => k_asm); (case N => k_asm); (case h1 => assumption); (case h2 => assumption); (case S => walk_at "TAILS"); (case k4 => k_is); (case k5 => k_is); (case k6 => k_is); (case k7 => assumption); k_whole))
  k_with "GOFF" => (refine Mine.off3 ?_; repeat' (first | exact List.forall_mem_nil _ | assumption | refine List.forall_mem_cons.mpr ⟨⟨by (dsimp only; omega), by (dsimp only; omega), by (dsimp only; omega)⟩, ?_⟩))
  k_with "GCUP" => (unfold Mine.Stop; rintro v' h' tk' o' tl F' N' ho ⟨e1, vs1, n1', ts1, c, u, hm1, hi1, hl4, e2, hc0, hc1⟩; cases hm1; cases e1; cases e2; (try simp only [List.nil_append] at N'); clear ho)
  k_with "eval Constant int" => (k_here; (k_dflt (refine' Mine.const_int ?_)); intro _ _)
  k_with "eval Constant str" => (k_here; (k_dflt (refine' Mine.const_str ?_)); intro _ _)
  k_with "newTuple" => (k_here; k_dflt (refine' kup_newTuple ?F ?N ?_ ?z; (case F => k_asm); (case N => k_asm); (case z => exact Nat.le_of_ble_eq_true rfl)); intro _ _ _ _ l1; (try (replace l1 := allLt_of l1; dsimp only [AllLt] at l1; revert l1; intro _)); (try k_sweep))
  k_with "newList" => (k_here; k_dflt (refine' newList_K ?k1 ?k2 ?_; (case k1 => k_asm); (case k2 => k_asm); k_whole); intro _ _ _ _ l1; (try (replace l1 := allLt_of l1; dsimp only [AllLt] at l1; revert l1; intro _)); (try k_sweep))
  refine' enter (binds := [(Str.ofString "e", v)]) ?kC ?k6 ?kb ?ks ?k7 ?k8 ?k9 ?kB ?_ ?c2 ?c3 ?c4 ?c5; walk_at "ENTER2"
  rename_i g' L' h' hg' hz' hl' eL' X' T' F' N'
  have D' : Has g' dat := fun q hq => hg' _ _ (D q hq) (by simp)
  k_with "ITER" => (refine stop_at ?_)
  k_with "CALL" => (refine' use0 ?F ?N (subs_spec (dat := dat) (e := e) (v := v) ?C ?D he (by omega) ?hd ?hu) ?_; (case D => exact has_now (by assumption) D'); walk_at "USE0"; refine stop_at ?_)
  k_steps
  unfold Stop
  rintro v' h' tk' tl F' N' ho ⟨b, vs, n, rfl, rfl, hvs⟩
  simp only [List.cons_append, List.nil_append] at N'
  k_steps
  unfold Stop
  refine' iter_list (NumJ PySem.Challenge.pw_on0119_01 w (Str.ofString "numbers") e.subs (fun e k => e = Ex.call k) b (listOf vs.toArray n)) rfl (N' _ (.head _)).1 (Ne.symm (N' _ (.head _)).2.1) F' N' (.inr ?hk)
    ⟨_, _, [], [], rfl, rfl, by assumption, ?ne, by assumption, by assumption, Nat.le_refl _, Nat.le_refl _, by simp⟩ ?turn ?done
  case ne => exact ho _ (.head _) _ (.head _)
  case hk => rintro i m nx ⟨d, o, kvs, Dd, -, rfl, -⟩; exact .head _
  case turn =>
    clear F' N'
    rintro I i z m₁ nx it h tk hv ⟨d, o, kvs, Dd, hnum, rfl, lo, hdb, hdo, hfl, hlen, hlen2, hks⟩ hI F N
    rw [loc1 hnum] at F
    have hdI : @Ne Nat d I := hI _ (.tail _ (.head _))
    obtain ⟨ex, hex, hx⟩ := hvs.get hv
    have hil : i < e.subs.length := (List.getElem?_eq_some_iff.mp hex).1
    rw [Ex.len_subs] at hil
    cases hx
    all_goals k_steps
    all_goals first
      | exact ⟨_, _, _, [(b, _), (d, o)], rfl, by assumption, by assumption, two_ne (hI _ (.head _)) hdI, d, o, kvs, Dd, rfl, rfl, lo, hdb, hdo, hfl, Nat.le_succ_of_le hlen, Nat.le_succ_of_le hlen2, num_skip hex (by simp) hks⟩
      | (rename_i h' o' F' N' hd' hf'
         have hl1 : ∀ k, (stored kvs k (.bool true)).length ≤ i + 1 := fun k => Nat.le_trans (stored_length_le kvs k (.bool true)) (Nat.succ_le_succ hlen)
         exact ⟨_, _, _, [(b, _), (d, o')], rfl, by assumption, by assumption, two_ne (hI _ (.head _)) hdI, d, o', _, _, rfl, rfl, lo, hdb, hd', hf', hl1 _, hf'.length ▸ hl1 _, num_take hex (by simp [eq_comm]) (fun k => stored_keys _ _ _ k) hks⟩)
  case done =>
    clear F' N'
    rintro m₁ nx h tk ⟨d, o, kvs, Dd, hnum, rfl, lo, hdb, hdo, hfl, hlen, hlen2, hks⟩ F N
    rw [loc1 hnum] at F
    have hlv := hvs.length
    have hlv2 := hlv
    rw [Ex.len_subs] at hlv
    dsimp only
    k_steps
    rename_i B' vs' ns' c' h' tk' F' N' lt' hi' hp' hs'
    walk_at "BACK"
    refine leave (mods' := []) (tl := [(B', listOf vs'.toArray c')]) hg' F' (News.sub N' (by simp)) rfl (by simp) ⟨B', vs', c', ns', rfl, rfl, hi', fun k => (num_all hlv2 hp' hks k).trans (by simp), ?_⟩
    have := hp'.length_eq
    rw [List.length_map] at this
    omega
end Mine
namespace Mine
theorem reads_spec {w : World} {mg mb : Str → Option Value} {mean : ExcName → Option Value} {s : Shared} {h₀ : Heap} {dp un : Nat} {fr : Option (List Env)} {gd : Option (List Code)} {dat : List (Addr × Obj)} {v : Value} {e : Ex}
    (C : At w mg mb mean h₀ s []) (D : Has s.heap dat) (he : ExL dat v e) (hz : e.size ≤ 60) (hd : dp < 480) (hu : un < 4800) :
    codeAny (model PySem.Challenge.pw_on0119_01 w) (A0 dp un fr gd) (.call (.ref 42) ⟨[v], []⟩)
      (Post s [] (IntPost (fun k => k = 0 ∧ (Ex.sig ∈ e.subs ∨ Ex.word ∈ e.subs)) e.size)) s := by
  k_with_none
  k_with "BACK" => ((try dsimp only [Mine.TurnEnd, PyProof.Rows.WhileStep2]); refine' Mine.back ?B ?_; (case B => assumption); (try dsimp only))
  k_with "ENTER2" => ((case kC => assumption); (case k6 => k_is); (case kb => (conv => lhs; whnf)); (case ks => (conv => lhs; whnf)); (case k7 => k_is); (case k8 => (simp only [recursionLimit]; omega)); (case k9 => exact BindsTo.of_eq rfl); (case c5 => decide); (case kB => exact locs rfl); (case c2 => exact rfl); (case c3 => exact rfl); (case c4 => exact rfl); k_whole; intro _ _ _ _ _ _ _ _ _ _ _ _ _ _ _ _ _; (try dsimp only))
  k_with "subscriptTail" => (k_here; (with_reducible show wpAny _ _ (subscriptTail _ _ (Value.ref _) (Value.int _ _)) _ _ _); k_dflt (refine' item_tupleT (Mine.has_tup ?F ?D ?M) ?a ?b ?c ?d ?_; (case F => k_asm); (case D => assumption); (case M => assumption); (case a => decide); (case b => decide); (case c => first | rfl | exact Mine.seq_zero); (case d => rfl); k_whole))
  k_with "exec While Name cons nil" => k_extra "WHILE"
  k_with "pyIter ref" => ((with_reducible show wpAny _ _ (pyIter (Value.ref _)) (fun it s₂ => LoopAtV _ _ _ _ _ _ _ _ _ it s₂) _ _); k_extra "ITER")
  k_with "call ref" => k_extra "CALL"
  k_with "call type:reversed" => k_extra "REV"
  k_with "call builtin:list.pop" => (k_here; k_dflt (first | ((with_reducible show wpAny _ _ (call (Value.builtin _) [Value.ref _]) _ _ _); refine' Mine.popLast ?F ?N ?U ?z ?_; (case F => k_asm); (case N => k_asm); (case U => k_upd); (case z => (rw [PySem.sizeLine_eq]; first | assumption | omega | exact Nat.le_of_ble_eq_true rfl))) | (refine' Mine.pop0 ?F ?N ?U ?z ?_; (case F => k_asm); (case N => k_asm); (case U => k_upd); (case z => (rw [PySem.sizeLine_eq]; first | assumption | omega | exact Nat.le_of_ble_eq_true rfl)))); intro _ _ _; (try k_sweep))
  k_with "call builtin:list.append" => (k_here; k_extra "APP"; k_dflt (refine' Mine.app_ ?F ?N ?U ?z ?_; (case F => k_asm); (case N => k_asm); (case U => k_upd); (case z => (rw [PySem.sizeLine_eq]; first | assumption | omega | exact Nat.le_of_ble_eq_true rfl))); intro _ _ _; (try k_sweep))
  k_with "USE0" => ((case F => assumption); (case N => assumption); (case C => exact Mine.at0 (by assumption) (by assumption) (by assumption)); (case hd => ((try dsimp only [Mine.A0, Around.deeper, Around.in1]); omega)); (case hu => ((try dsimp only [Mine.A0, Around.deeper, Around.in1]); omega)))
  k_with "setItem ref int" => (k_here; k_dflt (refine' setItem_K PyProof.V.same_int (intKind_is _ _ _ _) ?v ?F ?N ?U ?d ?f ?_ ?z; (case F => k_asm); (case N => k_asm); (case U => k_updF); (case d => assumption); (case f => assumption); (case z => (rw [PySem.sizeLine_eq]; first | omega | exact Nat.le_of_ble_eq_true rfl)); (case v => exact PyProof.V.Flat.bool _)); intro _ _ _ _ _ _; (try k_sweep))
  k_with "call builtin:sorted" => (k_here; k_dflt (refine' Mine.sorted_dict ?hh ?F ?N ?M ?d ?lo ?z ?_; (case hh => exact rfl); (case F => assumption); (case N => assumption); (case M => k_mem); (case d => assumption); (case lo => assumption); (case z => first | omega | exact Nat.le_of_ble_eq_true rfl)); intro _ _ _ _ _ _ _ _ _ _ _ _)
  k_with "exec For" => (k_here; (with_reducible show wpAny _ _ (exec (Stmt.For (Expr.Name _ _) _ _ [] _) _) _ _ _); (with_reducible rename Fr _ _ _ _ => kF); (with_unfolding_all refine' For_invVF kF ?k1 ?k2 ?_; (case k1 => exact rfl); (case k2 => exact rfl); k_whole))
  k_with "call type:list" => (k_here; (with_reducible show wpAny _ _ (call (Value.type _) [Value.ref _]) _ _ _); k_dflt (refine' list_copyKT ?F ?N (Mine.has_tup ?G ?D ?M) ?_ ?z; (case F => k_asm); (case N => k_asm); (case G => k_asm); (case D => assumption); (case M => assumption); (case z => exact Nat.le_of_ble_eq_true rfl)); intro _ _ _ _ _ l1; (try (replace l1 := allLt_of l1; dsimp only [AllLt] at l1; revert l1; intro _)); (try k_sweep))
  k_with "ALLQ" => (simp only [List.forall_mem_cons, List.mem_singleton, forall_eq]; assumption)
  k_with "subscriptTail" => (k_here; (with_reducible show wpAny _ _ (subscriptTail _ _ (Value.ref _) (Value.int _ _)) _ _ _); k_dflt (refine' Mine.item_dat ?F ?D ?M ?a ?b ?x ?_; (case F => k_asm); (case D => assumption); (case M => assumption); (case a => assumption); (case b => omega); (case x => assumption); k_whole))
  k_with "getAttr ref" => (k_here; k_dflt (refine' Mine.attr_dat ?F ?X ?D ?h1 ?h2 ?k4 ?k5 ?k6 ?k7 ?k8 ?k9 ?_; (case F => k_asm); (case X => k_asm); (case D => assumption); (case h1 => assumption); (case h2 => assumption); (case k4 => k_is); (case k5 => k_is); (case k6 => k_is); (case k7 => k_is); (case k8 => assumption); (case k9 => k_handed); k_whole))
  k_with "getMethod ref" => (k_here; k_dflt (refine' Mine.meth_dat ?F ?X ?D ?h1 ?h2 ?k4 ?k5 ?k6 ?k7 ?_; (case F => k_asm); (case X => k_asm); (case D => assumption); (case h1 => assumption); (case h2 => assumption); (case k4 => k_is); (case k5 => k_is); (case k6 => k_is); (case k7 => assumption); k_whole))
  k_with "compareOp NotIn int ref" => (k_here; k_dflt (refine' Mine.notin_dict ?N ?M ?d ?lo ?_; (case N => assumption); (case M => k_mem); (case d => assumption); (case lo => assumption)))
  k_with "call builtin:list.extend" => (k_here; k_extra "EXT"; k_dflt (refine' Mine.ext_ ?F ?N ?b ?U ?z ?_; (case F => k_asm); (case N => k_asm); (case b => k_mem); (case U => (intro c; k_upd)); (case z => omega)); intro _ _ _ _; (try k_sweep))
  k_with "call type:list" => (k_here; k_extra "COPY"; (with_reducible show wpAny _ _ (call (Value.type _) [Value.ref _]) _ _ _); k_dflt (refine' Mine.copy_ ?F ?N ?M ?z ?_; (case F => k_asm); (case N => k_asm); (case M => k_mem); (case z => omega)); intro _ _ _ _ _ l1; (try (replace l1 := allLt_of l1; dsimp only [AllLt] at l1; revert l1; intro _)); (try k_sweep))
  k_with "truthy ref" => (k_here; k_extra "TRU"; (with_reducible show wpAny _ _ (truthy (Value.ref _)) _ _ _); k_dflt (refine' Mine.truthy_ ?N ?M ?z ?_; (case N => k_asm); (case M => k_mem); (case z => first | assumption | omega)); intro _)
  k_with "USE1" => ((case F => assumption); (case N => assumption); (case U => k_updF); (case C => exact Mine.at1 (by assumption) (by assumption) (by assumption) (by assumption) (by k_mem)); (case hd => ((try dsimp only [Mine.A0, Around.deeper, Around.in1]); omega)); (case hu => ((try dsimp only [Mine.A0, Around.deeper, Around.in1]); omega)))
  k_with "setItem ref int" => (k_here; (with_reducible show wpAny _ _ (setItem (Value.ref _) (Value.int _ _) _) _ _ _); k_dflt (refine' Mine.set_ ?F ?N ?a ?b ?c ?U ?_; (case F => k_asm); (case N => k_asm); (case U => k_upd); (case a => omega); (case b => omega); (case c => omega)); intro _ _ _; (try k_sweep))
  k_with "exec Assign cons ListComp" => k_extra "COMP"
  k_with "eval ListComp" => k_extra "COMPE"
  k_with "CompSrc" => k_extra "CSRC"
  k_with "binaryOp Mult ref int" => k_extra "MUL"
  k_with "TAILS" => (intro p hp; repeat (first | exact hp | refine List.Mem.tail _ ?_))
  k_with "getMethod ref" => (k_here; k_dflt (refine' Mine.meth_news ?F ?X ?N ?h1 ?h2 ?S ?k4 ?k5 ?k6 ?k7 ?_; (case F => k_asm); (case X => k_asm); (case N => k_asm); (case h1 => assumption); (case h2 => assumption); (case S => walk_at "TAILS"); (case k4 => k_is); (case k5 => k_is); (case k6 => k_is); (case k7 => assumption); k_whole))
  k_with "GOFF" => (refine Mine.off3 ?_; repeat' (first | exact List.forall_mem_nil _ | assumption | refine List.forall_mem_cons.mpr ⟨⟨by (dsimp only; omega), by (dsimp only; omega), by (dsimp only; omega)⟩, ?_⟩))
  k_with "GCUP" => (unfold Mine.Stop; rintro v' h' tk' o' tl F' N' ho ⟨e1, vs1, n1', ts1, c, u, hm1, hi1, hl4, e2, hc0, hc1⟩; cases hm1; cases e1; cases e2; (try simp only [List.nil_append] at N'); clear ho)
  k_with "eval Constant int" => (k_here; (k_dflt (refine' Mine.const_int ?_)); intro _ _)
  k_with "eval Constant str" => (k_here; (k_dflt (refine' Mine.const_str ?_)); intro _ _)
  k_with "newTuple" => (k_here; k_dflt (refine' kup_newTuple ?F ?N ?_ ?z; (case F => k_asm); (case N => k_asm); (case z => exact Nat.le_of_ble_eq_true rfl)); intro _ _ _ _ l1; (try (replace l1 := allLt_of l1; dsimp only [AllLt] at l1; revert l1; intro _)); (try k_sweep))
  k_with "newList" => (k_here; k_dflt (refine' newList_K ?k1 ?k2 ?_; (case k1 => k_asm); (case k2 => k_asm); k_whole); intro _ _ _ _ l1; (try (replace l1 := allLt_of l1; dsimp only [AllLt] at l1; revert l1; intro _)); (try k_sweep))
  refine' enter (binds := [(Str.ofString "e", v)]) ?kC ?k6 ?kb ?ks ?k7 ?k8 ?k9 ?kB ?_ ?c2 ?c3 ?c4 ?c5; walk_at "ENTER2"
  rename_i g' L' h' hg' hz' hl' eL' X' T' F' N'
  have D' : Has g' dat := fun q hq => hg' _ _ (D q hq) (by simp)
  k_with "ITER" => (refine stop_at ?_)
  k_with "CALL" => (refine' use0 ?F ?N (subs_spec (dat := dat) (e := e) (v := v) ?C ?D he (by omega) ?hd ?hu) ?_; (case D => exact has_now (by assumption) D'); walk_at "USE0"; refine stop_at ?_)
  k_steps
  unfold Stop
  rintro v' h' tk' tl F' N' ho ⟨b, vs, n, rfl, rfl, hvs⟩
  simp only [List.cons_append, List.nil_append] at N'
  k_steps
  unfold Stop
  refine' iter_list (NumJ PySem.Challenge.pw_on0119_01 w (Str.ofString "keys") e.subs (fun e k => k = 0 ∧ (e = .sig ∨ e = .word)) b (listOf vs.toArray n)) rfl (N' _ (.head _)).1 (Ne.symm (N' _ (.head _)).2.1) F' N' (.inr ?hk)
    ⟨_, _, [], [], rfl, rfl, by assumption, ?ne, by assumption, by assumption, Nat.le_refl _, Nat.le_refl _, by simp⟩ ?turn ?done
  case ne => exact ho _ (.head _) _ (.head _)
  case hk => rintro i m nx ⟨d, o, kvs, Dd, -, rfl, -⟩; exact .head _
  case turn =>
    clear F' N'
    rintro I i z m₁ nx it h tk hv ⟨d, o, kvs, Dd, hnum, rfl, lo, hdb, hdo, hfl, hlen, hlen2, hks⟩ hI F N
    rw [loc1 hnum] at F
    have hdI : @Ne Nat d I := hI _ (.tail _ (.head _))
    obtain ⟨ex, hex, hx⟩ := hvs.get hv
    have hil : i < e.subs.length := (List.getElem?_eq_some_iff.mp hex).1
    rw [Ex.len_subs] at hil
    cases hx
    all_goals k_steps
    all_goals first
      | exact ⟨_, _, _, [(b, _), (d, o)], rfl, by assumption, by assumption, two_ne (hI _ (.head _)) hdI, d, o, kvs, Dd, rfl, rfl, lo, hdb, hdo, hfl, Nat.le_succ_of_le hlen, Nat.le_succ_of_le hlen2, num_skip hex (by simp) hks⟩
      | (rename_i h' o' F' N' hd' hf'
         have hl1 : ∀ k, (stored kvs k (.bool true)).length ≤ i + 1 := fun k => Nat.le_trans (stored_length_le kvs k (.bool true)) (Nat.succ_le_succ hlen)
         exact ⟨_, _, _, [(b, _), (d, o')], rfl, by assumption, by assumption, two_ne (hI _ (.head _)) hdI, d, o', _, _, rfl, rfl, lo, hdb, hd', hf', hl1 _, hf'.length ▸ hl1 _, num_take hex (by simp) (fun k => stored_keys _ _ _ k) hks⟩)
  case done =>
    clear F' N'
    rintro m₁ nx h tk ⟨d, o, kvs, Dd, hnum, rfl, lo, hdb, hdo, hfl, hlen, hlen2, hks⟩ F N
    rw [loc1 hnum] at F
    have hlv := hvs.length
    have hlv2 := hlv
    rw [Ex.len_subs] at hlv
    dsimp only
    k_steps
    rename_i B' vs' ns' c' h' tk' F' N' lt' hi' hp' hs'
    walk_at "BACK"
    refine leave (mods' := []) (tl := [(B', listOf vs'.toArray c')]) hg' F' (News.sub N' (by simp)) rfl (by simp) ⟨B', vs', c', ns', rfl, rfl, hi', fun k => (num_all hlv2 hp' hks k).trans (by constructor; (rintro ⟨e, he, rfl, rfl | rfl⟩ <;> simp [he]); (rintro ⟨rfl, h1 | h1⟩; exact ⟨_, h1, rfl, .inl rfl⟩; exact ⟨_, h1, rfl, .inr rfl⟩)), ?_⟩
    have := hp'.length_eq
    rw [List.length_map] at this
    omega
end Mine
namespace Mine
def ListPost (P : List Value → Prop) : List (Addr × Obj) → List (Addr × Obj) → Value → Prop := fun _ tl r => ∃ b vs n, r = .ref b ∧ tl = [(b, listOf vs.toArray n)] ∧ P vs
theorem list_end {s : Shared} {g h' : Heap} {L' b : Addr} {m' : Str → Option Value} {news : List (Addr × Obj)} {P : List Value → Prop} {vs : List Value} {n : Nat} {tk' : Nat} (hg : ∀ b o, s.heap.get? b = some o → b ∉ ([] : List (Addr × Obj)).map (·.1) → g.get? b = some o)
    (F : Fr g L' h' m') (N : News g L' h' news) (hm : (b, listOf vs.toArray n) ∈ news) (hp : P vs) : Post s [] (ListPost P) (.ok (.ret (.ref b))) { s with heap := h', toks := tk' } :=
  leave (mods' := []) (tl := [(b, listOf vs.toArray n)]) hg F (News.sub N fun p hp => by
    rw [List.append_nil] at hp; rw [List.mem_singleton.mp hp]; exact hm) rfl (by simp) ⟨b, vs, n, rfl, rfl, hp⟩

theorem tindexes_spec {w : World} {mg mb : Str → Option Value} {mean : ExcName → Option Value} {s : Shared} {h₀ : Heap} {dp un : Nat} {fr : Option (List Env)} {gd : Option (List Code)} {dat : List (Addr × Obj)} {v : Value} {sg : Bool}
    (C : At w mg mb mean h₀ s []) (D : Has s.heap dat) (he : LvL dat v sg) (hd : dp < 490) (hu : un < 4900) :
    codeAny (model PySem.Challenge.pw_on0119_01 w) (A0 dp un fr gd) (.call (.ref 56) ⟨[v], []⟩)
      (Post s [] (ListPost (fun vs => vs = []))) s := by
  k_with_none
  k_with "BACK" => ((try dsimp only [Mine.TurnEnd, PyProof.Rows.WhileStep2]); refine' Mine.back ?B ?_; (case B => assumption); (try dsimp only))
  k_with "ENTER2" => ((case kC => assumption); (case k6 => k_is); (case kb => (conv => lhs; whnf)); (case ks => (conv => lhs; whnf)); (case k7 => k_is); (case k8 => (simp only [recursionLimit]; omega)); (case k9 => exact BindsTo.of_eq rfl); (case c5 => decide); (case kB => exact locs rfl); (case c2 => exact rfl); (case c3 => exact rfl); (case c4 => exact rfl); k_whole; intro _ _ _ _ _ _ _ _ _ _ _ _ _ _ _ _ _; (try dsimp only))
  k_with "subscriptTail" => (k_here; (with_reducible show wpAny _ _ (subscriptTail _ _ (Value.ref _) (Value.int _ _)) _ _ _); k_dflt (refine' item_tupleT (Mine.has_tup ?F ?D ?M) ?a ?b ?c ?d ?_; (case F => k_asm); (case D => assumption); (case M => assumption); (case a => decide); (case b => decide); (case c => first | rfl | exact Mine.seq_zero); (case d => rfl); k_whole))
  k_with "exec While Name cons nil" => k_extra "WHILE"
  k_with "pyIter ref" => ((with_reducible show wpAny _ _ (pyIter (Value.ref _)) (fun it s₂ => LoopAtV _ _ _ _ _ _ _ _ _ it s₂) _ _); k_extra "ITER")
  k_with "call ref" => k_extra "CALL"
  k_with "call type:reversed" => k_extra "REV"
  k_with "call builtin:list.pop" => (k_here; k_dflt (first | ((with_reducible show wpAny _ _ (call (Value.builtin _) [Value.ref _]) _ _ _); refine' Mine.popLast ?F ?N ?U ?z ?_; (case F => k_asm); (case N => k_asm); (case U => k_upd); (case z => (rw [PySem.sizeLine_eq]; first | assumption | omega | exact Nat.le_of_ble_eq_true rfl))) | (refine' Mine.pop0 ?F ?N ?U ?z ?_; (case F => k_asm); (case N => k_asm); (case U => k_upd); (case z => (rw [PySem.sizeLine_eq]; first | assumption | omega | exact Nat.le_of_ble_eq_true rfl)))); intro _ _ _; (try k_sweep))
  k_with "call builtin:list.append" => (k_here; k_extra "APP"; k_dflt (refine' Mine.app_ ?F ?N ?U ?z ?_; (case F => k_asm); (case N => k_asm); (case U => k_upd); (case z => (rw [PySem.sizeLine_eq]; first | assumption | omega | exact Nat.le_of_ble_eq_true rfl))); intro _ _ _; (try k_sweep))
  k_with "USE0" => ((case F => assumption); (case N => assumption); (case C => exact Mine.at0 (by assumption) (by assumption) (by assumption)); (case hd => ((try dsimp only [Mine.A0, Around.deeper, Around.in1]); omega)); (case hu => ((try dsimp only [Mine.A0, Around.deeper, Around.in1]); omega)))
  k_with "setItem ref int" => (k_here; k_dflt (refine' setItem_K PyProof.V.same_int (intKind_is _ _ _ _) ?v ?F ?N ?U ?d ?f ?_ ?z; (case F => k_asm); (case N => k_asm); (case U => k_updF); (case d => assumption); (case f => assumption); (case z => (rw [PySem.sizeLine_eq]; first | omega | exact Nat.le_of_ble_eq_true rfl)); (case v => exact PyProof.V.Flat.bool _)); intro _ _ _ _ _ _; (try k_sweep))
  k_with "call builtin:sorted" => (k_here; k_dflt (refine' Mine.sorted_dict ?hh ?F ?N ?M ?d ?lo ?z ?_; (case hh => exact rfl); (case F => assumption); (case N => assumption); (case M => k_mem); (case d => assumption); (case lo => assumption); (case z => first | omega | exact Nat.le_of_ble_eq_true rfl)); intro _ _ _ _ _ _ _ _ _ _ _ _)
  k_with "exec For" => (k_here; (with_reducible show wpAny _ _ (exec (Stmt.For (Expr.Name _ _) _ _ [] _) _) _ _ _); (with_reducible rename Fr _ _ _ _ => kF); (with_unfolding_all refine' For_invVF kF ?k1 ?k2 ?_; (case k1 => exact rfl); (case k2 => exact rfl); k_whole))
  k_with "call type:list" => (k_here; (with_reducible show wpAny _ _ (call (Value.type _) [Value.ref _]) _ _ _); k_dflt (refine' list_copyKT ?F ?N (Mine.has_tup ?G ?D ?M) ?_ ?z; (case F => k_asm); (case N => k_asm); (case G => k_asm); (case D => assumption); (case M => assumption); (case z => exact Nat.le_of_ble_eq_true rfl)); intro _ _ _ _ _ l1; (try (replace l1 := allLt_of l1; dsimp only [AllLt] at l1; revert l1; intro _)); (try k_sweep))
  k_with "ALLQ" => (simp only [List.forall_mem_cons, List.mem_singleton, forall_eq]; assumption)
  k_with "subscriptTail" => (k_here; (with_reducible show wpAny _ _ (subscriptTail _ _ (Value.ref _) (Value.int _ _)) _ _ _); k_dflt (refine' Mine.item_dat ?F ?D ?M ?a ?b ?x ?_; (case F => k_asm); (case D => assumption); (case M => assumption); (case a => assumption); (case b => omega); (case x => assumption); k_whole))
  k_with "getAttr ref" => (k_here; k_dflt (refine' Mine.attr_dat ?F ?X ?D ?h1 ?h2 ?k4 ?k5 ?k6 ?k7 ?k8 ?k9 ?_; (case F => k_asm); (case X => k_asm); (case D => assumption); (case h1 => assumption); (case h2 => assumption); (case k4 => k_is); (case k5 => k_is); (case k6 => k_is); (case k7 => k_is); (case k8 => assumption); (case k9 => k_handed); k_whole))
  k_with "getMethod ref" => (k_here; k_dflt (refine' Mine.meth_dat ?F ?X ?D ?h1 ?h2 ?k4 ?k5 ?k6 ?k7 ?_; (case F => k_asm); (case X => k_asm); (case D => assumption); (case h1 => assumption); (case h2 => assumption); (case k4 => k_is); (case k5 => k_is); (case k6 => k_is); (case k7 => assumption); k_whole))
  k_with "compareOp NotIn int ref" => (k_here; k_dflt (refine' Mine.notin_dict ?N ?M ?d ?lo ?_; (case N => assumption); (case M => k_mem); (case d => assumption); (case lo => assumption)))
  k_with "call builtin:list.extend" => (k_here; k_extra "EXT"; k_dflt (refine' Mine.ext_ ?F ?N ?b ?U ?z ?_; (case F => k_asm); (case N => k_asm); (case b => k_mem); (case U => (intro c; k_upd)); (case z => omega)); intro _ _ _ _; (try k_sweep))
  k_with "call type:list" => (k_here; k_extra "COPY"; (with_reducible show wpAny _ _ (call (Value.type _) [Value.ref _]) _ _ _); k_dflt (refine' Mine.copy_ ?F ?N ?M ?z ?_; (case F => k_asm); (case N => k_asm); (case M => k_mem); (case z => omega)); intro _ _ _ _ _ l1; (try (replace l1 := allLt_of l1; dsimp only [AllLt] at l1; revert l1; intro _)); (try k_sweep))
  k_with "truthy ref" => (k_here; k_extra "TRU"; (with_reducible show wpAny _ _ (truthy (Value.ref _)) _ _ _); k_dflt (refine' Mine.truthy_ ?N ?M ?z ?_; (case N => k_asm); (case M => k_mem); (case z => first | assumption | omega)); intro _)
  k_with "USE1" => ((case F => assumption); (case N => assumption); (case U => k_updF); (case C => exact Mine.at1 (by assumption) (by assumption) (by assumption) (by assumption) (by k_mem)); (case hd => ((try dsimp only [Mine.A0, Around.deeper, Around.in1]); omega)); (case hu => ((try dsimp only [Mine.A0, Around.deeper, Around.in1]); omega)))
  k_with "setItem ref int" => (k_here; (with_reducible show wpAny _ _ (setItem (Value.ref _) (Value.int _ _) _) _ _ _); k_dflt (refine' Mine.set_ ?F ?N ?a ?b ?c ?U ?_; (case F => k_asm); (case N => k_asm); (case U => k_upd); (case a => omega); (case b => omega); (case c => omega)); intro _ _ _; (try k_sweep))
  k_with "exec Assign cons ListComp" => k_extra "COMP"
  k_with "eval ListComp" => k_extra "COMPE"
  k_with "CompSrc" => k_extra "CSRC"
  k_with "binaryOp Mult ref int" => k_extra "MUL"
  k_with "TAILS" => (intro p hp; repeat (first | exact hp | refine List.Mem.tail _ ?_))
  k_with "getMethod ref" => (k_here; k_dflt (refine' Mine.meth_news ?F ?X ?N ?h1 ?h2 ?S ?k4 ?k5 ?k6 ?k7 ?_; (case F => k_asm); (case X => k_asm); (case N => k_asm); (case h1 => assumption); (case h2 => assumption); (case S => walk_at "TAILS"); (case k4 => k_is); (case k5 => k_is); (case k6 => k_is); (case k7 => assumption); k_whole))
  k_with "GOFF" => (refine Mine.off3 ?_; repeat' (first | exact List.forall_mem_nil _ | assumption | refine List.forall_mem_cons.mpr ⟨⟨by (dsimp only; omega), by (dsimp only; omega), by (dsimp only; omega)⟩, ?_⟩))
  k_with "GCUP" => (unfold Mine.Stop; rintro v' h' tk' o' tl F' N' ho ⟨e1, vs1, n1', ts1, c, u, hm1, hi1, hl4, e2, hc0, hc1⟩; cases hm1; cases e1; cases e2; (try simp only [List.nil_append] at N'); clear ho)
  k_with "eval Constant int" => (k_here; (k_dflt (refine' Mine.const_int ?_)); intro _ _)
  k_with "eval Constant str" => (k_here; (k_dflt (refine' Mine.const_str ?_)); intro _ _)
  k_with "newTuple" => (k_here; k_dflt (refine' kup_newTuple ?F ?N ?_ ?z; (case F => k_asm); (case N => k_asm); (case z => exact Nat.le_of_ble_eq_true rfl)); intro _ _ _ _ l1; (try (replace l1 := allLt_of l1; dsimp only [AllLt] at l1; revert l1; intro _)); (try k_sweep))
  k_with "newList" => (k_here; k_dflt (refine' newList_K ?k1 ?k2 ?_; (case k1 => k_asm); (case k2 => k_asm); k_whole); intro _ _ _ _ l1; (try (replace l1 := allLt_of l1; dsimp only [AllLt] at l1; revert l1; intro _)); (try k_sweep))
  refine' enter (binds := [(Str.ofString "lv", v)]) ?kC ?k6 ?kb ?ks ?k7 ?k8 ?k9 ?kB ?_ ?c2 ?c3 ?c4 ?c5; walk_at "ENTER2"
  rename_i g' L' h' hg' hz' hl' eL' X' T' F' N'
  have D' : Has g' dat := fun q hq => hg' _ _ (D q hq) (by simp)
  k_with "ITER" => (refine stop_at ?_)
  cases he with
  | loc h1 h2 h3 h4 => (
    k_steps
    unfold Stop
    refine iter_tup1 rfl (D' _ h2) (by assumption) (by assumption) ?_
    intro I it h tk hI F N
    k_steps
    refine one_end (nx' := [_]) (by assumption) (by assumption) hI ?_
    intro h tk F N
    k_steps
    walk_at "BACK"
    exact list_end hg' F N (.head _) rfl)
  | sig h1 h2 h3 h4 => (
    k_steps
    unfold Stop
    refine iter_tup1 rfl (D' _ h2) (by assumption) (by assumption) ?_
    intro I it h tk hI F N
    k_steps
    refine one_end (nx' := [_]) (by assumption) (by assumption) hI ?_
    intro h tk F N
    k_steps
    walk_at "BACK"
    exact list_end hg' F N (.head _) rfl)

theorem stargets_spec {w : World} {mg mb : Str → Option Value} {mean : ExcName → Option Value} {s : Shared} {h₀ : Heap} {dp un : Nat} {fr : Option (List Env)} {gd : Option (List Code)} {dat : List (Addr × Obj)} {v : Value} {st : St}
    (C : At w mg mb mean h₀ s []) (D : Has s.heap dat) (he : StL dat v st) (hd : dp < 490) (hu : un < 4900) :
    codeAny (model PySem.Challenge.pw_on0119_01 w) (A0 dp un fr gd) (.call (.ref 80) ⟨[v], []⟩)
      (Post s [] (ListPost (fun vs => All2 (LvL dat) vs st.tgts))) s := by
  k_with_none
  k_with "BACK" => ((try dsimp only [Mine.TurnEnd, PyProof.Rows.WhileStep2]); refine' Mine.back ?B ?_; (case B => assumption); (try dsimp only))
  k_with "ENTER2" => ((case kC => assumption); (case k6 => k_is); (case kb => (conv => lhs; whnf)); (case ks => (conv => lhs; whnf)); (case k7 => k_is); (case k8 => (simp only [recursionLimit]; omega)); (case k9 => exact BindsTo.of_eq rfl); (case c5 => decide); (case kB => exact locs rfl); (case c2 => exact rfl); (case c3 => exact rfl); (case c4 => exact rfl); k_whole; intro _ _ _ _ _ _ _ _ _ _ _ _ _ _ _ _ _; (try dsimp only))
  k_with "subscriptTail" => (k_here; (with_reducible show wpAny _ _ (subscriptTail _ _ (Value.ref _) (Value.int _ _)) _ _ _); k_dflt (refine' item_tupleT (Mine.has_tup ?F ?D ?M) ?a ?b ?c ?d ?_; (case F => k_asm); (case D => assumption); (case M => assumption); (case a => decide); (case b => decide); (case c => first | rfl | exact Mine.seq_zero); (case d => rfl); k_whole))
  k_with "exec While Name cons nil" => k_extra "WHILE"
  k_with "pyIter ref" => ((with_reducible show wpAny _ _ (pyIter (Value.ref _)) (fun it s₂ => LoopAtV _ _ _ _ _ _ _ _ _ it s₂) _ _); k_extra "ITER")
  k_with "call ref" => k_extra "CALL"
  k_with "call type:reversed" => k_extra "REV"
  k_with "call builtin:list.pop" => (k_here; k_dflt (first | ((with_reducible show wpAny _ _ (call (Value.builtin _) [Value.ref _]) _ _ _); refine' Mine.popLast ?F ?N ?U ?z ?_; (case F => k_asm); (case N => k_asm); (case U => k_upd); (case z => (rw [PySem.sizeLine_eq]; first | assumption | omega | exact Nat.le_of_ble_eq_true rfl))) | (refine' Mine.pop0 ?F ?N ?U ?z ?_; (case F => k_asm); (case N => k_asm); (case U => k_upd); (case z => (rw [PySem.sizeLine_eq]; first | assumption | omega | exact Nat.le_of_ble_eq_true rfl)))); intro _ _ _; (try k_sweep))
  k_with "call builtin:list.append" => (k_here; k_extra "APP"; k_dflt (refine' Mine.app_ ?F ?N ?U ?z ?_; (case F => k_asm); (case N => k_asm); (case U => k_upd); (case z => (rw [PySem.sizeLine_eq]; first | assumption | omega | exact Nat.le_of_ble_eq_true rfl))); intro _ _ _; (try k_sweep))
  k_with "USE0" => ((case F => assumption); (case N => assumption); (case C => exact Mine.at0 (by assumption) (by assumption) (by assumption)); (case hd => ((try dsimp only [Mine.A0, Around.deeper, Around.in1]); omega)); (case hu => ((try dsimp only [Mine.A0, Around.deeper, Around.in1]); omega)))
  k_with "setItem ref int" => (k_here; k_dflt (refine' setItem_K PyProof.V.same_int (intKind_is _ _ _ _) ?v ?F ?N ?U ?d ?f ?_ ?z; (case F => k_asm); (case N => k_asm); (case U => k_updF); (case d => assumption); (case f => assumption); (case z => (rw [PySem.sizeLine_eq]; first | omega | exact Nat.le_of_ble_eq_true rfl)); (case v => exact PyProof.V.Flat.bool _)); intro _ _ _ _ _ _; (try k_sweep))
  k_with "call builtin:sorted" => (k_here; k_dflt (refine' Mine.sorted_dict ?hh ?F ?N ?M ?d ?lo ?z ?_; (case hh => exact rfl); (case F => assumption); (case N => assumption); (case M => k_mem); (case d => assumption); (case lo => assumption); (case z => first | omega | exact Nat.le_of_ble_eq_true rfl)); intro _ _ _ _ _ _ _ _ _ _ _ _)
  k_with "exec For" => (k_here; (with_reducible show wpAny _ _ (exec (Stmt.For (Expr.Name _ _) _ _ [] _) _) _ _ _); (with_reducible rename Fr _ _ _ _ => kF); (with_unfolding_all refine' For_invVF kF ?k1 ?k2 ?_; (case k1 => exact rfl); (case k2 => exact rfl); k_whole))
  k_with "call type:list" => (k_here; (with_reducible show wpAny _ _ (call (Value.type _) [Value.ref _]) _ _ _); k_dflt (refine' list_copyKT ?F ?N (Mine.has_tup ?G ?D ?M) ?_ ?z; (case F => k_asm); (case N => k_asm); (case G => k_asm); (case D => assumption); (case M => assumption); (case z => exact Nat.le_of_ble_eq_true rfl)); intro _ _ _ _ _ l1; (try (replace l1 := allLt_of l1; dsimp only [AllLt] at l1; revert l1; intro _)); (try k_sweep))
  k_with "ALLQ" => (simp only [List.forall_mem_cons, List.mem_singleton, forall_eq]; assumption)
  k_with "subscriptTail" => (k_here; (with_reducible show wpAny _ _ (subscriptTail _ _ (Value.ref _) (Value.int _ _)) _ _ _); k_dflt (refine' Mine.item_dat ?F ?D ?M ?a ?b ?x ?_; (case F => k_asm); (case D => assumption); (case M => assumption); (case a => assumption); (case b => omega); (case x => assumption); k_whole))
  k_with "getAttr ref" => (k_here; k_dflt (refine' Mine.attr_dat ?F ?X ?D ?h1 ?h2 ?k4 ?k5 ?k6 ?k7 ?k8 ?k9 ?_; (case F => k_asm); (case X => k_asm); (case D => assumption); (case h1 => assumption); (case h2 => assumption); (case k4 => k_is); (case k5 => k_is); (case k6 => k_is); (case k7 => k_is); (case k8 => assumption); (case k9 => k_handed); k_whole))
  k_with "getMethod ref" => (k_here; k_dflt (refine' Mine.meth_dat ?F ?X ?D ?h1 ?h2 ?k4 ?k5 ?k6 ?k7 ?_; (case F => k_asm); (case X => k_asm); (case D => assumption); (case h1 => assumption); (case h2 => assumption); (case k4 => k_is); (case k5 => k_is); (case k6 => k_is); (case k7 => assumption); k_whole))
  k_with "compareOp NotIn int ref" => (k_here; k_dflt (refine' Mine.notin_dict ?N ?M ?d ?lo ?_; (case N => assumption); (case M => k_mem); (case d => assumption); (case lo => assumption)))
  k_with "call builtin:list.extend" => (k_here; k_extra "EXT"; k_dflt (refine' Mine.ext_ ?F ?N ?b ?U ?z ?_; (case F => k_asm); (case N => k_asm); (case b => k_mem); (case U => (intro c; k_upd)); (case z => omega)); intro _ _ _ _; (try k_sweep))
  k_with "call type:list" => (k_here; k_extra "COPY"; (with_reducible show wpAny _ _ (call (Value.type _) [Value.ref _]) _ _ _); k_dflt (refine' Mine.copy_ ?F ?N ?M ?z ?_; (case F => k_asm); (case N => k_asm); (case M => k_mem); (case z => omega)); intro _ _ _ _ _ l1; (try (replace l1 := allLt_of l1; dsimp only [AllLt] at l1; revert l1; intro _)); (try k_sweep))
  k_with "truthy ref" => (k_here; k_extra "TRU"; (with_reducible show wpAny _ _ (truthy (Value.ref _)) _ _ _); k_dflt (refine' Mine.truthy_ ?N ?M ?z ?_; (case N => k_asm); (case M => k_mem); (case z => first | assumption | omega)); intro _)
  k_with "USE1" => ((case F => assumption); (case N => assumption); (case U => k_updF); (case C => exact Mine.at1 (by assumption) (by assumption) (by assumption) (by assumption) (by k_mem)); (case hd => ((try dsimp only [Mine.A0, Around.deeper, Around.in1]); omega)); (case hu => ((try dsimp only [Mine.A0, Around.deeper, Around.in1]); omega)))
  k_with "setItem ref int" => (k_here; (with_reducible show wpAny _ _ (setItem (Value.ref _) (Value.int _ _) _) _ _ _); k_dflt (refine' Mine.set_ ?F ?N ?a ?b ?c ?U ?_; (case F => k_asm); (case N => k_asm); (case U => k_upd); (case a => omega); (case b => omega); (case c => omega)); intro _ _ _; (try k_sweep))
  k_with "exec Assign cons ListComp" => k_extra "COMP"
  k_with "eval ListComp" => k_extra "COMPE"
  k_with "CompSrc" => k_extra "CSRC"
  k_with "binaryOp Mult ref int" => k_extra "MUL"
  k_with "TAILS" => (intro p hp; repeat (first | exact hp | refine List.Mem.tail _ ?_))
  k_with "getMethod ref" => (k_here; k_dflt (refine' Mine.meth_news ?F ?X ?N ?h1 ?h2 ?S ?k4 ?k5 ?k6 ?k7 ?_; (case F => k_asm); (case X => k_asm); (case N => k_asm); (case h1 => assumption); (case h2 => assumption); (case S => walk_at "TAILS"); (case k4 => k_is); (case k5 => k_is); (case k6 => k_is); (case k7 => assumption); k_whole))
  k_with "GOFF" => (refine Mine.off3 ?_; repeat' (first | exact List.forall_mem_nil _ | assumption | refine List.forall_mem_cons.mpr ⟨⟨by (dsimp only; omega), by (dsimp only; omega), by (dsimp only; omega)⟩, ?_⟩))
  k_with "GCUP" => (unfold Mine.Stop; rintro v' h' tk' o' tl F' N' ho ⟨e1, vs1, n1', ts1, c, u, hm1, hi1, hl4, e2, hc0, hc1⟩; cases hm1; cases e1; cases e2; (try simp only [List.nil_append] at N'); clear ho)
  k_with "eval Constant int" => (k_here; (k_dflt (refine' Mine.const_int ?_)); intro _ _)
  k_with "eval Constant str" => (k_here; (k_dflt (refine' Mine.const_str ?_)); intro _ _)
  k_with "newTuple" => (k_here; k_dflt (refine' kup_newTuple ?F ?N ?_ ?z; (case F => k_asm); (case N => k_asm); (case z => exact Nat.le_of_ble_eq_true rfl)); intro _ _ _ _ l1; (try (replace l1 := allLt_of l1; dsimp only [AllLt] at l1; revert l1; intro _)); (try k_sweep))
  k_with "newList" => (k_here; k_dflt (refine' newList_K ?k1 ?k2 ?_; (case k1 => k_asm); (case k2 => k_asm); k_whole); intro _ _ _ _ l1; (try (replace l1 := allLt_of l1; dsimp only [AllLt] at l1; revert l1; intro _)); (try k_sweep))
  refine' enter (binds := [(Str.ofString "s", v)]) ?kC ?k6 ?kb ?ks ?k7 ?k8 ?k9 ?kB ?_ ?c2 ?c3 ?c4 ?c5; walk_at "ENTER2"
  rename_i g' L' h' hg' hz' hl' eL' X' T' F' N'
  have D' : Has g' dat := fun q hq => hg' _ _ (D q hq) (by simp)
  cases he with
  | set hs => cases hs with | mk h1 h2 h3 => (
      k_steps
      walk_at "BACK"
      exact list_end (vs := [_]) hg' (by assumption) (by assumption) (.head _) (.cons h2 .nil))
  | block h1 h2 h3 => (
      k_steps
      walk_at "BACK"
      exact list_end (vs := []) hg' (by assumption) (by assumption) (.head _) .nil)
  | cond h1 h2 h3 => (
      k_steps
      walk_at "BACK"
      exact list_end (vs := []) hg' (by assumption) (by assumption) (.head _) .nil)
theorem sparts_spec {w : World} {mg mb : Str → Option Value} {mean : ExcName → Option Value} {s : Shared} {h₀ : Heap} {dp un : Nat} {fr : Option (List Env)} {gd : Option (List Code)} {dat : List (Addr × Obj)} {v : Value} {st : St}
    (C : At w mg mb mean h₀ s []) (D : Has s.heap dat) (he : StL dat v st) (hd : dp < 490) (hu : un < 4900) :
    codeAny (model PySem.Challenge.pw_on0119_01 w) (A0 dp un fr gd) (.call (.ref 68) ⟨[v], []⟩)
      (Post s [] (ListPost (fun vs => All2 (StL dat) vs st.parts))) s := by
  k_with_none
  k_with "BACK" => ((try dsimp only [Mine.TurnEnd, PyProof.Rows.WhileStep2]); refine' Mine.back ?B ?_; (case B => assumption); (try dsimp only))
  k_with "ENTER2" => ((case kC => assumption); (case k6 => k_is); (case kb => (conv => lhs; whnf)); (case ks => (conv => lhs; whnf)); (case k7 => k_is); (case k8 => (simp only [recursionLimit]; omega)); (case k9 => exact BindsTo.of_eq rfl); (case c5 => decide); (case kB => exact locs rfl); (case c2 => exact rfl); (case c3 => exact rfl); (case c4 => exact rfl); k_whole; intro _ _ _ _ _ _ _ _ _ _ _ _ _ _ _ _ _; (try dsimp only))
  k_with "subscriptTail" => (k_here; (with_reducible show wpAny _ _ (subscriptTail _ _ (Value.ref _) (Value.int _ _)) _ _ _); k_dflt (refine' item_tupleT (Mine.has_tup ?F ?D ?M) ?a ?b ?c ?d ?_; (case F => k_asm); (case D => assumption); (case M => assumption); (case a => decide); (case b => decide); (case c => first | rfl | exact Mine.seq_zero); (case d => rfl); k_whole))
  k_with "exec While Name cons nil" => k_extra "WHILE"
  k_with "pyIter ref" => ((with_reducible show wpAny _ _ (pyIter (Value.ref _)) (fun it s₂ => LoopAtV _ _ _ _ _ _ _ _ _ it s₂) _ _); k_extra "ITER")
  k_with "call ref" => k_extra "CALL"
  k_with "call type:reversed" => k_extra "REV"
  k_with "call builtin:list.pop" => (k_here; k_dflt (first | ((with_reducible show wpAny _ _ (call (Value.builtin _) [Value.ref _]) _ _ _); refine' Mine.popLast ?F ?N ?U ?z ?_; (case F => k_asm); (case N => k_asm); (case U => k_upd); (case z => (rw [PySem.sizeLine_eq]; first | assumption | omega | exact Nat.le_of_ble_eq_true rfl))) | (refine' Mine.pop0 ?F ?N ?U ?z ?_; (case F => k_asm); (case N => k_asm); (case U => k_upd); (case z => (rw [PySem.sizeLine_eq]; first | assumption | omega | exact Nat.le_of_ble_eq_true rfl)))); intro _ _ _; (try k_sweep))
  k_with "call builtin:list.append" => (k_here; k_extra "APP"; k_dflt (refine' Mine.app_ ?F ?N ?U ?z ?_; (case F => k_asm); (case N => k_asm); (case U => k_upd); (case z => (rw [PySem.sizeLine_eq]; first | assumption | omega | exact Nat.le_of_ble_eq_true rfl))); intro _ _ _; (try k_sweep))
  k_with "USE0" => ((case F => assumption); (case N => assumption); (case C => exact Mine.at0 (by assumption) (by assumption) (by assumption)); (case hd => ((try dsimp only [Mine.A0, Around.deeper, Around.in1]); omega)); (case hu => ((try dsimp only [Mine.A0, Around.deeper, Around.in1]); omega)))
  k_with "setItem ref int" => (k_here; k_dflt (refine' setItem_K PyProof.V.same_int (intKind_is _ _ _ _) ?v ?F ?N ?U ?d ?f ?_ ?z; (case F => k_asm); (case N => k_asm); (case U => k_updF); (case d => assumption); (case f => assumption); (case z => (rw [PySem.sizeLine_eq]; first | omega | exact Nat.le_of_ble_eq_true rfl)); (case v => exact PyProof.V.Flat.bool _)); intro _ _ _ _ _ _; (try k_sweep))
  k_with "call builtin:sorted" => (k_here; k_dflt (refine' Mine.sorted_dict ?hh ?F ?N ?M ?d ?lo ?z ?_; (case hh => exact rfl); (case F => assumption); (case N => assumption); (case M => k_mem); (case d => assumption); (case lo => assumption); (case z => first | omega | exact Nat.le_of_ble_eq_true rfl)); intro _ _ _ _ _ _ _ _ _ _ _ _)
  k_with "exec For" => (k_here; (with_reducible show wpAny _ _ (exec (Stmt.For (Expr.Name _ _) _ _ [] _) _) _ _ _); (with_reducible rename Fr _ _ _ _ => kF); (with_unfolding_all refine' For_invVF kF ?k1 ?k2 ?_; (case k1 => exact rfl); (case k2 => exact rfl); k_whole))
  k_with "call type:list" => (k_here; (with_reducible show wpAny _ _ (call (Value.type _) [Value.ref _]) _ _ _); k_dflt (refine' list_copyKT ?F ?N (Mine.has_tup ?G ?D ?M) ?_ ?z; (case F => k_asm); (case N => k_asm); (case G => k_asm); (case D => assumption); (case M => assumption); (case z => exact Nat.le_of_ble_eq_true rfl)); intro _ _ _ _ _ l1; (try (replace l1 := allLt_of l1; dsimp only [AllLt] at l1; revert l1; intro _)); (try k_sweep))
  k_with "ALLQ" => (simp only [List.forall_mem_cons, List.mem_singleton, forall_eq]; assumption)
  k_with "subscriptTail" => (k_here; (with_reducible show wpAny _ _ (subscriptTail _ _ (Value.ref _) (Value.int _ _)) _ _ _); k_dflt (refine' Mine.item_dat ?F ?D ?M ?a ?b ?x ?_; (case F => k_asm); (case D => assumption); (case M => assumption); (case a => assumption); (case b => omega); (case x => assumption); k_whole))
  k_with "getAttr ref" => (k_here; k_dflt (refine' Mine.attr_dat ?F ?X ?D ?h1 ?h2 ?k4 ?k5 ?k6 ?k7 ?k8 ?k9 ?_; (case F => k_asm); (case X => k_asm); (case D => assumption); (case h1 => assumption); (case h2 => assumption); (case k4 => k_is); (case k5 => k_is); (case k6 => k_is); (case k7 => k_is); (case k8 => assumption); (case k9 => k_handed); k_whole))
  k_with "getMethod ref" => (k_here; k_dflt (refine' Mine.meth_dat ?F ?X ?D ?h1 ?h2 ?k4 ?k5 ?k6 ?k7 ?_; (case F => k_asm); (case X => k_asm); (case D => assumption); (case h1 => assumption); (case h2 => assumption); (case k4 => k_is); (case k5 => k_is); (case k6 => k_is); (case k7 => assumption); k_whole))
  k_with "compareOp NotIn int ref" => (k_here; k_dflt (refine' Mine.notin_dict ?N ?M ?d ?lo ?_; (case N => assumption); (case M => k_mem); (case d => assumption); (case lo => assumption)))
  k_with "call builtin:list.extend" => (k_here; k_extra "EXT"; k_dflt (refine' Mine.ext_ ?F ?N ?b ?U ?z ?_; (case F => k_asm); (case N => k_asm); (case b => k_mem); (case U => (intro c; k_upd)); (case z => omega)); intro _ _ _ _; (try k_sweep))
  k_with "call type:list" => (k_here; k_extra "COPY"; (with_reducible show wpAny _ _ (call (Value.type _) [Value.ref _]) _ _ _); k_dflt (refine' Mine.copy_ ?F ?N ?M ?z ?_; (case F => k_asm); (case N => k_asm); (case M => k_mem); (case z => omega)); intro _ _ _ _ _ l1; (try (replace l1 := allLt_of l1; dsimp only [AllLt] at l1; revert l1; intro _)); (try k_sweep))
  k_with "truthy ref" => (k_here; k_extra "TRU"; (with_reducible show wpAny _ _ (truthy (Value.ref _)) _ _ _); k_dflt (refine' Mine.truthy_ ?N ?M ?z ?_; (case N => k_asm); (case M => k_mem); (case z => first | assumption | omega)); intro _)
  k_with "USE1" => ((case F => assumption); (case N => assumption); (case U => k_updF); (case C => exact Mine.at1 (by assumption) (by assumption) (by assumption) (by assumption) (by k_mem)); (case hd => ((try dsimp only [Mine.A0, Around.deeper, Around.in1]); omega)); (case hu => ((try dsimp only [Mine.A0, Around.deeper, Around.in1]); omega)))
  k_with "setItem ref int" => (k_here; (with_reducible show wpAny _ _ (setItem (Value.ref _) (Value.int _ _) _) _ _ _); k_dflt (refine' Mine.set_ ?F ?N ?a ?b ?c ?U ?_; (case F => k_asm); (case N => k_asm); (case U => k_upd); (case a => omega); (case b => omega); (case c => omega)); intro _ _ _; (try k_sweep))
  k_with "exec Assign cons ListComp" => k_extra "COMP"
  k_with "eval ListComp" => k_extra "COMPE"
  k_with "CompSrc" => k_extra "CSRC"
  k_with "binaryOp Mult ref int" => k_extra "MUL"
  k_with "TAILS" => (intro p hp; repeat (first | exact hp | refine List.Mem.tail _ ?_))
  k_with "getMethod ref" => (k_here; k_dflt (refine' Mine.meth_news ?F ?X ?N ?h1 ?h2 ?S ?k4 ?k5 ?k6 ?k7 ?_; (case F => k_asm); (case X => k_asm); (case N => k_asm); (case h1 => assumption); (case h2 => assumption); (case S => walk_at "TAILS"); (case k4 => k_is); (case k5 => k_is); (case k6 => k_is); (case k7 => assumption); k_whole))
  k_with "GOFF" => (refine Mine.off3 ?_; repeat' (first | exact List.forall_mem_nil _ | assumption | refine List.forall_mem_cons.mpr ⟨⟨by (dsimp only; omega), by (dsimp only; omega), by (dsimp only; omega)⟩, ?_⟩))
  k_with "GCUP" => (unfold Mine.Stop; rintro v' h' tk' o' tl F' N' ho ⟨e1, vs1, n1', ts1, c, u, hm1, hi1, hl4, e2, hc0, hc1⟩; cases hm1; cases e1; cases e2; (try simp only [List.nil_append] at N'); clear ho)
  k_with "eval Constant int" => (k_here; (k_dflt (refine' Mine.const_int ?_)); intro _ _)
  k_with "eval Constant str" => (k_here; (k_dflt (refine' Mine.const_str ?_)); intro _ _)
  k_with "newTuple" => (k_here; k_dflt (refine' kup_newTuple ?F ?N ?_ ?z; (case F => k_asm); (case N => k_asm); (case z => exact Nat.le_of_ble_eq_true rfl)); intro _ _ _ _ l1; (try (replace l1 := allLt_of l1; dsimp only [AllLt] at l1; revert l1; intro _)); (try k_sweep))
  k_with "newList" => (k_here; k_dflt (refine' newList_K ?k1 ?k2 ?_; (case k1 => k_asm); (case k2 => k_asm); k_whole); intro _ _ _ _ l1; (try (replace l1 := allLt_of l1; dsimp only [AllLt] at l1; revert l1; intro _)); (try k_sweep))
  refine' enter (binds := [(Str.ofString "s", v)]) ?kC ?k6 ?kb ?ks ?k7 ?k8 ?k9 ?kB ?_ ?c2 ?c3 ?c4 ?c5; walk_at "ENTER2"
  rename_i g' L' h' hg' hz' hl' eL' X' T' F' N'
  have D' : Has g' dat := fun q hq => hg' _ _ (D q hq) (by simp)
  cases he with
  | set hs => cases hs with | mk h1 h2 h3 => (
      k_steps
      walk_at "BACK"
      exact list_end (vs := []) hg' (by assumption) (by assumption) (.head _) .nil)
  | block h1 h2 h3 => (
      obtain ⟨_⟩ := id h3
      k_steps
      walk_at "BACK"
      exact list_end (vs := [_]) hg' (by assumption) (by assumption) (.head _) (.cons (.set h3) .nil))
  | cond h1 h2 h3 => (
      obtain ⟨_⟩ := id h3
      k_steps
      walk_at "BACK"
      exact list_end (vs := [_]) hg' (by assumption) (by assumption) (.head _) (.cons (.set h3) .nil))
end Mine
namespace Mine
theorem twrites_spec {w : World} {mg mb : Str → Option Value} {mean : ExcName → Option Value} {s : Shared} {h₀ : Heap} {dp un : Nat} {fr : Option (List Env)} {gd : Option (List Code)} {dat : List (Addr × Obj)} {v : Value} {sg : Bool}
    (C : At w mg mb mean h₀ s []) (D : Has s.heap dat) (he : LvL dat v sg) (hd : dp < 490) (hu : un < 4900) :
    codeAny (model PySem.Challenge.pw_on0119_01 w) (A0 dp un fr gd) (.call (.ref 63) ⟨[v], []⟩)
      (Post s [] (IntPost (fun k => k = 0 ∧ sg = true) 1)) s := by
  k_with_none
  k_with "BACK" => ((try dsimp only [Mine.TurnEnd, PyProof.Rows.WhileStep2]); refine' Mine.back ?B ?_; (case B => assumption); (try dsimp only))
  k_with "ENTER2" => ((case kC => assumption); (case k6 => k_is); (case kb => (conv => lhs; whnf)); (case ks => (conv => lhs; whnf)); (case k7 => k_is); (case k8 => (simp only [recursionLimit]; omega)); (case k9 => exact BindsTo.of_eq rfl); (case c5 => decide); (case kB => exact locs rfl); (case c2 => exact rfl); (case c3 => exact rfl); (case c4 => exact rfl); k_whole; intro _ _ _ _ _ _ _ _ _ _ _ _ _ _ _ _ _; (try dsimp only))
  k_with "subscriptTail" => (k_here; (with_reducible show wpAny _ _ (subscriptTail _ _ (Value.ref _) (Value.int _ _)) _ _ _); k_dflt (refine' item_tupleT (Mine.has_tup ?F ?D ?M) ?a ?b ?c ?d ?_; (case F => k_asm); (case D => assumption); (case M => assumption); (case a => decide); (case b => decide); (case c => first | rfl | exact Mine.seq_zero); (case d => rfl); k_whole))
  k_with "exec While Name cons nil" => k_extra "WHILE"
  k_with "pyIter ref" => ((with_reducible show wpAny _ _ (pyIter (Value.ref _)) (fun it s₂ => LoopAtV _ _ _ _ _ _ _ _ _ it s₂) _ _); k_extra "ITER")
  k_with "call ref" => k_extra "CALL"
  k_with "call type:reversed" => k_extra "REV"
  k_with "call builtin:list.pop" => (k_here; k_dflt (first | ((with_reducible show wpAny _ _ (call (Value.builtin _) [Value.ref _]) _ _ _); refine' Mine.popLast ?F ?N ?U ?z ?_; (case F => k_asm); (case N => k_asm); (case U => k_upd); (case z => (rw [PySem.sizeLine_eq]; first | assumption | omega | exact Nat.le_of_ble_eq_true rfl))) | (refine' Mine.pop0 ?F ?N ?U ?z ?_; (case F => k_asm); (case N => k_asm); (case U => k_upd); (case z => (rw [PySem.sizeLine_eq]; first | assumption | omega | exact Nat.le_of_ble_eq_true rfl)))); intro _ _ _; (try k_sweep))
  k_with "call builtin:list.append" => (k_here; k_extra "APP"; k_dflt (refine' Mine.app_ ?F ?N ?U ?z ?_; (case F => k_asm); (case N => k_asm); (case U => k_upd); (case z => (rw [PySem.sizeLine_eq]; first | assumption | omega | exact Nat.le_of_ble_eq_true rfl))); intro _ _ _; (try k_sweep))
  k_with "USE0" => ((case F => assumption); (case N => assumption); (case C => exact Mine.at0 (by assumption) (by assumption) (by assumption)); (case hd => ((try dsimp only [Mine.A0, Around.deeper, Around.in1]); omega)); (case hu => ((try dsimp only [Mine.A0, Around.deeper, Around.in1]); omega)))
  k_with "setItem ref int" => (k_here; k_dflt (refine' setItem_K PyProof.V.same_int (intKind_is _ _ _ _) ?v ?F ?N ?U ?d ?f ?_ ?z; (case F => k_asm); (case N => k_asm); (case U => k_updF); (case d => assumption); (case f => assumption); (case z => (rw [PySem.sizeLine_eq]; first | omega | exact Nat.le_of_ble_eq_true rfl)); (case v => exact PyProof.V.Flat.bool _)); intro _ _ _ _ _ _; (try k_sweep))
  k_with "call builtin:sorted" => (k_here; k_dflt (refine' Mine.sorted_dict ?hh ?F ?N ?M ?d ?lo ?z ?_; (case hh => exact rfl); (case F => assumption); (case N => assumption); (case M => k_mem); (case d => assumption); (case lo => assumption); (case z => first | omega | exact Nat.le_of_ble_eq_true rfl)); intro _ _ _ _ _ _ _ _ _ _ _ _)
  k_with "exec For" => (k_here; (with_reducible show wpAny _ _ (exec (Stmt.For (Expr.Name _ _) _ _ [] _) _) _ _ _); (with_reducible rename Fr _ _ _ _ => kF); (with_unfolding_all refine' For_invVF kF ?k1 ?k2 ?_; (case k1 => exact rfl); (case k2 => exact rfl); k_whole))
  k_with "call type:list" => (k_here; (with_reducible show wpAny _ _ (call (Value.type _) [Value.ref _]) _ _ _); k_dflt (refine' list_copyKT ?F ?N (Mine.has_tup ?G ?D ?M) ?_ ?z; (case F => k_asm); (case N => k_asm); (case G => k_asm); (case D => assumption); (case M => assumption); (case z => exact Nat.le_of_ble_eq_true rfl)); intro _ _ _ _ _ l1; (try (replace l1 := allLt_of l1; dsimp only [AllLt] at l1; revert l1; intro _)); (try k_sweep))
  k_with "ALLQ" => (simp only [List.forall_mem_cons, List.mem_singleton, forall_eq]; assumption)
  k_with "subscriptTail" => (k_here; (with_reducible show wpAny _ _ (subscriptTail _ _ (Value.ref _) (Value.int _ _)) _ _ _); k_dflt (refine' Mine.item_dat ?F ?D ?M ?a ?b ?x ?_; (case F => k_asm); (case D => assumption); (case M => assumption); (case a => assumption); (case b => omega); (case x => assumption); k_whole))
  k_with "getAttr ref" => (k_here; k_dflt (refine' Mine.attr_dat ?F ?X ?D ?h1 ?h2 ?k4 ?k5 ?k6 ?k7 ?k8 ?k9 ?_; (case F => k_asm); (case X => k_asm); (case D => assumption); (case h1 => assumption); (case h2 => assumption); (case k4 => k_is); (case k5 => k_is); (case k6 => k_is); (case k7 => k_is); (case k8 => assumption); (case k9 => k_handed); k_whole))
  k_with "getMethod ref" => (k_here; k_dflt (refine' Mine.meth_dat ?F ?X ?D ?h1 ?h2 ?k4 ?k5 ?k6 ?k7 ?_; (case F => k_asm); (case X => k_asm); (case D => assumption); (case h1 => assumption); (case h2 => assumption); (case k4 => k_is); (case k5 => k_is); (case k6 => k_is); (case k7 => assumption); k_whole))
  k_with "compareOp NotIn int ref" => (k_here; k_dflt (refine' Mine.notin_dict ?N ?M ?d ?lo ?_; (case N => assumption); (case M => k_mem); (case d => assumption); (case lo => assumption)))
  k_with "call builtin:list.extend" => (k_here; k_extra "EXT"; k_dflt (refine' Mine.ext_ ?F ?N ?b ?U ?z ?_; (case F => k_asm); (case N => k_asm); (case b => k_mem); (case U => (intro c; k_upd)); (case z => omega)); intro _ _ _ _; (try k_sweep))
  k_with "call type:list" => (k_here; k_extra "COPY"; (with_reducible show wpAny _ _ (call (Value.type _) [Value.ref _]) _ _ _); k_dflt (refine' Mine.copy_ ?F ?N ?M ?z ?_; (case F => k_asm); (case N => k_asm); (case M => k_mem); (case z => omega)); intro _ _ _ _ _ l1; (try (replace l1 := allLt_of l1; dsimp only [AllLt] at l1; revert l1; intro _)); (try k_sweep))
  k_with "truthy ref" => (k_here; k_extra "TRU"; (with_reducible show wpAny _ _ (truthy (Value.ref _)) _ _ _); k_dflt (refine' Mine.truthy_ ?N ?M ?z ?_; (case N => k_asm); (case M => k_mem); (case z => first | assumption | omega)); intro _)
  k_with "USE1" => ((case F => assumption); (case N => assumption); (case U => k_updF); (case C => exact Mine.at1 (by assumption) (by assumption) (by assumption) (by assumption) (by k_mem)); (case hd => ((try dsimp only [Mine.A0, Around.deeper, Around.in1]); omega)); (case hu => ((try dsimp only [Mine.A0, Around.deeper, Around.in1]); omega)))
  k_with "setItem ref int" => (k_here; (with_reducible show wpAny _ _ (setItem (Value.ref _) (Value.int _ _) _) _ _ _); k_dflt (refine' Mine.set_ ?F ?N ?a ?b ?c ?U ?_; (case F => k_asm); (case N => k_asm); (case U => k_upd); (case a => omega); (case b => omega); (case c => omega)); intro _ _ _; (try k_sweep))
  k_with "exec Assign cons ListComp" => k_extra "COMP"
  k_with "eval ListComp" => k_extra "COMPE"
  k_with "CompSrc" => k_extra "CSRC"
  k_with "binaryOp Mult ref int" => k_extra "MUL"
  k_with "TAILS" => (intro p hp; repeat (first | exact hp | refine List.Mem.tail _ ?_))
  k_with "getMethod ref" => (k_here; k_dflt (refine' Mine.meth_news ?F ?X ?N ?h1 ?h2 ?S ?k4 ?k5 ?k6 ?k7 ?_; (case F => k_asm); (case X => k_asm); (case N => k_asm); (case h1 => assumption); (case h2 => assumption); (case S => walk_at "TAILS"); (case k4 => k_is); (case k5 => k_is); (case k6 => k_is); (case k7 => assumption); k_whole))
  k_with "GOFF" => (refine Mine.off3 ?_; repeat' (first | exact List.forall_mem_nil _ | assumption | refine List.forall_mem_cons.mpr ⟨⟨by (dsimp only; omega), by (dsimp only; omega), by (dsimp only; omega)⟩, ?_⟩))
  k_with "GCUP" => (unfold Mine.Stop; rintro v' h' tk' o' tl F' N' ho ⟨e1, vs1, n1', ts1, c, u, hm1, hi1, hl4, e2, hc0, hc1⟩; cases hm1; cases e1; cases e2; (try simp only [List.nil_append] at N'); clear ho)
  k_with "eval Constant int" => (k_here; (k_dflt (refine' Mine.const_int ?_)); intro _ _)
  k_with "eval Constant str" => (k_here; (k_dflt (refine' Mine.const_str ?_)); intro _ _)
  k_with "newTuple" => (k_here; k_dflt (refine' kup_newTuple ?F ?N ?_ ?z; (case F => k_asm); (case N => k_asm); (case z => exact Nat.le_of_ble_eq_true rfl)); intro _ _ _ _ l1; (try (replace l1 := allLt_of l1; dsimp only [AllLt] at l1; revert l1; intro _)); (try k_sweep))
  k_with "newList" => (k_here; k_dflt (refine' newList_K ?k1 ?k2 ?_; (case k1 => k_asm); (case k2 => k_asm); k_whole); intro _ _ _ _ l1; (try (replace l1 := allLt_of l1; dsimp only [AllLt] at l1; revert l1; intro _)); (try k_sweep))
  refine' enter (binds := [(Str.ofString "lv", v)]) ?kC ?k6 ?kb ?ks ?k7 ?k8 ?k9 ?kB ?_ ?c2 ?c3 ?c4 ?c5; walk_at "ENTER2"
  rename_i g' L' h' hg' hz' hl' eL' X' T' F' N'
  have D' : Has g' dat := fun q hq => hg' _ _ (D q hq) (by simp)
  k_with "ITER" => (refine stop_at ?_)
  cases he with
  | loc h1 h2 h3 h4 => (
    k_steps
    unfold Stop
    refine iter_tup1 rfl (D' _ h2) (by assumption) (by assumption) ?_
    intro I it h tk hI F N
    k_steps
    refine one_end (nx' := [_]) (by assumption) (by assumption) hI ?_
    intro h tk F N
    k_steps
    rename_i B' vs' ns' c' h' tk' F' N' lt' hi' hp' hs'
    simp at hp'; subst hp'
    walk_at "BACK"
    exact leave (mods' := []) (tl := [(B', listOf vs'.toArray c')]) hg' F' (News.sub N' (by simp)) rfl (by simp) ⟨B', vs', c', [], rfl, rfl, hi', by simp, by simp⟩)
  | sig h1 h2 h3 h4 => (
    k_steps
    unfold Stop
    refine iter_tup1 rfl (D' _ h2) (by assumption) (by assumption) ?_
    intro I it h tk hI F N
    have hdI : @Ne Nat _ I := hI _ (.head _)
    k_steps
    refine one_end (nx' := [_]) (by assumption) (by assumption) (fun q hq => by rw [List.mem_singleton.mp hq]; exact hdI) ?_
    intro h tk F N
    k_steps
    rename_i B' vs' ns' c' h' tk' F' N' lt' hi' hp' hs'
    simp [stored] at hp'; subst hp'
    walk_at "BACK"
    exact leave (mods' := []) (tl := [(B', listOf vs'.toArray c')]) hg' F' (News.sub N' (by simp)) rfl (by simp) ⟨B', vs', c', [0], rfl, rfl, hi', by simp, by simp⟩)
theorem sexprs_spec {w : World} {mg mb : Str → Option Value} {mean : ExcName → Option Value} {s : Shared} {h₀ : Heap} {dp un : Nat} {fr : Option (List Env)} {gd : Option (List Code)} {dat : List (Addr × Obj)} {v : Value} {st : St}
    (C : At w mg mb mean h₀ s []) (D : Has s.heap dat) (he : StL dat v st) (hd : dp < 480) (hu : un < 4800) :
    codeAny (model PySem.Challenge.pw_on0119_01 w) (A0 dp un fr gd) (.call (.ref 87) ⟨[v], []⟩)
      (Post s [] (ListPost (fun vs => All2 (ExL dat) vs st.exprs))) s := by
  k_with_none
  k_with "BACK" => ((try dsimp only [Mine.TurnEnd, PyProof.Rows.WhileStep2]); refine' Mine.back ?B ?_; (case B => assumption); (try dsimp only))
  k_with "ENTER2" => ((case kC => assumption); (case k6 => k_is); (case kb => (conv => lhs; whnf)); (case ks => (conv => lhs; whnf)); (case k7 => k_is); (case k8 => (simp only [recursionLimit]; omega)); (case k9 => exact BindsTo.of_eq rfl); (case c5 => decide); (case kB => exact locs rfl); (case c2 => exact rfl); (case c3 => exact rfl); (case c4 => exact rfl); k_whole; intro _ _ _ _ _ _ _ _ _ _ _ _ _ _ _ _ _; (try dsimp only))
  k_with "subscriptTail" => (k_here; (with_reducible show wpAny _ _ (subscriptTail _ _ (Value.ref _) (Value.int _ _)) _ _ _); k_dflt (refine' item_tupleT (Mine.has_tup ?F ?D ?M) ?a ?b ?c ?d ?_; (case F => k_asm); (case D => assumption); (case M => assumption); (case a => decide); (case b => decide); (case c => first | rfl | exact Mine.seq_zero); (case d => rfl); k_whole))
  k_with "exec While Name cons nil" => k_extra "WHILE"
  k_with "pyIter ref" => ((with_reducible show wpAny _ _ (pyIter (Value.ref _)) (fun it s₂ => LoopAtV _ _ _ _ _ _ _ _ _ it s₂) _ _); k_extra "ITER")
  k_with "call ref" => k_extra "CALL"
  k_with "call type:reversed" => k_extra "REV"
  k_with "call builtin:list.pop" => (k_here; k_dflt (first | ((with_reducible show wpAny _ _ (call (Value.builtin _) [Value.ref _]) _ _ _); refine' Mine.popLast ?F ?N ?U ?z ?_; (case F => k_asm); (case N => k_asm); (case U => k_upd); (case z => (rw [PySem.sizeLine_eq]; first | assumption | omega | exact Nat.le_of_ble_eq_true rfl))) | (refine' Mine.pop0 ?F ?N ?U ?z ?_; (case F => k_asm); (case N => k_asm); (case U => k_upd); (case z => (rw [PySem.sizeLine_eq]; first | assumption | omega | exact Nat.le_of_ble_eq_true rfl)))); intro _ _ _; (try k_sweep))
  k_with "call builtin:list.append" => (k_here; k_extra "APP"; k_dflt (refine' Mine.app_ ?F ?N ?U ?z ?_; (case F => k_asm); (case N => k_asm); (case U => k_upd); (case z => (rw [PySem.sizeLine_eq]; first | assumption | omega | exact Nat.le_of_ble_eq_true rfl))); intro _ _ _; (try k_sweep))
  k_with "USE0" => ((case F => assumption); (case N => assumption); (case C => exact Mine.at0 (by assumption) (by assumption) (by assumption)); (case hd => ((try dsimp only [Mine.A0, Around.deeper, Around.in1]); omega)); (case hu => ((try dsimp only [Mine.A0, Around.deeper, Around.in1]); omega)))
  k_with "setItem ref int" => (k_here; k_dflt (refine' setItem_K PyProof.V.same_int (intKind_is _ _ _ _) ?v ?F ?N ?U ?d ?f ?_ ?z; (case F => k_asm); (case N => k_asm); (case U => k_updF); (case d => assumption); (case f => assumption); (case z => (rw [PySem.sizeLine_eq]; first | omega | exact Nat.le_of_ble_eq_true rfl)); (case v => exact PyProof.V.Flat.bool _)); intro _ _ _ _ _ _; (try k_sweep))
  k_with "call builtin:sorted" => (k_here; k_dflt (refine' Mine.sorted_dict ?hh ?F ?N ?M ?d ?lo ?z ?_; (case hh => exact rfl); (case F => assumption); (case N => assumption); (case M => k_mem); (case d => assumption); (case lo => assumption); (case z => first | omega | exact Nat.le_of_ble_eq_true rfl)); intro _ _ _ _ _ _ _ _ _ _ _ _)
  k_with "exec For" => (k_here; (with_reducible show wpAny _ _ (exec (Stmt.For (Expr.Name _ _) _ _ [] _) _) _ _ _); (with_reducible rename Fr _ _ _ _ => kF); (with_unfolding_all refine' For_invVF kF ?k1 ?k2 ?_; (case k1 => exact rfl); (case k2 => exact rfl); k_whole))
  k_with "call type:list" => (k_here; (with_reducible show wpAny _ _ (call (Value.type _) [Value.ref _]) _ _ _); k_dflt (refine' list_copyKT ?F ?N (Mine.has_tup ?G ?D ?M) ?_ ?z; (case F => k_asm); (case N => k_asm); (case G => k_asm); (case D => assumption); (case M => assumption); (case z => exact Nat.le_of_ble_eq_true rfl)); intro _ _ _ _ _ l1; (try (replace l1 := allLt_of l1; dsimp only [AllLt] at l1; revert l1; intro _)); (try k_sweep))
  k_with "ALLQ" => (simp only [List.forall_mem_cons, List.mem_singleton, forall_eq]; assumption)
  k_with "subscriptTail" => (k_here; (with_reducible show wpAny _ _ (subscriptTail _ _ (Value.ref _) (Value.int _ _)) _ _ _); k_dflt (refine' Mine.item_dat ?F ?D ?M ?a ?b ?x ?_; (case F => k_asm); (case D => assumption); (case M => assumption); (case a => assumption); (case b => omega); (case x => assumption); k_whole))
  k_with "getAttr ref" => (k_here; k_dflt (refine' Mine.attr_dat ?F ?X ?D ?h1 ?h2 ?k4 ?k5 ?k6 ?k7 ?k8 ?k9 ?_; (case F => k_asm); (case X => k_asm); (case D => assumption); (case h1 => assumption); (case h2 => assumption); (case k4 => k_is); (case k5 => k_is); (case k6 => k_is); (case k7 => k_is); (case k8 => assumption); (case k9 => k_handed); k_whole))
  k_with "getMethod ref" => (k_here; k_dflt (refine' Mine.meth_dat ?F ?X ?D ?h1 ?h2 ?k4 ?k5 ?k6 ?k7 ?_; (case F => k_asm); (case X => k_asm); (case D => assumption); (case h1 => assumption); (case h2 => assumption); (case k4 => k_is); (case k5 => k_is); (case k6 => k_is); (case k7 => assumption); k_whole))
  k_with "compareOp NotIn int ref" => (k_here; k_dflt (refine' Mine.notin_dict ?N ?M ?d ?lo ?_; (case N => assumption); (case M => k_mem); (case d => assumption); (case lo => assumption)))
  k_with "call builtin:list.extend" => (k_here; k_extra "EXT"; k_dflt (refine' Mine.ext_ ?F ?N ?b ?U ?z ?_; (case F => k_asm); (case N => k_asm); (case b => k_mem); (case U => (intro c; k_upd)); (case z => omega)); intro _ _ _ _; (try k_sweep))
  k_with "call type:list" => (k_here; k_extra "COPY"; (with_reducible show wpAny _ _ (call (Value.type _) [Value.ref _]) _ _ _); k_dflt (refine' Mine.copy_ ?F ?N ?M ?z ?_; (case F => k_asm); (case N => k_asm); (case M => k_mem); (case z => omega)); intro _ _ _ _ _ l1; (try (replace l1 := allLt_of l1; dsimp only [AllLt] at l1; revert l1; intro _)); (try k_sweep))
  k_with "truthy ref" => (k_here; k_extra "TRU"; (with_reducible show wpAny _ _ (truthy (Value.ref _)) _ _ _); k_dflt (refine' Mine.truthy_ ?N ?M ?z ?_; (case N => k_asm); (case M => k_mem); (case z => first | assumption | omega)); intro _)
  k_with "USE1" => ((case F => assumption); (case N => assumption); (case U => k_updF); (case C => exact Mine.at1 (by assumption) (by assumption) (by assumption) (by assumption) (by k_mem)); (case hd => ((try dsimp only [Mine.A0, Around.deeper, Around.in1]); omega)); (case hu => ((try dsimp only [Mine.A0, Around.deeper, Around.in1]); omega)))
  k_with "setItem ref int" => (k_here; (with_reducible show wpAny _ _ (setItem (Value.ref _) (Value.int _ _) _) _ _ _); k_dflt (refine' Mine.set_ ?F ?N ?a ?b ?c ?U ?_; (case F => k_asm); (case N => k_asm); (case U => k_upd); (case a => omega); (case b => omega); (case c => omega)); intro _ _ _; (try k_sweep))
  k_with "exec Assign cons ListComp" => k_extra "COMP"
  k_with "eval ListComp" => k_extra "COMPE"
  k_with "CompSrc" => k_extra "CSRC"
  k_with "binaryOp Mult ref int" => k_extra "MUL"
  k_with "TAILS" => (intro p hp; repeat (first | exact hp | refine List.Mem.tail _ ?_))
  k_with "getMethod ref" => (k_here; k_dflt (refine' Mine.meth_news ?F ?X ?N ?h1 ?h2 ?S ?k4 ?k5 ?k6 ?k7 ?_; (case F => k_asm); (case X => k_asm); (case N => k_asm); (case h1 => assumption); (case h2 => assumption); (case S => walk_at "TAILS"); (case k4 => k_is); (case k5 => k_is); (case k6 => k_is); (case k7 => assumption); k_whole))
  k_with "GOFF" => (refine Mine.off3 ?_; repeat' (first | exact List.forall_mem_nil _ | assumption | refine List.forall_mem_cons.mpr ⟨⟨by (dsimp only; omega), by (dsimp only; omega), by (dsimp only; omega)⟩, ?_⟩))
  k_with "GCUP" => (unfold Mine.Stop; rintro v' h' tk' o' tl F' N' ho ⟨e1, vs1, n1', ts1, c, u, hm1, hi1, hl4, e2, hc0, hc1⟩; cases hm1; cases e1; cases e2; (try simp only [List.nil_append] at N'); clear ho)
  k_with "eval Constant int" => (k_here; (k_dflt (refine' Mine.const_int ?_)); intro _ _)
  k_with "eval Constant str" => (k_here; (k_dflt (refine' Mine.const_str ?_)); intro _ _)
  k_with "newTuple" => (k_here; k_dflt (refine' kup_newTuple ?F ?N ?_ ?z; (case F => k_asm); (case N => k_asm); (case z => exact Nat.le_of_ble_eq_true rfl)); intro _ _ _ _ l1; (try (replace l1 := allLt_of l1; dsimp only [AllLt] at l1; revert l1; intro _)); (try k_sweep))
  k_with "newList" => (k_here; k_dflt (refine' newList_K ?k1 ?k2 ?_; (case k1 => k_asm); (case k2 => k_asm); k_whole); intro _ _ _ _ l1; (try (replace l1 := allLt_of l1; dsimp only [AllLt] at l1; revert l1; intro _)); (try k_sweep))
  refine' enter (binds := [(Str.ofString "s", v)]) ?kC ?k6 ?kb ?ks ?k7 ?k8 ?k9 ?kB ?_ ?c2 ?c3 ?c4 ?c5; walk_at "ENTER2"
  rename_i g' L' h' hg' hz' hl' eL' X' T' F' N'
  have D' : Has g' dat := fun q hq => hg' _ _ (D q hq) (by simp)
  k_with "APP" => skip
  k_with "CALL" => (first
    | (refine' use0 ?F ?N (stargets_spec (dat := dat) ?C ?D he ?hd ?hu) ?_; (case D => exact has_now (by assumption) D'); walk_at "USE0"; refine stop_at ?_)
    | (refine' use0 ?F ?N (tindexes_spec (dat := dat) ?C ?D (by assumption) ?hd ?hu) ?_; (case D => exact has_now (by assumption) D'); walk_at "USE0"; refine stop_at ?_))
  cases id he with
  | set hs => cases hs with | mk h1 h2 h3 => (
      k_steps
      unfold Stop
      rintro v' h' tk' tl F' N' ho ⟨b, vs, n, rfl, rfl, hvs⟩
      obtain ⟨x, rfl, hx⟩ := hvs.one
      simp only [List.forall_mem_cons, List.mem_singleton, forall_eq] at ho
      (have hs9 := ho; (repeat (obtain ⟨_, hs9⟩ := hs9)))
      simp only [List.cons_append, List.nil_append] at N'
      k_steps
      unfold Stop
      rintro v' h' tk' tl F' N' ho ⟨b₂, vs₂, n₂, rfl, rfl, rfl⟩
      simp only [List.cons_append, List.nil_append] at N'
      simp only [List.forall_mem_cons, List.mem_singleton, forall_eq] at ho
      (have hs9 := ho; (repeat (obtain ⟨_, hs9⟩ := hs9)))
      k_steps
      walk_at "BACK"
      exact list_end (vs := [_]) hg' (by assumption) (by assumption) (.tail _ (.tail _ (.head _))) (.cons h3 .nil))
  | block h1 h2 h3 => (
      k_steps
      unfold Stop
      rintro v' h' tk' tl F' N' ho ⟨b, vs, n, rfl, rfl, ⟨⟩⟩
      simp only [List.cons_append, List.nil_append] at N'
      k_steps
      walk_at "BACK"
      exact list_end (vs := []) hg' (by assumption) (by assumption) (.tail _ (.head _)) .nil)
  | cond h1 h2 h3 => (
      k_steps
      unfold Stop
      rintro v' h' tk' tl F' N' ho ⟨b, vs, n, rfl, rfl, ⟨⟩⟩
      simp only [List.cons_append, List.nil_append] at N'
      k_steps
      walk_at "BACK"
      exact list_end (vs := [_]) hg' (by assumption) (by assumption) (.tail _ (.head _)) (.cons h2 .nil))
end Mine
namespace Mine
theorem sstmts_spec {w : World} {mg mb : Str → Option Value} {mean : ExcName → Option Value} {s : Shared} {h₀ : Heap} {dp un : Nat} {fr : Option (List Env)} {gd : Option (List Code)} {dat : List (Addr × Obj)} {v : Value} {st : St}
    (C : At w mg mb mean h₀ s []) (D : Has s.heap dat) (he : StL dat v st) (hd : dp < 480) (hu : un < 4800) :
    codeAny (model PySem.Challenge.pw_on0119_01 w) (A0 dp un fr gd) (.call (.ref 75) ⟨[v], []⟩)
      (Post s [] (ListPost (fun vs => All2 (StL dat) vs st.nodes))) s := by
  k_with_none
  k_with "BACK" => ((try dsimp only [Mine.TurnEnd, PyProof.Rows.WhileStep2]); refine' Mine.back ?B ?_; (case B => assumption); (try dsimp only))
  k_with "ENTER2" => ((case kC => assumption); (case k6 => k_is); (case kb => (conv => lhs; whnf)); (case ks => (conv => lhs; whnf)); (case k7 => k_is); (case k8 => (simp only [recursionLimit]; omega)); (case k9 => exact BindsTo.of_eq rfl); (case c5 => decide); (case kB => exact locs rfl); (case c2 => exact rfl); (case c3 => exact rfl); (case c4 => exact rfl); k_whole; intro _ _ _ _ _ _ _ _ _ _ _ _ _ _ _ _ _; (try dsimp only))
  k_with "subscriptTail" => (k_here; (with_reducible show wpAny _ _ (subscriptTail _ _ (Value.ref _) (Value.int _ _)) _ _ _); k_dflt (refine' item_tupleT (Mine.has_tup ?F ?D ?M) ?a ?b ?c ?d ?_; (case F => k_asm); (case D => assumption); (case M => assumption); (case a => decide); (case b => decide); (case c => first | rfl | exact Mine.seq_zero); (case d => rfl); k_whole))
  k_with "exec While Name cons nil" => k_extra "WHILE"
  k_with "pyIter ref" => ((with_reducible show wpAny _ _ (pyIter (Value.ref _)) (fun it s₂ => LoopAtV _ _ _ _ _ _ _ _ _ it s₂) _ _); k_extra "ITER")
  k_with "call ref" => k_extra "CALL"
  k_with "call type:reversed" => k_extra "REV"
  k_with "call builtin:list.pop" => (k_here; k_dflt (first | ((with_reducible show wpAny _ _ (call (Value.builtin _) [Value.ref _]) _ _ _); refine' Mine.popLast ?F ?N ?U ?z ?_; (case F => k_asm); (case N => k_asm); (case U => k_upd); (case z => (rw [PySem.sizeLine_eq]; first | assumption | omega | exact Nat.le_of_ble_eq_true rfl))) | (refine' Mine.pop0 ?F ?N ?U ?z ?_; (case F => k_asm); (case N => k_asm); (case U => k_upd); (case z => (rw [PySem.sizeLine_eq]; first | assumption | omega | exact Nat.le_of_ble_eq_true rfl)))); intro _ _ _; (try k_sweep))
  k_with "call builtin:list.append" => (k_here; k_extra "APP"; k_dflt (refine' Mine.app_ ?F ?N ?U ?z ?_; (case F => k_asm); (case N => k_asm); (case U => k_upd); (case z => (rw [PySem.sizeLine_eq]; first | assumption | omega | exact Nat.le_of_ble_eq_true rfl))); intro _ _ _; (try k_sweep))
  k_with "USE0" => ((case F => assumption); (case N => assumption); (case C => exact Mine.at0 (by assumption) (by assumption) (by assumption)); (case hd => ((try dsimp only [Mine.A0, Around.deeper, Around.in1]); omega)); (case hu => ((try dsimp only [Mine.A0, Around.deeper, Around.in1]); omega)))
  k_with "setItem ref int" => (k_here; k_dflt (refine' setItem_K PyProof.V.same_int (intKind_is _ _ _ _) ?v ?F ?N ?U ?d ?f ?_ ?z; (case F => k_asm); (case N => k_asm); (case U => k_updF); (case d => assumption); (case f => assumption); (case z => (rw [PySem.sizeLine_eq]; first | omega | exact Nat.le_of_ble_eq_true rfl)); (case v => exact PyProof.V.Flat.bool _)); intro _ _ _ _ _ _; (try k_sweep))
  k_with "call builtin:sorted" => (k_here; k_dflt (refine' Mine.sorted_dict ?hh ?F ?N ?M ?d ?lo ?z ?_; (case hh => exact rfl); (case F => assumption); (case N => assumption); (case M => k_mem); (case d => assumption); (case lo => assumption); (case z => first | omega | exact Nat.le_of_ble_eq_true rfl)); intro _ _ _ _ _ _ _ _ _ _ _ _)
  k_with "exec For" => (k_here; (with_reducible show wpAny _ _ (exec (Stmt.For (Expr.Name _ _) _ _ [] _) _) _ _ _); (with_reducible rename Fr _ _ _ _ => kF); (with_unfolding_all refine' For_invVF kF ?k1 ?k2 ?_; (case k1 => exact rfl); (case k2 => exact rfl); k_whole))
  k_with "call type:list" => (k_here; (with_reducible show wpAny _ _ (call (Value.type _) [Value.ref _]) _ _ _); k_dflt (refine' list_copyKT ?F ?N (Mine.has_tup ?G ?D ?M) ?_ ?z; (case F => k_asm); (case N => k_asm); (case G => k_asm); (case D => assumption); (case M => assumption); (case z => exact Nat.le_of_ble_eq_true rfl)); intro _ _ _ _ _ l1; (try (replace l1 := allLt_of l1; dsimp only [AllLt] at l1; revert l1; intro _)); (try k_sweep))
  k_with "ALLQ" => (simp only [List.forall_mem_cons, List.mem_singleton, forall_eq]; assumption)
  k_with "subscriptTail" => (k_here; (with_reducible show wpAny _ _ (subscriptTail _ _ (Value.ref _) (Value.int _ _)) _ _ _); k_dflt (refine' Mine.item_dat ?F ?D ?M ?a ?b ?x ?_; (case F => k_asm); (case D => assumption); (case M => assumption); (case a => assumption); (case b => omega); (case x => assumption); k_whole))
  k_with "getAttr ref" => (k_here; k_dflt (refine' Mine.attr_dat ?F ?X ?D ?h1 ?h2 ?k4 ?k5 ?k6 ?k7 ?k8 ?k9 ?_; (case F => k_asm); (case X => k_asm); (case D => assumption); (case h1 => assumption); (case h2 => assumption); (case k4 => k_is); (case k5 => k_is); (case k6 => k_is); (case k7 => k_is); (case k8 => assumption); (case k9 => k_handed); k_whole))
  k_with "getMethod ref" => (k_here; k_dflt (refine' Mine.meth_dat ?F ?X ?D ?h1 ?h2 ?k4 ?k5 ?k6 ?k7 ?_; (case F => k_asm); (case X => k_asm); (case D => assumption); (case h1 => assumption); (case h2 => assumption); (case k4 => k_is); (case k5 => k_is); (case k6 => k_is); (case k7 => assumption); k_whole))
  k_with "compareOp NotIn int ref" => (k_here; k_dflt (refine' Mine.notin_dict ?N ?M ?d ?lo ?_; (case N => assumption); (case M => k_mem); (case d => assumption); (case lo => assumption)))
  k_with "call builtin:list.extend" => (k_here; k_extra "EXT"; k_dflt (refine' Mine.ext_ ?F ?N ?b ?U ?z ?_; (case F => k_asm); (case N => k_asm); (case b => k_mem); (case U => (intro c; k_upd)); (case z => omega)); intro _ _ _ _; (try k_sweep))
  k_with "call type:list" => (k_here; k_extra "COPY"; (with_reducible show wpAny _ _ (call (Value.type _) [Value.ref _]) _ _ _); k_dflt (refine' Mine.copy_ ?F ?N ?M ?z ?_; (case F => k_asm); (case N => k_asm); (case M => k_mem); (case z => omega)); intro _ _ _ _ _ l1; (try (replace l1 := allLt_of l1; dsimp only [AllLt] at l1; revert l1; intro _)); (try k_sweep))
  k_with "truthy ref" => (k_here; k_extra "TRU"; (with_reducible show wpAny _ _ (truthy (Value.ref _)) _ _ _); k_dflt (refine' Mine.truthy_ ?N ?M ?z ?_; (case N => k_asm); (case M => k_mem); (case z => first | assumption | omega)); intro _)
  k_with "USE1" => ((case F => assumption); (case N => assumption); (case U => k_updF); (case C => exact Mine.at1 (by assumption) (by assumption) (by assumption) (by assumption) (by k_mem)); (case hd => ((try dsimp only [Mine.A0, Around.deeper, Around.in1]); omega)); (case hu => ((try dsimp only [Mine.A0, Around.deeper, Around.in1]); omega)))
  k_with "setItem ref int" => (k_here; (with_reducible show wpAny _ _ (setItem (Value.ref _) (Value.int _ _) _) _ _ _); k_dflt (refine' Mine.set_ ?F ?N ?a ?b ?c ?U ?_; (case F => k_asm); (case N => k_asm); (case U => k_upd); (case a => omega); (case b => omega); (case c => omega)); intro _ _ _; (try k_sweep))
  k_with "exec Assign cons ListComp" => k_extra "COMP"
  k_with "eval ListComp" => k_extra "COMPE"
  k_with "CompSrc" => k_extra "CSRC"
  k_with "binaryOp Mult ref int" => k_extra "MUL"
  k_with "TAILS" => (intro p hp; repeat (first | exact hp | refine List.Mem.tail _ ?_))
  k_with "getMethod ref" => (k_here; k_dflt (refine' Mine.meth_news ?F ?X ?N ?h1 ?h2 ?S ?k4 ?k5 ?k6 ?k7 ?_; (case F => k_asm); (case X => k_asm); (case N => k_asm); (case h1 => assumption); (case h2 => assumption); (case S => walk_at "TAILS"); (case k4 => k_is); (case k5 => k_is); (case k6 => k_is); (case k7 => assumption); k_whole))
  k_with "GOFF" => (refine Mine.off3 ?_; repeat' (first | exact List.forall_mem_nil _ | assumption | refine List.forall_mem_cons.mpr ⟨⟨by (dsimp only; omega), by (dsimp only; omega), by (dsimp only; omega)⟩, ?_⟩))
  k_with "GCUP" => (unfold Mine.Stop; rintro v' h' tk' o' tl F' N' ho ⟨e1, vs1, n1', ts1, c, u, hm1, hi1, hl4, e2, hc0, hc1⟩; cases hm1; cases e1; cases e2; (try simp only [List.nil_append] at N'); clear ho)
  k_with "eval Constant int" => (k_here; (k_dflt (refine' Mine.const_int ?_)); intro _ _)
  k_with "eval Constant str" => (k_here; (k_dflt (refine' Mine.const_str ?_)); intro _ _)
  k_with "newTuple" => (k_here; k_dflt (refine' kup_newTuple ?F ?N ?_ ?z; (case F => k_asm); (case N => k_asm); (case z => exact Nat.le_of_ble_eq_true rfl)); intro _ _ _ _ l1; (try (replace l1 := allLt_of l1; dsimp only [AllLt] at l1; revert l1; intro _)); (try k_sweep))
  k_with "newList" => (k_here; k_dflt (refine' newList_K ?k1 ?k2 ?_; (case k1 => k_asm); (case k2 => k_asm); k_whole); intro _ _ _ _ l1; (try (replace l1 := allLt_of l1; dsimp only [AllLt] at l1; revert l1; intro _)); (try k_sweep))
  refine' enter (binds := [(Str.ofString "s", v)]) ?kC ?k6 ?kb ?ks ?k7 ?k8 ?k9 ?kB ?_ ?c2 ?c3 ?c4 ?c5; walk_at "ENTER2"
  rename_i g' L' h' hg' hz' hl' eL' X' T' F' N'
  have D' : Has g' dat := fun q hq => hg' _ _ (D q hq) (by simp)
  obtain ⟨av, ov, rfl, hav⟩ : ∃ a o, v = .ref a ∧ (a, o) ∈ dat := by
    cases he with
    | set h => cases h; exact ⟨_, _, rfl, by assumption⟩
    | block h _ _ => exact ⟨_, _, rfl, h⟩
    | cond h _ _ => exact ⟨_, _, rfl, h⟩
  k_with "APP" => skip
  k_with "CALL" => (refine' use0 ?F ?N (sparts_spec (dat := dat) ?C ?D (by assumption) ?hd ?hu) ?_; (case D => exact has_now (by assumption) D'); walk_at "USE0"; refine stop_at ?_)
  k_steps
  all_goals unfold Stop
  rintro v' h' tk' tl F' N' ho ⟨b, vs, n, rfl, rfl, hvs⟩
  simp only [List.forall_mem_cons, List.mem_singleton, forall_eq] at ho
  (have hs9 := ho; (repeat (obtain ⟨_, hs9⟩ := hs9)))
  simp only [List.cons_append, List.nil_append] at N'
  cases id he with
  | set hs => (
      obtain rfl := hvs.none
      k_steps
      walk_at "BACK"
      exact list_end (vs := [_]) hg' (by assumption) (by assumption) (.tail _ (.tail _ (.head _))) (.cons he .nil))
  | block h1 h2 h3 => (
      obtain ⟨x, rfl, hx⟩ := hvs.one
      k_steps
      unfold Stop
      rintro v' h' tk' tl F' N' ho₂ ⟨b₂, vs₂, n₂, rfl, rfl, hvs₂⟩
      simp only [List.forall_mem_cons, List.mem_singleton, forall_eq] at ho₂
      (have hs9 := ho₂; (repeat (obtain ⟨_, hs9⟩ := hs9)))
      simp only [List.cons_append, List.nil_append] at N'
      obtain rfl := hvs₂.none
      k_steps
      walk_at "BACK"
      exact list_end (vs := [_, _]) hg' (by assumption) (by assumption) (.tail _ (.tail _ (.tail _ (.head _)))) (.cons he (.cons hx .nil)))
  | cond h1 h2 h3 => (
      obtain ⟨x, rfl, hx⟩ := hvs.one
      k_steps
      unfold Stop
      rintro v' h' tk' tl F' N' ho₂ ⟨b₂, vs₂, n₂, rfl, rfl, hvs₂⟩
      simp only [List.forall_mem_cons, List.mem_singleton, forall_eq] at ho₂
      (have hs9 := ho₂; (repeat (obtain ⟨_, hs9⟩ := hs9)))
      simp only [List.cons_append, List.nil_append] at N'
      obtain rfl := hvs₂.none
      k_steps
      walk_at "BACK"
      exact list_end (vs := [_, _]) hg' (by assumption) (by assumption) (.tail _ (.tail _ (.tail _ (.head _)))) (.cons he (.cons hx .nil)))
end Mine
namespace Mine
theorem or_rot {p a c : Prop} : (p ∨ a ∨ c) ↔ (a ∨ c ∨ p) := Iff.trans or_comm or_assoc
theorem take_or {α : Type} {l : List α} {i : Nat} {a : α} (h : l[i]? = some a) (R : α → Prop) : (∃ x ∈ l.take (i + 1), R x) ↔ (∃ x ∈ l.take i, R x) ∨ R a := by
  rw [List.take_add_one, h]
  constructor
  · rintro ⟨x, hx, r⟩
    rcases List.mem_append.mp hx with hx | hx
    · exact .inl ⟨x, hx, r⟩
    · simp at hx; exact .inr (hx ▸ r)
  · rintro (⟨x, hx, r⟩ | r)
    · exact ⟨x, by simp [hx], r⟩
    · exact ⟨a, by simp, r⟩
theorem ex_all {l : List Int} {x : Int} : (∃ k ∈ l.take l.length, x = k) ↔ x ∈ l := by
  rw [List.take_length]
  exact ⟨fun ⟨k, h, e⟩ => e ▸ h, fun h => ⟨x, h, rfl⟩⟩
/-- a dict of ints at x, its keys told, the rest of the ledger as it stood -/
def DJ (prog : Program) (w : World) (x : Str) (d : Addr) (P : Int → Prop) (c : Nat) (rest : List (Addr × Obj)) (m : Str → Option Value) (nx : List (Addr × Obj)) : Prop :=
  ∃ o kvs D, m x = some (.ref d) ∧ nx = (d, o) :: rest ∧ o.IsDictOf (intKind prog w) kvs ∧ PyProof.V.FlatPairs PyData.int kvs D ∧ kvs.length ≤ c ∧ D.length ≤ c ∧ ∀ k, k ∈ kvs.map (·.1) ↔ P k
theorem DJ.of {prog : Program} {w : World} {x : Str} {d : Addr} {P P' : Int → Prop} {c c' : Nat} {rest nx : List (Addr × Obj)} {m : Str → Option Value} (h : DJ prog w x d P c rest m nx) (hp : ∀ k, P k ↔ P' k) (hc : c ≤ c') : DJ prog w x d P' c' rest m nx :=
  let ⟨o, kvs, D, h1, h2, h3, h4, h5, h6, h7⟩ := h
  ⟨o, kvs, D, h1, h2, h3, h4, Nat.le_trans h5 hc, Nat.le_trans h6 hc, fun k => (h7 k).trans (hp k)⟩
theorem IntsAre.at {vs : List Value} {ks : List Int} (h : IntsAre vs ks) : ∀ {i : Nat} {v : Value}, vs[i]? = some v → ∃ k t, v = .int k t ∧ ks[i]? = some k := by
  induction h with
  | nil => intro i v e; simp at e
  | cons n t _ ih =>
    intro i v e
    cases i with
    | zero => simp at e; exact ⟨n, t, e.symm, rfl⟩
    | succ i => simpa using ih (by simpa using e)
def Ex.reads (e : Ex) (k : Int) : Prop := k = 0 ∧ (Ex.sig ∈ e.subs ∨ Ex.word ∈ e.subs)
def St.Small (st : St) : Prop := ∀ nd ∈ st.nodes, ∀ e ∈ nd.exprs, e.size ≤ 10
def St.all (K : Ex → Int → Prop) (st : St) (k : Int) : Prop := ∃ nd ∈ st.nodes, ∃ e ∈ nd.exprs, K e k

theorem sreads_spec {w : World} {mg mb : Str → Option Value} {mean : ExcName → Option Value} {s : Shared} {h₀ : Heap} {dp un : Nat} {fr : Option (List Env)} {gd : Option (List Code)} {dat : List (Addr × Obj)} {v : Value} {st : St}
    (C : At w mg mb mean h₀ s []) (D : Has s.heap dat) (he : StL dat v st) (hsm : st.Small) (hd : dp < 470) (hu : un < 4700) :
    codeAny (model PySem.Challenge.pw_on0119_01 w) (A0 dp un fr gd) (.call (.ref 94) ⟨[v], []⟩)
      (Post s [] (IntPost (st.all Ex.reads) 20)) s := by
  k_with_none
  k_with "BACK" => ((try dsimp only [Mine.TurnEnd, PyProof.Rows.WhileStep2]); refine' Mine.back ?B ?_; (case B => assumption); (try dsimp only))
  k_with "ENTER2" => ((case kC => assumption); (case k6 => k_is); (case kb => (conv => lhs; whnf)); (case ks => (conv => lhs; whnf)); (case k7 => k_is); (case k8 => (simp only [recursionLimit]; omega)); (case k9 => exact BindsTo.of_eq rfl); (case c5 => decide); (case kB => exact locs rfl); (case c2 => exact rfl); (case c3 => exact rfl); (case c4 => exact rfl); k_whole; intro _ _ _ _ _ _ _ _ _ _ _ _ _ _ _ _ _; (try dsimp only))
  k_with "subscriptTail" => (k_here; (with_reducible show wpAny _ _ (subscriptTail _ _ (Value.ref _) (Value.int _ _)) _ _ _); k_dflt (refine' item_tupleT (Mine.has_tup ?F ?D ?M) ?a ?b ?c ?d ?_; (case F => k_asm); (case D => assumption); (case M => assumption); (case a => decide); (case b => decide); (case c => first | rfl | exact Mine.seq_zero); (case d => rfl); k_whole))
  k_with "exec While Name cons nil" => k_extra "WHILE"
  k_with "pyIter ref" => ((with_reducible show wpAny _ _ (pyIter (Value.ref _)) (fun it s₂ => LoopAtV _ _ _ _ _ _ _ _ _ it s₂) _ _); k_extra "ITER")
  k_with "call ref" => k_extra "CALL"
  k_with "call type:reversed" => k_extra "REV"
  k_with "call builtin:list.pop" => (k_here; k_dflt (first | ((with_reducible show wpAny _ _ (call (Value.builtin _) [Value.ref _]) _ _ _); refine' Mine.popLast ?F ?N ?U ?z ?_; (case F => k_asm); (case N => k_asm); (case U => k_upd); (case z => (rw [PySem.sizeLine_eq]; first | assumption | omega | exact Nat.le_of_ble_eq_true rfl))) | (refine' Mine.pop0 ?F ?N ?U ?z ?_; (case F => k_asm); (case N => k_asm); (case U => k_upd); (case z => (rw [PySem.sizeLine_eq]; first | assumption | omega | exact Nat.le_of_ble_eq_true rfl)))); intro _ _ _; (try k_sweep))
  k_with "call builtin:list.append" => (k_here; k_extra "APP"; k_dflt (refine' Mine.app_ ?F ?N ?U ?z ?_; (case F => k_asm); (case N => k_asm); (case U => k_upd); (case z => (rw [PySem.sizeLine_eq]; first | assumption | omega | exact Nat.le_of_ble_eq_true rfl))); intro _ _ _; (try k_sweep))
  k_with "USE0" => ((case F => assumption); (case N => assumption); (case C => exact Mine.at0 (by assumption) (by assumption) (by assumption)); (case hd => ((try dsimp only [Mine.A0, Around.deeper, Around.in1]); omega)); (case hu => ((try dsimp only [Mine.A0, Around.deeper, Around.in1]); omega)))
  k_with "setItem ref int" => (k_here; k_dflt (refine' setItem_K PyProof.V.same_int (intKind_is _ _ _ _) ?v ?F ?N ?U ?d ?f ?_ ?z; (case F => k_asm); (case N => k_asm); (case U => k_updF); (case d => assumption); (case f => assumption); (case z => (rw [PySem.sizeLine_eq]; first | omega | exact Nat.le_of_ble_eq_true rfl)); (case v => exact PyProof.V.Flat.bool _)); intro _ _ _ _ _ _; (try k_sweep))
  k_with "call builtin:sorted" => (k_here; k_dflt (refine' Mine.sorted_dict ?hh ?F ?N ?M ?d ?lo ?z ?_; (case hh => exact rfl); (case F => assumption); (case N => assumption); (case M => k_mem); (case d => assumption); (case lo => assumption); (case z => first | omega | exact Nat.le_of_ble_eq_true rfl)); intro _ _ _ _ _ _ _ _ _ _ _ _)
  k_with "exec For" => (k_here; (with_reducible show wpAny _ _ (exec (Stmt.For (Expr.Name _ _) _ _ [] _) _) _ _ _); (with_reducible rename Fr _ _ _ _ => kF); (with_unfolding_all refine' For_invVF kF ?k1 ?k2 ?_; (case k1 => exact rfl); (case k2 => exact rfl); k_whole))
  k_with "call type:list" => (k_here; (with_reducible show wpAny _ _ (call (Value.type _) [Value.ref _]) _ _ _); k_dflt (refine' list_copyKT ?F ?N (Mine.has_tup ?G ?D ?M) ?_ ?z; (case F => k_asm); (case N => k_asm); (case G => k_asm); (case D => assumption); (case M => assumption); (case z => exact Nat.le_of_ble_eq_true rfl)); intro _ _ _ _ _ l1; (try (replace l1 := allLt_of l1; dsimp only [AllLt] at l1; revert l1; intro _)); (try k_sweep))
  k_with "ALLQ" => (simp only [List.forall_mem_cons, List.mem_singleton, forall_eq]; assumption)
  k_with "subscriptTail" => (k_here; (with_reducible show wpAny _ _ (subscriptTail _ _ (Value.ref _) (Value.int _ _)) _ _ _); k_dflt (refine' Mine.item_dat ?F ?D ?M ?a ?b ?x ?_; (case F => k_asm); (case D => assumption); (case M => assumption); (case a => assumption); (case b => omega); (case x => assumption); k_whole))
  k_with "getAttr ref" => (k_here; k_dflt (refine' Mine.attr_dat ?F ?X ?D ?h1 ?h2 ?k4 ?k5 ?k6 ?k7 ?k8 ?k9 ?_; (case F => k_asm); (case X => k_asm); (case D => assumption); (case h1 => assumption); (case h2 => assumption); (case k4 => k_is); (case k5 => k_is); (case k6 => k_is); (case k7 => k_is); (case k8 => assumption); (case k9 => k_handed); k_whole))
  k_with "getMethod ref" => (k_here; k_dflt (refine' Mine.meth_dat ?F ?X ?D ?h1 ?h2 ?k4 ?k5 ?k6 ?k7 ?_; (case F => k_asm); (case X => k_asm); (case D => assumption); (case h1 => assumption); (case h2 => assumption); (case k4 => k_is); (case k5 => k_is); (case k6 => k_is); (case k7 => assumption); k_whole))
  k_with "compareOp NotIn int ref" => (k_here; k_dflt (refine' Mine.notin_dict ?N ?M ?d ?lo ?_; (case N => assumption); (case M => k_mem); (case d => assumption); (case lo => assumption)))
  k_with "call builtin:list.extend" => (k_here; k_extra "EXT"; k_dflt (refine' Mine.ext_ ?F ?N ?b ?U ?z ?_; (case F => k_asm); (case N => k_asm); (case b => k_mem); (case U => (intro c; k_upd)); (case z => omega)); intro _ _ _ _; (try k_sweep))
  k_with "call type:list" => (k_here; k_extra "COPY"; (with_reducible show wpAny _ _ (call (Value.type _) [Value.ref _]) _ _ _); k_dflt (refine' Mine.copy_ ?F ?N ?M ?z ?_; (case F => k_asm); (case N => k_asm); (case M => k_mem); (case z => omega)); intro _ _ _ _ _ l1; (try (replace l1 := allLt_of l1; dsimp only [AllLt] at l1; revert l1; intro _)); (try k_sweep))
  k_with "truthy ref" => (k_here; k_extra "TRU"; (with_reducible show wpAny _ _ (truthy (Value.ref _)) _ _ _); k_dflt (refine' Mine.truthy_ ?N ?M ?z ?_; (case N => k_asm); (case M => k_mem); (case z => first | assumption | omega)); intro _)
  k_with "USE1" => ((case F => assumption); (case N => assumption); (case U => k_updF); (case C => exact Mine.at1 (by assumption) (by assumption) (by assumption) (by assumption) (by k_mem)); (case hd => ((try dsimp only [Mine.A0, Around.deeper, Around.in1]); omega)); (case hu => ((try dsimp only [Mine.A0, Around.deeper, Around.in1]); omega)))
  k_with "setItem ref int" => (k_here; (with_reducible show wpAny _ _ (setItem (Value.ref _) (Value.int _ _) _) _ _ _); k_dflt (refine' Mine.set_ ?F ?N ?a ?b ?c ?U ?_; (case F => k_asm); (case N => k_asm); (case U => k_upd); (case a => omega); (case b => omega); (case c => omega)); intro _ _ _; (try k_sweep))
  k_with "exec Assign cons ListComp" => k_extra "COMP"
  k_with "eval ListComp" => k_extra "COMPE"
  k_with "CompSrc" => k_extra "CSRC"
  k_with "binaryOp Mult ref int" => k_extra "MUL"
  k_with "TAILS" => (intro p hp; repeat (first | exact hp | refine List.Mem.tail _ ?_))
  k_with "getMethod ref" => (k_here; k_dflt (refine' Mine.meth_news ?F ?X ?N ?h1 ?h2 ?S ?k4 ?k5 ?k6 ?k7 ?_; (case F => k_asm); (case X => k_asm); (case N => k_asm); (case h1 => assumption); (case h2 => assumption); (case S => walk_at "TAILS"); (case k4 => k_is); (case k5 => k_is); (case k6 => k_is); (case k7 => assumption); k_whole))
  k_with "GOFF" => (refine Mine.off3 ?_; repeat' (first | exact List.forall_mem_nil _ | assumption | refine List.forall_mem_cons.mpr ⟨⟨by (dsimp only; omega), by (dsimp only; omega), by (dsimp only; omega)⟩, ?_⟩))
  k_with "GCUP" => (unfold Mine.Stop; rintro v' h' tk' o' tl F' N' ho ⟨e1, vs1, n1', ts1, c, u, hm1, hi1, hl4, e2, hc0, hc1⟩; cases hm1; cases e1; cases e2; (try simp only [List.nil_append] at N'); clear ho)
  k_with "eval Constant int" => (k_here; (k_dflt (refine' Mine.const_int ?_)); intro _ _)
  k_with "eval Constant str" => (k_here; (k_dflt (refine' Mine.const_str ?_)); intro _ _)
  k_with "newTuple" => (k_here; k_dflt (refine' kup_newTuple ?F ?N ?_ ?z; (case F => k_asm); (case N => k_asm); (case z => exact Nat.le_of_ble_eq_true rfl)); intro _ _ _ _ l1; (try (replace l1 := allLt_of l1; dsimp only [AllLt] at l1; revert l1; intro _)); (try k_sweep))
  k_with "newList" => (k_here; k_dflt (refine' newList_K ?k1 ?k2 ?_; (case k1 => k_asm); (case k2 => k_asm); k_whole); intro _ _ _ _ l1; (try (replace l1 := allLt_of l1; dsimp only [AllLt] at l1; revert l1; intro _)); (try k_sweep))
  refine' enter (binds := [(Str.ofString "s", v)]) ?kC ?k6 ?kb ?ks ?k7 ?k8 ?k9 ?kB ?_ ?c2 ?c3 ?c4 ?c5; walk_at "ENTER2"
  rename_i g' L' h' hg' hz' hl' eL' X' T' F' N'
  have D' : Has g' dat := fun q hq => hg' _ _ (D q hq) (by simp)
  k_with "ITER" => (refine stop_at ?_)
  k_with "CALL" => (refine' use0 ?F ?N (sstmts_spec (dat := dat) ?C ?D (by assumption) ?hd ?hu) ?_; (case D => exact has_now (by assumption) D'); walk_at "USE0"; refine stop_at ?_)
  k_steps
  unfold Stop
  rename_i d _ o lo _ _ hdo hfl _ _ _ _
  rintro v' h' tk' tl F' N' ho ⟨b, vs, n, rfl, rfl, hvs⟩
  simp only [List.forall_mem_cons, List.mem_singleton, forall_eq] at ho
  (have hs9 := ho; (repeat (obtain ⟨_, hs9⟩ := hs9)))
  simp only [List.cons_append, List.nil_append] at N'
  k_steps
  unfold Stop
  refine' iter_list (fun i => DJ PySem.Challenge.pw_on0119_01 w (Str.ofString "keys") d (fun k => ∃ nd ∈ st.nodes.take i, ∃ e ∈ nd.exprs, Ex.reads e k) (10 * i) [(b, listOf vs.toArray n)]) rfl (N' _ (.head _)).1 (Ne.symm (N' _ (.head _)).2.1) F'
    (News.sub (news' := [(d, o), (b, listOf vs.toArray n)]) N' (by simp)) (.inr ?hk) ⟨o, [], [], rfl, rfl, hdo, hfl, Nat.le_refl _, Nat.le_refl _, by simp⟩ ?turn ?done
  case hk => rintro i m nx ⟨o, kvs, Dd, -, rfl, -⟩; exact .tail _ (.head _)
  case turn =>
    clear F' N' hdo hfl
    rintro I i z m₁ nx it h tk hv ⟨o, kvs, Dd, hnum, rfl, hdo, hfl, hlen, hlen2, hks⟩ hI F N
    rw [loc1 hnum] at F
    obtain ⟨nd, hnd, hx⟩ := hvs.get hv
    simp only [List.forall_mem_cons, List.mem_singleton, forall_eq] at hI
    (have hs9 := hI; (repeat (obtain ⟨_, hs9⟩ := hs9)))
    k_with "CALL" => (refine' use0 ?F ?N (sexprs_spec (dat := dat) ?C ?D hx ?hd ?hu) ?_; (case D => exact has_now (by assumption) D'); walk_at "USE0"; refine stop_at ?_)
    k_steps
    unfold Stop
    rintro v' h' tk' tl F' N' ho₂ ⟨b₂, vs₂, n₂, rfl, rfl, hvs₂⟩
    simp only [List.forall_mem_cons, List.mem_singleton, forall_eq] at ho₂
    (have hs9 := ho₂; (repeat (obtain ⟨_, hs9⟩ := hs9)))
    simp only [List.cons_append, List.nil_append] at N'
    k_steps
    unfold Stop
    refine' iter_list (fun j => DJ PySem.Challenge.pw_on0119_01 w (Str.ofString "keys") d (fun k => (∃ nd ∈ st.nodes.take i, ∃ e ∈ nd.exprs, Ex.reads e k) ∨ ∃ e ∈ nd.exprs.take j, Ex.reads e k) (10 * i + 10 * j) [(b₂, listOf vs₂.toArray n₂), (I, it), (b, listOf vs.toArray n)]) rfl (N' _ (.head _)).1 (Ne.symm (N' _ (.head _)).2.1) F'
      (News.sub (news' := [(d, o), (b₂, listOf vs₂.toArray n₂), (I, it), (b, listOf vs.toArray n)]) N' (by simp)) (.inr ?hk2) ⟨o, kvs, Dd, rfl, rfl, hdo, hfl, hlen, hlen2, by simpa using hks⟩ ?turn2 ?done2
    case hk2 => rintro i m nx ⟨o, kvs, Dd, -, rfl, -⟩; exact .tail _ (.head _)
    case turn2 =>
      clear F' N' hdo hfl hlen hlen2 hks
      rintro I₂ j z₂ m₂ nx it₂ h tk hv₂ ⟨o, kvs, Dd, hnum₂, rfl, hdo, hfl, hlen, hlen2, hks⟩ hI₂ F N
      rw [loc1 hnum₂] at F
      obtain ⟨e, hex, hxe⟩ := hvs₂.get hv₂
      have hsz := hsm nd (List.mem_of_getElem? hnd) e (List.mem_of_getElem? hex)
      simp only [List.forall_mem_cons, List.mem_singleton, forall_eq] at hI₂
      (have hs9 := hI₂; (repeat (obtain ⟨_, hs9⟩ := hs9)))
      k_with "CALL" => (refine' use0 ?F ?N (reads_spec (dat := dat) ?C ?D hxe (by omega) ?hd ?hu) ?_; (case D => exact has_now (by assumption) D'); walk_at "USE0"; refine stop_at ?_)
      k_steps
      unfold Stop
      rintro v' h' tk' tl F' N' ho₃ ⟨b₃, vs₃, n₃, ks, rfl, rfl, hi₃, hk₃, hl₃⟩
      simp only [List.forall_mem_cons, List.mem_singleton, forall_eq] at ho₃
      (have hs9 := ho₃; (repeat (obtain ⟨_, hs9⟩ := hs9)))
      simp only [List.cons_append, List.nil_append] at N'
      k_steps
      unfold Stop
      refine' iter_list (fun l => DJ PySem.Challenge.pw_on0119_01 w (Str.ofString "keys") d (fun k => ((∃ nd ∈ st.nodes.take i, ∃ e ∈ nd.exprs, Ex.reads e k) ∨ ∃ e ∈ nd.exprs.take j, Ex.reads e k) ∨ ∃ k' ∈ ks.take l, k = k') (10 * i + 10 * j + l) [(b₃, listOf vs₃.toArray n₃), (I₂, it₂), (b₂, listOf vs₂.toArray n₂), (I, it), (b, listOf vs.toArray n)]) rfl (N' _ (.head _)).1 (Ne.symm (N' _ (.head _)).2.1) F'
        (News.sub (news' := [(d, o), (b₃, listOf vs₃.toArray n₃), (I₂, it₂), (b₂, listOf vs₂.toArray n₂), (I, it), (b, listOf vs.toArray n)]) N' (by simp)) (.inr ?hk3) ⟨o, kvs, Dd, rfl, rfl, hdo, hfl, hlen, hlen2, by simpa using hks⟩ ?turn3 ?done3
      case hk3 => rintro i m nx ⟨o, kvs, Dd, -, rfl, -⟩; exact .tail _ (.head _)
      case turn3 =>
        clear F' N' hdo hfl hlen hlen2 hks
        rintro I₃ l z₃ m₃ nx it₃ h tk hv₃ ⟨o, kvs, Dd, hnum₃, rfl, hdo, hfl, hlen, hlen2, hks⟩ hI₃ F N
        rw [loc1 hnum₃] at F
        obtain ⟨k, t, rfl, hk⟩ := IntsAre.at hi₃ hv₃
        have hll := (List.getElem?_eq_some_iff.mp hk).1
        simp only [List.forall_mem_cons, List.mem_singleton, forall_eq] at hI₃
        (have hs9 := hI₃; (repeat (obtain ⟨_, hs9⟩ := hs9)))
        have hii := (List.getElem?_eq_some_iff.mp hnd).1
        have hjj := (List.getElem?_eq_some_iff.mp hex).1
        have hi2 : st.nodes.length ≤ 2 := by cases st <;> simp [St.nodes, St.parts]
        have hj1 : nd.exprs.length ≤ 1 := by cases nd <;> simp [St.exprs]
        k_steps
        rename_i h' o' F' N' hd' hf'
        have hl1 : ∀ k, (stored kvs k (.bool true)).length ≤ 10 * i + 10 * j + (l + 1) := fun k => Nat.le_trans (stored_length_le kvs k (.bool true)) (Nat.succ_le_succ hlen)
        exact ⟨_, _, _, (d, o') :: _, rfl, by assumption, by assumption, by walk_at "ALLQ", o', _, _, rfl, rfl, hd', hf', hl1 _, hf'.length ▸ hl1 _, fun x => (stored_keys kvs k _ x).trans (by rw [hks x]; dsimp only; rw [take_or hk]; exact or_rot)⟩
      case done3 =>
        clear F' N' hdo hfl hlen hlen2 hks
        rintro m₃ nx h tk ⟨o, kvs, Dd, hnum₃, rfl, hdo, hfl, hlen, hlen2, hks⟩ F N
        dsimp only
        k_steps
        have hl3 := hi₃.length
        have hb : kvs.length ≤ 10 * i + 10 * (j + 1) := by omega
        exact ⟨_, _, _, (d, o) :: _, rfl, by assumption, News.sub (news' := [(I₂, it₂), (d, o), (b₂, listOf vs₂.toArray n₂), (I, it), (b, listOf vs.toArray n)]) N (by simp), by walk_at "ALLQ", o, kvs, Dd, hnum₃, rfl, hdo, hfl, hb, hfl.length ▸ hb, fun x => by rw [hks x]; dsimp only; rw [take_or hex, hl3, ex_all, hk₃ x]; exact or_assoc⟩
    case done2 =>
      clear F' N' hdo hfl hlen hlen2 hks
      rintro m₂ nx h tk ⟨o, kvs, Dd, hnum₂, rfl, hdo, hfl, hlen, hlen2, hks⟩ F N
      dsimp only
      k_steps
      have hj1 : vs₂.length ≤ 1 := by rw [hvs₂.length]; cases nd <;> simp [St.exprs]
      have hb : kvs.length ≤ 10 * (i + 1) := by omega
      exact ⟨_, _, _, (d, o) :: _, rfl, by assumption, News.sub (news' := [(I, it), (d, o), (b, listOf vs.toArray n)]) N (by simp), by walk_at "ALLQ", o, kvs, Dd, hnum₂, rfl, hdo, hfl, hb, hfl.length ▸ hb, fun x => by rw [hks x]; dsimp only; rw [take_or hnd, hvs₂.length, List.take_length]⟩
  case done =>
    clear F' N' hdo hfl
    rintro m₁ nx h tk ⟨o, kvs, Dd, hnum, rfl, hdo, hfl, hlen, hlen2, hks⟩ F N
    rw [loc1 hnum] at F
    have hi2 : vs.length ≤ 2 := by rw [hvs.length]; cases st <;> simp [St.nodes, St.parts]
    dsimp only
    k_steps
    rename_i B' vs' ns' c' h' tk' F' N' lt' hi' hp' hs'
    walk_at "BACK"
    refine leave (mods' := []) (tl := [(B', listOf vs'.toArray c')]) hg' F' (News.sub N' (by simp)) rfl (by simp) ⟨B', vs', c', ns', rfl, rfl, hi', fun k => by rw [hp'.mem_iff, hks k, hvs.length, List.take_length]; rfl, ?_⟩
    have := hp'.length_eq
    rw [List.length_map] at this
    omega
end Mine
namespace Mine
def Ex.calls (e : Ex) (k : Int) : Prop := Ex.call k ∈ e.subs
theorem stl_tag {dat : List (Addr × Obj)} {v : Value} {st : St} (h : StL dat v st) : ∃ a tg t rest, v = .ref a ∧ (a, tup (S tg t :: rest)) ∈ dat ∧ Str.ofString tg ≠ Str.ofString "call" := by
  cases h with
  | set h => cases h with | mk h _ _ => exact ⟨_, _, _, _, rfl, h, by decide⟩
  | block h _ _ => exact ⟨_, _, _, _, rfl, h, by decide⟩
  | cond h _ _ => exact ⟨_, _, _, _, rfl, h, by decide⟩
theorem scalls_spec {w : World} {mg mb : Str → Option Value} {mean : ExcName → Option Value} {s : Shared} {h₀ : Heap} {dp un : Nat} {fr : Option (List Env)} {gd : Option (List Code)} {dat : List (Addr × Obj)} {v : Value} {st : St}
    (C : At w mg mb mean h₀ s []) (D : Has s.heap dat) (he : StL dat v st) (hsm : st.Small) (hd : dp < 470) (hu : un < 4700) :
    codeAny (model PySem.Challenge.pw_on0119_01 w) (A0 dp un fr gd) (.call (.ref 108) ⟨[v], []⟩)
      (Post s [] (IntPost (st.all Ex.calls) 20)) s := by
  k_with_none
  k_with "BACK" => ((try dsimp only [Mine.TurnEnd, PyProof.Rows.WhileStep2]); refine' Mine.back ?B ?_; (case B => assumption); (try dsimp only))
  k_with "ENTER2" => ((case kC => assumption); (case k6 => k_is); (case kb => (conv => lhs; whnf)); (case ks => (conv => lhs; whnf)); (case k7 => k_is); (case k8 => (simp only [recursionLimit]; omega)); (case k9 => exact BindsTo.of_eq rfl); (case c5 => decide); (case kB => exact locs rfl); (case c2 => exact rfl); (case c3 => exact rfl); (case c4 => exact rfl); k_whole; intro _ _ _ _ _ _ _ _ _ _ _ _ _ _ _ _ _; (try dsimp only))
  k_with "subscriptTail" => (k_here; (with_reducible show wpAny _ _ (subscriptTail _ _ (Value.ref _) (Value.int _ _)) _ _ _); k_dflt (refine' item_tupleT (Mine.has_tup ?F ?D ?M) ?a ?b ?c ?d ?_; (case F => k_asm); (case D => assumption); (case M => assumption); (case a => decide); (case b => decide); (case c => first | rfl | exact Mine.seq_zero); (case d => rfl); k_whole))
  k_with "exec While Name cons nil" => k_extra "WHILE"
  k_with "pyIter ref" => ((with_reducible show wpAny _ _ (pyIter (Value.ref _)) (fun it s₂ => LoopAtV _ _ _ _ _ _ _ _ _ it s₂) _ _); k_extra "ITER")
  k_with "call ref" => k_extra "CALL"
  k_with "call type:reversed" => k_extra "REV"
  k_with "call builtin:list.pop" => (k_here; k_dflt (first | ((with_reducible show wpAny _ _ (call (Value.builtin _) [Value.ref _]) _ _ _); refine' Mine.popLast ?F ?N ?U ?z ?_; (case F => k_asm); (case N => k_asm); (case U => k_upd); (case z => (rw [PySem.sizeLine_eq]; first | assumption | omega | exact Nat.le_of_ble_eq_true rfl))) | (refine' Mine.pop0 ?F ?N ?U ?z ?_; (case F => k_asm); (case N => k_asm); (case U => k_upd); (case z => (rw [PySem.sizeLine_eq]; first | assumption | omega | exact Nat.le_of_ble_eq_true rfl)))); intro _ _ _; (try k_sweep))
  k_with "call builtin:list.append" => (k_here; k_extra "APP"; k_dflt (refine' Mine.app_ ?F ?N ?U ?z ?_; (case F => k_asm); (case N => k_asm); (case U => k_upd); (case z => (rw [PySem.sizeLine_eq]; first | assumption | omega | exact Nat.le_of_ble_eq_true rfl))); intro _ _ _; (try k_sweep))
  k_with "USE0" => ((case F => assumption); (case N => assumption); (case C => exact Mine.at0 (by assumption) (by assumption) (by assumption)); (case hd => ((try dsimp only [Mine.A0, Around.deeper, Around.in1]); omega)); (case hu => ((try dsimp only [Mine.A0, Around.deeper, Around.in1]); omega)))
  k_with "setItem ref int" => (k_here; k_dflt (refine' setItem_K PyProof.V.same_int (intKind_is _ _ _ _) ?v ?F ?N ?U ?d ?f ?_ ?z; (case F => k_asm); (case N => k_asm); (case U => k_updF); (case d => assumption); (case f => assumption); (case z => (rw [PySem.sizeLine_eq]; first | omega | exact Nat.le_of_ble_eq_true rfl)); (case v => exact PyProof.V.Flat.bool _)); intro _ _ _ _ _ _; (try k_sweep))
  k_with "call builtin:sorted" => (k_here; k_dflt (refine' Mine.sorted_dict ?hh ?F ?N ?M ?d ?lo ?z ?_; (case hh => exact rfl); (case F => assumption); (case N => assumption); (case M => k_mem); (case d => assumption); (case lo => assumption); (case z => first | omega | exact Nat.le_of_ble_eq_true rfl)); intro _ _ _ _ _ _ _ _ _ _ _ _)
  k_with "exec For" => (k_here; (with_reducible show wpAny _ _ (exec (Stmt.For (Expr.Name _ _) _ _ [] _) _) _ _ _); (with_reducible rename Fr _ _ _ _ => kF); (with_unfolding_all refine' For_invVF kF ?k1 ?k2 ?_; (case k1 => exact rfl); (case k2 => exact rfl); k_whole))
  k_with "call type:list" => (k_here; (with_reducible show wpAny _ _ (call (Value.type _) [Value.ref _]) _ _ _); k_dflt (refine' list_copyKT ?F ?N (Mine.has_tup ?G ?D ?M) ?_ ?z; (case F => k_asm); (case N => k_asm); (case G => k_asm); (case D => assumption); (case M => assumption); (case z => exact Nat.le_of_ble_eq_true rfl)); intro _ _ _ _ _ l1; (try (replace l1 := allLt_of l1; dsimp only [AllLt] at l1; revert l1; intro _)); (try k_sweep))
  k_with "ALLQ" => (simp only [List.forall_mem_cons, List.mem_singleton, forall_eq]; assumption)
  k_with "subscriptTail" => (k_here; (with_reducible show wpAny _ _ (subscriptTail _ _ (Value.ref _) (Value.int _ _)) _ _ _); k_dflt (refine' Mine.item_dat ?F ?D ?M ?a ?b ?x ?_; (case F => k_asm); (case D => assumption); (case M => assumption); (case a => assumption); (case b => omega); (case x => assumption); k_whole))
  k_with "getAttr ref" => (k_here; k_dflt (refine' Mine.attr_dat ?F ?X ?D ?h1 ?h2 ?k4 ?k5 ?k6 ?k7 ?k8 ?k9 ?_; (case F => k_asm); (case X => k_asm); (case D => assumption); (case h1 => assumption); (case h2 => assumption); (case k4 => k_is); (case k5 => k_is); (case k6 => k_is); (case k7 => k_is); (case k8 => assumption); (case k9 => k_handed); k_whole))
  k_with "getMethod ref" => (k_here; k_dflt (refine' Mine.meth_dat ?F ?X ?D ?h1 ?h2 ?k4 ?k5 ?k6 ?k7 ?_; (case F => k_asm); (case X => k_asm); (case D => assumption); (case h1 => assumption); (case h2 => assumption); (case k4 => k_is); (case k5 => k_is); (case k6 => k_is); (case k7 => assumption); k_whole))
  k_with "compareOp NotIn int ref" => (k_here; k_dflt (refine' Mine.notin_dict ?N ?M ?d ?lo ?_; (case N => assumption); (case M => k_mem); (case d => assumption); (case lo => assumption)))
  k_with "call builtin:list.extend" => (k_here; k_extra "EXT"; k_dflt (refine' Mine.ext_ ?F ?N ?b ?U ?z ?_; (case F => k_asm); (case N => k_asm); (case b => k_mem); (case U => (intro c; k_upd)); (case z => omega)); intro _ _ _ _; (try k_sweep))
  k_with "call type:list" => (k_here; k_extra "COPY"; (with_reducible show wpAny _ _ (call (Value.type _) [Value.ref _]) _ _ _); k_dflt (refine' Mine.copy_ ?F ?N ?M ?z ?_; (case F => k_asm); (case N => k_asm); (case M => k_mem); (case z => omega)); intro _ _ _ _ _ l1; (try (replace l1 := allLt_of l1; dsimp only [AllLt] at l1; revert l1; intro _)); (try k_sweep))
  k_with "truthy ref" => (k_here; k_extra "TRU"; (with_reducible show wpAny _ _ (truthy (Value.ref _)) _ _ _); k_dflt (refine' Mine.truthy_ ?N ?M ?z ?_; (case N => k_asm); (case M => k_mem); (case z => first | assumption | omega)); intro _)
  k_with "USE1" => ((case F => assumption); (case N => assumption); (case U => k_updF); (case C => exact Mine.at1 (by assumption) (by assumption) (by assumption) (by assumption) (by k_mem)); (case hd => ((try dsimp only [Mine.A0, Around.deeper, Around.in1]); omega)); (case hu => ((try dsimp only [Mine.A0, Around.deeper, Around.in1]); omega)))
  k_with "setItem ref int" => (k_here; (with_reducible show wpAny _ _ (setItem (Value.ref _) (Value.int _ _) _) _ _ _); k_dflt (refine' Mine.set_ ?F ?N ?a ?b ?c ?U ?_; (case F => k_asm); (case N => k_asm); (case U => k_upd); (case a => omega); (case b => omega); (case c => omega)); intro _ _ _; (try k_sweep))
  k_with "exec Assign cons ListComp" => k_extra "COMP"
  k_with "eval ListComp" => k_extra "COMPE"
  k_with "CompSrc" => k_extra "CSRC"
  k_with "binaryOp Mult ref int" => k_extra "MUL"
  k_with "TAILS" => (intro p hp; repeat (first | exact hp | refine List.Mem.tail _ ?_))
  k_with "getMethod ref" => (k_here; k_dflt (refine' Mine.meth_news ?F ?X ?N ?h1 ?h2 ?S ?k4 ?k5 ?k6 ?k7 ?_; (case F => k_asm); (case X => k_asm); (case N => k_asm); (case h1 => assumption); (case h2 => assumption); (case S => walk_at "TAILS"); (case k4 => k_is); (case k5 => k_is); (case k6 => k_is); (case k7 => assumption); k_whole))
  k_with "GOFF" => (refine Mine.off3 ?_; repeat' (first | exact List.forall_mem_nil _ | assumption | refine List.forall_mem_cons.mpr ⟨⟨by (dsimp only; omega), by (dsimp only; omega), by (dsimp only; omega)⟩, ?_⟩))
  k_with "GCUP" => (unfold Mine.Stop; rintro v' h' tk' o' tl F' N' ho ⟨e1, vs1, n1', ts1, c, u, hm1, hi1, hl4, e2, hc0, hc1⟩; cases hm1; cases e1; cases e2; (try simp only [List.nil_append] at N'); clear ho)
  k_with "eval Constant int" => (k_here; (k_dflt (refine' Mine.const_int ?_)); intro _ _)
  k_with "eval Constant str" => (k_here; (k_dflt (refine' Mine.const_str ?_)); intro _ _)
  k_with "newTuple" => (k_here; k_dflt (refine' kup_newTuple ?F ?N ?_ ?z; (case F => k_asm); (case N => k_asm); (case z => exact Nat.le_of_ble_eq_true rfl)); intro _ _ _ _ l1; (try (replace l1 := allLt_of l1; dsimp only [AllLt] at l1; revert l1; intro _)); (try k_sweep))
  k_with "newList" => (k_here; k_dflt (refine' newList_K ?k1 ?k2 ?_; (case k1 => k_asm); (case k2 => k_asm); k_whole); intro _ _ _ _ l1; (try (replace l1 := allLt_of l1; dsimp only [AllLt] at l1; revert l1; intro _)); (try k_sweep))
  refine' enter (binds := [(Str.ofString "s", v)]) ?kC ?k6 ?kb ?ks ?k7 ?k8 ?k9 ?kB ?_ ?c2 ?c3 ?c4 ?c5; walk_at "ENTER2"
  rename_i g' L' h' hg' hz' hl' eL' X' T' F' N'
  have D' : Has g' dat := fun q hq => hg' _ _ (D q hq) (by simp)
  k_with "ITER" => (refine stop_at ?_)
  k_with "CALL" => (refine' use0 ?F ?N (sstmts_spec (dat := dat) ?C ?D (by assumption) ?hd ?hu) ?_; (case D => exact has_now (by assumption) D'); walk_at "USE0"; refine stop_at ?_)
  k_steps
  unfold Stop
  rename_i d _ o lo _ _ hdo hfl _ _ _ _
  rintro v' h' tk' tl F' N' ho ⟨b, vs, n, rfl, rfl, hvs⟩
  simp only [List.forall_mem_cons, List.mem_singleton, forall_eq] at ho
  (have hs9 := ho; (repeat (obtain ⟨_, hs9⟩ := hs9)))
  simp only [List.cons_append, List.nil_append] at N'
  k_steps
  unfold Stop
  refine' iter_list (fun i => DJ PySem.Challenge.pw_on0119_01 w (Str.ofString "numbers") d (fun k => ∃ nd ∈ st.nodes.take i, ∃ e ∈ nd.exprs, Ex.calls e k) (10 * i) [(b, listOf vs.toArray n)]) rfl (N' _ (.head _)).1 (Ne.symm (N' _ (.head _)).2.1) F'
    (News.sub (news' := [(d, o), (b, listOf vs.toArray n)]) N' (by simp)) (.inr ?hk) ⟨o, [], [], rfl, rfl, hdo, hfl, Nat.le_refl _, Nat.le_refl _, by simp⟩ ?turn ?done
  case hk => rintro i m nx ⟨o, kvs, Dd, -, rfl, -⟩; exact .tail _ (.head _)
  case turn =>
    clear F' N' hdo hfl
    rintro I i z m₁ nx it h tk hv ⟨o, kvs, Dd, hnum, rfl, hdo, hfl, hlen, hlen2, hks⟩ hI F N
    rw [loc1 hnum] at F
    obtain ⟨nd, hnd, hx⟩ := hvs.get hv
    simp only [List.forall_mem_cons, List.mem_singleton, forall_eq] at hI
    (have hs9 := hI; (repeat (obtain ⟨_, hs9⟩ := hs9)))
    obtain ⟨az, tg, tz, rz, rfl, hz9, hne9⟩ := stl_tag hx
    k_with "CALL" => (refine' use0 ?F ?N (sexprs_spec (dat := dat) ?C ?D hx ?hd ?hu) ?_; (case D => exact has_now (by assumption) D'); walk_at "USE0"; refine stop_at ?_)
    k_steps
    · exact absurd (of_decide_eq_true (by assumption)) hne9
    unfold Stop
    rintro v' h' tk' tl F' N' ho₂ ⟨b₂, vs₂, n₂, rfl, rfl, hvs₂⟩
    simp only [List.forall_mem_cons, List.mem_singleton, forall_eq] at ho₂
    (have hs9 := ho₂; (repeat (obtain ⟨_, hs9⟩ := hs9)))
    simp only [List.cons_append, List.nil_append] at N'
    k_steps
    unfold Stop
    refine' iter_list (fun j => DJ PySem.Challenge.pw_on0119_01 w (Str.ofString "numbers") d (fun k => (∃ nd ∈ st.nodes.take i, ∃ e ∈ nd.exprs, Ex.calls e k) ∨ ∃ e ∈ nd.exprs.take j, Ex.calls e k) (10 * i + 10 * j) [(b₂, listOf vs₂.toArray n₂), (I, it), (b, listOf vs.toArray n)]) rfl (N' _ (.head _)).1 (Ne.symm (N' _ (.head _)).2.1) F'
      (News.sub (news' := [(d, o), (b₂, listOf vs₂.toArray n₂), (I, it), (b, listOf vs.toArray n)]) N' (by simp)) (.inr ?hk2) ⟨o, kvs, Dd, rfl, rfl, hdo, hfl, hlen, hlen2, by simpa using hks⟩ ?turn2 ?done2
    case hk2 => rintro i m nx ⟨o, kvs, Dd, -, rfl, -⟩; exact .tail _ (.head _)
    case turn2 =>
      clear F' N' hdo hfl hlen hlen2 hks
      rintro I₂ j z₂ m₂ nx it₂ h tk hv₂ ⟨o, kvs, Dd, hnum₂, rfl, hdo, hfl, hlen, hlen2, hks⟩ hI₂ F N
      rw [loc1 hnum₂] at F
      obtain ⟨e, hex, hxe⟩ := hvs₂.get hv₂
      have hsz := hsm nd (List.mem_of_getElem? hnd) e (List.mem_of_getElem? hex)
      simp only [List.forall_mem_cons, List.mem_singleton, forall_eq] at hI₂
      (have hs9 := hI₂; (repeat (obtain ⟨_, hs9⟩ := hs9)))
      k_with "CALL" => (refine' use0 ?F ?N (calls_spec (dat := dat) ?C ?D hxe (by omega) ?hd ?hu) ?_; (case D => exact has_now (by assumption) D'); walk_at "USE0"; refine stop_at ?_)
      k_steps
      unfold Stop
      rintro v' h' tk' tl F' N' ho₃ ⟨b₃, vs₃, n₃, ks, rfl, rfl, hi₃, hk₃, hl₃⟩
      simp only [List.forall_mem_cons, List.mem_singleton, forall_eq] at ho₃
      (have hs9 := ho₃; (repeat (obtain ⟨_, hs9⟩ := hs9)))
      simp only [List.cons_append, List.nil_append] at N'
      k_steps
      unfold Stop
      refine' iter_list (fun l => DJ PySem.Challenge.pw_on0119_01 w (Str.ofString "numbers") d (fun k => ((∃ nd ∈ st.nodes.take i, ∃ e ∈ nd.exprs, Ex.calls e k) ∨ ∃ e ∈ nd.exprs.take j, Ex.calls e k) ∨ ∃ k' ∈ ks.take l, k = k') (10 * i + 10 * j + l) [(b₃, listOf vs₃.toArray n₃), (I₂, it₂), (b₂, listOf vs₂.toArray n₂), (I, it), (b, listOf vs.toArray n)]) rfl (N' _ (.head _)).1 (Ne.symm (N' _ (.head _)).2.1) F'
        (News.sub (news' := [(d, o), (b₃, listOf vs₃.toArray n₃), (I₂, it₂), (b₂, listOf vs₂.toArray n₂), (I, it), (b, listOf vs.toArray n)]) N' (by simp)) (.inr ?hk3) ⟨o, kvs, Dd, rfl, rfl, hdo, hfl, hlen, hlen2, by simpa using hks⟩ ?turn3 ?done3
      case hk3 => rintro i m nx ⟨o, kvs, Dd, -, rfl, -⟩; exact .tail _ (.head _)
      case turn3 =>
        clear F' N' hdo hfl hlen hlen2 hks
        rintro I₃ l z₃ m₃ nx it₃ h tk hv₃ ⟨o, kvs, Dd, hnum₃, rfl, hdo, hfl, hlen, hlen2, hks⟩ hI₃ F N
        rw [loc1 hnum₃] at F
        obtain ⟨k, t, rfl, hk⟩ := IntsAre.at hi₃ hv₃
        have hll := (List.getElem?_eq_some_iff.mp hk).1
        simp only [List.forall_mem_cons, List.mem_singleton, forall_eq] at hI₃
        (have hs9 := hI₃; (repeat (obtain ⟨_, hs9⟩ := hs9)))
        have hii := (List.getElem?_eq_some_iff.mp hnd).1
        have hjj := (List.getElem?_eq_some_iff.mp hex).1
        have hi2 : st.nodes.length ≤ 2 := by cases st <;> simp [St.nodes, St.parts]
        have hj1 : nd.exprs.length ≤ 1 := by cases nd <;> simp [St.exprs]
        k_steps
        rename_i h' o' F' N' hd' hf'
        have hl1 : ∀ k, (stored kvs k (.bool true)).length ≤ 10 * i + 10 * j + (l + 1) := fun k => Nat.le_trans (stored_length_le kvs k (.bool true)) (Nat.succ_le_succ hlen)
        exact ⟨_, _, _, (d, o') :: _, rfl, by assumption, by assumption, by walk_at "ALLQ", o', _, _, rfl, rfl, hd', hf', hl1 _, hf'.length ▸ hl1 _, fun x => (stored_keys kvs k _ x).trans (by rw [hks x]; dsimp only; rw [take_or hk]; exact or_rot)⟩
      case done3 =>
        clear F' N' hdo hfl hlen hlen2 hks
        rintro m₃ nx h tk ⟨o, kvs, Dd, hnum₃, rfl, hdo, hfl, hlen, hlen2, hks⟩ F N
        dsimp only
        k_steps
        have hl3 := hi₃.length
        have hb : kvs.length ≤ 10 * i + 10 * (j + 1) := by omega
        exact ⟨_, _, _, (d, o) :: _, rfl, by assumption, News.sub (news' := [(I₂, it₂), (d, o), (b₂, listOf vs₂.toArray n₂), (I, it), (b, listOf vs.toArray n)]) N (by simp), by walk_at "ALLQ", o, kvs, Dd, hnum₃, rfl, hdo, hfl, hb, hfl.length ▸ hb, fun x => by rw [hks x]; dsimp only; rw [take_or hex, hl3, ex_all, hk₃ x]; exact or_assoc⟩
    case done2 =>
      clear F' N' hdo hfl hlen hlen2 hks
      rintro m₂ nx h tk ⟨o, kvs, Dd, hnum₂, rfl, hdo, hfl, hlen, hlen2, hks⟩ F N
      dsimp only
      k_steps
      have hj1 : vs₂.length ≤ 1 := by rw [hvs₂.length]; cases nd <;> simp [St.exprs]
      have hb : kvs.length ≤ 10 * (i + 1) := by omega
      exact ⟨_, _, _, (d, o) :: _, rfl, by assumption, News.sub (news' := [(I, it), (d, o), (b, listOf vs.toArray n)]) N (by simp), by walk_at "ALLQ", o, kvs, Dd, hnum₂, rfl, hdo, hfl, hb, hfl.length ▸ hb, fun x => by rw [hks x]; dsimp only; rw [take_or hnd, hvs₂.length, List.take_length]⟩
  case done =>
    clear F' N' hdo hfl
    rintro m₁ nx h tk ⟨o, kvs, Dd, hnum, rfl, hdo, hfl, hlen, hlen2, hks⟩ F N
    rw [loc1 hnum] at F
    have hi2 : vs.length ≤ 2 := by rw [hvs.length]; cases st <;> simp [St.nodes, St.parts]
    dsimp only
    k_steps
    rename_i B' vs' ns' c' h' tk' F' N' lt' hi' hp' hs'
    walk_at "BACK"
    refine leave (mods' := []) (tl := [(B', listOf vs'.toArray c')]) hg' F' (News.sub N' (by simp)) rfl (by simp) ⟨B', vs', c', ns', rfl, rfl, hi', fun k => by rw [hp'.mem_iff, hks k, hvs.length, List.take_length]; rfl, ?_⟩
    have := hp'.length_eq
    rw [List.length_map] at this
    omega
end Mine
namespace Mine
def St.writes (st : St) (k : Int) : Prop := ∃ nd ∈ st.nodes, ∃ e ∈ nd.tgts, k = 0 ∧ e = true
theorem swrites_spec {w : World} {mg mb : Str → Option Value} {mean : ExcName → Option Value} {s : Shared} {h₀ : Heap} {dp un : Nat} {fr : Option (List Env)} {gd : Option (List Code)} {dat : List (Addr × Obj)} {v : Value} {st : St}
    (C : At w mg mb mean h₀ s []) (D : Has s.heap dat) (he : StL dat v st) (hd : dp < 470) (hu : un < 4700) :
    codeAny (model PySem.Challenge.pw_on0119_01 w) (A0 dp un fr gd) (.call (.ref 101) ⟨[v], []⟩)
      (Post s [] (IntPost st.writes 20)) s := by
  k_with_none
  k_with "BACK" => ((try dsimp only [Mine.TurnEnd, PyProof.Rows.WhileStep2]); refine' Mine.back ?B ?_; (case B => assumption); (try dsimp only))
  k_with "ENTER2" => ((case kC => assumption); (case k6 => k_is); (case kb => (conv => lhs; whnf)); (case ks => (conv => lhs; whnf)); (case k7 => k_is); (case k8 => (simp only [recursionLimit]; omega)); (case k9 => exact BindsTo.of_eq rfl); (case c5 => decide); (case kB => exact locs rfl); (case c2 => exact rfl); (case c3 => exact rfl); (case c4 => exact rfl); k_whole; intro _ _ _ _ _ _ _ _ _ _ _ _ _ _ _ _ _; (try dsimp only))
  k_with "subscriptTail" => (k_here; (with_reducible show wpAny _ _ (subscriptTail _ _ (Value.ref _) (Value.int _ _)) _ _ _); k_dflt (refine' item_tupleT (Mine.has_tup ?F ?D ?M) ?a ?b ?c ?d ?_; (case F => k_asm); (case D => assumption); (case M => assumption); (case a => decide); (case b => decide); (case c => first | rfl | exact Mine.seq_zero); (case d => rfl); k_whole))
  k_with "exec While Name cons nil" => k_extra "WHILE"
  k_with "pyIter ref" => ((with_reducible show wpAny _ _ (pyIter (Value.ref _)) (fun it s₂ => LoopAtV _ _ _ _ _ _ _ _ _ it s₂) _ _); k_extra "ITER")
  k_with "call ref" => k_extra "CALL"
  k_with "call type:reversed" => k_extra "REV"
  k_with "call builtin:list.pop" => (k_here; k_dflt (first | ((with_reducible show wpAny _ _ (call (Value.builtin _) [Value.ref _]) _ _ _); refine' Mine.popLast ?F ?N ?U ?z ?_; (case F => k_asm); (case N => k_asm); (case U => k_upd); (case z => (rw [PySem.sizeLine_eq]; first | assumption | omega | exact Nat.le_of_ble_eq_true rfl))) | (refine' Mine.pop0 ?F ?N ?U ?z ?_; (case F => k_asm); (case N => k_asm); (case U => k_upd); (case z => (rw [PySem.sizeLine_eq]; first | assumption | omega | exact Nat.le_of_ble_eq_true rfl)))); intro _ _ _; (try k_sweep))
  k_with "call builtin:list.append" => (k_here; k_extra "APP"; k_dflt (refine' Mine.app_ ?F ?N ?U ?z ?_; (case F => k_asm); (case N => k_asm); (case U => k_upd); (case z => (rw [PySem.sizeLine_eq]; first | assumption | omega | exact Nat.le_of_ble_eq_true rfl))); intro _ _ _; (try k_sweep))
  k_with "USE0" => ((case F => assumption); (case N => assumption); (case C => exact Mine.at0 (by assumption) (by assumption) (by assumption)); (case hd => ((try dsimp only [Mine.A0, Around.deeper, Around.in1]); omega)); (case hu => ((try dsimp only [Mine.A0, Around.deeper, Around.in1]); omega)))
  k_with "setItem ref int" => (k_here; k_dflt (refine' setItem_K PyProof.V.same_int (intKind_is _ _ _ _) ?v ?F ?N ?U ?d ?f ?_ ?z; (case F => k_asm); (case N => k_asm); (case U => k_updF); (case d => assumption); (case f => assumption); (case z => (rw [PySem.sizeLine_eq]; first | omega | exact Nat.le_of_ble_eq_true rfl)); (case v => exact PyProof.V.Flat.bool _)); intro _ _ _ _ _ _; (try k_sweep))
  k_with "call builtin:sorted" => (k_here; k_dflt (refine' Mine.sorted_dict ?hh ?F ?N ?M ?d ?lo ?z ?_; (case hh => exact rfl); (case F => assumption); (case N => assumption); (case M => k_mem); (case d => assumption); (case lo => assumption); (case z => first | omega | exact Nat.le_of_ble_eq_true rfl)); intro _ _ _ _ _ _ _ _ _ _ _ _)
  k_with "exec For" => (k_here; (with_reducible show wpAny _ _ (exec (Stmt.For (Expr.Name _ _) _ _ [] _) _) _ _ _); (with_reducible rename Fr _ _ _ _ => kF); (with_unfolding_all refine' For_invVF kF ?k1 ?k2 ?_; (case k1 => exact rfl); (case k2 => exact rfl); k_whole))
  k_with "call type:list" => (k_here; (with_reducible show wpAny _ _ (call (Value.type _) [Value.ref _]) _ _ _); k_dflt (refine' list_copyKT ?F ?N (Mine.has_tup ?G ?D ?M) ?_ ?z; (case F => k_asm); (case N => k_asm); (case G => k_asm); (case D => assumption); (case M => assumption); (case z => exact Nat.le_of_ble_eq_true rfl)); intro _ _ _ _ _ l1; (try (replace l1 := allLt_of l1; dsimp only [AllLt] at l1; revert l1; intro _)); (try k_sweep))
  k_with "ALLQ" => (simp only [List.forall_mem_cons, List.mem_singleton, forall_eq]; assumption)
  k_with "subscriptTail" => (k_here; (with_reducible show wpAny _ _ (subscriptTail _ _ (Value.ref _) (Value.int _ _)) _ _ _); k_dflt (refine' Mine.item_dat ?F ?D ?M ?a ?b ?x ?_; (case F => k_asm); (case D => assumption); (case M => assumption); (case a => assumption); (case b => omega); (case x => assumption); k_whole))
  k_with "getAttr ref" => (k_here; k_dflt (refine' Mine.attr_dat ?F ?X ?D ?h1 ?h2 ?k4 ?k5 ?k6 ?k7 ?k8 ?k9 ?_; (case F => k_asm); (case X => k_asm); (case D => assumption); (case h1 => assumption); (case h2 => assumption); (case k4 => k_is); (case k5 => k_is); (case k6 => k_is); (case k7 => k_is); (case k8 => assumption); (case k9 => k_handed); k_whole))
  k_with "getMethod ref" => (k_here; k_dflt (refine' Mine.meth_dat ?F ?X ?D ?h1 ?h2 ?k4 ?k5 ?k6 ?k7 ?_; (case F => k_asm); (case X => k_asm); (case D => assumption); (case h1 => assumption); (case h2 => assumption); (case k4 => k_is); (case k5 => k_is); (case k6 => k_is); (case k7 => assumption); k_whole))
  k_with "compareOp NotIn int ref" => (k_here; k_dflt (refine' Mine.notin_dict ?N ?M ?d ?lo ?_; (case N => assumption); (case M => k_mem); (case d => assumption); (case lo => assumption)))
  k_with "call builtin:list.extend" => (k_here; k_extra "EXT"; k_dflt (refine' Mine.ext_ ?F ?N ?b ?U ?z ?_; (case F => k_asm); (case N => k_asm); (case b => k_mem); (case U => (intro c; k_upd)); (case z => omega)); intro _ _ _ _; (try k_sweep))
  k_with "call type:list" => (k_here; k_extra "COPY"; (with_reducible show wpAny _ _ (call (Value.type _) [Value.ref _]) _ _ _); k_dflt (refine' Mine.copy_ ?F ?N ?M ?z ?_; (case F => k_asm); (case N => k_asm); (case M => k_mem); (case z => omega)); intro _ _ _ _ _ l1; (try (replace l1 := allLt_of l1; dsimp only [AllLt] at l1; revert l1; intro _)); (try k_sweep))
  k_with "truthy ref" => (k_here; k_extra "TRU"; (with_reducible show wpAny _ _ (truthy (Value.ref _)) _ _ _); k_dflt (refine' Mine.truthy_ ?N ?M ?z ?_; (case N => k_asm); (case M => k_mem); (case z => first | assumption | omega)); intro _)
  k_with "USE1" => ((case F => assumption); (case N => assumption); (case U => k_updF); (case C => exact Mine.at1 (by assumption) (by assumption) (by assumption) (by assumption) (by k_mem)); (case hd => ((try dsimp only [Mine.A0, Around.deeper, Around.in1]); omega)); (case hu => ((try dsimp only [Mine.A0, Around.deeper, Around.in1]); omega)))
  k_with "setItem ref int" => (k_here; (with_reducible show wpAny _ _ (setItem (Value.ref _) (Value.int _ _) _) _ _ _); k_dflt (refine' Mine.set_ ?F ?N ?a ?b ?c ?U ?_; (case F => k_asm); (case N => k_asm); (case U => k_upd); (case a => omega); (case b => omega); (case c => omega)); intro _ _ _; (try k_sweep))
  k_with "exec Assign cons ListComp" => k_extra "COMP"
  k_with "eval ListComp" => k_extra "COMPE"
  k_with "CompSrc" => k_extra "CSRC"
  k_with "binaryOp Mult ref int" => k_extra "MUL"
  k_with "TAILS" => (intro p hp; repeat (first | exact hp | refine List.Mem.tail _ ?_))
  k_with "getMethod ref" => (k_here; k_dflt (refine' Mine.meth_news ?F ?X ?N ?h1 ?h2 ?S ?k4 ?k5 ?k6 ?k7 ?_; (case F => k_asm); (case X => k_asm); (case N => k_asm); (case h1 => assumption); (case h2 => assumption); (case S => walk_at "TAILS"); (case k4 => k_is); (case k5 => k_is); (case k6 => k_is); (case k7 => assumption); k_whole))
  k_with "GOFF" => (refine Mine.off3 ?_; repeat' (first | exact List.forall_mem_nil _ | assumption | refine List.forall_mem_cons.mpr ⟨⟨by (dsimp only; omega), by (dsimp only; omega), by (dsimp only; omega)⟩, ?_⟩))
  k_with "GCUP" => (unfold Mine.Stop; rintro v' h' tk' o' tl F' N' ho ⟨e1, vs1, n1', ts1, c, u, hm1, hi1, hl4, e2, hc0, hc1⟩; cases hm1; cases e1; cases e2; (try simp only [List.nil_append] at N'); clear ho)
  k_with "eval Constant int" => (k_here; (k_dflt (refine' Mine.const_int ?_)); intro _ _)
  k_with "eval Constant str" => (k_here; (k_dflt (refine' Mine.const_str ?_)); intro _ _)
  k_with "newTuple" => (k_here; k_dflt (refine' kup_newTuple ?F ?N ?_ ?z; (case F => k_asm); (case N => k_asm); (case z => exact Nat.le_of_ble_eq_true rfl)); intro _ _ _ _ l1; (try (replace l1 := allLt_of l1; dsimp only [AllLt] at l1; revert l1; intro _)); (try k_sweep))
  k_with "newList" => (k_here; k_dflt (refine' newList_K ?k1 ?k2 ?_; (case k1 => k_asm); (case k2 => k_asm); k_whole); intro _ _ _ _ l1; (try (replace l1 := allLt_of l1; dsimp only [AllLt] at l1; revert l1; intro _)); (try k_sweep))
  refine' enter (binds := [(Str.ofString "s", v)]) ?kC ?k6 ?kb ?ks ?k7 ?k8 ?k9 ?kB ?_ ?c2 ?c3 ?c4 ?c5; walk_at "ENTER2"
  rename_i g' L' h' hg' hz' hl' eL' X' T' F' N'
  have D' : Has g' dat := fun q hq => hg' _ _ (D q hq) (by simp)
  k_with "ITER" => (refine stop_at ?_)
  k_with "CALL" => (refine' use0 ?F ?N (sstmts_spec (dat := dat) ?C ?D (by assumption) ?hd ?hu) ?_; (case D => exact has_now (by assumption) D'); walk_at "USE0"; refine stop_at ?_)
  k_steps
  unfold Stop
  rename_i d _ o lo _ _ hdo hfl _ _ _ _
  rintro v' h' tk' tl F' N' ho ⟨b, vs, n, rfl, rfl, hvs⟩
  simp only [List.forall_mem_cons, List.mem_singleton, forall_eq] at ho
  (have hs9 := ho; (repeat (obtain ⟨_, hs9⟩ := hs9)))
  simp only [List.cons_append, List.nil_append] at N'
  k_steps
  unfold Stop
  refine' iter_list (fun i => DJ PySem.Challenge.pw_on0119_01 w (Str.ofString "keys") d (fun k => ∃ nd ∈ st.nodes.take i, ∃ e ∈ nd.tgts, k = 0 ∧ e = true) (10 * i) [(b, listOf vs.toArray n)]) rfl (N' _ (.head _)).1 (Ne.symm (N' _ (.head _)).2.1) F'
    (News.sub (news' := [(d, o), (b, listOf vs.toArray n)]) N' (by simp)) (.inr ?hk) ⟨o, [], [], rfl, rfl, hdo, hfl, Nat.le_refl _, Nat.le_refl _, by simp⟩ ?turn ?done
  case hk => rintro i m nx ⟨o, kvs, Dd, -, rfl, -⟩; exact .tail _ (.head _)
  case turn =>
    clear F' N' hdo hfl
    rintro I i z m₁ nx it h tk hv ⟨o, kvs, Dd, hnum, rfl, hdo, hfl, hlen, hlen2, hks⟩ hI F N
    rw [loc1 hnum] at F
    obtain ⟨nd, hnd, hx⟩ := hvs.get hv
    simp only [List.forall_mem_cons, List.mem_singleton, forall_eq] at hI
    (have hs9 := hI; (repeat (obtain ⟨_, hs9⟩ := hs9)))
    k_with "CALL" => (refine' use0 ?F ?N (stargets_spec (dat := dat) ?C ?D hx ?hd ?hu) ?_; (case D => exact has_now (by assumption) D'); walk_at "USE0"; refine stop_at ?_)
    k_steps
    unfold Stop
    rintro v' h' tk' tl F' N' ho₂ ⟨b₂, vs₂, n₂, rfl, rfl, hvs₂⟩
    simp only [List.forall_mem_cons, List.mem_singleton, forall_eq] at ho₂
    (have hs9 := ho₂; (repeat (obtain ⟨_, hs9⟩ := hs9)))
    simp only [List.cons_append, List.nil_append] at N'
    k_steps
    unfold Stop
    refine' iter_list (fun j => DJ PySem.Challenge.pw_on0119_01 w (Str.ofString "keys") d (fun k => (∃ nd ∈ st.nodes.take i, ∃ e ∈ nd.tgts, k = 0 ∧ e = true) ∨ ∃ e ∈ nd.tgts.take j, k = 0 ∧ e = true) (10 * i + 10 * j) [(b₂, listOf vs₂.toArray n₂), (I, it), (b, listOf vs.toArray n)]) rfl (N' _ (.head _)).1 (Ne.symm (N' _ (.head _)).2.1) F'
      (News.sub (news' := [(d, o), (b₂, listOf vs₂.toArray n₂), (I, it), (b, listOf vs.toArray n)]) N' (by simp)) (.inr ?hk2) ⟨o, kvs, Dd, rfl, rfl, hdo, hfl, hlen, hlen2, by simpa using hks⟩ ?turn2 ?done2
    case hk2 => rintro i m nx ⟨o, kvs, Dd, -, rfl, -⟩; exact .tail _ (.head _)
    case turn2 =>
      clear F' N' hdo hfl hlen hlen2 hks
      rintro I₂ j z₂ m₂ nx it₂ h tk hv₂ ⟨o, kvs, Dd, hnum₂, rfl, hdo, hfl, hlen, hlen2, hks⟩ hI₂ F N
      rw [loc1 hnum₂] at F
      obtain ⟨e, hex, hxe⟩ := hvs₂.get hv₂
      simp only [List.forall_mem_cons, List.mem_singleton, forall_eq] at hI₂
      (have hs9 := hI₂; (repeat (obtain ⟨_, hs9⟩ := hs9)))
      k_with "CALL" => (refine' use0 ?F ?N (twrites_spec (dat := dat) ?C ?D hxe ?hd ?hu) ?_; (case D => exact has_now (by assumption) D'); walk_at "USE0"; refine stop_at ?_)
      k_steps
      unfold Stop
      rintro v' h' tk' tl F' N' ho₃ ⟨b₃, vs₃, n₃, ks, rfl, rfl, hi₃, hk₃, hl₃⟩
      simp only [List.forall_mem_cons, List.mem_singleton, forall_eq] at ho₃
      (have hs9 := ho₃; (repeat (obtain ⟨_, hs9⟩ := hs9)))
      simp only [List.cons_append, List.nil_append] at N'
      k_steps
      unfold Stop
      refine' iter_list (fun l => DJ PySem.Challenge.pw_on0119_01 w (Str.ofString "keys") d (fun k => ((∃ nd ∈ st.nodes.take i, ∃ e ∈ nd.tgts, k = 0 ∧ e = true) ∨ ∃ e ∈ nd.tgts.take j, k = 0 ∧ e = true) ∨ ∃ k' ∈ ks.take l, k = k') (10 * i + 10 * j + l) [(b₃, listOf vs₃.toArray n₃), (I₂, it₂), (b₂, listOf vs₂.toArray n₂), (I, it), (b, listOf vs.toArray n)]) rfl (N' _ (.head _)).1 (Ne.symm (N' _ (.head _)).2.1) F'
        (News.sub (news' := [(d, o), (b₃, listOf vs₃.toArray n₃), (I₂, it₂), (b₂, listOf vs₂.toArray n₂), (I, it), (b, listOf vs.toArray n)]) N' (by simp)) (.inr ?hk3) ⟨o, kvs, Dd, rfl, rfl, hdo, hfl, hlen, hlen2, by simpa using hks⟩ ?turn3 ?done3
      case hk3 => rintro i m nx ⟨o, kvs, Dd, -, rfl, -⟩; exact .tail _ (.head _)
      case turn3 =>
        clear F' N' hdo hfl hlen hlen2 hks
        rintro I₃ l z₃ m₃ nx it₃ h tk hv₃ ⟨o, kvs, Dd, hnum₃, rfl, hdo, hfl, hlen, hlen2, hks⟩ hI₃ F N
        rw [loc1 hnum₃] at F
        obtain ⟨k, t, rfl, hk⟩ := IntsAre.at hi₃ hv₃
        have hll := (List.getElem?_eq_some_iff.mp hk).1
        simp only [List.forall_mem_cons, List.mem_singleton, forall_eq] at hI₃
        (have hs9 := hI₃; (repeat (obtain ⟨_, hs9⟩ := hs9)))
        have hii := (List.getElem?_eq_some_iff.mp hnd).1
        have hjj := (List.getElem?_eq_some_iff.mp hex).1
        have hi2 : st.nodes.length ≤ 2 := by cases st <;> simp [St.nodes, St.parts]
        have hj1 : nd.tgts.length ≤ 1 := by cases nd <;> simp [St.tgts]
        k_steps
        rename_i h' o' F' N' hd' hf'
        have hl1 : ∀ k, (stored kvs k (.bool true)).length ≤ 10 * i + 10 * j + (l + 1) := fun k => Nat.le_trans (stored_length_le kvs k (.bool true)) (Nat.succ_le_succ hlen)
        exact ⟨_, _, _, (d, o') :: _, rfl, by assumption, by assumption, by walk_at "ALLQ", o', _, _, rfl, rfl, hd', hf', hl1 _, hf'.length ▸ hl1 _, fun x => (stored_keys kvs k _ x).trans (by rw [hks x]; dsimp only; rw [take_or hk]; exact or_rot)⟩
      case done3 =>
        clear F' N' hdo hfl hlen hlen2 hks
        rintro m₃ nx h tk ⟨o, kvs, Dd, hnum₃, rfl, hdo, hfl, hlen, hlen2, hks⟩ F N
        dsimp only
        k_steps
        have hl3 := hi₃.length
        have hb : kvs.length ≤ 10 * i + 10 * (j + 1) := by omega
        exact ⟨_, _, _, (d, o) :: _, rfl, by assumption, News.sub (news' := [(I₂, it₂), (d, o), (b₂, listOf vs₂.toArray n₂), (I, it), (b, listOf vs.toArray n)]) N (by simp), by walk_at "ALLQ", o, kvs, Dd, hnum₃, rfl, hdo, hfl, hb, hfl.length ▸ hb, fun x => by rw [hks x]; dsimp only; rw [take_or hex, hl3, ex_all, hk₃ x]; exact or_assoc⟩
    case done2 =>
      clear F' N' hdo hfl hlen hlen2 hks
      rintro m₂ nx h tk ⟨o, kvs, Dd, hnum₂, rfl, hdo, hfl, hlen, hlen2, hks⟩ F N
      dsimp only
      k_steps
      have hj1 : vs₂.length ≤ 1 := by rw [hvs₂.length]; cases nd <;> simp [St.tgts]
      have hb : kvs.length ≤ 10 * (i + 1) := by omega
      exact ⟨_, _, _, (d, o) :: _, rfl, by assumption, News.sub (news' := [(I, it), (d, o), (b, listOf vs.toArray n)]) N (by simp), by walk_at "ALLQ", o, kvs, Dd, hnum₂, rfl, hdo, hfl, hb, hfl.length ▸ hb, fun x => by rw [hks x]; dsimp only; rw [take_or hnd, hvs₂.length, List.take_length]⟩
  case done =>
    clear F' N' hdo hfl
    rintro m₁ nx h tk ⟨o, kvs, Dd, hnum, rfl, hdo, hfl, hlen, hlen2, hks⟩ F N
    rw [loc1 hnum] at F
    have hi2 : vs.length ≤ 2 := by rw [hvs.length]; cases st <;> simp [St.nodes, St.parts]
    dsimp only
    k_steps
    rename_i B' vs' ns' c' h' tk' F' N' lt' hi' hp' hs'
    walk_at "BACK"
    refine leave (mods' := []) (tl := [(B', listOf vs'.toArray c')]) hg' F' (News.sub N' (by simp)) rfl (by simp) ⟨B', vs', c', ns', rfl, rfl, hi', fun k => by rw [hp'.mem_iff, hks k, hvs.length, List.take_length]; rfl, ?_⟩
    have := hp'.length_eq
    rw [List.length_map] at this
    omega
end Mine
namespace Mine
theorem routine_spec {w : World} {mg mb : Str → Option Value} {mean : ExcName → Option Value} {s : Shared} {h₀ : Heap} {dp un : Nat} {fr : Option (List Env)} {gd : Option (List Code)} {dat : List (Addr × Obj)} {v : Value} {sts : List St} {st : St} {k : Int} {t : Tok}
    (C : At w mg mb mean h₀ s []) (D : Has s.heap dat) (he : DesL dat v sts) (hk0 : 0 ≤ k) (hk1 : k < 1000) (hst : sts[k.toNat]? = some st) (hd : dp < 490) (hu : un < 4900) :
    codeAny (model PySem.Challenge.pw_on0119_01 w) (A0 dp un fr gd) (.call (.ref 255) ⟨[v, .int k t], []⟩)
      (Post s [] (fun _ tl r => tl = [] ∧ RoutL dat r st)) s := by
  k_with_none
  k_with "BACK" => ((try dsimp only [Mine.TurnEnd, PyProof.Rows.WhileStep2]); refine' Mine.back ?B ?_; (case B => assumption); (try dsimp only))
  k_with "ENTER2" => ((case kC => assumption); (case k6 => k_is); (case kb => (conv => lhs; whnf)); (case ks => (conv => lhs; whnf)); (case k7 => k_is); (case k8 => (simp only [recursionLimit]; omega)); (case k9 => exact BindsTo.of_eq rfl); (case c5 => decide); (case kB => exact locs rfl); (case c2 => exact rfl); (case c3 => exact rfl); (case c4 => exact rfl); k_whole; intro _ _ _ _ _ _ _ _ _ _ _ _ _ _ _ _ _; (try dsimp only))
  k_with "subscriptTail" => (k_here; (with_reducible show wpAny _ _ (subscriptTail _ _ (Value.ref _) (Value.int _ _)) _ _ _); k_dflt (refine' item_tupleT (Mine.has_tup ?F ?D ?M) ?a ?b ?c ?d ?_; (case F => k_asm); (case D => assumption); (case M => assumption); (case a => decide); (case b => decide); (case c => first | rfl | exact Mine.seq_zero); (case d => rfl); k_whole))
  k_with "exec While Name cons nil" => k_extra "WHILE"
  k_with "pyIter ref" => ((with_reducible show wpAny _ _ (pyIter (Value.ref _)) (fun it s₂ => LoopAtV _ _ _ _ _ _ _ _ _ it s₂) _ _); k_extra "ITER")
  k_with "call ref" => k_extra "CALL"
  k_with "call type:reversed" => k_extra "REV"
  k_with "call builtin:list.pop" => (k_here; k_dflt (first | ((with_reducible show wpAny _ _ (call (Value.builtin _) [Value.ref _]) _ _ _); refine' Mine.popLast ?F ?N ?U ?z ?_; (case F => k_asm); (case N => k_asm); (case U => k_upd); (case z => (rw [PySem.sizeLine_eq]; first | assumption | omega | exact Nat.le_of_ble_eq_true rfl))) | (refine' Mine.pop0 ?F ?N ?U ?z ?_; (case F => k_asm); (case N => k_asm); (case U => k_upd); (case z => (rw [PySem.sizeLine_eq]; first | assumption | omega | exact Nat.le_of_ble_eq_true rfl)))); intro _ _ _; (try k_sweep))
  k_with "call builtin:list.append" => (k_here; k_extra "APP"; k_dflt (refine' Mine.app_ ?F ?N ?U ?z ?_; (case F => k_asm); (case N => k_asm); (case U => k_upd); (case z => (rw [PySem.sizeLine_eq]; first | assumption | omega | exact Nat.le_of_ble_eq_true rfl))); intro _ _ _; (try k_sweep))
  k_with "USE0" => ((case F => assumption); (case N => assumption); (case C => exact Mine.at0 (by assumption) (by assumption) (by assumption)); (case hd => ((try dsimp only [Mine.A0, Around.deeper, Around.in1]); omega)); (case hu => ((try dsimp only [Mine.A0, Around.deeper, Around.in1]); omega)))
  k_with "setItem ref int" => (k_here; k_dflt (refine' setItem_K PyProof.V.same_int (intKind_is _ _ _ _) ?v ?F ?N ?U ?d ?f ?_ ?z; (case F => k_asm); (case N => k_asm); (case U => k_updF); (case d => assumption); (case f => assumption); (case z => (rw [PySem.sizeLine_eq]; first | omega | exact Nat.le_of_ble_eq_true rfl)); (case v => exact PyProof.V.Flat.bool _)); intro _ _ _ _ _ _; (try k_sweep))
  k_with "call builtin:sorted" => (k_here; k_dflt (refine' Mine.sorted_dict ?hh ?F ?N ?M ?d ?lo ?z ?_; (case hh => exact rfl); (case F => assumption); (case N => assumption); (case M => k_mem); (case d => assumption); (case lo => assumption); (case z => first | omega | exact Nat.le_of_ble_eq_true rfl)); intro _ _ _ _ _ _ _ _ _ _ _ _)
  k_with "exec For" => (k_here; (with_reducible show wpAny _ _ (exec (Stmt.For (Expr.Name _ _) _ _ [] _) _) _ _ _); (with_reducible rename Fr _ _ _ _ => kF); (with_unfolding_all refine' For_invVF kF ?k1 ?k2 ?_; (case k1 => exact rfl); (case k2 => exact rfl); k_whole))
  k_with "call type:list" => (k_here; (with_reducible show wpAny _ _ (call (Value.type _) [Value.ref _]) _ _ _); k_dflt (refine' list_copyKT ?F ?N (Mine.has_tup ?G ?D ?M) ?_ ?z; (case F => k_asm); (case N => k_asm); (case G => k_asm); (case D => assumption); (case M => assumption); (case z => exact Nat.le_of_ble_eq_true rfl)); intro _ _ _ _ _ l1; (try (replace l1 := allLt_of l1; dsimp only [AllLt] at l1; revert l1; intro _)); (try k_sweep))
  k_with "ALLQ" => (simp only [List.forall_mem_cons, List.mem_singleton, forall_eq]; assumption)
  k_with "subscriptTail" => (k_here; (with_reducible show wpAny _ _ (subscriptTail _ _ (Value.ref _) (Value.int _ _)) _ _ _); k_dflt (refine' Mine.item_dat ?F ?D ?M ?a ?b ?x ?_; (case F => k_asm); (case D => assumption); (case M => assumption); (case a => assumption); (case b => omega); (case x => assumption); k_whole))
  k_with "getAttr ref" => (k_here; k_dflt (refine' Mine.attr_dat ?F ?X ?D ?h1 ?h2 ?k4 ?k5 ?k6 ?k7 ?k8 ?k9 ?_; (case F => k_asm); (case X => k_asm); (case D => assumption); (case h1 => assumption); (case h2 => assumption); (case k4 => k_is); (case k5 => k_is); (case k6 => k_is); (case k7 => k_is); (case k8 => assumption); (case k9 => k_handed); k_whole))
  k_with "getMethod ref" => (k_here; k_dflt (refine' Mine.meth_dat ?F ?X ?D ?h1 ?h2 ?k4 ?k5 ?k6 ?k7 ?_; (case F => k_asm); (case X => k_asm); (case D => assumption); (case h1 => assumption); (case h2 => assumption); (case k4 => k_is); (case k5 => k_is); (case k6 => k_is); (case k7 => assumption); k_whole))
  k_with "compareOp NotIn int ref" => (k_here; k_dflt (refine' Mine.notin_dict ?N ?M ?d ?lo ?_; (case N => assumption); (case M => k_mem); (case d => assumption); (case lo => assumption)))
  k_with "call builtin:list.extend" => (k_here; k_extra "EXT"; k_dflt (refine' Mine.ext_ ?F ?N ?b ?U ?z ?_; (case F => k_asm); (case N => k_asm); (case b => k_mem); (case U => (intro c; k_upd)); (case z => omega)); intro _ _ _ _; (try k_sweep))
  k_with "call type:list" => (k_here; k_extra "COPY"; (with_reducible show wpAny _ _ (call (Value.type _) [Value.ref _]) _ _ _); k_dflt (refine' Mine.copy_ ?F ?N ?M ?z ?_; (case F => k_asm); (case N => k_asm); (case M => k_mem); (case z => omega)); intro _ _ _ _ _ l1; (try (replace l1 := allLt_of l1; dsimp only [AllLt] at l1; revert l1; intro _)); (try k_sweep))
  k_with "truthy ref" => (k_here; k_extra "TRU"; (with_reducible show wpAny _ _ (truthy (Value.ref _)) _ _ _); k_dflt (refine' Mine.truthy_ ?N ?M ?z ?_; (case N => k_asm); (case M => k_mem); (case z => first | assumption | omega)); intro _)
  k_with "USE1" => ((case F => assumption); (case N => assumption); (case U => k_updF); (case C => exact Mine.at1 (by assumption) (by assumption) (by assumption) (by assumption) (by k_mem)); (case hd => ((try dsimp only [Mine.A0, Around.deeper, Around.in1]); omega)); (case hu => ((try dsimp only [Mine.A0, Around.deeper, Around.in1]); omega)))
  k_with "setItem ref int" => (k_here; (with_reducible show wpAny _ _ (setItem (Value.ref _) (Value.int _ _) _) _ _ _); k_dflt (refine' Mine.set_ ?F ?N ?a ?b ?c ?U ?_; (case F => k_asm); (case N => k_asm); (case U => k_upd); (case a => omega); (case b => omega); (case c => omega)); intro _ _ _; (try k_sweep))
  k_with "exec Assign cons ListComp" => k_extra "COMP"
  k_with "eval ListComp" => k_extra "COMPE"
  k_with "CompSrc" => k_extra "CSRC"
  k_with "binaryOp Mult ref int" => k_extra "MUL"
  k_with "TAILS" => (intro p hp; repeat (first | exact hp | refine List.Mem.tail _ ?_))
  k_with "getMethod ref" => (k_here; k_dflt (refine' Mine.meth_news ?F ?X ?N ?h1 ?h2 ?S ?k4 ?k5 ?k6 ?k7 ?_; (case F => k_asm); (case X => k_asm); (case N => k_asm); (case h1 => assumption); (case h2 => assumption); (case S => walk_at "TAILS"); (case k4 => k_is); (case k5 => k_is); (case k6 => k_is); (case k7 => assumption); k_whole))
  k_with "GOFF" => (refine Mine.off3 ?_; repeat' (first | exact List.forall_mem_nil _ | assumption | refine List.forall_mem_cons.mpr ⟨⟨by (dsimp only; omega), by (dsimp only; omega), by (dsimp only; omega)⟩, ?_⟩))
  k_with "GCUP" => (unfold Mine.Stop; rintro v' h' tk' o' tl F' N' ho ⟨e1, vs1, n1', ts1, c, u, hm1, hi1, hl4, e2, hc0, hc1⟩; cases hm1; cases e1; cases e2; (try simp only [List.nil_append] at N'); clear ho)
  k_with "eval Constant int" => (k_here; (k_dflt (refine' Mine.const_int ?_)); intro _ _)
  k_with "eval Constant str" => (k_here; (k_dflt (refine' Mine.const_str ?_)); intro _ _)
  k_with "newTuple" => (k_here; k_dflt (refine' kup_newTuple ?F ?N ?_ ?z; (case F => k_asm); (case N => k_asm); (case z => exact Nat.le_of_ble_eq_true rfl)); intro _ _ _ _ l1; (try (replace l1 := allLt_of l1; dsimp only [AllLt] at l1; revert l1; intro _)); (try k_sweep))
  k_with "newList" => (k_here; k_dflt (refine' newList_K ?k1 ?k2 ?_; (case k1 => k_asm); (case k2 => k_asm); k_whole); intro _ _ _ _ l1; (try (replace l1 := allLt_of l1; dsimp only [AllLt] at l1; revert l1; intro _)); (try k_sweep))
  refine' enter (binds := [(Str.ofString "self", v), (Str.ofString "n", .int k t)]) ?kC ?k6 ?kb ?ks ?k7 ?k8 ?k9 ?kB ?_ ?c2 ?c3 ?c4 ?c5; walk_at "ENTER2"
  rename_i g' L' h' hg' hz' hl' eL' X' T' F' N'
  have D' : Has g' dat := fun q hq => hg' _ _ (D q hq) (by simp)
  cases he with
  | @mk x dx es n r rs k' _ h1 h2 h3 h4 h5 h6 =>
    obtain ⟨rv, hrv, hR⟩ : ∃ rv, rs[k.toNat]? = some rv ∧ RoutL dat rv st := by
      have hl := h6.length
      have hlt := (List.getElem?_eq_some_iff.mp hst).1
      have hlt' : k.toNat < rs.length := by omega
      obtain ⟨b, hb, hr⟩ := h6.get (List.getElem?_eq_getElem hlt')
      rw [hst] at hb; cases hb
      exact ⟨_, List.getElem?_eq_getElem hlt', hr⟩
    cases id hR with
    | mk r1 r2 r3 r4 r5 =>
      k_steps
      walk_at "BACK"
      exact leave (mods' := []) (tl := []) hg' (by assumption) (fun _ h => nomatch h) rfl (by simp) ⟨rfl, hR⟩
end Mine
namespace Mine
def Ex.loose (e : Ex) : Prop := e = .sig ∨ e = .word ∨ e = .local ∨ e = .time
def St.touch (st : St) : Prop := (∃ k, st.all Ex.reads k) ∨ ∃ k, st.writes k
/-- what e comes to -/
inductive Reach (sts : List St) (e : Ex) : Int → Prop
  | base {n} : Ex.call n ∈ e.subs → Reach sts e n
  | step {n st k} : Reach sts e n → sts[n.toNat]? = some st → st.all Ex.calls k → Reach sts e k
def Const (sts : List St) (e : Ex) : Prop := (∀ x ∈ e.subs, ¬ x.loose) ∧ ∀ n st, Reach sts e n → sts[n.toNat]? = some st → ¬ st.touch
/-- the numbers stand for routines -/
structure Valid (sts : List St) (e : Ex) : Prop where
  len : sts.length ≤ 10
  small : ∀ st ∈ sts, st.Small
  e0 : e.size ≤ 60
  num : ∀ n, Reach sts e n → 0 ≤ n ∧ n < (sts.length : Int)

theorem no_take {l : List Ex} {i : Nat} {a : Ex} (h : ∀ x ∈ l.take i, ¬ x.loose) (e : l[i]? = some a) (ha : ¬ a.loose) : ∀ x ∈ l.take (i + 1), ¬ x.loose := by
  intro x hx
  rw [List.take_add_one, e] at hx
  rcases List.mem_append.mp hx with hx | hx
  · exact h x hx
  · simp at hx; exact hx ▸ ha
theorem reach_all {sts : List St} {e : Ex} {keys : List Int} (h0 : ∀ k, Ex.call k ∈ e.subs → k ∈ keys) (h1 : ∀ k ∈ keys, ∀ st, sts[k.toNat]? = some st → ¬ st.touch ∧ ∀ j, st.all Ex.calls j → j ∈ keys) : ∀ n, Reach sts e n → n ∈ keys := by
  intro n h
  induction h with
  | base h => exact h0 _ h
  | step _ hs ha ih => exact (h1 _ ih _ hs).2 _ ha
theorem stored_new {kvs : List (Int × Value)} {k : Int} (h : ¬ k ∈ kvs.map (·.1)) (v : Value) : stored kvs k v = kvs ++ [(k, v)] := by
  unfold stored
  rw [if_neg]
  intro h'
  obtain ⟨q, hq, e⟩ := List.any_eq_true.mp h'
  exact h (of_decide_eq_true e ▸ List.mem_map_of_mem hq)
theorem fuel_lt {a q m : Nat} (ha : a ≤ 10) (hm : m ≤ 20) : (11 - (a + 1)) * 21 + (q + m) < (11 - a) * 21 + (q + 1) := by omega
structure SeenJ (prog : Program) (w : World) (sts : List St) (e : Ex) (x : Addr) (n : Nat) (m : Str → Option Value) (news : List (Addr × Obj)) : Prop where
  out : ∃ l d o vs ns kvs Dd q, m (Str.ofString "numbers") = some (.ref l) ∧ m (Str.ofString "seen") = some (.ref d) ∧ m (Str.ofString "design") = some (.ref x) ∧ news = [(d, o), (l, listOf vs.toArray q)] ∧ @Ne Nat d l ∧ (d == sysModules) = false ∧
    o.IsDictOf (intKind prog w) kvs ∧ PyProof.V.FlatPairs PyData.int kvs Dd ∧ IntsAre vs ns ∧ (∀ k ∈ ns, Reach sts e k) ∧ (∀ k ∈ kvs.map (·.1), Reach sts e k) ∧
    (∀ k ∈ kvs.map (·.1), ∀ st, sts[k.toNat]? = some st → ¬ st.touch ∧ ∀ j, st.all Ex.calls j → j ∈ kvs.map (·.1) ∨ j ∈ ns) ∧ (∀ k, Ex.call k ∈ e.subs → k ∈ kvs.map (·.1) ∨ k ∈ ns) ∧ n = (11 - kvs.length) * 21 + ns.length ∧ ns.length ≤ 60 + 20 * kvs.length

theorem is_constant_spec {w : World} {mg mb : Str → Option Value} {mean : ExcName → Option Value} {s : Shared} {h₀ : Heap} {dp un : Nat} {fr : Option (List Env)} {gd : Option (List Code)} {dat : List (Addr × Obj)} {v dv : Value} {e : Ex} {sts : List St}
    (C : At w mg mb mean h₀ s []) (D : Has s.heap dat) (hdv : DesL dat dv sts) (he : ExL dat v e) (V : Valid sts e) (hd : dp < 450) (hu : un < 4500) :
    codeAny (model PySem.Challenge.pw_on0119_01 w) (A0 dp un fr gd) (.call (.ref 115) ⟨[dv, v], []⟩)
      (Post s [] (fun _ tl r => tl = [] ∧ ∃ b, r = .bool b ∧ (b = true ↔ Const sts e))) s := by
  k_with_none
  k_with "BACK" => ((try dsimp only [Mine.TurnEnd, PyProof.Rows.WhileStep2]); refine' Mine.back ?B ?_; (case B => assumption); (try dsimp only))
  k_with "ENTER2" => ((case kC => assumption); (case k6 => k_is); (case kb => (conv => lhs; whnf)); (case ks => (conv => lhs; whnf)); (case k7 => k_is); (case k8 => (simp only [recursionLimit]; omega)); (case k9 => exact BindsTo.of_eq rfl); (case c5 => decide); (case kB => exact locs rfl); (case c2 => exact rfl); (case c3 => exact rfl); (case c4 => exact rfl); k_whole; intro _ _ _ _ _ _ _ _ _ _ _ _ _ _ _ _ _; (try dsimp only))
  k_with "subscriptTail" => (k_here; (with_reducible show wpAny _ _ (subscriptTail _ _ (Value.ref _) (Value.int _ _)) _ _ _); k_dflt (refine' item_tupleT (Mine.has_tup ?F ?D ?M) ?a ?b ?c ?d ?_; (case F => k_asm); (case D => assumption); (case M => assumption); (case a => decide); (case b => decide); (case c => first | rfl | exact Mine.seq_zero); (case d => rfl); k_whole))
  k_with "exec While Name cons nil" => k_extra "WHILE"
  k_with "pyIter ref" => ((with_reducible show wpAny _ _ (pyIter (Value.ref _)) (fun it s₂ => LoopAtV _ _ _ _ _ _ _ _ _ it s₂) _ _); k_extra "ITER")
  k_with "call ref" => k_extra "CALL"
  k_with "call type:reversed" => k_extra "REV"
  k_with "call builtin:list.pop" => (k_here; k_dflt (first | ((with_reducible show wpAny _ _ (call (Value.builtin _) [Value.ref _]) _ _ _); refine' Mine.popLast ?F ?N ?U ?z ?_; (case F => k_asm); (case N => k_asm); (case U => k_upd); (case z => (rw [PySem.sizeLine_eq]; first | assumption | omega | exact Nat.le_of_ble_eq_true rfl))) | (refine' Mine.pop0 ?F ?N ?U ?z ?_; (case F => k_asm); (case N => k_asm); (case U => k_upd); (case z => (rw [PySem.sizeLine_eq]; first | assumption | omega | exact Nat.le_of_ble_eq_true rfl)))); intro _ _ _; (try k_sweep))
  k_with "call builtin:list.append" => (k_here; k_extra "APP"; k_dflt (refine' Mine.app_ ?F ?N ?U ?z ?_; (case F => k_asm); (case N => k_asm); (case U => k_upd); (case z => (rw [PySem.sizeLine_eq]; first | assumption | omega | exact Nat.le_of_ble_eq_true rfl))); intro _ _ _; (try k_sweep))
  k_with "USE0" => ((case F => assumption); (case N => assumption); (case C => exact Mine.at0 (by assumption) (by assumption) (by assumption)); (case hd => ((try dsimp only [Mine.A0, Around.deeper, Around.in1]); omega)); (case hu => ((try dsimp only [Mine.A0, Around.deeper, Around.in1]); omega)))
  k_with "setItem ref int" => (k_here; k_dflt (refine' setItem_K PyProof.V.same_int (intKind_is _ _ _ _) ?v ?F ?N ?U ?d ?f ?_ ?z; (case F => k_asm); (case N => k_asm); (case U => k_updF); (case d => assumption); (case f => assumption); (case z => (rw [PySem.sizeLine_eq]; first | omega | exact Nat.le_of_ble_eq_true rfl)); (case v => exact PyProof.V.Flat.bool _)); intro _ _ _ _ _ _; (try k_sweep))
  k_with "call builtin:sorted" => (k_here; k_dflt (refine' Mine.sorted_dict ?hh ?F ?N ?M ?d ?lo ?z ?_; (case hh => exact rfl); (case F => assumption); (case N => assumption); (case M => k_mem); (case d => assumption); (case lo => assumption); (case z => first | omega | exact Nat.le_of_ble_eq_true rfl)); intro _ _ _ _ _ _ _ _ _ _ _ _)
  k_with "exec For" => (k_here; (with_reducible show wpAny _ _ (exec (Stmt.For (Expr.Name _ _) _ _ [] _) _) _ _ _); (with_reducible rename Fr _ _ _ _ => kF); (with_unfolding_all refine' For_invVF kF ?k1 ?k2 ?_; (case k1 => exact rfl); (case k2 => exact rfl); k_whole))
  k_with "call type:list" => (k_here; (with_reducible show wpAny _ _ (call (Value.type _) [Value.ref _]) _ _ _); k_dflt (refine' list_copyKT ?F ?N (Mine.has_tup ?G ?D ?M) ?_ ?z; (case F => k_asm); (case N => k_asm); (case G => k_asm); (case D => assumption); (case M => assumption); (case z => exact Nat.le_of_ble_eq_true rfl)); intro _ _ _ _ _ l1; (try (replace l1 := allLt_of l1; dsimp only [AllLt] at l1; revert l1; intro _)); (try k_sweep))
  k_with "ALLQ" => (simp only [List.forall_mem_cons, List.mem_singleton, forall_eq]; assumption)
  k_with "subscriptTail" => (k_here; (with_reducible show wpAny _ _ (subscriptTail _ _ (Value.ref _) (Value.int _ _)) _ _ _); k_dflt (refine' Mine.item_dat ?F ?D ?M ?a ?b ?x ?_; (case F => k_asm); (case D => assumption); (case M => assumption); (case a => assumption); (case b => omega); (case x => assumption); k_whole))
  k_with "getAttr ref" => (k_here; k_dflt (refine' Mine.attr_dat ?F ?X ?D ?h1 ?h2 ?k4 ?k5 ?k6 ?k7 ?k8 ?k9 ?_; (case F => k_asm); (case X => k_asm); (case D => assumption); (case h1 => assumption); (case h2 => assumption); (case k4 => k_is); (case k5 => k_is); (case k6 => k_is); (case k7 => k_is); (case k8 => assumption); (case k9 => k_handed); k_whole))
  k_with "getMethod ref" => (k_here; k_dflt (refine' Mine.meth_dat ?F ?X ?D ?h1 ?h2 ?k4 ?k5 ?k6 ?k7 ?_; (case F => k_asm); (case X => k_asm); (case D => assumption); (case h1 => assumption); (case h2 => assumption); (case k4 => k_is); (case k5 => k_is); (case k6 => k_is); (case k7 => assumption); k_whole))
  k_with "compareOp NotIn int ref" => (k_here; k_dflt (refine' Mine.notin_dict ?N ?M ?d ?lo ?_; (case N => assumption); (case M => k_mem); (case d => assumption); (case lo => assumption)))
  k_with "call builtin:list.extend" => (k_here; k_extra "EXT"; k_dflt (refine' Mine.ext_ ?F ?N ?b ?U ?z ?_; (case F => k_asm); (case N => k_asm); (case b => k_mem); (case U => (intro c; k_upd)); (case z => omega)); intro _ _ _ _; (try k_sweep))
  k_with "call type:list" => (k_here; k_extra "COPY"; (with_reducible show wpAny _ _ (call (Value.type _) [Value.ref _]) _ _ _); k_dflt (refine' Mine.copy_ ?F ?N ?M ?z ?_; (case F => k_asm); (case N => k_asm); (case M => k_mem); (case z => omega)); intro _ _ _ _ _ l1; (try (replace l1 := allLt_of l1; dsimp only [AllLt] at l1; revert l1; intro _)); (try k_sweep))
  k_with "truthy ref" => (k_here; k_extra "TRU"; (with_reducible show wpAny _ _ (truthy (Value.ref _)) _ _ _); k_dflt (refine' Mine.truthy_ ?N ?M ?z ?_; (case N => k_asm); (case M => k_mem); (case z => first | assumption | omega)); intro _)
  k_with "USE1" => ((case F => assumption); (case N => assumption); (case U => k_updF); (case C => exact Mine.at1 (by assumption) (by assumption) (by assumption) (by assumption) (by k_mem)); (case hd => ((try dsimp only [Mine.A0, Around.deeper, Around.in1]); omega)); (case hu => ((try dsimp only [Mine.A0, Around.deeper, Around.in1]); omega)))
  k_with "setItem ref int" => (k_here; (with_reducible show wpAny _ _ (setItem (Value.ref _) (Value.int _ _) _) _ _ _); k_dflt (refine' Mine.set_ ?F ?N ?a ?b ?c ?U ?_; (case F => k_asm); (case N => k_asm); (case U => k_upd); (case a => omega); (case b => omega); (case c => omega)); intro _ _ _; (try k_sweep))
  k_with "exec Assign cons ListComp" => k_extra "COMP"
  k_with "eval ListComp" => k_extra "COMPE"
  k_with "CompSrc" => k_extra "CSRC"
  k_with "binaryOp Mult ref int" => k_extra "MUL"
  k_with "TAILS" => (intro p hp; repeat (first | exact hp | refine List.Mem.tail _ ?_))
  k_with "getMethod ref" => (k_here; k_dflt (refine' Mine.meth_news ?F ?X ?N ?h1 ?h2 ?S ?k4 ?k5 ?k6 ?k7 ?_; (case F => k_asm); (case X => k_asm); (case N => k_asm); (case h1 => assumption); (case h2 => assumption); (case S => walk_at "TAILS"); (case k4 => k_is); (case k5 => k_is); (case k6 => k_is); (case k7 => assumption); k_whole))
  k_with "GOFF" => (refine Mine.off3 ?_; repeat' (first | exact List.forall_mem_nil _ | assumption | refine List.forall_mem_cons.mpr ⟨⟨by (dsimp only; omega), by (dsimp only; omega), by (dsimp only; omega)⟩, ?_⟩))
  k_with "GCUP" => (unfold Mine.Stop; rintro v' h' tk' o' tl F' N' ho ⟨e1, vs1, n1', ts1, c, u, hm1, hi1, hl4, e2, hc0, hc1⟩; cases hm1; cases e1; cases e2; (try simp only [List.nil_append] at N'); clear ho)
  k_with "eval Constant int" => (k_here; (k_dflt (refine' Mine.const_int ?_)); intro _ _)
  k_with "eval Constant str" => (k_here; (k_dflt (refine' Mine.const_str ?_)); intro _ _)
  k_with "newTuple" => (k_here; k_dflt (refine' kup_newTuple ?F ?N ?_ ?z; (case F => k_asm); (case N => k_asm); (case z => exact Nat.le_of_ble_eq_true rfl)); intro _ _ _ _ l1; (try (replace l1 := allLt_of l1; dsimp only [AllLt] at l1; revert l1; intro _)); (try k_sweep))
  k_with "newList" => (k_here; k_dflt (refine' newList_K ?k1 ?k2 ?_; (case k1 => k_asm); (case k2 => k_asm); k_whole); intro _ _ _ _ l1; (try (replace l1 := allLt_of l1; dsimp only [AllLt] at l1; revert l1; intro _)); (try k_sweep))
  refine' enter (binds := [(Str.ofString "design", dv), (Str.ofString "e", v)]) ?kC ?k6 ?kb ?ks ?k7 ?k8 ?k9 ?kB ?_ ?c2 ?c3 ?c4 ?c5; walk_at "ENTER2"
  rename_i g' L' h' hg' hz' hl' eL' X' T' F' N'
  have D' : Has g' dat := fun q hq => hg' _ _ (D q hq) (by simp)
  have he0 := V.e0
  k_with "ITER" => (refine stop_at ?_)
  k_with "WHILE" => (refine stop_at ?_)
  k_with "COPY" => skip
  k_with "CALL" => (refine' use0 ?F ?N (subs_spec (dat := dat) ?C ?D he (by omega) ?hd ?hu) ?_; (case D => exact has_now (by assumption) D'); walk_at "USE0"; refine stop_at ?_)
  k_steps
  unfold Stop
  rintro v' h' tk' tl F' N' ho ⟨b, vs, n, rfl, rfl, hvs⟩
  simp only [List.cons_append, List.nil_append] at N'
  k_steps
  unfold Stop
  refine' iter_list (fun i m nx => m (Str.ofString "design") = some dv ∧ m (Str.ofString "e") = some v ∧ nx = [(b, listOf vs.toArray n)] ∧ ∀ x ∈ e.subs.take i, ¬ x.loose) rfl (N' _ (.head _)).1 (Ne.symm (N' _ (.head _)).2.1) F' N' (.inr ?hk) ⟨rfl, rfl, rfl, by simp⟩ ?turn ?done
  case hk => rintro i m nx ⟨-, -, rfl, -⟩; exact .head _
  case turn =>
    clear F' N'
    rintro I i z m₁ nx it h tk hv ⟨hd1, he1, rfl, hno⟩ hI F N
    rw [loc2 hd1 he1] at F
    obtain ⟨x, hex, hx⟩ := hvs.get hv
    simp only [List.mem_singleton, forall_eq] at hI
    cases hx
    all_goals k_steps
    all_goals first
      | exact ⟨_, _, _, [(b, listOf vs.toArray n)], rfl, by assumption, News.sub (news' := [(I, it), (b, listOf vs.toArray n)]) (by assumption) (by simp), by walk_at "ALLQ", rfl, rfl, rfl, no_take hno hex (by simp [Ex.loose])⟩
      | (walk_at "BACK"
         exact leave (mods' := []) (tl := []) hg' (by assumption) (fun _ h => nomatch h) rfl (by simp) ⟨rfl, false, rfl, fun h => (nomatch h), fun c => absurd (by simp [Ex.loose]) (c.1 _ (List.mem_of_getElem? hex))⟩)
  case done =>
    clear F' N'
    rintro m₁ nx h tk ⟨hd1, he1, rfl, hno⟩ F N
    rw [loc2 hd1 he1] at F
    rw [hvs.length, List.take_length] at hno
    dsimp only
    k_with "CALL" => (refine' use0 ?F ?N (calls_spec (dat := dat) ?C ?D he (by omega) ?hd ?hu) ?_; (case D => exact has_now (by assumption) D'); walk_at "USE0"; refine stop_at ?_)
    k_steps
    unfold Stop
    rintro v' h' tk' tl F' N' ho₂ ⟨b₂, vs₂, n₂, ns, rfl, rfl, hi₂, hk₂, hl₂⟩
    simp only [List.cons_append, List.nil_append] at N'
    have hl3 := hi₂.length
    k_steps
    unfold Stop
    rename_i D₂ c₂ _ _ _ _ _ d _ o lo _ _ hdo hfl hlt _ F' N'
    obtain ⟨xd, rfl⟩ : ∃ a, dv = .ref a := by cases hdv; exact ⟨_, rfl⟩
    have hdD : @Ne Nat d D₂ := Ne.symm (Nat.ne_of_lt hlt.1)
    refine' While_inv2 (SeenJ PySem.Challenge.pw_on0119_01 w sts e xd) F' (News.sub (news' := [(d, o), (D₂, listOf vs₂.toArray c₂)]) N' (by simp)) ?hj ?turnw
    case hj => exact ⟨⟨D₂, d, o, vs₂, ns, [], [], c₂, rfl, rfl, rfl, rfl, hdD, lo, hdo, hfl, hi₂, fun k hk => .base ((hk₂ k).mp hk), by simp, by simp, fun k hk => .inr ((hk₂ k).mpr hk), rfl, by simp; omega⟩⟩
    case turnw =>
      clear F' N' hdo hfl hlt hdD
      rintro n₁ m₁ news₁ h₁ tk₁ F₁ N₁ ⟨⟨l, d, o, vs, ns, kvs, Dd, q, hm1, hm2, hm3, rfl, hdl, lo, hdo, hfl, hin, hnr, hkr, hkt, hcov, hn, hnl⟩⟩
      rw [loc3 hm1 hm2 hm3] at F₁
      have hnd : (kvs.map (·.1)).Nodup := let ⟨_, _, _, _, _, _, x⟩ := hdo; x
      have hkl : kvs.length ≤ sts.length := by
        have := few sts.length (kvs.map (·.1)) hnd fun k hk => V.num k (hkr k hk)
        rwa [List.length_map] at this
      have hfl2 := hfl.length
      have hvl := hin.length
      have hV := V.len
      have hb1 : vs.length ≤ 16777216 := by omega
      rcases IntsAre.snoc_inv hin with ⟨rfl, rfl⟩ | ⟨vs', ns', k, t, rfl, rfl, hin'⟩
      · k_steps
        dsimp only
        have hcov' : ∀ k, Ex.call k ∈ e.subs → k ∈ kvs.map (·.1) := fun k hk => (hcov k hk).elim id fun h => (nomatch h)
        have hkt' : ∀ k ∈ kvs.map (·.1), ∀ st, sts[k.toNat]? = some st → ¬ st.touch ∧ ∀ j, st.all Ex.calls j → j ∈ kvs.map (·.1) := fun k hk st hs => ⟨(hkt k hk st hs).1, fun j hj => ((hkt k hk st hs).2 j hj).elim id fun h => (nomatch h)⟩
        walk_at "BACK"
        exact leave (mods' := []) (tl := []) hg' (by assumption) (fun _ h => nomatch h) rfl (by simp) ⟨rfl, true, rfl, fun _ => ⟨hno, fun n st hr hs => (hkt' n (reach_all hcov' hkt' n hr) st hs).1⟩, fun _ => rfl⟩
      · k_with "TRU" => skip
        have hkR : Reach sts e k := hnr k (by simp)
        have hk9 := V.num k hkR
        obtain ⟨st, hst⟩ : ∃ st, sts[k.toNat]? = some st := ⟨_, List.getElem?_eq_getElem (by omega)⟩
        have hsmall := V.small st (List.mem_of_getElem? hst)
        have hk0 : 0 ≤ k := hk9.1
        k_with "CALL" => (first
          | (refine' use0 ?F ?N (routine_spec (dat := dat) ?C ?D hdv hk0 (by omega) hst ?hd ?hu) ?_; (case D => exact has_now (by assumption) D'); walk_at "USE0"; refine stop_at ?_)
          | (refine' use0 ?F ?N (sreads_spec (dat := dat) ?C ?D (by assumption) hsmall ?hd ?hu) ?_; (case D => exact has_now (by assumption) D'); walk_at "USE0"; refine stop_at ?_)
          | (refine' use0 ?F ?N (swrites_spec (dat := dat) ?C ?D (by assumption) ?hd ?hu) ?_; (case D => exact has_now (by assumption) D'); walk_at "USE0"; refine stop_at ?_)
          | (refine' use0 ?F ?N (scalls_spec (dat := dat) ?C ?D (by assumption) hsmall ?hd ?hu) ?_; (case D => exact has_now (by assumption) D'); walk_at "USE0"; refine stop_at ?_))
        cases id hdv with
        | mk d1 d2 d3 d4 d5 d6 =>
        k_steps
        · exact absurd (by assumption) (by simp : ¬ (vs' ++ [Value.int k t]).isEmpty = true)
        · have hkin : k ∈ kvs.map (·.1) := by first | assumption | (rename_i hx9; simpa using hx9)
          refine ⟨_, _, _, [(d, o), (l, listOf vs'.toArray (q + 1))], (11 - kvs.length) * 21 + ns'.length, rfl, by assumption, by assumption, by rw [hn]; simp,
            ⟨⟨l, d, o, vs', ns', kvs, Dd, q + 1, rfl, rfl, rfl, rfl, hdl, lo, hdo, hfl, hin', fun j hj => hnr j (by simp [hj]), hkr, fun j hj st hs => ⟨(hkt j hj st hs).1, fun i hi => ?_⟩, fun i hi => ?_, rfl, by simp at hnl; omega⟩⟩⟩
          · rcases (hkt j hj st hs).2 i hi with h | h
            · exact .inl h
            · rcases List.mem_append.mp h with h | h
              · exact .inr h
              · exact .inl (List.mem_singleton.mp h ▸ hkin)
          · rcases hcov i hi with h | h
            · exact .inl h
            · rcases List.mem_append.mp h with h | h
              · exact .inr h
              · exact .inl (List.mem_singleton.mp h ▸ hkin)
        · unfold Stop
          rename_i hknot h9 o' F9 N9 hdo' hfl'
          rintro v' h' tk' tl F' N' ho ⟨rfl, hR⟩
          clear F9 N9 ho
          simp only [List.nil_append] at N'
          cases id hR with
          | mk r1 r2 r3 r4 r5 =>
          k_steps
          unfold Stop
          rintro v' h' tk' tl F' N' ho₃ ⟨b₃, vs₃, n₃, ks, rfl, rfl, hi₃, hks₃, hl₃⟩
          simp only [List.forall_mem_cons, List.mem_singleton, forall_eq] at ho₃
          (have hs9 := ho₃; (repeat (obtain ⟨_, hs9⟩ := hs9)))
          simp only [List.cons_append, List.nil_append] at N'
          have hl3 := hi₃.length
          k_steps
          · have hne : 0 < ks.length := by omega
            obtain ⟨k', hk'⟩ := List.exists_mem_of_length_pos hne
            walk_at "BACK"
            exact leave (mods' := []) (tl := []) hg' (by assumption) (fun _ h => nomatch h) rfl (by simp) ⟨rfl, false, rfl, fun h => (nomatch h), fun c => absurd (.inl ⟨k', (hks₃ k').mp hk'⟩) (c.2 k st hkR hst)⟩
          have hks0 : ks = [] := List.eq_nil_of_length_eq_zero (by omega)
          subst hks0
          unfold Stop
          rintro v' h' tk' tl F' N' ho₄ ⟨b₄, vs₄, n₄, ks₄, rfl, rfl, hi₄, hks₄, hl₄⟩
          simp only [List.forall_mem_cons, List.mem_singleton, forall_eq] at ho₄
          (have hs9 := ho₄; (repeat (obtain ⟨_, hs9⟩ := hs9)))
          simp only [List.cons_append, List.nil_append] at N'
          have hl4 := hi₄.length
          k_steps
          · have hne : 0 < ks₄.length := by omega
            obtain ⟨k', hk'⟩ := List.exists_mem_of_length_pos hne
            walk_at "BACK"
            exact leave (mods' := []) (tl := []) hg' (by assumption) (fun _ h => nomatch h) rfl (by simp) ⟨rfl, false, rfl, fun h => (nomatch h), fun c => absurd (.inr ⟨k', (hks₄ k').mp hk'⟩) (c.2 k st hkR hst)⟩
          have hks0 : ks₄ = [] := List.eq_nil_of_length_eq_zero (by omega)
          subst hks0
          unfold Stop
          rintro v' h' tk' tl F' N' ho₅ ⟨b₅, vs₅, n₅, ks₅, rfl, rfl, hi₅, hks₅, hl₅⟩
          simp only [List.forall_mem_cons, List.mem_singleton, forall_eq] at ho₅
          (have hs9 := ho₅; (repeat (obtain ⟨_, hs9⟩ := hs9)))
          simp only [List.cons_append, List.nil_append] at N'
          have hl5 := hi₅.length
          have hb5 : vs'.length ≤ 1000 := by simp at hvl hnl; omega
          have hb6 : vs₅.length ≤ 20 := by omega
          k_with "EXT" => skip
          k_steps
          rename_i h10 c9 F9 N9
          have hnt : ¬ st.touch := by
            rintro (⟨j, hj⟩ | ⟨j, hj⟩)
            · exact nomatch ((hks₃ j).mpr hj)
            · exact nomatch ((hks₄ j).mpr hj)
          rw [stored_new hknot] at hdo' hfl'
          have hmem : ∀ j, j ∈ (kvs ++ [(k, Value.bool true)]).map (·.1) ↔ j ∈ kvs.map (·.1) ∨ j = k := fun j => by simp
          have hmv : ∀ j, j ∈ kvs.map (·.1) ∨ j ∈ ns' ++ [k] → j ∈ (kvs ++ [(k, Value.bool true)]).map (·.1) ∨ j ∈ ns' ++ ks₅ := by
            intro j hj
            rcases hj with h | h
            · exact .inl ((hmem j).mpr (.inl h))
            · rcases List.mem_append.mp h with h | h
              · exact .inr (List.mem_append_left _ h)
              · exact .inl ((hmem j).mpr (.inr (List.mem_singleton.mp h)))
          refine ⟨_, _, _, [(d, o'), (l, listOf (vs' ++ vs₅).toArray c9)], (11 - (kvs ++ [(k, Value.bool true)]).length) * 21 + (ns' ++ ks₅).length, rfl, by assumption, News.sub N9 (by simp), ?_,
            ⟨⟨l, d, o', vs' ++ vs₅, ns' ++ ks₅, kvs ++ [(k, Value.bool true)], _, c9, rfl, rfl, rfl, rfl, hdl, lo, hdo', hfl', IntsAre.append hin' hi₅, ?_, ?_, ?_, fun i hi => hmv i (hcov i hi), rfl, ?_⟩⟩⟩
          · rw [hn, List.length_append, List.length_append, List.length_append]; exact fuel_lt (Nat.le_trans hkl hV) (hl5 ▸ hb6)
          · intro j hj
            rcases List.mem_append.mp hj with h | h
            · exact hnr j (by simp [h])
            · exact .step hkR hst ((hks₅ j).mp h)
          · intro j hj
            rcases (hmem j).mp hj with h | rfl
            · exact hkr j h
            · exact hkR
          · intro j hj st' hs
            rcases (hmem j).mp hj with h | rfl
            · exact ⟨(hkt j h st' hs).1, fun i hi => hmv i ((hkt j h st' hs).2 i hi)⟩
            · rw [hst] at hs; cases hs
              exact ⟨hnt, fun i hi => .inr (List.mem_append_right _ ((hks₅ i).mpr hi))⟩
          · simp at hnl ⊢; omega
end Mine
namespace Mine
def big : Nat → Nat
  | 0 => 2
  | d + 1 => 2 * big d + 2
theorem big_pos (d : Nat) : 2 ≤ big d := by cases d <;> simp [big]
/-- what a growing adds -/
structure Grow (cl : List Int) (ls : List Value) (M : Int) (b : Nat) (cl' : List Int) (ls' : List Value) (e : Ex) : Prop where
  size : e.size ≤ b
  keys : ∀ k, k ∈ cl' ↔ k ∈ cl ∨ Ex.call k ∈ e.subs
  clen : cl'.length ≤ cl.length + b
  rng : ∀ k, Ex.call k ∈ e.subs → 0 ≤ k ∧ k < M
  lo : ls' = [] ↔ ls = [] ∧ ∀ x ∈ e.subs, ¬ (x = .sig ∨ x = .word ∨ x = .local ∨ x = .time)
  llen : ls'.length ≤ ls.length + b
section
variable {cl cl' cl'' : List Int} {ls ls' ls'' : List Value} {M : Int} {b : Nat} {e f : Ex}
theorem lo2 {A : Prop} {W : Ex → Prop} {t : Ex} {E F : List Ex} (ht : ¬ W t) : ((A ∧ ∀ x ∈ E, ¬ W x) ∧ ∀ x ∈ F, ¬ W x) ↔ A ∧ ∀ x ∈ t :: (E ++ F), ¬ W x := by
  rw [List.forall_mem_cons, List.forall_mem_append]
  exact ⟨fun ⟨⟨a, b⟩, c⟩ => ⟨a, ht, b, c⟩, fun ⟨a, _, b, c⟩ => ⟨⟨a, b⟩, c⟩⟩
theorem lo3 {A : Prop} {W : Ex → Prop} {t u : Ex} {E F : List Ex} (ht : ¬ W t) (hu : ¬ W u) : ((A ∧ ∀ x ∈ E, ¬ W x) ∧ ∀ x ∈ F, ¬ W x) ↔ A ∧ ∀ x ∈ t :: (E ++ F ++ [u]), ¬ W x := by
  rw [List.forall_mem_cons, List.forall_mem_append, List.forall_mem_append, List.forall_mem_singleton]
  exact ⟨fun ⟨⟨a, b⟩, c⟩ => ⟨a, ht, ⟨b, c⟩, hu⟩, fun ⟨a, _, ⟨b, c⟩, _⟩ => ⟨⟨a, b⟩, c⟩⟩
theorem not_lo {t : Ex} (h1 : t ≠ .sig) (h2 : t ≠ .word) (h3 : t ≠ .local) (h4 : t ≠ .time) : ¬ (t = .sig ∨ t = .word ∨ t = .local ∨ t = .time) := fun h => h.elim h1 fun h => h.elim h2 fun h => h.elim h3 h4
theorem Grow.const (hb : 2 ≤ b) : Grow cl ls M b cl ls .const := ⟨by simp [Ex.size]; omega, by simp [Ex.subs], by omega, by simp [Ex.subs], by simp [Ex.subs], by omega⟩
theorem Grow.call {c : Int} (hb : 2 ≤ b) (h0 : 0 ≤ c) (h1 : c < M) : Grow cl ls M b (cl ++ [c]) ls (.call c) := ⟨by simp [Ex.size]; omega, by simp [Ex.subs], by simp; omega, by simp [Ex.subs]; omega, by simp [Ex.subs], by omega⟩
theorem Grow.loose {v : Value} (hb : 2 ≤ b) (he : e = .sig ∨ e = .word ∨ e = .local ∨ e = .time) : Grow cl ls M b cl (ls ++ [v]) e := by
  rcases he with rfl | rfl | rfl | rfl <;> exact ⟨by simp [Ex.size]; omega, by simp [Ex.subs], by omega, by simp [Ex.subs], by simp [Ex.subs], by simp; omega⟩
theorem Grow.clog (h : Grow cl ls M b cl' ls' e) : Grow cl ls M (2 * b + 2) cl' ls' (.clog e) := by
  obtain ⟨h1, h2, h3, h4, h5, h6⟩ := h
  exact ⟨by simp [Ex.size]; omega, fun k => by simp [Ex.subs, h2], by omega, fun k hk => h4 k (by simpa [Ex.subs] using hk), by simp [Ex.subs, h5], by omega⟩
theorem Grow.cat (h : Grow cl ls M b cl' ls' e) (h' : Grow cl' ls' M b cl'' ls'' f) : Grow cl ls M (2 * b + 2) cl'' ls'' (.cat e f) := by
  obtain ⟨h1, h2, h3, h4, h5, h6⟩ := h
  obtain ⟨k1, k2, k3, k4, k5, k6⟩ := h'
  refine ⟨by simp [Ex.size]; omega, fun k => by simp [Ex.subs, k2, h2, or_assoc], by omega, fun k hk => ?_, ?_, by omega⟩
  · simp [Ex.subs] at hk; exact hk.elim (h4 k) (k4 k)
  · rw [k5, h5]; exact lo2 (not_lo (fun h => nomatch h) (fun h => nomatch h) (fun h => nomatch h) (fun h => nomatch h))
theorem Grow.pow (h : Grow cl ls M b cl' ls' e) (h' : Grow cl' ls' M b cl'' ls'' f) : Grow cl ls M (2 * b + 2) cl'' ls'' (.pow e f) := by
  obtain ⟨h1, h2, h3, h4, h5, h6⟩ := h
  obtain ⟨k1, k2, k3, k4, k5, k6⟩ := h'
  refine ⟨by simp [Ex.size]; omega, fun k => by simp [Ex.subs, k2, h2, or_assoc], by omega, fun k hk => ?_, ?_, by omega⟩
  · simp [Ex.subs] at hk; exact hk.elim (h4 k) (k4 k)
  · rw [k5, h5]; exact lo2 (not_lo (fun h => nomatch h) (fun h => nomatch h) (fun h => nomatch h) (fun h => nomatch h))
theorem Grow.cond (h : Grow cl ls M b cl' ls' e) (h' : Grow cl' ls' M b cl'' ls'' f) : Grow cl ls M (2 * b + 2) cl'' ls'' (.cond e f .const) := by
  obtain ⟨h1, h2, h3, h4, h5, h6⟩ := h
  obtain ⟨k1, k2, k3, k4, k5, k6⟩ := h'
  refine ⟨by simp [Ex.size]; omega, fun k => by simp [Ex.subs, k2, h2, or_assoc], by omega, fun k hk => ?_, ?_, by omega⟩
  · simp [Ex.subs] at hk; exact hk.elim (h4 k) (k4 k)
  · rw [k5, h5]; exact lo3 (not_lo (fun h => nomatch h) (fun h => nomatch h) (fun h => nomatch h) (fun h => nomatch h)) (not_lo (fun h => nomatch h) (fun h => nomatch h) (fun h => nomatch h) (fun h => nomatch h))
end
structure GrownOut (tray called loose : Addr) (len : Nat) (cl : List Int) (ls : List Value) (M : Int) (d : Nat) (mods' tl : List (Addr × Obj)) (v : Value) : Prop where
  out : ∃ vs' n1 ts' cs' n2 cl' ls' n3 e, mods' = [(tray, listOf vs'.toArray n1), (called, listOf cs'.toArray n2), (loose, listOf ls'.toArray n3)] ∧ IntsAre vs' ts' ∧ vs'.length ≤ len ∧ IntsAre cs' cl' ∧
    ExL tl v e ∧ Grow cl ls M (big d) cl' ls' e
theorem news_swap {g h : Heap} {L : Addr} {new mods tl : List (Addr × Obj)} (N : News g L h (new ++ (mods ++ tl))) : News g L h ((new ++ tl) ++ mods) := News.sub N fun p hp => by
  simp only [List.mem_append] at hp ⊢; grind
section
variable {prog : Program} {w : World} {A : Around} {E : Value → Shared → Prop} {s : Shared}
theorem join_int {t : Sem Value} {Q : Value → Shared → Prop} (P : Int → Prop) (h1 : wpAny (model prog w) A t (fun v s' => ∃ n u tk, v = .int n u ∧ s' = { s with toks := tk } ∧ P n) E s) (h2 : ∀ n u tk, P n → Q (.int n u) { s with toks := tk }) : wpAny (model prog w) A t Q E s :=
  wpAny_mono h1 (fun v s' ⟨n, u, tk, e1, e2, hp⟩ => by subst e1 e2; exact h2 n u tk hp) fun _ _ e => e
end
local macro_rules | `(tactic| walk_at "eval IfExp") => `(tactic| (k_here; k_extra "IFX"))
theorem grown_step {w : World} {mg mb : Str → Option Value} {mean : ExcName → Option Value} {gd : Option (List Code)} {tray called loose : Addr} {M : Int} (hM : M ≤ 4) (hM0 : 0 ≤ M) (hne1 : @Ne Nat tray called) (hne2 : @Ne Nat tray loose) (hne3 : @Ne Nat called loose) (d : Nat)
    (ih : ∀ d', d = d' + 1 → ∀ {s : Shared} {h₀ : Heap} {dp un : Nat} {fr : Option (List Env)} {vs cs ls : List Value} {n1 n2 n3 : Nat} {ts cl : List Int} {k : Int} {t1 t2 : Tok},
    At w mg mb mean h₀ s [(tray, listOf vs.toArray n1), (called, listOf cs.toArray n2), (loose, listOf ls.toArray n3)] → IntsAre vs ts → IntsAre cs cl → vs.length ≤ 1000 → cs.length + big d' ≤ 1000 → ls.length + big d' ≤ 1000 → k = (d' : Int) → d' ≤ 3 → dp + d' < 450 → un + 10 * d' < 4500 →
    codeAny (model PySem.Challenge.pw_on0119_01 w) (A0 dp un fr gd) (.call (.ref 290) ⟨[.ref tray, .int k t1, .int M t2, .ref called, .ref loose], []⟩)
      (Post s [(tray, listOf vs.toArray n1), (called, listOf cs.toArray n2), (loose, listOf ls.toArray n3)] (GrownOut tray called loose vs.length cl ls M d')) s) :
    ∀ {s : Shared} {h₀ : Heap} {dp un : Nat} {fr : Option (List Env)} {vs cs ls : List Value} {n1 n2 n3 : Nat} {ts cl : List Int} {k : Int} {t1 t2 : Tok},
    At w mg mb mean h₀ s [(tray, listOf vs.toArray n1), (called, listOf cs.toArray n2), (loose, listOf ls.toArray n3)] → IntsAre vs ts → IntsAre cs cl → vs.length ≤ 1000 → cs.length + big d ≤ 1000 → ls.length + big d ≤ 1000 → k = (d : Int) → d ≤ 3 → dp + d < 450 → un + 10 * d < 4500 →
    codeAny (model PySem.Challenge.pw_on0119_01 w) (A0 dp un fr gd) (.call (.ref 290) ⟨[.ref tray, .int k t1, .int M t2, .ref called, .ref loose], []⟩)
      (Post s [(tray, listOf vs.toArray n1), (called, listOf cs.toArray n2), (loose, listOf ls.toArray n3)] (GrownOut tray called loose vs.length cl ls M d)) s := by
  intro s h₀ dp un fr vs cs ls n1 n2 n3 ts cl k t1 t2 C hi hc hl1 hl2 hl3 hk hd3 hd hu
  k_with_none
  k_with "BACK" => ((try dsimp only [Mine.TurnEnd, PyProof.Rows.WhileStep2]); refine' Mine.back ?B ?_; (case B => assumption); (try dsimp only))
  k_with "ENTER2" => ((case kC => assumption); (case k6 => k_is); (case kb => (conv => lhs; whnf)); (case ks => (conv => lhs; whnf)); (case k7 => k_is); (case k8 => (simp only [recursionLimit]; omega)); (case k9 => exact BindsTo.of_eq rfl); (case c5 => decide); (case kB => exact locs rfl); (case c2 => exact rfl); (case c3 => exact rfl); (case c4 => exact rfl); k_whole; intro _ _ _ _ _ _ _ _ _ _ _ _ _ _ _ _ _; (try dsimp only))
  k_with "subscriptTail" => (k_here; (with_reducible show wpAny _ _ (subscriptTail _ _ (Value.ref _) (Value.int _ _)) _ _ _); k_dflt (refine' item_tupleT (Mine.has_tup ?F ?D ?M) ?a ?b ?c ?d ?_; (case F => k_asm); (case D => assumption); (case M => assumption); (case a => decide); (case b => decide); (case c => first | rfl | exact Mine.seq_zero); (case d => rfl); k_whole))
  k_with "exec While Name cons nil" => k_extra "WHILE"
  k_with "pyIter ref" => ((with_reducible show wpAny _ _ (pyIter (Value.ref _)) (fun it s₂ => LoopAtV _ _ _ _ _ _ _ _ _ it s₂) _ _); k_extra "ITER")
  k_with "call ref" => k_extra "CALL"
  k_with "call type:reversed" => k_extra "REV"
  k_with "call builtin:list.pop" => (k_here; k_dflt (first | ((with_reducible show wpAny _ _ (call (Value.builtin _) [Value.ref _]) _ _ _); refine' Mine.popLast ?F ?N ?U ?z ?_; (case F => k_asm); (case N => k_asm); (case U => k_upd); (case z => (rw [PySem.sizeLine_eq]; first | assumption | omega | exact Nat.le_of_ble_eq_true rfl))) | (refine' Mine.pop0 ?F ?N ?U ?z ?_; (case F => k_asm); (case N => k_asm); (case U => k_upd); (case z => (rw [PySem.sizeLine_eq]; first | assumption | omega | exact Nat.le_of_ble_eq_true rfl)))); intro _ _ _; (try k_sweep))
  k_with "call builtin:list.append" => (k_here; k_extra "APP"; k_dflt (refine' Mine.app_ ?F ?N ?U ?z ?_; (case F => k_asm); (case N => k_asm); (case U => k_upd); (case z => (rw [PySem.sizeLine_eq]; first | assumption | omega | exact Nat.le_of_ble_eq_true rfl))); intro _ _ _; (try k_sweep))
  k_with "USE0" => ((case F => assumption); (case N => assumption); (case C => exact Mine.at0 (by assumption) (by assumption) (by assumption)); (case hd => ((try dsimp only [Mine.A0, Around.deeper, Around.in1]); omega)); (case hu => ((try dsimp only [Mine.A0, Around.deeper, Around.in1]); omega)))
  k_with "setItem ref int" => (k_here; k_dflt (refine' setItem_K PyProof.V.same_int (intKind_is _ _ _ _) ?v ?F ?N ?U ?d ?f ?_ ?z; (case F => k_asm); (case N => k_asm); (case U => k_updF); (case d => assumption); (case f => assumption); (case z => (rw [PySem.sizeLine_eq]; first | omega | exact Nat.le_of_ble_eq_true rfl)); (case v => exact PyProof.V.Flat.bool _)); intro _ _ _ _ _ _; (try k_sweep))
  k_with "call builtin:sorted" => (k_here; k_dflt (refine' Mine.sorted_dict ?hh ?F ?N ?M ?d ?lo ?z ?_; (case hh => exact rfl); (case F => assumption); (case N => assumption); (case M => k_mem); (case d => assumption); (case lo => assumption); (case z => first | omega | exact Nat.le_of_ble_eq_true rfl)); intro _ _ _ _ _ _ _ _ _ _ _ _)
  k_with "exec For" => (k_here; (with_reducible show wpAny _ _ (exec (Stmt.For (Expr.Name _ _) _ _ [] _) _) _ _ _); (with_reducible rename Fr _ _ _ _ => kF); (with_unfolding_all refine' For_invVF kF ?k1 ?k2 ?_; (case k1 => exact rfl); (case k2 => exact rfl); k_whole))
  k_with "call type:list" => (k_here; (with_reducible show wpAny _ _ (call (Value.type _) [Value.ref _]) _ _ _); k_dflt (refine' list_copyKT ?F ?N (Mine.has_tup ?G ?D ?M) ?_ ?z; (case F => k_asm); (case N => k_asm); (case G => k_asm); (case D => assumption); (case M => assumption); (case z => exact Nat.le_of_ble_eq_true rfl)); intro _ _ _ _ _ l1; (try (replace l1 := allLt_of l1; dsimp only [AllLt] at l1; revert l1; intro _)); (try k_sweep))
  k_with "ALLQ" => (simp only [List.forall_mem_cons, List.mem_singleton, forall_eq]; assumption)
  k_with "subscriptTail" => (k_here; (with_reducible show wpAny _ _ (subscriptTail _ _ (Value.ref _) (Value.int _ _)) _ _ _); k_dflt (refine' Mine.item_dat ?F ?D ?M ?a ?b ?x ?_; (case F => k_asm); (case D => assumption); (case M => assumption); (case a => assumption); (case b => omega); (case x => assumption); k_whole))
  k_with "getAttr ref" => (k_here; k_dflt (refine' Mine.attr_dat ?F ?X ?D ?h1 ?h2 ?k4 ?k5 ?k6 ?k7 ?k8 ?k9 ?_; (case F => k_asm); (case X => k_asm); (case D => assumption); (case h1 => assumption); (case h2 => assumption); (case k4 => k_is); (case k5 => k_is); (case k6 => k_is); (case k7 => k_is); (case k8 => assumption); (case k9 => k_handed); k_whole))
  k_with "getMethod ref" => (k_here; k_dflt (refine' Mine.meth_dat ?F ?X ?D ?h1 ?h2 ?k4 ?k5 ?k6 ?k7 ?_; (case F => k_asm); (case X => k_asm); (case D => assumption); (case h1 => assumption); (case h2 => assumption); (case k4 => k_is); (case k5 => k_is); (case k6 => k_is); (case k7 => assumption); k_whole))
  k_with "compareOp NotIn int ref" => (k_here; k_dflt (refine' Mine.notin_dict ?N ?M ?d ?lo ?_; (case N => assumption); (case M => k_mem); (case d => assumption); (case lo => assumption)))
  k_with "call builtin:list.extend" => (k_here; k_extra "EXT"; k_dflt (refine' Mine.ext_ ?F ?N ?b ?U ?z ?_; (case F => k_asm); (case N => k_asm); (case b => k_mem); (case U => (intro c; k_upd)); (case z => omega)); intro _ _ _ _; (try k_sweep))
  k_with "call type:list" => (k_here; k_extra "COPY"; (with_reducible show wpAny _ _ (call (Value.type _) [Value.ref _]) _ _ _); k_dflt (refine' Mine.copy_ ?F ?N ?M ?z ?_; (case F => k_asm); (case N => k_asm); (case M => k_mem); (case z => omega)); intro _ _ _ _ _ l1; (try (replace l1 := allLt_of l1; dsimp only [AllLt] at l1; revert l1; intro _)); (try k_sweep))
  k_with "truthy ref" => (k_here; k_extra "TRU"; (with_reducible show wpAny _ _ (truthy (Value.ref _)) _ _ _); k_dflt (refine' Mine.truthy_ ?N ?M ?z ?_; (case N => k_asm); (case M => k_mem); (case z => first | assumption | omega)); intro _)
  k_with "USE1" => ((case F => assumption); (case N => assumption); (case U => k_updF); (case C => exact Mine.at1 (by assumption) (by assumption) (by assumption) (by assumption) (by k_mem)); (case hd => ((try dsimp only [Mine.A0, Around.deeper, Around.in1]); omega)); (case hu => ((try dsimp only [Mine.A0, Around.deeper, Around.in1]); omega)))
  k_with "setItem ref int" => (k_here; (with_reducible show wpAny _ _ (setItem (Value.ref _) (Value.int _ _) _) _ _ _); k_dflt (refine' Mine.set_ ?F ?N ?a ?b ?c ?U ?_; (case F => k_asm); (case N => k_asm); (case U => k_upd); (case a => omega); (case b => omega); (case c => omega)); intro _ _ _; (try k_sweep))
  k_with "exec Assign cons ListComp" => k_extra "COMP"
  k_with "eval ListComp" => k_extra "COMPE"
  k_with "CompSrc" => k_extra "CSRC"
  k_with "binaryOp Mult ref int" => k_extra "MUL"
  k_with "TAILS" => (intro p hp; repeat (first | exact hp | refine List.Mem.tail _ ?_))
  k_with "getMethod ref" => (k_here; k_dflt (refine' Mine.meth_news ?F ?X ?N ?h1 ?h2 ?S ?k4 ?k5 ?k6 ?k7 ?_; (case F => k_asm); (case X => k_asm); (case N => k_asm); (case h1 => assumption); (case h2 => assumption); (case S => walk_at "TAILS"); (case k4 => k_is); (case k5 => k_is); (case k6 => k_is); (case k7 => assumption); k_whole))
  k_with "GOFF" => (refine Mine.off3 ?_; repeat' (first | exact List.forall_mem_nil _ | assumption | refine List.forall_mem_cons.mpr ⟨⟨by (dsimp only; omega), by (dsimp only; omega), by (dsimp only; omega)⟩, ?_⟩))
  k_with "GCUP" => (unfold Mine.Stop; rintro v' h' tk' o' tl F' N' ho ⟨e1, vs1, n1', ts1, c, u, hm1, hi1, hl4, e2, hc0, hc1⟩; cases hm1; cases e1; cases e2; (try simp only [List.nil_append] at N'); clear ho)
  k_with "eval Constant int" => (k_here; (k_dflt (refine' Mine.const_int ?_)); intro _ _)
  k_with "eval Constant str" => (k_here; (k_dflt (refine' Mine.const_str ?_)); intro _ _)
  k_with "newTuple" => (k_here; k_dflt (refine' kup_newTuple ?F ?N ?_ ?z; (case F => k_asm); (case N => k_asm); (case z => exact Nat.le_of_ble_eq_true rfl)); intro _ _ _ _ l1; (try (replace l1 := allLt_of l1; dsimp only [AllLt] at l1; revert l1; intro _)); (try k_sweep))
  k_with "newList" => (k_here; k_dflt (refine' newList_K ?k1 ?k2 ?_; (case k1 => k_asm); (case k2 => k_asm); k_whole); intro _ _ _ _ l1; (try (replace l1 := allLt_of l1; dsimp only [AllLt] at l1; revert l1; intro _)); (try k_sweep))
  refine' enter (binds := [(Str.ofString "tray", .ref tray), (Str.ofString "deep", .int k t1), (Str.ofString "many", .int M t2), (Str.ofString "called", .ref called), (Str.ofString "loose", .ref loose)]) ?kC ?k6 ?kb ?ks ?k7 ?k8 ?k9 ?kB ?_ ?c2 ?c3 ?c4 ?c5; walk_at "ENTER2"
  rename_i g' L' h' hg' hz' hl' eL' X' T' F' N'
  k_with "IFX" => (refine stop_at ?_)
  k_steps
  unfold Stop
  refine join_int (fun n => (0 < k ∧ n = 8) ∨ (k ≤ 0 ∧ n = 4)) ?_ ?_
  · k_with_none
    k_with "BACK" => ((try dsimp only [Mine.TurnEnd, PyProof.Rows.WhileStep2]); refine' Mine.back ?B ?_; (case B => assumption); (try dsimp only))
    k_with "ENTER2" => ((case kC => assumption); (case k6 => k_is); (case kb => (conv => lhs; whnf)); (case ks => (conv => lhs; whnf)); (case k7 => k_is); (case k8 => (simp only [recursionLimit]; omega)); (case k9 => exact BindsTo.of_eq rfl); (case c5 => decide); (case kB => exact locs rfl); (case c2 => exact rfl); (case c3 => exact rfl); (case c4 => exact rfl); k_whole; intro _ _ _ _ _ _ _ _ _ _ _ _ _ _ _ _ _; (try dsimp only))
    k_with "subscriptTail" => (k_here; (with_reducible show wpAny _ _ (subscriptTail _ _ (Value.ref _) (Value.int _ _)) _ _ _); k_dflt (refine' item_tupleT (Mine.has_tup ?F ?D ?M) ?a ?b ?c ?d ?_; (case F => k_asm); (case D => assumption); (case M => assumption); (case a => decide); (case b => decide); (case c => first | rfl | exact Mine.seq_zero); (case d => rfl); k_whole))
    k_with "exec While Name cons nil" => k_extra "WHILE"
    k_with "pyIter ref" => ((with_reducible show wpAny _ _ (pyIter (Value.ref _)) (fun it s₂ => LoopAtV _ _ _ _ _ _ _ _ _ it s₂) _ _); k_extra "ITER")
    k_with "call ref" => k_extra "CALL"
    k_with "call type:reversed" => k_extra "REV"
    k_with "call builtin:list.pop" => (k_here; k_dflt (first | ((with_reducible show wpAny _ _ (call (Value.builtin _) [Value.ref _]) _ _ _); refine' Mine.popLast ?F ?N ?U ?z ?_; (case F => k_asm); (case N => k_asm); (case U => k_upd); (case z => (rw [PySem.sizeLine_eq]; first | assumption | omega | exact Nat.le_of_ble_eq_true rfl))) | (refine' Mine.pop0 ?F ?N ?U ?z ?_; (case F => k_asm); (case N => k_asm); (case U => k_upd); (case z => (rw [PySem.sizeLine_eq]; first | assumption | omega | exact Nat.le_of_ble_eq_true rfl)))); intro _ _ _; (try k_sweep))
    k_with "call builtin:list.append" => (k_here; k_extra "APP"; k_dflt (refine' Mine.app_ ?F ?N ?U ?z ?_; (case F => k_asm); (case N => k_asm); (case U => k_upd); (case z => (rw [PySem.sizeLine_eq]; first | assumption | omega | exact Nat.le_of_ble_eq_true rfl))); intro _ _ _; (try k_sweep))
    k_with "USE0" => ((case F => assumption); (case N => assumption); (case C => exact Mine.at0 (by assumption) (by assumption) (by assumption)); (case hd => ((try dsimp only [Mine.A0, Around.deeper, Around.in1]); omega)); (case hu => ((try dsimp only [Mine.A0, Around.deeper, Around.in1]); omega)))
    k_with "setItem ref int" => (k_here; k_dflt (refine' setItem_K PyProof.V.same_int (intKind_is _ _ _ _) ?v ?F ?N ?U ?d ?f ?_ ?z; (case F => k_asm); (case N => k_asm); (case U => k_updF); (case d => assumption); (case f => assumption); (case z => (rw [PySem.sizeLine_eq]; first | omega | exact Nat.le_of_ble_eq_true rfl)); (case v => exact PyProof.V.Flat.bool _)); intro _ _ _ _ _ _; (try k_sweep))
    k_with "call builtin:sorted" => (k_here; k_dflt (refine' Mine.sorted_dict ?hh ?F ?N ?M ?d ?lo ?z ?_; (case hh => exact rfl); (case F => assumption); (case N => assumption); (case M => k_mem); (case d => assumption); (case lo => assumption); (case z => first | omega | exact Nat.le_of_ble_eq_true rfl)); intro _ _ _ _ _ _ _ _ _ _ _ _)
    k_with "exec For" => (k_here; (with_reducible show wpAny _ _ (exec (Stmt.For (Expr.Name _ _) _ _ [] _) _) _ _ _); (with_reducible rename Fr _ _ _ _ => kF); (with_unfolding_all refine' For_invVF kF ?k1 ?k2 ?_; (case k1 => exact rfl); (case k2 => exact rfl); k_whole))
    k_with "call type:list" => (k_here; (with_reducible show wpAny _ _ (call (Value.type _) [Value.ref _]) _ _ _); k_dflt (refine' list_copyKT ?F ?N (Mine.has_tup ?G ?D ?M) ?_ ?z; (case F => k_asm); (case N => k_asm); (case G => k_asm); (case D => assumption); (case M => assumption); (case z => exact Nat.le_of_ble_eq_true rfl)); intro _ _ _ _ _ l1; (try (replace l1 := allLt_of l1; dsimp only [AllLt] at l1; revert l1; intro _)); (try k_sweep))
    k_with "ALLQ" => (simp only [List.forall_mem_cons, List.mem_singleton, forall_eq]; assumption)
    k_with "subscriptTail" => (k_here; (with_reducible show wpAny _ _ (subscriptTail _ _ (Value.ref _) (Value.int _ _)) _ _ _); k_dflt (refine' Mine.item_dat ?F ?D ?M ?a ?b ?x ?_; (case F => k_asm); (case D => assumption); (case M => assumption); (case a => assumption); (case b => omega); (case x => assumption); k_whole))
    k_with "getAttr ref" => (k_here; k_dflt (refine' Mine.attr_dat ?F ?X ?D ?h1 ?h2 ?k4 ?k5 ?k6 ?k7 ?k8 ?k9 ?_; (case F => k_asm); (case X => k_asm); (case D => assumption); (case h1 => assumption); (case h2 => assumption); (case k4 => k_is); (case k5 => k_is); (case k6 => k_is); (case k7 => k_is); (case k8 => assumption); (case k9 => k_handed); k_whole))
    k_with "getMethod ref" => (k_here; k_dflt (refine' Mine.meth_dat ?F ?X ?D ?h1 ?h2 ?k4 ?k5 ?k6 ?k7 ?_; (case F => k_asm); (case X => k_asm); (case D => assumption); (case h1 => assumption); (case h2 => assumption); (case k4 => k_is); (case k5 => k_is); (case k6 => k_is); (case k7 => assumption); k_whole))
    k_with "compareOp NotIn int ref" => (k_here; k_dflt (refine' Mine.notin_dict ?N ?M ?d ?lo ?_; (case N => assumption); (case M => k_mem); (case d => assumption); (case lo => assumption)))
    k_with "call builtin:list.extend" => (k_here; k_extra "EXT"; k_dflt (refine' Mine.ext_ ?F ?N ?b ?U ?z ?_; (case F => k_asm); (case N => k_asm); (case b => k_mem); (case U => (intro c; k_upd)); (case z => omega)); intro _ _ _ _; (try k_sweep))
    k_with "call type:list" => (k_here; k_extra "COPY"; (with_reducible show wpAny _ _ (call (Value.type _) [Value.ref _]) _ _ _); k_dflt (refine' Mine.copy_ ?F ?N ?M ?z ?_; (case F => k_asm); (case N => k_asm); (case M => k_mem); (case z => omega)); intro _ _ _ _ _ l1; (try (replace l1 := allLt_of l1; dsimp only [AllLt] at l1; revert l1; intro _)); (try k_sweep))
    k_with "truthy ref" => (k_here; k_extra "TRU"; (with_reducible show wpAny _ _ (truthy (Value.ref _)) _ _ _); k_dflt (refine' Mine.truthy_ ?N ?M ?z ?_; (case N => k_asm); (case M => k_mem); (case z => first | assumption | omega)); intro _)
    k_with "USE1" => ((case F => assumption); (case N => assumption); (case U => k_updF); (case C => exact Mine.at1 (by assumption) (by assumption) (by assumption) (by assumption) (by k_mem)); (case hd => ((try dsimp only [Mine.A0, Around.deeper, Around.in1]); omega)); (case hu => ((try dsimp only [Mine.A0, Around.deeper, Around.in1]); omega)))
    k_with "setItem ref int" => (k_here; (with_reducible show wpAny _ _ (setItem (Value.ref _) (Value.int _ _) _) _ _ _); k_dflt (refine' Mine.set_ ?F ?N ?a ?b ?c ?U ?_; (case F => k_asm); (case N => k_asm); (case U => k_upd); (case a => omega); (case b => omega); (case c => omega)); intro _ _ _; (try k_sweep))
    k_with "exec Assign cons ListComp" => k_extra "COMP"
    k_with "eval ListComp" => k_extra "COMPE"
    k_with "CompSrc" => k_extra "CSRC"
    k_with "binaryOp Mult ref int" => k_extra "MUL"
    k_with "TAILS" => (intro p hp; repeat (first | exact hp | refine List.Mem.tail _ ?_))
    k_with "getMethod ref" => (k_here; k_dflt (refine' Mine.meth_news ?F ?X ?N ?h1 ?h2 ?S ?k4 ?k5 ?k6 ?k7 ?_; (case F => k_asm); (case X => k_asm); (case N => k_asm); (case h1 => assumption); (case h2 => assumption); (case S => walk_at "TAILS"); (case k4 => k_is); (case k5 => k_is); (case k6 => k_is); (case k7 => assumption); k_whole))
    k_with "GOFF" => (refine Mine.off3 ?_; repeat' (first | exact List.forall_mem_nil _ | assumption | refine List.forall_mem_cons.mpr ⟨⟨by (dsimp only; omega), by (dsimp only; omega), by (dsimp only; omega)⟩, ?_⟩))
    k_with "GCUP" => (unfold Mine.Stop; rintro v' h' tk' o' tl F' N' ho ⟨e1, vs1, n1', ts1, c, u, hm1, hi1, hl4, e2, hc0, hc1⟩; cases hm1; cases e1; cases e2; (try simp only [List.nil_append] at N'); clear ho)
    k_with "eval Constant int" => (k_here; (k_dflt (refine' Mine.const_int ?_)); intro _ _)
    k_with "eval Constant str" => (k_here; (k_dflt (refine' Mine.const_str ?_)); intro _ _)
    k_with "newTuple" => (k_here; k_dflt (refine' kup_newTuple ?F ?N ?_ ?z; (case F => k_asm); (case N => k_asm); (case z => exact Nat.le_of_ble_eq_true rfl)); intro _ _ _ _ l1; (try (replace l1 := allLt_of l1; dsimp only [AllLt] at l1; revert l1; intro _)); (try k_sweep))
    k_with "newList" => (k_here; k_dflt (refine' newList_K ?k1 ?k2 ?_; (case k1 => k_asm); (case k2 => k_asm); k_whole); intro _ _ _ _ l1; (try (replace l1 := allLt_of l1; dsimp only [AllLt] at l1; revert l1; intro _)); (try k_sweep))
    k_steps
    · exact .inl ⟨by omega, rfl⟩
    · exact .inr ⟨by omega, rfl⟩
  intro most u0 tk0 hmost
  have hmost0 : 0 < most := by omega
  have hmost1 : most < 100 := by omega
  k_with_none
  k_with "BACK" => ((try dsimp only [Mine.TurnEnd, PyProof.Rows.WhileStep2]); refine' Mine.back ?B ?_; (case B => assumption); (try dsimp only))
  k_with "ENTER2" => ((case kC => assumption); (case k6 => k_is); (case kb => (conv => lhs; whnf)); (case ks => (conv => lhs; whnf)); (case k7 => k_is); (case k8 => (simp only [recursionLimit]; omega)); (case k9 => exact BindsTo.of_eq rfl); (case c5 => decide); (case kB => exact locs rfl); (case c2 => exact rfl); (case c3 => exact rfl); (case c4 => exact rfl); k_whole; intro _ _ _ _ _ _ _ _ _ _ _ _ _ _ _ _ _; (try dsimp only))
  k_with "subscriptTail" => (k_here; (with_reducible show wpAny _ _ (subscriptTail _ _ (Value.ref _) (Value.int _ _)) _ _ _); k_dflt (refine' item_tupleT (Mine.has_tup ?F ?D ?M) ?a ?b ?c ?d ?_; (case F => k_asm); (case D => assumption); (case M => assumption); (case a => decide); (case b => decide); (case c => first | rfl | exact Mine.seq_zero); (case d => rfl); k_whole))
  k_with "exec While Name cons nil" => k_extra "WHILE"
  k_with "pyIter ref" => ((with_reducible show wpAny _ _ (pyIter (Value.ref _)) (fun it s₂ => LoopAtV _ _ _ _ _ _ _ _ _ it s₂) _ _); k_extra "ITER")
  k_with "call ref" => k_extra "CALL"
  k_with "call type:reversed" => k_extra "REV"
  k_with "call builtin:list.pop" => (k_here; k_dflt (first | ((with_reducible show wpAny _ _ (call (Value.builtin _) [Value.ref _]) _ _ _); refine' Mine.popLast ?F ?N ?U ?z ?_; (case F => k_asm); (case N => k_asm); (case U => k_upd); (case z => (rw [PySem.sizeLine_eq]; first | assumption | omega | exact Nat.le_of_ble_eq_true rfl))) | (refine' Mine.pop0 ?F ?N ?U ?z ?_; (case F => k_asm); (case N => k_asm); (case U => k_upd); (case z => (rw [PySem.sizeLine_eq]; first | assumption | omega | exact Nat.le_of_ble_eq_true rfl)))); intro _ _ _; (try k_sweep))
  k_with "call builtin:list.append" => (k_here; k_extra "APP"; k_dflt (refine' Mine.app_ ?F ?N ?U ?z ?_; (case F => k_asm); (case N => k_asm); (case U => k_upd); (case z => (rw [PySem.sizeLine_eq]; first | assumption | omega | exact Nat.le_of_ble_eq_true rfl))); intro _ _ _; (try k_sweep))
  k_with "USE0" => ((case F => assumption); (case N => assumption); (case C => exact Mine.at0 (by assumption) (by assumption) (by assumption)); (case hd => ((try dsimp only [Mine.A0, Around.deeper, Around.in1]); omega)); (case hu => ((try dsimp only [Mine.A0, Around.deeper, Around.in1]); omega)))
  k_with "setItem ref int" => (k_here; k_dflt (refine' setItem_K PyProof.V.same_int (intKind_is _ _ _ _) ?v ?F ?N ?U ?d ?f ?_ ?z; (case F => k_asm); (case N => k_asm); (case U => k_updF); (case d => assumption); (case f => assumption); (case z => (rw [PySem.sizeLine_eq]; first | omega | exact Nat.le_of_ble_eq_true rfl)); (case v => exact PyProof.V.Flat.bool _)); intro _ _ _ _ _ _; (try k_sweep))
  k_with "call builtin:sorted" => (k_here; k_dflt (refine' Mine.sorted_dict ?hh ?F ?N ?M ?d ?lo ?z ?_; (case hh => exact rfl); (case F => assumption); (case N => assumption); (case M => k_mem); (case d => assumption); (case lo => assumption); (case z => first | omega | exact Nat.le_of_ble_eq_true rfl)); intro _ _ _ _ _ _ _ _ _ _ _ _)
  k_with "exec For" => (k_here; (with_reducible show wpAny _ _ (exec (Stmt.For (Expr.Name _ _) _ _ [] _) _) _ _ _); (with_reducible rename Fr _ _ _ _ => kF); (with_unfolding_all refine' For_invVF kF ?k1 ?k2 ?_; (case k1 => exact rfl); (case k2 => exact rfl); k_whole))
  k_with "call type:list" => (k_here; (with_reducible show wpAny _ _ (call (Value.type _) [Value.ref _]) _ _ _); k_dflt (refine' list_copyKT ?F ?N (Mine.has_tup ?G ?D ?M) ?_ ?z; (case F => k_asm); (case N => k_asm); (case G => k_asm); (case D => assumption); (case M => assumption); (case z => exact Nat.le_of_ble_eq_true rfl)); intro _ _ _ _ _ l1; (try (replace l1 := allLt_of l1; dsimp only [AllLt] at l1; revert l1; intro _)); (try k_sweep))
  k_with "ALLQ" => (simp only [List.forall_mem_cons, List.mem_singleton, forall_eq]; assumption)
  k_with "subscriptTail" => (k_here; (with_reducible show wpAny _ _ (subscriptTail _ _ (Value.ref _) (Value.int _ _)) _ _ _); k_dflt (refine' Mine.item_dat ?F ?D ?M ?a ?b ?x ?_; (case F => k_asm); (case D => assumption); (case M => assumption); (case a => assumption); (case b => omega); (case x => assumption); k_whole))
  k_with "getAttr ref" => (k_here; k_dflt (refine' Mine.attr_dat ?F ?X ?D ?h1 ?h2 ?k4 ?k5 ?k6 ?k7 ?k8 ?k9 ?_; (case F => k_asm); (case X => k_asm); (case D => assumption); (case h1 => assumption); (case h2 => assumption); (case k4 => k_is); (case k5 => k_is); (case k6 => k_is); (case k7 => k_is); (case k8 => assumption); (case k9 => k_handed); k_whole))
  k_with "getMethod ref" => (k_here; k_dflt (refine' Mine.meth_dat ?F ?X ?D ?h1 ?h2 ?k4 ?k5 ?k6 ?k7 ?_; (case F => k_asm); (case X => k_asm); (case D => assumption); (case h1 => assumption); (case h2 => assumption); (case k4 => k_is); (case k5 => k_is); (case k6 => k_is); (case k7 => assumption); k_whole))
  k_with "compareOp NotIn int ref" => (k_here; k_dflt (refine' Mine.notin_dict ?N ?M ?d ?lo ?_; (case N => assumption); (case M => k_mem); (case d => assumption); (case lo => assumption)))
  k_with "call builtin:list.extend" => (k_here; k_extra "EXT"; k_dflt (refine' Mine.ext_ ?F ?N ?b ?U ?z ?_; (case F => k_asm); (case N => k_asm); (case b => k_mem); (case U => (intro c; k_upd)); (case z => omega)); intro _ _ _ _; (try k_sweep))
  k_with "call type:list" => (k_here; k_extra "COPY"; (with_reducible show wpAny _ _ (call (Value.type _) [Value.ref _]) _ _ _); k_dflt (refine' Mine.copy_ ?F ?N ?M ?z ?_; (case F => k_asm); (case N => k_asm); (case M => k_mem); (case z => omega)); intro _ _ _ _ _ l1; (try (replace l1 := allLt_of l1; dsimp only [AllLt] at l1; revert l1; intro _)); (try k_sweep))
  k_with "truthy ref" => (k_here; k_extra "TRU"; (with_reducible show wpAny _ _ (truthy (Value.ref _)) _ _ _); k_dflt (refine' Mine.truthy_ ?N ?M ?z ?_; (case N => k_asm); (case M => k_mem); (case z => first | assumption | omega)); intro _)
  k_with "USE1" => ((case F => assumption); (case N => assumption); (case U => k_updF); (case C => exact Mine.at1 (by assumption) (by assumption) (by assumption) (by assumption) (by k_mem)); (case hd => ((try dsimp only [Mine.A0, Around.deeper, Around.in1]); omega)); (case hu => ((try dsimp only [Mine.A0, Around.deeper, Around.in1]); omega)))
  k_with "setItem ref int" => (k_here; (with_reducible show wpAny _ _ (setItem (Value.ref _) (Value.int _ _) _) _ _ _); k_dflt (refine' Mine.set_ ?F ?N ?a ?b ?c ?U ?_; (case F => k_asm); (case N => k_asm); (case U => k_upd); (case a => omega); (case b => omega); (case c => omega)); intro _ _ _; (try k_sweep))
  k_with "exec Assign cons ListComp" => k_extra "COMP"
  k_with "eval ListComp" => k_extra "COMPE"
  k_with "CompSrc" => k_extra "CSRC"
  k_with "binaryOp Mult ref int" => k_extra "MUL"
  k_with "TAILS" => (intro p hp; repeat (first | exact hp | refine List.Mem.tail _ ?_))
  k_with "getMethod ref" => (k_here; k_dflt (refine' Mine.meth_news ?F ?X ?N ?h1 ?h2 ?S ?k4 ?k5 ?k6 ?k7 ?_; (case F => k_asm); (case X => k_asm); (case N => k_asm); (case h1 => assumption); (case h2 => assumption); (case S => walk_at "TAILS"); (case k4 => k_is); (case k5 => k_is); (case k6 => k_is); (case k7 => assumption); k_whole))
  k_with "GOFF" => (refine Mine.off3 ?_; repeat' (first | exact List.forall_mem_nil _ | assumption | refine List.forall_mem_cons.mpr ⟨⟨by (dsimp only; omega), by (dsimp only; omega), by (dsimp only; omega)⟩, ?_⟩))
  k_with "GCUP" => (unfold Mine.Stop; rintro v' h' tk' o' tl F' N' ho ⟨e1, vs1, n1', ts1, c, u, hm1, hi1, hl4, e2, hc0, hc1⟩; cases hm1; cases e1; cases e2; (try simp only [List.nil_append] at N'); clear ho)
  k_with "eval Constant int" => (k_here; (k_dflt (refine' Mine.const_int ?_)); intro _ _)
  k_with "eval Constant str" => (k_here; (k_dflt (refine' Mine.const_str ?_)); intro _ _)
  k_with "newTuple" => (k_here; k_dflt (refine' kup_newTuple ?F ?N ?_ ?z; (case F => k_asm); (case N => k_asm); (case z => exact Nat.le_of_ble_eq_true rfl)); intro _ _ _ _ l1; (try (replace l1 := allLt_of l1; dsimp only [AllLt] at l1; revert l1; intro _)); (try k_sweep))
  k_with "newList" => (k_here; k_dflt (refine' newList_K ?k1 ?k2 ?_; (case k1 => k_asm); (case k2 => k_asm); k_whole); intro _ _ _ _ l1; (try (replace l1 := allLt_of l1; dsimp only [AllLt] at l1; revert l1; intro _)); (try k_sweep))
  k_with "APP" => skip
  k_with "CALL" => (first | (refine' use1 ?F ?N ?U (cup_spec ?C ?hi ?hk ?hk2 ?hlen ?hd ?hu) ?_; walk_at "USE1"; (case hi => assumption); (case hk => first | decide | omega); (case hk2 => first | decide | omega); (case hlen => omega); refine stop_at ?_))
  k_steps
  walk_at "GCUP"
  k_steps
  · walk_at "GCUP"; k_steps
    walk_at "BACK"
    refine' leave (mods' := [_, _, _]) (tl := [_, _]) hg' ?F1 ?N1 ?a1 ?t1 ?p1
    case F1 => assumption
    case N1 => assumption
    case a1 => rfl
    case t1 => walk_at "GOFF"
    case p1 => exact ⟨⟨_, _, _, _, _, _, _, _, _, rfl, by assumption, by omega, IntsAre.append hc (.cons _ _ .nil), .call (.head _) (.tail _ (.head _)), Grow.call (big_pos _) (by assumption) (by assumption)⟩⟩
  · exfalso; omega
  · walk_at "GCUP"; k_steps
    walk_at "BACK"
    refine' leave (mods' := [_, _, _]) (tl := [_]) hg' ?F2 ?N2 ?a2 ?t2 ?p2
    case F2 => assumption
    case N2 => assumption
    case a2 => rfl
    case t2 => walk_at "GOFF"
    case p2 => exact ⟨⟨_, _, _, _, _, _, _, _, _, rfl, by assumption, by omega, hc, .const (.head _), Grow.const (big_pos _)⟩⟩
  · walk_at "GCUP"; k_steps
    · unfold Stop; rintro v' h' tk' o' tl F' N' ho ⟨e1, vs1, n1', ts1, c, u, hm1, hi1, hl4, e2, hc0, hc1⟩; cases hm1; cases e1; cases e2; (try simp only [List.nil_append] at N'); clear ho
      obtain rfl | rfl | rfl | rfl : c = 0 ∨ c = 1 ∨ c = 2 ∨ c = 3 := by omega
      all_goals k_steps
      · walk_at "BACK"
        refine' leave (mods' := [_, _, _]) (tl := [_, _, _, _, _, _, _]) hg' ?F3 ?N3 ?a3 ?t3 ?p3
        case F3 => assumption
        case N3 => assumption
        case a3 => rfl
        case t3 => walk_at "GOFF"
        case p3 => exact ⟨⟨_, _, _, _, _, _, _, _, .sig, rfl, by assumption, by omega, hc, .sig (by k_mem), Grow.loose (big_pos _) (by simp)⟩⟩
      · walk_at "BACK"
        refine' leave (mods' := [_, _, _]) (tl := [_, _, _, _, _, _, _]) hg' ?F4 ?N4 ?a4 ?t4 ?p4
        case F4 => assumption
        case N4 => assumption
        case a4 => rfl
        case t4 => walk_at "GOFF"
        case p4 => exact ⟨⟨_, _, _, _, _, _, _, _, .local, rfl, by assumption, by omega, hc, .local (by k_mem), Grow.loose (big_pos _) (by simp)⟩⟩
      · walk_at "BACK"
        refine' leave (mods' := [_, _, _]) (tl := [_, _, _, _, _, _, _]) hg' ?F5 ?N5 ?a5 ?t5 ?p5
        case F5 => assumption
        case N5 => assumption
        case a5 => rfl
        case t5 => walk_at "GOFF"
        case p5 => exact ⟨⟨_, _, _, _, _, _, _, _, .word, rfl, by assumption, by omega, hc, .word (by k_mem) (.const (by k_mem)), Grow.loose (big_pos _) (by simp)⟩⟩
      · walk_at "BACK"
        refine' leave (mods' := [_, _, _]) (tl := [_, _, _, _, _, _, _]) hg' ?F6 ?N6 ?a6 ?t6 ?p6
        case F6 => assumption
        case N6 => assumption
        case a6 => rfl
        case t6 => walk_at "GOFF"
        case p6 => exact ⟨⟨_, _, _, _, _, _, _, _, .time, rfl, by assumption, by omega, hc, .time (by k_mem) (by k_mem), Grow.loose (big_pos _) (by simp)⟩⟩
    · walk_at "GCUP"; k_steps
      walk_at "BACK"
      refine' leave (mods' := [_, _, _]) (tl := [_]) hg' ?F7 ?N7 ?a7 ?t7 ?p7
      case F7 => assumption
      case N7 => assumption
      case a7 => rfl
      case t7 => walk_at "GOFF"
      case p7 => exact ⟨⟨_, _, _, _, _, _, _, _, _, rfl, by assumption, by omega, hc, .const (.head _), Grow.const (big_pos _)⟩⟩
  · walk_at "GCUP"; k_steps
    walk_at "BACK"
    refine' leave (mods' := [_, _, _]) (tl := [_]) hg' ?F8 ?N8 ?a8 ?t8 ?p8
    case F8 => assumption
    case N8 => assumption
    case a8 => rfl
    case t8 => walk_at "GOFF"
    case p8 => exact ⟨⟨_, _, _, _, _, _, _, _, _, rfl, by assumption, by omega, hc, .const (.head _), Grow.const (big_pos _)⟩⟩
  · obtain ⟨d', rfl⟩ : ∃ d', d = d' + 1 := ⟨d - 1, by omega⟩
    have hbp := big_pos d'
    have hbs : big (d' + 1) = 2 * big d' + 2 := rfl
    refine' use (mods := [(tray, _), (called, _), (loose, _)]) (rest := []) ?F ?N ?r (ih d' rfl ?C ?hi hc ?l1 ?l2 ?l3 ?k ?d3 ?hd ?hu) ?_
    case F => assumption
    case N => assumption
    case r => exact fun _ h => (nomatch h)
    case C => exact atL (by assumption) (by assumption) (by assumption) (by assumption) (fun p hp => hp)
    case hi => assumption
    case l1 => omega
    case l2 => omega
    case l3 => omega
    case k => omega
    case d3 => omega
    case hd => ((try dsimp only [Mine.A0, Around.deeper, Around.in1]); omega)
    case hu => ((try dsimp only [Mine.A0, Around.deeper, Around.in1]); omega)
    rintro v1 h1 tk1 mods1 tl1 F1 N1 ha1 ho1 ⟨⟨vs1, m1, ts1, cs1, m2, cl1, ls1, m3, e1, rfl, hi1, hl1', hc1, he1, hg1⟩⟩
    have N1' := News.sub (news' := (tray, listOf vs1.toArray m1) :: (called, listOf cs1.toArray m2) :: (loose, listOf ls1.toArray m3) :: tl1) N1 (fun p hp => by simp at hp ⊢; grind)
    have o1 : ∀ p ∈ tl1, @Ne Nat p.1 tray ∧ @Ne Nat p.1 called ∧ @Ne Nat p.1 loose := fun p hp => ⟨(ho1 _ (.head _) p hp).symm, (ho1 _ (.tail _ (.head _)) p hp).symm, (ho1 _ (.tail _ (.tail _ (.head _))) p hp).symm⟩
    clear N1 ho1
    have hcl1 := hc1.length
    have hcl := hc.length
    have hgc := hg1.clen
    have hgl := hg1.llen
    k_steps
    · walk_at "BACK"
      refine' leave (mods' := [_, _, _]) (tl := (_ :: _ :: tl1)) hg' ?F9 (news_swap (new := [_, _]) (mods := [_, _, _]) ?N9) ?a9 ?t9 ?p9
      case F9 => assumption
      case N9 => assumption
      case a9 => rfl
      case t9 => walk_at "GOFF"
      case p9 => exact ⟨⟨_, _, _, _, _, _, _, _, _, rfl, by assumption, by omega, hc1, .clog (.head _) (.tail _ (.head _)) (he1.mono fun p hp => .tail _ (.tail _ hp)), Grow.clog hg1⟩⟩
    refine' use (mods := [(tray, _), (called, _), (loose, _)]) (rest := tl1) ?F ?N ?r (ih d' rfl ?C hi1 hc1 ?l1 ?l2 ?l3 ?k ?d3 ?hd ?hu) ?_
    case F => assumption
    case N => assumption
    case r => exact off3 o1
    case C => exact atL (by assumption) (by assumption) (by assumption) (by assumption) (fun p hp => List.mem_append_left tl1 hp)
    case l1 => omega
    case l2 => omega
    case l3 => omega
    case k => omega
    case d3 => omega
    case hd => ((try dsimp only [Mine.A0, Around.deeper, Around.in1]); omega)
    case hu => ((try dsimp only [Mine.A0, Around.deeper, Around.in1]); omega)
    rintro v2 h2 tk2 mods2 tl2 F2 N2 ha2 ho2 ⟨⟨vs2, m4, ts2, cs2, m5, cl2, ls2, m6, e2, rfl, hi2, hl2', hc2, he2, hg2⟩⟩
    obtain ⟨tlA, htA⟩ : ∃ tlA, tlA = tl2 ++ tl1 := ⟨_, rfl⟩
    have N2' := News.sub (news' := (tray, listOf vs2.toArray m4) :: (called, listOf cs2.toArray m5) :: (loose, listOf ls2.toArray m6) :: tlA) N2 (fun p hp => by subst htA; simp at hp ⊢; grind)
    have o2 : ∀ p ∈ tlA, @Ne Nat p.1 tray ∧ @Ne Nat p.1 called ∧ @Ne Nat p.1 loose := fun p hp => by
      subst htA
      rcases List.mem_append.mp hp with hp | hp
      · exact ⟨(ho2 _ (.head _) p hp).symm, (ho2 _ (.tail _ (.head _)) p hp).symm, (ho2 _ (.tail _ (.tail _ (.head _))) p hp).symm⟩
      · exact o1 p hp
    have he1' : ExL tlA v1 e1 := he1.mono fun p hp => htA ▸ List.mem_append_right _ hp
    have he2' : ExL tlA v2 e2 := he2.mono fun p hp => htA ▸ List.mem_append_left _ hp
    clear N2 ho2
    k_steps
    · walk_at "BACK"
      refine' leave (mods' := [_, _, _]) (tl := (_ :: _ :: tlA)) hg' ?F10 (news_swap (new := [_, _]) (mods := [_, _, _]) ?N10) ?a10 ?t10 ?p10
      case F10 => assumption
      case N10 => assumption
      case a10 => rfl
      case t10 => walk_at "GOFF"
      case p10 => exact ⟨⟨_, _, _, _, _, _, _, _, _, rfl, by assumption, by omega, hc2, .cat (.head _) (.tail _ (.head _)) (he1'.mono fun p hp => .tail _ (.tail _ hp)) (he2'.mono fun p hp => .tail _ (.tail _ hp)), Grow.cat hg1 hg2⟩⟩
    · walk_at "BACK"
      refine' leave (mods' := [_, _, _]) (tl := (_ :: _ :: tlA)) hg' ?F11 (news_swap (new := [_, _]) (mods := [_, _, _]) ?N11) ?a11 ?t11 ?p11
      case F11 => assumption
      case N11 => assumption
      case a11 => rfl
      case t11 => walk_at "GOFF"
      case p11 => exact ⟨⟨_, _, _, _, _, _, _, _, _, rfl, by assumption, by omega, hc2, .cond (.head _) (he1'.mono fun p hp => .tail _ (.tail _ hp)) (he2'.mono fun p hp => .tail _ (.tail _ hp)) (.const (.tail _ (.head _))), Grow.cond hg1 hg2⟩⟩
    · walk_at "BACK"
      refine' leave (mods' := [_, _, _]) (tl := (_ :: tlA)) hg' ?F12 (news_swap (new := [_]) (mods := [_, _, _]) ?N12) ?a12 ?t12 ?p12
      case F12 => assumption
      case N12 => assumption
      case a12 => rfl
      case t12 => walk_at "GOFF"
      case p12 => exact ⟨⟨_, _, _, _, _, _, _, _, _, rfl, by assumption, by omega, hc2, .pow (.head _) (he1'.mono fun p hp => .tail _ hp) (he2'.mono fun p hp => .tail _ hp), Grow.pow hg1 hg2⟩⟩
theorem grown_spec {w : World} {mg mb : Str → Option Value} {mean : ExcName → Option Value} {gd : Option (List Code)} {tray called loose : Addr} {M : Int} (hM : M ≤ 4) (hM0 : 0 ≤ M) (hne1 : @Ne Nat tray called) (hne2 : @Ne Nat tray loose) (hne3 : @Ne Nat called loose) :
    ∀ (d : Nat) {s : Shared} {h₀ : Heap} {dp un : Nat} {fr : Option (List Env)} {vs cs ls : List Value} {n1 n2 n3 : Nat} {ts cl : List Int} {k : Int} {t1 t2 : Tok},
    At w mg mb mean h₀ s [(tray, listOf vs.toArray n1), (called, listOf cs.toArray n2), (loose, listOf ls.toArray n3)] → IntsAre vs ts → IntsAre cs cl → vs.length ≤ 1000 → cs.length + big d ≤ 1000 → ls.length + big d ≤ 1000 → k = (d : Int) → d ≤ 3 → dp + d < 450 → un + 10 * d < 4500 →
    codeAny (model PySem.Challenge.pw_on0119_01 w) (A0 dp un fr gd) (.call (.ref 290) ⟨[.ref tray, .int k t1, .int M t2, .ref called, .ref loose], []⟩)
      (Post s [(tray, listOf vs.toArray n1), (called, listOf cs.toArray n2), (loose, listOf ls.toArray n3)] (GrownOut tray called loose vs.length cl ls M d)) s := by
  intro d
  induction d with
  | zero => exact grown_step hM hM0 hne1 hne2 hne3 0 (fun d' e => by omega)
  | succ d ih => exact grown_step hM hM0 hne1 hne2 hne3 (d + 1) (fun d' e => by cases e; exact ih)
end Mine
namespace Mine
structure BodyOut (tray lk touches : Addr) (len : Nat) (tv : List Value) (n3 : Nat) (number M : Int) (mods' tl : List (Addr × Obj)) (v : Value) : Prop where
  out : ∃ vs' n1 ts' ws n2 ks b st tv', mods' = [(tray, listOf vs'.toArray n1), (lk, listOf ws.toArray n2), (touches, listOf tv'.toArray n3)] ∧ IntsAre vs' ts' ∧ vs'.length ≤ len ∧ IntsAre ws ks ∧ ks.length ≤ 1 ∧ (∀ k ∈ ks, 0 ≤ k ∧ k < M) ∧
    v = .ref b ∧ StL tl v st ∧ st.Small ∧ (∀ k, st.all Ex.calls k ↔ k ∈ ks) ∧ ((st.touch ∧ tv' = tv.set number.toNat (.bool true)) ∨ (¬ st.touch ∧ tv' = tv))

theorem stA : St.Small (.set false .const) ∧ (∀ k, St.all Ex.calls (.set false .const) k ↔ k ∈ ([] : List Int)) ∧ ¬ St.touch (.set false .const) := by
  simp [St.Small, St.nodes, St.parts, St.exprs, Ex.size, St.all, Ex.calls, Ex.subs, St.touch, Ex.reads, St.writes, St.tgts]
theorem stB {c : Int} : St.Small (.block false (.bin (.call c) .const)) ∧ (∀ k, St.all Ex.calls (.block false (.bin (.call c) .const)) k ↔ k = c) ∧ ¬ St.touch (.block false (.bin (.call c) .const)) := by
  simp [St.Small, St.nodes, St.parts, St.exprs, Ex.size, St.all, Ex.calls, Ex.subs, St.touch, Ex.reads, St.writes, St.tgts]
theorem stC : St.Small (.set false .sig) ∧ (∀ k, St.all Ex.calls (.set false .sig) k ↔ k ∈ ([] : List Int)) ∧ St.touch (.set false .sig) := by
  simp [St.Small, St.nodes, St.parts, St.exprs, Ex.size, St.all, Ex.calls, Ex.subs, St.touch, Ex.reads, St.writes, St.tgts]
theorem stD : St.Small (.cond .const true .const) ∧ (∀ k, St.all Ex.calls (.cond .const true .const) k ↔ k ∈ ([] : List Int)) ∧ St.touch (.cond .const true .const) := by
  simp [St.Small, St.nodes, St.parts, St.exprs, Ex.size, St.all, Ex.calls, Ex.subs, St.touch, Ex.reads, St.writes, St.tgts]
theorem body_spec {w : World} {mg mb : Str → Option Value} {mean : ExcName → Option Value} {s : Shared} {h₀ : Heap} {dp un : Nat} {fr : Option (List Env)} {gd : Option (List Code)} {tray lk touches links : Addr} {vs tv lrefs : List Value} {n1 n2 n3 nl : Nat} {ts : List Int} {number M : Int} {t1 t2 : Tok}
    (hM : M ≤ 4) (hM0 : 0 < M) (hne1 : @Ne Nat tray lk) (hne2 : @Ne Nat tray touches) (hne3 : @Ne Nat lk touches)
    (C : At w mg mb mean h₀ s [(tray, listOf vs.toArray n1), (lk, listOf [].toArray n2), (touches, listOf tv.toArray n3)])
    (D : Has s.heap [(links, listOf lrefs.toArray nl)]) (hoff : ∀ q ∈ [(links, listOf lrefs.toArray nl)], q.1 ∉ [(tray, listOf vs.toArray n1), (lk, listOf [].toArray n2), (touches, listOf tv.toArray n3)].map (·.1))
    (hlr : lrefs[number.toNat]? = some (.ref lk)) (h0 : 0 ≤ number) (h1 : number < (tv.length : Int)) (htv : tv.length ≤ 10)
    (hi : IntsAre vs ts) (hl1 : vs.length ≤ 1000) (hd : dp < 450) (hu : un < 4500) :
    codeAny (model PySem.Challenge.pw_on0119_01 w) (A0 dp un fr gd) (.call (.ref 283) ⟨[.ref tray, .int number t1, .int M t2, .ref links, .ref touches], []⟩)
      (Post s [(tray, listOf vs.toArray n1), (lk, listOf [].toArray n2), (touches, listOf tv.toArray n3)] (BodyOut tray lk touches vs.length tv n3 number M)) s := by
  k_with_none
  k_with "BACK" => ((try dsimp only [Mine.TurnEnd, PyProof.Rows.WhileStep2]); refine' Mine.back ?B ?_; (case B => assumption); (try dsimp only))
  k_with "ENTER2" => ((case kC => assumption); (case k6 => k_is); (case kb => (conv => lhs; whnf)); (case ks => (conv => lhs; whnf)); (case k7 => k_is); (case k8 => (simp only [recursionLimit]; omega)); (case k9 => exact BindsTo.of_eq rfl); (case c5 => decide); (case kB => exact locs rfl); (case c2 => exact rfl); (case c3 => exact rfl); (case c4 => exact rfl); k_whole; intro _ _ _ _ _ _ _ _ _ _ _ _ _ _ _ _ _; (try dsimp only))
  k_with "subscriptTail" => (k_here; (with_reducible show wpAny _ _ (subscriptTail _ _ (Value.ref _) (Value.int _ _)) _ _ _); k_dflt (refine' item_tupleT (Mine.has_tup ?F ?D ?M) ?a ?b ?c ?d ?_; (case F => k_asm); (case D => assumption); (case M => assumption); (case a => decide); (case b => decide); (case c => first | rfl | exact Mine.seq_zero); (case d => rfl); k_whole))
  k_with "exec While Name cons nil" => k_extra "WHILE"
  k_with "pyIter ref" => ((with_reducible show wpAny _ _ (pyIter (Value.ref _)) (fun it s₂ => LoopAtV _ _ _ _ _ _ _ _ _ it s₂) _ _); k_extra "ITER")
  k_with "call ref" => k_extra "CALL"
  k_with "call type:reversed" => k_extra "REV"
  k_with "call builtin:list.pop" => (k_here; k_dflt (first | ((with_reducible show wpAny _ _ (call (Value.builtin _) [Value.ref _]) _ _ _); refine' Mine.popLast ?F ?N ?U ?z ?_; (case F => k_asm); (case N => k_asm); (case U => k_upd); (case z => (rw [PySem.sizeLine_eq]; first | assumption | omega | exact Nat.le_of_ble_eq_true rfl))) | (refine' Mine.pop0 ?F ?N ?U ?z ?_; (case F => k_asm); (case N => k_asm); (case U => k_upd); (case z => (rw [PySem.sizeLine_eq]; first | assumption | omega | exact Nat.le_of_ble_eq_true rfl)))); intro _ _ _; (try k_sweep))
  k_with "call builtin:list.append" => (k_here; k_extra "APP"; k_dflt (refine' Mine.app_ ?F ?N ?U ?z ?_; (case F => k_asm); (case N => k_asm); (case U => k_upd); (case z => (rw [PySem.sizeLine_eq]; first | assumption | omega | exact Nat.le_of_ble_eq_true rfl))); intro _ _ _; (try k_sweep))
  k_with "USE0" => ((case F => assumption); (case N => assumption); (case C => exact Mine.at0 (by assumption) (by assumption) (by assumption)); (case hd => ((try dsimp only [Mine.A0, Around.deeper, Around.in1]); omega)); (case hu => ((try dsimp only [Mine.A0, Around.deeper, Around.in1]); omega)))
  k_with "setItem ref int" => (k_here; k_dflt (refine' setItem_K PyProof.V.same_int (intKind_is _ _ _ _) ?v ?F ?N ?U ?d ?f ?_ ?z; (case F => k_asm); (case N => k_asm); (case U => k_updF); (case d => assumption); (case f => assumption); (case z => (rw [PySem.sizeLine_eq]; first | omega | exact Nat.le_of_ble_eq_true rfl)); (case v => exact PyProof.V.Flat.bool _)); intro _ _ _ _ _ _; (try k_sweep))
  k_with "call builtin:sorted" => (k_here; k_dflt (refine' Mine.sorted_dict ?hh ?F ?N ?M ?d ?lo ?z ?_; (case hh => exact rfl); (case F => assumption); (case N => assumption); (case M => k_mem); (case d => assumption); (case lo => assumption); (case z => first | omega | exact Nat.le_of_ble_eq_true rfl)); intro _ _ _ _ _ _ _ _ _ _ _ _)
  k_with "exec For" => (k_here; (with_reducible show wpAny _ _ (exec (Stmt.For (Expr.Name _ _) _ _ [] _) _) _ _ _); (with_reducible rename Fr _ _ _ _ => kF); (with_unfolding_all refine' For_invVF kF ?k1 ?k2 ?_; (case k1 => exact rfl); (case k2 => exact rfl); k_whole))
  k_with "call type:list" => (k_here; (with_reducible show wpAny _ _ (call (Value.type _) [Value.ref _]) _ _ _); k_dflt (refine' list_copyKT ?F ?N (Mine.has_tup ?G ?D ?M) ?_ ?z; (case F => k_asm); (case N => k_asm); (case G => k_asm); (case D => assumption); (case M => assumption); (case z => exact Nat.le_of_ble_eq_true rfl)); intro _ _ _ _ _ l1; (try (replace l1 := allLt_of l1; dsimp only [AllLt] at l1; revert l1; intro _)); (try k_sweep))
  k_with "ALLQ" => (simp only [List.forall_mem_cons, List.mem_singleton, forall_eq]; assumption)
  k_with "subscriptTail" => (k_here; (with_reducible show wpAny _ _ (subscriptTail _ _ (Value.ref _) (Value.int _ _)) _ _ _); k_dflt (refine' Mine.item_dat ?F ?D ?M ?a ?b ?x ?_; (case F => k_asm); (case D => assumption); (case M => assumption); (case a => assumption); (case b => omega); (case x => assumption); k_whole))
  k_with "getAttr ref" => (k_here; k_dflt (refine' Mine.attr_dat ?F ?X ?D ?h1 ?h2 ?k4 ?k5 ?k6 ?k7 ?k8 ?k9 ?_; (case F => k_asm); (case X => k_asm); (case D => assumption); (case h1 => assumption); (case h2 => assumption); (case k4 => k_is); (case k5 => k_is); (case k6 => k_is); (case k7 => k_is); (case k8 => assumption); (case k9 => k_handed); k_whole))
  k_with "getMethod ref" => (k_here; k_dflt (refine' Mine.meth_dat ?F ?X ?D ?h1 ?h2 ?k4 ?k5 ?k6 ?k7 ?_; (case F => k_asm); (case X => k_asm); (case D => assumption); (case h1 => assumption); (case h2 => assumption); (case k4 => k_is); (case k5 => k_is); (case k6 => k_is); (case k7 => assumption); k_whole))
  k_with "compareOp NotIn int ref" => (k_here; k_dflt (refine' Mine.notin_dict ?N ?M ?d ?lo ?_; (case N => assumption); (case M => k_mem); (case d => assumption); (case lo => assumption)))
  k_with "call builtin:list.extend" => (k_here; k_extra "EXT"; k_dflt (refine' Mine.ext_ ?F ?N ?b ?U ?z ?_; (case F => k_asm); (case N => k_asm); (case b => k_mem); (case U => (intro c; k_upd)); (case z => omega)); intro _ _ _ _; (try k_sweep))
  k_with "call type:list" => (k_here; k_extra "COPY"; (with_reducible show wpAny _ _ (call (Value.type _) [Value.ref _]) _ _ _); k_dflt (refine' Mine.copy_ ?F ?N ?M ?z ?_; (case F => k_asm); (case N => k_asm); (case M => k_mem); (case z => omega)); intro _ _ _ _ _ l1; (try (replace l1 := allLt_of l1; dsimp only [AllLt] at l1; revert l1; intro _)); (try k_sweep))
  k_with "truthy ref" => (k_here; k_extra "TRU"; (with_reducible show wpAny _ _ (truthy (Value.ref _)) _ _ _); k_dflt (refine' Mine.truthy_ ?N ?M ?z ?_; (case N => k_asm); (case M => k_mem); (case z => first | assumption | omega)); intro _)
  k_with "USE1" => ((case F => assumption); (case N => assumption); (case U => k_updF); (case C => exact Mine.at1 (by assumption) (by assumption) (by assumption) (by assumption) (by k_mem)); (case hd => ((try dsimp only [Mine.A0, Around.deeper, Around.in1]); omega)); (case hu => ((try dsimp only [Mine.A0, Around.deeper, Around.in1]); omega)))
  k_with "setItem ref int" => (k_here; (with_reducible show wpAny _ _ (setItem (Value.ref _) (Value.int _ _) _) _ _ _); k_dflt (refine' Mine.set_ ?F ?N ?a ?b ?c ?U ?_; (case F => k_asm); (case N => k_asm); (case U => k_upd); (case a => omega); (case b => omega); (case c => omega)); intro _ _ _; (try k_sweep))
  k_with "exec Assign cons ListComp" => k_extra "COMP"
  k_with "eval ListComp" => k_extra "COMPE"
  k_with "CompSrc" => k_extra "CSRC"
  k_with "binaryOp Mult ref int" => k_extra "MUL"
  k_with "TAILS" => (intro p hp; repeat (first | exact hp | refine List.Mem.tail _ ?_))
  k_with "getMethod ref" => (k_here; k_dflt (refine' Mine.meth_news ?F ?X ?N ?h1 ?h2 ?S ?k4 ?k5 ?k6 ?k7 ?_; (case F => k_asm); (case X => k_asm); (case N => k_asm); (case h1 => assumption); (case h2 => assumption); (case S => walk_at "TAILS"); (case k4 => k_is); (case k5 => k_is); (case k6 => k_is); (case k7 => assumption); k_whole))
  k_with "GOFF" => (refine Mine.off3 ?_; repeat' (first | exact List.forall_mem_nil _ | assumption | refine List.forall_mem_cons.mpr ⟨⟨by (dsimp only; omega), by (dsimp only; omega), by (dsimp only; omega)⟩, ?_⟩))
  k_with "GCUP" => (unfold Mine.Stop; rintro v' h' tk' o' tl F' N' ho ⟨e1, vs1, n1', ts1, c, u, hm1, hi1, hl4, e2, hc0, hc1⟩; cases hm1; cases e1; cases e2; (try simp only [List.nil_append] at N'); clear ho)
  k_with "eval Constant int" => (k_here; (k_dflt (refine' Mine.const_int ?_)); intro _ _)
  k_with "eval Constant str" => (k_here; (k_dflt (refine' Mine.const_str ?_)); intro _ _)
  k_with "newTuple" => (k_here; k_dflt (refine' kup_newTuple ?F ?N ?_ ?z; (case F => k_asm); (case N => k_asm); (case z => exact Nat.le_of_ble_eq_true rfl)); intro _ _ _ _ l1; (try (replace l1 := allLt_of l1; dsimp only [AllLt] at l1; revert l1; intro _)); (try k_sweep))
  k_with "newList" => (k_here; k_dflt (refine' newList_K ?k1 ?k2 ?_; (case k1 => k_asm); (case k2 => k_asm); k_whole); intro _ _ _ _ l1; (try (replace l1 := allLt_of l1; dsimp only [AllLt] at l1; revert l1; intro _)); (try k_sweep))
  refine' enter (binds := [(Str.ofString "tray", .ref tray), (Str.ofString "number", .int number t1), (Str.ofString "many", .int M t2), (Str.ofString "links", .ref links), (Str.ofString "touches", .ref touches)]) ?kC ?k6 ?kb ?ks ?k7 ?k8 ?k9 ?kB ?_ ?c2 ?c3 ?c4 ?c5; walk_at "ENTER2"
  rename_i g' L' h' hg' hz' hl' eL' X' T' F' N'
  have D' : Has g' [(links, listOf lrefs.toArray nl)] := fun q hq => hg' _ _ (D q hq) (hoff q hq)
  have hmem : (links, listOf lrefs.toArray nl) ∈ [(links, listOf lrefs.toArray nl)] := .head _
  k_with "APP" => skip
  k_with "CALL" => (refine' use1 ?F ?N ?U (cup_spec ?C ?hi ?hk ?hk2 ?hlen ?hd ?hu) ?_; walk_at "USE1"; (case hi => assumption); (case hk => first | decide | omega); (case hk2 => first | decide | omega); (case hlen => omega); refine stop_at ?_)
  k_steps
  walk_at "GCUP"
  k_steps
  · walk_at "BACK"
    refine' leave (mods' := [_, _, _]) (tl := [_, _, _, _, _, _]) hg' ?F1 ?N1 ?a1 ?t1 ?p1
    case F1 => assumption
    case N1 => assumption
    case a1 => rfl
    case t1 => walk_at "GOFF"
    case p1 => exact ⟨⟨_, _, _, _, _, _, _, _, _, rfl, by assumption, by omega, .nil, by simp, by simp, rfl, .set (.mk (by k_mem) (.loc (by k_mem) (by k_mem) (by k_mem) (by k_mem)) (.const (by k_mem))), stA.1, stA.2.1, .inr ⟨stA.2.2, rfl⟩⟩⟩
  · unfold Stop; rintro v' h' tk' o' tl F' N' ho ⟨e1, vs1, n1', ts1, c, u, hm1, hi1, hl4, e2, hc0, hc1⟩; cases hm1; cases e1; cases e2; (try simp only [List.nil_append] at N'); clear ho
    k_steps
    walk_at "BACK"
    refine' leave (mods' := [_, _, _]) (tl := [_, _, _, _, _, _, _, _, _, _, _]) hg' ?F2 ?N2 ?a2 ?t2 ?p2
    case F2 => assumption
    case N2 => assumption
    case a2 => rfl
    case t2 => walk_at "GOFF"
    case p2 => exact ⟨⟨_, _, _, _, _, _, _, _, _, rfl, by assumption, by omega, .cons _ _ .nil, by simp, by simp; omega, rfl, .block (by k_mem) (by k_mem) (.mk (by k_mem) (.loc (by k_mem) (by k_mem) (by k_mem) (by k_mem)) (.bin (by k_mem) (.call (by k_mem) (by k_mem)) (.const (by k_mem)))), stB.1, fun k => (stB.2.1 k).trans (by simp), .inr ⟨stB.2.2, rfl⟩⟩⟩
  · walk_at "BACK"
    refine' leave (mods' := [_, _, _]) (tl := [_, _, _, _, _, _]) hg' ?F3 ?N3 ?a3 ?t3 ?p3
    case F3 => assumption
    case N3 => assumption
    case a3 => rfl
    case t3 => walk_at "GOFF"
    case p3 => exact ⟨⟨_, _, _, _, _, _, _, _, _, rfl, by assumption, by omega, .nil, by simp, by simp, rfl, .set (.mk (by k_mem) (.loc (by k_mem) (by k_mem) (by k_mem) (by k_mem)) (.sig (by k_mem))), stC.1, stC.2.1, .inl ⟨stC.2.2, rfl⟩⟩⟩
  · walk_at "BACK"
    refine' leave (mods' := [_, _, _]) (tl := [_, _, _, _, _, _, _, _, _, _, _, _]) hg' ?F4 ?N4 ?a4 ?t4 ?p4
    case F4 => assumption
    case N4 => assumption
    case a4 => rfl
    case t4 => walk_at "GOFF"
    case p4 => exact ⟨⟨_, _, _, _, _, _, _, _, _, rfl, by assumption, by omega, .nil, by simp, by simp, rfl, .cond (by k_mem) (.const (by k_mem)) (.mk (by k_mem) (.sig (by k_mem) (by k_mem) (by k_mem) (by k_mem)) (.const (by k_mem))), stD.1, stD.2.1, .inl ⟨stD.2.2, rfl⟩⟩⟩
end Mine
namespace Mine
theorem cups_spec {w : World} {mg mb : Str → Option Value} {mean : ExcName → Option Value} {s : Shared} {h₀ : Heap} {dp un : Nat} {fr : Option (List Env)} {gd : Option (List Code)} {a : Addr} {vs : List Value} {ts : List Int}
    (C : At w mg mb mean h₀ s []) (hL : s.heap.IsList a vs.toArray) (hI : IntsAre vs ts) (hl : ts.length ≤ 63) (hd : dp < 450) (hu : un < 4500) :
    codeAny (model PySem.Challenge.pw_on0119_01 w) (A0 dp un fr gd) (.call (.ref 269) ⟨[.ref a], []⟩)
      (Post s [] (fun _ tl v => ∃ b ws n ks, tl = [(b, listOf ws.toArray n)] ∧ v = .ref b ∧ IntsAre ws ks ∧ ks.length ≤ 60)) s := by
  k_with_none
  k_with "BACK" => ((try dsimp only [Mine.TurnEnd, PyProof.Rows.WhileStep2]); refine' Mine.back ?B ?_; (case B => assumption); (try dsimp only))
  k_with "ENTER2" => ((case kC => assumption); (case k6 => k_is); (case kb => (conv => lhs; whnf)); (case ks => (conv => lhs; whnf)); (case k7 => k_is); (case k8 => (simp only [recursionLimit]; omega)); (case k9 => exact BindsTo.of_eq rfl); (case c5 => decide); (case kB => exact locs rfl); (case c2 => exact rfl); (case c3 => exact rfl); (case c4 => exact rfl); k_whole; intro _ _ _ _ _ _ _ _ _ _ _ _ _ _ _ _ _; (try dsimp only))
  k_with "subscriptTail" => (k_here; (with_reducible show wpAny _ _ (subscriptTail _ _ (Value.ref _) (Value.int _ _)) _ _ _); k_dflt (refine' item_tupleT (Mine.has_tup ?F ?D ?M) ?a ?b ?c ?d ?_; (case F => k_asm); (case D => assumption); (case M => assumption); (case a => decide); (case b => decide); (case c => first | rfl | exact Mine.seq_zero); (case d => rfl); k_whole))
  k_with "exec While Name cons nil" => k_extra "WHILE"
  k_with "pyIter ref" => ((with_reducible show wpAny _ _ (pyIter (Value.ref _)) (fun it s₂ => LoopAtV _ _ _ _ _ _ _ _ _ it s₂) _ _); k_extra "ITER")
  k_with "call ref" => k_extra "CALL"
  k_with "call type:reversed" => k_extra "REV"
  k_with "call builtin:list.pop" => (k_here; k_dflt (first | ((with_reducible show wpAny _ _ (call (Value.builtin _) [Value.ref _]) _ _ _); refine' Mine.popLast ?F ?N ?U ?z ?_; (case F => k_asm); (case N => k_asm); (case U => k_upd); (case z => (rw [PySem.sizeLine_eq]; first | assumption | omega | exact Nat.le_of_ble_eq_true rfl))) | (refine' Mine.pop0 ?F ?N ?U ?z ?_; (case F => k_asm); (case N => k_asm); (case U => k_upd); (case z => (rw [PySem.sizeLine_eq]; first | assumption | omega | exact Nat.le_of_ble_eq_true rfl)))); intro _ _ _; (try k_sweep))
  k_with "call builtin:list.append" => (k_here; k_extra "APP"; k_dflt (refine' Mine.app_ ?F ?N ?U ?z ?_; (case F => k_asm); (case N => k_asm); (case U => k_upd); (case z => (rw [PySem.sizeLine_eq]; first | assumption | omega | exact Nat.le_of_ble_eq_true rfl))); intro _ _ _; (try k_sweep))
  k_with "USE0" => ((case F => assumption); (case N => assumption); (case C => exact Mine.at0 (by assumption) (by assumption) (by assumption)); (case hd => ((try dsimp only [Mine.A0, Around.deeper, Around.in1]); omega)); (case hu => ((try dsimp only [Mine.A0, Around.deeper, Around.in1]); omega)))
  k_with "setItem ref int" => (k_here; k_dflt (refine' setItem_K PyProof.V.same_int (intKind_is _ _ _ _) ?v ?F ?N ?U ?d ?f ?_ ?z; (case F => k_asm); (case N => k_asm); (case U => k_updF); (case d => assumption); (case f => assumption); (case z => (rw [PySem.sizeLine_eq]; first | omega | exact Nat.le_of_ble_eq_true rfl)); (case v => exact PyProof.V.Flat.bool _)); intro _ _ _ _ _ _; (try k_sweep))
  k_with "call builtin:sorted" => (k_here; k_dflt (refine' Mine.sorted_dict ?hh ?F ?N ?M ?d ?lo ?z ?_; (case hh => exact rfl); (case F => assumption); (case N => assumption); (case M => k_mem); (case d => assumption); (case lo => assumption); (case z => first | omega | exact Nat.le_of_ble_eq_true rfl)); intro _ _ _ _ _ _ _ _ _ _ _ _)
  k_with "exec For" => (k_here; (with_reducible show wpAny _ _ (exec (Stmt.For (Expr.Name _ _) _ _ [] _) _) _ _ _); (with_reducible rename Fr _ _ _ _ => kF); (with_unfolding_all refine' For_invVF kF ?k1 ?k2 ?_; (case k1 => exact rfl); (case k2 => exact rfl); k_whole))
  k_with "call type:list" => (k_here; (with_reducible show wpAny _ _ (call (Value.type _) [Value.ref _]) _ _ _); k_dflt (refine' list_copyKT ?F ?N (Mine.has_tup ?G ?D ?M) ?_ ?z; (case F => k_asm); (case N => k_asm); (case G => k_asm); (case D => assumption); (case M => assumption); (case z => exact Nat.le_of_ble_eq_true rfl)); intro _ _ _ _ _ l1; (try (replace l1 := allLt_of l1; dsimp only [AllLt] at l1; revert l1; intro _)); (try k_sweep))
  k_with "ALLQ" => (simp only [List.forall_mem_cons, List.mem_singleton, forall_eq]; assumption)
  k_with "subscriptTail" => (k_here; (with_reducible show wpAny _ _ (subscriptTail _ _ (Value.ref _) (Value.int _ _)) _ _ _); k_dflt (refine' Mine.item_dat ?F ?D ?M ?a ?b ?x ?_; (case F => k_asm); (case D => assumption); (case M => assumption); (case a => assumption); (case b => omega); (case x => assumption); k_whole))
  k_with "getAttr ref" => (k_here; k_dflt (refine' Mine.attr_dat ?F ?X ?D ?h1 ?h2 ?k4 ?k5 ?k6 ?k7 ?k8 ?k9 ?_; (case F => k_asm); (case X => k_asm); (case D => assumption); (case h1 => assumption); (case h2 => assumption); (case k4 => k_is); (case k5 => k_is); (case k6 => k_is); (case k7 => k_is); (case k8 => assumption); (case k9 => k_handed); k_whole))
  k_with "getMethod ref" => (k_here; k_dflt (refine' Mine.meth_dat ?F ?X ?D ?h1 ?h2 ?k4 ?k5 ?k6 ?k7 ?_; (case F => k_asm); (case X => k_asm); (case D => assumption); (case h1 => assumption); (case h2 => assumption); (case k4 => k_is); (case k5 => k_is); (case k6 => k_is); (case k7 => assumption); k_whole))
  k_with "compareOp NotIn int ref" => (k_here; k_dflt (refine' Mine.notin_dict ?N ?M ?d ?lo ?_; (case N => assumption); (case M => k_mem); (case d => assumption); (case lo => assumption)))
  k_with "call builtin:list.extend" => (k_here; k_extra "EXT"; k_dflt (refine' Mine.ext_ ?F ?N ?b ?U ?z ?_; (case F => k_asm); (case N => k_asm); (case b => k_mem); (case U => (intro c; k_upd)); (case z => omega)); intro _ _ _ _; (try k_sweep))
  k_with "call type:list" => (k_here; k_extra "COPY"; (with_reducible show wpAny _ _ (call (Value.type _) [Value.ref _]) _ _ _); k_dflt (refine' Mine.copy_ ?F ?N ?M ?z ?_; (case F => k_asm); (case N => k_asm); (case M => k_mem); (case z => omega)); intro _ _ _ _ _ l1; (try (replace l1 := allLt_of l1; dsimp only [AllLt] at l1; revert l1; intro _)); (try k_sweep))
  k_with "truthy ref" => (k_here; k_extra "TRU"; (with_reducible show wpAny _ _ (truthy (Value.ref _)) _ _ _); k_dflt (refine' Mine.truthy_ ?N ?M ?z ?_; (case N => k_asm); (case M => k_mem); (case z => first | assumption | omega)); intro _)
  k_with "USE1" => ((case F => assumption); (case N => assumption); (case U => k_updF); (case C => exact Mine.at1 (by assumption) (by assumption) (by assumption) (by assumption) (by k_mem)); (case hd => ((try dsimp only [Mine.A0, Around.deeper, Around.in1]); omega)); (case hu => ((try dsimp only [Mine.A0, Around.deeper, Around.in1]); omega)))
  k_with "setItem ref int" => (k_here; (with_reducible show wpAny _ _ (setItem (Value.ref _) (Value.int _ _) _) _ _ _); k_dflt (refine' Mine.set_ ?F ?N ?a ?b ?c ?U ?_; (case F => k_asm); (case N => k_asm); (case U => k_upd); (case a => omega); (case b => omega); (case c => omega)); intro _ _ _; (try k_sweep))
  k_with "exec Assign cons ListComp" => k_extra "COMP"
  k_with "eval ListComp" => k_extra "COMPE"
  k_with "CompSrc" => k_extra "CSRC"
  k_with "binaryOp Mult ref int" => k_extra "MUL"
  k_with "TAILS" => (intro p hp; repeat (first | exact hp | refine List.Mem.tail _ ?_))
  k_with "getMethod ref" => (k_here; k_dflt (refine' Mine.meth_news ?F ?X ?N ?h1 ?h2 ?S ?k4 ?k5 ?k6 ?k7 ?_; (case F => k_asm); (case X => k_asm); (case N => k_asm); (case h1 => assumption); (case h2 => assumption); (case S => walk_at "TAILS"); (case k4 => k_is); (case k5 => k_is); (case k6 => k_is); (case k7 => assumption); k_whole))
  k_with "GOFF" => (refine Mine.off3 ?_; repeat' (first | exact List.forall_mem_nil _ | assumption | refine List.forall_mem_cons.mpr ⟨⟨by (dsimp only; omega), by (dsimp only; omega), by (dsimp only; omega)⟩, ?_⟩))
  k_with "GCUP" => (unfold Mine.Stop; rintro v' h' tk' o' tl F' N' ho ⟨e1, vs1, n1', ts1, c, u, hm1, hi1, hl4, e2, hc0, hc1⟩; cases hm1; cases e1; cases e2; (try simp only [List.nil_append] at N'); clear ho)
  k_with "eval Constant int" => (k_here; (k_dflt (refine' Mine.const_int ?_)); intro _ _)
  k_with "eval Constant str" => (k_here; (k_dflt (refine' Mine.const_str ?_)); intro _ _)
  k_with "newTuple" => (k_here; k_dflt (refine' kup_newTuple ?F ?N ?_ ?z; (case F => k_asm); (case N => k_asm); (case z => exact Nat.le_of_ble_eq_true rfl)); intro _ _ _ _ l1; (try (replace l1 := allLt_of l1; dsimp only [AllLt] at l1; revert l1; intro _)); (try k_sweep))
  k_with "newList" => (k_here; k_dflt (refine' newList_K ?k1 ?k2 ?_; (case k1 => k_asm); (case k2 => k_asm); k_whole); intro _ _ _ _ l1; (try (replace l1 := allLt_of l1; dsimp only [AllLt] at l1; revert l1; intro _)); (try k_sweep))
  refine' enter (binds := [(Str.ofString "script", .ref a)]) ?kC ?k6 ?kb ?ks ?k7 ?k8 ?k9 ?kB ?_ ?c2 ?c3 ?c4 ?c5; walk_at "ENTER2"
  rename_i g' L' h' hg' hz' hl' eL' X' T' F' N'
  have hL' : g'.IsList a vs.toArray := by
    obtain ⟨o, h1, h2, h3⟩ := hL
    exact ⟨o, hg' _ _ h1 (by simp), h2, h3⟩
  k_with "APP" => skip
  k_with "ITER" => (refine stop_at ?_)
  k_steps
  unfold Stop
  rename_i tr _ _ _ _ tk D ws h F N hI2 hC2 hL2 hlt
  have hD : @Ne Nat tr D := Nat.ne_of_lt hlt
  refine' iter_list (fun i m nx => ∃ vs n ks, nx = [(D, listOf ws.toArray 0), (tr, listOf vs.toArray n)] ∧ m (Str.ofString "tray") = some (.ref tr) ∧ IntsAre vs ks ∧ ks.length ≤ 10 * i) rfl (N _ (.head _)).1 (Ne.symm (N _ (.head _)).2.1) F N (.inr ?hk) ⟨[], _, [], rfl, rfl, .nil, Nat.zero_le _⟩ ?turn ?done
  case hk => rintro i m nx ⟨vs, n, ks, rfl, -⟩; exact .head _
  case turn =>
    clear F N
    rintro I i z m₁ nx it h tk hv ⟨vs₁, n, ks, rfl, hm, hi₁, hl₁⟩ hIq F N
    rw [loc1 hm] at F
    obtain ⟨x, t, rfl, -⟩ := IntsAre.at hI2 hv
    have hil : i < 30 := by
      have h1 := (List.getElem?_eq_some_iff.mp hv).1
      have h2 := hI2.length
      omega
    simp only [List.forall_mem_cons, List.mem_singleton, forall_eq] at hIq
    (have hs9 := hIq; (repeat (obtain ⟨_, hs9⟩ := hs9)))
    k_steps
    · unfold Stop
      rename_i hR F2 N2 _
      refine' iter_range (n := 10) (fun j m nx => ∃ vs n ks c t, nx = [(I, it), (D, listOf ws.toArray 0), (tr, listOf vs.toArray n)] ∧ m (Str.ofString "tray") = some (.ref tr) ∧ m (Str.ofString "left") = some (.int c t) ∧ IntsAre vs ks ∧ ks.length ≤ 10 * i + j) rfl hR rfl (by decide) F2 N2 ⟨_, _, _, _, _, rfl, rfl, rfl, hi₁, hl₁⟩ ?_ ?_
      · clear F2 N2 hR
        rintro I2 j z m₂ nx it2 h tk hj ⟨vs₂, n₂, ks₂, c, t, rfl, hm2, hm3, hi₂, hl₂⟩ hIq2 F N
        rw [loc2 hm2 hm3] at F
        simp only [List.forall_mem_cons, List.mem_singleton, forall_eq] at hIq2
        (have hs9 := hIq2; (repeat (obtain ⟨_, hs9⟩ := hs9)))
        have hle₂ := hi₂.length
        have hb₂ : vs₂.length ≤ 1000 := by clear hIq2; omega
        k_steps
        · dsimp only [TurnEnd]
          k_steps
          exact ⟨_, _, _, _, rfl, by assumption, News.sub (by assumption) (fun p hp => .tail _ hp), by simp; exact hIq, _, _, _, rfl, rfl, IntsAre.append hi₂ (.cons _ _ .nil), by simp; omega⟩
        · exact ⟨_, _, _, _, rfl, by assumption, by assumption, by simp; exact hIq2, _, _, _, _, _, rfl, rfl, rfl, IntsAre.append hi₂ (.cons _ _ .nil), by simp; omega⟩
      · clear F2 N2 hR
        rintro m₂ nx h tk ⟨vs₂, n₂, ks₂, c, t, rfl, hm2, hm3, hi₂, hl₂⟩ F N
        rw [loc2 hm2 hm3] at F
        dsimp only
        k_steps
        exact ⟨_, _, _, _, rfl, by assumption, by assumption, by simp; exact hIq, _, _, _, rfl, rfl, hi₂, by omega⟩
    · unfold Stop
      rename_i hR F2 N2 _
      refine' iter_range (n := 10) (fun j m nx => ∃ vs n ks c t, nx = [(I, it), (D, listOf ws.toArray 0), (tr, listOf vs.toArray n)] ∧ m (Str.ofString "tray") = some (.ref tr) ∧ m (Str.ofString "left") = some (.int c t) ∧ IntsAre vs ks ∧ ks.length ≤ 10 * i + j) rfl hR rfl (by decide) F2 N2 ⟨_, _, _, _, _, rfl, rfl, rfl, hi₁, hl₁⟩ ?_ ?_
      · clear F2 N2 hR
        rintro I2 j z m₂ nx it2 h tk hj ⟨vs₂, n₂, ks₂, c, t, rfl, hm2, hm3, hi₂, hl₂⟩ hIq2 F N
        rw [loc2 hm2 hm3] at F
        simp only [List.forall_mem_cons, List.mem_singleton, forall_eq] at hIq2
        (have hs9 := hIq2; (repeat (obtain ⟨_, hs9⟩ := hs9)))
        have hle₂ := hi₂.length
        have hb₂ : vs₂.length ≤ 1000 := by clear hIq2; omega
        k_steps
        · dsimp only [TurnEnd]
          k_steps
          exact ⟨_, _, _, _, rfl, by assumption, News.sub (by assumption) (fun p hp => .tail _ hp), by simp; exact hIq, _, _, _, rfl, rfl, IntsAre.append hi₂ (.cons _ _ .nil), by simp; omega⟩
        · exact ⟨_, _, _, _, rfl, by assumption, by assumption, by simp; exact hIq2, _, _, _, _, _, rfl, rfl, rfl, IntsAre.append hi₂ (.cons _ _ .nil), by simp; omega⟩
      · clear F2 N2 hR
        rintro m₂ nx h tk ⟨vs₂, n₂, ks₂, c, t, rfl, hm2, hm3, hi₂, hl₂⟩ F N
        rw [loc2 hm2 hm3] at F
        dsimp only
        k_steps
        exact ⟨_, _, _, _, rfl, by assumption, by assumption, by simp; exact hIq, _, _, _, rfl, rfl, hi₂, by omega⟩
  case done =>
    clear F N
    rintro m₁ nx h tk ⟨vs₁, n, ks, rfl, hm, hi₁, hl₁⟩ F N
    rw [loc1 hm] at F
    have hle := hi₁.length
    have h2 := hI2.length
    have hb : vs₁.length ≤ 1000 := by omega
    dsimp only
    k_steps
    rename_i D9 ws9 h9 F9 N9 hI9 hC9 _ _
    walk_at "BACK"
    exact leave (mods' := []) (tl := [(D9, listOf ws9.toArray 0)]) hg' F9 (News.sub N9 (fun p hp => by simp at hp; exact hp ▸ .head _)) rfl (by simp) ⟨D9, ws9, 0, _, rfl, rfl, hI9, by omega⟩
end Mine
namespace Mine
theorem isl_now {g h : Heap} {L a : Addr} {m : Str → Option Value} {xs : Array Value} (F : Fr g L h m) (hL : g.IsList a xs) : h.IsList a xs := by
  obtain ⟨o, h1, h2, h3⟩ := hL
  exact ⟨o, F.keep _ _ h1, h2, h3⟩
section
variable {prog : Program} {w : World} {A : Around} {E : Value → Shared → Prop} {s : Shared} {h₀ : Heap} {L : Addr} {m : Str → Option Value} {env : Env}
/-- a comprehension of fresh lists -/
theorem lists_rest {pos : Pos} {x : Str} {scope : Scope} {cl : List (Str × Addr)} {P : Nat → Value → Prop} {Fin : List Value → List (Addr × Obj) → Prop} :
    ∀ (k i : Nat) (ys : List Value) (news : List (Addr × Obj)),
      (∀ lks : List Addr, lks.length = k → lks.Pairwise (@LT.lt Nat _) → (∀ p ∈ news, ∀ a ∈ lks, @LT.lt Nat _ p.1 a) → Fin (ys ++ lks.map .ref) ((lks.map fun a => (a, listOf #[] 0)).reverse ++ news)) →
      LCg.CompRest prog w A h₀ L m env (.List [] pos) x scope cl s (fun _ => True) P Fin k i ys news
  | 0, i, ys, news, h => LCg.CompRest.zero (by simpa using h [] rfl .nil (by simp))
  | k + 1, i, ys, news, h => by
    refine LCg.CompRest.succ ?_
    intro v I oI C oC D m₂ hh tk E' hv hC hx F N off ne
    refine List_ ?_
    refine wpAny_pure ?_
    refine newList_K F N (fun l h' F' N' l1 => ?_)
    refine LCg.CompEnd.intro F' N' ((l, listOf #[] 0) :: news) ?_ ?_ trivial ?_
    · intro p hp
      simp only [List.mem_cons] at hp ⊢
      grind
    · exact ⟨⟨Ne.symm (Nat.ne_of_lt (l1 _ (.head _))), Ne.symm (Nat.ne_of_lt (l1 _ (.tail _ (.head _)))), Ne.symm (Nat.ne_of_lt (l1 _ (.tail _ (.tail _ (.head _)))))⟩, off⟩
    · refine lists_rest k (i + 1) _ _ fun lks hlen hasc hlt => ?_
      have := h (l :: lks) (by simp [hlen]) (List.pairwise_cons.mpr ⟨fun a ha => hlt _ (.head _) a ha, hasc⟩) (fun p hp a ha => by
        rcases List.mem_cons.mp ha with rfl | ha
        · exact l1 p (.tail _ (.tail _ (.tail _ hp)))
        · exact hlt p (.tail _ hp) a ha)
      simpa using this
end
end Mine
namespace Mine
def Own (w : World) : List (Str × Value) → List DictEntry → Prop
  | [], es => es = []
  | p :: l, es => ∃ t r, es = { hash := PyData.keyHash w.params p.1, key := .str p.1 t, val := p.2 } :: r ∧ Own w l r
theorem Own.len {w : World} : ∀ {l : List (Str × Value)} {es : List DictEntry}, Own w l es → es.length = l.length
  | [], _, h => by rw [show _ = [] from h]; rfl
  | _ :: _, _, ⟨_, _, h, o⟩ => by rw [h, List.length_cons, List.length_cons, o.len]
theorem Own.new {w : World} {name : Str} : ∀ {l : List (Str × Value)} {es : List DictEntry}, Own w l es → l.any (·.1 == name) = false → es.any (·.key.isStr name) = false ∧ es.any (·.refKey) = false ∧ ∀ hsh key v, putL name hsh key v es = es ++ [⟨hsh, key, v⟩]
  | [], _, h, _ => by cases h; exact ⟨rfl, rfl, fun _ _ _ => rfl⟩
  | _ :: _, _, ⟨_, _, h, o⟩, hn => by
    subst h
    simp only [List.any_cons, Bool.or_eq_false_iff] at hn
    obtain ⟨h1, h2, h3⟩ := o.new hn.2
    have e : ∀ t, (Value.str _ t).isStr name = false := fun t => hn.1
    refine ⟨by rw [List.any_cons, h1, e]; rfl, by rw [List.any_cons, h2]; rfl, fun _ _ _ => ?_⟩
    unfold putL
    rw [if_neg (by rw [e]; decide), h3]; rfl
theorem Own.snoc {w : World} {x : Str} {v : Value} (t : Tok) : ∀ {l : List (Str × Value)} {es : List DictEntry}, Own w l es → Own w (l ++ [(x, v)]) (es ++ [{ hash := PyData.keyHash w.params x, key := .str x t, val := v }])
  | [], _, h => by cases h; exact ⟨t, [], rfl, rfl⟩
  | _ :: _, _, ⟨t', r, h, o⟩ => ⟨t', r ++ [_], by rw [h]; rfl, o.snoc t⟩
section
variable {prog : Program} {w : World} {A : Around} {E : Value → Shared → Prop} {s : Shared} {K : Frag} {x C dx L : Addr} {h₀ : Heap} {m : Str → Option Value} {news : List (Addr × Obj)} {ox : Obj} {es : List DictEntry} {n : Nat} {name : Str} {v : Value} {l : List (Str × Value)}
theorem set_own {news' : List DictEntry → List (Addr × Obj)} {Q : Unit → Shared → Prop} (F : Fr h₀ L s.heap m) (X₀ : K.In h₀) (N : News h₀ L s.heap news) (I : InstAt s.heap x ox C (some (dictOf es n))) (O : Own w l es) (hd : ox.dict = some dx)
    (hs : findIn K (.ref C) "__setattr__" = some (some (.builtin "object.__setattr__"))) (hp : plainOver K C = true) (ht : takerIn K C name = some none) (hh : hasDictIn K C = true) (hl : l.any (·.1 == name) = false)
    (U : ∀ es', Upd dx (dictOf es n) (dictOf es' (n + 1)) news (news' es')) (hz : l.length < 1000)
    (h : ∀ h' es', Fr h₀ L h' m → News h₀ L h' (news' es') → Own w (l ++ [(name, v)]) es' → Q () { s with heap := h', toks := s.toks + 2 }) :
    wpAny (model prog w) A (setAttr (.ref x) name v) Q E s := by
  obtain ⟨h1, h2, h3⟩ := O.new hl
  refine set_dict (es' := es ++ [⟨PyData.keyHash w.params name, .str name (s.toks + 1), v⟩]) (n' := n + 1) F X₀ N I hd hs hp ht hh ?_ ?_ (U _) ?_ (fun h' F' N' => h h' _ F' N' (O.snoc _))
  · unfold getL
    have e : es.find? (·.key.isStr name) = none := List.find?_eq_none.mpr fun q hq hx => by
      have := List.any_eq_true (p := (·.key.isStr name)).mpr ⟨q, hq, hx⟩
      rw [h1] at this; cases this
    rw [e]
    dsimp only
    rw [h2]; rfl
  · rw [h3]; unfold putN; rw [h1]; rfl
  · rw [List.length_append, O.len]; exact hz
end
abbrev own1 (w : World) (p : Str × Value) (t : Tok) : DictEntry := { hash := PyData.keyHash w.params p.1, key := .str p.1 t, val := p.2 }
def Ents (w : World) : List (Str × Value) → (List DictEntry → Prop) → Prop
  | [], P => P []
  | p :: l, P => ∃ t, Ents w l (fun r => P (own1 w p t :: r))
theorem Own.ents {w : World} : ∀ {l : List (Str × Value)} {es : List DictEntry} {P : List DictEntry → Prop}, Own w l es → P es → Ents w l P
  | [], _, _, h, hp => by cases h; exact hp
  | _ :: _, _, P, ⟨t, _, h, o⟩, hp => ⟨t, o.ents (P := fun r => P (_ :: r)) (h ▸ hp)⟩
abbrev ent (w : World) (x : String) (t : Tok) (v : Value) : DictEntry := { hash := PyData.keyHash w.params (Str.ofString x), key := .str (Str.ofString x) t, val := v }
theorem off2 {x dx : Addr} {a b : Obj} {tl : List (Addr × Obj)} (h : ∀ q ∈ tl, @Ne Nat q.1 x ∧ @Ne Nat q.1 dx) : ∀ q ∈ tl, q.1 ∉ [(x, a), (dx, b)].map (·.1) := by
  intro q hq hm
  simp at hm
  rcases hm with e | e
  · exact (h q hq).1 e
  · exact (h q hq).2 e
theorem sinit_spec {w : World} {mg mb : Str → Option Value} {mean : ExcName → Option Value} {s : Shared} {h₀ : Heap} {dp un : Nat} {fr : Option (List Env)} {gd : Option (List Code)} {x dx : Addr} {a b c d e f g : Value}
    (C : At w mg mb mean h₀ s [(x, instObj 167 dx), (dx, dictOf [] 0)]) (hne : @Ne Nat x dx) (hd : dp < 460) (hu : un < 4600) :
    codeAny (model PySem.Challenge.pw_on0119_01 w) (A0 dp un fr gd) (.call (.ref 129) ⟨[.ref x, a, b, c, d, e, f, g], []⟩)
      (Post s [(x, instObj 167 dx), (dx, dictOf [] 0)] (fun mods' tl v => v = .none ∧ tl = [] ∧ ∃ t1 t2 t3 t4 t5 t6 t7 t8 t9 t10 t11 t12 u, mods' = [(x, instObj 167 dx), (dx, dictOf [ent w "key" t1 a, ent w "path" t2 b, ent w "kind" t3 c, ent w "width" t4 d, ent w "signed" t5 e, ent w "msb" t6 f, ent w "lsb" t7 g,
        ent w "first" t8 .none, ent w "last" t9 .none, ent w "init" t10 .none, ent w "at" t11 (.int (-1) u), ent w "scalar" t12 (.bool false)] 12)])) s := by
  k_with_none
  k_with "BACK" => ((try dsimp only [Mine.TurnEnd, PyProof.Rows.WhileStep2]); refine' Mine.back ?B ?_; (case B => assumption); (try dsimp only))
  k_with "ENTER2" => ((case kC => assumption); (case k6 => k_is); (case kb => (conv => lhs; whnf)); (case ks => (conv => lhs; whnf)); (case k7 => k_is); (case k8 => (simp only [recursionLimit]; omega)); (case k9 => exact BindsTo.of_eq rfl); (case c5 => decide); (case kB => exact locs rfl); (case c2 => exact rfl); (case c3 => exact rfl); (case c4 => exact rfl); k_whole; intro _ _ _ _ _ _ _ _ _ _ _ _ _ _ _ _ _; (try dsimp only))
  k_with "subscriptTail" => (k_here; (with_reducible show wpAny _ _ (subscriptTail _ _ (Value.ref _) (Value.int _ _)) _ _ _); k_dflt (refine' item_tupleT (Mine.has_tup ?F ?D ?M) ?a ?b ?c ?d ?_; (case F => k_asm); (case D => assumption); (case M => assumption); (case a => decide); (case b => decide); (case c => first | rfl | exact Mine.seq_zero); (case d => rfl); k_whole))
  k_with "exec While Name cons nil" => k_extra "WHILE"
  k_with "pyIter ref" => ((with_reducible show wpAny _ _ (pyIter (Value.ref _)) (fun it s₂ => LoopAtV _ _ _ _ _ _ _ _ _ it s₂) _ _); k_extra "ITER")
  k_with "call ref" => k_extra "CALL"
  k_with "call type:reversed" => k_extra "REV"
  k_with "call builtin:list.pop" => (k_here; k_dflt (first | ((with_reducible show wpAny _ _ (call (Value.builtin _) [Value.ref _]) _ _ _); refine' Mine.popLast ?F ?N ?U ?z ?_; (case F => k_asm); (case N => k_asm); (case U => k_upd); (case z => (rw [PySem.sizeLine_eq]; first | assumption | omega | exact Nat.le_of_ble_eq_true rfl))) | (refine' Mine.pop0 ?F ?N ?U ?z ?_; (case F => k_asm); (case N => k_asm); (case U => k_upd); (case z => (rw [PySem.sizeLine_eq]; first | assumption | omega | exact Nat.le_of_ble_eq_true rfl)))); intro _ _ _; (try k_sweep))
  k_with "call builtin:list.append" => (k_here; k_extra "APP"; k_dflt (refine' Mine.app_ ?F ?N ?U ?z ?_; (case F => k_asm); (case N => k_asm); (case U => k_upd); (case z => (rw [PySem.sizeLine_eq]; first | assumption | omega | exact Nat.le_of_ble_eq_true rfl))); intro _ _ _; (try k_sweep))
  k_with "USE0" => ((case F => assumption); (case N => assumption); (case C => exact Mine.at0 (by assumption) (by assumption) (by assumption)); (case hd => ((try dsimp only [Mine.A0, Around.deeper, Around.in1]); omega)); (case hu => ((try dsimp only [Mine.A0, Around.deeper, Around.in1]); omega)))
  k_with "setItem ref int" => (k_here; k_dflt (refine' setItem_K PyProof.V.same_int (intKind_is _ _ _ _) ?v ?F ?N ?U ?d ?f ?_ ?z; (case F => k_asm); (case N => k_asm); (case U => k_updF); (case d => assumption); (case f => assumption); (case z => (rw [PySem.sizeLine_eq]; first | omega | exact Nat.le_of_ble_eq_true rfl)); (case v => exact PyProof.V.Flat.bool _)); intro _ _ _ _ _ _; (try k_sweep))
  k_with "call builtin:sorted" => (k_here; k_dflt (refine' Mine.sorted_dict ?hh ?F ?N ?M ?d ?lo ?z ?_; (case hh => exact rfl); (case F => assumption); (case N => assumption); (case M => k_mem); (case d => assumption); (case lo => assumption); (case z => first | omega | exact Nat.le_of_ble_eq_true rfl)); intro _ _ _ _ _ _ _ _ _ _ _ _)
  k_with "exec For" => (k_here; (with_reducible show wpAny _ _ (exec (Stmt.For (Expr.Name _ _) _ _ [] _) _) _ _ _); (with_reducible rename Fr _ _ _ _ => kF); (with_unfolding_all refine' For_invVF kF ?k1 ?k2 ?_; (case k1 => exact rfl); (case k2 => exact rfl); k_whole))
  k_with "call type:list" => (k_here; (with_reducible show wpAny _ _ (call (Value.type _) [Value.ref _]) _ _ _); k_dflt (refine' list_copyKT ?F ?N (Mine.has_tup ?G ?D ?M) ?_ ?z; (case F => k_asm); (case N => k_asm); (case G => k_asm); (case D => assumption); (case M => assumption); (case z => exact Nat.le_of_ble_eq_true rfl)); intro _ _ _ _ _ l1; (try (replace l1 := allLt_of l1; dsimp only [AllLt] at l1; revert l1; intro _)); (try k_sweep))
  k_with "ALLQ" => (simp only [List.forall_mem_cons, List.mem_singleton, forall_eq]; assumption)
  k_with "subscriptTail" => (k_here; (with_reducible show wpAny _ _ (subscriptTail _ _ (Value.ref _) (Value.int _ _)) _ _ _); k_dflt (refine' Mine.item_dat ?F ?D ?M ?a ?b ?x ?_; (case F => k_asm); (case D => assumption); (case M => assumption); (case a => assumption); (case b => omega); (case x => assumption); k_whole))
  k_with "getAttr ref" => (k_here; k_dflt (refine' Mine.attr_dat ?F ?X ?D ?h1 ?h2 ?k4 ?k5 ?k6 ?k7 ?k8 ?k9 ?_; (case F => k_asm); (case X => k_asm); (case D => assumption); (case h1 => assumption); (case h2 => assumption); (case k4 => k_is); (case k5 => k_is); (case k6 => k_is); (case k7 => k_is); (case k8 => assumption); (case k9 => k_handed); k_whole))
  k_with "getMethod ref" => (k_here; k_dflt (refine' Mine.meth_dat ?F ?X ?D ?h1 ?h2 ?k4 ?k5 ?k6 ?k7 ?_; (case F => k_asm); (case X => k_asm); (case D => assumption); (case h1 => assumption); (case h2 => assumption); (case k4 => k_is); (case k5 => k_is); (case k6 => k_is); (case k7 => assumption); k_whole))
  k_with "compareOp NotIn int ref" => (k_here; k_dflt (refine' Mine.notin_dict ?N ?M ?d ?lo ?_; (case N => assumption); (case M => k_mem); (case d => assumption); (case lo => assumption)))
  k_with "call builtin:list.extend" => (k_here; k_extra "EXT"; k_dflt (refine' Mine.ext_ ?F ?N ?b ?U ?z ?_; (case F => k_asm); (case N => k_asm); (case b => k_mem); (case U => (intro c; k_upd)); (case z => omega)); intro _ _ _ _; (try k_sweep))
  k_with "call type:list" => (k_here; k_extra "COPY"; (with_reducible show wpAny _ _ (call (Value.type _) [Value.ref _]) _ _ _); k_dflt (refine' Mine.copy_ ?F ?N ?M ?z ?_; (case F => k_asm); (case N => k_asm); (case M => k_mem); (case z => omega)); intro _ _ _ _ _ l1; (try (replace l1 := allLt_of l1; dsimp only [AllLt] at l1; revert l1; intro _)); (try k_sweep))
  k_with "truthy ref" => (k_here; k_extra "TRU"; (with_reducible show wpAny _ _ (truthy (Value.ref _)) _ _ _); k_dflt (refine' Mine.truthy_ ?N ?M ?z ?_; (case N => k_asm); (case M => k_mem); (case z => first | assumption | omega)); intro _)
  k_with "USE1" => ((case F => assumption); (case N => assumption); (case U => k_updF); (case C => exact Mine.at1 (by assumption) (by assumption) (by assumption) (by assumption) (by k_mem)); (case hd => ((try dsimp only [Mine.A0, Around.deeper, Around.in1]); omega)); (case hu => ((try dsimp only [Mine.A0, Around.deeper, Around.in1]); omega)))
  k_with "setItem ref int" => (k_here; (with_reducible show wpAny _ _ (setItem (Value.ref _) (Value.int _ _) _) _ _ _); k_dflt (refine' Mine.set_ ?F ?N ?a ?b ?c ?U ?_; (case F => k_asm); (case N => k_asm); (case U => k_upd); (case a => omega); (case b => omega); (case c => omega)); intro _ _ _; (try k_sweep))
  k_with "exec Assign cons ListComp" => k_extra "COMP"
  k_with "eval ListComp" => k_extra "COMPE"
  k_with "CompSrc" => k_extra "CSRC"
  k_with "binaryOp Mult ref int" => k_extra "MUL"
  k_with "TAILS" => (intro p hp; repeat (first | exact hp | refine List.Mem.tail _ ?_))
  k_with "getMethod ref" => (k_here; k_dflt (refine' Mine.meth_news ?F ?X ?N ?h1 ?h2 ?S ?k4 ?k5 ?k6 ?k7 ?_; (case F => k_asm); (case X => k_asm); (case N => k_asm); (case h1 => assumption); (case h2 => assumption); (case S => walk_at "TAILS"); (case k4 => k_is); (case k5 => k_is); (case k6 => k_is); (case k7 => assumption); k_whole))
  k_with "GOFF" => (refine Mine.off3 ?_; repeat' (first | exact List.forall_mem_nil _ | assumption | refine List.forall_mem_cons.mpr ⟨⟨by (dsimp only; omega), by (dsimp only; omega), by (dsimp only; omega)⟩, ?_⟩))
  k_with "GCUP" => (unfold Mine.Stop; rintro v' h' tk' o' tl F' N' ho ⟨e1, vs1, n1', ts1, c, u, hm1, hi1, hl4, e2, hc0, hc1⟩; cases hm1; cases e1; cases e2; (try simp only [List.nil_append] at N'); clear ho)
  k_with "eval Constant int" => (k_here; (k_dflt (refine' Mine.const_int ?_)); intro _ _)
  k_with "eval Constant str" => (k_here; (k_dflt (refine' Mine.const_str ?_)); intro _ _)
  k_with "newTuple" => (k_here; k_dflt (refine' kup_newTuple ?F ?N ?_ ?z; (case F => k_asm); (case N => k_asm); (case z => exact Nat.le_of_ble_eq_true rfl)); intro _ _ _ _ l1; (try (replace l1 := allLt_of l1; dsimp only [AllLt] at l1; revert l1; intro _)); (try k_sweep))
  k_with "newList" => (k_here; k_dflt (refine' newList_K ?k1 ?k2 ?_; (case k1 => k_asm); (case k2 => k_asm); k_whole); intro _ _ _ _ l1; (try (replace l1 := allLt_of l1; dsimp only [AllLt] at l1; revert l1; intro _)); (try k_sweep))
  refine' enter (binds := [(Str.ofString "self", .ref x), (Str.ofString "key", a), (Str.ofString "path", b), (Str.ofString "kind", c), (Str.ofString "width", d), (Str.ofString "signed", e), (Str.ofString "msb", f), (Str.ofString "lsb", g)]) ?kC ?k6 ?kb ?ks ?k7 ?k8 ?k9 ?kB ?_ ?c2 ?c3 ?c4 ?c5; walk_at "ENTER2"
  rename_i g' L' h' hg' hz' hl' eL' X' T' F' N'
  k_with "APP" => skip
  k_with "setAttr ref" => (k_here; k_dflt (refine' Mine.set_own ?F ?X ?N ?I ?O ?d ?k6 ?k7 ?k8 ?k9 ?l ?U ?z ?_; (case F => k_asm); (case X => k_asm); (case N => k_asm); (case I => k_inst); (case O => assumption); (case d => exact rfl); (case k6 => k_is); (case k7 => k_is); (case k8 => k_is); (case k9 => k_is); (case l => first | kernel_rfl | rfl); (case U => (intro c; k_upd)); (case z => exact Nat.le_of_ble_eq_true rfl); k_whole); intro _ _ _ _ _; (try k_sweep))
  have O0 : Own w [] [] := rfl
  k_steps
  walk_at "BACK"
  refine' leave (mods' := [_, _]) (tl := []) hg' ?FF ?NN ?aa ?tt ?pp
  case FF => assumption
  case NN => assumption
  case aa => rfl
  case tt => simp
  case pp => rename_i O9; obtain ⟨t1, t2, t3, t4, t5, t6, t7, t8, t9, t10, t11, t12, e9⟩ := O9.ents (P := fun r => _ = r) rfl; exact ⟨rfl, rfl, t1, t2, t3, t4, t5, t6, t7, t8, t9, t10, t11, t12, _, congrArg (fun q => [(x, instObj 167 dx), (dx, dictOf q 12)]) e9⟩
theorem rinit_spec {w : World} {mg mb : Str → Option Value} {mean : ExcName → Option Value} {s : Shared} {h₀ : Heap} {dp un : Nat} {fr : Option (List Env)} {gd : Option (List Code)} {x dx : Addr} {a b c d e : Value}
    (C : At w mg mb mean h₀ s [(x, instObj 195 dx), (dx, dictOf [] 0)]) (hne : @Ne Nat x dx) (hd : dp < 460) (hu : un < 4600) :
    codeAny (model PySem.Challenge.pw_on0119_01 w) (A0 dp un fr gd) (.call (.ref 185) ⟨[.ref x, a, b, c, d, e], []⟩)
      (Post s [(x, instObj 195 dx), (dx, dictOf [] 0)] (fun mods' tl v => v = .none ∧ ∃ p q, tl = [(q, listOf #[] 0), (p, listOf #[] 0)] ∧ ∃ t1 t2 t3 t4 t5 t6 t7 t8 t9 t10 t11 t12 t13 t14 u1 u2, mods' = [(x, instObj 195 dx), (dx, dictOf [ent w "number" t1 a, ent w "path" t2 b, ent w "is_function" t3 c, ent w "automatic" t4 d, ent w "at" t5 e, ent w "width" t6 (.int 1 u1), ent w "signed" t7 (.bool false),
        ent w "ports" t8 (.ref p), ent w "slots" t9 (.ref q), ent w "body" t10 .none, ent w "source" t11 .none, ent w "scope" t12 .none, ent w "disable_scope" t13 (.int (-1) u2), ent w "made" t14 (.bool false)] 14)])) s := by
  k_with_none
  k_with "BACK" => ((try dsimp only [Mine.TurnEnd, PyProof.Rows.WhileStep2]); refine' Mine.back ?B ?_; (case B => assumption); (try dsimp only))
  k_with "ENTER2" => ((case kC => assumption); (case k6 => k_is); (case kb => (conv => lhs; whnf)); (case ks => (conv => lhs; whnf)); (case k7 => k_is); (case k8 => (simp only [recursionLimit]; omega)); (case k9 => exact BindsTo.of_eq rfl); (case c5 => decide); (case kB => exact locs rfl); (case c2 => exact rfl); (case c3 => exact rfl); (case c4 => exact rfl); k_whole; intro _ _ _ _ _ _ _ _ _ _ _ _ _ _ _ _ _; (try dsimp only))
  k_with "subscriptTail" => (k_here; (with_reducible show wpAny _ _ (subscriptTail _ _ (Value.ref _) (Value.int _ _)) _ _ _); k_dflt (refine' item_tupleT (Mine.has_tup ?F ?D ?M) ?a ?b ?c ?d ?_; (case F => k_asm); (case D => assumption); (case M => assumption); (case a => decide); (case b => decide); (case c => first | rfl | exact Mine.seq_zero); (case d => rfl); k_whole))
  k_with "exec While Name cons nil" => k_extra "WHILE"
  k_with "pyIter ref" => ((with_reducible show wpAny _ _ (pyIter (Value.ref _)) (fun it s₂ => LoopAtV _ _ _ _ _ _ _ _ _ it s₂) _ _); k_extra "ITER")
  k_with "call ref" => k_extra "CALL"
  k_with "call type:reversed" => k_extra "REV"
  k_with "call builtin:list.pop" => (k_here; k_dflt (first | ((with_reducible show wpAny _ _ (call (Value.builtin _) [Value.ref _]) _ _ _); refine' Mine.popLast ?F ?N ?U ?z ?_; (case F => k_asm); (case N => k_asm); (case U => k_upd); (case z => (rw [PySem.sizeLine_eq]; first | assumption | omega | exact Nat.le_of_ble_eq_true rfl))) | (refine' Mine.pop0 ?F ?N ?U ?z ?_; (case F => k_asm); (case N => k_asm); (case U => k_upd); (case z => (rw [PySem.sizeLine_eq]; first | assumption | omega | exact Nat.le_of_ble_eq_true rfl)))); intro _ _ _; (try k_sweep))
  k_with "call builtin:list.append" => (k_here; k_extra "APP"; k_dflt (refine' Mine.app_ ?F ?N ?U ?z ?_; (case F => k_asm); (case N => k_asm); (case U => k_upd); (case z => (rw [PySem.sizeLine_eq]; first | assumption | omega | exact Nat.le_of_ble_eq_true rfl))); intro _ _ _; (try k_sweep))
  k_with "USE0" => ((case F => assumption); (case N => assumption); (case C => exact Mine.at0 (by assumption) (by assumption) (by assumption)); (case hd => ((try dsimp only [Mine.A0, Around.deeper, Around.in1]); omega)); (case hu => ((try dsimp only [Mine.A0, Around.deeper, Around.in1]); omega)))
  k_with "setItem ref int" => (k_here; k_dflt (refine' setItem_K PyProof.V.same_int (intKind_is _ _ _ _) ?v ?F ?N ?U ?d ?f ?_ ?z; (case F => k_asm); (case N => k_asm); (case U => k_updF); (case d => assumption); (case f => assumption); (case z => (rw [PySem.sizeLine_eq]; first | omega | exact Nat.le_of_ble_eq_true rfl)); (case v => exact PyProof.V.Flat.bool _)); intro _ _ _ _ _ _; (try k_sweep))
  k_with "call builtin:sorted" => (k_here; k_dflt (refine' Mine.sorted_dict ?hh ?F ?N ?M ?d ?lo ?z ?_; (case hh => exact rfl); (case F => assumption); (case N => assumption); (case M => k_mem); (case d => assumption); (case lo => assumption); (case z => first | omega | exact Nat.le_of_ble_eq_true rfl)); intro _ _ _ _ _ _ _ _ _ _ _ _)
  k_with "exec For" => (k_here; (with_reducible show wpAny _ _ (exec (Stmt.For (Expr.Name _ _) _ _ [] _) _) _ _ _); (with_reducible rename Fr _ _ _ _ => kF); (with_unfolding_all refine' For_invVF kF ?k1 ?k2 ?_; (case k1 => exact rfl); (case k2 => exact rfl); k_whole))
  k_with "call type:list" => (k_here; (with_reducible show wpAny _ _ (call (Value.type _) [Value.ref _]) _ _ _); k_dflt (refine' list_copyKT ?F ?N (Mine.has_tup ?G ?D ?M) ?_ ?z; (case F => k_asm); (case N => k_asm); (case G => k_asm); (case D => assumption); (case M => assumption); (case z => exact Nat.le_of_ble_eq_true rfl)); intro _ _ _ _ _ l1; (try (replace l1 := allLt_of l1; dsimp only [AllLt] at l1; revert l1; intro _)); (try k_sweep))
  k_with "ALLQ" => (simp only [List.forall_mem_cons, List.mem_singleton, forall_eq]; assumption)
  k_with "subscriptTail" => (k_here; (with_reducible show wpAny _ _ (subscriptTail _ _ (Value.ref _) (Value.int _ _)) _ _ _); k_dflt (refine' Mine.item_dat ?F ?D ?M ?a ?b ?x ?_; (case F => k_asm); (case D => assumption); (case M => assumption); (case a => assumption); (case b => omega); (case x => assumption); k_whole))
  k_with "getAttr ref" => (k_here; k_dflt (refine' Mine.attr_dat ?F ?X ?D ?h1 ?h2 ?k4 ?k5 ?k6 ?k7 ?k8 ?k9 ?_; (case F => k_asm); (case X => k_asm); (case D => assumption); (case h1 => assumption); (case h2 => assumption); (case k4 => k_is); (case k5 => k_is); (case k6 => k_is); (case k7 => k_is); (case k8 => assumption); (case k9 => k_handed); k_whole))
  k_with "getMethod ref" => (k_here; k_dflt (refine' Mine.meth_dat ?F ?X ?D ?h1 ?h2 ?k4 ?k5 ?k6 ?k7 ?_; (case F => k_asm); (case X => k_asm); (case D => assumption); (case h1 => assumption); (case h2 => assumption); (case k4 => k_is); (case k5 => k_is); (case k6 => k_is); (case k7 => assumption); k_whole))
  k_with "compareOp NotIn int ref" => (k_here; k_dflt (refine' Mine.notin_dict ?N ?M ?d ?lo ?_; (case N => assumption); (case M => k_mem); (case d => assumption); (case lo => assumption)))
  k_with "call builtin:list.extend" => (k_here; k_extra "EXT"; k_dflt (refine' Mine.ext_ ?F ?N ?b ?U ?z ?_; (case F => k_asm); (case N => k_asm); (case b => k_mem); (case U => (intro c; k_upd)); (case z => omega)); intro _ _ _ _; (try k_sweep))
  k_with "call type:list" => (k_here; k_extra "COPY"; (with_reducible show wpAny _ _ (call (Value.type _) [Value.ref _]) _ _ _); k_dflt (refine' Mine.copy_ ?F ?N ?M ?z ?_; (case F => k_asm); (case N => k_asm); (case M => k_mem); (case z => omega)); intro _ _ _ _ _ l1; (try (replace l1 := allLt_of l1; dsimp only [AllLt] at l1; revert l1; intro _)); (try k_sweep))
  k_with "truthy ref" => (k_here; k_extra "TRU"; (with_reducible show wpAny _ _ (truthy (Value.ref _)) _ _ _); k_dflt (refine' Mine.truthy_ ?N ?M ?z ?_; (case N => k_asm); (case M => k_mem); (case z => first | assumption | omega)); intro _)
  k_with "USE1" => ((case F => assumption); (case N => assumption); (case U => k_updF); (case C => exact Mine.at1 (by assumption) (by assumption) (by assumption) (by assumption) (by k_mem)); (case hd => ((try dsimp only [Mine.A0, Around.deeper, Around.in1]); omega)); (case hu => ((try dsimp only [Mine.A0, Around.deeper, Around.in1]); omega)))
  k_with "setItem ref int" => (k_here; (with_reducible show wpAny _ _ (setItem (Value.ref _) (Value.int _ _) _) _ _ _); k_dflt (refine' Mine.set_ ?F ?N ?a ?b ?c ?U ?_; (case F => k_asm); (case N => k_asm); (case U => k_upd); (case a => omega); (case b => omega); (case c => omega)); intro _ _ _; (try k_sweep))
  k_with "exec Assign cons ListComp" => k_extra "COMP"
  k_with "eval ListComp" => k_extra "COMPE"
  k_with "CompSrc" => k_extra "CSRC"
  k_with "binaryOp Mult ref int" => k_extra "MUL"
  k_with "TAILS" => (intro p hp; repeat (first | exact hp | refine List.Mem.tail _ ?_))
  k_with "getMethod ref" => (k_here; k_dflt (refine' Mine.meth_news ?F ?X ?N ?h1 ?h2 ?S ?k4 ?k5 ?k6 ?k7 ?_; (case F => k_asm); (case X => k_asm); (case N => k_asm); (case h1 => assumption); (case h2 => assumption); (case S => walk_at "TAILS"); (case k4 => k_is); (case k5 => k_is); (case k6 => k_is); (case k7 => assumption); k_whole))
  k_with "GOFF" => (refine Mine.off3 ?_; repeat' (first | exact List.forall_mem_nil _ | assumption | refine List.forall_mem_cons.mpr ⟨⟨by (dsimp only; omega), by (dsimp only; omega), by (dsimp only; omega)⟩, ?_⟩))
  k_with "GCUP" => (unfold Mine.Stop; rintro v' h' tk' o' tl F' N' ho ⟨e1, vs1, n1', ts1, c, u, hm1, hi1, hl4, e2, hc0, hc1⟩; cases hm1; cases e1; cases e2; (try simp only [List.nil_append] at N'); clear ho)
  k_with "eval Constant int" => (k_here; (k_dflt (refine' Mine.const_int ?_)); intro _ _)
  k_with "eval Constant str" => (k_here; (k_dflt (refine' Mine.const_str ?_)); intro _ _)
  k_with "newTuple" => (k_here; k_dflt (refine' kup_newTuple ?F ?N ?_ ?z; (case F => k_asm); (case N => k_asm); (case z => exact Nat.le_of_ble_eq_true rfl)); intro _ _ _ _ l1; (try (replace l1 := allLt_of l1; dsimp only [AllLt] at l1; revert l1; intro _)); (try k_sweep))
  k_with "newList" => (k_here; k_dflt (refine' newList_K ?k1 ?k2 ?_; (case k1 => k_asm); (case k2 => k_asm); k_whole); intro _ _ _ _ l1; (try (replace l1 := allLt_of l1; dsimp only [AllLt] at l1; revert l1; intro _)); (try k_sweep))
  refine' enter (binds := [(Str.ofString "self", .ref x), (Str.ofString "number", a), (Str.ofString "path", b), (Str.ofString "is_function", c), (Str.ofString "automatic", d), (Str.ofString "at", e)]) ?kC ?k6 ?kb ?ks ?k7 ?k8 ?k9 ?kB ?_ ?c2 ?c3 ?c4 ?c5; walk_at "ENTER2"
  rename_i g' L' h' hg' hz' hl' eL' X' T' F' N'
  k_with "APP" => skip
  k_with "setAttr ref" => (k_here; k_dflt (refine' Mine.set_own ?F ?X ?N ?I ?O ?d ?k6 ?k7 ?k8 ?k9 ?l ?U ?z ?_; (case F => k_asm); (case X => k_asm); (case N => k_asm); (case I => k_inst); (case O => assumption); (case d => exact rfl); (case k6 => k_is); (case k7 => k_is); (case k8 => k_is); (case k9 => k_is); (case l => first | kernel_rfl | rfl); (case U => (intro c; k_upd)); (case z => exact Nat.le_of_ble_eq_true rfl); k_whole); intro _ _ _ _ _; (try k_sweep))
  have O0 : Own w [] [] := rfl
  k_steps
  walk_at "BACK"
  refine' leave (mods' := [_, _]) (tl := [_, _]) hg' ?FF ?NN ?aa ?tt ?pp
  case FF => assumption
  case NN => assumption
  case aa => rfl
  case tt => exact off2 (by repeat' (first | exact List.forall_mem_nil _ | refine List.forall_mem_cons.mpr ⟨⟨by (dsimp only; omega), by (dsimp only; omega)⟩, ?_⟩))
  case pp => rename_i O9; obtain ⟨t1, t2, t3, t4, t5, t6, t7, t8, t9, t10, t11, t12, t13, t14, e9⟩ := O9.ents (P := fun r => _ = r) rfl; exact ⟨rfl, _, _, rfl, t1, t2, t3, t4, t5, t6, t7, t8, t9, t10, t11, t12, t13, t14, _, _, congrArg (fun q => [(x, instObj 195 dx), (dx, dictOf q 14)]) e9⟩
structure DesNew (w : World) (x dx : Addr) (tl mods' : List (Addr × Obj)) : Prop where
  out : ∃ a1 a2 a3 a4 a5 a6 a7 a8 a9 a10 : Addr, ∃ o t1 t2 t3 t4 t5 t6 t7 t8 t9 t10 t11, tl = [(a10, o), (a9, listOf #[] 0), (a8, listOf #[] 0), (a7, listOf #[] 0), (a6, listOf #[] 0), (a5, listOf #[] 0), (a4, listOf #[] 0), (a3, listOf #[] 0), (a2, listOf #[] 0), (a1, listOf #[] 0)] ∧
    mods' = [(x, instObj 258 dx), (dx, dictOf [ent w "signals" t1 (.ref a1), ent w "assigns" t2 (.ref a2), ent w "gates" t3 (.ref a3), ent w "udps" t4 (.ref a4), ent w "processes" t5 (.ref a5), ent w "routines" t6 (.ref a6), ent w "scopes" t7 (.ref a7), ent w "tops" t8 (.ref a8), ent w "ports" t9 (.ref a9), ent w "maker" t10 .none, ent w "by_path" t11 (.ref a10)] 11)] ∧
    @LT.lt Nat _ a1 a6 ∧ @LT.lt Nat _ a6 a10 ∧ (a10 == sysModules) = false ∧ Obj.IsDictOf (PySem.strKind PySem.Challenge.pw_on0119_01 w) o []
theorem dinit_spec {w : World} {mg mb : Str → Option Value} {mean : ExcName → Option Value} {s : Shared} {h₀ : Heap} {dp un : Nat} {fr : Option (List Env)} {gd : Option (List Code)} {x dx : Addr}
    (C : At w mg mb mean h₀ s [(x, instObj 258 dx), (dx, dictOf [] 0)]) (hne : @Ne Nat x dx) (hd : dp < 460) (hu : un < 4600) :
    codeAny (model PySem.Challenge.pw_on0119_01 w) (A0 dp un fr gd) (.call (.ref 213) ⟨[.ref x], []⟩)
      (Post s [(x, instObj 258 dx), (dx, dictOf [] 0)] (fun mods' tl v => v = .none ∧ DesNew w x dx tl mods')) s := by
  k_with_none
  k_with "BACK" => ((try dsimp only [Mine.TurnEnd, PyProof.Rows.WhileStep2]); refine' Mine.back ?B ?_; (case B => assumption); (try dsimp only))
  k_with "ENTER2" => ((case kC => assumption); (case k6 => k_is); (case kb => (conv => lhs; whnf)); (case ks => (conv => lhs; whnf)); (case k7 => k_is); (case k8 => (simp only [recursionLimit]; omega)); (case k9 => exact BindsTo.of_eq rfl); (case c5 => decide); (case kB => exact locs rfl); (case c2 => exact rfl); (case c3 => exact rfl); (case c4 => exact rfl); k_whole; intro _ _ _ _ _ _ _ _ _ _ _ _ _ _ _ _ _; (try dsimp only))
  k_with "subscriptTail" => (k_here; (with_reducible show wpAny _ _ (subscriptTail _ _ (Value.ref _) (Value.int _ _)) _ _ _); k_dflt (refine' item_tupleT (Mine.has_tup ?F ?D ?M) ?a ?b ?c ?d ?_; (case F => k_asm); (case D => assumption); (case M => assumption); (case a => decide); (case b => decide); (case c => first | rfl | exact Mine.seq_zero); (case d => rfl); k_whole))
  k_with "exec While Name cons nil" => k_extra "WHILE"
  k_with "pyIter ref" => ((with_reducible show wpAny _ _ (pyIter (Value.ref _)) (fun it s₂ => LoopAtV _ _ _ _ _ _ _ _ _ it s₂) _ _); k_extra "ITER")
  k_with "call ref" => k_extra "CALL"
  k_with "call type:reversed" => k_extra "REV"
  k_with "call builtin:list.pop" => (k_here; k_dflt (first | ((with_reducible show wpAny _ _ (call (Value.builtin _) [Value.ref _]) _ _ _); refine' Mine.popLast ?F ?N ?U ?z ?_; (case F => k_asm); (case N => k_asm); (case U => k_upd); (case z => (rw [PySem.sizeLine_eq]; first | assumption | omega | exact Nat.le_of_ble_eq_true rfl))) | (refine' Mine.pop0 ?F ?N ?U ?z ?_; (case F => k_asm); (case N => k_asm); (case U => k_upd); (case z => (rw [PySem.sizeLine_eq]; first | assumption | omega | exact Nat.le_of_ble_eq_true rfl)))); intro _ _ _; (try k_sweep))
  k_with "call builtin:list.append" => (k_here; k_extra "APP"; k_dflt (refine' Mine.app_ ?F ?N ?U ?z ?_; (case F => k_asm); (case N => k_asm); (case U => k_upd); (case z => (rw [PySem.sizeLine_eq]; first | assumption | omega | exact Nat.le_of_ble_eq_true rfl))); intro _ _ _; (try k_sweep))
  k_with "USE0" => ((case F => assumption); (case N => assumption); (case C => exact Mine.at0 (by assumption) (by assumption) (by assumption)); (case hd => ((try dsimp only [Mine.A0, Around.deeper, Around.in1]); omega)); (case hu => ((try dsimp only [Mine.A0, Around.deeper, Around.in1]); omega)))
  k_with "setItem ref int" => (k_here; k_dflt (refine' setItem_K PyProof.V.same_int (intKind_is _ _ _ _) ?v ?F ?N ?U ?d ?f ?_ ?z; (case F => k_asm); (case N => k_asm); (case U => k_updF); (case d => assumption); (case f => assumption); (case z => (rw [PySem.sizeLine_eq]; first | omega | exact Nat.le_of_ble_eq_true rfl)); (case v => exact PyProof.V.Flat.bool _)); intro _ _ _ _ _ _; (try k_sweep))
  k_with "call builtin:sorted" => (k_here; k_dflt (refine' Mine.sorted_dict ?hh ?F ?N ?M ?d ?lo ?z ?_; (case hh => exact rfl); (case F => assumption); (case N => assumption); (case M => k_mem); (case d => assumption); (case lo => assumption); (case z => first | omega | exact Nat.le_of_ble_eq_true rfl)); intro _ _ _ _ _ _ _ _ _ _ _ _)
  k_with "exec For" => (k_here; (with_reducible show wpAny _ _ (exec (Stmt.For (Expr.Name _ _) _ _ [] _) _) _ _ _); (with_reducible rename Fr _ _ _ _ => kF); (with_unfolding_all refine' For_invVF kF ?k1 ?k2 ?_; (case k1 => exact rfl); (case k2 => exact rfl); k_whole))
  k_with "call type:list" => (k_here; (with_reducible show wpAny _ _ (call (Value.type _) [Value.ref _]) _ _ _); k_dflt (refine' list_copyKT ?F ?N (Mine.has_tup ?G ?D ?M) ?_ ?z; (case F => k_asm); (case N => k_asm); (case G => k_asm); (case D => assumption); (case M => assumption); (case z => exact Nat.le_of_ble_eq_true rfl)); intro _ _ _ _ _ l1; (try (replace l1 := allLt_of l1; dsimp only [AllLt] at l1; revert l1; intro _)); (try k_sweep))
  k_with "ALLQ" => (simp only [List.forall_mem_cons, List.mem_singleton, forall_eq]; assumption)
  k_with "subscriptTail" => (k_here; (with_reducible show wpAny _ _ (subscriptTail _ _ (Value.ref _) (Value.int _ _)) _ _ _); k_dflt (refine' Mine.item_dat ?F ?D ?M ?a ?b ?x ?_; (case F => k_asm); (case D => assumption); (case M => assumption); (case a => assumption); (case b => omega); (case x => assumption); k_whole))
  k_with "getAttr ref" => (k_here; k_dflt (refine' Mine.attr_dat ?F ?X ?D ?h1 ?h2 ?k4 ?k5 ?k6 ?k7 ?k8 ?k9 ?_; (case F => k_asm); (case X => k_asm); (case D => assumption); (case h1 => assumption); (case h2 => assumption); (case k4 => k_is); (case k5 => k_is); (case k6 => k_is); (case k7 => k_is); (case k8 => assumption); (case k9 => k_handed); k_whole))
  k_with "getMethod ref" => (k_here; k_dflt (refine' Mine.meth_dat ?F ?X ?D ?h1 ?h2 ?k4 ?k5 ?k6 ?k7 ?_; (case F => k_asm); (case X => k_asm); (case D => assumption); (case h1 => assumption); (case h2 => assumption); (case k4 => k_is); (case k5 => k_is); (case k6 => k_is); (case k7 => assumption); k_whole))
  k_with "compareOp NotIn int ref" => (k_here; k_dflt (refine' Mine.notin_dict ?N ?M ?d ?lo ?_; (case N => assumption); (case M => k_mem); (case d => assumption); (case lo => assumption)))
  k_with "call builtin:list.extend" => (k_here; k_extra "EXT"; k_dflt (refine' Mine.ext_ ?F ?N ?b ?U ?z ?_; (case F => k_asm); (case N => k_asm); (case b => k_mem); (case U => (intro c; k_upd)); (case z => omega)); intro _ _ _ _; (try k_sweep))
  k_with "call type:list" => (k_here; k_extra "COPY"; (with_reducible show wpAny _ _ (call (Value.type _) [Value.ref _]) _ _ _); k_dflt (refine' Mine.copy_ ?F ?N ?M ?z ?_; (case F => k_asm); (case N => k_asm); (case M => k_mem); (case z => omega)); intro _ _ _ _ _ l1; (try (replace l1 := allLt_of l1; dsimp only [AllLt] at l1; revert l1; intro _)); (try k_sweep))
  k_with "truthy ref" => (k_here; k_extra "TRU"; (with_reducible show wpAny _ _ (truthy (Value.ref _)) _ _ _); k_dflt (refine' Mine.truthy_ ?N ?M ?z ?_; (case N => k_asm); (case M => k_mem); (case z => first | assumption | omega)); intro _)
  k_with "USE1" => ((case F => assumption); (case N => assumption); (case U => k_updF); (case C => exact Mine.at1 (by assumption) (by assumption) (by assumption) (by assumption) (by k_mem)); (case hd => ((try dsimp only [Mine.A0, Around.deeper, Around.in1]); omega)); (case hu => ((try dsimp only [Mine.A0, Around.deeper, Around.in1]); omega)))
  k_with "setItem ref int" => (k_here; (with_reducible show wpAny _ _ (setItem (Value.ref _) (Value.int _ _) _) _ _ _); k_dflt (refine' Mine.set_ ?F ?N ?a ?b ?c ?U ?_; (case F => k_asm); (case N => k_asm); (case U => k_upd); (case a => omega); (case b => omega); (case c => omega)); intro _ _ _; (try k_sweep))
  k_with "exec Assign cons ListComp" => k_extra "COMP"
  k_with "eval ListComp" => k_extra "COMPE"
  k_with "CompSrc" => k_extra "CSRC"
  k_with "binaryOp Mult ref int" => k_extra "MUL"
  k_with "TAILS" => (intro p hp; repeat (first | exact hp | refine List.Mem.tail _ ?_))
  k_with "getMethod ref" => (k_here; k_dflt (refine' Mine.meth_news ?F ?X ?N ?h1 ?h2 ?S ?k4 ?k5 ?k6 ?k7 ?_; (case F => k_asm); (case X => k_asm); (case N => k_asm); (case h1 => assumption); (case h2 => assumption); (case S => walk_at "TAILS"); (case k4 => k_is); (case k5 => k_is); (case k6 => k_is); (case k7 => assumption); k_whole))
  k_with "GOFF" => (refine Mine.off3 ?_; repeat' (first | exact List.forall_mem_nil _ | assumption | refine List.forall_mem_cons.mpr ⟨⟨by (dsimp only; omega), by (dsimp only; omega), by (dsimp only; omega)⟩, ?_⟩))
  k_with "GCUP" => (unfold Mine.Stop; rintro v' h' tk' o' tl F' N' ho ⟨e1, vs1, n1', ts1, c, u, hm1, hi1, hl4, e2, hc0, hc1⟩; cases hm1; cases e1; cases e2; (try simp only [List.nil_append] at N'); clear ho)
  k_with "eval Constant int" => (k_here; (k_dflt (refine' Mine.const_int ?_)); intro _ _)
  k_with "eval Constant str" => (k_here; (k_dflt (refine' Mine.const_str ?_)); intro _ _)
  k_with "newTuple" => (k_here; k_dflt (refine' kup_newTuple ?F ?N ?_ ?z; (case F => k_asm); (case N => k_asm); (case z => exact Nat.le_of_ble_eq_true rfl)); intro _ _ _ _ l1; (try (replace l1 := allLt_of l1; dsimp only [AllLt] at l1; revert l1; intro _)); (try k_sweep))
  k_with "newList" => (k_here; k_dflt (refine' newList_K ?k1 ?k2 ?_; (case k1 => k_asm); (case k2 => k_asm); k_whole); intro _ _ _ _ l1; (try (replace l1 := allLt_of l1; dsimp only [AllLt] at l1; revert l1; intro _)); (try k_sweep))
  refine' enter (binds := [(Str.ofString "self", .ref x)]) ?kC ?k6 ?kb ?ks ?k7 ?k8 ?k9 ?kB ?_ ?c2 ?c3 ?c4 ?c5; walk_at "ENTER2"
  rename_i g' L' h' hg' hz' hl' eL' X' T' F' N'
  k_with "APP" => skip
  k_with "setAttr ref" => (k_here; k_dflt (refine' Mine.set_own ?F ?X ?N ?I ?O ?d ?k6 ?k7 ?k8 ?k9 ?l ?U ?z ?_; (case F => k_asm); (case X => k_asm); (case N => k_asm); (case I => k_inst); (case O => assumption); (case d => exact rfl); (case k6 => k_is); (case k7 => k_is); (case k8 => k_is); (case k9 => k_is); (case l => first | kernel_rfl | rfl); (case U => (intro c; k_upd)); (case z => exact Nat.le_of_ble_eq_true rfl); k_whole); intro _ _ _ _ _; (try k_sweep))
  have O0 : Own w [] [] := rfl
  k_steps
  walk_at "BACK"
  refine' leave (mods' := [_, _]) (tl := [_, _, _, _, _, _, _, _, _, _]) hg' ?FF ?NN ?aa ?tt ?pp
  case FF => assumption
  case NN => assumption
  case aa => rfl
  case tt => exact off2 (by repeat' (first | exact List.forall_mem_nil _ | refine List.forall_mem_cons.mpr ⟨⟨by (dsimp only; omega), by (dsimp only; omega)⟩, ?_⟩))
  case pp => rename_i O9; obtain ⟨t1, t2, t3, t4, t5, t6, t7, t8, t9, t10, t11, e9⟩ := O9.ents (P := fun r => _ = r) rfl; exact ⟨rfl, ⟨_, _, _, _, _, _, _, _, _, _, _, t1, t2, t3, t4, t5, t6, t7, t8, t9, t10, t11, rfl, congrArg (fun q => [(x, instObj 258 dx), (dx, dictOf q 11)]) e9, by omega, by omega, by assumption, by assumption⟩⟩
end Mine
namespace Mine
section
variable {w : World} {mg mb : Str → Option Value} {mean : ExcName → Option Value} {s : Shared} {h₀ : Heap} {mods news : List (Addr × Obj)}
theorem useC {A : Around} {L : Addr} {m : Str → Option Value} {rest : List (Addr × Obj)} {f : Addr} {args : List Value} {post : List (Addr × Obj) → List (Addr × Obj) → Value → Prop} {R : Result → Shared → Prop}
    (F : Fr h₀ L s.heap m) (N : News h₀ L s.heap (mods ++ rest)) (hr : ∀ q ∈ rest, q.1 ∉ mods.map (·.1))
    (c : codeAny (model PySem.Challenge.pw_on0119_01 w) A (.call (.ref f) ⟨args, []⟩) (Post s mods post) s)
    (h : ∀ v h' tk' mods' tl, Fr h₀ L h' m → News h₀ L h' (tl ++ (mods' ++ rest)) → mods'.map (·.1) = mods.map (·.1) → (∀ q ∈ mods ++ rest, ∀ p ∈ tl, @Ne Nat q.1 p.1) → post mods' tl v → R (.ok (.ret v)) { s with heap := h', toks := tk' }) :
    codeAny (model PySem.Challenge.pw_on0119_01 w) A (.call (.ref f) ⟨args, []⟩) R s := by
  have cm : ∀ {c' : Code} {R R' : Result → Shared → Prop}, codeAny (model PySem.Challenge.pw_on0119_01 w) A c' R s → (∀ r s', R r s' → R' r s') → codeAny (model PySem.Challenge.pw_on0119_01 w) A c' R' s := fun x k Γ p hc hΓ => wpCode_mono k (x Γ p hc hΓ)
  refine cm c ?_
  rintro r s' ⟨v, h', tk', mods', tl, rfl, rfl, hk, ha, hm, ht, hp⟩
  have hL : L ∉ mods.map (·.1) := fun q => by
    obtain ⟨p, hp, e⟩ := List.mem_map.mp q
    exact (N p (List.mem_append.mpr (.inl hp))).2.1 e
  have h0 : ∀ b o, h₀.get? b = some o → b ∉ mods.map (·.1) := fun b o e q => by
    obtain ⟨p, hp, rfl⟩ := List.mem_map.mp q
    rw [(N p (List.mem_append.mpr (.inl hp))).2.2] at e; cases e
  have F' : Fr h₀ L h' m := ⟨F.ns.at' fun o e => hk L o e hL, fun b o e => hk b o (F.keep b o e) (h0 b o e), F.above⟩
  refine h v h' tk' mods' tl F' ?_ ha (fun q hq p hp e => ?_) hp
  · have new : ∀ a, s.heap.get? a = none → h₀.get? a = none := fun a ha => by
      cases e : h₀.get? a with
      | none => rfl
      | some o => rw [F.keep a o e] at ha; cases ha
    intro q hq
    rcases List.mem_append.mp hq with hq | hq
    · refine ⟨(ht q hq).1, fun e => ?_, new _ (ht q hq).2⟩
      obtain ⟨oL, _, _, hL', _⟩ := F.ns
      have y := (ht q hq).2
      rw [e, hL'] at y; cases y
    · rcases List.mem_append.mp hq with hq | hq
      · have : q.1 ∈ mods.map (·.1) := ha ▸ List.mem_map_of_mem hq
        obtain ⟨p, hp, e⟩ := List.mem_map.mp this
        have y := N p (List.mem_append.mpr (.inl hp))
        exact ⟨hm q hq, e ▸ y.2.1, e ▸ y.2.2⟩
      · have y := N q (List.mem_append.mpr (.inr hq))
        exact ⟨hk _ _ y.1 (hr q hq), y.2⟩
  · have y := (ht p hp).2
    rw [← e, (N q hq).1] at y; cases y
/-- a call that turns some objects of an opaque ledger -/
theorem useF {A : Around} {L : Addr} {m : Str → Option Value} {f : Addr} {args : List Value} {post : List (Addr × Obj) → List (Addr × Obj) → Value → Prop} {Q : Value → Shared → Prop} {E : Value → Shared → Prop}
    (F : Fr h₀ L s.heap m) (N : News h₀ L s.heap news) (hm : ∀ p ∈ mods, p ∈ news)
    (c : codeAny (model PySem.Challenge.pw_on0119_01 w) A (.call (.ref f) ⟨args, []⟩) (Post s mods post) s)
    (h : ∀ v h' tk' mods' tl, Fr h₀ L h' m → News h₀ L h' (tl ++ (mods' ++ news.filter fun q => decide (q.1 ∉ mods.map (·.1)))) → mods'.map (·.1) = mods.map (·.1) → (∀ q ∈ news, ∀ p ∈ tl, @Ne Nat q.1 p.1) → post mods' tl v → Q v { s with heap := h', toks := tk' }) :
    wpAny (model PySem.Challenge.pw_on0119_01 w) A (call (.ref f) args) Q E s := by
  refine wpAny_call (useC (mods := mods) (rest := news.filter fun q => decide (q.1 ∉ mods.map (·.1))) F (News.sub N fun p hp => ?_) (fun q hq => ?_) c fun v h' tk' mods' tl F' N' ha ho hp => h v h' tk' mods' tl F' N' ha (fun q hq => ?_) hp)
  · rcases List.mem_append.mp hp with hp | hp
    · exact hm p hp
    · exact (List.mem_filter.mp hp).1
  · exact of_decide_eq_true (List.mem_filter.mp hq).2
  · by_cases e : q.1 ∈ mods.map (·.1)
    · obtain ⟨p, hp', e'⟩ := List.mem_map.mp e
      rw [← e']; exact ho p (List.mem_append_left _ hp')
    · exact ho q (List.mem_append_right _ (List.mem_filter.mpr ⟨hq, decide_eq_true e⟩))
theorem tw {C : Addr} {pos : List Value} {kw : List (Str × Value)} : (Code.builtin "type.__call__" ⟨.ref C :: pos, kw⟩).weight = 1 := by with_unfolding_all rfl
theorem tu {a : Args} : (Code.builtin "type.__call__" a).cUnits = 1 := by with_unfolding_all rfl
/-- an object made by a class with an __init__ of known contract -/
theorem use_init {A : Around} {L : Addr} {m : Str → Option Value} {C fI : Addr} {pos : List Value} {post : Addr → Addr → List (Addr × Obj) → List (Addr × Obj) → Value → Prop} {Q : Value → Shared → Prop} {E : Value → Shared → Prop}
    (F : Fr h₀ L s.heap m) (X₀ : (kH w.params).In h₀) (N : News h₀ L s.heap news) (hm : makesIn (kH w.params) C = true) (hi : findIn (kH w.params) (.ref C) "__init__" = some (some (.ref fI))) (hf : isFn (kH w.params) (.ref fI) = true)
    (c : ∀ x dx h', Fr h₀ L h' m → News h₀ L h' ((x, instObj C dx) :: (dx, dictOf [] 0) :: news) → @Ne Nat x dx →
      codeAny (model PySem.Challenge.pw_on0119_01 w) (A.under (.builtin "type.__call__" ⟨.ref C :: pos, []⟩)) (.call (.ref fI) ⟨.ref x :: pos, []⟩) (Post { s with heap := h' } [(x, instObj C dx), (dx, dictOf [] 0)] (post x dx)) { s with heap := h' })
    (hn : ∀ x dx mods' tl v, post x dx mods' tl v → v = .none)
    (h : ∀ x dx h' tk' mods' tl, Fr h₀ L h' m → News h₀ L h' (tl ++ (mods' ++ news)) → (∀ q ∈ news, @LT.lt Nat _ q.1 dx) → @LT.lt Nat _ dx x → (∀ q ∈ (x, instObj C dx) :: (dx, dictOf [] 0) :: news, ∀ p ∈ tl, @Ne Nat q.1 p.1) → post x dx mods' tl .none → Q (.ref x) { s with heap := h', toks := tk' }) :
    wpAny (model PySem.Challenge.pw_on0119_01 w) A (call (.ref C) pos) Q E s := by
  refine call_cls F X₀ N hm hi hf fun x dx h' F' N' l1 l2 => ?_
  refine useC (mods := [(x, instObj C dx), (dx, dictOf [] 0)]) (rest := news) F' N' (fun q hq hmm => ?_) (c x dx h' F' N' (Nat.ne_of_gt l2)) fun v h'' tk' mods' tl F'' N'' ha ho hp => ?_
  · have := l1 q hq
    simp at hmm
    rcases hmm with e | e
    · rw [e] at this; exact absurd (Nat.lt_trans this l2) (Nat.lt_irrefl _)
    · rw [e] at this; exact absurd this (Nat.lt_irrefl _)
  · have e := hn _ _ _ _ _ hp
    subst e
    exact ⟨rfl, h x dx h'' tk' mods' tl F'' N'' l1 l2 ho hp⟩
end
end Mine
namespace Mine
theorem add_signal_spec {w : World} {mg mb : Str → Option Value} {mean : ExcName → Option Value} {s : Shared} {h₀ : Heap} {dp un : Nat} {fr : Option (List Env)} {gd : Option (List Code)} {x dx sg bp : Addr} {es : List DictEntry} {k n : Nat} {o : Obj} {dat : List (Addr × Obj)} {t1 t2 t3 t4 t5 t6 : Tok}
    (C : At w mg mb mean h₀ s [(sg, listOf [].toArray n), (bp, o)]) (D : Has s.heap dat) (hoff : ∀ q ∈ dat, q.1 ∉ [(sg, listOf [].toArray n), (bp, o)].map (·.1))
    (h1 : (x, instObj 258 dx) ∈ dat) (h2 : (dx, dictOf es k) ∈ dat) (g1 : getL (Str.ofString "signals") es = some (some (.ref sg))) (g2 : getL (Str.ofString "by_path") es = some (some (.ref bp)))
    (hne : @Ne Nat sg bp) (lo : (bp == sysModules) = false) (hdo : Obj.IsDictOf (PySem.strKind PySem.Challenge.pw_on0119_01 w) o []) (hfl : PyProof.V.FlatPairs PyData.str [] [])
    (hd : dp < 450) (hu : un < 4500) :
    codeAny (model PySem.Challenge.pw_on0119_01 w) (A0 dp un fr gd) (.call (.ref 220) ⟨[.ref x, S "top.s" t1, S "reg" t2, .int 4 t3, .bool false, .int 3 t4, .int 0 t5, .int (-1) t6], []⟩)
      (Post s [(sg, listOf [].toArray n), (bp, o)] (fun _ _ _ => True)) s := by
  k_with_none
  k_with "BACK" => ((try dsimp only [Mine.TurnEnd, PyProof.Rows.WhileStep2]); refine' Mine.back ?B ?_; (case B => assumption); (try dsimp only))
  k_with "ENTER2" => ((case kC => assumption); (case k6 => k_is); (case kb => (conv => lhs; whnf)); (case ks => (conv => lhs; whnf)); (case k7 => k_is); (case k8 => (simp only [recursionLimit]; omega)); (case k9 => exact BindsTo.of_eq rfl); (case c5 => decide); (case kB => exact locs rfl); (case c2 => exact rfl); (case c3 => exact rfl); (case c4 => exact rfl); k_whole; intro _ _ _ _ _ _ _ _ _ _ _ _ _ _ _ _ _; (try dsimp only))
  k_with "subscriptTail" => (k_here; (with_reducible show wpAny _ _ (subscriptTail _ _ (Value.ref _) (Value.int _ _)) _ _ _); k_dflt (refine' item_tupleT (Mine.has_tup ?F ?D ?M) ?a ?b ?c ?d ?_; (case F => k_asm); (case D => assumption); (case M => assumption); (case a => decide); (case b => decide); (case c => first | rfl | exact Mine.seq_zero); (case d => rfl); k_whole))
  k_with "exec While Name cons nil" => k_extra "WHILE"
  k_with "pyIter ref" => ((with_reducible show wpAny _ _ (pyIter (Value.ref _)) (fun it s₂ => LoopAtV _ _ _ _ _ _ _ _ _ it s₂) _ _); k_extra "ITER")
  k_with "call ref" => k_extra "CALL"
  k_with "call type:reversed" => k_extra "REV"
  k_with "call builtin:list.pop" => (k_here; k_dflt (first | ((with_reducible show wpAny _ _ (call (Value.builtin _) [Value.ref _]) _ _ _); refine' Mine.popLast ?F ?N ?U ?z ?_; (case F => k_asm); (case N => k_asm); (case U => k_upd); (case z => (rw [PySem.sizeLine_eq]; first | assumption | omega | exact Nat.le_of_ble_eq_true rfl))) | (refine' Mine.pop0 ?F ?N ?U ?z ?_; (case F => k_asm); (case N => k_asm); (case U => k_upd); (case z => (rw [PySem.sizeLine_eq]; first | assumption | omega | exact Nat.le_of_ble_eq_true rfl)))); intro _ _ _; (try k_sweep))
  k_with "call builtin:list.append" => (k_here; k_extra "APP"; k_dflt (refine' Mine.app_ ?F ?N ?U ?z ?_; (case F => k_asm); (case N => k_asm); (case U => k_upd); (case z => (rw [PySem.sizeLine_eq]; first | assumption | omega | exact Nat.le_of_ble_eq_true rfl))); intro _ _ _; (try k_sweep))
  k_with "USE0" => ((case F => assumption); (case N => assumption); (case C => exact Mine.at0 (by assumption) (by assumption) (by assumption)); (case hd => ((try dsimp only [Mine.A0, Around.deeper, Around.in1]); omega)); (case hu => ((try dsimp only [Mine.A0, Around.deeper, Around.in1]); omega)))
  k_with "setItem ref int" => (k_here; k_dflt (refine' setItem_K PyProof.V.same_int (intKind_is _ _ _ _) ?v ?F ?N ?U ?d ?f ?_ ?z; (case F => k_asm); (case N => k_asm); (case U => k_updF); (case d => assumption); (case f => assumption); (case z => (rw [PySem.sizeLine_eq]; first | omega | exact Nat.le_of_ble_eq_true rfl)); (case v => exact PyProof.V.Flat.bool _)); intro _ _ _ _ _ _; (try k_sweep))
  k_with "call builtin:sorted" => (k_here; k_dflt (refine' Mine.sorted_dict ?hh ?F ?N ?M ?d ?lo ?z ?_; (case hh => exact rfl); (case F => assumption); (case N => assumption); (case M => k_mem); (case d => assumption); (case lo => assumption); (case z => first | omega | exact Nat.le_of_ble_eq_true rfl)); intro _ _ _ _ _ _ _ _ _ _ _ _)
  k_with "exec For" => (k_here; (with_reducible show wpAny _ _ (exec (Stmt.For (Expr.Name _ _) _ _ [] _) _) _ _ _); (with_reducible rename Fr _ _ _ _ => kF); (with_unfolding_all refine' For_invVF kF ?k1 ?k2 ?_; (case k1 => exact rfl); (case k2 => exact rfl); k_whole))
  k_with "call type:list" => (k_here; (with_reducible show wpAny _ _ (call (Value.type _) [Value.ref _]) _ _ _); k_dflt (refine' list_copyKT ?F ?N (Mine.has_tup ?G ?D ?M) ?_ ?z; (case F => k_asm); (case N => k_asm); (case G => k_asm); (case D => assumption); (case M => assumption); (case z => exact Nat.le_of_ble_eq_true rfl)); intro _ _ _ _ _ l1; (try (replace l1 := allLt_of l1; dsimp only [AllLt] at l1; revert l1; intro _)); (try k_sweep))
  k_with "ALLQ" => (simp only [List.forall_mem_cons, List.mem_singleton, forall_eq]; assumption)
  k_with "subscriptTail" => (k_here; (with_reducible show wpAny _ _ (subscriptTail _ _ (Value.ref _) (Value.int _ _)) _ _ _); k_dflt (refine' Mine.item_dat ?F ?D ?M ?a ?b ?x ?_; (case F => k_asm); (case D => assumption); (case M => assumption); (case a => assumption); (case b => omega); (case x => assumption); k_whole))
  k_with "getAttr ref" => (k_here; k_dflt (refine' Mine.attr_dat ?F ?X ?D ?h1 ?h2 ?k4 ?k5 ?k6 ?k7 ?k8 ?k9 ?_; (case F => k_asm); (case X => k_asm); (case D => assumption); (case h1 => assumption); (case h2 => assumption); (case k4 => k_is); (case k5 => k_is); (case k6 => k_is); (case k7 => k_is); (case k8 => assumption); (case k9 => k_handed); k_whole))
  k_with "getMethod ref" => (k_here; k_dflt (refine' Mine.meth_dat ?F ?X ?D ?h1 ?h2 ?k4 ?k5 ?k6 ?k7 ?_; (case F => k_asm); (case X => k_asm); (case D => assumption); (case h1 => assumption); (case h2 => assumption); (case k4 => k_is); (case k5 => k_is); (case k6 => k_is); (case k7 => assumption); k_whole))
  k_with "compareOp NotIn int ref" => (k_here; k_dflt (refine' Mine.notin_dict ?N ?M ?d ?lo ?_; (case N => assumption); (case M => k_mem); (case d => assumption); (case lo => assumption)))
  k_with "call builtin:list.extend" => (k_here; k_extra "EXT"; k_dflt (refine' Mine.ext_ ?F ?N ?b ?U ?z ?_; (case F => k_asm); (case N => k_asm); (case b => k_mem); (case U => (intro c; k_upd)); (case z => omega)); intro _ _ _ _; (try k_sweep))
  k_with "call type:list" => (k_here; k_extra "COPY"; (with_reducible show wpAny _ _ (call (Value.type _) [Value.ref _]) _ _ _); k_dflt (refine' Mine.copy_ ?F ?N ?M ?z ?_; (case F => k_asm); (case N => k_asm); (case M => k_mem); (case z => omega)); intro _ _ _ _ _ l1; (try (replace l1 := allLt_of l1; dsimp only [AllLt] at l1; revert l1; intro _)); (try k_sweep))
  k_with "truthy ref" => (k_here; k_extra "TRU"; (with_reducible show wpAny _ _ (truthy (Value.ref _)) _ _ _); k_dflt (refine' Mine.truthy_ ?N ?M ?z ?_; (case N => k_asm); (case M => k_mem); (case z => first | assumption | omega)); intro _)
  k_with "USE1" => ((case F => assumption); (case N => assumption); (case U => k_updF); (case C => exact Mine.at1 (by assumption) (by assumption) (by assumption) (by assumption) (by k_mem)); (case hd => ((try dsimp only [Mine.A0, Around.deeper, Around.in1]); omega)); (case hu => ((try dsimp only [Mine.A0, Around.deeper, Around.in1]); omega)))
  k_with "setItem ref int" => (k_here; (with_reducible show wpAny _ _ (setItem (Value.ref _) (Value.int _ _) _) _ _ _); k_dflt (refine' Mine.set_ ?F ?N ?a ?b ?c ?U ?_; (case F => k_asm); (case N => k_asm); (case U => k_upd); (case a => omega); (case b => omega); (case c => omega)); intro _ _ _; (try k_sweep))
  k_with "exec Assign cons ListComp" => k_extra "COMP"
  k_with "eval ListComp" => k_extra "COMPE"
  k_with "CompSrc" => k_extra "CSRC"
  k_with "binaryOp Mult ref int" => k_extra "MUL"
  k_with "TAILS" => (intro p hp; repeat (first | exact hp | refine List.Mem.tail _ ?_))
  k_with "getMethod ref" => (k_here; k_dflt (refine' Mine.meth_news ?F ?X ?N ?h1 ?h2 ?S ?k4 ?k5 ?k6 ?k7 ?_; (case F => k_asm); (case X => k_asm); (case N => k_asm); (case h1 => assumption); (case h2 => assumption); (case S => walk_at "TAILS"); (case k4 => k_is); (case k5 => k_is); (case k6 => k_is); (case k7 => assumption); k_whole))
  k_with "GOFF" => (refine Mine.off3 ?_; repeat' (first | exact List.forall_mem_nil _ | assumption | refine List.forall_mem_cons.mpr ⟨⟨by (dsimp only; omega), by (dsimp only; omega), by (dsimp only; omega)⟩, ?_⟩))
  k_with "GCUP" => (unfold Mine.Stop; rintro v' h' tk' o' tl F' N' ho ⟨e1, vs1, n1', ts1, c, u, hm1, hi1, hl4, e2, hc0, hc1⟩; cases hm1; cases e1; cases e2; (try simp only [List.nil_append] at N'); clear ho)
  k_with "eval Constant int" => (k_here; (k_dflt (refine' Mine.const_int ?_)); intro _ _)
  k_with "eval Constant str" => (k_here; (k_dflt (refine' Mine.const_str ?_)); intro _ _)
  k_with "newTuple" => (k_here; k_dflt (refine' kup_newTuple ?F ?N ?_ ?z; (case F => k_asm); (case N => k_asm); (case z => exact Nat.le_of_ble_eq_true rfl)); intro _ _ _ _ l1; (try (replace l1 := allLt_of l1; dsimp only [AllLt] at l1; revert l1; intro _)); (try k_sweep))
  k_with "newList" => (k_here; k_dflt (refine' newList_K ?k1 ?k2 ?_; (case k1 => k_asm); (case k2 => k_asm); k_whole); intro _ _ _ _ l1; (try (replace l1 := allLt_of l1; dsimp only [AllLt] at l1; revert l1; intro _)); (try k_sweep))
  refine' enter (binds := [(Str.ofString "self", .ref x), (Str.ofString "path", S "top.s" t1), (Str.ofString "kind", S "reg" t2), (Str.ofString "width", .int 4 t3), (Str.ofString "signed", .bool false), (Str.ofString "msb", .int 3 t4), (Str.ofString "lsb", .int 0 t5), (Str.ofString "at", .int (-1) t6)]) ?kC ?k6 ?kb ?ks ?k7 ?k8 ?k9 ?kB ?_ ?c2 ?c3 ?c4 ?c5; walk_at "ENTER2"
  rename_i g' L' h' hg' hz' hl' eL' X' T' F' N'
  have D' : Has g' dat := fun q hq => hg' _ _ (D q hq) (hoff q hq)
  k_with "APP" => skip
  k_with "CALL" => (refine' use_init ?F ?X ?N ?hm ?hi ?hf (fun x dx h' F' N' hne => sinit_spec ?C hne ?hd ?hu) ?hn ?_; (case F => assumption); (case X => assumption); (case N => assumption); (case hm => k_dflt k_is); (case hi => k_dflt k_is); (case hf => k_dflt k_is); (case C => exact atL (by assumption) (by assumption) (by assumption) (by assumption) (fun p hp => by simp at hp ⊢; grind)); (case hd => ((try dsimp only [Mine.A0, Around.deeper, Around.in1, Around.under]); rw [Mine.tw]; omega)); (case hu => ((try dsimp only [Mine.A0, Around.deeper, Around.in1, Around.under]); rw [Mine.tu]; omega)); (case hn => exact fun _ _ _ _ _ h => h.1); refine stop_at ?_)
  k_steps
  unfold Stop
  rintro y dy h' tk' mods' tl F' N' l1 l2 ho ⟨-, rfl, t1, t2, t3, t4, t5, t6, t7, t8, t9, t10, t11, t12, u, rfl⟩
  simp only [List.cons_append, List.nil_append] at N'
  k_lt l1
  k_steps
  walk_at "BACK"
  refine' leave (mods' := [_, _]) (tl := [_, _]) hg' ?FF ?NN ?aa ?tt ?pp
  case FF => assumption
  case NN => assumption
  case aa => rfl
  case tt => exact off2 (by repeat' (first | exact List.forall_mem_nil _ | refine List.forall_mem_cons.mpr ⟨⟨by (dsimp only; omega), by (dsimp only; omega)⟩, ?_⟩))
  case pp => trivial
abbrev rEnts (w : World) (a b c d e : Value) (p q : Addr) (t1 t2 t3 t4 t5 t6 t7 t8 t9 t10 t11 t12 t13 t14 u1 u2 : Tok) : List DictEntry := [ent w "number" t1 a, ent w "path" t2 b, ent w "is_function" t3 c, ent w "automatic" t4 d, ent w "at" t5 e, ent w "width" t6 (.int 1 u1), ent w "signed" t7 (.bool false),
        ent w "ports" t8 (.ref p), ent w "slots" t9 (.ref q), ent w "body" t10 .none, ent w "source" t11 .none, ent w "scope" t12 .none, ent w "disable_scope" t13 (.int (-1) u2), ent w "made" t14 (.bool false)]
theorem add_routine_spec {w : World} {mg mb : Str → Option Value} {mean : ExcName → Option Value} {s : Shared} {h₀ : Heap} {dp un : Nat} {fr : Option (List Env)} {gd : Option (List Code)} {x dx r : Addr} {es : List DictEntry} {k n : Nat} {rs : List Value} {dat : List (Addr × Obj)} {pv : Value} {t1 : Tok}
    (C : At w mg mb mean h₀ s [(r, listOf rs.toArray n)]) (D : Has s.heap dat) (hoff : ∀ q ∈ dat, q.1 ∉ [(r, listOf rs.toArray n)].map (·.1))
    (h1 : (x, instObj 258 dx) ∈ dat) (h2 : (dx, dictOf es k) ∈ dat) (g1 : getL (Str.ofString "routines") es = some (some (.ref r))) (hrs : rs.length ≤ 1000)
    (hd : dp < 450) (hu : un < 4500) :
    codeAny (model PySem.Challenge.pw_on0119_01 w) (A0 dp un fr gd) (.call (.ref 234) ⟨[.ref x, pv, .bool true, .bool false, .int (-1) t1], []⟩)
      (Post s [(r, listOf rs.toArray n)] (fun mods' tl v => ∃ (y dy p q : Addr) (a e : Value) (t1 t2 t3 t4 t5 t6 t7 t8 t9 t10 t11 t12 t13 t14 u1 u2 : Tok) (n' : Nat), v = .ref y ∧ @Ne Nat y dy ∧ mods' = [(r, listOf (rs ++ [Value.ref y]).toArray n')] ∧
        tl = [(y, instObj 195 dy), (dy, dictOf (rEnts w a pv (.bool true) (.bool false) e p q t1 t2 t3 t4 t5 t6 t7 t8 t9 t10 t11 t12 t13 t14 u1 u2) 14)])) s := by
  k_with_none
  k_with "BACK" => ((try dsimp only [Mine.TurnEnd, PyProof.Rows.WhileStep2]); refine' Mine.back ?B ?_; (case B => assumption); (try dsimp only))
  k_with "ENTER2" => ((case kC => assumption); (case k6 => k_is); (case kb => (conv => lhs; whnf)); (case ks => (conv => lhs; whnf)); (case k7 => k_is); (case k8 => (simp only [recursionLimit]; omega)); (case k9 => exact BindsTo.of_eq rfl); (case c5 => decide); (case kB => exact locs rfl); (case c2 => exact rfl); (case c3 => exact rfl); (case c4 => exact rfl); k_whole; intro _ _ _ _ _ _ _ _ _ _ _ _ _ _ _ _ _; (try dsimp only))
  k_with "subscriptTail" => (k_here; (with_reducible show wpAny _ _ (subscriptTail _ _ (Value.ref _) (Value.int _ _)) _ _ _); k_dflt (refine' item_tupleT (Mine.has_tup ?F ?D ?M) ?a ?b ?c ?d ?_; (case F => k_asm); (case D => assumption); (case M => assumption); (case a => decide); (case b => decide); (case c => first | rfl | exact Mine.seq_zero); (case d => rfl); k_whole))
  k_with "exec While Name cons nil" => k_extra "WHILE"
  k_with "pyIter ref" => ((with_reducible show wpAny _ _ (pyIter (Value.ref _)) (fun it s₂ => LoopAtV _ _ _ _ _ _ _ _ _ it s₂) _ _); k_extra "ITER")
  k_with "call ref" => k_extra "CALL"
  k_with "call type:reversed" => k_extra "REV"
  k_with "call builtin:list.pop" => (k_here; k_dflt (first | ((with_reducible show wpAny _ _ (call (Value.builtin _) [Value.ref _]) _ _ _); refine' Mine.popLast ?F ?N ?U ?z ?_; (case F => k_asm); (case N => k_asm); (case U => k_upd); (case z => (rw [PySem.sizeLine_eq]; first | assumption | omega | exact Nat.le_of_ble_eq_true rfl))) | (refine' Mine.pop0 ?F ?N ?U ?z ?_; (case F => k_asm); (case N => k_asm); (case U => k_upd); (case z => (rw [PySem.sizeLine_eq]; first | assumption | omega | exact Nat.le_of_ble_eq_true rfl)))); intro _ _ _; (try k_sweep))
  k_with "call builtin:list.append" => (k_here; k_extra "APP"; k_dflt (refine' Mine.app_ ?F ?N ?U ?z ?_; (case F => k_asm); (case N => k_asm); (case U => k_upd); (case z => (rw [PySem.sizeLine_eq]; first | assumption | omega | exact Nat.le_of_ble_eq_true rfl))); intro _ _ _; (try k_sweep))
  k_with "USE0" => ((case F => assumption); (case N => assumption); (case C => exact Mine.at0 (by assumption) (by assumption) (by assumption)); (case hd => ((try dsimp only [Mine.A0, Around.deeper, Around.in1]); omega)); (case hu => ((try dsimp only [Mine.A0, Around.deeper, Around.in1]); omega)))
  k_with "setItem ref int" => (k_here; k_dflt (refine' setItem_K PyProof.V.same_int (intKind_is _ _ _ _) ?v ?F ?N ?U ?d ?f ?_ ?z; (case F => k_asm); (case N => k_asm); (case U => k_updF); (case d => assumption); (case f => assumption); (case z => (rw [PySem.sizeLine_eq]; first | omega | exact Nat.le_of_ble_eq_true rfl)); (case v => exact PyProof.V.Flat.bool _)); intro _ _ _ _ _ _; (try k_sweep))
  k_with "call builtin:sorted" => (k_here; k_dflt (refine' Mine.sorted_dict ?hh ?F ?N ?M ?d ?lo ?z ?_; (case hh => exact rfl); (case F => assumption); (case N => assumption); (case M => k_mem); (case d => assumption); (case lo => assumption); (case z => first | omega | exact Nat.le_of_ble_eq_true rfl)); intro _ _ _ _ _ _ _ _ _ _ _ _)
  k_with "exec For" => (k_here; (with_reducible show wpAny _ _ (exec (Stmt.For (Expr.Name _ _) _ _ [] _) _) _ _ _); (with_reducible rename Fr _ _ _ _ => kF); (with_unfolding_all refine' For_invVF kF ?k1 ?k2 ?_; (case k1 => exact rfl); (case k2 => exact rfl); k_whole))
  k_with "call type:list" => (k_here; (with_reducible show wpAny _ _ (call (Value.type _) [Value.ref _]) _ _ _); k_dflt (refine' list_copyKT ?F ?N (Mine.has_tup ?G ?D ?M) ?_ ?z; (case F => k_asm); (case N => k_asm); (case G => k_asm); (case D => assumption); (case M => assumption); (case z => exact Nat.le_of_ble_eq_true rfl)); intro _ _ _ _ _ l1; (try (replace l1 := allLt_of l1; dsimp only [AllLt] at l1; revert l1; intro _)); (try k_sweep))
  k_with "ALLQ" => (simp only [List.forall_mem_cons, List.mem_singleton, forall_eq]; assumption)
  k_with "subscriptTail" => (k_here; (with_reducible show wpAny _ _ (subscriptTail _ _ (Value.ref _) (Value.int _ _)) _ _ _); k_dflt (refine' Mine.item_dat ?F ?D ?M ?a ?b ?x ?_; (case F => k_asm); (case D => assumption); (case M => assumption); (case a => assumption); (case b => omega); (case x => assumption); k_whole))
  k_with "getAttr ref" => (k_here; k_dflt (refine' Mine.attr_dat ?F ?X ?D ?h1 ?h2 ?k4 ?k5 ?k6 ?k7 ?k8 ?k9 ?_; (case F => k_asm); (case X => k_asm); (case D => assumption); (case h1 => assumption); (case h2 => assumption); (case k4 => k_is); (case k5 => k_is); (case k6 => k_is); (case k7 => k_is); (case k8 => assumption); (case k9 => k_handed); k_whole))
  k_with "getMethod ref" => (k_here; k_dflt (refine' Mine.meth_dat ?F ?X ?D ?h1 ?h2 ?k4 ?k5 ?k6 ?k7 ?_; (case F => k_asm); (case X => k_asm); (case D => assumption); (case h1 => assumption); (case h2 => assumption); (case k4 => k_is); (case k5 => k_is); (case k6 => k_is); (case k7 => assumption); k_whole))
  k_with "compareOp NotIn int ref" => (k_here; k_dflt (refine' Mine.notin_dict ?N ?M ?d ?lo ?_; (case N => assumption); (case M => k_mem); (case d => assumption); (case lo => assumption)))
  k_with "call builtin:list.extend" => (k_here; k_extra "EXT"; k_dflt (refine' Mine.ext_ ?F ?N ?b ?U ?z ?_; (case F => k_asm); (case N => k_asm); (case b => k_mem); (case U => (intro c; k_upd)); (case z => omega)); intro _ _ _ _; (try k_sweep))
  k_with "call type:list" => (k_here; k_extra "COPY"; (with_reducible show wpAny _ _ (call (Value.type _) [Value.ref _]) _ _ _); k_dflt (refine' Mine.copy_ ?F ?N ?M ?z ?_; (case F => k_asm); (case N => k_asm); (case M => k_mem); (case z => omega)); intro _ _ _ _ _ l1; (try (replace l1 := allLt_of l1; dsimp only [AllLt] at l1; revert l1; intro _)); (try k_sweep))
  k_with "truthy ref" => (k_here; k_extra "TRU"; (with_reducible show wpAny _ _ (truthy (Value.ref _)) _ _ _); k_dflt (refine' Mine.truthy_ ?N ?M ?z ?_; (case N => k_asm); (case M => k_mem); (case z => first | assumption | omega)); intro _)
  k_with "USE1" => ((case F => assumption); (case N => assumption); (case U => k_updF); (case C => exact Mine.at1 (by assumption) (by assumption) (by assumption) (by assumption) (by k_mem)); (case hd => ((try dsimp only [Mine.A0, Around.deeper, Around.in1]); omega)); (case hu => ((try dsimp only [Mine.A0, Around.deeper, Around.in1]); omega)))
  k_with "setItem ref int" => (k_here; (with_reducible show wpAny _ _ (setItem (Value.ref _) (Value.int _ _) _) _ _ _); k_dflt (refine' Mine.set_ ?F ?N ?a ?b ?c ?U ?_; (case F => k_asm); (case N => k_asm); (case U => k_upd); (case a => omega); (case b => omega); (case c => omega)); intro _ _ _; (try k_sweep))
  k_with "exec Assign cons ListComp" => k_extra "COMP"
  k_with "eval ListComp" => k_extra "COMPE"
  k_with "CompSrc" => k_extra "CSRC"
  k_with "binaryOp Mult ref int" => k_extra "MUL"
  k_with "TAILS" => (intro p hp; repeat (first | exact hp | refine List.Mem.tail _ ?_))
  k_with "getMethod ref" => (k_here; k_dflt (refine' Mine.meth_news ?F ?X ?N ?h1 ?h2 ?S ?k4 ?k5 ?k6 ?k7 ?_; (case F => k_asm); (case X => k_asm); (case N => k_asm); (case h1 => assumption); (case h2 => assumption); (case S => walk_at "TAILS"); (case k4 => k_is); (case k5 => k_is); (case k6 => k_is); (case k7 => assumption); k_whole))
  k_with "GOFF" => (refine Mine.off3 ?_; repeat' (first | exact List.forall_mem_nil _ | assumption | refine List.forall_mem_cons.mpr ⟨⟨by (dsimp only; omega), by (dsimp only; omega), by (dsimp only; omega)⟩, ?_⟩))
  k_with "GCUP" => (unfold Mine.Stop; rintro v' h' tk' o' tl F' N' ho ⟨e1, vs1, n1', ts1, c, u, hm1, hi1, hl4, e2, hc0, hc1⟩; cases hm1; cases e1; cases e2; (try simp only [List.nil_append] at N'); clear ho)
  k_with "eval Constant int" => (k_here; (k_dflt (refine' Mine.const_int ?_)); intro _ _)
  k_with "eval Constant str" => (k_here; (k_dflt (refine' Mine.const_str ?_)); intro _ _)
  k_with "newTuple" => (k_here; k_dflt (refine' kup_newTuple ?F ?N ?_ ?z; (case F => k_asm); (case N => k_asm); (case z => exact Nat.le_of_ble_eq_true rfl)); intro _ _ _ _ l1; (try (replace l1 := allLt_of l1; dsimp only [AllLt] at l1; revert l1; intro _)); (try k_sweep))
  k_with "newList" => (k_here; k_dflt (refine' newList_K ?k1 ?k2 ?_; (case k1 => k_asm); (case k2 => k_asm); k_whole); intro _ _ _ _ l1; (try (replace l1 := allLt_of l1; dsimp only [AllLt] at l1; revert l1; intro _)); (try k_sweep))
  refine' enter (binds := [(Str.ofString "self", .ref x), (Str.ofString "path", pv), (Str.ofString "is_function", .bool true), (Str.ofString "automatic", .bool false), (Str.ofString "at", .int (-1) t1)]) ?kC ?k6 ?kb ?ks ?k7 ?k8 ?k9 ?kB ?_ ?c2 ?c3 ?c4 ?c5; walk_at "ENTER2"
  rename_i g' L' h' hg' hz' hl' eL' X' T' F' N'
  have D' : Has g' dat := fun q hq => hg' _ _ (D q hq) (hoff q hq)
  have hsz : rs.toArray.size = rs.length := by simp
  k_with "APP" => skip
  k_with "CALL" => (refine' use_init ?F ?X ?N ?hm ?hi ?hf (fun x dx h' F' N' hne => rinit_spec ?C hne ?hd ?hu) ?hn ?_; (case F => assumption); (case X => assumption); (case N => assumption); (case hm => k_dflt k_is); (case hi => k_dflt k_is); (case hf => k_dflt k_is); (case C => exact atL (by assumption) (by assumption) (by assumption) (by assumption) (fun p hp => by simp at hp ⊢; grind)); (case hd => ((try dsimp only [Mine.A0, Around.deeper, Around.in1, Around.under]); rw [Mine.tw]; omega)); (case hu => ((try dsimp only [Mine.A0, Around.deeper, Around.in1, Around.under]); rw [Mine.tu]; omega)); (case hn => exact fun _ _ _ _ _ h => h.1); refine stop_at ?_)
  k_steps
  unfold Stop
  rintro y dy h' tk' mods' tl F' N' l1 l2 ho ⟨-, p, q, rfl, t1, t2, t3, t4, t5, t6, t7, t8, t9, t10, t11, t12, t13, t14, u1, u2, rfl⟩
  simp only [List.cons_append, List.nil_append] at N'
  k_lt l1
  simp only [List.forall_mem_cons, List.mem_singleton, forall_eq] at ho
  (have hs9 := ho; (repeat (obtain ⟨_, hs9⟩ := hs9)))
  k_steps
  rename_i F9 N9
  have N10 := News.sub (news' := [(y, instObj 195 dy), (dy, _), (r, _)]) N9 (List.forall_mem_cons.mpr ⟨.tail _ (.tail _ (.head _)), List.forall_mem_cons.mpr ⟨.tail _ (.tail _ (.tail _ (.head _))), List.forall_mem_cons.mpr ⟨.tail _ (.tail _ (.tail _ (.tail _ (.head _)))), List.forall_mem_nil _⟩⟩⟩)
  clear N9
  walk_at "BACK"
  refine' leave (mods' := [_]) (tl := [_, _]) hg' ?FF ?NN ?aa ?tt ?pp
  case FF => exact F9
  case NN => assumption
  case aa => rfl
  case tt =>
    intro z hz hm
    simp at hz hm
    rcases hz with rfl | rfl
    · exact Nat.ne_of_gt (Nat.lt_trans l1 l2) hm
    · exact Nat.ne_of_gt l1 hm
  case pp => exact ⟨y, dy, _, _, _, _, _, _, _, _, _, _, _, _, _, _, _, _, _, _, _, _, _, rfl, Nat.ne_of_gt l2, rfl, rfl⟩
end Mine
namespace Mine
/-- the design, as it is made -/
structure DesAt (w : World) (news : List (Addr × Obj)) (x dx sg bp r tray ce : Addr) (es : List DictEntry) (k n8 n9 : Nat) (ob tob : Obj) : Prop where
  h1 : (x, instObj 258 dx) ∈ news
  h2 : (dx, dictOf es k) ∈ news
  g1 : getL (Str.ofString "signals") es = some (some (.ref sg))
  g2 : getL (Str.ofString "by_path") es = some (some (.ref bp))
  g3 : getL (Str.ofString "routines") es = some (some (.ref r))
  g4 : getL (Str.ofString "routine") es = some none
  g5 : getL (Str.ofString "add_signal") es = some none
  g6 : getL (Str.ofString "add_routine") es = some none
  h3 : (sg, listOf [].toArray n8) ∈ news
  h4 : (bp, ob) ∈ news
  h5 : (r, listOf [].toArray n9) ∈ news
  h6 : (tray, tob) ∈ news
  lo : (bp == sysModules) = false
  hdo : Obj.IsDictOf (PySem.strKind PySem.Challenge.pw_on0119_01 w) ob []
  ne1 : @Ne Nat sg bp
  ne2 : @Ne Nat r sg
  ne3 : @Ne Nat r bp
  ne4 : @Ne Nat tray sg
  ne5 : @Ne Nat tray bp
  ne6 : @Ne Nat x sg
  ne7 : @Ne Nat x bp
  ne8 : @Ne Nat dx sg
  ne9 : @Ne Nat dx bp
  c1 : @Ne Nat x ce
  c2 : @Ne Nat dx ce
  c3 : @Ne Nat sg ce
  c4 : @Ne Nat bp ce
  c5 : @Ne Nat r ce
  c6 : @Ne Nat tray ce
  c7 : @Ne Nat tray r
  c8 : @Ne Nat r x
  c9 : @Ne Nat r dx
  c10 : @Ne Nat x dx
  c11 : @Ne Nat tray x
  c12 : @Ne Nat tray dx
theorem withDes {w : World} {news : List (Addr × Obj)} {x dx sg bp r tray ce : Addr} {es : List DictEntry} {k n8 n9 : Nat} {ob tob : Obj} {P : Prop} (h : DesAt w news x dx sg bp r tray ce es k n8 n9 ob tob)
    (q : ∀ x₀, x₀ = x → (∃ dx sg bp r es k n8 n9 ob, DesAt w news x₀ dx sg bp r tray ce es k n8 n9 ob tob) → P) : P := q x rfl ⟨_, _, _, _, _, _, _, _, _, h⟩
section
variable {g h : Heap} {L : Addr} {news : List (Addr × Obj)}
theorem mem_of {p : Addr × Obj} (N : News g L h news) (hm : p ∈ news) : p ∈ news := hm
theorem news_split {c : Addr} {o : Obj} (N : News g L h news) (hm : (c, o) ∈ news) : ∃ D, News g L h ((c, o) :: D) ∧ (∀ p ∈ D, @Ne Nat p.1 c) ∧ ∀ p ∈ news, @Ne Nat p.1 c → p ∈ D :=
  ⟨news.filter fun p => decide (p.1 ≠ c), News.sub N fun p hp => (List.mem_cons.mp hp).elim (fun e => e ▸ hm) fun hp => (List.mem_filter.mp hp).1, fun p hp => of_decide_eq_true (List.mem_filter.mp hp).2,
    fun p hp hne => List.mem_filter.mpr ⟨hp, decide_eq_true hne⟩⟩
theorem news_inj {a : Addr} {o o' : Obj} (N : News g L h news) (h1 : (a, o) ∈ news) (h2 : (a, o') ∈ news) : o = o' := by
  have e1 := (N _ h1).1
  have e2 := (N _ h2).1
  dsimp only at e1 e2
  rw [e1] at e2
  exact Option.some.inj e2
theorem off1_mem {D : Addr} : ∀ {l : List (Addr × Obj)}, LCg.Off1 D l → ∀ p ∈ l, @Ne Nat p.1 D
  | [], _, _, h => nomatch h
  | _ :: _, x, p, h => by
    rcases List.mem_cons.mp h with rfl | h
    · exact x.1
    · exact off1_mem x.2 p h
theorem flat_rep (v : Value) (k : Nat) : (List.replicate k [v]).flatten = List.replicate k v := by
  induction k with
  | zero => rfl
  | succ k ih => rw [List.replicate_succ, List.flatten_cons, ih]; rfl
section
variable {prog : Program} {w : World} {A : Around} {E : Value → Shared → Prop} {s : Shared} {K : Frag} {x dx C : Addr} {m : Str → Option Value} {dat : List (Addr × Obj)} {es : List DictEntry} {n : Nat} {name : Str} {v : Value}
theorem meth_news {pl : Sem Bool} {Q : Value × List Value → Shared → Prop} {f : Addr} (F : Fr g L s.heap m) (X : K.In g) (N : News g L s.heap news) (h1 : (x, instObj C dx) ∈ dat) (h2 : (dx, dictOf es n) ∈ dat) (sub : ∀ p ∈ dat, p ∈ news) (hg : plainGet K C name = true)
    (hf : findIn K (.ref C) name = some (some (.ref f))) (ht : isFn K (.ref f) = true) (hl : getL name es = some none) (h : Q (.ref f, [.ref x]) s) : wpAny (model prog w) A (getMethod (.ref x) name pl) Q E s :=
  method_inst F X ⟨(N _ (sub _ h1)).1, rfl, rfl, (N _ (sub _ h2)).1⟩ hg hf ht hl h
end
end
end Mine

namespace Mine
theorem RoutL.mono {dat dat' : List (Addr × Obj)} {v : Value} {st : St} (h : RoutL dat v st) (k : ∀ p ∈ dat, p ∈ dat') : RoutL dat' v st := by
  cases h with
  | mk a b c d e => exact .mk (k _ a) (k _ b) c d (e.mono k)
/-- what the ledger holds of the rig that the law builds -/
structure Rig (news : List (Addr × Obj)) (ce tch lnk r x dx : Addr) (lks : List Addr) (es : List DictEntry) (nss : List (List Int)) (sts : List St) (bs : List Bool) (dat : List (Addr × Obj)) (n i : Nat) : Prop where
  nd : List.Nodup (α := Nat) (ce :: tch :: lnk :: r :: x :: dx :: lks)
  len : lks.length = n
  l1 : nss.length = i
  l2 : sts.length = i
  l3 : bs.length = i
  d1 : (x, instObj 258 dx) ∈ news
  d2 : ∃ k, (dx, dictOf es k) ∈ news
  g3 : getL (Str.ofString "routines") es = some (some (.ref r))
  g4 : getL (Str.ofString "routine") es = some none
  g6 : getL (Str.ofString "add_routine") es = some none
  lk : ∃ q, (lnk, listOf (lks.map Value.ref).toArray q) ∈ news
  ls : ∀ j a, lks[j]? = some a → ∃ ws q, (a, listOf ws.toArray q) ∈ news ∧ IntsAre ws (nss.getD j [])
  tt : ∃ q, (tch, listOf (bs.map Value.bool ++ List.replicate (n - i) (Value.bool false)).toArray q) ∈ news
  rt : ∃ rs q, (r, listOf rs.toArray q) ∈ news ∧ All2 (RoutL dat) rs sts
  dt : ∀ p ∈ dat, p ∈ news ∧ ∀ a ∈ ce :: tch :: lnk :: r :: x :: dx :: lks, @Ne Nat p.1 a
  sm : ∀ st ∈ sts, st.Small
  cl : ∀ (j : Nat) (st : St), sts[j]? = some st → ∀ k, st.all Ex.calls k ↔ k ∈ nss.getD j []
  to : ∀ (j : Nat) (st : St), sts[j]? = some st → (st.touch ↔ bs[j]? = some true)
  rg : ∀ ks ∈ nss, ks.length ≤ 1 ∧ ∀ k ∈ ks, 0 ≤ k ∧ k < (n : Int)
section
variable {news news' : List (Addr × Obj)} {ce tch lnk r x dx : Addr} {lks : List Addr} {es : List DictEntry} {nss : List (List Int)} {sts : List St} {bs : List Bool} {dat : List (Addr × Obj)} {n i : Nat}
theorem Rig.mono (R : Rig news ce tch lnk r x dx lks es nss sts bs dat n i) (k : ∀ p ∈ news, (p.1 ∈ ce :: tch :: lnk :: r :: x :: dx :: lks ∨ p ∈ dat) → p ∈ news') : Rig news' ce tch lnk r x dx lks es nss sts bs dat n i where
  nd := R.nd
  len := R.len
  l1 := R.l1
  l2 := R.l2
  l3 := R.l3
  d1 := k _ R.d1 (.inl (by simp))
  d2 := let ⟨q, h⟩ := R.d2; ⟨q, k _ h (.inl (by simp))⟩
  g3 := R.g3
  g4 := R.g4
  g6 := R.g6
  lk := let ⟨q, h⟩ := R.lk; ⟨q, k _ h (.inl (by simp))⟩
  ls := fun j a e => let ⟨ws, q, h, hi⟩ := R.ls j a e; ⟨ws, q, k _ h (.inl (by simp [List.mem_of_getElem? e])), hi⟩
  tt := let ⟨q, h⟩ := R.tt; ⟨q, k _ h (.inl (by simp))⟩
  rt := let ⟨rs, q, h, ha⟩ := R.rt; ⟨rs, q, k _ h (.inl (by simp)), ha⟩
  dt := fun p hp => ⟨k _ (R.dt p hp).1 (.inr hp), (R.dt p hp).2⟩
  sm := R.sm
  cl := R.cl
  to := R.to
  rg := R.rg
theorem Rig.des (R : Rig news ce tch lnk r x dx lks es nss sts bs dat n i) : DesL news (.ref x) sts :=
  let ⟨_, h⟩ := R.d2; let ⟨_, _, hr, ha⟩ := R.rt
  .mk R.d1 h R.g3 R.g4 hr (ha.mono fun _ _ q => q.mono fun p hp => (R.dt p hp).1)
theorem getD_snoc {α : Type} {l : List α} {a d : α} {j : Nat} : (l ++ [a]).getD j d = if j = l.length then a else l.getD j d := by
  simp only [List.getD_eq_getElem?_getD]
  by_cases h : j < l.length
  · rw [List.getElem?_append_left h, if_neg (by omega)]
  · by_cases h' : j = l.length
    · subst h'; simp
    · rw [if_neg h', List.getElem?_append_right (by omega), List.getElem?_eq_none (by simp; omega), List.getElem?_eq_none (by omega)]
theorem snoc_get {α : Type} {l : List α} {a b : α} {j : Nat} (h : (l ++ [a])[j]? = some b) : (j = l.length ∧ b = a) ∨ (j < l.length ∧ l[j]? = some b) := by
  by_cases h' : j < l.length
  · rw [List.getElem?_append_left h'] at h; exact .inr ⟨h', h⟩
  · rw [List.getElem?_append_right (by omega)] at h
    have : j - l.length = 0 := by
      cases e : j - l.length with
      | zero => rfl
      | succ k => rw [e] at h; simp at h
    rw [this] at h; simp at h
    exact .inl ⟨by omega, h.symm⟩
/-- one more routine -/
theorem Rig.step {lki y : Addr} {st : St} {ks : List Int} {b : Bool} {ws rs : List Value} {q q' qt : Nat} {tv' : List Value} {new : List (Addr × Obj)} (R : Rig news ce tch lnk r x dx lks es nss sts bs dat n i) (hi : i < n) (hlk : lks[i]? = some lki)
    (keep : ∀ p ∈ news, (p.1 ∈ ce :: tch :: lnk :: r :: x :: dx :: lks ∨ p ∈ dat) → @Ne Nat p.1 tch → @Ne Nat p.1 r → @Ne Nat p.1 lki → p ∈ news')
    (ht : (tch, listOf tv'.toArray qt) ∈ news') (hb : tv' = bs.map Value.bool ++ Value.bool b :: List.replicate (n - (i + 1)) (Value.bool false))
    (hr : (r, listOf (rs ++ [Value.ref y]).toArray q) ∈ news') (hrs : All2 (RoutL dat) rs sts) (hl : (lki, listOf ws.toArray q') ∈ news') (hw : IntsAre ws ks)
    (hn : ∀ p ∈ new, p ∈ news' ∧ ∀ a ∈ ce :: tch :: lnk :: r :: x :: dx :: lks, @Ne Nat p.1 a) (hR : RoutL new (.ref y) st)
    (sm : st.Small) (cl : ∀ k, st.all Ex.calls k ↔ k ∈ ks) (to : st.touch ↔ b = true) (rg : ks.length ≤ 1 ∧ ∀ k ∈ ks, 0 ≤ k ∧ k < (n : Int)) :
    Rig news' ce tch lnk r x dx lks es (nss ++ [ks]) (sts ++ [st]) (bs ++ [b]) (new ++ dat) n (i + 1) := by
  have nd := R.nd
  have hm := List.mem_of_getElem? hlk
  have nd2 := nd
  simp only [List.nodup_cons, List.mem_cons, not_or] at nd2
  obtain ⟨⟨c1, c2, c3, c4, c5, c6⟩, ⟨t2, t3, t4, t5, t6⟩, ⟨k3, k4, k5, k6⟩, ⟨r4, r5, r6⟩, ⟨x5, x6⟩, e6, ndl⟩ := nd2
  have ne : ∀ {a : Nat}, a ∉ lks → a ≠ lki := fun h e => h (e ▸ hm)
  exact {
    nd := nd
    len := R.len
    l1 := by simp [R.l1]
    l2 := by simp [R.l2]
    l3 := by simp [R.l3]
    d1 := keep _ R.d1 (.inl (by simp)) (Ne.symm t4) (Ne.symm r4) (ne x6)
    d2 := let ⟨q, h⟩ := R.d2; ⟨q, keep _ h (.inl (by simp)) (Ne.symm t5) (Ne.symm r5) (ne e6)⟩
    g3 := R.g3
    g4 := R.g4
    g6 := R.g6
    lk := let ⟨q, h⟩ := R.lk; ⟨q, keep _ h (.inl (by simp)) (Ne.symm t2) k3 (ne k6)⟩
    ls := fun j a e => by
      by_cases hj : j = i
      · subst hj
        rw [hlk] at e; cases e
        exact ⟨ws, q', hl, by rw [getD_snoc, if_pos R.l1.symm]; exact hw⟩
      · obtain ⟨ws', q2, h, hi'⟩ := R.ls j a e
        have hja : @Ne Nat a lki := fun e' => by
          subst e'
          have h1 := (List.getElem?_eq_some_iff.mp e)
          have h2 := (List.getElem?_eq_some_iff.mp hlk)
          obtain ⟨h1a, h1b⟩ := h1
          obtain ⟨h2a, h2b⟩ := h2
          exact hj ((List.getElem_inj ndl).mp (h1b.trans h2b.symm))
        have hml := List.mem_of_getElem? e
        refine ⟨ws', q2, keep _ h (.inl (by simp [hml])) (fun e' => t6 (e' ▸ hml)) (fun e' => r6 (e' ▸ hml)) hja, ?_⟩
        rw [getD_snoc, if_neg (by rw [R.l1]; exact hj)]; exact hi'
    tt := ⟨qt, by rw [hb] at ht; simpa using ht⟩
    rt := ⟨_, _, hr, (hrs.mono fun _ _ h => h.mono fun p hp => List.mem_append_right _ hp).append (.cons (hR.mono fun p hp => List.mem_append_left _ hp) .nil)⟩
    dt := fun p hp => by
      rcases List.mem_append.mp hp with hp | hp
      · exact hn p hp
      · have h := R.dt p hp
        exact ⟨keep _ h.1 (.inr hp) (h.2 _ (by simp)) (h.2 _ (by simp)) (h.2 _ (by simp [hm])), h.2⟩
    sm := fun st' h => by
      rcases List.mem_append.mp h with h | h
      · exact R.sm _ h
      · rw [List.mem_singleton.mp h]; exact sm
    cl := fun j st' h => by
      rcases snoc_get h with ⟨rfl, rfl⟩ | ⟨hj, h⟩
      · rw [getD_snoc, if_pos (by rw [R.l1, R.l2])]; exact cl
      · rw [getD_snoc, if_neg (by have := R.l1; have := R.l2; omega)]; exact R.cl j st' h
    to := fun j st' h => by
      rcases snoc_get h with ⟨rfl, rfl⟩ | ⟨hj, h⟩
      · have e : bs.length = sts.length := by rw [R.l2, R.l3]
        rw [to, ← e]; simp
      · rw [R.to j st' h, List.getElem?_append_left (by have := R.l2; have := R.l3; omega)]
    rg := fun ks' h => by
      rcases List.mem_append.mp h with h | h
      · exact R.rg _ h
      · rw [List.mem_singleton.mp h]; exact rg }
end
section
variable {g h' : Heap} {L : Addr} {news mods mods' tl : List (Addr × Obj)}
/-- the ledger behind a call, its old part as one list -/
theorem after_call (N : News g L h' (tl ++ (mods' ++ news.filter fun q => decide (q.1 ∉ mods.map (·.1))))) (ha : mods'.map (·.1) = mods.map (·.1)) (hm : ∀ p ∈ mods, p ∈ news) (ho : ∀ q ∈ news, ∀ p ∈ tl, @Ne Nat q.1 p.1) :
    ∃ D, News g L h' (tl ++ D) ∧ (∀ q ∈ tl, ∀ p ∈ D, @Ne Nat p.1 q.1) ∧ (∀ p ∈ news, p.1 ∉ mods.map (·.1) → p ∈ D) ∧ ∀ p ∈ mods', p ∈ D := by
  refine ⟨_, N, fun q hq p hp => ?_, fun p hp hn => List.mem_append_right _ (List.mem_filter.mpr ⟨hp, decide_eq_true hn⟩), fun p hp => List.mem_append_left _ hp⟩
  rcases List.mem_append.mp hp with hp | hp
  · have : p.1 ∈ mods.map (·.1) := ha ▸ List.mem_map_of_mem hp
    obtain ⟨z, hz, e⟩ := List.mem_map.mp this
    rw [← e]; exact ho z (hm z hz) q hq
  · exact ho p (List.mem_filter.mp hp).1 q hq
end
theorem news_front2 {g h : Heap} {L a b : Addr} {o o' : Obj} {news : List (Addr × Obj)} (N : News g L h news) (h1 : (a, o) ∈ news) (h2 : (b, o') ∈ news) :
    ∃ D, News g L h ((a, o) :: (b, o') :: D) ∧ (∀ p ∈ D, @Ne Nat p.1 a) ∧ (∀ p ∈ D, @Ne Nat p.1 b) ∧ ∀ p ∈ news, @Ne Nat p.1 a → @Ne Nat p.1 b → p ∈ D := by
  refine ⟨news.filter fun p => decide (p.1 ≠ a ∧ p.1 ≠ b), News.sub N fun p hp => ?_, fun p hp => (of_decide_eq_true (List.mem_filter.mp hp).2).1, fun p hp => (of_decide_eq_true (List.mem_filter.mp hp).2).2, fun p hp k1 k2 => List.mem_filter.mpr ⟨hp, decide_eq_true ⟨k1, k2⟩⟩⟩
  rcases List.mem_cons.mp hp with rfl | hp
  · exact h1
  · rcases List.mem_cons.mp hp with rfl | hp
    · exact h2
    · exact (List.mem_filter.mp hp).1
theorem Rig.has {news : List (Addr × Obj)} {ce tch lnk r x dx : Addr} {lks : List Addr} {es : List DictEntry} {nss : List (List Int)} {sts : List St} {bs : List Bool} {dat : List (Addr × Obj)} {n i : Nat} {wc : Obj} (R : Rig news ce tch lnk r x dx lks es nss sts bs dat n i) (hc : (ce, wc) ∈ news) :
    ∀ a ∈ ce :: tch :: lnk :: r :: x :: dx :: lks, ∃ o, (a, o) ∈ news := by
  intro a ha
  simp only [List.mem_cons] at ha
  rcases ha with rfl | rfl | rfl | rfl | rfl | rfl | ha
  · exact ⟨_, hc⟩
  · exact ⟨_, R.tt.choose_spec⟩
  · exact ⟨_, R.lk.choose_spec⟩
  · obtain ⟨rs, q, h, _⟩ := R.rt; exact ⟨_, h⟩
  · exact ⟨_, R.d1⟩
  · exact ⟨_, R.d2.choose_spec⟩
  · obtain ⟨j, hj, e⟩ := List.mem_iff_getElem.mp ha
    obtain ⟨ws, q, h, _⟩ := R.ls j a (by rw [List.getElem?_eq_getElem hj, e])
    exact ⟨_, h⟩
theorem as_list {g h : Heap} {L : Addr} {news : List (Addr × Obj)} {P : Prop} (N : News g L h news) (k : ∀ ND, ND = news → News g L h ND → P) : P := k _ rfl N
theorem mem3 {α : Type} {a b c : α} {l ND : List α} (e : ND = a :: b :: c :: l) : a ∈ ND ∧ b ∈ ND ∧ c ∈ ND ∧ ∀ p ∈ l, p ∈ ND := by
  subst e
  exact ⟨.head _, .tail _ (.head _), .tail _ (.tail _ (.head _)), fun p hp => .tail _ (.tail _ (.tail _ hp))⟩
theorem mem2 {α : Type} {a b : α} {l ND : List α} (e : ND = a :: b :: l) : a ∈ ND ∧ b ∈ ND ∧ ∀ p ∈ l, p ∈ ND := by
  subst e
  exact ⟨.head _, .tail _ (.head _), fun p hp => .tail _ (.tail _ hp)⟩
theorem rout_new {tl : List (Addr × Obj)} {y dy b : Addr} {es : List DictEntry} {k : Nat} {st : St} (g1 : getL (Str.ofString "made") es = some (some (.bool true))) (g2 : getL (Str.ofString "body") es = some (some (.ref b))) (hst : StL tl (.ref b) st)
    {P : Addr × Obj → Prop} (p1 : P (y, instObj 195 dy)) (p2 : P (dy, dictOf es k)) (p3 : ∀ p ∈ tl, P p) : ∃ new, RoutL new (.ref y) st ∧ ∀ p ∈ new, P p := by
  refine ⟨(y, instObj 195 dy) :: (dy, dictOf es k) :: tl, .mk (.head _) (.tail _ (.head _)) g1 g2 (hst.mono fun p hp => .tail _ (.tail _ hp)), fun p hp => ?_⟩
  rcases List.mem_cons.mp hp with rfl | hp
  · exact p1
  · rcases List.mem_cons.mp hp with rfl | hp
    · exact p2
    · exact p3 p hp
theorem not_one {a b : Addr} {o : Obj} (h : @Ne Nat a b) : a ∉ [(b, o)].map (·.1) := by simpa using h
theorem not_two {a b c : Addr} {o o' : Obj} (h : @Ne Nat a b) (k : @Ne Nat a c) : a ∉ [(b, o), (c, o')].map (·.1) := by
  intro hm; simp at hm; rcases hm with e | e
  · exact h e
  · exact k e
theorem not_three {a b c d : Addr} {o o' o'' : Obj} (h : @Ne Nat a b) (k : @Ne Nat a c) (l : @Ne Nat a d) : a ∉ [(b, o), (c, o'), (d, o'')].map (·.1) := by
  intro hm; simp at hm; rcases hm with e | e | e
  · exact h e
  · exact k e
  · exact l e
theorem set_turn {bs : List Bool} {n i : Nat} (hb : bs.length = i) (hi : i < n) : (bs.map Value.bool ++ List.replicate (n - i) (Value.bool false)).set i (.bool true) = bs.map Value.bool ++ Value.bool true :: List.replicate (n - (i + 1)) (Value.bool false) := by
  obtain ⟨k, hk⟩ : ∃ k, n - i = k + 1 := ⟨n - i - 1, by omega⟩
  rw [hk, show n - (i + 1) = k by omega, List.replicate_succ, List.set_append_right _ _ (by simp; omega)]
  simp [hb]
theorem not_turn {bs : List Bool} {n i : Nat} (hi : i < n) : bs.map Value.bool ++ List.replicate (n - i) (Value.bool false) = bs.map Value.bool ++ Value.bool false :: List.replicate (n - (i + 1)) (Value.bool false) := by
  obtain ⟨k, hk⟩ : ∃ k, n - i = k + 1 := ⟨n - i - 1, by omega⟩
  rw [hk, show n - (i + 1) = k by omega, List.replicate_succ]
end Mine
namespace Mine
def lawD : List Stmt × Scope := match PySem.Challenge.pw_on0119_01.main.body.getLast? with
  | some (.FunctionDef _ _ b _ _ _ s _ _ _) => (b, s)
  | _ => ([], default)
def lawB : List Stmt := lawD.1
def lawS : Scope := lawD.2
abbrev lawE (L fa : Addr) (cd : Value) : Env := envOfC (Str.ofString "law") lawS L fa cd
end Mine
namespace Mine
theorem in_app {α : Type} {a p : α} {l k : List α} (h : p ∈ k) : p ∈ a :: (l ++ k) := .tail _ (List.mem_append_right _ h)
theorem rig0 {w : World} {old news : List (Addr × Obj)} {x dx sg bp r tray ce tch lnk : Addr} {es : List DictEntry} {k n8 n9 ql qt n : Nat} {ob tob wc : Obj} {lks : List Addr} (H : DesAt w old x dx sg bp r tray ce es k n8 n9 ob tob) (hce : (ce, wc) ∈ old)
    (hlen : lks.length = n) (hasc : lks.Pairwise (@LT.lt Nat _)) (hlt : ∀ p ∈ old, ∀ a ∈ lks, @LT.lt Nat _ p.1 a) (hlk : (lnk, listOf (lks.map Value.ref).toArray ql) ∈ news) (hol : ∀ p ∈ old, @Ne Nat p.1 lnk) (hll : ∀ a ∈ lks, @Ne Nat a lnk)
    (hto : ∀ p ∈ old, @LT.lt Nat _ p.1 tch) (htk : @LT.lt Nat _ lnk tch) (htl : ∀ a ∈ lks, @LT.lt Nat _ a tch) (htt : (tch, listOf (List.replicate n (Value.bool false)).toArray qt) ∈ news) (hls : ∀ a ∈ lks, (a, listOf #[] 0) ∈ news) (sub : ∀ p ∈ old, @Ne Nat p.1 ce → p ∈ news) :
    Rig news ce tch lnk r x dx lks es [] [] [] [] n 0 ∧ (∀ a ∈ ce :: tch :: lnk :: r :: x :: dx :: lks, @Ne Nat tray a) ∧ (∀ a ∈ tray :: ce :: tch :: lnk :: r :: x :: dx :: lks, @Ne Nat a sg) ∧ (∀ a ∈ tray :: ce :: tch :: lnk :: r :: x :: dx :: lks, @Ne Nat a bp) := by
  have nl : ∀ {a : Addr} {o : Obj}, (a, o) ∈ old → ∀ b ∈ lks, @Ne Nat a b := fun h b hb => Nat.ne_of_lt (hlt _ h b hb)
  have nt : ∀ {a : Addr} {o : Obj}, (a, o) ∈ old → @Ne Nat a tch := fun h => Nat.ne_of_lt (hto _ h)
  have nn : ∀ {a : Addr} {o : Obj}, (a, o) ∈ old → @Ne Nat a lnk := fun h => hol _ h
  have mem : ∀ {a : Nat}, (∀ b ∈ lks, @Ne Nat a b) → a ∉ lks := fun h hm => h _ hm rfl
  refine ⟨⟨?_, hlen, rfl, rfl, rfl, sub _ H.h1 H.c1, ⟨_, sub _ H.h2 H.c2⟩, H.g3, H.g4, H.g6, ⟨_, hlk⟩, fun j a e => ⟨[], 0, hls a (List.mem_of_getElem? e), .nil⟩, ⟨qt, htt⟩, ⟨[], n9, sub _ H.h5 H.c5, .nil⟩, fun _ h => (nomatch h), fun _ h => (nomatch h), fun _ _ h => by simp at h, fun _ _ h => by simp at h, fun _ h => (nomatch h)⟩, ?_, ?_, ?_⟩
  · simp only [List.nodup_cons, List.mem_cons, not_or]
    exact ⟨⟨nt hce, nn hce, Ne.symm H.c5, Ne.symm H.c1, Ne.symm H.c2, mem (nl hce)⟩, ⟨Ne.symm (Nat.ne_of_lt htk), Ne.symm (nt H.h5), Ne.symm (nt H.h1), Ne.symm (nt H.h2), mem fun b hb => Ne.symm (Nat.ne_of_lt (htl b hb))⟩, ⟨Ne.symm (nn H.h5), Ne.symm (nn H.h1), Ne.symm (nn H.h2), mem fun b hb => Ne.symm (hll b hb)⟩,
      ⟨H.c8, H.c9, mem (nl H.h5)⟩, ⟨H.c10, mem (nl H.h1)⟩, mem (nl H.h2), hasc.imp fun h => Nat.ne_of_lt h⟩
  · simp only [List.forall_mem_cons]
    exact ⟨H.c6, nt H.h6, nn H.h6, H.c7, H.c11, H.c12, nl H.h6⟩
  · simp only [List.forall_mem_cons]
    exact ⟨H.ne4, Ne.symm H.c3, Ne.symm (nt H.h3), Ne.symm (nn H.h3), H.ne2, H.ne6, H.ne8, fun b hb => Ne.symm (nl H.h3 b hb)⟩
  · simp only [List.forall_mem_cons]
    exact ⟨H.ne5, Ne.symm H.c4, Ne.symm (nt H.h4), Ne.symm (nn H.h4), H.ne3, H.ne7, H.ne9, fun b hb => Ne.symm (nl H.h4 b hb)⟩
end Mine
namespace Mine
/-- closed under the links -/
def Closed (nss : List (List Int)) (cl : List Int) : Prop := ∀ k ∈ cl, ∀ j ∈ nss.getD k.toNat [], j ∈ cl
/-- how many numbers below n it holds -/
def cnt (n : Nat) (cl : List Int) : Nat := ((List.range n).filter fun i : Nat => decide ((i : Int) ∈ cl)).length
theorem cnt_le (n : Nat) (cl : List Int) : cnt n cl ≤ n := by
  unfold cnt
  have := List.length_filter_le (fun i : Nat => decide ((i : Int) ∈ cl)) (List.range n)
  simpa using this
theorem cnt_mono {cl cl' : List Int} (h : ∀ k ∈ cl, k ∈ cl') : ∀ n : Nat, cnt n cl ≤ cnt n cl'
  | 0 => by simp [cnt]
  | n + 1 => by
    have ih := cnt_mono h n
    unfold cnt at ih ⊢
    rw [List.range_succ, List.filter_append, List.filter_append, List.length_append, List.length_append]
    by_cases h1 : (n : Int) ∈ cl
    · simp [h1, h _ h1, ih]
    · simp only [List.filter_cons, h1, decide_false, List.filter_nil]
      simp; omega
theorem cnt_lt {cl cl' : List Int} (h : ∀ k ∈ cl, k ∈ cl') : ∀ (n : Nat) {k : Int}, 0 ≤ k → k < (n : Int) → k ∈ cl' → k ∉ cl → cnt n cl < cnt n cl'
  | 0, k, h0, h1, _, _ => by omega
  | n + 1, k, h0, h1, h2, h3 => by
    by_cases hk : k = (n : Int)
    · subst hk
      have ih := cnt_mono h n
      unfold cnt at ih ⊢
      rw [List.range_succ, List.filter_append, List.filter_append, List.length_append, List.length_append]
      simp [h2, h3]; omega
    · have ih := cnt_lt h n h0 (by omega) h2 h3
      unfold cnt at ih ⊢
      rw [List.range_succ, List.filter_append, List.filter_append, List.length_append, List.length_append]
      by_cases h4 : (n : Int) ∈ cl
      · simp [h4, h _ h4]; omega
      · simp only [List.filter_cons, h4, decide_false, List.filter_nil]
        simp; omega
theorem cnt_pos {cl : List Int} {n : Nat} {k : Int} (h0 : 0 ≤ k) (h1 : k < (n : Int)) (h2 : k ∈ cl) : 1 ≤ cnt n cl :=
  Nat.succ_le_of_lt (Nat.lt_of_le_of_lt (Nat.zero_le _) (cnt_lt (cl := []) (by simp) n h0 h1 h2 (by simp)))
/-- what a lap brings -/
theorem lap_step {nss : List (List Int)} {n j : Nat} {cl cl' : List Int} (h1 : ∀ k ∈ cl, k ∈ cl') (h2 : ∀ k ∈ cl, ∀ i ∈ nss.getD k.toNat [], i ∈ cl') (h3 : Closed nss cl → ∀ k ∈ cl', k ∈ cl) (hr : ∀ k ∈ cl', 0 ≤ k ∧ k < (n : Int))
    (h : Closed nss cl ∨ j + 1 ≤ cnt n cl) : Closed nss cl' ∨ j + 1 + 1 ≤ cnt n cl' := by
  by_cases hs : ∀ k ∈ cl', k ∈ cl
  · exact .inl fun k hk i hi => h2 k (hs k hk) i hi
  · rcases h with h | h
    · exact absurd (h3 h) hs
    · obtain ⟨k, hk⟩ := Classical.not_forall.mp hs
      obtain ⟨hk1, hk2⟩ := Classical.not_imp.mp hk
      have := cnt_lt h1 n (hr k hk1).1 (hr k hk1).2 hk1 hk2
      exact .inr (by omega)
theorem lap_done {nss : List (List Int)} {n : Nat} {cl : List Int} (h : Closed nss cl ∨ n + 1 ≤ cnt n cl) : Closed nss cl := by
  rcases h with h | h
  · exact h
  · have := cnt_le n cl; omega
theorem lap_start {nss : List (List Int)} {n : Nat} {cl : List Int} (hr : ∀ k ∈ cl, 0 ≤ k ∧ k < (n : Int)) : Closed nss cl ∨ 0 + 1 ≤ cnt n cl := by
  cases cl with
  | nil => exact .inl fun k hk => nomatch hk
  | cons k r => exact .inr (cnt_pos (hr k (by simp)).1 (hr k (by simp)).2 (by simp))
section
variable {prog : Program} {w : World} {A : Around} {E : Value → Shared → Prop} {s : Shared} {g : Heap} {L : Addr} {news : List (Addr × Obj)} {c : Nat}
theorem notin_ {l : Addr} {vs : List Value} {ns : List Int} {k : Int} {t : Tok} {Q : Value → Shared → Prop} (N : News g L s.heap news) (hm : (l, listOf vs.toArray c) ∈ news) (hi : IntsAre vs ns)
    (h1 : k ∉ ns → Q (.bool true) s) (h2 : k ∈ ns → Q (.bool false) s) : wpAny (model prog w) A (compareOp .NotIn (.int k t) (.ref l)) Q E s := by
  refine notin_list_ints ⟨_, (N _ hm).1, rfl, c, rfl⟩ hi ?_
  by_cases h : k ∈ ns
  · have : ns.any (· == k) = true := List.any_eq_true.mpr ⟨k, h, by simp⟩
    rw [this]; exact h2 h
  · have : ns.any (· == k) = false := by
      rw [Bool.eq_false_iff]
      intro h'
      obtain ⟨z, hz, e⟩ := List.any_eq_true.mp h'
      exact h (eq_of_beq e ▸ hz)
    rw [this]; exact h1 h
theorem item_news {value slice : Expr} {vs : List Value} {k : Int} {u : Tok} {v : Value} {Q : Value → Shared → Prop} {l : Addr} (N : News g L s.heap news) (hm : (l, listOf vs.toArray c) ∈ news) (h0 : 0 ≤ k) (hhi : k < 1000) (hx : vs[k.toNat]? = some v) (h : Q v s)
    (hs : subscripted slice false (.ref l) (.int k u) = operate [.ref l, .int k u] (getItem (.ref l) (.int k u)) := by with_unfolding_all rfl) :
    wpAny (model prog w) A (subscriptTail value slice (.ref l) (.int k u)) Q E s :=
  have hL : s.heap.IsList l vs.toArray := ⟨_, (N _ hm).1, rfl, c, rfl⟩
  tail_any hL.typeIs slot_list_getitem.lookup (wpAny_getItem_list hL h0 (by omega) (by simpa using hx) h) hs
end
theorem Reach.num {news : List (Addr × Obj)} {ce tch lnk r x dx : Addr} {lks : List Addr} {es : List DictEntry} {nss : List (List Int)} {sts : List St} {bs : List Bool} {dat : List (Addr × Obj)} {n : Nat} {e : Ex} (R : Rig news ce tch lnk r x dx lks es nss sts bs dat n n)
    (hr : ∀ k, Ex.call k ∈ e.subs → 0 ≤ k ∧ k < (n : Int)) : ∀ k, Reach sts e k → 0 ≤ k ∧ k < (n : Int) := by
  intro k h
  cases h with
  | base h => exact hr k h
  | step _ hs ha =>
    have h1 := (R.cl _ _ hs _).mp ha
    rw [List.getD_eq_getElem?_getD] at h1
    cases h2 : nss[(_ : Int).toNat]? with
    | none => rw [h2] at h1; simp at h1
    | some ks =>
      rw [h2] at h1
      exact (R.rg ks (List.mem_of_getElem? h2)).2 _ h1
theorem Reach.next {news : List (Addr × Obj)} {ce tch lnk r x dx : Addr} {lks : List Addr} {es : List DictEntry} {nss : List (List Int)} {sts : List St} {bs : List Bool} {dat : List (Addr × Obj)} {n : Nat} {e : Ex} (R : Rig news ce tch lnk r x dx lks es nss sts bs dat n n)
    (hr : ∀ k, Ex.call k ∈ e.subs → 0 ≤ k ∧ k < (n : Int)) {k j : Int} (h : Reach sts e k) (hj : j ∈ nss.getD k.toNat []) : Reach sts e j := by
  have h1 := Reach.num R hr k h
  have h2 : k.toNat < sts.length := by rw [R.l2]; omega
  exact .step h (List.getElem?_eq_getElem h2) ((R.cl _ _ (List.getElem?_eq_getElem h2) _).mpr hj)
theorem reach_closed {news : List (Addr × Obj)} {ce tch lnk r x dx : Addr} {lks : List Addr} {es : List DictEntry} {nss : List (List Int)} {sts : List St} {bs : List Bool} {dat : List (Addr × Obj)} {n : Nat} {e : Ex} {cl : List Int} (R : Rig news ce tch lnk r x dx lks es nss sts bs dat n n)
    (h0 : ∀ k, Ex.call k ∈ e.subs → k ∈ cl) (h1 : Closed nss cl) : ∀ k, Reach sts e k → k ∈ cl := by
  intro k h
  induction h with
  | base h => exact h0 _ h
  | step _ hs ha ih => exact h1 _ ih _ ((R.cl _ _ hs _).mp ha)
theorem take_step {α : Type} {l : List α} {z : Nat} {a : α} (ha : l[z]? = some a) {P : α → Prop} (h : ∀ x ∈ l.take z, P x) (h' : P a) : ∀ x ∈ l.take (z + 1), P x := by
  intro x hx
  rw [List.take_add_one, ha] at hx
  rcases List.mem_append.mp hx with hx | hx
  · exact h x hx
  · simp at hx; exact hx ▸ h'
theorem loc5 {m : Str → Option Value} {a b c d e : Str} {v w z u y' : Value} (h : m a = some v) (k : m b = some w) (l : m c = some z) (o : m d = some u) (p : m e = some y') :
    m = fun y => if y = a then some v else if y = b then some w else if y = c then some z else if y = d then some u else if y = e then some y' else m y :=
  (told_eq (l := [(a, v), (b, w), (c, z), (d, u), (e, y')]) fun q hq => by simp only [List.mem_cons, List.not_mem_nil, or_false] at hq; rcases hq with rfl | rfl | rfl | rfl | rfl <;> assumption).symm
theorem loc6 {m : Str → Option Value} {a b c d e f : Str} {v w z u y' x' : Value} (h : m a = some v) (k : m b = some w) (l : m c = some z) (o : m d = some u) (p : m e = some y') (q : m f = some x') :
    m = fun y => if y = a then some v else if y = b then some w else if y = c then some z else if y = d then some u else if y = e then some y' else if y = f then some x' else m y :=
  (told_eq (l := [(a, v), (b, w), (c, z), (d, u), (e, y'), (f, x')]) fun q hq => by simp only [List.mem_cons, List.not_mem_nil, or_false] at hq; rcases hq with rfl | rfl | rfl | rfl | rfl | rfl <;> assumption).symm
end Mine
namespace Mine
section
variable {prog : Program} {w : World} {A : Around} {E : Value → Shared → Prop} {s : Shared} {g : Heap} {L : Addr} {m : Str → Option Value} {env : Env} {news : List (Addr × Obj)} {c c2 : Nat}
theorem rest_ind {elt : Expr} {x : Str} {scope : Scope} {cl : List (Str × Addr)} {S : List (Addr × Obj) → Prop} {P : Nat → Value → Prop} {Fin : List Value → List (Addr × Obj) → Prop} (J : Nat → List Value → List (Addr × Obj) → Prop) {n : Nat}
    (step : ∀ i ys nx v I oI C oC D m₂ h tk (E' : Value → Shared → Prop), i < n → J i ys nx → P i v → LCg.NsObj oC m₂ → m₂ x = some v → Fr g L h m → News g L h ((I, oI) :: (C, oC) :: (D, LCg.lst ys) :: nx) → LCg.Off3 I C D nx → ((@Ne Nat I C) ∧ (@Ne Nat I D) ∧ (@Ne Nat C D)) →
      wpAny (model prog w) A (eval elt (compEnvC scope cl C env)) (LCg.CompEnd g L m { s with heap := h, toks := tk } I oI C oC D (LCg.lst ys) S (fun y nx' => J (i + 1) (ys ++ [y]) nx')) E' { s with heap := h, toks := tk })
    (done : ∀ ys nx, J n ys nx → Fin ys nx) : ∀ (k i : Nat) (ys : List Value) (nx : List (Addr × Obj)), i + k = n → J i ys nx → LCg.CompRest prog w A g L m env elt x scope cl s S P Fin k i ys nx
  | 0, i, ys, nx, hk, hj => .zero (done _ _ (by rw [← hk]; exact hj))
  | k + 1, i, ys, nx, hk, hj => .succ fun v I oI C oC D m₂ h tk E' hP hC hx F N off ne =>
    wpAny_mono (step i ys nx v I oI C oC D m₂ h tk E' (by omega) hj hP hC hx F N off ne) (fun y s₂ ⟨h', tk', nx', e, F', N', o', hS, hJ⟩ => ⟨h', tk', nx', e, F', N', o', hS, rest_ind J step done k (i + 1) _ _ (by omega) hJ⟩) fun _ _ e => e
theorem eq_nil {a b : Addr} {vs : List Value} {Q : Value → Shared → Prop} (N : News g L s.heap news) (ha : (a, listOf vs.toArray c) ∈ news) (hb : (b, listOf #[] c2) ∈ news) (hu : A.units < cLine) (h1 : vs = [] → Q (.bool true) s) (h2 : vs ≠ [] → Q (.bool false) s) :
    wpAny (model prog w) A (compareOp .Eq (.ref a) (.ref b)) Q E s := by
  have la : s.heap.IsList a vs.toArray := ⟨_, (N _ ha).1, rfl, c, rfl⟩
  have lb : s.heap.IsList b #[] := ⟨_, (N _ hb).1, rfl, c2, rfl⟩
  by_cases h : vs = []
  · subst h
    exact SeqAt.eq_listAt (e := fun _ => true) la lb rfl hu (fun j h1 _ => absurd h1 (by simp)) (h1 rfl)
  · refine SeqAt.eq_list_lengthsAt la lb ?_ hu (h2 h)
    cases vs with
    | nil => exact absurd rfl h
    | cons v r => simp
theorem eqg_bool (a b : Bool) : MeetsSeq.EqGives (.bool a) (.bool b) (a == b) := by
  intro prog w A E s Q h
  unfold eqBool
  show wpAny _ _ (if (Value.bool a == Value.bool b) = true then _ else _) Q E s
  by_cases hab : (Value.bool a == Value.bool b) = true
  · rw [if_pos hab]
    have e : a = b := by have := eq_of_beq hab; injection this
    subst e
    exact wpAny_bind (wpAny_rule (wpAny_pure (by simpa using h)))
  · rw [if_neg hab]
    exact wpAny_bind (eq_bool (wpAny_truthy_bool h))
theorem notin_bools {l : Addr} {bs : List Bool} {Q : Value → Shared → Prop} (N : News g L s.heap news) (hm : (l, listOf (bs.map Value.bool).toArray c) ∈ news) (h : Q (.bool (!decide (true ∈ bs))) s) : wpAny (model prog w) A (compareOp .NotIn (.bool true) (.ref l)) Q E s := by
  refine SeqInW.notIn_listW (fun v => match v with | .bool b => b | _ => false) (fun y hy => ?_) ⟨_, (N _ hm).1, rfl, c, rfl⟩ ?_
  · obtain ⟨b, hb, rfl⟩ := List.mem_map.mp (List.mem_toArray.mp hy)
    have := eqg_bool b true
    simpa using this
  · have : (bs.map Value.bool).toArray.any (fun v => match v with | .bool b => b | _ => false) = decide (true ∈ bs) := by
      rw [← Array.any_toList, Bool.eq_iff_iff]
      simp
    rw [this]; exact h
end
theorem no_loose {sts : List St} {e : Ex} {ls : List Value} {b : Bool} (hloo : ls = [] ↔ ∀ x ∈ e.subs, ¬ x.loose) (h : ls ≠ []) (hb : b = true ↔ Const sts e) : b = false := by
  cases b with
  | false => rfl
  | true => exact absurd (hloo.mpr (hb.mp rfl).1) h
theorem due_is {news : List (Addr × Obj)} {ce tch lnk r x dx : Addr} {lks : List Addr} {es : List DictEntry} {nss : List (List Int)} {sts : List St} {bs : List Bool} {dat : List (Addr × Obj)} {n : Nat} {e : Ex} {ls : List Value} {cl : List Int} {b : Bool} (R : Rig news ce tch lnk r x dx lks es nss sts bs dat n n)
    (hloo : ls = [] ↔ ∀ x ∈ e.subs, ¬ x.loose) (h : ls = []) (hk : ∀ k, k ∈ cl ↔ Reach sts e k) (hr : ∀ k ∈ cl, 0 ≤ k ∧ k < (n : Int)) (hb : b = true ↔ Const sts e) : b = !decide (true ∈ cl.map fun k => bs.getD k.toNat false) := by
  have key : Const sts e ↔ ¬ true ∈ cl.map fun k => bs.getD k.toNat false := by
    constructor
    · rintro ⟨-, c⟩ hm
      obtain ⟨k, hkm, e1⟩ := List.mem_map.mp hm
      have h1 := hr k hkm
      have h2 : k.toNat < sts.length := by rw [R.l2]; omega
      have h3 : k.toNat < bs.length := by rw [R.l3]; omega
      refine c k _ ((hk k).mp hkm) (List.getElem?_eq_getElem h2) ((R.to _ _ (List.getElem?_eq_getElem h2)).mpr ?_)
      rw [List.getD_eq_getElem?_getD, List.getElem?_eq_getElem h3] at e1
      rw [List.getElem?_eq_getElem h3]; simpa using e1
    · intro hm
      refine ⟨hloo.mp h, fun k st hR hs ht => hm (List.mem_map.mpr ⟨k, (hk k).mpr hR, ?_⟩)⟩
      rw [List.getD_eq_getElem?_getD, (R.to _ _ hs).mp ht]; rfl
  rw [Bool.eq_iff_iff, hb, key]
  simp
end Mine
local macro_rules | `(tactic| walk_at "subscriptTail") => `(tactic| (k_here; (with_reducible show wpAny _ _ (subscriptTail _ _ (Value.ref _) (Value.int _ _)) _ _ _); k_extra "SUB"))
local macro_rules | `(tactic| walk_at "compareOp Eq ref ref") => `(tactic| (k_here; k_extra "EQN"))
local macro_rules | `(tactic| walk_at "compareOp NotIn bool ref") => `(tactic| (k_here; k_extra "NIB"))
namespace Mine
theorem law_11 {w : World} {mg mb : Str → Option Value} {mean : ExcName → Option Value} {g h : Heap} {L fa : Addr} {cd : Value} {s : Shared} {tk : Nat} {m : Str → Option Value} {dp un : Nat} {fr : Option (List Env)} {gd : Option (List Code)} {Q : Flow → Shared → Prop}
    {n q q3 : Nat} {x dx r tch lnk cal loo : Addr} {wc : Obj} {lks : List Addr} {es : List DictEntry} {nss : List (List Int)} {sts : List St} {bs : List Bool} {dat D : List (Addr × Obj)} {cs ls : List Value} {cl : List Int} {ev : Value} {e : Ex}
    (X : (kH w.params).In g) (T : Top kV (looseW kV []) mean mg mb g) (F : Fr g L h m) (N : News g L h ((cal, listOf cs.toArray q) :: D)) (hD : ∀ p ∈ D, @Ne Nat p.1 cal)
    (m2 : m (Str.ofString "design") = some (.ref x)) (m5 : m (Str.ofString "called") = some (.ref cal)) (m6 : m (Str.ofString "loose") = some (.ref loo)) (m7 : m (Str.ofString "e") = some ev)
    (hc : (L + 1, wc) ∈ D) (hw : wc.data = .cell (some (.ref tch))) (R : Rig D (L + 1) tch lnk r x dx lks es nss sts bs dat n n) (hn : n ≤ 4)
    (hlo : (loo, listOf ls.toArray q3) ∈ D) (hi : IntsAre cs cl) (hcl : cl.length ≤ 1000) (hll : ls.length ≤ 1000) (he : ExL D ev e) (hsz : e.size ≤ 60) (hk : ∀ k, k ∈ cl ↔ Reach sts e k) (hr : ∀ k ∈ cl, 0 ≤ k ∧ k < (n : Int)) (hloo : ls = [] ↔ ∀ x ∈ e.subs, ¬ x.loose)
    (hdp : dp < 440) (hun : un < 1000) (hQ : ∀ h' tk', (∀ b o, g.get? b = some o → h'.get? b = some o) → Q (.ret (.bool true)) { s with heap := h', toks := tk' }) :
    wpAny (model PySem.Challenge.pw_on0119_01 w) (A0 dp un fr gd) (execs (lawB.drop 11) (lawE L fa cd)) Q (fun _ _ => False) { s with heap := h, toks := tk } := by
  conv in (List.drop _ lawB) => whnf
  unfold lawE
  conv in lawS => whnf
  rw [loc4 m2 m5 m6 m7] at F
  have hlen := hi.length
  k_with_none
  k_with "BACK" => ((try dsimp only [Mine.TurnEnd, PyProof.Rows.WhileStep2]); refine' Mine.back ?B ?_; (case B => assumption); (try dsimp only))
  k_with "ENTER2" => ((case kC => assumption); (case k6 => k_is); (case kb => (conv => lhs; whnf)); (case ks => (conv => lhs; whnf)); (case k7 => k_is); (case k8 => (simp only [recursionLimit]; omega)); (case k9 => exact BindsTo.of_eq rfl); (case c5 => decide); (case kB => exact locs rfl); (case c2 => exact rfl); (case c3 => exact rfl); (case c4 => exact rfl); k_whole; intro _ _ _ _ _ _ _ _ _ _ _ _ _ _ _ _ _; (try dsimp only))
  k_with "subscriptTail" => (k_here; (with_reducible show wpAny _ _ (subscriptTail _ _ (Value.ref _) (Value.int _ _)) _ _ _); k_dflt (refine' item_tupleT (Mine.has_tup ?F ?D ?M) ?a ?b ?c ?d ?_; (case F => k_asm); (case D => assumption); (case M => assumption); (case a => decide); (case b => decide); (case c => first | rfl | exact Mine.seq_zero); (case d => rfl); k_whole))
  k_with "exec While Name cons nil" => k_extra "WHILE"
  k_with "pyIter ref" => ((with_reducible show wpAny _ _ (pyIter (Value.ref _)) (fun it s₂ => LoopAtV _ _ _ _ _ _ _ _ _ it s₂) _ _); k_extra "ITER")
  k_with "call ref" => k_extra "CALL"
  k_with "call type:reversed" => k_extra "REV"
  k_with "call builtin:list.pop" => (k_here; k_dflt (first | ((with_reducible show wpAny _ _ (call (Value.builtin _) [Value.ref _]) _ _ _); refine' Mine.popLast ?F ?N ?U ?z ?_; (case F => k_asm); (case N => k_asm); (case U => k_upd); (case z => (rw [PySem.sizeLine_eq]; first | assumption | omega | exact Nat.le_of_ble_eq_true rfl))) | (refine' Mine.pop0 ?F ?N ?U ?z ?_; (case F => k_asm); (case N => k_asm); (case U => k_upd); (case z => (rw [PySem.sizeLine_eq]; first | assumption | omega | exact Nat.le_of_ble_eq_true rfl)))); intro _ _ _; (try k_sweep))
  k_with "call builtin:list.append" => (k_here; k_extra "APP"; k_dflt (refine' Mine.app_ ?F ?N ?U ?z ?_; (case F => k_asm); (case N => k_asm); (case U => k_upd); (case z => (rw [PySem.sizeLine_eq]; first | assumption | omega | exact Nat.le_of_ble_eq_true rfl))); intro _ _ _; (try k_sweep))
  k_with "USE0" => ((case F => assumption); (case N => assumption); (case C => exact Mine.at0 (by assumption) (by assumption) (by assumption)); (case hd => ((try dsimp only [Mine.A0, Around.deeper, Around.in1]); omega)); (case hu => ((try dsimp only [Mine.A0, Around.deeper, Around.in1]); omega)))
  k_with "setItem ref int" => (k_here; k_dflt (refine' setItem_K PyProof.V.same_int (intKind_is _ _ _ _) ?v ?F ?N ?U ?d ?f ?_ ?z; (case F => k_asm); (case N => k_asm); (case U => k_updF); (case d => assumption); (case f => assumption); (case z => (rw [PySem.sizeLine_eq]; first | omega | exact Nat.le_of_ble_eq_true rfl)); (case v => exact PyProof.V.Flat.bool _)); intro _ _ _ _ _ _; (try k_sweep))
  k_with "call builtin:sorted" => (k_here; k_dflt (refine' Mine.sorted_dict ?hh ?F ?N ?M ?d ?lo ?z ?_; (case hh => exact rfl); (case F => assumption); (case N => assumption); (case M => k_mem); (case d => assumption); (case lo => assumption); (case z => first | omega | exact Nat.le_of_ble_eq_true rfl)); intro _ _ _ _ _ _ _ _ _ _ _ _)
  k_with "exec For" => (k_here; (with_reducible show wpAny _ _ (exec (Stmt.For (Expr.Name _ _) _ _ [] _) _) _ _ _); (with_reducible rename Fr _ _ _ _ => kF); (with_unfolding_all refine' For_invVF kF ?k1 ?k2 ?_; (case k1 => exact rfl); (case k2 => exact rfl); k_whole))
  k_with "call type:list" => (k_here; (with_reducible show wpAny _ _ (call (Value.type _) [Value.ref _]) _ _ _); k_dflt (refine' list_copyKT ?F ?N (Mine.has_tup ?G ?D ?M) ?_ ?z; (case F => k_asm); (case N => k_asm); (case G => k_asm); (case D => assumption); (case M => assumption); (case z => exact Nat.le_of_ble_eq_true rfl)); intro _ _ _ _ _ l1; (try (replace l1 := allLt_of l1; dsimp only [AllLt] at l1; revert l1; intro _)); (try k_sweep))
  k_with "ALLQ" => (simp only [List.forall_mem_cons, List.mem_singleton, forall_eq]; assumption)
  k_with "subscriptTail" => (k_here; (with_reducible show wpAny _ _ (subscriptTail _ _ (Value.ref _) (Value.int _ _)) _ _ _); k_dflt (refine' Mine.item_dat ?F ?D ?M ?a ?b ?x ?_; (case F => k_asm); (case D => assumption); (case M => assumption); (case a => assumption); (case b => omega); (case x => assumption); k_whole))
  k_with "getAttr ref" => (k_here; k_dflt (refine' Mine.attr_dat ?F ?X ?D ?h1 ?h2 ?k4 ?k5 ?k6 ?k7 ?k8 ?k9 ?_; (case F => k_asm); (case X => k_asm); (case D => assumption); (case h1 => assumption); (case h2 => assumption); (case k4 => k_is); (case k5 => k_is); (case k6 => k_is); (case k7 => k_is); (case k8 => assumption); (case k9 => k_handed); k_whole))
  k_with "getMethod ref" => (k_here; k_dflt (refine' Mine.meth_dat ?F ?X ?D ?h1 ?h2 ?k4 ?k5 ?k6 ?k7 ?_; (case F => k_asm); (case X => k_asm); (case D => assumption); (case h1 => assumption); (case h2 => assumption); (case k4 => k_is); (case k5 => k_is); (case k6 => k_is); (case k7 => assumption); k_whole))
  k_with "compareOp NotIn int ref" => (k_here; k_dflt (refine' Mine.notin_dict ?N ?M ?d ?lo ?_; (case N => assumption); (case M => k_mem); (case d => assumption); (case lo => assumption)))
  k_with "call builtin:list.extend" => (k_here; k_extra "EXT"; k_dflt (refine' Mine.ext_ ?F ?N ?b ?U ?z ?_; (case F => k_asm); (case N => k_asm); (case b => k_mem); (case U => (intro c; k_upd)); (case z => omega)); intro _ _ _ _; (try k_sweep))
  k_with "call type:list" => (k_here; k_extra "COPY"; (with_reducible show wpAny _ _ (call (Value.type _) [Value.ref _]) _ _ _); k_dflt (refine' Mine.copy_ ?F ?N ?M ?z ?_; (case F => k_asm); (case N => k_asm); (case M => k_mem); (case z => omega)); intro _ _ _ _ _ l1; (try (replace l1 := allLt_of l1; dsimp only [AllLt] at l1; revert l1; intro _)); (try k_sweep))
  k_with "truthy ref" => (k_here; k_extra "TRU"; (with_reducible show wpAny _ _ (truthy (Value.ref _)) _ _ _); k_dflt (refine' Mine.truthy_ ?N ?M ?z ?_; (case N => k_asm); (case M => k_mem); (case z => first | assumption | omega)); intro _)
  k_with "USE1" => ((case F => assumption); (case N => assumption); (case U => k_updF); (case C => exact Mine.at1 (by assumption) (by assumption) (by assumption) (by assumption) (by k_mem)); (case hd => ((try dsimp only [Mine.A0, Around.deeper, Around.in1]); omega)); (case hu => ((try dsimp only [Mine.A0, Around.deeper, Around.in1]); omega)))
  k_with "setItem ref int" => (k_here; (with_reducible show wpAny _ _ (setItem (Value.ref _) (Value.int _ _) _) _ _ _); k_dflt (refine' Mine.set_ ?F ?N ?a ?b ?c ?U ?_; (case F => k_asm); (case N => k_asm); (case U => k_upd); (case a => omega); (case b => omega); (case c => omega)); intro _ _ _; (try k_sweep))
  k_with "exec Assign cons ListComp" => k_extra "COMP"
  k_with "eval ListComp" => k_extra "COMPE"
  k_with "CompSrc" => k_extra "CSRC"
  k_with "binaryOp Mult ref int" => k_extra "MUL"
  k_with "TAILS" => (intro p hp; repeat (first | exact hp | refine List.Mem.tail _ ?_))
  k_with "getMethod ref" => (k_here; k_dflt (refine' Mine.meth_news ?F ?X ?N ?h1 ?h2 ?S ?k4 ?k5 ?k6 ?k7 ?_; (case F => k_asm); (case X => k_asm); (case N => k_asm); (case h1 => assumption); (case h2 => assumption); (case S => walk_at "TAILS"); (case k4 => k_is); (case k5 => k_is); (case k6 => k_is); (case k7 => assumption); k_whole))
  k_with "GOFF" => (refine Mine.off3 ?_; repeat' (first | exact List.forall_mem_nil _ | assumption | refine List.forall_mem_cons.mpr ⟨⟨by (dsimp only; omega), by (dsimp only; omega), by (dsimp only; omega)⟩, ?_⟩))
  k_with "GCUP" => (unfold Mine.Stop; rintro v' h' tk' o' tl F' N' ho ⟨e1, vs1, n1', ts1, c, u, hm1, hi1, hl4, e2, hc0, hc1⟩; cases hm1; cases e1; cases e2; (try simp only [List.nil_append] at N'); clear ho)
  k_with "eval Constant int" => (k_here; (k_dflt (refine' Mine.const_int ?_)); intro _ _)
  k_with "eval Constant str" => (k_here; (k_dflt (refine' Mine.const_str ?_)); intro _ _)
  k_with "newTuple" => (k_here; k_dflt (refine' kup_newTuple ?F ?N ?_ ?z; (case F => k_asm); (case N => k_asm); (case z => exact Nat.le_of_ble_eq_true rfl)); intro _ _ _ _ l1; (try (replace l1 := allLt_of l1; dsimp only [AllLt] at l1; revert l1; intro _)); (try k_sweep))
  k_with "newList" => (k_here; k_dflt (refine' newList_K ?k1 ?k2 ?_; (case k1 => k_asm); (case k2 => k_asm); k_whole); intro _ _ _ _ l1; (try (replace l1 := allLt_of l1; dsimp only [AllLt] at l1; revert l1; intro _)); (try k_sweep))
  k_with "EQN" => (k_dflt (refine' Mine.eq_nil ?N ?M ?O ?u ?_ ?_; (case N => assumption); (case M => repeat (first | assumption | refine List.Mem.tail _ ?_)); (case O => exact List.Mem.head _); (case u => exact Nat.lt_trans (by assumption : un < 1000) (by decide))))
  k_with "COMPE" => (k_dflt (refine LCg.ListComp_U (F₀ := by k_asm) (by with_unfolding_all rfl) (by decide) (by rfl) (by decide) (by rfl) ?_))
  k_with "CSRC" => (refine stop_at ?_)
  k_with "CALL" => (refine stop_at ?_)
  k_steps
  · unfold Stop
    rename_i l9 h9 F9 N9 hl9 hne
    obtain ⟨qt, htt⟩ := R.tt
    rw [Nat.sub_self, List.replicate_zero, List.append_nil] at htt
    have N10 := News.sub (news' := (L + 1, wc) :: (tch, listOf (bs.map Value.bool).toArray qt) :: (cal, listOf cs.toArray q) :: D) N9 (fun p hp => by
      rcases List.mem_cons.mp hp with rfl | hp
      · exact .tail _ (.tail _ hc)
      · rcases List.mem_cons.mp hp with rfl | hp
        · exact .tail _ (.tail _ htt)
        · exact .tail _ hp)
    clear N9 hl9
    have hS : LCg.SrcAt g cal cs.toArray ((L + 1, wc) :: (tch, listOf (bs.map Value.bool).toArray qt) :: (cal, listOf cs.toArray q) :: D) := .inr ⟨_, .tail _ (.tail _ (.head _)), rfl, _, rfl⟩
    refine LCg.CompSrc.ledger rfl F9 N10 (.tail _ (.tail _ (.head _))) (by rw [sizeLine_eq]; simp; omega) ?_
    clear F9 N10
    intro g9
    refine rest_ind (n := cs.toArray.size) (fun i ys nx => nx = (L + 1, wc) :: (tch, listOf (bs.map Value.bool).toArray qt) :: (cal, listOf cs.toArray q) :: D ∧ ys = (cl.take i).map fun k => Value.bool (bs.getD k.toNat false)) ?_ ?_ _ _ _ _ (Nat.zero_add _) ⟨rfl, by simp⟩
    · rintro i ys nx v I oI C oC D' m₂ h tk E' hin ⟨rfl, rfl⟩ hP hns hm2 F N off hne2
      obtain ⟨k, tk0, rfl, hck⟩ := IntsAre.at hi (show cs[i]? = some v by simpa using hP)
      have hkm := List.mem_of_getElem? hck
      obtain ⟨hk0, hk9⟩ := hr k hkm
      have hx : (bs.map Value.bool)[k.toNat]? = some (.bool (bs.getD k.toNat false)) := by
        have h3 : k.toNat < bs.length := by rw [R.l3]; omega
        rw [List.getElem?_map, List.getD_eq_getElem?_getD, List.getElem?_eq_getElem h3]; rfl
      k_with "SUB" => (k_dflt (refine' Mine.item_news ?N ?M ?a ?b ?x ?_; (case N => assumption); (case M => k_mem); (case a => assumption); (case b => omega); (case x => assumption); k_whole))
      k_steps
      refine LCg.CompEnd.intro (by assumption) N _ (fun p hp => hp) off hS ⟨rfl, ?_⟩
      rw [List.take_add_one, hck]; simp
    · rintro ys nx ⟨rfl, rfl⟩
      unfold LCg.FinE
      intro D' h tk F N off
      have hys : (cl.take cs.toArray.size).map (fun k => Value.bool (bs.getD k.toNat false)) = (cl.map fun k => bs.getD k.toNat false).map Value.bool := by
        rw [show cs.toArray.size = cl.length from hlen, List.take_length, List.map_map]; rfl
      rw [hys] at N
      clear off hys
      k_with "NIB" => (k_dflt (refine' Mine.notin_bools ?N ?M ?_; (case N => assumption); (case M => exact List.Mem.head _)))
      k_steps
      unfold Stop
      rename_i h11 F11 N11
      have V : Valid sts e := ⟨by rw [R.l2]; omega, R.sm, hsz, fun k h => by rw [R.l2]; exact hr k ((hk k).mpr h)⟩
      refine use0 F11 N11 (is_constant_spec (dat := D) (at0 X T F11) (fun p hp => (N11 _ (.tail _ (.tail _ (.tail _ (.tail _ hp))))).1) R.des he V (by omega) (by omega)) ?_
      rintro v' h' tk' tl F' N' ho ⟨rfl, b, rfl, hb⟩
      have hdue := due_is R hloo hne hk hr hb
      clear ho
      k_steps
      rw [← hdue, beq_self_eq_true]
      exact hQ _ _ F'.keep
  · unfold Stop
    rename_i l9 _ hl9 hne _ F9 N9
    have V : Valid sts e := ⟨by rw [R.l2]; omega, R.sm, hsz, fun k h => by rw [R.l2]; exact hr k ((hk k).mpr h)⟩
    refine use0 F9 N9 (is_constant_spec (dat := D) (at0 X T F9) (fun p hp => (N9 _ (.tail _ (.tail _ hp))).1) R.des he V (by omega) (by omega)) ?_
    rintro v' h' tk' tl F' N' ho ⟨rfl, b, rfl, hb⟩
    obtain rfl := no_loose hloo hne hb
    clear F9 N9 ho
    k_steps
    exact hQ _ _ F'.keep
end Mine
local macro_rules | `(tactic| walk_at "subscriptTail") => `(tactic| (k_here; (with_reducible show wpAny _ _ (subscriptTail _ _ (Value.ref _) (Value.int _ _)) _ _ _); k_extra "SUB"))
local macro_rules | `(tactic| walk_at "compareOp NotIn int ref") => `(tactic| (k_here; k_extra "NIN"))
namespace Mine
theorem law_10 {w : World} {mg mb : Str → Option Value} {mean : ExcName → Option Value} {g h : Heap} {L fa : Addr} {cd : Value} {s : Shared} {tk : Nat} {m : Str → Option Value} {dp un : Nat} {fr : Option (List Env)} {gd : Option (List Code)} {Q : Flow → Shared → Prop}
    {n q q3 : Nat} {u : Tok} {x dx r tch lnk cal loo : Addr} {wc : Obj} {lks : List Addr} {es : List DictEntry} {nss : List (List Int)} {sts : List St} {bs : List Bool} {dat D : List (Addr × Obj)} {cs ls : List Value} {cl : List Int} {ev : Value} {e : Ex}
    (X : (kH w.params).In g) (T : Top kV (looseW kV []) mean mg mb g) (F : Fr g L h m) (N : News g L h ((cal, listOf cs.toArray q) :: D)) (hD : ∀ p ∈ D, @Ne Nat p.1 cal)
    (m2 : m (Str.ofString "design") = some (.ref x)) (m3 : m (Str.ofString "many") = some (.int n u)) (m4 : m (Str.ofString "links") = some (.ref lnk))
    (m5 : m (Str.ofString "called") = some (.ref cal)) (m6 : m (Str.ofString "loose") = some (.ref loo)) (m7 : m (Str.ofString "e") = some ev)
    (hc : (L + 1, wc) ∈ D) (hw : wc.data = .cell (some (.ref tch))) (R : Rig D (L + 1) tch lnk r x dx lks es nss sts bs dat n n) (hn : n ≤ 4)
    (hlo : (loo, listOf ls.toArray q3) ∈ D) (hi : IntsAre cs cl) (he : ExL D ev e) (G : Grow [] [] n (big 2) cl ls e)
    (hdp : dp < 440) (hun : un < 1000) (hQ : ∀ h' tk', (∀ b o, g.get? b = some o → h'.get? b = some o) → Q (.ret (.bool true)) { s with heap := h', toks := tk' }) :
    wpAny (model PySem.Challenge.pw_on0119_01 w) (A0 dp un fr gd) (execs (lawB.drop 10) (lawE L fa cd)) Q (fun _ _ => False) { s with heap := h, toks := tk } := by
  conv in (List.drop _ lawB) => whnf
  unfold lawE
  conv in lawS => whnf
  rw [loc6 m2 m3 m4 m5 m6 m7] at F
  k_with_none
  k_with "BACK" => ((try dsimp only [Mine.TurnEnd, PyProof.Rows.WhileStep2]); refine' Mine.back ?B ?_; (case B => assumption); (try dsimp only))
  k_with "ENTER2" => ((case kC => assumption); (case k6 => k_is); (case kb => (conv => lhs; whnf)); (case ks => (conv => lhs; whnf)); (case k7 => k_is); (case k8 => (simp only [recursionLimit]; omega)); (case k9 => exact BindsTo.of_eq rfl); (case c5 => decide); (case kB => exact locs rfl); (case c2 => exact rfl); (case c3 => exact rfl); (case c4 => exact rfl); k_whole; intro _ _ _ _ _ _ _ _ _ _ _ _ _ _ _ _ _; (try dsimp only))
  k_with "subscriptTail" => (k_here; (with_reducible show wpAny _ _ (subscriptTail _ _ (Value.ref _) (Value.int _ _)) _ _ _); k_dflt (refine' item_tupleT (Mine.has_tup ?F ?D ?M) ?a ?b ?c ?d ?_; (case F => k_asm); (case D => assumption); (case M => assumption); (case a => decide); (case b => decide); (case c => first | rfl | exact Mine.seq_zero); (case d => rfl); k_whole))
  k_with "exec While Name cons nil" => k_extra "WHILE"
  k_with "pyIter ref" => ((with_reducible show wpAny _ _ (pyIter (Value.ref _)) (fun it s₂ => LoopAtV _ _ _ _ _ _ _ _ _ it s₂) _ _); k_extra "ITER")
  k_with "call ref" => k_extra "CALL"
  k_with "call type:reversed" => k_extra "REV"
  k_with "call builtin:list.pop" => (k_here; k_dflt (first | ((with_reducible show wpAny _ _ (call (Value.builtin _) [Value.ref _]) _ _ _); refine' Mine.popLast ?F ?N ?U ?z ?_; (case F => k_asm); (case N => k_asm); (case U => k_upd); (case z => (rw [PySem.sizeLine_eq]; first | assumption | omega | exact Nat.le_of_ble_eq_true rfl))) | (refine' Mine.pop0 ?F ?N ?U ?z ?_; (case F => k_asm); (case N => k_asm); (case U => k_upd); (case z => (rw [PySem.sizeLine_eq]; first | assumption | omega | exact Nat.le_of_ble_eq_true rfl)))); intro _ _ _; (try k_sweep))
  k_with "call builtin:list.append" => (k_here; k_extra "APP"; k_dflt (refine' Mine.app_ ?F ?N ?U ?z ?_; (case F => k_asm); (case N => k_asm); (case U => k_upd); (case z => (rw [PySem.sizeLine_eq]; first | assumption | omega | exact Nat.le_of_ble_eq_true rfl))); intro _ _ _; (try k_sweep))
  k_with "USE0" => ((case F => assumption); (case N => assumption); (case C => exact Mine.at0 (by assumption) (by assumption) (by assumption)); (case hd => ((try dsimp only [Mine.A0, Around.deeper, Around.in1]); omega)); (case hu => ((try dsimp only [Mine.A0, Around.deeper, Around.in1]); omega)))
  k_with "setItem ref int" => (k_here; k_dflt (refine' setItem_K PyProof.V.same_int (intKind_is _ _ _ _) ?v ?F ?N ?U ?d ?f ?_ ?z; (case F => k_asm); (case N => k_asm); (case U => k_updF); (case d => assumption); (case f => assumption); (case z => (rw [PySem.sizeLine_eq]; first | omega | exact Nat.le_of_ble_eq_true rfl)); (case v => exact PyProof.V.Flat.bool _)); intro _ _ _ _ _ _; (try k_sweep))
  k_with "call builtin:sorted" => (k_here; k_dflt (refine' Mine.sorted_dict ?hh ?F ?N ?M ?d ?lo ?z ?_; (case hh => exact rfl); (case F => assumption); (case N => assumption); (case M => k_mem); (case d => assumption); (case lo => assumption); (case z => first | omega | exact Nat.le_of_ble_eq_true rfl)); intro _ _ _ _ _ _ _ _ _ _ _ _)
  k_with "exec For" => (k_here; (with_reducible show wpAny _ _ (exec (Stmt.For (Expr.Name _ _) _ _ [] _) _) _ _ _); (with_reducible rename Fr _ _ _ _ => kF); (with_unfolding_all refine' For_invVF kF ?k1 ?k2 ?_; (case k1 => exact rfl); (case k2 => exact rfl); k_whole))
  k_with "call type:list" => (k_here; (with_reducible show wpAny _ _ (call (Value.type _) [Value.ref _]) _ _ _); k_dflt (refine' list_copyKT ?F ?N (Mine.has_tup ?G ?D ?M) ?_ ?z; (case F => k_asm); (case N => k_asm); (case G => k_asm); (case D => assumption); (case M => assumption); (case z => exact Nat.le_of_ble_eq_true rfl)); intro _ _ _ _ _ l1; (try (replace l1 := allLt_of l1; dsimp only [AllLt] at l1; revert l1; intro _)); (try k_sweep))
  k_with "ALLQ" => (simp only [List.forall_mem_cons, List.mem_singleton, forall_eq]; assumption)
  k_with "subscriptTail" => (k_here; (with_reducible show wpAny _ _ (subscriptTail _ _ (Value.ref _) (Value.int _ _)) _ _ _); k_dflt (refine' Mine.item_dat ?F ?D ?M ?a ?b ?x ?_; (case F => k_asm); (case D => assumption); (case M => assumption); (case a => assumption); (case b => omega); (case x => assumption); k_whole))
  k_with "getAttr ref" => (k_here; k_dflt (refine' Mine.attr_dat ?F ?X ?D ?h1 ?h2 ?k4 ?k5 ?k6 ?k7 ?k8 ?k9 ?_; (case F => k_asm); (case X => k_asm); (case D => assumption); (case h1 => assumption); (case h2 => assumption); (case k4 => k_is); (case k5 => k_is); (case k6 => k_is); (case k7 => k_is); (case k8 => assumption); (case k9 => k_handed); k_whole))
  k_with "getMethod ref" => (k_here; k_dflt (refine' Mine.meth_dat ?F ?X ?D ?h1 ?h2 ?k4 ?k5 ?k6 ?k7 ?_; (case F => k_asm); (case X => k_asm); (case D => assumption); (case h1 => assumption); (case h2 => assumption); (case k4 => k_is); (case k5 => k_is); (case k6 => k_is); (case k7 => assumption); k_whole))
  k_with "compareOp NotIn int ref" => (k_here; k_dflt (refine' Mine.notin_dict ?N ?M ?d ?lo ?_; (case N => assumption); (case M => k_mem); (case d => assumption); (case lo => assumption)))
  k_with "call builtin:list.extend" => (k_here; k_extra "EXT"; k_dflt (refine' Mine.ext_ ?F ?N ?b ?U ?z ?_; (case F => k_asm); (case N => k_asm); (case b => k_mem); (case U => (intro c; k_upd)); (case z => omega)); intro _ _ _ _; (try k_sweep))
  k_with "call type:list" => (k_here; k_extra "COPY"; (with_reducible show wpAny _ _ (call (Value.type _) [Value.ref _]) _ _ _); k_dflt (refine' Mine.copy_ ?F ?N ?M ?z ?_; (case F => k_asm); (case N => k_asm); (case M => k_mem); (case z => omega)); intro _ _ _ _ _ l1; (try (replace l1 := allLt_of l1; dsimp only [AllLt] at l1; revert l1; intro _)); (try k_sweep))
  k_with "truthy ref" => (k_here; k_extra "TRU"; (with_reducible show wpAny _ _ (truthy (Value.ref _)) _ _ _); k_dflt (refine' Mine.truthy_ ?N ?M ?z ?_; (case N => k_asm); (case M => k_mem); (case z => first | assumption | omega)); intro _)
  k_with "USE1" => ((case F => assumption); (case N => assumption); (case U => k_updF); (case C => exact Mine.at1 (by assumption) (by assumption) (by assumption) (by assumption) (by k_mem)); (case hd => ((try dsimp only [Mine.A0, Around.deeper, Around.in1]); omega)); (case hu => ((try dsimp only [Mine.A0, Around.deeper, Around.in1]); omega)))
  k_with "setItem ref int" => (k_here; (with_reducible show wpAny _ _ (setItem (Value.ref _) (Value.int _ _) _) _ _ _); k_dflt (refine' Mine.set_ ?F ?N ?a ?b ?c ?U ?_; (case F => k_asm); (case N => k_asm); (case U => k_upd); (case a => omega); (case b => omega); (case c => omega)); intro _ _ _; (try k_sweep))
  k_with "exec Assign cons ListComp" => k_extra "COMP"
  k_with "eval ListComp" => k_extra "COMPE"
  k_with "CompSrc" => k_extra "CSRC"
  k_with "binaryOp Mult ref int" => k_extra "MUL"
  k_with "TAILS" => (intro p hp; repeat (first | exact hp | refine List.Mem.tail _ ?_))
  k_with "getMethod ref" => (k_here; k_dflt (refine' Mine.meth_news ?F ?X ?N ?h1 ?h2 ?S ?k4 ?k5 ?k6 ?k7 ?_; (case F => k_asm); (case X => k_asm); (case N => k_asm); (case h1 => assumption); (case h2 => assumption); (case S => walk_at "TAILS"); (case k4 => k_is); (case k5 => k_is); (case k6 => k_is); (case k7 => assumption); k_whole))
  k_with "GOFF" => (refine Mine.off3 ?_; repeat' (first | exact List.forall_mem_nil _ | assumption | refine List.forall_mem_cons.mpr ⟨⟨by (dsimp only; omega), by (dsimp only; omega), by (dsimp only; omega)⟩, ?_⟩))
  k_with "GCUP" => (unfold Mine.Stop; rintro v' h' tk' o' tl F' N' ho ⟨e1, vs1, n1', ts1, c, u, hm1, hi1, hl4, e2, hc0, hc1⟩; cases hm1; cases e1; cases e2; (try simp only [List.nil_append] at N'); clear ho)
  k_with "eval Constant int" => (k_here; (k_dflt (refine' Mine.const_int ?_)); intro _ _)
  k_with "eval Constant str" => (k_here; (k_dflt (refine' Mine.const_str ?_)); intro _ _)
  k_with "newTuple" => (k_here; k_dflt (refine' kup_newTuple ?F ?N ?_ ?z; (case F => k_asm); (case N => k_asm); (case z => exact Nat.le_of_ble_eq_true rfl)); intro _ _ _ _ l1; (try (replace l1 := allLt_of l1; dsimp only [AllLt] at l1; revert l1; intro _)); (try k_sweep))
  k_with "newList" => (k_here; k_dflt (refine' newList_K ?k1 ?k2 ?_; (case k1 => k_asm); (case k2 => k_asm); k_whole); intro _ _ _ _ l1; (try (replace l1 := allLt_of l1; dsimp only [AllLt] at l1; revert l1; intro _)); (try k_sweep))
  k_with "APP" => skip
  k_with "COPY" => skip
  k_with "ITER" => (refine stop_at ?_)
  replace hn : Stop (n ≤ 4) := hn
  k_steps
  unfold Stop
  replace hn : n ≤ 4 := hn
  rename_i hR F2 N2 _
  have hr0 := G.rng
  have hrr := Reach.num R hr0
  have hcl0 := G.clen
  have hkey := G.keys
  refine' iter_range (n := n) (fun j m nx => ∃ cs q cl, nx = (cal, listOf cs.toArray q) :: D ∧ IntsAre cs cl ∧ cl.length ≤ 14 * 2 ^ j ∧ (∀ k, Ex.call k ∈ e.subs → k ∈ cl) ∧ (∀ k ∈ cl, Reach sts e k) ∧ (Closed nss cl ∨ j + 1 ≤ cnt n cl) ∧
    m (Str.ofString "design") = some (.ref x) ∧ m (Str.ofString "many") = some (.int n u) ∧ m (Str.ofString "links") = some (.ref lnk) ∧ m (Str.ofString "called") = some (.ref cal) ∧ m (Str.ofString "loose") = some (.ref loo) ∧ m (Str.ofString "e") = some ev) rfl hR rfl (by omega) F2 N2
    ⟨cs, q, cl, rfl, hi, hcl0, fun k hk => (hkey k).mpr (.inr hk), fun k hk => .base (((hkey k).mp hk).resolve_left (by simp)), lap_start fun k hk => hr0 k (((hkey k).mp hk).resolve_left (by simp)), rfl, rfl, rfl, rfl, rfl, rfl⟩ ?_ ?_
  · clear F2 N2 hR m2 m3 m4 m5 m6 m7 hi hQ hcl0 hkey
    rintro I j t m₁ nx it h tk hjn ⟨cs, q, cl, rfl, hi, hll, hbase, hreach, hclo, m2, m3, m4, m5, m6, m7⟩ hI F N
    rw [loc6 m2 m3 m4 m5 m6 m7] at F
    have hlen := hi.length
    have hb : cs.length ≤ 1000 := by
      have : 14 * 2 ^ j ≤ 14 * 2 ^ 4 := Nat.mul_le_mul_left _ (Nat.pow_le_pow_right (by omega) (by omega))
      omega
    k_steps
    unfold Stop
    rename_i cpy c2 _ F2 N2 hcpy
    simp only [List.forall_mem_cons] at hI
    have hcc : @Ne Nat cal cpy := Nat.ne_of_lt hcpy.2.1
    have hIc : @Ne Nat I cpy := Nat.ne_of_lt hcpy.1
    have hlc : cl.length ≤ 14 * 2 ^ j := hll
    obtain ⟨ql, hlk⟩ := R.lk
    refine' iter_list (fun i m nx => ∃ cs' q' cl', nx = (cpy, listOf cs.toArray c2) :: (I, it) :: (cal, listOf cs'.toArray q') :: D ∧ IntsAre cs' cl' ∧ cl'.length ≤ cl.length + i ∧ (∀ k ∈ cl, k ∈ cl') ∧ (∀ k ∈ cl', Reach sts e k) ∧ (∀ k ∈ cl.take i, ∀ z ∈ nss.getD k.toNat [], z ∈ cl') ∧ (Closed nss cl → ∀ k ∈ cl', k ∈ cl) ∧
      m (Str.ofString "design") = some (.ref x) ∧ m (Str.ofString "many") = some (.int n u) ∧ m (Str.ofString "links") = some (.ref lnk) ∧ m (Str.ofString "called") = some (.ref cal) ∧ m (Str.ofString "loose") = some (.ref loo) ∧ m (Str.ofString "e") = some ev) rfl (N2 _ (.head _)).1 (Ne.symm (N2 _ (.head _)).2.1) F2 N2 (.inr ?hk) ⟨cs, q, cl, rfl, hi, Nat.le_refl _, fun _ h => h, hreach, by simp, fun _ _ h => h, rfl, rfl, rfl, rfl, rfl, rfl⟩ ?turn ?done
    case hk => rintro i m nx ⟨cs', q', cl', rfl, -⟩; exact .head _
    case turn =>
      clear F2 N2 m2 m3 m4 m5 m6 m7
      rintro I2 i v m₂ nx it2 h tk hv ⟨cs', q', cl', rfl, hi', hll', hsub, hreach', hstep, hclo', m2, m3, m4, m5, m6, m7⟩ hI2 F N
      rw [loc6 m2 m3 m4 m5 m6 m7] at F
      obtain ⟨k, tk0, rfl, hk⟩ := IntsAre.at hi hv
      have hkR := hreach k (List.mem_of_getElem? hk)
      obtain ⟨hk0, hk9⟩ := hrr k hkR
      simp only [List.forall_mem_cons] at hI2
      have hil : i < cl.length := (List.getElem?_eq_some_iff.mp hk).1
      obtain ⟨lki, hlki⟩ : ∃ a, lks[k.toNat]? = some a := ⟨_, List.getElem?_eq_getElem (by rw [R.len]; omega)⟩
      have hx : (lks.map Value.ref)[k.toNat]? = some (.ref lki) := by rw [List.getElem?_map, hlki]; rfl
      obtain ⟨ws, qw, hws, hiw⟩ := R.ls k.toNat lki hlki
      k_with "SUB" => (k_dflt (refine' Mine.item_news ?N ?M ?a ?b ?x ?_; (case N => assumption); (case M => repeat (first | assumption | refine List.Mem.tail _ ?_)); (case a => assumption); (case b => omega); (case x => assumption); k_whole))
      k_steps
      unfold Stop
      rename_i F3
      have hrg : (nss.getD k.toNat []).length ≤ 1 := by
        rw [List.getD_eq_getElem?_getD]
        cases h2 : nss[k.toNat]? with
        | none => simp
        | some ks => exact (R.rg ks (List.mem_of_getElem? h2)).1
      have hwl := hiw.length
      refine' iter_list (fun z m nx => ∃ cs'' q'' cl'', nx = (I2, it2) :: (cpy, listOf cs.toArray c2) :: (I, it) :: (cal, listOf cs''.toArray q'') :: D ∧ IntsAre cs'' cl'' ∧ cl''.length ≤ cl'.length + z ∧ (∀ k ∈ cl', k ∈ cl'') ∧ (∀ k ∈ cl'', Reach sts e k) ∧ (∀ a ∈ (nss.getD k.toNat []).take z, a ∈ cl'') ∧ (Closed nss cl → ∀ k ∈ cl'', k ∈ cl) ∧
        m (Str.ofString "design") = some (.ref x) ∧ m (Str.ofString "many") = some (.int n u) ∧ m (Str.ofString "links") = some (.ref lnk) ∧ m (Str.ofString "called") = some (.ref cal) ∧ m (Str.ofString "loose") = some (.ref loo) ∧ m (Str.ofString "e") = some ev) rfl (N _ (.tail _ (.tail _ (.tail _ (.tail _ hws))))).1 (Ne.symm (N _ (.tail _ (.tail _ (.tail _ (.tail _ hws))))).2.1) F3 N (.inr ?hk3) ⟨cs', q', cl', rfl, hi', Nat.le_refl _, fun _ h => h, hreach', by simp, hclo', rfl, rfl, rfl, rfl, rfl, rfl⟩ ?turn3 ?done3
      case hk3 => rintro i m nx ⟨cs', q', cl', rfl, -⟩; exact .tail _ (.tail _ (.tail _ (.tail _ hws)))
      case turn3 =>
        clear m2 m3 m4 m5 m6 m7
        rintro I3 z v m₃ nx it3 h tk hv3 ⟨cs'', q'', cl'', rfl, hi'', hll'', hsub', hreach'', hstep', hclo'', m2, m3, m4, m5, m6, m7⟩ hI3 F N
        rw [loc6 m2 m3 m4 m5 m6 m7] at F
        obtain ⟨a, tka, rfl, ha⟩ := IntsAre.at hiw hv3
        have ham := List.mem_of_getElem? ha
        simp only [List.forall_mem_cons] at hI3
        have haR := Reach.next R hr0 hkR ham
        have hzl := (List.getElem?_eq_some_iff.mp ha).1
        have hlen3 := hi''.length
        have hpow : 14 * 2 ^ j ≤ 14 * 2 ^ 4 := Nat.mul_le_mul_left _ (Nat.pow_le_pow_right (by omega) (by omega))
        have hb3 : cs''.length ≤ 1000 := by omega
        k_with "NIN" => (k_dflt (refine' Mine.notin_ ?N ?M ?I ?_ ?_; (case N => assumption); (case M => repeat (first | assumption | exact List.Mem.head _ | refine List.Mem.tail _ ?_)); (case I => assumption)))
        k_steps
        · rename_i F9 N9
          exact ⟨_, _, _, (I2, it2) :: (cpy, listOf cs.toArray c2) :: (I, it) :: (cal, _) :: D, rfl, F9, N9, by simp only [List.forall_mem_cons]; exact hI3, _, _, cl'' ++ [a], rfl, IntsAre.append hi'' (.cons _ _ .nil), by simp; omega, fun k h => List.mem_append_left _ (hsub' k h),
            fun k h => (List.mem_append.mp h).elim (hreach'' k) fun h => List.mem_singleton.mp h ▸ haR, take_step ha (fun x hx => List.mem_append_left _ (hstep' x hx)) (by simp),
            fun hC k h => (List.mem_append.mp h).elim (hclo'' hC k) fun h => List.mem_singleton.mp h ▸ hC _ (List.mem_of_getElem? hk) _ ham, rfl, rfl, rfl, rfl, rfl, rfl⟩
        · exact ⟨_, _, _, (I2, it2) :: (cpy, listOf cs.toArray c2) :: (I, it) :: (cal, _) :: D, rfl, by assumption, N, by simp only [List.forall_mem_cons]; exact hI3, _, _, cl'', rfl, hi'', by omega, hsub', hreach'', take_step ha hstep' (by assumption), hclo'', rfl, rfl, rfl, rfl, rfl, rfl⟩
      case done3 =>
        clear m2 m3 m4 m5 m6 m7
        rintro m₃ nx h tk ⟨cs'', q'', cl'', rfl, hi'', hll'', hsub', hreach'', hstep', hclo'', m2, m3, m4, m5, m6, m7⟩ F N
        dsimp only
        k_steps
        rw [hwl, List.take_length] at hstep'
        exact ⟨_, _, _, (cpy, listOf cs.toArray c2) :: (I, it) :: (cal, _) :: D, rfl, by assumption, N, by simp only [List.forall_mem_cons]; exact hI2, _, _, cl'', rfl, hi'', by omega, fun k h => hsub' k (hsub k h), hreach'', take_step hk (fun x hx z hz => hsub' z (hstep x hx z hz)) hstep', hclo'', m2, m3, m4, m5, m6, m7⟩
    case done =>
      clear F2 N2 m2 m3 m4 m5 m6 m7
      rintro m₂ nx h tk ⟨cs', q', cl', rfl, hi', hll', hsub, hreach', hstep, hclo', m2, m3, m4, m5, m6, m7⟩ F N
      dsimp only
      k_steps
      rw [hlen, List.take_length] at hstep
      exact ⟨_, _, _, (cal, _) :: D, rfl, by assumption, News.sub N (fun p hp => .tail _ hp), by simp only [List.forall_mem_cons]; exact hI, _, _, cl', rfl, hi', by rw [Nat.pow_succ]; omega, fun k h => hsub k (hbase k h), hreach', lap_step hsub hstep hclo' (fun k h => hrr k (hreach' k h)) hclo, m2, m3, m4, m5, m6, m7⟩
  · rintro m₁ nx h tk ⟨cs, q, cl, rfl, hi, hll, hbase, hreach, hclo, m2, m3, m4, m5, m6, m7⟩ F N
    exact law_11 X T F N hD m2 m5 m6 m7 hc hw R hn hlo hi (by
      have : 14 * 2 ^ n ≤ 14 * 2 ^ 4 := Nat.mul_le_mul_left _ (Nat.pow_le_pow_right (by omega) (by omega))
      omega) (by have := G.llen; simp [big] at this; omega) he (Nat.le_trans G.size (by simp [big])) (fun k => ⟨hreach k, reach_closed R hbase (lap_done hclo) k⟩) (fun k hk => hrr k (hreach k hk)) (by rw [G.lo]; simp [Ex.loose]) hdp hun hQ
end Mine
namespace Mine
theorem law_7 {w : World} {mg mb : Str → Option Value} {mean : ExcName → Option Value} {g h : Heap} {L fa : Addr} {cd : Value} {s : Shared} {tk : Nat} {m : Str → Option Value} {dp un : Nat} {fr : Option (List Env)} {gd : Option (List Code)} {Q : Flow → Shared → Prop}
    {n n1 : Nat} {u : Tok} {x dx r tray tch lnk : Addr} {wc : Obj} {lks : List Addr} {es : List DictEntry} {nss : List (List Int)} {sts : List St} {bs : List Bool} {dat news : List (Addr × Obj)} {vs : List Value} {ts : List Int}
    (X : (kH w.params).In g) (T : Top kV (looseW kV []) mean mg mb g) (F : Fr g L h m) (N : News g L h news)
    (m1 : m (Str.ofString "tray") = some (.ref tray)) (m2 : m (Str.ofString "design") = some (.ref x)) (m3 : m (Str.ofString "many") = some (.int n u)) (m4 : m (Str.ofString "links") = some (.ref lnk))
    (hc : (L + 1, wc) ∈ news) (hw : wc.data = .cell (some (.ref tch))) (R : Rig news (L + 1) tch lnk r x dx lks es nss sts bs dat n n) (hn : n ≤ 4)
    (ht : (tray, listOf vs.toArray n1) ∈ news) (hi : IntsAre vs ts) (hl : vs.length ≤ 1000) (tr : ∀ a ∈ (L + 1) :: tch :: lnk :: r :: x :: dx :: lks, @Ne Nat tray a) (td : ∀ p ∈ dat, @Ne Nat p.1 tray)
    (hdp : dp < 440) (hun : un < 1000) (hQ : ∀ h' tk', (∀ b o, g.get? b = some o → h'.get? b = some o) → Q (.ret (.bool true)) { s with heap := h', toks := tk' }) :
    wpAny (model PySem.Challenge.pw_on0119_01 w) (A0 dp un fr gd) (execs (lawB.drop 7) (lawE L fa cd)) Q (fun _ _ => False) { s with heap := h, toks := tk } := by
  conv in (List.drop _ lawB) => whnf
  unfold lawE
  conv in lawS => whnf
  rw [loc4 m1 m2 m3 m4] at F
  k_with_none
  k_with "BACK" => ((try dsimp only [Mine.TurnEnd, PyProof.Rows.WhileStep2]); refine' Mine.back ?B ?_; (case B => assumption); (try dsimp only))
  k_with "ENTER2" => ((case kC => assumption); (case k6 => k_is); (case kb => (conv => lhs; whnf)); (case ks => (conv => lhs; whnf)); (case k7 => k_is); (case k8 => (simp only [recursionLimit]; omega)); (case k9 => exact BindsTo.of_eq rfl); (case c5 => decide); (case kB => exact locs rfl); (case c2 => exact rfl); (case c3 => exact rfl); (case c4 => exact rfl); k_whole; intro _ _ _ _ _ _ _ _ _ _ _ _ _ _ _ _ _; (try dsimp only))
  k_with "subscriptTail" => (k_here; (with_reducible show wpAny _ _ (subscriptTail _ _ (Value.ref _) (Value.int _ _)) _ _ _); k_dflt (refine' item_tupleT (Mine.has_tup ?F ?D ?M) ?a ?b ?c ?d ?_; (case F => k_asm); (case D => assumption); (case M => assumption); (case a => decide); (case b => decide); (case c => first | rfl | exact Mine.seq_zero); (case d => rfl); k_whole))
  k_with "exec While Name cons nil" => k_extra "WHILE"
  k_with "pyIter ref" => ((with_reducible show wpAny _ _ (pyIter (Value.ref _)) (fun it s₂ => LoopAtV _ _ _ _ _ _ _ _ _ it s₂) _ _); k_extra "ITER")
  k_with "call ref" => k_extra "CALL"
  k_with "call type:reversed" => k_extra "REV"
  k_with "call builtin:list.pop" => (k_here; k_dflt (first | ((with_reducible show wpAny _ _ (call (Value.builtin _) [Value.ref _]) _ _ _); refine' Mine.popLast ?F ?N ?U ?z ?_; (case F => k_asm); (case N => k_asm); (case U => k_upd); (case z => (rw [PySem.sizeLine_eq]; first | assumption | omega | exact Nat.le_of_ble_eq_true rfl))) | (refine' Mine.pop0 ?F ?N ?U ?z ?_; (case F => k_asm); (case N => k_asm); (case U => k_upd); (case z => (rw [PySem.sizeLine_eq]; first | assumption | omega | exact Nat.le_of_ble_eq_true rfl)))); intro _ _ _; (try k_sweep))
  k_with "call builtin:list.append" => (k_here; k_extra "APP"; k_dflt (refine' Mine.app_ ?F ?N ?U ?z ?_; (case F => k_asm); (case N => k_asm); (case U => k_upd); (case z => (rw [PySem.sizeLine_eq]; first | assumption | omega | exact Nat.le_of_ble_eq_true rfl))); intro _ _ _; (try k_sweep))
  k_with "USE0" => ((case F => assumption); (case N => assumption); (case C => exact Mine.at0 (by assumption) (by assumption) (by assumption)); (case hd => ((try dsimp only [Mine.A0, Around.deeper, Around.in1]); omega)); (case hu => ((try dsimp only [Mine.A0, Around.deeper, Around.in1]); omega)))
  k_with "setItem ref int" => (k_here; k_dflt (refine' setItem_K PyProof.V.same_int (intKind_is _ _ _ _) ?v ?F ?N ?U ?d ?f ?_ ?z; (case F => k_asm); (case N => k_asm); (case U => k_updF); (case d => assumption); (case f => assumption); (case z => (rw [PySem.sizeLine_eq]; first | omega | exact Nat.le_of_ble_eq_true rfl)); (case v => exact PyProof.V.Flat.bool _)); intro _ _ _ _ _ _; (try k_sweep))
  k_with "call builtin:sorted" => (k_here; k_dflt (refine' Mine.sorted_dict ?hh ?F ?N ?M ?d ?lo ?z ?_; (case hh => exact rfl); (case F => assumption); (case N => assumption); (case M => k_mem); (case d => assumption); (case lo => assumption); (case z => first | omega | exact Nat.le_of_ble_eq_true rfl)); intro _ _ _ _ _ _ _ _ _ _ _ _)
  k_with "exec For" => (k_here; (with_reducible show wpAny _ _ (exec (Stmt.For (Expr.Name _ _) _ _ [] _) _) _ _ _); (with_reducible rename Fr _ _ _ _ => kF); (with_unfolding_all refine' For_invVF kF ?k1 ?k2 ?_; (case k1 => exact rfl); (case k2 => exact rfl); k_whole))
  k_with "call type:list" => (k_here; (with_reducible show wpAny _ _ (call (Value.type _) [Value.ref _]) _ _ _); k_dflt (refine' list_copyKT ?F ?N (Mine.has_tup ?G ?D ?M) ?_ ?z; (case F => k_asm); (case N => k_asm); (case G => k_asm); (case D => assumption); (case M => assumption); (case z => exact Nat.le_of_ble_eq_true rfl)); intro _ _ _ _ _ l1; (try (replace l1 := allLt_of l1; dsimp only [AllLt] at l1; revert l1; intro _)); (try k_sweep))
  k_with "ALLQ" => (simp only [List.forall_mem_cons, List.mem_singleton, forall_eq]; assumption)
  k_with "subscriptTail" => (k_here; (with_reducible show wpAny _ _ (subscriptTail _ _ (Value.ref _) (Value.int _ _)) _ _ _); k_dflt (refine' Mine.item_dat ?F ?D ?M ?a ?b ?x ?_; (case F => k_asm); (case D => assumption); (case M => assumption); (case a => assumption); (case b => omega); (case x => assumption); k_whole))
  k_with "getAttr ref" => (k_here; k_dflt (refine' Mine.attr_dat ?F ?X ?D ?h1 ?h2 ?k4 ?k5 ?k6 ?k7 ?k8 ?k9 ?_; (case F => k_asm); (case X => k_asm); (case D => assumption); (case h1 => assumption); (case h2 => assumption); (case k4 => k_is); (case k5 => k_is); (case k6 => k_is); (case k7 => k_is); (case k8 => assumption); (case k9 => k_handed); k_whole))
  k_with "getMethod ref" => (k_here; k_dflt (refine' Mine.meth_dat ?F ?X ?D ?h1 ?h2 ?k4 ?k5 ?k6 ?k7 ?_; (case F => k_asm); (case X => k_asm); (case D => assumption); (case h1 => assumption); (case h2 => assumption); (case k4 => k_is); (case k5 => k_is); (case k6 => k_is); (case k7 => assumption); k_whole))
  k_with "compareOp NotIn int ref" => (k_here; k_dflt (refine' Mine.notin_dict ?N ?M ?d ?lo ?_; (case N => assumption); (case M => k_mem); (case d => assumption); (case lo => assumption)))
  k_with "call builtin:list.extend" => (k_here; k_extra "EXT"; k_dflt (refine' Mine.ext_ ?F ?N ?b ?U ?z ?_; (case F => k_asm); (case N => k_asm); (case b => k_mem); (case U => (intro c; k_upd)); (case z => omega)); intro _ _ _ _; (try k_sweep))
  k_with "call type:list" => (k_here; k_extra "COPY"; (with_reducible show wpAny _ _ (call (Value.type _) [Value.ref _]) _ _ _); k_dflt (refine' Mine.copy_ ?F ?N ?M ?z ?_; (case F => k_asm); (case N => k_asm); (case M => k_mem); (case z => omega)); intro _ _ _ _ _ l1; (try (replace l1 := allLt_of l1; dsimp only [AllLt] at l1; revert l1; intro _)); (try k_sweep))
  k_with "truthy ref" => (k_here; k_extra "TRU"; (with_reducible show wpAny _ _ (truthy (Value.ref _)) _ _ _); k_dflt (refine' Mine.truthy_ ?N ?M ?z ?_; (case N => k_asm); (case M => k_mem); (case z => first | assumption | omega)); intro _)
  k_with "USE1" => ((case F => assumption); (case N => assumption); (case U => k_updF); (case C => exact Mine.at1 (by assumption) (by assumption) (by assumption) (by assumption) (by k_mem)); (case hd => ((try dsimp only [Mine.A0, Around.deeper, Around.in1]); omega)); (case hu => ((try dsimp only [Mine.A0, Around.deeper, Around.in1]); omega)))
  k_with "setItem ref int" => (k_here; (with_reducible show wpAny _ _ (setItem (Value.ref _) (Value.int _ _) _) _ _ _); k_dflt (refine' Mine.set_ ?F ?N ?a ?b ?c ?U ?_; (case F => k_asm); (case N => k_asm); (case U => k_upd); (case a => omega); (case b => omega); (case c => omega)); intro _ _ _; (try k_sweep))
  k_with "exec Assign cons ListComp" => k_extra "COMP"
  k_with "eval ListComp" => k_extra "COMPE"
  k_with "CompSrc" => k_extra "CSRC"
  k_with "binaryOp Mult ref int" => k_extra "MUL"
  k_with "TAILS" => (intro p hp; repeat (first | exact hp | refine List.Mem.tail _ ?_))
  k_with "getMethod ref" => (k_here; k_dflt (refine' Mine.meth_news ?F ?X ?N ?h1 ?h2 ?S ?k4 ?k5 ?k6 ?k7 ?_; (case F => k_asm); (case X => k_asm); (case N => k_asm); (case h1 => assumption); (case h2 => assumption); (case S => walk_at "TAILS"); (case k4 => k_is); (case k5 => k_is); (case k6 => k_is); (case k7 => assumption); k_whole))
  k_with "GOFF" => (refine Mine.off3 ?_; repeat' (first | exact List.forall_mem_nil _ | assumption | refine List.forall_mem_cons.mpr ⟨⟨by (dsimp only; omega), by (dsimp only; omega), by (dsimp only; omega)⟩, ?_⟩))
  k_with "GCUP" => (unfold Mine.Stop; rintro v' h' tk' o' tl F' N' ho ⟨e1, vs1, n1', ts1, c, u, hm1, hi1, hl4, e2, hc0, hc1⟩; cases hm1; cases e1; cases e2; (try simp only [List.nil_append] at N'); clear ho)
  k_with "eval Constant int" => (k_here; (k_dflt (refine' Mine.const_int ?_)); intro _ _)
  k_with "eval Constant str" => (k_here; (k_dflt (refine' Mine.const_str ?_)); intro _ _)
  k_with "newTuple" => (k_here; k_dflt (refine' kup_newTuple ?F ?N ?_ ?z; (case F => k_asm); (case N => k_asm); (case z => exact Nat.le_of_ble_eq_true rfl)); intro _ _ _ _ l1; (try (replace l1 := allLt_of l1; dsimp only [AllLt] at l1; revert l1; intro _)); (try k_sweep))
  k_with "newList" => (k_here; k_dflt (refine' newList_K ?k1 ?k2 ?_; (case k1 => k_asm); (case k2 => k_asm); k_whole); intro _ _ _ _ l1; (try (replace l1 := allLt_of l1; dsimp only [AllLt] at l1; revert l1; intro _)); (try k_sweep))
  k_with "CALL" => (refine stop_at ?_)
  k_steps
  unfold Stop
  rename_i cal _ _ _ loo _ hloo _ F5 N5 _ _
  have hcal := l1
  have hcn : ∀ p ∈ news, @Ne Nat p.1 cal := fun p hp => Nat.ne_of_lt (hcal p hp)
  have hln : ∀ p ∈ news, @Ne Nat p.1 loo := fun p hp => Nat.ne_of_lt (Nat.lt_trans (hcal p hp) hloo.1)
  have hlc : @Ne Nat cal loo := Nat.ne_of_lt hloo.1
  have htc := hcn _ ht
  have htl := hln _ ht
  refine as_list N5 fun ND eND N5 => ?_
  obtain ⟨hN1, hN2, hN3⟩ := mem2 eND
  clear eND
  have hm3 : ∀ p ∈ [(tray, listOf vs.toArray n1), (cal, listOf [].toArray 0), (loo, listOf [].toArray 0)], p ∈ ND := fun p hp => by
    simp only [List.mem_cons, List.not_mem_nil, or_false] at hp
    rcases hp with rfl | rfl | rfl
    · exact hN3 _ ht
    · exact hN2
    · exact hN1
  refine useF F5 N5 hm3 (grown_spec (M := (n : Int)) (by omega) (by omega) htc htl hlc 2 (atL X T F5 N5 hm3) hi .nil hl (by decide) (by decide) rfl (by omega) (by omega) (by omega)) ?_
  rintro v' h6 tk6 mods' tl F6 N6 ha6 ho6 ⟨⟨vs', n1', ts', cs, q2, cl, ls, q3, e, rfl, hi6, hl6, hcs, he, hG⟩⟩
  obtain ⟨D3, N7, hD3, kp3, km3⟩ := after_call N6 ha6 hm3 ho6
  clear N6 ha6
  have up : ∀ p ∈ news, @Ne Nat p.1 tray → p ∈ D3 := fun p hp h => kp3 _ (hN3 _ hp) (not_three h (hcn _ hp) (hln _ hp))
  obtain ⟨D4, N8, hD4, up4⟩ := news_split N7 (List.mem_append_right _ (km3 _ (.tail _ (.head _))))
  clear N7
  refine storeX_L F6 N8 (fun h7 F7 N7 => ?_) rfl rfl
  have keep : ∀ p ∈ news, (p.1 ∈ (L + 1) :: tch :: lnk :: r :: x :: dx :: lks ∨ p ∈ dat) → p ∈ D4 := fun p hp hh => up4 _ (List.mem_append_right _ (up p hp (hh.elim (fun h => Ne.symm (tr _ h)) fun h => td p h))) (hcn p hp)
  exact law_10 X T F7 N7 hD4 rfl rfl rfl rfl rfl rfl (keep _ hc (.inl (.head _))) hw (R.mono keep) hn (up4 _ (List.mem_append_right _ (km3 _ (.tail _ (.tail _ (.head _))))) (Ne.symm hlc)) hcs
    (he.mono fun p hp => up4 _ (List.mem_append_left _ hp) (Ne.symm (ho6 _ hN2 p hp))) hG hdp hun hQ
end Mine
namespace Mine
theorem law_6 {w : World} {mg mb : Str → Option Value} {mean : ExcName → Option Value} {g h : Heap} {L fa : Addr} {cd : Value} {s : Shared} {tk : Nat} {m : Str → Option Value} {dp un : Nat} {fr : Option (List Env)} {gd : Option (List Code)} {Q : Flow → Shared → Prop}
    {n n1 : Nat} {u : Tok} {x dx r tray tch lnk : Addr} {wc : Obj} {lks : List Addr} {es : List DictEntry} {news : List (Addr × Obj)} {vs : List Value} {ts : List Int}
    (X : (kH w.params).In g) (T : Top kV (looseW kV []) mean mg mb g) (F : Fr g L h m) (N : News g L h news)
    (m1 : m (Str.ofString "tray") = some (.ref tray)) (m2 : m (Str.ofString "design") = some (.ref x)) (m3 : m (Str.ofString "many") = some (.int n u)) (m4 : m (Str.ofString "links") = some (.ref lnk))
    (hc : (L + 1, wc) ∈ news) (hw : wc.data = .cell (some (.ref tch))) (R : Rig news (L + 1) tch lnk r x dx lks es [] [] [] [] n 0) (hn : n ≤ 4)
    (ht : (tray, listOf vs.toArray n1) ∈ news) (hi : IntsAre vs ts) (hl : vs.length ≤ 1000) (tr : ∀ a ∈ (L + 1) :: tch :: lnk :: r :: x :: dx :: lks, @Ne Nat tray a)
    (hdp : dp < 440) (hun : un < 1000) (hQ : ∀ h' tk', (∀ b o, g.get? b = some o → h'.get? b = some o) → Q (.ret (.bool true)) { s with heap := h', toks := tk' }) :
    wpAny (model PySem.Challenge.pw_on0119_01 w) (A0 dp un fr gd) (execs (lawB.drop 6) (lawE L fa cd)) Q (fun _ _ => False) { s with heap := h, toks := tk } := by
  conv in (List.drop _ lawB) => whnf
  unfold lawE
  conv in lawS => whnf
  rw [loc4 m1 m2 m3 m4] at F
  k_with_none
  k_with "BACK" => ((try dsimp only [Mine.TurnEnd, PyProof.Rows.WhileStep2]); refine' Mine.back ?B ?_; (case B => assumption); (try dsimp only))
  k_with "ENTER2" => ((case kC => assumption); (case k6 => k_is); (case kb => (conv => lhs; whnf)); (case ks => (conv => lhs; whnf)); (case k7 => k_is); (case k8 => (simp only [recursionLimit]; omega)); (case k9 => exact BindsTo.of_eq rfl); (case c5 => decide); (case kB => exact locs rfl); (case c2 => exact rfl); (case c3 => exact rfl); (case c4 => exact rfl); k_whole; intro _ _ _ _ _ _ _ _ _ _ _ _ _ _ _ _ _; (try dsimp only))
  k_with "subscriptTail" => (k_here; (with_reducible show wpAny _ _ (subscriptTail _ _ (Value.ref _) (Value.int _ _)) _ _ _); k_dflt (refine' item_tupleT (Mine.has_tup ?F ?D ?M) ?a ?b ?c ?d ?_; (case F => k_asm); (case D => assumption); (case M => assumption); (case a => decide); (case b => decide); (case c => first | rfl | exact Mine.seq_zero); (case d => rfl); k_whole))
  k_with "exec While Name cons nil" => k_extra "WHILE"
  k_with "pyIter ref" => ((with_reducible show wpAny _ _ (pyIter (Value.ref _)) (fun it s₂ => LoopAtV _ _ _ _ _ _ _ _ _ it s₂) _ _); k_extra "ITER")
  k_with "call ref" => k_extra "CALL"
  k_with "call type:reversed" => k_extra "REV"
  k_with "call builtin:list.pop" => (k_here; k_dflt (first | ((with_reducible show wpAny _ _ (call (Value.builtin _) [Value.ref _]) _ _ _); refine' Mine.popLast ?F ?N ?U ?z ?_; (case F => k_asm); (case N => k_asm); (case U => k_upd); (case z => (rw [PySem.sizeLine_eq]; first | assumption | omega | exact Nat.le_of_ble_eq_true rfl))) | (refine' Mine.pop0 ?F ?N ?U ?z ?_; (case F => k_asm); (case N => k_asm); (case U => k_upd); (case z => (rw [PySem.sizeLine_eq]; first | assumption | omega | exact Nat.le_of_ble_eq_true rfl)))); intro _ _ _; (try k_sweep))
  k_with "call builtin:list.append" => (k_here; k_extra "APP"; k_dflt (refine' Mine.app_ ?F ?N ?U ?z ?_; (case F => k_asm); (case N => k_asm); (case U => k_upd); (case z => (rw [PySem.sizeLine_eq]; first | assumption | omega | exact Nat.le_of_ble_eq_true rfl))); intro _ _ _; (try k_sweep))
  k_with "USE0" => ((case F => assumption); (case N => assumption); (case C => exact Mine.at0 (by assumption) (by assumption) (by assumption)); (case hd => ((try dsimp only [Mine.A0, Around.deeper, Around.in1]); omega)); (case hu => ((try dsimp only [Mine.A0, Around.deeper, Around.in1]); omega)))
  k_with "setItem ref int" => (k_here; k_dflt (refine' setItem_K PyProof.V.same_int (intKind_is _ _ _ _) ?v ?F ?N ?U ?d ?f ?_ ?z; (case F => k_asm); (case N => k_asm); (case U => k_updF); (case d => assumption); (case f => assumption); (case z => (rw [PySem.sizeLine_eq]; first | omega | exact Nat.le_of_ble_eq_true rfl)); (case v => exact PyProof.V.Flat.bool _)); intro _ _ _ _ _ _; (try k_sweep))
  k_with "call builtin:sorted" => (k_here; k_dflt (refine' Mine.sorted_dict ?hh ?F ?N ?M ?d ?lo ?z ?_; (case hh => exact rfl); (case F => assumption); (case N => assumption); (case M => k_mem); (case d => assumption); (case lo => assumption); (case z => first | omega | exact Nat.le_of_ble_eq_true rfl)); intro _ _ _ _ _ _ _ _ _ _ _ _)
  k_with "exec For" => (k_here; (with_reducible show wpAny _ _ (exec (Stmt.For (Expr.Name _ _) _ _ [] _) _) _ _ _); (with_reducible rename Fr _ _ _ _ => kF); (with_unfolding_all refine' For_invVF kF ?k1 ?k2 ?_; (case k1 => exact rfl); (case k2 => exact rfl); k_whole))
  k_with "call type:list" => (k_here; (with_reducible show wpAny _ _ (call (Value.type _) [Value.ref _]) _ _ _); k_dflt (refine' list_copyKT ?F ?N (Mine.has_tup ?G ?D ?M) ?_ ?z; (case F => k_asm); (case N => k_asm); (case G => k_asm); (case D => assumption); (case M => assumption); (case z => exact Nat.le_of_ble_eq_true rfl)); intro _ _ _ _ _ l1; (try (replace l1 := allLt_of l1; dsimp only [AllLt] at l1; revert l1; intro _)); (try k_sweep))
  k_with "ALLQ" => (simp only [List.forall_mem_cons, List.mem_singleton, forall_eq]; assumption)
  k_with "subscriptTail" => (k_here; (with_reducible show wpAny _ _ (subscriptTail _ _ (Value.ref _) (Value.int _ _)) _ _ _); k_dflt (refine' Mine.item_dat ?F ?D ?M ?a ?b ?x ?_; (case F => k_asm); (case D => assumption); (case M => assumption); (case a => assumption); (case b => omega); (case x => assumption); k_whole))
  k_with "getAttr ref" => (k_here; k_dflt (refine' Mine.attr_dat ?F ?X ?D ?h1 ?h2 ?k4 ?k5 ?k6 ?k7 ?k8 ?k9 ?_; (case F => k_asm); (case X => k_asm); (case D => assumption); (case h1 => assumption); (case h2 => assumption); (case k4 => k_is); (case k5 => k_is); (case k6 => k_is); (case k7 => k_is); (case k8 => assumption); (case k9 => k_handed); k_whole))
  k_with "getMethod ref" => (k_here; k_dflt (refine' Mine.meth_dat ?F ?X ?D ?h1 ?h2 ?k4 ?k5 ?k6 ?k7 ?_; (case F => k_asm); (case X => k_asm); (case D => assumption); (case h1 => assumption); (case h2 => assumption); (case k4 => k_is); (case k5 => k_is); (case k6 => k_is); (case k7 => assumption); k_whole))
  k_with "compareOp NotIn int ref" => (k_here; k_dflt (refine' Mine.notin_dict ?N ?M ?d ?lo ?_; (case N => assumption); (case M => k_mem); (case d => assumption); (case lo => assumption)))
  k_with "call builtin:list.extend" => (k_here; k_extra "EXT"; k_dflt (refine' Mine.ext_ ?F ?N ?b ?U ?z ?_; (case F => k_asm); (case N => k_asm); (case b => k_mem); (case U => (intro c; k_upd)); (case z => omega)); intro _ _ _ _; (try k_sweep))
  k_with "call type:list" => (k_here; k_extra "COPY"; (with_reducible show wpAny _ _ (call (Value.type _) [Value.ref _]) _ _ _); k_dflt (refine' Mine.copy_ ?F ?N ?M ?z ?_; (case F => k_asm); (case N => k_asm); (case M => k_mem); (case z => omega)); intro _ _ _ _ _ l1; (try (replace l1 := allLt_of l1; dsimp only [AllLt] at l1; revert l1; intro _)); (try k_sweep))
  k_with "truthy ref" => (k_here; k_extra "TRU"; (with_reducible show wpAny _ _ (truthy (Value.ref _)) _ _ _); k_dflt (refine' Mine.truthy_ ?N ?M ?z ?_; (case N => k_asm); (case M => k_mem); (case z => first | assumption | omega)); intro _)
  k_with "USE1" => ((case F => assumption); (case N => assumption); (case U => k_updF); (case C => exact Mine.at1 (by assumption) (by assumption) (by assumption) (by assumption) (by k_mem)); (case hd => ((try dsimp only [Mine.A0, Around.deeper, Around.in1]); omega)); (case hu => ((try dsimp only [Mine.A0, Around.deeper, Around.in1]); omega)))
  k_with "setItem ref int" => (k_here; (with_reducible show wpAny _ _ (setItem (Value.ref _) (Value.int _ _) _) _ _ _); k_dflt (refine' Mine.set_ ?F ?N ?a ?b ?c ?U ?_; (case F => k_asm); (case N => k_asm); (case U => k_upd); (case a => omega); (case b => omega); (case c => omega)); intro _ _ _; (try k_sweep))
  k_with "exec Assign cons ListComp" => k_extra "COMP"
  k_with "eval ListComp" => k_extra "COMPE"
  k_with "CompSrc" => k_extra "CSRC"
  k_with "binaryOp Mult ref int" => k_extra "MUL"
  k_with "TAILS" => (intro p hp; repeat (first | exact hp | refine List.Mem.tail _ ?_))
  k_with "getMethod ref" => (k_here; k_dflt (refine' Mine.meth_news ?F ?X ?N ?h1 ?h2 ?S ?k4 ?k5 ?k6 ?k7 ?_; (case F => k_asm); (case X => k_asm); (case N => k_asm); (case h1 => assumption); (case h2 => assumption); (case S => walk_at "TAILS"); (case k4 => k_is); (case k5 => k_is); (case k6 => k_is); (case k7 => assumption); k_whole))
  k_with "GOFF" => (refine Mine.off3 ?_; repeat' (first | exact List.forall_mem_nil _ | assumption | refine List.forall_mem_cons.mpr ⟨⟨by (dsimp only; omega), by (dsimp only; omega), by (dsimp only; omega)⟩, ?_⟩))
  k_with "GCUP" => (unfold Mine.Stop; rintro v' h' tk' o' tl F' N' ho ⟨e1, vs1, n1', ts1, c, u, hm1, hi1, hl4, e2, hc0, hc1⟩; cases hm1; cases e1; cases e2; (try simp only [List.nil_append] at N'); clear ho)
  k_with "eval Constant int" => (k_here; (k_dflt (refine' Mine.const_int ?_)); intro _ _)
  k_with "eval Constant str" => (k_here; (k_dflt (refine' Mine.const_str ?_)); intro _ _)
  k_with "newTuple" => (k_here; k_dflt (refine' kup_newTuple ?F ?N ?_ ?z; (case F => k_asm); (case N => k_asm); (case z => exact Nat.le_of_ble_eq_true rfl)); intro _ _ _ _ l1; (try (replace l1 := allLt_of l1; dsimp only [AllLt] at l1; revert l1; intro _)); (try k_sweep))
  k_with "newList" => (k_here; k_dflt (refine' newList_K ?k1 ?k2 ?_; (case k1 => k_asm); (case k2 => k_asm); k_whole); intro _ _ _ _ l1; (try (replace l1 := allLt_of l1; dsimp only [AllLt] at l1; revert l1; intro _)); (try k_sweep))
  k_with "ITER" => (refine stop_at ?_)
  k_steps
  unfold Stop
  rename_i hR F2 N2 _
  refine' iter_range (n := n) (fun i m nx => ∃ nss sts bs dat vs n1 ts, Rig nx (L + 1) tch lnk r x dx lks es nss sts bs dat n i ∧ (L + 1, wc) ∈ nx ∧ (tray, listOf vs.toArray n1) ∈ nx ∧ IntsAre vs ts ∧ vs.length ≤ 1000 ∧ (∀ p ∈ dat, @Ne Nat p.1 tray) ∧
    m (Str.ofString "tray") = some (.ref tray) ∧ m (Str.ofString "design") = some (.ref x) ∧ m (Str.ofString "many") = some (.int n u) ∧ m (Str.ofString "links") = some (.ref lnk)) rfl hR rfl (by omega) F2 N2 ⟨[], [], [], [], vs, n1, ts, R, hc, ht, hi, hl, by simp, rfl, rfl, rfl, rfl⟩ ?_ ?_
  · clear F2 N2 hR R hc ht hi hl m1 m2 m3 m4
    rintro I i t m₁ nx it h tk hin ⟨nss, sts, bs, dat, vs, n1, ts, R, hc, ht, hi, hl, hdt, m1, m2, m3, m4⟩ hI F N
    rw [loc4 m1 m2 m3 m4] at F
    have hd1 := R.d1
    obtain ⟨kk, hd2⟩ := R.d2
    have hg6 := R.g6
    k_with "CALL" => (refine stop_at ?_)
    k_steps
    unfold Stop
    obtain ⟨rs, qr, hr, hrs⟩ := R.rt
    have hrl := hrs.length
    have hl2 := R.l2
    have nd := R.nd
    simp only [List.nodup_cons, List.mem_cons, not_or] at nd
    obtain ⟨⟨c1, c2, c3, c4, c5, c6⟩, ⟨t2, t3, t4, t5, t6⟩, ⟨k3, k4, k5, k6⟩, ⟨r4, r5, r6⟩, ⟨x5, x6⟩, e6, ndl⟩ := nd
    have hmr : ∀ p ∈ [(r, listOf rs.toArray qr)], p ∈ (I, it) :: nx := fun p hp => by rw [List.mem_singleton.mp hp]; exact .tail _ hr
    refine useF (mods := [(r, listOf rs.toArray qr)]) F N hmr (add_routine_spec (dat := [(x, instObj 258 dx), (dx, dictOf es kk)]) (atL X T F N hmr) ?_ ?_ (.head _) (.tail _ (.head _)) R.g3 (by omega) (by omega) (by omega)) ?_
    · intro z hz
      simp only [List.mem_cons, List.not_mem_nil, or_false] at hz
      rcases hz with rfl | rfl
      · exact (N _ (.tail _ hd1)).1
      · exact (N _ (.tail _ hd2)).1
    · intro z hz
      simp only [List.mem_cons, List.not_mem_nil, or_false] at hz
      rcases hz with rfl | rfl
      · exact not_one (Ne.symm r4)
      · exact not_one (Ne.symm r5)
    rintro v' h2 tk2 mods' tl F2 N2 ha ho ⟨y, dy, p, q, a, e, t1, t2', t3', t4', t5', t6', t7, t8, t9, t10, t11, t12, t13, t14, u1, u2, n', rfl, hydy, rfl, rfl⟩
    obtain ⟨D2, N3, hD2, kp2, km2⟩ := after_call N2 ha hmr ho
    clear F N N2
    have hc2 := kp2 _ (.tail _ hc) (not_one c3)
    have hyD : ∀ p ∈ (L + 1, wc) :: D2, @Ne Nat p.1 y := fun p hp => (List.mem_cons.mp hp).elim (fun e => e ▸ hD2 _ (.head _) _ hc2) fun hp => hD2 _ (.head _) _ hp
    have hdD : ∀ p ∈ (L + 1, wc) :: D2, @Ne Nat p.1 dy := fun p hp => (List.mem_cons.mp hp).elim (fun e => e ▸ hD2 _ (.tail _ (.head _)) _ hc2) fun hp => hD2 _ (.tail _ (.head _)) _ hp
    have N4 := News.sub (news' := (y, instObj 195 dy) :: (dy, _) :: (L + 1, wc) :: D2) N3 (fun p hp => by
      rcases List.mem_cons.mp hp with rfl | hp
      · exact .head _
      · rcases List.mem_cons.mp hp with rfl | hp
        · exact .tail _ (.head _)
        · rcases List.mem_cons.mp hp with rfl | hp
          · exact .tail _ (.tail _ hc2)
          · exact .tail _ (.tail _ hp))
    clear N3
    k_steps
    unfold Stop
    rename_i l4 _ hl4 _ F5 N5
    refine as_list N5 fun ND eND N5 => ?_
    obtain ⟨hND1, hND2, hND3, hND4⟩ := mem3 eND
    clear eND
    obtain ⟨lki, hlki⟩ : ∃ a, lks[i]? = some a := ⟨_, List.getElem?_eq_getElem (by rw [R.len]; exact hin)⟩
    obtain ⟨ws0, q0, hls, hws0⟩ := R.ls i lki hlki
    have e0 : nss.getD i [] = [] := by rw [List.getD_eq_getElem?_getD, List.getElem?_eq_none (by rw [R.l1]; exact Nat.le_refl _)]; rfl
    rw [e0] at hws0
    cases hws0
    obtain ⟨qt, htt⟩ := R.tt
    obtain ⟨ql, hlk⟩ := R.lk
    have hml := List.mem_of_getElem? hlki
    have hl3 := R.l3
    have tr1 := tr tch (by simp)
    have tr2 := tr lki (by simp [hml])
    have tr3 := tr r (by simp)
    have tr4 := tr lnk (by simp)
    have lt1 : @Ne Nat lki tch := fun e => t6 (e ▸ hml)
    have lr1 : @Ne Nat lki r := fun e => r6 (e ▸ hml)
    have ln1 : @Ne Nat lki lnk := fun e => k6 (e ▸ hml)
    have up5 : ∀ p ∈ D2, p ∈ ND := fun p hp => hND4 _ (.tail _ hp)
    have up2 : ∀ p ∈ nx, @Ne Nat p.1 r → p ∈ D2 := fun p hp hr => kp2 _ (.tail _ hp) (not_one hr)
    have hm3 : ∀ p ∈ [(tray, listOf vs.toArray n1), (lki, listOf [].toArray q0), (tch, listOf (bs.map Value.bool ++ List.replicate (n - i) (Value.bool false)).toArray qt)], p ∈ ND := fun p hp => up5 _ (by
      simp only [List.mem_cons, List.not_mem_nil, or_false] at hp
      rcases hp with rfl | rfl | rfl
      · exact up2 _ ht tr3
      · exact up2 _ hls lr1
      · exact up2 _ htt t3)
    refine useF F5 N5 hm3 (body_spec (links := lnk) (lrefs := lks.map Value.ref) (nl := ql) (lk := lki) (by omega) (by omega) tr2 tr1 lt1 (atL X T F5 N5 hm3) ?_ ?_ ?_ (by omega) ?_ ?_ hi hl (by omega) (by omega)) ?_
    · intro z hz
      rw [List.mem_singleton.mp hz]
      exact (N5 _ (up5 _ (up2 _ hlk k3))).1
    · intro z hz
      rw [List.mem_singleton.mp hz]
      exact not_three (Ne.symm tr4) (Ne.symm ln1) (Ne.symm t2)
    · rw [Int.toNat_natCast, List.getElem?_map, hlki]; rfl
    · simp; omega
    · simp; omega
    rintro v' h6 tk6 mods' tl F6 N6 ha6 ho6 ⟨vs', n1', ts', ws, n2', ks, b, st, tv', rfl, hi6, hl6, hws6, hk1, hk2, rfl, hst6, hsm6, hcl6, htw⟩
    obtain ⟨D3, N7, hD3, kp3, km3⟩ := after_call N6 ha6 hm3 ho6
    clear N6 ha6
    have hyN : @Ne Nat y dy := hydy
    have hnx : ∀ p ∈ nx, @Ne Nat p.1 y ∧ @Ne Nat p.1 dy := fun p hp => ⟨ho _ (.tail _ hp) _ (.head _), ho _ (.tail _ hp) _ (.tail _ (.head _))⟩
    have hIy : @Ne Nat I y := ho _ (.head _) _ (.head _)
    have hId : @Ne Nat I dy := ho _ (.head _) _ (.tail _ (.head _))
    have hBS := R.has hc
    have off : ∀ a : Addr, (∃ o, (a, o) ∈ nx) → @Ne Nat y a ∧ @Ne Nat dy a ∧ ∀ p ∈ tl, @Ne Nat p.1 a := by
      rintro a ⟨z, hz⟩
      refine ⟨Ne.symm (hnx _ hz).1, Ne.symm (hnx _ hz).2, fun p hp => ?_⟩
      by_cases ea : a = r
      · subst ea
        exact Ne.symm (ho6 _ (up5 _ (km2 _ (.head _))) p hp)
      · exact Ne.symm (ho6 _ (up5 _ (up2 _ hz ea)) p hp)
    have hyo := off tray ⟨_, ht⟩
    have hlo := off lki ⟨_, hls⟩
    have hto := off tch ⟨_, htt⟩
    obtain ⟨D4, N8, hy8, hd8, up8⟩ := news_front2 N7 (List.mem_append_right _ (kp3 _ hND2 (not_three hyo.1 hlo.1 hto.1))) (List.mem_append_right _ (kp3 _ hND3 (not_three hyo.2.1 hlo.2.1 hto.2.1)))
    clear N7
    k_steps
    rename_i h9 F9 N9
    refine as_list N9 fun NE eNE N9 => ?_
    obtain ⟨hy9, hdy9, up9⟩ := mem2 eNE
    clear eNE
    have hto9 : ∀ p ∈ NE, @Ne Nat p.1 I → p ∈ NE.filter fun p => decide (@Ne Nat p.1 I) := fun p hp h => List.mem_filter.mpr ⟨hp, decide_eq_true h⟩
    have hIN : (I, it) ∈ ND := up5 _ (kp2 _ (.head _) (not_one (Ne.symm (hI _ hr))))
    have hI9 : (I, it) ∈ NE := up9 _ (up8 _ (List.mem_append_right _ (kp3 _ hIN (not_three (Ne.symm (hI _ ht)) (Ne.symm (hI _ hls)) (Ne.symm (hI _ htt))))) hIy hId)
    have keep : ∀ p ∈ nx, @Ne Nat p.1 r → @Ne Nat p.1 tray → @Ne Nat p.1 lki → @Ne Nat p.1 tch → p ∈ NE.filter fun p => decide (@Ne Nat p.1 I) := fun p hp a b c d =>
      hto9 _ (up9 _ (up8 _ (List.mem_append_right _ (kp3 _ (up5 _ (up2 _ hp a)) (not_three b c d))) (hnx _ hp).1 (hnx _ hp).2)) (hI _ hp)
    have km9 : ∀ (a : Addr) (o z : Obj), (a, z) ∈ nx → (a, o) ∈ D3 → (a, o) ∈ NE.filter fun p => decide (@Ne Nat p.1 I) := fun a o z hz ho =>
      hto9 _ (up9 _ (up8 _ (List.mem_append_right _ ho) (hnx (a, z) hz).1 (hnx (a, z) hz).2)) (hI (a, z) hz)
    have hr3 := kp3 _ (up5 _ (km2 _ (.head _))) (not_three (Ne.symm tr3) (Ne.symm lr1) (Ne.symm t3))
    obtain ⟨bb, hbb, htv⟩ : ∃ bb : Bool, (st.touch ↔ bb = true) ∧ tv' = bs.map Value.bool ++ Value.bool bb :: List.replicate (n - (i + 1)) (Value.bool false) := by
      rcases htw with ⟨h1, h2⟩ | ⟨h1, h2⟩
      · exact ⟨true, by simp [h1], by rw [h2, Int.toNat_natCast]; exact set_turn hl3 hin⟩
      · exact ⟨false, by simp [h1], by rw [h2]; exact not_turn hin⟩
    obtain ⟨new, hR, hnew⟩ := rout_new (k := 14) (P := fun p => (p ∈ NE.filter fun p => decide (@Ne Nat p.1 I)) ∧ (∀ a ∈ (L + 1) :: tch :: lnk :: r :: x :: dx :: lks, @Ne Nat p.1 a) ∧ @Ne Nat p.1 tray) (y := y) (dy := dy) (es := _) (by rfl) (by rfl) hst6
      ⟨hto9 _ hy9 (Ne.symm hIy), fun a ha => (off a (hBS a ha)).1, hyo.1⟩ ⟨hto9 _ hdy9 (Ne.symm hId), fun a ha => (off a (hBS a ha)).2.1, hyo.2.1⟩
      fun p hp => ⟨hto9 _ (up9 _ (up8 _ (List.mem_append_left _ hp) (Ne.symm (ho6 _ hND2 p hp)) (Ne.symm (ho6 _ hND3 p hp)))) (Ne.symm (ho6 _ hIN p hp)), fun a ha => (off a (hBS a ha)).2.2 p hp, hyo.2.2 p hp⟩
    refine ⟨h9, _, _, NE.filter fun p => decide (@Ne Nat p.1 I), rfl, F9, News.sub N9 (fun p hp => ?_), fun q hq => of_decide_eq_true (List.mem_filter.mp hq).2, nss ++ [ks], sts ++ [st], bs ++ [bb], new ++ dat, vs', n1', ts',
      R.step hin hlki (fun p hp hh h1 h2 h3 => keep p hp h2 ?_ h3 h1) (km9 _ _ _ htt (km3 _ (.tail _ (.tail _ (.head _))))) htv (km9 _ _ _ hr hr3) hrs (km9 _ _ _ hls (km3 _ (.tail _ (.head _)))) hws6 (fun p hp => ⟨(hnew p hp).1, (hnew p hp).2.1⟩) hR hsm6 hcl6 hbb ⟨hk1, hk2⟩,
      keep _ hc c3 (Ne.symm (tr _ (by simp))) (fun e => c6 (show L + 1 ∈ lks from (show L + 1 = lki from e) ▸ hml)) c1, km9 _ _ _ ht (km3 _ (.head _)), hi6, Nat.le_trans hl6 hl, fun p hp => (List.mem_append.mp hp).elim (fun h => (hnew p h).2.2) fun h => hdt p h, rfl, rfl, rfl, rfl⟩
    · rcases List.mem_cons.mp hp with rfl | hp
      · exact hI9
      · exact (List.mem_filter.mp hp).1
    · rcases hh with hh | hh
      · exact Ne.symm (tr _ hh)
      · exact hdt p hh
  · rintro m₁ nx h tk ⟨nss, sts, bs, dat, vs, n1, ts, R, hc, ht, hi, hl, hdt, m1, m2, m3, m4⟩ F N
    exact law_7 X T F N m1 m2 m3 m4 hc hw R hn ht hi hl tr hdt hdp hun hQ
end Mine
namespace Mine
theorem law_5 {w : World} {mg mb : Str → Option Value} {mean : ExcName → Option Value} {g h : Heap} {L fa : Addr} {cd : Value} {s : Shared} {tk : Nat} {m : Str → Option Value} {dp un : Nat} {fr : Option (List Env)} {gd : Option (List Code)} {Q : Flow → Shared → Prop}
    {n n1 n8 : Nat} {u : Tok} {x dx r tray tch lnk sg bp : Addr} {wc ob : Obj} {lks : List Addr} {es : List DictEntry} {news : List (Addr × Obj)} {vs : List Value} {ts : List Int}
    (X : (kH w.params).In g) (T : Top kV (looseW kV []) mean mg mb g) (F : Fr g L h m) (N : News g L h news)
    (m1 : m (Str.ofString "tray") = some (.ref tray)) (m2 : m (Str.ofString "design") = some (.ref x)) (m3 : m (Str.ofString "many") = some (.int n u)) (m4 : m (Str.ofString "links") = some (.ref lnk))
    (hc : (L + 1, wc) ∈ news) (hw : wc.data = .cell (some (.ref tch))) (R : Rig news (L + 1) tch lnk r x dx lks es [] [] [] [] n 0) (hn : n ≤ 4)
    (ht : (tray, listOf vs.toArray n1) ∈ news) (hi : IntsAre vs ts) (hl : vs.length ≤ 1000) (tr : ∀ a ∈ (L + 1) :: tch :: lnk :: r :: x :: dx :: lks, @Ne Nat tray a)
    (g1 : getL (Str.ofString "signals") es = some (some (.ref sg))) (g2 : getL (Str.ofString "by_path") es = some (some (.ref bp))) (g5 : getL (Str.ofString "add_signal") es = some none)
    (hsg : (sg, listOf [].toArray n8) ∈ news) (hbp : (bp, ob) ∈ news) (lo : (bp == sysModules) = false) (hdo : Obj.IsDictOf (PySem.strKind PySem.Challenge.pw_on0119_01 w) ob [])
    (ne1 : @Ne Nat sg bp) (ns : ∀ a ∈ tray :: (L + 1) :: tch :: lnk :: r :: x :: dx :: lks, @Ne Nat a sg) (nb : ∀ a ∈ tray :: (L + 1) :: tch :: lnk :: r :: x :: dx :: lks, @Ne Nat a bp)
    (hdp : dp < 440) (hun : un < 1000) (hQ : ∀ h' tk', (∀ b o, g.get? b = some o → h'.get? b = some o) → Q (.ret (.bool true)) { s with heap := h', toks := tk' }) :
    wpAny (model PySem.Challenge.pw_on0119_01 w) (A0 dp un fr gd) (execs (lawB.drop 5) (lawE L fa cd)) Q (fun _ _ => False) { s with heap := h, toks := tk } := by
  conv in (List.drop _ lawB) => whnf
  unfold lawE
  conv in lawS => whnf
  rw [loc4 m1 m2 m3 m4] at F
  have hd1 := R.d1
  obtain ⟨kk, hd2⟩ := R.d2
  have hm2 : ∀ p ∈ [(sg, listOf [].toArray n8), (bp, ob)], p ∈ news := fun p hp => by
    simp only [List.mem_cons, List.not_mem_nil, or_false] at hp
    rcases hp with rfl | rfl
    · exact hsg
    · exact hbp
  k_with_none
  k_with "BACK" => ((try dsimp only [Mine.TurnEnd, PyProof.Rows.WhileStep2]); refine' Mine.back ?B ?_; (case B => assumption); (try dsimp only))
  k_with "ENTER2" => ((case kC => assumption); (case k6 => k_is); (case kb => (conv => lhs; whnf)); (case ks => (conv => lhs; whnf)); (case k7 => k_is); (case k8 => (simp only [recursionLimit]; omega)); (case k9 => exact BindsTo.of_eq rfl); (case c5 => decide); (case kB => exact locs rfl); (case c2 => exact rfl); (case c3 => exact rfl); (case c4 => exact rfl); k_whole; intro _ _ _ _ _ _ _ _ _ _ _ _ _ _ _ _ _; (try dsimp only))
  k_with "subscriptTail" => (k_here; (with_reducible show wpAny _ _ (subscriptTail _ _ (Value.ref _) (Value.int _ _)) _ _ _); k_dflt (refine' item_tupleT (Mine.has_tup ?F ?D ?M) ?a ?b ?c ?d ?_; (case F => k_asm); (case D => assumption); (case M => assumption); (case a => decide); (case b => decide); (case c => first | rfl | exact Mine.seq_zero); (case d => rfl); k_whole))
  k_with "exec While Name cons nil" => k_extra "WHILE"
  k_with "pyIter ref" => ((with_reducible show wpAny _ _ (pyIter (Value.ref _)) (fun it s₂ => LoopAtV _ _ _ _ _ _ _ _ _ it s₂) _ _); k_extra "ITER")
  k_with "call ref" => k_extra "CALL"
  k_with "call type:reversed" => k_extra "REV"
  k_with "call builtin:list.pop" => (k_here; k_dflt (first | ((with_reducible show wpAny _ _ (call (Value.builtin _) [Value.ref _]) _ _ _); refine' Mine.popLast ?F ?N ?U ?z ?_; (case F => k_asm); (case N => k_asm); (case U => k_upd); (case z => (rw [PySem.sizeLine_eq]; first | assumption | omega | exact Nat.le_of_ble_eq_true rfl))) | (refine' Mine.pop0 ?F ?N ?U ?z ?_; (case F => k_asm); (case N => k_asm); (case U => k_upd); (case z => (rw [PySem.sizeLine_eq]; first | assumption | omega | exact Nat.le_of_ble_eq_true rfl)))); intro _ _ _; (try k_sweep))
  k_with "call builtin:list.append" => (k_here; k_extra "APP"; k_dflt (refine' Mine.app_ ?F ?N ?U ?z ?_; (case F => k_asm); (case N => k_asm); (case U => k_upd); (case z => (rw [PySem.sizeLine_eq]; first | assumption | omega | exact Nat.le_of_ble_eq_true rfl))); intro _ _ _; (try k_sweep))
  k_with "USE0" => ((case F => assumption); (case N => assumption); (case C => exact Mine.at0 (by assumption) (by assumption) (by assumption)); (case hd => ((try dsimp only [Mine.A0, Around.deeper, Around.in1]); omega)); (case hu => ((try dsimp only [Mine.A0, Around.deeper, Around.in1]); omega)))
  k_with "setItem ref int" => (k_here; k_dflt (refine' setItem_K PyProof.V.same_int (intKind_is _ _ _ _) ?v ?F ?N ?U ?d ?f ?_ ?z; (case F => k_asm); (case N => k_asm); (case U => k_updF); (case d => assumption); (case f => assumption); (case z => (rw [PySem.sizeLine_eq]; first | omega | exact Nat.le_of_ble_eq_true rfl)); (case v => exact PyProof.V.Flat.bool _)); intro _ _ _ _ _ _; (try k_sweep))
  k_with "call builtin:sorted" => (k_here; k_dflt (refine' Mine.sorted_dict ?hh ?F ?N ?M ?d ?lo ?z ?_; (case hh => exact rfl); (case F => assumption); (case N => assumption); (case M => k_mem); (case d => assumption); (case lo => assumption); (case z => first | omega | exact Nat.le_of_ble_eq_true rfl)); intro _ _ _ _ _ _ _ _ _ _ _ _)
  k_with "exec For" => (k_here; (with_reducible show wpAny _ _ (exec (Stmt.For (Expr.Name _ _) _ _ [] _) _) _ _ _); (with_reducible rename Fr _ _ _ _ => kF); (with_unfolding_all refine' For_invVF kF ?k1 ?k2 ?_; (case k1 => exact rfl); (case k2 => exact rfl); k_whole))
  k_with "call type:list" => (k_here; (with_reducible show wpAny _ _ (call (Value.type _) [Value.ref _]) _ _ _); k_dflt (refine' list_copyKT ?F ?N (Mine.has_tup ?G ?D ?M) ?_ ?z; (case F => k_asm); (case N => k_asm); (case G => k_asm); (case D => assumption); (case M => assumption); (case z => exact Nat.le_of_ble_eq_true rfl)); intro _ _ _ _ _ l1; (try (replace l1 := allLt_of l1; dsimp only [AllLt] at l1; revert l1; intro _)); (try k_sweep))
  k_with "ALLQ" => (simp only [List.forall_mem_cons, List.mem_singleton, forall_eq]; assumption)
  k_with "subscriptTail" => (k_here; (with_reducible show wpAny _ _ (subscriptTail _ _ (Value.ref _) (Value.int _ _)) _ _ _); k_dflt (refine' Mine.item_dat ?F ?D ?M ?a ?b ?x ?_; (case F => k_asm); (case D => assumption); (case M => assumption); (case a => assumption); (case b => omega); (case x => assumption); k_whole))
  k_with "getAttr ref" => (k_here; k_dflt (refine' Mine.attr_dat ?F ?X ?D ?h1 ?h2 ?k4 ?k5 ?k6 ?k7 ?k8 ?k9 ?_; (case F => k_asm); (case X => k_asm); (case D => assumption); (case h1 => assumption); (case h2 => assumption); (case k4 => k_is); (case k5 => k_is); (case k6 => k_is); (case k7 => k_is); (case k8 => assumption); (case k9 => k_handed); k_whole))
  k_with "getMethod ref" => (k_here; k_dflt (refine' Mine.meth_dat ?F ?X ?D ?h1 ?h2 ?k4 ?k5 ?k6 ?k7 ?_; (case F => k_asm); (case X => k_asm); (case D => assumption); (case h1 => assumption); (case h2 => assumption); (case k4 => k_is); (case k5 => k_is); (case k6 => k_is); (case k7 => assumption); k_whole))
  k_with "compareOp NotIn int ref" => (k_here; k_dflt (refine' Mine.notin_dict ?N ?M ?d ?lo ?_; (case N => assumption); (case M => k_mem); (case d => assumption); (case lo => assumption)))
  k_with "call builtin:list.extend" => (k_here; k_extra "EXT"; k_dflt (refine' Mine.ext_ ?F ?N ?b ?U ?z ?_; (case F => k_asm); (case N => k_asm); (case b => k_mem); (case U => (intro c; k_upd)); (case z => omega)); intro _ _ _ _; (try k_sweep))
  k_with "call type:list" => (k_here; k_extra "COPY"; (with_reducible show wpAny _ _ (call (Value.type _) [Value.ref _]) _ _ _); k_dflt (refine' Mine.copy_ ?F ?N ?M ?z ?_; (case F => k_asm); (case N => k_asm); (case M => k_mem); (case z => omega)); intro _ _ _ _ _ l1; (try (replace l1 := allLt_of l1; dsimp only [AllLt] at l1; revert l1; intro _)); (try k_sweep))
  k_with "truthy ref" => (k_here; k_extra "TRU"; (with_reducible show wpAny _ _ (truthy (Value.ref _)) _ _ _); k_dflt (refine' Mine.truthy_ ?N ?M ?z ?_; (case N => k_asm); (case M => k_mem); (case z => first | assumption | omega)); intro _)
  k_with "USE1" => ((case F => assumption); (case N => assumption); (case U => k_updF); (case C => exact Mine.at1 (by assumption) (by assumption) (by assumption) (by assumption) (by k_mem)); (case hd => ((try dsimp only [Mine.A0, Around.deeper, Around.in1]); omega)); (case hu => ((try dsimp only [Mine.A0, Around.deeper, Around.in1]); omega)))
  k_with "setItem ref int" => (k_here; (with_reducible show wpAny _ _ (setItem (Value.ref _) (Value.int _ _) _) _ _ _); k_dflt (refine' Mine.set_ ?F ?N ?a ?b ?c ?U ?_; (case F => k_asm); (case N => k_asm); (case U => k_upd); (case a => omega); (case b => omega); (case c => omega)); intro _ _ _; (try k_sweep))
  k_with "exec Assign cons ListComp" => k_extra "COMP"
  k_with "eval ListComp" => k_extra "COMPE"
  k_with "CompSrc" => k_extra "CSRC"
  k_with "binaryOp Mult ref int" => k_extra "MUL"
  k_with "TAILS" => (intro p hp; repeat (first | exact hp | refine List.Mem.tail _ ?_))
  k_with "getMethod ref" => (k_here; k_dflt (refine' Mine.meth_news ?F ?X ?N ?h1 ?h2 ?S ?k4 ?k5 ?k6 ?k7 ?_; (case F => k_asm); (case X => k_asm); (case N => k_asm); (case h1 => assumption); (case h2 => assumption); (case S => walk_at "TAILS"); (case k4 => k_is); (case k5 => k_is); (case k6 => k_is); (case k7 => assumption); k_whole))
  k_with "GOFF" => (refine Mine.off3 ?_; repeat' (first | exact List.forall_mem_nil _ | assumption | refine List.forall_mem_cons.mpr ⟨⟨by (dsimp only; omega), by (dsimp only; omega), by (dsimp only; omega)⟩, ?_⟩))
  k_with "GCUP" => (unfold Mine.Stop; rintro v' h' tk' o' tl F' N' ho ⟨e1, vs1, n1', ts1, c, u, hm1, hi1, hl4, e2, hc0, hc1⟩; cases hm1; cases e1; cases e2; (try simp only [List.nil_append] at N'); clear ho)
  k_with "eval Constant int" => (k_here; (k_dflt (refine' Mine.const_int ?_)); intro _ _)
  k_with "eval Constant str" => (k_here; (k_dflt (refine' Mine.const_str ?_)); intro _ _)
  k_with "newTuple" => (k_here; k_dflt (refine' kup_newTuple ?F ?N ?_ ?z; (case F => k_asm); (case N => k_asm); (case z => exact Nat.le_of_ble_eq_true rfl)); intro _ _ _ _ l1; (try (replace l1 := allLt_of l1; dsimp only [AllLt] at l1; revert l1; intro _)); (try k_sweep))
  k_with "newList" => (k_here; k_dflt (refine' newList_K ?k1 ?k2 ?_; (case k1 => k_asm); (case k2 => k_asm); k_whole); intro _ _ _ _ l1; (try (replace l1 := allLt_of l1; dsimp only [AllLt] at l1; revert l1; intro _)); (try k_sweep))
  k_with "CALL" => (refine stop_at ?_)
  k_steps
  unfold Stop
  refine useF (mods := [(sg, listOf [].toArray n8), (bp, ob)]) (by assumption) N hm2 (add_signal_spec (dat := [(x, instObj 258 dx), (dx, dictOf es kk)]) (atL X T (by assumption) N hm2) ?_ ?_ (.head _) (.tail _ (.head _)) g1 g2 ne1 lo hdo .nil (by omega) (by omega)) ?_
  · intro z hz
    simp only [List.mem_cons, List.not_mem_nil, or_false] at hz
    rcases hz with rfl | rfl
    · exact (N _ hd1).1
    · exact (N _ hd2).1
  · intro z hz
    simp only [List.mem_cons, List.not_mem_nil, or_false] at hz
    rcases hz with rfl | rfl
    · exact not_two (ns x (by simp)) (nb x (by simp))
    · exact not_two (ns dx (by simp)) (nb dx (by simp))
  rintro v' h2 tk2 mods' tl F2 N2 ha ho -
  obtain ⟨D2, N3, hD2, kp2, km2⟩ := after_call N2 ha hm2 ho
  have keep : ∀ p ∈ news, p.1 ∈ tray :: (L + 1) :: tch :: lnk :: r :: x :: dx :: lks → p ∈ tl ++ D2 := fun p hp hh => List.mem_append_right _ (kp2 p hp (not_two (ns _ hh) (nb _ hh)))
  exact law_6 X T F2 N3 rfl rfl rfl rfl (keep _ hc (by simp)) hw (R.mono fun p hp hh => keep p hp (hh.elim (fun h => .tail _ h) fun h => nomatch h)) hn (keep _ ht (.head _)) hi hl tr hdp hun hQ
end Mine
namespace Mine
theorem DesAt.turn {w : World} {news D : List (Addr × Obj)} {x dx sg bp r tray ce : Addr} {es : List DictEntry} {k n8 n9 : Nat} {ob tob tob' : Obj} (H : DesAt w news x dx sg bp r tray ce es k n8 n9 ob tob) (sub : ∀ p ∈ news, @Ne Nat p.1 tray → p ∈ D) (ht : (tray, tob') ∈ D) : DesAt w D x dx sg bp r tray ce es k n8 n9 ob tob' :=
  { H with h1 := sub _ H.h1 (Ne.symm H.c11), h2 := sub _ H.h2 (Ne.symm H.c12), h3 := sub _ H.h3 (Ne.symm H.ne4), h4 := sub _ H.h4 (Ne.symm H.ne5), h5 := sub _ H.h5 (Ne.symm H.c7), h6 := ht }
theorem law_2 {w : World} {mg mb : Str → Option Value} {mean : ExcName → Option Value} {g h : Heap} {L fa : Addr} {cd : Value} {s : Shared} {tk : Nat} {m : Str → Option Value} {dp un : Nat} {fr : Option (List Env)} {gd : Option (List Code)} {Q : Flow → Shared → Prop}
    {n0 k n8 n9 : Nat} {x dx r tray sg bp : Addr} {wc ob : Obj} {es : List DictEntry} {news : List (Addr × Obj)} {vs : List Value} {ts : List Int} {v₀ : Option Value}
    (X : (kH w.params).In g) (T : Top kV (looseW kV []) mean mg mb g) (F : Fr g L h m) (N : News g L h news)
    (m1 : m (Str.ofString "tray") = some (.ref tray)) (m2 : m (Str.ofString "design") = some (.ref x))
    (hc : (L + 1, wc) ∈ news) (hw : wc.data = .cell v₀) (H : DesAt w news x dx sg bp r tray (L + 1) es k n8 n9 ob (listOf vs.toArray n0)) (hi : IntsAre vs ts) (hl : vs.length ≤ 1000)
    (hdp : dp < 440) (hun : un < 1000) (hQ : ∀ h' tk', (∀ b o, g.get? b = some o → h'.get? b = some o) → Q (.ret (.bool true)) { s with heap := h', toks := tk' }) :
    wpAny (model PySem.Challenge.pw_on0119_01 w) (A0 dp un fr gd) (execs (lawB.drop 2) (lawE L fa cd)) Q (fun _ _ => False) { s with heap := h, toks := tk } := by
  conv in (List.drop _ lawB) => whnf
  unfold lawE
  conv in lawS => whnf
  rw [loc2 m1 m2] at F
  have hm1 : ∀ p ∈ [(tray, listOf vs.toArray n0)], p ∈ news := fun p hp => by rw [List.mem_singleton.mp hp]; exact H.h6
  k_with_none
  k_with "BACK" => ((try dsimp only [Mine.TurnEnd, PyProof.Rows.WhileStep2]); refine' Mine.back ?B ?_; (case B => assumption); (try dsimp only))
  k_with "ENTER2" => ((case kC => assumption); (case k6 => k_is); (case kb => (conv => lhs; whnf)); (case ks => (conv => lhs; whnf)); (case k7 => k_is); (case k8 => (simp only [recursionLimit]; omega)); (case k9 => exact BindsTo.of_eq rfl); (case c5 => decide); (case kB => exact locs rfl); (case c2 => exact rfl); (case c3 => exact rfl); (case c4 => exact rfl); k_whole; intro _ _ _ _ _ _ _ _ _ _ _ _ _ _ _ _ _; (try dsimp only))
  k_with "subscriptTail" => (k_here; (with_reducible show wpAny _ _ (subscriptTail _ _ (Value.ref _) (Value.int _ _)) _ _ _); k_dflt (refine' item_tupleT (Mine.has_tup ?F ?D ?M) ?a ?b ?c ?d ?_; (case F => k_asm); (case D => assumption); (case M => assumption); (case a => decide); (case b => decide); (case c => first | rfl | exact Mine.seq_zero); (case d => rfl); k_whole))
  k_with "exec While Name cons nil" => k_extra "WHILE"
  k_with "pyIter ref" => ((with_reducible show wpAny _ _ (pyIter (Value.ref _)) (fun it s₂ => LoopAtV _ _ _ _ _ _ _ _ _ it s₂) _ _); k_extra "ITER")
  k_with "call ref" => k_extra "CALL"
  k_with "call type:reversed" => k_extra "REV"
  k_with "call builtin:list.pop" => (k_here; k_dflt (first | ((with_reducible show wpAny _ _ (call (Value.builtin _) [Value.ref _]) _ _ _); refine' Mine.popLast ?F ?N ?U ?z ?_; (case F => k_asm); (case N => k_asm); (case U => k_upd); (case z => (rw [PySem.sizeLine_eq]; first | assumption | omega | exact Nat.le_of_ble_eq_true rfl))) | (refine' Mine.pop0 ?F ?N ?U ?z ?_; (case F => k_asm); (case N => k_asm); (case U => k_upd); (case z => (rw [PySem.sizeLine_eq]; first | assumption | omega | exact Nat.le_of_ble_eq_true rfl)))); intro _ _ _; (try k_sweep))
  k_with "call builtin:list.append" => (k_here; k_extra "APP"; k_dflt (refine' Mine.app_ ?F ?N ?U ?z ?_; (case F => k_asm); (case N => k_asm); (case U => k_upd); (case z => (rw [PySem.sizeLine_eq]; first | assumption | omega | exact Nat.le_of_ble_eq_true rfl))); intro _ _ _; (try k_sweep))
  k_with "USE0" => ((case F => assumption); (case N => assumption); (case C => exact Mine.at0 (by assumption) (by assumption) (by assumption)); (case hd => ((try dsimp only [Mine.A0, Around.deeper, Around.in1]); omega)); (case hu => ((try dsimp only [Mine.A0, Around.deeper, Around.in1]); omega)))
  k_with "setItem ref int" => (k_here; k_dflt (refine' setItem_K PyProof.V.same_int (intKind_is _ _ _ _) ?v ?F ?N ?U ?d ?f ?_ ?z; (case F => k_asm); (case N => k_asm); (case U => k_updF); (case d => assumption); (case f => assumption); (case z => (rw [PySem.sizeLine_eq]; first | omega | exact Nat.le_of_ble_eq_true rfl)); (case v => exact PyProof.V.Flat.bool _)); intro _ _ _ _ _ _; (try k_sweep))
  k_with "call builtin:sorted" => (k_here; k_dflt (refine' Mine.sorted_dict ?hh ?F ?N ?M ?d ?lo ?z ?_; (case hh => exact rfl); (case F => assumption); (case N => assumption); (case M => k_mem); (case d => assumption); (case lo => assumption); (case z => first | omega | exact Nat.le_of_ble_eq_true rfl)); intro _ _ _ _ _ _ _ _ _ _ _ _)
  k_with "exec For" => (k_here; (with_reducible show wpAny _ _ (exec (Stmt.For (Expr.Name _ _) _ _ [] _) _) _ _ _); (with_reducible rename Fr _ _ _ _ => kF); (with_unfolding_all refine' For_invVF kF ?k1 ?k2 ?_; (case k1 => exact rfl); (case k2 => exact rfl); k_whole))
  k_with "call type:list" => (k_here; (with_reducible show wpAny _ _ (call (Value.type _) [Value.ref _]) _ _ _); k_dflt (refine' list_copyKT ?F ?N (Mine.has_tup ?G ?D ?M) ?_ ?z; (case F => k_asm); (case N => k_asm); (case G => k_asm); (case D => assumption); (case M => assumption); (case z => exact Nat.le_of_ble_eq_true rfl)); intro _ _ _ _ _ l1; (try (replace l1 := allLt_of l1; dsimp only [AllLt] at l1; revert l1; intro _)); (try k_sweep))
  k_with "ALLQ" => (simp only [List.forall_mem_cons, List.mem_singleton, forall_eq]; assumption)
  k_with "subscriptTail" => (k_here; (with_reducible show wpAny _ _ (subscriptTail _ _ (Value.ref _) (Value.int _ _)) _ _ _); k_dflt (refine' Mine.item_dat ?F ?D ?M ?a ?b ?x ?_; (case F => k_asm); (case D => assumption); (case M => assumption); (case a => assumption); (case b => omega); (case x => assumption); k_whole))
  k_with "getAttr ref" => (k_here; k_dflt (refine' Mine.attr_dat ?F ?X ?D ?h1 ?h2 ?k4 ?k5 ?k6 ?k7 ?k8 ?k9 ?_; (case F => k_asm); (case X => k_asm); (case D => assumption); (case h1 => assumption); (case h2 => assumption); (case k4 => k_is); (case k5 => k_is); (case k6 => k_is); (case k7 => k_is); (case k8 => assumption); (case k9 => k_handed); k_whole))
  k_with "getMethod ref" => (k_here; k_dflt (refine' Mine.meth_dat ?F ?X ?D ?h1 ?h2 ?k4 ?k5 ?k6 ?k7 ?_; (case F => k_asm); (case X => k_asm); (case D => assumption); (case h1 => assumption); (case h2 => assumption); (case k4 => k_is); (case k5 => k_is); (case k6 => k_is); (case k7 => assumption); k_whole))
  k_with "compareOp NotIn int ref" => (k_here; k_dflt (refine' Mine.notin_dict ?N ?M ?d ?lo ?_; (case N => assumption); (case M => k_mem); (case d => assumption); (case lo => assumption)))
  k_with "call builtin:list.extend" => (k_here; k_extra "EXT"; k_dflt (refine' Mine.ext_ ?F ?N ?b ?U ?z ?_; (case F => k_asm); (case N => k_asm); (case b => k_mem); (case U => (intro c; k_upd)); (case z => omega)); intro _ _ _ _; (try k_sweep))
  k_with "call type:list" => (k_here; k_extra "COPY"; (with_reducible show wpAny _ _ (call (Value.type _) [Value.ref _]) _ _ _); k_dflt (refine' Mine.copy_ ?F ?N ?M ?z ?_; (case F => k_asm); (case N => k_asm); (case M => k_mem); (case z => omega)); intro _ _ _ _ _ l1; (try (replace l1 := allLt_of l1; dsimp only [AllLt] at l1; revert l1; intro _)); (try k_sweep))
  k_with "truthy ref" => (k_here; k_extra "TRU"; (with_reducible show wpAny _ _ (truthy (Value.ref _)) _ _ _); k_dflt (refine' Mine.truthy_ ?N ?M ?z ?_; (case N => k_asm); (case M => k_mem); (case z => first | assumption | omega)); intro _)
  k_with "USE1" => ((case F => assumption); (case N => assumption); (case U => k_updF); (case C => exact Mine.at1 (by assumption) (by assumption) (by assumption) (by assumption) (by k_mem)); (case hd => ((try dsimp only [Mine.A0, Around.deeper, Around.in1]); omega)); (case hu => ((try dsimp only [Mine.A0, Around.deeper, Around.in1]); omega)))
  k_with "setItem ref int" => (k_here; (with_reducible show wpAny _ _ (setItem (Value.ref _) (Value.int _ _) _) _ _ _); k_dflt (refine' Mine.set_ ?F ?N ?a ?b ?c ?U ?_; (case F => k_asm); (case N => k_asm); (case U => k_upd); (case a => omega); (case b => omega); (case c => omega)); intro _ _ _; (try k_sweep))
  k_with "exec Assign cons ListComp" => k_extra "COMP"
  k_with "eval ListComp" => k_extra "COMPE"
  k_with "CompSrc" => k_extra "CSRC"
  k_with "binaryOp Mult ref int" => k_extra "MUL"
  k_with "TAILS" => (intro p hp; repeat (first | exact hp | refine List.Mem.tail _ ?_))
  k_with "getMethod ref" => (k_here; k_dflt (refine' Mine.meth_news ?F ?X ?N ?h1 ?h2 ?S ?k4 ?k5 ?k6 ?k7 ?_; (case F => k_asm); (case X => k_asm); (case N => k_asm); (case h1 => assumption); (case h2 => assumption); (case S => walk_at "TAILS"); (case k4 => k_is); (case k5 => k_is); (case k6 => k_is); (case k7 => assumption); k_whole))
  k_with "GOFF" => (refine Mine.off3 ?_; repeat' (first | exact List.forall_mem_nil _ | assumption | refine List.forall_mem_cons.mpr ⟨⟨by (dsimp only; omega), by (dsimp only; omega), by (dsimp only; omega)⟩, ?_⟩))
  k_with "GCUP" => (unfold Mine.Stop; rintro v' h' tk' o' tl F' N' ho ⟨e1, vs1, n1', ts1, c, u, hm1, hi1, hl4, e2, hc0, hc1⟩; cases hm1; cases e1; cases e2; (try simp only [List.nil_append] at N'); clear ho)
  k_with "eval Constant int" => (k_here; (k_dflt (refine' Mine.const_int ?_)); intro _ _)
  k_with "eval Constant str" => (k_here; (k_dflt (refine' Mine.const_str ?_)); intro _ _)
  k_with "newTuple" => (k_here; k_dflt (refine' kup_newTuple ?F ?N ?_ ?z; (case F => k_asm); (case N => k_asm); (case z => exact Nat.le_of_ble_eq_true rfl)); intro _ _ _ _ l1; (try (replace l1 := allLt_of l1; dsimp only [AllLt] at l1; revert l1; intro _)); (try k_sweep))
  k_with "newList" => (k_here; k_dflt (refine' newList_K ?k1 ?k2 ?_; (case k1 => k_asm); (case k2 => k_asm); k_whole); intro _ _ _ _ l1; (try (replace l1 := allLt_of l1; dsimp only [AllLt] at l1; revert l1; intro _)); (try k_sweep))
  k_with "CALL" => (refine stop_at ?_)
  k_steps
  unfold Stop
  refine useF (by assumption) N hm1 (cup_spec (atL X T (by assumption) N hm1) hi (by decide) (by decide) (by omega) (by omega) (by omega)) ?_
  rintro v' h2 tk2 mods' tl F2 N2 ha ho ⟨rfl, vs1, n1, ks1, M, u, rfl, hi1, hl1, rfl, hM0, hM1⟩
  obtain ⟨D, N3, hD3, kp3, km3⟩ := after_call N2 ha hm1 ho
  simp only [List.nil_append] at N3
  have hDes := H.turn (fun p hp hne => kp3 p hp (not_one hne)) (km3 _ (.head _))
  have hcD := kp3 _ hc (not_one (Ne.symm H.c6))
  clear H hm1 N2 ha ho hD3 kp3 km3
  obtain ⟨n, rfl⟩ : ∃ n : Nat, M = (n : Int) := ⟨M.toNat, by omega⟩
  have hn4 : n ≤ 4 := by omega
  k_with_none
  k_with "BACK" => ((try dsimp only [Mine.TurnEnd, PyProof.Rows.WhileStep2]); refine' Mine.back ?B ?_; (case B => assumption); (try dsimp only))
  k_with "ENTER2" => ((case kC => assumption); (case k6 => k_is); (case kb => (conv => lhs; whnf)); (case ks => (conv => lhs; whnf)); (case k7 => k_is); (case k8 => (simp only [recursionLimit]; omega)); (case k9 => exact BindsTo.of_eq rfl); (case c5 => decide); (case kB => exact locs rfl); (case c2 => exact rfl); (case c3 => exact rfl); (case c4 => exact rfl); k_whole; intro _ _ _ _ _ _ _ _ _ _ _ _ _ _ _ _ _; (try dsimp only))
  k_with "subscriptTail" => (k_here; (with_reducible show wpAny _ _ (subscriptTail _ _ (Value.ref _) (Value.int _ _)) _ _ _); k_dflt (refine' item_tupleT (Mine.has_tup ?F ?D ?M) ?a ?b ?c ?d ?_; (case F => k_asm); (case D => assumption); (case M => assumption); (case a => decide); (case b => decide); (case c => first | rfl | exact Mine.seq_zero); (case d => rfl); k_whole))
  k_with "exec While Name cons nil" => k_extra "WHILE"
  k_with "pyIter ref" => ((with_reducible show wpAny _ _ (pyIter (Value.ref _)) (fun it s₂ => LoopAtV _ _ _ _ _ _ _ _ _ it s₂) _ _); k_extra "ITER")
  k_with "call ref" => k_extra "CALL"
  k_with "call type:reversed" => k_extra "REV"
  k_with "call builtin:list.pop" => (k_here; k_dflt (first | ((with_reducible show wpAny _ _ (call (Value.builtin _) [Value.ref _]) _ _ _); refine' Mine.popLast ?F ?N ?U ?z ?_; (case F => k_asm); (case N => k_asm); (case U => k_upd); (case z => (rw [PySem.sizeLine_eq]; first | assumption | omega | exact Nat.le_of_ble_eq_true rfl))) | (refine' Mine.pop0 ?F ?N ?U ?z ?_; (case F => k_asm); (case N => k_asm); (case U => k_upd); (case z => (rw [PySem.sizeLine_eq]; first | assumption | omega | exact Nat.le_of_ble_eq_true rfl)))); intro _ _ _; (try k_sweep))
  k_with "call builtin:list.append" => (k_here; k_extra "APP"; k_dflt (refine' Mine.app_ ?F ?N ?U ?z ?_; (case F => k_asm); (case N => k_asm); (case U => k_upd); (case z => (rw [PySem.sizeLine_eq]; first | assumption | omega | exact Nat.le_of_ble_eq_true rfl))); intro _ _ _; (try k_sweep))
  k_with "USE0" => ((case F => assumption); (case N => assumption); (case C => exact Mine.at0 (by assumption) (by assumption) (by assumption)); (case hd => ((try dsimp only [Mine.A0, Around.deeper, Around.in1]); omega)); (case hu => ((try dsimp only [Mine.A0, Around.deeper, Around.in1]); omega)))
  k_with "setItem ref int" => (k_here; k_dflt (refine' setItem_K PyProof.V.same_int (intKind_is _ _ _ _) ?v ?F ?N ?U ?d ?f ?_ ?z; (case F => k_asm); (case N => k_asm); (case U => k_updF); (case d => assumption); (case f => assumption); (case z => (rw [PySem.sizeLine_eq]; first | omega | exact Nat.le_of_ble_eq_true rfl)); (case v => exact PyProof.V.Flat.bool _)); intro _ _ _ _ _ _; (try k_sweep))
  k_with "call builtin:sorted" => (k_here; k_dflt (refine' Mine.sorted_dict ?hh ?F ?N ?M ?d ?lo ?z ?_; (case hh => exact rfl); (case F => assumption); (case N => assumption); (case M => k_mem); (case d => assumption); (case lo => assumption); (case z => first | omega | exact Nat.le_of_ble_eq_true rfl)); intro _ _ _ _ _ _ _ _ _ _ _ _)
  k_with "exec For" => (k_here; (with_reducible show wpAny _ _ (exec (Stmt.For (Expr.Name _ _) _ _ [] _) _) _ _ _); (with_reducible rename Fr _ _ _ _ => kF); (with_unfolding_all refine' For_invVF kF ?k1 ?k2 ?_; (case k1 => exact rfl); (case k2 => exact rfl); k_whole))
  k_with "call type:list" => (k_here; (with_reducible show wpAny _ _ (call (Value.type _) [Value.ref _]) _ _ _); k_dflt (refine' list_copyKT ?F ?N (Mine.has_tup ?G ?D ?M) ?_ ?z; (case F => k_asm); (case N => k_asm); (case G => k_asm); (case D => assumption); (case M => assumption); (case z => exact Nat.le_of_ble_eq_true rfl)); intro _ _ _ _ _ l1; (try (replace l1 := allLt_of l1; dsimp only [AllLt] at l1; revert l1; intro _)); (try k_sweep))
  k_with "ALLQ" => (simp only [List.forall_mem_cons, List.mem_singleton, forall_eq]; assumption)
  k_with "subscriptTail" => (k_here; (with_reducible show wpAny _ _ (subscriptTail _ _ (Value.ref _) (Value.int _ _)) _ _ _); k_dflt (refine' Mine.item_dat ?F ?D ?M ?a ?b ?x ?_; (case F => k_asm); (case D => assumption); (case M => assumption); (case a => assumption); (case b => omega); (case x => assumption); k_whole))
  k_with "getAttr ref" => (k_here; k_dflt (refine' Mine.attr_dat ?F ?X ?D ?h1 ?h2 ?k4 ?k5 ?k6 ?k7 ?k8 ?k9 ?_; (case F => k_asm); (case X => k_asm); (case D => assumption); (case h1 => assumption); (case h2 => assumption); (case k4 => k_is); (case k5 => k_is); (case k6 => k_is); (case k7 => k_is); (case k8 => assumption); (case k9 => k_handed); k_whole))
  k_with "getMethod ref" => (k_here; k_dflt (refine' Mine.meth_dat ?F ?X ?D ?h1 ?h2 ?k4 ?k5 ?k6 ?k7 ?_; (case F => k_asm); (case X => k_asm); (case D => assumption); (case h1 => assumption); (case h2 => assumption); (case k4 => k_is); (case k5 => k_is); (case k6 => k_is); (case k7 => assumption); k_whole))
  k_with "compareOp NotIn int ref" => (k_here; k_dflt (refine' Mine.notin_dict ?N ?M ?d ?lo ?_; (case N => assumption); (case M => k_mem); (case d => assumption); (case lo => assumption)))
  k_with "call builtin:list.extend" => (k_here; k_extra "EXT"; k_dflt (refine' Mine.ext_ ?F ?N ?b ?U ?z ?_; (case F => k_asm); (case N => k_asm); (case b => k_mem); (case U => (intro c; k_upd)); (case z => omega)); intro _ _ _ _; (try k_sweep))
  k_with "call type:list" => (k_here; k_extra "COPY"; (with_reducible show wpAny _ _ (call (Value.type _) [Value.ref _]) _ _ _); k_dflt (refine' Mine.copy_ ?F ?N ?M ?z ?_; (case F => k_asm); (case N => k_asm); (case M => k_mem); (case z => omega)); intro _ _ _ _ _ l1; (try (replace l1 := allLt_of l1; dsimp only [AllLt] at l1; revert l1; intro _)); (try k_sweep))
  k_with "truthy ref" => (k_here; k_extra "TRU"; (with_reducible show wpAny _ _ (truthy (Value.ref _)) _ _ _); k_dflt (refine' Mine.truthy_ ?N ?M ?z ?_; (case N => k_asm); (case M => k_mem); (case z => first | assumption | omega)); intro _)
  k_with "USE1" => ((case F => assumption); (case N => assumption); (case U => k_updF); (case C => exact Mine.at1 (by assumption) (by assumption) (by assumption) (by assumption) (by k_mem)); (case hd => ((try dsimp only [Mine.A0, Around.deeper, Around.in1]); omega)); (case hu => ((try dsimp only [Mine.A0, Around.deeper, Around.in1]); omega)))
  k_with "setItem ref int" => (k_here; (with_reducible show wpAny _ _ (setItem (Value.ref _) (Value.int _ _) _) _ _ _); k_dflt (refine' Mine.set_ ?F ?N ?a ?b ?c ?U ?_; (case F => k_asm); (case N => k_asm); (case U => k_upd); (case a => omega); (case b => omega); (case c => omega)); intro _ _ _; (try k_sweep))
  k_with "exec Assign cons ListComp" => k_extra "COMP"
  k_with "eval ListComp" => k_extra "COMPE"
  k_with "CompSrc" => k_extra "CSRC"
  k_with "binaryOp Mult ref int" => k_extra "MUL"
  k_with "TAILS" => (intro p hp; repeat (first | exact hp | refine List.Mem.tail _ ?_))
  k_with "getMethod ref" => (k_here; k_dflt (refine' Mine.meth_news ?F ?X ?N ?h1 ?h2 ?S ?k4 ?k5 ?k6 ?k7 ?_; (case F => k_asm); (case X => k_asm); (case N => k_asm); (case h1 => assumption); (case h2 => assumption); (case S => walk_at "TAILS"); (case k4 => k_is); (case k5 => k_is); (case k6 => k_is); (case k7 => assumption); k_whole))
  k_with "GOFF" => (refine Mine.off3 ?_; repeat' (first | exact List.forall_mem_nil _ | assumption | refine List.forall_mem_cons.mpr ⟨⟨by (dsimp only; omega), by (dsimp only; omega), by (dsimp only; omega)⟩, ?_⟩))
  k_with "GCUP" => (unfold Mine.Stop; rintro v' h' tk' o' tl F' N' ho ⟨e1, vs1, n1', ts1, c, u, hm1, hi1, hl4, e2, hc0, hc1⟩; cases hm1; cases e1; cases e2; (try simp only [List.nil_append] at N'); clear ho)
  k_with "eval Constant int" => (k_here; (k_dflt (refine' Mine.const_int ?_)); intro _ _)
  k_with "eval Constant str" => (k_here; (k_dflt (refine' Mine.const_str ?_)); intro _ _)
  k_with "newTuple" => (k_here; k_dflt (refine' kup_newTuple ?F ?N ?_ ?z; (case F => k_asm); (case N => k_asm); (case z => exact Nat.le_of_ble_eq_true rfl)); intro _ _ _ _ l1; (try (replace l1 := allLt_of l1; dsimp only [AllLt] at l1; revert l1; intro _)); (try k_sweep))
  k_with "newList" => (k_here; k_dflt (refine' newList_K ?k1 ?k2 ?_; (case k1 => k_asm); (case k2 => k_asm); k_whole); intro _ _ _ _ l1; (try (replace l1 := allLt_of l1; dsimp only [AllLt] at l1; revert l1; intro _)); (try k_sweep))
  k_with "COMP" => (k_dflt (refine LCg.Assign_ListComp_U (F₀ := by k_asm) (by rfl) (by with_unfolding_all rfl) (by with_unfolding_all rfl) (by decide) (by rfl) (by decide) (by rfl) (by rfl) (by rfl) ?_))
  k_with "CSRC" => (refine stop_at ?_)
  k_steps
  unfold Stop
  rename_i hR FF NN hkk
  obtain ⟨hs1, hs2⟩ := range_small (n := n) (by omega)
  refine LCg.CompSrc.range rfl FF NN hR hs1 hs2 (by rw [sizeLine_eq]; omega) ?_
  clear FF NN hR hkk
  intro g9
  refine lists_rest n 0 [] _ fun lks hlen hasc hlt => ?_
  unfold LCg.FinA
  intro lnk h9 tk9 F9 N9 o9
  obtain ⟨DAT, N10, hD10, sub10⟩ := news_split N9 (.tail _ (List.mem_append_right _ hcD))
  k_with "MUL" => (refine stop_at ?_)
  k_steps
  unfold Stop
  (refine' KMa.mul (ws := List.replicate n (.bool false)) ?F ?N ?l ?mlo ?mhi ?mz ?me ?_)
  (case F => k_asm)
  (case N => k_asm)
  (case l => is_list)
  (case mlo => omega)
  (case mhi => omega)
  (case mz => simp; omega)
  (case me => rw [Int.toNat_natCast]; exact flat_rep _ _)
  intro tch h' F' N' l1
  have hct : @LT.lt Nat _ (L + 1) tch := l1 _ (.tail _ (.head _))
  have hDt : ∀ p ∈ DAT, @LT.lt Nat _ p.1 tch := fun p hp => l1 p (.tail _ (.tail _ hp))
  have N11 := News.sub (news' := (L + 1, wc) :: (tch, listOf (List.replicate n (Value.bool false)).toArray 0) :: DAT) N' (fun p hp => by
    rcases List.mem_cons.mp hp with rfl | hp
    · exact .tail _ (.tail _ (.head _))
    · rcases List.mem_cons.mp hp with rfl | hp
      · exact .head _
      · exact .tail _ (.tail _ (.tail _ hp)))
  have hU : ∀ p ∈ (tch, listOf (List.replicate n (Value.bool false)).toArray 0) :: DAT, p.1 ≠ L + 1 := fun p hp => (List.mem_cons.mp hp).elim (fun e => e ▸ Nat.ne_of_gt hct) fun hp => hD10 p hp
  k_dflt (refine' storeX_C F' N11 (c := L + 1) (o := wc) ?hc (UpdF.head hU) hw ?h ?hk ?hx)
  case hc => rfl
  case hk => rfl
  case hx => rfl
  intro h2 o2 F2 N2 hd2
  have ho9 := off1_mem o9
  have hlc : @Ne Nat lnk (L + 1) := Ne.symm (ho9 _ (List.mem_append_right _ hcD))
  have hkc : ∀ a ∈ lks, @Ne Nat a (L + 1) := fun a ha => Nat.ne_of_gt (hlt _ hcD a ha)
  have hlD := sub10 _ (.head _) hlc
  have hkD : ∀ a ∈ lks, (a, listOf #[] 0) ∈ DAT := fun a ha => sub10 _ (.tail _ (List.mem_append_left _ (List.mem_reverse.mpr (List.mem_map_of_mem ha)))) (hkc a ha)
  have sub2 : ∀ p ∈ DAT, p ∈ (L + 1, o2) :: (tch, listOf (List.replicate n (Value.bool false)).toArray 0) :: DAT := fun p hp => .tail _ (.tail _ hp)
  obtain ⟨R, tr, ns, nb⟩ := rig0 (news := (L + 1, o2) :: (tch, listOf (List.replicate n (Value.bool false)).toArray 0) :: DAT) hDes hcD hlen hasc hlt (sub2 _ hlD) (fun p hp => ho9 p (List.mem_append_right _ hp)) (fun a ha => ho9 _ (List.mem_append_left _ (List.mem_reverse.mpr (List.mem_map_of_mem ha))))
    (fun p hp => if e : p.1 = L + 1 then e ▸ hct else hDt p (sub10 p (in_app hp) e)) (hDt _ hlD) (fun a ha => hDt _ (hkD a ha)) (.tail _ (.head _)) (fun a ha => sub2 _ (hkD a ha)) (fun p hp hne => sub2 _ (sub10 p (in_app hp) hne))
  exact law_5 (cd := cd) (fa := fa) X T F2 N2 rfl rfl rfl rfl (.head _) hd2 R hn4 (sub2 _ (sub10 _ (in_app hDes.h6) hDes.c6)) hi1 (by omega) tr hDes.g1 hDes.g2 hDes.g5 (sub2 _ (sub10 _ (in_app hDes.h3) hDes.c3)) (sub2 _ (sub10 _ (in_app hDes.h4) hDes.c4)) hDes.lo hDes.hdo hDes.ne1 ns nb hdp hun hQ
end Mine
namespace Mine
theorem law_0 {w : World} {mg mb : Str → Option Value} {mean : ExcName → Option Value} {g h : Heap} {L fa sa : Addr} {cd : Value} {s : Shared} {tk : Nat} {m : Str → Option Value} {dp un : Nat} {fr : Option (List Env)} {gd : Option (List Code)} {Q : Flow → Shared → Prop}
    {wc : Obj} {svs : List Value} {script : List Int} {v₀ : Option Value}
    (X : (kH w.params).In g) (T : Top kV (looseW kV []) mean mg mb g) (F : Fr g L h m) (N : News g L h [(L + 1, wc)]) (m1 : m (Str.ofString "script") = some (.ref sa)) (hw : wc.data = .cell v₀)
    (hL : g.IsList sa svs.toArray) (hI : IntsAre svs script) (hl : script.length ≤ 63)
    (hdp : dp < 440) (hun : un < 1000) (hQ : ∀ h' tk', (∀ b o, g.get? b = some o → h'.get? b = some o) → Q (.ret (.bool true)) { s with heap := h', toks := tk' }) :
    wpAny (model PySem.Challenge.pw_on0119_01 w) (A0 dp un fr gd) (execs (lawB.drop 0) (lawE L fa cd)) Q (fun _ _ => False) { s with heap := h, toks := tk } := by
  conv in (List.drop _ lawB) => whnf
  unfold lawE
  conv in lawS => whnf
  rw [loc1 m1] at F
  k_with_none
  k_with "BACK" => ((try dsimp only [Mine.TurnEnd, PyProof.Rows.WhileStep2]); refine' Mine.back ?B ?_; (case B => assumption); (try dsimp only))
  k_with "ENTER2" => ((case kC => assumption); (case k6 => k_is); (case kb => (conv => lhs; whnf)); (case ks => (conv => lhs; whnf)); (case k7 => k_is); (case k8 => (simp only [recursionLimit]; omega)); (case k9 => exact BindsTo.of_eq rfl); (case c5 => decide); (case kB => exact locs rfl); (case c2 => exact rfl); (case c3 => exact rfl); (case c4 => exact rfl); k_whole; intro _ _ _ _ _ _ _ _ _ _ _ _ _ _ _ _ _; (try dsimp only))
  k_with "subscriptTail" => (k_here; (with_reducible show wpAny _ _ (subscriptTail _ _ (Value.ref _) (Value.int _ _)) _ _ _); k_dflt (refine' item_tupleT (Mine.has_tup ?F ?D ?M) ?a ?b ?c ?d ?_; (case F => k_asm); (case D => assumption); (case M => assumption); (case a => decide); (case b => decide); (case c => first | rfl | exact Mine.seq_zero); (case d => rfl); k_whole))
  k_with "exec While Name cons nil" => k_extra "WHILE"
  k_with "pyIter ref" => ((with_reducible show wpAny _ _ (pyIter (Value.ref _)) (fun it s₂ => LoopAtV _ _ _ _ _ _ _ _ _ it s₂) _ _); k_extra "ITER")
  k_with "call ref" => k_extra "CALL"
  k_with "call type:reversed" => k_extra "REV"
  k_with "call builtin:list.pop" => (k_here; k_dflt (first | ((with_reducible show wpAny _ _ (call (Value.builtin _) [Value.ref _]) _ _ _); refine' Mine.popLast ?F ?N ?U ?z ?_; (case F => k_asm); (case N => k_asm); (case U => k_upd); (case z => (rw [PySem.sizeLine_eq]; first | assumption | omega | exact Nat.le_of_ble_eq_true rfl))) | (refine' Mine.pop0 ?F ?N ?U ?z ?_; (case F => k_asm); (case N => k_asm); (case U => k_upd); (case z => (rw [PySem.sizeLine_eq]; first | assumption | omega | exact Nat.le_of_ble_eq_true rfl)))); intro _ _ _; (try k_sweep))
  k_with "call builtin:list.append" => (k_here; k_extra "APP"; k_dflt (refine' Mine.app_ ?F ?N ?U ?z ?_; (case F => k_asm); (case N => k_asm); (case U => k_upd); (case z => (rw [PySem.sizeLine_eq]; first | assumption | omega | exact Nat.le_of_ble_eq_true rfl))); intro _ _ _; (try k_sweep))
  k_with "USE0" => ((case F => assumption); (case N => assumption); (case C => exact Mine.at0 (by assumption) (by assumption) (by assumption)); (case hd => ((try dsimp only [Mine.A0, Around.deeper, Around.in1]); omega)); (case hu => ((try dsimp only [Mine.A0, Around.deeper, Around.in1]); omega)))
  k_with "setItem ref int" => (k_here; k_dflt (refine' setItem_K PyProof.V.same_int (intKind_is _ _ _ _) ?v ?F ?N ?U ?d ?f ?_ ?z; (case F => k_asm); (case N => k_asm); (case U => k_updF); (case d => assumption); (case f => assumption); (case z => (rw [PySem.sizeLine_eq]; first | omega | exact Nat.le_of_ble_eq_true rfl)); (case v => exact PyProof.V.Flat.bool _)); intro _ _ _ _ _ _; (try k_sweep))
  k_with "call builtin:sorted" => (k_here; k_dflt (refine' Mine.sorted_dict ?hh ?F ?N ?M ?d ?lo ?z ?_; (case hh => exact rfl); (case F => assumption); (case N => assumption); (case M => k_mem); (case d => assumption); (case lo => assumption); (case z => first | omega | exact Nat.le_of_ble_eq_true rfl)); intro _ _ _ _ _ _ _ _ _ _ _ _)
  k_with "exec For" => (k_here; (with_reducible show wpAny _ _ (exec (Stmt.For (Expr.Name _ _) _ _ [] _) _) _ _ _); (with_reducible rename Fr _ _ _ _ => kF); (with_unfolding_all refine' For_invVF kF ?k1 ?k2 ?_; (case k1 => exact rfl); (case k2 => exact rfl); k_whole))
  k_with "call type:list" => (k_here; (with_reducible show wpAny _ _ (call (Value.type _) [Value.ref _]) _ _ _); k_dflt (refine' list_copyKT ?F ?N (Mine.has_tup ?G ?D ?M) ?_ ?z; (case F => k_asm); (case N => k_asm); (case G => k_asm); (case D => assumption); (case M => assumption); (case z => exact Nat.le_of_ble_eq_true rfl)); intro _ _ _ _ _ l1; (try (replace l1 := allLt_of l1; dsimp only [AllLt] at l1; revert l1; intro _)); (try k_sweep))
  k_with "ALLQ" => (simp only [List.forall_mem_cons, List.mem_singleton, forall_eq]; assumption)
  k_with "subscriptTail" => (k_here; (with_reducible show wpAny _ _ (subscriptTail _ _ (Value.ref _) (Value.int _ _)) _ _ _); k_dflt (refine' Mine.item_dat ?F ?D ?M ?a ?b ?x ?_; (case F => k_asm); (case D => assumption); (case M => assumption); (case a => assumption); (case b => omega); (case x => assumption); k_whole))
  k_with "getAttr ref" => (k_here; k_dflt (refine' Mine.attr_dat ?F ?X ?D ?h1 ?h2 ?k4 ?k5 ?k6 ?k7 ?k8 ?k9 ?_; (case F => k_asm); (case X => k_asm); (case D => assumption); (case h1 => assumption); (case h2 => assumption); (case k4 => k_is); (case k5 => k_is); (case k6 => k_is); (case k7 => k_is); (case k8 => assumption); (case k9 => k_handed); k_whole))
  k_with "getMethod ref" => (k_here; k_dflt (refine' Mine.meth_dat ?F ?X ?D ?h1 ?h2 ?k4 ?k5 ?k6 ?k7 ?_; (case F => k_asm); (case X => k_asm); (case D => assumption); (case h1 => assumption); (case h2 => assumption); (case k4 => k_is); (case k5 => k_is); (case k6 => k_is); (case k7 => assumption); k_whole))
  k_with "compareOp NotIn int ref" => (k_here; k_dflt (refine' Mine.notin_dict ?N ?M ?d ?lo ?_; (case N => assumption); (case M => k_mem); (case d => assumption); (case lo => assumption)))
  k_with "call builtin:list.extend" => (k_here; k_extra "EXT"; k_dflt (refine' Mine.ext_ ?F ?N ?b ?U ?z ?_; (case F => k_asm); (case N => k_asm); (case b => k_mem); (case U => (intro c; k_upd)); (case z => omega)); intro _ _ _ _; (try k_sweep))
  k_with "call type:list" => (k_here; k_extra "COPY"; (with_reducible show wpAny _ _ (call (Value.type _) [Value.ref _]) _ _ _); k_dflt (refine' Mine.copy_ ?F ?N ?M ?z ?_; (case F => k_asm); (case N => k_asm); (case M => k_mem); (case z => omega)); intro _ _ _ _ _ l1; (try (replace l1 := allLt_of l1; dsimp only [AllLt] at l1; revert l1; intro _)); (try k_sweep))
  k_with "truthy ref" => (k_here; k_extra "TRU"; (with_reducible show wpAny _ _ (truthy (Value.ref _)) _ _ _); k_dflt (refine' Mine.truthy_ ?N ?M ?z ?_; (case N => k_asm); (case M => k_mem); (case z => first | assumption | omega)); intro _)
  k_with "USE1" => ((case F => assumption); (case N => assumption); (case U => k_updF); (case C => exact Mine.at1 (by assumption) (by assumption) (by assumption) (by assumption) (by k_mem)); (case hd => ((try dsimp only [Mine.A0, Around.deeper, Around.in1]); omega)); (case hu => ((try dsimp only [Mine.A0, Around.deeper, Around.in1]); omega)))
  k_with "setItem ref int" => (k_here; (with_reducible show wpAny _ _ (setItem (Value.ref _) (Value.int _ _) _) _ _ _); k_dflt (refine' Mine.set_ ?F ?N ?a ?b ?c ?U ?_; (case F => k_asm); (case N => k_asm); (case U => k_upd); (case a => omega); (case b => omega); (case c => omega)); intro _ _ _; (try k_sweep))
  k_with "exec Assign cons ListComp" => k_extra "COMP"
  k_with "eval ListComp" => k_extra "COMPE"
  k_with "CompSrc" => k_extra "CSRC"
  k_with "binaryOp Mult ref int" => k_extra "MUL"
  k_with "TAILS" => (intro p hp; repeat (first | exact hp | refine List.Mem.tail _ ?_))
  k_with "getMethod ref" => (k_here; k_dflt (refine' Mine.meth_news ?F ?X ?N ?h1 ?h2 ?S ?k4 ?k5 ?k6 ?k7 ?_; (case F => k_asm); (case X => k_asm); (case N => k_asm); (case h1 => assumption); (case h2 => assumption); (case S => walk_at "TAILS"); (case k4 => k_is); (case k5 => k_is); (case k6 => k_is); (case k7 => assumption); k_whole))
  k_with "GOFF" => (refine Mine.off3 ?_; repeat' (first | exact List.forall_mem_nil _ | assumption | refine List.forall_mem_cons.mpr ⟨⟨by (dsimp only; omega), by (dsimp only; omega), by (dsimp only; omega)⟩, ?_⟩))
  k_with "GCUP" => (unfold Mine.Stop; rintro v' h' tk' o' tl F' N' ho ⟨e1, vs1, n1', ts1, c, u, hm1, hi1, hl4, e2, hc0, hc1⟩; cases hm1; cases e1; cases e2; (try simp only [List.nil_append] at N'); clear ho)
  k_with "eval Constant int" => (k_here; (k_dflt (refine' Mine.const_int ?_)); intro _ _)
  k_with "eval Constant str" => (k_here; (k_dflt (refine' Mine.const_str ?_)); intro _ _)
  k_with "newTuple" => (k_here; k_dflt (refine' kup_newTuple ?F ?N ?_ ?z; (case F => k_asm); (case N => k_asm); (case z => exact Nat.le_of_ble_eq_true rfl)); intro _ _ _ _ l1; (try (replace l1 := allLt_of l1; dsimp only [AllLt] at l1; revert l1; intro _)); (try k_sweep))
  k_with "newList" => (k_here; k_dflt (refine' newList_K ?k1 ?k2 ?_; (case k1 => k_asm); (case k2 => k_asm); k_whole); intro _ _ _ _ l1; (try (replace l1 := allLt_of l1; dsimp only [AllLt] at l1; revert l1; intro _)); (try k_sweep))
  k_with "CALL" => (refine stop_at ?_)
  k_steps
  unfold Stop
  refine use0 (by assumption) N (cups_spec (at0 X T (by assumption)) (isl_now (by assumption) hL) hI hl (by omega) (by omega)) ?_
  rintro v' h1 tk1 tl F1 N1 ho ⟨tray, vs0, n0, ks0, rfl, rfl, hi0, hl0⟩
  simp only [List.cons_append, List.nil_append] at N1
  have hct : @Ne Nat (L + 1) tray := ho _ (.head _) _ (.head _)
  clear ho
  k_steps
  unfold Stop
  rename_i h2 F2 N2
  refine use_init (C := 258) (fI := 213) (pos := []) (post := fun x dx mods' tl v => v = .none ∧ DesNew w x dx tl mods') F2 X N2 ?hm ?hi ?hf (fun x dx h' F' N' hne => dinit_spec (atL X T F' N' (fun p hp => by
    simp only [List.mem_cons, List.not_mem_nil, or_false] at hp
    rcases hp with rfl | rfl
    · exact .head _
    · exact .tail _ (.head _))) hne (by dsimp only [Mine.A0, Around.deeper, Around.in1, Around.under]; rw [Mine.tw]; omega) (by dsimp only [Mine.A0, Around.deeper, Around.in1, Around.under]; rw [Mine.tu]; omega)) (fun _ _ _ _ _ h => h.1) ?_
  case hm => k_dflt k_is
  case hi => k_dflt k_is
  case hf => k_dflt k_is
  rintro x dx h3 tk3 mods' tl F3 N3 l1 l2 ho ⟨-, ⟨a1, a2, a3, a4, a5, a6, a7, a8, a9, a10, o, t1, t2, t3, t4, t5, t6, t7, t8, t9, t10, t11, rfl, rfl, l16, l6, lo, hdo⟩⟩
  have ltd : @LT.lt Nat _ tray dx := l1 _ (.head _)
  have lcd : @LT.lt Nat _ (L + 1) dx := l1 _ (.tail _ (.head _))
  have off : ∀ a : Addr, (∃ o', (a, o') ∈ [(a10, o), (a9, listOf #[] 0), (a8, listOf #[] 0), (a7, listOf #[] 0), (a6, listOf #[] 0), (a5, listOf #[] 0), (a4, listOf #[] 0), (a3, listOf #[] 0), (a2, listOf #[] 0), (a1, listOf #[] 0)]) → @Ne Nat x a ∧ @Ne Nat dx a ∧ @Ne Nat tray a ∧ @Ne Nat (L + 1) a := fun a ⟨o', h⟩ =>
    ⟨ho _ (.head _) _ h, ho _ (.tail _ (.head _)) _ h, ho _ (.tail _ (.tail _ (.head _))) _ h, ho _ (.tail _ (.tail _ (.tail _ (.head _)))) _ h⟩
  obtain ⟨p1, p2, p3, p4⟩ := off a1 ⟨_, by k_mem⟩
  obtain ⟨q1, q2, q3, q4⟩ := off a6 ⟨_, by k_mem⟩
  obtain ⟨r1, r2, r3, r4⟩ := off a10 ⟨_, by k_mem⟩
  clear off ho l1
  refine storeX_L F3 N3 (fun h4 F4 N4 => ?_) rfl rfl
  clear F3 N3
  simp only [List.cons_append, List.nil_append] at N4
  exact law_2 X T F4 N4 rfl rfl (by k_mem) hw ⟨by k_mem, by k_mem, rfl, rfl, rfl, rfl, rfl, rfl, by k_mem, by k_mem, by k_mem, by k_mem, lo, hdo, Nat.ne_of_lt (Nat.lt_trans l16 l6), Nat.ne_of_gt l16, Nat.ne_of_lt l6, p3, r3, p1, r1, p2, r2, Nat.ne_of_gt (Nat.lt_trans lcd l2), Nat.ne_of_gt lcd, Ne.symm p4, Ne.symm r4, Ne.symm q4, Ne.symm hct, q3, Ne.symm q1, Ne.symm q2, Nat.ne_of_gt l2, Nat.ne_of_lt (Nat.lt_trans ltd l2), Nat.ne_of_lt ltd⟩ hi0 (by have := hi0.length; omega) hdp hun hQ
end Mine
namespace Mine
theorem law_top : PySem.Challenge.rw_on0119_01.Holds := by
  w_on
  refine holds_law (by decide +kernel) fun said => ?_
  refine holds_open (q := kV) (loose := []) (Xt := fun s => xlAt kV [] s && recOk (RowW.records lrow) s) (XP := XL kV []) (Yf := Hook.obs (kHook kH kAs (fun _ => rfl))) (Ya := Hook.val (kHook kH kAs (fun _ => rfl))) (YP := Hook.says (kHook kH kAs (fun _ => rfl))) (N := 3668) ?hl (Hook.of _) (Hook.keeps _)
    (fun s e => xl_of s (Bool.and_eq_true_iff.mp e).1) XL.keeps (by rfl) (by rfl) (by rfl) (fun s e => recFacts_of (Bool.and_eq_true_iff.mp e).2) (by rfl) (by first | assumption | decide +kernel) (by decide +kernel) ⟨rfl, rfl, rfl, rfl, rfl, by decide +kernel⟩ ?hw ?hc
  case hl => exact kLeft
  case hw => w_witness2
  w_strict (
    k_fill
    intro w s₀ s₁ mg mb G Y fa o pm cd doc dV kV' ho hd hcd hD hmg hg args vals as hpre hlay hrd hwl hlo
    have KX := kIn_of Y
    have X := (Ground.X G).1
    have V := (Ground.X G).2
    refine Ground.open G ?_
    intro T B D TE TW
    try (refine guard_noD D (by decide +kernel) ?_; clear D)
    obtain ⟨_, _, M⟩ := bmod_of_top T
    have TA := at_of_top T
    try (obtain ⟨_, _, he, B0⟩ := based_of_top T rfl hmg ho hd; have he' : cd = _ := he; subst he'; clear he)
    clear hmg
    wrow_args hpre hlay hrd hwl hlo
    all_goals (
      first | refine callC_kw (enter_call ?_) | refine enter_call ?_ | refine callC_kw (enter_callW ?_) | refine enter_callW ?_ | w_how
      w_top on
      try refine codeAny_mono ?_ (fun _ _ g => GoodW.toG g)
      have K0 := below_caller (Top.heap T)
      w_call any ho hd hcd hD T F
      clear hd TA
      k_drop
      skip)
    (all_goals try k_fold)
    rename_i w10 w9 w8 w7 script hs hlay0 hL1 hr1 hl2 w5 w4 sa svs w1 hL ra w1' r0 hI hr hcond hcond2 h₁ tk₁ wc hwc N0 X0
    clear X V B TE TW M hcd hs hlay0 hL1 hr1 hl2 ra w1' r0 hr K0 hD X0 ho Y G
    refine wpAny_mono (law_0 (cd := .ref w8) (fa := fa) (sa := sa) KX T F N0 ?m1 hwc hL hI (by omega) (by decide) (by decide) ?_) (fun _ _ q => q) (fun _ _ f => f.elim)
    case m1 => rfl
    intro h' tk' keep
    refine ⟨.inl ⟨.bool true, .bool true, [], rfl, fun cls => ?c1, ?c2, ?c3, fun _ => ⟨.nil, fun _ h => nomatch h⟩⟩, keep, rfl, hg⟩
    case c1 => rfl
    case c2 => constructor
    case c3 => wrow_post)
end Mine
theorem PySem.Challenge.cw_on0119_01_holds : PySem.Challenge.rw_on0119_01.Holds := by
  exact Mine.law_top
