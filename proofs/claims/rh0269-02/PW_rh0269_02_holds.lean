import PyProof.Rows.All
import Wide.All
import OpenK.AllK
import Wide.FinOn
import PySem.Challenge.RW_rh0269_02
set_option Elab.async false
set_option maxRecDepth 100000
set_option maxHeartbeats 8000000
set_option linter.unusedVariables false

open PySem PySem.W PyProof.Rows
namespace Rn
/-- the view of the top that the head speaks of -/
noncomputable def vw : Program := view PySem.Challenge.rw_rh0269_02.row.prog [1,2,3,4,5,6,7,8,9,10,11,12,13,14,15,16,17,18,19,21,22,23,24,25,26,27,28,29,30,31,32,33,34,35,37,38,39]
noncomputable def ls : List Str := [Str.ofString "WORDS", Str.ofString "SIGNS"]
end Rn
local macro_rules | `(tactic| o_head $_) => `(tactic| assumption)
/-- k_head writes the fragment of the heap out; its own head (made in pieces) is left aside -/
theorem Rn.hk (h : PySem.Challenge.rw_rh0269_02.row.Holds) : PySem.Challenge.rw_rh0269_02.row.Holds := by
  w_on
  k_head
namespace Rn
noncomputable def asK : List Addr := [2, 3, 15, 16, 17, 24, 26, 27, 29, 30, 31, 32, 33, 34, 37, 39, 40, 42, 43, 44, 47, 48, 49, 51, 52, 54, 55, 56, 58, 59, 61, 62, 63, 65, 66, 68, 69, 70, 72, 73, 75, 76, 77, 79, 80, 82, 83, 84, 86, 87, 89, 90, 91, 93, 94, 96, 97, 98, 100, 101, 103, 104, 105, 107, 108, 110, 111, 112, 114, 115, 117, 118, 119, 127, 129, 130, 132, 133, 134, 135, 136, 137, 138, 141, 143, 144, 146, 147, 148, 150, 151, 153, 154, 155, 157, 158, 160, 161, 162, 164, 165, 167, 168, 169, 171, 172, 174, 175, 176, 178, 179, 181, 182, 183, 186, 187, 188, 190, 191, 193, 194, 195, 198, 199, 200, 203, 204, 205, 207, 208, 210, 211, 212, 215, 216, 217, 219, 220, 222, 223, 224, 226, 227, 229, 230, 231, 234, 235]
theorem asK_eq : ∀ P, asK = (hk.heap_1 P).map (·.1) := fun _ => by kernel_rfl
theorem hlooks : looksOpen PySem.Challenge.rw_rh0269_02.row.prog = true := by
  delta looksOpen
  repeat' with_reducible apply look_both
  all_goals (as_aux_lemma => kernel_rfl)
theorem hpart : PySem.Challenge.rw_rh0269_02.row.partSaid = true := by
  delta OpenRow.partSaid
  repeat' with_reducible apply look_both
  all_goals first | (with_reducible exact hlooks) | (as_aux_lemma => kernel_rfl)
theorem hrow : PySem.Challenge.rw_rh0269_02.row.wellSaid = true := by
  delta OpenRow.wellSaid
  repeat' with_reducible apply look_both
  all_goals first | (with_reducible exact hpart) | (as_aux_lemma => kernel_rfl)
theorem hwell : PySem.Challenge.rw_rh0269_02.wellSaid = true := by
  delta OpenLaw.wellSaid
  repeat' with_reducible apply look_both
  all_goals first | (with_reducible exact hrow) | (as_aux_lemma => kernel_rfl)
end Rn

open PySem PySem.W PyProof.Rows
namespace Rn.Hd
noncomputable def pp : Program := PySem.Challenge.rw_rh0269_02.row.prog
noncomputable def dT (i : Nat) : Stmt := pp.main.body.getD i (.Pass default)
noncomputable def dC (i : Nat) : Stmt := match dT i with
  | .ClassDef _ _ _ (s :: _) _ _ _ _ _ _ _ => s
  | s => s
noncomputable def dA (s : Stmt) : Arguments := match s with
  | .FunctionDef _ a _ _ _ _ _ _ _ _ => a
  | _ => default
noncomputable def dB (s : Stmt) : List Stmt := match s with
  | .FunctionDef _ _ b _ _ _ _ _ _ _ => b
  | _ => []
noncomputable def dS (s : Stmt) : Scope := match s with
  | .FunctionDef _ _ _ _ _ _ c _ _ _ => c
  | _ => default
noncomputable def vs (x : String) (n : Nat) : Value := .str (Str.ofString x) n
noncomputable def en (P : Params) (x : String) (n : Nat) (v : Value) : DictEntry := ⟨PyData.keyHash P (Str.ofString x), vs x n, v⟩
noncomputable def o11 (P : Params) : Obj := (Obj.mk (.type "tuple") none (Data.seq (Array.mk []) 0) (Array.mk []))
noncomputable def o12 (P : Params) : Obj := (Obj.mk .none none (Data.fields (Array.mk [])) (Array.mk []))
noncomputable def o13 (P : Params) : Obj := (Obj.mk (.type "code") none (Data.fields (Array.mk [(vs "<module>" 182), (vs "<module>" 183), (vs "/claim/cut.py" 184), (.int 1 0), (.int 0 0), (.int 0 0), (.int 0 0), (.int 0 0), (.ref 11), (.bool false), (.int 181 0), (.ref 12), .none, .none, .none, .none, (.int 185 0), (.int 1 0), (vs "/claim/cut.py" 186)])) (Array.mk []))
noncomputable def o14 (P : Params) : Obj := (Obj.mk (.type "frame") none Data.plain (Array.mk [(some (.ref 13)), (some (.ref 3)), (some (.ref 3)), none, (some (vs "__main__" 164)), none, (some (.ref 0))]))
noncomputable def T0 (P : Params) : BT := (.node (boot_o_0 P) (.node (boot_o_1 P) (.node (boot_o_3 P) (.node (boot_o_7 P) .nil .nil) (.node (o11 P) .nil .nil)) (.node (boot_o_5 P) (.node (boot_o_9 P) .nil .nil) (.node (o13 P) .nil .nil))) (.node (boot_o_2 P) (.node (boot_o_4 P) (.node (boot_o_8 P) .nil .nil) (.node (o12 P) .nil .nil)) (.node (boot_o_6 P) (.node (boot_o_10 P) .nil .nil) (.node (o14 P) .nil .nil))))
noncomputable def nT0 : Nat := 15
noncomputable def kT0 : Nat := 187
noncomputable def qT0 : Pos := (Pos.mk 0 0 0 0)
noncomputable def lT0 : Life := (Life.mk [] [] [] 0 [] [] false (Array.mk []) [] 0 false false false 0 [2000, 10, 10] false 0 true [] [] 0 false)
noncomputable def o2 (P : Params) : Obj := (Obj.mk .none none (Data.dict (Array.mk [(en P "type.__subclasses__.Exception.0" 285 (.int 33 0)), (en P "type.__subclasses__.Exception.n" 286 (.int 1 0))]) 2) (Array.mk []))
noncomputable def o3 (P : Params) : Obj := (Obj.mk (.type "dict") none (Data.dict (Array.mk [(en P "__name__" 165 (vs "z80.btokens" 187)), (en P "__doc__" 166 .none), (en P "__package__" 167 .none), (en P "__loader__" 168 (.builtin "__main__.__loader__#opaque")), (en P "__spec__" 169 .none), (en P "__annotations__" 170 (.ref 6)), (en P "__builtins__" 171 (.ref 4)), (en P "__file__" 173 (vs "/claim/cut.py" 172)), (en P "__cached__" 174 .none), (en P "WORDS" 233 (.ref 15)), (en P "SIGNS" 251 (.ref 16)), (en P "DIGITS" 253 (vs "0123456789" 252)), (en P "LETTERS" 255 (vs "ABCDEFGHIJKLMNOPQRSTUVWXYZ" 254)), (en P "BLANKS" 257 (vs " \t" 256)), (en P "MOST_NUMBER" 259 (.int 65535 258)), (en P "BasicError" 288 (.ref 33))]) 16) (Array.mk []))
noncomputable def o12v1 (P : Params) : Obj := (Obj.mk .none none (Data.fields (Array.mk [(.int 8 0), (.int 0 0), (.ref 22)])) (Array.mk []))
noncomputable def o15 (P : Params) : Obj := (Obj.mk (.type "list") none (Data.seq (Array.mk [(vs "END" 189), (vs "FOR" 190), (vs "NEXT" 191), (vs "DATA" 192), (vs "INPUT" 193), (vs "DIM" 194), (vs "READ" 195), (vs "LET" 196), (vs "GOTO" 197), (vs "RUN" 198), (vs "IF" 199), (vs "RESTORE" 200), (vs "GOSUB" 201), (vs "RETURN" 202), (vs "REM" 203), (vs "STOP" 204), (vs "ON" 205), (vs "PRINT" 206), (vs "LIST" 207), (vs "DELETE" 208), (vs "RENUM" 209), (vs "NEW" 210), (vs "CONT" 211), (vs "TO" 212), (vs "THEN" 213), (vs "ELSE" 214), (vs "STEP" 215), (vs "AND" 216), (vs "OR" 217), (vs "NOT" 218), (vs "MOD" 219), (vs "TAB" 220), (vs "SGN" 221), (vs "ABS" 222), (vs "LEN" 223), (vs "STR$" 224), (vs "VAL" 225), (vs "ASC" 226), (vs "CHR$" 227), (vs "LEFT$" 228), (vs "RIGHT$" 229), (vs "MID$" 230), (vs "RND" 231), (vs "INSTR" 232)]) 0) (Array.mk []))
noncomputable def o16 (P : Params) : Obj := (Obj.mk (.type "list") none (Data.seq (Array.mk [(vs "<=" 234), (vs ">=" 235), (vs "<>" 236), (vs "(" 237), (vs ")" 238), (vs "," 239), (vs ";" 240), (vs ":" 241), (vs "=" 242), (vs "<" 243), (vs ">" 244), (vs "+" 245), (vs "-" 246), (vs "*" 247), (vs "/" 248), (vs "^" 249), (vs "#" 250)]) 0) (Array.mk []))
noncomputable def o17 (P : Params) : Obj := (Obj.mk (.type "tuple") none (Data.seq (Array.mk [(.type "Exception")]) 0) (Array.mk []))
noncomputable def o18 (P : Params) : Obj := (Obj.mk (.type "builtin_function_or_method") none (Data.fields (Array.mk [(.builtin "type.__prepare__"), (.type "type")])) (Array.mk []))
noncomputable def o19 (P : Params) : Obj := (Obj.mk (.type "dict") none (Data.dict (Array.mk [(en P "__module__" 267 (vs "z80.btokens" 187)), (en P "__qualname__" 269 (vs "BasicError" 268)), (en P "__firstlineno__" 271 (.int 8 270)), (en P "__init__" 279 (.ref 30)), (en P "__static_attributes__" 281 (.ref 31))]) 5) (Array.mk []))
noncomputable def o20 (P : Params) : Obj := (Obj.mk (.type "tuple") none (Data.seq (Array.mk []) 0) (Array.mk []))
noncomputable def o21 (P : Params) : Obj := (Obj.mk .none none (Data.fields (Array.mk [(.int 10 0), (.int 4 0), (.ref 29)])) (Array.mk []))
noncomputable def o22 (P : Params) : Obj := (Obj.mk (.type "code") none (Data.fields (Array.mk [(vs "BasicError" 262), (vs "BasicError" 263), (vs "/claim/cut.py" 264), (.int 8 0), (.int 0 0), (.int 0 0), (.int 0 0), (.int 0 0), (.ref 20), (.bool false), (.int 181 0), (.ref 21), .none, .none, .none, .none, (.int 265 0), (.int 8 0), (vs "/claim/cut.py" 266)])) (Array.mk []))
noncomputable def o23 (P : Params) : Obj := (Obj.mk (.type "frame") none Data.plain (Array.mk [(some (.ref 22)), (some (.ref 3)), (some (.ref 19)), none, (some (vs "z80.btokens" 187)), none, (some (.ref 0))]))
noncomputable def o24 (P : Params) : Obj := (Obj.mk (.type "tuple") none (Data.seq (Array.mk []) 0) (Array.mk []))
noncomputable def o25 (P : Params) : Obj := (Obj.mk .none none (Data.fields (Array.mk [])) (Array.mk []))
noncomputable def o26 (P : Params) : Obj := (Obj.mk (.type "tuple") none (Data.seq (Array.mk [(vs "self" 275), (vs "kind" 276)]) 0) (Array.mk []))
noncomputable def o27 (P : Params) : Obj := (Obj.mk (.type "tuple") none (Data.seq (Array.mk []) 0) (Array.mk []))
noncomputable def o28 (P : Params) : Obj := (Obj.mk .none none (Data.func (FuncData.mk (Str.ofString "__init__") (Str.ofString "BasicError.__init__") (dA (dC 7)) (FuncBody.stmts (dB (dC 7))) (dS (dC 7)) 0 [] .none .none .none .none none .none .none 0)) (Array.mk []))
noncomputable def o29 (P : Params) : Obj := (Obj.mk (.type "code") none (Data.fields (Array.mk [(vs "__init__" 272), (vs "BasicError.__init__" 273), (vs "/claim/cut.py" 274), (.int 10 0), (.int 2 0), (.int 0 0), (.int 0 0), (.int 3 0), (.ref 24), (.bool true), (.int 181 0), (.ref 25), .none, (.ref 26), (.ref 27), (.ref 28), (.int 277 0), (.int 10 0), (vs "/claim/cut.py" 278)])) (Array.mk []))
noncomputable def o30 (P : Params) : Obj := (Obj.mk (.type "function") none (Data.func (FuncData.mk (Str.ofString "__init__") (Str.ofString "BasicError.__init__") (dA (dC 7)) (FuncBody.stmts (dB (dC 7))) (dS (dC 7)) 3 [] .none .none .none (vs "z80.btokens" 187) none (.ref 29) .none 0)) (Array.mk []))
noncomputable def o31 (P : Params) : Obj := (Obj.mk (.type "tuple") none (Data.seq (Array.mk [(vs "kind" 280)]) 0) (Array.mk []))
noncomputable def o32 (P : Params) : Obj := (Obj.mk (.type "dict") none (Data.dict (Array.mk [(en P "__module__" 267 (vs "z80.btokens" 187)), (en P "__firstlineno__" 271 (.int 8 270)), (en P "__init__" 279 (.ref 30)), (en P "__static_attributes__" 281 (.ref 31)), (en P "__weakref__" 283 (.ref 34)), (en P "__doc__" 284 .none)]) 3) (Array.mk []))
noncomputable def o33 (P : Params) : Obj := (Obj.mk (.type "type") none (Data.cls (ClassData.mk (Str.ofString "BasicError") [(.type "Exception")] [(.ref 33), (.type "Exception"), (.type "BaseException"), (.type "object")] 32 (Str.ofString "BasicError") true [] [] false none false)) (Array.mk [(some (.ref 17)), none, (some (vs "BasicError" 260)), (some (vs "BasicError" 268)), (some (.builtin "Exception.__new__")), (some (.bool true))]))
noncomputable def o34 (P : Params) : Obj := (Obj.mk (.type "getset_descriptor") none (Data.fields (Array.mk [(vs "__weakref__" 282), (.ref 33), (.builtin "ExceptionGroup.__weakref__"), .none])) (Array.mk []))
noncomputable def o35 (P : Params) : Obj := (Obj.mk (.type "super") none (Data.fields (Array.mk [(.ref 33), (.ref 33), (.ref 33)])) (Array.mk []))
noncomputable def o36 (P : Params) : Obj := (Obj.mk (.type "builtin_function_or_method") none (Data.fields (Array.mk [(.builtin "object.__init_subclass__"), (.ref 33)])) (Array.mk []))
noncomputable def TA (P : Params) : BT := (.node (boot_o_0 P) (.node (boot_o_1 P) (.node (o3 P) (.node (boot_o_7 P) (.node (o15 P) (.node (o31 P) .nil .nil) .nil) (.node (o23 P) .nil .nil)) (.node (o11 P) (.node (o19 P) (.node (o35 P) .nil .nil) .nil) (.node (o27 P) .nil .nil))) (.node (boot_o_5 P) (.node (boot_o_9 P) (.node (o17 P) (.node (o33 P) .nil .nil) .nil) (.node (o25 P) .nil .nil)) (.node (o13 P) (.node (o21 P) .nil .nil) (.node (o29 P) .nil .nil)))) (.node (o2 P) (.node (boot_o_4 P) (.node (boot_o_8 P) (.node (o16 P) (.node (o32 P) .nil .nil) .nil) (.node (o24 P) .nil .nil)) (.node (o12v1 P) (.node (o20 P) (.node (o36 P) .nil .nil) .nil) (.node (o28 P) .nil .nil))) (.node (boot_o_6 P) (.node (boot_o_10 P) (.node (o18 P) (.node (o34 P) .nil .nil) .nil) (.node (o26 P) .nil .nil)) (.node (o14 P) (.node (o22 P) .nil .nil) (.node (o30 P) .nil .nil)))))
noncomputable def nTA : Nat := 37
noncomputable def kTA : Nat := 289
noncomputable def qTA : Pos := (Pos.mk 8 0 11 24)
noncomputable def lTA : Life := (Life.mk [] [] [] 0 [] [] false (Array.mk []) [] 0 false false false 0 [2000, 10, 10] false 0 true [] [] 0 false)
noncomputable def o3v1 (P : Params) : Obj := (Obj.mk (.type "dict") none (Data.dict (Array.mk [(en P "__name__" 165 (vs "z80.bprogram" 404)), (en P "__doc__" 166 .none), (en P "__package__" 167 .none), (en P "__loader__" 168 (.builtin "__main__.__loader__#opaque")), (en P "__spec__" 169 .none), (en P "__annotations__" 170 (.ref 6)), (en P "__builtins__" 171 (.ref 4)), (en P "__file__" 173 (vs "/claim/cut.py" 172)), (en P "__cached__" 174 .none), (en P "WORDS" 233 (.ref 15)), (en P "SIGNS" 251 (.ref 16)), (en P "DIGITS" 253 (vs "0123456789" 252)), (en P "LETTERS" 255 (vs "ABCDEFGHIJKLMNOPQRSTUVWXYZ" 254)), (en P "BLANKS" 257 (vs " \t" 256)), (en P "MOST_NUMBER" 259 (.int 65535 258)), (en P "BasicError" 288 (.ref 33)), (en P "great_sign" 295 (.ref 43)), (en P "great_text" 301 (.ref 48)), (en P "word_at" 311 (.ref 55)), (en P "sign_at" 320 (.ref 62)), (en P "behind_blanks" 328 (.ref 69)), (en P "read_number" 337 (.ref 76)), (en P "read_name" 346 (.ref 83)), (en P "read_quoted" 355 (.ref 90)), (en P "read_item" 366 (.ref 97)), (en P "read_items" 376 (.ref 104)), (en P "read_token" 392 (.ref 111)), (en P "tokens_of" 403 (.ref 118)), (en P "GREATEST" 407 (.int 65529 406)), (en P "JUMPS" 414 (.ref 119)), (en P "Program" 443 (.ref 136))]) 31) (Array.mk []))
noncomputable def o12v2 (P : Params) : Obj := (Obj.mk .none none (Data.fields (Array.mk [(.int 8 0), (.int 0 0), (.ref 22), (.int 12 0), (.int 0 0), (.ref 42), (.int 14 0), (.int 0 0), (.ref 47), (.int 16 0), (.int 0 0), (.ref 54), (.int 22 0), (.int 0 0), (.ref 61), (.int 27 0), (.int 0 0), (.ref 68), (.int 31 0), (.int 0 0), (.ref 75), (.int 39 0), (.int 0 0), (.ref 82), (.int 47 0), (.int 0 0), (.ref 89), (.int 52 0), (.int 0 0), (.ref 96), (.int 67 0), (.int 0 0), (.ref 103), (.int 74 0), (.int 0 0), (.ref 110), (.int 101 0), (.int 0 0), (.ref 117), (.int 112 0), (.int 0 0), (.ref 125)])) (Array.mk []))
noncomputable def o37 (P : Params) : Obj := (Obj.mk (.type "tuple") none (Data.seq (Array.mk []) 0) (Array.mk []))
noncomputable def o38 (P : Params) : Obj := (Obj.mk .none none (Data.fields (Array.mk [])) (Array.mk []))
noncomputable def o39 (P : Params) : Obj := (Obj.mk (.type "tuple") none (Data.seq (Array.mk [(vs "sign" 292)]) 0) (Array.mk []))
noncomputable def o40 (P : Params) : Obj := (Obj.mk (.type "tuple") none (Data.seq (Array.mk []) 0) (Array.mk []))
noncomputable def o41 (P : Params) : Obj := (Obj.mk .none none (Data.func (FuncData.mk (Str.ofString "great_sign") (Str.ofString "great_sign") (dA (dT 8)) (FuncBody.stmts (dB (dT 8))) (dS (dT 8)) 0 [] .none .none .none .none none .none .none 0)) (Array.mk []))
noncomputable def o42 (P : Params) : Obj := (Obj.mk (.type "code") none (Data.fields (Array.mk [(vs "great_sign" 289), (vs "great_sign" 290), (vs "/claim/cut.py" 291), (.int 12 0), (.int 1 0), (.int 0 0), (.int 0 0), (.int 3 0), (.ref 37), (.bool true), (.int 181 0), (.ref 38), .none, (.ref 39), (.ref 40), (.ref 41), (.int 293 0), (.int 12 0), (vs "/claim/cut.py" 294)])) (Array.mk []))
noncomputable def o43 (P : Params) : Obj := (Obj.mk (.type "function") none (Data.func (FuncData.mk (Str.ofString "great_sign") (Str.ofString "great_sign") (dA (dT 8)) (FuncBody.stmts (dB (dT 8))) (dS (dT 8)) 3 [] .none .none .none (vs "z80.btokens" 187) none (.ref 42) .none 0)) (Array.mk []))
noncomputable def o44 (P : Params) : Obj := (Obj.mk (.type "tuple") none (Data.seq (Array.mk []) 0) (Array.mk []))
noncomputable def o45 (P : Params) : Obj := (Obj.mk .none none (Data.fields (Array.mk [])) (Array.mk []))
noncomputable def o46 (P : Params) : Obj := (Obj.mk .none none (Data.func (FuncData.mk (Str.ofString "great_text") (Str.ofString "great_text") (dA (dT 9)) (FuncBody.stmts (dB (dT 9))) (dS (dT 9)) 0 [] .none .none .none .none none .none .none 0)) (Array.mk []))
noncomputable def o47 (P : Params) : Obj := (Obj.mk (.type "code") none (Data.fields (Array.mk [(vs "great_text" 296), (vs "great_text" 297), (vs "/claim/cut.py" 298), (.int 14 0), (.int 1 0), (.int 0 0), (.int 0 0), (.int 3 0), (.ref 44), (.bool true), (.int 181 0), (.ref 45), .none, .none, .none, (.ref 46), (.int 299 0), (.int 14 0), (vs "/claim/cut.py" 300)])) (Array.mk []))
noncomputable def o48 (P : Params) : Obj := (Obj.mk (.type "function") none (Data.func (FuncData.mk (Str.ofString "great_text") (Str.ofString "great_text") (dA (dT 9)) (FuncBody.stmts (dB (dT 9))) (dS (dT 9)) 3 [] .none .none .none (vs "z80.btokens" 187) none (.ref 47) .none 0)) (Array.mk []))
noncomputable def o49 (P : Params) : Obj := (Obj.mk (.type "tuple") none (Data.seq (Array.mk []) 0) (Array.mk []))
noncomputable def o50 (P : Params) : Obj := (Obj.mk .none none (Data.fields (Array.mk [])) (Array.mk []))
noncomputable def o51 (P : Params) : Obj := (Obj.mk (.type "tuple") none (Data.seq (Array.mk [(vs "text" 305), (vs "at" 306), (vs "found" 307), (vs "word" 308)]) 0) (Array.mk []))
noncomputable def o52 (P : Params) : Obj := (Obj.mk (.type "tuple") none (Data.seq (Array.mk []) 0) (Array.mk []))
noncomputable def o53 (P : Params) : Obj := (Obj.mk .none none (Data.func (FuncData.mk (Str.ofString "word_at") (Str.ofString "word_at") (dA (dT 10)) (FuncBody.stmts (dB (dT 10))) (dS (dT 10)) 0 [] .none .none .none .none none .none .none 0)) (Array.mk []))
noncomputable def o54 (P : Params) : Obj := (Obj.mk (.type "code") none (Data.fields (Array.mk [(vs "word_at" 302), (vs "word_at" 303), (vs "/claim/cut.py" 304), (.int 16 0), (.int 2 0), (.int 0 0), (.int 0 0), (.int 3 0), (.ref 49), (.bool true), (.int 181 0), (.ref 50), .none, (.ref 51), (.ref 52), (.ref 53), (.int 309 0), (.int 16 0), (vs "/claim/cut.py" 310)])) (Array.mk []))
noncomputable def o55 (P : Params) : Obj := (Obj.mk (.type "function") none (Data.func (FuncData.mk (Str.ofString "word_at") (Str.ofString "word_at") (dA (dT 10)) (FuncBody.stmts (dB (dT 10))) (dS (dT 10)) 3 [] .none .none .none (vs "z80.btokens" 187) none (.ref 54) .none 0)) (Array.mk []))
noncomputable def o56 (P : Params) : Obj := (Obj.mk (.type "tuple") none (Data.seq (Array.mk []) 0) (Array.mk []))
noncomputable def o57 (P : Params) : Obj := (Obj.mk .none none (Data.fields (Array.mk [])) (Array.mk []))
noncomputable def o58 (P : Params) : Obj := (Obj.mk (.type "tuple") none (Data.seq (Array.mk [(vs "text" 315), (vs "at" 316), (vs "sign" 317)]) 0) (Array.mk []))
noncomputable def o59 (P : Params) : Obj := (Obj.mk (.type "tuple") none (Data.seq (Array.mk []) 0) (Array.mk []))
noncomputable def o60 (P : Params) : Obj := (Obj.mk .none none (Data.func (FuncData.mk (Str.ofString "sign_at") (Str.ofString "sign_at") (dA (dT 11)) (FuncBody.stmts (dB (dT 11))) (dS (dT 11)) 0 [] .none .none .none .none none .none .none 0)) (Array.mk []))
noncomputable def o61 (P : Params) : Obj := (Obj.mk (.type "code") none (Data.fields (Array.mk [(vs "sign_at" 312), (vs "sign_at" 313), (vs "/claim/cut.py" 314), (.int 22 0), (.int 2 0), (.int 0 0), (.int 0 0), (.int 3 0), (.ref 56), (.bool true), (.int 181 0), (.ref 57), .none, (.ref 58), (.ref 59), (.ref 60), (.int 318 0), (.int 22 0), (vs "/claim/cut.py" 319)])) (Array.mk []))
noncomputable def o62 (P : Params) : Obj := (Obj.mk (.type "function") none (Data.func (FuncData.mk (Str.ofString "sign_at") (Str.ofString "sign_at") (dA (dT 11)) (FuncBody.stmts (dB (dT 11))) (dS (dT 11)) 3 [] .none .none .none (vs "z80.btokens" 187) none (.ref 61) .none 0)) (Array.mk []))
noncomputable def o63 (P : Params) : Obj := (Obj.mk (.type "tuple") none (Data.seq (Array.mk []) 0) (Array.mk []))
noncomputable def o64 (P : Params) : Obj := (Obj.mk .none none (Data.fields (Array.mk [])) (Array.mk []))
noncomputable def o65 (P : Params) : Obj := (Obj.mk (.type "tuple") none (Data.seq (Array.mk [(vs "text" 324), (vs "at" 325)]) 0) (Array.mk []))
noncomputable def o66 (P : Params) : Obj := (Obj.mk (.type "tuple") none (Data.seq (Array.mk []) 0) (Array.mk []))
noncomputable def o67 (P : Params) : Obj := (Obj.mk .none none (Data.func (FuncData.mk (Str.ofString "behind_blanks") (Str.ofString "behind_blanks") (dA (dT 12)) (FuncBody.stmts (dB (dT 12))) (dS (dT 12)) 0 [] .none .none .none .none none .none .none 0)) (Array.mk []))
noncomputable def o68 (P : Params) : Obj := (Obj.mk (.type "code") none (Data.fields (Array.mk [(vs "behind_blanks" 321), (vs "behind_blanks" 322), (vs "/claim/cut.py" 323), (.int 27 0), (.int 2 0), (.int 0 0), (.int 0 0), (.int 3 0), (.ref 63), (.bool true), (.int 181 0), (.ref 64), .none, (.ref 65), (.ref 66), (.ref 67), (.int 326 0), (.int 27 0), (vs "/claim/cut.py" 327)])) (Array.mk []))
noncomputable def o69 (P : Params) : Obj := (Obj.mk (.type "function") none (Data.func (FuncData.mk (Str.ofString "behind_blanks") (Str.ofString "behind_blanks") (dA (dT 12)) (FuncBody.stmts (dB (dT 12))) (dS (dT 12)) 3 [] .none .none .none (vs "z80.btokens" 187) none (.ref 68) .none 0)) (Array.mk []))
noncomputable def o70 (P : Params) : Obj := (Obj.mk (.type "tuple") none (Data.seq (Array.mk []) 0) (Array.mk []))
noncomputable def o71 (P : Params) : Obj := (Obj.mk .none none (Data.fields (Array.mk [])) (Array.mk []))
noncomputable def o72 (P : Params) : Obj := (Obj.mk (.type "tuple") none (Data.seq (Array.mk [(vs "text" 332), (vs "at" 333), (vs "found" 334)]) 0) (Array.mk []))
noncomputable def o73 (P : Params) : Obj := (Obj.mk (.type "tuple") none (Data.seq (Array.mk []) 0) (Array.mk []))
noncomputable def o74 (P : Params) : Obj := (Obj.mk .none none (Data.func (FuncData.mk (Str.ofString "read_number") (Str.ofString "read_number") (dA (dT 13)) (FuncBody.stmts (dB (dT 13))) (dS (dT 13)) 0 [] .none .none .none .none none .none .none 0)) (Array.mk []))
noncomputable def o75 (P : Params) : Obj := (Obj.mk (.type "code") none (Data.fields (Array.mk [(vs "read_number" 329), (vs "read_number" 330), (vs "/claim/cut.py" 331), (.int 31 0), (.int 2 0), (.int 0 0), (.int 0 0), (.int 3 0), (.ref 70), (.bool true), (.int 181 0), (.ref 71), .none, (.ref 72), (.ref 73), (.ref 74), (.int 335 0), (.int 31 0), (vs "/claim/cut.py" 336)])) (Array.mk []))
noncomputable def o76 (P : Params) : Obj := (Obj.mk (.type "function") none (Data.func (FuncData.mk (Str.ofString "read_number") (Str.ofString "read_number") (dA (dT 13)) (FuncBody.stmts (dB (dT 13))) (dS (dT 13)) 3 [] .none .none .none (vs "z80.btokens" 187) none (.ref 75) .none 0)) (Array.mk []))
noncomputable def o77 (P : Params) : Obj := (Obj.mk (.type "tuple") none (Data.seq (Array.mk []) 0) (Array.mk []))
noncomputable def o78 (P : Params) : Obj := (Obj.mk .none none (Data.fields (Array.mk [])) (Array.mk []))
noncomputable def o79 (P : Params) : Obj := (Obj.mk (.type "tuple") none (Data.seq (Array.mk [(vs "whole" 341), (vs "at" 342), (vs "begin" 343)]) 0) (Array.mk []))
noncomputable def o80 (P : Params) : Obj := (Obj.mk (.type "tuple") none (Data.seq (Array.mk []) 0) (Array.mk []))
noncomputable def o81 (P : Params) : Obj := (Obj.mk .none none (Data.func (FuncData.mk (Str.ofString "read_name") (Str.ofString "read_name") (dA (dT 14)) (FuncBody.stmts (dB (dT 14))) (dS (dT 14)) 0 [] .none .none .none .none none .none .none 0)) (Array.mk []))
noncomputable def o82 (P : Params) : Obj := (Obj.mk (.type "code") none (Data.fields (Array.mk [(vs "read_name" 338), (vs "read_name" 339), (vs "/claim/cut.py" 340), (.int 39 0), (.int 2 0), (.int 0 0), (.int 0 0), (.int 3 0), (.ref 77), (.bool true), (.int 181 0), (.ref 78), .none, (.ref 79), (.ref 80), (.ref 81), (.int 344 0), (.int 39 0), (vs "/claim/cut.py" 345)])) (Array.mk []))
noncomputable def o83 (P : Params) : Obj := (Obj.mk (.type "function") none (Data.func (FuncData.mk (Str.ofString "read_name") (Str.ofString "read_name") (dA (dT 14)) (FuncBody.stmts (dB (dT 14))) (dS (dT 14)) 3 [] .none .none .none (vs "z80.btokens" 187) none (.ref 82) .none 0)) (Array.mk []))
noncomputable def o84 (P : Params) : Obj := (Obj.mk (.type "tuple") none (Data.seq (Array.mk []) 0) (Array.mk []))
noncomputable def o85 (P : Params) : Obj := (Obj.mk .none none (Data.fields (Array.mk [])) (Array.mk []))
noncomputable def o86 (P : Params) : Obj := (Obj.mk (.type "tuple") none (Data.seq (Array.mk [(vs "text" 350), (vs "at" 351), (vs "end" 352)]) 0) (Array.mk []))
noncomputable def o87 (P : Params) : Obj := (Obj.mk (.type "tuple") none (Data.seq (Array.mk []) 0) (Array.mk []))
noncomputable def o88 (P : Params) : Obj := (Obj.mk .none none (Data.func (FuncData.mk (Str.ofString "read_quoted") (Str.ofString "read_quoted") (dA (dT 15)) (FuncBody.stmts (dB (dT 15))) (dS (dT 15)) 0 [] .none .none .none .none none .none .none 0)) (Array.mk []))
noncomputable def o89 (P : Params) : Obj := (Obj.mk (.type "code") none (Data.fields (Array.mk [(vs "read_quoted" 347), (vs "read_quoted" 348), (vs "/claim/cut.py" 349), (.int 47 0), (.int 2 0), (.int 0 0), (.int 0 0), (.int 3 0), (.ref 84), (.bool true), (.int 181 0), (.ref 85), .none, (.ref 86), (.ref 87), (.ref 88), (.int 353 0), (.int 47 0), (vs "/claim/cut.py" 354)])) (Array.mk []))
noncomputable def o90 (P : Params) : Obj := (Obj.mk (.type "function") none (Data.func (FuncData.mk (Str.ofString "read_quoted") (Str.ofString "read_quoted") (dA (dT 15)) (FuncBody.stmts (dB (dT 15))) (dS (dT 15)) 3 [] .none .none .none (vs "z80.btokens" 187) none (.ref 89) .none 0)) (Array.mk []))
noncomputable def o91 (P : Params) : Obj := (Obj.mk (.type "tuple") none (Data.seq (Array.mk []) 0) (Array.mk []))
noncomputable def o92 (P : Params) : Obj := (Obj.mk .none none (Data.fields (Array.mk [])) (Array.mk []))
noncomputable def o93 (P : Params) : Obj := (Obj.mk (.type "tuple") none (Data.seq (Array.mk [(vs "text" 359), (vs "at" 360), (vs "found" 361), (vs "begin" 362), (vs "end" 363)]) 0) (Array.mk []))
noncomputable def o94 (P : Params) : Obj := (Obj.mk (.type "tuple") none (Data.seq (Array.mk []) 0) (Array.mk []))
noncomputable def o95 (P : Params) : Obj := (Obj.mk .none none (Data.func (FuncData.mk (Str.ofString "read_item") (Str.ofString "read_item") (dA (dT 16)) (FuncBody.stmts (dB (dT 16))) (dS (dT 16)) 0 [] .none .none .none .none none .none .none 0)) (Array.mk []))
noncomputable def o96 (P : Params) : Obj := (Obj.mk (.type "code") none (Data.fields (Array.mk [(vs "read_item" 356), (vs "read_item" 357), (vs "/claim/cut.py" 358), (.int 52 0), (.int 2 0), (.int 0 0), (.int 0 0), (.int 3 0), (.ref 91), (.bool true), (.int 181 0), (.ref 92), .none, (.ref 93), (.ref 94), (.ref 95), (.int 364 0), (.int 52 0), (vs "/claim/cut.py" 365)])) (Array.mk []))
noncomputable def o97 (P : Params) : Obj := (Obj.mk (.type "function") none (Data.func (FuncData.mk (Str.ofString "read_item") (Str.ofString "read_item") (dA (dT 16)) (FuncBody.stmts (dB (dT 16))) (dS (dT 16)) 3 [] .none .none .none (vs "z80.btokens" 187) none (.ref 96) .none 0)) (Array.mk []))
noncomputable def o98 (P : Params) : Obj := (Obj.mk (.type "tuple") none (Data.seq (Array.mk []) 0) (Array.mk []))
noncomputable def o99 (P : Params) : Obj := (Obj.mk .none none (Data.fields (Array.mk [])) (Array.mk []))
noncomputable def o100 (P : Params) : Obj := (Obj.mk (.type "tuple") none (Data.seq (Array.mk [(vs "text" 370), (vs "at" 371), (vs "item" 372), (vs "found" 373)]) 0) (Array.mk []))
noncomputable def o101 (P : Params) : Obj := (Obj.mk (.type "tuple") none (Data.seq (Array.mk []) 0) (Array.mk []))
noncomputable def o102 (P : Params) : Obj := (Obj.mk .none none (Data.func (FuncData.mk (Str.ofString "read_items") (Str.ofString "read_items") (dA (dT 17)) (FuncBody.stmts (dB (dT 17))) (dS (dT 17)) 0 [] .none .none .none .none none .none .none 0)) (Array.mk []))
noncomputable def o103 (P : Params) : Obj := (Obj.mk (.type "code") none (Data.fields (Array.mk [(vs "read_items" 367), (vs "read_items" 368), (vs "/claim/cut.py" 369), (.int 67 0), (.int 2 0), (.int 0 0), (.int 0 0), (.int 3 0), (.ref 98), (.bool true), (.int 181 0), (.ref 99), .none, (.ref 100), (.ref 101), (.ref 102), (.int 374 0), (.int 67 0), (vs "/claim/cut.py" 375)])) (Array.mk []))
noncomputable def o104 (P : Params) : Obj := (Obj.mk (.type "function") none (Data.func (FuncData.mk (Str.ofString "read_items") (Str.ofString "read_items") (dA (dT 17)) (FuncBody.stmts (dB (dT 17))) (dS (dT 17)) 3 [] .none .none .none (vs "z80.btokens" 187) none (.ref 103) .none 0)) (Array.mk []))
noncomputable def o105 (P : Params) : Obj := (Obj.mk (.type "tuple") none (Data.seq (Array.mk []) 0) (Array.mk []))
noncomputable def o106 (P : Params) : Obj := (Obj.mk .none none (Data.fields (Array.mk [])) (Array.mk []))
noncomputable def o107 (P : Params) : Obj := (Obj.mk (.type "tuple") none (Data.seq (Array.mk [(vs "text" 380), (vs "whole" 381), (vs "at" 382), (vs "sign" 383), (vs "found" 384), (vs "number" 385), (vs "word" 386), (vs "size" 387), (vs "items" 388), (vs "name" 389)]) 0) (Array.mk []))
noncomputable def o108 (P : Params) : Obj := (Obj.mk (.type "tuple") none (Data.seq (Array.mk []) 0) (Array.mk []))
noncomputable def o109 (P : Params) : Obj := (Obj.mk .none none (Data.func (FuncData.mk (Str.ofString "read_token") (Str.ofString "read_token") (dA (dT 18)) (FuncBody.stmts (dB (dT 18))) (dS (dT 18)) 0 [] .none .none .none .none none .none .none 0)) (Array.mk []))
noncomputable def o110 (P : Params) : Obj := (Obj.mk (.type "code") none (Data.fields (Array.mk [(vs "read_token" 377), (vs "read_token" 378), (vs "/claim/cut.py" 379), (.int 74 0), (.int 3 0), (.int 0 0), (.int 0 0), (.int 3 0), (.ref 105), (.bool true), (.int 181 0), (.ref 106), .none, (.ref 107), (.ref 108), (.ref 109), (.int 390 0), (.int 74 0), (vs "/claim/cut.py" 391)])) (Array.mk []))
noncomputable def o111 (P : Params) : Obj := (Obj.mk (.type "function") none (Data.func (FuncData.mk (Str.ofString "read_token") (Str.ofString "read_token") (dA (dT 18)) (FuncBody.stmts (dB (dT 18))) (dS (dT 18)) 3 [] .none .none .none (vs "z80.btokens" 187) none (.ref 110) .none 0)) (Array.mk []))
noncomputable def o112 (P : Params) : Obj := (Obj.mk (.type "tuple") none (Data.seq (Array.mk []) 0) (Array.mk []))
noncomputable def o113 (P : Params) : Obj := (Obj.mk .none none (Data.fields (Array.mk [])) (Array.mk []))
noncomputable def o114 (P : Params) : Obj := (Obj.mk (.type "tuple") none (Data.seq (Array.mk [(vs "text" 396), (vs "found" 397), (vs "whole" 398), (vs "at" 399), (vs "some" 400)]) 0) (Array.mk []))
noncomputable def o115 (P : Params) : Obj := (Obj.mk (.type "tuple") none (Data.seq (Array.mk []) 0) (Array.mk []))
noncomputable def o116 (P : Params) : Obj := (Obj.mk .none none (Data.func (FuncData.mk (Str.ofString "tokens_of") (Str.ofString "tokens_of") (dA (dT 19)) (FuncBody.stmts (dB (dT 19))) (dS (dT 19)) 0 [] .none .none .none .none none .none .none 0)) (Array.mk []))
noncomputable def o117 (P : Params) : Obj := (Obj.mk (.type "code") none (Data.fields (Array.mk [(vs "tokens_of" 393), (vs "tokens_of" 394), (vs "/claim/cut.py" 395), (.int 101 0), (.int 1 0), (.int 0 0), (.int 0 0), (.int 3 0), (.ref 112), (.bool true), (.int 181 0), (.ref 113), .none, (.ref 114), (.ref 115), (.ref 116), (.int 401 0), (.int 101 0), (vs "/claim/cut.py" 402)])) (Array.mk []))
noncomputable def o118 (P : Params) : Obj := (Obj.mk (.type "function") none (Data.func (FuncData.mk (Str.ofString "tokens_of") (Str.ofString "tokens_of") (dA (dT 19)) (FuncBody.stmts (dB (dT 19))) (dS (dT 19)) 3 [] .none .none .none (vs "z80.btokens" 187) none (.ref 117) .none 0)) (Array.mk []))
noncomputable def o119 (P : Params) : Obj := (Obj.mk (.type "tuple") none (Data.seq (Array.mk [(vs "GOTO" 408), (vs "GOSUB" 409), (vs "THEN" 410), (vs "ELSE" 411), (vs "RESTORE" 412), (vs "RUN" 413)]) 0) (Array.mk []))
noncomputable def o120 (P : Params) : Obj := (Obj.mk (.type "tuple") none (Data.seq (Array.mk []) 0) (Array.mk []))
noncomputable def o121 (P : Params) : Obj := (Obj.mk (.type "builtin_function_or_method") none (Data.fields (Array.mk [(.builtin "type.__prepare__"), (.type "type")])) (Array.mk []))
noncomputable def o122 (P : Params) : Obj := (Obj.mk (.type "dict") none (Data.dict (Array.mk [(en P "__module__" 422 (vs "z80.bprogram" 404)), (en P "__qualname__" 424 (vs "Program" 423)), (en P "__firstlineno__" 426 (.int 112 425)), (en P "__init__" 433 (.ref 133)), (en P "__static_attributes__" 436 (.ref 134))]) 5) (Array.mk []))
noncomputable def o123 (P : Params) : Obj := (Obj.mk (.type "tuple") none (Data.seq (Array.mk []) 0) (Array.mk []))
noncomputable def o124 (P : Params) : Obj := (Obj.mk .none none (Data.fields (Array.mk [(.int 114 0), (.int 4 0), (.ref 132)])) (Array.mk []))
noncomputable def o125 (P : Params) : Obj := (Obj.mk (.type "code") none (Data.fields (Array.mk [(vs "Program" 417), (vs "Program" 418), (vs "/claim/cut.py" 419), (.int 112 0), (.int 0 0), (.int 0 0), (.int 0 0), (.int 0 0), (.ref 123), (.bool false), (.int 181 0), (.ref 124), .none, .none, .none, .none, (.int 420 0), (.int 112 0), (vs "/claim/cut.py" 421)])) (Array.mk []))
noncomputable def o126 (P : Params) : Obj := (Obj.mk (.type "frame") none Data.plain (Array.mk [(some (.ref 125)), (some (.ref 3)), (some (.ref 122)), none, (some (vs "z80.bprogram" 404)), none, (some (.ref 0))]))
noncomputable def o127 (P : Params) : Obj := (Obj.mk (.type "tuple") none (Data.seq (Array.mk []) 0) (Array.mk []))
noncomputable def o128 (P : Params) : Obj := (Obj.mk .none none (Data.fields (Array.mk [])) (Array.mk []))
noncomputable def o129 (P : Params) : Obj := (Obj.mk (.type "tuple") none (Data.seq (Array.mk [(vs "self" 430)]) 0) (Array.mk []))
noncomputable def o130 (P : Params) : Obj := (Obj.mk (.type "tuple") none (Data.seq (Array.mk []) 0) (Array.mk []))
noncomputable def o131 (P : Params) : Obj := (Obj.mk .none none (Data.func (FuncData.mk (Str.ofString "__init__") (Str.ofString "Program.__init__") (dA (dC 23)) (FuncBody.stmts (dB (dC 23))) (dS (dC 23)) 0 [] .none .none .none .none none .none .none 0)) (Array.mk []))
noncomputable def o132 (P : Params) : Obj := (Obj.mk (.type "code") none (Data.fields (Array.mk [(vs "__init__" 427), (vs "Program.__init__" 428), (vs "/claim/cut.py" 429), (.int 114 0), (.int 1 0), (.int 0 0), (.int 0 0), (.int 3 0), (.ref 127), (.bool true), (.int 181 0), (.ref 128), .none, (.ref 129), (.ref 130), (.ref 131), (.int 431 0), (.int 114 0), (vs "/claim/cut.py" 432)])) (Array.mk []))
noncomputable def o133 (P : Params) : Obj := (Obj.mk (.type "function") none (Data.func (FuncData.mk (Str.ofString "__init__") (Str.ofString "Program.__init__") (dA (dC 23)) (FuncBody.stmts (dB (dC 23))) (dS (dC 23)) 3 [] .none .none .none (vs "z80.bprogram" 404) none (.ref 132) .none 0)) (Array.mk []))
noncomputable def o134 (P : Params) : Obj := (Obj.mk (.type "tuple") none (Data.seq (Array.mk [(vs "numbers" 434), (vs "rows" 435)]) 0) (Array.mk []))
noncomputable def o135 (P : Params) : Obj := (Obj.mk (.type "dict") none (Data.dict (Array.mk [(en P "__module__" 422 (vs "z80.bprogram" 404)), (en P "__firstlineno__" 426 (.int 112 425)), (en P "__init__" 433 (.ref 133)), (en P "__static_attributes__" 436 (.ref 134)), (en P "__dict__" 438 (.ref 137)), (en P "__weakref__" 440 (.ref 138)), (en P "__doc__" 441 .none)]) 4) (Array.mk []))
noncomputable def o136 (P : Params) : Obj := (Obj.mk (.type "type") none (Data.cls (ClassData.mk (Str.ofString "Program") [(.type "object")] [(.ref 136), (.type "object")] 135 (Str.ofString "Program") true [] [] false none false)) (Array.mk [none, none, (some (vs "Program" 415)), (some (vs "Program" 423)), (some (.builtin "object.__new__")), (some (.bool true))]))
noncomputable def o137 (P : Params) : Obj := (Obj.mk (.type "getset_descriptor") none (Data.fields (Array.mk [(vs "__dict__" 437), (.ref 136), (.builtin "function.__dict__"), (.builtin "function.__dict__#set")])) (Array.mk []))
noncomputable def o138 (P : Params) : Obj := (Obj.mk (.type "getset_descriptor") none (Data.fields (Array.mk [(vs "__weakref__" 439), (.ref 136), (.builtin "ExceptionGroup.__weakref__"), .none])) (Array.mk []))
noncomputable def o139 (P : Params) : Obj := (Obj.mk (.type "super") none (Data.fields (Array.mk [(.ref 136), (.ref 136), (.ref 136)])) (Array.mk []))
noncomputable def o140 (P : Params) : Obj := (Obj.mk (.type "builtin_function_or_method") none (Data.fields (Array.mk [(.builtin "object.__init_subclass__"), (.ref 136)])) (Array.mk []))
noncomputable def TB (P : Params) : BT := (.node (boot_o_0 P) (.node (boot_o_1 P) (.node (o3v1 P) (.node (boot_o_7 P) (.node (o15 P) (.node (o31 P) (.node (o63 P) (.node (o127 P) .nil .nil) .nil) (.node (o95 P) .nil .nil)) (.node (o47 P) (.node (o79 P) .nil .nil) (.node (o111 P) .nil .nil))) (.node (o23 P) (.node (o39 P) (.node (o71 P) (.node (o135 P) .nil .nil) .nil) (.node (o103 P) .nil .nil)) (.node (o55 P) (.node (o87 P) .nil .nil) (.node (o119 P) .nil .nil)))) (.node (o11 P) (.node (o19 P) (.node (o35 P) (.node (o67 P) (.node (o131 P) .nil .nil) .nil) (.node (o99 P) .nil .nil)) (.node (o51 P) (.node (o83 P) .nil .nil) (.node (o115 P) .nil .nil))) (.node (o27 P) (.node (o43 P) (.node (o75 P) (.node (o139 P) .nil .nil) .nil) (.node (o107 P) .nil .nil)) (.node (o59 P) (.node (o91 P) .nil .nil) (.node (o123 P) .nil .nil))))) (.node (boot_o_5 P) (.node (boot_o_9 P) (.node (o17 P) (.node (o33 P) (.node (o65 P) (.node (o129 P) .nil .nil) .nil) (.node (o97 P) .nil .nil)) (.node (o49 P) (.node (o81 P) .nil .nil) (.node (o113 P) .nil .nil))) (.node (o25 P) (.node (o41 P) (.node (o73 P) (.node (o137 P) .nil .nil) .nil) (.node (o105 P) .nil .nil)) (.node (o57 P) (.node (o89 P) .nil .nil) (.node (o121 P) .nil .nil)))) (.node (o13 P) (.node (o21 P) (.node (o37 P) (.node (o69 P) (.node (o133 P) .nil .nil) .nil) (.node (o101 P) .nil .nil)) (.node (o53 P) (.node (o85 P) .nil .nil) (.node (o117 P) .nil .nil))) (.node (o29 P) (.node (o45 P) (.node (o77 P) .nil .nil) (.node (o109 P) .nil .nil)) (.node (o61 P) (.node (o93 P) .nil .nil) (.node (o125 P) .nil .nil)))))) (.node (o2 P) (.node (boot_o_4 P) (.node (boot_o_8 P) (.node (o16 P) (.node (o32 P) (.node (o64 P) (.node (o128 P) .nil .nil) .nil) (.node (o96 P) .nil .nil)) (.node (o48 P) (.node (o80 P) .nil .nil) (.node (o112 P) .nil .nil))) (.node (o24 P) (.node (o40 P) (.node (o72 P) (.node (o136 P) .nil .nil) .nil) (.node (o104 P) .nil .nil)) (.node (o56 P) (.node (o88 P) .nil .nil) (.node (o120 P) .nil .nil)))) (.node (o12v2 P) (.node (o20 P) (.node (o36 P) (.node (o68 P) (.node (o132 P) .nil .nil) .nil) (.node (o100 P) .nil .nil)) (.node (o52 P) (.node (o84 P) .nil .nil) (.node (o116 P) .nil .nil))) (.node (o28 P) (.node (o44 P) (.node (o76 P) (.node (o140 P) .nil .nil) .nil) (.node (o108 P) .nil .nil)) (.node (o60 P) (.node (o92 P) .nil .nil) (.node (o124 P) .nil .nil))))) (.node (boot_o_6 P) (.node (boot_o_10 P) (.node (o18 P) (.node (o34 P) (.node (o66 P) (.node (o130 P) .nil .nil) .nil) (.node (o98 P) .nil .nil)) (.node (o50 P) (.node (o82 P) .nil .nil) (.node (o114 P) .nil .nil))) (.node (o26 P) (.node (o42 P) (.node (o74 P) (.node (o138 P) .nil .nil) .nil) (.node (o106 P) .nil .nil)) (.node (o58 P) (.node (o90 P) .nil .nil) (.node (o122 P) .nil .nil)))) (.node (o14 P) (.node (o22 P) (.node (o38 P) (.node (o70 P) (.node (o134 P) .nil .nil) .nil) (.node (o102 P) .nil .nil)) (.node (o54 P) (.node (o86 P) .nil .nil) (.node (o118 P) .nil .nil))) (.node (o30 P) (.node (o46 P) (.node (o78 P) .nil .nil) (.node (o110 P) .nil .nil)) (.node (o62 P) (.node (o94 P) .nil .nil) (.node (o126 P) .nil .nil)))))))
noncomputable def nTB : Nat := 141
noncomputable def kTB : Nat := 444
noncomputable def qTB : Pos := (Pos.mk 112 0 116 22)
noncomputable def lTB : Life := (Life.mk [] [] [] 0 [] [] false (Array.mk []) [] 0 false false false 0 [2000, 10, 10] false 0 true [] [] 0 false)
noncomputable def o3v2 (P : Params) : Obj := (Obj.mk (.type "dict") none (Data.dict (Array.mk [(en P "__name__" 165 (vs "law_rh0269_02" 546)), (en P "__doc__" 166 .none), (en P "__package__" 167 .none), (en P "__loader__" 168 (.builtin "__main__.__loader__#opaque")), (en P "__spec__" 169 .none), (en P "__annotations__" 170 (.ref 6)), (en P "__builtins__" 171 (.ref 4)), (en P "__file__" 173 (vs "/claim/cut.py" 172)), (en P "__cached__" 174 .none), (en P "WORDS" 233 (.ref 15)), (en P "SIGNS" 251 (.ref 16)), (en P "DIGITS" 253 (vs "0123456789" 252)), (en P "LETTERS" 255 (vs "ABCDEFGHIJKLMNOPQRSTUVWXYZ" 254)), (en P "BLANKS" 257 (vs " \t" 256)), (en P "MOST_NUMBER" 259 (.int 65535 258)), (en P "BasicError" 288 (.ref 33)), (en P "great_sign" 295 (.ref 43)), (en P "great_text" 301 (.ref 48)), (en P "word_at" 311 (.ref 55)), (en P "sign_at" 320 (.ref 62)), (en P "behind_blanks" 328 (.ref 69)), (en P "read_number" 337 (.ref 76)), (en P "read_name" 346 (.ref 83)), (en P "read_quoted" 355 (.ref 90)), (en P "read_item" 366 (.ref 97)), (en P "read_items" 376 (.ref 104)), (en P "read_token" 392 (.ref 111)), (en P "tokens_of" 403 (.ref 118)), (en P "GREATEST" 407 (.int 65529 406)), (en P "JUMPS" 414 (.ref 119)), (en P "Program" 443 (.ref 136)), (en P "place_of" 454 (.ref 147)), (en P "has_line" 463 (.ref 154)), (en P "put_line" 474 (.ref 161)), (en P "split_number" 484 (.ref 168)), (en P "enter_row" 494 (.ref 175)), (en P "enter_all" 503 (.ref 182)), (en P "targets" 509 (.ref 187)), (en P "is_whole_target" 517 (.ref 194)), (en P "lost_targets" 523 (.ref 199)), (en P "new_numbers" 529 (.ref 204)), (en P "led_row" 539 (.ref 211)), (en P "renumber" 545 (.ref 216)), (en P "_law_rows" 553 (.ref 223)), (en P "_law_skimmed" 561 (.ref 230)), (en P "law" 567 (.ref 235))]) 46) (Array.mk []))
noncomputable def o12v3 (P : Params) : Obj := (Obj.mk .none none (Data.fields (Array.mk [(.int 8 0), (.int 0 0), (.ref 22), (.int 12 0), (.int 0 0), (.ref 42), (.int 14 0), (.int 0 0), (.ref 47), (.int 16 0), (.int 0 0), (.ref 54), (.int 22 0), (.int 0 0), (.ref 61), (.int 27 0), (.int 0 0), (.ref 68), (.int 31 0), (.int 0 0), (.ref 75), (.int 39 0), (.int 0 0), (.ref 82), (.int 47 0), (.int 0 0), (.ref 89), (.int 52 0), (.int 0 0), (.ref 96), (.int 67 0), (.int 0 0), (.ref 103), (.int 74 0), (.int 0 0), (.ref 110), (.int 101 0), (.int 0 0), (.ref 117), (.int 112 0), (.int 0 0), (.ref 125), (.int 117 0), (.int 0 0), (.ref 146), (.int 126 0), (.int 0 0), (.ref 153), (.int 129 0), (.int 0 0), (.ref 160), (.int 144 0), (.int 0 0), (.ref 167), (.int 151 0), (.int 0 0), (.ref 174), (.int 157 0), (.int 0 0), (.ref 181), (.int 161 0), (.int 0 0), (.ref 186), (.int 169 0), (.int 0 0), (.ref 193), (.int 173 0), (.int 0 0), (.ref 198), (.int 178 0), (.int 0 0), (.ref 203), (.int 185 0), (.int 0 0), (.ref 210), (.int 190 0), (.int 0 0), (.ref 215), (.int 199 0), (.int 0 0), (.ref 222), (.int 201 0), (.int 0 0), (.ref 229), (.int 204 0), (.int 0 0), (.ref 234)])) (Array.mk []))
noncomputable def o141 (P : Params) : Obj := (Obj.mk (.type "tuple") none (Data.seq (Array.mk []) 0) (Array.mk []))
noncomputable def o142 (P : Params) : Obj := (Obj.mk .none none (Data.fields (Array.mk [])) (Array.mk []))
noncomputable def o143 (P : Params) : Obj := (Obj.mk (.type "tuple") none (Data.seq (Array.mk [(vs "program" 447), (vs "number" 448), (vs "least" 449), (vs "most" 450), (vs "middle" 451)]) 0) (Array.mk []))
noncomputable def o144 (P : Params) : Obj := (Obj.mk (.type "tuple") none (Data.seq (Array.mk []) 0) (Array.mk []))
noncomputable def o145 (P : Params) : Obj := (Obj.mk .none none (Data.func (FuncData.mk (Str.ofString "place_of") (Str.ofString "place_of") (dA (dT 24)) (FuncBody.stmts (dB (dT 24))) (dS (dT 24)) 0 [] .none .none .none .none none .none .none 0)) (Array.mk []))
noncomputable def o146 (P : Params) : Obj := (Obj.mk (.type "code") none (Data.fields (Array.mk [(vs "place_of" 444), (vs "place_of" 445), (vs "/claim/cut.py" 446), (.int 117 0), (.int 2 0), (.int 0 0), (.int 0 0), (.int 3 0), (.ref 141), (.bool true), (.int 181 0), (.ref 142), .none, (.ref 143), (.ref 144), (.ref 145), (.int 452 0), (.int 117 0), (vs "/claim/cut.py" 453)])) (Array.mk []))
noncomputable def o147 (P : Params) : Obj := (Obj.mk (.type "function") none (Data.func (FuncData.mk (Str.ofString "place_of") (Str.ofString "place_of") (dA (dT 24)) (FuncBody.stmts (dB (dT 24))) (dS (dT 24)) 3 [] .none .none .none (vs "z80.bprogram" 404) none (.ref 146) .none 0)) (Array.mk []))
noncomputable def o148 (P : Params) : Obj := (Obj.mk (.type "tuple") none (Data.seq (Array.mk []) 0) (Array.mk []))
noncomputable def o149 (P : Params) : Obj := (Obj.mk .none none (Data.fields (Array.mk [])) (Array.mk []))
noncomputable def o150 (P : Params) : Obj := (Obj.mk (.type "tuple") none (Data.seq (Array.mk [(vs "program" 458), (vs "number" 459), (vs "at" 460)]) 0) (Array.mk []))
noncomputable def o151 (P : Params) : Obj := (Obj.mk (.type "tuple") none (Data.seq (Array.mk []) 0) (Array.mk []))
noncomputable def o152 (P : Params) : Obj := (Obj.mk .none none (Data.func (FuncData.mk (Str.ofString "has_line") (Str.ofString "has_line") (dA (dT 25)) (FuncBody.stmts (dB (dT 25))) (dS (dT 25)) 0 [] .none .none .none .none none .none .none 0)) (Array.mk []))
noncomputable def o153 (P : Params) : Obj := (Obj.mk (.type "code") none (Data.fields (Array.mk [(vs "has_line" 455), (vs "has_line" 456), (vs "/claim/cut.py" 457), (.int 126 0), (.int 2 0), (.int 0 0), (.int 0 0), (.int 3 0), (.ref 148), (.bool true), (.int 181 0), (.ref 149), .none, (.ref 150), (.ref 151), (.ref 152), (.int 461 0), (.int 126 0), (vs "/claim/cut.py" 462)])) (Array.mk []))
noncomputable def o154 (P : Params) : Obj := (Obj.mk (.type "function") none (Data.func (FuncData.mk (Str.ofString "has_line") (Str.ofString "has_line") (dA (dT 25)) (FuncBody.stmts (dB (dT 25))) (dS (dT 25)) 3 [] .none .none .none (vs "z80.bprogram" 404) none (.ref 153) .none 0)) (Array.mk []))
noncomputable def o155 (P : Params) : Obj := (Obj.mk (.type "tuple") none (Data.seq (Array.mk []) 0) (Array.mk []))
noncomputable def o156 (P : Params) : Obj := (Obj.mk .none none (Data.fields (Array.mk [])) (Array.mk []))
noncomputable def o157 (P : Params) : Obj := (Obj.mk (.type "tuple") none (Data.seq (Array.mk [(vs "program" 467), (vs "number" 468), (vs "row" 469), (vs "at" 470), (vs "is_there" 471)]) 0) (Array.mk []))
noncomputable def o158 (P : Params) : Obj := (Obj.mk (.type "tuple") none (Data.seq (Array.mk []) 0) (Array.mk []))
noncomputable def o159 (P : Params) : Obj := (Obj.mk .none none (Data.func (FuncData.mk (Str.ofString "put_line") (Str.ofString "put_line") (dA (dT 26)) (FuncBody.stmts (dB (dT 26))) (dS (dT 26)) 0 [] .none .none .none .none none .none .none 0)) (Array.mk []))
noncomputable def o160 (P : Params) : Obj := (Obj.mk (.type "code") none (Data.fields (Array.mk [(vs "put_line" 464), (vs "put_line" 465), (vs "/claim/cut.py" 466), (.int 129 0), (.int 3 0), (.int 0 0), (.int 0 0), (.int 3 0), (.ref 155), (.bool true), (.int 181 0), (.ref 156), .none, (.ref 157), (.ref 158), (.ref 159), (.int 472 0), (.int 129 0), (vs "/claim/cut.py" 473)])) (Array.mk []))
noncomputable def o161 (P : Params) : Obj := (Obj.mk (.type "function") none (Data.func (FuncData.mk (Str.ofString "put_line") (Str.ofString "put_line") (dA (dT 26)) (FuncBody.stmts (dB (dT 26))) (dS (dT 26)) 3 [] .none .none .none (vs "z80.bprogram" 404) none (.ref 160) .none 0)) (Array.mk []))
noncomputable def o162 (P : Params) : Obj := (Obj.mk (.type "tuple") none (Data.seq (Array.mk []) 0) (Array.mk []))
noncomputable def o163 (P : Params) : Obj := (Obj.mk .none none (Data.fields (Array.mk [])) (Array.mk []))
noncomputable def o164 (P : Params) : Obj := (Obj.mk (.type "tuple") none (Data.seq (Array.mk [(vs "text" 478), (vs "begin" 479), (vs "number" 480), (vs "at" 481)]) 0) (Array.mk []))
noncomputable def o165 (P : Params) : Obj := (Obj.mk (.type "tuple") none (Data.seq (Array.mk []) 0) (Array.mk []))
noncomputable def o166 (P : Params) : Obj := (Obj.mk .none none (Data.func (FuncData.mk (Str.ofString "split_number") (Str.ofString "split_number") (dA (dT 27)) (FuncBody.stmts (dB (dT 27))) (dS (dT 27)) 0 [] .none .none .none .none none .none .none 0)) (Array.mk []))
noncomputable def o167 (P : Params) : Obj := (Obj.mk (.type "code") none (Data.fields (Array.mk [(vs "split_number" 475), (vs "split_number" 476), (vs "/claim/cut.py" 477), (.int 144 0), (.int 1 0), (.int 0 0), (.int 0 0), (.int 3 0), (.ref 162), (.bool true), (.int 181 0), (.ref 163), .none, (.ref 164), (.ref 165), (.ref 166), (.int 482 0), (.int 144 0), (vs "/claim/cut.py" 483)])) (Array.mk []))
noncomputable def o168 (P : Params) : Obj := (Obj.mk (.type "function") none (Data.func (FuncData.mk (Str.ofString "split_number") (Str.ofString "split_number") (dA (dT 27)) (FuncBody.stmts (dB (dT 27))) (dS (dT 27)) 3 [] .none .none .none (vs "z80.bprogram" 404) none (.ref 167) .none 0)) (Array.mk []))
noncomputable def o169 (P : Params) : Obj := (Obj.mk (.type "tuple") none (Data.seq (Array.mk []) 0) (Array.mk []))
noncomputable def o170 (P : Params) : Obj := (Obj.mk .none none (Data.fields (Array.mk [])) (Array.mk []))
noncomputable def o171 (P : Params) : Obj := (Obj.mk (.type "tuple") none (Data.seq (Array.mk [(vs "program" 488), (vs "text" 489), (vs "number" 490), (vs "rest" 491)]) 0) (Array.mk []))
noncomputable def o172 (P : Params) : Obj := (Obj.mk (.type "tuple") none (Data.seq (Array.mk []) 0) (Array.mk []))
noncomputable def o173 (P : Params) : Obj := (Obj.mk .none none (Data.func (FuncData.mk (Str.ofString "enter_row") (Str.ofString "enter_row") (dA (dT 28)) (FuncBody.stmts (dB (dT 28))) (dS (dT 28)) 0 [] .none .none .none .none none .none .none 0)) (Array.mk []))
noncomputable def o174 (P : Params) : Obj := (Obj.mk (.type "code") none (Data.fields (Array.mk [(vs "enter_row" 485), (vs "enter_row" 486), (vs "/claim/cut.py" 487), (.int 151 0), (.int 2 0), (.int 0 0), (.int 0 0), (.int 3 0), (.ref 169), (.bool true), (.int 181 0), (.ref 170), .none, (.ref 171), (.ref 172), (.ref 173), (.int 492 0), (.int 151 0), (vs "/claim/cut.py" 493)])) (Array.mk []))
noncomputable def o175 (P : Params) : Obj := (Obj.mk (.type "function") none (Data.func (FuncData.mk (Str.ofString "enter_row") (Str.ofString "enter_row") (dA (dT 28)) (FuncBody.stmts (dB (dT 28))) (dS (dT 28)) 3 [] .none .none .none (vs "z80.bprogram" 404) none (.ref 174) .none 0)) (Array.mk []))
noncomputable def o176 (P : Params) : Obj := (Obj.mk (.type "tuple") none (Data.seq (Array.mk []) 0) (Array.mk []))
noncomputable def o177 (P : Params) : Obj := (Obj.mk .none none (Data.fields (Array.mk [])) (Array.mk []))
noncomputable def o178 (P : Params) : Obj := (Obj.mk (.type "tuple") none (Data.seq (Array.mk [(vs "program" 498), (vs "text" 499), (vs "typed" 500)]) 0) (Array.mk []))
noncomputable def o179 (P : Params) : Obj := (Obj.mk (.type "tuple") none (Data.seq (Array.mk []) 0) (Array.mk []))
noncomputable def o180 (P : Params) : Obj := (Obj.mk .none none (Data.func (FuncData.mk (Str.ofString "enter_all") (Str.ofString "enter_all") (dA (dT 29)) (FuncBody.stmts (dB (dT 29))) (dS (dT 29)) 0 [] .none .none .none .none none .none .none 0)) (Array.mk []))
noncomputable def o181 (P : Params) : Obj := (Obj.mk (.type "code") none (Data.fields (Array.mk [(vs "enter_all" 495), (vs "enter_all" 496), (vs "/claim/cut.py" 497), (.int 157 0), (.int 2 0), (.int 0 0), (.int 0 0), (.int 3 0), (.ref 176), (.bool true), (.int 181 0), (.ref 177), .none, (.ref 178), (.ref 179), (.ref 180), (.int 501 0), (.int 157 0), (vs "/claim/cut.py" 502)])) (Array.mk []))
noncomputable def o182 (P : Params) : Obj := (Obj.mk (.type "function") none (Data.func (FuncData.mk (Str.ofString "enter_all") (Str.ofString "enter_all") (dA (dT 29)) (FuncBody.stmts (dB (dT 29))) (dS (dT 29)) 3 [] .none .none .none (vs "z80.bprogram" 404) none (.ref 181) .none 0)) (Array.mk []))
noncomputable def o183 (P : Params) : Obj := (Obj.mk (.type "tuple") none (Data.seq (Array.mk []) 0) (Array.mk []))
noncomputable def o184 (P : Params) : Obj := (Obj.mk .none none (Data.fields (Array.mk [])) (Array.mk []))
noncomputable def o185 (P : Params) : Obj := (Obj.mk .none none (Data.func (FuncData.mk (Str.ofString "targets") (Str.ofString "targets") (dA (dT 30)) (FuncBody.stmts (dB (dT 30))) (dS (dT 30)) 0 [] .none .none .none .none none .none .none 0)) (Array.mk []))
noncomputable def o186 (P : Params) : Obj := (Obj.mk (.type "code") none (Data.fields (Array.mk [(vs "targets" 504), (vs "targets" 505), (vs "/claim/cut.py" 506), (.int 161 0), (.int 1 0), (.int 0 0), (.int 0 0), (.int 3 0), (.ref 183), (.bool true), (.int 181 0), (.ref 184), .none, .none, .none, (.ref 185), (.int 507 0), (.int 161 0), (vs "/claim/cut.py" 508)])) (Array.mk []))
noncomputable def o187 (P : Params) : Obj := (Obj.mk (.type "function") none (Data.func (FuncData.mk (Str.ofString "targets") (Str.ofString "targets") (dA (dT 30)) (FuncBody.stmts (dB (dT 30))) (dS (dT 30)) 3 [] .none .none .none (vs "z80.bprogram" 404) none (.ref 186) .none 0)) (Array.mk []))
noncomputable def o188 (P : Params) : Obj := (Obj.mk (.type "tuple") none (Data.seq (Array.mk []) 0) (Array.mk []))
noncomputable def o189 (P : Params) : Obj := (Obj.mk .none none (Data.fields (Array.mk [])) (Array.mk []))
noncomputable def o190 (P : Params) : Obj := (Obj.mk (.type "tuple") none (Data.seq (Array.mk [(vs "row" 513), (vs "at" 514)]) 0) (Array.mk []))
noncomputable def o191 (P : Params) : Obj := (Obj.mk (.type "tuple") none (Data.seq (Array.mk []) 0) (Array.mk []))
noncomputable def o192 (P : Params) : Obj := (Obj.mk .none none (Data.func (FuncData.mk (Str.ofString "is_whole_target") (Str.ofString "is_whole_target") (dA (dT 31)) (FuncBody.stmts (dB (dT 31))) (dS (dT 31)) 0 [] .none .none .none .none none .none .none 0)) (Array.mk []))
noncomputable def o193 (P : Params) : Obj := (Obj.mk (.type "code") none (Data.fields (Array.mk [(vs "is_whole_target" 510), (vs "is_whole_target" 511), (vs "/claim/cut.py" 512), (.int 169 0), (.int 2 0), (.int 0 0), (.int 0 0), (.int 3 0), (.ref 188), (.bool true), (.int 181 0), (.ref 189), .none, (.ref 190), (.ref 191), (.ref 192), (.int 515 0), (.int 169 0), (vs "/claim/cut.py" 516)])) (Array.mk []))
noncomputable def o194 (P : Params) : Obj := (Obj.mk (.type "function") none (Data.func (FuncData.mk (Str.ofString "is_whole_target") (Str.ofString "is_whole_target") (dA (dT 31)) (FuncBody.stmts (dB (dT 31))) (dS (dT 31)) 3 [] .none .none .none (vs "z80.bprogram" 404) none (.ref 193) .none 0)) (Array.mk []))
noncomputable def o195 (P : Params) : Obj := (Obj.mk (.type "tuple") none (Data.seq (Array.mk []) 0) (Array.mk []))
noncomputable def o196 (P : Params) : Obj := (Obj.mk .none none (Data.fields (Array.mk [])) (Array.mk []))
noncomputable def o197 (P : Params) : Obj := (Obj.mk .none none (Data.func (FuncData.mk (Str.ofString "lost_targets") (Str.ofString "lost_targets") (dA (dT 32)) (FuncBody.stmts (dB (dT 32))) (dS (dT 32)) 0 [] .none .none .none .none none .none .none 0)) (Array.mk []))
noncomputable def o198 (P : Params) : Obj := (Obj.mk (.type "code") none (Data.fields (Array.mk [(vs "lost_targets" 518), (vs "lost_targets" 519), (vs "/claim/cut.py" 520), (.int 173 0), (.int 1 0), (.int 0 0), (.int 0 0), (.int 3 0), (.ref 195), (.bool true), (.int 181 0), (.ref 196), .none, .none, .none, (.ref 197), (.int 521 0), (.int 173 0), (vs "/claim/cut.py" 522)])) (Array.mk []))
noncomputable def o199 (P : Params) : Obj := (Obj.mk (.type "function") none (Data.func (FuncData.mk (Str.ofString "lost_targets") (Str.ofString "lost_targets") (dA (dT 32)) (FuncBody.stmts (dB (dT 32))) (dS (dT 32)) 3 [] .none .none .none (vs "z80.bprogram" 404) none (.ref 198) .none 0)) (Array.mk []))
noncomputable def o200 (P : Params) : Obj := (Obj.mk (.type "tuple") none (Data.seq (Array.mk []) 0) (Array.mk []))
noncomputable def o201 (P : Params) : Obj := (Obj.mk .none none (Data.fields (Array.mk [])) (Array.mk []))
noncomputable def o202 (P : Params) : Obj := (Obj.mk .none none (Data.func (FuncData.mk (Str.ofString "new_numbers") (Str.ofString "new_numbers") (dA (dT 33)) (FuncBody.stmts (dB (dT 33))) (dS (dT 33)) 0 [] .none .none .none .none none .none .none 0)) (Array.mk []))
noncomputable def o203 (P : Params) : Obj := (Obj.mk (.type "code") none (Data.fields (Array.mk [(vs "new_numbers" 524), (vs "new_numbers" 525), (vs "/claim/cut.py" 526), (.int 178 0), (.int 4 0), (.int 0 0), (.int 0 0), (.int 3 0), (.ref 200), (.bool true), (.int 181 0), (.ref 201), .none, .none, .none, (.ref 202), (.int 527 0), (.int 178 0), (vs "/claim/cut.py" 528)])) (Array.mk []))
noncomputable def o204 (P : Params) : Obj := (Obj.mk (.type "function") none (Data.func (FuncData.mk (Str.ofString "new_numbers") (Str.ofString "new_numbers") (dA (dT 33)) (FuncBody.stmts (dB (dT 33))) (dS (dT 33)) 3 [] .none .none .none (vs "z80.bprogram" 404) none (.ref 203) .none 0)) (Array.mk []))
noncomputable def o205 (P : Params) : Obj := (Obj.mk (.type "tuple") none (Data.seq (Array.mk []) 0) (Array.mk []))
noncomputable def o206 (P : Params) : Obj := (Obj.mk .none none (Data.fields (Array.mk [])) (Array.mk []))
noncomputable def o207 (P : Params) : Obj := (Obj.mk (.type "tuple") none (Data.seq (Array.mk [(vs "row" 533), (vs "ways" 534), (vs "found" 535), (vs "at" 536)]) 0) (Array.mk []))
noncomputable def o208 (P : Params) : Obj := (Obj.mk (.type "tuple") none (Data.seq (Array.mk []) 0) (Array.mk []))
noncomputable def o209 (P : Params) : Obj := (Obj.mk .none none (Data.func (FuncData.mk (Str.ofString "led_row") (Str.ofString "led_row") (dA (dT 34)) (FuncBody.stmts (dB (dT 34))) (dS (dT 34)) 0 [] .none .none .none .none none .none .none 0)) (Array.mk []))
noncomputable def o210 (P : Params) : Obj := (Obj.mk (.type "code") none (Data.fields (Array.mk [(vs "led_row" 530), (vs "led_row" 531), (vs "/claim/cut.py" 532), (.int 185 0), (.int 2 0), (.int 0 0), (.int 0 0), (.int 3 0), (.ref 205), (.bool true), (.int 181 0), (.ref 206), .none, (.ref 207), (.ref 208), (.ref 209), (.int 537 0), (.int 185 0), (vs "/claim/cut.py" 538)])) (Array.mk []))
noncomputable def o211 (P : Params) : Obj := (Obj.mk (.type "function") none (Data.func (FuncData.mk (Str.ofString "led_row") (Str.ofString "led_row") (dA (dT 34)) (FuncBody.stmts (dB (dT 34))) (dS (dT 34)) 3 [] .none .none .none (vs "z80.bprogram" 404) none (.ref 210) .none 0)) (Array.mk []))
noncomputable def o212 (P : Params) : Obj := (Obj.mk (.type "tuple") none (Data.seq (Array.mk []) 0) (Array.mk []))
noncomputable def o213 (P : Params) : Obj := (Obj.mk .none none (Data.fields (Array.mk [])) (Array.mk []))
noncomputable def o214 (P : Params) : Obj := (Obj.mk .none none (Data.func (FuncData.mk (Str.ofString "renumber") (Str.ofString "renumber") (dA (dT 35)) (FuncBody.stmts (dB (dT 35))) (dS (dT 35)) 0 [] .none .none .none .none none .none .none 0)) (Array.mk []))
noncomputable def o215 (P : Params) : Obj := (Obj.mk (.type "code") none (Data.fields (Array.mk [(vs "renumber" 540), (vs "renumber" 541), (vs "/claim/cut.py" 542), (.int 190 0), (.int 4 0), (.int 0 0), (.int 0 0), (.int 3 0), (.ref 212), (.bool true), (.int 181 0), (.ref 213), .none, .none, .none, (.ref 214), (.int 543 0), (.int 190 0), (vs "/claim/cut.py" 544)])) (Array.mk []))
noncomputable def o216 (P : Params) : Obj := (Obj.mk (.type "function") none (Data.func (FuncData.mk (Str.ofString "renumber") (Str.ofString "renumber") (dA (dT 35)) (FuncBody.stmts (dB (dT 35))) (dS (dT 35)) 3 [] .none .none .none (vs "z80.bprogram" 404) none (.ref 215) .none 0)) (Array.mk []))
noncomputable def o217 (P : Params) : Obj := (Obj.mk (.type "tuple") none (Data.seq (Array.mk []) 0) (Array.mk []))
noncomputable def o218 (P : Params) : Obj := (Obj.mk .none none (Data.fields (Array.mk [])) (Array.mk []))
noncomputable def o219 (P : Params) : Obj := (Obj.mk (.type "tuple") none (Data.seq (Array.mk []) 0) (Array.mk []))
noncomputable def o220 (P : Params) : Obj := (Obj.mk (.type "tuple") none (Data.seq (Array.mk []) 0) (Array.mk []))
noncomputable def o221 (P : Params) : Obj := (Obj.mk .none none (Data.func (FuncData.mk (Str.ofString "_law_rows") (Str.ofString "_law_rows") (dA (dT 37)) (FuncBody.stmts (dB (dT 37))) (dS (dT 37)) 0 [] .none .none .none .none none .none .none 0)) (Array.mk []))
noncomputable def o222 (P : Params) : Obj := (Obj.mk (.type "code") none (Data.fields (Array.mk [(vs "_law_rows" 548), (vs "_law_rows" 549), (vs "/claim/cut.py" 550), (.int 199 0), (.int 0 0), (.int 0 0), (.int 0 0), (.int 3 0), (.ref 217), (.bool true), (.int 181 0), (.ref 218), .none, (.ref 219), (.ref 220), (.ref 221), (.int 551 0), (.int 199 0), (vs "/claim/cut.py" 552)])) (Array.mk []))
noncomputable def o223 (P : Params) : Obj := (Obj.mk (.type "function") none (Data.func (FuncData.mk (Str.ofString "_law_rows") (Str.ofString "_law_rows") (dA (dT 37)) (FuncBody.stmts (dB (dT 37))) (dS (dT 37)) 3 [] .none .none .none (vs "law_rh0269_02" 546) none (.ref 222) .none 0)) (Array.mk []))
noncomputable def o224 (P : Params) : Obj := (Obj.mk (.type "tuple") none (Data.seq (Array.mk []) 0) (Array.mk []))
noncomputable def o225 (P : Params) : Obj := (Obj.mk .none none (Data.fields (Array.mk [])) (Array.mk []))
noncomputable def o226 (P : Params) : Obj := (Obj.mk (.type "tuple") none (Data.seq (Array.mk [(vs "vessel" 557), (vs "many" 558)]) 0) (Array.mk []))
noncomputable def o227 (P : Params) : Obj := (Obj.mk (.type "tuple") none (Data.seq (Array.mk []) 0) (Array.mk []))
noncomputable def o228 (P : Params) : Obj := (Obj.mk .none none (Data.func (FuncData.mk (Str.ofString "_law_skimmed") (Str.ofString "_law_skimmed") (dA (dT 38)) (FuncBody.stmts (dB (dT 38))) (dS (dT 38)) 0 [] .none .none .none .none none .none .none 0)) (Array.mk []))
noncomputable def o229 (P : Params) : Obj := (Obj.mk (.type "code") none (Data.fields (Array.mk [(vs "_law_skimmed" 554), (vs "_law_skimmed" 555), (vs "/claim/cut.py" 556), (.int 201 0), (.int 2 0), (.int 0 0), (.int 0 0), (.int 3 0), (.ref 224), (.bool true), (.int 181 0), (.ref 225), .none, (.ref 226), (.ref 227), (.ref 228), (.int 559 0), (.int 201 0), (vs "/claim/cut.py" 560)])) (Array.mk []))
noncomputable def o230 (P : Params) : Obj := (Obj.mk (.type "function") none (Data.func (FuncData.mk (Str.ofString "_law_skimmed") (Str.ofString "_law_skimmed") (dA (dT 38)) (FuncBody.stmts (dB (dT 38))) (dS (dT 38)) 3 [] .none .none .none (vs "law_rh0269_02" 546) none (.ref 229) .none 0)) (Array.mk []))
noncomputable def o231 (P : Params) : Obj := (Obj.mk (.type "tuple") none (Data.seq (Array.mk []) 0) (Array.mk []))
noncomputable def o232 (P : Params) : Obj := (Obj.mk .none none (Data.fields (Array.mk [])) (Array.mk []))
noncomputable def o233 (P : Params) : Obj := (Obj.mk .none none (Data.func (FuncData.mk (Str.ofString "law") (Str.ofString "law") (dA (dT 39)) (FuncBody.stmts (dB (dT 39))) (dS (dT 39)) 0 [] .none .none .none .none none .none .none 0)) (Array.mk []))
noncomputable def o234 (P : Params) : Obj := (Obj.mk (.type "code") none (Data.fields (Array.mk [(vs "law" 562), (vs "law" 563), (vs "/claim/cut.py" 564), (.int 204 0), (.int 1 0), (.int 0 0), (.int 0 0), (.int 3 0), (.ref 231), (.bool true), (.int 181 0), (.ref 232), .none, .none, .none, (.ref 233), (.int 565 0), (.int 204 0), (vs "/claim/cut.py" 566)])) (Array.mk []))
noncomputable def o235 (P : Params) : Obj := (Obj.mk (.type "function") none (Data.func (FuncData.mk (Str.ofString "law") (Str.ofString "law") (dA (dT 39)) (FuncBody.stmts (dB (dT 39))) (dS (dT 39)) 3 [] .none .none .none (vs "law_rh0269_02" 546) none (.ref 234) .none 0)) (Array.mk []))
noncomputable def TC (P : Params) : BT := (.node (boot_o_0 P) (.node (boot_o_1 P) (.node (o3v2 P) (.node (boot_o_7 P) (.node (o15 P) (.node (o31 P) (.node (o63 P) (.node (o127 P) .nil .nil) (.node (o191 P) .nil .nil)) (.node (o95 P) (.node (o159 P) .nil .nil) (.node (o223 P) .nil .nil))) (.node (o47 P) (.node (o79 P) (.node (o143 P) .nil .nil) (.node (o207 P) .nil .nil)) (.node (o111 P) (.node (o175 P) .nil .nil) .nil))) (.node (o23 P) (.node (o39 P) (.node (o71 P) (.node (o135 P) .nil .nil) (.node (o199 P) .nil .nil)) (.node (o103 P) (.node (o167 P) .nil .nil) (.node (o231 P) .nil .nil))) (.node (o55 P) (.node (o87 P) (.node (o151 P) .nil .nil) (.node (o215 P) .nil .nil)) (.node (o119 P) (.node (o183 P) .nil .nil) .nil)))) (.node (o11 P) (.node (o19 P) (.node (o35 P) (.node (o67 P) (.node (o131 P) .nil .nil) (.node (o195 P) .nil .nil)) (.node (o99 P) (.node (o163 P) .nil .nil) (.node (o227 P) .nil .nil))) (.node (o51 P) (.node (o83 P) (.node (o147 P) .nil .nil) (.node (o211 P) .nil .nil)) (.node (o115 P) (.node (o179 P) .nil .nil) .nil))) (.node (o27 P) (.node (o43 P) (.node (o75 P) (.node (o139 P) .nil .nil) (.node (o203 P) .nil .nil)) (.node (o107 P) (.node (o171 P) .nil .nil) (.node (o235 P) .nil .nil))) (.node (o59 P) (.node (o91 P) (.node (o155 P) .nil .nil) (.node (o219 P) .nil .nil)) (.node (o123 P) (.node (o187 P) .nil .nil) .nil))))) (.node (boot_o_5 P) (.node (boot_o_9 P) (.node (o17 P) (.node (o33 P) (.node (o65 P) (.node (o129 P) .nil .nil) (.node (o193 P) .nil .nil)) (.node (o97 P) (.node (o161 P) .nil .nil) (.node (o225 P) .nil .nil))) (.node (o49 P) (.node (o81 P) (.node (o145 P) .nil .nil) (.node (o209 P) .nil .nil)) (.node (o113 P) (.node (o177 P) .nil .nil) .nil))) (.node (o25 P) (.node (o41 P) (.node (o73 P) (.node (o137 P) .nil .nil) (.node (o201 P) .nil .nil)) (.node (o105 P) (.node (o169 P) .nil .nil) (.node (o233 P) .nil .nil))) (.node (o57 P) (.node (o89 P) (.node (o153 P) .nil .nil) (.node (o217 P) .nil .nil)) (.node (o121 P) (.node (o185 P) .nil .nil) .nil)))) (.node (o13 P) (.node (o21 P) (.node (o37 P) (.node (o69 P) (.node (o133 P) .nil .nil) (.node (o197 P) .nil .nil)) (.node (o101 P) (.node (o165 P) .nil .nil) (.node (o229 P) .nil .nil))) (.node (o53 P) (.node (o85 P) (.node (o149 P) .nil .nil) (.node (o213 P) .nil .nil)) (.node (o117 P) (.node (o181 P) .nil .nil) .nil))) (.node (o29 P) (.node (o45 P) (.node (o77 P) (.node (o141 P) .nil .nil) (.node (o205 P) .nil .nil)) (.node (o109 P) (.node (o173 P) .nil .nil) .nil)) (.node (o61 P) (.node (o93 P) (.node (o157 P) .nil .nil) (.node (o221 P) .nil .nil)) (.node (o125 P) (.node (o189 P) .nil .nil) .nil)))))) (.node (o2 P) (.node (boot_o_4 P) (.node (boot_o_8 P) (.node (o16 P) (.node (o32 P) (.node (o64 P) (.node (o128 P) .nil .nil) (.node (o192 P) .nil .nil)) (.node (o96 P) (.node (o160 P) .nil .nil) (.node (o224 P) .nil .nil))) (.node (o48 P) (.node (o80 P) (.node (o144 P) .nil .nil) (.node (o208 P) .nil .nil)) (.node (o112 P) (.node (o176 P) .nil .nil) .nil))) (.node (o24 P) (.node (o40 P) (.node (o72 P) (.node (o136 P) .nil .nil) (.node (o200 P) .nil .nil)) (.node (o104 P) (.node (o168 P) .nil .nil) (.node (o232 P) .nil .nil))) (.node (o56 P) (.node (o88 P) (.node (o152 P) .nil .nil) (.node (o216 P) .nil .nil)) (.node (o120 P) (.node (o184 P) .nil .nil) .nil)))) (.node (o12v3 P) (.node (o20 P) (.node (o36 P) (.node (o68 P) (.node (o132 P) .nil .nil) (.node (o196 P) .nil .nil)) (.node (o100 P) (.node (o164 P) .nil .nil) (.node (o228 P) .nil .nil))) (.node (o52 P) (.node (o84 P) (.node (o148 P) .nil .nil) (.node (o212 P) .nil .nil)) (.node (o116 P) (.node (o180 P) .nil .nil) .nil))) (.node (o28 P) (.node (o44 P) (.node (o76 P) (.node (o140 P) .nil .nil) (.node (o204 P) .nil .nil)) (.node (o108 P) (.node (o172 P) .nil .nil) .nil)) (.node (o60 P) (.node (o92 P) (.node (o156 P) .nil .nil) (.node (o220 P) .nil .nil)) (.node (o124 P) (.node (o188 P) .nil .nil) .nil))))) (.node (boot_o_6 P) (.node (boot_o_10 P) (.node (o18 P) (.node (o34 P) (.node (o66 P) (.node (o130 P) .nil .nil) (.node (o194 P) .nil .nil)) (.node (o98 P) (.node (o162 P) .nil .nil) (.node (o226 P) .nil .nil))) (.node (o50 P) (.node (o82 P) (.node (o146 P) .nil .nil) (.node (o210 P) .nil .nil)) (.node (o114 P) (.node (o178 P) .nil .nil) .nil))) (.node (o26 P) (.node (o42 P) (.node (o74 P) (.node (o138 P) .nil .nil) (.node (o202 P) .nil .nil)) (.node (o106 P) (.node (o170 P) .nil .nil) (.node (o234 P) .nil .nil))) (.node (o58 P) (.node (o90 P) (.node (o154 P) .nil .nil) (.node (o218 P) .nil .nil)) (.node (o122 P) (.node (o186 P) .nil .nil) .nil)))) (.node (o14 P) (.node (o22 P) (.node (o38 P) (.node (o70 P) (.node (o134 P) .nil .nil) (.node (o198 P) .nil .nil)) (.node (o102 P) (.node (o166 P) .nil .nil) (.node (o230 P) .nil .nil))) (.node (o54 P) (.node (o86 P) (.node (o150 P) .nil .nil) (.node (o214 P) .nil .nil)) (.node (o118 P) (.node (o182 P) .nil .nil) .nil))) (.node (o30 P) (.node (o46 P) (.node (o78 P) (.node (o142 P) .nil .nil) (.node (o206 P) .nil .nil)) (.node (o110 P) (.node (o174 P) .nil .nil) .nil)) (.node (o62 P) (.node (o94 P) (.node (o158 P) .nil .nil) (.node (o222 P) .nil .nil)) (.node (o126 P) (.node (o190 P) .nil .nil) .nil)))))))
noncomputable def nTC : Nat := 236
noncomputable def kTC : Nat := 568
noncomputable def qTC : Pos := (Pos.mk 204 0 218 88)
noncomputable def lTC : Life := (Life.mk [] [] [] 0 [] [] false (Array.mk []) [] 0 false false false 0 [2000, 10, 10] false 0 true [] [] 0 false)
noncomputable def HZ (P : Params) : Heap := ⟨Array.mk [(boot_o_0 P), (boot_o_1 P), (o2 P), (o3v2 P), (boot_o_4 P), (boot_o_5 P), (boot_o_6 P), (boot_o_7 P), (boot_o_8 P), (boot_o_9 P), (boot_o_10 P), (o11 P), (o12v3 P), (o13 P), (o14 P), (o15 P), (o16 P), (o17 P), (o18 P), (o19 P), (o20 P), (o21 P), (o22 P), (o23 P), (o24 P), (o25 P), (o26 P), (o27 P), (o28 P), (o29 P), (o30 P), (o31 P), (o32 P), (o33 P), (o34 P), (o35 P), (o36 P), (o37 P), (o38 P), (o39 P), (o40 P), (o41 P), (o42 P), (o43 P), (o44 P), (o45 P), (o46 P), (o47 P), (o48 P), (o49 P), (o50 P), (o51 P), (o52 P), (o53 P), (o54 P), (o55 P), (o56 P), (o57 P), (o58 P), (o59 P), (o60 P), (o61 P), (o62 P), (o63 P), (o64 P), (o65 P), (o66 P), (o67 P), (o68 P), (o69 P), (o70 P), (o71 P), (o72 P), (o73 P), (o74 P), (o75 P), (o76 P), (o77 P), (o78 P), (o79 P), (o80 P), (o81 P), (o82 P), (o83 P), (o84 P), (o85 P), (o86 P), (o87 P), (o88 P), (o89 P), (o90 P), (o91 P), (o92 P), (o93 P), (o94 P), (o95 P), (o96 P), (o97 P), (o98 P), (o99 P), (o100 P), (o101 P), (o102 P), (o103 P), (o104 P), (o105 P), (o106 P), (o107 P), (o108 P), (o109 P), (o110 P), (o111 P), (o112 P), (o113 P), (o114 P), (o115 P), (o116 P), (o117 P), (o118 P), (o119 P), (o120 P), (o121 P), (o122 P), (o123 P), (o124 P), (o125 P), (o126 P), (o127 P), (o128 P), (o129 P), (o130 P), (o131 P), (o132 P), (o133 P), (o134 P), (o135 P), (o136 P), (o137 P), (o138 P), (o139 P), (o140 P), (o141 P), (o142 P), (o143 P), (o144 P), (o145 P), (o146 P), (o147 P), (o148 P), (o149 P), (o150 P), (o151 P), (o152 P), (o153 P), (o154 P), (o155 P), (o156 P), (o157 P), (o158 P), (o159 P), (o160 P), (o161 P), (o162 P), (o163 P), (o164 P), (o165 P), (o166 P), (o167 P), (o168 P), (o169 P), (o170 P), (o171 P), (o172 P), (o173 P), (o174 P), (o175 P), (o176 P), (o177 P), (o178 P), (o179 P), (o180 P), (o181 P), (o182 P), (o183 P), (o184 P), (o185 P), (o186 P), (o187 P), (o188 P), (o189 P), (o190 P), (o191 P), (o192 P), (o193 P), (o194 P), (o195 P), (o196 P), (o197 P), (o198 P), (o199 P), (o200 P), (o201 P), (o202 P), (o203 P), (o204 P), (o205 P), (o206 P), (o207 P), (o208 P), (o209 P), (o210 P), (o211 P), (o212 P), (o213 P), (o214 P), (o215 P), (o216 P), (o217 P), (o218 P), (o219 P), (o220 P), (o221 P), (o222 P), (o223 P), (o224 P), (o225 P), (o226 P), (o227 P), (o228 P), (o229 P), (o230 P), (o231 P), (o232 P), (o233 P), (o234 P), (o235 P)], (Life.mk [] [] [] 0 [] [] false (Array.mk []) [] 0 false false false 0 [2000, 10, 10] false 0 true [] [] 0 false)⟩
noncomputable def envT : Env := { scope := pp.main.scope, locals := mainNs, globals := mainNs, cells := [], code := .ref 13, frame := some 14 }
noncomputable def bdy : List Stmt := behindTheImports pp
noncomputable def g1 : List Stmt := bdy.take 8
noncomputable def g2 : List Stmt := (bdy.drop 8).take 16
noncomputable def g3 : List Stmt := bdy.drop 24
noncomputable abbrev cT : Code := .body bdy envT
noncomputable abbrev an : Option Value := some (.ref 6)
noncomputable abbrev s0 (w : World) (os : OsState) : Shared := ⟨boot_heap w.params, Array.mk [], boot_drawn, boot_toks, os⟩
noncomputable abbrev st0 (w : World) (os : OsState) : SharedT := ⟨T0 w.params, nT0, lT0, Array.mk [], {}, kT0, os⟩
noncomputable abbrev stA (w : World) (os : OsState) : SharedT := ⟨TA w.params, nTA, lTA, Array.mk [], {}, kTA, os⟩
noncomputable abbrev stB (w : World) (os : OsState) : SharedT := ⟨TB w.params, nTB, lTB, Array.mk [], {}, kTB, os⟩
noncomputable abbrev stC (w : World) (os : OsState) : SharedT := ⟨TC w.params, nTC, lTC, Array.mk [], {}, kTC, os⟩
noncomputable abbrev sZ (w : World) (os : OsState) : Shared := ⟨HZ w.params, Array.mk [], {}, kTC, os⟩
theorem opens : opening pp = plainProg pp.main.scope.names := by kernel_rfl
theorem fence (s : Shared) : fenceModules? pp s = some s := by kernel_rfl
theorem open_ : ∀ w : World, (fencedOpening treeTable pp w 3002).map (fun s => (s.heap, s.gens, s.drawn, s.toks)) = some (boot_heap w.params, Array.mk [], boot_drawn, boot_toks) := boot_open opens (by kernel_rfl) fence
theorem size : ∀ w : World, ((boot_heap w.params).isNs mainGlobals && (Array.mk [] : Array GenState).size == 0, (boot_heap w.params).objs.size, (boot_heap w.params).nsMap mainGlobals "__annotations__") = (true, 11, an) := by intro w; kernel_rfl
theorem pre (w : World) (os : OsState) : topGo treeTable pp w 11 an 12 (s0 w os) (topStub pp) = some ((st0 w os).abs, ⟨denote treeTable cT, cT, qT0, [topFrame qT0]⟩) := by kernel_rfl
theorem block (w : World) (os : OsState) : segRun treeTable pp w 11 an 1 1 (st0 w os).abs (blockOf bdy envT cT qT0 [topFrame qT0]) = some (.next, (st0 w os).abs, cT, qT0) := by kernel_rfl
theorem p1 (w : World) (os : OsState) : segRunT treeTable pp w 11 an 1 355 (st0 w os) (piecesOf g1 envT cT qT0 [topFrame qT0]) = some (.next, stA w os, cT, qTA) := by kernel_rfl
theorem p2 (w : World) (os : OsState) : segRunT treeTable pp w 11 an 1 634 (stA w os) (piecesOf g2 envT cT qTA [topFrame qT0]) = some (.next, stB w os, cT, qTB) := by kernel_rfl
theorem p3 (w : World) (os : OsState) : segRunT treeTable pp w 11 an 1 452 (stB w os) (piecesOf g3 envT cT qTB [topFrame qT0]) = some (.next, stC w os, cT, qTC) := by kernel_rfl
theorem fin (w : World) (os : OsState) : topRun treeTable pp w 11 an 2 (stC w os).abs ⟨doneF .next, cT, qTC, [topFrame qT0]⟩ = some (sZ w os) := by kernel_rfl
theorem bdy_eq : bdy = g1 ++ (g2 ++ (g3 ++ [])) := by kernel_rfl
theorem rest_eq : restOf bdy envT cT qT0 [topFrame qT0] = restOf (g1 ++ (g2 ++ (g3 ++ []))) envT cT qT0 [topFrame qT0] := congrArg (fun b => restOf b envT cT qT0 [topFrame qT0]) bdy_eq
theorem run3 (w : World) (os : OsState) : topRun treeTable pp w 11 an (452 + 2) (stB w os).abs (restOf (g3 ++ []) envT cT qTB [topFrame qT0]) = some (sZ w os) := piece_app (segRun_of (p3 w os)) (piece_nil (fin w os))
theorem run2 (w : World) (os : OsState) : topRun treeTable pp w 11 an (634 + (452 + 2)) (stA w os).abs (restOf (g2 ++ (g3 ++ [])) envT cT qTA [topFrame qT0]) = some (sZ w os) := piece_app (segRun_of (p2 w os)) (run3 w os)
theorem run1 (w : World) (os : OsState) : topRun treeTable pp w 11 an (355 + (634 + (452 + 2))) (st0 w os).abs (restOf (g1 ++ (g2 ++ (g3 ++ []))) envT cT qT0 [topFrame qT0]) = some (sZ w os) := piece_app (segRun_of (p1 w os)) (run2 w os)
theorem runB (w : World) (os : OsState) : topRun treeTable pp w 11 an (355 + (634 + (452 + 2))) (st0 w os).abs (restOf bdy envT cT qT0 [topFrame qT0]) = some (sZ w os) :=
  (congrArg (fun t => topRun treeTable pp w 11 an (355 + (634 + (452 + 2))) (st0 w os).abs t) rest_eq).trans (run1 w os)
theorem run (w : World) (os : OsState) : topRun treeTable pp w 11 an (12 + (1 + (355 + (634 + (452 + 2))))) (s0 w os) (topStub pp) = some (sZ w os) :=
  go_top (pre w os) (piece_block (block w os) (runB w os))
theorem les : Nat.ble (12 + (1 + (355 + (634 + (452 + 2))))) 3002 = true := by kernel_rfl
theorem lk1 (w : World) (os : OsState) : (staticsOk (importedModules pp.main.body) (boot_heap w.params) (HZ w.params) && namesBound pp (HZ w.params) && gensDone (sZ w os) && laidKept (boot_heap w.params) (HZ w.params)) = true := by kernel_rfl
theorem lk2 (w : World) (os : OsState) : openSeen vw ls (importedModules pp.main.body) (fun s => xlAt vw [] s && recOk (RowW.records PySem.Challenge.rw_rh0269_02.row.toRowW) s) true (sZ w os) = openGood vw ls := by kernel_rfl
theorem lk3 (w : World) (os : OsState) : (Hook.obs (kHook hk.heap_1 asK asK_eq)) (sZ w os) = (Hook.val (kHook hk.heap_1 asK asK_eq)) w := by kernel_rfl
theorem left : LeftO pp vw ls (fun s => xlAt vw [] s && recOk (RowW.records PySem.Challenge.rw_rh0269_02.row.toRowW) s) (Hook.obs (kHook hk.heap_1 asK asK_eq)) (Hook.val (kHook hk.heap_1 asK asK_eq)) 3002 :=
  LeftO.of_pieces open_ size run les (fun w => funext fun os => looks_pair (lk1 w os) (looks_pair (lk2 w os) (lk3 w os)))
end Rn.Hd
theorem Rn.hleft : LeftO PySem.Challenge.rw_rh0269_02.row.prog Rn.vw Rn.ls (fun s => xlAt Rn.vw [] s && recOk (RowW.records PySem.Challenge.rw_rh0269_02.row.toRowW) s) (Hook.obs (kHook Rn.hk.heap_1 Rn.asK Rn.asK_eq)) (Hook.val (kHook Rn.hk.heap_1 Rn.asK Rn.asK_eq)) 3002 := Rn.Hd.left

namespace Rn
open PySem PySem.Spec PySem.Calls PyProof.Rows PySem.W

noncomputable abbrev Led := List (Addr × Obj)
noncomputable abbrev keys (l : Led) : List Addr := l.map (·.1)

/-- values of the plain law: `fl` is a list nobody changes any more, `ref` an own object by its number, `obj` a Program object whose own dict is own object i. -/
inductive AV where
  | none
  | bool (b : Bool)
  | int (i : Int)
  | str (s : List Nat)
  | tup (xs : List AV)
  | fl (xs : List AV)
  | ref (i : Nat)
  | obj (i : Nat)
  | fo (a b : AV)
  | fd (es : List (Int × AV))

inductive AO where
  | list (xs : List AV)
  | dict (es : List (Int × AV))
  | prog (a b : AV)
  | cell (x : Option AV)
  | init0
  | init1 (a : AV)

structure Gl where
  prog : Program
  w : World
  K : Frag
  p : Program
  loose : List Str
  mean : ExcName → Option Value
  mg : Str → Option Value
  mb : Str → Option Value
  C : Addr
  X : Option (Addr × Obj)

noncomputable def Has (g : Gl) (frz : Led) (a : Addr) (o : Obj) : Prop := (a, o) ∈ frz ∨ (g.K.lookup a = some o ∨ g.X = some (a, o))
noncomputable def Sq (g : Gl) (frz : Led) (cls : String) (a : Addr) (vs : List Value) : Prop :=
  ∃ n, Has g frz a { cls := .type cls, data := .seq vs.toArray n }

/-- the own dict of a Program object -/
noncomputable def initDict (h1 : Int) (t1 : Tok) (v1 : Value) (n : Nat) : Obj := dictOf [⟨h1, .str (Str.ofString "numbers") t1, v1⟩] n
noncomputable def progDict (h1 h2 : Int) (t1 t2 : Tok) (v1 v2 : Value) (n : Nat) : Obj :=
  dictOf [⟨h1, .str (Str.ofString "numbers") t1, v1⟩, ⟨h2, .str (Str.ofString "rows") t2, v2⟩] n

mutual
inductive VRel (g : Gl) : List Addr → Led → AV → Value → Prop
  | none {rs : List Addr} {frz : Led} : VRel g rs frz .none .none
  | bool {rs : List Addr} {frz : Led} (b : Bool) : VRel g rs frz (.bool b) (.bool b)
  | int {rs : List Addr} {frz : Led} (i : Int) (t : Tok) : VRel g rs frz (.int i) (.int i t)
  | str {rs : List Addr} {frz : Led} (s : List Nat) (t : Tok) : VRel g rs frz (.str s) (.str ⟨s.toArray⟩ t)
  | tup {rs : List Addr} {frz : Led} {a : Addr} {vs : List Value} {xs : List AV} : Sq g frz "tuple" a vs → VRels g rs frz xs vs → VRel g rs frz (.tup xs) (.ref a)
  | fl {rs : List Addr} {frz : Led} {a : Addr} {vs : List Value} {xs : List AV} : Sq g frz "list" a vs → VRels g [] frz xs vs → VRel g rs frz (.fl xs) (.ref a)
  | ref {rs : List Addr} {frz : Led} {i : Nat} {a : Addr} : rs[i]? = some a → VRel g rs frz (.ref i) (.ref a)
  | obj {rs : List Addr} {frz : Led} {i : Nat} {a x : Addr} : (x, instObj g.C a) ∈ frz → rs[i]? = some a → VRel g rs frz (.obj i) (.ref x)
  | fo {rs : List Addr} {frz : Led} {a x : Addr} {h1 h2 : Int} {t1 t2 : Tok} {v1 v2 : Value} {n : Nat} {p q : AV} : (x, instObj g.C a) ∈ frz → (a, progDict h1 h2 t1 t2 v1 v2 n) ∈ frz →
      VRel g [] frz p v1 → VRel g [] frz q v2 → VRel g rs frz (.fo p q) (.ref x)
  | fd {rs : List Addr} {frz : Led} {a : Addr} {es : List (Int × AV)} {o : Obj} {kvs : List (Int × Value)} : (a, o) ∈ frz → (a == sysModules) = false → o.IsDictOf (PySem.intKind g.prog g.w) kvs → DRels g [] frz es kvs → VRel g rs frz (.fd es) (.ref a)
inductive VRels (g : Gl) : List Addr → Led → List AV → List Value → Prop
  | nil {rs : List Addr} {frz : Led} : VRels g rs frz [] []
  | cons {rs : List Addr} {frz : Led} {x : AV} {v : Value} {xs : List AV} {vs : List Value} : VRel g rs frz x v → VRels g rs frz xs vs → VRels g rs frz (x :: xs) (v :: vs)
inductive DRels (g : Gl) : List Addr → Led → List (Int × AV) → List (Int × Value) → Prop
  | nil {rs : List Addr} {frz : Led} : DRels g rs frz [] []
  | cons {rs : List Addr} {frz : Led} {k : Int} {x : AV} {v : Value} {es : List (Int × AV)} {ds : List (Int × Value)} : VRel g rs frz x v → DRels g rs frz es ds →
      DRels g rs frz ((k, x) :: es) ((k, v) :: ds)
end

/-- what an own object holds -/
inductive ORel (g : Gl) (rs : List Addr) (frz : Led) : AO → Addr → Obj → Prop
  | list {xs : List AV} {vs : List Value} {n : Nat} {a : Addr} : VRels g rs frz xs vs → ORel g rs frz (.list xs) a (W.listOf vs.toArray n)
  | dict {es : List (Int × AV)} {o : Obj} {kvs : List (Int × Value)} {a : Addr} : (a == sysModules) = false → o.IsDictOf (PySem.intKind g.prog g.w) kvs → DRels g rs frz es kvs → ORel g rs frz (.dict es) a o
  | prog {h1 h2 : Int} {t1 t2 : Tok} {v1 v2 : Value} {n : Nat} {p q : AV} {a : Addr} : VRel g rs frz p v1 → VRel g rs frz q v2 → ORel g rs frz (.prog p q) a (progDict h1 h2 t1 t2 v1 v2 n)
  | init0 {a : Addr} : ORel g rs frz .init0 a (dictOf [] 0)
  | init1 {h1 : Int} {t1 : Tok} {v1 : Value} {n : Nat} {p : AV} {a : Addr} : VRel g rs frz p v1 → ORel g rs frz (.init1 p) a (initDict h1 t1 v1 n)
  | cell0 {o : Obj} {a : Addr} : o.data = .cell none → ORel g rs frz (.cell none) a o
  | cell1 {o : Obj} {x : AV} {v : Value} {a : Addr} : o.data = .cell (some v) → VRel g rs frz x v → ORel g rs frz (.cell (some x)) a o
inductive ORels (g : Gl) (rs : List Addr) (frz : Led) : List AO → Led → Prop
  | nil : ORels g rs frz [] []
  | cons {x : AO} {a : Addr} {o : Obj} {xs : List AO} {l : Led} : ORel g rs frz x a o → ORels g rs frz xs l → ORels g rs frz (x :: xs) ((a, o) :: l)

/-! more room: longer own numbers, more frozen objects -/
noncomputable def Grows (rs rs' : List Addr) (frz frz' : Led) : Prop := (∀ (i : Nat) (a : Addr), rs[i]? = some a → rs'[i]? = some a) ∧ ∀ q ∈ frz, q ∈ frz'
theorem Grows.refl (rs : List Addr) (frz : Led) : Grows rs rs frz frz := ⟨fun _ _ h => h, fun _ h => h⟩
theorem Has.mono {g : Gl} {frz frz' : Led} (h : ∀ q ∈ frz, q ∈ frz') {a : Addr} {o : Obj} (x : Has g frz a o) : Has g frz' a o := x.imp (h _) id
theorem Sq.mono {g : Gl} {frz frz' : Led} (h : ∀ q ∈ frz, q ∈ frz') {cls : String} {a : Addr} {vs : List Value} (x : Sq g frz cls a vs) : Sq g frz' cls a vs :=
  let ⟨n, ho⟩ := x; ⟨n, ho.mono h⟩
theorem Grows.nil {rs rs' : List Addr} {frz frz' : Led} (G : Grows rs rs' frz frz') : Grows [] [] frz frz' := ⟨fun _ _ h => h, G.2⟩
mutual
theorem VRel.mono {g : Gl} : ∀ {rs rs' : List Addr} {frz frz' : Led} {x : AV} {v : Value}, VRel g rs frz x v → Grows rs rs' frz frz' → VRel g rs' frz' x v
  | _, _, _, _, _, _, .none, _ => .none
  | _, _, _, _, _, _, .bool b, _ => .bool b
  | _, _, _, _, _, _, .int i t, _ => .int i t
  | _, _, _, _, _, _, .str s t, _ => .str s t
  | _, _, _, _, _, _, .tup h r, G => .tup (h.mono G.2) (r.mono G)
  | _, _, _, _, _, _, .fl h r, G => .fl (h.mono G.2) (r.mono G.nil)
  | _, _, _, _, _, _, .ref h, G => .ref (G.1 _ _ h)
  | _, _, _, _, _, _, .obj h r, G => .obj (G.2 _ h) (G.1 _ _ r)
  | _, _, _, _, _, _, .fo h k p q, G => .fo (G.2 _ h) (G.2 _ k) (p.mono G.nil) (q.mono G.nil)
  | _, _, _, _, _, _, .fd h l k r, G => .fd (G.2 _ h) l k (r.mono G.nil)
theorem VRels.mono {g : Gl} : ∀ {rs rs' : List Addr} {frz frz' : Led} {x : List AV} {v : List Value}, VRels g rs frz x v → Grows rs rs' frz frz' → VRels g rs' frz' x v
  | _, _, _, _, _, _, .nil, _ => .nil
  | _, _, _, _, _, _, .cons h r, G => .cons (h.mono G) (r.mono G)
theorem DRels.mono {g : Gl} : ∀ {rs rs' : List Addr} {frz frz' : Led} {x : List (Int × AV)} {v : List (Int × Value)}, DRels g rs frz x v → Grows rs rs' frz frz' → DRels g rs' frz' x v
  | _, _, _, _, _, _, .nil, _ => .nil
  | _, _, _, _, _, _, .cons h r, G => .cons (h.mono G) (r.mono G)
end
theorem Grows.up (rs : List Addr) (frz : Led) : Grows [] rs frz frz := ⟨(fun _ _ h => by cases h), fun _ h => h⟩
theorem VRel.up {g : Gl} {rs : List Addr} {frz : Led} {x : AV} {v : Value} (h : VRel g [] frz x v) : VRel g rs frz x v := h.mono (Grows.up rs frz)
theorem VRels.up {g : Gl} {rs : List Addr} {frz : Led} {x : List AV} {v : List Value} (h : VRels g [] frz x v) : VRels g rs frz x v := h.mono (Grows.up rs frz)
theorem DRels.up {g : Gl} {rs : List Addr} {frz : Led} {x : List (Int × AV)} {v : List (Int × Value)} (h : DRels g [] frz x v) : DRels g rs frz x v := h.mono (Grows.up rs frz)
theorem ORel.mono {g : Gl} {rs rs' : List Addr} {frz frz' : Led} (G : Grows rs rs' frz frz') {x : AO} {a : Addr} {o : Obj} (h : ORel g rs frz x a o) : ORel g rs' frz' x a o := by
  cases h with
  | list r => exact .list (r.mono G)
  | dict l h r => exact .dict l h (r.mono G)
  | prog p q => exact .prog (p.mono G) (q.mono G)
  | init0 => exact .init0
  | init1 r => exact .init1 (r.mono G)
  | cell0 h => exact .cell0 h
  | cell1 h r => exact .cell1 h (r.mono G)
theorem ORels.mono {g : Gl} {rs rs' : List Addr} {frz frz' : Led} (G : Grows rs rs' frz frz') : ∀ {x : List AO} {l : Led}, ORels g rs frz x l → ORels g rs' frz' x l
  | _, _, .nil => .nil
  | _, _, .cons h r => .cons (h.mono G) (r.mono G)
theorem ORels.get {g : Gl} {rs : List Addr} {frz : Led} : ∀ {xs : List AO} {l : Led}, ORels g rs frz xs l → ∀ {i : Nat} {x : AO}, xs[i]? = some x → ∃ a o, l[i]? = some (a, o) ∧ ORel g rs frz x a o
  | _, _, .nil, _, _, h => by cases h
  | _, _, .cons h r, 0, _, e => by cases e; exact ⟨_, _, rfl, h⟩
  | _, _, .cons h r, i + 1, _, e => r.get (i := i) e
theorem ORels.length {g : Gl} {rs : List Addr} {frz : Led} : ∀ {xs : List AO} {l : Led}, ORels g rs frz xs l → xs.length = l.length
  | _, _, .nil => rfl
  | _, _, .cons _ r => by simp [r.length]
theorem ORels.snoc {g : Gl} {rs : List Addr} {frz : Led} {x : AO} {a : Addr} {o : Obj} (h : ORel g rs frz x a o) : ∀ {xs : List AO} {l : Led}, ORels g rs frz xs l → ORels g rs frz (xs ++ [x]) (l ++ [(a, o)])
  | _, _, .nil => .cons h .nil
  | _, _, .cons h' r => .cons h' (r.snoc h)
theorem ORels.set {g : Gl} {rs : List Addr} {frz : Led} {x : AO} {a : Addr} {o : Obj} (h : ORel g rs frz x a o) : ∀ {xs : List AO} {l : Led}, ORels g rs frz xs l → ∀ (i : Nat), ORels g rs frz (xs.set i x) (l.set i (a, o))
  | _, _, .nil, _ => .nil
  | _, _, .cons _ r, 0 => .cons h r
  | _, _, .cons h' r, i + 1 => .cons h' (r.set h i)
theorem VRels.length {g : Gl} {rs : List Addr} {frz : Led} : ∀ {xs : List AV} {vs : List Value}, VRels g rs frz xs vs → xs.length = vs.length
  | _, _, .nil => rfl
  | _, _, .cons _ r => by simp [r.length]
theorem VRels.get {g : Gl} {rs : List Addr} {frz : Led} : ∀ {xs : List AV} {vs : List Value}, VRels g rs frz xs vs → ∀ {i : Nat} {x : AV}, xs[i]? = some x → ∃ v, vs[i]? = some v ∧ VRel g rs frz x v
  | _, _, .nil, _, _, h => by cases h
  | _, _, .cons h _, 0, _, e => by cases e; exact ⟨_, rfl, h⟩
  | _, _, .cons _ r, i + 1, _, e => r.get (i := i) e
theorem VRels.append {g : Gl} {rs : List Addr} {frz : Led} : ∀ {xs : List AV} {vs : List Value}, VRels g rs frz xs vs → ∀ {ys : List AV} {us : List Value}, VRels g rs frz ys us → VRels g rs frz (xs ++ ys) (vs ++ us)
  | _, _, .nil, _, _, k => k
  | _, _, .cons h r, _, _, k => .cons h (r.append k)
theorem VRels.drop {g : Gl} {rs : List Addr} {frz : Led} : ∀ {xs : List AV} {vs : List Value}, VRels g rs frz xs vs → ∀ n, VRels g rs frz (xs.drop n) (vs.drop n)
  | _, _, h, 0 => h
  | _, _, .nil, _ + 1 => .nil
  | _, _, .cons _ r, n + 1 => r.drop n
theorem VRels.take {g : Gl} {rs : List Addr} {frz : Led} : ∀ {xs : List AV} {vs : List Value}, VRels g rs frz xs vs → ∀ n, VRels g rs frz (xs.take n) (vs.take n)
  | _, _, _, 0 => .nil
  | _, _, .nil, _ + 1 => .nil
  | _, _, .cons h r, n + 1 => .cons h (r.take n)
theorem VRels.set {g : Gl} {rs : List Addr} {frz : Led} {x : AV} {v : Value} (h : VRel g rs frz x v) : ∀ {xs : List AV} {vs : List Value}, VRels g rs frz xs vs → ∀ (i : Nat), VRels g rs frz (xs.set i x) (vs.set i v)
  | _, _, .nil, _ => .nil
  | _, _, .cons _ r, 0 => .cons h r
  | _, _, .cons h' r, i + 1 => .cons h' (r.set h i)

/-! the state -/
structure Fx where
  A : Around
  A₀ : Around
  base : Heap
  h₀ : Heap
  outer : List Env
  L : Addr
  env : Env
  gens : Array GenState
  drawn : Drawn
  os : OsState
structure Wd where
  own : Led
  frz : Led
  tmp : Led
noncomputable abbrev Wd.all (W : Wd) : Led := W.own ++ (W.tmp ++ W.frz)
noncomputable abbrev Wd.ks (W : Wd) : List Addr := keys W.own
noncomputable abbrev VR (g : Gl) (W : Wd) : AV → Value → Prop := VRel g W.ks W.frz
noncomputable abbrev VRs (g : Gl) (W : Wd) : List AV → List Value → Prop := VRels g W.ks W.frz

structure Fx.Ok (g : Gl) (n : Nat) (φ : Fx) : Prop where
  below : Below φ.A₀ φ.base φ.outer φ.h₀
  kin : g.K.In φ.h₀
  top : Top g.p g.loose g.mean g.mg g.mb φ.h₀
  frames : φ.A.frames = some (φ.env :: φ.outer)
  frame : φ.env.frame = some φ.L
  kind : φ.env.scope.kind = .function
  handled : φ.A.handled = none
  depth : φ.A.depth + n < recursionLimit
  units : φ.A.units + 10 * n + 200 < cLine
  ext : ∀ a o, g.X = some (a, o) → φ.h₀.get? a = some o

structure Inv (g : Gl) (φ : Fx) (W : Wd) (m : Str → Option Value) (σ : List AO) (s : Shared) : Prop where
  fr : Fr φ.h₀ φ.L s.heap m
  news : News φ.h₀ φ.L s.heap W.all
  nodup : (keys W.all).Nodup
  heap : ORels g W.ks W.frz σ W.own
  gens : s.gens = φ.gens
  drawn : s.drawn = φ.drawn
  os : s.os = φ.os

noncomputable def Ext (W W' : Wd) : Prop := (∃ ks, W'.ks = W.ks ++ ks) ∧ (∃ nz, W'.frz = nz ++ W.frz) ∧ W'.tmp = W.tmp
theorem Ext.refl (W : Wd) : Ext W W := ⟨⟨[], by simp⟩, ⟨[], rfl⟩, rfl⟩
theorem Ext.trans {W W' W'' : Wd} (a : Ext W W') (b : Ext W' W'') : Ext W W'' := by
  obtain ⟨⟨k, hk⟩, ⟨n, hn⟩, ht⟩ := a
  obtain ⟨⟨k', hk'⟩, ⟨n', hn'⟩, ht'⟩ := b
  exact ⟨⟨k ++ k', by rw [hk', hk, List.append_assoc]⟩, ⟨n' ++ n, by rw [hn', hn, List.append_assoc]⟩, ht'.trans ht⟩
theorem Ext.grows {W W' : Wd} (a : Ext W W') : Grows W.ks W'.ks W.frz W'.frz := by
  obtain ⟨⟨k, hk⟩, ⟨n, hn⟩, _⟩ := a
  refine ⟨fun i a h => ?_, fun q hq => by rw [hn]; exact List.mem_append_right _ hq⟩
  rw [hk, List.getElem?_append_left (List.getElem?_eq_some_iff.mp h).1]
  exact h
theorem VRel.ext {g : Gl} {W W' : Wd} (e : Ext W W') {x : AV} {v : Value} (h : VR g W x v) : VR g W' x v := h.mono e.grows
theorem VRels.ext {g : Gl} {W W' : Wd} (e : Ext W W') {x : List AV} {v : List Value} (h : VRs g W x v) : VRs g W' x v := h.mono e.grows

/-- a block's names, with `true` for a cell -/
structure FC where
  cs : Scope
  names : List (Str × Bool)

structure FC.Good (c : FC) : Prop where
  kind : c.cs.kind = .function
  kinds : ∀ (i : Nat) (x : Str) (b : Bool), c.names[i]? = some (x, b) → c.cs.names.lookup x = some (if b then .cell else .local) ∧ (x == ("__debug__" : Str)) = false
  nodup : (c.names.map (·.1)).Nodup

structure EnvOk (c : FC) (env : Env) : Prop where
  good : c.Good
  scope : env.scope = c.cs
  globals : env.globals = mainGlobals
  builtins : env.builtins = builtinsNs

noncomputable def NsObj (o : Obj) (m : Str → Option Value) : Prop := ∃ es ep, o.data = .dict es ep ∧ StrKeys es ∧ ∀ name, nsFind es name = m name
noncomputable def Loc (φ : Fx) (env : Env) (W : Wd) (m ml : Str → Option Value) : Prop := (env.locals = φ.L ∧ ml = m) ∨ ∃ o, (env.locals, o) ∈ W.tmp ∧ NsObj o ml

noncomputable def EnvR (g : Gl) (c : FC) (env : Env) (W : Wd) (ml : Str → Option Value) (ε : List (Option AV)) : Prop :=
  ∀ (i : Nat) (x : Str) (b : Bool) (a : AV), c.names[i]? = some (x, b) → ε[i]? = some (some a) →
    if b then ∃ j ca, a = .ref j ∧ env.cells.lookup x = some ca ∧ W.ks[j]? = some ca else ∃ v, ml x = some v ∧ VR g W a v

structure Pre (g : Gl) (n : Nat) (c : FC) (φ : Fx) (env : Env) (W : Wd) (m ml : Str → Option Value) (ε : List (Option AV)) (σ : List AO) (s : Shared) : Prop where
  ok : φ.Ok g n
  eok : EnvOk c env
  inv : Inv g φ W m σ s
  loc : Loc φ env W m ml
  er : EnvR g c env W ml ε

theorem Loc.ext {φ : Fx} {env : Env} {W W' : Wd} {m ml : Str → Option Value} (e : Ext W W') (h : Loc φ env W m ml) : Loc φ env W' m ml :=
  h.imp id fun ⟨o, ho, r⟩ => ⟨o, by rw [e.2.2]; exact ho, r⟩
theorem EnvR.ext {g : Gl} {c : FC} {env : Env} {W W' : Wd} {ml : Str → Option Value} {ε : List (Option AV)} (e : Ext W W') (h : EnvR g c env W ml ε) : EnvR g c env W' ml ε := by
  intro i x b a hi ha
  have := h i x b a hi ha
  cases b with
  | true =>
    obtain ⟨j, ca, h1, h2, h3⟩ := this
    exact ⟨j, ca, h1, h2, e.grows.1 _ _ h3⟩
  | false =>
    obtain ⟨v, h1, h2⟩ := this
    exact ⟨v, h1, h2.ext e⟩
theorem Pre.step {g : Gl} {n : Nat} {c : FC} {φ : Fx} {env : Env} {W W' : Wd} {m ml : Str → Option Value} {ε : List (Option AV)} {σ σ' : List AO} {s s' : Shared}
    (P : Pre g n c φ env W m ml ε σ s) (I : Inv g φ W' m σ' s') (e : Ext W W') : Pre g n c φ env W' m ml ε σ' s' := ⟨P.ok, P.eok, I, P.loc.ext e, P.er.ext e⟩

noncomputable abbrev Rε := List (Option AV)
noncomputable abbrev EDen := Rε → List AO → Option (AV × List AO)
noncomputable abbrev TDen := Rε → List AO → Option (Bool × List AO)
inductive AF where
  | next
  | ret (x : AV)
noncomputable abbrev SDen := Rε → List AO → Option (AF × Rε × List AO)

noncomputable def Post (g : Gl) (φ : Fx) (W : Wd) (m : Str → Option Value) (σ' : List AO) (x : AV) (Q : Value → Shared → Prop) : Prop :=
  ∀ v W' s', Inv g φ W' m σ' s' → Ext W W' → VR g W' x v → Q v s'

/-- an expression yields what its plain meaning says -/
structure ES (g : Gl) (n : Nat) (c : FC) (e : Expr) (d : EDen) : Prop where
  run : ∀ φ env W m ml ε σ s x σ', Pre g n c φ env W m ml ε σ s → d ε σ = some (x, σ') → ∀ (Q E : Value → Shared → Prop), Post g φ W m σ' x Q → wpAny (model g.prog g.w) φ.A (eval e env) Q E s
/-- a test -/
structure TS (g : Gl) (n : Nat) (c : FC) (e : Expr) (d : TDen) : Prop where
  run : ∀ φ env W m ml ε σ s x σ', Pre g n c φ env W m ml ε σ s → d ε σ = some (x, σ') → ∀ (Q : Bool → Shared → Prop) (E : Value → Shared → Prop), (∀ W' s', Inv g φ W' m σ' s' → Ext W W' → Q x s') →
    wpAny (model g.prog g.w) φ.A (PySem.isTrue e env (eval e env)) Q E s
end Rn

namespace Rn
open PySem PySem.Spec PySem.Calls PyProof.Rows PySem.W

section
variable {g : Gl} {φ : Fx} {W : Wd} {m : Str → Option Value} {σ : List AO} {s : Shared}

theorem Inv.tok (I : Inv g φ W m σ s) (t : Nat) : Inv g φ W m σ { s with toks := t } := ⟨I.fr, I.news, I.nodup, I.heap, I.gens, I.drawn, I.os⟩
theorem Inv.kin {n : Nat} (I : Inv g φ W m σ s) (O : φ.Ok g n) : g.K.In s.heap := O.kin.keeps I.fr.keep
theorem Inv.top {n : Nat} (I : Inv g φ W m σ s) (O : φ.Ok g n) : Top g.p g.loose g.mean g.mg g.mb s.heap := O.top.keeps I.fr.keep
theorem Inv.has {n : Nat} (I : Inv g φ W m σ s) (O : φ.Ok g n) {a : Addr} {o : Obj} (h : Has g W.frz a o) : s.heap.get? a = some o :=
  h.elim (fun q => (I.news _ (List.mem_append_right _ (List.mem_append_right _ q))).1) fun q => q.elim (fun q => I.kin O _ _ q) fun q => I.fr.keep _ _ (O.ext _ _ q)
theorem Inv.own (I : Inv g φ W m σ s) {i : Nat} {x : AO} (h : σ[i]? = some x) : ∃ a o, W.own[i]? = some (a, o) ∧ W.ks[i]? = some a ∧ s.heap.get? a = some o ∧ ORel g W.ks W.frz x a o := by
  obtain ⟨a, o, h1, h2⟩ := I.heap.get h
  exact ⟨a, o, h1, by simp [h1], (I.news _ (List.mem_append_left _ (List.mem_of_getElem? h1))).1, h2⟩
theorem Inv.sigma (I : Inv g φ W m σ s) : W.own.length = σ.length := I.heap.length.symm
theorem Inv.lt (I : Inv g φ W m σ s) {p : Addr × Obj} (h : p ∈ W.all) : p.1 < s.heap.objs.size := Heap.lt_size (I.news p h).1

theorem perm_nodup {l l' : Led} (h : l.Perm l') (n : (keys l).Nodup) : (keys l').Nodup := (h.map (·.1)).nodup_iff.mp n
theorem nodup_cons {l : Led} {a : Addr} {o : Obj} (n : (keys l).Nodup) (hl : ∀ p ∈ l, p.1 < a) : (keys ((a, o) :: l)).Nodup := by
  show (a :: keys l).Nodup
  refine List.nodup_cons.mpr ⟨fun q => ?_, n⟩
  obtain ⟨p, hp, rfl⟩ := List.mem_map.mp q
  exact absurd (hl p hp) (Nat.lt_irrefl _)
theorem Inv.perm {W' : Wd} {σ' : List AO} {h' : Heap} {all : Led} (I : Inv g φ W m σ s) (F : Fr φ.h₀ φ.L h' m) (N : News φ.h₀ φ.L h' all) (nd : (keys all).Nodup) (p : all.Perm W'.all) (hp : ORels g W'.ks W'.frz σ' W'.own) (t : Nat) :
    Inv g φ W' m σ' { s with heap := h', toks := t } :=
  ⟨F, fun q hq => N q (p.mem_iff.mpr hq), perm_nodup p nd, hp, I.gens, I.drawn, I.os⟩
/-- a new object that stays as it is -/
theorem Inv.addF {h' : Heap} {a : Addr} {o : Obj} (I : Inv g φ W m σ s) (F : Fr φ.h₀ φ.L h' m) (N : News φ.h₀ φ.L h' ((a, o) :: W.all)) (hl : ∀ p ∈ W.all, p.1 < a) (t : Nat) :
    Inv g φ ⟨W.own, (a, o) :: W.frz, W.tmp⟩ m σ { s with heap := h', toks := t } ∧ Ext W ⟨W.own, (a, o) :: W.frz, W.tmp⟩ := by
  have E : Ext W ⟨W.own, (a, o) :: W.frz, W.tmp⟩ := ⟨⟨[], by simp [Wd.ks]⟩, ⟨[(a, o)], rfl⟩, rfl⟩
  refine ⟨I.perm F N (nodup_cons I.nodup hl) ?_ (I.heap.mono E.grows) t, E⟩
  show ((a, o) :: (W.own ++ (W.tmp ++ W.frz))).Perm (W.own ++ (W.tmp ++ (a, o) :: W.frz))
  rw [← List.append_assoc, ← List.append_assoc]
  exact List.perm_middle.symm

/-- a new object of the moment -/
theorem Inv.addT {h' : Heap} {a : Addr} {o : Obj} (I : Inv g φ W m σ s) (F : Fr φ.h₀ φ.L h' m) (N : News φ.h₀ φ.L h' ((a, o) :: W.all)) (hl : ∀ p ∈ W.all, p.1 < a) (t : Nat) :
    Inv g φ ⟨W.own, W.frz, (a, o) :: W.tmp⟩ m σ { s with heap := h', toks := t } :=
  I.perm (W' := ⟨W.own, W.frz, (a, o) :: W.tmp⟩) F N (nodup_cons I.nodup hl) List.perm_middle.symm I.heap t

/-- a new own object -/
theorem Inv.addO {h' : Heap} {a : Addr} {o : Obj} {x : AO} (I : Inv g φ W m σ s) (F : Fr φ.h₀ φ.L h' m) (N : News φ.h₀ φ.L h' ((a, o) :: W.all)) (hl : ∀ p ∈ W.all, p.1 < a)
    (hx : ORel g W.ks W.frz x a o) (t : Nat) :
    Inv g φ ⟨W.own ++ [(a, o)], W.frz, W.tmp⟩ m (σ ++ [x]) { s with heap := h', toks := t } ∧ Ext W ⟨W.own ++ [(a, o)], W.frz, W.tmp⟩ ∧ VR g ⟨W.own ++ [(a, o)], W.frz, W.tmp⟩ (.ref σ.length) (.ref a) := by
  have E : Ext W ⟨W.own ++ [(a, o)], W.frz, W.tmp⟩ := ⟨⟨[a], by simp [Wd.ks]⟩, ⟨[], rfl⟩, rfl⟩
  refine ⟨I.perm F N (nodup_cons I.nodup hl) ?_ ((I.heap.mono E.grows).snoc (hx.mono E.grows)) t, E, .ref ?_⟩
  · show ((a, o) :: (W.own ++ (W.tmp ++ W.frz))).Perm ((W.own ++ [(a, o)]) ++ (W.tmp ++ W.frz))
    rw [List.append_assoc]
    exact List.perm_middle.symm
  · have := I.sigma
    simp [Wd.ks, keys, ← this]

theorem upd_of {a : Addr} {o o' : Obj} {frz : Led} : ∀ {own : Led} {i : Nat}, (keys (own ++ frz)).Nodup → own[i]? = some (a, o) → Upd a o o' (own ++ frz) (own.set i (a, o') ++ frz)
  | [], _, _, h => by cases h
  | (b, q) :: own, 0, nd, h => by
    cases h
    simp only [List.set_cons_zero, List.cons_append]
    refine .head fun p hp => ?_
    have : a ∉ keys (own ++ frz) := by
      have h2 := nd
      simp only [keys, List.cons_append, List.map_cons] at h2
      exact (List.nodup_cons.mp h2).1
    exact fun e => this (List.mem_map.mpr ⟨p, hp, e⟩)
  | (b, q) :: own, i + 1, nd, h => by
    have h' : own[i]? = some (a, o) := h
    simp only [List.set_cons_succ, List.cons_append]
    have nd' : b ∉ keys (own ++ frz) ∧ (keys (own ++ frz)).Nodup := by
      have h2 := nd
      simp only [keys, List.cons_append, List.map_cons] at h2
      exact List.nodup_cons.mp h2
    refine .tail (fun e => nd'.1 ?_) (upd_of nd'.2 h')
    exact List.mem_map.mpr ⟨(a, o), List.mem_append_left _ (List.mem_of_getElem? h'), e.symm⟩
theorem keys_set {own : Led} {i : Nat} {a : Addr} {o o' : Obj} (h : own[i]? = some (a, o)) : keys (own.set i (a, o')) = keys own := by
  simp only [keys, List.map_set]
  apply List.ext_getElem?
  intro j
  rw [List.getElem?_set]
  split
  · rename_i e
    subst e
    obtain ⟨hl, e⟩ := List.getElem?_eq_some_iff.mp h
    simp [hl, e]
  · rfl
/-- an own object changed -/
theorem Inv.setO {h' : Heap} {a : Addr} {o o' : Obj} {i : Nat} {x : AO} (I : Inv g φ W m σ s) (hi : W.own[i]? = some (a, o)) (F : Fr φ.h₀ φ.L h' m) (N : News φ.h₀ φ.L h' (W.own.set i (a, o') ++ (W.tmp ++ W.frz)))
    (hx : ORel g W.ks W.frz x a o') (t : Nat) : Inv g φ ⟨W.own.set i (a, o'), W.frz, W.tmp⟩ m (σ.set i x) { s with heap := h', toks := t } ∧ Ext W ⟨W.own.set i (a, o'), W.frz, W.tmp⟩ := by
  have k : keys (W.own.set i (a, o')) = keys W.own := keys_set hi
  have E : Ext W ⟨W.own.set i (a, o'), W.frz, W.tmp⟩ := ⟨⟨[], by simp [Wd.ks, k]⟩, ⟨[], rfl⟩, rfl⟩
  refine ⟨⟨F, N, ?_, ?_, I.gens, I.drawn, I.os⟩, E⟩
  · have := I.nodup
    simp only [Wd.all, keys, List.map_append] at this ⊢ k
    rw [k]; exact this
  · show ORels g (keys (W.own.set i (a, o'))) W.frz _ _
    rw [k]
    exact I.heap.set hx i

/-- an own object turned in place -/
theorem Inv.updO {a : Addr} {o o' : Obj} {i : Nat} {x : AO} {f : Obj → Obj} (I : Inv g φ W m σ s) (hi : W.own[i]? = some (a, o)) (e : f o = o') (hf : o'.isFreed = false) (hx : ORel g W.ks W.frz x a o') (t : Nat) :
    Inv g φ ⟨W.own.set i (a, o'), W.frz, W.tmp⟩ m (σ.set i x) { s with heap := s.heap.update a f, toks := t } ∧ Ext W ⟨W.own.set i (a, o'), W.frz, W.tmp⟩ := by
  obtain ⟨pre, post, h1, h2, h3, h4⟩ := (upd_of (o' := o') I.nodup hi).split
  have N := I.news
  unfold Wd.all at N
  rw [h1] at N
  obtain ⟨F', N'⟩ := news_upd I.fr N h3 h4 e hf
  rw [← h2] at N'
  exact I.setO hi F' N' hx t
theorem mapSeq_list (its : Array Value) (n : Nat) (f : Array Value → Array Value) : Obj.mapSeq f (PySem.W.listOf its n) = PySem.W.listOf (f its) (if (f its).size == its.size then n else n + 1) := rfl
theorem Inv.low {n : Nat} (I : Inv g φ W m σ s) (O : φ.Ok g n) {a : Addr} (h : s.heap.objs.size ≤ a) : (a == sysModules) = false := by
  have := modules_low (I.top O).nolimit
  exact beq_eq_false_iff_ne.mpr (Nat.ne_of_gt (Nat.lt_of_lt_of_le this h))
end

/-! sizes -/
noncomputable def lim (n : Nat) : Bool := Nat.ble n 100000
theorem lim_le {n : Nat} (h : lim n = true) : n ≤ sizeLine := Nat.le_trans (Nat.le_of_ble_eq_true h) (by decide)
theorem lim_le' {n : Nat} (h : lim n = true) : n ≤ 100000 := Nat.le_of_ble_eq_true h

/-! operations on values -/
noncomputable abbrev F1 := AV → List AO → Option (AV × List AO)
noncomputable abbrev F2 := AV → AV → List AO → Option (AV × List AO)
noncomputable def Op1 (g : Gl) (n : Nat) (t : Value → Sem Value) (f : F1) : Prop :=
  ∀ φ W m σ s x v r σ', φ.Ok g n → Inv g φ W m σ s → VR g W x v → f x σ = some (r, σ') → ∀ (Q E : Value → Shared → Prop), Post g φ W m σ' r Q → wpAny (model g.prog g.w) φ.A (t v) Q E s
noncomputable def Op2 (g : Gl) (n : Nat) (t : Value → Value → Sem Value) (f : F2) : Prop :=
  ∀ φ W m σ s x y v u r σ', φ.Ok g n → Inv g φ W m σ s → VR g W x v → VR g W y u → f x y σ = some (r, σ') → ∀ (Q E : Value → Shared → Prop), Post g φ W m σ' r Q → wpAny (model g.prog g.w) φ.A (t v u) Q E s

/-! constants and names -/
noncomputable def dC (a : AV) : EDen := fun _ σ => some (a, σ)
noncomputable def dN (i : Nat) : EDen := fun ε σ => match ε[i]? with
  | some (some a) => some (a, σ)
  | _ => none
noncomputable def dX (i : Nat) : EDen := fun ε σ => match ε[i]? with
  | some (some (.ref j)) => (match σ[j]? with
    | some (.cell (some a)) => some (a, σ)
    | _ => none)
  | _ => none
section
variable {g : Gl} {n : Nat} {c : FC}
theorem Post.here {φ : Fx} {W : Wd} {m : Str → Option Value} {σ : List AO} {x : AV} {Q : Value → Shared → Prop} (P : Post g φ W m σ x Q) {v : Value} {s : Shared} (I : Inv g φ W m σ s) (h : VR g W x v) (t : Nat) : Q v { s with toks := t } :=
  P v W _ (I.tok t) (Ext.refl W) h
theorem ES.int (i : Int) {k : Nat} {pos : Pos} : ES g n c (.Constant (.int i) k pos) (dC (.int i)) := by
  refine ⟨?_⟩; intro φ env W m ml ε σ s x σ' P hd Q E q
  cases hd
  exact wpAny_Constant_int (q.here P.inv (.int _ _) _)
theorem ES.str (l : List Nat) {x : Str} {k : Nat} {pos : Pos} (h : x = ⟨l.toArray⟩) : ES g n c (.Constant (.str x) k pos) (dC (.str l)) := by
  refine ⟨?_⟩; intro φ env W m ml ε σ s x σ' P hd Q E q
  cases hd
  subst h
  exact wpAny_Constant_str (q.here P.inv (.str _ _) _)
theorem ES.non {k : Nat} {pos : Pos} : ES g n c (.Constant .none k pos) (dC .none) := by
  refine ⟨?_⟩; intro φ env W m ml ε σ s x σ' P hd Q E q
  cases hd
  exact wpAny_Constant_none (q.here P.inv .none s.toks)
theorem ES.bool (b : Bool) {k : Nat} {pos : Pos} : ES g n c (.Constant (.bool b) k pos) (dC (.bool b)) := by
  refine ⟨?_⟩; intro φ env W m ml ε σ s x σ' P hd Q E q
  cases hd
  exact wpAny_Constant_bool (q.here P.inv (.bool _) s.toks)

theorem Pre.ns {φ : Fx} {env : Env} {W : Wd} {m ml : Str → Option Value} {ε : List (Option AV)} {σ : List AO} {s : Shared} (P : Pre g n c φ env W m ml ε σ s) : s.heap.Ns env.locals ml := by
  rcases P.loc with ⟨h1, rfl⟩ | ⟨o, ho, es, ep, h1, h2, h3⟩
  · rw [h1]; exact P.inv.fr.ns
  · exact ⟨o, es, ep, (P.inv.news _ (List.mem_append_right _ (List.mem_append_left _ ho))).1, h1, h2, h3⟩
theorem ES.nm (i : Nat) {x : Str} {pos : Pos} (hx : c.names[i]? = some (x, false)) : ES g n c (.Name x pos) (dN i) := by
  refine ⟨?_⟩; intro φ env W m ml ε σ s y σ' P hd Q E q
  unfold dN at hd
  split at hd
  · rename_i a ha
    cases hd
    obtain ⟨v, h1, h2⟩ := P.er i x false _ hx ha
    obtain ⟨h3, h4⟩ := P.eok.good.kinds i x false hx
    exact wpAny_Name (wpAny_loadName_local (by rw [P.eok.scope]; exact P.eok.good.kind) (by unfold Env.kindOf; rw [P.eok.scope]; exact h3) P.ns h1 (q.here P.inv h2 s.toks)) h4
  · cases hd
theorem ES.cl (i : Nat) {x : Str} {pos : Pos} (hx : c.names[i]? = some (x, true)) : ES g n c (.Name x pos) (dX i) := by
  refine ⟨?_⟩; intro φ env W m ml ε σ s y σ' P hd Q E q
  unfold dX at hd
  split at hd
  · rename_i j ha
    split at hd
    · rename_i a hj
      cases hd
      obtain ⟨j', ca, h1, h2, h3⟩ := P.er i x true _ hx ha
      cases h1
      obtain ⟨h4, h5⟩ := P.eok.good.kinds i x true hx
      obtain ⟨b, o, h6, h7, h8, h9⟩ := P.inv.own hj
      rw [h3] at h7
      cases h7
      cases h9 with
      | cell1 hc hv => exact wpAny_Name (wpAny_loadName_cell (by rw [P.eok.scope]; exact P.eok.good.kind) (by unfold Env.kindOf; rw [P.eok.scope]; exact h4) h2 ⟨o, h8, hc⟩ (q.here P.inv hv s.toks)) h5
    · cases hd
  · cases hd
/-- a name of the module's top -/
theorem ES.gl {x : Str} {pos : Pos} {v : Value} (a : AV) (hv : nsIn g.K mainGlobals x = some (some v)) (hr : ∀ W, VR g W a v) (hk : c.cs.names.lookup x = some .globalImplicit) (hd : (x == ("__debug__" : Str)) = false) :
    ES g n c (.Name x pos) (dC a) := by
  refine ⟨?_⟩; intro φ env W m ml ε σ s y σ' P hd' Q E q
  cases hd'
  exact nameG_K P.inv.fr P.ok.kin (topRead_of P.ok.top) hv (q.here P.inv (hr W) s.toks) P.eok.globals (by rw [P.eok.scope]; exact P.eok.good.kind) (by unfold Env.kindOf; rw [P.eok.scope]; exact hk) hd
end
end Rn

namespace Rn
open PySem PySem.Spec PySem.Calls PyProof.Rows PySem.W

noncomputable def items (σ : List AO) : AV → Option (List AV)
  | .fl xs => some xs
  | .ref i => match σ[i]? with
    | some (.list xs) => some xs
    | _ => none
  | _ => none

mutual
noncomputable def pd0 : AV → Option PyData
  | .none => some .none
  | .bool b => some (.bool b)
  | .int i => some (.int i)
  | .str s => some (.str ⟨s.toArray⟩)
  | .tup xs => match pds0 xs with
    | some ds => some (.tuple ds)
    | none => none
  | .fl xs => match pds0 xs with
    | some ds => some (.list ds)
    | none => none
  | _ => none
noncomputable def pds0 : List AV → Option (List PyData)
  | [] => some []
  | x :: xs => match pd0 x with
    | some d => (match pds0 xs with
      | some ds => some (d :: ds)
      | none => none)
    | none => none
end
noncomputable def pd (σ : List AO) : AV → Option PyData
  | .ref i => match items σ (.ref i) with
    | some xs => (match pds0 xs with
      | some ds => some (.list ds)
      | none => none)
    | none => none
  | x => pd0 x

section
variable {g : Gl} {n : Nat} {φ : Fx} {W : Wd} {m : Str → Option Value} {σ : List AO} {s : Shared}
theorem items_rel (O : φ.Ok g n) (I : Inv g φ W m σ s) {x : AV} {v : Value} (h : VR g W x v) {xs : List AV} (e : items σ x = some xs) :
    ∃ a vs, v = .ref a ∧ s.heap.IsList a vs.toArray ∧ VRs g W xs vs := by
  cases h with
  | fl h r =>
    cases e
    obtain ⟨k, ho⟩ := h
    exact ⟨_, _, rfl, ⟨_, I.has O ho, rfl, k, rfl⟩, r.up⟩
  | ref h =>
    simp only [items] at e
    split at e
    · rename_i ys hy
      cases e
      obtain ⟨b, o, h1, h2, h3, h4⟩ := I.own hy
      rw [h] at h2
      cases h2
      cases h4 with
      | list r => exact ⟨_, _, rfl, ⟨_, h3, rfl, _, rfl⟩, r⟩
    · cases e
  | _ => cases e
theorem tup_rel (O : φ.Ok g n) (I : Inv g φ W m σ s) {xs : List AV} {v : Value} (h : VR g W (.tup xs) v) : ∃ a vs, v = .ref a ∧ IsTup s.heap a vs.toArray ∧ VRs g W xs vs := by
  cases h with
  | tup h r =>
    obtain ⟨k, ho⟩ := h
    exact ⟨_, _, rfl, ⟨_, I.has O ho, rfl, k, rfl⟩, r⟩
mutual
theorem pd0_rel (O : φ.Ok g n) (I : Inv g φ W m σ s) : ∀ {rs : List Addr} {x : AV} {v : Value}, VRel g rs W.frz x v → ∀ {d : PyData}, pd0 x = some d → ∃ as, Reads s.heap v d as
  | _, _, _, .none, _, e => by cases e; exact ⟨_, .none⟩
  | _, _, _, .bool b, _, e => by cases e; exact ⟨_, .bool b⟩
  | _, _, _, .int i t, _, e => by cases e; exact ⟨_, .int i t⟩
  | _, _, _, .str l t, _, e => by cases e; exact ⟨_, .str _ t⟩
  | _, _, _, .tup h r, _, e => by
    rw [pd0] at e
    split at e
    · rename_i ds hds
      cases e
      obtain ⟨as, ra⟩ := pds0_rel O I r hds
      obtain ⟨k, ho⟩ := h
      exact ⟨_, .tuple (I.has O ho) rfl rfl ra⟩
    · cases e
  | _, _, _, .fl h r, _, e => by
    rw [pd0] at e
    split at e
    · rename_i ds hds
      cases e
      obtain ⟨as, ra⟩ := pds0_rel O I r hds
      obtain ⟨k, ho⟩ := h
      exact ⟨_, .list (I.has O ho) rfl rfl ra⟩
    · cases e
  | _, _, _, .ref _, _, e => by cases e
  | _, _, _, .obj _ _, _, e => by cases e
  | _, _, _, .fo _ _ _ _, _, e => by cases e
  | _, _, _, .fd _ _ _ _, _, e => by cases e
theorem pds0_rel (O : φ.Ok g n) (I : Inv g φ W m σ s) : ∀ {rs : List Addr} {xs : List AV} {vs : List Value}, VRels g rs W.frz xs vs → ∀ {ds : List PyData}, pds0 xs = some ds → ∃ as, ReadsAll s.heap vs ds as
  | _, _, _, .nil, _, e => by cases e; exact ⟨_, .nil⟩
  | _, _, _, .cons h r, _, e => by
    rw [pds0] at e
    split at e
    · rename_i d hd
      split at e
      · rename_i ds hds
        cases e
        obtain ⟨as, ra⟩ := pd0_rel O I h hd
        obtain ⟨bs, rb⟩ := pds0_rel O I r hds
        exact ⟨_, .cons ra rb⟩
      · cases e
    · cases e
end
theorem pd_rel (O : φ.Ok g n) (I : Inv g φ W m σ s) {x : AV} {v : Value} (h : VR g W x v) {d : PyData} (e : pd σ x = some d) : ∃ as, Reads s.heap v d as := by
  unfold pd at e
  split at e
  · split at e
    · rename_i i xs hx
      split at e
      · rename_i ds hds
        cases e
        obtain ⟨a, vs, rfl, ⟨o, ho, hc, k, hd⟩, r⟩ := items_rel O I h hx
        obtain ⟨as, ra⟩ := pds0_rel O I r hds
        exact ⟨_, .list ho hc hd ra⟩
      · cases e
    · cases e
  · exact pd0_rel O I h e
end

noncomputable def fAdd : F2 := fun x y σ => match x, y with
  | .int a, .int b => some (.int (a + b), σ)
  | .str a, .str b => (match lim (a.length + b.length) with
    | true => some (.str (a ++ b), σ)
    | false => none)
  | x, y => (match items σ x, items σ y with
    | some xs, some ys => (match lim (xs.length + ys.length) with
      | true => some (.ref σ.length, σ ++ [.list (xs ++ ys)])
      | false => none)
    | _, _ => none)
noncomputable def fSub : F2 := fun x y σ => match x, y with
  | .int a, .int b => some (.int (a - b), σ)
  | _, _ => none
noncomputable def small (a : Int) : Bool := Nat.blt a.natAbs 1000000000000
noncomputable def fMul : F2 := fun x y σ => match x, y with
  | .int a, .int b => (match small b with
    | true => some (.int (a * b), σ)
    | false => none)
  | _, _ => none
noncomputable def fHalf : F2 := fun x y σ => match x, y with
  | .int a, .int 2 => some (.int (a.fdiv 2), σ)
  | _, _ => none
noncomputable def fMod : F2 := fun x y σ => match x, y with
  | .int a, .int b => (match Int.decEq b 0 with
    | .isTrue _ => none
    | .isFalse _ => some (.int (a.fmod b), σ))
  | _, _ => none
noncomputable def fLt : F2 := fun x y σ => match x, y with
  | .int a, .int b => some (.bool (decide (a < b)), σ)
  | _, _ => none
noncomputable def fGt : F2 := fun x y σ => match x, y with
  | .int a, .int b => some (.bool (decide (b < a)), σ)
  | _, _ => none
noncomputable def natLt : List Nat → List Nat → Bool
  | _, [] => false
  | [], _ :: _ => true
  | a :: as, b :: bs => match Nat.blt a b with
    | true => true
    | false => (match Nat.beq a b with
      | true => natLt as bs
      | false => false)
noncomputable def fLe : F2 := fun x y σ => match x, y with
  | .int a, .int b => some (.bool (decide (a ≤ b)), σ)
  | .str a, .str b => some (.bool (!natLt b a), σ)
  | _, _ => none
noncomputable def natsEq : List Nat → List Nat → Bool
  | [], [] => true
  | a :: as, b :: bs => match Nat.beq a b with
    | true => natsEq as bs
    | false => false
  | _, _ => false
theorem beqD (a b : Nat) : Nat.beq a b = decide (a = b) := by
  by_cases h : a = b
  · subst h; simp
  · cases hq : Nat.beq a b with
    | true => exact absurd (Nat.eq_of_beq_eq_true hq) h
    | false => simp [h]
theorem bltD (a b : Nat) : Nat.blt a b = decide (a < b) := by
  cases hq : Nat.blt a b with
  | true => have := Nat.le_of_ble_eq_true hq; simp; omega
  | false =>
    have : ¬ a < b := fun h => by
      have : Nat.blt a b = true := Nat.ble_eq_true_of_le h
      rw [hq] at this; cases this
    simp [this]
theorem natsEq_eq : ∀ a b : List Nat, natsEq a b = decide (a = b)
  | [], [] => by simp [natsEq]
  | [], _ :: _ => by simp [natsEq]
  | _ :: _, [] => by simp [natsEq]
  | a :: as, b :: bs => by
    have e := beqD a b
    rw [natsEq, e]
    by_cases h : a = b
    · subst h; simp [natsEq_eq as bs]
    · simp [h]
theorem str_beq (a b : List Nat) : ((⟨a.toArray⟩ : Str) == ⟨b.toArray⟩) = natsEq a b := by
  rw [natsEq_eq]
  by_cases h : a = b
  · subst h; simp
  · rw [decide_eq_false h]
    apply beq_eq_false_iff_ne.mpr
    intro e
    apply h
    have := congrArg Str.cps e
    simpa using this
theorem natLt_eq : ∀ a b : List Nat, natLt a b = decide (a < b)
  | a, [] => by cases a <;> simp [natLt]
  | [], _ :: _ => by simp [natLt]
  | a :: as, b :: bs => by
    have e := beqD a b
    have e2 := bltD a b
    rw [natLt, e, e2]
    by_cases h : a < b
    · simp [h, List.cons_lt_cons_iff]
    · by_cases h' : a = b
      · subst h'; simp [natLt_eq as bs]
      · simp [h, h', List.cons_lt_cons_iff]
noncomputable def okPd (d : PyData) : Bool := PySem.SeqAt.shaped d
noncomputable def fEq : F2 := fun x y σ => match x, y with
  | .int a, .int b => some (.bool (a == b), σ)
  | .str a, .str b => some (.bool (natsEq a b), σ)
  | x, y => (match pd σ x, pd σ y with
    | some d, some e => (match okPd d && okPd e with
      | true => some (.bool (d.eqv e), σ)
      | false => none)
    | _, _ => none)
noncomputable def fNe : F2 := fun x y σ => match x, y with
  | .int a, .int b => some (.bool (a != b), σ)
  | x, y => (match pd σ x, pd σ y with
    | some d, some e => (match okPd d && okPd e with
      | true => some (.bool (!d.eqv e), σ)
      | false => none)
    | _, _ => none)
noncomputable def elem (c : Nat) : List Nat → Bool
  | [] => false
  | a :: as => match Nat.beq c a with
    | true => true
    | false => elem c as
theorem elem_eq (c : Nat) : ∀ l : List Nat, elem c l = decide (c ∈ l)
  | [] => by simp [elem]
  | a :: as => by
    have e := beqD c a
    rw [elem, e]
    by_cases h : c = a
    · subst h; simp
    · simp [h, elem_eq c as]
noncomputable def okIn (d : PyData) (es : List PyData) : Bool := PyData.canLayAll0 es && d.canLay0 && Nat.ble (PyData.depthAll es) 64
noncomputable def inB : AV → AV → List AO → Option Bool := fun x y σ => match x, y with
  | .str [c], .str b => some (elem c b)
  | x, .tup ys => (match pd σ x, pds0 ys with
    | some d, some es => (match okIn d es with
      | true => some (es.any fun y => y.eqv d)
      | false => none)
    | _, _ => none)
  | _, _ => none
noncomputable def fIn : F2 := fun x y σ => match inB x y σ with
  | some b => some (.bool b, σ)
  | none => none
noncomputable def fNotIn : F2 := fun x y σ => match inB x y σ with
  | some b => some (.bool (!b), σ)
  | none => none
noncomputable def isN : AV → Bool
  | .none => true
  | _ => false
noncomputable def fIs : F2 := fun x y σ => match y with
  | .none => some (.bool (isN x), σ)
  | _ => none
noncomputable def fIsNot : F2 := fun x y σ => match y with
  | .none => some (.bool (!isN x), σ)
  | _ => none

theorem str_cat (a b : List Nat) : (⟨a.toArray⟩ : Str) ++ ⟨b.toArray⟩ = ⟨(a ++ b).toArray⟩ := PySem.Str.ext' (by rw [PySem.Str.cps_append]; simp)
section
variable {g : Gl} {n : Nat}
theorem addS : Op2 g n (binaryOp .Add) fAdd := by
  intro φ W m σ s x y v u r σ' O I hx hy hf Q E q
  unfold fAdd at hf
  split at hf
  · cases hf; cases hx; cases hy
    exact add_int (q.here I (.int _ _) _)
  · split at hf
    · rename_i hl
      cases hf; cases hx; cases hy
      refine add_str (fun t tk => ?_) (by simpa [Str.length] using lim_le hl)
      refine q.here I ?_ _
      rw [str_cat]
      exact .str _ _
    · cases hf
  · split at hf
    · rename_i xs ys ex ey
      split at hf
      · rename_i hl
        cases hf
        obtain ⟨a, vs, rfl, h1, h2⟩ := items_rel O I hx ex
        obtain ⟨b, us, rfl, h3, h4⟩ := items_rel O I hy ey
        refine add_arrays I.fr I.news h1 h3 (fun h' F N => ?_) (by have e1 := h2.length; have e2 := h4.length; have := lim_le hl; simp only [List.size_toArray]; omega)
        obtain ⟨I', E', V'⟩ := I.addO (x := .list (xs ++ ys)) F N (fun p hp => I.lt hp) (.list (n := 0) (vs := vs ++ us) (h2.append h4)) s.toks
        exact q _ _ _ I' E' V'
      · cases hf
    · cases hf
theorem subS : Op2 g n (binaryOp .Sub) fSub := by
  intro φ W m σ s x y v u r σ' O I hx hy hf Q E q
  unfold fSub at hf
  split at hf
  · cases hf; cases hx; cases hy
    exact sub_int (q.here I (.int _ _) _)
  · cases hf
theorem mulS : Op2 g n (binaryOp .Mult) fMul := by
  intro φ W m σ s x y v u r σ' O I hx hy hf Q E q
  unfold fMul at hf
  split at hf
  · split at hf
    · rename_i a b _ hb
      cases hf; cases hx; cases hy
      refine mul_int (q.here I (.int _ _) _) ?_
      unfold IntMulOk
      have : ¬ Builtin.Int.intBits b > shortFactorBits := by
        have hb' : b.natAbs < 1000000000000 := by
          simp only [small, Nat.blt] at hb
          exact Nat.lt_of_succ_le (Nat.le_of_ble_eq_true hb)
        have := intBits_le_64 (k := b) (by omega) (by omega)
        unfold shortFactorBits; omega
      simp [this]
    · cases hf
  · cases hf
theorem halfS : Op2 g n (binaryOp .FloorDiv) fHalf := by
  intro φ W m σ s x y v u r σ' O I hx hy hf Q E q
  unfold fHalf at hf
  split at hf
  · cases hf; cases hx; cases hy
    exact floordiv_int (by decide) (q.here I (.int _ _) _) (.inl rfl)
  · cases hf
theorem modS : Op2 g n (binaryOp .Mod) fMod := by
  intro φ W m σ s x y v u r σ' O I hx hy hf Q E q
  unfold fMod at hf
  split at hf
  · split at hf
    · cases hf
    · rename_i hb _
      cases hf; cases hx; cases hy
      exact mod_int' hb (q.here I (.int _ _) _)
  · cases hf

theorem ltS : Op2 g n (compareOp .Lt) fLt := by
  intro φ W m σ s x y v u r σ' O I hx hy hf Q E q
  unfold fLt at hf
  split at hf
  · cases hf; cases hx; cases hy
    exact lt_int (q.here I (.bool _) s.toks)
  · cases hf
theorem gtS : Op2 g n (compareOp .Gt) fGt := by
  intro φ W m σ s x y v u r σ' O I hx hy hf Q E q
  unfold fGt at hf
  split at hf
  · cases hf; cases hx; cases hy
    exact gt_int (q.here I (.bool _) s.toks)
  · cases hf
theorem leS : Op2 g n (compareOp .LtE) fLe := by
  intro φ W m σ s x y v u r σ' O I hx hy hf Q E q
  unfold fLe at hf
  split at hf
  · cases hf; cases hx; cases hy
    exact le_int (q.here I (.bool _) s.toks)
  · cases hf; cases hx; cases hy
    rw [natLt_eq] at q
    exact P.le_str (q.here I (.bool _) s.toks)
  · cases hf
theorem Fx.Ok.room {φ : Fx} (O : φ.Ok g n) : φ.A.units + 130 < cLine := by have := O.units; omega
theorem eqS : Op2 g n (compareOp .Eq) fEq := by
  intro φ W m σ s x y v u r σ' O I hx hy hf Q E q
  unfold fEq at hf
  split at hf
  · cases hf; cases hx; cases hy
    exact eq_int (q.here I (.bool _) s.toks)
  · cases hf; cases hx; cases hy
    rw [← str_beq] at q
    exact eq_str (q.here I (.bool _) s.toks)
  · split at hf
    · rename_i d e hd he
      split at hf
      · rename_i hs
        cases hf
        obtain ⟨as, ra⟩ := pd_rel O I hx hd
        obtain ⟨bs, rb⟩ := pd_rel O I hy he
        obtain ⟨h1, h2⟩ := Bool.and_eq_true_iff.mp hs
        exact eq_dataH ra rb h1 h2 (by have := O.room; omega) (q.here I (.bool _) s.toks)
      · cases hf
    · cases hf
theorem neS : Op2 g n (compareOp .NotEq) fNe := by
  intro φ W m σ s x y v u r σ' O I hx hy hf Q E q
  unfold fNe at hf
  split at hf
  · cases hf; cases hx; cases hy
    exact ne_int (q.here I (.bool _) s.toks)
  · split at hf
    · rename_i d e hd he
      split at hf
      · rename_i hs
        cases hf
        obtain ⟨as, ra⟩ := pd_rel O I hx hd
        obtain ⟨bs, rb⟩ := pd_rel O I hy he
        obtain ⟨h1, h2⟩ := Bool.and_eq_true_iff.mp hs
        exact ne_dataH ra rb h1 h2 (by have := O.room; omega) (q.here I (.bool _) s.toks)
      · cases hf
    · cases hf
theorem inS : Op2 g n (compareOp .In) fIn := by
  intro φ W m σ s x y v u r σ' O I hx hy hf Q E q
  unfold fIn at hf
  split at hf
  · rename_i b hb
    cases hf
    unfold inB at hb
    split at hb
    · cases hb; cases hx; cases hy
      rename_i c l t1 t2
      refine in_str ?_
      have e := PySem.StrLaws.found_one ⟨l.toArray⟩ c
      rw [show (⟨[c].toArray⟩ : Str) = ⟨#[c]⟩ from rfl, e]
      rw [elem_eq] at q
      simpa using q.here I (.bool _) s.toks
    · split at hb
      · rename_i d es hd he
        split at hb
        · rename_i ho
          cases hb
          obtain ⟨as, ra⟩ := pd_rel O I hx hd
          obtain ⟨a, vs, rfl, ⟨o, h1, h2, k, h3⟩, r⟩ := tup_rel O I hy
          obtain ⟨bs, rb⟩ := pds0_rel O I r he
          simp only [okIn, Bool.and_eq_true] at ho
          obtain ⟨⟨h4, h5⟩, h6⟩ := ho
          have h7 := Nat.le_of_ble_eq_true h6
          have h8 := Nat.min_le_left (PyData.depthAll es) d.depth
          have := O.room
          exact PySem.SeqAt.in_tuple_reads (.tuple h1 h2 h3 rb) ra h4 h5 (by omega) (q.here I (.bool _) s.toks)
        · cases hb
      · cases hb
    · cases hb
  · cases hf
theorem notInS : Op2 g n (compareOp .NotIn) fNotIn := by
  intro φ W m σ s x y v u r σ' O I hx hy hf Q E q
  unfold fNotIn at hf
  split at hf
  · rename_i b hb
    cases hf
    unfold inB at hb
    split at hb
    · cases hb; cases hx; cases hy
      rename_i c l t1 t2
      refine notIn_str ?_
      have e := PySem.StrLaws.found_one ⟨l.toArray⟩ c
      rw [show (⟨[c].toArray⟩ : Str) = ⟨#[c]⟩ from rfl, e]
      rw [elem_eq] at q
      simpa using q.here I (.bool _) s.toks
    · split at hb
      · rename_i d es hd he
        split at hb
        · rename_i ho
          cases hb
          obtain ⟨as, ra⟩ := pd_rel O I hx hd
          obtain ⟨a, vs, rfl, ⟨o, h1, h2, k, h3⟩, r⟩ := tup_rel O I hy
          obtain ⟨bs, rb⟩ := pds0_rel O I r he
          simp only [okIn, Bool.and_eq_true] at ho
          obtain ⟨⟨h4, h5⟩, h6⟩ := ho
          have h7 := Nat.le_of_ble_eq_true h6
          have h8 := Nat.min_le_left (PyData.depthAll es) d.depth
          have := O.room
          exact PySem.SeqAt.notIn_tuple_reads (.tuple h1 h2 h3 rb) ra h4 h5 (by omega) (q.here I (.bool _) s.toks)
        · cases hb
      · cases hb
    · cases hb
  · cases hf
theorem isN_rel {g : Gl} {W : Wd} {x : AV} {v : Value} (h : VR g W x v) : (v == Value.none) = isN x := by
  cases h <;> rfl
theorem isS : Op2 g n (compareOp .Is) fIs := by
  intro φ W m σ s x y v u r σ' O I hx hy hf Q E q
  unfold fIs at hf
  split at hf
  · cases hf; cases hy
    refine is_none ?_
    rw [isN_rel hx]
    exact q.here I (.bool _) s.toks
  · cases hf
theorem isNotS : Op2 g n (compareOp .IsNot) fIsNot := by
  intro φ W m σ s x y v u r σ' O I hx hy hf Q E q
  unfold fIsNot at hf
  split at hf
  · cases hf; cases hy
    refine isNot_none ?_
    rw [isN_rel hx]
    exact q.here I (.bool _) s.toks
  · cases hf
end
end Rn

namespace Rn
open PySem PySem.Spec PySem.Calls PyProof.Rows PySem.W

/-! several expressions, left to right -/
inductive EsL (g : Gl) (n : Nat) (c : FC) : List Expr → List EDen → Prop
  | nil : EsL g n c [] []
  | cons {e : Expr} {d : EDen} {es : List Expr} {ds : List EDen} : ES g n c e d → (∀ env rest, starEach (e :: rest) env = (false, eval e env) :: starEach rest env) → EsL g n c es ds → EsL g n c (e :: es) (d :: ds)
noncomputable def dL : List EDen → Rε → List AO → Option (List AV × List AO)
  | [], _, σ => some ([], σ)
  | d :: ds, ε, σ => match d ε σ with
    | some (x, σ) => (match dL ds ε σ with
      | some (xs, σ) => some (x :: xs, σ)
      | none => none)
    | none => none
section
variable {g : Gl} {n : Nat} {c : FC}
theorem EsL.run : ∀ {es : List Expr} {ds : List EDen}, EsL g n c es ds → ∀ {φ : Fx} {env : Env} {W : Wd} {m ml : Str → Option Value} {ε : Rε} {σ σ' : List AO} {s : Shared} {xs : List AV}, Pre g n c φ env W m ml ε σ s → dL ds ε σ = some (xs, σ') →
    ∀ {pos : Pos} {Q : List Value → Shared → Prop} {E : Value → Shared → Prop}, (∀ vs W' s', Inv g φ W' m σ' s' → Ext W W' → VRs g W' xs vs → Q vs s') → wpAny (model g.prog g.w) φ.A (spliced (backTo pos (starEach es env))) Q E s
  | _, _, .nil, φ, env, W, m, ml, ε, σ, σ', s, xs, P, hd, pos, Q, E, q => by
    cases hd
    exact wpAny_items_nil (q [] W s P.inv (Ext.refl W) .nil)
  | _, _, .cons h he r, φ, env, W, m, ml, ε, σ, σ', s, xs, P, hd, pos, Q, E, q => by
    unfold dL at hd
    split at hd
    · rename_i x σ₁ h1
      split at hd
      · rename_i ys σ₂ h2
        cases hd
        refine wpAny_items_cons (h.run _ _ _ _ _ _ _ _ _ _ P h1 _ _ fun v W' s' I' E' V' => ?_) (he _ _)
        refine r.run (P.step I' E') h2 fun vs W'' s'' I'' E'' V'' => ?_
        exact q _ W'' s'' I'' (E'.trans E'') (.cons (V'.ext E'') V'')
      · cases hd
    · cases hd
theorem EsL.plain : ∀ {es : List Expr} {ds : List EDen}, EsL g n c es ds → ∀ (pos : Pos) (env : Env), ((backTo pos (starEach es env)).any fun x => x.1) = false
  | _, _, .nil, _, _ => rfl
  | _, _, .cons _ he r, pos, env => by
    rw [he, backTo, List.map_cons, List.any_cons]
    exact r.plain pos env

/-! two operands -/
noncomputable def d2 (f : F2) (l r : EDen) : EDen := fun ε σ => match l ε σ with
  | some (x, σ) => (match r ε σ with
    | some (y, σ) => f x y σ
    | none => none)
  | none => none
theorem two {l r : Expr} {dl dr : EDen} {f : F2} {t : Value → Value → Sem Value} (hl : ES g n c l dl) (hr : ES g n c r dr) (hf : Op2 g n t f)
    {φ : Fx} {env : Env} {W : Wd} {m ml : Str → Option Value} {ε : Rε} {σ σ' : List AO} {s : Shared} {x : AV} (P : Pre g n c φ env W m ml ε σ s) (hd : d2 f dl dr ε σ = some (x, σ')) {Q E : Value → Shared → Prop} (q : Post g φ W m σ' x Q) :
    wpAny (model g.prog g.w) φ.A (eval l env) (fun a s₁ => wpAny (model g.prog g.w) φ.A (eval r env) (fun b s₂ => wpAny (model g.prog g.w) φ.A (t a b) Q E s₂) E s₁) E s := by
  unfold d2 at hd
  split at hd
  · rename_i a σ₁ h1
    split at hd
    · rename_i b σ₂ h2
      refine hl.run _ _ _ _ _ _ _ _ _ _ P h1 _ _ fun v W₁ s₁ I₁ E₁ V₁ => ?_
      refine hr.run _ _ _ _ _ _ _ _ _ _ (P.step I₁ E₁) h2 _ _ fun u W₂ s₂ I₂ E₂ V₂ => ?_
      refine hf _ _ _ _ _ _ _ _ _ _ _ P.ok I₂ (V₁.ext E₂) V₂ hd _ _ fun r W₃ s₃ I₃ E₃ V₃ => ?_
      exact q _ _ _ I₃ ((E₁.trans E₂).trans E₃) V₃
    · cases hd
  · cases hd
theorem ES.bin {l r : Expr} {op : Operator} {pos : Pos} {dl dr : EDen} {f : F2} (hf : Op2 g n (binaryOp op) f) (hl : ES g n c l dl) (hr : ES g n c r dr) : ES g n c (.BinOp l op r pos) (d2 f dl dr) := by
  refine ⟨?_⟩; intro φ env W m ml ε σ s x σ' P hd Q E q
  exact wpAny_BinOp (two hl hr hf P hd q)
theorem ES.cmp {l r : Expr} {op : CmpOp} {pos : Pos} {dl dr : EDen} {f : F2} (hf : Op2 g n (compareOp op) f) (hl : ES g n c l dl) (hr : ES g n c r dr) (hb : behindInMarks op r = false) : ES g n c (.Compare l [op] [r] pos) (d2 f dl dr) := by
  refine ⟨?_⟩; intro φ env W m ml ε σ s x σ' P hd Q E q
  exact wpAny_Compare1 (two hl hr hf P hd q) hb

/-! tests -/
noncomputable def tV (d : EDen) : TDen := fun ε σ => match d ε σ with
  | some (.bool b, σ) => some (b, σ)
  | _ => none
theorem tV_some {d : EDen} {ε : Rε} {σ σ' : List AO} {b : Bool} (h : tV d ε σ = some (b, σ')) : d ε σ = some (.bool b, σ') := by
  unfold tV at h
  split at h
  · rename_i h'; cases h; exact h'
  · cases h
theorem TS.val {e : Expr} {d : EDen} (h : ES g n c e d) (he : ∀ env whole, PySem.isTrue e env whole = (do let v ← whole; standAt e.pos; holding [v] (truthy v))) : TS g n c e (tV d) := by
  refine ⟨?_⟩; intro φ env W m ml ε σ s b σ' P hd Q E q
  refine wpAny_isTrue_value (h.run _ _ _ _ _ _ _ _ _ _ P (tV_some hd) _ _ fun v W' s' I' E' V' => ?_) (he _ _)
  cases V'
  exact wpAny_truthy_bool (q _ _ I' E')
theorem TS.cmp {l r : Expr} {op : CmpOp} {pos : Pos} {dl dr : EDen} {f : F2} (hf : Op2 g n (compareOp op) f) (hl : ES g n c l dl) (hr : ES g n c r dr) (hb : behindInMarks op r = false) : TS g n c (.Compare l [op] [r] pos) (tV (d2 f dl dr)) := by
  refine ⟨?_⟩; intro φ env W m ml ε σ s b σ' P hd Q E q
  refine wpAny_isTrue_Compare1 (two (t := compareOp op) (Q := fun c s₃ => wpAny (model g.prog g.w) φ.A (truthy c) Q E s₃) hl hr hf P (tV_some hd) fun v W' s' I' E' V' => ?_) hb
  cases V'
  exact wpAny_truthy_bool (q _ _ I' E')
/-- a op1 b op2 c -/
noncomputable def tCh (f₁ f₂ : F2) (da db dc : EDen) : TDen := fun ε σ => match da ε σ with
  | some (a, σ) => (match db ε σ with
    | some (b, σ) => (match f₁ a b σ with
      | some (.bool true, σ) => (match dc ε σ with
        | some (c, σ) => (match f₂ b c σ with
          | some (.bool r, σ) => some (r, σ)
          | _ => none)
        | none => none)
      | some (.bool false, σ) => some (false, σ)
      | _ => none)
    | none => none)
  | none => none
theorem TS.chain {ea eb ec : Expr} {o₁ o₂ : CmpOp} {pos : Pos} {da db dc : EDen} {f₁ f₂ : F2} (h₁ : Op2 g n (compareOp o₁) f₁) (h₂ : Op2 g n (compareOp o₂) f₂) (ha : ES g n c ea da) (hb : ES g n c eb db) (hc : ES g n c ec dc)
    (hm : lastMarks [o₁, o₂] [eb, ec] = false) : TS g n c (.Compare ea [o₁, o₂] [eb, ec] pos) (tCh f₁ f₂ da db dc) := by
  refine ⟨?_⟩; intro φ env W m ml ε σ s r σ' P hd Q E q
  unfold tCh at hd
  split at hd
  · rename_i a σ₁ q1
    split at hd
    · rename_i b σ₂ q2
      refine isTrue_chain (ha.run _ _ _ _ _ _ _ _ _ _ P q1 _ _ fun v W₁ s₁ I₁ E₁ V₁ => ?_) hm
      unfold testChain
      refine wpAny_bind (wpAny_holding (hb.run _ _ _ _ _ _ _ _ _ _ (P.step I₁ E₁) q2 _ _ fun u W₂ s₂ I₂ E₂ V₂ => ?_))
      refine wpAny_bind (wpAny_standAt (wpAny_bind (wpAny_holding ?_)))
      have E12 := E₁.trans E₂
      have rel : ∀ {vs ks : List Value} {t : Unit → Sem Bool} {Q' : Bool → Shared → Prop} {s' : Shared}, wpAny (model g.prog g.w) φ.A (t ()) Q' E s' → wpAny (model g.prog g.w) φ.A (release vs ks >>= t) Q' E s' := fun h =>
        wpAny_bind (fun Γ p hΓ => by rw [Sem.wp_release]; exact h)
      split at hd
      · rename_i σ₃ q3
        refine h₁ _ _ _ _ _ _ _ _ _ _ _ P.ok I₂ (V₁.ext E₂) V₂ q3 _ _ fun x W₃ s₃ I₃ E₃ V₃ => ?_
        cases V₃
        refine rel (wpAny_bind (wpAny_holding (wpAny_truthy_bool ?_)))
        simp only [if_true]
        split at hd
        · rename_i d σ₄ q4
          split at hd
          · rename_i r' σ₅ q5
            cases hd
            unfold testChain
            refine wpAny_bind (wpAny_holding (hc.run _ _ _ _ _ _ _ _ _ _ (P.step I₃ (E12.trans E₃)) q4 _ _ fun z W₄ s₄ I₄ E₄ V₄ => ?_))
            refine wpAny_bind (wpAny_standAt (wpAny_bind (wpAny_operating ?_)))
            refine h₂ _ _ _ _ _ _ _ _ _ _ _ P.ok I₄ ((V₂.ext E₃).ext E₄) V₄ q5 _ _ fun y W₅ s₅ I₅ E₅ V₅ => ?_
            cases V₅
            exact wpAny_holding (wpAny_truthy_bool (q _ _ I₅ (((E12.trans E₃).trans E₄).trans E₅)))
          · cases hd
        · cases hd
      · rename_i σ₃ q3
        cases hd
        refine h₁ _ _ _ _ _ _ _ _ _ _ _ P.ok I₂ (V₁.ext E₂) V₂ q3 _ _ fun x W₃ s₃ I₃ E₃ V₃ => ?_
        cases V₃
        refine rel (wpAny_bind (wpAny_holding (wpAny_truthy_bool ?_)))
        exact wpAny_pure (q _ _ I₃ (E12.trans E₃))
      · cases hd
    · cases hd
  · cases hd
noncomputable def tNot (t : TDen) : TDen := fun ε σ => match t ε σ with
  | some (b, σ) => some (!b, σ)
  | none => none
theorem TS.not {e : Expr} {t : TDen} {pos : Pos} (h : TS g n c e t) : TS g n c (.UnaryOp .Not e pos) (tNot t) := by
  refine ⟨?_⟩; intro φ env W m ml ε σ s b σ' P hd Q E q
  unfold tNot at hd
  split at hd
  · rename_i b' σ₁ h1
    cases hd
    exact isTrue_not (h.run _ _ _ _ _ _ _ _ _ _ P h1 _ _ fun W' s' I' E' => q _ _ I' E')
  · cases hd
inductive TsL (g : Gl) (n : Nat) (c : FC) : List Expr → List TDen → Prop
  | nil : TsL g n c [] []
  | cons {e : Expr} {d : TDen} {es : List Expr} {ds : List TDen} : TS g n c e d → TsL g n c es ds → TsL g n c (e :: es) (d :: ds)
noncomputable def tAnd : List TDen → TDen
  | [], _, σ => some (true, σ)
  | t :: ts, ε, σ => match t ε σ with
    | some (true, σ) => tAnd ts ε σ
    | some (false, σ) => some (false, σ)
    | none => none
noncomputable def tOr : List TDen → TDen
  | [], _, σ => some (false, σ)
  | t :: ts, ε, σ => match t ε σ with
    | some (false, σ) => tOr ts ε σ
    | some (true, σ) => some (true, σ)
    | none => none
theorem TsL.and : ∀ {es : List Expr} {ts : List TDen}, TsL g n c es ts → ∀ {φ : Fx} {env : Env} {W : Wd} {m ml : Str → Option Value} {ε : Rε} {σ σ' : List AO} {s : Shared} {b : Bool}, Pre g n c φ env W m ml ε σ s → tAnd ts ε σ = some (b, σ') →
    ∀ {Q : Bool → Shared → Prop} {E : Value → Shared → Prop}, (∀ W' s', Inv g φ W' m σ' s' → Ext W W' → Q b s') → wpAny (model g.prog g.w) φ.A (allTrue .And es env) Q E s
  | _, _, .nil, φ, env, W, m, ml, ε, σ, σ', s, b, P, hd, Q, E, q => by cases hd; exact wpAny_allTrue_And_nil (q _ _ P.inv (Ext.refl W))
  | _, _, .cons h r, φ, env, W, m, ml, ε, σ, σ', s, b, P, hd, Q, E, q => by
    unfold tAnd at hd
    refine wpAny_allTrue_And_cons ?_
    split at hd
    · rename_i σ₁ h1
      refine h.run _ _ _ _ _ _ _ _ _ _ P h1 _ _ fun W' s' I' E' => ?_
      simp only [if_true]
      exact r.and (P.step I' E') hd fun W'' s'' I'' E'' => q _ _ I'' (E'.trans E'')
    · rename_i σ₁ h1
      cases hd
      exact h.run _ _ _ _ _ _ _ _ _ _ P h1 _ _ fun W' s' I' E' => q _ _ I' E'
    · cases hd
theorem TsL.or : ∀ {es : List Expr} {ts : List TDen}, TsL g n c es ts → ∀ {φ : Fx} {env : Env} {W : Wd} {m ml : Str → Option Value} {ε : Rε} {σ σ' : List AO} {s : Shared} {b : Bool}, Pre g n c φ env W m ml ε σ s → tOr ts ε σ = some (b, σ') →
    ∀ {Q : Bool → Shared → Prop} {E : Value → Shared → Prop}, (∀ W' s', Inv g φ W' m σ' s' → Ext W W' → Q b s') → wpAny (model g.prog g.w) φ.A (allTrue .Or es env) Q E s
  | _, _, .nil, φ, env, W, m, ml, ε, σ, σ', s, b, P, hd, Q, E, q => by cases hd; exact wpAny_allTrue_Or_nil (q _ _ P.inv (Ext.refl W))
  | _, _, .cons h r, φ, env, W, m, ml, ε, σ, σ', s, b, P, hd, Q, E, q => by
    unfold tOr at hd
    refine wpAny_allTrue_Or_cons ?_
    split at hd
    · rename_i σ₁ h1
      refine h.run _ _ _ _ _ _ _ _ _ _ P h1 _ _ fun W' s' I' E' => ?_
      exact r.or (P.step I' E') hd fun W'' s'' I'' E'' => q _ _ I'' (E'.trans E'')
    · rename_i σ₁ h1
      cases hd
      exact h.run _ _ _ _ _ _ _ _ _ _ P h1 _ _ fun W' s' I' E' => q _ _ I' E'
    · cases hd
theorem TS.and {es : List Expr} {ts : List TDen} {pos : Pos} (h : TsL g n c es ts) : TS g n c (.BoolOp .And es pos) (tAnd ts) := by
  refine ⟨?_⟩; intro φ env W m ml ε σ s b σ' P hd Q E q
  exact wpAny_isTrue_BoolOp (h.and P hd q)
theorem TS.or {es : List Expr} {ts : List TDen} {pos : Pos} (h : TsL g n c es ts) : TS g n c (.BoolOp .Or es pos) (tOr ts) := by
  refine ⟨?_⟩; intro φ env W m ml ε σ s b σ' P hd Q E q
  exact wpAny_isTrue_BoolOp (h.or P hd q)

/-! and, or as values (of bools) -/
noncomputable def dAnd : List EDen → EDen
  | [], _, _ => none
  | [d], ε, σ => d ε σ
  | d :: ds, ε, σ => match d ε σ with
    | some (.bool true, σ) => dAnd ds ε σ
    | some (.bool false, σ) => some (.bool false, σ)
    | _ => none
noncomputable def dOr : List EDen → EDen
  | [], _, _ => none
  | [d], ε, σ => d ε σ
  | d :: ds, ε, σ => match d ε σ with
    | some (.bool false, σ) => dOr ds ε σ
    | some (.bool true, σ) => some (.bool true, σ)
    | _ => none
theorem EsL.and : ∀ {es : List Expr} {ds : List EDen}, EsL g n c es ds → ∀ {φ : Fx} {env : Env} {W : Wd} {m ml : Str → Option Value} {ε : Rε} {σ σ' : List AO} {s : Shared} {x : AV}, Pre g n c φ env W m ml ε σ s → dAnd ds ε σ = some (x, σ') →
    ∀ {pos : Pos} {Q E : Value → Shared → Prop}, Post g φ W m σ' x Q → wpAny (model g.prog g.w) φ.A (boolOp pos .And (evalEach es env)) Q E s
  | _, _, .nil, φ, env, W, m, ml, ε, σ, σ', s, x, P, hd, pos, Q, E, q => by cases hd
  | _, _, .cons h _ .nil, φ, env, W, m, ml, ε, σ, σ', s, x, P, hd, pos, Q, E, q => h.run _ _ _ _ _ _ _ _ _ _ P hd _ _ q
  | _, _, .cons h _ (.cons h' he' r), φ, env, W, m, ml, ε, σ, σ', s, x, P, hd, pos, Q, E, q => by
    unfold dAnd at hd
    show wpAny _ _ (boolOp pos .And (eval _ env :: eval _ env :: evalEach _ env)) Q E s
    unfold boolOp
    split at hd
    · rename_i σ₁ h1
      refine wpAny_bind (h.run _ _ _ _ _ _ _ _ _ _ P h1 _ _ fun v W' s' I' E' V' => wpAny_bind (wpAny_standAt (wpAny_bind (wpAny_holding ?_))))
      cases V'
      refine wpAny_truthy_bool ?_
      exact EsL.and (.cons h' he' r) (P.step I' E') hd fun v W'' s'' I'' E'' V'' => q _ _ _ I'' (E'.trans E'') V''
    · rename_i σ₁ h1
      cases hd
      refine wpAny_bind (h.run _ _ _ _ _ _ _ _ _ _ P h1 _ _ fun v W' s' I' E' V' => wpAny_bind (wpAny_standAt (wpAny_bind (wpAny_holding ?_))))
      have V'' := V'
      cases V'
      exact wpAny_truthy_bool (wpAny_pure (q _ _ _ I' E' V''))
    · cases hd
theorem EsL.or : ∀ {es : List Expr} {ds : List EDen}, EsL g n c es ds → ∀ {φ : Fx} {env : Env} {W : Wd} {m ml : Str → Option Value} {ε : Rε} {σ σ' : List AO} {s : Shared} {x : AV}, Pre g n c φ env W m ml ε σ s → dOr ds ε σ = some (x, σ') →
    ∀ {pos : Pos} {Q E : Value → Shared → Prop}, Post g φ W m σ' x Q → wpAny (model g.prog g.w) φ.A (boolOp pos .Or (evalEach es env)) Q E s
  | _, _, .nil, φ, env, W, m, ml, ε, σ, σ', s, x, P, hd, pos, Q, E, q => by cases hd
  | _, _, .cons h _ .nil, φ, env, W, m, ml, ε, σ, σ', s, x, P, hd, pos, Q, E, q => h.run _ _ _ _ _ _ _ _ _ _ P hd _ _ q
  | _, _, .cons h _ (.cons h' he' r), φ, env, W, m, ml, ε, σ, σ', s, x, P, hd, pos, Q, E, q => by
    unfold dOr at hd
    show wpAny _ _ (boolOp pos .Or (eval _ env :: eval _ env :: evalEach _ env)) Q E s
    unfold boolOp
    split at hd
    · rename_i σ₁ h1
      refine wpAny_bind (h.run _ _ _ _ _ _ _ _ _ _ P h1 _ _ fun v W' s' I' E' V' => wpAny_bind (wpAny_standAt (wpAny_bind (wpAny_holding ?_))))
      cases V'
      refine wpAny_truthy_bool ?_
      exact EsL.or (.cons h' he' r) (P.step I' E') hd fun v W'' s'' I'' E'' V'' => q _ _ _ I'' (E'.trans E'') V''
    · rename_i σ₁ h1
      cases hd
      refine wpAny_bind (h.run _ _ _ _ _ _ _ _ _ _ P h1 _ _ fun v W' s' I' E' V' => wpAny_bind (wpAny_standAt (wpAny_bind (wpAny_holding ?_))))
      have V'' := V'
      cases V'
      exact wpAny_truthy_bool (wpAny_pure (q _ _ _ I' E' V''))
    · cases hd
theorem ES.and {es : List Expr} {ds : List EDen} {pos : Pos} (h : EsL g n c es ds) : ES g n c (.BoolOp .And es pos) (dAnd ds) := by
  refine ⟨?_⟩; intro φ env W m ml ε σ s x σ' P hd Q E q
  exact h.and P hd q
theorem ES.or {es : List Expr} {ds : List EDen} {pos : Pos} (h : EsL g n c es ds) : ES g n c (.BoolOp .Or es pos) (dOr ds) := by
  refine ⟨?_⟩; intro φ env W m ml ε σ s x σ' P hd Q E q
  exact h.or P hd q
noncomputable def dIf (t : TDen) (a b : EDen) : EDen := fun ε σ => match t ε σ with
  | some (true, σ) => a ε σ
  | some (false, σ) => b ε σ
  | none => none
theorem ES.ite {t a b : Expr} {dt : TDen} {da db : EDen} {pos : Pos} (ht : TS g n c t dt) (ha : ES g n c a da) (hb : ES g n c b db) : ES g n c (.IfExp t a b pos) (dIf dt da db) := by
  refine ⟨?_⟩; intro φ env W m ml ε σ s x σ' P hd Q E q
  unfold dIf at hd
  split at hd
  · rename_i σ₁ h1
    refine wpAny_IfExp (ht.run _ _ _ _ _ _ _ _ _ _ P h1 _ _ fun W' s' I' E' => ?_)
    simp only [if_true]
    exact ha.run _ _ _ _ _ _ _ _ _ _ (P.step I' E') hd _ _ fun v W'' s'' I'' E'' V'' => q _ _ _ I'' (E'.trans E'') V''
  · rename_i σ₁ h1
    refine wpAny_IfExp (ht.run _ _ _ _ _ _ _ _ _ _ P h1 _ _ fun W' s' I' E' => ?_)
    exact hb.run _ _ _ _ _ _ _ _ _ _ (P.step I' E') hd _ _ fun v W'' s'' I'' E'' V'' => q _ _ _ I'' (E'.trans E'') V''
  · cases hd

/-! displays -/
noncomputable def dTup (ds : List EDen) : EDen := fun ε σ => match dL ds ε σ with
  | some (xs, σ) => (match lim xs.length with
    | true => some (.tup xs, σ)
    | false => none)
  | none => none
theorem ES.tup {es : List Expr} {ds : List EDen} {k : Nat} {pos : Pos} (h : EsL g n c es ds) : ES g n c (.Tuple es k pos) (dTup ds) := by
  refine ⟨?_⟩; intro φ env W m ml ε σ s x σ' P hd Q E q
  unfold dTup at hd
  split at hd
  · rename_i xs σ₁ h1
    split at hd
    · rename_i hl
      cases hd
      refine Tuple_ (h.run P h1 fun vs W' s' I' E' V' => ?_)
      refine newTuple_N I'.fr I'.news (fun h' F N => ?_) (by rw [← V'.length]; exact lim_le hl)
      obtain ⟨I'', E''⟩ := I'.addF F N (fun p hp => I'.lt hp) s'.toks
      exact q _ _ _ I'' (E'.trans E'') (.tup ⟨0, .inl (.head _)⟩ (V'.ext E''))
    · cases hd
  · cases hd
noncomputable def dLst (ds : List EDen) : EDen := fun ε σ => match dL ds ε σ with
  | some (xs, σ) => (match lim xs.length with
    | true => some (.ref σ.length, σ ++ [.list xs])
    | false => none)
  | none => none
theorem ES.lst {es : List Expr} {ds : List EDen} {pos : Pos} (h : EsL g n c es ds) : ES g n c (.List es pos) (dLst ds) := by
  refine ⟨?_⟩; intro φ env W m ml ε σ s x σ' P hd Q E q
  unfold dLst at hd
  split at hd
  · rename_i xs σ₁ h1
    split at hd
    · rename_i hl
      cases hd
      refine List_ (h.run P h1 fun vs W' s' I' E' V' => ?_)
      refine newList_K I'.fr I'.news (fun l h' F N hlt => ?_) (by rw [← V'.length]; exact lim_le hl)
      obtain ⟨I'', E'', V''⟩ := I'.addO (x := .list xs) F N hlt (.list V') s'.toks
      exact q _ _ _ I'' (E'.trans E'') V''
    · cases hd
  · cases hd
end
end Rn

namespace Rn
open PySem PySem.Spec PySem.Calls PyProof.Rows PySem.W

/-! an item -/
noncomputable def dlook : List (Int × AV) → Int → Option AV
  | [], _ => none
  | (k, x) :: es, i => match Int.decEq k i with
    | .isTrue _ => some x
    | .isFalse _ => dlook es i
noncomputable def dictEs (σ : List AO) : AV → Option (List (Int × AV))
  | .fd es => some es
  | .ref j => match σ[j]? with
    | some (.dict es) => some es
    | _ => none
  | _ => none
noncomputable def natOf : Int → Option Nat
  | .ofNat k => (match lim k with
    | true => some k
    | false => none)
  | .negSucc _ => none
noncomputable def fIdx : F2 := fun x y σ => match x, y with
  | .str a, .int i => (match natOf i with
    | some k => (match a[k]? with
      | some ch => some (.str [ch], σ)
      | none => none)
    | none => none)
  | .tup xs, .int i => (match natOf i with
    | some k => (match xs[k]? with
      | some x => some (x, σ)
      | none => none)
    | none => none)
  | x, .int i => (match items σ x with
    | some xs => (match natOf i with
      | some k => (match xs[k]? with
        | some x => some (x, σ)
        | none => none)
      | none => none)
    | none => (match dictEs σ x with
      | some es => (match dlook es i with
        | some x => some (x, σ)
        | none => none)
      | none => none))
  | _, _ => none
theorem natOf_eq {i : Int} {k : Nat} (h : natOf i = some k) : i = (k : Int) ∧ k ≤ 100000 := by
  unfold natOf at h
  split at h
  · split at h
    · rename_i hl; cases h; exact ⟨rfl, lim_le' hl⟩
    · cases h
  · cases h
theorem seqIndex_nat {k len : Nat} (h : k < len) : seqIndex? (k : Int) len = some k := by
  unfold seqIndex?
  have h1 : ¬ (k : Int) < 0 := by omega
  simp only [h1, if_false]
  rw [if_pos (by simp; omega)]
  simp
theorem DRels.look {g : Gl} {rs : List Addr} {frz : Led} : ∀ {es : List (Int × AV)} {kvs : List (Int × Value)}, DRels g rs frz es kvs → ∀ (i : Int), match dlook es i with
    | some x => ∃ v, valueAt kvs i = some v ∧ VRel g rs frz x v
    | none => valueAt kvs i = none
  | _, _, .nil, i => rfl
  | _, _, .cons (k := k) (v := v) (es := es) (ds := ds) h r, i => by
    have ih := r.look i
    unfold dlook
    split
    · rename_i x hx
      split at hx
      · rename_i e _
        cases hx
        exact ⟨v, by simp [valueAt, e], h⟩
      · rename_i e _
        rw [hx] at ih
        obtain ⟨u, h1, h2⟩ := ih
        exact ⟨u, by simpa [valueAt, e] using h1, h2⟩
    · rename_i hx
      split at hx
      · cases hx
      · rename_i e _
        rw [hx] at ih
        simpa [valueAt, e] using ih
section
variable {g : Gl} {n : Nat} {c : FC}
theorem dict_rel {φ : Fx} {W : Wd} {m : Str → Option Value} {σ : List AO} {s : Shared} (I : Inv g φ W m σ s) {x : AV} {v : Value} (h : VR g W x v) {es : List (Int × AV)} (e : dictEs σ x = some es) :
    ∃ a o kvs, v = .ref a ∧ (a, o) ∈ W.all ∧ (a == sysModules) = false ∧ o.IsDictOf (PySem.intKind g.prog g.w) kvs ∧ DRels g W.ks W.frz es kvs := by
  cases h with
  | fd h l k r => cases e; exact ⟨_, _, _, rfl, List.mem_append_right _ (List.mem_append_right _ h), l, k, r.up⟩
  | ref h =>
    simp only [dictEs] at e
    split at e
    · rename_i ys hy
      cases e
      obtain ⟨b, o, h1, h2, h3, h4⟩ := I.own hy
      rw [h] at h2
      cases h2
      cases h4 with
      | dict l k r => exact ⟨_, _, _, rfl, List.mem_append_left _ (List.mem_of_getElem? h1), l, k, r⟩
    · cases e
  | _ => cases e
theorem ES.sub {value slice : Expr} {pos : Pos} {dv di : EDen} (hv : ES g n c value dv) (hi : ES g n c slice di) (hs : ∀ o i, subscripted slice false o i = operate [o, i] (getItem o i)) : ES g n c (.Subscript value slice pos) (d2 fIdx dv di) := by
  refine ⟨?_⟩; intro φ env W m ml ε σ s x σ' P hd Q E q
  refine Subscript_ (two hv hi ?_ P hd q)
  intro φ W m σ s x y v u r σ' O I hx hy hf Q E q
  unfold fIdx at hf
  split at hf
  · split at hf
    · rename_i a i _ k hk
      split at hf
      · rename_i ch hc
        cases hf; cases hx; cases hy
        obtain ⟨rfl, hl⟩ := natOf_eq hk
        have hlt := (List.getElem?_eq_some_iff.mp hc).1
        refine tail_any (typeIs_str s _ _) PySem.F.slot_str_getitem.lookup (getItem_str (c := ch) ?_ ?_ (q.here I (.str [ch] _) _)) (hs _ _)
        · simp; omega
        · rw [show (Str.length ⟨a.toArray⟩) = a.length from by simp [Str.length], seqIndex_nat hlt]
          simpa using hc
      · cases hf
    · cases hf
  · split at hf
    · rename_i xs i _ k hk
      split at hf
      · rename_i z hz
        cases hf; cases hy
        obtain ⟨rfl, hl⟩ := natOf_eq hk
        obtain ⟨a, vs, rfl, h1, h2⟩ := tup_rel O I hx
        obtain ⟨z', h3, h4⟩ := h2.get hz
        have hlt := (List.getElem?_eq_some_iff.mp h3).1
        exact tail_any h1.typeIs slot_tuple_getitem.lookup (getItem_tuple h1 (by omega) (by omega) (by rw [List.size_toArray]; exact seqIndex_nat hlt) (by simpa using h3) (q.here I h4 s.toks)) (hs _ _)
      · cases hf
    · cases hf
  · split at hf
    · rename_i xs hxs
      split at hf
      · rename_i k hk
        split at hf
        · rename_i z hz
          cases hf; cases hy
          obtain ⟨rfl, hl⟩ := natOf_eq hk
          obtain ⟨a, vs, rfl, h1, h2⟩ := items_rel O I hx hxs
          obtain ⟨z', h3, h4⟩ := h2.get hz
          exact tail_any h1.typeIs slot_list_getitem.lookup (wpAny_getItem_list h1 (by omega) (by omega) (by simpa using h3) (q.here I h4 s.toks)) (hs _ _)
        · cases hf
      · cases hf
    · split at hf
      · rename_i es hes
        split at hf
        · rename_i z hz
          cases hf; cases hy
          obtain ⟨a, o, kvs, rfl, h1, _, h2, h3⟩ := dict_rel I hx hes
          have h4 := h3.look (by assumption)
          rw [hz] at h4
          obtain ⟨v', h5, h6⟩ := h4
          refine tail_any (T := "dict") ?_ PySem.F.slot_dict_getitem.lookup (kdt_getItem I.news h1 h2 (k := _) (by simp [PySem.intKind, PySem.Value.isInt]) h5 (q.here I h6 _)) (hs _ _)
          exact Heap.DictOf.typeIs (kda_dict I.news h1 h2)
        · cases hf
      · cases hf
  · cases hf
end
end Rn

namespace Rn
open PySem PySem.Spec PySem.Calls PyProof.Rows PySem.W

/-! slices by ones -/
noncomputable def clp (n : Nat) : Int → Nat
  | .ofNat k => (match Nat.ble k n with
    | true => k
    | false => n)
  | .negSucc k => n - (k + 1)
theorem clp_eq (n : Nat) (i : Int) : clp n i = clipAt n i := by
  have h := clipAt_cast n i
  cases i with
  | ofNat k =>
    simp only [clp]
    cases hb : Nat.ble k n with
    | true =>
      have := Nat.le_of_ble_eq_true hb
      simp only
      have h1 : ¬ (Int.ofNat k : Int) < 0 := by simp
      rw [if_neg h1] at h
      have h2 : (Int.ofNat k : Int) = (k : Int) := rfl
      rw [h2] at h ⊢
      simp only [Int.max_def, Int.min_def] at h
      (repeat' split at h) <;> omega
    | false =>
      have : ¬ k ≤ n := fun q => by rw [Nat.ble_eq_true_of_le q] at hb; cases hb
      simp only
      have h1 : ¬ (Int.ofNat k : Int) < 0 := by simp
      rw [if_neg h1] at h
      have h2 : (Int.ofNat k : Int) = (k : Int) := rfl
      rw [h2] at h ⊢
      simp only [Int.max_def, Int.min_def] at h
      (repeat' split at h) <;> omega
  | negSucc k =>
    simp only [clp]
    have h1 : (Int.negSucc k : Int) < 0 := Int.negSucc_lt_zero k
    rw [if_pos h1] at h
    have h2 : (Int.negSucc k : Int) = -((k : Int) + 1) := by omega
    rw [h2] at h ⊢
    simp only [Int.max_def, Int.min_def] at h
    (repeat' split at h) <;> omega
noncomputable def cutOf {α : Type} (lo hi : Option Int) (s : List α) : List α :=
  let a := match lo with
    | some i => clp s.length i
    | none => 0
  let b := match hi with
    | some i => clp s.length i
    | none => s.length
  (s.drop a).take (b - a)
theorem cutOf_eq {α : Type} (lo hi : Option Int) (s : List α) : cutOf lo hi s = (s.drop (lo.elim 0 (clipAt s.length))).take (hi.elim s.length (clipAt s.length) - lo.elim 0 (clipAt s.length)) := by
  cases lo <;> cases hi <;> simp [cutOf, clp_eq]
theorem pick_list (vs : List Value) (lo hi : Option Int) : slicePick vs.toArray lo hi none = (cutOf lo hi vs).toArray := by
  rw [slicePick_plain, cutOf_eq]
  simp
theorem indices_plain (lo hi : Option Int) (n : Nat) : Builtin.Str.strSliceIndices lo hi 1 n = (List.range (hi.elim n (clipAt n) - lo.elim 0 (clipAt n))).map (lo.elim 0 (clipAt n) + ·) := by
  have h : Builtin.Str.strSliceIndices lo hi 1 n = sliceRange (sliceBounds lo hi none n).1 (sliceBounds lo hi none n).2.1 (sliceBounds lo hi none n).2.2 := by
    cases lo <;> cases hi <;> rfl
  rw [h, sliceBounds_plain]
  exact sliceRange_one _ _
theorem txt_slice (s : List Nat) (lo hi : Option Int) : Txt.slice ⟨s.toArray⟩ lo hi = ⟨(cutOf lo hi s).toArray⟩ := by
  unfold Txt.slice
  have hl : (Str.length ⟨s.toArray⟩) = s.length := by simp [Str.length]
  rw [hl, indices_plain, cutOf_eq]
  have hp : List.filterMap (fun x => (s.toArray)[x]?) (List.map (lo.elim 0 (clipAt s.length) + ·) (List.range (hi.elim s.length (clipAt s.length) - lo.elim 0 (clipAt s.length)))) =
      (s.drop (lo.elim 0 (clipAt s.length))).take (hi.elim s.length (clipAt s.length) - lo.elim 0 (clipAt s.length)) := by
    have := pick_run s.toArray (lo.elim 0 (clipAt s.length)) (hi.elim s.length (clipAt s.length) - lo.elim 0 (clipAt s.length))
    simpa using this
  split
  · rename_i h
    simp at h
    have hb : hi.elim s.length (clipAt s.length) ≤ s.length := by
      cases hi with
      | none => exact Nat.le_refl _
      | some i =>
        show clipAt s.length i ≤ s.length
        have := clipAt_cast s.length i
        simp only [Int.max_def, Int.min_def] at this
        (repeat' split at this) <;> omega
    have ha' : lo.elim 0 (clipAt s.length) ≤ s.length := by
      cases lo with
      | none => exact Nat.zero_le _
      | some i =>
        show clipAt s.length i ≤ s.length
        have := clipAt_cast s.length i
        simp only [Int.max_def, Int.min_def] at this
        (repeat' split at this) <;> omega
    have ha : lo.elim 0 (clipAt s.length) = 0 := by omega
    have hb' : hi.elim s.length (clipAt s.length) = s.length := by omega
    rw [ha, hb']
    simp
  · rw [hp]
noncomputable def dPart (d : Option EDen) : Rε → List AO → Option (Option Int × List AO) := fun ε σ => match d with
  | none => some (none, σ)
  | some d => (match d ε σ with
    | some (.int i, σ) => some (some i, σ)
    | _ => none)
noncomputable def dSl (dv : EDen) (lo hi : Option EDen) : EDen := fun ε σ => match dv ε σ with
  | some (x, σ) => (match dPart lo ε σ with
    | some (l, σ) => (match dPart hi ε σ with
      | some (u, σ) => (match x with
        | .str s => (match lim s.length with
          | true => some (.str (cutOf l u s), σ)
          | false => none)
        | x => (match items σ x with
          | some xs => (match lim xs.length with
            | true => some (.ref σ.length, σ ++ [.list (cutOf l u xs)])
            | false => none)
          | none => none))
      | none => none)
    | none => none)
  | none => none
inductive PS (g : Gl) (n : Nat) (c : FC) : Option Expr → Option EDen → Prop
  | none : PS g n c none none
  | some {e : Expr} {d : EDen} : ES g n c e d → PS g n c (some e) (some d)
section
variable {g : Gl} {n : Nat} {c : FC}
theorem PS.run {oe : Option Expr} {od : Option EDen} (h : PS g n c oe od) {φ : Fx} {env : Env} {W : Wd} {m ml : Str → Option Value} {ε : Rε} {σ σ' : List AO} {s : Shared} {k : Option Int} (P : Pre g n c φ env W m ml ε σ s) (hd : dPart od ε σ = Option.some (k, σ'))
    {Q E : Value → Shared → Prop} (q : ∀ v W' s', Inv g φ W' m σ' s' → Ext W W' → IsPart v k → Q v s') : wpAny (model g.prog g.w) φ.A (evalPart oe env) Q E s := by
  cases h with
  | none => cases hd; exact wpAny_pure (q _ _ _ P.inv (Ext.refl W) .none)
  | some h =>
    unfold dPart at hd
    simp only at hd
    split at hd
    · rename_i i σ₁ h1
      cases hd
      refine h.run _ _ _ _ _ _ _ _ _ _ P h1 _ _ fun v W' s' I' E' V' => ?_
      cases V'
      exact q _ _ _ I' E' (.int _ _)
    · cases hd
theorem partVal {v : Value} {k : Option Int} (h : IsPart v k) : ∃ l : Option (Int × Tok), v = partValue l ∧ l.map (·.1) = k := by
  cases h with
  | none => exact ⟨none, rfl, rfl⟩
  | int i t => exact ⟨some (i, t), rfl, rfl⟩
theorem tmpGo (value : Expr) (x : Str) (t : Tok) (r : Value) : letTemporaryGo value (.str x t) r = pure () := by
  cases value <;> rfl
theorem VRels.cut {rs : List Addr} {frz : Led} {xs : List AV} {vs : List Value} (h : VRels g rs frz xs vs) (lo hi : Option Int) : VRels g rs frz (cutOf lo hi xs) (cutOf lo hi vs) := by
  rw [cutOf_eq, cutOf_eq, h.length]
  exact (h.drop _).take _
theorem ES.sl {value : Expr} {lo hi : Option Expr} {p pos : Pos} {dv : EDen} {dlo dhi : Option EDen} (hv : ES g n c value dv) (hlo : PS g n c lo dlo) (hhi : PS g n c hi dhi) : ES g n c (.Subscript value (.Slice lo hi Option.none p) pos) (dSl dv dlo dhi) := by
  refine ⟨?_⟩; intro φ env W m ml ε σ s x σ' P hd Q E q
  unfold dSl at hd
  split at hd
  · rename_i a σ₁ h1
    split at hd
    · rename_i l σ₂ h2
      split at hd
      · rename_i u σ₃ h3
        refine Subscript_ (hv.run _ _ _ _ _ _ _ _ _ _ P h1 _ _ fun v W₁ s₁ I₁ E₁ V₁ => wpAny_Slice (hlo.run (P.step I₁ E₁) h2 fun vl W₂ s₂ I₂ E₂ P₂ => hhi.run (P.step I₂ (E₁.trans E₂)) h3 fun vu W₃ s₃ I₃ E₃ P₃ => ?_))
        have E13 := (E₁.trans E₂).trans E₃
        have V₃ := (V₁.ext E₂).ext E₃
        rw [evalPart_none]
        refine wpAny_pure ?_
        have K : KeptH (fun h => Fr φ.h₀ φ.L h m ∧ News φ.h₀ φ.L h W₃.all) := fun h o ⟨F, N⟩ => ⟨F.push o, fun p hp => ⟨Heap.get?_push_of_some _ (N p hp).1, (N p hp).2⟩⟩
        obtain ⟨pl, rfl, hpl⟩ := partVal P₂
        obtain ⟨pu, rfl, hpu⟩ := partVal P₃
        split at hd
        · rename_i str
          split at hd
          · rename_i hl
            cases hd
            cases V₃
            refine tail_of_ItemOn (ops := [.ref s₃.heap.objs.size, .str ⟨str.toArray⟩ _]) ⟨"str", _, PySem.F.slot_str_getitem.lookup, typeIs_str _ _ _, ?_⟩ rfl (fun r => tmpGo _ _ _ r)
            refine wpAny_getItem_str_slice (l := pl) (u := pu) (st := Option.none) ⟨_, Heap.get?_push_size _ rfl, rfl, rfl⟩ rfl ?_
            refine post_val_or_str (c := ((1 : Int) == 1 && (slicePicked ⟨str.toArray⟩ pl pu Option.none).length == (Str.length ⟨str.toArray⟩)) = true) ?_
            have e : (if ((1 : Int) == 1 && (slicePicked ⟨str.toArray⟩ pl pu Option.none).length == (Str.length ⟨str.toArray⟩)) = true then (⟨str.toArray⟩ : Str) else ⟨((slicePicked ⟨str.toArray⟩ pl pu Option.none).filterMap ((⟨str.toArray⟩ : Str).cps[·]?)).toArray⟩) = ⟨(cutOf l u str).toArray⟩ := by
              rw [← txt_slice, ← hpl, ← hpu]
              rfl
            rw [e]
            refine ⟨?_, fun t' k => ?_⟩
            · have : (cutOf l u str).length ≤ str.length := by rw [cutOf_eq, List.length_take, List.length_drop]; omega
              have := lim_le hl
              simp only [Str.length, List.size_toArray]
              omega
            · obtain ⟨F', N'⟩ := K _ { cls := .type "slice", data := .fields #[partValue pl, partValue pu, .none] } ⟨I₃.fr, I₃.news⟩
              exact q _ W₃ _ ⟨F', N', I₃.nodup, I₃.heap, I₃.gens, I₃.drawn, I₃.os⟩ E13 (.str _ _)
          · cases hd
        · split at hd
          · rename_i xs hxs
            split at hd
            · rename_i hl
              cases hd
              obtain ⟨F', N'⟩ := K _ { cls := .type "slice", data := .fields #[partValue pl, partValue pu, .none] } ⟨I₃.fr, I₃.news⟩
              have I₄ : Inv g φ W₃ m σ₃ { s₃ with heap := s₃.heap.push { cls := .type "slice", data := .fields #[partValue pl, partValue pu, .none] } } := ⟨F', N', I₃.nodup, I₃.heap, I₃.gens, I₃.drawn, I₃.os⟩
              obtain ⟨b, vs, rfl, h4, h5⟩ := items_rel P.ok I₄ V₃ hxs
              have hsz := lim_le hl
              refine tail_any h4.typeIs slot_list_getitem.lookup (wpAny_getItem_list_slice h4 (Heap.IsSliceOf.new ..) P₂ P₃ .none (by simp) ?_ (by rw [List.size_toArray, ← h5.length]; exact hsz)) (ops := [.ref s₃.heap.objs.size, .ref b]) rfl
              rw [pick_list]
              have F5 : Fr φ.h₀ φ.L _ m := F'.push (PySem.W.listOf (cutOf l u vs).toArray 0)
              have N5 := News.push F' N' (PySem.W.listOf (cutOf l u vs).toArray 0)
              obtain ⟨I'', E'', V''⟩ := I₄.addO (x := .list (cutOf l u xs)) F5 N5 (fun p hp => I₄.lt hp) (.list (h5.cut l u)) s₃.toks
              exact q _ _ _ I'' (E13.trans E'') V''
            · cases hd
          · cases hd
      · cases hd
    · cases hd
  · cases hd
end
end Rn

namespace Rn
open PySem PySem.Spec PySem.Calls PyProof.Rows PySem.W

noncomputable abbrev FL := List AV → List AO → Option (AV × List AO)
noncomputable def OpL (g : Gl) (n : Nat) (t : List Value → Sem Value) (f : FL) : Prop :=
  ∀ φ W m σ s xs vs r σ', φ.Ok g n → Inv g φ W m σ s → VRs g W xs vs → f xs σ = some (r, σ') → ∀ (Q E : Value → Shared → Prop), Post g φ W m σ' r Q → wpAny (model g.prog g.w) φ.A (t vs) Q E s
noncomputable abbrev kall (f : Value) : List Value → Sem Value := fun vs => PySem.call f vs
noncomputable def dCall (f : FL) (ds : List EDen) : EDen := fun ε σ => match dL ds ε σ with
  | some (xs, σ) => f xs σ
  | none => none
/-- a method of a built-in type: what the receiver must be, and the call -/
structure MS (g : Gl) (n : Nat) (name : Str) (id : String) (ok : AV → List AO → Bool) (f : FL) : Prop where
  get : ∀ φ W m σ s x v, φ.Ok g n → Inv g φ W m σ s → VR g W x v → ok x σ = true → ∀ (pl : Sem Bool) (Q : Value × List Value → Shared → Prop) (E : Value → Shared → Prop), Q (.builtin id, [v]) s → wpAny (model g.prog g.w) φ.A (getMethod v name pl) Q E s
  call : OpL g n (kall (.builtin id)) f
noncomputable def dMeth (ok : AV → List AO → Bool) (f : FL) (o : EDen) (ds : List EDen) : EDen := fun ε σ => match o ε σ with
  | some (x, σ) => (match ok x σ with
    | true => (match dL ds ε σ with
      | some (xs, σ) => f (x :: xs) σ
      | none => none)
    | false => none)
  | none => none
section
variable {g : Gl} {n : Nat} {c : FC}
theorem nameB {φ : Fx} {env : Env} {W : Wd} {m ml : Str → Option Value} {ε : Rε} {σ : List AO} {s : Shared} {x : Str} {pos : Pos} {v : Value} {Q E : Value → Shared → Prop} (P : Pre g n c φ env W m ml ε σ s)
    (hv : nsIn g.K mainGlobals x = some none) (hb : bootBuiltins x = some v) (hn : x ≠ "__name__") (hk : c.cs.names.lookup x = some .globalImplicit) (hd : (x == ("__debug__" : Str)) = false) (q : Q v s) :
    wpAny (model g.prog g.w) φ.A (eval (.Name x pos) env) Q E s := by
  have T := P.inv.top P.ok
  have X := P.inv.kin P.ok
  refine Name_function_global (by rw [P.eok.scope]; exact P.eok.good.kind) (by unfold Env.kindOf; rw [P.eok.scope]; exact hk) (loadGlobal_builtin (mg := g.mg) (mb := g.mb) (by rw [P.eok.globals]; exact T.g) (mg_none_of X T.g hv) (by rw [P.eok.builtins]; exact T.b) ((T.builtins x hn).trans hb) q) hd
theorem ES.callB {x : Str} {xp pos : Pos} {e : Expr} {es : List Expr} {ds : List EDen} {id : String} {f : FL} (hf : OpL g n (kall (.builtin id)) f) (hL : EsL g n c (e :: es) ds)
    (hv : nsIn g.K mainGlobals x = some none) (hb : bootBuiltins x = some (.builtin id)) (hn : x ≠ "__name__") (hk : c.cs.names.lookup x = some .globalImplicit) (hd : (x == ("__debug__" : Str)) = false) :
    ES g n c (.Call (.Name x xp) (e :: es) [] pos) (dCall f ds) := by
  refine ⟨?_⟩; intro φ env W m ml ε σ s y σ' P hd' Q E q
  unfold dCall at hd'
  split at hd'
  · rename_i xs σ₁ h1
    refine Call_ (nameB P hv hb hn hk hd ?_)
    cases hL with
    | cons h he r =>
      refine PyProof.Rows.callWith_builtin1 (EsL.run (.cons h he r) P h1 fun vs W' s' I' E' V' => ?_) (he _ _) (r.plain _ _)
      exact hf _ _ _ _ _ _ _ _ _ P.ok I' V' hd' _ _ fun v W'' s'' I'' E'' V'' => q _ _ _ I'' (E'.trans E'') V''
  · cases hd'
theorem ES.callT {x : Str} {xp pos : Pos} {e : Expr} {es : List Expr} {ds : List EDen} {T : String} {f : FL} (hf : OpL g n (kall (.type T)) f) (hL : EsL g n c (e :: es) ds)
    (hv : nsIn g.K mainGlobals x = some none) (hb : bootBuiltins x = some (.type T)) (hn : x ≠ "__name__") (hk : c.cs.names.lookup x = some .globalImplicit) (hd : (x == ("__debug__" : Str)) = false) :
    ES g n c (.Call (.Name x xp) (e :: es) [] pos) (dCall f ds) := by
  refine ⟨?_⟩; intro φ env W m ml ε σ s y σ' P hd' Q E q
  unfold dCall at hd'
  split at hd'
  · rename_i xs σ₁ h1
    refine Call_ (nameB P hv hb hn hk hd ?_)
    cases hL with
    | cons h he r =>
      refine PyProof.Rows.callWith_type1 (EsL.run (.cons h he r) P h1 fun vs W' s' I' E' V' => ?_) (he _ _) (r.plain _ _)
      exact hf _ _ _ _ _ _ _ _ _ P.ok I' V' hd' _ _ fun v W'' s'' I'' E'' V'' => q _ _ _ I'' (E'.trans E'') V''
  · cases hd'
/-- a def of the text's own, by its name -/
theorem ES.callF {x : Str} {xp pos : Pos} {e : Expr} {es : List Expr} {ds : List EDen} {a : Addr} {f : FL} (hf : OpL g n (kall (.ref a)) f) (hL : EsL g n c (e :: es) ds)
    (hv : nsIn g.K mainGlobals x = some (some (.ref a))) (hk : keepIn g.K (.ref a) = true) (hx : c.cs.names.lookup x = some .globalImplicit) (hd : (x == ("__debug__" : Str)) = false) :
    ES g n c (.Call (.Name x xp) (e :: es) [] pos) (dCall f ds) := by
  refine ⟨?_⟩; intro φ env W m ml ε σ s y σ' P hd' Q E q
  unfold dCall at hd'
  split at hd'
  · rename_i xs σ₁ h1
    refine Call_ (nameG_K P.inv.fr P.ok.kin (topRead_of P.ok.top) hv ?_ P.eok.globals (by rw [P.eok.scope]; exact P.eok.good.kind) (by unfold Env.kindOf; rw [P.eok.scope]; exact hx) hd)
    cases hL with
    | cons h he r =>
      refine callWith_K (K := g.K) P.ok.kin hk (EsL.run (.cons h he r) P h1 fun vs W' s' I' E' V' => ⟨I'.kin P.ok, ?_⟩) (he _ _) (r.plain _ _)
      exact hf _ _ _ _ _ _ _ _ _ P.ok I' V' hd' _ _ fun v W'' s'' I'' E'' V'' => q _ _ _ I'' (E'.trans E'') V''
  · cases hd'
theorem ES.callF0 {x : Str} {xp pos : Pos} {a : Addr} {f : FL} (hf : OpL g n (kall (.ref a)) f)
    (hv : nsIn g.K mainGlobals x = some (some (.ref a))) (hk : keepIn g.K (.ref a) = true) (hx : c.cs.names.lookup x = some .globalImplicit) (hd : (x == ("__debug__" : Str)) = false) :
    ES g n c (.Call (.Name x xp) [] [] pos) (dCall f []) := by
  refine ⟨?_⟩; intro φ env W m ml ε σ s y σ' P hd' Q E q
  refine Call_ (nameG_K P.inv.fr P.ok.kin (topRead_of P.ok.top) hv ?_ P.eok.globals (by rw [P.eok.scope]; exact P.eok.good.kind) (by unfold Env.kindOf; rw [P.eok.scope]; exact hx) hd)
  refine callWith_K0 (P.inv.kin P.ok) hk ?_
  exact hf _ _ _ _ _ _ _ _ _ P.ok P.inv .nil hd' _ _ q
theorem ES.meth {o : Expr} {name : Str} {apos pos : Pos} {e : Expr} {es : List Expr} {dO : EDen} {ds : List EDen} {id : String} {ok : AV → List AO → Bool} {f : FL} (hm : MS g n name id ok f) (ho : ES g n c o dO) (hL : EsL g n c (e :: es) ds)
    (hr : ∀ env, ∃ pl : Sem Bool, eval (.Call (.Attribute o name apos) (e :: es) [] pos) env = (do
      let ov ← eval o env
      standAt apos.atName
      let (f, first) ← holding [ov] (getMethod ov name pl)
      callWith pos f first (backTo pos (starEach (e :: es) env)) [])) : ES g n c (.Call (.Attribute o name apos) (e :: es) [] pos) (dMeth ok f dO ds) := by
  refine ⟨?_⟩; intro φ env W m ml ε σ s y σ' P hd' Q E q
  unfold dMeth at hd'
  split at hd'
  · rename_i x σ₁ h1
    split at hd'
    · rename_i hok
      split at hd'
      · rename_i xs σ₂ h2
        obtain ⟨pl, hr⟩ := hr env
        refine MethodCall_ (pl := pl) (ho.run _ _ _ _ _ _ _ _ _ _ P h1 _ _ fun v W₁ s₁ I₁ E₁ V₁ => hm.get _ _ _ _ _ _ _ P.ok I₁ V₁ hok pl _ _ ?_) hr
        cases hL with
        | cons h he r =>
          refine callWith_method1 (EsL.run (.cons h he r) (P.step I₁ E₁) h2 fun vs W' s' I' E' V' => ?_) (he _ _) (r.plain _ _)
          exact hm.call _ _ _ _ _ _ _ _ _ P.ok I' (.cons (V₁.ext E') V') hd' _ _ fun v W'' s'' I'' E'' V'' => q _ _ _ I'' ((E₁.trans E').trans E'') V''
      · cases hd'
    · cases hd'
  · cases hd'
end

/-! built-in functions -/
noncomputable def fLen : FL := fun xs σ => match xs with
  | [.str s] => (match lim s.length with
    | true => some (.int s.length, σ)
    | false => none)
  | [x] => (match items σ x with
    | some ys => (match lim ys.length with
      | true => some (.int ys.length, σ)
      | false => none)
    | none => none)
  | _ => none
noncomputable def fOrd : FL := fun xs σ => match xs with
  | [.str [a]] => some (.int a, σ)
  | _ => none
noncomputable def fMin : FL := fun xs σ => match xs with
  | [.int a, .int b] => some (.int (if b < a then b else a), σ)
  | _ => none
noncomputable def fAbs : FL := fun xs σ => match xs with
  | [.int a] => some (.int (if a < 0 then -a else a), σ)
  | _ => none
noncomputable def fInt : FL := fun xs σ => match xs with
  | [.int a] => some (.int a, σ)
  | _ => none
noncomputable def fList : FL := fun xs σ => match xs with
  | [x] => (match items σ x with
    | some ys => (match lim ys.length with
      | true => some (.ref σ.length, σ ++ [.list ys])
      | false => none)
    | none => none)
  | _ => none
section
variable {g : Gl} {n : Nat}
theorem lenS : OpL g n (kall (.builtin "len")) fLen := by
  intro φ W m σ s xs vs r σ' O I V hf Q E q
  unfold fLen at hf
  split at hf
  · split at hf
    · rename_i str _ hl
      cases hf
      cases V with | cons h t =>
      cases t
      cases h
      have := lim_le' hl
      have e : (Str.length ⟨str.toArray⟩) = str.length := by simp [Str.length]
      refine len_str (by rw [e]; omega) ?_
      rw [e]
      exact q.here I (.int _ _) _
    · cases hf
  · split at hf
    · rename_i ys hys
      split at hf
      · rename_i hl
        cases hf
        cases V with | cons h t =>
        cases t
        obtain ⟨a, us, rfl, h1, h2⟩ := items_rel O I h hys
        have := lim_le' hl
        have e : us.toArray.size = ys.length := by rw [List.size_toArray, h2.length]
        refine call_len_list h1 (by rw [e]; omega) ?_
        rw [e]
        exact q.here I (.int _ _) _
      · cases hf
    · cases hf
  · cases hf
theorem ordS : OpL g n (kall (.builtin "ord")) fOrd := by
  intro φ W m σ s xs vs r σ' O I V hf Q E q
  unfold fOrd at hf
  split at hf
  · cases hf
    cases V with | cons h t =>
    cases t
    cases h
    exact P.ord_of_char (q.here I (.int _ _) _)
  · cases hf
theorem minS : OpL g n (kall (.builtin "min")) fMin := by
  intro φ W m σ s xs vs r σ' O I V hf Q E q
  unfold fMin at hf
  split at hf
  · cases hf
    cases V with | cons h t =>
    cases t with | cons h' t =>
    cases t
    cases h
    cases h'
    exact min_two_N O.handled I.fr I.news fun h' tk F N => q _ W { s with heap := h', toks := tk } ⟨F, N, I.nodup, I.heap, I.gens, I.drawn, I.os⟩ (Ext.refl W) (.int _ _)
  · cases hf
theorem absS : OpL g n (kall (.builtin "abs")) fAbs := by
  intro φ W m σ s xs vs r σ' O I V hf Q E q
  unfold fAbs at hf
  split at hf
  · cases hf
    cases V with | cons h t =>
    cases t
    cases h
    exact call_abs_int fun u tk => q.here I (.int _ _) tk
  · cases hf
theorem intS : OpL g n (kall (.type "int")) fInt := by
  intro φ W m σ s xs vs r σ' O I V hf Q E q
  unfold fInt at hf
  split at hf
  · cases hf
    cases V with | cons h t =>
    cases t
    cases h
    exact call_int_int (q.here I (.int _ _) s.toks)
  · cases hf
theorem listS : OpL g n (kall (.type "list")) fList := by
  intro φ W m σ s xs vs r σ' O I V hf Q E q
  unfold fList at hf
  split at hf
  · split at hf
    · rename_i ys hys
      split at hf
      · rename_i hl
        cases hf
        cases V with | cons h t =>
        cases t
        obtain ⟨a, us, rfl, h1, h2⟩ := items_rel O I h hys
        refine list_copyK I.fr I.news h1 (fun D k h' F N hlt => ?_) (by rw [List.size_toArray, ← h2.length]; exact lim_le hl)
        obtain ⟨I'', E'', V''⟩ := I.addO (x := .list ys) F N hlt (.list h2) s.toks
        exact q _ _ _ I'' E'' V''
      · cases hf
    · cases hf
  · cases hf
end
end Rn

namespace Rn
open PySem PySem.Spec PySem.Calls PyProof.Rows PySem.W

/-! texts -/
noncomputable def strsOf : List AV → Option (List (List Nat))
  | [] => some []
  | .str s :: xs => (match strsOf xs with
    | some ts => some (s :: ts)
    | none => none)
  | _ :: _ => none
noncomputable def glue (sep : List Nat) : List (List Nat) → List Nat
  | [] => []
  | [s] => s
  | s :: t :: ss => s ++ (sep ++ glue sep (t :: ss))
noncomputable def total : List (List Nat) → Nat
  | [] => 0
  | s :: ss => s.length + (1 + total ss)
theorem glue_eq (sep : List Nat) : ∀ ts : List (List Nat), Str.join ⟨sep.toArray⟩ (ts.map fun s => (⟨s.toArray⟩ : Str)) = ⟨(glue sep ts).toArray⟩
  | [] => rfl
  | [s] => rfl
  | s :: t :: ss => by
    have ih := glue_eq sep (t :: ss)
    show (⟨s.toArray⟩ : Str) ++ ⟨sep.toArray⟩ ++ Str.join ⟨sep.toArray⟩ ((t :: ss).map fun s => (⟨s.toArray⟩ : Str)) = _
    rw [ih, str_cat, str_cat]
    simp [glue]
theorem total_eq : ∀ ts : List (List Nat), ((ts.map fun s => (⟨s.toArray⟩ : Str)).map Str.length).sum + ts.length = total ts
  | [] => rfl
  | s :: ss => by
    have ih := total_eq ss
    simp only [List.map_cons, List.sum_cons, List.length_cons, total, Str.length, List.size_toArray] at ih ⊢
    omega
theorem strsOf_rel {g : Gl} {rs : List Addr} {frz : Led} : ∀ {xs : List AV} {vs : List Value}, VRels g rs frz xs vs → ∀ {ts : List (List Nat)}, strsOf xs = some ts →
    ∃ l : List (Str × Tok), vs = strValues l ∧ l.map (·.1) = ts.map fun s => (⟨s.toArray⟩ : Str)
  | _, _, .nil, _, e => by cases e; exact ⟨[], rfl, rfl⟩
  | _, _, .cons h r, _, e => by
    unfold strsOf at e
    split at e
    · rename_i e'; cases e'
    · rename_i e'
      cases e'
      split at e
      · rename_i ts' hts
        cases e
        obtain ⟨l, h1, h2⟩ := strsOf_rel r hts
        cases h
        exact ⟨(_, _) :: l, by rw [h1]; rfl, by rw [List.map_cons, h2]; rfl⟩
      · cases e
    · cases e
theorem VRels.ofStrs {g : Gl} {rs : List Addr} {frz : Led} : ∀ (l : List (Str × Tok)), VRels g rs frz (l.map fun p => .str p.1.cps.toList) (strValues l)
  | [] => .nil
  | p :: l => .cons (by
      have : VRel g rs frz (.str p.1.cps.toList) (.str ⟨p.1.cps.toList.toArray⟩ p.2) := .str _ _
      rw [Array.toArray_toList] at this
      exact this) (VRels.ofStrs l)
noncomputable def okStr (x : AV) (_ : List AO) : Bool := match x with
  | .str _ => true
  | _ => false
noncomputable def fJoin : FL := fun xs σ => match xs with
  | [.str sep, x] => (match items σ x with
    | some ys => (match strsOf ys with
      | some ts => (match Nat.ble sep.length 16 && lim (total ts) with
        | true => some (.str (glue sep ts), σ)
        | false => none)
      | none => none)
    | none => none)
  | _ => none
noncomputable def fStrip : FL := fun xs σ => match xs with
  | [.str s, .str t] => (match lim s.length with
    | true => some (.str (Txt.stripChars ⟨s.toArray⟩ ⟨t.toArray⟩).cps.toList, σ)
    | false => none)
  | _ => none
noncomputable def fSplit : FL := fun xs σ => match xs with
  | [.str s, .str [ch]] => (match lim s.length with
    | true => some (.fl ((Txt.split ⟨s.toArray⟩ ⟨#[ch]⟩).map fun p => .str p.cps.toList), σ)
    | false => none)
  | _ => none
section
variable {g : Gl} {n : Nat}
theorem joinM : MS g n (Str.ofString "join") "str.join" okStr fJoin where
  get := by
    intro φ W m σ s x v O I V hok pl Q E q
    unfold okStr at hok
    split at hok
    · cases V; exact GM.join q
    · cases hok
  call := by
    intro φ W m σ s xs vs r σ' O I V hf Q E q
    unfold fJoin at hf
    split at hf
    · split at hf
      · rename_i ys hys
        split at hf
        · rename_i ts hts
          split at hf
          · rename_i hl
            cases hf
            cases V with | cons h t =>
            cases t with | cons h' t =>
            cases t
            obtain ⟨a, us, rfl, h1, h2⟩ := items_rel O I h' hys
            obtain ⟨l, rfl, h3⟩ := strsOf_rel h2 hts
            obtain ⟨h4, h5⟩ := Bool.and_eq_true_iff.mp hl
            cases h
            have h6 := Nat.le_of_ble_eq_true h4
            have h7 := lim_le' h5
            refine SC.join h1 h3 (joinOk_of_weight ?_ (by simpa [Str.length] using h6)) fun t' k => ?_
            · rw [List.length_map, total_eq]; omega
            · rw [show Txt.join _ _ = _ from PySem.StrLaws.glued_eq_join _ _, glue_eq]
              exact q.here I (.str _ _) _
          · cases hf
        · cases hf
      · cases hf
    · cases hf
theorem stripM : MS g n (Str.ofString "strip") "str.strip" okStr fStrip where
  get := by
    intro φ W m σ s x v O I V hok pl Q E q
    unfold okStr at hok
    split at hok
    · cases V; exact GM.strip q
    · cases hok
  call := by
    intro φ W m σ s xs vs r σ' O I V hf Q E q
    unfold fStrip at hf
    split at hf
    · split at hf
      · rename_i a b _ hl
        cases hf
        cases V with | cons h t =>
        cases t with | cons h' t =>
        cases t
        cases h
        cases h'
        refine SC.stripChars (fun t' k => ?_) (by simpa [Str.length] using lim_le hl)
        have := q.here I (v := .str ⟨(Txt.stripChars ⟨a.toArray⟩ ⟨b.toArray⟩).cps.toList.toArray⟩ t') (.str _ _) k
        rw [Array.toArray_toList] at this
        exact this
      · cases hf
    · cases hf
theorem splitM : MS g n (Str.ofString "split") "str.split" okStr fSplit where
  get := by
    intro φ W m σ s x v O I V hok pl Q E q
    unfold okStr at hok
    split at hok
    · cases V; exact GM.split q
    · cases hok
  call := by
    intro φ W m σ s xs vs r σ' O I V hf Q E q
    unfold fSplit at hf
    split at hf
    · split at hf
      · rename_i a ch _ hl
        cases hf
        cases V with | cons h t =>
        cases t with | cons h' t =>
        cases t
        cases h
        cases h'
        refine KSpl.split1 I.fr I.news rfl (fun D l h' k e _ F N hlt => ?_) (by have := lim_le' hl; simp only [Str.length, List.size_toArray]; rw [sizeLine_eq]; omega)
        obtain ⟨I', E'⟩ := I.addF F N hlt k
        refine q _ _ _ I' E' (.fl ⟨0, .inl (.head _)⟩ ?_)
        rw [show (⟨[ch].toArray⟩ : Str) = ⟨#[ch]⟩ from rfl] at e
        rw [← e, List.map_map]
        exact VRels.ofStrs l
      · cases hf
    · cases hf

/-! lists that are own -/
noncomputable def okOwn (x : AV) (σ : List AO) : Bool := match x with
  | .ref i => (match σ[i]? with
    | some (.list _) => true
    | _ => false)
  | _ => false
noncomputable def fAppend : FL := fun xs σ => match xs with
  | [.ref i, x] => (match σ[i]? with
    | some (.list ys) => (match lim ys.length with
      | true => some (.none, σ.set i (.list (ys ++ [x])))
      | false => none)
    | _ => none)
  | _ => none
noncomputable def fExtend : FL := fun xs σ => match xs with
  | [.ref i, x] => (match σ[i]? with
    | some (.list ys) => (match items σ x with
      | some zs => (match lim (ys.length + zs.length) with
        | true => some (.none, σ.set i (.list (ys ++ zs)))
        | false => none)
      | none => none)
    | _ => none)
  | _ => none
noncomputable def fInsert : FL := fun xs σ => match xs with
  | [.ref i, .int k, x] => (match σ[i]? with
    | some (.list ys) => (match natOf k with
      | some k => (match Nat.ble k ys.length && lim ys.length with
        | true => some (.none, σ.set i (.list (ys.take k ++ x :: ys.drop k)))
        | false => none)
      | none => none)
    | _ => none)
  | _ => none
theorem own_list {φ : Fx} {W : Wd} {m : Str → Option Value} {σ : List AO} {s : Shared} (I : Inv g φ W m σ s) {i : Nat} {v : Value} (h : VR g W (.ref i) v) {ys : List AV} (e : σ[i]? = some (.list ys)) :
    ∃ a vs k, v = .ref a ∧ W.own[i]? = some (a, PySem.W.listOf vs.toArray k) ∧ s.heap.get? a = some (PySem.W.listOf vs.toArray k) ∧ VRs g W ys vs := by
  cases h with
  | ref h =>
    obtain ⟨b, o, h1, h2, h3, h4⟩ := I.own e
    rw [h] at h2
    cases h2
    cases h4 with
    | list r => exact ⟨_, _, _, rfl, h1, h3, r⟩
theorem items_get {φ : Fx} {W : Wd} {m : Str → Option Value} {σ : List AO} {s : Shared} (O : φ.Ok g n) (I : Inv g φ W m σ s) {x : AV} {v : Value} (h : VR g W x v) {zs : List AV} (hz : items σ x = some zs) :
    ∃ b ws k, v = .ref b ∧ s.heap.get? b = some (PySem.W.listOf (List.toArray ws) k) ∧ VRs g W zs ws := by
  cases h with
  | fl h r => cases hz; obtain ⟨k2, ho⟩ := h; exact ⟨_, _, k2, rfl, I.has O ho, r.up⟩
  | ref h =>
    simp only [items] at hz
    split at hz
    · rename_i hy'
      cases hz
      obtain ⟨b, ws, k2, e, _, h5, h6⟩ := own_list I (.ref h) hy'
      exact ⟨b, ws, k2, e, h5, h6⟩
    · cases hz
  | _ => cases hz
theorem ownGet {name : Str} {id : String} (hs : Slot "list" name id) (ht : typeOf (.builtin id) = pure (.type "method_descriptor")) :
    ∀ φ W m σ s x v, φ.Ok g n → Inv g φ W m σ s → VR g W x v → okOwn x σ = true → ∀ (pl : Sem Bool) (Q : Value × List Value → Shared → Prop) (E : Value → Shared → Prop), Q (.builtin id, [v]) s → wpAny (model g.prog g.w) φ.A (getMethod v name pl) Q E s := by
  intro φ W m σ s x v O I V hok pl Q E q
  unfold okOwn at hok
  split at hok
  · split at hok
    · rename_i i _ ys hy
      obtain ⟨a, vs, k, rfl, h1, h2, h3⟩ := own_list I V hy
      exact kl_method I.news (List.mem_append_left _ (List.mem_of_getElem? h1)) hs ht q
    · cases hok
  · cases hok
theorem appendM : MS g n (Str.ofString "append") "list.append" okOwn fAppend where
  get := ownGet PySem.F.slot_list_append PySem.F.type_list_append
  call := by
    intro φ W m σ s xs vs r σ' O I V hf Q E q
    unfold fAppend at hf
    split at hf
    · rename_i i x
      split at hf
      · rename_i ys hy
        split at hf
        · rename_i hl
          cases hf
          cases V with | cons h t =>
          cases t with | cons h' t =>
          cases t
          obtain ⟨a, us, k, rfl, h1, h2, h3⟩ := own_list I h hy
          refine append_K I.fr I.news (upd_of I.nodup h1) (fun h'' F N => ?_) (by rw [List.size_toArray, ← h3.length]; exact lim_le hl)
          obtain ⟨I', E'⟩ := I.setO h1 F N (x := .list (ys ++ [x])) (by
            rw [List.push_toArray]
            exact .list (h3.append (.cons h' .nil))) s.toks
          exact q _ _ _ I' E' .none
        · cases hf
      · cases hf
    · cases hf
theorem extendM : MS g n (Str.ofString "extend") "list.extend" okOwn fExtend where
  get := ownGet PySem.F.slot_list_extend PySem.F.type_list_extend
  call := by
    intro φ W m σ s xs vs r σ' O I V hf Q E q
    unfold fExtend at hf
    split at hf
    · rename_i i x
      split at hf
      · rename_i ys hy
        split at hf
        · rename_i zs hz
          split at hf
          · rename_i hl
            cases hf
            cases V with | cons h t =>
            cases t with | cons h' t =>
            cases t
            obtain ⟨a, us, k, rfl, h1, h2, h3⟩ := own_list I h hy
            obtain ⟨b, ws, k2, rfl, h5, h6⟩ := items_get O I h' hz
            have hl' := lim_le' hl
            have e1 := h3.length
            have e2 := h6.length
            have tl : ¬(!us.toArray.isEmpty && Builtin.List.listTooLong (us.toArray.size + ws.toArray.size)) = true := by
              have : Builtin.List.listTooLong (us.toArray.size + ws.toArray.size) = false := by
                unfold Builtin.List.listTooLong
                simp only [List.size_toArray, decide_eq_false_iff_not]
                rw [sizeLine_eq]; omega
              rw [this]; simp
            refine call_meets PySem.F.slot_list_extend ⟨_, h2, rfl⟩ PySem.F.entry_list_extend (PySem.F.args_list_extend_2 _ _) (PySem.AutoSeq1.list_extend_list_list_0 a us.toArray k b ws.toArray k2 tl (by simp only [List.size_toArray]; rw [sizeLine_eq]; omega) (by simp only [List.size_toArray]; rw [sizeLine_eq]; omega)) ⟨h2, h5, ?_⟩
            obtain ⟨I', E'⟩ := I.updO h1 (f := Obj.mapSeq fun y => y ++ ws.toArray) (mapSeq_list _ _ _) rfl (x := .list (ys ++ zs)) (by
              have e : us.toArray ++ ws.toArray = (us ++ ws).toArray := by simp
              rw [e]
              exact .list (h3.append h6)) s.toks
            exact q _ _ _ I' E' .none
          · cases hf
        · cases hf
      · cases hf
    · cases hf
theorem insertM : MS g n (Str.ofString "insert") "list.insert" okOwn fInsert where
  get := ownGet PySem.F.slot_list_insert PySem.F.type_list_insert
  call := by
    intro φ W m σ s xs vs r σ' O I V hf Q E q
    unfold fInsert at hf
    split at hf
    · rename_i i k₀ x
      split at hf
      · rename_i ys hy
        split at hf
        · rename_i k hk
          split at hf
          · rename_i hl
            cases hf
            cases V with | cons h t =>
            cases t with | cons h' t =>
            cases t with | cons h'' t =>
            cases t
            obtain ⟨a, us, j, rfl, h1, h2, h3⟩ := own_list I h hy
            cases h'
            obtain ⟨rfl, hk'⟩ := natOf_eq hk
            obtain ⟨h4, h5⟩ := Bool.and_eq_true_iff.mp hl
            have h6 := Nat.le_of_ble_eq_true h4
            have h7 := lim_le h5
            have e1 := h3.length
            refine kl_insert I.fr I.news (by simp [Builtin.List.listFitsIndex]; omega) rfl (upd_of I.nodup h1) (by simpa [← e1] using h7) fun hp F N => ?_
            obtain ⟨I', E'⟩ := I.setO h1 F N (x := .list (ys.take k ++ x :: ys.drop k)) (by
              refine .list ?_
              unfold kl_ins
              have e : (if (k : Int) < 0 then ((k : Int) + (us.length : Int)).toNat else min (k : Int).toNat us.length) = k := by
                rw [if_neg (by omega)]; simp; omega
              simp only [e]
              exact (h3.take k).append (.cons h'' (h3.drop k))) s.toks
            exact q _ _ _ I' E' .none
          · cases hf
        · cases hf
      · cases hf
    · cases hf
end
end Rn

namespace Rn
open PySem PySem.Spec PySem.Calls PyProof.Rows PySem.W

structure SPre (g : Gl) (n : Nat) (c : FC) (φ : Fx) (W : Wd) (m : Str → Option Value) (ε : Rε) (σ : List AO) (s : Shared) : Prop where
  ok : φ.Ok g n
  eok : EnvOk c φ.env
  loc : φ.env.locals = φ.L
  inv : Inv g φ W m σ s
  er : EnvR g c φ.env W m ε
theorem SPre.pre {g : Gl} {n : Nat} {c : FC} {φ : Fx} {W : Wd} {m : Str → Option Value} {ε : Rε} {σ : List AO} {s : Shared} (P : SPre g n c φ W m ε σ s) : Pre g n c φ φ.env W m m ε σ s := ⟨P.ok, P.eok, P.inv, .inl ⟨P.loc, rfl⟩, P.er⟩
theorem SPre.step {g : Gl} {n : Nat} {c : FC} {φ : Fx} {W W' : Wd} {m m' : Str → Option Value} {ε ε' : Rε} {σ σ' : List AO} {s s' : Shared} (P : SPre g n c φ W m ε σ s) (I : Inv g φ W' m' σ' s') (er : EnvR g c φ.env W' m' ε') : SPre g n c φ W' m' ε' σ' s' :=
  ⟨P.ok, P.eok, P.loc, I, er⟩
noncomputable def FlowR (g : Gl) (W : Wd) : AF → Flow → Prop
  | .next, f => f = .next
  | .ret x, f => ∃ v, f = .ret v ∧ VR g W x v
noncomputable def SPost (g : Gl) (c : FC) (φ : Fx) (W : Wd) (fl : AF) (ε' : Rε) (σ' : List AO) (Q : Flow → Shared → Prop) : Prop :=
  ∀ f W' m' s', Inv g φ W' m' σ' s' → Ext W W' → EnvR g c φ.env W' m' ε' → FlowR g W' fl f → Q f s'
structure SS (g : Gl) (n : Nat) (c : FC) (st : Stmt) (d : SDen) : Prop where
  run : ∀ φ W m ε σ s fl ε' σ', SPre g n c φ W m ε σ s → d ε σ = some (fl, ε', σ') → ∀ (Q : Flow → Shared → Prop) (E : Value → Shared → Prop), SPost g c φ W fl ε' σ' Q → wpAny (model g.prog g.w) φ.A (exec st φ.env) Q E s
structure SSs (g : Gl) (n : Nat) (c : FC) (st : List Stmt) (d : SDen) : Prop where
  run : ∀ φ W m ε σ s fl ε' σ', SPre g n c φ W m ε σ s → d ε σ = some (fl, ε', σ') → ∀ (Q : Flow → Shared → Prop) (E : Value → Shared → Prop), SPost g c φ W fl ε' σ' Q → wpAny (model g.prog g.w) φ.A (execs st φ.env) Q E s
theorem SPost.ext {g : Gl} {c : FC} {φ : Fx} {W W' : Wd} {fl : AF} {ε' : Rε} {σ' : List AO} {Q : Flow → Shared → Prop} (q : SPost g c φ W fl ε' σ' Q) (e : Ext W W') : SPost g c φ W' fl ε' σ' Q :=
  fun f W'' m'' s'' I E er r => q f W'' m'' s'' I (e.trans E) er r

/-! a store into a name -/
noncomputable abbrev Tgt := Nat × Bool
noncomputable def dSto : Tgt → AV → Rε → List AO → Option (Rε × List AO)
  | (i, false), a, ε, σ => some (ε.set i (some a), σ)
  | (i, true), a, ε, σ => match ε[i]? with
    | some (some (.ref j)) => (match σ[j]? with
      | some (.cell _) => some (ε, σ.set j (.cell (some a)))
      | _ => none)
    | _ => none
section
variable {g : Gl} {n : Nat} {c : FC}
theorem names_inj (G : c.Good) {i j : Nat} {x y : Str} {a b : Bool} (hi : c.names[i]? = some (x, a)) (hj : c.names[j]? = some (y, b)) (h : i ≠ j) : y ≠ x := by
  rintro rfl
  have nd := G.nodup
  have h1 : (c.names.map (·.1))[i]? = some y := by simp [hi]
  have h2 : (c.names.map (·.1))[j]? = some y := by simp [hj]
  obtain ⟨l1, e1⟩ := List.getElem?_eq_some_iff.mp h1
  obtain ⟨l2, e2⟩ := List.getElem?_eq_some_iff.mp h2
  exact h ((List.getElem_inj nd).mp (e1.trans e2.symm))
theorem EnvR.set {env : Env} {W : Wd} {m : Str → Option Value} {ε : Rε} {i : Nat} {x : Str} {a : AV} {v : Value} (G : c.Good) (h : EnvR g c env W m ε) (hx : c.names[i]? = some (x, false)) (V : VR g W a v) :
    EnvR g c env W (fun y => if y = x then some v else m y) (ε.set i (some a)) := by
  intro k y b z hk hz
  by_cases e : i = k
  · subst e
    rw [hx] at hk
    cases hk
    have hl : i < ε.length := by
      have := (List.getElem?_eq_some_iff.mp hz).1
      simpa using this
    rw [List.getElem?_set_self hl] at hz
    cases hz
    exact ⟨v, by simp, V⟩
  · rw [List.getElem?_set_ne e] at hz
    have := h k y b z hk hz
    cases b with
    | true => exact this
    | false =>
      obtain ⟨u, h1, h2⟩ := this
      exact ⟨u, by show (if y = x then some v else m y) = some u; rw [if_neg (names_inj G hx hk e)]; exact h1, h2⟩
theorem sto {φ : Fx} {W : Wd} {m : Str → Option Value} {ε ε' : Rε} {σ σ' : List AO} {s : Shared} {t : Tgt} {x : Str} {a : AV} {v : Value} (P : SPre g n c φ W m ε σ s) (hx : c.names[t.1]? = some (x, t.2)) (V : VR g W a v) (hd : dSto t a ε σ = some (ε', σ'))
    {Q : Unit → Shared → Prop} {E : Value → Shared → Prop} (q : ∀ W' m' s', Inv g φ W' m' σ' s' → Ext W W' → EnvR g c φ.env W' m' ε' → Q () s') : wpAny (model g.prog g.w) φ.A (storeName φ.env x v) Q E s := by
  obtain ⟨i, b⟩ := t
  have hkind := P.ok.kind
  cases b with
  | false =>
    cases hd
    obtain ⟨h1, h2⟩ := P.eok.good.kinds i x false hx
    refine wpAny_storeName_local (m := m) (by unfold Env.kindOf; rw [P.eok.scope]; exact h1) (by rw [P.loc]; exact P.inv.fr.ns) (fun h' hn hs => ?_) (by rw [hkind]; rfl)
    rw [P.loc] at hn hs
    exact q W _ { s with heap := h', toks := s.toks + 1 } ⟨P.inv.fr.set hn hs, P.inv.news.set hs, P.inv.nodup, P.inv.heap, P.inv.gens, P.inv.drawn, P.inv.os⟩ (Ext.refl W) (P.er.set P.eok.good hx V)
  | true =>
    unfold dSto at hd
    simp only at hd
    split at hd
    · rename_i j hj
      split at hd
      · rename_i y hy
        cases hd
        obtain ⟨j', ca, h1, h2, h3⟩ := P.er i x true _ hx hj
        cases h1
        obtain ⟨h4, h5⟩ := P.eok.good.kinds i x true hx
        obtain ⟨b, o, h6, h7, h8, h9⟩ := P.inv.own hy
        rw [h3] at h7
        cases h7
        have hcell : ∃ w, o.data = .cell w := by
          cases h9 with
          | cell0 h => exact ⟨_, h⟩
          | cell1 h _ => exact ⟨_, h⟩
        obtain ⟨w, hw⟩ := hcell
        refine wpAny_storeName_cell (v₀ := w) (by exact hkind) (by unfold Env.kindOf; rw [P.eok.scope]; exact h4) h2 ⟨o, h8, hw⟩ fun h' hv hs => ?_
        obtain ⟨o', ho', hd'⟩ := hv
        have hm := P.inv.news (ca, o) (List.mem_append_left _ (List.mem_of_getElem? h6))
        obtain ⟨pre, post, e1, e2, e3, e4⟩ := (upd_of (o' := o') P.inv.nodup h6).split
        have N := P.inv.news
        unfold Wd.all at N
        rw [e1] at N
        have N' := news_set N e3 e4 hs ho'
        rw [← e2] at N'
        obtain ⟨I', E'⟩ := P.inv.setO h6 (P.inv.fr.change hs hm.2.1 hm.2.2) N' (x := .cell (some a)) (.cell1 hd' V) s.toks
        exact q _ _ _ I' E' (P.er.ext E')
      · cases hd
    · cases hd

/-! statements -/
noncomputable def dAsg (t : Tgt) (d : EDen) : SDen := fun ε σ => match d ε σ with
  | some (a, σ) => (match dSto t a ε σ with
    | some (ε, σ) => some (.next, ε, σ)
    | none => none)
  | none => none
theorem SS.asg {t : Tgt} {x : Str} {xp pos : Pos} {value : Expr} {d : EDen} (hx : c.names[t.1]? = some (x, t.2)) (hv : ES g n c value d) (hs : ∀ env, swapsWith value (some (.Name x xp)) pos.line env = pure false) : SS g n c (.Assign [.Name x xp] value pos) (dAsg t d) := by
  refine ⟨?_⟩; intro φ W m ε σ s fl ε' σ' P hd Q E q
  unfold dAsg at hd
  split at hd
  · rename_i a σ₁ h1
    split at hd
    · rename_i ε₁ σ₂ h2
      cases hd
      refine wpAny_Assign_Name (hv.run _ _ _ _ _ _ _ _ _ _ P.pre h1 _ _ fun v W' s' I' E' V' => ?_) (hs _)
      exact sto (P.step I' (P.er.ext E')) hx V' h2 fun W'' m'' s'' I'' E'' er => q _ _ _ _ I'' (E'.trans E'') er rfl
    · cases hd
  · cases hd
noncomputable def dStoL : List Tgt → List AV → Rε → List AO → Option (Rε × List AO)
  | [], [], ε, σ => some (ε, σ)
  | t :: ts, a :: as, ε, σ => match dSto t a ε σ with
    | some (ε, σ) => dStoL ts as ε σ
    | none => none
  | _, _, _, _ => none
inductive TgL (c : FC) : List Expr → List Tgt → Prop
  | nil : TgL c [] []
  | cons {x : Str} {p : Pos} {t : Tgt} {es : List Expr} {ts : List Tgt} : c.names[t.1]? = some (x, t.2) → TgL c es ts → TgL c (.Name x p :: es) (t :: ts)
theorem TgL.sto : ∀ {es : List Expr} {ts : List Tgt}, TgL c es ts → ∀ {φ : Fx} {W : Wd} {m : Str → Option Value} {ε ε' : Rε} {σ σ' : List AO} {s : Shared} {as : List AV} {vs : List Value}, SPre g n c φ W m ε σ s → VRs g W as vs → dStoL ts as ε σ = some (ε', σ') →
    ∀ {Q : Unit → Shared → Prop} {E : Value → Shared → Prop}, (∀ W' m' s', Inv g φ W' m' σ' s' → Ext W W' → EnvR g c φ.env W' m' ε' → Q () s') → wpAny (model g.prog g.w) φ.A (assignInOrder ((assignEach es φ.env).map (·.2)) vs) Q E s
  | _, _, .nil, φ, W, m, ε, ε', σ, σ', s, as, vs, P, V, hd, Q, E, q => by
    cases as with
    | nil => cases hd; cases V; exact assignInOrder_nil (q _ _ _ P.inv (Ext.refl W) P.er)
    | cons => cases hd
  | _, _, .cons hx r, φ, W, m, ε, ε', σ, σ', s, as, vs, P, V, hd, Q, E, q => by
    cases as with
    | nil => cases hd
    | cons a as =>
      unfold dStoL at hd
      split at hd
      · rename_i ε₁ σ₁ h1
        cases V with | cons V Vs =>
        refine assignInOrder_cons (assign_Name (Rn.sto P hx V h1 fun W' m' s' I' E' er => ?_))
        exact r.sto (P.step I' er) (Vs.ext E') hd fun W'' m'' s'' I'' E'' er' => q _ _ _ I'' (E'.trans E'') er'
      · cases hd
inductive NmL (c : FC) : List Str → List Tgt → Prop
  | nil : NmL c [] []
  | cons {x : Str} {t : Tgt} {es : List Str} {ts : List Tgt} : c.names[t.1]? = some (x, t.2) → NmL c es ts → NmL c (x :: es) (t :: ts)
theorem TgL.stoR : ∀ {ns : List Str} {ts : List Tgt}, NmL c ns ts → ∀ {φ : Fx} {W : Wd} {m : Str → Option Value} {ε ε' : Rε} {σ σ' : List AO} {s : Shared} {as : List AV} {vs : List Value}, SPre g n c φ W m ε σ s → VRs g W as vs → dStoL ts as ε σ = some (ε', σ') →
    ∀ {Q : Unit → Shared → Prop} {E : Value → Shared → Prop}, (∀ W' m' s', Inv g φ W' m' σ' s' → Ext W W' → EnvR g c φ.env W' m' ε' → Q () s') → wpAny (model g.prog g.w) φ.A (assignInOrder (ns.map fun n => bindName φ.env n) vs) Q E s
  | _, _, .nil, φ, W, m, ε, ε', σ, σ', s, as, vs, P, V, hd, Q, E, q => by
    cases as with
    | nil => cases hd; cases V; exact assignInOrder_nil (q _ _ _ P.inv (Ext.refl W) P.er)
    | cons => cases hd
  | _, _, .cons hx r, φ, W, m, ε, ε', σ, σ', s, as, vs, P, V, hd, Q, E, q => by
    cases as with
    | nil => cases hd
    | cons a as =>
      unfold dStoL at hd
      split at hd
      · rename_i ε₁ σ₁ h1
        cases V with | cons V Vs =>
        refine assignInOrder_cons (wpAny_bindName (Rn.sto P hx V h1 fun W' m' s' I' E' er => ?_))
        exact TgL.stoR r (P.step I' er) (Vs.ext E') hd fun W'' m'' s'' I'' E'' er' => q _ _ _ I'' (E'.trans E'') er'
      · cases hd
theorem VRels.reverse {rs : List Addr} {frz : Led} : ∀ {xs : List AV} {vs : List Value}, VRels g rs frz xs vs → VRels g rs frz xs.reverse vs.reverse
  | _, _, .nil => .nil
  | _, _, .cons h r => by rw [List.reverse_cons, List.reverse_cons]; exact r.reverse.append (.cons h .nil)
noncomputable def dAsT (rev : Bool) (ts : List Tgt) (d : EDen) : SDen := fun ε σ => match d ε σ with
  | some (.tup as, σ) => (match dStoL ts (if rev then as.reverse else as) ε σ with
    | some (ε, σ) => (match Nat.beq as.length ts.length with
      | true => some (.next, ε, σ)
      | false => none)
    | none => none)
  | _ => none
theorem assignEach_len : ∀ {es : List Expr} {ts : List Tgt}, TgL c es ts → ∀ env : Env, (assignEach es env).length = ts.length ∧ (assignEach es env).findIdx? (·.1) = none
  | _, _, .nil, env => ⟨rfl, rfl⟩
  | _, _, .cons (x := x) (p := p) (es := es) h r, env => by
    obtain ⟨h1, h2⟩ := assignEach_len r env
    have e : assignEach (.Name x p :: es) env = (false, assign (.Name x p) env) :: assignEach es env := rfl
    rw [e]
    refine ⟨by simp [h1], ?_⟩
    rw [List.findIdx?_cons]
    simp [h2]
/-- a, b = value -/
theorem SS.asT {elts : List Expr} {ts : List Tgt} {k : Nat} {tp pos : Pos} {value : Expr} {d : EDen} (hL : TgL c elts ts) (hv : ES g n c value d) (hs : ∀ env, swapsWithSole [.Tuple elts k tp] value pos.line env = pure false)
    (hw : ∀ env, env.scope = c.cs → swappedStores [.Tuple elts k tp] value env = pure none) : SS g n c (.Assign [.Tuple elts k tp] value pos) (dAsT false ts d) := by
  refine ⟨?_⟩; intro φ W m ε σ s fl ε' σ' P hd Q E q
  unfold dAsT at hd
  split at hd
  · rename_i as σ₁ h1
    split at hd
    · rename_i ε₁ σ₂ h2
      split at hd
      · rename_i hlen
        cases hd
        simp only [Bool.false_eq_true, if_false] at h2
        have hlen' := Nat.eq_of_beq_eq_true hlen
        refine Assign_Tuple (hv.run _ _ _ _ _ _ _ _ _ _ P.pre h1 _ _ fun v W' s' I' E' V' => ?_) (hs _) (hw _ P.eok.scope)
        obtain ⟨a, vs, rfl, h3, h4⟩ := tup_rel P.ok I' V'
        obtain ⟨h5, h6⟩ := assignEach_len hL φ.env
        refine unpackN_ I'.fr I'.news h3 P.ok.handled (by rw [h5, List.size_toArray, ← h4.length, hlen']) h6 fun h' F N => ?_
        have I'' : Inv g φ W' m σ₁ { s' with heap := h' } := ⟨F, N, I'.nodup, I'.heap, I'.gens, I'.drawn, I'.os⟩
        exact hL.sto (P.step I'' (P.er.ext E')) h4 h2 fun W'' m'' s'' I'' E'' er => q _ _ _ _ I'' (E'.trans E'') er rfl
      · cases hd
    · cases hd
  · cases hd
/-- a, b = p, q: stored from the last -/
theorem SS.asS {elts : List Expr} {names : List Str} {ts : List Tgt} {k : Nat} {tp pos : Pos} {value : Expr} {d : EDen} (hL : NmL c names.reverse ts) (hn : names.length = ts.length) (hv : ES g n c value d)
    (hs : ∀ env, swapsWithSole [.Tuple elts k tp] value pos.line env = pure false)
    (hw : ∀ env, env.scope = c.cs → swappedStores [.Tuple elts k tp] value env = pure (some names)) : SS g n c (.Assign [.Tuple elts k tp] value pos) (dAsT true ts d) := by
  refine ⟨?_⟩; intro φ W m ε σ s fl ε' σ' P hd Q E q
  unfold dAsT at hd
  split at hd
  · rename_i as σ₁ h1
    split at hd
    · rename_i ε₁ σ₂ h2
      split at hd
      · rename_i hlen
        cases hd
        simp only [if_true] at h2
        have hlen' := Nat.eq_of_beq_eq_true hlen
        refine Assign_Tuple_swapped (hv.run _ _ _ _ _ _ _ _ _ _ P.pre h1 _ _ fun v W' s' I' E' V' => ?_) (hs _) (hw _ P.eok.scope)
        obtain ⟨a, vs, rfl, h3, h4⟩ := tup_rel P.ok I' V'
        refine unpackItemsN_ I'.fr I'.news h3 P.ok.handled (by rw [hn, List.size_toArray, ← h4.length, hlen']) fun h' F N => ?_
        have I'' : Inv g φ W' m σ₁ { s' with heap := h' } := ⟨F, N, I'.nodup, I'.heap, I'.gens, I'.drawn, I'.os⟩
        exact TgL.stoR hL (P.step I'' (P.er.ext E')) h4.reverse h2 fun W'' m'' s'' I'' E'' er => q _ _ _ _ I'' (E'.trans E'') er rfl
      · cases hd
    · cases hd
  · cases hd
noncomputable def dRet (d : EDen) : SDen := fun ε σ => match d ε σ with
  | some (a, σ) => some (.ret a, ε, σ)
  | none => none
theorem SS.ret {e : Expr} {pos : Pos} {d : EDen} (h : ES g n c e d) : SS g n c (.Return (some e) pos) (dRet d) := by
  refine ⟨?_⟩; intro φ W m ε σ s fl ε' σ' P hd Q E q
  unfold dRet at hd
  split at hd
  · rename_i a σ₁ h1
    cases hd
    exact wpAny_Return_some (h.run _ _ _ _ _ _ _ _ _ _ P.pre h1 _ _ fun v W' s' I' E' V' => q _ _ _ _ I' E' (P.er.ext E') ⟨v, rfl, V'⟩)
  · cases hd
noncomputable def dExp (d : EDen) : SDen := fun ε σ => match d ε σ with
  | some (.none, σ) => some (.next, ε, σ)
  | _ => none
theorem SS.exp {e : Expr} {pos : Pos} {d : EDen} (h : ES g n c e d) (hs : ∀ env, swapsWith e none pos.line env = pure false) : SS g n c (.Expr e pos) (dExp d) := by
  refine ⟨?_⟩; intro φ W m ε σ s fl ε' σ' P hd Q E q
  unfold dExp at hd
  split at hd
  · rename_i σ₁ h1
    cases hd
    refine wpAny_Expr (h.run _ _ _ _ _ _ _ _ _ _ P.pre h1 _ _ fun v W' s' I' E' V' => ?_) ?_ (hs _)
    · cases V'
      exact q _ _ _ _ I' E' (P.er.ext E') rfl
    · unfold interactive; rw [P.ok.kind]; rfl
  · cases hd
noncomputable def dIfS (t : TDen) (a b : SDen) : SDen := fun ε σ => match t ε σ with
  | some (true, σ) => a ε σ
  | some (false, σ) => b ε σ
  | none => none
theorem SS.ifs {t : Expr} {a b : List Stmt} {pos : Pos} {dt : TDen} {da db : SDen} (ht : TS g n c t dt) (ha : SSs g n c a da) (hb : SSs g n c b db) : SS g n c (.If t a b pos) (dIfS dt da db) := by
  refine ⟨?_⟩; intro φ W m ε σ s fl ε' σ' P hd Q E q
  unfold dIfS at hd
  split at hd
  · rename_i σ₁ h1
    refine wpAny_If (ht.run _ _ _ _ _ _ _ _ _ _ P.pre h1 _ _ fun W' s' I' E' => ?_)
    simp only [if_true]
    exact ha.run _ _ _ _ _ _ _ _ _ (P.step I' (P.er.ext E')) hd _ _ (q.ext E')
  · rename_i σ₁ h1
    refine wpAny_If (ht.run _ _ _ _ _ _ _ _ _ _ P.pre h1 _ _ fun W' s' I' E' => ?_)
    exact hb.run _ _ _ _ _ _ _ _ _ (P.step I' (P.er.ext E')) hd _ _ (q.ext E')
  · cases hd
noncomputable def dEnd : SDen := fun ε σ => some (.next, ε, σ)
noncomputable def dSeq (a b : SDen) : SDen := fun ε σ => match a ε σ with
  | some (.next, ε, σ) => b ε σ
  | some (.ret x, ε, σ) => some (.ret x, ε, σ)
  | none => none
noncomputable def dNo : SDen := fun _ _ => none
theorem SSs.no {st : List Stmt} : SSs g n c st dNo := by
  refine ⟨?_⟩; intro φ W m ε σ s fl ε' σ' P hd
  cases hd
theorem SSs.nil : SSs g n c [] dEnd := by
  refine ⟨?_⟩; intro φ W m ε σ s fl ε' σ' P hd Q E q
  cases hd
  exact wpAny_execs_nil (q _ _ _ _ P.inv (Ext.refl W) P.er rfl)
theorem SSs.cons {st : Stmt} {rest : List Stmt} {a b : SDen} (ha : SS g n c st a) (hb : SSs g n c rest b) : SSs g n c (st :: rest) (dSeq a b) := by
  refine ⟨?_⟩; intro φ W m ε σ s fl ε' σ' P hd Q E q
  unfold dSeq at hd
  split at hd
  · rename_i ε₁ σ₁ h1
    refine wpAny_execs_cons (ha.run _ _ _ _ _ _ _ _ _ P h1 _ _ fun f W' m' s' I' E' er r => ?_)
    cases r
    exact hb.run _ _ _ _ _ _ _ _ _ (P.step I' er) hd _ _ (q.ext E')
  · rename_i x ε₁ σ₁ h1
    cases hd
    refine wpAny_execs_cons (ha.run _ _ _ _ _ _ _ _ _ P h1 _ _ fun f W' m' s' I' E' er r => ?_)
    obtain ⟨v, rfl, V⟩ := r
    exact q _ _ _ _ I' E' er ⟨v, rfl, V⟩
  · cases hd

/-! x += e, x -= e (ints) -/
noncomputable def OpI (g : Gl) (n : Nat) (t : Value → Value → Sem Value) (f : F2) : Prop := Op2 g n t f
theorem iaddS : Op2 g n (inplaceOp .Add) (fun x y σ => match x, y with | .int a, .int b => some (.int (a + b), σ) | _, _ => none) := by
  intro φ W m σ s x y v u r σ' O I hx hy hf Q E q
  simp only at hf
  split at hf
  · cases hf; cases hx; cases hy
    exact PyProof.Rows.iadd_int (q.here I (.int _ _) _)
  · cases hf
noncomputable def fIadd : F2 := fun x y σ => match x, y with | .int a, .int b => some (.int (a + b), σ) | _, _ => none
noncomputable def dAug (i : Nat) (f : F2) (d : EDen) : SDen := fun ε σ => match ε[i]? with
  | some (some a) => (match d ε σ with
    | some (b, σ) => (match f a b σ with
      | some (r, σ) => some (.next, ε.set i (some r), σ)
      | none => none)
    | none => none)
  | _ => none
theorem SS.aug {i : Nat} {x : Str} {xp pos : Pos} {op : Operator} {value : Expr} {f : F2} {d : EDen} (hf : Op2 g n (inplaceOp op) f) (hx : c.names[i]? = some (x, false)) (hv : ES g n c value d) : SS g n c (.AugAssign (.Name x xp) op value pos) (dAug i f d) := by
  refine ⟨?_⟩; intro φ W m ε σ s fl ε' σ' P hd Q E q
  unfold dAug at hd
  split at hd
  · rename_i a ha
    split at hd
    · rename_i b σ₁ h1
      split at hd
      · rename_i r σ₂ h2
        cases hd
        obtain ⟨v, h3, h4⟩ := P.er i x false _ hx ha
        obtain ⟨h5, h6⟩ := P.eok.good.kinds i x false hx
        refine wpAny_AugAssign_Name (wpAny_loadName_local (m := m) (by exact P.ok.kind) (by unfold Env.kindOf; rw [P.eok.scope]; exact h5) (by rw [P.loc]; exact P.inv.fr.ns) h3 ?_)
        refine hv.run _ _ _ _ _ _ _ _ _ _ P.pre h1 _ _ fun u W' s' I' E' V' => ?_
        refine hf _ _ _ _ _ _ _ _ _ _ _ P.ok I' (h4.ext E') V' h2 _ _ fun z W'' s'' I'' E'' V'' => ?_
        have E3 := E'.trans E''
        exact sto (t := (i, false)) (P.step I'' (P.er.ext E3)) hx V'' rfl fun W3 m3 s3 I3 E4 er => q _ _ _ _ I3 (E3.trans E4) er rfl
      · cases hd
    · cases hd
  · cases hd
/-! while -/
noncomputable def dWh : Nat → TDen → SDen → SDen
  | 0, _, _, _, _ => none
  | k + 1, t, b, ε, σ => match t ε σ with
    | some (true, σ) => (match b ε σ with
      | some (.next, ε, σ) => dWh k t b ε σ
      | some (.ret x, ε, σ) => some (.ret x, ε, σ)
      | none => none)
    | some (false, σ) => some (.next, ε, σ)
    | none => none
theorem SS.wh (k : Nat) {t : Expr} {body : List Stmt} {pos : Pos} {dt : TDen} {db : SDen} (ht : TS g n c t dt) (hb : SSs g n c body db) : SS g n c (.While t body [] pos) (dWh k dt db) := by
  refine ⟨?_⟩; intro φ W m ε σ s fl ε' σ' P hd Q E q
  refine wpAny_While (codeAny_whileLoop (fun k s' => ∃ W' m' ε₁ σ₁, SPre g n c φ W' m' ε₁ σ₁ s' ∧ Ext W W' ∧ dWh k dt db ε₁ σ₁ = some (fl, ε', σ')) ?_ k ⟨W, m, ε, σ, P, Ext.refl W, hd⟩)
  rintro k s' ⟨W', m', ε₁, σ₁, P', E', hd'⟩
  cases k with
  | zero => cases hd'
  | succ k =>
    unfold dWh at hd'
    split at hd'
    · rename_i σ₂ h1
      refine ht.run _ _ _ _ _ _ _ _ _ _ P'.pre h1 _ _ fun W₂ s₂ I₂ E₂ => ?_
      simp only [if_true]
      split at hd'
      · rename_i ε₃ σ₃ h2
        refine hb.run _ _ _ _ _ _ _ _ _ (P'.step I₂ (P'.er.ext E₂)) h2 _ _ fun f W₃ m₃ s₃ I₃ E₃ er r => ?_
        cases r
        exact ⟨k, Nat.lt_succ_self k, W₃, m₃, ε₃, σ₃, P'.step I₃ er, (E'.trans E₂).trans E₃, hd'⟩
      · rename_i x ε₃ σ₃ h2
        cases hd'
        refine hb.run _ _ _ _ _ _ _ _ _ (P'.step I₂ (P'.er.ext E₂)) h2 _ _ fun f W₃ m₃ s₃ I₃ E₃ er r => ?_
        obtain ⟨v, rfl, V⟩ := r
        exact q _ _ _ _ I₃ ((E'.trans E₂).trans E₃) er ⟨v, rfl, V⟩
      · cases hd'
    · rename_i σ₂ h1
      cases hd'
      refine ht.run _ _ _ _ _ _ _ _ _ _ P'.pre h1 _ _ fun W₂ s₂ I₂ E₂ => ?_
      exact wpAny_execs_nil (q _ _ _ _ I₂ (E'.trans E₂) (P'.er.ext E₂) rfl)
    · cases hd'
end
end Rn

namespace Rn
open PySem PySem.Spec PySem.Calls PyProof.Rows PySem.W

noncomputable def ExtT (W W' : Wd) : Prop := (∃ ks, W'.ks = W.ks ++ ks) ∧ (∃ nz, W'.frz = nz ++ W.frz)
theorem ExtT.refl (W : Wd) : ExtT W W := ⟨⟨[], by simp⟩, ⟨[], rfl⟩⟩
theorem Ext.t {W W' : Wd} (h : Ext W W') : ExtT W W' := ⟨h.1, h.2.1⟩
theorem ExtT.ext {W W' : Wd} (h : ExtT W W') (e : W'.tmp = W.tmp) : Ext W W' := ⟨h.1, h.2, e⟩
theorem ExtT.trans {W W' W'' : Wd} (a : ExtT W W') (b : ExtT W' W'') : ExtT W W'' := by
  obtain ⟨⟨k, hk⟩, ⟨n, hn⟩⟩ := a
  obtain ⟨⟨k', hk'⟩, ⟨n', hn'⟩⟩ := b
  exact ⟨⟨k ++ k', by rw [hk', hk, List.append_assoc]⟩, ⟨n' ++ n, by rw [hn', hn, List.append_assoc]⟩⟩
theorem ExtT.grows {W W' : Wd} (a : ExtT W W') : Grows W.ks W'.ks W.frz W'.frz := by
  have e : Ext W ⟨W'.own, W'.frz, W.tmp⟩ := ⟨a.1, a.2, rfl⟩
  exact e.grows
theorem EnvR.grow {g : Gl} {c : FC} {env : Env} {W W' : Wd} {ml : Str → Option Value} {ε : List (Option AV)} (e : ExtT W W') (h : EnvR g c env W ml ε) : EnvR g c env W' ml ε := by
  have E : Ext W ⟨W'.own, W'.frz, W.tmp⟩ := ⟨e.1, e.2, rfl⟩
  exact h.ext (W' := ⟨W'.own, W'.frz, W.tmp⟩) E

/-- the value that a turn stores: plain, or a pair of the moment -/
noncomputable def TV (g : Gl) (pl : Bool) (W : Wd) (h : Heap) (a : AV) (v : Value) : Prop :=
  if pl then VR g W a v else ∃ T vs xs, a = .tup xs ∧ v = .ref T ∧ IsTup h T vs.toArray ∧ VRs g W xs vs

section
variable {g : Gl} {n : Nat} {c : FC} {φ : Fx} {m : Str → Option Value} {σ : List AO} {s : Shared}
theorem objs_at {h : Heap} : ∀ (KT : List Addr), (∀ b ∈ KT, ∃ o, h.get? b = some o) → ∃ T : Led, keys T = KT ∧ ∀ p ∈ T, h.get? p.1 = some p.2
  | [], _ => ⟨[], rfl, fun _ h => nomatch h⟩
  | b :: KT, H => by
    obtain ⟨o, ho⟩ := H b (List.mem_cons_self ..)
    obtain ⟨T, h1, h2⟩ := objs_at KT fun b hb => H b (List.mem_cons_of_mem _ hb)
    refine ⟨(b, o) :: T, by simp [keys] at h1 ⊢; exact h1, fun p hp => ?_⟩
    rcases List.mem_cons.mp hp with rfl | hp
    · exact ho
    · exact h2 p hp
theorem keys_split {own P T R frz : Led} : keys (own ++ ((P ++ (T ++ R)) ++ frz)) = keys own ++ (keys P ++ (keys T ++ keys R) ++ keys frz) := by simp [keys]
/-- the heap moved at the iterator's own objects alone -/
theorem Inv.moveT {own frz P T R T' : Led} {wr : List Addr} {h' : Heap} (I : Inv g φ ⟨own, frz, P ++ (T ++ R)⟩ m σ s) (hwr : ∀ b ∈ wr, b ∈ keys T) (hk : ∀ b o, b ∉ wr → s.heap.get? b = some o → h'.get? b = some o)
    (hT : T' = [] ∨ (keys T' = keys T ∧ ∀ p ∈ T', h'.get? p.1 = some p.2)) (t : Nat) : Inv g φ ⟨own, frz, P ++ (T' ++ R)⟩ m σ { s with heap := h', toks := t } := by
  have nd := I.nodup
  unfold Wd.all at nd
  simp only at nd
  rw [keys_split] at nd
  have off : ∀ p, p ∈ own ∨ p ∈ P ∨ p ∈ R ∨ p ∈ frz → p.1 ∉ wr := by
    intro p hp hw
    have h1 := hwr _ hw
    have nd1 := List.nodup_append.mp nd
    have nd2 := List.nodup_append.mp nd1.2.1
    have nd3 := List.nodup_append.mp nd2.1
    have nd4 := List.nodup_append.mp nd3.2.1
    have mk : ∀ {l : Led}, p ∈ l → p.1 ∈ keys l := fun h => List.mem_map.mpr ⟨p, h, rfl⟩
    rcases hp with hp | hp | hp | hp
    · exact nd1.2.2 _ (mk hp) _ (List.mem_append_left _ (List.mem_append_right _ (List.mem_append_left _ h1))) rfl
    · exact nd3.2.2 _ (mk hp) _ (List.mem_append_left _ h1) rfl
    · exact nd4.2.2 _ h1 _ (mk hp) rfl
    · exact nd2.2.2 _ (List.mem_append_right _ (List.mem_append_left _ h1)) _ (mk hp) rfl
  have memT : ∀ b ∈ keys T, b ≠ φ.L ∧ φ.h₀.get? b = none := by
    intro b hb
    obtain ⟨p, hp, rfl⟩ := List.mem_map.mp hb
    exact (I.news p (List.mem_append_right _ (List.mem_append_left _ (List.mem_append_right _ (List.mem_append_left _ hp))))).2
  refine ⟨⟨I.fr.ns.at' fun o e => hk _ o (fun hw => (memT _ (hwr _ hw)).1 rfl) e, fun b o e => hk b o (fun hw => ?_) (I.fr.keep b o e), I.fr.above⟩, fun p hp => ?_, ?_, I.heap, I.gens, I.drawn, I.os⟩
  · have := (memT _ (hwr _ hw)).2
    rw [e] at this
    cases this
  · have old : p ∈ own ∨ p ∈ P ∨ p ∈ R ∨ p ∈ frz → h'.get? p.1 = some p.2 ∧ p.1 ≠ φ.L ∧ φ.h₀.get? p.1 = none := fun hp => by
      have h2 := I.news p (by unfold Wd.all; simp only [List.mem_append]; rcases hp with h | h | h | h <;> simp [h])
      exact ⟨hk _ _ (off p hp) h2.1, h2.2⟩
    unfold Wd.all at hp
    simp only [List.mem_append] at hp
    rcases hp with hp | (hp | hp | hp) | hp
    · exact old (.inl hp)
    · exact old (.inr (.inl hp))
    · rcases hT with rfl | ⟨h1, h2⟩
      · cases hp
      · exact ⟨h2 p hp, memT _ (h1 ▸ List.mem_map.mpr ⟨p, hp, rfl⟩)⟩
    · exact old (.inr (.inr (.inl hp)))
    · exact old (.inr (.inr (.inr hp)))
  · unfold Wd.all
    simp only
    rw [keys_split]
    rcases hT with rfl | ⟨h1, h2⟩
    · refine List.Nodup.sublist ?_ nd
      exact List.Sublist.append (List.Sublist.refl _) (List.Sublist.append (List.Sublist.append (List.Sublist.refl _) (List.Sublist.append (List.nil_sublist _) (List.Sublist.refl _))) (List.Sublist.refl _))
    · rw [h1]; exact nd
theorem Inv.dropT {own frz P T R : Led} (I : Inv g φ ⟨own, frz, P ++ (T ++ R)⟩ m σ s) : Inv g φ ⟨own, frz, P ++ R⟩ m σ s := by
  have := I.moveT (T' := []) (wr := []) (h' := s.heap) (fun _ h => nomatch h) (fun _ _ _ e => e) (.inl rfl) s.toks
  simpa using this

/-- the way through an iterable -/
structure Trn (g : Gl) (n : Nat) (pl : Bool) (target : Expr) (it : Value) (J : Nat → Led → Prop) (get : Nat → List AO → Option (Option AV)) (W₀ : Wd) : Prop where
  turn : ∀ φ own frz P T R m σ s k r, φ.Ok g n → Inv g φ ⟨own, frz, P ++ (T ++ R)⟩ m σ s → J k T → ExtT W₀ ⟨own, frz, P ++ (T ++ R)⟩ → get k σ = some r → ∀ (Qn : Shared → Prop) (Qs : Value → Shared → Prop) (E : Value → Shared → Prop),
    (r = none → ∀ s', Inv g φ ⟨own, frz, P ++ R⟩ m σ s' → Qn s') →
    (∀ x, r = some x → ∀ v T' s', Inv g φ ⟨own, frz, P ++ (T' ++ R)⟩ m σ s' → J (k + 1) T' → TV g pl ⟨own, frz, P ++ (T' ++ R)⟩ s'.heap x v → Qs v s') →
    wpAny (model g.prog g.w) φ.A (pyNext it) (fun r s₁ => match r with | none => Qn s₁ | some v => wpAny (model g.prog g.w) φ.A (letOwnedTupleGo target it v) (fun _ s₂ => Qs v s₂) E s₁) E s
  self : ∀ φ own frz P T R m σ s k, φ.Ok g n → Inv g φ ⟨own, frz, P ++ (T ++ R)⟩ m σ s → J k T → ExtT W₀ ⟨own, frz, P ++ (T ++ R)⟩ → ∀ (Q E : Value → Shared → Prop), Q it s → wpAny (model g.prog g.w) φ.A (pyIter it) Q E s

theorem turnK {own frz P T R : Led} {target : Expr} {It : Addr} {fp wr : List Addr} {N k : Nat} {Pp Md : Nat → Value → Heap → Prop} {St : Nat → Heap → Prop} (W : KTurns g.prog g.w φ.A target It fp wr N Pp Md St)
    (I : Inv g φ ⟨own, frz, P ++ (T ++ R)⟩ m σ s) (st : St k s.heap) (hwr : ∀ b ∈ wr, b ∈ keys T) (hobj : ∀ h, St (k + 1) h → ∀ b ∈ keys T, ∃ o, h.get? b = some o) (hN : k ≤ N)
    {Qn : Shared → Prop} {Qs : Value → Shared → Prop} {E : Value → Shared → Prop} (hn : k = N → ∀ s', Inv g φ ⟨own, frz, P ++ R⟩ m σ s' → Qn s')
    (hs : k < N → ∀ v T' h' tk, Inv g φ ⟨own, frz, P ++ (T' ++ R)⟩ m σ { s with heap := h', toks := tk } → keys T' = keys T → (∀ p ∈ T', h'.get? p.1 = some p.2) → St (k + 1) h' → Pp k v h' → Qs v { s with heap := h', toks := tk }) :
    wpAny (model g.prog g.w) φ.A (pyNext (.ref It)) (fun r s₁ => match r with | none => Qn s₁ | some v => wpAny (model g.prog g.w) φ.A (letOwnedTupleGo target (.ref It) v) (fun _ s₂ => Qs v s₂) E s₁) E s := by
  by_cases hlt : k < N
  · refine W.item k _ _ _ hlt st fun v h₁ tk₁ hMd hk₁ => ?_
    refine W.go k v _ _ _ hMd fun h₂ hP st₂ hk₂ => ?_
    obtain ⟨T', h1, h2⟩ := objs_at (keys T) (hobj h₂ st₂)
    exact hs hlt v T' h₂ tk₁ (I.moveT hwr (fun b o hb e => hk₂ b o hb (hk₁ b o hb e)) (.inr ⟨h1, h2⟩) tk₁) h1 h2 st₂ hP
  · have e : k = N := by omega
    subst e
    refine W.done _ _ _ st fun h₁ tk₁ hk₁ => hn rfl _ ?_
    have := I.moveT (T' := []) hwr hk₁ (.inl rfl) tk₁
    simpa using this

noncomputable def JK (KT : List Addr) (src : Led) (N : Nat) (St : Nat → Heap → Prop) (k : Nat) (T : Led) : Prop := keys T = KT ∧ k ≤ N ∧ ∃ h, St k h ∧ (∀ p ∈ T, h.get? p.1 = some p.2) ∧ ∀ p ∈ src, h.get? p.1 = some p.2
theorem TV.mono {pl : Bool} {W W' : Wd} {h : Heap} {a : AV} {v : Value} (e : ExtT W W') (t : TV g pl W h a v) : TV g pl W' h a v := by
  cases pl with
  | true => exact VRel.mono t e.grows
  | false =>
    obtain ⟨T, vs, xs, h1, h2, h3, h4⟩ := t
    exact ⟨T, vs, xs, h1, h2, h3, h4.mono e.grows⟩
theorem Trn.at {target : Expr} {It : Addr} {fp wr : List Addr} {N k : Nat} {Pp Md : Nat → Value → Heap → Prop} {St : Nat → Heap → Prop} (A : KTurns g.prog g.w φ.A target It fp wr N Pp Md St)
    {KT : List Addr} {src own frz P T R : Led} {W₀ : Wd} {h : Heap} (hfp : ∀ b ∈ fp, b ∈ KT ∨ ∃ o, (b, o) ∈ src) (hsrc : ∀ q ∈ src, Has g W₀.frz q.1 q.2) (O : φ.Ok g n) (I : Inv g φ ⟨own, frz, P ++ (T ++ R)⟩ m σ s) (hT : keys T = KT)
    (st : St k h) (hTo : ∀ p ∈ T, h.get? p.1 = some p.2) (hso : ∀ p ∈ src, h.get? p.1 = some p.2) (X : ExtT W₀ ⟨own, frz, P ++ (T ++ R)⟩) : St k s.heap := by
  refine A.frame k h _ st fun b hb o e => ?_
  rcases hfp b hb with hb | ⟨o', hb⟩
  · rw [← hT] at hb
    obtain ⟨p, hp, rfl⟩ := List.mem_map.mp hb
    rw [hTo p hp] at e
    cases e
    exact (I.news p (List.mem_append_right _ (List.mem_append_left _ (List.mem_append_right _ (List.mem_append_left _ hp))))).1
  · rw [hso _ hb] at e
    cases e
    exact I.has O ((hsrc _ hb).mono X.grows.2)
theorem Trn.ofK {pl : Bool} {target : Expr} {It : Addr} {fp wr : List Addr} {N : Nat} {Pp Md : Nat → Value → Heap → Prop} {St : Nat → Heap → Prop} (W : ∀ A : Around, A.handled = none → KTurns g.prog g.w A target It fp wr N Pp Md St)
    (hself : ∀ A : Around, A.handled = none → ∀ (i : Nat) (s : Shared) (Q E : Value → Shared → Prop), St i s.heap → Q (.ref It) s → wpAny (model g.prog g.w) A (pyIter (.ref It)) Q E s) {KT : List Addr} {src : Led} {W₀ : Wd} {xs : List AV} (hwr : ∀ b ∈ wr, b ∈ KT) (hfp : ∀ b ∈ fp, b ∈ KT ∨ ∃ o, (b, o) ∈ src) (hsrc : ∀ q ∈ src, Has g W₀.frz q.1 q.2) (hobj : ∀ i h, St i h → ∀ b ∈ KT, ∃ o, h.get? b = some o) (hN : N = xs.length)
    (hP : ∀ i v h, i < N → Pp i v h → ∃ a, xs[i]? = some a ∧ TV g pl W₀ h a v) : Trn g n pl target (.ref It) (JK KT src N St) (fun k _ => some xs[k]?) W₀ where
  turn := by
    rintro φ own frz P T R m σ s k r O I ⟨hT, hkN, h, st, hTo, hso⟩ X hr Qn Qs E qn qs
    have hr' : xs[k]? = r := Option.some.inj hr
    subst hr'
    have A := W φ.A O.handled
    have st' : St k s.heap := Trn.at A hfp hsrc O I hT st hTo hso X
    refine turnK A I st' (fun b hb => hT ▸ hwr b hb) (fun h' st' b hb => hobj _ h' st' b (hT ▸ hb)) hkN (fun e s' I' => qn ?_ s' I') fun hlt v T' h' tk I' h1 h2 st₂ hp => ?_
    · subst e; simp [hN]
    · obtain ⟨a, ha, tv⟩ := hP k v h' hlt hp
      refine qs a ha v T' _ I' ⟨h1.trans hT, hlt, h', st₂, h2, fun q hq => I'.has O ((hsrc q hq).mono X.grows.2)⟩ (tv.mono ?_)
      exact ⟨X.1, X.2⟩
  self := by
    rintro φ own frz P T R m σ s k O I ⟨hT, hkN, h, st, hTo, hso⟩ X Q E q
    exact hself φ.A O.handled k s Q E (Trn.at (W φ.A O.handled) hfp hsrc O I hT st hTo hso X) q

/-! iterables -/
inductive Itr where
  | vals (xs : List AV)
  | own (i : Nat)
  | zip (x y : AV)
noncomputable def zipA : List AV → List AV → List AV
  | x :: r, y :: q => .tup [x, y] :: zipA r q
  | _, _ => []
noncomputable def Itr.get : Itr → Nat → List AO → Option (Option AV)
  | .vals xs, k, _ => some xs[k]?
  | .own i, k, σ => match σ[i]? with
    | some (.list ys) => some ys[k]?
    | _ => none
  | .zip x y, k, σ => match items σ x with
    | some xs => (match items σ y with
      | some ys => (match Nat.ble k xs.length with
        | true => (match Nat.ble k ys.length with
          | true => some (zipA xs ys)[k]?
          | false => none)
        | false => none)
      | none => none)
    | none => none
noncomputable abbrev IDen := Rε → List AO → Option (Itr × List AO)
structure IS (g : Gl) (n : Nat) (c : FC) (pl : Bool) (target e : Expr) (d : IDen) : Prop where
  run : ∀ φ env W m ml ε σ s G σ', Pre g n c φ env W m ml ε σ s → d ε σ = some (G, σ') → ∀ (Q E : Value → Shared → Prop),
    (∀ it own frz T J s', Inv g φ ⟨own, frz, T ++ W.tmp⟩ m σ' s' → ExtT W ⟨own, frz, T ++ W.tmp⟩ → J 0 T → Trn g n pl target it J G.get ⟨own, frz, T ++ W.tmp⟩ → Q it s') →
    wpAny (model g.prog g.w) φ.A (eval e env) (fun xv s₁ => wpAny (model g.prog g.w) φ.A (pyIter xv) Q E s₁) E s
end
end Rn

namespace Rn
open PySem PySem.Spec PySem.Calls PyProof.Rows PySem.W

section
variable {g : Gl} {n : Nat} {c : FC} {φ : Fx} {m : Str → Option Value} {σ : List AO} {s : Shared}
theorem Inv.grow {W : Wd} {h' : Heap} (I : Inv g φ W m σ s) (hk : ∀ b o, s.heap.get? b = some o → h'.get? b = some o) (t : Nat) : Inv g φ W m σ { s with heap := h', toks := t } :=
  ⟨I.fr.keeps hk, I.news.grown hk, I.nodup, I.heap, I.gens, I.drawn, I.os⟩
theorem Inv.addTs {W : Wd} {h' : Heap} {T : Led} (I : Inv g φ W m σ s) (hk : ∀ b o, s.heap.get? b = some o → h'.get? b = some o) (hT : ∀ p ∈ T, h'.get? p.1 = some p.2 ∧ s.heap.objs.size ≤ p.1) (nd : (keys T).Nodup) (t : Nat) :
    Inv g φ ⟨W.own, W.frz, T ++ W.tmp⟩ m σ { s with heap := h', toks := t } := by
  have N : News φ.h₀ φ.L h' (T ++ W.all) := fun p hp => by
    rcases List.mem_append.mp hp with hp | hp
    · obtain ⟨h1, h2⟩ := hT p hp
      exact ⟨h1, fun e => Nat.lt_irrefl _ (Nat.lt_of_lt_of_le (e ▸ I.fr.ns.lt) h2), ktu_new I.fr h2⟩
    · exact ⟨hk _ _ (I.news p hp).1, (I.news p hp).2⟩
  refine I.perm (W' := ⟨W.own, W.frz, T ++ W.tmp⟩) (I.fr.keeps hk) N ?_ ?_ I.heap t
  · show (List.map (·.1) (T ++ W.all)).Nodup
    rw [List.map_append]
    refine List.nodup_append.mpr ⟨nd, I.nodup, fun a ha b hb e => ?_⟩
    obtain ⟨p, hp, rfl⟩ := List.mem_map.mp ha
    obtain ⟨q, hq, rfl⟩ := List.mem_map.mp hb
    have h1 := (hT p hp).2
    have h2 := I.lt hq
    rw [e] at h1
    exact Nat.lt_irrefl _ (Nat.lt_of_lt_of_le h2 h1)
  · show (T ++ (W.own ++ (W.tmp ++ W.frz))).Perm (W.own ++ ((T ++ W.tmp) ++ W.frz))
    have : T ++ (W.own ++ (W.tmp ++ W.frz)) = T ++ W.own ++ (W.tmp ++ W.frz) := by simp
    rw [this]
    have e2 : W.own ++ ((T ++ W.tmp) ++ W.frz) = W.own ++ T ++ (W.tmp ++ W.frz) := by simp
    rw [e2]
    exact List.Perm.append_right _ List.perm_append_comm
theorem getsV {W : Wd} {xs : List AV} {vs : List Value} (V : VRs g W xs vs) {i : Nat} {v : Value} (h : vs.toArray[i]? = some v) : ∃ a, xs[i]? = some a ∧ VR g W a v := by
  have h' : vs[i]? = some v := by simpa using h
  cases hx : xs[i]? with
  | some a =>
    obtain ⟨u, h1, h2⟩ := V.get hx
    rw [h'] at h1
    cases h1
    exact ⟨a, rfl, h2⟩
  | none =>
    have h1 := List.getElem?_eq_none_iff.mp hx
    have h2 := (List.getElem?_eq_some_iff.mp h').1
    rw [V.length] at h1
    exact absurd h2 (Nat.not_lt.mpr h1)
/-- the way through a tuple or a list that stays -/
theorem iterFl (O : φ.Ok g n) {W : Wd} (I : Inv g φ W m σ s) {target : Expr} {a : Addr} {vs : List Value} {xs : List AV} (h : Sq g W.frz "list" a vs) (V : VRs g W xs vs) {Q E : Value → Shared → Prop}
    (q : ∀ it own frz T J s', Inv g φ ⟨own, frz, T ++ W.tmp⟩ m σ s' → ExtT W ⟨own, frz, T ++ W.tmp⟩ → J 0 T → Trn g n true target it J (Itr.vals xs).get ⟨own, frz, T ++ W.tmp⟩ → Q it s') :
    wpAny (model g.prog g.w) φ.A (pyIter (.ref a)) Q E s := by
  obtain ⟨k, ho⟩ := h
  have hl : s.heap.IsList a vs.toArray := ⟨_, I.has O ho, rfl, k, rfl⟩
  have hne : a ≠ s.heap.objs.size := Nat.ne_of_lt (Heap.lt_size (I.has O ho))
  refine wpAny_pyIter_list hl ?_
  have I' := I.addTs (T := [(s.heap.objs.size, { cls := .type "list_iterator", data := .fields #[.ref a, .int 0 0] })]) (h' := s.heap.push { cls := .type "list_iterator", data := .fields #[.ref a, .int 0 0] }) (fun b o e => Heap.get?_push_of_some _ e)
    (fun p hp => by rw [List.mem_singleton.mp hp]; exact ⟨Heap.get?_push_size _ rfl, Nat.le_refl _⟩) (by simp [keys]) s.toks
  refine q _ W.own W.frz _ (JK [s.heap.objs.size] [(a, { cls := .type "list", data := .seq vs.toArray k })] vs.toArray.size _) _ I' (ExtT.refl W) ⟨rfl, Nat.zero_le _, s.heap.push { cls := .type "list_iterator", data := .fields #[.ref a, .int 0 0] }, ⟨⟨_, Heap.get?_push_size _ rfl, rfl, rfl⟩, hl.at fun o e => Heap.get?_push_of_some _ e⟩, fun p hp => ?_, fun p hp => ?_⟩
    (Trn.ofK (fun A hh => KTurns.ofWalks (Walks.list hh s.heap.objs.size a hne vs.toArray) fun i v s Q E st q => letGo_listiter st.1 q) (fun A hh => (Walks.list hh s.heap.objs.size a hne vs.toArray).self) (fun b hb => hb) (fun b hb => ?_) (fun p hp => ?_) (fun i h st b hb => ?_) (by simp [V.length]) fun i v h _ hp => ?_)
  · rw [List.mem_singleton.mp hp]; exact Heap.get?_push_size _ rfl
  · rw [List.mem_singleton.mp hp]; exact Heap.get?_push_of_some _ (I.has O ho)
  · rcases List.mem_cons.mp hb with e | hb
    · exact .inl (by simp [e])
    · rw [List.mem_singleton.mp hb]; exact .inr ⟨_, List.mem_singleton.mpr rfl⟩
  · rw [List.mem_singleton.mp hp]; exact ho
  · rw [List.mem_singleton.mp hb]
    obtain ⟨o, ho, _⟩ := st.1
    exact ⟨o, ho⟩
  · exact getsV V hp
theorem iterTup (O : φ.Ok g n) {W : Wd} (I : Inv g φ W m σ s) {target : Expr} {a : Addr} {vs : List Value} {xs : List AV} (h : Sq g W.frz "tuple" a vs) (V : VRs g W xs vs) {Q E : Value → Shared → Prop}
    (q : ∀ it own frz T J s', Inv g φ ⟨own, frz, T ++ W.tmp⟩ m σ s' → ExtT W ⟨own, frz, T ++ W.tmp⟩ → J 0 T → Trn g n true target it J (Itr.vals xs).get ⟨own, frz, T ++ W.tmp⟩ → Q it s') :
    wpAny (model g.prog g.w) φ.A (pyIter (.ref a)) Q E s := by
  obtain ⟨k, ho⟩ := h
  have hl : s.heap.IsTuple a vs.toArray := ⟨_, I.has O ho, rfl, k, rfl⟩
  have hne : a ≠ s.heap.objs.size := Nat.ne_of_lt (Heap.lt_size (I.has O ho))
  refine wpAny_pyIter_tuple hl ?_
  have I' := I.addTs (T := [(s.heap.objs.size, { cls := .type "tuple_iterator", data := .fields #[.ref a, .int 0 0] })]) (h' := s.heap.push { cls := .type "tuple_iterator", data := .fields #[.ref a, .int 0 0] }) (fun b o e => Heap.get?_push_of_some _ e)
    (fun p hp => by rw [List.mem_singleton.mp hp]; exact ⟨Heap.get?_push_size _ rfl, Nat.le_refl _⟩) (by simp [keys]) s.toks
  refine q _ W.own W.frz _ (JK [s.heap.objs.size] [(a, { cls := .type "tuple", data := .seq vs.toArray k })] vs.toArray.size _) _ I' (ExtT.refl W) ⟨rfl, Nat.zero_le _, s.heap.push { cls := .type "tuple_iterator", data := .fields #[.ref a, .int 0 0] }, ⟨⟨_, Heap.get?_push_size _ rfl, rfl, rfl⟩, hl.at fun o e => Heap.get?_push_of_some _ e⟩, fun p hp => ?_, fun p hp => ?_⟩
    (Trn.ofK (fun A hh => KTurns.ofWalks (Walks.tuple hh s.heap.objs.size a hne vs.toArray) fun i v s Q E st q => letGo_tupleiter st.1 q) (fun A hh => (Walks.tuple hh s.heap.objs.size a hne vs.toArray).self) (fun b hb => hb) (fun b hb => ?_) (fun p hp => ?_) (fun i h st b hb => ?_) (by simp [V.length]) fun i v h _ hp => ?_)
  · rw [List.mem_singleton.mp hp]; exact Heap.get?_push_size _ rfl
  · rw [List.mem_singleton.mp hp]; exact Heap.get?_push_of_some _ (I.has O ho)
  · rcases List.mem_cons.mp hb with e | hb
    · exact .inl (by simp [e])
    · rw [List.mem_singleton.mp hb]; exact .inr ⟨_, List.mem_singleton.mpr rfl⟩
  · rw [List.mem_singleton.mp hp]; exact ho
  · rw [List.mem_singleton.mp hb]
    obtain ⟨o, ho, _⟩ := st.1
    exact ⟨o, ho⟩
  · exact getsV V hp
/-- an own list: read anew at each turn -/
theorem iterOwn (_ : φ.Ok g n) {W : Wd} (I : Inv g φ W m σ s) {target : Expr} {i : Nat} {v : Value} (h : VR g W (.ref i) v) {ys : List AV} (e : σ[i]? = some (.list ys)) {Q E : Value → Shared → Prop}
    (q : ∀ it own frz T J s', Inv g φ ⟨own, frz, T ++ W.tmp⟩ m σ s' → ExtT W ⟨own, frz, T ++ W.tmp⟩ → J 0 T → Trn g n true target it J (Itr.own i).get ⟨own, frz, T ++ W.tmp⟩ → Q it s') :
    wpAny (model g.prog g.w) φ.A (pyIter v) Q E s := by
  cases h with
  | ref hr =>
    rename_i a
    obtain ⟨a', o, h1, h2, h3, h4⟩ := I.own e
    rw [hr] at h2
    cases h2
    cases h4 with
    | list V =>
      rename_i vs k
      have hl : s.heap.IsList a vs.toArray := ⟨_, h3, rfl, k, rfl⟩
      have hne : a ≠ s.heap.objs.size := Nat.ne_of_lt (Heap.lt_size h3)
      refine wpAny_pyIter_list hl ?_
      have I' := I.addTs (T := [(s.heap.objs.size, { cls := .type "list_iterator", data := .fields #[.ref a, .int 0 0] })]) (h' := s.heap.push { cls := .type "list_iterator", data := .fields #[.ref a, .int 0 0] }) (fun b o e => Heap.get?_push_of_some _ e)
        (fun p hp => by rw [List.mem_singleton.mp hp]; exact ⟨Heap.get?_push_size _ rfl, Nat.le_refl _⟩) (by simp [keys]) s.toks
      refine q _ W.own W.frz _ (fun k T => ∃ o : Obj, T = [(s.heap.objs.size, o)] ∧ o.cls = .type "list_iterator" ∧ o.data = .fields #[.ref a, .int k 0]) _ I' (ExtT.refl W) ⟨_, rfl, rfl, rfl⟩ ⟨?_, ?_⟩
      rotate_left
      · rintro φ' own frz P T R m' σ' s' k' O' I₂ ⟨oT, rfl, hc, hd⟩ X Q E q
        exact wpAny_pyIter_listiter (l := a) (i := k') ⟨oT, (I₂.news (s.heap.objs.size, oT) (List.mem_append_right _ (List.mem_append_left _ (List.mem_append_right _ (List.mem_append_left _ (List.mem_singleton.mpr rfl)))))).1, hc, hd⟩ q
      rintro φ' own frz P T R m' σ' s' k' r O' I₂ ⟨oT, rfl, hc, hd⟩ X hr' Qn Qs E qn qs
      unfold Itr.get at hr'
      simp only at hr'
      split at hr'
      · rename_i zs hzs
        cases hr'
        obtain ⟨a', o', k1, k2, k3, k4⟩ := I₂.own hzs
        have k5 : a = a' := by
          have e1 := X.grows.1 i a hr
          have e2 : Wd.ks ⟨own, frz, P ++ ([(s.heap.objs.size, oT)] ++ R)⟩ = keys own := rfl
          rw [e2] at k2
          have e3 : (keys own)[i]? = some a := e1
          rw [k2] at e3
          cases e3
          rfl
        subst k5
        cases k4 with
        | list V' =>
          rename_i us k''
          have hl' : s'.heap.IsList a us.toArray := ⟨_, k3, rfl, k'', rfl⟩
          have hit : s'.heap.IsListIter s.heap.objs.size a k' := ⟨oT, (I₂.news (s.heap.objs.size, oT) (List.mem_append_right _ (List.mem_append_left _ (List.mem_append_right _ (List.mem_append_left _ (List.mem_singleton.mpr rfl)))))).1, hc, hd⟩
          by_cases hN : k' ≤ us.toArray.size
          · refine turnK (KTurns.ofWalks (Walks.list O'.handled s.heap.objs.size a hne us.toArray) fun i v s Q E st q => letGo_listiter st.1 q) I₂ ⟨hit, hl'⟩ (fun b hb => hb) (fun h' st b hb => ?_) hN (fun e s'' I'' => qn ?_ s'' I'') fun hlt v T' h' tk I₃ h1 h2 st₂ hp => ?_
            · rw [List.mem_singleton.mp hb]
              obtain ⟨o, ho, _⟩ := st.1
              exact ⟨o, ho⟩
            · apply List.getElem?_eq_none_iff.mpr
              rw [V'.length]
              rw [List.size_toArray] at e
              exact Nat.le_of_eq e.symm
            · obtain ⟨a', h5, h6⟩ := getsV V' (i := k') (v := v) hp
              refine qs a' h5 v T' _ I₃ ?_ ?_
              · cases T' with
                | nil => exact absurd h1 (by simp [keys])
                | cons p T' =>
                  cases T' with
                  | cons => exact absurd h1 (by simp [keys])
                  | nil =>
                    obtain ⟨pa, po⟩ := p
                    have h1' : pa = s.heap.objs.size := by
                      have := List.cons.inj h1
                      exact this.1
                    subst h1'
                    obtain ⟨oo, g1, g2, g3⟩ := st₂.1
                    have := h2 _ (List.mem_singleton.mpr rfl)
                    have this' : h'.get? s.heap.objs.size = some po := this
                    rw [g1] at this'
                    cases this'
                    exact ⟨_, rfl, g2, g3⟩
              · exact h6
          · have hnone : us.toArray[k']? = none := by
              rw [Array.getElem?_eq_none_iff]
              omega
            refine wpAny_pyNext_list_end O'.handled hit hl' hnone fun h' he => qn ?_ _ ?_
            · apply List.getElem?_eq_none_iff.mpr
              rw [V'.length]
              rw [List.size_toArray] at hN
              omega
            · have := I₂.moveT (T' := []) (wr := [s.heap.objs.size]) (h' := h') (fun b hb => hb) (fun b o hb e => he b o (fun h => hb (by simp [h])) e) (.inl rfl) s'.toks
              simpa using this
      · cases hr'
end
end Rn

namespace Rn
open PySem PySem.Spec PySem.Calls PyProof.Rows PySem.W

noncomputable def enumA : Nat → List AV → List AV
  | _, [] => []
  | i, x :: r => .tup [.int i, x] :: enumA (i + 1) r
noncomputable def rngA : Nat → Nat → List AV
  | _, 0 => []
  | i, k + 1 => .int i :: rngA (i + 1) k
theorem enumA_get : ∀ (xs : List AV) (a i : Nat) {x : AV}, xs[i]? = some x → (enumA a xs)[i]? = some (.tup [.int ((a + i : Nat) : Int), x])
  | [], _, _, _, h => by simp at h
  | y :: r, a, 0, x, h => by
    have e : y = x := by simpa using h
    subst e
    rfl
  | y :: r, a, i + 1, x, h => by
    have h' : r[i]? = some x := by simpa using h
    have q := enumA_get r (a + 1) i h'
    have e : a + 1 + i = a + (i + 1) := by omega
    rw [e] at q
    simpa [enumA] using q
theorem enumA_length : ∀ (xs : List AV) (a : Nat), (enumA a xs).length = xs.length
  | [], _ => rfl
  | _ :: r, a => congrArg (· + 1) (enumA_length r (a + 1))
theorem zipA_length : ∀ xs ys : List AV, (zipA xs ys).length = min xs.length ys.length
  | [], _ => by simp [zipA]
  | _ :: _, [] => by simp [zipA]
  | _ :: r, _ :: q => by
    simp only [zipA, List.length_cons, zipA_length r q]
    omega
theorem zipA_get : ∀ (xs ys : List AV) (i : Nat) {x y : AV}, xs[i]? = some x → ys[i]? = some y → (zipA xs ys)[i]? = some (.tup [x, y])
  | [], _, _, _, _, h, _ => by simp at h
  | _ :: _, [], _, _, _, _, h => by simp at h
  | x' :: r, y' :: q, 0, x, y, h, h' => by
    have e : x' = x := by simpa using h
    have e' : y' = y := by simpa using h'
    subst e e'
    rfl
  | x' :: r, y' :: q, i + 1, x, y, h, h' => by
    have g := zipA_get r q i (x := x) (y := y) (by simpa using h) (by simpa using h')
    simpa [zipA] using g
theorem rngA_length : ∀ (k a : Nat), (rngA a k).length = k
  | 0, _ => rfl
  | k + 1, a => congrArg (· + 1) (rngA_length k (a + 1))
theorem rngA_get : ∀ (k a i : Nat), i < k → (rngA a k)[i]? = some (.int ((a + i : Nat) : Int))
  | 0, _, _, h => absurd h (Nat.not_lt_zero _)
  | k + 1, a, 0, _ => rfl
  | k + 1, a, i + 1, h => by
    have q := rngA_get k (a + 1) i (Nat.lt_of_succ_lt_succ h)
    have e : a + 1 + i = a + (i + 1) := by omega
    rw [e] at q
    simpa [rngA] using q

noncomputable def dIt (d : EDen) : IDen := fun ε σ => match d ε σ with
  | some (.fl xs, σ) => some (.vals xs, σ)
  | some (.tup xs, σ) => some (.vals xs, σ)
  | some (.ref i, σ) => (match σ[i]? with
    | some (.list _) => some (.own i, σ)
    | _ => none)
  | _ => none
noncomputable def asciiB : List Nat → Bool
  | [] => true
  | x :: r => match Nat.blt x 128 with
    | true => asciiB r
    | false => false
theorem asciiB_all : ∀ {l : List Nat}, asciiB l = true → (⟨l.toArray⟩ : Str).cps.all (· < 128) = true
  | [], _ => by simp
  | x :: r, h => by
    unfold asciiB at h
    split at h
    · rename_i hx
      have ih := asciiB_all h
      have h1 : x < 128 := by have := (bltD x 128).symm.trans hx; simpa using this
      simp only [List.all_toArray, List.all_eq_true, decide_eq_true_eq] at ih ⊢
      intro y hy
      rcases List.mem_cons.mp hy with rfl | hy
      · exact h1
      · exact ih y hy
    · cases h
noncomputable def dItS (d : EDen) : IDen := fun ε σ => match d ε σ with
  | some (.str l, σ) => (match asciiB l with
    | true => some (.vals (l.map fun ch => .str [ch]), σ)
    | false => none)
  | _ => none
noncomputable def dRng (d : EDen) : IDen := fun ε σ => match d ε σ with
  | some (.int i, σ) => (match natOf i with
    | some k => some (.vals (rngA 0 k), σ)
    | none => none)
  | _ => none
noncomputable def dEnum (d : EDen) : IDen := fun ε σ => match d ε σ with
  | some (.fl xs, σ) => some (.vals (enumA 0 xs), σ)
  | _ => none
noncomputable def dZip (a b : EDen) : IDen := fun ε σ => match dL [a, b] ε σ with
  | some ([x, y], σ) => (match items σ x with
    | some _ => (match items σ y with
      | some _ => some (.zip x y, σ)
      | none => none)
    | none => none)
  | _ => none
section
variable {g : Gl} {n : Nat} {c : FC}
theorem IS.val {target e : Expr} {d : EDen} (h : ES g n c e d) : IS g n c true target e (dIt d) := by
  refine ⟨?_⟩; intro φ env W m ml ε σ s G σ' P hd Q E q
  unfold dIt at hd
  split at hd
  · rename_i xs σ₁ h1
    cases hd
    refine h.run _ _ _ _ _ _ _ _ _ _ P h1 _ _ fun v W' s' I' E' V' => ?_
    cases V' with
    | fl hs V =>
      refine iterFl (target := target) P.ok I' hs V.up fun it own frz T J s'' I'' X hJ tr => ?_
      rw [E'.2.2] at I'' X tr
      exact q it own frz T J s'' I'' (E'.t.trans X) hJ tr
  · rename_i xs σ₁ h1
    cases hd
    refine h.run _ _ _ _ _ _ _ _ _ _ P h1 _ _ fun v W' s' I' E' V' => ?_
    cases V' with
    | tup hs V =>
      refine iterTup (target := target) P.ok I' hs V fun it own frz T J s'' I'' X hJ tr => ?_
      rw [E'.2.2] at I'' X tr
      exact q it own frz T J s'' I'' (E'.t.trans X) hJ tr
  · rename_i i σ₁ h1
    split at hd
    · rename_i ys hys
      cases hd
      refine h.run _ _ _ _ _ _ _ _ _ _ P h1 _ _ fun v W' s' I' E' V' => ?_
      refine iterOwn (target := target) P.ok I' V' hys fun it own frz T J s'' I'' X hJ tr => ?_
      rw [E'.2.2] at I'' X tr
      exact q it own frz T J s'' I'' (E'.t.trans X) hJ tr
    · cases hd
  · cases hd
theorem IS.str {x : Str} {p : Pos} {e : Expr} {d : EDen} (h : ES g n c e d) : IS g n c true (.Name x p) e (dItS d) := by
  refine ⟨?_⟩; intro φ env W m ml ε σ s G σ' P hd Q E q
  unfold dItS at hd
  split at hd
  · rename_i l σ₁ h1
    split at hd
    · rename_i ha
      cases hd
      refine h.run _ _ _ _ _ _ _ _ _ _ P h1 _ _ fun v W' s' I' E' V' => ?_
      cases V'
      rename_i t
      refine wpAny_pyIter_ascii (asciiB_all ha) ?_
      have I2 := I'.addTs (T := [(s'.heap.objs.size, { cls := .type "str_ascii_iterator", data := .fields #[.str ⟨l.toArray⟩ t, .int 0 0] })]) (h' := s'.heap.push { cls := .type "str_ascii_iterator", data := .fields #[.str ⟨l.toArray⟩ t, .int 0 0] }) (fun b o e => Heap.get?_push_of_some _ e)
        (fun p hp => by rw [List.mem_singleton.mp hp]; exact ⟨Heap.get?_push_size _ rfl, Nat.le_refl _⟩) (by simp [keys]) s'.toks
      rw [E'.2.2] at I2
      refine q _ W'.own W'.frz _ (JK [s'.heap.objs.size] [] (⟨l.toArray⟩ : Str).cps.size (fun i h => h.IsStrIter s'.heap.objs.size "str_ascii_iterator" ⟨l.toArray⟩ t i)) _ I2 ⟨E'.1, E'.2.1⟩ ⟨rfl, Nat.zero_le _, s'.heap.push { cls := .type "str_ascii_iterator", data := .fields #[.str ⟨l.toArray⟩ t, .int 0 0] }, ⟨_, Heap.get?_push_size _ rfl, rfl, rfl⟩, fun p hp => ?_, fun p hp => nomatch hp⟩
        (Trn.ofK (fun A hh => KTurns.ofWalks (Walks.strAscii hh _ _ t) fun i v s Q E st q => wpAny_pure q) (fun A hh => (Walks.strAscii hh _ _ t).self) (fun b hb => hb) (fun b hb => .inl hb) (fun p hp => nomatch hp) (fun i h st b hb => ?_) ?_ fun i v h hlt hp => ?_)
      · rw [List.mem_singleton.mp hp]; exact Heap.get?_push_size _ rfl
      · rw [List.mem_singleton.mp hb]
        obtain ⟨o, ho, _⟩ := st
        exact ⟨o, ho⟩
      · simp
      · obtain ⟨ch, u, h2, rfl⟩ := hp
        refine ⟨.str [ch], ?_, .str [ch] u⟩
        have h3 : l[i]? = some ch := by simpa using h2
        simp [h3]
    · cases hd
  · cases hd
/-- a call of a built-in type, in general -/
theorem typeRun {φ : Fx} {env : Env} {W : Wd} {m ml : Str → Option Value} {ε : Rε} {σ σ' : List AO} {s : Shared} {xs : List AV} {x : Str} {xp pos : Pos} {e : Expr} {es : List Expr} {ds : List EDen} {T : String} {Q E : Value → Shared → Prop}
    (P : Pre g n c φ env W m ml ε σ s) (hL : EsL g n c (e :: es) ds) (hd' : dL ds ε σ = some (xs, σ'))
    (hv : nsIn g.K mainGlobals x = some none) (hb : bootBuiltins x = some (.type T)) (hn : x ≠ "__name__") (hk : c.cs.names.lookup x = some .globalImplicit) (hd : (x == ("__debug__" : Str)) = false)
    (q : ∀ vs W' s', Inv g φ W' m σ' s' → Ext W W' → VRs g W' xs vs → wpAny (model g.prog g.w) φ.A (PySem.call (.type T) vs) Q E s') : wpAny (model g.prog g.w) φ.A (eval (.Call (.Name x xp) (e :: es) [] pos) env) Q E s := by
  refine Call_ (nameB P hv hb hn hk hd ?_)
  cases hL with
  | cons h he r =>
    exact PyProof.Rows.callWith_type1 (EsL.run (.cons h he r) P hd' fun vs W' s' I' E' V' => q vs W' s' I' E' V') (he _ _) (r.plain _ _)
theorem IS.rng {x y : Str} {p xp pos : Pos} {e : Expr} {d : EDen} (hx : x = "range") (h : EsL g n c [e] [d]) 
    (hv : nsIn g.K mainGlobals x = some none) (hk : c.cs.names.lookup x = some .globalImplicit) : IS g n c true (.Name y p) (.Call (.Name x xp) [e] [] pos) (dRng d) := by
  refine ⟨?_⟩; intro φ env W m ml ε σ s G σ' P hd Q E q
  unfold dRng at hd
  split at hd
  · rename_i i σ₁ h1
    split at hd
    · rename_i k hk'
      cases hd
      obtain ⟨e1, e2⟩ := natOf_eq hk'
      subst e1
      refine typeRun (T := "range") (σ' := σ') (xs := [.int k]) P h (by simp [dL, h1]) hv (by subst hx; kernel_rfl) (by subst hx; decide) hk (by subst hx; decide) fun vs W' s' I' E' V => ?_
      cases V with | cons V V0 =>
      cases V0
      cases V
      rename_i t
      refine call_range_1 ?_
      have hsm : Builtin.Range.small 0 (k : Int) 1 = true := small_one (by omega) (by omega) (by omega) (by omega)
      have hsz : Builtin.Range.rangeSize 0 (k : Int) 1 = (k : Int) := by
        unfold Builtin.Range.rangeSize
        split <;> split <;> omega
      refine wpAny_pyIter_range (Heap.get?_push_size _ rfl) hsm ?_
      rw [hsz]
      have I1 := I'.grow (h' := s'.heap.push { cls := .type "range", data := .fields #[.int 0 s'.toks, .int k t, .int 1 (s'.toks + 1)] }) (fun b o e => Heap.get?_push_of_some _ e) (s'.toks + 1 + 1)
      generalize hH : s'.heap.push { cls := .type "range", data := .fields #[.int 0 s'.toks, .int k t, .int 1 (s'.toks + 1)] } = H at I1 ⊢
      have I2 := I1.addTs (T := [(H.objs.size, { cls := .type "range_iterator", data := .fields #[rawInt 0, rawInt k, rawInt 1] })]) (h' := H.push { cls := .type "range_iterator", data := .fields #[rawInt 0, rawInt k, rawInt 1] }) (fun b o e => Heap.get?_push_of_some _ e)
        (fun p hp => by rw [List.mem_singleton.mp hp]; exact ⟨Heap.get?_push_size _ rfl, Nat.le_refl _⟩) (by simp [keys]) (s'.toks + 1 + 1)
      rw [E'.2.2] at I2
      refine q _ W'.own W'.frz _ (JK [H.objs.size] [] k (fun i h => IsRangeIter h H.objs.size (0 + (i : Nat) * 1) ((k : Int) - (i : Nat)) 1)) _ I2 ⟨E'.1, E'.2.1⟩ ⟨rfl, Nat.zero_le _, H.push { cls := .type "range_iterator", data := .fields #[rawInt 0, rawInt k, rawInt 1] }, ?_, fun p hp => ?_, fun p hp => nomatch hp⟩
        (Trn.ofK (fun A hh => KTurns.ofWalks (Walks.range hh _ 0 1 k) fun i v s Q E st q => wpAny_pure q) (fun A hh => (Walks.range hh _ 0 1 k).self) (fun b hb => hb) (fun b hb => .inl hb) (fun p hp => nomatch hp) (fun i h st b hb => ?_) (rngA_length k 0).symm fun i v h hlt hp => ?_)
      · have := Heap.get?_push_size H (o := { cls := .type "range_iterator", data := .fields #[rawInt 0, rawInt k, rawInt 1] }) rfl
        simpa using this
      · rw [List.mem_singleton.mp hp]; exact Heap.get?_push_size _ rfl
      · rw [List.mem_singleton.mp hb]
        exact ⟨_, st⟩
      · obtain ⟨u, rfl⟩ := hp
        refine ⟨_, rngA_get k 0 i hlt, ?_⟩
        have e : (0 : Int) + (i : Int) * 1 = ((0 + i : Nat) : Int) := by omega
        rw [e]
        exact .int _ _
    · cases hd
  · cases hd
theorem IS.enum {x : Str} {elts : List Expr} {kk : Nat} {p xp pos : Pos} {e : Expr} {d : EDen} (hx : x = "enumerate") (h : EsL g n c [e] [d])
    (hv : nsIn g.K mainGlobals x = some none) (hk : c.cs.names.lookup x = some .globalImplicit) : IS g n c false (.Tuple elts kk p) (.Call (.Name x xp) [e] [] pos) (dEnum d) := by
  refine ⟨?_⟩; intro φ env W m ml ε σ s G σ' P hd Q E q
  unfold dEnum at hd
  split at hd
  · rename_i xs σ₁ h1
    cases hd
    refine typeRun (T := "enumerate") (σ' := σ') (xs := [.fl xs]) P h (by simp [dL, h1]) hv (by subst hx; kernel_rfl) (by subst hx; decide) hk (by subst hx; decide) fun vs W' s' I' E' V => ?_
    cases V with | cons V V0 =>
    cases V0
    cases V with
    | fl hs V =>
      rename_i a us
      replace V : VRs g W' xs us := V.up
      obtain ⟨k, ho⟩ := hs
      have hl : s'.heap.IsList a us.toArray := ⟨_, I'.has P.ok ho, rfl, k, rfl⟩
      have hlt : a < s'.heap.objs.size := Heap.lt_size (I'.has P.ok ho)
      refine call_enumerate_list hl fun h' hE hI hsz hk => ?_
      refine wpAny_pyIter_enum hE ?_
      obtain ⟨oi, hoi, hic, hid⟩ := id hI
      have I2 := I'.addTs (T := [(s'.heap.objs.size + 1, { cls := .type "enumerate", dict := none, data := .fields #[.none, .bool false, .ref s'.heap.objs.size, rawInt 0, .none, .none], slots := #[] }), (s'.heap.objs.size, oi)]) hk
        (fun p hp => by
          rcases List.mem_cons.mp hp with rfl | hp
          · exact ⟨hE, Nat.le_succ _⟩
          · rw [List.mem_singleton.mp hp]; exact ⟨hoi, Nat.le_refl _⟩) (by simp [keys]) s'.toks
      rw [E'.2.2] at I2
      refine q _ W'.own W'.frz _ (JK [s'.heap.objs.size + 1, s'.heap.objs.size] [(a, { cls := .type "list", data := .seq us.toArray k })] us.toArray.size _) _ I2 ⟨E'.1, E'.2.1⟩ ⟨rfl, Nat.zero_le _, h', ⟨⟨.none, hE⟩, hI, hl.at fun o e => hk a o e⟩, fun p hp => ?_, fun p hp => ?_⟩
        (Trn.ofK (fun A hh => KTurns.ofWalksU (WalksT.enumerate hh (s'.heap.objs.size + 1) s'.heap.objs.size a (Nat.succ_ne_self _) (ktu_ne 1 hlt) (Nat.ne_of_lt hlt) us.toArray).toU) (fun A hh => (WalksT.enumerate hh (s'.heap.objs.size + 1) s'.heap.objs.size a (Nat.succ_ne_self _) (ktu_ne 1 hlt) (Nat.ne_of_lt hlt) us.toArray).toU.self) (fun b hb => hb) (fun b hb => ?_) (fun p hp => ?_) (fun i h st b hb => ?_) (by rw [enumA_length, V.length, List.size_toArray]) fun i v h hlt hp => ?_)
      · rcases List.mem_cons.mp hp with rfl | hp
        · exact hE
        · rw [List.mem_singleton.mp hp]; exact hoi
      · rw [List.mem_singleton.mp hp]; exact hk _ _ (I'.has P.ok ho)
      · have hb' : b = s'.heap.objs.size + 1 ∨ b = s'.heap.objs.size ∨ b = a := by simpa using hb
        rcases hb' with rfl | rfl | rfl
        · exact .inl (by simp)
        · exact .inl (by simp)
        · exact .inr ⟨_, List.mem_singleton.mpr rfl⟩
      · rw [List.mem_singleton.mp hp]; exact ho
      · obtain ⟨⟨old, he⟩, ⟨oi, hoi, _⟩, _⟩ := st
        have hb' : b = s'.heap.objs.size + 1 ∨ b = s'.heap.objs.size := by simpa using hb
        rcases hb' with rfl | rfl
        · exact ⟨_, he⟩
        · exact ⟨_, hoi⟩
      · obtain ⟨T, vals, rfl, ⟨t, y, hy, rfl⟩, hT⟩ := hp
        obtain ⟨b, h2, h3⟩ := getsV V hy
        refine ⟨.tup [.int ((0 + i : Nat) : Int), b], enumA_get xs 0 i h2, T, [.int ((0 + i : Nat) : Int) t, y], _, rfl, rfl, ?_, .cons (.int _ _) (.cons ?_ .nil)⟩
        · rw [Nat.zero_add]; exact hT
        · exact h3
  · cases hd
/-- the state of a zip of two lists -/
noncomputable def Zs (z TI TO i1 i2 l1 l2 : Addr) (k : Nat) (h : Heap) : Prop :=
  IsZip h z TI TO .none ∧ IsPair h TI (.ref i1) (.ref i2) ∧ (∃ a b, IsPair h TO a b) ∧ h.IsListIter i1 l1 k ∧ h.IsListIter i2 l2 k
theorem Zs.at {z TI TO i1 i2 l1 l2 : Addr} {k : Nat} {h h' : Heap} (Z : Zs z TI TO i1 i2 l1 l2 k h) (e : ∀ b ∈ [z, TI, TO, i1, i2], ∀ o, h.get? b = some o → h'.get? b = some o) : Zs z TI TO i1 i2 l1 l2 k h' := by
  obtain ⟨h1, h2, ⟨a, b, h3⟩, h4, h5⟩ := Z
  exact ⟨e _ (by simp) _ h1, e _ (by simp) _ h2, ⟨a, b, e _ (by simp) _ h3⟩, h4.at fun o => e _ (by simp) o, h5.at fun o => e _ (by simp) o⟩
theorem Zs.obj {z TI TO i1 i2 l1 l2 : Addr} {k : Nat} {h : Heap} (Z : Zs z TI TO i1 i2 l1 l2 k h) : ∀ b ∈ [z, TI, TO, i1, i2], ∃ o, h.get? b = some o := by
  obtain ⟨hz, hTI, ⟨a, b, hTO⟩, ⟨o1, ho1, hc1, _⟩, ⟨o2, ho2, hc2, _⟩⟩ := Z
  intro b hb
  simp only [List.mem_cons, List.not_mem_nil, or_false] at hb
  rcases hb with rfl | rfl | rfl | rfl | rfl
  · exact ⟨_, hz⟩
  · exact ⟨_, hTI⟩
  · exact ⟨_, hTO⟩
  · exact ⟨_, ho1⟩
  · exact ⟨_, ho2⟩
theorem IS.zip {x : Str} {elts : List Expr} {kk : Nat} {p xp pos : Pos} {e₁ e₂ : Expr} {d₁ d₂ : EDen} (hx : x = "zip") (h : EsL g n c [e₁, e₂] [d₁, d₂])
    (hv : nsIn g.K mainGlobals x = some none) (hk : c.cs.names.lookup x = some .globalImplicit) : IS g n c false (.Tuple elts kk p) (.Call (.Name x xp) [e₁, e₂] [] pos) (dZip d₁ d₂) := by
  refine ⟨?_⟩; intro φ env W m ml ε σ s G σ' P hd Q E q
  unfold dZip at hd
  split at hd
  · rename_i x₁ y₁ σ₁ h1
    split at hd
    · rename_i xs₀ hx₀
      split at hd
      · rename_i ys₀ hy₀
        cases hd
        refine typeRun (T := "zip") (xs := [x₁, y₁]) P h h1 hv (by subst hx; kernel_rfl) (by subst hx; decide) hk (by subst hx; decide) fun vs W' s' I' E' V => ?_
        cases V with | cons V1 V =>
        cases V with | cons V2 V =>
        cases V
        obtain ⟨a, us, rfl, hl1, _⟩ := items_rel P.ok I' V1 hx₀
        obtain ⟨b, ws, rfl, hl2, _⟩ := items_rel P.ok I' V2 hy₀
        have hlt1 : a < s'.heap.objs.size := by obtain ⟨o, ho, _⟩ := hl1; exact Heap.lt_size ho
        have hlt2 : b < s'.heap.objs.size := by obtain ⟨o, ho, _⟩ := hl2; exact Heap.lt_size ho
        have D : ZipApart (s'.heap.objs.size + 4) (s'.heap.objs.size + 2) (s'.heap.objs.size + 3) s'.heap.objs.size (s'.heap.objs.size + 1) a b := ktu_apart _ _ _ hlt1 hlt2
        refine call_zip_2 hl1 hl2 fun h' hz hTI hTO hi1 hi2 hsz hk => ?_
        refine wpAny_pyIter_zip hz ?_
        have Z0 : Zs (s'.heap.objs.size + 4) (s'.heap.objs.size + 2) (s'.heap.objs.size + 3) s'.heap.objs.size (s'.heap.objs.size + 1) a b 0 h' := ⟨hz, hTI, ⟨_, _, hTO⟩, hi1, hi2⟩
        obtain ⟨T, hT1, hT2⟩ := objs_at _ Z0.obj
        have I2 := I'.addTs (T := T) hk (fun p hp => ⟨hT2 p hp, by
          have : p.1 ∈ keys T := List.mem_map.mpr ⟨p, hp, rfl⟩
          rw [hT1] at this
          simp only [List.mem_cons, List.not_mem_nil, or_false] at this
          rcases this with e | e | e | e | e <;> rw [e] <;> first | exact Nat.le_refl _ | exact Nat.le_add_right _ _⟩) (by rw [hT1]; simp) s'.toks
        rw [E'.2.2] at I2
        refine q _ W'.own W'.frz T (fun k T => keys T = [s'.heap.objs.size + 4, s'.heap.objs.size + 2, s'.heap.objs.size + 3, s'.heap.objs.size, s'.heap.objs.size + 1] ∧
          ∃ h, Zs (s'.heap.objs.size + 4) (s'.heap.objs.size + 2) (s'.heap.objs.size + 3) s'.heap.objs.size (s'.heap.objs.size + 1) a b k h ∧ ∀ p ∈ T, h.get? p.1 = some p.2) _ I2 ⟨E'.1, E'.2.1⟩ ⟨hT1, h', Z0, hT2⟩ ?_
        have zat : ∀ {φ' : Fx} {own frz P T R : Led} {m' : Str → Option Value} {σ' : List AO} {s₂ : Shared} {k : Nat} {h : Heap}, Inv g φ' ⟨own, frz, P ++ (T ++ R)⟩ m' σ' s₂ → keys T = [s'.heap.objs.size + 4, s'.heap.objs.size + 2, s'.heap.objs.size + 3, s'.heap.objs.size, s'.heap.objs.size + 1] →
            Zs (s'.heap.objs.size + 4) (s'.heap.objs.size + 2) (s'.heap.objs.size + 3) s'.heap.objs.size (s'.heap.objs.size + 1) a b k h → (∀ p ∈ T, h.get? p.1 = some p.2) → Zs (s'.heap.objs.size + 4) (s'.heap.objs.size + 2) (s'.heap.objs.size + 3) s'.heap.objs.size (s'.heap.objs.size + 1) a b k s₂.heap := by
          intro φ' own frz P T R m' σ' s₂ k h I hT Z hTo
          refine Z.at fun c hc o e => ?_
          rw [← hT] at hc
          obtain ⟨p, hp, rfl⟩ := List.mem_map.mp hc
          rw [hTo p hp] at e
          cases e
          exact (I.news p (List.mem_append_right _ (List.mem_append_left _ (List.mem_append_right _ (List.mem_append_left _ hp))))).1
        refine ⟨?_, ?_⟩
        · rintro φ' own frz P' T' R m' σ₂ s₂ k r O' I₂ ⟨hT, h, Z, hTo⟩ X hr Qn Qs E₂ qn qs
          unfold Itr.get at hr
          simp only at hr
          split at hr
          · rename_i xs hxs
            split at hr
            · rename_i ys hys
              split at hr
              · rename_i hb1
                split at hr
                · rename_i hb2
                  cases hr
                  have V1' : VR g ⟨own, frz, P' ++ (T' ++ R)⟩ x₁ (.ref a) := V1.mono X.grows
                  have V2' : VR g ⟨own, frz, P' ++ (T' ++ R)⟩ y₁ (.ref b) := V2.mono X.grows
                  obtain ⟨a', us', ea, hl1', U1⟩ := items_rel O' I₂ V1' hxs
                  obtain ⟨b', ws', eb, hl2', U2⟩ := items_rel O' I₂ V2' hys
                  cases ea
                  cases eb
                  have ZZ := zat I₂ hT Z hTo
                  have hN : k ≤ min us'.toArray.size ws'.toArray.size := by
                    have := Nat.le_of_ble_eq_true hb1
                    have := Nat.le_of_ble_eq_true hb2
                    rw [List.size_toArray, List.size_toArray, ← U1.length, ← U2.length]
                    omega
                  refine turnK (KTurns.ofWalksU (WalksT.zip2 O'.handled _ _ _ _ _ _ _ D us'.toArray ws'.toArray).toU) I₂ ⟨ZZ.1, ZZ.2.1, ZZ.2.2.1, ZZ.2.2.2.1, ZZ.2.2.2.2, hl1', hl2'⟩ (fun c hc => ?_) (fun h' st c hc => ?_) hN (fun e s'' I'' => qn ?_ s'' I'') fun hlt v T₃ h₃ tk₃ I₃ k1 k2 st₂ hp => ?_
                  · rw [hT]
                    simp only [List.mem_cons, List.not_mem_nil, or_false] at hc ⊢
                    rcases hc with rfl | rfl | rfl | rfl <;> simp
                  · rw [hT] at hc
                    exact Zs.obj (k := k + 1) ⟨st.1, st.2.1, st.2.2.1, st.2.2.2.1, st.2.2.2.2.1⟩ c hc
                  · apply List.getElem?_eq_none_iff.mpr
                    rw [zipA_length, U1.length, U2.length]
                    rw [List.size_toArray, List.size_toArray] at e
                    exact Nat.le_of_eq e.symm
                  · obtain ⟨T₄, vals, rfl, ⟨y1, y2, hy1, hy2, rfl⟩, hTT⟩ := hp
                    obtain ⟨c1, g1, g2⟩ := getsV U1 hy1
                    obtain ⟨c2, g3, g4⟩ := getsV U2 hy2
                    exact qs (.tup [c1, c2]) (zipA_get xs ys k g1 g3) _ T₃ _ I₃ ⟨k1.trans hT, h₃, ⟨st₂.1, st₂.2.1, st₂.2.2.1, st₂.2.2.2.1, st₂.2.2.2.2.1⟩, k2⟩ ⟨T₄, [y1, y2], _, rfl, rfl, hTT, .cons g2 (.cons g4 .nil)⟩
                · cases hr
              · cases hr
            · cases hr
          · cases hr
        · rintro φ' own frz P' T' R m' σ₂ s₂ k O' I₂ ⟨hT, h, Z, hTo⟩ X Q E q
          exact wpAny_pyIter_zip (zat I₂ hT Z hTo).1 q
      · cases hd
    · cases hd
  · cases hd
end
end Rn

namespace Rn
open PySem PySem.Spec PySem.Calls PyProof.Rows PySem.W

noncomputable abbrev Sto := AV → Rε → List AO → Option (Rε × List AO)
noncomputable def dStoTup (ts : List Tgt) : Sto := fun x ε σ => match x with
  | .tup as => (match Nat.beq as.length ts.length with
    | true => dStoL ts as ε σ
    | false => none)
  | _ => none
/-- a target: a name, or names in a row -/
inductive Tg (c : FC) : Bool → Expr → Sto → Prop
  | name {x : Str} {p : Pos} {t : Tgt} : c.names[t.1]? = some (x, t.2) → Tg c true (.Name x p) (dSto t)
  | tup {pl : Bool} {es : List Expr} {k : Nat} {p : Pos} {ts : List Tgt} : TgL c es ts → Tg c pl (.Tuple es k p) (dStoTup ts)
section
variable {g : Gl} {n : Nat} {c : FC}
theorem TV.tup {pl : Bool} {φ : Fx} {W : Wd} {m : Str → Option Value} {σ : List AO} {s : Shared} (O : φ.Ok g n) (I : Inv g φ W m σ s) {xs : List AV} {v : Value} (h : TV g pl W s.heap (.tup xs) v) : ∃ T vs, v = .ref T ∧ IsTup s.heap T vs.toArray ∧ VRs g W xs vs := by
  cases pl with
  | true => exact tup_rel O I h
  | false =>
    obtain ⟨T, vs, ys, h1, h2, h3, h4⟩ := h
    cases h1
    exact ⟨T, vs, h2, h3, h4⟩
theorem Tg.sto {pl : Bool} {t : Expr} {d : Sto} (h : Tg c pl t d) {φ : Fx} {W : Wd} {m : Str → Option Value} {ε ε' : Rε} {σ σ' : List AO} {s : Shared} {a : AV} {v : Value} (P : SPre g n c φ W m ε σ s) (V : TV g pl W s.heap a v) (hd : d a ε σ = some (ε', σ'))
    {Q : Unit → Shared → Prop} {E : Value → Shared → Prop} (q : ∀ W' m' s', Inv g φ W' m' σ' s' → Ext W W' → EnvR g c φ.env W' m' ε' → Q () s') : wpAny (model g.prog g.w) φ.A (assign t φ.env v) Q E s := by
  cases h with
  | name hx => exact assign_Name (Rn.sto P hx V hd q)
  | tup hL =>
    unfold dStoTup at hd
    split at hd
    · rename_i as
      split at hd
      · rename_i hlen
        obtain ⟨T, vs, rfl, h3, h4⟩ := V.tup P.ok P.inv
        obtain ⟨h5, h6⟩ := assignEach_len hL φ.env
        refine unpackN_ P.inv.fr P.inv.news h3 P.ok.handled (by rw [h5, List.size_toArray, ← h4.length, Nat.eq_of_beq_eq_true hlen]) h6 fun h' F N => ?_
        have I'' : Inv g φ W m σ { s with heap := h' } := ⟨F, N, P.inv.nodup, P.inv.heap, P.inv.gens, P.inv.drawn, P.inv.os⟩
        exact hL.sto (P.step I'' P.er) h4 hd q
      · cases hd
    · cases hd

/-! for -/
noncomputable def dForL (get : Nat → List AO → Option (Option AV)) (sto : Sto) (body : SDen) : Nat → Nat → SDen
  | 0, _, _, _ => none
  | f + 1, k, ε, σ => match get k σ with
    | none => none
    | some none => some (.next, ε, σ)
    | some (some x) => (match sto x ε σ with
      | none => none
      | some (ε, σ) => (match body ε σ with
        | some (.next, ε, σ) => dForL get sto body f (k + 1) ε σ
        | some (.ret x, ε, σ) => some (.ret x, ε, σ)
        | none => none))
noncomputable def dFor (fuel : Nat) (it : IDen) (sto : Sto) (body : SDen) : SDen := fun ε σ => match it ε σ with
  | some (G, σ) => dForL G.get sto body fuel 0 ε σ
  | none => none
theorem SS.for (fuel : Nat) {pl : Bool} {target iter : Expr} {body : List Stmt} {pos : Pos} {dI : IDen} {sto : Sto} {db : SDen} (hi : IS g n c pl target iter dI) (ht : Tg c pl target sto) (hb : SSs g n c body db)
    (hs : ∀ env x, foldedSetIterable iter env x = pure x) : SS g n c (.For target iter body [] pos) (dFor fuel dI sto db) := by
  refine ⟨?_⟩; intro φ W m ε σ s fl ε' σ' P hd Q E q
  unfold dFor at hd
  split at hd
  · rename_i G σ₁ h1
    refine wpAny_For (hi.run _ _ _ _ _ _ _ _ _ _ P.pre h1 _ _ fun it own frz T J s₁ I₁ X₁ hJ tr => ?_) (hs _)
    refine codeAny_forLoop_any (fun f s' => ∃ k T own frz m₂ ε₂ σ₂, SPre g n c φ ⟨own, frz, T ++ W.tmp⟩ m₂ ε₂ σ₂ s' ∧ J k T ∧ ExtT W ⟨own, frz, T ++ W.tmp⟩ ∧ (∀ P : Prop, (∀ q : Trn g n pl target it J G.get ⟨own, frz, T ++ W.tmp⟩, P) → P) ∧ dForL G.get sto db f k ε₂ σ₂ = some (fl, ε', σ')) ?_ fuel
      ⟨0, T, own, frz, m, ε, σ₁, P.step I₁ (P.er.grow X₁), hJ, X₁, fun P h => h tr, hd⟩
    rintro f s' ⟨k, T₂, own₂, frz₂, m₂, ε₂, σ₂, P₂, hJ₂, X₂, tr₂', hd₂⟩
    have tr₂ : Trn g n pl target it J G.get ⟨own₂, frz₂, T₂ ++ W.tmp⟩ := tr₂' _ id
    cases f with
    | zero => cases hd₂
    | succ f =>
      unfold dForL at hd₂
      split at hd₂
      · cases hd₂
      · rename_i hg
        cases hd₂
        have := tr₂.turn φ own₂ frz₂ [] T₂ W.tmp m₂ σ' s' k none P₂.ok P₂.inv hJ₂ (ExtT.refl _) hg
          (fun s₁ => wpAny (model g.prog g.w) φ.A (execs [] φ.env) (fun f s₃ => Q f s₃) (notedBy (model g.prog g.w) φ.A φ.env fun e s' => cameBackBy (model g.prog g.w) φ.A φ.env E e s') s₁) (fun _ _ => False)
          (notedBy (model g.prog g.w) φ.A φ.env fun e s' => cameBackBy (model g.prog g.w) φ.A φ.env E e s') (fun _ s₃ I₃ => wpAny_execs_nil ?_) (fun x h => by cases h)
        · refine wpAny_mono this (fun r s₁ h => ?_) fun _ _ e => e
          cases r with
          | none => exact h
          | some v => exact wpAny_mono h (fun _ _ x => x.elim) fun _ _ e => e
        · have X₃ : Ext W ⟨own₂, frz₂, [] ++ W.tmp⟩ := ⟨X₂.1, X₂.2, rfl⟩
          exact q _ _ _ _ I₃ X₃ (P₂.er.grow ⟨⟨[], by simp [Wd.ks]⟩, ⟨[], rfl⟩⟩) rfl
      · rename_i x hg
        split at hd₂
        · cases hd₂
        · rename_i ε₃ σ₃ h3
          refine tr₂.turn φ own₂ frz₂ [] T₂ W.tmp m₂ σ₂ s' k (some x) P₂.ok P₂.inv hJ₂ (ExtT.refl _) hg _ _ _ (fun h => by cases h) fun x' h v T₃ s₃ I₃ hJ₃ tv => ?_
          cases h
          have P₃ : SPre g n c φ ⟨own₂, frz₂, [] ++ (T₃ ++ W.tmp)⟩ m₂ ε₂ σ₂ s₃ := P₂.step I₃ (P₂.er.grow ⟨⟨[], by simp [Wd.ks]⟩, ⟨[], rfl⟩⟩)
          refine ht.sto P₃ tv h3 fun W₄ m₄ s₄ I₄ E₄ er₄ => ?_
          have P₄ := P₃.step I₄ er₄
          split at hd₂
          · rename_i ε₅ σ₅ h5
            refine hb.run _ _ _ _ _ _ _ _ _ P₄ h5 _ _ fun fl₅ W₅ m₅ s₅ I₅ E₅ er₅ r₅ => ?_
            cases r₅
            obtain ⟨own₅, frz₅, tmp₅⟩ := W₅
            have e5 : tmp₅ = T₃ ++ W.tmp := (E₄.trans E₅).2.2
            subst e5
            have X₅ : ExtT ⟨own₂, frz₂, T₂ ++ W.tmp⟩ ⟨own₅, frz₅, T₃ ++ W.tmp⟩ := ⟨(E₄.trans E₅).1, (E₄.trans E₅).2.1⟩
            exact ⟨f, Nat.lt_succ_self f, k + 1, T₃, own₅, frz₅, m₅, ε₅, σ₅, P₄.step I₅ er₅, hJ₃, X₂.trans X₅, fun _ h => h ⟨fun φ own frz P T R m σ s k r O I J X => tr₂.turn φ own frz P T R m σ s k r O I J (X₅.trans X), fun φ own frz P T R m σ s k O I J X => tr₂.self φ own frz P T R m σ s k O I J (X₅.trans X)⟩, hd₂⟩
          · rename_i y ε₅ σ₅ h5
            cases hd₂
            refine hb.run _ _ _ _ _ _ _ _ _ P₄ h5 _ _ fun fl₅ W₅ m₅ s₅ I₅ E₅ er₅ r₅ => ?_
            obtain ⟨u, rfl, V⟩ := r₅
            obtain ⟨own₅, frz₅, tmp₅⟩ := W₅
            have e5 : tmp₅ = T₃ ++ W.tmp := (E₄.trans E₅).2.2
            subst e5
            have X₅ : ExtT ⟨own₂, frz₂, T₂ ++ W.tmp⟩ ⟨own₅, frz₅, T₃ ++ W.tmp⟩ := ⟨(E₄.trans E₅).1, (E₄.trans E₅).2.1⟩
            have X₆ : Ext W ⟨own₅, frz₅, W.tmp⟩ := ⟨(X₂.trans X₅).1, (X₂.trans X₅).2, rfl⟩
            have I₆ : Inv g φ ⟨own₅, frz₅, [] ++ W.tmp⟩ m₅ σ' s₅ := Inv.dropT (P := []) (T := T₃) I₅
            exact q _ _ _ _ I₆ X₆ (er₅.grow ⟨⟨[], by simp [Wd.ks]⟩, ⟨[], rfl⟩⟩) ⟨u, rfl, V⟩
          · cases hd₂
  · cases hd
end
end Rn

namespace Rn
open PySem PySem.Spec PySem.Calls PyProof.Rows PySem.W

theorem closure_go (env : Env) : ∀ (names : List (Str × NameKind)) (acc : List (Str × Addr)), (∀ p ∈ names, p.2 = .free → ∃ ca, env.cells.lookup p.1 = some ca) → (∀ x ca, acc.lookup x = some ca → env.cells.lookup x = some ca) →
    ∃ cl, (do
      let mut cs := acc
      for (name, kind) in names do
        if kind == .free then cs := (name, ← cellOf env name) :: cs
      return cs : Sem (List (Str × Addr))) = pure cl ∧ (∀ x ca, cl.lookup x = some ca → env.cells.lookup x = some ca) ∧ (∀ x, (acc.lookup x).isSome = true → (cl.lookup x).isSome = true) ∧ ∀ p ∈ names, p.2 = .free → (cl.lookup p.1).isSome = true
  | [], acc, _, h => ⟨acc, rfl, h, fun _ h => h, fun _ h => nomatch h⟩
  | (x, k) :: r, acc, hf, ha => by
    by_cases hk : k = .free
    · subst hk
      obtain ⟨ca, hc⟩ := hf _ (List.mem_cons_self ..) rfl
      obtain ⟨cl, h1, h2, h3, h4⟩ := closure_go env r ((x, ca) :: acc) (fun p hp => hf p (List.mem_cons_of_mem _ hp)) (fun y cb hy => by
        rw [List.lookup_cons] at hy
        split at hy
        · rename_i e
          cases hy
          rw [beq_iff_eq.mp e]; exact hc
        · exact ha _ _ hy)
      refine ⟨cl, ?_, h2, fun y hy => h3 y ?_, fun p hp e => ?_⟩
      · rw [← h1]
        simp only [List.forIn_cons, cellOf, hc, beq_self_eq_true, if_true, pure_bind]
      · rw [List.lookup_cons]
        split
        · rfl
        · exact hy
      · rcases List.mem_cons.mp hp with rfl | hp
        · exact h3 _ (by simp)
        · exact h4 p hp e
    · have hk' : (k == NameKind.free) = false := by simpa using hk
      obtain ⟨cl, h1, h2, h3, h4⟩ := closure_go env r acc (fun p hp => hf p (List.mem_cons_of_mem _ hp)) ha
      refine ⟨cl, ?_, h2, h3, fun p hp e => ?_⟩
      · rw [← h1]
        simp only [List.forIn_cons, hk', Bool.false_eq_true, if_false, pure_bind]
      · rcases List.mem_cons.mp hp with rfl | hp
        · exact absurd e hk
        · exact h4 p hp e
theorem closure_of {scope : Scope} {env : Env} (hf : ∀ p ∈ scope.names, p.2 = .free → ∃ ca, env.cells.lookup p.1 = some ca) :
    ∃ cl, closureFor scope env = pure cl ∧ ∀ p ∈ scope.names, p.2 = .free → ∃ ca, env.cells.lookup p.1 = some ca ∧ cl.lookup p.1 = some ca := by
  obtain ⟨cl, h1, h2, _, h4⟩ := closure_go env scope.names [] hf (fun _ _ h => by cases h)
  refine ⟨cl, h1, fun p hp e => ?_⟩
  obtain ⟨ca, hc⟩ := Option.isSome_iff_exists.mp (h4 p hp e)
  exact ⟨ca, h2 _ _ hc, hc⟩
noncomputable def relabS (scope S : Scope) : Scope :=
  { scope with names := scope.names.map fun (n, k) => if (k == .free && S.kind == .function && S.names.lookup n == some .cell) then (n, .cell) else (n, k) }
theorem relab_eq (scope : Scope) (env : Env) : relabel scope env = relabS scope env.scope := rfl
structure CmpOk (c c' : FC) (scope : Scope) (fr : List Nat) (nl : Nat) : Prop where
  good : c'.Good
  cs : c'.cs = relabS scope c.cs
  kind : scope.kind = .function
  nocell : ∀ y ∈ scope.names, y.2 ≠ .cell
  lname : ∀ y ∈ scope.names, y.2 = .local → scope.names.lookup y.1 = some .local
  free : ∀ p ∈ scope.names, p.2 = .free → ∃ i ∈ fr, c.names[i]? = some (p.1, true)
  names : ∀ k x b, c'.names[nl + k]? = some (x, b) → b = true ∧ ∃ i, fr[k]? = some i ∧ c.names[i]? = some (x, true) ∧ (x, NameKind.free) ∈ scope.names
noncomputable def pick : List Nat → Rε → Option (List (Option AV))
  | [], _ => some []
  | i :: r, ε => match ε[i]? with
    | some (some a) => (match pick r ε with
      | some es => some (some a :: es)
      | none => none)
    | _ => none
theorem pick_get : ∀ {fr : List Nat} {ε : Rε} {es : List (Option AV)}, pick fr ε = some es → ∀ {k i : Nat}, fr[k]? = some i → ∃ a, ε[i]? = some (some a) ∧ es[k]? = some (some a)
  | [], _, _, _, _, _, h => by cases h
  | i :: r, ε, es, h, k, j, hk => by
    unfold pick at h
    split at h
    · rename_i a ha
      split at h
      · rename_i es' h'
        cases h
        cases k with
        | zero => cases hk; exact ⟨a, ha, rfl⟩
        | succ k => exact pick_get h' (k := k) hk
      · cases h
    · cases h
theorem pick_len : ∀ {fr : List Nat} {ε : Rε} {es : List (Option AV)}, pick fr ε = some es → es.length = fr.length
  | [], _, _, h => by cases h; rfl
  | i :: r, ε, es, h => by
    unfold pick at h
    split at h
    · split at h
      · rename_i es' h'
        cases h
        simp [pick_len h']
      · cases h
    · cases h
inductive TgC (c : FC) : Bool → Expr → Sto → Prop
  | name {x : Str} {p : Pos} {i : Nat} : c.names[i]? = some (x, false) → TgC c true (.Name x p) (dSto (i, false))
  | two {pl : Bool} {x y : Str} {px py p : Pos} {i j k : Nat} : c.names[i]? = some (x, false) → c.names[j]? = some (y, false) → TgC c pl (.Tuple [.Name x px, .Name y py] k p) (dStoTup [(i, false), (j, false)])
section
variable {g : Gl} {n : Nat} {c c' : FC}
/-- a comprehension's own state -/
structure CPre (g : Gl) (n : Nat) (c : FC) (φ : Fx) (env : Env) (own frz R : Led) (oC : Obj) (m ml : Str → Option Value) (ε : Rε) (σ : List AO) (s : Shared) : Prop where
  ok : φ.Ok g n
  eok : EnvOk c env
  inv : Inv g φ ⟨own, frz, (env.locals, oC) :: R⟩ m σ s
  ns : NsObj oC ml
  er : EnvR g c env ⟨own, frz, (env.locals, oC) :: R⟩ ml ε
theorem CPre.pre {φ : Fx} {env : Env} {own frz R : Led} {oC : Obj} {m ml : Str → Option Value} {ε : Rε} {σ : List AO} {s : Shared} (P : CPre g n c φ env own frz R oC m ml ε σ s) : Pre g n c φ env ⟨own, frz, (env.locals, oC) :: R⟩ m ml ε σ s :=
  ⟨P.ok, P.eok, P.inv, .inr ⟨oC, List.mem_cons_self .., P.ns⟩, P.er⟩
theorem stoC {φ : Fx} {env : Env} {own frz R : Led} {oC : Obj} {m ml : Str → Option Value} {ε : Rε} {σ : List AO} {s : Shared} {i : Nat} {x : Str} {a : AV} {v : Value} (P : CPre g n c φ env own frz R oC m ml ε σ s) (hx : c.names[i]? = some (x, false)) (V : VRel g (keys own) frz a v)
    {Q : Unit → Shared → Prop} {E : Value → Shared → Prop} (q : ∀ oC' ml' s', CPre g n c φ env own frz R oC' m ml' (ε.set i (some a)) σ s' → Q () s') : wpAny (model g.prog g.w) φ.A (storeName env x v) Q E s := by
  obtain ⟨h1, h2⟩ := P.eok.good.kinds i x false hx
  have hg := (P.inv.news (env.locals, oC) (List.mem_append_right _ (List.mem_append_left _ (List.mem_cons_self ..)))).1
  obtain ⟨es, ep, k1, k2, k3⟩ := P.ns
  refine wpAny_storeName_local (m := ml) (by unfold Env.kindOf; rw [P.eok.scope]; exact h1) ⟨oC, es, ep, hg, k1, k2, k3⟩ (fun h' hn hs => ?_) (by rw [P.eok.scope, P.eok.good.kind]; rfl)
  obtain ⟨o', es', ep', j0, j1, j2, j3⟩ := hn
  have I' : Inv g φ ⟨own, frz, [] ++ ([(env.locals, o')] ++ R)⟩ m σ { s with heap := h', toks := s.toks + 1 } := Inv.moveT (P := []) (T := [(env.locals, oC)]) (T' := [(env.locals, o')]) (wr := [env.locals]) P.inv (fun b hb => hb) (fun b o hb e => hs.extBut b o (fun h => hb (by simp [h])) e)
    (.inr ⟨rfl, fun p hp => by rw [List.mem_singleton.mp hp]; exact j0⟩) (s.toks + 1)
  refine q o' _ _ ⟨P.ok, P.eok, I', ⟨es', ep', j1, j2, j3⟩, ?_⟩
  exact (P.er.set P.eok.good hx V).grow ⟨⟨[], by simp [Wd.ks]⟩, ⟨[], rfl⟩⟩
theorem TgC.sto {pl : Bool} {t : Expr} {d : Sto} (h : TgC c pl t d) {φ : Fx} {env : Env} {own frz R : Led} {oC : Obj} {m ml : Str → Option Value} {ε ε' : Rε} {σ σ' : List AO} {s : Shared} {a : AV} {v : Value} (P : CPre g n c φ env own frz R oC m ml ε σ s)
    (V : TV g pl ⟨own, frz, (env.locals, oC) :: R⟩ s.heap a v) (hd : d a ε σ = some (ε', σ'))
    {Q : Unit → Shared → Prop} {E : Value → Shared → Prop} (q : ∀ oC' ml' s', CPre g n c φ env own frz R oC' m ml' ε' σ' s' → Q () s') : wpAny (model g.prog g.w) φ.A (assign t env v) Q E s := by
  cases h with
  | name hx =>
    cases hd
    exact assign_Name (stoC P hx V q)
  | two hx hy =>
    unfold dStoTup at hd
    split at hd
    · rename_i as
      split at hd
      · rename_i hlen
        obtain ⟨T, vs, rfl, h3, h4⟩ := V.tup P.ok P.inv
        have hlen' := Nat.eq_of_beq_eq_true hlen
        cases h4 with
        | nil => exact absurd hlen' (by simp)
        | cons V1 r =>
        cases r with
        | nil => exact absurd hlen' (by simp)
        | cons V2 r =>
        cases r with
        | cons _ _ => exact absurd hlen' (by simp)
        | nil =>
          simp only [dStoL, dSto] at hd
          cases hd
          refine unpackN_ P.inv.fr P.inv.news h3 P.ok.handled rfl rfl fun h' F N => ?_
          have I'' : Inv g φ ⟨own, frz, (env.locals, oC) :: R⟩ m σ { s with heap := h' } := ⟨F, N, P.inv.nodup, P.inv.heap, P.inv.gens, P.inv.drawn, P.inv.os⟩
          have P' : CPre g n c φ env own frz R oC m ml ε σ { s with heap := h' } := ⟨P.ok, P.eok, I'', P.ns, P.er⟩
          refine assignInOrder_cons (assign_Name (stoC P' hx V1 fun oC' ml' s' P2 => ?_))
          exact assignInOrder_cons (assign_Name (stoC P2 hy V2 fun oC' ml' s' P3 => assignInOrder_nil (q _ _ _ P3)))
      · cases hd
    · cases hd

noncomputable def dTest : Option TDen → TDen
  | none => fun _ σ => some (true, σ)
  | some t => t
noncomputable def dCmpL (get : Nat → List AO → Option (Option AV)) (sto : Sto) (test : Option TDen) (de : EDen) (D : Nat) : Nat → Nat → Rε → List AO → Option (List AO)
  | 0, _, _, _ => none
  | f + 1, k, ε, σ => match get k σ with
    | none => none
    | some none => some σ
    | some (some x) => (match sto x ε σ with
      | none => none
      | some (ε, σ) => (match dTest test ε σ with
        | none => none
        | some (false, σ) => dCmpL get sto test de D f (k + 1) ε σ
        | some (true, σ) => (match de ε σ with
          | none => none
          | some (y, σ) => (match fAppend [.ref D, y] σ with
            | some (.none, σ) => dCmpL get sto test de D f (k + 1) ε σ
            | _ => none))))
noncomputable def nones : Nat → Rε
  | 0 => []
  | k + 1 => Option.none :: nones k
theorem nones_len : ∀ k, (nones k).length = k
  | 0 => rfl
  | k + 1 => congrArg (· + 1) (nones_len k)
theorem nones_get : ∀ (k i : Nat) (a : Option AV), (nones k)[i]? = some a → a = Option.none
  | 0, _, _, h => by cases h
  | k + 1, 0, _, h => by cases h; rfl
  | k + 1, i + 1, a, h => nones_get k i a h
noncomputable def dCmp (fuel : Nat) (dI : IDen) (sto : Sto) (test : Option TDen) (de : EDen) (nl : Nat) (fr : List Nat) : EDen := fun ε σ => match dI ε σ with
  | none => none
  | some (G, σ) => (match pick fr ε with
    | none => none
    | some es => (match dCmpL G.get sto test de σ.length fuel 0 (nones nl ++ es) (σ ++ [.list []]) with
      | some σ' => some (.ref σ.length, σ')
      | none => none))
theorem ExtT.refl' {own frz t t' : Led} : ExtT ⟨own, frz, t⟩ ⟨own, frz, t'⟩ := ⟨⟨[], by simp [Wd.ks]⟩, ⟨[], rfl⟩⟩
theorem Trn.ext {pl : Bool} {target : Expr} {it : Value} {J : Nat → Led → Prop} {get : Nat → List AO → Option (Option AV)} {W W' : Wd} (tr : Trn g n pl target it J get W) (X : ExtT W W') : Trn g n pl target it J get W' :=
  ⟨fun φ own frz P T R m σ s k r O I J' X' => tr.turn φ own frz P T R m σ s k r O I J' (X.trans X'), fun φ own frz P T R m σ s k O I J' X' => tr.self φ own frz P T R m σ s k O I J' (X.trans X')⟩

/-- the tests of a clause -/
inductive CT (g : Gl) (n : Nat) (c : FC) : List Expr → Option TDen → Prop
  | none : CT g n c [] Option.none
  | one {e : Expr} {t : TDen} : TS g n c e t → CT g n c [e] (some t)

/-- one state of the loop -/
noncomputable def CSt (g : Gl) (n : Nat) (c' : FC) (φ : Fx) (env : Env) (W : Wd) (m : Str → Option Value) (pl : Bool) (target : Expr) (it acc : Value) (J : Nat → Led → Prop) (G : Itr) (D : Nat) (sto : Sto) (test : Option TDen) (de : EDen) (σ' : List AO) (f : Nat) (s : Shared) : Prop :=
  ∃ k T own frz oC ml ε σ, CPre g n c' φ env own frz (T ++ W.tmp) oC m ml ε σ s ∧ J k T ∧ ExtT W ⟨own, frz, T ++ W.tmp⟩ ∧ Trn g n pl target it J G.get ⟨own, frz, T ++ W.tmp⟩ ∧ VRel g (keys own) frz (.ref D) acc ∧ dCmpL G.get sto test de D f k ε σ = some σ'

theorem cmpLoop {φ : Fx} {env : Env} {W : Wd} {m : Str → Option Value} {pl : Bool} {target iter elt : Expr} {ifs : List Expr} {scope : Scope} {pos : Pos} {it acc : Value} {J : Nat → Led → Prop} {G : Itr} {D : Nat} {sto : Sto} {test : Option TDen} {de : EDen} {σ' : List AO}
    (ht : TgC c' pl target sto) (hc : CT g n c' ifs test) (he : ES g n c' elt de) {R : Result → Shared → Prop}
    (hR : ∀ own frz oC ml s', Inv g φ ⟨own, frz, (env.locals, oC) :: W.tmp⟩ m σ' s' → NsObj oC ml → ExtT W ⟨own, frz, W.tmp⟩ → VRel g (keys own) frz (.ref D) acc → R (.ok .next) s')
    (f : Nat) {s : Shared} (h : CSt g n c' φ env W m pl target it acc J G D sto test de σ' f s) :
    codeAny (model g.prog g.w) φ.A (.compLoop (.ListComp elt [⟨target, iter, ifs, 0⟩] scope pos) 0 it acc env) R s := by
  have turn : ∀ (f : Nat) (s : Shared) (E : Value → Shared → Prop), CSt g n c' φ env W m pl target it acc J G D sto test de σ' f s → ∀ (Qn : Shared → Prop) (Qs : Value → Shared → Prop),
      (∀ s', R (.ok .next) s' → Qn s') →
      (∀ v s₁ f' x k T own frz oC ml ε ε₁ σ σ₁, f = f' + 1 → CPre g n c' φ env own frz (T ++ W.tmp) oC m ml ε σ s₁ → J (k + 1) T → ExtT W ⟨own, frz, T ++ W.tmp⟩ → Trn g n pl target it J G.get ⟨own, frz, T ++ W.tmp⟩ → VRel g (keys own) frz (.ref D) acc →
        TV g pl ⟨own, frz, (env.locals, oC) :: (T ++ W.tmp)⟩ s₁.heap x v → sto x ε σ = some (ε₁, σ₁) →
        (match dTest test ε₁ σ₁ with
        | none => none
        | some (false, σ) => dCmpL G.get sto test de D f' (k + 1) ε₁ σ
        | some (true, σ) => (match de ε₁ σ with
          | none => none
          | some (y, σ) => (match fAppend [.ref D, y] σ with
            | some (.none, σ) => dCmpL G.get sto test de D f' (k + 1) ε₁ σ
            | _ => none))) = some σ' → Qs v s₁) →
      wpAny (model g.prog g.w) φ.A (pyNext it) (fun r s₁ => match r with | none => Qn s₁ | some v => wpAny (model g.prog g.w) φ.A (letOwnedTupleGo target it v) (fun _ s₂ => Qs v s₂) E s₁) E s := by
    rintro f s E ⟨k, T, own, frz, oC, ml, ε, σ, P, hJ, X, tr, hacc, hd⟩ Qn Qs qn qs
    cases f with
    | zero => cases hd
    | succ f =>
      unfold dCmpL at hd
      split at hd
      · cases hd
      · rename_i hg
        cases hd
        refine tr.turn φ own frz [(env.locals, oC)] T W.tmp m σ' s k none P.ok P.inv hJ ExtT.refl' hg Qn Qs E (fun _ s₃ I₃ => qn _ ?_) (fun x h => by cases h)
        exact hR own frz oC ml s₃ I₃ P.ns ⟨X.1, X.2⟩ hacc
      · rename_i x hg
        split at hd
        · cases hd
        · rename_i ε₁ σ₁ h1
          refine tr.turn φ own frz [(env.locals, oC)] T W.tmp m σ s k (some x) P.ok P.inv hJ ExtT.refl' hg Qn Qs E (fun h => by cases h) fun x' h v T₃ s₃ I₃ hJ₃ tv => ?_
          cases h
          exact qs v s₃ f x k T₃ own frz oC ml ε ε₁ σ σ₁ rfl ⟨P.ok, P.eok, I₃, P.ns, P.er.grow ExtT.refl'⟩ hJ₃ ⟨X.1, X.2⟩ (tr.ext ExtT.refl') hacc tv h1 hd
  have body : ∀ (f k : Nat) (s₁ : Shared) (T own frz : Led) (oC : Obj) (ml : Str → Option Value) (ε : Rε) (σ : List AO) (E : Value → Shared → Prop), CPre g n c' φ env own frz (T ++ W.tmp) oC m ml ε σ s₁ → J (k + 1) T → ExtT W ⟨own, frz, T ++ W.tmp⟩ → Trn g n pl target it J G.get ⟨own, frz, T ++ W.tmp⟩ → VRel g (keys own) frz (.ref D) acc →
      (match de ε σ with
          | none => none
          | some (y, σ) => (match fAppend [.ref D, y] σ with
            | some (.none, σ) => dCmpL G.get sto test de D f (k + 1) ε σ
            | _ => none)) = some σ' →
      wpAny (model g.prog g.w) φ.A (eval elt env) (fun x s₄ => wpAny (model g.prog g.w) φ.A (PySem.call (.builtin "list.append") [acc, x]) (fun _ s₅ => ∃ m', m' < f + 1 ∧ CSt g n c' φ env W m pl target it acc J G D sto test de σ' m' s₅) E s₄) E s₁ := by
    intro f k s₁ T own frz oC ml ε σ E P hJ X tr hacc hd
    split at hd
    · cases hd
    · rename_i y σ₂ h2
      split at hd
      · rename_i σ₃ h3
        refine he.run _ _ _ _ _ _ _ _ _ _ P.pre h2 _ _ fun v W₂ s₂ I₂ E₂ V₂ => ?_
        refine appendM.call _ _ _ _ _ _ _ _ _ P.ok I₂ (.cons (hacc.ext E₂) (.cons V₂ .nil)) h3 _ _ fun u W₃ s₃ I₃ E₃ V₃ => ?_
        obtain ⟨own₃, frz₃, tmp₃⟩ := W₃
        have E4 := E₂.trans E₃
        have e3 : tmp₃ = (env.locals, oC) :: (T ++ W.tmp) := E4.2.2
        subst e3
        have X3 : ExtT ⟨own, frz, T ++ W.tmp⟩ ⟨own₃, frz₃, T ++ W.tmp⟩ := ⟨E4.1, E4.2.1⟩
        exact ⟨f, Nat.lt_succ_self f, k + 1, T, own₃, frz₃, oC, ml, ε, σ₃, ⟨P.ok, P.eok, I₃, P.ns, P.er.grow E4.t⟩, hJ, X.trans X3, tr.ext X3, hacc.ext E4, hd⟩
      · cases hd
  cases hc with
  | none =>
    refine kcp_loop (fun f s => CSt g n c' φ env W m pl target it acc J G D sto Option.none de σ' f s) (fun f s hS => ?_) f h
    refine turn f s _ hS _ _ (fun s' h => h) fun v s₁ f' x k T own frz oC ml ε ε₁ σ σ₁ hf P hJ X tr hacc tv h1 hd => ?_
    subst hf
    refine ht.sto P tv h1 fun oC' ml' s' P' => ?_
    exact body f' k s' T own frz oC' ml' ε₁ σ₁ _ P' hJ X tr hacc hd
  | one hT =>
    rename_i e t
    refine kct_loop (fun f s => CSt g n c' φ env W m pl target it acc J G D sto (some t) de σ' f s) (fun f s hS => ?_) f h
    refine turn f s _ hS _ _ (fun s' h => h) fun v s₁ f' x k T own frz oC ml ε ε₁ σ σ₁ hf P hJ X tr hacc tv h1 hd => ?_
    subst hf
    refine ht.sto P tv h1 fun oC' ml' s' P' => ?_
    unfold dTest at hd
    simp only at hd
    split at hd
    · cases hd
    · rename_i σ₂ h2
      refine hT.run _ _ _ _ _ _ _ _ _ _ P'.pre h2 _ _ fun W₂ s₂ I₂ E₂ => ?_
      simp only [Bool.false_eq_true, if_false]
      obtain ⟨own₂, frz₂, tmp₂⟩ := W₂
      have e3 : tmp₂ = (env.locals, oC') :: (T ++ W.tmp) := E₂.2.2
      subst e3
      have X3 : ExtT ⟨own, frz, T ++ W.tmp⟩ ⟨own₂, frz₂, T ++ W.tmp⟩ := ⟨E₂.1, E₂.2.1⟩
      exact ⟨f', Nat.lt_succ_self f', k + 1, T, own₂, frz₂, oC', ml', ε₁, σ₂, ⟨P'.ok, P'.eok, I₂, P'.ns, P'.er.grow E₂.t⟩, hJ, X.trans X3, tr.ext X3, hacc.ext E₂, hd⟩
    · rename_i σ₂ h2
      refine hT.run _ _ _ _ _ _ _ _ _ _ P'.pre h2 _ _ fun W₂ s₂ I₂ E₂ => ?_
      simp only [if_true]
      obtain ⟨own₂, frz₂, tmp₂⟩ := W₂
      have e3 : tmp₂ = (env.locals, oC') :: (T ++ W.tmp) := E₂.2.2
      subst e3
      have X3 : ExtT ⟨own, frz, T ++ W.tmp⟩ ⟨own₂, frz₂, T ++ W.tmp⟩ := ⟨E₂.1, E₂.2.1⟩
      exact body f' k s₂ T own₂ frz₂ oC' ml' ε₁ σ₂ _ ⟨P'.ok, P'.eok, I₂, P'.ns, P'.er.grow E₂.t⟩ hJ (X.trans X3) (tr.ext X3) (hacc.ext E₂) hd
theorem compRun {φ : Fx} {env : Env} {W : Wd} {m ml : Str → Option Value} {ε : Rε} {σ σ' : List AO} {s : Shared} {x : AV} {pl : Bool} {target iter elt : Expr} {ifs : List Expr} {scope : Scope} {pos pos' : Pos} {dI : IDen} {sto : Sto} {test : Option TDen} {de : EDen} {nl fuel : Nat} {fr : List Nat}
    (K : CmpOk c c' scope fr nl) (hi : IS g n c pl target iter dI) (ht : TgC c' pl target sto) (hc : CT g n c' ifs test) (he : ES g n c' elt de) (hs : ∀ env x, foldedSetIterable iter env x = pure x)
    (P : Pre g n c φ env W m ml ε σ s) (hd : dCmp fuel dI sto test de nl fr ε σ = some (x, σ')) {use : Option (Value → Sem Unit)} {Q E : Value → Shared → Prop}
    (q : ∀ acc C oC ml' own frz s', Inv g φ ⟨own, frz, (C, oC) :: W.tmp⟩ m σ' s' → NsObj oC ml' → ExtT W ⟨own, frz, W.tmp⟩ → VRel g (keys own) frz x acc → compPost (model g.prog g.w) φ.A E use Q acc C (.ok .next) s') :
    wpAny (model g.prog g.w) φ.A (comprehension (.ListComp elt [⟨target, iter, ifs, 0⟩] scope pos) scope env pos' (newList []) false (eval iter env) use) Q E s := by
  unfold dCmp at hd
  split at hd
  · cases hd
  · rename_i G σ₁ h1
    split at hd
    · cases hd
    · rename_i es hp
      split at hd
      · rename_i σ₂ h2
        cases hd
        have hfree : ∀ p ∈ scope.names, p.2 = .free → ∃ ca, env.cells.lookup p.1 = some ca := by
          intro p hp' e
          obtain ⟨i, hi', hn⟩ := K.free p hp' e
          obtain ⟨k, hk⟩ := List.getElem?_of_mem hi'
          obtain ⟨a, ha, _⟩ := pick_get hp hk
          obtain ⟨j, ca, _, h3, _⟩ := P.er i p.1 true a hn ha
          exact ⟨ca, h3⟩
        obtain ⟨cl, hcl, hcl2⟩ := closure_of hfree
        refine wpAny_comprehension_free rfl (hs _) hcl K.kind K.lname ?_
        refine hi.run _ _ _ _ _ _ _ _ _ _ P h1 _ _ fun it own frz T J s₂ I₂ X₂ hJ tr => ?_
        refine newList_K I₂.fr I₂.news (fun l h' F N hlt => ?_) (by decide)
        obtain ⟨I₃, E₃, V₃⟩ := I₂.addO (x := .list []) F N hlt (.list .nil) s₂.toks
        refine wpAny_newFunctionEnv K.nocell (by intro y hy; simp at hy) (fun h₄ hns hsb => ?_) K.kind
        obtain ⟨oC, ces, cep, g0, g1, g2, g3⟩ := hns
        have keep : ∀ b o, h'.get? b = some o → h₄.get? b = some o := fun b o e => hsb.extBut b o (Nat.ne_of_lt (Heap.lt_size e)) (Heap.get?_push_of_some _ e)
        have I₄ := I₃.addTs (T := [(h'.objs.size, oC)]) keep (fun p hp => by rw [List.mem_singleton.mp hp]; exact ⟨g0, Nat.le_refl _⟩) (by simp [keys]) (s₂.toks + ([] : List (Str × Value)).length)
        have X₃ : ExtT W ⟨own ++ [(l, PySem.W.listOf [].toArray 0)], frz, T ++ W.tmp⟩ := X₂.trans E₃.t
        have V₃' : VRel g (keys (own ++ [(l, PySem.W.listOf [].toArray 0)])) frz (.ref σ₁.length) (.ref l) := V₃
        have er₄ : EnvR g c' { newEnv scope h'.objs.size env.globals cl env.qual none .none (some env) builtinsNs with scope := relabel scope env } ⟨own ++ [(l, PySem.W.listOf [].toArray 0)], frz, [(h'.objs.size, oC)] ++ (T ++ W.tmp)⟩ (fun x => ([] : List (Str × Value)).reverse.lookup x) (nones nl ++ es) := by
          intro k x b a hx ha
          by_cases hk : k < nl
          · rw [List.getElem?_append_left (by rw [nones_len]; exact hk)] at ha
            cases nones_get _ _ _ ha
          · rw [List.getElem?_append_right (by rw [nones_len]; omega), nones_len] at ha
            have e : nl + (k - nl) = k := by omega
            obtain ⟨hb, i, hi', hn, hm⟩ := K.names (k - nl) x b (by rw [e]; exact hx)
            subst hb
            obtain ⟨a', h5, h6⟩ := pick_get hp hi'
            rw [h6] at ha
            cases ha
            obtain ⟨j, ca, h7, h8, h9⟩ := P.er i x true a hn h5
            obtain ⟨ca', h10, h11⟩ := hcl2 _ hm rfl
            have h10' : env.cells.lookup x = some ca' := h10
            rw [h8] at h10'
            cases h10'
            exact ⟨j, ca, h7, h11, X₃.grows.1 _ _ h9⟩
        have loop := cmpLoop (c' := c') (φ := φ) (env := { newEnv scope h'.objs.size env.globals cl env.qual none .none (some env) builtinsNs with scope := relabel scope env }) (W := W) (m := m) (acc := .ref l) (it := it) (iter := iter) (scope := scope) (pos := pos) (J := J) (G := G) (D := σ₁.length) (σ' := σ') ht hc he
          (R := compPost (model g.prog g.w) φ.A E use Q (.ref l) h'.objs.size) (fun own' frz' oC' ml' s' I' ns' X' V' => q (.ref l) h'.objs.size oC' ml' own' frz' s' I' ns' X' V') fuel
          (s := { s₂ with heap := h₄, toks := s₂.toks + ([] : List (Str × Value)).length })
          ⟨0, T, own ++ [(l, PySem.W.listOf [].toArray 0)], frz, oC, _, nones nl ++ es, σ₁ ++ [AO.list []], ⟨P.ok, ⟨K.good, by rw [K.cs, ← P.eok.scope]; rfl, P.eok.globals, P.eok.builtins⟩, I₄, ⟨ces, cep, g1, g2, g3⟩, er₄⟩, hJ, X₃, tr.ext E₃.t, V₃', h2⟩
        exact codeAny_compStart_list loop (tr.self φ _ _ [(h'.objs.size, oC)] T W.tmp m _ _ 0 P.ok I₄ hJ (E₃.t.trans ExtT.refl') _ _ loop)
      · cases hd
theorem compEnd {φ : Fx} {W : Wd} {m ml' : Str → Option Value} {σ' : List AO} {own frz : Led} {C : Addr} {oC : Obj} {s' : Shared} (I : Inv g φ ⟨own, frz, (C, oC) :: W.tmp⟩ m σ' s') (ns : NsObj oC ml') :
    s'.heap.Ns C ml' ∧ ∀ h', Heap.SameBut C s'.heap h' → Inv g φ ⟨own, frz, W.tmp⟩ m σ' { s' with heap := h' } := by
  obtain ⟨ces, cep, g1, g2, g3⟩ := ns
  have hg := (I.news (C, oC) (List.mem_append_right _ (List.mem_append_left _ (List.mem_cons_self ..)))).1
  refine ⟨⟨oC, ces, cep, hg, g1, g2, g3⟩, fun h' hs => ?_⟩
  exact Inv.moveT (P := []) (T := [(C, oC)]) (T' := []) (R := W.tmp) (wr := [C]) I (fun b hb => hb) (fun b o hb e => hs.extBut b o (fun h => hb (by simp [h])) e) (.inl rfl) s'.toks
theorem ES.comp {pl : Bool} {target iter elt : Expr} {ifs : List Expr} {scope : Scope} {pos : Pos} {dI : IDen} {sto : Sto} {test : Option TDen} {de : EDen} {nl : Nat} {fr : List Nat} (fuel : Nat)
    (K : CmpOk c c' scope fr nl) (hi : IS g n c pl target iter dI) (ht : TgC c' pl target sto) (hc : CT g n c' ifs test) (he : ES g n c' elt de) (hs : ∀ env x, foldedSetIterable iter env x = pure x) :
    ES g n c (.ListComp elt [⟨target, iter, ifs, 0⟩] scope pos) (dCmp fuel dI sto test de nl fr) := by
  refine ⟨?_⟩; intro φ env W m ml ε σ s x σ' P hd Q E q
  rw [eval_ListComp]
  refine compRun K hi ht hc he hs P hd fun acc C oC ml' own frz s' I ns X V => ?_
  obtain ⟨h1, h2⟩ := compEnd (W := W) I ns
  exact ⟨_, h1, fun h' hs' => q acc ⟨own, frz, W.tmp⟩ _ (h2 h' hs') ⟨X.1, X.2, rfl⟩ V⟩
/-- y = [... for ...] on one line -/
theorem SS.asgC {pl : Bool} {target iter elt : Expr} {ifs : List Expr} {scope : Scope} {cpos pos xp : Pos} {x : Str} {t : Tgt} {dI : IDen} {sto : Sto} {test : Option TDen} {de : EDen} {nl : Nat} {fr : List Nat} (fuel : Nat)
    (K : CmpOk c c' scope fr nl) (hi : IS g n c pl target iter dI) (ht : TgC c' pl target sto) (hc : CT g n c' ifs test) (he : ES g n c' elt de) (hs : ∀ env x, foldedSetIterable iter env x = pure x) (hx : c.names[t.1]? = some (x, t.2))
    (hsw : ∀ env : Env, env.scope = c.cs → swapsWith (.ListComp elt [⟨target, iter, ifs, 0⟩] scope cpos) (some (.Name x xp)) pos.line env = pure true) :
    SS g n c (.Assign [.Name x xp] (.ListComp elt [⟨target, iter, ifs, 0⟩] scope cpos) pos) (dAsg t (dCmp fuel dI sto test de nl fr)) := by
  refine ⟨?_⟩; intro φ W m ε σ s fl ε' σ' P hd Q E q
  unfold dAsg at hd
  split at hd
  · rename_i a σ₁ h1
    split at hd
    · rename_i ε₁ σ₂ h2
      cases hd
      rw [exec_Assign_Name_used _ _ _ _ (hsw _ P.eok.scope)]
      refine wpAny_bind (wpAny_standAt (wpAny_bind ?_))
      show wpAny _ φ.A (do let _ ← comprehension (.ListComp elt [⟨target, iter, ifs, 0⟩] scope cpos) scope φ.env _ (newList []) false (eval iter φ.env) (some (assign (.Name x xp) φ.env))) _ _ s
      refine wpAny_bind (wpAny_mono (compRun (use := some (assign (.Name x xp) φ.env)) (Q := fun _ s' => Q .next s') K hi ht hc he hs P.pre h1 fun acc C oC ml' own frz s' I ns X V => ?_) (fun _ s' hq => wpAny_pure (wpAny_pure hq)) fun _ _ e => e)
      have P' : SPre g n c φ ⟨own, frz, (C, oC) :: W.tmp⟩ m ε σ₁ s' := P.step I (P.er.grow ⟨X.1, X.2⟩)
      have V' : VR g ⟨own, frz, (C, oC) :: W.tmp⟩ a acc := V
      refine assign_Name (Rn.sto (Q := fun _ s'' => ∃ m, s''.heap.Ns C m ∧ ∀ h', Heap.SameBut C s''.heap h' → Q .next { s'' with heap := h' }) P' hx V' h2 fun W₂ m₂ s₂ I₂ E₂ er₂ => ?_)
      obtain ⟨own₂, frz₂, tmp₂⟩ := W₂
      have e2 : tmp₂ = (C, oC) :: W.tmp := E₂.2.2
      subst e2
      obtain ⟨k1, k2⟩ := compEnd (W := W) I₂ ns
      have X2 : ExtT W ⟨own₂, frz₂, W.tmp⟩ := X.trans ⟨E₂.1, E₂.2.1⟩
      exact ⟨_, k1, fun h' hs' => q _ ⟨own₂, frz₂, W.tmp⟩ _ _ (k2 h' hs') ⟨X2.1, X2.2, rfl⟩ (er₂.grow ExtT.refl') rfl⟩
    · cases hd
  · cases hd
end
end Rn

namespace Rn
open PySem PySem.Spec PySem.Calls PyProof.Rows PySem.W

noncomputable def nmOf : Bool → Str
  | false => Str.ofString "numbers"
  | true => Str.ofString "rows"
/-- what the program's one class is in the fragment -/
structure ClsOk (g : Gl) : Prop where
  get : plainGet g.K g.C (Str.ofString "numbers") = true
  dict : hasDictIn g.K g.C = true
  find : ∀ b, findIn g.K (.ref g.C) (nmOf b) = some Option.none
  set : findIn g.K (.ref g.C) "__setattr__" = some (some (.builtin "object.__setattr__"))
  over : plainOver g.K g.C = true
  taker : ∀ b, takerIn g.K g.C (nmOf b) = some Option.none
theorem getL0 (h1 h2 : Int) (t1 t2 : Tok) (v1 v2 : Value) : getL (Str.ofString "numbers") [⟨h1, .str (Str.ofString "numbers") t1, v1⟩, ⟨h2, .str (Str.ofString "rows") t2, v2⟩] = some (some v1) := by kernel_rfl
theorem getL1 (h1 h2 : Int) (t1 t2 : Tok) (v1 v2 : Value) : getL (Str.ofString "rows") [⟨h1, .str (Str.ofString "numbers") t1, v1⟩, ⟨h2, .str (Str.ofString "rows") t2, v2⟩] = some (some v2) := by kernel_rfl
theorem getLi (h1 : Int) (t1 : Tok) (v1 : Value) : getL (Str.ofString "rows") [⟨h1, .str (Str.ofString "numbers") t1, v1⟩] = some Option.none := by kernel_rfl
theorem put0 (k h1 h2 : Int) (t t1 t2 : Tok) (v v1 v2 : Value) (n : Nat) : (putL (Str.ofString "numbers") k (.str (Str.ofString "numbers") t) v [⟨h1, .str (Str.ofString "numbers") t1, v1⟩, ⟨h2, .str (Str.ofString "rows") t2, v2⟩], putN (Str.ofString "numbers") [⟨h1, .str (Str.ofString "numbers") t1, v1⟩, ⟨h2, .str (Str.ofString "rows") t2, v2⟩] n)
    = ([⟨h1, .str (Str.ofString "numbers") t1, v⟩, ⟨h2, .str (Str.ofString "rows") t2, v2⟩], n) := by kernel_rfl
theorem put1 (k h1 h2 : Int) (t t1 t2 : Tok) (v v1 v2 : Value) (n : Nat) : (putL (Str.ofString "rows") k (.str (Str.ofString "rows") t) v [⟨h1, .str (Str.ofString "numbers") t1, v1⟩, ⟨h2, .str (Str.ofString "rows") t2, v2⟩], putN (Str.ofString "rows") [⟨h1, .str (Str.ofString "numbers") t1, v1⟩, ⟨h2, .str (Str.ofString "rows") t2, v2⟩] n)
    = ([⟨h1, .str (Str.ofString "numbers") t1, v1⟩, ⟨h2, .str (Str.ofString "rows") t2, v⟩], n) := by kernel_rfl
theorem puti (k h1 : Int) (t t1 : Tok) (v v1 : Value) (n : Nat) : (putL (Str.ofString "rows") k (.str (Str.ofString "rows") t) v [⟨h1, .str (Str.ofString "numbers") t1, v1⟩], putN (Str.ofString "rows") [⟨h1, .str (Str.ofString "numbers") t1, v1⟩] n)
    = ([⟨h1, .str (Str.ofString "numbers") t1, v1⟩, ⟨k, .str (Str.ofString "rows") t, v⟩], n + 1) := by kernel_rfl
theorem handed {g : Gl} {rs : List Addr} {frz : Led} {x : AV} {v : Value} (h : VRel g rs frz x v) : handedIn v = true := by cases h <;> rfl

noncomputable def pk (r : Bool) (a b : AV) : AV := match r with
  | false => a
  | true => b
noncomputable def fAttr (r : Bool) : AV → List AO → Option AV
  | .obj i, σ => (match σ[i]? with
    | some (.prog a b) => some (pk r a b)
    | _ => none)
  | .fo a b, _ => some (pk r a b)
  | _, _ => none
noncomputable def dAttr (r : Bool) (d : EDen) : EDen := fun ε σ => match d ε σ with
  | some (x, σ) => (match fAttr r x σ with
    | some y => some (y, σ)
    | none => none)
  | none => none
noncomputable def fSetA (r : Bool) : AV → AV → List AO → Option (List AO)
  | .obj i, v, σ => (match σ[i]?, r with
    | some (.prog _ b), false => some (σ.set i (.prog v b))
    | some (.prog a _), true => some (σ.set i (.prog a v))
    | some .init0, false => some (σ.set i (.init1 v))
    | some (.init1 a), true => some (σ.set i (.prog a v))
    | _, _ => none)
  | _, _, _ => none
noncomputable def dSetA (r : Bool) (dv dO : EDen) : SDen := fun ε σ => match dv ε σ with
  | some (v, σ) => (match dO ε σ with
    | some (o, σ) => (match fSetA r o v σ with
      | some σ => some (.next, ε, σ)
      | none => none)
    | none => none)
  | none => none
section
variable {g : Gl} {n : Nat} {c : FC}
theorem getA (K : ClsOk g) {r : Bool} {φ : Fx} {W : Wd} {m : Str → Option Value} {σ : List AO} {s : Shared} (O : φ.Ok g n) (I : Inv g φ W m σ s) {x y : AV} {v : Value} (V : VR g W x v) (hf : fAttr r x σ = some y) {b : Bool} {Q E : Value → Shared → Prop} (q : ∀ u s', Inv g φ W m σ s' → VR g W y u → Q u s') :
    wpAny (model g.prog g.w) φ.A (getAttr v (nmOf r) b) Q E s := by
  have fin : ∀ {x a : Addr} {h1 h2 : Int} {t1 t2 : Tok} {v1 v2 : Value} {k : Nat} {p1 p2 : AV}, (x, instObj g.C a) ∈ W.frz → s.heap.get? a = some (progDict h1 h2 t1 t2 v1 v2 k) → VR g W p1 v1 → VR g W p2 v2 →
      y = pk r p1 p2 → wpAny (model g.prog g.w) φ.A (getAttr (.ref x) (nmOf r) b) Q E s := by
    intro x a h1 h2 t1 t2 v1 v2 k p1 p2 hx ha V1 V2 hy
    have IA : InstAt s.heap x (instObj g.C a) g.C (some (dictOf [⟨h1, .str (Str.ofString "numbers") t1, v1⟩, ⟨h2, .str (Str.ofString "rows") t2, v2⟩] k)) := ⟨I.has O (.inl hx), rfl, rfl, ha⟩
    cases r with
    | false =>
      subst hy
      exact get_own I.fr O.kin IA K.get K.dict (K.find false) rfl (getL0 ..) (handed V1) (q _ _ (I.tok _) V1)
    | true =>
      subst hy
      exact get_own I.fr O.kin IA K.get K.dict (K.find true) rfl (getL1 ..) (handed V2) (q _ _ (I.tok _) V2)
  cases V with
  | obj hx hr =>
    simp only [fAttr] at hf
    split at hf
    · rename_i p1 p2 hσ
      cases hf
      obtain ⟨a, o, k1, k2, k3, k4⟩ := I.own hσ
      rw [hr] at k2
      cases k2
      cases k4 with
      | prog V1 V2 => exact fin hx k3 V1 V2 rfl
    · cases hf
  | fo hx ha V1 V2 =>
    simp only [fAttr] at hf
    cases hf
    exact fin hx (I.has O (.inl ha)) V1.up V2.up rfl
  | _ => cases hf
theorem ES.attr (K : ClsOk g) {r : Bool} {nm x : Str} {xp pos : Pos} {d : EDen} (hr : nm = nmOf r) (h : ES g n c (.Name x xp) d) : ES g n c (.Attribute (.Name x xp) nm pos) (dAttr r d) := by
  refine ⟨?_⟩; intro φ env W m ml ε σ s y σ' P hd Q E q
  unfold dAttr at hd
  subst hr
  split at hd
  · rename_i x σ₁ h1
    split at hd
    · rename_i y h2
      cases hd
      refine Attribute_Name_ (h.run _ _ _ _ _ _ _ _ _ _ P h1 _ _ fun v W' s' I' E' V' => ?_)
      exact getA K P.ok I' V' h2 fun u s'' I'' V'' => q _ _ _ I'' E' V''
    · cases hd
  · cases hd
theorem setA (K : ClsOk g) {r : Bool} {φ : Fx} {W : Wd} {m : Str → Option Value} {σ σ' : List AO} {s : Shared} (O : φ.Ok g n) (I : Inv g φ W m σ s) {x y : AV} {v u : Value} (V : VR g W x v) (U : VR g W y u) (hf : fSetA r x y σ = some σ') {Q : Unit → Shared → Prop} {E : Value → Shared → Prop}
    (q : ∀ W' s', Inv g φ W' m σ' s' → Ext W W' → Q () s') : wpAny (model g.prog g.w) φ.A (setAttr v (nmOf r) u) Q E s := by
  unfold fSetA at hf
  split at hf
  · rename_i i y' σ₀
    cases V with
    | obj hx hr =>
      rename_i a x
      have X := O.kin
      split at hf <;> cases hf
      · rename_i hσ
        obtain ⟨a', o, k1, k2, k3, k4⟩ := I.own hσ
        rw [hr] at k2
        cases k2
        cases k4 with
        | prog V1 V2 =>
          refine set_dict I.fr X I.news ⟨I.has O (.inl hx), rfl, rfl, k3⟩ rfl K.set K.over (K.taker false) K.dict (by rw [show getL (nmOf false) _ = _ from getL0 ..]; rfl) (put0 ..) (upd_of I.nodup k1) (Nat.le_of_ble_eq_true rfl) fun h' F N => ?_
          obtain ⟨I', E'⟩ := I.setO k1 F N (x := .prog y _) (.prog U V2) (s.toks + 2)
          exact q _ _ I' E'
      · rename_i hσ
        obtain ⟨a', o, k1, k2, k3, k4⟩ := I.own hσ
        rw [hr] at k2
        cases k2
        cases k4 with
        | prog V1 V2 =>
          refine set_dict I.fr X I.news ⟨I.has O (.inl hx), rfl, rfl, k3⟩ rfl K.set K.over (K.taker true) K.dict (by rw [show getL (nmOf true) _ = _ from getL1 ..]; rfl) (put1 ..) (upd_of I.nodup k1) (Nat.le_of_ble_eq_true rfl) fun h' F N => ?_
          obtain ⟨I', E'⟩ := I.setO k1 F N (x := .prog _ y) (.prog V1 U) (s.toks + 2)
          exact q _ _ I' E'
      · rename_i hσ
        obtain ⟨a', o, k1, k2, k3, k4⟩ := I.own hσ
        rw [hr] at k2
        cases k2
        cases k4 with
        | init0 =>
          refine set_dict I.fr X I.news ⟨I.has O (.inl hx), rfl, rfl, k3⟩ rfl K.set K.over (K.taker false) K.dict rfl rfl (upd_of I.nodup k1) (Nat.le_of_ble_eq_true rfl) fun h' F N => ?_
          obtain ⟨I', E'⟩ := I.setO k1 F N (x := .init1 y) (.init1 U) (s.toks + 2)
          exact q _ _ I' E'
      · rename_i hσ
        obtain ⟨a', o, k1, k2, k3, k4⟩ := I.own hσ
        rw [hr] at k2
        cases k2
        cases k4 with
        | init1 V1 =>
          refine set_dict I.fr X I.news ⟨I.has O (.inl hx), rfl, rfl, k3⟩ rfl K.set K.over (K.taker true) K.dict (by rw [show getL (nmOf true) _ = _ from getLi ..]; rfl) (puti ..) (upd_of I.nodup k1) (Nat.le_of_ble_eq_true rfl) fun h' F N => ?_
          obtain ⟨I', E'⟩ := I.setO k1 F N (x := .prog _ y) (.prog V1 U) (s.toks + 2)
          exact q _ _ I' E'
  · cases hf
theorem SS.setA (K : ClsOk g) {r : Bool} {nm : Str} {o value : Expr} {apos pos : Pos} {dv dO : EDen} (hr : nm = nmOf r) (hv : ES g n c value dv) (ho : ES g n c o dO) (hs : ∀ env, swapsWith value (some (.Attribute o nm apos)) pos.line env = pure false) :
    SS g n c (.Assign [.Attribute o nm apos] value pos) (dSetA r dv dO) := by
  refine ⟨?_⟩; intro φ W m ε σ s fl ε' σ' P hd Q E q
  subst hr
  unfold dSetA at hd
  split at hd
  · rename_i v σ₁ h1
    split at hd
    · rename_i o σ₂ h2
      split at hd
      · rename_i σ₃ h3
        cases hd
        refine plainObj_wpAny_Assign_Attribute (hv.run _ _ _ _ _ _ _ _ _ _ P.pre h1 _ _ fun v W' s' I' E' V' => ?_) (hs _)
        refine ho.run _ _ _ _ _ _ _ _ _ _ (P.step I' (P.er.ext E')).pre h2 _ _ fun u W'' s'' I'' E'' V'' => ?_
        exact Rn.setA K P.ok I'' V'' (V'.ext E'') h3 fun W3 s3 I3 E3 => q _ _ _ _ I3 ((E'.trans E'').trans E3) (P.er.ext ((E'.trans E'').trans E3)) rfl
      · cases hd
    · cases hd
  · cases hd

/-! x[i] = v -/
noncomputable def fSetI : AV → AV → AV → List AO → Option (List AO) := fun o i v σ => match o, i with
  | .ref j, .int i => (match σ[j]? with
    | some (.list ys) => (match natOf i with
      | some k => (match Nat.blt k ys.length with
        | true => some (σ.set j (.list (ys.set k v)))
        | false => none)
      | none => none)
    | some (.dict es) => (match dlook es i with
      | none => (match lim es.length with
        | true => some (σ.set j (.dict (es ++ [(i, v)])))
        | false => none)
      | some _ => none)
    | _ => none)
  | _, _ => none
noncomputable def dSetI (dv dO di : EDen) : SDen := fun ε σ => match dv ε σ with
  | some (v, σ) => (match dO ε σ with
    | some (o, σ) => (match di ε σ with
      | some (i, σ) => (match fSetI o i v σ with
        | some σ => some (.next, ε, σ)
        | none => none)
      | none => none)
    | none => none)
  | none => none
theorem DRels.length {rs : List Addr} {frz : Led} : ∀ {es : List (Int × AV)} {kvs : List (Int × Value)}, DRels g rs frz es kvs → es.length = kvs.length
  | _, _, .nil => rfl
  | _, _, .cons _ r => by simp [r.length]
theorem DRels.snoc {rs : List Addr} {frz : Led} {i : Int} {x : AV} {v : Value} (h : VRel g rs frz x v) : ∀ {es : List (Int × AV)} {kvs : List (Int × Value)}, DRels g rs frz es kvs → DRels g rs frz (es ++ [(i, x)]) (kvs ++ [(i, v)])
  | _, _, .nil => .cons h .nil
  | _, _, .cons h' r => .cons h' (r.snoc h)
theorem DRels.miss {rs : List Addr} {frz : Led} {i : Int} : ∀ {es : List (Int × AV)} {kvs : List (Int × Value)}, DRels g rs frz es kvs → dlook es i = none → kvs.any (fun kv => kv.1 = i) = false
  | _, _, .nil, _ => rfl
  | _, _, .cons _ r, h => by
    unfold dlook at h
    split at h
    · cases h
    · rename_i hne _
      simp [hne, r.miss h]
theorem setI {φ : Fx} {W : Wd} {m : Str → Option Value} {σ σ' : List AO} {s : Shared} (_ : φ.Ok g n) (I : Inv g φ W m σ s) {x y z : AV} {v u w : Value} (V : VR g W x v) (U : VR g W y u) (Z : VR g W z w) (hf : fSetI x y z σ = some σ') {Q : Unit → Shared → Prop} {E : Value → Shared → Prop}
    (q : ∀ W' s', Inv g φ W' m σ' s' → Ext W W' → Q () s') : wpAny (model g.prog g.w) φ.A (setItem v u w) Q E s := by
  unfold fSetI at hf
  split at hf
  · rename_i j i
    cases U
    rename_i ti
    cases V with
    | ref hr =>
      rename_i a
      split at hf
      · rename_i ys hy
        split at hf
        · rename_i k hk
          split at hf
          · rename_i hlt
            cases hf
            obtain ⟨rfl, hl⟩ := natOf_eq hk
            obtain ⟨a', o, k1, k2, k3, k4⟩ := I.own hy
            rw [hr] at k2
            cases k2
            cases k4 with
            | list Vs =>
              rename_i vs nn
              have hlt' : k < vs.length := by
                have := (bltD k ys.length).symm.trans hlt
                rw [Vs.length] at this
                simpa using this
              refine ki_setAt k3 (by omega) (by omega) (by rw [List.size_toArray]; omega) ?_
              obtain ⟨I', E'⟩ := I.updO k1 (f := Obj.mapSeq (·.setIfInBounds (k : Int).toNat w)) (o' := PySem.W.listOf (vs.set k w).toArray nn) (x := .list (ys.set k z)) (by rw [mapSeq_list]; simp) rfl (.list (Vs.set Z k)) s.toks
              exact q _ _ I' E'
          · cases hf
        · cases hf
      · rename_i es hy
        split at hf
        · rename_i hmiss
          split at hf
          · rename_i hl
            cases hf
            obtain ⟨a', o, k1, k2, k3, k4⟩ := I.own hy
            rw [hr] at k2
            cases k2
            cases k4 with
            | dict lo hd D =>
              rename_i kvs
              refine wpAny_setItem_pairs (hsz := by rw [← D.length]; exact lim_le hl) (intKind_is g.prog g.w i ti) (Heap.dictOf_iff.mpr ⟨o, k3, hd⟩) fun h' hm hs => ?_
              obtain ⟨o', ho', hd'⟩ := Heap.dictOf_iff.mp hm
              have hmem := I.news (a, o) (List.mem_append_left _ (List.mem_of_getElem? k1))
              obtain ⟨pre, post, e1, e2, e3, e4⟩ := (upd_of (o' := o') I.nodup k1).split
              have N := I.news
              unfold Wd.all at N
              rw [e1] at N
              have N' := news_set N e3 e4 hs ho'
              rw [← e2] at N'
              have hst : stored kvs i w = kvs ++ [(i, w)] := by unfold stored; rw [D.miss hmiss]; simp
              rw [hst] at hd'
              obtain ⟨I', E'⟩ := I.setO k1 (I.fr.change hs hmem.2.1 hmem.2.2) N' (x := .dict (es ++ [(i, z)])) (.dict lo hd' (D.snoc Z)) (s.toks + 1)
              exact q _ _ I' E'
          · cases hf
        · cases hf
      · cases hf
  · cases hf
theorem SS.setI {o i value : Expr} {spos pos : Pos} {dv dO di : EDen} (hv : ES g n c value dv) (ho : ES g n c o dO) (hi : ES g n c i di) (hs : ∀ env, swapsWith value (some (.Subscript o i spos)) pos.line env = pure false) :
    SS g n c (.Assign [.Subscript o i spos] value pos) (dSetI dv dO di) := by
  refine ⟨?_⟩; intro φ W m ε σ s fl ε' σ' P hd Q E q
  unfold dSetI at hd
  split at hd
  · rename_i v σ₁ h1
    split at hd
    · rename_i o σ₂ h2
      split at hd
      · rename_i i σ₃ h3
        split at hd
        · rename_i σ₄ h4
          cases hd
          refine wpAny_Assign_Subscript (hv.run _ _ _ _ _ _ _ _ _ _ P.pre h1 _ _ fun v W' s' I' E' V' => ?_) (hs _)
          have P2 := P.step I' (P.er.ext E')
          refine ho.run _ _ _ _ _ _ _ _ _ _ P2.pre h2 _ _ fun u W'' s'' I'' E'' V'' => ?_
          have P3 := P2.step I'' (P2.er.ext E'')
          refine hi.run _ _ _ _ _ _ _ _ _ _ P3.pre h3 _ _ fun w W3 s3 I3 E3 V3 => ?_
          have EE := (E'.trans E'').trans E3
          exact Rn.setI P.ok I3 (V''.ext E3) V3 (V'.ext (E''.trans E3)) h4 fun W4 s4 I4 E4 => q _ _ _ _ I4 (EE.trans E4) (P.er.ext (EE.trans E4)) rfl
        · cases hd
      · cases hd
    · cases hd
  · cases hd

/-! dicts, texts of numbers -/
noncomputable def dDic : EDen := fun _ σ => some (.ref σ.length, σ ++ [.dict []])
theorem ES.dic {pos : Pos} : ES g n c (.Dict [] [] pos) dDic := by
  refine ⟨?_⟩; intro φ env W m ml ε σ s x σ' P hd Q E q
  cases hd
  refine newDict_K P.inv.fr P.inv.news (P.ok.top.nolimit) fun d h' o F N hlt lo _ _ hi _ => ?_
  obtain ⟨I', E', V'⟩ := P.inv.addO (x := .dict []) F N hlt (.dict lo hi .nil) s.toks
  exact q _ _ _ I' E' V'
noncomputable def okDict (x : AV) (σ : List AO) : Bool := match dictEs σ x with
  | some _ => true
  | none => false
noncomputable def fGet : FL := fun xs σ => match xs with
  | [x, .int i, d] => (match dictEs σ x with
    | some es => (match dlook es i with
      | some y => some (y, σ)
      | none => some (d, σ))
    | none => none)
  | _ => none
theorem getM : MS g n (Str.ofString "get") "dict.get" okDict fGet where
  get := by
    intro φ W m σ s x v O I V hok pl Q E q
    unfold okDict at hok
    split at hok
    · rename_i es he
      obtain ⟨a, o, kvs, rfl, h1, h2, h3, h4⟩ := dict_rel I V he
      exact kdg_method I.news h1 h3 q
    · cases hok
  call := by
    intro φ W m σ s xs vs r σ' O I V hf Q E q
    unfold fGet at hf
    split at hf
    · rename_i x i d
      cases V with | cons V1 V =>
      cases V with | cons V2 V =>
      cases V with | cons V3 V =>
      cases V
      cases V2
      rename_i ti
      split at hf
      · rename_i es he
        obtain ⟨a, o, kvs, rfl, h1, h2, h3, h4⟩ := dict_rel I V1 he
        have lk := h4.look i
        split at hf
        · rename_i y hy
          cases hf
          rw [hy] at lk
          obtain ⟨u, k1, k2⟩ := lk
          exact kdg_get2 I.news h1 h3 h2 (intKind_is _ _ _ _) _ k1 (q.here I k2 _)
        · rename_i hy
          cases hf
          rw [hy] at lk
          exact kdg_get2 I.news h1 h3 h2 (intKind_is _ _ _ _) _ lk (q.here I V3 _)
      · cases hf
    · cases hf
noncomputable def fStr : FL := fun xs σ => match xs with
  | [.int 10] => some (.str [49, 48], σ)
  | [.int 20] => some (.str [50, 48], σ)
  | [.int 30] => some (.str [51, 48], σ)
  | _ => none
theorem strS : OpL g n (kall (.type "str")) fStr := by
  intro φ W m σ s xs vs r σ' O I V hf Q E q
  unfold fStr at hf
  split at hf
  · cases hf
    cases V with | cons h t =>
    cases t
    cases h
    refine P.str_of_int (by decide) ?_
    rw [show (Str.ofString (toString (10 : Int))) = ⟨#[49, 48]⟩ from by kernel_rfl]
    exact q.here I (.str [49, 48] _) _
  · cases hf
    cases V with | cons h t =>
    cases t
    cases h
    refine P.str_of_int (by decide) ?_
    rw [show (Str.ofString (toString (20 : Int))) = ⟨#[50, 48]⟩ from by kernel_rfl]
    exact q.here I (.str [50, 48] _) _
  · cases hf
    cases V with | cons h t =>
    cases t
    cases h
    refine P.str_of_int (by decide) ?_
    rw [show (Str.ofString (toString (30 : Int))) = ⟨#[51, 48]⟩ from by kernel_rfl]
    exact q.here I (.str [51, 48] _) _
  · cases hf
theorem ES.no {e : Expr} : ES g n c e (fun _ _ => none) := by
  refine ⟨?_⟩; intro φ env W m ml ε σ s x σ' P hd
  cases hd
end
end Rn

namespace Rn
open PySem PySem.Spec PySem.Calls PyProof.Rows PySem.W

/-! binding -/
theorem bindL_off {k : Str → Option NameKind} {x : Str} : ∀ (ps : List Str) (vs : List Value) (m : Str → Option Value), x ∉ ps → bindL k (ps.zip vs) m x = m x
  | [], _, _, _ => rfl
  | _ :: _, [], _, _ => rfl
  | p :: ps, v :: vs, m, h => by
    have h1 : x ≠ p := fun e => h (e ▸ List.mem_cons_self ..)
    have h2 : x ∉ ps := fun e => h (List.mem_cons_of_mem _ e)
    show bindL k (ps.zip vs) _ x = _
    rw [bindL_off ps vs _ h2]
    split
    · simp [h1]
    · rfl
theorem bindC_off {k : Str → Option NameKind} {x : Str} : ∀ (ps : List Str) (vs : List Value) (m : Str → Option Value), x ∉ ps → bindC k (ps.zip vs) m x = m x
  | [], _, _, _ => rfl
  | _ :: _, [], _, _ => rfl
  | p :: ps, v :: vs, m, h => by
    have h1 : x ≠ p := fun e => h (e ▸ List.mem_cons_self ..)
    have h2 : x ∉ ps := fun e => h (List.mem_cons_of_mem _ e)
    show bindC k (ps.zip vs) _ x = _
    rw [bindC_off ps vs _ h2]
    split
    · rfl
    · simp [h1]
theorem bindL_at {k : Str → Option NameKind} {x : Str} {v : Value} (hk : k x = some .local) : ∀ (ps : List Str) (vs : List Value) (m : Str → Option Value) (i : Nat), ps.Nodup → ps[i]? = some x → vs[i]? = some v → bindL k (ps.zip vs) m x = some v
  | [], _, _, _, _, h, _ => by cases h
  | _ :: _, [], _, _, _, _, h => by cases h
  | p :: ps, u :: vs, m, 0, nd, h, h' => by
    cases h; cases h'
    show bindL k (ps.zip vs) _ x = _
    rw [bindL_off ps vs _ (List.nodup_cons.mp nd).1, if_pos hk]
    simp
  | p :: ps, u :: vs, m, i + 1, nd, h, h' => bindL_at hk ps vs _ i (List.nodup_cons.mp nd).2 h h'
theorem bindC_at {k : Str → Option NameKind} {x : Str} {v : Value} (hk : k x ≠ some .local) : ∀ (ps : List Str) (vs : List Value) (m : Str → Option Value) (i : Nat), ps.Nodup → ps[i]? = some x → vs[i]? = some v → bindC k (ps.zip vs) m x = some v
  | [], _, _, _, _, h, _ => by cases h
  | _ :: _, [], _, _, _, _, h => by cases h
  | p :: ps, u :: vs, m, 0, nd, h, h' => by
    cases h; cases h'
    show bindC k (ps.zip vs) _ x = _
    rw [bindC_off ps vs _ (List.nodup_cons.mp nd).1, if_neg hk]
    simp
  | p :: ps, u :: vs, m, i + 1, nd, h, h' => bindC_at hk ps vs _ i (List.nodup_cons.mp nd).2 h h'
theorem lookup_idx {α : Type} {x : Str} {a : α} : ∀ (l : List (Str × α)) (i : Nat), (l.map (·.1)).Nodup → l[i]? = some (x, a) → l.lookup x = some a
  | [], _, _, h => by cases h
  | (y, b) :: l, 0, _, h => by
    cases h
    simp
  | (y, b) :: l, i + 1, nd, h => by
    have nd' := List.nodup_cons.mp nd
    have h' : l[i]? = some (x, a) := h
    have hne : (x == y) = false := by
      refine beq_eq_false_iff_ne.mpr fun e => nd'.1 ?_
      subst e
      exact List.mem_map.mpr ⟨(x, a), List.mem_of_getElem? h', rfl⟩
    rw [List.lookup_cons, hne]
    exact lookup_idx l i nd'.2 h'

noncomputable def idx (i : Nat) : List Nat → Nat
  | [] => 0
  | j :: r => match Nat.beq i j with
    | true => 0
    | false => idx i r + 1
theorem idx_get {i : Nat} : ∀ {l : List Nat}, i ∈ l → l[idx i l]? = some i
  | [], h => nomatch h
  | j :: r, h => by
    unfold idx
    split
    · rename_i e
      rw [Nat.eq_of_beq_eq_true e]; rfl
    · rename_i e
      have : i ≠ j := fun q => by subst q; simp at e
      rcases List.mem_cons.mp h with h | h
      · exact absurd h this
      · exact idx_get h
noncomputable def cellVals (xs : List AV) : List Nat → List AO
  | [] => []
  | i :: r => .cell xs[i]? :: cellVals xs r
noncomputable def frame0 (base : Nat) (order : List Nat) (xs : List AV) : Nat → List Bool → Rε
  | _, [] => []
  | i, true :: r => some (.ref (base + idx i order)) :: frame0 base order xs (i + 1) r
  | i, false :: r => xs[i]? :: frame0 base order xs (i + 1) r
theorem frame0_get (base : Nat) (order : List Nat) (xs : List AV) : ∀ (bs : List Bool) (k i : Nat) (b : Bool), bs[i]? = some b → (frame0 base order xs k bs)[i]? = some (if b then some (.ref (base + idx (k + i) order)) else xs[k + i]?)
  | [], _, _, _, h => by cases h
  | true :: r, k, 0, b, h => by cases h; rfl
  | false :: r, k, 0, b, h => by cases h; rfl
  | true :: r, k, i + 1, b, h => by
    have := frame0_get base order xs r (k + 1) i b h
    rw [show k + 1 + i = k + (i + 1) from by omega] at this
    exact this
  | false :: r, k, i + 1, b, h => by
    have := frame0_get base order xs r (k + 1) i b h
    rw [show k + 1 + i = k + (i + 1) from by omega] at this
    exact this

/-- a def of the fragment -/
structure FnAt (g : Gl) (c : FC) (ps : List Str) (order : List Nat) (f : Addr) (body : List Stmt) : Prop where
  fact : ∃ (name qual : Str) (params : Arguments) (dV kV doc pm cdv ct oc : Value) (an od : Option Addr) (osl : Array (Option Value)),
    g.K.lookup f = some ⟨oc, od, .func (fnOf name qual params body c.cs dV kV doc pm an cdv ct), osl⟩ ∧ codeIn g.K cdv qual = true ∧ ∀ s vs, vs.length = ps.length → BindsTo s (fnOf name qual params body c.cs dV kV doc pm an cdv ct) ⟨vs, []⟩ (ps.zip vs)
  good : c.Good
  pnd : ps.Nodup
  pnames : ∀ (i : Nat) (p : Str), ps[i]? = some p → ∃ b, c.names[i]? = some (p, b)
  co : c.cs.isCoroutine = false
  gen : c.cs.isGenerator = false
  ord : (cellsFrom 0 c.cs.names []).map (fun p => some p.1) = order.map fun i => (c.names[i]?).map (·.1)
  cnd : ((cellsFrom 0 c.cs.names []).map (·.1)).Nodup
  flag : ∀ (i : Nat) (x : Str), c.names[i]? = some (x, true) → i ∈ order
  oflag : ∀ i ∈ order, ∃ x : Str, c.names[i]? = some (x, true)
section
variable {g : Gl} {n : Nat} {c : FC} {φ : Fx} {m : Str → Option Value} {σ : List AO} {s : Shared}
noncomputable def retV : AF → AV
  | .next => .none
  | .ret x => x

theorem cells_rel {g : Gl} {rs : List Addr} {frz : Led} {cm : Str → Option Value} {xs : List AV} : ∀ {cs : List (Str × Addr)} {cells : Led} {order : List Nat}, CellsAre cm cs cells → cs.length = order.length →
    (∀ (j : Nat) (x : Str) (ca : Addr) (i : Nat), cs[j]? = some (x, ca) → order[j]? = some i → match xs[i]? with | some a => ∃ v, cm x = some v ∧ VRel g rs frz a v | none => cm x = none) → ORels g rs frz (cellVals xs order) cells
  | _, _, [], .nil, _, _ => .nil
  | _, _, _ :: _, .nil, h, _ => by cases h
  | _, _, [], .cons _ _, h, _ => by cases h
  | _, _, i :: order, .cons (n := x) (c := ca) ho r, hl, hv => by
    have h0 := hv 0 x ca i rfl rfl
    refine .cons ?_ (cells_rel r (Nat.succ.inj hl) fun j y cb k hj hk => hv (j + 1) y cb k hj hk)
    split at h0
    · rename_i a ha
      obtain ⟨v, h1, h2⟩ := h0
      rw [ha]
      rw [h1] at ho
      exact .cell1 ho h2
    · rename_i ha
      rw [ha]
      rw [h0] at ho
      exact .cell0 ho
theorem cells_keys {cm : Str → Option Value} : ∀ {cs : List (Str × Addr)} {cells : Led}, CellsAre cm cs cells → keys cells = cs.map (·.2)
  | _, _, .nil => rfl
  | _, _, .cons _ r => by
    have := cells_keys r
    simp only [keys, List.map_cons] at this ⊢
    rw [this]
theorem cellsFrom_addr : ∀ (names : List (Str × NameKind)) (n : Nat) (acc : List (Str × Addr)), (∀ p ∈ acc, p.2 < n) → (acc.map (·.2)).Nodup → ((cellsFrom n names acc).map (·.2)).Nodup ∧ ∀ p ∈ cellsFrom n names acc, n ≤ p.2 ∨ p ∈ acc
  | [], _, acc, _, nd => ⟨nd, fun _ h => .inr h⟩
  | (x, k) :: r, n, acc, ha, nd => by
    unfold cellsFrom
    split
    · obtain ⟨h1, h2⟩ := cellsFrom_addr r (n + 1) ((x, n) :: acc) (fun p hp => by
        rcases List.mem_cons.mp hp with rfl | hp
        · exact Nat.lt_succ_self _
        · exact Nat.lt_succ_of_lt (ha p hp)) (by
        rw [List.map_cons]
        refine List.nodup_cons.mpr ⟨fun h => ?_, nd⟩
        obtain ⟨p, hp, e⟩ := List.mem_map.mp h
        have := ha p hp
        rw [e] at this
        exact Nat.lt_irrefl _ this)
      refine ⟨h1, fun p hp => ?_⟩
      rcases h2 p hp with h | h
      · exact .inl (Nat.le_of_succ_le h)
      · rcases List.mem_cons.mp h with rfl | h
        · exact .inl (Nat.le_refl _)
        · exact .inr h
    · exact cellsFrom_addr r n acc ha nd
/-- into a def -/
theorem enter {ps : List Str} {order : List Nat} {f : Addr} {body : List Stmt} {d : SDen} {own frz tmp : Led} {W : Wd} {σ₀ σ' : List AO} {xs : List AV} {vs : List Value} {fl : AF} {ε' : Rε} (H : FnAt g c ps order f body) (hb : SSs g n c body d)
    (O : φ.Ok g (n + 1)) (I : Inv g φ W m σ s) (hp : W.all.Perm (Wd.all ⟨own, frz, tmp⟩)) (hh : ORels g (keys own) frz σ₀ own) (hxs : VRels g (keys own) frz xs vs) (hlen : Nat.beq xs.length ps.length = true)
    (hd : d (frame0 σ₀.length order xs 0 (c.names.map (·.2))) (σ₀ ++ cellVals xs order) = some (fl, ε', σ')) {R : Result → Shared → Prop}
    (q : ∀ v W₁ cells s', Inv g φ W₁ m σ' s' → keys cells = keys cells → Ext ⟨own ++ cells, frz, tmp⟩ W₁ → VR g W₁ (retV fl) v → R (.ok (.ret v)) s') : codeAny (model g.prog g.w) φ.A (.call (.ref f) ⟨vs, []⟩) R s := by
  obtain ⟨name, qual, params, dV, kV, doc, pm, cdv, ct, oc, an, od, osl, h1, h2, h3⟩ := H.fact
  have hlen' : xs.length = ps.length := Nat.eq_of_beq_eq_true hlen
  have hvl : vs.length = ps.length := hxs.length ▸ hlen'
  have hroom : φ.A.depth < recursionLimit := by have := O.depth; omega
  have kinds := H.good.kinds
  refine code_defC O.below I.fr O.kin I.news O.top O.frames O.frame O.kind h1 h2 hroom (h3 s vs hvl) ?_ ?_ (fun g₁ L' h₁ tk cells FG F' N' Y B' X' T' hlt => ?_) H.co H.gen H.good.kind
  · refine List.all_eq_true.mpr fun y hy => ?_
    obtain ⟨y1, y2⟩ := y
    have hm := List.of_mem_zip hy
    obtain ⟨i, hi⟩ := List.getElem?_of_mem hm.1
    obtain ⟨b, hbn⟩ := H.pnames i y1 hi
    have := (kinds i y1 b hbn).1
    cases b with
    | true => simp only [if_true] at this; rw [show List.lookup (y1, y2).1 c.cs.names = some .cell from this]; rfl
    | false => simp only [Bool.false_eq_true, if_false] at this; rw [show List.lookup (y1, y2).1 c.cs.names = some .local from this]; rfl
  · exact H.cnd
  · have O' : Fx.Ok g n ⟨φ.A.deeper (envOfC qual c.cs L' f cdv), φ.A, φ.base, g₁, φ.env :: φ.outer, L', envOfC qual c.cs L' f cdv, φ.gens, φ.drawn, φ.os⟩ :=
      ⟨B', X', T', Around.frames_deeper O.frames, rfl, H.good.kind, O.handled, by have := O.depth; show φ.A.depth + 1 + n < _; omega, by have := O.units; show φ.A.units + 3 + 10 * n + 200 < _; omega, fun a o e => FG.keep a o (O.ext a o e)⟩
    have hck : keys cells = (cellsFrom (L' + 1) c.cs.names []).map (·.2) := cells_keys Y
    obtain ⟨cnd, cge⟩ := cellsFrom_addr c.cs.names (L' + 1) [] (fun _ h => nomatch h) List.nodup_nil
    have hper : (cells ++ W.all).Perm (Wd.all ⟨own ++ cells, frz, tmp⟩) := by
      refine (List.Perm.append_left cells hp).trans ?_
      show (cells ++ (own ++ (tmp ++ frz))).Perm ((own ++ cells) ++ (tmp ++ frz))
      rw [← List.append_assoc]
      exact List.Perm.append_right _ List.perm_append_comm
    have hnd : (keys (cells ++ W.all)).Nodup := by
      show (List.map (·.1) (cells ++ W.all)).Nodup
      rw [List.map_append]
      refine List.nodup_append.mpr ⟨by have := cnd; rw [← hck] at this; exact this, I.nodup, fun a ha b hb e => ?_⟩
      have ha' : a ∈ (cellsFrom (L' + 1) c.cs.names []).map (·.2) := hck ▸ ha
      obtain ⟨p, hp, rfl⟩ := List.mem_map.mp ha'
      obtain ⟨r, hr, rfl⟩ := List.mem_map.mp hb
      have k1 := hlt r hr
      rcases cge p hp with h | h
      · have e' : p.2 = r.1 := e
        rw [e'] at h
        exact absurd (Nat.lt_of_lt_of_le k1 (Nat.le_of_succ_le h)) (Nat.lt_irrefl _)
      · cases h
    have G₁ : Grows (keys own) (keys (own ++ cells)) frz frz := ⟨fun i a h => by
      show (List.map (·.1) (own ++ cells))[i]? = some a
      rw [List.map_append, List.getElem?_append_left (List.getElem?_eq_some_iff.mp h).1]
      exact h, fun _ h => h⟩
    have ordL : (cellsFrom (L' + 1) c.cs.names []).map (fun p => some p.1) = order.map fun i => (c.names[i]?).map (·.1) := by
      rw [← H.ord]
      have := cellsFrom_names c.cs.names (L' + 1) 0 [] [] rfl
      have e : ∀ l : List (Str × Addr), l.map (fun p => some p.1) = (l.map (·.1)).map some := fun l => by simp
      rw [e, e, this]
    have clen : (cellsFrom (L' + 1) c.cs.names []).length = order.length := by
      have := congrArg List.length ordL
      simpa using this
    have cname : ∀ (j : Nat) (x : Str) (ca : Addr) (i : Nat), (cellsFrom (L' + 1) c.cs.names [])[j]? = some (x, ca) → order[j]? = some i → ∃ b, c.names[i]? = some (x, b) := by
      intro j x ca i hj hi
      have e1 : ((cellsFrom (L' + 1) c.cs.names []).map (fun p => some p.1))[j]? = some (some x) := by rw [List.getElem?_map, hj]; rfl
      rw [ordL, List.getElem?_map, hi] at e1
      have e2 : (c.names[i]?).map (·.1) = some x := by simpa using e1
      cases hc : c.names[i]? with
      | none => rw [hc] at e2; cases e2
      | some p =>
        obtain ⟨y, b⟩ := p
        rw [hc] at e2
        cases e2
        exact ⟨b, rfl⟩
    have hkof : ∀ x, (envOfC qual c.cs L' f cdv).kindOf x = c.cs.names.lookup x := fun _ => rfl
    have HC : ORels g (keys (own ++ cells)) frz (cellVals xs order) cells := by
      refine cells_rel Y clen fun j x ca i hj hi => ?_
      obtain ⟨b, hbn⟩ := cname j x ca i hj hi
      obtain ⟨x', hx'⟩ := H.oflag i (List.mem_of_getElem? hi)
      rw [hbn] at hx'
      cases hx'
      have hk := (kinds i x true hbn).1
      have hnl : (envOfC qual c.cs L' f cdv).kindOf x ≠ some .local := by rw [hkof, hk]; decide
      cases hxi : xs[i]? with
      | some a =>
        obtain ⟨v, h5, h6⟩ := hxs.get hxi
        have hlt' : i < ps.length := hlen' ▸ (List.getElem?_eq_some_iff.mp hxi).1
        obtain ⟨b', hb'⟩ := H.pnames i _ (List.getElem?_eq_getElem hlt')
        rw [hbn] at hb'
        have : ps[i]? = some x := by rw [List.getElem?_eq_getElem hlt', (Prod.mk.inj (Option.some.inj hb')).1]
        exact ⟨v, bindC_at hnl ps vs _ i H.pnd this h5, h6.mono G₁⟩
      | none =>
        refine bindC_off ps vs _ fun hm => ?_
        obtain ⟨k, hk'⟩ := List.getElem?_of_mem hm
        obtain ⟨b', hb'⟩ := H.pnames k x hk'
        have hki : k = i := by
          cases Nat.decEq k i with
          | isTrue e => exact e
          | isFalse e => exact absurd rfl (names_inj H.good hb' hbn e)
        subst hki
        have l1 := (List.getElem?_eq_some_iff.mp hk').1
        have l2 := List.getElem?_eq_none_iff.mp hxi
        omega
    have I' : Inv g ⟨φ.A.deeper (envOfC qual c.cs L' f cdv), φ.A, φ.base, g₁, φ.env :: φ.outer, L', envOfC qual c.cs L' f cdv, φ.gens, φ.drawn, φ.os⟩ ⟨own ++ cells, frz, tmp⟩ (bindL (envOfC qual c.cs L' f cdv).kindOf (ps.zip vs) fun _ => Option.none) (σ₀ ++ cellVals xs order) { s with heap := h₁, toks := tk } := by
      refine ⟨F', fun p hp => N' p (hper.mem_iff.mpr hp), perm_nodup hper hnd, ?_, I.gens, I.drawn, I.os⟩
      have app : ∀ {a b : List AO} {l r : Led}, ORels g (keys (own ++ cells)) frz a l → ORels g (keys (own ++ cells)) frz b r → ORels g (keys (own ++ cells)) frz (a ++ b) (l ++ r) := by
        intro a b l r ha hb
        induction ha with
        | nil => exact hb
        | cons h _ ih => exact .cons h ih
      exact app (hh.mono G₁) HC
    have er : EnvR g c (envOfC qual c.cs L' f cdv) ⟨own ++ cells, frz, tmp⟩ (bindL (envOfC qual c.cs L' f cdv).kindOf (ps.zip vs) fun _ => Option.none) (frame0 σ₀.length order xs 0 (c.names.map (·.2))) := by
      intro i x b a hx ha
      have hbs : (c.names.map (·.2))[i]? = some b := by rw [List.getElem?_map, hx]; rfl
      rw [frame0_get _ _ _ _ 0 i b hbs, Nat.zero_add] at ha
      cases b with
      | true =>
        simp only [if_true] at ha ⊢
        cases ha
        have hi := idx_get (H.flag i x hx)
        obtain ⟨ca, hca⟩ : ∃ p, (cellsFrom (L' + 1) c.cs.names [])[idx i order]? = some p := ⟨_, List.getElem?_eq_getElem (by rw [clen]; exact (List.getElem?_eq_some_iff.mp hi).1)⟩
        obtain ⟨y, ca⟩ := ca
        obtain ⟨b', hb'⟩ := cname _ y ca i hca hi
        rw [hx] at hb'
        cases hb'
        refine ⟨_, ca, rfl, lookup_idx _ (idx i order) ?_ hca, ?_⟩
        · show ((cellsFrom (L' + 1) c.cs.names []).map (·.1)).Nodup
          rw [cellsFrom_names c.cs.names (L' + 1) 0 [] [] rfl]; exact H.cnd
        · show (List.map (·.1) (own ++ cells))[σ₀.length + idx i order]? = some ca
          rw [List.map_append, List.getElem?_append_right (by rw [List.length_map, hh.length]; exact Nat.le_add_right _ _), List.length_map, hh.length, Nat.add_sub_cancel_left]
          have : (keys cells)[idx i order]? = some ca := by rw [hck, List.getElem?_map, hca]; rfl
          exact this
      | false =>
        simp only [Bool.false_eq_true, if_false] at ha ⊢
        have hxi : xs[i]? = some a := by simpa using ha
        obtain ⟨v, h5, h6⟩ := hxs.get hxi
        have hlt' : i < ps.length := hlen' ▸ (List.getElem?_eq_some_iff.mp hxi).1
        obtain ⟨b', hb'⟩ := H.pnames i _ (List.getElem?_eq_getElem hlt')
        rw [hx] at hb'
        have : ps[i]? = some x := by rw [List.getElem?_eq_getElem hlt', (Prod.mk.inj (Option.some.inj hb')).1]
        exact ⟨v, bindL_at (by rw [hkof]; exact (kinds i x false hx).1) ps vs _ i H.pnd this h5, h6.mono G₁⟩
    refine hb.run _ _ _ _ _ _ _ _ _ ⟨O', ⟨H.good, rfl, rfl, rfl⟩, rfl, I', er⟩ hd _ _ fun f₁ W₁ m₁ s₁ I₁ E₁ er₁ r₁ => ?_
    have key : ∀ v, VR g W₁ (retV fl) v → LeaveK φ.h₀ φ.L m g₁ R v s₁ := fun v V =>
      leaveK_ I₁.fr I₁.news fun F₂ N₂ => q v W₁ cells s₁ ⟨F₂, N₂, I₁.nodup, I₁.heap, I₁.gens, I₁.drawn, I₁.os⟩ rfl E₁ V
    cases fl with
    | next =>
      cases r₁
      exact key .none .none
    | ret x =>
      obtain ⟨v, rfl, V⟩ := r₁
      exact key v V
end
end Rn

namespace Rn
open PySem PySem.Spec PySem.Calls PyProof.Rows PySem.W

mutual
/-- nothing of it is an own object -/
noncomputable def nr : AV → Bool
  | .tup xs => nrs xs
  | .ref _ => false
  | .obj _ => false
  | _ => true
noncomputable def nrs : List AV → Bool
  | [] => true
  | x :: r => match nr x with
    | true => nrs r
    | false => false
end
noncomputable def nrd : List (Int × AV) → Bool
  | [] => true
  | (_, x) :: r => match nr x with
    | true => nrd r
    | false => false
mutual
/-- scalars and tuples of scalars -/
noncomputable def pl : AV → Bool
  | .none => true
  | .bool _ => true
  | .int _ => true
  | .str _ => true
  | .tup xs => pls xs
  | _ => false
noncomputable def pls : List AV → Bool
  | [] => true
  | x :: r => match pl x with
    | true => pls r
    | false => false
end
theorem Grows.frz {frz frz' : Led} (G : ∀ q ∈ frz, q ∈ frz') : Grows [] [] frz frz' := ⟨fun _ _ h => h, G⟩
mutual
theorem VRel.nr {g : Gl} {rs rs' : List Addr} {frz frz' : Led} (G : ∀ q ∈ frz, q ∈ frz') : ∀ {x : AV} {v : Value}, VRel g rs frz x v → Rn.nr x = true → VRel g rs' frz' x v
  | _, _, .none, _ => .none
  | _, _, .bool b, _ => .bool b
  | _, _, .int i t, _ => .int i t
  | _, _, .str s t, _ => .str s t
  | _, _, .tup h r, e => .tup (h.mono G) (r.nr G (by simpa only [Rn.nr] using e))
  | _, _, .fl h r, _ => .fl (h.mono G) (r.mono (Grows.frz G))
  | _, _, .ref h, e => by cases e
  | _, _, .obj h r, e => by cases e
  | _, _, .fo h k p q, _ => .fo (G _ h) (G _ k) (p.mono (Grows.frz G)) (q.mono (Grows.frz G))
  | _, _, .fd h l k r, _ => .fd (G _ h) l k (r.mono (Grows.frz G))
theorem VRels.nr {g : Gl} {rs rs' : List Addr} {frz frz' : Led} (G : ∀ q ∈ frz, q ∈ frz') : ∀ {x : List AV} {v : List Value}, VRels g rs frz x v → Rn.nrs x = true → VRels g rs' frz' x v
  | _, _, .nil, _ => .nil
  | _, _, .cons h r, e => by
    simp only [Rn.nrs] at e
    split at e
    · rename_i e1
      exact .cons (h.nr G e1) (r.nr G e)
    · cases e
end
theorem DRels.nr {g : Gl} {rs rs' : List Addr} {frz frz' : Led} (G : ∀ q ∈ frz, q ∈ frz') : ∀ {x : List (Int × AV)} {v : List (Int × Value)}, DRels g rs frz x v → Rn.nrd x = true → DRels g rs' frz' x v
  | _, _, .nil, _ => .nil
  | _, _, .cons h r, e => by
    simp only [Rn.nrd] at e
    split at e
    · rename_i e1
      exact .cons (h.nr G e1) (r.nr G e)
    · cases e
mutual
theorem VRel.pl {g : Gl} {rs rs' : List Addr} {frz frz' : Led} (G : ∀ a vs n, (a, ({ cls := .type "tuple", data := .seq vs n } : Obj)) ∈ frz → (a, ({ cls := .type "tuple", data := .seq vs n } : Obj)) ∈ frz') : ∀ {x : AV} {v : Value}, VRel g rs frz x v → Rn.pl x = true → VRel g rs' frz' x v
  | _, _, .none, _ => .none
  | _, _, .bool b, _ => .bool b
  | _, _, .int i t, _ => .int i t
  | _, _, .str s t, _ => .str s t
  | _, _, .tup ⟨n, h⟩ r, e => .tup ⟨n, h.imp (G _ _ _) id⟩ (r.pl G (by simpa only [Rn.pl] using e))
  | _, _, .fl h r, e => by cases e
  | _, _, .ref h, e => by cases e
  | _, _, .obj h r, e => by cases e
  | _, _, .fo h k p q, e => by cases e
  | _, _, .fd h l k r, e => by cases e
theorem VRels.pl {g : Gl} {rs rs' : List Addr} {frz frz' : Led} (G : ∀ a vs n, (a, ({ cls := .type "tuple", data := .seq vs n } : Obj)) ∈ frz → (a, ({ cls := .type "tuple", data := .seq vs n } : Obj)) ∈ frz') : ∀ {x : List AV} {v : List Value}, VRels g rs frz x v → Rn.pls x = true → VRels g rs' frz' x v
  | _, _, .nil, _ => .nil
  | _, _, .cons h r, e => by
    simp only [Rn.pls] at e
    split at e
    · rename_i e1
      exact .cons (h.pl G e1) (r.pl G e)
    · cases e
end
/-- own objects as the callee sees them: they stay -/
noncomputable def fzL (σ : List AO) (x : AV) : Option AV := match nr x with
  | true => some x
  | false => (match x with
    | .ref i => (match σ[i]? with
      | some (.list ys) => (match nrs ys with
        | true => some (.fl ys)
        | false => none)
      | some (.dict es) => (match nrd es with
        | true => some (.fd es)
        | false => none)
      | _ => none)
    | _ => none)
noncomputable def fz (σ : List AO) (x : AV) : Option AV := match x with
  | .obj i => (match σ[i]? with
    | some (.prog a b) => (match fzL σ a with
      | some a' => (match fzL σ b with
        | some b' => some (.fo a' b')
        | none => none)
      | none => none)
    | _ => none)
  | x => fzL σ x
noncomputable def fzs (σ : List AO) : List AV → Option (List AV)
  | [] => some []
  | x :: r => match fz σ x with
    | some y => (match fzs σ r with
      | some ys => some (y :: ys)
      | none => none)
    | none => none
/-- what the callee gives back, as the caller sees it -/
noncomputable def thL (σ : List AO) (x : AV) : Option AV := match pl x with
  | true => some x
  | false => (match x with
    | .ref i => (match σ[i]? with
      | some (.list ys) => (match pls ys with
        | true => some (.fl ys)
        | false => none)
      | _ => none)
    | _ => none)
noncomputable def thLs (σ : List AO) : List AV → Option (List AV)
  | [] => some []
  | x :: r => match thL σ x with
    | some y => (match thLs σ r with
      | some ys => some (y :: ys)
      | none => none)
    | none => none
noncomputable def th (σ : List AO) (x : AV) : Option AV := match x with
  | .tup xs => (match thLs σ xs with
    | some ys => some (.tup ys)
    | none => none)
  | x => thL σ x
section
variable {g : Gl} {n : Nat} {c : FC} {φ : Fx} {m : Str → Option Value} {σ : List AO} {s : Shared}
theorem own_mem {W : Wd} (I : Inv g φ W m σ s) {i : Nat} {a : Addr} (hr : W.ks[i]? = some a) {x : AO} (h : σ[i]? = some x) : ∃ o, (a, o) ∈ W.own ∧ ORel g W.ks W.frz x a o := by
  obtain ⟨b, o, h1, h2, h3, h4⟩ := I.own h
  rw [hr] at h2
  cases h2
  exact ⟨o, List.mem_of_getElem? h1, h4⟩
theorem fzL_rel {W : Wd} (I : Inv g φ W m σ s) {x y : AV} {v : Value} (V : VR g W x v) (h : fzL σ x = some y) : VRel g [] (W.own ++ W.frz) y v := by
  have up : ∀ q ∈ W.frz, q ∈ W.own ++ W.frz := fun q hq => List.mem_append_right _ hq
  unfold fzL at h
  split at h
  · rename_i e
    cases h
    exact V.nr up e
  · split at h
    · rename_i i _
      cases V with
      | ref hr =>
        split at h
        · rename_i ys hy
          split at h
          · rename_i e
            cases h
            obtain ⟨o, h1, h2⟩ := own_mem I hr hy
            cases h2 with
            | list Vs => exact .fl ⟨_, .inl (List.mem_append_left _ h1)⟩ (Vs.nr up e)
          · cases h
        · rename_i es hy
          split at h
          · rename_i e
            cases h
            obtain ⟨o, h1, h2⟩ := own_mem I hr hy
            cases h2 with
            | dict l k r => exact .fd (List.mem_append_left _ h1) l k (r.nr up e)
          · cases h
        · cases h
    · cases h
theorem fz_rel {W : Wd} (I : Inv g φ W m σ s) {x y : AV} {v : Value} (V : VR g W x v) (h : fz σ x = some y) : VRel g [] (W.own ++ W.frz) y v := by
  unfold fz at h
  split at h
  · rename_i i
    cases V with
    | obj hx hr =>
      split at h
      · rename_i a b hσ
        split at h
        · rename_i a' ha
          split at h
          · rename_i b' hb
            cases h
            obtain ⟨o, h1, h2⟩ := own_mem I hr hσ
            cases h2 with
            | prog V1 V2 => exact .fo (List.mem_append_right _ hx) (List.mem_append_left _ h1) (fzL_rel I V1 ha) (fzL_rel I V2 hb)
          · cases h
        · cases h
      · cases h
  · exact fzL_rel I V h
theorem fzs_rel {W : Wd} (I : Inv g φ W m σ s) : ∀ {xs ys : List AV} {vs : List Value}, VRs g W xs vs → fzs σ xs = some ys → VRels g [] (W.own ++ W.frz) ys vs
  | _, _, _, .nil, h => by cases h; exact .nil
  | _, _, _, .cons V r, h => by
    unfold fzs at h
    split at h
    · rename_i y hy
      split at h
      · rename_i ys hys
        cases h
        exact .cons (fz_rel I V hy) (fzs_rel I r hys)
      · cases h
    · cases h
theorem ORel.noT {rs : List Addr} {frz : Led} {x : AO} {a : Addr} {o : Obj} (h : ORel g rs frz x a o) (h1 : o.cls = .type "tuple") (h2 : ∃ vs n, o.data = .seq vs n) : False := by
  obtain ⟨vs, n, h2⟩ := h2
  cases h with
  | list _ => exact absurd (Value.type.inj h1) (by decide)
  | dict l k r =>
    obtain ⟨es, ep, e, _⟩ := k
    rw [e.1] at h1
    exact absurd (Value.type.inj h1) (by decide)
  | prog _ _ => exact absurd (Value.type.inj h1) (by decide)
  | init0 => exact absurd (Value.type.inj h1) (by decide)
  | init1 _ => exact absurd (Value.type.inj h1) (by decide)
  | cell0 h => rw [h] at h2; cases h2
  | cell1 h _ => rw [h] at h2; cases h2
theorem noTup {rs : List Addr} {frz : Led} : ∀ {xs : List AO} {l : Led}, ORels g rs frz xs l → ∀ (a : Addr) (vs : Array Value) (n : Nat), (a, ({ cls := .type "tuple", data := .seq vs n } : Obj)) ∉ l
  | _, _, .nil, _, _, _ => fun h => nomatch h
  | _, _, .cons (a := b) (o := o) h r, a, vs, n => by
    intro hm
    rcases List.mem_cons.mp hm with e | hm
    · have e2 := (Prod.mk.inj e).2
      exact h.noT (by rw [← e2]) ⟨vs, n, by rw [← e2]⟩
    · exact noTup r a vs n hm
theorem thL_rel {W W₁ : Wd} {σ' : List AO} {m' : Str → Option Value} {s' : Shared} {φ' : Fx} {nz : Led} (hN : ∀ (a : Addr) (vs : Array Value) (n : Nat), (a, ({ cls := .type "tuple", data := .seq vs n } : Obj)) ∉ W.own) (I : Inv g φ' W₁ m' σ' s') (hz : W₁.frz = nz ++ (W.own ++ W.frz)) {rs : List Addr} {x y : AV} {v : Value} (V : VR g W₁ x v) (h : thL σ' x = some y) :
    VRel g rs (W₁.own ++ (nz ++ W.frz)) y v := by
  have up : ∀ (a : Addr) (vs : Array Value) (n : Nat), (a, ({ cls := .type "tuple", data := .seq vs n } : Obj)) ∈ W₁.frz → (a, ({ cls := .type "tuple", data := .seq vs n } : Obj)) ∈ W₁.own ++ (nz ++ W.frz) := by
    intro a vs n h
    rw [hz] at h
    rcases List.mem_append.mp h with h | h
    · exact List.mem_append_right _ (List.mem_append_left _ h)
    · rcases List.mem_append.mp h with h | h
      · exact absurd h (hN a vs n)
      · exact List.mem_append_right _ (List.mem_append_right _ h)
  unfold thL at h
  split at h
  · rename_i e
    cases h
    exact V.pl up e
  · split at h
    · rename_i i _
      cases V with
      | ref hr =>
        split at h
        · rename_i ys hy
          split at h
          · rename_i e
            cases h
            obtain ⟨o, h1, h2⟩ := own_mem I hr hy
            cases h2 with
            | list Vs => exact .fl ⟨_, .inl (List.mem_append_left _ h1)⟩ (Vs.pl up e)
          · cases h
        · cases h
    · cases h
theorem thLs_rel {W W₁ : Wd} {σ' : List AO} {m' : Str → Option Value} {s' : Shared} {φ' : Fx} {nz : Led} (hN : ∀ (a : Addr) (vs : Array Value) (n : Nat), (a, ({ cls := .type "tuple", data := .seq vs n } : Obj)) ∉ W.own) (I : Inv g φ' W₁ m' σ' s') (hz : W₁.frz = nz ++ (W.own ++ W.frz)) {rs : List Addr} : ∀ {xs ys : List AV} {vs : List Value}, VRs g W₁ xs vs → thLs σ' xs = some ys →
    VRels g rs (W₁.own ++ (nz ++ W.frz)) ys vs
  | _, _, _, .nil, h => by cases h; exact .nil
  | _, _, _, .cons V r, h => by
    unfold thLs at h
    split at h
    · rename_i y hy
      split at h
      · rename_i ys hys
        cases h
        exact .cons (thL_rel hN I hz V hy) (thLs_rel hN I hz r hys)
      · cases h
    · cases h
theorem th_rel {W W₁ : Wd} {σ' : List AO} {m' : Str → Option Value} {s' : Shared} {φ' : Fx} {nz : Led} (hN : ∀ (a : Addr) (vs : Array Value) (n : Nat), (a, ({ cls := .type "tuple", data := .seq vs n } : Obj)) ∉ W.own) (I : Inv g φ' W₁ m' σ' s') (hz : W₁.frz = nz ++ (W.own ++ W.frz)) {rs : List Addr} {x y : AV} {v : Value} (V : VR g W₁ x v) (h : th σ' x = some y) :
    VRel g rs (W₁.own ++ (nz ++ W.frz)) y v := by
  unfold th at h
  split at h
  · split at h
    · rename_i xs ys hys
      cases h
      cases V with
      | tup hs Vs =>
        obtain ⟨k, ho⟩ := hs
        refine .tup ⟨k, ho.imp (fun h => ?_) id⟩ (thLs_rel hN I hz Vs hys)
        rw [hz] at h
        rcases List.mem_append.mp h with h | h
        · exact List.mem_append_right _ (List.mem_append_left _ h)
        · rcases List.mem_append.mp h with h | h
          · exact absurd h (hN _ _ _)
          · exact List.mem_append_right _ (List.mem_append_right _ h)
    · cases h
  · exact thL_rel hN I hz V h

/-! calls -/
noncomputable def fDef (np : Nat) (order : List Nat) (flags : List Bool) (d : SDen) (xs : List AV) : Option AV := match Nat.beq xs.length np with
  | true => (match d (frame0 0 order xs 0 flags) (cellVals xs order) with
    | some (fl, _, σ') => th σ' (retV fl)
    | none => none)
  | false => none
noncomputable def fPure (F : List AV → Option AV) : FL := fun xs σ => match fzs σ xs with
  | some ys => (match F ys with
    | some r => some (r, σ)
    | none => none)
  | none => none
noncomputable def fImp (np : Nat) (order : List Nat) (flags : List Bool) (d : SDen) : FL := fun xs σ => match Nat.beq xs.length np with
  | true => (match d (frame0 σ.length order xs 0 flags) (σ ++ cellVals xs order) with
    | some (fl, _, σ') => some (retV fl, σ')
    | none => none)
  | false => none
theorem pureS {ps : List Str} {order : List Nat} {f : Addr} {body : List Stmt} {d : SDen} (H : FnAt g c ps order f body) (hb : SSs g n c body d) : OpL g (n + 1) (kall (.ref f)) (fPure (fDef ps.length order (c.names.map (·.2)) d)) := by
  intro φ W m σ s xs vs r σ' O I V hf Q E q
  unfold fPure at hf
  split at hf
  · rename_i ys hys
    split at hf
    · rename_i r' hr
      cases hf
      unfold fDef at hr
      split at hr
      · rename_i hlen
        split at hr
        · rename_i fl ε' σ₁ hd
          refine wpAny_call ?_
          refine enter (own := []) (frz := W.own ++ W.frz) (tmp := W.tmp) (σ₀ := []) H hb O I ?_ .nil (fzs_rel I V hys) hlen hd fun v W₁ cells s' I₁ _ E₁ V₁ => ?_
          · show (W.own ++ (W.tmp ++ W.frz)).Perm (W.tmp ++ (W.own ++ W.frz))
            rw [← List.append_assoc, ← List.append_assoc]
            exact List.Perm.append_right _ List.perm_append_comm
          · obtain ⟨nz, hz⟩ := E₁.2.1
            have hz' : W₁.frz = nz ++ (W.own ++ W.frz) := hz
            have ht : W₁.tmp = W.tmp := E₁.2.2
            have hN := fun a vs n => noTup I.heap a vs n
            have EW : Ext W ⟨W.own, W₁.own ++ (nz ++ W.frz), W.tmp⟩ := ⟨⟨[], by simp [Wd.ks]⟩, ⟨W₁.own ++ nz, by simp⟩, rfl⟩
            refine q v ⟨W.own, W₁.own ++ (nz ++ W.frz), W.tmp⟩ s' ⟨I₁.fr, fun p hp => I₁.news p ?_, ?_, I.heap.mono EW.grows, I₁.gens, I₁.drawn, I₁.os⟩ EW (th_rel hN I₁ hz' V₁ hr)
            · unfold Wd.all at hp ⊢
              rw [hz', ht]
              simp only [List.mem_append] at hp ⊢
              rcases hp with hp | hp | hp | hp | hp <;> simp [hp]
            · have nd := I₁.nodup
              refine perm_nodup ?_ nd
              unfold Wd.all
              rw [hz', ht]
              show (W₁.own ++ (W.tmp ++ (nz ++ (W.own ++ W.frz)))).Perm (W.own ++ (W.tmp ++ (W₁.own ++ (nz ++ W.frz))))
              have e1 : (W₁.own ++ (W.tmp ++ (nz ++ (W.own ++ W.frz)))).Perm (W.own ++ (W₁.own ++ (W.tmp ++ (nz ++ W.frz)))) := by
                have : W₁.own ++ (W.tmp ++ (nz ++ (W.own ++ W.frz))) = (W₁.own ++ (W.tmp ++ nz)) ++ (W.own ++ W.frz) := by simp
                rw [this]
                have e : W.own ++ (W₁.own ++ (W.tmp ++ (nz ++ W.frz))) = W.own ++ ((W₁.own ++ (W.tmp ++ nz)) ++ W.frz) := by simp
                rw [e, ← List.append_assoc, ← List.append_assoc W.own]
                exact List.Perm.append_right _ List.perm_append_comm
              refine e1.trans (List.Perm.append_left _ ?_)
              rw [← List.append_assoc W₁.own, ← List.append_assoc W.tmp W₁.own]
              exact List.Perm.append_right _ List.perm_append_comm
        · cases hr
      · cases hr
    · cases hf
  · cases hf
theorem impC {ps : List Str} {order : List Nat} {f : Addr} {body : List Stmt} {d : SDen} (H : FnAt g c ps order f body) (hb : SSs g n c body d) {W : Wd} {xs : List AV} {vs : List Value} {r : AV} {σ' : List AO} (O : φ.Ok g (n + 1)) (I : Inv g φ W m σ s) (V : VRs g W xs vs)
    (hf : fImp ps.length order (c.names.map (·.2)) d xs σ = some (r, σ')) {R : Result → Shared → Prop} (q : ∀ v W' s', Inv g φ W' m σ' s' → Ext W W' → VR g W' r v → R (.ok (.ret v)) s') : codeAny (model g.prog g.w) φ.A (.call (.ref f) ⟨vs, []⟩) R s := by
  unfold fImp at hf
  split at hf
  · rename_i hlen
    split at hf
    · rename_i fl ε' σ₁ hd
      cases hf
      refine enter (own := W.own) (frz := W.frz) (tmp := W.tmp) (σ₀ := σ) H hb O I (List.Perm.refl _) I.heap V hlen hd fun v W₁ cells s' I₁ _ E₁ V₁ => ?_
      exact q v W₁ s' I₁ (Ext.trans (W' := ⟨W.own ++ cells, W.frz, W.tmp⟩) ⟨⟨keys cells, by simp [Wd.ks, keys]⟩, ⟨[], rfl⟩, rfl⟩ E₁) V₁
    · cases hf
  · cases hf
theorem impS {ps : List Str} {order : List Nat} {f : Addr} {body : List Stmt} {d : SDen} (H : FnAt g c ps order f body) (hb : SSs g n c body d) : OpL g (n + 1) (kall (.ref f)) (fImp ps.length order (c.names.map (·.2)) d) := by
  intro φ W m σ s xs vs r σ' O I V hf Q E q
  exact wpAny_call (impC H hb O I V hf fun v W' s' I' E' V' => q v W' s' I' E' V')
noncomputable def fNew (FI : FL) : FL := fun xs σ => match xs with
  | [] => (match FI [.obj σ.length] (σ ++ [.init0]) with
    | some (.none, σ') => some (.obj σ.length, σ')
    | _ => none)
  | _ => none
theorem newS {ps : List Str} {order : List Nat} {f : Addr} {body : List Stmt} {d : SDen} (H : FnAt g c ps order f body) (hb : SSs g n c body d) (hm : makesIn g.K g.C = true) (hi : findIn g.K (.ref g.C) "__init__" = some (some (.ref f))) (hf : isFn g.K (.ref f) = true) :
    OpL g (n + 2) (kall (.ref g.C)) (fNew (fImp ps.length order (c.names.map (·.2)) d)) := by
  intro φ W m σ s xs vs r σ' O I V hd Q E q
  unfold fNew at hd
  split at hd
  · split at hd
    · rename_i σ₁ h1
      cases hd
      cases V
      refine call_cls I.fr O.kin I.news hm hi hf fun x dx h' F N hlt hx => ?_
      have E1 : Ext W ⟨W.own ++ [(dx, dictOf [] 0)], (x, instObj g.C dx) :: W.frz, W.tmp⟩ := ⟨⟨[dx], by simp [Wd.ks, keys]⟩, ⟨[_], rfl⟩, rfl⟩
      have hper : ((x, instObj g.C dx) :: (dx, dictOf [] 0) :: W.all).Perm (Wd.all ⟨W.own ++ [(dx, dictOf [] 0)], (x, instObj g.C dx) :: W.frz, W.tmp⟩) := by
        show ((x, instObj g.C dx) :: (dx, dictOf [] 0) :: (W.own ++ (W.tmp ++ W.frz))).Perm ((W.own ++ [(dx, dictOf [] 0)]) ++ (W.tmp ++ ((x, instObj g.C dx) :: W.frz)))
        rw [List.append_assoc]
        refine ((List.Perm.cons _ (List.perm_middle.symm)).trans ?_)
        show ((x, instObj g.C dx) :: (W.own ++ (dx, dictOf [] 0) :: (W.tmp ++ W.frz))).Perm (W.own ++ ([(dx, dictOf [] 0)] ++ (W.tmp ++ (x, instObj g.C dx) :: W.frz)))
        have e1 : (x, instObj g.C dx) :: (W.own ++ (dx, dictOf [] 0) :: (W.tmp ++ W.frz)) = (x, instObj g.C dx) :: ((W.own ++ (dx, dictOf [] 0) :: W.tmp) ++ W.frz) := by simp
        have e2 : W.own ++ ([(dx, dictOf [] 0)] ++ (W.tmp ++ (x, instObj g.C dx) :: W.frz)) = (W.own ++ (dx, dictOf [] 0) :: W.tmp) ++ (x, instObj g.C dx) :: W.frz := by simp
        rw [e1, e2]
        exact List.perm_middle.symm
      have nd : (keys ((x, instObj g.C dx) :: (dx, dictOf [] 0) :: W.all)).Nodup := by
        refine nodup_cons (nodup_cons I.nodup hlt) fun p hp => ?_
        rcases List.mem_cons.mp hp with rfl | hp
        · exact hx
        · exact Nat.lt_trans (hlt p hp) hx
      have I1 : Inv g φ ⟨W.own ++ [(dx, dictOf [] 0)], (x, instObj g.C dx) :: W.frz, W.tmp⟩ m (σ ++ [.init0]) { s with heap := h' } :=
        I.perm (W' := ⟨W.own ++ [(dx, dictOf [] 0)], (x, instObj g.C dx) :: W.frz, W.tmp⟩) F N nd hper ((I.heap.mono E1.grows).snoc .init0) s.toks
      have Vx : VR g ⟨W.own ++ [(dx, dictOf [] 0)], (x, instObj g.C dx) :: W.frz, W.tmp⟩ (.obj σ.length) (.ref x) := by
        refine .obj (List.mem_cons_self ..) ?_
        have := I.sigma
        simp [Wd.ks, keys, ← this]
      have hw : (Code.builtin "type.__call__" ⟨[.ref g.C], []⟩).weight ≤ 1 := Nat.le_of_ble_eq_true (by kernel_rfl)
      have hu : (Code.builtin "type.__call__" ⟨[.ref g.C], []⟩).cUnits ≤ 5 := Nat.le_of_ble_eq_true (by kernel_rfl)
      have O1 : Fx.Ok g (n + 1) { φ with A := φ.A.under (.builtin "type.__call__" ⟨[.ref g.C], []⟩) } :=
        ⟨O.below, O.kin, O.top, by rw [← O.frames]; rfl, O.frame, O.kind, O.handled, by have := O.depth; show φ.A.depth + _ + (n + 1) < _; omega, by have := O.units; show φ.A.units + _ + 10 * (n + 1) + 200 < _; omega, O.ext⟩
      have I1' : Inv g { φ with A := φ.A.under (.builtin "type.__call__" ⟨[.ref g.C], []⟩) } ⟨W.own ++ [(dx, dictOf [] 0)], (x, instObj g.C dx) :: W.frz, W.tmp⟩ m (σ ++ [.init0]) { s with heap := h' } := ⟨I1.fr, I1.news, I1.nodup, I1.heap, I1.gens, I1.drawn, I1.os⟩
      refine impC (φ := { φ with A := φ.A.under (.builtin "type.__call__" ⟨[.ref g.C], []⟩) }) H hb O1 I1' (.cons Vx .nil) h1 fun v W' s' I' E' V' => ?_
      cases V'
      exact ⟨rfl, q _ W' s' ⟨I'.fr, I'.news, I'.nodup, I'.heap, I'.gens, I'.drawn, I'.os⟩ (E1.trans E') (Vx.ext E')⟩
    · cases hd
  · cases hd
/-! both lists of zip: read anew -/
end
end Rn

namespace Rn
open PySem PySem.Spec PySem.Calls PyProof.Rows PySem.W

theorem Fx.Ok.down {g : Gl} {φ : Fx} {k n : Nat} (O : φ.Ok g n) (h : k ≤ n) : φ.Ok g k :=
  ⟨O.below, O.kin, O.top, O.frames, O.frame, O.kind, O.handled, by have := O.depth; omega, by have := O.units; omega, O.ext⟩
theorem OpL.up {g : Gl} {k n : Nat} {t : List Value → Sem Value} {f : FL} (H : OpL g k t f) (h : k ≤ n) : OpL g n t f :=
  fun φ W m σ s xs vs r σ' O I V hf Q E q => H φ W m σ s xs vs r σ' (O.down h) I V hf Q E q

/-! what a table of a block must meet, by computing -/
noncomputable def goodB (c : FC) : Bool := (c.cs.kind == .function) && (c.names.all fun p => (c.cs.names.lookup p.1 == some (if p.2 then .cell else .local)) && !(p.1 == ("__debug__" : Str))) && decide (c.names.map (·.1)).Nodup
theorem good_of {c : FC} (h : goodB c = true) : c.Good := by
  unfold goodB at h
  simp only [Bool.and_eq_true, decide_eq_true_eq] at h
  obtain ⟨⟨h1, h2⟩, h3⟩ := h
  refine ⟨by simpa using h1, fun i x b hi => ?_, h3⟩
  have := List.all_eq_true.mp h2 _ (List.mem_of_getElem? hi)
  simp only [Bool.and_eq_true] at this
  exact ⟨by simpa using this.1, by simpa using this.2⟩
noncomputable def FC.sub (c : FC) (scope : Scope) (nm : List (Str × Bool)) : FC := ⟨relabS scope c.cs, nm⟩
noncomputable def cmpB (c : FC) (scope : Scope) (nm : List (Str × Bool)) (fr : List Nat) (nl : Nat) : Bool :=
  goodB (c.sub scope nm) && (scope.kind == .function) && (scope.names.all fun y => !(y.2 == .cell)) && (scope.names.all fun y => !(y.2 == .local) || (scope.names.lookup y.1 == some .local)) &&
  (scope.names.all fun p => !(p.2 == .free) || fr.any fun i => c.names[i]? == some (p.1, true)) &&
  decide (nm.drop nl = fr.filterMap fun i => (c.names[i]?).map fun p => (p.1, true)) && (fr.all fun i => match c.names[i]? with
    | some (x, true) => scope.names.contains (x, NameKind.free)
    | _ => false)
theorem cmp_of {c : FC} {scope : Scope} {nm : List (Str × Bool)} {fr : List Nat} {nl : Nat} (h : cmpB c scope nm fr nl = true) : CmpOk c (c.sub scope nm) scope fr nl := by
  unfold cmpB at h
  simp only [Bool.and_eq_true, decide_eq_true_eq] at h
  obtain ⟨⟨⟨⟨⟨⟨h1, h2⟩, h3⟩, h4⟩, h5⟩, h6⟩, h7⟩ := h
  refine ⟨good_of h1, rfl, by simpa using h2, fun y hy e => ?_, fun y hy e => ?_, fun p hp e => ?_, fun k x b hk => ?_⟩
  · have := List.all_eq_true.mp h3 y hy
    rw [e] at this
    cases this
  · have := List.all_eq_true.mp h4 y hy
    rw [e] at this
    simpa using this
  · have := List.all_eq_true.mp h5 p hp
    rw [e] at this
    simp only [beq_self_eq_true, Bool.not_true, Bool.false_or] at this
    obtain ⟨i, hi, he⟩ := List.any_eq_true.mp this
    exact ⟨i, hi, by simpa using he⟩
  · have hk' : (nm.drop nl)[k]? = some (x, b) := by rw [List.getElem?_drop]; exact hk
    rw [h6] at hk'
    have hall : ∀ i ∈ fr, ∃ y, c.names[i]? = some (y, true) ∧ scope.names.contains (y, NameKind.free) = true := by
      intro i hi
      have := List.all_eq_true.mp h7 i hi
      split at this
      · rename_i y hy
        exact ⟨y, hy, this⟩
      · cases this
    have key : ∀ (l : List Nat) (k : Nat), (∀ i ∈ l, ∃ y, c.names[i]? = some (y, true) ∧ scope.names.contains (y, NameKind.free) = true) → (l.filterMap fun i => (c.names[i]?).map fun p => (p.1, true))[k]? = some (x, b) →
        b = true ∧ ∃ i, l[k]? = some i ∧ c.names[i]? = some (x, true) ∧ (x, NameKind.free) ∈ scope.names := by
      intro l
      induction l with
      | nil => intro k _ h; simp at h
      | cons i l ih =>
        intro k hl h
        obtain ⟨y, hy, hc⟩ := hl i (List.mem_cons_self ..)
        rw [List.filterMap_cons, hy] at h
        simp only [Option.map_some] at h
        cases k with
        | zero =>
          simp only [List.getElem?_cons_zero, Option.some.injEq, Prod.mk.injEq] at h
          obtain ⟨rfl, rfl⟩ := h
          exact ⟨rfl, i, rfl, hy, by simpa using hc⟩
        | succ k =>
          have := ih k (fun i hi => hl i (List.mem_cons_of_mem _ hi)) (by simpa using h)
          simpa using this
    exact key fr k hall hk'
/-- what the fragment says of a def -/
noncomputable def FnFact (g : Gl) (f : Addr) (ps : List Str) (body : List Stmt) (scope : Scope) : Prop :=
  ∃ (name qual : Str) (params : Arguments) (dV kV doc pm cdv ct oc : Value) (an od : Option Addr) (osl : Array (Option Value)),
    g.K.lookup f = some ⟨oc, od, .func (fnOf name qual params body scope dV kV doc pm an cdv ct), osl⟩ ∧ codeIn g.K cdv qual = true ∧ ∀ s vs, vs.length = ps.length → BindsTo s (fnOf name qual params body scope dV kV doc pm an cdv ct) ⟨vs, []⟩ (ps.zip vs)
noncomputable def fnB (c : FC) (ps : List Str) (order : List Nat) : Bool :=
  goodB c && decide ps.Nodup && decide (ps = (c.names.map (·.1)).take ps.length) && !c.cs.isCoroutine && !c.cs.isGenerator &&
  decide ((cellsFrom 0 c.cs.names []).map (fun p => some p.1) = order.map fun i => (c.names[i]?).map (·.1)) && decide ((cellsFrom 0 c.cs.names []).map (·.1)).Nodup &&
  ((List.range c.names.length).all fun i => match c.names[i]? with
    | some (_, true) => order.contains i
    | _ => true) && (order.all fun i => match c.names[i]? with
    | some (_, true) => true
    | _ => false)
theorem fn_of {g : Gl} {c : FC} {ps : List Str} {order : List Nat} {f : Addr} {body : List Stmt} (F : FnFact g f ps body c.cs) (h : fnB c ps order = true) : FnAt g c ps order f body := by
  unfold fnB at h
  simp only [Bool.and_eq_true, decide_eq_true_eq, Bool.not_eq_true'] at h
  obtain ⟨⟨⟨⟨⟨⟨⟨⟨h1, h2⟩, h3⟩, h4⟩, h5⟩, h6⟩, h7⟩, h8⟩, h9⟩ := h
  refine ⟨F, good_of h1, h2, fun i p hp => ?_, h4, h5, h6, h7, fun i x hi => ?_, fun i hi => ?_⟩
  · rw [h3] at hp
    rw [List.getElem?_take] at hp
    split at hp
    · rw [List.getElem?_map] at hp
      cases hc : c.names[i]? with
      | none => rw [hc] at hp; cases hp
      | some q =>
        obtain ⟨y, b⟩ := q
        rw [hc] at hp
        cases hp
        exact ⟨b, rfl⟩
    · cases hp
  · have hl := (List.getElem?_eq_some_iff.mp hi).1
    have := List.all_eq_true.mp h8 i (List.mem_range.mpr hl)
    simp only [hi] at this
    simpa using this
  · have := List.all_eq_true.mp h9 i hi
    split at this
    · rename_i x hx
      exact ⟨x, hx⟩
    · cases this
section
variable {g : Gl} {n : Nat} {c : FC}
theorem ES.compN {pl : Bool} {target iter elt : Expr} {ifs : List Expr} {scope : Scope} {pos : Pos} {dI : IDen} {sto : Sto} {test : Option TDen} {de : EDen} (fuel nl : Nat) (fr : List Nat) (nm : List (Str × Bool))
    (K : cmpB c scope nm fr nl = true) (hi : IS g n c pl target iter dI) (ht : TgC (c.sub scope nm) pl target sto) (hc : CT g n (c.sub scope nm) ifs test) (he : ES g n (c.sub scope nm) elt de) (hs : ∀ env x, foldedSetIterable iter env x = pure x) :
    ES g n c (.ListComp elt [⟨target, iter, ifs, 0⟩] scope pos) (dCmp fuel dI sto test de nl fr) := ES.comp fuel (cmp_of K) hi ht hc he hs
theorem SS.asgCN {pl : Bool} {target iter elt : Expr} {ifs : List Expr} {scope : Scope} {cpos pos xp : Pos} {x : Str} {t : Tgt} {dI : IDen} {sto : Sto} {test : Option TDen} {de : EDen} (fuel nl : Nat) (fr : List Nat) (nm : List (Str × Bool))
    (K : cmpB c scope nm fr nl = true) (hi : IS g n c pl target iter dI) (ht : TgC (c.sub scope nm) pl target sto) (hc : CT g n (c.sub scope nm) ifs test) (he : ES g n (c.sub scope nm) elt de) (hs : ∀ env x, foldedSetIterable iter env x = pure x) (hx : c.names[t.1]? = some (x, t.2))
    (hsw : ∀ env : Env, env.scope = c.cs → swapsWith (.ListComp elt [⟨target, iter, ifs, 0⟩] scope cpos) (some (.Name x xp)) pos.line env = pure true) :
    SS g n c (.Assign [.Name x xp] (.ListComp elt [⟨target, iter, ifs, 0⟩] scope cpos) pos) (dAsg t (dCmp fuel dI sto test de nl fr)) := SS.asgC fuel (cmp_of K) hi ht hc he hs hx hsw
noncomputable def dNeg (d : EDen) : EDen := fun ε σ => match d ε σ with
  | some (.int i, σ) => some (.int (-i), σ)
  | _ => none
theorem ES.neg {e : Expr} {pos : Pos} {d : EDen} (h : ES g n c e d) : ES g n c (.UnaryOp .USub e pos) (dNeg d) := by
  refine ⟨?_⟩; intro φ env W m ml ε σ s x σ' P hd Q E q
  unfold dNeg at hd
  split at hd
  · rename_i i σ₁ h1
    cases hd
    refine UnaryOp_ (h.run _ _ _ _ _ _ _ _ _ _ P h1 _ _ fun v W' s' I' E' V' => ?_)
    cases V'
    exact PyProof.Rows.neg_int (q _ W' _ (I'.tok _) E' (.int _ _))
  · cases hd
/-- a name of the module's top: what it holds -/
noncomputable def Tops (g : Gl) (x : Str) (a : AV) : Prop := ∃ v, nsIn g.K mainGlobals x = some (some v) ∧ ∀ W, VR g W a v
theorem ES.glE {x : Str} {pos : Pos} {a : AV} (h : Tops g x a) (hk : c.cs.names.lookup x = some .globalImplicit) (hd : (x == ("__debug__" : Str)) = false) : ES g n c (.Name x pos) (dC a) := by
  obtain ⟨v, h1, h2⟩ := h
  exact ES.gl a h1 h2 hk hd
structure Fn (g : Gl) (x : Str) (a : Addr) : Prop where
  ns : nsIn g.K mainGlobals x = some (some (.ref a))
  keep : keepIn g.K (.ref a) = true
  dbg : (x == ("__debug__" : Str)) = false
theorem ES.call {x : Str} {xp pos : Pos} {e : Expr} {es : List Expr} {ds : List EDen} {a : Addr} {f : FL} {k : Nat} (F : Fn g x a) (hf : OpL g k (kall (.ref a)) f) (hle : k ≤ n) (hL : EsL g n c (e :: es) ds) (hx : c.cs.names.lookup x = some .globalImplicit) :
    ES g n c (.Call (.Name x xp) (e :: es) [] pos) (dCall f ds) := ES.callF (hf.up hle) hL F.ns F.keep hx F.dbg
theorem ES.call0 {x : Str} {xp pos : Pos} {a : Addr} {f : FL} {k : Nat} (F : Fn g x a) (hf : OpL g k (kall (.ref a)) f) (hle : k ≤ n) (hx : c.cs.names.lookup x = some .globalImplicit) :
    ES g n c (.Call (.Name x xp) [] [] pos) (dCall f []) := ES.callF0 (hf.up hle) F.ns F.keep hx F.dbg
theorem SS.no {st : Stmt} : SS g n c st dNo := by
  refine ⟨?_⟩; intro φ W m ε σ s fl ε' σ' P hd
  cases hd
end
end Rn

namespace Rn
open PySem PySem.Spec PySem.Calls PyProof.Rows PySem.W

noncomputable def topS : List Stmt := PySem.Challenge.pw_rh0269_02.main.body
noncomputable def bodyOf (i : Nat) : List Stmt := match topS[i]? with
  | some (.FunctionDef _ _ b _ _ _ _ _ _ _) => b
  | _ => []
noncomputable def scopeOf (i : Nat) : Scope := match topS[i]? with
  | some (.FunctionDef _ _ _ _ _ _ s _ _ _) => s
  | _ => default
noncomputable def initDef (i : Nat) : Stmt := match topS[i]? with
  | some (.ClassDef _ _ _ (d :: _) _ _ _ _ _ _ _) => d
  | _ => default
noncomputable def initBody (i : Nat) : List Stmt := match initDef i with
  | .FunctionDef _ _ b _ _ _ _ _ _ _ => b
  | _ => []
noncomputable def initScope (i : Nat) : Scope := match initDef i with
  | .FunctionDef _ _ _ _ _ _ s _ _ _ => s
  | _ => default
noncomputable def gWORDS : AV := .fl [.str [69, 78, 68], .str [70, 79, 82], .str [78, 69, 88, 84], .str [68, 65, 84, 65], .str [73, 78, 80, 85, 84], .str [68, 73, 77], .str [82, 69, 65, 68], .str [76, 69, 84], .str [71, 79, 84, 79], .str [82, 85, 78], .str [73, 70], .str [82, 69, 83, 84, 79, 82, 69], .str [71, 79, 83, 85, 66], .str [82, 69, 84, 85, 82, 78], .str [82, 69, 77], .str [83, 84, 79, 80], .str [79, 78], .str [80, 82, 73, 78, 84], .str [76, 73, 83, 84], .str [68, 69, 76, 69, 84, 69], .str [82, 69, 78, 85, 77], .str [78, 69, 87], .str [67, 79, 78, 84], .str [84, 79], .str [84, 72, 69, 78], .str [69, 76, 83, 69], .str [83, 84, 69, 80], .str [65, 78, 68], .str [79, 82], .str [78, 79, 84], .str [77, 79, 68], .str [84, 65, 66], .str [83, 71, 78], .str [65, 66, 83], .str [76, 69, 78], .str [83, 84, 82, 36], .str [86, 65, 76], .str [65, 83, 67], .str [67, 72, 82, 36], .str [76, 69, 70, 84, 36], .str [82, 73, 71, 72, 84, 36], .str [77, 73, 68, 36], .str [82, 78, 68], .str [73, 78, 83, 84, 82]]
noncomputable def gSIGNS : AV := .fl [.str [60, 61], .str [62, 61], .str [60, 62], .str [40], .str [41], .str [44], .str [59], .str [58], .str [61], .str [60], .str [62], .str [43], .str [45], .str [42], .str [47], .str [94], .str [35]]
noncomputable def gDIGITS : AV := .str [48, 49, 50, 51, 52, 53, 54, 55, 56, 57]
noncomputable def gLETTERS : AV := .str [65, 66, 67, 68, 69, 70, 71, 72, 73, 74, 75, 76, 77, 78, 79, 80, 81, 82, 83, 84, 85, 86, 87, 88, 89, 90]
noncomputable def gBLANKS : AV := .str [32, 9]
noncomputable def gMOST_NUMBER : AV := .int 65535
noncomputable def gGREATEST : AV := .int 65529
noncomputable def gJUMPS : AV := .tup [.str [71, 79, 84, 79], .str [71, 79, 83, 85, 66], .str [84, 72, 69, 78], .str [69, 76, 83, 69], .str [82, 69, 83, 84, 79, 82, 69], .str [82, 85, 78]]
/-- what the fragment must say -/
structure GOk (g : Gl) (fa : Nat → Addr) : Prop where
  cls : ClsOk g
  babs : nsIn g.K mainGlobals "abs" = some none
  benumerate : nsIn g.K mainGlobals "enumerate" = some none
  bint : nsIn g.K mainGlobals "int" = some none
  blen : nsIn g.K mainGlobals "len" = some none
  blist : nsIn g.K mainGlobals "list" = some none
  bmin : nsIn g.K mainGlobals "min" = some none
  bord : nsIn g.K mainGlobals "ord" = some none
  brange : nsIn g.K mainGlobals "range" = some none
  bstr : nsIn g.K mainGlobals "str" = some none
  bzip : nsIn g.K mainGlobals "zip" = some none
  tBLANKS : Tops g "BLANKS" gBLANKS
  tDIGITS : Tops g "DIGITS" gDIGITS
  tGREATEST : Tops g "GREATEST" gGREATEST
  tJUMPS : Tops g "JUMPS" gJUMPS
  tLETTERS : Tops g "LETTERS" gLETTERS
  tMOST_NUMBER : Tops g "MOST_NUMBER" gMOST_NUMBER
  tSIGNS : Tops g "SIGNS" gSIGNS
  tWORDS : Tops g "WORDS" gWORDS
  fgreat_sign : Fn g "great_sign" (fa 8)
  egreat_sign : FnFact g (fa 8) ["sign"] (bodyOf 8) (scopeOf 8)
  fgreat_text : Fn g "great_text" (fa 9)
  egreat_text : FnFact g (fa 9) ["text"] (bodyOf 9) (scopeOf 9)
  fword_at : Fn g "word_at" (fa 10)
  eword_at : FnFact g (fa 10) ["text", "at"] (bodyOf 10) (scopeOf 10)
  fsign_at : Fn g "sign_at" (fa 11)
  esign_at : FnFact g (fa 11) ["text", "at"] (bodyOf 11) (scopeOf 11)
  fbehind_blanks : Fn g "behind_blanks" (fa 12)
  ebehind_blanks : FnFact g (fa 12) ["text", "at"] (bodyOf 12) (scopeOf 12)
  fread_number : Fn g "read_number" (fa 13)
  eread_number : FnFact g (fa 13) ["text", "at"] (bodyOf 13) (scopeOf 13)
  fread_name : Fn g "read_name" (fa 14)
  eread_name : FnFact g (fa 14) ["whole", "at"] (bodyOf 14) (scopeOf 14)
  fread_token : Fn g "read_token" (fa 18)
  eread_token : FnFact g (fa 18) ["text", "whole", "at"] (bodyOf 18) (scopeOf 18)
  ftokens_of : Fn g "tokens_of" (fa 19)
  etokens_of : FnFact g (fa 19) ["text"] (bodyOf 19) (scopeOf 19)
  fplace_of : Fn g "place_of" (fa 24)
  eplace_of : FnFact g (fa 24) ["program", "number"] (bodyOf 24) (scopeOf 24)
  fhas_line : Fn g "has_line" (fa 25)
  ehas_line : FnFact g (fa 25) ["program", "number"] (bodyOf 25) (scopeOf 25)
  fput_line : Fn g "put_line" (fa 26)
  eput_line : FnFact g (fa 26) ["program", "number", "row"] (bodyOf 26) (scopeOf 26)
  fsplit_number : Fn g "split_number" (fa 27)
  esplit_number : FnFact g (fa 27) ["text"] (bodyOf 27) (scopeOf 27)
  fenter_row : Fn g "enter_row" (fa 28)
  eenter_row : FnFact g (fa 28) ["program", "text"] (bodyOf 28) (scopeOf 28)
  fenter_all : Fn g "enter_all" (fa 29)
  eenter_all : FnFact g (fa 29) ["program", "text"] (bodyOf 29) (scopeOf 29)
  ftargets : Fn g "targets" (fa 30)
  etargets : FnFact g (fa 30) ["row"] (bodyOf 30) (scopeOf 30)
  fis_whole_target : Fn g "is_whole_target" (fa 31)
  eis_whole_target : FnFact g (fa 31) ["row", "at"] (bodyOf 31) (scopeOf 31)
  flost_targets : Fn g "lost_targets" (fa 32)
  elost_targets : FnFact g (fa 32) ["program"] (bodyOf 32) (scopeOf 32)
  fnew_numbers : Fn g "new_numbers" (fa 33)
  enew_numbers : FnFact g (fa 33) ["program", "new", "old", "step"] (bodyOf 33) (scopeOf 33)
  fled_row : Fn g "led_row" (fa 34)
  eled_row : FnFact g (fa 34) ["row", "ways"] (bodyOf 34) (scopeOf 34)
  frenumber : Fn g "renumber" (fa 35)
  erenumber : FnFact g (fa 35) ["program", "new", "old", "step"] (bodyOf 35) (scopeOf 35)
  flaw_rows : Fn g "_law_rows" (fa 37)
  elaw_rows : FnFact g (fa 37) [] (bodyOf 37) (scopeOf 37)
  flaw_skimmed : Fn g "_law_skimmed" (fa 38)
  elaw_skimmed : FnFact g (fa 38) ["vessel", "many"] (bodyOf 38) (scopeOf 38)
  fProgram : Fn g "Program" g.C
  makes : makesIn g.K g.C = true
  findI : findIn g.K (.ref g.C) "__init__" = some (some (.ref (fa 23)))
  isI : isFn g.K (.ref (fa 23)) = true
  einit : FnFact g (fa 23) ["self"] (initBody 23) (initScope 23)

noncomputable def c_great_sign : FC := ⟨scopeOf 8, [("sign", false)]⟩
noncomputable def D_great_sign : SDen := dSeq (dRet (dIf (tCh fLe fLe (dC (.str [97])) (dN 0) (dC (.str [122]))) (fun _ _ => none) (dN 0))) (dEnd)
section
variable {g : Gl} {fa : Nat → Addr}
theorem B_great_sign (G : GOk g fa) : SSs g 0 c_great_sign (bodyOf 8) D_great_sign :=
  SSs.cons (SS.ret (ES.ite (TS.chain leS leS (ES.str [97] (by kernel_rfl)) (ES.nm 0 rfl) (ES.str [122] (by kernel_rfl)) rfl) (ES.no) (ES.nm 0 rfl))) (SSs.nil)
noncomputable def P_great_sign : List AV → Option AV := fDef 1 [] [false] D_great_sign
noncomputable def F_great_sign : FL := fPure P_great_sign
theorem S_great_sign (G : GOk g fa) : OpL g 1 (kall (.ref (fa 8))) F_great_sign := pureS (ps := ["sign"]) (order := []) (c := c_great_sign) (fn_of G.egreat_sign (by kernel_rfl)) (B_great_sign G)
end

noncomputable def c_word_at : FC := ⟨scopeOf 10, [("text", false), ("at", false), ("found", false), ("word", false)]⟩
noncomputable def D_word_at : SDen := dSeq (dAsg (2, false) (dC (.str []))) (dSeq (dFor 200 (dIt (dC gWORDS)) (dSto (3, false)) (dSeq (dIfS (tAnd [tV (d2 fGt (dCall fLen [dN 3]) (dCall fLen [dN 2])), tV (d2 fEq (dSl (dN 0) (some (dN 1)) (some (d2 fAdd (dN 1) (dCall fLen [dN 3])))) (dN 3))]) (dSeq (dAsg (2, false) (dN 3)) (dEnd)) (dEnd)) (dEnd))) (dSeq (dRet (dN 2)) (dEnd)))
section
variable {g : Gl} {fa : Nat → Addr}
theorem B_word_at (G : GOk g fa) : SSs g 0 c_word_at (bodyOf 10) D_word_at :=
  SSs.cons (SS.asg (t := (2, false)) rfl (ES.str [] (by kernel_rfl)) (fun _ => rfl)) (SSs.cons (SS.for 200 (IS.val (ES.glE G.tWORDS (by kernel_rfl) (by kernel_rfl))) (.name (t := (3, false)) rfl) (SSs.cons (SS.ifs (TS.and (.cons (TS.cmp gtS (ES.callB lenS (.cons (ES.nm 3 rfl) (fun _ _ => rfl) (.nil)) G.blen (by kernel_rfl) (by decide) (by kernel_rfl) (by kernel_rfl)) (ES.callB lenS (.cons (ES.nm 2 rfl) (fun _ _ => rfl) (.nil)) G.blen (by kernel_rfl) (by decide) (by kernel_rfl) (by kernel_rfl)) rfl) (.cons (TS.cmp eqS (ES.sl (ES.nm 0 rfl) (.some (ES.nm 1 rfl)) (.some (ES.bin addS (ES.nm 1 rfl) (ES.callB lenS (.cons (ES.nm 3 rfl) (fun _ _ => rfl) (.nil)) G.blen (by kernel_rfl) (by decide) (by kernel_rfl) (by kernel_rfl))))) (ES.nm 3 rfl) rfl) (.nil)))) (SSs.cons (SS.asg (t := (2, false)) rfl (ES.nm 3 rfl) (fun _ => rfl)) (SSs.nil)) (SSs.nil)) (SSs.nil)) (fun _ _ => rfl)) (SSs.cons (SS.ret (ES.nm 2 rfl)) (SSs.nil)))
noncomputable def P_word_at : List AV → Option AV := fDef 2 [] [false, false, false, false] D_word_at
noncomputable def F_word_at : FL := fPure P_word_at
theorem S_word_at (G : GOk g fa) : OpL g 1 (kall (.ref (fa 10))) F_word_at := pureS (ps := ["text", "at"]) (order := []) (c := c_word_at) (fn_of G.eword_at (by kernel_rfl)) (B_word_at G)
end

noncomputable def c_sign_at : FC := ⟨scopeOf 11, [("text", false), ("at", false), ("sign", false)]⟩
noncomputable def D_sign_at : SDen := dSeq (dFor 200 (dIt (dC gSIGNS)) (dSto (2, false)) (dSeq (dIfS (tV (d2 fEq (dSl (dN 0) (some (dN 1)) (some (d2 fAdd (dN 1) (dCall fLen [dN 2])))) (dN 2))) (dSeq (dRet (dN 2)) (dEnd)) (dEnd)) (dEnd))) (dSeq (dRet (dC (.str []))) (dEnd))
section
variable {g : Gl} {fa : Nat → Addr}
theorem B_sign_at (G : GOk g fa) : SSs g 0 c_sign_at (bodyOf 11) D_sign_at :=
  SSs.cons (SS.for 200 (IS.val (ES.glE G.tSIGNS (by kernel_rfl) (by kernel_rfl))) (.name (t := (2, false)) rfl) (SSs.cons (SS.ifs (TS.cmp eqS (ES.sl (ES.nm 0 rfl) (.some (ES.nm 1 rfl)) (.some (ES.bin addS (ES.nm 1 rfl) (ES.callB lenS (.cons (ES.nm 2 rfl) (fun _ _ => rfl) (.nil)) G.blen (by kernel_rfl) (by decide) (by kernel_rfl) (by kernel_rfl))))) (ES.nm 2 rfl) rfl) (SSs.cons (SS.ret (ES.nm 2 rfl)) (SSs.nil)) (SSs.nil)) (SSs.nil)) (fun _ _ => rfl)) (SSs.cons (SS.ret (ES.str [] (by kernel_rfl))) (SSs.nil))
noncomputable def P_sign_at : List AV → Option AV := fDef 2 [] [false, false, false] D_sign_at
noncomputable def F_sign_at : FL := fPure P_sign_at
theorem S_sign_at (G : GOk g fa) : OpL g 1 (kall (.ref (fa 11))) F_sign_at := pureS (ps := ["text", "at"]) (order := []) (c := c_sign_at) (fn_of G.esign_at (by kernel_rfl)) (B_sign_at G)
end

noncomputable def c_behind_blanks : FC := ⟨scopeOf 12, [("text", false), ("at", false)]⟩
noncomputable def D_behind_blanks : SDen := dSeq (dWh 200 (tAnd [tV (d2 fLt (dN 1) (dCall fLen [dN 0])), tV (d2 fIn (d2 fIdx (dN 0) (dN 1)) (dC gBLANKS))]) (dSeq (dAug 1 fIadd (dC (.int 1))) (dEnd))) (dSeq (dRet (dN 1)) (dEnd))
section
variable {g : Gl} {fa : Nat → Addr}
theorem B_behind_blanks (G : GOk g fa) : SSs g 0 c_behind_blanks (bodyOf 12) D_behind_blanks :=
  SSs.cons (SS.wh 200 (TS.and (.cons (TS.cmp ltS (ES.nm 1 rfl) (ES.callB lenS (.cons (ES.nm 0 rfl) (fun _ _ => rfl) (.nil)) G.blen (by kernel_rfl) (by decide) (by kernel_rfl) (by kernel_rfl)) rfl) (.cons (TS.cmp inS (ES.sub (ES.nm 0 rfl) (ES.nm 1 rfl) (fun _ _ => rfl)) (ES.glE G.tBLANKS (by kernel_rfl) (by kernel_rfl)) rfl) (.nil)))) (SSs.cons (SS.aug (i := 1) iaddS rfl (ES.int 1)) (SSs.nil))) (SSs.cons (SS.ret (ES.nm 1 rfl)) (SSs.nil))
noncomputable def P_behind_blanks : List AV → Option AV := fDef 2 [] [false, false] D_behind_blanks
noncomputable def F_behind_blanks : FL := fPure P_behind_blanks
theorem S_behind_blanks (G : GOk g fa) : OpL g 1 (kall (.ref (fa 12))) F_behind_blanks := pureS (ps := ["text", "at"]) (order := []) (c := c_behind_blanks) (fn_of G.ebehind_blanks (by kernel_rfl)) (B_behind_blanks G)
end

noncomputable def c_read_number : FC := ⟨scopeOf 13, [("text", false), ("at", false), ("found", false)]⟩
noncomputable def D_read_number : SDen := dSeq (dAsg (2, false) (dC (.int 0))) (dSeq (dWh 200 (tAnd [tV (d2 fLt (dN 1) (dCall fLen [dN 0])), tV (d2 fIn (d2 fIdx (dN 0) (dN 1)) (dC gDIGITS))]) (dSeq (dAsg (2, false) (d2 fSub (d2 fAdd (d2 fMul (dN 2) (dC (.int 10))) (dCall fOrd [d2 fIdx (dN 0) (dN 1)])) (dC (.int 48)))) (dSeq (dIfS (tV (d2 fGt (dN 2) (dC gMOST_NUMBER))) (dNo) (dEnd)) (dSeq (dAug 1 fIadd (dC (.int 1))) (dEnd))))) (dSeq (dRet (dTup [dN 2, dN 1])) (dEnd)))
section
variable {g : Gl} {fa : Nat → Addr}
theorem B_read_number (G : GOk g fa) : SSs g 0 c_read_number (bodyOf 13) D_read_number :=
  SSs.cons (SS.asg (t := (2, false)) rfl (ES.int 0) (fun _ => rfl)) (SSs.cons (SS.wh 200 (TS.and (.cons (TS.cmp ltS (ES.nm 1 rfl) (ES.callB lenS (.cons (ES.nm 0 rfl) (fun _ _ => rfl) (.nil)) G.blen (by kernel_rfl) (by decide) (by kernel_rfl) (by kernel_rfl)) rfl) (.cons (TS.cmp inS (ES.sub (ES.nm 0 rfl) (ES.nm 1 rfl) (fun _ _ => rfl)) (ES.glE G.tDIGITS (by kernel_rfl) (by kernel_rfl)) rfl) (.nil)))) (SSs.cons (SS.asg (t := (2, false)) rfl (ES.bin subS (ES.bin addS (ES.bin mulS (ES.nm 2 rfl) (ES.int 10)) (ES.callB ordS (.cons (ES.sub (ES.nm 0 rfl) (ES.nm 1 rfl) (fun _ _ => rfl)) (fun _ _ => rfl) (.nil)) G.bord (by kernel_rfl) (by decide) (by kernel_rfl) (by kernel_rfl))) (ES.int 48)) (fun _ => rfl)) (SSs.cons (SS.ifs (TS.cmp gtS (ES.nm 2 rfl) (ES.glE G.tMOST_NUMBER (by kernel_rfl) (by kernel_rfl)) rfl) (SSs.no) (SSs.nil)) (SSs.cons (SS.aug (i := 1) iaddS rfl (ES.int 1)) (SSs.nil))))) (SSs.cons (SS.ret (ES.tup (.cons (ES.nm 2 rfl) (fun _ _ => rfl) (.cons (ES.nm 1 rfl) (fun _ _ => rfl) (.nil))))) (SSs.nil)))
noncomputable def P_read_number : List AV → Option AV := fDef 2 [] [false, false, false] D_read_number
noncomputable def F_read_number : FL := fPure P_read_number
theorem S_read_number (G : GOk g fa) : OpL g 1 (kall (.ref (fa 13))) F_read_number := pureS (ps := ["text", "at"]) (order := []) (c := c_read_number) (fn_of G.eread_number (by kernel_rfl)) (B_read_number G)
end

noncomputable def c_place_of : FC := ⟨scopeOf 24, [("program", false), ("number", false), ("least", false), ("most", false), ("middle", false)]⟩
noncomputable def D_place_of : SDen := dSeq (dAsT true [(3, false), (2, false)] (dTup [dC (.int 0), dCall fLen [dAttr false (dN 0)]])) (dSeq (dWh 200 (tV (d2 fLt (dN 2) (dN 3))) (dSeq (dAsg (4, false) (d2 fHalf (d2 fAdd (dN 2) (dN 3)) (dC (.int 2)))) (dSeq (dIfS (tV (d2 fLt (d2 fIdx (dAttr false (dN 0)) (dN 4)) (dN 1))) (dSeq (dAsg (2, false) (d2 fAdd (dN 4) (dC (.int 1)))) (dEnd)) (dSeq (dAsg (3, false) (dN 4)) (dEnd))) (dEnd)))) (dSeq (dRet (dN 2)) (dEnd)))
section
variable {g : Gl} {fa : Nat → Addr}
theorem B_place_of (G : GOk g fa) : SSs g 0 c_place_of (bodyOf 24) D_place_of :=
  SSs.cons (SS.asS (names := ["least", "most"]) (ts := [(3, false), (2, false)]) (.cons (t := (3, false)) rfl (.cons (t := (2, false)) rfl (.nil))) rfl (ES.tup (.cons (ES.int 0) (fun _ _ => rfl) (.cons (ES.callB lenS (.cons (ES.attr G.cls (r := false) rfl (ES.nm 0 rfl)) (fun _ _ => rfl) (.nil)) G.blen (by kernel_rfl) (by decide) (by kernel_rfl) (by kernel_rfl)) (fun _ _ => rfl) (.nil)))) (fun _ => rfl) (by intro env h; unfold swappedStores Env.blockKind Env.kindOf; rw [h]; kernel_rfl)) (SSs.cons (SS.wh 200 (TS.cmp ltS (ES.nm 2 rfl) (ES.nm 3 rfl) rfl) (SSs.cons (SS.asg (t := (4, false)) rfl (ES.bin halfS (ES.bin addS (ES.nm 2 rfl) (ES.nm 3 rfl)) (ES.int 2)) (fun _ => rfl)) (SSs.cons (SS.ifs (TS.cmp ltS (ES.sub (ES.attr G.cls (r := false) rfl (ES.nm 0 rfl)) (ES.nm 4 rfl) (fun _ _ => rfl)) (ES.nm 1 rfl) rfl) (SSs.cons (SS.asg (t := (2, false)) rfl (ES.bin addS (ES.nm 4 rfl) (ES.int 1)) (fun _ => rfl)) (SSs.nil)) (SSs.cons (SS.asg (t := (3, false)) rfl (ES.nm 4 rfl) (fun _ => rfl)) (SSs.nil))) (SSs.nil)))) (SSs.cons (SS.ret (ES.nm 2 rfl)) (SSs.nil)))
noncomputable def P_place_of : List AV → Option AV := fDef 2 [] [false, false, false, false, false] D_place_of
noncomputable def F_place_of : FL := fPure P_place_of
theorem S_place_of (G : GOk g fa) : OpL g 1 (kall (.ref (fa 24))) F_place_of := pureS (ps := ["program", "number"]) (order := []) (c := c_place_of) (fn_of G.eplace_of (by kernel_rfl)) (B_place_of G)
end

noncomputable def c_is_whole_target : FC := ⟨scopeOf 31, [("row", false), ("at", false)]⟩
noncomputable def D_is_whole_target : SDen := dSeq (dIfS (tOr [tV (d2 fEq (d2 fAdd (dN 1) (dC (.int 1))) (dCall fLen [dN 0])), tV (d2 fIn (d2 fIdx (dN 0) (d2 fAdd (dN 1) (dC (.int 1)))) (dTup [dTup [dC (.str [115, 105, 103, 110]), dC (.str [44])], dTup [dC (.str [115, 105, 103, 110]), dC (.str [58])]]))]) (dSeq (dRet (dC (.bool true))) (dEnd)) (dEnd)) (dSeq (dRet (dAnd [d2 fEq (d2 fIdx (d2 fIdx (dN 0) (d2 fAdd (dN 1) (dC (.int 1)))) (dC (.int 0))) (dC (.str [119, 111, 114, 100])), d2 fIn (d2 fIdx (d2 fIdx (dN 0) (d2 fAdd (dN 1) (dC (.int 1)))) (dC (.int 1))) (dTup [dC (.str [69, 76, 83, 69]), dC (.str [82, 69, 77])])])) (dEnd))
section
variable {g : Gl} {fa : Nat → Addr}
theorem B_is_whole_target (G : GOk g fa) : SSs g 0 c_is_whole_target (bodyOf 31) D_is_whole_target :=
  SSs.cons (SS.ifs (TS.or (.cons (TS.cmp eqS (ES.bin addS (ES.nm 1 rfl) (ES.int 1)) (ES.callB lenS (.cons (ES.nm 0 rfl) (fun _ _ => rfl) (.nil)) G.blen (by kernel_rfl) (by decide) (by kernel_rfl) (by kernel_rfl)) rfl) (.cons (TS.cmp inS (ES.sub (ES.nm 0 rfl) (ES.bin addS (ES.nm 1 rfl) (ES.int 1)) (fun _ _ => rfl)) (ES.tup (.cons (ES.tup (.cons (ES.str [115, 105, 103, 110] (by kernel_rfl)) (fun _ _ => rfl) (.cons (ES.str [44] (by kernel_rfl)) (fun _ _ => rfl) (.nil)))) (fun _ _ => rfl) (.cons (ES.tup (.cons (ES.str [115, 105, 103, 110] (by kernel_rfl)) (fun _ _ => rfl) (.cons (ES.str [58] (by kernel_rfl)) (fun _ _ => rfl) (.nil)))) (fun _ _ => rfl) (.nil)))) rfl) (.nil)))) (SSs.cons (SS.ret (ES.bool true)) (SSs.nil)) (SSs.nil)) (SSs.cons (SS.ret (ES.and (.cons (ES.cmp eqS (ES.sub (ES.sub (ES.nm 0 rfl) (ES.bin addS (ES.nm 1 rfl) (ES.int 1)) (fun _ _ => rfl)) (ES.int 0) (fun _ _ => rfl)) (ES.str [119, 111, 114, 100] (by kernel_rfl)) rfl) (fun _ _ => rfl) (.cons (ES.cmp inS (ES.sub (ES.sub (ES.nm 0 rfl) (ES.bin addS (ES.nm 1 rfl) (ES.int 1)) (fun _ _ => rfl)) (ES.int 1) (fun _ _ => rfl)) (ES.tup (.cons (ES.str [69, 76, 83, 69] (by kernel_rfl)) (fun _ _ => rfl) (.cons (ES.str [82, 69, 77] (by kernel_rfl)) (fun _ _ => rfl) (.nil)))) rfl) (fun _ _ => rfl) (.nil))))) (SSs.nil))
noncomputable def P_is_whole_target : List AV → Option AV := fDef 2 [] [false, false] D_is_whole_target
noncomputable def F_is_whole_target : FL := fPure P_is_whole_target
theorem S_is_whole_target (G : GOk g fa) : OpL g 1 (kall (.ref (fa 31))) F_is_whole_target := pureS (ps := ["row", "at"]) (order := []) (c := c_is_whole_target) (fn_of G.eis_whole_target (by kernel_rfl)) (B_is_whole_target G)
end

noncomputable def c_law_rows : FC := ⟨scopeOf 37, []⟩
noncomputable def D_law_rows : SDen := dSeq (dRet (dLst [dTup [dC (.str [71, 79, 84, 79, 32, 49, 48]), dC (.str [71, 79, 84, 79, 32, 49, 48, 48]), dC .none], dTup [dC (.str [71, 79, 84, 79, 32, 49, 48, 32, 50, 48]), dC (.str [71, 79, 84, 79, 32, 49, 48, 32, 50, 48]), dC .none], dTup [dC (.str [79, 78, 32, 65, 32, 71, 79, 84, 79, 32, 49, 48, 44, 50, 48]), dC (.str [79, 78, 32, 65, 32, 71, 79, 84, 79, 32, 49, 48, 48, 44, 49, 49, 48]), dC .none], dTup [dC (.str [79, 78, 32, 65, 32, 71, 79, 83, 85, 66, 32, 49, 48, 44, 50, 48, 32, 51, 48]), dC (.str [79, 78, 32, 65, 32, 71, 79, 83, 85, 66, 32, 49, 48, 48, 44, 50, 48, 32, 51, 48]), dC .none], dTup [dC (.str [73, 70, 32, 65, 32, 84, 72, 69, 78, 32, 49, 48, 32, 69, 76, 83, 69, 32, 50, 48]), dC (.str [73, 70, 32, 65, 32, 84, 72, 69, 78, 32, 49, 48, 48, 32, 69, 76, 83, 69, 32, 49, 49, 48]), dC .none], dTup [dC (.str [73, 70, 32, 65, 32, 84, 72, 69, 78, 32, 49, 48, 32, 43, 32, 49]), dC (.str [73, 70, 32, 65, 32, 84, 72, 69, 78, 32, 49, 48, 32, 43, 32, 49]), dC .none], dTup [dC (.str [82, 69, 83, 84, 79, 82, 69, 32, 50, 48]), dC (.str [82, 69, 83, 84, 79, 82, 69, 32, 49, 49, 48]), dC .none], dTup [dC (.str [80, 82, 73, 78, 84, 32, 49, 48, 44, 50, 48]), dC (.str [80, 82, 73, 78, 84, 32, 49, 48, 44, 50, 48]), dC .none], dTup [dC (.str [71, 79, 83, 85, 66, 32, 51, 48, 32, 58, 32, 80, 82, 73, 78, 84, 32, 50, 48]), dC (.str [71, 79, 83, 85, 66, 32, 49, 50, 48, 32, 58, 32, 80, 82, 73, 78, 84, 32, 50, 48]), dC .none], dTup [dC (.str [71, 79, 84, 79, 32, 50, 48, 32, 82, 69, 77, 32, 49, 48]), dC (.str [71, 79, 84, 79, 32, 49, 49, 48, 32, 82, 69, 77, 32, 49, 48]), dC .none], dTup [dC (.str [79, 78, 32, 65, 32, 71, 79, 84, 79, 32, 49, 48, 44, 57, 57, 44, 51, 48]), dC (.str [79, 78, 32, 65, 32, 71, 79, 84, 79, 32, 49, 48, 48, 44, 57, 57, 44, 49, 50, 48]), dC (.int 99)], dTup [dC (.str [71, 79, 84, 79, 32, 44, 32, 49, 48]), dC (.str [71, 79, 84, 79, 32, 44, 32, 49, 48]), dC .none], dTup [dC (.str [65, 32, 61, 32, 49, 48]), dC (.str [65, 32, 61, 32, 49, 48]), dC .none], dTup [dC (.str [82, 85, 78, 32, 51, 48]), dC (.str [82, 85, 78, 32, 49, 50, 48]), dC .none], dTup [dC (.str [73, 70, 32, 65, 32, 84, 72, 69, 78, 32, 66, 32, 61, 32, 50, 48]), dC (.str [73, 70, 32, 65, 32, 84, 72, 69, 78, 32, 66, 32, 61, 32, 50, 48]), dC .none], dTup [dC (.str [71, 79, 84, 79, 32, 52, 48]), dC (.str [71, 79, 84, 79, 32, 52, 48]), dC (.int 40)]])) (dEnd)
section
variable {g : Gl} {fa : Nat → Addr}
theorem B_law_rows (G : GOk g fa) : SSs g 0 c_law_rows (bodyOf 37) D_law_rows :=
  SSs.cons (SS.ret (ES.lst (.cons (ES.tup (.cons (ES.str [71, 79, 84, 79, 32, 49, 48] (by kernel_rfl)) (fun _ _ => rfl) (.cons (ES.str [71, 79, 84, 79, 32, 49, 48, 48] (by kernel_rfl)) (fun _ _ => rfl) (.cons (ES.non) (fun _ _ => rfl) (.nil))))) (fun _ _ => rfl) (.cons (ES.tup (.cons (ES.str [71, 79, 84, 79, 32, 49, 48, 32, 50, 48] (by kernel_rfl)) (fun _ _ => rfl) (.cons (ES.str [71, 79, 84, 79, 32, 49, 48, 32, 50, 48] (by kernel_rfl)) (fun _ _ => rfl) (.cons (ES.non) (fun _ _ => rfl) (.nil))))) (fun _ _ => rfl) (.cons (ES.tup (.cons (ES.str [79, 78, 32, 65, 32, 71, 79, 84, 79, 32, 49, 48, 44, 50, 48] (by kernel_rfl)) (fun _ _ => rfl) (.cons (ES.str [79, 78, 32, 65, 32, 71, 79, 84, 79, 32, 49, 48, 48, 44, 49, 49, 48] (by kernel_rfl)) (fun _ _ => rfl) (.cons (ES.non) (fun _ _ => rfl) (.nil))))) (fun _ _ => rfl) (.cons (ES.tup (.cons (ES.str [79, 78, 32, 65, 32, 71, 79, 83, 85, 66, 32, 49, 48, 44, 50, 48, 32, 51, 48] (by kernel_rfl)) (fun _ _ => rfl) (.cons (ES.str [79, 78, 32, 65, 32, 71, 79, 83, 85, 66, 32, 49, 48, 48, 44, 50, 48, 32, 51, 48] (by kernel_rfl)) (fun _ _ => rfl) (.cons (ES.non) (fun _ _ => rfl) (.nil))))) (fun _ _ => rfl) (.cons (ES.tup (.cons (ES.str [73, 70, 32, 65, 32, 84, 72, 69, 78, 32, 49, 48, 32, 69, 76, 83, 69, 32, 50, 48] (by kernel_rfl)) (fun _ _ => rfl) (.cons (ES.str [73, 70, 32, 65, 32, 84, 72, 69, 78, 32, 49, 48, 48, 32, 69, 76, 83, 69, 32, 49, 49, 48] (by kernel_rfl)) (fun _ _ => rfl) (.cons (ES.non) (fun _ _ => rfl) (.nil))))) (fun _ _ => rfl) (.cons (ES.tup (.cons (ES.str [73, 70, 32, 65, 32, 84, 72, 69, 78, 32, 49, 48, 32, 43, 32, 49] (by kernel_rfl)) (fun _ _ => rfl) (.cons (ES.str [73, 70, 32, 65, 32, 84, 72, 69, 78, 32, 49, 48, 32, 43, 32, 49] (by kernel_rfl)) (fun _ _ => rfl) (.cons (ES.non) (fun _ _ => rfl) (.nil))))) (fun _ _ => rfl) (.cons (ES.tup (.cons (ES.str [82, 69, 83, 84, 79, 82, 69, 32, 50, 48] (by kernel_rfl)) (fun _ _ => rfl) (.cons (ES.str [82, 69, 83, 84, 79, 82, 69, 32, 49, 49, 48] (by kernel_rfl)) (fun _ _ => rfl) (.cons (ES.non) (fun _ _ => rfl) (.nil))))) (fun _ _ => rfl) (.cons (ES.tup (.cons (ES.str [80, 82, 73, 78, 84, 32, 49, 48, 44, 50, 48] (by kernel_rfl)) (fun _ _ => rfl) (.cons (ES.str [80, 82, 73, 78, 84, 32, 49, 48, 44, 50, 48] (by kernel_rfl)) (fun _ _ => rfl) (.cons (ES.non) (fun _ _ => rfl) (.nil))))) (fun _ _ => rfl) (.cons (ES.tup (.cons (ES.str [71, 79, 83, 85, 66, 32, 51, 48, 32, 58, 32, 80, 82, 73, 78, 84, 32, 50, 48] (by kernel_rfl)) (fun _ _ => rfl) (.cons (ES.str [71, 79, 83, 85, 66, 32, 49, 50, 48, 32, 58, 32, 80, 82, 73, 78, 84, 32, 50, 48] (by kernel_rfl)) (fun _ _ => rfl) (.cons (ES.non) (fun _ _ => rfl) (.nil))))) (fun _ _ => rfl) (.cons (ES.tup (.cons (ES.str [71, 79, 84, 79, 32, 50, 48, 32, 82, 69, 77, 32, 49, 48] (by kernel_rfl)) (fun _ _ => rfl) (.cons (ES.str [71, 79, 84, 79, 32, 49, 49, 48, 32, 82, 69, 77, 32, 49, 48] (by kernel_rfl)) (fun _ _ => rfl) (.cons (ES.non) (fun _ _ => rfl) (.nil))))) (fun _ _ => rfl) (.cons (ES.tup (.cons (ES.str [79, 78, 32, 65, 32, 71, 79, 84, 79, 32, 49, 48, 44, 57, 57, 44, 51, 48] (by kernel_rfl)) (fun _ _ => rfl) (.cons (ES.str [79, 78, 32, 65, 32, 71, 79, 84, 79, 32, 49, 48, 48, 44, 57, 57, 44, 49, 50, 48] (by kernel_rfl)) (fun _ _ => rfl) (.cons (ES.int 99) (fun _ _ => rfl) (.nil))))) (fun _ _ => rfl) (.cons (ES.tup (.cons (ES.str [71, 79, 84, 79, 32, 44, 32, 49, 48] (by kernel_rfl)) (fun _ _ => rfl) (.cons (ES.str [71, 79, 84, 79, 32, 44, 32, 49, 48] (by kernel_rfl)) (fun _ _ => rfl) (.cons (ES.non) (fun _ _ => rfl) (.nil))))) (fun _ _ => rfl) (.cons (ES.tup (.cons (ES.str [65, 32, 61, 32, 49, 48] (by kernel_rfl)) (fun _ _ => rfl) (.cons (ES.str [65, 32, 61, 32, 49, 48] (by kernel_rfl)) (fun _ _ => rfl) (.cons (ES.non) (fun _ _ => rfl) (.nil))))) (fun _ _ => rfl) (.cons (ES.tup (.cons (ES.str [82, 85, 78, 32, 51, 48] (by kernel_rfl)) (fun _ _ => rfl) (.cons (ES.str [82, 85, 78, 32, 49, 50, 48] (by kernel_rfl)) (fun _ _ => rfl) (.cons (ES.non) (fun _ _ => rfl) (.nil))))) (fun _ _ => rfl) (.cons (ES.tup (.cons (ES.str [73, 70, 32, 65, 32, 84, 72, 69, 78, 32, 66, 32, 61, 32, 50, 48] (by kernel_rfl)) (fun _ _ => rfl) (.cons (ES.str [73, 70, 32, 65, 32, 84, 72, 69, 78, 32, 66, 32, 61, 32, 50, 48] (by kernel_rfl)) (fun _ _ => rfl) (.cons (ES.non) (fun _ _ => rfl) (.nil))))) (fun _ _ => rfl) (.cons (ES.tup (.cons (ES.str [71, 79, 84, 79, 32, 52, 48] (by kernel_rfl)) (fun _ _ => rfl) (.cons (ES.str [71, 79, 84, 79, 32, 52, 48] (by kernel_rfl)) (fun _ _ => rfl) (.cons (ES.int 40) (fun _ _ => rfl) (.nil))))) (fun _ _ => rfl) (.nil))))))))))))))))))) (SSs.nil)
noncomputable def P_law_rows : List AV → Option AV := fDef 0 [] [] D_law_rows
noncomputable def F_law_rows : FL := fPure P_law_rows
theorem S_law_rows (G : GOk g fa) : OpL g 1 (kall (.ref (fa 37))) F_law_rows := pureS (ps := []) (order := []) (c := c_law_rows) (fn_of G.elaw_rows (by kernel_rfl)) (B_law_rows G)
end

noncomputable def c_law_skimmed : FC := ⟨scopeOf 38, [("vessel", false), ("many", false)]⟩
noncomputable def D_law_skimmed : SDen := dSeq (dSetI (d2 fAdd (d2 fIdx (dN 0) (dC (.int 1))) (dC (.int 1))) (dN 0) (dC (.int 1))) (dSeq (dRet (d2 fMod (dIf (tV (d2 fLe (d2 fIdx (dN 0) (dC (.int 1))) (dCall fLen [d2 fIdx (dN 0) (dC (.int 0))]))) (d2 fIdx (d2 fIdx (dN 0) (dC (.int 0))) (d2 fSub (d2 fIdx (dN 0) (dC (.int 1))) (dC (.int 1)))) (d2 fAdd (d2 fMul (dC (.int 5)) (d2 fIdx (dN 0) (dC (.int 1)))) (dC (.int 4)))) (dN 1))) (dEnd))
section
variable {g : Gl} {fa : Nat → Addr}
theorem B_law_skimmed (G : GOk g fa) : SSs g 0 c_law_skimmed (bodyOf 38) D_law_skimmed :=
  SSs.cons (SS.setI (ES.bin addS (ES.sub (ES.nm 0 rfl) (ES.int 1) (fun _ _ => rfl)) (ES.int 1)) (ES.nm 0 rfl) (ES.int 1) (fun _ => rfl)) (SSs.cons (SS.ret (ES.bin modS (ES.ite (TS.cmp leS (ES.sub (ES.nm 0 rfl) (ES.int 1) (fun _ _ => rfl)) (ES.callB lenS (.cons (ES.sub (ES.nm 0 rfl) (ES.int 0) (fun _ _ => rfl)) (fun _ _ => rfl) (.nil)) G.blen (by kernel_rfl) (by decide) (by kernel_rfl) (by kernel_rfl)) rfl) (ES.sub (ES.sub (ES.nm 0 rfl) (ES.int 0) (fun _ _ => rfl)) (ES.bin subS (ES.sub (ES.nm 0 rfl) (ES.int 1) (fun _ _ => rfl)) (ES.int 1)) (fun _ _ => rfl)) (ES.bin addS (ES.bin mulS (ES.int 5) (ES.sub (ES.nm 0 rfl) (ES.int 1) (fun _ _ => rfl))) (ES.int 4))) (ES.nm 1 rfl))) (SSs.nil))
noncomputable def F_law_skimmed : FL := fImp 2 [] [false, false] D_law_skimmed
theorem S_law_skimmed (G : GOk g fa) : OpL g 1 (kall (.ref (fa 38))) F_law_skimmed := impS (ps := ["vessel", "many"]) (order := []) (c := c_law_skimmed) (fn_of G.elaw_skimmed (by kernel_rfl)) (B_law_skimmed G)
end

noncomputable def c_init : FC := ⟨initScope 23, [("self", false)]⟩
noncomputable def D_init : SDen := dSeq (dSetA false (dLst []) (dN 0)) (dSeq (dSetA true (dLst []) (dN 0)) (dEnd))
section
variable {g : Gl} {fa : Nat → Addr}
theorem B_init (G : GOk g fa) : SSs g 0 c_init (initBody 23) D_init :=
  SSs.cons (SS.setA G.cls (r := false) rfl (ES.lst (.nil)) (ES.nm 0 rfl) (fun _ => rfl)) (SSs.cons (SS.setA G.cls (r := true) rfl (ES.lst (.nil)) (ES.nm 0 rfl) (fun _ => rfl)) (SSs.nil))
noncomputable def F_Program : FL := fNew (fImp 1 [] [false] D_init)
theorem S_Program (G : GOk g fa) : OpL g 2 (kall (.ref g.C)) F_Program := newS (ps := ["self"]) (order := []) (c := c_init) (fn_of G.einit (by kernel_rfl)) (B_init G) G.makes G.findI G.isI
end

noncomputable def c_great_text : FC := ⟨scopeOf 9, [("text", false)]⟩
noncomputable def D_great_text : SDen := dSeq (dRet (dMeth okStr fJoin (dC (.str [])) [dCmp 200 (dItS (dN 0)) (dSto (0, false)) none (dCall F_great_sign [dN 0]) 1 []])) (dEnd)
section
variable {g : Gl} {fa : Nat → Addr}
theorem B_great_text (G : GOk g fa) : SSs g 1 c_great_text (bodyOf 9) D_great_text :=
  SSs.cons (SS.ret (ES.meth joinM (ES.str [] (by kernel_rfl)) (.cons (ES.compN 200 1 [] [("sign", false)] (by kernel_rfl) (IS.str (ES.nm 0 rfl)) (.name rfl) (.none) (ES.call G.fgreat_sign (S_great_sign G) (by decide) (.cons (ES.nm 0 rfl) (fun _ _ => rfl) (.nil)) (by kernel_rfl)) (fun _ _ => rfl)) (fun _ _ => rfl) (.nil)) (fun _ => ⟨_, rfl⟩))) (SSs.nil)
noncomputable def P_great_text : List AV → Option AV := fDef 1 [] [false] D_great_text
noncomputable def F_great_text : FL := fPure P_great_text
theorem S_great_text (G : GOk g fa) : OpL g 2 (kall (.ref (fa 9))) F_great_text := pureS (ps := ["text"]) (order := []) (c := c_great_text) (fn_of G.egreat_text (by kernel_rfl)) (B_great_text G)
end

noncomputable def c_read_name : FC := ⟨scopeOf 14, [("whole", false), ("at", false), ("begin", false)]⟩
noncomputable def D_read_name : SDen := dSeq (dAsg (2, false) (dN 1)) (dSeq (dAug 1 fIadd (dC (.int 1))) (dSeq (dWh 200 (tAnd [tV (d2 fLt (dN 1) (dCall fLen [dN 0])), tV (d2 fIn (d2 fIdx (dN 0) (dN 1)) (d2 fAdd (dC gLETTERS) (dC gDIGITS))), tV (d2 fEq (dCall F_word_at [dN 0, dN 1]) (dC (.str [])))]) (dSeq (dAug 1 fIadd (dC (.int 1))) (dEnd))) (dSeq (dIfS (tV (d2 fEq (dSl (dN 0) (some (dN 1)) (some (d2 fAdd (dN 1) (dC (.int 1))))) (dC (.str [36])))) (dSeq (dAug 1 fIadd (dC (.int 1))) (dEnd)) (dEnd)) (dSeq (dRet (dTup [dSl (dN 0) (some (dN 2)) (some (dN 1)), dN 1])) (dEnd)))))
section
variable {g : Gl} {fa : Nat → Addr}
theorem B_read_name (G : GOk g fa) : SSs g 1 c_read_name (bodyOf 14) D_read_name :=
  SSs.cons (SS.asg (t := (2, false)) rfl (ES.nm 1 rfl) (fun _ => rfl)) (SSs.cons (SS.aug (i := 1) iaddS rfl (ES.int 1)) (SSs.cons (SS.wh 200 (TS.and (.cons (TS.cmp ltS (ES.nm 1 rfl) (ES.callB lenS (.cons (ES.nm 0 rfl) (fun _ _ => rfl) (.nil)) G.blen (by kernel_rfl) (by decide) (by kernel_rfl) (by kernel_rfl)) rfl) (.cons (TS.cmp inS (ES.sub (ES.nm 0 rfl) (ES.nm 1 rfl) (fun _ _ => rfl)) (ES.bin addS (ES.glE G.tLETTERS (by kernel_rfl) (by kernel_rfl)) (ES.glE G.tDIGITS (by kernel_rfl) (by kernel_rfl))) rfl) (.cons (TS.cmp eqS (ES.call G.fword_at (S_word_at G) (by decide) (.cons (ES.nm 0 rfl) (fun _ _ => rfl) (.cons (ES.nm 1 rfl) (fun _ _ => rfl) (.nil))) (by kernel_rfl)) (ES.str [] (by kernel_rfl)) rfl) (.nil))))) (SSs.cons (SS.aug (i := 1) iaddS rfl (ES.int 1)) (SSs.nil))) (SSs.cons (SS.ifs (TS.cmp eqS (ES.sl (ES.nm 0 rfl) (.some (ES.nm 1 rfl)) (.some (ES.bin addS (ES.nm 1 rfl) (ES.int 1)))) (ES.str [36] (by kernel_rfl)) rfl) (SSs.cons (SS.aug (i := 1) iaddS rfl (ES.int 1)) (SSs.nil)) (SSs.nil)) (SSs.cons (SS.ret (ES.tup (.cons (ES.sl (ES.nm 0 rfl) (.some (ES.nm 2 rfl)) (.some (ES.nm 1 rfl))) (fun _ _ => rfl) (.cons (ES.nm 1 rfl) (fun _ _ => rfl) (.nil))))) (SSs.nil)))))
noncomputable def P_read_name : List AV → Option AV := fDef 2 [] [false, false, false] D_read_name
noncomputable def F_read_name : FL := fPure P_read_name
theorem S_read_name (G : GOk g fa) : OpL g 2 (kall (.ref (fa 14))) F_read_name := pureS (ps := ["whole", "at"]) (order := []) (c := c_read_name) (fn_of G.eread_name (by kernel_rfl)) (B_read_name G)
end

noncomputable def c_has_line : FC := ⟨scopeOf 25, [("program", false), ("number", false), ("at", false)]⟩
noncomputable def D_has_line : SDen := dSeq (dAsg (2, false) (dCall F_place_of [dN 0, dN 1])) (dSeq (dRet (dAnd [d2 fLt (dN 2) (dCall fLen [dAttr false (dN 0)]), d2 fEq (d2 fIdx (dAttr false (dN 0)) (dN 2)) (dN 1)])) (dEnd))
section
variable {g : Gl} {fa : Nat → Addr}
theorem B_has_line (G : GOk g fa) : SSs g 1 c_has_line (bodyOf 25) D_has_line :=
  SSs.cons (SS.asg (t := (2, false)) rfl (ES.call G.fplace_of (S_place_of G) (by decide) (.cons (ES.nm 0 rfl) (fun _ _ => rfl) (.cons (ES.nm 1 rfl) (fun _ _ => rfl) (.nil))) (by kernel_rfl)) (fun _ => rfl)) (SSs.cons (SS.ret (ES.and (.cons (ES.cmp ltS (ES.nm 2 rfl) (ES.callB lenS (.cons (ES.attr G.cls (r := false) rfl (ES.nm 0 rfl)) (fun _ _ => rfl) (.nil)) G.blen (by kernel_rfl) (by decide) (by kernel_rfl) (by kernel_rfl)) rfl) (fun _ _ => rfl) (.cons (ES.cmp eqS (ES.sub (ES.attr G.cls (r := false) rfl (ES.nm 0 rfl)) (ES.nm 2 rfl) (fun _ _ => rfl)) (ES.nm 1 rfl) rfl) (fun _ _ => rfl) (.nil))))) (SSs.nil))
noncomputable def P_has_line : List AV → Option AV := fDef 2 [] [false, false, false] D_has_line
noncomputable def F_has_line : FL := fPure P_has_line
theorem S_has_line (G : GOk g fa) : OpL g 2 (kall (.ref (fa 25))) F_has_line := pureS (ps := ["program", "number"]) (order := []) (c := c_has_line) (fn_of G.ehas_line (by kernel_rfl)) (B_has_line G)
end

noncomputable def c_split_number : FC := ⟨scopeOf 27, [("text", false), ("begin", false), ("number", false), ("at", false)]⟩
noncomputable def D_split_number : SDen := dSeq (dAsT true [(2, false), (1, false)] (dTup [dCall F_behind_blanks [dN 0, dC (.int 0)], dC (.int 0)])) (dSeq (dAsg (3, false) (dN 1)) (dSeq (dWh 200 (tAnd [tV (d2 fLt (dN 3) (dCall fLen [dN 0])), tCh fLe fLe (dC (.str [48])) (d2 fIdx (dN 0) (dN 3)) (dC (.str [57]))]) (dSeq (dAsg (2, false) (dCall fMin [d2 fSub (d2 fAdd (d2 fMul (dN 2) (dC (.int 10))) (dCall fOrd [d2 fIdx (dN 0) (dN 3)])) (dC (.int 48)), d2 fAdd (dC gGREATEST) (dC (.int 1))])) (dSeq (dAug 3 fIadd (dC (.int 1))) (dEnd)))) (dSeq (dRet (dIf (tV (d2 fEq (dN 3) (dN 1))) (dTup [dC .none, dN 0]) (dTup [dN 2, dSl (dN 0) (some (dN 3)) none]))) (dEnd))))
section
variable {g : Gl} {fa : Nat → Addr}
theorem B_split_number (G : GOk g fa) : SSs g 1 c_split_number (bodyOf 27) D_split_number :=
  SSs.cons (SS.asS (names := ["begin", "number"]) (ts := [(2, false), (1, false)]) (.cons (t := (2, false)) rfl (.cons (t := (1, false)) rfl (.nil))) rfl (ES.tup (.cons (ES.call G.fbehind_blanks (S_behind_blanks G) (by decide) (.cons (ES.nm 0 rfl) (fun _ _ => rfl) (.cons (ES.int 0) (fun _ _ => rfl) (.nil))) (by kernel_rfl)) (fun _ _ => rfl) (.cons (ES.int 0) (fun _ _ => rfl) (.nil)))) (fun _ => rfl) (by intro env h; unfold swappedStores Env.blockKind Env.kindOf; rw [h]; kernel_rfl)) (SSs.cons (SS.asg (t := (3, false)) rfl (ES.nm 1 rfl) (fun _ => rfl)) (SSs.cons (SS.wh 200 (TS.and (.cons (TS.cmp ltS (ES.nm 3 rfl) (ES.callB lenS (.cons (ES.nm 0 rfl) (fun _ _ => rfl) (.nil)) G.blen (by kernel_rfl) (by decide) (by kernel_rfl) (by kernel_rfl)) rfl) (.cons (TS.chain leS leS (ES.str [48] (by kernel_rfl)) (ES.sub (ES.nm 0 rfl) (ES.nm 3 rfl) (fun _ _ => rfl)) (ES.str [57] (by kernel_rfl)) rfl) (.nil)))) (SSs.cons (SS.asg (t := (2, false)) rfl (ES.callB minS (.cons (ES.bin subS (ES.bin addS (ES.bin mulS (ES.nm 2 rfl) (ES.int 10)) (ES.callB ordS (.cons (ES.sub (ES.nm 0 rfl) (ES.nm 3 rfl) (fun _ _ => rfl)) (fun _ _ => rfl) (.nil)) G.bord (by kernel_rfl) (by decide) (by kernel_rfl) (by kernel_rfl))) (ES.int 48)) (fun _ _ => rfl) (.cons (ES.bin addS (ES.glE G.tGREATEST (by kernel_rfl) (by kernel_rfl)) (ES.int 1)) (fun _ _ => rfl) (.nil))) G.bmin (by kernel_rfl) (by decide) (by kernel_rfl) (by kernel_rfl)) (fun _ => rfl)) (SSs.cons (SS.aug (i := 3) iaddS rfl (ES.int 1)) (SSs.nil)))) (SSs.cons (SS.ret (ES.ite (TS.cmp eqS (ES.nm 3 rfl) (ES.nm 1 rfl) rfl) (ES.tup (.cons (ES.non) (fun _ _ => rfl) (.cons (ES.nm 0 rfl) (fun _ _ => rfl) (.nil)))) (ES.tup (.cons (ES.nm 2 rfl) (fun _ _ => rfl) (.cons (ES.sl (ES.nm 0 rfl) (.some (ES.nm 3 rfl)) .none) (fun _ _ => rfl) (.nil)))))) (SSs.nil))))
noncomputable def P_split_number : List AV → Option AV := fDef 1 [] [false, false, false, false] D_split_number
noncomputable def F_split_number : FL := fPure P_split_number
theorem S_split_number (G : GOk g fa) : OpL g 2 (kall (.ref (fa 27))) F_split_number := pureS (ps := ["text"]) (order := []) (c := c_split_number) (fn_of G.esplit_number (by kernel_rfl)) (B_split_number G)
end

noncomputable def c_targets : FC := ⟨scopeOf 30, [("row", true), ("found", false), ("is_open", false), ("at", false), ("token", false), ("is_listed", false)]⟩
noncomputable def D_targets : SDen := dSeq (dAsT true [(2, false), (1, false)] (dTup [dLst [], dC (.bool false)])) (dSeq (dFor 200 (dEnum (dX 0)) (dStoTup [(3, false), (4, false)]) (dSeq (dIfS (tAnd [tV (dN 2), tV (d2 fEq (d2 fIdx (dN 4) (dC (.int 0))) (dC (.str [110, 117, 109, 98, 101, 114])))]) (dSeq (dExp (dMeth okOwn fAppend (dN 1) [dN 3])) (dEnd)) (dEnd)) (dSeq (dAsg (5, false) (dAnd [d2 fEq (dN 4) (dTup [dC (.str [115, 105, 103, 110]), dC (.str [44])]), d2 fEq (dSl (dN 1) (some (dNeg (dC (.int 1)))) none) (dLst [d2 fSub (dN 3) (dC (.int 1))])])) (dSeq (dAsg (2, false) (dOr [dN 5, dAnd [d2 fEq (d2 fIdx (dN 4) (dC (.int 0))) (dC (.str [119, 111, 114, 100])), d2 fIn (d2 fIdx (dN 4) (dC (.int 1))) (dC gJUMPS)]])) (dEnd))))) (dSeq (dRet (dCmp 200 (dIt (dN 1)) (dSto (0, false)) (some (tV (dCall F_is_whole_target [dX 1, dN 0]))) (dN 0) 1 [0])) (dEnd)))
section
variable {g : Gl} {fa : Nat → Addr}
theorem B_targets (G : GOk g fa) : SSs g 1 c_targets (bodyOf 30) D_targets :=
  SSs.cons (SS.asS (names := ["found", "is_open"]) (ts := [(2, false), (1, false)]) (.cons (t := (2, false)) rfl (.cons (t := (1, false)) rfl (.nil))) rfl (ES.tup (.cons (ES.lst (.nil)) (fun _ _ => rfl) (.cons (ES.bool false) (fun _ _ => rfl) (.nil)))) (fun _ => rfl) (by intro env h; unfold swappedStores Env.blockKind Env.kindOf; rw [h]; kernel_rfl)) (SSs.cons (SS.for 200 (IS.enum rfl (.cons (ES.cl 0 rfl) (fun _ _ => rfl) (.nil)) G.benumerate (by kernel_rfl)) (.tup (.cons (t := (3, false)) rfl (.cons (t := (4, false)) rfl (.nil)))) (SSs.cons (SS.ifs (TS.and (.cons (TS.val (ES.nm 2 rfl) (fun _ _ => rfl)) (.cons (TS.cmp eqS (ES.sub (ES.nm 4 rfl) (ES.int 0) (fun _ _ => rfl)) (ES.str [110, 117, 109, 98, 101, 114] (by kernel_rfl)) rfl) (.nil)))) (SSs.cons (SS.exp (ES.meth appendM (ES.nm 1 rfl) (.cons (ES.nm 3 rfl) (fun _ _ => rfl) (.nil)) (fun _ => ⟨_, rfl⟩)) (fun _ => rfl)) (SSs.nil)) (SSs.nil)) (SSs.cons (SS.asg (t := (5, false)) rfl (ES.and (.cons (ES.cmp eqS (ES.nm 4 rfl) (ES.tup (.cons (ES.str [115, 105, 103, 110] (by kernel_rfl)) (fun _ _ => rfl) (.cons (ES.str [44] (by kernel_rfl)) (fun _ _ => rfl) (.nil)))) rfl) (fun _ _ => rfl) (.cons (ES.cmp eqS (ES.sl (ES.nm 1 rfl) (.some (ES.neg (ES.int 1))) .none) (ES.lst (.cons (ES.bin subS (ES.nm 3 rfl) (ES.int 1)) (fun _ _ => rfl) (.nil))) rfl) (fun _ _ => rfl) (.nil)))) (fun _ => rfl)) (SSs.cons (SS.asg (t := (2, false)) rfl (ES.or (.cons (ES.nm 5 rfl) (fun _ _ => rfl) (.cons (ES.and (.cons (ES.cmp eqS (ES.sub (ES.nm 4 rfl) (ES.int 0) (fun _ _ => rfl)) (ES.str [119, 111, 114, 100] (by kernel_rfl)) rfl) (fun _ _ => rfl) (.cons (ES.cmp inS (ES.sub (ES.nm 4 rfl) (ES.int 1) (fun _ _ => rfl)) (ES.glE G.tJUMPS (by kernel_rfl) (by kernel_rfl)) rfl) (fun _ _ => rfl) (.nil)))) (fun _ _ => rfl) (.nil)))) (fun _ => rfl)) (SSs.nil)))) (fun _ _ => rfl)) (SSs.cons (SS.ret (ES.compN 200 1 [0] [("at", false), ("row", true)] (by kernel_rfl) (IS.val (ES.nm 1 rfl)) (.name rfl) (.one (TS.val (ES.call G.fis_whole_target (S_is_whole_target G) (by decide) (.cons (ES.cl 1 rfl) (fun _ _ => rfl) (.cons (ES.nm 0 rfl) (fun _ _ => rfl) (.nil))) (by kernel_rfl)) (fun _ _ => rfl))) (ES.nm 0 rfl) (fun _ _ => rfl))) (SSs.nil)))
noncomputable def P_targets : List AV → Option AV := fDef 1 [0] [true, false, false, false, false, false] D_targets
noncomputable def F_targets : FL := fPure P_targets
theorem S_targets (G : GOk g fa) : OpL g 2 (kall (.ref (fa 30))) F_targets := pureS (ps := ["row"]) (order := [0]) (c := c_targets) (fn_of G.etargets (by kernel_rfl)) (B_targets G)
end

noncomputable def c_new_numbers : FC := ⟨scopeOf 33, [("program", false), ("new", true), ("old", false), ("step", true), ("begin", false), ("many", false), ("least", false)]⟩
noncomputable def D_new_numbers : SDen := dSeq (dAsg (4, false) (dCall F_place_of [dN 0, dN 2])) (dSeq (dAsg (5, false) (d2 fSub (dCall fLen [dAttr false (dN 0)]) (dN 4))) (dSeq (dAsg (6, false) (dIf (tV (d2 fGt (dN 4) (dC (.int 0)))) (d2 fAdd (d2 fIdx (dAttr false (dN 0)) (d2 fSub (dN 4) (dC (.int 1)))) (dC (.int 1))) (dC (.int 0)))) (dSeq (dIfS (tOr [tV (d2 fLt (dX 3) (dC (.int 1))), tV (d2 fLt (dX 1) (dN 6)), tAnd [tV (d2 fGt (dN 5) (dC (.int 0))), tV (d2 fGt (d2 fAdd (dX 1) (d2 fMul (dX 3) (d2 fSub (dN 5) (dC (.int 1))))) (dC gGREATEST))]]) (dNo) (dEnd)) (dSeq (dRet (d2 fAdd (dSl (dAttr false (dN 0)) none (some (dN 4))) (dCmp 200 (dRng (dN 5)) (dSto (0, false)) none (d2 fAdd (dX 1) (d2 fMul (dX 2) (dN 0))) 1 [1, 3]))) (dEnd)))))
section
variable {g : Gl} {fa : Nat → Addr}
theorem B_new_numbers (G : GOk g fa) : SSs g 1 c_new_numbers (bodyOf 33) D_new_numbers :=
  SSs.cons (SS.asg (t := (4, false)) rfl (ES.call G.fplace_of (S_place_of G) (by decide) (.cons (ES.nm 0 rfl) (fun _ _ => rfl) (.cons (ES.nm 2 rfl) (fun _ _ => rfl) (.nil))) (by kernel_rfl)) (fun _ => rfl)) (SSs.cons (SS.asg (t := (5, false)) rfl (ES.bin subS (ES.callB lenS (.cons (ES.attr G.cls (r := false) rfl (ES.nm 0 rfl)) (fun _ _ => rfl) (.nil)) G.blen (by kernel_rfl) (by decide) (by kernel_rfl) (by kernel_rfl)) (ES.nm 4 rfl)) (fun _ => rfl)) (SSs.cons (SS.asg (t := (6, false)) rfl (ES.ite (TS.cmp gtS (ES.nm 4 rfl) (ES.int 0) rfl) (ES.bin addS (ES.sub (ES.attr G.cls (r := false) rfl (ES.nm 0 rfl)) (ES.bin subS (ES.nm 4 rfl) (ES.int 1)) (fun _ _ => rfl)) (ES.int 1)) (ES.int 0)) (fun _ => rfl)) (SSs.cons (SS.ifs (TS.or (.cons (TS.cmp ltS (ES.cl 3 rfl) (ES.int 1) rfl) (.cons (TS.cmp ltS (ES.cl 1 rfl) (ES.nm 6 rfl) rfl) (.cons (TS.and (.cons (TS.cmp gtS (ES.nm 5 rfl) (ES.int 0) rfl) (.cons (TS.cmp gtS (ES.bin addS (ES.cl 1 rfl) (ES.bin mulS (ES.cl 3 rfl) (ES.bin subS (ES.nm 5 rfl) (ES.int 1)))) (ES.glE G.tGREATEST (by kernel_rfl) (by kernel_rfl)) rfl) (.nil)))) (.nil))))) (SSs.no) (SSs.nil)) (SSs.cons (SS.ret (ES.bin addS (ES.sl (ES.attr G.cls (r := false) rfl (ES.nm 0 rfl)) .none (.some (ES.nm 4 rfl))) (ES.compN 200 1 [1, 3] [("at", false), ("new", true), ("step", true)] (by kernel_rfl) (IS.rng rfl (.cons (ES.nm 5 rfl) (fun _ _ => rfl) (.nil)) G.brange (by kernel_rfl)) (.name rfl) (.none) (ES.bin addS (ES.cl 1 rfl) (ES.bin mulS (ES.cl 2 rfl) (ES.nm 0 rfl))) (fun _ _ => rfl)))) (SSs.nil)))))
noncomputable def P_new_numbers : List AV → Option AV := fDef 4 [3, 1] [false, true, false, true, false, false, false] D_new_numbers
noncomputable def F_new_numbers : FL := fPure P_new_numbers
theorem S_new_numbers (G : GOk g fa) : OpL g 2 (kall (.ref (fa 33))) F_new_numbers := pureS (ps := ["program", "new", "old", "step"]) (order := [3, 1]) (c := c_new_numbers) (fn_of G.enew_numbers (by kernel_rfl)) (B_new_numbers G)
end

noncomputable def c_read_token : FC := ⟨scopeOf 18, [("text", false), ("whole", false), ("at", false), ("sign", false), ("found", false), ("number", false), ("word", false), ("size", false), ("items", false), ("name", false)]⟩
noncomputable def D_read_token : SDen := dSeq (dAsg (3, false) (d2 fIdx (dN 1) (dN 2))) (dSeq (dIfS (tV (d2 fEq (dN 3) (dC (.str [34])))) (dNo) (dEnd)) (dSeq (dIfS (tV (d2 fIn (dN 3) (dC gDIGITS))) (dSeq (dAsT false [(5, false), (2, false)] (dCall F_read_number [dN 0, dN 2])) (dSeq (dRet (dTup [dLst [dTup [dC (.str [110, 117, 109, 98, 101, 114]), dN 5]], dN 2])) (dEnd))) (dEnd)) (dSeq (dIfS (tV (d2 fIn (dN 3) (dC (.str [63, 39])))) (dNo) (dSeq (dAsg (6, false) (dCall F_word_at [dN 1, dN 2])) (dSeq (dAsg (7, false) (dCall fLen [dN 6])) (dEnd)))) (dSeq (dIfS (tV (d2 fEq (dN 6) (dC (.str [82, 69, 77])))) (dSeq (dRet (dTup [dLst [dTup [dC (.str [119, 111, 114, 100]), dC (.str [82, 69, 77])], dTup [dC (.str [114, 97, 119]), dSl (dN 0) (some (dCall F_behind_blanks [dN 0, d2 fAdd (dN 2) (dN 7)])) none]], dCall fLen [dN 0]])) (dEnd)) (dEnd)) (dSeq (dIfS (tV (d2 fEq (dN 6) (dC (.str [68, 65, 84, 65])))) (dNo) (dEnd)) (dSeq (dIfS (tV (d2 fNe (dN 6) (dC (.str [])))) (dSeq (dRet (dTup [dLst [dTup [dC (.str [119, 111, 114, 100]), dN 6]], d2 fAdd (dN 2) (dN 7)])) (dEnd)) (dEnd)) (dSeq (dIfS (tV (d2 fIn (dN 3) (dC gLETTERS))) (dSeq (dAsT false [(9, false), (2, false)] (dCall F_read_name [dN 1, dN 2])) (dSeq (dRet (dTup [dLst [dTup [dC (.str [110, 97, 109, 101]), dN 9]], dN 2])) (dEnd))) (dEnd)) (dSeq (dAsg (4, false) (dCall F_sign_at [dN 1, dN 2])) (dSeq (dIfS (tV (d2 fEq (dN 4) (dC (.str [])))) (dNo) (dEnd)) (dSeq (dRet (dTup [dLst [dTup [dC (.str [115, 105, 103, 110]), dN 4]], d2 fAdd (dN 2) (dCall fLen [dN 4])])) (dEnd)))))))))))
section
variable {g : Gl} {fa : Nat → Addr}
theorem B_read_token (G : GOk g fa) : SSs g 2 c_read_token (bodyOf 18) D_read_token :=
  SSs.cons (SS.asg (t := (3, false)) rfl (ES.sub (ES.nm 1 rfl) (ES.nm 2 rfl) (fun _ _ => rfl)) (fun _ => rfl)) (SSs.cons (SS.ifs (TS.cmp eqS (ES.nm 3 rfl) (ES.str [34] (by kernel_rfl)) rfl) (SSs.no) (SSs.nil)) (SSs.cons (SS.ifs (TS.cmp inS (ES.nm 3 rfl) (ES.glE G.tDIGITS (by kernel_rfl) (by kernel_rfl)) rfl) (SSs.cons (SS.asT (ts := [(5, false), (2, false)]) (.cons (t := (5, false)) rfl (.cons (t := (2, false)) rfl (.nil))) (ES.call G.fread_number (S_read_number G) (by decide) (.cons (ES.nm 0 rfl) (fun _ _ => rfl) (.cons (ES.nm 2 rfl) (fun _ _ => rfl) (.nil))) (by kernel_rfl)) (fun _ => rfl) (fun _ _ => rfl)) (SSs.cons (SS.ret (ES.tup (.cons (ES.lst (.cons (ES.tup (.cons (ES.str [110, 117, 109, 98, 101, 114] (by kernel_rfl)) (fun _ _ => rfl) (.cons (ES.nm 5 rfl) (fun _ _ => rfl) (.nil)))) (fun _ _ => rfl) (.nil))) (fun _ _ => rfl) (.cons (ES.nm 2 rfl) (fun _ _ => rfl) (.nil))))) (SSs.nil))) (SSs.nil)) (SSs.cons (SS.ifs (TS.cmp inS (ES.nm 3 rfl) (ES.str [63, 39] (by kernel_rfl)) rfl) (SSs.no) (SSs.cons (SS.asg (t := (6, false)) rfl (ES.call G.fword_at (S_word_at G) (by decide) (.cons (ES.nm 1 rfl) (fun _ _ => rfl) (.cons (ES.nm 2 rfl) (fun _ _ => rfl) (.nil))) (by kernel_rfl)) (fun _ => rfl)) (SSs.cons (SS.asg (t := (7, false)) rfl (ES.callB lenS (.cons (ES.nm 6 rfl) (fun _ _ => rfl) (.nil)) G.blen (by kernel_rfl) (by decide) (by kernel_rfl) (by kernel_rfl)) (fun _ => rfl)) (SSs.nil)))) (SSs.cons (SS.ifs (TS.cmp eqS (ES.nm 6 rfl) (ES.str [82, 69, 77] (by kernel_rfl)) rfl) (SSs.cons (SS.ret (ES.tup (.cons (ES.lst (.cons (ES.tup (.cons (ES.str [119, 111, 114, 100] (by kernel_rfl)) (fun _ _ => rfl) (.cons (ES.str [82, 69, 77] (by kernel_rfl)) (fun _ _ => rfl) (.nil)))) (fun _ _ => rfl) (.cons (ES.tup (.cons (ES.str [114, 97, 119] (by kernel_rfl)) (fun _ _ => rfl) (.cons (ES.sl (ES.nm 0 rfl) (.some (ES.call G.fbehind_blanks (S_behind_blanks G) (by decide) (.cons (ES.nm 0 rfl) (fun _ _ => rfl) (.cons (ES.bin addS (ES.nm 2 rfl) (ES.nm 7 rfl)) (fun _ _ => rfl) (.nil))) (by kernel_rfl))) .none) (fun _ _ => rfl) (.nil)))) (fun _ _ => rfl) (.nil)))) (fun _ _ => rfl) (.cons (ES.callB lenS (.cons (ES.nm 0 rfl) (fun _ _ => rfl) (.nil)) G.blen (by kernel_rfl) (by decide) (by kernel_rfl) (by kernel_rfl)) (fun _ _ => rfl) (.nil))))) (SSs.nil)) (SSs.nil)) (SSs.cons (SS.ifs (TS.cmp eqS (ES.nm 6 rfl) (ES.str [68, 65, 84, 65] (by kernel_rfl)) rfl) (SSs.no) (SSs.nil)) (SSs.cons (SS.ifs (TS.cmp neS (ES.nm 6 rfl) (ES.str [] (by kernel_rfl)) rfl) (SSs.cons (SS.ret (ES.tup (.cons (ES.lst (.cons (ES.tup (.cons (ES.str [119, 111, 114, 100] (by kernel_rfl)) (fun _ _ => rfl) (.cons (ES.nm 6 rfl) (fun _ _ => rfl) (.nil)))) (fun _ _ => rfl) (.nil))) (fun _ _ => rfl) (.cons (ES.bin addS (ES.nm 2 rfl) (ES.nm 7 rfl)) (fun _ _ => rfl) (.nil))))) (SSs.nil)) (SSs.nil)) (SSs.cons (SS.ifs (TS.cmp inS (ES.nm 3 rfl) (ES.glE G.tLETTERS (by kernel_rfl) (by kernel_rfl)) rfl) (SSs.cons (SS.asT (ts := [(9, false), (2, false)]) (.cons (t := (9, false)) rfl (.cons (t := (2, false)) rfl (.nil))) (ES.call G.fread_name (S_read_name G) (by decide) (.cons (ES.nm 1 rfl) (fun _ _ => rfl) (.cons (ES.nm 2 rfl) (fun _ _ => rfl) (.nil))) (by kernel_rfl)) (fun _ => rfl) (fun _ _ => rfl)) (SSs.cons (SS.ret (ES.tup (.cons (ES.lst (.cons (ES.tup (.cons (ES.str [110, 97, 109, 101] (by kernel_rfl)) (fun _ _ => rfl) (.cons (ES.nm 9 rfl) (fun _ _ => rfl) (.nil)))) (fun _ _ => rfl) (.nil))) (fun _ _ => rfl) (.cons (ES.nm 2 rfl) (fun _ _ => rfl) (.nil))))) (SSs.nil))) (SSs.nil)) (SSs.cons (SS.asg (t := (4, false)) rfl (ES.call G.fsign_at (S_sign_at G) (by decide) (.cons (ES.nm 1 rfl) (fun _ _ => rfl) (.cons (ES.nm 2 rfl) (fun _ _ => rfl) (.nil))) (by kernel_rfl)) (fun _ => rfl)) (SSs.cons (SS.ifs (TS.cmp eqS (ES.nm 4 rfl) (ES.str [] (by kernel_rfl)) rfl) (SSs.no) (SSs.nil)) (SSs.cons (SS.ret (ES.tup (.cons (ES.lst (.cons (ES.tup (.cons (ES.str [115, 105, 103, 110] (by kernel_rfl)) (fun _ _ => rfl) (.cons (ES.nm 4 rfl) (fun _ _ => rfl) (.nil)))) (fun _ _ => rfl) (.nil))) (fun _ _ => rfl) (.cons (ES.bin addS (ES.nm 2 rfl) (ES.callB lenS (.cons (ES.nm 4 rfl) (fun _ _ => rfl) (.nil)) G.blen (by kernel_rfl) (by decide) (by kernel_rfl) (by kernel_rfl))) (fun _ _ => rfl) (.nil))))) (SSs.nil)))))))))))
noncomputable def P_read_token : List AV → Option AV := fDef 3 [] [false, false, false, false, false, false, false, false, false, false] D_read_token
noncomputable def F_read_token : FL := fPure P_read_token
theorem S_read_token (G : GOk g fa) : OpL g 3 (kall (.ref (fa 18))) F_read_token := pureS (ps := ["text", "whole", "at"]) (order := []) (c := c_read_token) (fn_of G.eread_token (by kernel_rfl)) (B_read_token G)
end

noncomputable def c_put_line : FC := ⟨scopeOf 26, [("program", false), ("number", false), ("row", false), ("at", false), ("is_there", false)]⟩
noncomputable def D_put_line : SDen := dSeq (dIfS (tNot (tCh fLe fLe (dC (.int 0)) (dN 1) (dC gGREATEST))) (dNo) (dEnd)) (dSeq (dAsg (3, false) (dCall F_place_of [dN 0, dN 1])) (dSeq (dAsg (4, false) (dCall F_has_line [dN 0, dN 1])) (dSeq (dIfS (tV (d2 fEq (dCall fLen [dN 2]) (dC (.int 0)))) (dNo) (dSeq (dIfS (tV (dN 4)) (dNo) (dSeq (dExp (dMeth okOwn fInsert (dAttr false (dN 0)) [dN 3, dN 1])) (dSeq (dExp (dMeth okOwn fInsert (dAttr true (dN 0)) [dN 3, dN 2])) (dEnd)))) (dEnd))) (dEnd))))
section
variable {g : Gl} {fa : Nat → Addr}
theorem B_put_line (G : GOk g fa) : SSs g 2 c_put_line (bodyOf 26) D_put_line :=
  SSs.cons (SS.ifs (TS.not (TS.chain leS leS (ES.int 0) (ES.nm 1 rfl) (ES.glE G.tGREATEST (by kernel_rfl) (by kernel_rfl)) rfl)) (SSs.no) (SSs.nil)) (SSs.cons (SS.asg (t := (3, false)) rfl (ES.call G.fplace_of (S_place_of G) (by decide) (.cons (ES.nm 0 rfl) (fun _ _ => rfl) (.cons (ES.nm 1 rfl) (fun _ _ => rfl) (.nil))) (by kernel_rfl)) (fun _ => rfl)) (SSs.cons (SS.asg (t := (4, false)) rfl (ES.call G.fhas_line (S_has_line G) (by decide) (.cons (ES.nm 0 rfl) (fun _ _ => rfl) (.cons (ES.nm 1 rfl) (fun _ _ => rfl) (.nil))) (by kernel_rfl)) (fun _ => rfl)) (SSs.cons (SS.ifs (TS.cmp eqS (ES.callB lenS (.cons (ES.nm 2 rfl) (fun _ _ => rfl) (.nil)) G.blen (by kernel_rfl) (by decide) (by kernel_rfl) (by kernel_rfl)) (ES.int 0) rfl) (SSs.no) (SSs.cons (SS.ifs (TS.val (ES.nm 4 rfl) (fun _ _ => rfl)) (SSs.no) (SSs.cons (SS.exp (ES.meth insertM (ES.attr G.cls (r := false) rfl (ES.nm 0 rfl)) (.cons (ES.nm 3 rfl) (fun _ _ => rfl) (.cons (ES.nm 1 rfl) (fun _ _ => rfl) (.nil))) (fun _ => ⟨_, rfl⟩)) (fun _ => rfl)) (SSs.cons (SS.exp (ES.meth insertM (ES.attr G.cls (r := true) rfl (ES.nm 0 rfl)) (.cons (ES.nm 3 rfl) (fun _ _ => rfl) (.cons (ES.nm 2 rfl) (fun _ _ => rfl) (.nil))) (fun _ => ⟨_, rfl⟩)) (fun _ => rfl)) (SSs.nil)))) (SSs.nil))) (SSs.nil))))
noncomputable def F_put_line : FL := fImp 3 [] [false, false, false, false, false] D_put_line
theorem S_put_line (G : GOk g fa) : OpL g 3 (kall (.ref (fa 26))) F_put_line := impS (ps := ["program", "number", "row"]) (order := []) (c := c_put_line) (fn_of G.eput_line (by kernel_rfl)) (B_put_line G)
end

noncomputable def c_lost_targets : FC := ⟨scopeOf 32, [("program", true), ("found", false), ("number", true), ("row", true)]⟩
noncomputable def D_lost_targets : SDen := dSeq (dAsg (1, false) (dLst [])) (dSeq (dFor 200 (dZip (dAttr false (dX 0)) (dAttr true (dX 0))) (dStoTup [(2, true), (3, true)]) (dSeq (dExp (dMeth okOwn fExtend (dN 1) [dCmp 200 (dIt (dCall F_targets [dX 3])) (dSto (0, false)) (some (tNot (tV (dCall F_has_line [dX 2, d2 fIdx (d2 fIdx (dX 3) (dN 0)) (dC (.int 1))])))) (dTup [dX 1, d2 fIdx (d2 fIdx (dX 3) (dN 0)) (dC (.int 1))]) 1 [2, 0, 3]])) (dEnd))) (dSeq (dRet (dN 1)) (dEnd)))
section
variable {g : Gl} {fa : Nat → Addr}
theorem B_lost_targets (G : GOk g fa) : SSs g 2 c_lost_targets (bodyOf 32) D_lost_targets :=
  SSs.cons (SS.asg (t := (1, false)) rfl (ES.lst (.nil)) (fun _ => rfl)) (SSs.cons (SS.for 200 (IS.zip rfl (.cons (ES.attr G.cls (r := false) rfl (ES.cl 0 rfl)) (fun _ _ => rfl) (.cons (ES.attr G.cls (r := true) rfl (ES.cl 0 rfl)) (fun _ _ => rfl) (.nil))) G.bzip (by kernel_rfl)) (.tup (.cons (t := (2, true)) rfl (.cons (t := (3, true)) rfl (.nil)))) (SSs.cons (SS.exp (ES.meth extendM (ES.nm 1 rfl) (.cons (ES.compN 200 1 [2, 0, 3] [("at", false), ("number", true), ("program", true), ("row", true)] (by kernel_rfl) (IS.val (ES.call G.ftargets (S_targets G) (by decide) (.cons (ES.cl 3 rfl) (fun _ _ => rfl) (.nil)) (by kernel_rfl))) (.name rfl) (.one (TS.not (TS.val (ES.call G.fhas_line (S_has_line G) (by decide) (.cons (ES.cl 2 rfl) (fun _ _ => rfl) (.cons (ES.sub (ES.sub (ES.cl 3 rfl) (ES.nm 0 rfl) (fun _ _ => rfl)) (ES.int 1) (fun _ _ => rfl)) (fun _ _ => rfl) (.nil))) (by kernel_rfl)) (fun _ _ => rfl)))) (ES.tup (.cons (ES.cl 1 rfl) (fun _ _ => rfl) (.cons (ES.sub (ES.sub (ES.cl 3 rfl) (ES.nm 0 rfl) (fun _ _ => rfl)) (ES.int 1) (fun _ _ => rfl)) (fun _ _ => rfl) (.nil)))) (fun _ _ => rfl)) (fun _ _ => rfl) (.nil)) (fun _ => ⟨_, rfl⟩)) (fun _ => rfl)) (SSs.nil)) (fun _ _ => rfl)) (SSs.cons (SS.ret (ES.nm 1 rfl)) (SSs.nil)))
noncomputable def P_lost_targets : List AV → Option AV := fDef 1 [3, 2, 0] [true, false, true, true] D_lost_targets
noncomputable def F_lost_targets : FL := fPure P_lost_targets
theorem S_lost_targets (G : GOk g fa) : OpL g 3 (kall (.ref (fa 32))) F_lost_targets := pureS (ps := ["program"]) (order := [3, 2, 0]) (c := c_lost_targets) (fn_of G.elost_targets (by kernel_rfl)) (B_lost_targets G)
end

noncomputable def c_led_row : FC := ⟨scopeOf 34, [("row", false), ("ways", false), ("found", false), ("at", false)]⟩
noncomputable def D_led_row : SDen := dSeq (dAsg (2, false) (dCall fList [dN 0])) (dSeq (dFor 200 (dIt (dCall F_targets [dN 0])) (dSto (3, false)) (dSeq (dSetI (dTup [dC (.str [110, 117, 109, 98, 101, 114]), dMeth okDict fGet (dN 1) [d2 fIdx (d2 fIdx (dN 0) (dN 3)) (dC (.int 1)), d2 fIdx (d2 fIdx (dN 0) (dN 3)) (dC (.int 1))]]) (dN 2) (dN 3)) (dEnd))) (dSeq (dRet (dN 2)) (dEnd)))
section
variable {g : Gl} {fa : Nat → Addr}
theorem B_led_row (G : GOk g fa) : SSs g 2 c_led_row (bodyOf 34) D_led_row :=
  SSs.cons (SS.asg (t := (2, false)) rfl (ES.callT listS (.cons (ES.nm 0 rfl) (fun _ _ => rfl) (.nil)) G.blist (by kernel_rfl) (by decide) (by kernel_rfl) (by kernel_rfl)) (fun _ => rfl)) (SSs.cons (SS.for 200 (IS.val (ES.call G.ftargets (S_targets G) (by decide) (.cons (ES.nm 0 rfl) (fun _ _ => rfl) (.nil)) (by kernel_rfl))) (.name (t := (3, false)) rfl) (SSs.cons (SS.setI (ES.tup (.cons (ES.str [110, 117, 109, 98, 101, 114] (by kernel_rfl)) (fun _ _ => rfl) (.cons (ES.meth getM (ES.nm 1 rfl) (.cons (ES.sub (ES.sub (ES.nm 0 rfl) (ES.nm 3 rfl) (fun _ _ => rfl)) (ES.int 1) (fun _ _ => rfl)) (fun _ _ => rfl) (.cons (ES.sub (ES.sub (ES.nm 0 rfl) (ES.nm 3 rfl) (fun _ _ => rfl)) (ES.int 1) (fun _ _ => rfl)) (fun _ _ => rfl) (.nil))) (fun _ => ⟨_, rfl⟩)) (fun _ _ => rfl) (.nil)))) (ES.nm 2 rfl) (ES.nm 3 rfl) (fun _ => rfl)) (SSs.nil)) (fun _ _ => rfl)) (SSs.cons (SS.ret (ES.nm 2 rfl)) (SSs.nil)))
noncomputable def P_led_row : List AV → Option AV := fDef 2 [] [false, false, false, false] D_led_row
noncomputable def F_led_row : FL := fPure P_led_row
theorem S_led_row (G : GOk g fa) : OpL g 3 (kall (.ref (fa 34))) F_led_row := pureS (ps := ["row", "ways"]) (order := []) (c := c_led_row) (fn_of G.eled_row (by kernel_rfl)) (B_led_row G)
end

noncomputable def c_tokens_of : FC := ⟨scopeOf 19, [("text", false), ("found", false), ("whole", false), ("at", false), ("some", false)]⟩
noncomputable def D_tokens_of : SDen := dSeq (dAsT true [(2, false), (1, false)] (dTup [dLst [], dCall F_great_text [dN 0]])) (dSeq (dAsg (3, false) (dCall F_behind_blanks [dN 0, dC (.int 0)])) (dSeq (dWh 200 (tV (d2 fLt (dN 3) (dCall fLen [dN 0]))) (dSeq (dAsT false [(4, false), (3, false)] (dCall F_read_token [dN 0, dN 2, dN 3])) (dSeq (dExp (dMeth okOwn fExtend (dN 1) [dN 4])) (dSeq (dAsg (3, false) (dCall F_behind_blanks [dN 0, dN 3])) (dEnd))))) (dSeq (dRet (dN 1)) (dEnd))))
section
variable {g : Gl} {fa : Nat → Addr}
theorem B_tokens_of (G : GOk g fa) : SSs g 3 c_tokens_of (bodyOf 19) D_tokens_of :=
  SSs.cons (SS.asS (names := ["found", "whole"]) (ts := [(2, false), (1, false)]) (.cons (t := (2, false)) rfl (.cons (t := (1, false)) rfl (.nil))) rfl (ES.tup (.cons (ES.lst (.nil)) (fun _ _ => rfl) (.cons (ES.call G.fgreat_text (S_great_text G) (by decide) (.cons (ES.nm 0 rfl) (fun _ _ => rfl) (.nil)) (by kernel_rfl)) (fun _ _ => rfl) (.nil)))) (fun _ => rfl) (by intro env h; unfold swappedStores Env.blockKind Env.kindOf; rw [h]; kernel_rfl)) (SSs.cons (SS.asg (t := (3, false)) rfl (ES.call G.fbehind_blanks (S_behind_blanks G) (by decide) (.cons (ES.nm 0 rfl) (fun _ _ => rfl) (.cons (ES.int 0) (fun _ _ => rfl) (.nil))) (by kernel_rfl)) (fun _ => rfl)) (SSs.cons (SS.wh 200 (TS.cmp ltS (ES.nm 3 rfl) (ES.callB lenS (.cons (ES.nm 0 rfl) (fun _ _ => rfl) (.nil)) G.blen (by kernel_rfl) (by decide) (by kernel_rfl) (by kernel_rfl)) rfl) (SSs.cons (SS.asT (ts := [(4, false), (3, false)]) (.cons (t := (4, false)) rfl (.cons (t := (3, false)) rfl (.nil))) (ES.call G.fread_token (S_read_token G) (by decide) (.cons (ES.nm 0 rfl) (fun _ _ => rfl) (.cons (ES.nm 2 rfl) (fun _ _ => rfl) (.cons (ES.nm 3 rfl) (fun _ _ => rfl) (.nil)))) (by kernel_rfl)) (fun _ => rfl) (fun _ _ => rfl)) (SSs.cons (SS.exp (ES.meth extendM (ES.nm 1 rfl) (.cons (ES.nm 4 rfl) (fun _ _ => rfl) (.nil)) (fun _ => ⟨_, rfl⟩)) (fun _ => rfl)) (SSs.cons (SS.asg (t := (3, false)) rfl (ES.call G.fbehind_blanks (S_behind_blanks G) (by decide) (.cons (ES.nm 0 rfl) (fun _ _ => rfl) (.cons (ES.nm 3 rfl) (fun _ _ => rfl) (.nil))) (by kernel_rfl)) (fun _ => rfl)) (SSs.nil))))) (SSs.cons (SS.ret (ES.nm 1 rfl)) (SSs.nil))))
noncomputable def P_tokens_of : List AV → Option AV := fDef 1 [] [false, false, false, false, false] D_tokens_of
noncomputable def F_tokens_of : FL := fPure P_tokens_of
theorem S_tokens_of (G : GOk g fa) : OpL g 4 (kall (.ref (fa 19))) F_tokens_of := pureS (ps := ["text"]) (order := []) (c := c_tokens_of) (fn_of G.etokens_of (by kernel_rfl)) (B_tokens_of G)
end

noncomputable def c_renumber : FC := ⟨scopeOf 35, [("program", false), ("new", false), ("old", false), ("step", false), ("numbers", false), ("ways", true), ("before", false), ("behind", false), ("lost", false)]⟩
noncomputable def D_renumber : SDen := dSeq (dAsT false [(4, false), (5, true)] (dTup [dCall F_new_numbers [dN 0, dN 1, dN 2, dN 3], dDic])) (dSeq (dFor 200 (dZip (dAttr false (dN 0)) (dN 4)) (dStoTup [(6, false), (7, false)]) (dSeq (dSetI (dN 7) (dX 5) (dN 6)) (dEnd))) (dSeq (dAsg (8, false) (dCmp 200 (dIt (dCall F_lost_targets [dN 0])) (dStoTup [(0, false), (1, false)]) none (dTup [d2 fIdx (dX 2) (dN 0), dN 1]) 2 [5])) (dSeq (dSetA true (dCmp 200 (dIt (dAttr true (dN 0))) (dSto (0, false)) none (dCall F_led_row [dN 0, dX 1]) 1 [5]) (dN 0)) (dSeq (dSetA false (dN 4) (dN 0)) (dSeq (dRet (dN 8)) (dEnd))))))
section
variable {g : Gl} {fa : Nat → Addr}
theorem B_renumber (G : GOk g fa) : SSs g 3 c_renumber (bodyOf 35) D_renumber :=
  SSs.cons (SS.asT (ts := [(4, false), (5, true)]) (.cons (t := (4, false)) rfl (.cons (t := (5, true)) rfl (.nil))) (ES.tup (.cons (ES.call G.fnew_numbers (S_new_numbers G) (by decide) (.cons (ES.nm 0 rfl) (fun _ _ => rfl) (.cons (ES.nm 1 rfl) (fun _ _ => rfl) (.cons (ES.nm 2 rfl) (fun _ _ => rfl) (.cons (ES.nm 3 rfl) (fun _ _ => rfl) (.nil))))) (by kernel_rfl)) (fun _ _ => rfl) (.cons (ES.dic) (fun _ _ => rfl) (.nil)))) (fun _ => rfl) (by intro env h; unfold swappedStores Env.blockKind Env.kindOf; rw [h]; kernel_rfl)) (SSs.cons (SS.for 200 (IS.zip rfl (.cons (ES.attr G.cls (r := false) rfl (ES.nm 0 rfl)) (fun _ _ => rfl) (.cons (ES.nm 4 rfl) (fun _ _ => rfl) (.nil))) G.bzip (by kernel_rfl)) (.tup (.cons (t := (6, false)) rfl (.cons (t := (7, false)) rfl (.nil)))) (SSs.cons (SS.setI (ES.nm 7 rfl) (ES.cl 5 rfl) (ES.nm 6 rfl) (fun _ => rfl)) (SSs.nil)) (fun _ _ => rfl)) (SSs.cons (SS.asgCN (t := (8, false)) 200 2 [5] [("number", false), ("goal", false), ("ways", true)] (by kernel_rfl) (IS.val (ES.call G.flost_targets (S_lost_targets G) (by decide) (.cons (ES.nm 0 rfl) (fun _ _ => rfl) (.nil)) (by kernel_rfl))) (.two rfl rfl) (.none) (ES.tup (.cons (ES.sub (ES.cl 2 rfl) (ES.nm 0 rfl) (fun _ _ => rfl)) (fun _ _ => rfl) (.cons (ES.nm 1 rfl) (fun _ _ => rfl) (.nil)))) (fun _ _ => rfl) rfl (by intro env h; unfold swapsWith Env.blockKind Env.kindOf; rw [h]; kernel_rfl)) (SSs.cons (SS.setA G.cls (r := true) rfl (ES.compN 200 1 [5] [("row", false), ("ways", true)] (by kernel_rfl) (IS.val (ES.attr G.cls (r := true) rfl (ES.nm 0 rfl))) (.name rfl) (.none) (ES.call G.fled_row (S_led_row G) (by decide) (.cons (ES.nm 0 rfl) (fun _ _ => rfl) (.cons (ES.cl 1 rfl) (fun _ _ => rfl) (.nil))) (by kernel_rfl)) (fun _ _ => rfl)) (ES.nm 0 rfl) (fun _ => rfl)) (SSs.cons (SS.setA G.cls (r := false) rfl (ES.nm 4 rfl) (ES.nm 0 rfl) (fun _ => rfl)) (SSs.cons (SS.ret (ES.nm 8 rfl)) (SSs.nil))))))
noncomputable def F_renumber : FL := fImp 4 [5] [false, false, false, false, false, true, false, false, false] D_renumber
theorem S_renumber (G : GOk g fa) : OpL g 4 (kall (.ref (fa 35))) F_renumber := impS (ps := ["program", "new", "old", "step"]) (order := [5]) (c := c_renumber) (fn_of G.erenumber (by kernel_rfl)) (B_renumber G)
end

noncomputable def c_enter_row : FC := ⟨scopeOf 28, [("program", false), ("text", false), ("number", false), ("rest", false)]⟩
noncomputable def D_enter_row : SDen := dSeq (dAsT false [(2, false), (3, false)] (dCall F_split_number [dN 1])) (dSeq (dIfS (tV (d2 fIs (dN 2) (dC .none))) (dNo) (dEnd)) (dSeq (dExp (dCall F_put_line [dN 0, dN 2, dCall F_tokens_of [dN 3]])) (dSeq (dRet (dC .none)) (dEnd))))
section
variable {g : Gl} {fa : Nat → Addr}
theorem B_enter_row (G : GOk g fa) : SSs g 4 c_enter_row (bodyOf 28) D_enter_row :=
  SSs.cons (SS.asT (ts := [(2, false), (3, false)]) (.cons (t := (2, false)) rfl (.cons (t := (3, false)) rfl (.nil))) (ES.call G.fsplit_number (S_split_number G) (by decide) (.cons (ES.nm 1 rfl) (fun _ _ => rfl) (.nil)) (by kernel_rfl)) (fun _ => rfl) (fun _ _ => rfl)) (SSs.cons (SS.ifs (TS.cmp isS (ES.nm 2 rfl) (ES.non) rfl) (SSs.no) (SSs.nil)) (SSs.cons (SS.exp (ES.call G.fput_line (S_put_line G) (by decide) (.cons (ES.nm 0 rfl) (fun _ _ => rfl) (.cons (ES.nm 2 rfl) (fun _ _ => rfl) (.cons (ES.call G.ftokens_of (S_tokens_of G) (by decide) (.cons (ES.nm 3 rfl) (fun _ _ => rfl) (.nil)) (by kernel_rfl)) (fun _ _ => rfl) (.nil)))) (by kernel_rfl)) (fun _ => rfl)) (SSs.cons (SS.ret (ES.non)) (SSs.nil))))
noncomputable def F_enter_row : FL := fImp 2 [] [false, false, false, false] D_enter_row
theorem S_enter_row (G : GOk g fa) : OpL g 5 (kall (.ref (fa 28))) F_enter_row := impS (ps := ["program", "text"]) (order := []) (c := c_enter_row) (fn_of G.eenter_row (by kernel_rfl)) (B_enter_row G)
end

noncomputable def c_enter_all : FC := ⟨scopeOf 29, [("program", false), ("text", false), ("typed", false)]⟩
noncomputable def D_enter_all : SDen := dSeq (dFor 200 (dIt (dMeth okStr fSplit (dN 1) [dC (.str [10])])) (dSto (2, false)) (dSeq (dIfS (tAnd [tV (d2 fNe (dMeth okStr fStrip (dN 2) [dC gBLANKS]) (dC (.str []))), tV (d2 fIsNot (dCall F_enter_row [dN 0, dN 2]) (dC .none))]) (dNo) (dEnd)) (dEnd))) (dEnd)
section
variable {g : Gl} {fa : Nat → Addr}
theorem B_enter_all (G : GOk g fa) : SSs g 5 c_enter_all (bodyOf 29) D_enter_all :=
  SSs.cons (SS.for 200 (IS.val (ES.meth splitM (ES.nm 1 rfl) (.cons (ES.str [10] (by kernel_rfl)) (fun _ _ => rfl) (.nil)) (fun _ => ⟨_, rfl⟩))) (.name (t := (2, false)) rfl) (SSs.cons (SS.ifs (TS.and (.cons (TS.cmp neS (ES.meth stripM (ES.nm 2 rfl) (.cons (ES.glE G.tBLANKS (by kernel_rfl) (by kernel_rfl)) (fun _ _ => rfl) (.nil)) (fun _ => ⟨_, rfl⟩)) (ES.str [] (by kernel_rfl)) rfl) (.cons (TS.cmp isNotS (ES.call G.fenter_row (S_enter_row G) (by decide) (.cons (ES.nm 0 rfl) (fun _ _ => rfl) (.cons (ES.nm 2 rfl) (fun _ _ => rfl) (.nil))) (by kernel_rfl)) (ES.non) rfl) (.nil)))) (SSs.no) (SSs.nil)) (SSs.nil)) (fun _ _ => rfl)) (SSs.nil)
noncomputable def F_enter_all : FL := fImp 2 [] [false, false, false] D_enter_all
theorem S_enter_all (G : GOk g fa) : OpL g 6 (kall (.ref (fa 29))) F_enter_all := impS (ps := ["program", "text"]) (order := []) (c := c_enter_all) (fn_of G.eenter_all (by kernel_rfl)) (B_enter_all G)
end

noncomputable def c_law : FC := ⟨scopeOf 39, [("script", false), ("vessel", false), ("typed", false), ("due", false), ("lost", false), ("number", false), ("text", false), ("later", false), ("goal", false), ("program", false), ("told", false)]⟩
noncomputable def D_law : SDen := dSeq (dAsg (1, false) (dLst [dCmp 200 (dIt (dSl (dN 0) none (some (dC (.int 12))))) (dSto (0, false)) none (dCall fAbs [dCall fInt [dN 0]]) 1 [], dC (.int 0)])) (dSeq (dAsT true [(4, false), (3, false), (2, false)] (dTup [dLst [], dLst [], dLst []])) (dSeq (dFor 200 (dIt (dTup [dC (.int 10), dC (.int 20), dC (.int 30)])) (dSto (5, false)) (dSeq (dAsT false [(6, false), (7, false), (8, false)] (d2 fIdx (dCall F_law_rows []) (dCall F_law_skimmed [dN 1, dC (.int 16)]))) (dSeq (dExp (dMeth okOwn fAppend (dN 2) [d2 fAdd (d2 fAdd (d2 fAdd (d2 fIdx (dLst [dC (.str []), dC (.str [32]), dC (.str [9]), dC (.str [32, 9, 32])]) (dCall F_law_skimmed [dN 1, dC (.int 4)])) (dCall fStr [dN 5])) (dC (.str [32]))) (dN 6)])) (dSeq (dExp (dMeth okOwn fAppend (dN 2) [d2 fIdx (dLst [dC (.str []), dC (.str [9]), dC (.str [32, 32])]) (dCall F_law_skimmed [dN 1, dC (.int 3)])])) (dSeq (dExp (dMeth okOwn fAppend (dN 3) [dCall F_tokens_of [dN 7]])) (dSeq (dAsg (4, false) (d2 fAdd (dN 4) (dIf (tV (d2 fIsNot (dN 8) (dC .none))) (dLst [dTup [d2 fAdd (dC (.int 90)) (dN 5), dN 8]]) (dLst [])))) (dEnd))))))) (dSeq (dAsg (9, false) (dCall F_Program [])) (dSeq (dExp (dCall F_enter_all [dN 9, dMeth okStr fJoin (dC (.str [10])) [dN 2]])) (dSeq (dIfS (tV (d2 fNe (dAttr false (dN 9)) (dLst [dC (.int 10), dC (.int 20), dC (.int 30)]))) (dSeq (dRet (dC (.bool false))) (dEnd)) (dEnd)) (dSeq (dAsg (10, false) (dCall F_renumber [dN 9, dC (.int 100), dC (.int 0), dC (.int 10)])) (dSeq (dRet (dAnd [d2 fEq (dN 10) (dN 4), d2 fEq (dAttr false (dN 9)) (dLst [dC (.int 100), dC (.int 110), dC (.int 120)]), d2 fEq (dAttr true (dN 9)) (dN 3)])) (dEnd))))))))
section
variable {g : Gl} {fa : Nat → Addr}
theorem B_law (G : GOk g fa) : SSs g 6 c_law (bodyOf 39) D_law :=
  SSs.cons (SS.asg (t := (1, false)) rfl (ES.lst (.cons (ES.compN 200 1 [] [("crumb", false)] (by kernel_rfl) (IS.val (ES.sl (ES.nm 0 rfl) .none (.some (ES.int 12)))) (.name rfl) (.none) (ES.callB absS (.cons (ES.callT intS (.cons (ES.nm 0 rfl) (fun _ _ => rfl) (.nil)) G.bint (by kernel_rfl) (by decide) (by kernel_rfl) (by kernel_rfl)) (fun _ _ => rfl) (.nil)) G.babs (by kernel_rfl) (by decide) (by kernel_rfl) (by kernel_rfl)) (fun _ _ => rfl)) (fun _ _ => rfl) (.cons (ES.int 0) (fun _ _ => rfl) (.nil)))) (fun _ => rfl)) (SSs.cons (SS.asS (names := ["typed", "due", "lost"]) (ts := [(4, false), (3, false), (2, false)]) (.cons (t := (4, false)) rfl (.cons (t := (3, false)) rfl (.cons (t := (2, false)) rfl (.nil)))) rfl (ES.tup (.cons (ES.lst (.nil)) (fun _ _ => rfl) (.cons (ES.lst (.nil)) (fun _ _ => rfl) (.cons (ES.lst (.nil)) (fun _ _ => rfl) (.nil))))) (fun _ => rfl) (by intro env h; unfold swappedStores Env.blockKind Env.kindOf; rw [h]; kernel_rfl)) (SSs.cons (SS.for 200 (IS.val (ES.tup (.cons (ES.int 10) (fun _ _ => rfl) (.cons (ES.int 20) (fun _ _ => rfl) (.cons (ES.int 30) (fun _ _ => rfl) (.nil)))))) (.name (t := (5, false)) rfl) (SSs.cons (SS.asT (ts := [(6, false), (7, false), (8, false)]) (.cons (t := (6, false)) rfl (.cons (t := (7, false)) rfl (.cons (t := (8, false)) rfl (.nil)))) (ES.sub (ES.call0 G.flaw_rows (S_law_rows G) (by decide) (by kernel_rfl)) (ES.call G.flaw_skimmed (S_law_skimmed G) (by decide) (.cons (ES.nm 1 rfl) (fun _ _ => rfl) (.cons (ES.int 16) (fun _ _ => rfl) (.nil))) (by kernel_rfl)) (fun _ _ => rfl)) (fun _ => rfl) (fun _ _ => rfl)) (SSs.cons (SS.exp (ES.meth appendM (ES.nm 2 rfl) (.cons (ES.bin addS (ES.bin addS (ES.bin addS (ES.sub (ES.lst (.cons (ES.str [] (by kernel_rfl)) (fun _ _ => rfl) (.cons (ES.str [32] (by kernel_rfl)) (fun _ _ => rfl) (.cons (ES.str [9] (by kernel_rfl)) (fun _ _ => rfl) (.cons (ES.str [32, 9, 32] (by kernel_rfl)) (fun _ _ => rfl) (.nil)))))) (ES.call G.flaw_skimmed (S_law_skimmed G) (by decide) (.cons (ES.nm 1 rfl) (fun _ _ => rfl) (.cons (ES.int 4) (fun _ _ => rfl) (.nil))) (by kernel_rfl)) (fun _ _ => rfl)) (ES.callT strS (.cons (ES.nm 5 rfl) (fun _ _ => rfl) (.nil)) G.bstr (by kernel_rfl) (by decide) (by kernel_rfl) (by kernel_rfl))) (ES.str [32] (by kernel_rfl))) (ES.nm 6 rfl)) (fun _ _ => rfl) (.nil)) (fun _ => ⟨_, rfl⟩)) (fun _ => rfl)) (SSs.cons (SS.exp (ES.meth appendM (ES.nm 2 rfl) (.cons (ES.sub (ES.lst (.cons (ES.str [] (by kernel_rfl)) (fun _ _ => rfl) (.cons (ES.str [9] (by kernel_rfl)) (fun _ _ => rfl) (.cons (ES.str [32, 32] (by kernel_rfl)) (fun _ _ => rfl) (.nil))))) (ES.call G.flaw_skimmed (S_law_skimmed G) (by decide) (.cons (ES.nm 1 rfl) (fun _ _ => rfl) (.cons (ES.int 3) (fun _ _ => rfl) (.nil))) (by kernel_rfl)) (fun _ _ => rfl)) (fun _ _ => rfl) (.nil)) (fun _ => ⟨_, rfl⟩)) (fun _ => rfl)) (SSs.cons (SS.exp (ES.meth appendM (ES.nm 3 rfl) (.cons (ES.call G.ftokens_of (S_tokens_of G) (by decide) (.cons (ES.nm 7 rfl) (fun _ _ => rfl) (.nil)) (by kernel_rfl)) (fun _ _ => rfl) (.nil)) (fun _ => ⟨_, rfl⟩)) (fun _ => rfl)) (SSs.cons (SS.asg (t := (4, false)) rfl (ES.bin addS (ES.nm 4 rfl) (ES.ite (TS.cmp isNotS (ES.nm 8 rfl) (ES.non) rfl) (ES.lst (.cons (ES.tup (.cons (ES.bin addS (ES.int 90) (ES.nm 5 rfl)) (fun _ _ => rfl) (.cons (ES.nm 8 rfl) (fun _ _ => rfl) (.nil)))) (fun _ _ => rfl) (.nil))) (ES.lst (.nil)))) (fun _ => rfl)) (SSs.nil)))))) (fun _ _ => rfl)) (SSs.cons (SS.asg (t := (9, false)) rfl (ES.call0 G.fProgram (S_Program G) (by decide) (by kernel_rfl)) (fun _ => rfl)) (SSs.cons (SS.exp (ES.call G.fenter_all (S_enter_all G) (by decide) (.cons (ES.nm 9 rfl) (fun _ _ => rfl) (.cons (ES.meth joinM (ES.str [10] (by kernel_rfl)) (.cons (ES.nm 2 rfl) (fun _ _ => rfl) (.nil)) (fun _ => ⟨_, rfl⟩)) (fun _ _ => rfl) (.nil))) (by kernel_rfl)) (fun _ => rfl)) (SSs.cons (SS.ifs (TS.cmp neS (ES.attr G.cls (r := false) rfl (ES.nm 9 rfl)) (ES.lst (.cons (ES.int 10) (fun _ _ => rfl) (.cons (ES.int 20) (fun _ _ => rfl) (.cons (ES.int 30) (fun _ _ => rfl) (.nil))))) rfl) (SSs.cons (SS.ret (ES.bool false)) (SSs.nil)) (SSs.nil)) (SSs.cons (SS.asg (t := (10, false)) rfl (ES.call G.frenumber (S_renumber G) (by decide) (.cons (ES.nm 9 rfl) (fun _ _ => rfl) (.cons (ES.int 100) (fun _ _ => rfl) (.cons (ES.int 0) (fun _ _ => rfl) (.cons (ES.int 10) (fun _ _ => rfl) (.nil))))) (by kernel_rfl)) (fun _ => rfl)) (SSs.cons (SS.ret (ES.and (.cons (ES.cmp eqS (ES.nm 10 rfl) (ES.nm 4 rfl) rfl) (fun _ _ => rfl) (.cons (ES.cmp eqS (ES.attr G.cls (r := false) rfl (ES.nm 9 rfl)) (ES.lst (.cons (ES.int 100) (fun _ _ => rfl) (.cons (ES.int 110) (fun _ _ => rfl) (.cons (ES.int 120) (fun _ _ => rfl) (.nil))))) rfl) (fun _ _ => rfl) (.cons (ES.cmp eqS (ES.attr G.cls (r := true) rfl (ES.nm 9 rfl)) (ES.nm 3 rfl) rfl) (fun _ _ => rfl) (.nil)))))) (SSs.nil))))))))
end
end Rn

namespace Rn
open PySem PySem.Spec PySem.Calls PyProof.Rows PySem.W

noncomputable def scB : AV → Value → Bool
  | .str s, .str x _ => natsEq s x.cps.toList
  | .int i, .int j _ => decide (i = j)
  | _, _ => false
noncomputable def scsB : List AV → List Value → Bool
  | [], [] => true
  | x :: xs, v :: vs => scB x v && scsB xs vs
  | _, _ => false
theorem sc_rel {g : Gl} {rs : List Addr} {frz : Led} : ∀ {x : AV} {v : Value}, scB x v = true → VRel g rs frz x v := by
  intro x v h
  unfold scB at h
  split at h
  · rename_i s x t
    rw [natsEq_eq] at h
    have e : s = x.cps.toList := by simpa using h
    have e2 : x = ⟨s.toArray⟩ := by subst e; obtain ⟨⟨l⟩⟩ := x; rfl
    rw [e2]
    exact .str s t
  · rename_i i j t
    have e : i = j := by simpa using h
    subst e
    exact .int i t
  · cases h
theorem scs_rel {g : Gl} {rs : List Addr} {frz : Led} : ∀ {xs : List AV} {vs : List Value}, scsB xs vs = true → VRels g rs frz xs vs
  | [], [], _ => .nil
  | x :: xs, v :: vs, h => by
    simp only [scsB, Bool.and_eq_true] at h
    exact .cons (sc_rel h.1) (scs_rel h.2)
  | [], _ :: _, h => by cases h
  | _ :: _, [], h => by cases h
theorem tops_sc {g : Gl} {x : Str} {a : AV} {v : Value} (h : nsIn g.K mainGlobals x = some (some v)) (hs : scB a v = true) : Tops g x a := ⟨v, h, fun _ => sc_rel hs⟩
theorem tops_list {g : Gl} {x : Str} {xs : List AV} {a : Addr} {vs : List Value} {n : Nat} (h : nsIn g.K mainGlobals x = some (some (.ref a))) (ho : g.K.lookup a = some { cls := .type "list", data := .seq vs.toArray n }) (hs : scsB xs vs = true) : Tops g x (.fl xs) :=
  ⟨.ref a, h, fun _ => .fl ⟨n, .inr (.inl ho)⟩ (scs_rel hs)⟩
theorem tops_tup {g : Gl} {x : Str} {xs : List AV} {a : Addr} {vs : List Value} {n : Nat} (h : nsIn g.K mainGlobals x = some (some (.ref a))) (ho : g.K.lookup a = some { cls := .type "tuple", data := .seq vs.toArray n }) (hs : scsB xs vs = true) : Tops g x (.tup xs) :=
  ⟨.ref a, h, fun _ => .tup ⟨n, .inr (.inl ho)⟩ (scs_rel hs)⟩
theorem len0 {α : Type} {l : List α} (h : l.length = 0) : l = [] := List.length_eq_zero_iff.mp h
theorem len1 {α : Type} {l : List α} (h : l.length = 1) : ∃ a, l = [a] := List.length_eq_one_iff.mp h
theorem len2 {α : Type} {l : List α} (h : l.length = 2) : ∃ a b, l = [a, b] := by
  match l, h with
  | [a, b], _ => exact ⟨a, b, rfl⟩
theorem len3 {α : Type} {l : List α} (h : l.length = 3) : ∃ a b c, l = [a, b, c] := by
  match l, h with
  | [a, b, c], _ => exact ⟨a, b, c, rfl⟩
theorem len4 {α : Type} {l : List α} (h : l.length = 4) : ∃ a b c d, l = [a, b, c, d] := by
  match l, h with
  | [a, b, c, d], _ => exact ⟨a, b, c, d, rfl⟩
end Rn

namespace Rn
open PySem PySem.Spec PySem.Calls PyProof.Rows PySem.W

noncomputable def frameL (ns : List Int) : Rε := [some (.fl (ns.map .int)), none, none, none, none, none, none, none, none, none, none]
theorem ints_rel {g : Gl} {rs : List Addr} {frz : Led} : ∀ {vs : List Value} {ns : List Int}, IntsAre vs ns → VRels g rs frz (ns.map .int) vs
  | _, _, .nil => .nil
  | _, _, .cons n t r => .cons (.int n t) (ints_rel r)
theorem law_walk {g : Gl} {fa : Nat → Addr} (G : GOk g fa) {s₁ : Shared} {h₁ : Heap} {L a : Addr} {vs : List Value} {ns : List Int} {k tk : Nat} {env : Env} (hlaw : ∃ ε' σ', D_law (frameL ns) [] = some (.ret (.bool true), ε', σ'))
    (KB : Below callerA s₁.heap [] s₁.heap) (KX : g.K.In s₁.heap) (T : Top g.p g.loose g.mean g.mg g.mb s₁.heap) (hX : g.X = some (a, { cls := .type "list", data := .seq vs.toArray k })) (ha : s₁.heap.get? a = some { cls := .type "list", data := .seq vs.toArray k })
    (hI : IntsAre vs ns) (F : Fr s₁.heap L h₁ (fun x => List.lookup x [((Str.ofString "script"), Value.ref a)])) (e1 : env.scope = scopeOf 39) (e2 : env.globals = mainGlobals) (e3 : env.builtins = builtinsNs) (e4 : env.locals = L) (e5 : env.frame = some L)
    {Q : Flow → Shared → Prop} {E : Value → Shared → Prop} (q : ∀ m s', Fr s₁.heap L s'.heap m → s'.gens = s₁.gens → s'.os = s₁.os → Q (.ret (.bool true)) s') :
    wpAny (model g.prog g.w) (callerA.deeper env) (execs (bodyOf 39) env) Q E { heap := h₁, gens := s₁.gens, drawn := s₁.drawn, toks := tk, os := s₁.os } := by
  obtain ⟨ε', σ', hd⟩ := hlaw
  have good : c_law.Good := good_of (by kernel_rfl)
  have O : Fx.Ok g 6 ⟨callerA.deeper env, callerA, s₁.heap, s₁.heap, [], L, env, s₁.gens, s₁.drawn, s₁.os⟩ :=
    ⟨KB, KX, T, Around.frames_deeper KB.stack, e5, by rw [e1]; exact good.kind, rfl, (by show callerA.depth + 1 + 6 < recursionLimit; decide), (by show callerA.units + 3 + 10 * 6 + 200 < cLine; decide), fun b o e => by rw [hX] at e; cases e; exact ha⟩
  have I : Inv g ⟨callerA.deeper env, callerA, s₁.heap, s₁.heap, [], L, env, s₁.gens, s₁.drawn, s₁.os⟩ ⟨[], [], []⟩ (fun x => List.lookup x [((Str.ofString "script"), Value.ref a)]) [] { heap := h₁, gens := s₁.gens, drawn := s₁.drawn, toks := tk, os := s₁.os } :=
    ⟨F, (fun _ h => nomatch h), List.nodup_nil, .nil, rfl, rfl, rfl⟩
  have er : EnvR g c_law env ⟨[], [], []⟩ (fun x => List.lookup x [((Str.ofString "script"), Value.ref a)]) (frameL ns) := by
    intro i x b y hx hy
    match i, hy with
    | 0, hy =>
      cases hy
      have hx' : some ((Str.ofString "script"), false) = some (x, b) := hx
      cases hx'
      exact ⟨.ref a, by simp, .fl ⟨k, .inr (.inr hX)⟩ (ints_rel hI)⟩
    | j + 1, hy =>
      exfalso
      have : ∀ j : Nat, (frameL ns)[j + 1]? ≠ some (some y) := by
        intro j h
        have h' : ([none, none, none, none, none, none, none, none, none, none] : Rε)[j]? = some (some y) := h
        have := List.mem_of_getElem? h'
        simp at this
      exact this j hy
  refine (B_law G).run _ _ _ _ _ _ _ _ _ (⟨O, ⟨good, e1, e2, e3⟩, e4, I, er⟩ : SPre g 6 c_law ⟨callerA.deeper env, callerA, s₁.heap, s₁.heap, [], L, env, s₁.gens, s₁.drawn, s₁.os⟩ _ _ _ _ _) hd _ _ fun f W' m' s' I' E' er' r => ?_
  obtain ⟨v, rfl, V⟩ := r
  cases V
  exact q m' s' I'.fr I'.gens I'.os
end Rn

namespace Rn
open PySem PySem.Spec PySem.Calls PyProof.Rows PySem.W

theorem limOk {n : Nat} (h : n ≤ 100000) : lim n = true := Nat.ble_eq_true_of_le h
theorem natOf_nat {k : Nat} (h : k ≤ 100000) : natOf (k : Int) = some k := by
  show (match lim k with | true => some k | false => none) = some k
  rw [limOk h]
theorem dSeq_next {a b : SDen} {ε ε' : Rε} {σ σ' : List AO} (h : a ε σ = some (.next, ε', σ')) : dSeq a b ε σ = b ε' σ' := by unfold dSeq; rw [h]
theorem idx_own {σ : List AO} {i k : Nat} {ys : List AV} {y : AV} (h : σ[i]? = some (.list ys)) (hk : k ≤ 100000) (hy : ys[k]? = some y) : fIdx (.ref i) (.int k) σ = some (y, σ) := by
  have hi : items σ (.ref i) = some ys := by simp only [items, h]
  show (match items σ (.ref i) with
    | some xs => (match natOf (k : Int) with
      | some k => (match xs[k]? with
        | some x => some (x, σ)
        | none => none)
      | none => none)
    | none => (match dictEs σ (.ref i) with
      | some es => (match dlook es (k : Int) with
        | some x => some (x, σ)
        | none => none)
      | none => none)) = _
  rw [hi, natOf_nat hk]
  simp only [hy]
theorem seti_own {σ : List AO} {i k : Nat} {ys : List AV} {y : AV} (h : σ[i]? = some (.list ys)) (hk : k ≤ 100000) (hl : k < ys.length) : fSetI (.ref i) (.int k) y σ = some (σ.set i (.list (ys.set k y))) := by
  have hb : Nat.blt k ys.length = true := by rw [bltD]; simpa using hl
  show (match σ[i]? with
    | some (.list ys) => (match natOf (k : Int) with
      | some k => (match Nat.blt k ys.length with
        | true => some (σ.set i (.list (ys.set k y)))
        | false => none)
      | none => none)
    | some (.dict es) => (match dlook es (k : Int) with
      | none => (match lim es.length with
        | true => some (σ.set i (.dict (es ++ [((k : Int), y)])))
        | false => none)
      | some _ => none)
    | _ => none) = _
  rw [h]
  simp only [natOf_nat hk, hb]
theorem len_own {σ : List AO} {i : Nat} {ys : List AV} (h : σ[i]? = some (.list ys)) (hl : ys.length ≤ 100000) : fLen [.ref i] σ = some (.int ys.length, σ) := by
  have hi : items σ (.ref i) = some ys := by simp only [items, h]
  show (match items σ (.ref i) with
    | some ys => (match lim ys.length with
      | true => some (AV.int ys.length, σ)
      | false => none)
    | none => none) = _
  rw [hi]
  simp only [limOk hl]
theorem setSelf {σ : List AO} {i : Nat} {x : AO} (h : i < σ.length) : (σ.set i x)[i]? = some x := List.getElem?_set_self h
theorem lt_of_get {σ : List AO} {i : Nat} {x : AO} (h : σ[i]? = some x) : i < σ.length := (List.getElem?_eq_some_iff.mp h).1
theorem d2_eq {f : F2} {a b : EDen} {ε : Rε} {σ σ₁ σ₂ : List AO} {x y : AV} {r : Option (AV × List AO)} (h1 : a ε σ = some (x, σ₁)) (h2 : b ε σ₁ = some (y, σ₂)) (h3 : f x y σ₂ = r) : d2 f a b ε σ = r := by
  unfold d2; rw [h1]; simp only [h2]; exact h3
theorem dL1 {a : EDen} {ε : Rε} {σ σ₁ : List AO} {x : AV} (h1 : a ε σ = some (x, σ₁)) : dL [a] ε σ = some ([x], σ₁) := by
  unfold dL; rw [h1]; rfl
theorem dL2 {a b : EDen} {ε : Rε} {σ σ₁ σ₂ : List AO} {x y : AV} (h1 : a ε σ = some (x, σ₁)) (h2 : b ε σ₁ = some (y, σ₂)) : dL [a, b] ε σ = some ([x, y], σ₂) := by
  unfold dL; rw [h1]; simp only [dL1 h2]
theorem dCall1 {f : FL} {a : EDen} {ε : Rε} {σ σ₁ : List AO} {x : AV} {r : Option (AV × List AO)} (h1 : a ε σ = some (x, σ₁)) (h : f [x] σ₁ = r) : dCall f [a] ε σ = r := by
  unfold dCall; rw [dL1 h1]; exact h
theorem dCall2 {f : FL} {a b : EDen} {ε : Rε} {σ σ₁ σ₂ : List AO} {x y : AV} {r : Option (AV × List AO)} (h1 : a ε σ = some (x, σ₁)) (h2 : b ε σ₁ = some (y, σ₂)) (h : f [x, y] σ₂ = r) : dCall f [a, b] ε σ = r := by
  unfold dCall; rw [dL2 h1 h2]; exact h
theorem dMeth1 {ok : AV → List AO → Bool} {f : FL} {o a : EDen} {ε : Rε} {σ σ₁ σ₂ : List AO} {x y : AV} {r : Option (AV × List AO)} (h0 : o ε σ = some (x, σ₁)) (hok : ok x σ₁ = true) (h1 : a ε σ₁ = some (y, σ₂)) (h : f [x, y] σ₂ = r) : dMeth ok f o [a] ε σ = r := by
  unfold dMeth; rw [h0]; simp only [hok, dL1 h1]; exact h
theorem tV_eq {d : EDen} {ε : Rε} {σ σ₁ : List AO} {b : Bool} (h : d ε σ = some (.bool b, σ₁)) : tV d ε σ = some (b, σ₁) := by unfold tV; rw [h]
theorem dIf_t {t : TDen} {a b : EDen} {ε : Rε} {σ σ₁ : List AO} {r : Option (AV × List AO)} (h : t ε σ = some (true, σ₁)) (ha : a ε σ₁ = r) : dIf t a b ε σ = r := by unfold dIf; rw [h]; exact ha
theorem dIf_f {t : TDen} {a b : EDen} {ε : Rε} {σ σ₁ : List AO} {r : Option (AV × List AO)} (h : t ε σ = some (false, σ₁)) (ha : b ε σ₁ = r) : dIf t a b ε σ = r := by unfold dIf; rw [h]; exact ha
theorem dRet_eq {d : EDen} {ε : Rε} {σ σ₁ : List AO} {a : AV} (h : d ε σ = some (a, σ₁)) : dRet d ε σ = some (.ret a, ε, σ₁) := by unfold dRet; rw [h]
theorem dSeq_ret {a b : SDen} {ε ε' : Rε} {σ σ' : List AO} {x : AV} (h : a ε σ = some (.ret x, ε', σ')) : dSeq a b ε σ = some (.ret x, ε', σ') := by unfold dSeq; rw [h]
theorem dSetI_eq {dv dO di : EDen} {ε : Rε} {σ σ₁ σ₂ σ₃ σ₄ : List AO} {v o i : AV} (h1 : dv ε σ = some (v, σ₁)) (h2 : dO ε σ₁ = some (o, σ₂)) (h3 : di ε σ₂ = some (i, σ₃)) (h4 : fSetI o i v σ₃ = some σ₄) : dSetI dv dO di ε σ = some (.next, ε, σ₄) := by
  unfold dSetI; rw [h1]; simp only [h2, h3, h4]
theorem dAsg_eq {t : Tgt} {d : EDen} {ε ε' : Rε} {σ σ₁ σ₂ : List AO} {a : AV} (h1 : d ε σ = some (a, σ₁)) (h2 : dSto t a ε σ₁ = some (ε', σ₂)) : dAsg t d ε σ = some (.next, ε', σ₂) := by
  unfold dAsg; rw [h1]; simp only [h2]
theorem dExp_eq {d : EDen} {ε : Rε} {σ σ₁ : List AO} (h1 : d ε σ = some (.none, σ₁)) : dExp d ε σ = some (.next, ε, σ₁) := by
  unfold dExp; rw [h1]
theorem dN_eq {i : Nat} {ε : Rε} {σ : List AO} {a : AV} (h : ε[i]? = some (some a)) : dN i ε σ = some (a, σ) := by unfold dN; rw [h]

/-- one draw -/
theorem skim {σ : List AO} {cr : List Int} {cnt many : Nat} (hm : 0 < many) (hc : cnt ≤ 20) (h1 : σ[1]? = some (.list (cr.map .int))) (h2 : σ[2]? = some (.list [.ref 1, .int cnt])) (hl : cr.length ≤ 12) (hp : ∀ x ∈ cr, 0 ≤ x) :
    ∃ d : Nat, d < many ∧ F_law_skimmed [.ref 2, .int many] σ = some (.int d, σ.set 2 (.list [.ref 1, .int ((cnt + 1 : Nat) : Int)])) := by
  let σ' := σ.set 2 (.list [.ref 1, .int ((cnt + 1 : Nat) : Int)])
  let ε : Rε := [some (.ref 2), some (.int many)]
  have g2 : σ'[2]? = some (.list [.ref 1, .int ((cnt + 1 : Nat) : Int)]) := setSelf (lt_of_get h2)
  have g1 : σ'[1]? = some (.list (cr.map .int)) := by show (σ.set 2 _)[1]? = _; rw [List.getElem?_set_ne (by decide)]; exact h1
  have hlen : (cr.map AV.int).length = cr.length := List.length_map ..
  have s1 : dSetI (d2 fAdd (d2 fIdx (dN 0) (dC (.int 1))) (dC (.int 1))) (dN 0) (dC (.int 1)) ε σ = some (.next, ε, σ') := by
    refine dSetI_eq (v := .int ((cnt : Int) + 1)) (d2_eq (d2_eq (x := .ref 2) (y := .int (1 : Nat)) rfl rfl (idx_own h2 (by decide) rfl)) rfl rfl) (o := .ref 2) rfl (i := .int (1 : Nat)) rfl ?_
    rw [seti_own h2 (by decide) (by simp)]
    rfl
  have c1 : d2 fIdx (dN 0) (dC (.int 1)) ε σ' = some (.int ((cnt + 1 : Nat) : Int), σ') := d2_eq (x := .ref 2) (y := .int (1 : Nat)) rfl rfl (idx_own g2 (by decide) rfl)
  have c0 : d2 fIdx (dN 0) (dC (.int 0)) ε σ' = some (.ref 1, σ') := d2_eq (x := .ref 2) (y := .int (0 : Nat)) rfl rfl (idx_own g2 (by decide) rfl)
  have t2 : tV (d2 fLe (d2 fIdx (dN 0) (dC (.int 1))) (dCall fLen [d2 fIdx (dN 0) (dC (.int 0))])) ε σ' = some (decide (((cnt + 1 : Nat) : Int) ≤ cr.length), σ') := by
    refine tV_eq (d2_eq c1 (dCall1 c0 (len_own g1 (by rw [hlen]; omega))) ?_)
    rw [hlen]
    rfl
  have key : ∃ z : Int, 0 ≤ z ∧ dIf (tV (d2 fLe (d2 fIdx (dN 0) (dC (.int 1))) (dCall fLen [d2 fIdx (dN 0) (dC (.int 0))]))) (d2 fIdx (d2 fIdx (dN 0) (dC (.int 0))) (d2 fSub (d2 fIdx (dN 0) (dC (.int 1))) (dC (.int 1)))) (d2 fAdd (d2 fMul (dC (.int 5)) (d2 fIdx (dN 0) (dC (.int 1)))) (dC (.int 4))) ε σ' = some (.int z, σ') := by
    by_cases hle : ((cnt + 1 : Nat) : Int) ≤ cr.length
    · have hlt : cnt < cr.length := by omega
      refine ⟨cr[cnt], hp _ (List.getElem_mem hlt), dIf_t (σ₁ := σ') (by rw [t2]; simp only [hle, decide_true]) ?_⟩
      refine d2_eq c0 (y := .int (cnt : Int)) (d2_eq c1 (y := .int 1) rfl ?_) (idx_own g1 (by omega) (by simp [hlt]))
      show some (AV.int (((cnt + 1 : Nat) : Int) - 1), σ') = _
      rw [show (((cnt + 1 : Nat) : Int) - 1) = (cnt : Int) from by omega]
    · refine ⟨5 * ((cnt + 1 : Nat) : Int) + 4, by omega, dIf_f (σ₁ := σ') (by rw [t2]; simp only [hle, decide_false]) ?_⟩
      have hs : small (((cnt + 1 : Nat)) : Int) = true := by
        unfold small
        rw [bltD]
        simp only [decide_eq_true_eq, Int.natAbs_natCast]
        omega
      refine d2_eq (x := .int (5 * ((cnt + 1 : Nat) : Int))) (y := .int 4) (d2_eq (x := .int 5) rfl c1 ?_) rfl rfl
      unfold fMul
      simp only [hs]
  obtain ⟨z, hz, hzz⟩ := key
  have hmn : ((many : Nat) : Int) ≠ 0 := by omega
  refine ⟨(z.fmod many).toNat, ?_, ?_⟩
  · have h3 := Int.fmod_lt_of_pos z (show (0 : Int) < many by omega)
    have h4 := Int.fmod_nonneg_of_pos z (show (0 : Int) < many by omega)
    omega
  · have h4 := Int.fmod_nonneg_of_pos z (show (0 : Int) < many by omega)
    show (match D_law_skimmed ε (σ ++ []) with | some (fl, _, σ') => some (retV fl, σ') | none => none) = _
    rw [List.append_nil]
    have hD : D_law_skimmed ε σ = some (.ret (.int (z.fmod many)), ε, σ') := by
      unfold D_law_skimmed
      rw [dSeq_next s1]
      refine dSeq_ret (dRet_eq (d2_eq hzz (y := .int (many : Int)) rfl ?_))
      unfold fMod
      simp only
      split
      · rename_i h _; exact absurd h hmn
      · rfl
    rw [hD]
    show some (AV.int (z.fmod many), σ') = _
    rw [Int.toNat_of_nonneg h4]
end Rn

namespace Rn
open PySem PySem.Spec PySem.Calls PyProof.Rows PySem.W

noncomputable def menuA : List AV := [
  .tup [.str [71, 79, 84, 79, 32, 49, 48], .str [71, 79, 84, 79, 32, 49, 48, 48], .none], 
  .tup [.str [71, 79, 84, 79, 32, 49, 48, 32, 50, 48], .str [71, 79, 84, 79, 32, 49, 48, 32, 50, 48], .none], 
  .tup [.str [79, 78, 32, 65, 32, 71, 79, 84, 79, 32, 49, 48, 44, 50, 48], .str [79, 78, 32, 65, 32, 71, 79, 84, 79, 32, 49, 48, 48, 44, 49, 49, 48], .none], 
  .tup [.str [79, 78, 32, 65, 32, 71, 79, 83, 85, 66, 32, 49, 48, 44, 50, 48, 32, 51, 48], .str [79, 78, 32, 65, 32, 71, 79, 83, 85, 66, 32, 49, 48, 48, 44, 50, 48, 32, 51, 48], .none], 
  .tup [.str [73, 70, 32, 65, 32, 84, 72, 69, 78, 32, 49, 48, 32, 69, 76, 83, 69, 32, 50, 48], .str [73, 70, 32, 65, 32, 84, 72, 69, 78, 32, 49, 48, 48, 32, 69, 76, 83, 69, 32, 49, 49, 48], .none], 
  .tup [.str [73, 70, 32, 65, 32, 84, 72, 69, 78, 32, 49, 48, 32, 43, 32, 49], .str [73, 70, 32, 65, 32, 84, 72, 69, 78, 32, 49, 48, 32, 43, 32, 49], .none], 
  .tup [.str [82, 69, 83, 84, 79, 82, 69, 32, 50, 48], .str [82, 69, 83, 84, 79, 82, 69, 32, 49, 49, 48], .none], 
  .tup [.str [80, 82, 73, 78, 84, 32, 49, 48, 44, 50, 48], .str [80, 82, 73, 78, 84, 32, 49, 48, 44, 50, 48], .none], 
  .tup [.str [71, 79, 83, 85, 66, 32, 51, 48, 32, 58, 32, 80, 82, 73, 78, 84, 32, 50, 48], .str [71, 79, 83, 85, 66, 32, 49, 50, 48, 32, 58, 32, 80, 82, 73, 78, 84, 32, 50, 48], .none], 
  .tup [.str [71, 79, 84, 79, 32, 50, 48, 32, 82, 69, 77, 32, 49, 48], .str [71, 79, 84, 79, 32, 49, 49, 48, 32, 82, 69, 77, 32, 49, 48], .none], 
  .tup [.str [79, 78, 32, 65, 32, 71, 79, 84, 79, 32, 49, 48, 44, 57, 57, 44, 51, 48], .str [79, 78, 32, 65, 32, 71, 79, 84, 79, 32, 49, 48, 48, 44, 57, 57, 44, 49, 50, 48], .int 99], 
  .tup [.str [71, 79, 84, 79, 32, 44, 32, 49, 48], .str [71, 79, 84, 79, 32, 44, 32, 49, 48], .none], 
  .tup [.str [65, 32, 61, 32, 49, 48], .str [65, 32, 61, 32, 49, 48], .none], 
  .tup [.str [82, 85, 78, 32, 51, 48], .str [82, 85, 78, 32, 49, 50, 48], .none], 
  .tup [.str [73, 70, 32, 65, 32, 84, 72, 69, 78, 32, 66, 32, 61, 32, 50, 48], .str [73, 70, 32, 65, 32, 84, 72, 69, 78, 32, 66, 32, 61, 32, 50, 48], .none], 
  .tup [.str [71, 79, 84, 79, 32, 52, 48], .str [71, 79, 84, 79, 32, 52, 48], .int 40]]
noncomputable def rowOf (i : Nat) : List AV := match menuA[i]? with
  | some (.tup ys) => ys
  | _ => []
noncomputable def tx (i : Nat) : List Nat := match rowOf i with
  | .str s :: _ => s
  | _ => []
noncomputable def lt (i : Nat) : List Nat := match rowOf i with
  | _ :: .str s :: _ => s
  | _ => []
noncomputable def go (i : Nat) : AV := match rowOf i with
  | _ :: _ :: x :: _ => x
  | _ => .none
noncomputable def tk (s : List Nat) : List AV := match P_tokens_of [.str s] with
  | some (.fl xs) => xs
  | _ => []
noncomputable def bl (a : Nat) : List Nat := match a with
  | 0 => []
  | 1 => [32]
  | 2 => [9]
  | _ => [32, 9]
noncomputable def br (b : Nat) : List Nat := match b with
  | 0 => []
  | 1 => [9]
  | _ => [32, 32]
noncomputable def ln (dg : List Nat) (a i : Nat) : List Nat := bl a ++ dg ++ [32] ++ tx i

theorem rows_ok : P_law_rows [] = some (.fl menuA) := by kernel_rfl
theorem menu_get : ∀ i : Nat, i < 16 → menuA[i]? = some (.tup [.str (tx i), .str (lt i), go i])
  | 0, _ => by kernel_rfl
  | 1, _ => by kernel_rfl
  | 2, _ => by kernel_rfl
  | 3, _ => by kernel_rfl
  | 4, _ => by kernel_rfl
  | 5, _ => by kernel_rfl
  | 6, _ => by kernel_rfl
  | 7, _ => by kernel_rfl
  | 8, _ => by kernel_rfl
  | 9, _ => by kernel_rfl
  | 10, _ => by kernel_rfl
  | 11, _ => by kernel_rfl
  | 12, _ => by kernel_rfl
  | 13, _ => by kernel_rfl
  | 14, _ => by kernel_rfl
  | 15, _ => by kernel_rfl
  | n + 16, h => absurd h (by omega)
theorem all_lt {n : Nat} {p : Nat → Bool} (h : (List.range n).all p = true) : ∀ i : Nat, i < n → p i = true := fun i hi => List.all_eq_true.mp h i (List.mem_range.mpr hi)
noncomputable def goB : AV → Bool
  | .none => true
  | .int _ => true
  | _ => false
theorem go_kind (i : Nat) (h : i < 16) : go i = .none ∨ ∃ k, go i = .int k := by
  have hb := all_lt (n := 16) (p := fun i => goB (go i)) (by kernel_rfl) i h
  cases hg : go i <;> simp only [hg] at hb <;> first | exact .inl rfl | exact .inr ⟨_, rfl⟩ | cases hb
theorem tx_len (i : Nat) (h : i < 16) : (tx i).length ≤ 40 := Nat.le_of_ble_eq_true (all_lt (n := 16) (p := fun i => Nat.ble (tx i).length 40) (by kernel_rfl) i h)
noncomputable def isFl : Option AV → Bool
  | some (.fl _) => true
  | _ => false
theorem tk_of {s : List Nat} (h : isFl (P_tokens_of [.str s]) = true) : P_tokens_of [.str s] = some (.fl (tk s)) := by
  unfold tk
  cases hp : P_tokens_of [.str s] with
  | none => rw [hp] at h; cases h
  | some v =>
    rw [hp] at h
    cases v <;> first | rfl | cases h
/-- the tokens of the menu's rows, as typed and as led -/
noncomputable def tabX : List (List AV) := [[.tup [.str [119, 111, 114, 100], .str [71, 79, 84, 79]], .tup [.str [110, 117, 109, 98, 101, 114], .int 10]],
  [.tup [.str [119, 111, 114, 100], .str [71, 79, 84, 79]], .tup [.str [110, 117, 109, 98, 101, 114], .int 10], .tup [.str [110, 117, 109, 98, 101, 114], .int 20]],
  [.tup [.str [119, 111, 114, 100], .str [79, 78]], .tup [.str [110, 97, 109, 101], .str [65]], .tup [.str [119, 111, 114, 100], .str [71, 79, 84, 79]], .tup [.str [110, 117, 109, 98, 101, 114], .int 10], .tup [.str [115, 105, 103, 110], .str [44]], .tup [.str [110, 117, 109, 98, 101, 114], .int 20]],
  [.tup [.str [119, 111, 114, 100], .str [79, 78]], .tup [.str [110, 97, 109, 101], .str [65]], .tup [.str [119, 111, 114, 100], .str [71, 79, 83, 85, 66]], .tup [.str [110, 117, 109, 98, 101, 114], .int 10], .tup [.str [115, 105, 103, 110], .str [44]], .tup [.str [110, 117, 109, 98, 101, 114], .int 20], .tup [.str [110, 117, 109, 98, 101, 114], .int 30]],
  [.tup [.str [119, 111, 114, 100], .str [73, 70]], .tup [.str [110, 97, 109, 101], .str [65]], .tup [.str [119, 111, 114, 100], .str [84, 72, 69, 78]], .tup [.str [110, 117, 109, 98, 101, 114], .int 10], .tup [.str [119, 111, 114, 100], .str [69, 76, 83, 69]], .tup [.str [110, 117, 109, 98, 101, 114], .int 20]],
  [.tup [.str [119, 111, 114, 100], .str [73, 70]], .tup [.str [110, 97, 109, 101], .str [65]], .tup [.str [119, 111, 114, 100], .str [84, 72, 69, 78]], .tup [.str [110, 117, 109, 98, 101, 114], .int 10], .tup [.str [115, 105, 103, 110], .str [43]], .tup [.str [110, 117, 109, 98, 101, 114], .int 1]],
  [.tup [.str [119, 111, 114, 100], .str [82, 69, 83, 84, 79, 82, 69]], .tup [.str [110, 117, 109, 98, 101, 114], .int 20]],
  [.tup [.str [119, 111, 114, 100], .str [80, 82, 73, 78, 84]], .tup [.str [110, 117, 109, 98, 101, 114], .int 10], .tup [.str [115, 105, 103, 110], .str [44]], .tup [.str [110, 117, 109, 98, 101, 114], .int 20]],
  [.tup [.str [119, 111, 114, 100], .str [71, 79, 83, 85, 66]], .tup [.str [110, 117, 109, 98, 101, 114], .int 30], .tup [.str [115, 105, 103, 110], .str [58]], .tup [.str [119, 111, 114, 100], .str [80, 82, 73, 78, 84]], .tup [.str [110, 117, 109, 98, 101, 114], .int 20]],
  [.tup [.str [119, 111, 114, 100], .str [71, 79, 84, 79]], .tup [.str [110, 117, 109, 98, 101, 114], .int 20], .tup [.str [119, 111, 114, 100], .str [82, 69, 77]], .tup [.str [114, 97, 119], .str [49, 48]]],
  [.tup [.str [119, 111, 114, 100], .str [79, 78]], .tup [.str [110, 97, 109, 101], .str [65]], .tup [.str [119, 111, 114, 100], .str [71, 79, 84, 79]], .tup [.str [110, 117, 109, 98, 101, 114], .int 10], .tup [.str [115, 105, 103, 110], .str [44]], .tup [.str [110, 117, 109, 98, 101, 114], .int 99], .tup [.str [115, 105, 103, 110], .str [44]], .tup [.str [110, 117, 109, 98, 101, 114], .int 30]],
  [.tup [.str [119, 111, 114, 100], .str [71, 79, 84, 79]], .tup [.str [115, 105, 103, 110], .str [44]], .tup [.str [110, 117, 109, 98, 101, 114], .int 10]],
  [.tup [.str [110, 97, 109, 101], .str [65]], .tup [.str [115, 105, 103, 110], .str [61]], .tup [.str [110, 117, 109, 98, 101, 114], .int 10]],
  [.tup [.str [119, 111, 114, 100], .str [82, 85, 78]], .tup [.str [110, 117, 109, 98, 101, 114], .int 30]],
  [.tup [.str [119, 111, 114, 100], .str [73, 70]], .tup [.str [110, 97, 109, 101], .str [65]], .tup [.str [119, 111, 114, 100], .str [84, 72, 69, 78]], .tup [.str [110, 97, 109, 101], .str [66]], .tup [.str [115, 105, 103, 110], .str [61]], .tup [.str [110, 117, 109, 98, 101, 114], .int 20]],
  [.tup [.str [119, 111, 114, 100], .str [71, 79, 84, 79]], .tup [.str [110, 117, 109, 98, 101, 114], .int 40]]]
noncomputable def tabL : List (List AV) := [[.tup [.str [119, 111, 114, 100], .str [71, 79, 84, 79]], .tup [.str [110, 117, 109, 98, 101, 114], .int 100]],
  [.tup [.str [119, 111, 114, 100], .str [71, 79, 84, 79]], .tup [.str [110, 117, 109, 98, 101, 114], .int 10], .tup [.str [110, 117, 109, 98, 101, 114], .int 20]],
  [.tup [.str [119, 111, 114, 100], .str [79, 78]], .tup [.str [110, 97, 109, 101], .str [65]], .tup [.str [119, 111, 114, 100], .str [71, 79, 84, 79]], .tup [.str [110, 117, 109, 98, 101, 114], .int 100], .tup [.str [115, 105, 103, 110], .str [44]], .tup [.str [110, 117, 109, 98, 101, 114], .int 110]],
  [.tup [.str [119, 111, 114, 100], .str [79, 78]], .tup [.str [110, 97, 109, 101], .str [65]], .tup [.str [119, 111, 114, 100], .str [71, 79, 83, 85, 66]], .tup [.str [110, 117, 109, 98, 101, 114], .int 100], .tup [.str [115, 105, 103, 110], .str [44]], .tup [.str [110, 117, 109, 98, 101, 114], .int 20], .tup [.str [110, 117, 109, 98, 101, 114], .int 30]],
  [.tup [.str [119, 111, 114, 100], .str [73, 70]], .tup [.str [110, 97, 109, 101], .str [65]], .tup [.str [119, 111, 114, 100], .str [84, 72, 69, 78]], .tup [.str [110, 117, 109, 98, 101, 114], .int 100], .tup [.str [119, 111, 114, 100], .str [69, 76, 83, 69]], .tup [.str [110, 117, 109, 98, 101, 114], .int 110]],
  [.tup [.str [119, 111, 114, 100], .str [73, 70]], .tup [.str [110, 97, 109, 101], .str [65]], .tup [.str [119, 111, 114, 100], .str [84, 72, 69, 78]], .tup [.str [110, 117, 109, 98, 101, 114], .int 10], .tup [.str [115, 105, 103, 110], .str [43]], .tup [.str [110, 117, 109, 98, 101, 114], .int 1]],
  [.tup [.str [119, 111, 114, 100], .str [82, 69, 83, 84, 79, 82, 69]], .tup [.str [110, 117, 109, 98, 101, 114], .int 110]],
  [.tup [.str [119, 111, 114, 100], .str [80, 82, 73, 78, 84]], .tup [.str [110, 117, 109, 98, 101, 114], .int 10], .tup [.str [115, 105, 103, 110], .str [44]], .tup [.str [110, 117, 109, 98, 101, 114], .int 20]],
  [.tup [.str [119, 111, 114, 100], .str [71, 79, 83, 85, 66]], .tup [.str [110, 117, 109, 98, 101, 114], .int 120], .tup [.str [115, 105, 103, 110], .str [58]], .tup [.str [119, 111, 114, 100], .str [80, 82, 73, 78, 84]], .tup [.str [110, 117, 109, 98, 101, 114], .int 20]],
  [.tup [.str [119, 111, 114, 100], .str [71, 79, 84, 79]], .tup [.str [110, 117, 109, 98, 101, 114], .int 110], .tup [.str [119, 111, 114, 100], .str [82, 69, 77]], .tup [.str [114, 97, 119], .str [49, 48]]],
  [.tup [.str [119, 111, 114, 100], .str [79, 78]], .tup [.str [110, 97, 109, 101], .str [65]], .tup [.str [119, 111, 114, 100], .str [71, 79, 84, 79]], .tup [.str [110, 117, 109, 98, 101, 114], .int 100], .tup [.str [115, 105, 103, 110], .str [44]], .tup [.str [110, 117, 109, 98, 101, 114], .int 99], .tup [.str [115, 105, 103, 110], .str [44]], .tup [.str [110, 117, 109, 98, 101, 114], .int 120]],
  [.tup [.str [119, 111, 114, 100], .str [71, 79, 84, 79]], .tup [.str [115, 105, 103, 110], .str [44]], .tup [.str [110, 117, 109, 98, 101, 114], .int 10]],
  [.tup [.str [110, 97, 109, 101], .str [65]], .tup [.str [115, 105, 103, 110], .str [61]], .tup [.str [110, 117, 109, 98, 101, 114], .int 10]],
  [.tup [.str [119, 111, 114, 100], .str [82, 85, 78]], .tup [.str [110, 117, 109, 98, 101, 114], .int 120]],
  [.tup [.str [119, 111, 114, 100], .str [73, 70]], .tup [.str [110, 97, 109, 101], .str [65]], .tup [.str [119, 111, 114, 100], .str [84, 72, 69, 78]], .tup [.str [110, 97, 109, 101], .str [66]], .tup [.str [115, 105, 103, 110], .str [61]], .tup [.str [110, 117, 109, 98, 101, 114], .int 20]],
  [.tup [.str [119, 111, 114, 100], .str [71, 79, 84, 79]], .tup [.str [110, 117, 109, 98, 101, 114], .int 40]]]
noncomputable def tkX (i : Nat) : List AV := tabX.getD i []
noncomputable def tkL (i : Nat) : List AV := tabL.getD i []
theorem tokX : ∀ i : Nat, i < 16 → P_tokens_of [.str (32 :: tx i)] = some (.fl (tkX i))
  | 0, _ => by as_aux_lemma => kernel_rfl
  | 1, _ => by as_aux_lemma => kernel_rfl
  | 2, _ => by as_aux_lemma => kernel_rfl
  | 3, _ => by as_aux_lemma => kernel_rfl
  | 4, _ => by as_aux_lemma => kernel_rfl
  | 5, _ => by as_aux_lemma => kernel_rfl
  | 6, _ => by as_aux_lemma => kernel_rfl
  | 7, _ => by as_aux_lemma => kernel_rfl
  | 8, _ => by as_aux_lemma => kernel_rfl
  | 9, _ => by as_aux_lemma => kernel_rfl
  | 10, _ => by as_aux_lemma => kernel_rfl
  | 11, _ => by as_aux_lemma => kernel_rfl
  | 12, _ => by as_aux_lemma => kernel_rfl
  | 13, _ => by as_aux_lemma => kernel_rfl
  | 14, _ => by as_aux_lemma => kernel_rfl
  | 15, _ => by as_aux_lemma => kernel_rfl
  | n + 16, h => absurd h (by omega)
theorem tokL : ∀ i : Nat, i < 16 → P_tokens_of [.str (lt i)] = some (.fl (tkL i))
  | 0, _ => by as_aux_lemma => kernel_rfl
  | 1, _ => by as_aux_lemma => kernel_rfl
  | 2, _ => by as_aux_lemma => kernel_rfl
  | 3, _ => by as_aux_lemma => kernel_rfl
  | 4, _ => by as_aux_lemma => kernel_rfl
  | 5, _ => by as_aux_lemma => kernel_rfl
  | 6, _ => by as_aux_lemma => kernel_rfl
  | 7, _ => by as_aux_lemma => kernel_rfl
  | 8, _ => by as_aux_lemma => kernel_rfl
  | 9, _ => by as_aux_lemma => kernel_rfl
  | 10, _ => by as_aux_lemma => kernel_rfl
  | 11, _ => by as_aux_lemma => kernel_rfl
  | 12, _ => by as_aux_lemma => kernel_rfl
  | 13, _ => by as_aux_lemma => kernel_rfl
  | 14, _ => by as_aux_lemma => kernel_rfl
  | 15, _ => by as_aux_lemma => kernel_rfl
  | n + 16, h => absurd h (by omega)
theorem tkX_eq (i : Nat) (h : i < 16) : tk (32 :: tx i) = tkX i := by unfold tk; rw [tokX i h]
theorem tkL_eq (i : Nat) (h : i < 16) : tk (lt i) = tkL i := by unfold tk; rw [tokL i h]
theorem tk_lt (i : Nat) (h : i < 16) : P_tokens_of [.str (lt i)] = some (.fl (tk (lt i))) := by rw [tkL_eq i h]; exact tokL i h
theorem tk_tx (i : Nat) (h : i < 16) : P_tokens_of [.str (32 :: tx i)] = some (.fl (tk (32 :: tx i))) := by rw [tkX_eq i h]; exact tokX i h
noncomputable def wysA : List (Int × AV) := [(10, .int 100), (20, .int 110), (30, .int 120)]
theorem led_lit : ∀ i : Nat, i < 16 → P_led_row [.fl (tkX i), .fd wysA] = some (.fl (tkL i))
  | 0, _ => by kernel_rfl
  | 1, _ => by kernel_rfl
  | 2, _ => by kernel_rfl
  | 3, _ => by kernel_rfl
  | 4, _ => by kernel_rfl
  | 5, _ => by kernel_rfl
  | 6, _ => by kernel_rfl
  | 7, _ => by kernel_rfl
  | 8, _ => by kernel_rfl
  | 9, _ => by kernel_rfl
  | 10, _ => by kernel_rfl
  | 11, _ => by kernel_rfl
  | 12, _ => by kernel_rfl
  | 13, _ => by kernel_rfl
  | 14, _ => by kernel_rfl
  | 15, _ => by kernel_rfl
  | n + 16, h => absurd h (by omega)
theorem led_ok (i : Nat) (h : i < 16) : P_led_row [.fl (tk (32 :: tx i)), .fd wysA] = some (.fl (tk (lt i))) := by rw [tkX_eq i h, tkL_eq i h]; exact led_lit i h
end Rn

namespace Rn
open PySem PySem.Spec PySem.Calls PyProof.Rows PySem.W

noncomputable def blsA : List AV := [.str [], .str [32], .str [9], .str [32, 9, 32]]
noncomputable def brsA : List AV := [.str [], .str [9], .str [32, 32]]
theorem get_ap {σ : List AO} {i : Nat} {x y : AO} (h : σ[i]? = some x) : (σ ++ [y])[i]? = some x := by
  rw [List.getElem?_append_left (lt_of_get h)]; exact h
theorem get_st {σ : List AO} {i j : Nat} {x y : AO} (h : σ[i]? = some x) (hne : j ≠ i) : (σ.set j y)[i]? = some x := by
  rw [List.getElem?_set_ne hne]; exact h
theorem get_end {σ : List AO} {y : AO} : (σ ++ [y])[σ.length]? = some y := by simp
theorem idx_fl {σ : List AO} {k : Nat} {ys : List AV} {y : AV} (hk : k ≤ 100000) (hy : ys[k]? = some y) : fIdx (.fl ys) (.int k) σ = some (y, σ) := by
  show (match natOf (k : Int) with
      | some k => (match ys[k]? with
        | some x => some (x, σ)
        | none => none)
      | none => none) = _
  rw [natOf_nat hk]
  simp only [hy]
theorem own_ok {σ : List AO} {i : Nat} {ys : List AV} (h : σ[i]? = some (.list ys)) : okOwn (.ref i) σ = true := by unfold okOwn; simp only [h]
theorem app_own {σ : List AO} {i : Nat} {ys : List AV} {x : AV} (h : σ[i]? = some (.list ys)) (hl : ys.length ≤ 100000) : fAppend [.ref i, x] σ = some (.none, σ.set i (.list (ys ++ [x]))) := by
  unfold fAppend; simp only [h, limOk hl]
theorem add_str {σ : List AO} {a b : List Nat} (h : a.length + b.length ≤ 100000) : fAdd (.str a) (.str b) σ = some (.str (a ++ b), σ) := by
  unfold fAdd; simp only [limOk h]
/-- the first: text, later, goal -/
theorem st1 {ε : Rε} {σ σ₂ : List AO} {d : Nat} (hv : ε[1]? = some (some (.ref 2))) (hd : d < 16) (hs : F_law_skimmed [.ref 2, .int (16 : Nat)] σ = some (.int d, σ₂)) :
    dAsT false [(6, false), (7, false), (8, false)] (d2 fIdx (dCall F_law_rows []) (dCall F_law_skimmed [dN 1, dC (.int 16)])) ε σ = some (.next, ((ε.set 6 (some (.str (tx d)))).set 7 (some (.str (lt d)))).set 8 (some (go d)), σ₂) := by
  have h1 : dCall F_law_rows [] ε σ = some (.fl menuA, σ) := by
    show (match P_law_rows [] with | some r => some (r, σ) | none => none) = _
    rw [rows_ok]
  have e := d2_eq (f := fIdx) h1 (dCall2 (a := dN 1) (b := dC (.int 16)) (dN_eq hv) rfl hs) (idx_fl (by omega) (menu_get d hd))
  unfold dAsT
  rw [e]
  rfl
/-- a draw among blanks written out -/
theorem stB {ε : Rε} {σ σ₂ : List AO} {d many : Nat} {es : List EDen} {ys : List AV} {s : AV} (hv : ε[1]? = some (some (.ref 2))) (hes : dL es ε σ = some (ys, σ)) (hys : ys.length ≤ 10) (hs : F_law_skimmed [.ref 2, .int many] (σ ++ [AO.list ys]) = some (.int d, σ₂))
    (hg : σ₂[σ.length]? = some (.list ys)) (hd : ys[d]? = some s) (hdk : d ≤ 100000) : d2 fIdx (dLst es) (dCall F_law_skimmed [dN 1, dC (.int many)]) ε σ = some (s, σ₂) := by
  have h1 : dLst es ε σ = some (.ref σ.length, σ ++ [AO.list ys]) := by
    unfold dLst; rw [hes]; simp only [limOk (show ys.length ≤ 100000 by omega)]
  exact d2_eq h1 (dCall2 (a := dN 1) (b := dC (.int many)) (dN_eq hv) rfl hs) (idx_own hg hdk hd)
theorem st2 {ε : Rε} {σ σ₂ : List AO} {d : Nat} {num : Int} {dg t : List Nat} {s : List Nat} {ty : List AV} (hv : ε[1]? = some (some (.ref 2))) (ht : ε[2]? = some (some (.ref 3))) (hn : ε[5]? = some (some (.int num))) (hx : ε[6]? = some (some (.str t)))
    (hstr : ∀ σ, fStr [.int num] σ = some (.str dg, σ)) (hdg : dg.length ≤ 10) (htl : t.length ≤ 40) (h3 : σ[3]? = some (.list ty)) (h3' : σ₂[3]? = some (.list ty)) (hty : ty.length ≤ 10)
    (hs : F_law_skimmed [.ref 2, .int (4 : Nat)] (σ ++ [AO.list blsA]) = some (.int d, σ₂)) (hg : σ₂[σ.length]? = some (.list blsA)) (hd : blsA[d]? = some (.str s)) (hsl : s.length ≤ 10) (hdk : d ≤ 100000) :
    dExp (dMeth okOwn fAppend (dN 2) [d2 fAdd (d2 fAdd (d2 fAdd (d2 fIdx (dLst [dC (.str []), dC (.str [32]), dC (.str [9]), dC (.str [32, 9, 32])]) (dCall F_law_skimmed [dN 1, dC (.int 4)])) (dCall fStr [dN 5])) (dC (.str [32]))) (dN 6)]) ε σ
      = some (.next, ε, σ₂.set 3 (.list (ty ++ [.str (s ++ dg ++ [32] ++ t)]))) := by
  refine dExp_eq (dMeth1 (dN_eq ht) (own_ok h3) ?_ (app_own h3' (by omega)))
  refine d2_eq (d2_eq (d2_eq (stB (many := 4) hv (ys := blsA) rfl (by decide) hs hg hd hdk) (dCall1 (dN_eq hn) (hstr _)) (add_str (by omega))) (y := .str [32]) rfl (add_str (by simp; omega))) (dN_eq hx) (add_str (by simp; omega))
theorem st3 {ε : Rε} {σ σ₂ : List AO} {d : Nat} {s : List Nat} {ty : List AV} (hv : ε[1]? = some (some (.ref 2))) (ht : ε[2]? = some (some (.ref 3)))
    (h3 : σ[3]? = some (.list ty)) (h3' : σ₂[3]? = some (.list ty)) (hty : ty.length ≤ 10)
    (hs : F_law_skimmed [.ref 2, .int (3 : Nat)] (σ ++ [AO.list brsA]) = some (.int d, σ₂)) (hg : σ₂[σ.length]? = some (.list brsA)) (hd : brsA[d]? = some (.str s)) (hdk : d ≤ 100000) :
    dExp (dMeth okOwn fAppend (dN 2) [d2 fIdx (dLst [dC (.str []), dC (.str [9]), dC (.str [32, 32])]) (dCall F_law_skimmed [dN 1, dC (.int 3)])]) ε σ
      = some (.next, ε, σ₂.set 3 (.list (ty ++ [.str s]))) :=
  dExp_eq (dMeth1 (dN_eq ht) (own_ok h3) (stB (many := 3) hv (ys := brsA) rfl (by decide) hs hg hd hdk) (app_own h3' (by omega)))
theorem tokF {σ : List AO} {s : List Nat} (h : P_tokens_of [.str s] = some (.fl (tk s))) : F_tokens_of [.str s] σ = some (.fl (tk s), σ) := by
  show (match P_tokens_of [.str s] with | some r => some (r, σ) | none => none) = _
  rw [h]
theorem st4 {ε : Rε} {σ : List AO} {s : List Nat} {du : List AV} (ht : ε[3]? = some (some (.ref 4))) (hx : ε[7]? = some (some (.str s))) (hk : P_tokens_of [.str s] = some (.fl (tk s))) (h4 : σ[4]? = some (.list du)) (hdu : du.length ≤ 10) :
    dExp (dMeth okOwn fAppend (dN 3) [dCall F_tokens_of [dN 7]]) ε σ = some (.next, ε, σ.set 4 (.list (du ++ [.fl (tk s)]))) :=
  dExp_eq (dMeth1 (dN_eq ht) (own_ok h4) (dCall1 (dN_eq hx) (tokF hk)) (app_own h4 (by omega)))
noncomputable def lostD (num : Int) : AV → List AV
  | .none => []
  | x => [.tup [.int (90 + num), x]]
theorem items_own {σ : List AO} {i : Nat} {ys : List AV} (h : σ[i]? = some (.list ys)) : items σ (.ref i) = some ys := by simp only [items, h]
theorem add_own {σ : List AO} {i j : Nat} {xs ys : List AV} (hi : σ[i]? = some (.list xs)) (hj : σ[j]? = some (.list ys)) (hl : xs.length + ys.length ≤ 100000) : fAdd (.ref i) (.ref j) σ = some (.ref σ.length, σ ++ [AO.list (xs ++ ys)]) := by
  show (match items σ (.ref i), items σ (.ref j) with
    | some xs, some ys => (match lim (xs.length + ys.length) with
      | true => some (AV.ref σ.length, σ ++ [AO.list (xs ++ ys)])
      | false => none)
    | _, _ => none) = _
  rw [items_own hi, items_own hj]
  simp only [limOk hl]
theorem st5 {ε : Rε} {σ : List AO} {L : Nat} {lo : List AV} {num : Int} {x : AV} (h4 : ε[4]? = some (some (.ref L))) (hn : ε[5]? = some (some (.int num))) (hx : ε[8]? = some (some x)) (hk : x = .none ∨ ∃ k, x = .int k) (hL : σ[L]? = some (.list lo)) (hlo : lo.length ≤ 10) :
    dAsg (4, false) (d2 fAdd (dN 4) (dIf (tV (d2 fIsNot (dN 8) (dC .none))) (dLst [dTup [d2 fAdd (dC (.int 90)) (dN 5), dN 8]]) (dLst []))) ε σ
      = some (.next, ε.set 4 (some (.ref (σ.length + 1))), σ ++ [AO.list (lostD num x)] ++ [AO.list (lo ++ lostD num x)]) := by
  have key : dIf (tV (d2 fIsNot (dN 8) (dC .none))) (dLst [dTup [d2 fAdd (dC (.int 90)) (dN 5), dN 8]]) (dLst []) ε σ = some (.ref σ.length, σ ++ [AO.list (lostD num x)]) := by
    rcases hk with rfl | ⟨k, rfl⟩
    · exact dIf_f (tV_eq (b := false) (d2_eq (dN_eq hx) (y := .none) rfl rfl)) rfl
    · refine dIf_t (tV_eq (b := true) (d2_eq (dN_eq hx) (y := .none) rfl rfl)) ?_
      have e : d2 fAdd (dC (.int 90)) (dN 5) ε σ = some (.int (90 + num), σ) := d2_eq (x := .int 90) rfl (dN_eq hn) rfl
      have e2 : dTup [d2 fAdd (dC (.int 90)) (dN 5), dN 8] ε σ = some (.tup [.int (90 + num), .int k], σ) := by
        unfold dTup; rw [dL2 e (dN_eq hx)]; rfl
      unfold dLst
      rw [dL1 e2]
      rfl
  refine dAsg_eq (d2_eq (dN_eq h4) key (add_own (get_ap hL) get_end ?_)) ?_
  · have : (lostD num x).length ≤ 1 := by rcases hk with rfl | ⟨k, rfl⟩ <;> simp [lostD]
    omega
  · show some (ε.set 4 (some (.ref (σ ++ [AO.list (lostD num x)]).length)), _) = _
    simp

noncomputable def bodyL : SDen := 
  dSeq (dAsT false [(6, false), (7, false), (8, false)] (d2 fIdx (dCall F_law_rows []) (dCall F_law_skimmed [dN 1, dC (.int 16)]))) (
  dSeq (dExp (dMeth okOwn fAppend (dN 2) [d2 fAdd (d2 fAdd (d2 fAdd (d2 fIdx (dLst [dC (.str []), dC (.str [32]), dC (.str [9]), dC (.str [32, 9, 32])]) (dCall F_law_skimmed [dN 1, dC (.int 4)])) (dCall fStr [dN 5])) (dC (.str [32]))) (dN 6)])) (
  dSeq (dExp (dMeth okOwn fAppend (dN 2) [d2 fIdx (dLst [dC (.str []), dC (.str [9]), dC (.str [32, 32])]) (dCall F_law_skimmed [dN 1, dC (.int 3)])])) (
  dSeq (dExp (dMeth okOwn fAppend (dN 3) [dCall F_tokens_of [dN 7]])) (
  dSeq (dAsg (4, false) (d2 fAdd (dN 4) (dIf (tV (d2 fIsNot (dN 8) (dC .none))) (dLst [dTup [d2 fAdd (dC (.int 90)) (dN 5), dN 8]]) (dLst [])))) (dEnd)))))

structure LS (cr : List Int) (cnt : Nat) (ty du lo : List AV) (L : Nat) (ε : Rε) (σ : List AO) : Prop where
  e1 : ε[1]? = some (some (.ref 2))
  e2 : ε[2]? = some (some (.ref 3))
  e3 : ε[3]? = some (some (.ref 4))
  e4 : ε[4]? = some (some (.ref L))
  el : ε.length = 11
  s1 : σ[1]? = some (.list (cr.map .int))
  s2 : σ[2]? = some (.list [.ref 1, .int cnt])
  s3 : σ[3]? = some (.list ty)
  s4 : σ[4]? = some (.list du)
  sL : σ[L]? = some (.list lo)
  hL : 5 ≤ L
noncomputable def ln' (s dg : List Nat) (i : Nat) : List Nat := s ++ dg ++ [32] ++ tx i
theorem bls_get : ∀ d : Nat, d < 4 → ∃ s, blsA[d]? = some (.str s) ∧ s ∈ [[], [32], [9], [32, 9, 32]]
  | 0, _ => ⟨_, rfl, by simp⟩
  | 1, _ => ⟨_, rfl, by simp⟩
  | 2, _ => ⟨_, rfl, by simp⟩
  | 3, _ => ⟨_, rfl, by simp⟩
  | n + 4, h => absurd h (by omega)
theorem brs_get : ∀ d : Nat, d < 3 → ∃ s, brsA[d]? = some (.str s) ∧ s ∈ [[], [9], [32, 32]]
  | 0, _ => ⟨_, rfl, by simp⟩
  | 1, _ => ⟨_, rfl, by simp⟩
  | 2, _ => ⟨_, rfl, by simp⟩
  | n + 3, h => absurd h (by omega)
theorem turn {cr : List Int} {cnt L : Nat} {ty du lo : List AV} {ε : Rε} {σ : List AO} {num : Int} {dg : List Nat} (S : LS cr cnt ty du lo L ε σ) (h5 : ε[5]? = some (some (.int num))) (hstr : ∀ σ, fStr [.int num] σ = some (.str dg, σ)) (hdg : dg.length ≤ 10)
    (hcr : cr.length ≤ 12) (hp : ∀ x ∈ cr, 0 ≤ x) (hcnt : cnt ≤ 10) (hty : ty.length ≤ 8) (hdu : du.length ≤ 8) (hlo : lo.length ≤ 8) :
    ∃ i s b ε' σ', i < 16 ∧ s ∈ [[], [32], [9], [32, 9, 32]] ∧ b ∈ [[], [9], [32, 32]] ∧ bodyL ε σ = some (.next, ε', σ') ∧ LS cr (cnt + 3) (ty ++ [.str (ln' s dg i)] ++ [.str b]) (du ++ [.fl (tk (lt i))]) (lo ++ lostD num (go i)) (σ.length + 3) ε' σ' ∧ σ'.length = σ.length + 4 := by
  have hlen : 5 < σ.length := Nat.lt_of_le_of_lt S.hL (lt_of_get S.sL)
  obtain ⟨i, hi, hsk1⟩ := skim (many := 16) (by decide) (by omega) S.s1 S.s2 hcr hp
  have S1 := st1 S.e1 hi hsk1
  generalize hε : ((ε.set 6 (some (.str (tx i)))).set 7 (some (.str (lt i)))).set 8 (some (go i)) = ε₁ at S1
  have eg : ∀ k : Nat, k < 6 → ε₁[k]? = ε[k]? := by
    intro k hk
    rw [← hε, List.getElem?_set_ne (by omega), List.getElem?_set_ne (by omega), List.getElem?_set_ne (by omega)]
  have e6 : ε₁[6]? = some (some (.str (tx i))) := by
    rw [← hε, List.getElem?_set_ne (by omega), List.getElem?_set_ne (by omega), List.getElem?_set_self (by rw [S.el]; decide)]
  have e7 : ε₁[7]? = some (some (.str (lt i))) := by
    rw [← hε, List.getElem?_set_ne (by omega), List.getElem?_set_self (by rw [List.length_set, S.el]; decide)]
  have e8 : ε₁[8]? = some (some (go i)) := by
    rw [← hε, List.getElem?_set_self (by rw [List.length_set, List.length_set, S.el]; decide)]
  have el : ε₁.length = 11 := by rw [← hε, List.length_set, List.length_set, List.length_set, S.el]
  generalize hσ₁ : σ.set 2 (.list [.ref 1, .int ((cnt + 1 : Nat) : Int)]) = σ₁ at S1 hsk1
  have l1 : σ₁.length = σ.length := by rw [← hσ₁, List.length_set]
  have a1 : σ₁[1]? = some (.list (cr.map .int)) := by rw [← hσ₁]; exact get_st S.s1 (by decide)
  have a2 : σ₁[2]? = some (.list [.ref 1, .int ((cnt + 1 : Nat) : Int)]) := by rw [← hσ₁]; exact setSelf (by omega)
  have a3 : σ₁[3]? = some (.list ty) := by rw [← hσ₁]; exact get_st S.s3 (by decide)
  have a4 : σ₁[4]? = some (.list du) := by rw [← hσ₁]; exact get_st S.s4 (by decide)
  have aL : σ₁[L]? = some (.list lo) := by rw [← hσ₁]; exact get_st S.sL (by have := S.hL; omega)
  -- the line
  obtain ⟨d, hd, hsk2⟩ := skim (σ := σ₁ ++ [AO.list blsA]) (many := 4) (by decide) (by omega) (get_ap a1) (get_ap a2) hcr hp
  obtain ⟨s, hds, hsm⟩ := bls_get d hd
  have hsl : s.length ≤ 10 := by
    simp only [List.mem_cons, List.not_mem_nil, or_false] at hsm
    rcases hsm with rfl | rfl | rfl | rfl <;> decide
  generalize hσ₂ : (σ₁ ++ [AO.list blsA]).set 2 (.list [.ref 1, .int ((cnt + 1 + 1 : Nat) : Int)]) = σ₂ at hsk2
  have l2 : σ₂.length = σ.length + 1 := by rw [← hσ₂, List.length_set, List.length_append, l1]; rfl
  have b1 : σ₂[1]? = some (.list (cr.map .int)) := by rw [← hσ₂]; exact get_st (get_ap a1) (by decide)
  have b2 : σ₂[2]? = some (.list [.ref 1, .int ((cnt + 1 + 1 : Nat) : Int)]) := by rw [← hσ₂]; exact setSelf (by rw [List.length_append, l1]; omega)
  have b3 : σ₂[3]? = some (.list ty) := by rw [← hσ₂]; exact get_st (get_ap a3) (by decide)
  have b4 : σ₂[4]? = some (.list du) := by rw [← hσ₂]; exact get_st (get_ap a4) (by decide)
  have bL : σ₂[L]? = some (.list lo) := by rw [← hσ₂]; exact get_st (get_ap aL) (by have := S.hL; omega)
  have bg : σ₂[σ₁.length]? = some (.list blsA) := by rw [← hσ₂]; exact get_st get_end (by omega)
  have S2 := st2 (num := num) ((eg 1 (by decide)).trans S.e1) ((eg 2 (by decide)).trans S.e2) ((eg 5 (by decide)).trans h5) e6 hstr hdg (tx_len i hi) a3 b3 (by omega) hsk2 bg hds hsl (by omega)
  generalize hσ₃ : σ₂.set 3 (.list (ty ++ [.str (s ++ dg ++ [32] ++ tx i)])) = σ₃ at S2
  have l3 : σ₃.length = σ.length + 1 := by rw [← hσ₃, List.length_set, l2]
  have c1 : σ₃[1]? = some (.list (cr.map .int)) := by rw [← hσ₃]; exact get_st b1 (by decide)
  have c2 : σ₃[2]? = some (.list [.ref 1, .int ((cnt + 1 + 1 : Nat) : Int)]) := by rw [← hσ₃]; exact get_st b2 (by decide)
  have c3 : σ₃[3]? = some (.list (ty ++ [.str (ln' s dg i)])) := by rw [← hσ₃]; exact setSelf (by omega)
  have c4 : σ₃[4]? = some (.list du) := by rw [← hσ₃]; exact get_st b4 (by decide)
  have cL : σ₃[L]? = some (.list lo) := by rw [← hσ₃]; exact get_st bL (by have := S.hL; omega)
  -- the row of blanks
  obtain ⟨d', hd', hsk3⟩ := skim (σ := σ₃ ++ [AO.list brsA]) (many := 3) (by decide) (by omega) (get_ap c1) (get_ap c2) hcr hp
  obtain ⟨b, hdb, hbm⟩ := brs_get d' hd'
  generalize hσ₄ : (σ₃ ++ [AO.list brsA]).set 2 (.list [.ref 1, .int ((cnt + 1 + 1 + 1 : Nat) : Int)]) = σ₄ at hsk3
  have l4 : σ₄.length = σ.length + 2 := by rw [← hσ₄, List.length_set, List.length_append, l3]; rfl
  have d1 : σ₄[1]? = some (.list (cr.map .int)) := by rw [← hσ₄]; exact get_st (get_ap c1) (by decide)
  have d2' : σ₄[2]? = some (.list [.ref 1, .int ((cnt + 1 + 1 + 1 : Nat) : Int)]) := by rw [← hσ₄]; exact setSelf (by rw [List.length_append, l3]; omega)
  have d3 : σ₄[3]? = some (.list (ty ++ [.str (ln' s dg i)])) := by rw [← hσ₄]; exact get_st (get_ap c3) (by decide)
  have d4 : σ₄[4]? = some (.list du) := by rw [← hσ₄]; exact get_st (get_ap c4) (by decide)
  have dL' : σ₄[L]? = some (.list lo) := by rw [← hσ₄]; exact get_st (get_ap cL) (by have := S.hL; omega)
  have dg' : σ₄[σ₃.length]? = some (.list brsA) := by rw [← hσ₄]; exact get_st get_end (by omega)
  have S3 := st3 ((eg 1 (by decide)).trans S.e1) ((eg 2 (by decide)).trans S.e2) c3 d3 (by simp; omega) hsk3 dg' hdb (by omega)
  generalize hσ₅ : σ₄.set 3 (.list (ty ++ [.str (ln' s dg i)] ++ [.str b])) = σ₅ at S3
  have l5 : σ₅.length = σ.length + 2 := by rw [← hσ₅, List.length_set, l4]
  have f1 : σ₅[1]? = some (.list (cr.map .int)) := by rw [← hσ₅]; exact get_st d1 (by decide)
  have f2 : σ₅[2]? = some (.list [.ref 1, .int ((cnt + 1 + 1 + 1 : Nat) : Int)]) := by rw [← hσ₅]; exact get_st d2' (by decide)
  have f3 : σ₅[3]? = some (.list (ty ++ [.str (ln' s dg i)] ++ [.str b])) := by rw [← hσ₅]; exact setSelf (by omega)
  have f4 : σ₅[4]? = some (.list du) := by rw [← hσ₅]; exact get_st d4 (by decide)
  have fL : σ₅[L]? = some (.list lo) := by rw [← hσ₅]; exact get_st dL' (by have := S.hL; omega)
  have S4 := st4 ((eg 3 (by decide)).trans S.e3) e7 (tk_lt i hi) f4 (by omega)
  generalize hσ₆ : σ₅.set 4 (.list (du ++ [.fl (tk (lt i))])) = σ₆ at S4
  have l6 : σ₆.length = σ.length + 2 := by rw [← hσ₆, List.length_set, l5]
  have g1 : σ₆[1]? = some (.list (cr.map .int)) := by rw [← hσ₆]; exact get_st f1 (by decide)
  have g2 : σ₆[2]? = some (.list [.ref 1, .int ((cnt + 1 + 1 + 1 : Nat) : Int)]) := by rw [← hσ₆]; exact get_st f2 (by decide)
  have g3 : σ₆[3]? = some (.list (ty ++ [.str (ln' s dg i)] ++ [.str b])) := by rw [← hσ₆]; exact get_st f3 (by decide)
  have g4 : σ₆[4]? = some (.list (du ++ [.fl (tk (lt i))])) := by rw [← hσ₆]; exact setSelf (by omega)
  have gL : σ₆[L]? = some (.list lo) := by rw [← hσ₆]; exact get_st fL (by have := S.hL; omega)
  have S5 := st5 (num := num) ((eg 4 (by decide)).trans S.e4) ((eg 5 (by decide)).trans h5) e8 (go_kind i hi) gL (by omega)
  refine ⟨i, s, b, ε₁.set 4 (some (.ref (σ₆.length + 1))), σ₆ ++ [AO.list (lostD num (go i))] ++ [AO.list (lo ++ lostD num (go i))], hi, hsm, hbm, ?_, ?_, ?_⟩
  · unfold bodyL
    rw [dSeq_next S1, dSeq_next S2, dSeq_next S3, dSeq_next S4, dSeq_next S5]
    rfl
  · refine ⟨?_, ?_, ?_, ?_, ?_, get_ap (get_ap g1), get_ap (get_ap g2), get_ap (get_ap g3), get_ap (get_ap g4), ?_, by omega⟩
    · rw [List.getElem?_set_ne (by decide)]; exact (eg 1 (by decide)).trans S.e1
    · rw [List.getElem?_set_ne (by decide)]; exact (eg 2 (by decide)).trans S.e2
    · rw [List.getElem?_set_ne (by decide)]; exact (eg 3 (by decide)).trans S.e3
    · rw [List.getElem?_set_self (by rw [el]; decide), l6]
    · rw [List.length_set, el]
    · have : σ.length + 3 = (σ₆ ++ [AO.list (lostD num (go i))]).length := by simp [l6]
      rw [this]
      exact get_end
  · simp [l6]
end Rn

namespace Rn
open PySem PySem.Spec PySem.Calls PyProof.Rows PySem.W

noncomputable abbrev S21 (x0 x1 x2 x3 x4 x5 x6 x7 x8 x9 x10 x11 x12 x13 x14 x15 x16 x17 : AO) (nums rows : List AV) : List AO := [x0, x1, x2, x3, x4, x5, x6, x7, x8, x9, x10, x11, x12, x13, x14, x15, x16, x17, .prog (.ref 19) (.ref 20), .list nums, .list rows]
theorem lit18 : ∀ {σ : List AO}, σ.length = 18 → ∃ x0 x1 x2 x3 x4 x5 x6 x7 x8 x9 x10 x11 x12 x13 x14 x15 x16 x17, σ = [x0, x1, x2, x3, x4, x5, x6, x7, x8, x9, x10, x11, x12, x13, x14, x15, x16, x17]
  | [x0, x1, x2, x3, x4, x5, x6, x7, x8, x9, x10, x11, x12, x13, x14, x15, x16, x17], _ => ⟨_, _, _, _, _, _, _, _, _, _, _, _, _, _, _, _, _, _, rfl⟩
theorem newP (x0 x1 x2 x3 x4 x5 x6 x7 x8 x9 x10 x11 x12 x13 x14 x15 x16 x17 : AO) : F_Program [] [x0, x1, x2, x3, x4, x5, x6, x7, x8, x9, x10, x11, x12, x13, x14, x15, x16, x17] = some (.obj 18, S21 x0 x1 x2 x3 x4 x5 x6 x7 x8 x9 x10 x11 x12 x13 x14 x15 x16 x17 [] []) := by kernel_rfl
theorem put10 (x0 x1 x2 x3 x4 x5 x6 x7 x8 x9 x10 x11 x12 x13 x14 x15 x16 x17 : AO) : ∀ row : List AV, 1 ≤ row.length → row.length ≤ 12 → F_put_line [.obj 18, .int 10, .fl row] (S21 x0 x1 x2 x3 x4 x5 x6 x7 x8 x9 x10 x11 x12 x13 x14 x15 x16 x17 [] []) = some (.none, S21 x0 x1 x2 x3 x4 x5 x6 x7 x8 x9 x10 x11 x12 x13 x14 x15 x16 x17 [.int 10] [.fl row])
  | [], h, _ => absurd h (by decide)
  | [t0], _, _ => by kernel_rfl
  | [t0, t1], _, _ => by kernel_rfl
  | [t0, t1, t2], _, _ => by kernel_rfl
  | [t0, t1, t2, t3], _, _ => by kernel_rfl
  | [t0, t1, t2, t3, t4], _, _ => by kernel_rfl
  | [t0, t1, t2, t3, t4, t5], _, _ => by kernel_rfl
  | [t0, t1, t2, t3, t4, t5, t6], _, _ => by kernel_rfl
  | [t0, t1, t2, t3, t4, t5, t6, t7], _, _ => by kernel_rfl
  | [t0, t1, t2, t3, t4, t5, t6, t7, t8], _, _ => by kernel_rfl
  | [t0, t1, t2, t3, t4, t5, t6, t7, t8, t9], _, _ => by kernel_rfl
  | [t0, t1, t2, t3, t4, t5, t6, t7, t8, t9, t10], _, _ => by kernel_rfl
  | [t0, t1, t2, t3, t4, t5, t6, t7, t8, t9, t10, t11], _, _ => by kernel_rfl
  | _ :: _ :: _ :: _ :: _ :: _ :: _ :: _ :: _ :: _ :: _ :: _ :: _ :: _, _, h => absurd h (by simp)
theorem put20 (x0 x1 x2 x3 x4 x5 x6 x7 x8 x9 x10 x11 x12 x13 x14 x15 x16 x17 : AO) (r1 : List AV) : ∀ row : List AV, 1 ≤ row.length → row.length ≤ 12 → F_put_line [.obj 18, .int 20, .fl row] (S21 x0 x1 x2 x3 x4 x5 x6 x7 x8 x9 x10 x11 x12 x13 x14 x15 x16 x17 [.int 10] [.fl r1]) = some (.none, S21 x0 x1 x2 x3 x4 x5 x6 x7 x8 x9 x10 x11 x12 x13 x14 x15 x16 x17 [.int 10, .int 20] [.fl r1, .fl row])
  | [], h, _ => absurd h (by decide)
  | [t0], _, _ => by kernel_rfl
  | [t0, t1], _, _ => by kernel_rfl
  | [t0, t1, t2], _, _ => by kernel_rfl
  | [t0, t1, t2, t3], _, _ => by kernel_rfl
  | [t0, t1, t2, t3, t4], _, _ => by kernel_rfl
  | [t0, t1, t2, t3, t4, t5], _, _ => by kernel_rfl
  | [t0, t1, t2, t3, t4, t5, t6], _, _ => by kernel_rfl
  | [t0, t1, t2, t3, t4, t5, t6, t7], _, _ => by kernel_rfl
  | [t0, t1, t2, t3, t4, t5, t6, t7, t8], _, _ => by kernel_rfl
  | [t0, t1, t2, t3, t4, t5, t6, t7, t8, t9], _, _ => by kernel_rfl
  | [t0, t1, t2, t3, t4, t5, t6, t7, t8, t9, t10], _, _ => by kernel_rfl
  | [t0, t1, t2, t3, t4, t5, t6, t7, t8, t9, t10, t11], _, _ => by kernel_rfl
  | _ :: _ :: _ :: _ :: _ :: _ :: _ :: _ :: _ :: _ :: _ :: _ :: _ :: _, _, h => absurd h (by simp)
theorem put30 (x0 x1 x2 x3 x4 x5 x6 x7 x8 x9 x10 x11 x12 x13 x14 x15 x16 x17 : AO) (r1 r2 : List AV) : ∀ row : List AV, 1 ≤ row.length → row.length ≤ 12 → F_put_line [.obj 18, .int 30, .fl row] (S21 x0 x1 x2 x3 x4 x5 x6 x7 x8 x9 x10 x11 x12 x13 x14 x15 x16 x17 [.int 10, .int 20] [.fl r1, .fl r2]) = some (.none, S21 x0 x1 x2 x3 x4 x5 x6 x7 x8 x9 x10 x11 x12 x13 x14 x15 x16 x17 [.int 10, .int 20, .int 30] [.fl r1, .fl r2, .fl row])
  | [], h, _ => absurd h (by decide)
  | [t0], _, _ => by kernel_rfl
  | [t0, t1], _, _ => by kernel_rfl
  | [t0, t1, t2], _, _ => by kernel_rfl
  | [t0, t1, t2, t3], _, _ => by kernel_rfl
  | [t0, t1, t2, t3, t4], _, _ => by kernel_rfl
  | [t0, t1, t2, t3, t4, t5], _, _ => by kernel_rfl
  | [t0, t1, t2, t3, t4, t5, t6], _, _ => by kernel_rfl
  | [t0, t1, t2, t3, t4, t5, t6, t7], _, _ => by kernel_rfl
  | [t0, t1, t2, t3, t4, t5, t6, t7, t8], _, _ => by kernel_rfl
  | [t0, t1, t2, t3, t4, t5, t6, t7, t8, t9], _, _ => by kernel_rfl
  | [t0, t1, t2, t3, t4, t5, t6, t7, t8, t9, t10], _, _ => by kernel_rfl
  | [t0, t1, t2, t3, t4, t5, t6, t7, t8, t9, t10, t11], _, _ => by kernel_rfl
  | _ :: _ :: _ :: _ :: _ :: _ :: _ :: _ :: _ :: _ :: _ :: _ :: _ :: _, _, h => absurd h (by simp)

noncomputable def seps : List (List Nat) := [[], [32], [9], [32, 9, 32]]
theorem all_mem {α : Type} {l : List α} {p : α → Bool} (h : l.all p = true) : ∀ x ∈ l, p x = true := List.all_eq_true.mp h
noncomputable def spB (num : Nat) (dg s : List Nat) (i : Nat) : Bool := match P_split_number [.str (ln' s dg i)] with
  | some (.tup [.int (.ofNat k), .str r]) => Nat.beq k num && natsEq r (32 :: tx i)
  | _ => false
theorem sp_of {num : Nat} {dg s : List Nat} {i : Nat} (h : spB num dg s i = true) : P_split_number [.str (ln' s dg i)] = some (.tup [.int num, .str (32 :: tx i)]) := by
  unfold spB at h
  split at h
  · rename_i k r hp
    rw [Bool.and_eq_true] at h
    rw [natsEq_eq] at h
    have h1 := Nat.eq_of_beq_eq_true h.1
    have h2 : r = 32 :: tx i := by simpa using h.2
    rw [hp, h1, h2]
    rfl
  · cases h
noncomputable def neB (dg s : List Nat) (i : Nat) : Bool := match (Txt.stripChars ⟨(ln' s dg i).toArray⟩ ⟨[32, 9].toArray⟩).cps.toList with
  | x :: r => okPd (PyData.str ⟨(x :: r).toArray⟩)
  | [] => false
noncomputable def lenB (i : Nat) : Bool := Nat.ble 1 (tkX i).length && Nat.ble (tkX i).length 12
theorem len_ok (i : Nat) (h : i < 16) : 1 ≤ (tk (32 :: tx i)).length ∧ (tk (32 :: tx i)).length ≤ 12 := by
  rw [tkX_eq i h]
  have := all_lt (n := 16) (p := lenB) (by kernel_rfl) i h
  unfold lenB at this
  rw [Bool.and_eq_true] at this
  exact ⟨Nat.le_of_ble_eq_true this.1, Nat.le_of_ble_eq_true this.2⟩
theorem sp10 {s : List Nat} (hs : s ∈ seps) {i : Nat} (h : i < 16) : P_split_number [.str (ln' s [49, 48] i)] = some (.tup [.int (10 : Nat), .str (32 :: tx i)]) := sp_of (all_lt (all_mem (l := seps) (p := fun s => (List.range 16).all fun i => spB 10 [49, 48] s i) (by kernel_rfl) s hs) i h)
theorem ne10 {s : List Nat} (hs : s ∈ seps) {i : Nat} (h : i < 16) : neB [49, 48] s i = true := all_lt (all_mem (l := seps) (p := fun s => (List.range 16).all fun i => neB [49, 48] s i) (by kernel_rfl) s hs) i h
theorem sp20 {s : List Nat} (hs : s ∈ seps) {i : Nat} (h : i < 16) : P_split_number [.str (ln' s [50, 48] i)] = some (.tup [.int (20 : Nat), .str (32 :: tx i)]) := sp_of (all_lt (all_mem (l := seps) (p := fun s => (List.range 16).all fun i => spB 20 [50, 48] s i) (by kernel_rfl) s hs) i h)
theorem ne20 {s : List Nat} (hs : s ∈ seps) {i : Nat} (h : i < 16) : neB [50, 48] s i = true := all_lt (all_mem (l := seps) (p := fun s => (List.range 16).all fun i => neB [50, 48] s i) (by kernel_rfl) s hs) i h
theorem sp30 {s : List Nat} (hs : s ∈ seps) {i : Nat} (h : i < 16) : P_split_number [.str (ln' s [51, 48] i)] = some (.tup [.int (30 : Nat), .str (32 :: tx i)]) := sp_of (all_lt (all_mem (l := seps) (p := fun s => (List.range 16).all fun i => spB 30 [51, 48] s i) (by kernel_rfl) s hs) i h)
theorem ne30 {s : List Nat} (hs : s ∈ seps) {i : Nat} (h : i < 16) : neB [51, 48] s i = true := all_lt (all_mem (l := seps) (p := fun s => (List.range 16).all fun i => neB [51, 48] s i) (by kernel_rfl) s hs) i h

theorem dAsT_eq {ts : List Tgt} {d : EDen} {ε ε' : Rε} {σ σ₁ σ₂ : List AO} {as : List AV} (h1 : d ε σ = some (.tup as, σ₁)) (h2 : dStoL ts as ε σ₁ = some (ε', σ₂)) (h3 : Nat.beq as.length ts.length = true) : dAsT false ts d ε σ = some (.next, ε', σ₂) := by
  unfold dAsT; rw [h1]; simp only [Bool.false_eq_true, if_false, h2, h3]
theorem dIfS_f {t : TDen} {a b : SDen} {ε : Rε} {σ σ₁ : List AO} {r : Option (AF × Rε × List AO)} (h : t ε σ = some (false, σ₁)) (hb : b ε σ₁ = r) : dIfS t a b ε σ = r := by unfold dIfS; rw [h]; exact hb
theorem dIfS_t {t : TDen} {a b : SDen} {ε : Rε} {σ σ₁ : List AO} {r : Option (AF × Rε × List AO)} (h : t ε σ = some (true, σ₁)) (hb : a ε σ₁ = r) : dIfS t a b ε σ = r := by unfold dIfS; rw [h]; exact hb
theorem dL3 {a b c : EDen} {ε : Rε} {σ σ₁ σ₂ σ₃ : List AO} {x y z : AV} (h1 : a ε σ = some (x, σ₁)) (h2 : b ε σ₁ = some (y, σ₂)) (h3 : c ε σ₂ = some (z, σ₃)) : dL [a, b, c] ε σ = some ([x, y, z], σ₃) := by
  unfold dL; rw [h1]; simp only [dL2 h2 h3]
theorem dCall3 {f : FL} {a b c : EDen} {ε : Rε} {σ σ₁ σ₂ σ₃ : List AO} {x y z : AV} {r : Option (AV × List AO)} (h1 : a ε σ = some (x, σ₁)) (h2 : b ε σ₁ = some (y, σ₂)) (h3 : c ε σ₂ = some (z, σ₃)) (h : f [x, y, z] σ₃ = r) : dCall f [a, b, c] ε σ = r := by
  unfold dCall; rw [dL3 h1 h2 h3]; exact h
/-- one line entered -/
theorem row_in {σ σ' : List AO} {line : List Nat} {num i : Nat} (hi : i < 16) (hs : P_split_number [.str line] = some (.tup [.int num, .str (32 :: tx i)])) (hp : F_put_line [.obj 18, .int num, .fl (tk (32 :: tx i))] σ = some (.none, σ')) :
    F_enter_row [.obj 18, .str line] σ = some (.none, σ') := by
  show (match D_enter_row [some (.obj 18), some (.str line), none, none] (σ ++ []) with | some (fl, _, σ') => some (retV fl, σ') | none => none) = _
  rw [List.append_nil]
  have e1 : dCall F_split_number [dN 1] [some (.obj 18), some (.str line), none, none] σ = some (.tup [.int num, .str (32 :: tx i)], σ) := by
    refine dCall1 (dN_eq (a := .str line) rfl) ?_
    show (match P_split_number [.str line] with | some r => some (r, σ) | none => none) = _
    rw [hs]
  have hD : D_enter_row [some (.obj 18), some (.str line), none, none] σ = some (.ret .none, [some (.obj 18), some (.str line), some (.int num), some (.str (32 :: tx i))], σ') := by
    unfold D_enter_row
    rw [dSeq_next (dAsT_eq e1 (ε' := [some (.obj 18), some (.str line), some (.int num), some (.str (32 :: tx i))]) rfl rfl)]
    rw [dSeq_next (dIfS_f (tV_eq (b := false) rfl) rfl)]
    rw [dSeq_next (dExp_eq (dCall3 (x := .obj 18) (y := .int num) rfl rfl (dCall1 (x := .str (32 :: tx i)) rfl (tokF (tk_tx i hi))) hp))]
    rfl
  rw [hD]
  rfl
noncomputable def bodyE : SDen := dSeq (dIfS (tAnd [tV (d2 fNe (dMeth okStr fStrip (dN 2) [dC gBLANKS]) (dC (.str []))), tV (d2 fIsNot (dCall F_enter_row [dN 0, dN 2]) (dC .none))]) (dNo) (dEnd)) (dEnd)
theorem ne_str {σ : List AO} {x : Nat} {r : List Nat} (h1 : okPd (PyData.str ⟨(x :: r).toArray⟩) = true) : fNe (.str (x :: r)) (.str []) σ = some (.bool true, σ) := by
  show (match pd σ (.str (x :: r)), pd σ (.str []) with
    | some d, some e => (match okPd d && okPd e with
      | true => some (AV.bool (!d.eqv e), σ)
      | false => none)
    | _, _ => none) = _
  have h0 : okPd (PyData.str ⟨[].toArray⟩) = true := by kernel_rfl
  have h2 : PyData.eqv (PyData.str ⟨(x :: r).toArray⟩) (PyData.str ⟨[].toArray⟩) = ((⟨(x :: r).toArray⟩ : Str) == ⟨[].toArray⟩) := by rw [PyData.eqv]
  have h3 : ∀ l : List Nat, pd σ (.str l) = some (PyData.str ⟨l.toArray⟩) := fun l => by kernel_rfl
  rw [h3, h3]
  simp only [h1, h0, Bool.and_self]
  rw [h2, str_beq]
  rfl
theorem line_in {σ σ' : List AO} {line T : List Nat} (hl : line.length ≤ 1000) (hne : ∃ x r, (Txt.stripChars ⟨line.toArray⟩ ⟨[32, 9].toArray⟩).cps.toList = x :: r ∧ okPd (PyData.str ⟨(x :: r).toArray⟩) = true) (hr : F_enter_row [.obj 18, .str line] σ = some (.none, σ')) :
    bodyE [some (.obj 18), some (.str T), some (.str line)] σ = some (.next, [some (.obj 18), some (.str T), some (.str line)], σ') := by
  obtain ⟨x, r, hx, hok⟩ := hne
  have e1 : dMeth okStr fStrip (dN 2) [dC gBLANKS] [some (.obj 18), some (.str T), some (.str line)] σ = some (.str (x :: r), σ) := by
    refine dMeth1 (x := .str line) (y := gBLANKS) rfl rfl rfl ?_
    show (match lim line.length with | true => some (AV.str (Txt.stripChars ⟨line.toArray⟩ ⟨[32, 9].toArray⟩).cps.toList, σ) | false => none) = _
    rw [limOk (by omega), hx]
  have e2 : tAnd [tV (d2 fNe (dMeth okStr fStrip (dN 2) [dC gBLANKS]) (dC (.str []))), tV (d2 fIsNot (dCall F_enter_row [dN 0, dN 2]) (dC .none))] [some (.obj 18), some (.str T), some (.str line)] σ = some (false, σ') := by
    unfold tAnd
    rw [tV_eq (b := true) (d2_eq e1 (y := .str []) rfl (ne_str hok))]
    simp only
    unfold tAnd
    rw [tV_eq (b := false) (d2_eq (dCall2 (x := .obj 18) (y := .str line) rfl rfl hr) (y := .none) rfl rfl)]
  unfold bodyE
  rw [dSeq_next (dIfS_f e2 rfl)]
  rfl
theorem blank_in {σ : List AO} {T b : List Nat} (hb : b ∈ [[], [9], [32, 32]]) : bodyE [some (.obj 18), some (.str T), some (.str b)] σ = some (.next, [some (.obj 18), some (.str T), some (.str b)], σ) := by
  simp only [List.mem_cons, List.not_mem_nil, or_false] at hb
  rcases hb with rfl | rfl | rfl <;> kernel_rfl
theorem ln_len {s dg : List Nat} {i : Nat} (hs : s ∈ seps) (hd : dg.length ≤ 10) (hi : i < 16) : (ln' s dg i).length ≤ 100 := by
  have := tx_len i hi
  have : s.length ≤ 3 := by
    simp only [seps, List.mem_cons, List.not_mem_nil, or_false] at hs
    rcases hs with rfl | rfl | rfl | rfl <;> decide
  simp only [ln', List.length_append, List.length_cons, List.length_nil]
  omega
theorem ne_of {dg s : List Nat} {i : Nat} (h : neB dg s i = true) : ∃ x r, (Txt.stripChars ⟨(ln' s dg i).toArray⟩ ⟨[32, 9].toArray⟩).cps.toList = x :: r ∧ okPd (PyData.str ⟨(x :: r).toArray⟩) = true := by
  unfold neB at h
  split at h
  · rename_i x r e; exact ⟨x, r, e, h⟩
  · cases h
theorem in10 (x0 x1 x2 x3 x4 x5 x6 x7 x8 x9 x10 x11 x12 x13 x14 x15 x16 x17 : AO) {T s : List Nat} {i : Nat} (hs : s ∈ seps) (hi : i < 16) : bodyE [some (.obj 18), some (.str T), some (.str (ln' s [49, 48] i))] (S21 x0 x1 x2 x3 x4 x5 x6 x7 x8 x9 x10 x11 x12 x13 x14 x15 x16 x17 [] []) = some (.next, [some (.obj 18), some (.str T), some (.str (ln' s [49, 48] i))], S21 x0 x1 x2 x3 x4 x5 x6 x7 x8 x9 x10 x11 x12 x13 x14 x15 x16 x17 [.int 10] [.fl (tk (32 :: tx i))]) :=
  line_in (by have := ln_len (dg := [49, 48]) hs (by decide) hi; omega) (ne_of (ne10 hs hi)) (row_in hi (sp10 hs hi) (put10 x0 x1 x2 x3 x4 x5 x6 x7 x8 x9 x10 x11 x12 x13 x14 x15 x16 x17  _ (len_ok i hi).1 (len_ok i hi).2))
theorem in20 (x0 x1 x2 x3 x4 x5 x6 x7 x8 x9 x10 x11 x12 x13 x14 x15 x16 x17 : AO) (r1 : List AV) {T s : List Nat} {i : Nat} (hs : s ∈ seps) (hi : i < 16) : bodyE [some (.obj 18), some (.str T), some (.str (ln' s [50, 48] i))] (S21 x0 x1 x2 x3 x4 x5 x6 x7 x8 x9 x10 x11 x12 x13 x14 x15 x16 x17 [.int 10] [.fl r1]) = some (.next, [some (.obj 18), some (.str T), some (.str (ln' s [50, 48] i))], S21 x0 x1 x2 x3 x4 x5 x6 x7 x8 x9 x10 x11 x12 x13 x14 x15 x16 x17 [.int 10, .int 20] [.fl r1, .fl (tk (32 :: tx i))]) :=
  line_in (by have := ln_len (dg := [50, 48]) hs (by decide) hi; omega) (ne_of (ne20 hs hi)) (row_in hi (sp20 hs hi) (put20 x0 x1 x2 x3 x4 x5 x6 x7 x8 x9 x10 x11 x12 x13 x14 x15 x16 x17 r1 _ (len_ok i hi).1 (len_ok i hi).2))
theorem in30 (x0 x1 x2 x3 x4 x5 x6 x7 x8 x9 x10 x11 x12 x13 x14 x15 x16 x17 : AO) (r1 r2 : List AV) {T s : List Nat} {i : Nat} (hs : s ∈ seps) (hi : i < 16) : bodyE [some (.obj 18), some (.str T), some (.str (ln' s [51, 48] i))] (S21 x0 x1 x2 x3 x4 x5 x6 x7 x8 x9 x10 x11 x12 x13 x14 x15 x16 x17 [.int 10, .int 20] [.fl r1, .fl r2]) = some (.next, [some (.obj 18), some (.str T), some (.str (ln' s [51, 48] i))], S21 x0 x1 x2 x3 x4 x5 x6 x7 x8 x9 x10 x11 x12 x13 x14 x15 x16 x17 [.int 10, .int 20, .int 30] [.fl r1, .fl r2, .fl (tk (32 :: tx i))]) :=
  line_in (by have := ln_len (dg := [51, 48]) hs (by decide) hi; omega) (ne_of (ne30 hs hi)) (row_in hi (sp30 hs hi) (put30 x0 x1 x2 x3 x4 x5 x6 x7 x8 x9 x10 x11 x12 x13 x14 x15 x16 x17 r1 r2 _ (len_ok i hi).1 (len_ok i hi).2))
end Rn

namespace Rn
open PySem PySem.Spec PySem.Calls PyProof.Rows PySem.W

theorem cut_eq {c : Nat} : ∀ {p q A B : List Nat}, c ∉ p → c ∉ q → p ++ c :: A = q ++ c :: B → p = q ∧ A = B
  | [], [], _, _, _, _, h => ⟨rfl, (List.cons.inj h).2⟩
  | [], y :: q, _, _, _, hq, h => by
    have := (List.cons.inj h).1
    exact absurd (this ▸ List.mem_cons_self ..) hq
  | x :: p, [], _, _, hp, _, h => by
    have := (List.cons.inj h).1
    exact absurd (this ▸ List.mem_cons_self ..) hp
  | x :: p, y :: q, _, _, hp, hq, h => by
    obtain ⟨h1, h2⟩ := List.cons.inj h
    obtain ⟨h3, h4⟩ := cut_eq (fun m => hp (List.mem_cons_of_mem _ m)) (fun m => hq (List.mem_cons_of_mem _ m)) h2
    exact ⟨by rw [h1, h3], h4⟩
theorem glue_inj {c : Nat} : ∀ (ps qs : List (List Nat)), ps ≠ [] → qs ≠ [] → (∀ p ∈ ps, c ∉ p) → (∀ q ∈ qs, c ∉ q) → glue [c] ps = glue [c] qs → ps = qs
  | [], _, h, _, _, _, _ => absurd rfl h
  | _, [], _, h, _, _, _ => absurd rfl h
  | [p], [q], _, _, _, _, h => by rw [show p = q from h]
  | [p], q :: q' :: qs, _, _, hp, _, h => by
    have h' : p = q ++ c :: glue [c] (q' :: qs) := h
    exact absurd (by rw [h']; simp) (hp p (List.mem_cons_self ..))
  | p :: p' :: ps, [q], _, _, _, hq, h => by
    have h' : p ++ c :: glue [c] (p' :: ps) = q := h
    exact absurd (by rw [← h']; simp) (hq q (List.mem_cons_self ..))
  | p :: p' :: ps, q :: q' :: qs, _, _, hp, hq, h => by
    have h' : p ++ c :: glue [c] (p' :: ps) = q ++ c :: glue [c] (q' :: qs) := h
    obtain ⟨h1, h2⟩ := cut_eq (hp p (List.mem_cons_self ..)) (hq q (List.mem_cons_self ..)) h'
    rw [h1, glue_inj (p' :: ps) (q' :: qs) (by simp) (by simp) (fun x hx => hp x (List.mem_cons_of_mem _ hx)) (fun x hx => hq x (List.mem_cons_of_mem _ hx)) h2]
theorem split_glue {ts : List (List Nat)} (hne : glue [10] ts ≠ []) (hf : ∀ t ∈ ts, 10 ∉ t) : (Txt.split ⟨(glue [10] ts).toArray⟩ ⟨#[10]⟩).map (fun p => AV.str p.cps.toList) = ts.map AV.str := by
  have hfree := StrLaws.split_free ⟨(glue [10] ts).toArray⟩ 10
  have hj := StrLaws.join_split ⟨(glue [10] ts).toArray⟩ ⟨#[10]⟩
  generalize hP : Txt.split ⟨(glue [10] ts).toArray⟩ ⟨#[10]⟩ = parts at hfree hj
  have e : parts = (parts.map fun p => p.cps.toList).map fun s => (⟨s.toArray⟩ : Str) := by
    rw [List.map_map]
    conv => lhs; rw [← List.map_id parts]
    apply List.map_congr_left
    intro p _
    obtain ⟨⟨l⟩⟩ := p
    rfl
  have hg : glue [10] (parts.map fun p => p.cps.toList) = glue [10] ts := by
    have := glue_eq [10] (parts.map fun p => p.cps.toList)
    rw [← e] at this
    have h2 : (⟨(glue [10] (parts.map fun p => p.cps.toList)).toArray⟩ : Str) = ⟨(glue [10] ts).toArray⟩ := this.symm.trans hj
    have h3 := congrArg (fun s : Str => s.cps.toList) h2
    simpa using h3
  have hts : ts ≠ [] := fun h => hne (by rw [h]; rfl)
  have hps : (parts.map fun p => p.cps.toList) ≠ [] := fun h => hne (by rw [← hg, h]; rfl)
  have := glue_inj _ _ hps hts (fun p hp => by
    obtain ⟨q, hq, rfl⟩ := List.mem_map.mp hp
    exact hfree q hq) hf hg
  rw [← this, List.map_map]
  rfl
theorem for_step {get : Nat → List AO → Option (Option AV)} {sto : Sto} {body : SDen} {f k : Nat} {ε ε₁ ε₂ : Rε} {σ σ₁ σ₂ : List AO} {x : AV} {r : Option (AF × Rε × List AO)} (h1 : get k σ = some (some x)) (h2 : sto x ε σ = some (ε₁, σ₁)) (h3 : body ε₁ σ₁ = some (.next, ε₂, σ₂))
    (h4 : dForL get sto body f (k + 1) ε₂ σ₂ = r) : dForL get sto body (f + 1) k ε σ = r := by
  unfold dForL; rw [h1]; simp only [h2, h3]; exact h4
theorem for_end {get : Nat → List AO → Option (Option AV)} {sto : Sto} {body : SDen} {f k : Nat} {ε : Rε} {σ : List AO} (h1 : get k σ = some none) : dForL get sto body (f + 1) k ε σ = some (.next, ε, σ) := by
  unfold dForL; rw [h1]
theorem cmp_step {get : Nat → List AO → Option (Option AV)} {sto : Sto} {de : EDen} {D f k : Nat} {ε ε₁ : Rε} {σ σ₁ σ₂ σ₃ : List AO} {x y : AV} {r : Option (List AO)} (h1 : get k σ = some (some x)) (h2 : sto x ε σ = some (ε₁, σ₁)) (h3 : de ε₁ σ₁ = some (y, σ₂)) (h4 : fAppend [.ref D, y] σ₂ = some (.none, σ₃))
    (h5 : dCmpL get sto none de D f (k + 1) ε₁ σ₃ = r) : dCmpL get sto none de D (f + 1) k ε σ = r := by
  unfold dCmpL; rw [h1]; simp only [h2, dTest, h3, h4]; exact h5
theorem cmp_end {get : Nat → List AO → Option (Option AV)} {sto : Sto} {de : EDen} {t : Option TDen} {D f k : Nat} {ε : Rε} {σ : List AO} (h1 : get k σ = some none) : dCmpL get sto t de D (f + 1) k ε σ = some σ := by
  unfold dCmpL; rw [h1]
noncomputable def freeB (s dg : List Nat) (i : Nat) : Bool := !(elem 10 (ln' s dg i))
theorem free_of {s dg : List Nat} {i : Nat} (h : freeB s dg i = true) : 10 ∉ ln' s dg i := by
  unfold freeB at h
  rw [elem_eq] at h
  simpa using h
theorem fr10 {s : List Nat} (hs : s ∈ seps) {i : Nat} (h : i < 16) : 10 ∉ ln' s [49, 48] i := free_of (all_lt (all_mem (l := seps) (p := fun s => (List.range 16).all fun i => freeB s [49, 48] i) (by kernel_rfl) s hs) i h)
theorem fr20 {s : List Nat} (hs : s ∈ seps) {i : Nat} (h : i < 16) : 10 ∉ ln' s [50, 48] i := free_of (all_lt (all_mem (l := seps) (p := fun s => (List.range 16).all fun i => freeB s [50, 48] i) (by kernel_rfl) s hs) i h)
theorem fr30 {s : List Nat} (hs : s ∈ seps) {i : Nat} (h : i < 16) : 10 ∉ ln' s [51, 48] i := free_of (all_lt (all_mem (l := seps) (p := fun s => (List.range 16).all fun i => freeB s [51, 48] i) (by kernel_rfl) s hs) i h)
theorem br_free {b : List Nat} (hb : b ∈ [[], [9], [32, 32]]) : 10 ∉ b := by
  simp only [List.mem_cons, List.not_mem_nil, or_false] at hb
  rcases hb with rfl | rfl | rfl <;> decide
theorem br_len {b : List Nat} (hb : b ∈ [[], [9], [32, 32]]) : b.length ≤ 2 := by
  simp only [List.mem_cons, List.not_mem_nil, or_false] at hb
  rcases hb with rfl | rfl | rfl <;> decide
noncomputable abbrev six (s1 b1 s2 b2 s3 b3 : List Nat) (i1 i2 i3 : Nat) : List (List Nat) := [ln' s1 [49, 48] i1, b1, ln' s2 [50, 48] i2, b2, ln' s3 [51, 48] i3, b3]
section
variable {s1 b1 s2 b2 s3 b3 : List Nat} {i1 i2 i3 : Nat} (h1 : i1 < 16) (h2 : i2 < 16) (h3 : i3 < 16) (g1 : s1 ∈ seps) (g2 : s2 ∈ seps) (g3 : s3 ∈ seps) (k1 : b1 ∈ [[], [9], [32, 32]]) (k2 : b2 ∈ [[], [9], [32, 32]]) (k3 : b3 ∈ [[], [9], [32, 32]])
include h1 h2 h3 g1 g2 g3 k1 k2 k3
theorem six_total : total (six s1 b1 s2 b2 s3 b3 i1 i2 i3) ≤ 1000 := by
  have a1 := ln_len (dg := [49, 48]) g1 (by decide) h1
  have a2 := ln_len (dg := [50, 48]) g2 (by decide) h2
  have a3 := ln_len (dg := [51, 48]) g3 (by decide) h3
  have c1 := br_len k1
  have c2 := br_len k2
  have c3 := br_len k3
  simp only [total]
  omega
theorem six_len : (glue [10] (six s1 b1 s2 b2 s3 b3 i1 i2 i3)).length ≤ 1000 := by
  have a1 := ln_len (dg := [49, 48]) g1 (by decide) h1
  have a2 := ln_len (dg := [50, 48]) g2 (by decide) h2
  have a3 := ln_len (dg := [51, 48]) g3 (by decide) h3
  have c1 := br_len k1
  have c2 := br_len k2
  have c3 := br_len k3
  simp only [glue, List.length_append, List.length_cons, List.length_nil]
  omega
theorem six_split : (Txt.split ⟨(glue [10] (six s1 b1 s2 b2 s3 b3 i1 i2 i3)).toArray⟩ ⟨#[10]⟩).map (fun p => AV.str p.cps.toList) = (six s1 b1 s2 b2 s3 b3 i1 i2 i3).map AV.str := by
  refine split_glue (by simp [glue]) fun t ht => ?_
  simp only [six, List.mem_cons, List.not_mem_nil, or_false] at ht
  rcases ht with rfl | rfl | rfl | rfl | rfl | rfl
  · exact fr10 g1 h1
  · exact br_free k1
  · exact fr20 g2 h2
  · exact br_free k2
  · exact fr30 g3 h3
  · exact br_free k3
theorem enter_ok (x0 x1 x2 x3 x4 x5 x6 x7 x8 x9 x10 x11 x12 x13 x14 x15 x16 x17 : AO) :
    F_enter_all [.obj 18, .str (glue [10] (six s1 b1 s2 b2 s3 b3 i1 i2 i3))] (S21 x0 x1 x2 x3 x4 x5 x6 x7 x8 x9 x10 x11 x12 x13 x14 x15 x16 x17 [] []) = some (.none, S21 x0 x1 x2 x3 x4 x5 x6 x7 x8 x9 x10 x11 x12 x13 x14 x15 x16 x17 [.int 10, .int 20, .int 30] [.fl (tk (32 :: tx i1)), .fl (tk (32 :: tx i2)), .fl (tk (32 :: tx i3))]) := by
  generalize hT : glue [10] (six s1 b1 s2 b2 s3 b3 i1 i2 i3) = T
  show (match D_enter_all [some (.obj 18), some (.str T), none] (S21 x0 x1 x2 x3 x4 x5 x6 x7 x8 x9 x10 x11 x12 x13 x14 x15 x16 x17 [] [] ++ []) with | some (fl, _, σ') => some (retV fl, σ') | none => none) = _
  rw [List.append_nil]
  have hsp : dMeth okStr fSplit (dN 1) [dC (.str [10])] [some (.obj 18), some (.str T), none] (S21 x0 x1 x2 x3 x4 x5 x6 x7 x8 x9 x10 x11 x12 x13 x14 x15 x16 x17 [] []) = some (.fl ((six s1 b1 s2 b2 s3 b3 i1 i2 i3).map AV.str), S21 x0 x1 x2 x3 x4 x5 x6 x7 x8 x9 x10 x11 x12 x13 x14 x15 x16 x17 [] []) := by
    refine dMeth1 (x := .str T) (y := .str [10]) rfl rfl rfl ?_
    show (match lim T.length with | true => some (AV.fl ((Txt.split ⟨T.toArray⟩ ⟨#[10]⟩).map fun p => AV.str (Str.cps p).toList), _) | false => none) = _
    rw [← hT, limOk (by have := six_len h1 h2 h3 g1 g2 g3 k1 k2 k3; omega), six_split h1 h2 h3 g1 g2 g3 k1 k2 k3]
  have hit : dIt (dMeth okStr fSplit (dN 1) [dC (.str [10])]) [some (.obj 18), some (.str T), none] (S21 x0 x1 x2 x3 x4 x5 x6 x7 x8 x9 x10 x11 x12 x13 x14 x15 x16 x17 [] []) = some (.vals ((six s1 b1 s2 b2 s3 b3 i1 i2 i3).map AV.str), S21 x0 x1 x2 x3 x4 x5 x6 x7 x8 x9 x10 x11 x12 x13 x14 x15 x16 x17 [] []) := by
    unfold dIt; rw [hsp]
  have hfor : dFor 200 (dIt (dMeth okStr fSplit (dN 1) [dC (.str [10])])) (dSto (2, false)) bodyE [some (.obj 18), some (.str T), none] (S21 x0 x1 x2 x3 x4 x5 x6 x7 x8 x9 x10 x11 x12 x13 x14 x15 x16 x17 [] []) = some (.next, [some (.obj 18), some (.str T), some (.str b3)], S21 x0 x1 x2 x3 x4 x5 x6 x7 x8 x9 x10 x11 x12 x13 x14 x15 x16 x17 [.int 10, .int 20, .int 30] [.fl (tk (32 :: tx i1)), .fl (tk (32 :: tx i2)), .fl (tk (32 :: tx i3))]) := by
    unfold dFor
    rw [hit]
    refine for_step (f := 199) rfl rfl (in10 x0 x1 x2 x3 x4 x5 x6 x7 x8 x9 x10 x11 x12 x13 x14 x15 x16 x17 g1 h1) ?_
    refine for_step (f := 198) rfl rfl (blank_in k1) ?_
    refine for_step (f := 197) rfl rfl (in20 x0 x1 x2 x3 x4 x5 x6 x7 x8 x9 x10 x11 x12 x13 x14 x15 x16 x17 _ g2 h2) ?_
    refine for_step (f := 196) rfl rfl (blank_in k2) ?_
    refine for_step (f := 195) rfl rfl (in30 x0 x1 x2 x3 x4 x5 x6 x7 x8 x9 x10 x11 x12 x13 x14 x15 x16 x17 _ _ g3 h3) ?_
    refine for_step (f := 194) rfl rfl (blank_in k3) ?_
    exact for_end (f := 193) rfl
  have hD : D_enter_all [some (.obj 18), some (.str T), none] (S21 x0 x1 x2 x3 x4 x5 x6 x7 x8 x9 x10 x11 x12 x13 x14 x15 x16 x17 [] []) = some (.next, [some (.obj 18), some (.str T), some (.str b3)], S21 x0 x1 x2 x3 x4 x5 x6 x7 x8 x9 x10 x11 x12 x13 x14 x15 x16 x17 [.int 10, .int 20, .int 30] [.fl (tk (32 :: tx i1)), .fl (tk (32 :: tx i2)), .fl (tk (32 :: tx i3))]) := by
    show dSeq (dFor 200 (dIt (dMeth okStr fSplit (dN 1) [dC (.str [10])])) (dSto (2, false)) bodyE) dEnd _ _ = _
    rw [dSeq_next hfor]
    rfl
  rw [hD]
  rfl
end
end Rn

namespace Rn
open PySem PySem.Spec PySem.Calls PyProof.Rows PySem.W

noncomputable def lostT (num : Int) : AV → List AV
  | .none => []
  | x => [.tup [.int num, x]]
noncomputable def numsA : List AV := [.int 10, .int 20, .int 30]
noncomputable def cmpT : EDen := dCmp 200 (dIt (dCall F_targets [dX 3])) (dSto (0, false)) (some (tNot (tV (dCall F_has_line [dX 2, d2 fIdx (d2 fIdx (dX 3) (dN 0)) (dC (.int 1))])))) (dTup [dX 1, d2 fIdx (d2 fIdx (dX 3) (dN 0)) (dC (.int 1))]) 1 [2, 0, 3]
noncomputable def bodyT : SDen := dSeq (dExp (dMeth okOwn fExtend (dN 1) [cmpT])) (dEnd)
noncomputable abbrev εT : Rε := [some (.ref 2), some (.ref 3), some (.ref 1), some (.ref 0)]
theorem ext_own {σ : List AO} {i j : Nat} {ys zs : List AV} (h : σ[i]? = some (.list ys)) (hz : σ[j]? = some (.list zs)) (hl : ys.length + zs.length ≤ 100000) : fExtend [.ref i, .ref j] σ = some (.none, σ.set i (.list (ys ++ zs))) := by
  unfold fExtend; simp only [h, items_own hz, limOk hl]
theorem dX_eq {i j : Nat} {ε : Rε} {σ : List AO} {a : AV} (h : ε[i]? = some (some (.ref j))) (hj : σ[j]? = some (.cell (some a))) : dX i ε σ = some (a, σ) := by unfold dX; rw [h]; simp only [hj]
theorem ct10l (R : AV) (fnd : List AV) : ∀ i : Nat, i < 16 → cmpT εT [.cell (some (.fl (tkX i))), .cell (some (.int 10)), .cell (some (.fo (.fl numsA) R)), .list fnd] = some (.ref 4, [.cell (some (.fl (tkX i))), .cell (some (.int 10)), .cell (some (.fo (.fl numsA) R)), .list fnd, .list (lostT 10 (go i))])
  | 0, _ => by kernel_rfl
  | 1, _ => by kernel_rfl
  | 2, _ => by kernel_rfl
  | 3, _ => by kernel_rfl
  | 4, _ => by kernel_rfl
  | 5, _ => by kernel_rfl
  | 6, _ => by kernel_rfl
  | 7, _ => by kernel_rfl
  | 8, _ => by kernel_rfl
  | 9, _ => by kernel_rfl
  | 10, _ => by kernel_rfl
  | 11, _ => by kernel_rfl
  | 12, _ => by kernel_rfl
  | 13, _ => by kernel_rfl
  | 14, _ => by kernel_rfl
  | 15, _ => by kernel_rfl
  | n + 16, h => absurd h (by omega)
theorem ct10 (R : AV) (fnd : List AV) (i : Nat) (h : i < 16) : cmpT εT [.cell (some (.fl (tk (32 :: tx i)))), .cell (some (.int 10)), .cell (some (.fo (.fl numsA) R)), .list fnd] = some (.ref 4, [.cell (some (.fl (tk (32 :: tx i)))), .cell (some (.int 10)), .cell (some (.fo (.fl numsA) R)), .list fnd, .list (lostT 10 (go i))]) := by rw [tkX_eq i h]; exact ct10l R fnd i h
theorem bt10 (R : AV) (fnd : List AV) (i : Nat) (h : i < 16) (hf : fnd.length ≤ 10) : bodyT εT [.cell (some (.fl (tk (32 :: tx i)))), .cell (some (.int 10)), .cell (some (.fo (.fl numsA) R)), .list fnd] = some (.next, εT, [.cell (some (.fl (tk (32 :: tx i)))), .cell (some (.int 10)), .cell (some (.fo (.fl numsA) R)), .list (fnd ++ lostT 10 (go i)), .list (lostT 10 (go i))]) := by
  have hl : (lostT 10 (go i)).length ≤ 1 := by rcases go_kind i h with e | ⟨k, e⟩ <;> rw [e] <;> simp [lostT]
  unfold bodyT
  rw [dSeq_next (dExp_eq (dMeth1 (x := .ref 3) rfl (own_ok (ys := fnd) rfl) (ct10 R fnd i h) (ext_own (i := 3) (ys := fnd) rfl (zs := lostT 10 (go i)) rfl (by omega))))]
  rfl
theorem ct20l (R : AV) (fnd : List AV) (a0 : AO) : ∀ i : Nat, i < 16 → cmpT εT [.cell (some (.fl (tkX i))), .cell (some (.int 20)), .cell (some (.fo (.fl numsA) R)), .list fnd, a0] = some (.ref 5, [.cell (some (.fl (tkX i))), .cell (some (.int 20)), .cell (some (.fo (.fl numsA) R)), .list fnd, a0, .list (lostT 20 (go i))])
  | 0, _ => by kernel_rfl
  | 1, _ => by kernel_rfl
  | 2, _ => by kernel_rfl
  | 3, _ => by kernel_rfl
  | 4, _ => by kernel_rfl
  | 5, _ => by kernel_rfl
  | 6, _ => by kernel_rfl
  | 7, _ => by kernel_rfl
  | 8, _ => by kernel_rfl
  | 9, _ => by kernel_rfl
  | 10, _ => by kernel_rfl
  | 11, _ => by kernel_rfl
  | 12, _ => by kernel_rfl
  | 13, _ => by kernel_rfl
  | 14, _ => by kernel_rfl
  | 15, _ => by kernel_rfl
  | n + 16, h => absurd h (by omega)
theorem ct20 (R : AV) (fnd : List AV) (a0 : AO) (i : Nat) (h : i < 16) : cmpT εT [.cell (some (.fl (tk (32 :: tx i)))), .cell (some (.int 20)), .cell (some (.fo (.fl numsA) R)), .list fnd, a0] = some (.ref 5, [.cell (some (.fl (tk (32 :: tx i)))), .cell (some (.int 20)), .cell (some (.fo (.fl numsA) R)), .list fnd, a0, .list (lostT 20 (go i))]) := by rw [tkX_eq i h]; exact ct20l R fnd a0 i h
theorem bt20 (R : AV) (fnd : List AV) (a0 : AO) (i : Nat) (h : i < 16) (hf : fnd.length ≤ 10) : bodyT εT [.cell (some (.fl (tk (32 :: tx i)))), .cell (some (.int 20)), .cell (some (.fo (.fl numsA) R)), .list fnd, a0] = some (.next, εT, [.cell (some (.fl (tk (32 :: tx i)))), .cell (some (.int 20)), .cell (some (.fo (.fl numsA) R)), .list (fnd ++ lostT 20 (go i)), a0, .list (lostT 20 (go i))]) := by
  have hl : (lostT 20 (go i)).length ≤ 1 := by rcases go_kind i h with e | ⟨k, e⟩ <;> rw [e] <;> simp [lostT]
  unfold bodyT
  rw [dSeq_next (dExp_eq (dMeth1 (x := .ref 3) rfl (own_ok (ys := fnd) rfl) (ct20 R fnd a0 i h) (ext_own (i := 3) (ys := fnd) rfl (zs := lostT 20 (go i)) rfl (by omega))))]
  rfl
theorem ct30l (R : AV) (fnd : List AV) (a0 a1 : AO) : ∀ i : Nat, i < 16 → cmpT εT [.cell (some (.fl (tkX i))), .cell (some (.int 30)), .cell (some (.fo (.fl numsA) R)), .list fnd, a0, a1] = some (.ref 6, [.cell (some (.fl (tkX i))), .cell (some (.int 30)), .cell (some (.fo (.fl numsA) R)), .list fnd, a0, a1, .list (lostT 30 (go i))])
  | 0, _ => by kernel_rfl
  | 1, _ => by kernel_rfl
  | 2, _ => by kernel_rfl
  | 3, _ => by kernel_rfl
  | 4, _ => by kernel_rfl
  | 5, _ => by kernel_rfl
  | 6, _ => by kernel_rfl
  | 7, _ => by kernel_rfl
  | 8, _ => by kernel_rfl
  | 9, _ => by kernel_rfl
  | 10, _ => by kernel_rfl
  | 11, _ => by kernel_rfl
  | 12, _ => by kernel_rfl
  | 13, _ => by kernel_rfl
  | 14, _ => by kernel_rfl
  | 15, _ => by kernel_rfl
  | n + 16, h => absurd h (by omega)
theorem ct30 (R : AV) (fnd : List AV) (a0 a1 : AO) (i : Nat) (h : i < 16) : cmpT εT [.cell (some (.fl (tk (32 :: tx i)))), .cell (some (.int 30)), .cell (some (.fo (.fl numsA) R)), .list fnd, a0, a1] = some (.ref 6, [.cell (some (.fl (tk (32 :: tx i)))), .cell (some (.int 30)), .cell (some (.fo (.fl numsA) R)), .list fnd, a0, a1, .list (lostT 30 (go i))]) := by rw [tkX_eq i h]; exact ct30l R fnd a0 a1 i h
theorem bt30 (R : AV) (fnd : List AV) (a0 a1 : AO) (i : Nat) (h : i < 16) (hf : fnd.length ≤ 10) : bodyT εT [.cell (some (.fl (tk (32 :: tx i)))), .cell (some (.int 30)), .cell (some (.fo (.fl numsA) R)), .list fnd, a0, a1] = some (.next, εT, [.cell (some (.fl (tk (32 :: tx i)))), .cell (some (.int 30)), .cell (some (.fo (.fl numsA) R)), .list (fnd ++ lostT 30 (go i)), a0, a1, .list (lostT 30 (go i))]) := by
  have hl : (lostT 30 (go i)).length ≤ 1 := by rcases go_kind i h with e | ⟨k, e⟩ <;> rw [e] <;> simp [lostT]
  unfold bodyT
  rw [dSeq_next (dExp_eq (dMeth1 (x := .ref 3) rfl (own_ok (ys := fnd) rfl) (ct30 R fnd a0 a1 i h) (ext_own (i := 3) (ys := fnd) rfl (zs := lostT 30 (go i)) rfl (by omega))))]
  rfl
theorem lostT_len {num : Int} (i : Nat) (h : i < 16) : (lostT num (go i)).length ≤ 1 := by rcases go_kind i h with e | ⟨k, e⟩ <;> rw [e] <;> simp [lostT]
theorem lostT_pl {num : Int} (i : Nat) (h : i < 16) : pls (lostT num (go i)) = true := by rcases go_kind i h with e | ⟨k, e⟩ <;> rw [e] <;> rfl
theorem pls_app : ∀ {a b : List AV}, pls a = true → pls b = true → pls (a ++ b) = true
  | [], _, _, hb => hb
  | x :: a, b, ha, hb => by
    simp only [pls] at ha
    split at ha
    · rename_i e
      simp only [List.cons_append, pls, e]
      exact pls_app ha hb
    · cases ha
noncomputable abbrev lost3 (i1 i2 i3 : Nat) : List AV := lostT 10 (go i1) ++ lostT 20 (go i2) ++ lostT 30 (go i3)
theorem lost_ok {i1 i2 i3 : Nat} (h1 : i1 < 16) (h2 : i2 < 16) (h3 : i3 < 16) :
    P_lost_targets [.fo (.fl numsA) (.fl [.fl (tk (32 :: tx i1)), .fl (tk (32 :: tx i2)), .fl (tk (32 :: tx i3))])] = some (.fl (lost3 i1 i2 i3)) := by
  generalize hR : AV.fl [.fl (tk (32 :: tx i1)), .fl (tk (32 :: tx i2)), .fl (tk (32 :: tx i3))] = R
  show (match D_lost_targets [some (.ref 2), none, some (.ref 1), some (.ref 0)] [.cell none, .cell none, .cell (some (.fo (.fl numsA) R))] with | some (fl, _, σ') => th σ' (retV fl) | none => none) = _
  have s1 : dAsg (1, false) (dLst []) [some (.ref 2), none, some (.ref 1), some (.ref 0)] [.cell none, .cell none, .cell (some (.fo (.fl numsA) R))] = some (.next, εT, [.cell none, .cell none, .cell (some (.fo (.fl numsA) R)), .list []]) := rfl
  have hz : dZip (dAttr false (dX 0)) (dAttr true (dX 0)) εT [.cell none, .cell none, .cell (some (.fo (.fl numsA) R)), .list []] = some (.zip (.fl numsA) R, [.cell none, .cell none, .cell (some (.fo (.fl numsA) R)), .list []]) := by
    subst hR; rfl
  have L1 := lostT_len (num := 10) i1 h1
  have L2 := lostT_len (num := 20) i2 h2
  have hfor : dFor 200 (dZip (dAttr false (dX 0)) (dAttr true (dX 0))) (dStoTup [(2, true), (3, true)]) bodyT εT [.cell none, .cell none, .cell (some (.fo (.fl numsA) R)), .list []] = some (.next, εT, [.cell (some (.fl (tk (32 :: tx i3)))), .cell (some (.int 30)), .cell (some (.fo (.fl numsA) R)), .list ([] ++ lostT 10 (go i1) ++ lostT 20 (go i2) ++ lostT 30 (go i3)), .list (lostT 10 (go i1)), .list (lostT 20 (go i2)), .list (lostT 30 (go i3))]) := by
    unfold dFor
    rw [hz]
    refine for_step (f := 199) (x := .tup [.int 10, .fl (tk (32 :: tx i1))]) (by subst hR; rfl) rfl (bt10 R [] i1 h1 (by decide)) ?_
    refine for_step (f := 198) (x := .tup [.int 20, .fl (tk (32 :: tx i2))]) (by subst hR; rfl) rfl (bt20 R _ _ i2 h2 (by simp; omega)) ?_
    refine for_step (f := 197) (x := .tup [.int 30, .fl (tk (32 :: tx i3))]) (by subst hR; rfl) rfl (bt30 R _ _ _ i3 h3 (by simp; omega)) ?_
    exact for_end (f := 196) (by subst hR; rfl)
  have hD : D_lost_targets [some (.ref 2), none, some (.ref 1), some (.ref 0)] [.cell none, .cell none, .cell (some (.fo (.fl numsA) R))] = some (.ret (.ref 3), εT, [.cell (some (.fl (tk (32 :: tx i3)))), .cell (some (.int 30)), .cell (some (.fo (.fl numsA) R)), .list ([] ++ lostT 10 (go i1) ++ lostT 20 (go i2) ++ lostT 30 (go i3)), .list (lostT 10 (go i1)), .list (lostT 20 (go i2)), .list (lostT 30 (go i3))]) := by
    show dSeq (dAsg (1, false) (dLst [])) (dSeq (dFor 200 (dZip (dAttr false (dX 0)) (dAttr true (dX 0))) (dStoTup [(2, true), (3, true)]) bodyT) (dSeq (dRet (dN 1)) (dEnd))) _ _ = _
    rw [dSeq_next s1, dSeq_next hfor]
    rfl
  rw [hD]
  have hp : pls (lost3 i1 i2 i3) = true := pls_app (pls_app (lostT_pl i1 h1) (lostT_pl i2 h2)) (lostT_pl i3 h3)
  show (match pls ([] ++ lostT 10 (go i1) ++ lostT 20 (go i2) ++ lostT 30 (go i3)) with | true => some (AV.fl ([] ++ lostT 10 (go i1) ++ lostT 20 (go i2) ++ lostT 30 (go i3))) | false => none) = _
  rw [List.nil_append, hp]
end Rn


namespace Rn
open PySem PySem.Spec PySem.Calls PyProof.Rows PySem.W

theorem lostF {i1 i2 i3 : Nat} (h1 : i1 < 16) (h2 : i2 < 16) (h3 : i3 < 16) {σ : List AO} (hp : σ[18]? = some (.prog (.ref 19) (.ref 20))) (hn : σ[19]? = some (.list numsA)) (hr : σ[20]? = some (.list [.fl (tk (32 :: tx i1)), .fl (tk (32 :: tx i2)), .fl (tk (32 :: tx i3))])) :
    F_lost_targets [.obj 18] σ = some (.fl (lost3 i1 i2 i3), σ) := by
  have a1 : fzL σ (.ref 19) = some (.fl numsA) := by
    show (match σ[19]? with
      | some (.list ys) => (match nrs ys with
        | true => some (AV.fl ys)
        | false => none)
      | some (.dict es) => (match nrd es with
        | true => some (.fd es)
        | false => none)
      | _ => none) = _
    rw [hn]; rfl
  have a2 : fzL σ (.ref 20) = some (.fl [.fl (tk (32 :: tx i1)), .fl (tk (32 :: tx i2)), .fl (tk (32 :: tx i3))]) := by
    show (match σ[20]? with
      | some (.list ys) => (match nrs ys with
        | true => some (AV.fl ys)
        | false => none)
      | some (.dict es) => (match nrd es with
        | true => some (.fd es)
        | false => none)
      | _ => none) = _
    rw [hr]; rfl
  have a3 : fzs σ [.obj 18] = some [.fo (.fl numsA) (.fl [.fl (tk (32 :: tx i1)), .fl (tk (32 :: tx i2)), .fl (tk (32 :: tx i3))])] := by
    have : fz σ (.obj 18) = some (.fo (.fl numsA) (.fl [.fl (tk (32 :: tx i1)), .fl (tk (32 :: tx i2)), .fl (tk (32 :: tx i3))])) := by
      show (match σ[18]? with
        | some (.prog a b) => (match fzL σ a with
          | some a' => (match fzL σ b with
            | some b' => some (AV.fo a' b')
            | none => none)
          | none => none)
        | _ => none) = _
      rw [hp]
      simp only [a1, a2]
    unfold fzs
    rw [this]
    rfl
  unfold F_lost_targets fPure
  rw [a3]
  simp only [lost_ok h1 h2 h3]
theorem ledF {i j : Nat} (h : i < 16) {σ : List AO} (hd : σ[j]? = some (.dict wysA)) : F_led_row [.fl (tk (32 :: tx i)), .ref j] σ = some (.fl (tk (lt i)), σ) := by
  have a1 : fz σ (.ref j) = some (.fd wysA) := by
    show (match σ[j]? with
      | some (.list ys) => (match nrs ys with
        | true => some (AV.fl ys)
        | false => none)
      | some (.dict es) => (match nrd es with
        | true => some (.fd es)
        | false => none)
      | _ => none) = _
    rw [hd]; rfl
  have a3 : fzs σ [.fl (tk (32 :: tx i)), .ref j] = some [.fl (tk (32 :: tx i)), .fd wysA] := by
    have e : fz σ (.fl (tk (32 :: tx i))) = some (.fl (tk (32 :: tx i))) := rfl
    unfold fzs
    rw [e]
    simp only
    unfold fzs
    rw [a1]
    rfl
  unfold F_led_row fPure
  rw [a3]
  simp only [led_ok i h]
noncomputable abbrev lostR (i1 i2 i3 : Nat) : List AV := [] ++ lostD 10 (go i1) ++ lostD 20 (go i2) ++ lostD 30 (go i3)
noncomputable def elt1 : EDen := dTup [d2 fIdx (dX 2) (dN 0), dN 1]
/-- the way of the lost through the new numbers -/
theorem lostC (PRE : List AO → List AO) : True := trivial
end Rn

namespace Rn
open PySem PySem.Spec PySem.Calls PyProof.Rows PySem.W

noncomputable def newsA : List AV := [.int 100, .int 110, .int 120]
theorem dSetA_eq {r : Bool} {dv dO : EDen} {ε : Rε} {σ σ₁ σ₂ σ₃ : List AO} {v o : AV} (h1 : dv ε σ = some (v, σ₁)) (h2 : dO ε σ₁ = some (o, σ₂)) (h3 : fSetA r o v σ₂ = some σ₃) : dSetA r dv dO ε σ = some (.next, ε, σ₃) := by
  unfold dSetA; rw [h1]; simp only [h2, h3]
theorem dCmp_eq {fuel nl : Nat} {dI : IDen} {sto : Sto} {t : Option TDen} {de : EDen} {fr : List Nat} {ε : Rε} {σ σ₁ σ' : List AO} {G : Itr} {es : List (Option AV)} (h1 : dI ε σ = some (G, σ₁)) (h2 : pick fr ε = some es) (h3 : dCmpL G.get sto t de σ₁.length fuel 0 (nones nl ++ es) (σ₁ ++ [AO.list []]) = some σ') :
    dCmp fuel dI sto t de nl fr ε σ = some (.ref σ₁.length, σ') := by
  unfold dCmp; rw [h1]; simp only [h2, h3]
noncomputable def s1R : SDen := dAsT false [(4, false), (5, true)] (dTup [dCall F_new_numbers [dN 0, dN 1, dN 2, dN 3], dDic])
noncomputable def s2R : SDen := dFor 200 (dZip (dAttr false (dN 0)) (dN 4)) (dStoTup [(6, false), (7, false)]) (dSeq (dSetI (dN 7) (dX 5) (dN 6)) (dEnd))
noncomputable def c3R : EDen := dCmp 200 (dIt (dCall F_lost_targets [dN 0])) (dStoTup [(0, false), (1, false)]) none elt1 2 [5]
noncomputable def c4R : EDen := dCmp 200 (dIt (dAttr true (dN 0))) (dSto (0, false)) none (dCall F_led_row [dN 0, dX 1]) 1 [5]
noncomputable def s56R : SDen := dSeq (dSetA false (dN 4) (dN 0)) (dSeq (dRet (dN 8)) (dEnd))
theorem renum_shape : D_renumber = dSeq s1R (dSeq s2R (dSeq (dAsg (8, false) c3R) (dSeq (dSetA true c4R (dN 0)) s56R))) := rfl
noncomputable abbrev ε0R : Rε := [some (.obj 18), some (.int 100), some (.int 0), some (.int 10), none, some (.ref 22), none, none, none]
noncomputable abbrev ε1R : Rε := [some (.obj 18), some (.int 100), some (.int 0), some (.int 10), some (.fl newsA), some (.ref 22), none, none, none]
noncomputable abbrev ε2R : Rε := [some (.obj 18), some (.int 100), some (.int 0), some (.int 10), some (.fl newsA), some (.ref 22), some (.int 30), some (.int 120), none]
noncomputable abbrev ε3R : Rε := [some (.obj 18), some (.int 100), some (.int 0), some (.int 10), some (.fl newsA), some (.ref 22), some (.int 30), some (.int 120), some (.ref 24)]
theorem s1_ok (x0 x1 x2 x3 x4 x5 x6 x7 x8 x9 x10 x11 x12 x13 x14 x15 x16 x17 : AO) (r1 r2 r3 : List AV) : s1R ε0R ([x0, x1, x2, x3, x4, x5, x6, x7, x8, x9, x10, x11, x12, x13, x14, x15, x16, x17, .prog (.ref 19) (.ref 20), .list numsA, .list [.fl r1, .fl r2, .fl r3], .list numsA, .cell none]) = some (.next, ε1R, [x0, x1, x2, x3, x4, x5, x6, x7, x8, x9, x10, x11, x12, x13, x14, x15, x16, x17, .prog (.ref 19) (.ref 20), .list numsA, .list [.fl r1, .fl r2, .fl r3], .list numsA, .cell (some (.ref 23)), .dict []]) := by kernel_rfl
theorem s2_ok (x0 x1 x2 x3 x4 x5 x6 x7 x8 x9 x10 x11 x12 x13 x14 x15 x16 x17 : AO) (r1 r2 r3 : List AV) : s2R ε1R ([x0, x1, x2, x3, x4, x5, x6, x7, x8, x9, x10, x11, x12, x13, x14, x15, x16, x17, .prog (.ref 19) (.ref 20), .list numsA, .list [.fl r1, .fl r2, .fl r3], .list numsA, .cell (some (.ref 23)), .dict []]) = some (.next, ε2R, [x0, x1, x2, x3, x4, x5, x6, x7, x8, x9, x10, x11, x12, x13, x14, x15, x16, x17, .prog (.ref 19) (.ref 20), .list numsA, .list [.fl r1, .fl r2, .fl r3], .list numsA, .cell (some (.ref 23)), .dict wysA]) := by kernel_rfl
theorem c3_run (x0 x1 x2 x3 x4 x5 x6 x7 x8 x9 x10 x11 x12 x13 x14 x15 x16 x17 : AO) (r1 r2 r3 : List AV) {g1 g2 g3 : AV} (h1 : g1 = .none ∨ ∃ k, g1 = .int k) (h2 : g2 = .none ∨ ∃ k, g2 = .int k) (h3 : g3 = .none ∨ ∃ k, g3 = .int k) :
    dCmpL (Itr.vals (lostT 10 g1 ++ lostT 20 g2 ++ lostT 30 g3)).get (dStoTup [(0, false), (1, false)]) none elt1 24 200 0 [none, none, some (.ref 22)] ([x0, x1, x2, x3, x4, x5, x6, x7, x8, x9, x10, x11, x12, x13, x14, x15, x16, x17, .prog (.ref 19) (.ref 20), .list numsA, .list [.fl r1, .fl r2, .fl r3], .list numsA, .cell (some (.ref 23)), .dict wysA, .list []]) = some ([x0, x1, x2, x3, x4, x5, x6, x7, x8, x9, x10, x11, x12, x13, x14, x15, x16, x17, .prog (.ref 19) (.ref 20), .list numsA, .list [.fl r1, .fl r2, .fl r3], .list numsA, .cell (some (.ref 23)), .dict wysA, .list ([] ++ lostD 10 g1 ++ lostD 20 g2 ++ lostD 30 g3)]) := by
  rcases h1 with rfl | ⟨k1, rfl⟩ <;> rcases h2 with rfl | ⟨k2, rfl⟩ <;> rcases h3 with rfl | ⟨k3, rfl⟩ <;> kernel_rfl
theorem s56_ok (x0 x1 x2 x3 x4 x5 x6 x7 x8 x9 x10 x11 x12 x13 x14 x15 x16 x17 : AO) (r1 r2 r3 rs lo : List AV) : s56R ε3R ([x0, x1, x2, x3, x4, x5, x6, x7, x8, x9, x10, x11, x12, x13, x14, x15, x16, x17, .prog (.ref 19) (.ref 25), .list numsA, .list [.fl r1, .fl r2, .fl r3], .list numsA, .cell (some (.ref 23)), .dict wysA, .list lo, .list rs]) = some (.ret (.ref 24), ε3R, [x0, x1, x2, x3, x4, x5, x6, x7, x8, x9, x10, x11, x12, x13, x14, x15, x16, x17, .prog (.fl newsA) (.ref 25), .list numsA, .list [.fl r1, .fl r2, .fl r3], .list numsA, .cell (some (.ref 23)), .dict wysA, .list lo, .list rs]) := by kernel_rfl
theorem renum_ok (x0 x1 x2 x3 x4 x5 x6 x7 x8 x9 x10 x11 x12 x13 x14 x15 x16 x17 : AO) {i1 i2 i3 : Nat} (h1 : i1 < 16) (h2 : i2 < 16) (h3 : i3 < 16) :
    F_renumber [.obj 18, .int 100, .int 0, .int 10] ([x0, x1, x2, x3, x4, x5, x6, x7, x8, x9, x10, x11, x12, x13, x14, x15, x16, x17, .prog (.ref 19) (.ref 20), .list numsA, .list [.fl (tk (32 :: tx i1)), .fl (tk (32 :: tx i2)), .fl (tk (32 :: tx i3))], .list numsA]) = some (.ref 24, [x0, x1, x2, x3, x4, x5, x6, x7, x8, x9, x10, x11, x12, x13, x14, x15, x16, x17, .prog (.fl newsA) (.ref 25), .list numsA, .list [.fl (tk (32 :: tx i1)), .fl (tk (32 :: tx i2)), .fl (tk (32 :: tx i3))], .list numsA, .cell (some (.ref 23)), .dict wysA, .list (lostR i1 i2 i3), .list [.fl (tk (lt i1)), .fl (tk (lt i2)), .fl (tk (lt i3))]]) := by
  have p1 := s1_ok x0 x1 x2 x3 x4 x5 x6 x7 x8 x9 x10 x11 x12 x13 x14 x15 x16 x17 (tk (32 :: tx i1)) (tk (32 :: tx i2)) (tk (32 :: tx i3))
  have p2 := s2_ok x0 x1 x2 x3 x4 x5 x6 x7 x8 x9 x10 x11 x12 x13 x14 x15 x16 x17 (tk (32 :: tx i1)) (tk (32 :: tx i2)) (tk (32 :: tx i3))
  have p3 : dAsg (8, false) c3R ε2R ([x0, x1, x2, x3, x4, x5, x6, x7, x8, x9, x10, x11, x12, x13, x14, x15, x16, x17, .prog (.ref 19) (.ref 20), .list numsA, .list [.fl (tk (32 :: tx i1)), .fl (tk (32 :: tx i2)), .fl (tk (32 :: tx i3))], .list numsA, .cell (some (.ref 23)), .dict wysA]) = some (.next, ε3R, [x0, x1, x2, x3, x4, x5, x6, x7, x8, x9, x10, x11, x12, x13, x14, x15, x16, x17, .prog (.ref 19) (.ref 20), .list numsA, .list [.fl (tk (32 :: tx i1)), .fl (tk (32 :: tx i2)), .fl (tk (32 :: tx i3))], .list numsA, .cell (some (.ref 23)), .dict wysA, .list (lostR i1 i2 i3)]) := by
    have hit : dIt (dCall F_lost_targets [dN 0]) ε2R ([x0, x1, x2, x3, x4, x5, x6, x7, x8, x9, x10, x11, x12, x13, x14, x15, x16, x17, .prog (.ref 19) (.ref 20), .list numsA, .list [.fl (tk (32 :: tx i1)), .fl (tk (32 :: tx i2)), .fl (tk (32 :: tx i3))], .list numsA, .cell (some (.ref 23)), .dict wysA]) = some (.vals (lost3 i1 i2 i3), [x0, x1, x2, x3, x4, x5, x6, x7, x8, x9, x10, x11, x12, x13, x14, x15, x16, x17, .prog (.ref 19) (.ref 20), .list numsA, .list [.fl (tk (32 :: tx i1)), .fl (tk (32 :: tx i2)), .fl (tk (32 :: tx i3))], .list numsA, .cell (some (.ref 23)), .dict wysA]) := by
      have e : dCall F_lost_targets [dN 0] ε2R ([x0, x1, x2, x3, x4, x5, x6, x7, x8, x9, x10, x11, x12, x13, x14, x15, x16, x17, .prog (.ref 19) (.ref 20), .list numsA, .list [.fl (tk (32 :: tx i1)), .fl (tk (32 :: tx i2)), .fl (tk (32 :: tx i3))], .list numsA, .cell (some (.ref 23)), .dict wysA]) = some (.fl (lost3 i1 i2 i3), [x0, x1, x2, x3, x4, x5, x6, x7, x8, x9, x10, x11, x12, x13, x14, x15, x16, x17, .prog (.ref 19) (.ref 20), .list numsA, .list [.fl (tk (32 :: tx i1)), .fl (tk (32 :: tx i2)), .fl (tk (32 :: tx i3))], .list numsA, .cell (some (.ref 23)), .dict wysA]) := dCall1 (x := .obj 18) rfl (lostF h1 h2 h3 rfl rfl rfl)
      unfold dIt; rw [e]
    refine dAsg_eq (dCmp_eq hit (es := [some (.ref 22)]) rfl (c3_run x0 x1 x2 x3 x4 x5 x6 x7 x8 x9 x10 x11 x12 x13 x14 x15 x16 x17 (tk (32 :: tx i1)) (tk (32 :: tx i2)) (tk (32 :: tx i3)) (go_kind i1 h1) (go_kind i2 h2) (go_kind i3 h3))) rfl
  have p4 : dSetA true c4R (dN 0) ε3R ([x0, x1, x2, x3, x4, x5, x6, x7, x8, x9, x10, x11, x12, x13, x14, x15, x16, x17, .prog (.ref 19) (.ref 20), .list numsA, .list [.fl (tk (32 :: tx i1)), .fl (tk (32 :: tx i2)), .fl (tk (32 :: tx i3))], .list numsA, .cell (some (.ref 23)), .dict wysA, .list (lostR i1 i2 i3)]) = some (.next, ε3R, [x0, x1, x2, x3, x4, x5, x6, x7, x8, x9, x10, x11, x12, x13, x14, x15, x16, x17, .prog (.ref 19) (.ref 25), .list numsA, .list [.fl (tk (32 :: tx i1)), .fl (tk (32 :: tx i2)), .fl (tk (32 :: tx i3))], .list numsA, .cell (some (.ref 23)), .dict wysA, .list (lostR i1 i2 i3), .list [.fl (tk (lt i1)), .fl (tk (lt i2)), .fl (tk (lt i3))]]) := by
    have hc : c4R ε3R ([x0, x1, x2, x3, x4, x5, x6, x7, x8, x9, x10, x11, x12, x13, x14, x15, x16, x17, .prog (.ref 19) (.ref 20), .list numsA, .list [.fl (tk (32 :: tx i1)), .fl (tk (32 :: tx i2)), .fl (tk (32 :: tx i3))], .list numsA, .cell (some (.ref 23)), .dict wysA, .list (lostR i1 i2 i3)]) = some (.ref 25, [x0, x1, x2, x3, x4, x5, x6, x7, x8, x9, x10, x11, x12, x13, x14, x15, x16, x17, .prog (.ref 19) (.ref 20), .list numsA, .list [.fl (tk (32 :: tx i1)), .fl (tk (32 :: tx i2)), .fl (tk (32 :: tx i3))], .list numsA, .cell (some (.ref 23)), .dict wysA, .list (lostR i1 i2 i3), .list [.fl (tk (lt i1)), .fl (tk (lt i2)), .fl (tk (lt i3))]]) := by
      show dCmp 200 (dIt (dAttr true (dN 0))) (dSto (0, false)) none (dCall F_led_row [dN 0, dX 1]) 1 [5] ε3R _ = _
      refine dCmp_eq (G := .own 20) (σ₁ := [x0, x1, x2, x3, x4, x5, x6, x7, x8, x9, x10, x11, x12, x13, x14, x15, x16, x17, .prog (.ref 19) (.ref 20), .list numsA, .list [.fl (tk (32 :: tx i1)), .fl (tk (32 :: tx i2)), .fl (tk (32 :: tx i3))], .list numsA, .cell (some (.ref 23)), .dict wysA, .list (lostR i1 i2 i3)]) rfl (es := [some (.ref 22)]) rfl ?_
      refine cmp_step (f := 199) (x := .fl (tk (32 :: tx i1))) rfl rfl (dCall2 (x := .fl (tk (32 :: tx i1))) (y := .ref 23) rfl rfl (ledF h1 rfl)) (app_own (ys := []) rfl (by decide)) ?_
      refine cmp_step (f := 198) (x := .fl (tk (32 :: tx i2))) rfl rfl (dCall2 (x := .fl (tk (32 :: tx i2))) (y := .ref 23) rfl rfl (ledF h2 rfl)) (app_own (ys := [.fl (tk (lt i1))]) rfl (by simp)) ?_
      refine cmp_step (f := 197) (x := .fl (tk (32 :: tx i3))) rfl rfl (dCall2 (x := .fl (tk (32 :: tx i3))) (y := .ref 23) rfl rfl (ledF h3 rfl)) (app_own (ys := [.fl (tk (lt i1)), .fl (tk (lt i2))]) rfl (by simp)) ?_
      exact cmp_end (f := 196) rfl
    exact dSetA_eq hc (o := .obj 18) rfl rfl
  have p5 := s56_ok x0 x1 x2 x3 x4 x5 x6 x7 x8 x9 x10 x11 x12 x13 x14 x15 x16 x17 (tk (32 :: tx i1)) (tk (32 :: tx i2)) (tk (32 :: tx i3)) [.fl (tk (lt i1)), .fl (tk (lt i2)), .fl (tk (lt i3))] (lostR i1 i2 i3)
  show (match D_renumber ε0R ([x0, x1, x2, x3, x4, x5, x6, x7, x8, x9, x10, x11, x12, x13, x14, x15, x16, x17, .prog (.ref 19) (.ref 20), .list numsA, .list [.fl (tk (32 :: tx i1)), .fl (tk (32 :: tx i2)), .fl (tk (32 :: tx i3))], .list numsA, .cell none]) with | some (fl, _, σ') => some (retV fl, σ') | none => none) = _
  rw [renum_shape, dSeq_next p1, dSeq_next p2, dSeq_next p3, dSeq_next p4, p5]
  rfl
end Rn

namespace Rn
open PySem PySem.Spec PySem.Calls PyProof.Rows PySem.W

/-! the crumbs -/
noncomputable def absI (x : Int) : Int := if x < 0 then -x else x
noncomputable def absD : EDen := dCall fAbs [dCall fInt [dN 0]]
theorem abs_run (cs : List Int) (hc : cs.length ≤ 100) : ∀ (m k f : Nat) (e : Option AV), cs.length = k + m → m < f → dCmpL (Itr.own 0).get (dSto (0, false)) none absD 1 f k [e] [.list (cs.map .int), .list ((cs.take k).map fun x => .int (absI x))] = some [.list (cs.map .int), .list (cs.map fun x => .int (absI x))]
  | _, _, 0, _, _, h => absurd h (Nat.not_lt_zero _)
  | 0, k, f + 1, e, hl, _ => by
    have hk : cs.take k = cs := List.take_of_length_le (by omega)
    rw [hk]
    refine cmp_end ?_
    show some (cs.map AV.int)[k]? = some none
    rw [List.getElem?_eq_none (by rw [List.length_map]; omega)]
  | m + 1, k, f + 1, e, hl, hf => by
    have hk : k < cs.length := by omega
    refine cmp_step (x := .int cs[k]) (ε₁ := [some (.int cs[k])]) (y := .int (absI cs[k])) (σ₃ := [.list (cs.map .int), .list ((cs.take (k + 1)).map fun x => .int (absI x))]) ?_ rfl rfl ?_ (abs_run cs hc m (k + 1) f _ (by omega) (by omega))
    · show some (cs.map AV.int)[k]? = _
      rw [List.getElem?_map, List.getElem?_eq_getElem hk]
      rfl
    · rw [app_own (ys := (cs.take k).map fun x => .int (absI x)) rfl (by rw [List.length_map, List.length_take]; omega)]
      show some (AV.none, [AO.list (cs.map AV.int), AO.list ((cs.take k).map (fun x => AV.int (absI x)) ++ [AV.int (absI cs[k])])]) = _
      rw [List.take_add_one, List.getElem?_eq_getElem hk, List.map_append]
      rfl
theorem absI_nonneg (x : Int) : 0 ≤ absI x := by unfold absI; split <;> omega
theorem cut12 (ns : List Int) : cutOf none (some 12) (ns.map AV.int) = (ns.take 12).map AV.int := by
  rw [cutOf_eq]
  simp only [Option.elim, List.drop_zero, Nat.sub_zero]
  rw [← List.map_take]
  congr 1
  have h : clipAt (ns.map AV.int).length 12 = min 12 ns.length := by
    rw [← clp_eq, List.length_map]
    show (match Nat.ble 12 ns.length with | true => 12 | false => ns.length) = _
    cases hb : Nat.ble 12 ns.length with
    | true => have := Nat.le_of_ble_eq_true hb; simp only; omega
    | false =>
      have : ¬ 12 ≤ ns.length := fun h => by rw [Nat.ble_eq_true_of_le h] at hb; cases hb
      simp only; omega
  rw [h]
  rw [List.take_eq_take_iff]
  omega
noncomputable def st1L : SDen := dAsg (1, false) (dLst [dCmp 200 (dIt (dSl (dN 0) none (some (dC (.int 12))))) (dSto (0, false)) none absD 1 [], dC (.int 0)])
noncomputable def st2L : SDen := dAsT true [(4, false), (3, false), (2, false)] (dTup [dLst [], dLst [], dLst []])
noncomputable def st3L : SDen := dFor 200 (dIt (dTup [dC (.int 10), dC (.int 20), dC (.int 30)])) (dSto (5, false)) bodyL
noncomputable def rt8 : EDen := dAnd [d2 fEq (dN 10) (dN 4), d2 fEq (dAttr false (dN 9)) (dLst [dC (.int 100), dC (.int 110), dC (.int 120)]), d2 fEq (dAttr true (dN 9)) (dN 3)]
noncomputable def st6L : SDen := dIfS (tV (d2 fNe (dAttr false (dN 9)) (dLst [dC (.int 10), dC (.int 20), dC (.int 30)]))) (dSeq (dRet (dC (.bool false))) (dEnd)) (dEnd)
theorem law_shape : D_law = dSeq st1L (dSeq st2L (dSeq st3L (dSeq (dAsg (9, false) (dCall F_Program [])) (dSeq (dExp (dCall F_enter_all [dN 9, dMeth okStr fJoin (dC (.str [10])) [dN 2]])) (dSeq st6L (dSeq (dAsg (10, false) (dCall F_renumber [dN 9, dC (.int 100), dC (.int 0), dC (.int 10)])) (dSeq (dRet rt8) (dEnd)))))))) := rfl
theorem first (ns : List Int) (h : ns.length ≤ 63) : ∃ cs cr : List Int, cr.length ≤ 12 ∧ (∀ x ∈ cr, 0 ≤ x) ∧
    st1L (frameL ns) [] = some (.next, [some (.fl (ns.map .int)), some (.ref 2), none, none, none, none, none, none, none, none, none], [.list (cs.map .int), .list (cr.map .int), .list [.ref 1, .int 0]]) := by
  refine ⟨ns.take 12, (ns.take 12).map absI, by simp; omega, fun x hx => ?_, ?_⟩
  · obtain ⟨y, _, rfl⟩ := List.mem_map.mp hx
    exact absI_nonneg y
  · have e1 : dSl (dN 0) none (some (dC (.int 12))) (frameL ns) [] = some (.ref 0, [.list ((ns.take 12).map .int)]) := by
      show (match lim (ns.map AV.int).length with
            | true => some (AV.ref 0, [AO.list (cutOf none (some 12) (ns.map AV.int))])
            | false => none) = _
      rw [limOk (by rw [List.length_map]; omega), cut12]
    have e2 : dIt (dSl (dN 0) none (some (dC (.int 12)))) (frameL ns) [] = some (.own 0, [.list ((ns.take 12).map .int)]) := by
      unfold dIt; rw [e1]; rfl
    have e3 := abs_run (ns.take 12) (by rw [List.length_take]; omega) (ns.take 12).length 0 200 none (by omega) (by rw [List.length_take]; omega)
    have e4 : dCmp 200 (dIt (dSl (dN 0) none (some (dC (.int 12))))) (dSto (0, false)) none absD 1 [] (frameL ns) [] = some (.ref 1, [.list ((ns.take 12).map .int), .list ((ns.take 12).map fun x => .int (absI x))]) :=
      dCmp_eq e2 (es := []) rfl e3
    refine dAsg_eq (a := .ref 2) (σ₁ := [.list ((ns.take 12).map .int), .list (((ns.take 12).map absI).map .int), .list [.ref 1, .int 0]]) ?_ rfl
    unfold dLst
    rw [dL2 e4 (y := .int 0) rfl, List.map_map]
    rfl
theorem LS.put {cr : List Int} {cnt L : Nat} {ty du lo : List AV} {ε : Rε} {σ : List AO} (S : LS cr cnt ty du lo L ε σ) (x : Option AV) : LS cr cnt ty du lo L (ε.set 5 x) σ :=
  ⟨by rw [List.getElem?_set_ne (by decide)]; exact S.e1, by rw [List.getElem?_set_ne (by decide)]; exact S.e2, by rw [List.getElem?_set_ne (by decide)]; exact S.e3, by rw [List.getElem?_set_ne (by decide)]; exact S.e4, by rw [List.length_set]; exact S.el, S.s1, S.s2, S.s3, S.s4, S.sL, S.hL⟩
theorem LS.at5 {cr : List Int} {cnt L : Nat} {ty du lo : List AV} {ε : Rε} {σ : List AO} (S : LS cr cnt ty du lo L ε σ) (x : Option AV) : (ε.set 5 x)[5]? = some x := List.getElem?_set_self (by rw [S.el]; decide)
theorem lostD_len {num : Int} (i : Nat) (h : i < 16) : (lostD num (go i)).length ≤ 1 := by rcases go_kind i h with e | ⟨k, e⟩ <;> rw [e] <;> simp [lostD]
theorem loop (cs cr : List Int) (hcr : cr.length ≤ 12) (hp : ∀ x ∈ cr, 0 ≤ x) (e0 : Option AV) :
    ∃ i1 i2 i3 s1 s2 s3 b1 b2 b3 ε σ, i1 < 16 ∧ i2 < 16 ∧ i3 < 16 ∧ s1 ∈ seps ∧ s2 ∈ seps ∧ s3 ∈ seps ∧ b1 ∈ [[], [9], [32, 32]] ∧ b2 ∈ [[], [9], [32, 32]] ∧ b3 ∈ [[], [9], [32, 32]] ∧
      st3L [e0, some (.ref 2), some (.ref 3), some (.ref 4), some (.ref 5), none, none, none, none, none, none] [.list (cs.map .int), .list (cr.map .int), .list [.ref 1, .int 0], .list [], .list [], .list []] = some (.next, ε, σ) ∧ σ.length = 18 ∧
      LS cr 9 ((six s1 b1 s2 b2 s3 b3 i1 i2 i3).map .str) [.fl (tk (lt i1)), .fl (tk (lt i2)), .fl (tk (lt i3))] (lostR i1 i2 i3) 17 ε σ := by
  have S0 : LS cr 0 [] [] [] 5 [e0, some (.ref 2), some (.ref 3), some (.ref 4), some (.ref 5), none, none, none, none, none, none] [.list (cs.map .int), .list (cr.map .int), .list [.ref 1, .int 0], .list [], .list [], .list []] :=
    ⟨rfl, rfl, rfl, rfl, rfl, rfl, rfl, rfl, rfl, rfl, by decide⟩
  obtain ⟨i1, s1, b1, ε1, σ1, h1, g1, k1, t1, S1, l1⟩ := turn (num := 10) (dg := [49, 48]) (S0.put (some (.int 10))) (S0.at5 _) (fun _ => rfl) (by decide) hcr hp (by decide) (by decide) (by decide) (by decide)
  have L1 := lostD_len (num := 10) i1 h1
  obtain ⟨i2, s2, b2, ε2, σ2, h2, g2, k2, t2, S2, l2⟩ := turn (num := 20) (dg := [50, 48]) (S1.put (some (.int 20))) (S1.at5 _) (fun _ => rfl) (by decide) hcr hp (by decide) (by simp) (by simp) (by simp; omega)
  have L2 := lostD_len (num := 20) i2 h2
  obtain ⟨i3, s3, b3, ε3, σ3, h3, g3, k3, t3, S3, l3⟩ := turn (num := 30) (dg := [51, 48]) (S2.put (some (.int 30))) (S2.at5 _) (fun _ => rfl) (by decide) hcr hp (by decide) (by simp) (by simp) (by simp; omega)
  have l1' : σ1.length = 10 := l1
  have l2' : σ2.length = 14 := by rw [l2, l1']
  refine ⟨i1, i2, i3, s1, s2, s3, b1, b2, b3, ε3, σ3, h1, h2, h3, g1, g2, g3, k1, k2, k3, ?_, by rw [l3, l2'], ?_⟩
  · unfold st3L dFor
    show dForL (Itr.vals [.int 10, .int 20, .int 30]).get (dSto (5, false)) bodyL 200 0 _ _ = _
    refine for_step (f := 199) rfl rfl t1 ?_
    refine for_step (f := 198) rfl rfl t2 ?_
    refine for_step (f := 197) rfl rfl t3 ?_
    exact for_end (f := 196) rfl
  · rw [l2'] at S3
    exact S3
theorem eq_same {σ : List AO} {i j : Nat} {ys : List AV} {ds : List PyData} (hi : σ[i]? = some (.list ys)) (hj : σ[j]? = some (.list ys)) (hd : pds0 ys = some ds) (hok : okPd (.list ds) = true) : fEq (.ref i) (.ref j) σ = some (.bool true, σ) := by
  have p : ∀ k : Nat, σ[k]? = some (.list ys) → pd σ (.ref k) = some (.list ds) := by
    intro k hk
    show (match items σ (.ref k) with
      | some xs => (match pds0 xs with
        | some ds => some (PyData.list ds)
        | none => none)
      | none => none) = _
    rw [items_own hk]
    simp only [hd]
  show (match pd σ (.ref i), pd σ (.ref j) with
    | some d, some e => (match okPd d && okPd e with
      | true => some (AV.bool (d.eqv e), σ)
      | false => none)
    | _, _ => none) = _
  rw [p i hi, p j hj]
  simp only [hok, Bool.and_self]
  rw [SeqAt.eqv_refl _ (SeqAt.canLay_of_shaped hok)]
theorem lost_pd {i1 i2 i3 : Nat} (h1 : i1 < 16) (h2 : i2 < 16) (h3 : i3 < 16) : ∃ ds, pds0 (lostR i1 i2 i3) = some ds ∧ okPd (.list ds) = true := by
  have : ∀ g1 g2 g3 : AV, (g1 = .none ∨ ∃ k, g1 = .int k) → (g2 = .none ∨ ∃ k, g2 = .int k) → (g3 = .none ∨ ∃ k, g3 = .int k) → ∃ ds, pds0 ([] ++ lostD 10 g1 ++ lostD 20 g2 ++ lostD 30 g3) = some ds ∧ okPd (.list ds) = true := by
    intro g1 g2 g3 h1 h2 h3
    rcases h1 with rfl | ⟨k1, rfl⟩ <;> rcases h2 with rfl | ⟨k2, rfl⟩ <;> rcases h3 with rfl | ⟨k3, rfl⟩ <;> exact ⟨_, rfl, by kernel_rfl⟩
  exact this _ _ _ (go_kind i1 h1) (go_kind i2 h2) (go_kind i3 h3)
noncomputable def pdB (i : Nat) : Bool := match pd0 (.fl (tkL i)) with
  | some d => d.canLay0 && Nat.ble d.depth 10
  | none => false
theorem pd_row (i : Nat) (h : i < 16) : ∃ d, pd0 (.fl (tk (lt i))) = some d ∧ d.canLay0 = true ∧ d.depth ≤ 10 := by
  rw [tkL_eq i h]
  have := all_lt (n := 16) (p := pdB) (by kernel_rfl) i h
  unfold pdB at this
  split at this
  · rename_i d hd
    rw [Bool.and_eq_true] at this
    exact ⟨d, hd, this.1, Nat.le_of_ble_eq_true this.2⟩
  · cases this
theorem rows_pd {i1 i2 i3 : Nat} (h1 : i1 < 16) (h2 : i2 < 16) (h3 : i3 < 16) : ∃ ds, pds0 [.fl (tk (lt i1)), .fl (tk (lt i2)), .fl (tk (lt i3))] = some ds ∧ okPd (.list ds) = true := by
  obtain ⟨d1, a1, c1, e1⟩ := pd_row i1 h1
  obtain ⟨d2, a2, c2, e2⟩ := pd_row i2 h2
  obtain ⟨d3, a3, c3, e3⟩ := pd_row i3 h3
  refine ⟨[d1, d2, d3], ?_, ?_⟩
  · rw [pds0, a1]; simp only
    rw [pds0, a2]; simp only
    rw [pds0, a3]; rfl
  · unfold okPd SeqAt.shaped
    have hd : max d1.depth (max d2.depth (max d3.depth 0)) + 1 ≤ 64 := by omega
    simp only [PyData.canLay0, PyData.canLayAll0, PyData.depth, PyData.depthAll, c1, c2, c3, Bool.and_self, Bool.true_and]
    exact decide_eq_true hd
theorem st6_ok (x0 x1 x2 x3 x4 x5 x6 x7 x8 x9 x10 x11 x12 x13 x14 x15 x16 x17 : AO) (r1 r2 r3 : List AV) {ε : Rε} (h9 : ε[9]? = some (some (.obj 18))) : st6L ε (S21 x0 x1 x2 x3 x4 x5 x6 x7 x8 x9 x10 x11 x12 x13 x14 x15 x16 x17 numsA [.fl r1, .fl r2, .fl r3]) = some (.next, ε, [x0, x1, x2, x3, x4, x5, x6, x7, x8, x9, x10, x11, x12, x13, x14, x15, x16, x17, .prog (.ref 19) (.ref 20), .list numsA, .list [.fl r1, .fl r2, .fl r3], .list numsA]) := by
  have e1 : dAttr false (dN 9) ε (S21 x0 x1 x2 x3 x4 x5 x6 x7 x8 x9 x10 x11 x12 x13 x14 x15 x16 x17 numsA [.fl r1, .fl r2, .fl r3]) = some (.ref 19, S21 x0 x1 x2 x3 x4 x5 x6 x7 x8 x9 x10 x11 x12 x13 x14 x15 x16 x17 numsA [.fl r1, .fl r2, .fl r3]) := by
    unfold dAttr; rw [dN_eq h9]; rfl
  have e2 : fNe (.ref 19) (.ref 21) [x0, x1, x2, x3, x4, x5, x6, x7, x8, x9, x10, x11, x12, x13, x14, x15, x16, x17, .prog (.ref 19) (.ref 20), .list numsA, .list [.fl r1, .fl r2, .fl r3], .list numsA] = some (.bool false, [x0, x1, x2, x3, x4, x5, x6, x7, x8, x9, x10, x11, x12, x13, x14, x15, x16, x17, .prog (.ref 19) (.ref 20), .list numsA, .list [.fl r1, .fl r2, .fl r3], .list numsA]) := by kernel_rfl
  exact dIfS_f (tV_eq (b := false) (d2_eq e1 (y := .ref 21) (σ₂ := [x0, x1, x2, x3, x4, x5, x6, x7, x8, x9, x10, x11, x12, x13, x14, x15, x16, x17, .prog (.ref 19) (.ref 20), .list numsA, .list [.fl r1, .fl r2, .fl r3], .list numsA]) rfl e2)) rfl
theorem and3 {a b c : EDen} {ε : Rε} {σ σ₁ σ₂ σ₃ : List AO} (h1 : a ε σ = some (.bool true, σ₁)) (h2 : b ε σ₁ = some (.bool true, σ₂)) (h3 : c ε σ₂ = some (.bool true, σ₃)) : dAnd [a, b, c] ε σ = some (.bool true, σ₃) := by
  unfold dAnd; rw [h1]; simp only
  unfold dAnd; rw [h2]; simp only
  unfold dAnd; exact h3
theorem fin_ok (x0 x1 x2 x3 x4 x5 x6 x7 x8 x9 x10 x11 x12 x13 x14 x15 x16 x17 : AO) (rows lo rs typ : List AV) (h3 : x3 = .list typ) (h4 : x4 = .list rs) (h17 : x17 = .list lo) {ds es : List PyData} (hd : pds0 lo = some ds) (hdk : okPd (.list ds) = true) (he : pds0 rs = some es) (hek : okPd (.list es) = true)
    {ε : Rε} (e3 : ε[3]? = some (some (.ref 4))) (e4 : ε[4]? = some (some (.ref 17))) (e9 : ε[9]? = some (some (.obj 18))) (e10 : ε[10]? = some (some (.ref 24))) :
    ∃ σ', rt8 ε [x0, x1, x2, x3, x4, x5, x6, x7, x8, x9, x10, x11, x12, x13, x14, x15, x16, x17, .prog (.fl newsA) (.ref 25), .list numsA, .list rows, .list numsA, .cell (some (.ref 23)), .dict wysA, .list lo, .list rs] = some (.bool true, σ') := by
  subst h3 h4 h17
  have a1 : d2 fEq (dN 10) (dN 4) ε [x0, x1, x2, .list typ, .list rs, x5, x6, x7, x8, x9, x10, x11, x12, x13, x14, x15, x16, .list lo, .prog (.fl newsA) (.ref 25), .list numsA, .list rows, .list numsA, .cell (some (.ref 23)), .dict wysA, .list lo, .list rs] = some (.bool true, [x0, x1, x2, .list typ, .list rs, x5, x6, x7, x8, x9, x10, x11, x12, x13, x14, x15, x16, .list lo, .prog (.fl newsA) (.ref 25), .list numsA, .list rows, .list numsA, .cell (some (.ref 23)), .dict wysA, .list lo, .list rs]) :=
    d2_eq (dN_eq e10) (dN_eq e4) (eq_same (ys := lo) rfl rfl hd hdk)
  have a2 : d2 fEq (dAttr false (dN 9)) (dLst [dC (.int 100), dC (.int 110), dC (.int 120)]) ε [x0, x1, x2, .list typ, .list rs, x5, x6, x7, x8, x9, x10, x11, x12, x13, x14, x15, x16, .list lo, .prog (.fl newsA) (.ref 25), .list numsA, .list rows, .list numsA, .cell (some (.ref 23)), .dict wysA, .list lo, .list rs] = some (.bool true, [x0, x1, x2, .list typ, .list rs, x5, x6, x7, x8, x9, x10, x11, x12, x13, x14, x15, x16, .list lo, .prog (.fl newsA) (.ref 25), .list numsA, .list rows, .list numsA, .cell (some (.ref 23)), .dict wysA, .list lo, .list rs, .list newsA]) := by
    have b1 : dAttr false (dN 9) ε [x0, x1, x2, .list typ, .list rs, x5, x6, x7, x8, x9, x10, x11, x12, x13, x14, x15, x16, .list lo, .prog (.fl newsA) (.ref 25), .list numsA, .list rows, .list numsA, .cell (some (.ref 23)), .dict wysA, .list lo, .list rs] = some (.fl newsA, [x0, x1, x2, .list typ, .list rs, x5, x6, x7, x8, x9, x10, x11, x12, x13, x14, x15, x16, .list lo, .prog (.fl newsA) (.ref 25), .list numsA, .list rows, .list numsA, .cell (some (.ref 23)), .dict wysA, .list lo, .list rs]) := by
      unfold dAttr; rw [dN_eq e9]; rfl
    refine d2_eq b1 (y := .ref 26) (σ₂ := [x0, x1, x2, .list typ, .list rs, x5, x6, x7, x8, x9, x10, x11, x12, x13, x14, x15, x16, .list lo, .prog (.fl newsA) (.ref 25), .list numsA, .list rows, .list numsA, .cell (some (.ref 23)), .dict wysA, .list lo, .list rs, .list newsA]) rfl ?_
    kernel_rfl
  have a3 : d2 fEq (dAttr true (dN 9)) (dN 3) ε [x0, x1, x2, .list typ, .list rs, x5, x6, x7, x8, x9, x10, x11, x12, x13, x14, x15, x16, .list lo, .prog (.fl newsA) (.ref 25), .list numsA, .list rows, .list numsA, .cell (some (.ref 23)), .dict wysA, .list lo, .list rs, .list newsA] = some (.bool true, [x0, x1, x2, .list typ, .list rs, x5, x6, x7, x8, x9, x10, x11, x12, x13, x14, x15, x16, .list lo, .prog (.fl newsA) (.ref 25), .list numsA, .list rows, .list numsA, .cell (some (.ref 23)), .dict wysA, .list lo, .list rs, .list newsA]) := by
    have b1 : dAttr true (dN 9) ε [x0, x1, x2, .list typ, .list rs, x5, x6, x7, x8, x9, x10, x11, x12, x13, x14, x15, x16, .list lo, .prog (.fl newsA) (.ref 25), .list numsA, .list rows, .list numsA, .cell (some (.ref 23)), .dict wysA, .list lo, .list rs, .list newsA] = some (.ref 25, [x0, x1, x2, .list typ, .list rs, x5, x6, x7, x8, x9, x10, x11, x12, x13, x14, x15, x16, .list lo, .prog (.fl newsA) (.ref 25), .list numsA, .list rows, .list numsA, .cell (some (.ref 23)), .dict wysA, .list lo, .list rs, .list newsA]) := by
      unfold dAttr; rw [dN_eq e9]; rfl
    exact d2_eq b1 (dN_eq e3) (eq_same (ys := rs) rfl rfl he hek)
  exact ⟨_, and3 a1 a2 a3⟩
theorem strs_six (ts : List (List Nat)) : strsOf (ts.map AV.str) = some ts := by
  induction ts with
  | nil => rfl
  | cons t ts ih => simp only [List.map_cons, strsOf, ih]
/-- the law's plain meaning: True -/
theorem law_plain (ns : List Int) (h : ns.length ≤ 63) : ∃ ε' σ', D_law (frameL ns) [] = some (.ret (.bool true), ε', σ') := by
  obtain ⟨cs, cr, hcr, hp, F1⟩ := first ns h
  obtain ⟨i1, i2, i3, s1, s2, s3, b1, b2, b3, ε, σ, h1, h2, h3, g1, g2, g3, k1, k2, k3, F3, hl, S⟩ := loop cs cr hcr hp (some (.fl (ns.map .int)))
  obtain ⟨x0, x1, x2, x3, x4, x5, x6, x7, x8, x9, x10, x11, x12, x13, x14, x15, x16, x17, rfl⟩ := lit18 hl
  have q3 : x3 = .list ((six s1 b1 s2 b2 s3 b3 i1 i2 i3).map .str) := Option.some.inj S.s3
  have q4 : x4 = .list [.fl (tk (lt i1)), .fl (tk (lt i2)), .fl (tk (lt i3))] := Option.some.inj S.s4
  have q17 : x17 = .list (lostR i1 i2 i3) := Option.some.inj S.sL
  have el := S.el
  have F4 : dAsg (9, false) (dCall F_Program []) ε [x0, x1, x2, x3, x4, x5, x6, x7, x8, x9, x10, x11, x12, x13, x14, x15, x16, x17] = some (.next, ε.set 9 (some (.obj 18)), S21 x0 x1 x2 x3 x4 x5 x6 x7 x8 x9 x10 x11 x12 x13 x14 x15 x16 x17 [] []) := by
    refine dAsg_eq (a := .obj 18) ?_ rfl
    exact newP x0 x1 x2 x3 x4 x5 x6 x7 x8 x9 x10 x11 x12 x13 x14 x15 x16 x17
  generalize hε : ε.set 9 (some (.obj 18)) = ε₄ at F4
  have f9 : ε₄[9]? = some (some (.obj 18)) := by rw [← hε]; exact List.getElem?_set_self (by rw [el]; decide)
  have f2 : ε₄[2]? = some (some (.ref 3)) := by rw [← hε, List.getElem?_set_ne (by decide)]; exact S.e2
  have f3 : ε₄[3]? = some (some (.ref 4)) := by rw [← hε, List.getElem?_set_ne (by decide)]; exact S.e3
  have f4 : ε₄[4]? = some (some (.ref 17)) := by rw [← hε, List.getElem?_set_ne (by decide)]; exact S.e4
  have fl : ε₄.length = 11 := by rw [← hε, List.length_set]; exact el
  have F5 : dExp (dCall F_enter_all [dN 9, dMeth okStr fJoin (dC (.str [10])) [dN 2]]) ε₄ (S21 x0 x1 x2 x3 x4 x5 x6 x7 x8 x9 x10 x11 x12 x13 x14 x15 x16 x17 [] []) = some (.next, ε₄, S21 x0 x1 x2 x3 x4 x5 x6 x7 x8 x9 x10 x11 x12 x13 x14 x15 x16 x17 numsA [.fl (tk (32 :: tx i1)), .fl (tk (32 :: tx i2)), .fl (tk (32 :: tx i3))]) := by
    refine dExp_eq (dCall2 (dN_eq f9) (dMeth1 (x := .str [10]) rfl rfl (dN_eq f2) ?_) (enter_ok h1 h2 h3 g1 g2 g3 k1 k2 k3 x0 x1 x2 x3 x4 x5 x6 x7 x8 x9 x10 x11 x12 x13 x14 x15 x16 x17))
    have hi : items (S21 x0 x1 x2 x3 x4 x5 x6 x7 x8 x9 x10 x11 x12 x13 x14 x15 x16 x17 [] []) (.ref 3) = some ((six s1 b1 s2 b2 s3 b3 i1 i2 i3).map .str) := by rw [q3]; rfl
    show (match items (S21 x0 x1 x2 x3 x4 x5 x6 x7 x8 x9 x10 x11 x12 x13 x14 x15 x16 x17 [] []) (.ref 3) with
      | some ys => (match strsOf ys with
        | some ts => (match Nat.ble [10].length 16 && lim (total ts) with
          | true => some (AV.str (glue [10] ts), S21 x0 x1 x2 x3 x4 x5 x6 x7 x8 x9 x10 x11 x12 x13 x14 x15 x16 x17 [] [])
          | false => none)
        | none => none)
      | none => none) = _
    rw [hi]
    simp only [strs_six]
    rw [limOk (Nat.le_trans (six_total h1 h2 h3 g1 g2 g3 k1 k2 k3) (by decide))]
    rfl
  have F6 := st6_ok x0 x1 x2 x3 x4 x5 x6 x7 x8 x9 x10 x11 x12 x13 x14 x15 x16 x17 (tk (32 :: tx i1)) (tk (32 :: tx i2)) (tk (32 :: tx i3)) f9
  have F7 : dAsg (10, false) (dCall F_renumber [dN 9, dC (.int 100), dC (.int 0), dC (.int 10)]) ε₄ [x0, x1, x2, x3, x4, x5, x6, x7, x8, x9, x10, x11, x12, x13, x14, x15, x16, x17, .prog (.ref 19) (.ref 20), .list numsA, .list [.fl (tk (32 :: tx i1)), .fl (tk (32 :: tx i2)), .fl (tk (32 :: tx i3))], .list numsA]
      = some (.next, ε₄.set 10 (some (.ref 24)), [x0, x1, x2, x3, x4, x5, x6, x7, x8, x9, x10, x11, x12, x13, x14, x15, x16, x17, .prog (.fl newsA) (.ref 25), .list numsA, .list [.fl (tk (32 :: tx i1)), .fl (tk (32 :: tx i2)), .fl (tk (32 :: tx i3))], .list numsA, .cell (some (.ref 23)), .dict wysA, .list (lostR i1 i2 i3), .list [.fl (tk (lt i1)), .fl (tk (lt i2)), .fl (tk (lt i3))]]) := by
    refine dAsg_eq (a := .ref 24) ?_ rfl
    have := renum_ok x0 x1 x2 x3 x4 x5 x6 x7 x8 x9 x10 x11 x12 x13 x14 x15 x16 x17 h1 h2 h3
    unfold dCall dL
    rw [dN_eq f9]
    exact this
  obtain ⟨ds, hd, hdk⟩ := lost_pd h1 h2 h3
  obtain ⟨es, he, hek⟩ := rows_pd h1 h2 h3
  obtain ⟨σ', F8⟩ := fin_ok x0 x1 x2 x3 x4 x5 x6 x7 x8 x9 x10 x11 x12 x13 x14 x15 x16 x17 [.fl (tk (32 :: tx i1)), .fl (tk (32 :: tx i2)), .fl (tk (32 :: tx i3))] (lostR i1 i2 i3) [.fl (tk (lt i1)), .fl (tk (lt i2)), .fl (tk (lt i3))] _ q3 q4 q17 hd hdk he hek (ε := ε₄.set 10 (some (.ref 24)))
    (by rw [List.getElem?_set_ne (by decide)]; exact f3) (by rw [List.getElem?_set_ne (by decide)]; exact f4) (by rw [List.getElem?_set_ne (by decide)]; exact f9) (List.getElem?_set_self (by rw [fl]; decide))
  refine ⟨ε₄.set 10 (some (.ref 24)), σ', ?_⟩
  rw [law_shape, dSeq_next F1, dSeq_next (b := _) (show st2L _ _ = some (.next, [some (.fl (ns.map .int)), some (.ref 2), some (.ref 3), some (.ref 4), some (.ref 5), none, none, none, none, none, none], [.list (cs.map .int), .list (cr.map .int), .list [.ref 1, .int 0], .list [], .list [], .list []]) from rfl), dSeq_next F3, dSeq_next F4, dSeq_next F5, dSeq_next F6, dSeq_next F7]
  exact dSeq_ret (dRet_eq F8)
end Rn

open PySem PySem.W PyProof.Rows

namespace Rn
/-- where the defs lie -/
noncomputable def faT (i : Nat) : Addr := match i with | 8 => 43 | 9 => 48 | 10 => 55 | 11 => 62 | 12 => 69 | 13 => 76 | 14 => 83 | 18 => 111 | 19 => 118 | 24 => 147 | 25 => 154 | 26 => 161 | 27 => 168 | 28 => 175 | 29 => 182 | 30 => 187 | 31 => 194 | 32 => 199 | 33 => 204 | 34 => 211 | 35 => 216 | 37 => 223 | 38 => 230 | 23 => 133 | _ => 0
noncomputable def glT (w : World) (mean : ExcName → Option Value) (mg mb : Str → Option Value) (p : Program) (loose : List Str) (K : Frag) (X : Option (Addr × Obj)) : Gl := ⟨PySem.Challenge.rw_rh0269_02.row.prog, w, K, p, loose, mean, mg, mb, 136, X⟩

theorem well_list {P : Params} {h : Heap} {a : Addr} {xs : List WData} (w : Well P h (.ref a) (.list xs)) {vs : List Value} (hL : h.IsList a vs.toArray) : h.get? a = some { cls := .type "list", data := .seq vs.toArray } := by
  cases w with
  | list hg _ =>
    obtain ⟨o, ho, _, n, hd⟩ := hL
    rw [hg] at ho
    cases ho
    cases hd
    exact hg
end Rn

local macro_rules | `(tactic| k_qdec) => `(tactic| decide +kernel)
theorem PySem.Challenge.cw_rh0269_02_holds : PySem.Challenge.rw_rh0269_02.Holds := by
  w_on
  refine holds_law Rn.hwell fun said => ?_
  refine holds_open (q := Rn.vw) (loose := Rn.ls) (Xt := fun s => xlAt Rn.vw [] s && recOk (RowW.records PySem.Challenge.rw_rh0269_02.row.toRowW) s) (XP := XL Rn.vw []) (Yf := Hook.obs (kHook Rn.hk.heap_1 Rn.asK Rn.asK_eq)) (Ya := Hook.val (kHook Rn.hk.heap_1 Rn.asK Rn.asK_eq)) (YP := Hook.says (kHook Rn.hk.heap_1 Rn.asK Rn.asK_eq)) (N := 3002) Rn.hleft (Hook.of _) (Hook.keeps _) (fun s e => xl_of s (Bool.and_eq_true_iff.mp e).1) XL.keeps (by rfl) (by rfl) (by rfl) (fun s e => recFacts_of (Bool.and_eq_true_iff.mp e).2) (by rfl) said (by decide +kernel) ⟨rfl, rfl, rfl, rfl, rfl, by decide +kernel⟩ ?hw ?hc
  case hw => w_witness2
  k_fill
  intro w s₀ s₁ mg mb G Y fa o pm cd doc dV kV ho hdd hcd hD hmg hg args vals as hpre hlay hrd hwl hlo
  have KX := kIn_of Y
  have GK : ∀ XX, Rn.GOk (Rn.glT w (ExcName.means s₀.heap) mg mb Rn.vw (looseW Rn.vw Rn.ls) (Rn.hk.heap_1 w.params) XX) Rn.faT := fun XX => {
    cls := { get := (by show plainGet (Rn.hk.heap_1 w.params) 136 (Str.ofString "numbers") = true; k_is), dict := (by show hasDictIn (Rn.hk.heap_1 w.params) 136 = true; k_is), find := (by intro b; cases b; (show findIn (Rn.hk.heap_1 w.params) (.ref 136) (Str.ofString "numbers") = some Option.none; k_is); (show findIn (Rn.hk.heap_1 w.params) (.ref 136) (Str.ofString "rows") = some Option.none; k_is)), set := (by show findIn (Rn.hk.heap_1 w.params) (.ref 136) (Str.ofString "__setattr__") = _; k_is), over := (by show plainOver (Rn.hk.heap_1 w.params) 136 = true; k_is), taker := (by intro b; cases b; (show takerIn (Rn.hk.heap_1 w.params) 136 (Str.ofString "numbers") = some Option.none; k_is); (show takerIn (Rn.hk.heap_1 w.params) 136 (Str.ofString "rows") = some Option.none; k_is)) },
    babs := (by show nsIn (Rn.hk.heap_1 w.params) mainGlobals (Str.ofString "abs") = some Option.none; k_is),
    benumerate := (by show nsIn (Rn.hk.heap_1 w.params) mainGlobals (Str.ofString "enumerate") = some Option.none; k_is),
    bint := (by show nsIn (Rn.hk.heap_1 w.params) mainGlobals (Str.ofString "int") = some Option.none; k_is),
    blen := (by show nsIn (Rn.hk.heap_1 w.params) mainGlobals (Str.ofString "len") = some Option.none; k_is),
    blist := (by show nsIn (Rn.hk.heap_1 w.params) mainGlobals (Str.ofString "list") = some Option.none; k_is),
    bmin := (by show nsIn (Rn.hk.heap_1 w.params) mainGlobals (Str.ofString "min") = some Option.none; k_is),
    bord := (by show nsIn (Rn.hk.heap_1 w.params) mainGlobals (Str.ofString "ord") = some Option.none; k_is),
    brange := (by show nsIn (Rn.hk.heap_1 w.params) mainGlobals (Str.ofString "range") = some Option.none; k_is),
    bstr := (by show nsIn (Rn.hk.heap_1 w.params) mainGlobals (Str.ofString "str") = some Option.none; k_is),
    bzip := (by show nsIn (Rn.hk.heap_1 w.params) mainGlobals (Str.ofString "zip") = some Option.none; k_is),
    tBLANKS := Rn.tops_sc (by show nsIn (Rn.hk.heap_1 w.params) mainGlobals (Str.ofString "BLANKS") = _; k_is) (by kernel_rfl),
    tDIGITS := Rn.tops_sc (by show nsIn (Rn.hk.heap_1 w.params) mainGlobals (Str.ofString "DIGITS") = _; k_is) (by kernel_rfl),
    tGREATEST := Rn.tops_sc (by show nsIn (Rn.hk.heap_1 w.params) mainGlobals (Str.ofString "GREATEST") = _; k_is) (by kernel_rfl),
    tJUMPS := Rn.tops_tup (a := 119) (by show nsIn (Rn.hk.heap_1 w.params) mainGlobals (Str.ofString "JUMPS") = _; k_is) (by show List.lookup 119 (Rn.hk.heap_1 w.params) = _; k_is) (by kernel_rfl),
    tLETTERS := Rn.tops_sc (by show nsIn (Rn.hk.heap_1 w.params) mainGlobals (Str.ofString "LETTERS") = _; k_is) (by kernel_rfl),
    tMOST_NUMBER := Rn.tops_sc (by show nsIn (Rn.hk.heap_1 w.params) mainGlobals (Str.ofString "MOST_NUMBER") = _; k_is) (by kernel_rfl),
    tSIGNS := Rn.tops_list (a := 16) (by show nsIn (Rn.hk.heap_1 w.params) mainGlobals (Str.ofString "SIGNS") = _; k_is) (by show List.lookup 16 (Rn.hk.heap_1 w.params) = _; k_is) (by kernel_rfl),
    tWORDS := Rn.tops_list (a := 15) (by show nsIn (Rn.hk.heap_1 w.params) mainGlobals (Str.ofString "WORDS") = _; k_is) (by show List.lookup 15 (Rn.hk.heap_1 w.params) = _; k_is) (by kernel_rfl),
    fgreat_sign := { ns := (by show nsIn (Rn.hk.heap_1 w.params) mainGlobals (Str.ofString "great_sign") = some (some (.ref 43)); k_is), keep := (by show keepIn (Rn.hk.heap_1 w.params) (.ref 43) = true; k_is), dbg := (by kernel_rfl) },
    egreat_sign := (by refine ⟨_, _, _, _, _, _, _, _, _, _, _, _, _, (by show List.lookup 43 (Rn.hk.heap_1 w.params) = _; k_is), (by show codeIn (Rn.hk.heap_1 w.params) _ _ = true; k_is), ?_⟩; intro s vs h; obtain ⟨a, rfl⟩ := Rn.len1 h; exact BindsTo.of_eq rfl),
    fgreat_text := { ns := (by show nsIn (Rn.hk.heap_1 w.params) mainGlobals (Str.ofString "great_text") = some (some (.ref 48)); k_is), keep := (by show keepIn (Rn.hk.heap_1 w.params) (.ref 48) = true; k_is), dbg := (by kernel_rfl) },
    egreat_text := (by refine ⟨_, _, _, _, _, _, _, _, _, _, _, _, _, (by show List.lookup 48 (Rn.hk.heap_1 w.params) = _; k_is), (by show codeIn (Rn.hk.heap_1 w.params) _ _ = true; k_is), ?_⟩; intro s vs h; obtain ⟨a, rfl⟩ := Rn.len1 h; exact BindsTo.of_eq rfl),
    fword_at := { ns := (by show nsIn (Rn.hk.heap_1 w.params) mainGlobals (Str.ofString "word_at") = some (some (.ref 55)); k_is), keep := (by show keepIn (Rn.hk.heap_1 w.params) (.ref 55) = true; k_is), dbg := (by kernel_rfl) },
    eword_at := (by refine ⟨_, _, _, _, _, _, _, _, _, _, _, _, _, (by show List.lookup 55 (Rn.hk.heap_1 w.params) = _; k_is), (by show codeIn (Rn.hk.heap_1 w.params) _ _ = true; k_is), ?_⟩; intro s vs h; obtain ⟨a, b, rfl⟩ := Rn.len2 h; exact BindsTo.of_eq rfl),
    fsign_at := { ns := (by show nsIn (Rn.hk.heap_1 w.params) mainGlobals (Str.ofString "sign_at") = some (some (.ref 62)); k_is), keep := (by show keepIn (Rn.hk.heap_1 w.params) (.ref 62) = true; k_is), dbg := (by kernel_rfl) },
    esign_at := (by refine ⟨_, _, _, _, _, _, _, _, _, _, _, _, _, (by show List.lookup 62 (Rn.hk.heap_1 w.params) = _; k_is), (by show codeIn (Rn.hk.heap_1 w.params) _ _ = true; k_is), ?_⟩; intro s vs h; obtain ⟨a, b, rfl⟩ := Rn.len2 h; exact BindsTo.of_eq rfl),
    fbehind_blanks := { ns := (by show nsIn (Rn.hk.heap_1 w.params) mainGlobals (Str.ofString "behind_blanks") = some (some (.ref 69)); k_is), keep := (by show keepIn (Rn.hk.heap_1 w.params) (.ref 69) = true; k_is), dbg := (by kernel_rfl) },
    ebehind_blanks := (by refine ⟨_, _, _, _, _, _, _, _, _, _, _, _, _, (by show List.lookup 69 (Rn.hk.heap_1 w.params) = _; k_is), (by show codeIn (Rn.hk.heap_1 w.params) _ _ = true; k_is), ?_⟩; intro s vs h; obtain ⟨a, b, rfl⟩ := Rn.len2 h; exact BindsTo.of_eq rfl),
    fread_number := { ns := (by show nsIn (Rn.hk.heap_1 w.params) mainGlobals (Str.ofString "read_number") = some (some (.ref 76)); k_is), keep := (by show keepIn (Rn.hk.heap_1 w.params) (.ref 76) = true; k_is), dbg := (by kernel_rfl) },
    eread_number := (by refine ⟨_, _, _, _, _, _, _, _, _, _, _, _, _, (by show List.lookup 76 (Rn.hk.heap_1 w.params) = _; k_is), (by show codeIn (Rn.hk.heap_1 w.params) _ _ = true; k_is), ?_⟩; intro s vs h; obtain ⟨a, b, rfl⟩ := Rn.len2 h; exact BindsTo.of_eq rfl),
    fread_name := { ns := (by show nsIn (Rn.hk.heap_1 w.params) mainGlobals (Str.ofString "read_name") = some (some (.ref 83)); k_is), keep := (by show keepIn (Rn.hk.heap_1 w.params) (.ref 83) = true; k_is), dbg := (by kernel_rfl) },
    eread_name := (by refine ⟨_, _, _, _, _, _, _, _, _, _, _, _, _, (by show List.lookup 83 (Rn.hk.heap_1 w.params) = _; k_is), (by show codeIn (Rn.hk.heap_1 w.params) _ _ = true; k_is), ?_⟩; intro s vs h; obtain ⟨a, b, rfl⟩ := Rn.len2 h; exact BindsTo.of_eq rfl),
    fread_token := { ns := (by show nsIn (Rn.hk.heap_1 w.params) mainGlobals (Str.ofString "read_token") = some (some (.ref 111)); k_is), keep := (by show keepIn (Rn.hk.heap_1 w.params) (.ref 111) = true; k_is), dbg := (by kernel_rfl) },
    eread_token := (by refine ⟨_, _, _, _, _, _, _, _, _, _, _, _, _, (by show List.lookup 111 (Rn.hk.heap_1 w.params) = _; k_is), (by show codeIn (Rn.hk.heap_1 w.params) _ _ = true; k_is), ?_⟩; intro s vs h; obtain ⟨a, b, c, rfl⟩ := Rn.len3 h; exact BindsTo.of_eq rfl),
    ftokens_of := { ns := (by show nsIn (Rn.hk.heap_1 w.params) mainGlobals (Str.ofString "tokens_of") = some (some (.ref 118)); k_is), keep := (by show keepIn (Rn.hk.heap_1 w.params) (.ref 118) = true; k_is), dbg := (by kernel_rfl) },
    etokens_of := (by refine ⟨_, _, _, _, _, _, _, _, _, _, _, _, _, (by show List.lookup 118 (Rn.hk.heap_1 w.params) = _; k_is), (by show codeIn (Rn.hk.heap_1 w.params) _ _ = true; k_is), ?_⟩; intro s vs h; obtain ⟨a, rfl⟩ := Rn.len1 h; exact BindsTo.of_eq rfl),
    fplace_of := { ns := (by show nsIn (Rn.hk.heap_1 w.params) mainGlobals (Str.ofString "place_of") = some (some (.ref 147)); k_is), keep := (by show keepIn (Rn.hk.heap_1 w.params) (.ref 147) = true; k_is), dbg := (by kernel_rfl) },
    eplace_of := (by refine ⟨_, _, _, _, _, _, _, _, _, _, _, _, _, (by show List.lookup 147 (Rn.hk.heap_1 w.params) = _; k_is), (by show codeIn (Rn.hk.heap_1 w.params) _ _ = true; k_is), ?_⟩; intro s vs h; obtain ⟨a, b, rfl⟩ := Rn.len2 h; exact BindsTo.of_eq rfl),
    fhas_line := { ns := (by show nsIn (Rn.hk.heap_1 w.params) mainGlobals (Str.ofString "has_line") = some (some (.ref 154)); k_is), keep := (by show keepIn (Rn.hk.heap_1 w.params) (.ref 154) = true; k_is), dbg := (by kernel_rfl) },
    ehas_line := (by refine ⟨_, _, _, _, _, _, _, _, _, _, _, _, _, (by show List.lookup 154 (Rn.hk.heap_1 w.params) = _; k_is), (by show codeIn (Rn.hk.heap_1 w.params) _ _ = true; k_is), ?_⟩; intro s vs h; obtain ⟨a, b, rfl⟩ := Rn.len2 h; exact BindsTo.of_eq rfl),
    fput_line := { ns := (by show nsIn (Rn.hk.heap_1 w.params) mainGlobals (Str.ofString "put_line") = some (some (.ref 161)); k_is), keep := (by show keepIn (Rn.hk.heap_1 w.params) (.ref 161) = true; k_is), dbg := (by kernel_rfl) },
    eput_line := (by refine ⟨_, _, _, _, _, _, _, _, _, _, _, _, _, (by show List.lookup 161 (Rn.hk.heap_1 w.params) = _; k_is), (by show codeIn (Rn.hk.heap_1 w.params) _ _ = true; k_is), ?_⟩; intro s vs h; obtain ⟨a, b, c, rfl⟩ := Rn.len3 h; exact BindsTo.of_eq rfl),
    fsplit_number := { ns := (by show nsIn (Rn.hk.heap_1 w.params) mainGlobals (Str.ofString "split_number") = some (some (.ref 168)); k_is), keep := (by show keepIn (Rn.hk.heap_1 w.params) (.ref 168) = true; k_is), dbg := (by kernel_rfl) },
    esplit_number := (by refine ⟨_, _, _, _, _, _, _, _, _, _, _, _, _, (by show List.lookup 168 (Rn.hk.heap_1 w.params) = _; k_is), (by show codeIn (Rn.hk.heap_1 w.params) _ _ = true; k_is), ?_⟩; intro s vs h; obtain ⟨a, rfl⟩ := Rn.len1 h; exact BindsTo.of_eq rfl),
    fenter_row := { ns := (by show nsIn (Rn.hk.heap_1 w.params) mainGlobals (Str.ofString "enter_row") = some (some (.ref 175)); k_is), keep := (by show keepIn (Rn.hk.heap_1 w.params) (.ref 175) = true; k_is), dbg := (by kernel_rfl) },
    eenter_row := (by refine ⟨_, _, _, _, _, _, _, _, _, _, _, _, _, (by show List.lookup 175 (Rn.hk.heap_1 w.params) = _; k_is), (by show codeIn (Rn.hk.heap_1 w.params) _ _ = true; k_is), ?_⟩; intro s vs h; obtain ⟨a, b, rfl⟩ := Rn.len2 h; exact BindsTo.of_eq rfl),
    fenter_all := { ns := (by show nsIn (Rn.hk.heap_1 w.params) mainGlobals (Str.ofString "enter_all") = some (some (.ref 182)); k_is), keep := (by show keepIn (Rn.hk.heap_1 w.params) (.ref 182) = true; k_is), dbg := (by kernel_rfl) },
    eenter_all := (by refine ⟨_, _, _, _, _, _, _, _, _, _, _, _, _, (by show List.lookup 182 (Rn.hk.heap_1 w.params) = _; k_is), (by show codeIn (Rn.hk.heap_1 w.params) _ _ = true; k_is), ?_⟩; intro s vs h; obtain ⟨a, b, rfl⟩ := Rn.len2 h; exact BindsTo.of_eq rfl),
    ftargets := { ns := (by show nsIn (Rn.hk.heap_1 w.params) mainGlobals (Str.ofString "targets") = some (some (.ref 187)); k_is), keep := (by show keepIn (Rn.hk.heap_1 w.params) (.ref 187) = true; k_is), dbg := (by kernel_rfl) },
    etargets := (by refine ⟨_, _, _, _, _, _, _, _, _, _, _, _, _, (by show List.lookup 187 (Rn.hk.heap_1 w.params) = _; k_is), (by show codeIn (Rn.hk.heap_1 w.params) _ _ = true; k_is), ?_⟩; intro s vs h; obtain ⟨a, rfl⟩ := Rn.len1 h; exact BindsTo.of_eq rfl),
    fis_whole_target := { ns := (by show nsIn (Rn.hk.heap_1 w.params) mainGlobals (Str.ofString "is_whole_target") = some (some (.ref 194)); k_is), keep := (by show keepIn (Rn.hk.heap_1 w.params) (.ref 194) = true; k_is), dbg := (by kernel_rfl) },
    eis_whole_target := (by refine ⟨_, _, _, _, _, _, _, _, _, _, _, _, _, (by show List.lookup 194 (Rn.hk.heap_1 w.params) = _; k_is), (by show codeIn (Rn.hk.heap_1 w.params) _ _ = true; k_is), ?_⟩; intro s vs h; obtain ⟨a, b, rfl⟩ := Rn.len2 h; exact BindsTo.of_eq rfl),
    flost_targets := { ns := (by show nsIn (Rn.hk.heap_1 w.params) mainGlobals (Str.ofString "lost_targets") = some (some (.ref 199)); k_is), keep := (by show keepIn (Rn.hk.heap_1 w.params) (.ref 199) = true; k_is), dbg := (by kernel_rfl) },
    elost_targets := (by refine ⟨_, _, _, _, _, _, _, _, _, _, _, _, _, (by show List.lookup 199 (Rn.hk.heap_1 w.params) = _; k_is), (by show codeIn (Rn.hk.heap_1 w.params) _ _ = true; k_is), ?_⟩; intro s vs h; obtain ⟨a, rfl⟩ := Rn.len1 h; exact BindsTo.of_eq rfl),
    fnew_numbers := { ns := (by show nsIn (Rn.hk.heap_1 w.params) mainGlobals (Str.ofString "new_numbers") = some (some (.ref 204)); k_is), keep := (by show keepIn (Rn.hk.heap_1 w.params) (.ref 204) = true; k_is), dbg := (by kernel_rfl) },
    enew_numbers := (by refine ⟨_, _, _, _, _, _, _, _, _, _, _, _, _, (by show List.lookup 204 (Rn.hk.heap_1 w.params) = _; k_is), (by show codeIn (Rn.hk.heap_1 w.params) _ _ = true; k_is), ?_⟩; intro s vs h; obtain ⟨a, b, c, d, rfl⟩ := Rn.len4 h; exact BindsTo.of_eq rfl),
    fled_row := { ns := (by show nsIn (Rn.hk.heap_1 w.params) mainGlobals (Str.ofString "led_row") = some (some (.ref 211)); k_is), keep := (by show keepIn (Rn.hk.heap_1 w.params) (.ref 211) = true; k_is), dbg := (by kernel_rfl) },
    eled_row := (by refine ⟨_, _, _, _, _, _, _, _, _, _, _, _, _, (by show List.lookup 211 (Rn.hk.heap_1 w.params) = _; k_is), (by show codeIn (Rn.hk.heap_1 w.params) _ _ = true; k_is), ?_⟩; intro s vs h; obtain ⟨a, b, rfl⟩ := Rn.len2 h; exact BindsTo.of_eq rfl),
    frenumber := { ns := (by show nsIn (Rn.hk.heap_1 w.params) mainGlobals (Str.ofString "renumber") = some (some (.ref 216)); k_is), keep := (by show keepIn (Rn.hk.heap_1 w.params) (.ref 216) = true; k_is), dbg := (by kernel_rfl) },
    erenumber := (by refine ⟨_, _, _, _, _, _, _, _, _, _, _, _, _, (by show List.lookup 216 (Rn.hk.heap_1 w.params) = _; k_is), (by show codeIn (Rn.hk.heap_1 w.params) _ _ = true; k_is), ?_⟩; intro s vs h; obtain ⟨a, b, c, d, rfl⟩ := Rn.len4 h; exact BindsTo.of_eq rfl),
    flaw_rows := { ns := (by show nsIn (Rn.hk.heap_1 w.params) mainGlobals (Str.ofString "_law_rows") = some (some (.ref 223)); k_is), keep := (by show keepIn (Rn.hk.heap_1 w.params) (.ref 223) = true; k_is), dbg := (by kernel_rfl) },
    elaw_rows := (by refine ⟨_, _, _, _, _, _, _, _, _, _, _, _, _, (by show List.lookup 223 (Rn.hk.heap_1 w.params) = _; k_is), (by show codeIn (Rn.hk.heap_1 w.params) _ _ = true; k_is), ?_⟩; intro s vs h; obtain rfl := Rn.len0 h; exact BindsTo.of_eq rfl),
    flaw_skimmed := { ns := (by show nsIn (Rn.hk.heap_1 w.params) mainGlobals (Str.ofString "_law_skimmed") = some (some (.ref 230)); k_is), keep := (by show keepIn (Rn.hk.heap_1 w.params) (.ref 230) = true; k_is), dbg := (by kernel_rfl) },
    elaw_skimmed := (by refine ⟨_, _, _, _, _, _, _, _, _, _, _, _, _, (by show List.lookup 230 (Rn.hk.heap_1 w.params) = _; k_is), (by show codeIn (Rn.hk.heap_1 w.params) _ _ = true; k_is), ?_⟩; intro s vs h; obtain ⟨a, b, rfl⟩ := Rn.len2 h; exact BindsTo.of_eq rfl),
    fProgram := { ns := (by show nsIn (Rn.hk.heap_1 w.params) mainGlobals (Str.ofString "Program") = some (some (.ref 136)); k_is), keep := (by show keepIn (Rn.hk.heap_1 w.params) (.ref 136) = true; k_is), dbg := (by kernel_rfl) },
    einit := (by refine ⟨_, _, _, _, _, _, _, _, _, _, _, _, _, (by show List.lookup 133 (Rn.hk.heap_1 w.params) = _; k_is), (by show codeIn (Rn.hk.heap_1 w.params) _ _ = true; k_is), ?_⟩; intro s vs h; obtain ⟨a, rfl⟩ := Rn.len1 h; exact BindsTo.of_eq rfl),
    makes := (by show makesIn (Rn.hk.heap_1 w.params) 136 = true; k_is),
    findI := (by show findIn (Rn.hk.heap_1 w.params) (.ref 136) (Str.ofString "__init__") = some (some (.ref 133)); k_is),
    isI := (by show isFn (Rn.hk.heap_1 w.params) (.ref 133) = true; k_is) }

  k_behind G ho hdd hcd hD hmg hpre hlay hrd hwl hlo cd
  rename Top _ _ _ _ _ _ => T
  rename Below _ _ _ _ => KB
  rename Fr _ _ _ _ => F
  rename IntsAre _ _ => hI
  rename Heap.IsList _ _ _ => hL
  rename Well _ _ _ _ => wl
  have ha := Rn.well_list wl hL
  refine Rn.law_walk (GK (some (_, { cls := .type "list", data := .seq _ }))) (Rn.law_plain _ (by omega)) KB KX T rfl ha hI F rfl rfl rfl rfl rfl ?_
  intro m s' F' g' o'
  dsimp only
  refine ⟨.inl ⟨.bool true, .bool true, [], rfl, fun _ => rfl, .bool true, (by first | kernel_rfl | with_unfolding_all rfl), fun _ => ⟨List.nodup_nil, fun _ h => nomatch h⟩⟩, F'.keep, o', g'.trans hg⟩
